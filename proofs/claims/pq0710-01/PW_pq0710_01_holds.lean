import PyProof.Rows.All
import Wide.All
import OpenK.AllK
import KE.KDictSum
import KE.KSortKey
import KE.KItem
import Wide.FinOn
import Lean
import PySem.Challenge.RW_pq0710_01
set_option tactic.hygienic false
set_option Elab.async false
set_option genSizeOf false
set_option genInjectivity false
set_option genCtorIdx false
set_option bootstrap.genMatcherCode false
set_option backward.match.sparseCases false
set_option compiler.extract_closed false
set_option maxRecDepth 1000000
set_option maxHeartbeats 0
set_option linter.unusedVariables false
set_option linter.unusedSimpArgs false
namespace Mine.Internal
open PySem PySem.W PySem.Calls PyProof.Rows PySem.SeqAt
open _root_ renaming And.intro->Cc,Array->dS,Array.any_toList->P9,Array.getElem?_eq_none->IS,Array.getElem?_toList->yX,Array.getElem_toList->P_,Array.length_toList->hX,Array.mem_toList_iff->Cd,Array.mk->IT,Array.perm_iff_toList_perm->Qa,Array.size_push->Qb,Array.toArray_toList->IU,Array.toList_push->IV,Bool->ah,Bool.and_assoc->IY,Bool.and_eq_true->tR,Bool.and_eq_true_iff->aN,Bool.and_false->Qe,Bool.false_eq_true->Ce,Bool.false_ne_true->gK,Bool.false_or->Cf,Bool.noConfusion->mQ,Bool.not_eq_true'->wh,Bool.or_assoc->Qf,Bool.or_eq_true_iff->k_,Bool.or_false->qr,Bool.rec->bN,Bool.xor->qt,Decidable.byContradiction->Ql,DecidableEq->jw,Exists.elim->bw,False->dP,ForIn.forIn->sE,ForInStep->rG,ForInStep.yield->rH,Int->ba,Int.add_lt_add_right->Qs,Int.add_sub_cancel->I5,Int.eq_ofNat_of_zero_le->I6,Int.fdiv->I7,Int.fmod->o9,Int.le_of_eq->I8,Int.le_of_lt->rI,Int.le_refl->I9,Int.le_trans->wq,Int.lt_trans->rJ,Int.natCast_nonneg->Cn,Int.natCast_pos->I_,Int.negSucc_lt_zero->Qt,Int.ofNat->tW,Int.ofNat_le->Qu,Int.ofNat_lt->Qv,Int.toNat_natCast->Qw,Int.zero_add->Qx,LawfulBEq.eq_of_beq->pI,LawfulMonad.pure_bind->vK,List->G,List.Nodup.sublist->Co,List.all_cons->Qz,List.all_eq_true->l9,List.any_cons->qy,List.any_eq_false->zb,List.any_eq_true->zc,List.any_map->Cp,List.any_nil->QA,List.any_reverse->wx,List.append_assoc->l_,List.append_nil->h_,List.cons.inj->qz,List.cons_append->Je,List.cons_lt_cons_iff->QB,List.cons_ne_nil->QC,List.dropLast_eq_take->zd,List.drop_drop->QD,List.drop_nil->QE,List.drop_zero->Cq,List.eq_nil_of_length_eq_zero->Jf,List.eraseDups_cons->QF,List.ext_getElem->QG,List.filterMap_cons->ze,List.filter_append->QH,List.filter_cons->QI,List.filter_cons_of_pos->QJ,List.filter_eq_self->Jg,List.flatMap_append->QK,List.flatten_cons->Jh,List.foldl->Ji,List.foldl_cons->Jj,List.forIn_cons->o_,List.forIn_nil->wy,List.getD->qA,List.getD_eq_getElem?_getD->Cr,List.getElem?_append_left->iD,List.getElem?_append_right->mS,List.getElem?_drop->Cs,List.getElem?_eq_getElem->cV,List.getElem?_eq_none->Jk,List.getElem?_eq_none_iff->Jl,List.getElem?_eq_some_iff->eM,List.getElem?_map->tZ,List.getElem?_range->QL,List.getElem_inj->rK,List.getElem_map->QM,List.getElem_mem->zf,List.getElem_of_mem->iE,List.getElem_range->QN,List.isEmpty_iff->Jm,List.length->zg,List.length_append->fy,List.length_cons->iQ,List.length_drop->rL,List.length_dropLast->QO,List.length_eq_zero_iff->wz,List.length_filter_le->QP,List.length_map->cZ,List.length_nil->rM,List.length_range->wA,List.length_replicate->dZ,List.length_reverse->ez,List.length_take->zh,List.length_zip->Ct,List.lookup_cons->jM,List.lt_irrefl->Jn,List.lt_trans->QR,List.map->Cu,List.map_append->rN,List.map_congr_left->QS,List.map_cons->lj,List.map_drop->QT,List.map_eq_nil_iff->Cw,List.map_fst_zip->QU,List.map_map->zj,List.map_replicate->Jo,List.map_reverse->Cy,List.map_singleton->QV,List.map_take->QW,List.mem_append->dI,List.mem_append_left->iR,List.mem_append_right->fC,List.mem_cons->bY,List.mem_cons_of_mem->QX,List.mem_cons_self->QY,List.mem_filter->t7,List.mem_filterMap->Jp,List.mem_flatMap->mc,List.mem_map->cF,List.mem_map_of_mem->QZ,List.mem_of_getElem?->dy,List.mem_range->md,List.mem_replicate->Q0,List.mem_reverse->qB,List.mem_singleton->cA,List.nil_prefix->wB,List.nodup_append->wC,List.nodup_cons->ic,List.nodup_nil->rO,List.not_lt->Q1,List.not_mem_nil->eP,List.pairwise_cons->Q2,List.pairwise_iff_getElem->Cz,List.prefix_append->wD,List.prefix_refl->mT,List.range->fY,List.rec->b9,List.replicate->di,List.replicate_succ->Jq,List.reverse_append->zk,List.reverse_cons->rP,List.reverse_replicate->Q3,List.reverse_reverse->mU,List.set_comm->Q4,List.size_toArray->t8,List.take_nil->Q5,List.take_of_length_le->Q6,List.take_prefix->Q7,List.unzip_fst->Q8,List.unzip_snd->Q9,List.zipIdx_cons->CA,List.zipWith->CB,List.zip_cons_cons->CD,List.zip_unzip->Q_,Nat->H,Nat.add_assoc->ph,Nat.add_comm->mV,Nat.add_le_add->CE,Nat.add_le_add_left->CF,Nat.add_le_add_right->ua,Nat.add_lt_add_left->Js,Nat.add_lt_add_right->Ra,Nat.add_right_comm->Jt,Nat.add_sub_cancel->Rb,Nat.add_sub_cancel_left->jO,Nat.add_sub_of_le->wF,Nat.add_zero->CG,Nat.beq->bA,Nat.beq_refl->CH,Nat.ble->eB,Nat.ble_eq_true_of_le->Ju,Nat.blt->dB,Nat.div->rR,Nat.div_add_mod->uc,Nat.eq_of_beq_eq_true->dU,Nat.exists_eq_add_of_le->CI,Nat.exists_eq_succ_of_ne_zero->CJ,Nat.le_add_left->ud,Nat.le_add_right->ig,Nat.le_of_add_le_add_left->Rc,Nat.le_of_ble_eq_true->dw,Nat.le_of_eq->CK,Nat.le_of_lt->rS,Nat.le_of_succ_le->Rd,Nat.le_of_succ_le_succ->Jv,Nat.le_refl->fG,Nat.le_succ->ue,Nat.le_trans->dQ,Nat.le_zero->Jw,Nat.lt_irrefl->zm,Nat.lt_of_le_of_lt->zo,Nat.lt_of_lt_of_le->nY,Nat.lt_of_succ_lt_succ->Jx,Nat.lt_succ_iff_lt_or_eq->Rf,Nat.lt_succ_of_le->rT,Nat.lt_succ_of_lt->Jy,Nat.lt_succ_self->Rg,Nat.min_eq_left->Rh,Nat.min_le_right->Ri,Nat.min_self->wG,Nat.mod->uf,Nat.mod_two_ne_one->Rj,Nat.mul_comm->Rk,Nat.mul_le_mul->Rl,Nat.mul_le_mul_left->Rm,Nat.mul_succ->Rn,Nat.ne_of_beq_eq_false->CL,Nat.ne_of_gt->wH,Nat.ne_of_lt->rU,Nat.not_le_of_lt->Ro,Nat.not_lt->g7,Nat.not_lt_of_le->Rp,Nat.not_lt_zero->zp,Nat.pred->wI,Nat.rec->nZ,Nat.sub_add_cancel->Rq,Nat.sub_le->Jz,Nat.sub_pos_of_lt->Rr,Nat.sub_self->Rt,Nat.sub_sub->Ru,Nat.sub_sub_self->JA,Nat.succ->cX,Nat.succ.inj->lu,Nat.succ_add_eq_add_succ->Rv,Nat.succ_le_succ->n4,Nat.succ_lt_succ->zq,Nat.succ_ne_zero->rV,Nat.succ_pos->ug,Nat.succ_pred->Rw,Nat.toDigits->CM,Nat.toDigits_of_lt_base->Rx,Nat.zero_add->uh,Nat.zero_le->gA,Nat.zero_lt_succ->CN,Ne.symm->n7,Option->aa,Option.bind->Rz,Option.bind_assoc->CP,Option.bind_eq_some_iff->RA,Option.bind_some->RB,Option.isNone->RC,Option.isNone_iff_eq_none->RD,Option.isSome_iff_exists->JB,Option.map_eq_some_iff->zr,Option.map_some->JC,Option.or_none->RE,Option.rec->CQ,Option.some->zt,Option.some.inj->aM,Or.elim->dC,PUnit->CS,Prod.mk.inj->iS,Prod.mk.injEq->JF,PyProof.Rows.SortedToK->zA,PyProof.Rows.StrsAre->n9,PyProof.Rows.arrOf->jS,PyProof.Rows.entry_list_sort->RG,PyProof.Rows.get?_update_seq->Ez,PyProof.Rows.getItem_tuple->RH,PyProof.Rows.listUpdate_at->FV,PyProof.Rows.seqObj->eS,PyProof.Rows.size_push'->HB,PyProof.Rows.slot_list_sort->RI,PyProof.Rows.strKind->rW,PyProof.Rows.sub_int->RJ,PyProof.Rows.subscriptTail->O2,PyProof.Rows.tail_any->yH,PySem.Addr->aA,PySem.Around->bG,PySem.Builtin->nT,PySem.Builtin.Dict.updateFrom->Qg,PySem.Builtin.Range.rangeSize->wi,PySem.Builtin.Range.small->Qh,PySem.Builtin.SmallTypes.nextOf->tT,PySem.Builtin.Str.glued->Qi,PySem.Builtin.Str.strKind->Qj,PySem.Calls.evalArgs_plain->Lo,PySem.Challenge.pw_pq0710_01->RK,PySem.Challenge.rw_pq0710_01->n8,PySem.Code.builtin->IZ,PySem.Comprehension->rE,PySem.DictEntry->tU,PySem.Env->cL,PySem.Env.kindOf->y7,PySem.Expr->JG,PySem.Expr->aX,PySem.F.args_dict_pop_3->CU,PySem.F.args_tuple_add_2->JH,PySem.F.args_tuple_iterator_next_1->Qm,PySem.F.entry_dict_pop->CV,PySem.F.entry_tuple_add->JI,PySem.F.entry_tuple_iterator_next->Qn,PySem.F.plainAttrs_dict->RL,PySem.F.plainAttrs_list->JJ,PySem.F.plainAttrs_str->RM,PySem.F.slot_dict_get->RN,PySem.F.slot_dict_pop->zw,PySem.F.slot_list_extend->RO,PySem.F.slot_list_getattribute->JK,PySem.F.slot_list_pop->RP,PySem.F.slot_str_split->RQ,PySem.F.slot_tuple_add->JL,PySem.F.slot_tuple_iterator_next->Ci,PySem.FuncData->y9,PySem.Heap->aP,PySem.Heap.DictOf.new->Cm,PySem.Heap.ExtBut->I4,PySem.Heap.SameBut->iC,PySem.Heap.SameBut.update->o8,PySem.Heap.get?_none_of_le->Qq,PySem.Heap.get?_push_ne->Qr,PySem.Heap.get?_push_of_some->lh,PySem.Heap.get?_push_size->hZ,PySem.Heap.get?_update_self->y_,PySem.Heap.lt_size->wm,PySem.Heap.size_push->wo,PySem.IsPair->wt,PySem.IsPart->tX,PySem.IsZip->tY,PySem.Keeper.boundFrame->Jb,PySem.Keeper.frame->Jc,PySem.Keeper.machine->Jd,PySem.NameKind->dc,PySem.NameKind.cell->pg,PySem.NameKind.free->rQ,PySem.NameKind.local->qC,PySem.Obj->jy,PySem.Obj.data_mapFields->Ry,PySem.Obj.mapSeq->fh,PySem.OsState->CR,PySem.Program->a_,PySem.PyData.strOk->g8,PySem.Sem->iT,PySem.Shared->aT,PySem.Stmt->en,PySem.Str->ar,PySem.Str.join->C7,PySem.Str.ofString->rX,PySem.Value->aw,PySem.Value.isInt->zB,PySem.Value.isStrOf->mY,PySem.Value.isStrOf_shape->JP,PySem.Value.none->zC,PySem.Value.ref->og,PySem.Value.ref.inj->JQ,PySem.W.Frag->b8,PySem.W.SharedT->qE,PySem.W.boot_heap->r8,PySem.W.callWith_of->DC,PySem.W.emptyDict->D8,PySem.W.findIn->oC,PySem.W.instObj->uZ,PySem.W.lookIn->vn,PySem.W.openEnds->GP,PySem.World->dF,PySem.World->rY,PySem.arm_eval_Call_Name'->Dh,PySem.arm_eval_Subscript->Sy,PySem.assign->m9,PySem.assignEach->wW,PySem.assignInOrder->zM,PySem.backTo->ur,PySem.behindInMarks->Dm,PySem.binaryOp->m_,PySem.bindName->Dw,PySem.builtinsNs->qH,PySem.cLine->fP,PySem.call_len_dict->Kj,PySem.call_meets->w8,PySem.call_meetsIn->zP,PySem.cellsFrom->w9,PySem.codeAny->lB,PySem.codeAny_of_tree->zW,PySem.compareOp->iq,PySem.concat_meets->DM,PySem.execs->iH,PySem.foldedForSure->LG,PySem.foldedSetIterable->VW,PySem.getMethod_builtin->uM,PySem.getattributeRaised->We,PySem.hashStr->Ap,PySem.holding->xK,PySem.importedModules->Ff,PySem.intKind->lE,PySem.interactive->Mv,PySem.isTrue->RR,PySem.keywordEach->MQ,PySem.letOwnedTupleGo->A1,PySem.mainGlobals->mB,PySem.meets_dict_pop_default->ZU,PySem.meets_dict_pop_there->ZV,PySem.methodCallPos->Nq,PySem.model->bK,PySem.noFill_tuple_add->NF,PySem.noteFrame->Bc,PySem.nsFind->Bd,PySem.nsPutIn->tc,PySem.numAt->td,PySem.pyIter->oQ,PySem.pyNext->qh,PySem.recursionLimit->Hk,PySem.seqIndex?->Hw,PySem.seqItems?->tD,PySem.seq_tuple_add->Oy,PySem.sizeLine->rp,PySem.sizeLine_eq->rq,PySem.slicePick->BL,PySem.slot_list_getitem->OE,PySem.standAt->tH,PySem.starEach->rt,PySem.storeAll->JM,PySem.stored->j_,PySem.strKind->gC,PySem.swappedStores->vU,PySem.sysModules->tK,PySem.theTreesLotGoes->Ic,PySem.treeTable->BZ,PySem.typeIs_str->Pn,PySem.valueAt->k8,PySem.without->yS,PySem.wpAny->bo,PySem.wpAny_assign_Name->afw,PySem.wpAny_attempt->PR,PySem.wpAny_bind->aO,PySem.wpAny_call->B9,PySem.wpAny_callSpecial?_slot->PS,PySem.wpAny_call_entry->IC,PySem.wpAny_dictSet_pairs->afx,PySem.wpAny_execs_nil->ID,PySem.wpAny_field->tP,PySem.wpAny_holding->iP,PySem.wpAny_isTrue_BoolOp->afy,PySem.wpAny_list_append_plain->afz,PySem.wpAny_mono->qq,PySem.wpAny_newList->IE,PySem.wpAny_newObj_type->PT,PySem.wpAny_noted->IF,PySem.wpAny_onRaise->IG,PySem.wpAny_pure->bX,PySem.wpAny_pyIter_list->B_,PySem.wpAny_pyIter_listiter->afA,PySem.wpAny_pyIter_tuple->afB,PySem.wpAny_pyNext_list_end->PU,PySem.wpAny_pyNext_list_item->PX,PySem.wpAny_rule->yT,PySem.wpAny_seqItems->yU,PySem.wpAny_setField_rec->IH,PySem.wpAny_setItem_pairs->afC,PySem.wpAny_standAt->ju,PySem.wpAny_storeName_local->afD,PySem.wpAny_truthy_bool->II,String->C8,True->jz,Unit->mX,absurd->bP,beq_eq_false_iff_ne->mn,beq_iff_eq->qG,beq_self_eq_true->r7,congrArg->cq,decide_eq_false->jf,decide_eq_true->ix,decide_eq_true_eq->KL,decide_false->T7,if_false->Fb,if_neg->bl,if_pos->bT,inferInstance->Mt,not_false_eq_true->aaG,of_decide_eq_true->NR,or_false->gF
set_option genCtorIdx true in
inductive Bi where
 |list|tuple|dict|str|int|len|max|sum|min|sorted|range|zip
noncomputable def Bi.value:Bi->aw
 |.list=>.type "list" |.tuple=>.type "tuple" |.dict=>.type "dict" |.str=>.type "str" |.int=>.type "int"
 |.len=>.builtin "len" |.max=>.builtin "max" |.sum=>.builtin "sum" |.min=>.builtin "min" |.sorted=>.builtin "sorted" |.range=>.type "range" |.zip=>.type "zip"
inductive FK where
 |list (b:H)|dict (ks:G ar)|inst (aq:H) (ks:G ar)
noncomputable def FK.ctorIdx(x:FK):H:=@FK.rec (λ_=>H) (λ_=>0) (λ_=>1) (λ_ _=>2) x
inductive D where
 |none|bool (b:ah)|int (i:ba)|str (s:ar)|tup (B:G D)|ref (i:H)|fn (a:H)|bi (b:Bi)|fuel (k:H)|aD (k:FK) (B:G D)|any|tok (i:H)
noncomputable def D.ctorIdx(x:D):H:=@D.casesOn (λ_=>H) x 0 (λ_=>1) (λ_=>2) (λ_=>3) (λ_=>4) (λ_=>5) (λ_=>6) (λ_=>7) (λ_=>8) (λ_ _=>9) 10 (λ_=>11)
noncomputable instance:Inhabited D:=⟨.none⟩
inductive cJ where
 |list (b:H) (r:G D)|dict (R:G (D×D))|inst (aq d:H)|dh
noncomputable def cJ.ctorIdx(x:cJ):H:=@cJ.rec (λ_=>H) (λ_ _=>0) (λ_=>1) (λ_ _=>2) 3 x
noncomputable instance:Inhabited cJ:=⟨.dh⟩
inductive MT where
 |nil|node (v:cJ) (B r:MT)
namespace MT
noncomputable def get(t:MT):H->aa cJ:=@MT.rec (λ_=>H->aa cJ) (λ_=>.none) (λv _ _ B r i=>@bN (λ_=>aa cJ) (@bN (λ_=>aa cJ) (r (wI (rR i 2))) (B (rR i 2)) (bA (uf i 2) 1)) (some v) (bA i 0)) t
noncomputable def set(t:MT):H->cJ->MT:=@MT.rec (λ_=>H->cJ->MT) (λ_ _=>.nil) (λv tl tr B r i E=>@bN (λ_=>MT) (@bN (λ_=>MT) (.node v tl (r (wI (rR i 2)) E)) (.node v (B (rR i 2) E) tr) (bA (uf i 2) 1)) (.node E tl tr) (bA i 0)) t
noncomputable def ins(t:MT):H->cJ->MT:=@MT.rec (λ_=>H->cJ->MT) (λ_ E=>.node E .nil .nil) (λv tl tr B r i E=>@bN (λ_=>MT) (@bN (λ_=>MT) (.node v tl (r (wI (rR i 2)) E)) (.node v (B (rR i 2) E) tr) (bA (uf i 2) 1)) (.node E tl tr) (bA i 0)) t
end MT
structure MH where
 t:MT
 n:H
noncomputable def vh(x:G H):G H->ah:=
 @b9 H (λ_=>G H->ah) (λy=>@b9 H (λ_=>ah) true (λ_ _ _=>false) y)
  (λa _ O y=>@b9 H (λ_=>ah) false (λb t _=>@bN (λ_=>ah) false (O t) (bA a b)) y) x
noncomputable def seq(a b:ar):ah:=vh a.1.1 b.1.1
noncomputable def g_{α:Type}(B:G (ar×α))(x:ar):aa α:=@b9 (ar×α) (λ_=>aa α) .none (λp _ O=>@bN (λ_=>aa α) O (some p.2) (seq p.1 x)) B
noncomputable def fJ{α:Type}(B:G α):H->aa α:=@b9 α (λ_=>H->aa α) (λ_=>.none) (λa _ O k=>@bN (λ_=>aa α) (O (wI k)) (some a) (bA k 0)) B
noncomputable def qa{α:Type}(B:G α):H->α->G α:=@b9 α (λ_=>H->α->G α) (λ_ _=>[]) (λa r O k v=>@bN (λ_=>G α) (a::O (wI k) v) (v::r) (bA k 0)) B
noncomputable def jG{α:Type}(B:G α):ah:=eB B.length 4096
noncomputable def app{α:Type}(B m:G α):G α:=@b9 α (λ_=>G α) m (λa _ O=>a::O) B
noncomputable def Ho{α:Type}(B:G α):G α->G α:=@b9 α (λ_=>G α->G α) (λm=>m) (λa _ O m=>O (a::m)) B
noncomputable def rv{α:Type}(B:G α):G α:=Ho B []
noncomputable def ltZ:ba->ba->ah
 |.ofNat m,.ofNat n=>dB m n
 |.ofNat _,.negSucc _=>false
 |.negSucc _,.ofNat _=>true
 |.negSucc m,.negSucc n=>dB n m
noncomputable def eqZ:ba->ba->ah
 |.ofNat m,.ofNat n=>bA m n
 |.negSucc m,.negSucc n=>bA m n
 |_,_=>false
noncomputable def Ee:D->H->aa ah
 |.none,_=>some true
 |.tup _,_=>some false
 |.str _,_=>some false
 |.int _,_=>some false
 |_,_=>.none
noncomputable def eqBool(x:ah):D->H->aa ah
 |.bool y,_=>some (!(qt x y))
 |_,_=>.none
noncomputable def Ed(x:ba):D->H->aa ah
 |.int y,_=>some (eqZ x y)
 |.none,_=>some false
 |.str _,_=>some false
 |.tup _,_=>some false
 |_,_=>.none
noncomputable def eqStr(x:ar):D->H->aa ah
 |.str y,_=>some (seq x y)
 |.none,_=>some false
 |.int _,_=>some false
 |.tup _,_=>some false
 |_,_=>.none
noncomputable def uE(f:G D->H->aa ah):D->H->aa ah
 |.tup m,n=>match n with
  |0=>.none
  |n+1=>f m n
 |.none,_=>some false
 |.str _,_=>some false
 |.int _,_=>some false
 |_,_=>.none
noncomputable def pA(a b:aa ah):aa ah:=match a with
 |some x=>match b with
  |some y=>some (x&&y)
  |.none=>.none
 |.none=>.none
noncomputable def gV(a:D):D->H->aa ah:=@D.rec (λ_=>D->H->aa ah) (λ_=>G D->H->aa ah)
 Ee eqBool Ed eqStr (λ_ f=>uE f) (λ_ _ _=>.none) (λ_ _ _=>.none) (λ_ _ _=>.none) (λ_ _ _=>.none) (λ_ _ _ _ _=>.none) (λ_ _=>.none) (λ_ _ _=>.none)
 (λm _=>@b9 D (λ_=>aa ah) (some true) (λ_ _ _=>some false) m)
 (λ_ _ ha hl m n=>@b9 D (λ_=>aa ah) (some false) (λb r _=>pA (ha b n) (hl r n)) m) a
noncomputable def q7(a b:D):aa ah:=gV a b 40
noncomputable def GS(a b:aa ah):aa ah:=match a with
 |some x=>match b with
  |some y=>some (x||y)
  |.none=>.none
 |.none=>.none
noncomputable def Ba(v:D)(B:G D):aa ah:=@b9 D (λ_=>aa ah) (some false) (λa _ O=>GS (q7 a v) O) B
noncomputable def isKey:D->ah
 |.str _=>true
 |.int _=>true
 |_=>false
noncomputable def iz(a b:D):ah:=match a with
 |.str x=>match b with
  |.str y=>seq x y
  |_=>false
 |.int x=>match b with
  |.int y=>eqZ x y
  |_=>false
 |_=>false
noncomputable def sm(R:G (D×D))(x:D):aa D:=@b9 (D×D) (λ_=>aa D) .none (λp _ O=>@bN (λ_=>aa D) O (some p.2) (iz p.1 x)) R
noncomputable def sq(R:G (D×D))(x v:D):G (D×D):=@b9 (D×D) (λ_=>G (D×D)) [(x,v)] (λp r O=>@bN (λ_=>G (D×D)) (p::O) ((p.1,v)::r) (iz p.1 x)) R
noncomputable def se(R:G (D×D))(x:D):G (D×D):=@b9 (D×D) (λ_=>G (D×D)) [] (λp r O=>@bN (λ_=>G (D×D)) (p::O) r (iz p.1 x)) R
noncomputable def BB(a b:D):ah:=match a with
 |.str _=>match b with
  |.str _=>true
  |_=>false
 |.int _=>match b with
  |.int _=>true
  |_=>false
 |_=>false
noncomputable def keysOk(R:G (D×D))(x:D):ah:=@b9 (D×D) (λ_=>ah) (isKey x) (λp _ O=>@bN (λ_=>ah) false O (BB p.1 x)) R
noncomputable def ih(R:G (D×D))(x:D):aa (aa D):=match keysOk R x with
 |true=>some (sm R x)
 |false=>.none
noncomputable def dput(R:G (D×D))(x v:D):aa (G (D×D)):=match keysOk R x with
 |true=>some (sq R x v)
 |false=>.none
inductive It where
 |lst (i k:H)
 |tup (B:G D)
 |bz (B:G D)
 |range (k n:ba)
 |zip (a b:It)
noncomputable def listAt(o:MH)(i:H):aa (G D):=match o.t.get i with
 |some E=>match E with
  |.list _ r=>some (rv r)
  |_=>.none
 |.none=>.none
noncomputable def dictAt(o:MH)(i:H):aa (G (D×D)):=match o.t.get i with
 |some E=>match E with
  |.dict B=>some B
  |_=>.none
 |.none=>.none
noncomputable def AQ(o:MH)(i:H):aa (H×H):=match o.t.get i with
 |some E=>match E with
  |.inst aq d=>some (aq,d)
  |_=>.none
 |.none=>.none
noncomputable def fs(o:MH):It->aa (aa (D×It))
 |.lst i k=>match listAt o i with
  |some B=>match fJ B k with
   |some v=>some (some (v,.lst i (cX k)))
   |.none=>some .none
  |.none=>.none
 |.tup B=>match B with
  |[]=>some .none
  |v::r=>some (some (v,.tup r))
 |.bz B=>match B with
  |[]=>some .none
  |v::r=>some (some (v,.bz r))
 |.range k n=>match ltZ k n with
  |true=>some (some (.int k,.range (k+1) n))
  |false=>some .none
 |.zip a b=>match fs o a with
  |some x=>match x with
   |some p=>match fs o b with
    |some y=>match y with
     |some q=>some (some (.tup [p.1,q.1],.zip p.2 q.2))
     |.none=>some .none
    |.none=>.none
   |.none=>some .none
  |.none=>.none
noncomputable def pV(o:MH):D->aa It
 |.tup B=>some (.tup B)
 |.ref i=>match o.t.get i with
  |some E=>match E with
   |.list _ _=>some (.lst i 0)
   |_=>.none
  |.none=>.none
 |.aD k B=>match k with
  |.list _=>some (.bz B)
  |_=>.none
 |_=>.none
noncomputable def itemsOf(o:MH):D->aa (G D)
 |.tup B=>some B
 |.ref i=>listAt o i
 |.aD k B=>match k with
  |.list _=>some B
  |_=>.none
 |_=>.none
noncomputable def eV(o:MH):D->aa (H×G D)
 |.ref i=>match o.t.get i with
  |some E=>match E with
   |.list b r=>some (b,r)
   |_=>.none
  |.none=>.none
 |.aD k B=>match k with
  |.list b=>some (b,rv B)
  |_=>.none
 |_=>.none
noncomputable def BF(o:MH):D->aa (H×G D)
 |.tup B=>some (B.length,rv B)
 |v=>eV o v
noncomputable def acZ:ar:=⟨⟨[97,112,112,101,110,100]⟩⟩
noncomputable def ac0:ar:=⟨⟨[101,120,116,101,110,100]⟩⟩
noncomputable def s_pop:ar:=⟨⟨[112,111,112]⟩⟩
noncomputable def Hu:ar:=⟨⟨[103,101,116]⟩⟩
noncomputable def ac1:ar:=⟨⟨[106,111,105,110]⟩⟩
noncomputable def s_split:ar:=⟨⟨[115,112,108,105,116]⟩⟩
noncomputable def tC:ar:=⟨⟨[95,95,100,101,98,117,103,95,95]⟩⟩
noncomputable def vM:ar:=⟨⟨[107,101,121]⟩⟩
noncomputable def Hv:ar:=⟨⟨[95,95,105,110,105,116,95,95]⟩⟩
inductive Slot where
 |loc (k:H)|glob (v:D)|jT (k:H)|free (k:H)|bad
structure Cx where
 sc:G (ar×dc)
 comp:aa (G (ar×dc))
structure Fm where
 vars:G (aa D)
 jU:G (aa D)
inductive fZ where
 |val (v:D)|new (E:cJ)|bad
inductive eh where
 |next|ret (v:D)
structure Fn where
 hO:H
 jg:G D
 body:G en
 sc:G (ar×dc)
structure bQ where
 glob:ar->aa D
 fn:H->aa Fn
 cls:H->aa (G (ar×H)×G ar)
 pull:H
 gX:H->G D->MH->aa (H×D×MH)
 rz:H->aa D
 eqv:D->D->aa ah
noncomputable def yN(W:bQ)(v:D):D:=match v with
 |.tok i=>match W.rz i with
  |some m=>m
  |.none=>v
 |_=>v
noncomputable def idxOf(B:G (ar×dc))(x:ar):H->aa (H×dc):=@b9 (ar×dc) (λ_=>H->aa (H×dc)) (λ_=>.none) (λp _ O n=>@bN (λ_=>aa (H×dc)) (O (cX n)) (some (n,p.2)) (seq p.1 x)) B
noncomputable def slotIn(W:bQ)(sc:G (ar×dc))(x:ar):Slot:=match idxOf sc x 0 with
 |some p=>match p.2 with
  |.local=>.loc p.1
  |.cell=>.loc p.1
  |.globalImplicit=>match W.glob x with
   |some v=>.glob v
   |.none=>.bad
  |_=>.bad
 |.none=>.bad
noncomputable def vQ(W:bQ)(sc cB:G (ar×dc))(x:ar):Slot:=match idxOf cB x 0 with
 |some p=>match p.2 with
  |.local=>.jT p.1
  |.free=>match idxOf sc x 0 with
   |some q=>match q.2 with
    |.cell=>.free q.1
    |_=>.bad
   |.none=>.bad
  |.globalImplicit=>match W.glob x with
   |some v=>.glob v
   |.none=>.bad
  |_=>.bad
 |.none=>.bad
noncomputable def kQ(W:bQ)(cx:Cx)(x:ar):Slot:=match cx.comp with
 |.none=>slotIn W cx.sc x
 |some cB=>vQ W cx.sc cB x
noncomputable def kN{α:Type}(E:aa (aa α)):aa α:=match E with
 |some x=>x
 |.none=>.none
noncomputable def nameOf(W:bQ)(cx:Cx)(fr:Fm)(x:ar):aa D:=match kQ W cx x with
 |.loc k=>kN (fJ fr.vars k)
 |.glob v=>some v
 |.jT k=>kN (fJ fr.jU k)
 |.free k=>kN (fJ fr.vars k)
 |.bad=>.none
noncomputable def store(W:bQ)(cx:Cx)(fr:Fm)(x:ar)(v:D):aa Fm:=match kQ W cx x with
 |.loc k=>some ⟨qa fr.vars k (some v),fr.jU⟩
 |.jT k=>some ⟨fr.vars,qa fr.jU k (some v)⟩
 |_=>.none
inductive VT where
 |name (x:ar)|tup (ts:G aX)|attr (E:aX) (x:ar)|item (E i:aX)|bad
noncomputable def qo:aX->VT
 |.Name x _=>.name x
 |.Tuple ts _ _=>.tup ts
 |.Attribute E x _=>.attr E x
 |.Subscript E i _=>match i with
  |.Slice _ _ _ _=>.bad
  |i=>.item E i
 |_=>.bad
noncomputable def storeAll(W:bQ)(cx:Cx)(ts:G aX):G D->Fm->aa Fm:=@b9 aX (λ_=>G D->Fm->aa Fm)
 (λV fr=>match V with
  |[]=>some fr
  |_::_=>.none)
 (λt _ O V fr=>match V with
  |[]=>.none
  |v::V=>match qo t with
   |.name x=>match store W cx fr x v with
    |some fr=>O V fr
    |.none=>.none
   |_=>.none) ts
noncomputable def pC(W:bQ)(cx:Cx)(fr:Fm)(t:aX)(v:D):aa Fm:=match qo t with
 |.name x=>store W cx fr x v
 |.tup ts=>match v with
  |.tup B=>storeAll W cx ts B fr
  |_=>.none
 |_=>.none
section ops
variable(o:MH)
noncomputable def cmpInt(f:ba->ba->ah)(a b:D):aa ah:=match a with
 |.int x=>match b with
  |.int y=>some (f x y)
  |_=>.none
 |_=>.none
noncomputable def isNone:D->aa ah
 |.none=>some true
 |.tup _=>some false
 |.ref _=>some false
 |.aD _ _=>some false
 |_=>.none
noncomputable def uz(y:G (D×D))(x:G (D×D)):aa ah:=@b9 (D×D) (λ_=>aa ah) (some true)
 (λp _ O=>match ih y p.1 with
  |some q=>match q with
   |some u=>pA (q7 p.2 u) O
   |.none=>some false
  |.none=>.none) x
noncomputable def M6(x y:G D):aa ah:=match x with
 |[]=>match y with
  |[]=>some true
  |_::_=>some false
 |_::_=>match y with
  |[]=>some false
  |_::_=>.none
noncomputable def A4(a b:D):aa ah:=match eV o a with
 |some p=>match eV o b with
  |some q=>M6 p.2 q.2
  |.none=>.none
 |.none=>.none
noncomputable def DU(x y:G (D×D)):aa ah:=match x with
 |[]=>match y with
  |[]=>some true
  |_::_=>some false
 |p::r=>match keysOk y p.1 with
  |true=>match bA (p::r).length y.length with
   |true=>uz y (p::r)
   |false=>some false
  |false=>.none
noncomputable def uD(a b:D):aa ah:=match a with
 |.ref i=>match o.t.get i with
  |some E=>match E with
   |.list _ _=>A4 o a b
   |.dict x=>match b with
    |.ref j=>match dictAt o j with
     |some y=>DU x y
     |.none=>.none
    |_=>.none
   |_=>.none
  |.none=>.none
 |.aD _ _=>A4 o a b
 |a=>q7 a b
noncomputable def pK(ks:G ar):G D->ar->aa (aa D):=@b9 ar (λ_=>G D->ar->aa (aa D)) (λB _=>match B with
  |[]=>some .none
  |_::_=>.none)
 (λk _ O B x=>match B with
  |[]=>.none
  |v::B=>match O B x with
   |some r=>@bN (λ_=>aa (aa D)) (some r) (some (some v)) (seq k x)
   |.none=>.none) ks
noncomputable def Ae(ks:G ar)(B:G D)(x:D):aa (aa D):=match x with
 |.str x=>pK ks B x
 |_=>.none
noncomputable def dictGet(v x:D):aa (aa D):=match v with
 |.ref i=>match dictAt o i with
  |some R=>ih R x
  |.none=>.none
 |.aD k B=>match k with
  |.dict ks=>Ae ks B x
  |_=>.none
 |_=>.none
noncomputable def cK{α:Type}(E:aa α):ah:=match E with
 |some _=>true
 |.none=>false
noncomputable def AO(v b:D):aa ah:=match itemsOf o b with
 |some B=>Ba v B
 |.none=>match dictGet o b v with
  |some q=>some (cK q)
  |.none=>.none
noncomputable def yh(E:aa ah):aa ah:=match E with
 |some b=>some (!b)
 |.none=>.none
noncomputable def zU(f:ba->ba->ah)(g:H->aa ah)(a b:D):aa ah:=match a with
 |.int x=>match b with
  |.int y=>some (f x y)
  |_=>.none
 |.fuel k=>match b with
  |.int y=>match eqZ y 0 with
   |true=>g k
   |false=>.none
  |_=>.none
 |_=>.none
noncomputable def zV(op:CmpOp)(a b:D):aa ah:=match op with
 |.Is=>match b with
  |.none=>isNone a
  |_=>.none
 |.IsNot=>match b with
  |.none=>yh (isNone a)
  |_=>.none
 |.Eq=>uD o a b
 |.NotEq=>yh (uD o a b)
 |.In=>AO o a b
 |.NotIn=>yh (AO o a b)
 |.Lt=>cmpInt (λx y=>ltZ x y) a b
 |.LtE=>cmpInt (λx y=>!(ltZ y x)) a b
 |.Gt=>zU (λx y=>ltZ y x) (λk=>match k with|0=>.none|_+1=>some true) a b
 |.GtE=>zU (λx y=>!(ltZ x y)) (λ_=>some true) a b
noncomputable def small(a:ba):ah:=ltZ a 4611686018427387904&&ltZ (-4611686018427387904) a
noncomputable def rep(B:G D)(n:H):G D:=@nZ (λ_=>G D) [] (λ_ O=>app B O) n
noncomputable def NZ(B:G H):fZ:=match jG B with
 |true=>.val (.str ⟨⟨B⟩⟩)
 |false=>.bad
noncomputable def N0(B:G D):fZ:=match jG B with
 |true=>.val (.tup B)
 |false=>.bad
noncomputable def um(a b:D):fZ:=match a with
 |.str x=>match b with
  |.str y=>NZ (app x.1.1 y.1.1)
  |_=>.bad
 |.tup x=>match b with
  |.tup y=>N0 (app x y)
  |_=>.bad
 |.int x=>match b with
  |.int y=>.val (.int (x+y))
  |_=>.bad
 |_=>match eV o a with
  |some p=>match eV o b with
   |some q=>.new (.list (p.1+q.1) (app q.2 p.2))
   |.none=>.bad
  |.none=>.bad
noncomputable def Gh(a b:D):fZ:=match b with
 |.int y=>match eV o a with
  |some p=>match y with
   |.ofNat n=>match eB n 100 with
    |true=>.new (.list (p.1*n) (rep p.2 n))
    |false=>.bad
   |_=>.bad
  |.none=>match a with
   |.int x=>match eqZ y 48271 with
    |true=>.val (.int (x*48271))
    |false=>.bad
   |_=>.bad
 |_=>.bad
noncomputable def Gg(x y:ba):fZ:=match ltZ 0 y with
 |true=>.val (.int (o9 x y))
 |false=>.bad
noncomputable def DX(x y:ba):fZ:=match ltZ 0 y&&ltZ y 1000 with
 |true=>.val (.int (I7 x y))
 |false=>.bad
noncomputable def He(x y:ba):fZ:=match eqZ x 10&&eqZ y 18 with
 |true=>.val (.int 1000000000000000000)
 |false=>.bad
noncomputable def intOp(f:ba->ba->fZ)(a b:D):fZ:=match a with
 |.int x=>match b with
  |.int y=>f x y
  |_=>.bad
 |_=>.bad
noncomputable def OZ(a b:D):fZ:=match a with
 |.int x=>match b with
  |.int y=>.val (.int (x-y))
  |_=>.bad
 |.fuel k=>match b with
  |.int y=>match eqZ y 1 with
   |true=>match k with
    |0=>.bad
    |k+1=>.val (.fuel k)
   |false=>.bad
  |_=>.bad
 |_=>.bad
noncomputable def binOp(op:Operator)(a b:D):fZ:=match op with
 |.Add=>um o a b
 |.Sub=>OZ a b
 |.Mult=>Gh o a b
 |.Mod=>intOp Gg a b
 |.FloorDiv=>intOp DX a b
 |.Pow=>intOp He a b
 |_=>.bad
noncomputable def Pt(op:UnaryOp)(a:D):aa D:=match op with
 |.Not=>match a with
  |.bool b=>some (.bool (!b))
  |_=>.none
 |.USub=>match a with
  |.int x=>some (.int (-x))
  |_=>.none
 |_=>.none
noncomputable def AK(B:G D)(i:ba):aa D:=match i with
 |.ofNat k=>fJ B k
 |.negSucc k=>match dB k B.length with
  |true=>fJ B (B.length-(k+1))
  |false=>.none
noncomputable def HR(E i:D):aa D:=match itemsOf o E with
 |some B=>match i with
  |.int k=>match small k with
   |true=>AK B k
   |false=>.none
  |_=>.none
 |.none=>kN (dictGet o E i)
noncomputable def vP(B:G D)(lo up st:D):aa (G D):=match st with
 |.none=>match lo with
  |.none=>match up with
   |.int u=>match u with
    |.ofNat k=>some (B.take k)
    |.negSucc k=>match bA k 0 with
     |true=>some B.dropLast
     |false=>.none
   |_=>.none
  |.int u=>match u with
   |.ofNat k=>match up with
    |.none=>some (B.drop k)
    |_=>.none
   |_=>.none
  |_=>.none
 |.int s=>match eqZ s (-1) with
  |true=>match lo with
   |.none=>match up with
    |.none=>some B.reverse
    |.int u=>match eqZ u 0 with
     |true=>some (B.drop 1).reverse
     |false=>.none
    |_=>.none
   |_=>.none
  |false=>.none
 |_=>.none
noncomputable def HD(v B u s:D):fZ:=match eV o v with
 |some p=>match vP (rv p.2) B u s with
  |some ys=>.new (.list p.1 (rv ys))
  |.none=>.bad
 |.none=>.bad
noncomputable def attrsOf(v:D):aa (H×H×G (D×D)):=match v with
 |.ref i=>match AQ o i with
  |some q=>match dictAt o q.2 with
   |some R=>some (q.1,q.2,R)
   |.none=>.none
  |.none=>.none
 |_=>.none
noncomputable def ownAt(v:D)(x:ar):aa (H×aa D):=match v with
 |.aD k B=>match k with
  |.inst aq ks=>match pK ks B x with
   |some r=>some (aq,r)
   |.none=>.none
  |_=>.none
 |_=>match attrsOf o v with
  |some q=>match ih q.2.2 (.str x) with
   |some r=>some (q.1,r)
   |.none=>.none
  |.none=>.none
noncomputable def handed(m:D):aa D:=match m with
 |.bi _=>.none
 |.any=>.none
 |m=>some m
noncomputable def Gf(x:ar)(B:G ar):ah:=@b9 ar (λ_=>ah) false (λa _ O=>@bN (λ_=>ah) O true (seq a x)) B
noncomputable def Bb(W:bQ)(aq:H)(x:ar):ah:=match W.cls aq with
 |some ms=>Gf x ms.2
 |.none=>false
noncomputable def EA(W:bQ)(v:D)(x:ar):aa D:=match ownAt o v x with
 |some q=>match q.2 with
  |some m=>match Bb W q.1 x with
   |true=>handed m
   |false=>.none
  |.none=>.none
 |.none=>.none
noncomputable def A6(W:bQ)(v:D)(x:ar):aa H:=match ownAt o v x with
 |some q=>match q.2 with
  |some _=>.none
  |.none=>match W.cls q.1 with
   |some ms=>g_ ms.1 x
   |.none=>.none
 |.none=>.none
set_option genCtorIdx true in
inductive Me where
 |append|extend|A3|ih|xh|join|split
noncomputable def acx(x:ar):aa Me:=g_ [(acZ,Me.append),(ac0,.extend),(s_pop,.A3)] x
noncomputable def acv(x:ar):aa Me:=g_ [(Hu,Me.ih),(s_pop,.xh)] x
noncomputable def acy(x:ar):aa Me:=g_ [(ac1,Me.join),(s_split,.split)] x
noncomputable def acw(x:ar):aa Me:=g_ [(Hu,Me.ih)] x
noncomputable def Hl(v:D)(x:ar):aa Me:=match v with
 |.ref i=>match o.t.get i with
  |some E=>match E with
   |.list _ _=>acx x
   |.dict _=>acv x
   |_=>.none
  |.none=>.none
 |.aD k _=>match k with
  |.dict _=>acw x
  |_=>.none
 |.str _=>acy x
 |_=>.none
noncomputable def sU(j7:G H)(B:G D):aa (G H):=@b9 D (λ_=>aa (G H)) (some [])
 (λa r O=>match a with
  |.str s=>match r with
   |[]=>some s.1.1
   |_::_=>match O with
    |some t=>some (app s.1.1 (app j7 t))
    |.none=>.none
  |_=>.none) B
noncomputable def BA:ar:=⟨⟨[84,46,49]⟩⟩
noncomputable def Bz:ar:=⟨⟨[78,46,50]⟩⟩
inductive t_ where
 |val (v:D)|put (v:D) (E:cJ)|new (E:cJ)|bad
noncomputable def FU(i b:H)(r:G D)(x:Me)(args:G D):t_:=match x with
 |.append=>match args with
  |[a]=>.put .none (.list (cX b) (a::r))
  |_=>.bad
 |.extend=>match args with
  |[a]=>match a with
   |.ref j=>match bA i j with
    |true=>.bad
    |false=>match eV o a with
     |some q=>.put .none (.list (b+q.1) (app q.2 r))
     |.none=>.bad
   |.aD _ _=>match eV o a with
    |some q=>.put .none (.list (b+q.1) (app q.2 r))
    |.none=>.bad
   |_=>.bad
  |_=>.bad
 |.A3=>match args with
  |[]=>match r with
   |a::r=>.put a (.list (wI b) r)
   |[]=>.bad
  |_=>.bad
 |_=>.bad
noncomputable def KP(R:G (D×D))(x:Me)(args:G D):t_:=match args with
 |[k,d]=>match ih R k with
  |some q=>match x with
   |.ih=>match q with
    |some u=>.val u
    |.none=>.val d
   |.xh=>match q with
    |some u=>.put u (.dict (se R k))
    |.none=>.val d
   |_=>.bad
  |.none=>.bad
 |_=>.bad
noncomputable def LH(k:FK)(B:G D)(x:Me)(args:G D):t_:=match k with
 |.dict ks=>match x with
  |.ih=>match args with
   |[a,d]=>match Ae ks B a with
    |some q=>match q with
     |some u=>.val u
     |.none=>.val d
    |.none=>.bad
   |_=>.bad
  |_=>.bad
 |_=>.bad
noncomputable def OV(s:ar)(x:Me)(args:G D):t_:=match args with
 |[a]=>match x with
  |.join=>match eV o a with
   |some p=>match eB p.1 2000&&jG s.1.1 with
    |true=>match sU s.1.1 (rv p.2) with
     |some t=>match jG t with
      |true=>.val (.str ⟨⟨t⟩⟩)
      |false=>.bad
     |.none=>.bad
    |false=>.bad
   |.none=>.bad
  |.split=>match a with
   |.str b=>match vh b.1.1 [33]&&(seq s BA||seq s Bz) with
    |true=>.new (.list 1 [.str s])
    |false=>.bad
   |_=>.bad
  |_=>.bad
 |_=>.bad
noncomputable def yc(v:D)(x:Me)(args:G D):t_:=match v with
 |.ref i=>match o.t.get i with
  |some E=>match E with
   |.list b r=>FU o i b r x args
   |.dict R=>KP R x args
   |_=>.bad
  |.none=>.bad
 |.aD k B=>LH k B x args
 |.str s=>OV o s x args
 |_=>.bad
noncomputable def digits(f:H):H->G H:=@nZ (λ_=>H->G H) (λ_=>[]) (λ_ O n=>match dB n 10 with
  |true=>[48+n]
  |false=>app (O (rR n 10)) [48+uf n 10]) f
noncomputable def strLt(x:G H):G H->ah:=@b9 H (λ_=>G H->ah) (λy=>@b9 H (λ_=>ah) false (λ_ _ _=>true) y)
  (λa _ O y=>@b9 H (λ_=>ah) false (λb t _=>@bN (λ_=>ah) (dB a b) (O t) (bA a b)) y) x
noncomputable def uY(k:G H)(v:D)(B:G (G H×D)):G (G H×D):=@b9 (G H×D) (λ_=>G (G H×D)) [(k,v)]
 (λp r O=>@bN (λ_=>G (G H×D)) (p::O) ((k,v)::p::r) (strLt k p.1)) B
noncomputable def oU(B:G (G H×D)):G (G H×D)->G (G H×D):=@b9 (G H×D) (λ_=>G (G H×D)->G (G H×D)) (λb_=>b_) (λp _ O b_=>O (uY p.1 p.2 b_)) B
noncomputable def DF(B:G (G H×D)):ah:=@b9 (G H×D) (λ_=>ah) true (λp r O=>match r with
  |[]=>true
  |q::_=>strLt p.1 q.1&&O) B
noncomputable def tF(B:G (G H×D)):aa (G D):=match DF B&&dB B.length 64 with
 |true=>some (B.map (·.2))
 |false=>.none
noncomputable def strKeys(B:G D):aa (G (G H×D)):=@b9 D (λ_=>aa (G (G H×D))) (some [])
 (λa _ O=>match a with
  |.str s=>match O with
   |some r=>some ((s.1.1,a)::r)
   |.none=>.none
  |_=>.none) B
noncomputable def intsOf(B:G D):aa (G ba):=@b9 D (λ_=>aa (G ba)) (some [])
 (λa _ O=>match a with
  |.int i=>match O with
   |some r=>some (i::r)
   |.none=>.none
  |_=>.none) B
noncomputable def ZR(B:G ba):aa ba:=match B with
 |[]=>.none
 |a::r=>some (@b9 ba (λ_=>ba->ba) (λm=>m) (λx _ O m=>O (match ltZ m x with|true=>x|false=>m)) r a)
noncomputable def HS(B:G ba):ba:=@b9 ba (λ_=>ba->ba) (λm=>m) (λx _ O m=>O (m+x)) B 0
noncomputable def nK(B:G D):G (D×D)->aa (G (D×D)):=@b9 D (λ_=>G (D×D)->aa (G (D×D))) (λR=>some R)
 (λa _ O R=>match a with
  |.tup q=>match q with
   |[k,v]=>match dput R k v with
    |some R=>O R
    |.none=>.none
   |_=>.none
  |_=>.none) B
noncomputable def MZ(n:H):fZ:=.val (.int (.ofNat n))
noncomputable def OH(b:H)(E:aa (G (G H×D))):fZ:=match E with
 |some ks=>match tF (oU ks []) with
  |some B=>.new (.list b (rv B))
  |.none=>.bad
 |.none=>.bad
noncomputable def Dq(a:D):fZ:=match BF o a with
 |some p=>.new (.list p.1 p.2)
 |.none=>.bad
noncomputable def Dv(a:D):fZ:=match itemsOf o a with
 |some B=>.val (.tup B)
 |.none=>.bad
noncomputable def Dn(a:D):fZ:=match a with
 |.ref i=>match o.t.get i with
  |some E=>match E with
   |.dict R=>.new (.dict R)
   |.list _ r=>match nK (rv r) [] with
    |some R=>.new (.dict R)
    |.none=>.bad
   |_=>.bad
  |.none=>.bad
 |.aD k B=>match k with
  |.list _=>match nK B [] with
   |some R=>.new (.dict R)
   |.none=>.bad
  |_=>.bad
 |_=>.bad
noncomputable def Dt(a:D):fZ:=match a with
 |.int n=>match n with
  |.ofNat n=>match dB n 10000000000 with
   |true=>.val (.str ⟨⟨digits 11 n⟩⟩)
   |false=>.bad
  |_=>.bad
 |_=>.bad
noncomputable def J_(a:D):fZ:=match a with
 |.int n=>.val (.int n)
 |_=>.bad
noncomputable def FR(b:ah)(n:H):fZ:=match b with
 |true=>MZ n
 |false=>.bad
noncomputable def Dp(a:D):fZ:=match itemsOf o a with
 |some B=>FR (jG B) B.length
 |.none=>match a with
  |.ref i=>match dictAt o i with
   |some B=>MZ B.length
   |.none=>.bad
  |.aD k _=>match k with
   |.dict ks=>FR (jG ks) ks.length
   |_=>.bad
  |_=>.bad
noncomputable def Dr(a:D):fZ:=match eV o a with
 |some p=>match intsOf (rv p.2) with
  |some B=>match ZR B with
   |some m=>.val (.int m)
   |.none=>.bad
  |.none=>.bad
 |.none=>.bad
noncomputable def Du(a:D):fZ:=match eV o a with
 |some p=>match intsOf (rv p.2) with
  |some B=>.val (.int (HS B))
  |.none=>.bad
 |.none=>.bad
noncomputable def Ds(a:D):fZ:=match a with
 |.ref i=>match dictAt o i with
  |some R=>OH R.length (strKeys (R.map (·.1)))
  |.none=>.bad
 |_=>.bad
noncomputable def SV(f:Bi)(a:D):fZ:=match f with
 |.list=>Dq o a
 |.tuple=>Dv o a
 |.dict=>Dn o a
 |.str=>Dt a
 |.int=>J_ a
 |.len=>Dp o a
 |.max=>Dr o a
 |.sum=>Du o a
 |.sorted=>Ds o a
 |.min=>.bad
 |.range=>.bad
 |.zip=>.bad
noncomputable def Ka(f:Bi)(a b:D):fZ:=match f with
 |.min=>match a with
  |.int x=>match b with
   |.int y=>.val (.int (match ltZ y x with|true=>y|false=>x))
   |_=>.bad
  |_=>.bad
 |_=>.bad
noncomputable def Kb(f:Bi)(args:G D):fZ:=match args with
 |[]=>.bad
 |a::r=>match r with
  |[]=>SV o f a
  |b::r=>match r with
   |[]=>Ka f a b
   |_::_=>.bad
noncomputable def uB(ks:G D):G D->G (D×D)->aa (G (D×D)):=@b9 D (λ_=>G D->G (D×D)->aa (G (D×D)))
 (λV R=>match V with
  |[]=>some R
  |_::_=>.none)
 (λk _ O V R=>match V with
  |[]=>.none
  |v::V=>match dput R k v with
   |some R=>O V R
   |.none=>.none) ks
noncomputable def Hi(W:bQ)(ov v:D)(x:ar):aa (H×cJ):=match attrsOf o ov with
 |some q=>match Bb W q.1 x with
  |true=>match dput q.2.2 (.str x) v with
   |some R=>some (q.2.1,.dict R)
   |.none=>.none
  |false=>.none
 |.none=>.none
noncomputable def putItem(ov i v:D):aa (H×cJ):=match ov with
 |.ref j=>match o.t.get j with
  |some E=>match E with
   |.dict R=>match dput R i v with
    |some R=>some (j,.dict R)
    |.none=>.none
   |.list b r=>match i with
    |.int z=>match z with
     |.ofNat n=>match dB n r.length with
      |true=>some (j,.list b (rv ((rv r).set n v)))
      |false=>.none
     |_=>.none
    |_=>.none
   |_=>.none
  |.none=>.none
 |_=>.none
end ops
inductive VE where
 |const (J:Const)|name (x:ar)|nc (fI:ah) (e:aX) (R:G aX)|un (op:UnaryOp) (a:aX)|bin (a:aX) (op:Operator) (b:aX)|cmp (a:aX) (op:CmpOp) (b:aX)
 |qW (t a b:aX)|tup (R:G aX)|list (R:G aX)|dict (ks:G (aa aX)) (V:G aX)|attr (E:aX) (x:ar)|item (E i:aX)|slice (E:aX) (lo up st:aa aX)
 |comp (cQ t i:aX) (dj:G aX) (gs:G rE) (cB:G (ar×dc))|call (f:aX) (args:G aX)|yb (E:aX) (x:ar) (args:G aX)|HG (f a kf:aX)|bad
noncomputable def gE(B:G aX):ah:=@b9 aX (λ_=>ah) true (λe _ O=>match e with
 |.Starred _ _=>false
 |_=>O) B
noncomputable def tf(E:aX):ah:=match E with
 |.Call f args _ _=>match args with
  |[]=>match f with
   |.Name _ _=>false
   |_=>true
  |_::_=>true
 |_=>true
noncomputable def uL(sc:Scope):ah:=match sc.kind with
 |.function=>true
 |_=>false
noncomputable def mE(e:aX):ah:=match e with
 |.Set _ _ _=>false
 |_=>true
noncomputable def wQ(B:G (aa aX)):ah:=@b9 (aa aX) (λ_=>ah) true (λa _ O=>cK a&&O) B
noncomputable def oP(b:ah)(v:VE):VE:=@bN (λ_=>VE) .bad v b
noncomputable def view(e:aX):VE:=match e with
 |.Constant J _ _=>.const J
 |.Name x _=>oP (!(seq x tC)) (.name x)
 |.BoolOp op V _=>match V with
  |[]=>.bad
  |e::R=>match op with
   |.And=>.nc true e R
   |.Or=>.nc false e R
 |.UnaryOp op a _=>.un op a
 |.BinOp a op b _=>.bin a op b
 |.Compare a ops bs _=>match ops with
  |[op]=>match bs with
   |[b]=>match b with
    |.Set _ _ _=>.bad
    |b=>.cmp a op b
   |_=>.bad
  |_=>.bad
 |.IfExp t a b _=>.qW t a b
 |.Tuple R _ _=>oP (gE R) (.tup R)
 |.List R _=>oP (gE R) (.list R)
 |.Dict ks V _=>oP (dB ks.length 16&&wQ ks&&bA ks.length V.length) (.dict ks V)
 |.Attribute E x _=>oP (tf E) (.attr E x)
 |.Subscript E i _=>match i with
  |.Slice lo up st _=>.slice E lo up st
  |i=>.item E i
 |.ListComp cQ gs sc _=>match gs with
  |[]=>.bad
  |g::gs=>match g with
   |⟨t,i,dj,a⟩=>match eqZ a 0 with
    |true=>oP (uL sc&&mE i) (.comp cQ t i dj gs sc.names)
    |false=>.bad
 |.Call f args kw p=>oP (gE args) (match kw with
  |[]=>match f with
   |.Attribute E x q=>oP (tf E&&bA q.endLine p.line&&dB args.length 29) (.yb E x args)
   |.Name _ _=>.call f args
   |_=>.bad
  |kw::r=>match r with
   |[]=>match kw with
    |⟨some x,kf,_⟩=>match seq x vM with
     |true=>match args with
      |[a]=>match f with
       |.Name _ _=>.HG f a kf
       |_=>.bad
      |_=>.bad
     |false=>.bad
    |_=>.bad
   |_::_=>.bad)
 |_=>.bad
inductive VI where
 |one (x:ar) (f a:aX)|two (x:ar) (f a b:aX)|other
noncomputable def PE(x:ar)(f:aX)(args:G aX):VI:=match args with
 |[a]=>match gE [a] with
  |true=>.one x f a
  |false=>.other
 |[a,b]=>match gE [a,b] with
  |true=>.two x f a b
  |false=>.other
 |_=>.other
noncomputable def B5(e:aX):VI:=match e with
 |.Call f args kw _=>match kw with
  |[]=>match f with
   |.Name x _=>match seq x tC with
    |true=>.other
    |false=>PE x f args
   |_=>.other
  |_=>.other
 |_=>.other
inductive VB where
 |nc (fI:ah) (R:G aX)|not (a:aX)|cmp (a:aX) (op:CmpOp) (b:aX)|plain|bad
noncomputable def Iv(e:aX):VB:=match e with
 |.BoolOp op V _=>match op with
  |.And=>.nc true V
  |.Or=>.nc false V
 |.UnaryOp op a _=>match op with
  |.Not=>.not a
  |_=>.bad
 |.Compare a ops bs _=>match ops with
  |[op]=>match bs with
   |[b]=>match b with
    |.Set _ _ _=>.bad
    |b=>.cmp a op b
   |_=>.bad
  |_=>.bad
 |.IfExp _ _ _ _=>.bad
 |_=>.plain
noncomputable def s8(e:aX):ah:=match e with
 |.ListComp _ _ _ _=>false
 |.SetComp _ _ _ _=>false
 |.DictComp _ _ _ _ _=>false
 |_=>true
noncomputable def Gw(e:aX):ah:=match e with
 |.Call _ _ _ _=>true
 |.List _ _=>true
 |.Attribute _ _ _=>true
 |.Dict _ _ _=>true
 |.BoolOp _ _ _=>true
 |.IfExp _ _ _ _=>true
 |.Compare _ _ _ _=>true
 |.ListComp _ _ _ _=>true
 |_=>false
noncomputable def agb(B:G aX):ah:=@b9 aX (λ_=>ah) false (λe _ O=>Gw e||O) B
noncomputable def Bj(t e:aX):ah:=match t with
 |.Tuple _ _ _=>match e with
  |.Tuple V _ _=>V.any Gw||V.all (LG 8)
  |_=>true
 |_=>true
noncomputable def Bk(t:aX):ah:=match t with
 |.Name _ _=>true
 |.Tuple _ _ _=>true
 |.Attribute _ _ _=>true
 |.Subscript _ i _=>match i with
  |.Slice _ _ _ _=>false
  |_=>true
 |_=>false
inductive VS where
 |expr (e:aX)|ret (e:aX)|asg (t e:aX)|wV (t cQ tt i:aX) (dj:G aX) (gs:G rE) (cB:G (ar×dc))|qW (t:aX) (a b:G en)|iO (t:aX) (b:G en)|for (t i:aX) (b:G en)|bad
noncomputable def Bl(b:ah)(v:VS):VS:=@bN (λ_=>VS) .bad v b
noncomputable def Iw(s:en):VS:=match s with
 |.Expr e _=>Bl (s8 e) (.expr e)
 |.Return e _=>match e with
  |some e=>.ret e
  |.none=>.bad
 |.Assign ts e _=>match ts with
  |[t]=>match e with
   |.ListComp _ _ _ _=>match t with
    |.Name _ _=>match view e with
     |.comp cQ tt i dj gs cB=>.wV t cQ tt i dj gs cB
     |_=>.bad
    |_=>.bad
   |e=>Bl (s8 e&&Bk t&&Bj t e) (.asg t e)
  |_=>.bad
 |.If t a b _=>.qW t a b
 |.While t b E _=>match E with
  |[]=>.iO t b
  |_=>.bad
 |.For t i b E _=>match E with
  |[]=>Bl (mE i) (.for t i b)
  |_=>.bad
 |_=>.bad
universe u
structure cU(ag:Sort u) where
 fail:ag
 all:H->(H->ag)->ag
noncomputable def cU.opt{α:Type}(Z:cU ag)(E:aa α)(k:α->ag):ag:=@CQ α (λ_=>ag) Z.fail k E
structure Ops(ag:Sort u) where
 ev:Cx->aX->Fm->MH->(D->MH->ag)->ag
 fe:Cx->aX->Fm->MH->(ah->MH->ag)->ag
 ex:Cx->en->Fm->MH->(eh->Fm->MH->ag)->ag
 call:D->G D->MH->(D->MH->ag)->ag
 iO:Cx->aX->G en->Fm->MH->(eh->Fm->MH->ag)->ag
 forL:Cx->aX->It->G en->Fm->MH->(eh->Fm->MH->ag)->ag
 cmp:Cx->aX->aX->G aX->G rE->It->G D->Fm->MH->(G D->Fm->MH->ag)->ag
 lvl:H
section
variable{ag:Sort u}(Z:cU ag)(W:bQ)(O:Ops ag)
noncomputable def Lu:Ops ag:=⟨λ_ _ _ _ _=>Z.fail,λ_ _ _ _ _=>Z.fail,λ_ _ _ _ _=>Z.fail,λ_ _ _ _=>Z.fail,λ_ _ _ _ _ _=>Z.fail,λ_ _ _ _ _ _ _=>Z.fail,λ_ _ _ _ _ _ _ _ _ _=>Z.fail,0⟩
noncomputable def iB(E:cJ):ah:=match E with
 |.list b _=>eB b 4096
 |.dict B=>jG B
 |.inst _ _=>true
 |.dh=>true
noncomputable def iV(o:MH)(E:cJ)(k:D->MH->ag):ag:=@bN (λ_=>ag) Z.fail (k (.ref o.n) ⟨o.t.ins o.n E,cX o.n⟩) (iB E&&cK ((o.t.ins o.n E).get o.n))
noncomputable def nN(o:MH)(i:H)(E:cJ)(k:MH->ag):ag:=@bN (λ_=>ag) Z.fail (k ⟨o.t.set i E,o.n⟩) (iB E)
noncomputable def answer(r:fZ)(o:MH)(k:D->MH->ag):ag:=match r with
 |.val v=>k v o
 |.new E=>iV Z o E k
 |.bad=>Z.fail
noncomputable def Dg(r:t_)(v:D)(o:MH)(k:D->MH->ag):ag:=match r with
 |.val u=>k u o
 |.put u E=>match v with
  |.ref i=>nN Z o i E λo=>k u o
  |_=>Z.fail
 |.new E=>iV Z o E k
 |.bad=>Z.fail
noncomputable def zL(v:D)(k:ah->ag):ag:=match v with
 |.bool b=>k b
 |_=>Z.fail
noncomputable def sy(cx:Cx)(B:G aX):Fm->MH->(G D->MH->ag)->ag:=@b9 aX (λ_=>Fm->MH->(G D->MH->ag)->ag) (λ_ o k=>k [] o)
 (λe _ r fr o k=>O.ev cx e fr o λv o=>r fr o λV o=>k (v::V) o) B
noncomputable def iy(cx:Cx)(B:G en):Fm->MH->(eh->Fm->MH->ag)->ag:=@b9 en (λ_=>Fm->MH->(eh->Fm->MH->ag)->ag) (λfr o k=>k .next fr o)
 (λs _ r fr o k=>O.ex cx s fr o λf fr o=>@eh.rec (λ_=>ag) (r fr o k) (λv=>k (.ret v) fr o) f) B
noncomputable def Dy(fI:ah)(cx:Cx)(B:G aX):aX->Fm->MH->(D->MH->ag)->ag:=@b9 aX (λ_=>aX->Fm->MH->(D->MH->ag)->ag) (λe fr o k=>O.ev cx e fr o k)
 (λe' _ r e fr o k=>O.ev cx e fr o λv o=>zL Z v λb=>@bN (λ_=>ag) (r e' fr o k) (k v o) (qt fI b)) B
noncomputable def vZ(fI:ah)(cx:Cx)(B:G aX):Fm->MH->(ah->MH->ag)->ag:=@b9 aX (λ_=>Fm->MH->(ah->MH->ag)->ag) (λ_ o k=>k fI o)
 (λe _ r fr o k=>O.fe cx e fr o λb o=>@bN (λ_=>ag) (r fr o k) (k b o) (qt fI b)) B
noncomputable def Eh(cx:Cx)(ks:G (aa aX)):G aX->Fm->MH->(G D->G D->MH->ag)->ag:=@b9 (aa aX) (λ_=>G aX->Fm->MH->(G D->G D->MH->ag)->ag)
 (λV _ o k=>match V with
  |[]=>k [] [] o
  |_::_=>Z.fail)
 (λa _ r V fr o k=>match V with
  |[]=>Z.fail
  |v::V=>match a with
   |some a=>O.ev cx a fr o λkv o=>O.ev cx v fr o λvv o=>r V fr o λa b o=>k (kv::a) (vv::b) o
   |.none=>Z.fail) ks
noncomputable def qN(cx:Cx)(e:aX)(fr:Fm)(o:MH)(k:It->MH->ag):ag:=O.ev cx e fr o λv o=>Z.opt (pV o v) λit=>k it o
noncomputable def Vl(cx:Cx)(a:aX)(fr:Fm)(o:MH)(k:It->MH->ag):ag:=O.ev cx a fr o λv o=>match v with
 |.int n=>@bN (λ_=>ag) Z.fail (k (.range 0 n) o) (small n)
 |_=>Z.fail
noncomputable def Vm(cx:Cx)(a b:aX)(fr:Fm)(o:MH)(k:It->MH->ag):ag:=O.ev cx a fr o λv o=>O.ev cx b fr o λu o=>Z.opt (pV o v) λx=>Z.opt (pV o u) λy=>k (.zip x y) o
noncomputable def uG(cx:Cx)(e:aX)(fr:Fm)(o:MH)(k:It->MH->ag):ag:=match B5 e with
 |.one x _ a=>match nameOf W cx fr x with
  |some v=>match v with
   |.bi b=>match b with
    |.range=>Vl Z O cx a fr o k
    |.zip=>Z.fail
    |_=>qN Z O cx e fr o k
   |_=>qN Z O cx e fr o k
  |.none=>qN Z O cx e fr o k
 |.two x _ a b=>match nameOf W cx fr x with
  |some v=>match v with
   |.bi J=>match J with
    |.zip=>Vm Z O cx a b fr o k
    |_=>qN Z O cx e fr o k
   |_=>qN Z O cx e fr o k
  |.none=>qN Z O cx e fr o k
 |.other=>qN Z O cx e fr o k
noncomputable def yC(f:D)(B:G D):MH->(G (G H×D)->MH->ag)->ag:=@b9 D (λ_=>MH->(G (G H×D)->MH->ag)->ag) (λo k=>k [] o)
 (λv _ r o k=>O.call f [v] o λu o=>match u with
  |.str s=>r o λB o=>k ((s.1.1,v)::B) o
  |_=>Z.fail) B
noncomputable def Bf(B:G H):ah:=@b9 H (λ_=>ah) true (λa _ O=>@bN (λ_=>ah) false O (dB a 1114112)) B
noncomputable def Ln(J:Const)(o:MH)(k:D->MH->ag):ag:=match J with
 |.none=>k .none o
 |.bool b=>k (.bool b) o
 |.int i=>k (.int i) o
 |.str s=>@bN (λ_=>ag) Z.fail (k (.str s) o) (Bf s.1.1)
 |_=>Z.fail
noncomputable def Ac(cx:Cx)(e:aa aX)(fr:Fm)(o:MH)(k:D->MH->ag):ag:=match e with
 |.none=>k .none o
 |some e=>O.ev cx e fr o k
noncomputable def GK(sc:G (ar×dc))(p:ar×dc):ah:=match p.2 with
 |.local=>true
 |.globalImplicit=>true
 |.free=>match idxOf sc p.1 0 with
  |some q=>match q.2 with
   |.cell=>true
   |_=>false
  |.none=>false
 |_=>false
noncomputable def tg(sc cB:G (ar×dc)):ah:=@b9 (ar×dc) (λ_=>ah) true (λp r O=>GK sc p&&!(cK (g_ r p.1))&&O) cB
noncomputable def uF(cx:Cx)(cQ t i:aX)(dj:G aX)(gs:G rE)(cB:G (ar×dc))(fr:Fm)(o:MH)(k:D->MH->ag):ag:=match cx.comp with
 |.none=>@bN (λ_=>ag) Z.fail (uG Z W O cx i fr o λit o=>O.cmp ⟨cx.sc,some cB⟩ cQ t dj gs it [] ⟨fr.vars,cB.map λ_=>.none⟩ o λB _ o=>iV Z o (.list B.length B) k) (tg cx.sc cB)
 |some _=>Z.fail
noncomputable def r9(v:D):ah:=match v with
 |.fn a=>match W.fn a with
  |some _=>true
  |.none=>match W.cls a with
   |some _=>true
   |.none=>false
 |.bi _=>true
 |_=>false
noncomputable def Np(cx:Cx)(v:D)(x:ar)(args:G aX)(fr:Fm)(o:MH)(k:D->MH->ag):ag:=match A6 o W (yN W v) x with
 |some f=>@bN (λ_=>ag) Z.fail (sy O cx args fr o λV o=>O.call (.fn f) (v::V) o k) (r9 W (.fn f))
 |.none=>Z.opt (Hl o v x) λm=>sy O cx args fr o λV o=>Dg Z (yc o v m V) v o k
noncomputable def HE(u g:D)(o:MH)(k:D->MH->ag):ag:=match g with
 |.fn _=>match eV o u with
  |some p=>match dB p.2.length 64 with
   |true=>yC Z O g (rv p.2) o λks o=>Z.opt (tF (oU ks [])) λB=>iV Z o (.list p.1 (rv B)) k
   |false=>Z.fail
  |.none=>Z.fail
 |_=>Z.fail
noncomputable def adF(v u g:D)(o:MH)(k:D->MH->ag):ag:=match v with
 |.bi b=>match b with
  |.sorted=>HE Z O u g o k
  |_=>Z.fail
 |_=>Z.fail
noncomputable def xa(o:MH)(op:CmpOp)(a b:D):aa ah:=match op with
 |.Eq=>match W.eqv a b with
  |some r=>some r
  |.none=>zV o .Eq a b
 |.NotEq=>match W.eqv a b with
  |some r=>some (!r)
  |.none=>zV o .NotEq a b
 |op=>zV o op a b
noncomputable def K6(x:ar)(cx:Cx)(fr:Fm)(o:MH)(k:D->MH->ag):ag:=Z.opt (nameOf W cx fr x) λv=>k v o
noncomputable def K_(op:UnaryOp)(a:aX)(cx:Cx)(fr:Fm)(o:MH)(k:D->MH->ag):ag:=O.ev cx a fr o λv o=>Z.opt (Pt op v) λu=>k u o
noncomputable def KY(a:aX)(op:Operator)(b:aX)(cx:Cx)(fr:Fm)(o:MH)(k:D->MH->ag):ag:=O.ev cx a fr o λx o=>O.ev cx b fr o λy o=>answer Z (binOp o op x y) o k
noncomputable def K0(a:aX)(op:CmpOp)(b:aX)(cx:Cx)(fr:Fm)(o:MH)(k:D->MH->ag):ag:=O.ev cx a fr o λx o=>O.ev cx b fr o λy o=>Z.opt (xa W o op x y) λr=>k (.bool r) o
noncomputable def K2(t a b:aX)(cx:Cx)(fr:Fm)(o:MH)(k:D->MH->ag):ag:=O.fe cx t fr o λJ o=>@bN (λ_=>ag) (O.ev cx b fr o k) (O.ev cx a fr o k) J
noncomputable def K9(R:G aX)(cx:Cx)(fr:Fm)(o:MH)(k:D->MH->ag):ag:=sy O cx R fr o λV o=>@bN (λ_=>ag) Z.fail (k (.tup V) o) (jG V)
noncomputable def K4(R:G aX)(cx:Cx)(fr:Fm)(o:MH)(k:D->MH->ag):ag:=sy O cx R fr o λV o=>iV Z o (.list V.length (rv V)) k
noncomputable def K1(ks:G (aa aX))(V:G aX)(cx:Cx)(fr:Fm)(o:MH)(k:D->MH->ag):ag:=Eh Z O cx ks V fr o λa b o=>Z.opt (uB a b []) λR=>iV Z o (.dict R) k
noncomputable def KX(E:aX)(x:ar)(cx:Cx)(fr:Fm)(o:MH)(k:D->MH->ag):ag:=O.ev cx E fr o λv o=>Z.opt (EA o W (yN W v) x) λu=>k u o
noncomputable def K3(E i:aX)(cx:Cx)(fr:Fm)(o:MH)(k:D->MH->ag):ag:=O.ev cx E fr o λv o=>O.ev cx i fr o λa o=>Z.opt (HR o v a) λu=>k u o
noncomputable def K7(E:aX)(lo up st:aa aX)(cx:Cx)(fr:Fm)(o:MH)(k:D->MH->ag):ag:=O.ev cx E fr o λv o=>Ac O cx lo fr o λB o=>Ac O cx up fr o λu o=>Ac O cx st fr o λs o=>answer Z (HD o v B u s) o k
noncomputable def KZ(f:aX)(args:G aX)(cx:Cx)(fr:Fm)(o:MH)(k:D->MH->ag):ag:=O.ev cx f fr o λv o=>@bN (λ_=>ag) Z.fail (sy O cx args fr o λV o=>O.call v V o k) (r9 W v)
noncomputable def K5(E:aX)(x:ar)(args:G aX)(cx:Cx)(fr:Fm)(o:MH)(k:D->MH->ag):ag:=O.ev cx E fr o λv o=>Np Z W O cx v x args fr o k
noncomputable def K8(f a kf:aX)(cx:Cx)(fr:Fm)(o:MH)(k:D->MH->ag):ag:=O.ev cx f fr o λv o=>@bN (λ_=>ag) Z.fail (O.ev cx a fr o λu o=>O.ev cx kf fr o λg o=>adF Z O v u g o k) (r9 W v)
noncomputable def Ei(cx:Cx)(e:aX)(fr:Fm)(o:MH)(k:D->MH->ag):ag:=@VE.rec (λ_=>ag)
 (λJ=>Ln Z J o k) (λx=>K6 Z W x cx fr o k) (λfI e R=>Dy Z O fI cx R e fr o k) (λop a=>K_ Z O op a cx fr o k) (λa op b=>KY Z O a op b cx fr o k) (λa op b=>K0 Z W O a op b cx fr o k)
 (λt a b=>K2 O t a b cx fr o k) (λR=>K9 Z O R cx fr o k) (λR=>K4 Z O R cx fr o k) (λks V=>K1 Z O ks V cx fr o k) (λE x=>KX Z W O E x cx fr o k) (λE i=>K3 Z O E i cx fr o k)
 (λE lo up st=>K7 Z O E lo up st cx fr o k) (λcQ t i dj gs cB=>uF Z W O cx cQ t i dj gs cB fr o k) (λf args=>KZ Z W O f args cx fr o k) (λE x args=>K5 Z W O E x args cx fr o k) (λf a kf=>K8 Z W O f a kf cx fr o k)
 Z.fail (view e)
noncomputable def Ig(cx:Cx)(e:aX)(fr:Fm)(o:MH)(k:ah->MH->ag):ag:=match Iv e with
 |.nc fI R=>vZ O fI cx R fr o k
 |.not a=>O.fe cx a fr o λb o=>k (!b) o
 |.cmp a op b=>O.ev cx a fr o λx o=>O.ev cx b fr o λy o=>Z.opt (xa W o op x y) λr=>k r o
 |.plain=>O.ev cx e fr o λv o=>zL Z v λb=>k b o
 |.bad=>Z.fail
noncomputable def asg(cx:Cx)(t:aX)(v:D)(fr:Fm)(o:MH)(k:Fm->MH->ag):ag:=match qo t with
 |.attr E x=>O.ev cx E fr o λov o=>Z.opt (Hi o W ov v x) λq=>nN Z o q.1 q.2 λo=>k fr o
 |.item E i=>O.ev cx E fr o λov o=>O.ev cx i fr o λa o=>Z.opt (putItem o ov a v) λq=>nN Z o q.1 q.2 λo=>k fr o
 |_=>Z.opt (pC W cx fr t v) λfr=>k fr o
noncomputable def Ek(cx:Cx)(s:en)(fr:Fm)(o:MH)(k:eh->Fm->MH->ag):ag:=match Iw s with
 |.expr e=>O.ev cx e fr o λ_ o=>k .next fr o
 |.ret e=>O.ev cx e fr o λv o=>k (.ret v) fr o
 |.asg t e=>O.ev cx e fr o λv o=>asg Z W O cx t v fr o λfr o=>k .next fr o
 |.wV t cQ tt i dj gs cB=>uF Z W O cx cQ tt i dj gs cB fr o λv o=>Z.opt (pC W cx fr t v) λfr=>k .next fr o
 |.qW t a b=>O.fe cx t fr o λJ o=>@bN (λ_=>ag) (iy O cx b fr o k) (iy O cx a fr o k) J
 |.iO t b=>O.iO cx t b fr o k
 |.for t i b=>uG Z W O cx i fr o λit o=>O.forL cx t it b fr o k
 |.bad=>Z.fail
noncomputable def PO(cx:Cx)(t:aX)(b:G en)(fr:Fm)(o:MH)(k:eh->Fm->MH->ag):ag:=O.fe cx t fr o λJ o=>
 @bN (λ_=>ag) (k .next fr o) (iy O cx b fr o λf fr o=>@eh.rec (λ_=>ag) (O.iO cx t b fr o k) (λv=>k (.ret v) fr o) f) J
noncomputable def GJ(it:It)(t:aX):ah:=match it with
 |.zip _ _=>match t with
  |.Tuple _ _ _=>true
  |_=>false
 |_=>true
noncomputable def Et(cx:Cx)(t:aX)(it:It)(b:G en)(fr:Fm)(o:MH)(k:eh->Fm->MH->ag):ag:=match fs o it with
 |some x=>match x with
  |some q=>@bN (λ_=>ag) Z.fail (Z.opt (pC W cx fr t q.1) λfr=>iy O cx b fr o λf fr o=>@eh.rec (λ_=>ag) (O.forL cx t q.2 b fr o k) (λv=>k (.ret v) fr o) f) (GJ it t)
  |.none=>k .next fr o
 |.none=>Z.fail
noncomputable def DJ(cx:Cx)(cQ:aX)(gs:G rE)(b_:G D)(fr:Fm)(o:MH)(k:G D->Fm->MH->ag):ag:=match gs with
 |[]=>O.ev cx cQ fr o λx o=>@bN (λ_=>ag) Z.fail (k (x::b_) fr o) (jG b_)
 |g::gs=>match g with
  |⟨t,i,dj,a⟩=>match eqZ a 0&&mE i with
   |true=>uG Z W O cx i fr o λit o=>O.cmp cx cQ t dj gs it b_ fr o k
   |false=>Z.fail
noncomputable def DK(cx:Cx)(cQ t:aX)(dj:G aX)(gs:G rE)(it:It)(b_:G D)(fr:Fm)(o:MH)(k:G D->Fm->MH->ag):ag:=match fs o it with
 |some x=>match x with
  |some q=>@bN (λ_=>ag) Z.fail (Z.opt (pC W cx fr t q.1) λfr=>vZ O true cx dj fr o λok o=>
   @bN (λ_=>ag) (O.cmp cx cQ t dj gs q.2 b_ fr o k) (DJ Z W O cx cQ gs b_ fr o λb_ fr o=>O.cmp cx cQ t dj gs q.2 b_ fr o k) ok) (GJ it t)
  |.none=>k b_ fr o
 |.none=>Z.fail
noncomputable def tI(F:Fn)(args:G D):aa (G (aa D)):=match eB args.length F.hO&&eB (F.hO-args.length) F.jg.length with
 |true=>some (app ((app args (F.jg.drop (F.jg.length-(F.hO-args.length)))).map some) ((F.sc.drop F.hO).map λ_=>.none))
 |false=>.none
noncomputable def uv(F:Fn)(args:G D)(o:MH)(k:D->MH->ag):ag:=Z.opt (tI F args) λb=>iy O ⟨F.sc,.none⟩ F.body ⟨b,[]⟩ o λf _ o=>@eh.rec (λ_=>ag) (k .none o) (λv=>k v o) f
noncomputable def Ki(F:Fn)(args:G D)(o:MH)(k:D->MH->ag):ag:=match args with
 |[a,b]=>match a with
  |.ref j=>match o.t.get j with
   |some E=>match E with
    |.dh=>match b with
     |.int top=>match ltZ 0 top&&ltZ top 8&&eB 20 O.lvl with
      |true=>Z.all top.toNat λd=>k (.int (.ofNat d)) o
      |false=>Z.fail
     |_=>Z.fail
    |_=>uv Z O F args o k
   |.none=>Z.fail
  |_=>Z.fail
 |_=>Z.fail
noncomputable def made(k:D->MH->ag)(x u:D)(o:MH):ag:=match u with
 |.none=>k x o
 |_=>Z.fail
noncomputable def Gb(a:H)(F:Fn)(args:G D)(o:MH)(k:D->MH->ag):ag:=iV Z o (.dict []) λd Z3=>iV Z Z3 (.inst a o.n) λx Z4=>uv Z O F (x::args) Z4 λu br=>made Z k x u br
noncomputable def Kh(a:H)(args:G D)(o:MH)(k:D->MH->ag):ag:=match W.fn a with
 |some F=>match bA a W.pull with
  |true=>Ki Z O F args o k
  |false=>uv Z O F args o k
 |.none=>Z.opt (W.cls a) λms=>Z.opt (g_ ms.1 Hv) λi=>Z.opt (W.fn i) λF=>Gb Z O a F args o k
noncomputable def DB(f:D)(args:G D)(o:MH)(k:D->MH->ag):ag:=match f with
 |.fn a=>match W.gX a args o with
  |some p=>@bN (λ_=>ag) Z.fail (k p.2.1 p.2.2) (eB p.1 O.lvl)
  |.none=>Kh Z W O a args o k
 |.bi v=>answer Z (Kb o v args) o k
 |_=>Z.fail
noncomputable def Ol(n:H):Ops ag:=⟨Ei Z W O,Ig Z W O,Ek Z W O,DB Z W O,PO O,Et Z W O,DK Z W O,n⟩
end
noncomputable def run(Z:cU ag)(W:bQ)(n:H):Ops ag:=@nZ (λ_=>Ops ag) (Lu Z) (λn E=>Ol Z W E (cX n)) n
theorem bz{P:Prop}(e:false=true):P:=nomatch e
theorem aB{α:Type _}{a:α}{P:Prop}(e:none=some a):P:=nomatch e
theorem ql{α:Type _}{a:α}{P:Prop}(e:some a=none):P:=nomatch e
theorem Ie{P:Prop}(e:true=false):P:=nomatch e
section
variable{p q r s:Prop}{az:Prop}
theorem D.Pl{a b:G D}(h:D.tup a=.tup b):a=b:=D.noConfusion h id
theorem D.str_inj{a b:ar}(h:D.str a=.str b):a=b:=D.noConfusion h id
theorem D.V7{k B:FK}{a b:G D}(h:D.aD k a=.aD B b):k=B/\a=b:=D.noConfusion h Cc
theorem FK.Ud{a b:G ar}(h:FK.dict a=.dict b):a=b:=FK.noConfusion h id
theorem Yb{α:Type}{J:Prop} [Decidable J]{a b:α}{P:α->Prop}(h1:J->P a)(h2:¬J->P b):P (if J then a else b):=by
 by_cases q:J
 .rw [bT q];exact h1 q
 .rw [bl q];exact h2 q
theorem xA(h:p/\q)(k:p->q->az):az:=k h.1 h.2
theorem cf(h:p/\q/\r)(k:p->q->r->az):az:=k h.1 h.2.1 h.2.2
theorem eN(h:p/\q/\r/\s)(k:p->q->r->s->az):az:=k h.1 h.2.1 h.2.2.1 h.2.2.2
end
section
variable{α β γ:Sort _}{az:Prop}
section
variable{p q r s:α->Prop}
theorem ay(h:∃a,p a/\q a)(k:∀a,p a->q a->az):az:=h.elim λa z=>k a z.1 z.2
theorem fM(h:∃a,p a/\q a/\r a)(k:∀a,p a->q a->r a->az):az:=h.elim λa z=>k a z.1 z.2.1 z.2.2
theorem iZ(h:∃a,p a/\q a/\r a/\s a)(k:∀a,p a->q a->r a->s a->az):az:=h.elim λa z=>k a z.1 z.2.1 z.2.2.1 z.2.2.2
end
section
variable{p q r s:α->β->Prop}
theorem gJ(h:∃a b,p a b)(k:∀a b,p a b->az):az:=h.elim λa z=>z.elim λb y=>k a b y
theorem jv(h:∃a b,p a b/\q a b)(k:∀a b,p a b->q a b->az):az:=h.elim λa z=>z.elim λb y=>k a b y.1 y.2
theorem eO(h:∃a b,p a b/\q a b/\r a b)(k:∀a b,p a b->q a b->r a b->az):az:=h.elim λa z=>z.elim λb y=>k a b y.1 y.2.1 y.2.2
theorem eK(h:∃a b,p a b/\q a b/\r a b/\s a b)(k:∀a b,p a b->q a b->r a b->s a b->az):az:=h.elim λa z=>z.elim λb y=>k a b y.1 y.2.1 y.2.2.1 y.2.2.2
end
section
variable{p q r s:α->β->γ->Prop}
theorem dO(h:∃a b J,p a b J/\q a b J)(k:∀a b J,p a b J->q a b J->az):az:=h.elim λa z=>z.elim λb y=>y.elim λJ x=>k a b J x.1 x.2
end
end
namespace MT
theorem beq_eq(a b:H):bA a b=decide (a=b):=by
 by_cases h:a=b
 .subst h;simp [CH]
 .rw [jf h]
  cases q:bA a b with
  |false=>rfl
  |true=>exact bP (dU q) h
theorem get_nil(i:H):MT.nil.get i=none:=rfl
theorem Fv{α:Type}(x y z:α)(i:H):@bN (λ_=>α) (@bN (λ_=>α) x y (bA (uf i 2) 1)) z (bA i 0)=if i=0 then z else if i%2=1 then y else x:=by
 cases h:bA i 0 with
 |true=>rw [bT (dU h)]
 |false=>
  rw [bl (CL h)]
  cases q:bA (uf i 2) 1 with
  |true=>exact(bT (dU q)).symm
  |false=>exact(bl (CL q)).symm
theorem get_node(v:cJ)(B r:MT)(i:H):(node v B r).get i=if i=0 then some v else if i%2=1 then B.get (i / 2) else r.get (i / 2-1):=Fv ..
theorem set_node(v:cJ)(B r:MT)(i:H)(E:cJ):(node v B r).set i E=if i=0 then node E B r else if i%2=1 then node v (B.set (i / 2) E) r else node v B (r.set (i / 2-1) E):=Fv ..
theorem ins_node(v:cJ)(B r:MT)(i:H)(E:cJ):(node v B r).ins i E=if i=0 then node E B r else if i%2=1 then node v (B.ins (i / 2) E) r else node v B (r.ins (i / 2-1) E):=Fv ..
theorem L6(p:i%2=1)(q:a%2=1)(h:i / 2=a / 2):i=a:=by rw [<-uc i 2,<-uc a 2,p,q,h]
theorem L5(hi:i≠0)(p:¬i%2=1)(ha:a≠0)(q:¬a%2=1)(h:i / 2-1=a / 2-1):i=a:=by
 have p:=Rj.mp p
 have q:=Rj.mp q
 have xF:i / 2≠0:=λz=>hi (by rw [<-uc i 2,z,p])
 have Wr:a / 2≠0:=λz=>ha (by rw [<-uc a 2,z,q])
 rw [<-uc i 2,<-uc a 2,p,q,show i / 2=a / 2 from(Rw xF).symm.trans ((cq cX h).trans (Rw Wr))]
theorem get_set(E:cJ)(t:MT):∀a i:H,(t.set a E).get i=if i=a then(t.get a).map (λ_=>E) else t.get i:=by
 induction t with
 |nil=>exact λa i=>by show none=if i=a then none else none;split<;>rfl
 |node v B r hl hr=>
  intro a i
  rw [set_node,get_node v B r a,get_node v B r i]
  by_cases ha:a=0
  .rw [bT ha,bT ha,get_node,ha]
   by_cases hi:i=0
   .rw [bT hi,bT hi];rfl
   .rw [bl hi,bl hi,bl hi]
  .rw [bl ha,bl ha]
   by_cases pa:a%2=1
   .rw [bT pa,bT pa,get_node]
    by_cases hi:i=0
    .rw [bT hi,bT hi,bl (λ(z:i=a)=>ha (z▸hi))]
    .rw [bl hi,bl hi]
     by_cases pi:i%2=1
     .rw [bT pi,bT pi,hl]
      by_cases e:i=a
      .rw [bT (cq (· / 2) e),bT e]
      .rw [bl (λz=>e (L6 pi pa z)),bl e]
     .rw [bl pi,bl pi,bl (λ(z:i=a)=>pi (z▸pa))]
   .rw [bl pa,bl pa,get_node]
    by_cases hi:i=0
    .rw [bT hi,bT hi,bl (λ(z:i=a)=>ha (z▸hi))]
    .rw [bl hi,bl hi]
     by_cases pi:i%2=1
     .rw [bT pi,bT pi,bl (λ(z:i=a)=>pa (z▸pi))]
     .rw [bl pi,bl pi,hr]
      by_cases e:i=a
      .rw [bT (cq (· / 2-1) e),bT e]
      .rw [bl (λz=>e (L5 hi pi ha pa z)),bl e]
theorem get_ins(E:cJ)(t:MT):∀a:H,((t.ins a E).get a).isSome=true->∀i,(t.ins a E).get i=if i=a then some E else t.get i:=by
 induction t with
 |nil=>
  intro a h i
  have e:(MT.nil.ins a E)=node E nil nil:=rfl
  rw [e,get_node] at h⊢
  by_cases ha:a=0
  .rw [ha]
   by_cases hi:i=0
   .rw [bT hi,bT hi]
   .rw [bl hi,bl hi];split<;>rfl
  .rw [bl ha] at h
   by_cases p:a%2=1
   .rw [bT p] at h;exact mQ (h:false=true)
   .rw [bl p] at h;exact mQ (h:false=true)
 |node v B r hl hr=>
  intro a h i
  rw [ins_node] at h⊢
  rw [get_node v B r i]
  by_cases ha:a=0
  .rw [bT ha,get_node,ha]
   by_cases hi:i=0
   .rw [bT hi,bT hi]
   .rw [bl hi,bl hi,bl hi]
  .rw [bl ha] at h⊢
   by_cases pa:a%2=1
   .rw [bT pa,get_node,bl ha,bT pa] at h
    rw [bT pa,get_node]
    by_cases hi:i=0
    .rw [bT hi,bT hi,bl (λ(z:i=a)=>ha (z▸hi))]
    .rw [bl hi,bl hi]
     by_cases pi:i%2=1
     .rw [bT pi,bT pi,hl _ h]
      by_cases e:i=a
      .rw [bT (cq (· / 2) e),bT e]
      .rw [bl (λz=>e (L6 pi pa z)),bl e]
     .rw [bl pi,bl pi,bl (λ(z:i=a)=>pi (z▸pa))]
   .rw [bl pa,get_node,bl ha,bl pa] at h
    rw [bl pa,get_node]
    by_cases hi:i=0
    .rw [bT hi,bT hi,bl (λ(z:i=a)=>ha (z▸hi))]
    .rw [bl hi,bl hi]
     by_cases pi:i%2=1
     .rw [bT pi,bT pi,bl (λ(z:i=a)=>pa (z▸pi))]
     .rw [bl pi,bl pi,hr _ h]
      by_cases e:i=a
      .rw [bT (cq (· / 2-1) e),bT e]
      .rw [bl (λz=>e (L5 hi pi ha pa z)),bl e]
end MT
theorem YB{α:Type _}{a:α}{B:G α}{P:Prop}(h:[]=a::B):P:=nomatch h
theorem xX{α:Type _}{a:α}{B:G α}{P:Prop}(h:a::B=[]):P:=nomatch h
theorem mI{α β:Type}{E:aa α}{F:α->aa β}{q:β}(e:(match E with|some a=>F a|.none=>.none)=some q):∃a,E=some a/\F a=some q:=by
 cases E with
 |none=>nomatch e
 |some a=>exact⟨a,rfl,e⟩
theorem bI(e:(match b with|true=>x|false=>.none)=some q):b=true/\x=some q:=by
 cases b with
 |false=>nomatch e
 |true=>exact⟨rfl,e⟩
noncomputable def P8(P:H->Prop)(n:H):Prop:=@nZ (λ_=>Prop) jz (λi a=>P i/\a) n
theorem rZ(h:P8 P n):∀j,j<n->P j:=by
 induction n with
 |zero=>exact λ_ h=>bP h (zp _)
 |succ n O=>exact λj hj=>(Rf.mp hj).elim (O h.2 j) λq=>q▸h.1
theorem M1{x y:G H}:vh x y=true↔x=y:=by
 induction x generalizing y with
 |nil=>cases y with
  |nil=>exact⟨λ_=>rfl,λ_=>rfl⟩
  |cons=>exact⟨mQ,YB⟩
 |cons a x O=>cases y with
  |nil=>exact⟨mQ,xX⟩
  |cons b y=>
   refine(?_:@bN (λ_=>ah) false (vh x y) (bA a b)=true↔_)
   cases h:bA a b with
   |true=>
    rw [<-dU h]
    exact⟨λq=>cq _ (O.mp q),λq=>O.mpr (qz q).2⟩
   |false=>exact⟨mQ,λq=>bP (qz q).1 (CL h)⟩
theorem lV:seq a b=true↔a=b:=by
 obtain⟨⟨x⟩⟩:=a
 obtain⟨⟨y⟩⟩:=b
 refine(?_:vh x y=true↔_)
 rw [M1]
 constructor
 .rintro rfl;rfl
 .intro h;injection h with h;injection h
theorem seq_eq(a b:ar):seq a b=decide (a=b):=by
 by_cases h:a=b
 .rw [ix h];exact lV.mpr h
 .rw [jf h]
  cases q:seq a b with
  |false=>rfl
  |true=>exact bP (lV.mp q) h
theorem gM{α:Type}(B m:G α):app B m=B++m:=by
 induction B with
 |nil=>rfl
 |cons a B O=>show a::app B m=_;rw [O];rfl
theorem oN{α:Type}(B:G α):∀k:H,fJ B k=B[k]?:=by
 induction B with
 |nil=>exact λ_=>rfl
 |cons a B O=>exact λk=>k.casesOn rfl O
theorem qb{α:Type}(B:G α):∀(k:H) (v:α),qa B k v=B.set k v:=by
 induction B with
 |nil=>exact λ_ _=>rfl
 |cons a B O=>exact λk=>k.casesOn (λ_=>rfl) λk v=>cq (List.cons a) (O k v)
theorem j5(a b:ba):ltZ a b=true↔a<b:=Z.ltB_iff a b
theorem ltZ_eq(a b:ba):ltZ a b=decide (a<b):=by
 by_cases h:a<b
 .rw [ix h];exact(j5 a b).mpr h
 .rw [jf h]
  cases q:ltZ a b with
  |false=>rfl
  |true=>exact bP ((j5 a b).mp q) h
theorem jC(a b:ba):eqZ a b=true↔a=b:=by
 cases a with
 |ofNat m=>cases b with
  |ofNat n=>exact⟨λh=>cq _ (dU h),λh=>Int.ofNat.inj h▸CH m⟩
  |negSucc n=>exact⟨λh=>mQ (h:false=true),λh=>nomatch h⟩
 |negSucc m=>cases b with
  |ofNat n=>exact⟨λh=>mQ (h:false=true),λh=>nomatch h⟩
  |negSucc n=>exact⟨λh=>cq _ (dU h),λh=>Int.negSucc.inj h▸CH m⟩
theorem eqZ_eq(a b:ba):eqZ a b=decide (a=b):=by
 by_cases h:a=b
 .rw [ix h];exact(jC a b).mpr h
 .rw [jf h]
  cases q:eqZ a b with
  |false=>rfl
  |true=>exact bP ((jC a b).mp q) h
theorem acC{α:Type}(B:G α):∀m:G α,Ho B m=B.reverse++m:=by
 induction B with
 |nil=>exact λ_=>rfl
 |cons a B O=>exact λm=>(O (a::m)).trans (by rw [rP,l_];rfl)
theorem fD{α:Type}(B:G α):rv B=B.reverse:=by show Ho B []=_;rw [acC];simp
section
noncomputable abbrev kX(V:dS aw)(n:H):jy:={cls:=.type "tuple",data:=.seq V n}
noncomputable abbrev fT(V:dS aw)(n:H):jy:={cls:=.type "list",data:=.seq V n}
noncomputable def cM(F C:G aA)(a:aA):Prop:=a∉F/\a∉C
structure WB where
 w:dF
 tok:H->G aA->G aA->aP->aw->Prop
 mono:∀{i:H} {F C:G aA} {h:aP} {F' ao:G aA} {M:aP} {v:aw},(∀a E,h.get? a=some E->cM F C a->M.get? a=some E/\cM F' ao a)->tok i F C h v->tok i F' ao M v
 hand:∀{i:H} {F C:G aA} {h:aP} {v:aw},tok i F C h v->handedIn v=true
section rel
variable(c:a_)(w:WB)
inductive Under{K:Type}(P:D->aw->Prop)(key:K->D):G (D×D)->G (K×aw)->Prop
 |nil:Under P key [] []
 |cons {k:K} {m:D} {v:aw} {B:G (D×D)} {r:G (K×aw)}:P m v->Under P key B r->Under P key ((key k,m)::B) ((k,v)::r)
mutual
noncomputable def VR(F C:G aA)(h:aP):D->aw->Prop
 |.none,v=>v=.none
 |.bool b,v=>v=.bool b
 |.int i,v=>∃t,v=.int i t
 |.str s,v=>(∃t,v=.str s t)/\g8 s=true
 |.tup B,v=>∃a V n,v=.ref a/\cM F C a/\h.get? a=some (kX V n)/\aW F C h B V.toList
 |.ref i,v=>∃a,C[i]?=some a/\v=.ref a
 |.fn a,v=>v=.ref a
 |.bi b,v=>v=b.value
 |.fuel k,v=>∃i t,v=.int i t/\(k:ba)<=i
 |.aD (.list b) B,v=>∃a V n,v=.ref a/\cM F C a/\h.get? a=some (fT V n)/\B.length<=b/\b<=4096/\aW F C h B V.toList
 |.aD (.dict ks) B,v=>∃a V,v=.ref a/\cM F C a/\(a==tK)=false/\h.DictOf (strKind c w.w) a (ks.zip V)/\ks.length=B.length/\aW F C h B V
 |.aD (.inst aq ks) B,v=>∃a d V,v=.ref a/\cM F C a/\cM F C d/\h.get? a=some (uZ aq d)/\h.DictOf (strKind c w.w) d (ks.zip V)/\ks.length=B.length/\aW F C h B V
 |.tok i,v=>w.tok i F C h v
 |.any,_=>jz
noncomputable def aW(F C:G aA)(h:aP):G D->G aw->Prop
 |[],V=>V=[]
 |m::B,V=>∃v r,V=v::r/\VR F C h m v/\aW F C h B r
end
end rel
section
variable{c:a_}{w:WB}{F C:G aA}{h:aP}
theorem aW.nil:aW c w F C h [] []:=rfl
theorem aW.cons{m:D}{B:G D}{v:aw}{r:G aw}(x:VR c w F C h m v)(y:aW c w F C h B r):aW c w F C h (m::B) (v::r):=⟨v,r,rfl,x,y⟩
inductive dR(c:a_)(w:WB)(F C:G aA)(h:aP)(m:D)(B:G D)(V:G aw):Prop
 |mk (v:aw) (r:G aw):V=v::r->VR c w F C h m v->aW c w F C h B r->dR c w F C h m B V
theorem dR.el{az:Prop}(z:dR c w F C h m B V)(k:∀v r,V=v::r->VR c w F C h m v->aW c w F C h B r->az):az:=z.casesOn k
theorem aW.cj(x:aW c w F C h (m::B) V):dR c w F C h m B V:=
 bw x λv x=>x.elim λr x=>⟨v,r,x.1,x.2.1,x.2.2⟩
inductive gq(c:a_)(w:WB)(F C:G aA)(h:aP)(B:G D)(v:aw):Prop
 |mk (a:aA) (V:dS aw) (n:H):v=.ref a->cM F C a->h.get? a=some (kX V n)->aW c w F C h B V.toList->gq c w F C h B v
theorem gq.el{az:Prop}(z:gq c w F C h B v)(k:∀a V n,v=.ref a->cM F C a->h.get? a=some (kX V n)->aW c w F C h B V.toList->az):az:=z.casesOn k
theorem VR.gi(x:VR c w F C h (.tup B) v):gq c w F C h B v:=by
 refine dO x λa V n e bB=>cf bB λf g y=>?_
 exact⟨a,V,n,e,f,g,y⟩
theorem aW.dW(x:aW c w F C h [] V):V=[]:=x
theorem aW.length:aW c w F C h B V->V.length=B.length:=by
 induction B generalizing V with
 |nil=>exact λx=>x.dW▸rfl
 |cons m B O=>
  intro x
  refine dR.el x.cj λv r aE _ y=>?_;subst aE
  exact cq (· +1) (O y)
theorem aW.one(x:VR c w F C h m v):aW c w F C h [m] [v]:=.cons x .nil
theorem aW.append:aW c w F C h B V->aW c w F C h l' gj->aW c w F C h (B++l') (V++gj):=by
 induction B generalizing V with
 |nil=>exact λx y=>x.dW▸y
 |cons m B O=>
  intro x y
  refine dR.el x.cj λv r aE a b=>?_;subst aE
  exact .cons a (O b y)
theorem aW.reverse:aW c w F C h B V->aW c w F C h B.reverse V.reverse:=by
 induction B generalizing V with
 |nil=>exact λx=>x.dW▸.nil
 |cons m B O=>
  intro x
  refine dR.el x.cj λv r aE a b=>?_;subst aE
  rw [rP,rP]
  exact(O b).append (.one a)
theorem aW.take(k:H):aW c w F C h B V->aW c w F C h (B.take k) (V.take k):=by
 induction B generalizing V k with
 |nil=>exact λx=>x.dW▸(by rw [Q5,Q5];exact .nil)
 |cons m B O=>cases k with
  |zero=>exact λ_=>.nil
  |succ k=>
   intro x
   refine dR.el x.cj λv r aE a b=>?_;subst aE
   exact .cons a (O k b)
theorem aW.drop(k:H):aW c w F C h B V->aW c w F C h (B.drop k) (V.drop k):=by
 induction B generalizing V k with
 |nil=>exact λx=>x.dW▸(by rw [QE,QE];exact .nil)
 |cons m B O=>cases k with
  |zero=>exact λx=>x
  |succ k=>
   intro x
   refine dR.el x.cj λv r aE a b=>?_;subst aE
   exact O k b
theorem aW.get{k:H}:aW c w F C h B V->B[k]?=some m->∃v,V[k]?=some v/\VR c w F C h m v:=by
 induction B generalizing V k with
 |nil=>exact λ_ e=>nomatch e
 |cons a B O=>
  intro x e
  refine dR.el x.cj λv r aE q y=>?_;subst aE
  cases k with
  |zero=>exact⟨v,rfl,aM e▸q⟩
  |succ k=>exact O (V:=r) (k:=k) y e
theorem aW.get'{k:H}(x:aW c w F C h B V)(e:V[k]?=some v):∃m,B[k]?=some m/\VR c w F C h m v:=by
 have hl:=x.length
 have hk:k<B.length:=by
  refine bw (eM.mp e) λp _=>?_
  lia
 refine ay (x.get (cV hk)) λu hu hr=>?_
 rw [e] at hu;cases hu
 exact⟨_,cV hk,hr⟩
theorem aW.dropLast(x:aW c w F C h B V):aW c w F C h B.dropLast V.dropLast:=by
 rw [zd,zd,x.length];exact x.take _
end
structure bh(own C:G aA)(h:aP)(ao:G aA)(M:aP):Prop where
 pre:C<+:ao
 keep:∀b E,h.get? b=some E->b∉C->b∉own->M.get? b=some E
 out:∀b E,h.get? b=some E->b∉C->(∃o',M.get? b=some o')/\b∉ao
theorem bh.refl(own C:G aA)(h:aP):bh own C h C h:=⟨mT _,λ_ _ e _ _=>e,λb E e n=>⟨⟨E,e⟩,n⟩⟩
theorem bh.trans(x:bh own C h ao M)(y:bh own ao M IP ED):bh own C h IP ED:=
 ⟨x.pre.trans y.pre,λb E e n m=>y.keep b E (x.keep b E e n m) (x.out b E e n).2 m,λb E e n=>let⟨⟨o',e'⟩,J⟩:=x.out b E e n;y.out b o' e' J⟩
theorem bh.of_keeps(k:∀b E,h.get? b=some E->M.get? b=some E):bh own C h C M:=⟨mT _,λb E e n _=>k b E e,λb E e n=>⟨⟨E,k b E e⟩,n⟩⟩
theorem bh.more(x:bh own C h ao M)(q:∀b∈own,b∈jq\/h.get? b=none):bh jq C h ao M:=
 ⟨x.pre,λb E e n m=>x.keep b E e n λz=>(q b z).elim m λy=>(nomatch (e.symm.trans y:some E=none)),x.out⟩
theorem bh.any(x:bh [] C h ao M):bh own C h ao M:=x.more λb q=>nomatch q
section
variable{c:a_}{w:WB}{F C ao:G aA}{h M:aP}
theorem sg{K:Type} [jw K]{fS:KeyKind c w.w K}{aR:G (K×aw)}(x:h.DictOf fS a aR)(k:∀E,h.get? a=some E->M.get? a=some E):M.DictOf fS a aR:=x.imp λE x=>x.imp λ_ x=>x.imp λ_ x=>⟨k E x.1,x.2⟩
theorem qJ{K:Type} [jw K]{fS:KeyKind c w.w K}{aR:G (K×aw)}(x:h.DictOf fS a aR):∃E,h.get? a=some E:=x.imp λ_ x=>x.elim λ_ x=>x.elim λ_ x=>x.1
theorem cM.step(s:bh own C h ao M)(e:h.get? a=some E)(x:cM F C a):cM F ao a:=⟨x.1,(s.out a E e x.2).2⟩
theorem bh.at(hF:∀b∈own,b∈F)(s:bh own C h ao M)(x:cM F C a):∀E,h.get? a=some E->M.get? a=some E:=λE e=>s.keep a E e x.2 λq=>x.1 (hF a q)
noncomputable def noRef(m:D):ah:=@D.rec (λ_=>ah) (λ_=>ah) true (λ_=>true) (λ_=>true) (λ_=>true) (λ_ x=>x) (λ_=>false) (λ_=>true) (λ_=>true) (λ_=>true) (λ_ _ x=>x) true (λ_=>true) true (λ_ _ x y=>x&&y) m
noncomputable def q9(B:G D):ah:=@b9 D (λ_=>ah) true (λa _ y=>noRef a&&y) B
theorem Gx(B:G D):noRef (.tup B)=q9 B:=by
 refine(?_:@D.rec_1 (λ_=>ah) (λ_=>ah) true (λ_=>true) (λ_=>true) (λ_=>true) (λ_ x=>x) (λ_=>false) (λ_=>true) (λ_=>true) (λ_=>true) (λ_ _ x=>x) true (λ_=>true) true (λ_ _ x y=>x&&y) B=q9 B)
 induction B with
 |nil=>rfl
 |cons a B O=>show(noRef a&&_)=(noRef a&&q9 B);rw [<-O]
theorem NJ(k:FK)(B:G D):noRef (.aD k B)=q9 B:=Gx B
theorem D.ind{P:D->Prop}(none:P .none)(bool:∀b,P (.bool b))(int:∀i,P (.int i))(str:∀s,P (.str s))(tup:∀B,(∀m∈B,P m)->P (.tup B))(ref:∀i,P (.ref i))(fn:∀a,P (.fn a))(bi:∀b,P (.bi b))(fuel:∀k,P (.fuel k))
  (aD:∀k B,(∀m∈B,P m)->P (.aD k B)) (any:P .any) (tok:∀i,P (.tok i)) (m:D):P m:=
 @D.rec P (λB=>∀m∈B,P m) none bool int str tup ref fn bi fuel aD any tok (λ_ h=>nomatch h) (λ_ _ a b m h=>(bY.mp h).elim (λe=>e▸a) (b m)) m
theorem Gy(h:m∈B)(r:q9 B=true):noRef m=true:=by
 induction h with
 |head=>exact(aN.mp r).1
 |tail _ _ O=>exact O (aN.mp r).2
theorem aW.map(q:∀m∈B,∀v,VR c w F C h m v->VR c w' F' ao M m v):∀{V:G aw},aW c w F C h B V->aW c w' F' ao M B V:=by
 induction B with
 |nil=>exact λx=>x.dW▸.nil
 |cons m B O=>
  intro V x
  refine dR.el x.cj λv r aE a b=>?_;subst aE
  exact .cons (q m (.head _) v a) (O (λm hm=>q m (.tail _ hm)) b)
theorem VR.mono{F':G aA}(k:∀a E,h.get? a=some E->cM F C a->M.get? a=some E/\cM F' ao a):∀{v:aw},(noRef m=true\/∀(i:H) (a:aA),C[i]?=some a->ao[i]?=some a)->VR c w F C h m v->VR c w F' ao M m v:=
 D.ind (P:=λm=>∀{v:aw},(noRef m=true\/∀(i:H) (a:aA),C[i]?=some a->ao[i]?=some a)->VR c w F C h m v->VR c w F' ao M m v)
  (λ_ x=>x) (λ_ _ _ x=>x) (λ_ _ _ x=>x) (λ_ _ _ x=>x)
  (λB O v r x=>by
   rw [Gx] at r
   refine gq.el x.gi λa V n e f g y=>?_
   exact⟨a,V,n,e,(k _ _ g f).2,(k _ _ g f).1,y.map λm hm v=>O m hm (r.imp_left (Gy hm))⟩)
  (λi v r x=>by
   refine ay x λa e q=>?_
   exact⟨a,r.elim (λz=>mQ (z:false=true)) (λz=>z i a e),q⟩)
  (λ_ _ _ x=>x) (λ_ _ _ x=>x) (λ_ _ _ x=>x)
  (λJ B O v r x=>by
   rw [NJ] at r
   have go:∀{V:G aw},aW c w F C h B V->aW c w F' ao M B V:=λy=>y.map λm hm v=>O m hm (r.imp_left (Gy hm))
   cases J with
   |list b=>
    refine dO x λa V n e bB=>eN bB λf g b1 dA=>xA dA λb2 y=>?_
    exact⟨a,V,n,e,(k _ _ g f).2,(k _ _ g f).1,b1,b2,go y⟩
   |dict ks=>
    refine eK x λa V e f ns bB=>cf bB λg b1 y=>?_
    refine bw (qJ g) λE ho=>?_
    exact⟨a,V,e,(k _ _ ho f).2,ns,sg g (λE q=>(k _ _ q f).1),b1,go y⟩
   |inst aq ks=>
    refine dO x λa d V e bB=>eN bB λf f' g dA=>cf dA λg' b1 y=>?_
    refine bw (qJ g') λE ho=>?_
    exact⟨a,d,V,e,(k _ _ g f).2,(k _ _ ho f').2,(k _ _ g f).1,sg g' (λE q=>(k _ _ q f').1),b1,go y⟩)
  (λ_ _=>trivial) (λ_ _ _ x=>w.mono k x) m
theorem aW.mono(k:∀a E,h.get? a=some E->cM F C a->M.get? a=some E/\cM F' ao a)(r:q9 B=true\/∀(i:H) (a:aA),C[i]?=some a->ao[i]?=some a)(x:aW c w F C h B V):aW c w F' ao M B V:=
 x.map λm hm v=>VR.mono k (r.imp_left (Gy hm))
theorem bh.pl(s:bh own C h ao M):∀(i:H) (a:aA),C[i]?=some a->ao[i]?=some a:=λi a e=>by
 refine bw s.pre λt aI=>?_;subst aI
 have:=(eM.mp e).1
 rw [iD this];exact e
theorem VR.fx(hF:∀b∈own,b∈F)(s:bh own C h ao M)(x:VR c w F C h m v):VR c w F ao M m v:=x.mono (λa E e f=>⟨s.at hF f E e,f.step s e⟩) (.inr s.pl)
theorem aW.fx(hF:∀b∈own,b∈F)(s:bh own C h ao M)(x:aW c w F C h B V):aW c w F ao M B V:=x.mono (λa E e f=>⟨s.at hF f E e,f.step s e⟩) (.inr s.pl)
theorem ta:∀b∈([]:G aA),b∈F:=λb q=>nomatch q
theorem VR.step(s:bh [] C h ao M)(x:VR c w F C h m v):VR c w F ao M m v:=x.fx ta s
theorem aW.step(s:bh [] C h ao M)(x:aW c w F C h B V):aW c w F ao M B V:=x.fx ta s
end
noncomputable def OR(c:a_)(w:WB)(F C:G aA)(h:aP)(a:aA):cJ->Prop
 |.list b r=>∃V n,h.get? a=some (fT V n)/\aW c w F C h r V.toList.reverse/\r.length<=b/\b<=4096
 |.dict R=>((∃aR,h.DictOf (strKind c w.w) a aR/\Under (VR c w F C h) D.str R aR/\∀p∈aR,g8 p.1=true)\/(∃aR,h.DictOf (lE c w.w) a aR/\Under (VR c w F C h) D.int R aR))/\R.length<=4096
 |.inst aq d=>∃dx,C[d]?=some dx/\h.get? a=some (uZ aq dx)
 |.dh=>∃x t y u n,h.get? a=some (fT #[.int x t,.int y u] n)/\0<=x/\0<=y/\y<4294967296
structure St(c:a_)(w:WB)(I:aP)(F C:G aA)(o:MH)(h:aP):Prop where
 keep:∀b E,I.get? b=some E->h.get? b=some E/\b∉C
 len:o.n=C.length
 apart:C.Nodup
 cI:∀a∈F,(∃E,h.get? a=some E)/\a∉C/\I.get? a=none
 at_:∀i a,C[i]?=some a->∃E,o.t.get i=some E/\OR c w F C h a E
section
variable{c:a_}{w:WB}{F C ao:G aA}{I h M:aP}{o:MH}
theorem Under.imp{K:Type}{key:K->D}(f:∀m v,P m v->Q m v){aR:G (K×aw)}(x:Under P key R aR):Under Q key R aR:=by
 induction x with
 |nil=>exact .nil
 |cons a _ O=>exact .cons (f _ _ a) O
theorem Under.length(x:Under P key R aR):R.length=aR.length:=by
 induction x with
 |nil=>rfl
 |cons _ _ O=>exact cq (· +1) O
theorem OR.some{a:aA}(x:OR c w F C h a E):∃ob,h.get? a=zt ob:=by
 cases E with
 |list=>exact bw x λ_ x=>x.elim λ_ x=>⟨_,x.1⟩
 |dict=>exact x.1.elim (λx=>x.elim λ_ x=>qJ x.1) (λx=>x.elim λ_ x=>qJ x.1)
 |inst=>exact bw x λ_ x=>⟨_,x.2⟩
 |dh=>obtain⟨x,t,y,u,n,e,_⟩:=x;exact⟨_,e⟩
theorem tj{F':G aA}(k:∀a E,h.get? a=some E->cM F C a->M.get? a=some E/\cM F' ao a)(pl:∀(i:H) (a:aA),C[i]?=some a->ao[i]?=some a)(ka:M.get? a=h.get? a){E:cJ}(x:OR c w F C h a E):OR c w F' ao M a E:=by
 cases E with
 |list=>
  refine eO x ?_;clear x;intro V n e x y
  exact⟨V,n,ka.trans e,x.mono k (.inr pl),y⟩
 |dict=>exact⟨x.1.imp (λx=>x.elim λaR x=>⟨aR,sg x.1 (λE q=>ka.trans q),x.2.1.imp λm v q=>q.mono k (.inr pl),x.2.2⟩) (λx=>x.elim λaR x=>⟨aR,sg x.1 (λE q=>ka.trans q),x.2.imp λm v q=>q.mono k (.inr pl)⟩),x.2⟩
 |inst=>exact bw x λdx x=>⟨dx,pl _ _ x.1,ka.trans x.2⟩
 |dh=>
  refine gJ x λx t bB=>dO bB λy u n e r=>?_
  exact⟨x,t,y,u,n,ka.trans e,r⟩
theorem OR.step(hF:∀b∈own,b∈F)(s:bh own C h ao M)(k:M.get? a=h.get? a)(x:OR c w F C h a E):OR c w F ao M a E:=tj (λa E e f=>⟨s.at hF f E e,f.step s e⟩) s.pl k x
theorem St.place(S:St c w I F C o h)(e:o.t.get i=zt E)(hi:i<o.n):∃a,C[i]?=zt a/\OR c w F C h a E:=by
 rw [S.len] at hi
 refine ay (S.at_ i _ (cV hi)) λo' e' r=>?_
 rw [e] at e';cases e'
 exact⟨_,cV hi,r⟩
theorem St.ref(S:St c w I F C o h)(e:C[i]?=zt a)(q:o.t.get i=zt E):OR c w F C h a E:=by
 refine ay (S.at_ i a e) λo' e' r=>?_
 rw [q] at e';cases e'
 exact r
end
end
section
variable{c:a_}{w:WB}{F C ao:G aA}{I h M:aP}{o:MH}
theorem hV(h:aP):h.get? h.objs.size=none:=by
 cases e:h.get? h.objs.size with
 |none=>rfl
 |some E=>exact bP (wm e) (zm _)
theorem St.alloc(S:St c w I F C o h)(hn:h.get? a=none)(hk:∀b x,h.get? b=some x->M.get? b=some x)(ho:OR c w F (C++[a]) M a E)
  (hc:cK ((o.t.ins o.n E).get o.n)=true):bh [] C h (C++[a]) M/\St c w I F (C++[a]) ⟨o.t.ins o.n E,o.n+1⟩ M/\(C++[a])[o.n]?=some a:=by
 have na:a∉C:=λq=>by
  obtain⟨i,hi,e⟩:=iE q
  refine ay (S.at_ i a (by rw [cV hi,e])) λx _ r=>?_
  refine bw r.some λy hy=>?_
  rw [hn] at hy;exact aB hy
 have st:bh [] C h (C++[a]) M:=⟨wD ..,λb x e _ _=>hk b x e,λb x e n=>⟨⟨x,hk b x e⟩,λq=>by
  refine dC (dI.mp q) (λq=>?_) λq=>?_
  .exact n q
  .rw [cA.mp q,hn] at e;exact aB e⟩⟩
 have EL:((o.t.ins o.n E).get o.n).isSome=true:=by cases q:(o.t.ins o.n E).get o.n with
  |none=>rw [q] at hc;exact bz hc
  |some _=>rfl
 refine⟨st,⟨λb x e=>?_,by simp [S.len],?_,λb hb=>?_,λi b e=>?_⟩,by rw [S.len];simp⟩
 .exact⟨hk b x (S.keep b x e).1,(st.out b x (S.keep b x e).1 (S.keep b x e).2).2⟩
 .rw [wC]
  exact⟨S.apart,by simp,λx hx y hy=>by rw [cA.mp hy];exact λe=>na (e▸hx)⟩
 .obtain⟨⟨x,hx⟩,n1,n2⟩:=S.cI b hb
  exact⟨⟨x,hk b x hx⟩,(st.out b x hx n1).2,n2⟩
 .rw [MT.get_ins E o.t o.n EL i]
  by_cases hi:i=o.n
  .subst hi
   rw [S.len] at e
   simp at e
   subst e
   exact⟨E,by simp,ho⟩
  .rw [bl hi]
   have gS:i<C.length:=by
    have:=(eM.mp e).1
    rw [fy] at this
    simp at this
    rw [S.len] at hi
    lia
   rw [iD gS] at e
   refine ay (S.at_ i b e) λx hx r=>?_
   refine bw r.some λy hy=>?_
   exact⟨x,hx,r.step ta st ((hk b y hy).trans hy.symm)⟩
theorem St.put(S:St c w I F C o h)(hi:C[i]?=some a)(hs:iC a h M)(ho:bh [] C h C M->OR c w F C M a E):bh [] C h C M/\St c w I F C ⟨o.t.set i E,o.n⟩ M:=by
 have ma:a∈C:=dy hi
 have st:bh [] C h C M:=⟨mT _,λb x e n _=>(hs.2 b λq=>n (q▸ma)).trans e,λb x e n=>⟨⟨x,(hs.2 b λq=>n (q▸ma)).trans e⟩,n⟩⟩
 refine⟨st,λb x e=>⟨(hs.2 b λq=>(S.keep b x e).2 (q▸ma)).trans (S.keep b x e).1,(S.keep b x e).2⟩,S.len,S.apart,λb hb=>?_,λj b e=>?_⟩
 .obtain⟨⟨x,hx⟩,n1,n2⟩:=S.cI b hb
  exact⟨⟨x,(hs.2 b λq=>n1 (q▸ma)).trans hx⟩,n1,n2⟩
 .refine ay (S.at_ j b e) λx hx r=>?_
  rw [MT.get_set E o.t i j]
  by_cases hj:j=i
  .subst hj
   rw [hi] at e;cases e
   rw [bT rfl,hx]
   exact⟨E,rfl,ho st⟩
  .rw [bl hj]
   have:b≠a:=λq=>hj (by
    obtain rfl:=q.symm
    have h1:=(eM.mp e)
    have h2:=(eM.mp hi)
    refine bw h1 λl1 e1=>?_
    refine bw h2 λl2 e2=>?_
    exact(rK S.apart).mp (e1.trans e2.symm))
   exact⟨x,hx,r.step ta st (hs.2 b this)⟩
theorem St.grow(S:St c w I F C o h)(hk:∀b x,h.get? b=some x->M.get? b=some x):bh [] C h C M/\St c w I F C o M:=by
 have st:bh [] C h C M:=.of_keeps hk
 refine⟨st,λb x e=>⟨hk _ _ (S.keep b x e).1,(S.keep b x e).2⟩,S.len,S.apart,λb hb=>?_,λj b e=>?_⟩
 .obtain⟨⟨x,hx⟩,n⟩:=S.cI b hb
  exact⟨⟨x,hk b x hx⟩,n⟩
 .refine ay (S.at_ j b e) λx hx r=>?_
  refine bw r.some λy hy=>?_
  exact⟨x,hx,r.step ta st ((hk b y hy).trans hy.symm)⟩
theorem St.side(hF:∀b∈own,b∈F)(S:St c w I F C o h)(st:bh own C h C M)(hk:∀b x,I.get? b=some x->M.get? b=some x)(hp:∀a∈C,M.get? a=h.get? a)(hf:∀a∈F,∃E,M.get? a=some E):St c w I F C o M:=by
 refine⟨λb x e=>⟨hk b x e,(S.keep b x e).2⟩,S.len,S.apart,λb hb=>?_,λj b e=>?_⟩
 .obtain⟨⟨x,hx⟩,n⟩:=S.cI b hb
  exact⟨hf b hb,n⟩
 .refine ay (S.at_ j b e) λx hx r=>?_
  exact⟨x,hx,r.step hF st (hp b (dy e))⟩
theorem VR.base(S:St c w I F C o h)(x:VR c w [] [] I m v):VR c w F C h m v:=
 x.mono (λa E e _=>⟨(S.keep a E e).1,⟨(λq=>nomatch (e.symm.trans (S.cI a q).2.2:some E=none)),(S.keep a E e).2⟩⟩) (.inr λi a e=>by simp at e)
end
section
variable{c:a_}{w:WB}{Y:bG}{own C:G aA}{s:aT}{α β:Type}
noncomputable def bc(c:a_)(w:WB)(Y:bG)(own C:G aA)(s:aT)(t:iT α)(P:α->G aA->aP->Prop):Prop:=
 ∀(Q:α->aT->Prop) (au:aw->aT->Prop),(∀a ao M tk,bh own C s.heap ao M->P a ao M->Q a {s with heap:=M,toks:=tk})->bo (bK c w.w) Y t Q au s
theorem bc.bind(x:bc c w Y own C s t P)
  (y:∀a ao M tk,bh own C s.heap ao M->P a ao M->bc c w Y own ao {s with heap:=M,toks:=tk} (f a) P'):bc c w Y own C s (t>>=f) P':=λQ au k=>
 aO (x _ _ λa ao M tk st p=>y a ao M tk st p Q au λb IP ED mN j9 p'=>k b IP ED mN (st.trans j9) p')
theorem bc.mono(x:bc c w Y own C s t P)(y:∀a ao M,bh own C s.heap ao M->P a ao M->P' a ao M):bc c w Y own C s t P':=λQ au k=>
 x _ _ λa ao M tk st p=>k a ao M tk st (y a ao M st p)
theorem bc.any(x:bc c w Y [] C s t P):bc c w Y own C s t P:=λQ au k=>
 x _ _ λa ao M tk st p=>k a ao M tk st.any p
theorem bc.pure(p:P a C s.heap):bc c w Y own C s (Pure.pure a) P:=λQ au k=>bX (k a C s.heap s.toks (.refl ..) p)
theorem bc.seq(x:∀(Q:α->aT->Prop) (au:aw->aT->Prop),Q a s->bo (bK c w.w) Y t Q au s)(y:bc c w Y own C s (f a) P'):bc c w Y own C s (t>>=f) P':=λQ au k=>
 aO (x _ _ (y Q au k))
end
noncomputable def eY(n:H)(Y:bG):Prop:=Y.handled=none/\Y.depth+2*n+10<1000/\Y.units+16*n+200<9900
theorem eY.le(le:m<=n)(x:eY n Y):eY m Y:=⟨x.1,zo (ua (CF (Rm 2 le) _) 10) x.2.1,zo (ua (CF (Rm 16 le) _) 200) x.2.2⟩
theorem eY.down(x:eY (n+1) Y):eY n Y:=x.le (ue n)
noncomputable def Ck(c:a_)(w:WB)(I:aP)(mg mb:ar->aa aw)(x:ar)(m:D):Prop:=
 (∃v,mg x=some v/\VR c w [] [] I m v)\/(mg x=none/\∃b,m=.bi b/\mb x=some b.value)
noncomputable def w_(K:b8)(names:G ar)(aq:H)(ms:G (ar×H)):ah:=
 makesIn K aq&&(clsIn K aq).any (·.hasDict)&&plainOver K aq&&oC K (.ref aq) "__getattribute__" ==some (some (.builtin "object.__getattribute__"))&&oC K (.ref aq) "__getattr__" ==some none&&
 oC K (.ref aq) "__setattr__" ==some (some (.builtin "object.__setattr__"))&&(names.all λx=>g8 x&&oC K (.ref aq) x==some none)&&
 (ms.all λp=>oC K (.ref aq) p.1==some (some (.ref p.2))&&typeIn K (.ref p.2)==some (.type "function"))
noncomputable def Gives{α:Type}(s:aT)(C:G aA)(r:α):α->G aA->aP->Prop:=λv ao M=>v=r/\ao=C/\M=s.heap
noncomputable def tV(c:a_)(w:WB)(I:aP)(a b:D)(r:ah):Prop:=
 ∀(Y:bG) (own F C:G aA) (s:aT) (o:MH) (x y:aw),St c w I F C o s.heap->Y.units+61<fP->VR c w F C s.heap a x->VR c w F C s.heap b y->
  bc c w Y own C s (iq .Eq x y) (Gives s C (.bool r))/\bc c w Y own C s (iq .NotEq x y) (Gives s C (.bool (!r)))
structure Top(c:a_)(w:WB)(K:b8)(W:bQ)(I:aP)(mg mb:ar->aa aw):Prop where
 AN:K.In I
 ng:I.Ns mB mg
 nb:I.Ns qH mb
 lim:I.NoLimit
 sys:∃E,I.get? tK=some E
 glob:∀x m,W.glob x=some m->Ck c w I mg mb x m
 cls:∀aq p,W.cls aq=some p->w_ K p.2 aq p.1=true
 call:∀a,r9 W (.fn a)=true->keepIn K (.ref a)=true
 rz:∀i m F C h v,W.rz i=some m->w.tok i F C h v->VR c w F C h m v
 eqv:∀a b r,W.eqv a b=some r->tV c w I a b r
theorem XI(sc:G (ar×dc))(x:ar):∀(n j:H) (k:dc),idxOf sc x n=some (j,k)->n<=j/\sc[j-n]?=some (x,k)/\sc.lookup x=some k:=by
 induction sc with
 |nil=>exact λ_ _ _ e=>nomatch e
 |cons p sc O=>
  intro n j k e
  have e':@bN (λ_=>aa (H×dc)) (idxOf sc x (cX n)) (some (n,p.2)) (seq p.1 x)=some (j,k):=e
  rw [seq_eq] at e'
  obtain⟨y,z⟩:=p
  by_cases q:y=x
  .rw [ix q] at e'
   refine xA (iS (aM e')) λeJ aI=>?_;rw [eJ];rw [<-aI]
   rw [Rt,q,jM,r7]
   exact⟨fG _,rfl,rfl⟩
  .rw [jf q] at e'
   refine cf (O (n+1) j k e') λh1 h2 h3=>?_
   rw [jM,mn.mpr (n7 q)]
   refine⟨Rd h1,?_,h3⟩
   rw [(Rq (Rr h1)).symm.trans (cq (· +1) (Ru j n 1))]
   exact h2
theorem jZ(e:idxOf sc x 0=some (j,k)):sc[j]?=some (x,k)/\sc.lookup x=some k:=by
 refine cf (XI sc x 0 j k e) λ_ h2 h3=>?_
 exact⟨h2,h3⟩
theorem gQ{α:Type}{gL:Model}{Y:bG}{s:aT}{t:iT α}{Q:α->aT->Prop}{au:aw->aT->Prop}(h:∀(Q':α->aT->Prop) (E':aw->aT->Prop),(∀a s,Q a s->Q' a s)->(∀a s,au a s->E' a s)->bo gL Y t Q' E' s):bo gL Y t Q au s:=h Q au (λ_ _ x=>x) λ_ _ x=>x
theorem gB{α β:Type}{gL:Model}{Y:bG}{s:aT}{m:iT α}{f:α->iT β}{Q:β->aT->Prop}{au:aw->aT->Prop}(h:∀f':α->iT β,(∀Y a Q au s,bo gL Y (f a) Q au s->bo gL Y (f' a) Q au s)->bo gL Y m (λa s=>bo gL Y (f' a) Q au s) au s):bo gL Y (m>>=f) Q au s:=aO (h f λ_ _ _ _ _ x=>x)
noncomputable def ownOf(X:cL):G aA:=X.locals::X.cells.map (·.2)
noncomputable abbrev pd(c:a_)(w:WB)(F C:G aA)(h:aP)(sc:G (ar×dc))(vars:G (aa D))(L:aA):Prop:=
 ∃m,h.Ns L m/\∀(i:H) (x:ar) (mv:D),sc[i]?=some (x,qC)->vars[i]?=some (some mv)->∃v,m x=some v/\VR c w F C h mv v
noncomputable abbrev nU(c:a_)(w:WB)(F C:G aA)(h:aP)(vars:G (aa D))(X:cL)(i:H)(x:ar):Prop:=
 ∃J ov,X.cells.lookup x=some J/\h.IsCell J ov/\J≠X.locals/\∀mv,vars[i]?=some (some mv)->∃v,ov=some v/\VR c w F C h mv v
structure dm(c:a_)(w:WB)(F C:G aA)(h:aP)(sc:G (ar×dc))(vars:G (aa D))(X:cL):Prop where
 kind:X.scope.kind=.function
 names:X.scope.names=sc
 glob:X.globals=mB
 blt:X.builtins=qH
 own:∀b∈ownOf X,b∈F
 loc:pd c w F C h sc vars X.locals
 cell:∀(i:H) (x:ar),sc[i]?=some (x,pg)->nU c w F C h vars X i x
 apart:∀x y J,X.cells.lookup x=some J->X.cells.lookup y=some J->x=y
 nd:(sc.map (·.1)).Nodup
structure mR(c:a_)(w:WB)(F C:G aA)(h:aP)(sc cB:G (ar×dc))(vars jU:G (aa D))(X:cL):Prop where
 kind:X.scope.kind=.function
 glob:X.globals=mB
 blt:X.builtins=qH
 kinds:∀(i:H) (x:ar) (k:dc),idxOf cB x 0=some (i,k)->(k=.local->X.kindOf x=some .local)/\(k=.globalImplicit->X.kindOf x=some .globalImplicit)/\(k=.free->∀j,idxOf sc x 0=some (j,.cell)->X.kindOf x=some .cell)
 own:X.locals∈F
 KA:∀p∈X.cells,p.2∈F
 loc:pd c w F C h cB jU X.locals
 cell:∀(i:H) (x:ar),sc[i]?=some (x,pg)->cB.lookup x=some rQ->nU c w F C h vars X i x
 nd:(cB.map (·.1)).Nodup
noncomputable def cH(c:a_)(w:WB)(F C:G aA)(h:aP)(cx:Cx)(fr:Fm)(X:cL):Prop:=match cx.comp with
 |.none=>dm c w F C h cx.sc fr.vars X
 |some cB=>mR c w F C h cx.sc cB fr.vars fr.jU X
section
variable{c:a_}{w:WB}{F C ao:G aA}{h M:aP}
theorem Be(x:h.Ns a m):∃E,h.get? a=some E:=x.imp λ_ x=>x.elim λ_ x=>x.elim λ_ x=>x.1
theorem GD(x:h.Ns a m)(k:∀E,h.get? a=some E->M.get? a=some E):M.Ns a m:=let⟨E,R,ep,ho,r⟩:=x;⟨E,R,ep,k E ho,r⟩
theorem Kk(x:h.IsCell a m)(k:∀E,h.get? a=some E->M.get? a=some E):M.IsCell a m:=let⟨E,ho,r⟩:=x;⟨E,k E ho,r⟩
theorem lookup_mem{α:Type}{B:G (ar×α)}{J:α}(e:B.lookup x=some J):(x,J)∈B:=mem_of_lookup e
theorem pd.gen(kp:∀E,h.get? L=some E->M.get? L=some E)(hv:∀(i:H) (m':D),qm[i]?=some (some m')->∃m,vars[i]?=some (some m)/\∀v,VR c w F C h m v->VR c w' F' ao M m' v)
  (x:pd c w F C h sc vars L):pd c w' F' ao M sc qm L:=
 ay x λm hm g=>⟨m,GD hm kp,λi y mv e1 e2=>ay (hv i mv e2) λm1 q1 q2=>ay (g i y m1 e1 q1) λv e3 e4=>⟨v,e3,q2 v e4⟩⟩
theorem nU.gen(kp:∀b∈ownOf X,∀E,h.get? b=some E->M.get? b=some E)(hv:∀(i:H) (m':D),qm[i]?=some (some m')->∃m,vars[i]?=some (some m)/\∀v,VR c w F C h m v->VR c w' F' ao M m' v)
  (x:nU c w F C h vars X i y):nU c w' F' ao M qm X i y:=
 eK x λJ ov c1 c2 c4 c5=>⟨J,ov,c1,Kk c2 (kp _ (.tail _ (cF.mpr ⟨_,lookup_mem c1,rfl⟩))),c4,λmv e2=>ay (hv i mv e2) λm1 q1 q2=>ay (c5 m1 q1) λv e3 e4=>⟨v,e3,q2 v e4⟩⟩
theorem dm.gen(kp:∀b∈ownOf X,∀E,h.get? b=some E->M.get? b=some E)(hF:∀b∈ownOf X,b∈F')(hv:∀(i:H) (m':D),qm[i]?=some (some m')->∃m,vars[i]?=some (some m)/\∀v,VR c w F C h m v->VR c w' F' ao M m' v)
  (x:dm c w F C h sc vars X):dm c w' F' ao M sc qm X:=
 ⟨x.kind,x.names,x.glob,x.blt,hF,pd.gen (kp _ (.head _)) hv x.loc,λi y e=>nU.gen kp hv (x.cell i y e),x.apart,x.nd⟩
theorem cH.lP(az:cH c w F C h cx fr X):∀b∈ownOf X,b∈F:=by
 intro b hb
 unfold cH at az
 generalize cx.comp=J at az
 cases J with
 |none=>exact az.own b hb
 |some cB=>
  refine dC (bY.mp hb) (λrf=>?_) λhb=>?_
  .rw [rf];exact az.own
  .refine ay (cF.mp hb) λp hp aE=>?_;rw [<-aE]
   exact az.KA p hp
theorem cH.gen(kp:∀b∈ownOf X,∀E,h.get? b=some E->M.get? b=some E)(hF:∀b∈ownOf X,b∈F')(up:∀m v,VR c w F C h m v->VR c w F' ao M m v)(az:cH c w F C h cx fr X):cH c w F' ao M cx fr X:=by
 unfold cH at az⊢
 have hv:∀{B:G (aa D)} (i:H) (m':D),B[i]?=some (some m')->∃m,B[i]?=some (some m)/\∀v,VR c w F C h m v->VR c w F' ao M m' v:=λi m e=>⟨m,e,up m⟩
 generalize cx.comp=J at az
 cases J with
 |none=>exact dm.gen kp hF hv az
 |some cB=>exact⟨az.kind,az.glob,az.blt,az.kinds,hF _ (.head _),λp hp=>hF _ (.tail _ (cF.mpr ⟨p,hp,rfl⟩)),pd.gen (kp _ (.head _)) hv az.loc,λi y e e'=>nU.gen kp hv (az.cell i y e e'),az.nd⟩
theorem cH.step(s:bh [] C h ao M)(fr:∀a∈F,a∉C)(x:cH c w F C h cx f X):cH c w F ao M cx f X:=
 x.gen (λb hb E e=>s.keep b E e (fr b (x.lP b hb)) λq=>nomatch q) x.lP λ_ _ v=>v.step s
end
section
variable{ag:Type}(ae:ag->Prop)(c:a_)(w:WB)(I:aP)(F:G aA)
inductive PV(K:D->MH->ag)(v:aw)(ao:G aA)(M:aP):Prop
 |mk (m:D) (br:MH):ae (K m br)->St c w I F ao br M->VR c w F ao M m v->PV K v ao M
inductive JE(K:G D->MH->ag)(V:G aw)(ao:G aA)(M:aP):Prop
 |mk (B:G D) (br:MH):ae (K B br)->St c w I F ao br M->aW c w F ao M B V->JE K V ao M
inductive PB(K:ah->MH->ag)(b:ah)(ao:G aA)(M:aP):Prop
 |mk (br:MH):ae (K b br)->St c w I F ao br M->PB K b ao M
end
section
variable{ag:Type}{ae:ag->Prop}{c:a_}{w:WB}{I:aP}{F C:G aA}{K:b8}{W:bQ}{mg mb:ar->aa aw}{Y:bG}{s:aT}{o:MH}{cx:Cx}{fr:Fm}{X:cL}
theorem PV.el{K:D->MH->ag}{az:Prop}(z:PV ae c w I F K v ao M)(k:∀m br,ae (K m br)->St c w I F ao br M->VR c w F ao M m v->az):az:=z.casesOn k
theorem PB.el{K:ah->MH->ag}{az:Prop}(z:PB ae c w I F K b ao M)(k:∀br,ae (K b br)->St c w I F ao br M->az):az:=z.casesOn k
theorem agU{α:Type}(B:G α)(k:H):fJ B k=B[k]?:=oN B k
theorem AW{α:Type}{E:aa (aa α)}{a:α}(e:kN E=some a):E=some (some a):=by
 cases E with
 |none=>exact aB e
 |some x=>exact cq some e
theorem Top.ns(T:Top c w K W I mg mb)(S:St c w I F C o s.heap):s.heap.Ns mB mg/\s.heap.Ns qH mb/\K.In s.heap/\s.heap.NoLimit:=
 ⟨T.ng.keeps λb E e=>(S.keep b E e).1,T.nb.keeps λb E e=>(S.keep b E e).1,T.AN.keeps λb E e=>(S.keep b E e).1,T.lim.keeps λb E e=>(S.keep b E e).1⟩
theorem LO(T:Top c w K W I mg mb)(S:St c w I F C o s.heap)(hg:X.globals=mB)(hb:X.builtins=qH)(hk:X.scope.kind=.function)(hx:X.kindOf x=some .globalImplicit)
  (e:W.glob x=some m):∃v,VR c w F C s.heap m v/\∀(Q:aw->aT->Prop) (au:aw->aT->Prop),Q v s->bo (bK c w.w) Y (loadName X x) Q au s:=by
 refine cf (T.ns S) λn1 n2 _=>?_
 rcases T.glob x m e with⟨v,h1,h2⟩|⟨h1,b,rfl,h2⟩
 .exact⟨v,h2.base S,λQ au q=>by rw [loadName_read hk hx];exact loadGlobal_global (by rw [hg];exact n1) h1 q⟩
 .exact⟨b.value,by rfl,λQ au q=>by rw [loadName_read hk hx];exact loadGlobal_builtin (by rw [hg];exact n1) h1 (by rw [hb];exact n2) h2 q⟩
noncomputable def CZ(W:bQ)(sc:G (ar×dc))(x:ar):Slot->Prop
 |.loc j=>∃k,(k=.local\/k=.cell)/\idxOf sc x 0=some (j,k)
 |.glob v=>∃j,idxOf sc x 0=some (j,.globalImplicit)/\W.glob x=some v
 |.bad=>jz
 |_=>dP
theorem LN{P:Slot->Prop}:P .bad->(∀v,E=some v->P (.glob v))->P (match E with|some v=>.glob v|.none=>.bad):=by
 intro b h
 cases E with
 |none=>exact b
 |some v=>exact h v rfl
theorem BN(W:bQ)(sc:G (ar×dc))(x:ar):CZ W sc x (slotIn W sc x):=by
 unfold slotIn
 cases hi:idxOf sc x 0 with
 |none=>trivial
 |some p=>
  obtain⟨j,k⟩:=p
  cases k with
  |«local»=>exact⟨_,.inl rfl,hi⟩
  |cell=>exact⟨_,.inr rfl,hi⟩
  |globalImplicit=>exact LN (P:=CZ W sc x) trivial λv h=>⟨j,hi,h⟩
  |_=>trivial
noncomputable def CY(W:bQ)(sc cB:G (ar×dc))(x:ar):Slot->Prop
 |.jT j=>idxOf cB x 0=some (j,.local)
 |.free j=>∃i,idxOf cB x 0=some (i,.free)/\idxOf sc x 0=some (j,.cell)
 |.glob v=>∃j,idxOf cB x 0=some (j,.globalImplicit)/\W.glob x=some v
 |.bad=>jz
 |.loc _=>dP
theorem BM(W:bQ)(sc cB:G (ar×dc))(x:ar):CY W sc cB x (vQ W sc cB x):=by
 unfold vQ
 cases hi:idxOf cB x 0 with
 |none=>trivial
 |some p=>
  obtain⟨j,k⟩:=p
  cases k with
  |«local»=>exact hi
  |free=>
   dsimp only
   cases hj:idxOf sc x 0 with
   |none=>trivial
   |some p=>
    obtain⟨j',k⟩:=p
    cases k with
    |cell=>exact⟨j,hi,hj⟩
    |_=>trivial
  |globalImplicit=>exact LN (P:=CY W sc cB x) trivial λv h=>⟨j,hi,h⟩
  |_=>trivial
noncomputable abbrev zx(c:a_)(w:WB)(Y:bG)(F C:G aA)(s:aT)(X:cL)(x:ar)(m:D):Prop:=
 ∃v,VR c w F C s.heap m v/\∀(Q:aw->aT->Prop) (au:aw->aT->Prop),Q v s->bo (bK c w.w) Y (loadName X x) Q au s
theorem M_{sc:G (ar×dc)}{vars:G (aa D)}(gk:X.scope.kind=.function)(az:pd c w F C s.heap sc vars X.locals)(i1:sc[j]?=some (x,.local))(hk:X.kindOf x=some .local)(q:kN (fJ vars j)=some m):zx c w Y F C s X x m:=by
 have q:=AW q
 rw [oN] at q
 refine ay az λmm hn hv=>?_
 refine ay (hv j x m i1 q) λv e1 e2=>?_
 exact⟨v,e2,λQ au z=>wpAny_loadName_local gk hk hn e1 z⟩
theorem Kl{vars:G (aa D)}{j:H}(gk:X.scope.kind=.function)(az:nU c w F C s.heap vars X j x)(hk:X.kindOf x=some .cell)(q:kN (fJ vars j)=some m):zx c w Y F C s X x m:=by
 have q:=AW q
 rw [oN] at q
 refine eK az λJ ov c1 c2 c4 c5=>?_
 refine ay (c5 m q) λv aI e2=>?_;subst aI
 exact⟨v,e2,λQ au z=>wpAny_loadName_cell gk hk c1 c2 z⟩
theorem dm.kindAt(az:dm c w F C h sc vars X)(hi:idxOf sc x 0=some (j,k)):X.kindOf x=some k:=by unfold y7;rw [az.names];exact(jZ hi).2
theorem dm.reads(T:Top c w K W I mg mb)(S:St c w I F C o s.heap)(az:dm c w F C s.heap sc vars X){sl:Slot}
  (e:(match sl with|.loc k=>kN (fJ vars k)|.glob v=>some v|.jT k=>kN (fJ jU k)|.free k=>kN (fJ vars k)|.bad=>.none)=some m) (cP:CZ W sc x sl):zx c w Y F C s X x m:=by
 cases sl with
 |loc j=>
  refine ay cP λk hk hi=>?_
  have ks:=az.kindAt hi
  rcases hk with rfl|rfl
  .exact M_ az.kind az.loc (jZ hi).1 ks e
  .exact Kl az.kind (az.cell j x (jZ hi).1) ks e
 |glob v=>
  refine ay cP λj hi hg=>?_
  exact LO T S az.glob az.blt az.kind (az.kindAt hi) (hg.trans e)
 |bad=>nomatch e
 |jT=>exact cP.elim
 |free=>exact cP.elim
theorem mR.reads(T:Top c w K W I mg mb)(S:St c w I F C o s.heap)(az:mR c w F C s.heap sc cB vars jU X){sl:Slot}
  (e:(match sl with|.loc k=>kN (fJ vars k)|.glob v=>some v|.jT k=>kN (fJ jU k)|.free k=>kN (fJ vars k)|.bad=>.none)=some m) (cP:CY W sc cB x sl):zx c w Y F C s X x m:=by
 cases sl with
 |jT j=>exact M_ az.kind az.loc (jZ cP).1 ((az.kinds j x _ cP).1 rfl) e
 |free j=>
  refine ay cP λi hi hj=>?_
  exact Kl az.kind (az.cell j x (jZ hj).1 (jZ hi).2) ((az.kinds i x _ hi).2.2 rfl j hj) e
 |glob v=>
  refine ay cP λj hi hg=>?_
  exact LO T S az.glob az.blt az.kind ((az.kinds j x _ hi).2.1 rfl) (hg.trans e)
 |bad=>nomatch e
 |loc=>exact cP.elim
theorem Nu(T:Top c w K W I mg mb)(S:St c w I F C o s.heap)(az:cH c w F C s.heap cx fr X)(e:nameOf W cx fr x=some m):
  ∃v,VR c w F C s.heap m v/\∀(Q:aw->aT->Prop) (au:aw->aT->Prop),Q v s->bo (bK c w.w) Y (loadName X x) Q au s:=by
 unfold nameOf kQ at e
 unfold cH at az
 generalize hc:cx.comp=ax at e az
 cases ax with
 |none=>exact az.reads T S (jU:=fr.jU) e (BN W cx.sc x)
 |some cB=>exact az.reads T S e (BM W cx.sc cB x)
end
section
variable{c:a_}{w:WB}{F C:G aA}{s:aT}
theorem wR(e:pA a b=some k):∃x y,a=some x/\b=some y/\k=(x&&y):=by
 cases a with
 |none=>exact aB e
 |some x=>cases b with
  |none=>exact aB e
  |some y=>cases e;exact⟨x,y,rfl,rfl,rfl⟩
noncomputable def i8(B m:G D)(n:H):aa ah:=@b9 D (λ_=>G D->H->aa ah)
 (λm _=>@b9 D (λ_=>aa ah) (some true) (λ_ _ _=>some false) m)
 (λa _ hl m n=>@b9 D (λ_=>aa ah) (some false) (λb r _=>pA (gV a b n) (hl r n)) m) B m n
theorem A_(B:G D)(b:D)(n:H):gV (.tup B) b n=uE (i8 B) b n:=by
 have key:∀B:G D,(λm n=>i8 B m n)=@D.rec_1 (λ_=>D->H->aa ah) (λ_=>G D->H->aa ah)
   Ee eqBool Ed eqStr (λ_ f=>uE f) (λ_ _ _=>.none) (λ_ _ _=>.none) (λ_ _ _=>.none) (λ_ _ _=>.none) (λ_ _ _ _ _=>.none) (λ_ _=>.none) (λ_ _ _=>.none)
   (λm _=>@b9 D (λ_=>aa ah) (some true) (λ_ _ _=>some false) m)
   (λ_ _ ha hl m n=>@b9 D (λ_=>aa ah) (some false) (λb r _=>pA (ha b n) (hl r n)) m) B:=by
  intro B
  induction B with
  |nil=>rfl
  |cons a B O=>
   funext m n
   refine(?_:@b9 D (λ_=>aa ah) (some false) (λb r _=>pA (gV a b n) (i8 B r n)) m=_)
   have:∀r n,i8 B r n=_:=λr n=>congrFun (congrFun O r) n
   simp only [this]
   rfl
 refine(?_:uE _ b n=_)
 rw [<-key]
theorem Nf(m:G D)(n:H):i8 [] m n=some m.isEmpty:=by cases m<;>rfl
theorem s7(a:D)(B m:G D)(n:H):i8 (a::B) m n=match m with|[]=>some false|b::r=>pA (gV a b n) (i8 B r n):=by cases m<;>rfl
noncomputable def isAtom:D->ah
 |.none=>true
 |.bool _=>true
 |.int _=>true
 |.str _=>true
 |_=>false
noncomputable def BW:aw->D
 |.none=>.none
 |.bool b=>.bool b
 |.int i _=>.int i
 |.str x _=>.str x
 |_=>.any
theorem r5{h:aP}{x:aw}(i:isAtom a=true)(v:VR c w F C h a x):BW x=a:=by
 cases a with
 |none=>exact cq BW (v:x=.none)
 |bool b=>exact cq BW (v:x=.bool b)
 |int=>exact bw v λ_ v=>v▸rfl
 |str=>exact bw v.1 λ_ v=>v▸rfl
 |_=>exact bz i
theorem ae0(v:VR c w F C h (.tup B) x):BW x=.any:=by
 refine dO v ?_;clear v;intro a V n bU _;subst bU
 rfl
theorem q_{h:aP}{x:aw}{P:Prop}(ha:isAtom a=true)(va:VR c w F C h a x)(vb:VR c w F C h (.tup B) x):P:=by
 rw [(r5 ha va).symm.trans (ae0 vb)] at ha
 exact bz ha
theorem p9{a b:D}{n:H}{k:ah}(e:gV a b n=some k):isAtom a=true\/∃B,a=.tup B:=by
 cases a with
 |none=>exact .inl rfl
 |bool=>exact .inl rfl
 |int=>exact .inl rfl
 |str=>exact .inl rfl
 |tup B=>exact .inr ⟨B,rfl⟩
 |_=>exact aB e
theorem U_{f:G D->H->aa ah}{b:D}{n:H}{k:ah}(e:uE f b n=some k):(isAtom b=true/\k=false)\/∃m n',b=.tup m/\n=n'+1/\f m n'=some k:=by
 cases b with
 |none=>exact .inl ⟨rfl,(aM e).symm⟩
 |int=>exact .inl ⟨rfl,(aM e).symm⟩
 |str=>exact .inl ⟨rfl,(aM e).symm⟩
 |tup B=>cases n with
  |zero=>exact aB e
  |succ n=>exact .inr ⟨B,n,rfl,rfl,e⟩
 |_=>exact aB e
theorem o4(e:gV (.tup B) b n=some k):(isAtom b=true/\k=false)\/∃m n',b=.tup m/\n=n'+1/\i8 B m n'=some k:=U_ (A_ B b n▸e)
theorem PM(va:VR c w F C h (.tup B) (.ref a))(vb:VR c w F C h (.tup l') (.ref a)):∃V,aW c w F C h B V/\aW c w F C h l' V:=by
 refine gq.el va.gi λa1 V n1 q1 _ g1 x1=>?_
 refine gq.el vb.gi λa2 PK n2 q2 _ g2 x2=>?_
 rw [<-JQ q1] at g1
 rw [<-JQ q2,g1] at g2
 rw [(Data.seq.inj (cq Obj.data (aM g2))).1] at x1
 exact⟨_,x1,x2⟩
theorem Pk(va:VR c w F C h (.tup B) x):∃a,x=.ref a:=by
 refine dO va λa1 V n1 q1 _=>?_
 exact⟨a1,q1⟩
theorem J5{a:D}{n:H}(ha:isAtom a=true)(e:gV a a n=some k):k=true:=by
 cases a with
 |none=>exact(aM e).symm
 |bool J=>rw [<-aM e];cases J<;>rfl
 |int i=>rw [<-aM e];exact(jC i i).mpr rfl
 |str z=>rw [<-aM e];exact lV.mpr rfl
 |_=>exact bz ha
theorem MR{a b:D}{n:H}{k:ah}(ha:isAtom a=true)(e:gV a b n=some k):isAtom b=true\/∃B,b=.tup B:=by
 cases a with
 |none=>cases b<;>first|exact .inl rfl|exact .inr ⟨_,rfl⟩|exact aB e
 |bool J=>cases b<;>first|exact .inl rfl|exact aB e
 |int i=>cases b<;>first|exact .inl rfl|exact .inr ⟨_,rfl⟩|exact aB e
 |str z=>cases b<;>first|exact .inl rfl|exact .inr ⟨_,rfl⟩|exact aB e
 |_=>exact bz ha
theorem ac8{h:aP}(n:H):∀(a b:D) (k:ah) (x:aw),gV a b n=some k->VR c w F C h a x->VR c w F C h b x->k=true:=by
 induction n with
 |zero=>
  intro a b k x e va vb
  rcases p9 e with ha|⟨B,rfl⟩
  .rcases MR ha e with hb|⟨m,rfl⟩
   .rw [(r5 hb vb).symm.trans (r5 ha va)] at e;exact J5 ha e
   .exact q_ ha va vb
  .rcases o4 e with⟨hb,_⟩|⟨m,n',_,q,_⟩
   .exact q_ hb vb va
   .nomatch q
 |succ n O=>
  intro a b k x e va vb
  rcases p9 e with ha|⟨B,rfl⟩
  .rcases MR ha e with hb|⟨m,rfl⟩
   .rw [(r5 hb vb).symm.trans (r5 ha va)] at e;exact J5 ha e
   .exact q_ ha va vb
  .rcases o4 e with⟨hb,_⟩|⟨m,n',rfl,q,e⟩
   .exact q_ hb vb va
   .rw [<-lu q] at e
    refine bw (Pk va) λa1 aI=>?_;subst aI
    refine ay (PM va vb) λV x1 x2=>?_
    have key:∀(B m:G D) (V:G aw) (k:ah),i8 B m n=some k->aW c w F C h B V->aW c w F C h m V->k=true:=by
     intro B
     induction B with
     |nil=>
      intro m V k e x1 x2
      rw [x1.dW] at x2
      cases m with
      |nil=>exact(aM e).symm
      |cons b r=>obtain⟨v,r',q,_⟩:=x2.cj;nomatch q
     |cons J B fQ=>
      intro m V k e x1 x2
      refine dR.el x1.cj λv r aE y1 y2=>?_;subst aE
      rw [s7] at e
      cases m with
      |nil=>nomatch x2.dW
      |cons b m=>
       refine dR.el x2.cj λv' r' q z1 z2=>?_
       refine xA (qz q) λeJ aI=>?_;subst eJ;subst aI
       refine eO (wR e) λk1 k2 e1 e2 fV=>?_;rw [fV]
       rw [O _ _ _ _ e1 y1 z1,fQ _ _ _ e2 y2 z2];rfl
    exact key _ _ _ _ e x1 x2
theorem Vb{h:aP}(n:H):∀(a a' b:D) (k k':ah) (x:aw),gV a b n=some k->gV a' b n=some k'->VR c w F C h a x->VR c w F C h a' x->k=k':=by
 have J6:∀{n:H} {a a' b:D} {k k':ah} {x:aw},isAtom a=true->isAtom a'=true->gV a b n=some k->gV a' b n=some k'->VR c w F C h a x->VR c w F C h a' x->k=k':=λha ny e e' va k7=>by
  rw [(r5 ha va).symm.trans (r5 ny k7)] at e
  exact aM (e.symm.trans e')
 induction n with
 |zero=>
  intro a a' b k k' x e e' va k7
  rcases p9 e with ha|⟨B,rfl⟩<;>rcases p9 e' with ny|⟨l',rfl⟩
  .exact J6 ha ny e e' va k7
  .exact q_ ha va k7
  .exact q_ ny k7 va
  .rcases o4 e with⟨_,rfl⟩|⟨m,n',_,q,_⟩
   .rcases o4 e' with⟨_,rfl⟩|⟨m,n',_,q,_⟩
    .rfl
    .nomatch q
   .nomatch q
 |succ n O=>
  intro a a' b k k' x e e' va k7
  rcases p9 e with ha|⟨B,rfl⟩<;>rcases p9 e' with ny|⟨l',rfl⟩
  .exact J6 ha ny e e' va k7
  .exact q_ ha va k7
  .exact q_ ny k7 va
  .have key:∀(B l' m:G D) (V:G aw) (k k':ah),i8 B m n=some k->i8 l' m n=some k'->aW c w F C h B V->aW c w F C h l' V->k=k':=by
    intro B
    induction B with
    |nil=>
     intro l' m V k k' e e' x1 x2
     rw [x1.dW] at x2
     cases l' with
     |nil=>exact aM (e.symm.trans e')
     |cons b r=>obtain⟨v,r',q,_⟩:=x2.cj;nomatch q
    |cons J B fQ=>
     intro l' m V k k' e e' x1 x2
     refine dR.el x1.cj λv r aE y1 y2=>?_;subst aE
     cases l' with
     |nil=>nomatch x2.dW
     |cons c' l'=>
      refine dR.el x2.cj λv' r' q z1 z2=>?_
      refine xA (qz q) λeJ aI=>?_;subst eJ;subst aI
      rw [s7] at e e'
      cases m with
      |nil=>exact aM (e.symm.trans e')
      |cons b m=>
       refine eO (wR e) λk1 k2 e1 e2 fV=>?_;rw [fV]
       refine eO (wR e') λagA agB z_ UC fV=>?_;rw [fV]
       rw [O _ _ _ _ _ _ e1 z_ y1 z1,fQ _ _ _ _ _ e2 UC y2 z2]
   rcases o4 e with⟨hb,rfl⟩|⟨m,n',rfl,q,e⟩
   .rcases o4 e' with⟨_,rfl⟩|⟨m,n',rfl,_,_⟩
    .rfl
    .exact bz hb
   .rcases o4 e' with⟨hb,_⟩|⟨m',agP,q',q2,e'⟩
    .exact bz hb
    .rw [<-lu q] at e
     rw [<-lu q2,<-D.Pl q'] at e'
     refine bw (Pk va) λa1 aI=>?_;subst aI
     refine ay (PM va k7) λV x1 x2=>?_
     exact key _ _ _ _ _ _ e e' x1 x2
theorem isTup{h:aP}{a:aA}(e:h.get? a=some (kX V n)):h.IsTuple a V:=⟨_,e,rfl,n,rfl⟩
theorem iJ{h:aP}{a:aA}(e:h.get? a=some (fT V n)):h.IsList a V:=⟨_,e,rfl,n,rfl⟩
theorem Vc(i j:ba):eqZ i j=(i==j):=by
 by_cases q:i=j
 .rw [(jC i j).mpr q,q];simp
 .rw [mn.mpr q]
  cases e:eqZ i j with
  |false=>rfl
  |true=>exact bP ((jC i j).mp e) q
theorem ade(i j:ar):seq i j=(i==j):=by
 by_cases q:i=j
 .rw [lV.mpr q,q];simp
 .rw [mn.mpr q]
  cases e:seq i j with
  |false=>rfl
  |true=>exact bP (lV.mp e) q
theorem Ng{Y:bG}{n:H}(O:∀(a b:D) (k:ah) (x y:aw),gV a b n=some k->VR c w F C s.heap a x->VR c w F C s.heap b y->EqAt Y.in1 s x y k):∀(B m:G D) (xs ys:G aw) (k:ah),i8 B m n=some k->aW c w F C s.heap B xs->aW c w F C s.heap m ys->
  ∃e:H->ah,(∀j (h1:j<xs.length) (h2:j<ys.length),EqAt Y.in1 s xs[j] ys[j] (e j))/\((fY (min xs.length ys.length)).all e&&xs.length==ys.length)=k:=by
 intro B
 induction B with
 |nil=>
  intro m xs ys k e x1 x2
  rw [x1.dW]
  refine⟨λ_=>true,λj h1=>bP h1 (zp _),?_⟩
  rw [Nf] at e
  rw [<-aM e]
  cases m with
  |nil=>rw [x2.dW];rfl
  |cons b r=>obtain⟨v,r',rfl,_⟩:=x2.cj;rfl
 |cons J B fQ=>
  intro m xs ys k e x1 x2
  refine dR.el x1.cj λv r aE y1 y2=>?_;subst aE
  rw [s7] at e
  cases m with
  |nil=>rw [x2.dW,<-aM e];exact⟨λ_=>true,λj _ h2=>bP h2 (zp _),rfl⟩
  |cons b m=>
   refine dR.el x2.cj λv' r' aE z1 z2=>?_;rw [aE]
   refine eO (wR e) λk1 k2 e1 e2 fV=>?_;rw [fV]
   refine ay (fQ _ _ _ _ e2 y2 z2) λf f1 f2=>?_
   refine⟨λj=>match j with|0=>k1|j+1=>f j,λj h1 h2=>?_,?_⟩
   .cases j with
    |zero=>exact O _ _ _ _ _ e1 y1 z1
    |succ j=>exact f1 j (Jx h1) (Jx h2)
   .rw [<-f2]
    simp only [iQ,Nat.succ_min_succ,List.range_succ_eq_map,Qz,List.all_map]
    have hb:((r.length+1:H)==r'.length+1)=(r.length==r'.length):=by
     by_cases q:r.length=r'.length
     .rw [q];simp
     .rw [mn.mpr q,mn.mpr λz=>q (lu z)]
    rw [hb,IY]
    rfl
noncomputable def tS(Y:bG)(s:aT)(x y:aw)(k:ah):Prop:=(RcAt Y s x y k/\EqAt Y s x y k)/\RcNeAt Y s x y (!k)
theorem Ij{Y:bG}(hu:Y.units<fP){B:G D}{b:D}{x y:aw}{n:H}{k:ah}(hb:isAtom b=true)(e:gV (.tup B) b n=some k)(va:VR c w F C s.heap (.tup B) x)(vb:VR c w F C s.heap b y):tS Y s x y k:=by
 rw [A_] at e
 refine gq.el va.gi λa V _ bU _ g _=>?_;rw [bU]
 have g:=isTup g
 cases b with
 |none=>obtain rfl:y=.none:=vb;rw [<-aM e];exact⟨⟨RcAt.tuple_none g hu,EqAt.tuple_none g hu⟩,RcNeAt.tuple_none g hu⟩
 |str z=>obtain⟨⟨t,rfl⟩,_⟩:(∃t,y=.str z t)/\_:=vb;rw [<-aM e];exact⟨⟨RcAt.tuple_str _ _ g hu,EqAt.tuple_str _ _ g hu⟩,RcNeAt.tuple_str _ _ g hu⟩
 |int z=>obtain⟨t,rfl⟩:∃t,y=.int z t:=vb;rw [<-aM e];exact⟨⟨RcAt.tuple_int _ _ g hu,EqAt.tuple_int _ _ g hu⟩,RcNeAt.tuple_int _ _ g hu⟩
 |bool=>exact aB e
 |_=>exact bz hb
theorem aaF{Y:bG}(hu:Y.units<fP){b:D}{y:aw}{n:H}{k:ah}(e:Ee b n=some k)(vb:VR c w F C s.heap b y):tS Y s .none y k:=by
 cases b with
 |none=>obtain rfl:y=.none:=vb;rw [<-aM e];exact⟨⟨RcAt.none_none,EqAt.same _⟩,RcNeAt.none_none⟩
 |str z=>obtain⟨⟨t,rfl⟩,_⟩:(∃t,y=.str z t)/\_:=vb;rw [<-aM e];exact⟨⟨RcAt.none_str _ _,EqAt.none_str _ _⟩,RcNeAt.none_str _ _⟩
 |int z=>obtain⟨t,rfl⟩:∃t,y=.int z t:=vb;rw [<-aM e];exact⟨⟨RcAt.none_int _ _,EqAt.none_int _ _⟩,RcNeAt.none_int _ _⟩
 |tup B=>obtain⟨b,V,n,rfl,_,g,_⟩:=vb.gi;rw [<-aM e];exact⟨⟨RcAt.none_tuple (isTup g) hu,EqAt.none_tuple (isTup g) hu⟩,RcNeAt.none_tuple (isTup g) hu⟩
 |_=>exact aB e
theorem Ti{Y:bG}{J:ah}{b:D}{y:aw}{n:H}{k:ah}(e:eqBool J b n=some k)(vb:VR c w F C s.heap b y):tS Y s (.bool J) y k:=by
 cases b with
 |bool d=>
  obtain rfl:y=.bool d:=vb
  have:(!(qt J d))=(J==d):=by cases J<;>cases d<;>rfl
  rw [<-aM e,this];exact⟨⟨RcAt.bool_bool _ _,EqAt.bool_bool _ _⟩,RcNeAt.bool_bool _ _⟩
 |_=>exact aB e
theorem XW{Y:bG}(hu:Y.units<fP){i:ba}{t:Tok}{b:D}{y:aw}{n:H}{k:ah}(e:Ed i b n=some k)(vb:VR c w F C s.heap b y):tS Y s (.int i t) y k:=by
 cases b with
 |none=>obtain rfl:y=.none:=vb;rw [<-aM e];exact⟨⟨RcAt.int_none _ _,EqAt.int_none _ _⟩,RcNeAt.int_none _ _⟩
 |str z=>obtain⟨⟨t,rfl⟩,_⟩:(∃t,y=.str z t)/\_:=vb;rw [<-aM e];exact⟨⟨RcAt.int_str _ _ _ _,EqAt.int_str _ _ _ _⟩,RcNeAt.int_str _ _ _ _⟩
 |int z=>obtain⟨t,rfl⟩:∃t,y=.int z t:=vb;rw [<-aM e,Vc];exact⟨⟨RcAt.int_int _ _ _ _,EqAt.int_int _ _ _ _⟩,RcNeAt.int_int _ _ _ _⟩
 |tup B=>obtain⟨b,V,n,rfl,_,g,_⟩:=vb.gi;rw [<-aM e];exact⟨⟨RcAt.int_tuple _ _ (isTup g) hu,EqAt.int_tuple _ _ (isTup g) hu⟩,RcNeAt.int_tuple _ _ (isTup g) hu⟩
 |_=>exact aB e
theorem ad7{Y:bG}(hu:Y.units<fP){i:ar}{t:Tok}{b:D}{y:aw}{n:H}{k:ah}(e:eqStr i b n=some k)(vb:VR c w F C s.heap b y):tS Y s (.str i t) y k:=by
 cases b with
 |none=>obtain rfl:y=.none:=vb;rw [<-aM e];exact⟨⟨RcAt.str_none _ _,EqAt.str_none _ _⟩,RcNeAt.str_none _ _⟩
 |str z=>obtain⟨⟨t,rfl⟩,_⟩:(∃t,y=.str z t)/\_:=vb;rw [<-aM e,ade];exact⟨⟨RcAt.str_str _ _ _ _,EqAt.str_str _ _ _ _⟩,RcNeAt.str_str _ _ _ _⟩
 |int z=>obtain⟨t,rfl⟩:∃t,y=.int z t:=vb;rw [<-aM e];exact⟨⟨RcAt.str_int _ _ _ _,EqAt.str_int _ _ _ _⟩,RcNeAt.str_int _ _ _ _⟩
 |tup B=>obtain⟨b,V,n,rfl,_,g,_⟩:=vb.gi;rw [<-aM e];exact⟨⟨RcAt.str_tuple _ _ (isTup g) hu,EqAt.str_tuple _ _ (isTup g) hu⟩,RcNeAt.str_tuple _ _ (isTup g) hu⟩
 |_=>exact aB e
theorem Dj{Y:bG}(hu:Y.units<fP){a b:D}(ha:isAtom a=true)(e:gV a b n=some k)(va:VR c w F C s.heap a x)(vb:VR c w F C s.heap b y):tS Y s x y k:=by
 cases a with
 |none=>obtain rfl:x=.none:=va;exact aaF hu e vb
 |bool J=>obtain rfl:x=.bool J:=va;exact Ti e vb
 |int i=>obtain⟨t,rfl⟩:∃t,x=.int i t:=va;exact XW hu e vb
 |str z=>obtain⟨⟨t,rfl⟩,_⟩:(∃t,x=.str z t)/\_:=va;exact ad7 hu e vb
 |_=>exact bz ha
theorem Aa(n:H):∀(Y:bG) (a b:D) (k:ah) (x y:aw),gV a b n=some k->VR c w F C s.heap a x->VR c w F C s.heap b y->Y.units+n+1<fP->RcAt Y s x y k/\EqAt Y s x y k:=by
 induction n with
 |zero=>
  intro Y a b k x y e va vb hu
  have hu:Y.units<fP:=Nat.lt_of_succ_lt hu
  rcases p9 e with ha|⟨B,rfl⟩
  .exact(Dj hu ha e va vb).1
  .rcases o4 e with⟨hb,_⟩|⟨m,n',_,q,_⟩
   .exact(Ij hu hb e va vb).1
   .nomatch q
 |succ n O=>
  intro Y a b k x y e va vb hu
  have hI:Y.units<fP:=by omega
  rcases p9 e with ha|⟨B,rfl⟩
  .exact(Dj hI ha e va vb).1
  .rcases o4 e with⟨hb,_⟩|⟨m,n',rfl,q,e'⟩
   .exact(Ij hI hb e va vb).1
   .rw [<-lu q] at e'
    have Xx:=va
    have Xz:=vb
    refine gq.el va.gi λa1 V n1 bU _ g1 x1=>?_;subst bU
    refine gq.el vb.gi λa2 ws n2 bU _ g2 x2=>?_;subst bU
    refine ay (Ng (Y:=Y) (λa b k x y e va vb=>(O Y.in1 a b k x y e va vb (by show Y.units+1+n+1<fP;omega)).2) _ _ _ _ _ e' x1 x2) λf f1 f2=>?_
    have rc:RcAt Y s (.ref a1) (.ref a2) k:=by
     have:=RcAt.tuples (A:=Y) (e:=f) (isTup g1) (isTup g2) hI (λj h1 h2=>by have z:=f1 j (by simpa using h1) (by simpa using h2);simp only [P_] at z;exact z)
     rw [<-f2]
     simpa using this
    refine⟨rc,?_⟩
    by_cases q:a1=a2
    .subst q
     rw [ac8 (n+1) (.tup B) (.tup m) k _ e Xx Xz]
     exact EqAt.same _
    .exact EqAt.of_refs q rc
theorem Zi(n:H)(Y:bG)(B m:G D)(xs ys:G aw)(k:ah)(e:i8 B m n=some k)(x1:aW c w F C s.heap B xs)(x2:aW c w F C s.heap m ys)(hu:Y.units+n+2<fP):
  ∃e:H->ah,(∀j (h1:j<xs.length) (h2:j<ys.length),EqAt Y.in1 s xs[j] ys[j] (e j))/\((fY (min xs.length ys.length)).all e&&xs.length==ys.length)=k:=
 Ng (λa b k x y e va vb=>(Aa n Y.in1 a b k x y e va vb (by show Y.units+1+n+1<fP;omega)).2) _ _ _ _ _ e x1 x2
end
section
variable{c:a_}{w:WB}{F C:G aA}{s:aT}{Y:bG}
theorem aap(e:gV a b n=some k)(va:VR c w F C s.heap a x)(vb:VR c w F C s.heap b y)(hu:Y.units+n+1<fP):RcNeAt Y s x y (!k):=by
 have hI:Y.units<fP:=by lia
 rcases p9 e with ha|⟨B,rfl⟩
 .exact(Dj hI ha e va vb).2
 .rcases o4 e with⟨hb,_⟩|⟨m,n',rfl,rfl,e'⟩
  .exact(Ij hI hb e va vb).2
  .refine gq.el va.gi λa V n1 bU _ g x1=>?_;rw [bU]
   refine gq.el vb.gi λb ws n2 bU _ g2 x2=>?_;rw [bU]
   refine ay (Zi n' Y B m _ _ k e' x1 x2 (by assumption)) λf f1 f2=>?_
   rw [<-f2]
   simpa using RcNeAt.tuples (A:=Y) (e:=f) (isTup g) (isTup g2) hI (λj h1 h2=>by have z:=f1 j (by simpa using h1) (by simpa using h2);simp only [P_] at z;exact z)
end
section
variable{c:a_}{w:WB}{F C:G aA}{I h:aP}{o:MH}
inductive LstAt(c:a_)(w:WB)(F C:G aA)(h:aP)(p:H×G D)(x:aw):Prop
 |mk (ad:aA) (V:dS aw) (n:H):x=.ref ad->h.get? ad=some (fT V n)->aW c w F C h p.2 V.toList.reverse->p.2.length<=p.1->p.1<=4096->LstAt c w F C h p x
theorem LstAt.el{az:Prop}(z:LstAt c w F C h p x)(k:∀ad V n,x=.ref ad->h.get? ad=some (fT V n)->aW c w F C h p.2 V.toList.reverse->p.2.length<=p.1->p.1<=4096->az):az:=z.casesOn k
inductive Ja(c:a_)(w:WB)(F C:G aA)(h:aP)(B:G D)(x:aw):Prop
 |mk (ad:aA) (V:dS aw) (n:H):x=.ref ad->(h.get? ad=some (kX V n)\/h.get? ad=some (fT V n))->aW c w F C h B V.toList->Ja c w F C h B x
theorem nF(S:St c w I F C o h)(e:eV o a=some p)(va:VR c w F C h a x):LstAt c w F C h p x:=by
 unfold eV at e
 cases a with
 |ref i=>
  refine ay va ?_;clear va;intro ad e1 aE;subst aE
  refine ay (S.at_ i ad e1) λE e2 r=>?_
  dsimp only at e
  rw [e2] at e
  cases E with
  |list b r'=>cases e;obtain⟨V,n,g,y,z⟩:=r;exact⟨ad,V,n,rfl,g,y,z.1,z.2⟩
  |_=>exact aB e
 |aD k B=>
  cases k with
  |list b=>
   cases e
   refine dO va λad V n bU bB=>eN bB λ_ g y dA=>xA dA λz t=>?_;rw [bU]
   refine⟨ad,V,n,rfl,g,?_,?_,z⟩
   .rw [fD];exact t.reverse
   .rw [fD,ez];exact y
  |_=>exact aB e
 |_=>exact aB e
theorem Fw(S:St c w I F C o h)(e:itemsOf o a=some B)(va:VR c w F C h a x):Ja c w F C h B x:=by
 unfold itemsOf at e
 cases a with
 |tup l'=>cases e;obtain⟨ad,V,n,rfl,_,g,y⟩:=va.gi;exact⟨ad,V,n,rfl,.inl g,y⟩
 |ref i=>
  refine ay va ?_;clear va;intro ad e1 aE;subst aE
  refine ay (S.at_ i ad e1) λE e2 r=>?_
  dsimp only [listAt] at e
  rw [e2] at e
  cases E with
  |list b r'=>cases e;obtain⟨V,n,g,y,z⟩:=r;exact⟨ad,V,n,rfl,.inr g,by rw [fD];simpa using y.reverse⟩
  |_=>exact aB e
 |aD k l'=>
  cases k with
  |list b=>
   cases e
   refine dO va λad V n bU bB=>eN bB λ_ g y dA=>xA dA λz t=>?_;rw [bU]
   exact⟨ad,V,n,rfl,.inr g,t⟩
  |_=>exact aB e
 |_=>exact aB e
theorem agE(a:D)(x:ar):iz a (.str x)=true↔a=.str x:=by
 cases a with
 |str y=>show seq y x=true↔_;rw [lV];exact⟨cq _,D.str_inj⟩
 |_=>exact⟨λh=>mQ (h:false=true),λh=>nomatch h⟩
theorem agD(a:D)(x:ba):iz a (.int x)=true↔a=.int x:=by
 cases a with
 |int y=>show eqZ y x=true↔_;rw [jC];exact⟨cq _,λh=>D.noConfusion h id⟩
 |_=>exact⟨λh=>mQ (h:false=true),λh=>nomatch h⟩
theorem Uk(p:D×D)(R:G (D×D))(x:D):sm (p::R) x=if iz p.1 x=true then some p.2 else sm R x:=by
 refine(?_:@bN (λ_=>aa D) (sm R x) (some p.2) (iz p.1 x)=_)
 cases iz p.1 x<;>rfl
theorem rB{K:Type} [jw K]{key:K->D}(hk:∀a b,iz (key a) (key b)=decide (a=b))(k:K){aR:G (K×aw)}(u:Under P key R aR):
  (sm R (key k)=none/\k8 aR k=none)\/∃m v,sm R (key k)=some m/\k8 aR k=some v/\P m v:=by
 induction u with
 |nil=>exact .inl ⟨rfl,rfl⟩
 |@cons k' m v B r a b O=>
  rw [Uk,hk]
  have hv:k8 ((k',v)::r) k=if k'=k then some v else k8 r k:=by
   by_cases q:k'=k<;>simp [k8,q]
  rw [hv]
  by_cases q:k'=k
  .rw [bT q,ix q];exact .inr ⟨m,v,rfl,rfl,a⟩
  .rw [bl q,jf q];exact O
theorem oJ(a b:ar):iz (.str a) (.str b)=decide (a=b):=by show seq a b=_;exact seq_eq a b
theorem sV(a b:ba):iz (.int a) (.int b)=decide (a=b):=by show eqZ a b=_;exact eqZ_eq a b
end
section
variable{c:a_}{w:WB}{Y:bG}{own F C:G aA}{s:aT}{α:Type}{I:aP}{o:MH}{K:b8}{W:bQ}{mg mb:ar->aa aw}
theorem bc.gG(x:∀(Q:α->aT->Prop) (au:aw->aT->Prop),Q a s->bo (bK c w.w) Y t Q au s):bc c w Y own C s t (Gives s C a):=λQ au k=>
 x Q au (k a C s.heap s.toks (.refl ..) ⟨rfl,rfl,rfl⟩)
theorem bc.Oj(x:∀(Q:α->aT->Prop) (au:aw->aT->Prop),Q a {s with toks:=s.toks+n}->bo (bK c w.w) Y t Q au s):bc c w Y own C s t (Gives s C a):=λQ au k=>
 x Q au (k a C s.heap (s.toks+n) (.refl ..) ⟨rfl,rfl,rfl⟩)
theorem bc.agn(x:bc c w Y own C s t (Gives s C a))
  (y:∀tk,bc c w Y own C {s with toks:=tk} (f a) P):bc c w Y own C s (t>>=f) P:=x.bind λa' ao M tk st p=>by
 refine cf p ?_;clear p;intro eJ aI aE;obtain rfl:=eJ.symm;rw [aI];rw [aE]
 exact y tk
theorem tL(T:Top c w K W I mg mb)(S:St c w I F C o s.heap){i:H}(e:C[i]?=some a):(a==tK)=false:=by
 refine mn.mpr λq=>?_
 refine bw T.sys λE ho=>?_
 exact(S.keep _ E ho).2 (q▸dy e)
theorem sh{L gL:Type} [jw L] [jw gL]{k1:KeyKind c w.w L}{k2:KeyKind c w.w gL}{h:aP}(x:h.DictOf k1 a []):h.DictOf k2 a []:=by
 refine dO x λE R ep ho bB=>eN bB λhx hd hk dA=>xA dA λhp hn=>?_
 have he:R=#[]:=by
  apply Array.ext'
  generalize q:R.toList=ax at hp
  cases ax with
  |nil=>rfl
  |cons e r=>cases hp
 subst he
 exact⟨E,#[],ep,ho,hx,hd,λe he=>by simp at he,.nil,rO⟩
theorem xV(p:D×D)(R:G (D×D))(x:D)(e:keysOk (p::R) x=true):BB p.1 x=true/\keysOk R x=true:=by
 have e':@bN (λ_=>ah) false (keysOk R x) (BB p.1 x)=true:=e
 generalize q:BB p.1 x=ax at e'
 cases ax with
 |false=>exact bz e'
 |true=>exact⟨rfl,e'⟩
theorem u_:∀(R:G (D×D)) (x:D),keysOk R x=true->isKey x=true
 |[],x,e=>e
 |p::R,x,e=>u_ R x (xV p R x e).2
theorem tJ{h:aP}{a:aA}{R:G (D×D)}(E:OR c w F C h a (.dict R))(e:keysOk R (.str x)=true):
  ∃aR,h.DictOf (strKind c w.w) a aR/\Under (VR c w F C h) D.str R aR/\(∀p∈aR,g8 p.1=true)/\R.length<=4096:=by
 obtain⟨⟨aR,d,u,q⟩|⟨aR,d,u⟩,B⟩:=E
 .exact⟨aR,d,u,q,B⟩
 .cases u with
  |nil=>exact⟨[],sh d,.nil,λ_ h=>(nomatch h),B⟩
  |cons a b=>exact bP (xV _ _ _ e).1 (λh=>nomatch (h:false=true))
theorem xP{h:aP}{a:aA}{R:G (D×D)}(E:OR c w F C h a (.dict R))(e:keysOk R (.int x)=true):
  ∃aR,h.DictOf (lE c w.w) a aR/\Under (VR c w F C h) D.int R aR/\R.length<=4096:=by
 obtain⟨⟨aR,d,u,q⟩|⟨aR,d,u⟩,B⟩:=E
 .cases u with
  |nil=>exact⟨[],sh d,.nil,B⟩
  |cons a b=>exact bP (xV _ _ _ e).1 (λh=>nomatch (h:false=true))
 .exact⟨aR,d,u,B⟩
theorem Vu(k:ar)(ks:G ar)(v:D)(B:G D)(x:ar):pK (k::ks) (v::B) x=match pK ks B x with|some r=>(if k=x then some (some v) else some r)|none=>none:=by
 refine(?_:(match pK ks B x with|some r=>@bN (λ_=>aa (aa D)) (some r) (some (some v)) (seq k x)|none=>none)=_)
 rw [seq_eq]
 cases pK ks B x with
 |none=>rfl
 |some r=>by_cases q:k=x<;>simp [q]
theorem Lw:∀{B:G D} {V:G aw} {q:aa D},pK ks B x=some q->aW c w F C h B V->
  (q=none/\k8 (ks.zip V) x=none)\/∃m u,q=some m/\k8 (ks.zip V) x=some u/\VR c w F C h m u:=by
 induction ks with
 |nil=>
  intro B V q e y
  cases B with
  |nil=>exact .inl ⟨(aM e).symm,rfl⟩
  |cons=>exact aB e
 |cons k ks O=>
  intro B V q e y
  cases B with
  |nil=>exact aB e
  |cons m B=>
   refine dR.el y.cj λv r aE y1 y2=>?_;subst aE
   rw [Vu] at e
   generalize e1:pK ks B x=ax at e
   cases ax with
   |none=>exact aB e
   |some r'=>
    have e:(if k=x then some (some m) else some r')=some q:=e
    have hv:k8 ((k,v)::ks.zip r) x=if k=x then some v else k8 (ks.zip r) x:=by
     by_cases z:k=x<;>simp [k8,z]
    rw [show k8 ((k::ks).zip (v::r)) x=_ from hv]
    by_cases z:k=x
    .rw [bT z] at e⊢
     exact .inr ⟨m,v,(aM e).symm,rfl,y1⟩
    .rw [bl z] at e⊢
     exact aM e▸O e1 y2
theorem uA(S:St c w I F C o s.heap)(e:dictAt o i=some R)(v:VR c w F C s.heap (.ref i) d):∃a,C[i]?=some a/\d=.ref a/\OR c w F C s.heap a (.dict R)/\o.t.get i=some (.dict R):=by
 refine ay v ?_;clear v;intro a e1 aE;subst aE
 refine ay (S.at_ i a e1) λE e2 r=>?_
 unfold dictAt at e
 rw [e2] at e
 cases E with
 |dict B=>cases e;exact⟨a,e1,rfl,r,e2⟩
 |_=>exact aB e
theorem xf(e:ih R x=some q):keysOk R x=true/\sm R x=q:=by
 unfold ih at e
 generalize z:keysOk R x=ax at e
 cases ax with
 |true=>cases e;exact⟨rfl,rfl⟩
 |false=>exact aB e
inductive I0(c:a_)(w:WB)(F C:G aA)(h:aP)(q:aa D)(d kx:aw):Prop
 |mk (a:aA) (L:Type) (dl:jw L) (fS:KeyKind c w.w L) (aR:G (L×aw)) (k:L):d=.ref a->(a==tK)=false->fS.is k kx=true->h.DictOf fS a aR->
   ((q=none/\k8 aR k=none)\/∃m u,q=some m/\k8 aR k=some u/\VR c w F C h m u)->I0 c w F C h q d kx
theorem DV(T:Top c w K W I mg mb)(S:St c w I F C o s.heap){v x:D}(e:dictGet o v x=some q)(vd:VR c w F C s.heap v d)(vx:VR c w F C s.heap x kx):
  I0 c w F C s.heap q d kx:=by
 unfold dictGet at e
 cases v with
 |ref i=>
  dsimp only at e
  generalize e1:dictAt o i=ax at e
  cases ax with
  |none=>exact aB e
  |some R=>
   refine iZ (uA S e1 vd) λa p1 aE E _=>?_;subst aE
   refine xA (xf e) λk1 aI=>?_;subst aI
   have kk:=u_ _ _ k1
   have ns:=tL T S p1
   cases x with
   |str z=>
    obtain⟨⟨t,rfl⟩,_⟩:=vx
    refine fM (tJ E k1) λaR d1 u _=>?_
    exact⟨a,ar,Mt,strKind c w.w,aR,z,rfl,ns,by simp [gC,mY],d1,rB oJ z u⟩
   |int z=>
    refine bw vx ?_;clear vx;intro t aI;subst aI
    refine fM (xP E k1) λaR d1 u _=>?_
    exact⟨a,ba,Mt,lE c w.w,aR,z,rfl,ns,by simp [lE,zB],d1,rB sV z u⟩
   |_=>exact bz kk
 |aD k B=>
  cases k with
  |dict ks=>
   dsimp only [Ae] at e
   refine eK vd λa V aE _ ns bB=>cf bB λd1 _ y=>?_;subst aE
   cases x with
   |str z=>
    obtain⟨⟨t,rfl⟩,_⟩:=vx
    exact⟨a,ar,Mt,strKind c w.w,_,z,rfl,ns,by simp [gC,mY],d1,Lw e y⟩
   |_=>exact aB e
  |_=>exact aB e
 |_=>exact aB e
theorem abg(e:GS a b=some k):∃x y,a=some x/\b=some y/\k=(x||y):=by
 cases a with
 |none=>exact aB e
 |some x=>cases b with
  |none=>exact aB e
  |some y=>cases e;exact⟨x,y,rfl,rfl,rfl⟩
open Classical in
theorem Ss{α:Type}{f g:α->ah}{r:G α}(h:∀y∈r,f y=g y):r.any f=r.any g:=by
 induction r with
 |nil=>rfl
 |cons a r O=>rw [qy,qy,h a (.head _),O λy hy=>h y (.tail _ hy)]
theorem aac{v:D}{B:G D}:∀{xs:G aw} {k:ah},Ba v B=some k->aW c w F C s.heap B xs->
  ∃f:aw->ah,(∀y∈xs,∃m,VR c w F C s.heap m y/\q7 m v=some (f y))/\xs.any f=k:=by
 induction B with
 |nil=>exact λe y=>⟨λ_=>false,λ_ h=>(nomatch (y.dW▸h:_∈[])),by rw [y.dW];exact aM e⟩
 |cons m B O=>
  intro xs k e y
  refine dR.el y.cj λu r aE y1 y2=>?_;rw [aE]
  refine eO (abg (e:GS (q7 m v) (Ba v B)=some k)) λk1 k2 e1 e2 fV=>?_;rw [fV]
  refine ay (O e2 y2) λf f1 f2=>?_
  by_cases z:u∈r
  .refine ay (f1 u z) λm' v' e'=>?_
   refine⟨f,λy hy=>?_,?_⟩
   .refine dC (bY.mp hy) (λrf=>?_) λhy=>?_
    .rw [rf];exact f1 _ z
    .exact f1 y hy
   .rw [qy,Vb 40 _ _ _ _ _ _ e1 e' y1 v',f2]
  .have cI:∀y∈r,(if y=u then k1 else f y)=f y:=λy hy=>bl λ(q:y=u)=>z (q▸hy)
   refine⟨λy=>if y=u then k1 else f y,λy hy=>?_,?_⟩
   .by_cases yu:y=u
    .exact⟨m,yu▸y1,e1.trans (cq some (bT yu).symm)⟩
    .refine ay (f1 y ((bY.mp hy).resolve_left yu)) λa b J=>?_
     exact⟨a,b,J.trans (cq some (bl yu).symm)⟩
   .rw [qy,bT rfl,<-f2,Ss cI]
theorem aad(hu:Y.units+60<fP)(vx:VR c w F C s.heap v x)(e:Ba v B=some k)(y:aW c w F C s.heap B xs):
  ∃f:aw->ah,(∀y∈xs,EqAt Y.in1 s y x (f y))/\xs.any f=k:=by
 refine ay (aac e y) λf f1 f2=>?_
 refine⟨f,λy hy=>?_,f2⟩
 refine ay (f1 y hy) λm v1 e1=>?_
 exact(Aa 40 Y.in1 m v (f y) y x e1 v1 vx (by show Y.units+1+40+1<fP;lia)).2
theorem ago(h:bc c w Y own C s x (Gives s C a))(e:a=b):bc c w Y own C s x (Gives s C b):=e▸h
theorem Mr(T:Top c w K W I mg mb)(S:St c w I F C o s.heap)(hu:Y.units+60<fP)(e:AO o v b=some k)(vx:VR c w F C s.heap v x)(vy:VR c w F C s.heap b y):
  bc c w Y own C s (iq .In x y) (Gives s C (.bool k))/\bc c w Y own C s (iq .NotIn x y) (Gives s C (.bool (!k))):=by
 unfold AO at e
 generalize e1:itemsOf o b=ax at e
 cases ax with
 |some B=>
  obtain⟨ad,V,n,rfl,g,yl⟩:=Fw S e1 vy
  refine ay (aad hu vx e yl) λf f1 f2=>?_
  have fa:∀y,y∈V->EqAt Y.in1 s y x (f y):=λy hy=>f1 y (Cd.mpr hy)
  have fk:V.any f=k:=by rw [<-f2,P9]
  refine dC g ?_ ?_<;>clear g<;>intro g
  .exact⟨.gG λQ au q=>in_tupleAt f (isTup g) fa (fk▸q),.gG λQ au q=>notIn_tupleAt f (isTup g) fa (fk▸q)⟩
  .exact⟨.gG λQ au q=>in_listAt f (iJ g) fa (fk▸q),.gG λQ au q=>notIn_listAt f (iJ g) fa (fk▸q)⟩
 |none=>
  dsimp only at e
  generalize e2:dictGet o b v=ax at e
  cases ax with
  |none=>exact aB e
  |some q=>
   cases e
   obtain⟨a,L,dl,fS,aR,key,rfl,ns,hk,hd,r⟩:=DV T S e2 vy vx
   have hs:(k8 aR key).isSome=cK q:=by
    rcases r with⟨rfl,r⟩|⟨m,u,rfl,r,_⟩<;>rw [r]<;>rfl
   exact⟨.Oj (n:=1) λQ au z=>wpAny_in_of hk ns hd.mapOf (hs▸z),.Oj (n:=1) λQ au z=>wpAny_notIn_of hk ns hd.mapOf (hs▸z)⟩
end
section
variable{c:a_}{w:WB}{Y:bG}{own F C:G aA}{s:aT}{α:Type}{I:aP}{o:MH}{K:b8}{W:bQ}{mg mb:ar->aa aw}
theorem T4(y:G (D×D))(p:D×D)(x:G (D×D)):uz y (p::x)=match ih y p.1 with
  |some q=>match q with
   |some u=>pA (q7 p.2 u) (uz y x)
   |.none=>some false
  |.none=>.none:=rfl
theorem T5{L:Type} [jw L]{key:L->D}(hk:∀a b,iz (key a) (key b)=decide (a=b))(hu:Y.units+60<fP){kb:G (L×aw)}(uy:Under (VR c w F C s.heap) key y kb)
  {ka:G (L×aw)} (ux:Under (VR c w F C s.heap) key x ka):∀{r:ah},uz y x=some r->KeqHits Y s kb ka r:=by
 induction ux with
 |nil=>intro r e;cases e;exact .nil
 |@cons k m v B r' a b O=>
  intro r e
  rw [T4] at e
  dsimp only at e
  generalize e1:ih y (key k)=ax at e
  cases ax with
  |none=>exact aB e
  |some q=>
   refine xA (xf e1) λ_ e2=>?_
   rcases rB hk k uy with⟨z1,z2⟩|⟨m',v',z1,z2,z3⟩
   .rw [z1] at e2;obtain rfl:=e2.symm;cases e;exact .miss z2
   .rw [z1] at e2
    subst e2
    refine eO (wR (e:pA (q7 m m') (uz y B)=some r)) λk1 k2 e3 e4 fV=>?_;rw [fV]
    exact .hit z2 (Aa 40 Y m m' k1 v v' e3 a z3 (by lia)).2 (O e4)
theorem Ip{L:Type}{key:L->D}{ka:G (L×aw)}(u:Under P key (p::r) ka):∃k,p.1=key k:=by
 cases u with
 |cons a b=>exact⟨_,rfl⟩
theorem Nh(S:St c w I F C o s.heap)(hu:Y.units+60<fP)(e:A4 o a b=some k)(vx:VR c w F C s.heap a x)(vy:VR c w F C s.heap b y):
  bc c w Y own C s (iq .Eq x y) (Gives s C (.bool k))/\bc c w Y own C s (iq .NotEq x y) (Gives s C (.bool (!k))):=by
 have hI:Y.units<fP:=by lia
 unfold A4 at e
 cases e1:eV o a with
 |none=>rw [e1] at e;exact aB e
 |some p=>
  cases e2:eV o b with
  |none=>rw [e1] at e;dsimp only at e;rw [e2] at e;exact aB e
  |some q=>
   rw [e1] at e;dsimp only at e;rw [e2] at e
   obtain⟨a1,V,n,rfl,g1,y1,_⟩:=nF S e1 vx
   obtain⟨a2,ws,n2,rfl,g2,y2,_⟩:=nF S e2 vy
   have l1:=y1.length
   have l2:=y2.length
   rw [ez,hX] at l1 l2
   dsimp only [M6] at e
   cases q1:p.2 with
   |nil=>
    cases q2:q.2 with
    |nil=>
     rw [q1,q2] at e
     cases e
     rw [q1,rM] at l1
     rw [q2,rM] at l2
     have hh:∀j (h1:j<V.size) (h2:j<ws.size),EqAt Y.in1 s V[j] ws[j] ((λ_=>true) j):=λj h1=>by lia
     refine⟨.gG λQ au z=>RcAt.lists (iJ g1) (iJ g2) (l1.trans l2.symm) hI hh c w.w au Q (by rw [l1];exact z),.gG λQ au z=>RcNeAt.lists (iJ g1) (iJ g2) (l1.trans l2.symm) hI hh c w.w au Q (by rw [l1];exact z)⟩
    |cons J r=>
     rw [q1,q2] at e
     cases e
     rw [q1,rM] at l1
     rw [q2,iQ] at l2
     have hh:(V.size !=ws.size)=true:=by rw [l1,l2];rfl
     exact⟨.gG λQ au z=>RcAt.lists_lengths (iJ g1) (iJ g2) hh hI c w.w au Q z,.gG λQ au z=>RcNeAt.lists_lengths (iJ g1) (iJ g2) hh hI c w.w au Q z⟩
   |cons J r=>
    cases q2:q.2 with
    |nil=>
     rw [q1,q2] at e
     cases e
     rw [q1,iQ] at l1
     rw [q2,rM] at l2
     have hh:(V.size !=ws.size)=true:=by rw [l1,l2];rfl
     exact⟨.gG λQ au z=>RcAt.lists_lengths (iJ g1) (iJ g2) hh hI c w.w au Q z,.gG λQ au z=>RcNeAt.lists_lengths (iJ g1) (iJ g2) hh hI c w.w au Q z⟩
    |cons c' r'=>rw [q1,q2] at e;exact aB e
theorem Ue(T:Top c w K W I mg mb)(S:St c w I F C o s.heap)(hu:Y.units+61<fP){i j:H}{k:ah}(e1:dictAt o i=some x)(e2:dictAt o j=some y)
  (e:DU x y=some k) (vx:VR c w F C s.heap (.ref i) v) (vy:VR c w F C s.heap (.ref j) u):
  bc c w Y own C s (iq .Eq v u) (Gives s C (.bool k))/\bc c w Y own C s (iq .NotEq v u) (Gives s C (.bool (!k))):=by
 have hI:Y.units<fP:=by lia
 have Xv:Y.in1.units+60<fP:=by show Y.units+1+60<fP;assumption
 refine iZ (uA S e1 vx) λa p1 aE o1 _=>?_;rw [aE]
 refine iZ (uA S e2 vy) λb p2 aE o2 _=>?_;subst aE
 have n1:=tL T S p1
 have n2:=tL T S p2
 have apart:∀{L:Type} [jw L] (fS:KeyKind c w.w L) (ka kb:G (L×aw)),s.heap.DictOf fS a ka->s.heap.DictOf fS b kb->ka.length≠kb.length->
   bc c w Y own C s (iq .Eq (.ref a) (.ref b)) (Gives s C (.bool false))/\bc c w Y own C s (iq .NotEq (.ref a) (.ref b)) (Gives s C (.bool (!false))):=by
  intro L _ fS ka kb da db hl
  have z:(ka.length==kb.length&&true)=false:=by rw [mn.mpr hl];rfl
  exact⟨.gG λQ au q=>keq_eq (r:=true) n1 n2 da db hI (λh=>bP h hl) (by rw [z];exact q),.gG λQ au q=>keq_ne (r:=true) n1 n2 da db hI (λh=>bP h hl) (by rw [z];exact q)⟩
 have Dd:∀{L:Type} [jw L] (fS:KeyKind c w.w L) (key:L->D) (hk:∀a b,iz (key a) (key b)=decide (a=b)) (ka kb:G (L×aw)),s.heap.DictOf fS a ka->s.heap.DictOf fS b kb->
   Under (VR c w F C s.heap) key x ka->Under (VR c w F C s.heap) key y kb->x.length=y.length->uz y x=some k->bc c w Y own C s (iq .Eq (.ref a) (.ref b)) (Gives s C (.bool k))/\bc c w Y own C s (iq .NotEq (.ref a) (.ref b)) (Gives s C (.bool (!k))):=by
  intro L _ fS key hk ka kb da db ux uy hl e
  have Mc:=T5 (Y:=Y.in1) hk Xv uy ux e
  have z:(ka.length==kb.length&&k)=k:=by rw [<-ux.length,<-uy.length,hl];simp
  exact⟨.gG λQ au q=>keq_eq n1 n2 da db hI (λ_=>Mc) (by rw [z];exact q),.gG λQ au q=>keq_ne n1 n2 da db hI (λ_=>Mc) (by rw [z];exact q)⟩
 cases x with
 |nil=>
  have da:∀{L:Type} [jw L] (fS:KeyKind c w.w L),s.heap.DictOf fS a []:=by
   intro L _ fS
   obtain⟨⟨ka,da,ux,_⟩|⟨ka,da,ux⟩,_⟩:=o1<;>cases ux<;>exact sh da
  cases y with
  |nil=>
   cases e
   have db:s.heap.DictOf (gC c w.w) b []:=by
    obtain⟨⟨kb,db,uy,_⟩|⟨kb,db,uy⟩,_⟩:=o2<;>cases uy<;>exact sh db
   exact Dd _ _ oJ [] [] (da _) db .nil .nil rfl rfl
  |cons p r=>
   cases e
   obtain⟨⟨kb,db,uy,_⟩|⟨kb,db,uy⟩,_⟩:=o2
   .exact apart _ [] kb (da _) db (by rw [<-uy.length];simp)
   .exact apart _ [] kb (da _) db (by rw [<-uy.length];simp)
 |cons p r=>
  dsimp only [DU] at e
  refine xA (bI e) λq e=>?_
  rw [MT.beq_eq] at e
  obtain⟨⟨ka,da,ux,_⟩|⟨ka,da,ux⟩,_⟩:=o1
  .refine bw (Ip ux) λkk uR=>?_
   rw [uR] at q
   refine fM (tJ o2 q) λkb db uy _=>?_
   by_cases hl:(p::r).length=y.length
   .rw [ix hl] at e;exact Dd _ _ oJ _ kb da db ux uy hl e
   .rw [jf hl] at e;cases e;exact apart _ _ kb da db (by rw [<-uy.length,<-ux.length];exact hl)
  .refine bw (Ip ux) λkk uR=>?_
   rw [uR] at q
   refine fM (xP o2 q) λkb db uy _=>?_
   by_cases hl:(p::r).length=y.length
   .rw [ix hl] at e;exact Dd _ _ sV _ kb da db ux uy hl e
   .rw [jf hl] at e;cases e;exact apart _ _ kb da db (by rw [<-uy.length,<-ux.length];exact hl)
theorem aab(hu:Y.units+60<fP)(e:q7 a b=some k)(vx:VR c w F C s.heap a x)(vy:VR c w F C s.heap b y):
  bc c w Y own C s (iq .Eq x y) (Gives s C (.bool k))/\bc c w Y own C s (iq .NotEq x y) (Gives s C (.bool (!k))):=
 ⟨.gG λQ au z=>(Aa 40 Y a b k x y e vx vy (by lia)).1 c w.w au Q z,.gG λQ au z=>aap e vx vy (by lia) c w.w au Q z⟩
theorem Ab(T:Top c w K W I mg mb)(S:St c w I F C o s.heap)(hu:Y.units+61<fP)(e:uD o a b=some k)(vx:VR c w F C s.heap a x)(vy:VR c w F C s.heap b y):
  bc c w Y own C s (iq .Eq x y) (Gives s C (.bool k))/\bc c w Y own C s (iq .NotEq x y) (Gives s C (.bool (!k))):=by
 unfold uD at e
 cases a with
 |ref i=>
  dsimp only at e
  generalize e1:o.t.get i=ax at e
  cases ax with
  |none=>exact aB e
  |some E=>
   cases E with
   |list J r=>exact Nh S (by exact rS (by assumption)) e vx vy
   |dict z=>
    cases b with
    |ref j=>
     dsimp only at e
     generalize e2:dictAt o j=ax at e
     cases ax with
     |none=>exact aB e
     |some y'=>
      exact Ue T S hu (by unfold dictAt;rw [e1]) e2 e vx vy
    |_=>exact aB e
   |_=>exact aB e
 |aD J B=>exact Nh S (by exact rS (by assumption)) e vx vy
 |_=>exact aab (by exact rS (by assumption)) e vx vy
theorem GB(e:yh E=some k):∃b,E=some b/\k=!b:=by
 cases E with
 |none=>exact aB e
 |some b=>cases e;exact⟨b,rfl,rfl⟩
theorem MD(e:isNone a=some k)(vx:VR c w F C s.heap a x):
  bc c w Y own C s (iq .Is x .none) (Gives s C (.bool k))/\bc c w Y own C s (iq .IsNot x .none) (Gives s C (.bool (!k))):=by
 have cI:∀ad:aA,bc c w Y own C s (iq .Is (.ref ad) .none) (Gives s C (.bool false))/\bc c w Y own C s (iq .IsNot (.ref ad) .none) (Gives s C (.bool (!false))):=λad=>
  ⟨.gG λQ au q=>is_none_ne (λh=>nomatch h) q,.gG λQ au q=>isnot_none_ne (λh=>nomatch h) q⟩
 cases a with
 |none=>cases e;subst vx;exact⟨.gG λQ au q=>is_none_none q,.gG λQ au q=>isnot_none_none q⟩
 |tup B=>cases e;obtain⟨ad,V,n,rfl,_⟩:=vx;exact cI ad
 |ref i=>cases e;obtain⟨ad,_,rfl⟩:=vx;exact cI ad
 |aD J B=>cases e;cases J<;>(first|(obtain⟨ad,V,n,rfl,_⟩:=vx;exact cI ad)|(obtain⟨ad,V,rfl,_⟩:=vx;exact cI ad))
 |_=>exact aB e
theorem Ku(e:cmpInt f a b=some k):∃i j,a=.int i/\b=.int j/\f i j=k:=by
 cases a with
 |int i=>cases b with
  |int j=>exact⟨i,j,rfl,rfl,aM e⟩
  |_=>exact aB e
 |_=>exact aB e
theorem Kt(e:zU f g a b=some k):(∃i j,a=.int i/\b=.int j/\f i j=k)\/∃J,a=.fuel J/\b=.int 0/\g J=some k:=by
 cases a with
 |int i=>cases b with
  |int j=>exact .inl ⟨i,j,rfl,rfl,aM e⟩
  |_=>exact aB e
 |fuel J=>cases b with
  |int j=>
   dsimp only [zU] at e
   generalize q:eqZ j 0=ax at e
   cases ax with
   |false=>exact aB e
   |true=>exact .inr ⟨J,rfl,by rw [(jC j 0).mp q],e⟩
  |_=>exact aB e
 |_=>exact aB e
theorem NN{b:D}(e:(match b with|.none=>E|_=>.none)=some k):b=.none/\E=some k:=by
 cases b with
 |none=>exact⟨rfl,e⟩
 |_=>exact aB e
theorem M4(i j:ba):(!(ltZ j i))=decide (i<=j):=by rw [ltZ_eq];by_cases q:i<=j<;>simp [q]<;>lia
theorem om(T:Top c w K W I mg mb)(S:St c w I F C o s.heap)(hu:Y.units+61<fP){a b:D}(e:zV o op a b=some k)(vx:VR c w F C s.heap a x)(vy:VR c w F C s.heap b y):
  bc c w Y own C s (iq op x y) (Gives s C (.bool k)):=by
 cases op with
 |Eq=>exact(Ab T S hu e vx vy).1
 |NotEq=>obtain⟨b',e',rfl⟩:=GB e;exact(Ab T S hu e' vx vy).2
 |In=>exact(Mr T S (by exact rS (by assumption)) e vx vy).1
 |NotIn=>obtain⟨b',e',rfl⟩:=GB e;exact(Mr T S (by exact rS (by assumption)) e' vx vy).2
 |Is=>
  refine xA (NN (E:=isNone a) e) λeJ e=>?_;subst eJ
  obtain rfl:y=.none:=vy
  exact(MD e vx).1
 |IsNot=>
  refine xA (NN (E:=yh (isNone a)) e) λeJ e=>?_;subst eJ
  obtain rfl:y=.none:=vy
  obtain⟨b',e',rfl⟩:=GB e;exact(MD e' vx).2
 |Lt=>
  refine eO (Ku e) λi j aE bU fV=>?_;subst aE;subst bU;subst fV
  obtain⟨t,rfl⟩:=vx;obtain⟨u,rfl⟩:=vy
  rw [ltZ_eq]
  exact .gG λQ au q=>P.lt_int q
 |LtE=>
  refine eO (Ku e) λi j aE bU fV=>?_;subst aE;subst bU;subst fV
  obtain⟨t,rfl⟩:=vx;obtain⟨u,rfl⟩:=vy
  rw [M4]
  exact .gG λQ au q=>P.le_int q
 |Gt=>
  rcases Kt e with⟨i,j,rfl,rfl,rfl⟩|⟨J,rfl,rfl,e⟩
  .obtain⟨t,rfl⟩:=vx;obtain⟨u,rfl⟩:=vy
   rw [ltZ_eq]
   exact .gG λQ au q=>P.gt_int q
  .obtain⟨i,t,rfl,hi⟩:=vx;obtain⟨u,rfl⟩:=vy
   cases J with
   |zero=>exact aB e
   |succ J=>
    rw [<-aM e,show true=decide (i>0) from(ix (by lia)).symm]
    exact .gG λQ au q=>P.gt_int q
 |GtE=>
  rcases Kt e with⟨i,j,rfl,rfl,rfl⟩|⟨J,rfl,rfl,e⟩
  .obtain⟨t,rfl⟩:=vx;obtain⟨u,rfl⟩:=vy
   rw [M4]
   exact .gG λQ au q=>P.ge_int q
  .obtain⟨i,t,rfl,hi⟩:=vx;obtain⟨u,rfl⟩:=vy
   rw [<-aM e,show true=decide (i>=0) from(ix (by lia)).symm]
   exact .gG λQ au q=>P.ge_int q
theorem Kv(T:Top c w K W I mg mb)(S:St c w I F C o s.heap)(hu:Y.units+61<fP)(e:xa W o op a b=some k)(vx:VR c w F C s.heap a x)(vy:VR c w F C s.heap b y):
  bc c w Y own C s (iq op x y) (Gives s C (.bool k)):=by
 cases op with
 |Eq=>
  unfold xa at e
  dsimp only at e
  generalize q:W.eqv a b=ax at e
  cases ax with
  |none=>exact om T S hu (op:=.Eq) e vx vy
  |some r=>
   cases e
   exact(T.eqv a b _ q Y own F C s o x y S hu vx vy).1
 |NotEq=>
  unfold xa at e
  dsimp only at e
  generalize q:W.eqv a b=ax at e
  cases ax with
  |none=>exact om T S hu (op:=.NotEq) e vx vy
  |some r=>
   cases e
   exact(T.eqv a b _ q Y own F C s o x y S hu vx vy).2
 |In=>exact om T S hu (op:=.In) e vx vy
 |NotIn=>exact om T S hu (op:=.NotIn) e vx vy
 |Is=>exact om T S hu (op:=.Is) e vx vy
 |IsNot=>exact om T S hu (op:=.IsNot) e vx vy
 |Lt=>exact om T S hu (op:=.Lt) e vx vy
 |LtE=>exact om T S hu (op:=.LtE) e vx vy
 |Gt=>exact om T S hu (op:=.Gt) e vx vy
 |GtE=>exact om T S hu (op:=.GtE) e vx vy
end
structure bZ{ag:Type}(Z:cU ag)(ae:ag->Prop):Prop where
 fail:¬ae Z.fail
 all:∀n k,ae (Z.all n k)->∀d,d<n->ae (k d)
section
variable{ag:Type}{Z:cU ag}{ae:ag->Prop}{c:a_}{w:WB}{Y:bG}{own F C:G aA}{s:aT}{I h M:aP}{o:MH}{K:b8}{W:bQ}{mg mb:ar->aa aw}
theorem mH{α:Type}(Zk:bZ Z ae){E:aa α}{F:α->ag}(e:ae (match E with|some a=>F a|.none=>Z.fail)):∃a,E=some a/\ae (F a):=by
 cases E with
 |none=>exact bP e Zk.fail
 |some a=>exact⟨a,rfl,e⟩
theorem bH(Zk:bZ Z ae)(e:ae (match b with|true=>x|false=>Z.fail)):b=true/\ae x:=by
 cases b with
 |false=>exact bP e Zk.fail
 |true=>exact⟨rfl,e⟩
theorem gW(Zk:bZ Z ae)(e:ae (Z.opt E k)):∃a,E=some a/\ae (k a):=by
 cases E with
 |none=>exact bP e Zk.fail
 |some a=>exact⟨a,rfl,e⟩
theorem iU{x y:ag}(Zk:bZ Z ae)(e:ae (@bN (λ_=>ag) Z.fail y b)):b=true/\ae y:=by
 cases b with
 |false=>exact bP e Zk.fail
 |true=>exact⟨rfl,e⟩
theorem p_(Zk:bZ Z ae)(S:St c w I F C o h){E:cJ}{k:D->MH->ag}(e:ae (iV Z o E k))(hn:h.get? a=none)(hk:∀b x,h.get? b=some x->M.get? b=some x)
  (ho:iB E=true->bh [] C h (C++[a]) M->OR c w F (C++[a]) M a E):bh [] C h (C++[a]) M/\PV ae c w I F k (.ref a) (C++[a]) M:=by
 have e':ae (@bN (λ_=>ag) Z.fail (k (.ref o.n) ⟨o.t.ins o.n E,cX o.n⟩) (iB E&&cK ((o.t.ins o.n E).get o.n))):=e
 refine xA (iU (x:=Z.fail) Zk e') λJ pG=>?_
 refine xA (aN.mp J) λc1 c2=>?_
 have na:a∉C:=λq=>by
  obtain⟨i,hi,e⟩:=iE q
  refine ay (S.at_ i a (by rw [cV hi,e])) λx _ r=>?_
  refine bw r.some λy hy=>?_
  rw [hn] at hy;exact aB hy
 have st:bh [] C h (C++[a]) M:=⟨wD ..,λb x e _ _=>hk b x e,λb x e n=>⟨⟨x,hk b x e⟩,λq=>by
  rcases dI.mp q with q|q
  .exact n q
  .rw [cA.mp q,hn] at e;exact aB e⟩⟩
 refine cf (S.alloc hn hk (ho c1 st) c2) λ_ S' p=>?_
 exact⟨st,_,_,pG,S',by exact⟨a,p,rfl⟩⟩
theorem bc.push{k:D->MH->ag}{t:iT aw}{ob:jy}(Zk:bZ Z ae)(S:St c w I F C o s.heap)(e:ae (iV Z o E k))(hf:ob.isFreed=false)
  (ho:iB E=true->bh [] C s.heap (C++[s.heap.objs.size]) (s.heap.push ob)->(s.heap.push ob).get? s.heap.objs.size=some ob->OR c w F (C++[s.heap.objs.size]) (s.heap.push ob) s.heap.objs.size E)
  (x:iB E=true->∀(Q:aw->aT->Prop) (au:aw->aT->Prop),(∀tk,Q (.ref s.heap.objs.size) {s with heap:=s.heap.push ob,toks:=tk})->bo (bK c w.w) Y t Q au s):bc c w Y own C s t (PV ae c w I F k):=λQ au q=>by
 have J:iB E=true:=by
  have e':ae (@bN (λ_=>ag) Z.fail (k (.ref o.n) ⟨o.t.ins o.n E,cX o.n⟩) (iB E&&cK ((o.t.ins o.n E).get o.n))):=e
  exact(aN.mp (iU (x:=Z.fail) Zk e').1).1
 refine xA (p_ (M:=s.heap.push ob) Zk S e (hV _) (λb x e=>lh ob e) (λJ st=>ho J st (hZ _ hf))) λst p=>?_
 exact x J Q au λtk=>q _ _ _ tk st.any p
theorem oK(J:iB (.list b r)=true)(g:M.get? a=some (fT V n))(y:aW c w F ao M r V.toList.reverse)(B:r.length<=b):OR c w F ao M a (.list b r):=
 ⟨V,n,g,y,B,dw J⟩
theorem uu(J:iB (.list b r)=true):b<=4096:=dw J
theorem j4(J:jG B=true):B.length<=4096:=dw J
theorem PV.gives(S:St c w I F C o h)(e:ae (k m o))(x:VR c w F C h m v):PV ae c w I F k v C h:=⟨m,o,e,S,x⟩
theorem Sf{V ws:G aw}{Q:aw->aT->Prop}(hl:s.heap.IsList B V.toArray)(hb:s.heap.IsList b ws.toArray)
  (h:Q (.ref s.heap.objs.size) {s with heap:=s.heap.push {cls:=.type "list",data:=.seq (V++ws).toArray}}) (lD:V.length+ws.length<=rp):
  bo (bK c w.w) Y (m_ .Add (.ref B) (.ref b)) Q au s:=by
 obtain⟨⟨cls,dd,data,sl⟩,ho,hc,n,hd⟩:=id hl
 obtain⟨⟨TQ,xe,data2,yB⟩,nA,kG,n2,xD⟩:=id hb
 simp only at hc hd kG xD
 subst hc hd kG xD
 have e:V.toArray++ws.toArray=(V++ws).toArray:=by simp
 refine DM ⟨_,ho,rfl⟩ ⟨_,nA,rfl⟩ noFill_list_add seq_list_add PySem.F.slot_list_add PySem.F.entry_list_add (PySem.F.args_list_add_2 _ _) (list_addW B b V.toArray ws.toArray n n2 dd xe sl yB (by simpa using lD)) ⟨ho,nA,?_⟩
 rw [e]
 exact h
theorem Sh(ht:s.heap.IsTuple t V.toArray)(hb:s.heap.IsTuple b ws.toArray)
  (h0:V=[]->Q (.ref b) s) (h1:V≠[]->ws=[]->Q (.ref t) s)
  (h2:V≠[]->ws≠[]->Q (.ref s.heap.objs.size) {s with heap:=s.heap.push {cls:=.type "tuple",data:=.seq (V++ws).toArray}}) (lD:V.length+ws.length<=rp):
  bo (bK c w.w) Y (m_ .Add (.ref t) (.ref b)) Q au s:=by
 obtain⟨⟨cls,dd,data,sl⟩,ho,hc,n,hd⟩:=id ht
 obtain⟨⟨TQ,xe,data2,yB⟩,nA,kG,n2,xD⟩:=id hb
 simp only at hc hd kG xD
 subst hc hd kG xD
 have e:V.toArray++ws.toArray=(V++ws).toArray:=by simp
 by_cases hv:V=[]
 .exact DM ⟨_,ho,rfl⟩ ⟨_,nA,rfl⟩ NF Oy JL JI (JH _ _)
   (tuple_addW0 t b V.toArray ws.toArray n n2 dd xe sl yB (by simp [hv])) ⟨ho,nA,h0 hv⟩
 .by_cases hw:ws=[]
  .exact DM ⟨_,ho,rfl⟩ ⟨_,nA,rfl⟩ NF Oy JL JI (JH _ _)
    (tuple_addW1 t b V.toArray ws.toArray n n2 dd xe sl yB (by simpa using hv) (by simp [hw])) ⟨ho,nA,h1 hv hw⟩
  .refine DM ⟨_,ho,rfl⟩ ⟨_,nA,rfl⟩ NF Oy JL JI (JH _ _)
    (tuple_addW2 t b V.toArray ws.toArray n n2 dd xe sl yB (by simpa using hv) (by simpa using hw) (by rw [t8,t8];exact lD)) ⟨ho,nA,?_⟩
   rw [e]
   exact h2 hv hw
theorem aaa
  (hl:s.heap.get? B=some {cls:=.type "list",dict:=none,data:=.seq ft k,slots:=#[]})
  (agt:-(2^63:ba)<=x) (ags:x<2^63) (lD:ft.size*x.toNat<=2^24)
  (h:Q (.ref s.heap.objs.size) {s with heap:=s.heap.push {cls:=.type "list",data:=.seq (Ji (λx1 x2=>x1++x2) #[] (di (if ft.isEmpty=true then 0 else x.toNat) ft))}}):
  bo (bK c w.w) Y (m_ .Mult (.ref B) (.int x u)) Q au s:=
 wpAny_binaryOp_repeat_ref (T:="list") (U:="int") (by decide) ⟨_,hl,rfl⟩ (λs'=>typeIs_int s' x u) noFill_list_mul F.fills_int_mul F.slot_int_rmul repeat_list F.slot_int_index.lookup
  (w8 F.slot_int_rmul (typeIs_int s x u) F.entry_int_rmul (F.args_int_rmul_2 _ _) (int___rmul___int_list x u B ft k)
   ⟨hl,rfl,⟨_,hl,rfl⟩,w8 F.slot_list_mul ⟨_,hl,rfl⟩ F.entry_list_mul (F.args_list_mul_2 _ _)
    (AutoListH.list___mul___list_int_3 B ft k x u (by simp [Builtin.List.listFitsIndex];lia) (by lia) (by simp [Builtin.List.listTooLong,rp];assumption))
    ⟨hl,h⟩⟩)
end
section
variable{ag:Type}{Z:cU ag}{ae:ag->Prop}{c:a_}{w:WB}{Y:bG}{own F C:G aA}{s:aT}{I h M:aP}{o:MH}{K:b8}{W:bQ}{mg mb:ar->aa aw}
theorem aed(x y:ar):x++y=(⟨⟨app x.1.1 y.1.1⟩⟩:ar):=by
 obtain⟨⟨x⟩⟩:=x
 obtain⟨⟨y⟩⟩:=y
 rw [gM]
 refine(?_:(⟨(⟨x⟩:dS H)++(⟨y⟩:dS H)⟩:ar)=_)
 simp
theorem HM(B:G H):g8 ⟨⟨B⟩⟩=true↔∀J∈B,J<0x110000:=by
 refine(?_:(Array.all ⟨B⟩ (λJ=>decide (J<0x110000)))=true↔_)
 rw [<-Array.all_toList,l9]
 simp
theorem aec(a:g8 x=true)(b:g8 y=true):g8 ⟨⟨app x.1.1 y.1.1⟩⟩=true:=by
 obtain⟨⟨x⟩⟩:=x
 obtain⟨⟨y⟩⟩:=y
 rw [HM] at*
 rw [gM]
 intro J hc
 refine dC (dI.mp hc) (λq=>?_) λq=>?_
 .exact a J q
 .exact b J q
theorem ac2(S:St c w I F C o s.heap):cM F C s.heap.objs.size:=by
 refine⟨λq=>?_,λq=>?_⟩
 .obtain⟨⟨E,ho⟩,_⟩:=S.cI _ q
  rw [hV] at ho;exact aB ho
 .obtain⟨i,hi,e⟩:=iE q
  refine ay (S.at_ i s.heap.objs.size (by rw [cV hi,e])) λx _ r=>?_
  refine bw r.some λy hy=>?_
  rw [hV] at hy;exact aB hy
theorem fK(h:aP)(E:jy):∀b x,h.get? b=some x->(h.push E).get? b=some x:=λb x e=>lh E e
theorem Gu(S:St c w I F C o s.heap)(e:ae (k (.tup B) o))(y:aW c w F C s.heap B V):
  bh [] C s.heap C (s.heap.push (kX V.toArray 0))/\PV ae c w I F k (.ref s.heap.objs.size) C (s.heap.push (kX V.toArray 0)):=by
 refine xA (S.grow (M:=s.heap.push (kX V.toArray 0)) (fK _ _)) λst S'=>?_
 refine⟨st,_,_,e,S',?_⟩
 exact⟨_,V.toArray,0,rfl,ac2 S,hZ _ rfl,by simpa using y.step st⟩
theorem zK{α:Type}(B m:G α):(app B m).length=B.length+m.length:=by rw [gM,fy]
theorem rr(h:n<=8192):n<=rp:=by rw [rq];exact dQ (by assumption) (by decide)
theorem Se(Zk:bZ Z ae)(S:St c w I F C o s.heap)(e:ae (answer Z (um o a b) o k))(vx:VR c w F C s.heap a x)(vy:VR c w F C s.heap b y):
  bc c w Y own C s (m_ .Add x y) (PV ae c w I F k):=by
 have M7:∀p q,eV o a=some p->eV o b=some q->ae (iV Z o (.list (p.1+q.1) (app q.2 p.2)) k)->bc c w Y own C s (m_ .Add x y) (PV ae c w I F k):=by
  intro p q e1 e2 e
  refine LstAt.el (nF S e1 vx) λa1 V n bU g1 y1 l1 _=>?_;subst bU
  refine LstAt.el (nF S e2 vy) λa2 ws n2 bU g2 y2 l2 _=>?_;subst bU
  refine bc.push Zk S e (ob:={cls:=.type "list",data:=.seq (V.toList++ws.toList).toArray}) rfl (λJ st g=>?_) (λJ Q au q'=>?_)
  .refine oK (n:=0) J g ?_ (by rw [zK];lia)
   rw [gM]
   have:=(y2.step st).append (y1.step st)
   simpa using this
  .refine Sf (iJ g1) (iJ g2) (q' s.toks) ?_
   have c1:=uu J
   have z1:=y1.length
   have z2:=y2.length
   rw [ez] at z1 z2
   exact rr (by lia)
 cases a with
 |str i=>
  cases b with
  |str j=>
   dsimp only [um,NZ] at e
   generalize J:jG (app i.1.1 j.1.1)=ax at e
   cases ax with
   |false=>exact bP e Zk.fail
   |true=>
    obtain⟨⟨t,rfl⟩,o1⟩:=vx
    obtain⟨⟨u,rfl⟩,o2⟩:=vy
    have hl:=j4 J
    rw [zK] at hl
    intro Q au q
    refine PyProof.Rows.add_str (λt' tk=>?_) (rr (by show i.1.1.length+j.1.1.length<=8192;exact dQ (by assumption) (by decide)))
    rw [aed]
    exact q _ C s.heap tk (.refl ..) (PV.gives S e (by exact⟨⟨t',rfl⟩,aec o1 o2⟩))
  |_=>exact bP e Zk.fail
 |tup B=>
  cases b with
  |tup m=>
   dsimp only [um,N0] at e
   generalize J:jG (app B m)=ax at e
   cases ax with
   |false=>exact bP e Zk.fail
   |true=>
    have e':ae (k (.tup (B++m)) o):=gM B m▸e
    have afk:=vx
    have Iz:=vy
    refine gq.el vx.gi λa1 V n1 bU s1 g1 y1=>?_;subst bU
    refine gq.el vy.gi λa2 ws n2 bU s2 g2 y2=>?_;subst bU
    have hl:=j4 J
    rw [zK] at hl
    have z1:=y1.length
    have z2:=y2.length
    intro Q au q
    refine Sh (isTup g1) (isTup g2) (λhv=>?_) (λhv hw=>?_) (λhv hw=>?_) (rr (by lia))
    .have:B=[]:=by cases B with|nil=>rfl|cons J r=>rw [hv] at z1;cases z1
     subst this
     exact q _ C s.heap s.toks (.refl ..) (PV.gives S e' Iz)
    .have:m=[]:=by cases m with|nil=>rfl|cons J r=>rw [hw] at z2;cases z2
     subst this
     rw [h_] at e'
     exact q _ C s.heap s.toks (.refl ..) (PV.gives S e' afk)
    .refine xA (Gu S e' (y1.append y2)) λst p=>?_
     exact q _ C _ s.toks st.any p
  |_=>exact bP e Zk.fail
 |int i=>
  cases b with
  |int j=>
   refine bw vx ?_;clear vx;intro t aI;subst aI
   refine bw vy ?_;clear vy;intro u aI;subst aI
   exact λQ au q=>PyProof.Rows.add_int (q _ C s.heap (s.toks+1) (.refl ..) (PV.gives S e (by exact⟨_,rfl⟩)))
  |_=>exact bP e Zk.fail
 |ref i=>
  dsimp only [um] at e
  cases e1:eV o (.ref i) with
  |none=>rw [e1] at e;exact bP e Zk.fail
  |some p=>
   cases e2:eV o b with
   |none=>rw [e1] at e;dsimp only at e;rw [e2] at e;exact bP e Zk.fail
   |some q=>rw [e1] at e;dsimp only at e;rw [e2] at e;exact M7 p q e1 e2 e
 |aD J i=>
  dsimp only [um] at e
  cases e1:eV o (.aD J i) with
  |none=>rw [e1] at e;exact bP e Zk.fail
  |some p=>
   cases e2:eV o b with
   |none=>rw [e1] at e;dsimp only at e;rw [e2] at e;exact bP e Zk.fail
   |some q=>rw [e1] at e;dsimp only at e;rw [e2] at e;exact M7 p q e1 e2 e
 |_=>exact bP e Zk.fail
theorem Oh(B:G D)(n:H):rep B n=(di n B).flatten:=by
 induction n with
 |zero=>rfl
 |succ n O=>show app B (rep B n)=_;rw [gM,O,Jq,Jh]
theorem VX(xs:G (dS aw))(b_:dS aw):(xs.foldl (λx1 x2=>x1++x2) b_).toList=b_.toList++(xs.map (·.toList)).flatten:=by
 induction xs generalizing b_ with
 |nil=>simp
 |cons x xs O=>rw [Jj,O];simp
theorem acA(y:aW c w F C h B V)(n:H):aW c w F C h (di n B).flatten (di n V).flatten:=by
 induction n with
 |zero=>exact .nil
 |succ n O=>rw [Jq,Jq,Jh,Jh];exact y.append O
theorem acD{α:Type}(B:G α)(n:H):(di n B).flatten.reverse=(di n B.reverse).flatten:=by
 rw [List.reverse_flatten,Jo,Q3]
theorem Z_(Zk:bZ Z ae)(S:St c w I F C o s.heap)(e:ae (answer Z (Gh o a b) o k))(vx:VR c w F C s.heap a x)(vy:VR c w F C s.heap b y):
  bc c w Y own C s (m_ .Mult x y) (PV ae c w I F k):=by
 cases b with
 |int i=>
  dsimp only [Gh] at e
  generalize e1:eV o a=ax at e
  cases ax with
  |none=>
   cases a with
   |int j=>
    dsimp only at e
    generalize J:eqZ i 48271=ax at e
    cases ax with
    |false=>exact bP e Zk.fail
    |true=>
     have:=(jC i 48271).mp J
     subst this
     refine bw vx ?_;clear vx;intro t aI;subst aI
     refine bw vy ?_;clear vy;intro u aI;subst aI
     exact λQ au q=>PyProof.Rows.mul_int (q _ C s.heap (s.toks+1) (.refl ..) (PV.gives S e (by exact⟨_,rfl⟩))) (IntMulOk.of_right (by decide+kernel))
   |_=>exact bP e Zk.fail
  |some p=>
   cases i with
   |negSucc n=>exact bP e Zk.fail
   |ofNat n=>
    dsimp only at e
    generalize J:eB n 100=ax at e
    cases ax with
    |false=>exact bP e Zk.fail
    |true=>
     have hn:=dw J
     refine LstAt.el (nF S e1 vx) λa1 V n1 bU g1 y1 l1 l4=>?_;subst bU
     refine bw vy ?_;clear vy;intro u aI;subst aI
     have z1:=y1.length
     rw [ez] at z1
     have hm:V.size*n<=4096*100:=Rl (by rw [<-hX];lia) hn
     refine bc.push Zk S e (ob:={cls:=.type "list",data:=.seq (Ji (λx1 x2=>x1++x2) #[] (di (if V.isEmpty=true then 0 else(tW n).toNat) V))}) rfl (λJ st g=>?_) (λJ Q au q'=>?_)
     .refine oK (n:=0) J g ?_ ?_
      .have:(Ji (λx1 x2=>x1++x2) #[] (di (if V.isEmpty=true then 0 else(tW n).toNat) V)).toList=(di n V.toList).flatten:=by
        rw [VX]
        by_cases q:V.isEmpty=true
        .have q':V.toList=[]:=by simpa using q
         rw [bT q,q'];simp
        .rw [bl q];simp
       rw [this,acD,Oh]
       exact acA (y1.step st) n
      .rw [Oh,List.length_flatten,Jo,List.sum_replicate_nat,Rk]
       exact Nat.mul_le_mul_right n l1
     .exact aaa g1 (by show-(2^63:ba)<=(n:ba);lia) (by show(n:ba)<2^63;lia) (by show V.size*n<=2^24;exact dQ (by assumption) (by decide)) (q' s.toks)
 |_=>exact bP e Zk.fail
theorem Fj(Zk:bZ Z ae)(S:St c w I F C o s.heap)(hf:∀(i j:ba) (t u:Tok),ae (answer Z (f i j) o k)->bc c w Y own C s (m_ op (.int i t) (.int j u)) (PV ae c w I F k))(e:ae (answer Z (intOp f a b) o k))(vx:VR c w F C s.heap a x)(vy:VR c w F C s.heap b y):
  bc c w Y own C s (m_ op x y) (PV ae c w I F k):=by
 cases a with
 |int i=>
  cases b with
  |int j=>
   refine bw vx ?_;clear vx;intro t aI;subst aI
   refine bw vy ?_;clear vy;intro u aI;subst aI
   exact hf i j t u e
  |_=>exact bP e Zk.fail
 |_=>exact bP e Zk.fail
theorem Iy:VR c w F C h (.int i) (.int i t):=by exact⟨_,rfl⟩
theorem Z9(Zk:bZ Z ae)(S:St c w I F C o s.heap)(e:ae (answer Z (Gg i j) o k)):bc c w Y own C s (m_ .Mod (.int i t) (.int j u)) (PV ae c w I F k):=by
 unfold Gg at e
 generalize J:ltZ 0 j=ax at e
 cases ax with
 |false=>exact bP e Zk.fail
 |true=>
  have J:=(j5 _ _).mp J
  exact λQ au q=>PyProof.Rows.mod_int' (by lia) (q _ C s.heap (s.toks+1) (.refl ..) (PV.gives S e Iy))
theorem Ui(Zk:bZ Z ae)(S:St c w I F C o s.heap)(e:ae (answer Z (DX i j) o k)):bc c w Y own C s (m_ .FloorDiv (.int i t) (.int j u)) (PV ae c w I F k):=by
 unfold DX at e
 cases J:ltZ 0 j&&ltZ j 1000 with
 |false=>rw [J] at e;exact bP e Zk.fail
 |true=>
  rw [J] at e
  refine xA (aN.mp J) λc1 c2=>?_
  have c1:=(j5 _ _).mp c1
  have c2:=(j5 _ _).mp c2
  exact λQ au q=>PyProof.Rows.floordiv_int (by lia) (q _ C s.heap (s.toks+1) (.refl ..) (PV.gives S e Iy)) (.inl (PyProof.noPylong_small (by lia)))
theorem ab_(Zk:bZ Z ae)(S:St c w I F C o s.heap)(e:ae (answer Z (He i j) o k)):bc c w Y own C s (m_ .Pow (.int i t) (.int j u)) (PV ae c w I F k):=by
 unfold He at e
 cases J:eqZ i 10&&eqZ j 18 with
 |false=>rw [J] at e;exact bP e Zk.fail
 |true=>
  rw [J] at e
  refine xA (aN.mp J) λc1 c2=>?_
  have c1:=(jC _ _).mp c1
  have c2:=(jC _ _).mp c2
  subst c1 c2
  exact λQ au q=>PyProof.Rows.pow_int_small (by decide) (by decide) (by decide) (q _ C s.heap (s.toks+1) (.refl ..) (PV.gives S e Iy))
theorem Ta(Zk:bZ Z ae)(S:St c w I F C o s.heap)(e:ae (answer Z (binOp o op a b) o k))(vx:VR c w F C s.heap a x)(vy:VR c w F C s.heap b y):
  bc c w Y own C s (m_ op x y) (PV ae c w I F k):=by
 cases op with
 |Add=>exact Se Zk S e vx vy
 |Mult=>exact Z_ Zk S e vx vy
 |Sub=>
  cases a with
  |int i=>
   cases b with
   |int j=>
    refine bw vx ?_;clear vx;intro t aI;subst aI
    refine bw vy ?_;clear vy;intro u aI;subst aI
    exact λQ au q=>RJ (q _ C s.heap (s.toks+1) (.refl ..) (PV.gives S e (by exact⟨_,rfl⟩)))
   |_=>exact bP e Zk.fail
  |fuel J=>
   cases b with
   |int j=>
    dsimp only [binOp,OZ] at e
    generalize q:eqZ j 1=ax at e
    cases ax with
    |false=>exact bP e Zk.fail
    |true=>
     have:=(jC j 1).mp q
     subst this
     cases J with
     |zero=>exact bP e Zk.fail
     |succ J=>
      refine jv vx ?_;clear vx;intro i t aE hi;subst aE
      refine bw vy ?_;clear vy;intro u aI;subst aI
      exact λQ au q=>RJ (q _ C s.heap (s.toks+1) (.refl ..) (PV.gives S e (by exact⟨_,_,rfl,by lia⟩)))
   |_=>exact bP e Zk.fail
  |_=>exact bP e Zk.fail
 |Mod=>exact Fj Zk S (λ_ _ _ _=>Z9 Zk S) e vx vy
 |FloorDiv=>exact Fj Zk S (λ_ _ _ _=>Ui Zk S) e vx vy
 |Pow=>exact Fj Zk S (λ_ _ _ _=>ab_ Zk S) e vx vy
 |_=>exact bP e Zk.fail
theorem ae7(Zk:bZ Z ae)(S:St c w I F C o s.heap)(e:Pt op a=some m)(e':ae (k m o))(vx:VR c w F C s.heap a x):
  bc c w Y own C s (unaryOp op x) (PV ae c w I F k):=by
 cases op with
 |Not=>
  cases a with
  |bool b=>
   cases e
   subst vx
   exact λQ au q=>not_of (II (q _ C s.heap s.toks (.refl ..) (PV.gives S e' (by rfl))))
  |_=>exact aB e
 |USub=>
  cases a with
  |int i=>
   cases e
   refine bw vx ?_;clear vx;intro t aI;subst aI
   exact λQ au q=>PyProof.Rows.neg_int (q _ C s.heap (s.toks+1) (.refl ..) (PV.gives S e' (by exact⟨_,rfl⟩)))
  |_=>exact aB e
 |_=>exact aB e
end
section
variable{ag:Type}{Z:cU ag}{ae:ag->Prop}{c:a_}{w:WB}{Y:bG}{own F C:G aA}{s:aT}{I h M:aP}{o:MH}{K:b8}{W:bQ}{mg mb:ar->aa aw}
theorem O3(slice:JG)(E i:aw):∃ops,subscripted slice false E i=operate ops (getItem E i):=by
 cases slice with
 |Slice lo up st p=>cases st<;>exact⟨_,rfl⟩
 |_=>exact⟨_,rfl⟩
theorem Mp(e:AK B k=some m)(y:aW c w F C h B V):(0<=k/\∃v,V[k.toNat]?=some v/\VR c w F C h m v)\/(k<0/\-(V.length:ba)<=k/\∃v,V[(k+V.length).toNat]?=some v/\VR c w F C h m v):=by
 have hl:=y.length
 cases k with
 |ofNat n=>
  have e':fJ B n=some m:=e
  rw [oN] at e'
  exact .inl ⟨Cn n,y.get e'⟩
 |negSucc n=>
  refine xA (bI (show(match dB n B.length with|true=>fJ B (B.length-(n+1))|false=>none)=some m from e)) λJ e=>?_
  have hn:n<B.length:=dw J
  rw [oN] at e
  have e3:Int.negSucc n+(V.length:ba)=((B.length-(n+1):H):ba):=by rw [hl,Int.ofNat_sub hn,Int.add_comm];rfl
  refine .inr ⟨Qt n,?_,e3▸y.get e⟩
  rw [hl]
  exact Int.neg_le_neg (Qu.mpr hn)
theorem ac_{n:H}(h0:k<0)(h1:-(n:ba)<=k):Hw k n=some (k+n).toNat:=by
 unfold Hw
 rw [bT h0]
 have:(decide (0<=k+(n:ba))&&decide (k+(n:ba)<(n:ba)))=true:=by
  rw [ix (wq (I8 (Int.add_left_neg (n:ba)).symm) (Int.add_le_add_right h1 (n:ba))),ix (Int.lt_of_lt_of_le (Qs h0 (n:ba)) (I8 (Qx _)))];rfl
 exact bT this
theorem ada(h0:0<=k)(h1:k.toNat<n):Hw k n=some k.toNat:=by
 unfold Hw
 rw [bl (Int.not_lt.mpr h0)]
 have:(decide (0<=k)&&decide (k<(n:ba)))=true:=by
  rw [ix h0,ix ((Int.toNat_lt h0).mp h1)];rfl
 exact bT this
theorem OF{V:dS aw}(y:aW c w F C h B V.toList):V.size=B.length:=by have:=y.length;rwa [hX] at this
theorem adD(e:(match small k with|true=>AK B k|false=>none)=some m):AK B k=some m/\-4611686018427387904<k/\k<4611686018427387904:=by
 refine xA (bI e) λJ e=>?_
 unfold small at J
 rw [ltZ_eq,ltZ_eq,tR,KL,KL] at J
 exact⟨e,J.2,J.1⟩
theorem aei(T:Top c w K W I mg mb)(S:St c w I F C o s.heap)(e:HR o E i=some m)(vx:VR c w F C s.heap E x)(vy:VR c w F C s.heap i y):
  bc c w Y own C s (O2 value slice x y) (λv ao M=>VR c w F ao M m v/\ao=C/\M=s.heap):=by
 refine bw (O3 slice x y) λops hs=>?_
 unfold HR at e
 generalize e1:itemsOf o E=ax at e
 cases ax with
 |some B=>
  obtain⟨a,V,n,rfl,g,yl⟩:=Fw S e1 vx
  cases i with
  |int k=>
   dsimp only at e
   refine cf (adD e) λe b1 b2=>?_
   refine bw vy ?_;clear vy;intro t aI;obtain rfl:=aI.symm
   have sz:V.size=V.toList.length:=by simp
   refine dC g ?_ ?_<;>clear g<;>intro g
   .have tt:IsTup s.heap a V:=isTup g
    rcases Mp e yl with⟨h0,v,h1,h2⟩|⟨h0,h3,v,h1,h2⟩
    .have hk:k.toNat<V.toList.length:=(eM.mp h1).1
     exact λQ au q=>yH tt.typeIs slot_tuple_getitem.lookup (RH tt (rI (rJ (by decide) b1)) (rJ b2 (by decide)) (ada h0 (by rw [sz];exact hk)) (by rw [<-yX];exact h1) (q v C s.heap s.toks (.refl ..) ⟨h2,rfl,rfl⟩)) hs
    .rw [<-sz] at h1 h3
     exact λQ au q=>yH tt.typeIs slot_tuple_getitem.lookup (RH tt (rI (rJ (by decide) b1)) (rJ b2 (by decide)) (ac_ h0 h3) (by rw [<-yX];exact h1) (q v C s.heap s.toks (.refl ..) ⟨h2,rfl,rfl⟩)) hs
   .have tt:=iJ g
    rcases Mp e yl with⟨h0,v,h1,h2⟩|⟨h0,h3,v,h1,h2⟩
    .exact λQ au q=>yH tt.typeIs OE.lookup (wpAny_getItem_list tt h0 (rJ b2 (by decide)) (by rw [<-yX];exact h1) (q v C s.heap s.toks (.refl ..) ⟨h2,rfl,rfl⟩)) hs
    .rw [<-sz] at h1 h3
     exact λQ au q=>yH tt.typeIs OE.lookup (wpAny_getItem_list_neg tt h0 h3 (rI (rJ (by decide) b1)) (by rw [<-yX];exact h1) (q v C s.heap s.toks (.refl ..) ⟨h2,rfl,rfl⟩)) hs
  |_=>exact aB e
 |none=>
  have e2:=AW e
  obtain⟨a,L,dl,fS,aR,key,rfl,ns,hk,hd,r⟩:=DV T S e2 vx vy
  rcases r with⟨r,_⟩|⟨m',u,q1,r,hv⟩
  .exact ql r
  .cases q1
   exact λQ au q=>yH hd.typeIs slot_dict_getitem.lookup (wpAny_getItem_of hk hd.mapOf r (q u C s.heap (s.toks+1) (.refl ..) ⟨hv,rfl,rfl⟩)) hs
theorem SG(n:H):sliceBounds none (some 0) (some (-1)) n=((n:ba)-1,if n=0 then-1 else 0,-1):=by
 cases n with
 |zero=>rfl
 |succ n=>
  have e:((n+1:H):ba)-1=(n:ba):=I5 (n:ba) 1
  have:max (-1:ba) (min 0 (n:ba))=0:=by rw [Int.min_eq_left (Cn n)];rfl
  refine(?_:(((n+1:H):ba)-1,max (-1:ba) (min 0 (((n+1:H):ba)-1)),-1)=_)
  rw [e,this]
  rfl
theorem SJ(n:H):sliceRange ((n:ba)-1) (if n=0 then-1 else 0) (-1)=((fY (n-1)).map (1+·)).reverse:=by
 cases n with
 |zero=>rfl
 |succ n=>
  rw [show((n+1:H):ba)-1=(n:ba) from I5 (n:ba) 1,bl (rV n)]
  have e:(if(n:ba)>0 then((n:ba)-0- -1-1) /(- -1) else 0).toNat=n:=by
   cases n with
   |zero=>rfl
   |succ n=>
    rw [bT (I_.mpr (ug n)),show(((n+1:H):ba)-0- -1-1) /(- -1)=((n+1:H):ba) from(Int.ediv_one _).trans (by rw [Int.sub_zero];exact I5 ((n+1:H):ba) 1)]
    rfl
  refine(?_:(fY (if(n:ba)>0 then((n:ba)-0- -1-1) /(- -1) else 0).toNat).map (λk:H=>((n:ba)+-1*(k:ba)).toNat)=_)
  rw [e]
  refine QG (by rw [ez,cZ,cZ];rfl) λi g1 g2=>?_
  rw [cZ,wA] at g1
  refine bw (Nat.exists_eq_add_of_lt g1) λd aI=>?_;subst aI
  rw [List.getElem_reverse,QM,QM,QN,QN,cZ,wA,Int.neg_mul,Int.one_mul]
  refine(?_:(((i+d+1:H):ba)-(i:ba)).toNat=1+(i+d+1-1-i))
  rw [Int.toNat_sub,Rb,jO,ph,jO,mV]
theorem ab5(ft:dS aw):BL ft none (some 0) (some (-1))=(ft.toList.drop 1).reverse.toArray:=by
 unfold BL
 rw [SG]
 refine(?_:((sliceRange ((ft.size:ba)-1) (if ft.size=0 then-1 else 0) (-1)).filterMap (ft[·]?)).toArray=_)
 rw [SJ,List.filterMap_reverse,pick_run,Q6 (by simp)]
theorem part_of(x:VR c w F C h m v)(e:m=.none\/∃i,m=.int i):∃E,tX v E/\E=match m with|.int i=>some i|_=>none:=by
 rcases e with rfl|⟨i,rfl⟩
 .subst x;exact⟨none,.none,rfl⟩
 .obtain⟨t,rfl⟩:=x;exact⟨some i,.int i t,rfl⟩
theorem adx{gL:D->D->D->G D->Prop}{lo up st:D}(e:vP B lo up st=some r)(h1:∀k,gL .none (.int (.ofNat k)) .none (B.take k))(h2:gL .none (.int (-1)) .none B.dropLast)(h3:∀k,gL (.int (.ofNat k)) .none .none (B.drop k))
  (h4:gL .none .none (.int (-1)) B.reverse) (h5:gL .none (.int 0) (.int (-1)) (B.drop 1).reverse):gL lo up st r:=by
 cases st with
 |none=>cases lo with
  |none=>cases up with
   |int u=>cases u with
    |ofNat k=>exact aM e▸h1 k
    |negSucc k=>cases k with
     |zero=>exact aM e▸h2
     |succ k=>exact aB e
   |_=>exact aB e
  |int u=>cases u with
   |ofNat k=>cases up with
    |none=>exact aM e▸h3 k
    |_=>exact aB e
   |negSucc k=>exact aB e
  |_=>exact aB e
 |int J=>
  dsimp only [vP] at e
  refine xA (bI e) λq e=>?_
  rw [(jC J (-1)).mp q]
  cases lo with
  |none=>cases up with
   |none=>exact aM e▸h4
   |int u=>
    dsimp only at e
    generalize q:eqZ u 0=ax at e
    cases ax with
    |false=>exact aB e
    |true=>rw [(jC u 0).mp q];exact aM e▸h5
   |_=>exact aB e
  |_=>exact aB e
 |_=>exact aB e
theorem ady{lo up st:D}(e:vP B lo up st=some r)(y:aW c w F C h B V.toList)(xl:VR c w F C h lo vl)(xu:VR c w F C h up vu)(xs:VR c w F C h st vt):
  ∃a b J,tX vl a/\tX vu b/\tX vt J/\J≠some 0/\aW c w F C h r (BL V a b J).toList/\r.length<=B.length:=by
 have sz:=OF y
 revert xl xu xs
 refine adx (gL:=λlo up st r=>VR c w F C h lo vl->VR c w F C h up vu->VR c w F C h st vt->∃a b J,tX vl a/\tX vu b/\tX vt J/\J≠some 0/\aW c w F C h r (BL V a b J).toList/\r.length<=B.length) e (λk xl xu xs=>?_) (λxl xu xs=>?_) (λk xl xu xs=>?_) (λxl xu xs=>?_) (λxl xu xs=>?_)
 .obtain rfl:vl=.none:=xl;obtain⟨t,rfl⟩:=xu;obtain rfl:vt=.none:=xs
  refine⟨none,some (k:ba),none,.none,.int _ _,.none,by simp,?_,?_⟩
  .rw [slicePick_upto'];exact y.take k
  .rw [zh];exact Ri ..
 .obtain rfl:vl=.none:=xl;obtain⟨t,rfl⟩:=xu;obtain rfl:vt=.none:=xs
  refine⟨none,some (-((1:H):ba)),none,.none,.int _ _,.none,by simp,?_,?_⟩
  .rw [slicePick_butLast _ 1 (fG 1)]
   have:=y.dropLast
   rw [zd (l:=V.toList)] at this
   simpa using this
  .rw [QO];exact Jz ..
 .obtain⟨t,rfl⟩:=xl;obtain rfl:vu=.none:=xu;obtain rfl:vt=.none:=xs
  refine⟨some (k:ba),none,none,.int _ _,.none,.none,by simp,?_,?_⟩
  .rw [slicePick_from'];exact y.drop k
  .rw [rL];exact Jz ..
 .obtain rfl:vl=.none:=xl;obtain rfl:vu=.none:=xu;obtain⟨t,rfl⟩:=xs
  refine⟨none,none,some (-1),.none,.none,.int _ _,by simp,?_,?_⟩
  .rw [krv_pick];exact y.reverse
  .rw [ez];exact fG _
 .obtain rfl:vl=.none:=xl;obtain⟨t',rfl⟩:=xu;obtain⟨t,rfl⟩:=xs
  refine⟨none,some 0,some (-1),.none,.int _ _,.int _ _,by simp,?_,?_⟩
  .rw [ab5];exact(y.drop 1).reverse
  .rw [ez,rL];exact Jz ..
theorem adz(Zk:bZ Z ae)(S:St c w I F C o s.heap){E lo up st:D}(e:ae (answer Z (HD o E lo up st) o k))
  (vx:VR c w F C s.heap E x) (xl:VR c w F C s.heap lo vl) (xu:VR c w F C s.heap up vu) (xs:VR c w F C s.heap st vt):
  ∀sl,s.heap.IsSliceOf sl vl vu vt->bc c w Y own C s (O2 value slice x (.ref sl)) (PV ae c w I F k):=by
 intro sl Xo
 refine bw (O3 slice x (.ref sl)) λops hs=>?_
 have go:∀p,eV o E=some p->∀ys,vP (rv p.2) lo up st=some ys->ae (iV Z o (.list p.1 (rv ys)) k)->bc c w Y own C s (O2 value slice x (.ref sl)) (PV ae c w I F k):=by
  intro p e1 ys e2 e
  refine LstAt.el (nF S e1 vx) λa1 V n bU g1 y1 l1 l4=>?_;subst bU
  rw [fD] at e2
  have y2:aW c w F C s.heap p.2.reverse V.toList:=by simpa using y1.reverse
  refine dO (ady e2 y2 xl xu xs) λa b J pa bB=>eN bB λpb pc c0 dA=>xA dA λyr lr=>?_
  have sz:V.size<=rp:=rr (by rw [OF y2,ez];exact dQ (dQ l1 l4) (by decide))
  refine bc.push Zk S e (ob:={cls:=.type "list",data:=.seq (BL V a b J)}) rfl (λcc st g=>?_) (λcc Q au q'=>?_)
  .refine oK (n:=0) cc g ?_ ?_
   .rw [fD];exact(yr.step st).reverse
   .rw [fD,ez]
    rw [ez] at lr
    exact dQ lr l1
  .exact yH (iJ g1).typeIs OE.lookup (wpAny_getItem_list_slice (iJ g1) Xo pa pb pc c0 (q' s.toks) sz) hs
 unfold HD at e
 generalize e1:eV o E=ax at e
 cases ax with
 |none=>exact bP e Zk.fail
 |some p=>
  dsimp only at e
  generalize e2:vP (rv p.2) lo up st=ax at e
  cases ax with
  |none=>exact bP e Zk.fail
  |some ys=>exact go p e1 ys e2 e
end
section
variable{ag:Type}{Z:cU ag}{ae:ag->Prop}{c:a_}{w:WB}{Y:bG}{own F C:G aA}{s:aT}{I h M:aP}{o:MH}{K:b8}{W:bQ}{mg mb:ar->aa aw}
structure Qk(K:b8)(names:G ar)(aq:H)(ms:G (ar×H)):Prop where
 make:makesIn K aq=true
 dict:(clsIn K aq).any (·.hasDict)=true
 plain:plainOver K aq=true
 ga:oC K (.ref aq) "__getattribute__" =some (some (.builtin "object.__getattribute__"))
 gm:oC K (.ref aq) "__getattr__" =some none
 sa:oC K (.ref aq) "__setattr__" =some (some (.builtin "object.__setattr__"))
 field:∀x∈names,g8 x=true/\oC K (.ref aq) x=some none
 yb:∀x f,g_ ms x=some f->oC K (.ref aq) x=some (some (.ref f))/\typeIn K (.ref f)=some (.type "function")
theorem JX{α:Type}(p:ar×α)(B:G (ar×α))(x:ar):g_ (p::B) x=if p.1=x then some p.2 else g_ B x:=by
 refine(?_:@bN (λ_=>aa α) (g_ B x) (some p.2) (seq p.1 x)=_)
 rw [seq_eq]
 by_cases q:p.1=x<;>simp [q]
theorem qF{α:Type}{B:G (ar×α)}{a:α}(e:g_ B x=some a):(x,a)∈B:=by
 induction B with
 |nil=>exact aB e
 |cons p B O=>
  rw [JX] at e
  by_cases q:p.1=x
  .rw [bT q] at e
   obtain⟨y,b⟩:=p
   rw [show y=x from q,show b=a from aM e]
   exact .head _
  .rw [bl q] at e
   exact .tail _ (O e)
theorem Si(e:g_ B x=none):B.any (λp=>p.1==x)=false:=by
 induction B with
 |nil=>rfl
 |cons p B O=>
  rw [JX] at e
  by_cases q:p.1=x
  .rw [bT q] at e;exact aB e.symm
  .rw [bl q] at e
   rw [qy,O e,mn.mpr q];rfl
theorem Top.DI(T:Top c w K W I mg mb){aq:H}(e:W.cls aq=some p):Qk K p.2 aq p.1:=by
 have J:=T.cls aq p e
 simp only [w_,tR,qG] at J
 obtain⟨⟨⟨⟨⟨⟨⟨c1,c2⟩,c3⟩,c4⟩,c5⟩,c6⟩,c7⟩,c8⟩:=J
 refine⟨c1,c2,c3,c4,c5,c6,λx hx=>?_,λx f hf=>?_⟩
 .have:=l9.mp c7 x hx
  rw [tR,qG] at this
  exact this
 .have:=l9.mp c8 _ (qF hf)
  simpa using this
theorem MI(v:aw)(n:ar):v.isStr n=mY n v:=by
 cases v<;>first|rfl|(show(_==_)=(_==_);rfl)
theorem F4(x:h.DictOf (gC c w.w) d aR):∃od,h.get? d=some od/\∀n,vn n od=some (k8 aR n):=by
 refine dO x λE R ep ho bB=>eN bB λhx hd hk dA=>xA dA λhp hn=>?_
 refine⟨E,ho,λn=>?_⟩
 unfold vn
 rw [hd]
 dsimp only
 have e1:=hp.find n
 have e2:(R.toList.find? λe=>e.key.isStr n)=R.toList.find? λe=>(gC c w.w).is n e.key:=by
  congr 1
  funext e
  exact MI e.key n
 rw [e2]
 cases q:R.toList.find? λe=>(gC c w.w).is n e.key with
 |some e=>rw [q] at e1;rw [<-e1];rfl
 |none=>
  rw [q] at e1
  have:R.toList.any (·.refKey)=false:=by
   rw [zb]
   intro e he
   refine ay (hk e (Cd.mp he)) λk h1 _=>?_
   refine bw (JP h1) λt h2=>?_
   unfold DictEntry.refKey
   rw [h2]
   exact gK
  dsimp only
  rw [bl (by rw [this];exact gK),<-e1]
  rfl
theorem findObj_own(hd:(clsIn K aq).any (·.hasDict)=true)(hf:oC K (.ref aq) x=some none)(hl:vn x od=some (some v)):findObj K aq (some od) x=some (.value v):=by
 refine ay (any_some hd) λcd hc hh=>?_
 unfold findObj
 rw [hc,hf]
 simp only [RB]
 unfold PySem.W.ownOf
 rw [bT hh]
 dsimp only
 rw [hl]
 rfl
theorem XU(e:AQ o i=some p):o.t.get i=some (.inst p.1 p.2):=by
 unfold AQ at e
 generalize h:o.t.get i=ax at e
 cases ax with
 |none=>exact aB e
 |some E=>
  cases E with
  |inst aq d=>rw [<-aM e]
  |_=>exact aB e
theorem T_(e:dictAt o i=some R):o.t.get i=some (.dict R):=by
 unfold dictAt at e
 generalize h:o.t.get i=ax at e
 cases ax with
 |none=>exact aB e
 |some E=>
  cases E with
  |dict B=>rw [<-aM e]
  |_=>exact aB e
inductive IW(c:a_)(w:WB)(F C:G aA)(h:aP)(t:H×H×G (D×D))(v:aw):Prop
 |mk (a dx:aA):v=.ref a->h.get? a=some (uZ t.1 dx)->C[t.2.1]?=some dx->OR c w F C h dx (.dict t.2.2)->IW c w F C h t v
theorem J7(S:St c w I F C o s.heap)(e:attrsOf o v=some t)(vo:VR c w F C s.heap v E):IW c w F C s.heap t E:=by
 cases v with
 |ref i=>
  refine ay vo ?_;clear vo;intro a p1 aE;subst aE
  dsimp only [attrsOf] at e
  generalize e1:AQ o i=ax at e
  cases ax with
  |none=>exact aB e
  |some p=>
   dsimp only at e
   generalize e2:dictAt o p.2=ax at e
   cases ax with
   |none=>exact aB e
   |some R=>
    rw [<-aM e]
    refine ay (S.ref p1 (XU e1)) λdx p2 g2=>?_
    exact⟨a,dx,rfl,g2,p2,S.ref p2 (T_ e2)⟩
 |_=>exact aB e
theorem SE(S:St c w I F C o s.heap)(e:(match attrsOf o (.ref i) with|some q=>(match ih q.2.2 (.str x) with|some r=>some (q.1,r)|.none=>.none)|.none=>.none)=some (aq,q))
  (vo:VR c w F C s.heap (.ref i) E):∃a ox od,E=.ref a/\InstAt s.heap a ox aq (some od)/\((q=none/\vn x od=some none)\/∃m u,q=some m/\vn x od=some (some u)/\VR c w F C s.heap m u):=by
 generalize e1:attrsOf o (.ref i)=ax at e
 cases ax with
 |none=>exact aB e
 |some t=>
  dsimp only at e
  generalize e3:ih t.2.2 (.str x)=ax at e
  cases ax with
  |none=>exact aB e
  |some r=>
   refine xA (iS (aM e)) λeJ aI=>?_;subst eJ;subst aI
   obtain⟨a,dx,rfl,g2,p2,r3⟩:=J7 S e1 vo
   refine xA (xf e3) λk1 k2=>?_
   refine fM (tJ r3 k1) λaR d1 u _=>?_
   refine ay (F4 d1) λod ho hl=>?_
   refine⟨a,_,od,rfl,⟨g2,rfl,rfl,ho⟩,?_⟩
   rcases rB oJ x u with⟨z1,z2⟩|⟨m,v',z1,z2,z3⟩
   .exact .inl ⟨k2.symm.trans z1,by rw [hl,z2]⟩
   .exact .inr ⟨m,v',k2.symm.trans z1,by rw [hl,z2],z3⟩
theorem N6(S:St c w I F C o s.heap)(e:ownAt o v x=some (aq,q))(vo:VR c w F C s.heap v E):
  ∃a ox od,E=.ref a/\InstAt s.heap a ox aq (some od)/\((q=none/\vn x od=some none)\/∃m u,q=some m/\vn x od=some (some u)/\VR c w F C s.heap m u):=by
 unfold ownAt at e
 cases v with
 |aD J B=>
  cases J with
  |inst C' ks=>
   dsimp only at e
   generalize e1:pK ks B x=ax at e
   cases ax with
   |none=>exact aB e
   |some r=>
    cases e
    refine dO vo λa d V bU bB=>eN bB λ_ _ g dA=>cf dA λd1 _ y=>?_;rw [bU]
    refine ay (F4 d1) λod ho hl=>?_
    refine⟨a,_,od,rfl,⟨g,rfl,rfl,ho⟩,?_⟩
    rcases Lw e1 y with⟨z1,z2⟩|⟨m,v',z1,z2,z3⟩
    .exact .inl ⟨z1,by rw [hl,z2]⟩
    .exact .inr ⟨m,v',z1,by rw [hl,z2],z3⟩
  |_=>exact aB e
 |ref i=>exact SE S e vo
 |_=>exact aB e
theorem L7(e:handed m=some m')(x:VR c w F C h m v):m=m'/\handedIn v=true:=by
 cases m with
 |bi b=>exact aB e
 |any=>exact aB e
 |tok i=>cases e;exact⟨rfl,w.hand x⟩
 |none=>cases e;subst x;exact⟨rfl,rfl⟩
 |bool b=>cases e;subst x;exact⟨rfl,rfl⟩
 |int b=>cases e;obtain⟨t,rfl⟩:=x;exact⟨rfl,rfl⟩
 |str b=>cases e;obtain⟨⟨t,rfl⟩,_⟩:=x;exact⟨rfl,rfl⟩
 |tup b=>cases e;obtain⟨a,V,n,rfl,_⟩:=x;exact⟨rfl,rfl⟩
 |ref b=>cases e;obtain⟨a,_,rfl⟩:=x;exact⟨rfl,rfl⟩
 |fn b=>cases e;subst x;exact⟨rfl,rfl⟩
 |fuel b=>cases e;obtain⟨i,t,rfl,_⟩:=x;exact⟨rfl,rfl⟩
 |aD J B=>cases e;refine⟨rfl,?_⟩;cases J<;>(first|(obtain⟨a,V,n,rfl,_⟩:=x;rfl)|(obtain⟨a,V,rfl,_⟩:=x;rfl))
theorem Px(T:Top c w K W I mg mb)(x:VR c w F C h m v):VR c w F C h (yN W m) v:=by
 cases m with
 |tok i=>
  unfold yN
  dsimp only
  cases e:W.rz i with
  |none=>exact x
  |some m=>
   exact T.rz i m F C h v e x
 |_=>exact x
theorem ZX(e:Gf x B=true):x∈B:=by
 induction B with
 |nil=>exact bz e
 |cons a B O=>
  have e':@bN (λ_=>ah) (Gf x B) true (seq a x)=true:=e
  rw [seq_eq] at e'
  by_cases q:a=x
  .exact q▸.head _
  .rw [jf q] at e'
   exact .tail _ (O e')
theorem NG(J:Bb W aq x=true):∃ms,W.cls aq=some ms/\x∈ms.2:=by
 unfold Bb at J
 generalize cl:W.cls aq=ax at J
 cases ax with
 |none=>exact bz J
 |some ms=>exact⟨ms,rfl,ZX J⟩
theorem Wd(T:Top c w K W I mg mb)(S:St c w I F C o s.heap)(e:EA o W v x=some m)(vo:VR c w F C s.heap v E):
  bc c w Y own C s (getAttr E x true) (λr ao M=>VR c w F ao M m r/\ao=C/\M=s.heap):=by
 unfold EA at e
 cases e1:ownAt o v x with
 |none=>rw [e1] at e;exact aB e
 |some p=>
  obtain⟨aq,q⟩:=p
  rw [e1] at e
  dsimp only at e
  cases q with
  |none=>exact aB e
  |some m'=>
   dsimp only at e
   refine xA (bI e) λJ e=>?_
   refine dO (N6 S e1 vo) λa ox od bU bB=>xA bB λbk r=>?_;subst bU
   rcases r with⟨z,_⟩|⟨Zj,u,z1,z2,z3⟩
   .exact ql z
   .cases z1
    refine xA (L7 e z3) λeJ hh=>?_;rw [<-eJ]
    refine ay (NG J) λms cl hx=>?_
    have ci:=T.DI cl
    refine eN (T.ns S) λ_ _ pW _=>?_
    exact λQ au k=>get_value pW bk ci.ga (findObj_own ci.dict (ci.field x hx).2 z2) hh (k u C s.heap (s.toks+1) (.refl ..) ⟨z3,rfl,rfl⟩)
theorem Z0(T:Top c w K W I mg mb)(S:St c w I F C o s.heap)(e:A6 o W v x=some f)(vo:VR c w F C s.heap v E):
  ∃a,E=.ref a/\∀(Q:aw×G aw->aT->Prop) (au:aw->aT->Prop),Q (.ref f,[.ref a]) s->bo (bK c w.w) Y (getMethod E x pl) Q au s:=by
 unfold A6 at e
 cases e1:ownAt o v x with
 |none=>rw [e1] at e;exact aB e
 |some p=>
  obtain⟨aq,q⟩:=p
  rw [e1] at e
  dsimp only at e
  cases q with
  |some m'=>exact aB e
  |none=>
   dsimp only at e
   generalize cl:W.cls aq=ax at e
   cases ax with
   |none=>exact aB e
   |some ms=>
    refine dO (N6 S e1 vo) λa ox od bU bB=>xA bB λbk r=>?_;subst bU
    rcases r with⟨_,z⟩|⟨Zj,u,z1,z2,z3⟩
    .have ci:=T.DI cl
     refine eN (T.ns S) λ_ _ pW _=>?_
     refine xA (ci.yb x f e) λm1 m2=>?_
     exact⟨a,rfl,λQ au k=>method_fn pW bk ci.ga ci.gm m1 m2 (by unfold shadowIn;dsimp only;rw [z];rfl) k⟩
    .exact aB z1
end
section
set_option tactic.hygienic true
section
variable{ag:Type}{Z:cU ag}{ae:ag->Prop}{c:a_}{w:WB}{Y:bG}{own F C:G aA}{s:aT}{I h M:aP}{o:MH}{K:b8}{W:bQ}{mg mb:ar->aa aw}
theorem D6(p:D×D)(R:G (D×D))(x v:D):sq (p::R) x v=if iz p.1 x=true then(p.1,v)::R else p::sq R x v:=by
 refine(?_:@bN (λ_=>G (D×D)) (p::sq R x v) ((p.1,v)::R) (iz p.1 x)=_)
 cases iz p.1 x<;>rfl
theorem OT{L:Type} [jw L](k':L)(v':aw)(r:G (L×aw))(k:L)(v:aw)(hn:(((k',v')::r).map (·.1)).Nodup):j_ ((k',v')::r) k v=if k'=k then(k',v)::r else(k',v')::j_ r k v:=by
 unfold j_
 by_cases q:k'=k
 .subst q
  have:k'∉r.map (·.1):=(ic.mp (by simpa using hn)).1
  have e:=map_store_of_not_mem r k' v this
  simp [e]
 .simp only [qy,jf q,Cf,bl q,lj,Je]
  exact(apply_ite _ _ _ _).symm
theorem yO{L:Type} [jw L]{key:L->D}(hk:∀a b,iz (key a) (key b)=decide (a=b)){k:L}(x:P m v){aR:G (L×aw)}(u:Under P key R aR):
  (aR.map (·.1)).Nodup->Under P key (sq R (key k) m) (j_ aR k v):=by
 induction u with
 |nil=>intro _;exact .cons x .nil
 |@cons k' m' v' B r a b O=>
  intro hn
  rw [D6,OT _ _ _ _ _ hn]
  dsimp only
  rw [hk]
  by_cases q:k'=k
  .rw [bT (ix q),bT q];exact .cons x b
  .rw [bl (by rw [jf q];exact gK),bl q]
   exact .cons a (O (ic.mp (by simpa using hn)).2)
theorem Up(x v:D)(R:G (D×D)):(sq R x v).length<=R.length+1:=by
 induction R with
 |nil=>exact fG _
 |cons p R O=>
  rw [D6]
  split
  .exact ue _
  .exact n4 O
theorem sj{L:Type} [jw L]{fS:KeyKind c w.w L}{aR:G (L×aw)}(x:h.DictOf fS a aR):(aR.map (·.1)).Nodup:=x.elim λ_ x=>x.elim λ_ x=>x.elim λ_ x=>x.2.2.2.2.2
theorem HL{L:Type} [jw L](k:L)(v:aw)(aR:G (L×aw)):∀p∈j_ aR k v,p.1=k\/∃q∈aR,q.1=p.1:=by
 intro p hp
 unfold j_ at hp
 split at hp
 .refine ay (cF.mp hp) λq hq e=>?_
  split at e
  .rename_i z;subst e;exact .inl z
  .subst e;exact .inr ⟨q,hq,rfl⟩
 .refine dC (dI.mp hp) (λhp=>?_) λhp=>?_
  .exact .inr ⟨p,hp,rfl⟩
  .rw [cA.mp hp];exact .inl rfl
inductive PH{ag:Type}(ae:ag->Prop)(c:a_)(w:WB)(I:aP)(F:G aA)(k:MH->ag)(_u:mX)(ao:G aA)(M:aP):Prop
 |mk (br:MH):ae (k br)->St c w I F ao br M->PH ae c w I F k _u ao M
theorem qg(Zk:bZ Z ae)(S:St c w I F C o h)(e:ae (nN Z o i E k))(hi:C[i]?=some a)(hs:iC a h M)(ho:iB E=true->bh [] C h C M->OR c w F C M a E):
  bh [] C h C M/\PH ae c w I F k () C M:=by
 have e':ae (@bN (λ_=>ag) Z.fail (k ⟨o.t.set i E,o.n⟩) (iB E)):=e
 refine xA (iU (x:=Z.fail) Zk e') λJ pG=>?_
 refine xA (S.put hi hs (ho J)) λst S'=>?_
 exact⟨st,_,pG,S'⟩
theorem z9(e:dput R x v=some dD):keysOk R x=true/\dD=sq R x v:=by
 unfold dput at e
 generalize J:keysOk R x=ax at e
 cases ax with
 |false=>exact aB e
 |true=>cases e;exact⟨rfl,rfl⟩
theorem jk(h:n<=4096):n<=rp:=rr (by exact dQ (by assumption) (by decide))
theorem aW.set(x:VR c w F C h m v):∀{V:G aw} (n:H),aW c w F C h B V->aW c w F C h (B.set n m) (V.set n v):=by
 induction B with
 |nil=>exact λn y=>y.dW▸.nil
 |cons a B O=>
  intro V n y
  refine dR.el y.cj λu r aE y1 y2=>?_;subst aE
  cases n with
  |zero=>exact .cons x y2
  |succ n=>exact .cons y1 (O n y2)
theorem ack(Zk:bZ Z ae)(S:St c w I F C o s.heap){ov i m:D}{q:H×cJ}{k:MH->ag}(e:putItem o ov i m=some q)(e':ae (nN Z o q.1 q.2 k))(vx:VR c w F C s.heap ov x)(vy:VR c w F C s.heap i y)(vz:VR c w F C s.heap m z):
  bc c w Y own C s (setItem x y z) (PH ae c w I F k):=by
 unfold putItem at e
 cases ov with
 |ref j=>
  dsimp only at e
  generalize e1:o.t.get j=ax at e
  cases ax with
  |none=>exact aB e
  |some E=>
   cases E with
   |dict R=>
    dsimp only at e
    generalize e2:dput R i m=ax at e
    cases ax with
    |none=>exact aB e
    |some dD=>
     cases e
     refine xA (z9 e2) λk1 aI=>?_;subst aI
     refine iZ (uA S (R:=R) (by unfold dictAt;rw [e1]) vx) λa p1 aE o1 _=>?_;subst aE
     have kk:=u_ _ _ k1
     intro Q au g
     cases i with
     |str n=>
      obtain⟨⟨t,rfl⟩,so⟩:=vy
      refine iZ (tJ o1 k1) λaR d1 u sk ln=>?_
      refine afC (knd:=gC c w.w) (k:=n) (by simp [gC,mY]) d1 (λM hd hs=>?_) (jk (by rw [<-u.length];exact ln))
      have HC:∀p∈j_ aR n z,g8 p.1=true:=λp hp=>by
       rcases HL _ _ _ p hp with q|⟨q,hq,e⟩
       .exact q▸so
       .exact e▸sk q hq
      refine xA (qg (M:=M) Zk S e' p1 hs (λJ st=>⟨.inl ⟨_,hd,(yO oJ vz u (sj d1)).imp λm v=>VR.step st,HC⟩,j4 J⟩)) λst r=>?_
      exact g () C M _ st.any r
     |int n=>
      refine bw vy ?_;clear vy;intro t aI;subst aI
      refine fM (xP o1 k1) λaR d1 u ln=>?_
      refine afC (knd:=lE c w.w) (k:=n) (by simp [lE,zB]) d1 (λM hd hs=>?_) (jk (by rw [<-u.length];exact ln))
      refine xA (qg (M:=M) Zk S e' p1 hs (λJ st=>⟨.inr ⟨_,hd,(yO sV vz u (sj d1)).imp λm v=>VR.step st⟩,j4 J⟩)) λst r=>?_
      exact g () C M _ st.any r
     |_=>exact bz kk
   |list b r=>
    dsimp only at e
    cases i with
    |int zi=>
     cases zi with
     |ofNat n=>
      dsimp only at e
      refine xA (bI e) λJ e=>?_
      have e:=aM e
      subst e
      have J:n<r.length:=dw J
      refine ay vx ?_;clear vx;intro a p1 aE;subst aE
      refine bw vy ?_;clear vy;intro t aI;subst aI
      refine eK (S.ref p1 e1) λV nn g y1 l1 l2=>?_
      have hl:V.size=r.length:=by
       have:=y1.length
       rw [ez] at this
       exact this
      intro Q au q'
      refine PySem.W.ki_setAt (items:=V) (n:=nn) g (by show(0:ba)<=(n:ba);lia) (by show(n:ba)<2^63;lia) (by show(n:ba)<(V.size:ba);lia) ?_
      have g':=y_ (fh (·.setIfInBounds n z)) g rfl
      obtain⟨st,r'⟩:=qg (M:=s.heap.update a (fh (·.setIfInBounds n z))) Zk S e' p1 (o8 ..) (λJ st=>oK J g' (by
       rw [fD,fD,Array.toList_setIfInBounds]
       have y2:=(y1.step st).reverse
       rw [mU] at y2
       exact(aW.set (vz.step st) n y2).reverse) (by rw [fD,fD,ez,List.length_set,ez];exact l1))
      exact q' () C _ _ st.any r'
     |negSucc n=>nomatch e
    |_=>nomatch e
   |_=>exact aB e
 |_=>exact aB e
theorem acn(Av:mY name key=true)(hash:ba)(p:Pairs (gC c w.w) R aR):(aR.map (·.1)).Nodup->
  Pairs (gC c w.w) (tc name.cps.size name.cps.toList (λ|some e=>{e with val:=v}|none=>⟨hash,key,v⟩) R).1 (j_ aR name v):=by
 induction p with
 |nil=>intro _;exact .cons Av rfl .nil
 |@cons e kv R aR h1 h2 p O=>
  intro hn
  obtain⟨k',v'⟩:=kv
  rw [OT _ _ _ _ _ hn]
  unfold tc
  rw [Value.isStrByCps_eq,MI]
  have W0:mY name e.key=decide (k'=name):=by
   have:=KeyKind.is_eq_decide (knd:=gC c w.w) h1 name
   rw [show mY name e.key=(gC c w.w).is name e.key from rfl,this]
   by_cases q:name=k'
   .rw [ix q,ix q.symm]
   .rw [jf q,jf (λz=>q z.symm)]
  rw [W0]
  by_cases q:k'=name
  .rw [bT (ix q),bT q]
   exact .cons h1 rfl p
  .rw [bl (by rw [jf q];exact gK),bl q]
   exact .cons h1 h2 (O (ic.mp (by simpa using hn)).2)
theorem acm{name:ar}{hash:ba}(P:tU->Prop)(h0:P ⟨hash,key,v⟩)(h1:∀e,P e->P {e with val:=v}):(∀e∈R,P e)->
  ∀e∈(tc name.cps.size name.cps.toList (λ|some e=>{e with val:=v}|none=>⟨hash,key,v⟩) R).1,P e:=by
 induction R with
 |nil=>
  intro _ e he
  rw [tc] at he
  rw [cA.mp he];exact h0
 |cons J r O=>
  intro hc e he
  unfold tc at he
  refine Yb (P:=λx:G tU×ah=>e∈x.1->P e) (λ_ he=>?_) (λ_ he=>?_) he
  .exact(bY.mp he).elim (λq=>q▸h1 _ (hc _ (.head _))) λhe=>hc _ (.tail _ he)
  .exact(bY.mp he).elim (λq=>q▸hc _ (.head _)) λhe=>O (λe he=>hc e (.tail _ he)) e he
theorem aaL{d:aA}{v:aw}(hd:s.heap.DictOf (gC c w.w) d aR)(hz:aR.length<=4096)
  (h:∀M,M.DictOf (gC c w.w) d (j_ aR name v)->iC d s.heap M->Q () {s with heap:=M,toks:=s.toks+1}):bo (bK c w.w) Y (nsSet d name v) Q au s:=by
 refine dO hd λE R ep ho bB=>eN bB λhx Ma hk dA=>xA dA λhp hn=>?_
 obtain⟨oc,od,agW,agX⟩:=E
 refine cf hx λx1 x2 x3=>?_
 simp only at x1 x2 x3 Ma
 subst x1 x2 x3 Ma
 have Av:mY name (.str name s.toks)=true:=by simp [mY]
 have pp:=acn (c:=c) (w:=w) (v:=v) Av (Ap w.w name) hp hn
 have pk:=acm (name:=name) (key:=.str name s.toks) (v:=v) (hash:=Ap w.w name) (λe=>∃k,(gC c w.w).is k e.key=true/\e.hash=(gC c w.w).hash k) ⟨name,Av,rfl⟩ (λe he=>he)
  (R:=R.toList) (λe he=>hk e (Cd.mp he))
 have aaH:∀e∈R.toList,e.refKey=false:=λe he=>by
  refine ay (hk e (Cd.mp he)) λk h1 _=>?_
  refine bw (JP h1) λt h2=>?_
  unfold DictEntry.refKey
  rw [h2]
 have ll:(j_ aR name v).length<=aR.length+1:=by
  unfold j_
  split<;>simp
 have aaE:((j_ aR name v).map (·.1)).Nodup:=by
  unfold j_
  split
  .have:(aR.map λkv=>if kv.1=name then(kv.1,v) else kv).map (·.1)=aR.map (·.1):=by
    rw [zj]
    apply QS
    intro kv _
    dsimp only [Function.comp]
    split<;>rfl
   rw [this];exact hn
  .rename_i q
   rw [rN,wC]
   refine⟨hn,by simp,λx hx y hy=>?_⟩
   simp only [lj,List.map_nil,cA] at hy
   obtain rfl:=hy.symm
   rintro rfl
   refine ay (cF.mp hx) λkv h1 h2=>?_
   exact q (zc.mpr ⟨kv,h1,by simpa using h2⟩)
 unfold nsSet
 refine aO (aO (wpAny_askSetting (bX (aO (wpAny_mkText (aO (wpAny_loadPart ho ?_)))))))
 dsimp only
 have J:(!R.any (·.key.isStr name)&&R.any (·.refKey))=false:=by
  have:R.any (·.refKey)=false:=by
   rw [<-P9,zb]
   exact λe he=>by rw [aaH e he];exact gK
  rw [this,Qe]
 rw [aRefKeyMayBeTheName_at,J]
 refine wpAny_updatePart ho ?_
 refine h _ ?_ (o8 ..)
 have fo:∃n',Obj.putName name (if name.cps.isEmpty=true then 0 else reduceHash ((bK c w.w).w.params.strHash name.cps)) (.str name s.toks) v {cls:=.type "dict",dict:=none,data:=.dict R ep,slots:=#[]}=
   {cls:=.type "dict",dict:=none,data:=.dict (tc name.cps.size name.cps.toList (λ|some e=>{e with val:=v}|none=>⟨Ap w.w name,.str name s.toks,v⟩) R.toList).1.toArray n',slots:=#[]}:=by
  unfold Obj.putName
  dsimp only
  split
  .rename_i dD q;exact⟨ep,by rw [show(tc name.cps.size name.cps.toList (λ|some e=>{e with val:=v}|none=>⟨Ap w.w name,.str name s.toks,v⟩) R.toList)=(dD,false) from q]⟩
  .rename_i dD q;exact⟨ep+1,by rw [show(tc name.cps.size name.cps.toList (λ|some e=>{e with val:=v}|none=>⟨Ap w.w name,.str name s.toks,v⟩) R.toList)=(dD,true) from q]⟩
 refine bw fo ?_;clear fo;intro n' fo
 refine⟨_,_,n',(y_ _ ho (by rw [fo];rfl)).trans (cq some fo),⟨rfl,rfl,rfl⟩,rfl,λe he=>?_,by simpa using pp,aaE⟩
 exact pk e (by simpa using he)
theorem aci(Zk:bZ Z ae)(T:Top c w K W I mg mb)(S:St c w I F C o s.heap){ov m:D}{x z:aw}{q:H×cJ}(e:Hi o W ov m n=some q)(e':ae (nN Z o q.1 q.2 k))
  (vx:VR c w F C s.heap ov x) (vz:VR c w F C s.heap m z):bc c w Y own C s (setAttr x n z) (PH ae c w I F k):=by
 unfold Hi at e
 generalize e1:attrsOf o ov=ax at e
 cases ax with
 |none=>exact aB e
 |some t=>
  dsimp only at e
  refine xA (bI e) λJ e=>?_
  generalize e2:dput t.2.2 (.str n) m=ax at e
  cases ax with
  |none=>exact aB e
  |some dD=>
   have e:=aM e
   subst e
   refine xA (z9 e2) λk1 aI=>?_;subst aI
   obtain⟨a,dx,rfl,g2,p2,r3⟩:=J7 S e1 vx
   refine iZ (tJ r3 k1) λaR d1 u sk ln=>?_
   refine ay (F4 d1) λod ho hl=>?_
   have bk:InstAt s.heap a (uZ t.1 dx) t.1 (some od):=⟨g2,rfl,rfl,ho⟩
   refine ay (NG J) λms cl hx=>?_
   have ci:=T.DI cl
   have so:=(ci.field n hx).1
   refine eN (T.ns S) λ_ _ pW _=>?_
   intro Q au g
   refine set_plain pW bk ci.sa ?_
   have ht:takerIn K t.1 n=some none:=by unfold takerIn;rw [(ci.field n hx).2];rfl
   refine osa_open (s:={s with toks:=s.toks+1}) pW bk ci.plain ht λb=>?_
   refine ay (any_some ci.dict) λcd hc WK=>?_
   have HC:∀p∈j_ aR n z,g8 p.1=true:=λp hp=>by
    rcases HL _ _ _ p hp with q|⟨q,hq,e⟩
    .exact q▸so
    .exact e▸sk q hq
   refine aO (bX (aO (aO (wpAny_loadPart g2 (aO ((looks_clsIn pW hc) _ _ _ _ (λ_ _ e=>e) ?_))))))
   rw [WK]
   refine bX (a:=some dx) (aO (bX (aO ?_)))
   refine aaL (s:={s with toks:=s.toks+1}) d1 (by rw [<-u.length];exact ln) λM uP pQ=>?_
   have Xj:iC dx s.heap M:=pQ
   refine xA (qg (h:=s.heap) (M:=M) Zk S e' p2 Xj (λJ st=>⟨.inl ⟨_,uP,(yO oJ vz u (sj d1)).imp λm v=>VR.step st,HC⟩,j4 J⟩)) λst r=>?_
   refine dO uP λo' Vd U6 WV bB=>eN bB λE6 WI _ dA=>xA dA λgU _=>?_
   have hz:Vd.size<=rp+1:=by
    have l1:=gU.length
    rw [hX] at l1
    have l2:(j_ aR n z).length<=aR.length+1:=by unfold j_;split<;>simp
    rw [l1,rq]
    rw [u.length] at ln
    lia
   exact aO (wpAny_lookBehind WV (by rw [WI];exact pastItsLine_dict hz) (bX (g () C M _ st.any r)))
end
end
section
variable{ag:Type}{Z:cU ag}{ae:ag->Prop}{c:a_}{w:WB}{Y:bG}{own F C:G aA}{s:aT}{I h M:aP}{o:MH}{K:b8}{W:bQ}{mg mb:ar->aa aw}
theorem Sv(Zk:bZ Z ae)(S:St c w I F C o s.heap)(e:ae (nN Z o i (.list (b+1) (m::r)) λo=>k .none o))(hi:C[i]?=some a)(E:OR c w F C s.heap a (.list b r))(x:VR c w F C s.heap m v):
  bc c w Y own C s (call (.builtin "list.append") [.ref a,v]) (PV ae c w I F k):=by
 refine eK E λV n g y B l4=>?_
 intro Q au q
 have sz:=y.length
 rw [ez,hX] at sz
 refine afz ⟨n,g⟩ (λM hp hs=>?_) (rr (by lia))
 refine bw hp λn' g'=>?_
 obtain⟨st,br,e',S'⟩:=qg (M:=M) Zk S e hi hs (λJ st=>oK J g' (by rw [IV,zk];exact .cons (x.step st) (y.step st)) (by simpa using B))
 exact q _ C M _ st.any ⟨_,br,e',S',by rfl⟩
theorem ZG(MK ML:dS aw)(n:H):∃n',fh (λx=>x++ML) {cls:=.type "list",dict:=none,data:=.seq MK n,slots:=#[]}={cls:=.type "list",dict:=none,data:=.seq (MK++ML) n',slots:=#[]}:=⟨_,rfl⟩
theorem Vq(Zk:bZ Z ae)(S:St c w I F C o s.heap)(e:ae (nN Z o i (.list (b+J) (app r2 r)) λo=>k .none o))(hi:C[i]?=some a)(E:OR c w F C s.heap a (.list b r))
  (o2:∃V n,s.heap.get? a2=some (fT V n)/\aW c w F C s.heap r2 V.toList.reverse/\r2.length<=J/\J<=4096):
  bc c w Y own C s (call (.builtin "list.extend") [.ref a,.ref a2]) (PV ae c w I F k):=by
 refine eK E λV n g y B l4=>?_
 refine eK o2 λws n2 g2 y2 l2 agJ=>?_
 intro Q au q
 have sz:=y.length
 have ael:=y2.length
 rw [ez,hX] at sz ael
 have hz:V.size+ws.size<=rp:=rr (by lia)
 refine w8 RO ⟨_,g,rfl⟩ PySem.F.entry_list_extend (PySem.F.args_list_extend_2 _ _) (AutoSeq1.list_extend_list_list_0 a V n a2 ws n2 (extend_door hz) (dQ (ig _ _) hz)) ⟨g,g2,?_⟩
 refine bw (ZG V ws n) λn' hm=>?_
 have g':(s.heap.update a (fh λx=>x++ws)).get? a=some (fT (V++ws) n'):=(y_ _ g (by rw [hm];rfl)).trans (cq some hm)
 obtain⟨st,br,e',S'⟩:=qg (M:=s.heap.update a (fh λx=>x++ws)) Zk S e hi (o8 ..) (λJ st=>oK J g' (by rw [gM,Array.toList_append,zk];exact(y2.step st).append (y.step st)) (by rw [zK];lia))
 exact q _ C _ s.toks st.any ⟨_,br,e',S',by rfl⟩
theorem ab9(Zk:bZ Z ae)(S:St c w I F C o s.heap)(e:ae (nN Z o i (.list (b-1) r) λo=>k m o))(hi:C[i]?=some a)(E:OR c w F C s.heap a (.list b (m::r))):
  bc c w Y own C s (call (.builtin "list.pop") [.ref a]) (PV ae c w I F k):=by
 refine eK E λV n g y B l4=>?_
 intro Q au q
 have sz:=y.length
 rw [ez,hX] at sz
 refine dR.el y.cj λv p e1 y1 y2=>?_
 have ev:V=(p.reverse++[v]).toArray:=by
  have:V.toList=p.reverse++[v]:=by
   have:=cq List.reverse e1
   simpa using this
  rw [<-this,IU]
 subst ev
 have hz:(p.reverse++[v]).toArray.size<=rp:=rr (by lia)
 have hk:(p.reverse++[v]).toArray.size-1=p.reverse.length:=by rw [t8,fy];rfl
 have hy:(p.reverse++[v]).toArray[(p.reverse++[v]).toArray.size-1]?=some v:=by rw [hk];simp
 refine w8 RP ⟨_,g,rfl⟩ PySem.F.entry_list_pop (PySem.F.args_list_pop_1 _) (PySem.MeetsSeq.list_pop_last a _ n v hy hz) ⟨g,?_⟩
 have hm:∃n',fh (λxs=>xs.eraseIdxIfInBounds ((p.reverse++[v]).toArray.size-1)) (fT (p.reverse++[v]).toArray n)=fT p.reverse.toArray n':=by
  have:∀f:dS aw->dS aw,∃n',fh f (fT (p.reverse++[v]).toArray n)=fT (f (p.reverse++[v]).toArray) n':=λf=>⟨_,rfl⟩
  refine bw (this λxs=>xs.eraseIdxIfInBounds ((p.reverse++[v]).toArray.size-1)) λn' e=>?_
  refine⟨n',e.trans ?_⟩
  rw [hk,kl_erase,h_]
 refine bw hm ?_;clear hm;intro n' hm
 have g':(s.heap.update a (fh λxs=>xs.eraseIdxIfInBounds ((p.reverse++[v]).toArray.size-1))).get? a=some (fT p.reverse.toArray n'):=(y_ _ g (by rw [hm];rfl)).trans (cq some hm)
 obtain⟨st,br,e',S'⟩:=qg (M:=s.heap.update a (fh λxs=>xs.eraseIdxIfInBounds ((p.reverse++[v]).toArray.size-1))) Zk S e hi (o8 ..) (λJ st=>oK J g' (by simpa using y2.step st) (by simp only [iQ] at B;lia))
 exact q _ C _ s.toks st.any ⟨_,br,e',S',y1.step st⟩
theorem LL(T:Top c w K W I mg mb)(S:St c w I F C o s.heap)(e:dictGet o d i=some q)(em:m=match q with|some u=>u|.none=>x)(vd:VR c w F C s.heap d dv)(vi:VR c w F C s.heap i iv)(vx:VR c w F C s.heap x xv):
  bc c w Y own C s (call (.builtin "dict.get") [dv,iv,xv]) (λr ao M=>VR c w F ao M m r/\ao=C/\M=s.heap):=by
 obtain⟨a,L,dl,fS,aR,key,rfl,ns,hk,hd,r⟩:=DV T S e vd vi
 intro Q au g
 refine zP RN hd.typeIs PySem.F.entry_dict_get (PySem.F.args_dict_get_3 _ _ _) (meets_dict_get_default fS a hk ns xv) ⟨_,hd.mapOf,?_⟩
 refine g _ C s.heap (s.toks+1) (.refl ..) ⟨?_,rfl,rfl⟩
 rcases r with⟨rfl,r⟩|⟨m',u,rfl,r,hv⟩
 .rw [r];subst em;exact vx
 .rw [r];subst em;exact hv
end
section
variable{ag:Type}{Z:cU ag}{ae:ag->Prop}{c:a_}{w:WB}{Y:bG}{own F C:G aA}{s:aT}{I h M:aP}{o:MH}{K:b8}{W:bQ}{mg mb:ar->aa aw}
noncomputable def Me.id:Me->C8
 |.append=>"list.append" |.extend=>"list.extend" |.A3=>"list.pop" |.ih=>"dict.get" |.xh=>"dict.pop" |.join=>"str.join" |.split=>"str.split"
theorem Ub{L:Type} [jw L]{fS:KeyKind c w.w L}{aR:G (L×aw)}(x:h.DictOf fS a aR):∃ob,h.get? a=some ob/\ob.dict=none/\ob.cls=.type "dict" :=
 x.imp λ_ x=>x.elim λ_ x=>x.elim λ_ x=>⟨x.1,x.2.1.2.1,x.2.1.1⟩
theorem acz(S:St c w I F C o s.heap){v:D}{m:Me}(e:Hl o v x=some m)(vo:VR c w F C s.heap v E)(Q:aw×G aw->aT->Prop)(au:aw->aT->Prop)(q:Q (.builtin m.id,[E]) s):
  bo (bK c w.w) Y (getMethod E x pl) Q au s:=by
 have ld:∀{a:aA} {L:Type} [jw L] {fS:KeyKind c w.w L} {aR:G (L×aw)},s.heap.DictOf fS a aR->E=.ref a->(x,m)∈[(Hu,Me.ih),(s_pop,.xh)]->bo (bK c w.w) Y (getMethod E x pl) Q au s:=by
  intro a L _ fS aR d eo hm
  subst eo
  refine fM (Ub d) λob h1 h2 h3=>?_
  have ty:s.TypeIs (.ref a) "dict" :=⟨ob,h1,h3⟩
  have hd:∀b,og a=.ref b->∃E,s.heap.get? b=some E/\E.dict=none:=λb e=>by cases e;exact⟨ob,h1,h2⟩
  simp only [bY,eP,gF,JF] at hm
  rcases hm with⟨rfl,rfl⟩|⟨rfl,rfl⟩
  .exact uM ty RL RN PySem.F.type_dict_get hd q
  .exact uM ty RL zw PySem.F.type_dict_pop hd q
 unfold Hl at e
 cases v with
 |ref i=>
  dsimp only at e
  refine ay vo λa p1 eo=>?_
  refine ay (S.at_ i a p1) λob g1 r1=>?_
  rw [g1] at e
  cases ob with
  |list b r=>
   have hm:=qF (e:g_ _ x=some m)
   refine jv r1 λV n g _=>?_
   subst eo
   have ty:s.TypeIs (.ref a) "list" :=⟨_,g,rfl⟩
   have hd:∀b,og a=.ref b->∃E,s.heap.get? b=some E/\E.dict=none:=λb e=>by cases e;exact⟨_,g,rfl⟩
   simp only [bY,eP,gF,JF] at hm
   rcases hm with⟨rfl,rfl⟩|⟨rfl,rfl⟩|⟨rfl,rfl⟩
   .exact uM ty JJ PySem.F.slot_list_append PySem.F.type_list_append hd q
   .exact uM ty JJ RO PySem.F.type_list_extend hd q
   .exact uM ty JJ RP PySem.F.type_list_pop hd q
  |dict R=>
   have hm:=qF (e:g_ _ x=some m)
   obtain⟨⟨aR,d,_⟩|⟨aR,d,_⟩,_⟩:=r1
   .exact ld d eo hm
   .exact ld d eo hm
  |_=>exact aB e
 |aD J B=>
  cases J with
  |dict ks=>
   have hm:=qF (e:g_ _ x=some m)
   refine eK vo λa V eo _ ns bB=>cf bB λd1 _ y=>?_
   exact ld d1 eo (by simp only [bY,eP,gF] at hm⊢;exact .inl hm)
  |_=>exact aB e
 |str z=>
  have hm:=qF (e:g_ _ x=some m)
  obtain⟨⟨t,rfl⟩,so⟩:=vo
  have hd:∀b,Value.str z t=.ref b->∃E,s.heap.get? b=some E/\E.dict=none:=λb e=>nomatch e
  simp only [bY,eP,gF,JF] at hm
  rcases hm with⟨rfl,rfl⟩|⟨rfl,rfl⟩
  .exact uM (Pn _ _ _) RM PySem.F.slot_str_join PySem.F.type_str_join hd q
  .exact uM (Pn _ _ _) RM RQ PySem.F.type_str_split hd q
 |_=>exact aB e
theorem KJ(p:D×D)(R:G (D×D))(x:D):se (p::R) x=if iz p.1 x=true then R else p::se R x:=by
 refine(?_:@bN (λ_=>G (D×D)) (p::se R x) R (iz p.1 x)=_)
 cases iz p.1 x<;>rfl
theorem agd(x:D)(R:G (D×D)):(se R x).length<=R.length:=by
 induction R with
 |nil=>exact fG _
 |cons p R O=>
  rw [KJ]
  split
  .exact ue _
  .exact n4 O
theorem Pz{L:Type} [jw L]{key:L->D}(hk:∀a b,iz (key a) (key b)=decide (a=b)){k:L}{aR:G (L×aw)}(u:Under P key R aR):
  (aR.map (·.1)).Nodup->Under P key (se R (key k)) (yS aR k):=by
 induction u with
 |nil=>intro _;exact .nil
 |@cons k' m' v' B r a b O=>
  intro hn
  have xG:(r.map (·.1)).Nodup:=(ic.mp (by simpa using hn)).2
  have ni:k'∉r.map (·.1):=(ic.mp (by simpa using hn)).1
  rw [KJ]
  dsimp only
  rw [hk]
  by_cases q:k'=k
  .rw [bT (ix q)]
   rw [<-q]
   have:yS ((k',v')::r) k'=r:=by
    unfold yS
    rw [QI]
    simp only [ne_eq,not_true_eq_false,T7,Ce,Fb]
    rw [Jg]
    intro p hp
    exact ix λe=>ni (e▸cF.mpr ⟨p,hp,rfl⟩)
   rw [this];exact b
  .rw [bl (by rw [jf q];exact gK)]
   have:yS ((k',v')::r) k=(k',v')::yS r k:=by
    unfold yS
    rw [QI]
    simp [q]
   rw [this];exact .cons a (O xG)
theorem Um(Zk:bZ Z ae)(T:Top c w K W I mg mb)(S:St c w I F C o s.heap){R:G (D×D)}{x u d:D}{xv dv:aw}(e:ih R x=some (some u))(e':ae (nN Z o i (.dict (se R x)) λo=>k u o))(hi:C[i]?=some a)(E:OR c w F C s.heap a (.dict R))
  (vx:VR c w F C s.heap x xv) (vd:VR c w F C s.heap d dv):bc c w Y own C s (call (.builtin "dict.pop") [.ref a,xv,dv]) (PV ae c w I F k):=by
 refine xA (xf e) λk1 k2=>?_
 have kk:=u_ _ _ k1
 intro Q au g
 cases x with
 |str n=>
  obtain⟨⟨t,rfl⟩,so⟩:=vx
  refine iZ (tJ E k1) λaR d1 un sk ln=>?_
  rcases rB oJ n un with⟨z1,z2⟩|⟨m,v',z1,z2,z3⟩
  .rw [z1] at k2;exact aB k2
  rw [z1] at k2;cases k2
  refine zP zw d1.typeIs CV (CU _ _ _) (ZV (gC c w.w) a (by simp [gC,mY]) [dv] (.inr ⟨dv,rfl⟩) rfl) ⟨aR,v',d1,jk (by rw [<-un.length];exact ln),z2,λM hd hs=>?_⟩
  obtain⟨st,br,pG,S'⟩:=qg (M:=M) Zk S e' hi hs (λJ st=>⟨.inl ⟨_,hd,(Pz oJ un (sj d1)).imp λm v=>VR.step st,λp hp=>sk p (t7.mp hp).1⟩,j4 J⟩)
  exact g _ C M _ st.any ⟨_,br,pG,S',z3.step st⟩
 |int n=>
  refine bw vx ?_;clear vx;intro t aI;obtain rfl:=aI.symm
  refine fM (xP E k1) λaR d1 un ln=>?_
  rcases rB sV n un with⟨z1,z2⟩|⟨m,v',z1,z2,z3⟩
  .rw [z1] at k2;exact aB k2
  rw [z1] at k2;cases k2
  refine zP zw d1.typeIs CV (CU _ _ _) (ZV (lE c w.w) a (by simp [lE,zB]) [dv] (.inr ⟨dv,rfl⟩) rfl) ⟨aR,v',d1,jk (by rw [<-un.length];exact ln),z2,λM hd hs=>?_⟩
  obtain⟨st,br,pG,S'⟩:=qg (M:=M) Zk S e' hi hs (λJ st=>⟨.inr ⟨_,hd,(Pz sV un (sj d1)).imp λm v=>VR.step st⟩,j4 J⟩)
  exact g _ C M _ st.any ⟨_,br,pG,S',z3.step st⟩
 |_=>exact bz kk
theorem Ul(T:Top c w K W I mg mb)(S:St c w I F C o s.heap){i:H}(e:ih R x=some .none)(hi:C[i]?=some a)(E:OR c w F C s.heap a (.dict R))
  (vx:VR c w F C s.heap x xv) (vd:VR c w F C s.heap d dv):bc c w Y own C s (call (.builtin "dict.pop") [.ref a,xv,dv]) (λr ao M=>VR c w F ao M d r/\ao=C/\M=s.heap):=by
 refine xA (xf e) λk1 k2=>?_
 have kk:=u_ _ _ k1
 have ns:=tL T S hi
 intro Q au g
 cases x with
 |str n=>
  obtain⟨⟨t,rfl⟩,so⟩:=vx
  refine iZ (tJ E k1) λaR d1 un sk ln=>?_
  rcases rB oJ n un with⟨z1,z2⟩|⟨m,v',z1,z2,z3⟩
  .exact zP zw d1.typeIs CV (CU _ _ _) (ZU (gC c w.w) a (by simp [gC,mY]) ns rfl dv) ⟨aR,d1,z2,g _ C s.heap (s.toks+1) (.refl ..) ⟨vd,rfl,rfl⟩⟩
  .rw [z1] at k2;exact ql k2
 |int n=>
  refine bw vx ?_;clear vx;intro t aI;subst aI
  refine fM (xP E k1) λaR d1 un ln=>?_
  rcases rB sV n un with⟨z1,z2⟩|⟨m,v',z1,z2,z3⟩
  .exact zP zw d1.typeIs CV (CU _ _ _) (ZU (lE c w.w) a (by simp [lE,zB]) ns rfl dv) ⟨aR,d1,z2,g _ C s.heap (s.toks+1) (.refl ..) ⟨vd,rfl,rfl⟩⟩
  .rw [z1] at k2;exact ql k2
 |_=>exact bz kk
end
section
variable{ag:Type}{Z:cU ag}{ae:ag->Prop}{c:a_}{w:WB}{Y:bG}{own F C:G aA}{s:aT}{I h M:aP}{o:MH}{K:b8}{W:bQ}{mg mb:ar->aa aw}
noncomputable def tB:ar:=⟨⟨[33]⟩⟩
theorem adM(s:ar)(h:s=BA\/s=Bz):(decide (s.length<tB.length)||decide (Qj s<Qj tB))=false/\(tB.length==0)=false/\(Builtin.Str.occurrences s tB 0 s.length (s.length+1)).isEmpty=true:=by
 rcases h with rfl|rfl<;>decide+kernel
theorem adN(Zk:bZ Z ae)(S:St c w I F C o s.heap)(hs:z=BA\/z=Bz)(e:ae (iV Z o (.list 1 [.str z]) k)):
  bc c w Y own C s (call (.builtin "str.split") [.str z t,.str tB u]) (PV ae c w I F k):=by
 refine cf (adM z hs) λf1 f2 f3=>?_
 have so:g8 z=true:=by rcases hs with rfl|rfl<;>decide+kernel
 refine bc.push (ob:={cls:=.type "list",data:=.seq [Value.str z t].toArray}) Zk S e rfl (λJ st g=>oK J g (by exact .one (by exact⟨⟨t,rfl⟩,so⟩)) (fG _)) λJ Q au q=>?_
 exact w8 RQ (Pn _ _ _) PySem.F.entry_str_split (PySem.F.args_str_split_2 _ _) (meets_str_split_not_found z tB t u f1 f2 f3) (q s.toks)
theorem HN:g8 x=true↔∀J∈x.1.1,J<0x110000:=by
 obtain⟨⟨B⟩⟩:=x
 exact HM B
theorem BS(x y:ar):(x++y).1.1=x.1.1++y.1.1:=by
 obtain⟨⟨x⟩⟩:=x
 obtain⟨⟨y⟩⟩:=y
 refine(?_:((⟨x⟩:dS H)++(⟨y⟩:dS H)).toList=_)
 simp
theorem HP{x y:ar}(e:x.1.1=y.1.1):x=y:=by
 obtain⟨⟨x⟩⟩:=x
 obtain⟨⟨y⟩⟩:=y
 dsimp only at e
 rw [e]
theorem Yi(j7:G H)(a:D)(r:G D):sU j7 (a::r)=match a with
  |.str s=>match r with
   |[]=>some s.1.1
   |_::_=>match sU j7 r with
    |some t=>some (app s.1.1 (app j7 t))
    |.none=>.none
  |_=>.none:=rfl
theorem MM{j7:ar}:∀{B:G D} {V:G aw} {t:G H},sU j7.1.1 B=some t->aW c w F C h B V->∃ys,n9 V ys/\C7 j7 ys=⟨⟨t⟩⟩/\∀y∈ys,g8 y=true
 |[],V,t,e,y=>by rw [y.dW];cases e;exact⟨[],.nil,rfl,λy h=>(nomatch h)⟩
 |a::r,V,t,e,y=>by
  refine dR.el y.cj λv gj aE y1 y2=>?_;rw [aE]
  rw [Yi] at e
  cases a with
  |str z=>
   obtain⟨⟨u,rfl⟩,so⟩:=y1
   cases r with
   |nil=>
    rw [y2.dW]
    cases e
    exact⟨[z],.cons z u .nil,rfl,λy h=>by rw [cA.mp h];exact so⟩
   |cons b r'=>
    dsimp only at e
    generalize e1:sU j7.1.1 (b::r')=ax at e
    cases ax with
    |none=>exact aB e
    |some t'=>
     cases e
     refine fM (MM e1 y2) λys h1 h2 h3=>?_
     cases ys with
     |nil=>
      obtain⟨v',ag_,rfl,_⟩:=y2.cj
      cases h1
     |cons y ys=>
      refine⟨z::y::ys,.cons z u h1,?_,λq hq=>?_⟩
      .refine(?_:z++j7++C7 j7 (y::ys)=_)
       rw [h2,gM,gM]
       refine HP ?_
       rw [BS,BS,l_]
      .refine dC (bY.mp hq) (λrf=>?_) λhq=>?_
       .rw [rf];exact so
       .exact h3 q hq
  |_=>exact aB e
theorem OW(hs:g8 j7=true):∀{ys:G ar},(∀y∈ys,g8 y=true)->g8 (C7 j7 ys)=true
 |[],_=>(HN (x:=(⟨#[]⟩:ar))).mpr λJ hc=>nomatch hc
 |[x],h=>h x (.head _)
 |x::y::r,h=>by
  have h1:=h x (.head _)
  have h2:=OW hs (ys:=y::r) λz hz=>h z (.tail _ hz)
  refine(?_:g8 (x++j7++C7 j7 (y::r))=true)
  rw [HN] at*
  intro J hc
  rw [BS,BS] at hc
  refine dC (dI.mp hc) (λhc=>?_) λhc=>?_
  .refine dC (dI.mp hc) (λhc=>?_) λhc=>?_
   .exact h1 J hc
   .exact hs J hc
  .exact h2 J hc
theorem Yj(S:St c w I F C o s.heap)(e1:eV o a=some p)(c1:(eB p.1 2000&&jG z.1.1)=true)(e2:sU z.1.1 (rv p.2)=some t)(c2:jG t=true)(so:g8 z=true)(va:VR c w F C s.heap a av):
  bc c w Y own C s (call (.builtin "str.join") [.str z u,av]) (λr ao M=>VR c w F ao M (.str ⟨⟨t⟩⟩) r/\ao=C/\M=s.heap):=by
 refine LstAt.el (nF S e1 va) λad V n bU g y B l4=>?_;rw [bU]
 refine xA (aN.mp c1) λc1 c3=>?_
 have c1:=dw c1
 have c3:=j4 c3
 have c2:=j4 c2
 rw [fD] at e2
 have y':=y.reverse
 rw [mU] at y'
 refine fM (MM e2 y') λys h1 h2 h3=>?_
 have hg:Txt.join z ys=⟨⟨t⟩⟩:=(StrLaws.glued_eq_join z ys).trans h2
 have hl:=PySem.size_glued z ys
 have Aw:(Qi z ys).length=t.length:=by
  rw [show Qi z ys=⟨⟨t⟩⟩ from hg]
  rfl
 have uS:ys.length=p.2.length:=by rw [<-h1.len_eq,y'.length,ez]
 have hz:z.length<=4096:=c3
 intro Q au q
 refine join_list ⟨_,g,rfl,n,rfl⟩ h1 ?_ λt' k=>?_
 .have h4:ys.length*z.length<=2000*4096:=Rl (by lia) hz
  lia
 .rw [hg]
  refine q _ C s.heap k (.refl ..) ⟨?_,rfl,rfl⟩
  exact⟨⟨t',rfl⟩,h2▸OW so h3⟩
noncomputable def orM(q:aa D)(d:D):D:=match q with
 |some u=>u
 |.none=>d
theorem ZY{s a b:ar}(e:(seq s a||seq s b)=true):s=a\/s=b:=by
 refine dC (k_.mp e) (λe=>?_) λe=>?_
 .exact .inl (lV.mp e)
 .exact .inr (lV.mp e)
theorem ZZ(Zk:bZ Z ae)(T:Top c w K W I mg mb)(S:St c w I F C o s.heap){v:D}(e:ae (Dg Z (yc o v m B) v o k))(vo:VR c w F C s.heap v E)(vl:aW c w F C s.heap B V):
  bc c w Y own C s (call (.builtin m.id) (E::V)) (PV ae c w I F k):=by
 have bad:ae (Dg Z .bad v o k)->dP:=λq=>Zk.fail q
 cases v with
 |ref i=>
  dsimp only [yc] at e
  generalize e1:o.t.get i=ax at e
  cases ax with
  |none=>exact(bad e).elim
  |some ob=>
   refine ay vo ?_;clear vo;intro a p1 aE;subst aE
   refine ay (S.at_ i a p1) λagV g1 r1=>?_
   rw [e1] at g1;cases g1
   cases ob with
   |list b r=>
    dsimp only at e
    cases m with
    |append=>
     match B,vl,e with
     |[],vl,e=>exact(bad e).elim
     |[x],vl,e=>
      refine dR.el vl.cj λxv gj aE y1 y2=>?_;subst aE
      rw [y2.dW]
      exact Sv Zk S e p1 r1 y1
     |_::_::_,vl,e=>exact(bad e).elim
    |extend=>
     match B,vl,e with
     |[],vl,e=>exact(bad e).elim
     |[x],vl,e=>
      refine dR.el vl.cj λxv gj aE y1 y2=>?_;rw [aE]
      rw [y2.dW]
      have ext:∀{q:H×G D},eV o x=some q->ae (nN Z o i (.list (b+q.1) (app q.2 r)) λo=>k .none o)->bc c w Y own C s (call (.builtin Me.extend.id) [.ref a,xv]) (PV ae c w I F k):=by
       intro q h1 h2
       refine LstAt.el (nF S h1 y1) λad V n bU g y B l4=>?_;subst bU
       exact Vq Zk S h2 p1 r1 ⟨V,n,g,y,B,l4⟩
      cases x with
      |ref j=>
       dsimp only [FU] at e
       generalize J:bA i j=ax at e
       cases ax with
       |true=>exact(bad e).elim
       |false=>
        dsimp only at e
        generalize h1:eV o (.ref j)=ax at e
        cases ax with
        |none=>exact(bad e).elim
        |some q=>exact ext h1 e
      |aD J B=>
       dsimp only [FU] at e
       generalize h1:eV o (.aD J B)=ax at e
       cases ax with
       |none=>exact(bad e).elim
       |some q=>exact ext h1 e
      |_=>exact(bad e).elim
     |_::_::_,vl,e=>exact(bad e).elim
    |A3=>
     match B,vl,e with
     |[],vl,e=>
      rw [vl.dW]
      cases r with
      |nil=>exact(bad e).elim
      |cons u r=>exact ab9 Zk S e p1 r1
     |_::_,vl,e=>exact(bad e).elim
    |_=>exact(bad e).elim
   |dict R=>
    dsimp only at e
    match B,vl,e with
    |[],vl,e=>exact(bad e).elim
    |[_],vl,e=>exact(bad e).elim
    |[x,d],vl,e=>
     refine dR.el vl.cj λxv gj aE y1 y2=>?_;rw [aE]
     replace y2:=y2.cj;obtain⟨dv,gj,rfl,y2,y3⟩:=y2
     rw [y3.dW]
     dsimp only [KP] at e
     cases h1:ih R x with
     |none=>rw [h1] at e;exact(bad e).elim
     |some q=>
      rw [h1] at e
      cases m with
      |ih=>
       have hd:dictGet o (.ref i) x=some q:=by unfold dictGet dictAt;dsimp only;rw [e1];exact h1
       have vo:VR c w F C s.heap (.ref i) (.ref a):=by exact⟨a,p1,rfl⟩
       have e':ae (k (orM q d) o):=by cases q<;>exact e
       refine(LL (m:=orM q d) T S hd (by cases q<;>rfl) vo y1 y2).mono λr ao M st q=>?_
       refine cf q ?_;clear q;intro q1 aI aE;obtain rfl:=aI.symm;subst aE
       exact PV.gives S e' q1
      |xh=>
       cases q with
       |none=>
        refine(Ul T S h1 p1 r1 y1 y2).mono λr ao M st q=>?_
        refine cf q ?_;clear q;intro q1 aI aE;obtain rfl:=aI.symm;subst aE
        exact PV.gives S e q1
       |some u=>exact Um Zk T S h1 e p1 r1 y1 y2
      |_=>exact(bad e).elim
    |_::_::_::_,vl,e=>exact(bad e).elim
   |_=>exact(bad e).elim
 |aD J fl=>
  dsimp only [yc] at e
  cases J with
  |dict ks=>
   cases m with
   |ih=>
    match B,vl,e with
    |[],vl,e=>exact(bad e).elim
    |[_],vl,e=>exact(bad e).elim
    |[x,d],vl,e=>
     refine dR.el vl.cj λxv gj aE y1 y2=>?_;rw [aE]
     replace y2:=y2.cj;obtain⟨dv,gj,rfl,y2,y3⟩:=y2
     rw [y3.dW]
     dsimp only [LH] at e
     cases h1:Ae ks fl x with
     |none=>rw [h1] at e;exact(bad e).elim
     |some q=>
      rw [h1] at e
      have hd:dictGet o (.aD (.dict ks) fl) x=some q:=h1
      have e':ae (k (orM q d) o):=by cases q<;>exact e
      refine(LL (m:=orM q d) T S hd (by cases q<;>rfl) vo y1 y2).mono λr ao M st q=>?_
      refine cf q ?_;clear q;intro q1 aI aE;obtain rfl:=aI.symm;obtain rfl:=aE.symm
      exact PV.gives S e' q1
    |_::_::_::_,vl,e=>exact(bad e).elim
   |_=>exact(bad e).elim
  |_=>exact(bad e).elim
 |str z=>
  dsimp only [yc] at e
  obtain⟨⟨t,rfl⟩,so⟩:=vo
  match B,vl,e with
  |[],vl,e=>exact(bad e).elim
  |[x],vl,e=>
   refine dR.el vl.cj λxv gj aE y1 y2=>?_;obtain rfl:=aE.symm
   rw [y2.dW]
   dsimp only [OV] at e
   cases m with
   |join=>
    dsimp only at e
    cases h1:eV o x with
    |none=>rw [h1] at e;exact(bad e).elim
    |some p=>
     rw [h1] at e
     dsimp only at e
     cases J:eB p.1 2000&&jG z.1.1 with
     |false=>rw [J] at e;exact(bad e).elim
     |true=>
      rw [J] at e
      dsimp only at e
      generalize h2:sU z.1.1 (rv p.2)=ax at e
      cases ax with
      |none=>exact(bad e).elim
      |some t=>
       dsimp only at e
       cases c2:jG t with
       |false=>rw [c2] at e;exact(bad e).elim
       |true=>
        rw [c2] at e
        refine(Yj S h1 J h2 c2 so y1).mono λr ao M st q=>?_
        refine cf q ?_;clear q;intro q1 aI aE;rw [aI];rw [aE]
        exact PV.gives S e q1
   |split=>
    cases x with
    |str b=>
     dsimp only at e
     cases J:vh b.1.1 [33]&&(seq z BA||seq z Bz) with
     |false=>rw [J] at e;exact(bad e).elim
     |true=>
      rw [J] at e
      refine xA (aN.mp J) λc1 c2=>?_
      have hb:b=tB:=HP (M1.mp c1)
      obtain rfl:=hb.symm
      obtain⟨⟨u,rfl⟩,_⟩:=y1
      exact adN Zk S (ZY c2) e
    |_=>exact(bad e).elim
   |_=>exact(bad e).elim
  |_::_::_,vl,e=>exact(bad e).elim
 |_=>exact(bad e).elim
end
section
variable{ag:Type}{Z:cU ag}{ae:ag->Prop}{c:a_}{w:WB}{Y:bG}{own F C:G aA}{s:aT}{I h M:aP}{o:MH}{K:b8}{W:bQ}{mg mb:ar->aa aw}
theorem adb(S:St c w I F C o h)(e:BF o a=some p)(va:VR c w F C h a x):
  ∃ad V n,x=.ref ad/\(h.get? ad=some (kX V n)\/h.get? ad=some (fT V n))/\aW c w F C h p.2 V.toList.reverse/\p.2.length<=p.1:=by
 have go:∀{p},eV o a=some p->∃ad V n,x=.ref ad/\(h.get? ad=some (kX V n)\/h.get? ad=some (fT V n))/\aW c w F C h p.2 V.toList.reverse/\p.2.length<=p.1:=by
  intro p e
  refine LstAt.el (nF S e va) λad V n h1 h2 h3 h4 _=>?_
  exact⟨ad,V,n,h1,.inr h2,h3,h4⟩
 unfold BF at e
 cases a with
 |tup B=>
  cases e
  refine gq.el va.gi λad V n bU _ g y=>?_;rw [bU]
  exact⟨ad,V,n,rfl,.inl g,by dsimp only;rw [fD];exact y.reverse,by dsimp only;rw [fD,ez];exact fG _⟩
 |_=>exact go e
theorem SR(Zk:bZ Z ae)(S:St c w I F C o s.heap)(e:ae (answer Z (Dq o a) o k))(va:VR c w F C s.heap a x):
  bc c w Y own C s (call (.type "list") [x]) (PV ae c w I F k):=by
 unfold Dq at e
 generalize e1:BF o a=ax at e
 cases ax with
 |none=>exact(Zk.fail e).elim
 |some p=>
  refine dO (adb S e1 va) λad V n bU bB=>cf bB λg y B=>?_;subst bU
  have e':ae (iV Z o (.list p.1 p.2) k):=e
  intro Q au q
  have sz:=y.length
  rw [ez,hX] at sz
  have J:iB (.list p.1 p.2)=true:=by
   have e':ae (@bN (λ_=>ag) Z.fail (k (.ref o.n) ⟨o.t.ins o.n (.list p.1 p.2),cX o.n⟩) (iB (.list p.1 p.2)&&cK ((o.t.ins o.n (.list p.1 p.2)).get o.n))):=e
   exact(aN.mp (iU (x:=Z.fail) Zk e').1).1
  have c4:=uu J
  have go:∀(M:aP) (c':H),(∀b o',s.heap.get? b=some o'->M.get? b=some o')->M.get? s.heap.objs.size=some (fT V c')->Q (.ref s.heap.objs.size) {s with heap:=M}:=λM c' hk hg=>by
   refine xA (p_ (M:=M) Zk S e' (hV _) hk λJ st=>oK J hg (y.step st) B) λst pv=>?_
   exact q _ _ M s.toks st.any pv
  refine dC g ?_ ?_<;>clear g<;>intro g
  .exact call_list_seq ad (.inr rfl) g rfl rfl go (jk (by lia))
  .exact call_list_seq ad (.inl rfl) g rfl rfl go (jk (by lia))
theorem S_(Zk:bZ Z ae)(S:St c w I F C o s.heap)(e:ae (answer Z (Dv o a) o k))(va:VR c w F C s.heap a x):
  bc c w Y own C s (call (.type "tuple") [x]) (PV ae c w I F k):=by
 unfold Dv at e
 generalize e1:itemsOf o a=ax at e
 cases ax with
 |none=>exact(Zk.fail e).elim
 |some B=>
  have e':ae (k (.tup B) o):=e
  have lst:∀{ad:aA} {V:dS aw} {n:H},s.heap.get? ad=some (fT V n)->aW c w F C s.heap B V.toList->B.length<=4096->bc c w Y own C s (call (.type "tuple") [.ref ad]) (PV ae c w I F k):=by
   intro ad V n g y l4 Q au q
   have sz:=y.length
   rw [hX] at sz
   refine call_tuple_list ⟨_,g,rfl,n,rfl⟩ (λM hk=>?_) (jk (by lia))
   refine xA (S.grow hk) λst S'=>?_
   refine xA (Gu (s:={s with heap:=M}) S' e' (y.step st)) λbp pv=>?_
   rw [IU] at pv bp
   exact q _ C _ s.toks (st.trans bp).any pv
  cases a with
  |tup l'=>
   cases e1
   have k7:=va
   refine gq.el va.gi λad V n bU sf g y=>?_;obtain rfl:=bU.symm
   exact λQ au q=>call_tuple_same ⟨_,g,rfl,n,rfl⟩ (q _ C s.heap s.toks (.refl ..) (PV.gives S e' k7))
  |ref i=>
   have e2:listAt o i=some B:=e1
   unfold listAt at e2
   generalize e3:o.t.get i=ax at e2
   cases ax with
   |none=>exact aB e2
   |some E=>
    refine ay va ?_;clear va;intro ad p1 aE;subst aE
    have r:=S.ref p1 e3
    cases E with
    |list b r'=>
     cases e2
     refine eK r λV n g y z1 z2=>?_
     refine lst g (by rw [fD];simpa using y.reverse) (by rw [fD,ez];lia)
    |_=>exact aB e2
  |aD J l'=>
   cases J with
   |list b=>
    cases e1
    refine dO va λad V n bU bB=>eN bB λsf g z1 dA=>xA dA λz2 y=>?_;subst bU
    exact lst g y (by lia)
   |_=>exact aB e1
  |_=>exact aB e1
theorem SP(Zk:bZ Z ae)(S:St c w I F C o s.heap)(e:ae (answer Z (J_ a) o k))(va:VR c w F C s.heap a x):
  bc c w Y own C s (call (.type "int") [x]) (PV ae c w I F k):=by
 cases a with
 |int n=>
  have k7:=va
  refine bw va ?_;clear va;intro t aI;subst aI
  exact λQ au q=>call_int_int (q _ C s.heap s.toks (.refl ..) (PV.gives S e k7))
 |_=>exact(Zk.fail e).elim
theorem xZ(Zk:bZ Z ae)(S:St c w I F C o s.heap)(e:ae (k (.int n) o))
  (r:∀(Q:aw->aT->Prop) (au:aw->aT->Prop),Q (.int n (s.toks+1)) {s with toks:=s.toks+1+1}->bo (bK c w.w) Y (call (.builtin "len") [x]) Q au s):bc c w Y own C s (call (.builtin "len") [x]) (PV ae c w I F k):=λQ au q=>
 r Q au (q _ C s.heap _ (.refl ..) (PV.gives S e (by exact⟨_,rfl⟩)))
theorem M0(Zk:bZ Z ae)(e:ae (answer Z (FR b n) o k)):b=true/\ae (k (.int n) o):=by
 cases b with
 |false=>exact(Zk.fail e).elim
 |true=>exact⟨rfl,e⟩
theorem SQ(Zk:bZ Z ae)(T:Top c w K W I mg mb)(S:St c w I F C o s.heap)(e:ae (answer Z (Dp o a) o k))(va:VR c w F C s.heap a x):
  bc c w Y own C s (call (.builtin "len") [x]) (PV ae c w I F k):=by
 unfold Dp at e
 have yq:(2:ba)^63=9223372036854775808:=by decide
 generalize e1:itemsOf o a=ax at e
 cases ax with
 |some B=>
  refine xA (M0 Zk e) λJ e'=>?_
  have J:=j4 J
  obtain⟨ad,V,n,rfl,g,yl⟩:=Fw S e1 va
  have sz:=yl.length
  rw [hX] at sz
  rw [<-sz] at e'
  refine dC g ?_ ?_<;>clear g<;>intro g
  .exact xZ Zk S e' λQ au q=>PyProof.Rows.len_tuple (isTup g) (by rw [yq];lia) q
  .exact xZ Zk S e' λQ au q=>call_len_list (iJ g) (by rw [yq];lia) q
 |none=>
  dsimp only at e
  cases a with
  |ref i=>
   dsimp only at e
   generalize e2:dictAt o i=ax at e
   cases ax with
   |none=>exact(Zk.fail e).elim
   |some R=>
    obtain⟨ad,p1,rfl,⟨E,l4⟩,_⟩:=uA S e2 va
    have e':ae (k (.int R.length) o):=e
    have ns:=tL T S p1
    rcases E with⟨aR,d,u,_⟩|⟨aR,d,u⟩
    .rw [u.length] at e' l4
     exact xZ Zk S e' λQ au q=>Kj ns d (by rw [yq];lia) q
    .rw [u.length] at e' l4
     exact xZ Zk S e' λQ au q=>Kj ns d (by rw [yq];lia) q
  |aD J B=>
   cases J with
   |dict ks=>
    refine xA (M0 Zk e) λJ e'=>?_
    have J:=j4 J
    refine eK va λad V aE _ ns bB=>cf bB λd el y=>?_;obtain rfl:=aE.symm
    have sz:=y.length
    have zl:(ks.zip V).length=ks.length:=by rw [Ct,sz,<-el,wG]
    rw [<-zl] at e' J
    exact xZ Zk S e' λQ au q=>Kj ns d (by rw [yq];lia) q
   |_=>exact(Zk.fail e).elim
  |_=>exact(Zk.fail e).elim
end
section
variable{ag:Type}{Z:cU ag}{ae:ag->Prop}{c:a_}{w:WB}{Y:bG}{own F C:G aA}{s:aT}{I h M:aP}{o:MH}{K:b8}{W:bQ}{mg mb:ar->aa aw}
theorem KU(f n:H):digits (f+1) n=match dB n 10 with|true=>[48+n]|false=>app (digits f (rR n 10)) [48+uf n 10]:=rfl
theorem KS:∀d,d<10->(Nat.digitChar d).toNat=48+d:=by decide
theorem digits_eq(f:H):∀n:H,n<10^f->0<f->digits f n=(CM 10 n).map Char.toNat:=by
 induction f with
 |zero=>exact λ_ _ h=>bP h (zm _)
 |succ f O=>
  intro n h _
  rw [KU]
  cases q:dB n 10 with
  |true=>
   have q:=dw q
   rw [Rx q,QV,KS n q]
  |false=>
   have q:10<=n:=g7.mp λz=>mQ (q.symm.trans (Ju z))
   have hm:n%10<10:=Nat.mod_lt _ (by decide)
   have f0:0<f:=Nat.pos_of_ne_zero λz=>by rw [z] at h;exact bP h (g7.mpr q)
   have t:CM 10 (n / 10)++CM 10 (n%10)=CM 10 (10*(n / 10)+n%10):=Nat.toDigits_append_toDigits (by decide) (Nat.div_pos q (by decide)) hm
   rw [uc] at t
   rw [<-t,rN,Rx hm,QV,KS _ hm,<-O (n / 10) (Nat.div_lt_of_lt_mul (Rk _ _▸h:n<10*10^f)) f0]
   exact gM _ _
theorem Uh(h:n<10000000000):(⟨⟨digits 11 n⟩⟩:ar)=rX (toString ((n:H):ba)):=by
 refine HP ?_
 have EG:(10:H)^11=100000000000:=by decide
 rw [PySem.W.KIN.signs_num,digits_eq 11 n (Nat.lt_trans h (EG▸by decide)) (by decide)]
theorem Ug(n f:H):∀J∈digits f n,J<0x110000:=by
 induction f generalizing n with
 |zero=>intro J hc;cases hc
 |succ f O=>
  rw [KU]
  intro J hc
  generalize q:dB n 10=ax at hc
  cases ax with
  |true=>
   have:=dw q
   rw [cA.mp hc];exact nY (Js this 48) (by decide)
  |false=>
   dsimp only at hc
   rw [gM] at hc
   refine dC (dI.mp hc) (λhc=>?_) λhc=>?_
   .exact O _ J hc
   .rw [cA.mp hc]
    exact nY (Js (Nat.mod_lt n (by decide:0<10)) 48) (by decide)
theorem SY(Zk:bZ Z ae)(S:St c w I F C o s.heap)(e:ae (answer Z (Dt a) o k))(va:VR c w F C s.heap a x):
  bc c w Y own C s (call (.type "str") [x]) (PV ae c w I F k):=by
 cases a with
 |int i=>
  refine bw va ?_;clear va;intro t aI;subst aI
  cases i with
  |ofNat n=>
   dsimp only [Dt] at e
   generalize J:dB n 10000000000=ax at e
   cases ax with
   |false=>exact(Zk.fail e).elim
   |true=>
    have hn:n<10000000000:=dw J
    have e':ae (k (.str ⟨⟨digits 11 n⟩⟩) o):=e
    refine λQ au q=>PySem.P.str_of_int ?_ ?_
    .refine(?_:n.log2<1920)
     by_cases z:n=0
     .rw [z];decide
     .refine(Nat.log2_lt z).mpr (nY hn ?_)
      calc 10000000000<=2^40:=by decide
       _<=2^1920:=Nat.pow_le_pow_right (by decide) (by decide)
    .refine q _ C s.heap _ (.refl ..) (PV.gives S e' ?_)
     refine⟨⟨s.toks,?_⟩,(HM _).mpr (Ug n 11)⟩
     rw [Uh hn]
     rfl
  |negSucc n=>exact(Zk.fail e).elim
 |_=>exact(Zk.fail e).elim
theorem XY(e:intsOf (a::B)=some is):∃i r,a=.int i/\intsOf B=some r/\i::r=is:=by
 cases a with
 |int i=>
  have e:(match intsOf B with|some r=>some (i::r)|.none=>.none)=some is:=e
  generalize e1:intsOf B=ax at e
  cases ax with
  |none=>exact aB e
  |some r=>exact⟨i,r,rfl,rfl,aM e⟩
 |_=>exact aB e
theorem XZ:∀{V:G aw} {is:G ba},intsOf B=some is->aW c w F C h B V->∃xs:G (ba×Tok),V=xs.map (λp=>Value.int p.1 p.2)/\xs.map (·.1)=is:=by
 induction B with
 |nil=>exact λe y=>⟨[],y.dW,aM e⟩
 |cons a B O=>
  intro V is e y
  refine eO (XY e) λi r aE e' fV=>?_;subst aE;subst fV
  obtain⟨v,gj,rfl,⟨t,rfl⟩,y2⟩:=y.cj
  refine ay (O e' y2) λxs aI h2=>?_;rw [aI]
  exact⟨(i,t)::xs,rfl,cq _ h2⟩
theorem Mw(S:St c w I F C o s.heap)(e1:eV o a=some p)(e2:intsOf (rv p.2)=some is)(va:VR c w F C s.heap a x):
  ∃ad xs,x=.ref ad/\s.heap.IsList ad (intItems xs)/\xs.toList.map (·.1)=is:=by
 refine LstAt.el (nF S e1 va) λad V n bU g y B l4=>?_;subst bU
 rw [fD] at e2
 have y':=y.reverse
 rw [mU] at y'
 refine ay (XZ e2 y') λxs h1 h2=>?_
 refine⟨ad,xs.toArray,rfl,?_,by simpa using h2⟩
 have:V=intItems xs.toArray:=by
  apply Array.ext'
  rw [h1]
  simp [intItems]
 rw [<-this]
 exact⟨_,g,rfl,n,rfl⟩
noncomputable def pZ:G ba->ba->ba:=λB=>@b9 ba (λ_=>ba->ba) (λm=>m) (λx _ O m=>O (match ltZ m x with|true=>x|false=>m)) B
theorem ZQ:∀(B:G ba) (m:ba),(pZ B m=m\/pZ B m∈B)/\m<=pZ B m/\∀a∈B,a<=pZ B m:=by
 intro gr
 induction gr with
 |nil=>
  intro m
  exact⟨.inl rfl,I9 _,λa h=>(nomatch h)⟩
 |cons x B O=>
  intro m
  have st:pZ (x::B) m=pZ B (match ltZ m x with|true=>x|false=>m):=rfl
  rw [st]
  cases q:ltZ m x with
  |true=>
   have:=(j5 m x).mp q
   refine cf (O x) λh1 h2 h3=>?_
   dsimp only
   refine⟨.inr ?_,wq (rI this) h2,λa ha=>?_⟩
   .refine dC h1 ?_ ?_<;>clear h1<;>intro h1
    .rw [h1];exact .head _
    .exact .tail _ h1
   .refine dC (bY.mp ha) (λrf=>?_) λha=>?_
    .rw [rf];exact h2
    .exact h3 a ha
  |false=>
   have hx:¬m<x:=λz=>by rw [(j5 m x).mpr z] at q;exact Ie q
   refine cf (O m) λh1 h2 h3=>?_
   dsimp only
   refine⟨h1.imp id (.tail _),h2,λa ha=>?_⟩
   exact(bY.mp ha).elim (λz=>z▸wq (Int.not_lt.mp hx) h2) (h3 a)
theorem getD_mem'{B:G ba}(h:i<B.length):B.getD i 0∈B:=by
 have e:B.getD i 0=B[i]:=by simp [h]
 rw [e]
 exact zf h
theorem SN{xs:dS (ba×Tok)}(hx:xs.toList.map (·.1)=i::is):0<xs.size/\td xs (argBest (λi j=>decide (td xs i>td xs j)) (xs.size-1))=pZ is i:=by
 have len:xs.size=is.length+1:=by
  have:=cq zg hx
  rwa [cZ,hX] at this
 refine xA (argBest_gt (td xs) (xs.size-1)) λh1 h2=>?_
 have hs:xs.size-1=is.length:=by rw [len];rfl
 refine cf (ZQ is i) λm1 m2 m3=>?_
 have mem:pZ is i∈i::is:=m1.elim (λh=>bY.mpr (.inl h)) (.tail _)
 refine⟨len▸ug _,Int.le_antisymm ?_ ?_⟩
 .have b1:td xs (argBest (λi j=>decide (td xs i>td xs j)) (xs.size-1))∈i::is:=by
   rw [numAt_eq,hx]
   exact getD_mem' (rT (hs▸h1))
  exact(bY.mp b1).elim (λh=>wq (I8 h) m2) (m3 _)
 .rw [<-hx] at mem
  obtain⟨j,hj,ej⟩:=iE mem
  rw [cZ,hX] at hj
  have:=h2 j (Nat.le_sub_one_of_lt hj)
  rw [numAt_eq,Cr,cV (by rw [cZ,hX];exact hj)] at this
  exact ej▸this
theorem SS(hh:Y.handled=none)(Zk:bZ Z ae)(S:St c w I F C o s.heap)(e:ae (answer Z (Dr o a) o k))(va:VR c w F C s.heap a x):
  bc c w Y own C s (call (.builtin "max") [x]) (PV ae c w I F k):=by
 unfold Dr at e
 generalize e1:eV o a=ax at e
 cases ax with
 |none=>exact(Zk.fail e).elim
 |some p=>
  dsimp only at e
  generalize e2:intsOf (rv p.2)=ax at e
  cases ax with
  |none=>exact(Zk.fail e).elim
  |some is=>
   dsimp only at e
   refine eO (Mw S e1 e2 va) λad xs aE g hx=>?_;subst aE
   cases is with
   |nil=>exact(Zk.fail e).elim
   |cons i is=>
    have e':ae (k (.int (pZ is i)) o):=e
    refine xA (SN hx) λlD hm=>?_
    refine λQ au q=>max_intList hh g lD λv M tk hv hk=>?_
    refine bw (intItems_at hv) λt aI=>?_;rw [aI]
    rw [hm]
    refine xA (S.grow hk) λst S'=>?_
    exact q _ C M tk st.any (PV.gives S' e' (by exact⟨t,rfl⟩))
theorem aej(B:G ba):∀m:ba,(@b9 ba (λ_=>ba->ba) (λm=>m) (λx _ O m=>O (m+x)) B:ba->ba) m=m+B.sum:=by
 induction B with
 |nil=>exact λm=>(Int.add_zero m).symm
 |cons x B O=>exact λm=>(O (m+x)).trans (by rw [List.sum_cons,Int.add_assoc])
theorem S0(hh:Y.handled=none)(Zk:bZ Z ae)(S:St c w I F C o s.heap)(e:ae (answer Z (Du o a) o k))(va:VR c w F C s.heap a x):
  bc c w Y own C s (call (.builtin "sum") [x]) (PV ae c w I F k):=by
 unfold Du at e
 generalize e1:eV o a=ax at e
 cases ax with
 |none=>exact(Zk.fail e).elim
 |some p=>
  dsimp only at e
  generalize e2:intsOf (rv p.2)=ax at e
  cases ax with
  |none=>exact(Zk.fail e).elim
  |some is=>
   refine eO (Mw S e1 e2 va) λad xs aE g hx=>?_;subst aE
   have e':ae (k (.int (HS is)) o):=e
   refine λQ au q=>sum_intListG hh g λM tk t' hk=>?_
   refine xA (S.grow hk) λst S'=>?_
   refine q _ C M tk st.any (PV.gives S' e' ?_)
   refine⟨t',?_⟩
   have:preSum (td xs) xs.size=HS is:=by
    rw [preSum_eq,Q6 (by simp),hx]
    refine(?_:_=(@b9 ba (λ_=>ba->ba) (λm=>m) (λx _ O m=>O (m+x)) is:ba->ba) 0)
    rw [aej,Qx]
   rw [this]
theorem SU(hh:Y.handled=none)(Zk:bZ Z ae)(S:St c w I F C o s.heap)(e:ae (answer Z (Ka f a b) o k))(va:VR c w F C s.heap a x)(vb:VR c w F C s.heap b y):
  bc c w Y own C s (call f.value [x,y]) (PV ae c w I F k):=by
 cases f with
 |min=>
  cases a with
  |int i=>
   cases b with
   |int j=>
    refine bw va ?_;clear va;intro t aI;subst aI
    refine bw vb ?_;clear vb;intro u aI;subst aI
    refine λQ au q=>min_two_ints hh λM tk hk=>?_
    refine xA (S.grow hk) λst S'=>?_
    have e':ae (k (.int (match ltZ j i with|true=>j|false=>i)) o):=e
    generalize J:ltZ j i=ax at e'
    cases ax with
    |true=>
     have:=(j5 j i).mp J
     rw [bT this]
     exact q _ C M tk st.any (PV.gives S' e' (by exact⟨u,rfl⟩))
    |false=>
     have:¬j<i:=λz=>by rw [(j5 j i).mpr z] at J;exact Ie J
     rw [bl this]
     exact q _ C M tk st.any (PV.gives S' e' (by exact⟨t,rfl⟩))
   |_=>exact(Zk.fail e).elim
  |_=>exact(Zk.fail e).elim
 |_=>exact(Zk.fail e).elim
end
section
variable{ag:Type}{Z:cU ag}{ae:ag->Prop}{c:a_}{w:WB}{Y:bG}{own F C:G aA}{s:aT}{I h M:aP}{o:MH}{K:b8}{W:bQ}{mg mb:ar->aa aw}
noncomputable def DR(c:a_)(w:WB)(F C:G aA)(hv h:aP)(a:aA)(R:G (D×D)):Prop:=
 (∃aR,h.DictOf (gC c w.w) a aR/\Under (VR c w F C hv) D.str R aR/\∀p∈aR,g8 p.1=true)\/(∃aR,h.DictOf (lE c w.w) a aR/\Under (VR c w F C hv) D.int R aR)
theorem DR.str(E:DR c w F C hv h a R)(e:keysOk R (.str x)=true):
  ∃aR,h.DictOf (gC c w.w) a aR/\Under (VR c w F C hv) D.str R aR/\(∀p∈aR,g8 p.1=true):=by
 obtain⟨aR,d,u,q⟩|⟨aR,d,u⟩:=E
 .exact⟨aR,d,u,q⟩
 .cases u with
  |nil=>exact⟨[],sh d,.nil,λ_ h=>(nomatch h)⟩
  |cons a b=>exact bP (xV _ _ _ e).1 (λh=>nomatch (h:false=true))
theorem DR.int(E:DR c w F C hv h a R)(e:keysOk R (.int x)=true):
  ∃aR,h.DictOf (lE c w.w) a aR/\Under (VR c w F C hv) D.int R aR:=by
 obtain⟨aR,d,u,q⟩|⟨aR,d,u⟩:=E
 .cases u with
  |nil=>exact⟨[],sh d,.nil⟩
  |cons a b=>exact bP (xV _ _ _ e).1 (λh=>nomatch (h:false=true))
 .exact⟨aR,d,u⟩
theorem DR.or(E:DR c w F C hv h a R)(st:bh [] C hv (C++[a]) h)(B:R.length<=4096):OR c w F (C++[a]) h a (.dict R):=by
 refine⟨?_,B⟩
 obtain⟨aR,d,u,q⟩|⟨aR,d,u⟩:=E
 .exact .inl ⟨aR,d,u.imp λm v=>VR.step st,q⟩
 .exact .inr ⟨aR,d,u.imp λm v=>VR.step st⟩
theorem DR.at(E:DR c w F C hv h a R)(e:∀E,h.get? a=some E->M.get? a=some E):DR c w F C hv M a R:=by
 obtain⟨aR,d,u,q⟩|⟨aR,d,u⟩:=E
 .exact .inl ⟨aR,sg d e,u,q⟩
 .exact .inr ⟨aR,sg d e,u⟩
theorem DR.new:DR c w F C hv (h.push {cls:=.type "dict",data:=.dict #[]}) h.objs.size []:=.inl ⟨[],Cm h,.nil,λp q=>nomatch q⟩
theorem DR.set(s:aT)(E:DR c w F C hv s.heap a R)(e:dput R k m=some dD)(B:R.length<=4096)(vk:VR c w F C hv k kv)(vm:VR c w F C hv m v)
  (q:∀M,DR c w F C hv M a dD->iC a s.heap M->Q () {s with heap:=M,toks:=s.toks+1}):bo (bK c w.w) Y (dictSet a kv v) Q au s:=by
 refine xA (z9 e) λk1 aI=>?_;subst aI
 have kk:=u_ _ _ k1
 cases k with
 |str n=>
  obtain⟨⟨t,rfl⟩,so⟩:=vk
  refine fM (E.str k1) λaR d1 u sk=>?_
  refine afx (knd:=gC c w.w) (k:=n) (by simp [gC,mY]) d1 (λM hd hs=>q M (.inl ⟨_,hd,yO oJ vm u (sj d1),λp hp=>?_⟩) hs) (jk (by rw [<-u.length];exact B))
  rcases HL _ _ _ p hp with q|⟨q,hq,e⟩
  .exact q▸so
  .exact e▸sk q hq
 |int n=>
  refine bw vk ?_;clear vk;intro t aI;subst aI
  refine ay (E.int k1) λaR d1 u=>?_
  exact afx (knd:=lE c w.w) (k:=n) (by simp [lE,zB]) d1 (λM hd hs=>q M (.inr ⟨_,hd,yO sV vm u (sj d1)⟩) hs) (jk (by rw [<-u.length];exact B))
 |_=>exact bz kk
theorem z8(e:dput R k m=some dD):R.length<=dD.length/\dD.length<=R.length+1:=by
 refine xA (z9 e) λkk aI=>?_;subst aI
 refine⟨?_,Up k m R⟩
 clear e kk
 induction R with
 |nil=>exact gA _
 |cons p R O=>
  rw [D6]
  split
  .exact fG _
  .exact n4 O
theorem abq(a:D)(B:G D)(R:G (D×D)):nK (a::B) R=match a with
  |.tup q=>match q with
   |[k,v]=>match dput R k v with
    |some R=>nK B R
    |.none=>.none
   |_=>.none
  |_=>.none:=rfl
theorem N8(e:nK (a::B) R=some dD):∃k v jV,a=.tup [k,v]/\dput R k v=some jV/\nK B jV=some dD:=by
 rw [abq] at e
 cases a with
 |tup q=>
  match q,e with
  |[],e=>exact aB e
  |[_],e=>exact aB e
  |[k,v],e=>
   dsimp only at e
   generalize e1:dput R k v=ax at e
   cases ax with
   |none=>exact aB e
   |some jV=>exact⟨k,v,jV,rfl,e1,e⟩
  |_::_::_::_,e=>exact aB e
 |_=>exact aB e
theorem abr:∀{B:G D} {R dD:G (D×D)},nK B R=some dD->R.length<=dD.length:=by
 intro gr
 induction gr with
 |nil=>
  intro R dD e
  cases e;exact fG _
 |cons a B O=>
  intro R dD e
  refine dO (N8 e) λk v jV _ bB=>xA bB λe1 e2=>?_
  exact dQ (z8 e1).1 (O e2)
theorem Pp:entryFor table "dict.update.loop" =some nT.«dict.update.loop»:=entryFor_of_tree (by kernel_rfl)
theorem Pr(args:Args):(IZ "dict.update.loop" args).quiet=true:=Code.quiet_builtin _ (by decide+kernel)
theorem qQ(hd:h.get? d=none)(e:h.get? b=some E):b≠d:=λq=>by rw [q,hd] at e;exact aB e
theorem afa{d it ad:aA}(EO:d≠it)(hd:hv.get? d=none)(hi:hv.get? it=none)(g:hv.get? ad=some (fT V n))(l4:dD.length<=4096)
  (r:∀M tk,(∀b E,hv.get? b=some E->M.get? b=some E)->DR c w F C hv M d dD->R' (.ok (.ret .none)) {s with heap:=M,toks:=tk}):∀(B:G D) (j:H) (R:G (D×D)) (h:aP) (tk:H) (Y:bG) (i:ba),Y.handled=none->
  nK B R=some dD->aW c w F C hv B (V.toList.drop j)->(∀b E,hv.get? b=some E->h.get? b=some E)->h.IsListIter it ad j->DR c w F C hv h d R->
  lB (bK c w.w) Y (.builtin "dict.update.loop" ⟨[.ref d,.ref it,.int i 0,.none],[]⟩) R' {s with heap:=h,toks:=tk}:=by
 intro gr
 induction gr with
 |nil=>
  intro j R h tk Y i hh e y hk eZ dr
  cases e
  have hx:V[j]?=none:=by
   have:=y.length
   rw [rL,hX] at this
   exact IS (by simp only [rM] at this;lia)
  refine codeAny_builtin Pp ?_
  unfold nT.«dict.update.loop»
  refine aO (PU (s:={s with heap:=h,toks:=tk}) hh eZ ⟨_,hk _ _ g,rfl,n,rfl⟩ hx λM hs=>?_)
  dsimp only
  unfold Builtin.Dict.addKeywords
  refine aO (bX (bX ?_))
  exact r M tk (λb E e=>hs b E (qQ hi e) (hk b E e)) (dr.at λE e=>hs d E EO e)
 |cons a B O=>
  intro j R h tk Y i hh e y hk eZ dr
  refine dO (N8 e) λk m jV bU bB=>xA bB λe1 e2=>?_;subst bU
  refine dR.el y.cj λv gj ev y1 y2=>?_
  have hx:V[j]?=some v:=by
   have:(V.toList.drop j)[0]?=some v:=by rw [ev];rfl
   rw [Cs,CG] at this
   simpa using this
  have uP:V.toList.drop (j+1)=gj:=by
   have:(V.toList.drop j).drop 1=gj:=by rw [ev];rfl
   rwa [QD] at this
  refine gq.el y1.gi λt ws u bU sf gt yt=>?_;subst bU
  replace yt:=yt.cj;obtain⟨kv,ahf,ew,yk,yt⟩:=yt
  replace yt:=yt.cj;obtain⟨mv,ahg,rfl,ym,yt⟩:=yt
  rw [yt.dW] at ew
  refine codeAny_builtin Pp ?_
  unfold nT.«dict.update.loop»
  refine aO (PX (s:={s with heap:=h,toks:=tk}) eZ ⟨_,hk _ _ g,rfl,n,rfl⟩ hx λh1 W5 AF=>?_)
  dsimp only
  have my:∀b E,hv.get? b=some E->h1.get? b=some E:=λb E e=>(AF.2 b (qQ hi e)).trans (hk b E e)
  have xi:DR c w F C hv h1 d R:=dr.at λE e=>(AF.2 d EO).trans e
  refine aO (iP (aO (wpAny_tryCatch ?_)))
  unfold Builtin.Dict.pairItems
  refine aO (wpAny_typeOf (T:="tuple") ⟨_,my _ _ gt,rfl⟩ ?_)
  refine aO (m:=tD (.ref t)) ?_
  unfold tD
  refine aO (wpAny_load (my _ _ gt) (bX (bX ?_)))
  dsimp only [Option.getD]
  rw [ew]
  dsimp only
  refine iP (DR.set (s:={s with heap:=h1,toks:=tk}) xi e1 (dQ (dQ (z8 e1).1 (abr e2)) l4) yk ym λh2 xj oE=>?_)
  refine bX ⟨Pr _,?_⟩
  exact O (j+1) jV h2 (tk+1) _ _ hh e2 (by rw [uP];exact y2) (λb E e=>(oE.2 b (qQ hd e)).trans (my b E e)) (W5.at λE e=>(oE.2 it EO.symm).trans e) xj
end
section
variable{ag:Type}{Z:cU ag}{ae:ag->Prop}{c:a_}{w:WB}{Y:bG}{own F C:G aA}{s:aT}{I h M:aP}{o:MH}{K:b8}{W:bQ}{mg mb:ar->aa aw}
noncomputable def Dc:aw->aA
 |.ref b=>b
 |_=>0
theorem YX:typeLookup (.type "list") "keys" =pure none:=am_miss_of_fast (by decide+kernel)
theorem Yu:(["__module__","__name__","__qualname__","__doc__","__annotations__"]:G ar).contains "keys" =false:=by decide+kernel
theorem aaD(hx:s.heap.get? a=some (fT xs k))(hA:Y.handled=none)
  (h:∀M tk,(∀b E,s.heap.get? b=some E->M.get? b=some E)->Q none {s with heap:=M,toks:=tk}):bo (bK c w.w) Y (getAttr? (.ref a) "keys") Q au s:=by
 obtain⟨hp,g,d,tk,os⟩:=s
 have hT:∀mN,(⟨hp,g,d,mN,os⟩:aT).TypeIs (.ref a) "list" :=λ_=>⟨_,hx,rfl⟩
 have f1:=sub_AttributeError
 have f3:=JK.lookup
 have f4:=JK.bind (.ref a)
 have f5:=am_list_getattr_none
 unfold getAttr? getAttrBy?
 refine aO (wpAny_mkText (aO (PR ?_)))
 have key:bo (bK c w.w) Y (getAttrBy (.ref a) (.str "keys" tk) false) (λ_ _=>dP) (λe s'=>∃M mN,Heap.NewAttrErr hp M (Dc e) (.ref a) "keys" /\e=.ref (Dc e)/\s'=⟨M,g,d,mN,os⟩) ⟨hp,g,d,tk+1,os⟩:=by
  unfold getAttrBy
  repeat (any_goals (first|assumption|exact hT _|((with_reducible show bo _ _ (call (Value.builtin "list.__getattribute__") _ _) _ _ _);refine w8 JK (hT _) am_entry_list_getattribute (PySem.F.args_list_getattribute_2 _ _) (meets_getattribute_miss_list a xs k #[] "keys" _ YX Yu (by size_fits)) ⟨hx,hA,λM mN e E6=>?_⟩)|wp_step))
  refine gJ E6.there λt' u' he=>?_
  refine(?_:bo _ _ (We _ _ _ _ _ _ _) _ _ _)
  unfold We
  repeat (any_goals (first|assumption|wp_step))
  exact⟨M,mN,E6,rfl,rfl⟩
 refine qq key (λ_ _ q=>q.elim) λe s' q=>?_
 refine eO q ?_;clear q;intro M mN q1 q2 fV;subst fV
 rw [q2]
 refine gJ q1.there λt' u' he=>?_
 have Wq:(⟨M,g,d,mN,os⟩:aT).TypeIs (.ref (Dc e)) "AttributeError" :=⟨_,he,rfl⟩
 dsimp only
 refine aO (wpAny_isInstance Wq f1 ?_)
 exact bX (h M mN q1.keeps)
theorem KQ(hh:Y.handled=none)(Zk:bZ Z ae)(S:St c w I F C o s.heap){ad:aA}(e1:nK B []=some R)(e:ae (iV Z o (.dict R) k))(g:s.heap.get? ad=some (fT V n))(y:aW c w F C s.heap B V.toList):
  bc c w Y own C s (call (.type "dict") [.ref ad]) (PV ae c w I F k):=by
 have J:iB (.dict R)=true:=by
  have e':ae (@bN (λ_=>ag) Z.fail (k (.ref o.n) ⟨o.t.ins o.n (.dict R),cX o.n⟩) (iB (.dict R)&&cK ((o.t.ins o.n (.dict R)).get o.n))):=e
  exact(aN.mp (iU (x:=Z.fail) Zk e').1).1
 have l4:=j4 J
 intro Q au q
 refine callType_codes (Q₁:=λobj fX=>obj=.ref s.heap.objs.size/\fX={s with heap:=s.heap.push {cls:=.type "dict",data:=.dict #[]}}) PySem.F.kt_called_dict (PySem.F.kt_typeCall_dict_1 _) PySem.F.entry_dict_init (kt_code_dict_new _ ⟨rfl,rfl⟩) ?_
 rintro obj fX ⟨rfl,rfl⟩
 have AA:(s.heap.push {cls:=.type "dict",data:=.dict #[]}).DictOf (gC c w.w) s.heap.objs.size []:=Cm s.heap
 have g1:(s.heap.push {cls:=.type "dict",data:=.dict #[]}).get? ad=some (fT V n):=fK _ _ _ _ g
 refine⟨AA.typeIs,PySem.F.args_dict_init_2 _ _,?_⟩
 unfold nT.«dict.__init__»
 refine aO ?_
 unfold Builtin.Dict.selfAndRest
 refine aO (wpAny_notOrdered_dict AA.typeIs ?_)
 refine(?_:bo _ _ (pure (s.heap.objs.size,[og ad])) _ _ _)
 refine bX ?_
 refine(?_:bo _ _ (Qg "dict.__init__" s.heap.objs.size (.ref ad) [] .none) _ _ _)
 unfold Qg
 refine aO (wpAny_typeOf (T:="list") ⟨_,g1,rfl⟩ ?_)
 rw [bT (by decide)]
 refine aO ?_
 refine aaD (s:={s with heap:=s.heap.push {cls:=.type "dict",data:=.dict #[]}}) g1 hh λh1 aZ my=>?_
 show bo _ _ (do rule _;let __do_lift <-oQ (og ad);again _) _ _ _
 refine aO (yT (aO (B_ (s:={s with heap:=h1,toks:=aZ}) ⟨_,my _ _ g1,rfl,n,rfl⟩ ?_)))
 have W6:∀b E,s.heap.get? b=some E->(h1.push {cls:=.type "list_iterator",data:=.fields #[.ref ad,.int 0 0]}).get? b=some E:=λb E e=>fK _ _ _ _ (my _ _ (fK _ _ _ _ e))
 have WG:(s.heap.push {cls:=.type "dict",data:=.dict #[]}).get? s.heap.objs.size=some {cls:=.type "dict",data:=.dict #[]}:=hZ _ rfl
 have d1:=my _ _ WG
 refine bX ⟨Pr _,?_⟩
 refine afa (F:=F) (C:=C) (hv:=s.heap) (d:=s.heap.objs.size) (dD:=R) (λq=>?_) (hV _) ?_ g l4 (λM mN lC Un=>?_) B 0 [] _ _ _ _ hh e1 y W6 ⟨_,hZ _ rfl,rfl,rfl⟩ (DR.at .new λE e=>fK _ _ _ _ (my _ _ e))
 .have:=wm d1
  rw [q] at this
  exact zm _ this
 .cases z:s.heap.get? h1.objs.size with
  |none=>rfl
  |some E=>
   have:=my _ _ (fK _ {cls:=.type "dict",data:=.dict #[]} _ _ z)
   rw [hV] at this;exact aB this
 .refine xA (p_ (M:=M) Zk S e (hV _) lC λJ st=>Un.or st l4) λst pv=>?_
  exact⟨rfl,q _ _ M mN st.any pv⟩
theorem SO(hh:Y.handled=none)(Zk:bZ Z ae)(T:Top c w K W I mg mb)(S:St c w I F C o s.heap)(e:ae (answer Z (Dn o a) o k))(va:VR c w F C s.heap a x):
  bc c w Y own C s (call (.type "dict") [x]) (PV ae c w I F k):=by
 unfold Dn at e
 cases a with
 |ref i=>
  dsimp only at e
  generalize e1:o.t.get i=ax at e
  cases ax with
  |none=>exact(Zk.fail e).elim
  |some E=>
   refine ay va ?_;clear va;intro ad p1 aE;subst aE
   have r:=S.ref p1 e1
   cases E with
   |dict R=>
    have e':ae (iV Z o (.dict R) k):=e
    have ns:=tL T S p1
    refine xA r ?_;clear r;intro r l4
    intro Q au q
    have go:∀M,iC s.heap.objs.size (s.heap.push {cls:=.type "dict",data:=.dict #[]}) M->DR c w F C s.heap M s.heap.objs.size R->Q (.ref s.heap.objs.size) {s with heap:=M}:=λM hs dr=>by
     have hk:∀b E,s.heap.get? b=some E->M.get? b=some E:=λb E e=>(hs.2 b (qQ (hV _) e)).trans (fK _ _ _ _ e)
     refine xA (p_ (M:=M) Zk S e' (hV _) hk λJ st=>dr.or st l4) λst pv=>?_
     exact q _ _ M s.toks st.any pv
    rcases r with⟨aR,d,u,sk⟩|⟨aR,d,u⟩
    .exact kt_call_dict ns d (jk (by rw [<-u.length];exact l4)) λM hd hs=>go M hs (.inl ⟨aR,hd,u,sk⟩)
    .exact kt_call_dict ns d (jk (by rw [<-u.length];exact l4)) λM hd hs=>go M hs (.inr ⟨aR,hd,u⟩)
   |list b r'=>
    dsimp only at e
    generalize e2:nK (rv r') []=ax at e
    cases ax with
    |none=>exact(Zk.fail e).elim
    |some R=>
     refine eO r λV n g y _=>?_
     rw [fD] at e2
     exact KQ hh Zk S e2 e g (by simpa using y.reverse)
   |_=>exact(Zk.fail e).elim
 |aD J B=>
  cases J with
  |list b=>
   dsimp only at e
   generalize e2:nK B []=ax at e
   cases ax with
   |none=>exact(Zk.fail e).elim
   |some R=>
    refine dO va λad V n bU bB=>eN bB λ_ g _ dA=>xA dA λ_ y=>?_;subst bU
    exact KQ hh Zk S e2 e g y
  |_=>exact(Zk.fail e).elim
 |_=>exact(Zk.fail e).elim
end
section
variable{ag:Type}{Z:cU ag}{ae:ag->Prop}{c:a_}{w:WB}{Y:bG}{own F F' C ao:G aA}{s:aT}{I h M:aP}{o:MH}{K:b8}{W:bQ}{mg mb:ar->aa aw}
structure jx(I h M:aP)(C new:G aA):Prop where
 keep:∀b E,h.get? b=some E->M.get? b=some E
 new:∀b∈new,h.get? b=none/\(∃E,M.get? b=some E)
theorem St.lO(S:St c w I F C o h)(hn:h.get? a=none):a∉C/\a∉F/\I.get? a=none:=by
 refine⟨λq=>?_,λq=>?_,?_⟩
 .obtain⟨i,hi,e⟩:=iE q
  refine ay (S.at_ i a (by rw [cV hi,e])) λx _ r=>?_
  refine bw r.some λy hy=>?_
  rw [hn] at hy;exact aB hy
 .obtain⟨⟨E,ho⟩,_⟩:=S.cI _ q
  rw [hn] at ho;exact aB ho
 .cases e:I.get? a with
  |none=>rfl
  |some E=>rw [(S.keep a E e).1] at hn;exact ql hn
theorem pH(f:jx I h M C new):∀a E,h.get? a=some E->cM F C a->M.get? a=some E/\cM (new++F) C a:=λa E e x=>by
 refine⟨f.keep a E e,λq=>?_,x.2⟩
 rcases dI.mp q with q|q
 .rw [(f.new a q).1] at e;exact aB e
 .exact x.1 q
theorem VR.enter(f:jx I h M C new)(x:VR c w F C h m v):VR c w (new++F) C M m v:=x.mono (pH f) (.inr λ_ _ e=>e)
theorem aW.enter(f:jx I h M C new)(x:aW c w F C h m v):aW c w (new++F) C M m v:=x.mono (pH f) (.inr λ_ _ e=>e)
theorem St.enter(S:St c w I F C o h)(f:jx I h M C new):St c w I (new++F) C o M:=by
 refine⟨λb x e=>⟨f.keep _ _ (S.keep b x e).1,(S.keep b x e).2⟩,S.len,S.apart,λb hb=>?_,λj b e=>?_⟩
 .rcases dI.mp hb with hb|hb
  .refine cf (S.lO (f.new b hb).1) λn1 n2 n3=>?_
   exact⟨(f.new b hb).2,n1,n3⟩
  .obtain⟨⟨x,hx⟩,n⟩:=S.cI b hb
   exact⟨⟨x,f.keep b x hx⟩,n⟩
 .refine ay (S.at_ j b e) λx hx r=>?_
  refine bw r.some λy hy=>?_
  exact⟨x,hx,tj (pH f) (λ_ _ e=>e) ((f.keep b y hy).trans hy.symm) r⟩
theorem FQ:∀a E,h.get? a=some E->cM (new++F) C a->h.get? a=some E/\cM F C a:=λa E e x=>⟨e,λq=>x.1 (fC _ q),x.2⟩
theorem VR.leave(x:VR c w (new++F) C h m v):VR c w F C h m v:=x.mono FQ (.inr λ_ _ e=>e)
theorem aW.leave(x:aW c w (new++F) C h m v):aW c w F C h m v:=x.mono FQ (.inr λ_ _ e=>e)
theorem St.leave(S:St c w I (new++F) C o h):St c w I F C o h:=by
 refine⟨S.keep,S.len,S.apart,λb hb=>S.cI b (fC _ hb),λj b e=>?_⟩
 refine ay (S.at_ j b e) λx hx r=>?_
 exact⟨x,hx,tj FQ (λ_ _ e=>e) rfl r⟩
theorem bc.agl(hn:∀b∈new,s.heap.get? b=none)(x:bc c w Y new C s t P):bc c w Y own C s t P:=λQ au k=>
 x Q au λa ao M tk st p=>k a ao M tk (st.more λb q=>.inr (hn b q)) p
theorem St.turn(S:St c w I F C o h){a:aA}(ha:a∈F)(hs:iC a h M)(hx:∃E,M.get? a=some E):bh [a] C h C M/\St c w I F C o M:=by
 refine cf (S.cI a ha) λ_ n1 n2=>?_
 have st:bh [a] C h C M:=⟨mT _,λb E e n m=>(hs.2 b λq=>m (cA.mpr q)).trans e,λb E e n=>by
  by_cases q:b=a
  .rw [q];exact⟨hx,n1⟩
  .exact⟨⟨E,(hs.2 b q).trans e⟩,n⟩⟩
 refine⟨st,S.side (own:=[a]) (λb hb=>by rw [cA.mp hb];exact ha) st (λb x e=>?_) (λb hb=>hs.2 b λq=>n1 (q▸hb)) λb hb=>?_⟩
 .have:b≠a:=λq=>by rw [q,n2] at e;exact aB e
  exact(hs.2 b this).trans (S.keep b x e).1
 .by_cases q:b=a
  .rw [q];exact hx
  .obtain⟨⟨x,hx⟩,_⟩:=S.cI b hb
   exact⟨x,(hs.2 b q).trans hx⟩
end
inductive i0{α β:Type}(P:α->β->Prop):G α->G β->Prop
 |nil:i0 P [] []
 |cons {a:α} {b:β} {B:G α} {r:G β}:P a b->i0 P B r->i0 P (a::B) (b::r)
section
variable{α β:Type}{P:α->β->Prop}
theorem i0.length(x:i0 P B r):B.length=r.length:=by
 induction x with
 |nil=>rfl
 |cons _ _ O=>exact cq (· +1) O
theorem i0.at(x:i0 P B r):∀{i:H} {b:β},r[i]?=some b->∃a,B[i]?=some a/\P a b:=by
 induction x with
 |nil=>exact λe=>aB e
 |cons p _ O=>exact λ{i b}=>i.casesOn (λe=>⟨_,rfl,aM e▸p⟩) λ_ e=>O e
theorem i0.perm(p:B.Perm l'):∀{r:G β},i0 P B r->∃r',i0 P l' r'/\r.Perm r':=by
 induction p with
 |nil=>intro r x;exact⟨r,x,.refl _⟩
 |cons a _ O=>
  intro r x
  cases x with
  |cons q x=>
   refine ay (O x) λr' h1 h2=>?_
   exact⟨_::r',.cons q h1,h2.cons _⟩
 |swap a b B=>
  intro r x
  cases x with
  |cons q x=>
   cases x with
   |cons q' x=>exact⟨_::_::_,.cons q' (.cons q x),.swap ..⟩
 |trans _ _ Fd Fe=>
  intro r x
  refine ay (Fd x) λr1 h1 h2=>?_
  refine ay (Fe h1) λr2 h3 h4=>?_
  exact⟨r2,h3,h2.trans h4⟩
end
theorem aeb(y:G H):strLt [] y=!y.isEmpty:=by cases y<;>rfl
theorem ad_(a:H)(x:G H)(b:H)(y:G H):strLt (a::x) (b::y)=if a=b then strLt x y else decide (a<b):=by
 refine(?_:@bN (λ_=>ah) (dB a b) (strLt x y) (bA a b)=_)
 rw [MT.beq_eq]
 by_cases h:a=b
 .simp [h]
 .simp only [jf h,bl h]
  refine(?_:eB (a+1) b=decide (a<b))
  by_cases q:a<b
  .rw [ix q];exact Ju q
  .rw [jf q]
   cases z:eB (a+1) b with
   |false=>rfl
   |true=>exact bP (dw z) q
theorem aea(x:G H):∀y:G H,strLt x y=decide (x<y):=by
 induction x with
 |nil=>
  intro y
  rw [aeb]
  cases y with
  |nil=>simp
  |cons=>simp
 |cons a x O=>
  intro y
  cases y with
  |nil=>simp only [List.not_lt_nil,T7];rfl
  |cons b y=>
   rw [ad_,O y]
   by_cases h:a=b
   .subst h;simp [QB]
   .simp [QB,h]
theorem XR(k:G H)(v:D)(p:G H×D)(r:G (G H×D)):uY k v (p::r)=if strLt k p.1=true then(k,v)::p::r else p::uY k v r:=by
 refine(?_:@bN (λ_=>G (G H×D)) (p::uY k v r) ((k,v)::p::r) (strLt k p.1)=_)
 cases strLt k p.1<;>rfl
theorem XS(k:G H)(v:D)(B:G (G H×D)):(uY k v B).Perm ((k,v)::B):=by
 induction B with
 |nil=>exact .refl _
 |cons p r O=>
  rw [XR]
  split
  .exact .refl _
  .exact(O.cons p).trans (.swap ..)
theorem HF:∀(B b_:G (G H×D)),(oU B b_).Perm (B++b_)
 |[],b_=>.refl _
 |p::B,b_=>by
  refine(?_:(oU B (uY p.1 p.2 b_)).Perm _)
  refine(HF B _).trans ?_
  exact((XS p.1 p.2 b_).append_left B).trans List.perm_middle
theorem TF(e:DF B=true):B.Pairwise λp q=>p.1<q.1:=by
 induction B with
 |nil=>exact .nil
 |cons p B O=>
  cases B with
  |nil=>exact List.pairwise_singleton _ _
  |cons q r=>
   refine xA (aN.mp (e:(strLt p.1 q.1&&DF (q::r))=true)) λe1 e2=>?_
   have h:=O e2
   rw [aea] at e1
   have e1:=NR e1
   refine Q2.mpr ⟨λx hx=>?_,h⟩
   refine dC (bY.mp hx) (λrf=>?_) λhx=>?_
   .rw [rf];exact e1
   .exact QR e1 ((Q2.mp h).1 x hx)
theorem OK(e:tF B=some r):B.Pairwise (λp q=>p.1<q.1)/\B.length<64/\r=B.map (·.2):=by
 unfold tF at e
 refine xA (bI e) λJ e=>?_
 cases e
 refine xA (aN.mp J) λc1 c2=>?_
 exact⟨TF c1,dw c2,rfl⟩
section
variable{ag:Type}{Z:cU ag}{ae:ag->Prop}{c:a_}{w:WB}{Y:bG}{own F F' C ao:G aA}{s:aT}{I h M:aP}{o:MH}{K:b8}{W:bQ}{mg mb:ar->aa aw}
noncomputable def KR(c:a_)(w:WB)(F C:G aA)(h:aP)(p:Keyed)(q:G H×D):Prop:=(∃x t,p.1=.str x t/\x.1.1=q.1)/\VR c w F C h q.2 p.2
theorem i0.qp(x:i0 (KR c w F C h) B r):aW c w F C h (r.map (·.2)) (B.map (·.2)):=by
 induction x with
 |nil=>exact .nil
 |cons p _ O=>exact .cons p.2 O
theorem KR.imp(f:∀m v,VR c w F C h m v->VR c w F' ao M m v)(x:i0 (KR c w F C h) B r):i0 (KR c w F' ao M) B r:=by
 induction x with
 |nil=>exact .nil
 |cons p _ O=>exact .cons ⟨p.1,f _ _ p.2⟩ O
theorem KR.key(x:i0 (KR c w F C h) xs.toList r)(e:r[i]?=some q):KK rW xs i=q.1:=by
 obtain⟨p,h1,⟨y,t,h2,h3⟩,_⟩:=x.at e
 have sF:xs[i]?=some p:=by simpa using h1
 unfold KK
 rw [sF]
 refine(?_:(rW.keyOf p.1).getD []=q.1)
 rw [h2]
 exact h3
theorem OI(hk:i0 (KR c w F C h) zs ks)(hp:xs.toList.Perm zs)(hs:zA rW xs zs.length)(J:tF (oU ks [])=some B):
  aW c w F C h B (xs.map (·.2)).toList:=by
 refine cf (OK J) λc1 c2 aE=>?_;rw [aE]
 refine ay (hk.perm hp.symm) λr hr jh=>?_
 have hl:r.length=zs.length:=by rw [<-hr.length,hp.length_eq]
 have pr:r.Pairwise λp q=>¬q.1<p.1:=by
  rw [Cz]
  intro i j hi hj uQ
  have h1:=hs i j (rS uQ) (by lia)
  rw [KR.key hr (cV hi),KR.key hr (cV hj)] at h1
  have h2:decide (r[j].1<r[i].1)=false:=h1
  exact of_decide_eq_false h2
 have ps:(oU ks []).Pairwise λp q=>¬q.1<p.1:=c1.imp λ{a b} z y=>Jn _ (QR z y)
 have pm:r.Perm (oU ks []):=jh.symm.trans (by have:=(HF ks []).symm;rwa [h_] at this)
 have e:r=oU ks []:=by
  refine List.Perm.eq_of_pairwise (λa b ha hb h1 h2=>?_) pr ps pm
  have ny:=pm.mem_iff.mp ha
  have ek:a.1=b.1:=List.le_antisymm (Q1.mp h1) (Q1.mp h2)
  obtain⟨i,hi,ei⟩:=iE ny
  obtain⟨j,hj,ej⟩:=iE hb
  rw [Cz] at c1
  rcases Nat.lt_trichotomy i j with z|z|z
  .have:=c1 i j hi hj z
   rw [ei,ej,ek] at this
   exact bP this (Jn _)
  .subst z;exact ei.symm.trans ej
  .have:=c1 j i hj hi z
   rw [ei,ej,ek] at this
   exact bP this (Jn _)
 rw [<-e,Array.toList_map]
 exact hr.qp
end
section
variable{ag:Type}{Z:cU ag}{ae:ag->Prop}{c:a_}{w:WB}{Y:bG}{own F F' C ao:G aA}{s:aT}{I h M:aP}{o:MH}{K:b8}{W:bQ}{mg mb:ar->aa aw}
theorem ad8(e:strKeys (a::B)=some ks):∃s r,a=.str s/\strKeys B=some r/\(s.1.1,.str s)::r=ks:=by
 cases a with
 |str s=>
  have e:(match strKeys B with|some r=>some ((s.1.1,D.str s)::r)|.none=>.none)=some ks:=e
  generalize e1:strKeys B=ax at e
  cases ax with
  |none=>exact aB e
  |some r=>exact⟨s,r,rfl,rfl,aM e⟩
 |_=>exact aB e
theorem ad9:∀{ks:G (G H×D)},strKeys B=some ks->∃ss:G ar,B=ss.map D.str/\ks=ss.map λx=>(x.1.1,D.str x):=by
 induction B with
 |nil=>exact λe=>⟨[],rfl,(aM e).symm⟩
 |cons a B O=>
  intro ks e
  refine eO (ad8 e) λs r aE e' fV=>?_;subst aE;rw [<-fV]
  refine ay (O e') λss aI aE=>?_;rw [aI];rw [aE]
  exact⟨s::ss,rfl,rfl⟩
theorem ae8{L:Type}{key:L->D}{aR:G (L×aw)}(u:Under P key R aR):R.map (·.1)=aR.map λp=>key p.1:=by
 induction u with
 |nil=>rfl
 |cons a b O=>rw [lj,lj,O]
theorem aeg:∀{b:G ar},a.map D.str=b.map D.str->a=b:=by
 induction a with
 |nil=>exact λ{b} e=>(Cw.mp e.symm).symm
 |cons x a O=>
  intro b e
  cases b with
  |nil=>exact xX e
  |cons y b=>
   refine xA (qz e) λe1 e2=>?_
   rw [D.str_inj e1,O e2]
theorem Sj(x:n9 V ss):(∀x∈ss,g8 x=true)->i0 (KR c w F C h) (V.zip V) (ss.map λx=>(x.1.1,D.str x)):=by
 induction x with
 |nil=>exact λ_=>.nil
 |cons y t _ O=>exact λok=>.cons ⟨⟨y,t,rfl,rfl⟩,⟨t,rfl⟩,ok y (.head _)⟩ (O λx hx=>ok x (.tail _ hx))
theorem aee:∀{V:G aw},V.length=ss.length->(∀(j:H) (v:aw),V[j]?=some v->∃x t,ss[j]?=some x/\v=Value.str x t)->n9 V ss:=by
 induction ss with
 |nil=>exact λe _=>wz.mp e▸.nil
 |cons x ss O=>
  intro V e q
  cases V with
  |nil=>exact bP e (rV _).symm
  |cons v V=>
   refine jv (q 0 v rfl) λx' t h1 bU=>?_;rw [bU]
   exact(aM h1)▸.cons _ t (O (lu e) λj=>q (j+1))
theorem OJ(e:tF (oU ks [])=some B):B.length=ks.length/\ks.length<64:=by
 refine cf (OK e) λ_ c2 aE=>?_;subst aE
 have h:=(HF ks []).length_eq
 rw [h_] at h
 rw [cZ]
 exact⟨h,h▸c2⟩
theorem SX(hh:Y.handled=none)(Zk:bZ Z ae)(T:Top c w K W I mg mb)(S:St c w I F C o s.heap){x:aw}(e:ae (answer Z (Ds o a) o k))(va:VR c w F C s.heap a x):
  bc c w Y own C s (call (.builtin "sorted") [x]) (PV ae c w I F k):=by
 unfold Ds at e
 cases a with
 |ref i=>
  dsimp only at e
  generalize e1:dictAt o i=ax at e
  cases ax with
  |none=>exact(Zk.fail e).elim
  |some R=>
   dsimp only [OH] at e
   generalize e2:strKeys (R.map (·.1))=ax at e
   cases ax with
   |none=>exact(Zk.fail e).elim
   |some ks=>
    dsimp only at e
    generalize e3:tF (oU ks [])=ax at e
    cases ax with
    |none=>exact(Zk.fail e).elim
    |some B=>
     have e':ae (iV Z o (.list R.length (rv B)) k):=e
     obtain⟨ad,p1,rfl,⟨E,l4⟩,_⟩:=uA S e1 va
     have ns:=tL T S p1
     refine ay (ad9 e2) λss h1 aE=>?_;subst aE
     obtain⟨aR,d,u,sk⟩:∃aR,s.heap.DictOf (gC c w.w) ad aR/\Under (VR c w F C s.heap) D.str R aR/\∀p∈aR,g8 p.1=true:=by
      rcases E with E|⟨aR,d,u⟩
      .exact E
      .cases u with
       |nil=>exact⟨[],sh d,.nil,λ_ h=>(nomatch h)⟩
       |cons a b=>cases ss<;>simp at h1
     rw [ae8 u] at h1
     have Xp:ss=aR.map (·.1):=aeg (by rw [<-h1,zj];rfl)
     subst Xp
     refine bw d.dictAt λep Ws=>?_
     refine xA (OJ e3) λAx hl=>?_
     rw [cZ,cZ] at hl Ax
     have agr:R.length=aR.length:=u.length
     intro Q au q
     refine call_function_entry kind_sorted plain_sorted entry_sorted (args_sorted1 _) ?_
     unfold nT.«sorted»
     refine aO (m:=checkCount "sorted" 1 1 _) (bX ?_)
     refine aO (kdu_collect (A:=Y.in1) (kdl_dict (knd:=gC c w.w) (kvs:=aR) (ep:=ep) ns) hh Ws (jk (by lia)) λh1 tk b_ hk L4=>?_)
     have uS:b_.toList.length=aR.length:=by rw [hX];exact L4.1
     have hS:n9 b_.toList (aR.map (·.1)):=aee (by rw [uS,cZ]) λj v hv=>by
      refine jv (L4.2 j v (by rw [<-yX];exact hv)) λk x h3 h4=>?_
      refine bw (JP h4) λt h5=>?_
      exact⟨k,t,by rw [tZ,h3];rfl,h5⟩
     refine aO (IE ?_ (jk (by lia)))
     have ho:(h1.push {cls:=.type "list",data:=.seq b_.toList.toArray}).get? h1.objs.size=some (eS "list" b_.toList.toArray 0):=hZ _ rfl
     refine aO (iP (IC RI ⟨_,ho,rfl⟩ RG (list_sort_treeK (s:={s with heap:=h1.push {cls:=.type "list",data:=.seq b_.toList.toArray},toks:=tk}) strKind_oneLt ho hS.keysOf (λahd ahe aY e=>keyKind_strs (ss:=aR.map (·.1)) (by rw [<-e];exact hS)) (by lia) λj9 hp hs=>⟨_,rfl,?_⟩) (PyProof.Rows.args_list_sort _)))
     refine bX ⟨_,rfl,?_⟩
     have gU:(jS j9).toList.Perm (b_.toList.zip b_.toList):=by rw [<-pairsOf_toList];exact Qa.mp hp
     have pQ:zA rW (jS j9) (b_.toList.zip b_.toList).length:=by
      rw [Ct,wG,uS];rw [pairsOf_size,uS] at hs;exact hs
     have key:=OI (c:=c) (w:=w) (F:=F) (C:=C) (h:=s.heap) (Sj hS (λx hx=>by obtain⟨p,hp,rfl⟩:=cF.mp hx;exact sk p hp)) gU pQ e3
     have uR:∀b E,s.heap.get? b=some E->(sortedHeap (h1.push {cls:=.type "list",data:=.seq b_.toList.toArray}) h1.objs.size b_.toList ((jS j9).map (·.2))).get? b=some E:=λb E e=>by
      have e1:=hk b E e
      have lt:=wm e1
      rw [sortedHeap_old (rU lt) (by rw [HB];exact Jy lt)]
      exact fK _ _ _ _ e1
     refine bw (sortedHeap_at (vs:=b_.toList) (out:=(jS j9).map (·.2)) ho) λn' xG=>?_
     have AA:s.heap.get? h1.objs.size=none:=by
      cases z:s.heap.get? h1.objs.size with
      |none=>rfl
      |some E=>have:=hk _ _ z;rw [hV] at this;exact aB this
     generalize sortedHeap (h1.push {cls:=.type "list",data:=.seq b_.toList.toArray}) h1.objs.size b_.toList ((jS j9).map (·.2))=H' at uR xG⊢
     generalize (jS j9).map (·.2)=out at key xG
     refine xA (p_ (M:=H') Zk S e' AA uR λJ st=>⟨out,n',xG,by rw [fD];exact(key.step st).reverse,by rw [fD,ez];lia,uu J⟩) λst pv=>?_
     exact q _ _ _ tk st.any pv
 |_=>exact(Zk.fail e).elim
end
section
variable{ag:Type}{Z:cU ag}{ae:ag->Prop}{c:a_}{w:WB}{Y:bG}{own F F' C ao:G aA}{s:aT}{I h M:aP}{o:MH}{K:b8}{W:bQ}{mg mb:ar->aa aw}
noncomputable def qu(ae:ag->Prop)(c:a_)(w:WB)(I:aP)(n:H)(cl:D->G D->MH->(D->MH->ag)->ag):Prop:=
 ∀(Y:bG) (F C:G aA) (s:aT) (o:MH) (f:D) (fv:aw) (B:G D) (V:G aw) (k:D->MH->ag),eY n Y->St c w I F C o s.heap->VR c w F C s.heap f fv->aW c w F C s.heap B V->
  ae (cl f B o k)->bc c w Y [] C s (call fv V) (PV ae c w I F k)
theorem eY.step{n:H}(x:eY (n+1) Y)(h1:A'.handled=Y.handled)(h2:A'.depth<=Y.depth+2)(h3:A'.units<=Y.units+16):eY n A':=
 have go:∀{a b J k:H},a<=b+k->a+k*n+J<=b+k*(n+1)+J:=λ{a b J k} h=>ua (dQ (ua h (k*n)) (CK (by rw [ph,Rn,mV k]))) J
 ⟨h1.trans x.1,zo (go h2) x.2.1,zo (go h3) x.2.2⟩
theorem zF:∀b E,h.get? b=some E->cM (a::F) C b->h.get? b=some E/\cM F (C++[a]) b:=λb E e x=>⟨e,λq=>x.1 (.tail _ q),λq=>by
 refine dC (dI.mp q) (λq=>?_) λq=>?_
 .exact x.2 q
 .rw [cA.mp q] at x;exact x.1 (.head _)⟩
theorem wO:∀(i:H) (b:aA),C[i]?=some b->(C++[a])[i]?=some b:=λi b e=>by
 rw [iD (eM.mp e).1];exact e
theorem Gq(Zk:bZ Z ae)(S:St c w I (a::F) C o h)(na:a∉F)(e:ae (iV Z o E k))(ho:iB E=true->OR c w F (C++[a]) h a E):PV ae c w I F k (.ref a) (C++[a]) h:=by
 have e':ae (@bN (λ_=>ag) Z.fail (k (.ref o.n) ⟨o.t.ins o.n E,cX o.n⟩) (iB E&&cK ((o.t.ins o.n E).get o.n))):=e
 refine xA (iU (x:=Z.fail) Zk e') λJ pG=>?_
 refine xA (aN.mp J) λc1 c2=>?_
 obtain⟨⟨x0,agx⟩,nr,n0⟩:=S.cI a (.head _)
 have EL:((o.t.ins o.n E).get o.n).isSome=true:=by
  generalize q:(o.t.ins o.n E).get o.n=ax at c2
  cases ax with
  |none=>exact bz c2
  |some _=>rfl
 have pa:(C++[a])[o.n]?=some a:=by rw [S.len];simp
 refine⟨_,_,pG,⟨λb x e=>⟨(S.keep b x e).1,λq=>?_⟩,by simp [S.len],?_,λb hb=>?_,λi b e=>?_⟩,by exact⟨a,pa,rfl⟩⟩
 .refine dC (dI.mp q) (λq=>?_) λq=>?_
  .exact(S.keep b x e).2 q
  .rw [cA.mp q,n0] at e;exact aB e
 .rw [wC]
  exact⟨S.apart,by simp,λx hx y hy=>by rw [cA.mp hy];exact λe=>nr (e▸hx)⟩
 .refine cf (S.cI b (.tail _ hb)) λhx n1 n2=>?_
  refine⟨hx,λq=>?_,n2⟩
  refine dC (dI.mp q) (λq=>?_) λq=>?_
  .exact n1 q
  .rw [cA.mp q] at hb;exact na hb
 .rw [MT.get_ins E o.t o.n EL i]
  by_cases hi:i=o.n
  .subst hi
   rw [pa] at e
   cases e
   exact⟨E,by simp,ho c1⟩
  .rw [bl hi]
   have gS:i<C.length:=by
    have:=(eM.mp e).1
    rw [fy] at this
    simp at this
    rw [S.len] at hi
    lia
   rw [iD gS] at e
   refine ay (S.at_ i b e) λx hx r=>?_
   exact⟨x,hx,tj zF wO rfl r⟩
theorem aef{x:ar}(a:n9 V ss):n9 (V++[.str x t]) (ss++[x]):=by
 induction a with
 |nil=>exact .cons x t .nil
 |cons y u _ O=>exact .cons y u O
theorem adH(O:Ops ag)(f v:D)(B:G D)(o:MH)(k:G (G H×D)->MH->ag):yC Z O f (v::B) o k=O.call f [v] o λu o=>match u with
  |.str s=>yC Z O f B o λB o=>k ((s.1.1,v)::B) o
  |_=>Z.fail:=rfl
theorem Ox{kS bj:aA}(S:St c w I F C o h)(hF:bj∈F)(st:bh [] C h ao M)(e:h.get? bj=some E):M.get? bj=some E:=st.keep bj E e (S.cI bj hF).2.1 λq=>nomatch q
theorem Yo(Zk:bZ Z ae){n:H}{O:Ops ag}(aq:qu ae c w I n O.call){f:D}{fv:aw}{kS bj:aA}{e1:H}(qR:kS≠bj)(hA:eY n Y){au:aw->aT->Prop}{Qd:CS->aT->Prop}{body:aw->CS->iT (rG CS)}
  (hb:∀(x:aw) (s:aT) (Q:rG CS->aT->Prop) (P:aw->aT->Prop),bo (bK c w.w) Y (call fv [x]) P (λ_ _=>dP) s->(∀v s',P v s'->bo (bK c w.w) Y (Builtin.List.listUpdate (.ref kS) (·.push v)) (λ_ acK=>Q (.yield ⟨⟩) acK) au s')->bo (bK c w.w) Y (body x ⟨⟩) Q au s):
  ∀(B:G D) (V:G aw) (s:aT) (C:G aA) (o:MH) (kA:dS aw) (e:H) (kz:G ar) (k:G (G H×D)->MH->ag),St c w I (kS::bj::F) C o s.heap->VR c w (kS::bj::F) C s.heap f fv->aW c w (kS::bj::F) C s.heap B V->
  s.heap.get? kS=some (eS "list" kA e)->s.heap.get? bj=some (eS "list" #[] e1)->n9 kA.toList kz->kA.size+B.length<=64->ae (yC Z O f B o k)->
  (∀ao br M tk MN e' (FJ:G ar) ks,bh [kS] C s.heap ao M->St c w I (kS::bj::F) ao br M->M.get? kS=some (eS "list" MN e')->M.get? bj=some (eS "list" #[] e1)->n9 MN.toList (kz++FJ)->FJ.length=B.length->
   ks=(FJ.map λx:ar=>x.1.1).zip B->ae (k ks br)->Qd ⟨⟩ {s with heap:=M,toks:=tk})->bo (bK c w.w) Y (sE V PUnit.unit body) Qd au s:=by
 intro gr
 induction gr with
 |nil=>
  intro V s C o kA e kz k S vf y gk gd sk hz hh done
  rw [y.dW,wy]
  exact bX (done C o s.heap s.toks kA e [] [] (.refl ..) S gk gd (by rw [h_];exact sk) rfl rfl hh)
 |cons m B fQ=>
  intro V s C o kA e kz k S vf y gk gd sk hz hh done
  refine dR.el y.cj λv gj aE y1 y2=>?_;rw [aE]
  rw [adH] at hh
  rw [o_]
  refine aO ?_
  refine hb v s _ (λu s'=>∃ao M tk,s'={s with heap:=M,toks:=tk}/\bh [] C s.heap ao M/\PV ae c w I (kS::bj::F) (λu o=>match u with
   |.str s=>yC Z O f B o λB o=>k ((s.1.1,m)::B) o
   |_=>Z.fail) u ao M) ?_ ?_
  .exact aq Y (kS::bj::F) C s o f fv [m] [v] _ hA S vf (.one y1) hh _ _ λa ao M tk st p=>⟨ao,M,tk,rfl,st,p⟩
  .rintro u s' ⟨ao,M,tk,rfl,st,mu,br,hu,S',vu⟩
   cases mu with
   |str x=>
    obtain⟨⟨t,rfl⟩,so⟩:=vu
    dsimp only at hu
    have LM:=Ox (kS:=kS) S (.head _) st gk
    have Wc:=Ox (kS:=kS) S (.tail _ (.head _)) st gd
    simp only [iQ] at hz
    refine FV LM rfl ?_ (jk (by lia)) (dQ (CK (Qb ..)) (by rw [rq];lia))
    have hs:=o8 M kS (fh (·.push (.str x t)))
    obtain⟨c2,kG⟩:∃c2,(M.update kS (fh (·.push (.str x t)))).get? kS=some (eS "list" (kA.push (.str x t)) c2):=⟨_,Ez LM (·.push (.str x t))⟩
    refine xA (S'.turn (.head _) hs ⟨_,kG⟩) λbp S2=>?_
    have hF:∀b∈[kS],b∈kS::bj::F:=λb hb=>by rw [cA.mp hb];exact .head _
    refine(?_:bo (bK c w.w) Y (sE gj PUnit.unit body) Qd au {s with heap:=M.update kS (fh (·.push (.str x t))),toks:=tk})
    refine fQ gj {s with heap:=M.update kS (fh (·.push (.str x t))),toks:=tk} ao br (kA.push (.str x t)) c2 (kz++[x]) _ S2 ((vf.step st).fx hF bp) ((y2.step st).fx hF bp) kG ((hs.2 bj qR.symm).trans Wc) (by rw [IV];exact aef sk) (by rw [Qb];lia) hu ?_
    intro dY hM h3 ey Yk e3 Yx agF dp S3 Ak xy adw W_ W7 dX
    refine done dY hM h3 ey Yk e3 (x::Yx) _ ((st.any (own:=[kS])).trans (bp.trans dp)) S3 Ak xy (by rw [List.append_cons];exact adw) (by rw [iQ,iQ,W_]) ?_ dX
    rw [lj,CD,W7]
   |_=>exact(Zk.fail hu).elim
end
section
variable{ag:Type}{Z:cU ag}{ae:ag->Prop}{c:a_}{w:WB}{Y:bG}{own F F' C ao:G aA}{s:aT}{I h M:aP}{o:MH}{K:b8}{W:bQ}{mg mb:ar->aa aw}
theorem aeh(hS:n9 V ss)(h2:2<=V.length):keyKind' V.toArray=pure oneType':=by
 match V,hS,h2 with
 |[],_,h2=>simp at h2
 |[_],_,h2=>simp at h2
 |_::_::_,hS,_=>exact keyKind_strs hS
theorem Yq(qR:kS≠bj)(gk:s.heap.get? kS=some (eS "list" j3 e))(gd:s.heap.get? bj=some (eS "list" #[] e1))(hS:n9 j3.toList ss)
  (hl:j3.size=V.length) (LU:V.length<64)
  (done:∀(xs:dS Keyed) (J:H) M,xs.toList.Perm (j3.toList.zip V)->zA rW xs (j3.toList.zip V).length->(∀b,b≠kS->b≠bj->M.get? b=s.heap.get? b)->(∃E,M.get? kS=some E)->M.get? bj=some (eS "list" (xs.map (·.2)) J)->P (.done (.ret .none)) {s with heap:=M}):
  bo (bK c w.w) Y (ksk_end bj false V.toArray e1 (.ref kS) j3) P au s:=by
 have xO:(j3.zip V.toArray).size=V.length:=by rw [Array.size_zip,hl,t8,wG]
 have XD:(j3.toList.zip V).length=V.length:=by rw [Ct,hX,hl,wG]
 have tail:∀st:SortSt,(jS st).Perm (j3.zip V.toArray)->zA rW (jS st) (j3.zip V.toArray).size->failedOf st=none->bo (bK c w.w) Y (ksk_tail bj false e1 (.ref kS) st) P au s:=by
  intro st hp hs WR
  have s1:=o8 s.heap kS (fh λ_=>(#[]:dS aw))
  have Gj:(s.heap.update kS (fh λ_=>(#[]:dS aw))).get? bj=some (eS "list" #[] e1):=(s1.2 bj qR.symm).trans gd
  have aaC:∃E,(s.heap.update kS (fh λ_=>(#[]:dS aw))).get? kS=some E:=⟨_,Ez gk λ_=>#[]⟩
  have s2:=o8 (s.heap.update kS (fh λ_=>(#[]:dS aw))) bj (fh λ_=>(jS st).map (·.2))
  obtain⟨c2,kG⟩:∃c2,((s.heap.update kS (fh λ_=>(#[]:dS aw))).update bj (fh λ_=>(jS st).map (·.2))).get? bj=some (eS "list" ((jS st).map (·.2)) c2):=⟨_,Ez Gj λ_=>(jS st).map (·.2)⟩
  have Xg:((jS st).map (·.2)).size=V.length:=by rw [Array.size_map,hp.size_eq,xO]
  unfold ksk_tail
  try dsimp only
  refine aO (FV gk rfl ?_ (by rw [hl,rq];lia) (gA _))
  refine aO (wpAny_letGo ?_)
  refine aO (seqEpoch_at Gj rfl ?_)
  simp only [Ce,Fb]
  refine aO (FV Gj rfl ?_ (gA _) (dQ (CK Xg) (by rw [rq];lia)))
  rw [WR]
  simp only [bne_self_eq_false,Ce,Fb]
  refine bX (done (jS st) c2 _ ?_ ?_ (λb h1 h2=>(s2.2 b h2).trans (s1.2 b h1)) ?_ kG)
  .have:=Qa.mp hp
   rwa [ksk_zip] at this
  .rw [XD];rw [xO] at hs;exact hs
  .refine bw aaC λE ho=>?_
   exact⟨E,(s2.2 kS qR).trans ho⟩
 unfold ksk_end
 try dsimp only
 simp only [Ce,Fb]
 by_cases h2:V.toArray.size<2
 .rw [bT h2,bT h2]
  refine aO (bX ?_)
  rw [StateT.run_pure]
  refine aO (bX ?_)
  try dsimp only
  refine tail (SortSt.mk' general' (j3.zip V.toArray) #[] 7 none) (.refl _) ?_ rfl
  intro i j uQ hj
  rw [xO] at hj
  rw [t8] at h2
  have:i=j:=by lia
  rw [this]
  exact KeyOrd.kle_refl _
 .rw [bl h2,bl h2]
  rw [t8] at h2
  have hk:keyKind' j3=pure oneType':=by
   have:=aeh hS (by rw [hX];lia)
   rwa [IU] at this
  rw [hk]
  refine aO (bX ?_)
  refine aO (qq (wpS_sortRunsK (κ:=rW) strKind_oneLt (a₀:=j3.zip V.toArray) (st:=SortSt.mk' oneType' (j3.zip V.toArray) #[] 7 none)
   (Q:=λ_ j9=>(jS j9).Perm (j3.zip V.toArray)/\failedOf j9=none/\zA rW (jS j9) (j3.zip V.toArray).size)
   (λp hp=>?_) ⟨.refl _,rfl,rfl,rfl⟩ (by rw [xO];exact g7.mp (by assumption)) (by rw [xO];exact LU) λj9 a1 a2 a3=>⟨a1,a2,a3⟩) ?_ λ_ _ e=>e)
  .rw [ksk_zip] at hp
   obtain⟨x,y⟩:=p
   refine gJ (hS.all _ (List.of_mem_zip hp).1) λz t e=>?_
   exact⟨z.cps.toList,by dsimp only at e⊢;rw [e]⟩
  .rintro ⟨⟨⟩,j9⟩ s' ⟨rfl,hp,hf,hs⟩
   try dsimp only
   exact tail j9 hp hs hf
theorem Sk(a:n9 us ss):aW c w F C h B V->ss.length=B.length->i0 (KR c w F C h) (us.zip V) ((ss.map λx:ar=>x.1.1).zip B):=by
 induction a generalizing B V with
 |nil=>exact λy e=>wz.mp e.symm▸.nil
 |cons x t _ O=>
  intro y e
  cases B with
  |nil=>exact bP e (rV _)
  |cons m B=>
   obtain⟨v,gj,rfl,y1,y2⟩:=y.cj
   exact .cons ⟨⟨x,t,rfl,rfl⟩,y1⟩ (O y2 (lu e))
end
section
variable{ag:Type}{Z:cU ag}{ae:ag->Prop}{c:a_}{w:WB}{Y:bG}{own F F' C ao:G aA}{s:aT}{I h M:aP}{o:MH}{K:b8}{W:bQ}{mg mb:ar->aa aw}
theorem adG(Zk:bZ Z ae)(aq:qu ae c w I n O.call)(hA:eY (n+1) Y)(S:St c w I F C o s.heap)(e:ae (HE Z O u g o k))(vx:VR c w F C s.heap u x)(vy:VR c w F C s.heap g y):
  bc c w Y own C s (call (.builtin "sorted") [x] [(rX "key",y)]) (PV ae c w I F k):=by
 unfold HE at e
 cases g with
 |fn q=>
  dsimp only at e
  generalize e1:eV o u=ax at e
  cases ax with
  |none=>exact(Zk.fail e).elim
  |some p=>
   dsimp only at e
   refine LstAt.el (nF S e1 vx) λad V n' bU g0 y0 B l4=>?_;subst bU
   have Iz:=vy
   subst vy
   rw [fD] at e
   have yl:aW c w F C s.heap p.2.reverse V.toList:=by have:=y0.reverse;rwa [mU] at this
   have uS:V.toList.length=p.2.length:=by rw [yl.length,ez]
   generalize Tw:dB p.2.length 64=ax at e
   cases ax with
   |false=>exact(Zk.fail e).elim
   |true=>
   dsimp only at e
   have LU:p.2.length<64:=dw Tw
   intro Q au done
   refine call_function_entry_kw kind_sorted plain_sorted entry_sorted (ksk_s1 _ _) ?_
   unfold nT.«sorted»
   refine aO (m:=checkCount "sorted" 1 1 _) (bX ?_)
   refine aO (collect_list (vs:=V.toList) ⟨_,g0,rfl,n',rfl⟩ ?_ (by rw [rq];lia))
   refine aO (IE ?_ (by rw [rq];lia))
   have lD:((s.heap.push (eS "list" #[] 0)).update s.heap.objs.size (fh (· ++V.toList.toArray))).objs.size=s.heap.objs.size+1:=by
    rw [Heap.size_update,HB]
   have xJ:(((s.heap.push (eS "list" #[] 0)).update s.heap.objs.size (fh (· ++V.toList.toArray))).push (eS "list" V.toList.toArray 0)).get? (s.heap.objs.size+1)=some (eS "list" V.toList.toArray 0):=by
    rw [<-lD];exact hZ _ rfl
   have keep:∀b E,s.heap.get? b=some E->(((s.heap.push (eS "list" #[] 0)).update s.heap.objs.size (fh (· ++V.toList.toArray))).push (eS "list" V.toList.toArray 0)).get? b=some E:=λb E q=>by
    have gS:b<s.heap.objs.size:=wm q
    rw [Qr _ _ _ (by rw [lD];exact rU (Jy gS)),Heap.get?_update_ne _ _ _ _ (rU gS),Qr _ _ _ (rU gS)]
    exact q
   have Mj:(((s.heap.push (eS "list" #[] 0)).update s.heap.objs.size (fh (· ++V.toList.toArray))).push (eS "list" V.toList.toArray 0)).objs.size=s.heap.objs.size+2:=by rw [HB,lD]
   refine(?_:bo _ _ _ _ _ {s with heap:=((s.heap.push (eS "list" #[] 0)).update s.heap.objs.size (fh (· ++V.toList.toArray))).push (eS "list" V.toList.toArray 0)})
   rw [lD]
   generalize ((s.heap.push (eS "list" #[] 0)).update s.heap.objs.size (fh (· ++V.toList.toArray))).push (eS "list" V.toList.toArray 0)=lg at xJ keep Mj⊢
   refine aO (iP (wpAny_call_entry_kw RI ⟨_,xJ,rfl⟩ RG ?body (ksk_l1 _ _)))
   refine(?_:bo (bK c w.w) Y.in1.in1 (nT.«list.sort» ⟨[.ref (s.heap.objs.size+1)],[(rX "key",.ref q)]⟩) _ _ _)
   rw [ksk_t1]
   have D0:s.heap.get? (s.heap.objs.size+1)=none:=by
    cases z:s.heap.get? (s.heap.objs.size+1) with
    |none=>rfl
    |some E=>exact bP (wm z) (Rp (ig _ _))
   generalize hD:s.heap.objs.size+1=bj at*
   have s1:=o8 lg bj (fh λ_=>(#[]:dS aw))
   obtain⟨z_,AD⟩:∃e1,(lg.update bj (fh λ_=>(#[]:dS aw))).get? bj=some (eS "list" #[] e1):=⟨_,Ez xJ λ_=>#[]⟩
   have Md:((lg.update bj (fh λ_=>(#[]:dS aw))).push (eS "tuple" V.toList.toArray 0)).objs.size=s.heap.objs.size+3:=by rw [HB,Heap.size_update,Mj]
   unfold ksk_tree
   refine aO (listItems_at xJ rfl ?_)
   refine aO (FV xJ rfl ?_ (by rw [t8,rq];lia) (gA _))
   refine aO (seqEpoch_at AD rfl ?_)
   refine aO (wpAny_newTuple ?_ (by show V.toList.length<=_;rw [rq];lia))
   refine aO (IE ?_ (gA _))
   refine iP ?_
   have FA:s.heap.get? (s.heap.objs.size+3)=none:=by
    cases z:s.heap.get? (s.heap.objs.size+3) with
    |none=>rfl
    |some E=>exact bP (wm z) (Rp (ig _ _))
   have Aj:(((lg.update bj (fh λ_=>(#[]:dS aw))).push (eS "tuple" V.toList.toArray 0)).push (eS "list" #[] 0)).get? (s.heap.objs.size+3)=some (eS "list" #[] 0):=by rw [<-Md];exact hZ _ rfl
   have Ey:(((lg.update bj (fh λ_=>(#[]:dS aw))).push (eS "tuple" V.toList.toArray 0)).push (eS "list" #[] 0)).get? bj=some (eS "list" #[] z_):=fK _ _ _ _ (fK _ _ _ _ AD)
   have FC:∀b E,s.heap.get? b=some E->(((lg.update bj (fh λ_=>(#[]:dS aw))).push (eS "tuple" V.toList.toArray 0)).push (eS "list" #[] 0)).get? b=some E:=λb E e=>by
    have:b≠bj:=qQ D0 e
    exact fK _ _ _ _ (fK _ _ _ _ ((s1.2 b this).trans (keep b E e)))
   refine(?_:bo (bK c w.w) Y.in1.in1 (ksk_rest bj (.ref q) false V.toList.toArray z_ (.ref ((lg.update bj (fh λ_=>(#[]:dS aw))).push (eS "tuple" V.toList.toArray 0)).objs.size)) _ _ {s with heap:=((lg.update bj (fh λ_=>(#[]:dS aw))).push (eS "tuple" V.toList.toArray 0)).push (eS "list" #[] 0)})
   rw [Md]
   generalize ((lg.update bj (fh λ_=>(#[]:dS aw))).push (eS "tuple" V.toList.toArray 0)).push (eS "list" #[] 0)=H2 at Aj Ey FC⊢
   have qR:s.heap.objs.size+3≠bj:=by lia
   generalize s.heap.objs.size+3=kS at FA Aj qR⊢
   have fr:jx I s.heap H2 C [kS,bj]:=⟨FC,λb hb=>by
    refine dC (bY.mp hb) (λrf=>?_) λhb=>?_
    .rw [rf];exact⟨FA,_,Aj⟩
    .rw [cA.mp hb];exact⟨D0,_,Ey⟩⟩
   have S2:St c w I (kS::bj::F) C o H2:=S.enter fr
   refine cf (S.lO D0) λd1 d2 d3=>?_
   refine cf (S.lO FA) λk1 k2 k3=>?_
   unfold ksk_rest
   refine aO (yT ?_)
   rw [List.forIn_toArray]
   refine aO ?_
   refine Yo (Y:=Y.in1.in1) (s:={s with heap:=H2}) Zk aq qR (hA.step rfl (ig _ 2) (by show Y.units+1+1<=_;lia)) ?_ p.2.reverse V.toList C o #[] 0 [] _ S2 (Iz.enter fr) (yl.enter fr) Aj Ey .nil (by rw [ez];show 0+_<=_;lia) e ?_
   .intro x s Q P h1 h2
    refine aO (PR (qq h1 (λv s' hv=>?_) λ_ _ hF=>hF.elim))
    exact aO (qq (h2 v s' hv) (λ_ _ z=>bX z) λ_ _ z=>z)
   .intro ao br M tk kA e' kz ks st S3 gk gd sk hl hk hh
    refine ay (gW Zk hh) λls e3 hh=>?_
    rw [List.nil_append] at sk
    have W9:kA.size=V.toList.length:=by
     have:=sk.len_eq
     rw [hX] at this
     rw [this,hl,ez,uS]
    have y3:aW c w (kS::bj::F) ao M p.2.reverse V.toList:=(yl.enter fr).fx (own:=[kS]) (λb hb=>by rw [cA.mp hb];exact .head _) st
    try dsimp only
    refine aO (listItems_at gk rfl ?_)
    refine Yq (s:={s with heap:=M,toks:=tk}) qR gk gd sk W9 (by lia) λxs J h3 hp hs Wu Ak xy=>?_
    refine⟨_,rfl,bX ⟨_,rfl,?_⟩⟩
    have key:=OI (Sk sk y3 hl) hp hs (by rw [<-hk];exact e3)
    have xC:∀b,b≠kS->b≠bj->h3.get? b=M.get? b:=Wu
    have dp:bh [kS,bj] ao M ao h3:=⟨mT _,λb E e n m=>(xC b (λq=>m (q▸.head _)) (λq=>m (q▸.tail _ (.head _)))).trans e,λb E e n=>by
     by_cases q1:b=kS
     .obtain rfl:=q1.symm;exact⟨Ak,n⟩
     .by_cases q2:b=bj
      .obtain rfl:=q2.symm;exact⟨⟨_,xy⟩,n⟩
      .exact⟨⟨E,(xC b q1 q2).trans e⟩,n⟩⟩
    have dG:∀b∈[kS,bj],b∈kS::bj::F:=λb hb=>iR F (by exact hb:b∈[kS,bj])
    have S4:St c w I (kS::bj::F) ao br h3:=S3.side dG dp (λb x e=>by
     have n1:b≠kS:=λq=>by rw [q,k3] at e;exact aB e
     have n2:b≠bj:=λq=>by rw [q,d3] at e;exact aB e
     exact(xC b n1 n2).trans (S3.keep b x e).1) (λb hb=>xC b (λq=>(S3.cI kS (.head _)).2.1 (q▸hb)) (λq=>(S3.cI bj (.tail _ (.head _))).2.1 (q▸hb))) (λb hb=>by
     by_cases q1:b=kS
     .rw [q1];exact Ak
     .by_cases q2:b=bj
      .rw [q2];exact⟨_,xy⟩
      .obtain⟨⟨E,ho⟩,_⟩:=S3.cI b hb
       exact⟨E,(xC b q1 q2).trans ho⟩)
    have Ym:=key.fx dG dp
    have S5:St c w I (bj::F) ao br h3:=St.leave (new:=[kS]) S4
    have Yn:aW c w (bj::F) ao h3 ls (xs.map (·.2)).toList:=aW.leave (new:=[kS]) Ym
    have MP:aW c w F (ao++[bj]) h3 ls (xs.map (·.2)).toList:=Yn.mono zF (.inr wO)
    have pv:=Gq Zk S5 d2 hh λoc=>⟨_,J,xy,by rw [fD];exact MP.reverse,by rw [fD,ez];have:=MP.length;have:=(OJ e3).1;rw [hk,Ct,cZ,hl,wG,ez] at this;lia,uu oc⟩
    refine done _ _ h3 tk ?_ pv
    have adQ:bh [kS,bj] C s.heap ao h3:=((bh.of_keeps FC).trans (st.more λb hb=>.inl (by rw [cA.mp hb];exact .head _))).trans dp
    have BO:bh own C s.heap ao h3:=adQ.more λb hb=>.inr (fr.new b hb).1
    exact⟨BO.pre.trans (wD ..),BO.keep,λb E e n=>⟨(BO.out b E e n).1,λq=>by
     refine dC (dI.mp q) (λq=>?_) λq=>?_
     .exact(BO.out b E e n).2 q
     .rw [cA.mp q,D0] at e;exact aB e⟩⟩
 |_=>exact(Zk.fail e).elim
end
section
variable{ag:Type}{Z:cU ag}{ae:ag->Prop}{c:a_}{w:WB}{Y:bG}{own F F' C ao:G aA}{s:aT}{I h M:aP}{o:MH}{K:b8}{W:bQ}{mg mb:ar->aa aw}
theorem Tr(hh:Y.handled=none)(Zk:bZ Z ae)(T:Top c w K W I mg mb)(S:St c w I F C o s.heap)(e:ae (answer Z (Kb o f B) o k))(vl:aW c w F C s.heap B V):
  bc c w Y own C s (call f.value V) (PV ae c w I F k):=by
 match B,vl,e with
 |[],vl,e=>exact(Zk.fail e).elim
 |[a],vl,e=>
  refine dR.el vl.cj λv gj aE y1 y2=>?_;subst aE
  rw [y2.dW]
  cases f with
  |list=>exact SR Zk S e y1
  |tuple=>exact S_ Zk S e y1
  |dict=>exact SO hh Zk T S e y1
  |str=>exact SY Zk S e y1
  |int=>exact SP Zk S e y1
  |len=>exact SQ Zk T S e y1
  |max=>exact SS hh Zk S e y1
  |sum=>exact S0 hh Zk S e y1
  |sorted=>exact SX hh Zk T S e y1
  |min=>exact(Zk.fail e).elim
  |range=>exact(Zk.fail e).elim
  |zip=>exact(Zk.fail e).elim
 |[a,b],vl,e=>
  refine dR.el vl.cj λv gj aE y1 y2=>?_;rw [aE]
  replace y2:=y2.cj;obtain⟨u,gj,rfl,y2,y3⟩:=y2
  rw [y3.dW]
  exact SU hh Zk S e y1 y2
 |_::_::_::_,vl,e=>exact(Zk.fail e).elim
end
structure Ctx(c:a_)(w:WB)(I:aP)(n:H)(Y:bG)(F C:G aA)(s:aT)(o:MH)(cx:Cx)(fr:Fm)(X:cL):Prop where
 room:eY n Y
 st:St c w I F C o s.heap
 fr:cH c w F C s.heap cx fr X
noncomputable def fj{ag:Type}(ae:ag->Prop)(c:a_)(w:WB)(I:aP)(n:H)(ev:Cx->aX->Fm->MH->(D->MH->ag)->ag):Prop:=
 ∀(Y:bG) (F C:G aA) (s:aT) (o:MH) (cx:Cx) (e:aX) (fr:Fm) (X:cL) (k:D->MH->ag),Ctx c w I n Y F C s o cx fr X->ae (ev cx e fr o k)->bc c w Y [] C s (eval e X) (PV ae c w I F k)
noncomputable def mW{ag:Type}(ae:ag->Prop)(c:a_)(w:WB)(I:aP)(n:H)(fe:Cx->aX->Fm->MH->(ah->MH->ag)->ag):Prop:=
 ∀(Y:bG) (F C:G aA) (s:aT) (o:MH) (cx:Cx) (e:aX) (fr:Fm) (X:cL) (k:ah->MH->ag),Ctx c w I n Y F C s o cx fr X->ae (fe cx e fr o k)->bc c w Y [] C s (isTrue e X (eval e X)) (PB ae c w I F k)
section
variable{ag:Type}{Z:cU ag}{ae:ag->Prop}{c:a_}{w:WB}{Y:bG}{own F F' C ao:G aA}{s:aT}{I h M:aP}{o br:MH}{K:b8}{W:bQ}{mg mb:ar->aa aw}{n:H}{cx:Cx}{fr:Fm}{X:cL}{O:Ops ag}
theorem Ctx.next(aq:Ctx c w I n Y F C s o cx fr X)(st:bh [] C s.heap ao M)(S':St c w I F ao br M)(tk:H):Ctx c w I n Y F ao {s with heap:=M,toks:=tk} br cx fr X:=
 ⟨aq.room,S',aq.fr.step st λa ha=>(aq.st.cI a ha).2.1⟩
theorem Ctx.tok(aq:Ctx c w I n Y F C s o cx fr X)(tk:H):Ctx c w I n Y F C {s with toks:=tk} o cx fr X:=⟨aq.room,aq.st,aq.fr⟩
theorem Ctx.lower(aq:Ctx c w I (n+1) Y F C s o cx fr X):Ctx c w I n Y F C s o cx fr X:=⟨aq.room.down,aq.st,aq.fr⟩
theorem Ctx.units(aq:Ctx c w I n Y F C s o cx fr X):Y.units+61<fP:=by
 have:=aq.room.2.2
 have:fP=9900:=rfl
 lia
theorem s_(h:gE (e::B)=true):gE B=true/\∀X,rt (e::B) X=(false,eval e X)::rt B X:=by
 cases e<;>first|exact⟨h,λ_=>rfl⟩|exact mQ (h:false=true)
theorem Ej(bk:fj ae c w I n O.ev):∀(R:G aX) (C:G aA) (s:aT) (o:MH) (k:G D->MH->ag),Ctx c w I n Y F C s o cx fr X->gE R=true->ae (sy O cx R fr o k)->
  bc c w Y [] C s (spliced (ur pos (rt R X))) (JE ae c w I F k):=by
 intro gr
 induction gr with
 |nil=>
  intro C s o k aq ns e
  exact λQ au q=>wpAny_items_nil (q [] C s.heap s.toks (.refl ..) ⟨[],o,e,aq.st,.nil⟩)
 |cons e R fQ=>
  intro C s o k aq ns hh
  exact λQ au q=>by
   refine xA (s_ ns) λaaI hs=>?_
   refine wpAny_items_cons ?_ (hs X)
   refine bk Y F C s o cx e fr X _ aq hh _ _ λv bq h1 aZ aS p1=>?_
   obtain⟨m,bM,bR,S1,v1⟩:=p1
   refine fQ bq {s with heap:=h1,toks:=aZ} bM _ (aq.next aS S1 aZ) aaI bR _ _ λV bf h2 bS bp p2=>?_
   obtain⟨B,dz,de,S2,v2⟩:=p2
   exact q (v::V) bf h2 bS (aS.trans bp) ⟨m::B,dz,de,S2,.cons (v1.step bp) v2⟩
theorem PV.intro(e:ae (k m o))(S:St c w I F C o h)(x:VR c w F C h m v):PV ae c w I F k v C h:=⟨m,o,e,S,x⟩
theorem aa2(e:Bf B=true):∀J∈B,J<0x110000:=by
 induction B with
 |nil=>exact λJ h=>nomatch h
 |cons a B O=>
  have e':@bN (λ_=>ah) false (Bf B) (dB a 1114112)=true:=e
  generalize q:dB a 1114112=ax at e'
  cases ax with
  |false=>exact bz e'
  |true=>
   exact λJ h=>(bY.mp h).elim (λz=>z▸dw q) (O e' J)
theorem TY(Zk:bZ Z ae)(aq:Ctx c w I n Y F C s o cx fr X)(e:ae (Ln Z J o k)):bc c w Y [] C s (eval (.Constant J kd pos) X) (PV ae c w I F k):=by
 intro Q au q
 cases J with
 |none=>exact wpAny_Constant_none (q _ C s.heap s.toks (.refl ..) (.intro e aq.st (by rfl)))
 |bool b=>exact wpAny_Constant_bool (q _ C s.heap s.toks (.refl ..) (.intro e aq.st (by rfl)))
 |int i=>exact wpAny_Constant_int (q _ C s.heap _ (.refl ..) (.intro e aq.st (by exact⟨_,rfl⟩)))
 |str x=>
  refine xA (iU (x:=Z.fail) Zk (e:ae (@bN (λ_=>ag) Z.fail (k (.str x) o) (Bf x.1.1)))) λc1 e=>?_
  exact wpAny_Constant_str (q _ C s.heap _ (.refl ..) (.intro e aq.st (by exact⟨⟨_,rfl⟩,HN.mpr (aa2 c1)⟩)))
 |_=>exact(Zk.fail e).elim
theorem T6:tC=("__debug__" :ar):=by decide+kernel
theorem NO(h:(!(seq x tC))=true):(x==("__debug__" :ar))=false:=by
 refine mn.mpr λq=>?_
 rw [<-T6] at q
 rw [lV.mpr q] at h
 exact bz h
theorem UT(Zk:bZ Z ae)(T:Top c w K W I mg mb)(aq:Ctx c w I n Y F C s o cx fr X)(hx:(x==("__debug__" :ar))=false)(e:ae (K6 Z W x cx fr o k)):bc c w Y [] C s (eval (.Name x pos) X) (PV ae c w I F k):=by
 refine ay (gW Zk e) λm e1 e2=>?_
 refine ay (Nu (Y:=Y) T aq.st aq.fr e1) λv x1 x2=>?_
 exact λQ au q=>wpAny_Name (x2 Q au (q v C s.heap s.toks (.refl ..) (.intro e2 aq.st x1))) hx
theorem Vk(Zk:bZ Z ae)(bk:fj ae c w I n O.ev)(aq:Ctx c w I n Y F C s o cx fr X)(e:ae (K_ Z O op a cx fr o k)):bc c w Y [] C s (eval (.UnaryOp op a pos) X) (PV ae c w I F k):=by
 intro Q au q
 refine wpAny_UnaryOp (bk Y F C s o cx a fr X _ aq e _ _ λv1 bq h1 aZ aS p1=>?_)
 obtain⟨m1,bM,bR,S1,x1⟩:=p1
 refine ay (gW Zk bR) λm2 e2 de=>?_
 exact ae7 (s:={s with heap:=h1,toks:=aZ}) (own:=[]) Zk S1 e2 de x1 _ _ λv2 bf h2 bS bp p2=>q v2 bf h2 bS (aS.trans bp) p2
theorem UH(Zk:bZ Z ae)(bk:fj ae c w I n O.ev)(aq:Ctx c w I n Y F C s o cx fr X)(e:ae (KY Z O a op b cx fr o k)):bc c w Y [] C s (eval (.BinOp a op b pos) X) (PV ae c w I F k):=by
 intro Q au q
 refine wpAny_BinOp (bk Y F C s o cx a fr X _ aq e _ _ λv1 bq h1 aZ aS p1=>?_)
 obtain⟨m1,bM,bR,S1,x1⟩:=p1
 refine bk Y F bq _ bM cx b fr X _ (aq.next aS S1 aZ) bR _ _ λv2 bf h2 bS bp p2=>?_
 obtain⟨m2,dz,de,S2,x2⟩:=p2
 exact Ta (s:={s with heap:=h2,toks:=bS}) (own:=[]) Zk S2 de (x1.step bp) x2 _ _ λv3 dY h3 ey dp p3=>q v3 dY h3 ey (aS.trans (bp.trans dp)) p3
theorem agT(h:∀R k p,b≠.Set R k p):Dm op b=false:=by
 cases b<;>first|rfl|exact bP rfl (h _ _ _)
theorem UJ(Zk:bZ Z ae)(T:Top c w K W I mg mb)(bk:fj ae c w I n O.ev)(aq:Ctx c w I n Y F C s o cx fr X)(hm:Dm op b=false)(e:ae (K0 Z W O a op b cx fr o k)):bc c w Y [] C s (eval (.Compare a [op] [b] pos) X) (PV ae c w I F k):=by
 intro Q au q
 refine wpAny_Compare1 (bk Y F C s o cx a fr X _ aq e _ _ λv1 bq h1 aZ aS p1=>?_) hm
 obtain⟨m1,bM,bR,S1,x1⟩:=p1
 refine bk Y F bq _ bM cx b fr X _ (aq.next aS S1 aZ) bR _ _ λv2 bf h2 bS bp p2=>?_
 obtain⟨m2,dz,de,S2,x2⟩:=p2
 refine ay (gW Zk de) λr e3 dX=>?_
 refine Kv (s:={s with heap:=h2,toks:=bS}) (own:=[]) T S2 aq.units e3 (x1.step bp) x2 _ _ λv3 dY h3 ey dp p3=>?_
 refine cf p3 ?_;clear p3;intro eJ aI aE;subst eJ;obtain rfl:=aI.symm;obtain rfl:=aE.symm
 exact q _ _ _ ey (aS.trans (bp.trans dp)) (.intro dX S2 (by rfl))
theorem UP(bk:fj ae c w I n O.ev)(fF:mW ae c w I n O.fe)(aq:Ctx c w I n Y F C s o cx fr X)(e:ae (K2 O t a b cx fr o k)):bc c w Y [] C s (eval (.IfExp t a b pos) X) (PV ae c w I F k):=by
 intro Q au q
 refine wpAny_IfExp (fF Y F C s o cx t fr X _ aq e _ _ λJ bq h1 aZ aS p1=>?_)
 obtain⟨bM,bR,S1⟩:=p1
 cases J with
 |true=>
  rw [bT rfl]
  exact bk Y F bq _ bM cx a fr X _ (aq.next aS S1 aZ) bR _ _ λv2 bf h2 bS bp p2=>q v2 bf h2 bS (aS.trans bp) p2
 |false=>
  rw [bl gK]
  exact bk Y F bq _ bM cx b fr X _ (aq.next aS S1 aZ) bR _ _ λv2 bf h2 bS bp p2=>q v2 bf h2 bS (aS.trans bp) p2
theorem Vj(Zk:bZ Z ae)(bk:fj ae c w I n O.ev)(aq:Ctx c w I n Y F C s o cx fr X)(ns:gE R=true)(e:ae (K9 Z O R cx fr o k)):bc c w Y [] C s (eval (.Tuple R kd pos) X) (PV ae c w I F k):=by
 intro Q au q
 refine wpAny_Tuple (Ej bk R C s o _ aq ns e _ _ λV bq h1 aZ aS p1=>?_)
 obtain⟨B,bM,bR,S1,y1⟩:=p1
 refine xA (iU (x:=Z.fail) Zk bR) λJ bR=>?_
 have J:=j4 J
 refine⟨jk (by rw [y1.length];exact J),?_⟩
 refine xA (Gu (s:={s with heap:=h1,toks:=aZ}) S1 bR y1) λbp pv=>?_
 exact q _ bq _ aZ (aS.trans bp) pv
theorem UR(Zk:bZ Z ae)(bk:fj ae c w I n O.ev)(aq:Ctx c w I n Y F C s o cx fr X)(ns:gE R=true)(e:ae (K4 Z O R cx fr o k)):bc c w Y [] C s (eval (.List R pos) X) (PV ae c w I F k):=by
 intro Q au q
 refine wpAny_List (Ej bk R C s o _ aq ns e _ _ λV bq h1 aZ aS p1=>?_)
 obtain⟨B,bM,bR,S1,y1⟩:=p1
 have J:iB (.list B.length (rv B))=true:=by
  have e':ae (@bN (λ_=>ag) Z.fail (k (.ref bM.n) ⟨bM.t.ins bM.n (.list B.length (rv B)),cX bM.n⟩) (iB (.list B.length (rv B))&&cK ((bM.t.ins bM.n (.list B.length (rv B))).get bM.n))):=bR
  exact(aN.mp (iU (x:=Z.fail) Zk e').1).1
 have c4:=uu J
 refine⟨jk (by rw [y1.length];exact c4),?_⟩
 refine xA (p_ (M:=h1.push {cls:=.type "list",data:=.seq V.toArray}) Zk S1 bR (hV _) (fK _ _) λJ st=>oK J (hZ _ rfl) (by rw [fD];exact(y1.step st).reverse) (by rw [fD,ez];exact fG _)) λbp pv=>?_
 exact q _ _ _ aZ (aS.trans bp) pv
theorem NS(h:tf E=true):attributeBase E x X t=t:=by
 cases E with
 |Call f args kw p=>
  cases f with
  |Name id q=>
   cases args with
   |nil=>exact bz h
   |cons=>rfl
  |_=>rfl
 |_=>rfl
theorem UE(Zk:bZ Z ae)(T:Top c w K W I mg mb)(bk:fj ae c w I n O.ev)(aq:Ctx c w I n Y F C s o cx fr X)(hb:tf E=true)(e:ae (KX Z W O E x cx fr o k)):bc c w Y [] C s (eval (.Attribute E x pos) X) (PV ae c w I F k):=by
 intro Q au q
 rw [arm_eval_Attribute,NS hb]
 refine aO (bk Y F C s o cx E fr X _ aq e _ _ λv1 bq h1 aZ aS p1=>?_)
 obtain⟨m1,bM,bR,S1,x1⟩:=p1
 refine ay (gW Zk bR) λm e1 de=>?_
 refine aO (ju (aO (iP (Wd (s:={s with heap:=h1,toks:=aZ}) (own:=[]) T S1 e1 (Px T x1) _ _ λv2 bf h2 bS bp p2=>?_))))
 refine cf p2 ?_;clear p2;intro x2 aI aE;obtain rfl:=aI.symm;obtain rfl:=aE.symm
 exact aO (wpAny_letTemporaryGo (bX (q _ _ _ bS (aS.trans bp) (.intro de S1 x2))))
theorem UQ(Zk:bZ Z ae)(T:Top c w K W I mg mb)(bk:fj ae c w I n O.ev)(aq:Ctx c w I n Y F C s o cx fr X)(e:ae (K3 Z O E i cx fr o k)):bc c w Y [] C s (eval (.Subscript E i pos) X) (PV ae c w I F k):=by
 intro Q au q
 rw [Sy]
 refine aO (bk Y F C s o cx E fr X _ aq e _ _ λv1 bq h1 aZ aS p1=>?_)
 obtain⟨m1,bM,bR,S1,x1⟩:=p1
 refine aO (iP (bk Y F bq _ bM cx i fr X _ (aq.next aS S1 aZ) bR _ _ λv2 bf h2 bS bp p2=>?_))
 obtain⟨m2,dz,de,S2,x2⟩:=p2
 refine ay (gW Zk de) λm e1 dX=>?_
 refine aO (ju (aei (value:=E) (slice:=i) (s:={s with heap:=h2,toks:=bS}) (own:=[]) T S2 e1 (x1.step bp) x2 _ _ λv3 dY h3 ey dp p3=>?_))
 refine cf p3 ?_;clear p3;intro x3 aI aE;obtain rfl:=aI.symm;obtain rfl:=aE.symm
 exact q _ _ _ ey (aS.trans (bp.trans dp)) (.intro dX S2 x3)
end
section
variable{ag:Type}{Z:cU ag}{ae:ag->Prop}{c:a_}{w:WB}{Y:bG}{own F F' C ao:G aA}{s:aT}{I h M:aP}{o br:MH}{K:b8}{W:bQ}{mg mb:ar->aa aw}{n:H}{cx:Cx}{fr:Fm}{X:cL}{O:Ops ag}
theorem GX(bk:fj ae c w I n O.ev)(aq:Ctx c w I n Y F C s o cx fr X)(e:ae (Ac O cx E fr o k)):bc c w Y [] C s (evalPart E X) (PV ae c w I F k):=by
 intro Q au q
 cases E with
 |none=>exact bX (q _ C s.heap s.toks (.refl ..) (.intro e aq.st (by rfl)))
 |some a=>exact bk Y F C s o cx a fr X _ aq e _ _ q
theorem Vh(Zk:bZ Z ae)(bk:fj ae c w I n O.ev)(aq:Ctx c w I n Y F C s o cx fr X){lo up st:aa aX}(e:ae (K7 Z O E lo up st cx fr o k)):bc c w Y [] C s (eval (.Subscript E (.Slice lo up st p) pos) X) (PV ae c w I F k):=by
 intro Q au q
 rw [Sy]
 refine aO (bk Y F C s o cx E fr X _ aq e _ _ λv1 bq h1 aZ aS p1=>?_)
 obtain⟨m1,bM,bR,S1,x1⟩:=p1
 have C1:=aq.next aS S1 aZ
 refine aO (iP (wpAny_Slice (GX bk C1 bR _ _ λv2 bf h2 bS bp p2=>?_)))
 obtain⟨m2,dz,de,S2,x2⟩:=p2
 have C2:=C1.next bp S2 bS
 refine GX bk C2 de _ _ λv3 dY h3 ey dp p3=>?_
 obtain⟨m3,hM,dX,S3,x3⟩:=p3
 have C3:=C2.next dp S3 ey
 refine GX bk C3 dX _ _ λv4 gz h4 jt e_ p4=>?_
 obtain⟨m4,p7,jY,S4,x4⟩:=p4
 refine xA (S4.grow (fK h4 {cls:=.type "slice",data:=.fields #[v2,v3,v4]})) λkR S5=>?_
 refine aO (ju (adz (value:=E) (slice:=.Slice lo up st p) (own:=[]) (s:={s with heap:=h4.push {cls:=.type "slice",data:=.fields #[v2,v3,v4]},toks:=jt}) Zk S5 jY ((((x1.step bp).step dp).step e_).step kR) (((x2.step dp).step e_).step kR) ((x3.step e_).step kR) (x4.step kR) _ (Heap.IsSliceOf.new ..) _ _ λv6 af7 h6 aeR adP p6=>?_))
 exact q v6 af7 h6 aeR (aS.trans (bp.trans (dp.trans (e_.trans (kR.trans adP))))) p6
theorem J3(Zk:bZ Z ae)(e:ae (zL Z v k))(vx:VR c w F C h v x):∃b,x=.bool b/\v=.bool b/\ae (k b):=by
 cases v with
 |bool b=>exact⟨b,vx,rfl,e⟩
 |_=>exact(Zk.fail e).elim
set_option backward.match.sparseCases true in
theorem Tj:boolOp pos op (x::y::r)=(do
  let v <-x
  tH pos
  let t <-xK [v] (truthy v)
  match op,t with
  |.And,false|.Or,true=>pure v
  |_,_=>boolOp pos op (y::r)):=rfl
noncomputable def GO(fI:ah):BoolOp:=match fI with
 |true=>.And
 |false=>.Or
theorem Tp(Zk:bZ Z ae)(bk:fj ae c w I n O.ev):∀(R:G aX) (a:aX) (C:G aA) (s:aT) (o:MH) (k:D->MH->ag),Ctx c w I n Y F C s o cx fr X->ae (Dy Z O fI cx R a fr o k)->
  bc c w Y [] C s (boolOp pos (GO fI) (eval a X::evalEach R X)) (PV ae c w I F k):=by
 intro gr
 induction gr with
 |nil=>
  intro a C s o k aq e
  exact bk Y F C s o cx a fr X _ aq e
 |cons b R fQ=>
  intro a C s o k aq e
  intro Q au q
  rw [arm_evalEach_cons,Tj]
  refine aO (bk Y F C s o cx a fr X _ aq (show ae (O.ev cx a fr o λv o=>zL Z v λJ=>@bN (λ_=>ag) (Dy Z O fI cx R b fr o k) (k v o) (qt fI J)) from e) _ _ λv1 bq h1 aZ aS p1=>?_)
  obtain⟨m1,bM,bR,S1,x1⟩:=p1
  refine fM (J3 Zk bR x1) λJ aI aE bR=>?_;subst aI;skip
  refine aO (ju (aO (iP (II ?_))))
  have C1:=aq.next aS S1 aZ
  cases fI<;>cases J
  .exact fQ b bq _ bM k C1 bR _ _ λv2 bf h2 bS bp p2=>q v2 bf h2 bS (aS.trans bp) p2
  .exact bX (q _ bq h1 aZ aS (.intro bR S1 x1))
  .exact bX (q _ bq h1 aZ aS (.intro bR S1 x1))
  .exact fQ b bq _ bM k C1 bR _ _ λv2 bf h2 bS bp p2=>q v2 bf h2 bS (aS.trans bp) p2
theorem Pj(fF:mW ae c w I n O.fe):∀(R:G aX) (C:G aA) (s:aT) (o:MH) (k:ah->MH->ag),Ctx c w I n Y F C s o cx fr X->ae (vZ O fI cx R fr o k)->
  bc c w Y [] C s (allTrue (GO fI) R X) (PB ae c w I F k):=by
 intro gr
 induction gr with
 |nil=>
  intro C s o k aq e
  intro Q au q
  cases fI
  .exact wpAny_allTrue_Or_nil (q _ C s.heap s.toks (.refl ..) ⟨o,e,aq.st⟩)
  .exact wpAny_allTrue_And_nil (q _ C s.heap s.toks (.refl ..) ⟨o,e,aq.st⟩)
 |cons b R fQ=>
  intro C s o k aq e
  intro Q au q
  have e':ae (O.fe cx b fr o λJ o=>@bN (λ_=>ag) (vZ O fI cx R fr o k) (k J o) (qt fI J)):=e
  cases fI
  .refine wpAny_allTrue_Or_cons (fF Y F C s o cx b fr X _ aq e' _ _ λJ bq h1 aZ aS p1=>?_)
   obtain⟨bM,bR,S1⟩:=p1
   have C1:=aq.next aS S1 aZ
   cases J
   .rw [bl gK]
    exact fQ bq _ bM k C1 bR _ _ λv2 bf h2 bS bp p2=>q v2 bf h2 bS (aS.trans bp) p2
   .rw [bT rfl]
    exact q _ bq h1 aZ aS ⟨bM,bR,S1⟩
  .refine wpAny_allTrue_And_cons (fF Y F C s o cx b fr X _ aq e' _ _ λJ bq h1 aZ aS p1=>?_)
   obtain⟨bM,bR,S1⟩:=p1
   have C1:=aq.next aS S1 aZ
   cases J
   .rw [bl gK]
    exact q _ bq h1 aZ aS ⟨bM,bR,S1⟩
   .rw [bT rfl]
    exact fQ bq _ bM k C1 bR _ _ λv2 bf h2 bS bp p2=>q v2 bf h2 bS (aS.trans bp) p2
noncomputable def Sa(e:aX):VB->Prop
 |.plain=>∀X PQ,isTrue e X PQ=(do let v <-PQ;tH e.pos;xK [v] (truthy v))
 |.not a=>∃p,e=.UnaryOp .Not a p
 |.nc true R=>∃p,e=.BoolOp .And R p
 |.nc false R=>∃p,e=.BoolOp .Or R p
 |.cmp a op b=>∃p,e=.Compare a [op] [b] p/\Dm op b=false
 |.bad=>jz
theorem afe(e:aX):Sa e (Iv e):=by
 cases e with
 |BoolOp op V p=>cases op<;>exact⟨p,rfl⟩
 |UnaryOp op b p=>cases op<;>first|exact⟨p,rfl⟩|trivial
 |Compare a ops bs p=>
  cases ops with
  |nil=>trivial
  |cons op r=>cases r with
   |cons=>trivial
   |nil=>cases bs with
    |nil=>trivial
    |cons b r=>cases r with
     |cons=>trivial
     |nil=>cases b<;>first|exact⟨p,rfl,rfl⟩|trivial
 |IfExp=>trivial
 |_=>exact λ_ _=>rfl
theorem aeV(Zk:bZ Z ae)(T:Top c w K W I mg mb)(bk:fj ae c w I n O.ev)(fF:mW ae c w I n O.fe)(aq:Ctx c w I n Y F C s o cx fr X)(hh:ae (Ig Z W O cx e fr o k)):
  bc c w Y [] C s (isTrue e X (eval e X)) (PB ae c w I F k):=by
 unfold Ig at hh
 have cP:=afe e
 generalize Iv e=v at hh cP
 cases v with
 |plain=>
  intro Q au q
  refine wpAny_isTrue_value ?_ (cP X _)
  refine bk Y F C s o cx e fr X _ aq hh _ _ λv1 bq h1 aZ aS p1=>?_
  obtain⟨m1,bM,bR,S1,x1⟩:=p1
  refine fM (J3 Zk bR x1) λJ aI aE bR=>?_;subst aI;skip
  exact II (q J bq h1 aZ aS ⟨bM,bR,S1⟩)
 |bad=>exact(Zk.fail hh).elim
 |not a=>
  refine bw cP ?_;clear cP;intro p aI;rw [aI]
  exact λQ au q=>wpAny_isTrue_Not (fF Y F C s o cx _ fr X _ aq hh _ _ λJ bq h1 aZ aS p1=>q _ bq h1 aZ aS (by obtain⟨a,b,d⟩:=p1;exact⟨a,b,d⟩))
 |nc fI R=>
  cases fI with
  |true=>obtain⟨p,rfl⟩:=cP;exact λQ au q=>afy (Pj (fI:=true) fF _ C s o k aq hh _ _ q)
  |false=>obtain⟨p,rfl⟩:=cP;exact λQ au q=>afy (Pj (fI:=false) fF _ C s o k aq hh _ _ q)
 |cmp a op b=>
  refine ay cP ?_;clear cP;intro p aI hm;rw [aI]
  intro Q au q
  refine wpAny_isTrue_Compare1 (bk Y F C s o cx _ fr X _ aq hh _ _ λv1 bq h1 aZ aS p1=>?_) hm
  obtain⟨m1,bM,bR,S1,x1⟩:=p1
  refine bk Y F bq _ bM cx _ fr X _ (aq.next aS S1 aZ) bR _ _ λv2 bf h2 bS bp p2=>?_
  obtain⟨m2,dz,de,S2,x2⟩:=p2
  refine ay (gW Zk de) λr e3 dX=>?_
  refine Kv (s:={s with heap:=h2,toks:=bS}) (own:=[]) T S2 aq.units e3 (x1.step bp) x2 _ _ λv3 dY h3 ey dp p3=>?_
  refine cf p3 ?_;clear p3;intro eJ aI aE;subst eJ;obtain rfl:=aI.symm;obtain rfl:=aE.symm
  exact II (q _ _ _ ey (aS.trans (bp.trans dp)) ⟨dz,dX,S2⟩)
end
section
variable{ag:Type}{Z:cU ag}{ae:ag->Prop}{c:a_}{w:WB}{Y:bG}{own F F' C ao:G aA}{s:aT}{I h M:aP}{o br:MH}{K:b8}{W:bQ}{mg mb:ar->aa aw}{n:H}{cx:Cx}{fr:Fm}{X:cL}{O:Ops ag}
theorem cH.enter(f:jx I h M C new)(az:cH c w F C h cx fr X):cH c w (new++F) C M cx fr X:=
 az.gen (λ_ _=>f.keep _) (λb hb=>fC _ (az.lP b hb)) λ_ _ v=>v.enter f
theorem Ctx.enter(aq:Ctx c w I n Y F C s o cx fr X)(f:jx I s.heap M C new)(tk:H):Ctx c w I n Y (new++F) C {s with heap:=M,toks:=tk} o cx fr X:=
 ⟨aq.room,aq.st.enter f,aq.fr.enter f⟩
theorem bh.close(st:bh new C h ao M)(hn:∀b∈new,h.get? b=none)(hd:h.get? d=none):bh own C h (ao++[d]) M:=by
 have st:=st.more (jq:=own) λb hb=>.inr (hn b hb)
 exact⟨st.pre.trans (wD ..),st.keep,λb E e n=>⟨(st.out b E e n).1,λq=>by
  refine dC (dI.mp q) (λq=>?_) λq=>?_
  .exact(st.out b E e n).2 q
  .rw [cA.mp q,hd] at e;exact aB e⟩⟩
theorem So(e:wQ B=true):B.all (·.isSome)=true:=by
 induction B with
 |nil=>rfl
 |cons a B O=>
  refine xA (aN.mp (e:(cK a&&wQ B)=true)) λe1 e2=>?_
  rw [Qz,O e2]
  cases a with
  |none=>exact bz e1
  |some _=>rfl
theorem abt(Zk:bZ Z ae)(bk:fj ae c w I n O.ev):∀(ks:G (aa aX)) (V:G aX) (C:G aA) (s:aT) (o:MH) (k:G D->G D->MH->ag),Ctx c w I n Y F C s o cx fr X->ae (Eh Z O cx ks V fr o k)->
  bc c w Y [] C s (evalPairs (pairTrees ks V X pos)) (λps ao M=>∃a b br,ae (k a b br)/\St c w I F ao br M/\aW c w F ao M a (ps.map (·.1))/\aW c w F ao M b (ps.map (·.2))):=by
 intro ks
 induction ks with
 |nil=>
  intro V C s o k aq e
  cases V with
  |nil=>exact λQ au q=>bX (q [] C s.heap s.toks (.refl ..) ⟨[],[],o,e,aq.st,.nil,.nil⟩)
  |cons=>exact(Zk.fail e).elim
 |cons a ks fQ=>
  intro V C s o k aq e
  cases V with
  |nil=>exact(Zk.fail e).elim
  |cons v V=>
  cases a with
  |none=>exact(Zk.fail e).elim
  |some a=>
  intro Q au q
  have e':ae (O.ev cx a fr o λkv o=>O.ev cx v fr o λvv o=>Eh Z O cx ks V fr o λa b o=>k (kv::a) (vv::b) o):=e
  show bo _ _ (do
   let kv <-eval a X
   let vv <-xK [kv] (do let x <-eval v X;tH pos;pure x)
   return (kv,vv)::(<-xK [kv,vv] (evalPairs (pairTrees ks V X pos)))) _ _ _
  refine aO (bk Y F C s o cx a fr X _ aq e' _ _ λv1 bq h1 aZ aS p1=>?_)
  refine PV.el p1 λm1 bM bR S1 x1=>?_
  have C1:=aq.next aS S1 aZ
  refine aO (iP (aO (bk Y F bq _ bM cx v fr X _ C1 bR _ _ λv2 bf h2 bS bp p2=>aO (ju (bX ?_)))))
  refine PV.el p2 λm2 dz de S2 x2=>?_
  have C2:=C1.next bp S2 bS
  refine aO (iP (fQ V bf _ dz _ C2 de _ _ λps dY h3 ey dp p3=>bX ?_))
  refine dO p3 λla lb hM dX bB=>cf bB λS3 y1 y2=>?_
  exact q _ dY h3 ey (aS.trans (bp.trans dp)) ⟨m1::la,m2::lb,hM,dX,S3,.cons ((x1.step bp).step dp) y1,.cons (x2.step dp) y2⟩
theorem KO(e:uB (k::ks) V R=some dD):∃v r jV,V=v::r/\dput R k v=some jV/\uB ks r jV=some dD:=by
 cases V with
 |nil=>exact aB e
 |cons v r=>
  have e':(match dput R k v with|some R=>uB ks r R|.none=>.none)=some dD:=e
  generalize q:dput R k v=ax at e'
  cases ax with
  |none=>exact aB e'
  |some jV=>exact⟨v,r,jV,rfl,q,e'⟩
theorem Ua:∀{ks V:G D} {R dD:G (D×D)},uB ks V R=some dD->R.length<=dD.length:=by
 intro gr
 induction gr with
 |nil=>
  intro V R dD e
  cases V with
  |nil=>cases e;exact fG _
  |cons _ _=>exact aB e
 |cons k ks fQ=>
  intro V R dD e
  refine dO (KO e) λv r jV bU bB=>xA bB λe1 e2=>?_;skip
  exact dQ (z8 e1).1 (fQ e2)
theorem ad6(l4:dD.length<=4096):∀(ks V:G D) (ps:G (aw×aw)) (R:G (D×D)) (s:aT),uB ks V R=some dD->aW c w F C hv ks (ps.map (·.1))->aW c w F C hv V (ps.map (·.2))->DR c w F C hv s.heap d R->
  (∀M tk,DR c w F C hv M d dD->iC d s.heap M->(∃E,M.get? d=some E)->Q ⟨⟩ {s with heap:=M,toks:=tk})->bo (bK c w.w) Y (JM d ps) Q au s:=by
 intro gr
 induction gr with
 |nil=>
  intro V ps R s e y1 y2 dr q
  cases V with
  |cons _ _=>exact aB e
  |nil=>
   cases e
   have:ps=[]:=Cw.mp y1.dW
   rw [this]
   unfold JM
   rw [wy]
   have hx:∃E,s.heap.get? d=some E:=by
    obtain⟨aR,d,_⟩|⟨aR,d,_⟩:=dr<;>exact qJ d
   exact bX (q s.heap s.toks dr (.refl ..) hx)
 |cons k ks fQ=>
  intro V ps R s e y1 y2 dr q
  refine dO (KO e) λv r jV bU bB=>xA bB λe1 e2=>?_;subst bU
  cases ps with
  |nil=>obtain⟨_,_,z,_⟩:=y1.cj;cases z
  |cons p ps=>
   refine dR.el y1.cj λkv r1 z1 a1 a2=>?_
   refine dR.el y2.cj λvv r2 z2 b1 b2=>?_
   cases z1
   cases z2
   unfold JM
   rw [o_]
   refine aO (aO (DR.set s dr e1 (dQ (dQ (z8 e1).1 (Ua e2)) l4) a1 b1 λh1 xi AF=>bX ?_))
   have hx:∃E,s.heap.get? d=some E:=by
    obtain⟨aR,d,_⟩|⟨aR,d,_⟩:=dr<;>exact qJ d
   exact fQ r ps jV {s with heap:=h1,toks:=s.toks+1} e2 a2 b2 xi λh2 bS xj oE hy=>q h2 bS xj (AF.trans oE) hy
theorem UM(Zk:bZ Z ae)(bk:fj ae c w I n O.ev)(aq:Ctx c w I n Y F C s o cx fr X)(J:(dB ks.length 16&&wQ ks&&bA ks.length V.length)=true)(e:ae (K1 Z O ks V cx fr o k)):
  bc c w Y [] C s (eval (.Dict ks V pos) X) (PV ae c w I F k):=by
 refine xA (aN.mp J) λJ c3=>?_
 refine xA (aN.mp J) λc1 c2=>?_
 have c1:ks.length<16:=dw c1
 have c3:=dU c3
 intro Q au q
 have D0:=hV s.heap
 cases ks with
 |nil=>
  have:V=[]:=wz.mp c3.symm
  subst this
  have e':ae (iV Z o (.dict []) k):=e
  show bo (bK c w.w) Y (do tH pos;newDict) Q au s
  refine aO (ju ?_)
  unfold newDict
  refine PT ?_
  refine xA (p_ (M:=s.heap.push {cls:=.type "dict",data:=.dict #[]}) Zk aq.st e' (hV _) (fK _ _) λJ st=>(DR.new (hv:=s.heap)).or st (gA _)) λst pv=>?_
  exact q _ _ _ s.toks st pv
 |cons k0 ks=>
  refine wpAny_Dict_any (So c2) c3 (λz=>nomatch z) (by lia) ?_
  have f:jx I s.heap (s.heap.push {cls:=.type "dict",data:=.dict #[]}) C [s.heap.objs.size]:=⟨fK _ _,λb hb=>by rw [cA.mp hb];exact⟨D0,_,hZ _ rfl⟩⟩
  have C1:=aq.enter f s.toks
  refine cf (aq.st.lO D0) λd1 d2 d3=>?_
  have agf:DR c w ([s.heap.objs.size]++F) C s.heap (s.heap.push {cls:=.type "dict",data:=.dict #[]}) s.heap.objs.size []:=.new
  refine abt Zk bk (k0::ks) V C _ o _ C1 e _ _ λps bq h1 aZ aS p1=>?_
  refine dO p1 λla lb bM bR bB=>cf bB λS1 y1 y2=>?_
  refine ay (gW Zk bR) λR e1 de=>?_
  have c4:R.length<=4096:=by
   have e':ae (@bN (λ_=>ag) Z.fail (k (.ref bM.n) ⟨bM.t.ins bM.n (.dict R),cX bM.n⟩) (iB (.dict R)&&cK ((bM.t.ins bM.n (.dict R)).get bM.n))):=de
   exact j4 (aN.mp (iU (x:=Z.fail) Zk e').1).1
  have gd:∀E,(s.heap.push {cls:=.type "dict",data:=.dict #[]}).get? s.heap.objs.size=some E->h1.get? s.heap.objs.size=some E:=λE e=>aS.keep _ E e d1 λz=>nomatch z
  have xi:DR c w ([s.heap.objs.size]++F) bq h1 h1 s.heap.objs.size []:=.inl ⟨[],sg (Cm s.heap) gd,.nil,λp z=>nomatch z⟩
  refine ad6 c4 la lb ps [] {s with heap:=h1,toks:=aZ} e1 y1 y2 xi λh2 bS xj oE hy=>?_
  refine xA (S1.turn (.head _) oE hy) λbp S2=>?_
  have hF:∀b∈[s.heap.objs.size],b∈[s.heap.objs.size]++F:=λb hb=>iR _ hb
  have tr:∀m v,VR c w ([s.heap.objs.size]++F) bq h1 m v->VR c w F (bq++[s.heap.objs.size]) h2 m v:=λm v x=>(x.fx hF bp).mono zF (.inr wO)
  have pv:=Gq (a:=s.heap.objs.size) Zk S2 d2 de λJ=>⟨by
   obtain⟨aR,d,u,sk⟩|⟨aR,d,u⟩:=xj
   .exact .inl ⟨aR,d,u.imp tr,sk⟩
   .exact .inr ⟨aR,d,u.imp tr⟩,c4⟩
  refine q _ _ h2 bS ?_ pv
  exact bh.close (new:=[s.heap.objs.size]) (((bh.of_keeps f.keep).trans aS.any).trans bp) (λb hb=>(f.new b hb).1) D0
end
section
variable{ag:Type}{Z:cU ag}{ae:ag->Prop}{c:a_}{w:WB}{Y:bG}{own F F' C ao:G aA}{s:aT}{I h M:aP}{o br:MH}{K:b8}{W:bQ}{mg mb:ar->aa aw}{n:H}{cx:Cx}{fr:Fm}{X:cL}{O:Ops ag}
theorem FD(T:Top c w K W I mg mb)(J:r9 W m=true)(x:VR c w F C h m v)(h1:aP)(pW:K.In h1):∃k,(k=Jc\/k=Jd\/k=Jb)/\Looks (bK c w.w) h1 (keeperOf v) k:=by
 cases m with
 |fn a=>
  subst x
  exact keeps_K (T.call a J) h1 pW
 |bi b=>
  subst x
  exact⟨.machine,.inr (.inl rfl),by cases b<;>exact .now⟩
 |_=>exact bz J
theorem yg:∀{R:G aX} {X:cL} {pos:Pos},gE R=true->(ur pos (rt R X)).any (·.1)=false:=by
 intro gr
 induction gr with
 |nil=>
  intro _ _ _
  exact rfl
 |cons e R fQ=>
  intro X pos h
  refine xA (s_ h) λh1 h2=>?_
  rw [h2 X]
  exact fQ (pos:=pos) h1
theorem DD(T:Top c w K W I mg mb)(bk:fj ae c w I n O.ev)(aq:Ctx c w I n Y F C s o cx fr X)(hk:∀h1,K.In h1->∃k,(k=Jc\/k=Jd\/k=Jb)/\Looks (bK c w.w) h1 (keeperOf f) k)(ns:gE R=true)
  (e:ae (sy O cx R fr o k)) (r:∀B V bq h1 aZ bM,bh [] C s.heap bq h1->St c w I F bq bM h1->aW c w F bq h1 B V->ae (k B bM)->bc c w Y [] bq {s with heap:=h1,toks:=aZ} (call f (first++V)) P):
  bc c w Y [] C s (callWith pos f first (ur pos (rt R X)) []) P:=by
 intro Q au q
 refine DC (P:=λh=>K.In h) (by rw [yg ns];rfl) hk ?_
 cases R with
 |nil=>
  refine evalArgs_nil3 ⟨(T.ns aq.st).2.2.1,?_⟩
  exact r [] [] C s.heap s.toks o (.refl ..) aq.st .nil e _ _ q
 |cons a R=>
  refine xA (s_ ns) λ_ h2=>?_
  have key:=Ej (pos:=pos) bk (a::R) C s o k aq ns e
  rw [h2 X] at key⊢
  refine Lo (key _ _ λV bq h1 aZ aS p1=>?_)
  obtain⟨B,bM,bR,S1,y1⟩:=p1
  exact⟨(T.ns (s:={s with heap:=h1,toks:=aZ}) S1).2.2.1,r B V bq h1 aZ bM aS S1 y1 bR _ _ λv bf h2 bS bp p2=>q v bf h2 bS (aS.trans bp) p2⟩
theorem UI(Zk:bZ Z ae)(T:Top c w K W I mg mb)(bk:fj ae c w I n O.ev)(fF:qu ae c w I n O.call)(aq:Ctx c w I n Y F C s o cx fr X)(ns:gE R=true)(e:ae (KZ Z W O (.Name x p) R cx fr o k)):
  bc c w Y [] C s (eval (.Call (.Name x p) R [] pos) X) (PV ae c w I F k):=by
 intro Q au q
 rw [Dh]
 refine aO (bk Y F C s o cx _ fr X _ aq e _ _ λv1 bq h1 aZ aS p1=>?_)
 obtain⟨m1,bM,bR,S1,x1⟩:=p1
 refine xA (iU (x:=Z.fail) Zk bR) λJ bR=>?_
 have C1:=aq.next aS S1 aZ
 exact DD T bk C1 (FD T J x1) ns bR (λB V bf h2 bS dz bp S2 y2 de=>fF Y F bf _ dz m1 v1 B V k aq.room S2 (x1.step bp) y2 de) _ _ λv2 bf h2 bS bp p2=>q v2 bf h2 bS (aS.trans bp) p2
theorem US(Zk:bZ Z ae)(T:Top c w K W I mg mb)(bk:fj ae c w I n O.ev)(fF:qu ae c w I n O.call)(aq:Ctx c w I n Y F C s o cx fr X)(ns:gE R=true)(J:(tf E&&bA zJ.endLine pos.line&&dB R.length 29)=true)(e:ae (K5 Z W O E x R cx fr o k)):
  bc c w Y [] C s (eval (.Call (.Attribute E x zJ) R [] pos) X) (PV ae c w I F k):=by
 refine xA (aN.mp J) λJ c3=>?_
 refine xA (aN.mp J) λc1 c2=>?_
 have c2:(zJ.endLine==pos.line)=true:=by rw [qG];exact dU c2
 have c3:R.length<29:=dw c3
 have V0:methodCallForm (R.length+([]:G Keyword).length) (ur pos (rt R X)) (backToKw pos (MQ [] X))=true:=by
  unfold methodCallForm
  have:(ur pos (rt R X)).all (λt=>!t.1)=true:=by
   have:=yg (X:=X) (pos:=pos) ns
   rw [zb] at this
   rw [l9]
   intro t ht
   have:=this t ht
   cases z:t.1 with
   |true=>exact bP z this
   |false=>rfl
  rw [this]
  have:(backToKw pos (MQ [] X))=[]:=rfl
  rw [this]
  simp only [List.all_nil,Bool.true_and,rM,CG,List.isEmpty_nil,if_true,KL]
  exact dQ (by assumption) (by decide)
 intro Q au q
 rw [arm_eval_Call,NS c1]
 refine aO (bk Y F C s o cx E fr X _ aq e _ _ λv1 bq h1 aZ aS p1=>aO (ju ?_))
 obtain⟨m1,bM,bR,S1,x1⟩:=p1
 have C1:=aq.next aS S1 aZ
 unfold methodCall
 rw [V0]
 have q':∀(a:aw) (ao:G aA) (M:aP) (tk:H),bh [] bq h1 ao M->PV ae c w I F k a ao M->Q a {s with heap:=M,toks:=tk}:=λv2 bf h2 bS bp p2=>q v2 bf h2 bS (aS.trans bp) p2
 have Xh:∀E,Nq true E X zJ pos=pure pos:=λE=>by unfold Nq;rw [c2];rfl
 have pL:∀{g:aw} {first:G aw},bo (bK c w.w) Y (callWith pos g first (ur pos (rt R X)) []) Q au {s with heap:=h1,toks:=aZ}->
   bo (bK c w.w) Y (do let Tz <-Nq true E X zJ pos;callWith Tz g first (ur pos (rt R X)) (backToKw pos (MQ [] X))) Q au {s with heap:=h1,toks:=aZ}:=λz=>by
  rw [Xh]
  exact aO (bX z)
 unfold Np at bR
 generalize hm:A6 bM W (yN W m1) x=ax at bR
 cases ax with
 |some g=>
  refine xA (iU (x:=Z.fail) Zk bR) λcc bR=>?_
  obtain⟨a,rfl,gm⟩:=Z0 (Y:=Y) (s:={s with heap:=h1,toks:=aZ}) T S1 hm (Px T x1)
  refine aO (iP (gm _ _ (pL ?_)))
  have xg:∀ao M,VR c w F ao M (.fn g) (.ref g):=λao M=>by rfl
  exact DD T bk C1 (FD T cc (xg bq h1)) ns bR (λB V bf h2 bS dz bp S2 y2 de=>fF Y F bf _ dz (.fn g) (.ref g) (m1::B) (.ref a::V) k aq.room S2 (xg bf h2) (.cons (x1.step bp) y2) de) _ _ q'
 |none=>
  refine ay (gW Zk bR) λm e2 de=>?_
  refine aO (iP (acz (s:={s with heap:=h1,toks:=aZ}) S1 e2 x1 _ _ (pL ?_)))
  have xg:∀h1,K.In h1->∃k,(k=Jc\/k=Jd\/k=Jb)/\Looks (bK c w.w) h1 (keeperOf (.builtin m.id)) k:=λh1 _=>⟨.machine,.inr (.inl rfl),.now⟩
  exact DD T bk C1 xg ns de (λB V bf h2 bS dz bp S2 y2 de=>ZZ (s:={s with heap:=h2,toks:=bS}) (own:=[]) Zk T S2 de (x1.step bp) y2) _ _ q'
theorem Yp:vM=rX "key" :=by decide+kernel
theorem Vi(Zk:bZ Z ae)(T:Top c w K W I mg mb)(bk:fj ae c w I n O.ev)(fF:qu ae c w I n O.call)(aq:Ctx c w I (n+1) Y F C s o cx fr X)(ns:gE [a]=true)(e:ae (K8 Z W O (.Name x p) a kf cx fr o k)):
  bc c w Y [] C s (eval (.Call (.Name x p) [a] [⟨some vM,kf,kp⟩] pos) X) (PV ae c w I F k):=by
 intro Q au q
 rw [Dh]
 refine aO (bk Y F C s o cx _ fr X _ aq.lower e _ _ λv1 bq h1 aZ aS p1=>?_)
 obtain⟨m1,bM,bR,S1,x1⟩:=p1
 have C1:=aq.lower.next aS S1 aZ
 refine xA (s_ ns) λ_ h2=>?_
 refine xA (iU (x:=Z.fail) Zk bR) λcc bR=>?_
 refine DC (P:=λh=>K.In h) (by rw [yg ns];rfl) (FD T cc x1) (evalArgs_kw2 (by rfl) ?_ (h2 X))
 refine wpAny_items_cons ?_ (h2 X)
 refine bk Y F bq _ bM cx a fr X _ C1 bR _ _ λv2 bf h2 bS bp p2=>?_
 obtain⟨m2,dz,de,S2,x2⟩:=p2
 have C2:=C1.next bp S2 bS
 refine wpAny_items_nil ?_
 show bo (bK c w.w) Y (evalAll [do let v <-eval kf X;tH pos;pure v]) _ _ _
 refine wpAny_evalAll_cons (aO (bk Y F bf _ dz cx kf fr X _ C2 de _ _ λv3 dY h3 ey dp p3=>?_))
 obtain⟨m3,hM,dX,S3,x3⟩:=p3
 refine aO (ju (bX (wpAny_evalAll_nil ⟨(T.ns (s:={s with heap:=h3,toks:=ey}) S3).2.2.1,?_⟩)))
 cases m1 with
 |bi b=>
  cases b with
  |sorted=>
   subst x1
   refine(?_:bo (bK c w.w) Y (call (.builtin "sorted") [v2] [(vM,v3)]) _ _ _)
   rw [Yp]
   exact adG (own:=[]) (s:={s with heap:=h3,toks:=ey}) Zk fF aq.room S3 dX (x2.step dp) x3 _ _ λv4 gz h4 jt e_ p4=>q v4 gz h4 jt (aS.trans (bp.trans (dp.trans e_))) p4
  |_=>exact(Zk.fail dX).elim
 |_=>exact(Zk.fail dX).elim
end
inductive wK(c:a_)(w:WB)(F C:G aA)(h:aP)(B:G D)(it:aA):Prop
 |mk (t:aA) (V:dS aw) (n j:H):cM F C t->h.get? t=some (kX V n)->h.IsTupleIter it t j->aW c w F C h B (V.toList.drop j)->wK c w F C h B it
theorem wK.el{az:Prop}(z:wK c w F C h B it)(k:∀t V n j,cM F C t->h.get? t=some (kX V n)->h.IsTupleIter it t j->aW c w F C h B (V.toList.drop j)->az):az:=z.casesOn k
inductive wJ(c:a_)(w:WB)(F C:G aA)(h:aP)(B:G D)(it:aA):Prop
 |mk (t:aA) (V:dS aw) (n j:H):cM F C t->h.get? t=some (fT V n)->h.IsListIter it t j->aW c w F C h B (V.toList.drop j)->wJ c w F C h B it
theorem wJ.el{az:Prop}(z:wJ c w F C h B it)(k:∀t V n j,cM F C t->h.get? t=some (fT V n)->h.IsListIter it t j->aW c w F C h B (V.toList.drop j)->az):az:=z.casesOn k
noncomputable def SI(c:a_)(w:WB)(F C:G aA)(h:aP):It->aA->Prop
 |.lst i k,it=>∃a,C[i]?=some a/\h.IsListIter it a k
 |.tup B,it=>wK c w F C h B it
 |.bz B,it=>wJ c w F C h B it
 |_,_=>dP
inductive JS(c:a_)(w:WB)(F C:G aA)(h:aP)(a b:It)(v:aw)(own:G aA):Prop
 |mk (z TI TO i1 i2:aA) (x y:aw):v=.ref z->own=[z,TI,TO,i1,i2]->own.Nodup->tY h z TI TO .none->wt h TI (.ref i1) (.ref i2)->wt h TO x y->SI c w F C h a i1->SI c w F C h b i2->JS c w F C h a b v own
noncomputable def fO(c:a_)(w:WB)(F C:G aA)(h:aP):It->aw->G aA->Prop
 |.range k n,v,own=>∃i left,v=.ref i/\own=[i]/\IsRangeIter h i k left 1/\(left=n-k\/left<=0/\n-k<=0)
 |.zip a b,v,own=>JS c w F C h a b v own
 |it,v,own=>∃i,v=.ref i/\own=[i]/\SI c w F C h it i
noncomputable def Ib(it:It)(t:aX):Prop:=match it with
 |.zip _ _=>∃R k p,t=.Tuple R k p
 |_=>jz
section
variable{ag:Type}{Z:cU ag}{ae:ag->Prop}{c:a_}{w:WB}{Y:bG}{own F F' C ao:G aA}{s:aT}{I h M:aP}{o br:MH}{K:b8}{W:bQ}{mg mb:ar->aa aw}{n:H}{cx:Cx}{fr:Fm}{X:cL}{O:Ops ag}
theorem SI.step(hF:∀b∈own,b∈F)(st:bh own C h ao M)(hi:∀E,h.get? i=some E->M.get? i=some E)(x:SI c w F C h it i):SI c w F ao M it i:=by
 cases it with
 |lst j k=>
  refine ay x λa e g=>?_
  exact⟨a,st.pl _ _ e,g.at hi⟩
 |tup B=>
  obtain⟨t,V,n,j,sf,g,q,y⟩:=x
  exact⟨t,V,n,j,sf.step st g,st.at hF sf _ g,(let⟨E,ho,r⟩:=q;⟨E,hi E ho,r⟩),y.fx hF st⟩
 |bz B=>
  obtain⟨t,V,n,j,sf,g,q,y⟩:=x
  exact⟨t,V,n,j,sf.step st g,st.at hF sf _ g,q.at hi,y.fx hF st⟩
 |_=>exact x
theorem SI.there(x:SI c w F C h it i):∃E,h.get? i=some E:=by
 cases it with
 |lst j k=>obtain⟨a,e,E,ho,_⟩:=x;exact⟨E,ho⟩
 |tup B=>obtain⟨t,V,n,j,sf,g,⟨E,ho,_⟩,y⟩:=x;exact⟨E,ho⟩
 |bz B=>obtain⟨t,V,n,j,sf,g,⟨E,ho,_⟩,y⟩:=x;exact⟨E,ho⟩
 |_=>exact x.elim
theorem fO.there(x:fO c w F C h it v own):∀b∈own,∃E,h.get? b=some E:=by
 have si:∀{it:It},(∃i,v=.ref i/\own=[i]/\SI c w F C h it i)->∀b∈own,∃E,h.get? b=some E:=by
  rintro it ⟨i,rfl,rfl,sx⟩ b hb
  rw [cA.mp hb];exact SI.there sx
 cases it with
 |range k n=>
  refine eK x ?_;clear x;intro i left aE bU g _;skip;rw [bU]
  intro b hb
  rw [cA.mp hb];exact⟨_,g⟩
 |zip a b=>
  obtain⟨z,TI,TO,i1,i2,x,y,rfl,rfl,nd,g1,g2,g3,s1,s2⟩:=x
  intro b hb
  simp only [bY,eP,gF] at hb
  rcases hb with rfl|rfl|rfl|rfl|rfl
  .exact⟨_,g1⟩
  .exact⟨_,g2⟩
  .exact⟨_,g3⟩
  .exact s1.there
  .exact s2.there
 |lst i k=>exact si x
 |tup B=>exact si x
 |bz B=>exact si x
theorem fO.step(hF:∀b∈jq,b∈F)(st:bh jq C h ao M)(x:fO c w F C h it v own)(hk:∀b∈own,∀E,h.get? b=some E->M.get? b=some E):fO c w F ao M it v own:=by
 have si:∀{it:It},(∃i,v=.ref i/\own=[i]/\SI c w F C h it i)->∃i,v=.ref i/\own=[i]/\SI c w F ao M it i:=by
  rintro it ⟨i,rfl,rfl,sx⟩
  exact⟨i,rfl,rfl,SI.step hF st (hk i (.head _)) sx⟩
 cases it with
 |range k n=>
  refine eK x ?_;clear x;intro i left aE bU g hl;rw [aE];subst bU
  exact⟨i,left,rfl,rfl,hk i (.head _) _ g,hl⟩
 |zip a b=>
  obtain⟨z,TI,TO,i1,i2,x,y,rfl,rfl,nd,g1,g2,g3,s1,s2⟩:=x
  refine⟨z,TI,TO,i1,i2,x,y,rfl,rfl,nd,hk _ (by simp) _ g1,hk _ (by simp) _ g2,hk _ (by simp) _ g3,s1.step hF st (hk _ (by simp)),s2.step hF st (hk _ (by simp))⟩
 |lst i k=>exact si x
 |tup B=>exact si x
 |bz B=>exact si x
theorem SI.enter(f:jx I h M C new)(x:SI c w F C h it i):SI c w (new++F) C M it i:=by
 cases it with
 |lst j k=>
  refine ay x λa e g=>?_
  exact⟨a,e,g.at λE e=>f.keep _ E e⟩
 |tup B=>
  obtain⟨t,V,n,j,sf,g,q,y⟩:=x
  refine xA (pH f _ _ g sf) λg' j8=>?_
  exact⟨t,V,n,j,j8,g',(let⟨E,ho,r⟩:=q;⟨E,f.keep _ E ho,r⟩),y.enter f⟩
 |bz B=>
  obtain⟨t,V,n,j,sf,g,q,y⟩:=x
  refine xA (pH f _ _ g sf) λg' j8=>?_
  exact⟨t,V,n,j,j8,g',q.at λE e=>f.keep _ E e,y.enter f⟩
 |_=>exact x
theorem drop_cons{α:Type}{B:G α}{v:α}{r:G α}(e:B.drop j=v::r):B[j]?=some v/\B.drop (j+1)=r:=by
 constructor
 .have:(B.drop j)[0]?=some v:=by rw [e];rfl
  rwa [Cs,CG] at this
 .have:(B.drop j).drop 1=r:=by rw [e];rfl
  rwa [QD] at this
theorem drop_nil{α:Type}{B:G α}(e:B.drop j=[]):B[j]?=none:=by
 rw [Jl]
 have:=cq zg e
 rw [rL,rM] at this
 lia
theorem SI.next(S:St c w I F C o s.heap){it dJ:It}{i:aA}(x:SI c w F C s.heap it i)(hi:i∈F)(e:fs o it=some (some (m,dJ))){Q:aa aw->aT->Prop}
  (q:∀v M,VR c w F C s.heap m v->SI c w F C M dJ i->iC i s.heap M->(∃E,M.get? i=some E)->Q (some v) {s with heap:=M}):bo (bK c w.w) Y (qh (.ref i)) Q au s:=by
 have ex:∀{M:aP} {a k},M.IsListIter i a k->∃E,M.get? i=some E:=λ⟨E,ho,_⟩=>⟨E,ho⟩
 cases it with
 |lst j k=>
  refine ay x λa p1 g=>?_
  have e':(match listAt o j with|some B=>(match fJ B k with|some v=>some (some (v,It.lst j (cX k)))|.none=>some .none)|.none=>.none)=some (some (m,dJ)):=e
  unfold listAt at e'
  generalize e1:o.t.get j=ax at e'
  cases ax with
  |none=>exact aB e'
  |some E=>
   have r:=S.ref p1 e1
   cases E with
   |list b r'=>
    dsimp only at e'
    refine eO r λV n g0 y z=>?_
    generalize e2:fJ (rv r') k=ax at e'
    cases ax with
    |none=>cases e'
    |some v=>
     cases e'
     rw [oN,fD] at e2
     have y':aW c w F C s.heap r'.reverse V.toList:=by have:=y.reverse;rwa [mU] at this
     refine ay (y'.get e2) λu hu vu=>?_
     exact PX g ⟨_,g0,rfl,n,rfl⟩ (by simpa using hu) λM eZ hs=>q u M vu ⟨a,p1,eZ⟩ hs (ex eZ)
   |_=>exact aB e'
 |tup B=>
  obtain⟨t,V,n,j,sf,g,qi,y⟩:=x
  cases B with
  |nil=>cases e
  |cons m' B=>
   cases e
   obtain⟨u,r,z,vu,y2⟩:=y.cj
   refine xA (drop_cons z) λz1 z2=>?_
   have kJ:t≠i:=λz=>sf.1 (z▸hi)
   refine wpAny_pyNext_tuple_item qi ⟨_,g,rfl,n,rfl⟩ (by simpa using z1) λM eZ hs=>?_
   have hx:∃E,M.get? i=some E:=let⟨E,ho,_⟩:=eZ;⟨E,ho⟩
   refine xA (S.turn hi hs hx) λst _=>?_
   have hF:∀b∈[i],b∈F:=λb hb=>by rw [cA.mp hb];exact hi
   exact q u M vu ⟨t,V,n,j+1,sf,(hs.2 t kJ).trans g,eZ,by rw [z2];exact y2.fx hF st⟩ hs hx
 |bz B=>
  obtain⟨t,V,n,j,sf,g,qi,y⟩:=x
  cases B with
  |nil=>cases e
  |cons m' B=>
   cases e
   obtain⟨u,r,z,vu,y2⟩:=y.cj
   refine xA (drop_cons z) λz1 z2=>?_
   have kJ:t≠i:=λz=>sf.1 (z▸hi)
   refine PX qi ⟨_,g,rfl,n,rfl⟩ (by simpa using z1) λM eZ hs=>?_
   refine xA (S.turn hi hs (ex eZ)) λst _=>?_
   have hF:∀b∈[i],b∈F:=λb hb=>by rw [cA.mp hb];exact hi
   exact q u M vu ⟨t,V,n,j+1,sf,(hs.2 t kJ).trans g,eZ,by rw [z2];exact y2.fx hF st⟩ hs (ex eZ)
 |_=>exact x.elim
theorem SI.stop(hh:Y.handled=none)(S:St c w I F C o s.heap){it:It}(x:SI c w F C s.heap it i)(e:fs o it=some none)
  (q:∀M,I4 i s.heap M->Q none {s with heap:=M}):bo (bK c w.w) Y (qh (.ref i)) Q au s:=by
 cases it with
 |lst j k=>
  refine ay x λa p1 g=>?_
  have e':(match listAt o j with|some B=>(match fJ B k with|some v=>some (some (v,It.lst j (cX k)))|.none=>some .none)|.none=>.none)=some none:=e
  unfold listAt at e'
  generalize e1:o.t.get j=ax at e'
  cases ax with
  |none=>exact aB e'
  |some E=>
   have r:=S.ref p1 e1
   cases E with
   |list b r'=>
    dsimp only at e'
    refine eO r λV n g0 y z=>?_
    generalize e2:fJ (rv r') k=ax at e'
    cases ax with
    |some v=>cases e'
    |none=>
     rw [oN,fD] at e2
     have y':aW c w F C s.heap r'.reverse V.toList:=by have:=y.reverse;rwa [mU] at this
     have:=y'.length
     rw [hX] at this
     rw [Jl] at e2
     exact PU hh g ⟨_,g0,rfl,n,rfl⟩ (IS (by lia)) q
   |_=>exact aB e'
 |tup B=>
  obtain⟨t,V,n,j,sf,g,qi,y⟩:=x
  cases B with
  |nil=>exact wpAny_pyNext_tuple_end hh qi ⟨_,g,rfl,n,rfl⟩ (by simpa using drop_nil y.dW) q
  |cons m' B=>cases e
 |bz B=>
  obtain⟨t,V,n,j,sf,g,qi,y⟩:=x
  cases B with
  |nil=>exact PU hh qi ⟨_,g,rfl,n,rfl⟩ (by simpa using drop_nil y.dW) q
  |cons m' B=>cases e
 |_=>exact x.elim
end
section
set_option tactic.hygienic true
section
variable{ag:Type}{Z:cU ag}{ae:ag->Prop}{c:a_}{w:WB}{Y:bG}{own F F' C ao:G aA}{s:aT}{I h M:aP}{o br:MH}{K:b8}{W:bQ}{mg mb:ar->aa aw}{n:H}{cx:Cx}{fr:Fm}{X:cL}{O:Ops ag}
set_option backward.match.sparseCases true in
theorem M3(ho:s.heap.get? i=some E)(hc:E.cls=.type J)(hn:["enumerate","zip","dict_itemiterator","dict_reverseitemiterator","odict_iterator","itertools.zip_longest","itertools.pairwise"].contains J=false)
  (q:Q () s):bo (bK c w.w) Y (A1 t (.ref i) u) Q au s:=by
 have key:∀a,bo (bK c w.w) Y (do
   let E <-load i
   match E.cls,E.data with
   |.type n,.fields V=>
    if ["enumerate","zip","dict_itemiterator","dict_reverseitemiterator","odict_iterator","itertools.zip_longest","itertools.pairwise"].contains n&&V[0]?==some (rawInt (a:aA)) then
     rule "for.unpacks-the-owned-tuple"
     updateField i 0 .none
   |_,_=>pure ()) Q au s:=by
  intro a
  refine aO (wpAny_load ho ?_)
  rw [hc]
  split
  .rename_i c' V e1 e2
   cases e1
   rw [hn,Bool.false_and,bl gK]
   exact bX q
  .exact bX q
 unfold A1
 cases t<;>first|exact bX q|(cases u<;>first|exact bX q|exact key _)
theorem Ya(x:SI c w F C h it i):∃E J,h.get? i=some E/\E.cls=.type J/\["enumerate","zip","dict_itemiterator","dict_reverseitemiterator","odict_iterator","itertools.zip_longest","itertools.pairwise"].contains J=false:=by
 cases it with
 |lst j k=>obtain⟨a,e,E,ho,hc,_⟩:=x;exact⟨E,_,ho,hc,by decide⟩
 |tup B=>obtain⟨t,V,n,j,sf,g,⟨E,ho,hc,_⟩,y⟩:=x;exact⟨E,_,ho,hc,by decide⟩
 |bz B=>obtain⟨t,V,n,j,sf,g,⟨E,ho,hc,_⟩,y⟩:=x;exact⟨E,_,ho,hc,by decide⟩
 |_=>exact x.elim
noncomputable def zD(c:a_)(w:WB)(I:aP):Prop:=
 ∀{Y:bG} {F C own:G aA} {s:aT} {o:MH} {a b dJ:It} {v:aw} {m:D} {t:aX} {Q':aw->aT->Prop} {au E':aw->aT->Prop},St c w I F C o s.heap->(∀b∈own,b∈F)->fO c w F C s.heap (.zip a b) v own->Ib (.zip a b) t->fs o (.zip a b)=some (some (m,dJ))->
  (∀u M tk,bh own C s.heap C M->St c w I F C o M->VR c w F C M m u->fO c w F C M dJ v own->Q' u {s with heap:=M,toks:=tk})->
  bo (bK c w.w) Y (qh v) (λr fX=>∃u,r=some u/\bo (bK c w.w) Y (A1 t v u) (λ_ kU=>Q' u kU) E' fX) au s
noncomputable def zE(c:a_)(w:WB)(I:aP):Prop:=
 ∀{Y:bG} {F C own:G aA} {s:aT} {o:MH} {a b:It} {v:aw} {Q:aa aw->aT->Prop} {au:aw->aT->Prop},Y.handled=none->St c w I F C o s.heap->(∀b∈own,b∈F)->fO c w F C s.heap (.zip a b) v own->fs o (.zip a b)=some none->
  (∀M,(∀b E,b∉own->s.heap.get? b=some E->M.get? b=some E)->Q none {s with heap:=M})->bo (bK c w.w) Y (qh v) Q au s
theorem fO.next(ZN:zD c w I)(S:St c w I F C o s.heap)(hF:∀b∈own,b∈F)(x:fO c w F C s.heap it v own)(ht:Ib it t)(e:fs o it=some (some (m,dJ))){Q':aw->aT->Prop}
  (q:∀u M tk,bh own C s.heap C M->St c w I F C o M->VR c w F C M m u->fO c w F C M dJ v own->Q' u {s with heap:=M,toks:=tk}):
  bo (bK c w.w) Y (qh v) (λr fX=>∃u,r=some u/\bo (bK c w.w) Y (A1 t v u) (λ_ kU=>Q' u kU) E' fX) au s:=by
 have si:∀{it dJ:It},(∃i,v=.ref i/\own=[i]/\SI c w F C s.heap it i)->fs o it=some (some (m,dJ))->(∀u M tk,bh own C s.heap C M->St c w I F C o M->VR c w F C M m u->(∃i,v=.ref i/\own=[i]/\SI c w F C M dJ i)->Q' u {s with heap:=M,toks:=tk})->
   bo (bK c w.w) Y (qh v) (λr fX=>∃u,r=some u/\bo (bK c w.w) Y (A1 t v u) (λ_ kU=>Q' u kU) E' fX) au s:=by
  rintro it dJ ⟨i,rfl,rfl,sx⟩ e q
  have hi:i∈F:=hF i (.head _)
  refine SI.next S sx hi e λu M vu O6 hs hx=>⟨u,rfl,?_⟩
  refine eO (Ya O6) λE J ho hc hn=>?_
  refine xA (S.turn hi hs hx) λst S'=>?_
  exact M3 (s:={s with heap:=M}) ho hc hn (q u M s.toks st S' (vu.fx hF st) ⟨i,rfl,rfl,O6⟩)
 cases it with
 |range k n=>
  refine eK x ?_;clear x;intro i left aE bU g hl;subst aE;subst bU
  have hi:i∈F:=hF i (.head _)
  have e':(match ltZ k n with|true=>some (some (.int k,It.range (k+1) n))|false=>some none)=some (some (m,dJ)):=e
  generalize J:ltZ k n=ax at e'
  cases ax with
  |false=>cases e'
  |true=>
   cases e'
   have hk:=(j5 k n).mp J
   refine wpAny_pyNext_range_item g (by lia) λM g' hs=>⟨_,rfl,?_⟩
   refine xA (S.turn hi hs ⟨_,g'⟩) λst S'=>?_
   refine M3 (s:={s with heap:=M,toks:=s.toks+1}) g' rfl (by decide) (q _ M _ st S' (by exact⟨_,rfl⟩) ⟨i,_,rfl,rfl,g',by lia⟩)
 |zip a b=>exact ZN S hF x ht e q
 |lst i k=>
  refine si (dJ:=dJ) x e λu M tk st S' vu sx=>q u M tk st S' vu ?_
  refine fM sx ?_;clear sx;intro i h1 h2 sx
  cases dJ with
  |range _ _=>exact sx.elim
  |zip _ _=>exact sx.elim
  |_=>exact⟨i,h1,h2,sx⟩
 |tup B=>
  refine si (dJ:=dJ) x e λu M tk st S' vu sx=>q u M tk st S' vu ?_
  refine fM sx ?_;clear sx;intro i h1 h2 sx
  cases dJ with
  |range _ _=>exact sx.elim
  |zip _ _=>exact sx.elim
  |_=>exact⟨i,h1,h2,sx⟩
 |bz B=>
  refine si (dJ:=dJ) x e λu M tk st S' vu sx=>q u M tk st S' vu ?_
  refine fM sx ?_;clear sx;intro i h1 h2 sx
  cases dJ with
  |range _ _=>exact sx.elim
  |zip _ _=>exact sx.elim
  |_=>exact⟨i,h1,h2,sx⟩
theorem fO.stop(ZS:zE c w I)(hh:Y.handled=none)(S:St c w I F C o s.heap)(hF:∀b∈own,b∈F)(x:fO c w F C s.heap it v own)(e:fs o it=some none)
  (q:∀M,(∀b E,b∉own->s.heap.get? b=some E->M.get? b=some E)->Q none {s with heap:=M}):bo (bK c w.w) Y (qh v) Q au s:=by
 have si:∀{it:It},(∃i,v=.ref i/\own=[i]/\SI c w F C s.heap it i)->fs o it=some none->bo (bK c w.w) Y (qh v) Q au s:=by
  rintro it ⟨i,rfl,rfl,sx⟩ e
  exact SI.stop hh S sx e λM hs=>q M λb E nb e=>hs b E (λz=>nb (cA.mpr z)) e
 cases it with
 |range k n=>
  refine eK x ?_;clear x;intro i left aE bU g hl;rw [aE];subst bU
  have e':(match ltZ k n with|true=>some (some (D.int k,It.range (k+1) n))|false=>some none)=some none:=e
  generalize J:ltZ k n=ax at e'
  cases ax with
  |true=>cases e'
  |false=>
   have hk:¬k<n:=λz=>by rw [(j5 k n).mpr z] at J;exact Ie J
   exact wpAny_pyNext_range_end hh g (by lia) λM hs=>q M λb E nb e=>hs b E (λz=>nb (cA.mpr z)) e
 |zip a b=>exact ZS hh S hF x e q
 |lst i k=>exact si x e
 |tup B=>exact si x e
 |bz B=>exact si x e
theorem D5(hk:∀b E,b∉own->h.get? b=some E->M.get? b=some E):∀b E,h.get? b=some E->cM (own++F) C b->M.get? b=some E/\cM F C b:=λb E e x=>⟨hk b E (λq=>x.1 (iR _ q)) e,λq=>x.1 (fC _ q),x.2⟩
theorem VR.drop(hk:∀b E,b∉own->h.get? b=some E->M.get? b=some E)(x:VR c w (own++F) C h m v):VR c w F C M m v:=x.mono (D5 hk) (.inr λ_ _ e=>e)
theorem St.drop(S:St c w I (own++F) C o h)(hk:∀b E,b∉own->h.get? b=some E->M.get? b=some E)(hd:∀b∈own,b∉F):St c w I F C o M:=by
 have no:∀b∈own,b∉C/\I.get? b=none:=λb hb=>(S.cI b (iR _ hb)).2
 refine⟨λb x e=>⟨hk b x (λq=>by rw [(no b q).2] at e;exact aB e) (S.keep b x e).1,(S.keep b x e).2⟩,S.len,S.apart,λb hb=>?_,λj b e=>?_⟩
 .obtain⟨⟨x,hx⟩,n1,n2⟩:=S.cI b (fC _ hb)
  exact⟨⟨x,hk b x (λq=>hd b q hb) hx⟩,n1,n2⟩
 .refine ay (S.at_ j b e) λx hx r=>?_
  refine bw r.some λy hy=>?_
  exact⟨x,hx,tj (D5 hk) (λ_ _ e=>e) ((hk b y (λq=>(no b q).1 (dy e)) hy).trans hy.symm) r⟩
theorem cH.drop(hk:∀b E,b∉own->h.get? b=some E->M.get? b=some E)(hd:∀b∈own,b∉F)(gD:∀b∈ownOf X,b∈F)(az:cH c w (own++F) C h cx fr X):cH c w F C M cx fr X:=
 az.gen (λb hb E e=>hk b E (λq=>hd b q (gD b hb)) e) gD λ_ _ v=>v.drop hk
end
end
section
variable{ag:Type}{Z:cU ag}{ae:ag->Prop}{c:a_}{w:WB}{Y:bG}{own F F' C ao:G aA}{s:aT}{I h M:aP}{o br:MH}{K:b8}{W:bQ}{mg mb:ar->aa aw}{n:H}{cx:Cx}{fr:Fm}{X:cL}{O:Ops ag}
inductive wg(ae:ag->Prop)(c:a_)(w:WB)(I:aP)(F C:G aA)(h:aP)(k:It->MH->ag)(eF:aw)(ao:G aA)(M:aP):Prop
 |mk (it:It) (own:G aA) (br:MH) (h1:aP):bh [] C h ao h1->St c w I F ao br h1->jx I h1 M ao own->own.Nodup->fO c w (own++F) ao M it eF own->ae (k it br)->wg ae c w I F C h k eF ao M
theorem adX(S:St c w I F C o s.heap){m:D}(e:pV o m=some it)(hh:ae (k it o))(x:VR c w F C s.heap m v)
  (q:∀eF M tk,wg ae c w I F C s.heap k eF C M->Q eF {s with heap:=M,toks:=tk}):bo (bK c w.w) Y (oQ v) Q au s:=by
 have fr:∀E:jy,E.isFreed=false->jx I s.heap (s.heap.push E) C [s.heap.objs.size]:=λE ho=>⟨fK _ _,λb hb=>by rw [cA.mp hb];exact⟨hV _,_,hZ _ ho⟩⟩
 cases m with
 |tup B=>
  cases e
  refine gq.el x.gi λt V n bU sf g y=>?_;rw [bU]
  refine afB ⟨_,g,rfl,n,rfl⟩ (q _ _ s.toks ⟨.tup B,[s.heap.objs.size],o,s.heap,.refl ..,S,fr _ rfl,by simp,?_,hh⟩)
  refine xA (pH (fr {cls:=.type "tuple_iterator",data:=.fields #[.ref t,.int 0 0]} rfl) _ _ g sf) λg' j8=>?_
  exact⟨_,rfl,rfl,t,V,n,0,j8,g',⟨_,hZ _ rfl,rfl,rfl⟩,by rw [Cq];exact y.enter (fr _ rfl)⟩
 |ref i=>
  have e':(match o.t.get i with|some E=>(match E with|.list _ _=>some (It.lst i 0)|_=>.none)|.none=>.none)=some it:=e
  refine ay x ?_;clear x;intro a p1 aE;subst aE
  generalize e1:o.t.get i=ax at e'
  cases ax with
  |none=>exact aB e'
  |some E=>
   have r:=S.ref p1 e1
   cases E with
   |list b r'=>
    cases e'
    refine eO r λV n g y z=>?_
    exact B_ ⟨_,g,rfl,n,rfl⟩ (q _ _ s.toks ⟨.lst i 0,[s.heap.objs.size],o,s.heap,.refl ..,S,fr _ rfl,by simp,⟨_,rfl,rfl,a,p1,_,hZ _ rfl,rfl,rfl⟩,hh⟩)
   |_=>exact aB e'
 |aD J B=>
  cases J with
  |list b=>
   cases e
   refine dO x λt V n bU bB=>eN bB λsf g _ dA=>xA dA λ_ y=>?_;rw [bU]
   refine B_ ⟨_,g,rfl,n,rfl⟩ (q _ _ s.toks ⟨.bz B,[s.heap.objs.size],o,s.heap,.refl ..,S,fr _ rfl,by simp,?_,hh⟩)
   refine xA (pH (fr {cls:=.type "list_iterator",data:=.fields #[.ref t,.int 0 0]} rfl) _ _ g sf) λg' j8=>?_
   exact⟨_,rfl,rfl,t,V,n,0,j8,g',⟨_,hZ _ rfl,rfl,rfl⟩,by rw [Cq];exact y.enter (fr _ rfl)⟩
  |_=>exact aB e
 |_=>exact aB e
noncomputable def pw(ae:ag->Prop)(c:a_)(w:WB)(I:aP):Prop:=
 ∀{Y:bG} {F C:G aA} {s:aT} {o:MH} {m1 m2:D} {v1 v2:aw} {a b:It} {k:It->MH->ag} {Q:aw->aT->Prop} {au E':aw->aT->Prop},Y.handled=none->St c w I F C o s.heap->pV o m1=some a->pV o m2=some b->VR c w F C s.heap m1 v1->VR c w F C s.heap m2 v2->ae (k (.zip a b) o)->
  (∀eF M tk,wg ae c w I F C s.heap k eF C M->Q eF {s with heap:=M,toks:=tk})->bo (bK c w.w) Y (call (.type "zip") [v1,v2]) (λx fX=>bo (bK c w.w) Y (oQ x) Q E' fX) au s
theorem adE{n:ba}(J:small n=true):Qh 0 n 1=true/\(0<n->wi 0 n 1=n)/\(n<=0->wi 0 n 1=0):=by
 refine xA (aN.mp (J:(ltZ n 4611686018427387904&&ltZ (-4611686018427387904) n)=true)) λc1 c2=>?_
 have c1:=(j5 _ _).mp c1
 have c2:=(j5 _ _).mp c2
 have r1:0<n->wi 0 n 1=n:=λh=>by
  unfold wi
  simp [h]
 have r2:n<=0->wi 0 n 1=0:=λh=>by
  unfold wi
  have:¬0<n:=by lia
  simp [this]
 refine⟨?_,r1,r2⟩
 have p:(2:ba)^63=9223372036854775808:=by decide
 unfold Qh Builtin.Range.rangeFitsLong
 by_cases h:0<n
 .rw [r1 h]
  simp
  lia
 .rw [r2 (by lia)]
  simp
  lia
noncomputable def wM(e:aX):VI->Prop
 |.one x _ a=>∃p pos,e=.Call (.Name x p) [a] [] pos/\gE [a]=true/\(x==("__debug__" :ar))=false
 |.two x _ a b=>∃p pos,e=.Call (.Name x p) [a,b] [] pos/\gE [a,b]=true/\(x==("__debug__" :ar))=false
 |.other=>jz
theorem aff(e:aX):wM e (B5 e):=by
 cases e with
 |Call f args kw pos=>cases kw with
  |cons=>trivial
  |nil=>cases f with
   |Name x p=>
    refine(?_:wM _ (match seq x tC with|true=>VI.other|false=>PE x (.Name x p) args))
    cases q:seq x tC with
    |true=>trivial
    |false=>
     have hd:(x==("__debug__" :ar))=false:=NO (by rw [q];rfl)
     cases args with
     |nil=>trivial
     |cons a r=>cases r with
      |nil=>
       refine(?_:wM _ (match gE [a] with|true=>VI.one x _ a|false=>.other))
       cases J:gE [a] with
       |true=>exact⟨p,pos,rfl,J,hd⟩
       |false=>trivial
      |cons b r=>cases r with
       |nil=>
        refine(?_:wM _ (match gE [a,b] with|true=>VI.two x _ a b|false=>.other))
        cases J:gE [a,b] with
        |true=>exact⟨p,pos,rfl,J,hd⟩
        |false=>trivial
       |cons=>trivial
   |_=>trivial
 |_=>trivial
theorem PG{e:aX}(h:B5 e=v):wM e v:=h▸aff e
theorem Nt(T:Top c w K W I mg mb)(aq:Ctx c w I n Y F C s o cx fr X){x:ar}(hx:(x==("__debug__" :ar))=false)(e:nameOf W cx fr x=some (.bi b))(q:Q b.value s):
  bo (bK c w.w) Y (eval (.Name x p) X) Q au s:=by
 refine ay (Nu (Y:=Y) T aq.st aq.fr e) λv x1 x2=>?_
 subst x1
 exact wpAny_Name (x2 Q au q) hx
theorem Fx(Zk:bZ Z ae)(T:Top c w K W I mg mb)(ZS:pw ae c w I)(bk:fj ae c w I n O.ev)(aq:Ctx c w I n Y F C s o cx fr X){e:aX}{k:It->MH->ag}(hh:ae (uG Z W O cx e fr o k))
  {Q:aw->aT->Prop} {au E':aw->aT->Prop} (q:∀eF ao M tk,wg ae c w I F C s.heap k eF ao M->Q eF {s with heap:=M,toks:=tk}):bo (bK c w.w) Y (eval e X) (λx fX=>bo (bK c w.w) Y (oQ x) Q E' fX) au s:=by
 have other:ae (qN Z O cx e fr o k)->bo (bK c w.w) Y (eval e X) (λx fX=>bo (bK c w.w) Y (oQ x) Q E' fX) au s:=by
  intro hh
  refine bk Y F C s o cx e fr X _ aq hh _ _ λv1 bq h1 aZ aS p1=>?_
  refine PV.el p1 λm1 bM bR S1 x1=>?_
  refine ay (gW Zk bR) λit e1 de=>?_
  refine adX (s:={s with heap:=h1,toks:=aZ}) S1 e1 de x1 λeF h2 bS b=>q eF bq h2 bS ?_
  obtain⟨dJ,own,br,sF,st,S',f,nd,r,hk⟩:=b
  exact⟨dJ,own,br,sF,aS.trans st,S',f,nd,r,hk⟩
 unfold uG at hh
 generalize hv:B5 e=ax at hh
 cases ax with
 |other=>exact other hh
 |one x f a=>
  dsimp only at hh
  generalize hn:nameOf W cx fr x=ax at hh
  cases ax with
  |none=>exact other hh
  |some v=>
   dsimp only at hh
   cases v with
   |bi b=>
    cases b with
    |range=>
     refine eO (PG hv) λp pos aE ns hd=>?_;rw [aE]
     have e':ae (O.ev cx a fr o λv o=>match v with|.int n=>@bN (λ_=>ag) Z.fail (k (.range 0 n) o) (small n)|_=>Z.fail):=hh
     rw [Dh]
     refine aO (Nt T aq hd hn ?_)
     refine xA (s_ ns) λ_ hs=>?_
     refine DC (P:=λ_=>jz) (by rw [yg ns];rfl) (λh _=>⟨.machine,.inr (.inl rfl),.now⟩) ?_
     rw [hs X]
     refine Lo ?_
     refine spliced_cons ?_
     refine(?_:bo (bK c w.w) Y (if false=true then _ else eval a X) _ _ _)
     rw [bl gK]
     refine bk Y F C s o cx a fr X _ aq e' _ _ λv1 bq h1 aZ aS p1=>?_
     refine PV.el p1 λm1 bM bR S1 x1=>?_
     cases m1 with
     |int i=>
      refine bw x1 ?_;clear x1;intro t aI;rw [aI]
      refine xA (iU (x:=Z.fail) Zk (bR:ae (@bN (λ_=>ag) Z.fail (k (.range 0 i) bM) (small i)))) λJ bR=>?_
      refine cf (adE J) λc1 c2 c3=>?_
      refine spliced_nil ⟨trivial,?_⟩
      refine(?_:bo (bK c w.w) Y (call (.type "range") [.int i t]) _ _ _)
      refine call_range_1 ?_
      refine wpAny_pyIter_range (IsRange.new ..) c1 ?_
      refine q _ bq _ _ ⟨.range 0 i,[(h1.push {cls:=.type "range",data:=.fields #[.int 0 aZ,.int i t,.int 1 (aZ+1)]}).objs.size],bM,h1.push {cls:=.type "range",data:=.fields #[.int 0 aZ,.int i t,.int 1 (aZ+1)]},aS.trans (.of_keeps (fK _ _)),(S1.grow (fK _ _)).2,⟨fK _ _,λb hb=>?_⟩,by simp,⟨_,_,rfl,rfl,hZ _ rfl,?_⟩,bR⟩
      .rw [cA.mp hb];exact⟨hV _,_,hZ _ rfl⟩
      .by_cases z:0<i
       .exact .inl (by rw [c2 z];lia)
       .exact .inr ⟨by rw [c3 (by lia)];exact I9 _,by lia⟩
     |_=>exact(Zk.fail bR).elim
    |zip=>exact(Zk.fail hh).elim
    |_=>exact other hh
   |_=>exact other hh
 |two x f a b=>
  dsimp only at hh
  generalize hn:nameOf W cx fr x=ax at hh
  cases ax with
  |none=>exact other hh
  |some v=>
   dsimp only at hh
   cases v with
   |bi J=>
    cases J with
    |zip=>
     refine eO (PG hv) λp pos aE ns hd=>?_;rw [aE]
     have e':ae (O.ev cx a fr o λv o=>O.ev cx b fr o λu o=>Z.opt (pV o v) λx=>Z.opt (pV o u) λy=>k (.zip x y) o):=hh
     rw [Dh]
     refine aO (Nt T aq hd hn ?_)
     refine xA (s_ ns) λaaJ hs=>?_
     refine xA (s_ aaJ) λ_ oE=>?_
     refine DC (P:=λ_=>jz) (by rw [yg ns];rfl) (λh _=>⟨.machine,.inr (.inl rfl),.now⟩) ?_
     rw [hs X,oE X]
     refine Lo ?_
     refine spliced_cons ?_
     refine(?_:bo (bK c w.w) Y (if false=true then _ else eval a X) _ _ _)
     rw [bl gK]
     refine bk Y F C s o cx a fr X _ aq e' _ _ λv1 bq h1 aZ aS p1=>?_
     refine PV.el p1 λm1 bM bR S1 x1=>?_
     refine spliced_cons ?_
     refine(?_:bo (bK c w.w) Y (if false=true then _ else eval b X) _ _ _)
     rw [bl gK]
     refine bk Y F bq _ bM cx b fr X _ (aq.next aS S1 aZ) bR _ _ λv2 bf h2 bS bp p2=>?_
     refine PV.el p2 λm2 dz de S2 x2=>?_
     refine ay (gW Zk de) λia ea dX=>?_
     refine ay (gW Zk dX) λib eb jY=>?_
     refine spliced_nil ⟨trivial,?_⟩
     refine(?_:bo (bK c w.w) Y (call (.type "zip") [v1,v2]) _ _ _)
     refine ZS (s:={s with heap:=h2,toks:=bS}) aq.room.1 S2 ea eb (x1.step bp) x2 jY λeF h3 ey bg=>q eF bf h3 ey ?_
     obtain⟨dJ,own,br,sF,st,S',f,nd,r,hk⟩:=bg
     exact⟨dJ,own,br,sF,aS.trans (bp.trans st),S',f,nd,r,hk⟩
    |_=>exact other hh
   |_=>exact other hh
end
section
variable{ag:Type}{Z:cU ag}{ae:ag->Prop}{c:a_}{w:WB}{Y:bG}{own F F' C ao:G aA}{s:aT}{I h M:aP}{o br:MH}{K:b8}{W:bQ}{mg mb:ar->aa aw}{n:H}{cx:Cx}{fr cy:Fm}{X:cL}{O:Ops ag}
theorem Nw{α:Type}{B:G (ar×α)}(nd:(B.map (·.1)).Nodup){i j:H}{a b:α}(e1:B[i]?=some (x,a))(e2:B[j]?=some (x,b)):i=j:=by
 refine bw (eM.mp e1) λh1 e1=>?_
 refine bw (eM.mp e2) λh2 e2=>?_
 have g1:(B.map (·.1))[i]'(by simpa using h1)=x:=by simp [e1]
 have g2:(B.map (·.1))[j]'(by simpa using h2)=x:=by simp [e2]
 exact(rK nd).mp (g1.trans g2.symm)
theorem Hy{α:Type}{B:G α}{a b:α}(e:(qa B k a)[i]?=some b):(i=k/\b=a)\/(i≠k/\B[i]?=some b):=by
 rw [qb,List.getElem?_set] at e
 by_cases q:k=i
 .rw [bT q] at e
  split at e
  .cases e;exact .inl ⟨q.symm,rfl⟩
  .exact aB e
 .rw [bl q] at e
  exact .inr ⟨λz=>q z.symm,e⟩
theorem lP(az:cH c w F C h cx fr X):∀b∈ownOf X,b∈F:=az.lP
noncomputable def eI(cx:Cx)(X:cL):G aA:=match cx.comp with
 |.none=>ownOf X
 |some _=>[X.locals]
theorem vI:∀b∈eI cx X,b∈ownOf X:=by
 intro b hb
 unfold eI at hb
 split at hb
 .exact hb
 .rw [cA.mp hb];exact .head _
theorem Ov(k:X.scope.kind=.function):(X.scope.kind==.class||(X.scope.kind==.module&&X.locals !=X.globals))=false:=by rw [k];rfl
theorem M9{sc:G (ar×dc)}{vars:G (aa D)}{mm:ar->aa aw}(hv:∀(i:H) (y:ar) (mv:D),sc[i]?=some (y,qC)->vars[i]?=some (some mv)->∃u,mm y=some u/\VR c w F C h mv u)
  (nd:(sc.map (·.1)).Nodup) (i1:sc[k]?=some (x,.local)) (hn:M.Ns L (λy=>if y=x then some v else mm y)) (up:∀{mv u},VR c w F C h mv u->VR c w F C M mv u) (vx:VR c w F C h m v):pd c w F C M sc (qa vars k (some m)) L:=by
 refine⟨_,hn,λi y mv e1 e2=>?_⟩
 rcases Hy e2 with⟨rfl,z⟩|⟨z1,z2⟩
 .rw [aM z,(iS (aM (e1.symm.trans i1))).1]
  exact⟨v,bT rfl,up vx⟩
 .refine ay (hv i y mv e1 z2) λu u1 u2=>?_
  exact⟨u,by rw [bl λz=>z1 (Nw nd (z▸e1) i1)];exact u1,up u2⟩
theorem DE(aq:nU c w F C h vars X i y)(hk:∀J,X.cells.lookup y=some J->J≠X.locals->∀E,h.get? J=some E->M.get? J=some E)(up:∀{mv u},VR c w F C h mv u->VR c w F C M mv u)(sub:∀mv,qm[i]?=some (some mv)->vars[i]?=some (some mv)):nU c w F C M qm X i y:=by
 refine eK aq λJ ov c1 c2 c4 c5=>?_
 exact⟨J,ov,c1,Kk c2 (hk J c1 c4),c4,λmv e2=>let⟨u,u1,u2⟩:=c5 mv (sub mv e2);⟨u,u1,up u2⟩⟩
theorem Hj{α:Type}{B:G α}{a b:α}(h:i≠k)(e:(qa B k a)[i]?=some b):B[i]?=some b:=(Hy e).elim (λq=>bP q.1 h) (·.2)
theorem MS{sc:G (ar×dc)}{i k:H}(h:a≠b)(e1:sc[i]?=some (y,a))(e2:sc[k]?=some (x,b)):i≠k:=λq=>by
 rw [q,e2] at e1
 exact h (iS (aM e1)).2.symm
theorem dm.putL{sc:G (ar×dc)}{vars:G (aa D)}{x:ar}{mm:ar->aa aw}(az:dm c w F C h sc vars X)(i1:sc[k]?=some (x,.local))(hv:∀(i:H) (y:ar) (mv:D),sc[i]?=some (y,qC)->vars[i]?=some (some mv)->∃u,mm y=some u/\VR c w F C h mv u)
  (hs:iC X.locals h M) (hn:M.Ns X.locals (λy=>if y=x then some v else mm y)) (up:∀{mv u},VR c w F C h mv u->VR c w F C M mv u) (vx:VR c w F C h m v):dm c w F C M sc (qa vars k (some m)) X:=
 ⟨az.kind,az.names,az.glob,az.blt,az.own,M9 hv az.nd i1 hn up vx,λi y e1=>DE (az.cell i y e1) (λJ _ c4 E eo=>(hs.2 J c4).trans eo) up λmv e2=>Hj (MS (by decide) e1 i1) e2,az.apart,az.nd⟩
theorem dm.acj{sc:G (ar×dc)}{vars:G (aa D)}{x:ar}(az:dm c w F C h sc vars X)(i1:sc[k]?=some (x,.cell))(c1:X.cells.lookup x=some J)(c4:J≠X.locals)
  (hs:iC J h M) (hn:M.IsCell J (some v)) (up:∀{mv u},VR c w F C h mv u->VR c w F C M mv u) (vx:VR c w F C h m v):dm c w F C M sc (qa vars k (some m)) X:=by
 refine⟨az.kind,az.names,az.glob,az.blt,az.own,?_,λi y e1=>?_,az.apart,az.nd⟩
 .refine ay az.loc λmm hm hv=>?_
  exact⟨mm,GD hm (λE eo=>(hs.2 _ c4.symm).trans eo),λi y mv e1 e2=>let⟨u,u1,u2⟩:=hv i y mv e1 (Hj (MS (by decide) e1 i1) e2);⟨u,u1,up u2⟩⟩
 .by_cases z:i=k
  .rw [z] at e1⊢
   rw [(iS (aM (e1.symm.trans i1))).1]
   refine⟨J,some v,c1,hn,c4,λmv e2=>?_⟩
   rcases Hy e2 with⟨_,z⟩|⟨z1,z2⟩
   .rw [aM z];exact⟨v,rfl,up vx⟩
   .exact bP rfl z1
  .exact DE (az.cell i y e1) (λc' d1 _ E eo=>(hs.2 _ λz'=>z (Nw az.nd e1 (by rw [az.apart y x J (z'▸d1) c1];exact i1))).trans eo) up λmv e2=>Hj z e2
theorem mR.putL{mm:ar->aa aw}(az:mR c w F C h sc cB vars jU X)(i1:cB[k]?=some (x,.local))(hv:∀(i:H) (y:ar) (mv:D),cB[i]?=some (y,qC)->jU[i]?=some (some mv)->∃u,mm y=some u/\VR c w F C h mv u)
  (hs:iC X.locals h M) (hn:M.Ns X.locals (λy=>if y=x then some v else mm y)) (up:∀{mv u},VR c w F C h mv u->VR c w F C M mv u) (vx:VR c w F C h m v):mR c w F C M sc cB vars (qa jU k (some m)) X:=
 ⟨az.kind,az.glob,az.blt,az.kinds,az.own,az.KA,M9 hv az.nd i1 hn up vx,λi y e1 e2=>DE (az.cell i y e1 e2) (λJ _ c4 E eo=>(hs.2 J c4).trans eo) up λ_ e=>e,az.nd⟩
theorem HK(S:St c w I F C o s.heap)(az:cH c w F C s.heap cx fr X)(e:store W cx fr x m=some cy)(vx:VR c w F C s.heap m v)
  (q:∀M tk,bh (eI cx X) C s.heap C M->St c w I F C o M->cH c w F C M cx cy X->Q () {s with heap:=M,toks:=tk}):bo (bK c w.w) Y (storeName X x v) Q au s:=by
 have gD:=lP az
 unfold store kQ at e
 unfold cH at az q
 unfold eI at q
 have h1:∀{J:aA},J∈ownOf X->∀b∈[J],b∈F:=λhc b hb=>by rw [cA.mp hb];exact gD _ hc
 generalize hc:cx.comp=ax at e az q
 cases ax with
 |none=>
  have cP:=BN W cx.sc x
  dsimp only at e az q
  generalize slotIn W cx.sc x=sl at e cP
  cases sl with
  |loc k=>
   refine ay cP λkd hk hi=>?_
   have e:=aM e
   subst e
   have ks:=dm.kindAt az hi
   rcases hk with rfl|rfl
   .refine ay az.loc λmm hm hv=>?_
    refine afD ks hm (λM hn hs=>?_) (Ov az.kind)
    refine xA (S.turn (gD _ (.head _)) hs (Be hn)) λst S'=>?_
    exact q M _ (st.more λb hb=>.inl (by rw [cA.mp hb];exact .head _)) S' (dm.putL az (jZ hi).1 hv hs hn (λx=>x.fx (h1 (.head _)) st) vx)
   .refine eK (az.cell k x (jZ hi).1) λJ ov c1 c2 c4 c5=>?_
    have EM:J∈ownOf X:=.tail _ (cF.mpr ⟨_,lookup_mem c1,rfl⟩)
    refine wpAny_storeName_cell az.kind ks c1 c2 λM hn hs=>?_
    refine xA (S.turn (gD _ EM) hs (let⟨E,ho,_⟩:=hn;⟨E,ho⟩)) λst S'=>?_
    exact q M _ (st.more λb hb=>.inl (by rw [cA.mp hb];exact EM)) S' (dm.acj az (jZ hi).1 c1 c4 hs hn (λx=>x.fx (h1 EM) st) vx)
  |jT=>exact cP.elim
  |_=>exact aB e
 |some cB=>
  have cP:=BM W cx.sc cB x
  dsimp only at e az q
  generalize vQ W cx.sc cB x=sl at e cP
  cases sl with
  |jT k=>
   have e:=aM e
   subst e
   refine ay az.loc λmm hm hv=>?_
   refine afD ((az.kinds k x _ cP).1 rfl) hm (λM hn hs=>?_) (Ov az.kind)
   refine xA (S.turn (gD _ (.head _)) hs (Be hn)) λst S'=>?_
   exact q M _ st S' (mR.putL az (jZ cP).1 hv hs hn (λx=>x.fx (h1 (.head _)) st) vx)
  |loc=>exact cP.elim
  |_=>exact aB e
theorem agY(az:cH c w F C h cx fr X):∀b∈ownOf X,b∈F:=lP az
theorem cH.ag7(hF:∀b∈F,b∉C)(st:bh [] C h ao M)(az:cH c w F C h cx fr X):cH c w F ao M cx fr X:=az.step st hF
noncomputable def JO(t:aX):VT->Prop
 |.name x=>∃p,t=.Name x p
 |.tup ts=>∃k p,t=.Tuple ts k p
 |.attr E x=>∃p,t=.Attribute E x p
 |.item E i=>∃p,t=.Subscript E i p
 |.bad=>jz
theorem PI(t:aX):JO t (qo t):=by
 cases t with
 |Name x p=>exact⟨p,rfl⟩
 |Tuple ts k p=>exact⟨k,p,rfl⟩
 |Attribute E x p=>exact⟨p,rfl⟩
 |Subscript E i p=>cases i<;>first|trivial|exact⟨p,rfl⟩
 |_=>trivial
theorem B6(h:qo t=v):JO t v:=h▸PI t
theorem OQ(e:Mine.Internal.storeAll W cx (t::ts) (v::V) fr=some cy):∃x p fp,t=.Name x p/\store W cx fr x v=some fp/\Mine.Internal.storeAll W cx ts V fp=some cy:=by
 have e:(match qo t with
   |.name x=>match store W cx fr x v with
    |some fr=>Mine.Internal.storeAll W cx ts V fr
    |.none=>.none
   |_=>.none)=some cy:=e
 have is:=PI t
 revert e
 generalize qo t=v' at is⊢
 intro e
 cases v' with
 |name x=>
  refine bw is ?_;clear is;intro p aI;rw [aI]
  have e:(match store W cx fr x v with|some fr=>Mine.Internal.storeAll W cx ts V fr|.none=>.none)=some cy:=e
  generalize e1:store W cx fr x v=ax at e
  cases ax with
  |none=>exact aB e
  |some fp=>exact⟨x,p,fp,rfl,e1,e⟩
 |_=>exact aB e
theorem OS:∀{B:G D} {fr cy:Fm},Mine.Internal.storeAll W cx ts B fr=some cy->ts.length=B.length/\∀X,(wW ts X).map (·.2)=ts.map (λt=>m9 t X)/\(wW ts X).length=ts.length/\(wW ts X).findIdx? (·.1)=none:=by
 induction ts with
 |nil=>
  intro B fr cy e
  cases B with
  |nil=>exact⟨rfl,λX=>⟨rfl,rfl,rfl⟩⟩
  |cons=>exact aB e
 |cons t ts O=>
  intro B fr cy e
  cases B with
  |nil=>exact aB e
  |cons v B=>
   obtain⟨x,p,fp,rfl,_,e⟩:=OQ e
   refine xA (O e) λh1 h2=>?_
   refine⟨cq _ h1,λX=>⟨cq _ (h2 X).1,cq _ (h2 X).2.1,?_⟩⟩
   refine(?_:((false,m9 (.Name x p) X)::wW ts X).findIdx? (·.1)=none)
   rw [List.findIdx?_cons,(h2 X).2.2]
   rfl
theorem XN(ts:G aX):∀(B:G D) (V:G aw) (fr cy:Fm) (s:aT) (o:MH),St c w I F C o s.heap->cH c w F C s.heap cx fr X->Mine.Internal.storeAll W cx ts B fr=some cy->aW c w F C s.heap B V->∀{Q:mX->aT->Prop} {au:aw->aT->Prop},
  (∀M tk,bh (eI cx X) C s.heap C M->St c w I F C o M->cH c w F C M cx cy X->Q () {s with heap:=M,toks:=tk})->bo (bK c w.w) Y (zM (ts.map λt=>m9 t X) V) Q au s:=by
 induction ts with
 |nil=>
  intro B V fr cy s o S az e y Q au q
  cases B with
  |nil=>
   rw [y.dW]
   exact bX (q s.heap s.toks (.refl ..) S (aM e▸az))
  |cons=>exact aB e
 |cons t ts O=>
  intro B V fr cy s o S az e y Q au q
  cases B with
  |nil=>exact aB e
  |cons m B=>
   obtain⟨x,p,fp,rfl,e1,e⟩:=OQ e
   obtain⟨v,gj,rfl,y1,y2⟩:=y.cj
   show bo _ _ (do xK gj (m9 (.Name x p) X v);zM (ts.map λt=>m9 t X) gj) Q au s
   refine aO (iP (afw (HK S az e1 y1 λh1 aZ aS S1 G1=>?_)))
   exact O B gj fp cy {s with heap:=h1,toks:=aZ} o S1 G1 e (y2.fx (λb hb=>lP az b (vI b hb)) aS) λh2 bS bp S2 G2=>q h2 bS (aS.trans bp) S2 G2
theorem wY(hh:Y.handled=none)(S:St c w I F C o s.heap)(az:cH c w F C s.heap cx fr X)(e:pC W cx fr t m=some cy)(x:VR c w F C s.heap m v)
  (q:∀M tk,bh (eI cx X) C s.heap C M->St c w I F C o M->cH c w F C M cx cy X->Q () {s with heap:=M,toks:=tk}):bo (bK c w.w) Y (m9 t X v) Q au s:=by
 unfold pC at e
 generalize hv:qo t=ax at e
 cases ax with
 |name y=>
  refine bw (B6 hv) λp aI=>?_;subst aI
  exact afw (HK S az e x q)
 |tup ts=>
  refine gJ (B6 hv) λk p aE=>?_;subst aE
  dsimp only at e
  cases m with
  |tup B=>
   refine gq.el x.gi λa V n bU sf g y=>?_;rw [bU]
   refine xA (OS e) λh1 h2=>?_
   refine cf (h2 X) λh3 h4 h5=>?_
   have hl:=y.length
   rw [hX] at hl
   refine wpAny_assign_Tuple hh ⟨_,g,rfl,n,rfl⟩ (by rw [h4,h1,hl]) h5 λM hs=>?_
   rw [h3]
   have hk:∀b E,s.heap.get? b=some E->M.get? b=some E:=λb E e=>hs b E (qQ (hV _) e) e
   refine xA (S.grow hk) λst S'=>?_
   exact XN ts B V.toList fr cy {s with heap:=M} o S' (az.step st λa ha=>(S.cI a ha).2.1) e (y.step st) λh2 bS bp S2 G2=>q h2 bS (st.any.trans bp) S2 G2
  |_=>exact aB e
 |_=>exact aB e
end
section
set_option tactic.hygienic true
section
variable{ag:Type}(ae:ag->Prop)(c:a_)(w:WB)(I:aP)
noncomputable def wj(F C:G aA)(h:aP):eh->Flow->Prop
 |.next,f=>f=.next
 |.ret m,f=>∃v,f=.ret v/\VR c w F C h m v
inductive PF(F:G aA)(cx:Cx)(X:cL)(K:eh->Fm->MH->ag)(f:Flow)(ao:G aA)(M:aP):Prop
 |mk (g:eh) (cy:Fm) (br:MH):ae (K g cy br)->St c w I F ao br M->cH c w F ao M cx cy X->wj c w F ao M g f->PF F cx X K f ao M
noncomputable def lZ(n:H)(ex:Cx->en->Fm->MH->(eh->Fm->MH->ag)->ag):Prop:=
 ∀(Y:bG) (F C:G aA) (s:aT) (o:MH) (cx:Cx) (st:en) (fr:Fm) (X:cL) (k:eh->Fm->MH->ag),Ctx c w I n Y F C s o cx fr X->ae (ex cx st fr o k)->bc c w Y (eI cx X) C s (exec st X) (PF ae c w I F cx X k)
end
section
variable{ag:Type}{Z:cU ag}{ae:ag->Prop}{c:a_}{w:WB}{Y:bG}{own F F' C ao:G aA}{s:aT}{I h M:aP}{o br:MH}{K:b8}{W:bQ}{mg mb:ar->aa aw}{n:H}{cx:Cx}{fr cy:Fm}{X:cL}{O:Ops ag}
theorem PF.el{K:eh->Fm->MH->ag}{az:Prop}(z:PF ae c w I F cx X K f ao M)(k:∀g cy br,ae (K g cy br)->St c w I F ao br M->cH c w F ao M cx cy X->wj c w F ao M g f->az):az:=z.casesOn k
theorem cH.kind(az:cH c w F C h cx fr X):X.scope.kind=.function:=by
 unfold cH at az
 split at az
 .exact az.kind
 .exact az.kind
theorem ku(bk:lZ ae c w I n O.ex):∀(B:G en) (C:G aA) (s:aT) (o:MH) (fr:Fm) (k:eh->Fm->MH->ag),Ctx c w I n Y F C s o cx fr X->ae (iy O cx B fr o k)->bc c w Y (eI cx X) C s (iH B X) (PF ae c w I F cx X k):=by
 intro gr
 induction gr with
 |nil=>
  intro C s o fr k aq e
  exact λQ au q=>ID (q _ C s.heap s.toks (.refl ..) ⟨.next,fr,o,e,aq.st,aq.fr,rfl⟩)
 |cons st B fQ=>
  intro C s o fr k aq e
  intro Q au q
  have e':ae (O.ex cx st fr o λf fr o=>@eh.rec (λ_=>ag) (iy O cx B fr o k) (λv=>k (.ret v) fr o) f):=e
  refine wpAny_execs_cons (bk Y F C s o cx st fr X _ aq e' _ _ λf bq h1 aZ aS p1=>?_)
  obtain⟨g,fp,bM,bR,S1,G1,fl⟩:=p1
  cases g with
  |next=>
   cases fl
   exact fQ bq {s with heap:=h1,toks:=aZ} bM fp k ⟨aq.room,S1,G1⟩ bR _ _ λf2 bf h2 bS bp p2=>q f2 bf h2 bS (aS.trans bp) p2
  |ret m=>
   refine ay fl ?_;clear fl;intro v aI x;subst aI
   exact q _ bq h1 aZ aS ⟨.ret m,fp,bM,bR,S1,G1,v,rfl,x⟩
theorem aa6(h:Bj (.Tuple ts k p) (.Tuple V k' p')=true):vU [.Tuple ts k p] (.Tuple V k' p') X=pure none\/∃names,vU [.Tuple ts k p] (.Tuple V k' p') X=pure (some names)/\names.length=ts.length/\names.eraseDups.length=names.length/\
  ∃f:aX->aa ar,(∀t x,f t=some x->∃p,t=.Name x p)/\ts.filterMap f=names:=by
 have M:(V.any Gw||V.all (LG 8))=true:=h
 have hc:V.all (constantsAlone 8)=true->V.all (LG 8)=true:=λz=>by
  rcases k_.mp M with h1|h1
  .refine ay (zc.mp h1) λe he h2=>?_
   have:=l9.mp z e he
   cases e<;>first|cases h2;done|exact bz this
  .exact h1
 unfold vU
 dsimp only
 split
 .exact .inl rfl
 .split
  .exact .inl rfl
  .split
   .exact .inl rfl
   .rename_i h3
    split
    .exact .inl rfl
    .rename_i h4
     split
     .rename_i h5
      exact bP (hc h5) h4
     .refine .inr ⟨_,rfl,?_,?_,_,?_,rfl⟩
      .exact Ql λz=>h3 (k_.mpr (.inl (bne_iff_ne.mpr z)))
      .exact Ql λz=>h3 (k_.mpr (.inr (bne_iff_ne.mpr z)))
      .intro t x h
       cases t with
       |Name id p=>
        dsimp only at h
        split at h
        .cases h;exact⟨p,rfl⟩
        .exact aB h
       |_=>exact aB h
theorem UK(n:H):∀(B:G ar),B.length<=n->B.eraseDups.length<=B.length:=by
 induction n with
 |zero=>exact λB h=>by rw [wz.mp (Jw.mp h)];exact fG _
 |succ n O=>
  intro B h
  cases B with
  |nil=>exact fG _
  |cons a B=>
   rw [QF]
   have h1:=QP (λb=>!b==a) B
   exact n4 (dQ (O (B.filter λb=>!b==a) (dQ h1 (Jv h))) h1)
theorem UL{B:G ar}(h:B.eraseDups.length=B.length):B.Nodup:=by
 induction B with
 |nil=>exact rO
 |cons a B O=>
  rw [QF] at h
  have h:=lu h
  have h1:=QP (λb=>!b==a) B
  have h2:=UK _ (B.filter λb=>!b==a) (fG _)
  have hf:B.filter (λb=>!b==a)=B:=Jg.mpr (List.length_filter_eq_length_iff.mp (Nat.le_antisymm h1 (h▸h2)))
  rw [hf] at h
  refine ic.mpr ⟨λz=>?_,O h⟩
  have:=Jg.mp hf a z
  rw [r7] at this
  exact bz this
noncomputable def kT(W:bQ)(cx:Cx)(xs:G ar):G D->Fm->aa Fm:=@b9 ar (λ_=>G D->Fm->aa Fm)
 (λB fr=>@b9 D (λ_=>aa Fm) (some fr) (λ_ _ _=>none) B)
 (λx _ O B fr=>@b9 D (λ_=>aa Fm) none (λv V _=>(store W cx fr x v).bind λfr=>O V fr) B) xs
theorem ad1(hf:∀t x,f t=some x->∃p,t=.Name x p):∀{B:G D} {fr:Fm},(ts.filterMap f).length=ts.length->Mine.Internal.storeAll W cx ts B fr=kT W cx (ts.filterMap f) B fr:=by
 induction ts with
 |nil=>exact λ{B fr} _=>by cases B<;>rfl
 |cons t ts O=>
  intro B fr h
  have Xa:=List.length_filterMap_le f ts
  cases q:f t with
  |none=>
   rw [ze,q] at h
   have h:(ts.filterMap f).length=ts.length+1:=h
   exact bP (h▸Xa) (Nat.not_succ_le_self _)
  |some x=>
   rw [ze,q] at h⊢
   refine bw (hf t x q) λp aI=>?_;subst aI
   cases B with
   |nil=>rfl
   |cons v B=>
    refine(?_:(match store W cx fr x v with|some fr=>Mine.Internal.storeAll W cx ts B fr|.none=>.none)=(store W cx fr x v).bind λfr=>kT W cx (ts.filterMap f) B fr)
    cases store W cx fr x v with
    |none=>rfl
    |some fp=>exact O (lu h)
theorem adC(h1:kQ W cx x=.loc k)(h2:kQ W cx y=.loc k):x=y:=by
 have key:∀{z:ar},kQ W cx z=.loc k->∃kd,cx.sc[k]?=some (z,kd):=by
  intro z h
  unfold kQ at h
  generalize hc:cx.comp=ax at h
  cases ax with
  |none=>
   refine ay ((show slotIn W cx.sc z=Slot.loc k from h)▸BN W cx.sc z) λkd _ hi=>?_
   exact⟨kd,(jZ hi).1⟩
  |some cB=>
   exact((show vQ W cx.sc cB z=Slot.loc k from h)▸BM W cx.sc cB z).elim
 refine bw (key h1) λ_ e1=>?_
 refine bw (key h2) λ_ e2=>?_
 exact(iS (aM (e1.symm.trans e2))).1
theorem adB(h1:kQ W cx x=.jT k)(h2:kQ W cx y=.jT k):x=y:=by
 have key:∀{z:ar},kQ W cx z=.jT k->∃cB kd,cx.comp=some cB/\cB[k]?=some (z,kd):=by
  intro z h
  unfold kQ at h
  generalize hc:cx.comp=ax at h
  cases ax with
  |none=>
   exact((show slotIn W cx.sc z=Slot.jT k from h)▸BN W cx.sc z).elim
  |some cB=>
   have hi:=(show vQ W cx.sc cB z=Slot.jT k from h)▸BM W cx.sc cB z
   exact⟨cB,_,rfl,(jZ hi).1⟩
 refine jv (key h1) λc1 _ d1 e1=>?_
 refine jv (key h2) λc2 _ d2 e2=>?_
 rw [<-aM (d1.symm.trans d2)] at e2
 exact(iS (aM (e1.symm.trans e2))).1
theorem ad5(kJ:x≠y):((store W cx fr x a).bind λf=>store W cx f y b)=(store W cx fr y b).bind λf=>store W cx f x a:=by
 unfold store
 cases h1:kQ W cx x<;>cases h2:kQ W cx y<;>simp only [RB,Option.bind_none,Rz]
 .rename_i k j
  have:k≠j:=λz=>kJ (adC h1 (z▸h2))
  rw [qb,qb,qb,qb,Q4 _ _ this]
 .rename_i k j
  have:k≠j:=λz=>kJ (adB h1 (z▸h2))
  rw [qb,qb,qb,qb,Q4 _ _ this]
theorem ad2(xs:G ar):∀(B:G D) (fr:Fm),x∉xs->((store W cx fr x a).bind λf=>kT W cx xs B f)=(kT W cx xs B fr).bind λf=>store W cx f x a:=by
 induction xs with
 |nil=>
  intro B fr _
  cases B with
  |nil=>show(store W cx fr x a).bind some=store W cx fr x a;cases store W cx fr x a<;>rfl
  |cons=>
   refine(?_:(store W cx fr x a).bind (λ_=>none)=none)
   cases store W cx fr x a<;>rfl
 |cons y ys O=>
  intro B fr hx
  cases B with
  |nil=>
   refine(?_:(store W cx fr x a).bind (λ_=>none)=none)
   cases store W cx fr x a<;>rfl
  |cons b B=>
   have kJ:x≠y:=λz=>hx (z▸.head _)
   refine(?_:((store W cx fr x a).bind λf=>(store W cx f y b).bind λg=>kT W cx ys B g)=((store W cx fr y b).bind λg=>kT W cx ys B g).bind λf=>store W cx f x a)
   rw [<-CP,ad5 kJ,CP,CP]
   exact cq _ (funext λf=>O B f λz=>hx (.tail _ z))
theorem ad4(x:ar)(a:D)(xs:G ar):∀(B:G D) (fr:Fm),xs.length=B.length->kT W cx (xs++[x]) (B++[a]) fr=(kT W cx xs B fr).bind λf=>store W cx f x a:=by
 induction xs with
 |nil=>
  intro B fr h
  rw [wz.mp h.symm]
  refine(?_:(store W cx fr x a).bind some=store W cx fr x a)
  cases store W cx fr x a<;>rfl
 |cons y ys O=>
  intro B fr h
  cases B with
  |nil=>exact bP h (rV _)
  |cons b B=>
   refine(?_:((store W cx fr y b).bind λg=>kT W cx (ys++[x]) (B++[a]) g)=((store W cx fr y b).bind λg=>kT W cx ys B g).bind λf=>store W cx f x a)
   rw [CP]
   exact cq _ (funext λg=>O B g (lu h))
theorem ad3(xs:G ar):∀(B:G D) (fr:Fm),xs.Nodup->xs.length=B.length->kT W cx xs.reverse B.reverse fr=kT W cx xs B fr:=by
 induction xs with
 |nil=>exact λB fr _ h=>by rw [wz.mp h.symm];rfl
 |cons x xs O=>
  intro B fr nd h
  cases B with
  |nil=>exact bP h (rV _)
  |cons a B=>
   have h:=lu h
   rw [rP,rP,ad4 _ _ _ _ _ (by rw [ez,ez];exact h),O B fr (ic.mp nd).2 h]
   exact(ad2 xs B fr (ic.mp nd).1).symm
theorem aaj(xs:G ar):∀(B:G D) (V:G aw) (fr cy:Fm) (s:aT) (o:MH),St c w I F C o s.heap->cH c w F C s.heap cx fr X->kT W cx xs B fr=some cy->aW c w F C s.heap B V->∀{Q:mX->aT->Prop} {au:aw->aT->Prop},
  (∀M tk,bh (eI cx X) C s.heap C M->St c w I F C o M->cH c w F C M cx cy X->Q () {s with heap:=M,toks:=tk})->bo (bK c w.w) Y (zM (xs.map λn=>Dw X n) V) Q au s:=by
 induction xs with
 |nil=>
  intro B V fr cy s o S az e y Q au q
  cases B with
  |nil=>
   rw [y.dW]
   exact bX (q s.heap s.toks (.refl ..) S (aM e▸az))
  |cons=>exact aB e
 |cons x xs O=>
  intro B V fr cy s o S az e y Q au q
  cases B with
  |nil=>exact aB e
  |cons m B=>
   refine ay (RA.mp (show(store W cx fr x m).bind (λfr=>kT W cx xs B fr)=some cy from e)) λfp e1 e=>?_
   obtain⟨v,gj,rfl,y1,y2⟩:=y.cj
   show bo _ _ (do xK gj (Dw X x v);zM (xs.map λn=>Dw X n) gj) Q au s
   refine aO (iP (wpAny_bindName (HK S az e1 y1 λh1 aZ aS S1 G1=>?_)))
   exact O B gj fp cy {s with heap:=h1,toks:=aZ} o S1 G1 e (y2.fx (λb hb=>lP az b (vI b hb)) aS) λh2 bS bp S2 G2=>q h2 bS (aS.trans bp) S2 G2
end
end
section
variable{ag:Type}{Z:cU ag}{ae:ag->Prop}{c:a_}{w:WB}{Y:bG}{own F F' C ao:G aA}{s:aT}{I h M:aP}{o br:MH}{K:b8}{W:bQ}{mg mb:ar->aa aw}{n:H}{cx:Cx}{fr cy:Fm}{X:cL}{O:Ops ag}
theorem aeO(Zk:bZ Z ae)(T:Top c w K W I mg mb)(bk:fj ae c w I n O.ev)(aq:Ctx c w I n Y F C s o cx fr X)(hh:ae (asg Z W O cx t m fr o k))(x:VR c w F C s.heap m v)
  (q:∀ao M tk cy br,bh (eI cx X) C s.heap ao M->St c w I F ao br M->cH c w F ao M cx cy X->ae (k cy br)->Q () {s with heap:=M,toks:=tk}):bo (bK c w.w) Y (m9 t X v) Q au s:=by
 have plain:ae (Z.opt (pC W cx fr t m) λfr=>k fr o)->bo (bK c w.w) Y (m9 t X v) Q au s:=λhh=>by
  refine ay (gW Zk hh) λcy e1 bR=>?_
  exact wY aq.room.1 aq.st aq.fr e1 x λM tk st S' G'=>q C M tk cy o st S' G' bR
 unfold asg at hh
 cases hv:qo t with
 |attr E a=>
  rw [hv] at hh
  refine bw (B6 hv) λp aI=>?_;subst aI
  rw [arm_assign_Attribute]
  refine aO (iP (bk Y F C s o cx E fr X _ aq hh _ _ λv1 bq h1 aZ aS p1=>?_))
  obtain⟨m1,bM,bR,S1,x1⟩:=p1
  have C1:=aq.next aS S1 aZ
  refine ay (gW Zk bR) λp e1 de=>?_
  refine aO (ju (aO (iP (aci (s:={s with heap:=h1,toks:=aZ}) (own:=[]) Zk T S1 e1 de x1 (x.step aS) _ _ λ_ bf h2 bS bp p2=>wpAny_release ?_))))
  obtain⟨dz,dX,S2⟩:=p2
  have C2:=C1.next bp S2 bS
  exact q bf h2 bS fr dz (aS.trans bp).any S2 C2.fr dX
 |item E i=>
  rw [hv] at hh
  refine bw (B6 hv) λp aI=>?_;subst aI
  rw [arm_assign_Subscript]
  refine aO (iP (bk Y F C s o cx E fr X _ aq hh _ _ λv1 bq h1 aZ aS p1=>?_))
  obtain⟨m1,bM,bR,S1,x1⟩:=p1
  have C1:=aq.next aS S1 aZ
  refine aO (iP (bk Y F bq _ bM cx i fr X _ C1 bR _ _ λv2 bf h2 bS bp p2=>?_))
  obtain⟨m2,dz,de,S2,x2⟩:=p2
  have C2:=C1.next bp S2 bS
  refine ay (gW Zk de) λpq e1 dX=>?_
  refine aO (ju (aO (iP (ack (s:={s with heap:=h2,toks:=bS}) (own:=[]) Zk S2 e1 dX (x1.step bp) x2 ((x.step aS).step bp) _ _ λ_ dY h3 ey dp p3=>wpAny_release ?_))))
  obtain⟨hM,jY,S3⟩:=p3
  have C3:=C2.next dp S3 ey
  exact q dY h3 ey fr hM (aS.trans (bp.trans dp)).any S3 C3.fr jY
 |name _=>rw [hv] at hh;exact plain hh
 |tup _=>rw [hv] at hh;exact plain hh
 |bad=>rw [hv] at hh;exact plain hh
theorem ND(h:s8 e=true)(t:aa aX)(B:H)(X:cL):swapsWith e t B X=pure false:=by
 cases e<;>first|rfl|exact bz h
theorem O5(ho:Bk t=true)(h:∀ts k p V k' p',¬(t=.Tuple ts k p/\e=.Tuple V k' p')):vU [t] e X=pure none:=by
 unfold vU
 cases t with
 |Tuple ts k p=>
  cases e with
  |Tuple V k' p'=>exact bP ⟨rfl,rfl⟩ (h ts k p V k' p')
  |_=>rfl
 |List ts p=>exact bz ho
 |_=>rfl
theorem SD(Zk:bZ Z ae)(T:Top c w K W I mg mb)(bk:fj ae c w I n O.ev)(aq:Ctx c w I n Y F C s o cx fr X)(J:(s8 e&&Bk t&&Bj t e)=true)(hh:ae (O.ev cx e fr o λv o=>asg Z W O cx t v fr o λfr o=>k .next fr o)):
  bc c w Y (eI cx X) C s (exec (.Assign [t] e pos) X) (PF ae c w I F cx X k):=by
 refine xA (aN.mp J) λJ c3=>?_
 refine xA (aN.mp J) λc1 c2=>?_
 intro Q au q
 rw [exec_Assign_arm]
 refine aO (ju ?_)
 have hs:swapsWithSole [t] e pos.line X=pure false:=ND c1 _ _ _
 rw [hs]
 refine aO (bX ?_)
 rw [bl gK]
 refine aO (bk Y F C s o cx e fr X _ aq hh _ _ λv1 bq h1 aZ aS p1=>?_)
 obtain⟨m1,bM,bR,S1,x1⟩:=p1
 have C1:=aq.next aS S1 aZ
 have ht:(wW [t] X).map (·.2)=[m9 t X]:=by cases t<;>first|rfl|exact bz c2
 have plain:vU [t] e X=pure none->bo (bK c w.w) Y (do assignStores X v1 (<-vU [t] e X) ((wW [t] X).map (·.2))) Q au {s with heap:=h1,toks:=aZ}:=by
  intro hw
  rw [hw,ht]
  refine aO (bX ?_)
  show bo (bK c w.w) Y (do m9 t X v1;pure .next) Q au _
  exact aO (aeO (s:={s with heap:=h1,toks:=aZ}) Zk T bk C1 bR x1 λbf h2 bS kE dz bp S2 G2 de=>bX (q _ bf h2 bS (aS.any.trans bp) ⟨.next,kE,dz,de,S2,G2,rfl⟩))
 by_cases hp:∃ts k p V k' p',t=.Tuple ts k p/\e=.Tuple V k' p'
 .obtain⟨ts,k1,p,V,k',p',rfl,rfl⟩:=hp
  rcases aa6 (X:=X) c3 with hw|⟨names,hw,hl,WO,f,hf,hn⟩
  .exact plain hw
  .rw [hw]
   refine aO (bX ?_)
   show bo (bK c w.w) Y (do rule "assign.swapped-stores";let ft <-unpackItems v1 names.length none;zM (names.reverse.map λn=>Dw X n) ft.reverse;pure .next) Q au _
   refine aO (yT ?_)
   have WZ:ae (Z.opt (pC W cx fr (.Tuple ts k1 p) m1) λfr=>k .next fr bM):=bR
   refine ay (gW Zk WZ) λcy e1 de=>?_
   cases m1 with
   |tup B=>
    have e2:Mine.Internal.storeAll W cx ts B fr=some cy:=e1
    obtain⟨a,ws,n',rfl,sf,g,y⟩:=x1.gi
    refine xA (OS e2) λAx _=>?_
    rw [ad1 hf (by rw [hn];exact hl),hn] at e2
    have Mf:=y.length
    rw [hX] at Mf
    have lD:names.length=ws.size:=by rw [hl,Ax,Mf]
    rw [lD]
    refine aO (unpackItems_tuple (s:={s with heap:=h1,toks:=aZ}) aq.room.1 ⟨_,g,rfl,n',rfl⟩ λh2 oE=>?_)
    have hk:∀b E,h1.get? b=some E->h2.get? b=some E:=λb E e=>oE b E (qQ (hV _) e) e
    refine xA (S1.grow hk) λbp S2=>?_
    have C2:=C1.next bp S2 aZ
    refine aO (aaj names.reverse B.reverse ws.toList.reverse fr cy {s with heap:=h2,toks:=aZ} bM S2 C2.fr (by rw [ad3 names B fr (UL WO) (by rw [hl,Ax])];exact e2) (y.step bp).reverse λh3 ey dp S3 G3=>?_)
    exact bX (q _ bq h3 ey ((aS.any.trans bp.any).trans dp) ⟨.next,cy,bM,de,S3,G3,rfl⟩)
   |_=>exact aB e1
 .exact plain (O5 c2 λts k p V k' p' z=>hp ⟨ts,k,p,V,k',p',z⟩)
end
noncomputable def wk{ag:Type}(ae:ag->Prop)(c:a_)(w:WB)(I:aP)(n:H)(fl:Cx->aX->It->G en->Fm->MH->(eh->Fm->MH->ag)->ag):Prop:=
 ∀(Y:bG) (F k9 C own:G aA) (h0:aP) (s:aT) (o:MH) (cx:Cx) (t:aX) (it:It) (eF:aw) (b:G en) (fr:Fm) (X:cL) (k:eh->Fm->MH->ag) (R':Result->aT->Prop),Ctx c w I n Y (own++F) C s o cx fr X->(∀b∈own,b∉F)->(∀b∈ownOf X,b∈F)->
  fO c w (own++F) C s.heap it eF own->bh (own++eI cx X) k9 h0 C s.heap->(∀b∈own,h0.get? b=none)->ae (fl cx t it b fr o k)->
  (∀f ao M tk,bh (eI cx X) k9 h0 ao M->PF ae c w I F cx X k f ao M->R' (.ok f) {s with heap:=M,toks:=tk})->lB (bK c w.w) Y (.forLoop t eF b [] X) R' s
noncomputable def wN{ag:Type}(ae:ag->Prop)(c:a_)(w:WB)(I:aP)(n:H)(wl:Cx->aX->G en->Fm->MH->(eh->Fm->MH->ag)->ag):Prop:=
 ∀(Y:bG) (F C:G aA) (s:aT) (o:MH) (cx:Cx) (t:aX) (b:G en) (fr:Fm) (X:cL) (k:eh->Fm->MH->ag) (R':Result->aT->Prop),Ctx c w I n Y F C s o cx fr X->ae (wl cx t b fr o k)->
  (∀f ao M tk,bh (eI cx X) C s.heap ao M->PF ae c w I F cx X k f ao M->R' (.ok f) {s with heap:=M,toks:=tk})->lB (bK c w.w) Y (.whileLoop t b [] X) R' s
section
variable{ag:Type}{Z:cU ag}{ae:ag->Prop}{c:a_}{w:WB}{Y:bG}{own F F' C ao:G aA}{s:aT}{I h M:aP}{o br:MH}{K:b8}{W:bQ}{mg mb:ar->aa aw}{n:H}{cx:Cx}{fr cy:Fm}{X:cL}{O:Ops ag}
theorem cH.fx(hF:∀b∈own,b∈F)(st:bh own C h ao M)(hk:∀b∈ownOf X,∀E,h.get? b=some E->M.get? b=some E)(az:cH c w F C h cx fr X):cH c w F ao M cx fr X:=
 az.gen hk az.lP λ_ _ v=>v.fx hF st
theorem NY(h:GJ it t=true):Ib it t:=by
 cases it with
 |zip a b=>
  cases t with
  |Tuple R k p=>exact⟨R,k,p,rfl⟩
  |_=>exact bz h
 |_=>trivial
theorem bh.leave(st:bh (own++jq) k9 h0 C h1)(hn:∀b∈own,h0.get? b=none)(hk:∀b E,b∉own->h1.get? b=some E->h2.get? b=some E):bh jq k9 h0 C h2:=by
 refine⟨st.pre,λb E e n m=>?_,λb E e n=>?_⟩
 .have nb:b∉own:=λq=>by rw [hn b q] at e;exact aB e
  exact hk b E nb (st.keep b E e n λq=>(dI.mp q).elim nb m)
 .have nb:b∉own:=λq=>by rw [hn b q] at e;exact aB e
  obtain⟨⟨o',e'⟩,J⟩:=st.out b E e n
  exact⟨⟨o',hk b o' nb e'⟩,J⟩
theorem wj.drop(hk:∀b E,b∉own->h.get? b=some E->M.get? b=some E)(x:wj c w (own++F) C h g f):wj c w F C M g f:=by
 cases g with
 |next=>exact x
 |ret m=>obtain⟨v,e,y⟩:=x;exact⟨v,e,y.drop hk⟩
theorem VZ(Zk:bZ Z ae)(T:Top c w K W I mg mb)(ZN:zD c w I)(ZS:zE c w I)(bk:lZ ae c w I n O.ex)(fF:wk ae c w I n O.forL):wk ae c w I (n+1) (Et Z W O):=by
 intro Y F k9 C own h0 s o cx t it eF b fr X k R' aq hd hF x oV qS hh done
 have aq:=aq.lower
 have nx:∀b∈own,b∈own++F:=λb hb=>iR _ hb
 have hT:∀b∈eI cx X,b∈F:=λb hb=>hF b (vI b hb)
 refine zW ?_
 show bo _ _ ((forTurn t eF b [] X).onRaise (λx=>do Bc x X;Ic x)) _ _ s
 refine IF ?_
 simp only [forTurn]
 unfold Et at hh
 cases hi:fs o it with
 |none=>rw [hi] at hh;exact(Zk.fail hh).elim
 |some y=>
  rw [hi] at hh
  dsimp only at hh
  cases y with
  |none=>
   refine aO (ju (aO (IG (x.stop ZS aq.room.1 aq.st nx hi λM hk=>?_))))
   dsimp only
   refine bX ⟨rfl,codeAny_block (ID ?_)⟩
   exact done .next C M s.toks (oV.leave qS hk) ⟨.next,fr,o,hh,aq.st.drop hk hd,aq.fr.drop hk hd hF,rfl⟩
  |some q=>
   obtain⟨m,dJ⟩:=q
   refine xA (iU (x:=Z.fail) Zk hh) λJ hh=>?_
   refine ay (gW Zk hh) λfp e1 bR=>?_
   refine aO (ju (aO (IG (qq (x.next ZN aq.st nx (NY J) hi (Q':=λu kU=>∃M tk,kU={s with heap:=M,toks:=tk}/\bh own C s.heap C M/\St c w I (own++F) C o M/\VR c w (own++F) C M m u/\fO c w (own++F) C M dJ eF own) (au:=λ_ _=>dP) (E':=λ_ _=>dP) λu M tk a1 a2 a3 a4=>⟨M,tk,rfl,a1,a2,a3,a4⟩) (λr fX z=>?_) λ_ _ z=>z.elim))))
   refine ay z ?_;clear z;intro u aI z;subst aI
   dsimp only
   refine aO (qq z (λ_ kU z2=>?_) λ_ _ z=>z.elim)
   refine eK z2 λh1 aZ aE aS S1 bB=>xA bB λxu x1=>?_;rw [aE]
   have C1:cH c w (own++F) C h1 cx fr X:=aq.fr.fx nx aS λb hb E e=>aS.keep b E e (aq.st.cI b (fC _ (hF b hb))).2.1 λz=>hd b z (hF b hb)
   refine aO (wY (s:={s with heap:=h1,toks:=aZ}) aq.room.1 S1 C1 e1 xu λh2 bS bp S2 G2=>?_)
   have x2:fO c w (own++F) C h2 dJ eF own:=x1.step (λb hb=>fC _ (hT b hb)) bp λb hb E e=>bp.keep b E e (S1.cI b (nx b hb)).2.1 λz=>hd b hb (hT b z)
   refine aO (ku bk b C {s with heap:=h2,toks:=bS} o fp _ ⟨aq.room,S2,G2⟩ bR _ _ λf dY h3 ey dp p3=>?_)
   refine PF.el p3 λg pM hM dX S3 G3 fl=>?_
   have x3:fO c w (own++F) dY h3 dJ eF own:=x2.step (λb hb=>fC _ (hT b hb)) dp λb hb E e=>dp.keep b E e (S2.cI b (nx b hb)).2.1 λz=>hd b hb (hT b z)
   have m1:∀{N5:G aA} {bq bf:G aA} {g1 g2:aP},bh N5 bq g1 bf g2->(∀b∈N5,b∈own++eI cx X)->bh (own++eI cx X) bq g1 bf g2:=λst hs=>st.more λb hb=>.inl (hs b hb)
   have OM:bh (own++eI cx X) k9 h0 dY h3:=((oV.trans (m1 aS λb hb=>iR _ hb)).trans (m1 bp λb hb=>fC _ hb)).trans (m1 dp λb hb=>fC _ hb)
   cases g with
   |next=>
    cases fl
    refine bX ⟨rfl,?_⟩
    exact fF Y F k9 dY own h0 {s with heap:=h3,toks:=ey} hM cx t dJ eF b pM X k R' ⟨aq.room,S3,G3⟩ hd hF x3 OM qS dX done
   |ret mv=>
    refine ay fl ?_;clear fl;intro v aI xv;rw [aI]
    refine bX ?_
    exact done (.ret v) dY h3 ey (OM.leave qS λb E _ e=>e) ⟨.ret mv,pM,hM,dX,S3.drop (λb E _ e=>e) hd,G3.drop (λb E _ e=>e) hd hF,v,rfl,xv.drop λb E _ e=>e⟩
theorem afv(Zk:bZ Z ae)(bk:lZ ae c w I n O.ex)(fF:mW ae c w I n O.fe)(L:wN ae c w I n O.iO):wN ae c w I (n+1) (PO O):=by
 intro Y F C s o cx t b fr X k R' aq hh done
 have aq:=aq.lower
 refine zW ?_
 have WY:ae (O.fe cx t fr o λJ o=>@bN (λ_=>ag) (k .next fr o) (iy O cx b fr o λf fr o=>@eh.rec (λ_=>ag) (O.iO cx t b fr o k) (λv=>k (.ret v) fr o) f) J):=hh
 show bo _ _ ((do
  if <-isTrue t X (eval t X) then
   match <-iH b X with
   |.next|.cont=>again (.whileLoop t b [] X)
   |.brk=>pure (.done .next)
   |.ret v=>pure (.done (.ret v))
  else return .done (<-iH [] X):iT PySem.Fin).onRaise (λx=>do Bc x X;Ic x)) _ _ s
 refine IF ?_
 refine aO (fF Y F C s o cx t fr X _ aq WY _ _ λJ bq h1 aZ aS p1=>?_)
 refine PB.el p1 λbM bR S1=>?_
 have C1:=aq.next aS S1 aZ
 cases J with
 |false=>
  rw [bl gK]
  refine aO (ID (bX ?_))
  exact done .next bq h1 aZ aS.any ⟨.next,fr,bM,bR,S1,C1.fr,rfl⟩
 |true=>
  rw [bT rfl]
  refine aO (ku bk b bq {s with heap:=h1,toks:=aZ} bM fr _ C1 bR _ _ λf bf h2 bS bp p2=>?_)
  refine PF.el p2 λg kE dz de S2 G2 fl=>?_
  cases g with
  |next=>
   cases fl
   refine bX ⟨rfl,?_⟩
   exact L Y F bf {s with heap:=h2,toks:=bS} dz cx t b kE X k R' ⟨aq.room,S2,G2⟩ de λf ao M tk st p=>done f ao M tk ((aS.any.trans bp).trans st) p
  |ret mv=>
   refine ay fl ?_;clear fl;intro v aI xv;rw [aI]
   refine bX ?_
   exact done (.ret v) bf h2 bS (aS.any.trans bp) ⟨.ret mv,kE,dz,de,S2,G2,v,rfl,xv⟩
theorem Es(h:∀R k p,e≠.Set R k p)(x:aw):VW e X x=pure x:=by
 cases e<;>first|rfl|exact bP rfl (h _ _ _)
end
noncomputable def DL(c:a_)(w:WB)(F C:G aA)(h:aP)(bj:aA)(b_:G D):Prop:=∃V n,h.get? bj=some (fT V n)/\aW c w F C h b_ V.toList.reverse
noncomputable def qw{ag:Type}(ae:ag->Prop)(c:a_)(w:WB)(I:aP)(n:H)(cl:Cx->aX->aX->G aX->G rE->It->G D->Fm->MH->(G D->Fm->MH->ag)->ag):Prop:=
 ∀(Y:bG) (F k9 C own:G aA) (h0:aP) (s:aT) (o:MH) (cx:Cx) (cQ t i:aX) (dj:G aX) (gN gs:G rE) (dH:Scope) (pos:Pos) (kq:H) (it:It) (eF:aw) (bj:aA) (b_:G D) (fr:Fm) (X:cL) (k:G D->Fm->MH->ag) (R':Result->aT->Prop),
  gN[kq]?=some ⟨t,i,dj,0⟩->gN.drop (kq+1)=gs->Ctx c w I n Y (own++F) C s o cx fr X->(∀b∈own,b∉F)->(∀b∈ownOf X,b∈F)->bj∈F->bj∉ownOf X->
  fO c w (own++F) C s.heap it eF own->DL c w (own++F) C s.heap bj b_->bh (own++bj::eI cx X) k9 h0 C s.heap->(∀b∈own,h0.get? b=none)->ae (cl cx cQ t dj gs it b_ fr o k)->
  (∀ao M tk JW cy br,bh (bj::eI cx X) k9 h0 ao M->St c w I F ao br M->cH c w F ao M cx cy X->DL c w F ao M bj JW->ae (k JW cy br)->R' (.ok .next) {s with heap:=M,toks:=tk})->
  lB (bK c w.w) Y (.compLoop (.ListComp cQ gN dH pos) kq eF (.ref bj) X) R' s
section
variable{ag:Type}{Z:cU ag}{ae:ag->Prop}{c:a_}{w:WB}{Y:bG}{own F F' C ao:G aA}{s:aT}{I h M:aP}{o br:MH}{K:b8}{W:bQ}{mg mb:ar->aa aw}{n:H}{cx:Cx}{fr cy:Fm}{X:cL}{O:Ops ag}
theorem DL.fx(hF:∀b∈own,b∈F)(st:bh own C h ao M)(hk:∀E,h.get? bj=some E->M.get? bj=some E)(x:DL c w F C h bj b_):DL c w F ao M bj b_:=by
 refine jv x λV n g y=>?_
 exact⟨V,n,hk _ g,y.fx hF st⟩
theorem aW.Uo(hk:∀b E,b∉own->h.get? b=some E->M.get? b=some E)(x:aW c w (own++F) C h m v):aW c w F C M m v:=x.mono (D5 hk) (.inr λ_ _ e=>e)
theorem DL.drop(hk:∀b E,b∉own->h.get? b=some E->M.get? b=some E)(hD:bj∉own)(x:DL c w (own++F) C h bj b_):DL c w F C M bj b_:=by
 refine jv x λV n g y=>?_
 exact⟨V,n,hk _ _ hD g,aW.Uo hk y⟩
theorem DL.enter(f:jx I h M C new)(x:DL c w F C h bj b_):DL c w (new++F) C M bj b_:=by
 refine jv x λV n g y=>?_
 exact⟨V,n,f.keep _ _ g,y.enter f⟩
theorem XK(fF:mW ae c w I n O.fe):∀(dj:G aX) (C:G aA) (s:aT) (o:MH) (k:ah->MH->ag),Ctx c w I n Y F C s o cx fr X->ae (vZ O true cx dj fr o k)->
  bc c w Y [] C s (sE dj true λJ r=>if r=true then do let ok <-RR J X (eval J X);pure (rH ok) else pure (rH r)) (PB ae c w I F k):=by
 intro gr
 induction gr with
 |nil=>
  intro C s o k aq e
  exact λQ au q=>by
   rw [wy]
   exact bX (q true C s.heap s.toks (.refl ..) ⟨o,e,aq.st⟩)
 |cons J dj XM=>
  intro C s o k aq e
  intro Q au q
  have e':ae (O.fe cx J fr o λb o=>@bN (λ_=>ag) (vZ O true cx dj fr o k) (k b o) (qt true b)):=e
  rw [o_]
  have skip:∀(B:G aX) (s:aT),Q false s->bo (bK c w.w) Y (sE B false λJ r=>if r=true then do let ok <-RR J X (eval J X);pure (rH ok) else pure (rH r)) Q au s:=by
   intro B
   induction B with
   |nil=>intro s h;rw [wy];exact bX h
   |cons a B fQ=>
    intro s h
    rw [o_,bl gK]
    exact aO (bX (fQ s h))
  rw [bT rfl]
  refine aO (aO (fF Y F C s o cx J fr X _ aq e' _ _ λb bq h1 aZ aS p1=>bX ?_))
  obtain⟨bM,bR,S1⟩:=p1
  cases b with
  |false=>exact skip dj _ (q false bq h1 aZ aS ⟨bM,bR,S1⟩)
  |true=>exact XM bq {s with heap:=h1,toks:=aZ} bM k (aq.next aS S1 aZ) bR _ _ λb bf h2 bS bp p2=>q b bf h2 bS (aS.trans bp) p2
theorem fO.self(x:fO c w F C s.heap it v own)(q:Q v s):bo (bK c w.w) Y (oQ v) Q au s:=by
 have si:∀{it:It},(∃i,v=.ref i/\own=[i]/\SI c w F C s.heap it i)->bo (bK c w.w) Y (oQ v) Q au s:=by
  rintro it ⟨i,rfl,rfl,sx⟩
  cases it with
  |lst j k=>obtain⟨a,e,g⟩:=sx;exact afA g q
  |tup B=>obtain⟨t,V,n,j,sf,g,qi,y⟩:=sx;exact wpAny_pyIter_tupleiter qi q
  |bz B=>obtain⟨t,V,n,j,sf,g,qi,y⟩:=sx;exact afA qi q
  |_=>exact sx.elim
 cases it with
 |range k n=>
  refine eK x ?_;clear x;intro i left aE bU g hl;subst aE;skip
  exact wpAny_pyIter_rangeiter g q
 |zip a b=>
  obtain⟨z,TI,TO,i1,i2,x,y,rfl,rfl,nd,g1,g2,g3,s1,s2⟩:=x
  exact wpAny_pyIter_zip g1 q
 |lst i k=>exact si x
 |tup B=>exact si x
 |bz B=>exact si x
theorem Kx(hg:gN[kq]?=some ⟨t,i,dj,0⟩)
  (h0:lB (bK c w.w) Y (.compLoop (.ListComp cQ gN dH pos) kq it b_ X) R' s) (h:∀(Q:aw->aT->Prop) (au:aw->aT->Prop),Q it s->bo (bK c w.w) Y (oQ it) Q au s):
  lB (bK c w.w) Y (.compStart (.ListComp cQ gN dH pos) kq it b_ X) R' s:=by
 refine zW ?_
 show bo _ _ ((compStart (.ListComp cQ gN dH pos) kq it b_ X).onRaise (λx=>do Bc x X;tH theWindowsPlace)) _ _ s
 refine wpAny_notedAt ?_
 unfold compStart
 have hc:clausesOf (.ListComp cQ gN dH pos)=gN:=rfl
 rw [hc,hg]
 refine(?_:bo _ _ (ask>>=_) _ _ s)
 refine aO (wpAny_askSetting (wpAny_ite ?_))
 split
 .first
   |exact aO (bX (bX (Cc rfl h0)))
   |exact bX (Cc rfl h0)
 .refine aO (yT ?_)
  refine(?_:bo _ _ (tH i.pos>>=_) _ _ s)
  exact aO (ju (aO (h _ _ (bX (Cc rfl h0)))))
end
section
variable{ag:Type}{Z:cU ag}{ae:ag->Prop}{c:a_}{w:WB}{Y:bG}{own F F' C ao:G aA}{s:aT}{I h M:aP}{o br:MH}{K:b8}{W:bQ}{mg mb:ar->aa aw}{n:H}{cx:Cx}{fr cy:Fm}{X:cL}{O:Ops ag}
theorem bh.sub(st:bh own C h ao M)(hs:∀b∈own,b∈jq):bh jq C h ao M:=st.more λb hb=>.inl (hs b hb)
theorem fO.past(S:St c w I F C o h)(hF:∀b∈own,b∈F)(EH:∀b∈jq,b∈F)(ne:∀b∈own,b∉jq)(st:bh jq C h ao M)(x:fO c w F C h it v own):fO c w F ao M it v own:=x.step EH st λb hb E e=>st.keep b E e (S.cI b (hF b hb)).2.1 (ne b hb)
theorem DL.past(S:St c w I F C o h)(hD:bj∈F)(EH:∀b∈jq,b∈F)(ne:bj∉jq)(st:bh jq C h ao M)(x:DL c w F C h bj b_):DL c w F ao M bj b_:=x.fx EH st λE e=>st.keep bj E e (S.cI bj hD).2.1 ne
theorem TR(Zk:bZ Z ae)(T:Top c w K W I mg mb)(ZN:zD c w I)(ZS:zE c w I)(ZB:pw ae c w I)(bk:fj ae c w I n O.ev)(fF:mW ae c w I n O.fe)(L:qw ae c w I n O.cmp):qw ae c w I (n+1) (DK Z W O):=by
 intro Y F k9 C own h0 s o cx cQ t i dj gN gs dH pos kq it eF bj b_ fr X k R' hg Au aq hd hF hD xB x dl oV qS hh done
 have aq:=aq.lower
 have nx:∀b∈own,b∈own++F:=λb hb=>iR _ hb
 have LX:bj∉own:=λz=>hd bj z hD
 have sG:bj∈own++F:=fC _ hD
 have hT:∀b∈eI cx X,b∈F:=λb hb=>hF b (vI b hb)
 have Wn:bj∉eI cx X:=λz=>xB (vI bj z)
 have LV:∀b∈bj::eI cx X,b∈F:=λb hb=>(bY.mp hb).elim (λz=>z▸hD) (hT b)
 refine zW ?_
 show bo _ _ ((compTurn (.ListComp cQ gN dH pos) kq eF (.ref bj) X).onRaise (λx=>do Bc x X;Ic x)) _ _ s
 refine IF ?_
 refine gQ λQQ EE hQ _=>?_
 unfold compTurn
 dsimp only
 rw [hg]
 dsimp only
 rw [bl (by decide)]
 unfold DK at hh
 refine aO (ju (gB λff hf=>?_))
 cases hi:fs o it with
 |none=>rw [hi] at hh;exact(Zk.fail hh).elim
 |some y=>
  rw [hi] at hh
  dsimp only at hh
  cases y with
  |none=>
   refine x.stop ZS aq.room.1 aq.st nx hi λM hk=>hf _ _ _ _ _ (bX (hQ _ _ ?_))
   exact done C M s.toks b_ fr o (oV.leave qS hk) (aq.st.drop hk hd) (aq.fr.drop hk hd hF) (dl.drop hk LX) hh
  |some q=>
   obtain⟨m,dJ⟩:=q
   refine xA (iU (x:=Z.fail) Zk hh) λJ hh=>?_
   refine ay (gW Zk hh) λfp e1 bR=>?_
   refine qq (x.next ZN aq.st nx (NY J) hi (Q':=λu kU=>∃M tk,kU={s with heap:=M,toks:=tk}/\bh own C s.heap C M/\St c w I (own++F) C o M/\VR c w (own++F) C M m u/\fO c w (own++F) C M dJ eF own) (au:=λ_ _=>dP) (E':=λ_ _=>dP) λu M tk a1 a2 a3 a4=>⟨M,tk,rfl,a1,a2,a3,a4⟩) (λr fX z=>hf _ _ _ _ _ ?_) λ_ _ z=>z.elim
   refine ay z ?_;clear z;intro u aI z;subst aI
   refine aO (qq z (λ_ kU z2=>?_) λ_ _ z=>z.elim)
   refine eK z2 λh1 aZ aE aS S1 bB=>xA bB λxu x1=>?_;subst aE
   have next:∀ao M tk b_ fr o,bh (bj::eI cx X) C h1 ao M->St c w I (own++F) ao o M->cH c w (own++F) ao M cx fr X->DL c w (own++F) ao M bj b_->ae (O.cmp cx cQ t dj gs dJ b_ fr o k)->lB (bK c w.w) Y (.compLoop (.ListComp cQ gN dH pos) kq eF (.ref bj) X) R' {s with heap:=M,toks:=tk}:=λao M tk b_ fr o st S az dl hh=>
    L Y F k9 ao own h0 {s with heap:=M,toks:=tk} o cx cQ t i dj gN gs dH pos kq dJ eF bj b_ fr X k R' hg Au ⟨aq.room,S,az⟩ hd hF hD xB (x1.past S1 nx (λb hb=>fC _ (LV b hb)) (λb hb q=>hd b hb (LV b q)) st) dl ((oV.trans (aS.sub λb hb=>iR _ hb)).trans (st.sub λb hb=>fC _ hb)) qS hh done
   clear z z2
   have C1:cH c w (own++F) C h1 cx fr X:=aq.fr.fx nx aS λb hb E e=>aS.keep b E e (aq.st.cI b (fC _ (hF b hb))).2.1 λz=>hd b z (hF b hb)
   have Uj:=dl.past aq.st sG nx LX aS
   refine aO (wY (s:={s with heap:=h1,toks:=aZ}) aq.room.1 S1 C1 e1 xu λh2 bS bp S2 G2=>?_)
   have C2:Ctx c w I n Y (own++F) C {s with heap:=h2,toks:=bS} o cx fp X:=⟨aq.room,S2,G2⟩
   refine aO (XK fF dj C {s with heap:=h2,toks:=bS} o _ C2 bR _ _ λok dY h3 ey dp p3=>?_)
   refine PB.el p3 λhM dX S3=>?_
   have C3:=C2.next dp S3 ey
   have HH:=bh.sub (jq:=bj::eI cx X) (bp.trans (bh.any dp)) λb hb=>.tail _ hb
   have DY:=Uj.past S1 sG (λb hb=>fC _ (hT b hb)) Wn (bp.trans (bh.any dp))
   cases ok with
   |false=>
    rw [bl gK]
    exact bX (hQ _ _ ⟨rfl,next _ _ _ _ _ _ HH S3 C3.fr DY dX⟩)
   |true=>
    rw [bT rfl]
    have jY:ae (DJ Z W O cx cQ gs b_ fp hM λb_ fr o=>O.cmp cx cQ t dj gs dJ b_ fr o k):=dX
    unfold DJ at jY
    cases gs with
    |nil=>
     have xE:gN[kq+1]?=none:=drop_nil Au
     rw [xE]
     dsimp only at jY⊢
     refine aO (aO (bk Y (own++F) dY {s with heap:=h3,toks:=ey} hM cx cQ fp X _ C3 jY _ _ λv4 gz h4 jt e_ p4=>?_))
     refine PV.el p4 λm4 p7 pO S4 x4=>?_
     refine xA (iU (x:=Z.fail) Zk pO) λc5 pO=>?_
     have c5:=j4 c5
     have C4:=C3.next e_ S4 jt
     refine jv (DY.past S3 sG ta eP e_) λV nn g y=>?_
     have hl:=y.length
     rw [ez,hX] at hl
     refine aO (afz ⟨nn,g⟩ (λh5 hp hs=>?_) (jk (by lia)))
     refine bw hp λn5 g5=>?_
     refine xA (S4.turn sG hs ⟨_,g5⟩) λkR S5=>?_
     have EI:∀b∈[bj],b∈own++F:=λb hb=>by rw [cA.mp hb];exact sG
     refine bX (bX (hQ _ _ ⟨rfl,next _ _ _ _ _ _ ((HH.trans (bh.any e_)).trans (kR.sub λb hb=>by rw [cA.mp hb];exact .head _)) S5 (C4.fr.fx EI kR λb hb E e=>(hs.2 b λz=>xB (z▸hb)).trans e) ⟨_,n5,g5,by rw [IV,zk];exact .cons (x4.fx EI kR) (y.fx EI kR)⟩ pO⟩))
    |cons g' EC=>
     obtain⟨t2,i2,Fc,a2⟩:=g'
     refine xA (drop_cons Au) λxE WX=>?_
     rw [xE]
     dsimp only at jY⊢
     cases ca:eqZ a2 0&&mE i2 with
     |false=>rw [ca] at jY;exact(Zk.fail jY).elim
     |true=>
      rw [ca] at jY
      dsimp only at jY
      refine xA (aN.mp ca) λDA Ke=>?_
      have DA:=(jC _ _).mp DA
      subst DA
      have WU:∀x,VW i2 X x=pure x:=λx=>Es (λR k p z=>by rw [z] at Ke;exact bz Ke) x
      refine aO (qq (Fx (au:=λ_ _=>dP) (E':=λ_ _=>dP) Zk T ZB bk C3 jY (Q:=λAU kU=>∃gz h4 jt,kU={s with heap:=h4,toks:=jt}/\wg ae c w I (own++F) dY h3 (λu9 o=>O.cmp cx cQ t2 Fc EC u9 b_ fp o λb_ fr o=>O.cmp cx cQ t dj (⟨t2,i2,Fc,0⟩::EC) dJ b_ fr o k) AU gz h4) λAU gz h4 jt b=>⟨gz,h4,jt,rfl,b⟩) (λxv fX z=>?_) λ_ _ z=>z.elim)
      refine aO (ju ?_)
      rw [bl (by decide),WU]
      refine aO (bX ?_)
      rw [bl (by decide)]
      refine aO (iP (qq z (λAU kU z2=>?_) λ_ _ z=>z.elim))
      obtain⟨gz,h4,jt,rfl,u9,nJ,p7,Wl,e_,S4,f4,Nv,x4,pO⟩:=z2
      have C4:cH c w (own++F) gz Wl cx fp X:=C3.fr.step e_ λa ha=>(S3.cI a ha).2.1
      have V6:∀b∈nJ,h3.get? b=none:=λb hb=>by
       cases e:h3.get? b with
       |none=>rfl
       |some E=>
        have:=e_.keep b E e (λz=>(S4.lO (f4.new b hb).1).1 (e_.pre.sublist.subset z)) λz=>nomatch z
        rw [(f4.new b hb).1] at this;exact aB this
      refine aO (wpAny_runOwn (Kx xE ?_ λQ au q=>x4.self q))
      refine L Y (own++F) dY gz nJ h3 {s with heap:=h4,toks:=jt} p7 cx cQ t2 i2 Fc gN EC dH pos (kq+1) u9 AU bj b_ fp X _ _ xE WX ⟨aq.room,S4.enter f4,C4.enter f4⟩ (λb hb=>(S4.lO (f4.new b hb).1).2.1) (λb hb=>fC _ (hF b hb)) sG xB x4 ((DY.past S3 sG ta eP e_).enter f4) ((e_.any.trans (bh.of_keeps f4.keep).any).sub λb hb=>hb) V6 pO
       λCb h5 ag8 Sd Eu Z1 kR S5 G5 DZ ER=>bX (hQ _ _ ⟨rfl,next _ _ _ _ _ _ (HH.trans kR) S5 G5 DZ ER⟩)
end
section
variable{ag:Type}{Z:cU ag}{ae:ag->Prop}{c:a_}{w:WB}{Y:bG}{own F F' C ao:G aA}{s:aT}{I h M:aP}{o br:MH}{K:b8}{W:bQ}{mg mb:ar->aa aw}{n:H}{cx:Cx}{fr cy:Fm}{X:cL}{O:Ops ag}
theorem SI.mono(k:∀a E,h.get? a=some E->cM F C a->M.get? a=some E/\cM F' C a)(hi:∀E,h.get? i=some E->M.get? i=some E)(x:SI c w F C h it i):SI c w F' C M it i:=by
 cases it with
 |lst j k'=>
  refine ay x λa e g=>?_
  exact⟨a,e,g.at hi⟩
 |tup B=>
  refine wK.el x λt V n j sf g q y=>?_
  refine xA (k _ _ g sf) λg' j8=>?_
  exact⟨t,V,n,j,j8,g',(let⟨E,ho,r⟩:=q;⟨E,hi E ho,r⟩),y.mono k (.inr λ_ _ e=>e)⟩
 |bz B=>
  refine wJ.el x λt V n j sf g q y=>?_
  refine xA (k _ _ g sf) λg' j8=>?_
  exact⟨t,V,n,j,j8,g',q.at hi,y.mono k (.inr λ_ _ e=>e)⟩
 |_=>exact x
theorem fO.mono(k:∀a E,h.get? a=some E->cM F C a->M.get? a=some E/\cM F' C a)(hk:∀b∈own,∀E,h.get? b=some E->M.get? b=some E)(x:fO c w F C h it v own):fO c w F' C M it v own:=by
 have si:∀{it:It},(∃i,v=.ref i/\own=[i]/\SI c w F C h it i)->∃i,v=.ref i/\own=[i]/\SI c w F' C M it i:=by
  rintro it ⟨i,rfl,rfl,sx⟩
  exact⟨i,rfl,rfl,SI.mono k (hk i (.head _)) sx⟩
 cases it with
 |range k' n=>
  refine eK x ?_;clear x;intro i left aE bU g hl;rw [aE];subst bU
  exact⟨i,left,rfl,rfl,hk i (.head _) _ g,hl⟩
 |zip a b=>
  obtain⟨z,TI,TO,i1,i2,x,y,rfl,rfl,nd,g1,g2,g3,s1,s2⟩:=x
  exact⟨z,TI,TO,i1,i2,x,y,rfl,rfl,nd,hk _ (by simp) _ g1,hk _ (by simp) _ g2,hk _ (by simp) _ g3,SI.mono k (hk _ (by simp)) s1,SI.mono k (hk _ (by simp)) s2⟩
 |lst i k'=>exact si x
 |tup B=>exact si x
 |bz B=>exact si x
theorem NT(h:tg sc (p::r)=true):(p.2=.local\/p.2=.globalImplicit\/(p.2=.free/\∃j,idxOf sc p.1 0=some (j,.cell)))/\g_ r p.1=none/\tg sc r=true:=by
 obtain⟨x,kd⟩:=p
 have M:(GK sc (x,kd)&&!(cK (g_ r x))&&tg sc r)=true:=h
 refine xA (aN.mp M) λh1 h3=>?_
 refine xA (aN.mp h1) λh1 h2=>?_
 refine⟨?_,?_,h3⟩
 .cases kd with
  |«local»=>exact .inl rfl
  |globalImplicit=>exact .inr (.inl rfl)
  |free=>
   refine .inr (.inr ⟨rfl,?_⟩)
   dsimp only [GK] at h1⊢
   cases q:idxOf sc x 0 with
   |none=>rw [q] at h1;exact bz h1
   |some p=>
    obtain⟨j,k⟩:=p
    rw [q] at h1
    cases k<;>first|cases h1;done|exact⟨j,rfl⟩
  |_=>exact bz h1
 .dsimp only
  generalize q:g_ r x=ax at h2
  cases ax with
  |none=>rfl
  |some _=>exact bz h2
theorem NV(h:tg sc B=true):(B.map (·.1)).Nodup:=by
 induction B with
 |nil=>exact rO
 |cons p r O=>
  refine cf (NT h) λ_ h2 h3=>?_
  refine ic.mpr ⟨λz=>?_,O h3⟩
  refine ay (cF.mp z) λq hq e=>?_
  exact zb.mp (Si h2) q hq (by rw [e];exact r7 _)
theorem NU(h:tg sc B=true):∀p∈B,p.2=.local\/p.2=.globalImplicit\/(p.2=.free/\∃j,idxOf sc p.1 0=some (j,.cell)):=by
 induction B with
 |nil=>exact λp hp=>nomatch hp
 |cons p r O=>
  refine cf (NT h) λh1 _ h3=>?_
  exact λq hq=>(bY.mp hq).elim (λz=>z▸h1) (O h3 q)
theorem TP{B:G (ar×dc)}:(∀p∈B,p.2=.free->∃J,X.cells.lookup p.1=some J)->∀(cs:G (ar×aA)),∃cl:G (ar×aA),(sE B cs (λ(p:ar×dc) (cs:G (ar×aA))=>if(p.2==rQ)=true then do let a <-cellOf X p.1;pure (rH ((p.1,a)::cs)) else pure (rH cs)):iT (G (ar×aA)))=pure cl/\
   (∀q∈cl,q∈cs\/(X.cells.lookup q.1=some q.2/\(q.1,rQ)∈B))/\(∀q∈cs,q∈cl)/\∀p∈B,p.2=.free->∃J,(p.1,J)∈cl/\X.cells.lookup p.1=some J:=by
 induction B with
 |nil=>exact λ_ cs=>⟨cs,wy,λq hq=>.inl hq,λq hq=>hq,λp hp=>nomatch hp⟩
 |cons p r O=>
  obtain⟨x,kd⟩:=p
  intro h cs
  have O:=O λp hp=>h p (.tail _ hp)
  rw [o_]
  by_cases hk:kd=.free
  .obtain rfl:=(hk).symm
   refine bw (h _ (.head _) rfl) λJ hc=>?_
   refine iZ (O ((x,J)::cs)) λcl e1 e2 e3 e4=>?_
   refine⟨cl,?_,λq hq=>?_,λq hq=>e3 q (.tail _ hq),λp hp hf=>?_⟩
   .rw [bT (r7 _),show cellOf X (x,rQ).1=pure J by unfold cellOf;rw [hc],vK,vK]
    exact e1
   .refine(e2 q hq).elim (λe2=>(bY.mp e2).elim (λz=>.inr (z▸⟨hc,.head _⟩)) .inl) λe2=>.inr ⟨e2.1,.tail _ e2.2⟩
   .exact(bY.mp hp).elim (λz=>z▸⟨J,e3 _ (.head _),hc⟩) λhp=>e4 p hp hf
  .refine iZ (O cs) λcl e1 e2 e3 e4=>?_
   refine⟨cl,?_,λq hq=>(e2 q hq).imp_right λe2=>⟨e2.1,.tail _ e2.2⟩,e3,λp hp hf=>(bY.mp hp).elim (λz=>bP ((cq (·.2) z).symm.trans hf) hk) λhp=>e4 p hp hf⟩
   rw [bl (λz=>hk (pI z)),vK]
   exact e1
theorem cH.mono(k:∀a E,h.get? a=some E->cM F C a->M.get? a=some E/\cM F' ao a)(pl:∀(i:H) (a:aA),C[i]?=some a->ao[i]?=some a)(gD:∀b∈ownOf X,b∈F'/\∀E,h.get? b=some E->M.get? b=some E)(az:cH c w F C h cx fr X):cH c w F' ao M cx fr X:=
 az.gen (λb hb=>(gD b hb).2) (λb hb=>(gD b hb).1) λ_ _ v=>v.mono k (.inr pl)
theorem Zg{names:G (ar×dc)}:names.lookup x=some k->
  (names.map λ(n,k)=>if(k==rQ&&X.scope.kind==.function&&X.kindOf n==some .cell) then(n,pg) else(n,k)).lookup x=some (if(k==rQ&&X.scope.kind==.function&&X.kindOf x==some .cell) then pg else k):=by
 induction names with
 |nil=>exact λh=>nomatch h
 |cons p r O=>
  obtain⟨n,k'⟩:=p
  intro h
  have e:∀J:Prop,[Decidable J]->(if J then(n,pg) else(n,k'))=(n,if J then pg else k'):=λJ _=>by split<;>rfl
  rw [jM] at h
  rw [lj]
  refine(?_:List.lookup x ((if(k'==rQ&&X.scope.kind==.function&&X.kindOf n==some .cell)=true then(n,pg) else(n,k'))::_)=_)
  rw [e,jM]
  cases hx:x==n with
  |true=>
   rw [hx] at h
   rw [pI hx,aM h]
  |false=>
   rw [hx] at h
   exact O h
end
section
variable{ag:Type}{Z:cU ag}{ae:ag->Prop}{c:a_}{w:WB}{Y:bG}{own F F' C ao:G aA}{s:aT}{I h M:aP}{o br:MH}{K:b8}{W:bQ}{mg mb:ar->aa aw}{n:H}{cx:Cx}{fr cy:Fm}{X:cL}{O:Ops ag}
theorem mR.begin(az:dm c w F C h sc vars X)(ok:tg sc cB=true)(hs:dH.names=cB)(hk:dH.kind=.function)
  (Wv:∀q∈cl,X.cells.lookup q.1=some q.2) (kG:∀p∈cB,p.2=.free->cl.lookup p.1=X.cells.lookup p.1) (e1:jB.scope=relabel dH X) (e2:jB.globals=X.globals) (e3:jB.builtins=X.builtins) (e4:jB.cells=cl)
  (hm:h.Ns jB.locals m) (Xb:jB.locals∈F) (kJ:∀b∈ownOf X,b≠jB.locals):mR c w F C h sc cB vars (cB.map λ_=>.none) jB:=by
 refine⟨by rw [e1];exact hk,e2.trans az.glob,e3.trans az.blt,λi x k hi=>?_,Xb,λp hp=>?_,⟨m,hm,λi x mv h1 h2=>?_⟩,λi x h1 h2=>?_,NV ok⟩
 .refine xA (jZ hi) λi1 i2=>?_
  have hl:jB.kindOf x=some (if(k==rQ&&X.scope.kind==.function&&X.kindOf x==some .cell) then pg else k):=by
   unfold y7
   rw [e1]
   exact Zg (by rw [hs];exact i2)
  refine⟨λz=>?_,λz=>?_,λz j hj=>?_⟩
  .subst z;rw [hl];rfl
  .subst z;rw [hl];rfl
  .subst z
   have:X.kindOf x=some .cell:=by unfold y7;rw [az.names];exact(jZ hj).2
   rw [hl,az.kind,this];rfl
 .rw [e4] at hp
  exact az.own _ (.tail _ (cF.mpr ⟨_,lookup_mem (Wv p hp),rfl⟩))
 .rw [tZ] at h2
  cases q:cB[i]?<;>(rw [q] at h2;cases h2)
 .refine eK (az.cell i x h1) λJ ov c1 c2 c4 c5=>?_
  refine⟨J,ov,?_,c2,?_,c5⟩
  .rw [e4,kG (x,.free) (lookup_mem h2) rfl];exact c1
  .exact kJ J (.tail _ (cF.mpr ⟨_,lookup_mem c1,rfl⟩))
theorem lookup_all{f:ar->aa aA}{cl:G (ar×aA)}(hq:∀q∈cl,f q.1=some q.2)(h:(x,J)∈cl):cl.lookup x=f x:=by
 induction cl with
 |nil=>nomatch h
 |cons p cl O=>
  obtain⟨y,d⟩:=p
  rw [jM]
  cases z:x==y with
  |true=>exact(pI z)▸(hq _ (.head _)).symm
  |false=>exact(bY.mp h).elim (λe=>bP (iS e).1 (ne_of_beq_false z)) (O λq hh=>hq q (.tail _ hh))
theorem Ky(Zk:bZ Z ae)(T:Top c w K W I mg mb)(ZB:pw ae c w I)(bk:fj ae c w I n O.ev)(L:qw ae c w I n O.cmp)(aq:Ctx c w I n Y F C s o cx fr X){cQ t i:aX}
  (hg:gN=⟨t,i,dj,0⟩::gs) (qT:dH.kind=.function) (sJ:mE i=true) (hh:ae (uF Z W O cx cQ t i dj gs dH.names fr o k))
  (q:∀bj Cl ao M tk m',bh [] C s.heap ao M->PV ae c w I (Cl::F) k (.ref bj) ao M->cH c w (Cl::F) ao M cx fr X->Cl∉F->s.heap.get? Cl=none->M.Ns Cl m'->compPost (bK c w.w) Y au use Q (.ref bj) Cl (.ok .next) {s with heap:=M,toks:=tk}):
  bo (bK c w.w) Y (comprehension (.ListComp cQ gN dH pos) dH X p2 (newList []) false (firstIter gN X) use) Q au s:=by
 subst hg
 unfold uF at hh
 generalize hc:cx.comp=ax at hh
 cases ax with
 |some _=>exact(Zk.fail hh).elim
 |none=>
  refine xA (iU (x:=Z.fail) Zk hh) λok hh=>?_
  have az:dm c w F C s.heap cx.sc fr.vars X:=by have:=aq.fr;unfold cH at this;rw [hc] at this;exact this
  have WT:∀p∈dH.names,p.2=.free->∃J,X.cells.lookup p.1=some J:=by
   intro p hp hf
   rcases NU ok p hp with z|z|⟨_,j,hj⟩
   .rw [hf] at z;cases z
   .rw [hf] at z;cases z
   .refine jv (az.cell j p.1 (jZ hj).1) λJ _ c1 _=>?_
    exact⟨J,c1⟩
  refine iZ (TP WT []) λcl e1 e2 e3 e4=>?_
  have Ar:∀q∈cl,X.cells.lookup q.1=some q.2:=λq hq=>(e2 q hq).elim (λz=>nomatch z) (·.1)
  have Wx:closureFor dH X=pure cl:=by
   unfold closureFor
   refine(?_:(sE dH.names [] _>>=λcs=>pure cs:iT _)=pure cl)
   rw [bind_pure]
   exact e1
  have xH:=NV ok
  have Az:∀x∈dH.names,x.2=.local->dH.names.lookup x.1=some .local:=by
   intro x hx hl
   obtain⟨y,kd⟩:=x
   dsimp only at hl
   subst hl
   have key:∀{B:G (ar×dc)},(B.map (·.1)).Nodup->(y,qC)∈B->B.lookup y=some .local:=by
    intro B
    induction B with
    |nil=>intro _ h;cases h
    |cons p B fQ=>
     obtain⟨z,kz⟩:=p
     intro nd h
     rw [lj,ic] at nd
     rw [jM]
     refine dC (bY.mp h) (λe=>?_) λh=>?_
     .cases e;simp
     .have:y≠z:=λe=>nd.1 (cF.mpr ⟨_,h,e⟩)
      rw [mn.mpr this]
      exact fQ nd.2 h
   exact key xH hx
  refine wpAny_comprehension_free (gs:=gs) rfl (λx=>Es (λR k p z=>by have z:i=.Set R k p:=z;rw [z] at sJ;exact bz sJ) x) Wx qT Az ?_
  refine(?_:bo _ _ (eval i X) _ _ _)
  refine Fx Zk T ZB bk aq hh λeF gz h4 jt b=>?_
  obtain⟨u9,nJ,p7,h1,e_,S4,f4,Nv,x4,pO⟩:=b
  refine IE ?_ (gA _)
  refine wpAny_newFunctionEnv (λp hp z=>by rcases NU ok p hp with y|y|⟨y,_⟩<;>(rw [z] at y;cases y)) (λx hx=>nomatch hx) (λh6 AB Xl=>?_) qT
  have AB:h6.Ns (h4.push {cls:=.type "list",data:=.seq ([]:G aw).toArray}).objs.size (λx=>(([]:G (ar×aw)).reverse).lookup x):=AB
  have k5:∀b E,h4.get? b=some E->(h4.push {cls:=.type "list",data:=.seq ([]:G aw).toArray}).get? b=some E:=fK _ _
  have LW:h4.objs.size≠(h4.push {cls:=.type "list",data:=.seq ([]:G aw).toArray}).objs.size:=by rw [wo];exact rU (Rg _)
  have Wb:(h4.push {cls:=.type "list",data:=.seq ([]:G aw).toArray}).get? h4.objs.size=some (fT #[] 0):=hZ _ rfl
  have c0:(h4.push {cls:=.type "list",data:=.seq ([]:G aw).toArray}).get? (h4.push {cls:=.type "list",data:=.seq ([]:G aw).toArray}).objs.size=none:=hV _
  generalize h4.push {cls:=.type "list",data:=.seq ([]:G aw).toArray}=H5 at*
  generalize agq:H5.objs.size=Cl at*
  have D0:h4.get? h4.objs.size=none:=hV _
  generalize hD:h4.objs.size=bj at*
  have k6:∀b E,H5.get? b=some E->h6.get? b=some E:=λb E e=>(Xl.2 b (qQ c0 e)).trans (fK _ _ _ _ e)
  have AX:∀b E,h4.get? b=some E->h6.get? b=some E:=λb E e=>k6 b E (k5 b E e)
  have Cg:h4.get? Cl=none:=by
   cases z:h4.get? Cl with
   |none=>rfl
   |some E=>rw [k5 _ _ z] at c0;exact ql c0
  have LJ:=k6 _ _ Wb
  have NM:∀{b:aA},h4.get? b=none->h1.get? b=none:=λ{b} z=>by
   cases y:h1.get? b with
   |none=>rfl
   |some E=>rw [f4.keep _ _ y] at z;exact ql z
  have D1:=NM D0
  have C1:=NM Cg
  have Em:jx I h1 h6 gz (nJ++[bj,Cl]):=⟨λb E e=>AX b E (f4.keep b E e),λb hb=>by
   refine dC (dI.mp hb) (λhb=>?_) λhb=>?_
   .refine xA (f4.new b hb) λz1 bB=>bw bB λE z2=>?_
    exact⟨z1,E,AX _ _ z2⟩
   .refine dC (bY.mp hb) (λrf=>?_) λhb=>?_
    .rw [rf];exact⟨D1,_,LJ⟩
    .rw [cA.mp hb];exact⟨C1,Be AB⟩⟩
  refine cf (S4.lO D1) λd1 d2 d3=>?_
  refine cf (S4.lO C1) λl1 l2 l3=>?_
  have G4:cH c w F gz h1 cx fr X:=aq.fr.step e_ λa ha=>(aq.st.cI a ha).2.1
  have S6:St c w I (nJ++(bj::Cl::F)) gz p7 h6:=by have:=S4.enter Em;rwa [l_] at this
  have G6:cH c w (nJ++(bj::Cl::F)) gz h6 cx fr X:=by have:=G4.enter Em;rwa [l_] at this
  have Qp:dm c w (nJ++(bj::Cl::F)) gz h6 cx.sc fr.vars X:=by unfold cH at G6;rw [hc] at G6;exact G6
  have gD:∀b∈ownOf X,b∈F:=lP aq.fr
  have x6:fO c w (nJ++(bj::Cl::F)) gz h6 u9 eF nJ:=x4.mono (λa E e sf=>⟨AX a E e,λz=>by
   refine dC (dI.mp z) (λz=>?_) λz=>?_
   .exact sf.1 (iR _ z)
   .refine dC (bY.mp z) (λrf=>?_) λz=>?_
    .obtain rfl:=rf.symm;rw [D0] at e;exact aB e
    .refine dC (bY.mp z) (λrf=>?_) λz=>?_
     .obtain rfl:=rf.symm;rw [Cg] at e;exact aB e
     .exact sf.1 (fC _ z),sf.2⟩) λb hb E e=>AX b E e
  have kG:∀p∈dH.names,p.2=.free->cl.lookup p.1=X.cells.lookup p.1:=λp hp hf=>by
   refine ay (e4 p hp hf) λJ z _=>?_
   exact lookup_all (f:=λx=>X.cells.lookup x) Ar z
  refine Kx (i:=i) (t:=t) (dj:=dj) rfl ?_ λQ au q=>x6.self q
  have V5:∀jB:cL,jB.scope=relabel dH X->jB.globals=X.globals->jB.builtins=X.builtins->jB.cells=cl->jB.locals=Cl->cH c w (nJ++(bj::Cl::F)) gz h6 ⟨cx.sc,some dH.names⟩ ⟨fr.vars,dH.names.map λ_=>.none⟩ jB:=λjB z1 z2 z3 z4 z5=>by
   unfold cH
   exact mR.begin Qp ok rfl qT Ar kG z1 z2 z3 z4 (by rw [z5];exact AB) (by rw [z5];exact fC _ (.tail _ (.head _))) λb hb z=>by rw [z5] at z;exact l2 (z▸gD b hb)
  refine L Y (bj::Cl::F) gz gz nJ h1 {s with heap:=h6,toks:=jt+([]:G (ar×aw)).length} p7 ⟨cx.sc,some dH.names⟩ cQ t i dj (⟨t,i,dj,0⟩::gs) gs dH pos 0 u9 eF bj [] ⟨fr.vars,dH.names.map λ_=>.none⟩ _ _ _ rfl rfl ⟨aq.room,S6,V5 _ rfl rfl rfl rfl rfl⟩ ?_ ?_ (.head _) ?_ x6 ⟨#[],_,LJ,.nil⟩ (bh.of_keeps Em.keep).any (λb hb=>(f4.new b hb).1) pO ?_
  .intro b hb z
   refine xA (f4.new b hb) λz1 _=>?_
   have Lp:∃E,h4.get? b=some E:=(f4.new b hb).2
   refine dC (bY.mp z) (λrf=>?_) λz=>?_
   .obtain rfl:=rf.symm;obtain⟨E,ho⟩:=Lp;rw [D0] at ho;exact aB ho
   .refine dC (bY.mp z) (λrf=>?_) λz=>?_
    .obtain rfl:=rf.symm;obtain⟨E,ho⟩:=Lp;rw [Cg] at ho;exact aB ho
    .exact(S4.lO z1).2.1 z
  .intro b hb
   refine dC (bY.mp hb) (λrf=>?_) λhb=>?_
   .rw [rf];exact .tail _ (.head _)
   .refine ay (cF.mp hb) λp hp aE=>?_;rw [<-aE]
    exact .tail _ (.tail _ (gD _ (.tail _ (cF.mpr ⟨_,lookup_mem (Ar p hp),rfl⟩))))
  .intro hb
   refine dC (bY.mp hb) (λz=>?_) λhb=>?_
   .exact LW z
   .refine ay (cF.mp hb) λp hp z=>?_
    exact d2 (z▸gD _ (.tail _ (cF.mpr ⟨_,lookup_mem (Ar p hp),rfl⟩)))
  .intro Cb h7 aeS Sd Eu Z1 kR S5 G5 DZ ER
   have yD:bh [bj,Cl] gz h1 Cb h7:=kR
   refine jv DZ λV nn g y=>?_
   have aah:bj∉Cl::F:=λz=>by
    refine dC (bY.mp z) (λz=>?_) λz=>?_
    .exact LW z
    .exact d2 z
   have pv:=Gq (a:=bj) (F:=Cl::F) Zk S5 aah ER λoc=>⟨V,nn,g,y.mono zF (.inr wO),fG _,uu oc⟩
   have Xd:∃m',h7.Ns Cl m':=by
    have:=G5
    unfold cH at this
    refine ay ((this:mR c w (bj::Cl::F) Cb h7 cx.sc dH.names Eu.vars Eu.jU _).loc) λm' EU _=>?_
    exact⟨m',EU⟩
   refine bw Xd λm' EU=>?_
   have vD:∀{b:aA},h1.get? b=none->b∉gz->s.heap.get? b=none:=λ{b} z nb=>by
    cases e:s.heap.get? b with
    |none=>rfl
    |some E=>
     have aak:b∉C:=λq=>nb (by obtain⟨t',E5⟩:=e_.pre;rw [<-E5];exact iR _ q)
     rw [e_.keep b E e aak λq=>nomatch q] at z;exact ql z
   refine q bj Cl (Cb++[bj]) h7 aeS m' ?_ pv ?_ l2 (vD C1 l1) EU
   .exact bh.close (new:=[bj,Cl]) (e_.any.trans yD) (λb hb=>by
     refine dC (bY.mp hb) (λrf=>?_) λhb=>?_
     .rw [rf];exact vD D1 d1
     .rw [cA.mp hb];exact vD C1 l1) (vD D1 d1)
   .refine G4.mono (λa E e sf=>?_) (λj b e=>wO j b (yD.pl j b e)) λb hb=>⟨.tail _ (gD b hb),λE e=>?_⟩
    .have na:a∉[bj,Cl]:=λz=>by
      refine dC (bY.mp z) (λrf=>?_) λz=>?_
      .obtain rfl:=rf.symm;rw [D1] at e;exact aB e
      .rw [cA.mp z,C1] at e;exact aB e
     refine⟨yD.keep a E e sf.2 na,λz=>?_,λz=>?_⟩
     .refine dC (bY.mp z) (λrf=>?_) λz=>?_
      .obtain rfl:=rf.symm;exact na (.tail _ (.head _))
      .exact sf.1 z
     .refine dC (dI.mp z) (λz=>?_) λz=>?_
      .exact(yD.out a E e sf.2).2 z
      .rw [cA.mp z] at na;exact na (.head _)
    .have Aq:=gD b hb
     exact yD.keep b E e (S4.cI b Aq).2.1 λz=>by
      refine dC (bY.mp z) (λrf=>?_) λz=>?_
      .obtain rfl:=rf.symm;exact d2 Aq
      .rw [cA.mp z] at Aq;exact l2 Aq
end
section
variable{ag:Type}{Z:cU ag}{ae:ag->Prop}{c:a_}{w:WB}{Y:bG}{own F F' C ao:G aA}{s:aT}{I h M:aP}{o br:MH}{K:b8}{W:bQ}{mg mb:ar->aa aw}{n:H}{cx:Cx}{fr cy:Fm}{X:cL}{O:Ops ag}
theorem Lc(Zk:bZ Z ae)(T:Top c w K W I mg mb)(ZB:pw ae c w I)(bk:fj ae c w I n O.ev)(L:qw ae c w I n O.cmp)(aq:Ctx c w I n Y F C s o cx fr X)
  (qT:dH.kind=.function) (sJ:mE i=true) (hh:ae (uF Z W O cx cQ t i dj gs dH.names fr o k)):bc c w Y [] C s (eval (.ListComp cQ (⟨t,i,dj,0⟩::gs) dH pos) X) (PV ae c w I F k):=by
 intro Q au q
 rw [arm_eval_ListComp]
 dsimp only
 refine Ky (use:=none) Zk T ZB bk L aq rfl qT sJ hh λbj Cl ao h1 tk m' st pv az nC Gi hm=>?_
 refine⟨m',hm,λh2 hs=>?_⟩
 refine PV.el pv λm br hk S1 x1=>?_
 have pQ:iC Cl h1 h2:=hs
 have sI:∀b E,b∉[Cl]->h1.get? b=some E->h2.get? b=some E:=λb E nb e=>(pQ.2 b λz=>nb (cA.mpr z)).trans e
 refine q (.ref bj) ao h2 tk ?_ ⟨m,br,hk,St.drop (own:=[Cl]) S1 sI λb hb=>by rw [cA.mp hb];exact nC,VR.drop (own:=[Cl]) sI x1⟩
 exact bh.leave (own:=[Cl]) (jq:=[]) (st.any) (λb hb=>by rw [cA.mp hb];exact Gi) sI
theorem aek(v:aX)(x:ar)(p:Pos)(B:H)(X:cL)(h:∃e g s q,v=.ListComp e g s q):∃b,swapsWith v (some (.Name x p)) B X=pure b:=by
 refine gJ h λe g bB=>gJ bB λs q fV=>?_;rw [fV]
 exact⟨_,rfl⟩
theorem SA(Zk:bZ Z ae)(T:Top c w K W I mg mb)(ZB:pw ae c w I)(bk:fj ae c w I n O.ev)(L:qw ae c w I n O.cmp)(aq:Ctx c w I n Y F C s o cx fr X)
  (qT:dH.kind=.function) (sJ:mE i=true) (hh:ae (uF Z W O cx cQ t i dj gs dH.names fr o λv o=>Z.opt (pC W cx fr (.Name x px) v) λfr=>k .next fr o)):
  bc c w Y (eI cx X) C s (exec (.Assign [.Name x px] (.ListComp cQ (⟨t,i,dj,0⟩::gs) dH pos) OL) X) (PF ae c w I F cx X k):=by
 intro Q au q
 rw [exec_Assign_arm]
 refine aO (ju ?_)
 refine bw (aek (.ListComp cQ (⟨t,i,dj,0⟩::gs) dH pos) x px OL.line X ⟨_,_,_,_,rfl⟩) λb hb=>?_
 have hs:swapsWithSole [.Name x px] (.ListComp cQ (⟨t,i,dj,0⟩::gs) dH pos) OL.line X=pure b:=hb
 rw [hs]
 refine aO (bX ?_)
 cases b with
 |false=>
  rw [bl gK]
  refine aO (Lc Zk T ZB bk L aq qT sJ hh _ _ λv1 bq h1 aZ aS p1=>?_)
  refine PV.el p1 λm1 bM bR S1 x1=>?_
  refine ay (gW Zk bR) λfp e1 de=>?_
  have C1:=aq.next aS S1 aZ
  rw [O5 (t:=.Name x px) rfl λts k p V k' p' z=>by cases z.1]
  refine aO (bX ?_)
  show bo (bK c w.w) Y (do m9 (.Name x px) X v1;pure .next) Q au _
  exact aO (wY (s:={s with heap:=h1,toks:=aZ}) aq.room.1 S1 C1.fr e1 x1 λh2 bS bp S2 G2=>bX (q _ bq h2 bS (aS.any.trans bp) ⟨.next,fp,bM,de,S2,G2,rfl⟩))
 |true=>
  rw [bT rfl]
  rw [arm_evalThenUse_ListComp]
  dsimp only
  refine aO (aO (Ky (use:=some _) Zk T ZB bk L aq rfl qT sJ hh λbj Cl ao h1 tk m' st pv az nC Gi hm=>?_))
  refine PV.el pv λm br hk S1 x1=>?_
  refine ay (gW Zk hk) λfp e1 de=>?_
  refine(?_:bo (bK c w.w) Y (m9 (.Name x px) X (.ref bj)) _ au _)
  refine wY (s:={s with heap:=h1,toks:=tk}) aq.room.1 S1 az e1 x1 λh2 bS bp S2 G2=>?_
  have gD:=lP aq.fr
  have aaf:Cl∉eI cx X:=λz=>nC (gD _ (vI _ z))
  have aag:Cl∉ao:=(S1.cI Cl (.head _)).2.1
  refine⟨m',GD hm λE e=>bp.keep Cl E e aag aaf,λh3 Xk=>bX (bX ?_)⟩
  have pQ:iC Cl h2 h3:=Xk
  have sI:∀b E,b∉[Cl]->h2.get? b=some E->h3.get? b=some E:=λb E nb e=>(pQ.2 b λz=>nb (cA.mpr z)).trans e
  refine q .next ao h3 bS ?_ ⟨.next,fp,br,de,St.drop (own:=[Cl]) S2 sI (λb hb=>by rw [cA.mp hb];exact nC),cH.drop (own:=[Cl]) sI (λb hb=>by rw [cA.mp hb];exact nC) gD G2,rfl⟩
  exact bh.leave (own:=[Cl]) (jq:=eI cx X) ((st.any (own:=[Cl]++eI cx X)).trans (bp.sub λb hb=>fC _ hb)) (λb hb=>by rw [cA.mp hb];exact Gi) sI
end
section
variable{ag:Type}{Z:cU ag}{ae:ag->Prop}{c:a_}{w:WB}{Y:bG}{own F F' C ao:G aA}{s:aT}{I h M:aP}{o br:MH}{K:b8}{W:bQ}{mg mb:ar->aa aw}{n:H}{cx:Cx}{fr cy:Fm}{X:cL}{O:Ops ag}
theorem V9(h:X.scope.kind=.function):Mv X=false:=by unfold Mv;rw [h];rfl
theorem Vp(bk:fj ae c w I n O.ev)(aq:Ctx c w I n Y F C s o cx fr X)(J:s8 e=true)(hh:ae (O.ev cx e fr o λ_ o=>k .next fr o)):bc c w Y (eI cx X) C s (exec (.Expr e pos) X) (PF ae c w I F cx X k):=by
 intro Q au q
 show bo (bK c w.w) Y (do tH pos;if Mv X then printExpr (eval e X) else if <-swapsWith e none pos.line X then do evalThenUse e X λ_=>point;pure .next else do dropValue e pos (<-eval e X)) Q au s
 refine aO (ju ?_)
 rw [V9 aq.fr.kind,bl gK,ND J]
 refine aO (bX ?_)
 rw [bl gK]
 refine aO (bk Y F C s o cx e fr X _ aq hh _ _ λv1 bq h1 aZ aS p1=>wpAny_dropValue ?_)
 refine PV.el p1 λm1 bM bR S1 x1=>?_
 exact q _ bq h1 aZ aS.any ⟨.next,fr,bM,bR,S1,(aq.next aS S1 aZ).fr,rfl⟩
theorem VY(Zk:bZ Z ae)(T:Top c w K W I mg mb)(ZB:pw ae c w I)(bk:fj ae c w I n O.ev)(L:wk ae c w I n O.forL)(aq:Ctx c w I n Y F C s o cx fr X)(J:mE i=true)(hh:ae (uG Z W O cx i fr o λit o=>O.forL cx t it b fr o k)):
  bc c w Y (eI cx X) C s (exec (.For t i b [] pos) X) (PF ae c w I F cx X k):=by
 intro Q au q
 refine wpAny_For ?_ λx=>Es (λR k p z=>by rw [z] at J;exact bz J) x
 refine Fx Zk T ZB bk aq hh λeF gz h4 jt bg=>?_
 obtain⟨it,own,p7,h1,e_,S4,f4,Nv,x4,pO⟩:=bg
 have G4:cH c w F gz h1 cx fr X:=aq.fr.step e_ λa ha=>(aq.st.cI a ha).2.1
 have vD:∀b∈own,s.heap.get? b=none:=λb hb=>by
  refine xA (f4.new b hb) λz1 _=>?_
  cases e:s.heap.get? b with
  |none=>rfl
  |some E=>
   have nb:b∉C:=λz=>(S4.lO z1).1 (by obtain⟨t',E5⟩:=e_.pre;rw [<-E5];exact iR _ z)
   rw [e_.keep b E e nb λz=>nomatch z] at z1;exact ql z1
 refine L Y F C gz own s.heap {s with heap:=h4,toks:=jt} p7 cx t it eF b fr X k _ ⟨aq.room,S4.enter f4,G4.enter f4⟩ (λb hb=>(S4.lO (f4.new b hb).1).2.1) (lP aq.fr) x4 (e_.any.trans (bh.of_keeps f4.keep).any) vD pO λf ao M tk st p=>?_
 exact q f ao M tk st p
theorem afu(L:wN ae c w I n O.iO)(aq:Ctx c w I n Y F C s o cx fr X)(hh:ae (O.iO cx t b fr o k)):
  bc c w Y (eI cx X) C s (exec (.While t b [] pos) X) (PF ae c w I F cx X k):=by
 intro Q au q
 exact wpAny_While (L Y F C s o cx t b fr X k _ aq hh λf ao M tk st p=>q f ao M tk st p)
end
section
variable{ag:Type}{Z:cU ag}{ae:ag->Prop}{c:a_}{w:WB}{Y:bG}{own F F' C ao:G aA}{s:aT}{I h M:aP}{o br:MH}{K:b8}{W:bQ}{mg mb:ar->aa aw}{n:H}{cx:Cx}{fr cy:Fm}{X:cL}{O:Ops ag}
theorem LD(h:uL sc=true):sc.kind=.function:=by
 unfold uL at h
 cases q:sc.kind<;>first|rfl|(rw [q] at h;exact bz h)
theorem XJ(bk:lZ ae c w I n O.ex)(fF:mW ae c w I n O.fe)(aq:Ctx c w I n Y F C s o cx fr X)(hh:ae (O.fe cx t fr o λJ o=>@bN (λ_=>ag) (iy O cx b fr o k) (iy O cx a fr o k) J)):
  bc c w Y (eI cx X) C s (exec (.If t a b pos) X) (PF ae c w I F cx X k):=by
 intro Q au q
 refine wpAny_If (fF Y F C s o cx t fr X _ aq hh _ _ λJ bq h1 aZ aS p1=>?_)
 obtain⟨bM,bR,S1⟩:=p1
 have C1:=aq.next aS S1 aZ
 cases J with
 |true=>
  rw [bT rfl]
  exact ku bk a bq {s with heap:=h1,toks:=aZ} bM fr k C1 bR _ _ λf bf h2 bS bp p2=>q f bf h2 bS (aS.any.trans bp) p2
 |false=>
  rw [bl gK]
  exact ku bk b bq {s with heap:=h1,toks:=aZ} bM fr k C1 bR _ _ λf bf h2 bS bp p2=>q f bf h2 bS (aS.any.trans bp) p2
theorem acB(bk:fj ae c w I n O.ev)(aq:Ctx c w I n Y F C s o cx fr X)(hh:ae (O.ev cx e fr o λv o=>k (.ret v) fr o)):
  bc c w Y (eI cx X) C s (exec (.Return (some e) pos) X) (PF ae c w I F cx X k):=by
 intro Q au q
 refine wpAny_Return_some (bk Y F C s o cx e fr X _ aq hh _ _ λv1 bq h1 aZ aS p1=>?_)
 obtain⟨m1,bM,bR,S1,x1⟩:=p1
 exact q _ bq h1 aZ aS.any ⟨.ret m1,fr,bM,bR,S1,(aq.next aS S1 aZ).fr,v1,rfl,x1⟩
noncomputable def C9(e:aX):VE->Prop
 |.const J=>∃kd p,e=.Constant J kd p
 |.name x=>∃p,e=.Name x p/\(!(seq x tC))=true
 |.nc fI a R=>∃p,e=.BoolOp (GO fI) (a::R) p
 |.un op a=>∃p,e=.UnaryOp op a p
 |.bin a op b=>∃p,e=.BinOp a op b p
 |.cmp a op b=>∃p,e=.Compare a [op] [b] p/\Dm op b=false
 |.qW t a b=>∃p,e=.IfExp t a b p
 |.tup R=>∃kd p,e=.Tuple R kd p/\gE R=true
 |.list R=>∃p,e=.List R p/\gE R=true
 |.dict ks V=>∃p,e=.Dict ks V p/\(dB ks.length 16&&wQ ks&&bA ks.length V.length)=true
 |.attr E x=>∃p,e=.Attribute E x p/\tf E=true
 |.item E i=>∃p,e=.Subscript E i p
 |.slice E lo up st=>∃q p,e=.Subscript E (.Slice lo up st q) p
 |.comp cQ t i dj gs cB=>∃sc p,e=.ListComp cQ (⟨t,i,dj,0⟩::gs) sc p/\cB=sc.names/\(uL sc&&mE i)=true
 |.call f args=>∃x q p,f=.Name x q/\e=.Call f args [] p/\gE args=true
 |.yb E x args=>∃q p,e=.Call (.Attribute E x q) args [] p/\gE args=true/\(tf E&&bA q.endLine p.line&&dB args.length 29)=true
 |.HG f a kf=>∃x q kp p,f=.Name x q/\e=.Call f [a] [⟨some vM,kf,kp⟩] p/\gE [a]=true
 |.bad=>jz
theorem rb{P:VE->Prop}(b0:P .bad):∀{J:ah},(J=true->P v)->P (oP J v)
 |true,h=>h rfl
 |false,_=>b0
theorem PJ(e:aX):C9 e (view e):=by
 cases e with
 |Constant J kd p=>exact⟨kd,p,rfl⟩
 |Name x p=>exact rb trivial λJ=>⟨p,rfl,J⟩
 |BoolOp op V p=>cases V with
  |nil=>trivial
  |cons a R=>cases op<;>exact⟨p,rfl⟩
 |UnaryOp op a p=>exact⟨p,rfl⟩
 |BinOp a op b p=>exact⟨p,rfl⟩
 |IfExp t a b p=>exact⟨p,rfl⟩
 |Tuple R kd p=>exact rb trivial λJ=>⟨kd,p,rfl,J⟩
 |List R p=>exact rb trivial λJ=>⟨p,rfl,J⟩
 |Dict ks V p=>exact rb trivial λJ=>⟨p,rfl,J⟩
 |Attribute E x p=>exact rb trivial λJ=>⟨p,rfl,J⟩
 |Compare a ops bs p=>cases ops with
  |nil=>trivial
  |cons op r=>cases r with
   |cons=>trivial
   |nil=>cases bs with
    |nil=>trivial
    |cons b r=>cases r with
     |cons=>trivial
     |nil=>cases b<;>first|exact⟨p,rfl,rfl⟩|trivial
 |Subscript E i p=>cases i<;>first|exact⟨_,p,rfl⟩|exact⟨p,rfl⟩
 |ListComp cQ gN dH p=>cases gN with
  |nil=>trivial
  |cons g gs=>
   obtain⟨tt,i,dj,a⟩:=g
   refine(?_:C9 _ (match eqZ a 0 with|true=>oP (uL dH&&mE i) (.comp cQ tt i dj gs dH.names)|false=>.bad))
   cases ca:eqZ a 0 with
   |false=>trivial
   |true=>
    have ha:=(jC _ _).mp ca
    rw [ha]
    exact rb trivial λJ=>⟨dH,p,rfl,rfl,J⟩
 |Call f args kw p=>
  refine rb (P:=C9 _) trivial λJ=>?_
  cases kw with
  |nil=>cases f with
   |Attribute E x q=>exact rb trivial λc2=>⟨q,p,rfl,J,c2⟩
   |Name x q=>exact⟨x,q,p,rfl,rfl,J⟩
   |_=>trivial
  |cons k1 r=>cases r with
   |cons=>trivial
   |nil=>
    obtain⟨x,kf,kp⟩:=k1
    cases x with
    |none=>trivial
    |some x=>
     dsimp only
     cases ck:seq x vM with
     |false=>trivial
     |true=>
      have ex:=lV.mp ck
      subst ex
      cases args with
      |nil=>trivial
      |cons a r=>cases r with
       |cons=>trivial
       |nil=>cases f with
        |Name y q=>exact⟨y,q,kp,p,rfl,rfl,J⟩
        |_=>trivial
 |_=>trivial
noncomputable def C_(st:en):VS->Prop
 |.expr e=>∃p,st=.Expr e p/\s8 e=true
 |.ret e=>∃p,st=.Return (some e) p
 |.asg t e=>∃p,st=.Assign [t] e p/\(s8 e&&Bk t&&Bj t e)=true
 |.wV t cQ tt i dj gs cB=>∃x px sc lp p,t=.Name x px/\st=.Assign [t] (.ListComp cQ (⟨tt,i,dj,0⟩::gs) sc lp) p/\cB=sc.names/\(uL sc&&mE i)=true
 |.qW t a b=>∃p,st=.If t a b p
 |.iO t b=>∃p,st=.While t b [] p
 |.for t i b=>∃p,st=.For t i b [] p/\mE i=true
 |.bad=>jz
theorem GR{P:VS->Prop}(b0:P .bad):∀{J:ah},(J=true->P v)->P (Bl J v)
 |true,h=>h rfl
 |false,_=>b0
theorem afg(st:en):C_ st (Iw st):=by
 cases st with
 |Expr e p=>exact GR trivial λJ=>⟨p,rfl,J⟩
 |Return e p=>cases e with
  |none=>trivial
  |some e=>exact⟨p,rfl⟩
 |If t a b p=>exact⟨p,rfl⟩
 |While t b E p=>cases E with
  |nil=>exact⟨p,rfl⟩
  |cons=>trivial
 |For t i b E p=>cases E with
  |nil=>exact GR trivial λJ=>⟨p,rfl,J⟩
  |cons=>trivial
 |Assign ts e p=>cases ts with
  |nil=>trivial
  |cons t r=>cases r with
   |cons=>trivial
   |nil=>cases e with
    |ListComp cQ gN dH lp=>cases t with
     |Name x px=>
      have cP:=PJ (.ListComp cQ gN dH lp)
      refine(?_:C_ _ (match view (.ListComp cQ gN dH lp) with|.comp cQ tt i dj gs cB=>VS.wV (.Name x px) cQ tt i dj gs cB|_=>.bad))
      generalize view (.ListComp cQ gN dH lp)=v at cP
      cases v with
      |comp=>obtain⟨sc,q,h,rfl,J⟩:=cP;obtain⟨rfl,rfl,rfl,rfl⟩:=Expr.ListComp.inj h;exact⟨x,px,_,_,p,rfl,rfl,rfl,J⟩
      |_=>trivial
     |_=>trivial
    |_=>first|trivial|exact GR (P:=C_ _) trivial λJ=>⟨p,rfl,J⟩
 |_=>trivial
theorem Vo(Zk:bZ Z ae)(T:Top c w K W I mg mb)(ZB:pw ae c w I)(bk:fj ae c w I n O.ev)(fF:mW ae c w I n O.fe)(bu:lZ ae c w I n O.ex)(L1:wN ae c w I n O.iO)(L2:wk ae c w I n O.forL)(L3:qw ae c w I n O.cmp):lZ ae c w I (n+1) (Ek Z W O):=by
 intro Y F C s o cx st fr X k aq hh
 have aq:=aq.lower
 unfold Ek at hh
 have cP:=afg st
 generalize Iw st=v at hh cP
 cases v with
 |expr e=>obtain⟨p,rfl,J⟩:=cP;exact Vp bk aq J hh
 |ret e=>obtain⟨p,rfl⟩:=cP;exact acB bk aq hh
 |asg t e=>obtain⟨p,rfl,J⟩:=cP;exact SD Zk T bk aq J hh
 |wV t cQ tt i dj gs cB=>
  obtain⟨x,px,sc,lp,p,rfl,rfl,rfl,J⟩:=cP
  obtain⟨c1,c2⟩:=aN.mp J
  exact SA Zk T ZB bk L3 aq (LD c1) c2 hh
 |qW t a b=>obtain⟨p,rfl⟩:=cP;exact XJ bu fF aq hh
 |iO t b=>obtain⟨p,rfl⟩:=cP;exact afu L1 aq hh
 |«for» t i b=>obtain⟨p,rfl,J⟩:=cP;exact VY Zk T ZB bk L2 aq J hh
 |bad=>exact(Zk.fail hh).elim
end
section
variable{ag:Type}{Z:cU ag}{ae:ag->Prop}{c:a_}{w:WB}{Y:bG}{own F F' C ao:G aA}{s:aT}{I h M:aP}{o br:MH}{K:b8}{W:bQ}{mg mb:ar->aa aw}{n:H}{cx:Cx}{fr cy:Fm}{X:cL}{O:Ops ag}
theorem Vn(Zk:bZ Z ae)(T:Top c w K W I mg mb)(ZB:pw ae c w I)(bk:fj ae c w I n O.ev)(fF:mW ae c w I n O.fe)(Cl:qu ae c w I n O.call)(L3:qw ae c w I n O.cmp):fj ae c w I (n+1) (Ei Z W O):=by
 intro Y F C s o cx e fr X k C' hh
 have aq:=C'.lower
 unfold Ei at hh
 have cP:=PJ e
 generalize view e=v at hh cP
 cases v with
 |const J=>obtain⟨kd,p,rfl⟩:=cP;exact TY Zk aq hh
 |name x=>obtain⟨p,rfl,J⟩:=cP;exact UT Zk T aq (NO J) hh
 |nc fI a R=>
  refine bw cP ?_;clear cP;intro p aI;subst aI
  exact Tp Zk bk R a C s o k aq hh
 |un op a=>obtain⟨p,rfl⟩:=cP;exact Vk Zk bk aq hh
 |bin a op b=>obtain⟨p,rfl⟩:=cP;exact UH Zk bk aq hh
 |cmp a op b=>obtain⟨p,rfl,J⟩:=cP;exact UJ Zk T bk aq J hh
 |qW t a b=>obtain⟨p,rfl⟩:=cP;exact UP bk fF aq hh
 |tup R=>obtain⟨kd,p,rfl,J⟩:=cP;exact Vj Zk bk aq J hh
 |list R=>obtain⟨p,rfl,J⟩:=cP;exact UR Zk bk aq J hh
 |dict ks V=>obtain⟨p,rfl,J⟩:=cP;exact UM Zk bk aq J hh
 |attr E x=>obtain⟨p,rfl,J⟩:=cP;exact UE Zk T bk aq J hh
 |item E i=>obtain⟨p,rfl⟩:=cP;exact UQ Zk T bk aq hh
 |slice E lo up st=>obtain⟨q,p,rfl⟩:=cP;exact Vh Zk bk aq hh
 |comp cQ t i dj gs cB=>
  refine eO cP ?_;clear cP;intro sc p aE bU J;subst aE;subst bU
  refine xA (aN.mp J) λc1 c2=>?_
  exact Lc Zk T ZB bk L3 aq (LD c1) c2 hh
 |call f args=>obtain⟨x,q,p,rfl,rfl,J⟩:=cP;exact UI Zk T bk Cl aq J hh
 |yb E x args=>obtain⟨q,p,rfl,J,c2⟩:=cP;exact US Zk T bk Cl aq J c2 hh
 |HG f a kf=>obtain⟨x,q,kp,p,rfl,rfl,J⟩:=cP;exact Vi Zk T bk Cl C' J hh
 |bad=>exact(Zk.fail hh).elim
end
theorem F8{α:Type}{names:G ar}:∀{V:G α} {i:H} {x:ar},names.Nodup->names[i]?=some x->(names.zip V).lookup x=V[i]?:=by
 induction names with
 |nil=>exact λ_ e=>nomatch e
 |cons a names O=>
  intro V i x nd e
  cases V with
  |nil=>rfl
  |cons v V=>
   rw [CD,jM]
   cases i with
   |zero=>rw [aM e,r7];rfl
   |succ i=>
    rw [mn.mpr λ(q:x=a)=>(ic.mp nd).1 (q▸dy (l:=names) e)]
    exact O (ic.mp nd).2 e
theorem agM{α:Type}{names:G ar}:∀{V:G α} {x:ar},x∉names->(names.zip V).lookup x=none:=by
 induction names with
 |nil=>exact λ_=>rfl
 |cons a names O=>
  intro V x h
  cases V with
  |nil=>rfl
  |cons v V=>
   rw [CD,jM,mn.mpr λ(q:x=a)=>h (q▸.head _)]
   exact O λq=>h (.tail _ q)
theorem lookup_append{α:Type}(s t:G (ar×α))(y:ar):(s++t).lookup y=(s.lookup y).or (t.lookup y):=by
 induction s with
 |nil=>rfl
 |cons p s O=>
  obtain⟨a,v⟩:=p
  rw [Je,jM,jM]
  cases y==a with
  |true=>rfl
  |false=>exact O
theorem Zf{α:Type}(B:G (ar×α)):∀(s:G (ar×α)) (y:ar),(B.foldl (λs x=>if(s.lookup x.1).isNone=true then s++[(x.1,x.2)] else s) s).lookup y=(s.lookup y).or (B.lookup y):=by
 induction B with
 |nil=>exact λs y=>(RE).symm
 |cons p B O=>
  obtain⟨a,v⟩:=p
  intro s y
  rw [Jj,O,jM]
  cases z:s.lookup a with
  |none=>
   rw [bT (show RC (none:aa α)=true from rfl),lookup_append,jM]
   cases q:y==a with
   |true=>rw [pI q,z];rfl
   |false=>rw [List.lookup_nil,RE]
  |some u=>
   rw [bl (show ¬RC (some u)=true from gK)]
   cases q:y==a with
   |true=>rw [pI q,z];rfl
   |false=>rfl
theorem Vv{α:Type}(f:ar->aa α)(names:G ar):∀(ws:G α),names.length=ws.length->(∀(i:H) (x:ar),names[i]?=some x->f x=ws[i]?)->(names.filterMap λn=>(f n).map λv=>(n,v))=names.zip ws:=by
 induction names with
 |nil=>exact λ_ _ _=>rfl
 |cons a names O=>
  intro ws h k
  cases ws with
  |nil=>exact bP h (rV _)
  |cons v ws=>
   rw [ze,k 0 a rfl,CD]
   exact cq _ (O ws (lu h) λi=>k (i+1))
noncomputable def Hb(p:Arguments):ah:=p.posonlyargs.isEmpty&&p.vararg.isNone&&p.kwonlyargs.isEmpty&&p.kwarg.isNone
noncomputable def Dx(slots:G (ar×aw))(B:G (ar×aw)):iT (G (ar×aw)):=sE B slots λ(x:ar×aw) (sl:G (ar×aw))=>if(sl.lookup x.1).isNone=true then pure (rH (sl++[(x.1,x.2)])) else pure (rH sl)
theorem Tb(f1 f2:ar)(as:G Arg)(kd:G (aa aX))(df:G aX)(f4:FuncBody)(f5:Scope)(f6:aA)(f7:G (ar×aA))(f8 f9 xn oB:aw)(xp:aa aA)(xq uJ:aw)(El:aA)(iM:G aw)(names:G ar)(hn:as.map (·.arg)=names):
 ∃B1 B2:aa (dS aw)->iT (G (ar×aw)),bindArgs ⟨f1,f2,⟨[],as,none,[],kd,none,df⟩,f4,f5,f6,f7,f8,f9,xn,oB,xp,xq,uJ,El⟩ ⟨iM,[]⟩=(tD f8>>=λE=>
   if(decide (iM.length>names.length)&&(none:aa Arg).isNone)=true then B1 E
   else if(!((names.take (names.length-((E.getD #[]).toList.drop ((E.getD #[]).toList.length-names.length)).length)).filter λn=>((names.zip iM).lookup n).isNone).isEmpty)=true then B2 E
   else Dx (names.zip iM) ((names.drop (names.length-((E.getD #[]).toList.drop ((E.getD #[]).toList.length-names.length)).length)).zip ((E.getD #[]).toList.drop ((E.getD #[]).toList.length-names.length)))>>=λsl=>pure ((names++[]).filterMap λn=>(sl.lookup n).map (n,·))):=by
 obtain rfl:=hn.symm
 exact⟨_,_,rfl⟩
theorem O0{n v d:H}(h:n-v<=d):n-d<=v:=Nat.sub_le_of_le_add (mV d v▸Nat.le_add_of_sub_le h)
theorem Sx{n v d i:H}(h1:v<=n)(h2:n-v<=d)(h3:d<=n)(J:v<=i):i-(n-d)=d-(n-v)+(i-v):=by
 refine bw (CI h1) λa aI=>?_;subst aI
 refine bw (CI J) λJ aI=>?_;rw [aI]
 rw [jO] at h2
 refine bw (CI h2) λb aI=>?_;subst aI
 have hb:b<=v:=Rc (a:=a) (mV v a▸h3)
 refine bw (CI hb) λe aI=>?_;rw [aI]
 rw [jO,jO,jO,mV (b+e) a,Nat.add_sub_add_left,jO,Jt,Rb]
theorem Th(B:G (ar×aw)):∀s0:G (ar×aw),Dx s0 B=pure (B.foldl (λs x=>if(s.lookup x.1).isNone=true then s++[(x.1,x.2)] else s) s0):=by
 induction B with
 |nil=>exact λ_=>rfl
 |cons x B O=>
  intro s0
  unfold Dx at O⊢
  rw [o_,Jj]
  by_cases J:(s0.lookup x.1).isNone=true
  .rw [bT J,vK,bT J];exact O _
  .rw [bl J,vK,bl J];exact O _
theorem Tg{gL:Model}
  (hp:Hb fd.params=true) (hn:fd.params.args.map (·.arg)=names) (nd:names.Nodup)
  (hd:∀Q:aa (dS aw)->aT->Prop,(∀E,(E.getD #[]).toList=dv->Q E s)->bo gL Y (tD fd.defaults) Q au s)
  (h1:iM.length<=names.length) (h2:names.length-iM.length<=dv.length) (h3:dv.length<=names.length)
  (q:Q (names.zip (iM++dv.drop (dv.length-(names.length-iM.length)))) s):bo gL Y (bindArgs fd ⟨iM,[]⟩) Q au s:=by
 unfold Hb at hp
 simp only [tR,Jm,RD] at hp
 obtain⟨⟨⟨p1,p2⟩,p3⟩,p4⟩:=hp
 obtain⟨f1,f2,⟨po,as,va,ko,kd,agG,df⟩,f4,f5,f6,f7,f8,f9,xn,oB,xp,xq,uJ,El⟩:=fd
 dsimp only at hn hd p1 p2 p3 p4
 subst p1 p2 p3 p4
 refine gJ (Tb f1 f2 as kd df f4 f5 f6 f7 f8 f9 xn oB xp xq uJ El iM names hn) λB1 B2 ef=>?_
 rw [ef]
 refine aO (hd _ λE ho=>?_)
 have e1:dv.drop (dv.length-names.length)=dv:=by rw [Nat.sub_eq_zero_of_le h3];rfl
 rw [ho,e1]
 have e2:(decide (iM.length>names.length)&&(none:aa Arg).isNone)=false:=by
  rw [jf (g7.mpr h1)];rfl
 have e3:((names.take (names.length-dv.length)).filter λn=>((names.zip iM).lookup n).isNone)=[]:=by
  rw [List.filter_eq_nil_iff]
  intro x hx J
  obtain⟨i,hi,e⟩:=iE hx
  rw [zh] at hi
  rw [List.getElem_take] at e
  have:names[i]?=some x:=by rw [cV (nY hi (Ri _ _)),e]
  rw [F8 nd this,cV (nY (nY hi (Nat.min_le_left _ _)) (O0 h2))] at J
  exact bz J
 rw [e2,bl gK,e3,bl (by decide),Th,h_]
 refine aO (bX (bX ?_))
 refine cast (cq (λB=>Q B s) ?_) q
 refine(Vv _ names _ (by rw [fy,rL,JA h2,wF h1]) λi x e=>?_).symm
 have hi:i<names.length:=(eM.mp e).1
 rw [Zf,F8 nd e]
 by_cases J:i<iM.length
 .rw [iD J,cV J];rfl
 .have c':iM.length<=i:=Nat.le_of_not_lt J
  rw [Jk c',mS c',Cs]
  rw [Option.none_or,F8 (i:=i-(names.length-dv.length)) (Co (List.drop_sublist ..) nd) (by rw [Cs];rw [<-e];rw [wF (dQ (O0 h2) c')])]
  rw [Sx h1 h2 h3 c']
section
set_option tactic.hygienic true
theorem Kn:∀{n:H} {b_:G (ar×aA)},((x,pg)∈names\/(b_.lookup x).isSome=true)->((w9 n names b_).lookup x).isSome=true:=by
 induction names with
 |nil=>exact λh=>h.elim (λh=>nomatch h) id
 |cons p r O=>
  obtain⟨y,k⟩:=p
  intro n b_ h
  unfold w9
  split
  .refine O (h.elim (λh=>(bY.mp h).elim (λe=>.inr ?_) .inl) λq=>.inr ?_)
   .rw [(iS e).1,jM,r7];rfl
   .rw [jM]
    cases x==y with
    |true=>rfl
    |false=>exact q
  .rename_i hk
   exact O (h.imp_left λh=>(bY.mp h).resolve_left λe=>hk ((iS e).2▸r7 _))
theorem TC:∀{n:H} {b_:G (ar×aA)},(names.map (·.1)).Nodup->(b_.map (·.1)).Nodup->(∀x∈b_.map (·.1),x∉names.map (·.1))->((w9 n names b_).map (·.1)).Nodup:=by
 induction names with
 |nil=>exact λ_ h _=>h
 |cons p r O=>
  obtain⟨y,k⟩:=p
  intro n b_ nd h d
  have nd:=ic.mp nd
  unfold w9
  split
  .refine O nd.2 (ic.mpr ⟨λq=>d y q (.head _),h⟩) λx hx=>?_
   exact(bY.mp hx).elim (λz=>z▸nd.1) λhx q=>d x hx (.tail _ q)
  .exact O nd.2 h λx hx q=>d x hx (.tail _ q)
theorem A2{α:Type}{B:G (ar×α)}{J:α}:(B.map (·.1)).Nodup->(x,J)∈B->B.lookup x=some J:=by
 induction B with
 |nil=>exact λ_ h=>nomatch h
 |cons p B O=>
  obtain⟨y,d⟩:=p
  intro nd h
  have nd:=ic.mp nd
  rw [jM]
  refine(bY.mp h).elim (λe=>?_) λh=>?_
  .rw [(iS e).1,(iS e).2,r7]
  .rw [mn.mpr λe=>nd.1 (cF.mpr ⟨_,h,e⟩)]
   exact O nd.2 h
theorem Tf:∀{m:ar->aa aw} {x:ar},x∉lz.map (·.1)->bindL kf lz m x=m x:=by
 induction lz with
 |nil=>exact λ_=>rfl
 |cons p r O=>
  intro m x h
  unfold bindL
  rw [O λq=>h (.tail _ q)]
  split
  .exact bl λ(e:x=p.1)=>h (by rw [e];exact .head _)
  .rfl
theorem Td:∀{m:ar->aa aw} {x:ar},x∉lz.map (·.1)->bindC kf lz m x=m x:=by
 induction lz with
 |nil=>exact λ_=>rfl
 |cons p r O=>
  intro m x h
  unfold bindC
  rw [O λq=>h (.tail _ q)]
  split
  .rfl
  .exact bl λ(e:x=p.1)=>h (by rw [e];exact .head _)
theorem Te:∀{m:ar->aa aw} {x:ar} {v:aw},(lz.map (·.1)).Nodup->(x,v)∈lz->kf x=some .local->bindL kf lz m x=some v:=by
 induction lz with
 |nil=>exact λ_ h _=>nomatch h
 |cons p r O=>
  intro m x v nd h k
  have nd:=ic.mp nd
  unfold bindL
  refine(bY.mp h).elim (λe=>?_) λh=>O nd.2 h k
  obtain rfl:=e
  rw [bT k,Tf nd.1,bT rfl]
theorem Tc:∀{m:ar->aa aw} {x:ar} {v:aw},(lz.map (·.1)).Nodup->(x,v)∈lz->kf x≠some .local->bindC kf lz m x=some v:=by
 induction lz with
 |nil=>exact λ_ h _=>nomatch h
 |cons p r O=>
  intro m x v nd h k
  have nd:=ic.mp nd
  unfold bindC
  refine(bY.mp h).elim (λe=>?_) λh=>O nd.2 h k
  obtain rfl:=e
  rw [bl k,Td nd.1,bT rfl]
noncomputable def ME(k:dc):ah:=match k with
 |.local=>true
 |.cell=>true
 |_=>false
noncomputable def GG(fd:y9):ah:=Hb fd.params&&!fd.scope.isCoroutine&&!fd.scope.isGenerator&&fd.closure.isEmpty&&(fd.globals==mB)&&(fd.builtins==qH)
structure nX(c:a_)(w:WB)(I:aP)(a:H)(F:Fn)(E:jy)(fd:y9)(dv:G aw):Prop where
 obj:I.get? a=some E
 data:E.data=.func fd
 code:I.CodeRec fd.code fd.qualname
 ok:GG fd=true
 kind:fd.scope.kind=.function
 body:fd.body=.stmts F.body
 names:fd.scope.names=F.sc
 N_:fd.params.args.map (·.arg)=(F.sc.take F.hO).map (·.1)
 kinds:(F.sc.take F.hO).all (λp=>ME p.2)=true
 np:F.hO<=F.sc.length
 nd:(F.sc.map (·.1)).Nodup
 nf:F.jg.length<=F.hO
 dflt:(fd.defaults=.none/\dv=[])\/∃T E n,fd.defaults=.ref T/\I.get? T=some E/\E.data=.seq dv.toArray n
 KW:aW c w [] [] I F.jg dv
section
variable{ag:Type}{Z:cU ag}{ae:ag->Prop}{c:a_}{w:WB}{Y:bG}{own F F' C ao:G aA}{s:aT}{I h M:aP}{o br:MH}{K:b8}{W:bQ}{mg mb:ar->aa aw}{n:H}{cx:Cx}{fr cy:Fm}{X:cL}{O:Ops ag}
theorem agS(dH:Scope)(L g:aA)(Km:G (ar×aA))(q:ar)(f:aa aA)(J:aw)(b:aA):ownOf (newEnv dH L g Km q f J none b)=L::Km.map (·.2):=rfl
theorem aW.base(S:St c w I F C o h)(x:aW c w [] [] I m v):aW c w F C h m v:=
 x.mono (λa E e _=>⟨(S.keep a E e).1,⟨(λq=>nomatch (e.symm.trans (S.cI a q).2.2:some E=none)),(S.keep a E e).2⟩⟩) (.inr λi a e=>by simp at e)
theorem zO(T:Top c w K W I mg mb){a:H}{E:jy}(Fi:nX c w I a az E fd dv)(E0:Y.depth<Hk)(room:∀X,eY n (Y.deeper X))(S:St c w I F C o s.heap)
  (y:aW c w F C s.heap B V) (eb:tI az B=some b)
  (hB:∀(s1:aT) (X:cL),Ctx c w I n (Y.deeper X) (ownOf X++F) C s1 o ⟨az.sc,.none⟩ ⟨b,[]⟩ X->bc c w (Y.deeper X) (ownOf X) C s1 (iH az.body X) (PF ae c w I (ownOf X++F) ⟨az.sc,.none⟩ X λf _ o=>@eh.rec (λ_=>ag) (k .none o) (λv=>k v o) f)) (q:∀v ao M tk,bh [] C s.heap ao M->PV ae c w I F k v ao M->R' (.ok (.ret v)) {s with heap:=M,toks:=tk}):lB (bK c w.w) Y (.call (.ref a) ⟨V,[]⟩) R' s:=by
 obtain⟨f1,f2,f3,f4,f5,f6,f7,f8,f9,xn,oB,xp,xq,uJ⟩:=Fi
 unfold GG at f4
 simp only [tR,wh,Jm,qG] at f4
 obtain⟨⟨⟨⟨⟨g1,g2⟩,g3⟩,g4⟩,g5⟩,g6⟩:=f4
 unfold tI at eb
 refine xA (bI eb) λJ eb=>?_
 refine xA (aN.mp J) λc1 c2=>?_
 have c1:=dw c1
 have c2:=dw c2
 have eb:=aM eb
 rw [gM,gM] at eb
 have yd:=uJ.base S
 have ly:=y.length
 have ld:=uJ.length
 have xI:((az.sc.take az.hO).map (·.1)).length=az.hO:=by rw [cZ,zh,Rh xn]
 have xH:((az.sc.take az.hO).map (·.1)).Nodup:=Co ((List.take_sublist ..).map _) oB
 generalize Az:(az.sc.take az.hO).map (·.1)=names at*
 have AE:=(S.keep _ _ f1).1
 have Ww:s.heap.CodeRec fd.code fd.qualname:=f3.keeps λb E e=>(S.keep b E e).1
 have ya:=aW.append y (yd.drop (az.jg.length-(az.hO-B.length)))
 have Xy:V++dv.drop (dv.length-(names.length-V.length))=V++dv.drop (az.jg.length-(az.hO-B.length)):=by rw [xI,ld,ly]
 have EK:((names.zip (V++dv.drop (az.jg.length-(az.hO-B.length)))).map (·.1))=names:=by
  rw [QU]
  rw [fy,rL,ld,ly,JA c2,wF c1,xI]
  exact fG _
 generalize agw:V++dv.drop (az.jg.length-(az.hO-B.length))=iM at*
 generalize Xe:B++az.jg.drop (az.jg.length-(az.hO-B.length))=aae at*
 have M8:aae.length=az.hO:=by rw [<-Xe,fy,rL,JA c2,wF c1]
 have N9:∀(i:H) (x:ar) (k:dc) (mv:D),az.sc[i]?=some (x,k)->b[i]?=some (some mv)->∃v,(x,v)∈names.zip iM/\VR c w F C s.heap mv v:=by
  intro i x k mv h1 h2
  by_cases hi:i<az.hO
  .rw [<-eb,iD (by rw [cZ,M8];exact hi),tZ] at h2
   refine ay (zr.mp h2) λm h3 h4=>?_
   cases h4
   refine ay (ya.get h3) λv h5 h6=>?_
   refine⟨v,?_,h6⟩
   have:names[i]?=some x:=by rw [<-Az,tZ,List.getElem?_take,bT hi,h1];rfl
   exact dy (by rw [List.getElem?_zip_eq_some];exact⟨this,h5⟩:(names.zip iM)[i]?=some (x,v))
  .rw [<-eb,mS (by rw [cZ,M8];exact g7.mp hi),tZ] at h2
   refine ay (zr.mp h2) λm h3 h4=>?_
   exact aB h4
 have W8:∀x∈names.zip iM,fd.scope.names.lookup x.1=some .local\/(fd.scope.names.lookup x.1=some .cell/\((w9 (s.heap.objs.size+1) fd.scope.names []).lookup x.1).isSome=true):=by
  intro x hx
  have:x.1∈names:=by rw [<-EK];exact QZ hx
  rw [<-Az] at this
  obtain⟨⟨y0,k0⟩,h1,h2⟩:=cF.mp this
  have h3:=l9.mp f9 _ h1
  have h4:(y0,k0)∈az.sc:=List.mem_of_mem_take h1
  dsimp only at h2 h3
  rw [<-h2,f7]
  have h5:=A2 oB h4
  cases k0 with
  |«local»=>exact .inl h5
  |cell=>exact .inr ⟨h5,Kn (.inl h4)⟩
  |_=>exact bz h3
 refine codeAny_call_function E0 AE f2 g2 g3 f6 Ww ?_
 refine Tg (names:=names) (dv:=dv) g1 f8 xH (λQ' LY=>?_) (by rw [xI,ly];exact c1) (by rw [xI,ld,ly];exact c2) (by rw [xI,ld];exact xp) ?_
 .rcases xq with⟨e1,e2⟩|⟨T',o',n',e1,e2,e3⟩
  .rw [e1]
   exact aO (bX (bX (LY _ (by rw [e2];rfl))))
  .rw [e1]
   exact yU (S.keep _ _ e2).1 e3 (LY _ (by simp))
 .rw [Xy,g4]
  refine wpAny_newFunctionEnv_cells f5 W8 λX he s' x=>⟨?_,codeAny_func ?_⟩
  .exact(T.lim.keeps λb E e=>x.toInCall.keep b E (S.keep b E e).1)
  .refine gJ x.toInCall.same λh1 aZ pQ=>?_
   subst pQ
   have keep:∀b E,s.heap.get? b=some E->h1.get? b=some E:=x.toInCall.keep
   have hL:X.locals=s.heap.objs.size:=by rw [he];rfl
   have L9:X.cells=w9 (s.heap.objs.size+1) fd.scope.names []:=by rw [he];rfl
   have EV:X.scope.names=az.sc:=by rw [he];exact f7
   have Wy:(X.cells.map (·.1)).Nodup:=by
    rw [L9]
    refine TC (by rw [f7];exact oB) rO ?_
    intro x hx;cases hx
   have fresh:jx I s.heap h1 C (ownOf X):=by
    refine⟨keep,λb hb=>?_⟩
    rcases bY.mp hb with rfl|hb
    .refine⟨?_,Be x.toInCall.ns⟩
     rw [hL];exact hV _
    .obtain⟨⟨n0,c0⟩,h2,h3⟩:=cF.mp hb
     dsimp only at h3
     rw [<-h3]
     have:=x.above n0 c0 h2
     refine⟨Qq (rS (by rw [hL] at this;exact this)),?_⟩
     refine ay (x.cell n0 c0 (A2 Wy h2)) λo0 Xf _=>?_
     exact⟨o0,Xf⟩
   have S1:St c w I (ownOf X++F) C o h1:=S.enter fresh
   have G1:dm c w (ownOf X++F) C h1 az.sc b X:=by
    refine⟨by rw [he];exact f5,EV,by rw [he];exact g5,by rw [he];exact g6,λb hb=>iR _ hb,⟨_,x.toInCall.ns,λi x0 mv h2 h3=>?_⟩,λi x0 h2=>?_,λx0 y0 J h2 h3=>?_,oB⟩
    .refine ay (N9 i x0 _ mv h2 h3) λv h4 h5=>?_
     refine⟨v,Te (by rw [EK];exact xH) h4 ?_,h5.enter fresh⟩
     unfold y7
     rw [EV]
     exact A2 oB (dy h2)
    .have hc:=Kn (n:=s.heap.objs.size+1) (b_:=[]) (.inl (dy h2))
     rw [<-f7,<-L9] at hc
     refine bw (JB.mp hc) λJ hc=>?_
     refine⟨J,_,hc,x.cell x0 J hc,λe=>?_,λmv h3=>?_⟩
     .have:=x.above x0 J (lookup_mem hc)
      rw [e] at this
      exact zm _ this
     .refine ay (N9 i x0 _ mv h2 h3) λv h4 h5=>?_
      refine⟨v,Tc (by rw [EK];exact xH) h4 ?_,h5.enter fresh⟩
      unfold y7
      rw [EV,A2 oB (dy h2)]
      intro z;cases z
    .exact name_of_addr x.apart (lookup_mem h2) (lookup_mem h3)
   have C1:Ctx c w I n (Y.deeper X) (ownOf X++F) C {s with heap:=h1,toks:=aZ} o ⟨az.sc,.none⟩ ⟨b,[]⟩ X:=⟨room X,S1,G1⟩
   refine hB _ X C1 _ _ λf bf h2 bS bp p2=>?_
   obtain⟨g,kE,dz,de,S2,G2,r2⟩:=p2
   have oV:bh [] C s.heap bf h2:=((bh.of_keeps keep).trans bp).more λb hb=>.inr (fresh.new b hb).1
   cases g with
   |next=>
    have r2:f=.next:=r2
    rw [r2]
    exact q .none bf h2 bS oV ⟨.none,dz,de,S2.leave,by rfl⟩
   |ret m=>
    obtain⟨v,rfl,r3⟩:∃v,f=.ret v/\VR c w (ownOf X++F) bf h2 m v:=r2
    exact q v bf h2 bS oV ⟨m,dz,de,S2.leave,r3.leave⟩
theorem Kf(Zk:bZ Z ae)(T:Top c w K W I mg mb)(Fi:nX c w I a az E fd dv)(bu:lZ ae c w I n O.ex)(E0:Y.depth<Hk)(room:∀X,eY n (Y.deeper X))(S:St c w I F C o s.heap)
  (y:aW c w F C s.heap B V) (hh:ae (uv Z O az B o k)) (q:∀v ao M tk,bh [] C s.heap ao M->PV ae c w I F k v ao M->R' (.ok (.ret v)) {s with heap:=M,toks:=tk}):lB (bK c w.w) Y (.call (.ref a) ⟨V,[]⟩) R' s:=by
 unfold uv at hh
 refine ay (gW Zk hh) λb eb hh=>?_
 exact zO T Fi E0 room S y eb (λs1 X aq=>ku bu az.body C s1 o ⟨b,[]⟩ _ aq hh) q
theorem eY.deep(room:eY (n+1) Y)(X:cL):eY n (Y.deeper X):=room.step rfl (ue _) (CF (by decide) _)
theorem eY.calls(room:eY n Y):Y.depth<Hk:=show Y.depth<1000 from zo (dQ (ig ..) (ig ..)) room.2.1
theorem Kg(Zk:bZ Z ae)(T:Top c w K W I mg mb)(Fi:nX c w I a az E fd dv)(bu:lZ ae c w I n O.ex)(room:eY (n+1) Y)(S:St c w I F C o s.heap)
  (y:aW c w F C s.heap B V) (hh:ae (uv Z O az B o k)):bc c w Y [] C s (call (.ref a) V) (PV ae c w I F k):=λQ au q=>
 B9 (Kf Zk T Fi bu room.calls room.deep S y hh λv ao M tk st p=>q v ao M tk st p)
end
end
section
variable{ag:Type}{Z:cU ag}{ae:ag->Prop}{c:a_}{w:WB}{Y:bG}{own F F' C ao:G aA}{s:aT}{I h M:aP}{o br:MH}{K:b8}{W:bQ}{mg mb:ar->aa aw}{n:H}{cx:Cx}{fr cy:Fm}{X:cL}{O:Ops ag}
theorem XQ:Hv=rX "__init__" :=by decide+kernel
theorem ZF(Zk:bZ Z ae)(T:Top c w K W I mg mb)(hC:W.cls aq=some ms)(hi:g_ ms.1 Hv=some i)(Fi:nX c w I i az E fd dv)(bu:lZ ae c w I n O.ex)(room:eY (n+1) Y)(S:St c w I F C o s.heap)
  (y:aW c w F C s.heap B V) (hh:ae (Gb Z O aq az B o k)):bc c w Y [] C s (call (.ref aq) V) (PV ae c w I F k):=by
 intro Q au q
 have J:=T.cls aq ms hC
 unfold w_ at J
 simp only [tR,qG,l9] at J
 obtain⟨⟨⟨⟨⟨⟨⟨c1,c2⟩,c3⟩,c4⟩,c5⟩,c6⟩,c7⟩,c8⟩:=J
 refine xA (c8 _ (qF hi)) λd1 d2=>?_
 dsimp only at d1 d2
 rw [XQ] at d1
 have X0:=(T.ns S).2.2.1
 unfold Gb at hh
 obtain⟨kI,g,dr,t,os⟩:=s
 refine B9 (make_core (makes_of X0 c1) (looks_findIn X0 d1) (λself=>bind_fn X0 self d2) (.inl rfl) ?_)
 have D0:kI.get? kI.objs.size=none:=hV _
 refine xA (p_ (M:=kI.push D8) Zk S hh D0 (λb x e=>lh _ e) (λJ st=>⟨.inl ⟨[],Cm ..,.nil,λp hp=>nomatch hp⟩,gA _⟩)) λaS p1=>?_
 refine PV.el p1 λm1 bM bR S1 x1=>?_
 have D1:(kI.push D8).get? (kI.objs.size+1)=none:=by
  have:=hV (kI.push D8)
  rwa [wo] at this
 have hp:(C++[kI.objs.size])[o.n]?=some kI.objs.size:=by rw [S.len];simp
 refine xA (p_ (M:=(kI.push D8).push (uZ aq kI.objs.size)) Zk S1 bR D1 (λb x e=>lh _ e) (λJ st=>⟨kI.objs.size,st.pl _ _ hp,by heap_get⟩)) λbp p2=>?_
 refine PV.el p2 λm2 dz de S2 x2=>?_
 have L_:(IZ "type.__call__" ⟨.ref aq::V,[]⟩).weight=1:=rfl
 have Wz:(IZ "type.__call__" ⟨.ref aq::V,[]⟩).cUnits=1:=rfl
 refine Kf (B:=m2::B) (o:=dz) (F:=F) (C:=C++[kI.objs.size]++[kI.objs.size+1]) Zk T Fi bu (Y:=Y.under (.builtin "type.__call__" ⟨.ref aq::V,[]⟩)) ?_ (λX=>?_) S2 (.cons x2 (((y.step aS)).step bp)) de λv dY h3 ey dp p3=>?_
 .refine(?_:Y.depth+_<_)
  rw [L_]
  have:=room.2.1
  have:Hk=1000:=rfl
  lia
 .refine room.step rfl ?_ ?_
  .refine(?_:Y.depth+_+1<=_)
   rw [L_]
   exact fG _
  .refine(?_:Y.units+_+3<=_)
   rw [Wz]
   lia
 .refine PV.el p3 λm3 hM dX S3 x3=>?_
  cases m3 with
  |none=>
   refine⟨x3,?_⟩
   exact q (.ref (kI.objs.size+1)) dY h3 ey (aS.trans (bp.trans dp)) ⟨m2,hM,dX,S3,x2.step dp⟩
  |_=>exact(Zk.fail dX).elim
end
section
variable(c:a_)(w:WB)(I:aP)
noncomputable def nV(eC a:H)(B:G D)(o:MH)(m:D)(br:MH):Prop:=
 ∀(Y:bG) (F C:G aA) (s:aT) (V:G aw),eY eC Y->St c w I F C o s.heap->aW c w F C s.heap B V->bc c w Y [] C s (call (.ref a) V) (λv ao M=>St c w I F ao br M/\VR c w F ao M m v)
noncomputable def iF(W:bQ):Prop:=∀a B o p,W.gX a B o=some p->nV c w I p.1 a B o p.2.1 p.2.2
noncomputable def qD(pull:H):Prop:=
 ∀(Y:bG) (F C:G aA) (s:aT) (o:MH) (j:H) (a:aA) (top:ba) (t:Tok),eY 20 Y->St c w I F C o s.heap->C[j]?=some a->o.t.get j=some .dh->0<top->top<8->
  bc c w Y [] C s (call (.ref pull) [.ref a,.int top t]) (λv ao M=>∃d t',d<top.toNat/\v=.int (.ofNat d) t'/\ao=C/\St c w I F C o M)
noncomputable def y8(W:bQ):Prop:=∀a az,W.fn a=some az->∃E fd dv,nX c w I a az E fd dv
end
section
variable{ag:Type}{Z:cU ag}{ae:ag->Prop}{c:a_}{w:WB}{Y:bG}{own F F' C ao:G aA}{s:aT}{I h M:aP}{o br:MH}{K:b8}{W:bQ}{mg mb:ar->aa aw}{n:H}{cx:Cx}{fr cy:Fm}{X:cL}{O:Ops ag}
theorem TA(Zk:bZ Z ae)(T:Top c w K W I mg mb)(FT:y8 c w I W)(pj:iF c w I W)(P:qD c w I W.pull\/W.fn W.pull=none)(bu:lZ ae c w I n O.ex)(hl:O.lvl<=n):qu ae c w I (n+1) (DB Z W O):=by
 intro Y F C s o f fv B V k room S vf y hh
 have agu:∀{x:ag},ae x->x=Z.fail->dP:=λh e=>Zk.fail (e▸h)
 cases f with
 |bi b=>
  subst vf
  exact Tr room.1 Zk T S hh y
 |fn a=>
  subst vf
  unfold DB at hh
  dsimp only at hh
  generalize ho:W.gX a B o=ax at hh
  cases ax with
  |some p=>
   refine xA (iU (x:=Z.fail) Zk hh) λJ hh=>?_
   have J:=dw J
   intro Q au q
   exact pj a B o p ho Y F C s V (room.le (by lia)) S y _ _ λv bq h1 aZ aS p1=>q v bq h1 aZ aS ⟨_,_,hh,p1.1,p1.2⟩
  |none=>
   dsimp only at hh
   unfold Kh at hh
   generalize hf:W.fn a=ax at hh
   cases ax with
   |some az=>
    dsimp only at hh
    refine gJ (FT a az hf) λE fd bB=>bw bB λdv Fi=>?_
    generalize hp:bA a W.pull=ax at hh
    cases ax with
    |false=>
     exact Kg Zk T Fi bu room S y hh
    |true=>
     dsimp only at hh
     have ea:=dU hp
     unfold Ki at hh
     match B,y,hh with
     |[],y,hh=>exact(Zk.fail hh).elim
     |[_],y,hh=>exact(Zk.fail hh).elim
     |_::_::_::_,y,hh=>exact(Zk.fail hh).elim
     |[b,t],y,hh=>
      cases b with
      |ref j=>
       dsimp only at hh
       generalize hj:o.t.get j=ax at hh
       cases ax with
       |none=>exact(Zk.fail hh).elim
       |some oj=>
        cases oj with
        |dh=>
         cases t with
         |int top=>
          dsimp only at hh
          refine xA (bH Zk hh) λhc hh=>?_
          refine xA (aN.mp hc) λc1 c2=>?_
          refine xA (aN.mp c1) λc1 c3=>?_
          have c3:=(j5 _ _).mp c3
          have c1:=(j5 _ _).mp c1
          have c2:=dw c2
          refine dR.el y.cj λv1 r1 aE y1 y2=>?_;rw [aE]
          refine dR.el y2.cj λv2 r2 aE y3 y4=>?_;rw [aE]
          have e4:=y4.dW
          rw [e4]
          refine ay y1 ?_;clear y1;intro ad EJ aE;subst aE
          refine bw y3 ?_;clear y3;intro tk aI;subst aI
          refine dC P ?_ ?_<;>clear P<;>intro P
          .intro Q au q
           rw [ea]
           refine P Y F C s o j ad top tk (room.le (by lia)) S EJ hj c1 c3 _ _ λv bq h1 aZ aS p1=>?_
           refine eK p1 ?_;clear p1;intro d t' hd bU fV S1;subst bU;obtain rfl:=fV.symm
           exact q _ _ h1 aZ aS ⟨.int (.ofNat d),o,Zk.all _ _ hh d hd,S1,by exact⟨t',rfl⟩⟩
          .rw [ea,P] at hf;exact aB hf
         |_=>exact(Zk.fail hh).elim
        |_=>exact Kg Zk T Fi bu room S y hh
      |_=>exact(Zk.fail hh).elim
   |none=>
    refine ay (gW Zk hh) λms hC hh=>?_
    refine ay (gW Zk hh) λi hi hh=>?_
    refine ay (gW Zk hh) λaz hG hh=>?_
    refine gJ (FT i az hG) λE fd bB=>bw bB λdv Fi=>?_
    exact ZF Zk T hC hi Fi bu room S y hh
 |_=>exact(Zk.fail hh).elim
end
section
variable{ag:Type}{Z:cU ag}{ae:ag->Prop}{c:a_}{w:WB}{Y:bG}{own F F' C ao:G aA}{s:aT}{I h M:aP}{o br:MH}{K:b8}{W:bQ}{mg mb:ar->aa aw}{n:H}{cx:Cx}{fr:Fm}{X:cL}{O:Ops ag}
theorem aeX(eZ:s.heap.IsTupleIter it t i)(ht:s.heap.IsTuple t ft)(hx:ft[i]?=some x)
  (q:∀M,M.IsTupleIter it t (i+1)->iC it s.heap M->Q x {s with heap:=M}):bo (bK c w.w) Y (tT (.ref it)) Q au s:=by
 refine fM (id eZ) λE ho hc hd=>?_
 obtain⟨ot,EY,_,nt,EP⟩:=ht
 unfold tT
 refine aO (PS (name:=rX "__next__") eZ.typeIs Ci (IC Ci eZ.typeIs Qn ?_ (Qm _)))
 refine(?_:bo _ _ (field (.ref it) 0>>=_) _ _ s)
 refine aO (tP ho hd (x:=.ref t) rfl ?_)
 refine(?_:bo _ _ (if(og t==zC)=true then _ else _) _ _ s)
 rw [bl (show ¬((og t==zC)=true) from gK)]
 refine(?_:bo _ _ (field (.ref it) 1>>=_) _ _ s)
 refine aO (tP ho hd (x:=.int i 0) rfl ?_)
 refine(?_:bo _ _ (tD (.ref t)>>=_) _ _ s)
 refine aO (yU EY EP ?_)
 simp only [Qw,hx]
 refine aO (wpAny_setField ho hd (by simp) (bX ⟨x,rfl,bX (q _ ?_ (o8 ..))⟩))
 exact⟨_,y_ _ ho (Obj.isFreed_of_fields (Ry hd _)),(Obj.cls_mapFields ..).trans hc,by
  rw [Ry hd];simp [rawInt]⟩
theorem aeZ(hh:Y.handled=none)(eZ:s.heap.IsTupleIter it t i)(ht:s.heap.IsTuple t ft)(hx:ft[i]?=none)
  (q:∀M e,I4 it s.heap M->(∃E,M.get? e=some E/\E.cls=.type "StopIteration")->au (.ref e) {s with heap:=M}):bo (bK c w.w) Y (tT (.ref it)) Q au s:=by
 refine fM (id eZ) λE ho hc hd=>?_
 obtain⟨ot,EY,_,nt,EP⟩:=ht
 unfold tT
 refine aO (PS (name:=rX "__next__") eZ.typeIs Ci (IC Ci eZ.typeIs Qn ?_ (Qm _)))
 refine(?_:bo _ _ (field (.ref it) 0>>=_) _ _ s)
 refine aO (tP ho hd (x:=.ref t) rfl ?_)
 refine(?_:bo _ _ (if(og t==zC)=true then _ else _) _ _ s)
 rw [bl (show ¬((og t==zC)=true) from gK)]
 refine(?_:bo _ _ (field (.ref it) 1>>=_) _ _ s)
 refine aO (tP ho hd (x:=.int i 0) rfl ?_)
 refine(?_:bo _ _ (tD (.ref t)>>=_) _ _ s)
 refine aO (yU EY EP ?_)
 simp only [Qw,hx]
 refine aO (yT (aO (wpAny_setField ho hd (by simp) ?_)))
 refine(?_:bo _ _ (newExc (.type "StopIteration") []>>=_) _ _ _)
 refine aO ?_
 simp only [newExc,newTuple]
 refine aO (PT ?_ (by size_fits))
 refine aO (m:=firstArgMember _ _) (wpAny_of_eq (a:=zC) (by first|rfl|(simp only [firstArgMember];rfl)) ?_)
 refine PT ?_ (by size_fits)
 simp only [raiseNew]
 refine aO (wpAny_handled ?_)
 first|rw [show Y.in1.handled=none from hh]|rw [hh]
 refine aO (bX (wpAny_throw ?_))
 exact q _ _ (((o8 ..).extBut.push _).push _) ⟨_,hZ _ rfl,rfl⟩
theorem SI.item(S:St c w I F C o h)(x:SI c w F C h it i)(hi:i∈F)(e:fs o it=some (some (m,dJ))):
  (∃a k ft v,h.IsListIter i a k/\h.IsList a ft/\ft[k]?=some v/\VR c w F C h m v/\∀M,M.IsListIter i a (k+1)->iC i h M->SI c w F C M dJ i)\/
  (∃a k ft v,h.IsTupleIter i a k/\h.IsTuple a ft/\ft[k]?=some v/\VR c w F C h m v/\∀M,M.IsTupleIter i a (k+1)->iC i h M->SI c w F C M dJ i):=by
 have hF:∀b∈[i],b∈F:=λb hb=>by rw [cA.mp hb];exact hi
 cases it with
 |lst j k=>
  refine ay x λa p1 g=>?_
  have e':(match listAt o j with|some B=>(match fJ B k with|some v=>some (some (v,It.lst j (cX k)))|.none=>some .none)|.none=>.none)=some (some (m,dJ)):=e
  unfold listAt at e'
  generalize e1:o.t.get j=ax at e'
  cases ax with
  |none=>exact aB e'
  |some E=>
   have r:=S.ref p1 e1
   cases E with
   |list b r'=>
    dsimp only at e'
    refine eO r λV n g0 y z=>?_
    generalize e2:fJ (rv r') k=ax at e'
    cases ax with
    |none=>cases e'
    |some v=>
     cases e'
     rw [oN,fD] at e2
     have y':aW c w F C h r'.reverse V.toList:=by have:=y.reverse;rwa [mU] at this
     refine ay (y'.get e2) λu hu vu=>?_
     exact .inl ⟨a,k,V,u,g,⟨_,g0,rfl,n,rfl⟩,by simpa using hu,vu,λM eZ _=>⟨a,p1,eZ⟩⟩
   |_=>exact aB e'
 |tup B=>
  obtain⟨t,V,n,j,sf,g,qi,y⟩:=x
  cases B with
  |nil=>cases e
  |cons m' B=>
   cases e
   obtain⟨u,r,z,vu,y2⟩:=y.cj
   refine xA (drop_cons z) λz1 z2=>?_
   have kJ:t≠i:=λz=>sf.1 (z▸hi)
   refine .inr ⟨t,j,V,u,qi,⟨_,g,rfl,n,rfl⟩,by simpa using z1,vu,λM eZ hs=>?_⟩
   have hx:∃E,M.get? i=some E:=let⟨E,ho,_⟩:=eZ;⟨E,ho⟩
   refine xA (S.turn hi hs hx) λst _=>?_
   exact⟨t,V,n,j+1,sf,(hs.2 t kJ).trans g,eZ,by rw [z2];exact y2.fx hF st⟩
 |bz B=>
  obtain⟨t,V,n,j,sf,g,qi,y⟩:=x
  cases B with
  |nil=>cases e
  |cons m' B=>
   cases e
   obtain⟨u,r,z,vu,y2⟩:=y.cj
   refine xA (drop_cons z) λz1 z2=>?_
   have kJ:t≠i:=λz=>sf.1 (z▸hi)
   refine .inl ⟨t,j,V,u,qi,⟨_,g,rfl,n,rfl⟩,by simpa using z1,vu,λM eZ hs=>?_⟩
   have hx:∃E,M.get? i=some E:=let⟨E,ho,_⟩:=eZ;⟨E,ho⟩
   refine xA (S.turn hi hs hx) λst _=>?_
   exact⟨t,V,n,j+1,sf,(hs.2 t kJ).trans g,eZ,by rw [z2];exact y2.fx hF st⟩
 |_=>exact x.elim
theorem SI.atEnd(S:St c w I F C o h)(x:SI c w F C h it i)(e:fs o it=some none):
  (∃a k ft,h.IsListIter i a k/\h.IsList a ft/\ft[k]?=none)\/(∃a k ft,h.IsTupleIter i a k/\h.IsTuple a ft/\ft[k]?=none):=by
 cases it with
 |lst j k=>
  refine ay x λa p1 g=>?_
  have e':(match listAt o j with|some B=>(match fJ B k with|some v=>some (some (v,It.lst j (cX k)))|.none=>some .none)|.none=>.none)=some none:=e
  unfold listAt at e'
  generalize e1:o.t.get j=ax at e'
  cases ax with
  |none=>exact aB e'
  |some E=>
   have r:=S.ref p1 e1
   cases E with
   |list b r'=>
    dsimp only at e'
    refine eO r λV n g0 y z=>?_
    generalize e2:fJ (rv r') k=ax at e'
    cases ax with
    |some v=>cases e'
    |none=>
     rw [oN,fD] at e2
     have y':aW c w F C h r'.reverse V.toList:=by have:=y.reverse;rwa [mU] at this
     have:=y'.length
     rw [hX] at this
     rw [Jl] at e2
     exact .inl ⟨a,k,V,g,⟨_,g0,rfl,n,rfl⟩,IS (by lia)⟩
   |_=>exact aB e'
 |tup B=>
  obtain⟨t,V,n,j,sf,g,qi,y⟩:=x
  cases B with
  |nil=>exact .inr ⟨t,j,V,qi,⟨_,g,rfl,n,rfl⟩,by simpa using drop_nil y.dW⟩
  |cons m' B=>cases e
 |bz B=>
  obtain⟨t,V,n,j,sf,g,qi,y⟩:=x
  cases B with
  |nil=>exact .inl ⟨t,j,V,qi,⟨_,g,rfl,n,rfl⟩,by simpa using drop_nil y.dW⟩
  |cons m' B=>cases e
 |_=>exact x.elim
theorem SI.nextOf(S:St c w I F C o s.heap)(x:SI c w F C s.heap it i)(hi:i∈F)(e:fs o it=some (some (m,dJ)))
  (q:∀v M,VR c w F C s.heap m v->SI c w F C M dJ i->iC i s.heap M->(∃E,M.get? i=some E)->Q v {s with heap:=M}):bo (bK c w.w) Y (tT (.ref i)) Q au s:=by
 rcases x.item S hi e with⟨a,k,ft,v,g1,g2,g3,vu,r⟩|⟨a,k,ft,v,g1,g2,g3,vu,r⟩
 .exact wpAny_nextOf_list_item g1 g2 g3 λM eZ hs=>q v M vu (r M eZ hs) hs (let⟨E,ho,_⟩:=eZ;⟨E,ho⟩)
 .exact aeX g1 g2 g3 λM eZ hs=>q v M vu (r M eZ hs) hs (let⟨E,ho,_⟩:=eZ;⟨E,ho⟩)
theorem SI.ad0(hh:Y.handled=none)(S:St c w I F C o s.heap)(x:SI c w F C s.heap it i)(e:fs o it=some none)
  (q:∀M a,I4 i s.heap M->(∃E,M.get? a=some E/\E.cls=.type "StopIteration")->au (.ref a) {s with heap:=M}):bo (bK c w.w) Y (tT (.ref i)) Q au s:=by
 rcases x.atEnd S e with⟨a,k,ft,g1,g2,g3⟩|⟨a,k,ft,g1,g2,g3⟩
 .exact wpAny_nextOf_list_end hh g1 g2 g3 q
 .exact aeZ hh g1 g2 g3 q
end
section
variable{ag:Type}{Z:cU ag}{ae:ag->Prop}{c:a_}{w:WB}{Y:bG}{own F F' C ao:G aA}{s:aT}{I h M:aP}{o br:MH}{K:b8}{W:bQ}{mg mb:ar->aa aw}{n:H}{cx:Cx}{fr:Fm}{X:cL}{O:Ops ag}
theorem af4(e:fs o (.zip a b)=some (some (m,dJ))):∃m1 a' m2 b',fs o a=some (some (m1,a'))/\fs o b=some (some (m2,b'))/\m=.tup [m1,m2]/\dJ=.zip a' b':=by
 unfold fs at e
 generalize e1:fs o a=ax at e
 cases ax with
 |none=>exact aB e
 |some x=>
  cases x with
  |none=>cases e
  |some p=>
   dsimp only at e
   generalize e2:fs o b=ax at e
   cases ax with
   |none=>exact aB e
   |some y=>
    cases y with
    |none=>cases e
    |some q=>
     cases e
     exact⟨p.1,p.2,q.1,q.2,rfl,rfl,rfl,rfl⟩
theorem af3(e:fs o (.zip a b)=some none):fs o a=some none\/∃m1 a',fs o a=some (some (m1,a'))/\fs o b=some none:=by
 unfold fs at e
 generalize e1:fs o a=ax at e
 cases ax with
 |none=>exact aB e
 |some x=>
  cases x with
  |none=>exact .inl rfl
  |some p=>
   dsimp only at e
   generalize e2:fs o b=ax at e
   cases ax with
   |none=>exact aB e
   |some y=>
    cases y with
    |none=>exact .inr ⟨p.1,p.2,rfl,rfl⟩
    |some q=>cases e
theorem St.yM(S:St c w I F C o h)(hF:∀b∈own,b∈F)(ha:a∈own)(hs:iC a h M)(hx:∃E,M.get? a=some E):bh own C h C M/\St c w I F C o M:=by
 obtain⟨st,S'⟩:=S.turn (hF a ha) hs hx
 exact⟨st.sub λb hb=>by rw [cA.mp hb];exact ha,S'⟩
set_option backward.match.sparseCases true in
noncomputable def IJ(z TO:aA)(bu:iT (rG (aa Fin×mX)))(g9:aw×H->iT (rG (aa Fin×mX)))(a:aw×H):iT (rG (aa Fin×mX)):=do
 let y <-(do let v <-tT a.1;pure (some v)).onRaise λ_=>setField (.ref z) 0 .none
 match y with
 |some v=>do
  let kp <-tD (.ref TO)
  match kp with
  |some FE=>do
   updateSeq TO λB=>B.setIfInBounds a.2 v
   letGo [FE.getD a.2 .none]
   pure (.yield (none,()))
  |_=>bu
 |none=>g9 a
set_option backward.match.sparseCases true in
noncomputable def P2(z TO:aA)(bu:iT Fin):iT Fin:=do
 let kp <-tD (.ref TO)
 match kp with
 |some FE=>do
  let r <-newTuple FE.toList
  Builtin.SmallTypes.ownedTupleHandOut (.ref z) r
  ret r
 |_=>bu
theorem P5{Q:aa aw->aT->Prop}(hz:tY s.heap z TI TO .none)(uO:wt s.heap TI (.ref i1) (.ref i2))
  (k:∀(oF:aP) (aV:aw×H->aa Fin×mX->iT (rG (aa Fin×mX))) (f:aa Fin×mX->iT Fin) bu g9 X' (QQ:Fin->aT->Prop) (EE:aw->aT->Prop),tY oF z TI TO .ellipsis->iC z s.heap oF->
   (∀Y a r Q au s,bo (bK c w.w) Y (IJ z TO bu g9 a) Q au s->bo (bK c w.w) Y (aV a r) Q au s)->
   (∀Y Q au s,bo (bK c w.w) Y (P2 z TO X') Q au s->bo (bK c w.w) Y (f (none,())) Q au s)->
   (∀v s',Q (some v) s'->QQ (.done (.ret v)) s')->(∀a s',(∃E,s'.heap.get? a=some E/\E.cls=.type "StopIteration")->Q none s'->EE (.ref a) s')->
   bo (bK c w.w) Y.in1 (sE [og i1,og i2].zipIdx (none,()) aV) (λr s'=>bo (bK c w.w) Y.in1 (f r) QQ EE s') EE {s with heap:=oF}):bo (bK c w.w) Y (qh (.ref z)) Q au s:=by
 have hT:s.TypeIs (.ref z) "zip" :=⟨_,hz,rfl⟩
 unfold qh
 refine aO (PR (PS (name:=rX "__next__") hT F.slot_zip_next (IC F.slot_zip_next hT F.entry_zip_next ?_ (F.args_zip_next_1 _))))
 refine gQ λQQ EE hQ hE=>?_
 refine(?_:bo _ _ (field (.ref z) 2>>=_) _ _ _)
 refine aO (tP hz rfl (x:=.bool false) rfl ?_)
 refine(?_:bo _ _ (field (.ref z) 3>>=_) _ _ _)
 refine aO (tP hz rfl (x:=.ref TI) rfl (aO (yU uO rfl ?_)))
 refine(?_:bo _ _ (Builtin.SmallTypes.ownedTupleIsFree (.ref z)>>=_) _ _ _)
 refine aO (aO (tP hz rfl (x:=.none) rfl (bX ?_)))
 rw [bT rfl]
 refine aO (yT (aO (tP hz rfl (x:=.ref TO) rfl (aO (IH hz (CN 4) λoF qV kK=>aO ?_)))))
 exact k oF _ _ _ _ _ QQ EE qV kK (λY a r Q au s x=>x) (λY Q au s x=>x) (λv s' q=>hQ _ _ ⟨_,rfl,bX q⟩)
  λa s' he q=>hE _ _ (he.elim λE ho=>aO (wpAny_isInstance (T:="StopIteration") (b:=true) ⟨E,ho.1,ho.2⟩ isSubtype_stop (bX q)))
theorem IL{bu g9}{Q:rG (aa Fin×mX)->aT->Prop}(S:St c w I F C o s.heap)(x:SI c w F C s.heap it i)(hF:∀b∈[i,TO],b∈F)(ni:TO≠i)(e:fs o it=some (some (m,dJ)))(sH:wt s.heap TO xx yy)
  (q:∀v M,VR c w F C M m v->SI c w F C M dJ i->(∀b,b≠i->b≠TO->M.get? b=s.heap.get? b)->bh [i,TO] C s.heap C M->St c w I F C o M->M.get? TO=some {cls:=.type "tuple",data:=.seq ((#[xx,yy]:dS aw).setIfInBounds k v)}->Q (.yield (none,())) {s with heap:=M}):
  bo (bK c w.w) Y (IJ z TO bu g9 (.ref i,k)) Q au s:=by
 refine aO (IG (aO (SI.nextOf S x (hF _ (.head _)) e λv E9 vu x2 uV XC=>bX ?_)))
 refine xA (S.yM hF (.head _) uV XC) λt2 S2=>?_
 have LZ:wt E9 TO xx yy:=(uV.2 _ ni).trans sH
 refine aO (yU LZ rfl (aO (wpAny_updateSeq_pair LZ λsM Ao uW=>aO (wpAny_letGo (bX ?_)))))
 refine xA (S2.yM hF (.tail _ (.head _)) uW ⟨_,Ao⟩) λt3 S3=>?_
 exact q v sM (vu.fx hF (t2.trans t3)) (x2.step hF t3 λE e=>(uW.2 _ ni.symm).trans e) (λb b1 b2=>(uW.2 b b2).trans (uV.2 b b1)) (t2.trans t3) S3 Ao
theorem af5{bu}{Q:Fin->aT->Prop}(hz:tY s.heap z TI TO J)(sH:wt s.heap TO v1 v2)
  (q:∀T AI M,(∀b E,s.heap.get? b=some E->AI.get? b=some E)->s.heap.get? T=none->AI.get? T=some (kX #[v1,v2] 0)->tY M z TI TO (rawInt T)->iC z AI M->Q (.done (.ret (.ref T))) {s with heap:=M}):
  bo (bK c w.w) Y (P2 z TO bu) Q au s:=by
 refine aO (yU sH rfl (aO (wpAny_newTuple ?_)))
 have XE:=fK s.heap {cls:=.type "tuple",data:=.seq #[v1,v2]} _ _ hz
 refine aO (aO (IH XE (CN 4) λagz XF Xs=>IH XF (zq (CN 3)) λE_ E8 E4=>?_))
 exact bX (q _ _ E_ (fK _ _) (hV _) (hZ _ rfl) E8 (Xs.trans E4))
theorem J1{z TI TO i1 i2:aA}(nd:[z,TI,TO,i1,i2].Nodup):(z≠TI/\z≠TO/\z≠i1/\z≠i2)/\(TI≠TO/\TI≠i1/\TI≠i2)/\(TO≠i1/\TO≠i2)/\i1≠i2:=by
 simpa only [ic,bY,eP,gF,not_or,rO,and_true,aaG] using nd
theorem P4:zD c w I:=by
 intro Y F C own s o a b dJ v m t Q' au E' S hF x ht e q
 obtain⟨m1,a',m2,b',e1,e2,rm,ri⟩:=af4 e
 rw [rm,ri] at q
 obtain⟨z,TI,TO,i1,i2,xx,yy,rv,ro,nd,hz,uO,sH,s1,s2⟩:=x
 subst rv ro
 obtain⟨agi,kd,pos,rfl⟩:=ht
 refine eN (J1 nd) λz1 z2 z3 z7=>eN z1 λd1 d2 d3 d4=>cf z2 λd5 d6 d7=>xA z3 λd8 d9=>?_
 have mz:z∈[z,TI,TO,i1,i2]:=.head _
 have sub:∀i∈[i1,i2],∀b∈[i,TO],b∈[z,TI,TO,i1,i2]:=λi hi b hb=>(bY.mp hb).elim (λq=>q▸.tail _ (.tail _ (.tail _ hi))) λhb=>cA.mp hb▸.tail _ (.tail _ (.head _))
 refine P5 hz uO λoF aV f bu g9 X' QQ EE qV kK hB hf hQ _=>?_
 refine xA (S.yM hF mz kK ⟨_,qV⟩) λt1 S1=>?_
 rw [CA,o_]
 refine aO (hB _ _ _ _ _ _ (IL (s:={s with heap:=oF}) S1 (s1.step hF t1 λE e=>(kK.2 _ (n7 d3)).trans e) (λb hb=>hF b (sub _ (.head _) b hb)) d8 e1 ((kK.2 _ (n7 d2)).trans sH) λv1 sM afi acM k3 t3 S3 Ao=>?_))
 have t3:=t3.sub (sub _ (.head _))
 dsimp only
 rw [CA,o_]
 refine aO (hB _ _ _ _ _ _ (IL (s:={s with heap:=sM}) S3 (s2.step hF (t1.trans t3) λE e=>(k3 _ (n7 z7) (n7 d9)).trans ((kK.2 _ (n7 d4)).trans e)) (λb hb=>hF b (sub _ (.tail _ (.head _)) b hb)) d9 e2 Ao λv2 Mn afj acO k5 t5 S5 L0=>?_))
 have t5:=t5.sub (sub _ (.tail _ (.head _)))
 dsimp only
 rw [List.zipIdx_nil,wy]
 refine bX (hf _ _ _ _ (af5 (s:={s with heap:=Mn}) ((k5 _ d4 d2).trans ((k3 _ d3 d2).trans qV)) L0 λT AI E_ k6 n6 gT E8 E4=>hQ _ _ ⟨_,rfl,wpAny_letOwnedTupleGo_zip (s:={s with heap:=E_}) E8 λMo Ml Xt=>?_⟩))
 have hs:=E4.trans Xt
 refine xA (S5.grow k6) λt6 S6=>?_
 refine xA (S6.yM hF mz hs ⟨_,Ml⟩) λt9 S9=>?_
 have yF:=(t6.any (own:=[z,TI,TO,i1,i2])).trans t9
 have OA:cM F C T:=⟨(S5.lO n6).2.1,(S5.lO n6).1⟩
 have pB:∀b,b≠z->∀E,Mn.get? b=some E->Mo.get? b=some E:=λb hb E e=>(hs.2 _ hb).trans (k6 _ E e)
 refine q (.ref T) Mo _ (((t1.trans t3).trans t5).trans yF) S9 ?_ ?_
 .exact⟨T,#[v1,v2],0,rfl,OA,(hs.2 T λq=>OA.1 (q.symm▸hF _ mz)).trans gT,.cons (afi.fx hF (t5.trans yF)) (.one (afj.fx hF yF))⟩
 .exact .mk z TI TO i1 i2 v1 v2 rfl rfl nd Ml (pB _ d1.symm _ ((k5 _ d7 d5).trans ((k3 _ d6 d5).trans ((kK.2 _ d1.symm).trans uO)))) (pB _ d2.symm _ L0)
   (acM.step hF (t5.trans yF) λE e=>pB _ d3.symm _ ((k5 _ z7 d8.symm).trans e)) (acO.step hF yF λE e=>pB _ d4.symm _ e)
end
section
variable{ag:Type}{Z:cU ag}{ae:ag->Prop}{c:a_}{w:WB}{Y:bG}{own F F' C ao:G aA}{s:aT}{I h M:aP}{o br:MH}{K:b8}{W:bQ}{mg mb:ar->aa aw}{n:H}{cx:Cx}{fr:Fm}{X:cL}{O:Ops ag}
theorem P7{bu g9}{Q:rG (aa Fin×mX)->aT->Prop}(hh:Y.handled=none)(S:St c w I F C o s.heap)(x:SI c w F C s.heap it i)(e:fs o it=some none)(hz:tY s.heap z TI TO J)(ni:z≠i)
  (q:∀M ea,(∀b,b≠i->b≠z->∀E,s.heap.get? b=some E->M.get? b=some E)->(∃E,M.get? ea=some E/\E.cls=.type "StopIteration")->au (.ref ea) {s with heap:=M}):bo (bK c w.w) Y (IJ z TO bu g9 (.ref i,k)) Q au s:=by
 refine aO (IG (aO (SI.ad0 hh S x e λE9 ea uV he=>?_)))
 refine ay he λoe EX EN=>?_
 have Mk:tY E9 z TI TO J:=uV _ _ ni hz
 refine IH Mk (CN 4) λsM agy uW=>q sM ea (λb b1 b2 E e=>(uW.2 b b2).trans (uV b E b1 e)) ⟨oe,(uW.2 _ λx=>?_).trans EX,EN⟩
 rw [x,Mk] at EX
 rw [<-aM EX] at EN
 exact bP (Value.type.inj EN) (by decide)
theorem P6:zE c w I:=by
 intro Y F C own s o a b v Q au hh S hF x e q
 obtain⟨z,TI,TO,i1,i2,xx,yy,rv,ro,nd,hz,uO,sH,s1,s2⟩:=x
 subst rv ro
 refine eN (J1 nd) λz1 z2 z3 z7=>eN z1 λd1 d2 d3 d4=>cf z2 λd5 d6 d7=>xA z3 λd8 d9=>?_
 have mz:z∈[z,TI,TO,i1,i2]:=.head _
 have sub:∀i∈[i1,i2],∀b∈[i,TO],b∈[z,TI,TO,i1,i2]:=λi hi b hb=>(bY.mp hb).elim (λq=>q▸.tail _ (.tail _ (.tail _ hi))) λhb=>cA.mp hb▸.tail _ (.tail _ (.head _))
 refine P5 hz uO λoF aV f bu g9 X' QQ EE qV kK hB hf _ hE=>?_
 refine xA (S.yM hF mz kK ⟨_,qV⟩) λt1 S1=>?_
 have out:∀b,b∉[z,TI,TO,i1,i2]->∀i∈[z,TI,TO,i1,i2],b≠i:=λb nb i hi q=>nb (q▸hi)
 have m1:i1∈[z,TI,TO,i1,i2]:=sub i1 (.head _) _ (.head _)
 have m2:i2∈[z,TI,TO,i1,i2]:=sub i2 (.tail _ (.head _)) _ (.head _)
 have s1:=s1.step hF t1 λE e=>(kK.2 _ (n7 d3)).trans e
 rw [CA,o_]
 refine aO (hB _ _ _ _ _ _ ?_)
 rcases af3 e with e1|⟨agN,a',e1,e2⟩
 .exact P7 (Y:=Y.in1) (s:={s with heap:=oF}) hh S1 s1 e1 qV d3 λM ea k he=>hE _ _ he (q M λb E nb e=>k b (out b nb _ m1) (out b nb _ mz) E ((kK.2 b (out b nb _ mz)).trans e))
 .refine IL (s:={s with heap:=oF}) S1 s1 (λb hb=>hF b (sub _ (.head _) b hb)) d8 e1 ((kK.2 _ (n7 d2)).trans sH) λv1 sM _ _ k3 t3 S3 _=>?_
  dsimp only
  rw [CA,o_]
  refine aO (hB _ _ _ _ _ _ (P7 (Y:=Y.in1) (s:={s with heap:=sM}) hh S3 (s2.step hF (t1.trans (t3.sub (sub _ (.head _)))) λE e=>(k3 _ (n7 z7) (n7 d9)).trans ((kK.2 _ (n7 d4)).trans e)) e2 ((k3 _ d3 d2).trans qV) d4 λM ea k he=>hE _ _ he (q M λb E nb e=>?_)))
  exact k b (out b nb _ m2) (out b nb _ mz) E ((k3 b (out b nb _ m1) (out b nb _ (.tail _ (.tail _ (.head _))))).trans ((kK.2 b (out b nb _ mz)).trans e))
end
noncomputable def wu(v:aw)(E:jy)(h:aP):Prop:=
 ∀(c:a_) (w:dF) (Y:bG) (s:aT) (Q au:aw->aT->Prop),(∀b x,h.get? b=some x->s.heap.get? b=some x)->Q (.ref s.heap.objs.size) {s with heap:=s.heap.push E}->bo (bK c w) Y (oQ v) Q au s
noncomputable abbrev zz(h:aP)(o1 o2:jy):aP:=((((h.push o1).push o2).push {cls:=.type "tuple",data:=.seq #[.ref h.objs.size,.ref (h.push o1).objs.size]}).push {cls:=.type "tuple",data:=.seq #[.none,.none]}).push
 {cls:=.type "zip",data:=.fields #[.none,.bool false,.bool false,.ref ((h.push o1).push o2).objs.size,.ref (((h.push o1).push o2).push {cls:=.type "tuple",data:=.seq #[.ref h.objs.size,.ref (h.push o1).objs.size]}).objs.size]}
theorem ZW(v1 v2:aw):Meets (nT.«zip.__new__» ⟨[.type "zip",v1,v2],[]⟩) (λ_ ag s=>∃o1 o2,wu v1 o1 s.heap/\wu v2 o2 s.heap/\
  ag (.ok (.ret (.ref ((((s.heap.push o1).push o2).push {cls:=.type "tuple",data:=.seq #[.ref s.heap.objs.size,.ref (s.heap.push o1).objs.size]}).push {cls:=.type "tuple",data:=.seq #[.none,.none]}).objs.size))) {s with heap:=zz s.heap o1 o2}):=
 .of_wp λc w Y ag s h=>by
  obtain⟨hp,g,d,tk,os⟩:=s
  refine eO h ?_;clear h;intro o1 o2 i1 i2 h
  have agv:=sub_zip
  have I1:∀{Y:bG} {Q au:aw->aT->Prop},Q (.ref hp.objs.size) ⟨hp.push o1,g,d,tk,os⟩->bo (bK c w) Y (oQ v1) Q au ⟨hp,g,d,tk,os⟩:=λ{Y Q au} q=>i1 c w Y ⟨hp,g,d,tk,os⟩ Q au (λ_ _ e=>e) q
  have I2:∀{Y:bG} {Q au:aw->aT->Prop},Q (.ref (hp.push o1).objs.size) ⟨(hp.push o1).push o2,g,d,tk,os⟩->bo (bK c w) Y (oQ v2) Q au ⟨hp.push o1,g,d,tk,os⟩:=λ{Y Q au} q=>i2 c w Y ⟨hp.push o1,g,d,tk,os⟩ Q au (λb x e=>fK _ _ b x e) q
  clear i1 i2
  wp_walk using I1,I2
  exact⟨_,rfl,h⟩
section
variable{ag:Type}{Z:cU ag}{ae:ag->Prop}{c:a_}{w:WB}{Y:bG}{own az C ao:G aA}{s:aT}{I h M:aP}{o br:MH}{K:b8}{W:bQ}{mg mb:ar->aa aw}{n:H}{cx:Cx}{fr:Fm}{X:cL}{O:Ops ag}
theorem OP(S:St c w I az C o h)(e:pV o m=some it)(x:VR c w az C h m v):
  ∃E:jy,wu v E h/\E.isFreed=false/\∀new M i,jx I h M C new->M.get? i=some E->SI c w (new++az) C M it i:=by
 cases m with
 |tup B=>
  cases e
  refine gq.el x.gi λt V n bU sf g y=>?_;subst bU
  refine⟨{cls:=.type "tuple_iterator",data:=.fields #[.ref t,.int 0 0]},λc w Y s Q au k q=>afB ⟨_,k _ _ g,rfl,n,rfl⟩ q,rfl,λnew M i f hi=>?_⟩
  refine xA (pH f _ _ g sf) λg' j8=>?_
  exact⟨t,V,n,0,j8,g',⟨_,hi,rfl,rfl⟩,by rw [Cq];exact y.enter f⟩
 |ref i=>
  have e':(match o.t.get i with|some E=>(match E with|.list _ _=>some (It.lst i 0)|_=>.none)|.none=>.none)=some it:=e
  refine ay x ?_;clear x;intro a p1 aE;subst aE
  generalize e1:o.t.get i=ax at e'
  cases ax with
  |none=>exact aB e'
  |some E=>
   have r:=S.ref p1 e1
   cases E with
   |list b r'=>
    cases e'
    refine eO r λV n g y z=>?_
    exact⟨{cls:=.type "list_iterator",data:=.fields #[.ref a,.int 0 0]},λc w Y s Q au k q=>B_ ⟨_,k _ _ g,rfl,n,rfl⟩ q,rfl,λnew M j f hj=>⟨a,p1,_,hj,rfl,rfl⟩⟩
   |_=>exact aB e'
 |aD J B=>
  cases J with
  |list b=>
   cases e
   refine dO x λt V n bU bB=>eN bB λsf g _ dA=>xA dA λ_ y=>?_;subst bU
   refine⟨{cls:=.type "list_iterator",data:=.fields #[.ref t,.int 0 0]},λc w Y s Q au k q=>B_ ⟨_,k _ _ g,rfl,n,rfl⟩ q,rfl,λnew M i f hi=>?_⟩
   refine xA (pH f _ _ g sf) λg' j8=>?_
   exact⟨t,V,n,0,j8,g',⟨_,hi,rfl,rfl⟩,by rw [Cq];exact y.enter f⟩
  |_=>exact aB e
 |_=>exact aB e
theorem IK:pw ae c w I:=by
 intro Y FF C s o m1 m2 v1 v2 a b k Q au E' hh S e1 e2 x1 x2 hk q
 refine fM (OP S e1 x1) λo1 p1 f1 r1=>?_
 refine fM (OP S e2 x2) λo2 p2 f2 r2=>?_
 have z1:(s.heap.push o1).objs.size=s.heap.objs.size+1:=wo ..
 have z2:((s.heap.push o1).push o2).objs.size=s.heap.objs.size+2:=by rw [wo,z1]
 refine callType_new (S:=λ_ ag s=>∃o1 o2,wu v1 o1 s.heap/\wu v2 o2 s.heap/\
  ag (.ok (.ret (.ref ((((s.heap.push o1).push o2).push {cls:=.type "tuple",data:=.seq #[.ref s.heap.objs.size,.ref (s.heap.push o1).objs.size]}).push {cls:=.type "tuple",data:=.seq #[.none,.none]}).objs.size))) {s with heap:=zz s.heap o1 o2})
  F.called_zip (by decide) (F.typeCall_zip_2 _ _) (F.newCall_zip_2 _ _) (λobj=>F.args_object_init_3 obj _ _) F.entry_zip_new (ZW v1 v2) ⟨o1,o2,p1,p2,?_⟩
 have g1:(zz s.heap o1 o2).get? s.heap.objs.size=some o1:=lh _ (lh _ (lh _ (lh _ (hZ _ f1))))
 have g2:(zz s.heap o1 o2).get? (s.heap.push o1).objs.size=some o2:=lh _ (lh _ (lh _ (hZ _ f2)))
 have g3:(zz s.heap o1 o2).get? ((s.heap.push o1).push o2).objs.size=some {cls:=.type "tuple",data:=.seq #[.ref s.heap.objs.size,.ref (s.heap.push o1).objs.size]}:=lh _ (lh _ (hZ _ rfl))
 have kp:∀b E,s.heap.get? b=some E->(zz s.heap o1 o2).get? b=some E:=λb E e=>fK _ _ _ _ (fK _ _ _ _ (fK _ _ _ _ (fK _ _ _ _ (fK _ _ _ _ e))))
 have z3:(((s.heap.push o1).push o2).push {cls:=.type "tuple",data:=.seq #[.ref s.heap.objs.size,.ref (s.heap.push o1).objs.size]}).objs.size=s.heap.objs.size+3:=by rw [wo,z2]
 have z4:((((s.heap.push o1).push o2).push {cls:=.type "tuple",data:=.seq #[.ref s.heap.objs.size,.ref (s.heap.push o1).objs.size]}).push {cls:=.type "tuple",data:=.seq #[.none,.none]}).objs.size=s.heap.objs.size+4:=by rw [wo,z3]
 have g4:(zz s.heap o1 o2).get? (((s.heap.push o1).push o2).push {cls:=.type "tuple",data:=.seq #[.ref s.heap.objs.size,.ref (s.heap.push o1).objs.size]}).objs.size=some {cls:=.type "tuple",data:=.seq #[.none,.none]}:=lh _ (hZ _ rfl)
 have g5:(zz s.heap o1 o2).get? ((((s.heap.push o1).push o2).push {cls:=.type "tuple",data:=.seq #[.ref s.heap.objs.size,.ref (s.heap.push o1).objs.size]}).push {cls:=.type "tuple",data:=.seq #[.none,.none]}).objs.size=some {cls:=.type "zip",data:=.fields #[.none,.bool false,.bool false,.ref ((s.heap.push o1).push o2).objs.size,.ref (((s.heap.push o1).push o2).push {cls:=.type "tuple",data:=.seq #[.ref s.heap.objs.size,.ref (s.heap.push o1).objs.size]}).objs.size]}:=hZ _ rfl
 have yE:∀k,s.heap.get? (s.heap.objs.size+k)=none:=λk=>Qq (ig _ _)
 refine(?_:_/\_)
 generalize zz s.heap o1 o2=lg at*
 rw [z1] at g2
 rw [z1,z2] at g3
 rw [z3] at g4
 rw [z2,z3,z4] at g5
 rw [z4]
 generalize s.heap.objs.size=aV at*
 refine⟨⟨_,g5,rfl⟩,?_⟩
 refine wpAny_pyIter_zip (s:={s with heap:=lg}) (z:=aV+4) (TI:=aV+2) (TO:=aV+3) (f0:=.none) g5 ?_
 have sz:s.heap.get? aV=none/\s.heap.get? (aV+1)=none/\s.heap.get? (aV+2)=none/\s.heap.get? (aV+3)=none/\s.heap.get? (aV+4)=none:=⟨yE 0,yE 1,yE 2,yE 3,yE 4⟩
 have fr:jx I s.heap lg C [aV+4,aV+2,aV+3,aV,aV+1]:=by
  refine⟨kp,λb hb=>?_⟩
  simp only [bY,eP,gF] at hb
  rcases hb with rfl|rfl|rfl|rfl|rfl
  .exact⟨sz.2.2.2.2,_,g5⟩
  .exact⟨sz.2.2.1,_,g3⟩
  .exact⟨sz.2.2.2.1,_,g4⟩
  .exact⟨sz.1,_,g1⟩
  .exact⟨sz.2.1,_,g2⟩
 have nd:[aV+4,aV+2,aV+3,aV,aV+1].Nodup:=by
  simp only [ic,bY,eP,gF,not_or,rO,and_true,aaG]
  refine⟨⟨?_,?_,?_,?_⟩,⟨?_,?_,?_⟩,⟨?_,?_⟩,?_⟩<;>(intro e;have e:(_:H)=_:=e;lia)
 exact q (.ref (aV+4)) lg s.toks ⟨.zip a b,[aV+4,aV+2,aV+3,aV,aV+1],o,s.heap,.refl ..,S,fr,nd,⟨aV+4,aV+2,aV+3,aV,aV+1,.none,.none,rfl,rfl,nd,g5,g3,g4,r1 _ _ _ fr g1,r2 _ _ _ fr g2⟩,hk⟩
end
section
variable{ag:Type}{Z:cU ag}{ae:ag->Prop}{c:a_}{w:WB}{Y:bG}{own F F' C ao:G aA}{s:aT}{I h M:aP}{o br:MH}{K:b8}{W:bQ}{mg mb:ar->aa aw}{n:H}{cx:Cx}{fr cy:Fm}{X:cL}{O:Ops ag}
structure Sound{ag:Type}(ae:ag->Prop)(c:a_)(w:WB)(I:aP)(n:H)(E:Ops ag):Prop where
 ev:fj ae c w I n E.ev
 fe:mW ae c w I n E.fe
 ex:lZ ae c w I n E.ex
 call:qu ae c w I n E.call
 iO:wN ae c w I n E.iO
 forL:wk ae c w I n E.forL
 cmp:qw ae c w I n E.cmp
 lvl:E.lvl<=n
theorem adJ(Zk:bZ Z ae)(T:Top c w K W I mg mb)(FT:y8 c w I W)(pj:iF c w I W)(P:qD c w I W.pull\/W.fn W.pull=none)(bk:Sound ae c w I n O):Sound ae c w I (n+1) (Ol Z W O (n+1)) where
 ev:=Vn Zk T IK bk.ev bk.fe bk.call bk.cmp
 fe:=λY F C s o cx e fr X k aq hh=>aeV Zk T bk.ev bk.fe aq.lower hh
 ex:=Vo Zk T IK bk.ev bk.fe bk.ex bk.iO bk.forL bk.cmp
 call:=TA Zk T FT pj P bk.ex bk.lvl
 iO:=afv Zk bk.ex bk.fe bk.iO
 forL:=VZ Zk T P4 P6 bk.ex bk.forL
 cmp:=TR Zk T P4 P6 IK bk.ev bk.fe bk.cmp
 lvl:=fG _
theorem adI(Zk:bZ Z ae):Sound ae c w I 0 (Lu Z) where
 ev:=λY F C s o cx e fr X k aq hh=>(Zk.fail hh).elim
 fe:=λY F C s o cx e fr X k aq hh=>(Zk.fail hh).elim
 ex:=λY F C s o cx e fr X k aq hh=>(Zk.fail hh).elim
 call:=λY F C s o f fv B V k r S vf y hh=>(Zk.fail hh).elim
 iO:=λY F C s o cx t b fr X k R' aq hh=>(Zk.fail hh).elim
 forL:=λY F k9 C own h0 s o cx t it eF b fr X k R' aq hd hF x oV qS hh=>(Zk.fail hh).elim
 cmp:=λY F k9 C own h0 s o cx cQ t i dj gN gs dH pos kq it eF bj b_ fr X k R' hg Au aq hd hF hD xB x dl oV qS hh=>(Zk.fail hh).elim
 lvl:=fG _
theorem sound(Zk:bZ Z ae)(T:Top c w K W I mg mb)(FT:y8 c w I W)(pj:iF c w I W)(P:qD c w I W.pull\/W.fn W.pull=none)(n:H):Sound ae c w I n (run Z W n):=by
 induction n with
 |zero=>exact adI Zk
 |succ n O=>exact adJ Zk T FT pj P O
end
noncomputable def hJ(R:G (D×D)):G ar:=@b9 (D×D) (λ_=>G ar) [] (λp _ O=>match p.1 with
 |.str x=>x::O
 |_=>O) R
noncomputable def mapA{α β:Type}(f:α->β)(B:G α):G β:=@b9 α (λ_=>G β) [] (λa _ O=>f a::O) B
noncomputable def kF(o:MH)(n:H):D->D:=@nZ (λ_=>D->D) (λ_=>.any) (λ_ f m=>match m with
 |.ref i=>match o.t.get i with
  |some E=>match E with
   |.list b r=>.aD (.list b) (mapA f (rv r))
   |.dict R=>.aD (.dict (hJ R)) (mapA (λp=>f p.2) R)
   |.inst aq d=>match o.t.get d with
    |some E=>match E with
     |.dict R=>.aD (.inst aq (hJ R)) (mapA (λp=>f p.2) R)
     |_=>.any
    |.none=>.any
   |.dh=>.any
  |.none=>.any
 |.tup B=>.tup (mapA f B)
 |m=>m) n
noncomputable def aga:cU D:=⟨.str ⟨⟨[1]⟩⟩,λn k=>k (n-1)⟩
noncomputable def fA(B:G cJ):MH:=⟨@b9 cJ (λ_=>H->MT->MT) (λ_ t=>t) (λE _ f n t=>f (cX n) (t.ins n E)) B 0 .nil,B.length⟩
section
noncomputable def j6(m:D):ah:=@D.rec (λ_=>ah) (λ_=>ah) true (λ_=>true) (λ_=>true) (λ_=>true) (λ_ x=>x) (λ_=>true) (λ_=>true) (λ_=>true) (λ_=>true) (λ_ _ x=>x) true (λ_=>false) true (λ_ _ x y=>x&&y) m
noncomputable def mD(B:G D):ah:=@b9 D (λ_=>ah) true (λa _ y=>j6 a&&y) B
theorem Gz(B:G D):j6 (.tup B)=mD B:=by
 refine(?_:@D.rec_1 (λ_=>ah) (λ_=>ah) true (λ_=>true) (λ_=>true) (λ_=>true) (λ_ x=>x) (λ_=>true) (λ_=>true) (λ_=>true) (λ_=>true) (λ_ _ x=>x) true (λ_=>false) true (λ_ _ x y=>x&&y) B=mD B)
 induction B with
 |nil=>rfl
 |cons a B O=>show(j6 a&&_)=(j6 a&&mD B);rw [<-O]
theorem NK(k:FK)(B:G D):j6 (.aD k B)=mD B:=Gz B
section
variable{c:a_}{w w':WB}{F C F2 bf:G aA}{h:aP}
theorem GA(h:m∈B)(r:mD B=true):j6 m=true:=by
 induction h with
 |head=>exact(aN.mp r).1
 |tail _ _ O=>exact O (aN.mp r).2
theorem VR.chg(hw:w.w=w'.w):∀{v:aw},j6 m=true->VR c w F C h m v->VR c w' F C h m v:=
 D.ind (P:=λm=>∀{v:aw},j6 m=true->VR c w F C h m v->VR c w' F C h m v)
  (λ_ x=>x) (λ_ _ _ x=>x) (λ_ _ _ x=>x) (λ_ _ _ x=>x)
  (λB O v r x=>by
   rw [Gz] at r
   refine gq.el x.gi λa V n e f g y=>?_
   exact⟨a,V,n,e,f,g,y.map λm hm v=>O m hm (GA hm r)⟩)
  (λ_ _ _ x=>x) (λ_ _ _ x=>x) (λ_ _ _ x=>x) (λ_ _ _ x=>x)
  (λJ B O v r x=>by
   rw [NK] at r
   have go:∀{V:G aw},aW c w F C h B V->aW c w' F C h B V:=λy=>y.map λm hm v=>O m hm (GA hm r)
   cases J with
   |list b=>
    refine dO x λa V n e bB=>eN bB λf g b1 dA=>xA dA λb2 y=>?_
    exact⟨a,V,n,e,f,g,b1,b2,go y⟩
   |dict ks=>
    refine eK x λa V e f ns bB=>cf bB λg b1 y=>?_
    exact⟨a,V,e,f,ns,hw▸g,b1,go y⟩
   |inst aq ks=>
    refine dO x λa d V e bB=>eN bB λf f' g dA=>cf dA λg' b1 y=>?_
    exact⟨a,d,V,e,f,f',g,hw▸g',b1,go y⟩)
  (λ_ _=>trivial) (λ_ _ r _=>bz r) m
theorem aW.chg(hw:w.w=w'.w)(r:mD B=true)(x:aW c w F C h B V):aW c w' F C h B V:=x.map λm hm v=>VR.chg hw (GA hm r)
end
noncomputable def w0(w:dF):WB:=⟨w,λ_ _ _ _ _=>dP,λ_ x=>x,λx=>x.elim⟩
noncomputable def bC(m:D):ah:=noRef m&&j6 m
noncomputable def wb(c:a_)(w:dF)(aL:H->aa D):WB where
 w:=w
 tok i F C h v:=∃m,aL i=some m/\bC m=true/\cK (handed m)=true/\VR c (w0 w) F C h m v
 mono:=λk ⟨m,e,p,q,x⟩=>⟨m,e,p,q,x.mono k (.inl (aN.mp p).1)⟩
 hand:=λ⟨m,e,p,q,x⟩=>by
  generalize z:handed m=ax at q
  cases ax with
  |none=>exact bz q
  |some m'=>exact(L7 z x).2
section
variable(aQ aJ:H->aa D)(o:MH)(β:H->aa H)(FZ:H->Prop)
mutual
inductive Cv:D->D->Prop
 |same {m:D}:bC m=true->Cv m m
 |ref {i j:H}:β i=some j->Cv (.ref i) (.ref j)
 |any {m:D}:Cv m .any
 |fuel {i:ba} {k:H}:(k:ba)<=i->Cv (.int i) (.fuel k)
 |less {k k':H}:k'<=k->Cv (.fuel k) (.fuel k')
 |eT {m:D} {j:H}:bC m=true->cK (handed m)=true->aJ j=some m->Cv m (.tok j)
 |fc {m:D} {i:H}:aQ i=some m->Cv (.tok i) m
 |gZ {m:D} {i j:H}:aQ i=some m->aJ j=some m->Cv (.tok i) (.tok j)
 |tup {B l':G D}:cG B l'->Cv (.tup B) (.tup l')
 |aD {k:FK} {B l':G D}:cG B l'->Cv (.aD k B) (.aD k l')
 |lst {i b b':H} {r B:G D}:o.t.get i=some (.list b r)->FZ i->cG r.reverse B->B.length<=b'->b'<=4096->Cv (.ref i) (.aD (.list b') B)
 |inst {i aq d:H} {p:D×D} {R:G (D×D)} {ks:G ar} {B:G D}:o.t.get i=some (.inst aq d)->o.t.get d=some (.dict (p::R))->FZ i->FZ d->(p::R).map (·.1)=ks.map D.str->cG ((p::R).map (·.2)) B->Cv (.ref i) (.aD (.inst aq ks) B)
inductive cG:G D->G D->Prop
 |nil:cG [] []
 |cons {m m':D} {B l':G D}:Cv m m'->cG B l'->cG (m::B) (m'::l')
end
inductive gR:cJ->cJ->Prop
 |list {b b':H} {r r':G D}:cG aQ aJ o β FZ r r'->r'.length<=b'->b'<=4096->gR (.list b r) (.list b' r')
 |dict {R dD:G (D×D)}:R.map (·.1)=dD.map (·.1)->cG aQ aJ o β FZ (R.map (·.2)) (dD.map (·.2))->gR (.dict R) (.dict dD)
 |inst {aq d d':H}:β d=some d'->gR (.inst aq d) (.inst aq d')
 |dh:gR .dh .dh
end
section
variable{c:a_}{w:dF}{F C F2 bf:G aA}{I h:aP}{o dz:MH}{aQ aJ:H->aa D}{β:H->aa H}{FZ:H->Prop}
theorem VR.plain(hs:∀a E,h.get? a=some E->cM F C a->cM F2 bf a){w w':WB}(hw:w.w=w'.w)(p:bC m=true)(x:VR c w F C h m v):VR c w' F2 bf h m v:=by
 refine xA (aN.mp p) λp1 p2=>?_
 exact(x.mono (λa E e f=>⟨e,hs a E e f⟩) (.inl p1)).chg hw p2
theorem Yt{ks:G ar}(u:Under (VR c (wb c w aQ) F C h) D.str R aR)(hk:R.map (·.1)=ks.map D.str):aR=ks.zip (aR.map (·.2))/\ks.length=(aR.map (·.2)).length/\aW c (wb c w aQ) F C h (R.map (·.2)) (aR.map (·.2)):=by
 induction u generalizing ks with
 |nil=>rw [Cw.mp hk.symm];exact⟨rfl,rfl,.nil⟩
 |cons hp r O=>
  cases ks with
  |nil=>exact xX hk
  |cons k ks=>
   refine xA (qz hk) λe1 e2=>?_
   rw [<-D.str_inj e1]
   refine cf (O e2) λi1 i2 i3=>?_
   exact⟨cq _ i1,cq (· +1) i2,.cons hp i3⟩
theorem OU{ks:G ar}(x:OR c (wb c w aQ) F C h a (.dict (p::R)))(hk:(p::R).map (·.1)=ks.map D.str):∃V,h.DictOf (strKind c w) a (ks.zip V)/\ks.length=V.length/\aW c (wb c w aQ) F C h ((p::R).map (·.2)) V:=by
 obtain⟨⟨aR,d,u,_⟩|⟨aR,d,u⟩,_⟩:=x
 .refine cf (Yt u hk) λk1 k2 k3=>?_
  exact⟨_,k1▸d,k2,k3⟩
 .cases u with
  |cons hp r=>
   cases ks with
   |nil=>exact xX hk
   |cons k ks=>nomatch (qz hk).1
theorem Cv.ok(S:St c (wb c w aQ) I F C o h)(ji:∀i j a,β i=some j->C[i]?=some a->bf[j]?=some a)(hs:∀a E,h.get? a=some E->cM F C a->cM F2 bf a)(kH:∀i a,FZ i->C[i]?=some a->cM F2 bf a){m m2:D}(J:Cv aQ aJ o β FZ m m2):VR c (wb c w aQ) F C h m v->VR c (wb c w aJ) F2 bf h m2 v:=by
 refine Cv.rec (motive_1:=λm m2 _=>∀v,VR c (wb c w aQ) F C h m v->VR c (wb c w aJ) F2 bf h m2 v) (motive_2:=λB l2 _=>∀V,aW c (wb c w aQ) F C h B V->aW c (wb c w aJ) F2 bf h l2 V)
  (λp _ x=>x.plain (w:=wb c w aQ) (w':=wb c w aJ) hs rfl p) (λe v x=>?_) (λv x=>?_) (λe v x=>?_) (λe v x=>?_) (λp q e v x=>?_) (λe v x=>?_) (λe e2 v x=>?_) (λJ O v x=>?_) (λ{k} _ _ J O v x=>?_) (λe1 f1 J l1 l2 O v x=>?_) (λe1 e2 f1 f2 hk J O v x=>?_) (λV x=>?_) (λJ d Fd Fe V x=>?_) J v
 .refine ay x λa q r=>?_
  exact⟨a,ji _ _ _ e q,r⟩
 .trivial
 .refine bw x λt r=>?_
  exact⟨_,t,r,e⟩
 .refine jv x λi t r B=>?_
  exact⟨i,t,r,wq (Qu.mpr e) B⟩
 .exact⟨_,e,p,q,x.plain (w:=wb c w aQ) (w':=w0 w) hs rfl p⟩
 .refine iZ x λm' e' p q y=>?_
  rw [aM (e.symm.trans e')]
  exact y.plain (w:=w0 w) (w':=wb c w aJ) hs rfl p
 .refine iZ x λm' e' p q y=>?_
  rw [<-aM (e.symm.trans e')] at p q y
  exact⟨_,e2,p,q,y.plain (w:=w0 w) (w':=w0 w) hs rfl p⟩
 .refine dO x λa V n e bB=>cf bB λf g y=>?_
  exact⟨a,V,n,e,hs _ _ g f,g,O _ y⟩
 .cases k with
  |list b=>
   refine dO x λa V n e bB=>eN bB λf g b1 dA=>xA dA λb2 y=>?_
   have y':=O _ y
   exact⟨a,V,n,e,hs _ _ g f,g,by rw [<-y'.length,y.length];exact b1,b2,y'⟩
  |dict ks=>
   refine eK x λa V e f ns bB=>cf bB λg b1 y=>?_
   refine bw (qJ g) λE ho=>?_
   have y':=O _ y
   exact⟨a,V,e,hs _ _ ho f,ns,g,by rw [b1,<-y'.length,y.length],y'⟩
  |inst aq ks=>
   refine dO x λa d V e bB=>eN bB λf f' g dA=>cf dA λg' b1 y=>?_
   refine bw (qJ g') λE ho=>?_
   have y':=O _ y
   exact⟨a,d,V,e,hs _ _ g f,hs _ _ ho f',g,g',by rw [b1,<-y'.length,y.length],y'⟩
 .refine ay x λa q r=>?_
  refine eK (S.ref q e1) λV n g y _ _=>?_
  have z:=y.reverse
  rw [mU] at z
  exact⟨a,V,n,r,kH _ _ f1 q,g,l1,l2,O _ z⟩
 .refine ay x λa q r=>?_
  obtain⟨dx,qd,g⟩:∃dx,C[_]?=some dx/\h.get? a=some (uZ _ dx):=S.ref q e1
  refine fM (OU (S.ref qd e2) hk) λV k1 k2 k3=>?_
  have y:=O _ k3
  exact⟨a,dx,V,r,kH _ _ f1 q,kH _ _ f2 qd,g,k1,by rw [k2,y.length],y⟩
 .rw [x.dW];exact .nil
 .refine dR.el x.cj λv r aE a b=>?_;rw [aE]
  exact .cons (Fd _ a) (Fe _ b)
theorem cG.ind{P:G D->G D->Prop}(h0:P [] [])(h1:∀{m m' B l'},Cv aQ aJ o β FZ m m'->cG aQ aJ o β FZ B l'->P B l'->P (m::B) (m'::l'))(J:cG aQ aJ o β FZ B l2):P B l2:=
 cG.rec (motive_1:=λ_ _ _=>jz) (motive_2:=λB l2 _=>P B l2) (λ_=>trivial) (λ_=>trivial) trivial (λ_=>trivial) (λ_=>trivial) (λ_ _ _=>trivial) (λ_=>trivial) (λ_ _=>trivial) (λ_ _=>trivial) (λ_ _=>trivial) (λ_ _ _ _ _ _=>trivial) (λ_ _ _ _ _ _ _=>trivial) h0 (λJ d _ O=>h1 J d O) J
theorem cG.ok(S:St c (wb c w aQ) I F C o h)(ji:∀i j a,β i=some j->C[i]?=some a->bf[j]?=some a)(hs:∀a E,h.get? a=some E->cM F C a->cM F2 bf a)(kH:∀i a,FZ i->C[i]?=some a->cM F2 bf a){B l2:G D}(J:cG aQ aJ o β FZ B l2):∀{V:G aw},aW c (wb c w aQ) F C h B V->aW c (wb c w aJ) F2 bf h l2 V:=by
 refine J.ind (P:=λB l2=>∀{V:G aw},aW c (wb c w aQ) F C h B V->aW c (wb c w aJ) F2 bf h l2 V) (λx=>?_) λJ d O V x=>?_
 .rw [x.dW];exact .nil
 .refine dR.el x.cj λv r aE a b=>?_;rw [aE]
  exact .cons (J.ok S ji hs kH a) (O b)
theorem cG.inv(J:cG aQ aJ o β FZ (m::B) (m'::l')):Cv aQ aJ o β FZ m m'/\cG aQ aJ o β FZ B l':=by
 cases J with
 |cons J d=>exact⟨J,d⟩
theorem cG.length{B l2:G D}(J:cG aQ aJ o β FZ B l2):l2.length=B.length:=J.ind (P:=λB l2=>l2.length=B.length) rfl λ_ _ O=>cq cX O
theorem cG.reverse{B l2:G D}(x:cG aQ aJ o β FZ B l2):∀{m m2:G D},cG aQ aJ o β FZ m m2->cG aQ aJ o β FZ (B.reverse++m) (l2.reverse++m2):=by
 refine x.ind (P:=λB l2=>∀{m m2:G D},cG aQ aJ o β FZ m m2->cG aQ aJ o β FZ (B.reverse++m) (l2.reverse++m2)) (λy=>y) λJ d O m m2 y=>?_
 rw [rP,rP,l_,l_]
 exact O (.cons J y)
theorem Py{L:Type}{key:L->D}(hP:∀m m2 v,Cv aQ aJ o β FZ m m2->P m v->Q m2 v){aR:G (L×aw)}(e:R.map (·.1)=dD.map (·.1))(J:cG aQ aJ o β FZ (R.map (·.2)) (dD.map (·.2)))(u:Under P key R aR):Under Q key dD aR:=by
 induction u generalizing dD with
 |nil=>rw [Cw.mp e.symm];exact .nil
 |cons a _ O=>
  cases dD with
  |nil=>exact xX e
  |cons p dD=>
   obtain⟨k',m'⟩:=p
   refine xA (qz e) λe1 e2=>?_
   obtain rfl:_=k':=e1
   refine xA J.inv λJ d=>?_
   exact .cons (hP _ _ _ J a) (O e2 d)
theorem gR.ok(S:St c (wb c w aQ) I F C o h)(ji:∀i j a,β i=some j->C[i]?=some a->bf[j]?=some a)(hs:∀a E,h.get? a=some E->cM F C a->cM F2 bf a)(kH:∀i a,FZ i->C[i]?=some a->cM F2 bf a)
  {a:aA} (J:gR aQ aJ o β FZ E o2) (x:OR c (wb c w aQ) F C h a E):OR c (wb c w aJ) F2 bf h a o2:=by
 cases J with
 |list J l1 l2=>
  refine eK x λV n g y _ _=>?_
  exact⟨V,n,g,cG.ok S ji hs kH J y,l1,l2⟩
 |dict e J=>
  refine xA x ?_;clear x;intro x y
  have hl:=cq zg e
  rw [cZ,cZ] at hl
  refine⟨?_,hl▸y⟩
  rcases x with⟨aR,d,u,z⟩|⟨aR,d,u⟩
  .exact .inl ⟨aR,d,Py (P:=VR c (wb c w aQ) F C h) (Q:=VR c (wb c w aJ) F2 bf h) (λm m2 v J q=>Cv.ok S ji hs kH J q) e J u,z⟩
  .exact .inr ⟨aR,d,Py (P:=VR c (wb c w aQ) F C h) (Q:=VR c (wb c w aJ) F2 bf h) (λm m2 v J q=>Cv.ok S ji hs kH J q) e J u⟩
 |inst e=>
  refine ay x λdx q g=>?_
  exact⟨dx,ji _ _ _ e q,g⟩
 |dh=>exact x
theorem St.mJ(S:St c (wb c w aQ) I F C o h)(len:dz.n=bf.length)(nd:bf.Nodup)(cI:∀a∈F2,(∃E,h.get? a=some E)/\a∉bf/\I.get? a=none)(hs:∀a E,h.get? a=some E->cM F C a->cM F2 bf a)(kH:∀i a,FZ i->C[i]?=some a->cM F2 bf a)
  (ji:∀i j a,β i=some j->C[i]?=some a->bf[j]?=some a) (pl:∀j a,bf[j]?=some a->∃i E o2,C[i]?=some a/\o.t.get i=some E/\dz.t.get j=some o2/\gR aQ aJ o β FZ E o2):St c (wb c w aJ) I F2 bf dz h:=by
 refine⟨λb E e=>⟨(S.keep b E e).1,λq=>?_⟩,len,nd,cI,λj a e=>?_⟩
 .obtain⟨j,hj,e2⟩:=iE q
  refine dO (pl j b (by rw [cV hj,e2])) λi _ _ e3 _=>?_
  exact(S.keep b E e).2 (dy e3)
 .refine dO (pl j a e) λi E o2 e3 bB=>cf bB λe4 e5 J=>?_
  exact⟨o2,e5,J.ok S ji hs kH (S.ref e3 e4)⟩
end
end
section
variable{ag:Type}{Z:cU ag}{ae:ag->Prop}{c:a_}{w:WB}{Y:bG}{own F F' C ao:G aA}{s:aT}{I h M:aP}{o br:MH}{K:b8}{W:bQ}{mg mb:ar->aa aw}{n:H}{cx:Cx}{fr cy:Fm}{X:cL}{O:Ops ag}
theorem whl_turn(bk:lZ ae c w I n O.ex)(fF:mW ae c w I n O.fe)(aq:Ctx c w I n Y F C s o cx fr X){AY:MH->ag}
  (hh:ae (O.fe cx t fr o λJ o=>@bN (λ_=>ag) (AY o) (iy O cx b fr o sW) J))
  (WQ:∀ao M tk br,bh (eI cx X) C s.heap ao M->ae (AY br)->St c w I F ao br M->cH c w F ao M cx fr X->R' (.ok .next) {s with heap:=M,toks:=tk})
  (EW:∀ao M tk br cy,bh (eI cx X) C s.heap ao M->ae (sW .next cy br)->St c w I F ao br M->cH c w F ao M cx cy X->lB (bK c w.w) Y (.whileLoop t b [] X) R' {s with heap:=M,toks:=tk})
  (EZ:∀ao M tk br cy m v,bh (eI cx X) C s.heap ao M->ae (sW (.ret m) cy br)->St c w I F ao br M->cH c w F ao M cx cy X->VR c w F ao M m v->R' (.ok (.ret v)) {s with heap:=M,toks:=tk}):
  lB (bK c w.w) Y (.whileLoop t b [] X) R' s:=by
 refine zW ?_
 show bo _ _ ((do
  if <-isTrue t X (eval t X) then
   match <-iH b X with
   |.next|.cont=>again (.whileLoop t b [] X)
   |.brk=>pure (.done .next)
   |.ret v=>pure (.done (.ret v))
  else return .done (<-iH [] X):iT PySem.Fin).onRaise (λx=>do Bc x X;Ic x)) _ _ s
 refine IF ?_
 refine aO (fF Y F C s o cx t fr X _ aq hh _ _ λJ bq h1 aZ aS p1=>?_)
 obtain⟨bM,bR,S1⟩:=p1
 have C1:=aq.next aS S1 aZ
 cases J with
 |false=>
  rw [bl gK]
  refine aO (ID (bX ?_))
  exact WQ bq h1 aZ bM aS.any bR S1 C1.fr
 |true=>
  rw [bT rfl]
  refine aO (ku bk b bq {s with heap:=h1,toks:=aZ} bM fr _ C1 bR _ _ λf bf h2 bS bp p2=>?_)
  obtain⟨g,kE,dz,de,S2,G2,fl⟩:=p2
  cases g with
  |next=>
   cases fl
   exact bX ⟨rfl,EW bf h2 bS dz kE (aS.any.trans bp) de S2 G2⟩
  |ret mv=>
   refine ay fl ?_;clear fl;intro v aI xv;subst aI
   exact bX (EZ bf h2 bS dz kE mv v (aS.any.trans bp) de S2 G2 xv)
theorem dm.weak(hF:∀b∈ownOf X,b∈F2)(hv:∀(i:H) (m':D),qm[i]?=some (some m')->∃m,vars[i]?=some (some m)/\∀v,VR c w F C h m v->VR c w' F2 bf h m' v)
  (x:dm c w F C h sc vars X):dm c w' F2 bf h sc qm X:=x.gen (λ_ _ _ e=>e) hF hv
theorem dm.bare(hF:∀b∈ownOf X,b∈F2)(x:dm c w F C h sc vars X):dm c w' F2 bf h sc [] X:=x.weak hF λi m' e=>by cases i<;>exact aB e
theorem uI(X:cL)(B l':G en):iH (B++l') X=(iH B X>>=λf=>match f with|Flow.next=>iH l' X|f=>pure f):=by
 induction B with
 |nil=>
  refine(?_:iH l' X=(pure Flow.next>>=_))
  rw [vK]
 |cons a B O=>
  rw [Je,execs_cons,execs_cons,bind_assoc]
  refine cq _ (funext λf=>?_)
  cases f with
  |next=>exact O
  |_=>rw [vK]
theorem agj(x:bc c w Y own C s (iH B X) P)(hr:∀f ao M,f≠.next->P f ao M->P' f ao M)
  (y:∀ao M tk,bh own C s.heap ao M->P .next ao M->bc c w Y own ao {s with heap:=M,toks:=tk} (iH l' X) P'):bc c w Y own C s (iH (B++l') X) P':=by
 intro Q au q
 rw [uI]
 refine aO (x _ _ λf bq h1 aZ aS p1=>?_)
 cases f with
 |next=>exact y bq h1 aZ aS p1 _ _ λf bf h2 bS bp p2=>q f bf h2 bS (aS.trans bp) p2
 |_=>exact bX (q _ bq h1 aZ aS (hr _ _ _ (λe=>nomatch e) p1))
end
noncomputable def bE(m:D):ah:=@D.rec (λ_=>ah) (λ_=>ah) true (λ_=>true) (λ_=>true) (λ_=>true) (λ_ x=>x) (λ_=>false) (λ_=>true) (λ_=>true) (λ_=>true) (λ_ _ x=>x) true (λ_=>false) true (λ_ _ x y=>x&&y) m
noncomputable def allB{α:Type}(f:α->ah)(B:G α):ah:=@b9 α (λ_=>ah) true (λa _ O=>f a&&O) B
noncomputable def qX(p:D×D):ah:=match p.1 with
 |.str _=>true
 |_=>false
noncomputable def iA{α:Type}(B:G α):H:=@b9 α (λ_=>H) 0 (λ_ _ O=>cX O) B
noncomputable def eQ{α β:Type}(E:aa α)(f:α->aa β):aa β:=@CQ α (λ_=>aa β) .none f E
noncomputable def bO{α:Type}(J:ah)(x:α):aa α:=@bN (λ_=>aa α) .none (some x) J
noncomputable def oG{α:Type}(d:α)(E:aa α):α:=@CQ α (λ_=>α) d (λa=>a) E
noncomputable def mG{α:Type}(f:α->ah)(E:aa α):ah:=@CQ α (λ_=>ah) false f E
noncomputable def oI(E:cJ):aa (H×H):=match E with
 |.inst aq d=>some (aq,d)
 |_=>.none
noncomputable def oD(E:cJ):aa (G (D×D)):=match E with
 |.dict R=>some R
 |_=>.none
noncomputable def oL(E:cJ):aa (H×G D):=match E with
 |.list b r=>some (b,r)
 |_=>.none
noncomputable def te(o:MH)(i:H):aa (H×H):=eQ (o.t.get i) oI
noncomputable def vF(o:MH)(i:H):aa (G (D×D)):=eQ (o.t.get i) oD
noncomputable def jj(o:MH)(i:H):aa (H×G D):=eQ (o.t.get i) oL
noncomputable def X6{α:Type}(B:G α):ah:=match B with
 |[]=>false
 |_::_=>true
noncomputable def BK(ok:H->ah)(o:MH)(i:H):aa D:=eQ (te o i) λp=>eQ (vF o p.2) λR=>bO (ok i&&ok p.2&&X6 R&&allB qX R&&allB (λq=>bE q.2) R) (.aD (.inst p.1 (hJ R)) (mapA (λq=>q.2) R))
noncomputable def r_(o:MH)(v:D):aa D:=match v with
 |.tok i=>some (.tok i)
 |.aD k B=>bO (bE (.aD k B)) (.aD k B)
 |.ref i=>BK (eB 7) o i
 |_=>.none
noncomputable def sQ(o:MH)(i aq d:H):ah:=mG (λp=>bA p.1 aq&&bA p.2 d) (te o i)
noncomputable def xU(k:ar)(m:D):ah:=match m with
 |.str x=>seq x k
 |_=>false
noncomputable def N7(k1 k2:ar)(R:G (D×D)):aa (D×D):=match R with
 |[p,q]=>bO (xU k1 p.1&&xU k2 q.1) (p.2,q.2)
 |_=>.none
noncomputable def d2(o:MH)(i:H)(k1 k2:ar):aa (D×D):=eQ (vF o i) (N7 k1 k2)
noncomputable def gc(o:MH)(i:H)(k1 k2:ar):D×D:=oG (.none,.none) (d2 o i k1 k2)
noncomputable def lG(o:MH)(i:H):H×G D:=oG (0,[]) (jj o i)
noncomputable def nD:ar:=⟨⟨[107,105,110,100,115]⟩⟩
noncomputable def nB:ar:=⟨⟨[102,117,101,108]⟩⟩
noncomputable def eH:ar:=⟨⟨[114,111,119,115]⟩⟩
noncomputable def eG:ar:=⟨⟨[109,97,110,121]⟩⟩
noncomputable def eE:ar:=⟨⟨[84,46,49,33,49]⟩⟩
noncomputable def eD:ar:=⟨⟨[78,46,50,33,50]⟩⟩
structure Lk where
 fl:ah
 fuel:D
 left:G D
 a:D
 b:D
 wl:H
noncomputable def pU(v:D):ah:=match v with
 |.tok i=>bA i 0
 |_=>false
noncomputable def kM(j:H)(v:D):ah:=match v with
 |.ref i=>bA i j
 |_=>false
noncomputable def oH(j:ba)(v:D):ah:=match v with
 |.int i=>eqZ i j
 |_=>false
noncomputable def lH(fl:ah)(o:MH):aa Lk:=bO (sQ o 0 338 1&&sQ o 3 200 4&&cK (d2 o 1 nD nB)&&pU (gc o 1 nD nB).1&&cK (d2 o 4 eH eG)&&kM 5 (gc o 4 eH eG).1&&oH 2 (gc o 4 eH eG).2&&
  cK (d2 o 5 eE eD)&&cK (r_ o (gc o 5 eE eD).1)&&cK (r_ o (gc o 5 eE eD).2)&&cK (jj o 2)&&cK (jj o 6))
 ⟨fl,(gc o 1 nD nB).2,(lG o 2).2,oG .none (r_ o (gc o 5 eE eD).1),oG .none (r_ o (gc o 5 eE eD).2),iA (lG o 6).2⟩
noncomputable def nR(f:H)(left wr:G D)(a b:D):G cJ:=[.inst 338 1,.dict [(.str nD,.tok 0),(.str nB,.fuel f)],.list 400 left,.inst 200 4,.dict [(.str eH,.ref 5),(.str eG,.int 2)],.dict [(.str eE,a),(.str eD,b)],.list 400 wr]
noncomputable def stH(f:H)(left wr:G D)(a b:D):MH:=fA (nR f left wr a b)
noncomputable def gY:Fm:=⟨[some (.ref 0),some (.ref 2),some (.ref 3),some (.ref 6),.none,.none],[]⟩
noncomputable def jR:cU (aa Lk):=⟨.none,λ_ _=>.none⟩
noncomputable def pS(j:H)(v:aa D):ah:=match v with
 |some v=>kM j v
 |.none=>false
noncomputable def GI(B:G (aa D)):ah:=match B with
 |a::b::J::d::_=>pS 0 a&&pS 2 b&&pS 3 J&&pS 6 d
 |_=>false
noncomputable def sW(f:eh)(fr:Fm)(o:MH):aa Lk:=match f with
 |.next=>match GI fr.vars with
  |true=>lH true o
  |false=>.none
 |.ret v=>match v with
  |.none=>lH false o
  |_=>.none
noncomputable def turn(W:bQ)(n:H)(sc:G (ar×dc))(t:aX)(bd:G en)(o:MH):aa Lk:=(run jR W n).fe ⟨sc,.none⟩ t gY o λJ o=>@bN (λ_=>aa Lk) .none (iy (run jR W n) ⟨sc,.none⟩ bd gY o sW) J
noncomputable def Il(W:bQ)(n:H)(sc:G (ar×dc))(t:aX)(bd:G en)(o:MH):aa Lk:=(run jR W n).fe ⟨sc,.none⟩ t gY o λJ o=>@bN (λ_=>aa Lk) (lH true o) (iy (run jR W n) ⟨sc,.none⟩ bd gY o λ_ _ _=>.none) J
noncomputable def MV(f:eh)(fr:Fm)(o:MH):aa Lk:=match f with
 |.next=>.none
 |.ret v=>match v with
  |.none=>lH false o
  |.ref i=>match bA i 3 with
   |true=>lH true o
   |false=>.none
  |_=>.none
noncomputable def v8(W:bQ)(n:H)(sc:G (ar×dc))(rs:G en)(o:MH):aa Lk:=iy (run jR W n) ⟨sc,.none⟩ rs gY o MV
section
variable{o:MH}{aL:H->aa D}
theorem bx(h:(a&&b)=true):a=true:=(aN.mp h).1
theorem bL(h:(a&&b)=true):b=true:=(aN.mp h).2
theorem fm{α β:Type}{E:aa α}{f:α->aa β}{b:β}(e:eQ E f=some b):∃a,E=some a/\f a=some b:=by
 cases E with
 |none=>exact aB e
 |some a=>exact⟨a,rfl,e⟩
theorem jA{α:Type}{x y:α}(e:bO J x=some y):J=true/\x=y:=by
 cases J with
 |false=>exact aB e
 |true=>exact⟨rfl,aM e⟩
theorem pT{α:Type}{d:α}{E:aa α}(e:cK E=true):E=some (oG d E):=by
 cases E with
 |none=>exact bz e
 |some a=>rfl
theorem nH{α:Type}{f:α->ah}{E:aa α}(e:mG f E=true):∃a,E=some a/\f a=true:=by
 cases E with
 |none=>exact bz e
 |some a=>exact⟨a,rfl,e⟩
theorem GF{i:H}{p:H×H}(e:te o i=some p):o.t.get i=some (.inst p.1 p.2):=by
 refine ay (fm e) λE h e=>?_
 cases E with
 |inst aq d=>rw [h,<-aM e]
 |_=>exact aB e
theorem yi{i:H}{p:G (D×D)}(e:vF o i=some p):o.t.get i=some (.dict p):=by
 refine ay (fm e) λE h e=>?_
 cases E with
 |dict R=>rw [h,<-aM e]
 |_=>exact aB e
theorem sY{i:H}{x:H×G D}(e:jj o i=some x):o.t.get i=some (.list x.1 x.2):=by
 refine ay (fm e) λE h e=>?_
 cases E with
 |list b r=>rw [h,<-aM e]
 |_=>exact aB e
theorem u4{i aq d:H}(e:sQ o i aq d=true):o.t.get i=some (.inst aq d):=by
 refine ay (nH e) λp h e=>?_
 rw [GF h,dU (bx e),dU (bL e)]
theorem FG{m:D}(e:xU k m=true):m=.str k:=by
 cases m with
 |str x=>rw [lV.mp e]
 |_=>exact bz e
theorem abp{R:G (D×D)}{x:D×D}(e:N7 k1 k2 R=some x):R=[(.str k1,x.1),(.str k2,x.2)]:=by
 cases R with
 |nil=>exact aB e
 |cons p R=>cases R with
  |nil=>exact aB e
  |cons q R=>cases R with
   |cons=>exact aB e
   |nil=>
    refine xA (jA e) λJ aI=>?_;rw [<-aI]
    rw [<-FG (bx J),<-FG (bL J)]
theorem DT{i:H}{k1 k2:ar}{x:D×D}(e:d2 o i k1 k2=some x):o.t.get i=some (.dict [(.str k1,x.1),(.str k2,x.2)]):=by
 refine ay (fm e) λR h e=>?_
 rw [yi h,abp e]
theorem ou{i:H}{k1 k2:ar}(e:cK (d2 o i k1 k2)=true)(e1:(gc o i k1 k2).1=v1)(e2:(gc o i k1 k2).2=v2):o.t.get i=some (.dict [(.str k1,v1),(.str k2,v2)]):=by
 rw [<-e1,<-e2];exact DT (pT e)
theorem sX{i:H}(e:cK (jj o i)=true):∃b,o.t.get i=some (.list b (lG o i).2):=⟨_,sY (pT e)⟩
theorem xS(e:pU v=true):v=.tok 0:=by
 cases v with
 |tok i=>rw [dU (e:bA i 0=true)]
 |_=>exact bz e
theorem sR(e:kM j v=true):v=.ref j:=by
 cases v with
 |ref i=>rw [dU (e:bA i j=true)]
 |_=>exact bz e
theorem sS(e:oH j v=true):v=.int j:=by
 cases v with
 |int i=>rw [(jC _ _).mp (e:eqZ i j=true)]
 |_=>exact bz e
theorem NI(B:G D):@D.rec_1 (λ_=>ah) (λ_=>ah) true (λ_=>true) (λ_=>true) (λ_=>true) (λ_ x=>x) (λ_=>false) (λ_=>true) (λ_=>true) (λ_=>true) (λ_ _ x=>x) true (λ_=>false) true (λ_ _ x y=>x&&y) B=allB bE B:=by
 induction B with
 |nil=>rfl
 |cons a B O=>show(bE a&&_)=(bE a&&allB bE B);rw [<-O]
theorem nG(B:G D):bE (.tup B)=allB bE B:=NI B
theorem s9(k:FK)(B:G D):bE (.aD k B)=allB bE B:=NI B
theorem NH(h:∀m∈B,bE m=bC m):allB bE B=(q9 B&&mD B):=by
 induction B with
 |nil=>rfl
 |cons a B O=>
  refine(?_:(bE a&&allB bE B)=((noRef a&&q9 B)&&(j6 a&&mD B)))
  rw [h a (.head _),O λm hm=>h m (.tail _ hm)]
  unfold bC
  rw [IY,IY,Bool.and_left_comm (j6 a)]
theorem fB(m:D):bE m=bC m:=
 D.ind (P:=λm=>bE m=bC m) rfl (λ_=>rfl) (λ_=>rfl) (λ_=>rfl)
  (λB O=>by
   unfold bC
   rw [Gx,Gz,nG]
   exact NH O)
  (λ_=>rfl) (λ_=>rfl) (λ_=>rfl) (λ_=>rfl)
  (λk B O=>by
   unfold bC
   rw [NJ,NK,s9]
   exact NH O) rfl (λ_=>rfl) m
theorem FH(e:allB qX R=true):R.map (·.1)=(hJ R).map D.str:=by
 induction R with
 |nil=>rfl
 |cons p R O=>
  obtain⟨k,v⟩:=p
  refine xA (aN.mp (e:(qX (k,v)&&allB qX R)=true)) λe1 e2=>?_
  have O:=O e2
  clear e e2
  cases k with
  |str x=>exact cq (List.cons (D.str x)) O
  |_=>exact bz e1
theorem pY{α β:Type}(f:α->β)(B:G α):mapA f B=B.map f:=by
 induction B with
 |nil=>rfl
 |cons a B O=>show f a::mapA f B=_;rw [O];rfl
theorem nE{α:Type}(B:G α):iA B=B.length:=by
 induction B with
 |nil=>rfl
 |cons a B O=>show cX (iA B)=_;rw [O];rfl
theorem iw:∀{B:G D},(∀m∈B,bC m=true)->cG aQ aJ o β FZ B B
 |[],_=>.nil
 |a::B,h=>.cons (.same (h a (.head _))) (iw λm hm=>h m (.tail _ hm))
theorem xc:∀{B:G D},cG aQ aJ o β FZ B (di B.length .any)
 |[]=>.nil
 |a::B=>.cons .any xc
theorem Sm{B:G (D×D)}(J:allB (λq=>bE q.2) B=true):∀m∈B.map (·.2),bC m=true:=by
 induction B with
 |nil=>exact λ_ h=>nomatch h
 |cons a B O=>exact λm h=>(bY.mp h).elim (λz=>z▸fB _▸bx J) (O (bL J) m)
theorem OC{ok:H->ah}{i:H}{x:D}(e:BK ok o i=some x):∃aq d q R,o.t.get i=some (.inst aq d)/\o.t.get d=some (.dict (q::R))/\ok i=true/\ok d=true/\(q::R).map (·.1)=(hJ (q::R)).map D.str/\(∀m∈(q::R).map (·.2),bC m=true)/\x=.aD (.inst aq (hJ (q::R))) ((q::R).map (·.2)):=by
 refine ay (fm e) λp h1 e=>?_
 refine ay (fm e) λR h2 e=>?_
 refine xA (jA e) λJ aI=>?_;rw [<-aI]
 cases R with
 |nil=>exact bz (bL (bx (bx J)))
 |cons q R=>exact⟨_,_,q,R,GF h1,yi h2,bx (bx (bx (bx J))),bL (bx (bx (bx J))),FH (bL (bx J)),Sm (bL J),by rw [pY]⟩
theorem zY{v v' v2:D}{FZ:H->Prop}{β:H->aa H}(hF:∀i aq d,v=.ref i->o.t.get i=some (.inst aq d)->7<=i->7<=d->FZ i/\FZ d)(ht:∀i,v'=.tok i->Cv aL aJ o β FZ (.tok i) v2)(hn:(∀i,v'≠.tok i)->v2=v')(e:r_ o v=some v'):Cv aL aJ o β FZ v v2:=by
 cases v with
 |tok i=>have e:=aM e;subst e;exact ht i rfl
 |aD k B=>
  refine xA (jA e) λJ aI=>?_;subst aI
  rw [hn λi q=>nomatch q];exact .same (fB _▸J)
 |ref i=>
  refine gJ (OC e) λaq d bB=>eK bB λq R h1 h2 c1 dA=>eN dA λc2 c3 c4 Hp=>?_;subst Hp
  have z:=hF _ _ _ rfl h1 (dw c1) (dw c2)
  rw [hn λi q=>nomatch q]
  exact .inst h1 h2 z.1 z.2 c3 (iw c4)
 |_=>exact aB e
structure CX(o:MH)(L:Lk):Prop where
 p0:o.t.get 0=some (.inst 338 1)
 p1:o.t.get 1=some (.dict [(.str nD,.tok 0),(.str nB,L.fuel)])
 p2:∃b,o.t.get 2=some (.list b L.left)
 p3:o.t.get 3=some (.inst 200 4)
 p4:o.t.get 4=some (.dict [(.str eH,.ref 5),(.str eG,.int 2)])
 p5:∃x y,o.t.get 5=some (.dict [(.str eE,x),(.str eD,y)])/\r_ o x=some L.a/\r_ o y=some L.b
 p6:∃b r,o.t.get 6=some (.list b r)/\r.length=L.wl
theorem s6{fl:ah}{L:Lk}(e:lH fl o=some L):L.fl=fl/\CX o L:=by
 refine xA (jA e) λnk aI=>?_;subst aI
 have nj:=bx nk
 have nh:=bx nj
 have c9:=bx nh
 have c8:=bx c9
 have c7:=bx c8
 have c6:=bx c7
 have c5:=bx c6
 have c4:=bx c5
 have c3:=bx c4
 have c2:=bx c3
 exact⟨rfl,u4 (bx c2),ou (bL c3) (xS (bL c4)) rfl,sX (bL nj),u4 (bL c2),ou (bL c5) (sR (bL c6)) (sS (bL c7)),⟨_,_,ou (bL c8) rfl rfl,pT (bL c9),pT (bL nh)⟩,let⟨b,h⟩:=sX (bL nk);⟨b,_,h,(nE _).symm⟩⟩
end
section
variable{c:a_}{w:dF}{Y:bG}{F C ao:G aA}{s:aT}{I h M:aP}{o br:MH}{W:bQ}{n:H}{X:cL}{aL aQ aJ:H->aa D}
 {sc:G (ar×dc)} {t:aX} {bd:G en} {f:H} {left wr:G D} {a b:D}
theorem BP(h:j<7):(stH f left wr a b).t.get j=(nR f left wr a b)[j]?:=rZ (n:=7) (P:=λj=>(stH f left wr a b).t.get j=(nR f left wr a b)[j]?) ⟨rfl,rfl,rfl,rfl,rfl,rfl,rfl,trivial⟩ j h
theorem ja(hp:C<+:ao)(hi:i<C.length):ao[i]?=C[i]?:=by
 refine bw hp ?_;clear hp;intro t aI;subst aI
 rw [iD hi]
theorem Pd(h:∃m,aL i=some m)(e:b=.tok i):Cv aL aL o β FZ (.tok i) b:=by subst e;exact .gZ h.choose_spec h.choose_spec
theorem BC(S:St c (wb c w aL) I F ao br h)(hp:C<+:ao)(dM:C.length=7)(x:CX br L)(hf:L.fuel=.fuel f)(xN:∃m,aL 0=some m)(AG:∀i,L.a=.tok i->∃m,aL i=some m)(AH:∀i,L.b=.tok i->∃m,aL i=some m)
  (hL:∀(o:MH) (β:H->aa H) (FZ:H->Prop),cG aL aL o β FZ L.left L.left) (ll:L.left.length<=400) (lw:L.wl<=400):St c (wb c w aL) I F C (stH f L.left (di L.wl .any) L.a L.b) h:=by
 obtain⟨x0,x1,⟨b2,x2⟩,x3,x4,⟨x5,y5,x6,x7,x8⟩,⟨b6,r6,x9,afZ⟩⟩:=x
 have nd:ao.Nodup:=S.apart
 have sub:∀a∈C,a∈ao:=λa ha=>hp.subset ha
 refine S.mJ (β:=λi=>if i<7 then some i else none) (FZ:=λi=>7<=i) (by rw [dM];rfl) (Co hp.sublist nd) (λa ha=>?_) (λa E _ sf=>⟨sf.1,λq=>sf.2 (sub a q)⟩) (λi a hi e=>⟨λq=>?_,λq=>?_⟩) (λi j a e q=>?_) (λj a e=>?_)
 .refine cf (S.cI a ha) λq1 q2 q3=>?_
  exact⟨q1,λz=>q2 (sub a z),q3⟩
 .exact(S.cI a q).2.1 (dy e)
 .obtain⟨j,hj,e2⟩:=iE q
  have e3:ao[j]?=some a:=by rw [ja hp hj,cV hj,e2]
  refine bw (eM.mp e) λl1 l2=>?_
  refine bw (eM.mp e3) λl3 l4=>?_
  have:=(rK (h₀:=l1) (h₁:=l3) nd).mp (l2.trans l4.symm)
  exact bP (dM▸hj) (g7.mpr (this▸hi:7<=j))
 .by_cases hi:i<7
  .rw [bT hi] at e
   rw [<-aM e,<-ja hp (dM.symm▸hi)]
   exact q
  .rw [bl hi] at e;exact aB e
 .have hj:j<7:=dM▸(eM.mp e).1
  rw [<-ja hp (dM.symm▸hj)] at e
  rw [BP hj]
  revert e
  refine rZ (n:=7) (P:=λj=>ao[j]?=some a->∃i E o2,ao[i]?=some a/\br.t.get i=some E/\(nR f L.left (di L.wl .any) L.a L.b)[j]?=some o2/\gR aL aL br (λi=>if i<7 then some i else none) (λi=>7<=i) E o2) ?_ j hj
  exact⟨λe'=>⟨6,_,_,e',x9,rfl,.list (by rw [<-afZ];exact xc) (by rw [dZ];exact lw) (by decide)⟩,λe'=>⟨5,_,_,e',x6,rfl,.dict rfl (.cons (zY (v2:=L.a) (λ_ _ _ _ _ h1 h2=>⟨h1,h2⟩) (λi e=>Pd (AG i e) e) (λ_=>rfl) x7) (.cons (zY (v2:=L.b) (λ_ _ _ _ _ h1 h2=>⟨h1,h2⟩) (λi e=>Pd (AH i e) e) (λ_=>rfl) x8) .nil))⟩,λe'=>⟨4,_,_,e',x4,rfl,.dict rfl (.cons (.ref rfl) (.cons (.same rfl) .nil))⟩,λe'=>⟨3,_,_,e',x3,rfl,.inst rfl⟩,λe'=>⟨2,_,_,e',x2,rfl,.list (hL _ _ _) ll (by decide)⟩,λe'=>⟨1,_,_,e',x1,rfl,.dict rfl (.cons (.gZ xN.choose_spec xN.choose_spec) (.cons (by rw [hf];exact .same rfl) .nil))⟩,λe'=>⟨0,_,_,e',x0,rfl,.inst rfl⟩,trivial⟩
theorem aa5(e:GI B=true):B[0]?=some (some (.ref 0))/\B[1]?=some (some (.ref 2))/\B[2]?=some (some (.ref 3))/\B[3]?=some (some (.ref 6)):=by
 have key:∀{j:H} {v:aa D},pS j v=true->v=some (.ref j):=by
  intro j v e
  cases v with
  |none=>exact bz e
  |some v=>
   cases v with
   |ref i=>rw [dU (e:bA i j=true)]
   |_=>exact bz e
 match B,e with
 |[],e=>exact bz e
 |[_],e=>exact bz e
 |[_,_],e=>exact bz e
 |[_,_,_],e=>exact bz e
 |p::q::r::u::B,e=>
  refine xA (aN.mp (e:(pS 0 p&&pS 2 q&&pS 3 r&&pS 6 u)=true)) λe e4=>?_
  refine xA (aN.mp e) λe e3=>?_
  refine xA (aN.mp e) λe1 e2=>?_
  rw [key e1,key e2,key e3,key e4]
  exact⟨rfl,rfl,rfl,rfl⟩
theorem BH(gp:Sound (λr:aa Lk=>r=some bu) c (wb c w aL) I n (run jR W n))(aq:Ctx c (wb c w aL) I n Y F C s o ⟨sc,.none⟩ gY X)(dM:C.length=7)(cS:turn W n sc t bd o=some bu)(hf:bu.fuel=.fuel f)
  (xN:∃m,aL 0=some m) (AG:∀i,bu.a=.tok i->∃m,aL i=some m) (AH:∀i,bu.b=.tok i->∃m,aL i=some m) (hL:∀(o:MH) (β:H->aa H) (FZ:H->Prop),cG aL aL o β FZ bu.left bu.left) (ll:bu.left.length<=400) (lw:bu.wl<=400)
  (EW:bu.fl=true->∀M tk,bh (ownOf X) C s.heap C M->Ctx c (wb c w aL) I n Y F C {s with heap:=M,toks:=tk} (stH f bu.left (di bu.wl .any) bu.a bu.b) ⟨sc,.none⟩ gY X->lB (bK c w) Y (.whileLoop t bd [] X) R' {s with heap:=M,toks:=tk})
  (EZ:bu.fl=false->∀M tk,bh (ownOf X) C s.heap C M->dm c (wb c w aL) F C M sc [] X->St c (wb c w aL) I F C (stH f bu.left (di bu.wl .any) bu.a bu.b) M->R' (.ok (.ret .none)) {s with heap:=M,toks:=tk}):
  lB (bK c w) Y (.whileLoop t bd [] X) R' s:=by
 have BJ:∀{ao M},bh (eI ⟨sc,.none⟩ X) C s.heap ao M->bh (ownOf X) C s.heap C M:=λst=>⟨mT _,st.keep,λb E e n=>⟨(st.out b E e n).1,n⟩⟩
 refine whl_turn (ae:=λr:aa Lk=>r=some bu) (w:=wb c w aL) (AY:=λ_=>.none) (sW:=sW) gp.ex gp.fe aq cS (λao M tk br st hh=>nomatch hh) (λao M tk br cy st hh S' G'=>?_) (λao M tk br cy m v st hh S' G' x=>?_)
 .have hh:(match GI cy.vars with|true=>lH true br|false=>.none)=some bu:=hh
  refine xA (bI hh) λJ hh=>?_
  refine xA (s6 hh) λe1 e2=>?_
  refine eN (aa5 J) λv0 v1 v2 v3=>?_
  refine EW e1 M tk (BJ st) ⟨aq.room,BC S' st.pre dM e2 hf xN AG AH hL ll lw,?_⟩
  have G':dm c (wb c w aL) F ao M sc cy.vars X:=G'
  have C3:dm c (wb c w aL) F C s.heap sc gY.vars X:=aq.fr
  refine G'.weak C3.own λi m' e=>?_
  have ref:∀{j:H},j<7->∀v,VR c (wb c w aL) F ao M (.ref j) v->VR c (wb c w aL) F C M (.ref j) v:=by
   intro j hj v x
   refine ay x λad e r=>?_
   exact⟨ad,by rw [<-ja st.pre (by lia)];exact e,r⟩
  match i,e with
  |0,e=>cases e;exact⟨_,v0,ref (by decide)⟩
  |1,e=>cases e;exact⟨_,v1,ref (by decide)⟩
  |2,e=>cases e;exact⟨_,v2,ref (by decide)⟩
  |3,e=>cases e;exact⟨_,v3,ref (by decide)⟩
  |4,e=>cases e
  |5,e=>cases e
  |i+6,e=>exact aB e
 .cases m with
  |none=>
   subst x
   have hh:lH false br=some bu:=hh
   refine xA (s6 hh) λe1 e2=>?_
   have G':dm c (wb c w aL) F ao M sc cy.vars X:=G'
   exact EZ e1 M tk (BJ st) (G'.bare G'.own) (BC S' st.pre dM e2 hf xN AG AH hL ll lw)
  |_=>exact aB hh
end
noncomputable def mC(x:H)(B:G H):ah:=@b9 H (λ_=>ah) false (λa _ O=>@bN (λ_=>ah) O true (bA a x)) B
noncomputable def ye(B:G H):ah:=@b9 H (λ_=>ah) true (λa r O=>!(mC a r)&&O) B
noncomputable def gO(j:H)(v:D):ah:=match v with
 |.tok i=>bA i j
 |_=>false
noncomputable def AS(m:D):ah:=match m with
 |.none=>true
 |_=>false
noncomputable def Fo(b:ah)(m:D):ah:=match m with
 |.bool J=>!(qt b J)
 |_=>false
noncomputable def Fq(i:H)(m:D):ah:=match m with
 |.fn j=>bA j i
 |_=>false
noncomputable def yo(f:G D->ah)(m:D):ah:=match m with
 |.tup B=>f B
 |_=>false
noncomputable def Hs(m:G D):ah:=match m with
 |[]=>true
 |_=>false
noncomputable def Bx(f:D->ah)(g:G D->ah)(m:G D):ah:=match m with
 |[]=>false
 |b::r=>f b&&g r
noncomputable def eW(a:D):D->ah:=@D.rec (λ_=>D->ah) (λ_=>G D->ah) AS Fo oH xU (λ_ f=>yo f) kM Fq (λ_ _=>false) (λ_ _=>false) (λ_ _ _ _=>false) (λ_=>false) gO Hs (λ_ _ f g=>Bx f g) a
noncomputable def cT(B:G D):G D->ah:=@b9 D (λ_=>G D->ah) Hs (λa _ g=>Bx (eW a) g) B
noncomputable def acs(args:G D)(o:MH)(s B e u sd dd r:H):aa (G H):=bO (cT args [.ref s,.ref B,.ref e,.ref u]&&sQ o s 338 sd&&sQ o e 200 dd&&cK (d2 o sd nD nB)&&pU (gc o sd nD nB).1&&oH 4000 (gc o sd nD nB).2&&cK (d2 o dd eH eG)&&kM r (gc o dd eH eG).1&&oH 2 (gc o dd eH eG).2&&
  cK (d2 o r eE eD)&&gO 1 (gc o r eE eD).1&&gO 2 (gc o r eE eD).2&&cK (jj o B)&&cT (lG o B).2 [.tup [.str ⟨⟨[115,117,98]⟩⟩,.tok 10,.tok 11]]&&cK (jj o u)&&cT (lG o u).2 []&&ye [s,sd,B,e,dd,r,u]&&allB (λi=>dB i o.n) [s,sd,B,e,dd,r,u]) [s,sd,B,e,dd,r,u]
noncomputable def tq(v:D):H:=match v with
 |.ref i=>i
 |_=>0
noncomputable def rk(B:G D)(i:H):H:=tq (oG .none (fJ B i))
noncomputable def acr(args:G D)(o:MH)(s B e u sd dd:H):aa (G H):=acs args o s B e u sd dd (tq (gc o dd eH eG).1)
noncomputable def Of(args:G D)(o:MH):aa (G H):=acr args o (rk args 0) (rk args 1) (rk args 2) (rk args 3) (oG (0,0) (te o (rk args 0))).2 (oG (0,0) (te o (rk args 2))).2
noncomputable def wE(R:G (G D))(b:G D):H->G D:=@b9 (G D) (λ_=>H->G D) (λ_=>b) (λ_ _ f n=>.tup [.ref n,.ref (cX n)]::f (cX (cX (cX n)))) R
noncomputable def AP(B:G cJ):MT->H->aa MT:=@b9 cJ (λ_=>MT->H->aa MT) (λt _=>some t) (λE _ f t n=>@bN (λ_=>aa MT) .none (f (t.ins n E) (cX n)) (cK ((t.ins n E).get n))) B
noncomputable def eL(R:G (G D)):H->G cJ:=@b9 (G D) (λ_=>H->G cJ) (λ_=>[]) (λg _ f n=>.list 400 g::.inst 200 (cX (cX n))::.dict [(.str eH,.any),(.str eG,.any)]::f (cX (cX (cX n)))) R
noncomputable def wL(f:H)(left:G D)(R:G (G D))(a b:D):G cJ:=app (nR f left (wE R [] 7) a b) (eL R 7)
noncomputable def oW(f:H)(left:G D)(R:G (G D))(a b:D):MH:=fA (wL f left R a b)
noncomputable def BG(is:G H):G cJ->MT->MT:=@b9 H (λ_=>G cJ->MT->MT) (λ_ t=>t) (λi _ f os t=>match os with
 |[]=>t
 |E::os=>f os (t.set i E)) is
noncomputable def Gs(R:G (G D))(LB:G D)(p n sd dd r:H):G cJ:=[.inst 338 sd,.dict [(.str nD,.tok 0),(.str nB,.fuel 3900)],.list 400 LB,.inst 200 dd,.dict [(.str eH,.ref r),(.str eG,.int 2)],.dict [(.str eE,.tok 3),(.str eD,.tok 4)],.list 400 (wE R (di p .any) n)]
noncomputable def UO(res:ah)(R:G (G D))(LB:G D)(p:H)(o:MH)(is:G H):aa (D×MH):=match is with
 |[s,sd,B,e,dd,r,u]=>eQ (AP (eL R o.n) (BG [s,sd,B,e,dd,r,u] (Gs R LB p o.n sd dd r) o.t) o.n) λt=>some ((match res with
   |true=>.ref e
   |false=>.none),⟨t,o.n+3*iA R⟩)
 |_=>.none
noncomputable def N4(lv:H)(res:ah)(R:G (G D))(LB:G D)(p:H)(a:H)(args:G D)(o:MH):aa (H×D×MH):=eQ (bO (bA a 277) ()) λ_=>eQ (Of args o) λis=>eQ (UO res R LB p o is) λq=>some (lv,q.1,q.2)
noncomputable def gn(W:bQ)(gX:H->G D->MH->aa (H×D×MH))(tv:H->aa D)(eq:D->D->aa ah)(pull:H):bQ:=⟨W.glob,W.fn,W.cls,pull,gX,tv,eq⟩
noncomputable def ip:cU (aa D):=⟨.none,λ_ _=>.none⟩
structure jP where
 a:H
 args:G D
 res:D
structure nW where
 a:H
 t:D
 x:ar
 r:D
 res:D
noncomputable def findB{α:Type}(f:α->ah)(B:G α):aa α:=@b9 α (λ_=>aa α) .none (λp _ O=>@bN (λ_=>aa α) O (some p) (f p)) B
noncomputable def Eo(P:G jP)(a:H)(args:G D):aa D:=eQ (findB (λp=>bA p.a a&&cT p.args args) P) λp=>some p.res
noncomputable def findD(bj:G nW)(a:H)(t:D)(x:ar)(r:D):aa D:=eQ (findB (λp=>bA p.a a&&eW p.t t&&seq p.x x&&eW p.r r) bj) λp=>some p.res
noncomputable def d1(R:G (D×D)):aa (ar×D):=match R with
 |[p]=>match p.1 with
  |.str x=>some (x,p.2)
  |_=>.none
 |_=>.none
noncomputable def N3(lv:H)(bj:G nW)(a:H)(args:G D)(o:MH):aa (H×D×MH):=eQ (eQ (vF o (rk args 1)) d1) λq=>eQ (findD bj a (oG .none (fJ args 0)) q.1 q.2) λm=>bO (cT args [oG .none (fJ args 0),.ref (rk args 1)]) (lv,m,o)
noncomputable def kP(lv:H)(P:G jP)(bj:G nW)(a:H)(args:G D)(o:MH):aa (H×D×MH):=match Eo P a args with
 |some m=>some (lv,m,o)
 |.none=>N3 lv bj a args o
noncomputable def kD(m:D)(o:MH):aa D:=match o.t.get 0 with
 |some E=>match E with
  |.dict R=>match R with
   |[p]=>some (.tup [p.1,p.2,m])
   |_=>.none
  |_=>.none
 |.none=>.none
structure Lz where
 L:Lk
 R:G (G D)
noncomputable def Lh(v:D):aa (G D):=match v with
 |.tup B=>some B
 |_=>.none
noncomputable def Li(B:G D):aa (D×D):=match B with
 |[]=>.none
 |a::B=>match B with
  |[]=>.none
  |b::B=>match B with
   |[]=>some (a,b)
   |_::_=>.none
noncomputable def D_(v:D):aa H:=match v with
 |.ref i=>some i
 |_=>.none
noncomputable def Ea(o:MH)(v:D):aa (G D×G H):=eQ (eQ (Lh v) Li) λp=>eQ (D_ p.1) λi=>eQ (D_ p.2) λj=>eQ (jj o i) λq=>eQ (te o j) λJ=>eQ (d2 o J.2 eH eG) λ_=>
 bO (bA J.1 200&&eB 7 i&&eB 7 j&&eB 7 J.2) (q.2,[i,j,J.2])
noncomputable def Eb(o:MH)(B:G D):aa (G (G D)×G H):=@b9 D (λ_=>aa (G (G D)×G H)) (some ([],[])) (λv _ O=>eQ (Ea o v) λq=>eQ O λz=>some (q.1::z.1,app q.2 z.2)) B
noncomputable def tE(o:MH)(v:D):G H:=match v with
 |.ref i=>match o.t.get i with
  |some E=>match E with
   |.inst _ d=>[i,d]
   |_=>[]
  |.none=>[]
 |_=>[]
noncomputable def Zc(o:MH)(L:Lk)(q:G (G D)×G H):aa Lz:=eQ (d2 o 5 eE eD) λr=>bO (ye q.2&&allB (λi=>!(mC i q.2)) (tE o r.1)&&allB (λi=>!(mC i q.2)) (tE o r.2)) ⟨L,q.1⟩
noncomputable def F7(o:MH):aa Lz:=eQ (lH false o) λL=>eQ (jj o 6) λu=>eQ (Eb o u.2) λq=>Zc o L q
noncomputable def zH:cU (aa Lz):=⟨.none,λ_ _=>.none⟩
noncomputable def kZ(f:eh)(fr:Fm)(o:MH):aa Lz:=match f with
 |.next=>.none
 |.ret v=>match v with
  |.none=>F7 o
  |_=>.none
noncomputable def Nd(W:bQ)(n:H)(sc:G (ar×dc))(t:aX)(bd:G en)(o:MH):aa Lz:=(run zH W n).iO ⟨sc,.none⟩ t bd gY o kZ
section
variable{o:MH}{aL:H->aa D}
theorem A5(e:mC x B=false):x∉B:=by
 induction B with
 |nil=>exact λq=>nomatch q
 |cons a B O=>
  have e':@bN (λ_=>ah) (mC x B) true (bA a x)=false:=e
  generalize J:bA a x=ax at e'
  cases ax with
  |true=>exact bz e'.symm
  |false=>
   exact λq=>(bY.mp q).elim (λz=>CL J z.symm) (O e')
theorem Gm(e:ye B=true):B.Nodup:=by
 induction B with
 |nil=>exact rO
 |cons a B O=>
  refine xA (aN.mp (e:(!(mC a B)&&ye B)=true)) λe1 e2=>?_
  rw [wh] at e1
  exact ic.mpr ⟨A5 e1,O e2⟩
inductive kg(o:MH):G D->G (G D)->G H->Prop
 |nil:kg o [] [] []
 |cons {i j d bb:H} {g:G D} {E:D×D} {ws:G D} {R:G (G D)} {is:G H}:o.t.get i=some (.list bb g)->o.t.get j=some (.inst 200 d)->o.t.get d=some (.dict [(.str eH,E.1),(.str eG,E.2)])->7<=i->7<=j->7<=d->kg o ws R is->kg o (.tup [.ref i,.ref j]::ws) (g::R) (i::j::d::is)
structure Ent(o:MH)(v:D)(g:G D)(is:G H)(i j d:H):Prop where
 v:v=.tup [.ref i,.ref j]
 is:is=[i,j,d]
 p0:∃bb,o.t.get i=some (.list bb g)
 p1:o.t.get j=some (.inst 200 d)
 p2:∃E:D×D,o.t.get d=some (.dict [(.str eH,E.1),(.str eG,E.2)])
 l0:7<=i
 l1:7<=j
 l2:7<=d
theorem U0(e:Lh v=some B):v=.tup B:=by
 cases v with
 |tup l'=>exact cq _ (aM e)
 |_=>exact aB e
theorem U1(e:Li B=some p):B=[p.1,p.2]:=by
 cases B with
 |nil=>exact aB e
 |cons a B=>cases B with
  |nil=>exact aB e
  |cons b B=>cases B with
   |nil=>rw [<-(aM e:(a,b)=p)]
   |cons=>exact aB e
theorem Lj(e:D_ v=some i):v=.ref i:=by
 cases v with
 |ref i'=>exact cq _ (aM e)
 |_=>exact aB e
theorem U2(e:Ea o v=some q):∃i j d,Ent o v q.1 q.2 i j d:=by
 refine ay (fm e) λp h0 e=>?_
 refine ay (fm h0) λB ha hb=>?_
 refine ay (fm e) λi h1 e=>?_
 refine ay (fm e) λj h2 e=>?_
 refine ay (fm e) λu h3 e=>?_
 refine ay (fm e) λJ h4 e=>?_
 refine ay (fm e) λE h5 e=>?_
 refine xA (jA e) λcc aI=>?_;rw [<-aI]
 have h4:=GF h4
 have c4:=aN.mp cc
 have c3:=aN.mp c4.1
 have c2:=aN.mp c3.1
 exact⟨i,j,J.2,(U0 ha).trans (cq _ ((U1 hb).trans (by rw [Lj h1,Lj h2]))),rfl,⟨_,sY h3⟩,dU c2.1▸h4,⟨_,DT h5⟩,dw c2.2,dw c3.2,dw c4.2⟩
theorem U3:∀{q:G (G D)×G H},Eb o B=some q->kg o B q.1 q.2:=by
 induction B with
 |nil=>exact λe=>aM e▸.nil
 |cons v B O=>
  intro q e
  refine ay (fm (show(eQ (Ea o v) λq=>eQ (Eb o B) λz=>some (q.1::z.1,app q.2 z.2))=some q from e)) λz h1 e=>?_
  refine ay (fm e) λy h2 e=>?_
  refine gJ (U2 h1) λi j bB=>bw bB λd au=>?_
  refine bw au.p0 λbb p0=>?_
  refine bw au.p2 λE p2=>?_
  have:=kg.cons p0 au.p1 p2 au.l0 au.l1 au.l2 (O h2)
  rw [<-aM e,au.v]
  refine(?_:kg o _ (z.1::y.1) (app z.2 y.2))
  rw [au.is]
  exact this
structure R0(o:MH)(Z:Lz)(is:G H):Prop where
 ag2:CX o Z.L
 fl:Z.L.fl=false
 ag6:∃x y,o.t.get 5=some (.dict [(.str eE,x),(.str eD,y)])/\(∀i∈tE o x,i∉is)/\(∀i∈tE o y,i∉is)
 ents:∃b r,o.t.get 6=some (.list b r)/\kg o r Z.R is
 nd:is.Nodup
theorem Sl{α:Type}{f:α->ah}{B:G α}(e:allB f B=true):∀x∈B,f x=true:=by
 induction B with
 |nil=>exact λ_ h=>nomatch h
 |cons a B O=>
  have e:=aN.mp (e:(f a&&allB f B)=true)
  exact λx h=>(bY.mp h).elim (λz=>z▸e.1) (O e.2 x)
theorem Zd{Z:Lz}(e:F7 o=some Z):∃is,R0 o Z is:=by
 refine ay (fm e) λL h1 e=>?_
 refine ay (fm e) λu h2 e=>?_
 refine ay (fm e) λq h3 e=>?_
 refine ay (fm e) λr h4 e=>?_
 refine xA (jA e) λJ aI=>?_;rw [<-aI]
 have J:=aN.mp J
 have c1:=aN.mp J.1
 refine xA (s6 h1) λe1 e2=>?_
 have key:∀{B:G H},allB (λi=>!(mC i q.2)) B=true->∀i∈B,i∉q.2:=λh i hi=>A5 (by have:=Sl h i hi;rw [wh] at this;exact this)
 exact⟨q.2,e2,e1,⟨_,_,DT h4,key c1.2,key J.2⟩,⟨_,_,sY h2,U3 h3⟩,Gm c1.1⟩
noncomputable def lQ(i:H)(B:G H):aa H:=@b9 H (λ_=>aa H) none (λa _ O=>if a=i then some 0 else O.map cX) B
theorem Hd(e:lQ i B=some q):B[q]?=some i:=by
 induction B generalizing q with
 |nil=>exact aB e
 |cons a B O=>
  have e:(if a=i then some 0 else(lQ i B).map cX)=some q:=e
  by_cases h:a=i
  .rw [bT h] at e
   exact aM e▸cq some h
  .rw [bl h] at e
   refine ay (zr.mp e) λz h1 h2=>?_
   exact h2▸O h1
theorem Bs:∀{q:H},B.Nodup->B[q]?=some i->lQ i B=some q:=by
 induction B with
 |nil=>exact λ_ e=>nomatch e
 |cons a B O=>
  intro q nd e
  refine(?_:(if a=i then some 0 else(lQ i B).map cX)=some q)
  cases q with
  |zero=>exact bT (aM e)
  |succ q=>
   refine xA (ic.mp nd) λn1 n2=>?_
   have e:B[q]?=some i:=e
   rw [bl λ(h:a=i)=>n1 (h▸dy e),O n2 e]
   rfl
end
section
variable{c:a_}{w:dF}{F C ao:G aA}{I h:aP}{o br dz:MH}{aL aQ aJ:H->aa D}{f:H}{left:G D}{a b:D}
theorem ON(he:R.length<=2)(hj:j<7+3*R.length):(oW f left R a b).t.get j=(wL f left R a b)[j]?:=by
 cases R with
 |nil=>exact rZ (n:=7) (P:=λj=>(oW f left [] a b).t.get j=(wL f left [] a b)[j]?) ⟨rfl,rfl,rfl,rfl,rfl,rfl,rfl,trivial⟩ j hj
 |cons e R=>cases R with
  |nil=>exact rZ (n:=10) (P:=λj=>(oW f left [e] a b).t.get j=(wL f left [e] a b)[j]?) ⟨rfl,rfl,rfl,rfl,rfl,rfl,rfl,rfl,rfl,rfl,trivial⟩ j hj
  |cons e2 R=>cases R with
   |nil=>exact rZ (n:=13) (P:=λj=>(oW f left [e,e2] a b).t.get j=(wL f left [e,e2] a b)[j]?) ⟨rfl,rfl,rfl,rfl,rfl,rfl,rfl,rfl,rfl,rfl,rfl,rfl,rfl,trivial⟩ j hj
   |cons=>exact bP he (Ro (zq (zq (ug _))))
theorem D7(R:G (G D)):∀n:H,(eL R n).length=3*R.length:=by
 induction R with
 |nil=>exact λ_=>rfl
 |cons g R O=>exact λn=>cq (· +3) (O (n+3))
theorem afm(R:G (G D)):∀n:H,(wE R [] n).length=R.length:=by
 induction R with
 |nil=>exact λ_=>rfl
 |cons g R O=>exact λn=>cq (· +1) (O (n+3))
theorem OO(R:G (G D)):(oW f left R a b).n=7+3*R.length:=by
 refine(?_:(wL f left R a b).length=_)
 unfold wL
 rw [gM,fy,D7]
 rfl
theorem U4(au:kg o ws R is)(pe:∀e∈R,(∀m∈e,bC m=true)/\e.length<=400)(hb:∀(q i:H),is[q]?=some i->β i=some (n+q)):
  cG aQ aJ o β FZ ws (wE R [] n)/\∀(d i:H),is[d]?=some i->∃E o2,o.t.get i=some E/\(eL R n)[d]?=some o2/\gR aQ aJ o β FZ E o2:=by
 induction au generalizing n with
 |nil=>exact⟨.nil,λd i e=>nomatch e⟩
 |cons p0 p1 p2 _ _ _ _ O=>
  refine xA (O (λe he=>pe e (.tail _ he)) (n:=n+3) (λq i e=>(hb (q+3) i e).trans (by rw [ph,mV 3]))) λc1 c2=>?_
  have k:=pe _ (.head _)
  refine⟨.cons (.tup (.cons (.ref (hb 0 _ rfl)) (.cons (.ref (hb 1 _ rfl)) .nil))) c1,λq=>?_⟩
  refine match q with
  |0=>λi' e=>aM e▸⟨_,_,p0,rfl,.list (iw k.1) k.2 (by decide)⟩
  |1=>λi' e=>aM e▸⟨_,_,p1,rfl,.inst (hb 2 _ rfl)⟩
  |2=>λi' e=>aM e▸⟨_,_,p2,rfl,.dict (dD:=[(.str eH,.any),(.str eG,.any)]) rfl (.cons .any (.cons .any .nil))⟩
  |q+3=>c2 q
theorem kg.len(au:kg o ws R is):is.length=3*R.length:=by
 induction au with
 |nil=>rfl
 |cons _ _ _ _ _ _ _ O=>exact cq (· +3) O
theorem kg.BI(au:kg o ws R is):∀i∈is,7<=i:=by
 induction au with
 |nil=>exact λ_ h=>nomatch h
 |cons _ _ _ a b J _ O=>exact λi h=>(bY.mp h).elim (λz=>z▸a) λh=>(bY.mp h).elim (λz=>z▸b) λh=>(bY.mp h).elim (λz=>z▸J) (O i)
theorem kg.at(S:St c (wb c w aL) I F C o h)(au:kg o ws R is):∀{V:G aw},aW c (wb c w aL) F C h ws V->∀i∈is,i<C.length:=by
 induction au with
 |nil=>exact λ_ _ h=>nomatch h
 |cons p0 p1 p2 _ _ _ _ O=>
  intro V x
  replace x:=x.cj;obtain⟨v,r,_,y,x⟩:=x
  refine gq.el y.gi λ_ _ _ _ _ _ z=>?_
  replace z:=z.cj;obtain⟨v0,r0,_,⟨a0,e0,_⟩,z⟩:=z
  replace z:=z.cj;obtain⟨v1,r1,_,⟨a1,e1,_⟩,z⟩:=z
  obtain⟨a2,e2,_⟩:∃dx,C[_]?=some dx/\h.get? a1=some (uZ 200 dx):=S.ref e1 p1
  have lt:∀{i:H} {a:aA},C[i]?=some a->i<C.length:=λe=>(eM.mp e).1
  exact λi h=>(bY.mp h).elim (λz=>z▸lt e0) λh=>(bY.mp h).elim (λz=>z▸lt e1) λh=>(bY.mp h).elim (λz=>z▸lt e2) (O x i)
theorem ads(e:v=.ref i)(g:o.t.get i=some (.inst aq d)):tE o v=[i,d]:=by
 subst e
 unfold tE
 dsimp only
 rw [g]
theorem placesOf{B:G H}(hl:∀i∈B,i<ao.length):∃as:G aA,as.length=B.length/\∀(q:H) (a:aA),as[q]?=some a->∃i,B[q]?=some i/\ao[i]?=some a:=by
 induction B with
 |nil=>exact⟨[],rfl,λq a e=>nomatch e⟩
 |cons i B O=>
  refine ay (O λi hi=>hl i (.tail _ hi)) λas h1 h2=>?_
  refine⟨ao[i]'(hl i (.head _))::as,cq (· +1) h1,λq a e=>?_⟩
  cases q with
  |zero=>exact⟨i,rfl,aM e▸cV _⟩
  |succ q=>exact h2 q a e
noncomputable def bW(is:G H)(i:H):aa H:=if i<7 then some i else(lQ i is).map (7+·)
noncomputable def fW(is:G H)(i:H):Prop:=7<=i/\i∉is
theorem afn{Z:Lz}(S:St c (wb c w aQ) I F ao br h)(hp:C<+:ao)(dM:C.length=7)(hz:F7 br=some Z)(hf:Z.L.fuel=.fuel f)(Xu:∃m,aQ 0=some m/\aJ 0=some m)
  (ha:∀{β:H->aa H} {FZ:H->Prop} i,Z.L.a=.tok i->Cv aQ aJ br β FZ (.tok i) ca) (ny:(∀i,Z.L.a≠.tok i)->ca=Z.L.a) (hb:∀{β:H->aa H} {FZ:H->Prop} i,Z.L.b=.tok i->Cv aQ aJ br β FZ (.tok i) cb) (Wt:(∀i,Z.L.b≠.tok i)->cb=Z.L.b)
  (pl:∀m∈Z.L.left,bC m=true) (ll:Z.L.left.length<=400) (pe:∀e∈Z.R,(∀m∈e,bC m=true)/\e.length<=400) (le:Z.R.length<=2):
  ∃yW,C<+:yW/\(∀z∈yW,z∈ao)/\St c (wb c w aJ) I F yW (oW f Z.L.left Z.R ca cb) h:=by
 refine bw (Zd hz) λis sw=>?_
 obtain⟨⟨x0,x1,⟨b2,x2⟩,x3,x4,⟨x5,y5,x6,x7,x8⟩,_⟩,_,⟨af0,af1,PZ,n1,n2⟩,⟨b6,r6,x9,au⟩,nd⟩:=sw
 rw [x6] at PZ
 obtain⟨rfl,rfl⟩:x5=af0/\y5=af1:=by
  injection PZ with q;injection q with q;injection q with q1 q;injection q with q2 q
  injection q1 with _ q1;injection q2 with _ q2
  exact⟨q1,q2⟩
 have aam:ao.Nodup:=S.apart
 have M5:=au.len
 have sv:=au.BI
 have h7:7<=ao.length:=dM▸hp.length_le
 refine eO (S.ref (cV (show 6<ao.length from h7)) x9) λahc _ _ y6 _=>?_
 have inr:∀i∈is,i<ao.length:=au.at S y6
 refine ay (placesOf inr) λas FL L8=>?_
 have place:∀(j:H) (a:aA),(C++as)[j]?=some a->∃i,ao[i]?=some a/\((i=j/\j<7)\/(7<=j/\is[j-7]?=some i)):=by
  intro j a e
  by_cases hj:j<7
  .rw [iD (dM.symm▸hj)] at e
   exact⟨j,by rw [ja hp (dM.symm▸hj)];exact e,.inl ⟨rfl,hj⟩⟩
  .rw [mS (dM.symm▸g7.mp hj),dM] at e
   refine ay (L8 _ _ e) λi e1 e2=>?_
   exact⟨i,e2,.inr ⟨g7.mp hj,e1⟩⟩
 have sub:∀z∈C++as,z∈ao:=λz hz=>by
  obtain⟨j,hj,e⟩:=iE hz
  refine ay (place j z (by rw [cV hj,e])) λi e2 _=>?_
  exact dy e2
 refine⟨C++as,wD ..,sub,?_⟩
 have same:∀{i j:H} {a:aA},ao[i]?=some a->ao[j]?=some a->i=j:=λe e3=>by
  refine bw (eM.mp e) λl1 l2=>?_
  refine bw (eM.mp e3) λl3 l4=>?_
  exact(rK (h₀:=l1) (h₁:=l3) aam).mp (l2.trans l4.symm)
 have Gl:(C++as).Nodup:=by
  rw [List.Nodup,Cz]
  intro i j hi hj uQ e
  refine ay (place i _ (cV hi)) λi' e1 c1=>?_
  refine ay (place j _ (cV hj)) λj' e2 c2=>?_
  rw [e] at e1
  have q:=same e1 e2
  subst q
  rcases c1 with⟨z1,z2⟩|⟨z1,z2⟩<;>rcases c2 with⟨z3,z4⟩|⟨z3,z4⟩
  .exact bP uQ (by rw [<-z1,z3];exact zm _)
  .exact bP z2 (g7.mpr (z1▸sv _ (dy z4)))
  .exact bP z4 (g7.mpr (z3▸sv _ (dy z2)))
  .refine bw (eM.mp z2) λl1 l2=>?_
   refine bw (eM.mp z4) λl3 l4=>?_
   exact bP ((rK (h₀:=l1) (h₁:=l3) nd).mp (l2.trans l4.symm)) (rU (Nat.sub_lt_sub_right z1 uQ))
 have XH:∀(q i:H),is[q]?=some i->bW is i=some (7+q):=λq i e=>by
  have:=sv _ (dy e)
  unfold bW
  rw [bl (g7.mpr this),Bs nd e];rfl
 refine xA (U4 (aQ:=aQ) (aJ:=aJ) (β:=bW is) (FZ:=fW is) au pe (n:=7) XH) λcW cO=>?_
 have lw:=afm Z.R 7
 refine S.mJ (β:=bW is) (FZ:=fW is) (by rw [OO,fy,FL,M5,dM]) Gl (λa ha=>?_) (λa E _ sf=>⟨sf.1,λq=>sf.2 (sub a q)⟩) (λi a hi e=>⟨λq=>?_,λq=>?_⟩) (λi j a e q=>?_) (λj a e=>?_)
 .refine cf (S.cI a ha) λq1 q2 q3=>?_
  exact⟨q1,λz=>q2 (sub a z),q3⟩
 .exact(S.cI a q).2.1 (dy e)
 .obtain⟨j,hj,e2⟩:=iE q
  refine ay (place j a (by rw [cV hj,e2])) λi' e3 J=>?_
  have q:=same e e3
  obtain rfl:=q.symm
  rcases J with⟨c1,c2⟩|⟨_,c2⟩
  .exact bP c2 (g7.mpr (c1▸hi.1))
  .exact hi.2 (dy c2)
 .have e:(if i<7 then some i else(lQ i is).map (7+·))=some j:=e
  by_cases h:i<7
  .rw [bT h] at e
   rw [<-aM e,iD (dM.symm▸h),<-ja hp (dM.symm▸h)]
   exact q
  .rw [bl h] at e
   refine ay (zr.mp e) λy z aE=>?_;rw [<-aE]
   have z:=Hd z
   refine(?_:(C++as)[7+y]?=some a)
   rw [mS (dM.symm▸ig 7 y),dM,jO]
   have hy:y<as.length:=by rw [FL];exact(eM.mp z).1
   refine ay (L8 y _ (cV hy)) λi' e1 e2=>?_
   rw [<-aM (z.symm.trans e1)] at e2
   exact(cV hy).trans (e2.symm.trans q)
 .have hj:j<7+3*Z.R.length:=by have:=(eM.mp e).1;rw [fy,FL,M5,dM] at this;exact this
  refine ay (place j a e) λi e' J=>?_
  rw [ON le hj]
  rcases J with⟨rfl,hj⟩|⟨hj,J⟩
  .refine ay Xu λm0 t1 t2=>?_
   have fz:∀{v:D},(∀i∈tE br v,i∉is)->∀i aq d,v=.ref i->br.t.get i=some (.inst aq d)->7<=i->7<=d->fW is i/\fW is d:=λn i aq d ev g l1 l2=>by
    rw [ads ev g] at n
    exact⟨⟨l1,n i (.head _)⟩,⟨l2,n d (.tail _ (.head _))⟩⟩
   refine rZ (n:=7) (P:=λj=>ao[j]?=some a->∃i E o2,ao[i]?=some a/\br.t.get i=some E/\(wL f Z.L.left Z.R ca cb)[j]?=some o2/\gR aQ aJ br (bW is) (fW is) E o2) ?_ i hj e'
   exact⟨λe'=>⟨6,_,_,e',x9,rfl,.list cW (by rw [lw];exact dQ le (by decide)) (by decide)⟩,
    λe'=>⟨5,_,_,e',x6,rfl,.dict rfl (.cons (zY (v2:=ca) (fz n1) ha ny x7) (.cons (zY (v2:=cb) (fz n2) hb Wt x8) .nil))⟩,
    λe'=>⟨4,_,_,e',x4,rfl,.dict rfl (.cons (.ref rfl) (.cons (.same rfl) .nil))⟩,
    λe'=>⟨3,_,_,e',x3,rfl,.inst rfl⟩,
    λe'=>⟨2,_,_,e',x2,rfl,.list (iw pl) ll (by decide)⟩,
    λe'=>⟨1,_,_,e',x1,rfl,.dict rfl (.cons (.gZ t1 t2) (.cons (by rw [hf];exact .same rfl) .nil))⟩,
    λe'=>⟨0,_,_,e',x0,rfl,.inst rfl⟩,trivial⟩
  .refine eO (cO _ _ J) λE o2 g1 g2 g3=>?_
   refine⟨i,E,o2,e',g1,?_,g3⟩
   unfold wL
   rw [gM,mS (by exact hj)]
   exact g2
end
noncomputable def tabS(KT x y:D):H->aa D
 |0=>some KT
 |1=>some x
 |2=>some y
 |_=>.none
noncomputable def aU(KT:D):H->aa D
 |0=>some KT
 |_=>.none
inductive Tk(aQ aJ:H->aa D):D->D->Prop
 |same {m:D}:bC m=true->Tk aQ aJ m m
 |eT {m:D} {j:H}:bC m=true->cK (handed m)=true->aJ j=some m->Tk aQ aJ m (.tok j)
 |fc {m:D} {i:H}:aQ i=some m->Tk aQ aJ (.tok i) m
section
variable{c:a_}{w:dF}{Y:bG}{F C ao:G aA}{s:aT}{I h M:aP}{o br:MH}{W:bQ}{n:H}{X:cL}{aL aQ aJ:H->aa D}
 {sc:G (ar×dc)} {t:aX} {bd:G en} {f:H} {left jl wr:G D} {a b a' b' KT:D}
theorem Tk.cv(t:Tk aQ aJ m m'):Cv aQ aJ o β FZ m m':=by
 cases t with
 |same p=>exact .same p
 |eT p q e=>exact .eT p q e
 |fc e=>exact .fc e
theorem BQ(S:St c (wb c w aQ) I F C (stH f left wr a b) h)(h1:aQ 0=some KT)(h2:aJ 0=some KT)(hL:∀(o:MH) (β:H->aa H) (FZ:H->Prop),cG aQ aJ o β FZ left jl)(ll:left.length<=400)(lw:wr.length<=400)(ka:Tk aQ aJ a a')(kb:Tk aQ aJ b b'):
  St c (wb c w aJ) I F C (stH f jl (di wr.length .any) a' b') h:=by
 have dM:C.length=7:=S.len.symm
 refine S.mJ (β:=some) (FZ:=λ_=>dP) S.len S.apart S.cI (λa E _ sf=>sf) (λi a hi e=>hi.elim) (λi j a e q=>aM e▸q) (λj J e=>?_)
 have hj:j<7:=dM▸(eM.mp e).1
 rw [BP hj]
 refine rZ (n:=7) (P:=λj=>C[j]?=some J->∃i E o2,C[i]?=some J/\(stH f left wr a b).t.get i=some E/\(nR f jl (di wr.length .any) a' b')[j]?=some o2/\gR aQ aJ (stH f left wr a b) some (λ_=>dP) E o2) ?_ j hj e
 exact⟨λe=>⟨6,_,_,e,rfl,rfl,.list xc (by rw [dZ];exact lw) (by decide)⟩,λe=>⟨5,_,_,e,rfl,rfl,.dict rfl (.cons ka.cv (.cons kb.cv .nil))⟩,λe=>⟨4,_,_,e,rfl,rfl,.dict rfl (.cons (.ref rfl) (.cons (.same rfl) .nil))⟩,λe=>⟨3,_,_,e,rfl,rfl,.inst rfl⟩,λe=>⟨2,_,_,e,rfl,rfl,.list (hL _ _ _) (by rw [(hL ⟨.nil,0⟩ (λ_=>.none) (λ_=>dP)).length];exact ll) (by decide)⟩,λe=>⟨1,_,_,e,rfl,rfl,.dict rfl (.cons (.gZ h1 h2) (.cons (.same rfl) .nil))⟩,λe=>⟨0,_,_,e,rfl,rfl,.inst rfl⟩,trivial⟩
theorem oq(aq:Ctx c (wb c w aQ) I n Y F C s (stH f left wr a b) ⟨sc,.none⟩ gY X)(h1:aQ 0=some KT)(h2:aJ 0=some KT)(hL:∀(o:MH) (β:H->aa H) (FZ:H->Prop),cG aQ aJ o β FZ left jl)(ll:left.length<=400)(lw:wr.length<=400)(ka:Tk aQ aJ a a')(kb:Tk aQ aJ b b'):
  Ctx c (wb c w aJ) I n Y F C s (stH f jl (di wr.length .any) a' b') ⟨sc,.none⟩ gY X:=by
 refine⟨aq.room,BQ aq.st h1 h2 hL ll lw ka kb,?_⟩
 have az:dm c (wb c w aQ) F C s.heap sc gY.vars X:=aq.fr
 refine az.weak az.own λi m' e=>?_
 have ref:∀{j:H},∀v,VR c (wb c w aQ) F C s.heap (.ref j) v->VR c (wb c w aJ) F C s.heap (.ref j) v:=by
  intro j v x
  exact x
 match i,e with
 |0,e=>cases e;exact⟨_,rfl,ref⟩
 |1,e=>cases e;exact⟨_,rfl,ref⟩
 |2,e=>cases e;exact⟨_,rfl,ref⟩
 |3,e=>cases e;exact⟨_,rfl,ref⟩
 |4,e=>cases e
 |5,e=>cases e
 |i+6,e=>exact aB e
noncomputable def Row(W:bQ)(n:H)(sc:G (ar×dc))(t:aX)(bd:G en)(g a b:D)(fl:ah)(subs:G D)(a' b':D)(p:H):Prop:=
 ∀f aY wr,turn W n sc t bd (stH (cX f) (g::aY) wr a b)=some ⟨fl,.fuel f,subs++aY,a',b',iA wr+p⟩
noncomputable def un(x:D)(i:H)(m:D):D:=match m with
 |.tok j=>match bA j i with
  |true=>x
  |false=>m
 |m=>m
noncomputable def jQ(x:D)(i:H)(m:D):Prop:=m=x\/m=.tok i
noncomputable def Left(i:H)(m:D):Prop:=bC m=true\/m=.tok i
noncomputable def cR(m:D):ah:=bC m&&cK (handed m)
set_option genCtorIdx false in
inductive mf where
 |good (x y:D)|bad (R:G (G D)) (left:G D) (x y:D)
noncomputable def mf.ctorIdx(x:mf):H:=@mf.rec (λ_=>H) (λ_ _=>0) (λ_ _ _ _=>1) x
noncomputable def CW(W:bQ)(n:H)(sc:G (ar×dc))(t:aX)(bd:G en)(gs:G D)(a b:D)(k:H)(R:G (G D))(lf:G D)(a' b':D):Prop:=
 ∀f aY,Nd W n sc t bd (stH (f+k) (gs++aY) [] a b)=some ⟨⟨false,.fuel f,lf++aY,a',b',R.length⟩,R.map λe=>e++aY⟩
inductive Chain(W:bQ)(n:H)(sc:G (ar×dc))(t:aX)(bd:G en):G D->D->D->H->H->mf->Prop
 |done {x y:D}:Chain W n sc t bd [] x y 0 0 (.good x y)
 |turn {g:D} {aY subs:G D} {x y a b a' b':D} {p k q:H} {E:mf}:Row W n sc t bd g a b true subs a' b' p->jQ x 1 a->jQ y 2 b->Left 1 a'->Left 2 b'->(∀m∈subs,bC m=true)->subs.length<=6->cR (un x 1 a')=true->cR (un y 2 b')=true->
   Chain W n sc t bd (subs++aY) (un x 1 a') (un y 2 b') k q E->Chain W n sc t bd (g::aY) x y (k+1) (p+q) E
 |fail {g:D} {aY subs:G D} {x y a b a' b':D} {p:H}:Row W n sc t bd g a b false subs a' b' p->jQ x 1 a->jQ y 2 b->Left 1 a'->Left 2 b'->(∀m∈subs,bC m=true)->subs.length<=6->Chain W n sc t bd (g::aY) x y 1 p (.bad [] (subs++aY) (un x 1 a') (un y 2 b'))
 |last {gs aY lf:G D} {R:G (G D)} {x y a b a' b':D} {k:H}:CW W n sc t bd gs a b k R lf a' b'->jQ x 1 a->jQ y 2 b->Left 1 a'->Left 2 b'->(∀m∈lf,bC m=true)->lf.length<=6->(∀e∈R,(∀m∈e,bC m=true)/\e.length<=6)->R.length<=2->Chain W n sc t bd (gs++aY) x y k 0 (.bad (R.map λe=>e++aY) (lf++aY) (un x 1 a') (un y 2 b'))
theorem ry{x y m:D}(hx:cR x=true)(e:jQ x i m)(ht:aJ i=some x):Tk aQ aJ x m:=by
 refine xA (aN.mp hx) λh1 h2=>?_
 rcases e with rfl|rfl
 .exact .same h1
 .exact .eT h1 h2 ht
theorem yI(e:Left i m)(ht:aQ i=some x):Tk aQ aJ m (un x i m):=by
 rcases e with e|rfl
 .have:un x i m=m:=by
   cases m with
   |tok j=>exact bz e
   |_=>rfl
  rw [this]
  exact .same e
 .have:un x i (.tok i)=x:=by
   refine(?_:(match bA i i with|true=>x|false=>D.tok i)=x)
   rw [CH]
  rw [this]
  exact .fc ht
theorem xY(e:Left i m)(h:m=.tok j):j=i:=by
 rcases e with e|rfl
 .subst h;exact bz e
 .cases h;rfl
noncomputable def je(c:a_)(w:dF)(I:aP)(KT:D)(n:H)(sc:G (ar×dc))(t:aX)(bd:G en)(left:G D)(x y:D)(k p:H)(E:mf):Prop:=
 ∀(Y:bG) (F C:G aA) (X:cL) (f m:H) (s:aT) (R':Result->aT->Prop),C.length=7->cR x=true->cR y=true->k<=f->left.length+6*k<=390->m+p<=400->(∀R B x' y',E=.bad R B x' y'->m+p=0)->
   Ctx c (wb c w (aU KT)) I n Y F C s (stH f left (di m .any) x y) ⟨sc,.none⟩ gY X->
   (∀x' y',E=.good x' y'->∀f' M tk,f<=f'+k->bh (ownOf X) C s.heap C M->Ctx c (wb c w (aU KT)) I n Y F C {s with heap:=M,toks:=tk} (stH f' [] (di (m+p) .any) x' y') ⟨sc,.none⟩ gY X->R' (.ok .next) {s with heap:=M,toks:=tk})->
   (∀R jl x' y',E=.bad R jl x' y'->∀f' ao M tk,f<=f'+k->bh (ownOf X) C s.heap ao M->dm c (wb c w (aU KT)) F ao M sc [] X->St c (wb c w (aU KT)) I F ao (oW f' jl R x' y') M->R' (.ok (.ret .none)) {s with heap:=M,toks:=tk})->
   lB (bK c w) Y (.whileLoop t bd [] X) R' s
theorem Pu(h:∀j,m≠.tok j):un x i m=m:=by
 cases m with
 |tok j=>exact bP rfl (h j)
 |_=>rfl
theorem Pw(e:Left i m)(h:m=.tok j)(ht:aQ i=some x):Cv aQ aJ o β FZ (.tok j) (un x i m):=by
 have q:=xY e h
 skip
 exact h▸(yI e ht).cv
theorem adR{i:H}{m:D}(e:gY.vars[i]?=some (some m)):∃j,j<7/\m=.ref j:=by
 have h:=dy e
 simp only [gY,bY,Option.some.injEq,reduceCtorEq,eP,gF] at h
 rcases h with h|h|h|h<;>exact⟨_,by decide,h⟩
theorem vg{a b:H}(h:a+b<=390):a<=400:=dQ (dQ (ig ..) h) (by decide)
theorem F_{s r k:H}(ls:s<=6)(hl:r+1+6*(k+1)<=390):s+r+6*k<=390:=
 dQ (ua (ua ls r) (6*k)) (dQ (dQ (CK (by rw [Rn,mV 6 r,ph,mV 6])) (ua (ue r) (6*(k+1)))) hl)
theorem Ni{a g r J:H}(h:a<=6)(hl:g+r+J<=390):a+r<=400:=dQ (CE h (dQ (dQ (ud r g) (ig _ J)) hl)) (by decide)
theorem TG(gp:∀(x y:D) (bu:Lk),Sound (λr:aa Lk=>r=some bu) c (wb c w (tabS KT x y)) I n (run jR W n))(pL:∀f wr,Il W n sc t bd (stH f [] wr (.tok 1) (.tok 2))=some ⟨true,.fuel f,[],.tok 1,.tok 2,iA wr⟩){x y:D}:je c w I KT n sc t bd [] x y 0 0 (.good x y):=by
 intro Y F C X f m s R' dM gg gh hk hl hm hb aq hd hf
 have pl:∀z∈([]:G D),bC z=true:=λz hz=>nomatch hz
 have C':=oq (aJ:=tabS KT x y) aq rfl rfl (λ_ _ _=>iw pl) (gA _) (by rw [dZ];exact hm) (ry (i:=1) (y:=y) gg (.inr rfl) rfl) (ry (i:=2) (y:=x) gh (.inr rfl) rfl)
 rw [dZ] at C'
 have cS:=pL f (di m .any)
 have BJ:∀{ao M},bh (eI ⟨sc,.none⟩ X) C s.heap ao M->bh (ownOf X) C s.heap C M:=λst=>⟨mT _,st.keep,λb E e n=>⟨(st.out b E e n).1,n⟩⟩
 refine whl_turn (ae:=λr:aa Lk=>r=some ⟨true,.fuel f,[],.tok 1,.tok 2,iA (di m D.any)⟩) (w:=wb c w (tabS KT x y)) (AY:=λo=>lH true o) (sW:=λ_ _ _=>.none) (gp x y _).ex (gp x y _).fe C' cS (λao M tk br st hh S' G'=>?_) (λao M tk br cy st hh S' G'=>nomatch hh) (λao M tk br cy m v st hh S' _ x=>nomatch hh)
 .refine xA (s6 hh) λ_ e2=>?_
  have hR:=BC S' st.pre dM e2 rfl ⟨_,rfl⟩ (λi e=>by cases e;exact⟨_,rfl⟩) (λi e=>by cases e;exact⟨_,rfl⟩) (λ_ _ _=>.nil) (gA _) (by rw [nE,dZ];exact hm)
  have G':dm c (wb c w (tabS KT x y)) F ao M sc gY.vars X:=G'
  have C3:dm c (wb c w (aU KT)) F C s.heap sc gY.vars X:=aq.fr
  have CC:Ctx c (wb c w (tabS KT x y)) I n Y F C {s with heap:=M,toks:=tk} _ ⟨sc,.none⟩ gY X:=⟨aq.room,hR,G'.weak C3.own λi m' e=>by
   have ref:∀{j:H},j<7->∀v,VR c (wb c w (tabS KT x y)) F ao M (.ref j) v->VR c (wb c w (tabS KT x y)) F C M (.ref j) v:=by
    intro j hj v x
    refine ay x λad e r=>?_
    exact⟨ad,by rw [<-ja st.pre (dM.symm▸hj)];exact e,r⟩
   refine ay (adR e) λj hj aE=>?_;subst aE
   exact⟨_,e,ref hj⟩⟩
  have C4:=oq (aJ:=aU KT) CC rfl rfl (λ_ _ _=>.nil) (gA _) (by rw [dZ,nE,dZ];exact hm) (a':=x) (b':=y) (.fc rfl) (.fc rfl)
  rw [dZ,nE,dZ] at C4
  exact hd x y rfl f M tk (fG _) (BJ st) C4
theorem TK(gp:∀(x y:D) (bu:Lk),Sound (λr:aa Lk=>r=some bu) c (wb c w (tabS KT x y)) I n (run jR W n)){g:D}{aY subs:G D}{x y a b a' b':D}{p k q:H}{E:mf}(cS:Row W n sc t bd g a b true subs a' b' p)(sa:jQ x 1 a)(sb:jQ y 2 b)(la:Left 1 a')(lb:Left 2 b')(ps:∀m∈subs,bC m=true)(ls:subs.length<=6)(ox:cR (un x 1 a')=true)(oy:cR (un y 2 b')=true)
  (ch:je c w I KT n sc t bd (subs++aY) (un x 1 a') (un y 2 b') k q E) (pl:∀z∈g::aY,bC z=true):je c w I KT n sc t bd (g::aY) x y (k+1) (p+q) E:=by
 intro Y F C X f m s R' dM gg gh hk hl hm hb aq hd hf
 obtain⟨f,rfl⟩:∃f',f=cX f':=CJ (wH (nY (ug k) hk))
 have C':=oq (aJ:=tabS KT x y) aq rfl rfl (λ_ _ _=>iw pl) (vg hl) (by rw [dZ];exact dQ (ig ..) hm) (ry (i:=1) (y:=y) gg sa rfl) (ry (i:=2) (y:=x) gh sb rfl)
 rw [dZ] at C'
 have cS:=cS f aY (di m .any)
 rw [nE,dZ] at cS
 have yw:∀z∈subs++aY,bC z=true:=λz hz=>(dI.mp hz).elim (ps z) λh=>pl z (.tail _ h)
 have vj:(subs++aY).length+6*k<=390:=by rw [fy];exact F_ ls hl
 have mp:m+p<=400:=dQ (CF (ig p q) m) hm
 refine BH (gp x y _) C' dM cS rfl ⟨_,rfl⟩ (λi e=>by rw [xY la e];exact⟨_,rfl⟩) (λi e=>by rw [xY lb e];exact⟨_,rfl⟩) (λ_ _ _=>iw yw) (vg vj) mp (λ_ M tk st C3=>?_) (λe=>nomatch e)
 have C4:=oq (aJ:=aU KT) C3 rfl rfl (λ_ _ _=>iw yw) (vg vj) (by rw [dZ];exact mp) (yI (x:=x) la rfl) (yI (x:=y) lb rfl)
 rw [dZ] at C4
 refine ch Y F C X f (m+p) {s with heap:=M,toks:=tk} R' dM ox oy (Jv hk) vj (ph m p q▸hm) (λR B x' y' e=>(ph m p q).trans (hb R B x' y' e)) C4 (λx' y' e f' h2 bS lf bp C5=>?_) (λR jl x' y' e f' bf h2 bS lf bp G5 S5=>?_)
 .rw [ph] at C5
  exact hd x' y' e f' h2 bS (n4 lf) (st.trans bp) C5
 .exact hf R jl x' y' e f' bf h2 bS (n4 lf) (st.trans bp) G5 S5
theorem TH(gp:∀(x y:D) (bu:Lk),Sound (λr:aa Lk=>r=some bu) c (wb c w (tabS KT x y)) I n (run jR W n)){g:D}{aY subs:G D}{x y a b a' b':D}{p:H}(cS:Row W n sc t bd g a b false subs a' b' p)(sa:jQ x 1 a)(sb:jQ y 2 b)(la:Left 1 a')(lb:Left 2 b')(ps:∀m∈subs,bC m=true)(ls:subs.length<=6)
  (pl:∀z∈g::aY,bC z=true):je c w I KT n sc t bd (g::aY) x y 1 p (.bad [] (subs++aY) (un x 1 a') (un y 2 b')):=by
 intro Y F C X f m s R' dM gg gh hk hl hm hb aq hd hf
 obtain⟨f,rfl⟩:∃f',f=cX f':=CJ (wH hk)
 have C':=oq (aJ:=tabS KT x y) aq rfl rfl (λ_ _ _=>iw pl) (vg hl) (by rw [dZ];exact dQ (ig ..) hm) (ry (i:=1) (y:=y) gg sa rfl) (ry (i:=2) (y:=x) gh sb rfl)
 rw [dZ] at C'
 have cS:=cS f aY (di m .any)
 rw [nE,dZ] at cS
 have yw:∀z∈subs++aY,bC z=true:=λz hz=>(dI.mp hz).elim (ps z) λh=>pl z (.tail _ h)
 have vj:(subs++aY).length<=400:=by rw [fy];exact vg (F_ (k:=0) ls hl)
 refine BH (gp x y _) C' dM cS rfl ⟨_,rfl⟩ (λi e=>by rw [xY la e];exact⟨_,rfl⟩) (λi e=>by rw [xY lb e];exact⟨_,rfl⟩) (λ_ _ _=>iw yw) vj hm (λe=>nomatch e) (λ_ M tk st G3 S3=>?_)
 have S4:=BQ (aJ:=aU KT) S3 rfl rfl (λ_ _ _=>iw yw) vj (by rw [dZ];exact hm) (yI (x:=x) la rfl) (yI (x:=y) lb rfl)
 rw [dZ,show m+p=0 from hb _ _ _ _ rfl] at S4
 exact hf _ _ _ _ rfl f C M tk (fG _) st (G3.bare G3.own) S4
theorem chain_last(C6:∀(x y:D) (bu:Lz),Sound (λr:aa Lz=>r=some bu) c (wb c w (tabS KT x y)) I n (run zH W n)){gs aY lf:G D}{R:G (G D)}{x y a b a' b':D}{k:H}(cS:CW W n sc t bd gs a b k R lf a' b')(sa:jQ x 1 a)(sb:jQ y 2 b)(la:Left 1 a')(lb:Left 2 b')(ps:∀m∈lf,bC m=true)(ls:lf.length<=6)(pe:∀e∈R,(∀m∈e,bC m=true)/\e.length<=6)(le:R.length<=2)
  (pl:∀z∈gs++aY,bC z=true):je c w I KT n sc t bd (gs++aY) x y k 0 (.bad (R.map λe=>e++aY) (lf++aY) (un x 1 a') (un y 2 b')):=by
 intro Y F C X f m s R' dM gg gh hk hl hm hb aq hd hf
 obtain⟨f,rfl⟩:∃f',f=f'+k:=Nat.exists_eq_add_of_le' hk
 have Xc:m=0:=hb _ _ _ _ rfl
 subst Xc
 have C':=oq (aJ:=tabS KT x y) aq rfl rfl (λ_ _ _=>iw pl) (vg hl) (by rw [dZ];exact gA _) (ry (i:=1) (y:=y) gg sa rfl) (ry (i:=2) (y:=x) gh sb rfl)
 have pr:∀z∈aY,bC z=true:=λz hz=>pl z (fC _ hz)
 refine(C6 x y _).iO _ _ _ _ _ _ _ _ _ _ _ _ C' (cS f aY) λfw ao M tk st pf=>?_
 obtain⟨g,cy,br,hh,S',G',fl⟩:=pf
 cases g with
 |next=>nomatch hh
 |ret v=>
  refine ay fl ?_;clear fl;intro v' aI xv;subst aI
  cases v with
  |none=>
   subst xv
   have G':dm c (wb c w (tabS KT x y)) F ao M sc cy.vars X:=G'
   have SW:=afn (aJ:=aU KT) (ca:=un x 1 a') (cb:=un y 2 b') S' st.pre dM hh rfl ⟨_,rfl,rfl⟩ (λi e=>Pw la e rfl) Pu (λi e=>Pw lb e rfl) Pu (λm hm=>(dI.mp hm).elim (ps m) (pr m)) (by rw [fy];exact Ni ls (fy▸hl)) (λe he=>by
    refine ay (cF.mp he) λe0 h0 aE=>?_;subst aE
    have:=(pe e0 h0).2
    exact⟨λm hm=>(dI.mp hm).elim ((pe e0 h0).1 m) (pr m),by rw [fy];exact Ni this (fy▸hl)⟩) (by rw [cZ];exact le)
   refine fM SW ?_;clear SW;intro yW pre sub SW
   exact hf _ _ _ _ rfl f yW M tk (fG _) ⟨pre,st.keep,λb E e n=>⟨(st.out b E e n).1,λq=>(st.out b E e n).2 (sub b q)⟩⟩ (G'.bare G'.own) SW
  |_=>nomatch hh
theorem TJ(gp:∀(x y:D) (bu:Lk),Sound (λr:aa Lk=>r=some bu) c (wb c w (tabS KT x y)) I n (run jR W n))(C6:∀(x y:D) (bu:Lz),Sound (λr:aa Lz=>r=some bu) c (wb c w (tabS KT x y)) I n (run zH W n))
  (pL:∀f wr,Il W n sc t bd (stH f [] wr (.tok 1) (.tok 2))=some ⟨true,.fuel f,[],.tok 1,.tok 2,iA wr⟩):
  ∀{left:G D} {x y:D} {k p:H} {E:mf},Chain W n sc t bd left x y k p E->(∀z∈left,bC z=true)->je c w I KT n sc t bd left x y k p E:=by
 intro left x y k p E ch
 induction ch with
 |done=>exact λ_=>TG gp pL
 |turn cS sa sb la lb ps ls ox oy _ O=>exact λpl=>TK gp cS sa sb la lb ps ls ox oy (O λz hz=>(dI.mp hz).elim (ps z) λh=>pl z (.tail _ h)) pl
 |fail cS sa sb la lb ps ls=>exact TH gp cS sa sb la lb ps ls
 |last cS sa sb la lb ps ls pe le=>exact chain_last C6 cS sa sb la lb ps ls pe le
end
section
variable{c:a_}{w:dF}{Y:bG}{F C ao:G aA}{s:aT}{I h M:aP}{o br:MH}{K:b8}{W WE:bQ}{mg mb:ar->aa aw}{n:H}{X:cL}{aL aQ aJ:H->aa D}
 {sc:G (ar×dc)} {t:aX} {bd rs:G en} {f:H} {left wr:G D} {a b a' b' KT:D}
inductive Ends(g9:D->Prop)(c:a_)(w:dF)(I:aP)(KT:D)(WE:bQ)(n:H)(sc:G (ar×dc))(t:aX)(bd rs:G en)(left:G D)(x y:D)(k p:H):mf->Prop
 |good {x' y':D}:je c w I KT n sc t bd left x y k p (.good x' y')->cR x'=true->cR y'=true->g9 y'->(∀f wr,v8 WE n sc rs (stH f [] wr x' (.tok 2))=some ⟨true,.fuel f,[],x',.tok 2,iA wr⟩)->Ends g9 c w I KT WE n sc t bd rs left x y k p (.good x' y')
 |MX {x' y':D}:je c w I KT n sc t bd left x y k p (.good x' y')->cR x'=true->cR y'=true->g9 y'->(∀f wr,v8 WE n sc rs (stH f [] wr x' (.tok 2))=some ⟨false,.fuel f,[],x',.tok 2,iA wr⟩)->Ends g9 c w I KT WE n sc t bd rs left x y k p (.bad [] [] x' y')
 |fail {R:G (G D)} {l':G D} {x' y':D}:je c w I KT n sc t bd left x y k p (.bad R l' x' y')->Ends g9 c w I KT WE n sc t bd rs left x y k p (.bad R l' x' y')
noncomputable def zy(c:a_)(w:dF)(I:aP)(KT:D)(F C:G aA)(fb m:H)(E:mf)(v:aw)(h:aP):Prop:=match E with
 |.good x y=>(∃a,C[3]?=some a/\v=.ref a)/\∃f,fb<=f/\St c (wb c w (aU KT)) I F C (stH f [] (di m .any) x y) h
 |.bad R left x y=>v=.none/\∃f,fb<=f/\St c (wb c w (aU KT)) I F C (oW f left R x y) h
theorem agZ(hp:C<+:ao)(hl:ao.length=C.length):ao=C:=by
 refine bw hp ?_;clear hp;intro t aI;subst aI
 rw [fy] at hl
 have:t=[]:=Jf (by lia)
 rw [this,h_]
noncomputable def R1(fb m:H)(oc:mf)(u:D)(o:MH):Prop:=match oc with
 |.good x y=>u=.ref 3/\∃f,fb<=f/\o=stH f [] (di m .any) x y
 |.bad R B x y=>u=.none/\∃f,fb<=f/\o=oW f B R x y
theorem adg(T:Top c (wb c w (aU KT)) K W I mg mb)(Fi:nX c (wb c w (aU KT)) I 277 az E fd dv)(hG:az.body=.While t bd [] wp::rs)(Xm:az.sc=sc)(Xq:tI az [.ref 0,.ref 2,.ref 3,.ref 6]=some gY.vars)
  (R_:∀(x y:D) (bu:Lk),cR y=true->g9 y->Sound (λr:aa Lk=>r=some bu) c (wb c w (tabS KT x y)) I n (run jR WE n))
  (ch:Ends g9 c w I KT WE n sc t bd rs left x y k p oc) (gg:cR x=true) (gh:cR y=true) (hk:fb+k<=f) (hl:left.length+6*k<=390) (hm:m+p<=400) (hb:∀R B x' y',oc=.bad R B x' y'->m+p=0)
  (room:eY (n+1) Y) (S:St c (wb c w (aU KT)) I F C (stH f left (di m .any) x y) s.heap) (e0:C[0]?=some a0) (e2:C[2]?=some a2) (e3:C[3]?=some a3) (e6:C[6]?=some a6):
  bc c (wb c w (aU KT)) Y [] C s (call (.ref 277) [.ref a0,.ref a2,.ref a3,.ref a6]) (λv ao M=>C<+:ao/\zy c w I KT F ao fb (m+p) oc v M):=by
 intro Q au q
 have dM:C.length=7:=S.len.symm
 have rf:∀{i:H} {ad:aA},C[i]?=some ad->VR c (wb c w (aU KT)) F C s.heap (.ref i) (.ref ad):=λe=>by exact⟨_,e,rfl⟩
 have y0:aW c (wb c w (aU KT)) F C s.heap [.ref 0,.ref 2,.ref 3,.ref 6] [.ref a0,.ref a2,.ref a3,.ref a6]:=.cons (rf e0) (.cons (rf e2) (.cons (rf e3) (.one (rf e6))))
 refine B9 (zO (n:=n) (ag:=Prop) (ae:=λr=>r) (k:=R1 fb (m+p) oc) T Fi room.calls room.deep S y0 Xq (λs1 X C1=>?_) λv ao M tk st pv=>?_)
 .intro Q au q
  rw [hG]
  rw [Xm] at C1 q
  have C1:Ctx c (wb c w (aU KT)) I n (Y.deeper X) (ownOf X++F) C s1 (stH f left (di m .any) x y) ⟨sc,.none⟩ gY X:=C1
  have last:∀(x' y':D) (fl:ah),cR x'=true->cR y'=true->g9 y'->(∀f wr,v8 WE n sc rs (stH f [] wr x' (.tok 2))=some ⟨fl,.fuel f,[],x',.tok 2,iA wr⟩)->(fl=true->oc=.good x' y')->(fl=false->oc=.bad [] [] x' y')->∀f' M tk,fb<=f'->bh (ownOf X) C s1.heap C M->
    Ctx c (wb c w (aU KT)) I n (Y.deeper X) (ownOf X++F) C {s1 with heap:=M,toks:=tk} (stH f' [] (di (m+p) .any) x' y') ⟨sc,.none⟩ gY X->bo (bK c w) (Y.deeper X) (iH rs X) Q au {s1 with heap:=M,toks:=tk}:=by
   intro x' y' fl th ti hY cS h1 h2 f' M tk lf st C2
   have C3:=oq (aJ:=tabS KT x' y') (a':=x') (b':=.tok 2) C2 rfl rfl (λ_ _ _=>.nil) (gA _) (by rw [dZ];assumption) (.same (aN.mp th).1) (.eT (aN.mp ti).1 (aN.mp ti).2 rfl)
   rw [dZ] at C3
   have cS:=cS f' (di (m+p) .any)
   rw [nE,dZ] at cS
   refine ku (R_ x' y' _ ti hY).ex rs C _ _ gY MV C3 cS _ _ λfw dY h3 ey dp p3=>?_
   obtain⟨g,pM,hM,dX,S3,G3,sD⟩:=p3
   have hp:C<+:dY:=dp.pre
   have G3:dm c (wb c w (tabS KT x' y')) (ownOf X++F) dY h3 sc pM.vars X:=G3
   have G4:dm c (wb c w (aU KT)) (ownOf X++F) C h3 sc [] X:=G3.weak G3.own λi m' e=>by cases i<;>exact aB e
   have e_:bh (ownOf X) C s1.heap C h3:=⟨mT _,(st.trans dp).keep,λb E e nn=>⟨((st.trans dp).out b E e nn).1,nn⟩⟩
   have Lx:∀{L:Lk},lH L.fl hM=some L->L=⟨fl,.fuel f',[],x',.tok 2,m+p⟩->St c (wb c w (aU KT)) I (ownOf X++F) C (stH f' [] (di (m+p) .any) x' y') h3:=by
    intro L e1 e2
    subst e2
    refine xA (s6 e1) λ_ sw=>?_
    have S4:=BC S3 hp dM sw rfl ⟨_,rfl⟩ (λi e=>by dsimp only at e;subst e;cases(aN.mp th).1) (λi e=>by cases e;exact⟨_,rfl⟩) (λ_ _ _=>.nil) (gA _) (by dsimp only;assumption)
    have S5:=BQ (aJ:=aU KT) (a':=x') (b':=y') S4 rfl rfl (λ_ _ _=>.nil) (gA _) (by rw [dZ];dsimp only;assumption) (.same (aN.mp th).1) (.fc rfl)
    rw [dZ] at S5
    exact S5
   cases g with
   |next=>exact aB dX
   |ret u=>
    obtain⟨v,rfl,xv⟩:∃v,fw=.ret v/\VR c (wb c w (tabS KT x' y')) (ownOf X++F) dY h3 u v:=sD
    cases u with
    |none=>
     have dX:lH false hM=some ⟨fl,.fuel f',[],x',.tok 2,m+p⟩:=dX
     have e4:=(s6 dX).1
     dsimp only at e4
     subst e4
     have S5:=Lx (L:=⟨false,.fuel f',[],x',.tok 2,m+p⟩) dX rfl
     subst xv
     refine q _ C h3 ey e_ ⟨.ret .none,⟨[],[]⟩,_,?_,S5,G4,_,rfl,by rfl⟩
     rw [h2 rfl]
     exact⟨rfl,_,lf,by rw [hb _ _ _ _ (h2 rfl)];rfl⟩
    |ref i=>
     have dX:(match bA i 3 with|true=>lH true hM|false=>.none)=some (⟨fl,.fuel f',[],x',.tok 2,m+p⟩:Lk):=dX
     refine xA (bI dX) λJ dX=>?_
     have ei:=dU J
     subst ei
     have e4:=(s6 dX).1
     dsimp only at e4
     subst e4
     have S5:=Lx (L:=⟨true,.fuel f',[],x',.tok 2,m+p⟩) dX rfl
     refine ay xv ?_;clear xv;intro ad e5 aE;subst aE
     rw [ja hp (by lia)] at e5
     refine q _ C h3 ey e_ ⟨.ret (.ref 3),⟨[],[]⟩,_,?_,S5,G4,_,rfl,by exact⟨ad,e5,rfl⟩⟩
     rw [h1 rfl]
     exact⟨rfl,_,lf,rfl⟩
    |_=>exact aB dX
  have bad:∀R jl x' y',oc=.bad R jl x' y'->∀f' ao M tk,fb<=f'->bh (ownOf X) C s1.heap ao M->dm c (wb c w (aU KT)) (ownOf X++F) ao M sc [] X->St c (wb c w (aU KT)) I (ownOf X++F) ao (oW f' jl R x' y') M->Q (.ret .none) {s1 with heap:=M,toks:=tk}:=by
   intro R jl x' y' ho f' ao M tk lf st G2 S2
   refine q _ ao M tk st ⟨.ret .none,⟨[],[]⟩,_,?_,S2,G2,_,rfl,by rfl⟩
   rw [ho]
   exact⟨rfl,_,lf,rfl⟩
  refine wpAny_execs_cons (wpAny_While ?_)
  cases ch with
  |good ch th ti hY cS=>
   exact ch _ _ _ X f m s1 _ dM gg gh (by lia) hl hm (λ_ _ _ _ e=>nomatch e) C1 (λx' y' e f' M tk lf st C2=>by cases e;exact last _ _ true th ti hY cS (λ_=>rfl) (λe=>nomatch e) f' M tk (by lia) st C2) (λ_ _ _ _ e=>nomatch e)
  |MX ch th ti hY cS=>
   exact ch _ _ _ X f m s1 _ dM gg gh (by lia) hl hm (λ_ _ _ _ e=>nomatch e) C1 (λx' y' e f' M tk lf st C2=>by cases e;exact last _ _ false th ti hY cS (λe=>nomatch e) (λ_=>rfl) f' M tk (by lia) st C2) (λ_ _ _ _ e=>nomatch e)
  |fail ch=>
   exact ch _ _ _ X f m s1 _ dM gg gh (by lia) hl hm hb C1 (λx' y' e=>nomatch e) (λR jl x' y' e f' ao M tk lf st G2 S2=>by cases e;exact bad _ _ _ _ rfl f' ao M tk (by lia) st G2 S2)
 .obtain⟨u,bM,my,S1,x1⟩:=pv
  refine q v _ M tk st ⟨st.pre,?_⟩
  cases oc with
  |bad R B x y=>
   obtain⟨rfl,f1,lf,rfl⟩:=my
   exact⟨x1,_,lf,S1⟩
  |good x y=>
   obtain⟨rfl,f1,lf,rfl⟩:=my
   refine ay x1 ?_;clear x1;intro ad e5 aE;subst aE
   exact⟨⟨ad,e5,rfl⟩,_,lf,S1⟩
end
section
variable{c:a_}{w:dF}{Y:bG}{F C ao:G aA}{s:aT}{I h M:aP}{o br:MH}{K:b8}{W WF:bQ}{mg mb:ar->aa aw}{n:H}{X:cL}{aL aQ aJ fL:H->aa D}
 {sc:G (ar×dc)} {t:aX} {bd rs:G en} {f:H} {left wr:G D} {a b a' b' KT:D}
noncomputable def cE(aQ aJ:H->aa D)(B l':G D):Prop:=∀(o:MH) (β:H->aa H) (FZ:H->Prop),cG aQ aJ o β FZ B l'
theorem VC(C0:∀bu:Lk,Sound (λr:aa Lk=>r=some bu) c (wb c w fL) I n (run jR WF n))(t0:fL 0=some KT)(t1:fL 1=some x)(t2:fL 2=some y)
  (cS:∀f wr,turn WF n sc t bd (stH (cX f) [g'] wr (.tok 1) (.tok 2))=some ⟨true,.fuel f,lX,.tok 1,.tok 2,iA wr⟩) (cg:cE (aU KT) fL [g] [g']) (cs:cE fL fL lX lX) (cb:cE fL (aU KT) lX subs) (Ay:subs.length<=6)
  (L:je c w I KT n sc t bd subs x y k p E):je c w I KT n sc t bd [g] x y (k+1) p E:=by
 intro Y F C X f m s R' dM gg gh hk hl hm hb aq hd hf
 refine bw (CJ (wH (nY (ug k) hk))) λf aI=>?_;subst aI
 have kx:=aN.mp gg
 have ky:=aN.mp gh
 have Aw:lX.length<=6:=by rw [<-(cb ⟨.nil,0⟩ (λ_=>.none) (λ_=>dP)).length];exact Ay
 have ml:lX.length<=400:=dQ Aw (by decide)
 have mm:m<=400:=dQ (ig ..) hm
 have C':=oq (aJ:=fL) aq rfl t0 cg (n4 (gA 399)) (by rw [dZ];exact mm) (.eT kx.1 kx.2 t1) (.eT ky.1 ky.2 t2)
 rw [dZ] at C'
 have cS:=cS f (di m .any)
 rw [nE,dZ] at cS
 refine BH (C0 _) C' dM cS rfl ⟨_,t0⟩ (λi e=>by cases e;exact⟨_,t1⟩) (λi e=>by cases e;exact⟨_,t2⟩) cs ml mm (λ_ M tk st C3=>?_) (λe=>nomatch e)
 have C4:=oq (aJ:=aU KT) C3 t0 rfl cb ml (by rw [dZ];exact mm) (.fc t1) (.fc t2)
 rw [dZ] at C4
 refine L Y F C X f m {s with heap:=M,toks:=tk} R' dM gg gh (Jv hk) (F_ (r:=0) Ay hl) hm hb C4 (λx' y' e f' h2 bS lf bp C5=>?_) (λR jl x' y' e f' bf h2 bS lf bp G5 S5=>?_)
 .exact hd x' y' e f' h2 bS (n4 lf) (st.trans bp) C5
 .exact hf R jl x' y' e f' bf h2 bS (n4 lf) (st.trans bp) G5 S5
theorem VA(C0:∀bu:Lk,Sound (λr:aa Lk=>r=some bu) c (wb c w fL) I n (run jR WF n))(t0:fL 0=some KT)(t1:fL 1=some x)(t2:fL 2=some y)
  (cS:∀f wr,turn WF n sc t bd (stH (cX f) [g'] wr (.tok 1) (.tok 2))=some ⟨false,.fuel f,lX,.tok 1,.tok 2,iA wr⟩) (cg:cE (aU KT) fL [g] [g']) (cs:cE fL fL lX lX) (cb:cE fL (aU KT) lX subs) (Ay:subs.length<=6):
  je c w I KT n sc t bd [g] x y 1 0 (.bad [] subs x y):=by
 intro Y F C X f m s R' dM gg gh hk hl hm hb aq hd hf
 refine bw (CJ (wH hk)) λf aI=>?_;subst aI
 have kx:=aN.mp gg
 have ky:=aN.mp gh
 have Aw:lX.length<=6:=by rw [<-(cb ⟨.nil,0⟩ (λ_=>.none) (λ_=>dP)).length];exact Ay
 have ml:lX.length<=400:=dQ Aw (by decide)
 have mm:m<=400:=dQ (ig ..) hm
 have C':=oq (aJ:=fL) aq rfl t0 cg (n4 (gA 399)) (by rw [dZ];exact mm) (.eT kx.1 kx.2 t1) (.eT ky.1 ky.2 t2)
 rw [dZ] at C'
 have cS:=cS f (di m .any)
 rw [nE,dZ] at cS
 refine BH (C0 _) C' dM cS rfl ⟨_,t0⟩ (λi e=>by cases e;exact⟨_,t1⟩) (λi e=>by cases e;exact⟨_,t2⟩) cs ml mm (λe=>nomatch e) (λ_ M tk st G3 S3=>?_)
 have S4:=BQ (aJ:=aU KT) S3 t0 rfl cb ml (by rw [dZ];exact mm) (.fc t1) (.fc t2)
 rw [dZ,show m=0 from hb _ _ _ _ rfl] at S4
 exact hf _ _ _ _ rfl f C M tk (fG _) st (G3.bare G3.own) S4
end
section
variable{c:a_}{w:dF}{Y:bG}{F C ao F2 bf:G aA}{s:aT}{I h M:aP}{o br dz q6:MH}{K:b8}{W WE:bQ}{mg mb:ar->aa aw}{n:H}{X:cL}{aL aQ aJ:H->aa D}
theorem St.frame(S:St c (wb c w aL) I F C o h)(st:bh [] bf h dY M)(S2:St c (wb c w aJ) I F2 dY dz M)(e3:dY=bf++e)(h2:∀a∈bf,a∈C)(hF:∀a∈F,a∈F2)(Mm:∀a∈C,a∉bf->a∈F2)(len:q6.n=o.n+e.length)
  (ji:∀j i a,β j=some i->dY[j]?=some a->(C++e)[i]?=some a)
  (pl:∀i a,(C++e)[i]?=some a->(C[i]?=some a/\a∉bf/\q6.t.get i=o.t.get i)\/(∃j E o2,dY[j]?=some a/\dz.t.get j=some E/\q6.t.get i=some o2/\gR aJ aL dz β (λ_=>dP) E o2)):bh [] C h (C++e) M/\St c (wb c w aL) I F (C++e) q6 M:=by
 have keep:∀b E,h.get? b=some E->b∉bf->M.get? b=some E:=λb E e n=>st.keep b E e n λq=>nomatch q
 have AM:∀a∈e,a∈dY:=λa ha=>by rw [e3];exact fC _ ha
 have new:∀a∈e,a∉C:=λa ha q=>by
  by_cases z:a∈bf
  .have nd:=S2.apart
   rw [e3] at nd
   exact(wC.mp nd).2.2 a z a ha rfl
  .exact(S2.cI a (Mm a q z)).2.1 (AM a ha)
 have Gp:∀a E,h.get? a=some E->a∉e:=λa E ho q=>by
  by_cases z:a∈bf
  .exact new a q (h2 a z)
  .exact(st.out a E ho z).2 (AM a q)
 have Gl:e.Nodup:=by
  have nd:=S2.apart
  rw [e3] at nd
  exact(wC.mp nd).2.1
 refine⟨⟨wD ..,λb E e n _=>keep b E e λq=>n (h2 b q),λb E ho n=>⟨⟨E,keep b E ho λq=>n (h2 b q)⟩,λq=>(dI.mp q).elim n (Gp b E ho)⟩⟩,⟨λb E e=>⟨(S2.keep b E e).1,λq=>(dI.mp q).elim (S.keep b E e).2 λz=>(S2.keep b E e).2 (AM b z)⟩,by rw [len,S.len,fy],?_,λa ha=>?_,λi a e=>?_⟩⟩
 .rw [wC]
  exact⟨S.apart,Gl,λa ha b hb q=>new b hb (q▸ha)⟩
 .obtain⟨⟨E,ho⟩,q2,q3⟩:=S.cI a ha
  exact⟨⟨E,keep a E ho λq=>q2 (h2 a q)⟩,λq=>(dI.mp q).elim q2 (Gp a E ho),q3⟩
 .rcases pl i a e with⟨q0,q1,q2⟩|⟨j,E,o2,e1,e2,e4,J⟩
  .refine ay (S.at_ i a q0) λE ho x=>?_
   refine bw x.some λob AE=>?_
   exact⟨E,q2.trans ho,tj (λb ob e sf=>⟨keep b ob e λq=>sf.2 (h2 b q),sf.1,λq=>(dI.mp q).elim sf.2 (Gp b ob e)⟩) (λi b e=>by rw [iD (eM.mp e).1];exact e) ((keep a ob AE q1).trans AE.symm) x⟩
  .refine⟨o2,e4,J.ok S2 ji (λb ob _ sf=>⟨λq=>sf.1 (hF b q),λq=>?_⟩) (λ_ _ q=>q.elim) (S2.ref e1 e2)⟩
   refine dC (dI.mp q) (λq=>?_) λq=>?_
   .by_cases z:b∈bf
    .exact sf.2 (by rw [e3];exact iR _ z)
    .exact sf.1 (Mm b q z)
   .exact sf.2 (AM b q)
structure Raw(o:MH)(args:G D)(s sd B e dd r u:H):Prop where
 args:args=[.ref s,.ref B,.ref e,.ref u]
 p0:o.t.get s=some (.inst 338 sd)
 p1:o.t.get sd=some (.dict [(.str nD,.tok 0),(.str nB,.int 4000)])
 p2:∃b,o.t.get B=some (.list b [.tup [.str ⟨⟨[115,117,98]⟩⟩,.tok 10,.tok 11]])
 p3:o.t.get e=some (.inst 200 dd)
 p4:o.t.get dd=some (.dict [(.str eH,.ref r),(.str eG,.int 2)])
 p5:o.t.get r=some (.dict [(.str eE,.tok 1),(.str eD,.tok 2)])
 p6:∃b,o.t.get u=some (.list b [])
 nd:[s,sd,B,e,dd,r,u].Nodup
 lt:∀i∈[s,sd,B,e,dd,r,u],i<o.n
theorem lF(e:gO j v=true):v=.tok j:=by
 cases v with
 |tok i=>rw [dU (e:bA i j=true)]
 |_=>exact bz e
theorem b7{α:Type}{f:α->ah}{B:G α}(e:allB f B=true):∀q∈B,f q=true:=by
 induction B with
 |nil=>exact λ_ h=>nomatch h
 |cons a B O=>exact λq hq=>(bY.mp hq).elim (λz=>z▸bx e) (O (bL e) q)
theorem MC(e:AS m=true):m=.none:=by
 cases m with
 |none=>rfl
 |_=>exact bz e
theorem X5(e:Fo b m=true):m=.bool b:=by
 cases m with
 |bool J=>cases b<;>cases J<;>first|rfl|exact bz e
 |_=>exact bz e
theorem X7(e:Fq i m=true):m=.fn i:=by
 cases m with
 |fn j=>rw [dU (e:bA j i=true)]
 |_=>exact bz e
theorem aa8(e:yo f m=true):∃B,m=.tup B/\f B=true:=by
 cases m with
 |tup B=>exact⟨B,rfl,e⟩
 |_=>exact bz e
theorem ac4(B:G D):cT B=@D.rec_1 (λ_=>D->ah) (λ_=>G D->ah) AS Fo oH xU (λ_ f=>yo f) kM Fq (λ_ _=>false) (λ_ _=>false) (λ_ _ _ _=>false) (λ_=>false) gO Hs (λ_ _ f g=>Bx f g) B:=by
 induction B with
 |nil=>rfl
 |cons a B O=>exact cq (Bx (eW a)) O
theorem ac7(B:G D):eW (.tup B)=yo (cT B):=cq yo (ac4 B).symm
theorem Ot(h:∀a∈B,∀b,eW a b=true->a=b):∀{m:G D},cT B m=true->B=m:=by
 induction B with
 |nil=>
  intro m e
  cases m with
  |nil=>rfl
  |cons=>exact bz e
 |cons a B O=>
  intro m e
  cases m with
  |nil=>exact bz e
  |cons b m=>rw [h a (.head _) b (bx e),O (λa ha=>h a (.tail _ ha)) (bL e)]
theorem iK:eW a b=true->a=b:=
 D.ind (P:=λa=>∀b,eW a b=true->a=b) (λ_ e=>(MC e).symm) (λ_ _ e=>(X5 e).symm) (λ_ _ e=>(sS e).symm) (λ_ _ e=>(FG e).symm)
  (λB O b e=>by
   rw [ac7] at e
   refine ay (aa8 e) λm aI e=>?_;rw [aI]
   rw [Ot O e])
  (λ_ _ e=>(sR e).symm) (λ_ _ e=>(X7 e).symm) (λ_ _ e=>bz e) (λ_ _ e=>bz e) (λ_ _ _ _ e=>bz e) (λ_ e=>bz e) (λ_ _ e=>(lF e).symm) a b
theorem eu(e:cT B m=true):B=m:=Ot (λ_ _ _=>iK) e
theorem acq{args:G D}{is:G H}(e:Of args o=some is):∃s sd B f dd r u,is=[s,sd,B,f,dd,r,u]/\Raw o args s sd B f dd r u:=by
 refine xA (jA e) λw7 aI=>?_;subst aI
 have w6:=bx w7
 have w4:=bx w6
 have w3:=bx w4
 have wZ:=bx w3
 have pE:=bx wZ
 have nk:=bx pE
 have nj:=bx nk
 have nh:=bx nj
 have c9:=bx nh
 have c8:=bx c9
 have c7:=bx c8
 have c6:=bx c7
 have c5:=bx c6
 have c4:=bx c5
 have c3:=bx c4
 have c2:=bx c3
 have l1:∃b,_:=sX (bL pE)
 have l2:∃b,_:=sX (bL w3)
 rw [eu (bL wZ)] at l1
 rw [eu (bL w4)] at l2
 exact⟨_,_,_,_,_,_,_,rfl,eu (bx c2),u4 (bL c2),ou (bL c4) (xS (bL c5)) (sS (bL c6)),l1,u4 (bL c3),ou (bL c7) (sR (bL c8)) (sS (bL c9)),ou (bL nh) (lF (bL nj)) (lF (bL nk)),l2,Gm (bL w6),λi hi=>dw (b7 (bL w7) i hi)⟩
end
section
variable{c:a_}{w:dF}{Y:bG}{F C ao F2 bf:G aA}{s:aT}{I h M:aP}{o br dz q6:MH}{K:b8}{W WE:bQ}{mg mb:ar->aa aw}{n:H}{X:cL}{aL aQ aJ:H->aa D}
theorem picked{is:G H}(nd:C.Nodup)(ni:is.Nodup)(sL:∀(j:H) (a:aA),bf[j]?=some a->∃i:H,is[j]?=some i/\C[i]?=some a):bf.Nodup:=by
 rw [List.Nodup,Cz]
 intro i j hi hj uQ e
 refine ay (sL i _ (cV hi)) λi' e1 e2=>?_
 refine ay (sL j _ (cV hj)) λj' e3 e4=>?_
 rw [e] at e2
 refine bw (eM.mp e2) λl1 l2=>?_
 refine bw (eM.mp e4) λl3 l4=>?_
 have q:=(rK (h₀:=l1) (h₁:=l3) nd).mp (l2.trans l4.symm)
 subst q
 refine bw (eM.mp e1) λl5 l6=>?_
 refine bw (eM.mp e3) λl7 l8=>?_
 have:=(rK (h₀:=l5) (h₁:=l7) ni).mp (l6.trans l8.symm)
 lia
theorem qe(nd:C.Nodup){i j:H}(e1:C[i]?=some a)(e2:C[j]?=some a):i=j:=by
 refine bw (eM.mp e1) λl1 l2=>?_
 refine bw (eM.mp e2) λl3 l4=>?_
 exact(rK (h₀:=l1) (h₁:=l3) nd).mp (l2.trans l4.symm)
noncomputable def tp(is:G H)(n j:H):aa H:=if j<7 then is[j]? else some (n+(j-7))
theorem BX(n i:H):n+(i+3)=n+3+i:=(ph n i 3).symm.trans (Jt n i 3)
theorem XT:∀{t t':MT} {n:H},AP B t n=some t'->(∀i,i<n\/n+B.length<=i->t'.get i=t.get i)/\∀d,d<B.length->t'.get (n+d)=B[d]?:=by
 induction B with
 |nil=>exact λe=>aM e▸⟨λ_ _=>rfl,λd h=>bP h (zp d)⟩
 |cons E B O=>
  intro t t' n e
  have e':@bN (λ_=>aa MT) .none (AP B (t.ins n E) (cX n)) (cK ((t.ins n E).get n))=some t':=e
  cases J:cK ((t.ins n E).get n) with
  |false=>rw [J] at e';exact aB e'
  |true=>
   rw [J] at e'
   refine xA (O e') λh1 h2=>?_
   have g:=MT.get_ins E t n (by cases z:(t.ins n E).get n with
    |none=>rw [z] at J;exact bz J
    |some _=>rfl)
   refine⟨λi hi=>?_,λd=>?_⟩
   .have hi:i<n\/n+B.length+1<=i:=hi
    rw [h1 i (hi.imp Jy (λh=>by rw [Nat.succ_add];exact h)),g,bl (λz=>hi.elim (λh=>rU h z) λh=>wH (nY (rT (ig ..)) h) z)]
   .cases d with
    |zero=>exact λ_=>(h1 n (.inl (Rg _))).trans ((g n).trans (bT rfl))
    |succ d=>exact λhd=>by rw [<-Rv];exact h2 d (Jx hd)
theorem UD:(∀e∈R,(∀m∈e,bC m=true)/\e.length<=400)->∀{n n':H},(∀i,i<3*R.length->β (n+i)=some (n'+i))->∀(d:H) (E:cJ),(eL R n)[d]?=some E->∃o2,(eL R n')[d]?=some o2/\gR aQ aJ o β FZ E o2:=by
 induction R with
 |nil=>exact λ_ _ _ _ _ _ e=>nomatch e
 |cons g R O=>
  intro pe n n' hb d
  refine match d with
  |0=>λE e=>aM e▸⟨_,rfl,.list (iw (pe g (.head _)).1) (pe g (.head _)).2 (by decide)⟩
  |1=>λE e=>aM e▸⟨_,rfl,.inst (hb 2 (ud 3 (3*R.length)))⟩
  |2=>λE e=>aM e▸⟨_,rfl,.dict (dD:=[(.str eH,.any),(.str eG,.any)]) rfl (.cons .any (.cons .any .nil))⟩
  |d+3=>O (λe he=>pe e (.tail _ he)) (n:=n+3) (n':=n'+3) (λi hi=>(BX n i▸BX n' i▸hb (i+3) (Ra hi 3))) d
theorem afl(cb:cG aQ aJ o β FZ b b):∀{n n':H},(∀i,i<3*R.length->β (n+i)=some (n'+i))->cG aQ aJ o β FZ (wE R b n) (wE R b n'):=by
 induction R with
 |nil=>exact λ_=>cb
 |cons g R O=>
  intro n n' hb
  exact .cons (.tup (.cons (.ref (hb 0 (Nat.zero_lt_of_lt (ud 3 (3*R.length))))) (.cons (.ref (hb 1 (dQ (by decide) (ud 3 (3*R.length))))) .nil))) (O (n:=n+3) (n':=n'+3) λi hi=>(BX n i▸BX n' i▸hb (i+3) (Ra hi 3)))
theorem PN(b:G D):∀(R:G (G D)) (n:H),(wE R b n).length=R.length+b.length
 |[],_=>(uh _).symm
 |g::R,n=>by show(wE R b (n+3)).length+1=R.length+1+b.length;rw [PN b R];lia
noncomputable def i_(C:G aA)(is:G H):G aA:=is.filterMap λi=>C[i]?
theorem rg:(∀i∈is,i<C.length)->∀{j i:H} {a:aA},is[j]?=some i->C[i]?=some a->(i_ C is)[j]?=some a:=by
 induction is with
 |nil=>exact λ_ _ _ _ e=>nomatch e
 |cons b is O=>
  intro h j i a e e2
  obtain⟨x,hx⟩:∃x,C[b]?=some x:=⟨_,cV (h b (.head _))⟩
  have hc:i_ C (b::is)=x::i_ C is:=by unfold i_;rw [ze,hx]
  rw [hc]
  cases j with
  |zero=>
   rw [<-aM (e:some b=some i),hx] at e2
   exact e2
  |succ j=>exact O (λi hi=>h i (.tail _ hi)) (j:=j) e e2
theorem GZ:(∀i∈is,i<C.length)->(i_ C is).length=is.length:=by
 induction is with
 |nil=>exact λ_=>rfl
 |cons b is O=>
  intro h
  unfold i_
  rw [ze,cV (h b (.head _))]
  exact cq (· +1) (O λi hi=>h i (.tail _ hi))
theorem Bo(h:∀i∈is,i<C.length){j:H}(e:(i_ C is)[j]?=some a):∃i,is[j]?=some i/\C[i]?=some a:=by
 have hj:j<is.length:=by have:=(eM.mp e).1;rwa [GZ h] at this
 have ei:is[j]?=some is[j]:=cV hj
 have er:C[is[j]]?=some (C[is[j]]'(h _ (zf hj))):=cV _
 have:=rg h ei er
 rw [e] at this
 exact⟨_,ei,er.trans this.symm⟩
theorem adf:∀{os:G cJ} {t:MT},is.Nodup->is.length=os.length->(∀i∈is,∃E,t.get i=some E)->(∀{j i:H},is[j]?=some i->(BG is os t).get i=os[j]?)/\∀i,i∉is->(BG is os t).get i=t.get i:=by
 induction is with
 |nil=>exact λ_ _ _=>⟨λe=>(nomatch e),λ_ _=>rfl⟩
 |cons a is O=>
  intro os t nd h ht
  cases os with
  |nil=>exact bP h (rV _)
  |cons E os=>
   refine xA (ic.mp nd) λn1 n2=>?_
   refine bw (ht a (.head _)) λoa ha=>?_
   have g:∀i,(t.set a E).get i=if i=a then some E else t.get i:=λi=>by rw [MT.get_set,ha];rfl
   obtain⟨h1,h2⟩:=O (t:=t.set a E) n2 (lu h) λi hi=>by
    rw [g]
    by_cases q:i=a
    .exact⟨E,bT q⟩
    .rw [bl q];exact ht i (.tail _ hi)
   refine⟨λ{j i} e=>?_,λi hi=>(h2 i λq=>hi (.tail _ q)).trans ((g i).trans (bl λ(q:i=a)=>hi (q▸.head _)))⟩
   cases j with
   |zero=>exact aM (e:some a=some i)▸(h2 a n1).trans ((g a).trans (bT rfl))
   |succ j=>exact h1 (j:=j) e
theorem J4{α:Type}{P:H->α->Prop}{a0 a1 a2 a3 a4 a5 a6:α}{i:α}(e:[a0,a1,a2,a3,a4,a5,a6][j]?=some i)(h0:P 0 a0)(h1:P 1 a1)(h2:P 2 a2)(h3:P 3 a3)(h4:P 4 a4)(h5:P 5 a5)(h6:P 6 a6):P j i:=by
 rcases j with _|_|_|_|_|_|_|j<;>first|exact aB e|(rw [<-aM e];assumption)
theorem acu{KT x y one body:D}{args:G D}(t0:aL 0=some KT)(t1:aL 1=some x)(t2:aL 2=some y)(HT:aL 10=some one)(HU:aL 11=some body)(bu:Raw o args kL sd il ie dd ir iu){j i:H}(e:[kL,sd,il,ie,dd,ir,iu][j]?=some i):
  ∃E o2,o.t.get i=some E/\(nR 4000 [.tup [.str ⟨⟨[115,117,98]⟩⟩,one,body]] [] x y)[j]?=some o2/\gR aL (aU KT) o (λi=>lQ i [kL,sd,il,ie,dd,ir,iu]) (λ_=>dP) E o2:=by
 refine bw bu.p2 λb2 p2=>?_
 refine bw bu.p6 λb6 p6=>?_
 have ps:∀{j i:H},[kL,sd,il,ie,dd,ir,iu][j]?=some i->lQ i [kL,sd,il,ie,dd,ir,iu]=some j:=λe=>Bs bu.nd e
 exact J4 (P:=λj i=>∃E o2,o.t.get i=some E/\(nR 4000 [.tup [.str ⟨⟨[115,117,98]⟩⟩,one,body]] [] x y)[j]?=some o2/\gR aL (aU KT) o (λi=>lQ i [kL,sd,il,ie,dd,ir,iu]) (λ_=>dP) E o2) e
  ⟨_,_,bu.p0,rfl,.inst (ps (j:=1) rfl)⟩ ⟨_,_,bu.p1,rfl,.dict rfl (.cons (.gZ t0 rfl) (.cons (.fuel (I9 _)) .nil))⟩
  ⟨_,_,p2,rfl,.list (.cons (.tup (.cons (.same rfl) (.cons (.fc HT) (.cons (.fc HU) .nil)))) .nil) (by simp) (by decide)⟩ ⟨_,_,bu.p3,rfl,.inst (ps (j:=4) rfl)⟩
  ⟨_,_,bu.p4,rfl,.dict rfl (.cons (.ref (ps (j:=5) rfl)) (.cons (.same rfl) .nil))⟩ ⟨_,_,bu.p5,rfl,.dict rfl (.cons (.fc t1) (.cons (.fc t2) .nil))⟩ ⟨_,_,p6,rfl,.list .nil (by decide) (by decide)⟩
theorem aaz{KT x' y':D}{R:G (G D)}{p f:H}(hf:3900<=f)(t0:aL 0=some KT)(hx:aL 3=some x')(HV:aL 4=some y')(ox:cR x'=true)(oy:cR y'=true)(lp:p<=390)(ll:LB.length<=400)(qf:∀m∈LB,bC m=true)(le:R.length<=2)
  (b1:β 1=some sd) (b4:β 4=some dd) (b5:β 5=some r) (hb:∀i,i<3*R.length->β (7+i)=some (n+i)) {j:H} (e:(nR f LB (wE R (di p .any) 7) x' y')[j]?=some E):
  ∃o2,(Gs R LB p n sd dd r)[j]?=some o2/\gR (aU KT) aL lJ β (λ_=>dP) E o2:=by
 have kx:=aN.mp ox
 have ky:=aN.mp oy
 have ca:cG (aU KT) aL lJ β (λ_=>dP) (di p .any) (di p .any):=by
  have:=xc (o:=lJ) (aQ:=aU KT) (aJ:=aL) (β:=β) (FZ:=λ_=>dP) (B:=di p .any)
  rwa [dZ] at this
 exact J4 (P:=λj E=>∃o2,(Gs R LB p n sd dd r)[j]?=some o2/\gR (aU KT) aL lJ β (λ_=>dP) E o2) e
  ⟨_,rfl,.inst b1⟩ ⟨_,rfl,.dict (dD:=[(.str nD,.tok 0),(.str nB,.fuel 3900)]) rfl (.cons (.gZ rfl t0) (.cons (.less hf) .nil))⟩ ⟨_,rfl,.list (r':=LB) (b':=400) (iw qf) ll (by decide)⟩ ⟨_,rfl,.inst b4⟩
  ⟨_,rfl,.dict (dD:=[(.str eH,.ref r),(.str eG,.int 2)]) rfl (.cons (.ref b5) (.cons (.same rfl) .nil))⟩ ⟨_,rfl,.dict (dD:=[(.str eE,.tok 3),(.str eD,.tok 4)]) rfl (.cons (.eT kx.1 kx.2 hx) (.cons (.eT ky.1 ky.2 HV) .nil))⟩
  ⟨_,rfl,.list (r':=wE R (di p .any) n) (b':=400) (afl ca hb) (by rw [PN,dZ];exact dQ (CE le lp) (by decide)) (by decide)⟩
theorem others(S:St c (wb c w aL) I F C o s.heap):∃F2:G aA,(∀a,a∈F2↔a∈F\/(a∈C/\a∉i_ C is))/\∀a∈F2,(∃E,s.heap.get? a=some E)/\a∉i_ C is/\I.get? a=none:=by
 have sub:∀a∈i_ C is,a∈C:=λa ha=>by
  refine ay (Jp.mp ha) λi _ e=>?_
  exact dy e
 refine⟨F++C.filter (λa=>!((i_ C is).contains a)),λa=>?_,λa ha=>?_⟩
 .rw [dI,t7]
  simp
 .refine dC (dI.mp ha) (λq=>?_) λq=>?_
  .refine cf (S.cI a q) λz1 z2 z3=>?_
   exact⟨z1,λz=>z2 (sub a z),z3⟩
  .refine xA (t7.mp q) λq1 q2=>?_
   obtain⟨i,hi,e⟩:=iE q1
   refine ay (S.at_ i a (by rw [cV hi,e])) λE _ x=>?_
   refine⟨x.some,by simpa using q2,?_⟩
   cases z:I.get? a with
   |none=>rfl
   |some E=>exact bP q1 (S.keep a E z).2
theorem SH{is:G H}{h3:aP}(S:St c (wb c w aL) I F C o s.heap)(gS:∀i∈is,i<C.length)(nd:is.Nodup)(l7:is.length=7)(ln:NL.length=7)
  (dG:∀a,a∈F2↔a∈F\/(a∈C/\a∉i_ C is)) (dp:bh [] (i_ C is) s.heap dY h3) (S3:St c (wb c w (aU KT)) I F2 dY lJ h3) (eA:i_ C is++ee=dY) (ET:AP (eL R o.n) (BG is NL o.t) o.n=some tN) (pe:∀e∈R,(∀m∈e,bC m=true)/\e.length<=400)
  (hn:lJ.n=7+3*R.length) (hg:∀j,j<7+3*R.length->lJ.t.get j=(L++eL R 7)[j]?) (lL:L.length=7) (cv:∀{j:H} {E:cJ},L[j]?=some E->∃o2,NL[j]?=some o2/\gR (aU KT) aL lJ (tp is o.n) (λ_=>dP) E o2):
  bh [] C s.heap (C++ee) h3/\St c (wb c w aL) I F (C++ee) ⟨tN,o.n+3*R.length⟩ h3:=by
 have lA:=GZ gS
 rw [l7] at lA
 have MY:ee.length=3*R.length:=by have:=S3.len;rw [hn,<-eA,fy,lA] at this;exact(Nat.add_left_cancel this).symm
 have vp:o.n=C.length:=S.len
 refine xA (XT ET) λi1 i2=>?_
 rw [D7] at i1 i2
 obtain⟨g1,g2⟩:=adf (os:=NL) (t:=o.t) nd (l7.trans ln.symm) λi hi=>by
  refine ay (S.at_ i _ (cV (gS i hi))) λE ho _=>?_
  exact⟨E,ho⟩
 have XG:∀i,i<3*R.length->tp is o.n (7+i)=some (o.n+i):=λi _=>by
  unfold tp
  rw [bl (g7.mpr (ig 7 i)),jO]
 refine S.frame dp S3 eA.symm (λa ha=>by obtain⟨i,_,e⟩:=Jp.mp ha;exact dy e) (λa ha=>(dG a).mpr (.inl ha)) (λa ha hn=>(dG a).mpr (.inr ⟨ha,hn⟩)) (by rw [MY]) (β:=tp is o.n) (λj i a eb ej=>?_) (λi a ei=>?_)
 .unfold tp at eb
  rw [<-eA] at ej
  by_cases hj:j<7
  .rw [bT hj] at eb
   rw [iD (lA.symm▸hj)] at ej
   refine ay (Bo gS ej) λi' q1 q2=>?_
   rw [<-aM (eb.symm.trans q1)] at q2
   rw [iD (eM.mp q2).1]
   exact q2
  .rw [bl hj] at eb
   rw [<-aM eb]
   rw [mS (lA.symm▸g7.mp hj),lA] at ej
   rw [mS (vp▸ig _ _),vp,jO]
   exact ej
 .by_cases hi:i<o.n
  case neg=>
   rw [mS (vp▸g7.mp hi)] at ei
   have hd:i-C.length<3*R.length:=by rw [<-MY];exact(eM.mp ei).1
   have ed:(eL R 7)[i-C.length]?=some ((eL R 7)[i-C.length]'(by rw [D7];exact hd)):=cV _
   refine ay (UD (aQ:=aU KT) (aJ:=aL) (o:=lJ) (FZ:=λ_=>dP) pe (n:=7) (n':=o.n) XG _ _ ed) λo2 q1 q2=>?_
   refine .inr ⟨7+(i-C.length),_,o2,?_,?_,?_,q2⟩
   .rw [<-eA,mS (lA.symm▸ig _ _),lA,jO];exact ei
   .rw [hg _ (Js hd 7),mS (lL.symm▸ig _ _),lL,jO];exact ed
   .have:=i2 _ hd
    rw [show o.n+(i-C.length)=i by rw [vp];exact wF (vp▸g7.mp hi)] at this
    exact this.trans q1
  have iN:=i1 i (.inl hi)
  rw [iD (vp▸hi)] at ei
  by_cases m:i∈is
  .obtain⟨j,hj,ej⟩:=iE m
   have ej:is[j]?=some i:=by rw [cV hj,ej]
   have hj:j<7:=l7▸hj
   refine ay (cv (cV (lL▸hj:j<L.length))) λo2 q1 q2=>?_
   exact .inr ⟨j,_,o2,by rw [<-eA,iD (lA.symm▸hj)];exact rg gS ej ei,by rw [hg j (nY hj (ig ..)),iD (lL.symm▸hj)];exact cV _,iN.trans ((g1 ej).trans q1),q2⟩
  .refine .inl ⟨ei,λq=>?_,iN.trans (g2 i m)⟩
   obtain⟨j,hj,ej⟩:=iE q
   refine ay (Bo gS (by rw [cV hj,ej])) λi' q1 q2=>?_
   exact m (qe S.apart ei q2▸dy q1)
theorem abk{KT x y x' y' one body:D}{LB:G D}(t0:aL 0=some KT)(t1:aL 1=some x)(t2:aL 2=some y)(hx:aL 3=some x')(HV:aL 4=some y')(HT:aL 10=some one)(HU:aL 11=some body)(ox:cR x'=true)(oy:cR y'=true)(lp:p<=390)
  (uU:(res=true/\oc=.good x' y'/\LB=[]/\R=[])\/(res=false/\oc=.bad R LB x' y'/\p=0)) (ll:LB.length<=400) (qf:∀m∈LB,bC m=true) (pe:∀e∈R,(∀m∈e,bC m=true)/\e.length<=400) (le:R.length<=2)
  (Sc:∀(Y:bG) (F C:G aA) (s:aT) (a0 a2 a3 a6:aA),eY lv Y->St c (wb c w (aU KT)) I F C (stH 4000 [.tup [.str ⟨⟨[115,117,98]⟩⟩,one,body]] (di 0 .any) x y) s.heap->C[0]?=some a0->C[2]?=some a2->C[3]?=some a3->C[6]?=some a6->
   bc c (wb c w (aU KT)) Y [] C s (call (.ref 277) [.ref a0,.ref a2,.ref a3,.ref a6]) (λv ao M=>C<+:ao/\zy c w I KT F ao 3900 p oc v M))
  {a:H} (e:N4 lv res R LB p a args o=some q):nV c (wb c w aL) I q.1 a args o q.2.1 q.2.2:=by
 refine ay (fm e) λ_ ha e=>?_
 rw [dU (jA ha).1]
 refine ay (fm e) λis hr e=>?_
 refine gJ (acq hr) λkL sd bB=>gJ bB λil ie dA=>dO dA λdd ir iu Hq bu=>?_;subst Hq
 refine ay (fm e) λq' he e=>?_
 refine ay (fm (he:eQ _ _=_)) λtN ET he=>?_
 rw [nE] at he
 have he:=aM he
 subst he
 have e:=aM e
 rw [<-e]
 intro Y F C s V room S y0
 dsimp only
 rw [bu.args] at y0
 refine dR.el y0.cj λv0 r0 aE y1 z0=>?_;rw [aE]
 refine dR.el z0.cj λv2 r1 aE y2 z1=>?_;rw [aE]
 refine dR.el z1.cj λv3 r2 aE y3 z2=>?_;rw [aE]
 refine dR.el z2.cj λv6 r3 aE y6 z3=>?_;rw [aE]
 rw [z3.dW]
 refine ay y1 ?_;clear y1;intro a0 e0 aE;obtain rfl:=aE.symm
 refine ay y2 ?_;clear y2;intro a2 e2 aE;obtain rfl:=aE.symm
 refine ay y3 ?_;clear y3;intro a3 e3 aE;obtain rfl:=aE.symm
 refine ay y6 ?_;clear y6;intro a6 e6 aE;subst aE
 have gS:∀i∈[kL,sd,il,ie,dd,ir,iu],i<C.length:=λi hi=>S.len▸bu.lt i hi
 refine ay (others (is:=[kL,sd,il,ie,dd,ir,iu]) S) λF2 dG Vr=>?_
 have l7:(i_ C [kL,sd,il,ie,dd,ir,iu]).length=7:=GZ gS
 have sub:∀a∈i_ C [kL,sd,il,ie,dd,ir,iu],a∈C:=λa ha=>by obtain⟨i,_,e⟩:=Jp.mp ha;exact dy e
 have SK:St c (wb c w (aU KT)) I F2 (i_ C [kL,sd,il,ie,dd,ir,iu]) (stH 4000 [.tup [.str ⟨⟨[115,117,98]⟩⟩,one,body]] (di 0 .any) x y) s.heap:=by
  refine S.mJ (β:=λi=>lQ i [kL,sd,il,ie,dd,ir,iu]) (FZ:=λ_=>dP) l7.symm (picked S.apart bu.nd λj a e=>Bo gS e) Vr (λa E _ sf=>⟨λq=>?_,λq=>sf.2 (sub a q)⟩) (λ_ _ q=>q.elim) (λi j a eb ei=>rg gS (Hd eb) ei) (λj a ej=>?_)
  .refine dC ((dG a).mp q) (λq=>?_) λq=>?_
   .exact sf.1 q
   .exact sf.2 q.1
  .refine ay (Bo gS ej) λi q1 q2=>?_
   refine eO (acu t0 t1 t2 HT HU bu q1) λE o2 z1 z2 z3=>?_
   exact⟨i,E,o2,q2,z1,(BP (l7▸(eM.mp ej).1)).trans z2,z3⟩
 intro Q au q
 refine Sc Y F2 (i_ C [kL,sd,il,ie,dd,ir,iu]) s a0 a2 a3 a6 room SK (rg gS rfl e0) (rg gS rfl e2) (rg gS rfl e3) (rg gS rfl e6) _ _ λv dY h3 ey dp p3=>?_
 obtain⟨⟨ee,eA⟩,p3⟩:=p3
 have J9:∀(f:H) (lJ:MH),3900<=f->lJ.n=7+3*R.length->(∀j,j<7+3*R.length->lJ.t.get j=(nR f LB (wE R (di p .any) 7) x' y'++eL R 7)[j]?)->St c (wb c w (aU KT)) I F2 dY lJ h3->
   bh [] C s.heap (C++ee) h3/\St c (wb c w aL) I F (C++ee) ⟨tN,o.n+3*R.length⟩ h3:=λf lJ hf hn hg S3=>
  SH S gS bu.nd rfl rfl dG dp S3 eA ET pe hn hg rfl (aaz (β:=tp [kL,sd,il,ie,dd,ir,iu] o.n) hf t0 hx HV ox oy lp ll qf le rfl rfl rfl λi _=>by unfold tp;rw [bl (g7.mpr (ig 7 i)),jO])
 rcases uU with⟨rfl,rfl,rfl,rfl⟩|⟨rfl,rfl,rfl⟩
 .obtain⟨⟨ad,q3,rfl⟩,f,hf,S3⟩:=p3
  refine xA (J9 f _ hf rfl (λj hj=>by rw [BP hj];show _=(nR f [] (di p .any) x' y'++[])[j]?;rw [h_]) S3) λe_ S4=>?_
  rw [<-eA,iD (by lia),rg gS rfl e3] at q3
  rw [<-aM q3]
  exact q (.ref a3) (C++ee) h3 ey e_ ⟨S4,by show VR c (wb c w aL) F (C++ee) h3 (.ref ie) (.ref a3);exact⟨a3,by rw [iD (eM.mp e3).1];exact e3,rfl⟩⟩
 .refine xA p3 λeJ bB=>ay bB λf hf S3=>?_;rw [eJ]
  refine xA (J9 f _ hf (OO R) (λj hj=>by rw [ON le hj];unfold wL;rw [gM];rfl) S3) λe_ S4=>?_
  exact q .none (C++ee) h3 ey e_ ⟨S4,by show VR c (wb c w aL) F (C++ee) h3 .none .none;rfl⟩
end
section
set_option tactic.hygienic true
section
variable(c:a_)(w:dF)(I:aP)(KT:D)
noncomputable def mh(eC a:H)(args:G D)(res:D):Prop:=
 ∀(Y:bG) (F:G aA) (s:aT) (V:G aw),eY eC Y->St c (wb c w (aU KT)) I F [] ⟨.nil,0⟩ s.heap->aW c (wb c w (aU KT)) F [] s.heap args V->bc c (wb c w (aU KT)) Y [] [] s (call (.ref a) V) (λv _ M=>VR c (wb c w (aU KT)) F [] M res v)
noncomputable def qx(eC a:H)(t:D)(x:ar)(r res:D):Prop:=
 ∀(Y:bG) (F:G aA) (ad:aA) (s:aT) (v:aw),eY eC Y->St c (wb c w (aU KT)) I F [ad] (fA [.dict [(.str x,r)]]) s.heap->VR c (wb c w (aU KT)) F [ad] s.heap t v->bc c (wb c w (aU KT)) Y [] [ad] s (call (.ref a) [v,.ref ad]) (λu _ M=>St c (wb c w (aU KT)) I F [ad] (fA [.dict [(.str x,r)]]) M/\VR c (wb c w (aU KT)) F [ad] M res u)
end
section
variable{c:a_}{w:dF}{Y:bG}{F C ao F2 bf:G aA}{s:aT}{I h M:aP}{o br dz q6:MH}{K:b8}{W WE:bQ}{mg mb:ar->aa aw}{n:H}{X:cL}{aL aQ aJ:H->aa D}{KT:D}{eC a:H}
theorem cE.one(x:cE aQ aJ [m] [m'])(o:MH)(β:H->aa H)(FZ:H->Prop):Cv aQ aJ o β FZ m m':=by
 have:=x o β FZ
 cases this with
 |cons J _=>exact J
theorem St.bare(S:St c (wb c w aL) I F C o h)(hF:∀a∈F2,a∈F\/a∈C)(aJ:H->aa D):St c (wb c w aJ) I F2 [] ⟨.nil,0⟩ h:=by
 refine S.mJ (β:=λ_=>.none) (FZ:=λ_=>dP) rfl rO (λa ha=>?_) (λa E _ sf=>⟨λq=>(hF a q).elim sf.1 sf.2,λq=>nomatch q⟩) (λ_ _ q=>q.elim) (λ_ _ _ q=>nomatch q) (λj a e=>by simp at e)
 rcases hF a ha with q|q
 .refine cf (S.cI a q) λq1 _ q3=>?_
  exact⟨q1,(λz=>nomatch z),q3⟩
 .obtain⟨i,hi,e⟩:=iE q
  refine ay (S.at_ i a (by rw [cV hi,e])) λE _ x=>?_
  refine⟨x.some,(λz=>nomatch z),?_⟩
  cases z:I.get? a with
  |none=>rfl
  |some E=>exact bP q (S.keep a E z).2
theorem cE.qp(J:cE aQ aJ B l')(S:St c (wb c w aQ) I F C o h)(hF:∀a∈F2,a∈F\/a∈C)(dM:∀a∈bf,a∈F\/a∈C)(y:aW c (wb c w aQ) F C h B V):aW c (wb c w aJ) F2 bf h l' V:=
 cG.ok S (β:=λ_=>.none) (FZ:=λ_=>dP) (λ_ _ _ q=>nomatch q) (λb E _ sf=>⟨λq=>(hF b q).elim sf.1 sf.2,λq=>(dM b q).elim sf.1 sf.2⟩) (λ_ _ q=>q.elim) (J _ _ _) y
theorem cE.vr(J:cE aQ aJ [m] [m'])(S:St c (wb c w aQ) I F C o h)(hF:∀a∈F2,a∈F\/a∈C)(dM:∀a∈bf,a∈F\/a∈C)(y:VR c (wb c w aQ) F C h m v):VR c (wb c w aJ) F2 bf h m' v:=by
 obtain⟨v',r,e,x,_⟩:=(J.qp S hF dM (.one y)).cj
 cases e
 exact x
theorem Hh(gp:Sound (λr:aa D=>r=some nO) c (wb c w aL) I eC (run ip W eC))(ev:(run ip W eC).call (.fn a) oh ⟨.nil,0⟩ (λm _=>some m)=some nO)(ca:cE (aU KT) aL args oh)(cr:cE aL (aU KT) [nO] [res]):mh c w I KT eC a args res:=by
 intro Y F s V room S y Q au q
 refine gp.call Y F [] s ⟨.nil,0⟩ (.fn a) (.ref a) oh V _ room (S.bare (λa ha=>.inl ha) aL) (by rfl) (ca.qp S (λa ha=>.inl ha) (λa ha=>nomatch ha) y) ev _ _ λv bq h1 aZ aS p1=>?_
 obtain⟨m,bM,e1,S1,x1⟩:=p1
 cases e1
 exact q v bq h1 aZ aS (cr.vr S1 (λa ha=>.inl ha) (λa ha=>nomatch ha) x1)
theorem rh(P:mh c w I KT eC a args res)(ca:cE aL (aU KT) oh args)(cr:cE (aU KT) aL [res] [nO]):nV c (wb c w aL) I eC a oh o nO o:=by
 intro Y F C s V room S y Q au q
 have dG:∀a∈F++C,a∈F\/a∈C:=λa ha=>dI.mp ha
 have SK:=S.bare dG (aU KT)
 refine P Y (F++C) s V room SK (ca.qp S dG (λa ha=>nomatch ha) y) _ _ λv bq h1 aZ aS p1=>?_
 have keep:∀b E,s.heap.get? b=some E->h1.get? b=some E:=λb E e=>aS.keep b E e (λz=>nomatch z) (λz=>nomatch z)
 refine xA (S.grow keep) λst S1=>?_
 refine xA (SK.grow keep) λ_ RW=>?_
 exact q v C h1 aZ st ⟨S1,cr.vr RW (λa ha=>.inl (iR _ ha)) (λa ha=>.inl (fC _ ha)) p1⟩
theorem Z2(E:cJ):(fA [E]).t.get 0=some E:=rfl
theorem Uc(pr:bC r=true)(gp:Sound (λE:aa D=>E=some (.tup [.str x,r,nO])) c (wb c w aL) I eC (run ip W eC))(ev:(run ip W eC).call (.fn a) [t',.ref 0] (fA [.dict [(.str x,r)]]) kD=some (.tup [.str x,r,nO]))(ct:cE (aU KT) aL [t] [t'])(cr:cE aL (aU KT) [nO] [res]):qx c w I KT eC a t x r res:=by
 intro Y F ad s v room S y Q au q
 have one:∀{tb Ia:H->aa D} {bq:G aA} {bM:MH} {h:aP},[ad]<+:bq->St c (wb c w tb) I F bq bM h->bM.t.get 0=some (.dict [(.str x,r)])->St c (wb c w Ia) I F [ad] (fA [.dict [(.str x,r)]]) h:=by
  intro tb Ia bq bM h hp S1 e
  have h0:bq[0]?=some ad:=by rw [ja hp (ug _)];rfl
  refine S1.mJ (β:=λi=>if i=0 then some 0 else .none) (FZ:=λ_=>dP) rfl (by simp) (λa ha=>?_) (λa E _ sf=>⟨sf.1,λz=>sf.2 (hp.subset z)⟩) (λ_ _ q=>q.elim) (λi j a eb ei=>?_) (λj a ej=>?_)
  .refine cf (S1.cI a ha) λq1 q2 q3=>?_
   exact⟨q1,λz=>q2 (hp.subset z),q3⟩
  .split at eb
   .rename_i z;cases eb;rw [z,h0] at ei;exact ei
   .exact aB eb
  .match j,ej with
   |0,ej=>cases ej;exact⟨0,_,_,h0,e,rfl,.dict rfl (.cons (.same pr) .nil)⟩
   |j+1,ej=>exact aB ej
 have S':=one (Ia:=aL) (mT _) S (Z2 _)
 have y1:VR c (wb c w aL) F [ad] s.heap t' v:=ct.vr S (λa ha=>.inl ha) (λa ha=>.inr ha) y
 refine gp.call Y F [ad] s (fA [.dict [(.str x,r)]]) (.fn a) (.ref a) [t',.ref 0] [v,.ref ad] kD room S' (by rfl) (.cons y1 (.one (by exact⟨ad,rfl,rfl⟩))) ev _ _ λu bq h1 aZ aS p1=>?_
 obtain⟨m,bM,e1,S1,x1⟩:=p1
 have e1:kD m bM=some (.tup [.str x,r,nO]):=e1
 have hd:bM.t.get 0=some (.dict [(.str x,r)])/\m=nO:=by
  unfold kD at e1
  generalize h:bM.t.get 0=ax at e1
  cases ax with
  |none=>exact aB e1
  |some E=>
   cases E with
   |dict R=>
    match R,e1 with
    |[],e1=>exact aB e1
    |_::_::_,e1=>exact aB e1
    |[(p1,p2)],e1=>cases e1;exact⟨rfl,rfl⟩
   |_=>exact aB e1
 refine xA hd ?_;clear hd;intro hd aI;obtain rfl:=aI.symm
 refine q u bq h1 aZ aS ⟨one aS.pre S1 hd,cr.vr S1 (λa ha=>.inl ha) (λa ha=>.inr (aS.pre.subset ha)) x1⟩
theorem DW(pr:bC r=true)(bj:qx c w I KT eC a t x r res)(ct:cE aL (aU KT) [t'] [t])(cr:cE (aU KT) aL [res] [nO])(hj:o.t.get j=some (.dict [(.str x,r)])):nV c (wb c w aL) I eC a [t',.ref j] o nO o:=by
 intro Y F C s V room S y Q au q
 obtain⟨v1,r0,rfl,y1,y0⟩:=y.cj
 replace y0:=y0.cj;obtain⟨v2,r0,rfl,y2,y0⟩:=y0
 rw [y0.dW]
 refine ay y2 ?_;clear y2;intro ad ej aE;rw [aE]
 have EJ:ad∈C:=dy ej
 have dG:∀b,b∈F++C.filter (λb=>!(b==ad))↔b∈F\/(b∈C/\b≠ad):=λb=>by
  rw [dI,t7]
  simp
 generalize F++C.filter (λb=>!(b==ad))=F2 at dG
 have h2:∀b∈[ad],b∈C:=λb hb=>by rw [cA.mp hb];exact EJ
 have SK:St c (wb c w (aU KT)) I F2 [ad] (fA [.dict [(.str x,r)]]) s.heap:=by
  refine S.mJ (β:=λi=>if i=j then some 0 else .none) (FZ:=λ_=>dP) rfl (by simp) (λb hb=>?_) (λb E _ sf=>⟨λz=>((dG b).mp z).elim sf.1 λz=>sf.2 z.1,λz=>sf.2 (h2 b z)⟩) (λ_ _ q=>q.elim) (λi j' b eb ei=>?_) (λj' b qK=>?_)
  .rcases(dG b).mp hb with z|⟨z1,z2⟩
   .refine cf (S.cI b z) λq1 q2 q3=>?_
    exact⟨q1,λz=>q2 (h2 b z),q3⟩
   .obtain⟨i,hi,e⟩:=iE z1
    refine ay (S.at_ i b (by rw [cV hi,e])) λE _ xo=>?_
    refine⟨xo.some,λz=>z2 (cA.mp z),?_⟩
    cases z:I.get? b with
    |none=>rfl
    |some E=>exact bP z1 (S.keep b E z).2
  .split at eb
   .rename_i z;cases eb;rw [z,ej] at ei;exact ei
   .exact aB eb
  .match j',qK with
   |0,qK=>cases qK;exact⟨j,_,_,ej,hj,rfl,.dict rfl (.cons (.same pr) .nil)⟩
   |j'+1,qK=>exact aB qK
 have Wo:∀b∈F2,b∈F\/b∈C:=λb hb=>((dG b).mp hb).imp id (·.1)
 refine bj Y F2 ad s v1 room SK (ct.vr S Wo (λb hb=>.inr (h2 b hb)) y1) _ _ λu bq h1 aZ aS p1=>?_
 refine xA p1 λS1 x1=>?_
 have tG:bh [] [ad] s.heap [ad] h1:=⟨mT _,aS.keep,λb E e nn=>⟨(aS.out b E e nn).1,nn⟩⟩
 have e0:C++[]=C:=h_ C
 have fr:=S.frame (e:=[]) (q6:=o) tG S1 rfl h2 (λb hb=>(dG b).mpr (.inl hb)) (λb hb hn=>(dG b).mpr (.inr ⟨hb,λz=>hn (by rw [z];exact .head _)⟩)) rfl (β:=λi=>if i=0 then some j else .none) (λj' i b eb qK=>by
  rw [e0]
  split at eb
  .rename_i z;cases eb;rw [z] at qK;cases qK;exact ej
  .exact aB eb) (λi b ei=>by
  rw [e0] at ei
  by_cases z:b=ad
  .obtain rfl:=z.symm
   have:=qe S.apart ei ej
   rw [this]
   exact .inr ⟨0,_,_,rfl,rfl,hj,.dict rfl (.cons (.same pr) .nil)⟩
  .exact .inl ⟨ei,λq=>z (cA.mp q),rfl⟩)
 rw [e0] at fr
 refine xA fr λst S2=>?_
 refine q u C h1 aZ st ⟨S2,cr.vr S1 (λb hb=>.inl ((dG b).mpr (.inl hb))) (λb hb=>?_) x1⟩
 by_cases z:b=ad
 .exact .inr (by rw [z];exact .head _)
 .exact .inl ((dG b).mpr (.inr ⟨hb,z⟩))
end
end
structure Base(c:a_)(w:dF)(K:b8)(W:bQ)(I:aP)(mg mb:ar->aa aw):Prop where
 AN:K.In I
 ng:I.Ns mB mg
 nb:I.Ns qH mb
 lim:I.NoLimit
 sys:∃E,I.get? tK=some E
 glob:∀x m,W.glob x=some m->Ck c (w0 w) I mg mb x m/\j6 m=true
 cls:∀aq p,W.cls aq=some p->w_ K p.2 aq p.1=true
 call:∀a,r9 W (.fn a)=true->keepIn K (.ref a)=true
 fns:∀a az,W.fn a=some az->(∃E fd dv,nX c (w0 w) I a az E fd dv)/\mD az.jg=true
noncomputable def uj(c:a_)(w:dF)(aL:H->aa D)(tv:H->aa D):Prop:=∀i m,tv i=some m->∃m0,aL i=some m0/\∀F C h v,VR c (w0 w) F C h m0 v->VR c (wb c w aL) F C h m v
section
variable{c:a_}{w:dF}{I h:aP}{K:b8}{W:bQ}{mg mb:ar->aa aw}{aL:H->aa D}{gX:H->G D->MH->aa (H×D×MH)}{tv:H->aa D}{eq:D->D->aa ah}{pull:H}
theorem Base.top(aV:Base c w K W I mg mb)(hv:uj c w aL tv)(he:∀a b r,eq a b=some r->tV c (wb c w aL) I a b r):Top c (wb c w aL) K (gn W gX tv eq pull) I mg mb where
 AN:=aV.AN
 ng:=aV.ng
 nb:=aV.nb
 lim:=aV.lim
 sys:=aV.sys
 glob:=λx m e=>by
  refine xA (aV.glob x m e) λh1 h2=>?_
  rcases h1 with⟨v,q1,q2⟩|q
  .exact .inl ⟨v,q1,q2.chg (w:=w0 w) (w':=wb c w aL) rfl h2⟩
  .exact .inr q
 cls:=aV.cls
 call:=aV.call
 rz:=λi m F C h v e x=>by
  refine ay (hv i m e) λm0 e0 k=>?_
  refine iZ x λm1 e1 _ _ x1=>?_
  rw [e0] at e1
  cases e1
  exact k F C h v x1
 eqv:=he
theorem Base.VV(aV:Base c w K W I mg mb):y8 c (wb c w aL) I (gn W gX tv eq pull):=λa az e=>by
 obtain⟨⟨E,fd,dv,bu⟩,n⟩:=aV.fns a az e
 exact⟨E,fd,dv,⟨bu.obj,bu.data,bu.code,bu.ok,bu.kind,bu.body,bu.names,bu.N_,bu.kinds,bu.np,bu.nd,bu.nf,bu.dflt,bu.KW.chg (w:=w0 w) (w':=wb c w aL) rfl n⟩⟩
theorem Base.fn(aV:Base c w K W I mg mb)(e:W.fn a=some az):∃E fd dv,nX c (wb c w aL) I a az E fd dv:=by
 obtain⟨⟨E,fd,dv,bu⟩,n⟩:=aV.fns a az e
 exact⟨E,fd,dv,⟨bu.obj,bu.data,bu.code,bu.ok,bu.kind,bu.body,bu.names,bu.N_,bu.kinds,bu.np,bu.nd,bu.nf,bu.dflt,bu.KW.chg (w:=w0 w) (w':=wb c w aL) rfl n⟩⟩
theorem Base.sound(aV:Base c w K W I mg mb)(hv:uj c w aL tv)(he:∀a b r,eq a b=some r->tV c (wb c w aL) I a b r)(ho:iF c (wb c w aL) I (gn W gX tv eq pull))(hp:W.fn pull=none\/qD c (wb c w aL) I pull)
  (Zk:bZ Z ae) (n:H):Sound ae c (wb c w aL) I n (run Z (gn W gX tv eq pull) n):=
 Mine.Internal.sound Zk (aV.top hv he) aV.VV ho (hp.symm.imp id id) n
theorem Df{α:Type}{Z:cU (aa α)}(h1:Z.fail=none)(h2:∀n k,Z.all n k=none)(x:α):bZ Z (λr=>r=some x):=by
 refine⟨λ(e:Z.fail=some x)=>?_,λn k (e:Z.all n k=some x)=>?_⟩
 .rw [h1] at e;exact aB e
 .rw [h2] at e;exact aB e
theorem De(x:Lk):bZ jR (λr=>r=some x):=Df rfl (λ_ _=>rfl) x
theorem Sq(x:Lz):bZ zH (λr=>r=some x):=Df rfl (λ_ _=>rfl) x
theorem mj(x:D):bZ ip (λr=>r=some x):=Df rfl (λ_ _=>rfl) x
theorem lM:iF c (wb c w aL) I (gn W (λ_ _ _=>.none) tv eq pull):=λa B o p e=>by exact aB e
theorem hN:∀a b r,(λ(_ _:D)=>(none:aa ah)) a b=some r->tV c (wb c w aL) I a b r:=λa b r e=>by exact aB e
theorem ae2(h:∀i m,tv i=some m->aL i=some m/\j6 m=true):uj c w aL tv:=λi m e=>⟨m,(h i m e).1,λF C hp v x=>x.chg (w:=w0 w) (w':=wb c w aL) rfl (h i m e).2⟩
end
noncomputable def VP:G (H×H×aa H×G D):=[
 (21,0,none,[]),
 (33,4,none,[D.tup []]),
 (41,5,none,[D.none]),
 (48,6,none,[]),
 (55,7,none,[]),
 (62,8,none,[]),
 (67,9,none,[]),
 (72,10,none,[]),
 (79,11,none,[]),
 (84,12,none,[]),
 (98,15,some 0,[]),
 (105,15,some 1,[]),
 (112,15,some 2,[]),
 (119,15,some 3,[]),
 (126,15,some 4,[]),
 (148,16,some 0,[D.none,D.int 0]),
 (155,16,some 1,[]),
 (162,16,some 2,[]),
 (169,16,some 3,[]),
 (176,16,some 4,[]),
 (183,16,some 5,[]),
 (190,16,some 6,[]),
 (197,16,some 7,[]),
 (209,17,none,[]),
 (216,18,none,[]),
 (223,19,none,[]),
 (228,20,none,[]),
 (233,21,none,[]),
 (238,22,none,[]),
 (245,23,none,[]),
 (263,27,some 0,[]),
 (270,27,some 1,[]),
 (277,27,some 2,[]),
 (284,27,some 3,[]),
 (291,27,some 4,[]),
 (296,27,some 5,[]),
 (301,27,some 6,[]),
 (306,27,some 7,[]),
 (311,27,some 8,[]),
 (318,27,some 9,[])]
noncomputable def VQ:G (H×H×aa H×G D):=[
 (323,27,some 10,[]),
 (330,27,some 11,[]),
 (335,27,some 12,[]),
 (349,28,none,[]),
 (356,29,none,[]),
 (363,30,none,[]),
 (368,31,none,[]),
 (376,32,none,[D.int 4000]),
 (382,33,none,[D.int 4000]),
 (387,34,none,[]),
 (402,36,some 0,[D.none]),
 (441,44,some 0,[D.bool false,D.tup []]),
 (446,44,some 1,[]),
 (451,44,some 2,[]),
 (458,44,some 3,[]),
 (479,45,some 0,[]),
 (484,45,some 1,[]),
 (491,45,some 2,[]),
 (498,45,some 3,[]),
 (505,45,some 4,[]),
 (512,45,some 5,[]),
 (519,45,some 6,[]),
 (526,45,some 7,[]),
 (533,45,some 8,[]),
 (540,45,some 9,[]),
 (545,45,some 10,[]),
 (560,46,none,[D.bool false]),
 (567,47,none,[]),
 (574,48,none,[]),
 (581,49,none,[]),
 (588,51,none,[]),
 (595,52,none,[]),
 (602,53,none,[]),
 (609,54,none,[]),
 (616,55,none,[]),
 (623,56,none,[]),
 (630,57,none,[]),
 (637,58,none,[]),
 (642,59,none,[]),
 (649,60,none,[])]
noncomputable def VU:G (H×H×aa H×G D):=[
 (654,61,none,[]),
 (659,62,none,[])]
noncomputable def mw:G (H×H×aa H×G D):=VP++VQ++VU
noncomputable def zT:G (H×G (ar×H)×G ar):=[
 (129,[(⟨⟨[95,95,105,110,105,116,95,95]⟩⟩,98),(⟨⟨[119,105,116,104,95,108,111,119,101,114]⟩⟩,105),(⟨⟨[119,105,116,104,95,117,112,112,101,114]⟩⟩,112),(⟨⟨[108,111,119,101,114]⟩⟩,119),(⟨⟨[117,112,112,101,114]⟩⟩,126)],[⟨⟨[105,115,95,97,115,107,101,100]⟩⟩,⟨⟨[111,114,100,101,114]⟩⟩,⟨⟨[108,111,119,101,114,115]⟩⟩,⟨⟨[117,112,112,101,114,115]⟩⟩,⟨⟨[105,115,95,100,105,97,103,111,110,97,108]⟩⟩]),
 (200,[(⟨⟨[95,95,105,110,105,116,95,95]⟩⟩,148),(⟨⟨[99,111,112,105,101,100]⟩⟩,155),(⟨⟨[111,112,101,110,101,100]⟩⟩,162),(⟨⟨[115,105,100,101]⟩⟩,169),(⟨⟨[105,115,95,97,115,107,101,100]⟩⟩,176),(⟨⟨[97,100,100,95,108,111,119,101,114]⟩⟩,183),(⟨⟨[97,100,100,95,117,112,112,101,114]⟩⟩,190),(⟨⟨[108,97,116,101,114,95,111,110,101,115]⟩⟩,197)],[⟨⟨[114,111,119,115]⟩⟩,⟨⟨[109,97,110,121]⟩⟩]),
 (338,[(⟨⟨[95,95,105,110,105,116,95,95]⟩⟩,263),(⟨⟨[114,117,110]⟩⟩,270),(⟨⟨[115,101,116,116,108,101,100]⟩⟩,277),(⟨⟨[115,116,101,112]⟩⟩,284),(⟨⟨[110,117,109,98,101,114,115]⟩⟩,291),(⟨⟨[98,101,108,111,119]⟩⟩,296),(⟨⟨[97,98,111,118,101]⟩⟩,301),(⟨⟨[98,121,95,102,111,114,109]⟩⟩,306),(⟨⟨[99,104,111,115,101,110]⟩⟩,311),(⟨⟨[112,108,97,105,110]⟩⟩,318),(⟨⟨[110,111,109,105,110,97,108]⟩⟩,323),(⟨⟨[97,114,101,95,99,111,110,99,114,101,116,101]⟩⟩,330),(⟨⟨[105,115,95,111,110,101]⟩⟩,335)],[⟨⟨[107,105,110,100,115]⟩⟩,⟨⟨[102,117,101,108]⟩⟩]),
 (461,[(⟨⟨[95,95,105,110,105,116,95,95]⟩⟩,441),(⟨⟨[116,97,98,108,101,95,102,111,114]⟩⟩,446),(⟨⟨[119,104,111,108,101]⟩⟩,451),(⟨⟨[102,105,101,108,100,95,107,105,110,100,115]⟩⟩,458)],[⟨⟨[110,97,109,101]⟩⟩,⟨⟨[112,97,114,97,109,115]⟩⟩,⟨⟨[115,117,112,101,114]⟩⟩,⟨⟨[105,115,95,97,98,115,116,114,97,99,116]⟩⟩,⟨⟨[105,115,95,109,117,116,97,98,108,101]⟩⟩,⟨⟨[102,105,101,108,100,115]⟩⟩]),
 (548,[(⟨⟨[95,95,105,110,105,116,95,95]⟩⟩,479),(⟨⟨[100,101,99,108,97,114,101]⟩⟩,484),(⟨⟨[105,115,95,100,101,99,108,97,114,101,100]⟩⟩,491),(⟨⟨[100,101,99,108]⟩⟩,498),(⟨⟨[115,117,112,101,114,95,111,102]⟩⟩,505),(⟨⟨[115,117,112,101,114,115]⟩⟩,512),(⟨⟨[117,110,100,101,114]⟩⟩,519),(⟨⟨[97,112,112,108,105,101,100]⟩⟩,526),(⟨⟨[105,115,95,119,105,116,104,105,110]⟩⟩,533),(⟨⟨[119,104,111,108,101]⟩⟩,540),(⟨⟨[105,115,95,99,111,110,99,114,101,116,101]⟩⟩,545)],[⟨⟨[100,101,99,108,115]⟩⟩])]
noncomputable def Wf:G (ar×D):=[
 (⟨⟨[95,119,97,108,108]⟩⟩,D.fn 21),
 (⟨⟨[110,97,109,101,100]⟩⟩,D.fn 33),
 (⟨⟨[116,117,112,108,101,95,111,102]⟩⟩,D.fn 41),
 (⟨⟨[117,110,105,111,110,95,111,102]⟩⟩,D.fn 48),
 (⟨⟨[112,97,114,116,115,95,111,102,95,107,105,110,100]⟩⟩,D.fn 55),
 (⟨⟨[114,101,98,117,105,108,116,95,107,105,110,100]⟩⟩,D.fn 62),
 (⟨⟨[115,117,98,115,116,105,116,117,116,101,100]⟩⟩,D.fn 67),
 (⟨⟨[102,114,101,101,95,118,97,114,115]⟩⟩,D.fn 72),
 (⟨⟨[98,105,110,100,101,114,95,116,101,120,116]⟩⟩,D.fn 79),
 (⟨⟨[107,105,110,100,95,116,101,120,116]⟩⟩,D.fn 84),
 (⟨⟨[83,105,100,101]⟩⟩,D.fn 129),
 (⟨⟨[83,105,100,101,115]⟩⟩,D.fn 200),
 (⟨⟨[111,99,99,117,114,114,101,110,99,101,115]⟩⟩,D.fn 209),
 (⟨⟨[98,111,117,110,100,95,111,99,99,117,114,114,101,110,99,101,115]⟩⟩,D.fn 216),
 (⟨⟨[105,115,95,100,105,97,103,111,110,97,108]⟩⟩,D.fn 223),
 (⟨⟨[108,101,102,116,95,99,97,115,101,115]⟩⟩,D.fn 228),
 (⟨⟨[116,117,112,108,101,95,99,97,115,101,115]⟩⟩,D.fn 233),
 (⟨⟨[105,115,95,101,109,112,116,121]⟩⟩,D.fn 238),
 (⟨⟨[116,97,105,108,95,111,102]⟩⟩,D.fn 245),
 (⟨⟨[83,101,97,114,99,104]⟩⟩,D.fn 338),
 (⟨⟨[110,97,114,114,111,119,101,100]⟩⟩,D.fn 349),
 (⟨⟨[119,105,100,101,110,101,100]⟩⟩,D.fn 356),
 (⟨⟨[104,97,115,95,119,105,116,104,105,110]⟩⟩,D.fn 363),
 (⟨⟨[116,117,112,108,101,95,119,97,121,115]⟩⟩,D.fn 368),
 (⟨⟨[105,115,95,115,117,98,116,121,112,101]⟩⟩,D.fn 376),
 (⟨⟨[109,97,116,99,104,101,100]⟩⟩,D.fn 382),
 (⟨⟨[116,111,108,100,95,112,97,114,97,109]⟩⟩,D.fn 387),
 (⟨⟨[82,111,119,115,69,114,114,111,114]⟩⟩,D.fn 405),
 (⟨⟨[75,105,110,100,70,97,117,108,116]⟩⟩,D.fn 418),
 (⟨⟨[68,101,99,108]⟩⟩,D.fn 461),
 (⟨⟨[75,105,110,100,115]⟩⟩,D.fn 548),
 (⟨⟨[110,111,109,105,110,97,108]⟩⟩,D.fn 560),
 (⟨⟨[115,116,97,114,116,95,107,105,110,100,115]⟩⟩,D.fn 567),
 (⟨⟨[115,116,97,114,116,95,101,114,114,111,114,115]⟩⟩,D.fn 574),
 (⟨⟨[115,116,97,114,116,95,114,111,119,115]⟩⟩,D.fn 581),
 (⟨⟨[95,108,97,119,95,106,97,114]⟩⟩,D.fn 588),
 (⟨⟨[95,108,97,119,95,112,117,108,108]⟩⟩,D.fn 595),
 (⟨⟨[95,108,97,119,95,110,97,109,101]⟩⟩,D.fn 602),
 (⟨⟨[95,108,97,119,95,97,114,114,97,121]⟩⟩,D.fn 609),
 (⟨⟨[95,108,97,119,95,112,97,114,116]⟩⟩,D.fn 616)]
noncomputable def Wg:G (ar×D):=[
 (⟨⟨[95,108,97,119,95,99,111,110,99,114,101,116,101]⟩⟩,D.fn 623),
 (⟨⟨[95,108,97,119,95,115,105,103]⟩⟩,D.fn 630),
 (⟨⟨[95,108,97,119,95,109,97,100,101]⟩⟩,D.fn 637),
 (⟨⟨[95,108,97,119,95,100,117,101]⟩⟩,D.fn 642),
 (⟨⟨[95,108,97,119,95,102,105,120,101,100,95,114,105,103,104,116]⟩⟩,D.fn 649),
 (⟨⟨[95,108,97,119,95,119,114,111,110,103,95,114,105,103,104,116]⟩⟩,D.fn 654),
 (⟨⟨[108,97,119]⟩⟩,D.fn 659),
 (⟨⟨[65,78,89]⟩⟩,D.tup [D.str ⟨⟨[110,97,109,101]⟩⟩,D.str ⟨⟨[65,110,121]⟩⟩,D.tup []]),
 (⟨⟨[66,79,84,84,79,77]⟩⟩,D.tup [D.str ⟨⟨[98,111,116,116,111,109]⟩⟩]),
 (⟨⟨[84,89,80,69]⟩⟩,D.tup [D.str ⟨⟨[110,97,109,101]⟩⟩,D.str ⟨⟨[84,121,112,101]⟩⟩,D.tup []]),
 (⟨⟨[70,85,78,67,84,73,79,78]⟩⟩,D.tup [D.str ⟨⟨[110,97,109,101]⟩⟩,D.str ⟨⟨[70,117,110,99,116,105,111,110]⟩⟩,D.tup []]),
 (⟨⟨[83,73,71,78,69,68]⟩⟩,D.tup [D.str ⟨⟨[73,110,116,56]⟩⟩,D.str ⟨⟨[73,110,116,49,54]⟩⟩,D.str ⟨⟨[73,110,116,51,50]⟩⟩,D.str ⟨⟨[73,110,116,54,52]⟩⟩,D.str ⟨⟨[66,105,103,73,110,116]⟩⟩]),
 (⟨⟨[85,78,83,73,71,78,69,68]⟩⟩,D.tup [D.str ⟨⟨[85,73,110,116,56]⟩⟩,D.str ⟨⟨[85,73,110,116,49,54]⟩⟩,D.str ⟨⟨[85,73,110,116,51,50]⟩⟩,D.str ⟨⟨[85,73,110,116,54,52]⟩⟩]),
 (⟨⟨[80,76,65,73,78,95,69,82,82,79,82,83]⟩⟩,D.tup [D.str ⟨⟨[68,105,118,105,100,101,69,114,114,111,114]⟩⟩,D.str ⟨⟨[73,110,101,120,97,99,116,69,114,114,111,114]⟩⟩,D.str ⟨⟨[84,121,112,101,69,114,114,111,114]⟩⟩,D.str ⟨⟨[83,116,97,99,107,79,118,101,114,102,108,111,119,69,114,114,111,114]⟩⟩]),
 (⟨⟨[84,69,88,84,95,69,82,82,79,82,83]⟩⟩,D.tup [D.str ⟨⟨[65,114,103,117,109,101,110,116,69,114,114,111,114]⟩⟩,D.str ⟨⟨[79,118,101,114,102,108,111,119,69,114,114,111,114]⟩⟩,D.str ⟨⟨[68,105,109,101,110,115,105,111,110,77,105,115,109,97,116,99,104]⟩⟩,D.str ⟨⟨[69,114,114,111,114,69,120,99,101,112,116,105,111,110]⟩⟩]),
 (⟨⟨[67,65,76,76,95,69,82,82,79,82,83]⟩⟩,D.tup [D.str ⟨⟨[77,101,116,104,111,100,69,114,114,111,114]⟩⟩,D.str ⟨⟨[65,109,98,105,103,117,111,117,115,69,114,114,111,114]⟩⟩]),
 (⟨⟨[77,79,83,84,95,67,65,83,69,83]⟩⟩,D.int 64),
 (⟨⟨[108,105,115,116]⟩⟩,D.bi .list),
 (⟨⟨[116,117,112,108,101]⟩⟩,D.bi .tuple),
 (⟨⟨[100,105,99,116]⟩⟩,D.bi .dict),
 (⟨⟨[115,116,114]⟩⟩,D.bi .str),
 (⟨⟨[105,110,116]⟩⟩,D.bi .int),
 (⟨⟨[108,101,110]⟩⟩,D.bi .len),
 (⟨⟨[109,97,120]⟩⟩,D.bi .max),
 (⟨⟨[115,117,109]⟩⟩,D.bi .sum),
 (⟨⟨[109,105,110]⟩⟩,D.bi .min),
 (⟨⟨[115,111,114,116,101,100]⟩⟩,D.bi .sorted),
 (⟨⟨[114,97,110,103,101]⟩⟩,D.bi .range),
 (⟨⟨[122,105,112]⟩⟩,D.bi .zip)]
noncomputable def Al:G (ar×D):=Wf++Wg
noncomputable def defAt(P:a_)(i:H)(j:aa H):aa en:=match P.main.body[i]?,j with
 |some s,.none=>some s
 |some (.ClassDef _ _ _ b _ _ _ _ _ _ _),some j=>b[j]?
 |_,_=>.none
noncomputable def VO(ds:G D):en->aa Fn
 |.FunctionDef _ a b _ _ _ sc _ _ _=>some ⟨a.args.length,ds,b,sc.names⟩
 |_=>.none
noncomputable def yf{α:Type}(B:G (H×α))(x:H):aa α:=@b9 (H×α) (λ_=>aa α) .none (λp _ O=>@bN (λ_=>aa α) O (some p.2) (bA p.1 x)) B
noncomputable def xt(P:a_)(x:H×aa H×G D):aa Fn:=match defAt P x.1 x.2.1 with
 |some s=>VO x.2.2 s
 |.none=>.none
noncomputable def fnIn(P:a_)(a:H):aa Fn:=match yf mw a with
 |some x=>xt P x
 |.none=>.none
noncomputable def WP(P:a_)(gX:H->G D->MH->aa (H×D×MH))(rz:H->aa D)(eqv:D->D->aa ah):bQ:=⟨λx=>g_ Al x,fnIn P,yf zT,595,gX,rz,eqv⟩
noncomputable def ag3(ns:G ba):D:=.aD (.list 63) (ns.map D.int)
noncomputable def af_:cU ah:=⟨false,λn k=>(fY n).all k⟩
noncomputable def aH:D:=(.aD (.inst 548 [⟨⟨[100,101,99,108,115]⟩⟩]) [(.aD (.dict [⟨⟨[65,110,121]⟩⟩,⟨⟨[84,121,112,101]⟩⟩,⟨⟨[70,117,110,99,116,105,111,110]⟩⟩,⟨⟨[78,117,109,98,101,114]⟩⟩,⟨⟨[65,98,115,116,114,97,99,116,67,104,97,114]⟩⟩,⟨⟨[65,98,115,116,114,97,99,116,83,116,114,105,110,103]⟩⟩,⟨⟨[69,120,99,101,112,116,105,111,110]⟩⟩,⟨⟨[82,101,97,108]⟩⟩,⟨⟨[73,110,116,101,103,101,114]⟩⟩,⟨⟨[83,105,103,110,101,100]⟩⟩,⟨⟨[85,110,115,105,103,110,101,100]⟩⟩,⟨⟨[73,110,116,56]⟩⟩,⟨⟨[73,110,116,49,54]⟩⟩,⟨⟨[73,110,116,51,50]⟩⟩,⟨⟨[73,110,116,54,52]⟩⟩,⟨⟨[66,105,103,73,110,116]⟩⟩,⟨⟨[85,73,110,116,56]⟩⟩,⟨⟨[85,73,110,116,49,54]⟩⟩,⟨⟨[85,73,110,116,51,50]⟩⟩,⟨⟨[85,73,110,116,54,52]⟩⟩,⟨⟨[66,111,111,108]⟩⟩,⟨⟨[67,104,97,114]⟩⟩,⟨⟨[83,116,114,105,110,103]⟩⟩,⟨⟨[83,121,109,98,111,108]⟩⟩,⟨⟨[78,111,116,104,105,110,103]⟩⟩,⟨⟨[69,120,112,114]⟩⟩,⟨⟨[68,105,118,105,100,101,69,114,114,111,114]⟩⟩,⟨⟨[73,110,101,120,97,99,116,69,114,114,111,114]⟩⟩,⟨⟨[84,121,112,101,69,114,114,111,114]⟩⟩,⟨⟨[83,116,97,99,107,79,118,101,114,102,108,111,119,69,114,114,111,114]⟩⟩,⟨⟨[65,114,103,117,109,101,110,116,69,114,114,111,114]⟩⟩,⟨⟨[79,118,101,114,102,108,111,119,69,114,114,111,114]⟩⟩,⟨⟨[68,105,109,101,110,115,105,111,110,77,105,115,109,97,116,99,104]⟩⟩,⟨⟨[69,114,114,111,114,69,120,99,101,112,116,105,111,110]⟩⟩,⟨⟨[77,101,116,104,111,100,69,114,114,111,114]⟩⟩,⟨⟨[65,109,98,105,103,117,111,117,115,69,114,114,111,114]⟩⟩,⟨⟨[85,110,100,101,102,86,97,114,69,114,114,111,114]⟩⟩,⟨⟨[66,111,117,110,100,115,69,114,114,111,114]⟩⟩,⟨⟨[65,98,115,116,114,97,99,116,65,114,114,97,121]⟩⟩,⟨⟨[65,114,114,97,121]⟩⟩,⟨⟨[83,117,98,65,114,114,97,121]⟩⟩,⟨⟨[65,98,115,116,114,97,99,116,82,97,110,103,101]⟩⟩,⟨⟨[85,110,105,116,82,97,110,103,101]⟩⟩,⟨⟨[83,116,101,112,82,97,110,103,101]⟩⟩,⟨⟨[82,101,102]⟩⟩,⟨⟨[82,97,116,105,111,110,97,108]⟩⟩]) [(.aD (.inst 461 [⟨⟨[110,97,109,101]⟩⟩,⟨⟨[112,97,114,97,109,115]⟩⟩,⟨⟨[115,117,112,101,114]⟩⟩,⟨⟨[105,115,95,97,98,115,116,114,97,99,116]⟩⟩,⟨⟨[105,115,95,109,117,116,97,98,108,101]⟩⟩,⟨⟨[102,105,101,108,100,115]⟩⟩]) [(.str ⟨⟨[65,110,121]⟩⟩),(.aD (.list 0) []),.none,(.bool .true),(.bool .false),(.aD (.list 0) [])]),(.aD (.inst 461 [⟨⟨[110,97,109,101]⟩⟩,⟨⟨[112,97,114,97,109,115]⟩⟩,⟨⟨[115,117,112,101,114]⟩⟩,⟨⟨[105,115,95,97,98,115,116,114,97,99,116]⟩⟩,⟨⟨[105,115,95,109,117,116,97,98,108,101]⟩⟩,⟨⟨[102,105,101,108,100,115]⟩⟩]) [(.str ⟨⟨[84,121,112,101]⟩⟩),(.aD (.list 0) []),(.tup [(.str ⟨⟨[110,97,109,101]⟩⟩),(.str ⟨⟨[65,110,121]⟩⟩),(.tup [])]),(.bool .true),(.bool .false),(.aD (.list 0) [])]),(.aD (.inst 461 [⟨⟨[110,97,109,101]⟩⟩,⟨⟨[112,97,114,97,109,115]⟩⟩,⟨⟨[115,117,112,101,114]⟩⟩,⟨⟨[105,115,95,97,98,115,116,114,97,99,116]⟩⟩,⟨⟨[105,115,95,109,117,116,97,98,108,101]⟩⟩,⟨⟨[102,105,101,108,100,115]⟩⟩]) [(.str ⟨⟨[70,117,110,99,116,105,111,110]⟩⟩),(.aD (.list 0) []),(.tup [(.str ⟨⟨[110,97,109,101]⟩⟩),(.str ⟨⟨[65,110,121]⟩⟩),(.tup [])]),(.bool .true),(.bool .false),(.aD (.list 0) [])]),(.aD (.inst 461 [⟨⟨[110,97,109,101]⟩⟩,⟨⟨[112,97,114,97,109,115]⟩⟩,⟨⟨[115,117,112,101,114]⟩⟩,⟨⟨[105,115,95,97,98,115,116,114,97,99,116]⟩⟩,⟨⟨[105,115,95,109,117,116,97,98,108,101]⟩⟩,⟨⟨[102,105,101,108,100,115]⟩⟩]) [(.str ⟨⟨[78,117,109,98,101,114]⟩⟩),(.aD (.list 0) []),(.tup [(.str ⟨⟨[110,97,109,101]⟩⟩),(.str ⟨⟨[65,110,121]⟩⟩),(.tup [])]),(.bool .true),(.bool .false),(.aD (.list 0) [])]),(.aD (.inst 461 [⟨⟨[110,97,109,101]⟩⟩,⟨⟨[112,97,114,97,109,115]⟩⟩,⟨⟨[115,117,112,101,114]⟩⟩,⟨⟨[105,115,95,97,98,115,116,114,97,99,116]⟩⟩,⟨⟨[105,115,95,109,117,116,97,98,108,101]⟩⟩,⟨⟨[102,105,101,108,100,115]⟩⟩]) [(.str ⟨⟨[65,98,115,116,114,97,99,116,67,104,97,114]⟩⟩),(.aD (.list 0) []),(.tup [(.str ⟨⟨[110,97,109,101]⟩⟩),(.str ⟨⟨[65,110,121]⟩⟩),(.tup [])]),(.bool .true),(.bool .false),(.aD (.list 0) [])]),(.aD (.inst 461 [⟨⟨[110,97,109,101]⟩⟩,⟨⟨[112,97,114,97,109,115]⟩⟩,⟨⟨[115,117,112,101,114]⟩⟩,⟨⟨[105,115,95,97,98,115,116,114,97,99,116]⟩⟩,⟨⟨[105,115,95,109,117,116,97,98,108,101]⟩⟩,⟨⟨[102,105,101,108,100,115]⟩⟩]) [(.str ⟨⟨[65,98,115,116,114,97,99,116,83,116,114,105,110,103]⟩⟩),(.aD (.list 0) []),(.tup [(.str ⟨⟨[110,97,109,101]⟩⟩),(.str ⟨⟨[65,110,121]⟩⟩),(.tup [])]),(.bool .true),(.bool .false),(.aD (.list 0) [])]),(.aD (.inst 461 [⟨⟨[110,97,109,101]⟩⟩,⟨⟨[112,97,114,97,109,115]⟩⟩,⟨⟨[115,117,112,101,114]⟩⟩,⟨⟨[105,115,95,97,98,115,116,114,97,99,116]⟩⟩,⟨⟨[105,115,95,109,117,116,97,98,108,101]⟩⟩,⟨⟨[102,105,101,108,100,115]⟩⟩]) [(.str ⟨⟨[69,120,99,101,112,116,105,111,110]⟩⟩),(.aD (.list 0) []),(.tup [(.str ⟨⟨[110,97,109,101]⟩⟩),(.str ⟨⟨[65,110,121]⟩⟩),(.tup [])]),(.bool .true),(.bool .false),(.aD (.list 0) [])]),(.aD (.inst 461 [⟨⟨[110,97,109,101]⟩⟩,⟨⟨[112,97,114,97,109,115]⟩⟩,⟨⟨[115,117,112,101,114]⟩⟩,⟨⟨[105,115,95,97,98,115,116,114,97,99,116]⟩⟩,⟨⟨[105,115,95,109,117,116,97,98,108,101]⟩⟩,⟨⟨[102,105,101,108,100,115]⟩⟩]) [(.str ⟨⟨[82,101,97,108]⟩⟩),(.aD (.list 0) []),(.tup [(.str ⟨⟨[110,97,109,101]⟩⟩),(.str ⟨⟨[78,117,109,98,101,114]⟩⟩),(.tup [])]),(.bool .true),(.bool .false),(.aD (.list 0) [])]),(.aD (.inst 461 [⟨⟨[110,97,109,101]⟩⟩,⟨⟨[112,97,114,97,109,115]⟩⟩,⟨⟨[115,117,112,101,114]⟩⟩,⟨⟨[105,115,95,97,98,115,116,114,97,99,116]⟩⟩,⟨⟨[105,115,95,109,117,116,97,98,108,101]⟩⟩,⟨⟨[102,105,101,108,100,115]⟩⟩]) [(.str ⟨⟨[73,110,116,101,103,101,114]⟩⟩),(.aD (.list 0) []),(.tup [(.str ⟨⟨[110,97,109,101]⟩⟩),(.str ⟨⟨[82,101,97,108]⟩⟩),(.tup [])]),(.bool .true),(.bool .false),(.aD (.list 0) [])]),(.aD (.inst 461 [⟨⟨[110,97,109,101]⟩⟩,⟨⟨[112,97,114,97,109,115]⟩⟩,⟨⟨[115,117,112,101,114]⟩⟩,⟨⟨[105,115,95,97,98,115,116,114,97,99,116]⟩⟩,⟨⟨[105,115,95,109,117,116,97,98,108,101]⟩⟩,⟨⟨[102,105,101,108,100,115]⟩⟩]) [(.str ⟨⟨[83,105,103,110,101,100]⟩⟩),(.aD (.list 0) []),(.tup [(.str ⟨⟨[110,97,109,101]⟩⟩),(.str ⟨⟨[73,110,116,101,103,101,114]⟩⟩),(.tup [])]),(.bool .true),(.bool .false),(.aD (.list 0) [])]),(.aD (.inst 461 [⟨⟨[110,97,109,101]⟩⟩,⟨⟨[112,97,114,97,109,115]⟩⟩,⟨⟨[115,117,112,101,114]⟩⟩,⟨⟨[105,115,95,97,98,115,116,114,97,99,116]⟩⟩,⟨⟨[105,115,95,109,117,116,97,98,108,101]⟩⟩,⟨⟨[102,105,101,108,100,115]⟩⟩]) [(.str ⟨⟨[85,110,115,105,103,110,101,100]⟩⟩),(.aD (.list 0) []),(.tup [(.str ⟨⟨[110,97,109,101]⟩⟩),(.str ⟨⟨[73,110,116,101,103,101,114]⟩⟩),(.tup [])]),(.bool .true),(.bool .false),(.aD (.list 0) [])]),(.aD (.inst 461 [⟨⟨[110,97,109,101]⟩⟩,⟨⟨[112,97,114,97,109,115]⟩⟩,⟨⟨[115,117,112,101,114]⟩⟩,⟨⟨[105,115,95,97,98,115,116,114,97,99,116]⟩⟩,⟨⟨[105,115,95,109,117,116,97,98,108,101]⟩⟩,⟨⟨[102,105,101,108,100,115]⟩⟩]) [(.str ⟨⟨[73,110,116,56]⟩⟩),(.aD (.list 0) []),(.tup [(.str ⟨⟨[110,97,109,101]⟩⟩),(.str ⟨⟨[83,105,103,110,101,100]⟩⟩),(.tup [])]),(.bool .false),(.bool .false),(.aD (.list 0) [])]),(.aD (.inst 461 [⟨⟨[110,97,109,101]⟩⟩,⟨⟨[112,97,114,97,109,115]⟩⟩,⟨⟨[115,117,112,101,114]⟩⟩,⟨⟨[105,115,95,97,98,115,116,114,97,99,116]⟩⟩,⟨⟨[105,115,95,109,117,116,97,98,108,101]⟩⟩,⟨⟨[102,105,101,108,100,115]⟩⟩]) [(.str ⟨⟨[73,110,116,49,54]⟩⟩),(.aD (.list 0) []),(.tup [(.str ⟨⟨[110,97,109,101]⟩⟩),(.str ⟨⟨[83,105,103,110,101,100]⟩⟩),(.tup [])]),(.bool .false),(.bool .false),(.aD (.list 0) [])]),(.aD (.inst 461 [⟨⟨[110,97,109,101]⟩⟩,⟨⟨[112,97,114,97,109,115]⟩⟩,⟨⟨[115,117,112,101,114]⟩⟩,⟨⟨[105,115,95,97,98,115,116,114,97,99,116]⟩⟩,⟨⟨[105,115,95,109,117,116,97,98,108,101]⟩⟩,⟨⟨[102,105,101,108,100,115]⟩⟩]) [(.str ⟨⟨[73,110,116,51,50]⟩⟩),(.aD (.list 0) []),(.tup [(.str ⟨⟨[110,97,109,101]⟩⟩),(.str ⟨⟨[83,105,103,110,101,100]⟩⟩),(.tup [])]),(.bool .false),(.bool .false),(.aD (.list 0) [])]),(.aD (.inst 461 [⟨⟨[110,97,109,101]⟩⟩,⟨⟨[112,97,114,97,109,115]⟩⟩,⟨⟨[115,117,112,101,114]⟩⟩,⟨⟨[105,115,95,97,98,115,116,114,97,99,116]⟩⟩,⟨⟨[105,115,95,109,117,116,97,98,108,101]⟩⟩,⟨⟨[102,105,101,108,100,115]⟩⟩]) [(.str ⟨⟨[73,110,116,54,52]⟩⟩),(.aD (.list 0) []),(.tup [(.str ⟨⟨[110,97,109,101]⟩⟩),(.str ⟨⟨[83,105,103,110,101,100]⟩⟩),(.tup [])]),(.bool .false),(.bool .false),(.aD (.list 0) [])]),(.aD (.inst 461 [⟨⟨[110,97,109,101]⟩⟩,⟨⟨[112,97,114,97,109,115]⟩⟩,⟨⟨[115,117,112,101,114]⟩⟩,⟨⟨[105,115,95,97,98,115,116,114,97,99,116]⟩⟩,⟨⟨[105,115,95,109,117,116,97,98,108,101]⟩⟩,⟨⟨[102,105,101,108,100,115]⟩⟩]) [(.str ⟨⟨[66,105,103,73,110,116]⟩⟩),(.aD (.list 0) []),(.tup [(.str ⟨⟨[110,97,109,101]⟩⟩),(.str ⟨⟨[83,105,103,110,101,100]⟩⟩),(.tup [])]),(.bool .false),(.bool .false),(.aD (.list 0) [])]),(.aD (.inst 461 [⟨⟨[110,97,109,101]⟩⟩,⟨⟨[112,97,114,97,109,115]⟩⟩,⟨⟨[115,117,112,101,114]⟩⟩,⟨⟨[105,115,95,97,98,115,116,114,97,99,116]⟩⟩,⟨⟨[105,115,95,109,117,116,97,98,108,101]⟩⟩,⟨⟨[102,105,101,108,100,115]⟩⟩]) [(.str ⟨⟨[85,73,110,116,56]⟩⟩),(.aD (.list 0) []),(.tup [(.str ⟨⟨[110,97,109,101]⟩⟩),(.str ⟨⟨[85,110,115,105,103,110,101,100]⟩⟩),(.tup [])]),(.bool .false),(.bool .false),(.aD (.list 0) [])]),(.aD (.inst 461 [⟨⟨[110,97,109,101]⟩⟩,⟨⟨[112,97,114,97,109,115]⟩⟩,⟨⟨[115,117,112,101,114]⟩⟩,⟨⟨[105,115,95,97,98,115,116,114,97,99,116]⟩⟩,⟨⟨[105,115,95,109,117,116,97,98,108,101]⟩⟩,⟨⟨[102,105,101,108,100,115]⟩⟩]) [(.str ⟨⟨[85,73,110,116,49,54]⟩⟩),(.aD (.list 0) []),(.tup [(.str ⟨⟨[110,97,109,101]⟩⟩),(.str ⟨⟨[85,110,115,105,103,110,101,100]⟩⟩),(.tup [])]),(.bool .false),(.bool .false),(.aD (.list 0) [])]),(.aD (.inst 461 [⟨⟨[110,97,109,101]⟩⟩,⟨⟨[112,97,114,97,109,115]⟩⟩,⟨⟨[115,117,112,101,114]⟩⟩,⟨⟨[105,115,95,97,98,115,116,114,97,99,116]⟩⟩,⟨⟨[105,115,95,109,117,116,97,98,108,101]⟩⟩,⟨⟨[102,105,101,108,100,115]⟩⟩]) [(.str ⟨⟨[85,73,110,116,51,50]⟩⟩),(.aD (.list 0) []),(.tup [(.str ⟨⟨[110,97,109,101]⟩⟩),(.str ⟨⟨[85,110,115,105,103,110,101,100]⟩⟩),(.tup [])]),(.bool .false),(.bool .false),(.aD (.list 0) [])]),(.aD (.inst 461 [⟨⟨[110,97,109,101]⟩⟩,⟨⟨[112,97,114,97,109,115]⟩⟩,⟨⟨[115,117,112,101,114]⟩⟩,⟨⟨[105,115,95,97,98,115,116,114,97,99,116]⟩⟩,⟨⟨[105,115,95,109,117,116,97,98,108,101]⟩⟩,⟨⟨[102,105,101,108,100,115]⟩⟩]) [(.str ⟨⟨[85,73,110,116,54,52]⟩⟩),(.aD (.list 0) []),(.tup [(.str ⟨⟨[110,97,109,101]⟩⟩),(.str ⟨⟨[85,110,115,105,103,110,101,100]⟩⟩),(.tup [])]),(.bool .false),(.bool .false),(.aD (.list 0) [])]),(.aD (.inst 461 [⟨⟨[110,97,109,101]⟩⟩,⟨⟨[112,97,114,97,109,115]⟩⟩,⟨⟨[115,117,112,101,114]⟩⟩,⟨⟨[105,115,95,97,98,115,116,114,97,99,116]⟩⟩,⟨⟨[105,115,95,109,117,116,97,98,108,101]⟩⟩,⟨⟨[102,105,101,108,100,115]⟩⟩]) [(.str ⟨⟨[66,111,111,108]⟩⟩),(.aD (.list 0) []),(.tup [(.str ⟨⟨[110,97,109,101]⟩⟩),(.str ⟨⟨[73,110,116,101,103,101,114]⟩⟩),(.tup [])]),(.bool .false),(.bool .false),(.aD (.list 0) [])]),(.aD (.inst 461 [⟨⟨[110,97,109,101]⟩⟩,⟨⟨[112,97,114,97,109,115]⟩⟩,⟨⟨[115,117,112,101,114]⟩⟩,⟨⟨[105,115,95,97,98,115,116,114,97,99,116]⟩⟩,⟨⟨[105,115,95,109,117,116,97,98,108,101]⟩⟩,⟨⟨[102,105,101,108,100,115]⟩⟩]) [(.str ⟨⟨[67,104,97,114]⟩⟩),(.aD (.list 0) []),(.tup [(.str ⟨⟨[110,97,109,101]⟩⟩),(.str ⟨⟨[65,98,115,116,114,97,99,116,67,104,97,114]⟩⟩),(.tup [])]),(.bool .false),(.bool .false),(.aD (.list 0) [])]),(.aD (.inst 461 [⟨⟨[110,97,109,101]⟩⟩,⟨⟨[112,97,114,97,109,115]⟩⟩,⟨⟨[115,117,112,101,114]⟩⟩,⟨⟨[105,115,95,97,98,115,116,114,97,99,116]⟩⟩,⟨⟨[105,115,95,109,117,116,97,98,108,101]⟩⟩,⟨⟨[102,105,101,108,100,115]⟩⟩]) [(.str ⟨⟨[83,116,114,105,110,103]⟩⟩),(.aD (.list 0) []),(.tup [(.str ⟨⟨[110,97,109,101]⟩⟩),(.str ⟨⟨[65,98,115,116,114,97,99,116,83,116,114,105,110,103]⟩⟩),(.tup [])]),(.bool .false),(.bool .false),(.aD (.list 0) [])]),(.aD (.inst 461 [⟨⟨[110,97,109,101]⟩⟩,⟨⟨[112,97,114,97,109,115]⟩⟩,⟨⟨[115,117,112,101,114]⟩⟩,⟨⟨[105,115,95,97,98,115,116,114,97,99,116]⟩⟩,⟨⟨[105,115,95,109,117,116,97,98,108,101]⟩⟩,⟨⟨[102,105,101,108,100,115]⟩⟩]) [(.str ⟨⟨[83,121,109,98,111,108]⟩⟩),(.aD (.list 0) []),(.tup [(.str ⟨⟨[110,97,109,101]⟩⟩),(.str ⟨⟨[65,110,121]⟩⟩),(.tup [])]),(.bool .false),(.bool .false),(.aD (.list 0) [])]),(.aD (.inst 461 [⟨⟨[110,97,109,101]⟩⟩,⟨⟨[112,97,114,97,109,115]⟩⟩,⟨⟨[115,117,112,101,114]⟩⟩,⟨⟨[105,115,95,97,98,115,116,114,97,99,116]⟩⟩,⟨⟨[105,115,95,109,117,116,97,98,108,101]⟩⟩,⟨⟨[102,105,101,108,100,115]⟩⟩]) [(.str ⟨⟨[78,111,116,104,105,110,103]⟩⟩),(.aD (.list 0) []),(.tup [(.str ⟨⟨[110,97,109,101]⟩⟩),(.str ⟨⟨[65,110,121]⟩⟩),(.tup [])]),(.bool .false),(.bool .false),(.aD (.list 0) [])]),(.aD (.inst 461 [⟨⟨[110,97,109,101]⟩⟩,⟨⟨[112,97,114,97,109,115]⟩⟩,⟨⟨[115,117,112,101,114]⟩⟩,⟨⟨[105,115,95,97,98,115,116,114,97,99,116]⟩⟩,⟨⟨[105,115,95,109,117,116,97,98,108,101]⟩⟩,⟨⟨[102,105,101,108,100,115]⟩⟩]) [(.str ⟨⟨[69,120,112,114]⟩⟩),(.aD (.list 0) []),(.tup [(.str ⟨⟨[110,97,109,101]⟩⟩),(.str ⟨⟨[65,110,121]⟩⟩),(.tup [])]),(.bool .false),(.bool .true),(.aD (.list 2) [(.tup [(.str ⟨⟨[104,101,97,100]⟩⟩),(.tup [(.str ⟨⟨[110,97,109,101]⟩⟩),(.str ⟨⟨[83,121,109,98,111,108]⟩⟩),(.tup [])])]),(.tup [(.str ⟨⟨[97,114,103,115]⟩⟩),(.tup [(.str ⟨⟨[110,97,109,101]⟩⟩),(.str ⟨⟨[65,110,121]⟩⟩),(.tup [])])])])]),(.aD (.inst 461 [⟨⟨[110,97,109,101]⟩⟩,⟨⟨[112,97,114,97,109,115]⟩⟩,⟨⟨[115,117,112,101,114]⟩⟩,⟨⟨[105,115,95,97,98,115,116,114,97,99,116]⟩⟩,⟨⟨[105,115,95,109,117,116,97,98,108,101]⟩⟩,⟨⟨[102,105,101,108,100,115]⟩⟩]) [(.str ⟨⟨[68,105,118,105,100,101,69,114,114,111,114]⟩⟩),(.aD (.list 0) []),(.tup [(.str ⟨⟨[110,97,109,101]⟩⟩),(.str ⟨⟨[69,120,99,101,112,116,105,111,110]⟩⟩),(.tup [])]),(.bool .false),(.bool .false),(.aD (.list 0) [])]),(.aD (.inst 461 [⟨⟨[110,97,109,101]⟩⟩,⟨⟨[112,97,114,97,109,115]⟩⟩,⟨⟨[115,117,112,101,114]⟩⟩,⟨⟨[105,115,95,97,98,115,116,114,97,99,116]⟩⟩,⟨⟨[105,115,95,109,117,116,97,98,108,101]⟩⟩,⟨⟨[102,105,101,108,100,115]⟩⟩]) [(.str ⟨⟨[73,110,101,120,97,99,116,69,114,114,111,114]⟩⟩),(.aD (.list 0) []),(.tup [(.str ⟨⟨[110,97,109,101]⟩⟩),(.str ⟨⟨[69,120,99,101,112,116,105,111,110]⟩⟩),(.tup [])]),(.bool .false),(.bool .false),(.aD (.list 0) [])]),(.aD (.inst 461 [⟨⟨[110,97,109,101]⟩⟩,⟨⟨[112,97,114,97,109,115]⟩⟩,⟨⟨[115,117,112,101,114]⟩⟩,⟨⟨[105,115,95,97,98,115,116,114,97,99,116]⟩⟩,⟨⟨[105,115,95,109,117,116,97,98,108,101]⟩⟩,⟨⟨[102,105,101,108,100,115]⟩⟩]) [(.str ⟨⟨[84,121,112,101,69,114,114,111,114]⟩⟩),(.aD (.list 0) []),(.tup [(.str ⟨⟨[110,97,109,101]⟩⟩),(.str ⟨⟨[69,120,99,101,112,116,105,111,110]⟩⟩),(.tup [])]),(.bool .false),(.bool .false),(.aD (.list 0) [])]),(.aD (.inst 461 [⟨⟨[110,97,109,101]⟩⟩,⟨⟨[112,97,114,97,109,115]⟩⟩,⟨⟨[115,117,112,101,114]⟩⟩,⟨⟨[105,115,95,97,98,115,116,114,97,99,116]⟩⟩,⟨⟨[105,115,95,109,117,116,97,98,108,101]⟩⟩,⟨⟨[102,105,101,108,100,115]⟩⟩]) [(.str ⟨⟨[83,116,97,99,107,79,118,101,114,102,108,111,119,69,114,114,111,114]⟩⟩),(.aD (.list 0) []),(.tup [(.str ⟨⟨[110,97,109,101]⟩⟩),(.str ⟨⟨[69,120,99,101,112,116,105,111,110]⟩⟩),(.tup [])]),(.bool .false),(.bool .false),(.aD (.list 0) [])]),(.aD (.inst 461 [⟨⟨[110,97,109,101]⟩⟩,⟨⟨[112,97,114,97,109,115]⟩⟩,⟨⟨[115,117,112,101,114]⟩⟩,⟨⟨[105,115,95,97,98,115,116,114,97,99,116]⟩⟩,⟨⟨[105,115,95,109,117,116,97,98,108,101]⟩⟩,⟨⟨[102,105,101,108,100,115]⟩⟩]) [(.str ⟨⟨[65,114,103,117,109,101,110,116,69,114,114,111,114]⟩⟩),(.aD (.list 0) []),(.tup [(.str ⟨⟨[110,97,109,101]⟩⟩),(.str ⟨⟨[69,120,99,101,112,116,105,111,110]⟩⟩),(.tup [])]),(.bool .false),(.bool .false),(.aD (.list 1) [(.tup [(.str ⟨⟨[109,115,103]⟩⟩),(.tup [(.str ⟨⟨[110,97,109,101]⟩⟩),(.str ⟨⟨[65,110,121]⟩⟩),(.tup [])])])])]),(.aD (.inst 461 [⟨⟨[110,97,109,101]⟩⟩,⟨⟨[112,97,114,97,109,115]⟩⟩,⟨⟨[115,117,112,101,114]⟩⟩,⟨⟨[105,115,95,97,98,115,116,114,97,99,116]⟩⟩,⟨⟨[105,115,95,109,117,116,97,98,108,101]⟩⟩,⟨⟨[102,105,101,108,100,115]⟩⟩]) [(.str ⟨⟨[79,118,101,114,102,108,111,119,69,114,114,111,114]⟩⟩),(.aD (.list 0) []),(.tup [(.str ⟨⟨[110,97,109,101]⟩⟩),(.str ⟨⟨[69,120,99,101,112,116,105,111,110]⟩⟩),(.tup [])]),(.bool .false),(.bool .false),(.aD (.list 1) [(.tup [(.str ⟨⟨[109,115,103]⟩⟩),(.tup [(.str ⟨⟨[110,97,109,101]⟩⟩),(.str ⟨⟨[65,110,121]⟩⟩),(.tup [])])])])]),(.aD (.inst 461 [⟨⟨[110,97,109,101]⟩⟩,⟨⟨[112,97,114,97,109,115]⟩⟩,⟨⟨[115,117,112,101,114]⟩⟩,⟨⟨[105,115,95,97,98,115,116,114,97,99,116]⟩⟩,⟨⟨[105,115,95,109,117,116,97,98,108,101]⟩⟩,⟨⟨[102,105,101,108,100,115]⟩⟩]) [(.str ⟨⟨[68,105,109,101,110,115,105,111,110,77,105,115,109,97,116,99,104]⟩⟩),(.aD (.list 0) []),(.tup [(.str ⟨⟨[110,97,109,101]⟩⟩),(.str ⟨⟨[69,120,99,101,112,116,105,111,110]⟩⟩),(.tup [])]),(.bool .false),(.bool .false),(.aD (.list 1) [(.tup [(.str ⟨⟨[109,115,103]⟩⟩),(.tup [(.str ⟨⟨[110,97,109,101]⟩⟩),(.str ⟨⟨[65,110,121]⟩⟩),(.tup [])])])])]),(.aD (.inst 461 [⟨⟨[110,97,109,101]⟩⟩,⟨⟨[112,97,114,97,109,115]⟩⟩,⟨⟨[115,117,112,101,114]⟩⟩,⟨⟨[105,115,95,97,98,115,116,114,97,99,116]⟩⟩,⟨⟨[105,115,95,109,117,116,97,98,108,101]⟩⟩,⟨⟨[102,105,101,108,100,115]⟩⟩]) [(.str ⟨⟨[69,114,114,111,114,69,120,99,101,112,116,105,111,110]⟩⟩),(.aD (.list 0) []),(.tup [(.str ⟨⟨[110,97,109,101]⟩⟩),(.str ⟨⟨[69,120,99,101,112,116,105,111,110]⟩⟩),(.tup [])]),(.bool .false),(.bool .false),(.aD (.list 1) [(.tup [(.str ⟨⟨[109,115,103]⟩⟩),(.tup [(.str ⟨⟨[110,97,109,101]⟩⟩),(.str ⟨⟨[65,110,121]⟩⟩),(.tup [])])])])]),(.aD (.inst 461 [⟨⟨[110,97,109,101]⟩⟩,⟨⟨[112,97,114,97,109,115]⟩⟩,⟨⟨[115,117,112,101,114]⟩⟩,⟨⟨[105,115,95,97,98,115,116,114,97,99,116]⟩⟩,⟨⟨[105,115,95,109,117,116,97,98,108,101]⟩⟩,⟨⟨[102,105,101,108,100,115]⟩⟩]) [(.str ⟨⟨[77,101,116,104,111,100,69,114,114,111,114]⟩⟩),(.aD (.list 0) []),(.tup [(.str ⟨⟨[110,97,109,101]⟩⟩),(.str ⟨⟨[69,120,99,101,112,116,105,111,110]⟩⟩),(.tup [])]),(.bool .false),(.bool .false),(.aD (.list 2) [(.tup [(.str ⟨⟨[102]⟩⟩),(.tup [(.str ⟨⟨[110,97,109,101]⟩⟩),(.str ⟨⟨[65,110,121]⟩⟩),(.tup [])])]),(.tup [(.str ⟨⟨[97,114,103,115]⟩⟩),(.tup [(.str ⟨⟨[110,97,109,101]⟩⟩),(.str ⟨⟨[65,110,121]⟩⟩),(.tup [])])])])]),(.aD (.inst 461 [⟨⟨[110,97,109,101]⟩⟩,⟨⟨[112,97,114,97,109,115]⟩⟩,⟨⟨[115,117,112,101,114]⟩⟩,⟨⟨[105,115,95,97,98,115,116,114,97,99,116]⟩⟩,⟨⟨[105,115,95,109,117,116,97,98,108,101]⟩⟩,⟨⟨[102,105,101,108,100,115]⟩⟩]) [(.str ⟨⟨[65,109,98,105,103,117,111,117,115,69,114,114,111,114]⟩⟩),(.aD (.list 0) []),(.tup [(.str ⟨⟨[110,97,109,101]⟩⟩),(.str ⟨⟨[69,120,99,101,112,116,105,111,110]⟩⟩),(.tup [])]),(.bool .false),(.bool .false),(.aD (.list 2) [(.tup [(.str ⟨⟨[102]⟩⟩),(.tup [(.str ⟨⟨[110,97,109,101]⟩⟩),(.str ⟨⟨[65,110,121]⟩⟩),(.tup [])])]),(.tup [(.str ⟨⟨[97,114,103,115]⟩⟩),(.tup [(.str ⟨⟨[110,97,109,101]⟩⟩),(.str ⟨⟨[65,110,121]⟩⟩),(.tup [])])])])]),(.aD (.inst 461 [⟨⟨[110,97,109,101]⟩⟩,⟨⟨[112,97,114,97,109,115]⟩⟩,⟨⟨[115,117,112,101,114]⟩⟩,⟨⟨[105,115,95,97,98,115,116,114,97,99,116]⟩⟩,⟨⟨[105,115,95,109,117,116,97,98,108,101]⟩⟩,⟨⟨[102,105,101,108,100,115]⟩⟩]) [(.str ⟨⟨[85,110,100,101,102,86,97,114,69,114,114,111,114]⟩⟩),(.aD (.list 0) []),(.tup [(.str ⟨⟨[110,97,109,101]⟩⟩),(.str ⟨⟨[69,120,99,101,112,116,105,111,110]⟩⟩),(.tup [])]),(.bool .false),(.bool .false),(.aD (.list 1) [(.tup [(.str ⟨⟨[118,97,114]⟩⟩),(.tup [(.str ⟨⟨[110,97,109,101]⟩⟩),(.str ⟨⟨[65,110,121]⟩⟩),(.tup [])])])])]),(.aD (.inst 461 [⟨⟨[110,97,109,101]⟩⟩,⟨⟨[112,97,114,97,109,115]⟩⟩,⟨⟨[115,117,112,101,114]⟩⟩,⟨⟨[105,115,95,97,98,115,116,114,97,99,116]⟩⟩,⟨⟨[105,115,95,109,117,116,97,98,108,101]⟩⟩,⟨⟨[102,105,101,108,100,115]⟩⟩]) [(.str ⟨⟨[66,111,117,110,100,115,69,114,114,111,114]⟩⟩),(.aD (.list 0) []),(.tup [(.str ⟨⟨[110,97,109,101]⟩⟩),(.str ⟨⟨[69,120,99,101,112,116,105,111,110]⟩⟩),(.tup [])]),(.bool .false),(.bool .false),(.aD (.list 2) [(.tup [(.str ⟨⟨[97]⟩⟩),(.tup [(.str ⟨⟨[110,97,109,101]⟩⟩),(.str ⟨⟨[65,110,121]⟩⟩),(.tup [])])]),(.tup [(.str ⟨⟨[105]⟩⟩),(.tup [(.str ⟨⟨[110,97,109,101]⟩⟩),(.str ⟨⟨[65,110,121]⟩⟩),(.tup [])])])])]),(.aD (.inst 461 [⟨⟨[110,97,109,101]⟩⟩,⟨⟨[112,97,114,97,109,115]⟩⟩,⟨⟨[115,117,112,101,114]⟩⟩,⟨⟨[105,115,95,97,98,115,116,114,97,99,116]⟩⟩,⟨⟨[105,115,95,109,117,116,97,98,108,101]⟩⟩,⟨⟨[102,105,101,108,100,115]⟩⟩]) [(.str ⟨⟨[65,98,115,116,114,97,99,116,65,114,114,97,121]⟩⟩),(.aD (.list 2) [(.tup [(.str ⟨⟨[84,46,48]⟩⟩),(.tup [(.str ⟨⟨[98,111,116,116,111,109]⟩⟩)]),(.tup [(.str ⟨⟨[110,97,109,101]⟩⟩),(.str ⟨⟨[65,110,121]⟩⟩),(.tup [])])]),(.tup [(.str ⟨⟨[78,46,48]⟩⟩),(.tup [(.str ⟨⟨[98,111,116,116,111,109]⟩⟩)]),(.tup [(.str ⟨⟨[110,97,109,101]⟩⟩),(.str ⟨⟨[65,110,121]⟩⟩),(.tup [])])])]),(.tup [(.str ⟨⟨[110,97,109,101]⟩⟩),(.str ⟨⟨[65,110,121]⟩⟩),(.tup [])]),(.bool .true),(.bool .false),(.aD (.list 0) [])]),(.aD (.inst 461 [⟨⟨[110,97,109,101]⟩⟩,⟨⟨[112,97,114,97,109,115]⟩⟩,⟨⟨[115,117,112,101,114]⟩⟩,⟨⟨[105,115,95,97,98,115,116,114,97,99,116]⟩⟩,⟨⟨[105,115,95,109,117,116,97,98,108,101]⟩⟩,⟨⟨[102,105,101,108,100,115]⟩⟩]) [(.str ⟨⟨[65,114,114,97,121]⟩⟩),(.aD (.list 2) [(.tup [(.str ⟨⟨[84,46,48]⟩⟩),(.tup [(.str ⟨⟨[98,111,116,116,111,109]⟩⟩)]),(.tup [(.str ⟨⟨[110,97,109,101]⟩⟩),(.str ⟨⟨[65,110,121]⟩⟩),(.tup [])])]),(.tup [(.str ⟨⟨[78,46,48]⟩⟩),(.tup [(.str ⟨⟨[98,111,116,116,111,109]⟩⟩)]),(.tup [(.str ⟨⟨[110,97,109,101]⟩⟩),(.str ⟨⟨[65,110,121]⟩⟩),(.tup [])])])]),(.tup [(.str ⟨⟨[110,97,109,101]⟩⟩),(.str ⟨⟨[65,98,115,116,114,97,99,116,65,114,114,97,121]⟩⟩),(.tup [(.tup [(.str ⟨⟨[118,97,114]⟩⟩),(.str ⟨⟨[84,46,48]⟩⟩)]),(.tup [(.str ⟨⟨[118,97,114]⟩⟩),(.str ⟨⟨[78,46,48]⟩⟩)])])]),(.bool .false),(.bool .true),(.aD (.list 0) [])]),(.aD (.inst 461 [⟨⟨[110,97,109,101]⟩⟩,⟨⟨[112,97,114,97,109,115]⟩⟩,⟨⟨[115,117,112,101,114]⟩⟩,⟨⟨[105,115,95,97,98,115,116,114,97,99,116]⟩⟩,⟨⟨[105,115,95,109,117,116,97,98,108,101]⟩⟩,⟨⟨[102,105,101,108,100,115]⟩⟩]) [(.str ⟨⟨[83,117,98,65,114,114,97,121]⟩⟩),(.aD (.list 2) [(.tup [(.str ⟨⟨[84,46,48]⟩⟩),(.tup [(.str ⟨⟨[98,111,116,116,111,109]⟩⟩)]),(.tup [(.str ⟨⟨[110,97,109,101]⟩⟩),(.str ⟨⟨[65,110,121]⟩⟩),(.tup [])])]),(.tup [(.str ⟨⟨[78,46,48]⟩⟩),(.tup [(.str ⟨⟨[98,111,116,116,111,109]⟩⟩)]),(.tup [(.str ⟨⟨[110,97,109,101]⟩⟩),(.str ⟨⟨[65,110,121]⟩⟩),(.tup [])])])]),(.tup [(.str ⟨⟨[110,97,109,101]⟩⟩),(.str ⟨⟨[65,98,115,116,114,97,99,116,65,114,114,97,121]⟩⟩),(.tup [(.tup [(.str ⟨⟨[118,97,114]⟩⟩),(.str ⟨⟨[84,46,48]⟩⟩)]),(.tup [(.str ⟨⟨[118,97,114]⟩⟩),(.str ⟨⟨[78,46,48]⟩⟩)])])]),(.bool .false),(.bool .true),(.aD (.list 0) [])]),(.aD (.inst 461 [⟨⟨[110,97,109,101]⟩⟩,⟨⟨[112,97,114,97,109,115]⟩⟩,⟨⟨[115,117,112,101,114]⟩⟩,⟨⟨[105,115,95,97,98,115,116,114,97,99,116]⟩⟩,⟨⟨[105,115,95,109,117,116,97,98,108,101]⟩⟩,⟨⟨[102,105,101,108,100,115]⟩⟩]) [(.str ⟨⟨[65,98,115,116,114,97,99,116,82,97,110,103,101]⟩⟩),(.aD (.list 1) [(.tup [(.str ⟨⟨[84,46,48]⟩⟩),(.tup [(.str ⟨⟨[98,111,116,116,111,109]⟩⟩)]),(.tup [(.str ⟨⟨[110,97,109,101]⟩⟩),(.str ⟨⟨[65,110,121]⟩⟩),(.tup [])])])]),(.tup [(.str ⟨⟨[110,97,109,101]⟩⟩),(.str ⟨⟨[65,98,115,116,114,97,99,116,65,114,114,97,121]⟩⟩),(.tup [(.tup [(.str ⟨⟨[118,97,114]⟩⟩),(.str ⟨⟨[84,46,48]⟩⟩)]),(.tup [(.str ⟨⟨[110]⟩⟩),(.int (.ofNat 1))])])]),(.bool .true),(.bool .false),(.aD (.list 0) [])]),(.aD (.inst 461 [⟨⟨[110,97,109,101]⟩⟩,⟨⟨[112,97,114,97,109,115]⟩⟩,⟨⟨[115,117,112,101,114]⟩⟩,⟨⟨[105,115,95,97,98,115,116,114,97,99,116]⟩⟩,⟨⟨[105,115,95,109,117,116,97,98,108,101]⟩⟩,⟨⟨[102,105,101,108,100,115]⟩⟩]) [(.str ⟨⟨[85,110,105,116,82,97,110,103,101]⟩⟩),(.aD (.list 1) [(.tup [(.str ⟨⟨[84,46,48]⟩⟩),(.tup [(.str ⟨⟨[98,111,116,116,111,109]⟩⟩)]),(.tup [(.str ⟨⟨[110,97,109,101]⟩⟩),(.str ⟨⟨[65,110,121]⟩⟩),(.tup [])])])]),(.tup [(.str ⟨⟨[110,97,109,101]⟩⟩),(.str ⟨⟨[65,98,115,116,114,97,99,116,82,97,110,103,101]⟩⟩),(.tup [(.tup [(.str ⟨⟨[118,97,114]⟩⟩),(.str ⟨⟨[84,46,48]⟩⟩)])])]),(.bool .false),(.bool .false),(.aD (.list 2) [(.tup [(.str ⟨⟨[115,116,97,114,116]⟩⟩),(.tup [(.str ⟨⟨[118,97,114]⟩⟩),(.str ⟨⟨[84,46,48]⟩⟩)])]),(.tup [(.str ⟨⟨[115,116,111,112]⟩⟩),(.tup [(.str ⟨⟨[118,97,114]⟩⟩),(.str ⟨⟨[84,46,48]⟩⟩)])])])]),(.aD (.inst 461 [⟨⟨[110,97,109,101]⟩⟩,⟨⟨[112,97,114,97,109,115]⟩⟩,⟨⟨[115,117,112,101,114]⟩⟩,⟨⟨[105,115,95,97,98,115,116,114,97,99,116]⟩⟩,⟨⟨[105,115,95,109,117,116,97,98,108,101]⟩⟩,⟨⟨[102,105,101,108,100,115]⟩⟩]) [(.str ⟨⟨[83,116,101,112,82,97,110,103,101]⟩⟩),(.aD (.list 1) [(.tup [(.str ⟨⟨[84,46,48]⟩⟩),(.tup [(.str ⟨⟨[98,111,116,116,111,109]⟩⟩)]),(.tup [(.str ⟨⟨[110,97,109,101]⟩⟩),(.str ⟨⟨[65,110,121]⟩⟩),(.tup [])])])]),(.tup [(.str ⟨⟨[110,97,109,101]⟩⟩),(.str ⟨⟨[65,98,115,116,114,97,99,116,82,97,110,103,101]⟩⟩),(.tup [(.tup [(.str ⟨⟨[118,97,114]⟩⟩),(.str ⟨⟨[84,46,48]⟩⟩)])])]),(.bool .false),(.bool .false),(.aD (.list 3) [(.tup [(.str ⟨⟨[115,116,97,114,116]⟩⟩),(.tup [(.str ⟨⟨[118,97,114]⟩⟩),(.str ⟨⟨[84,46,48]⟩⟩)])]),(.tup [(.str ⟨⟨[115,116,101,112]⟩⟩),(.tup [(.str ⟨⟨[118,97,114]⟩⟩),(.str ⟨⟨[84,46,48]⟩⟩)])]),(.tup [(.str ⟨⟨[115,116,111,112]⟩⟩),(.tup [(.str ⟨⟨[118,97,114]⟩⟩),(.str ⟨⟨[84,46,48]⟩⟩)])])])]),(.aD (.inst 461 [⟨⟨[110,97,109,101]⟩⟩,⟨⟨[112,97,114,97,109,115]⟩⟩,⟨⟨[115,117,112,101,114]⟩⟩,⟨⟨[105,115,95,97,98,115,116,114,97,99,116]⟩⟩,⟨⟨[105,115,95,109,117,116,97,98,108,101]⟩⟩,⟨⟨[102,105,101,108,100,115]⟩⟩]) [(.str ⟨⟨[82,101,102]⟩⟩),(.aD (.list 1) [(.tup [(.str ⟨⟨[84,46,48]⟩⟩),(.tup [(.str ⟨⟨[98,111,116,116,111,109]⟩⟩)]),(.tup [(.str ⟨⟨[110,97,109,101]⟩⟩),(.str ⟨⟨[65,110,121]⟩⟩),(.tup [])])])]),(.tup [(.str ⟨⟨[110,97,109,101]⟩⟩),(.str ⟨⟨[65,110,121]⟩⟩),(.tup [])]),(.bool .false),(.bool .true),(.aD (.list 1) [(.tup [(.str ⟨⟨[120]⟩⟩),(.tup [(.str ⟨⟨[118,97,114]⟩⟩),(.str ⟨⟨[84,46,48]⟩⟩)])])])]),(.aD (.inst 461 [⟨⟨[110,97,109,101]⟩⟩,⟨⟨[112,97,114,97,109,115]⟩⟩,⟨⟨[115,117,112,101,114]⟩⟩,⟨⟨[105,115,95,97,98,115,116,114,97,99,116]⟩⟩,⟨⟨[105,115,95,109,117,116,97,98,108,101]⟩⟩,⟨⟨[102,105,101,108,100,115]⟩⟩]) [(.str ⟨⟨[82,97,116,105,111,110,97,108]⟩⟩),(.aD (.list 1) [(.tup [(.str ⟨⟨[84,46,48]⟩⟩),(.tup [(.str ⟨⟨[98,111,116,116,111,109]⟩⟩)]),(.tup [(.str ⟨⟨[110,97,109,101]⟩⟩),(.str ⟨⟨[73,110,116,101,103,101,114]⟩⟩),(.tup [])])])]),(.tup [(.str ⟨⟨[110,97,109,101]⟩⟩),(.str ⟨⟨[82,101,97,108]⟩⟩),(.tup [])]),(.bool .false),(.bool .false),(.aD (.list 2) [(.tup [(.str ⟨⟨[110,117,109]⟩⟩),(.tup [(.str ⟨⟨[118,97,114]⟩⟩),(.str ⟨⟨[84,46,48]⟩⟩)])]),(.tup [(.str ⟨⟨[100,101,110]⟩⟩),(.tup [(.str ⟨⟨[118,97,114]⟩⟩),(.str ⟨⟨[84,46,48]⟩⟩)])])])])])])
noncomputable def Pq:a_:=RK
noncomputable def ke(i:H):aa D:=@bN (λ_=>aa D) .none (some aH) (bA i 0)
noncomputable def cz:bQ:=WP Pq (λ_ _ _=>.none) (λ_=>.none) (λ_ _=>.none)
noncomputable def WS:bQ:=gn cz (λ_ _ _=>.none) ke (λ_ _=>.none) 0
noncomputable def cN(B:G H):D:=.str ⟨⟨B⟩⟩
noncomputable def Oq:D:=.str ⟨⟨[110,97,109,101]⟩⟩
noncomputable def By:D:=.str ⟨⟨[118,97,114]⟩⟩
noncomputable def acX:D:=.str ⟨⟨[116,121,112,101,111,102]⟩⟩
noncomputable def du:D:=.str ⟨⟨[116,117,112,108,101]⟩⟩
noncomputable def acY:D:=.str ⟨⟨[117,110,105,111,110]⟩⟩
noncomputable def Ht:D:=.str ⟨⟨[115,117,98]⟩⟩
noncomputable def acW:D:=.str ⟨⟨[115,97,109,101]⟩⟩
noncomputable def sN:D:=.str ⟨⟨[110]⟩⟩
noncomputable def q8(B:G H):D:=.tup [Oq,.str ⟨⟨B⟩⟩,.tup []]
noncomputable def aC:D:=q8 [73,110,116,54,52]
noncomputable def bF:D:=q8 [73,110,116,56]
noncomputable def j0:D:=q8 [85,73,110,116,56]
noncomputable def aF:D:=q8 [83,116,114,105,110,103]
noncomputable def ai:D:=q8 [66,111,111,108]
noncomputable def ak:D:=q8 [73,110,116,101,103,101,114]
noncomputable def aK:D:=q8 [82,101,97,108]
noncomputable def kO:D:=q8 [65,110,121]
noncomputable def af:D:=.tup [acY,.tup [ai,aC]]
noncomputable def vT:D:=.tup [By,.str eE]
noncomputable def vN:D:=.tup [By,.str eD]
noncomputable def num(i:H):D:=.tup [sN,.int (.ofNat i)]
noncomputable def arr(k r:D):D:=.tup [Oq,cN [65,114,114,97,121],.tup [k,r]]
noncomputable def gx(k:D):D:=.tup [acX,k]
noncomputable def gP(a b:D):D:=.tup [du,.tup [a,b],.none]
noncomputable def sub(a b:D):D:=.tup [Ht,a,b]
noncomputable def same(a b:D):D:=.tup [acW,a,b]
noncomputable def Ls:G ar:=[⟨⟨[105,115,95,97,115,107,101,100]⟩⟩,⟨⟨[111,114,100,101,114]⟩⟩,⟨⟨[108,111,119,101,114,115]⟩⟩,⟨⟨[117,112,112,101,114,115]⟩⟩,⟨⟨[105,115,95,100,105,97,103,111,110,97,108]⟩⟩]
noncomputable def side(E:ba)(lo up:G D)(d:ah):D:=.aD (.inst 129 Ls) [.bool true,.int E,.tup lo,.tup up,.bool d]
noncomputable def gw:G (ar×dc):=match WS.fn 277 with
 |some F=>F.sc
 |.none=>[]
noncomputable def dK:JG×G en:=match WS.fn 277 with
 |some F=>match F.body with
  |[]=>(.Constant .none 0 ⟨0,0,0,0⟩,[])
  |s::_=>match s with
   |.While t b _ _=>(t,b)
   |_=>(.Constant .none 0 ⟨0,0,0,0⟩,[])
 |.none=>(.Constant .none 0 ⟨0,0,0,0⟩,[])
noncomputable def jH:G en:=match cz.fn 382 with
 |some F=>F.body
 |.none=>[]
noncomputable def i9:G (ar×dc):=match cz.fn 382 with
 |some F=>F.sc
 |.none=>[]
noncomputable def rl:D:=cN [97,108,108]
noncomputable def rn:D:=.tup [cN [98,111,116,116,111,109]]
noncomputable def nQ:D:=cN [84,46,49]
noncomputable def lS:D:=cN [78,46,50]
noncomputable def yQ:D:=.tup [By,nQ]
noncomputable def PD:D:=.tup [By,lS]
noncomputable def cD(t:D):D:=.tup [rl,lS,rn,kO,t]
noncomputable def dk(up t:D):D:=.tup [rl,nQ,rn,up,t]
noncomputable def tA:G en:=match cz.fn 277 with
 |some F=>match F.body with
  |[]=>[]
  |_::r=>r
 |.none=>[]
noncomputable def wpS:Pos:=match cz.fn 277 with
 |some F=>match F.body with
  |[]=>⟨0,0,0,0⟩
  |s::_=>match s with
   |.While _ _ _ p=>p
   |_=>⟨0,0,0,0⟩
 |.none=>⟨0,0,0,0⟩
noncomputable def HA:D:=.aD (.inst 129 Ls) [.bool true,.int 2,.any,.any,.bool false]
noncomputable def Pf(i:H):aa D:=@bN (λ_=>aa D) (@bN (λ_=>aa D) .none (some HA) (bA i 2)) (some aH) (bA i 0)
noncomputable def WE:bQ:=gn cz (λ_ _ _=>.none) Pf (λ_ _=>.none) 0
noncomputable def tn(o:MH):aa Lk:=turn WS 60 gw dK.1 dK.2 o
noncomputable def mK:ar:=⟨⟨[84,46,49]⟩⟩
noncomputable def nP:ar:=⟨⟨[78,46,50]⟩⟩
noncomputable def P1(dT dN:ah):G jP:=[⟨223,[cD (.tok 20),nQ],.bool dT⟩,⟨223,[.tok 21,lS],.bool dN⟩]
noncomputable def D1:G nW:=[⟨67,cD (.tok 20),mK,vT,cD (.tok 21)⟩,⟨67,.tok 21,nP,vN,.tup [du,.tok 12,.tok 13]⟩]
noncomputable def W1(dT dN:ah):bQ:=gn cz (kP 90 (P1 dT dN) D1) ke (λ_ _=>.none) 0
noncomputable def A7(d_:D):G (aa D):=[some (.tok 0),some (.tok 10),some d_,some (.int 4000),.none,.none,.none,.none,.none,.none,.none,.none,.none,.none,.none,.none,.none]
noncomputable def dE(B:G (aa D))(i:H):aa D:=kN (fJ B i)
noncomputable def gv(E:aa D):D:=match E with
 |some v=>v
 |.none=>.none
noncomputable def nI(E:aa D):D:=match E with
 |some v=>v
 |.none=>.any
noncomputable def Hm(E:aa D):aa H:=match E with
 |some v=>match v with
  |.ref i=>some i
  |_=>.none
 |.none=>.none
noncomputable def u6(f:eh):ah:=match f with
 |.next=>true
 |.ret _=>false
noncomputable def pF(ks:G H)(o:MH)(v:D):aa D:=match v with
 |.ref i=>BK (λi=>!(mC i ks)) o i
 |_=>.none
noncomputable def jJ:G D:=[.tup [lS,.str eD],.tup [nQ,.str eE]]
noncomputable def Y3(f:eh)(fr:Fm)(o:MH)(i nm gl dd r:H):aa D:=bO (u6 f&&kM i (gv (dE fr.vars 4))&&kM nm (gv (dE fr.vars 5))&&kM gl (gv (dE fr.vars 7))&&cK (dE fr.vars 6)&&sQ o i 200 dd&&cK (d2 o dd eH eG)&&kM r (gc o dd eH eG).1&&oH 2 (gc o dd eH eG).2&&
  cK (d2 o r eE eD)&&cK (pF [i,dd,r,nm,gl] o (gc o r eE eD).1)&&cK (pF [i,dd,r,nm,gl] o (gc o r eE eD).2)&&cK (jj o nm)&&cK (jj o gl)&&ye [i,dd,r,nm,gl]&&cT (lG o nm).2 jJ&&cT (lG o gl).2 []&&gO 0 (gv (dE fr.vars 0))&&gO 10 (gv (dE fr.vars 1))&&oH 4000 (gv (dE fr.vars 3)))
 (.tup [oG .none (dE fr.vars 6),oG .none (pF [i,dd,r,nm,gl] o (gc o r eE eD).1),oG .none (pF [i,dd,r,nm,gl] o (gc o r eE eD).2)])
noncomputable def Y2(f:eh)(fr:Fm)(o:MH)(i dd:H):aa D:=Y3 f fr o i (tq (gv (dE fr.vars 5))) (tq (gv (dE fr.vars 7))) dd (tq (gc o dd eH eG).1)
noncomputable def FW(f:eh)(fr:Fm)(o:MH):aa D:=Y2 f fr o (tq (gv (dE fr.vars 4))) (oG (0,0) (te o (tq (gv (dE fr.vars 4))))).2
noncomputable def yp(dT dN:ah)(up:D):aa D:=iy (run ip (W1 dT dN) 130) ⟨i9,.none⟩ (jH.take 3) ⟨A7 (dk up (cD (.tok 20))),[]⟩ ⟨.nil,0⟩ FW
noncomputable def stM(a b:D):MH:=fA [.inst 200 1,.dict [(.str eH,.ref 2),(.str eG,.int 2)],.dict [(.str eE,a),(.str eD,b)],.list 400 jJ,.list 400 []]
noncomputable def A8(bd:D):G (aa D):=[some (.tok 0),some (.tok 10),.none,some (.int 4000),some (.ref 0),some (.ref 3),some bd,some (.ref 4),.none,.none,.none,.none,.none,.none,.none,.none,.none]
noncomputable def W4(res:ah)(R:G (G D))(LB:G D)(p:H):bQ:=gn cz (N4 70 res R LB p) ke (λ_ _=>.none) 0
noncomputable def FX(res:ah)(f:eh)(fr:Fm)(o:MH):aa D:=bO (u6 f&&sQ o 0 200 1&&gO 0 (gv (dE fr.vars 0))&&kM 3 (gv (dE fr.vars 5))&&cK (d2 o 1 eH eG)&&kM 2 (gc o 1 eH eG).1&&oH 2 (gc o 1 eH eG).2&&cK (d2 o 2 eE eD)&&gO 3 (gc o 2 eE eD).1&&gO 4 (gc o 2 eE eD).2&&
  cK (jj o 3)&&cT (lG o 3).2 jJ&&@bN (λ_=>ah) (AS (nI (dE fr.vars 11))) (kM 0 (nI (dE fr.vars 11))) res) .none
noncomputable def mr(res:ah)(R:G (G D))(LB:G D)(p:H):aa D:=iy (run ip (W4 res R LB p) 90) ⟨i9,.none⟩ ((jH.drop 3).take 1) ⟨A8 (.tok 11),[]⟩ (stM (.tok 1) (.tok 2)) (FX res)
noncomputable def vR(a b:D):MH:=fA [.inst 200 1,.dict [(.str eH,.ref 2),(.str eG,.int 2)],.dict [(.str eE,a),(.str eD,b)],.list 400 jJ]
noncomputable def A9(fd:D):G (aa D):=[some (.tok 0),.none,.none,.none,.none,some (.ref 3),.none,.none,.none,.none,.none,some fd,.none,.none,.none,.none,.none]
noncomputable def FY(f:eh)(fr:Fm)(o:MH):aa D:=match f with
 |.next=>.none
 |.ret v=>match v with
  |.none=>some .none
  |.ref i=>eQ (vF o i) λR=>bO (allB (λq=>bE q.2) R&&allB qX R&&eB 4 i) (.aD (.dict (hJ R)) (mapA (λq=>q.2) R))
  |_=>.none
noncomputable def qL(a b fd:D):aa D:=iy (run ip WS 120) ⟨i9,.none⟩ (jH.drop 4) ⟨A9 fd,[]⟩ (vR a b) FY
theorem Ly{α:Type}{f:α->ah}{x:α}{B:G α}(e:findB f B=some x):x∈B/\f x=true:=by
 induction B with
 |nil=>exact aB e
 |cons p P O=>
  have e':@bN (λ_=>aa α) (findB f P) (some p) (f p)=some x:=e
  generalize J:f p=ax at e'
  cases ax with
  |false=>exact⟨.tail _ (O e').1,(O e').2⟩
  |true=>rw [<-aM e'];exact⟨.head _,J⟩
theorem Vx{a:H}{args:G D}{m:D}(e:Eo P a args=some m):∃p∈P,p.a=a/\p.args=args/\p.res=m:=by
 refine ay (fm e) λp h e=>?_
 refine xA (Ly h) λh J=>?_
 exact⟨p,h,dU (bx J),eu (bL J),aM e⟩
theorem Vw{a:H}{t:D}{x:ar}(e:findD bj a t x r=some m):∃p∈bj,p.a=a/\p.t=t/\p.x=x/\p.r=r/\p.res=m:=by
 refine ay (fm e) λp h e=>?_
 refine xA (Ly h) λh J=>?_
 exact⟨p,h,dU (bx (bx (bx J))),iK (bL (bx (bx J))),lV.mp (bL (bx J)),iK (bL J),aM e⟩
theorem T3(e:d1 R=some q):R=[(.str q.1,q.2)]:=by
 cases R with
 |nil=>exact aB e
 |cons p r=>cases r with
  |cons=>exact aB e
  |nil=>
   obtain⟨k,v⟩:=p
   cases k with
   |str x=>rw [<-aM e]
   |_=>exact aB e
section
variable{c:a_}{w:WB}{I:aP}{W:bQ}{tv:H->aa D}{eq:D->D->aa ah}{pull lv:H}{P:G jP}{bj:G nW}
theorem vH(hP:∀p∈P,∀o,nV c w I lv p.a p.args o p.res o)(hD:∀d∈bj,∀o j,o.t.get j=some (.dict [(.str d.x,d.r)])->nV c w I lv d.a [d.t,.ref j] o d.res o):iF c w I (gn W (kP lv P bj) tv eq pull):=by
 intro a B o p e
 have e:kP lv P bj a B o=some p:=e
 unfold kP at e
 generalize h:Eo P a B=ax at e
 cases ax with
 |some m=>
  have e:=aM e
  rw [<-e]
  refine iZ (Vx h) λq hq aE bU fV=>?_;rw [<-aE];rw [<-bU];rw [<-fV]
  exact hP q hq o
 |none=>
  refine ay (fm (e:N3 lv bj a B o=some p)) λk h1 e=>?_
  refine ay (fm h1) λR h2 h1=>?_
  refine ay (fm e) λm h3 e=>?_
  refine xA (jA e) λJ aI=>?_;rw [<-aI]
  refine iZ (Vw h3) λq hq aE h4 bB=>cf bB λh5 h6 acF=>?_;rw [<-aE];rw [<-acF]
  rw [eu J,<-h4]
  exact hD q hq o _ (by rw [yi h2,T3 h1,h5,h6])
end
section
variable{o:MH}{fr:Fm}{aL aQ aJ:H->aa D}
theorem mP(e:dE B i=some m):B[i]?=some (some m):=by
 have:=AW e
 rw [oN] at this
 exact this
theorem qn(e:gO j (gv (dE B i))=true):B[i]?=some (some (.tok j)):=by
 generalize h:dE B i=ax at e
 cases ax with
 |none=>exact bz e
 |some v=>rw [mP h,lF (v:=v) e]
theorem afd(e:oH j (gv (dE B i))=true):B[i]?=some (some (.int j)):=by
 generalize h:dE B i=ax at e
 cases ax with
 |none=>exact bz e
 |some v=>rw [mP h,sS (v:=v) e]
theorem B4(e:kM j (gv (dE B i))=true):B[i]?=some (some (.ref j)):=by
 generalize h:dE B i=ax at e
 cases ax with
 |none=>exact bz e
 |some v=>rw [mP h,sR (v:=v) e]
theorem xR(e:u6 f=true):f=.next:=by
 cases f with
 |next=>rfl
 |ret=>exact bz e
theorem Od:∀{B:G D},(∀m∈B,bC m=true)->allB bE B=true
 |[],_=>rfl
 |a::B,h=>by
  refine(?_:(bE a&&allB bE B)=true)
  rw [fB,h a (.head _),Od λm hm=>h m (.tail _ hm)];rfl
theorem KH(e:pF ks o v=some v'):Cv aQ aJ o β (λi=>i∉ks) v v'/\bC v'=true:=by
 cases v with
 |ref i=>
  have e:BK (λi=>!(mC i ks)) o i=some v':=e
  refine gJ (OC e) λaq d bB=>eK bB λq R h1 h2 c1 dA=>eN dA λc2 c3 c4 Hp=>?_;rw [Hp]
  exact⟨.inst h1 h2 (A5 ((wh _).mp c1)) (A5 ((wh _).mp c2)) c3 (iw c4),by rw [<-fB,s9];exact Od c4⟩
 |_=>exact aB e
inductive JN(fr:Fm)(o:MH)(ag:D):Prop
 |mk (i nm gl dd r:H) (z1 z2 bd a b:D) (ub gb:H):ag=.tup [bd,a,b]->fr.vars[4]?=some (some (.ref i))->fr.vars[5]?=some (some (.ref nm))->fr.vars[7]?=some (some (.ref gl))->fr.vars[6]?=some (some bd)->fr.vars[0]?=some (some (.tok 0))->fr.vars[1]?=some (some (.tok 10))->fr.vars[3]?=some (some (.int 4000))->o.t.get i=some (.inst 200 dd)->o.t.get dd=some (.dict [(.str eH,.ref r),(.str eG,.int 2)])->o.t.get r=some (.dict [(.str eE,z1),(.str eD,z2)])->pF [i,dd,r,nm,gl] o z1=some a->pF [i,dd,r,nm,gl] o z2=some b->o.t.get nm=some (.list ub jJ)->o.t.get gl=some (.list gb [])->[i,dd,r,nm,gl].Nodup->JN fr o ag
theorem Y1(e:FW f fr o=some ag):f=.next/\JN fr o ag:=by
 refine xA (jA e) λKd aI=>?_;rw [<-aI]
 have Kc:=bx Kd
 have w7:=bx Kc
 have w6:=bx w7
 have w4:=bx w6
 have w3:=bx w4
 have wZ:=bx w3
 have pE:=bx wZ
 have nk:=bx pE
 have nj:=bx nk
 have nh:=bx nj
 have c9:=bx nh
 have c8:=bx c9
 have c7:=bx c8
 have c6:=bx c7
 have c5:=bx c6
 have c4:=bx c5
 have c3:=bx c4
 have c2:=bx c3
 have l1:∃b,_:=sX (bL pE)
 have l2:∃b,_:=sX (bL wZ)
 rw [eu (bL w4)] at l1
 rw [eu (bL w6)] at l2
 refine bw l1 ?_;clear l1;intro ub l1
 refine bw l2 ?_;clear l2;intro gb l2
 exact⟨xR (bx c2),_,_,_,_,_,_,_,_,_,_,ub,gb,rfl,B4 (bL c2),B4 (bL c3),B4 (bL c4),mP (pT (bL c5)),qn (bL w7),qn (bL Kc),afd (bL Kd),u4 (bL c6),ou (bL c7) (sR (bL c8)) (sS (bL c9)),ou (bL nh) rfl rfl,pT (bL nj),pT (bL nk),l1,l2,Gm (bL w3)⟩
end
section
variable{o:MH}{fr:Fm}{aL aQ aJ:H->aa D}
theorem GQ(e:nI (dE B i)=m)(h:m≠.any):B[i]?=some (some m):=by
 generalize q:dE B i=ax at e
 cases ax with
 |none=>exact bP e.symm h
 |some v=>have e:v=m:=e;rw [mP q,e]
noncomputable def found(res:ah):D:=match res with
 |true=>.ref 0
 |false=>.none
theorem Y4(e:FX res f fr o=some ag):f=.next/\o.t.get 0=some (.inst 200 1)/\o.t.get 1=some (.dict [(.str eH,.ref 2),(.str eG,.int 2)])/\o.t.get 2=some (.dict [(.str eE,.tok 3),(.str eD,.tok 4)])/\(∃ub,o.t.get 3=some (.list ub jJ))/\
  fr.vars[0]?=some (some (.tok 0))/\fr.vars[5]?=some (some (.ref 3))/\fr.vars[11]?=some (some (found res)):=by
 refine xA (jA e) λpE aI=>?_;skip
 have nk:=bx pE
 have nj:=bx nk
 have nh:=bx nj
 have c9:=bx nh
 have c8:=bx c9
 have c7:=bx c8
 have c6:=bx c7
 have c5:=bx c6
 have c4:=bx c5
 have c3:=bx c4
 have c2:=bx c3
 have l1:∃b,_:=sX (bL nj)
 rw [eu (bL nk)] at l1
 refine⟨xR (bx c2),u4 (bL c2),ou (bL c5) (sR (bL c6)) (sS (bL c7)),ou (bL c8) (lF (bL c9)) (lF (bL nh)),l1,qn (bL c3),B4 (bL c4),?_⟩
 cases res with
 |true=>exact GQ (sR (bL pE)) (λq=>nomatch q)
 |false=>exact GQ (MC (bL pE)) (λq=>nomatch q)
theorem Y5(e:FY f fr o=some ag):∃v,f=.ret v/\((v=.none/\ag=.none)\/∃i R,v=.ref i/\o.t.get i=some (.dict R)/\allB qX R=true/\(∀q∈R,bC q.2=true)/\ag=.aD (.dict (hJ R)) (R.map (·.2))):=by
 cases f with
 |next=>exact aB e
 |ret v=>
  refine⟨v,rfl,?_⟩
  cases v with
  |none=>exact .inl ⟨rfl,(aM e).symm⟩
  |ref i=>
   refine ay (fm e) λR h e=>?_
   refine xA (jA e) λJ aI=>?_;rw [<-aI]
   exact .inr ⟨i,R,rfl,yi h,bL (bx J),λq hq=>fB _▸b7 (bx (bx J)) q hq,by rw [pY]⟩
  |_=>exact aB e
end
section
variable{c:a_}{w:dF}{Y:bG}{F C ao:G aA}{s:aT}{I h M:aP}{o:MH}{X:cL}{aL aQ aJ:H->aa D}{fr:Fm}{KT:D}
theorem HJ(h:j<5):(stM a b).t.get j=([.inst 200 1,.dict [(.str eH,.ref 2),(.str eG,.int 2)],.dict [(.str eE,a),(.str eD,b)],.list 400 jJ,.list 400 []]:G cJ)[j]?:=by
 rcases j with _|_|_|_|_|j<;>first|rfl|exact bP h (g7.mpr (ud 5 j))
theorem adS(h:j<4):(vR a b).t.get j=([.inst 200 1,.dict [(.str eH,.ref 2),(.str eG,.int 2)],.dict [(.str eE,a),(.str eD,b)],.list 400 jJ]:G cJ)[j]?:=by
 rcases j with _|_|_|_|j<;>first|rfl|exact bP h (g7.mpr (ud 4 j))
theorem Gk(m:D)(hm:m∈jJ):bC m=true:=by
 have hm:m∈[D.tup [lS,.str eD],.tup [nQ,.str eE]]:=hm
 simp only [bY,eP,gF] at hm
 rcases hm with rfl|rfl<;>rfl
inductive CT(C:G aA)(i dd r nm gl:H):Prop
 |mk (a0 a1 a2 a3 a4:aA):C[i]?=some a0->C[dd]?=some a1->C[r]?=some a2->C[nm]?=some a3->C[gl]?=some a4->CT C i dd r nm gl
theorem ab4(S:St c (wb c w aL) I F C o h)(hi:i<C.length)(hn:nm<C.length)(hg:gl<C.length)(e1:o.t.get i=some (.inst 200 dd))(e2:o.t.get dd=some (.dict [(.str eH,.ref r),(.str eG,.int 2)])):CT C i dd r nm gl:=by
 refine ay (S.ref (cV hi) e1) λa1 h1 _=>?_
 obtain⟨a2,h2⟩:∃a2,C[r]?=some a2:=by
  obtain⟨⟨aR,d,u,_⟩|⟨aR,d,u⟩,_⟩:=S.ref h1 e2
  .cases u with
   |cons hp _=>
    refine ay hp λa5 e5 _=>?_
    exact⟨a5,e5⟩
  .refine bw (Ip u) λk hk=>?_
   cases hk
 exact⟨_,a1,a2,_,_,cV hi,h1,h2,cV hn,cV hg⟩
theorem pB{α:Type}{P:H->α->Prop}{a0 a1 a2 a3 a4:α}{i:α}(e:[a0,a1,a2,a3,a4][j]?=some i)(h0:P 0 a0)(h1:P 1 a1)(h2:P 2 a2)(h3:P 3 a3)(h4:P 4 a4):P j i:=by
 rcases j with _|_|_|_|_|j<;>first|exact aB e|(rw [<-aM e];assumption)
theorem ab7(S:St c (wb c w aQ) I F C o h)(nd:is.Nodup)(sL:∀(j:H) (x:aA),bf[j]?=some x->∃k:H,is[j]?=some k/\C[k]?=some x)(hb:∀(j k:H) (x:aA),is[j]?=some k->C[k]?=some x->bf[j]?=some x)(len:dz.n=bf.length)
  (cv:∀(j k:H),j<bf.length->is[j]?=some k->∃E o2,o.t.get k=some E/\dz.t.get j=some o2/\gR aQ aJ o (λk=>lQ k is) (λk=>k∉is) E o2):St c (wb c w aJ) I F bf dz h:=by
 have sub:∀x∈bf,x∈C:=λx hx=>by
  obtain⟨j,hj,e⟩:=iE hx
  refine ay (sL j x (by rw [cV hj,e])) λk _ e'=>?_
  exact dy e'
 refine S.mJ (β:=λk=>lQ k is) (FZ:=λk=>k∉is) len (picked S.apart nd sL) (λx hx=>?_) (λx E _ sf=>⟨sf.1,λq=>sf.2 (sub x q)⟩) (λk x hk ek=>⟨λq=>(S.cI x q).2.1 (dy ek),λq=>?_⟩) (λk j x eb ek=>hb j k x (Hd eb) ek) (λj x ej=>?_)
 .refine cf (S.cI x hx) λq1 q2 q3=>?_
  exact⟨q1,λz=>q2 (sub x z),q3⟩
 .obtain⟨j,hj,e⟩:=iE q
  refine ay (sL j x (by rw [cV hj,e])) λk' q1 q2=>?_
  exact hk (qe S.apart ek q2▸dy q1)
 .refine ay (sL j x ej) λk q1 q2=>?_
  refine eO (cv j k (eM.mp ej).1 q1) λE o2 z1 z2 z3=>?_
  exact⟨k,E,o2,q2,z1,z2,z3⟩
theorem abb{i dd r nm gl:H}{z1 z2 a b:D}{a0 a1 a2 a3 a4:aA}(S:St c (wb c w aQ) I F C o h)(e1:o.t.get i=some (.inst 200 dd))(e2:o.t.get dd=some (.dict [(.str eH,.ref r),(.str eG,.int 2)]))(e3:o.t.get r=some (.dict [(.str eE,z1),(.str eD,z2)]))
  (c1:pF [i,dd,r,nm,gl] o z1=some a) (c2:pF [i,dd,r,nm,gl] o z2=some b) (e4:o.t.get nm=some (.list ub jJ)) (e5:o.t.get gl=some (.list gb [])) (nd:[i,dd,r,nm,gl].Nodup)
  (p0:C[i]?=some a0) (p1:C[dd]?=some a1) (p2:C[r]?=some a2) (p3:C[nm]?=some a3) (p4:C[gl]?=some a4):St c (wb c w aJ) I F [a0,a1,a2,a3,a4] (stM a b) h:=by
 refine ab7 (is:=[i,dd,r,nm,gl]) S nd (λj x e=>pB (P:=λj x=>∃k:H,[i,dd,r,nm,gl][j]?=some k/\C[k]?=some x) e ⟨_,rfl,p0⟩ ⟨_,rfl,p1⟩ ⟨_,rfl,p2⟩ ⟨_,rfl,p3⟩ ⟨_,rfl,p4⟩)
  (λj k x e ek=>(pB (P:=λj k=>C[k]?=[a0,a1,a2,a3,a4][j]?) e p0 p1 p2 p3 p4).symm.trans ek) rfl λj k hj e=>?_
 rw [HJ hj]
 exact pB (P:=λj k=>∃E o2,o.t.get k=some E/\([.inst 200 1,.dict [(.str eH,.ref 2),(.str eG,.int 2)],.dict [(.str eE,a),(.str eD,b)],.list 400 jJ,.list 400 []]:G cJ)[j]?=some o2/\gR aQ aJ o (λk=>lQ k [i,dd,r,nm,gl]) (λk=>k∉[i,dd,r,nm,gl]) E o2) e
  ⟨_,_,e1,rfl,.inst (Bs (q:=1) nd rfl)⟩ ⟨_,_,e2,rfl,.dict rfl (.cons (.ref (Bs (q:=2) nd rfl)) (.cons (.same rfl) .nil))⟩ ⟨_,_,e3,rfl,.dict rfl (.cons (KH c1).1 (.cons (KH c2).1 .nil))⟩
  ⟨_,_,e4,rfl,.list (iw Gk) (by decide) (by decide)⟩ ⟨_,_,e5,rfl,.list .nil (by decide) (by decide)⟩
theorem adT{a b a' b':D}(S:St c (wb c w aQ) I F C (stM a b) h)(ka:Tk aQ aJ a a')(kb:Tk aQ aJ b b'):St c (wb c w aJ) I F C (stM a' b') h:=by
 refine S.mJ (β:=some) (FZ:=λ_=>dP) S.len S.apart S.cI (λa E _ sf=>sf) (λi a hi e=>hi.elim) (λi j a e q=>aM e▸q) (λj x e=>?_)
 have hj:j<5:=by have:=(eM.mp e).1;rw [<-S.len] at this;exact this
 have g:∃E o2,([.inst 200 1,.dict [(.str eH,.ref 2),(.str eG,.int 2)],.dict [(.str eE,a),(.str eD,b)],.list 400 jJ,.list 400 []]:G cJ)[j]?=some E/\([.inst 200 1,.dict [(.str eH,.ref 2),(.str eG,.int 2)],.dict [(.str eE,a'),(.str eD,b')],.list 400 jJ,.list 400 []]:G cJ)[j]?=some o2/\gR aQ aJ (stM a b) some (λ_=>dP) E o2:=
  pB (P:=λj (_:mX)=>∃E o2,([.inst 200 1,.dict [(.str eH,.ref 2),(.str eG,.int 2)],.dict [(.str eE,a),(.str eD,b)],.list 400 jJ,.list 400 []]:G cJ)[j]?=some E/\([.inst 200 1,.dict [(.str eH,.ref 2),(.str eG,.int 2)],.dict [(.str eE,a'),(.str eD,b')],.list 400 jJ,.list 400 []]:G cJ)[j]?=some o2/\gR aQ aJ (stM a b) some (λ_=>dP) E o2)
   (a0:=()) (a1:=()) (a2:=()) (a3:=()) (a4:=()) (i:=()) (by rw [cV (h:=hj)]) ⟨_,_,rfl,rfl,.inst rfl⟩ ⟨_,_,rfl,rfl,.dict rfl (.cons (.ref rfl) (.cons (.same rfl) .nil))⟩ ⟨_,_,rfl,rfl,.dict rfl (.cons ka.cv (.cons kb.cv .nil))⟩ ⟨_,_,rfl,rfl,.list (iw Gk) (by decide) (by decide)⟩ ⟨_,_,rfl,rfl,.list .nil (by decide) (by decide)⟩
 refine eO g λE o2 g1 g2 g3=>?_
 exact⟨j,E,o2,e,(HJ hj).trans g1,(HJ hj).trans g2,g3⟩
theorem TB(S:St c (wb c w aQ) I F ao o h)(hp:C<+:ao)(dM:C.length=5)(e0:o.t.get 0=some (.inst 200 1))(e1:o.t.get 1=some (.dict [(.str eH,.ref 2),(.str eG,.int 2)]))(e2:o.t.get 2=some (.dict [(.str eE,.tok 3),(.str eD,.tok 4)]))(e3:o.t.get 3=some (.list ub jJ))
  (t3:aQ 3=some x) (t4:aQ 4=some y):St c (wb c w aJ) I F (C.take 4) (vR x y) h:=by
 have gU:C.take 4<+:ao:=(Q7 ..).trans hp
 have hl:(C.take 4).length=4:=by rw [zh];lia
 have sub:∀a∈C.take 4,a∈ao:=λa ha=>gU.subset ha
 refine S.mJ (β:=λi=>if i<4 then some i else none) (FZ:=λi=>dP) (by rw [hl];rfl) (Co gU.sublist S.apart) (λa ha=>?_) (λa E _ sf=>⟨sf.1,λq=>sf.2 (sub a q)⟩) (λi a hi e=>hi.elim) (λi j a e q=>?_) (λj a e=>?_)
 .refine cf (S.cI a ha) λq1 q2 q3=>?_
  exact⟨q1,λz=>q2 (sub a z),q3⟩
 .by_cases hi:i<4
  .rw [bT hi] at e
   cases e
   rw [<-ja gU (by lia)]
   exact q
  .rw [bl hi] at e;exact aB e
 .have hj:j<4:=by have:=(eM.mp e).1;lia
  have e':ao[j]?=some a:=by rw [ja gU (by lia)];exact e
  rw [adS hj]
  match j,hj,e' with
  |0,_,e'=>exact⟨0,_,_,e',e0,rfl,.inst rfl⟩
  |1,_,e'=>exact⟨1,_,_,e',e1,rfl,.dict rfl (.cons (.ref rfl) (.cons (.same rfl) .nil))⟩
  |2,_,e'=>exact⟨2,_,_,e',e2,rfl,.dict rfl (.cons (.fc t3) (.cons (.fc t4) .nil))⟩
  |3,_,e'=>exact⟨3,_,_,e',e3,rfl,.list (iw Gk) (by decide) (by decide)⟩
  |j+4,hj,_=>exact bP hj (by exact g7.mpr (ud _ _))
end
theorem VM:cz.fn 382=some ⟨4,[.int 4000],jH,i9⟩:=by kernel_rfl
noncomputable def Ir(one d_:D):G (aa D):=[some (.tok 0),some one,some d_,some (.int 4000),.none,.none,.none,.none,.none,.none,.none,.none,.none,.none,.none,.none,.none]
theorem adV(one d_:D):tI ⟨4,[.int 4000],jH,i9⟩ [.tok 0,one,d_]=some (Ir one d_):=by kernel_rfl
theorem adK:jH=jH.take 3++((jH.drop 3).take 1++jH.drop 4):=by kernel_rfl
noncomputable def jL(KT one fi tail i5 jN:D):H->aa D
 |0=>some KT
 |10=>some one
 |12=>some fi
 |13=>some tail
 |20=>some i5
 |21=>some jN
 |_=>.none
noncomputable def kc(KT x y x' y' one Qc:D):H->aa D
 |0=>some KT
 |1=>some x
 |2=>some y
 |3=>some x'
 |4=>some y'
 |10=>some one
 |11=>some Qc
 |_=>.none
section
variable{c:a_}{w:dF}{Y:bG}{F C ao bq bf own:G aA}{s:aT}{I h M h1:aP}{o:MH}{X:cL}{aL aQ aJ:H->aa D}{fr:Fm}{KT:D}{K:b8}{mg mb:ar->aa aw}{n:H}
theorem bh.cut(st:bh own C h bq h1)(sub:∀a∈bf,a∈bq)(pre:C<+:bf):bh own C h bf h1:=⟨pre,st.keep,λb E e n=>⟨(st.out b E e n).1,λq=>(st.out b E e n).2 (sub b q)⟩⟩
noncomputable def Jr(c:a_)(w:dF)(KT:D)(F:G aA)(R5:D)(v:aw)(h M:aP):Prop:=
 (R5=.none/\v=.none)\/∃a R ks,v=.ref a/\h.get? a=none/\R5=.aD (.dict ks) (R.map (·.2))/\R.map (·.1)=ks.map D.str/\(∀q∈R,bC q.2=true)/\OR c (wb c w (aU KT)) F [a] M a (.dict R)
noncomputable def kh(c:a_)(w:dF)(I:aP)(KT:D)(eC:H)(one d_ R5:D):Prop:=
 ∀(Y:bG) (F:G aA) (s:aT) (V:G aw),eY eC Y->St c (wb c w (aU KT)) I F [] ⟨.nil,0⟩ s.heap->aW c (wb c w (aU KT)) F [] s.heap [.tok 0,one,d_] V->bc c (wb c w (aU KT)) Y [] [] s (call (.ref 382) V) (λv _ M=>Jr c w KT F R5 v s.heap M)
noncomputable def Qy(R5:D)(m:D)(o:MH):Prop:=(m=.none/\R5=.none)\/∃i R,m=.ref i/\o.t.get i=some (.dict R)/\allB qX R=true/\(∀q∈R,bC q.2=true)/\R5=.aD (.dict (hJ R)) (R.map (·.2))
theorem kY(h:aL 0=some aH):uj c w aL ke:=ae2 λi m e=>by
 have e':@bN (λ_=>aa D) .none (some aH) (bA i 0)=some m:=e
 generalize J:bA i 0=ax at e'
 cases ax with
 |false=>exact aB e'
 |true=>
  cases e'
  rw [dU J]
  exact⟨h,by kernel_rfl⟩
theorem YY:i9[4]?=some (⟨⟨[115,105,100,101,115]⟩⟩,qC):=by kernel_rfl
theorem YZ:i9[5]?=some (⟨⟨[110,97,109,101,115]⟩⟩,qC):=by kernel_rfl
theorem Y0:i9[7]?=some (⟨⟨[103,111,97,108,115]⟩⟩,qC):=by kernel_rfl
theorem jD:cz.fn 0=none:=by kernel_rfl
theorem xd(S:St c (wb c w aQ) I F C o h)(sub:∀a∈bf,a∈C)(J:Cv aQ aJ o (λ_=>.none) (λ_=>dP) m m')(x:VR c (wb c w aQ) F C h m v):VR c (wb c w aJ) F bf h m' v:=
 J.ok S (λ_ _ _ e=>by exact aB e) (λb E _ sf=>⟨sf.1,λq=>sf.2 (sub b q)⟩) (λ_ _ q=>q.elim) x
theorem yR(e1:C[i]?=some a)(e2:bf[j]?=some a)(x:VR c w1 F C h (.ref i) v):VR c w2 F bf h (.ref j) v:=by
 refine ay x λb q r=>?_
 rw [e1] at q
 cases q
 exact⟨a,e2,r⟩
noncomputable def newOk(P:H->D->Prop):H->G (aa D)->Prop
 |_,[]=>jz
 |k,none::B=>newOk P (k+1) B
 |k,some m::B=>P k m/\newOk P (k+1) B
theorem aay:∀{k:H},newOk P k B->∀{i:H} {m:D},B[i]?=some (some m)->P (k+i) m:=by
 induction B with
 |nil=>exact λ_ _ _ e=>nomatch e
 |cons a B O=>
  intro k h i m e
  cases i with
  |zero=>
   have e:=aM e
   rw [show a=some m from e] at h
   exact h.1
  |succ i=>
   rw [<-ph,Jt]
   cases a with
   |none=>exact O h e
   |some=>exact O h.2 e
theorem Gr(h:newOk P 0 B)(i:H)(m:D)(e:B[i]?=some (some m)):P i m:=by
 have:=aay h e
 rwa [uh] at this
theorem ZP(aV:Base c w K cz I mg mb)(k1:cR one=true)(FI:bC up=true)(k2:cR i5=true)(k4:cR fi=true)(k5:cR tail=true)(ox:cR x=true)(oy:cR y=true)(Bm:cR x'=true)(Bn:cR y'=true)
  (hP:iF c (wb c w (jL aH one fi tail i5 jN)) I (W1 dT dN)) (h1:yp dT dN up=some (.tup [.tup [du,.tok 12,.tok 13],x,y]))
  (lp:p<=390) (uU:(res=true/\oc=.good x' y'/\LB=[]/\R=[])\/(res=false/\oc=.bad R LB x' y'/\p=0)) (ll:LB.length<=400) (qf:∀m∈LB,bC m=true) (pe:∀e∈R,(∀m∈e,bC m=true)/\e.length<=400) (le:R.length<=2)
  (Sc:∀(Y:bG) (F C:G aA) (s:aT) (a0 a2 a3 a6:aA),eY 70 Y->St c (wb c w (aU aH)) I F C (stH 4000 [.tup [.str ⟨⟨[115,117,98]⟩⟩,one,.tup [du,fi,tail]]] (di 0 .any) x y) s.heap->C[0]?=some a0->C[2]?=some a2->C[3]?=some a3->C[6]?=some a6->
   bc c (wb c w (aU aH)) Y [] C s (call (.ref 277) [.ref a0,.ref a2,.ref a3,.ref a6]) (λv ao M=>C<+:ao/\zy c w I aH F ao 3900 p oc v M))
  (h4:mr res R LB p=some .none) (h5:qL x' y' (found res)=some R5):kh c w I aH 180 one (dk up (cD i5)) R5:=by
 refine xA (aN.mp k1) λq1 aco=>?_
 refine xA (aN.mp k2) λq2 acp=>?_
 refine xA (aN.mp k4) λq4 ag0=>?_
 refine xA (aN.mp k5) λq5 ag1=>?_
 have kx:=aN.mp ox
 have ky:=aN.mp oy
 have agH:=aN.mp Bm
 have agI:=aN.mp Bn
 intro Y F s V room S y0 Q au q
 obtain⟨E,fd,dv,Fi⟩:=aV.fn (aL:=aU aH) VM
 have T:=aV.top (aL:=aU aH) (gX:=λ_ _ _=>.none) (tv:=ke) (eq:=λ_ _=>.none) (pull:=0) (kY rfl) hN
 have R2:∀bu:D,Sound (λr:aa D=>r=some bu) c (wb c w (jL aH one fi tail i5 jN)) I 130 (run ip (W1 dT dN) 130):=λbu=>aV.sound (kY rfl) hN hP (.inl jD) (mj bu) 130
 have R4:∀bu:D,Sound (λr:aa D=>r=some bu) c (wb c w (aU aH)) I 120 (run ip WS 120):=λbu=>aV.sound (kY rfl) hN lM (.inl jD) (mj bu) 120
 have O4:iF c (wb c w (kc aH x y x' y' one (.tup [du,fi,tail]))) I (W4 res R LB p):=λa B o q e=>
  abk (aL:=kc aH x y x' y' one (.tup [du,fi,tail])) rfl rfl rfl rfl rfl rfl rfl Bm Bn lp uU ll qf pe le Sc e
 have R3:∀bu:D,Sound (λr:aa D=>r=some bu) c (wb c w (kc aH x y x' y' one (.tup [du,fi,tail]))) I 90 (run ip (W4 res R LB p) 90):=λbu=>aV.sound (kY rfl) hN O4 (.inl jD) (mj bu) 90
 refine B9 (zO (n:=179) (ag:=Prop) (ae:=λr=>r) (k:=Qy R5) T Fi room.calls room.deep S y0 (adV one _) (λs1 X C1=>?_) λv ao M tk st pv=>?_)
 .intro Q au q
  refine(?_:bo _ _ (iH jH X) _ _ _)
  rw [adK,uI]
  have G0:dm c (wb c w (aU aH)) (ownOf X++F) [] s1.heap i9 (Ir one (dk up (cD i5))) X:=C1.fr
  have gD:=G0.own
  have S1:=C1.st.bare (F2:=ownOf X++F) (λa ha=>.inl ha) (jL aH one fi tail i5 jN)
  have z6:∀{m m':D},Cv (aU aH) (jL aH one fi tail i5 jN) ⟨.nil,0⟩ (λ_=>.none) (λ_=>dP) m m'->∀v,VR c (wb c w (aU aH)) (ownOf X++F) [] s1.heap m v->VR c (wb c w (jL aH one fi tail i5 jN)) (ownOf X++F) [] s1.heap m' v:=λJ v x=>xd C1.st (λa (ha:a∈([]:G aA))=>nomatch ha) J x
  have G1:dm c (wb c w (jL aH one fi tail i5 jN)) (ownOf X++F) [] s1.heap i9 (A7 (dk up (cD (.tok 20)))) X:=by
   refine G0.weak gD (Gr (P:=λi m'=>∃m,(Ir one (dk up (cD i5)))[i]?=some (some m)/\∀v,VR c (wb c w (aU aH)) (ownOf X++F) [] s1.heap m v->VR c (wb c w (jL aH one fi tail i5 jN)) (ownOf X++F) [] s1.heap m' v)
    ⟨⟨_,rfl,z6 (.gZ rfl rfl)⟩,⟨_,rfl,z6 (.eT q1 aco rfl)⟩,⟨_,rfl,z6 (.tup (.cons (.same rfl) (.cons (.same rfl) (.cons (.same rfl) (.cons (.same FI) (.cons (.tup (.cons (.same rfl) (.cons (.same rfl) (.cons (.same rfl) (.cons (.same rfl) (.cons (.eT q2 acp rfl) .nil)))))) .nil))))))⟩,⟨_,rfl,z6 (.same rfl)⟩,trivial⟩)
  have D1:Ctx c (wb c w (jL aH one fi tail i5 jN)) I 130 (Y.deeper X) (ownOf X++F) [] s1 ⟨.nil,0⟩ ⟨i9,.none⟩ ⟨A7 (dk up (cD (.tok 20))),[]⟩ X:=⟨C1.room.le (by decide),S1,G1⟩
  refine aO (ku (R2 _).ex (jH.take 3) [] s1 ⟨.nil,0⟩ ⟨A7 (dk up (cD (.tok 20))),[]⟩ FW D1 h1 _ _ λf1 bq jF aZ aS p1=>?_)
  obtain⟨g1,fp,bM,e1,S2,G2,sA⟩:=p1
  obtain⟨rfl,i,nm,gl,dd,r,z1,z2,bd,a,b,ub,gb,eR,v4,v5,v7,v6,v0,v1,v3,m1,m2,m3,c1,c2,m4,m5,nd⟩:=Y1 e1
  have sA:f1=.next:=sA
  rw [sA]
  injection eR with eR
  injection eR with UG eR
  injection eR with ea eR
  injection eR with eb eR
  subst UG ea eb
  have G2:dm c (wb c w (jL aH one fi tail i5 jN)) (ownOf X++F) bq jF i9 fp.vars X:=G2
  obtain⟨a0,a1,a2,a3,a4,p0,p1,p2,p3,p4⟩:CT bq i dd r nm gl:=by
   have lt:∀{j k:H} {y:ar},i9[j]?=some (y,qC)->fp.vars[j]?=some (some (.ref k))->k<bq.length:=λe1 e2=>by
    refine ay G2.loc λm _ hv=>?_
    refine ay (hv _ _ _ e1 e2) λv _ x=>?_
    refine ay x λz e _=>?_
    exact(eM.mp e).1
   exact ab4 S2 (lt YY v4) (lt YZ v5) (lt Y0 v7) m1 m2
  have HQ:∀z∈[a0,a1,a2,a3,a4],z∈bq:=λz hz=>by
   simp only [bY,eP,gF] at hz
   rcases hz with rfl|rfl|rfl|rfl|rfl
   .exact dy p0
   .exact dy p1
   .exact dy p2
   .exact dy p3
   .exact dy p4
  have S3:St c (wb c w (aU aH)) I (ownOf X++F) [a0,a1,a2,a3,a4] (stM x y) jF:=abb S2 m1 m2 m3 c1 c2 m4 m5 nd p0 p1 p2 p3 p4
  have S4:=adT (aJ:=kc aH x y x' y' one (.tup [du,fi,tail])) (a':=.tok 1) (b':=.tok 2) S3 (.eT kx.1 kx.2 rfl) (.eT ky.1 ky.2 rfl)
  have tG:bh (ownOf X) [] s1.heap [a0,a1,a2,a3,a4] jF:=bh.cut aS HQ (wB)
  have DO:∀{m m':D},Cv (jL aH one fi tail i5 jN) (kc aH x y x' y' one (.tup [du,fi,tail])) bM (λ_=>.none) (λ_=>dP) m m'->∀v,VR c (wb c w (jL aH one fi tail i5 jN)) (ownOf X++F) bq jF m v->VR c (wb c w (kc aH x y x' y' one (.tup [du,fi,tail]))) (ownOf X++F) [a0,a1,a2,a3,a4] jF m' v:=λJ v x=>xd S2 HQ J x
  have G3:dm c (wb c w (kc aH x y x' y' one (.tup [du,fi,tail]))) (ownOf X++F) [a0,a1,a2,a3,a4] jF i9 (A8 (.tok 11)) X:=by
   have b6:∀v,VR c (wb c w (jL aH one fi tail i5 jN)) (ownOf X++F) bq jF (.tup [du,.tok 12,.tok 13]) v->VR c (wb c w (kc aH x y x' y' one (.tup [du,fi,tail]))) (ownOf X++F) [a0,a1,a2,a3,a4] jF (.tok 11) v:=λv x=>by
    have x1:VR c (wb c w (aU aH)) (ownOf X++F) [a0,a1,a2,a3,a4] jF (.tup [du,fi,tail]) v:=xd (aJ:=aU aH) S2 HQ (.tup (.cons (.same rfl) (.cons (.fc rfl) (.cons (.fc rfl) .nil)))) x
    have pb:bC (.tup [du,fi,tail])=true:=by
     rw [<-fB,nG]
     refine(?_:(bE du&&(bE fi&&(bE tail&&true)))=true)
     rw [fB,fB,fB,q4,q5];rfl
    exact⟨_,rfl,pb,rfl,x1.chg (w:=wb c w (aU aH)) (w':=w0 w) rfl (aN.mp pb).2⟩
   exact G2.weak gD (Gr (P:=λi m'=>∃m,fp.vars[i]?=some (some m)/\∀v,VR c (wb c w (jL aH one fi tail i5 jN)) (ownOf X++F) bq jF m v->VR c (wb c w (kc aH x y x' y' one (.tup [du,fi,tail]))) (ownOf X++F) [a0,a1,a2,a3,a4] jF m' v)
    ⟨⟨_,v0,DO (.gZ rfl rfl)⟩,⟨_,v1,DO (.gZ rfl rfl)⟩,⟨_,v3,DO (.same rfl)⟩,⟨_,v4,λv x=>yR (j:=0) p0 rfl x⟩,⟨_,v5,λv x=>yR (j:=3) p3 rfl x⟩,⟨_,v6,b6⟩,⟨_,v7,λv x=>yR (j:=4) p4 rfl x⟩,trivial⟩)
  have D2:Ctx c (wb c w (kc aH x y x' y' one (.tup [du,fi,tail]))) I 90 (Y.deeper X) (ownOf X++F) [a0,a1,a2,a3,a4] {s1 with heap:=jF,toks:=aZ} (stM (.tok 1) (.tok 2)) ⟨i9,.none⟩ ⟨A8 (.tok 11),[]⟩ X:=⟨C1.room.le (by decide),S4,G3⟩
  refine(?_:bo _ _ (iH ((jH.drop 3).take 1++jH.drop 4) X) _ _ _)
  rw [uI]
  refine aO (ku (R3 _).ex ((jH.drop 3).take 1) [a0,a1,a2,a3,a4] _ (stM (.tok 1) (.tok 2)) ⟨A8 (.tok 11),[]⟩ (FX res) D2 h4 _ _ λf2 bf jh bS bp abn=>?_)
  obtain⟨g2,kE,dz,e2,S5,G5,sC⟩:=abn
  obtain⟨rfl,n0,n1,n2,⟨ag9,n3⟩,u0,u5,ae4⟩:=Y4 e2
  have sC:f2=.next:=sC
  subst sC
  have G5:dm c (wb c w (kc aH x y x' y' one (.tup [du,fi,tail]))) (ownOf X++F) bf jh i9 kE.vars X:=G5
  have S6:St c (wb c w (aU aH)) I (ownOf X++F) [a0,a1,a2,a3] (vR x' y') jh:=TB (x:=x') (y:=y') S5 bp.pre rfl n0 n1 n2 n3 rfl rfl
  have Hf:[a0,a1,a2,a3]<+:bf:=(Q7 4 [a0,a1,a2,a3,a4]).trans bp.pre
  have OY:∀z∈[a0,a1,a2,a3],z∈bf:=λz hz=>Hf.subset hz
  have KC:∀{m m':D},Cv (kc aH x y x' y' one (.tup [du,fi,tail])) (aU aH) dz (λ_=>.none) (λ_=>dP) m m'->∀v,VR c (wb c w (kc aH x y x' y' one (.tup [du,fi,tail]))) (ownOf X++F) bf jh m v->VR c (wb c w (aU aH)) (ownOf X++F) [a0,a1,a2,a3] jh m' v:=λJ v x=>xd S5 OY J x
  have g0:bf[0]?=some a0:=by rw [ja Hf (by decide:0<4)];rfl
  have g3:bf[3]?=some a3:=by rw [ja Hf (by decide:3<4)];rfl
  have G6:dm c (wb c w (aU aH)) (ownOf X++F) [a0,a1,a2,a3] jh i9 (A9 (found res)) X:=by
   have SF:∀v,VR c (wb c w (kc aH x y x' y' one (.tup [du,fi,tail]))) (ownOf X++F) bf jh (found res) v->VR c (wb c w (aU aH)) (ownOf X++F) [a0,a1,a2,a3] jh (found res) v:=λv x=>by
    cases res with
    |true=>exact yR (j:=0) g0 rfl x
    |false=>exact KC (.same rfl) v x
   exact G5.weak gD (Gr (P:=λi m'=>∃m,kE.vars[i]?=some (some m)/\∀v,VR c (wb c w (kc aH x y x' y' one (.tup [du,fi,tail]))) (ownOf X++F) bf jh m v->VR c (wb c w (aU aH)) (ownOf X++F) [a0,a1,a2,a3] jh m' v)
    ⟨⟨_,u0,KC (.gZ rfl rfl)⟩,⟨_,u5,λv x=>yR (j:=3) g3 rfl x⟩,⟨_,ae4,SF⟩,trivial⟩)
  have D3:Ctx c (wb c w (aU aH)) I 120 (Y.deeper X) (ownOf X++F) [a0,a1,a2,a3] {s1 with heap:=jh,toks:=bS} (vR x' y') ⟨i9,.none⟩ ⟨A9 (found res),[]⟩ X:=⟨C1.room.le (by decide),S6,G6⟩
  refine(?_:bo _ _ (iH (jH.drop 4) X) _ _ _)
  refine ku (R4 _).ex (jH.drop 4) [a0,a1,a2,a3] _ (vR x' y') ⟨A9 (found res),[]⟩ FY D3 h5 _ _ λf3 dY xM ey dp abo=>?_
  obtain⟨agm,pM,hM,e3,S7,G7,sD⟩:=abo
  refine ay (Y5 e3) λm aI hm=>?_;subst aI
  have HI:bh (ownOf X) [] s1.heap [a0,a1,a2,a3] jh:=bh.cut (tG.trans bp) OY (wB)
  exact q f3 dY xM ey (HI.trans dp) ⟨.ret m,pM,hM,hm,S7,G7,sD⟩
 .obtain⟨m,br,km,S',xm⟩:=pv
  refine q v ao M tk st ?_
  rcases km with⟨rfl,rfl⟩|⟨i,R,rfl,e1,e2,e3,rfl⟩
  .exact .inl ⟨rfl,xm⟩
  .refine ay xm ?_;clear xm;intro ad ea aE;subst aE
   refine .inr ⟨ad,R,hJ R,rfl,?_,rfl,FH e2,e3,?_⟩
   .cases z:s.heap.get? ad with
    |none=>rfl
    |some ob=>exact bP (dy ea) (st.out ad ob z (λz=>nomatch z)).2
   .refine gR.ok (aJ:=aU aH) S' (β:=λ_=>.none) (FZ:=λ_=>dP) (λ_ _ _ e=>by exact aB e) (λb E _ sf=>⟨sf.1,λz=>sf.2 ?_⟩) (λ_ _ z=>z.elim) (.dict rfl (iw λz hz=>?_)) (S'.ref ea e1)
    .rw [cA.mp z];exact dy ea
    .refine ay (cF.mp hz) λp hp aE=>?_;subst aE
     exact e3 p hp
end
theorem VL:cz.fn 277=some ⟨4,[],.While dK.1 dK.2 [] wpS::tA,gw⟩:=by kernel_rfl
theorem adU:tI ⟨4,[],.While dK.1 dK.2 [] wpS::tA,gw⟩ [.ref 0,.ref 2,.ref 3,.ref 6]=some gY.vars:=by kernel_rfl
theorem UW:∀f wr,Il WS 60 gw dK.1 dK.2 (stH f [] wr (.tok 1) (.tok 2))=some ⟨true,.fuel f,[],.tok 1,.tok 2,iA wr⟩:=λf wr=>by kernel_rfl
noncomputable def vO(lo up:G D):D:=side 2 lo up false
noncomputable def za(y:D):Prop:=∃lo up,y=vO lo up
section
variable{c:a_}{w:dF}{I:aP}{K:b8}{mg mb:ar->aa aw}
theorem ae1(hy:za y):uj c w (tabS aH x y) Pf:=by
 intro i m e
 have e':@bN (λ_=>aa D) (@bN (λ_=>aa D) .none (some HA) (bA i 2)) (some aH) (bA i 0)=some m:=e
 generalize J:bA i 0=ax at e'
 cases ax with
 |true=>
  cases e'
  rw [dU J]
  exact⟨_,rfl,λF C h v x1=>x1.chg (w:=w0 w) (w':=wb c w (tabS aH x y)) rfl (by kernel_rfl)⟩
 |false=>
  generalize c2:bA i 2=ax at e'
  cases ax with
  |false=>exact aB e'
  |true=>
   cases e'
   rw [dU c2]
   refine⟨_,rfl,λF C h v x1=>?_⟩
   refine gJ hy ?_;clear hy;intro lo up aE;subst aE
   unfold vO side at x1
   unfold HA
   obtain⟨a,d,V,e,f,f',g,g',b1,yv⟩:=x1
   replace yv:=yv.cj;obtain⟨v0,r,rfl,y1,yv⟩:=yv
   replace yv:=yv.cj;obtain⟨v1,r,rfl,y2,yv⟩:=yv
   replace yv:=yv.cj;obtain⟨v2,r,rfl,y3,yv⟩:=yv
   replace yv:=yv.cj;obtain⟨v3,r,rfl,y4,yv⟩:=yv
   replace yv:=yv.cj;obtain⟨v4,r,rfl,y5,yv⟩:=yv
   rw [yv.dW] at g'
   refine⟨a,d,[v0,v1,v2,v3,v4],e,f,f',g,g',rfl,?_⟩
   have any:∀{v:aw},VR c (wb c w (tabS aH x (vO lo up))) F C h .any v:=by intro v;trivial
   exact .cons (y1.chg (w:=w0 w) (w':=wb c w (tabS aH x (vO lo up))) rfl rfl) (.cons (y2.chg (w:=w0 w) (w':=wb c w (tabS aH x (vO lo up))) rfl rfl) (.cons any (.cons any (.one (y5.chg (w:=w0 w) (w':=wb c w (tabS aH x (vO lo up))) rfl rfl)))))
theorem adh(aV:Base c w K cz I mg mb)(ch:Ends za c w I aH WE 60 gw dK.1 dK.2 tA [g] x y k p oc)(gg:cR x=true)(gh:cR y=true)(hk:k<=60)(hm:p<=390)(hb:∀R B x' y',oc=.bad R B x' y'->p=0)
  (Y:bG) (F C:G aA) (s:aT) (a0 a2 a3 a6:aA) (room:eY 70 Y) (S:St c (wb c w (aU aH)) I F C (stH 4000 [g] (di 0 .any) x y) s.heap) (e0:C[0]?=some a0) (e2:C[2]?=some a2) (e3:C[3]?=some a3) (e6:C[6]?=some a6):
  bc c (wb c w (aU aH)) Y [] C s (call (.ref 277) [.ref a0,.ref a2,.ref a3,.ref a6]) (λv ao M=>C<+:ao/\zy c w I aH F ao 3900 p oc v M):=by
 obtain⟨E,fd,dv,Fi⟩:=aV.fn (aL:=aU aH) VL
 have T:=aV.top (aL:=aU aH) (gX:=λ_ _ _=>.none) (tv:=ke) (eq:=λ_ _=>.none) (pull:=0) (kY rfl) hN
 have:=adg (m:=0) T Fi rfl rfl adU (g9:=za) (λx y bu _ hy=>aV.sound (ae1 hy) hN lM (.inl jD) (De bu) 60) ch gg gh (fb:=3900) (by lia) (by simp only [iQ,rM];lia) (by lia) (λR B x' y' e=>by have:=hb R B x' y' e;lia) (room.le (by decide)) S e0 e2 e3 e6
 rw [uh] at this
 exact this
theorem DG(aV:Base c w K cz I mg mb)(ch:Chain WS 60 gw dK.1 dK.2 left x y k p E)(pl:∀z∈left,bC z=true):je c w I aH 60 gw dK.1 dK.2 left x y k p E:=
 TJ (λx y bu=>aV.sound (kY rfl) hN lM (.inl jD) (De bu) 60) (λx y bu=>aV.sound (kY rfl) hN lM (.inl jD) (Sq bu) 60) UW ch pl
end
structure fN where
 g:D
 sT:aa (G D×G D)
 sN:aa (G D×G D)
 fl:ah
 subs:G D
 lU:aa (G D×G D)
 lR:aa (G D×G D)
 p:H
noncomputable def qk(E:aa (G D×G D))(d:ah):D:=match E with
 |some q=>side 1 q.1 q.2 d
 |.none=>.tok 1
noncomputable def qj(E:aa (G D×G D)):D:=match E with
 |some q=>side 2 q.1 q.2 false
 |.none=>.tok 2
noncomputable def oR(f:H)(aY wr:G D)(d:ah)(r:fN):aa Lk:=tn (stH (cX f) (r.g::aY) wr (qk r.sT d) (qj r.sN))
noncomputable def oA(f:H)(aY wr:G D)(d:ah)(r:fN):aa Lk:=some ⟨r.fl,.fuel f,r.subs++aY,qk r.lU d,qj r.lR,iA wr+r.p⟩
noncomputable def HZ:G fN:=[
 ⟨sub aC vT,some ([],[]),.none,true,[],some ([aC],[]),.none,0⟩,
 ⟨sub ai vT,some ([],[]),.none,true,[],some ([ai],[]),.none,0⟩,
 ⟨sub bF vT,some ([],[]),.none,true,[],some ([bF],[]),.none,0⟩,
 ⟨sub j0 ak,.none,.none,true,[],.none,.none,0⟩,
 ⟨sub aC vT,some ([],[ak]),.none,true,[sub aC ak],some ([aC],[ak]),.none,0⟩,
 ⟨sub aC ak,.none,.none,true,[],.none,.none,0⟩,
 ⟨sub aF vT,some ([],[ak]),.none,true,[sub aF ak],some ([aF],[ak]),.none,0⟩,
 ⟨sub aF ak,.none,.none,false,[],.none,.none,0⟩,
 ⟨sub ai vT,some ([],[ak]),.none,true,[sub ai ak],some ([ai],[ak]),.none,0⟩,
 ⟨sub ai ak,.none,.none,true,[],.none,.none,0⟩,
 ⟨sub bF vT,some ([],[ak]),.none,true,[sub bF ak],some ([bF],[ak]),.none,0⟩,
 ⟨sub bF ak,.none,.none,true,[],.none,.none,0⟩,
 ⟨sub aC vT,some ([],[aK]),.none,true,[sub aC aK],some ([aC],[aK]),.none,0⟩,
 ⟨sub aC aK,.none,.none,true,[],.none,.none,0⟩,
 ⟨sub aF vT,some ([],[aK]),.none,true,[sub aF aK],some ([aF],[aK]),.none,0⟩,
 ⟨sub aF aK,.none,.none,false,[],.none,.none,0⟩,
 ⟨sub ai vT,some ([],[aK]),.none,true,[sub ai aK],some ([ai],[aK]),.none,0⟩,
 ⟨sub ai aK,.none,.none,true,[],.none,.none,0⟩,
 ⟨sub bF vT,some ([],[aK]),.none,true,[sub bF aK],some ([bF],[aK]),.none,0⟩,
 ⟨sub bF aK,.none,.none,true,[],.none,.none,0⟩,
 ⟨sub (arr aC (num 1)) (arr vT (num 1)),.none,.none,true,[same (num 1) (num 1),same aC vT],.none,.none,0⟩,
 ⟨same (num 1) (num 1),.none,.none,true,[],.none,.none,0⟩,
 ⟨same aC vT,.none,.none,true,[sub vT aC,sub aC vT],.none,.none,0⟩,
 ⟨sub vT aC,some ([],[]),.none,true,[],some ([],[aC]),.none,0⟩,
 ⟨sub aC vT,some ([],[aC]),.none,true,[sub aC aC],some ([aC],[aC]),.none,0⟩]
noncomputable def H0:G fN:=[
 ⟨sub aC aC,.none,.none,true,[],.none,.none,0⟩,
 ⟨sub aF (arr vT (num 1)),.none,.none,false,[],.none,.none,0⟩,
 ⟨sub (arr ai (num 1)) (arr vT (num 1)),.none,.none,true,[same (num 1) (num 1),same ai vT],.none,.none,0⟩,
 ⟨same ai vT,.none,.none,true,[sub vT ai,sub ai vT],.none,.none,0⟩,
 ⟨sub vT ai,some ([],[]),.none,true,[],some ([],[ai]),.none,0⟩,
 ⟨sub ai vT,some ([],[ai]),.none,true,[sub ai ai],some ([ai],[ai]),.none,0⟩,
 ⟨sub ai ai,.none,.none,true,[],.none,.none,0⟩,
 ⟨sub (arr ak (num 1)) (arr vT (num 1)),.none,.none,true,[same (num 1) (num 1),same ak vT],.none,.none,0⟩,
 ⟨same ak vT,.none,.none,true,[sub vT ak,sub ak vT],.none,.none,0⟩,
 ⟨sub vT ak,some ([],[]),.none,true,[],some ([],[ak]),.none,0⟩,
 ⟨sub ak vT,some ([],[ak]),.none,true,[sub ak ak],some ([ak],[ak]),.none,0⟩,
 ⟨sub ak ak,.none,.none,true,[],.none,.none,0⟩,
 ⟨sub (arr af (num 1)) (arr vT (num 1)),.none,.none,true,[same (num 1) (num 1),same af vT],.none,.none,0⟩,
 ⟨same af vT,.none,.none,true,[sub vT af,sub af vT],.none,.none,0⟩,
 ⟨sub vT af,some ([],[]),.none,true,[],some ([],[af]),.none,0⟩,
 ⟨sub af vT,some ([],[af]),.none,true,[sub af af],some ([af],[af]),.none,0⟩,
 ⟨sub af af,.none,.none,true,[],.none,.none,0⟩,
 ⟨sub vT aC,some ([],[ak]),.none,true,[],some ([],[ak,aC]),.none,0⟩,
 ⟨sub aC vT,some ([],[ak,aC]),.none,true,[sub aC aC,sub aC ak],some ([aC],[ak,aC]),.none,0⟩,
 ⟨sub vT ai,some ([],[ak]),.none,true,[],some ([],[ak,ai]),.none,0⟩,
 ⟨sub ai vT,some ([],[ak,ai]),.none,true,[sub ai ai,sub ai ak],some ([ai],[ak,ai]),.none,0⟩,
 ⟨sub vT ak,some ([],[ak]),.none,true,[],some ([],[ak]),.none,0⟩,
 ⟨sub vT af,some ([],[ak]),.none,true,[],some ([],[ak,af]),.none,0⟩,
 ⟨sub af vT,some ([],[ak,af]),.none,true,[sub af af,sub af ak],some ([af],[ak,af]),.none,0⟩,
 ⟨sub af ak,.none,.none,true,[sub aC ak,sub ai ak],.none,.none,0⟩]
noncomputable def H3:G fN:=[
 ⟨sub vT aC,some ([],[aK]),.none,true,[],some ([],[aK,aC]),.none,0⟩,
 ⟨sub aC vT,some ([],[aK,aC]),.none,true,[sub aC aC,sub aC aK],some ([aC],[aK,aC]),.none,0⟩,
 ⟨sub vT ai,some ([],[aK]),.none,true,[],some ([],[aK,ai]),.none,0⟩,
 ⟨sub ai vT,some ([],[aK,ai]),.none,true,[sub ai ai,sub ai aK],some ([ai],[aK,ai]),.none,0⟩,
 ⟨sub vT ak,some ([],[aK]),.none,true,[],some ([],[aK,ak]),.none,0⟩,
 ⟨sub ak vT,some ([],[aK,ak]),.none,true,[sub ak ak,sub ak aK],some ([ak],[aK,ak]),.none,0⟩,
 ⟨sub ak aK,.none,.none,true,[],.none,.none,0⟩,
 ⟨sub vT af,some ([],[aK]),.none,true,[],some ([],[aK,af]),.none,0⟩,
 ⟨sub af vT,some ([],[aK,af]),.none,true,[sub af af,sub af aK],some ([af],[aK,af]),.none,0⟩,
 ⟨sub af aK,.none,.none,true,[sub aC aK,sub ai aK],.none,.none,0⟩,
 ⟨sub (arr aC (num 1)) (arr vT vN),.none,.none,true,[same (num 1) vN,same aC vT],.none,.none,0⟩,
 ⟨same (num 1) vN,.none,some ([],[]),true,[sub vN (num 1),sub (num 1) vN],.none,some ([],[]),0⟩,
 ⟨sub vN (num 1),.none,some ([],[]),true,[],.none,some ([],[(num 1)]),0⟩,
 ⟨sub (num 1) vN,.none,some ([],[(num 1)]),true,[sub (num 1) (num 1)],.none,some ([(num 1)],[(num 1)]),0⟩,
 ⟨sub (num 1) (num 1),.none,.none,true,[],.none,.none,0⟩,
 ⟨sub aF (arr vT vN),.none,.none,false,[],.none,.none,0⟩,
 ⟨sub (arr aC (num 2)) (arr vT vN),.none,.none,true,[same (num 2) vN,same aC vT],.none,.none,0⟩,
 ⟨same (num 2) vN,.none,some ([],[]),true,[sub vN (num 2),sub (num 2) vN],.none,some ([],[]),0⟩,
 ⟨sub vN (num 2),.none,some ([],[]),true,[],.none,some ([],[(num 2)]),0⟩,
 ⟨sub (num 2) vN,.none,some ([],[(num 2)]),true,[sub (num 2) (num 2)],.none,some ([(num 2)],[(num 2)]),0⟩,
 ⟨sub (num 2) (num 2),.none,.none,true,[],.none,.none,0⟩,
 ⟨sub (arr aC (num 3)) (arr vT vN),.none,.none,true,[same (num 3) vN,same aC vT],.none,.none,0⟩,
 ⟨same (num 3) vN,.none,some ([],[]),true,[sub vN (num 3),sub (num 3) vN],.none,some ([],[]),0⟩,
 ⟨sub vN (num 3),.none,some ([],[]),true,[],.none,some ([],[(num 3)]),0⟩,
 ⟨sub (num 3) vN,.none,some ([],[(num 3)]),true,[sub (num 3) (num 3)],.none,some ([(num 3)],[(num 3)]),0⟩]
noncomputable def H4:G fN:=[
 ⟨sub (num 3) (num 3),.none,.none,true,[],.none,.none,0⟩,
 ⟨sub (arr ai (num 1)) (arr vT vN),.none,.none,true,[same (num 1) vN,same ai vT],.none,.none,0⟩,
 ⟨sub (arr ai (num 2)) (arr vT vN),.none,.none,true,[same (num 2) vN,same ai vT],.none,.none,0⟩,
 ⟨sub (arr ai (num 3)) (arr vT vN),.none,.none,true,[same (num 3) vN,same ai vT],.none,.none,0⟩,
 ⟨sub (arr ak (num 1)) (arr vT vN),.none,.none,true,[same (num 1) vN,same ak vT],.none,.none,0⟩,
 ⟨sub (arr ak (num 2)) (arr vT vN),.none,.none,true,[same (num 2) vN,same ak vT],.none,.none,0⟩,
 ⟨sub (arr ak (num 3)) (arr vT vN),.none,.none,true,[same (num 3) vN,same ak vT],.none,.none,0⟩,
 ⟨sub (arr af (num 1)) (arr vT vN),.none,.none,true,[same (num 1) vN,same af vT],.none,.none,0⟩,
 ⟨sub (arr af (num 2)) (arr vT vN),.none,.none,true,[same (num 2) vN,same af vT],.none,.none,0⟩,
 ⟨sub (arr af (num 3)) (arr vT vN),.none,.none,true,[same (num 3) vN,same af vT],.none,.none,0⟩,
 ⟨sub (gx aC) (gx vT),.none,.none,true,[same aC vT],.none,.none,0⟩,
 ⟨sub aF (gx vT),.none,.none,false,[],.none,.none,0⟩,
 ⟨sub (gx ai) (gx vT),.none,.none,true,[same ai vT],.none,.none,0⟩,
 ⟨sub (gx ak) (gx vT),.none,.none,true,[same ak vT],.none,.none,0⟩,
 ⟨sub (gx af) (gx vT),.none,.none,true,[same af vT],.none,.none,0⟩,
 ⟨sub (gP aC aC) (gP vT aC),.none,.none,true,[sub aC aC,sub aC vT],.none,.none,0⟩,
 ⟨sub aF (gP vT aC),.none,.none,false,[],.none,.none,0⟩,
 ⟨sub (gP ai aC) (gP vT aC),.none,.none,true,[sub aC aC,sub ai vT],.none,.none,0⟩,
 ⟨sub (gP bF aC) (gP vT aC),.none,.none,true,[sub aC aC,sub bF vT],.none,.none,0⟩,
 ⟨sub aC vT,some ([aC],[]),.none,true,[],some ([aC],[]),.none,0⟩,
 ⟨sub aF vT,some ([],[]),.none,true,[],some ([aF],[]),.none,0⟩,
 ⟨sub aC vT,some ([aF],[]),.none,true,[],some ([aF,aC],[]),.none,0⟩,
 ⟨sub ai vT,some ([ai],[]),.none,true,[],some ([ai],[]),.none,0⟩,
 ⟨sub ai vT,some ([aF],[]),.none,true,[],some ([aF,ai],[]),.none,0⟩,
 ⟨sub bF vT,some ([bF],[]),.none,true,[],some ([bF],[]),.none,0⟩]
noncomputable def H6:G fN:=[
 ⟨sub bF vT,some ([aF],[]),.none,true,[],some ([aF,bF],[]),.none,0⟩,
 ⟨sub aC vT,some ([aC],[ak]),.none,true,[],some ([aC],[ak]),.none,0⟩,
 ⟨sub ai vT,some ([ai],[ak]),.none,true,[],some ([ai],[ak]),.none,0⟩,
 ⟨sub bF vT,some ([bF],[ak]),.none,true,[],some ([bF],[ak]),.none,0⟩,
 ⟨sub aC vT,some ([aC],[aK]),.none,true,[],some ([aC],[aK]),.none,0⟩,
 ⟨sub ai vT,some ([ai],[aK]),.none,true,[],some ([ai],[aK]),.none,0⟩,
 ⟨sub bF vT,some ([bF],[aK]),.none,true,[],some ([bF],[aK]),.none,0⟩,
 ⟨sub aC vT,some ([aC],[aC]),.none,true,[],some ([aC],[aC]),.none,0⟩,
 ⟨sub ai vT,some ([ai],[ai]),.none,true,[],some ([ai],[ai]),.none,0⟩,
 ⟨sub bF vT,some ([ak],[ak]),.none,true,[sub bF ak],some ([ak,bF],[ak]),.none,0⟩,
 ⟨sub ai vT,some ([af],[af]),.none,true,[sub ai af],some ([af,ai],[af]),.none,0⟩,
 ⟨sub ai af,.none,.none,true,[sub ai ai],.none,.none,1⟩,
 ⟨sub aC vT,some ([aC],[ak,aC]),.none,true,[],some ([aC],[ak,aC]),.none,0⟩,
 ⟨sub aF vT,some ([aC],[ak,aC]),.none,true,[sub aF aC,sub aF ak],some ([aC,aF],[ak,aC]),.none,0⟩,
 ⟨sub aF aC,.none,.none,false,[],.none,.none,0⟩,
 ⟨sub ai vT,some ([ai],[ak,ai]),.none,true,[],some ([ai],[ak,ai]),.none,0⟩,
 ⟨sub aF vT,some ([ai],[ak,ai]),.none,true,[sub aF ai,sub aF ak],some ([ai,aF],[ak,ai]),.none,0⟩,
 ⟨sub aF ai,.none,.none,false,[],.none,.none,0⟩,
 ⟨sub aF vT,some ([ak],[ak]),.none,true,[sub aF ak],some ([ak,aF],[ak]),.none,0⟩,
 ⟨sub ai vT,some ([af],[ak,af]),.none,true,[sub ai af,sub ai ak],some ([af,ai],[ak,af]),.none,0⟩,
 ⟨sub aF vT,some ([af],[ak,af]),.none,true,[sub aF af,sub aF ak],some ([af,aF],[ak,af]),.none,0⟩,
 ⟨sub aF af,.none,.none,true,[sub aF ai],.none,.none,1⟩,
 ⟨sub aC vT,some ([aC],[aK,aC]),.none,true,[],some ([aC],[aK,aC]),.none,0⟩,
 ⟨sub aF vT,some ([aC],[aK,aC]),.none,true,[sub aF aC,sub aF aK],some ([aC,aF],[aK,aC]),.none,0⟩,
 ⟨sub ai vT,some ([ai],[aK,ai]),.none,true,[],some ([ai],[aK,ai]),.none,0⟩]
noncomputable def H7:G fN:=[
 ⟨sub aF vT,some ([ai],[aK,ai]),.none,true,[sub aF ai,sub aF aK],some ([ai,aF],[aK,ai]),.none,0⟩,
 ⟨sub bF vT,some ([ak],[aK,ak]),.none,true,[sub bF ak,sub bF aK],some ([ak,bF],[aK,ak]),.none,0⟩,
 ⟨sub aF vT,some ([ak],[aK,ak]),.none,true,[sub aF ak,sub aF aK],some ([ak,aF],[aK,ak]),.none,0⟩,
 ⟨sub ai vT,some ([af],[aK,af]),.none,true,[sub ai af,sub ai aK],some ([af,ai],[aK,af]),.none,0⟩,
 ⟨sub aF vT,some ([af],[aK,af]),.none,true,[sub aF af,sub aF aK],some ([af,aF],[aK,af]),.none,0⟩,
 ⟨sub aF vT,some ([aC],[ak]),.none,true,[sub aF ak],some ([aC,aF],[ak]),.none,0⟩,
 ⟨sub aF vT,some ([ai],[ak]),.none,true,[sub aF ak],some ([ai,aF],[ak]),.none,0⟩,
 ⟨sub aF vT,some ([bF],[ak]),.none,true,[sub aF ak],some ([bF,aF],[ak]),.none,0⟩,
 ⟨sub aF vT,some ([aC],[aK]),.none,true,[sub aF aK],some ([aC,aF],[aK]),.none,0⟩,
 ⟨sub aF vT,some ([ai],[aK]),.none,true,[sub aF aK],some ([ai,aF],[aK]),.none,0⟩,
 ⟨sub aF vT,some ([bF],[aK]),.none,true,[sub aF aK],some ([bF,aF],[aK]),.none,0⟩,
 ⟨sub vT aC,some ([aC],[]),.none,true,[sub aC aC],some ([aC],[aC]),.none,0⟩,
 ⟨sub vT ai,some ([ai],[]),.none,true,[sub ai ai],some ([ai],[ai]),.none,0⟩,
 ⟨sub vT ak,some ([bF],[]),.none,true,[sub bF ak],some ([bF],[ak]),.none,0⟩,
 ⟨sub ak vT,some ([bF],[ak]),.none,true,[sub ak ak],some ([bF,ak],[ak]),.none,0⟩,
 ⟨sub vT af,some ([ai],[]),.none,true,[sub ai af],some ([ai],[af]),.none,0⟩,
 ⟨sub af vT,some ([ai],[af]),.none,true,[sub af af],some ([ai,af],[af]),.none,0⟩,
 ⟨sub vT aC,some ([aC],[ak]),.none,true,[sub aC aC],some ([aC],[ak,aC]),.none,0⟩,
 ⟨sub vT ai,some ([ai],[ak]),.none,true,[sub ai ai],some ([ai],[ak,ai]),.none,0⟩,
 ⟨sub vT ak,some ([bF],[ak]),.none,true,[],some ([bF],[ak]),.none,0⟩,
 ⟨sub vT af,some ([ai],[ak]),.none,true,[sub ai af],some ([ai],[ak,af]),.none,0⟩,
 ⟨sub af vT,some ([ai],[ak,af]),.none,true,[sub af af,sub af ak],some ([ai,af],[ak,af]),.none,0⟩,
 ⟨sub vT aC,some ([aC],[aK]),.none,true,[sub aC aC],some ([aC],[aK,aC]),.none,0⟩,
 ⟨sub vT ai,some ([ai],[aK]),.none,true,[sub ai ai],some ([ai],[aK,ai]),.none,0⟩,
 ⟨sub vT ak,some ([bF],[aK]),.none,true,[sub bF ak],some ([bF],[aK,ak]),.none,0⟩]
noncomputable def H8:G fN:=[
 ⟨sub ak vT,some ([bF],[aK,ak]),.none,true,[sub ak ak,sub ak aK],some ([bF,ak],[aK,ak]),.none,0⟩,
 ⟨sub vT af,some ([ai],[aK]),.none,true,[sub ai af],some ([ai],[aK,af]),.none,0⟩,
 ⟨sub af vT,some ([ai],[aK,af]),.none,true,[sub af af,sub af aK],some ([ai,af],[aK,af]),.none,0⟩,
 ⟨sub vT aC,some ([aC],[aC]),.none,true,[],some ([aC],[aC]),.none,0⟩,
 ⟨sub vT ai,some ([ai],[ai]),.none,true,[],some ([ai],[ai]),.none,0⟩,
 ⟨sub vT ak,some ([ak],[ak]),.none,true,[],some ([ak],[ak]),.none,0⟩,
 ⟨sub ak vT,some ([ak],[ak]),.none,true,[],some ([ak],[ak]),.none,0⟩,
 ⟨sub vT af,some ([af],[af]),.none,true,[],some ([af],[af]),.none,0⟩,
 ⟨sub af vT,some ([af],[af]),.none,true,[],some ([af],[af]),.none,0⟩,
 ⟨sub vT aC,some ([aC],[ak,aC]),.none,true,[],some ([aC],[ak,aC]),.none,0⟩,
 ⟨sub vT ai,some ([ai],[ak,ai]),.none,true,[],some ([ai],[ak,ai]),.none,0⟩,
 ⟨sub vT af,some ([af],[ak,af]),.none,true,[],some ([af],[ak,af]),.none,0⟩,
 ⟨sub af vT,some ([af],[ak,af]),.none,true,[],some ([af],[ak,af]),.none,0⟩,
 ⟨sub vT aC,some ([aC],[aK,aC]),.none,true,[],some ([aC],[aK,aC]),.none,0⟩,
 ⟨sub vT ai,some ([ai],[aK,ai]),.none,true,[],some ([ai],[aK,ai]),.none,0⟩,
 ⟨sub vT ak,some ([ak],[aK,ak]),.none,true,[],some ([ak],[aK,ak]),.none,0⟩,
 ⟨sub ak vT,some ([ak],[aK,ak]),.none,true,[],some ([ak],[aK,ak]),.none,0⟩,
 ⟨sub vT af,some ([af],[aK,af]),.none,true,[],some ([af],[aK,af]),.none,0⟩,
 ⟨sub af vT,some ([af],[aK,af]),.none,true,[],some ([af],[aK,af]),.none,0⟩,
 ⟨same (num 1) vN,.none,some ([(num 1)],[(num 1)]),true,[sub vN (num 1),sub (num 1) vN],.none,some ([(num 1)],[(num 1)]),0⟩,
 ⟨sub vN (num 1),.none,some ([(num 1)],[(num 1)]),true,[],.none,some ([(num 1)],[(num 1)]),0⟩,
 ⟨sub (num 1) vN,.none,some ([(num 1)],[(num 1)]),true,[],.none,some ([(num 1)],[(num 1)]),0⟩,
 ⟨same (num 2) vN,.none,some ([(num 2)],[(num 2)]),true,[sub vN (num 2),sub (num 2) vN],.none,some ([(num 2)],[(num 2)]),0⟩,
 ⟨sub vN (num 2),.none,some ([(num 2)],[(num 2)]),true,[],.none,some ([(num 2)],[(num 2)]),0⟩,
 ⟨sub (num 2) vN,.none,some ([(num 2)],[(num 2)]),true,[],.none,some ([(num 2)],[(num 2)]),0⟩]
noncomputable def H9:G fN:=[
 ⟨same (num 3) vN,.none,some ([(num 3)],[(num 3)]),true,[sub vN (num 3),sub (num 3) vN],.none,some ([(num 3)],[(num 3)]),0⟩,
 ⟨sub vN (num 3),.none,some ([(num 3)],[(num 3)]),true,[],.none,some ([(num 3)],[(num 3)]),0⟩,
 ⟨sub (num 3) vN,.none,some ([(num 3)],[(num 3)]),true,[],.none,some ([(num 3)],[(num 3)]),0⟩,
 ⟨sub aC vT,some ([aF,aC],[]),.none,true,[],some ([aF,aC],[]),.none,0⟩,
 ⟨sub ai vT,some ([aF,ai],[]),.none,true,[],some ([aF,ai],[]),.none,0⟩,
 ⟨sub bF vT,some ([aF,bF],[]),.none,true,[],some ([aF,bF],[]),.none,0⟩,
 ⟨sub bF vT,some ([ak,bF],[ak]),.none,true,[],some ([ak,bF],[ak]),.none,0⟩,
 ⟨sub ai vT,some ([af,ai],[af]),.none,true,[],some ([af,ai],[af]),.none,0⟩,
 ⟨sub ai vT,some ([af,ai],[ak,af]),.none,true,[],some ([af,ai],[ak,af]),.none,0⟩,
 ⟨sub bF vT,some ([ak,bF],[aK,ak]),.none,true,[],some ([ak,bF],[aK,ak]),.none,0⟩,
 ⟨sub ai vT,some ([af,ai],[aK,af]),.none,true,[],some ([af,ai],[aK,af]),.none,0⟩,
 ⟨sub aF vT,some ([aC],[]),.none,true,[],some ([aC,aF],[]),.none,0⟩,
 ⟨sub aC vT,some ([aC,aF],[]),.none,true,[],some ([aC,aF],[]),.none,0⟩,
 ⟨sub aF vT,some ([ai],[]),.none,true,[],some ([ai,aF],[]),.none,0⟩,
 ⟨sub ai vT,some ([ai,aF],[]),.none,true,[],some ([ai,aF],[]),.none,0⟩,
 ⟨sub aF vT,some ([bF],[]),.none,true,[],some ([bF,aF],[]),.none,0⟩,
 ⟨sub bF vT,some ([bF,aF],[]),.none,true,[],some ([bF,aF],[]),.none,0⟩,
 ⟨sub bF vT,some ([bF,ak],[ak]),.none,true,[],some ([bF,ak],[ak]),.none,0⟩,
 ⟨sub ai vT,some ([ai,af],[af]),.none,true,[],some ([ai,af],[af]),.none,0⟩,
 ⟨sub ai vT,some ([ai,af],[ak,af]),.none,true,[],some ([ai,af],[ak,af]),.none,0⟩,
 ⟨sub bF vT,some ([bF,ak],[aK,ak]),.none,true,[],some ([bF,ak],[aK,ak]),.none,0⟩,
 ⟨sub ai vT,some ([ai,af],[aK,af]),.none,true,[],some ([ai,af],[aK,af]),.none,0⟩,
 ⟨sub aF vT,some ([bF,ak],[ak]),.none,true,[sub aF ak],some ([bF,ak,aF],[ak]),.none,0⟩,
 ⟨sub aF vT,some ([ai,af],[ak,af]),.none,true,[sub aF af,sub aF ak],some ([ai,af,aF],[ak,af]),.none,0⟩,
 ⟨sub aF vT,some ([bF,ak],[aK,ak]),.none,true,[sub aF ak,sub aF aK],some ([bF,ak,aF],[aK,ak]),.none,0⟩]
noncomputable def H_:G fN:=[
 ⟨sub aF vT,some ([ai,af],[aK,af]),.none,true,[sub aF af,sub aF aK],some ([ai,af,aF],[aK,af]),.none,0⟩,
 ⟨sub aF vT,some ([ak,bF],[ak]),.none,true,[sub aF ak],some ([ak,bF,aF],[ak]),.none,0⟩,
 ⟨sub aF vT,some ([af,ai],[ak,af]),.none,true,[sub aF af,sub aF ak],some ([af,ai,aF],[ak,af]),.none,0⟩,
 ⟨sub aF vT,some ([ak,bF],[aK,ak]),.none,true,[sub aF ak,sub aF aK],some ([ak,bF,aF],[aK,ak]),.none,0⟩,
 ⟨sub aF vT,some ([af,ai],[aK,af]),.none,true,[sub aF af,sub aF aK],some ([af,ai,aF],[aK,af]),.none,0⟩,
 ⟨sub vT ak,some ([ak,bF],[ak]),.none,true,[],some ([ak,bF],[ak]),.none,0⟩,
 ⟨sub ak vT,some ([ak,bF],[ak]),.none,true,[],some ([ak,bF],[ak]),.none,0⟩,
 ⟨sub vT af,some ([af,ai],[af]),.none,true,[],some ([af,ai],[af]),.none,0⟩,
 ⟨sub af vT,some ([af,ai],[af]),.none,true,[],some ([af,ai],[af]),.none,0⟩,
 ⟨sub vT af,some ([af,ai],[ak,af]),.none,true,[],some ([af,ai],[ak,af]),.none,0⟩,
 ⟨sub af vT,some ([af,ai],[ak,af]),.none,true,[],some ([af,ai],[ak,af]),.none,0⟩,
 ⟨sub vT ak,some ([ak,bF],[aK,ak]),.none,true,[],some ([ak,bF],[aK,ak]),.none,0⟩,
 ⟨sub ak vT,some ([ak,bF],[aK,ak]),.none,true,[],some ([ak,bF],[aK,ak]),.none,0⟩,
 ⟨sub vT af,some ([af,ai],[aK,af]),.none,true,[],some ([af,ai],[aK,af]),.none,0⟩,
 ⟨sub af vT,some ([af,ai],[aK,af]),.none,true,[],some ([af,ai],[aK,af]),.none,0⟩,
 ⟨sub vT ak,some ([bF,ak],[ak]),.none,true,[],some ([bF,ak],[ak]),.none,0⟩,
 ⟨sub ak vT,some ([bF,ak],[ak]),.none,true,[],some ([bF,ak],[ak]),.none,0⟩,
 ⟨sub vT af,some ([ai,af],[af]),.none,true,[],some ([ai,af],[af]),.none,0⟩,
 ⟨sub af vT,some ([ai,af],[af]),.none,true,[],some ([ai,af],[af]),.none,0⟩,
 ⟨sub vT af,some ([ai,af],[ak,af]),.none,true,[],some ([ai,af],[ak,af]),.none,0⟩,
 ⟨sub af vT,some ([ai,af],[ak,af]),.none,true,[],some ([ai,af],[ak,af]),.none,0⟩,
 ⟨sub vT ak,some ([bF,ak],[aK,ak]),.none,true,[],some ([bF,ak],[aK,ak]),.none,0⟩,
 ⟨sub ak vT,some ([bF,ak],[aK,ak]),.none,true,[],some ([bF,ak],[aK,ak]),.none,0⟩,
 ⟨sub vT af,some ([ai,af],[aK,af]),.none,true,[],some ([ai,af],[aK,af]),.none,0⟩,
 ⟨sub af vT,some ([ai,af],[aK,af]),.none,true,[],some ([ai,af],[aK,af]),.none,0⟩]
noncomputable def oY:G (G fN):=[HZ,H0,H3,H4,H6,H7,H8,H9,H_]
noncomputable def agk:G (G D×G D):=[
 ([aC],[]),
 ([ai],[]),
 ([bF],[]),
 ([aC],[ak]),
 ([ai],[ak]),
 ([bF],[ak]),
 ([aC],[aK]),
 ([ai],[aK]),
 ([bF],[aK]),
 ([aC],[aC]),
 ([ai],[ai]),
 ([ak],[ak]),
 ([af],[af]),
 ([aC],[ak,aC]),
 ([ai],[ak,ai]),
 ([af],[ak,af]),
 ([aC],[aK,aC]),
 ([ai],[aK,ai]),
 ([ak],[aK,ak]),
 ([af],[aK,af]),
 ([],[]),
 ([],[ak]),
 ([],[aK]),
 ([aF,aC],[]),
 ([aF,ai],[]),
 ([aF,bF],[]),
 ([ak,bF],[ak]),
 ([af,ai],[af]),
 ([af,ai],[ak,af]),
 ([ak,bF],[aK,ak]),
 ([af,ai],[aK,af]),
 ([bF,ak],[ak]),
 ([ai,af],[af]),
 ([ai,af],[ak,af]),
 ([bF,ak],[aK,ak]),
 ([ai,af],[aK,af]),
 ([aC,aF],[]),
 ([ai,aF],[]),
 ([bF,aF],[])]
theorem aex(f:H)(aY wr:G D)(d:ah):HZ.map (oR f aY wr d)=HZ.map (oA f aY wr d):=by kernel_rfl
theorem aey(f:H)(aY wr:G D)(d:ah):H0.map (oR f aY wr d)=H0.map (oA f aY wr d):=by kernel_rfl
theorem aez(f:H)(aY wr:G D)(d:ah):H3.map (oR f aY wr d)=H3.map (oA f aY wr d):=by kernel_rfl
theorem aeA(f:H)(aY wr:G D)(d:ah):H4.map (oR f aY wr d)=H4.map (oA f aY wr d):=by kernel_rfl
theorem aeB(f:H)(aY wr:G D)(d:ah):H6.map (oR f aY wr d)=H6.map (oA f aY wr d):=by kernel_rfl
theorem aeC(f:H)(aY wr:G D)(d:ah):H7.map (oR f aY wr d)=H7.map (oA f aY wr d):=by kernel_rfl
theorem aeD(f:H)(aY wr:G D)(d:ah):H8.map (oR f aY wr d)=H8.map (oA f aY wr d):=by kernel_rfl
theorem aeE(f:H)(aY wr:G D)(d:ah):H9.map (oR f aY wr d)=H9.map (oA f aY wr d):=by kernel_rfl
theorem aeF(f:H)(aY wr:G D)(d:ah):H_.map (oR f aY wr d)=H_.map (oA f aY wr d):=by kernel_rfl
structure rF where
 lo:G D
 up:G D
 told:aa D
 one:ah
noncomputable def fL:G rF:=[
 ⟨[aC],[],some aC,true⟩,
 ⟨[ai],[],some ai,true⟩,
 ⟨[bF],[],some bF,true⟩,
 ⟨[aC],[ak],some aC,true⟩,
 ⟨[ai],[ak],some ai,true⟩,
 ⟨[bF],[ak],some bF,true⟩,
 ⟨[aC],[aK],some aC,true⟩,
 ⟨[ai],[aK],some ai,true⟩,
 ⟨[bF],[aK],some bF,true⟩,
 ⟨[aC],[aC],some aC,true⟩,
 ⟨[ai],[ai],some ai,true⟩,
 ⟨[ak],[ak],some ak,false⟩,
 ⟨[af],[af],some af,false⟩,
 ⟨[aC],[ak,aC],some aC,true⟩,
 ⟨[ai],[ak,ai],some ai,true⟩,
 ⟨[af],[ak,af],some af,false⟩,
 ⟨[aC],[aK,aC],some aC,true⟩,
 ⟨[ai],[aK,ai],some ai,true⟩,
 ⟨[ak],[aK,ak],some ak,false⟩,
 ⟨[af],[aK,af],some af,false⟩,
 ⟨[],[],.none,true⟩,
 ⟨[],[ak],.none,true⟩,
 ⟨[],[aK],.none,true⟩,
 ⟨[ak,bF],[ak],some ak,false⟩,
 ⟨[af,ai],[af],some af,false⟩,
 ⟨[af,ai],[ak,af],some af,false⟩,
 ⟨[ak,bF],[aK,ak],some ak,false⟩,
 ⟨[af,ai],[aK,af],some af,false⟩,
 ⟨[bF,ak],[ak],some ak,false⟩,
 ⟨[ai,af],[af],some af,false⟩,
 ⟨[ai,af],[ak,af],some af,false⟩,
 ⟨[bF,ak],[aK,ak],some ak,false⟩,
 ⟨[ai,af],[aK,af],some af,false⟩]
noncomputable def gu(E:aa H):G D:=match E with
 |some i=>[num i]
 |.none=>[]
noncomputable def jI:G (aa H):=[.none,some 1,some 2,some 3]
noncomputable def sr(t:aa D)(E:aa H):D:=match t with
 |some k=>match E with
  |some i=>.aD (.dict [mK,nP]) [k,num i]
  |.none=>.aD (.dict [mK]) [k]
 |.none=>match E with
  |some i=>.aD (.dict [nP]) [num i]
  |.none=>.aD (.dict []) []
noncomputable def vW(d:ah)(f:H)(wr:G D)(r:rF):aa Lk:=v8 WE 60 gw tA (stH f [] wr (side 1 r.lo r.up d) (.tok 2))
noncomputable def uH(d:ah)(f:H)(wr:G D)(r:rF):aa Lk:=some ⟨match d with
 |true=>r.one
 |false=>true,.fuel f,[],side 1 r.lo r.up d,.tok 2,iA wr⟩
noncomputable def La(d:ah)(E:aa H)(r:rF):aa D:=qL (side 1 r.lo r.up d) (side 2 (gu E) (gu E) false) (.ref 0)
noncomputable def PY(E:aa H)(r:rF):aa D:=some (sr r.told E)
theorem aer(f:H)(wr:G D):fL.map (vW true f wr)=fL.map (uH true f wr):=by kernel_rfl
theorem aeq(f:H)(wr:G D):fL.map (vW false f wr)=fL.map (uH false f wr):=by kernel_rfl
theorem aep(d:ah):jI.map (λE=>fL.map (La d E))=jI.map (λE=>fL.map (PY E)):=by kernel_rfl
theorem Lb(x y:D):qL x y .none=some .none:=by kernel_rfl
structure Sg where
 tl:G D
 tu:G D
 nl:G D
 nu:G D
noncomputable def mx(E:aa (G D×G D))(lo up:G D):ah:=match E with
 |some q=>cT q.1 lo&&cT q.2 up
 |.none=>true
noncomputable def findR(B:G fN)(g:D)(s:Sg):aa fN:=@b9 fN (λ_=>aa fN) .none (λr _ O=>@bN (λ_=>aa fN) O (some r) (eW r.g g&&mx r.sT s.tl s.tu&&mx r.sN s.nl s.nu)) B
noncomputable def qO(B:G (G fN))(g:D)(s:Sg):aa fN:=@b9 (G fN) (λ_=>aa fN) .none (λB _ O=>match findR B g s with
 |some r=>some r
 |.none=>O) B
noncomputable def vE(E:aa (G D×G D))(B:G D×G D):G D×G D:=match E with
 |some q=>q
 |.none=>B
noncomputable def jn(r:fN)(s:Sg):Sg:=⟨(vE r.lU (s.tl,s.tu)).1,(vE r.lU (s.tl,s.tu)).2,(vE r.lR (s.nl,s.nu)).1,(vE r.lR (s.nl,s.nu)).2⟩
structure we where
 k:H
 p:H
 fl:ah
 left:G D
 s:Sg
noncomputable def m8(n:H):G D->Sg->aa we:=@nZ (λ_=>G D->Sg->aa we) (λ_ _=>.none) (λ_ O B s=>match B with
 |[]=>some ⟨0,0,true,[],s⟩
 |g::aY=>match qO oY g s with
  |some r=>match r.fl with
   |true=>match O (app r.subs aY) (jn r s) with
    |some E=>some ⟨cX E.k,r.p+E.p,E.fl,E.left,E.s⟩
    |.none=>.none
   |false=>some ⟨1,r.p,false,app r.subs aY,jn r s⟩
  |.none=>.none) n
theorem fU{α β:Type}{f g:α->β}{B:G α}(e:B.map f=B.map g):∀x∈B,f x=g x:=by
 induction B with
 |nil=>exact λ_ h=>nomatch h
 |cons a B O=>
  have e:=qz e
  exact λx h=>(bY.mp h).elim (λz=>z▸e.1) (O e.2 x)
theorem O9{r:fN}(h:∃B∈oY,r∈B)(f:H)(aY wr:G D)(d:ah):oR f aY wr d r=oA f aY wr d r:=by
 refine ay h λB hl hr=>?_
 simp only [oY,bY,eP,gF] at hl
 rcases hl with rfl|rfl|rfl|rfl|rfl|rfl|rfl|rfl|rfl
 .exact fU (aex f aY wr d) r hr
 .exact fU (aey f aY wr d) r hr
 .exact fU (aez f aY wr d) r hr
 .exact fU (aeA f aY wr d) r hr
 .exact fU (aeB f aY wr d) r hr
 .exact fU (aeC f aY wr d) r hr
 .exact fU (aeD f aY wr d) r hr
 .exact fU (aeE f aY wr d) r hr
 .exact fU (aeF f aY wr d) r hr
noncomputable def nM(E:aa (G D×G D)):ah:=match E with
 |some q=>allB bE q.1&&allB bE q.2
 |.none=>true
noncomputable def Ha(r:fN):ah:=allB bE r.subs&&eB r.subs.length 6&&nM r.lU&&nM r.lR
theorem aeG:allB (allB Ha) oY=true:=by kernel_rfl
theorem Oi(h:∃B∈oY,r∈B):Ha r=true:=by
 refine ay h λB hl hr=>?_
 exact b7 (b7 aeG B hl) r hr
theorem Vy:∀{B:G fN},findR B g s=some r->r∈B/\r.g=g/\mx r.sT s.tl s.tu=true/\mx r.sN s.nl s.nu=true:=by
 intro gr
 induction gr with
 |nil=>
  intro e
  exact aB e
 |cons a B O=>
  intro e
  have e':@bN (λ_=>aa fN) (findR B g s) (some a) (eW a.g g&&mx a.sT s.tl s.tu&&mx a.sN s.nl s.nu)=some r:=e
  cases J:eW a.g g&&mx a.sT s.tl s.tu&&mx a.sN s.nl s.nu with
  |false=>
   rw [J] at e'
   refine xA (O e') λh1 h2=>?_
   exact⟨.tail _ h1,h2⟩
  |true=>
   rw [J] at e'
   have e':=aM (e':some a=some r)
   rw [<-e']
   refine xA (aN.mp J) λJ c3=>?_
   refine xA (aN.mp J) λc1 c2=>?_
   exact⟨.head _,iK c1,c2,c3⟩
theorem LA:∀{B:G (G fN)},qO B g s=some r->(∃m∈B,r∈m)/\r.g=g/\mx r.sT s.tl s.tu=true/\mx r.sN s.nl s.nu=true:=by
 intro gr
 induction gr with
 |nil=>
  intro e
  exact aB e
 |cons a B O=>
  intro e
  have e':(match findR a g s with|some r=>some r|.none=>qO B g s)=some r:=e
  generalize J:findR a g s=ax at e'
  cases ax with
  |some r'=>
   cases e'
   refine xA (Vy J) λh1 h2=>?_
   exact⟨⟨a,.head _,h1⟩,h2⟩
  |none=>
   obtain⟨⟨m,h1,sF⟩,h2⟩:=O e'
   exact⟨⟨m,.tail _ h1,sF⟩,h2⟩
noncomputable def sT(s:Sg)(d:ah):D:=side 1 s.tl s.tu d
noncomputable def jr(s:Sg):D:=side 2 s.nl s.nu false
theorem pz(h:allB bE B=true):∀m∈B,bC m=true:=λm hm=>by rw [<-fB];exact b7 h m hm
theorem yx(h:∀m∈B,bC m=true):allB bE B=true:=by
 induction B with
 |nil=>rfl
 |cons a B O=>
  refine(?_:(bE a&&allB bE B)=true)
  rw [fB,h a (.head _),O λm hm=>h m (.tail _ hm)];rfl
theorem js{lo up:G D}(h1:allB bE lo=true)(h2:allB bE up=true):cR (side E lo up d)=true:=by
 unfold cR side
 rw [<-fB,s9]
 refine(?_:((bE (.bool true)&&(bE (.int E)&&(bE (.tup lo)&&(bE (.tup up)&&(bE (.bool d)&&true)))))&&true)=true)
 rw [nG,nG,h1,h2]
 rfl
noncomputable def i4(s:Sg):Prop:=allB bE s.tl=true/\allB bE s.tu=true/\allB bE s.nl=true/\allB bE s.nu=true
noncomputable def abl(fl:ah)(left:G D)(s:Sg)(d:ah):mf:=match fl with
 |true=>.good (sT s d) (jr s)
 |false=>.bad [] left (sT s d) (jr s)
theorem BE{r:fN}(h:mx r.sT s.tl s.tu=true):jQ (sT s d) 1 (qk r.sT d):=by
 generalize e:r.sT=ax at h
 cases ax with
 |none=>exact .inr rfl
 |some q=>
  refine xA (aN.mp (h:(cT q.1 s.tl&&cT q.2 s.tu)=true)) λh1 h2=>?_
  refine .inl ?_
  refine(?_:side 1 q.1 q.2 d=side 1 s.tl s.tu d)
  rw [eu h1,eu h2]
theorem BD{r:fN}(h:mx r.sN s.nl s.nu=true):jQ (jr s) 2 (qj r.sN):=by
 generalize e:r.sN=ax at h
 cases ax with
 |none=>exact .inr rfl
 |some q=>
  refine xA (aN.mp (h:(cT q.1 s.nl&&cT q.2 s.nu)=true)) λh1 h2=>?_
  refine .inl ?_
  refine(?_:side 2 q.1 q.2 false=side 2 s.nl s.nu false)
  rw [eu h1,eu h2]
theorem NB(h:nM r.lU=true):Left 1 (qk r.lU d)/\un (sT s d) 1 (qk r.lU d)=sT (jn r s) d:=by
 unfold sT jn
 generalize e:r.lU=ax at h
 cases ax with
 |none=>exact⟨.inr rfl,rfl⟩
 |some q=>
  refine xA (aN.mp (h:(allB bE q.1&&allB bE q.2)=true)) λh1 h2=>?_
  exact⟨.inl (aN.mp (js (E:=1) (d:=d) h1 h2)).1,rfl⟩
theorem NA(h:nM r.lR=true):Left 2 (qj r.lR)/\un (jr s) 2 (qj r.lR)=jr (jn r s):=by
 unfold jr jn
 generalize e:r.lR=ax at h
 cases ax with
 |none=>exact⟨.inr rfl,rfl⟩
 |some q=>
  refine xA (aN.mp (h:(allB bE q.1&&allB bE q.2)=true)) λh1 h2=>?_
  exact⟨.inl (aN.mp (js (E:=2) (d:=false) h1 h2)).1,rfl⟩
theorem OB(h:Ha r=true)(hs:i4 s):i4 (jn r s):=by
 refine xA (aN.mp (h:(allB bE r.subs&&eB r.subs.length 6&&nM r.lU&&nM r.lR)=true)) λh h4=>?_
 refine xA (aN.mp h) λh h3=>?_
 refine eN hs λs1 s2 s3 s4=>?_
 have key:∀{E:aa (G D×G D)} {B:G D×G D},nM E=true->allB bE B.1=true->allB bE B.2=true->allB bE (vE E B).1=true/\allB bE (vE E B).2=true:=by
  intro E B h h1 h2
  cases E with
  |none=>exact⟨h1,h2⟩
  |some q=>exact aN.mp (h:(allB bE q.1&&allB bE q.2)=true)
 have k1:=key (B:=(s.tl,s.tu)) h3 s1 s2
 have k2:=key (B:=(s.nl,s.nu)) h4 s3 s4
 exact⟨k1.1,k1.2,k2.1,k2.2⟩
theorem J2:∀{left:G D} {s:Sg} {E:we},i4 s->m8 n left s=some E->Chain WS 60 gw dK.1 dK.2 left (sT s d) (jr s) E.k E.p (abl E.fl E.left E.s d)/\i4 E.s:=by
 induction n with
 |zero=>exact λ_ e=>aB e
 |succ n O=>
  intro left s E hs e
  cases left with
  |nil=>exact(aM e)▸⟨.done,hs⟩
  |cons g aY=>
   have e':(match qO oY g s with
    |some r=>match r.fl with
     |true=>match m8 n (app r.subs aY) (jn r s) with
      |some E=>some ⟨cX E.k,r.p+E.p,E.fl,E.left,E.s⟩
      |.none=>.none
     |false=>some (⟨1,r.p,false,app r.subs aY,jn r s⟩:we)
    |.none=>.none)=some E:=e
   generalize hr:qO oY g s=ax at e'
   cases ax with
   |none=>exact aB e'
   |some r=>
    refine eN (LA hr) λhm aI h1 h2=>?_;subst aI
    have hp:=Oi hm
    have hn:=OB hp hs
    refine xA (aN.mp (hp:(allB bE r.subs&&eB r.subs.length 6&&nM r.lU&&nM r.lR)=true)) λgU p4=>?_
    refine xA (aN.mp gU) λgU p3=>?_
    refine xA (aN.mp gU) λp1 p2=>?_
    have p2:=dw p2
    have cS:Row WS 60 gw dK.1 dK.2 r.g (qk r.sT d) (qj r.sN) r.fl r.subs (qk r.lU d) (qj r.lR) r.p:=λf aY wr=>O9 hm f aY wr d
    refine xA (NB (s:=s) (d:=d) p3) λlT uT=>?_
    refine xA (NA (s:=s) p4) λlN uN=>?_
    dsimp only at e'
    generalize hf:r.fl=ax at e' cS
    cases ax with
    |true=>
     have e':(match m8 n (app r.subs aY) (jn r s) with
      |some E=>some (⟨cX E.k,r.p+E.p,E.fl,E.left,E.s⟩:we)
      |.none=>.none)=some E:=e'
     rw [gM] at e'
     generalize ha:m8 n (r.subs++aY) (jn r s)=ax at e'
     cases ax with
     |none=>exact aB e'
     |some o'=>
      rw [<-aM e']
      refine xA (O hn ha) λch so=>?_
      refine⟨.turn cS (BE h1) (BD h2) lT lN (pz p1) p2 ?_ ?_ ?_,so⟩
      .rw [uT];exact js hn.1 hn.2.1
      .rw [uN];exact js hn.2.2.1 hn.2.2.2
      .rw [uT,uN];exact ch
    |false=>
     rw [<-aM e']
     have:=Chain.fail (aY:=aY) cS (BE h1) (BD h2) lT lN (pz p1) p2
     rw [uT,uN,<-gM] at this
     exact⟨this,hn⟩
noncomputable def rD(w:H):D:=match w with
 |0=>yQ
 |1=>arr yQ (num 1)
 |2=>arr yQ PD
 |3=>ak
 |4=>gx yQ
 |_=>gP yQ aC
noncomputable def tO(w:H):D:=match w with
 |0=>vT
 |1=>arr vT (num 1)
 |2=>arr vT PD
 |3=>ak
 |4=>gx vT
 |_=>gP vT aC
noncomputable def eX(w:H):D:=match w with
 |0=>vT
 |1=>arr vT (num 1)
 |2=>arr vT vN
 |3=>ak
 |4=>gx vT
 |_=>gP vT aC
noncomputable def bt(a:ba)(b:ah):D:=.tup [.int a,.bool b]
noncomputable def aaZ(w:H):D:=match w with
 |0=>bt 1 false
 |1=>bt 0 true
 |2=>bt 0 true
 |3=>bt 0 false
 |4=>bt 0 true
 |_=>bt 1 false
noncomputable def aa0(w:H):D:=match w with
 |2=>bt 0 true
 |_=>bt 0 false
noncomputable def six:G H:=[0,1,2,3,4,5]
noncomputable def zv:G jP:=(six.map λw=>⟨209,[rD w,nQ],aaZ w⟩)++six.map λw=>⟨209,[tO w,lS],aa0 w⟩
noncomputable def yZ:G nW:=(six.map λw=>⟨67,rD w,mK,vT,tO w⟩)++six.map λw=>⟨67,tO w,nP,vN,eX w⟩
noncomputable def W2:bQ:=gn cz (kP 60 zv yZ) ke (λ_ _=>.none) 0
noncomputable def jW(W:bQ)(n:H)(p:jP):aa D:=(run ip W n).call (.fn p.a) p.args ⟨.nil,0⟩ λm _=>some m
noncomputable def jX(p:jP):aa D:=some p.res
noncomputable def nq(W:bQ)(n:H)(d:nW):aa D:=(run ip W n).call (.fn d.a) [d.t,.ref 0] (fA [.dict [(.str d.x,d.r)]]) kD
noncomputable def nv(d:nW):aa D:=some (.tup [.str d.x,d.r,d.res])
noncomputable def iL(t:ah):D:=match t with
 |true=>ak
 |false=>.none
noncomputable def c_(ws:G H)(t:ah):D:=.tup [du,.tup (ws.map rD),iL t]
noncomputable def mO(ws:G H)(t:ah):D:=.tup [du,.tup (ws.map tO),iL t]
noncomputable def Ii(ws:G H)(t:ah):D:=.tup [du,.tup (ws.map eX),iL t]
noncomputable def TS(w:H):H:=match w with
 |0=>1
 |5=>1
 |_=>0
noncomputable def fH(w:H):ah:=bA w 1||(bA w 2||bA w 4)
noncomputable def gf(ws:G H):ah:=dB 1 ((ws.map TS).foldr (· +·) 0)&&!(ws.any fH)
noncomputable def all1:G (G H):=six.map λa=>[a]
noncomputable def all2:G (G H):=six.flatMap λa=>six.map λb=>[a,b]
noncomputable def bV(J:H):G (G H):=six.flatMap λa=>six.map λb=>[a,b,J]
noncomputable def iW(ws:G H):G jP:=[false,true].flatMap λt=>[⟨223,[cD (c_ ws t),nQ],.bool (gf ws)⟩,⟨223,[mO ws t,lS],.bool false⟩]
noncomputable def iX(ws:G H):G nW:=[false,true].flatMap λt=>[⟨67,cD (c_ ws t),mK,vT,cD (mO ws t)⟩,⟨67,mO ws t,nP,vN,Ii ws t⟩]
theorem ab8:zv.map (jW WS 60)=zv.map jX:=by kernel_rfl
theorem Uq:yZ.map (nq WS 60)=yZ.map nv:=by kernel_rfl
theorem aaQ:(all1.flatMap iW).map (jW W2 90)=(all1.flatMap iW).map jX:=by kernel_rfl
theorem acL:(all1.flatMap iX).map (nq W2 90)=(all1.flatMap iX).map nv:=by kernel_rfl
theorem aaR:(all2.flatMap iW).map (jW W2 90)=(all2.flatMap iW).map jX:=by kernel_rfl
theorem acN:(all2.flatMap iX).map (nq W2 90)=(all2.flatMap iX).map nv:=by kernel_rfl
theorem aaS:((bV 0).flatMap iW).map (jW W2 90)=((bV 0).flatMap iW).map jX:=by kernel_rfl
theorem acP:((bV 0).flatMap iX).map (nq W2 90)=((bV 0).flatMap iX).map nv:=by kernel_rfl
theorem aaT:((bV 1).flatMap iW).map (jW W2 90)=((bV 1).flatMap iW).map jX:=by kernel_rfl
theorem acQ:((bV 1).flatMap iX).map (nq W2 90)=((bV 1).flatMap iX).map nv:=by kernel_rfl
theorem aaU:((bV 2).flatMap iW).map (jW W2 90)=((bV 2).flatMap iW).map jX:=by kernel_rfl
theorem acR:((bV 2).flatMap iX).map (nq W2 90)=((bV 2).flatMap iX).map nv:=by kernel_rfl
theorem aaV:((bV 3).flatMap iW).map (jW W2 90)=((bV 3).flatMap iW).map jX:=by kernel_rfl
theorem acS:((bV 3).flatMap iX).map (nq W2 90)=((bV 3).flatMap iX).map nv:=by kernel_rfl
theorem aaW:((bV 4).flatMap iW).map (jW W2 90)=((bV 4).flatMap iW).map jX:=by kernel_rfl
theorem acT:((bV 4).flatMap iX).map (nq W2 90)=((bV 4).flatMap iX).map nv:=by kernel_rfl
theorem aaX:((bV 5).flatMap iW).map (jW W2 90)=((bV 5).flatMap iW).map jX:=by kernel_rfl
theorem acU:((bV 5).flatMap iX).map (nq W2 90)=((bV 5).flatMap iX).map nv:=by kernel_rfl
section
variable{c:a_}{w:dF}{Y:bG}{F C:G aA}{I h:aP}{K:b8}{mg mb:ar->aa aw}{aL:H->aa D}{o:MH}
theorem DP(h:∀m∈B,bC m=true):cE aQ aJ B B:=λ_ _ _=>iw h
theorem et(h:bC m=true):cE aQ aJ [m] [m]:=λ_ _ _=>.cons (.same h) .nil
theorem Ad(aV:Base c w K cz I mg mb)(ho:iF c (wb c w (aU aH)) I (gn cz gX ke (λ_ _=>.none) 0))(e:jW (gn cz gX ke (λ_ _=>.none) 0) n p=jX p)(pa:∀m∈p.args,bC m=true)(pr:bC p.res=true):mh c w I aH n p.a p.args p.res:=
 Hh (aL:=aU aH) (aV.sound (kY rfl) hN ho (.inl jD) (mj p.res) n) e (DP pa) (et pr)
theorem agC:Mine.Internal.kD=Mine.Internal.kD:=rfl
theorem Eg(aV:Base c w K cz I mg mb)(ho:iF c (wb c w (aU aH)) I (gn cz gX ke (λ_ _=>.none) 0))(e:nq (gn cz gX ke (λ_ _=>.none) 0) n d=nv d)(pt:bC d.t=true)(pr:bC d.r=true)(ps:bC d.res=true):qx c w I aH n d.a d.t d.x d.r d.res:=
 Uc (aL:=aU aH) pr (aV.sound (kY rfl) hN ho (.inl jD) (mj _) n) e (et pt) (et ps)
noncomputable def Bp(p:jP):ah:=allB bE p.args&&bE p.res
noncomputable def G_(d:nW):ah:=bE d.t&&bE d.r&&bE d.res
theorem Bq(h:Bp p=true):(∀m∈p.args,bC m=true)/\bC p.res=true:=by
 refine xA (aN.mp h) λh1 h2=>?_
 exact⟨pz h1,fB _▸h2⟩
theorem Oc(h:G_ d=true):bC d.t=true/\bC d.r=true/\bC d.res=true:=by
 refine xA (aN.mp (h:(bE d.t&&bE d.r&&bE d.res)=true)) λh h3=>?_
 refine xA (aN.mp h) λh1 h2=>?_
 exact⟨fB _▸h1,fB _▸h2,fB _▸h3⟩
theorem acJ(hP:∀p∈P,mh c w I aH lv p.a p.args p.res)(hD:∀d∈bj,qx c w I aH lv d.a d.t d.x d.r d.res)(pP:allB Bp P=true)(pD:allB G_ bj=true):iF c (wb c w (aU aH)) I (gn cz (kP lv P bj) tv eq pull):=
 vH (λp hp o=>by
  refine xA (Bq (b7 pP p hp)) λh1 h2=>?_
  exact rh (hP p hp) (DP h1) (et h2)) λd hd o j e=>by
  refine cf (Oc (b7 pD d hd)) λh1 h2 h3=>?_
  exact DW h2 (hD d hd) (et h1) (et h3) e
theorem mh.more(le:n<=m)(P:mh c w I aH n a args res):mh c w I aH m a args res:=λY F s V room S y=>P Y F s V (room.le le) S y
theorem qx.more(le:n<=m)(P:qx c w I aH n a t x r res):qx c w I aH m a t x r res:=λY F ad s v room S y=>P Y F ad s v (room.le le) S y
theorem Hc:allB Bp zv=true:=by kernel_rfl
theorem KV:allB G_ yZ=true:=by kernel_rfl
theorem IA(aV:Base c w K cz I mg mb):iF c (wb c w (aU aH)) I W2:=
 acJ (λp hp=>Ad aV lM (fU ab8 p hp) (Bq (b7 Hc p hp)).1 (Bq (b7 Hc p hp)).2) (λd hd=>by
  refine cf (Oc (b7 KV d hd)) λh1 h2 h3=>?_
  exact Eg aV lM (fU Uq d hd) h1 h2 h3) Hc KV
end
noncomputable def fR(k:H):D:=match k with
 |0=>aC
 |1=>ai
 |2=>ak
 |_=>af
noncomputable def hU(k:H):D:=match k with
 |0=>aC
 |1=>ai
 |2=>bF
 |_=>ai
noncomputable def qc(k num w:H)(d:ah):D:=match w with
 |0=>hU k
 |1=>arr (fR k) (NQ 1)
 |2=>arr (fR k) (NQ num)
 |3=>match d with
  |true=>ai
  |false=>aC
 |4=>gx (fR k)
 |_=>gP (hU k) aC
where NQ (i:H):D:=.tup [sN,.int (.ofNat i)]
noncomputable def hH:G D:=[aC,ai,bF,j0,aF]++[0,1,2,3].flatMap λk=>[arr (fR k) (num 1),arr (fR k) (num 2),arr (fR k) (num 3),gx (fR k),gP (hU k) aC]
noncomputable def zu:G jP:=hH.map λp=>⟨238,[p],.bool false⟩
noncomputable def Pb(n:H):G D:=(fY n).map λi=>.tok (50+i)
noncomputable def Pa(n:H):G D:=(fY n).map λi=>.tok (40+i)
noncomputable def RF:G jP:=(fY 6).map λi=>⟨238,[.tok (50+i)],.bool false⟩
noncomputable def Ms(lo hi:H)(v:D):ah:=match v with
 |.tok i=>eB lo i&&dB i hi
 |_=>false
noncomputable def u7(lo hi:H)(B:G D):ah:=allB (Ms lo hi) B
noncomputable def eqT(a b:D):aa ah:=match a with
 |.tup B=>match B with
  |[x,p,u]=>match p with
   |.tup ps=>match b with
    |.tup m=>match m with
     |[y,q,v]=>match q with
      |.tup qs=>match u7 50 60 ps&&u7 40 50 qs&&eW x du&&eW y du&&eW u .none&&(eW v .none||eW v ak)&&dB 0 ps.length&&dB 0 qs.length with
       |true=>some false
       |false=>.none
      |_=>.none
     |_=>.none
    |_=>.none
   |_=>.none
  |_=>.none
 |_=>.none
noncomputable def WF:bQ:=gn cz (kP 16 RF []) ke eqT 0
noncomputable def Am(m n:H)(t:ah):D:=sub (.tup [du,.tup (Pb m),.none]) (.tup [du,.tup (Pa n),iL t])
noncomputable def vS(m n:H):G D:=((fY m).map λi=>sub (.tok (50+i)) (@bN (λ_=>D) ak (.tok (40+i)) (dB i n))).reverse
noncomputable def first(m n:H)(t:ah)(f:H)(wr:G D):aa Lk:=turn WF 60 gw dK.1 dK.2 (stH (cX f) [Am m n t] wr (.tok 1) (.tok 2))
theorem ab2:zu.map (jW WS 16)=zu.map jX:=by kernel_rfl
noncomputable def fits:G (H×H×ah):=[(1,1,false),(2,2,false),(3,3,false),(1,1,true),(2,1,true),(3,1,true),(2,2,true),(3,2,true),(4,2,true),(3,3,true),(4,3,true),(5,3,true)]
noncomputable def p8:G (H×H×ah):=[(0,1,false),(0,1,true),(2,1,false),(3,2,false),(4,3,false),(1,2,false),(2,3,false),(1,2,true),(2,3,true)]
theorem VG(f:H)(wr:G D):fits.map (λq=>first q.1 q.2.1 q.2.2 f wr)=fits.map (λq=>some ⟨true,.fuel f,vS q.1 q.2.1,.tok 1,.tok 2,iA wr⟩):=by kernel_rfl
theorem Z8(f:H)(wr:G D):p8.map (λq=>first q.1 q.2.1 q.2.2 f wr)=p8.map (λq=>some ⟨false,.fuel f,[],.tok 1,.tok 2,iA wr⟩):=by kernel_rfl
noncomputable def gH(KT x y:D)(ps ws:G D)(i:H):aa D:=if i=0 then some KT else if i=1 then some x else if i=2 then some y else if 40<=i/\i<50 then ws[i-40]? else if 50<=i/\i<60 then ps[i-50]? else none
noncomputable def lx:G D:=six.map eX
noncomputable def apart1:ah:=allB (λp=>allB (λq=>match gV p q 38 with
 |some b=>!b
 |.none=>false) lx) hH
theorem Su:apart1=true:=by kernel_rfl
theorem uo:allB cR hH=true:=by kernel_rfl
theorem JY:allB cR lx=true:=by kernel_rfl
theorem ab3:allB Bp zu=true:=by kernel_rfl
section
variable{c:a_}{w:dF}{Y:bG}{F C:G aA}{I h:aP}{K:b8}{mg mb:ar->aa aw}{aL:H->aa D}{o:MH}{x y:D}{ps ws:G D}
theorem apart_at(hp:p∈hH)(hq:q∈lx):gV p q 38=some false:=by
 have:=b7 (b7 Su p hp) q hq
 generalize e:gV p q 38=ax at this
 cases ax with
 |none=>exact bz this
 |some b=>cases b<;>first|rfl|exact bz this
theorem Zh:∀{m:G D},(∀p∈B,∀q∈m,gV p q k=some false)->B≠[]->m≠[]->i8 B m k=some false:=by
 induction B with
 |nil=>exact λ_ h _=>bP rfl h
 |cons p B O=>
  intro m h _ hm
  cases m with
  |nil=>exact bP rfl hm
  |cons q m=>
   rw [s7]
   dsimp only
   rw [h p (.head _) q (.head _)]
   have:∃b,i8 B m k=some b:=by
    cases B with
    |nil=>exact⟨_,Nf m k⟩
    |cons a B=>
     cases m with
     |nil=>exact⟨false,by rw [s7]⟩
     |cons b m=>exact⟨false,O (λp hp q hq=>h p (.tail _ hp) q (.tail _ hq)) (QC _ _) (QC _ _)⟩
   refine bw this λb hb=>?_
   rw [hb]
   rfl
theorem O8(lo:50<=i)(hi:i<60)(e:gH aH x y ps ws i=some m):m∈ps:=by
 unfold gH at e
 rw [bl (by lia),bl (by lia),bl (by lia),bl (by lia),bT ⟨lo,hi⟩] at e
 exact dy e
theorem aev(lo:40<=i)(hi:i<50)(e:gH aH x y ps ws i=some m):m∈ws:=by
 unfold gH at e
 rw [bl (by lia),bl (by lia),bl (by lia),bT ⟨lo,hi⟩] at e
 exact dy e
theorem Pe{lo hi:H}{al:G D}(hm:∀i m,lo<=i->i<hi->aL i=some m->m∈al):∀{V:G aw},u7 lo hi B=true->aW c (wb c w aL) F C h B V->∃l0,l0.length=B.length/\(∀m∈l0,m∈al)/\∀aJ,cE aL aJ B l0:=by
 induction B with
 |nil=>exact λ_ _=>⟨[],rfl,(λm hm=>nomatch hm),λ_ _ _ _=>.nil⟩
 |cons v B O=>
  intro V e y
  refine dR.el y.cj λu r aE y1 y2=>?_;skip
  refine xA (aN.mp (e:(Ms lo hi v&&u7 lo hi B)=true)) λe1 e2=>?_
  refine fM (O e2 y2) λl0 h1 h2 h3=>?_
  clear e e2 y y2 O
  have:∃i,v=.tok i/\(eB lo i&&dB i hi)=true:=by
   clear y1
   cases v with
   |tok i=>exact⟨i,rfl,e1⟩
   |_=>exact bz e1
  refine ay this ?_;clear this;intro i aI e1;subst aI
  have b:=aN.mp e1
  refine ay y1 λm em _=>?_
  exact⟨m::l0,cq (· +1) h1,λz hz=>(bY.mp hz).elim (λq=>q▸hm i _ (dw b.1) (dw b.2) em) (h2 z),λaJ o β FZ=>.cons (.fc em) (h3 aJ o β FZ)⟩
theorem U9(e:eqT a b=some r):r=false/\∃yz yA v,a=.tup [du,.tup yz,.none]/\b=.tup [du,.tup yA,v]/\(v=.none\/v=ak)/\u7 50 60 yz=true/\u7 40 50 yA=true/\yz≠[]/\yA≠[]:=by
 unfold eqT at e
 cases a with
 |tup B=>
  match B,e with
  |[],e=>exact aB e
  |[_],e=>exact aB e
  |[_,_],e=>exact aB e
  |_::_::_::_::_,e=>exact aB e
  |[x,p,u],e=>
   cases p with
   |tup ps=>
    cases b with
    |tup m=>
     match m,e with
     |[],e=>exact aB e
     |[_],e=>exact aB e
     |[_,_],e=>exact aB e
     |_::_::_::_::_,e=>exact aB e
     |[y,q,v],e=>
      cases q with
      |tup qs=>
       dsimp only at e
       refine xA (bI e) λJ e=>?_
       cases e
       refine xA (aN.mp J) λJ c8=>?_
       refine xA (aN.mp J) λJ c7=>?_
       refine xA (aN.mp J) λJ c6=>?_
       refine xA (aN.mp J) λJ c5=>?_
       refine xA (aN.mp J) λJ c4=>?_
       refine xA (aN.mp J) λJ c3=>?_
       refine xA (aN.mp J) λc1 c2=>?_
       refine⟨rfl,ps,qs,v,by rw [iK c3,iK c5],by rw [iK c4],?_,c1,c2,(λz=>by rw [z] at c7;exact bz c7),(λz=>by rw [z] at c8;exact bz c8)⟩
       refine dC (k_.mp c6) (λz=>?_) λz=>?_
       .exact .inl (iK z)
       .exact .inr (iK z)
      |_=>exact aB e
    |_=>exact aB e
   |_=>exact aB e
 |_=>exact aB e
theorem U8(aV:Base c w K cz I mg mb)(hp:∀p∈ps,p∈hH)(hq:∀q∈ws,q∈lx):∀a b r,eqT a b=some r->tV c (wb c w (gH aH x y ps ws)) I a b r:=by
 intro a b r e
 refine xA (U9 e) λeJ bB=>dO bB λyz yA v fV dA=>eN dA λacE hv t1 af6=>cf af6 λt2 n1 n2=>?_;subst eJ;rw [fV];rw [acE]
 intro Y own F C s o u1 u2 S hu x1 x2
 have T:=aV.top (aL:=aU aH) (gX:=λ_ _ _=>.none) (tv:=ke) (eq:=λ_ _=>.none) (pull:=0) (kY rfl) hN
 have dG:∀a∈F++C,a∈F\/a∈C:=λa ha=>dI.mp ha
 have SK:=S.bare dG (aU aH)
 have y1:=x1
 have y2:=x2
 refine gq.el y1.gi λa1 ahb agQ e1 ag4 g1 z1=>?_
 refine gq.el y2.gi λa2 PK agR e2 ag5 g2 z2=>?_
 replace z1:=z1.cj;obtain⟨_,r1,_,_,z1⟩:=z1
 refine dR.el z1.cj λv1 r1 _ q1 _=>?_
 replace z2:=z2.cj;obtain⟨_,r2,_,_,z2⟩:=z2
 refine dR.el z2.cj λv2 r2 _ q2 _=>?_
 refine gq.el q1.gi λ_ w1 _ _ _ _ q1=>?_
 refine gq.el q2.gi λ_ w2 _ _ _ _ q2=>?_
 refine fM (Pe (λi m lo hi em=>hp m (O8 lo hi em)) t1 q1) λl0 h1 h2 h3=>?_
 refine fM (Pe (λi m lo hi em=>hq m (aev lo hi em)) t2 q2) λm0 k1 k2 k3=>?_
 have ca:cE (gH aH x y ps ws) (aU aH) [.tup [du,.tup yz,.none]] [.tup [du,.tup l0,.none]]:=λo β FZ=>.cons (.tup (.cons (.same rfl) (.cons (.tup (h3 _ o β FZ)) (.cons (.same rfl) .nil)))) .nil
 have XA:bC v=true:=by rcases hv with rfl|rfl<;>rfl
 have cb:cE (gH aH x y ps ws) (aU aH) [.tup [du,.tup yA,v]] [.tup [du,.tup m0,v]]:=λo β FZ=>.cons (.tup (.cons (.same rfl) (.cons (.tup (k3 _ o β FZ)) (.cons (.same XA) .nil)))) .nil
 have X1:=ca.vr S dG (λa (ha:a∈([]:G aA))=>nomatch ha) x1
 have X2:=cb.vr S dG (λa (ha:a∈([]:G aA))=>nomatch ha) x2
 have aan:l0≠[]:=λz=>n1 (Jf (by rw [<-h1,z];rfl))
 have aao:m0≠[]:=λz=>n2 (Jf (by rw [<-k1,z];rfl))
 have me:uD (⟨.nil,0⟩:MH) (.tup [du,.tup l0,.none]) (.tup [du,.tup m0,v])=some false:=by
  refine(?_:gV (.tup [du,.tup l0,.none]) (.tup [du,.tup m0,v]) 40=some false)
  rw [A_]
  refine(?_:i8 [du,.tup l0,.none] [du,.tup m0,v] 39=some false)
  rw [s7]
  dsimp only
  rw [s7]
  dsimp only
  rw [A_]
  have:uE (i8 l0) (.tup m0) 39=i8 l0 m0 38:=rfl
  rw [this,Zh (λp gU q Xi=>apart_at (h2 p gU) (k2 q Xi)) aan aao]
  rcases hv with rfl|rfl<;>rfl
 refine xA (Ab (own:=[]) T SK hu me X1 X2) λE1 E2=>?_
 refine⟨λQ au q=>E1 Q au λv bq h1 aZ aS p1=>?_,λQ au q=>E2 Q au λv bq h1 aZ aS p1=>?_⟩
 .refine cf p1 ?_;clear p1;intro eJ aI aE;subst eJ;subst aI;subst aE
  exact q _ C _ aZ (.refl ..) ⟨rfl,rfl,rfl⟩
 .refine cf p1 ?_;clear p1;intro eJ aI aE;subst eJ;subst aI;subst aE
  exact q _ C _ aZ (.refl ..) ⟨rfl,rfl,rfl⟩
theorem acd(aV:Base c w K cz I mg mb)(hp:∀p∈ps,p∈hH):iF c (wb c w (gH aH x y ps ws)) I WF:=by
 refine vH (λp gU o=>?_) (λd hd=>nomatch hd)
 refine ay (cF.mp gU) λi hi aE=>?_;subst aE
 have hi:i<6:=md.mp hi
 intro Y F C s V room S y0
 refine dR.el y0.cj λv r aE y1 y2=>?_;subst aE
 have P0:=y1
 unfold VR at P0
 refine ay P0 λm em _=>?_
 have hm:=hp m (O8 (by lia) (by lia) em)
 have Mi:(⟨238,[m],.bool false⟩:jP)∈zu:=cF.mpr ⟨m,hm,rfl⟩
 refine xA (Bq (b7 ab3 _ Mi)) λq1 q2=>?_
 have P:=Ad aV lM (fU ab2 _ Mi) q1 q2
 exact rh (oh:=[.tok (50+i)]) P (λ_ _ _=>.cons (.fc em) .nil) (et rfl) Y F C s (v::r) room S y0
end
noncomputable def qP(ps ws:G D)(i:H):D:=sub (ps.getD i .none) (match dB i ws.length with
 |true=>ws.getD i .none
 |false=>ak)
noncomputable def jE(ps ws:G D):G D:=((fY ps.length).map (qP ps ws)).reverse
noncomputable def oneOf(ps:G D):D:=.tup [du,.tup ps,.none]
noncomputable def bodyOf(ws:G D)(t:ah):D:=.tup [du,.tup ws,iL t]
section
variable{c:a_}{w:dF}{Y:bG}{F C:G aA}{I h:aP}{K:b8}{mg mb:ar->aa aw}{aL aQ aJ:H->aa D}{o:MH}{x y:D}{ps ws:G D}{β:H->aa H}{FZ:H->Prop}
theorem qI{B:G H}(h:∀i∈B,Cv aQ aJ o β FZ (f i) (g i)):cG aQ aJ o β FZ (B.map f) (B.map g):=by
 induction B with
 |nil=>exact .nil
 |cons i B O=>exact .cons (h i (.head _)) (O λj hj=>h j (.tail _ hj))
theorem map_getD(B:G D):(fY B.length).map (λi=>B.getD i .none)=B:=by
 apply QG
 .simp
 .intro i h1 h2
  simp [qA,h2]
theorem BU(h:i<ps.length)(hl:ps.length<=6):gH aH x y ps ws (50+i)=some (ps.getD i .none):=by
 unfold gH
 rw [bl (by lia),bl (by lia),bl (by lia),bl (by lia),bT (by lia),show 50+i-50=i by lia,cV h]
 simp [qA,h]
theorem BV(h:i<ws.length)(hl:ws.length<=6):gH aH x y ps ws (40+i)=some (ws.getD i .none):=by
 unfold gH
 rw [bl (by lia),bl (by lia),bl (by lia),bT (by lia),show 40+i-40=i by lia,cV h]
 simp [qA,h]
theorem getD_mem{B:G D}(h:i<B.length):B.getD i .none∈B:=by
 have:B.getD i .none=B[i]:=by simp [qA,h]
 rw [this]
 exact zf h
theorem KI{t:ah}(hp:∀p∈ps,p∈hH)(hq:∀q∈ws,q∈lx)(l1:ps.length<=6)(l2:ws.length<=6):cE (aU aH) (gH aH x y ps ws) [sub (oneOf ps) (bodyOf ws t)] [Am ps.length ws.length t]:=by
 intro o β FZ
 have c1:cG (aU aH) (gH aH x y ps ws) o β FZ ps (Pb ps.length):=by
  have:=qI (aQ:=aU aH) (aJ:=gH aH x y ps ws) (o:=o) (β:=β) (FZ:=FZ) (f:=λi=>ps.getD i .none) (g:=λi=>.tok (50+i)) (B:=fY ps.length) (λi hi=>by
   have hi:=md.mp hi
   have ok:=aN.mp (b7 uo _ (hp _ (getD_mem hi)))
   exact .eT ok.1 ok.2 (BU hi l1))
  rw [map_getD] at this
  exact this
 have c2:cG (aU aH) (gH aH x y ps ws) o β FZ ws (Pa ws.length):=by
  have:=qI (aQ:=aU aH) (aJ:=gH aH x y ps ws) (o:=o) (β:=β) (FZ:=FZ) (f:=λi=>ws.getD i .none) (g:=λi=>.tok (40+i)) (B:=fY ws.length) (λi hi=>by
   have hi:=md.mp hi
   have ok:=aN.mp (b7 JY _ (hq _ (getD_mem hi)))
   exact .eT ok.1 ok.2 (BV hi l2))
  rw [map_getD] at this
  exact this
 have ht:bC (iL t)=true:=by cases t<;>rfl
 exact .cons (.tup (.cons (.same rfl) (.cons (.tup (.cons (.same rfl) (.cons (.tup c1) (.cons (.same rfl) .nil)))) (.cons (.tup (.cons (.same rfl) (.cons (.tup c2) (.cons (.same ht) .nil)))) .nil)))) .nil
theorem O1(m n:H):vS m n=((fY m).map λi=>sub (.tok (50+i)) (@bN (λ_=>D) ak (.tok (40+i)) (dB i n))).reverse:=rfl
theorem T2(l1:ps.length<=6)(l2:ws.length<=6):cE (gH aH x y ps ws) (gH aH x y ps ws) (vS ps.length ws.length) (vS ps.length ws.length):=by
 intro o β FZ
 rw [O1]
 have:=cG.reverse (qI (aQ:=gH aH x y ps ws) (aJ:=gH aH x y ps ws) (o:=o) (β:=β) (FZ:=FZ) (f:=λi=>sub (.tok (50+i)) (@bN (λ_=>D) ak (.tok (40+i)) (dB i ws.length))) (g:=λi=>sub (.tok (50+i)) (@bN (λ_=>D) ak (.tok (40+i)) (dB i ws.length))) (B:=fY ps.length) (λi hi=>by
  have hi:=md.mp hi
  refine .tup (.cons (.same rfl) (.cons (.gZ (BU hi l1) (BU hi l1)) (.cons ?_ .nil)))
  cases J:dB i ws.length with
  |true=>have h2:i<ws.length:=dw J;exact .gZ (BV h2 l2) (BV h2 l2)
  |false=>exact .same rfl)) (.nil)
 rw [h_] at this
 exact this
theorem T1(l1:ps.length<=6)(l2:ws.length<=6):cE (gH aH x y ps ws) (aU aH) (vS ps.length ws.length) (jE ps ws):=by
 intro o β FZ
 rw [O1]
 unfold jE
 have:=cG.reverse (qI (aQ:=gH aH x y ps ws) (aJ:=aU aH) (o:=o) (β:=β) (FZ:=FZ) (f:=λi=>sub (.tok (50+i)) (@bN (λ_=>D) ak (.tok (40+i)) (dB i ws.length))) (g:=qP ps ws) (B:=fY ps.length) (λi hi=>by
  have hi:=md.mp hi
  unfold qP
  refine .tup (.cons (.same rfl) (.cons (.fc (BU hi l1)) (.cons ?_ .nil)))
  cases J:dB i ws.length with
  |true=>have h2:i<ws.length:=dw J;exact .fc (BV h2 l2)
  |false=>exact .same rfl)) (.nil)
 rw [h_,h_] at this
 exact this
theorem OG(aV:Base c w K cz I mg mb)(hp:∀p∈ps,p∈hH)(hq:∀q∈ws,q∈lx)(bu:Lk):Sound (λr:aa Lk=>r=some bu) c (wb c w (gH aH x y ps ws)) I 60 (run jR WF 60):=
 aV.sound (kY rfl) (U8 aV hp hq) (acd aV hp) (.inl jD) (De bu) 60
theorem Ep(aV:Base c w K cz I mg mb)(hp:∀p∈ps,p∈hH)(hq:∀q∈ws,q∈lx)(hf:(ps.length,ws.length,t)∈fits)(L:je c w I aH 60 gw dK.1 dK.2 (jE ps ws) x y k p E):je c w I aH 60 gw dK.1 dK.2 [sub (oneOf ps) (bodyOf ws t)] x y (k+1) p E:=by
 have mA:ps.length<=6/\ws.length<=6:=by
  have:∀q∈fits,q.1<=6/\q.2.1<=6:=by decide
  exact this _ hf
 have hl:(jE ps ws).length<=6:=by unfold jE;rw [ez,cZ,wA];exact mA.1
 refine VC (fL:=gH aH x y ps ws) (g':=Am ps.length ws.length t) (lX:=vS ps.length ws.length) (OG aV hp hq) rfl rfl rfl (λf wr=>?_) (KI hp hq mA.1 mA.2) (T2 mA.1 mA.2) (T1 mA.1 mA.2) hl L
 have e:=fU (VG f wr) _ hf
 dsimp only at e
 unfold first at e
 exact e
theorem Z5(aV:Base c w K cz I mg mb)(hp:∀p∈ps,p∈hH)(hq:∀q∈ws,q∈lx)(hf:(ps.length,ws.length,t)∈p8):je c w I aH 60 gw dK.1 dK.2 [sub (oneOf ps) (bodyOf ws t)] x y 1 0 (.bad [] [] x y):=by
 have mA:ps.length<=6/\ws.length<=6:=by
  have:∀q∈p8,q.1<=6/\q.2.1<=6:=by decide
  exact this _ hf
 refine VA (fL:=gH aH x y ps ws) (g':=Am ps.length ws.length t) (lX:=[]) (OG aV hp hq) rfl rfl rfl (λf wr=>?_) (KI hp hq mA.1 mA.2) (λ_ _ _=>.nil) (λ_ _ _=>.nil) (gA _)
 have e:=fU (Z8 f wr) _ hf
 dsimp only at e
 unfold first at e
 exact e
end
theorem o1(dT dN:ah):yp dT dN kO=some (.tup [.tup [du,.tok 12,.tok 13],side 1 [] [] dT,side 2 [] [] dN]):=by kernel_rfl
theorem o2(dT dN:ah):yp dT dN ak=some (.tup [.tup [du,.tok 12,.tok 13],side 1 [] [ak] dT,side 2 [] [] dN]):=by kernel_rfl
theorem o3(dT dN:ah):yp dT dN aK=some (.tup [.tup [du,.tok 12,.tok 13],side 1 [] [aK] dT,side 2 [] [] dN]):=by kernel_rfl
theorem c4:mr true [] [] 0=some .none:=by kernel_rfl
theorem agc:mr true [] [] 1=some .none:=by kernel_rfl
theorem Dz(LB:G D):mr false [] LB 0=some .none:=by kernel_rfl
theorem Tt(LB ag:G D):mr false [sub ai aC::ag] LB 0=some .none:=by kernel_rfl
theorem Tu(LB ag:G D):mr false [sub aF aC::ag] LB 0=some .none:=by kernel_rfl
theorem Tv(LB ag R':G D):mr false [sub aF aC::ag,sub ai aC::R'] LB 0=some .none:=by kernel_rfl
theorem e5(dT dN:ah):qL (side 1 [aC] [] dT) (side 2 [] [] dN) (.ref 0)=some (.aD (.dict [mK]) [aC]):=by kernel_rfl
theorem agg(dT dN:ah):qL (side 1 [aC] [ak,aC] dT) (side 2 [num 2] [num 2] dN) (.ref 0)=some (.aD (.dict [mK,nP]) [aC,num 2]):=by kernel_rfl
theorem agh:qL (.tok 3) (.tok 4) .none=some .none:=by kernel_rfl
noncomputable def dq:G (G H):=all1++(all2++(bV 0++(bV 1++(bV 2++(bV 3++(bV 4++bV 5))))))
theorem f_{α β:Type}{f g:α->β}{B m:G α}(h1:B.map f=B.map g)(h2:m.map f=m.map g):(B++m).map f=(B++m).map g:=by rw [rN,rN,h1,h2]
theorem acH:(dq.flatMap iW).map (jW W2 90)=(dq.flatMap iW).map jX:=by
 unfold dq
 simp only [QK]
 exact f_ aaQ (f_ aaR (f_ aaS (f_ aaT (f_ aaU (f_ aaV (f_ aaW aaX))))))
theorem acI:(dq.flatMap iX).map (nq W2 90)=(dq.flatMap iX).map nv:=by
 unfold dq
 simp only [QK]
 exact f_ acL (f_ acN (f_ acP (f_ acQ (f_ acR (f_ acS (f_ acT acU))))))
theorem afp:allB (λw=>bE (rD w)&&bE (tO w)&&bE (eX w)) six=true:=by kernel_rfl
theorem lW(h:ws∈dq):∀w∈ws,w∈six:=by
 have:allB (λws=>allB (λw=>mC w six) ws) dq=true:=by decide+kernel
 intro w hw
 have h2:=b7 (b7 this ws h) w hw
 have key:∀{B:G H},mC w B=true->w∈B:=by
  intro B
  induction B with
  |nil=>intro e;exact bz e
  |cons a B O=>
   intro e
   have e':@bN (λ_=>ah) (mC w B) true (bA a w)=true:=e
   cases J:bA a w with
   |true=>rw [dU J];exact .head _
   |false=>rw [J] at e';exact .tail _ (O e')
 exact key h2
theorem nS{ws:G H}(h:∀w∈ws,bC (f w)=true):bC (.tup [du,.tup (ws.map f),iL t])=true:=by
 rw [<-fB,nG]
 refine(?_:(bE du&&(bE (.tup (ws.map f))&&(bE (iL t)&&true)))=true)
 rw [nG,yx (B:=ws.map f) λm hm=>by obtain⟨w,hw,rfl⟩:=cF.mp hm;exact h w hw]
 cases t<;>rfl
section
variable{c:a_}{w:dF}{I:aP}{K:b8}{mg mb:ar->aa aw}
theorem Br(h:ws∈dq):(∀w∈ws,bC (rD w)=true)/\(∀w∈ws,bC (tO w)=true)/\∀w∈ws,bC (eX w)=true:=by
 have key:∀w∈ws,bC (rD w)=true/\bC (tO w)=true/\bC (eX w)=true:=λw hw=>by
  have:=b7 afp w (lW h w hw)
  refine xA (aN.mp this) λq q3=>?_
  refine xA (aN.mp q) λq1 q2=>?_
  exact⟨fB _▸q1,fB _▸q2,fB _▸q3⟩
 exact⟨λw hw=>(key w hw).1,λw hw=>(key w hw).2.1,λw hw=>(key w hw).2.2⟩
theorem aba(aV:Base c w K cz I mg mb)(h:ws∈dq)(t:ah)(one:D):iF c (wb c w (jL aH one (.tup (ws.map eX)) (iL t) (c_ ws t) (mO ws t))) I (W1 (gf ws) false):=by
 refine cf (Br h) λpa pb pc=>?_
 have kA:bC (c_ ws t)=true:=nS pa
 have kB:bC (mO ws t)=true:=nS pb
 have kC:bC (Ii ws t)=true:=nS pc
 have Fy:∀{m:D},bC m=true->bC (cD m)=true:=λ{m} e=>by
  rw [<-fB] at e⊢
  refine(?_:bE (.tup [rl,lS,rn,kO,m])=true)
  rw [nG]
  refine(?_:(bE rl&&(bE lS&&(bE rn&&(bE kO&&(bE m&&true)))))=true)
  rw [e];rfl
 have Mq:∀p∈iW ws,mh c w I aH 90 p.a p.args p.res:=λp hp=>by
  refine Ad aV (IA aV) (fU acH p (mc.mpr ⟨ws,h,hp⟩)) ?_ ?_
  all_goals
   refine ay (mc.mp hp) λt' _ hp=>?_
   simp only [bY,eP,gF] at hp
   rcases hp with rfl|rfl
  .intro m hm;simp only [bY,eP,gF] at hm;rcases hm with rfl|rfl;exact Fy (nS pa);rfl
  .intro m hm;simp only [bY,eP,gF] at hm;rcases hm with rfl|rfl;exact nS pb;rfl
  .rfl
  .rfl
 have sP:∀d∈iX ws,qx c w I aH 90 d.a d.t d.x d.r d.res:=λd hd=>by
  have e:=fU acI d (mc.mpr ⟨ws,h,hd⟩)
  refine ay (mc.mp hd) λt' _ hd=>?_
  simp only [bY,eP,gF] at hd
  rcases hd with rfl|rfl
  .exact Eg aV (IA aV) e (Fy (nS pa)) rfl (Fy (nS pb))
  .exact Eg aV (IA aV) e (nS pb) rfl (nS pc)
 have mt:t∈[false,true]:=by cases t<;>decide
 have KG:∀{j:H} {m:D},jL aH one (.tup (ws.map eX)) (iL t) (c_ ws t) (mO ws t) j=some m->cE (jL aH one (.tup (ws.map eX)) (iL t) (c_ ws t) (mO ws t)) (aU aH) [cD (.tok j)] [cD m]:=λe o β FZ=>.cons (.tup (.cons (.same rfl) (.cons (.same rfl) (.cons (.same rfl) (.cons (.same rfl) (.cons (.fc e) .nil)))))) .nil
 refine vH (λp hp o=>?_) (λd hd o j e=>?_)
 .simp only [P1,bY,eP,gF] at hp
  rcases hp with rfl|rfl
  .refine rh (Mq ⟨223,[cD (c_ ws t),nQ],.bool (gf ws)⟩ (mc.mpr ⟨t,mt,.head _⟩)) (λo β FZ=>?_) (et rfl)
   exact .cons ((KG rfl).one o β FZ) (.cons (.same rfl) .nil)
  .refine rh (Mq ⟨223,[mO ws t,lS],.bool false⟩ (mc.mpr ⟨t,mt,.tail _ (.head _)⟩)) (λo β FZ=>?_) (et rfl)
   exact .cons (.fc rfl) (.cons (.same rfl) .nil)
 .simp only [D1,bY,eP,gF] at hd
  rcases hd with rfl|rfl
  .refine DW rfl (sP ⟨67,cD (c_ ws t),mK,vT,cD (mO ws t)⟩ (mc.mpr ⟨t,mt,.head _⟩)) (KG rfl) (λo β FZ=>?_) e
   have aa1:cK (handed (mO ws t))=true:=rfl
   exact .cons (.tup (.cons (.same rfl) (.cons (.same rfl) (.cons (.same rfl) (.cons (.same rfl) (.cons (.eT kB aa1 rfl) .nil)))))) .nil
  .refine DW rfl (sP ⟨67,mO ws t,nP,vN,Ii ws t⟩ (mc.mpr ⟨t,mt,.tail _ (.head _)⟩)) (λo β FZ=>.cons (.fc rfl) .nil) (λo β FZ=>?_) e
   have kw:bC (.tup (ws.map eX))=true:=by rw [<-fB,nG];exact yx λm hm=>by obtain⟨w,hw,rfl⟩:=cF.mp hm;exact pc w hw
   have kt:bC (iL t)=true:=by cases t<;>rfl
   have ht:cK (handed (iL t))=true:=by cases t<;>rfl
   exact .cons (.tup (.cons (.same rfl) (.cons (.eT kw rfl rfl) (.cons (.eT kt ht rfl) .nil)))) .nil
noncomputable def cC(u:H):D:=match u with
 |0=>kO
 |1=>ak
 |_=>aK
noncomputable def o6(u:H):G D:=match u with
 |0=>[]
 |1=>[ak]
 |_=>[aK]
theorem abc(u:H)(d:ah):yp d false (cC u)=some (.tup [.tup [du,.tok 12,.tok 13],side 1 [] (o6 u) d,side 2 [] [] false]):=by
 match u with
 |0=>exact o1 d false
 |1=>exact o2 d false
 |u+2=>exact o3 d false
theorem Bh(h:∀m∈B,bC m=true):cR (.tup B)=true:=by
 unfold cR
 rw [<-fB,nG,yx h]
 rfl
theorem Ge(aV:Base c w K cz I mg mb)(h:ws∈dq){t:ah}(hp:∀p∈ps,p∈hH)
  (au:Ends za c w I aH WE 60 gw dK.1 dK.2 tA [sub (oneOf ps) (bodyOf (ws.map eX) t)] (side 1 [] (o6 u) (gf ws)) (side 2 [] [] false) k p oc) (hk:k<=60) (lp:p<=390) (Bm:cR x'=true) (Bn:cR y'=true)
  (uU:(res=true/\oc=.good x' y'/\LB=[]/\R=[])\/(res=false/\oc=.bad R LB x' y'/\p=0)) (ll:LB.length<=400) (qf:∀m∈LB,bC m=true) (pe:∀e∈R,(∀m∈e,bC m=true)/\e.length<=400) (le:R.length<=2) (h4:mr res R LB p=some .none) (h5:qL x' y' (found res)=some R5):kh c w I aH 180 (oneOf ps) (dk (cC u) (cD (c_ ws t))) R5:=by
 refine cf (Br h) λpa pb pc=>?_
 have aca:∀p∈ps,bC p=true:=λp gU=>(aN.mp (b7 uo p (hp p gU))).1
 have k1:cR (oneOf ps)=true:=Bh λm hm=>by
  simp only [bY,eP,gF] at hm
  rcases hm with rfl|rfl|rfl
  .rfl
  .exact(aN.mp (Bh aca)).1
  .rfl
 have ox:cR (side 1 [] (o6 u) (gf ws))=true:=js rfl (by match u with|0=>rfl|1=>rfl|u+2=>rfl)
 have oy:cR (side 2 [] [] false)=true:=js rfl rfl
 have k4:cR (.tup (ws.map eX))=true:=Bh λm hm=>by obtain⟨w,hw,rfl⟩:=cF.mp hm;exact pc w hw
 have k5:cR (iL t)=true:=by cases t<;>rfl
 have k2:cR (c_ ws t)=true:=by
  have:=nS (t:=t) pa
  unfold cR
  exact aN.mpr ⟨this,rfl⟩
 have hb:∀R B x y,oc=.bad R B x y->p=0:=λ_ _ _ _ e=>uU.elim (λz=>nomatch z.2.1.symm.trans e) λz=>z.2.2
 have FI:bC (cC u)=true:=by match u with|0=>rfl|1=>rfl|u+2=>rfl
 exact ZP aV (jN:=mO ws t) k1 FI k2 k4 k5 ox oy Bm Bn (aba aV h t (oneOf ps)) (abc u (gf ws)) lp uU ll qf pe le
  (λY F C s a0 a2 a3 a6 room S e0 e2 e3 e6=>adh aV au ox oy hk lp hb Y F C s a0 a2 a3 a6 room S e0 e2 e3 e6) h4 h5
end
theorem Ts(p:H):mr true [] [] p=some .none:=by kernel_rfl
theorem Chain.append(h1:Chain W n sc t bd l1 x y k p E)(ho:E=.good x' y')(h2:Chain W n sc t bd l2 x' y' k' p' o'):Chain W n sc t bd (l1++l2) x y (k+k') (p+p') o':=by
 induction h1 with
 |done=>cases ho;rw [uh,uh];exact h2
 |@turn g aY subs x y a b a' b' p0 k0 q0 oo cS s1 s2 Yy Yz pl ls o1 o2 ch O=>
  have:=Chain.turn cS s1 s2 Yy Yz pl ls o1 o2 (by have:=O ho;rw [l_] at this;exact this)
  rw [show k0+1+k'=k0+k'+1 by lia,show p0+q0+p'=p0+(q0+p') by lia]
  exact this
 |fail=>cases ho
 |last=>cases ho
section
variable{c:a_}{w:dF}{I:aP}{K:b8}{mg mb:ar->aa aw}
theorem ZI(aV:Base c w K cz I mg mb)(h:ws∈dq)(hp:∀p∈ps,p∈hH)(hf:(ps.length,ws.length,t)∈fits)(hr:r∈fL)(hn:on∈jI)
  (ch:Chain WS 60 gw dK.1 dK.2 (jE ps (ws.map eX)) (side 1 [] (o6 u) (gf ws)) (side 2 [] [] false) k p (.good (side 1 r.lo r.up (gf ws)) (side 2 (gu on) (gu on) false))) (pl:∀z∈jE ps (ws.map eX),bC z=true) (hk:k<60) (lp:p<=390)
  (kr:allB bE r.lo=true/\allB bE r.up=true) (hd:gf ws=true->r.one=true):kh c w I aH 180 (oneOf ps) (dk (cC u) (cD (c_ ws t))) (sr r.told on):=by
 have L:=DG aV ch pl
 have hq:∀q∈ws.map eX,q∈lx:=λq hq=>by
  refine ay (cF.mp hq) λw hw aE=>?_;subst aE
  exact cF.mpr ⟨w,lW h w hw,rfl⟩
 have L1:=Ep aV (t:=t) hp hq (by rw [cZ];exact hf) L
 have kn:allB bE (gu on)=true:=by cases on<;>rfl
 have gg:cR (side 1 r.lo r.up (gf ws))=true:=js kr.1 kr.2
 have gh:cR (side 2 (gu on) (gu on) false)=true:=js kn kn
 have cS:∀f wr,v8 WE 60 gw tA (stH f [] wr (side 1 r.lo r.up (gf ws)) (.tok 2))=some ⟨true,.fuel f,[],side 1 r.lo r.up (gf ws),.tok 2,iA wr⟩:=λf wr=>by
  cases e:gf ws with
  |true=>
   have:=fU (aer f wr) r hr
   unfold vW uH at this
   rw [hd e] at this
   exact this
  |false=>
   have:=fU (aeq f wr) r hr
   unfold vW uH at this
   exact this
 have h5:qL (side 1 r.lo r.up (gf ws)) (side 2 (gu on) (gu on) false) (found true)=some (sr r.told on):=by
  have:=fU (fU (aep (gf ws)) on hn) r hr
  unfold La PY at this
  exact this
 exact Ge aV h hp (Ends.good L1 gg gh ⟨_,_,rfl⟩ cS) (by assumption) lp gg gh (.inl ⟨rfl,rfl,rfl,rfl⟩) (gA _) (λm h=>nomatch h) (λm h=>nomatch h) (gA _) (Ts p) h5
theorem Nk(aV:Base c w K cz I mg mb)(h:ws∈dq)(hp:∀p∈ps,p∈hH)
  (L1:je c w I aH 60 gw dK.1 dK.2 [sub (oneOf ps) (bodyOf (ws.map eX) t)] (side 1 [] (o6 u) (gf ws)) (side 2 [] [] false) k 0 (.bad R LB x' y')) (hk:k<=60) (gg:cR x'=true) (gh:cR y'=true) (ll:LB.length<=400) (pl:∀m∈LB,bC m=true) (pe:∀e∈R,(∀m∈e,bC m=true)/\e.length<=400) (le:R.length<=2) (h4:mr false R LB 0=some .none):kh c w I aH 180 (oneOf ps) (dk (cC u) (cD (c_ ws t))) .none:=
 Ge aV h hp (Ends.fail L1) hk (gA _) gg gh (.inr ⟨rfl,rfl,rfl⟩) ll pl pe le h4 (Lb x' y')
theorem Nm(aV:Base c w K cz I mg mb)(h:ws∈dq)(hp:∀p∈ps,p∈hH)(hf:(ps.length,ws.length,t)∈p8):kh c w I aH 180 (oneOf ps) (dk (cC u) (cD (c_ ws t))) .none:=by
 have hq:∀q∈ws.map eX,q∈lx:=λq hq=>by
  refine ay (cF.mp hq) λw hw aE=>?_;subst aE
  exact cF.mpr ⟨w,lW h w hw,rfl⟩
 have ox:cR (side 1 [] (o6 u) (gf ws))=true:=js rfl (by match u with|0=>rfl|1=>rfl|u+2=>rfl)
 have oy:cR (side 2 [] [] false)=true:=js rfl rfl
 exact Nk aV h hp (Z5 aV (t:=t) hp hq (by rw [cZ];exact hf)) (by decide) ox oy (gA _) (λm hm=>nomatch hm) (λm hm=>nomatch hm) (gA _) (Dz [])
theorem ZH(aV:Base c w K cz I mg mb)(h:ws∈dq)(hp:∀p∈ps,p∈hH)(hf:(ps.length,ws.length,t)∈fits)
  (ch:Chain WS 60 gw dK.1 dK.2 (jE ps (ws.map eX)) (side 1 [] (o6 u) (gf ws)) (side 2 [] [] false) k 0 (.bad R LB x' y')) (pl:∀z∈jE ps (ws.map eX),bC z=true) (hk:k<60) (gg:cR x'=true) (gh:cR y'=true) (ll:LB.length<=400) (qf:∀m∈LB,bC m=true) (pe:∀e∈R,(∀m∈e,bC m=true)/\e.length<=400) (le:R.length<=2) (h4:mr false R LB 0=some .none):kh c w I aH 180 (oneOf ps) (dk (cC u) (cD (c_ ws t))) .none:=by
 have hq:∀q∈ws.map eX,q∈lx:=λq hq=>by
  refine ay (cF.mp hq) λw hw aE=>?_;subst aE
  exact cF.mpr ⟨w,lW h w hw,rfl⟩
 exact Nk aV h hp (Ep aV (t:=t) hp hq (by rw [cZ];exact hf) (DG aV ch pl)) (by assumption) gg gh ll qf pe le h4
end
structure ki where
 pl:ah
 rm:ah
 lo:G D
 up:G D
noncomputable def aew(k:H):G ki:=match k with
 |0=>[⟨false,false,[],[]⟩,⟨true,false,[aC],[]⟩,⟨false,true,[aC],[aC]⟩,⟨true,true,[aC],[aC]⟩]
 |1=>[⟨false,false,[],[]⟩,⟨true,false,[ai],[]⟩,⟨false,true,[ai],[ai]⟩,⟨true,true,[ai],[ai]⟩]
 |2=>[⟨false,false,[],[]⟩,⟨true,false,[bF],[]⟩,⟨false,true,[ak],[ak]⟩,⟨true,true,[bF,ak],[ak]⟩,⟨true,true,[ak,bF],[ak]⟩]
 |_=>[⟨false,false,[],[]⟩,⟨true,false,[ai],[]⟩,⟨false,true,[af],[af]⟩,⟨true,true,[ai,af],[af]⟩,⟨true,true,[af,ai],[af]⟩]
noncomputable def Dl(u:H):G D:=match u with
 |0=>[]
 |1=>[ak]
 |_=>[aK]
noncomputable def jd(k u:H):G ki:=mapA (λq=>⟨q.pl,q.rm,q.lo,@bN (λ_=>G D) (app (Dl u) q.up) (Dl u) (cT (Dl u) q.up)⟩) (aew k)
noncomputable def i7(w:H):ah:=bA w 0||bA w 5
noncomputable def Dk(a b:ah):ah:=!(qt a b)
noncomputable def Fg(B:G ki)(a b:ah)(lo up:G D):ah:=!(allB (λq=>!(Dk q.pl a&&Dk q.rm b&&cT q.lo lo&&cT q.up up)) B)
noncomputable def iI(k num w:H)(d:ah):D:=sub (qc k num w d) (eX w)
noncomputable def lK(num w:H)(on:aa H):aa H:=match w with
 |2=>some num
 |_=>on
noncomputable def rd(k w:H)(q:ki):H:=match bA k 3&&(q.pl||i7 w)&&(q.rm||fH w) with
 |true=>3
 |false=>0
noncomputable def vq(k u num w:H)(d:ah)(on:aa H)(q:ki):ah:=match m8 16 [iI k num w d] ⟨q.lo,q.up,gu on,gu on⟩ with
 |some E=>E.fl&&eB E.k 14&&eB E.p (rd k w q)&&Fg (jd k u) (q.pl||i7 w) (q.rm||fH w) E.s.tl E.s.tu&&cT E.s.nl (gu (lK num w on))&&cT E.s.nu (gu (lK num w on))
 |.none=>false
noncomputable def IB:G (H×ah):=[(0,false),(1,false),(3,false),(3,true),(4,false),(5,false)]
noncomputable def lI(k u:H):ah:=allB (λq=>allB (λwd=>allB (λon=>vq k u 1 wd.1 wd.2 on q) jI) IB&&allB (λnum=>vq k u num 2 false .none q&&vq k u num 2 false (some num) q) [1,2,3]) (jd k u)
noncomputable def vX(k:H)(a b:ah):aa D:=match b with
 |true=>some (fR k)
 |false=>match a with
  |true=>some (hU k)
  |false=>.none
noncomputable def Ou(a b:aa D):ah:=match a with
 |some x=>match b with
  |some y=>eW x y
  |.none=>false
 |.none=>match b with
  |some _=>false
  |.none=>true
noncomputable def UU(k:H)(q:ki):ah:=!(allB (λr=>!(cT r.lo q.lo&&cT r.up q.up&&Ou r.told (vX k q.pl q.rm)&&(r.one||q.rm))) fL)
noncomputable def ends(k u:H):ah:=allB (UU k) (jd k u)&&Fg (jd k u) false false [] (match u with
 |0=>[]
 |1=>[ak]
 |_=>[aK])
noncomputable def J8(J a b:ah):ah:=@bN (λ_=>ah) b a J
theorem Zr:lI 0 0=true:=by kernel_rfl
theorem Zs:lI 0 1=true:=by kernel_rfl
theorem Zt:lI 0 2=true:=by kernel_rfl
theorem Zu:lI 1 0=true:=by kernel_rfl
theorem Zv:lI 1 1=true:=by kernel_rfl
theorem Zw:lI 1 2=true:=by kernel_rfl
theorem Zx:lI 2 0=true:=by kernel_rfl
theorem Zy:lI 2 1=true:=by kernel_rfl
theorem Zz:lI 2 2=true:=by kernel_rfl
theorem ZA:lI 3 0=true:=by kernel_rfl
theorem ZC:lI 3 1=true:=by kernel_rfl
theorem ZD:lI 3 2=true:=by kernel_rfl
theorem UZ:allB (λk=>allB (λu=>ends k u) [0,1,2]) [0,1,2,3]=true:=by kernel_rfl
theorem aeK:allB (λk=>allB (λu=>allB (λq=>allB (λon=>match m8 3 [sub j0 ak] ⟨q.lo,q.up,gu on,gu on⟩ with|some E=>E.fl&&eB E.k 3&&eB E.p 0&&cT E.s.tl q.lo&&cT E.s.tu q.up&&cT E.s.nl (gu on)&&cT E.s.nu (gu on)|.none=>false) jI) (jd k u)) [0,1,2]) [0,1,2,3]=true:=by kernel_rfl
theorem abm:allB (λk=>allB (λq=>q.rm||J8 q.pl (cT q.lo [hU k]) (cT q.lo [])&&cT q.up []) (jd k 0)) [0,1,2,3]=true:=by kernel_rfl
theorem xk{α:Type}{f:α->ah}{B:G α}(e:(!(allB (λq=>!(f q)) B))=true):∃q∈B,f q=true:=by
 induction B with
 |nil=>exact bz e
 |cons a B O=>
  have e':(!(!(f a)&&allB (λq=>!(f q)) B))=true:=e
  cases J:f a with
  |true=>exact⟨a,.head _,J⟩
  |false=>
   rw [J] at e'
   exact(O e').imp λq h=>⟨.tail _ h.1,h.2⟩
theorem zN(e:Dk a b=true):a=b:=by
 cases a<;>cases b<;>first|rfl|nomatch e
structure Got(B:G D)(s s':Sg)(kk pp:H):Prop where
 ok:i4 s'
 ch:∀d,Chain WS 60 gw dK.1 dK.2 B (sT s d) (jr s) kk pp (.good (sT s' d) (jr s'))
theorem Got.app(x:Got B s s' a b)(y:Got l' s' s2 J d):Got (B++l') s s2 (a+J) (b+d):=⟨y.ok,λg=>(x.ch g).append rfl (y.ch g)⟩
theorem Got.of(hs:i4 s)(e:m8 n B s=some E)(hf:E.fl=true):Got B s E.s E.k E.p:=
 ⟨(J2 (d:=true) hs e).2,λd=>by have:=(J2 (d:=d) hs e).1;rw [hf] at this;exact this⟩
noncomputable def fE(q:ki)(on:aa H):Sg:=⟨q.lo,q.up,gu on,gu on⟩
structure Step(k u num w:H)(q q':ki)(kk pp:H):Prop where
 mem:q'∈jd k u
 pl:q'.pl=(q.pl||i7 w)
 rm:q'.rm=(q.rm||fH w)
 kl:kk<=14
 p:pp<=rd k w q
theorem Hz{s:Sg}(h1:s.tl=a)(h2:s.tu=b)(h3:s.nl=J)(h4:s.nu=d):s=⟨a,b,J,d⟩:=by subst h1 h2 h3 h4;rfl
theorem Ga{k u num w:H}{d:ah}(h:vq k u num w d on q=true)(hs:i4 (fE q on)):∃q' kk pp,Step k u num w q q' kk pp/\Got [iI k num w d] (fE q on) (fE q' (lK num w on)) kk pp:=by
 unfold vq at h
 cases e:m8 16 [iI k num w d] ⟨q.lo,q.up,gu on,gu on⟩ with
 |none=>rw [e] at h;nomatch h
 |some E=>
  rw [e] at h
  refine xA (aN.mp h) λh h6=>?_
  refine xA (aN.mp h) λh h5=>?_
  refine xA (aN.mp h) λh h4=>?_
  refine xA (aN.mp h) λh h3=>?_
  refine xA (aN.mp h) λh1 h2=>?_
  refine ay (xk h4) λq' m e4=>?_
  refine xA (aN.mp e4) λe4 z4=>?_
  refine xA (aN.mp e4) λe4 z3=>?_
  refine xA (aN.mp e4) λz1 z2=>?_
  have g:=Got.of (s:=fE q on) hs e h1
  have R:E.s=fE q' (lK num w on):=Hz (eu z3).symm (eu z4).symm (eu h5) (eu h6)
  rw [R] at g
  exact⟨q',E.k,E.p,⟨m,zN z1,zN z2,dw h2,dw h3⟩,g⟩
theorem qZ(h:u<3):u=0\/u=1\/u=2:=(by decide:∀u,u<3->u=0\/u=1\/u=2) u h
theorem pX(h:u<4):u=0\/u=1\/u=2\/u=3:=(by decide:∀u,u<4->u=0\/u=1\/u=2\/u=3) u h
theorem ZE(hk:k<4)(hu:u<3):lI k u=true:=by
 rcases pX hk with rfl|rfl|rfl|rfl<;>rcases qZ hu with rfl|rfl|rfl
 .exact Zr
 .exact Zs
 .exact Zt
 .exact Zu
 .exact Zv
 .exact Zw
 .exact Zx
 .exact Zy
 .exact Zz
 .exact ZA
 .exact ZC
 .exact ZD
noncomputable def CO(num:H)(on:aa H):Prop:=on=.none\/on=some num
theorem adZ{k u num w:H}(hk:k<4)(hu:u<3)(hn:num∈[1,2,3])(hw:w∈six)(hq:q∈jd k u)(ho:CO num on)(hs:i4 (fE q on)):∃q' kk pp,Step k u num w q q' kk pp/\Got [iI k num w d] (fE q on) (fE q' (lK num w on)) kk pp:=by
 refine xA (aN.mp (b7 (ZE hk hu) q hq)) λm1 m2=>?_
 have yn:on∈jI:=by
  rcases ho with rfl|rfl
  .exact .head _
  .exact .tail _ (cF.mpr ⟨num,hn,rfl⟩)
 have use:∀{w:H} {d:ah},(w,d)∈IB->vq k u 1 w d on q=true:=λh=>b7 (b7 m1 _ h) on yn
 have go:∀{w:H} {d d':ah},(w,d')∈IB->iI k 1 w d'=iI k num w d->lK 1 w on=lK num w on->∃q' kk pp,Step k u num w q q' kk pp/\Got [iI k num w d] (fE q on) (fE q' (lK num w on)) kk pp:=λh e e2=>by
  refine dO (Ga (use h) hs) λq' kk pp st g=>?_
  rw [e,e2] at g
  exact⟨q',kk,pp,⟨st.mem,st.pl,st.rm,st.kl,st.p⟩,g⟩
 simp only [six,bY,eP,gF] at hw
 rcases hw with rfl|rfl|rfl|rfl|rfl|rfl
 .exact go (d':=false) (by decide) rfl rfl
 .exact go (d':=false) (by decide) rfl rfl
 .refine xA (aN.mp (b7 m2 num hn)) λn1 n2=>?_
  rcases ho with rfl|rfl
  .exact Ga (d:=false) n1 hs
  .exact Ga (d:=false) n2 hs
 .cases d
  .exact go (d':=false) (by decide) rfl rfl
  .exact go (d':=true) (by decide) rfl rfl
 .exact go (d':=false) (by decide) rfl rfl
 .exact go (d':=false) (by decide) rfl rfl
noncomputable def jK(num:H)(B:G (H×ah))(on:aa H):aa H:=match B.any λwd=>bA wd.1 2 with
 |true=>some num
 |false=>on
structure Parts(k u num:H)(B:G (H×ah))(q q':ki)(kk pp:H):Prop where
 mem:q'∈jd k u
 pl:q'.pl=(q.pl||B.any λwd=>i7 wd.1)
 rm:q'.rm=(q.rm||B.any λwd=>fH wd.1)
 kl:kk<=14*B.length
 p:pp<=3*B.length
 p0:(bA k 3&&q'.pl&&q'.rm)=false->pp=0
theorem GY{k u num:H}(hk:k<4)(hu:u<3)(hn:num∈[1,2,3]):∀{B:G (H×ah)},(∀wd∈B,wd.1∈six)->∀{q:ki},q∈jd k u->∀{on:aa H},CO num on->i4 (fE q on)->
  ∃q' kk pp,Parts k u num B q q' kk pp/\Got (B.map λwd=>iI k num wd.1 wd.2) (fE q on) (fE q' (jK num B on)) kk pp:=by
 intro B
 induction B with
 |nil=>exact λ_ q hq on ho hs=>⟨q,0,0,⟨hq,(qr _).symm,(qr _).symm,fG _,fG _,λ_=>rfl⟩,⟨hs,λd=>.done⟩⟩
 |cons wd B O=>
  obtain⟨w,d⟩:=wd
  intro hl q hq on ho hs
  refine dO (adZ hk hu hn (hl _ (.head _)) (d:=d) hq ho hs) λq1 k1 p1 st g1=>?_
  have AD:CO num (lK num w on):=by
   unfold lK
   split
   .exact .inr rfl
   .exact ho
  refine dO (O (λwd h=>hl wd (.tail _ h)) st.mem AD g1.ok) λq2 k2 p2 ps g2=>?_
  refine⟨q2,k1+k2,p1+p2,⟨ps.mem,?_,?_,?_,?_,λe=>?_⟩,?_⟩
  .rw [ps.pl,st.pl,Qf];rfl
  .rw [ps.rm,st.rm,Qf];rfl
  .have:=st.kl;have:=ps.kl;rw [iQ];lia
  .have:p1<=rd k w q:=st.p;have:=ps.p;rw [iQ]
   have:rd k w q<=3:=by unfold rd;split<;>decide
   lia
  .have e2:=ps.p0 e
   have e1:rd k w q=0:=by
    unfold rd
    rw [ps.pl,ps.rm,st.pl,st.rm] at e
    revert e
    generalize bA k 3=x0
    generalize (q.pl||i7 w)=x1
    generalize (q.rm||fH w)=x2
    cases x0<;>cases x1<;>cases x2<;>simp
   have:p1<=rd k w q:=st.p
   lia
  .have e:jK num B (lK num w on)=jK num ((w,d)::B) on:=by
    unfold jK
    rw [qy]
    cases J:B.any λwd=>bA wd.1 2 with
    |true=>rw [Bool.or_true]
    |false=>
     rw [qr]
     by_cases h:w=2
     .rw [h];rfl
     .have:bA w 2=false:=by
       cases J:bA w 2 with
       |true=>exact bP (dU J) h
       |false=>rfl
      refine(?_:lK num w on=match bA w 2 with|true=>some num|false=>on)
      rw [this]
      unfold lK
      split
      .exact bP rfl h
      .rfl
   rw [<-e]
   exact g1.app g2
noncomputable def cY(k num:H)(aG:G (H×ah))(ik:H):G D:=aG.map (λwd=>qc k num wd.1 wd.2)++di ik j0
noncomputable def bD(aG:G (H×ah)):G H:=aG.map λwd=>wd.1
noncomputable def i6(k num:H)(aG:G (H×ah)):G D:=aG.map λwd=>iI k num wd.1 wd.2
theorem blt_true(h:i<n):dB i n=true:=Ju h
theorem blt_false(h:n<=i):dB i n=false:=by
 cases J:dB i n with
 |false=>rfl
 |true=>exact bP (dw J) (g7.mpr h)
theorem V_(h1:ps[i]?=some a)(h2:ws[i]?=some b):qP ps ws i=sub a b:=by
 unfold qP
 rw [blt_true (eM.mp h2).1,Cr,Cr,h1,h2]
 rfl
theorem Wa(h1:ps[i]?=some a)(h2:ws.length<=i):qP ps ws i=sub a ak:=by
 unfold qP
 rw [blt_false h2,Cr,h1]
 rfl
theorem LR(ps ws tl:G D)(h:ps.length=ws.length):jE (ps++tl) ws=(tl.map λt=>sub t ak).reverse++(CB sub ps ws).reverse:=by
 unfold jE
 rw [<-zk]
 congr 1
 apply List.ext_getElem?
 intro i
 rw [tZ,fy]
 have hz:(CB sub ps ws).length=ps.length:=by rw [List.length_zipWith,<-h,wG]
 by_cases h1:i<ps.length
 .have h2:i<ws.length:=h▸h1
  rw [QL (nY h1 (ig ..)),JC,iD (hz.symm▸h1),List.getElem?_zipWith,cV h1,cV h2]
  exact cq some (V_ (by rw [iD h1,cV h1]) (cV h2))
 .have h1:=g7.mp h1
  rw [mS (hz.symm▸h1),hz,tZ]
  by_cases h2:i<ps.length+tl.length
  .have h3:i-ps.length<tl.length:=Nat.sub_lt_left_of_lt_add h1 h2
   rw [QL h2,JC,cV h3,JC]
   exact cq some (Wa (by rw [mS h1,cV h3]) (h▸h1))
  .rw [Jk (by rw [wA];exact g7.mp h2),Jk (Nat.le_sub_of_add_le (mV .. ▸g7.mp h2))];rfl
theorem IM(k num:H)(aG:G (H×ah)):CB sub (aG.map λwd=>qc k num wd.1 wd.2) ((bD aG).map eX)=i6 k num aG:=by
 unfold bD i6
 rw [zj]
 induction aG with
 |nil=>rfl
 |cons a B O=>rw [lj,lj,lj,List.zipWith_cons_cons,O];rfl
theorem LS(k num:H)(aG:G (H×ah))(ik:H):jE (cY k num aG ik) ((bD aG).map eX)=di ik (sub j0 ak)++i6 k num aG.reverse:=by
 unfold cY
 rw [LR _ _ _ (by unfold bD;rw [cZ,cZ,cZ]),IM,Jo,Q3]
 unfold i6
 rw [Cy]
theorem GL{num:H}:jK num B.reverse on=jK num B on:=by
 unfold jK
 rw [wx]
theorem aeM(hk:k<4)(hu:u<3)(hq:q∈jd k u)(ho:on∈jI)(hs:i4 (fE q on)):∃kk,kk<=3/\Got [sub j0 ak] (fE q on) (fE q on) kk 0:=by
 have lC:k∈[0,1,2,3]:=by rcases pX hk with rfl|rfl|rfl|rfl<;>decide
 have hI:u∈[0,1,2]:=by rcases qZ hu with rfl|rfl|rfl<;>decide
 have h:=b7 (b7 (b7 (b7 aeK k lC) u hI) q hq) on ho
 generalize e:m8 3 [sub j0 ak] ⟨q.lo,q.up,gu on,gu on⟩=ax at h
 cases ax with
 |none=>nomatch h
 |some E=>
  refine xA (aN.mp h) λh h6=>?_
  refine xA (aN.mp h) λh h5=>?_
  refine xA (aN.mp h) λh h4=>?_
  refine xA (aN.mp h) λh h3=>?_
  refine xA (aN.mp h) λh h2=>?_
  refine xA (aN.mp h) λh1 Wk=>?_
  have g:=Got.of (s:=fE q on) hs e h1
  have R:E.s=fE q on:=Hz (eu h3) (eu h4) (eu h5) (eu h6)
  rw [R,Jw.mp (dw h2)] at g
  exact⟨E.k,dw Wk,g⟩
theorem aeN(hk:k<4)(hu:u<3)(hq:q∈jd k u)(ho:on∈jI)(hs:i4 (fE q on)):∃kk,kk<=3*ik/\Got (di ik (sub j0 ak)) (fE q on) (fE q on) kk 0:=by
 induction ik with
 |zero=>exact⟨0,fG _,hs,λd=>.done⟩
 |succ n O=>
  refine ay (aeM hk hu hq ho hs) λk1 l1 g1=>?_
  refine ay O λk2 l2 g2=>?_
  exact⟨k1+k2,mV k2 k1▸CE l2 l1,g1.app g2⟩
noncomputable def rj(u:H):ki:=⟨false,false,[],o6 u⟩
theorem XO{lo up:G D}(h:Fg B a b lo up=true):(⟨a,b,lo,up⟩:ki)∈B:=by
 refine ay (xk h) λq m e=>?_
 refine xA (aN.mp e) λe z4=>?_
 refine xA (aN.mp e) λe z3=>?_
 refine xA (aN.mp e) λz1 z2=>?_
 have:q=⟨a,b,lo,up⟩:=by
  rw [<-zN z1,<-zN z2,<-eu z3,<-eu z4]
 exact this▸m
theorem Lg(hk:k<4)(hu:u<3):ends k u=true:=by
 have lC:k∈[0,1,2,3]:=by rcases pX hk with rfl|rfl|rfl|rfl<;>decide
 have hI:u∈[0,1,2]:=by rcases qZ hu with rfl|rfl|rfl<;>decide
 exact b7 (b7 UZ k lC) u hI
theorem BR(hk:k<4)(hu:u<3):rj u∈jd k u:=by
 have:=XO (aN.mp (Lg hk hu)).2
 rcases qZ hu with rfl|rfl|rfl<;>exact this
theorem wX(hu:u<3):i4 (fE (rj u) .none):=by
 rcases qZ hu with rfl|rfl|rfl<;>exact⟨rfl,rfl,rfl,rfl⟩
theorem ac5(h:Ou a b=true):a=b:=by
 cases a<;>cases b<;>first|rfl|exact cq some (iK h)|exact bz h
theorem UX(hk:k<4)(hu:u<3)(hq:q∈jd k u):∃r∈fL,r.lo=q.lo/\r.up=q.up/\r.told=vX k q.pl q.rm/\(q.rm=false->r.one=true):=by
 refine ay (xk (b7 (aN.mp (Lg hk hu)).1 q hq)) λr m e=>?_
 refine xA (aN.mp e) λe z4=>?_
 refine xA (aN.mp e) λe z3=>?_
 refine xA (aN.mp e) λz1 z2=>?_
 refine⟨r,m,eu z1,eu z2,ac5 z3,λh=>?_⟩
 rw [h,qr] at z4
 exact z4
theorem N2{k num:H}(hk:k<4)(hn:num∈[1,2,3])(hw:w∈six):qc k num w d∈hH:=by
 have:allB (λk=>allB (λnum=>allB (λw=>allB (λd=>!(allB (λp=>!(eW p (qc k num w d))) hH)) [false,true]) six) [1,2,3]) [0,1,2,3]=true:=by kernel_rfl
 have lC:k∈[0,1,2,3]:=by rcases pX hk with rfl|rfl|rfl|rfl<;>decide
 obtain⟨p,m,e⟩:=xk (b7 (b7 (b7 (b7 this k lC) num hn) w hw) d (by cases d<;>decide))
 exact iK e▸m
theorem vJ{k num:H}(hk:k<4)(hn:num∈[1,2,3])(hw:∀wd∈aG,wd.1∈six):∀p∈cY k num aG ik,p∈hH:=λp hp=>by
 refine dC (dI.mp hp) (λh=>?_) λh=>?_
 .refine ay (cF.mp h) λwd m aE=>?_;rw [<-aE]
  exact N2 hk hn (hw wd m)
 .rw [(Q0.mp h).2]
  exact .tail _ (.tail _ (.tail _ (.head _)))
theorem An(hp:∀p∈ps,p∈hH)(hw:∀w∈ws,w∈lx):∀z∈jE ps ws,bC z=true:=λz hz=>by
 refine ay (cF.mp (qB.mp hz)) λi hi aE=>?_;subst aE
 have hi:=md.mp hi
 have k1:bC (ps.getD i .none)=true:=(aN.mp (b7 uo _ (hp _ (getD_mem hi)))).1
 have k2:bC (match dB i ws.length with|true=>ws.getD i .none|false=>ak)=true:=by
  cases J:dB i ws.length with
  |true=>exact(aN.mp (b7 JY _ (hw _ (getD_mem (dw J))))).1
  |false=>rfl
 unfold qP
 rw [<-fB]
 refine(?_:bE (.tup [Ht,_,_])=true)
 rw [nG]
 refine(?_:(bE Ht&&(bE _&&(bE _&&true)))=true)
 rw [fB (ps.getD i .none),k1]
 rw [<-fB] at k2
 erw [k2]
 rfl
theorem B8(h:ws∈dq):∀q∈ws.map eX,q∈lx:=λq hq=>by
 refine ay (cF.mp hq) λw hw aE=>?_;subst aE
 exact cF.mpr ⟨w,lW h w hw,rfl⟩
section
variable{c:a_}{w:dF}{I:aP}{K:b8}{mg mb:ar->aa aw}
theorem ZK(aV:Base c w K cz I mg mb){k u num:H}(hk:k<4)(hu:u<3)(hn:num∈[1,2,3])(h:bD aG∈dq)(hf:(aG.length+ik,aG.length,t)∈fits):
  kh c w I aH 180 (oneOf (cY k num aG ik)) (dk (cC u) (cD (c_ (bD aG) t))) (sr (vX k (aG.any λwd=>i7 wd.1) (aG.any λwd=>fH wd.1)) (jK num aG .none)):=by
 have hw:∀wd∈aG,wd.1∈six:=λwd m=>lW h _ (cF.mpr ⟨wd,m,rfl⟩)
 have mA:aG.length<=3/\ik<=2:=by
  have:=(by decide:∀q∈fits,q.2.1<=3/\q.1<=q.2.1+2) _ hf
  exact⟨this.1,Rc this.2⟩
 refine ay (aeN hk hu (BR (k:=k) hk hu) (on:=.none) (.head _) (wX hu) (ik:=ik)) λk1 l1 g1=>?_
 refine dO (GY hk hu hn (B:=aG.reverse) (λwd m=>hw wd (qB.mp m)) (BR hk hu) (.inl rfl) g1.ok) λq k2 p2 P g2=>?_
 have g:=g1.app g2
 rw [GL] at g
 have uC:q.pl=aG.any λwd=>i7 wd.1:=by rw [P.pl,wx];rfl
 have pJ:q.rm=aG.any λwd=>fH wd.1:=by rw [P.rm,wx];rfl
 refine iZ (UX hk hu P.mem) λr hr e1 e2 bB=>xA bB λe3 e4=>?_
 have nL:=vJ hk hn hw (ik:=ik)
 have yn:jK num aG .none∈jI:=by
  unfold jK
  split
  .exact .tail _ (cF.mpr ⟨num,hn,rfl⟩)
  .exact .head _
 rw [<-uC,<-pJ,<-e3]
 have lk:=P.kl
 have lp:=P.p
 rw [ez] at lk lp
 refine ZI aV h nL (k:=k1+k2) (p:=0+p2) ?_ hr yn ?_ (An nL (B8 h)) (by lia) (by lia) ?_ ?_
 .unfold cY bD
  rw [fy,cZ,dZ,cZ]
  exact hf
 .rw [LS]
  have:=g.ch (gf (bD aG))
  unfold sT jr fE at this
  rw [<-e1,<-e2] at this
  exact this
 .have:=g.ok
  rw [e1,e2]
  exact⟨this.1,this.2.1⟩
 .intro e
  refine e4 ?_
  rw [pJ]
  unfold gf at e
  have e:=(aN.mp e).2
  unfold bD at e
  rw [Cp] at e
  cases J:aG.any λwd=>fH wd.1 with
  |false=>rfl
  |true=>
   have e:(!(aG.any λwd=>fH wd.1))=true:=e
   rw [J] at e;nomatch e
end
structure mi where
 gs:G D
 tl:G D
 tu:G D
 k:H
 R:G (G D)
 lf:G D
 yJ:G D
 yL:G D
noncomputable def Iq(k f:H):H:=@nZ (λ_=>H) f (λ_=>cX) k
noncomputable def Om(f:H)(aY:G D)(d:ah)(r:mi):aa Lz:=Nd WS 60 gw dK.1 dK.2 (stH (Iq r.k f) (app r.gs aY) [] (side 1 r.tl r.tu d) (.tok 2))
noncomputable def Lq(f:H)(aY:G D)(d:ah)(r:mi):aa Lz:=some ⟨⟨false,.fuel f,app r.lf aY,side 1 r.yJ r.yL d,.tok 2,iA r.R⟩,mapA (λe=>app e aY) r.R⟩
noncomputable def tM:G mi:=[
 ⟨[sub aF af,sub aF ak],[af,aF],[ak,af],2,[[sub aF aC,sub aF ak]],[sub aF ak],[af,aF],[ak,af]⟩,
 ⟨[sub aF af,sub aF aK],[af,aF],[aK,af],2,[[sub aF aC,sub aF aK]],[sub aF aK],[af,aF],[aK,af]⟩,
 ⟨[sub ai af,sub af vT,sub aF vT],[ai],[ak,af],10,[[sub aF aC,sub aF ak],[sub ai aC,sub af vT,sub aF vT]],[sub aF ak],[ai,af,aF],[ak,af]⟩,
 ⟨[sub ai af,sub af vT,sub aF vT],[ai],[aK,af],10,[[sub aF aC,sub aF aK],[sub ai aC,sub af vT,sub aF vT]],[sub aF aK],[ai,af,aF],[aK,af]⟩,
 ⟨[sub ai af,sub ai ak,sub aF vT],[af,ai],[ak,af],6,[[sub aF aC,sub aF ak],[sub ai aC,sub ai ak,sub aF vT]],[sub aF ak],[af,ai,aF],[ak,af]⟩,
 ⟨[sub ai af,sub ai aK,sub aF vT],[af,ai],[aK,af],6,[[sub aF aC,sub aF aK],[sub ai aC,sub ai aK,sub aF vT]],[sub aF aK],[af,ai,aF],[aK,af]⟩,
 ⟨[sub ai af,sub aF (arr vT (num 1))],[af,ai],[af],3,[[sub ai aC,sub aF (arr vT (num 1))]],[],[af,ai],[af]⟩,
 ⟨[sub ai af,sub ai ak,sub aF (arr vT (num 1))],[af,ai],[ak,af],4,[[sub ai aC,sub ai ak,sub aF (arr vT (num 1))]],[],[af,ai],[ak,af]⟩,
 ⟨[sub ai af,sub ai aK,sub aF (arr vT (num 1))],[af,ai],[aK,af],4,[[sub ai aC,sub ai aK,sub aF (arr vT (num 1))]],[],[af,ai],[aK,af]⟩,
 ⟨[sub ai af,sub af vT,sub aF (arr vT (num 1))],[ai],[af],5,[[sub ai aC,sub af vT,sub aF (arr vT (num 1))]],[],[ai,af],[af]⟩,
 ⟨[sub ai af,sub af vT,sub aF (arr vT (num 1))],[ai],[ak,af],8,[[sub ai aC,sub af vT,sub aF (arr vT (num 1))]],[],[ai,af],[ak,af]⟩,
 ⟨[sub ai af,sub af vT,sub aF (arr vT (num 1))],[ai],[aK,af],8,[[sub ai aC,sub af vT,sub aF (arr vT (num 1))]],[],[ai,af],[aK,af]⟩,
 ⟨[sub ai af,sub aF (arr vT vN)],[af,ai],[af],3,[[sub ai aC,sub aF (arr vT vN)]],[],[af,ai],[af]⟩,
 ⟨[sub ai af,sub ai ak,sub aF (arr vT vN)],[af,ai],[ak,af],4,[[sub ai aC,sub ai ak,sub aF (arr vT vN)]],[],[af,ai],[ak,af]⟩,
 ⟨[sub ai af,sub ai aK,sub aF (arr vT vN)],[af,ai],[aK,af],4,[[sub ai aC,sub ai aK,sub aF (arr vT vN)]],[],[af,ai],[aK,af]⟩,
 ⟨[sub ai af,sub af vT,sub aF (arr vT vN)],[ai],[af],5,[[sub ai aC,sub af vT,sub aF (arr vT vN)]],[],[ai,af],[af]⟩,
 ⟨[sub ai af,sub af vT,sub aF (arr vT vN)],[ai],[ak,af],8,[[sub ai aC,sub af vT,sub aF (arr vT vN)]],[],[ai,af],[ak,af]⟩,
 ⟨[sub ai af,sub af vT,sub aF (arr vT vN)],[ai],[aK,af],8,[[sub ai aC,sub af vT,sub aF (arr vT vN)]],[],[ai,af],[aK,af]⟩,
 ⟨[sub ai af,sub aF ak],[af,ai],[af],3,[[sub ai aC,sub aF ak]],[],[af,ai],[af]⟩,
 ⟨[sub ai af,sub ai ak,sub aF ak],[af,ai],[ak,af],4,[[sub ai aC,sub ai ak,sub aF ak]],[],[af,ai],[ak,af]⟩,
 ⟨[sub ai af,sub ai aK,sub aF ak],[af,ai],[aK,af],4,[[sub ai aC,sub ai aK,sub aF ak]],[],[af,ai],[aK,af]⟩,
 ⟨[sub ai af,sub af vT,sub aF ak],[ai],[af],5,[[sub ai aC,sub af vT,sub aF ak]],[],[ai,af],[af]⟩,
 ⟨[sub ai af,sub af vT,sub aF ak],[ai],[ak,af],8,[[sub ai aC,sub af vT,sub aF ak]],[],[ai,af],[ak,af]⟩,
 ⟨[sub ai af,sub af vT,sub aF ak],[ai],[aK,af],8,[[sub ai aC,sub af vT,sub aF ak]],[],[ai,af],[aK,af]⟩,
 ⟨[sub ai af,sub aF (gx vT)],[af,ai],[af],3,[[sub ai aC,sub aF (gx vT)]],[],[af,ai],[af]⟩,
 ⟨[sub ai af,sub ai ak,sub aF (gx vT)],[af,ai],[ak,af],4,[[sub ai aC,sub ai ak,sub aF (gx vT)]],[],[af,ai],[ak,af]⟩,
 ⟨[sub ai af,sub ai aK,sub aF (gx vT)],[af,ai],[aK,af],4,[[sub ai aC,sub ai aK,sub aF (gx vT)]],[],[af,ai],[aK,af]⟩,
 ⟨[sub ai af,sub af vT,sub aF (gx vT)],[ai],[af],5,[[sub ai aC,sub af vT,sub aF (gx vT)]],[],[ai,af],[af]⟩,
 ⟨[sub ai af,sub af vT,sub aF (gx vT)],[ai],[ak,af],8,[[sub ai aC,sub af vT,sub aF (gx vT)]],[],[ai,af],[ak,af]⟩,
 ⟨[sub ai af,sub af vT,sub aF (gx vT)],[ai],[aK,af],8,[[sub ai aC,sub af vT,sub aF (gx vT)]],[],[ai,af],[aK,af]⟩,
 ⟨[sub ai af,sub aF (gP vT aC)],[af,ai],[af],3,[[sub ai aC,sub aF (gP vT aC)]],[],[af,ai],[af]⟩,
 ⟨[sub ai af,sub ai ak,sub aF (gP vT aC)],[af,ai],[ak,af],4,[[sub ai aC,sub ai ak,sub aF (gP vT aC)]],[],[af,ai],[ak,af]⟩,
 ⟨[sub ai af,sub ai aK,sub aF (gP vT aC)],[af,ai],[aK,af],4,[[sub ai aC,sub ai aK,sub aF (gP vT aC)]],[],[af,ai],[aK,af]⟩,
 ⟨[sub ai af,sub af vT,sub aF (gP vT aC)],[ai],[af],5,[[sub ai aC,sub af vT,sub aF (gP vT aC)]],[],[ai,af],[af]⟩,
 ⟨[sub ai af,sub af vT,sub aF (gP vT aC)],[ai],[ak,af],8,[[sub ai aC,sub af vT,sub aF (gP vT aC)]],[],[ai,af],[ak,af]⟩,
 ⟨[sub ai af,sub af vT,sub aF (gP vT aC)],[ai],[aK,af],8,[[sub ai aC,sub af vT,sub aF (gP vT aC)]],[],[ai,af],[aK,af]⟩]
theorem aeI(f:H)(aY:G D)(d:ah):tM.map (Om f aY d)=tM.map (Lq f aY d):=by kernel_rfl
noncomputable def xb(a:G D):G D->aa (G D):=@b9 D (λ_=>G D->aa (G D)) (λB=>some B) (λx _ f B=>match B with
 |[]=>.none
 |y::B=>@bN (λ_=>aa (G D)) .none (f B) (eW x y)) a
noncomputable def findZ(B:G mi)(left:G D)(s:Sg):aa (mi×G D):=@b9 mi (λ_=>aa (mi×G D)) .none (λr _ O=>@bN (λ_=>aa (mi×G D)) O (match xb r.gs left with
 |some aY=>some (r,aY)
 |.none=>O) (cT r.tl s.tl&&cT r.tu s.tu)) B
structure uk where
 k:H
 R:G (G D)
 left:G D
 s:Sg
noncomputable def uq(n:H):G D->Sg->aa uk:=@nZ (λ_=>G D->Sg->aa uk) (λ_ _=>.none) (λ_ O B s=>match B with
 |[]=>.none
 |g::aY=>match findZ tM (g::aY) s with
  |some q=>some ⟨q.1.k,mapA (λe=>app e q.2) q.1.R,app q.1.lf q.2,⟨q.1.yJ,q.1.yL,s.nl,s.nu⟩⟩
  |.none=>match qO oY g s with
   |some r=>match bA r.p 0 with
    |true=>match r.fl with
     |true=>match O (app r.subs aY) (jn r s) with
      |some E=>some ⟨cX E.k,E.R,E.left,E.s⟩
      |.none=>.none
     |false=>some ⟨1,[],app r.subs aY,jn r s⟩
    |false=>.none
   |.none=>.none) n
noncomputable def pN(g:D)(B:G D):ah:=match B with
 |a::_=>eW g a
 |[]=>false
noncomputable def Lm(R:G (G D)):ah:=match R with
 |[]=>true
 |e::R=>match R with
  |[]=>pN (sub ai aC) e||pN (sub aF aC) e
  |e'::R=>match R with
   |[]=>pN (sub aF aC) e&&pN (sub ai aC) e'
   |_=>false
noncomputable def af2(kb:H)(E:uk):ah:=eB E.k kb&&Lm E.R&&allB bE E.left&&eB E.left.length 20&&allB (λe=>allB bE e&&eB e.length 20) E.R
noncomputable def vw(kb:H)(Wh:G D)(s:Sg):ah:=match uq 50 Wh s with
 |some E=>af2 kb E
 |.none=>false
noncomputable def aaq(k u:H):ah:=allB (λq=>allB (λon=>allB (λw=>vw 14 [sub aF (eX w)] ⟨q.lo,q.up,gu on,gu on⟩) [1,2,3,4,5]) jI) (jd k u)
noncomputable def aas(k u:H):ah:=allB (λq=>(bA k 3&&q.pl&&q.rm)||allB (λon=>vw 14 [sub aF vT] ⟨q.lo,q.up,gu on,gu on⟩) jI) (jd k u)
noncomputable def B3(u:H):G D:=match u with
 |0=>[]
 |1=>[ak]
 |_=>[aK]
noncomputable def vA(u a b num:H)(g:D):ah:=vw 45 [iI 3 num a false,iI 3 num b false,g] ⟨[],B3 u,[],[]⟩
noncomputable def aau(u:H):ah:=allB (λpl=>allB (λrm=>allB (λnum=>allB (λw=>vA u pl rm num (sub aF (eX w))&&vA u rm pl num (sub aF (eX w))) [1,2,3,4,5]) [1,2,3]) [1,2,4]) [0,5]
noncomputable def aaw(u:H):ah:=allB (λrm=>allB (λnum=>vA u 5 rm num (sub aF vT)&&vA u rm 5 num (sub aF vT)) [1,2,3]) [1,2,4]
noncomputable def hW(k i:H):Sg:=match i with
 |0=>⟨[aF],[],[],[]⟩
 |1=>⟨[hU k,aF],[],[],[]⟩
 |_=>⟨[aF,hU k],[],[],[]⟩
noncomputable def vB(i w:H):H:=match w with
 |3=>i
 |_=>match i with
  |0=>2
  |i=>i
noncomputable def ac6(a b:Sg):ah:=cT a.tl b.tl&&cT a.tu b.tu&&cT a.nl b.nl&&cT a.nu b.nu
noncomputable def qY(s:Sg)(g:D)(s':Sg):ah:=match m8 16 [g] s with
 |some E=>E.fl&&eB E.k 14&&eB E.p 0&&ac6 E.s s'
 |.none=>false
noncomputable def YE(k:H):ah:=qY ⟨[],[],[],[]⟩ (sub aF vT) (hW k 0)&&qY ⟨[hU k],[],[],[]⟩ (sub aF vT) (hW k 1)&&allB (λi=>allB (λwd=>qY (hW k i) (iI k 1 wd.1 wd.2) (hW k (vB i wd.1))) [(0,false),(3,false),(3,true),(5,false)]) [0,1,2]
noncomputable def HY:G rF:=[0,1,2,3].flatMap λk=>[1,2].map λi=>⟨(hW k i).tl,[],.none,false⟩
theorem aar:allB (λk=>allB (λu=>aaq k u) [0,1,2]) [0,1,2,3]=true:=by kernel_rfl
theorem aat:allB (λk=>allB (λu=>aas k u) [1,2]) [0,1,2,3]=true:=by kernel_rfl
theorem aav:allB aau [0,1,2]=true:=by kernel_rfl
theorem aax:allB aaw [1,2]=true:=by kernel_rfl
theorem YF:allB YE [0,1,2,3]=true:=by kernel_rfl
theorem aeu(f:H)(wr:G D):HY.map (vW true f wr)=HY.map (uH true f wr):=by kernel_rfl
theorem TZ:∀{B aY:G D},xb a B=some aY->B=a++aY:=by
 induction a with
 |nil=>exact λe=>aM e
 |cons x a O=>
  intro B aY e
  cases B with
  |nil=>exact aB e
  |cons y B=>
   have e':@bN (λ_=>aa (G D)) .none (xb a B) (eW x y)=some aY:=e
   generalize J:eW x y=ax at e'
   cases ax with
   |false=>exact aB e'
   |true=>
    rw [O e',iK J];rfl
structure I3(r:mi)(B:G mi)(left aY:G D)(s:Sg):Prop where
 mem:r∈B
 left:left=r.gs++aY
 tl:r.tl=s.tl
 tu:r.tu=s.tu
theorem Vz(e:findZ B left s=some q):I3 q.1 B left q.2 s:=by
 induction B with
 |nil=>exact aB e
 |cons r B O=>
  have e':@bN (λ_=>aa (mi×G D)) (findZ B left s) (match xb r.gs left with
   |some aY=>some (r,aY)
   |.none=>findZ B left s) (cT r.tl s.tl&&cT r.tu s.tu)=some q:=e
  have go:findZ B left s=some q->I3 q.1 (r::B) left q.2 s:=λh=>⟨.tail _ (O h).mem,(O h).left,(O h).tl,(O h).tu⟩
  cases J:cT r.tl s.tl&&cT r.tu s.tu with
  |false=>rw [J] at e';exact go e'
  |true=>
   rw [J] at e'
   generalize h:xb r.gs left=ax at e'
   cases ax with
   |none=>exact go e'
   |some aY=>
    have e':=aM e'
    rw [<-e']
    have J:=aN.mp J
    exact⟨.head _,TZ h,eu J.1,eu J.2⟩
theorem ae9(k f:H):Iq k f=f+k:=by
 induction k with
 |zero=>rfl
 |succ k O=>show cX (Iq k f)=_;rw [O];rfl
noncomputable def ab6(r:mi):ah:=allB bE r.lf&&eB r.lf.length 6&&allB (λe=>allB bE e&&eB e.length 6) r.R&&eB r.R.length 2&&allB bE r.yJ&&allB bE r.yL
theorem aeJ:allB ab6 tM=true:=by kernel_rfl
theorem acG(h:r∈tM)(d:ah):CW WS 60 gw dK.1 dK.2 r.gs (side 1 r.tl r.tu d) (.tok 2) r.k r.R r.lf (side 1 r.yJ r.yL d) (.tok 2):=λf aY=>by
 have e:=fU (aeI f aY d) r h
 unfold Om Lq at e
 rw [gM,ae9,gM,nE,pY] at e
 simp only [gM] at e
 exact e
theorem Sz:∀{left:G D} {s:Sg} {E:uk},i4 s->uq n left s=some E->(∀d,Chain WS 60 gw dK.1 dK.2 left (sT s d) (jr s) E.k 0 (.bad E.R E.left (sT E.s d) (jr E.s)))/\i4 E.s:=by
 induction n with
 |zero=>exact λ_ e=>aB e
 |succ n O=>
  intro left s E hs e
  cases left with
  |nil=>exact aB e
  |cons g aY=>
  have e':(match findZ tM (g::aY) s with
   |some q=>some ⟨q.1.k,mapA (λe=>app e q.2) q.1.R,app q.1.lf q.2,⟨q.1.yJ,q.1.yL,s.nl,s.nu⟩⟩
   |.none=>match qO oY g s with
    |some r=>match bA r.p 0 with
     |true=>match r.fl with
      |true=>match uq n (app r.subs aY) (jn r s) with
       |some E=>some ⟨cX E.k,E.R,E.left,E.s⟩
       |.none=>.none
      |false=>some (⟨1,[],app r.subs aY,jn r s⟩:uk)
     |false=>.none
    |.none=>.none)=some E:=e
  clear e
  generalize hz:findZ tM (g::aY) s=ax at e'
  cases ax with
  |some q=>
   have e':=aM e'
   subst e'
   have F:=Vz hz
   refine xA (aN.mp (b7 aeJ q.1 F.mem)) λP p6=>?_
   refine xA (aN.mp P) λP p5=>?_
   refine xA (aN.mp P) λP p4=>?_
   refine xA (aN.mp P) λP p3=>?_
   have P:=aN.mp P
   refine⟨λd=>?_,p5,p6,hs.2.2.1,hs.2.2.2⟩
   refine(?_:Chain WS 60 gw dK.1 dK.2 (g::aY) (sT s d) (jr s) q.1.k 0 (.bad (mapA (λe=>app e q.2) q.1.R) (app q.1.lf q.2) _ _))
   rw [F.left,gM,pY,show(λe=>app e q.2)=λe=>e++q.2 from funext λe=>gM e q.2]
   exact Chain.last (aY:=q.2) (x:=sT s d) (y:=jr s) (acG F.mem d) (.inl (by rw [F.tl,F.tu];rfl)) (.inr rfl) (.inl (aN.mp (js (E:=1) (d:=d) p5 p6)).1) (.inr rfl) (pz P.1) (dw P.2)
    (λe he=>⟨pz (aN.mp (b7 p3 e he)).1,dw (aN.mp (b7 p3 e he)).2⟩) (dw p4)
  |none=>
   clear hz
   generalize hr:qO oY g s=ax at e'
   cases ax with
   |none=>exact aB e'
   |some r=>
    refine eN (LA hr) λhm aI h1 h2=>?_;subst aI
    clear hr
    have hp:=Oi hm
    have hn:=OB hp hs
    refine xA (aN.mp (hp:(allB bE r.subs&&eB r.subs.length 6&&nM r.lU&&nM r.lR)=true)) λgU p4=>?_
    refine xA (aN.mp gU) λgU p3=>?_
    refine xA (aN.mp gU) λp1 p2=>?_
    have p2:=dw p2
    have cS:∀d,Row WS 60 gw dK.1 dK.2 r.g (qk r.sT d) (qj r.sN) r.fl r.subs (qk r.lU d) (qj r.lR) r.p:=λd f aY wr=>O9 hm f aY wr d
    have lT:=λd=>NB (s:=s) (d:=d) p3
    refine xA (NA (s:=s) p4) λlN uN=>?_
    dsimp only at e'
    generalize h0:bA r.p 0=ax at e'
    cases ax with
    |false=>exact aB e'
    |true=>
     rw [dU h0] at cS
     dsimp only at e'
     generalize hf:r.fl=ax at e' cS
     cases ax with
     |true=>
      have e':(match uq n (app r.subs aY) (jn r s) with
       |some E=>some (⟨cX E.k,E.R,E.left,E.s⟩:uk)
       |.none=>.none)=some E:=e'
      rw [gM] at e'
      generalize ha:uq n (r.subs++aY) (jn r s)=ax at e'
      cases ax with
      |none=>exact aB e'
      |some o'=>
       rw [<-aM e']
       refine xA (O hn ha) λch so=>?_
       refine⟨λd=>.turn (p:=0) (q:=0) (cS d) (BE h1) (BD h2) (lT d).1 lN (pz p1) p2 ?_ ?_ ?_,so⟩
       .rw [(lT d).2];exact js hn.1 hn.2.1
       .rw [uN];exact js hn.2.2.1 hn.2.2.2
       .rw [(lT d).2,uN];exact ch d
     |false=>
      obtain rfl:=aM e'
      refine⟨λd=>?_,hn⟩
      have:=Chain.fail (aY:=aY) (cS d) (BE h1) (BD h2) (lT d).1 lN (pz p1) p2
      rw [(lT d).2,uN,<-gM] at this
      exact this
theorem Chain.more(aY:G D)(h:Chain W n sc t bd B x y k p E):∀{R:G (G D)} {left:G D} {x' y':D},E=.bad R left x' y'->Chain W n sc t bd (B++aY) x y k p (.bad (R.map λe=>e++aY) (left++aY) x' y'):=by
 induction h with
 |done=>intro _ _ _ _ e;nomatch e
 |turn cS s1 s2 l1 l2 pl ls o1 o2 ch O=>
  intro R left x' y' e
  have:=O e
  rw [l_] at this
  exact .turn cS s1 s2 l1 l2 pl ls o1 o2 this
 |fail cS s1 s2 l1 l2 pl ls=>
  intro R left x' y' e
  injection e with e1 e2 e3 e4
  subst e1 e2 e3 e4
  rw [l_]
  exact .fail cS s1 s2 l1 l2 pl ls
 |@last gs Bw lf Ll _ _ _ _ _ _ _ cS s1 s2 l1 l2 pl ls pe le=>
  intro R left x' y' e
  injection e with e1 e2 e3 e4
  subst e1 e2 e3 e4
  have:=Chain.last (aY:=Bw++aY) cS s1 s2 l1 l2 pl ls pe le
  rw [l_,l_,zj]
  have e5:Ll.map ((λe=>e++aY)∘λe=>e++Bw)=Ll.map λe=>e++(Bw++aY):=QS λe _=>l_ e Bw aY
  rw [e5]
  exact this
noncomputable def o7(R:G (G D)):Prop:=R=[]\/(∃ag,R=[sub ai aC::ag])\/(∃ag,R=[sub aF aC::ag])\/∃ag R',R=[sub aF aC::ag,sub ai aC::R']
theorem o7.call(h:o7 R):mr false R LB 0=some .none:=
 h.elim (λe=>e▸Dz LB) λh=>h.elim (λh=>h.elim λag e=>e▸Tt LB ag) λh=>h.elim (λh=>h.elim λag e=>e▸Tu LB ag) λh=>h.elim λag h=>h.elim λR' e=>e▸Tv LB ag R'
theorem o7.more(aY:G D)(h:o7 R):o7 (R.map λe=>e++aY):=
 h.imp (cq (Cu (· ++aY))) (Or.imp (λ⟨ag,e⟩=>⟨ag++aY,cq (Cu (· ++aY)) e⟩) (Or.imp (λ⟨ag,e⟩=>⟨ag++aY,cq (Cu (· ++aY)) e⟩) λ⟨ag,R',e⟩=>⟨ag++aY,R'++aY,cq (Cu (· ++aY)) e⟩))
theorem o7.len:o7 R->R.length<=2
 |.inl e=>by rw [e];exact gA _
 |.inr (.inl ⟨ag,e⟩)=>by rw [e];exact ue 1
 |.inr (.inr (.inl ⟨ag,e⟩))=>by rw [e];exact ue 1
 |.inr (.inr (.inr ⟨ag,R',e⟩))=>by rw [e];exact fG 2
theorem As(e:pN g B=true):∃ag,B=g::ag:=by
 cases B with
 |nil=>exact bz e
 |cons a B=>exact⟨B,by rw [<-iK (e:eW g a=true)]⟩
theorem Ve(h:Lm R=true):o7 R:=by
 cases R with
 |nil=>exact .inl rfl
 |cons e R=>
  cases R with
  |nil=>
   exact .inr ((k_.mp (h:(pN (sub ai aC) e||pN (sub aF aC) e)=true)).imp (λh=>(As h).imp λag h=>cq (λe=>[e]) h) λh=>.inl ((As h).imp λag h=>cq (λe=>[e]) h))
  |cons e' R=>
   cases R with
   |nil=>
    have h:=aN.mp (h:(pN (sub aF aC) e&&pN (sub ai aC) e')=true)
    exact .inr (.inr (.inr ((As h.1).imp λag h1=>(As h.2).imp λR' h2=>by rw [h1,h2])))
   |cons=>exact bz h
structure yY(B:G D)(s:Sg)(kk:H)(R:G (G D))(left:G D)(s':Sg):Prop where
 ok:i4 s'
 ch:∀d,Chain WS 60 gw dK.1 dK.2 B (sT s d) (jr s) kk 0 (.bad R left (sT s' d) (jr s'))
 eo:o7 R
 pl:∀m∈left,bC m=true
 ll:left.length<=30
 pe:∀e∈R,(∀m∈e,bC m=true)/\e.length<=30
noncomputable def IX(B:G D)(s:Sg)(kk:H):Prop:=∃k R left s',k<=kk/\yY B s k R left s'/\left.length<=20/\∀e∈R,e.length<=20
theorem Nx(hs:i4 s)(h:vw kb B s=true):IX B s kb:=by
 unfold vw at h
 generalize e:uq 50 B s=ax at h
 cases ax with
 |none=>nomatch h
 |some E=>
  refine xA (aN.mp h) λh h5=>?_
  refine xA (aN.mp h) λh h4=>?_
  refine xA (aN.mp h) λh h3=>?_
  refine xA (aN.mp h) λh1 h2=>?_
  refine xA (Sz hs e) λch so=>?_
  have z:∀e∈E.R,(∀m∈e,bC m=true)/\e.length<=20:=λe he=>by
   refine xA (aN.mp (b7 h5 e he)) λz1 z2=>?_
   exact⟨pz z1,dw z2⟩
  have l4:E.left.length<=20:=dw h4
  exact⟨E.k,E.R,E.left,E.s,dw h1,⟨so,ch,Ve h2,pz h3,by exact dQ (by assumption) (by decide),λe he=>⟨(z e he).1,by have:=(z e he).2;exact dQ (by assumption) (by decide)⟩⟩,l4,λe he=>(z e he).2⟩
theorem Got.bad(hr:∀m∈aY,bC m=true)(lr:aY.length<=10)(g:Got B s s2 k 0)(b:IX l' s2 kk):∃k' R left s',k'<=k+kk/\yY (B++(l'++aY)) s k' R left s':=by
 refine gJ b λk' R bB=>eK bB λleft s' hk b l1 l2=>?_
 refine⟨k+k',R.map λe=>e++aY,left++aY,s',by lia,b.ok,λd=>?_,b.eo.more aY,λm hm=>(dI.mp hm).elim (b.pl m) (hr m),by rw [fy];lia,λe he=>?_⟩
 .have:=(g.ch d).append rfl ((b.ch d).more aY rfl)
  rw [uh] at this
  exact this
 .refine ay (cF.mp he) λe0 h0 aE=>?_;subst aE
  have:=l2 e0 h0
  exact⟨λm hm=>(dI.mp hm).elim ((b.pe e0 h0).1 m) (hr m),by rw [fy];lia⟩
noncomputable def jc(k num:H)(l1 l2:G (H×ah)):G D:=l1.map (λwd=>qc k num wd.1 wd.2)++aF::l2.map λwd=>qc k num wd.1 wd.2
theorem EB(k num:H)(l1 l2:G (H×ah))(wd:H×ah):jE (jc k num l1 l2) ((bD (l1++wd::l2)).map eX)=i6 k num l2.reverse++([sub aF (eX wd.1)]++i6 k num l1.reverse):=by
 have e:=LR (jc k num l1 l2) ((bD (l1++wd::l2)).map eX) [] (by unfold jc bD;simp only [fy,cZ,iQ])
 rw [h_] at e
 rw [e]
 have e2:CB sub (jc k num l1 l2) ((bD (l1++wd::l2)).map eX)=i6 k num l1++(sub aF (eX wd.1)::i6 k num l2):=by
  rw [<-IM,<-IM]
  unfold jc bD
  rw [rN,rN,lj,lj,List.zipWith_append (by simp only [cZ])]
  rfl
 rw [e2,zk,rP,l_]
 unfold i6
 rw [Cy,Cy]
 rfl
theorem Hg{k num:H}(hk:k<4)(hn:num∈[1,2,3])(hw:∀x∈l1++wd::l2,x.1∈six):∀p∈jc k num l1 l2,p∈hH:=λp hp=>by
 have one:∀{B:G (H×ah)},(∀x∈B,x.1∈six)->∀p∈B.map (λwd=>qc k num wd.1 wd.2),p∈hH:=λhl p hp=>by
  refine ay (cF.mp hp) λx m aE=>?_;rw [<-aE]
  exact N2 hk hn (hl x m)
 refine dC (dI.mp hp) (λh=>?_) λh=>?_
 .exact one (λx m=>hw x (iR _ m)) p h
 .refine dC (bY.mp h) (λrf=>?_) λh=>?_
  .rw [rf];exact .tail _ (.tail _ (.tail _ (.tail _ (.head _))))
  .exact one (λx m=>hw x (fC _ (.tail _ m))) p h
theorem MG(h:i7 w=true):w∈[0,5]:=(k_.mp h).elim (λh=>dU h▸.head _) λh=>dU h▸.tail _ (.head _)
theorem Fh(h:fH w=true):w∈[1,2,4]:=(k_.mp h).elim (λh=>dU h▸.head _) λh=>(k_.mp h).elim (λh=>dU h▸.tail _ (.head _)) λh=>dU h▸.tail _ (.tail _ (.head _))
theorem LP{k num w:H}(h:w≠3)(d:ah):iI k num w d=iI k num w false:=by
 match w,h with
 |0,_|1,_|2,_|4,_|5,_=>rfl
 |w+6,_=>rfl
theorem ae3{B:G (H×ah)}(hl:B.length<=2)(h:(B.any λwd=>i7 wd.1)=true)(h2:(B.any λwd=>fH wd.1)=true):∃a b,B=[a,b]/\((a.1∈[0,5]/\b.1∈[1,2,4])\/(a.1∈[1,2,4]/\b.1∈[0,5])):=by
 have no:∀w∈[1,2,4],i7 w=false:=by decide
 cases B with
 |nil=>exact bz h
 |cons a B=>
  rw [qy] at h h2
  cases B with
  |nil=>
   rw [QA,qr] at h h2
   exact bz ((no _ (Fh h2)).symm.trans h)
  |cons b B=>
   cases B with
   |nil=>
    rw [qy,QA,qr] at h h2
    refine⟨a,b,rfl,(k_.mp h2).elim (λh2=>.inr ?_) λh2=>.inl ?_⟩
    .have h2:=Fh h2
     rw [no _ h2,Cf] at h
     exact⟨h2,MG h⟩
    .have h2:=Fh h2
     rw [no _ h2,qr] at h
     exact⟨MG h,h2⟩
   |cons=>exact bP hl (Ro (zq (zq (ug _))))
theorem ne3(h:w∈[0,5]\/w∈[1,2,4]):w≠3:=by rintro rfl;exact bP h (by decide)
section
variable{c:a_}{w:dF}{I:aP}{K:b8}{mg mb:ar->aa aw}
theorem Nl(aV:Base c w K cz I mg mb)(h:ws∈dq)(hp:∀p∈ps,p∈hH)(hf:(ps.length,ws.length,t)∈fits)(hk:k'<60)
  (b:yY (jE ps (ws.map eX)) (fE (rj u) .none) k' R left s'):kh c w I aH 180 (oneOf ps) (dk (cC u) (cD (c_ ws t))) .none:=
 ZH aV h hp hf (b.ch (gf ws)) (An hp (B8 h)) hk (js b.ok.1 b.ok.2.1) (js b.ok.2.2.1 b.ok.2.2.2) (by have:=b.ll;exact dQ (by assumption) (by decide)) b.pl (λe he=>⟨(b.pe e he).1,by have:=(b.pe e he).2;exact dQ (by assumption) (by decide)⟩) b.eo.len b.eo.call
theorem ae_:B3 u=o6 u:=by unfold B3 o6;rfl
theorem Ny{k u num:H}(hk:k<4)(hu:u<3)(hn:num∈[1,2,3])(hw:∀x∈l2,x.1∈six)(YA:l2.length<=2)(hr:∀m∈aY,bC m=true)(lr:aY.length<=10)
  (h1:∀q∈jd k u,(bA k 3&&q.pl&&q.rm)=false->q.pl=(l2.any λwd=>i7 wd.1)->∀on∈jI,vw 14 [g] (fE q on)=true) (h2:k=3->∀a b:H×ah,l2=[a,b]->(a.1∈[0,5]/\b.1∈[1,2,4])\/(a.1∈[1,2,4]/\b.1∈[0,5])->vA u b.1 a.1 num g=true):
  ∃k' R left s',k'<60/\yY (i6 k num l2.reverse++([g]++aY)) (fE (rj u) .none) k' R left s':=by
 refine dO (GY hk hu hn (B:=l2.reverse) (λwd m=>hw wd (qB.mp m)) (BR hk hu) (.inl rfl) (wX hu)) λq k2 p2 P g2=>?_
 rw [GL] at g2
 have uC:q.pl=l2.any λwd=>i7 wd.1:=by rw [P.pl,wx];rfl
 have pJ:q.rm=l2.any λwd=>fH wd.1:=by rw [P.rm,wx];rfl
 have yn:jK num l2 .none∈jI:=by
  unfold jK
  split
  .exact .tail _ (cF.mpr ⟨num,hn,rfl⟩)
  .exact .head _
 have lk:=P.kl
 rw [ez] at lk
 cases J:bA k 3&&q.pl&&q.rm with
 |false=>
  have p0:=P.p0 J
  subst p0
  refine gJ (g2.bad hr lr (Nx g2.ok (h1 q P.mem J uC _ yn))) λk' R bB=>jv bB λleft s' h3 b=>?_
  exact⟨k',R,left,s',by lia,b⟩
 |true=>
  refine xA (aN.mp J) λJ c3=>?_
  refine xA (aN.mp J) λc1 c2=>?_
  have k3:=dU c1
  subst k3
  refine jv (ae3 YA (uC▸c2) (pJ▸c3)) λa b aE ab=>?_;subst aE
  have h4:=h2 rfl a b rfl ab
  have e:i6 3 num [a,b].reverse++([g]++aY)=[]++([iI 3 num b.1 false,iI 3 num a.1 false,g]++aY):=by
   refine(?_:iI 3 num b.1 b.2::iI 3 num a.1 a.2::(g::aY)=_)
   have na:a.1≠3:=ne3 (ab.elim (λz=>.inl z.1) λz=>.inr z.1)
   have nb:b.1≠3:=ne3 (ab.elim (λz=>.inr z.2) λz=>.inl z.2)
   rw [LP na,LP nb];rfl
  rw [e]
  unfold vA at h4
  have st:(⟨[],B3 u,[],[]⟩:Sg)=fE (rj u) .none:=by rw [ae_];rfl
  rw [st] at h4
  have g0:Got [] (fE (rj u) .none) (fE (rj u) .none) 0 0:=⟨wX hu,λd=>.done⟩
  refine gJ (g0.bad hr lr (Nx (wX hu) h4)) λk' R bB=>jv bB λleft s' h3 b=>?_
  exact⟨k',R,left,s',by lia,b⟩
theorem r4(h:ws∈dq):ws.length<=3:=by
 have:allB (λws:G H=>eB ws.length 3) dq=true:=by decide+kernel
 exact dw (b7 this ws h)
theorem x_(hk:k<4):k∈[0,1,2,3]:=by rcases pX hk with rfl|rfl|rfl|rfl<;>decide
theorem Nn(hu:u<3):u∈[0,1,2]:=by rcases qZ hu with rfl|rfl|rfl<;>decide
theorem LQ{k num:H}(hk:k<4)(hn:num∈[1,2,3])(hw:∀x∈B,x.1∈six):∀z∈i6 k num B,bC z=true:=λz hz=>by
 have:=An (ps:=cY k num B 0) (ws:=(bD B).map eX) (vJ hk hn hw) (λq hq=>by
  refine ay (cF.mp hq) λw XB aE=>?_;rw [<-aE]
  refine ay (cF.mp XB) λx m aE=>?_;rw [<-aE]
  exact cF.mpr ⟨_,hw x m,rfl⟩)
 rw [LS] at this
 refine this z (fC _ ?_)
 unfold i6 at hz⊢
 rw [Cy]
 exact qB.mpr hz
theorem ZL(aV:Base c w K cz I mg mb){k u num:H}(hk:k<4)(hu:u<3)(hn:num∈[1,2,3])(h:bD (l1++wd::l2)∈dq)(h0:wd.1≠0)(hf:((jc k num l1 l2).length,(bD (l1++wd::l2)).length,t)∈fits):
  kh c w I aH 180 (oneOf (jc k num l1 l2)) (dk (cC u) (cD (c_ (bD (l1++wd::l2)) t))) .none:=by
 have hw:∀x∈l1++wd::l2,x.1∈six:=λx m=>lW h _ (cF.mpr ⟨x,m,rfl⟩)
 have len:(l1++wd::l2).length<=3:=by have:=r4 h;unfold bD at this;rw [cZ] at this;exact this
 rw [fy,iQ] at len
 have w5:wd.1∈[1,2,3,4,5]:=by
  have:=hw wd (fC _ (.head _))
  refine dC (bY.mp this) (λq=>?_) λq=>?_
  .exact bP q h0
  .exact q
 obtain⟨k',R,left,s',lC,b⟩:=Ny (g:=sub aF (eX wd.1)) (aY:=i6 k num l1.reverse) hk hu hn (l2:=l2) (λx m=>hw x (fC _ (.tail _ m))) (by lia) (LQ hk hn λx m=>hw x (iR _ (qB.mp m))) (by unfold i6;rw [cZ,ez];lia) (λq hq _ _ on ho=>b7 (b7 (b7 (b7 (b7 aar k (x_ hk)) u (Nn hu)) q hq) on ho) _ w5) (λ_ a b _ ab=>by
   have T:=b7 aav u (Nn hu)
   rcases ab with⟨ha,hb⟩|⟨ha,hb⟩
   .exact(aN.mp (b7 (b7 (b7 (b7 T a.1 ha) b.1 hb) num hn) wd.1 w5)).2
   .exact(aN.mp (b7 (b7 (b7 (b7 T b.1 hb) a.1 ha) num hn) wd.1 w5)).1)
 refine Nl (R:=R) (left:=left) (s':=s') aV h (Hg hk hn hw) hf lC ?_
 rw [EB]
 exact b
theorem ZM(aV:Base c w K cz I mg mb){k u num:H}(hk:k<4)(hu:u∈[1,2])(hn:num∈[1,2,3])(h:bD (l1++(0,d)::l2)∈dq)(h0:∀x∈l2,x.1≠0)(hf:((jc k num l1 l2).length,(bD (l1++(0,d)::l2)).length,t)∈fits):
  kh c w I aH 180 (oneOf (jc k num l1 l2)) (dk (cC u) (cD (c_ (bD (l1++(0,d)::l2)) t))) .none:=by
 have hw:∀x∈l1++(0,d)::l2,x.1∈six:=λx m=>lW h _ (cF.mpr ⟨x,m,rfl⟩)
 have Xw:u<3:=by revert u;decide
 have len:(l1++(0,d)::l2).length<=3:=by have:=r4 h;unfold bD at this;rw [cZ] at this;exact this
 rw [fy,iQ] at len
 have p5:∀x∈l2,x.1∈[0,5]->x.1=5:=λx m h=>by
  refine dC (bY.mp h) (λq=>?_) λq=>?_
  .exact bP q (h0 x m)
  .exact cA.mp q
 obtain⟨k',R,left,s',lC,b⟩:=Ny (g:=sub aF vT) (aY:=i6 k num l1.reverse) hk Xw hn (l2:=l2) (λx m=>hw x (fC _ (.tail _ m))) (by lia) (LQ hk hn λx m=>hw x (iR _ (qB.mp m))) (by unfold i6;rw [cZ,ez];lia) (λq hq J _ on ho=>by
   have:=b7 (b7 (b7 aat k (x_ hk)) u hu) q hq
   rw [J,Cf] at this
   exact b7 this on ho) (λ_ a b e ab=>by
   have T:=b7 aax u hu
   have ma:a∈l2:=by rw [e];exact .head _
   have mb:b∈l2:=by rw [e];exact .tail _ (.head _)
   rcases ab with⟨ha,hb⟩|⟨ha,hb⟩
   .rw [p5 a ma ha]
    exact(aN.mp (b7 (b7 T b.1 hb) num hn)).2
   .rw [p5 b mb hb]
    exact(aN.mp (b7 (b7 T a.1 ha) num hn)).1)
 refine Nl (R:=R) (left:=left) (s':=s') aV h (Hg hk hn hw) hf lC ?_
 rw [EB]
 exact b
theorem vc(hs:i4 s)(h:qY s g s'=true):∃kk,kk<=14/\Got [g] s s' kk 0:=by
 unfold qY at h
 generalize e:m8 16 [g] s=ax at h
 cases ax with
 |none=>nomatch h
 |some E=>
  refine xA (aN.mp h) λh h4=>?_
  refine xA (aN.mp h) λh h3=>?_
  refine xA (aN.mp h) λh1 h2=>?_
  refine xA (aN.mp (h4:(cT E.s.tl s'.tl&&cT E.s.tu s'.tu&&cT E.s.nl s'.nl&&cT E.s.nu s'.nu)=true)) λh4 z4=>?_
  refine xA (aN.mp h4) λh4 z3=>?_
  refine xA (aN.mp h4) λz1 z2=>?_
  have g:=Got.of hs e h1
  have R:E.s=s':=Hz (eu z1) (eu z2) (eu z3) (eu z4)
  rw [R,Jw.mp (dw h3)] at g
  exact⟨E.k,dw h2,g⟩
theorem FO(hk:k<4):qY ⟨[],[],[],[]⟩ (sub aF vT) (hW k 0)=true/\qY ⟨[hU k],[],[],[]⟩ (sub aF vT) (hW k 1)=true/\∀i∈[0,1,2],∀wd∈[(0,false),(3,false),(3,true),(5,false)],qY (hW k i) (iI k 1 wd.1 wd.2) (hW k (vB i wd.1))=true:=by
 have h:=b7 YF k (x_ hk)
 refine xA (aN.mp h) λh h3=>?_
 refine xA (aN.mp h) λh1 h2=>?_
 exact⟨h1,h2,λi hi wd hd=>b7 (b7 h3 i hi) wd hd⟩
theorem YG{k num:H}(hk:k<4):(∀wd∈B,wd.1∈[0,3,5])->∀{i:H},i∈[0,1,2]->i4 (hW k i)->∃i' kk,i'∈[0,1,2]/\kk<=14*B.length/\(i≠0->i'≠0)/\(∀wd∈B,wd.1=0->i'≠0)/\Got (i6 k num B) (hW k i) (hW k i') kk 0:=by
 induction B with
 |nil=>exact λ_ i hi hs=>⟨i,0,hi,fG _,λh=>h,(λ_ m=>nomatch m),hs,λd=>.done⟩
 |cons wd B O=>
  obtain⟨w,d⟩:=wd
  intro hl i hi hs
  have hw:w∈[0,3,5]:=hl _ (.head _)
  have st:∃kk,kk<=14/\Got [iI k num w d] (hW k i) (hW k (vB i w)) kk 0:=by
   have T:=(FO hk).2.2 i hi
   simp only [bY,eP,gF] at hw
   rcases hw with rfl|rfl|rfl
   .exact vc hs (T (0,false) (by decide))
   .cases d
    .exact vc hs (T (3,false) (by decide))
    .exact vc hs (T (3,true) (by decide))
   .exact vc hs (T (5,false) (by decide))
  refine ay st λk1 l1 g1=>?_
  have xF:=(by decide:∀w∈[0,3,5],∀i∈[0,1,2],vB i w∈[0,1,2]/\(i≠0->vB i w≠0)/\(w=0->vB i w≠0)) w hw i hi
  refine eK (O (λwd m=>hl wd (.tail _ m)) xF.1 g1.ok) λi' k2 h1 h2 h3 bB=>xA bB λh4 g2=>?_
  exact⟨i',k1+k2,h1,mV k2 k1▸CE h2 l1,λh=>h3 (xF.2.1 h),λwd m e=>(bY.mp m).elim (λq=>h3 (xF.2.2 (by rw [q] at e;exact e))) λm=>h4 wd m e,g1.app g2⟩
theorem aet(hk:k<4)(hi:i∈[1,2]):(⟨(hW k i).tl,[],.none,false⟩:rF)∈HY:=mc.mpr ⟨k,x_ hk,cF.mpr ⟨i,hi,rfl⟩⟩
theorem T9(h:ws∈dq)(n0:2<=(ws.filter λw=>bA w 0).length)(nr:ws.any fH=false):gf ws=true:=by
 have:allB (λws:G H=>dB (ws.filter λw=>bA w 0).length 2||ws.any fH||gf ws) dq=true:=by decide+kernel
 have:=b7 this ws h
 rw [nr,qr,blt_false n0,Cf] at this
 exact this
theorem ZJ(aV:Base c w K cz I mg mb)(h:ws∈dq)(hp:∀p∈ps,p∈hH)(hf:(ps.length,ws.length,t)∈fits)(hd:gf ws=true)(hk:k<4)(hi:i∈[1,2])(agp:kk<60)
  (g:Got (jE ps (ws.map eX)) (fE (rj u) .none) (hW k i) kk 0):kh c w I aH 180 (oneOf ps) (dk (cC u) (cD (c_ ws t))) .none:=by
 have e0:(hW k i).tu=[]/\(hW k i).nl=[]/\(hW k i).nu=[]:=by
  simp only [bY,eP,gF] at hi
  rcases hi with rfl|rfl<;>exact⟨rfl,rfl,rfl⟩
 have ch:=g.ch true
 have ok:=g.ok
 unfold sT jr at ch
 rw [e0.1,e0.2.1,e0.2.2] at ch
 rw [<-hd] at ch
 have L:=Ep aV (t:=t) hp (B8 h) (by rw [cZ];exact hf) (DG aV ch (An hp (B8 h)))
 have gg:cR (side 1 (hW k i).tl [] (gf ws))=true:=js ok.1 rfl
 have gh:cR (side 2 [] [] false)=true:=js rfl rfl
 have cS:∀f wr,v8 WE 60 gw tA (stH f [] wr (side 1 (hW k i).tl [] (gf ws)) (.tok 2))=some ⟨false,.fuel f,[],side 1 (hW k i).tl [] (gf ws),.tok 2,iA wr⟩:=λf wr=>by
  have:=fU (aeu f wr) _ (aet hk hi)
  unfold vW uH at this
  rw [hd]
  exact this
 exact Ge aV h hp (Ends.MX L gg gh ⟨_,_,rfl⟩ cS) (by assumption) (gA _) gg gh (.inr ⟨rfl,rfl,rfl⟩) (gA _) (λm h=>nomatch h) (λm h=>nomatch h) (gA _) (Dz []) (Lb _ _)
theorem adY(hk:k<4)(hq:q∈jd k 0)(hr:q.rm=false):q=⟨false,false,[],[]⟩\/q=⟨true,false,[hU k],[]⟩:=by
 have lC:k∈[0,1,2,3]:=by rcases pX hk with rfl|rfl|rfl|rfl<;>decide
 have h:=b7 (b7 abm k lC) q hq
 obtain⟨pl,rm,lo,up⟩:=q
 obtain rfl:rm=false:=hr
 refine xA (aN.mp (h:(J8 pl (cT lo [hU k]) (cT lo [])&&cT up [])=true)) λh1 h2=>?_
 cases(eu h2:up=[])
 cases pl with
 |false=>exact .inl (cq (ki.mk false false · []) (eu (h1:cT lo []=true)))
 |true=>exact .inr (cq (ki.mk true false · []) (eu (h1:cT lo [hU k]=true)))
theorem ZO(aV:Base c w K cz I mg mb){k num:H}(hk:k<4)(hn:num∈[1,2,3])(h:bD (l1++(0,d)::l2)∈dq)(h1:∃x∈l1,x.1=0)(hr:(bD (l1++(0,d)::l2)).any fH=false)(hf:((jc k num l1 l2).length,(bD (l1++(0,d)::l2)).length,t)∈fits):
  kh c w I aH 180 (oneOf (jc k num l1 l2)) (dk (cC 0) (cD (c_ (bD (l1++(0,d)::l2)) t))) .none:=by
 have hw:∀x∈l1++(0,d)::l2,x.1∈six:=λx m=>lW h _ (cF.mpr ⟨x,m,rfl⟩)
 have EF:∀x∈l1++(0,d)::l2,x.1∈[0,3,5]:=λx m=>by
  have n:fH x.1=false:=by
   cases J:fH x.1 with
   |false=>rfl
   |true=>rw [zb] at hr;exact bP J (hr _ (cF.mpr ⟨x,m,rfl⟩))
  have:∀w∈six,fH w=false->w∈[0,3,5]:=by decide
  exact this _ (hw x m) n
 have len:(l1++(0,d)::l2).length<=3:=by have:=r4 h;unfold bD at this;rw [cZ] at this;exact this
 rw [fy,iQ] at len
 have dg:gf (bD (l1++(0,d)::l2))=true:=by
  refine T9 h ?_ hr
  refine ay h1 λx m e=>?_
  refine gJ (List.append_of_mem m) λa b aE=>?_;rw [aE]
  unfold bD
  rw [rN,rN,lj,lj,e,QH,QH,QJ (by rfl),QJ (by rfl)]
  simp only [fy,iQ]
  lia
 refine dO (GY hk (u:=0) (by decide) hn (B:=l2.reverse) (λwd m=>hw wd (fC _ (.tail _ (qB.mp m)))) (BR hk (by decide)) (.inl rfl) (wX (by decide))) λq k2 p2 P g2=>?_
 rw [GL] at g2
 have pJ:q.rm=false:=by
  rw [P.rm,wx]
  cases J:l2.any λwd=>fH wd.1 with
  |false=>rfl
  |true=>
   refine ay (zc.mp J) λx m J=>?_
   have n:=EF x (fC _ (.tail _ m))
   have:∀w∈[0,3,5],fH w=false:=by decide
   rw [this _ n] at J;nomatch J
 have U5:jK num l2 .none=.none:=by
  unfold jK
  cases J:l2.any λwd=>bA wd.1 2 with
  |false=>rfl
  |true=>
   refine ay (zc.mp J) λx m J=>?_
   have n:=EF x (fC _ (.tail _ m))
   have:∀w∈[0,3,5],bA w 2=false:=by decide
   rw [this _ n] at J;nomatch J
 have p0:=P.p0 (by rw [pJ,Qe])
 subst p0
 rw [U5] at g2
 have lk:=P.kl
 rw [ez] at lk
 have mid:∃i kk,i∈[0,1,2]/\kk<=14/\Got [sub aF vT] (fE q .none) (hW k i) kk 0:=by
  rcases adY hk P.mem pJ with rfl|rfl
  .refine ay (vc g2.ok (FO hk).1) λkk B g=>?_
   exact⟨0,kk,by decide,B,g⟩
  .refine ay (vc g2.ok (FO hk).2.1) λkk B g=>?_
   exact⟨1,kk,by decide,B,g⟩
 refine eO mid λi k3 hi l3 g3=>?_
 refine eK (YG hk (num:=num) (B:=l1.reverse) (λwd m=>EF wd (iR _ (qB.mp m))) hi g3.ok) λi' k4 ES l4 _ bB=>xA bB λne g4=>?_
 rw [ez] at l4
 have n0:i'∈[1,2]:=by
  refine ay h1 λx m e=>?_
  have:=ne x (qB.mpr m) e
  refine dC (bY.mp ES) (λq=>?_) λq=>?_
  .exact bP q this
  .exact q
 refine ZJ aV h (Hg hk hn hw) hf dg hk n0 (kk:=k2+(k3+k4)) (by lia) ?_
 rw [EB]
 exact g2.app (g3.app g4)
end
noncomputable def ij:G en:=match cz.fn 659 with
 |some F=>F.body
 |.none=>[]
noncomputable def jm:G (ar×dc):=match cz.fn 659 with
 |some F=>F.sc
 |.none=>[]
noncomputable def wU:cU ah:=⟨false,λn k=>@nZ (λ_=>ah) true (λi a=>k i&&a) n⟩
noncomputable def fq(ws:G H):G D:=ws.map λi=>D.int (.ofNat i)
noncomputable def gI(ws:G H):D:=.aD (.list 63) (fq ws)
noncomputable def hK(ac9 dh kinds afq afb ht tail ik Tq kind aaO d_ abC:aa D):G (aa D):=[ac9,dh,kinds,afq,afb,ht,tail,ik,Tq,kind,aaO,d_,abC,.none,.none,.none,.none,.none,.none,.none,.none,.none,.none,.none,.none,.none,.none]
noncomputable def sO{α:Type}(J:ah)(E:aa α):aa α:=@bN (λ_=>aa α) .none E J
noncomputable def GN(f:D->ah)(B:G D):ah:=match B with
 |[]=>false
 |a::B=>match B with
  |[]=>f a
  |_::_=>false
noncomputable def GU(a:H)(args:G D)(o:MH):aa (H×D×MH):=match bA a 588 with
 |true=>sO (GN (gO 5) args&&cK ((o.t.ins o.n .dh).get o.n)) (some (100,.ref o.n,⟨o.t.ins o.n .dh,cX o.n⟩))
 |false=>match bA a 567 with
  |true=>sO (cT args []) (some (300,.tok 0,o))
  |false=>sO (bA a 649&&GN pU args) (some (250,.bool true,o))
noncomputable def WA:bQ:=gn cz GU (λ_=>.none) (λ_ _=>.none) 595
noncomputable def Fs(E:cJ):ah:=match E with
 |.dh=>true
 |_=>false
noncomputable def xQ(o:MH)(v:aa D):ah:=mG (λi=>bA i 0&&mG Fs (o.t.get i)) (Hm v)
noncomputable def anyB{α:Type}(f:α->ah)(B:G α):ah:=!(allB (λq=>!(f q)) B)
noncomputable def Ah(o:MH)(v:aa D):aa (G D):=eQ (Hm v) λi=>eQ (jj o i) λp=>bO (eB 1 i) p.2
noncomputable def JZ:G (G H):=all1++(all2++(bV 0++(bV 1++(bV 2++(bV 3++(bV 4++bV 5))))))
noncomputable def F0(f:eh)(fr:Fm)(o:MH):ah:=u6 f&&xQ o (dE fr.vars 1)&&pU (gv (dE fr.vars 2))&&mG (λr=>anyB (λws=>cT (fq ws).reverse r) JZ) (Ah o (dE fr.vars 3))
noncomputable def abu:ah:=iy (run wU WA 338) ⟨jm,.none⟩ (ij.take 3) ⟨hK (some (.tok 5)) .none .none .none .none .none .none .none .none .none .none .none .none,[]⟩ ⟨.nil,0⟩ F0
noncomputable def yP(u:H):D:=match u with
 |0=>kO
 |1=>ak
 |_=>aK
noncomputable def BY(t:ah):H:=match t with
 |true=>25
 |false=>24
noncomputable def JD:G jP:=[0,1,2].flatMap λu=>[false,true].map λt=>⟨630,[.tok 41,yP u,iL t],dk (yP u) (cD (.tok (BY t)))⟩
noncomputable def Sb:bQ:=gn cz (kP 60 JD []) (λ_=>.none) (λ_ _=>.none) 595
noncomputable def pR(B:G D)(v:D):aa H:=@b9 D (λ_=>H->aa H) (λ_=>.none) (λa _ f i=>@bN (λ_=>aa H) (f (cX i)) (some i) (eW a v)) B 0
noncomputable def Mx(v:D):aa ah:=match v with
 |.bool b=>some b
 |_=>.none
noncomputable def Po:G D:=[kO,ak,aK]
noncomputable def Nj:G D:=[.int 0,.int 1,.int 2]
noncomputable def MO:G D:=[aC,ai,ak,af]
noncomputable def Nr:G D:=[.int 1,.int 2,.int 3]
noncomputable def F1(f:eh)(fr:Fm)(o:MH):ah:=u6 f&&xQ o (dE fr.vars 1)&&pU (gv (dE fr.vars 2))&&gO 41 (gv (dE fr.vars 3))&&mG (λt=>eW (iL t) (nI (dE fr.vars 6))&&
  mG (λu=>eW (dk (yP u) (cD (.tok (BY t)))) (nI (dE fr.vars 11))) (pR Po (nI (dE fr.vars 4)))&&mG (λm=>t||bA m 0) (pR Nj (nI (dE fr.vars 7)))) (Mx (nI (dE fr.vars 5)))&&cK (pR MO (nI (dE fr.vars 9)))&&cK (pR Nr (nI (dE fr.vars 10)))
noncomputable def abw:ah:=iy (run wU Sb 120) ⟨jm,.none⟩ ((ij.drop 3).take 7) ⟨hK .none (some (.ref 0)) (some (.tok 0)) (some (.tok 41)) .none .none .none .none .none .none .none .none .none,[]⟩ (fA [.dh]) F1
noncomputable def zX:G jP:=[⟨623,[.tok 31],.tok 30⟩]
noncomputable def WC:bQ:=gn cz (kP 20 zX []) (λ_=>.none) (λ_ _=>.none) 595
noncomputable def formOf(w:H)(d:ah):D:=match w with
 |0=>.tok 30
 |1=>arr (.tok 31) (num 1)
 |2=>arr (.tok 31) (.tup [sN,.tok 32])
 |3=>match d with
  |true=>ai
  |false=>aC
 |4=>gx (.tok 31)
 |_=>gP (.tok 30) aC
noncomputable def Bg(tl:G D)(ws:G H):G D->ah:=@b9 H (λ_=>G D->ah) (λB=>cT tl B) (λw _ f B=>match B with
 |[]=>false
 |x::B=>(eW (formOf w false) x||eW (formOf w true) x)&&f B) ws
noncomputable def Fp(b:H)(f:G D->ah)(v:D):ah:=match v with
 |.aD k B=>match k with
  |.list J=>bA J b&&f B
  |_=>false
 |_=>false
noncomputable def Fu(ws:G H)(v:D):ah:=Fp 63 (cT (fq ws)) v
noncomputable def F3(ws:G H)(m:H)(f:eh)(fr:Fm)(o:MH):ah:=u6 f&&xQ o (dE fr.vars 1)&&pU (gv (dE fr.vars 2))&&gO 27 (gv (dE fr.vars 4))&&gO 28 (gv (dE fr.vars 5))&&gO 31 (gv (dE fr.vars 9))&&gO 32 (gv (dE fr.vars 10))&&gO 40 (gv (dE fr.vars 11))&&Fu ws (gv (dE fr.vars 3))&&
  mG (λr=>Bg (di m j0) ws (rv r)) (Ah o (dE fr.vars 12))
noncomputable def fu(m:H)(ws:G H):ah:=iy (run wU WC 70) ⟨jm,.none⟩ ((ij.drop 10).take 1) ⟨hK .none (some (.ref 0)) (some (.tok 0)) (some (gI ws)) (some (.tok 27)) (some (.tok 28)) .none (some (.int (.ofNat m))) .none (some (.tok 31)) (some (.tok 32)) (some (.tok 40)) .none,[]⟩ (fA [.dh]) (F3 ws m)
noncomputable def oS(ws:G H):aa D:=(run ip (gn cz (λ_ _ _=>.none) (λ_=>.none) (λ_ _=>.none) 0) 60).call (.fn 630) [gI ws,.tok 22,.tok 23] ⟨.nil,0⟩ λm _=>some m
noncomputable def oT(ws:G H):aa D:=some (dk (.tok 22) (cD (.tup [du,.tup (ws.map rD),.tok 23])))
noncomputable def F5(v:D)(o:MH):aa D:=match v with
 |.none=>some .none
 |.ref i=>eQ (vF o i) λR=>bO (allB qX R) (.aD (.dict (hJ R)) (mapA (λq=>q.2) R))
 |_=>.none
noncomputable def ow(ws:G H):aa D:=(run ip (gn cz (kP 20 zX []) (λ_=>.none) (λ_ _=>.none) 0) 60).call (.fn 642) [gI ws,.tok 31,.tok 32] ⟨.nil,0⟩ F5
noncomputable def vY(ws:G H):aa D:=match ws.any fH with
 |true=>some (.tok 31)
 |false=>match ws.any MF with
  |true=>some (.tok 30)
  |false=>.none
where MF (w:H):ah:=bA w 0||bA w 5
noncomputable def oz(ws:G H):aa D:=some (match vY ws with
 |some k=>match ws.any λw=>bA w 2 with
  |true=>.aD (.dict [mK,nP]) [k,.tup [sN,.tok 32]]
  |false=>.aD (.dict [mK]) [k]
 |.none=>match ws.any λw=>bA w 2 with
  |true=>.aD (.dict [nP]) [.tup [sN,.tok 32]]
  |false=>.aD (.dict []) [])
noncomputable def toks(n:H):G D:=(fY n).map λi=>.tok (50+i)
noncomputable def setAt(B:G D)(i:H)(v:D):G D:=B.take i++v::B.drop (cX i)
noncomputable def aaP(ws:G H):G H:=(fY ws.length).filter λi=>!(bA (ws.getD i 0) 0)
noncomputable def zs(ws:G H):G H:=(fY ws.length).filter λi=>bA (ws.getD i 0) 0
noncomputable def A0(ub:ah)(ws:G H):G H:=match (zs ws).reverse with
 |[]=>[]
 |i::r=>match ub||(match r with
  |[]=>false
  |_::_=>!(ws.any fH)) with
  |true=>[i]
  |false=>[]
noncomputable def ones(ub t:ah)(ws:G H):G (G D):=(match t with
 |true=>[]
 |false=>[toks ws.length++[j0]])++((toks ws.length).dropLast::(aaP ws++A0 ub ws).map λi=>setAt (toks ws.length) i aF)
noncomputable def PW(ub t:ah)(ws:G H):G jP:=(ones ub t ws).map λps=>⟨382,[.tok 0,.tup [du,.tup ps,.none],.tok 40],.none⟩
noncomputable def Va(a b:D):aa ah:=match gO 27 a&&eW b kO with
 |true=>some false
 |false=>.none
noncomputable def Nc(n:H)(v:D)(o:MH):ah:=eW v (.bool true)&&mG Fs (o.t.get 0)&&mG (λp=>cT (toks n).reverse p.2) (jj o 1)
noncomputable def Io(J:H):ah:=bA J 1
noncomputable def PA(J:H):D:=match J with
 |0=>kO
 |_=>.tok 27
noncomputable def Ec(J:H):D->D->aa ah:=match J with
 |1=>Va
 |_=>λ_ _=>.none
noncomputable def WW(J:H)(t:ah)(ws:G H):bQ:=gn cz (kP 180 (PW (Io J) t ws) []) (λ_=>.none) (Ec J) 595
noncomputable def yV(J:H)(t:ah)(ws:G H):ah:=(run wU (WW J t ws) 230).call (.fn 654) [.ref 0,.tok 0,gI ws,.ref 1,PA J,.bool t,.tok 40] (fA [.dh,.list 63 (toks ws.length).reverse]) (Nc ws.length)
noncomputable def vC(ws:G H):ah:=!(ws.any λw=>bA w 0)
noncomputable def gy(t:ah)(ws:G H):ah:=match vC ws with
 |true=>yV 2 t ws
 |false=>yV 0 t ws&&yV 1 t ws
noncomputable def newD(R:G (D×D))(lv:H)(o:MH):aa (H×D×MH):=bO (cK ((o.t.ins o.n (.dict R)).get o.n)) (lv,.ref o.n,⟨o.t.ins o.n (.dict R),cX o.n⟩)
noncomputable def OD(n:H)(o:MH)(v:D):ah:=mG (λr=>cT (toks n).reverse r) (Ah o (some v))
noncomputable def MA(o:MH)(v:D):ah:=xQ o (some v)
noncomputable def tQ(n:H):G D:=(fY n).map λi=>.tok (60+i)
noncomputable def Ft(n:H)(v:D):ah:=Fp 63 (cT (tQ n)) v
noncomputable def three(f:D->D->D->ah)(B:G D):ah:=match B with
 |[x,y,z]=>f x y z
 |_=>false
noncomputable def BI(f:D->D->D->D->D->D->D->ah)(B:G D):ah:=match B with
 |[x1,x2,x3,x4,x5,x6,x7]=>f x1 x2 x3 x4 x5 x6 x7
 |_=>false
noncomputable def GV(n m:H)(R:G (D×D))(a:H)(args:G D)(o:MH):aa (H×D×MH):=match bA a 382 with
 |true=>sO (cT [.tok 0,.tup [du,.tup (toks (n+m)),.none],.tok 40] args) (newD R 180 o)
 |false=>match bA a 642 with
  |true=>sO (three (λw k i=>Ft n w&&gO 31 k&&gO 32 i) args) (newD R 60 o)
  |false=>sO (bA a 654&&BI (λj z w p u t s=>MA o j&&pU z&&Ft n w&&OD n o p&&gO 27 u&&gO 28 t&&gO 40 s) args) (some (230,.bool true,o))
noncomputable def WD(n m:H)(R:G (D×D)):bQ:=gn cz (GV n m R) (λ_=>.none) (λ_ _=>.none) 0
noncomputable def Na(f:eh)(fr:Fm)(o:MH):aa D:=match f with
 |.next=>.none
 |.ret v=>some v
noncomputable def GW(n m:H)(R:G (D×D)):aa D:=iy (run ip (WD n m R) 300) ⟨jm,.none⟩ (ij.drop 11) ⟨hK .none (some (.ref 0)) (some (.tok 0)) (some (.aD (.list 63) (tQ n))) (some (.tok 27)) (some (.tok 28)) .none .none .none (some (.tok 31)) (some (.tok 32)) (some (.tok 40)) (some (.aD (.list 200) (toks (n+m)))),[]⟩ (fA [.dh]) Na
noncomputable def NC:G (H×H):=[(1,0),(2,0),(3,0),(1,1),(1,2),(2,1),(2,2),(3,1),(3,2)]
noncomputable def su(t:aa D)(E:aa H):G (D×D):=(match t with
 |some k=>[(nQ,k)]
 |.none=>[])++match E with
 |some i=>[(lS,num i)]
 |.none=>[]
noncomputable def rA:G (aa D):=[.none,some aC,some ai,some ak,some af,some bF]
noncomputable def abB:ah:=allB (λnm=>allB (λt=>allB (λE=>match GW nm.1 nm.2 (su t E) with
 |some v=>eW v (.bool true)
 |.none=>false) jI) rA) NC
theorem abv:abu=true:=by kernel_rfl
theorem abx:abw=true:=by kernel_rfl
theorem abA:abB=true:=by kernel_rfl
theorem adj:all1.map oS=all1.map oT:=by kernel_rfl
theorem Ur:all1.map ow=all1.map oz:=by kernel_rfl
theorem adk:all2.map oS=all2.map oT:=by kernel_rfl
theorem Us:all2.map ow=all2.map oz:=by kernel_rfl
theorem adl:(bV 0).map oS=(bV 0).map oT:=by kernel_rfl
theorem Ut:(bV 0).map ow=(bV 0).map oz:=by kernel_rfl
theorem adm:(bV 1).map oS=(bV 1).map oT:=by kernel_rfl
theorem Uu:(bV 1).map ow=(bV 1).map oz:=by kernel_rfl
theorem adn:(bV 2).map oS=(bV 2).map oT:=by kernel_rfl
theorem Uv:(bV 2).map ow=(bV 2).map oz:=by kernel_rfl
theorem ado:(bV 3).map oS=(bV 3).map oT:=by kernel_rfl
theorem Uw:(bV 3).map ow=(bV 3).map oz:=by kernel_rfl
theorem adp:(bV 4).map oS=(bV 4).map oT:=by kernel_rfl
theorem Ux:(bV 4).map ow=(bV 4).map oz:=by kernel_rfl
theorem adq:(bV 5).map oS=(bV 5).map oT:=by kernel_rfl
theorem Uy:(bV 5).map ow=(bV 5).map oz:=by kernel_rfl
theorem TV:[0,1,2,3].map (λk=>jW WS 20 ⟨623,[fR k],hU k⟩)=[0,1,2,3].map (λk=>jX ⟨623,[fR k],hU k⟩):=by kernel_rfl
theorem VH:jW WS 250 ⟨649,[.tok 0],.bool true⟩=jX ⟨649,[.tok 0],.bool true⟩:=by kernel_rfl
theorem abE:allB (fu 0) all1=true:=by kernel_rfl
theorem abF:allB (fu 0) all2=true:=by kernel_rfl
theorem abG:allB (fu 0) (bV 0)=true:=by kernel_rfl
theorem abH:allB (fu 0) (bV 1)=true:=by kernel_rfl
theorem abI:allB (fu 0) (bV 2)=true:=by kernel_rfl
theorem abJ:allB (fu 0) (bV 3)=true:=by kernel_rfl
theorem abK:allB (fu 0) (bV 4)=true:=by kernel_rfl
theorem abL:allB (fu 0) (bV 5)=true:=by kernel_rfl
theorem abM:allB (fu 1) all1=true:=by kernel_rfl
theorem abN:allB (fu 1) all2=true:=by kernel_rfl
theorem abO:allB (fu 1) (bV 0)=true:=by kernel_rfl
theorem abP:allB (fu 1) (bV 1)=true:=by kernel_rfl
theorem abQ:allB (fu 1) (bV 2)=true:=by kernel_rfl
theorem abR:allB (fu 1) (bV 3)=true:=by kernel_rfl
theorem abS:allB (fu 1) (bV 4)=true:=by kernel_rfl
theorem abT:allB (fu 1) (bV 5)=true:=by kernel_rfl
theorem abU:allB (fu 2) all1=true:=by kernel_rfl
theorem abV:allB (fu 2) all2=true:=by kernel_rfl
theorem abW:allB (fu 2) (bV 0)=true:=by kernel_rfl
theorem abX:allB (fu 2) (bV 1)=true:=by kernel_rfl
theorem abY:allB (fu 2) (bV 2)=true:=by kernel_rfl
theorem abZ:allB (fu 2) (bV 3)=true:=by kernel_rfl
theorem ab0:allB (fu 2) (bV 4)=true:=by kernel_rfl
theorem ab1:allB (fu 2) (bV 5)=true:=by kernel_rfl
theorem afG:allB (gy false) all1=true:=by kernel_rfl
theorem afH:allB (gy false) all2=true:=by kernel_rfl
theorem afI:allB (gy false) (bV 0)=true:=by kernel_rfl
theorem afJ:allB (gy false) (bV 1)=true:=by kernel_rfl
theorem afK:allB (gy false) (bV 2)=true:=by kernel_rfl
theorem afL:allB (gy false) (bV 3)=true:=by kernel_rfl
theorem afM:allB (gy false) (bV 4)=true:=by kernel_rfl
theorem afN:allB (gy false) (bV 5)=true:=by kernel_rfl
theorem afR:allB (gy true) all1=true:=by kernel_rfl
theorem afS:allB (gy true) all2=true:=by kernel_rfl
theorem afT:allB (gy true) (bV 0)=true:=by kernel_rfl
theorem afU:allB (gy true) (bV 1)=true:=by kernel_rfl
theorem afV:allB (gy true) (bV 2)=true:=by kernel_rfl
theorem afW:allB (gy true) (bV 3)=true:=by kernel_rfl
theorem afX:allB (gy true) (bV 4)=true:=by kernel_rfl
theorem afY:allB (gy true) (bV 5)=true:=by kernel_rfl
section
set_option tactic.hygienic true
noncomputable def IQ(P:H->D->Prop)(B:G (aa D)):H->Prop:=@b9 (aa D) (λ_=>H->Prop) (λ_=>jz) (λa _ O k=>(∀m,a=some m->P k m)/\O (k+1)) B
theorem Sn:∀{k:H},IQ P B k->∀(i:H) (m:D),B[i]?=some (some m)->P (k+i) m:=by
 induction B with
 |nil=>exact λ_ _ _ e=>aB e
 |cons a B O=>
  intro k h i m e
  cases i with
  |zero=>exact h.1 m (aM e)
  |succ i=>exact Rv k i▸O h.2 i m e
theorem sZ{P:H->D->Prop}(h0:∀m,a0=some m->P 0 m)(h1:∀m,a1=some m->P 1 m)(h2:∀m,a2=some m->P 2 m)(h3:∀m,a3=some m->P 3 m)(h4:∀m,a4=some m->P 4 m)(h5:∀m,a5=some m->P 5 m)(h6:∀m,a6=some m->P 6 m)(h7:∀m,a7=some m->P 7 m)(h8:∀m,a8=some m->P 8 m)(h9:∀m,a9=some m->P 9 m)(EG:∀m,JT=some m->P 10 m)(Wi:∀m,JU=some m->P 11 m)(Wj:∀m,JV=some m->P 12 m):
  ∀(i:H) (m:D),(hK a0 a1 a2 a3 a4 a5 a6 a7 a8 a9 JT JU JV)[i]?=some (some m)->P i m:=by
 have no:∀{k:H},∀m,none=some m->P k m:=λ_ e=>aB e
 intro i m e
 have:IQ P (hK a0 a1 a2 a3 a4 a5 a6 a7 a8 a9 JT JU JV) 0:=⟨h0,h1,h2,h3,h4,h5,h6,h7,h8,h9,EG,Wi,Wj,no,no,no,no,no,no,no,no,no,no,no,no,no,no,trivial⟩
 exact uh i▸Sn this i m e
noncomputable def bJ(i:H):aa H:=if i=0 then some 0 else none
section
variable{c:a_}{w:dF}{F C:G aA}{I h:aP}{o:MH}{aQ aJ:H->aa D}{sc:G (ar×dc)}{vars rC:G (aa D)}{X:cL}{aj:aA}
theorem ve(S:St c (wb c w aQ) I F C o h)(az:dm c (wb c w aQ) F C h sc vars X)(e0:C[0]?=some aj)(j:o.t.get 0=some .dh)(hv:∀(i:H) (m2:D),rC[i]?=some (some m2)->∃m,vars[i]?=some (some m)/\Cv aQ aJ o bJ (λi=>1<=i) m m2):
  St c (wb c w aJ) I F [aj] (fA [.dh]) h/\dm c (wb c w aJ) F [aj] h sc rC X:=by
 have sub:∀a∈[aj],a∈C:=λa ha=>by rw [cA.mp ha];exact dy e0
 have ji:∀i j a,bJ i=some j->C[i]?=some a->[aj][j]?=some a:=λi j a eb ei=>by
  unfold bJ at eb
  split at eb
  .rename_i z;have:=aM eb;rw [<-this];rw [z,e0] at ei;exact ei
  .nomatch eb
 have hs:∀a E,h.get? a=some E->cM F C a->cM F [aj] a:=λa E _ sf=>⟨sf.1,λq=>sf.2 (sub a q)⟩
 have kH:∀i a,1<=i->C[i]?=some a->cM F [aj] a:=λi a hi e=>⟨λq=>(S.cI a q).2.1 (dy e),λq=>by
  rw [cA.mp q] at e
  have:=qe S.apart e e0
  lia⟩
 refine⟨S.mJ (β:=bJ) (FZ:=λi=>1<=i) rfl (by simp) (λa ha=>?_) hs kH ji λj' a ej=>?_,az.weak az.own λi m2 e=>?_⟩
 .refine cf (S.cI a ha) λq1 q2 q3=>?_
  exact⟨q1,λz=>q2 (sub a z),q3⟩
 .match j',ej with
  |0,ej=>cases ej;exact⟨0,_,_,e0,j,rfl,.dh⟩
 .refine ay (hv i m2 e) λm e1 J=>?_
  exact⟨m,e1,λv x=>J.ok S ji hs kH x⟩
theorem Og(e:Hm E=some i):E=some (.ref i):=by
 cases E with
 |none=>exact aB e
 |some v=>
  cases v with
  |ref j=>rw [aM e]
  |_=>exact aB e
theorem MB(e:Fs E=true):E=.dh:=by
 cases E with
 |dh=>rfl
 |_=>exact bz e
theorem uX(e:sO J E=some x):J=true/\E=some x:=by
 cases J with
 |false=>exact aB e
 |true=>exact⟨rfl,e⟩
theorem N1(e:GN f B=true):∃a,B=[a]/\f a=true:=by
 cases B with
 |nil=>exact bz e
 |cons a B=>cases B with
  |nil=>exact⟨a,rfl,e⟩
  |cons=>exact bz e
theorem AR(e:xQ o v=true):v=some (.ref 0)/\o.t.get 0=some .dh:=by
 refine ay (nH e) λi h e=>?_
 have z:=dU (bx e)
 rw [<-z]
 refine ay (nH (bL e)) λE h1 e=>?_
 exact⟨Og h,by rw [h1,MB e]⟩
theorem Ew(e:Ah o v=some r):∃i b,v=some (.ref i)/\1<=i/\o.t.get i=some (.list b r):=by
 refine ay (fm e) λi h e=>?_
 refine ay (fm e) λp h1 e=>?_
 refine xA (jA e) λJ aI=>?_;rw [<-aI]
 exact⟨i,p.1,Og h,dw J,sY h1⟩
theorem Iu(e:pU (gv (dE B i))=true):B[i]?=some (some (.tok 0)):=by
 generalize h:dE B i=ax at e
 cases ax with
 |none=>nomatch e
 |some v=>rw [mP h,xS (v:=v) e]
theorem v_(e:nI (dE B i)=m)(h:m≠.any):B[i]?=some (some m):=GQ e h
theorem Sr(h:anyB f B=true):∃q∈B,f q=true:=xk h
theorem AL:∀{B:G D} {i:H},pR B v=some i->B[i]?=some v:=by
 have key:∀{B:G D} {i k:H},(@b9 D (λ_=>H->aa H) (λ_=>.none) (λa _ f i=>@bN (λ_=>aa H) (f (cX i)) (some i) (eW a v)) B k)=some i->k<=i/\B[i-k]?=some v:=by
  intro B
  induction B with
  |nil=>intro i k e;nomatch (e:none=some i)
  |cons a B O=>
   intro i k e
   dsimp only at e
   generalize J:eW a v=ax at e
   cases ax with
   |true=>
    have e:=aM e
    rw [e]
    rw [Rt,iK J]
    exact⟨fG _,rfl⟩
   |false=>
    refine xA (O e) λh1 h2=>?_
    have h1:k+1<=i:=h1
    have h2:B[i-(k+1)]?=some v:=h2
    refine⟨Rd h1,?_⟩
    rw [show i-k=(i-(k+1))+1 from(Rq (Rr h1)).symm.trans (cq (· +1) (Ru i k 1))]
    exact h2
 intro B i e
 exact(key (k:=0) e).2
theorem X3(e:Mx v=some b):v=.bool b:=by
 cases v with
 |bool J=>rw [aM (e:some J=some b)]
 |_=>nomatch e
theorem My(e:Fp b f v=true):∃B,v=.aD (.list b) B/\f B=true:=by
 cases v with
 |aD k B=>
  cases k with
  |list J=>exact⟨B,by rw [dU (bx e)],bL e⟩
  |_=>exact bz e
 |_=>exact bz e
theorem X_(e:Fu ws v=true):v=gI ws:=by
 refine ay (My e) λB aI e=>?_;rw [aI]
 unfold gI
 rw [eu e]
theorem Sp{k:H->ah}(e:(@nZ (λ_=>ah) true (λi a=>k i&&a) n)=true):∀d,d<n->k d=true:=by
 induction n with
 |zero=>exact λd h=>bP h (zp d)
 |succ n O=>
  have e:=aN.mp (e:(k n&&@nZ (λ_=>ah) true (λi a=>k i&&a) n)=true)
  exact λd h=>(Rf.mp h).elim (O e.2 d) λq=>q▸e.1
theorem zG:bZ wU (λr=>r=true):=⟨(λe=>nomatch e),λn k e d hd=>Sp e d hd⟩
theorem oM:uj c w aQ (λ_=>none):=λi m e=>nomatch e
theorem af9:JZ=dq:=rfl
theorem PC(u:H):yP u=cC u:=by unfold yP cC;rfl
theorem Fl(ws:G H):∀m∈fq ws,bC m=true:=λm hm=>by
 refine ay (cF.mp hm) λi _ aE=>?_;subst aE
 rfl
theorem wc(ws:G H):bC (gI ws)=true:=by
 unfold gI
 rw [<-fB,s9]
 exact yx (Fl ws)
end
end
theorem adv:dq.map oS=dq.map oT:=by
 unfold dq
 exact f_ adj (f_ adk (f_ adl (f_ adm (f_ adn (f_ ado (f_ adp adq))))))
theorem UA:dq.map ow=dq.map oz:=by
 unfold dq
 exact f_ Ur (f_ Us (f_ Ut (f_ Uu (f_ Uv (f_ Uw (f_ Ux Uy))))))
theorem afo(h:ws∈dq):bC (.tup (ws.map rD))=true:=(aN.mp (Bh λm hm=>by obtain⟨w,hw,rfl⟩:=cF.mp hm;exact(Br h).1 w hw)).1
theorem o5(u:H):bC (cC u)=true:=match u with|0=>rfl|1=>rfl|_+2=>rfl
theorem B0(u:H):cK (handed (cC u))=true:=match u with|0=>rfl|1=>rfl|_+2=>rfl
theorem O_(t:ah):bC (iL t)=true:=by cases t<;>rfl
theorem aeL(t:ah):cK (handed (iL t))=true:=by cases t<;>rfl
theorem Ih(h:ws∈dq)(t:ah):bC (c_ ws t)=true:=nS (Br h).1
theorem DQ(ca:cE aQ aJ [a] [a'])(cb:cE aQ aJ [b] [b']):cE aQ aJ [dk a (cD b)] [dk a' (cD b')]:=λo β FZ=>
 .cons (.tup (.cons (.same rfl) (.cons (.same rfl) (.cons (.same rfl) (.cons (ca.one o β FZ) (.cons (.tup (.cons (.same rfl) (.cons (.same rfl) (.cons (.same rfl) (.cons (.same rfl) (.cons (cb.one o β FZ) .nil)))))) .nil)))))) .nil
theorem uw(p:bC m=true)(q:cK (handed m)=true)(e:aJ j=some m):cE aQ aJ [m] [.tok j]:=λ_ _ _=>.cons (.eT p q e) .nil
theorem iG(e:aQ j=some m):cE aQ aJ [.tok j] [m]:=λ_ _ _=>.cons (.fc e) .nil
theorem eU(a:cE aQ aJ [m] [m'])(b:cE aQ aJ B l'):cE aQ aJ (m::B) (m'::l'):=λo β FZ=>.cons (a.one o β FZ) (b o β FZ)
theorem KD:cE aQ aJ [] []:=λ_ _ _=>.nil
theorem kj(a:cE aQ aJ B l'):cE aQ aJ [.tup B] [.tup l']:=λo β FZ=>.cons (.tup (a o β FZ)) .nil
section
variable{c:a_}{w:dF}{I:aP}{K:b8}{mg mb:ar->aa aw}{Y:bG}{F C:G aA}{s:aT}{h M:aP}{o:MH}{aL:H->aa D}{eC a:H}
noncomputable def aes(up tl:D):H->aa D
 |22=>some up
 |23=>some tl
 |_=>.none
theorem adt(aV:Base c w K cz I mg mb)(h:ws∈dq)(u:H)(t:ah):mh c w I aH 60 630 [gI ws,cC u,iL t] (dk (cC u) (cD (c_ ws t))):=by
 have e:=fU adv ws h
 unfold oS oT at e
 refine Hh (aL:=aes (cC u) (iL t)) (aV.sound oM hN lM (.inl jD) (mj _) 60) e (eU (et (wc ws)) (eU (uw (o5 u) (B0 u) rfl) (uw (O_ t) (aeL t) rfl))) (DQ (iG rfl) ?_)
 exact kj (eU (et rfl) (eU (et (afo h)) (iG rfl)))
noncomputable def rx(ws:G H):H->aa D
 |0=>some aH
 |41=>some (gI ws)
 |24=>some (c_ ws false)
 |25=>some (c_ ws true)
 |_=>.none
theorem O7(t:ah):rx ws (BY t)=some (c_ ws t):=by cases t<;>rfl
theorem aeW:cK (handed (c_ ws t))=true:=rfl
theorem abi(aV:Base c w K cz I mg mb)(h:ws∈dq):iF c (wb c w (rx ws)) I (gn cz (kP 60 JD []) tv eq pull):=by
 refine vH (λp hp o=>?_) (λd hd=>nomatch hd)
 refine ay (mc.mp hp) λu _ hp=>?_
 refine ay (cF.mp hp) λt _ aE=>?_;rw [<-aE]
 rw [PC]
 exact rh (adt aV h u t) (eU (iG rfl) (eU (et (o5 u)) (et (O_ t)))) (DQ (et (o5 u)) (uw (Ih h t) aeW (O7 t)))
theorem TX(aV:Base c w K cz I mg mb)(hk:k<4):mh c w I aH 20 623 [fR k] (hU k):=by
 have e:=fU TV k (x_ hk)
 have k1:bC (fR k)=true/\bC (hU k)=true:=by rcases pX hk with rfl|rfl|rfl|rfl<;>exact⟨rfl,rfl⟩
 exact Ad aV lM e (λm hm=>by rw [cA.mp hm];exact k1.1) k1.2
noncomputable def lY(u:H)(t:ah)(k num:H)(d_:D):H->aa D
 |0=>some aH
 |27=>some (cC u)
 |28=>some (.bool t)
 |30=>some (hU k)
 |31=>some (fR k)
 |32=>some (.int (.ofNat num))
 |40=>some d_
 |_=>.none
theorem Fz(hk:k<4):bC (fR k)=true/\bC (hU k)=true/\cK (handed (fR k))=true/\cK (handed (hU k))=true:=by rcases pX hk with rfl|rfl|rfl|rfl<;>exact⟨rfl,rfl,rfl,rfl⟩
theorem Kz(aV:Base c w K cz I mg mb)(hk:k<4)(t1:aL 31=some (fR k))(t2:aL 30=some (hU k)):iF c (wb c w aL) I (gn cz (kP 20 zX []) tv eq pull):=by
 refine vH (λp hp o=>?_) (λd hd=>nomatch hd)
 rw [cA.mp hp]
 refine eN (Fz hk) λk1 k2 k3 k4=>?_
 exact rh (TX aV hk) (iG t1) (uw k2 k4 t2)
noncomputable def ui(c:a_)(w:dF)(I:aP)(KT:D)(eC a:H)(args:G D)(R5:D):Prop:=
 ∀(Y:bG) (F:G aA) (s:aT) (V:G aw),eY eC Y->St c (wb c w (aU KT)) I F [] ⟨.nil,0⟩ s.heap->aW c (wb c w (aU KT)) F [] s.heap args V->bc c (wb c w (aU KT)) Y [] [] s (call (.ref a) V) (λv _ M=>Jr c w KT F R5 v s.heap M)
theorem Y_(e:F5 m o=some (.aD (.dict ks) B)):∃i R,m=.ref i/\o.t.get i=some (.dict R)/\R.map (·.1)=ks.map D.str/\R.map (·.2)=B:=by
 cases m with
 |ref i=>
  refine ay (fm e) λR h1 e=>?_
  refine xA (jA e) λJ e=>?_
  refine xA (D.V7 e) λe1 e2=>?_
  rw [pY] at e2
  exact⟨i,R,rfl,yi h1,FK.Ud e1▸FH J,e2⟩
 |none=>nomatch e
 |_=>exact aB e
theorem aaA(gp:Sound (λr:aa D=>r=some (.aD (.dict ks) l')) c (wb c w aL) I eC (run ip W eC))(ev:(run ip W eC).call (.fn a) oh ⟨.nil,0⟩ F5=some (.aD (.dict ks) l'))(ca:cE (aU KT) aL args oh)(cl:cE aL (aU KT) l' B)(pl:∀m∈B,bC m=true):ui c w I KT eC a args (.aD (.dict ks) B):=by
 intro Y F s V room S y Q au q
 refine gp.call Y F [] s ⟨.nil,0⟩ (.fn a) (.ref a) oh V _ room (S.bare (λa ha=>.inl ha) aL) (by rfl) (ca.qp S (λa ha=>.inl ha) (λa ha=>nomatch ha) y) ev _ _ λv bq h1 aZ aS p1=>?_
 obtain⟨m,bM,e1,S1,x1⟩:=p1
 refine eK (Y_ e1) λi R aE g1 k1 k2=>?_;subst aE
 refine ay x1 ?_;clear x1;intro ad ea aE;subst aE
 have len:ks.length=B.length:=by
  have h1:=cq zg k1
  have h2:=cq zg k2
  have h3:=(cl ⟨.nil,0⟩ (λ_=>.none) (λ_=>dP)).length
  rw [cZ,cZ] at h1
  rw [cZ] at h2
  lia
 have z1:((ks.map D.str).zip B).map (·.1)=ks.map D.str:=QU (by rw [cZ];lia)
 have z2:((ks.map D.str).zip B).map (·.2)=B:=List.map_snd_zip (by rw [cZ];lia)
 refine q _ bq h1 aZ aS (.inr ⟨ad,(ks.map D.str).zip B,ks,rfl,?_,by rw [z2],z1,λp hp=>pl _ (by rw [<-z2];exact cF.mpr ⟨p,hp,rfl⟩),?_⟩)
 .cases z:s.heap.get? ad with
  |none=>rfl
  |some ob=>exact bP (dy ea) (aS.out ad ob z (λz=>nomatch z)).2
 .refine gR.ok (aJ:=aU KT) S1 (β:=λ_=>.none) (FZ:=λ_=>dP) (λ_ _ _ e=>nomatch e) (λb E _ sf=>⟨sf.1,λz=>sf.2 ?_⟩) (λ_ _ z=>z.elim) (.dict (by rw [k1,z1]) (by rw [k2,z2];exact cl _ _ _)) (S1.ref ea g1)
  rw [cA.mp z];exact dy ea
noncomputable def vV(k num:H):H->aa D
 |30=>some (hU k)
 |31=>some (fR k)
 |32=>some (.int (.ofNat num))
 |_=>.none
noncomputable def oZ(k:H)(ws:G H):aa D:=vX k (ws.any i7) (ws.any fH)
noncomputable def oO(num:H)(ws:G H):aa H:=match ws.any λw=>bA w 2 with
 |true=>some num
 |false=>.none
theorem Uz(aV:Base c w K cz I mg mb)(h:ws∈dq){k num:H}(hk:k<4):ui c w I aH 60 642 [gI ws,fR k,.int (.ofNat num)] (sr (oZ k ws) (oO num ws)):=by
 refine eN (Fz hk) λk1 k2 k3 k4=>?_
 have e:=fU UA ws h
 unfold ow oz at e
 have pj:iF c (wb c w (vV k num)) I (gn cz (kP 20 zX []) (λ_=>.none) (λ_ _=>.none) 0):=Kz aV hk rfl rfl
 have ca:cE (aU aH) (vV k num) [gI ws,fR k,.int (.ofNat num)] [gI ws,.tok 31,.tok 32]:=eU (et (wc ws)) (eU (uw k1 k3 rfl) (uw rfl rfl rfl))
 have cn:cE (vV k num) (aU aH) [.tup [sN,.tok 32]] [Mine.Internal.num num]:=kj (eU (et rfl) (iG rfl))
 have pn:bC (Mine.Internal.num num)=true:=rfl
 have go:∀{ks:G ar} {B l':G D},some (D.aD (.dict ks) l')=some (match vY ws with
   |some k=>match ws.any λw=>bA w 2 with
    |true=>.aD (.dict [mK,nP]) [k,.tup [sN,.tok 32]]
    |false=>.aD (.dict [mK]) [k]
   |.none=>match ws.any λw=>bA w 2 with
    |true=>.aD (.dict [nP]) [.tup [sN,.tok 32]]
    |false=>.aD (.dict []) [])->cE (vV k num) (aU aH) l' B->(∀m∈B,bC m=true)->ui c w I aH 60 642 [gI ws,fR k,.int (.ofNat num)] (.aD (.dict ks) B):=λe2 cl pl=>aaA (aL:=vV k num) (aV.sound oM hN pj (.inl jD) (mj _) 60) (e.trans e2.symm) ca cl pl
 have tw:(vY ws=.none/\oZ k ws=.none)\/∃j v,vY ws=some (.tok j)/\oZ k ws=some v/\vV k num j=some v/\bC v=true:=by
  unfold vY oZ vX
  cases c1:ws.any fH with
  |true=>exact .inr ⟨31,_,rfl,rfl,rfl,k1⟩
  |false=>
   have e:(ws.any vY.MF)=ws.any i7:=rfl
   rw [e]
   cases c2:ws.any i7 with
   |true=>exact .inr ⟨30,_,rfl,rfl,rfl,k2⟩
   |false=>exact .inl ⟨rfl,rfl⟩
 unfold oO
 rcases tw with⟨e1,e2⟩|⟨j,v,e1,e2,e3,pv⟩
 .rw [e1] at go
  rw [e2]
  cases J:ws.any λw=>bA w 2 with
  |true=>
   rw [J] at go
   exact go rfl cn λm hm=>by rw [cA.mp hm];exact pn
  |false=>
   rw [J] at go
   exact go rfl KD λm hm=>nomatch hm
 .rw [e1] at go
  rw [e2]
  cases J:ws.any λw=>bA w 2 with
  |true=>
   rw [J] at go
   refine go rfl (eU (iG e3) cn) λm hm=>?_
   simp only [bY,eP,gF] at hm
   rcases hm with rfl|rfl
   .exact pv
   .exact pn
  |false=>
   rw [J] at go
   exact go rfl (iG e3) λm hm=>by rw [cA.mp hm];exact pv
theorem Nz(P:ui c w I aH eC a args (.aD (.dict ks) (R.map (·.2))))(hk:R.map (·.1)=ks.map D.str)(ca:cE aL (aU aH) oh args)(J:cK ((o.t.ins o.n (.dict R)).get o.n)=true):nV c (wb c w aL) I eC a oh o (.ref o.n) ⟨o.t.ins o.n (.dict R),cX o.n⟩:=by
 intro Y F C s V room S y Q au q
 have dG:∀a∈F++C,a∈F\/a∈C:=λa ha=>dI.mp ha
 have SK:=S.bare dG (aU aH)
 refine P Y (F++C) s V room SK (ca.qp S dG (λa ha=>nomatch ha) y) _ _ λv bq h1 aZ aS p1=>?_
 have keep:∀b E,s.heap.get? b=some E->h1.get? b=some E:=λb E e=>aS.keep b E e (λz=>nomatch z) (λz=>nomatch z)
 rcases p1 with⟨e,_⟩|⟨ad,qM,xW,rfl,fr,e1,e2,e3,x⟩
 .nomatch e
 .injection e1 with e4 e5
  injection e4 with e4
  have UN:qM=R:=by
   have h1:qM.map (·.1)=R.map (·.1):=by rw [e2,hk,e4]
   rw [<-Q_ qM,<-Q_ R,Q8,Q9,Q8,Q9]
   refine(?_:(qM.map (·.1)).zip (qM.map (·.2))=(R.map (·.1)).zip (R.map (·.2)))
   rw [h1,e5]
  subst UN
  have aa7:∀b E,h1.get? b=some E->cM (F++C) [ad] b->cM F (C++[ad]) b:=λb E _ sf=>⟨λz=>sf.1 (iR _ z),λz=>(dI.mp z).elim (λz=>sf.1 (fC _ z)) sf.2⟩
  have ob:OR c (wb c w aL) F (C++[ad]) h1 ad (.dict qM):=by
   refine xA x ?_;clear x;intro x y
   refine⟨?_,y⟩
   have pv:∀(p:D×D),p∈qM->∀v,VR c (wb c w (aU aH)) (F++C) [ad] h1 p.2 v->VR c (wb c w aL) F (C++[ad]) h1 p.2 v:=λp hp v xv=>xv.plain (w:=wb c w (aU aH)) (w':=wb c w aL) aa7 rfl (e3 p hp)
   have un:∀{L:Type} {key:L->D} {B:G (D×D)} {aR:G (L×aw)},(∀p∈B,p∈qM)->Under (VR c (wb c w (aU aH)) (F++C) [ad] h1) key B aR->Under (VR c (wb c w aL) F (C++[ad]) h1) key B aR:=by
    intro L key B aR hl u
    induction u with
    |nil=>exact .nil
    |cons a b O=>exact .cons (pv _ (hl _ (.head _)) _ a) (O λp hp=>hl p (.tail _ hp))
   rcases x with⟨aR,d,u,z⟩|⟨aR,d,u⟩
   .exact .inl ⟨aR,d,un (λp hp=>hp) u,z⟩
   .exact .inr ⟨aR,d,un (λp hp=>hp) u⟩
  refine cf (S.alloc fr keep ob J) λst S1 hp=>?_
  exact q _ _ h1 aZ st ⟨S1,by exact⟨ad,hp,rfl⟩⟩
theorem aaB(P:ui c w I aH eC a args .none):mh c w I aH eC a args .none:=by
 intro Y F s V room S y Q au q
 refine P Y F s V room S y _ _ λv bq h1 aZ aS p1=>q v bq h1 aZ aS ?_
 rcases p1 with⟨_,e⟩|⟨_,_,_,_,_,e,_⟩
 .exact e
 .nomatch e
end
theorem cG.app(x:cG aQ aJ o β FZ B l')(y:cG aQ aJ o β FZ m m'):cG aQ aJ o β FZ (B++m) (l'++m'):=by
 induction B generalizing l' with
 |nil=>cases x with
  |nil=>exact y
 |cons a B O=>cases x with
  |cons a b=>exact .cons a (O b)
theorem cG.take(n:H)(x:cG aQ aJ o β FZ B l'):cG aQ aJ o β FZ (B.take n) (l'.take n):=by
 induction n generalizing B l' with
 |zero=>exact .nil
 |succ n O=>cases x with
  |nil=>exact .nil
  |cons a b=>exact .cons a (O b)
theorem cG.drop(n:H)(x:cG aQ aJ o β FZ B l'):cG aQ aJ o β FZ (B.drop n) (l'.drop n):=by
 induction n generalizing B l' with
 |zero=>exact x
 |succ n O=>cases x with
  |nil=>exact .nil
  |cons _ b=>exact O b
noncomputable def mM(u:H)(d_:D)(ps:G D)(i:H):aa D:=if i=0 then some aH else if i=27 then some (cC u) else if i=40 then some d_ else if 50<=i then ps[i-50]? else none
theorem afQ(h:ws∈dq):gy t ws=true:=by
 have:allB (gy t) dq=true:=by
  have app:∀{B m:G (G H)},allB (gy t) B=true->allB (gy t) m=true->allB (gy t) (B++m)=true:=by
   intro B m h1 h2
   induction B with
   |nil=>exact h2
   |cons a B O=>
    refine xA (aN.mp (h1:(gy t a&&allB (gy t) B)=true)) λe1 e2=>?_
    refine(?_:(gy t a&&allB (gy t) (B++m))=true)
    rw [e1,O e2];rfl
  unfold dq
  cases t
  .exact app afG (app afH (app afI (app afJ (app afK (app afL (app afM afN))))))
  .exact app afR (app afS (app afT (app afU (app afV (app afW (app afX afY))))))
 exact b7 this ws h
theorem aeH:mM u d_ ps (50+i)=ps[i]?:=by
 unfold mM
 rw [bl (by lia),bl (by lia),bl (by lia),bT (by lia),jO]
section
variable{c:a_}{w:dF}{I:aP}{K:b8}{mg mb:ar->aa aw}{Y:bG}{F C:G aA}{s:aT}{h M:aP}{o:MH}{aL aQ aJ:H->aa D}{eC a:H}
theorem zZ(ht:∀i,i<ps.length->aQ (50+i)=ps[i]?)(o:MH)(β:H->aa H)(FZ:H->Prop):cG aQ aJ o β FZ (toks ps.length) ps:=by
 have:=qI (aQ:=aQ) (aJ:=aJ) (o:=o) (β:=β) (FZ:=FZ) (f:=λi=>.tok (50+i)) (g:=λi=>ps.getD i .none) (B:=fY ps.length) λi hi=>by
  have hi:=md.mp hi
  exact .fc (by rw [ht i hi,cV hi];simp [qA,hi])
 rw [map_getD] at this
 exact this
theorem DS(ht:∀i,i<ps.length->aJ (50+i)=ps[i]?)(pl:∀m∈ps,cR m=true)(o:MH)(β:H->aa H)(FZ:H->Prop):cG aQ aJ o β FZ ps (toks ps.length):=by
 have:=qI (aQ:=aQ) (aJ:=aJ) (o:=o) (β:=β) (FZ:=FZ) (f:=λi=>ps.getD i .none) (g:=λi=>.tok (50+i)) (B:=fY ps.length) λi hi=>by
  have hi:=md.mp hi
  refine xA (aN.mp (pl _ (getD_mem hi))) λk1 k2=>?_
  exact .eT k1 k2 (by rw [ht i hi,cV hi];simp [qA,hi])
 rw [map_getD] at this
 exact this
theorem Oa(hi:i<aG.length)(k num:H):setAt (cY k num aG 0) i aF=jc k num (aG.take i) (aG.drop (i+1))/\aG=aG.take i++aG[i]::aG.drop (i+1):=by
 refine⟨?_,?_⟩
 .unfold setAt cY jc
  refine(?_:(List.take i (_++[]))++aF::List.drop (i+1) (_++[])=_)
  rw [h_,QW,QT]
 .rw [<-List.drop_eq_getElem_cons hi,List.take_append_drop]
theorem LK(hi:i<aG.length):(bD aG).getD i 0=aG[i].1:=by
 unfold bD
 simp [qA,hi]
noncomputable def FN(ub:ah)(ws:G H)(i:H):ah:=dB i ws.length&&bA (ws.getD i 0) 0&&(ws.drop (i+1)).all (λx=>!(bA x 0))&&(ub||((ws.take i).any (λx=>bA x 0)&&!(ws.any fH)))
theorem YC:allB (λws=>allB (FN true ws) (A0 true ws)&&allB (FN false ws) (A0 false ws)) dq=true:=by kernel_rfl
theorem YD(hw:bD aG∈dq)(h:i∈A0 ub (bD aG)):∃hi:i<aG.length,aG[i].1=0/\(∀x∈aG.drop (i+1),x.1≠0)/\(ub=true\/(∃x∈aG.take i,x.1=0)/\(bD aG).any fH=false):=by
 have J:FN ub (bD aG) i=true:=by
  have J:=b7 YC _ hw
  cases ub with
  |true=>exact b7 (bx J) i h
  |false=>exact b7 (bL J) i h
 have c2:=bx J
 have hi:i<aG.length:=by
  have:=dw (bx (bx c2))
  unfold bD at this
  rwa [cZ] at this
 refine⟨hi,(LK hi).symm.trans (dU (bL (bx c2))),λx hx q=>?_,(k_.mp (bL J)).imp_right λJ=>⟨?_,(wh _).mp (bL J)⟩⟩
 .have:=l9.mp (bL c2) x.1 (by unfold bD;rw [<-QT];exact QZ hx)
  rw [q] at this
  exact bz this
 .refine ay (zc.mp (bx J)) λy hy e=>?_
  unfold bD at hy
  rw [<-QW] at hy
  refine ay (cF.mp hy) λx hx aE=>?_;subst aE
  exact⟨x,hx,dU e⟩
theorem Oz(h:i<B.length):(setAt B i v).length=B.length:=by
 unfold setAt
 rw [fy,iQ,zh,rL,Rh (rS h),mV _ 1,<-ph]
 exact wF h
theorem Af(h1:1<=n)(h2:n<=3)(t:ah):(n,n,t)∈fits:=(by decide:∀n,n<4->1<=n->∀t:ah,(n,n,t)∈fits) n (rT h2) h1 t
theorem VD:∀n,n<4->1<=n->(n+1,n,true)∈fits:=by decide
theorem VF:∀n,n<4->1<=n->(n+2,n,true)∈fits:=by decide
theorem Z7(h1:1<=n)(h2:n<=3):(n+1,n,false)∈p8:=(by decide:∀n,n<4->1<=n->(n+1,n,false)∈p8) n (rT h2) h1
theorem Z6(h1:1<=n)(h2:n<=3)(t:ah):(n-1,n,t)∈p8:=(by decide:∀n,n<4->1<=n->∀t:ah,(n-1,n,t)∈p8) n (rT h2) h1 t
theorem J0(h:ws∈dq):1<=ws.length:=by
 have:allB (λws:G H=>eB 1 ws.length) dq=true:=by decide+kernel
 exact dw (b7 this ws h)
noncomputable def mq(u:H)(ws:G H):H:=match vC ws with
 |true=>2
 |false=>match u with
  |0=>0
  |_=>1
theorem aa9(aV:Base c w K cz I mg mb)(h:bD aG∈dq){k u num:H}(hk:k<4)(hu:u<3)(hn:num∈[1,2,3])(ht:∀i,i<aG.length->aL (50+i)=(cY k num aG 0)[i]?)(hL:L∈ones (Io (mq u (bD aG))) t (bD aG)):
  ∃L',(∀o β FZ,cG aL (aU aH) o β FZ L L')/\kh c w I aH 180 (oneOf L') (dk (cC u) (cD (c_ (bD aG) t))) .none:=by
 have hw:∀wd∈aG,wd.1∈six:=λwd m=>lW h _ (cF.mpr ⟨wd,m,rfl⟩)
 have l3:=r4 h
 have l1:=J0 h
 have len:(bD aG).length=aG.length:=by unfold bD;rw [cZ]
 rw [len] at l1 l3
 have lp:(cY k num aG 0).length=aG.length:=by unfold cY;rw [fy,cZ];rfl
 have nL:=vJ hk hn hw (ik:=0)
 have ct:∀o β FZ,cG aL (aU aH) o β FZ (toks aG.length) (cY k num aG 0):=λo β FZ=>by
  have:=zZ (aQ:=aL) (aJ:=aU aH) (ps:=cY k num aG 0) (λi hi=>ht i (lp▸hi)) o β FZ
  rw [lp] at this
  exact this
 have at_:∀{i:H},i<aG.length->(∀o β FZ,cG aL (aU aH) o β FZ (setAt (toks aG.length) i aF) (setAt (cY k num aG 0) i aF)):=λhi o β FZ=>((ct o β FZ).take _).app (.cons (.same rfl) ((ct o β FZ).drop _))
 unfold ones at hL
 rw [len] at hL
 rcases dI.mp hL with hL|hL
 .cases t with
  |true=>nomatch hL
  |false=>
   rw [cA.mp hL]
   refine⟨cY k num aG 0++[j0],λo β FZ=>(ct o β FZ).app (.cons (.same rfl) .nil),Nm aV h (λp hp=>?_) ?_⟩
   .rcases dI.mp hp with q|q
    .exact nL p q
    .rw [cA.mp q];exact .tail _ (.tail _ (.tail _ (.head _)))
   .rw [fy,lp,len];exact Z7 l1 l3
 .refine dC (bY.mp hL) (λrf=>?_) λhL=>?_
  .rw [rf];refine⟨(cY k num aG 0).dropLast,λo β FZ=>?_,Nm aV h (λp hp=>nL p ((List.dropLast_sublist _).subset hp)) ?_⟩
   .rw [zd,zd]
    have e1:(toks aG.length).length=aG.length:=by unfold toks;rw [cZ,wA]
    rw [e1,lp]
    exact(ct o β FZ).take _
   .rw [QO,lp,len];exact Z6 l1 l3 t
  .refine ay (cF.mp hL) λi hi aE=>?_;subst aE
   rcases dI.mp hi with hi|hi
   .refine xA (t7.mp hi) λi1 i2=>?_
    have i1:=md.mp i1
    rw [len] at i1
    refine xA (Oa i1 k num) λe1 e2=>?_
    refine⟨_,at_ i1,?_⟩
    rw [e1]
    have ne:aG[i].1≠0:=λq=>by rw [LK i1,q] at i2;nomatch i2
    have M:=h
    rw [e2] at M
    have:=ZL (t:=t) aV hk hu hn M ne (by
     have:(jc k num (aG.take i) (aG.drop (i+1))).length=aG.length:=by rw [<-e1];exact(Oz (lp.symm▸i1)).trans lp
     rw [this,<-e2,len];exact Af l1 l3 t)
    rw [<-e2] at this
    exact this
   .refine fM (YD h hi) λi1 z0 nz cond=>?_
    refine xA (Oa i1 k num) λe1 e2=>?_
    refine⟨_,at_ i1,?_⟩
    rw [e1]
    have M:=h
    have e3:aG[i]=(0,aG[i].2):=by rw [<-z0]
    rw [e2,e3] at M
    have hf:((jc k num (aG.take i) (aG.drop (i+1))).length,(bD (aG.take i++(0,aG[i].2)::aG.drop (i+1))).length,t)∈fits:=by
     have:(jc k num (aG.take i) (aG.drop (i+1))).length=aG.length:=by rw [<-e1];exact(Oz (lp.symm▸i1)).trans lp
     rw [this,<-e3,<-e2,len];exact Af l1 l3 t
    have pL:kh c w I aH 180 (oneOf (jc k num (aG.take i) (aG.drop (i+1)))) (dk (cC u) (cD (c_ (bD (aG.take i++(0,aG[i].2)::aG.drop (i+1))) t))) .none:=by
     by_cases u0:u=0
     .subst u0
      have aaM:Io (mq 0 (bD aG))=false:=by unfold mq;cases vC (bD aG)<;>rfl
      rw [aaM] at cond
      rcases cond with q|⟨q1,q2⟩
      .nomatch q
      .exact ZO aV hk hn M q1 (by rw [<-e3,<-e2];exact q2) hf
     .have ae5:u∈[1,2]:=by
       rcases qZ hu with rfl|rfl|rfl
       .exact bP rfl u0
       .decide
       .decide
      exact ZM aV hk ae5 hn M nz hf
    rw [<-e3,<-e2] at pL
    exact pL
theorem Tx{a b:D}(e:Ec (mq u ws) a b=some r):mq u ws=1/\u≠0:=by
 unfold mq at e⊢
 generalize J:vC ws=ax at e
 cases ax with
 |true=>nomatch e
 |false=>
  cases u with
  |zero=>nomatch e
  |succ u=>exact⟨rfl,rV u⟩
theorem ZT(h:u≠0):uD (⟨.nil,0⟩:MH) (cC u) kO=some false:=by
 cases u with
 |zero=>exact bP rfl h
 |succ u=>cases u with
  |zero=>kernel_rfl
  |succ u=>kernel_rfl
theorem U7(aV:Base c w K cz I mg mb)(ht:aL 27=some (cC u))(hk:aL 0=some aH):∀a b r,Ec (mq u ws) a b=some r->tV c (wb c w aL) I a b r:=by
 intro a b r e
 have hc:=Tx e
 rw [hc.1] at e
 have e:(match gO 27 a&&eW b kO with
  |true=>some false
  |false=>.none)=some r:=e
 refine xA (bI e) λJ e=>?_
 have e:=aM e
 rw [<-e]
 refine xA (aN.mp J) λc1 c2=>?_
 rw [lF c1,iK c2]
 intro Y own F C s o u1 u2 S hu x1 x2
 have T:=aV.top (aL:=aU aH) (gX:=λ_ _ _=>.none) (tv:=ke) (eq:=λ_ _=>.none) (pull:=0) (kY rfl) hN
 have dG:∀a∈F++C,a∈F\/a∈C:=λa ha=>dI.mp ha
 have SK:=S.bare dG (aU aH)
 have X1:=(iG (aJ:=aU aH) ht).vr S dG (λa (ha:a∈([]:G aA))=>nomatch ha) x1
 have X2:=(et (aQ:=aL) (aJ:=aU aH) (m:=kO) rfl).vr S dG (λa (ha:a∈([]:G aA))=>nomatch ha) x2
 have me:=ZT hc.2
 refine xA (Ab (own:=[]) T SK hu me X1 X2) λE1 E2=>?_
 refine⟨λQ au q=>E1 Q au λv bq h1 aZ aS p1=>?_,λQ au q=>E2 Q au λv bq h1 aZ aS p1=>?_⟩
 .refine cf p1 ?_;clear p1;intro eJ aI aE;subst eJ;subst aI;subst aE
  exact q _ C _ aZ (.refl ..) ⟨rfl,rfl,rfl⟩
 .refine cf p1 ?_;clear p1;intro eJ aI aE;subst eJ;subst aI;subst aE
  exact q _ C _ aZ (.refl ..) ⟨rfl,rfl,rfl⟩
end
section
variable{c:a_}{w:dF}{I:aP}{K:b8}{mg mb:ar->aa aw}{Y:bG}{F F2 C:G aA}{s:aT}{h M:aP}{o:MH}{aL aQ aJ:H->aa D}{eC a:H}{aj ap:aA}
theorem Im(S:St c (wb c w aQ) I F C o h)(e0:C[0]?=some aj)(e1:C[i]?=some ap)(hi:i≠0)(j:o.t.get 0=some .dh)(B:o.t.get i=some (.list b r))(J:cE aQ aJ r r')(lr:r'.length<=b')(lb:b'<=4096)(dG:∀a∈F2,a∈F\/(a∈C/\a≠aj/\a≠ap)):
  St c (wb c w aJ) I F2 [aj,ap] (fA [.dh,.list b' r']) h:=by
 have ne:aj≠ap:=λq=>hi (qe S.apart e1 (q▸e0))
 have sub:∀a∈[aj,ap],a∈C:=λa ha=>by
  simp only [bY,eP,gF] at ha
  rcases ha with rfl|rfl
  .exact dy e0
  .exact dy e1
 refine S.mJ (β:=λ_=>.none) (FZ:=λ_=>dP) rfl (by simp [ne]) (λa ha=>?_) (λa E _ sf=>⟨λq=>(dG a q).elim sf.1 λz=>sf.2 z.1,λq=>sf.2 (sub a q)⟩) (λ_ _ q=>q.elim) (λ_ _ _ q=>nomatch q) (λk a ek=>?_)
 .rcases dG a ha with q|⟨q1,q2,q3⟩
  .refine cf (S.cI a q) λz1 z2 z3=>?_
   exact⟨z1,λz=>z2 (sub a z),z3⟩
  .obtain⟨i',ES,e⟩:=iE q1
   refine ay (S.at_ i' a (by rw [cV ES,e])) λE _ x=>?_
   refine⟨x.some,λz=>?_,?_⟩
   .simp only [bY,eP,gF] at z
    exact z.elim q2 q3
   .cases z:I.get? a with
    |none=>rfl
    |some E=>exact bP q1 (S.keep a E z).2
 .match k,ek with
  |0,ek=>cases ek;exact⟨0,_,_,e0,j,rfl,.dh⟩
  |1,ek=>cases ek;exact⟨i,_,_,e1,B,rfl,.list (J _ _ _) lr lb⟩
noncomputable def JR(c:a_)(w:dF)(I:aP)(KT:D)(eC:H)(args ps:G D):Prop:=
 ∀(Y:bG) (F:G aA) (aj ap:aA) (s:aT) (V:G aw),eY eC Y->St c (wb c w (aU KT)) I F [aj,ap] (fA [.dh,.list 63 ps.reverse]) s.heap->aW c (wb c w (aU KT)) F [aj,ap] s.heap args V->
  bc c (wb c w (aU KT)) Y [] [aj,ap] s (call (.ref 654) V) (λv _ M=>v=.bool true/\St c (wb c w (aU KT)) I F [aj,ap] (fA [.dh,.list 63 ps.reverse]) M)
theorem Zb(e:Nc n m o=true):m=.bool true/\o.t.get 0=some .dh/\∃b,o.t.get 1=some (.list b (toks n).reverse):=by
 have e:=aN.mp e
 have e1:=aN.mp e.1
 refine ay (nH e1.2) λE h J=>?_
 refine ay (nH e.2) λp h1 c1=>?_
 exact⟨iK e1.1,h.trans (cq some (MB J)),p.1,by rw [eu c1];exact sY h1⟩
theorem Bt(k num:H)(aG:G (H×ah))(m:H):(cY k num aG m).length=aG.length+m:=by unfold cY;rw [fy,cZ,dZ]
theorem Ca(aG:G (H×ah)):(bD aG).length=aG.length:=by unfold bD;rw [cZ]
theorem afE(W:gy t ws=true):yV (mq u ws) t ws=true:=by
 unfold gy at W
 unfold mq
 generalize vC ws=ax at W
 cases ax with
 |true=>exact W
 |false=>
  have W:=aN.mp W
  cases u with
  |zero=>exact W.1
  |succ=>exact W.2
theorem afF(ws:G H)(h:aJ 27=some (cC u)):Cv aQ aJ o β FZ (cC u) (PA (mq u ws)):=by
 have tok:Cv aQ aJ o β FZ (cC u) (.tok 27):=.eT (o5 u) (B0 u) h
 unfold mq
 cases vC ws with
 |true=>exact tok
 |false=>cases u with
  |zero=>exact .same rfl
  |succ=>exact tok
theorem afP(aV:Base c w K cz I mg mb)(h:bD aG∈dq){k u num:H}(hk:k<4)(hu:u<3)(hn:num∈[1,2,3])(hp:∀aL,qD c (wb c w aL) I 595):
  JR c w I aH 230 [.ref 0,.tok 0,gI (bD aG),.ref 1,cC u,.bool t,dk (cC u) (cD (c_ (bD aG) t))] (cY k num aG 0):=by
 intro Y F aj ap s V room S y Q au q
 have hw:∀wd∈aG,wd.1∈six:=λwd m=>lW h _ (cF.mpr ⟨wd,m,rfl⟩)
 have nL:=vJ hk hn hw (ik:=0)
 have lp:=Bt k num aG 0
 rw [CG] at lp
 have l3:=r4 h
 rw [Ca] at l3
 have E3:cR (dk (cC u) (cD (c_ (bD aG) t)))=true:=by
  unfold cR
  have e1:=o5 u
  have e2:=Ih h t
  rw [<-fB] at e1 e2⊢
  refine(?_:((bE rl&&(bE nQ&&(bE rn&&(bE (cC u)&&((bE rl&&(bE lS&&(bE rn&&(bE kO&&(bE (c_ (bD aG) t)&&true)))))&&true)))))&&true)=true)
  rw [e1,e2];rfl
 refine xA (aN.mp E3) λAZ xW=>?_
 have ht:∀i,mM u (dk (cC u) (cD (c_ (bD aG) t))) (cY k num aG 0) (50+i)=(cY k num aG 0)[i]?:=λi=>aeH
 generalize Xn:dk (cC u) (cD (c_ (bD aG) t))=d_ at*
 have DH:cE (aU aH) (mM u d_ (cY k num aG 0)) (cY k num aG 0).reverse (toks aG.length).reverse:=λo β FZ=>by
  have:=(DS (aQ:=aU aH) (aJ:=mM u d_ (cY k num aG 0)) (ps:=cY k num aG 0) (λi _=>ht i) (λm hm=>b7 uo m (nL m hm)) o β FZ).reverse .nil
  rw [h_,h_,lp] at this
  exact this
 have DN:cE (mM u d_ (cY k num aG 0)) (aU aH) (toks aG.length).reverse (cY k num aG 0).reverse:=λo β FZ=>by
  have:=(zZ (aQ:=mM u d_ (cY k num aG 0)) (aJ:=aU aH) (ps:=cY k num aG 0) (λi _=>ht i) o β FZ).reverse .nil
  rw [h_,h_,lp] at this
  exact this
 have lt:(toks aG.length).reverse.length<=63:=by unfold toks;rw [ez,cZ,wA];exact dQ l3 (by decide)
 have lq:(cY k num aG 0).reverse.length<=63:=by rw [ez,lp];exact dQ l3 (by decide)
 have S':=Im (aJ:=mM u d_ (cY k num aG 0)) (F2:=F) S (i:=1) rfl rfl (by decide) rfl rfl DH lt (by decide) (λa ha=>.inl ha)
 have pj:iF c (wb c w (mM u d_ (cY k num aG 0))) I (WW (mq u (bD aG)) t (bD aG)):=by
  refine vH (λp gU o=>?_) (λd hd=>nomatch hd)
  refine ay (cF.mp gU) λL hL aE=>?_;rw [<-aE]
  refine ay (aa9 (aL:=mM u d_ (cY k num aG 0)) aV h hk hu hn (λi _=>ht i) hL) λL' J gL=>?_
  rw [Xn] at gL
  exact rh (aaB (a:=382) gL) (eU (λ_ _ _=>.cons (.gZ rfl rfl) .nil) (eU (kj (eU (et rfl) (eU (kj J) (et rfl)))) (iG rfl))) (et rfl)
 have ev:=afE (u:=u) (afQ (t:=t) h)
 have gp:=aV.sound (aL:=mM u d_ (cY k num aG 0)) oM (U7 aV (ws:=bD aG) rfl rfl) pj (.inr (hp _)) zG 230
 have y':=cG.ok (aJ:=mM u d_ (cY k num aG 0)) (F2:=F) (bf:=[aj,ap]) S (β:=some) (FZ:=λ_=>dP) (λi j a e x=>aM e▸x) (λa E _ sf=>sf) (λ_ _ z=>z.elim) (.cons (.ref rfl) (.cons (.gZ (i:=0) (j:=0) rfl rfl) (.cons (.same (wc _)) (.cons (.ref rfl) (.cons (afF (bD aG) rfl) (.cons (.same rfl) (.cons (.eT (j:=40) AZ xW rfl) .nil))))))) y
 unfold yV at ev
 rw [Ca] at ev
 refine gp.call Y F [aj,ap] s _ (.fn 654) (.ref 654) _ V _ room S' (by rfl) y' ev _ _ λv bq h1 aZ aS p1=>?_
 refine PV.el p1 λm bM e1 S1 x1=>?_
 refine cf (Zb e1) λeJ g0 bB=>bw bB λb1 g1=>?_;subst eJ
 have a0:bq[0]?=some aj:=by rw [ja aS.pre (by simp)];rfl
 have a1:bq[1]?=some ap:=by rw [ja aS.pre (by simp)];rfl
 exact q v bq h1 aZ aS ⟨x1,Im (F2:=F) S1 a0 a1 (by decide) g0 g1 DN lq (by decide) (λa ha=>.inl ha)⟩
end
section
set_option tactic.hygienic true
noncomputable def iY(u:H)(t:ah)(k num:H)(d_:D)(ps ws:G D)(i:H):aa D:=if 60<=i then ws[i-60]? else if 50<=i then ps[i-50]? else lY u t k num d_ i
theorem Vg(t:aa D)(E:aa H):∃ks,sr t E=.aD (.dict ks) ((su t E).map (·.2))/\(su t E).map (·.1)=ks.map D.str:=by
 cases t<;>cases E<;>exact⟨_,rfl,rfl⟩
theorem MJ(e:Ft n v=true):v=.aD (.list 63) (tQ n):=by
 refine ay (My e) λB aI e=>?_;rw [aI]
 rw [eu e]
section
variable{c:a_}{w:dF}{I:aP}{K:b8}{mg mb:ar->aa aw}{Y:bG}{F F2 C:G aA}{s:aT}{h M:aP}{o:MH}{aL aQ aJ:H->aa D}{eC a:H}{aj ap:aA}
theorem adA(e:OD n o v=true):∃i b,v=.ref i/\i≠0/\o.t.get i=some (.list b (toks n).reverse):=by
 refine ay (nH e) λr h e=>?_
 refine eO (Ew h) λi b h1 h2 h3=>?_
 exact⟨i,b,aM h1,wH h2,by rw [eu e];exact h3⟩
theorem aeQ(e:three f B=true):∃x y z,B=[x,y,z]/\f x y z=true:=by
 rcases B with _|⟨x,_|⟨y,_|⟨z,_|⟨u,r⟩⟩⟩⟩<;>first|exact bz e|exact⟨x,y,z,rfl,e⟩
theorem adi(e:BI f B=true):∃x1 x2 x3 x4 x5 x6 x7,B=[x1,x2,x3,x4,x5,x6,x7]/\f x1 x2 x3 x4 x5 x6 x7=true:=by
 rcases B with _|⟨x1,_|⟨x2,_|⟨x3,_|⟨x4,_|⟨x5,_|⟨x6,_|⟨x7,_|⟨u,r⟩⟩⟩⟩⟩⟩⟩⟩<;>first|exact bz e|exact⟨x1,x2,x3,x4,x5,x6,x7,rfl,e⟩
theorem X9(e:MA o v=true):v=.ref 0/\o.t.get 0=some .dh:=by
 refine xA (AR e) λe1 e2=>?_
 exact⟨aM e1,e2⟩
theorem afO(W:JR c w I aH eC [.ref 0,m2,m3,.ref 1,m5,m6,m7] ps)(g0:o.t.get 0=some .dh)(hi:i≠0)(g1:o.t.get i=some (.list b (toks n).reverse))(DH:cE aL (aU aH) (toks n).reverse ps.reverse)(DN:cE (aU aH) aL ps.reverse (toks n).reverse)(lp:ps.length<=63)
  (c2:cE aL (aU aH) [Zl] [m2]) (c3:cE aL (aU aH) [Zm] [m3]) (c5:cE aL (aU aH) [Zn] [m5]) (c6:cE aL (aU aH) [Zo] [m6]) (c7:cE aL (aU aH) [Zp] [m7]):nV c (wb c w aL) I eC 654 [.ref 0,Zl,Zm,.ref i,Zn,Zo,Zp] o (.bool true) o:=by
 intro Y F C s V room S y Q au q
 have y':=y
 replace y:=y.cj;obtain⟨v1,r,rfl,y1,y⟩:=y
 replace y:=y.cj;obtain⟨v2,r,rfl,y2,y⟩:=y
 replace y:=y.cj;obtain⟨v3,r,rfl,y3,y⟩:=y
 replace y:=y.cj;obtain⟨v4,r,rfl,y4,y⟩:=y
 refine ay y1 ?_;clear y1;intro aj e0 aE;skip
 refine ay y4 ?_;clear y4;intro ap e1 aE;skip
 have ne:aj≠ap:=λz=>hi (qe S.apart e1 (z▸e0))
 have dG:∀J,J∈F++C.filter (λJ=>!(J==aj)&&!(J==ap))↔J∈F\/(J∈C/\J≠aj/\J≠ap):=λJ=>by
  rw [dI,t7]
  simp
 generalize F++C.filter (λJ=>!(J==aj)&&!(J==ap))=F2 at dG
 have h2:∀J∈[aj,ap],J∈C:=λJ hc=>by
  simp only [bY,eP,gF] at hc
  rcases hc with rfl|rfl
  .exact dy e0
  .exact dy e1
 have SK:=Im (aJ:=aU aH) (F2:=F2) S e0 e1 hi g0 g1 DH (by rw [ez];exact lp) (by decide:63<=4096) (λJ hc=>(dG J).mp hc)
 have ji:∀(j k:H) (J:aA),(λj=>if j=0 then some 0 else if j=i then some 1 else none) j=some k->C[j]?=some J->[aj,ap][k]?=some J:=λj k J ek ec=>by
  dsimp only at ek
  split at ek
  .rename_i z;cases ek;rw [z,e0] at ec;exact ec
  .split at ek
   .rename_i z;cases ek;rw [z,e1] at ec;exact ec
   .nomatch ek
 have yK:=cG.ok (aJ:=aU aH) (F2:=F2) (bf:=[aj,ap]) S (β:=λj=>if j=0 then some 0 else if j=i then some 1 else none) (FZ:=λ_=>dP) ji (λJ E _ sf=>⟨λz=>((dG J).mp z).elim sf.1 λz=>sf.2 z.1,λz=>sf.2 (h2 J z)⟩) (λ_ _ z=>z.elim) (.cons (.ref rfl) (.cons (c2.one _ _ _) (.cons (c3.one _ _ _) (.cons (.ref (by rw [bl hi,bT rfl])) (.cons (c5.one _ _ _) (.cons (c6.one _ _ _) (.cons (c7.one _ _ _) .nil))))))) y'
 refine W Y F2 aj ap s _ room SK yK _ _ λv bq h1 aZ aS p1=>?_
 refine xA p1 ?_;clear p1;intro eJ S1;subst eJ
 have tG:bh [] [aj,ap] s.heap [aj,ap] h1:=bh.cut aS (λJ hc=>aS.pre.subset hc) (mT _)
 have Lr:C++[]=C:=h_ C
 refine eK (S.ref e1 g1) λaha nn _ _ YS YU=>?_
 have fr:=S.frame (e:=[]) (q6:=o) tG S1 rfl h2 (λJ hc=>(dG J).mpr (.inl hc)) (λJ hc hn=>(dG J).mpr (.inr ⟨hc,λz=>hn (by rw [z];exact .head _),λz=>hn (by rw [z];exact .tail _ (.head _))⟩)) rfl (β:=λ_=>.none) (λj k J eb _=>nomatch eb) (λj J ej=>by
  rw [Lr] at ej
  by_cases z:J=aj
  .obtain rfl:=z.symm
   have:=qe S.apart ej e0
   rw [this]
   exact .inr ⟨0,_,_,rfl,rfl,g0,.dh⟩
  .by_cases z2:J=ap
   .obtain rfl:=z2.symm
    have:=qe S.apart ej e1
    rw [this]
    exact .inr ⟨1,_,_,rfl,rfl,g1,.list (DN _ _ _) YS YU⟩
   .refine .inl ⟨ej,λq=>?_,rfl⟩
    simp only [bY,eP,gF] at q
    exact q.elim z z2)
 rw [Lr] at fr
 exact q _ C h1 aZ fr.1 ⟨fr.2,by rfl⟩
theorem kW{k num:H}(h:i<50):iY u t k num d_ ps ws i=lY u t k num d_ i:=by
 unfold iY
 rw [bl (by lia),bl (by lia)]
theorem HW{k num:H}(h:i<10):iY u t k num d_ ps ws (50+i)=ps[i]?:=by
 unfold iY
 rw [bl (by lia),bT (by lia),jO]
theorem HX{k num:H}:iY u t k num d_ ps ws (60+i)=ws[i]?:=by
 unfold iY
 rw [bT (by lia),jO]
theorem abj(aV:Base c w K cz I mg mb)(h:bD aG∈dq){k u num m:H}(hk:k<4)(hu:u<3)(hn:num∈[1,2,3])(hf:(aG.length+m,aG.length,t)∈fits)(hp:∀aL,qD c (wb c w aL) I 595):
  iF c (wb c w (iY u t k num (dk (cC u) (cD (c_ (bD aG) t))) (cY k num aG m) (fq (bD aG)))) I (WD aG.length m (su (oZ k (bD aG)) (oO num (bD aG)))):=by
 intro a args o q e
 have lp:=Bt k num aG m
 have mA:aG.length<=3/\m<=2:=by
  have:∀q∈fits,q.2.1<=3/\q.1<=q.2.1+2:=by decide
  have:=this _ hf
  dsimp only at this
  lia
 have lw:=Ca aG
 refine ay (Vg (oZ k (bD aG)) (oO num (bD aG))) λks d1 d2=>?_
 have uC:(aG.any λwd=>i7 wd.1)=(bD aG).any i7:=by unfold bD;rw [Cp];rfl
 have pJ:(aG.any λwd=>fH wd.1)=(bD aG).any fH:=by unfold bD;rw [Cp];rfl
 have e2:jK num aG .none=oO num (bD aG):=by unfold jK oO bD;rw [Cp];rfl
 have cw:∀{tb:H->aa D},(∀i,tb (60+i)=(fq (bD aG))[i]?)->cE tb (aU aH) [.aD (.list 63) (tQ aG.length)] [gI (bD aG)]:=λ{tb} ht o β FZ=>by
  have:=qI (aQ:=tb) (aJ:=aU aH) (o:=o) (β:=β) (FZ:=FZ) (f:=λi=>D.tok (60+i)) (g:=λi=>(fq (bD aG)).getD i .none) (B:=fY (fq (bD aG)).length) λi hi=>by
   have hi:=md.mp hi
   exact .fc (by rw [ht i,cV hi];simp [qA,hi])
  rw [map_getD] at this
  have l1:(fq (bD aG)).length=aG.length:=by unfold fq;rw [cZ,lw]
  rw [l1] at this
  exact .cons (.aD this) .nil
 have P:=ZK aV hk hu hn (aG:=aG) h (t:=t) (ik:=m) hf
 have W:=afP aV h hk hu hn (t:=t) hp (aG:=aG)
 have bj:=Uz aV h hk (num:=num)
 rw [uC,pJ,e2] at P
 have P:ui c w I aH 180 382 [.tok 0,oneOf (cY k num aG m),dk (cC u) (cD (c_ (bD aG) t))] (sr (oZ k (bD aG)) (oO num (bD aG))):=P
 rw [d1] at P bj
 generalize dk (cC u) (cD (c_ (bD aG) t))=d_ at*
 have e:GV aG.length m (su (oZ k (bD aG)) (oO num (bD aG))) a args o=some q:=e
 unfold GV at e
 generalize h1:bA a 382=ax at e
 cases ax with
 |true=>
  rw [dU h1]
  refine xA (uX e) λh2 e=>?_
  refine xA (jA e) λJ aI=>?_;rw [<-aI]
  rw [<-eu h2]
  refine Nz P d2 (eU (λ_ _ _=>.cons (.gZ (kW (by decide)) rfl) .nil) (eU (kj (eU (et rfl) (eU (kj λo β FZ=>?_) (et rfl)))) (iG (kW (by decide))))) J
  have:=zZ (aQ:=iY u t k num d_ (cY k num aG m) (fq (bD aG))) (aJ:=aU aH) (ps:=cY k num aG m) (λi hi=>HW (by lia)) o β FZ
  rw [lp] at this
  exact this
 |false=>
  dsimp only at e
  generalize h2:bA a 642=ax at e
  cases ax with
  |true=>
   rw [dU h2]
   refine xA (uX e) λJ e=>?_
   refine xA (jA e) λc0 aI=>?_;rw [<-aI]
   refine dO (aeQ J) λx y z bU d=>?_;rw [bU]
   rw [MJ (bx (bx d)),lF (bL (bx d)),lF (bL d)]
   exact Nz bj d2 (eU (cw λi=>HX) (eU (iG (kW (by decide))) (iG (kW (by decide))))) c0
  |false=>
   refine xA (uX e) λJ e=>?_
   rw [dU (bx J)]
   have e:=aM e
   rw [<-e]
   refine gJ (adi (bL J)) λx1 x2 bB=>gJ bB λx3 x4 dA=>dO dA λx5 x6 x7 Hq d=>?_;rw [Hq]
   have c6:=bx d
   have c5:=bx c6
   have c4:=bx c5
   have c3:=bx c4
   have c2:=bx c3
   refine xA (X9 (bx c2)) λeJ g0=>?_;rw [eJ]
   refine eO (adA (bL c4)) λi b aE hi g1=>?_;rw [aE]
   rw [xS (bL c2),MJ (bL c3),lF (bL c5),lF (bL c6),lF (bL d)]
   have nL:=vJ hk hn (λwd m=>lW h _ (cF.mpr ⟨wd,m,rfl⟩)) (ik:=0) (aG:=aG)
   have F9:=Bt k num aG 0
   have Ob:∀i,i<(cY k num aG 0).length->iY u t k num d_ (cY k num aG m) (fq (bD aG)) (50+i)=(cY k num aG 0)[i]?:=λi hi=>by
    rw [HW (by lia)]
    unfold cY at hi⊢
    rw [fy,cZ] at hi
    have hi:i<aG.length+0:=hi
    rw [iD (by rw [cZ];assumption),iD (by rw [cZ];assumption)]
   refine afO W g0 hi g1 (λo β FZ=>?_) (λo β FZ=>?_) (by rw [F9];lia) (λ_ _ _=>.cons (.gZ (kW (by decide)) rfl) .nil) (cw λi=>HX) (iG (kW (by decide))) (iG (kW (by decide))) (iG (kW (by decide)))
   .have:=(zZ (aQ:=iY u t k num d_ (cY k num aG m) (fq (bD aG))) (aJ:=aU aH) (ps:=cY k num aG 0) Ob o β FZ).reverse .nil
    rw [h_,h_,F9] at this
    exact this
   .have:=(DS (aQ:=aU aH) (aJ:=iY u t k num d_ (cY k num aG m) (fq (bD aG))) (ps:=cY k num aG 0) Ob (λm hm=>b7 uo m (nL m hm)) o β FZ).reverse .nil
    rw [h_,h_,F9] at this
    exact this
end
end
noncomputable def WJ:bQ:=gn cz (λ_ _ _=>.none) (λ_=>.none) (λ_ _=>.none) 0
noncomputable def Nb(m:D)(o:MH):aa D:=match m with
 |.ref i=>eQ (jj o i) λq=>some (.tup q.2)
 |_=>.none
noncomputable def xT(B:G D):aa D:=(run ip WJ 60).call (.fn 588) [.aD (.list 63) B] ⟨.nil,0⟩ Nb
noncomputable def F6(m:D)(o:MH):aa D:=match jj o 0 with
 |some q=>some (.tup [m,.tup q.2])
 |.none=>.none
noncomputable def Bu(x y n:ba):aa D:=(run ip WJ 20).call (.fn 595) [.ref 0,.int n] (fA [.list 2 [.int y,.int x]]) F6
noncomputable def AV(x:ba):D:=.int (o9 x 999999937+57)
noncomputable def Oe(x y n:ba):aa D:=match x with
 |.ofNat 0=>some (.tup [.int (o9 (I7 (o9 (y*48271+4241) 2147483647) 23) n),.tup [.int (o9 (y*48271+4241) 2147483647),.int (.ofNat 0)]])
 |x=>some (.tup [.int (o9 x n),.tup [.int y,.int (I7 x n)]])
noncomputable def MU:aa D:=(run ip WJ 300).call (.fn 567) [] ⟨.nil,0⟩ λv o=>some (kF o 20 v)
theorem Ye:xT []=some (.tup [.int 57,.int 0]):=by kernel_rfl
theorem Yf(m:H):(fY 63).map (λn=>xT (.int (.ofNat m)::di n .any))=(fY 63).map (λn=>@bN (λ_=>aa D) (some (.tup [AV (.ofNat m),.int 0])) (some (.tup [AV (.ofNat m),.int (.ofNat m)])) (!(ltZ (.ofNat m) 1000000000000000000))):=by kernel_rfl
theorem Yd(m:H):(fY 63).map (λn=>xT (.int (.negSucc m)::di n .any))=(fY 63).map (λn=>@bN (λ_=>aa D) (some (.tup [AV (1-.negSucc m),.int 0])) (some (.tup [AV (1-.negSucc m),.int (1-.negSucc m)])) (!(ltZ (1-.negSucc m) 1000000000000000000))):=by kernel_rfl
theorem ace(y:ba):[1,2,3,4,5,6,7].map (λn=>Bu (.ofNat 0) y n)=[1,2,3,4,5,6,7].map (λn=>Oe (.ofNat 0) y n):=by kernel_rfl
theorem acf(x:H)(y:ba):[1,2,3,4,5,6,7].map (λn=>Bu (.ofNat (cX x)) y n)=[1,2,3,4,5,6,7].map (λn=>Oe (.ofNat (cX x)) y n):=by kernel_rfl
theorem kinds_ok:MU=some aH:=by kernel_rfl
noncomputable def yj(k:FK)(n:H):ah:=match k with
 |.list _=>true
 |.dict ks=>bA ks.length n&&dB 0 n
 |.inst _ ks=>bA ks.length n&&dB 0 n
noncomputable def jo(m:D):ah:=@D.rec (λ_=>ah) (λ_=>ah) true (λ_=>true) (λ_=>true) (λ_=>true) (λ_ x=>x) (λ_=>true) (λ_=>true) (λ_=>true) (λ_=>true) (λk B x=>yj k B.length&&x) true (λ_=>true) true (λ_ _ x y=>x&&y) m
theorem NX(B:G D):@D.rec_1 (λ_=>ah) (λ_=>ah) true (λ_=>true) (λ_=>true) (λ_=>true) (λ_ x=>x) (λ_=>true) (λ_=>true) (λ_=>true) (λ_=>true) (λk B x=>yj k B.length&&x) true (λ_=>true) true (λ_ _ x y=>x&&y) B=allB jo B:=by
 induction B with
 |nil=>rfl
 |cons a B O=>show(jo a&&_)=(jo a&&allB jo B);rw [<-O]
theorem aa3(B:G D):jo (.tup B)=allB jo B:=NX B
theorem NW(k:FK)(B:G D):jo (.aD k B)=(yj k B.length&&allB jo B):=by
 refine(?_:(yj k B.length&&_)=_)
 rw [<-NX B]
theorem Yw:(bE aH&&jo aH&&cK (handed aH))=true:=by kernel_rfl
section
variable{c:a_}{w:dF}{I:aP}{K:b8}{mg mb:ar->aa aw}{Y:bG}{F F2 C:G aA}{s:aT}{h M:aP}{o:MH}{aL aQ aJ:H->aa D}{eC a:H}{aj ap:aA}
theorem af8{α β:Type}(f:α->β)(g:β->ah)(B:G α):allB g (B.map f)=allB (λx=>g (f x)) B:=by
 induction B with
 |nil=>rfl
 |cons a B O=>show(g (f a)&&allB g (B.map f))=_;rw [O];rfl
theorem Ys(R:G (D×D)):(hJ R).length<=R.length:=by
 induction R with
 |nil=>exact fG _
 |cons p R O=>
  obtain⟨k,v⟩:=p
  cases k with
  |str x=>exact n4 O
  |_=>exact Nat.le_succ_of_le O
theorem Yr(e:(hJ R).length=R.length):R.map (·.1)=(hJ R).map D.str:=by
 induction R with
 |nil=>rfl
 |cons p R O=>
  obtain⟨k,v⟩:=p
  have no:(hJ R).length≠R.length+1:=rU (rT (Ys R))
  cases k with
  |str x=>exact cq _ (O (lu e))
  |_=>exact bP e no
noncomputable def Ai(o:MH)(f:D->D)(E:aa cJ):D:=match E with
 |some E=>match E with
  |.list b r=>.aD (.list b) (mapA f (rv r))
  |.dict R=>.aD (.dict (hJ R)) (mapA (λp=>f p.2) R)
  |.inst aq d=>match o.t.get d with
   |some E=>match E with
    |.dict R=>.aD (.inst aq (hJ R)) (mapA (λp=>f p.2) R)
    |_=>.any
   |.none=>.any
  |.dh=>.any
 |.none=>.any
theorem Ex{w w':WB}(q:∀{m:D} {v:aw},bE (f m)=true->jo (f m)=true->VR c w F C h m v->VR c w' F [] h (f m) v):∀{V:G aw},allB bE (mapA f B)=true->allB jo (mapA f B)=true->aW c w F C h B V->aW c w' F [] h (mapA f B) V:=by
 induction B with
 |nil=>exact λ_ _ y=>y.dW▸.nil
 |cons a B O=>
  intro V k1 k2 y
  refine dR.el y.cj λv r aE y1 y2=>?_;rw [aE]
  have k1:=aN.mp k1
  have k2:=aN.mp k2
  exact .cons (q k1.1 k2.1 y1) (O k1.2 k2.2 y2)
theorem Gd(f:D->D)(R:G (D×D)):mapA (λp=>f p.2) R=mapA f (R.map (·.2)):=by
 rw [pY,pY,zj];rfl
theorem LI{f:D->D}(q:∀{m:D} {v:aw},bE (f m)=true->jo (f m)=true->VR c (wb c w aL) F C h m v->VR c (w0 w) F [] h (f m) v)(hk:∀n,yj k n=(bA (hJ R).length n&&dB 0 n))(e1:bE (.aD k (mapA (λp=>f p.2) R))=true)(e2:jo (.aD k (mapA (λp=>f p.2) R))=true)(E:OR c (wb c w aL) F C h d (.dict R)):
  ∃V,h.DictOf (strKind c w) d ((hJ R).zip V)/\(hJ R).length=(mapA (λp=>f p.2) R).length/\aW c (w0 w) F [] h (mapA (λp=>f p.2) R) V:=by
 rw [s9,Gd] at e1
 rw [NW,hk,Gd] at e2
 rw [Gd]
 refine xA (aN.mp e2) λe3 e2=>?_
 have e3:=aN.mp e3
 have hl:(mapA f (R.map (·.2))).length=R.length:=by rw [pY,cZ,cZ]
 have e4:=dU e3.1
 cases R with
 |nil=>exact bz e3.2
 |cons p R=>
  refine fM (OU E (Yr (e4.trans hl))) λV d1 d2 d3=>?_
  exact⟨V,d1,e4,Ex q e1 e2 d3⟩
theorem V8(S:St c (wb c w aL) I F C o h)(sys:∃E,I.get? tK=some E)(n:H){m:D}(e1:bE (kF o n m)=true)(e2:jo (kF o n m)=true)(x:VR c (wb c w aL) F C h m v):VR c (w0 w) F [] h (kF o n m) v:=by
 have hs:∀a E,h.get? a=some E->cM F C a->cM F [] a:=λa E _ sf=>⟨sf.1,eP⟩
 have sP:∀{i:H} {a:aA},C[i]?=some a->cM F [] a:=λe=>⟨λz=>(S.cI _ z).2.1 (dy e),eP⟩
 have YW:∀{m:D} {v:aw},bE m=true->VR c (wb c w aL) F C h m v->VR c (w0 w) F [] h m v:=λe x=>x.plain (w:=wb c w aL) (w':=w0 w) hs rfl (fB _▸e)
 induction n generalizing m v with
 |zero=>trivial
 |succ n O=>
  cases m with
  |tup B=>
   have e1:bE (.tup (mapA (kF o n) B))=true:=e1
   have e2:jo (.tup (mapA (kF o n) B))=true:=e2
   rw [nG] at e1
   rw [aa3] at e2
   refine gq.el x.gi λa V k e f g y=>?_
   exact⟨a,V,k,e,hs _ _ g f,g,Ex O e1 e2 y⟩
  |ref i=>
   refine ay x ?_;clear x;intro a ea aE;subst aE
   refine ay (S.at_ i a ea) λE ho ob=>?_
   have e1:bE (Ai o (kF o n) (o.t.get i))=true:=e1
   have e2:jo (Ai o (kF o n) (o.t.get i))=true:=e2
   refine(?_:VR c (w0 w) F [] h (Ai o (kF o n) (o.t.get i)) (.ref a))
   rw [ho] at e1 e2⊢
   clear ho
   cases E with
   |dh=>trivial
   |list b r=>
    have e1:bE (.aD (.list b) (mapA (kF o n) (rv r)))=true:=e1
    have e2:jo (.aD (.list b) (mapA (kF o n) (rv r)))=true:=e2
    rw [s9] at e1
    rw [NW] at e2
    refine eK ob λV k g y l1 l2=>?_
    have z:=y.reverse
    rw [mU,<-fD] at z
    exact⟨a,V,k,rfl,sP ea,g,by rw [pY,cZ,fD,ez];exact l1,l2,Ex O e1 (aN.mp e2).2 z⟩
   |dict R=>
    refine fM (LI (k:=.dict (hJ R)) O (λ_=>rfl) e1 e2 ob) λV d1 d2 d3=>?_
    refine⟨a,V,rfl,sP ea,?_,d1,d2,d3⟩
    cases J:a==tK with
    |false=>rfl
    |true=>
     refine bw sys λE Xr=>?_
     exact bP (dy ea) (pI J▸(S.keep _ _ Xr).2)
   |inst aq d=>
    refine ay ob λdx ed g=>?_
    refine ay (S.at_ d dx ed) λo2 nA aaY=>?_
    have un:Ai o (kF o n) (some (.inst aq d))=(match o.t.get d with
     |some E=>match E with
      |.dict R=>.aD (.inst aq (hJ R)) (mapA (λp=>kF o n p.2) R)
      |_=>.any
     |.none=>.any):=rfl
    rw [un,nA] at e1 e2⊢
    cases o2 with
    |dict R=>
     refine fM (LI (k:=.inst aq (hJ R)) O (λ_=>rfl) e1 e2 aaY) λV d1 d2 d3=>?_
     exact⟨a,dx,V,rfl,sP ea,sP ed,g,d1,d2,d3⟩
    |_=>trivial
  |_=>exact YW e1 x
theorem Yv(aV:Base c w K cz I mg mb)(t0:aL 0=some aH):nV c (wb c w aL) I 300 567 [] o (.tok 0) o:=by
 intro Y F C s V room S y Q au q
 have dG:∀a∈F++C,a∈F\/a∈C:=λa ha=>dI.mp ha
 have SK:=S.bare dG (λ_=>none)
 have gp:=aV.sound (aL:=λ_=>none) (gX:=λ_ _ _=>.none) (tv:=λ_=>.none) (eq:=λ_ _=>.none) (pull:=0) oM hN lM (.inl jD) (mj aH) 300
 have ev:=kinds_ok
 unfold MU at ev
 refine xA (aN.mp Yw) λkt k3=>?_
 refine xA (aN.mp kt) λk1 k2=>?_
 rw [y.dW]
 refine gp.call Y (F++C) [] s ⟨.nil,0⟩ (.fn 567) (.ref 567) [] [] _ room SK (by rfl) .nil ev _ _ λv bq h1 aZ aS p1=>?_
 refine PV.el p1 λm bM e1 S1 x1=>?_
 have e1:kF bM 20 m=aH:=aM e1
 have z:=V8 S1 aV.sys 20 (m:=m) (by rw [e1];exact k1) (by rw [e1];exact k2) x1
 rw [e1] at z
 have keep:∀b E,s.heap.get? b=some E->h1.get? b=some E:=λb E e=>aS.keep b E e (λz=>nomatch z) (λz=>nomatch z)
 refine xA (S.grow keep) λst S2=>?_
 have pk:bC aH=true:=by rw [<-fB];exact k1
 refine q v C h1 aZ st ⟨S2,?_⟩
 exact⟨aH,t0,pk,k3,z.plain (w:=w0 w) (w':=w0 w) (λb E _ sf=>⟨λz=>sf.1 (iR _ z),λz=>sf.1 (fC _ z)⟩) rfl pk⟩
theorem VJ(aV:Base c w K cz I mg mb):mh c w I aH 250 649 [.tok 0] (.bool true):=by
 have e:=VH
 unfold jW jX at e
 exact Hh (aL:=aU aH) (aV.sound (kY rfl) hN lM (.inl jD) (mj _) 250) e (λ_ _ _=>.cons (.gZ (i:=0) (j:=0) rfl rfl) .nil) (et rfl)
end
section
variable{c:a_}{w:dF}{I:aP}{K:b8}{mg mb:ar->aa aw}{Y:bG}{F F2 C:G aA}{s:aT}{h M:aP}{o:MH}{aL aQ aJ:H->aa D}{eC:H}{a aj ap:aA}
theorem uK(hn:0<n):0<=o9 z n/\o9 z n<n:=by
 rw [Int.fmod_eq_emod_of_nonneg z (rI hn)]
 exact⟨Int.emod_nonneg z (by lia),Int.emod_lt_of_pos z hn⟩
theorem St.Yh(S:St c (wb c w aL) I F C o h)(ej:C[j]?=some a)(hj:o.t.get j=some .dh)(keep:∀b E,h.get? b=some E->b≠a->M.get? b=some E)(ob:OR c (wb c w aL) F C M a .dh):bh [] C h C M/\St c (wb c w aL) I F C o M:=by
 have ma:=dy ej
 refine⟨⟨mT _,λb E e n _=>keep b E e λq=>n (q▸ma),λb E e n=>⟨⟨E,keep b E e λq=>n (q▸ma)⟩,n⟩⟩,⟨λb E e=>⟨keep b E (S.keep b E e).1 λq=>(S.keep b E e).2 (q▸ma),(S.keep b E e).2⟩,S.len,S.apart,λb hb=>?_,λi b e=>?_⟩⟩
 .obtain⟨⟨E,ho⟩,q2,q3⟩:=S.cI b hb
  exact⟨⟨E,keep b E ho λq=>q2 (q▸ma)⟩,q2,q3⟩
 .by_cases z:b=a
  .obtain rfl:=z.symm
   have:=qe S.apart e ej
   subst this
   exact⟨_,hj,ob⟩
  .refine ay (S.at_ i b e) λE ho x=>?_
   refine bw x.some λox Mg=>?_
   exact⟨E,ho,tj (λJ oc e sf=>⟨keep J oc e λq=>sf.2 (q▸ma),sf⟩) (λ_ _ e=>e) ((keep b ox Mg z).trans Mg.symm) x⟩
theorem Pm(g:h.get? a=some (fT V n))(z:aW c (wb c w aL) F C h [.int y,.int x] V.toList.reverse):∃t u,h.get? a=some (fT #[.int x t,.int y u] n):=by
 replace z:=z.cj;obtain⟨v1,r,e1,y1,z⟩:=z
 replace z:=z.cj;obtain⟨v2,r2,e2,y2,z⟩:=z
 have e3:=z.dW
 refine bw y1 ?_;clear y1;intro u aI;subst aI
 refine bw y2 ?_;clear y2;intro t aI;subst aI
 have:V.toList=[.int x t,.int y u]:=by
  rw [<-mU V.toList,e1,e2,e3];rfl
 have:V=#[.int x t,.int y u]:=Array.toList_inj.mp this
 rw [this] at g
 exact⟨t,u,g⟩
theorem Za(e:F6 m o=some (.tup [d,.tup B])):m=d/\∃b,o.t.get 0=some (.list b B):=by
 unfold F6 at e
 generalize h1:jj o 0=ax at e
 cases ax with
 |none=>nomatch e
 |some q=>
  have e:=aM e
  injection e with e
  injection e with e1 e
  injection e with e2 _
  injection e2 with e2
  exact⟨e1,q.1,e2▸sY h1⟩
theorem agO(h0:0<n)(h8:n<8):n∈[1,2,3,4,5,6,7]:=(by decide:∀n,n<8->0<n->n∈[1,2,3,4,5,6,7]) n h8 h0
theorem ach(hy:0<=y)(E7:y<4294967296)(h0:0<n)(h8:n<8):∃d x' y',Bu (.ofNat x) y (.ofNat n)=some (.tup [.int d,.tup [.int y',.int x']])/\0<=d/\d<(n:ba)/\0<=x'/\0<=y'/\y'<4294967296:=by
 have hn:(0:ba)<(n:ba):=I_.mpr h0
 have Pc:∀{f g:ba->aa D},[1,2,3,4,5,6,7].map f=[1,2,3,4,5,6,7].map g->f (tW n)=g (tW n):=λe=>fU e _ ((by decide:∀n,n<8->0<n->tW n∈[1,2,3,4,5,6,7]) n h8 h0)
 cases x with
 |zero=>
  have z:=uK (z:=y*48271+4241) (n:=2147483647) (by decide)
  refine⟨_,_,_,Pc (ace y),(uK hn).1,(uK hn).2,by decide,z.1,rJ z.2 (by decide)⟩
 |succ x=>exact⟨_,_,_,Pc (acf x y),(uK hn).1,(uK hn).2,Int.fdiv_nonneg (Cn _) (rI hn),hy,E7⟩
theorem acg(aV:Base c w K cz I mg mb)(aL:H->aa D):qD c (wb c w aL) I 595:=by
 intro Y F C s o j a top t room S ej hj h0 h8 Q au q
 refine bw (I6 (rI h0)) λn aI=>?_;subst aI
 refine gJ (S.ref ej hj) λx tx bB=>dO bB λy ty nn g dA=>cf dA λhx hy E7=>?_
 refine bw (I6 hx) λx aI=>?_;subst aI
 refine dO (ach (x:=x) hy E7 (n:=n) (I_.mp h0) (Qv.mp h8)) λd x' y' ev bB=>eN bB λd0 d1 x0 dA=>xA dA λy0 y1=>?_
 have ma:=dy ej
 have dG:∀b,b∈F++C.filter (λb=>!(b==a))↔b∈F\/(b∈C/\b≠a):=λb=>by
  rw [dI,t7]
  simp
 generalize F++C.filter (λb=>!(b==a))=F2 at dG
 have vi:∀{w':WB} {F C:G aA} {h:aP} {i:ba} {t:Tok},VR c w' F C h (.int i) (.int i t):=by intro w' F C h i t;exact⟨_,rfl⟩
 have S1:St c (wb c w λ_=>none) I F2 [a] (fA [.list 2 [.int y,.int (tW x)]]) s.heap:=by
  refine⟨λb E e=>⟨(S.keep b E e).1,λz=>(S.keep b E e).2 (by rw [cA.mp z];exact ma)⟩,rfl,by simp,λb hb=>?_,λi b e=>?_⟩
  .rcases(dG b).mp hb with z|⟨z1,z2⟩
   .refine cf (S.cI b z) λq1 q2 q3=>?_
    exact⟨q1,λz=>q2 (by rw [cA.mp z];exact ma),q3⟩
   .obtain⟨i,hi,e⟩:=iE z1
    refine ay (S.at_ i b (by rw [cV hi,e])) λE _ xo=>?_
    refine⟨xo.some,λz=>z2 (cA.mp z),?_⟩
    cases z:I.get? b with
    |none=>rfl
    |some E=>exact bP z1 (S.keep b E z).2
  .cases i with
   |succ=>exact aB e
   |zero=>
    rw [<-aM e]
    exact⟨_,rfl,_,_,g,.cons vi (.one vi),fG 2,by decide⟩
 have gp:=aV.sound (aL:=λ_=>none) (gX:=λ_ _ _=>.none) (tv:=λ_=>.none) (eq:=λ_ _=>.none) (pull:=0) oM hN lM (.inl jD) (mj (.tup [.int d,.tup [.int y',.int x']])) 20
 unfold Bu at ev
 refine gp.call Y F2 [a] s _ (.fn 595) (.ref 595) [.ref 0,.int (tW n)] [.ref a,.int (n:ba) t] _ room S1 (by rfl) (.cons (by exact⟨a,rfl,rfl⟩) (.one vi)) ev _ _ λv bq h1 aZ aS p1=>?_
 refine PV.el p1 λm bM e1 S2 x1=>?_
 refine xA (Za e1) λeJ bB=>bw bB λb g1=>?_;subst eJ
 have a0:bq[0]?=some a:=by rw [ja aS.pre (by simp)];rfl
 refine eK (S2.ref a0 g1) λV n2 g2 z2 _ _=>?_
 refine gJ (Pm g2 z2) λt1 u1 g3=>?_
 refine xA (S.Yh (M:=h1) ej hj (λb E e nb=>aS.keep b E e (λz=>nb (cA.mp z)) (λz=>nomatch z)) ⟨x',t1,y',u1,n2,g3,x0,y0,y1⟩) λst S3=>?_
 refine bw x1 ?_;clear x1;intro tk aI;rw [aI]
 refine bw (I6 d0) λdn aI=>?_;subst aI
 exact q _ C h1 aZ st ⟨dn,tk,Qv.mp d1,rfl,rfl,S3⟩
theorem Y9(e:Nb m o=some (.tup B)):∃i b,m=.ref i/\o.t.get i=some (.list b B):=by
 cases m with
 |ref i=>
  refine ay (fm e) λq h1 e=>?_
  exact⟨i,q.1,rfl,D.Pl (aM e)▸sY h1⟩
 |_=>exact aB e
theorem Yg(ns:G ba)(hl:ns.length<=63):∃B x y,(∀(aQ aJ:H->aa D),cE aQ aJ (ns.map D.int) B)/\B.length=ns.length/\xT B=some (.tup [.int y,.int x])/\0<=x/\0<=y/\y<4294967296:=by
 have jb:∀z:ba,0<=o9 z 999999937+57/\o9 z 999999937+57<4294967296:=λz=>have:=uK (z:=z) (n:=999999937) (by decide);⟨Int.add_nonneg this.1 (by decide),rJ (Qs this.2 57) (by decide)⟩
 have zI:∀(B:G ba) (aQ aJ:H->aa D),cE aQ aJ (B.map D.int) (di B.length .any):=λB aQ aJ o β FZ=>by
  have:=xc (o:=o) (aQ:=aQ) (aJ:=aJ) (β:=β) (FZ:=FZ) (B:=B.map D.int)
  rw [cZ] at this
  exact this
 cases ns with
 |nil=>exact⟨[],0,57,λ_ _=>KD,rfl,Ye,by decide,by decide,by decide⟩
 |cons n r=>cases n with
 |ofNat m=>
  have e:=fU (Yf m) r.length (md.mpr hl)
  refine⟨.int (.ofNat m)::di r.length .any,?_⟩
  cases J:!(ltZ (.ofNat m) 1000000000000000000) with
  |true=>rw [J] at e;exact⟨_,_,λ_ _=>eU (et rfl) (zI r _ _),by rw [iQ,dZ];rfl,e,Cn m,(jb _).1,(jb _).2⟩
  |false=>rw [J] at e;exact⟨_,_,λ_ _=>eU (et rfl) (zI r _ _),by rw [iQ,dZ];rfl,e,by decide,(jb _).1,(jb _).2⟩
 |negSucc m=>
  have e:=fU (Yd m) r.length (md.mpr hl)
  refine⟨.int (.negSucc m)::di r.length .any,?_⟩
  cases J:!(ltZ (1-.negSucc m) 1000000000000000000) with
  |true=>rw [J] at e;exact⟨_,_,λ_ _=>eU (et rfl) (zI r _ _),by rw [iQ,dZ];rfl,e,Int.sub_nonneg_of_le (wq (rI (Qt m)) (by decide)),(jb _).1,(jb _).2⟩
  |false=>rw [J] at e;exact⟨_,_,λ_ _=>eU (et rfl) (zI r _ _),by rw [iQ,dZ];rfl,e,by decide,(jb _).1,(jb _).2⟩
theorem Yc(aV:Base c w K cz I mg mb){ns:G ba}(hl:ns.length<=63)(t5:aL 5=some (.aD (.list 63) (ns.map D.int)))(J:cK ((o.t.ins o.n .dh).get o.n)=true):nV c (wb c w aL) I 100 588 [.tok 5] o (.ref o.n) ⟨o.t.ins o.n .dh,cX o.n⟩:=by
 intro Y F C s V room S y Q au q
 refine dO (Yg ns hl) λB x yy cl bB=>eN bB λll ev x0 dA=>xA dA λy0 y1=>?_
 have dG:∀a∈F++C,a∈F\/a∈C:=λa ha=>dI.mp ha
 have SK:=S.bare dG (aU aH)
 have RV:=S.bare dG (λ_=>none)
 have yK:=(iG (aJ:=aU aH) t5).qp S dG (λa (ha:a∈([]:G aA))=>nomatch ha) y
 have y2:=cE.qp (aQ:=aU aH) (aJ:=λ_=>none) (F2:=F++C) (bf:=[]) (λo β FZ=>.cons (.aD (k:=.list 63) (cl _ _ o β FZ)) .nil) SK (λa ha=>.inl ha) (λa (ha:a∈([]:G aA))=>nomatch ha) yK
 have gp:=aV.sound (aL:=λ_=>none) (gX:=λ_ _ _=>.none) (tv:=λ_=>.none) (eq:=λ_ _=>.none) (pull:=0) oM hN lM (.inl jD) (mj (.tup [.int yy,.int x])) 60
 unfold xT at ev
 refine gp.call Y (F++C) [] s ⟨.nil,0⟩ (.fn 588) (.ref 588) _ _ _ (room.le (by decide)) RV (by rfl) y2 ev _ _ λv bq h1 aZ aS p1=>?_
 refine PV.el p1 λm bM e1 S1 x1=>?_
 refine jv (Y9 e1) λi b aE g1=>?_;subst aE
 refine ay x1 ?_;clear x1;intro ad ea aE;rw [aE]
 refine eK (S1.ref ea g1) λPK n2 g2 z2 _ _=>?_
 refine gJ (Pm g2 z2) λt1 u1 g3=>?_
 have keep:∀b E,s.heap.get? b=some E->h1.get? b=some E:=λb E e=>aS.keep b E e (λz=>nomatch z) (λz=>nomatch z)
 have fr:s.heap.get? ad=none:=by
  cases z:s.heap.get? ad with
  |none=>rfl
  |some ob=>exact bP (dy ea) (aS.out ad ob z (λz=>nomatch z)).2
 refine cf (S.alloc fr keep (E:=.dh) ⟨x,t1,yy,u1,n2,g3,x0,y0,y1⟩ J) λst S2 hp=>?_
 exact q _ _ h1 aZ st ⟨S2,by exact⟨ad,hp,rfl⟩⟩
end
theorem VN:cz.fn 659=some ⟨1,[],ij,jm⟩:=by kernel_rfl
theorem adW(v:D):tI ⟨1,[],ij,jm⟩ [v]=some (hK (some v) .none .none .none .none .none .none .none .none .none .none .none .none):=by kernel_rfl
theorem adL:ij=ij.take 3++((ij.drop 3).take 7++((ij.drop 10).take 1++ij.drop 11)):=by kernel_rfl
theorem YV:jm[1]?=some (⟨⟨[106,97,114]⟩⟩,pg):=by kernel_rfl
theorem adu(h:ws∈dq)(u:H)(t:ah):cR (dk (cC u) (cD (c_ ws t)))=true:=by
 unfold cR
 have e1:=o5 u
 have e2:=Ih h t
 rw [<-fB] at e1 e2⊢
 refine(?_:((bE rl&&(bE nQ&&(bE rn&&(bE (cC u)&&((bE rl&&(bE lS&&(bE rn&&(bE kO&&(bE (c_ ws t)&&true)))))&&true)))))&&true)=true)
 rw [e1,e2];rfl
theorem aby(hm:m<=2)(h:ws∈dq):fu m ws=true:=by
 have app:∀{m:H} {B l':G (G H)},allB (fu m) B=true->allB (fu m) l'=true->allB (fu m) (B++l')=true:=by
  intro m B l' h1 h2
  induction B with
  |nil=>exact h2
  |cons a B O=>
   refine xA (aN.mp (h1:(fu m a&&allB (fu m) B)=true)) λe1 e2=>?_
   refine(?_:(fu m a&&allB (fu m) (B++l'))=true)
   rw [e1,O e2];rfl
 have:allB (fu m) dq=true:=by
  unfold dq
  match m,hm with
  |0,_=>exact app abE (app abF (app abG (app abH (app abI (app abJ (app abK abL))))))
  |1,_=>exact app abM (app abN (app abO (app abP (app abQ (app abR (app abS abT))))))
  |2,_=>exact app abU (app abV (app abW (app abX (app abY (app abZ (app ab0 ab1))))))
 exact b7 this ws h
noncomputable def ru(v:D):H->aa D
 |0=>some aH
 |5=>some v
 |_=>.none
section
variable{c:a_}{w:dF}{I:aP}{K:b8}{mg mb:ar->aa aw}{Y:bG}{F F2 C:G aA}{s:aT}{h M:aP}{o:MH}{aL aQ aJ:H->aa D}{fr:Fm}{f:eh}
structure RX(fr:Fm)(o:MH)(ws:G H)(i b:H):Prop where
 v1:fr.vars[1]?=some (some (.ref 0))
 j:o.t.get 0=some .dh
 v2:fr.vars[2]?=some (some (.tok 0))
 v3:fr.vars[3]?=some (some (.ref i))
 i1:1<=i
 g:o.t.get i=some (.list b (fq ws).reverse)
 ws:ws∈dq
theorem Y6(e:F0 f fr o=true):f=.next/\∃ws i b,RX fr o ws i b:=by
 refine xA (AR (bL (bx (bx e)))) λj1 j2=>?_
 refine ay (nH (bL e)) λr h1 e3=>?_
 refine ay (Sr e3) λws m e3=>?_
 refine eO (Ew h1) λi b k1 k2 k3=>?_
 exact⟨xR (bx (bx (bx e))),ws,i,b,mP j1,j2,Iu (bL (bx e)),mP k1,k2,by rw [eu e3];exact k3,m⟩
structure RY(fr:Fm)(o:MH)(u:H)(t:ah)(m k num:H):Prop where
 v1:fr.vars[1]?=some (some (.ref 0))
 j:o.t.get 0=some .dh
 v2:fr.vars[2]?=some (some (.tok 0))
 v3:fr.vars[3]?=some (some (.tok 41))
 v4:fr.vars[4]?=some (some (cC u))
 v5:fr.vars[5]?=some (some (.bool t))
 v7:fr.vars[7]?=some (some (.int (.ofNat m)))
 v9:fr.vars[9]?=some (some (fR k))
 v10:fr.vars[10]?=some (some (.int (.ofNat num)))
 v11:fr.vars[11]?=some (some (dk (cC u) (cD (.tok (BY t)))))
 u3:u<3
 k4:k<4
 n3:num∈[1,2,3]
 m2:m<=2
 tm:t=true\/m=0
theorem AJ{α:Type}{a b J x:α}(h:[a,b,J][i]?=some x):(i=0/\x=a)\/(i=1/\x=b)\/(i=2/\x=J):=by
 rcases i with _|_|_|i
 .exact .inl ⟨rfl,(aM h).symm⟩
 .exact .inr (.inl ⟨rfl,(aM h).symm⟩)
 .exact .inr (.inr ⟨rfl,(aM h).symm⟩)
 .exact aB h
theorem ae6{u:H}{v:D}(h:pR Po v=some u):u<3/\v=cC u/\cC u≠.any:=by
 rcases AJ (AL h) with⟨rfl,rfl⟩|⟨rfl,rfl⟩|⟨rfl,rfl⟩<;>exact⟨by decide,rfl,λz=>nomatch z⟩
theorem Zq{m:H}{v:D}(h:pR Nj v=some m):m<=2/\v=.int (.ofNat m):=by
 rcases AJ (AL h) with⟨rfl,rfl⟩|⟨rfl,rfl⟩|⟨rfl,rfl⟩<;>exact⟨by decide,rfl⟩
theorem aai{m:H}{v:D}(h:pR Nr v=some m):m+1∈[1,2,3]/\v=.int (.ofNat (m+1)):=by
 rcases AJ (AL h) with⟨rfl,rfl⟩|⟨rfl,rfl⟩|⟨rfl,rfl⟩<;>exact⟨by decide,rfl⟩
theorem Yl{k:H}{v:D}(h:pR MO v=some k):k<4/\v=fR k/\fR k≠.any:=by
 have h:=AL h
 rcases k with _|k
 .exact⟨by decide,(aM h).symm,λz=>nomatch z⟩
 .rcases AJ (h:[ai,ak,af][k]?=some v) with⟨rfl,rfl⟩|⟨rfl,rfl⟩|⟨rfl,rfl⟩<;>exact⟨by decide,rfl,λz=>nomatch z⟩
theorem Y7(e:F1 f fr o=true):f=.next/\∃u t m k num,RY fr o u t m k num:=by
 have e6:=bx e
 have e5:=bx e6
 have e4:=bx e5
 have e3:=bx e4
 have e2:=bx e3
 refine xA (AR (bL e2)) λj1 j2=>?_
 refine ay (nH (bL e5)) λt ht J=>?_
 refine ay (nH (bL (bx J))) λu hu cu=>?_
 refine ay (nH (bL J)) λm hm cm=>?_
 refine cf (ae6 hu) λu1 u2 u3=>?_
 refine xA (Zq hm) λm1 m2=>?_
 refine cf (Yl (pT (d:=0) (bL e6))) λk1 k2 k3=>?_
 refine xA (aai (pT (d:=0) (bL e))) λn1 n2=>?_
 have q:=(iK cu).symm
 rw [PC] at q
 exact⟨xR (bx e2),u,t,m,_,_,mP j1,j2,Iu (bL e3),qn (bL e4),v_ u2 u3,v_ (X3 ht) (λz=>nomatch z),v_ m2 (λz=>nomatch z),v_ k2 k3,v_ n2 (λz=>nomatch z),v_ q (λz=>nomatch z),u1,k1,n1,m1,(k_.mp cm).imp id dU⟩
structure RZ(fr:Fm)(o:MH)(ws:G H)(m i b:H)(r:G D):Prop where
 v1:fr.vars[1]?=some (some (.ref 0))
 j:o.t.get 0=some .dh
 v2:fr.vars[2]?=some (some (.tok 0))
 v3:fr.vars[3]?=some (some (gI ws))
 v4:fr.vars[4]?=some (some (.tok 27))
 v5:fr.vars[5]?=some (some (.tok 28))
 v9:fr.vars[9]?=some (some (.tok 31))
 v10:fr.vars[10]?=some (some (.tok 32))
 v11:fr.vars[11]?=some (some (.tok 40))
 afc:fr.vars[12]?=some (some (.ref i))
 i1:1<=i
 g:o.t.get i=some (.list b r)
 ok:Bg (di m j0) ws r.reverse=true
theorem abf(e:Fu ws (gv E)=true):E=some (gI ws):=by
 cases E with
 |none=>nomatch e
 |some v=>rw [X_ (v:=v) e]
theorem Y8(e:F3 ws m f fr o=true):f=.next/\∃i b r,RZ fr o ws m i b r:=by
 have e9:=bx e
 have e8:=bx e9
 have e7:=bx e8
 have e6:=bx e7
 have e5:=bx e6
 have e4:=bx e5
 have e3:=bx e4
 have e2:=bx e3
 refine xA (AR (bL e2)) λj1 j2=>?_
 refine ay (nH (bL e)) λr h1 J=>?_
 refine eO (Ew h1) λi b k1 k2 k3=>?_
 exact⟨xR (bx e2),i,b,r,mP j1,j2,Iu (bL e3),mP (abf (bL e9)),qn (bL e4),qn (bL e5),qn (bL e6),qn (bL e7),qn (bL e8),mP k1,k2,k3,by rw [<-fD];exact J⟩
theorem V1{u:H}{k num:H}(w:H)(d:ah):cE (lY u t k num d_) aJ [formOf w d] [qc k num w d]:=by
 have ck:cE (lY u t k num d_) aJ [.tok 31] [fR k]:=iG rfl
 have co:cE (lY u t k num d_) aJ [.tok 30] [hU k]:=iG rfl
 have cn:cE (lY u t k num d_) aJ [.tup [sN,.tok 32]] [Mine.Internal.num num]:=kj (eU (et rfl) (iG rfl))
 match w with
 |0=>exact co
 |1=>exact kj (eU (et rfl) (eU (et rfl) (kj (eU ck (et rfl)))))
 |2=>exact kj (eU (et rfl) (eU (et rfl) (kj (eU ck cn))))
 |3=>cases d<;>exact et rfl
 |4=>exact kj (eU (et rfl) ck)
 |w+5=>exact kj (eU (et rfl) (eU (kj (eU co (et rfl))) (et rfl)))
theorem abD{u:H}{k num m:H}:∀{B:G D},Bg (di m j0) ws B=true->∃aG,bD aG=ws/\cE (lY u t k num d_) aJ B (cY k num aG m):=by
 induction ws with
 |nil=>exact λ{B} e=>⟨[],rfl,eu (e:cT (di m j0) B=true)▸DP λz hz=>by rw [(Q0.mp hz).2];rfl⟩
 |cons w ws O=>
  intro B e
  cases B with
  |nil=>exact bz e
  |cons x B=>
   refine xA (aN.mp (e:((eW (formOf w false) x||eW (formOf w true) x)&&Bg (di m j0) ws B)=true)) λe1 e2=>?_
   refine ay (O e2) λaG h1 h2=>?_
   obtain⟨d,rfl⟩:∃d,formOf w d=x:=(k_.mp e1).elim (λz=>⟨_,iK z⟩) λz=>⟨_,iK z⟩
   exact⟨(w,d)::aG,cq _ h1,eU (V1 w d) h2⟩
end
theorem fits_of(h1:1<=n)(h3:n<=3)(hm:m<=2)(ht:t=true\/m=0):(n+m,n,t)∈fits:=by
 rcases ht with rfl|rfl
 .have h4:=rT h3
  rcases qZ (rT hm) with rfl|rfl|rfl
  .exact Af h1 h3 _
  .exact VD n h4 h1
  .exact VF n h4 h1
 .exact Af h1 h3 t
theorem Pg(hk:k<4):some (fR k)∈rA/\some (hU k)∈rA:=by
 have n:∀i,(h:i<rA.length)->rA[i]∈rA:=λi h=>zf h
 rcases pX hk with rfl|rfl|rfl|rfl
 .exact⟨n 1 (by decide),n 1 (by decide)⟩
 .exact⟨n 2 (by decide),n 2 (by decide)⟩
 .exact⟨n 3 (by decide),n 5 (by decide)⟩
 .exact⟨n 4 (by decide),n 2 (by decide)⟩
theorem aeT(hk:k<4)(ws:G H):oZ k ws∈rA:=by
 unfold oZ vX
 cases ws.any fH with
 |true=>exact(Pg hk).1
 |false=>
  cases ws.any i7 with
  |true=>exact(Pg hk).2
  |false=>exact .head _
theorem aaN{num:H}(hn:num∈[1,2,3])(ws:G H):oO num ws∈jI:=by
 unfold oO
 split
 .exact .tail _ (cF.mpr ⟨num,hn,rfl⟩)
 .exact .head _
theorem abz(h1:1<=n)(h3:n<=3)(hm:m<=2)(ht:t∈rA)(ho:E∈jI):GW n m (su t E)=some (.bool true):=by
 have mem:(n,m)∈NC:=by
  match n,h1,h3,m,hm with
  |1,_,_,0,_|1,_,_,1,_|1,_,_,2,_|2,_,_,0,_|2,_,_,1,_|2,_,_,2,_|3,_,_,0,_|3,_,_,1,_|3,_,_,2,_=>decide
 have:=b7 (b7 (b7 abA (n,m) mem) t ht) E ho
 dsimp only at this
 generalize e:GW n m (su t E)=ax at this
 cases ax with
 |none=>nomatch this
 |some v=>rw [iK this]
section
variable{c:a_}{w:dF}{I:aP}{K:b8}{mg mb:ar->aa aw}{Y:bG}{F F2 C:G aA}{s:aT}{h M:aP}{o:MH}{aL aQ aJ:H->aa D}{fr:Fm}{f:eh}
theorem abh(aV:Base c w K cz I mg mb){ns:G ba}(hl:ns.length<=63):iF c (wb c w (ru (.aD (.list 63) (ns.map D.int)))) I WA:=by
 intro a args o q e
 have e:GU a args o=some q:=e
 unfold GU at e
 generalize h1:bA a 588=ax at e
 cases ax with
 |true=>
  rw [dU h1]
  refine xA (uX e) λJ e2=>?_
  refine ay (N1 (bx J)) λv aI c1=>?_;rw [aI]
  rw [<-aM e2,lF c1]
  exact Yc aV hl rfl (bL J)
 |false=>
  clear h1
  generalize h2:bA a 567=ax at e
  cases ax with
  |true=>
   refine xA (uX e) λJ e=>?_
   rw [dU h2,eu J,<-aM e]
   exact Yv aV rfl
  |false=>
   refine xA (uX e) λJ e2=>?_
   refine ay (N1 (bL J)) λv aI c1=>?_;rw [aI]
   rw [dU (bx J),<-aM e2,xS c1]
   exact rh (VJ aV) (λ_ _ _=>.cons (.gZ (i:=0) (j:=0) rfl rfl) .nil) (et rfl)
theorem YO(aV:Base c w K cz I mg mb){ns:G ba}(hl:ns.length<=63)(room:eY 340 Y)(S:St c (wb c w (aU aH)) I F [] ⟨.nil,0⟩ s.heap)(y:VR c (wb c w (aU aH)) F [] s.heap (.aD (.list 63) (ns.map D.int)) v):
  bc c (wb c w (aU aH)) Y [] [] s (call (.ref 659) [v]) (λu _ _=>u=.bool true):=by
 intro Q au q
 obtain⟨E,fd,dv,Fi⟩:=aV.fn (aL:=aU aH) VN
 have T:=aV.top (aL:=aU aH) (gX:=λ_ _ _=>.none) (tv:=ke) (eq:=λ_ _=>.none) (pull:=0) (kY rfl) hN
 have pl:∀aL,qD c (wb c w aL) I 595:=acg aV
 have acb:bC (.aD (.list 63) (ns.map D.int))=true:=by
  rw [<-fB,s9]
  exact yx λm hm=>by obtain⟨i,_,rfl⟩:=cF.mp hm;rfl
 refine B9 (zO (n:=339) (ag:=Prop) (ae:=λr=>r) (k:=λm o=>m=.bool true) T Fi room.calls room.deep S (.one y) (adW _) (λs1 X C1=>?_) λv ao M tk st pv=>?_)
 .intro Q au q
  refine(?_:bo _ _ (iH ij X) _ _ _)
  rw [adL,uI]
  have G0:dm c (wb c w (aU aH)) (ownOf X++F) [] s1.heap jm (hK (some (.aD (.list 63) (ns.map D.int))) .none .none .none .none .none .none .none .none .none .none .none .none) X:=C1.fr
  have gD:=G0.own
  have no:∀{P:D->Prop},∀m,(none:aa D)=some m->P m:=λm e=>nomatch e
  have S1:=C1.st.bare (F2:=ownOf X++F) (λa ha=>.inl ha) (ru (.aD (.list 63) (ns.map D.int)))
  have G1:dm c (wb c w (ru (.aD (.list 63) (ns.map D.int)))) (ownOf X++F) [] s1.heap jm (hK (some (.tok 5)) .none .none .none .none .none .none .none .none .none .none .none .none) X:=by
   refine G0.weak gD (sZ (P:=λi m'=>∃m,(hK (some (.aD (.list 63) (ns.map D.int))) .none .none .none .none .none .none .none .none .none .none .none .none)[i]?=some (some m)/\∀v,VR c (wb c w (aU aH)) (ownOf X++F) [] s1.heap m v->VR c (wb c w (ru (.aD (.list 63) (ns.map D.int)))) (ownOf X++F) [] s1.heap m' v) (λm e=>?_) no no no no no no no no no no no no)
   have e:=aM e
   rw [<-e]
   exact⟨_,rfl,λv x=>xd C1.st (λa (ha:a∈([]:G aA))=>nomatch ha) (.eT acb rfl rfl) x⟩
  have D1:Ctx c (wb c w (ru (.aD (.list 63) (ns.map D.int)))) I 338 (Y.deeper X) (ownOf X++F) [] s1 ⟨.nil,0⟩ ⟨jm,.none⟩ ⟨hK (some (.tok 5)) .none .none .none .none .none .none .none .none .none .none .none .none,[]⟩ X:=⟨C1.room.le (by decide),S1,G1⟩
  have R6:=aV.sound (aL:=ru (.aD (.list 63) (ns.map D.int))) oM hN (abh aV hl) (.inr (pl _)) zG 338
  refine aO (ku R6.ex (ij.take 3) [] s1 ⟨.nil,0⟩ _ F0 D1 abv _ _ λf1 bq jF aZ aS p1=>?_)
  obtain⟨g1,fp,bM,e1,S2,G2,sA⟩:=p1
  obtain⟨rfl,ws,i1,b1,W1⟩:=Y6 e1
  have sA:f1=.next:=sA
  subst sA
  have G2:dm c (wb c w (ru (.aD (.list 63) (ns.map D.int)))) (ownOf X++F) bq jF jm fp.vars X:=G2
  have qU:=W1.ws
  obtain⟨aj,ej⟩:∃aj,bq[0]?=some aj:=by
   refine eK (G2.cell 1 _ YV) λJ ov _ _ _ hv=>?_
   refine ay (hv _ W1.v1) λv _ x=>?_
   refine ay x λz e _=>?_
   exact⟨z,e⟩
  obtain⟨S3,G3⟩:=ve (aJ:=aU aH) (rC:=hK .none (some (.ref 0)) (some (.tok 0)) (some (gI ws)) .none .none .none .none .none .none .none .none .none) S2 G2 ej W1.j
   (sZ (P:=λi m2=>∃m,fp.vars[i]?=some (some m)/\Cv (ru (.aD (.list 63) (ns.map D.int))) (aU aH) bM bJ (λi=>1<=i) m m2) no
    (λm e=>by have e:=aM e;subst e;exact⟨_,W1.v1,.ref rfl⟩)
    (λm e=>by have e:=aM e;subst e;exact⟨_,W1.v2,.gZ (i:=0) (j:=0) rfl rfl⟩)
    (λm e=>by
     have e:=aM e;subst e
     refine⟨_,W1.v3,.lst W1.g W1.i1 (by rw [mU];exact iw (Fl ws)) ?_ (by decide)⟩
     have:=r4 qU
     unfold fq
     rw [cZ]
     exact dQ (by assumption) (by decide)) no no no no no no no no no)
  have tG:bh (ownOf X) [] s1.heap [aj] jF:=bh.cut aS (λa ha=>by rw [cA.mp ha];exact dy ej) wB
  obtain⟨S4,G4⟩:=ve (aJ:=rx ws) (rC:=hK .none (some (.ref 0)) (some (.tok 0)) (some (.tok 41)) .none .none .none .none .none .none .none .none .none) S3 G3 rfl rfl
   (sZ (P:=λi m2=>∃m,(hK .none (some (.ref 0)) (some (.tok 0)) (some (gI ws)) .none .none .none .none .none .none .none .none .none)[i]?=some (some m)/\Cv (aU aH) (rx ws) (fA [.dh]) bJ (λi=>1<=i) m m2) no
    (λm e=>by have e:=aM e;subst e;exact⟨_,rfl,.ref rfl⟩)
    (λm e=>by have e:=aM e;subst e;exact⟨_,rfl,.gZ (i:=0) (j:=0) rfl rfl⟩)
    (λm e=>by have e:=aM e;subst e;exact⟨_,rfl,.eT (wc ws) rfl rfl⟩) no no no no no no no no no)
  have D2:Ctx c (wb c w (rx ws)) I 120 (Y.deeper X) (ownOf X++F) [aj] {s1 with heap:=jF,toks:=aZ} (fA [.dh]) ⟨jm,.none⟩ ⟨hK .none (some (.ref 0)) (some (.tok 0)) (some (.tok 41)) .none .none .none .none .none .none .none .none .none,[]⟩ X:=⟨C1.room.le (by decide),S4,G4⟩
  have R7:=aV.sound (aL:=rx ws) oM hN (abi aV qU) (.inr (pl _)) zG 120
  refine(?_:bo _ _ (iH ((ij.drop 3).take 7++((ij.drop 10).take 1++ij.drop 11)) X) _ _ _)
  rw [uI]
  refine aO (ku R7.ex ((ij.drop 3).take 7) [aj] _ (fA [.dh]) _ F1 D2 abx _ _ λf2 bf jh bS bp p2=>?_)
  obtain⟨g2,kE,dz,e2,S5,G5,sC⟩:=p2
  obtain⟨rfl,u,t,m,k,num,W2⟩:=Y7 e2
  have sC:f2=.next:=sC
  subst sC
  have G5:dm c (wb c w (rx ws)) (ownOf X++F) bf jh jm kE.vars X:=G5
  have Ld:bf[0]?=some aj:=by rw [ja bp.pre (by simp)];rfl
  refine eN (Fz W2.k4) λk1 k2 k3 k4=>?_
  have E3:cR (dk (cC u) (cD (c_ ws t)))=true:=adu qU u t
  refine xA (aN.mp E3) λAZ xW=>?_
  obtain⟨S6,G6⟩:=ve (aJ:=aU aH) (rC:=hK .none (some (.ref 0)) (some (.tok 0)) (some (gI ws)) (some (cC u)) (some (.bool t)) .none (some (.int (.ofNat m))) .none (some (fR k)) (some (.int (.ofNat num))) (some (dk (cC u) (cD (c_ ws t)))) .none) S5 G5 Ld W2.j
   (sZ (P:=λi m2=>∃m,kE.vars[i]?=some (some m)/\Cv (rx ws) (aU aH) dz bJ (λi=>1<=i) m m2) no
    (λm e=>by have e:=aM e;subst e;exact⟨_,W2.v1,.ref rfl⟩)
    (λm e=>by have e:=aM e;subst e;exact⟨_,W2.v2,.gZ (i:=0) (j:=0) rfl rfl⟩)
    (λm e=>by have e:=aM e;subst e;exact⟨_,W2.v3,.fc rfl⟩)
    (λm e=>by have e:=aM e;subst e;exact⟨_,W2.v4,.same (o5 u)⟩)
    (λm e=>by have e:=aM e;subst e;exact⟨_,W2.v5,.same rfl⟩) no
    (λm e=>by have e:=aM e;subst e;exact⟨_,W2.v7,.same rfl⟩) no
    (λm e=>by have e:=aM e;subst e;exact⟨_,W2.v9,.same k1⟩)
    (λm e=>by have e:=aM e;subst e;exact⟨_,W2.v10,.same rfl⟩)
    (λm e=>by have e:=aM e;subst e;exact⟨_,W2.v11,(DQ (et (o5 u)) (iG (O7 t))).one _ _ _⟩) no)
  have HI:bh (ownOf X) [] s1.heap [aj] jh:=bh.cut (tG.trans bp) (λa ha=>by rw [cA.mp ha];exact dy Ld) wB
  obtain⟨S7,G7⟩:=ve (aJ:=lY u t k num (dk (cC u) (cD (c_ ws t)))) (rC:=hK .none (some (.ref 0)) (some (.tok 0)) (some (gI ws)) (some (.tok 27)) (some (.tok 28)) .none (some (.int (.ofNat m))) .none (some (.tok 31)) (some (.tok 32)) (some (.tok 40)) .none) S6 G6 rfl rfl
   (sZ (P:=λi m2=>∃m',(hK .none (some (.ref 0)) (some (.tok 0)) (some (gI ws)) (some (cC u)) (some (.bool t)) .none (some (.int (.ofNat m))) .none (some (fR k)) (some (.int (.ofNat num))) (some (dk (cC u) (cD (c_ ws t)))) .none)[i]?=some (some m')/\Cv (aU aH) (lY u t k num (dk (cC u) (cD (c_ ws t)))) (fA [.dh]) bJ (λi=>1<=i) m' m2) no
    (λm e=>by have e:=aM e;subst e;exact⟨_,rfl,.ref rfl⟩)
    (λm e=>by have e:=aM e;subst e;exact⟨_,rfl,.gZ (i:=0) (j:=0) rfl rfl⟩)
    (λm e=>by have e:=aM e;subst e;exact⟨_,rfl,.same (wc ws)⟩)
    (λm e=>by have e:=aM e;subst e;exact⟨_,rfl,.eT (o5 u) (B0 u) rfl⟩)
    (λm e=>by have e:=aM e;subst e;exact⟨_,rfl,.eT rfl rfl rfl⟩) no
    (λm e=>by have e:=aM e;subst e;exact⟨_,rfl,.same rfl⟩) no
    (λm e=>by have e:=aM e;subst e;exact⟨_,rfl,.eT k1 k3 rfl⟩)
    (λm e=>by have e:=aM e;subst e;exact⟨_,rfl,.eT rfl rfl rfl⟩)
    (λm e=>by have e:=aM e;subst e;exact⟨_,rfl,.eT AZ xW rfl⟩) no)
  have D3:Ctx c (wb c w (lY u t k num (dk (cC u) (cD (c_ ws t))))) I 70 (Y.deeper X) (ownOf X++F) [aj] {s1 with heap:=jh,toks:=bS} (fA [.dh]) ⟨jm,.none⟩ ⟨hK .none (some (.ref 0)) (some (.tok 0)) (some (gI ws)) (some (.tok 27)) (some (.tok 28)) .none (some (.int (.ofNat m))) .none (some (.tok 31)) (some (.tok 32)) (some (.tok 40)) .none,[]⟩ X:=⟨C1.room.le (by decide),S7,G7⟩
  have R8:=aV.sound (aL:=lY u t k num (dk (cC u) (cD (c_ ws t)))) oM hN (Kz aV W2.k4 rfl rfl) (.inr (pl _)) zG 70
  refine(?_:bo _ _ (iH ((ij.drop 10).take 1++ij.drop 11) X) _ _ _)
  rw [uI]
  refine aO (ku R8.ex ((ij.drop 10).take 1) [aj] _ (fA [.dh]) _ (F3 ws m) D3 (aby W2.m2 qU) _ _ λf3 dY xM ey dp p3=>?_)
  obtain⟨g3,pM,hM,e3,S8,G8,sD⟩:=p3
  obtain⟨rfl,i3,b3,r3,W3⟩:=Y8 e3
  have sD:f3=.next:=sD
  subst sD
  have G8:dm c (wb c w (lY u t k num (dk (cC u) (cD (c_ ws t))))) (ownOf X++F) dY xM jm pM.vars X:=G8
  have Le:dY[0]?=some aj:=by rw [ja dp.pre (by simp)];rfl
  refine ay (abD (u:=u) (t:=t) (k:=k) (num:=num) (d_:=dk (cC u) (cD (c_ ws t))) (aJ:=aU aH) W3.ok) λaG ew cp=>?_
  subst ew
  have lw:=Ca aG
  have l1:=J0 qU
  have l3:=r4 qU
  rw [lw] at l1 l3
  have m2:=W2.m2
  have lp:=Bt k num aG m
  have nL:=vJ W2.k4 W2.n3 (λwd hm=>lW qU _ (cF.mpr ⟨wd,hm,rfl⟩)) (ik:=m) (aG:=aG)
  obtain⟨S9,G9⟩:=ve (aJ:=aU aH) (rC:=hK .none (some (.ref 0)) (some (.tok 0)) (some (gI (bD aG))) (some (cC u)) (some (.bool t)) .none .none .none (some (fR k)) (some (.int (.ofNat num))) (some (dk (cC u) (cD (c_ (bD aG) t)))) (some (.aD (.list 200) (cY k num aG m)))) S8 G8 Le W3.j
   (sZ (P:=λi m2=>∃m',pM.vars[i]?=some (some m')/\Cv (lY u t k num (dk (cC u) (cD (c_ (bD aG) t)))) (aU aH) hM bJ (λi=>1<=i) m' m2) no
    (λm e=>by have e:=aM e;subst e;exact⟨_,W3.v1,.ref rfl⟩)
    (λm e=>by have e:=aM e;subst e;exact⟨_,W3.v2,.gZ (i:=0) (j:=0) rfl rfl⟩)
    (λm e=>by have e:=aM e;subst e;exact⟨_,W3.v3,.same (wc _)⟩)
    (λm e=>by have e:=aM e;subst e;exact⟨_,W3.v4,.fc rfl⟩)
    (λm e=>by have e:=aM e;subst e;exact⟨_,W3.v5,.fc rfl⟩) no no no
    (λm e=>by have e:=aM e;subst e;exact⟨_,W3.v9,.fc rfl⟩)
    (λm e=>by have e:=aM e;subst e;exact⟨_,W3.v10,.fc rfl⟩)
    (λm e=>by have e:=aM e;subst e;exact⟨_,W3.v11,.fc rfl⟩)
    (λm e=>by have e:=aM e;subst e;exact⟨_,W3.afc,.lst W3.g W3.i1 (cp _ _ _) (by rw [lp];lia) (by decide)⟩))
  have adO:bh (ownOf X) [] s1.heap [aj] xM:=bh.cut (HI.trans dp) (λa ha=>by rw [cA.mp ha];exact dy Le) wB
  have hf:=fits_of l1 l3 m2 W2.tm
  have O4:=abj aV qU W2.k4 W2.u3 W2.n3 hf pl
  have cw:∀o β FZ,cG (aU aH) (iY u t k num (dk (cC u) (cD (c_ (bD aG) t))) (cY k num aG m) (fq (bD aG))) o β FZ (fq (bD aG)) (tQ aG.length):=λo β FZ=>by
   have:=qI (aQ:=aU aH) (aJ:=iY u t k num (dk (cC u) (cD (c_ (bD aG) t))) (cY k num aG m) (fq (bD aG))) (o:=o) (β:=β) (FZ:=FZ) (f:=λi=>(fq (bD aG)).getD i .none) (g:=λi=>D.tok (60+i)) (B:=fY (fq (bD aG)).length) λi hi=>by
    have hi:=md.mp hi
    have e:(fq (bD aG)).getD i .none=(fq (bD aG))[i]:=by simp [qA,hi]
    have Mb:(fq (bD aG))[i]∈fq (bD aG):=zf hi
    refine ay (cF.mp Mb) λz _ hz=>?_
    refine .eT (by rw [e];exact Fl _ _ Mb) (by rw [e,<-hz];rfl) (by rw [HX,cV hi,e])
   rw [map_getD] at this
   have e:(fq (bD aG)).length=aG.length:=by unfold fq;rw [cZ,lw]
   rw [e] at this
   exact this
  obtain⟨RS,Qo⟩:=ve (aJ:=iY u t k num (dk (cC u) (cD (c_ (bD aG) t))) (cY k num aG m) (fq (bD aG))) (rC:=hK .none (some (.ref 0)) (some (.tok 0)) (some (.aD (.list 63) (tQ aG.length))) (some (.tok 27)) (some (.tok 28)) .none .none .none (some (.tok 31)) (some (.tok 32)) (some (.tok 40)) (some (.aD (.list 200) (toks (aG.length+m))))) S9 G9 rfl rfl
   (sZ (P:=λi m2=>∃m',(hK .none (some (.ref 0)) (some (.tok 0)) (some (gI (bD aG))) (some (cC u)) (some (.bool t)) .none .none .none (some (fR k)) (some (.int (.ofNat num))) (some (dk (cC u) (cD (c_ (bD aG) t)))) (some (.aD (.list 200) (cY k num aG m))))[i]?=some (some m')/\Cv (aU aH) (iY u t k num (dk (cC u) (cD (c_ (bD aG) t))) (cY k num aG m) (fq (bD aG))) (fA [.dh]) bJ (λi=>1<=i) m' m2) no
    (λm e=>by have e:=aM e;subst e;exact⟨_,rfl,.ref rfl⟩)
    (λm e=>by have e:=aM e;subst e;exact⟨_,rfl,.gZ (i:=0) (j:=0) rfl (kW (by decide))⟩)
    (λm e=>by have e:=aM e;subst e;exact⟨_,rfl,.aD (cw _ _ _)⟩)
    (λm e=>by have e:=aM e;subst e;exact⟨_,rfl,.eT (o5 u) (B0 u) (kW (by decide))⟩)
    (λm e=>by have e:=aM e;subst e;exact⟨_,rfl,.eT rfl rfl (kW (by decide))⟩) no no no
    (λm e=>by have e:=aM e;subst e;exact⟨_,rfl,.eT k1 k3 (kW (by decide))⟩)
    (λm e=>by have e:=aM e;subst e;exact⟨_,rfl,.eT rfl rfl (kW (by decide))⟩)
    (λm e=>by have e:=aM e;subst e;exact⟨_,rfl,.eT AZ xW (kW (by decide))⟩)
    (λm' e=>by
     have e:=aM e;subst e
     refine⟨_,rfl,.aD ?_⟩
     have:=DS (aQ:=aU aH) (aJ:=iY u t k num (dk (cC u) (cD (c_ (bD aG) t))) (cY k num aG m) (fq (bD aG))) (ps:=cY k num aG m) (λi hi=>HW (by lia)) (λz hz=>b7 uo z (nL z hz)) (fA [.dh]) bJ (λi=>1<=i)
     rw [lp] at this
     exact this))
  have D4:Ctx c (wb c w (iY u t k num (dk (cC u) (cD (c_ (bD aG) t))) (cY k num aG m) (fq (bD aG)))) I 300 (Y.deeper X) (ownOf X++F) [aj] {s1 with heap:=xM,toks:=ey} (fA [.dh]) ⟨jm,.none⟩ ⟨hK .none (some (.ref 0)) (some (.tok 0)) (some (.aD (.list 63) (tQ aG.length))) (some (.tok 27)) (some (.tok 28)) .none .none .none (some (.tok 31)) (some (.tok 32)) (some (.tok 40)) (some (.aD (.list 200) (toks (aG.length+m)))),[]⟩ X:=⟨C1.room.le (by decide),RS,Qo⟩
  have R9:=aV.sound (aL:=iY u t k num (dk (cC u) (cD (c_ (bD aG) t))) (cY k num aG m) (fq (bD aG))) oM hN O4 (.inl jD) (mj (.bool true)) 300
  refine(?_:bo _ _ (iH (ij.drop 11) X) _ _ _)
  refine ku R9.ex (ij.drop 11) [aj] _ (fA [.dh]) _ Na D4 (abz l1 l3 m2 (aeT W2.k4 (bD aG)) (aaN W2.n3 (bD aG))) _ _ λf4 gz Mh jt e_ p4=>?_
  obtain⟨g4,V2,p7,e4,RT,Cj,LC⟩:=p4
  have Cj:dm c (wb c w (iY u t k num (dk (cC u) (cD (c_ (bD aG) t))) (cY k num aG m) (fq (bD aG)))) (ownOf X++F) gz Mh jm V2.vars X:=Cj
  cases g4 with
  |next=>nomatch e4
  |ret mv=>
   have e4:=aM e4
   subst e4
   refine ay LC ?_;clear LC;intro v4 aI x4;subst aI
   subst x4
   have RU:=RT.bare (F2:=ownOf X++F) (λa ha=>.inl ha) (aU aH)
   exact q _ [] Mh jt (bh.cut (adO.trans e_) (λa ha=>nomatch ha) wB) ⟨.ret (.bool true),⟨[],[]⟩,_,rfl,RU,Cj.bare gD,_,rfl,by rfl⟩
 .obtain⟨mv,br,rfl,S',xm⟩:=pv
  exact q v ao M tk st xm
end
noncomputable abbrev PP:a_:=RK
noncomputable def mL(T:BT)(n a:H):aa jy:=match dB a n with
 |true=>match T.get a with
  |some E=>alive E
  |none=>none
 |false=>none
noncomputable def En(E:jy):aa y9:=match E.data with
 |.func fd=>some fd
 |_=>none
noncomputable def Ef(E:jy):aa (dS tU):=match E.data with
 |.dict R _=>some R
 |_=>none
noncomputable def B7(E:jy):aa (G aw):=match E.data with
 |.seq V _=>some V.toList
 |_=>none
noncomputable def Er(E:jy):aa (dS aw):=match E.data with
 |.fields V=>some V
 |_=>none
noncomputable def TN(E:jy):aa ClassData:=match E.data with
 |.cls cd=>some cd
 |_=>none
noncomputable def Ik(E:jy):aa (G aw):=match E.cls==.type "tuple" &&E.dict.isNone&&E.slots.isEmpty with
 |true=>B7 E
 |false=>none
noncomputable def Bv:aw->aa aA
 |.ref a=>some a
 |_=>none
noncomputable def Mu:aw->aa ba
 |.int i _=>some i
 |_=>none
noncomputable def HO:aw->aa ar
 |.str s _=>some s
 |_=>none
noncomputable def Hx(s:ar)(E:aa ar):ah:=match E with
 |some t=>seq s t
 |none=>false
noncomputable def ra{α:Type}(f:α->ah)(E:aa α):ah:=match E with
 |some a=>f a
 |none=>false
noncomputable def GC(T:BT)(n a:H):aa (dS tU):=(mL T n a).bind Ef
noncomputable def zS(f:D->aw->ah):G D->G aw->ah
 |[],[]=>true
 |m::B,v::r=>f m v&&zS f B r
 |_,_=>false
noncomputable def zR(T:BT)(n:H):H->D->aw->ah
 |0,_,_=>false
 |k+1,m,v=>match m with
  |.none=>v==.none
  |.bool b=>v==.bool b
  |.int i=>decide (Mu v=some i)
  |.str s=>Hx s (HO v)&&g8 s
  |.fn a=>v==.ref a
  |.bi b=>v==b.value
  |.tup B=>ra (zS (zR T n k) B) ((Bv v).bind λa=>(mL T n a).bind Ik)
  |_=>false
noncomputable def X4(v:aw)(m:D):ah:=match m with
 |.bi b=>v==b.value
 |_=>false
noncomputable def Kq(T:BT)(n:H)(eg eb:dS tU)(p:ar×D):ah:=j6 p.2&&match Bd eg p.1 with
 |some v=>zR T n 8 p.2 v
 |none=>ra (λv=>X4 v p.2) (Bd eb p.1)
noncomputable def Hr:G ar->G ar->ah
 |[],[]=>true
 |a::B,b::r=>seq a b&&Hr B r
 |_,_=>false
noncomputable def Gn:G ar->ah
 |[]=>true
 |a::B=>(B.all λb=>!seq a b)&&Gn B
noncomputable def Kw(T:BT)(n:H)(cd:aw)(q:ar):ah:=Hx q ((Bv cd).bind λJ=>(mL T n J).bind λE=>(Er E).bind λV=>V[1]?.bind HO)
noncomputable def KN(T:BT)(n:H)(d:aw)(B:G D):ah:=(d==.none&&B.isEmpty)||ra (zS (zR T n 8) B) ((Bv d).bind λa=>(mL T n a).bind B7)
noncomputable def Mz:ScopeKind->ah
 |.function=>true
 |_=>false
noncomputable def Lv(T:BT)(n a:H):aa y9:=(mL T n a).bind En
noncomputable def GH(T:BT)(n:H)(fd:y9)(az:Fn):ah:=Kw T n fd.code fd.qualname&&GG fd&&Mz fd.scope.kind&&Hr (fd.params.args.map (·.arg)) ((az.sc.take az.hO).map (·.1))&&
   (az.sc.take az.hO).all (λp=>ME p.2)&&eB az.hO az.sc.length&&Gn (az.sc.map (·.1))&&eB az.jg.length az.hO&&KN T n fd.defaults az.jg&&mD az.jg
noncomputable def Kp(T:BT)(n:H)(r:H×H×aa H×G D):ah:=ra (λfd=>ra (GH T n fd) (xt PP r.2)) (Lv T n r.1)
noncomputable def xw(T:BT)(n:H)(r:H×H×aa H×G D):aa (FuncBody×G (ar×dc)):=(Lv T n r.1).map λfd=>(fd.body,fd.scope.names)
noncomputable def xr(r:H×H×aa H×G D):aa (FuncBody×G (ar×dc)):=(xt PP r.2).map λaz=>(.stmts az.body,az.sc)
noncomputable def atT(T:BT)(n a:H):b8:=(mL T n a).toList.map λE=>(a,E)
noncomputable def aaK(T:BT)(n a:H):b8:=((mL T n a).bind TN).toList.flatMap λcd=>atT T n cd.ns
noncomputable def Ag(T:BT)(n:H):b8:=zT.flatMap (λp=>atT T n p.1++aaK T n p.1)++mw.flatMap λr=>atT T n r.1
noncomputable def Ko(K:b8):ah:=(zT.all λp=>w_ K p.2.2 p.1 p.2.1&&keepIn K (.ref p.1))&&mw.all λr=>keepIn K (.ref r.1)
noncomputable def zQ(T:BT)(n:H):ah:=ra (λeg=>ra (λeb=>Al.all (Kq T n eg eb)) (GC T n qH)) (GC T n mB)&&mw.all (Kp T n)&&Ko (Ag T n)&&(mL T n tK).isSome
noncomputable abbrev aeP:C8->aa nT:=PySem.W.Fast.tw14364793385576792824
noncomputable def yG(w:rY)(mF:H)(mZ:aa aw):H->qE->Thread->aa qE
 |0,_,_=>none
 |n+1,s,t=>match through t with
  |true=>some s
  |false=>match PySem.W.Fast.tw6613529449190102663 mF mZ t with
   |false=>none
   |true=>match PySem.W.Fast.tw10156331382660048174 (PySem.W.Fast.tw11892475500146522536 aeP) PP w s t with
    |some (s',t')=>yG w mF mZ n s' t'
    |none=>none
noncomputable def Tn(w:rY):BT:=(fY 11).foldl (λT i=>T.ins i ((r8 w.params).objs[i]!)) BT.nil
noncomputable def Oo(w:rY)(os:CR):qE:=⟨Tn w,11,{},#[],boot_drawn,boot_toks,os⟩
noncomputable def Lf(w:rY)(os:CR):aa qE:=yG w 11 (some (.ref 6)) 4200 (Oo w os) (topStub PP)
noncomputable def qv:a_:=PySem.W.view PP [62]
noncomputable def loose:G ar:=PP.boundNames
noncomputable def WL(w:rY)(E:aa qE):=E.map λs=>
 (openSeen qv loose (Ff PP.main.body) (λ_=>true) true s.abs,
  (staticsOk (Ff PP.main.body) (r8 w.params) s.abs.heap&&namesBound PP s.abs.heap&&gensDone s.abs&&laidKept (r8 w.params) s.abs.heap),
  mw.map (xw s.tree s.n),zQ s.tree s.n)
noncomputable def WM:=some (openGood qv loose,true,mw.map xr,true)
theorem WN:∀(w:rY) (os:CR),WL w (Lf w os)=WM:=λw os=>by kernel_rfl
theorem boot_abs(w:rY)(os:CR):(Oo w os).abs=⟨r8 w.params,IT [],boot_drawn,boot_toks,os⟩:=by kernel_rfl
theorem To(w:rY):((r8 w.params).isNs mB&&(IT []:dS GenState).size==0,(r8 w.params).objs.size,(r8 w.params).nsMap mB "__annotations__")=(true,11,some (.ref 6)):=by kernel_rfl
theorem abd:opening PP=plainProg PP.main.scope.names:=by kernel_rfl
theorem Vt:∀s,fenceModules? PP s=some s:=λs=>by kernel_rfl
theorem YR:n8.wellSaid=true:=by
 rw [Fast.te9446332074065402090];kernel_rfl
theorem YN:n8.row.toRowW.promised:=⟨[.list []],by kernel_rfl,by kernel_rfl⟩
theorem YJ:PP.bare:=⟨rfl,rfl,rfl,rfl,rfl,by kernel_rfl⟩
theorem YM:(chainsOk qv&&opensWell PP&&(frees n8.row.toRowW&&n8.row.within.isEmpty))=true:=by kernel_rfl
theorem YL:(!PySem.Challenge.rw_pq0710_01.row.writes||n8.row.records.isEmpty)=true:=by kernel_rfl
noncomputable def FP:aa (DefRec×G (ar×JG)):=defOf qv n8.row.name
theorem YH:(FP.map λd=>(PP.theDef n8.row.name,kwWritten? d.1.params.kwonlyargs d.1.params.kw_defaults))=FP.map λd=>(some (d.1.params,d.1.body,d.1.scope),some d.2):=by kernel_rfl
theorem YI:FP.isSome=true:=by kernel_rfl
theorem aen(w:dF)(mF:H)(mZ:aa aw)(n:H)(s:qE)(t:Thread):yG w mF mZ (n+1) s t=match through t with
 |true=>some s
 |false=>match stepOk mF mZ t with
  |false=>none
  |true=>match stepT (denote BZ) PP w s t with
   |some (s',t')=>yG w mF mZ n s' t'
   |none=>none:=by
 rw [Fast.te6613529449190102663,Fast.te10156331382660048174,Fast.te11892475500146522536,Fast.te14364793385576792824];rfl
theorem aeo(n:H):∀(s:qE) (t:Thread) (r:qE),yG w mF mZ n s t=some r->topRun BZ PP w mF mZ n s.abs t=some r.abs:=by
 induction n with
 |zero=>exact λ_ _ _ h=>aB h
 |succ n O=>
  intro s t r h
  rw [aen] at h
  unfold topRun
  generalize ht:through t=ax at h
  cases ax with
  |true=>exact cq (some ·.abs) (aM h)
  |false=>
   generalize hk:stepOk mF mZ t=ax at h
   cases ax with
   |false=>exact aB h
   |true=>
    generalize hs:stepT (denote BZ) PP w s t=ax at h
    cases ax with
    |none=>exact aB h
    |some p=>rw [stepT_spec (t':=p.2) (s':=p.1) hs];exact O _ _ _ h
noncomputable def n_(T:BT)(n:H)(h:aP):Prop:=∀a E,mL T n a=some E->h.get? a=some E
theorem aem:n_ T n (absHeap T n agL):=λa E e=>by
 unfold mL at e
 generalize lt:dB a n=ax at e
 cases ax with
 |true=>
  generalize g:T.get a=ax at e
  cases ax with
  |some o'=>rw [abs_get (dw lt) g];exact e
  |none=>exact aB e
 |false=>exact aB e
section
variable{c:a_}{w:WB}{T:BT}{n:H}{h:aP}
theorem vG{α:Type}{f:α->ah}{E:aa α}(e:ra f E=true):∃a,E=some a/\f a=true:=by
 cases E with
 |none=>nomatch e
 |some a=>exact⟨a,rfl,e⟩
theorem Ow(e:Hx s E=true):E=some s:=by
 cases E with
 |none=>nomatch e
 |some t=>have e:seq s t=true:=e;rw [lV.mp e]
theorem Vs(e:En E=some fd):E.data=.func fd:=by
 unfold En at e
 generalize h:E.data=ax at e
 cases ax with
 |func f=>rw [aM e]
 |_=>nomatch e
theorem Vf(e:Ef E=some R):∃ep,E.data=.dict R ep:=by
 unfold Ef at e
 generalize h:E.data=ax at e
 cases ax with
 |dict f ep=>exact⟨ep,by rw [aM e]⟩
 |_=>nomatch e
theorem PL(e:B7 E=some V):∃ep,E.data=.seq V.toArray ep:=by
 unfold B7 at e
 generalize h:E.data=ax at e
 cases ax with
 |seq f ep=>exact⟨ep,by rw [<-aM e]⟩
 |_=>nomatch e
theorem VK(e:Er E=some V):E.data=.fields V:=by
 unfold Er at e
 generalize h:E.data=ax at e
 cases ax with
 |fields f=>rw [aM e]
 |_=>nomatch e
theorem aeY(e:Ik E=some V):∃ep,E=kX V.toArray ep:=by
 unfold Ik at e
 obtain⟨q,e⟩:=bI e
 obtain⟨q,q3⟩:=aN.mp q
 obtain⟨q1,q2⟩:=aN.mp q
 obtain⟨ep,hd⟩:=PL e
 obtain⟨J,d,dt,sl⟩:=E
 exact⟨ep,by rw [show J=_ from qG.mp q1,show d=_ from RD.mp q2,show dt=_ from hd,show sl=#[] from Array.isEmpty_iff.mp q3]⟩
theorem Hn(e:Bv v=some a):v=.ref a:=by
 cases v with
 |ref b=>rw [aM e]
 |_=>nomatch e
theorem XX(e:Mu v=some a):∃t,v=.int a t:=by
 cases v with
 |int b t=>exact⟨t,by rw [aM e]⟩
 |_=>nomatch e
theorem OX(e:HO v=some a):∃t,v=.str a t:=by
 cases v with
 |str b t=>exact⟨t,by rw [aM e]⟩
 |_=>nomatch e
theorem oi{α β:Type}{E:aa α}{f:α->aa β}{b:β}(e:E.bind f=some b):∃a,E=some a/\f a=some b:=RA.mp e
theorem NP(k:n_ T n h){a:H}{R:dS tU}(e:GC T n a=some R){m:ar->aa aw}(x:h.Ns a m)(y:ar):Bd R y=m y:=by
 obtain⟨E,q,e⟩:=oi e
 obtain⟨ep,hd⟩:=Vf e
 obtain⟨o',dD,U6,ho,uP,_,hf⟩:=x
 have eo:=aM ((k _ _ q).symm.trans ho)
 have z:=(Data.dict.inj (hd.symm.trans ((cq Obj.data eo).trans uP))).1
 rw [z];exact hf y
theorem Ks(q:∀m v,f m v=true->VR c w [] [] h m v)(B:G D):∀r:G aw,zS f B r=true->aW c w [] [] h B r:=by
 induction B with
 |nil=>
  intro r e
  cases r with
  |nil=>exact .nil
  |cons=>exact bz e
 |cons m B O=>
  intro r e
  cases r with
  |nil=>exact bz e
  |cons v r=>exact .cons (q m v (aN.mp e).1) (O r (aN.mp e).2)
theorem Kr(k:n_ T n h)(i:H):∀(m:D) (v:aw),zR T n i m v=true->VR c w [] [] h m v:=by
 induction i with
 |zero=>exact λ_ _ e=>bz e
 |succ i O=>
  intro m v e
  cases m with
  |str z=>exact⟨OX (Ow (aN.mp e).1),(aN.mp e).2⟩
  |int j=>exact XX (NR e)
  |tup B=>
   obtain⟨V,q,J⟩:=vG e
   obtain⟨a,q1,q⟩:=oi q
   obtain⟨E,q2,q⟩:=oi q
   obtain⟨ep,q3⟩:=aeY q
   exact⟨a,_,ep,Hn q1,⟨eP,eP⟩,q3▸k _ _ q2,Ks O _ _ J⟩
  |none=>exact pI e
  |bool b=>exact pI e
  |fn a=>exact pI e
  |bi b=>exact pI e
  |_=>exact bz e
theorem TM(k:n_ T n h){mg mb:ar->aa aw}{eg eb:dS tU}(hg:∀y,Bd eg y=mg y)(hb:∀y,Bd eb y=mb y)(e:Kq T n eg eb (x,m)=true):Ck c w h mg mb x m/\j6 m=true:=by
 obtain⟨a,e⟩:=aN.mp e
 refine⟨?_,a⟩
 dsimp only at e
 rw [hg] at e
 generalize q:mg x=ax at e
 cases ax with
 |some v=>exact .inl ⟨v,q,Kr k _ _ _ e⟩
 |none=>
  obtain⟨v,q2,e⟩:=vG e
  cases m with
  |bi b=>exact .inr ⟨q,b,rfl,(hb x).symm.trans (q2.trans (cq some (qG.mp e)))⟩
  |_=>nomatch e
theorem acV(B:G ar):∀r:G ar,Hr B r=true->B=r:=by
 induction B with
 |nil=>
  intro r e
  cases r with
  |nil=>rfl
  |cons=>exact bz e
 |cons a B O=>
  intro r e
  cases r with
  |nil=>exact bz e
  |cons b r=>
   obtain⟨x,y⟩:=aN.mp e
   rw [seq_eq] at x
   rw [NR x,O r y]
theorem aal(B:G ar)(e:Gn B=true):B.Nodup:=by
 induction B with
 |nil=>exact .nil
 |cons a B O=>
  obtain⟨x,y⟩:=aN.mp e
  refine ic.mpr ⟨λhm=>?_,O y⟩
  have:=l9.mp x a hm
  rw [seq_eq,ix rfl] at this
  exact bz this
theorem TU(k:n_ T n h){cd:aw}{q:ar}(e:Kw T n cd q=true):h.CodeRec cd q:=by
 obtain⟨J,h1,e⟩:=oi (Ow e)
 obtain⟨E,h2,e⟩:=oi e
 obtain⟨V,h3,e⟩:=oi e
 obtain⟨v,h4,e⟩:=oi e
 obtain⟨t,h5⟩:=OX e
 exact⟨J,E,V,t,Hn h1,k _ _ h2,VK h3,h4.trans (cq some h5)⟩
theorem T8(k:n_ T n h){d:aw}{B:G D}(e:KN T n d B=true):∃dv,((d=.none/\dv=[])\/∃T E n,d=.ref T/\h.get? T=some E/\E.data=.seq dv.toArray n)/\aW c w [] [] h B dv:=by
 rcases k_.mp e with e|e
 .obtain⟨a,b⟩:=aN.mp e
  rw [Jm.mp b];exact⟨[],.inl ⟨qG.mp a,rfl⟩,.nil⟩
 .obtain⟨V,q,J⟩:=vG e
  obtain⟨a,q1,q⟩:=oi q
  obtain⟨E,q2,q⟩:=oi q
  obtain⟨ep,q3⟩:=PL q
  exact⟨V,.inr ⟨a,E,ep,Hn q1,k _ _ q2,q3⟩,Ks (Kr k 8) _ _ J⟩
theorem X8(e:Mz k=true):k=.function:=by
 cases k<;>first|rfl|nomatch e
theorem aa4(k:n_ T n h)(ho:h.get? a=some E)(hd:E.data=.func fd)(e:GH T n fd az=true)(hv:fd.body=.stmts az.body/\fd.scope.names=az.sc):(∃E fd dv,nX c w h a az E fd dv)/\mD az.jg=true:=by
 unfold GH at e
 obtain⟨e,UB⟩:=aN.mp e
 obtain⟨e,e9⟩:=aN.mp e
 obtain⟨e,e8⟩:=aN.mp e
 obtain⟨e,e7⟩:=aN.mp e
 obtain⟨e,e6⟩:=aN.mp e
 obtain⟨e,e5⟩:=aN.mp e
 obtain⟨e,e4⟩:=aN.mp e
 obtain⟨e,e3⟩:=aN.mp e
 obtain⟨e1,e2⟩:=aN.mp e
 obtain⟨dv,d1,d2⟩:=T8 (c:=c) (w:=w) k e9
 exact⟨⟨E,fd,dv,ho,hd,TU k e1,e2,X8 e3,hv.1,hv.2,acV _ _ e4,e5,dw e6,aal _ e7,dw e8,d1,d2⟩,UB⟩
theorem TL(k:n_ T n h){r:H×H×aa H×G D}{az:Fn}(e:Kp T n r=true)(hG:xt PP r.2=some az)(hv:xw T n r=xr r):(∃E fd dv,nX c w h r.1 az E fd dv)/\mD az.jg=true:=by
 obtain⟨fd,q,e⟩:=vG e
 rw [hG] at e
 unfold xw xr at hv
 rw [hG,q] at hv
 obtain⟨E,q1,q2⟩:=oi q
 exact aa4 k (k _ _ q1) (Vs q2) e (iS (aM hv))
theorem Di(e:(b,E)∈atT T n a):mL T n b=some E:=by
 obtain⟨o',h1,h2⟩:=cF.mp e
 obtain⟨rfl,rfl⟩:=iS h2
 exact Option.mem_toList.mp h1
theorem V4(e:(b,E)∈Ag T n):mL T n b=some E:=by
 rcases dI.mp e with e|e
 .obtain⟨p,_,e⟩:=mc.mp e
  rcases dI.mp e with e|e
  .exact Di e
  .obtain⟨cd,_,e⟩:=mc.mp e
   exact Di e
 .obtain⟨p,_,e⟩:=mc.mp e
  exact Di e
theorem Ze{K:b8}(e:K.lookup a=some E):(a,E)∈K:=by
 induction K with
 |nil=>nomatch e
 |cons p r O=>
  rw [jM] at e
  generalize q:(a==p.1)=ax at e
  cases ax with
  |true=>rw [aM e.symm,qG.mp q];exact QY ..
  |false=>exact QX _ (O e)
theorem V3(k:n_ T n h):(Ag T n).In h:=λa E e=>k a E (V4 (Ze e))
theorem Gv{α:Type}{B:G (H×α)}{a:α}(e:yf B x=some a):(x,a)∈B:=by
 induction B with
 |nil=>exact aB e
 |cons p B O=>
  have e:@bN (λ_=>aa α) (yf B x) (some p.2) (bA p.1 x)=some a:=e
  generalize q:bA p.1 x=ax at e
  cases ax with
  |true=>
   rw [<-(aM e:p.2=a),<-dU q];exact QY ..
  |false=>exact QX _ (O e)
theorem LF{a:H}(e:cz.fn a=some az):∃x,(a,x)∈mw/\xt PP x=some az:=by
 have e:fnIn PP a=some az:=e
 unfold fnIn at e
 generalize q:yf mw a=ax at e
 cases ax with
 |some x=>exact⟨x,Gv q,e⟩
 |none=>exact aB e
end
noncomputable def YT(h:aP):Prop:=∃T n,zQ T n=true/\mw.map (xw T n)=mw.map xr/\n_ T n h
theorem YT.keeps(x:YT h)(k:∀b E,h.get? b=some E->M.get? b=some E):YT M:=let⟨T,n,a,b,J⟩:=x;⟨T,n,a,b,λd E e=>k _ _ (J d E e)⟩
theorem SM{w:dF}{h:aP}(g9:YT h)(ng:h.Ns mB mg)(nb:h.Ns qH mb)(nl:h.NoLimit):∃K,Base PP w K cz h mg mb/\∀v,mg n8.name=some v->v=.ref 659:=by
 obtain⟨T,n,J,fv,k⟩:=g9
 unfold zQ at J
 simp only [tR] at J
 obtain⟨⟨⟨c1,c2⟩,c3⟩,c4⟩:=J
 obtain⟨eg,q1,c1⟩:=vG c1
 obtain⟨eb,q2,c1⟩:=vG c1
 have fg:=λx m (e:(x,m)∈Al)=>TM (c:=PP) (w:=w0 w) k (NP k q1 ng) (NP k q2 nb) (l9.mp c1 (x,m) e)
 unfold Ko at c3
 obtain⟨c5,c6⟩:=aN.mp c3
 have hc:=λp (e:p∈zT)=>aN.mp (l9.mp c5 p e)
 refine⟨Ag T n,⟨V3 k,ng,nb,nl,?_,λx m e=>fg x m (qF e),λaq p e=>(hc (aq,p) (Gv e)).1,λa e=>?_,λa az e=>?_⟩,λv e=>?_⟩
 .obtain⟨E,ho⟩:=JB.mp c4
  exact⟨E,k _ _ ho⟩
 .unfold r9 at e
  dsimp only at e
  generalize q:cz.fn a=ax at e
  cases ax with
  |some az=>
   obtain⟨x,hx,_⟩:=LF q
   exact l9.mp c6 _ hx
  |none=>
   generalize q:cz.cls a=ax at e
   cases ax with
   |some p=>exact(hc (a,p) (Gv q)).2
   |none=>nomatch e
 .obtain⟨x,hx,hG⟩:=LF e
  exact TL k (l9.mp c2 _ hx) hG (fU fv _ hx)
 .have:=(fg n8.name (.fn 659) (qF (show g_ Al _=_ by rfl))).1
  rcases this with⟨u,e1,e2⟩|⟨_,b,e2,_⟩
  .rw [e1] at e
   exact(aM e).symm.trans e2
  .nomatch e2
theorem WH{α β γ δ:Type}{a a':α}{b b':β}{J c':γ}{d d':δ}(e:some (a,b,J,d)=some (a',b',c',d')):a=a'/\b=b'/\J=c'/\d=d':=by
 cases e;exact⟨rfl,rfl,rfl,rfl⟩
theorem aeU{tb:C8->aa nT}{p:a_}{w:dF}{N mF:H}(h1:(oX.heap.isNs mB&&oX.gens.size==0)=true)(h2:oX.heap.objs.size=mF)(h3:oX.heap.nsMap mB "__annotations__" =mZ)
  (h4:topRun tb p w mF mZ N oX (topStub p)=some fX) (h5:(staticsOk (Ff p.main.body) oX.heap fX.heap&&namesBound p fX.heap&&gensDone fX&&laidKept oX.heap fX.heap)=true):topFrom tb p w N oX=some fX:=by
 subst h2;subst h3
 unfold topFrom
 rw [h1,h4]
 dsimp only [Rz]
 rw [h5]
theorem aa_{tb:C8->aa nT}{p:a_}{w:dF}{N:H}(e:fencedOpening tb p w N=some oX)(h:topFrom tb p w N oX=some fX):GP tb p w N=some fX:=by
 unfold GP;rw [e];exact h
theorem Ph(w:dF):∃r:qE,GP BZ PP w 4200=some r.abs/\openSeen qv loose (Ff PP.main.body) (λ_=>true) true r.abs=openGood qv loose/\mw.map (xw r.tree r.n)=mw.map xr/\zQ r.tree r.n=true:=by
 obtain⟨⟨h,gs,d,k,os⟩,e,e'⟩:=zr.mp (boot_open (N:=4200) abd (by decide) Vt w)
 obtain⟨rfl,rfl,rfl,rfl⟩:h=r8 w.params/\gs=IT []/\d=boot_drawn/\k=boot_toks:=by
  refine xA (iS e') λa e'=>?_
  refine xA (iS e') λb e'=>?_
  refine xA (iS e') λJ e'=>?_
  exact⟨a,b,J,e'⟩
 have hh:=WN w os
 generalize hr:Lf w os=ax at hh
 cases ax with
 |none=>nomatch hh
 |some r=>
  refine eN (WH hh) λh1 h2 h3 h4=>?_
  have tr:=aeo 4200 _ _ _ hr
  rw [boot_abs] at tr
  refine xA (iS (To w)) λz1 z=>?_
  refine xA (iS z) λz2 z3=>?_
  exact⟨r,aa_ e (aeU z1 z2 z3 tr h2),h1,h3,h4⟩
noncomputable def heapOf:aa aT->aP
 |some s=>s.heap
 |none=>{}
noncomputable def D9(w:dF):aP:=heapOf (GP BZ PP w 4200)
theorem abe{σ α β:Type}{E:aa σ}{s:σ}{f:σ->α}{g:σ->β}{x:α}{b:β}(e:E=some s)(h:f s=x)(hb:g s=b):E.map (λs=>(f s,g s))=some (x,b):=by
 rw [e,<-h,<-hb];rfl
theorem YK:LeftO PP qv loose (λ_=>true) (λs=>s.heap) D9 4200:=λw=>by
 refine iZ (Ph w) λr e h1 _ _=>?_
 exact abe e h1 (cq heapOf e).symm
theorem UY(w:dF):YT (D9 w):=by
 refine iZ (Ph w) λr e _ h3 h4=>?_
 have q:D9 w=r.abs.heap:=cq heapOf e
 rw [q]
 exact⟨r.tree,r.n,h4,h3,aem⟩
theorem ints_of(e:WShape.hasItems [] xs .int=true):∃ns:G ba,xs=ns.map .int:=by
 induction xs with
 |nil=>exact⟨[],rfl⟩
 |cons x xs O=>
  refine xA (aN.mp e) λa b=>?_
  refine bw (O b) λns q=>?_
  clear O e b
  cases x with
  |int i=>exact⟨i::ns,cq _ q⟩
  |_=>exact bz a
theorem afs(x:WellAll P h V (d::ds)):∃v r,V=v::r/\Well P h v d/\WellAll P h r ds:=by
 cases x with
 |cons a b=>exact⟨_,_,rfl,a,b⟩
theorem aft(x:Well P h v (.int i)):∃t,v=.int i t:=by
 cases x;exact⟨_,rfl⟩
theorem afh(ns:G ba):∀V:G aw,WellAll P h V (ns.map .int)->aW c w [] [] h (ns.map D.int) V:=by
 induction ns with
 |nil=>intro V x;cases x;exact .nil
 |cons n ns O=>
  intro V x
  refine eO (afs x) λv r aE a b=>?_;subst aE
  exact .cons (by exact aft a) (O _ b)
noncomputable abbrev vL:OpenRow:=n8.row
set_option backward.match.sparseCases true in
theorem Sw(x:vL.toRowW.claim.pre args=true):∃ns:G ba,args=[.list (ns.map .int)]/\ns.length<=63:=by
 refine xA (pre_splitW x) λa b=>?_
 refine eO (hasAllW_cons a) λd r aE h1 h2=>?_;subst aE
 cases hasAllW_nil h2
 cases d with
 |list xs=>
  have h1:(WShape.hasItems [] xs .int||false)=true:=h1
  rw [qr] at h1
  refine bw (ints_of h1) λns aI=>?_;obtain rfl:=aI.symm
  refine⟨ns,rfl,?_⟩
  by_cases q:(63:ba)<((ns.map WData.int).length:ba)
  .have:vL.toRowW.pre.holds [] {args:=[.list (ns.map .int)]}=false:=by
    refine(?_:(match (match (match some (WData.bool (decide ((63:ba)<((ns.map WData.int).length:ba)))) with|some (.bool b)=>some (WData.bool (!b))|_=>none) with|some (.bool false)=>some (WData.bool false)|some (.bool true)=>_|_=>none) with|some (.bool true)=>true|_=>false)=false)
    rw [ix q]
    rfl
   nomatch (this.symm.trans b)
  .rw [cZ] at q;lia
 |_=>nomatch h1
theorem YQ(hd:d.name=vL.name):WalkO qv loose (λ_ _=>jz) (λ_ h=>YT h) vL.toRowW d MW λf V=>PySem.call f V:=by
 intro w oX fX mg mb az g9 a E pm cd age dV kV e1 e2 e3 e4 e5 hg args iM as pre agK reads afr low
 refine ay (SM (w:=w) g9 az.T.g az.T.b az.T.nolimit) λK aV Wm=>?_
 have ea:a=659:=JQ (Wm _ (show mg vL.name=some (og a) by rw [<-hd];exact e5))
 rw [ea]
 refine ay (Sw pre) λns aI hl=>?_;subst aI
 obtain⟨v,rfl,wl⟩:∃v,iM=[v]/\Well w.params fX.heap v (.list (ns.map .int)):=by
  cases afr with
  |cons x y=>cases y;exact⟨_,rfl,x⟩
 cases wl with
 |list ho wa=>
  have room:eY 340 callerA:=⟨rfl,by decide,by decide⟩
  have S:St PP (wb PP w (aU aH)) fX.heap [] [] ⟨.nil,0⟩ fX.heap:=⟨λb E e=>⟨e,eP⟩,rfl,.nil,(λa q=>nomatch q),(λi a q=>nomatch q)⟩
  refine YO aV hl room S (v:=_) ?_ _ _ λu ao M tk st p=>?_
  .exact⟨_,_,_,rfl,⟨eP,eP⟩,ho,by rw [cZ];exact hl,by decide,afh _ _ wa⟩
  .subst p
   exact⟨.inl ⟨.bool true,.bool true,[],rfl,λ_=>rfl,.bool true,by kernel_rfl,λ_=>⟨.nil,λa q=>nomatch q⟩⟩,.of_keep λb E e=>st.keep b E e eP eP,rfl,.of_eq hg⟩
theorem law_holds:n8.Holds:=by
 obtain⟨⟨d,MW⟩,hd⟩:=JB.mp YI
 have h:=YH
 rw [hd] at h
 refine xA (iS (aM h)) λhp hk=>?_
 exact holds_law YR λac3=>holds_open (r:=vL) (d:=d) (kwd:=MW) (XP:=λ_ _=>jz) (YP:=λ_ h=>YT h) YK (λw s e=>by rw [e];exact UY w) (λ_ _ _=>YT.keeps) (λ_ _=>trivial) (λ_ _ _ _ _=>trivial) hd hp hk
  (λs _=>recFacts_of rfl) YL ac3 YM YJ YN (YQ (defOf_name hd))
end Mine.Internal
theorem PySem.Challenge.cw_pq0710_01_holds : PySem.Challenge.rw_pq0710_01.Holds := by
  exact Mine.Internal.law_holds
