import PyProof.Rows.All
import Wide.All
import OpenK.AllK
import Wide.FinOn
import PyProof.Rows.StrTemp
import PyProof.Rows.AttrNodeAny
import PyProof.Rows.SortStr
import PyProof.ZipIter
import PyProof.ExcBaseAll.Exception
import PyProof.InstStoreFacts
import Lean
import PySem.Challenge.RW_pq0813_01
set_option maxRecDepth 100000
set_option linter.all false
set_option Elab.async false
set_option tactic.hygienic false
set_option bootstrap.genMatcherCode false
set_option compiler.extract_closed false
open PySem renaming wpAny_bind->PA, wpAny_pure->PD, Value->PL, Shared->PM, wpAny->PT, wpAny_mono->PW, model->PY, mainGlobals->P3, Addr->P5, Expr->Qa, DictEntry->Qj, wpAny_holding->Qu, wpAny_field->Qx, Around->Qz, wpAny_truthy_bool->QB, wpAny_standAt->QH, Heap->QI, Params->QP, foldedSetIterable->QS, builtinsNs->QX, wpAny_call_entry->QY, Comprehension->Q7, ofString_length->Rc, starEach->Rh, wpAny_seqItems->Rl, sizeLine->Rn, wpAny_of_eq->Rs, wpAny_Constant_none->Rt, wpAny_callSpecial?_slot->Ru, wpAny_setField_rec->RD, relabel->RK, wpAny_execs_nil->RL, importedModules->RM, wpAny_loadName_local->RS, swapsWith->RX, NameKind->RZ, wpAny_execs_cons->R1, bootBuiltins->Sc, Stmt->Sd, rawInt->Sk, codeAny->Sl, pushCells_keeps->Sn, standAt->Sy, FuncData->SB, wpAny_setField->SC, wpAny_loadPart->SD, newFunctionEnv->SE, treeTable->SI, compareOp->SJ, valueAt->SS, isInstance->S3, cellsFrom->Tc, backTo->Tp, World->TD, wpAny_rule->TE, assignEach->TF, intKind->TO, swappedStores->TP, Model->TZ, Program->Ui, codeAny_mono->Uj, letOwnedTupleGo->Ul, arm_exec_Assign->Um, strKind->Un, wpAny_isTrue_Compare1->Uo, wpAny_call->Uu, wpAny_updateSeq_pair->UI, stored->UK, IsPart->UL, recursionLimit->UN, wpAny_alloc->UQ, IsPair->Va, isSubtype->Vc, wpAny_onRaise->Vf, attributeBase->Vg, wpAny_Constant_int->Vh, cLine->Vt, spliced->Vu, holding->Vv, wpAny_Name->Vy, wpAny_pyIter_list->VB, wpAny_newObj_type->VD, slot_list_getitem->VE, wpAny_askSetting->VZ, noFill_tuple_add->V0, checkBuiltinCall->V1, intKind->V3, callWith->V8, Thread->Wd, OsState->Wf, Builtin->Wg, wpAny_letGo->Wj, ret->Wk, codeAny_of_tree->Wm, wpAny_Compare1->Wx, wpAt_of_wpAny->WH, pyNext->WR, sysModules->WS, strKind_is->WT, intKind_is->WU, wpAny_getItem_list_slice->WW, IsZip->W4, swapsWithSole->W8, seq_tuple_add->W9, evalPart_none->Xa, behindInMarks->Xb, wpAny_pyNext_list_item->Xk, aRefKeyMayBeTheName_at->Xl, Scope->Xu, pyIter->Xv, assign->Xw, storeName->Xx, seqItems?->Xy, pushCells->Xz, noteFrame->XA, concat_meets->XD, wpAny_pyNext_list_end->XF, codeAny_call_function->XG, wpAt_bind->XH, codeAny_call_builtin->XQ, unpackItems->XZ, sizeLine_eq->X0, bm_if_false->X5, wpAny_setItem_pairs->X6, clipAt->Yh, binaryOp->Yi, wpAny_pyIter_tuple->Yk, wpAny_Constant_str->Yl, field->Yx, typeLookup->Yy, newObjAsIs->YA, loadGlobal->YD, cameBackBy->YE, wpAny_isNot_plain->YG, wpAny_assign_Name->YH, wpAny_Assign_Name->YI, slot_list_setitem->YJ, slot_dict_getitem->YK, getMethod_builtin->YL, entry_list_append->YM
open List renaming prefix_refl->PB, length_map->PG, getElem?_eq_getElem->PI, length_append->PJ, getElem?_eq_some_iff->PO, length_cons->PQ, map_cons->PR, range->PS, mem_cons->PU, size_toArray->PX, mem_singleton->P2, getElem?_append_right->P8, getD_eq_getElem?_getD->P9, append_nil->Qc, getElem?_append_left->Qe, map_append->Qf, take_of_length_le->Qg, zip_cons_cons->Qk, lookup_cons->Qn, replicate->Qp, pairwise_cons->Qq, mem_append->Qt, length_drop->Qy, all_eq_true->QF, mem_map->QG, nodup_cons->QJ, getElem_mem->QK, isEmpty_iff->QT, take_add_one->Q0, length->Q4, forIn_cons->Q5, find?_cons->Q6, length_take->Rb, getElem?_map->Rj, eq_nil_of_length_eq_zero->Rq, length_nil->Rx, mem_cons_of_mem->RI, forIn_nil->RN, map_congr_left->RO, length_reverse->RP, getElem?_take_of_lt->RT, any_cons->R0, nil_append->R2, mem_cons_self->R4, lookup_append->R5, drop_of_length_le->Sf, not_lt->Sg, reverse_cons->Sh, nodup_append->Si, length_range->Sj, mem_range->So, mem_iff_getElem?->Sq, length_singleton->Sr, contains_iff_mem->Su, mem_flatMap->Sx, mem_of_getElem?->SA, mem_zipIdx_iff_getElem?->SG, contains_cons->SY, append_assoc->Th, pairwise_singleton->Tt, range_succ_eq_map->TC, take->TH, range_succ->TJ, length_zip->TK, getElem?_eq_none->TL, mem_append_left->TV, forall_mem_cons->TW, nodup_nil->T4, map_take->Ux, all_cons->Uy, getElem?_drop->UB, findIdx?_eq_some_iff_getElem->UG, foldl_append->UO, flatten_cons->UP, map_nil->US, take_length->U6, map_reverse->U7, cons_append->U8, any_eq_true->U9, length_set->Vp, nodup_iff_pairwise_ne->VI, drop_take->VP, drop_drop->VQ, drop_eq_getElem_cons->VW, filter_eq_nil_iff->Wq, mem_append_right->Wu, mem_of_mem_take->WN, mem_of_mem_drop->WO, drop_eq_nil_iff->WP, mem_map_of_mem->WY, getElem?_range->WZ, append_toArray->W0, map->W7, pairwise_map->Xp, zipIdx_cons->XM, zipIdx_nil->XU, drop_zero->X8, le_trans->Yp, map_map->YN, all_map->YO
open PySem.Heap renaming get?_push_of_some->PC, get?_push_size->PP, get?_update_self->P7, lt_size->Qb, size_push->Qd, SameBut->Qr, get?_update_other->Qv
open Nat renaming le_refl->PE, lt_of_lt_of_le->PK, le_trans->PN, mul_le_mul->Qm, add_mul->QV, div_div_eq_div_mul->Q8, lt_succ_self->Rd, lt_irrefl->Rp, zero_le->Ry, one_mul->Rz, mul_comm->RA, pow_add->RQ, le_succ->RR, le_of_eq->RU, sub_add_cancel->R9, pow_pos->Sm, ne_of_gt->Sw, succ_le_succ->Sz, cast->SH, ne_of_lt->S5, min_eq_right->TA, le_add_right->TB, zero_add->TQ, le_of_lt->TR, min_eq_left->TU, pow_le_pow_right->T9, mul_le_mul_right->Ua, mul_add->Uk, add_sub_cancel'->Uq, sub_self->U1, add_zero->U2, gcd->Vx, mul_pos->VA, mul_add_div->VF, mul_lt_mul_of_pos_right->VH, mul_lt_mul_of_pos_left->VV, not_lt->V9, zero_mul->Wy, succ_pos->Wz, pow_zero->WA, pow_succ->WB, le_total->WC, add_comm->WD, sub_eq_zero_of_le->WK, lt_of_sub_eq_succ->WL, le_of_ble_eq_true->WM, mul_one->Xd, add_le_add_left->Xh, eq_zero_or_pos->Xn, add_sub_cancel->Xo, mod_lt->XE, le_of_lt_succ->XK, succ_ne_zero->XR, mod_eq_of_lt->XS, div_eq_of_lt->XT, mul_add_mod->X7
open PySem.Str renaming ofString->PF, ofString_eq_toList->QD
open Int renaming toNat_natCast->PH, natAbs_natCast->Ql, ofNat->QE, fmod->QM, fdiv->QN, eq_ofNat_of_zero_le->QZ, sub_nonneg_of_le->Rk, le_of_lt->Ro, fdiv_eq_ediv_of_nonneg->RJ, natCast_nonneg->Sa, natAbs_mul->Sp, mul_one->SU, fmod_eq_emod_of_nonneg->S2, zero_mul->S6, ofNat_le->S7, add_zero->S8, not_le->Tl, mul_comm->TS, toNat_of_nonneg->Ur, mul_assoc->UH, zero_add->U3, sub_zero->U4, pow_zero->U5, mul_nonneg->V5, neg_nonneg_of_nonpos->Wb, add_assoc->Wn, mul_zero->WE, ediv_one->WF, mul_ediv_cancel'->W3, pow_add->Xf, mul_add->Xg, sub_add_cancel->Xq, ediv_nonneg->X9
open Option.some renaming inj->PZ
open Bool renaming and_eq_true->P1, false_eq_true->P6, noConfusion->QU, or_eq_true->SN, eq_iff_iff->SO, false_ne_true->SZ, and_false->Ta, not_eq_true'->Ti, false_or->Tr, not_eq_false'->UF, false_and->VS, or_false->Yr, not_true->Ys, and_true->Yt, not_inj->YQ
open Option renaming isSome_iff_exists->P4, isNone_iff_eq_none->QQ, bind_some->Q9, bind_eq_some_iff->Rm, map_some->RW, none_or->Vo, map_eq_some_iff->V7, some_ne_none->Wt, toList_some->WI, isSome_none->WJ, elim->Yn
open PySem.PyData renaming keyHash->Qh
open PySem.Value renaming none->Qi, ref->QL, isStrOf->RB, noConfusion->RC, isInt->SK, isStr->Tn, isStrOf_shape->T5, str->Ve, type->Xc
open PySem.Builtin.SmallTypes renaming nextOf->Qo, ownedTupleIsFree->QR, ownedTupleHandOut->SV
open PySem.Obj renaming mapFields->Qw, mapSeq->Q3, data_mapFields->Rv, putName->Vz, putNameByArray->Xm, cls_mapFields->XJ, putName_eq->Yo
open PySem.Heap.SameBut renaming update->QA
open PySem.NameKind renaming free->QC, cell->S9
open PySem.W renaming dictOf->QO, boot_heap->Q2, findIn->Rr, Frag->RH, instObj->R7, Looks->Sv, looks_mroIn->Td, SharedT->Tv, typeIs_bytes->TG, kia_one->Uh, boot_drawn->Uw, looks_clsIn->UR, look_both->Vb, boot_toks->Vd, kitOne->VM, putName_dict->VO, keepIn->Wc, absHeap->We, emptyDict->Wh, putL->Xj, nsIn->Xs, typeIs_bytes->XB, looks_findIn->XC, ownOf->XI, mroIn->XX, takerIn->XY, any_some->Yj, onlyObject->Yz, namesBound->YB, looks_nsIn->YC
open ForInStep renaming yield->QW
open Classical renaming byContradiction->Ra, em->Ue
open PySem.Expr.Tuple renaming elim->Re
open PySem.F renaming slot_tuple_iterator_next->Rf, slot_zip_next->Se, args_tuple_add_2->S1, entry_tuple_add->Te, slot_tuple_add->To, args_tuple_iterator_next_1->TY, entry_tuple_iterator_next->Uc, bm_called->Up, excBase_Exception->Vj, args_zip_next_1->VG, entry_zip_next->VU, slot_list_pop->V6, bm_plain->WX
open OfNat renaming ofNat->Rg
open PyProof.Rows renaming subscriptTail->Ri, entry_list_sort->Ud, slot_list_sort->Uf, args_list_sort->Ug, sortedHeap->Uv, Call_Name->Wi, IntsAre->W5, tail_any->W6, seqObj->Yg, Subscript_->YF
open Array renaming getElem?_eq_some_iff->RE, any_toList->Ts, getElem?_setIfInBounds_ne->UJ, toList->Wp, getElem?_toList->Wr, toList_inj->Xr, size_push->XO
open PySem.Env renaming kindOf->RF, blockKind->Wo
open PySem.Builtin renaming bitNot->RG, bitAnd->Vi, bitOr->XN
open String renaming ofList->RV
open PySem.Challenge renaming rw_pq0813_01->RY, pw_pq0813_01->Ye
open PySem.Expr.Name renaming elim->R3
open Ne renaming symm->Sb
open UInt8 renaming ofNat->SL
open PySem.Builtin.Range renaming rangeSize->SM, small->Vk, rangeFitsLong->YS
open PySem.W.Fast renaming te14364793385576792824->SP, te11892475500146522536->SQ, te10156331382660048174->SR, te8920871248978507458->SW, te6613529449190102663->SX, te18344453789297297638->Vr, te17119622794617984870->Vs, te8326940854005059898->VK
open PySem.Builtin.BaseException renaming bexcPut->Tf
open PySem.Expr.Subscript renaming elim->Tj
open PySem.Expr.Attribute renaming elim->Tk
open Nat.succ renaming inj->Tq
open PySem.Heap.IsSliceOf renaming new->Tu
open PySem.Data renaming noConfusion->Tw
open PySem.Expr.ListComp renaming elim->Tx
open PySem.Expr.Constant renaming elim->Tz
open False renaming elim->TI
open PySem.Expr.UnaryOp renaming elim->TM
open PySem.Expr.Compare renaming elim->TN
open PySem.W.FB renaming slot_bytes_getitem->TX
open PySem.Value.bytes renaming elim->T6
open PySem.Stmt.Return renaming elim->T7
open PySem.Stmt.Assign renaming elim->T8
open PySem.Expr.BoolOp renaming elim->Ub
open PySem.DictEntry renaming refKey->Us
open PySem.Builtin.Str renaming strSliceIndices->Ut
open PySem.Stmt.While renaming elim->Uz
open PySem.Stmt.Raise renaming elim->UA
open PySem.Expr.Slice renaming elim->UC
open PySem.Expr.IfExp renaming elim->UD
open PySem.Expr.BinOp renaming elim->UE
open Char renaming toNat->UM
open PySem.Value.ref renaming elim->UT
open PySem.Value.int renaming elim->UU
open PySem.Stmt.Expr renaming elim->UV
open PySem.Expr.List renaming elim->UW
open PySem.Expr.Dict renaming elim->UX
open PySem.Expr.Call renaming elim->UY
open PySem.Data.func renaming elim->UZ
open PySem.Const.str renaming elim->U0
open PySem.Flow renaming next->Vl
open PySem.Stmt.Try renaming elim->Vm
open PySem.Stmt.For renaming elim->Vn
open PySem.Data.seq renaming elim->Vq
open List.Pairwise renaming nil->VJ
open PySem.Builtin.Int renaming intBits->VL
open PySem.Bind renaming checkArgs->VT, madeBy->WV, staticBase->XW, madeHere->Yu
open PySem.EntryCells renaming newEntry->VX
open PySem.W.Looks renaming ld->VY, of_pure->V4, here->Xe
open PySem.Stmt.If renaming elim->V2
open PySem.ScopeKind renaming function->Wa
open PySem.Code renaming builtin->Ws, quiet_builtin->Xi
open PySem.Txt renaming slice->Wv
open And renaming intro->Ww
open PySem.callAny renaming viaDunder->WG
open List.cons renaming injEq->WQ
open List.Perm renaming cons->W1
open PySem.Heap.Ns renaming new->Yb
open Exists renaming intro->Yc
open PySem.Around renaming under->Yd
open PySem.Shared renaming heap->Ym
open PySem.Expr renaming ListComp->Yq
open PySem.MeetsSeq renaming list_pop_at->Yv
open PySem.SeqAt renaming EqAt->Yw
open PySem.SeqAt.EqAt renaming of_refs->YP
open PySem.Value.builtin renaming elim->YR
namespace Mine
@[elab_as_elim]theorem aa{α:Sort u}{motive:α->Prop}{a b:α}(e:a=b)(h:motive b):motive a:=e▸h
@[elab_as_elim]theorem aE{α:Sort u}{motive:α->Prop}{a b:α}(e:a=b)(h:motive a):motive b:=e▸h
end Mine
namespace Mine
theorem ei{A B C:Prop}{P:Prop}(h:A/\B/\C)(k:A->B->C->P):P:=k h.1 h.2.1 h.2.2
theorem yL{A B C D:Prop}{P:Prop}(h:A/\B/\C/\D)(k:A->B->C->D->P):P:=k h.1 h.2.1 h.2.2.1 h.2.2.2
theorem ai{α:Sort _}{A B:α->Prop}{P:Prop}(h:∃x,A x/\B x)(k:∀x,A x->B x->P):P:=h.elim λ x h=>k x h.1 h.2
theorem bz{α:Sort _}{A B C:α->Prop}{P:Prop}(h:∃x,A x/\B x/\C x)(k:∀x,A x->B x->C x->P):P:=h.elim λ x h=>k x h.1 h.2.1 h.2.2
theorem jI{α:Sort _}{A B C D:α->Prop}{P:Prop}(h:∃x,A x/\B x/\C x/\D x)(k:∀x,A x->B x->C x->D x->P):P:=h.elim λ x h=>k x h.1 h.2.1 h.2.2.1 h.2.2.2
theorem vf{α:Sort _}{β:Sort _}{A B:α->β->Prop}{P:Prop}(h:∃x y,A x y/\B x y)(k:∀x y,A x y->B x y->P):P:=h.elim λ x h=>h.elim λ y h=>k x y h.1 h.2
theorem kQ{α:Sort _}{β:Sort _}{A B C:α->β->Prop}{P:Prop}(h:∃x y,A x y/\B x y/\C x y)(k:∀x y,A x y->B x y->C x y->P):P:=h.elim λ x h=>h.elim λ y h=>k x y h.1 h.2.1 h.2.2
theorem oR{α:Sort _}{β:Sort _}{A B C D:α->β->Prop}{P:Prop}(h:∃x y,A x y/\B x y/\C x y/\D x y)(k:∀x y,A x y->B x y->C x y->D x y->P):P:=h.elim λ x h=>h.elim λ y h=>k x y h.1 h.2.1 h.2.2.1 h.2.2.2
theorem B5{α:Sort _}{β:Sort _}{A B C D E:α->β->Prop}{P:Prop}(h:∃x y,A x y/\B x y/\C x y/\D x y/\E x y)(k:∀x y,A x y->B x y->C x y->D x y->E x y->P):P:=h.elim λ x h=>h.elim λ y h=>k x y h.1 h.2.1 h.2.2.1 h.2.2.2.1 h.2.2.2.2
theorem ve{α:Sort _}{β:Sort _}{A B C D E F G:α->β->Prop}{P:Prop}(h:∃x y,A x y/\B x y/\C x y/\D x y/\E x y/\F x y/\G x y)(k:∀x y,A x y->B x y->C x y->D x y->E x y->F x y->G x y->P):P:=h.elim λ x h=>h.elim λ y h=>k x y h.1 h.2.1 h.2.2.1 h.2.2.2.1 h.2.2.2.2.1 h.2.2.2.2.2.1 h.2.2.2.2.2.2
theorem yK{α:Sort _}{β:Sort _}{γ:Sort _}{A B:α->β->γ->Prop}{P:Prop}(h:∃x y z,A x y z/\B x y z)(k:∀x y z,A x y z->B x y z->P):P:=h.elim λ x h=>h.elim λ y h=>h.elim λ z h=>k x y z h.1 h.2
theorem vd{α:Sort _}{β:Sort _}{γ:Sort _}{A B C:α->β->γ->Prop}{P:Prop}(h:∃x y z,A x y z/\B x y z/\C x y z)(k:∀x y z,A x y z->B x y z->C x y z->P):P:=h.elim λ x h=>h.elim λ y h=>h.elim λ z h=>k x y z h.1 h.2.1 h.2.2
theorem vc{α:Sort _}{β:Sort _}{γ:Sort _}{A B C D:α->β->γ->Prop}{P:Prop}(h:∃x y z,A x y z/\B x y z/\C x y z/\D x y z)(k:∀x y z,A x y z->B x y z->C x y z->D x y z->P):P:=h.elim λ x h=>h.elim λ y h=>h.elim λ z h=>k x y z h.1 h.2.1 h.2.2.1 h.2.2.2
theorem u9{α:Sort _}{β:Sort _}{γ:Sort _}{A B C D E F:α->β->γ->Prop}{P:Prop}(h:∃x y z,A x y z/\B x y z/\C x y z/\D x y z/\E x y z/\F x y z)(k:∀x y z,A x y z->B x y z->C x y z->D x y z->E x y z->F x y z->P):P:=h.elim λ x h=>h.elim λ y h=>h.elim λ z h=>k x y z h.1 h.2.1 h.2.2.1 h.2.2.2.1 h.2.2.2.2.1 h.2.2.2.2.2
theorem B4{α:Sort _}{β:Sort _}{γ:Sort _}{A B C D E F G:α->β->γ->Prop}{P:Prop}(h:∃x y z,A x y z/\B x y z/\C x y z/\D x y z/\E x y z/\F x y z/\G x y z)(k:∀x y z,A x y z->B x y z->C x y z->D x y z->E x y z->F x y z->G x y z->P):P:=h.elim λ x h=>h.elim λ y h=>h.elim λ z h=>k x y z h.1 h.2.1 h.2.2.1 h.2.2.2.1 h.2.2.2.2.1 h.2.2.2.2.2.1 h.2.2.2.2.2.2
theorem B3{α:Sort _}{β:Sort _}{γ:Sort _}{A B C D E F G H:α->β->γ->Prop}{P:Prop}(h:∃x y z,A x y z/\B x y z/\C x y z/\D x y z/\E x y z/\F x y z/\G x y z/\H x y z)(k:∀x y z,A x y z->B x y z->C x y z->D x y z->E x y z->F x y z->G x y z->H x y z->P):P:=h.elim λ x h=>h.elim λ y h=>h.elim λ z h=>k x y z h.1 h.2.1 h.2.2.1 h.2.2.2.1 h.2.2.2.2.1 h.2.2.2.2.2.1 h.2.2.2.2.2.2.1 h.2.2.2.2.2.2.2
theorem DX{α:Sort _}{β:Sort _}{γ:Sort _}{δ:Sort _}{A B:α->β->γ->δ->Prop}{P:Prop}(h:∃x y z u,A x y z u/\B x y z u)(k:∀x y z u,A x y z u->B x y z u->P):P:=h.elim λ x h=>h.elim λ y h=>h.elim λ z h=>h.elim λ u h=>k x y z u h.1 h.2
theorem DW{α:Sort _}{β:Sort _}{γ:Sort _}{δ:Sort _}{A B C:α->β->γ->δ->Prop}{P:Prop}(h:∃x y z u,A x y z u/\B x y z u/\C x y z u)(k:∀x y z u,A x y z u->B x y z u->C x y z u->P):P:=h.elim λ x h=>h.elim λ y h=>h.elim λ z h=>h.elim λ u h=>k x y z u h.1 h.2.1 h.2.2
theorem B2{α:Sort _}{β:Sort _}{γ:Sort _}{δ:Sort _}{A B C D:α->β->γ->δ->Prop}{P:Prop}(h:∃x y z u,A x y z u/\B x y z u/\C x y z u/\D x y z u)(k:∀x y z u,A x y z u->B x y z u->C x y z u->D x y z u->P):P:=h.elim λ x h=>h.elim λ y h=>h.elim λ z h=>h.elim λ u h=>k x y z u h.1 h.2.1 h.2.2.1 h.2.2.2
theorem DV{α:Sort _}{β:Sort _}{γ:Sort _}{δ:Sort _}{A B C D E:α->β->γ->δ->Prop}{P:Prop}(h:∃x y z u,A x y z u/\B x y z u/\C x y z u/\D x y z u/\E x y z u)(k:∀x y z u,A x y z u->B x y z u->C x y z u->D x y z u->E x y z u->P):P:=h.elim λ x h=>h.elim λ y h=>h.elim λ z h=>h.elim λ u h=>k x y z u h.1 h.2.1 h.2.2.1 h.2.2.2.1 h.2.2.2.2
theorem yJ{α:Sort _}{β:Sort _}{γ:Sort _}{δ:Sort _}{A B C D E F:α->β->γ->δ->Prop}{P:Prop}(h:∃x y z u,A x y z u/\B x y z u/\C x y z u/\D x y z u/\E x y z u/\F x y z u)(k:∀x y z u,A x y z u->B x y z u->C x y z u->D x y z u->E x y z u->F x y z u->P):P:=h.elim λ x h=>h.elim λ y h=>h.elim λ z h=>h.elim λ u h=>k x y z u h.1 h.2.1 h.2.2.1 h.2.2.2.1 h.2.2.2.2.1 h.2.2.2.2.2
theorem DU{α:Sort _}{β:Sort _}{γ:Sort _}{δ:Sort _}{ε:Sort _}{A B:α->β->γ->δ->ε->Prop}{P:Prop}(h:∃x y z u v,A x y z u v/\B x y z u v)(k:∀x y z u v,A x y z u v->B x y z u v->P):P:=h.elim λ x h=>h.elim λ y h=>h.elim λ z h=>h.elim λ u h=>h.elim λ v h=>k x y z u v h.1 h.2
theorem cg(a0:A)(b0:B)(c0:C):A/\B/\C:=⟨a0,b0,c0⟩
theorem fo(a0:A)(b0:B)(c0:C)(d0:D):A/\B/\C/\D:=⟨a0,b0,c0,d0⟩
theorem aA{α:Sort _}{A B:α->Prop}(x:α)(a0:A x)(b0:B x):∃x,A x/\B x:=⟨x,a0,b0⟩
theorem gu{α:Sort _}{A B C:α->Prop}(x:α)(a0:A x)(b0:B x)(c0:C x):∃x,A x/\B x/\C x:=⟨x,a0,b0,c0⟩
theorem DP{α:Sort _}{A B C D:α->Prop}(x:α)(a0:A x)(b0:B x)(c0:C x)(d0:D x):∃x,A x/\B x/\C x/\D x:=⟨x,a0,b0,c0,d0⟩
theorem rp{α:Sort _}{β:Sort _}{A B C:α->β->Prop}(x:α)(y:β)(a0:A x y)(b0:B x y)(c0:C x y):∃x y,A x y/\B x y/\C x y:=⟨x,y,a0,b0,c0⟩
theorem yA{α:Sort _}{β:Sort _}{A B C D:α->β->Prop}(x:α)(y:β)(a0:A x y)(b0:B x y)(c0:C x y)(d0:D x y):∃x y,A x y/\B x y/\C x y/\D x y:=⟨x,y,a0,b0,c0,d0⟩
theorem BS{α:Sort _}{β:Sort _}{γ:Sort _}{A B:α->β->γ->Prop}(x:α)(y:β)(z:γ)(a0:A x y z)(b0:B x y z):∃x y z,A x y z/\B x y z:=⟨x,y,z,a0,b0⟩
theorem DO{α:Sort _}{β:Sort _}{γ:Sort _}{A B C:α->β->γ->Prop}(x:α)(y:β)(z:γ)(a0:A x y z)(b0:B x y z)(c0:C x y z):∃x y z,A x y z/\B x y z/\C x y z:=⟨x,y,z,a0,b0,c0⟩
theorem BR{α:Sort _}{β:Sort _}{γ:Sort _}{A B C D E F:α->β->γ->Prop}(x:α)(y:β)(z:γ)(a0:A x y z)(b0:B x y z)(c0:C x y z)(d0:D x y z)(e0:E x y z)(f0:F x y z):∃x y z,A x y z/\B x y z/\C x y z/\D x y z/\E x y z/\F x y z:=⟨x,y,z,a0,b0,c0,d0,e0,f0⟩
theorem DN{α:Sort _}{β:Sort _}{γ:Sort _}{δ:Sort _}{ε:Sort _}{A B:α->β->γ->δ->ε->Prop}(x:α)(y:β)(z:γ)(u:δ)(v:ε)(a0:A x y z u v)(b0:B x y z u v):∃x y z u v,A x y z u v/\B x y z u v:=⟨x,y,z,u,v,a0,b0⟩
end Mine
section
set_option genInjectivity false
set_option genSizeOf false
namespace Mine
inductive T where
 |lf(k:Nat)|lit(k:Nat)|un(o k:Nat)(a:T)|nd(o:Nat)(a b:T)
abbrev Po:=List Int
abbrev Ca:=List (Po×List Po)
abbrev Dn:=List (List Po)
noncomputable def eg{α:Type}(l:List α)(d:α):Nat->α:=
 l.rec (λ zz=>d) λ x zz ih k=>k.rec x λ k zz=>ih k
noncomputable def tv(ns:List Nat)(is:List Int)(t:T):Nat×Int:=
 t.rec (λ k=>(eg ns 0 k,eg is 0 k)) (λ k=>(k,(k:Int)))
  (λ o k zz a=>(eg [k*a.1,a.1*k,a.2.toNat,a.2.natAbs] 0 o,eg [(k:Int)*a.2,a.2*(k:Int),-a.2,(a.1:Int)] 0 o))
  (λ o zz zz a b=>(eg [a.1+b.1,a.1-b.1,max a.1 b.1,min a.1 b.1] 0 o,eg [a.2+b.2,a.2-b.2,max a.2 b.2,min a.2 b.2] 0 o))
noncomputable def tp(ns:List Nat)(is:List Int)(t:T):Prop:=
 t.rec (λ zz=>True) (λ zz=>False) (λ zz zz zz zz=>True)
  λ o a b p q=>eg [(tv ns is a).1<=(tv ns is b).1,(tv ns is a).1<(tv ns is b).1,(tv ns is a).1=(tv ns is b).1,
   (tv ns is a).2<=(tv ns is b).2,(tv ns is a).2<(tv ns is b).2,(tv ns is a).2=(tv ns is b).2,p/\q,p∨q,p->q,p ↔ q] True o
noncomputable def pf(a:Po):Po->Po:=a.rec id λ x r ih b=>b.rec (x::r) λ y bs zz=>(x+y)::ih bs
noncomputable def fC(k:Int)(a:Po):Po:=a.map λ x=>k*x
noncomputable def cL(a b:Po):Po:=pf a (fC (-1) b)
noncomputable def oB(k:Nat):Po:=k.rec [1] λ zz r=>0::r
noncomputable def bi(f:Po->Po->Ca)(A B:Ca):Ca:=
 A.flatMap λ a=>B.flatMap λ b=>(f a.1 b.1).map λ c=>(c.1,c.2++(a.2++b.2))
noncomputable def pc(A B:Dn):Dn:=A.flatMap λ a=>B.map λ b=>a++b
noncomputable def z1:Ca:=[([],[])]
noncomputable def tl(t:T):Ca×Ca:=
 t.rec (λ k=>([(oB (2*k+1),[oB (2*k+1)])],[(oB (2*k+2),[])])) (λ k=>([([(k:Int)],[])],[([(k:Int)],[])]))
  (λ o k zz a=>
   (eg [bi (λ l zz=>[(fC k l,[])]) a.1 z1,bi (λ l zz=>[(fC k l,[])]) a.1 z1,bi (λ l zz=>[(l,[l]),([],[fC (-1) l])]) a.2 z1,bi (λ l zz=>[(l,[l]),(fC (-1) l,[fC (-1) l])]) a.2 z1] z1 o,
    eg [bi (λ l zz=>[(fC k l,[])]) a.2 z1,bi (λ l zz=>[(fC k l,[])]) a.2 z1,bi (λ l zz=>[(fC (-1) l,[])]) a.2 z1,a.1] z1 o))
  (λ o zz zz a b=>
   (eg [bi (λ l m=>[(pf l m,[])]) a.1 b.1,bi (λ l m=>[(cL l m,[cL l m]),([],[cL m l])]) a.1 b.1,bi (λ l m=>[(l,[cL l m]),(m,[cL m l])]) a.1 b.1,bi (λ l m=>[(m,[cL l m]),(l,[cL m l])]) a.1 b.1] z1 o,
    eg [bi (λ l m=>[(pf l m,[])]) a.2 b.2,bi (λ l m=>[(cL l m,[])]) a.2 b.2,bi (λ l m=>[(l,[cL l m]),(m,[cL m l])]) a.2 b.2,bi (λ l m=>[(m,[cL l m]),(l,[cL m l])]) a.2 b.2] z1 o))
noncomputable def cls(A:Ca):Dn:=A.map λ c=>c.1::c.2
noncomputable def t8(f:Po->Po->Ca)(A B:Ca):Dn:=cls (bi f A B)
noncomputable def tA(l m:Po):Po:=pf (cL l m) [-1]
noncomputable def BF(A B:Ca):Dn×Dn:=(t8 (λ l m=>[(cL m l,[])]) A B,t8 (λ l m=>[(tA l m,[])]) A B)
noncomputable def BB(A B:Ca):Dn×Dn:=(t8 (λ l m=>[(tA m l,[])]) A B,t8 (λ l m=>[(cL l m,[])]) A B)
noncomputable def B0(A B:Ca):Dn×Dn:=(t8 (λ l m=>[(cL m l,[cL l m])]) A B,t8 (λ l m=>[(tA l m,[]),(tA m l,[])]) A B)
noncomputable def tn(t:T):Dn×Dn:=
 t.rec (λ zz=>([[]],[])) (λ zz=>([],[[]])) (λ zz zz zz zz=>([[]],[]))
  λ o a b p q=>eg [BF (tl a).1 (tl b).1,BB (tl a).1 (tl b).1,B0 (tl a).1 (tl b).1,BF (tl a).2 (tl b).2,BB (tl a).2 (tl b).2,B0 (tl a).2 (tl b).2,
   (pc p.1 q.1,p.2++q.2),(p.1++q.1,pc p.2 q.2),(p.2++q.1,pc p.1 q.2),(pc p.1 q.1++pc p.2 q.2,pc p.1 q.2++pc p.2 q.1)] ([[]],[]) o
noncomputable def cf(c:Po):Int:=eg c 0 1
noncomputable def dr(c:Po):Po:=c.rec [] λ k r zz=>k::r.tail
noncomputable def u8(cs:List Po):List Po:=cs.flatMap λ c=>
 (cf c).rec (λ n=>n.rec [dr c] λ n zz=>cs.flatMap λ d=>(cf d).rec (λ zz=>[]) λ m=>[dr (pf (fC (m+1:Nat) c) (fC (n+1:Nat) d))]) λ zz=>[]
noncomputable def uQ(cs:List Po):Bool:=cs.any λ c=>c.rec false λ k r zz=>k.rec (λ zz=>false) λ zz=>r.all λ x=>x.rec (λ n=>n.rec true λ zz zz=>false) λ zz=>false
noncomputable def fm(f:Nat):List Po->Bool:=f.rec uQ λ zz ih cs=>uQ cs||ih (u8 cs)
noncomputable def DR(cs:List Po):Nat:=cs.foldr (λ c r=>max c.length r) 0
noncomputable def Dr(t:T):Bool:=(tn t).2.all λ c=>fm (DR c) c
noncomputable def ev(c:Po):(Nat->Int)->Int:=c.rec (λ zz=>0) λ a zz ih E=>a*E 0+ih λ k=>E (k+1)
noncomputable def en(ns:List Nat)(is:List Int)(k:Nat):Int:=k.rec 1 λ j zz=>if j % 2=0 then((eg ns 0 (j/2):Nat):Int) else eg is 0 (j/2)
theorem jk:∀(a b:Po) E,ev (pf a b) E=ev a E+ev b E
 |[],b,E=>(U3 _).symm
 |a::r,[],E=>(S8 _).symm
 |a::r,b::s,E=>by
  show(a+b)*E 0+ev (pf r s) _=(a*E 0+ev r _)+(b*E 0+ev s _)
  refine aa ((jk r s) _) ?_;refine aa (Int.add_mul _ _ _) ?_;refine aa (Wn _ _ _) ?_;refine aa ((Int.add_left_comm (b*E 0)) _ _) ?_;refine aE (Wn _ _ _) ?_;rfl
theorem gi(k:Int):∀(a:Po) E,ev (fC k a) E=k*ev a E
 |[],E=>(WE k).symm
 |a::r,E=>by
  show(k*a)*E 0+ev (fC k r) _=k*(a*E 0+ev r _)
  refine aa ((gi k r) _) ?_;refine aa (Xg _ _ _) ?_;refine aa (UH _ _ _) ?_;rfl
theorem kN(a:Po)E:ev (fC (-1) a) E= -ev a E:=by refine aa (gi _ _ _) ?_;refine aa (Int.neg_one_mul _) ?_;rfl
theorem fq(a b:Po)E:ev (cL a b) E=ev a E-ev b E:=by
 unfold cL;refine aa (jk _ _ _) ?_;refine aa (kN _ _) ?_;rfl
theorem tY:∀k E,ev (oB k) E=E k:=by
 intro k
 induction k with
 |zero=>
  intro E
  show 1*E 0+0=_;refine aa (Int.one_mul _) ?_;refine aa (S8 _) ?_;rfl
 |succ k ih=>
  intro E
  show 0*E 0+ev (oB k) _=_;refine aa (ih _) ?_;refine aa (S6 _) ?_;refine aa (U3 _) ?_;rfl
theorem zF(E:Nat->Int):∀c:Po,ev (dr c) (λ k=>k.rec (E 0) λ j zz=>E (j+2))=ev c E-cf c*E 1
 |[]=>by show(0:Int)=0-0*E 1;refine aa (S6 _) ?_;rfl
 |[k]=>by show k*E 0+0=k*E 0+0-0*E 1;refine aa (S6 _) ?_;refine aa (U4 _) ?_;rfl
 |k::a::r=>by show k*E 0+ev r (λ j=>E (j+2))=k*E 0+(a*E 1+ev r (λ j=>E (j+2)))-a*E 1;refine aa ((Int.add_comm (a*E 1)) _) ?_;refine aE (Wn _ _ _) ?_;refine aa (Int.add_sub_cancel _ _) ?_;rfl
def Al(E:Nat->Int)(c:List Po):Prop:=∀p∈c,0<=ev p E
theorem sf{E}:Al E []:=λ zz h=>nomatch h
theorem uc{E p c}(h:0<=ev p E)(k:Al E c):Al E (p::c):=λ q hq=>(PU.mp hq).elim (λ e=>e▸h) (k q)
theorem sg{E}(h:Al E a)(k:Al E b):Al E (a++b):=λ q hq=>(Qt.mp hq).elim (h q) (k q)
inductive An(E:Nat->Int)(A:Ca)(x:Int):Prop
 |mk (c:Po×List Po) (h:c∈A) (e:ev c.1 E=x) (k:Al E c.2)
theorem An.one{E p x B}(e:ev p E=x):An E ((p,[])::B) x:=⟨_,R4,e,sf⟩
theorem An.fst{E p q x B}(e:ev p E=x)(h:0<=ev q E):An E ((p,[q])::B) x:=⟨_,R4,e,uc h sf⟩
theorem An.snd{E B a x}:An E B x->An E (a::B) x:=λ⟨c,h,e,k⟩=>⟨c,RI _ h,e,k⟩
theorem An.bi{E A B x y z f}:An E A x->An E B y->(∀l m,ev l E=x->ev m E=y->An E (f l m) z)->An E (Mine.bi f A B) z
 |⟨a,ha,ea,ka⟩,⟨b,hb,eb,kb⟩,hf=>
  let⟨c,hc,ec,kc⟩:=hf _ _ ea eb
  ⟨(c.1,c.2++(a.2++b.2)),Sx.mpr ⟨a,ha,Sx.mpr ⟨b,hb,QG.mpr ⟨c,hc,rfl⟩⟩⟩,ec,sg kc (sg ka kb)⟩
theorem sa{E}:An E z1 0:=.one rfl
theorem An.un{E A x z}{f:Po->Ca}(h:An E A x)(hf:∀l,ev l E=x->An E (f l) z):An E (Mine.bi (λ l zz=>f l) A z1) z:=h.bi sa λ l zz e zz=>hf l e
def Ex(E:Nat->Int)(D:Dn):Prop:=∃c∈D,Al E c
theorem An.ex{E A x}(h:0<=x):An E A x->Ex E (cls A)
 |⟨c,hc,e,k⟩=>⟨c.1::c.2,QG.mpr ⟨c,hc,rfl⟩,uc (e▸h) k⟩
theorem ib{E A B}:Ex E A->Ex E B->Ex E (pc A B)
 |⟨a,ha,ka⟩,⟨b,hb,kb⟩=>⟨a++b,Sx.mpr ⟨a,ha,QG.mpr ⟨b,hb,rfl⟩⟩,sg ka kb⟩
theorem rF{E A B}:Ex E A->Ex E (A++B)|⟨a,ha,ka⟩=>⟨a,TV _ ha,ka⟩
theorem rE{E A B}:Ex E B->Ex E (A++B)|⟨a,ha,ka⟩=>⟨a,Wu _ ha,ka⟩
theorem u7{E}:Ex E [[]]:=⟨[],P2.mpr rfl,sf⟩
section
variable(ns:List Nat)(is:List Int)
theorem DS(k:Nat):en ns is (2*k+1)=((eg ns 0 k:Nat):Int):=by
 show(if(2*k) % 2=0 then((eg ns 0 (2*k/2):Nat):Int) else eg is 0 (2*k/2))=_
 refine aa (if_pos (Nat.mul_mod_right 2 k)) ?_;refine aa (Nat.mul_div_cancel_left k Nat.two_pos) ?_;rfl
theorem DT(k:Nat):en ns is (2*k+2)=eg is 0 k:=by
 show(if(2*k+1) % 2=0 then((eg ns 0 ((2*k+1)/2):Nat):Int) else eg is 0 ((2*k+1)/2))=_
 refine aa (X7 2 k 1) ?_;refine aa (VF Nat.two_pos k 1) ?_;rfl
theorem yH(k:Int):ev [k] (en ns is)=k:=by show k*1+0=k;refine aa (SU _) ?_;refine aa (S8 _) ?_;rfl
theorem An.to{E A x y}(h:An E A x)(e:y=x):An E A y:=e▸h
section
variable{E:Nat->Int}{A B:Ca}{x y:Int}(h:An E A x)(g:An E B y)
include h
theorem An.nn:An E (Mine.bi (λ l zz=>[(l,[l]),([],[fC (-1) l])]) A z1) (if 0<=x then x else 0):=by
 refine h.un λ l e=> ?_
 split
 ·exact .fst e (e▸‹0<=x›)
 ·exact .snd (.fst rfl (by refine aa (kN _ _) ?_;refine aa e ?_;exact Wb (Ro (Tl.mp ‹_›))))
theorem An.ab:An E (Mine.bi (λ l zz=>[(l,[l]),(fC (-1) l,[fC (-1) l])]) A z1) (if 0<=x then x else-x):=by
 refine h.un λ l e=> ?_
 split
 ·exact .fst e (e▸‹0<=x›)
 ·exact .snd (.fst (by refine aa (kN _ _) ?_;refine aa e ?_;rfl) (by refine aa (kN _ _) ?_;refine aa e ?_;exact Wb (Ro (Tl.mp ‹_›))))
include g
theorem An.sel{p q:Po->Po->Po}{z t:Int}(hp:∀l m,ev l E=x->ev m E=y->ev (p l m) E=z)(hq:∀l m,ev l E=x->ev m E=y->ev (q l m) E=t):
  An E (Mine.bi (λ l m=>[(p l m,[cL l m]),(q l m,[cL m l])]) A B) (if y<=x then z else t):=by
 refine h.bi g λ l m e e'=> ?_
 split
 ·exact .fst (hp l m e e') (by refine aa (fq _ _ _) ?_;refine aa e ?_;refine aa e' ?_;exact Rk ‹_›)
 ·exact .snd (.fst (hq l m e e') (by refine aa (fq _ _ _) ?_;refine aa e ?_;refine aa e' ?_;exact Rk (Ro (Tl.mp ‹_›))))
theorem An.sb:An E (Mine.bi (λ l m=>[(cL l m,[cL l m]),([],[cL m l])]) A B) (if y<=x then x-y else 0):=h.sel (q:=λ zz zz=>[]) g (λ l m e e'=>by refine aa (fq _ _ _) ?_;refine aa e ?_;refine aa e' ?_;rfl) λ zz zz zz zz=>rfl
theorem An.mx:An E (Mine.bi (λ l m=>[(l,[cL l m]),(m,[cL m l])]) A B) (if y<=x then x else y):=h.sel (p:=λ l zz=>l) (q:=λ zz m=>m) g (λ zz zz e zz=>e) λ zz zz zz e=>e
theorem An.mn:An E (Mine.bi (λ l m=>[(m,[cL l m]),(l,[cL m l])]) A B) (if y<=x then y else x):=h.sel (p:=λ zz m=>m) (q:=λ l zz=>l) g (λ zz zz zz e=>e) λ zz zz e zz=>e
end
theorem yl{a b:Nat}(h:¬(b:Int)<=a):a<=b:=Nat.le_of_not_le λ k=>h (S7.mpr k)
theorem Db(a b:Nat):((a-b:Nat):Int)=if(b:Int)<=a then(a:Int)-b else 0:=by
 split
 ·exact Int.ofNat_sub (S7.mp ‹_›)
 ·refine aa (WK (yl ‹_›)) ?_;rfl
theorem Dd(a b:Nat):((max a b:Nat):Int)=if(b:Int)<=a then(a:Int) else b:=by
 split
 ·refine aa (Nat.max_eq_left (S7.mp ‹_›)) ?_;rfl
 ·refine aa (Nat.max_eq_right (yl ‹_›)) ?_;rfl
theorem Dc(a b:Nat):((min a b:Nat):Int)=if(b:Int)<=a then(b:Int) else a:=by
 split
 ·refine aa (TA (S7.mp ‹_›)) ?_;rfl
 ·refine aa (TU (yl ‹_›)) ?_;rfl
theorem C5(a b:Int):max a b=if b<=a then a else b:=by
 split
 ·exact Int.max_eq_left ‹_›
 ·exact Int.max_eq_right (Ro (Tl.mp ‹_›))
theorem C4(a b:Int):min a b=if b<=a then b else a:=by
 split
 ·exact Int.min_eq_right ‹_›
 ·exact Int.min_eq_left (Ro (Tl.mp ‹_›))
theorem DY:∀x:Int,((x.toNat:Nat):Int)=if 0<=x then x else 0|.ofNat _=>rfl|.negSucc _=>rfl
theorem DZ:∀x:Int,((x.natAbs:Nat):Int)=if 0<=x then x else-x|.ofNat _=>rfl|.negSucc _=>rfl
theorem mG:∀t,An (en ns is) (tl t).1 (tv ns is t).1/\An (en ns is) (tl t).2 (tv ns is t).2
 |.lf k=>by
  have e:ev (oB (2*k+1)) (en ns is)=((eg ns 0 k:Nat):Int):=(tY _ _).trans (DS ns is k)
  exact⟨.fst e (e▸Sa _),.one ((tY _ _).trans (DT ns is k))⟩
 |.lit k=>⟨.one (yH ns is k),.one (yH ns is k)⟩
 |.un o k a=>by
  have⟨h,g⟩:=mG a
  match o with
  |0=>exact⟨h.un λ l e=>.one (by refine aa (gi _ _ _) ?_;refine aa e ?_;rfl),g.un λ l e=>.one (by refine aa (gi _ _ _) ?_;refine aa e ?_;rfl)⟩
  |1=>exact⟨h.un λ l e=>.one (by refine aa (gi _ _ _) ?_;refine aa e ?_;refine aa (TS _ _) ?_;rfl),g.un λ l e=>.one (by refine aa (gi _ _ _) ?_;refine aa e ?_;refine aa (TS _ _) ?_;rfl)⟩
  |2=>exact⟨g.nn.to (DY _),g.un λ l e=>.one (by refine aa (kN _ _) ?_;refine aa e ?_;rfl)⟩
  |3=>exact⟨g.ab.to (DZ _),h⟩
  |_+4=>exact⟨sa,sa⟩
 |.nd o a b=>by
  have⟨h,g⟩:=mG a
  have⟨h',g'⟩:=mG b
  match o with
  |0=>exact⟨h.bi h' λ l m e e'=>.one (by refine aa (jk _ _ _) ?_;refine aa e ?_;refine aa e' ?_;rfl),g.bi g' λ l m e e'=>.one (by refine aa (jk _ _ _) ?_;refine aa e ?_;refine aa e' ?_;rfl)⟩
  |1=>exact⟨(h.sb h').to (Db _ _),g.bi g' λ l m e e'=>.one (by refine aa (fq _ _ _) ?_;refine aa e ?_;refine aa e' ?_;rfl)⟩
  |2=>exact⟨(h.mx h').to (Dd _ _),(g.mx g').to (C5 _ _)⟩
  |3=>exact⟨(h.mn h').to (Dc _ _),(g.mn g').to (C4 _ _)⟩
  |_+4=>exact⟨sa,sa⟩
end
section
variable{ns:List Nat}{is:List Int}
theorem nJ(a b:Po):ev (tA a b) (en ns is)=ev a (en ns is)-ev b (en ns is)-1:=by unfold tA;refine aa (jk _ _ _) ?_;refine aa (fq _ _ _) ?_;refine aa (yH _ _ _) ?_;rfl
def Bo(E:Nat->Int)(p:Prop)(D:Dn×Dn):Prop:=(p->Ex E D.1)/\(¬p->Ex E D.2)
theorem zm{x y:Int}(h:x<y):0<=y-x-1:=by omega
theorem zq{A B x y}(h:An (en ns is) A x)(g:An (en ns is) B y):Bo (en ns is) (x<=y) (BF A B):=
 ⟨λ k=>An.ex (Rk k) (h.bi g λ l m e e'=>.one (by refine aa (fq _ _ _) ?_;refine aa e ?_;refine aa e' ?_;rfl)),λ k=>An.ex (zm (Tl.mp k)) (h.bi g λ l m e e'=>.one (by refine aa (nJ _ _) ?_;refine aa e ?_;refine aa e' ?_;rfl))⟩
theorem zn{A B x y}(h:An (en ns is) A x)(g:An (en ns is) B y):Bo (en ns is) (x<y) (BB A B):=
 ⟨λ k=>An.ex (zm k) (h.bi g λ l m e e'=>.one (by refine aa (nJ _ _) ?_;refine aa e ?_;refine aa e' ?_;rfl)),λ k=>An.ex (Rk (Int.not_lt.mp k)) (h.bi g λ l m e e'=>.one (by refine aa (fq _ _ _) ?_;refine aa e ?_;refine aa e' ?_;rfl))⟩
theorem zG{A B x y}(h:An (en ns is) A x)(g:An (en ns is) B y):Bo (en ns is) (x=y) (B0 A B):=by
 refine⟨λ k=>An.ex (Rk (Int.le_of_eq k)) (h.bi g λ l m e e'=>.fst (by refine aa (fq _ _ _) ?_;refine aa e ?_;refine aa e' ?_;rfl) (by refine aa (fq _ _ _) ?_;refine aa e ?_;refine aa e' ?_;exact Rk (Int.le_of_eq k.symm))),λ k=> ?_⟩
 by_cases hh:x<=y
 ·exact An.ex (zm (Int.lt_iff_le_and_ne.mpr ⟨hh,k⟩)) (h.bi g λ l m e e'=>.snd (.one (by refine aa (nJ _ _) ?_;refine aa e ?_;refine aa e' ?_;rfl)))
 ·exact An.ex (zm (Tl.mp hh)) (h.bi g λ l m e e'=>.one (by refine aa (nJ _ _) ?_;refine aa e ?_;refine aa e' ?_;rfl))
theorem Bo.of{E p q D}(h:Bo E q D)(k:p ↔ q):Bo E p D:=⟨λ a=>h.1 (k.mp a),λ a=>h.2 λ b=>a (k.mpr b)⟩
theorem uk:∀t,Bo (en ns is) (tp ns is t) (tn t)
 |.lf k=>⟨λ zz=>u7,λ h=>(h trivial).elim⟩
 |.lit k=>⟨λ h=>h.elim,λ zz=>u7⟩
 |.un o k a=>⟨λ zz=>u7,λ h=>(h trivial).elim⟩
 |.nd o a b=>by
  have⟨h,g⟩:=mG ns is a
  have⟨h',g'⟩:=mG ns is b
  have⟨p1,p2⟩:=uk a
  have⟨q1,q2⟩:=uk b
  match o with
  |0=>exact(zq h h').of S7.symm
  |1=>exact(zn h h').of Int.ofNat_lt.symm
  |2=>exact(zG h h').of Int.ofNat_inj.symm
  |3=>exact zq g g'
  |4=>exact zn g g'
  |5=>exact zG g g'
  |6=>exact⟨λ k=>ib (p1 k.1) (q1 k.2),λ k=>(Ue (tp ns is a)).elim (λ x=>rE (q2 λ y=>k ⟨x,y⟩)) λ x=>rF (p2 x)⟩
  |7=>exact⟨λ k=>k.elim (λ x=>rF (p1 x)) λ x=>rE (q1 x),λ k=>ib (p2 λ x=>k (.inl x)) (q2 λ x=>k (.inr x))⟩
  |8=>exact⟨λ k=>(Ue (tp ns is a)).elim (λ x=>rE (q1 (k x))) λ x=>rF (p2 x),λ k=>ib (p1 (Ra λ x=>k λ y=>(x y).elim)) (q2 λ x=>k λ zz=>x)⟩
  |9=>
   refine⟨λ k=>(Ue (tp ns is a)).elim (λ x=>rF (ib (p1 x) (q1 (k.mp x)))) λ x=>rE (ib (p2 x) (q2 λ y=>x (k.mpr y))),λ k=> ?_⟩
   exact(Ue (tp ns is a)).elim (λ x=>rF (ib (p1 x) (q2 λ y=>k ⟨λ zz=>y,λ zz=>x⟩))) λ x=>rE (ib (p2 x) (q1 (Ra λ y=>k ⟨λ z=>(x z).elim,λ z=>(y z).elim⟩)))
  |_+10=>exact⟨λ zz=>u7,λ h=>(h trivial).elim⟩
end
theorem sQ{p q x y:Int}(hp:0<=p)(hq:0<=q)(ex:x=(n+1:Nat))(ey:y= -((m+1:Nat):Int))(t:Int):
  0<=(m+1:Nat)*p+(n+1:Nat)*q-((m+1:Nat)*x+(n+1:Nat)*y)*t:=by
 refine aa ex ?_;refine aa ey ?_;refine aa (Int.mul_neg _ _) ?_;refine aa (TS ((m+1:Nat):Int) ((n+1:Nat):Int)) ?_;refine aa (Int.add_right_neg _) ?_;refine aa (S6 _) ?_;refine aa (U4 _) ?_
 exact Int.add_nonneg (V5 (Sa (m+1)) hp) (V5 (Sa (n+1)) hq)
theorem Cd:∀a b:Po,cf (pf a b)=cf a+cf b
 |[],b=>(U3 _).symm
 |[x],[]=>rfl
 |x::y::r,[]=>(S8 _).symm
 |[x],[y]=>rfl
 |[x],y::z::s=>(U3 _).symm
 |x::z::r,[y]=>(S8 _).symm
 |x::z::r,y::w::s=>rfl
theorem xj(k:Int):∀a:Po,cf (fC k a)=k*cf a
 |[]=>(WE k).symm
 |[x]=>(WE k).symm
 |x::y::r=>rfl
theorem AV{E:Nat->Int}(h:Al E cs):Al (λ k=>k.rec (E 0) λ j zz=>E (j+2)) (u8 cs):=by
 intro p hp
 refine ai (Sx.mp hp) λ c hc hp=> ?_
 have h1:=h c hc
 match ek:cf c with
 |.ofNat 0=>
  rw[ek] at hp
  refine aa (P2.mp hp) ?_;refine aa (zF _ _) ?_;refine aa ek ?_;refine aa (show QE 0=0 from rfl) ?_;refine aa (S6 _) ?_;refine aa (U4 _) ?_;exact h1
 |.ofNat (n+1)=>
  rw[ek] at hp
  refine ai (Sx.mp hp) λ d hd hp=> ?_
  have h2:=h d hd
  match em:cf d with
  |.ofNat m=>rw[em] at hp;exact nomatch hp
  |.negSucc m=>
   rw[em] at hp
   refine aa (P2.mp hp) ?_;refine aa (zF _ _) ?_;refine aa (jk _ _ _) ?_;refine aa (gi _ _ _) ?_;refine aa (gi _ _ _) ?_;refine aa (Cd _ _) ?_;refine aa (xj _ _) ?_;refine aa (xj _ _) ?_
   exact sQ h1 h2 ek em _
 |.negSucc n=>rw[ek] at hp;exact nomatch hp
theorem tX{E:Nat->Int}:∀r:Po,(r.all λ x=>x.rec (λ n=>n.rec true λ zz zz=>false) λ zz=>false)=true->ev r E=0
 |[],_=>rfl
 |.ofNat 0::r,h=>by show 0*E 0+ev r _=0;refine aa (tX r h) ?_;refine aa (S6 _) ?_;rfl
 |.ofNat (_+1)::_,h=>nomatch h
 |.negSucc _::_,h=>nomatch h
theorem tH{E:Nat->Int}(h0:E 0=1)(h:Al E cs):uQ cs=false:=by
 refine Bool.eq_false_iff.mpr λ k=> ?_
 refine ai (U9.mp k) λ c hc k=> ?_
 have h1:=h c hc
 match c,k with
 |.negSucc n::r,k=>
  have h1:0<=Int.negSucc n*E 0+ev r _:=h1
  rw[tX r k,h0,SU,S8] at h1
  exact nomatch h1
theorem zy:∀f {E:Nat->Int} {cs:List Po},E 0=1->Al E cs->fm f cs=false
 |0,_,_,h0,h=>tH h0 h
 |f+1,E,_,h0,h=>by
  show(uQ _||fm f (u8 _))=false
  refine aa (tH h0 h) ?_;refine aa (Tr _) ?_
  exact zy f (E:=λ k=>k.rec (E 0) λ j zz=>E (j+2)) h0 (AV h)
theorem Cc(h:Dr t=true)(ns:List Nat)(is:List Int):tp ns is t:=Ra λ k=>by
 refine ai ((uk (ns:=ns) (is:=is) t).2 k) λ c hc hk=> ?_
 have:=QF.mp h c hc
 rw[zy _ rfl hk] at this
 exact nomatch this
noncomputable def za{α:Type}(n:Nat):(List α->Prop)->Prop:=n.rec (λ P=>P []) λ zz ih P=>∀x:α,ih λ l=>P (x::l)
theorem Cj{α:Type}:∀n {P:List α->Prop},(∀l,P l)->za n P:=by
 intro n
 induction n with
 |zero=>
  intro y1 h
  exact h []
 |succ n ih=>
  intro y2 h
  exact λ x=>ih λ l=>h (x::l)
noncomputable def lt?(a b:Nat):Bool:=Nat.ble (a+1) b
noncomputable def Eg(f:Nat):Nat->List T->T:=
 f.rec (λ zz zz=>.lf 0) λ zz ih n st=>
  (Nat.beq n 0).rec
   ((λ t k=>(lt? t 11).rec
    ((lt? t 15).rec
     ((lt? t 17).rec
      ((lt? t 32).rec
       ((lt? t 63).rec (ih (k/32768/2^(k % 64)) (.lit (k/32768 % 2^(k % 64)*2^(k/64 % 512))::st)) (ih k (.lit (t-32)::st)))
       (ih k (.lf (t-17)::st)))
      (st.rec (.lf 0) λ a st zz=>a.rec (λ zz=>.lf 0) (λ m=>st.rec (.lf 0) λ b st zz=>ih k (.un (t-15) m b::st)) (λ zz zz zz zz=>.lf 0) λ zz zz zz zz zz=>.lf 0))
     (st.rec (.lf 0) λ a st zz=>ih k (.un (t-11) 0 a::st)))
    (st.rec (.lf 0) λ b st zz=>st.rec (.lf 0) λ a st zz=>ih k (.nd (t-1) a b::st))) (n % 64) (n/64))
   (st.rec (.lf 0) λ a zz zz=>a)
noncomputable def dec(n:Nat):T:=Eg 300 n []
theorem ae(N:Nat)(h:true=Dr (dec (N/256))):za (α:=Nat) (N % 16) λ ns=>za (α:=Int) (N/16 % 16) λ is=>tp ns is (dec (N/256)):=Cj _ λ ns=>Cj _ λ is=>Cc h.symm ns is
theorem lO(a k:Nat):(k+1)*(a/(k+1))<=a/\a<=(k+1)*(a/(k+1))+k:=
 ⟨Nat.mul_div_le a (k+1),XK (Nat.lt_mul_div_succ a (Wz k))⟩
theorem Bx(a k:Nat):(k+1)*(a/(k+1))+a % (k+1)=a/\a % (k+1)<=k:=⟨Nat.div_add_mod a (k+1),XK (XE a (Wz k))⟩
end Mine
end
section
open PySem PySem.W PySem.Calls PyProof.Rows
namespace Mine
noncomputable section
abbrev P0:Ui:=Ye
noncomputable def iZ(ok:Wd->Bool)(st:Tv->Wd->Option (Tv×Wd)):Nat->Tv->Wd->Option Tv
 |0,_,_=>none
 |n+1,s,t=>match through t with
  |true=>some s
  |false=>match ok t with
   |false=>none
   |true=>match st s t with
    |some (s',t')=>iZ ok st n s' t'
    |none=>none
theorem vL{ok:Wd->Bool}{st:Tv->Wd->Option (Tv×Wd)}{n:Nat}{s:Tv}{t:Wd}:iZ ok st (n+1) s t=(match through t with
  |true=>some s
  |false=>match ok t with
   |false=>none
   |true=>match st s t with
    |some (s',t')=>iZ ok st n s' t'
    |none=>none):=rfl
theorem uj:∀(n:Nat) (s:Tv) (t:Wd) (r:Tv),
  iZ (stepOk n₀ ann) (stepT (denote SI) p w) n s t=some r->topRun SI p w n₀ ann n s.abs t=some r.abs:=by
 intro n
 induction n with
 |zero=>
  intro y1 y2 y3 h
  cases h
 |succ n ih=>
  intro s t r h
  rw[vL] at h
  unfold topRun
  cases ht:through t with
  |true=>rw[ht] at h;cases h;rfl
  |false=>
   rw[ht] at h
   cases hk:stepOk n₀ ann t with
   |false=>rw[hk] at h;cases h
   |true=>
    rw[hk] at h
    cases hs:stepT (denote SI) p w s t with
    |none=>rw[hs] at h;cases h
    |some x=>
     obtain⟨s',t'⟩:=x
     rw[hs] at h
     dsimp only
     refine aa (stepT_spec hs) ?_
     exact ih s' t' r h
noncomputable def iY:List Obj->Nat->BT->BT
 |[],_,t=>t
 |o::r,n,t=>iY r (n+1) (t.ins n o)
theorem vJ:∀(l:List Obj) (n:Nat) (t:BT),(∀k,k<l.length->((iY (l.take (k+1)) n t).get (n+k)).isSome=true)->
  We (iY l n t) (n+l.length) life=⟨(We t n life).objs++l.toArray,life⟩:=by
 intro l
 induction l with
 |nil=>
  intro n t y1
  show We t n life=_
  simp[We]
 |cons o r ih=>
  intro n t h
  have h0:((t.ins n o).get n).isSome=true:=h 0 (Wz _)
  show We (iY r (n+1) (t.ins n o)) (n+(r.length+1)) life=_
  refine aa (show n+(r.length+1)=n+1+r.length by exact ae 0x305206144106149102 rfl n r.length) ?_;refine aa (ih (n+1) (t.ins n o) λ k hk=>by
   have:=h (k+1) (Nat.succ_lt_succ hk)
   refine aa (show n+1+k=n+(k+1) by exact ae 0x304185244148185102 rfl n k) ?_
   exact this) ?_;refine aa (absHeap_ins h0) ?_
  show Heap.mk _ _=Heap.mk _ _
  congr 1
  show((We t n life).objs.push o)++r.toArray=_
  simp
noncomputable def oV(w:TD):Option PL:=(Q2 w.params).nsMap P3 "__annotations__"
noncomputable def S0(w:TD)(os:Wf):Tv:=⟨iY (Q2 w.params).objs.toList 0 .nil,11,(Q2 w.params).life,#[],Uw,Vd,os⟩
noncomputable def lZ(w:TD)(os:Wf):Option Tv:=iZ (stepOk 11 (oV w)) (stepT (denote SI) P0 w) 6300 (S0 w os) (topStub P0)
theorem xn(P:QP):We (iY (Q2 P).objs.toList 0 .nil) 11 (Q2 P).life=Q2 P:=by
 have:=vJ (life:=(Q2 P).life) (Q2 P).objs.toList 0 .nil (λ k hk=>by
  have FT:k<11:=hk
  match k,FT with
  |0,_=>rfl
  |1,_=>rfl
  |2,_=>rfl
  |3,_=>rfl
  |4,_=>rfl
  |5,_=>rfl
  |6,_=>rfl
  |7,_=>rfl
  |8,_=>rfl
  |9,_=>rfl
  |10,_=>rfl)
 exact this
theorem Cp(w:TD)(os:Wf):(S0 w os).abs=⟨Q2 w.params,#[],Uw,Vd,os⟩:=
 congrArg (λ h=>Shared.mk h #[] Uw Vd os) (xn w.params)
theorem Dh:∀w:TD,(fencedOpening SI P0 w 6300).map (λ s=>(s.heap,s.gens,s.drawn,s.toks))=some (Q2 w.params,Array.mk [],Uw,Vd):=
 boot_open (p:=P0) (N:=6300) (by kernel_rfl) (by decide) (λ s=>by kernel_rfl)
end
end Mine
end
section
set_option genInjectivity false
set_option genSizeOf false
namespace Mine
open PySem
inductive V where
 |none|bool(b:Bool)|int(i:Int)|str(s:String)|bytes(b:List UInt8)
 |tup(vs:List V)|list(vs:List V)|dict(ks:List String)(vs:List V)|inst(c:Nat)(vs:List V)
 |ref(i:Nat)|fn(f:Nat)
inductive O where
 |list(vs:List V)|Eu(ks:List String)(vs:List V)|EG(ks:List Int)(vs:List V)|inst(c:Nat)(vs:List V)
structure AH where
 m:Nat->Option O
 next:Nat
noncomputable def AH.set(M:AH)(i:Nat)(o:O):AH:=⟨λ j=>if j=i then some o else M.m j,M.next⟩
noncomputable def AH.kill(M:AH)(i:Nat):AH:=⟨λ j=>if j=i then none else M.m j,M.next⟩
noncomputable def AH.new(M:AH)(o:O):AH:=⟨λ j=>if j=M.next then some o else M.m j,M.next+1⟩
inductive xy where|add|sub|mul|div|mod|pow|shl|shr|band|bor
deriving DecidableEq
inductive xx where|eq|ne|lt|le|gt|ge|isin|notin
deriving DecidableEq
inductive Ty where|cls(c:Nat)|tbool|tint|tlist|tdict
inductive jp where|one(i:Nat)|many(is:List Nat)
deriving DecidableEq
mutual
inductive E where
 |var(i:Nat)|lit(v:V)|glob(g:Nat)|Jb(f:Nat)
 |tup(es:Es)|lst(mu:Bool)(es:Es)|Gq(mu:Bool)(ks:List String)(es:Es)|GL
 |bin(op:xy)(a b:E)|neg(a:E)|not(a:E)
 |cmp(op:xx)(a b:E)|FC(a:E)(op1:xx)(b:E)(op2:xx)(c:E)
 |Gc(a:E)|FM(a:E)|F4(Ev:Bool)(es:Es)|EF(c a b:E)
 |call(f:Nat)(es:Es)|new(c:Nat)(es:Es)|EL(o:E)(m:Nat)(es:Es)|Fw(i:Nat)(es:Es)
 |attr(o:E)(a:Nat)|sub(o k:E)|slice(o:E)(lo hi:Eo)|rev(o:E)
 |len(a:E)|abs(a:E)|sum(a:E)|intOf(a:E)|max2(a b:E)|min2(a b:E)
 |Fa(a:E)|bytesOf(a:E)|sorted(a:E)|Fd(a:E)(t:Ty)|Gy(a:E)
 |GK(o k:E)|FP(o k d:E)
 |comp(mu:Bool)(cl:Cl)
 |freeze(a:E)|dead
inductive Eo where|no|yes(e:E)
inductive Es where|nil|cons(e:E)(r:Es)
inductive It where|it(e:E)|Fy(es:Es)|zip(a b:E)|keys(e:E)
inductive Cl where|last(e:E)|cls(t:jp)(it:It)(ifs:Es)(r:Cl)
end
mutual
inductive S where
 |asg(t:jp)(e:E)|EK(o:E)(a:Nat)(e:E)|E1(o k e:E)|app(o e:E)
 |ret(e:E)|EF(c:E)(a b:Ss)|E3(t:jp)(it:It)(body:Ss)|EX(c:E)(body:Ss)
 |EJ(es:Es)|Gw(i:Nat)(e:E)|IA(i:Nat)|dead
inductive Ss where|nil|cons(s:S)(r:Ss)
end
noncomputable def jp.list:jp->List Nat|.one i=>[i]|.many is=>is
noncomputable def Cl.E6:Cl->List Nat
 |.last _=>[]
 |.cls t _ _ r=>t.list++Cl.E6 r
noncomputable def Es.len:Es->Nat|.nil=>0|.cons _ r=>Es.len r+1
abbrev an:=List (Option V)
noncomputable def an.clear:an->Nat->an
 |[],_=>[]
 |_::r,0=>none::r
 |x::r,n+1=>x::an.clear r n
noncomputable def an.FD(ρ:an)(is:List Nat):an:=is.foldl an.clear ρ
noncomputable def an.put:an->Nat->V->an
 |[],_,_=>[]
 |_::r,0,v=>some v::r
 |x::r,n+1,v=>x::an.put r n v
noncomputable def an.get:an->Nat->Option V
 |[],_=>none
 |x::_,0=>x
 |_::r,n+1=>an.get r n
noncomputable def an.Fp:an->List Nat->List V->Option an
 |ρ,[],[]=>some ρ
 |ρ,i::is,v::vs=>an.Fp (ρ.put i v) is vs
 |_,_,_=>none
noncomputable def cU:Nat:=2^256
noncomputable def ar:Nat:=100000
noncomputable def eO(f:V->V->Option Bool):List V->List V->Option Bool
 |[],[]=>some true
 |[],_::_=>some false
 |_::_,[]=>some false
 |x::xs,y::ys=>(f x y).bind λ a=>(match eO f xs ys with|some b=>some (a&&b)|none=>none)
noncomputable def bE:V->Option Bool|.bool b=>some b|_=>none
noncomputable def aM:V->Option Int|.int i=>some i|_=>none
noncomputable def cF:V->Option String|.str i=>some i|_=>none
noncomputable def nS:V->Option (List UInt8)|.bytes i=>some i|_=>none
noncomputable def nR:V->Option (List V)|.tup i=>some i|_=>none
noncomputable def lw:V->Option (List V)|.list i=>some i|_=>none
noncomputable def zu:V->Bool|.none=>true|_=>false
noncomputable def jl:Nat->V->V->Option Bool
 |0=>λ zz zz=>none
 |n+1=>λ x y=>match x with
  |.none=>if zu y then some true else(match lw y with|some _=>some false|none=>none)
  |.bool a=>(match bE y with|some b=>some (a==b)|none=>none)
  |.int a=>(match aM y with|some b=>some (a==b)|none=>none)
  |.str a=>(match cF y with|some b=>some (a==b)|none=>none)
  |.bytes a=>(match nS y with|some b=>some (a==b)|none=>none)
  |.tup a=>(nR y).bind λ b=>eO (jl n) a b
  |.list a=>if zu y then some false else(lw y).bind λ b=>eO (jl n) a b
  |_=>none
noncomputable def kO(x y:V):Option Bool:=jl 40 x y
noncomputable def lstO? :O->Option (List V)|.list vs=>some vs|_=>none
noncomputable def dg(M:AH):V->Option (List V)
 |.list vs=>some vs
 |.ref i=>(M.m i).bind lstO?
 |_=>none
noncomputable def kG(M:AH):V->V
 |.ref i=>(((M.m i).bind lstO?).map V.list).getD (.ref i)
 |v=>v
noncomputable def ints? :List V->Option (List Int)
 |[]=>some []
 |x::r=>(aM x).bind λ i=>(ints? r).map (i:: ·)
noncomputable def dY:List Int->Option (List UInt8)
 |[]=>some []
 |i::r=>if 0<=i/\i<256 then(dY r).map (SL i.toNat:: ·) else none
noncomputable def Cg(op:xy)(a b:Int):Option V:=match op with
 |.add=>some (.int (a+b))
 |.sub=>some (.int (a-b))
 |.mul=>if a.natAbs<cU/\b.natAbs<cU then some (.int (a*b)) else none
 |.div=>if b≠0/\b.natAbs<cU then some (.int (QN a b)) else none
 |.mod=>if b≠0 then some (.int (QM a b)) else none
 |.pow=>if 0<=a/\a<=16/\0<=b/\b<=64 then some (.int (a^b.toNat)) else none
 |.shl=>if a.natAbs<2^64/\0<=b/\b<=64 then some (.int (a*2^b.toNat)) else none
 |.shr=>if 0<=b then some (.int (QN a (2^b.toNat))) else none
 |.band=>if 0<=a/\0<=b then some (.int ((a.toNat&&&b.toNat:Nat):Int)) else none
 |.bor=>if 0<=a/\0<=b then some (.int ((a.toNat|||b.toNat:Nat):Int)) else none
noncomputable def Ck(x y:V):Option V:=match x with
 |.str a=>(cF y).bind λ b=>if a.length+b.length<=ar then some (.str (a++b)) else none
 |.list a=>(lw y).bind λ b=>if a.length+b.length<=ar then some (.list (a++b)) else none
 |.tup a=>(nR y).bind λ b=>if a.length+b.length<=ar then some (.tup (a++b)) else none
 |_=>none
noncomputable def C3:xy->Bool|.add=>true|_=>false
noncomputable def gv(op:xy)(x y:V):Option V:=match aM x with
 |some a=>(aM y).bind λ b=>Cg op a b
 |none=>match C3 op with|true=>Ck x y|false=>none
noncomputable def eJ(x:V):List V->Option Bool
 |[]=>some false
 |y::r=>(kO y x).bind λ a=>(match eJ x r with|some b=>some (a||b)|none=>none)
noncomputable def Do(x:V):O->Option Bool
 |.EG ks _=>(match aM x with|some k=>some (ks.contains k)|none=>none)
 |.Eu ks _=>(match cF x with|some k=>some (ks.contains k)|none=>none)
 |_=>none
noncomputable def zw(M:AH)(x:V):V->Option Bool
 |.tup vs=>eJ x vs
 |.dict ks _=>(match cF x with|some s=>some (ks.contains s)|none=>none)
 |.ref i=>(M.m i).bind (Do x)
 |_=>none
noncomputable def rL(M:AH)(op:xx)(x y:V):Option Bool:=match op with
 |.eq=>kO (kG M x) (kG M y)
 |.ne=>(kO (kG M x) (kG M y)).map (!·)
 |.lt=>(match aM x with|some a=>(match aM y with|some b=>some (decide (a<b))|none=>none)|none=>none)
 |.le=>(match aM x with|some a=>(match aM y with|some b=>some (decide (a<=b))|none=>none)|none=>none)
 |.gt=>(match aM x with|some a=>(match aM y with|some b=>some (decide (b<a))|none=>none)|none=>none)
 |.ge=>(match aM x with|some a=>(match aM y with|some b=>some (decide (b<=a))|none=>none)|none=>none)
 |.isin=>zw M x y
 |.notin=>(zw M x y).map (!·)
end Mine
namespace Mine
open PySem
structure kf where
 fields:List Nat
 mu:Bool
 init:Option Nat
 meths:List (Nat×Nat)
structure Fn where
 np:Nat
 Fv:List V
 slots:Nat
 body:Ss
structure dH where
 cls:Nat->Option kf
 fn:Nat->Option Fn
 glob:Nat->Option V
noncomputable def aB{α:Type}(o:Option α)(k:α->Prop):Prop:=match o with|some a=>k a|none=>False
noncomputable def Dk(v:V):Option Nat:=(aM v).bind λ i=>if 0<=i then some i.toNat else none
noncomputable def insO? :O->Option (Nat×List V)|.inst c vs=>some (c,vs)|_=>none
noncomputable def kK(M:AH):V->Option (Nat×List V)
 |.inst c vs=>some (c,vs)
 |.ref i=>(M.m i).bind insO?
 |_=>none
noncomputable def gM(P:dH)(c a:Nat):Option Nat:=(P.cls c).bind λ cl=>cl.fields.idxOf? a
noncomputable def nQ(P:dH)(M:AH)(a:Nat)(v:V):Option V:=(kK M v).bind λ x=>(gM P x.1 a).bind λ k=>x.2[k]?
noncomputable def nA(P:dH)(M:AH)(m:Nat)(v:V):Option Nat:=(kK M v).bind λ x=>(P.cls x.1).bind λ cl=>cl.meths.lookup m
noncomputable def ay:List String->List V->String->Option V
 |k::ks,v::vs,s=>if k==s then some v else ay ks vs s
 |_,_,_=>none
noncomputable def ci:List Int->List V->Int->Option V
 |k::ks,v::vs,s=>if k==s then some v else ci ks vs s
 |_,_,_=>none
noncomputable def yz(vs:List V)(y:V):Option V:=(aM y).bind λ i=>if 0<=i then vs[i.toNat]? else none
noncomputable def DI(y:V):O->Option V
 |.list vs=>yz vs y
 |.Eu ks vs=>(cF y).bind λ s=>ay ks vs s
 |.EG ks vs=>(aM y).bind λ s=>ci ks vs s
 |.inst _ _=>none
noncomputable def eh(M:AH)(x y:V):Option V:=match x with
 |.list vs=>yz vs y
 |.tup vs=>yz vs y
 |.bytes b=>(aM y).bind λ i=>if 0<=i then(match b[i.toNat]? with|some x=>some (.int x.toNat)|none=>none) else none
 |.dict ks vs=>(cF y).bind λ s=>ay ks vs s
 |.ref i=>(M.m i).bind (DI y)
 |_=>none
noncomputable def qc:V->Option (List String×List V)|.dict ks vs=>some (ks,vs)|_=>none
noncomputable def DM(x:V):Bool:=(qc x).isSome
noncomputable def DQ(x y:V):Option (Option V):=(qc x).bind λ d=>(match cF y with|some s=>some (ay d.1 d.2 s)|none=>none)
noncomputable def vv:O->Option (List Int×List V)|.EG ks vs=>some (ks,vs)|_=>none
noncomputable def vt:V->Option Nat|.ref i=>some i|_=>none
noncomputable def uF(M:AH)(x:V):Option (List Int×List V):=(vt x).bind λ i=>(M.m i).bind vv
noncomputable def tT(M:AH)(x:V):Bool:=(uF M x).isSome
noncomputable def yB(M:AH)(x y:V):Option (Option V):=(uF M x).bind λ d=>(match aM y with|some s=>some (ci d.1 d.2 s)|none=>none)
noncomputable def cut{α:Type}(l:List α)(lo:Nat)(hi:Option Nat):List α:=match hi with
 |some h=>(l.take h).drop lo
 |none=>l.drop lo
noncomputable def mW(M:AH)(v:V)(lo:Nat)(hi:Option Nat):Option V:=match v with
 |.bytes b=>some (.bytes (cut b lo hi))
 |.str s=>match hi with|none=>if lo<=s.length then some (.str (RV (s.toList.drop lo))) else none|some _=>none
 |v=>(dg M v).map λ vs=>.list (cut vs lo hi)
noncomputable def BE(M:AH):V->Option Nat
 |.list vs=>some vs.length
 |.tup vs=>some vs.length
 |.str s=>some s.length
 |.bytes b=>some b.length
 |.ref i=>((M.m i).bind lstO?).map Q4
 |_=>none
noncomputable def fK(a b c d:Bool):Ty->Bool|.cls _=>false|.tbool=>a|.tint=>b|.tlist=>c|.tdict=>d
noncomputable def BL(c:Nat):Ty->Bool|.cls d=>c==d|_=>false
noncomputable def zt:O->Ty->Bool
 |.list _=>fK false false true false
 |.Eu _ _=>fK false false false true
 |.EG _ _=>fK false false false true
 |.inst c _=>BL c
noncomputable def fP(M:AH)(x:V)(t:Ty):Option Bool:=match x with
 |.none=>some (fK false false false false t)
 |.bool _=>some (fK true true false false t)
 |.int _=>some (fK false true false false t)
 |.str _=>some (fK false false false false t)
 |.tup _=>some (fK false false false false t)
 |.list _=>some (fK false false true false t)
 |.dict _ _=>some (fK false false false true t)
 |.inst c _=>some (BL c t)
 |.ref i=>(M.m i).map λ o=>zt o t
 |_=>none
noncomputable def BO:V->Option Int
 |.int i=>some i
 |.bool b=>some (if b then 1 else 0)
 |_=>none
noncomputable def mz(M:AH):V->Option (List UInt8)
 |.bytes b=>some b
 |v=>(dg M v).bind λ vs=>(ints? vs).bind dY
noncomputable def iC(s:String):List Nat:=s.toList.map UM
noncomputable def iP(s:String):List String->List String
 |[]=>[s]
 |t::r=>if iC s<iC t then s::t::r else t::iP s r
noncomputable def eH:List String->List String
 |[]=>[]
 |s::r=>iP s (eH r)
noncomputable def ml(s:Int):List Int->List Int
 |[]=>[s]
 |t::r=>if s<t then s::t::r else t::ml s r
noncomputable def gA:List Int->List Int
 |[]=>[]
 |s::r=>ml s (gA r)
noncomputable def qo:O->Option (List V)|.EG ks _=>if ks.length<64 then some ((gA ks).map .int) else none|_=>none
noncomputable def ot(M:AH):V->Option (List V)
 |.dict ks _=>if ks.length<64 then some ((eH ks).map .str) else none
 |.ref i=>(M.m i).bind qo
 |_=>none
noncomputable def aZ(a:Int)(s:Nat):Nat->List V
 |0=>[]
 |n+1=>.int a::aZ (a+s) s n
noncomputable def cm(i:Int):Bool:=decide (i.natAbs<2^29)
noncomputable def Bl:List Int->Option (List V)
 |[]=>none
 |n::r=>match r with
  |[]=>if cm n then some (aZ 0 1 n.toNat) else none
  |k::r=>match r with
   |[]=>if cm n&&cm k then some (aZ n 1 (k-n).toNat) else none
   |s::r=>match r with
    |[]=>if decide (0<s)&&cm n&&cm k&&cm s then some (aZ n s.toNat (if n<k then((k-n-1)/s+1).toNat else 0)) else none
    |_::_=>none
noncomputable def Bk(vs:List V):Option (List V):=(ints? vs).bind Bl
noncomputable def n6:List V->List V->List V
 |x::xs,y::ys=>.tup [x,y]::n6 xs ys
 |_,_=>[]
noncomputable def ri(v:V):Option (List V):=match v with|.list vs=>some vs|.tup vs=>some vs|_=>none
noncomputable def aI(s:String)(v:V):List String->List V->List String×List V
 |k::ks,x::xs=>if k==s then(k::ks,v::xs) else let r:=aI s v ks xs;(k::r.1,x::r.2)
 |_,_=>([s],[v])
noncomputable def dN(s:Int)(v:V):List Int->List V->List Int×List V
 |k::ks,x::xs=>if k==s then(k::ks,v::xs) else let r:=dN s v ks xs;(k::r.1,x::r.2)
 |_,_=>([s],[v])
noncomputable def dL(o:O)(k x:V):Option O:=match o with
 |.list vs=>(aM k).bind λ i=>if 0<=i/\i.toNat<vs.length then some (.list (vs.set i.toNat x)) else none
 |.Eu ks vs=>(cF k).bind λ s=>if ks.length<=ar then some (.Eu (aI s x ks vs).1 (aI s x ks vs).2) else none
 |.EG ks vs=>(aM k).bind λ s=>if ks.length<=ar then some (.EG (dN s x ks vs).1 (dN s x ks vs).2) else none
 |.inst _ _=>none
noncomputable def xM(P:dH)(a:Nat)(x:V):O->Option O
 |.inst c vs=>match gM P c a with
  |some k=>if k<vs.length then some (.inst c (vs.set k x)) else if k=vs.length then some (.inst c (vs++[x])) else none
  |none=>none
 |_=>none
noncomputable def mq:O->Option V|.list vs=>some (.list vs)|.Eu ks vs=>some (.dict ks vs)|_=>none
noncomputable def bf(M:AH):V->V×AH
 |.ref i=>((M.m i).bind mq).elim (.ref i,M) λ v=>(v,M.kill i)
 |v=>(v,M)
noncomputable def dF(t:jp)(v:V)(ρ:an):Option an:=match t with
 |.one i=>some (ρ.put i v)
 |.many is=>(ri v).bind λ vs=>ρ.Fp is vs
noncomputable def eQ(f:Fn)(vs:List V):Option an:=
 if vs.length<=f.np/\f.np<=vs.length+f.Fv.length/\f.np<=f.slots then
  some (((vs++f.Fv.drop (f.Fv.length-(f.np-vs.length))).map some)++Qp (f.slots-f.np) none)
 else none
noncomputable def Bq:O->Option (V×List V)|.list l=>(match l with|v::vs=>some (v,vs)|[]=>none)|_=>none
noncomputable def tS(M:AH):V->Bool
 |.ref i=>((M.m i).bind lstO?).isSome
 |_=>false
abbrev cM:=Nat->List V->AH->(V->AH->Prop)->(AH->Prop)->Prop
noncomputable def bP(turn:V->AH->(List V->AH->Prop)->Prop):List V->List V->AH->(List V->AH->Prop)->Prop
 |[],acc,M,Q=>Q acc M
 |x::xs,acc,M,Q=>turn x M λ r M'=>(acc++r).length<=ar/\bP turn xs (acc++r) M' Q
noncomputable def u4(turn:V->an->AH->(an->AH->Prop)->Prop):List V->an->AH->(an->AH->Prop)->Prop
 |[],ρ,M,N=>N ρ M
 |x::xs,ρ,M,N=>turn x ρ M λ ρ' M'=>u4 turn xs ρ' M' N
noncomputable def vH(test:an->AH->(Bool->AH->Prop)->Prop)(body:an->AH->(an->AH->Prop)->Prop):Nat->an->AH->(an->AH->Prop)->Prop
 |0,_,_,_=>False
 |n+1,ρ,M,N=>test ρ M λ b M1=>(b=true->body ρ M1 λ ρ' M'=>vH test body n ρ' M' N)/\(b=false->N ρ M1)
@[irreducible]noncomputable def cK(P:dH)(c:cM)(cl:Nat)(vs:List V)(M:AH)(Q:V->AH->Prop)(X:AH->Prop):Prop:=
 aB (P.cls cl) λ C=>aB C.init λ f=>c f (.ref M.next::vs) (M.new (.inst cl [])) (λ r M2=>
  match r,M2.m M.next with
  |.none,some (.inst cl' fs)=>cl'=cl/\fs.length=C.fields.length/\(if C.mu then Q (.ref M.next) M2 else Q (.inst cl fs) (M2.kill M.next))
  |_,_=>False) X
mutual
noncomputable def aO(P:dH)(c:cM):E->an->AH->(V->AH->Prop)->(AH->Prop)->Prop
 |.var i,ρ,M,Q,_=>aB (ρ.get i) λ v=>Q v M
 |.lit v,_,M,Q,_=>Q v M
 |.glob g,_,M,Q,_=>aB (P.glob g) λ v=>Q v M
 |.Jb f,_,M,Q,_=>Q (.fn f) M
 |.tup es,ρ,M,Q,X=>fp P c es ρ M (λ vs M'=>Q (.tup vs) M') X
 |.lst mu es,ρ,M,Q,X=>fp P c es ρ M (λ vs M'=>if mu then Q (.ref M'.next) (M'.new (.list vs)) else Q (.list vs) M') X
 |.Gq mu ks es,ρ,M,Q,X=>fp P c es ρ M (λ vs M'=>vs.length=ks.length/\ks.Nodup/\ks.length<=15/\if mu then Q (.ref M'.next) (M'.new (.Eu ks vs)) else Q (.dict ks vs) M') X
 |.GL,_,M,Q,_=>Q (.ref M.next) (M.new (.EG [] []))
 |.bin op a b,ρ,M,Q,X=>aO P c a ρ M (λ x M1=>aO P c b ρ M1 (λ y M2=>aB (gv op x y) λ r=>Q r M2) X) X
 |.neg a,ρ,M,Q,X=>aO P c a ρ M (λ x M1=>aB (aM x) λ i=>Q (.int (-i)) M1) X
 |.not a,ρ,M,Q,X=>aO P c a ρ M (λ x M1=>aB (bE x) λ b=>Q (.bool (!b)) M1) X
 |.cmp op a b,ρ,M,Q,X=>aO P c a ρ M (λ x M1=>aO P c b ρ M1 (λ y M2=>aB (rL M2 op x y) λ r=>Q (.bool r) M2) X) X
 |.FC a op1 b op2 d,ρ,M,Q,X=>aO P c a ρ M (λ x M1=>aO P c b ρ M1 (λ y M2=>aB (rL M2 op1 x y) λ r=>
   (r=true->aO P c d ρ M2 (λ z M3=>aB (rL M3 op2 y z) λ r2=>Q (.bool r2) M3) X)/\(r=false->Q (.bool false) M2)) X) X
 |.Gc a,ρ,M,Q,X=>aO P c a ρ M (λ x M1=>Q (.bool (match x with|.none=>true|_=>false)) M1) X
 |.FM a,ρ,M,Q,X=>aO P c a ρ M (λ x M1=>Q (.bool (match x with|.none=>false|_=>true)) M1) X
 |.F4 Ev es,ρ,M,Q,X=>iT P c Ev es ρ M Q X
 |.EF t a b,ρ,M,Q,X=>aO P c t ρ M (λ x M1=>aB (bE x) λ r=>(r=true->aO P c a ρ M1 Q X)/\(r=false->aO P c b ρ M1 Q X)) X
 |.call f es,ρ,M,Q,X=>fp P c es ρ M (λ vs M1=>c f vs M1 Q X) X
 |.new cl es,ρ,M,Q,X=>fp P c es ρ M (λ vs M1=>cK P c cl vs M1 Q X) X
 |.EL o m es,ρ,M,Q,X=>aO P c o ρ M (λ x M1=>aB (nA P M1 m x) λ f=>fp P c es ρ M1 (λ vs M2=>c f (x::vs) M2 Q X) X) X
 |.Fw i es,ρ,M,Q,X=>aB (ρ.get i) λ v=>match v with|.fn f=>fp P c es ρ M (λ vs M2=>c f vs M2 Q X) X|_=>False
 |.attr o a,ρ,M,Q,X=>aO P c o ρ M (λ x M1=>aB (nQ P M1 a x) λ r=>Q r M1) X
 |.sub o k,ρ,M,Q,X=>aO P c o ρ M (λ x M1=>aO P c k ρ M1 (λ y M2=>aB (eh M2 x y) λ r=>Q r M2) X) X
 |.slice o lo hi,ρ,M,Q,X=>aO P c o ρ M (λ x M1=>yG P c lo ρ M1 (λ l M2=>yG P c hi ρ M2 (λ h M3=>aB (mW M3 x (l.getD 0) h) λ r=>Q r M3) X) X) X
 |.rev o,ρ,M,Q,X=>aO P c o ρ M (λ x M1=>aB (dg M1 x) λ vs=>Q (.list vs.reverse) M1) X
 |.len a,ρ,M,Q,X=>aO P c a ρ M (λ x M1=>aB (BE M1 x) λ n=>Q (.int n) M1) X
 |.abs a,ρ,M,Q,X=>aO P c a ρ M (λ x M1=>aB (aM x) λ i=>Q (.int i.natAbs) M1) X
 |.sum a,ρ,M,Q,X=>aO P c a ρ M (λ x M1=>aB ((dg M1 x).bind ints?) λ is=>Q (.int is.sum) M1) X
 |.intOf a,ρ,M,Q,X=>aO P c a ρ M (λ x M1=>aB (BO x) λ i=>Q (.int i) M1) X
 |.max2 a b,ρ,M,Q,X=>aO P c a ρ M (λ x M1=>aO P c b ρ M1 (λ y M2=>aB (aM x) λ i=>aB (aM y) λ j=>Q (.int (if i<j then j else i)) M2) X) X
 |.min2 a b,ρ,M,Q,X=>aO P c a ρ M (λ x M1=>aO P c b ρ M1 (λ y M2=>aB (aM x) λ i=>aB (aM y) λ j=>Q (.int (if j<i then j else i)) M2) X) X
 |.Fa a,ρ,M,Q,X=>aO P c a ρ M (λ x M1=>aB (dg M1 x) λ vs=>Q (.tup vs) M1) X
 |.bytesOf a,ρ,M,Q,X=>aO P c a ρ M (λ x M1=>aB (mz M1 x) λ b=>Q (.bytes b) M1) X
 |.sorted a,ρ,M,Q,X=>aO P c a ρ M (λ x M1=>aB (ot M1 x) λ vs=>Q (.list vs) M1) X
 |.Fd a t,ρ,M,Q,X=>aO P c a ρ M (λ x M1=>aB (fP M1 x t) λ b=>Q (.bool b) M1) X
 |.Gy a,ρ,M,Q,X=>aO P c a ρ M (λ x M1=>aB (vt x) λ i=>aB ((M1.m i).bind Bq) λ p=>Q p.1 (M1.set i (.list p.2))) X
 |.GK o k,ρ,M,Q,X=>aO P c o ρ M (λ x M1=>DM x=true/\aO P c k ρ M1 (λ y M2=>aB (DQ x y) λ r=>Q (r.getD .none) M2) X) X
 |.FP o k d,ρ,M,Q,X=>aO P c o ρ M (λ x M1=>tT M1 x=true/\aO P c k ρ M1 (λ y M2=>aO P c d ρ M2 (λ z M3=>aB (yB M3 x y) λ r=>Q (r.getD z) M3) X) X) X
 |.comp mu cl,ρ,M,Q,_=>lQ P c cl (ρ.FD cl.E6) M (λ vs M'=>if mu then Q (.ref M'.next) (M'.new (.list vs)) else Q (.list vs) M')
 |.freeze a,ρ,M,Q,X=>aO P c a ρ M (λ x M1=>Q (bf M1 x).1 (bf M1 x).2) X
 |.dead,_,_,_,_=>False
noncomputable def yG(P:dH)(c:cM):Eo->an->AH->(Option Nat->AH->Prop)->(AH->Prop)->Prop
 |.no,_,M,Q,_=>Q none M
 |.yes e,ρ,M,Q,X=>aO P c e ρ M (λ x M1=>aB (Dk x) λ n=>n<ar/\Q (some n) M1) X
noncomputable def fp(P:dH)(c:cM):Es->an->AH->(List V->AH->Prop)->(AH->Prop)->Prop
 |.nil,_,M,Q,_=>Q [] M
 |.cons e r,ρ,M,Q,X=>aO P c e ρ M (λ v M1=>fp P c r ρ M1 (λ vs M2=>Q (v::vs) M2) X) X
noncomputable def iT(P:dH)(c:cM):Bool->Es->an->AH->(V->AH->Prop)->(AH->Prop)->Prop
 |_,.nil,_,_,_,_=>False
 |Ev,.cons e r,ρ,M,Q,X=>aO P c e ρ M (λ v M1=>match r with
   |.nil=>Q v M1
   |.cons e' r'=>aB (bE v) λ b=>(b=Ev->iT P c Ev (.cons e' r') ρ M1 Q X)/\(b=(!Ev)->Q v M1)) X
noncomputable def zr(P:dH)(c:cM):It->an->AH->(List V->AH->Prop)->(AH->Prop)->Prop
 |.it e,ρ,M,Q,X=>aO P c e ρ M (λ x M1=>aB (ri x) λ vs=>Q vs M1) X
 |.Fy es,ρ,M,Q,X=>fp P c es ρ M (λ vs M1=>aB (Bk vs) λ is=>is.length<=ar/\Q is M1) X
 |.zip a b,ρ,M,Q,X=>aO P c a ρ M (λ x M1=>aO P c b ρ M1 (λ y M2=>aB (nR x) λ xs=>aB (lw y) λ ys=>Q (n6 xs ys) M2) X) X
 |.keys e,ρ,M,Q,X=>aO P c e ρ M (λ x M1=>aB (qc x) λ d=>Q (d.1.map .str) M1) X
noncomputable def iQ(P:dH)(c:cM):Es->an->AH->(Bool->AH->Prop)->Prop
 |.nil,_,M,Q=>Q true M
 |.cons e r,ρ,M,Q=>aO P c e ρ M (λ v M1=>aB (bE v) λ b=>(b=true->iQ P c r ρ M1 Q)/\(b=false->Q false M1)) (λ zz=>False)
noncomputable def lQ(P:dH)(c:cM):Cl->an->AH->(List V->AH->Prop)->Prop
 |.last e,ρ,M,Q=>aO P c e ρ M (λ v M1=>Q [v] M1) (λ zz=>False)
 |.cls t it ifs r,ρ,M,Q=>zr P c it ρ M (λ items M1=>bP (λ x M2 k=>aB (dF t x ρ) λ ρ'=>
   iQ P c ifs ρ' M2 λ b M3=>(b=true->lQ P c r ρ' M3 k)/\(b=false->k [] M3)) items [] M1 Q) (λ zz=>False)
end
mutual
noncomputable def Dp(P:dH)(c:cM):S->an->AH->(an->AH->Prop)->(V->AH->Prop)->(AH->Prop)->Prop
 |.asg t e,ρ,M,N,_,X=>aO P c e ρ M (λ v M1=>aB (dF t v ρ) λ ρ'=>N ρ' M1) X
 |.EK o a e,ρ,M,N,_,X=>aO P c e ρ M (λ v M1=>aO P c o ρ M1 (λ x M2=>match x with
   |.ref i=>aB (M2.m i) λ ob=>aB (xM P a v ob) λ Gz=>N ρ (M2.set i Gz)
   |_=>False) X) X
 |.E1 o k e,ρ,M,N,_,X=>aO P c e ρ M (λ v M1=>aO P c o ρ M1 (λ x M2=>aO P c k ρ M2 (λ y M3=>match x with
   |.ref i=>aB (M3.m i) λ ob=>aB (dL ob y v) λ Gz=>N ρ (M3.set i Gz)
   |_=>False) X) X) X
 |.app o e,ρ,M,N,_,X=>aO P c o ρ M (λ x M1=>tS M1 x=true/\aO P c e ρ M1 (λ v M2=>match x with
   |.ref i=>(match M2.m i with
    |some (.list vs)=>vs.length<ar/\N ρ (M2.set i (.list (vs++[v])))
    |_=>False)
   |_=>False) X) X
 |.ret e,ρ,M,_,R,X=>aO P c e ρ M R X
 |.EF t a b,ρ,M,N,R,X=>aO P c t ρ M (λ x M1=>aB (bE x) λ r=>(r=true->bq P c a ρ M1 N R X)/\(r=false->bq P c b ρ M1 N R X)) X
 |.E3 t it body,ρ,M,N,R,X=>zr P c it ρ M (λ items M1=>u4 (λ x ρ M2 k=>aB (dF t x ρ) λ ρ'=>bq P c body ρ' M2 k R X) items ρ M1 N) X
 |.EX t body,ρ,M,N,_,_=>∃n,vH (λ ρ M k=>aO P c t ρ M (λ x M1=>aB (bE x) λ b=>k b M1) (λ zz=>False))
   (λ ρ M k=>bq P c body ρ M k (λ zz zz=>False) (λ zz=>False)) n ρ M N
 |.EJ es,ρ,M,_,_,X=>fp P c es ρ M (λ zz M1=>X M1) (λ zz=>False)
 |.Gw i e,ρ,M,N,_,_=>aO P c e ρ M (λ v M1=>N (ρ.put i v) M1) (λ M1=>N (ρ.put i .none) M1)
 |.IA i,ρ,M,N,_,_=>aB (ρ.get i) λ v=>N (ρ.put i (bf M v).1) (bf M v).2
 |.dead,_,_,_,_,_=>False
noncomputable def bq(P:dH)(c:cM):Ss->an->AH->(an->AH->Prop)->(V->AH->Prop)->(AH->Prop)->Prop
 |.nil,ρ,M,N,_,_=>N ρ M
 |.cons s r,ρ,M,N,R,X=>Dp P c s ρ M (λ ρ' M'=>bq P c r ρ' M' N R X) R X
end
noncomputable def rQ(P:dH):Nat->cM
 |0,_,_,_,_,_=>False
 |n+1,f,vs,M,Q,X=>aB (P.fn f) λ fn=>aB (eQ fn vs) λ ρ=>bq P (rQ P n) fn.body ρ M (λ zz M'=>Q .none M') Q X
theorem rP:∃f:dH->Nat->cM,f=rQ:=⟨_,rfl⟩
@[irreducible]noncomputable def ag:dH->Nat->cM:=Classical.choose rP
theorem rN:ag=rQ:=by unfold ag;exact Classical.choose_spec rP
theorem nN(P:dH)(f:Nat)(vs:List V)(M:AH)(Q:V->AH->Prop)(X:AH->Prop):ag P 0 f vs M Q X=False:=by refine aa rN ?_;rfl
theorem ee(P:dH)(n f:Nat)(vs:List V)(M:AH)(Q:V->AH->Prop)(X:AH->Prop):
  ag P (n+1) f vs M Q X=aB (P.fn f) λ fn=>aB (eQ fn vs) λ ρ=>bq P (ag P n) fn.body ρ M (λ zz M'=>Q .none M') Q X:=by refine aa rN ?_;rfl
section
variable(s k:String)(i j:Int)(v x:V)(ks:List String)(is:List Int)(vs xs:List V)(r:an)(n a:Nat)(b:Option V)(l:List String)
theorem qK:aI s v [] xs=([s],[v]):=rfl
theorem fc:aI s v (k::ks) (x::xs)=if(k==s)=true then(k::ks,v::xs) else(k::(aI s v ks xs).1,x::(aI s v ks xs).2):=rfl
theorem qL:dN i v (j::is) (x::xs)=if(j==i)=true then(j::is,v::xs) else(j::(dN i v is xs).1,x::(dN i v is xs).2):=rfl
theorem tL(t:V->AH->(List V->AH->Prop)->Prop)(M:AH)(Q:List V->AH->Prop):bP t [] vs M Q=Q vs M:=rfl
theorem oN(t:V->AH->(List V->AH->Prop)->Prop)(M:AH)(Q:List V->AH->Prop):bP t (x::xs) vs M Q=t x M λ r M'=>(vs++r).length<=ar/\bP t xs (vs++r) M' Q:=rfl
theorem zf:an.put (b::r) (n+1) v=b::an.put r n v:=rfl
theorem zx:an.get (b::r) (n+1)=an.get r n:=rfl
theorem qJ:aZ i a (n+1)=.int i::aZ (i+a) a n:=rfl
theorem rn:iP s (k::l)=if iC s<iC k then s::k::l else k::iP s l:=rfl
theorem wR:ml i (j::is)=if i<j then i::j::is else j::ml i is:=rfl
theorem B1(f:V->V->Option Bool):eO f (v::vs) (x::xs)=(f v x).bind λ a=>(match eO f vs xs with|some b=>some (a&&b)|none=>none):=rfl
theorem vp:dY (i::is)=if 0<=i/\i<256 then(dY is).map (SL i.toNat:: ·) else none:=rfl
theorem BM:ints? (v::vs)=(aM v).bind λ i=>(ints? vs).map (i:: ·):=rfl
end
end Mine
end
section
namespace Mine
noncomputable def gr:Fn:=⟨3,[],3,
 (.cons (.EX (.F4 true (.cons (.cmp .gt (.var 2) (.lit (.int 0))) (.cons (.cmp .eq (.bin .mod (.var 1) (.lit (.int 10))) (.lit (.int 0))) .nil))) (.cons (.asg (.one 1) (.bin .div (.var 1) (.lit (.int 10)))) (.cons (.asg (.one 2) (.bin .sub (.var 2) (.lit (.int 1)))) .nil))) (.cons (.EK (.var 0) 0 (.var 1)) (.cons (.EK (.var 0) 1 (.var 2)) .nil)))⟩
noncomputable def je:Fn:=⟨1,[],1,
 (.cons (.ret (.tup (.cons (.attr (.var 0) 0) (.cons (.attr (.var 0) 1) .nil)))) .nil)⟩
noncomputable def pg:Fn:=⟨1,[],1,
 (.cons (.EF (.cmp .eq (.var 0) (.lit (.int 0))) (.cons (.ret (.lit (.int 0))) .nil) .nil) (.cons (.ret (.EF (.cmp .gt (.var 0) (.lit (.int 0))) (.lit (.int 1)) (.neg (.lit (.int 1))))) .nil))⟩
noncomputable def fZ:Fn:=⟨2,[],3,
 (.cons (.asg (.one 2) (.bin .div (.bin .add (.bin .mul (.lit (.int 2)) (.abs (.var 0))) (.abs (.var 1))) (.bin .mul (.lit (.int 2)) (.abs (.var 1))))) (.cons (.ret (.bin .mul (.bin .mul (.var 2) (.call 2 (.cons (.var 0) .nil))) (.call 2 (.cons (.var 1) .nil)))) .nil))⟩
noncomputable def gT:Fn:=⟨1,[],1,
 (.cons (.EF (.Fd (.var 0) (.cls 0)) (.cons (.ret (.var 0)) .nil) .nil) (.cons (.EF (.F4 false (.cons (.Fd (.var 0) .tbool) (.cons (.not (.Fd (.var 0) .tint)) .nil))) (.cons .dead .nil) .nil) (.cons (.ret (.new 0 (.cons (.var 0) (.cons (.lit (.int 0)) .nil)))) .nil)))⟩
noncomputable def ja:Fn:=⟨2,[],5,
 (.cons (.asg (.one 2) (.call 4 (.cons (.var 0) .nil))) (.cons (.asg (.one 3) (.call 4 (.cons (.var 1) .nil))) (.cons (.asg (.one 4) (.max2 (.attr (.var 2) 1) (.attr (.var 3) 1))) (.cons (.ret (.tup (.cons (.bin .mul (.attr (.var 2) 0) (.bin .pow (.lit (.int 10)) (.bin .sub (.var 4) (.attr (.var 2) 1)))) (.cons (.bin .mul (.attr (.var 3) 0) (.bin .pow (.lit (.int 10)) (.bin .sub (.var 4) (.attr (.var 3) 1)))) (.cons (.var 4) .nil))))) .nil))))⟩
noncomputable def wn:Fn:=⟨3,[],6,
 (.cons (.asg (.many [3,4,5]) (.call 5 (.cons (.var 0) (.cons (.var 1) .nil)))) (.cons (.EF (.cmp .eq (.var 4) (.lit (.int 0))) (.cons .dead .nil) .nil) (.cons (.ret (.new 0 (.cons (.call 3 (.cons (.bin .mul (.var 3) (.bin .pow (.lit (.int 10)) (.var 2))) (.cons (.var 4) .nil))) (.cons (.var 2) .nil)))) .nil)))⟩
noncomputable def gU:Fn:=⟨2,[],4,
 (.cons (.asg (.one 2) (.abs (.var 0))) (.cons (.asg (.one 3) (.abs (.var 1))) (.cons (.EX (.cmp .gt (.var 3) (.lit (.int 0))) (.cons (.asg (.many [2,3]) (.tup (.cons (.var 3) (.cons (.bin .mod (.var 2) (.var 3)) .nil)))) .nil)) (.cons (.ret (.var 2)) .nil))))⟩
noncomputable def m9:Fn:=⟨2,[],2,
 (.cons (.EK (.var 0) 2 (.var 1)) .nil)⟩
noncomputable def ku:Fn:=⟨3,[],3,
 (.cons (.EK (.var 0) 5 (.var 1)) (.cons (.EK (.var 0) 3 (.var 2)) .nil))⟩
noncomputable def iw:Fn:=⟨3,[],3,
 (.cons (.EK (.var 0) 6 (.var 1)) (.cons (.EK (.var 0) 7 (.var 2)) .nil))⟩
noncomputable def bJ:Fn:=⟨1,[],1,
 (.cons (.EF (.Gc (.var 0)) (.cons (.ret (.lit (.str "null"))) .nil) .nil) (.cons (.EF (.Fd (.var 0) .tbool) (.cons (.ret (.lit (.str "truth"))) .nil) .nil) (.cons (.EF (.Fd (.var 0) .tint) (.cons (.ret (.lit (.str "int"))) .nil) .nil) (.cons (.EF (.Fd (.var 0) (.cls 0)) (.cons (.ret (.lit (.str "real"))) .nil) .nil) (.cons (.EF (.Fd (.var 0) (.cls 1)) (.cons (.ret (.lit (.str "name"))) .nil) .nil) (.cons (.EF (.Fd (.var 0) (.cls 2)) (.cons (.ret (.lit (.str "string"))) .nil) .nil) (.cons (.EF (.Fd (.var 0) .tlist) (.cons (.ret (.lit (.str "array"))) .nil) .nil) (.cons (.EF (.Fd (.var 0) .tdict) (.cons (.ret (.lit (.str "dict"))) .nil) .nil) (.cons (.EF (.Fd (.var 0) (.cls 3)) (.cons (.ret (.lit (.str "stream"))) .nil) .nil) (.cons (.EF (.Fd (.var 0) (.cls 4)) (.cons (.ret (.lit (.str "ref"))) .nil) .nil) (.cons .dead .nil)))))))))))⟩
noncomputable def iM:Fn:=⟨1,[],1,
 (.cons (.ret (.cmp .isin (.call 11 (.cons (.var 0) .nil)) (.tup (.cons (.lit (.str "int")) (.cons (.lit (.str "real")) .nil))))) .nil)⟩
noncomputable def cO:Fn:=⟨2,[],2,
 (.cons (.EF (.cmp .eq (.var 0) (.lit (.str "null"))) (.cons (.ret (.tup (.cons (.lit (.str "null")) .nil))) .nil) .nil) (.cons (.EF (.cmp .eq (.var 0) (.lit (.str "truth"))) (.cons (.ret (.tup (.cons (.lit (.str "truth")) (.cons (.EF (.var 1) (.lit (.int 1)) (.lit (.int 0))) .nil)))) .nil) .nil) (.cons (.EF (.cmp .eq (.var 0) (.lit (.str "int"))) (.cons (.ret (.tup (.cons (.lit (.str "int")) (.cons (.var 1) .nil)))) .nil) .nil) (.cons (.EF (.cmp .eq (.var 0) (.lit (.str "real"))) (.cons (.ret (.tup (.cons (.lit (.str "real")) (.cons (.attr (.var 1) 0) (.cons (.attr (.var 1) 1) .nil))))) .nil) .nil) (.cons (.EF (.cmp .eq (.var 0) (.lit (.str "name"))) (.cons (.ret (.tup (.cons (.lit (.str "name")) (.cons (.attr (.var 1) 2) .nil)))) .nil) .nil) (.cons (.EF (.cmp .eq (.var 0) (.lit (.str "string"))) (.cons (.ret (.tup (.cons (.lit (.str "string")) (.cons (.bytesOf (.attr (.var 1) 3)) .nil)))) .nil) .nil) (.cons (.ret (.tup (.cons (.lit (.str "ref")) (.cons (.attr (.var 1) 6) (.cons (.attr (.var 1) 7) .nil))))) .nil)))))))⟩
noncomputable def eB:Fn:=⟨1,[],4,
 (.cons (.asg (.one 1) (.call 11 (.cons (.var 0) .nil))) (.cons (.EF (.cmp .eq (.var 1) (.lit (.str "array"))) (.cons (.ret (.bin .add (.tup (.cons (.lit (.str "array")) .nil)) (.Fa (.comp false (.cls (.one 2) (.it (.var 0)) .nil (.last (.call 14 (.cons (.var 2) .nil)))))))) .nil) .nil) (.cons (.EF (.cmp .eq (.var 1) (.lit (.str "dict"))) (.cons (.ret (.bin .add (.tup (.cons (.lit (.str "dict")) .nil)) (.Fa (.comp false (.cls (.one 3) (.it (.sorted (.var 0))) (.cons (.FM (.sub (.var 0) (.var 3))) .nil) (.last (.tup (.cons (.var 3) (.cons (.call 14 (.cons (.sub (.var 0) (.var 3)) .nil)) .nil))))))))) .nil) .nil) (.cons (.EF (.cmp .eq (.var 1) (.lit (.str "stream"))) (.cons (.ret (.tup (.cons (.lit (.str "stream")) (.cons (.call 14 (.cons (.attr (.var 0) 5) .nil)) (.cons (.bytesOf (.attr (.var 0) 3)) .nil))))) .nil) .nil) (.cons (.ret (.call 13 (.cons (.var 1) (.cons (.var 0) .nil)))) .nil)))))⟩
noncomputable def qM:Fn:=⟨3,[.none,.none],3,
 (.cons (.EK (.var 0) 8 (.EF (.Gc (.var 1)) .GL (.var 1))) (.cons (.EK (.var 0) 9 (.EF (.Gc (.var 2)) (.Gq false [] .nil) (.var 2))) .nil))⟩
noncomputable def jd:Fn:=⟨2,[],6,
 (.cons (.asg (.one 2) (.var 1)) (.cons (.E3 (.one 3) (.Fy (.cons (.glob 0) .nil)) (.cons (.EF (.not (.Fd (.var 2) (.cls 4))) (.cons (.ret (.var 2)) .nil) .nil) (.cons (.asg (.many [4,5]) (.FP (.attr (.var 0) 8) (.attr (.var 2) 6) (.tup (.cons (.neg (.lit (.int 1))) (.cons (.lit .none) .nil))))) (.cons (.EF (.cmp .ne (.var 4) (.attr (.var 2) 7)) (.cons (.ret (.lit .none)) .nil) .nil) (.cons (.asg (.one 2) (.var 5)) .nil))))) (.cons (.ret (.EF (.Fd (.var 2) (.cls 4)) (.lit .none) (.var 2))) .nil)))⟩
noncomputable def kA:Fn:=⟨3,[],3,
 (.cons (.ret (.EL (.var 0) 1 (.cons (.GK (.var 1) (.var 2)) .nil))) .nil)⟩
noncomputable def lJ:Fn:=⟨2,[],3,
 (.cons (.asg (.one 2) (.lit (.int 1))) (.cons (.EX (.cmp .isin (.var 2) (.attr (.var 0) 8)) (.cons (.asg (.one 2) (.bin .add (.var 2) (.lit (.int 1)))) .nil)) (.cons (.E1 (.attr (.var 0) 8) (.var 2) (.tup (.cons (.lit (.int 0)) (.cons (.var 1) .nil)))) (.cons (.ret (.new 4 (.cons (.var 2) (.cons (.lit (.int 0)) .nil)))) .nil))))⟩
noncomputable def iu:Fn:=⟨1,[],1,
 (.cons (.ret (.sorted (.attr (.var 0) 8))) .nil)⟩
noncomputable def kz:Fn:=⟨1,[],3,
 (.cons (.asg (.one 1) (.Fa (.comp false (.cls (.one 2) (.it (.EL (.var 0) 4 .nil)) .nil (.last (.tup (.cons (.var 2) (.cons (.sub (.sub (.attr (.var 0) 8) (.var 2)) (.lit (.int 0))) (.cons (.call 14 (.cons (.sub (.sub (.attr (.var 0) 8) (.var 2)) (.lit (.int 1))) .nil)) .nil))))))))) (.cons (.ret (.tup (.cons (.var 1) (.cons (.call 14 (.cons (.attr (.var 0) 9) .nil)) .nil)))) .nil))⟩
noncomputable def lI:Fn:=⟨8,[.none,(.bytes []),(.int 0),.none,(.tup [])],8,
 (.cons (.EK (.var 0) 10 (.var 1)) (.cons (.EK (.var 0) 11 (.var 2)) (.cons (.EK (.var 0) 12 (.var 3)) (.cons (.EK (.var 0) 8 (.var 4)) (.cons (.EK (.var 0) 13 (.var 5)) (.cons (.EK (.var 0) 14 (.var 6)) (.cons (.EK (.var 0) 15 (.var 7)) .nil)))))))⟩
noncomputable def ip:Fn:=⟨0,[],0,
 (.cons (.ret (.Gq false ["DeviceGray","DeviceRGB","DeviceCMYK"] (.cons (.lit (.int 1)) (.cons (.lit (.int 3)) (.cons (.lit (.int 4)) .nil))))) .nil)⟩
noncomputable def i9:Fn:=⟨1,[],1,
 (.cons (.ret (.new 6 (.cons (.var 0) (.cons (.sub (.call 22 .nil) (.var 0)) .nil)))) .nil)⟩
noncomputable def kx:Fn:=⟨4,[],4,
 (.cons (.EK (.var 0) 16 (.var 1)) (.cons (.EK (.var 0) 17 (.var 2)) (.cons (.EK (.var 0) 18 (.var 3)) .nil)))⟩
noncomputable def jc:Fn:=⟨2,[],2,
 (.cons (.ret (.EL (.attr (.var 0) 16) 1 (.cons (.var 1) .nil))) .nil)⟩
noncomputable def jb:Fn:=⟨2,[],3,
 (.cons (.asg (.one 2) (.EL (.attr (.var 0) 16) 2 (.cons (.attr (.var 0) 17) (.cons (.lit (.str "ColorSpace")) .nil)))) (.cons (.ret (.EF (.Fd (.var 2) .tdict) (.EL (.attr (.var 0) 16) 2 (.cons (.var 2) (.cons (.var 1) .nil))) (.lit .none))) .nil))⟩
noncomputable def m4:Fn:=⟨4,[.none],4,
 (.cons (.ret (.call 28 (.cons (.new 7 (.cons (.var 0) (.cons (.var 1) (.cons (.var 3) .nil)))) (.cons (.var 2) (.cons (.glob 1) .nil))))) .nil)⟩
noncomputable def i8:Fn:=⟨3,[],5,
 (.cons (.asg (.one 3) (.EL (.var 0) 1 (.cons (.var 1) .nil))) (.cons (.EF (.cmp .eq (.var 2) (.lit (.int 0))) (.cons (.EJ (.cons (.lit (.str "colour spaces within one another too deep")) .nil)) .nil) .nil) (.cons (.EF (.Fd (.var 3) (.cls 1)) (.cons (.ret (.call 29 (.cons (.var 0) (.cons (.attr (.var 3) 2) (.cons (.var 2) .nil))))) .nil) .nil) (.cons .dead .nil))))⟩
noncomputable def il:Fn:=⟨3,[],4,
 (.cons (.EF (.cmp .isin (.var 1) (.call 22 .nil)) (.cons (.ret (.call 30 (.cons (.var 0) (.cons (.var 1) (.cons (.var 2) .nil))))) .nil) .nil) (.cons .dead .nil))⟩
noncomputable def iq:Fn:=⟨3,[],5,
 (.cons (.asg (.one 3) (.EL (.var 0) 5 (.cons (.bin .add (.lit (.str "Default")) (.slice (.var 1) (.yes (.len (.lit (.str "Device")))) .no)) .nil))) (.cons (.EF (.Gc (.var 3)) (.cons (.ret (.call 23 (.cons (.var 1) .nil))) .nil) .nil) (.cons .dead .nil)))⟩
noncomputable def m6:Fn:=⟨2,[],2,
 (.cons (.ret (.bin .band (.var 0) (.bin .sub (.bin .shl (.lit (.int 1)) (.var 1)) (.lit (.int 1))))) .nil)⟩
noncomputable def gW:Fn:=⟨2,[],2,
 (.cons (.EK (.var 0) 19 (.var 1)) (.cons (.EK (.var 0) 20 (.lit (.int 0))) (.cons (.EK (.var 0) 21 (.lit (.int 0))) (.cons (.EK (.var 0) 11 (.lit (.int 0))) .nil))))⟩
noncomputable def gz:Fn:=⟨1,[],1,
 (.cons (.ret (.bin .add (.attr (.var 0) 11) (.bin .mul (.glob 2) (.bin .sub (.len (.attr (.var 0) 19)) (.attr (.var 0) 20))))) .nil)⟩
noncomputable def gy:Fn:=⟨2,[],3,
 (.cons (.EF (.cmp .lt (.EL (.var 0) 6 .nil) (.var 1)) (.cons .dead .nil) .nil) (.cons (.EX (.cmp .lt (.attr (.var 0) 11) (.var 1)) (.cons (.EK (.var 0) 21 (.bin .bor (.bin .shl (.attr (.var 0) 21) (.glob 2)) (.sub (.attr (.var 0) 19) (.attr (.var 0) 20)))) (.cons (.EK (.var 0) 20 (.bin .add (.attr (.var 0) 20) (.lit (.int 1)))) (.cons (.EK (.var 0) 11 (.bin .add (.attr (.var 0) 11) (.glob 2))) .nil)))) (.cons (.EK (.var 0) 11 (.bin .sub (.attr (.var 0) 11) (.var 1))) (.cons (.asg (.one 2) (.bin .shr (.attr (.var 0) 21) (.attr (.var 0) 11))) (.cons (.EK (.var 0) 21 (.call 31 (.cons (.attr (.var 0) 21) (.cons (.attr (.var 0) 11) .nil)))) (.cons (.ret (.var 2)) .nil))))))⟩
noncomputable def ph:Fn:=⟨3,[],5,
 (.cons (.asg (.one 3) (.new 8 (.cons (.var 0) .nil))) (.cons (.ret (.comp false (.cls (.one 4) (.Fy (.cons (.var 2) .nil)) .nil (.last (.EL (.var 3) 7 (.cons (.var 1) .nil)))))) .nil))⟩
noncomputable def j6:Fn:=⟨5,[],5,
 (.cons (.EK (.var 0) 22 (.var 1)) (.cons (.EK (.var 0) 23 (.var 2)) (.cons (.EK (.var 0) 24 (.var 3)) (.cons (.EK (.var 0) 11 (.var 4)) .nil))))⟩
noncomputable def ff:Fn:=⟨1,[],1,
 (.cons (.ret (.bin .div (.bin .add (.bin .mul (.bin .mul (.attr (.var 0) 22) (.attr (.var 0) 11)) (.attr (.var 0) 24)) (.lit (.int 7))) (.lit (.int 8)))) .nil)⟩
noncomputable def j5:Fn:=⟨1,[],1,
 (.cons (.ret (.bin .sub (.bin .shl (.lit (.int 1)) (.attr (.var 0) 24)) (.lit (.int 1)))) .nil)⟩
noncomputable def kt:Fn:=⟨2,[],3,
 (.cons (.ret (.comp false (.cls (.one 2) (.Fy (.cons (.lit (.int 0)) (.cons (.len (.var 0)) (.cons (.var 1) .nil)))) .nil (.last (.Fa (.slice (.var 0) (.yes (.var 2)) (.yes (.bin .add (.var 2) (.var 1))))))))) .nil)⟩
noncomputable def gq:Fn:=⟨2,[],6,
 (.cons (.asg (.one 2) (.EL (.var 1) 8 .nil)) (.cons (.EF (.cmp .lt (.len (.var 0)) (.bin .mul (.var 2) (.attr (.var 1) 23))) (.cons (.EJ (.cons (.lit (.str "an image with too few octets")) (.cons (.len (.var 0)) .nil))) .nil) .nil) (.cons (.asg (.one 3) (.lst true .nil)) (.cons (.E3 (.one 4) (.Fy (.cons (.attr (.var 1) 23) .nil)) (.cons (.asg (.one 5) (.slice (.var 0) (.yes (.bin .mul (.var 2) (.var 4))) (.yes (.bin .mul (.var 2) (.bin .add (.var 4) (.lit (.int 1))))))) (.cons (.app (.var 3) (.call 39 (.cons (.call 35 (.cons (.var 5) (.cons (.attr (.var 1) 24) (.cons (.bin .mul (.attr (.var 1) 22) (.attr (.var 1) 11)) .nil)))) (.cons (.attr (.var 1) 11) .nil)))) .nil))) (.cons (.ret (.freeze (.var 3))) .nil)))))⟩
noncomputable def jW:Fn:=⟨3,[],7,
 (.cons (.EF (.F4 false (.cons (.cmp .lt (.var 1) (.lit (.int 1))) (.cons (.cmp .lt (.var 2) (.lit (.int 1))) .nil))) (.cons (.EJ (.cons (.lit (.str "an image without pixels")) .nil)) .nil) .nil) (.cons (.asg (.one 3) (.lst true .nil)) (.cons (.E3 (.one 4) (.Fy (.cons (.var 2) .nil)) (.cons (.asg (.one 5) (.sub (.var 0) (.bin .div (.bin .mul (.bin .add (.bin .mul (.lit (.int 2)) (.var 4)) (.lit (.int 1))) (.len (.var 0))) (.bin .mul (.lit (.int 2)) (.var 2))))) (.cons (.app (.var 3) (.comp false (.cls (.one 6) (.Fy (.cons (.var 1) .nil)) .nil (.last (.sub (.var 5) (.bin .div (.bin .mul (.bin .add (.bin .mul (.lit (.int 2)) (.var 6)) (.lit (.int 1))) (.len (.var 5))) (.bin .mul (.lit (.int 2)) (.var 1)))))))) .nil))) (.cons (.ret (.freeze (.var 3))) .nil))))⟩
noncomputable def ir:Fn:=⟨4,[],11,
 (.cons (.asg (.many [8,9,10]) (.call 5 (.cons (.var 2) (.cons (.var 3) .nil)))) (.cons (.asg (.one 4) (.bin .sub (.bin .shl (.lit (.int 1)) (.var 1)) (.lit (.int 1)))) (.cons (.asg (.one 5) (.bin .add (.bin .mul (.var 8) (.bin .sub (.var 4) (.var 0))) (.bin .mul (.var 9) (.var 0)))) (.cons (.asg (.one 6) (.bin .mul (.var 4) (.bin .pow (.lit (.int 10)) (.var 10)))) (.cons (.asg (.one 7) (.call 7 (.cons (.var 5) (.cons (.var 6) .nil)))) (.cons (.ret (.tup (.cons (.bin .div (.var 5) (.var 7)) (.cons (.bin .div (.var 6) (.var 7)) .nil)))) .nil))))))⟩
noncomputable def gS:Fn:=⟨5,[],7,
 (.cons (.asg (.many [5,6]) (.call 42 (.cons (.var 0) (.cons (.var 1) (.cons (.var 2) (.cons (.var 3) .nil)))))) (.cons (.ret (.call 6 (.cons (.var 5) (.cons (.var 6) (.cons (.var 4) .nil))))) .nil))⟩
noncomputable def gR:Fn:=⟨2,[],3,
 (.cons (.ret (.comp false (.cls (.one 2) (.Fy (.cons (.attr (.var 0) 11) .nil)) .nil (.last (.tup (.cons (.lit (.int 0)) (.cons (.EF (.var 1) (.EL (.var 0) 9 .nil) (.lit (.int 1))) .nil))))))) .nil)⟩
noncomputable def io:Fn:=⟨4,[],6,
 (.cons (.ret (.comp false (.cls (.many [4,5]) (.zip (.var 0) (.var 2)) .nil (.last (.call 43 (.cons (.var 4) (.cons (.var 1) (.cons (.sub (.var 5) (.lit (.int 0))) (.cons (.sub (.var 5) (.lit (.int 1))) (.cons (.var 3) .nil)))))))))) .nil)⟩
noncomputable def m7:Fn:=⟨2,[],4,
 (.cons (.E3 (.many [2,3]) (.zip (.var 0) (.var 1)) (.cons (.EF (.not (.FC (.sub (.var 3) (.lit (.int 0))) .le (.var 2) .le (.sub (.var 3) (.lit (.int 1))))) (.cons (.ret (.lit (.bool false))) .nil) .nil) .nil)) (.cons (.ret (.lit (.bool true))) .nil))⟩
noncomputable def fL:Fn:=⟨2,[],5,
 (.cons (.asg (.one 2) (.EF (.cmp .eq (.var 1) (.lit (.int 0))) (.lit (.int 0)) (.lit (.int 1)))) (.cons (.ret (.comp false (.cls (.one 3) (.it (.var 0)) .nil (.last (.comp false (.cls (.one 4) (.it (.var 3)) .nil (.last (.cmp .eq (.sub (.var 4) (.lit (.int 0))) (.var 2))))))))) .nil))⟩
noncomputable def ik:Fn:=⟨1,[],3,
 (.cons (.ret (.comp false (.cls (.one 1) (.it (.var 0)) .nil (.last (.comp false (.cls (.one 2) (.it (.var 1)) .nil (.last (.new 0 (.cons (.intOf (.var 2)) (.cons (.lit (.int 0)) .nil)))))))))) .nil)⟩
noncomputable def ju:Fn:=⟨3,[],4,
 (.cons (.asg (.one 3) (.EL (.var 0) 2 (.cons (.var 1) (.cons (.var 2) .nil)))) (.cons (.EF (.F4 false (.cons (.Fd (.var 3) .tbool) (.cons (.not (.Fd (.var 3) .tint)) (.cons (.cmp .lt (.var 3) (.lit (.int 1))) .nil)))) (.cons (.EJ (.cons (.bin .add (.lit (.str "an image without a right ")) (.var 2)) .nil)) .nil) .nil) (.cons (.ret (.var 3)) .nil)))⟩
noncomputable def kq:Fn:=⟨2,[],3,
 (.cons (.asg (.one 2) (.EL (.var 0) 2 (.cons (.var 1) (.cons (.lit (.str "ImageMask")) .nil)))) (.cons (.ret (.F4 true (.cons (.Fd (.var 2) .tbool) (.cons (.var 2) .nil)))) .nil))⟩
noncomputable def jv:Fn:=⟨2,[],3,
 (.cons (.EF (.F4 true (.cons (.call 50 (.cons (.var 0) (.cons (.var 1) .nil))) (.cons (.Gc (.EL (.var 0) 2 (.cons (.var 1) (.cons (.lit (.str "BitsPerComponent")) .nil)))) .nil))) (.cons (.ret (.lit (.int 1))) .nil) .nil) (.cons (.asg (.one 2) (.call 49 (.cons (.var 0) (.cons (.var 1) (.cons (.lit (.str "BitsPerComponent")) .nil))))) (.cons (.EF (.F4 false (.cons (.cmp .notin (.var 2) (.glob 3)) (.cons (.F4 true (.cons (.call 50 (.cons (.var 0) (.cons (.var 1) .nil))) (.cons (.cmp .ne (.var 2) (.lit (.int 1))) .nil))) .nil))) (.cons (.EJ (.cons (.lit (.str "an image without a right BitsPerComponent")) .nil)) .nil) .nil) (.cons (.ret (.var 2)) .nil))))⟩
noncomputable def gF:Fn:=⟨3,[],3,
 (.cons (.ret (.new 9 (.cons (.call 49 (.cons (.var 0) (.cons (.var 1) (.cons (.lit (.str "Width")) .nil)))) (.cons (.call 49 (.cons (.var 0) (.cons (.var 1) (.cons (.lit (.str "Height")) .nil)))) (.cons (.call 51 (.cons (.var 0) (.cons (.var 1) .nil))) (.cons (.var 2) .nil)))))) .nil)⟩
noncomputable def cP:Fn:=⟨4,[],9,
 (.cons (.asg (.one 4) (.EL (.var 0) 2 (.cons (.var 1) (.cons (.lit (.str "Decode")) .nil)))) (.cons (.EF (.Gc (.var 4)) (.cons (.ret (.call 44 (.cons (.var 2) (.cons (.var 3) .nil)))) .nil) .nil) (.cons (.EF (.F4 false (.cons (.not (.Fd (.var 4) .tlist)) (.cons (.cmp .ne (.len (.var 4)) (.bin .mul (.lit (.int 2)) (.attr (.var 2) 11))) .nil))) (.cons (.EJ (.cons (.lit (.str "a Decode of another length")) .nil)) .nil) .nil) (.cons (.asg (.one 5) (.comp false (.cls (.one 6) (.it (.var 4)) .nil (.last (.EL (.var 0) 1 (.cons (.var 6) .nil)))))) (.cons (.EF (.cmp .ne (.comp false (.cls (.one 7) (.it (.var 5)) (.cons (.not (.call 12 (.cons (.var 7) .nil))) .nil) (.last (.var 7)))) (.lst false .nil)) (.cons (.EJ (.cons (.lit (.str "a Decode that is no row of numbers")) .nil)) .nil) .nil) (.cons (.ret (.comp false (.cls (.one 8) (.Fy (.cons (.lit (.int 0)) (.cons (.len (.var 5)) (.cons (.lit (.int 2)) .nil)))) .nil (.last (.tup (.cons (.sub (.var 5) (.var 8)) (.cons (.sub (.var 5) (.bin .add (.var 8) (.lit (.int 1)))) .nil))))))) .nil))))))⟩
noncomputable def jX:Fn:=⟨4,[],6,
 (.cons (.EF (.call 50 (.cons (.var 0) (.cons (.var 2) .nil))) (.cons (.ret (.lit .none)) .nil) .nil) (.cons (.asg (.one 4) (.EL (.var 0) 2 (.cons (.var 2) (.cons (.lit (.str "ColorSpace")) .nil)))) (.cons (.EF (.Gc (.var 4)) (.cons (.EJ (.cons (.lit (.str "an image without a colour space")) .nil)) .nil) .nil) (.cons (.asg (.one 5) (.call 27 (.cons (.var 0) (.cons (.var 1) (.cons (.var 4) (.cons (.var 3) .nil)))))) (.cons (.EF (.cmp .eq (.attr (.var 5) 10) (.lit (.str "Pattern"))) (.cons (.EJ (.cons (.lit (.str "an image of patterns")) .nil)) .nil) .nil) (.cons (.ret (.var 5)) .nil))))))⟩
noncomputable def jY:Fn:=⟨4,[],5,
 (.cons (.asg (.one 4) (.call 54 (.cons (.var 0) (.cons (.var 1) (.cons (.var 2) (.cons (.var 3) .nil)))))) (.cons (.EF (.Gc (.var 4)) (.cons (.ret (.tup (.cons (.call 52 (.cons (.var 0) (.cons (.var 2) (.cons (.lit (.int 1)) .nil)))) (.cons (.lit (.bool false)) .nil)))) .nil) .nil) (.cons (.ret (.tup (.cons (.call 52 (.cons (.var 0) (.cons (.var 2) (.cons (.attr (.var 4) 11) .nil)))) (.cons (.cmp .eq (.attr (.var 4) 10) (.lit (.str "Indexed"))) .nil)))) .nil)))⟩
noncomputable def kr:Fn:=⟨4,[],6,
 (.cons (.asg (.many [4,5]) (.call 55 (.cons (.var 0) (.cons (.var 1) (.cons (.attr (.var 2) 5) (.cons (.var 3) .nil)))))) (.cons (.ret (.call 40 (.cons (.Fw 3 (.cons (.var 0) (.cons (.var 2) .nil))) (.cons (.var 4) .nil)))) .nil))⟩
noncomputable def ko:Fn:=⟨3,[],7,
 (.cons (.asg (.one 3) (.comp false (.cls (.one 5) (.it (.var 1)) .nil (.last (.EL (.var 0) 1 (.cons (.var 5) .nil)))))) (.cons (.EF (.cmp .ne (.len (.var 3)) (.bin .mul (.lit (.int 2)) (.attr (.var 2) 11))) (.cons (.EJ (.cons (.lit (.str "a Mask of another length")) .nil)) .nil) .nil) (.cons (.E3 (.one 4) (.it (.var 3)) (.cons (.EF (.F4 false (.cons (.Fd (.var 4) .tbool) (.cons (.not (.Fd (.var 4) .tint)) (.cons (.not (.FC (.lit (.int 0)) .le (.var 4) .le (.EL (.var 2) 9 .nil))) .nil)))) (.cons (.EJ (.cons (.lit (.str "a Mask beyond the samples")) .nil)) .nil) .nil) .nil)) (.cons (.ret (.comp false (.cls (.one 6) (.Fy (.cons (.lit (.int 0)) (.cons (.len (.var 3)) (.cons (.lit (.int 2)) .nil)))) .nil (.last (.tup (.cons (.sub (.var 3) (.var 6)) (.cons (.sub (.var 3) (.bin .add (.var 6) (.lit (.int 1)))) .nil))))))) .nil))))⟩
noncomputable def d7:Fn:=⟨3,[],7,
 (.cons (.EF (.not (.call 50 (.cons (.var 0) (.cons (.attr (.var 1) 5) .nil)))) (.cons (.EJ (.cons (.lit (.str "no image mask")) .nil)) .nil) .nil) (.cons (.asg (.one 3) (.call 52 (.cons (.var 0) (.cons (.attr (.var 1) 5) (.cons (.lit (.int 1)) .nil))))) (.cons (.asg (.many [4,5]) (.comp false (.cls (.one 6) (.it (.sub (.call 53 (.cons (.var 0) (.cons (.attr (.var 1) 5) (.cons (.var 3) (.cons (.lit (.bool false)) .nil))))) (.lit (.int 0)))) .nil (.last (.EL (.call 4 (.cons (.var 6) .nil)) 0 .nil))))) (.cons (.EF (.cmp .notin (.tup (.cons (.var 4) (.cons (.var 5) .nil))) (.tup (.cons (.tup (.cons (.tup (.cons (.lit (.int 0)) (.cons (.lit (.int 0)) .nil))) (.cons (.tup (.cons (.lit (.int 1)) (.cons (.lit (.int 0)) .nil))) .nil))) (.cons (.tup (.cons (.tup (.cons (.lit (.int 1)) (.cons (.lit (.int 0)) .nil))) (.cons (.tup (.cons (.lit (.int 0)) (.cons (.lit (.int 0)) .nil))) .nil))) .nil)))) (.cons (.EJ (.cons (.lit (.str "a mask with another Decode")) .nil)) .nil) .nil) (.cons (.ret (.call 47 (.cons (.call 40 (.cons (.Fw 2 (.cons (.var 0) (.cons (.var 1) .nil))) (.cons (.var 3) .nil))) (.cons (.sub (.var 4) (.lit (.int 0))) .nil)))) .nil)))))⟩
noncomputable def cI:Fn:=⟨4,[],9,
 (.cons (.asg (.one 4) (.call 52 (.cons (.var 0) (.cons (.attr (.var 1) 5) (.cons (.lit (.int 1)) .nil))))) (.cons (.asg (.one 5) (.call 53 (.cons (.var 0) (.cons (.attr (.var 1) 5) (.cons (.var 4) (.cons (.lit (.bool false)) .nil)))))) (.cons (.asg (.one 6) (.call 40 (.cons (.Fw 2 (.cons (.var 0) (.cons (.var 1) .nil))) (.cons (.var 4) .nil)))) (.cons (.ret (.comp false (.cls (.one 7) (.it (.var 6)) .nil (.last (.comp false (.cls (.one 8) (.it (.var 7)) .nil (.last (.sub (.call 45 (.cons (.var 8) (.cons (.attr (.var 4) 24) (.cons (.var 5) (.cons (.var 3) .nil))))) (.lit (.int 0)))))))))) .nil))))⟩
noncomputable def bI:Fn:=⟨5,[],15,
 (.cons (.asg (.many [7,8]) (.call 55 (.cons (.var 0) (.cons (.var 1) (.cons (.attr (.var 2) 5) (.cons (.var 3) .nil)))))) (.cons (.asg (.one 5) (.EL (.var 0) 2 (.cons (.attr (.var 2) 5) (.cons (.lit (.str "SMask")) .nil)))) (.cons (.asg (.one 6) (.EL (.var 0) 2 (.cons (.attr (.var 2) 5) (.cons (.lit (.str "Mask")) .nil)))) (.cons (.EF (.Fd (.var 5) (.cls 3)) (.cons (.ret (.call 41 (.cons (.call 59 (.cons (.var 0) (.cons (.var 5) (.cons (.var 3) (.cons (.var 4) .nil))))) (.cons (.attr (.var 7) 22) (.cons (.attr (.var 7) 23) .nil))))) .nil) .nil) (.cons (.EF (.Fd (.var 6) (.cls 3)) (.cons (.ret (.call 48 (.cons (.call 41 (.cons (.call 58 (.cons (.var 0) (.cons (.var 6) (.cons (.var 3) .nil)))) (.cons (.attr (.var 7) 22) (.cons (.attr (.var 7) 23) .nil)))) .nil))) .nil) .nil) (.cons (.EF (.Fd (.var 6) .tlist) (.cons (.asg (.one 9) (.call 57 (.cons (.var 0) (.cons (.var 6) (.cons (.var 7) .nil))))) (.cons (.asg (.one 10) (.call 56 (.cons (.var 0) (.cons (.var 1) (.cons (.var 2) (.cons (.var 3) .nil)))))) (.cons (.ret (.call 48 (.cons (.comp false (.cls (.one 11) (.it (.var 10)) .nil (.last (.comp false (.cls (.one 12) (.it (.var 11)) .nil (.last (.not (.call 46 (.cons (.var 12) (.cons (.var 9) .nil)))))))))) .nil))) .nil))) .nil) (.cons (.ret (.comp false (.cls (.one 13) (.Fy (.cons (.attr (.var 7) 23) .nil)) .nil (.last (.comp false (.cls (.one 14) (.Fy (.cons (.attr (.var 7) 22) .nil)) .nil (.last (.new 0 (.cons (.lit (.int 1)) (.cons (.lit (.int 0)) .nil)))))))))) .nil)))))))⟩
noncomputable def lD:Fn:=⟨1,[],3,
 (.cons (.asg (.one 1) (.comp true (.cls (.one 2) (.it (.slice (.var 0) .no (.yes (.lit (.int 63))))) .nil (.last (.intOf (.var 2)))))) (.cons (.ret (.lst true (.cons (.var 1) (.cons (.lit (.int 0)) (.cons (.lit (.int 0)) (.cons (.bin .mod (.sum (.var 1)) (.lit (.int 1009))) .nil)))))) .nil))⟩
noncomputable def jw:Fn:=⟨2,[],3,
 (.cons (.EF (.F4 true (.cons (.cmp .eq (.sub (.var 0) (.lit (.int 1))) (.lit (.int 0))) (.cons (.cmp .ne (.sub (.var 0) (.lit (.int 0))) (.lst false .nil)) .nil))) (.cons (.E1 (.var 0) (.lit (.int 1)) (.abs (.Gy (.sub (.var 0) (.lit (.int 0)))))) .nil) .nil) (.cons (.asg (.one 2) (.bin .mod (.sub (.var 0) (.lit (.int 1))) (.var 1))) (.cons (.E1 (.var 0) (.lit (.int 1)) (.bin .div (.sub (.var 0) (.lit (.int 1))) (.var 1))) (.cons (.E1 (.var 0) (.lit (.int 2)) (.bin .add (.sub (.var 0) (.lit (.int 2))) (.lit (.int 1)))) (.cons (.ret (.bin .mod (.bin .add (.bin .add (.var 2) (.bin .mul (.sub (.var 0) (.lit (.int 2))) (.sub (.var 0) (.lit (.int 3))))) (.bin .div (.bin .mul (.sub (.var 0) (.lit (.int 2))) (.bin .add (.sub (.var 0) (.lit (.int 2))) (.lit (.int 1)))) (.lit (.int 2)))) (.var 1))) .nil)))))⟩
noncomputable def j4:Fn:=⟨3,[],3,
 (.cons (.ret (.EF (.cmp .eq (.call 62 (.cons (.var 0) (.cons (.lit (.int 3)) .nil))) (.lit (.int 0))) (.EL (.var 1) 3 (.cons (.var 2) .nil)) (.var 2))) .nil)⟩
noncomputable def lH:Fn:=⟨3,[],7,
 (.cons (.asg (.one 3) (.Gq true [] .nil)) (.cons (.E3 (.one 4) (.keys (.var 2)) (.cons (.asg (.one 5) (.sub (.var 2) (.var 4))) (.cons (.EF (.Fd (.var 5) .tlist) (.cons (.asg (.one 5) (.comp false (.cls (.one 6) (.it (.var 5)) .nil (.last (.call 63 (.cons (.var 0) (.cons (.var 1) (.cons (.var 6) .nil)))))))) .nil) .nil) (.cons (.E1 (.var 3) (.var 4) (.call 63 (.cons (.var 0) (.cons (.var 1) (.cons (.var 5) .nil))))) .nil)))) (.cons (.ret (.freeze (.var 3))) .nil)))⟩
noncomputable def j0:Fn:=⟨5,[],11,
 (.cons (.asg (.one 5) (.lst false (.cons (.lit (.int 0)) (.cons (.bin .sub (.bin .pow (.lit (.int 2)) (.var 3)) (.lit (.int 1))) (.cons (.lit (.int 1)) (.cons (.bin .div (.bin .pow (.lit (.int 2)) (.var 3)) (.lit (.int 2))) .nil)))))) (.cons (.asg (.one 6) (.lst true .nil)) (.cons (.E3 (.one 7) (.Fy (.cons (.var 2) .nil)) (.cons (.asg (.one 8) (.lst true .nil)) (.cons (.E3 (.one 9) (.Fy (.cons (.var 1) .nil)) (.cons (.app (.var 8) (.Fa (.comp false (.cls (.one 10) (.Fy (.cons (.var 4) .nil)) .nil (.last (.EF (.cmp .eq (.call 62 (.cons (.var 0) (.cons (.lit (.int 2)) .nil))) (.lit (.int 0))) (.sub (.var 5) (.call 62 (.cons (.var 0) (.cons (.lit (.int 4)) .nil)))) (.call 62 (.cons (.var 0) (.cons (.bin .pow (.lit (.int 2)) (.var 3)) .nil))))))))) .nil)) (.cons (.app (.var 6) (.freeze (.var 8))) .nil)))) (.cons (.ret (.freeze (.var 6))) .nil))))⟩
noncomputable def lG:Fn:=⟨2,[],11,
 (.cons (.asg (.one 2) (.lst false (.cons (.lit (.int 33)) .nil))) (.cons (.E3 (.one 3) (.it (.var 0)) (.cons (.asg (.many [6,9]) (.tup (.cons (.lit (.int 0)) (.cons (.lit (.int 0)) .nil)))) (.cons (.E3 (.one 4) (.it (.var 3)) (.cons (.E3 (.one 10) (.it (.var 4)) (.cons (.asg (.many [6,9]) (.tup (.cons (.bin .add (.bin .mul (.var 6) (.bin .pow (.lit (.int 2)) (.var 1))) (.var 10)) (.cons (.bin .add (.var 9) (.var 1)) .nil)))) .nil)) .nil)) (.cons (.asg (.one 5) (.bin .mod (.neg (.var 9)) (.lit (.int 8)))) (.cons (.asg (.one 6) (.bin .mul (.var 6) (.bin .pow (.lit (.int 2)) (.var 5)))) (.cons (.asg (.one 7) (.lst true .nil)) (.cons (.E3 (.one 8) (.Fy (.cons (.bin .div (.bin .add (.var 9) (.var 5)) (.lit (.int 8))) .nil)) (.cons (.app (.var 7) (.bin .mod (.var 6) (.lit (.int 256)))) (.cons (.asg (.one 6) (.bin .div (.var 6) (.lit (.int 256)))) .nil))) (.cons (.asg (.one 2) (.bin .add (.var 2) (.rev (.var 7)))) .nil)))))))) (.cons (.ret (.bytesOf (.var 2))) .nil)))⟩
noncomputable def lE:Fn:=⟨2,[],2,
 (.cons (.ret (.slice (.attr (.var 1) 3) (.yes (.lit (.int 1))) .no)) .nil)⟩
noncomputable def m8:Fn:=⟨1,[],3,
 (.cons (.asg (.many [1,2]) (.tup (.cons (.bin .sub (.call 62 (.cons (.var 0) (.cons (.lit (.int 30001)) .nil))) (.lit (.int 12000))) (.cons (.call 62 (.cons (.var 0) (.cons (.lit (.int 4)) .nil))) .nil)))) (.cons (.EF (.cmp .eq (.var 2) (.lit (.int 0))) (.cons (.ret (.tup (.cons (.bin .mul (.lit (.int 10000)) (.bin .sub (.bin .mod (.var 1) (.lit (.int 3))) (.lit (.int 1)))) (.cons (.bin .sub (.bin .mod (.var 1) (.lit (.int 3))) (.lit (.int 1))) .nil)))) .nil) .nil) (.cons (.ret (.EF (.cmp .eq (.var 2) (.lit (.int 1))) (.tup (.cons (.bin .mul (.lit (.int 5000)) (.bin .mod (.var 1) (.lit (.int 5)))) (.cons (.new 0 (.cons (.bin .mul (.lit (.int 5)) (.bin .mod (.var 1) (.lit (.int 5)))) (.cons (.lit (.int 1)) .nil))) .nil))) (.tup (.cons (.var 1) (.cons (.new 0 (.cons (.var 1) (.cons (.lit (.int 4)) .nil))) .nil))))) .nil)))⟩
noncomputable def lF:Fn:=⟨3,[],4,
 (.cons (.asg (.one 3) (.bin .div (.bin .add (.bin .mul (.bin .mul (.lit (.int 2)) (.abs (.var 0))) (.bin .pow (.lit (.int 10)) (.var 2))) (.var 1)) (.bin .mul (.lit (.int 2)) (.var 1)))) (.cons (.ret (.EL (.new 0 (.cons (.EF (.cmp .lt (.var 0) (.lit (.int 0))) (.neg (.var 3)) (.var 3)) (.cons (.var 2) .nil))) 0 .nil)) .nil))⟩
noncomputable def dn:Fn:=⟨4,[],17,
 (.cons (.asg (.many [8,9,10]) (.tup (.cons (.sub (.tup (.cons (.lit (.int 8)) (.cons (.lit (.int 1)) (.cons (.lit (.int 2)) (.cons (.lit (.int 4)) (.cons (.lit (.int 16)) .nil)))))) (.call 62 (.cons (.var 0) (.cons (.lit (.int 5)) .nil)))) (.cons (.bin .add (.lit (.int 1)) (.call 62 (.cons (.var 0) (.cons (.lit (.int 3)) .nil)))) (.cons (.bin .add (.lit (.int 1)) (.call 62 (.cons (.var 0) (.cons (.lit (.int 3)) .nil)))) .nil))))) (.cons (.asg (.one 4) (.call 65 (.cons (.var 0) (.cons (.var 9) (.cons (.var 10) (.cons (.var 8) (.cons (.lit (.int 1)) .nil))))))) (.cons (.asg (.one 5) (.Gq true ["Subtype","Width","Height","ColorSpace","BitsPerComponent"] (.cons (.new 1 (.cons (.lit (.str "Image")) .nil)) (.cons (.var 9) (.cons (.var 10) (.cons (.new 1 (.cons (.lit (.str "DeviceGray")) .nil)) (.cons (.var 8) .nil))))))) (.cons (.asg (.many [11,12]) (.tup (.cons (.tup (.cons (.lit (.int 0)) (.cons (.lit (.int 0)) .nil))) (.cons (.tup (.cons (.lit (.int 10000)) (.cons (.lit (.int 1)) .nil))) .nil)))) (.cons (.EF (.cmp .gt (.call 62 (.cons (.var 0) (.cons (.lit (.int 4)) .nil))) (.lit (.int 0))) (.cons (.asg (.many [11,12]) (.tup (.cons (.call 68 (.cons (.var 0) .nil)) (.cons (.call 68 (.cons (.var 0) .nil)) .nil)))) (.cons (.E1 (.var 5) (.lit (.str "Decode")) (.lst false (.cons (.sub (.var 11) (.lit (.int 1))) (.cons (.sub (.var 12) (.lit (.int 1))) .nil)))) .nil)) .nil) (.cons (.EF (.var 3) (.cons (.asg (.many [13,14]) (.sub (.tup (.cons (.tup (.cons (.lit (.str "Width")) (.cons (.lit (.int 0)) .nil))) (.cons (.tup (.cons (.lit (.str "Height")) (.cons (.bin .add (.var 10) (.lit (.int 1))) .nil))) (.cons (.tup (.cons (.lit (.str "BitsPerComponent")) (.cons (.lit (.int 3)) .nil))) (.cons (.tup (.cons (.lit (.str "Decode")) (.cons (.lst false (.cons (.lit (.int 0)) (.cons (.lit (.int 1)) (.cons (.lit (.int 1)) .nil)))) .nil))) (.cons (.tup (.cons (.lit (.str "Decode")) (.cons (.lst false (.cons (.lit (.int 0)) (.cons (.lit (.bool true)) .nil))) .nil))) (.cons (.tup (.cons (.lit (.str "Width")) (.cons (.lit (.bool true)) .nil))) .nil))))))) (.call 62 (.cons (.var 0) (.cons (.lit (.int 6)) .nil))))) (.cons (.E1 (.var 5) (.var 13) (.var 14)) .nil)) .nil) (.cons (.asg (.one 6) (.bin .sub (.bin .pow (.lit (.int 2)) (.var 8)) (.lit (.int 1)))) (.cons (.asg (.one 7) (.comp false (.cls (.one 15) (.it (.var 4)) .nil (.last (.comp false (.cls (.one 16) (.it (.var 15)) .nil (.last (.call 69 (.cons (.bin .add (.bin .mul (.sub (.var 11) (.lit (.int 0))) (.bin .sub (.var 6) (.sub (.var 16) (.lit (.int 0))))) (.bin .mul (.sub (.var 12) (.lit (.int 0))) (.sub (.var 16) (.lit (.int 0))))) (.cons (.bin .mul (.lit (.int 10000)) (.var 6)) (.cons (.var 2) .nil))))))))))) (.cons (.ret (.tup (.cons (.new 3 (.cons (.call 64 (.cons (.var 0) (.cons (.var 1) (.cons (.freeze (.var 5)) .nil)))) (.cons (.call 66 (.cons (.var 4) (.cons (.var 8) .nil))) .nil))) (.cons (.var 7) .nil)))) .nil)))))))))⟩
noncomputable def bx:Fn:=⟨3,[],14,
 (.cons (.asg (.many [8,9]) (.tup (.cons (.bin .add (.lit (.int 1)) (.call 62 (.cons (.var 0) (.cons (.lit (.int 4)) .nil)))) (.cons (.bin .add (.lit (.int 1)) (.call 62 (.cons (.var 0) (.cons (.lit (.int 3)) .nil)))) .nil)))) (.cons (.asg (.one 3) (.call 65 (.cons (.var 0) (.cons (.var 8) (.cons (.var 9) (.cons (.lit (.int 1)) (.cons (.lit (.int 1)) .nil))))))) (.cons (.asg (.one 4) (.Gq true ["ImageMask","Width","Height"] (.cons (.lit (.bool true)) (.cons (.var 8) (.cons (.var 9) .nil))))) (.cons (.EF (.cmp .eq (.call 62 (.cons (.var 0) (.cons (.lit (.int 2)) .nil))) (.lit (.int 0))) (.cons (.E1 (.var 4) (.lit (.str "BitsPerComponent")) (.lit (.int 1))) .nil) .nil) (.cons (.asg (.one 5) (.call 62 (.cons (.var 0) (.cons (.lit (.int 5)) .nil)))) (.cons (.EF (.cmp .gt (.var 5) (.lit (.int 0))) (.cons (.E1 (.var 4) (.lit (.str "Decode")) (.sub (.tup (.cons (.lst false (.cons (.lit (.int 0)) (.cons (.lit (.int 1)) .nil))) (.cons (.lst false (.cons (.lit (.int 1)) (.cons (.lit (.int 0)) .nil))) (.cons (.lst false (.cons (.new 0 (.cons (.lit (.int 0)) (.cons (.lit (.int 0)) .nil))) (.cons (.new 0 (.cons (.lit (.int 10)) (.cons (.lit (.int 1)) .nil))) .nil))) (.cons (.lst false (.cons (.new 0 (.cons (.lit (.int 1)) (.cons (.lit (.int 0)) .nil))) (.cons (.lit (.int 0)) .nil))) .nil))))) (.bin .sub (.var 5) (.lit (.int 1))))) .nil) .nil) (.cons (.EF (.var 2) (.cons (.asg (.many [10,11]) (.sub (.tup (.cons (.tup (.cons (.lit (.str "ImageMask")) (.cons (.lit (.bool false)) .nil))) (.cons (.tup (.cons (.lit (.str "BitsPerComponent")) (.cons (.lit (.int 2)) .nil))) (.cons (.tup (.cons (.lit (.str "Decode")) (.cons (.lst false (.cons (.lit (.int 0)) (.cons (.new 0 (.cons (.lit (.int 5)) (.cons (.lit (.int 1)) .nil))) .nil))) .nil))) (.cons (.tup (.cons (.lit (.str "Decode")) (.cons (.lst false (.cons (.lit (.int 1)) (.cons (.lit (.int 1)) .nil))) .nil))) (.cons (.tup (.cons (.lit (.str "Height")) (.cons (.bin .add (.var 9) (.lit (.int 1))) .nil))) (.cons (.tup (.cons (.lit (.str "ImageMask")) (.cons (.lit (.int 1)) .nil))) .nil))))))) (.call 62 (.cons (.var 0) (.cons (.lit (.int 6)) .nil))))) (.cons (.E1 (.var 4) (.var 10) (.var 11)) .nil)) .nil) (.cons (.asg (.one 6) (.EF (.cmp .isin (.var 5) (.tup (.cons (.lit (.int 2)) (.cons (.lit (.int 4)) .nil)))) (.lit (.int 1)) (.lit (.int 0)))) (.cons (.asg (.one 7) (.comp false (.cls (.one 12) (.it (.var 3)) .nil (.last (.comp false (.cls (.one 13) (.it (.var 12)) .nil (.last (.tup (.cons (.intOf (.cmp .eq (.sub (.var 13) (.lit (.int 0))) (.var 6))) (.cons (.lit (.int 0)) .nil)))))))))) (.cons (.ret (.tup (.cons (.new 3 (.cons (.call 64 (.cons (.var 0) (.cons (.var 1) (.cons (.freeze (.var 4)) .nil)))) (.cons (.call 66 (.cons (.var 3) (.cons (.lit (.int 1)) .nil))) .nil))) (.cons (.var 7) .nil)))) .nil))))))))))⟩
noncomputable def cr:Fn:=⟨5,[],19,
 (.cons (.asg (.one 5) (.sub (.sub (.var 1) (.call 62 (.cons (.var 0) (.cons (.len (.var 1)) .nil)))) (.call 62 (.cons (.var 0) (.cons (.len (.sub (.var 1) (.lit (.int 0)))) .nil))))) (.cons (.asg (.one 6) (.lst true .nil)) (.cons (.E3 (.one 7) (.Fy (.cons (.var 3) .nil)) (.cons (.asg (.one 11) (.EF (.cmp .gt (.call 62 (.cons (.var 0) (.cons (.lit (.int 3)) .nil))) (.lit (.int 0))) (.max2 (.bin .sub (.sub (.var 5) (.var 7)) (.call 62 (.cons (.var 0) (.cons (.lit (.int 2)) .nil)))) (.lit (.int 0))) (.call 62 (.cons (.var 0) (.cons (.bin .pow (.lit (.int 2)) (.var 2)) .nil))))) (.cons (.app (.var 6) (.tup (.cons (.var 11) (.cons (.min2 (.bin .add (.var 11) (.call 62 (.cons (.var 0) (.cons (.lit (.int 3)) .nil)))) (.bin .sub (.bin .pow (.lit (.int 2)) (.var 2)) (.lit (.int 1)))) .nil)))) .nil))) (.cons (.asg (.one 8) (.lst true .nil)) (.cons (.IA 6) (.cons (.E3 (.one 9) (.it (.var 1)) (.cons (.asg (.one 12) (.comp false (.cls (.one 14) (.it (.var 9)) .nil (.last (.comp false (.cls (.one 15) (.Fy (.cons (.var 3) .nil)) (.cons (.not (.FC (.sub (.sub (.var 6) (.var 15)) (.lit (.int 0))) .le (.sub (.var 14) (.var 15)) .le (.sub (.sub (.var 6) (.var 15)) (.lit (.int 1))))) .nil) (.last (.var 15)))))))) (.cons (.app (.var 8) (.comp false (.cls (.one 16) (.it (.var 12)) .nil (.last (.tup (.cons (.EF (.cmp .ne (.var 16) (.lst false .nil)) (.lit (.int 1)) (.lit (.int 0))) (.cons (.lit (.int 0)) .nil))))))) .nil))) (.cons (.asg (.one 10) (.comp false (.cls (.one 17) (.it (.var 6)) .nil (.cls (.one 18) (.it (.var 17)) .nil (.last (.var 18)))))) (.cons (.EF (.var 4) (.cons (.asg (.one 13) (.call 62 (.cons (.var 0) (.cons (.len (.var 10)) .nil)))) (.cons (.asg (.one 10) (.sub (.tup (.cons (.bin .add (.var 10) (.lst false (.cons (.lit (.int 0)) .nil))) (.cons (.bin .add (.bin .add (.slice (.var 10) .no (.yes (.var 13))) (.lst false (.cons (.bin .pow (.lit (.int 2)) (.var 2)) .nil))) (.slice (.var 10) (.yes (.bin .add (.var 13) (.lit (.int 1)))) .no)) (.cons (.bin .add (.bin .add (.slice (.var 10) .no (.yes (.var 13))) (.lst false (.cons (.neg (.lit (.int 1))) .nil))) (.slice (.var 10) (.yes (.bin .add (.var 13) (.lit (.int 1)))) .no)) (.cons (.bin .add (.bin .add (.slice (.var 10) .no (.yes (.var 13))) (.lst false (.cons (.lit (.bool true)) .nil))) (.slice (.var 10) (.yes (.bin .add (.var 13) (.lit (.int 1)))) .no)) (.cons (.slice (.var 10) (.yes (.lit (.int 1))) .no) .nil)))))) (.call 62 (.cons (.var 0) (.cons (.lit (.int 5)) .nil))))) .nil)) .nil) (.cons (.ret (.tup (.cons (.var 10) (.cons (.freeze (.var 8)) .nil)))) .nil)))))))))⟩
noncomputable def j3:Fn:=⟨3,[],4,
 (.cons (.ret (.len (.comp false (.cls (.one 3) (.Fy (.cons (.lit (.int 1)) (.cons (.var 2) .nil))) (.cons (.cmp .le (.bin .mul (.bin .mul (.lit (.int 2)) (.var 1)) (.var 3)) (.bin .mul (.bin .add (.bin .mul (.lit (.int 2)) (.var 0)) (.lit (.int 1))) (.var 2))) .nil) (.last (.var 3)))))) .nil)⟩
noncomputable def jZ:Fn:=⟨3,[],7,
 (.cons (.asg (.one 3) (.comp false (.cls (.one 4) (.Fy (.cons (.var 2) .nil)) .nil (.last (.sub (.var 0) (.call 73 (.cons (.var 4) (.cons (.var 2) (.cons (.len (.var 0)) .nil))))))))) (.cons (.ret (.comp false (.cls (.one 5) (.it (.var 3)) .nil (.last (.comp false (.cls (.one 6) (.Fy (.cons (.var 1) .nil)) .nil (.last (.sub (.var 5) (.call 73 (.cons (.var 6) (.cons (.var 1) (.cons (.len (.var 5)) .nil)))))))))))) .nil))⟩
noncomputable def gV:Fn:=⟨3,[],6,
 (.cons (.asg (.one 3) (.lit .none)) (.cons (.Gw 3 (.call 60 (.cons (.var 0) (.cons (.Gq false [] .nil) (.cons (.var 1) (.cons (.Jb 67) (.cons (.var 2) .nil))))))) (.cons (.ret (.EF (.Gc (.var 3)) (.var 3) (.comp false (.cls (.one 4) (.it (.var 3)) .nil (.last (.comp false (.cls (.one 5) (.it (.var 4)) .nil (.last (.EL (.var 5) 0 .nil))))))))) .nil)))⟩
noncomputable def gE:Fn:=⟨1,[],24,
 (.cons (.asg (.one 1) (.call 61 (.cons (.var 0) .nil))) (.cons (.asg (.many [8,9,10]) (.tup (.cons (.call 62 (.cons (.var 1) (.cons (.lit (.int 6)) .nil))) (.cons (.call 62 (.cons (.var 1) (.cons (.lit (.int 3)) .nil))) (.cons (.call 62 (.cons (.var 1) (.cons (.lit (.int 4)) .nil))) .nil))))) (.cons (.asg (.many [11,12]) (.tup (.cons (.new 5 .nil) (.cons (.sub (.tup (.cons (.lit (.int 4)) (.cons (.lit (.int 0)) (.cons (.lit (.int 1)) (.cons (.lit (.int 2)) (.cons (.lit (.int 3)) (.cons (.lit (.int 9)) .nil))))))) (.call 62 (.cons (.var 1) (.cons (.lit (.int 6)) .nil)))) .nil)))) (.cons (.asg (.many [13,14]) (.sub (.tup (.cons (.tup (.cons (.lit (.str "DeviceGray")) (.cons (.lit (.int 1)) .nil))) (.cons (.tup (.cons (.lit (.str "DeviceRGB")) (.cons (.lit (.int 3)) .nil))) (.cons (.tup (.cons (.lit (.str "DeviceCMYK")) (.cons (.lit (.int 4)) .nil))) .nil)))) (.call 62 (.cons (.var 1) (.cons (.lit (.int 3)) .nil))))) (.cons (.asg (.many [15,16,17]) (.tup (.cons (.sub (.tup (.cons (.lit (.int 2)) (.cons (.lit (.int 16)) (.cons (.lit (.int 1)) (.cons (.lit (.int 8)) (.cons (.lit (.int 4)) .nil)))))) (.call 62 (.cons (.var 1) (.cons (.lit (.int 5)) .nil)))) (.cons (.bin .add (.lit (.int 1)) (.call 62 (.cons (.var 1) (.cons (.lit (.int 4)) .nil)))) (.cons (.bin .add (.lit (.int 1)) (.call 62 (.cons (.var 1) (.cons (.lit (.int 3)) .nil)))) .nil))))) (.cons (.asg (.one 2) (.call 65 (.cons (.var 1) (.cons (.var 16) (.cons (.var 17) (.cons (.var 15) (.cons (.var 14) .nil))))))) (.cons (.asg (.one 3) (.Gq true ["Width","Height","ColorSpace","BitsPerComponent"] (.cons (.var 16) (.cons (.var 17) (.cons (.new 1 (.cons (.var 13) .nil)) (.cons (.var 15) .nil)))))) (.cons (.EF (.cmp .eq (.call 62 (.cons (.var 1) (.cons (.lit (.int 3)) .nil))) (.lit (.int 0))) (.cons (.E1 (.var 3) (.lit (.str "ImageMask")) (.lit (.bool false))) .nil) .nil) (.cons (.asg (.one 4) (.comp false (.cls (.one 22) (.it (.var 2)) .nil (.last (.comp false (.cls (.one 23) (.it (.var 22)) .nil (.last (.tup (.cons (.lit (.int 1)) (.cons (.lit (.int 0)) .nil)))))))))) (.cons (.asg (.one 5) (.lit (.bool false))) (.cons (.EF (.cmp .gt (.var 10) (.lit (.int 0))) (.cons (.asg (.one 5) (.cmp .eq (.var 8) (.lit (.int 1)))) (.cons (.asg (.many [18,19]) (.EF (.cmp .eq (.var 10) (.lit (.int 1))) (.call 71 (.cons (.var 1) (.cons (.var 11) (.cons (.var 5) .nil)))) (.call 72 (.cons (.var 1) (.cons (.var 2) (.cons (.var 15) (.cons (.var 14) (.cons (.var 5) .nil)))))))) (.cons (.E1 (.var 3) (.lit (.str "Mask")) (.var 18)) (.cons (.asg (.one 4) (.EF (.cmp .gt (.var 10) (.lit (.int 1))) (.var 19) (.call 74 (.cons (.var 19) (.cons (.var 16) (.cons (.var 17) .nil)))))) .nil)))) .nil) (.cons (.EF (.cmp .gt (.var 9) (.lit (.int 0))) (.cons (.asg (.one 5) (.cmp .eq (.var 8) (.lit (.int 2)))) (.cons (.asg (.many [20,21]) (.call 70 (.cons (.var 1) (.cons (.var 11) (.cons (.var 12) (.cons (.var 5) .nil)))))) (.cons (.E1 (.var 3) (.lit (.str "SMask")) (.var 20)) (.cons (.asg (.one 4) (.call 74 (.cons (.var 21) (.cons (.var 16) (.cons (.var 17) .nil))))) .nil)))) (.cons (.EF (.cmp .eq (.call 62 (.cons (.var 1) (.cons (.lit (.int 2)) .nil))) (.lit (.int 0))) (.cons (.E1 (.var 3) (.lit (.str "SMask")) (.sub (.tup (.cons (.new 1 (.cons (.lit (.str "None")) .nil)) (.cons (.lit (.int 5)) (.cons (.Gq false ["Width"] (.cons (.lit (.int 1)) .nil)) .nil)))) (.call 62 (.cons (.var 1) (.cons (.lit (.int 3)) .nil))))) .nil) .nil) .nil)) (.cons (.asg (.one 6) (.new 3 (.cons (.call 64 (.cons (.var 1) (.cons (.var 11) (.cons (.freeze (.var 3)) .nil)))) (.cons (.call 66 (.cons (.var 2) (.cons (.var 15) .nil))) .nil)))) (.cons (.asg (.one 7) (.tup (.cons (.EL (.var 11) 0 .nil) (.cons (.call 14 (.cons (.var 6) .nil)) .nil)))) (.cons (.EF (.cmp .ne (.call 75 (.cons (.var 11) (.cons (.var 6) (.cons (.var 12) .nil)))) (.EF (.var 5) (.lit .none) (.var 4))) (.cons (.ret (.lit (.bool false))) .nil) .nil) (.cons (.ret (.cmp .eq (.var 7) (.tup (.cons (.EL (.var 11) 0 .nil) (.cons (.call 14 (.cons (.var 6) .nil)) .nil))))) .nil))))))))))))))))⟩
noncomputable def i5:List Fn:=[gr,je,pg,fZ,gT,ja,wn,gU,m9,ku,iw,bJ,iM,cO,eB,qM,jd,kA,lJ,iu,kz,lI,ip,i9,kx,jc,jb,m4,i8,il,iq,m6,gW,gz,gy,ph,j6,ff,j5,kt,gq,jW,ir,gS,gR,io,m7,fL,ik,ju,kq,jv,gF,cP,jX,jY,kr,ko,d7,cI,bI,lD,jw,j4,lH,j0,lG,lE,m8,lF,dn,bx,cr,j3,jZ,gV,gE]
noncomputable def i6:List kf:=[⟨[0,1],false,(some 0),[(0,1)]⟩,⟨[2],false,(some 8),[]⟩,⟨[3,4],false,none,[]⟩,⟨[5,3],false,(some 9),[]⟩,⟨[6,7],false,(some 10),[]⟩,⟨[8,9],false,(some 15),[(1,16),(2,17),(3,18),(4,19),(0,20)]⟩,⟨[10,11,12,8,13,14,15],false,(some 21),[]⟩,⟨[16,17,18],false,(some 24),[(1,25),(5,26)]⟩,⟨[19,20,21,11],true,(some 32),[(6,33),(7,34)]⟩,⟨[22,23,24,11],false,(some 36),[(8,37),(9,38)]⟩]
noncomputable def oC:List V:=[(.int 30),(.int 8),(.int 8),(.tup [(.int 1),(.int 2),(.int 4),(.int 8),(.int 16)])]
noncomputable def ak:dH:=⟨λ i=>i6[i]?,λ i=>i5[i]?,λ i=>oC[i]?⟩
end Mine
end
section
namespace Mine
open PySem PySem.W PySem.Calls PyProof.Rows
structure Pl where
 ED:Nat->P5
 FF:Nat->P5
 EH:Nat->Str
 FE:Nat->Str
 globN:Nat->Str
 P:dH
noncomputable abbrev bb(xs:List PL)(n:Nat):Obj:={cls:=.type "list",data:=.seq xs.toArray n}
noncomputable abbrev iJ(xs:List PL)(n:Nat):Obj:={cls:=.type "tuple",data:=.seq xs.toArray n}
inductive nU(A:Qj->Prop)(B:Qj->Prop)(R:List Qj->Prop)(es:List Qj):Prop
 |mk (e:Qj) (r:List Qj):es=e::r->A e->B e->R r->nU A B R es
noncomputable def bY(P:QP):List Str->List Qj->Prop
 |[],es=>es=[]
 |k::ks,es=>nU (λ e=>∃t,e.key=.str k t) (λ e=>e.hash=Qh P k) (bY P ks) es
noncomputable def iH:List Int->List Qj->Prop
 |[],es=>es=[]
 |k::ks,es=>nU (λ e=>∃t,e.key=.int k t) (λ e=>e.hash=hashInt k) (iH ks) es
abbrev az:=List (P5×P5)
structure DC(a:P5)(ks:List String):Prop where
 sys:(a==WS)=false
 nd:ks.Nodup
 len:ks.length<=ar+1
 str:∀k∈ks,k.length<=ar
structure Dz(a:P5)(ks:List Int):Prop where
 sys:(a==WS)=false
 nd:ks.Nodup
 len:ks.length<=ar+1
inductive ij(f:List PL->Nat->Obj)(ow:P5->Prop)(h:QI)(l:Nat)(R:List PL->Prop)(v:PL):Prop
 |mk (a:P5) (xs:List PL) (n:Nat):v=.ref a->¬ow a->h.get? a=some (f xs n)->l<=ar->R xs->ij f ow h l R v
inductive vE(ks:List String)(P:QP)(ow:P5->Prop)(h:QI)(R:List PL->Prop)(v:PL):Prop
 |mk (a:P5) (es:List Qj) (n:Nat):v=.ref a->¬ow a->h.get? a=some (QO es n)->DC a ks->bY P (ks.map PF) es->R (es.map (·.val))->vE ks P ow h R v
inductive vA(pl:Pl)(c:Nat)(P:QP)(ow:P5->Prop)(h:QI)(R:List PL->Prop)(v:PL):Prop
 |mk (a d:P5) (es:List Qj) (n:Nat) (C:kf):v=.ref a->¬ow a->¬ow d->h.get? a=some (R7 (pl.ED c) d)->h.get? d=some (QO es n)->pl.P.cls c=some C->bY P (C.fields.map pl.EH) es->R (es.map (·.val))->vA pl c P ow h R v
inductive vz(φ:az)(i:Nat)(v:PL):Prop
 |mk (p:P5×P5):φ[i]? =some p->v=.ref p.1->vz φ i v
inductive sn(s:String)(v:PL):Prop
 |mk (l:s.length<=ar) (t:Tok):v=.str (PF s) t->sn s v
inductive sq(b:List UInt8)(v:PL):Prop
 |mk (l:b.length<=ar) (t:Tok):v=.bytes b.toArray t->sq b v
inductive VC(A:PL->Prop)(R:List PL->Prop)(xs:List PL):Prop
 |mk (x:PL) (r:List PL):xs=x::r->A x->R r->VC A R xs
mutual
noncomputable def VR(pl:Pl)(P:QP)(φ:az)(ow:P5->Prop)(h:QI):V->PL->Prop
 |.none=>λ v=>v=.none
 |.bool b=>λ v=>v=.bool b
 |.int i=>λ v=>∃t,v=.int i t
 |.str s=>sn s
 |.bytes b=>sq b
 |.tup vs=>ij iJ ow h vs.length (am pl P φ ow h vs)
 |.list vs=>ij bb ow h vs.length (am pl P φ ow h vs)
 |.dict ks vs=>vE ks P ow h (am pl P φ ow h vs)
 |.inst c vs=>vA pl c P ow h (am pl P φ ow h vs)
 |.ref i=>vz φ i
 |.fn f=>λ v=>v=.ref (pl.FF f)
noncomputable def am(pl:Pl)(P:QP)(φ:az)(ow:P5->Prop)(h:QI):List V->List PL->Prop
 |[]=>λ xs=>xs=[]
 |v::vs=>VC (VR pl P φ ow h v) (am pl P φ ow h vs)
end
theorem am.length:∀{vs:List V} {xs:List PL},am pl P φ ow h vs xs->xs.length=vs.length
 |[],_,e=>congrArg Q4 (show _=[] from e)
 |_::vs,_,.mk _ r e _ b=>e▸congrArg (· +1) (am.length (vs:=vs) (xs:=r) b)
noncomputable def bZ(o:Obj)(x:Option Obj):Prop:=x=some o∨(o.cls=.type "frame" /\∃sl,x=some {o with slots:=sl})
noncomputable def b7(o:Obj)(x:Option Obj):Prop:=x=some o∨(o.cls=.type "frame" /\∃sl,x=some {o with slots:=sl})∨∃vs,o.data=.fields vs
theorem bZ.eq(k:bZ o x)(hc:o.cls≠.type "frame"):x=some o:=k.elim id λ e=>absurd e.1 hc
theorem bZ.weak(k:bZ o x):b7 o x:=k.imp id .inl
structure j9(o:Obj):Prop where
 cls:o.cls≠.type "frame"
 data:∀vs,o.data≠.fields vs
theorem b7.eq(k:b7 o x)(p:j9 o):x=some o:=k.elim id λ e=>e.elim (λ e=>absurd e.1 p.cls) λ e=>e.elim λ vs e=>absurd e (p.data vs)
theorem j9.tup:j9 (iJ xs n):=⟨show Xc "tuple"≠.type "frame" by decide,λ zz h=>Tw h⟩
theorem j9.list:j9 (bb xs n):=⟨show Xc "list"≠.type "frame" by decide,λ zz h=>Tw h⟩
theorem j9.dict:j9 (QO es n):=⟨show Xc "dict"≠.type "frame" by decide,λ zz h=>Tw h⟩
theorem j9.inst:j9 (R7 c d):=⟨λ h=>RC h,λ zz h=>Tw h⟩
theorem dK{α:Type}{x:Option α}{a:α}{C:Prop}(h:x=some a)(g:x=none):C:=absurd (h.symm.trans g) (Wt a)
theorem kI{ow ow':P5->Prop}{h h':QI}{a:P5}{o:Obj}(hk:∀b o,h.get? b=some o->¬ow b->b7 o (h'.get? b))(ho:∀b,ow' b->ow b∨h.get? b=none)(na:¬ow a)(g:h.get? a=some o)(p:j9 o):¬ow' a/\h'.get? a=some o:=
 ⟨λ q=>(ho a q).elim na (dK g),(hk a _ g na).eq p⟩
mutual
theorem VR.mono{pl:Pl}{P:QP}{φ φ':az}{ow ow':P5->Prop}{h h':QI}(hp:φ<+:φ')(hk:∀b o,h.get? b=some o->¬ow b->b7 o (h'.get? b))(ho:∀b,ow' b->ow b∨h.get? b=none):
  ∀{x:V} {v:PL},VR pl P φ ow h x v->VR pl P φ' ow' h' x v
 |.none,_,r=>r
 |.bool _,_,r=>r
 |.int _,_,r=>r
 |.str _,_,r=>r
 |.bytes _,_,r=>r
 |.tup _,_,.mk a xs n e na g l rs=>have q:=kI hk ho na g .tup;ij.mk a xs n e q.1 q.2 l (am.mono hp hk ho rs)
 |.list _,_,.mk a xs n e na g l rs=>have q:=kI hk ho na g .list;ij.mk a xs n e q.1 q.2 l (am.mono hp hk ho rs)
 |.dict _ _,_,.mk a es n e na g l ke rs=>have q:=kI hk ho na g .dict;vE.mk a es n e q.1 q.2 l ke (am.mono hp hk ho rs)
 |.inst _ _,_,.mk a d es n C e na nd g gd hc ke rs=>have q:=kI hk ho na g .inst;have q2:=kI hk ho nd gd .dict;vA.mk a d es n C e q.1 q2.1 q.2 q2.2 hc ke (am.mono hp hk ho rs)
 |.ref _,_,.mk p e q=>vz.mk p (hp.elim λ t et=>et▸(Qe (PO.mp e).1).trans e) q
 |.fn _,_,r=>r
theorem am.mono(hp:φ<+:φ')(hk:∀b o,h.get? b=some o->¬ow b->b7 o (h'.get? b))(ho:∀b,ow' b->ow b∨h.get? b=none):
  ∀{xs:List V} {vs:List PL},am pl P φ ow h xs vs->am pl P φ' ow' h' xs vs
 |[],_,r=>r
 |_::_,_,.mk y t e a b=>VC.mk y t e (VR.mono hp hk ho a) (am.mono hp hk ho b)
end
section
variable{pl:Pl}{P:QP}{φ:az}{ow:P5->Prop}{h:QI}{v:PL}{vs:List V}
theorem am.c(q:VC (VR pl P φ ow h x) (am pl P φ ow h vs) xs):am pl P φ ow h (x::vs) xs:=q
theorem VR.r(q:vz φ i v):VR pl P φ ow h (.ref i) v:=q
theorem VR.i{i:Int}(q:∃t,v=.int i t):VR pl P φ ow h (.int i) v:=q
theorem VR.s{s:String}(q:sn s v):VR pl P φ ow h (.str s) v:=q
theorem VR.y{s:List UInt8}(q:sq s v):VR pl P φ ow h (.bytes s) v:=q
theorem VR.t(q:ij iJ ow h vs.length (am pl P φ ow h vs) v):VR pl P φ ow h (.tup vs) v:=q
theorem VR.l(q:ij bb ow h vs.length (am pl P φ ow h vs) v):VR pl P φ ow h (.list vs) v:=q
theorem VR.d(q:vE ks P ow h (am pl P φ ow h vs) v):VR pl P φ ow h (.dict ks vs) v:=q
theorem VR.o(q:vA pl c P ow h (am pl P φ ow h vs) v):VR pl P φ ow h (.inst c vs) v:=q
end
inductive OL(h:QI)(p:P5×P5)(l:Nat)(R:List PL->Prop):Prop
 |mk (e:p.2=p.1) (xs:List PL) (n:Nat):h.get? p.1=some (bb xs n)->l<=ar->R xs->OL h p l R
inductive OD(h:QI)(p:P5×P5)(C:Prop)(K:List Qj->Prop)(R:List PL->Prop):Prop
 |mk (e:p.2=p.1) (es:List Qj) (n:Nat):h.get? p.1=some (QO es n)->C->K es->R (es.map (·.val))->OD h p C K R
inductive OI(pl:Pl)(P:QP)(c:Nat)(l:Nat)(h:QI)(p:P5×P5)(R:List PL->Prop):Prop
 |mk (e:p.1≠p.2) (es:List Qj) (n:Nat) (C:kf):h.get? p.1=some (R7 (pl.ED c) p.2)->h.get? p.2=some (QO es n)->pl.P.cls c=some C->l<=C.fields.length->bY P ((C.fields.take l).map pl.EH) es->R (es.map (·.val))->OI pl P c l h p R
noncomputable def OR(pl:Pl)(P:QP)(φ:az)(ow:P5->Prop)(h:QI)(p:P5×P5):O->Prop
 |.list vs=>OL h p vs.length (am pl P φ ow h vs)
 |.Eu ks vs=>OD h p (DC p.1 ks) (bY P (ks.map PF)) (am pl P φ ow h vs)
 |.EG ks vs=>OD h p (Dz p.1 ks) (iH ks) (am pl P φ ow h vs)
 |.inst c vs=>OI pl P c vs.length h p (am pl P φ ow h vs)
inductive own(φ:az)(M:AH)(b:P5):Prop
 |mk (i:Nat) (p:P5×P5):(M.m i).isSome=true->φ[i]? =some p->(b=p.1∨b=p.2)->own φ M b
noncomputable def ow(W:P5->Prop)(φ:az)(M:AH)(b:P5):Prop:=W b∨own φ M b
noncomputable def bt:P5->Prop:=λ zz=>False
structure HR(pl:Pl)(P:QP)(B:QI)(W:P5->Prop)(φ:az)(M:AH)(h:QI):Prop where
 len:φ.length=M.next
 at_:∀i o,M.m i=some o->∃p,φ[i]? =some p/\OR pl P φ (ow W φ M) h p o
 apart:∀i j p q,(M.m i).isSome=true->(M.m j).isSome=true->φ[i]? =some p->φ[j]? =some q->i≠j->p.1≠q.1/\p.1≠q.2/\p.2≠q.1/\p.2≠q.2
 new:∀b,own φ M b->B.get? b=none
 EU:∀b,own φ M b->¬W b
structure St(pl:Pl)(P:QP)(B:QI)(W:P5->Prop)(fr:List Env)(φ:az)(M:AH)(s:PM):Prop where
 hr:HR pl P B W φ M s.heap
 base:B.StaysIn s.heap
 frames:s.heap.FunFrames B fr
 Fi:∀env∈fr,∀L,env.frame=some L->W L
 GJ:∀env∈fr,∀L,env.frame=some L->∃o,s.heap.get? L=some o/\o.cls=.type "frame"
 FK:∀b,W b->∃o,s.heap.get? b=some o
 EY:∀b,W b->B.get? b=none
structure av(V:P5->Prop)(φ:az)(M:AH)(s:PM)(φ':az)(M':AH)(s':PM):Prop where
 pre:φ<+:φ'
 keep:∀b o,s.heap.get? b=some o->¬own φ M b->¬V b->bZ o (s'.heap.get? b)
 own:∀b,own φ' M' b->own φ M b∨s.heap.get? b=none
 alive:∀b o,s.heap.get? b=some o->∃o',s'.heap.get? b=some o'
 os:s'.os=s.os
 gens:s'.gens=s.gens
theorem bZ.refl:bZ o (some o):=.inl rfl
theorem aT{h:QI}(q:h.objs.size<=b):h.get? b=none:=by
 cases e:h.get? b with
 |none=>rfl
 |some o=>exact absurd (Qb e) (V9.mpr q)
theorem av.refl{V:P5->Prop}{φ:az}:av V φ M s φ M s:=⟨PB _,λ zz zz e zz zz=>.inl e,λ zz h=>.inl h,λ zz o e=>⟨o,e⟩,rfl,rfl⟩
theorem av.dead{V:P5->Prop}{φ φ':az}(x:av V φ M s φ' M' s'){b:P5}(h:s'.heap.get? b=none):s.heap.get? b=none:=by
 cases e:s.heap.get? b with
 |none=>rfl
 |some o=>obtain⟨o',e'⟩:=x.alive b o e;rw[h] at e';cases e'
theorem av.trans{V:P5->Prop}{φ φ₁ φ₂:az}(x:av V φ M s φ₁ M₁ s₁)(y:av V φ₁ M₁ s₁ φ₂ M₂ s₂):av V φ M s φ₂ M₂ s₂:=by
 refine⟨x.pre.trans y.pre,λ b o e n nv=> ?_,λ b hb=> ?_,λ b o e=>let⟨o1,e1⟩:=x.alive b o e;y.alive b o1 e1,y.os.trans x.os,y.gens.trans x.gens⟩
 ·have n1:¬Mine.own φ₁ M₁ b:=λ q=>(x.own b q).elim n λ q=>by rw[q] at e;cases e
  rcases x.keep b o e n nv with k|⟨hc,sl,k⟩
  ·exact y.keep b o k n1 nv
  ·rcases y.keep b _ k n1 nv with k2|⟨_,sl2,k2⟩
   ·exact .inr ⟨hc,sl,k2⟩
   ·exact .inr ⟨hc,sl2,k2⟩
 ·rcases y.own b hb with q|q
  ·exact x.own b q
  ·exact .inr (x.dead q)
theorem av.mono{V V':P5->Prop}{φ φ':az}(x:av V φ M s φ' M' s')(hv:∀b,V b->b<s.heap.objs.size->V' b):av V' φ M s φ' M' s':=
 ⟨x.pre,λ b o e n nv=>x.keep b o e n λ q=>nv (hv b q (Qb e)),x.own,x.alive,x.os,x.gens⟩
theorem av.wide{V:P5->Prop}{φ φ':az}(x:av bt φ M s φ' M' s'):av V φ M s φ' M' s':=x.mono λ zz q=>q.elim
theorem av.F5{V V₁:P5->Prop}{φ φ₁ φ₂:az}(x:av V φ M s φ₁ M₁ s₁)(y:av V₁ φ₁ M₁ s₁ φ₂ M₂ s₂)(hv:∀b,V₁ b->V b∨s.heap.get? b=none):av V φ M s φ₂ M₂ s₂:=by
 refine⟨x.pre.trans y.pre,λ b o e n nv=> ?_,λ b hb=> ?_,λ b o e=>let⟨o1,e1⟩:=x.alive b o e;y.alive b o1 e1,y.os.trans x.os,y.gens.trans x.gens⟩
 ·have n1:¬Mine.own φ₁ M₁ b:=λ q=>(x.own b q).elim n λ q=>by rw[q] at e;cases e
  have MH:¬V₁ b:=λ q=>(hv b q).elim nv λ q=>by rw[q] at e;cases e
  rcases x.keep b o e n nv with k|⟨hc,sl,k⟩
  ·exact y.keep b o k n1 MH
  ·rcases y.keep b _ k n1 MH with k2|⟨_,sl2,k2⟩
   ·exact .inr ⟨hc,sl,k2⟩
   ·exact .inr ⟨hc,sl2,k2⟩
 ·rcases y.own b hb with q|q
  ·exact x.own b q
  ·exact .inr (x.dead q)
theorem av.trans'{V V₁:P5->Prop}{φ φ₁ φ₂:az}(x:av V φ M s φ₁ M₁ s₁)(y:av V₁ φ₁ M₁ s₁ φ₂ M₂ s₂)(hv:∀b,V₁ b->V b∨s.heap.objs.size<=b):av V φ M s φ₂ M₂ s₂:=
 x.F5 y λ b q=>(hv b q).imp id aT
section
variable{pl:Pl}{P:QP}{B:QI}{W V:P5->Prop}{fr:List Env}{φ φ':az}{M M':AH}{s s':PM}
theorem av.E5(x:av V φ M s φ' M' s')(hv:∀b,V b->W b):∀b o,s.heap.get? b=some o->¬ow W φ M b->b7 o (s'.heap.get? b):=
 λ b o e n=>(x.keep b o e (λ q=>n (.inr q)) λ q=>n (.inl (hv b q))).weak
theorem av.FY(x:av V φ M s φ' M' s'):∀b,ow W φ' M' b->ow W φ M b∨s.heap.get? b=none:=
 λ b q=>q.elim (λ q=>.inl (.inl q)) λ q=>(x.own b q).elim (λ q=>.inl (.inr q)) .inr
theorem VR.step(x:av V φ M s φ' M' s')(hv:∀b,V b->W b){y:Mine.V}{v:PL}(r:VR pl P φ (ow W φ M) s.heap y v):VR pl P φ' (ow W φ' M') s'.heap y v:=VR.mono x.pre (x.E5 hv) x.FY r
theorem am.step(x:av V φ M s φ' M' s')(hv:∀b,V b->W b){v:List PL}(r:am pl P φ (ow W φ M) s.heap y v):am pl P φ' (ow W φ' M') s'.heap y v:=am.mono x.pre (x.E5 hv) x.FY r
theorem VR.set{W':P5->Prop}{φ:az}{M:AH}{h:QI}(hw:∀b,W' b->W b∨h.get? b=none){y:Mine.V}{v:PL}(r:VR pl P φ (ow W φ M) h y v):VR pl P φ (ow W' φ M) h y v:=
 VR.mono (PB _) (λ zz zz e zz=>.inl e) (λ b q=>q.elim (λ q=>(hw b q).elim (λ q=>.inl (.inl q)) .inr) λ q=>.inl (.inr q)) r
theorem am.set{φ:az}{M:AH}{h:QI}(hw:∀b,W' b->W b∨h.get? b=none){v:List PL}(r:am pl P φ (ow W φ M) h y v):am pl P φ (ow W' φ M) h y v:=
 am.mono (PB _) (λ zz zz e zz=>.inl e) (λ b q=>q.elim (λ q=>(hw b q).elim (λ q=>.inl (.inl q)) .inr) λ q=>.inl (.inr q)) r
theorem OR.mono{φ φ':az}{h h':QI}(hp:φ<+:φ')(hk:∀b o,h.get? b=some o->¬o1 b->b7 o (h'.get? b))(ho:∀b,o2 b->o1 b∨h.get? b=none)
  (h1:∀o,h.get? p.1=some o->h'.get? p.1=some o)(h2:∀o,h.get? p.2=some o->h'.get? p.2=some o):∀{o:O},OR pl P φ o1 h p o->OR pl P φ' o2 h' p o
 |.list _,.mk e xs n g l r=>OL.mk e xs n (h1 _ g) l (am.mono hp hk ho r)
 |.Eu _ _,.mk e es n g l k r=>OD.mk e es n (h1 _ g) l k (am.mono hp hk ho r)
 |.EG _ _,.mk e es n g l k r=>OD.mk e es n (h1 _ g) l k (am.mono hp hk ho r)
 |.inst _ _,.mk e es n C g gd c l k r=>OI.mk e es n C (h1 _ g) (h2 _ gd) c l k (am.mono hp hk ho r)
theorem cZ(hm:(M.m i).isSome=true)(hp:φ[i]? =some p):own φ M p.1/\own φ M p.2:=⟨⟨i,p,hm,hp,.inl rfl⟩,⟨i,p,hm,hp,.inr rfl⟩⟩
theorem HR.same{h h':QI}(x:HR pl P B W φ M h)(hk:∀b o,h.get? b=some o->¬ow W φ M b->b7 o (h'.get? b))(FV:∀b o,own φ M b->h.get? b=some o->h'.get? b=some o)
  (hw:∀b,W' b->W b∨h.get? b=none):HR pl P B W' φ M h':=by
 have JU:∀i,(M.m i).isSome=true->∀p,φ[i]? =some p->(∃o,h.get? p.1=some o)/\∃o,h.get? p.2=some o:=by
  intro i hi p hp
  obtain⟨o,ho⟩:=P4.mp hi
  refine ai (x.at_ i o ho) λ q hq r=> ?_
  rw[hp] at hq;cases hq
  cases o with
  |list vs=>obtain⟨e,xs,n,g,_⟩:=r;exact⟨⟨_,g⟩,⟨_,by refine aa e ?_;exact g⟩⟩
  |Eu ks vs=>obtain⟨e,xs,n,g,_⟩:=r;exact⟨⟨_,g⟩,⟨_,by refine aa e ?_;exact g⟩⟩
  |EG ks vs=>obtain⟨e,xs,n,g,_⟩:=r;exact⟨⟨_,g⟩,⟨_,by refine aa e ?_;exact g⟩⟩
  |inst c vs=>obtain⟨e,es,n,C,g,gd,_⟩:=r;exact⟨⟨_,g⟩,⟨_,gd⟩⟩
 refine⟨x.len,λ i o ho=> ?_,x.apart,x.new,λ b hb Oq=> ?_⟩
 ·refine ai (x.at_ i o ho) λ p hp r=> ?_
  have hs:(M.m i).isSome=true:=by refine aa ho ?_;rfl
  exact aA p hp (OR.mono (PB _) hk (λ b q=>q.elim (λ q=>(hw b q).elim (λ q=>.inl (.inl q)) .inr) λ q=>.inl (.inr q))
   (λ o=>FV _ o (cZ hs hp).1) (λ o=>FV _ o (cZ hs hp).2) r)
 ·rcases hw b Oq with q|q
  ·exact x.EU b hb q
  ·obtain⟨i,p,hi,hp,e⟩:=hb
   obtain⟨⟨o1,h1⟩,⟨o2,h2⟩⟩:=JU i hi p hp
   rcases e with e|e<;>subst e
   ·rw[q] at h1;cases h1
   ·rw[q] at h2;cases h2
theorem HR.GR{h:QI}(x:HR pl P B W φ M h)(q:own φ M b):b<h.objs.size:=by
 obtain⟨i,p,hi,hp,e⟩:=q
 obtain⟨o1,ho⟩:=P4.mp hi
 refine ai (x.at_ i o1 ho) λ p' Fz r'=> ?_
 rw[hp] at Fz;cases Fz
 have key:∀c o',h.get? c=some o'->b=c->b<h.objs.size:=λ c o' e1 e2=>by refine aa e2 ?_;exact Qb e1
 cases o1 with
 |list vs=>obtain⟨e',xs,n,g1,_⟩:=r';rcases e with e|e;exact key _ _ g1 e;rw[e'] at e;exact key _ _ g1 e
 |Eu ks vs=>obtain⟨e',xs,n,g1,_⟩:=r';rcases e with e|e;exact key _ _ g1 e;rw[e'] at e;exact key _ _ g1 e
 |EG ks vs=>obtain⟨e',xs,n,g1,_⟩:=r';rcases e with e|e;exact key _ _ g1 e;rw[e'] at e;exact key _ _ g1 e
 |inst c vs=>obtain⟨e',es,n,C,g1,gd,_⟩:=r';rcases e with e|e;exact key _ _ g1 e;exact key _ _ gd e
theorem b7.of_eq(h:x=some o):b7 o x:=.inl h
theorem kL{B h h':QI}(k:∀L o,h.get? L=some o->(∀vs,o.data≠.fields vs)->∃o',h'.get? L=some o'/\∀vs,o'.data≠.fields vs):
  ∀{l:List Env},(∀env∈l,∀L,env.frame=some L->W L)->(∀L o,W L->h.get? L=some o->(∀vs,o.data≠.fields vs)->∃o',h'.get? L=some o'/\∀vs,o'.data≠.fields vs)->h.FunFrames B l->h'.FunFrames B l:=by
 intro l
 induction l with
 |nil=>
  intro y1 y2 y3
  exact trivial
 |cons env r ih=>
  intro hw k' y4
  refine ei y4 λ hk HS hr=> ?_;clear y4;rcases HS with⟨L,o,hf,hn,ho,hd⟩
  refine ai (k' L o (hw env (.head _) L hf) ho hd) λ o' e' d'=> ?_
  exact cg hk ⟨L,o',hf,hn,e',d'⟩ (ih (λ e he=>hw e (.tail _ he)) k' hr)
theorem St.IG(x:St pl P B W fr φ M s)(q:ow W φ M b):b<s.heap.objs.size:=q.elim (λ q=>let⟨_,e⟩:=x.FK b q;Qb e) x.hr.GR
theorem St.Kq(x:St pl P B W fr φ M s)(q:W b):b<s.heap.objs.size:=let⟨_,e⟩:=x.FK b q;Qb e
theorem St.ext{N:P5->Prop}(x:St pl P B W fr φ M s)(hk:∀b o,s.heap.get? b=some o->s'.heap.get? b=some o)
  (hN:∀b,N b->s.heap.get? b=none/\∃o,s'.heap.get? b=some o):St pl P B (λ b=>W b∨N b) fr φ M s':=by
 refine⟨x.hr.same (λ b o e zz=>.inl (hk b o e)) (λ b o zz e=>hk b o e) (λ b q=>q.imp id λ q=>(hN b q).1),λ b o e=>hk b o (x.base b o e),
  x.frames.of_keeps λ b o e zz=>⟨o,hk b o e,rfl⟩,λ env he L hf=>.inl (x.Fi env he L hf),λ env he L hf=>let⟨o,e,c⟩:=x.GJ env he L hf;⟨o,hk _ _ e,c⟩,λ b q=> ?_,λ b q=> ?_⟩
 ·exact q.elim (λ q=>let⟨o,e⟩:=x.FK b q;⟨o,hk b o e⟩) λ q=>(hN b q).2
 ·rcases q with q|q
  ·exact x.EY b q
  ·cases e:B.get? b with
   |none=>rfl
   |some o=>have:=x.base b o e;rw[(hN b q).1] at this;cases this
theorem St.Gp(x:St pl P B W fr φ M s)(hk:∀b o,s.heap.get? b=some o->s'.heap.get? b=some o):St pl P B W fr φ M s':=
 ⟨x.hr.same (λ b o e zz=>.inl (hk b o e)) (λ b o zz e=>hk b o e) (λ b q=>.inl q),λ b o e=>hk b o (x.base b o e),
  x.frames.of_keeps λ b o e zz=>⟨o,hk b o e,rfl⟩,x.Fi,λ env he L hf=>let⟨o,e,c⟩:=x.GJ env he L hf;⟨o,hk _ _ e,c⟩,λ b q=>let⟨o,e⟩:=x.FK b q;⟨o,hk b o e⟩,x.EY⟩
theorem av.ext(hk:∀b o,s.heap.get? b=some o->s'.heap.get? b=some o)(ho:s'.os=s.os)(hg:s'.gens=s.gens):av V φ M s φ M s':=
 ⟨PB _,λ b o e zz zz=>.inl (hk b o e),λ zz q=>.inl q,λ b o e=>⟨o,hk b o e⟩,ho,hg⟩
theorem se{V:P5->Prop}(hk:∀b o,s.heap.get? b=some o->¬V b->s'.heap.get? b=some o)(hd:∀b o,V b->s.heap.get? b=some o->∃o',s'.heap.get? b=some o'/\∀vs,o'.data≠.fields vs):
  ∀b o,s.heap.get? b=some o->∃o',s'.heap.get? b=some o':=λ b o e=>by
 by_cases q:V b
 ·refine ai (hd b o q e) λ o' e' zz=> ?_;exact⟨o',e'⟩
 ·exact⟨o,hk b o e q⟩
theorem St.changed(x:St pl P B W fr φ M s)(hk:∀b o,s.heap.get? b=some o->¬V b->s'.heap.get? b=some o)(hv:∀b,V b->W b)
  (hd:∀b o,V b->s.heap.get? b=some o->∃o',s'.heap.get? b=some o'/\∀vs,o'.data≠.fields vs)(hc:∀b o,V b->s.heap.get? b=some o->o.cls=.type "frame" ->(∃env∈fr,env.frame=some b)->∃o',s'.heap.get? b=some o'/\o'.cls=.type "frame"):St pl P B W fr φ M s':=by
 have hB:∀b o,B.get? b=some o->¬V b:=λ b o e q=>by rw[x.EY b (hv b q)] at e;cases e
 refine⟨x.hr.same (λ b o e n=>.inl (hk b o e λ q=>n (.inl (hv b q)))) (λ b o q e=>hk b o e λ qv=>x.hr.EU b q (hv b qv)) (λ b q=>.inl q),λ b o e=>hk b o (x.base b o e) (hB b o e),?_,x.Fi,λ env he L hf=> ?_,
  λ b q=>let⟨o,e⟩:=x.FK b q;se hk hd b o e,x.EY⟩
 have all:∀L o,s.heap.get? L=some o->(∀vs,o.data≠.fields vs)->∃o',s'.heap.get? L=some o'/\∀vs,o'.data≠.fields vs:=λ L o e nd=>by
  by_cases q:V L
  ·exact hd L o q e
  ·exact aA o (hk L o e q) nd
 ·exact kL all x.Fi (λ L o zz=>all L o) x.frames
 ·refine ai (x.GJ env he L hf) λ o e c=> ?_
  by_cases q:V L
  ·exact hc L o q e c ⟨env,he,hf⟩
  ·exact aA o (hk L o e q) c
theorem av.changed(hk:∀b o,s.heap.get? b=some o->¬V b->s'.heap.get? b=some o)(hd:∀b o,V b->s.heap.get? b=some o->∃o',s'.heap.get? b=some o'/\∀vs,o'.data≠.fields vs)(ho:s'.os=s.os)(hg:s'.gens=s.gens):av V φ M s φ M s':=
 ⟨PB _,λ b o e zz nv=>.inl (hk b o e nv),λ zz q=>.inl q,se hk hd,ho,hg⟩
theorem St.back(x:St pl P B W fr φ M s)(y:St pl P B W' (fr'++fr) φ' M' s')(hw:∀b,W b->W' b):St pl P B W fr φ' M' s':=by
 refine⟨y.hr.same (λ b o e zz=>.inl e) (λ b o zz e=>e) (λ b q=>.inl (hw b q)),y.base,?_,x.Fi,λ env he L hf=>y.GJ env (Qt.mpr (.inr he)) L hf,λ b q=>y.FK b (hw b q),x.EY⟩
 have h:=y.frames
 clear y x
 induction fr' with
 |nil=>exact h
 |cons e r ih=>exact ih h.2.2
theorem St.tok(x:St pl P B W fr φ M s)(h:s'.heap=s.heap):St pl P B W fr φ M s':=x.Gp (λ b o e=>by refine aa h ?_;exact e)
theorem av.tok(h:s'.heap=s.heap)(o:s'.os=s.os)(g:s'.gens=s.gens):av V φ M s φ M s':=.ext (λ b o e=>by refine aa h ?_;exact e) o g
end
inductive LQ(pl:Pl)(P:QP)(B:QI)(W:P5->Prop)(fr:List Env)(φ:az)(M:AH)(s:PM)(Q:V->AH->Prop)(v:PL)(s':PM):Prop
 |mk (x:V) (φ':az) (M':AH):Q x M'->St pl P B W fr φ' M' s'->av bt φ M s φ' M' s'->VR pl P φ' (ow W φ' M') s'.heap x v->LQ pl P B W fr φ M s Q v s'
inductive ug(pl:Pl)(P:QP)(B:QI)(W:P5->Prop)(fr:List Env)(φ:az)(M:AH)(s:PM)(Q:List V->AH->Prop)(v:List PL)(s':PM):Prop
 |mk (x:List V) (φ':az) (M':AH):Q x M'->St pl P B W fr φ' M' s'->av bt φ M s φ' M' s'->am pl P φ' (ow W φ' M') s'.heap x v->ug pl P B W fr φ M s Q v s'
inductive uh(h:QI)(e:P5)(cls:PL):Prop
 |mk (oe:Obj) (vs:Array PL) (a0:PL):h.get? e=some oe->oe.cls=cls->oe.data=.fields vs->vs[0]? =some a0->vs[1]? =some .none->uh h e cls
inductive fA(h0:QI)(h:QI)(e:P5)(cls fl:PL):Prop
 |mk (oe:Obj) (vs:Array PL) (a0:PL) (T:P5) (oT:Obj) (ts:Array PL):h.get? e=some oe->oe.cls=cls->oe.data=.fields vs->vs[0]? =some a0->vs[1]? =some (.ref T)->h0.get? T=none->T≠e->h.get? T=some oT->oT.data=.fields ts->ts[3]? =some fl->fA h0 h e cls fl
inductive zQ(h0:QI)(fr:List Env)(h:QI)(e:P5)(cls:PL):Prop
 |mk (env:Env) (r:List Env) (L:P5):fr=env::r->env.frame=some L->fA h0 h e cls (Sk L)->zQ h0 fr h e cls
noncomputable def mC(h0:QI)(fr:List Env)(h:QI)(e:P5)(cls:PL):Prop:=
 h0.get? e=none/\(uh h e cls∨fA h0 h e cls .none∨zQ h0 fr h e cls)
inductive LX(pl:Pl)(P:QP)(B:QI)(W:P5->Prop)(fr:List Env)(cls:PL)(φ:az)(M:AH)(s:PM)(X:AH->Prop)(v:PL)(s':PM):Prop
 |mk (e:P5) (φ':az) (M':AH):v=.ref e->X M'->St pl P B W fr φ' M' s'->av bt φ M s φ' M' s'->mC s.heap fr s'.heap e cls->LX pl P B W fr cls φ M s X v s'
theorem fA.le{h0 h1:QI}{h:QI}{e:P5}{cls fl:PL}(x:fA h1 h e cls fl)(l:∀b,h1.get? b=none->h0.get? b=none):fA h0 h e cls fl:=
 x.casesOn λ oe vs a0 T oT ts a b c d e' f g h i j=>⟨oe,vs,a0,T,oT,ts,a,b,c,d,e',l _ f,g,h,i,j⟩
theorem mC.le{h0 h1:QI}{fr:List Env}{h:QI}{e:P5}{cls:PL}(x:mC h1 fr h e cls)(l:∀b,h1.get? b=none->h0.get? b=none):mC h0 fr h e cls:=
 ⟨l _ x.1,x.2.imp id λ y=>y.imp (λ y=>y.le l) λ y=>y.casesOn λ env r L a b c=>⟨env,r,L,a,b,c.le l⟩⟩
section
variable{pl:Pl}{P:QP}{B:QI}{W:P5->Prop}{fr:List Env}{φ φ₁:az}{M M₁:AH}{s s₁:PM}{cls:PL}
theorem LQ.step(x:av bt φ M s φ₁ M₁ s₁):∀v s',LQ pl P B W fr φ₁ M₁ s₁ Q v s'->LQ pl P B W fr φ M s Q v s':=
 λ zz zz h=>h.casesOn λ a φ' M' q st sp r=>⟨a,φ',M',q,st,x.trans sp,r⟩
theorem ug.step(x:av bt φ M s φ₁ M₁ s₁):∀v s',ug pl P B W fr φ₁ M₁ s₁ Q v s'->ug pl P B W fr φ M s Q v s':=
 λ zz zz h=>h.casesOn λ a φ' M' q st sp r=>⟨a,φ',M',q,st,x.trans sp,r⟩
theorem LX.step(x:av bt φ M s φ₁ M₁ s₁):∀v s',LX pl P B W fr cls φ₁ M₁ s₁ X v s'->LX pl P B W fr cls φ M s X v s':=
 λ zz zz h=>h.casesOn λ e φ' M' a b c d f=>⟨e,φ',M',a,b,c,x.trans d,f.le λ zz q=>x.dead q⟩
end
abbrev aH:=List (Str×Nat)
inductive yV(R:PL->Prop)(v:Option PL):Prop
 |mk (y:PL):v=some y->R y->yV R v
noncomputable def eS(pl:Pl)(P:QP)(φ:az)(o:P5->Prop)(h:QI):Option V->Option PL->Prop
 |none=>λ zz=>True
 |some x=>yV (VR pl P φ o h x)
theorem eS.mono{pl:Pl}{P:QP}{φ φ':az}{h h':QI}(hp:φ<+:φ')(hk:∀b o,h.get? b=some o->¬o1 b->b7 o (h'.get? b))(ho:∀b,o2 b->o1 b∨h.get? b=none):
  ∀{x:Option V} {v:Option PL},eS pl P φ o1 h x v->eS pl P φ' o2 h' x v
 |none,_,_=>trivial
 |some _,_,r=>r.casesOn λ y e r=>yV.mk y e (r.mono hp hk ho)
inductive Cw(env:Env)(Γ:aH)(h:QI)(R:Nat->Option PL->Prop):Prop
 |mk (m:Str->Option PL):h.Ns env.locals m->(∀x i,Γ.lookup x=some i->env.kindOf x=some .local->R i (m x))->Cw env Γ h R
inductive CE(env:Env)(W:P5->Prop)(Γ:aH)(h:QI)(R:Nat->Option PL->Prop)(x:Str):Prop
 |mk (c:P5) (v:Option PL):env.cells.lookup x=some c->W c->h.IsCell c v->(∀i,Γ.lookup x=some i->R i v)->CE env W Γ h R x
structure aC(pl:Pl)(P:QP)(W:P5->Prop)(Γ:aH)(env:Env)(ρ:an)(φ:az)(M:AH)(h:QI):Prop where
 kind:env.scope.kind=.function
 glob:env.globals=P3
 bi:env.builtins=QX
 inj:∀x y i,Γ.lookup x=some i->Γ.lookup y=some i->x=y
 Ff:W env.locals
 loc:Cw env Γ h λ i=>eS pl P φ (ow W φ M) h (ρ.get i)
 cell:∀x,(env.kindOf x=some .cell∨env.kindOf x=some .free)->CE env W Γ h (λ i=>eS pl P φ (ow W φ M) h (ρ.get i)) x
 apart:∀x y c,env.cells.lookup x=some c->env.cells.lookup y=some c->x=y
noncomputable def EQ(env:Env)(b:P5):Prop:=b=env.locals∨∃x,env.kindOf x=some .cell/\env.cells.lookup x=some b
noncomputable def bu(env:Env)(ns:List Str)(b:P5):Prop:=b=env.locals∨∃x∈ns,env.kindOf x=some .cell/\env.cells.lookup x=some b
theorem bu.EQ(h:bu env ns b):EQ env b:=h.imp id λ⟨x,_,q⟩=>⟨x,q⟩
theorem bu.sub(hs:∀x∈ns,x∈ms)(h:bu env ns b):bu env ms b:=h.imp id λ⟨x,hx,q⟩=>⟨x,hs x hx,q⟩
theorem bZ.ns{h h':QI}(hn:h.Ns a m)(hk:∀o,h.get? a=some o->bZ o (h'.get? a)):h'.Ns a m:=by
 refine yK hn λ o es ep ho r=> ?_;clear hn
 rcases hk o ho with k|⟨_,sl,k⟩
 ·exact BS o es ep k r
 ·exact BS _ es ep k r
theorem bZ.cell{h h':QI}{v:Option PL}(hn:h.IsCell a v)(hk:∀o,h.get? a=some o->bZ o (h'.get? a)):h'.IsCell a v:=by
 refine ai hn λ o ho r=> ?_;clear hn
 rcases hk o ho with k|⟨_,sl,k⟩
 ·exact aA o k r
 ·exact aA _ k r
section
variable{pl:Pl}{P:QP}{B:QI}{W V:P5->Prop}{Γ:aH}{env:Env}{ρ:an}{fr:List Env}{φ φ':az}{M M':AH}{s s':PM}
theorem aC.step(x:aC pl P W Γ env ρ φ M s.heap)(st:St pl P B W fr φ M s)(t:av V φ M s φ' M' s')(hv:∀b,V b->W b)(hp:∀b,W b->V b->b≠env.locals/\∀y,(env.kindOf y=some .cell∨env.kindOf y=some .free)->env.cells.lookup y≠some b):aC pl P W Γ env ρ φ' M' s'.heap:=by
 refine⟨x.kind,x.glob,x.bi,x.inj,x.Ff,?_,λ n hn=> ?_,x.apart⟩
 ·obtain⟨m,hm,hl⟩:=x.loc
  refine⟨m,bZ.ns hm λ o e=>t.keep _ o e (λ q=>st.hr.EU _ q x.Ff) λ q=>(hp _ x.Ff q).1 rfl,λ n i hi hk=>(hl n i hi hk).mono t.pre (t.E5 hv) t.FY⟩
 ·obtain⟨c,v,hc,hw,EE,hr⟩:=x.cell n hn
  exact⟨c,v,hc,hw,bZ.cell EE λ o e=>t.keep _ o e (λ q=>st.hr.EU _ q hw) λ q=>(hp _ hw q).2 n hn hc,λ i hi=>(hr i hi).mono t.pre (t.E5 hv) t.FY⟩
theorem aC.Fb(x:aC pl P W Γ env ρ φ M s.heap)(st:St pl P B W fr φ M s)(t:av bt φ M s φ' M' s'):aC pl P W Γ env ρ φ' M' s'.heap:=
 x.step st t (λ zz q=>q.elim) λ zz zz q=>q.elim
theorem an.GZ:∀(ρ:an) (i j:Nat) (v:Mine.V),i<ρ.length->(ρ.put i v).get j=if j=i then some v else ρ.get j:=by
 intro ρ
 induction ρ with
 |nil=>
  intro i j v h
  simp at h
 |cons x r ih=>
  intro y1
  cases y1 with
  |zero=>
   intro y2
   cases y2 with
   |zero=>
    intro v y3
    exact rfl
   |succ j=>
    intro v y4
    refine aa (if_neg (XR j)) ?_;rfl
  |succ i=>
   intro y5
   cases y5 with
   |zero=>
    intro v y6
    refine aa (if_neg (ae 0x980306146001 rfl i)) ?_;rfl
   |succ j=>
    intro v h
    rewrite[zf];refine aa (zx _ _ _) ?_;refine aa (ih i j v (by simpa using h)) ?_
    by_cases e:j=i
    ·refine aa (if_pos e) ?_;refine aa (if_pos (ae 0x90c185206144349102 rfl j i e)) ?_;rfl
    ·refine aa (if_neg e) ?_;refine aa (if_neg (ae 0x92600c185206144980349102 rfl j i e)) ?_;rfl
theorem an.Hn:∀(ρ:an) (i:Nat) (v:Mine.V),ρ.length<=i->ρ.put i v=ρ:=by
 intro ρ
 induction ρ with
 |nil=>
  intro y1 y2 y3
  exact rfl
 |cons x r ih=>
  intro y4
  cases y4 with
  |zero=>
   intro y5 h
   simp at h
  |succ i=>
   intro v h
   rewrite[zf];refine aa (ih i v (by simpa using h)) ?_;rfl
theorem an.I9:∀(ρ:an) (i:Nat),ρ.length<=i->ρ.get i=none:=by
 intro ρ
 induction ρ with
 |nil=>
  intro y1 y2
  exact rfl
 |cons x r ih=>
  intro y3
  cases y3 with
  |zero=>
   intro h
   simp at h
  |succ i=>
   intro h
   refine aa (zx _ _ _) ?_;refine aa (ih i (by simpa using h)) ?_;rfl
theorem an.EP(ρ:an)(v:Mine.V)(h:j≠i):(ρ.put i v).get j=ρ.get j:=by
 by_cases l:i<ρ.length
 ·refine aa (an.GZ ρ i j v l) ?_;refine aa (if_neg h) ?_;rfl
 ·refine aa (an.Hn ρ i v (ae 0x905148980249102 rfl i (Q4 ρ) l)) ?_;rfl
theorem an.Fu(ρ:an)(v:Mine.V):(ρ.put i v).get i=some v∨(ρ.put i v).get i=none:=by
 by_cases l:i<ρ.length
 ·refine aa (an.GZ ρ i i v l) ?_;refine aa (if_pos rfl) ?_;exact .inl rfl
 ·refine aa (an.Hn ρ i v (ae 0x905148980249102 rfl i (Q4 ρ) l)) ?_;refine aa (an.I9 ρ i (ae 0x905148980249102 rfl i (Q4 ρ) l)) ?_;exact .inr rfl
theorem Bu{E:PL->PM->Prop}{s:PM}{a:P5}{m:Str->Option PL}{v:PL}{Q:Unit->PM->Prop}(hn:s.heap.Ns a m)
  (hQ:∀h',h'.Ns a (λ x=>if x=name then some v else m x)->Qr a s.heap h'->(∀o,s.heap.get? a=some o->∃o',h'.get? a=some o'/\o'.cls=o.cls)->Q () {s with heap:=h',toks:=s.toks+1}):PT M0 A (nsSet a name v) Q E s:=λ Γ p hΓ=>by
 have Ni:=hn
 refine vc Ni λ o es ep ho hd hk hm=> ?_;clear Ni
 have MN:=Sem.wp_nsSet M0 Γ (λ e zz s'=>E e s') p s hn name v (λ zz zz s'=>∀h',s'={s with heap:=h',toks:=s.toks+1}->h'.Ns a (λ x=>if x=name then some v else m x)/\Qr a s.heap h') (λ h' h1 h2 h'' e=>by cases e;exact⟨h1,h2⟩)
 have key:∀(Q1:Unit->Pos->PM->Prop),Sem.wp M0 Γ (nsSet a name v) Q1 (λ e zz s'=>E e s') p s ↔
   Q1 () p {s with heap:=s.heap.update a (Vz name (Qh M0.w.params name) (.str name s.toks) v),toks:=s.toks+1}:=by
  intro Q1
  have LR:es.any (·.refKey)=false:=by
   rewrite[Array.any_eq_false'];intro e he;obtain⟨n,t,h⟩:=hk e he;simp[Us,h]
  simp only [nsSet,strHash,Sem.wp_bind',Sem.wp_cmd_ask,Sem.wp_pure',Sem.wp_cmd_mkText]
  refine aa ((Sem.wp_loadPart_of M0 Γ (λ e zz s'=>E e s') p {s with toks:=s.toks+1} (o:=o) _ ho) _) ?_
  simp only [hd,aRefKeyMayBeTheName_eq,aRefKeyMayBeTheNameByArray,LR,Ta,P6,if_false,Sem.wp_cmd_updatePart]
  exact⟨λ h=>h.2,λ h=>⟨by refine aa ho ?_;rfl,h⟩⟩
 rw[key] at MN ⊢
 obtain⟨l1,l2⟩:=MN _ rfl
 refine hQ _ l1 l2 λ o' e=> ?_
 rw[ho] at e;cases e
 refine yK l1 λ o2 es2 ep2 F3 zz=> ?_;clear l1
 refine aA o2 F3 ?_
 have Is:(Vz name (Qh M0.w.params name) (.str name s.toks) v o).isFreed=false:=by
  obtain⟨c,d,dt,sl⟩:=o
  subst hd
  simp only [Yo,Xm]
  split<;>rfl
 rw[P7 _ ho Is] at F3
 cases F3
 obtain⟨c,d,dt,sl⟩:=o
 subst hd
 simp only [Yo,Xm]
 split<;>rfl
theorem ur{E:PL->PM->Prop}{s:PM}{env:Env}{c:P5}{v₀:Option PL}{v:PL}{Q:Unit->PM->Prop}(hk:env.scope.kind=.function)(hl:env.kindOf name=some .cell)
  (hc:env.cells.lookup name=some c)(hv:s.heap.IsCell c v₀)
  (h:∀h',h'.IsCell c (some v)->Qr c s.heap h'->(∀o,s.heap.get? c=some o->∃o',h'.get? c=some o'/\o'.cls=o.cls)->Q () {s with heap:=h'}):PT M0 A (Xx env name v) Q E s:=by
 unfold Xx
 refine aa hl ?_;refine aa hk ?_
 show PT _ _ (cellOf env name>>=λ c=>cellSet c (some v)) _ _ _
 refine ai hv λ o ho hd=> ?_;clear hv
 refine PA (wpAny_cellOf hc ?_)
 unfold cellSet
 refine PA (wpAny_load ho ?_)
 refine aa hd ?_
 have hg:(s.heap.update c λ o=>{o with data:=.cell (some v)}).get? c=some {o with data:=.cell (some v)}:=P7 _ ho rfl
 exact wpAny_update ho (h _ ⟨_,hg,rfl⟩ (QA ..) λ o' e=>by rw[ho] at e;cases e;exact aA _ hg rfl)
theorem fG{E:PL->PM->Prop}{i:Nat}{x:Mine.V}{v:PL}{Q:Unit->PM->Prop}(er:aC pl P W Γ env ρ φ M s.heap)(st:St pl P B W fr φ M s)
  (hi:Γ.lookup n=some i)(hk:env.kindOf n=some .local∨env.kindOf n=some .cell)(r:VR pl P φ (ow W φ M) s.heap x v)
  (h:∀s',aC pl P W Γ env (ρ.put i x) φ M s'.heap->St pl P B W fr φ M s'->av (bu env [n]) φ M s φ M s'->Q () s'):PT M0 A (Xx env n v) Q E s:=by
 have JN:∀{o:P5->Prop} {h:QI},VR pl P φ o h x v->eS pl P φ o h ((ρ.put i x).get i) (some v):=λ r=>by
  rcases an.Fu ρ (i:=i) x with e|e<;>refine aa e ?_
  ·exact⟨v,rfl,r⟩
  ·trivial
 obtain⟨m,hm,hl⟩:=er.loc
 rcases hk with hk|hk
 ·refine aa ((storeName_local hk (by refine aa er.kind ?_;rfl)) _) ?_
  refine Bu hm λ h' hn hs Go=> ?_
  have Hx:∀b o,s.heap.get? b=some o->¬(b=env.locals)->h'.get? b=some o:=λ b o e nb=>hs.extBut b o nb e
  have Fh:∀b o,s.heap.get? b=some o->¬ow W φ M b->b7 o (h'.get? b):=λ b o e n=>.inl (Hx b o e λ q=>n (.inl (by refine aa q ?_;exact er.Ff)))
  have Fe:s.heap.objs.size<=h'.objs.size:=by refine aa hs.1 ?_;exact PE _
  have Gf:∀b o,b=env.locals->s.heap.get? b=some o->∃o',h'.get? b=some o'/\∀vs,o'.data≠.fields vs:=λ b o q e=>by
   subst q
   refine vd hn λ o2 es ep F3 hd2 zz=> ?_;clear hn
   exact aA o2 F3 λ vs q=>by rw[hd2] at q;cases q
  refine h _ ⟨er.kind,er.glob,er.bi,er.inj,er.Ff,⟨_,hn,λ y j hj JW=> ?_⟩,λ y hy=> ?_,er.apart⟩
   (St.changed (V:=λ b=>b=env.locals) st (λ b o e nb=>Hx b o e nb) (λ b q=>by refine aa q ?_;exact er.Ff) Gf λ b o q e c zz=>by subst q;refine ai (Go o e) λ o' e' c'=> ?_;exact aA o' e' (c'.trans c))
   (av.mono (V:=λ b=>b=env.locals) (.changed (λ b o e nb=>Hx b o e nb) Gf rfl rfl) λ b q zz=>.inl q)
  ·by_cases e:y=n
   ·subst e;rw[hi] at hj;cases hj
    refine aa (if_pos rfl) ?_
    exact JN (r.mono (PB _) Fh λ b q=>.inl q)
   ·refine aa (if_neg e) ?_;refine aa (an.EP ρ x λ q=>e (er.inj y n i (by refine aE q ?_;exact hj) hi)) ?_
    exact(hl y j hj JW).mono (PB _) Fh λ b q=>.inl q
  ·obtain⟨c,u,hc,hw,EE,hr⟩:=er.cell y hy
   have Go:c≠env.locals:=λ q=>by
    refine ai EE λ o ho hd=> ?_;clear EE;refine vd hm λ o2 es ep F3 hd2 zz=> ?_;clear hm
    rw[q,F3] at ho;cases ho;rw[hd2] at hd;cases hd
   refine⟨c,u,hc,hw,EE.sameBut hs Go,λ j hj=> ?_⟩
   have LC:j≠i:=λ q=>by
    have:=er.inj y n i (by refine aE q ?_;exact hj) hi
    subst this;rw[hk] at hy;rcases hy with hy|hy<;>cases hy
   refine aa (an.EP ρ x LC) ?_
   exact(hr j hj).mono (PB _) Fh λ b q=>.inl q
 ·obtain⟨c,u,hc,hw,EE,hr⟩:=er.cell n (.inl hk)
  refine ur er.kind hk hc EE λ h' hn hs LN=> ?_
  have Hx:∀b o,s.heap.get? b=some o->¬(b=c)->h'.get? b=some o:=λ b o e nb=>hs.extBut b o nb e
  have Fh:∀b o,s.heap.get? b=some o->¬ow W φ M b->b7 o (h'.get? b):=λ b o e n=>.inl (Hx b o e λ q=>n (.inl (by refine aa q ?_;exact hw)))
  have Fe:s.heap.objs.size<=h'.objs.size:=by refine aa hs.1 ?_;exact PE _
  have Go:env.locals≠c:=λ q=>by
   refine ai EE λ o ho hd=> ?_;clear EE;refine vd hm λ o2 es ep F3 hd2 zz=> ?_;clear hm
   rw[<-q,F3] at ho;cases ho;rw[hd2] at hd;cases hd
  have Gf:∀b o,b=c->s.heap.get? b=some o->∃o',h'.get? b=some o'/\∀vs,o'.data≠.fields vs:=λ b o q e=>by
   subst q
   refine ai hn λ o2 F3 hd2=> ?_;clear hn
   exact aA o2 F3 λ vs q=>by rw[hd2] at q;cases q
  refine h _ ⟨er.kind,er.glob,er.bi,er.inj,er.Ff,⟨m,hm.sameBut hs Go,λ y j hj JW=> ?_⟩,λ y hy=> ?_,er.apart⟩
   (St.changed (V:=λ b=>b=c) st (λ b o e nb=>Hx b o e nb) (λ b q=>by refine aa q ?_;exact hw) Gf λ b o q e cf zz=>by subst q;refine ai (LN o e) λ o' e' c'=> ?_;exact aA o' e' (c'.trans cf))
   (av.mono (V:=λ b=>b=c) (.changed (λ b o e nb=>Hx b o e nb) Gf rfl rfl) λ b q zz=>.inr ⟨n,.head _,hk,by refine aa q ?_;exact hc⟩)
  ·have LC:j≠i:=λ q=>by
    have:=er.inj y n i (by refine aE q ?_;exact hj) hi
    subst this;rw[hk] at JW;cases JW
   refine aa (an.EP ρ x LC) ?_
   exact(hl y j hj JW).mono (PB _) Fh λ b q=>.inl q
  ·by_cases e:y=n
   ·subst e
    refine⟨c,some v,hc,hw,hn,λ j hj=> ?_⟩
    rw[hi] at hj;cases hj
    exact JN (r.mono (PB _) Fh λ b q=>.inl q)
   ·obtain⟨c2,u2,H8,Os,I2,H3⟩:=er.cell y hy
    have KI:c2≠c:=λ q=>e (er.apart y n c (by refine aE q ?_;exact H8) hc)
    refine⟨c2,u2,H8,Os,I2.sameBut hs KI,λ j hj=> ?_⟩
    refine aa (an.EP ρ x λ q=>e (er.inj y n i (by refine aE q ?_;exact hj) hi)) ?_
    exact(H3 j hj).mono (PB _) Fh λ b q=>.inl q
theorem AJ{E:PL->PM->Prop}{i:Nat}{x:Mine.V}{Q:PL->PM->Prop}(er:aC pl P W Γ env ρ φ M s.heap)
  (hi:Γ.lookup n=some i)(hk:env.kindOf n=some .local∨env.kindOf n=some .cell∨env.kindOf n=some .free)(hx:ρ.get i=some x)(hn:(n==("__classdict__" :Str))=false)
  (h:∀v,VR pl P φ (ow W φ M) s.heap x v->Q v s):PT M0 A (loadName env n) Q E s:=by
 rcases hk with hk|hk|hk
 ·obtain⟨m,hm,hl⟩:=er.loc
  have:=hl n i hi hk
  rw[hx] at this
  obtain⟨y,e,r⟩:=this
  exact RS er.kind hk hm e (h y r)
 ·obtain⟨c,v,hc,_,EE,hr⟩:=er.cell n (.inl hk)
  have:=hr i hi
  rw[hx] at this
  obtain⟨y,e,r⟩:=this
  subst e
  exact wpAny_loadName_cell er.kind hk hc EE (h y r)
 ·obtain⟨c,v,hc,_,EE,hr⟩:=er.cell n (.inr hk)
  have:=hr i hi
  rw[hx] at this
  obtain⟨y,e,r⟩:=this
  subst e
  exact wpAny_loadName_free er.kind hk hc EE (h y r) hn
end
end Mine
end
section
namespace Mine
open PySem
theorem aU{c:Prop}[Decidable c]{f:c->Bool}{C:Prop}(h:(if h:c then f h else false)=true)(k:∀h:c,f h=true->C):C:=by
 by_cases h0:c
 ·rw[dif_pos h0] at h;exact k h0 h
 ·rw[dif_neg h0] at h;cases h
noncomputable def cx(x:Qa)(f:Str->Pos->Bool):Bool:=if h:x.ctorIdx=23 then R3 (motive_1:=λ zz=>Bool) x h f else false
theorem bR{f:Str->Pos->Bool}{mo:Qa->Prop}(h:cx x f=true)(k:∀y p,f y p=true->mo (.Name y p)):mo x:=
 aU h λ h0=>R3 (motive_1:=λ x=>∀h0:x.ctorIdx=23,R3 (motive_1:=λ zz=>Bool) x h0 f=true->mo x) x h0 (λ y p zz=>k y p) h0
noncomputable def cW(x:Qa)(f:Const->Nat->Pos->Bool):Bool:=if h:x.ctorIdx=19 then Tz (motive_1:=λ zz=>Bool) x h f else false
theorem ct{f:Const->Nat->Pos->Bool}{mo:Qa->Prop}(h:cW x f=true)(k:∀c i p,f c i p=true->mo (.Constant c i p)):mo x:=
 aU h λ h0=>Tz (motive_1:=λ x=>∀h0:x.ctorIdx=19,Tz (motive_1:=λ zz=>Bool) x h0 f=true->mo x) x h0 (λ c i p zz=>k c i p) h0
noncomputable def oF(x:Qa)(f:List Qa->Nat->Pos->Bool):Bool:=if h:x.ctorIdx=25 then Re (motive_1:=λ zz=>Bool) x h f else false
theorem nh{f:List Qa->Nat->Pos->Bool}{mo:Qa->Prop}(h:oF x f=true)(k:∀xs i p,f xs i p=true->mo (.Tuple xs i p)):mo x:=
 aU h λ h0=>Re (motive_1:=λ x=>∀h0:x.ctorIdx=25,Re (motive_1:=λ zz=>Bool) x h0 f=true->mo x) x h0 (λ xs i p zz=>k xs i p) h0
noncomputable def ww(x:Qa)(f:List Qa->Pos->Bool):Bool:=if h:x.ctorIdx=24 then UW (motive_1:=λ zz=>Bool) x h f else false
theorem wv{f:List Qa->Pos->Bool}{mo:Qa->Prop}(h:ww x f=true)(k:∀xs p,f xs p=true->mo (.List xs p)):mo x:=
 aU h λ h0=>UW (motive_1:=λ x=>∀h0:x.ctorIdx=24,UW (motive_1:=λ zz=>Bool) x h0 f=true->mo x) x h0 (λ xs p zz=>k xs p) h0
noncomputable def qS(x:Qa)(f:List (Option Qa)->List Qa->Pos->Bool):Bool:=if h:x.ctorIdx=6 then UX (motive_1:=λ zz=>Bool) x h f else false
theorem ix{f:List (Option Qa)->List Qa->Pos->Bool}{mo:Qa->Prop}(h:qS x f=true)(k:∀ks xs p,f ks xs p=true->mo (.Dict ks xs p)):mo x:=
 aU h λ h0=>UX (motive_1:=λ x=>∀h0:x.ctorIdx=6,UX (motive_1:=λ zz=>Bool) x h0 f=true->mo x) x h0 (λ ks xs p zz=>k ks xs p) h0
noncomputable def tF(x:Qa)(f:Qa->Operator->Qa->Pos->Bool):Bool:=if h:x.ctorIdx=2 then UE (motive_1:=λ zz=>Bool) x h f else false
theorem uM{f:Qa->Operator->Qa->Pos->Bool}{mo:Qa->Prop}(h:tF x f=true)(k:∀a o b p,f a o b p=true->mo (.BinOp a o b p)):mo x:=
 aU h λ h0=>UE (motive_1:=λ x=>∀h0:x.ctorIdx=2,UE (motive_1:=λ zz=>Bool) x h0 f=true->mo x) x h0 (λ a o b p zz=>k a o b p) h0
noncomputable def ga(x:Qa)(f:UnaryOp->Qa->Pos->Bool):Bool:=if h:x.ctorIdx=3 then TM (motive_1:=λ zz=>Bool) x h f else false
theorem gX{f:UnaryOp->Qa->Pos->Bool}{mo:Qa->Prop}(h:ga x f=true)(k:∀o a p,f o a p=true->mo (.UnaryOp o a p)):mo x:=
 aU h λ h0=>TM (motive_1:=λ x=>∀h0:x.ctorIdx=3,TM (motive_1:=λ zz=>Bool) x h0 f=true->mo x) x h0 (λ o a p zz=>k o a p) h0
noncomputable def iy(x:Qa)(f:Qa->List CmpOp->List Qa->Pos->Bool):Bool:=if h:x.ctorIdx=15 then TN (motive_1:=λ zz=>Bool) x h f else false
theorem gY{f:Qa->List CmpOp->List Qa->Pos->Bool}{mo:Qa->Prop}(h:iy x f=true)(k:∀a os xs p,f a os xs p=true->mo (.Compare a os xs p)):mo x:=
 aU h λ h0=>TN (motive_1:=λ x=>∀h0:x.ctorIdx=15,TN (motive_1:=λ zz=>Bool) x h0 f=true->mo x) x h0 (λ a os xs p zz=>k a os xs p) h0
noncomputable def qT(x:Qa)(f:BoolOp->List Qa->Pos->Bool):Bool:=if h:x.ctorIdx=0 then Ub (motive_1:=λ zz=>Bool) x h f else false
theorem sP{f:BoolOp->List Qa->Pos->Bool}{mo:Qa->Prop}(h:qT x f=true)(k:∀o xs p,f o xs p=true->mo (.BoolOp o xs p)):mo x:=
 aU h λ h0=>Ub (motive_1:=λ x=>∀h0:x.ctorIdx=0,Ub (motive_1:=λ zz=>Bool) x h0 f=true->mo x) x h0 (λ o xs p zz=>k o xs p) h0
noncomputable def tE(x:Qa)(f:Qa->Qa->Qa->Pos->Bool):Bool:=if h:x.ctorIdx=5 then UD (motive_1:=λ zz=>Bool) x h f else false
theorem uL{f:Qa->Qa->Qa->Pos->Bool}{mo:Qa->Prop}(h:tE x f=true)(k:∀t a b p,f t a b p=true->mo (.IfExp t a b p)):mo x:=
 aU h λ h0=>UD (motive_1:=λ x=>∀h0:x.ctorIdx=5,UD (motive_1:=λ zz=>Bool) x h0 f=true->mo x) x h0 (λ t a b p zz=>k t a b p) h0
noncomputable def kD(x:Qa)(f:Qa->List Qa->List Keyword->Pos->Bool):Bool:=if h:x.ctorIdx=16 then UY (motive_1:=λ zz=>Bool) x h f else false
theorem kC{f:Qa->List Qa->List Keyword->Pos->Bool}{mo:Qa->Prop}(h:kD x f=true)(k:∀fn xs kw p,f fn xs kw p=true->mo (.Call fn xs kw p)):mo x:=
 aU h λ h0=>UY (motive_1:=λ x=>∀h0:x.ctorIdx=16,UY (motive_1:=λ zz=>Bool) x h0 f=true->mo x) x h0 (λ fn xs kw p zz=>k fn xs kw p) h0
noncomputable def dp(x:Qa)(f:Qa->Str->Pos->Bool):Bool:=if h:x.ctorIdx=20 then Tk (motive_1:=λ zz=>Bool) x h f else false
theorem cR{f:Qa->Str->Pos->Bool}{mo:Qa->Prop}(h:dp x f=true)(k:∀o a p,f o a p=true->mo (.Attribute o a p)):mo x:=
 aU h λ h0=>Tk (motive_1:=λ x=>∀h0:x.ctorIdx=20,Tk (motive_1:=λ zz=>Bool) x h0 f=true->mo x) x h0 (λ o a p zz=>k o a p) h0
noncomputable def eC(x:Qa)(f:Qa->Qa->Pos->Bool):Bool:=if h:x.ctorIdx=21 then Tj (motive_1:=λ zz=>Bool) x h f else false
theorem d8{f:Qa->Qa->Pos->Bool}{mo:Qa->Prop}(h:eC x f=true)(k:∀o i p,f o i p=true->mo (.Subscript o i p)):mo x:=
 aU h λ h0=>Tj (motive_1:=λ x=>∀h0:x.ctorIdx=21,Tj (motive_1:=λ zz=>Bool) x h0 f=true->mo x) x h0 (λ o i p zz=>k o i p) h0
noncomputable def oH(x:Qa)(f:Option Qa->Option Qa->Option Qa->Pos->Bool):Bool:=if h:x.ctorIdx=26 then UC (motive_1:=λ zz=>Bool) x h f else false
theorem nj{f:Option Qa->Option Qa->Option Qa->Pos->Bool}{mo:Qa->Prop}(h:oH x f=true)(k:∀l u t p,f l u t p=true->mo (.Slice l u t p)):mo x:=
 aU h λ h0=>UC (motive_1:=λ x=>∀h0:x.ctorIdx=26,UC (motive_1:=λ zz=>Bool) x h0 f=true->mo x) x h0 (λ l u t p zz=>k l u t p) h0
noncomputable def nq(x:Qa)(f:Qa->List Q7->Xu->Pos->Bool):Bool:=if h:x.ctorIdx=8 then Tx (motive_1:=λ zz=>Bool) x h f else false
theorem pS{f:Qa->List Q7->Xu->Pos->Bool}{mo:Qa->Prop}(h:nq x f=true)(k:∀e gs sc p,f e gs sc p=true->mo (.ListComp e gs sc p)):mo x:=
 aU h λ h0=>Tx (motive_1:=λ x=>∀h0:x.ctorIdx=8,Tx (motive_1:=λ zz=>Bool) x h0 f=true->mo x) x h0 (λ e gs sc p zz=>k e gs sc p) h0
noncomputable def dP(x:Sd)(f:List Qa->Qa->Pos->Bool):Bool:=if h:x.ctorIdx=5 then T8 (motive_2:=λ zz=>Bool) x h f else false
theorem cQ{x:Sd}{f:List Qa->Qa->Pos->Bool}{mo:Sd->Prop}(h:dP x f=true)(k:∀ts v p,f ts v p=true->mo (.Assign ts v p)):mo x:=
 aU h λ h0=>T8 (motive_2:=λ x=>∀h0:x.ctorIdx=5,T8 (motive_2:=λ zz=>Bool) x h0 f=true->mo x) x h0 (λ ts v p zz=>k ts v p) h0
noncomputable def pi(x:Sd)(f:Option Qa->Pos->Bool):Bool:=if h:x.ctorIdx=3 then T7 (motive_2:=λ zz=>Bool) x h f else false
theorem qQ{x:Sd}{f:Option Qa->Pos->Bool}{mo:Sd->Prop}(h:pi x f=true)(k:∀v p,f v p=true->mo (.Return v p)):mo x:=
 aU h λ h0=>T7 (motive_2:=λ x=>∀h0:x.ctorIdx=3,T7 (motive_2:=λ zz=>Bool) x h0 f=true->mo x) x h0 (λ v p zz=>k v p) h0
noncomputable def zh(x:Sd)(f:Qa->List Sd->List Sd->Pos->Bool):Bool:=if h:x.ctorIdx=12 then V2 (motive_2:=λ zz=>Bool) x h f else false
theorem x4{x:Sd}{f:Qa->List Sd->List Sd->Pos->Bool}{mo:Sd->Prop}(h:zh x f=true)(k:∀t a b p,f t a b p=true->mo (.If t a b p)):mo x:=
 aU h λ h0=>V2 (motive_2:=λ x=>∀h0:x.ctorIdx=12,V2 (motive_2:=λ zz=>Bool) x h0 f=true->mo x) x h0 (λ t a b p zz=>k t a b p) h0
noncomputable def wu(x:Sd)(f:Qa->Qa->List Sd->List Sd->Pos->Bool):Bool:=if h:x.ctorIdx=9 then Vn (motive_2:=λ zz=>Bool) x h f else false
theorem wt{x:Sd}{f:Qa->Qa->List Sd->List Sd->Pos->Bool}{mo:Sd->Prop}(h:wu x f=true)(k:∀t i b e p,f t i b e p=true->mo (.For t i b e p)):mo x:=
 aU h λ h0=>Vn (motive_2:=λ x=>∀h0:x.ctorIdx=9,Vn (motive_2:=λ zz=>Bool) x h0 f=true->mo x) x h0 (λ t i b e p zz=>k t i b e p) h0
noncomputable def qP(x:Sd)(f:Qa->List Sd->List Sd->Pos->Bool):Bool:=if h:x.ctorIdx=11 then Uz (motive_2:=λ zz=>Bool) x h f else false
theorem sN{x:Sd}{f:Qa->List Sd->List Sd->Pos->Bool}{mo:Sd->Prop}(h:qP x f=true)(k:∀t b e p,f t b e p=true->mo (.While t b e p)):mo x:=
 aU h λ h0=>Uz (motive_2:=λ x=>∀h0:x.ctorIdx=11,Uz (motive_2:=λ zz=>Bool) x h0 f=true->mo x) x h0 (λ t b e p zz=>k t b e p) h0
noncomputable def qR(x:Sd)(f:Option Qa->Option Qa->Pos->Bool):Bool:=if h:x.ctorIdx=16 then UA (motive_2:=λ zz=>Bool) x h f else false
theorem sO{x:Sd}{f:Option Qa->Option Qa->Pos->Bool}{mo:Sd->Prop}(h:qR x f=true)(k:∀e c p,f e c p=true->mo (.Raise e c p)):mo x:=
 aU h λ h0=>UA (motive_2:=λ x=>∀h0:x.ctorIdx=16,UA (motive_2:=λ zz=>Bool) x h0 f=true->mo x) x h0 (λ e c p zz=>k e c p) h0
noncomputable def wr(x:Sd)(f:List Sd->List ExceptHandler->List Sd->List Sd->Pos->Bool):Bool:=if h:x.ctorIdx=17 then Vm (motive_2:=λ zz=>Bool) x h f else false
theorem wq{x:Sd}{f:List Sd->List ExceptHandler->List Sd->List Sd->Pos->Bool}{mo:Sd->Prop}(h:wr x f=true)(k:∀b hs e fb p,f b hs e fb p=true->mo (.Try b hs e fb p)):mo x:=
 aU h λ h0=>Vm (motive_2:=λ x=>∀h0:x.ctorIdx=17,Vm (motive_2:=λ zz=>Bool) x h0 f=true->mo x) x h0 (λ b hs e fb p zz=>k b hs e fb p) h0
noncomputable def oI(x:Sd)(f:Qa->Pos->Bool):Bool:=if h:x.ctorIdx=24 then UV (motive_2:=λ zz=>Bool) x h f else false
theorem nk{x:Sd}{f:Qa->Pos->Bool}{mo:Sd->Prop}(h:oI x f=true)(k:∀e p,f e p=true->mo (.Expr e p)):mo x:=
 aU h λ h0=>UV (motive_2:=λ x=>∀h0:x.ctorIdx=24,UV (motive_2:=λ zz=>Bool) x h0 f=true->mo x) x h0 (λ e p zz=>k e p) h0
noncomputable def cy{α:Type}(xs:List α)(f:α->List α->Bool):Bool:=match xs with|x::r=>f x r|[]=>false
theorem bK{α:Type}{xs:List α}{f:α->List α->Bool}{mo:List α->Prop}(h:cy xs f=true)(k:∀x r,f x r=true->mo (x::r)):mo xs:=by
 cases xs with
 |nil=>cases h
 |cons x r=>exact k x r h
noncomputable def bW{α:Type}(xs:List α):Bool:=match xs with|[]=>true|_::_=>false
theorem bl{α:Type}{xs:List α}{mo:List α->Prop}(h:bW xs=true)(k:mo []):mo xs:=by
 cases xs with
 |nil=>exact k
 |cons x r=>cases h
noncomputable def eW{α:Type}(xs:List α)(f:α->Bool):Bool:=cy xs λ x r=>bW r&&f x
theorem af(h:(a&&b)=true):a=true/\b=true:=by
 cases a with
 |true=>exact⟨rfl,h⟩
 |false=>cases h
theorem kT{a b c d e f u v r:Bool}{P:Prop}(h:(a&&(b&&(c&&(d&&(e&&(f&&(u&&(v&&r))))))))=true)(k:a=true->b=true->c=true->d=true->e=true->f=true->u=true->v=true->r=true->P):P:=
 k (af h).1 (af (af h).2).1 (af (af (af h).2).2).1 (af (af (af (af h).2).2).2).1 (af (af (af (af (af h).2).2).2).2).1 (af (af (af (af (af (af h).2).2).2).2).2).1 (af (af (af (af (af (af (af h).2).2).2).2).2).2).1 (af (af (af (af (af (af (af (af h).2).2).2).2).2).2).2).1 (af (af (af (af (af (af (af (af h).2).2).2).2).2).2).2).2
theorem bO{α:Type}{xs:List α}{f:α->Bool}{mo:List α->Prop}(h:eW xs f=true)(k:∀x,f x=true->mo [x]):mo xs:=
 bK h λ x zz h=>bl (mo:=λ r=>mo (x::r)) (af h).1 (k x (af h).2)
noncomputable def pq{α:Type}(xs:List α)(f:α->α->Bool):Bool:=cy xs λ x r=>eW r (f x)
theorem gZ{α:Type}{xs:List α}{f:α->α->Bool}{mo:List α->Prop}(h:pq xs f=true)(k:∀x y,f x y=true->mo [x,y]):mo xs:=
 bK h λ x zz h=>bO (mo:=λ r=>mo (x::r)) h (k x)
noncomputable def bD{α:Type}(o:Option α)(f:α->Bool):Bool:=match o with|some x=>f x|none=>false
theorem cw{α:Type}{o:Option α}{f:α->Bool}{mo:Option α->Prop}(h:bD o f=true)(k:∀x,f x=true->mo (some x)):mo o:=by
 cases o with
 |none=>cases h
 |some x=>exact k x h
theorem eY{α:Type}{o:Option α}{mo:Option α->Prop}(h:o.isNone=true)(k:mo none):mo o:=by
 cases o with
 |none=>exact k
 |some x=>cases h
noncomputable def uK(x:Const)(f:Str->Bool):Bool:=if h:x.ctorIdx=5 then U0 (motive:=λ zz=>Bool) x h f else false
theorem qO{x:Const}{f:Str->Bool}{mo:Const->Prop}(h:uK x f=true)(k:∀t,f t=true->mo (.str t)):mo x:=
 aU h λ h0=>U0 (motive:=λ x=>∀h0:x.ctorIdx=5,U0 (motive:=λ zz=>Bool) x h0 f=true->mo x) x h0 (λ t zz=>k t) h0
theorem au{α:Type}{a:α}{C:Prop}(h:none=some a):C:=absurd h.symm (Wt a)
theorem aJ [Decidable c](h:decide c=true):c:=of_decide_eq_true h
theorem aq{α:Type}[BEq α][LawfulBEq α]{a b:α}(h:(a==b)=true):a=b:=eq_of_beq h
theorem da(h:(!b)=true):b=false:=by cases b;rfl;cases h
end Mine
end
section
namespace Mine
open PySem PySem.W PySem.Calls PyProof.Rows
structure Gs where
 pl:Pl
 prog:Ui
 w:TD
 B:QI
 cls:PL
structure cj(A:Qz)(fr:List Env)(n:Nat):Prop where
 handled:A.handled=none
 frames:A.frames=some fr
 guards:A.guards=some []
 depth:A.depth+2*n+3<UN
 units:A.units+20*n+1000<Vt
noncomputable def aj(g:Gs)(Γ:aH)(N:List (Str×RZ))(n:Nat)(e:E)(x:Qa):Prop:=
 ∀W A fr env ρ φ M s Q X,cj A fr n->env.scope.names=N->aC g.pl g.w.params W Γ env ρ φ M s.heap->St g.pl g.w.params g.B W fr φ M s->
  aO g.pl.P (ag g.pl.P n) e ρ M Q X->PT (PY g.prog g.w) A (eval x env) (LQ g.pl g.w.params g.B W fr φ M s Q) (LX g.pl g.w.params g.B W fr g.cls φ M s X) s
section
variable{g:Gs}{Γ:aH}{N:List (Str×RZ)}{n:Nat}{W V:P5->Prop}{A:Qz}{fr:List Env}{φ:az}{M:AH}{s:PM}{E0:PL->PM->Prop}
theorem LQ.here(st:St g.pl g.w.params g.B W fr φ M s)(q:Q x M)(r:VR g.pl g.w.params φ (ow W φ M) s.heap x v):LQ g.pl g.w.params g.B W fr φ M s Q v s:=
 ⟨x,φ,M,q,st,.refl,r⟩
theorem LQ.tk(st:St g.pl g.w.params g.B W fr φ M s)(t:Tok)(q:Q x M)(r:VR g.pl g.w.params φ (ow W φ M) s.heap x v):LQ g.pl g.w.params g.B W fr φ M s Q v {s with toks:=t}:=
 ⟨x,φ,M,q,st.tok rfl,.tok rfl rfl rfl,r⟩
theorem LQ.int(st:St g.pl g.w.params g.B W fr φ M s)(t:Tok)(q:Q (.int i) M)(u:Tok):LQ g.pl g.w.params g.B W fr φ M s Q (.int i u) {s with toks:=t}:=
 LQ.tk st t q (VR.i ⟨_,rfl⟩)
theorem LQ.bool(st:St g.pl g.w.params g.B W fr φ M s)(q:Q (.bool b) M):LQ g.pl g.w.params g.B W fr φ M s Q (.bool b) s:=
 LQ.here st q rfl
theorem LQ.push(st:St g.pl g.w.params g.B W fr φ M s)(t:Tok)(q:Q x M)
  (r:∀h',h'.get? s.heap.objs.size=some o->(∀b o,s.heap.get? b=some o->h'.get? b=some o)->¬ow W φ M s.heap.objs.size->VR g.pl g.w.params φ (ow W φ M) h' x (.ref s.heap.objs.size))(hf:o.isFreed=false):
  LQ g.pl g.w.params g.B W fr φ M s Q (.ref s.heap.objs.size) {s with heap:=s.heap.push o,toks:=t}:=by
 have hk:∀b o',s.heap.get? b=some o'->(s.heap.push o).get? b=some o':=λ b o' e=>PC _ e
 have Fe:s.heap.objs.size<=(s.heap.push o).objs.size:=by refine aa (Qd _ _) ?_;exact RR _
 have Jh:¬ow W φ M s.heap.objs.size:=λ q=>Rp _ (st.IG q)
 exact⟨x,φ,M,q,st.Gp hk,.ext hk rfl rfl,r _ (PP _ hf) hk Jh⟩
theorem am.ext{φ:az}(hk:∀b o,h.get? b=some o->h'.get? b=some o)(r:am pl P φ o h y v):am pl P φ o h' y v:=
 am.mono (PB _) (λ b o e zz=>.inl (hk b o e)) (λ zz q=>.inl q) r
theorem VR.ext{φ:az}{o:P5->Prop}(hk:∀b o,h.get? b=some o->h'.get? b=some o){y:Mine.V}(r:VR pl P φ o h y v):VR pl P φ o h' y v:=
 VR.mono (PB _) (λ b o e zz=>.inl (hk b o e)) (λ zz q=>.inl q) r
theorem LQ.newList(st:St g.pl g.w.params g.B W fr φ M s)(t:Tok)(q:Q (.list vs) M)(l:vs.length<=ar)(r:am g.pl g.w.params φ (ow W φ M) s.heap vs xs):
  LQ g.pl g.w.params g.B W fr φ M s Q (.ref s.heap.objs.size) {s with heap:=s.heap.push {cls:=.type "list",data:=.seq xs.toArray},toks:=t}:=
 LQ.push st t q (λ h' e k no=>VR.l ⟨_,xs,0,rfl,no,e,l,r.ext k⟩) rfl
theorem LQ.GB(st:St g.pl g.w.params g.B W fr φ M s)(t:Tok)(q:Q (.tup vs) M)(l:vs.length<=ar)(r:am g.pl g.w.params φ (ow W φ M) s.heap vs xs):
  LQ g.pl g.w.params g.B W fr φ M s Q (.ref s.heap.objs.size) {s with heap:=s.heap.push {cls:=.type "tuple",data:=.seq xs.toArray},toks:=t}:=
 LQ.push st t q (λ h' e k no=>VR.t ⟨_,xs,0,rfl,no,e,l,r.ext k⟩) rfl
theorem am.append{φ:az}:∀{a b:List Mine.V} {xs ys:List PL},am pl P φ o h a xs->am pl P φ o h b ys->am pl P φ o h (a++b) (xs++ys):=by
 intro a
 induction a with
 |nil=>
  intro b xs ys ha hb
  subst ha;exact hb
 |cons x a ih=>
  intro b xs ys ha hb
  obtain⟨y,t,rfl,h1,h2⟩:=ha
  exact am.c ⟨y,t++ys,rfl,h1,ih h2 hb⟩
theorem am.get{φ:az}:∀{a:List Mine.V} {xs:List PL} {i:Nat} {x:Mine.V},am pl P φ o h a xs->a[i]? =some x->∃v,xs[i]? =some v/\VR pl P φ o h x v:=by
 intro a
 induction a with
 |nil=>
  intro xs i x ha e
  simp at e
 |cons y a ih=>
  intro xs y1
  cases y1 with
  |zero=>
   intro x ha e
   obtain⟨v,t,rfl,h1,_⟩:=ha
   simp at e;subst e
   exact aA v rfl h1
  |succ i=>
   intro x ha e
   obtain⟨v,t,rfl,_,h2⟩:=ha
   simp at e
   refine ai (ih h2 e) λ u e1 r=> ?_
   exact aA u (by simpa using e1) r
theorem aD{α:Type}{o:Option α}{k:α->Prop}(h:aB o k):∃a,o=some a/\k a:=by
 cases o with
 |none=>exact h.elim
 |some a=>exact aA a rfl h
theorem lL{b:Int}(h:b.natAbs<cU):b.natAbs.log2<9000:=by
 by_cases h0:b.natAbs=0
 ·refine aa h0 ?_;decide+kernel
 ·exact Nat.lt_trans ((Nat.log2_lt h0).mpr h) (by decide)
theorem lM(h:a.natAbs<cU):VL a<=2^20:=by
 unfold VL
 split
 ·exact Ry _
 ·have:=lL h
  exact ae 0x2418501fc18510a3280cbfd101 rfl a.natAbs.log2 this
theorem cV(h:PF a=PF b):a=b:=by
 rw[QD,QD] at h
 injection h with h
 have h2:a.toList.map UM=b.toList.map UM:=by simpa using congrArg Wp h
 have inj:∀{l1 l2:List Char},l1.map UM=l2.map UM->l1=l2:=by
  intro l1
  induction l1 with
  |nil=>intro l2 e;cases l2 with
   |nil=>rfl
   |cons _ _=>simp at e
  |cons c r ih=>intro l2 e;cases l2 with
   |nil=>simp at e
   |cons d r2=>
    simp only [PR,WQ] at e
    have hc:c=d:=Char.ext (UInt32.toNat_inj.mp e.1)
    refine aa hc ?_;refine aa (ih e.2) ?_;rfl
 exact String.toList_inj.mp (inj h2)
theorem qU(a b:String):PF a++PF b=PF (a++b):=by
 show Str.append _ _=_
 refine aa (QD _) ?_;refine aa (QD _) ?_;refine aa (QD _) ?_
 simp[Str.append]
noncomputable def zg:xy->Operator
 |.add=>.Add|.sub=>.Sub|.mul=>.Mult|.div=>.FloorDiv|.mod=>.Mod|.pow=>.Pow|.shl=>.LShift|.shr=>.RShift|.band=>.BitAnd|.bor=>.BitOr
theorem cG{n:Nat}(h:n<=ar):n<=Rn:=PN h (by decide)
theorem ie(h:aM v=some i):v=.int i:=by cases v<;>first|exact au h|(cases h;rfl)
theorem pI(h:bE v=some i):v=.bool i:=by cases v<;>first|exact au h|(cases h;rfl)
theorem eR(h:cF v=some i):v=.str i:=by cases v<;>first|exact au h|(cases h;rfl)
theorem r0(h:nS v=some i):v=.bytes i:=by cases v<;>first|exact au h|(cases h;rfl)
theorem mB(h:nR v=some i):v=.tup i:=by cases v<;>first|exact au h|(cases h;rfl)
theorem rY(h:lw v=some i):v=.list i:=by cases v<;>first|exact au h|(cases h;rfl)
inductive zT{α β:Type}(o:Option α)(f:α->Option β)(r:β):Prop
 |mk (a:α):o=some a->f a=some r->zT o f r
theorem aP{α β:Type}{o:Option α}{f:α->Option β}{r:β}(h:o.bind f=some r):zT o f r:=by
 cases o with
 |none=>exact au h
 |some a=>exact⟨a,rfl,h⟩
inductive Cs{α β:Type}(o:Option α)(f:α->β)(r:β):Prop
 |mk (a:α):o=some a->f a=r->Cs o f r
theorem hJ{α β:Type}{o:Option α}{f:α->β}{r:β}(h:o.map f=some r):Cs o f r:=by
 cases o with
 |none=>exact au h
 |some a=>exact⟨a,rfl,PZ h⟩
theorem eI{α:Type}[Decidable c]{o:Option α}{r:α}(h:(if c then o else none)=some r):c/\o=some r:=by
 by_cases hc:c
 ·rw[if_pos hc] at h;exact⟨hc,h⟩
 ·rw[if_neg hc] at h;cases h
theorem Dm(h:0<=a):decide (0<=RG a)=false:=decide_eq_false (by unfold RG;exact ae 0x2498040a135180446010 rfl a h)
theorem oU(i:Int):RG (RG i)=i:=by unfold RG;exact ae 0x644284d0a135110 rfl i
theorem A1(st:St g.pl g.w.params g.B W fr φ M s)(h:Cg op a b=some r)(q:Q r M):
  PT (PY g.prog g.w) A (Yi (zg op) (.int a t) (.int b u)) (LQ g.pl g.w.params g.B W fr φ M s Q) E0 s:=by
 cases op
 case add=>cases h;exact add_int (LQ.int st _ q _)
 case sub=>cases h;exact sub_int (LQ.int st _ q _)
 all_goals
  obtain⟨hb,e⟩:=eI h
  cases e
 ·exact mul_int (LQ.int st _ q _) (IntMulOk.of_bits (lM hb.1) (lM hb.2))
 ·exact floordiv_int hb.1 (LQ.int st _ q _) (.inl (PyProof.noPylong_of_log2 (lL hb.2)))
 ·exact mod_int' hb (LQ.int st _ q _)
 ·exact pow_int_small hb.2.2.1 (ae 0x1227a12063bf4871c7120607f4844a013044446020 rfl a b hb) (ae 0x2429001fce4471c7120607f4844a013044446020 rfl a b hb) (LQ.int st _ q _)
 ·exact lshift_int_small hb.2.1 (ae 0x489e84818efd21c7120607f4844a00a4007f39120 rfl a b hb) hb.1 (LQ.int st _ q _)
 ·exact rshift_int hb (LQ.int st _ q _)
 ·have e:Vi a b=((a.toNat&&&b.toNat:Nat):Int):=by unfold Vi;refine aa (decide_eq_true hb.1) ?_;refine aa (decide_eq_true hb.2) ?_;rfl
  exact and_int (by refine aa e ?_;exact LQ.int st _ q _)
 ·have e:XN a b=((a.toNat|||b.toNat:Nat):Int):=by
   obtain⟨m,rfl⟩:=QZ hb.1
   obtain⟨k,rfl⟩:=QZ hb.2
   unfold XN Vi
   refine aa (Dm hb.1) ?_;refine aa (Dm hb.2) ?_
   show RG (RG _)=_
   refine aa (oU _) ?_;refine aa (oU _) ?_;refine aa (oU _) ?_;rfl
  exact or_int (by refine aa e ?_;exact LQ.int st _ q _)
theorem am.nil_of{φ:az}(r:am pl P φ o h a xs)(e:xs=[]):a=[]:=Rq (by refine aE r.length ?_;refine aa e ?_;rfl)
theorem A0(st:St g.pl g.w.params g.B W fr φ M s)(hx:VR g.pl g.w.params φ (ow W φ M) s.heap (.tup a) v)(hy:VR g.pl g.w.params φ (ow W φ M) s.heap (.tup b) u)
  (hb:a.length+b.length<=ar)(q:Q (.tup (a++b)) M):PT (PY g.prog g.w) A (Yi .Add v u) (LQ g.pl g.w.params g.B W fr φ M s Q) E0 s:=by
 obtain⟨p1,xs,n1,rfl,ML,g1,l1,r1⟩:=hx
 obtain⟨p2,ys,n2,rfl,MK,g2,l2,r2⟩:=hy
 by_cases hv:xs=[]
 ·subst hv
  cases r1.nil_of rfl
  exact XD ⟨_,g1,rfl⟩ ⟨_,g2,rfl⟩ V0 W9 To Te (S1 _ _)
   (tuple_addW0 p1 p2 [].toArray ys.toArray n1 n2 none none #[] #[] rfl) ⟨g1,g2,LQ.here st q (ij.mk _ ys n2 rfl MK g2 l2 r2)⟩
 ·by_cases hw:ys=[]
  ·subst hw
   cases r2.nil_of rfl
   rw[Qc] at q
   exact XD ⟨_,g1,rfl⟩ ⟨_,g2,rfl⟩ V0 W9 To Te (S1 _ _)
    (tuple_addW1 p1 p2 xs.toArray [].toArray n1 n2 none none #[] #[] (by simpa using hv) rfl) ⟨g1,g2,LQ.here st q (ij.mk _ xs n1 rfl ML g1 l1 r1)⟩
  ·refine XD ⟨_,g1,rfl⟩ ⟨_,g2,rfl⟩ V0 W9 To Te (S1 _ _)
    (tuple_addW2 p1 p2 xs.toArray ys.toArray n1 n2 none none #[] #[] (by simpa using hv) (by simpa using hw) (by refine aa PX ?_;refine aa PX ?_;refine aa r1.length ?_;refine aa r2.length ?_;exact cG hb)) ⟨g1,g2,?_⟩
   refine aa (W0 _ _) ?_
   exact LQ.GB st _ q (by refine aa PJ ?_;exact hb) (r1.append r2)
theorem Cf(st:St g.pl g.w.params g.B W fr φ M s)(hx:VR g.pl g.w.params φ (ow W φ M) s.heap x v)(hy:VR g.pl g.w.params φ (ow W φ M) s.heap y u)
  (h:gv op x y=some r)(q:Q r M):PT (PY g.prog g.w) A (Yi (zg op) v u) (LQ g.pl g.w.params g.B W fr φ M s Q) E0 s:=by
 have add:∀x:Mine.V,VR g.pl g.w.params φ (ow W φ M) s.heap x v->Ck x y=some r->PT (PY g.prog g.w) A (Yi .Add v u) (LQ g.pl g.w.params g.B W fr φ M s Q) E0 s:=by
  intro x hx h
  cases x<;>first|exact au h|(obtain⟨b,hb,h⟩:=aP h;obtain⟨hc,h⟩:=eI h;cases h)
  ·cases eR hb
   obtain⟨l1,t,rfl⟩:=hx;obtain⟨l2,t',rfl⟩:=hy
   refine add_str (λ t' tk=> ?_) (by refine aa (Rc _) ?_;refine aa (Rc _) ?_;exact cG hc)
   exact LQ.tk st _ q (sn.mk (by refine aa (String.length_append _ _) ?_;exact hc) t' (by refine aa (qU _ _) ?_;rfl))
  ·cases mB hb
   exact A0 st hx hy hc q
  ·cases rY hb
   obtain⟨p1,xs,n1,rfl,ML,g1,l1,r1⟩:=hx
   obtain⟨p2,ys,n2,rfl,MK,g2,l2,r2⟩:=hy
   refine P.add_list g1 g2 ?_ (by refine aa PX ?_;refine aa PX ?_;refine aa r1.length ?_;refine aa r2.length ?_;exact cG hc)
   refine aa (W0 _ _) ?_
   exact LQ.newList st _ q (by refine aa PJ ?_;exact hc) (r1.append r2)
 unfold gv at h
 generalize ha:aM x=o at h
 cases o with
 |some a=>
  obtain⟨b,hb,h⟩:=aP h
  cases ie ha
  cases ie hb
  obtain⟨t,rfl⟩:=hx
  obtain⟨t',rfl⟩:=hy
  exact A1 st h q
 |none=>cases op<;>first|exact au h|exact add _ hx h
end
end Mine
end
section
namespace Mine
open PySem PySem.W PySem.Calls PyProof.Rows PySem.SeqAt
noncomputable def gD(f:Mine.V->Mine.V->Option Bool)(xs ys:List Mine.V)(j:Nat):Bool:=(f (xs.getD j .none) (ys.getD j .none)).getD false
inductive Dw(f:Mine.V->Mine.V->Option Bool)(x y:Mine.V)(xs ys:List Mine.V)(r:Bool):Prop
 |mk (a c:Bool):f x y=some a->eO f xs ys=some c->r=(a&&c)->Dw f x y xs ys r
set_option tactic.hygienic true in
theorem tZ(h:eO f (x::xs) (y::ys)=some r):Dw f x y xs ys r:=by
 obtain⟨a,ha,h⟩:=aP h
 cases hc:eO f xs ys<;>rw[hc] at h<;>first|exact au h|skip;rename_i c;cases h
 exact⟨a,c,ha,hc,rfl⟩
theorem D1(n m:Nat):(n+1==m+1)=(n==m):=SO.mpr (by rewrite[beq_iff_eq];rewrite[beq_iff_eq];rewrite[Nat.add_right_cancel_iff];rfl)
theorem t4:∀{xs ys:List Mine.V} {b:Bool},eO f xs ys=some b->
  b=((PS (min xs.length ys.length)).all (gD f xs ys)&&xs.length==ys.length)/\∀j (x y:Mine.V),xs[j]? =some x->ys[j]? =some y->f x y=some (gD f xs ys j):=by
 intro xs
 induction xs with
 |nil=>
  intro y1
  cases y1 with
  |nil=>
   intro b h
   cases h;exact⟨rfl,λ j x y hx=>by simp at hx⟩
  |cons y ys=>
   intro b h
   cases h;exact⟨by simp,λ j x y hx=>by simp at hx⟩
 |cons x xs ih=>
  intro y2
  cases y2 with
  |nil=>
   intro b h
   cases h;exact⟨by simp,λ j x y zz hx=>by simp at hx⟩
  |cons y ys=>
   intro b h
   obtain⟨a,c,ha,hc,rfl⟩:=tZ h
   obtain⟨Ok,Oj⟩:=ih hc
   have e0:gD f (x::xs) (y::ys) 0=a:=by show(f x y).getD false=a;refine aa ha ?_;rfl
   have e3:(PS (min xs.length ys.length+1)).all (gD f (x::xs) (y::ys))=(a&&(PS (min xs.length ys.length)).all (gD f xs ys)):=by
    refine aa TC ?_;refine aa Uy ?_;refine aa YO ?_;refine aa e0 ?_
    rfl
   refine⟨?_,λ j u v hu hv=> ?_⟩
   ·refine aa PQ ?_;refine aa PQ ?_;refine aa (Nat.succ_min_succ _ _) ?_;refine aa e3 ?_;refine aa (Bool.and_assoc _ _ _) ?_;refine aa (D1 _ _) ?_;refine aE Ok ?_;rfl
   ·cases j with
    |zero=>cases hu;cases hv;refine aa e0 ?_;exact ha
    |succ j=>exact Oj j u v hu hv
section
variable{pl:Pl}{P:QP}{φ:az}{o:P5->Prop}
inductive iU(n:Nat):Mine.V->Mine.V->Bool->Prop
 |none:iU n .none .none true
 |bool (a b:Bool):iU n (.bool a) (.bool b) (a==b)
 |int (a b:Int):iU n (.int a) (.int b) (a==b)
 |str (a b:String):iU n (.str a) (.str b) (a==b)
 |bytes (a b:List UInt8):iU n (.bytes a) (.bytes b) (a==b)
 |tup (a b:List Mine.V) (r:Bool):eO (jl n) a b=some r->iU n (.tup a) (.tup b) r
 |list (a b:List Mine.V) (r:Bool):eO (jl n) a b=some r->iU n (.list a) (.list b) r
 |nl (b:List Mine.V):iU n .none (.list b) false
 |ln (b:List Mine.V):iU n (.list b) .none false
set_option tactic.hygienic true in
theorem rG(h:jl (n+1) x y=some r):iU n x y r:=by
 cases x<;>first|exact au h|skip
 case none=>cases y<;>first|exact au h|(cases h;constructor)
 case list a=>cases y<;>first|exact au h|(cases h;exact .ln a)|exact .list a _ r h
 case tup a=>obtain⟨b,hb,h⟩:=aP h;cases mB hb;exact .tup a b r h
 case bool a=>have h:(match bE y with|some b=>some (a==b)|none=>none)=some r:=h;cases hb:bE y<;>rw[hb] at h<;>first|exact au h|skip;rename_i b;have e:=PZ h;cases pI hb;cases e;constructor
 case int a=>have h:(match aM y with|some b=>some (a==b)|none=>none)=some r:=h;cases hb:aM y<;>rw[hb] at h<;>first|exact au h|skip;rename_i b;have e:=PZ h;cases ie hb;cases e;constructor
 case str a=>have h:(match cF y with|some b=>some (a==b)|none=>none)=some r:=h;cases hb:cF y<;>rw[hb] at h<;>first|exact au h|skip;rename_i b;have e:=PZ h;cases eR hb;cases e;constructor
 case bytes a=>have h:(match nS y with|some b=>some (a==b)|none=>none)=some r:=h;cases hb:nS y<;>rw[hb] at h<;>first|exact au h|skip;rename_i b;have e:=PZ h;cases r0 hb;cases e;constructor
theorem tq{o:Option Obj}{f:List PL->Nat->Obj}(hf:∀xs n,(f xs n).data=.seq xs.toArray n){xs ys:List PL}{n m:Nat}(h:o=some (f xs n))(h':o=some (f ys m)):xs=ys:=by
 have e:=congrArg Obj.data (PZ (h.symm.trans h'))
 rw[hf,hf] at e
 injection e with e
 exact congrArg Wp e
theorem yI:∀(n:Nat) {x y:Mine.V} {v:PL} {b:Bool},VR pl P φ o h x v->VR pl P φ o h y v->jl n x y=some b->b=true:=by
 intro n
 induction n with
 |zero=>
  intro y1 y2 y3 y4 y5 y6 e
  exact au e
 |succ n ihq=>
  intro x y v b hx hy e
  have hl:∀(d:Bool) {xs ys:List Mine.V} {vs:List PL},am pl P φ o h xs vs->am pl P φ o h ys vs->eO (jl n) xs ys=some d->d=true:=by
   intro d xs ys vs h1 h2 he
   induction xs generalizing ys vs d with
   |nil=>
    subst h1
    cases ys with
    |nil=>cases he;rfl
    |cons y ys=>obtain⟨_,_,h,_⟩:=h2;cases h
   |cons x xs ih=>
    obtain⟨u,t,rfl,a1,a2⟩:=h1
    cases ys with
    |nil=>cases h2
    |cons y ys=>
     obtain⟨u',t',hh,b1,b2⟩:=h2
     cases hh
     obtain⟨a,c,ha,hc,rfl⟩:=tZ he
     refine aa (ihq a1 b1 ha) ?_;refine aa (ih _ a2 b2 hc) ?_;rfl
  cases rG e with
  |none=>rfl
  |bool a b=>subst hx;injection hy with e;exact beq_iff_eq.mpr e
  |int a b=>obtain⟨t,rfl⟩:=hx;obtain⟨t',h⟩:=hy;injection h with e;exact beq_iff_eq.mpr e
  |str a b=>obtain⟨_,t,rfl⟩:=hx;obtain⟨_,t',h⟩:=hy;injection h with e;exact beq_iff_eq.mpr (cV e)
  |bytes a b=>obtain⟨_,t,rfl⟩:=hx;obtain⟨_,t',h⟩:=hy;injection h with e;exact beq_iff_eq.mpr (congrArg Wp e)
  |tup a b r he=>
   obtain⟨p,xs,k,rfl,_,g,_,r⟩:=hx
   obtain⟨p',Jq,k',hh,_,g',_,r'⟩:=hy
   cases hh
   cases tq (λ zz zz=>rfl) g g'
   exact hl _ r r' he
  |list a b r he=>
   obtain⟨p,xs,k,rfl,_,g,_,r⟩:=hx
   obtain⟨p',Jq,k',hh,_,g',_,r'⟩:=hy
   cases hh
   cases tq (λ zz zz=>rfl) g g'
   exact hl _ r r' he
  |nl b=>obtain⟨p,xs,k,rfl,_⟩:=hy;cases hx
  |ln b=>obtain⟨p,xs,k,rfl,_⟩:=hx;cases hy
theorem Yw.bytes(a:Array UInt8)(t:Tok)(b:Array UInt8)(u:Tok):Yw A s (.bytes a t) (.bytes b u) (a.toList==b.toList):=λ prog w E Q h=>by
 unfold eqBool
 refine Qu ?_
 refine wpAny_ite_split (λ OW=> ?_) (λ zz=> ?_)
 ·have e:a=b:=by have:=eq_of_beq OW;injection this
  subst e
  exact PA (TE (PD (by simpa using h)))
 ·exact PA (eq_bytes (prog:=prog) (w:=w) (QB h):PT _ _ (SJ .Eq _ _) _ _ _)
theorem qk(a b:String):(PF a==PF b)=(a==b):=by
 rewrite[SO];rewrite[beq_iff_eq];rewrite[beq_iff_eq];exact⟨cV,λ h=>by refine aa h ?_;rfl⟩
theorem dE{h:QI}{a:P5}{xs:List PL}{n:Nat}(g:h.get? a=some (bb xs n)):h.IsList a xs.toArray:=⟨_,g,rfl,n,rfl⟩
theorem tR{h:QI}{a:P5}{xs:List PL}{n:Nat}(g:h.get? a=some (iJ xs n)):h.IsTuple a xs.toArray:=⟨_,g,rfl,n,rfl⟩
theorem jK(r1:am pl P φ o s.heap as xs)(r2:am pl P φ o s.heap cs ys)
  (he:∀j (x y:Mine.V),as[j]? =some x->cs[j]? =some y->f x y=some (gD f as cs j))
  (ih:∀x y v u b,VR pl P φ o s.heap x v->VR pl P φ o s.heap y u->f x y=some b->Yw A s v u b):
  ∀j (h1:j<xs.toArray.size) (h2:j<ys.toArray.size),Yw A s xs.toArray[j] ys.toArray[j] (gD f as cs j):=by
 intro j h1 h2
 have l1:=r1.length;have l2:=r2.length
 simp only [PX] at h1 h2
 have j1:j<as.length:=ae 0x92424930914c349103 rfl xs.length as.length j l1 h1
 have j2:j<cs.length:=ae 0x92424930914c349103 rfl ys.length cs.length j l2 h2
 refine ai (r1.get (i:=j) (x:=as[j]) (by simp[j1])) λ v hv rv=> ?_
 refine ai (r2.get (i:=j) (x:=cs[j]) (by simp[j2])) λ u hu ru=> ?_
 have e1:xs.toArray[j]=v:=by simp;rw[PI h1] at hv;exact PZ hv
 have e2:ys.toArray[j]=u:=by simp;rw[PI h2] at hu;exact PZ hu
 refine aa e1 ?_;refine aa e2 ?_
 exact ih _ _ _ _ _ rv ru (he j _ _ (by simp[j1]) (by simp[j2]))
theorem rc{A:Qz}{s:PM}{f:Mine.V->Mine.V->Option Bool}{as cs:List Mine.V}{xs ys:List PL}{p q:P5}{n k:Nat}{b:Bool}(r1:am pl P φ o s.heap as xs)(r2:am pl P φ o s.heap cs ys)
  (g1:s.heap.get? p=some (bb xs n))(g2:s.heap.get? q=some (bb ys k))(he:eO f as cs=some b)(hu:A.units<Vt)
  (ih:∀x y v u b,VR pl P φ o s.heap x v->VR pl P φ o s.heap y u->f x y=some b->Yw A.in1 s v u b):RcAt A s (.ref p) (.ref q) b/\RcNeAt A s (.ref p) (.ref q) (!b):=by
 obtain⟨hb,hj⟩:=t4 he
 have l1:=r1.length;have l2:=r2.length
 by_cases Fe:xs.length=ys.length
 ·have e:b=(PS xs.toArray.size).all (gD f as cs):=by
   refine aa hb ?_;have:(as.length==cs.length)=true:=by simp;exact ae 0x92490d44834d10d44c349104 rfl xs.length as.length ys.length cs.length l1 l2 Fe
   refine aa this ?_;refine aa (Yt _) ?_;congr 2;simp;exact ae 0x92490d11144834d10d44c349104 rfl xs.length as.length ys.length cs.length l1 l2 Fe
  refine aa e ?_
  exact⟨RcAt.lists (dE g1) (dE g2) (by simpa using Fe) hu (jK (A:=A.in1) r1 r2 hj ih),RcNeAt.lists (dE g1) (dE g2) (by simpa using Fe) hu (jK (A:=A.in1) r1 r2 hj ih)⟩
 ·have e:b=false:=by
   refine aa hb ?_;have:(as.length==cs.length)=false:=by simp;exact ae 0x92492600d44898034d10d44c349104 rfl xs.length as.length ys.length cs.length l1 l2 Fe
   refine aa this ?_;refine aa (Ta _) ?_;rfl
  refine aa e ?_
  exact⟨RcAt.lists_lengths (dE g1) (dE g2) (by simpa using Fe) hu,RcNeAt.lists_lengths (dE g1) (dE g2) (by simpa using Fe) hu⟩
theorem oX(r1:am pl P φ o s.heap as xs)(r2:am pl P φ o s.heap cs ys)
  (g1:s.heap.get? p=some (iJ xs n))(g2:s.heap.get? q=some (iJ ys k))(he:eO f as cs=some b)(hu:A.units<Vt)
  (ih:∀x y v u b,VR pl P φ o s.heap x v->VR pl P φ o s.heap y u->f x y=some b->Yw A.in1 s v u b):RcAt A s (.ref p) (.ref q) b/\RcNeAt A s (.ref p) (.ref q) (!b):=by
 obtain⟨hb,hj⟩:=t4 he
 have l1:=r1.length;have l2:=r2.length
 have e:b=((PS (min xs.toArray.size ys.toArray.size)).all (gD f as cs)&&xs.toArray.size==ys.toArray.size):=by
  refine aa hb ?_;simp only [PX];refine aa l1 ?_;refine aa l2 ?_;rfl
 refine aa e ?_
 exact⟨RcAt.tuples (tR g1) (tR g2) hu (jK (A:=A.in1) r1 r2 hj ih),RcNeAt.tuples (tR g1) (tR g2) hu (jK (A:=A.in1) r1 r2 hj ih)⟩
theorem t5:∀(n:Nat) {A:Qz} {s:PM} {x y:Mine.V} {v u:PL} {b:Bool},VR pl P φ o s.heap x v->VR pl P φ o s.heap y u->jl n x y=some b->A.units+n<Vt->Yw A s v u b:=by
 intro n
 induction n with
 |zero=>
  intro y1 y2 y3 y4 y5 y6 y7 y8 y9 e G2
  cases e
 |succ n ihq=>
  intro A s x y v u b hx hy e hu
  have h1:A.units<Vt:=ae 0x2429ab0119fa214d5808cfc106149102 rfl A.units n hu
  have ih:∀x y v u b,VR pl P φ o s.heap x v->VR pl P φ o s.heap y u->jl n x y=some b->Yw A.in1 s v u b:=λ x y v u b h1 h2 h3=>ihq h1 h2 h3 (by show A.units+1+n<Vt;exact ae 0x2429ab0119f829030a214d5808cfc106149102 rfl A.units n hu)
  have same:v=u->Yw A s v u b:=λ q=>by
   subst q;refine aa (yI (n+1) hx hy e) ?_;exact EqAt.same _
  cases rG e with
  |none=>subst hx hy;exact EqAt.same _
  |bool a b=>subst hx hy;exact EqAt.bool_bool _ _
  |int a b=>obtain⟨t,rfl⟩:=hx;obtain⟨t',rfl⟩:=hy;exact EqAt.int_int _ _ _ _
  |str a b=>obtain⟨_,t,rfl⟩:=hx;obtain⟨_,t',rfl⟩:=hy;refine aE (qk _ _) ?_;exact EqAt.str_str _ _ _ _
  |bytes a b=>obtain⟨_,t,rfl⟩:=hx;obtain⟨_,t',rfl⟩:=hy;exact Yw.bytes _ _ _ _
  |tup a c d e=>
   obtain⟨p,xs,k,rfl,_,g,_,r⟩:=hx
   obtain⟨p',Jq,k',rfl,_,g',_,r'⟩:=hy
   by_cases hp:p=p'
   ·exact same (by refine aa hp ?_;rfl)
   ·exact YP hp (oX r r' g g' e h1 ih).1
  |list a c d e=>
   obtain⟨p,xs,k,rfl,_,g,_,r⟩:=hx
   obtain⟨p',Jq,k',rfl,_,g',_,r'⟩:=hy
   by_cases hp:p=p'
   ·exact same (by refine aa hp ?_;rfl)
   ·exact YP hp (rc r r' g g' e h1 ih).1
  |nl c=>obtain⟨p,xs,k,rfl,_,g,_,r⟩:=hy;subst hx;exact EqAt.none_list (dE g) h1
  |ln c=>obtain⟨p,xs,k,rfl,_,g,_,r⟩:=hx;subst hy;exact EqAt.list_none (dE g) h1
inductive zL(h:QI)(R:List PL->Prop)(v:PL):Prop
 |mk (a:P5) (xs:List PL) (n:Nat):v=.ref a->h.get? a=some (bb xs n)->R xs->zL h R v
noncomputable def VN(pl:Pl)(P:QP)(φ:az)(o:P5->Prop)(h:QI):Mine.V->PL->Prop
 |.list vs=>zL h (am pl P φ o h vs)
 |x=>VR pl P φ o h x
theorem tz{n:Nat}{A:Qz}{s:PM}{x y:Mine.V}{v u:PL}{b:Bool}(hx:VN pl P φ o s.heap x v)(hy:VN pl P φ o s.heap y u)(e:jl (n+1) x y=some b)(hu:A.units+(n+1)<Vt):
  RcAt A s v u b/\RcNeAt A s v u (!b):=by
 have h1:A.units<Vt:=ae 0x2429ab0119fa214d5808cfc106149102 rfl A.units n hu
 have ih:∀x y v u b,VR pl P φ o s.heap x v->VR pl P φ o s.heap y u->jl n x y=some b->Yw A.in1 s v u b:=λ x y v u b h1 h2 h3=>t5 n h1 h2 h3 (by show A.units+1+n<Vt;exact ae 0x2429ab0119f829030a214d5808cfc106149102 rfl A.units n hu)
 cases rG e with
 |none=>subst hx hy;exact⟨RcAt.none_none,RcNeAt.none_none⟩
 |bool a b=>subst hx hy;exact⟨RcAt.bool_bool _ _,RcNeAt.bool_bool _ _⟩
 |int a b=>obtain⟨t,rfl⟩:=hx;obtain⟨t',rfl⟩:=hy;exact⟨RcAt.int_int _ _ _ _,RcNeAt.int_int _ _ _ _⟩
 |str a b=>obtain⟨_,t,rfl⟩:=hx;obtain⟨_,t',rfl⟩:=hy;refine aE (qk _ _) ?_;exact⟨RcAt.str_str _ _ _ _,RcNeAt.str_str _ _ _ _⟩
 |bytes a b=>
  obtain⟨_,t,rfl⟩:=hx;obtain⟨_,t',rfl⟩:=hy
  exact⟨λ prog w E Q h=>(eq_bytes h:PT _ _ (SJ .Eq _ _) _ _ _),λ prog w E Q h=>(ne_bytes h:PT _ _ (SJ .NotEq _ _) _ _ _)⟩
 |tup a c d e=>
  obtain⟨p,xs,k,rfl,_,g,_,r⟩:=hx
  obtain⟨p',Jq,k',rfl,_,g',_,r'⟩:=hy
  exact oX r r' g g' e h1 ih
 |list a c d e=>
  obtain⟨p,xs,k,rfl,g,r⟩:=hx
  obtain⟨p',Jq,k',rfl,g',r'⟩:=hy
  exact rc r r' g g' e h1 ih
 |nl c=>obtain⟨p,xs,k,rfl,g,r⟩:=hy;subst hx;exact⟨RcAt.none_list (dE g) h1,RcNeAt.none_list (dE g) h1⟩
 |ln c=>obtain⟨p,xs,k,rfl,g,r⟩:=hx;subst hy;exact⟨RcAt.list_none (dE g) h1,RcNeAt.list_none (dE g) h1⟩
end
end Mine
end
section
namespace Mine
open PySem PySem.W PySem.Calls PyProof.Rows
theorem fU{n:Nat}{a b:P5}(h:n<=a)(l:b<n):a≠b:=λ e=>Rp b (PK l (e▸h))
theorem List.Ez{α:Type}(a b:List α):a<+:a++b:=⟨b,rfl⟩
section
variable{pl:Pl}{P:QP}{B:QI}{W V:P5->Prop}{fr:List Env}{φ φ':az}{M M':AH}{s s':PM}
theorem jf{φ:az}{M:AH}(hlen:φ.length=M.next)(FU:∀i o,M.m i=some o->∃p,φ[i]? =some p)(q:own (φ++[p]) (M.new o) b):own φ M b∨b=p.1∨b=p.2:=by
 obtain⟨i,r,hi,hr,e⟩:=q
 have hm:(if i=M.next then some o else M.m i).isSome=true:=hi
 by_cases hin:i=M.next
 ·subst hin
  rw[P8 (by exact ae 0x905244349102 rfl (Q4 φ) M.next hlen),hlen] at hr
  simp at hr;subst hr
  exact .inr e
 ·rw[if_neg hin] at hm
  obtain⟨o',Hh⟩:=P4.mp hm
  obtain⟨r',GD⟩:=FU i o' Hh
  rw[Qe (PO.mp GD).1,GD] at hr
  cases hr
  exact .inl ⟨i,_,hm,GD,e⟩
theorem St.alloc{p:P5×P5}{o:O}(st:St pl P B W fr φ M s)(hk:∀b o,s.heap.get? b=some o->s'.heap.get? b=some o)
  (h1:s.heap.objs.size<=p.1)(h2:s.heap.objs.size<=p.2)(ho:s'.os=s.os)(hg:s'.gens=s.gens)
  (r:OR pl P (φ++[p]) (ow W (φ++[p]) (M.new o)) s'.heap p o):St pl P B W fr (φ++[p]) (M.new o) s'/\av bt φ M s (φ++[p]) (M.new o) s':=by
 have FU:∀i o,M.m i=some o->∃p,φ[i]? =some p:=λ i o e=>let⟨q,a,_⟩:=st.hr.at_ i o e;⟨q,a⟩
 have FV:∀b,own (φ++[p]) (M.new o) b->own φ M b∨s.heap.objs.size<=b:=λ b q=>(jf st.hr.len FU q).imp id λ e=>e.elim (λ e=>e▸h1) λ e=>e▸h2
 have G8:φ<+:φ++[p]:=List.Ez _ _
 have Jx:∀b,s.heap.objs.size<=b->B.get? b=none:=λ b q=>by
  cases e:B.get? b with
  |none=>rfl
  |some o=>exact absurd (Qb (st.base b o e)) (V9.mpr q)
 refine⟨⟨⟨?_,λ i o' Hh=> ?_,λ i j x y hi hj hx hy Ft=> ?_,λ b q=> ?_,λ b q=> ?_⟩,λ b o e=>hk b o (st.base b o e),st.frames.of_keeps λ b o e zz=>⟨o,hk b o e,rfl⟩,st.Fi,λ env he L hf=>let⟨o,e,c⟩:=st.GJ env he L hf;⟨o,hk _ _ e,c⟩,λ b q=>let⟨o,e⟩:=st.FK b q;⟨o,hk b o e⟩,st.EY⟩,
  ⟨G8,λ b o e zz zz=>.inl (hk b o e),λ b q=>(FV b q).imp id aT,λ b o e=>⟨o,hk b o e⟩,ho,hg⟩⟩
 ·refine aa PJ ?_;refine aa st.hr.len ?_;rfl
 ·have hm:(if i=M.next then some o else M.m i)=some o':=Hh
  by_cases hin:i=M.next
  ·subst hin
   rw[if_pos rfl] at hm;cases hm
   exact aA p (by refine aa (P8 (by refine aa st.hr.len ?_;exact PE _)) ?_;refine aa st.hr.len ?_;simp) r
  ·rw[if_neg hin] at hm
   refine ai (st.hr.at_ i o' hm) λ q hq rq=> ?_
   refine aA q (by refine aa (Qe (PO.mp hq).1) ?_;exact hq) (OR.mono G8 (λ b o e zz=>.inl (hk b o e)) (λ b z=> ?_) (λ o=>hk _ o) (λ o=>hk _ o) rq)
   exact z.elim (λ z=>.inl (.inl z)) λ z=>(FV b z).elim (λ z=>.inl (.inr z)) λ z=>.inr (aT z)
 ·have case:∀k z,(if k=M.next then some o else M.m k).isSome=true->(φ++[p])[k]? =some z->(k=M.next/\z=p)∨((M.m k).isSome=true/\φ[k]? =some z):=by
   intro k z FT hz
   by_cases Ir:k=M.next
   ·subst Ir
    rw[P8 (by refine aa st.hr.len ?_;exact PE _),st.hr.len] at hz
    simp at hz;exact .inl ⟨rfl,hz.symm⟩
   ·rw[if_neg Ir] at FT
    obtain⟨o',Hh⟩:=P4.mp FT
    obtain⟨r',GD⟩:=FU k o' Hh
    rw[Qe (PO.mp GD).1] at hz
    exact .inr ⟨FT,hz⟩
  have lt:∀k z,(M.m k).isSome=true->φ[k]? =some z->z.1<s.heap.objs.size/\z.2<s.heap.objs.size:=λ k z FT hz=>
   ⟨st.hr.GR (cZ FT hz).1,st.hr.GR (cZ FT hz).2⟩
  rcases case i x hi hx with⟨e1,e2⟩|⟨a1,a2⟩<;>rcases case j y hj hy with⟨f1,f2⟩|⟨b1,b2⟩
  ·exact absurd (e1.trans f1.symm) Ft
  ·have z:=lt j y b1 b2;subst e2
   exact fo (fU h1 z.1) (fU h1 z.2) (fU h2 z.1) (fU h2 z.2)
  ·have z:=lt i x a1 a2;subst f2
   exact fo ((fU h1 z.1).symm) ((fU h2 z.1).symm) ((fU h1 z.2).symm) ((fU h2 z.2).symm)
  ·exact st.hr.apart i j x y a1 b1 a2 b2 Ft
 ·rcases jf st.hr.len FU q with q|q|q
  ·exact st.hr.new b q
  ·exact Jx b (q▸h1)
  ·exact Jx b (q▸h2)
 ·rcases jf st.hr.len FU q with q|q|q
  ·exact st.hr.EU b q
  ·exact λ w=>fU h1 (st.Kq w) q.symm
  ·exact λ w=>fU h2 (st.Kq w) q.symm
theorem lc{φ:az}{M:AH}(hi:M.m i=some o):own φ (M.set i o') b ↔ own φ M b:=by
 have key:∀j,((M.set i o').m j).isSome=(M.m j).isSome:=λ j=>by
  show(if j=i then some o' else M.m j).isSome=_
  by_cases e:j=i
  ·subst e;refine aa (if_pos rfl) ?_;refine aa hi ?_;rfl
  ·refine aa (if_neg e) ?_;rfl
 constructor
 ·rintro⟨j,p,hj,hp,e⟩;exact⟨j,p,by(first|refine aE (key j) ?_;with_reducible rfl|refine aE (key j) ?_);exact hj,hp,e⟩
 ·rintro⟨j,p,hj,hp,e⟩;exact⟨j,p,by(first|refine aa (key j) ?_;with_reducible rfl|refine aa (key j) ?_);exact hj,hp,e⟩
theorem wo{W:P5->Prop}{φ:az}{M:AH}(hi:M.m i=some o):ow W φ (M.set i o')=ow W φ M:=by
 funext b;unfold ow;rewrite[lc hi];rfl
inductive gG(h:QI)(a:P5):Prop
 |mk (x:Obj):h.get? a=some x->j9 x->gG h a
theorem gG.both{p:P5×P5}(e:p.2=p.1)(g:h.get? p.1=some x)(q:j9 x):gG h p.1/\gG h p.2:=⟨⟨x,g,q⟩,e▸⟨x,g,q⟩⟩
theorem OR.there{o1:P5->Prop}{p:P5×P5}:∀{o:O},OR pl P φ o1 h p o->gG h p.1/\gG h p.2
 |.list _,r=>r.casesOn λ e zz zz g zz zz=>gG.both e g .list
 |.Eu _ _,r=>r.casesOn λ e zz zz g zz zz zz=>gG.both e g .dict
 |.EG _ _,r=>r.casesOn λ e zz zz g zz zz zz=>gG.both e g .dict
 |.inst _ _,r=>r.casesOn λ zz zz zz zz g gd zz zz zz zz=>⟨⟨_,g,.inst⟩,⟨_,gd,.dict⟩⟩
theorem St.upd(st:St pl P B W fr φ M s)(hi:M.m i=some o)(hp:φ[i]? =some p)(hk:∀b x,b≠p.1->b≠p.2->s.heap.get? b=some x->s'.heap.get? b=some x)
  (ho:s'.os=s.os)(hg:s'.gens=s.gens)(r:OR pl P φ (ow W φ M) s'.heap p o'):St pl P B W fr φ (M.set i o') s'/\av bt φ M s φ (M.set i o') s':=by
 have hs:(M.m i).isSome=true:=by refine aa hi ?_;rfl
 have o1:=(cZ hs hp).1
 have o2:=(cZ hs hp).2
 have Fh:∀b x,s.heap.get? b=some x->¬own φ M b->s'.heap.get? b=some x:=λ b x e n=>hk b x (λ q=>n (q▸o1)) (λ q=>n (q▸o2)) e
 have hB:∀b x,B.get? b=some x->s'.heap.get? b=some x:=λ b x e=>Fh b x (st.base b x e) λ q=>by rw[st.hr.new b q] at e;cases e
 have HA:∀b x,s.heap.get? b=some x->∃x',s'.heap.get? b=some x':=by
  intro b x e
  by_cases e1:b=p.1
  ·subst e1;obtain⟨x',g,_⟩:=r.there.1;exact⟨x',g⟩
  ·by_cases e2:b=p.2
   ·subst e2;obtain⟨x',g,_⟩:=r.there.2;exact⟨x',g⟩
   ·exact⟨x,hk b x e1 e2 e⟩
 refine⟨⟨⟨st.hr.len,λ j oj hj=> ?_,λ j k x y hj FT hx hy Ft=> ?_,λ b q=>st.hr.new b ((lc hi).mp q),λ b q=>st.hr.EU b ((lc hi).mp q)⟩,hB,?_,st.Fi,λ env he L hf=>let⟨o,e,c⟩:=st.GJ env he L hf;⟨o,Fh _ _ e λ q=>st.hr.EU _ q (st.Fi env he L hf),c⟩,λ b q=>let⟨o,e⟩:=st.FK b q;HA b o e,st.EY⟩,
  ⟨PB _,λ b x e n zz=>.inl (Fh b x e n),λ b q=>.inl ((lc hi).mp q),HA,ho,hg⟩⟩
 ·refine aa (wo hi) ?_
  by_cases e:j=i
  ·subst e
   have:(if j=j then some o' else M.m j)=some oj:=hj
   rw[if_pos rfl] at this;cases this
   exact aA p hp r
  ·have KD:M.m j=some oj:=by have:(if j=i then some o' else M.m j)=some oj:=hj;rwa [if_neg e] at this
   refine ai (st.hr.at_ j oj KD) λ q hq rq=> ?_
   have ap:=st.hr.apart j i q p (by refine aa KD ?_;rfl) hs hq hp e
   exact aA q hq (OR.mono (PB _) (λ b x e n=>.inl (Fh b x e λ z=>n (.inr z))) (λ b z=>.inl z)
    (λ x=>hk _ x ap.1 ap.2.1) (λ x=>hk _ x ap.2.2.1 ap.2.2.2) rq)
 ·have key:∀j,((M.set i o').m j).isSome=(M.m j).isSome:=λ j=>by
   show(if j=i then some o' else M.m j).isSome=_
   by_cases e:j=i
   ·subst e;refine aa (if_pos rfl) ?_;refine aa hi ?_;rfl
   ·refine aa (if_neg e) ?_;rfl
  rw[key] at hj FT
  exact st.hr.apart j k x y hj FT hx hy Ft
 ·refine kL (W:=W) (λ L x e nf=> ?_) st.Fi (λ L x hw e nf=>⟨x,Fh L x e λ q=>st.hr.EU L q hw,nf⟩) st.frames
  by_cases e1:L=p.1
  ·subst e1;obtain⟨x',g,a⟩:=r.there.1;exact aA x' g a.data
  ·by_cases e2:L=p.2
   ·subst e2;obtain⟨x',g,a⟩:=r.there.2;exact aA x' g a.data
   ·exact aA x (hk L x e1 e2 e) nf
theorem eN{φ:az}{M:AH}(q:own φ (M.kill i) b):own φ M b:=by
 obtain⟨j,p,hj,hp,e⟩:=q
 have:(if j=i then none else M.m j).isSome=true:=hj
 by_cases h:j=i
 ·rw[if_pos h] at this;cases this
 ·rw[if_neg h] at this;exact⟨j,p,this,hp,e⟩
theorem St.kill(st:St pl P B W fr φ M s):St pl P B W fr φ (M.kill i) s/\av bt φ M s φ (M.kill i) s:=by
 have Gk:∀j,((M.kill i).m j).isSome=true->(M.m j).isSome=true:=λ j hj=>by
  have:(if j=i then none else M.m j).isSome=true:=hj
  by_cases h:j=i
  ·rw[if_pos h] at this;cases this
  ·rwa [if_neg h] at this
 refine⟨⟨⟨st.hr.len,λ j oj hj=> ?_,λ j k x y hj hk=>st.hr.apart j k x y (Gk j hj) (Gk k hk),λ b q=>st.hr.new b (eN q),λ b q=>st.hr.EU b (eN q)⟩,st.base,st.frames,st.Fi,st.GJ,st.FK,st.EY⟩,
  ⟨PB _,λ b o e zz zz=>.inl e,λ b q=>.inl (eN q),λ zz o e=>⟨o,e⟩,rfl,rfl⟩⟩
 have KD:M.m j=some oj:=by
  have:(if j=i then none else M.m j)=some oj:=hj
  by_cases h:j=i
  ·rw[if_pos h] at this;cases this
  ·rwa [if_neg h] at this
 refine ai (st.hr.at_ j oj KD) λ q hq rq=> ?_
 exact aA q hq (OR.mono (PB _) (λ b x e zz=>.inl e) (λ b z=>.inl (z.imp id eN)) (λ zz e=>e) (λ zz e=>e) rq)
theorem St.Gj(st:St pl P B W fr φ M s)(hi:(M.m i).isSome=true)(hp:φ[i]? =some p):¬ow W φ (M.kill i) p.1/\¬ow W φ (M.kill i) p.2:=by
 have key:∀b,(b=p.1∨b=p.2)->¬ow W φ (M.kill i) b:=by
  rintro b e (q|⟨j,r,hj,hr,e'⟩)
  ·refine st.hr.EU b ?_ q
   exact⟨i,p,hi,hp,e⟩
  ·have:(if j=i then none else M.m j).isSome=true:=hj
   by_cases h:j=i
   ·rw[if_pos h] at this;cases this
   ·rw[if_neg h] at this
    have ap:=st.hr.apart j i r p this hi hr hp h
    rcases e with e|e<;>rcases e' with e'|e'
    ·exact ap.1 (e'.symm.trans e)
    ·exact ap.2.2.1 (e'.symm.trans e)
    ·exact ap.2.1 (e'.symm.trans e)
    ·exact ap.2.2.2 (e'.symm.trans e)
 exact⟨key _ (.inl rfl),key _ (.inr rfl)⟩
theorem St.freeze(st:St pl P B W fr φ M s)(hx:VR pl P φ (ow W φ M) s.heap x v):
  St pl P B W fr φ (bf M x).2 s/\av bt φ M s φ (bf M x).2 s/\VR pl P φ (ow W φ (bf M x).2) s.heap (bf M x).1 v:=by
 unfold bf
 cases x with
 |ref i=>
  dsimp only
  obtain⟨p,hp,rfl⟩:=hx
  have Iq:∀{ys us},am pl P φ (ow W φ M) s.heap ys us->am pl P φ (ow W φ (M.kill i)) s.heap ys us:=λ r=>
   am.mono (PB _) (λ b x e zz=>.inl e) (λ b z=>.inl (z.imp id eN)) r
  cases hm:M.m i with
  |none=>exact cg st (.refl) (VR.r ⟨p,hp,rfl⟩)
  |some o=>
   have hs:(M.m i).isSome=true:=by refine aa hm ?_;rfl
   refine ai (st.hr.at_ i o hm) λ q hq r=> ?_
   rw[hp] at hq;cases hq
   have no:=st.Gj hs hp
   cases o with
   |list vs=>
    obtain⟨e,xs,n,g,l,rs⟩:=r
    exact cg st.kill.1 st.kill.2 (VR.l ⟨p.1,xs,n,rfl,no.1,g,l,Iq rs⟩)
   |Eu ks vs=>
    obtain⟨e,es,n,g,l,ke,rs⟩:=r
    exact cg st.kill.1 st.kill.2 (VR.d ⟨p.1,es,n,rfl,no.1,g,l,ke,Iq rs⟩)
   |EG ks vs=>exact cg st (.refl) (VR.r ⟨p,hp,rfl⟩)
   |inst c vs=>exact cg st (.refl) (VR.r ⟨p,hp,rfl⟩)
 |_=>exact cg st (.refl) hx
end
abbrev Nm:=List (Str×RZ)
inductive LB(pl:Pl)(P:QP)(B:QI)(W:P5->Prop)(fr:List Env)(φ:az)(M:AH)(s:PM)(Q:Bool->AH->Prop)(b:Bool)(s':PM):Prop
 |mk (φ':az) (M':AH):Q b M'->St pl P B W fr φ' M' s'->av bt φ M s φ' M' s'->LB pl P B W fr φ M s Q b s'
theorem LB.step(x:av bt φ M s φ₁ M₁ s₁):∀v s',LB pl P B W fr φ₁ M₁ s₁ Q v s'->LB pl P B W fr φ M s Q v s':=
 λ zz zz h=>h.casesOn λ φ' M' q st sp=>⟨φ',M',q,st,x.trans sp⟩
theorem LQ.weak(h:∀x M,Q x M->R x M):∀v s',LQ pl P B W fr φ M s Q v s'->LQ pl P B W fr φ M s R v s':=
 λ zz zz h2=>h2.casesOn λ a φ' M' q st sp r=>⟨a,φ',M',h _ _ q,st,sp,r⟩
noncomputable def bA(g:Gs)(Γ:aH)(N:Nm)(n:Nat)(e:E)(x:Qa):Prop:=
 ∀W A fr env ρ φ M s Q X,cj A fr n->env.scope.names=N->aC g.pl g.w.params W Γ env ρ φ M s.heap->St g.pl g.w.params g.B W fr φ M s->
  aO g.pl.P (ag g.pl.P n) e ρ M (λ v M'=>aB (bE v) λ b=>Q b M') X->
  PT (PY g.prog g.w) A (isTrue x env (eval x env)) (LB g.pl g.w.params g.B W fr φ M s Q) (LX g.pl g.w.params g.B W fr g.cls φ M s X) s
noncomputable def dC(g:Gs)(Γ:aH)(N:Nm)(n:Nat)(es:Es)(xs:List Qa):Prop:=
 ∀W A fr env ρ φ M s Q X pos,cj A fr n->env.scope.names=N->aC g.pl g.w.params W Γ env ρ φ M s.heap->St g.pl g.w.params g.B W fr φ M s->
  fp g.pl.P (ag g.pl.P n) es ρ M Q X->
  PT (PY g.prog g.w) A (Vu (Tp pos (Rh xs env))) (λ vs s'=>vs.length=xs.length/\ug g.pl g.w.params g.B W fr φ M s Q vs s') (LX g.pl g.w.params g.B W fr g.cls φ M s X) s
section
variable{g:Gs}{Γ:aH}{N:Nm}{n:Nat}
theorem aS{α:Type}{e:E}{xe:Qa}{W:P5->Prop}{A:Qz}{fr:List Env}{env:Env}{ρ:an}{φ:az}{M:AH}{s:PM}{Q1:V->AH->Prop}{X:AH->Prop}{R:PL->PM->Prop}{E0:PL->PM->Prop}
  (ha:aj g Γ N n e xe)(hA:cj A fr n)(hN:env.scope.names=N)(er:aC g.pl g.w.params W Γ env ρ φ M s.heap)(st:St g.pl g.w.params g.B W fr φ M s)
  (h:aO g.pl.P (ag g.pl.P n) e ρ M Q1 X)
  (k:∀v x s1 φ1 M1,Q1 x M1->St g.pl g.w.params g.B W fr φ1 M1 s1->av bt φ M s φ1 M1 s1->aC g.pl g.w.params W Γ env ρ φ1 M1 s1.heap->VR g.pl g.w.params φ1 (ow W φ1 M1) s1.heap x v->R v s1)
  (he:∀v s',LX g.pl g.w.params g.B W fr g.cls φ M s X v s'->E0 v s'):PT (PY g.prog g.w) A (eval xe env) R E0 s:=
 PW (ha W A fr env ρ φ M s Q1 X hA hN er st h) (λ v s1 h=>h.casesOn λ x φ1 M1 q Et Ep r1=>k v x s1 φ1 M1 q Et Ep (er.Fb st Ep) r1) he
theorem iL{W:P5->Prop}{Q1:Bool->AH->Prop}{R:Bool->PM->Prop}{E0:PL->PM->Prop}
  (ha:bA g Γ N n e xe)(hA:cj A fr n)(hN:env.scope.names=N)(er:aC g.pl g.w.params W Γ env ρ φ M s.heap)(st:St g.pl g.w.params g.B W fr φ M s)
  (h:aO g.pl.P (ag g.pl.P n) e ρ M (λ v M'=>aB (bE v) λ b=>Q1 b M') X)
  (k:∀b s1 φ1 M1,Q1 b M1->St g.pl g.w.params g.B W fr φ1 M1 s1->av bt φ M s φ1 M1 s1->aC g.pl g.w.params W Γ env ρ φ1 M1 s1.heap->R b s1)
  (he:∀v s',LX g.pl g.w.params g.B W fr g.cls φ M s X v s'->E0 v s'):PT (PY g.prog g.w) A (isTrue xe env (eval xe env)) R E0 s:=
 PW (ha W A fr env ρ φ M s Q1 X hA hN er st h) (λ b s1 h=>h.casesOn λ φ1 M1 q Et Ep=>k b s1 φ1 M1 q Et Ep (er.Fb st Ep)) he
theorem qH
  (ha:dC g Γ N n es xs)(hA:cj A fr n)(hN:env.scope.names=N)(er:aC g.pl g.w.params W Γ env ρ φ M s.heap)(st:St g.pl g.w.params g.B W fr φ M s)
  (h:fp g.pl.P (ag g.pl.P n) es ρ M Q1 X)
  (k:∀vs ys s1 φ1 M1,Q1 ys M1->vs.length=xs.length->St g.pl g.w.params g.B W fr φ1 M1 s1->av bt φ M s φ1 M1 s1->aC g.pl g.w.params W Γ env ρ φ1 M1 s1.heap->am g.pl g.w.params φ1 (ow W φ1 M1) s1.heap ys vs->R vs s1)
  (he:∀v s',LX g.pl g.w.params g.B W fr g.cls φ M s X v s'->E0 v s'):PT (PY g.prog g.w) A (Vu (Tp pos (Rh xs env))) R E0 s:=
 PW (ha W A fr env ρ φ M s Q1 X pos hA hN er st h) (λ v s1 h=>h.2.casesOn λ x φ1 M1 q Et Ep r1=>k v x s1 φ1 M1 q h.1 Et Ep (er.Fb st Ep) r1) he
theorem bG{W:P5->Prop}:∀b,bt b->W b:=λ zz q=>q.elim
theorem nG(r:VR pl P φ o h x v)(e:bE x=some b):v=.bool b:=by
 cases pI e;exact r
theorem isInt(r:VR pl P φ o h x v)(e:aM x=some i):∃t,v=.int i t:=by
 cases ie e;exact r
noncomputable def mY(x:Qa):Bool:=if x.ctorIdx=3 then ga x λ o zz zz=>decide (o≠.Not) else decide (x.ctorIdx≠0/\x.ctorIdx≠5/\x.ctorIdx≠15)
set_option tactic.hygienic true in
theorem mi(h:mY x=true)(env:Env)(whole:Sem PL):isTrue x env whole=(do let v<-whole;Sy x.pos;Vv [v] (truthy v)):=by
 cases x<;>first|rfl|exact QU h|skip
 rename_i op _ _;cases op<;>first|rfl|exact QU h
theorem bA.Hp(h:aj g Γ N n e x)(hp:mY x=true):bA g Γ N n e x:=by
 intro W A fr env ρ φ M s Q X hA hN er st hw
 refine isTrue_plain (aS (α:=Unit) h hA hN er st hw (λ v x s1 φ1 M1 q Et Ep EC r1=> ?_) λ zz zz e=>e) (mi hp env _)
 refine ai (aD q) λ b hb q=> ?_
 refine aa (nG r1 hb) ?_
 exact QB ⟨φ1,M1,q,Et,Ep⟩
theorem aj.freeze(h:aj g Γ N n e x):aj g Γ N n (.freeze e) x:=by
 intro W A fr env ρ φ M s Q X hA hN er st hw
 refine aS (α:=Unit) h hA hN er st hw (λ v x s1 φ1 M1 q Et Ep EC r1=> ?_) λ zz zz e=>e
 refine ei (Et.freeze r1) λ a b c=> ?_
 exact⟨_,φ1,_,q,a,Ep.trans b,c⟩
theorem aj.bin(ha:aj g Γ N n a xa)(hb:aj g Γ N n b xb):aj g Γ N n (.bin op a b) (.BinOp xa (zg op) xb pos):=by
 intro W A fr env ρ φ M s Q X hA hN er st hw
 refine wpAny_BinOp (aS (α:=Unit) ha hA hN er st hw (λ v x s1 φ1 M1 q1 Et Ep EC r1=>aS (α:=Unit) hb hA hN EC Et q1 (λ u y s2 φ2 M2 q2 EB EA ET r2=> ?_) (LX.step Ep)) λ zz zz e=>e)
 refine ai (aD q2) λ r hr q3=> ?_
 exact PW (Cf (E0:=λ zz zz=>False) EB (r1.step EA bG) r2 hr q3) (LQ.step (Ep.trans EA)) λ zz zz e=>e.elim
theorem aj.neg(ha:aj g Γ N n a xa):aj g Γ N n (.neg a) (.UnaryOp .USub xa pos):=by
 intro W A fr env ρ φ M s Q X hA hN er st hw
 refine UnaryOp_ (aS (α:=Unit) ha hA hN er st hw (λ v x s1 φ1 M1 q1 Et Ep EC r1=> ?_) λ zz zz e=>e)
 refine ai (aD q1) λ i hi q=> ?_
 obtain⟨t,rfl⟩:=isInt r1 hi
 exact neg_int (LQ.step Ep _ _ (LQ.int Et _ q _))
theorem aj.not(ha:aj g Γ N n a xa):aj g Γ N n (.not a) (.UnaryOp .Not xa pos):=by
 intro W A fr env ρ φ M s Q X hA hN er st hw
 refine UnaryOp_ (aS (α:=Unit) ha hA hN er st hw (λ v x s1 φ1 M1 q1 Et Ep EC r1=> ?_) λ zz zz e=>e)
 refine ai (aD q1) λ i hi q=> ?_
 refine aa (nG r1 hi) ?_
 exact not_of (QB (LQ.step Ep _ _ (LQ.bool Et q)))
theorem bA.not(ha:bA g Γ N n a xa):bA g Γ N n (.not a) (.UnaryOp .Not xa pos):=by
 intro W A fr env ρ φ M s Q X hA hN er st hw
 exact isTrue_not (iL (Q1:=λ b M'=>Q (!b) M') ha hA hN er st hw (λ b s1 φ1 M1 q1 Et Ep EC=>⟨φ1,M1,q1,Et,Ep⟩) λ zz zz e=>e)
theorem aj.EF(ht:bA g Γ N n t xt)(ha:aj g Γ N n a xa)(hb:aj g Γ N n b xb):aj g Γ N n (.EF t a b) (.IfExp xt xa xb pos):=by
 intro W A fr env ρ φ M s Q X hA hN er st hw
 refine IfExp_ (iL (Q1:=λ r M1=>(r=true->aO g.pl.P (ag g.pl.P n) a ρ M1 Q X)/\(r=false->aO g.pl.P (ag g.pl.P n) b ρ M1 Q X)) ht hA hN er st hw (λ c s1 φ1 M1 q1 Et Ep EC=> ?_) λ zz zz e=>e)
 cases c with
 |true=>exact PW (ha W A fr env ρ φ1 M1 s1 Q X hA hN EC Et (q1.1 rfl)) (LQ.step Ep) (LX.step Ep)
 |false=>exact PW (hb W A fr env ρ φ1 M1 s1 Q X hA hN EC Et (q1.2 rfl)) (LQ.step Ep) (LX.step Ep)
theorem bA.EF(ht:bA g Γ N n t xt)(ha:bA g Γ N n a xa)(hb:bA g Γ N n b xb):bA g Γ N n (.EF t a b) (.IfExp xt xa xb pos):=by
 intro W A fr env ρ φ M s Q X hA hN er st hw
 refine isTrue_IfExp (iL (Q1:=λ r M1=>(r=true->aO g.pl.P (ag g.pl.P n) a ρ M1 _ X)/\(r=false->aO g.pl.P (ag g.pl.P n) b ρ M1 _ X)) ht hA hN er st hw (λ c s1 φ1 M1 q1 Et Ep EC=> ?_) λ zz zz e=>e)
 cases c with
 |true=>exact PW (ha W A fr env ρ φ1 M1 s1 Q X hA hN EC Et (q1.1 rfl)) (LB.step Ep) (LX.step Ep)
 |false=>exact PW (hb W A fr env ρ φ1 M1 s1 Q X hA hN EC Et (q1.2 rfl)) (LB.step Ep) (LX.step Ep)
theorem D0(P:dH)(c:cM)(Ev:Bool)(e:E)(ρ:an)(M:AH)(Q:V->AH->Prop)(X:AH->Prop):iT P c Ev (.cons e .nil) ρ M Q X=aO P c e ρ M Q X:=rfl
theorem Ds(P:dH)(c:cM)(Ev:Bool)(e e':E)(r:Es)(ρ:an)(M:AH)(Q:V->AH->Prop)(X:AH->Prop):iT P c Ev (.cons e (.cons e' r)) ρ M Q X=
  aO P c e ρ M (λ v M1=>aB (bE v) λ b=>(b=Ev->iT P c Ev (.cons e' r) ρ M1 Q X)/\(b=(!Ev)->Q v M1)) X:=rfl
noncomputable def qN:Bool->BoolOp|true=>.And|false=>.Or
noncomputable def jP(g:Gs)(Γ:aH)(N:Nm)(n:Nat)(Ev:Bool)(es:Es)(xs:List Qa):Prop:=
 ∀pos,∀W A fr env ρ φ M s Q X,cj A fr n->env.scope.names=N->aC g.pl g.w.params W Γ env ρ φ M s.heap->St g.pl g.w.params g.B W fr φ M s->
  iT g.pl.P (ag g.pl.P n) Ev es ρ M Q X->PT (PY g.prog g.w) A (eval (.BoolOp (qN Ev) xs pos) env) (LQ g.pl g.w.params g.B W fr φ M s Q) (LX g.pl g.w.params g.B W fr g.cls φ M s X) s
noncomputable def jO(g:Gs)(Γ:aH)(N:Nm)(n:Nat)(Ev:Bool)(es:Es)(xs:List Qa):Prop:=
 ∀pos,∀W A fr env ρ φ M s Q X whole,cj A fr n->env.scope.names=N->aC g.pl g.w.params W Γ env ρ φ M s.heap->St g.pl g.w.params g.B W fr φ M s->
  iT g.pl.P (ag g.pl.P n) Ev es ρ M (λ v M'=>aB (bE v) λ b=>Q b M') X->
  PT (PY g.prog g.w) A (isTrue (.BoolOp (qN Ev) xs pos) env whole) (LB g.pl g.w.params g.B W fr φ M s Q) (LX g.pl g.w.params g.B W fr g.cls φ M s X) s
theorem jP.one(h:aj g Γ N n e x):jP g Γ N n Ev (.cons e .nil) [x]:=by
 intro pos W A fr env ρ φ M s Q X hA hN er st hw
 exact BoolOp_one (h W A fr env ρ φ M s Q X hA hN er st hw)
theorem jP.cons{Ev:Bool}{e e':E}{r:Es}{x x':Qa}{xs:List Qa}(h:aj g Γ N n e x)(ih:jP g Γ N n Ev (.cons e' r) (x'::xs)):jP g Γ N n Ev (.cons e (.cons e' r)) (x::x'::xs):=by
 intro pos W A fr env ρ φ M s Q X hA hN er st hw
 cases Ev with
 |true=>
  refine BoolOp_and (aS (α:=Unit) h hA hN er st hw (λ v x s1 φ1 M1 q1 Et Ep EC r1=> ?_) λ zz zz e=>e)
  refine ai (aD q1) λ b hb q=> ?_
  have hv:=nG r1 hb
  subst hv
  refine QB ?_
  cases b with
  |true=>exact PW (ih pos W A fr env ρ φ1 M1 s1 Q X hA hN EC Et (q.1 rfl)) (LQ.step Ep) (LX.step Ep)
  |false=>exact⟨_,φ1,M1,q.2 rfl,Et,Ep,r1⟩
 |false=>
  refine BoolOp_or (aS (α:=Unit) h hA hN er st hw (λ v x s1 φ1 M1 q1 Et Ep EC r1=> ?_) λ zz zz e=>e)
  refine ai (aD q1) λ b hb q=> ?_
  have hv:=nG r1 hb
  subst hv
  refine QB ?_
  cases b with
  |false=>exact PW (ih pos W A fr env ρ φ1 M1 s1 Q X hA hN EC Et (q.1 rfl)) (LQ.step Ep) (LX.step Ep)
  |true=>exact⟨_,φ1,M1,q.2 rfl,Et,Ep,r1⟩
theorem jO.one(h:bA g Γ N n e x):jO g Γ N n Ev (.cons e .nil) [x]:=by
 intro pos W A fr env ρ φ M s Q X whole hA hN er st hw
 cases Ev with
 |true=>
  refine isTrue_and (iL (Q1:=Q) h hA hN er st hw (λ c s1 φ1 M1 q1 Et Ep EC=> ?_) λ zz zz e=>e)
  cases c with
  |true=>exact isTrue_and_nil ⟨φ1,M1,q1,Et,Ep⟩
  |false=>exact⟨φ1,M1,q1,Et,Ep⟩
 |false=>
  refine isTrue_or (iL (Q1:=Q) h hA hN er st hw (λ c s1 φ1 M1 q1 Et Ep EC=> ?_) λ zz zz e=>e)
  cases c with
  |true=>exact⟨φ1,M1,q1,Et,Ep⟩
  |false=>exact isTrue_or_nil ⟨φ1,M1,q1,Et,Ep⟩
theorem jO.cons{Ev:Bool}{e e':E}{r:Es}{x x':Qa}{xs:List Qa}(h:bA g Γ N n e x)(ih:jO g Γ N n Ev (.cons e' r) (x'::xs)):jO g Γ N n Ev (.cons e (.cons e' r)) (x::x'::xs):=by
 intro pos W A fr env ρ φ M s Q X whole hA hN er st hw
 have IS:aO g.pl.P (ag g.pl.P n) e ρ M (λ v M'=>aB (bE v) λ b=>(b=Ev->iT g.pl.P (ag g.pl.P n) Ev (.cons e' r) ρ M' (λ v M'=>aB (bE v) λ b=>Q b M') X)/\(b=(!Ev)->Q b M')) X:=
  Eq.mp (congrArg (λ K=>aO g.pl.P (ag g.pl.P n) e ρ M K X) (funext λ v=>funext λ M1=>by cases v<;>rfl)) hw
 cases Ev with
 |true=>
  refine isTrue_and (iL (Q1:=λ b M'=>(b=true->iT g.pl.P (ag g.pl.P n) true (.cons e' r) ρ M' (λ v M'=>aB (bE v) λ b=>Q b M') X)/\(b=(!true)->Q b M')) h hA hN er st IS (λ c s1 φ1 M1 q1 Et Ep EC=> ?_) λ zz zz e=>e)
  cases c with
  |true=>exact PW (ih pos W A fr env ρ φ1 M1 s1 Q X whole hA hN EC Et (q1.1 rfl)) (LB.step Ep) (LX.step Ep)
  |false=>exact⟨φ1,M1,q1.2 rfl,Et,Ep⟩
 |false=>
  refine isTrue_or (iL (Q1:=λ b M'=>(b=false->iT g.pl.P (ag g.pl.P n) false (.cons e' r) ρ M' (λ v M'=>aB (bE v) λ b=>Q b M') X)/\(b=(!false)->Q b M')) h hA hN er st IS (λ c s1 φ1 M1 q1 Et Ep EC=> ?_) λ zz zz e=>e)
  cases c with
  |false=>exact PW (ih pos W A fr env ρ φ1 M1 s1 Q X whole hA hN EC Et (q1.1 rfl)) (LB.step Ep) (LX.step Ep)
  |true=>exact⟨φ1,M1,q1.2 rfl,Et,Ep⟩
theorem aj.F4(h:jP g Γ N n Ev es xs):aj g Γ N n (.F4 Ev es) (.BoolOp (qN Ev) xs pos):=by
 intro W A fr env ρ φ M s Q X hA hN er st hw
 exact h pos W A fr env ρ φ M s Q X hA hN er st hw
theorem bA.F4(h:jO g Γ N n Ev es xs):bA g Γ N n (.F4 Ev es) (.BoolOp (qN Ev) xs pos):=by
 intro W A fr env ρ φ M s Q X hA hN er st hw
 exact h pos W A fr env ρ φ M s Q X _ hA hN er st hw
noncomputable def aw(x:Qa):Bool:=decide (x.ctorIdx≠22)
theorem bc(h:aw x=true):Rh (x::xs) env=(false,eval x env)::Rh xs env:=by
 cases x<;>first|rfl|exact QU h
theorem dC.nil:dC g Γ N n .nil []:=by
 intro W A fr env ρ φ M s Q X pos hA hN er st hw
 exact spliced_nil ⟨rfl,[],φ,M,hw,st,.refl,rfl⟩
theorem dC.cons{e:E}{r:Es}{x:Qa}{xs:List Qa}(he:aj g Γ N n e x)(hn:aw x=true)(ih:dC g Γ N n r xs):dC g Γ N n (.cons e r) (x::xs):=by
 intro W A fr env ρ φ M s Q X pos hA hN er st hw
 refine aa (bc hn) ?_
 refine spliced_cons (aS (α:=Unit) he hA hN er st hw (λ v y s1 φ1 M1 q1 Et Ep EC r1=> ?_) λ zz zz e=>e)
 refine qH ih hA hN EC Et q1 (λ vs ys s2 φ2 M2 q2 hl EB EA ET r2=> ?_) (LX.step Ep)
 exact⟨by refine aa PQ ?_;refine aa PQ ?_;refine aa hl ?_;rfl,_,φ2,M2,q2,EB,Ep.trans EA,am.c ⟨v,vs,rfl,r1.step EA bG,r2⟩⟩
end
structure Tb where
 fns:List (Str×Nat)
 Hc:List (Str×Nat)
 vals:List (Str×Nat)
noncomputable def lv:List Str:=["len","abs","sum","int","max","min","tuple","bytes","sorted","isinstance","range","zip","bool","list","dict"]
noncomputable def jJ:List (Str×PL):=[("len",.builtin "len"),("abs",.builtin "abs"),("sum",.builtin "sum"),("int",.type "int"),("max",.builtin "max"),("min",.builtin "min"),("tuple",.type "tuple"),("bytes",.type "bytes"),("sorted",.builtin "sorted"),("isinstance",.builtin "isinstance"),("range",.type "range"),("zip",.type "zip"),("bool",.type "bool"),("list",.type "list"),("dict",.type "dict")]
theorem vq:(jJ.all λ p=>decide (Sc p.1=some p.2)&&p.1 !=("__name__" :Str)&&p.1 !=("__debug__" :Str))=true:=by decide+kernel
structure CD(g:Gs)(K:RH)(c:Nat)(C:kf):Prop where
 makes:makesIn K (g.pl.ED c)=true
 keep:Wc K (.ref (g.pl.ED c))=true
 cd:(clsIn K (g.pl.ED c)).any (λ cd=>cd.hasDict&&Yz cd.mro)=true
 Iz:Rr K (.ref (g.pl.ED c)) "__getattribute__" =some (some (.builtin "object.__getattribute__"))
 Ja:Rr K (.ref (g.pl.ED c)) "__getattr__" =some none
 GQ:Rr K (.ref (g.pl.ED c)) "__setattr__" =some (some (.builtin "object.__setattr__"))
 Kg:∀a∈C.fields,Rr K (.ref (g.pl.ED c)) (g.pl.EH a)=some none
 nodup:(C.fields.map g.pl.EH).Nodup
 few:C.fields.length<=1000
 init:∀f,C.init=some f->Rr K (.ref (g.pl.ED c)) "__init__" =some (some (.ref (g.pl.FF f)))/\typeIn K (.ref (g.pl.FF f))=some (.type "function")
 EL:∀m f,C.meths.lookup m=some f->Rr K (.ref (g.pl.ED c)) (g.pl.FE m)=some (some (.ref (g.pl.FF f)))/\isFn K (.ref (g.pl.FF f))=true/\g.pl.FE m∉C.fields.map g.pl.EH
 Fd:∀c' C',g.pl.P.cls c'=some C'->VM K (.ref (g.pl.ED c)) (.ref (g.pl.ED c'))=some (c==c')
 GC:∀T∈["bool","int","list","dict"],VM K (.ref (g.pl.ED c)) (.type T)=some false
 Lk:∀X∈["int","str","bool","NoneType","list","dict","tuple"],VM K (.type X) (.ref (g.pl.ED c))=some false
 HZ:plainGet K (g.pl.ED c) "__class__" =true/\hasDictIn K (g.pl.ED c)=true/\Rr K (.ref (g.pl.ED c)) "__class__" =some (some (.builtin "object.__class__"))/\XX K (g.pl.ED c) (.type "object")=some true
structure Fx(g:Gs)(tb:Tb)(K:RH):Prop where
 KB:K.In g.B
 nl:g.B.NoLimit
 big:∃a o,2<=a/\g.B.get? a=some o
 bi:∃mb,g.B.Ns QX mb/\∀x:Str,x≠"__name__" ->mb x=Sc x
 Mm:∀x f,tb.fns.lookup x=some f->Xs K P3 x=some (some (.ref (g.pl.FF f)))
 Kj:∀x c,tb.Hc.lookup x=some c->Xs K P3 x=some (some (.ref (g.pl.ED c)))
 NL:∀x k,tb.vals.lookup x=some k->∃v t,g.pl.P.glob k=some t/\Xs K P3 x=some (some v)/\VR g.pl g.w.params [] (λ zz=>False) g.B t v
 Pv:∀x∈lv,Xs K P3 x=some none
 JB:specialIn K (.builtin "object.__class__") "__get__" =some (some (.builtin "getset_descriptor.__get__"))/\takesIn K (.builtin "object.__class__")=some true
 cls:∀c C,g.pl.P.cls c=some C->CD g K c C
 JC:∀f F,g.pl.P.fn f=some F->Wc K (.ref (g.pl.FF f))=true
section
variable{g:Gs}{tb:Tb}{K:RH}{Γ:aH}{N:Nm}{n:Nat}{W:P5->Prop}{A:Qz}{fr:List Env}{env:Env}{ρ:an}{φ:az}{M:AH}{s:PM}{E0:PL->PM->Prop}
theorem Fx.KS(fx:Fx g tb K)(st:St g.pl g.w.params g.B W fr φ M s):K.In s.heap:=fx.KB.keeps st.base
theorem Fx.GA(fx:Fx g tb K)(st:St g.pl g.w.params g.B W fr φ M s)(h:s.heap.objs.size<=D):(D==WS)=false:=by
 refine vf fx.big λ a o h1 h2=> ?_
 have:=Qb (st.base a o h2)
 exact beq_eq_false_iff_ne.mpr λ e=>by
  have e2:D=1:=e
  have h3:s.heap.objs.size<=1:=e2▸h
  exact absurd (PK this h3) (by show¬a<1;exact V9.mpr (PN (by decide) h1))
theorem dU(fx:Fx g tb K)(hN:env.scope.names=N)(er:aC g.pl g.w.params W Γ env ρ φ M s.heap)(st:St g.pl g.w.params g.B W fr φ M s)
  (hk:N.lookup x=some .globalImplicit)(hd:(x==("__debug__" :Str))=false)(hv:Xs K P3 x=some (some v))(h:R v s):PT (PY g.prog g.w) A (eval (.Name x pos) env) R E0 s:=by
 refine Name_function_global er.kind (by unfold RF;refine aa hN ?_;exact hk) ?_ hd
 unfold YD
 refine PA ?_
 refine aa er.glob ?_
 refine(YC (M:=PY g.prog g.w) (fx.KS st) hv).here ?_
 exact PD h
theorem t9(fx:Fx g tb K)(hN:env.scope.names=N)(er:aC g.pl g.w.params W Γ env ρ φ M s.heap)(st:St g.pl g.w.params g.B W fr φ M s)
  (hk:N.lookup x=some .globalImplicit)(hv:(x,v)∈jJ)(h:R v s):PT (PY g.prog g.w) A (eval (.Name x pos) env) R E0 s:=by
 have hb:=QF.mp vq _ hv
 simp only [P1,decide_eq_true_eq,bne_iff_ne,ne_eq] at hb
 obtain⟨⟨EZ,Gu⟩,hb3⟩:=hb
 have hm:x∈lv:=by
  have:lv=jJ.map (·.1):=rfl
  refine aa this ?_;exact QG.mpr ⟨_,hv,rfl⟩
 refine Name_function_global er.kind (by unfold RF;refine aa hN ?_;exact hk) ?_ (beq_eq_false_iff_ne.mpr hb3)
 unfold YD
 refine PA ?_
 refine aa er.glob ?_
 refine(YC (M:=PY g.prog g.w) (fx.KS st) (fx.Pv x hm)).here ?_
 refine ai fx.bi λ mb JT J3=> ?_
 refine PA ?_
 refine aa er.bi ?_
 refine wpAny_nsGet (JT.keeps st.base) ?_
 refine aa (J3 x Gu) ?_;refine aa EZ ?_
 exact PD h
noncomputable def nF(N:Nm)(Γ:aH)(x:Str)(i:Nat):Bool:=
 (N.lookup x==some .local||N.lookup x==some .cell||N.lookup x==some .free)&&Γ.lookup x==some i&&x !=("__debug__" :Str)&&x !=("__classdict__" :Str)
theorem aj.var(h:nF N Γ x i=true):aj g Γ N n (.var i) (.Name x pos):=by
 intro W A fr env ρ φ M s Q X hA hN er st hw
 refine ai (aD hw) λ v hv q=> ?_
 simp only [nF,P1,SN,beq_iff_eq,bne_iff_ne,ne_eq] at h
 obtain⟨⟨⟨h1,h2⟩,h3⟩,h4⟩:=h
 refine Vy (AJ er h2 (by unfold RF;refine aa hN ?_;exact or_assoc.mp h1) hv (beq_eq_false_iff_ne.mpr h4) λ u r=>LQ.here st q r) (beq_eq_false_iff_ne.mpr h3)
noncomputable def cC(N:Nm)(x:Str):Bool:=N.lookup x==some .globalImplicit&&x !=("__debug__" :Str)
theorem bQ(h:cC N x=true):N.lookup x=some .globalImplicit/\(x==("__debug__" :Str))=false:=by
 simp only [cC,P1,beq_iff_eq,bne_iff_ne,ne_eq] at h
 exact⟨h.1,beq_eq_false_iff_ne.mpr h.2⟩
theorem VR.base(st:St g.pl g.w.params g.B W fr φ M s)(r:VR g.pl g.w.params [] (λ zz=>False) g.B x v):VR g.pl g.w.params φ (ow W φ M) s.heap x v:=
 VR.mono ⟨φ,rfl⟩ (λ b o e zz=>.inl (st.base b o e)) (λ b q=>.inr (q.elim (st.EY b) (st.hr.new b))) r
theorem aj.glob(fx:Fx g tb K)(h:cC N x=true)(hk:tb.vals.lookup x=some k):aj g Γ N n (.glob k) (.Name x pos):=by
 intro W A fr env ρ φ M s Q X hA hN er st hw
 refine ai (aD hw) λ v hv q=> ?_
 refine kQ (fx.NL x k hk) λ u t ht hu r=> ?_
 rw[ht] at hv;cases hv
 exact dU fx hN er st (bQ h).1 (bQ h).2 hu (LQ.here st q (VR.base st r))
theorem aj.Jb(fx:Fx g tb K)(h:cC N x=true)(hk:tb.fns.lookup x=some f):aj g Γ N n (.Jb f) (.Name x pos):=by
 intro W A fr env ρ φ M s Q X hA hN er st hw
 exact dU fx hN er st (bQ h).1 (bQ h).2 (fx.Mm x f hk) (LQ.here st hw rfl)
noncomputable def wH(v:V)(c:Const):Bool:=match v with
 |.none=>decide (c=.none)
 |.bool a=>decide (c=.bool a)
 |.int i=>decide (c=.int i)
 |.str a=>uK c λ b=>PF a==b&&decide (a.length<=ar)
 |_=>false
theorem aj.lit(h:wH v c=true):aj g Γ N n (.lit v) (.Constant c k pos):=by
 intro W A fr env ρ φ M s Q X hA hN er st hw
 cases v<;>first|exact QU h|skip
 case none=>cases aJ h;exact Rt (LQ.here st hw rfl)
 case bool=>cases aJ h;exact wpAny_Constant_bool (LQ.here st hw rfl)
 case int=>cases aJ h;exact Vh (LQ.int st _ hw _)
 case str=>
  refine qO (mo:=λ c=>PT _ _ (eval (.Constant c k pos) env) _ _ _) h λ t h=> ?_
  cases aq (af h).1
  exact Yl (LQ.tk st _ hw (VR.s ⟨aJ (af h).2,_,rfl⟩))
end
section
variable{g:Gs}{tb:Tb}{K:RH}{Γ:aH}{N:Nm}{n:Nat}{W:P5->Prop}{A:Qz}{fr:List Env}{env:Env}{ρ:an}{φ:az}{M:AH}{s:PM}{E0:PL->PM->Prop}
theorem mU(h:k<=1000):k<=Rn:=PN h (by decide)
theorem pb(h:k<=1000):k<=ar:=PN h (by decide)
theorem LQ.GM(st:St g.pl g.w.params g.B W fr φ M s)(t:Tok)(q:Q (.ref M.next) (M.new ob))(hf:o.isFreed=false)
  (r:∀h' φ' o',h'.get? s.heap.objs.size=some o->(∀b o,s.heap.get? b=some o->h'.get? b=some o)->φ<+:φ'->(∀b,o' b->ow W φ M b∨s.heap.get? b=none)->OR g.pl g.w.params φ' o' h' (s.heap.objs.size,s.heap.objs.size) ob):
  LQ g.pl g.w.params g.B W fr φ M s Q (.ref s.heap.objs.size) {s with heap:=s.heap.push o,toks:=t}:=by
 have hk:∀b o',s.heap.get? b=some o'->(s.heap.push o).get? b=some o':=λ b o' e=>PC _ e
 have Fe:s.heap.objs.size<=(s.heap.push o).objs.size:=by refine aa (Qd _ _) ?_;exact RR _
 have FU:∀i o,M.m i=some o->∃p,φ[i]? =some p:=λ i o e=>let⟨q,a,_⟩:=st.hr.at_ i o e;⟨q,a⟩
 obtain⟨a,b⟩:=St.alloc (p:=(s.heap.objs.size,s.heap.objs.size)) (o:=ob) (s':={s with heap:=s.heap.push o,toks:=t}) st hk (PE _) (PE _) rfl rfl
  (r _ _ _ (PP _ hf) hk (List.Ez _ _) λ b q=>q.elim (λ q=>.inl (.inl q)) λ q=>(jf st.hr.len FU q).elim (λ q=>.inl (.inr q)) λ q=>.inr (aT (q.elim (λ q=>RU q.symm) λ q=>RU q.symm)))
 exact⟨_,_,_,q,a,b,VR.r ⟨(s.heap.objs.size,s.heap.objs.size),by(first|rewrite[P8 (by refine aa st.hr.len ?_;exact PE _)];refine aa st.hr.len ?_|refine aa (P8 (by refine aa st.hr.len ?_;exact PE _)) ?_;refine aa st.hr.len ?_);simp,rfl⟩⟩
theorem aj.tup(h:dC g Γ N n es xs)(hl:xs.length<=1000):aj g Γ N n (.tup es) (.Tuple xs k pos):=by
 intro W A fr env ρ φ M s Q X hA hN er st hw
 refine wpAny_Tuple_spliced (qH h hA hN er st hw (λ vs ys s1 φ1 M1 q1 hlen Et Ep EC r1=> ?_) λ zz zz e=>e)
 have e1:=r1.length
 exact⟨by refine aa hlen ?_;exact mU hl,LQ.step Ep _ _ (LQ.GB Et _ q1 (by refine aE e1 ?_;refine aa hlen ?_;exact pb hl) r1)⟩
theorem LQ.list(mu:Bool)(st:St g.pl g.w.params g.B W fr φ M s)(t:Tok)
  (q:if mu then Q (.ref M.next) (M.new (.list vs)) else Q (.list vs) M)(l:vs.length<=ar)(r:am g.pl g.w.params φ (ow W φ M) s.heap vs xs):
  LQ g.pl g.w.params g.B W fr φ M s Q (.ref s.heap.objs.size) {s with heap:=s.heap.push {cls:=.type "list",data:=.seq xs.toArray},toks:=t}:=by
 cases mu with
 |false=>exact LQ.newList st t q l r
 |true=>exact LQ.GM st t q rfl λ h' φ' o' e k hp ho=>⟨rfl,xs,0,e,l,am.mono hp (λ b o e zz=>.inl (k b o e)) ho r⟩
theorem aj.lst(h:dC g Γ N n es xs)(hl:xs.length<=1000):aj g Γ N n (.lst mu es) (.List xs pos):=by
 intro W A fr env ρ φ M s Q X hA hN er st hw
 refine wpAny_List_spliced (qH h hA hN er st hw (λ vs ys s1 φ1 M1 q1 hlen Et Ep EC r1=> ?_) λ zz zz e=>e)
 have e1:=r1.length
 exact⟨by refine aa hlen ?_;exact mU hl,LQ.step Ep _ _ (LQ.list mu Et _ q1 (by refine aE e1 ?_;refine aa hlen ?_;exact pb hl) r1)⟩
theorem cB:∀{ks:List Str} {es:List Qj},bY P ks es->es.length=ks.length:=by
 intro ks
 induction ks with
 |nil=>
  intro es h
  subst h;rfl
 |cons k ks ih=>
  intro es h
  obtain⟨e,r,rfl,_,_,h⟩:=h
  refine aa PQ ?_;refine aa PQ ?_;refine aa (ih h) ?_;rfl
theorem gh:∀{ks:List Int} {es:List Qj},iH ks es->es.length=ks.length:=by
 intro ks
 induction ks with
 |nil=>
  intro es h
  subst h;rfl
 |cons k ks ih=>
  intro es h
  obtain⟨e,r,rfl,_,_,h⟩:=h
  refine aa PQ ?_;refine aa PQ ?_;refine aa (ih h) ?_;rfl
theorem sU:∀{ks:List Str} {es:List Qj},bY w.params ks es->Pairs (strKind prog w) es (ks.zip (es.map (·.val)))/\∀e∈es,∃k,(strKind prog w).is k e.key=true/\e.hash=(strKind prog w).hash k:=by
 intro ks
 induction ks with
 |nil=>
  intro es h
  subst h;exact⟨.nil,λ zz h=>by cases h⟩
 |cons k ks ih=>
  intro es h
  obtain⟨e,r,rfl,⟨t,hk⟩,hh,h⟩:=h
  obtain⟨a,b⟩:=ih h
  have hi:(strKind prog w).is k e.key=true:=by refine aa hk ?_;show RB k (.str k t)=true;simp[RB]
  refine⟨.cons (kv:=(k,e.val)) hi rfl a,λ x hx=> ?_⟩
  rcases PU.mp hx with rfl|hx
  ·exact aA k hi hh
  ·exact b x hx
theorem sV:∀{ks:List Int} {es:List Qj},iH ks es->Pairs (TO prog w) es (ks.zip (es.map (·.val)))/\∀e∈es,∃k,(TO prog w).is k e.key=true/\e.hash=(TO prog w).hash k:=by
 intro ks
 induction ks with
 |nil=>
  intro es h
  subst h;exact⟨.nil,λ zz h=>by cases h⟩
 |cons k ks ih=>
  intro es h
  obtain⟨e,r,rfl,⟨t,hk⟩,hh,h⟩:=h
  obtain⟨a,b⟩:=ih h
  have hi:(TO prog w).is k e.key=true:=by refine aa hk ?_;show SK k (.int k t)=true;simp[SK]
  refine⟨.cons (kv:=(k,e.val)) hi rfl a,λ x hx=> ?_⟩
  rcases PU.mp hx with rfl|hx
  ·exact aA k hi hh
  ·exact b x hx
theorem eT{α β:Type}:∀{ks:List α} {xs:List β},xs.length=ks.length->(ks.zip xs).map (·.1)=ks:=by
 intro ks
 induction ks with
 |nil=>
  intro y1 y2
  exact rfl
 |cons k ks ih=>
  intro y3
  cases y3 with
  |nil=>
   intro h
   simp at h
  |cons x xs=>
   intro h
   refine aa Qk ?_;refine aa PR ?_;refine aa (ih (by simpa using h)) ?_;rfl
theorem nY{α β:Type}:∀{ks:List α} {xs:List β},xs.length=ks.length->(ks.zip xs).map (·.2)=xs:=by
 intro ks
 induction ks with
 |nil=>
  intro y1
  cases y1 with
  |nil=>
   intro y2
   exact rfl
  |cons x xs=>
   intro h
   simp at h
 |cons k ks ih=>
  intro y3
  cases y3 with
  |nil=>
   intro h
   simp at h
  |cons x xs=>
   intro h
   refine aa Qk ?_;refine aa PR ?_;refine aa (ih (by simpa using h)) ?_;rfl
theorem cJ:∀{ks:List String},ks.Nodup->(ks.map PF).Nodup:=λ h=>
 VI.mpr ((Xp).mpr ((VI.mp h).imp λ Ft e=>Ft (cV e)))
theorem gN{prog:Ui}{w:TD}{h:QI}{a:P5}{ks:List Str}{es:List Qj}{m:Nat}(e:h.get? a=some (QO es m))(nd:ks.Nodup)(ke:bY w.params ks es):
  h.DictOf (strKind prog w) a (ks.zip (es.map (·.val))):=by
 obtain⟨p,q⟩:=sU (prog:=prog) ke
 refine BR _ es.toArray m e ⟨rfl,rfl,rfl⟩ rfl (λ x hx=>q x (by simpa using hx)) (by simpa using p) ?_
 refine aa (eT (by refine aa (PG _) ?_;refine aa (cB ke) ?_;rfl)) ?_;exact nd
theorem ic{prog:Ui}{w:TD}{h:QI}{a:P5}{ks:List Int}{es:List Qj}{m:Nat}(e:h.get? a=some (QO es m))(nd:ks.Nodup)(ke:iH ks es):
  h.DictOf (TO prog w) a (ks.zip (es.map (·.val))):=by
 obtain⟨p,q⟩:=sV (prog:=prog) (w:=w) ke
 refine BR _ es.toArray m e ⟨rfl,rfl,rfl⟩ rfl (λ x hx=>q x (by simpa using hx)) (by simpa using p) ?_
 refine aa (eT (by refine aa (PG _) ?_;refine aa (gh ke) ?_;rfl)) ?_;exact nd
theorem yt:∀{es:List Qj} {kvs:List (Str×PL)},Pairs (strKind prog w) es kvs->(∀e∈es,∃k,(strKind prog w).is k e.key=true/\e.hash=(strKind prog w).hash k)->
  bY w.params (kvs.map (·.1)) es/\es.map (·.val)=kvs.map (·.2):=by
 intro es kvs p
 induction p with
 |nil=>intro _;exact⟨rfl,rfl⟩
 | @cons e kv es kvs h1 h2 _ ih=>
  intro hk
  obtain⟨a,b⟩:=ih λ x hx=>hk x (.tail _ hx)
  obtain⟨t,ht⟩:=T5 (show RB kv.1 e.key=true from h1)
  refine ai (hk e (.head _)) λ k' h3 h4=> ?_
  have:k'=kv.1:=(strKind prog w).inj _ _ _ h3 h1
  subst this
  refine⟨?_,by refine aa PR ?_;refine aa PR ?_;refine aa h2 ?_;refine aa b ?_;rfl⟩
  show nU _ _ _ _
  exact⟨e,es,rfl,⟨t,ht⟩,h4,a⟩
theorem yu:∀{es:List Qj} {kvs:List (Int×PL)},Pairs (TO prog w) es kvs->(∀e∈es,∃k,(TO prog w).is k e.key=true/\e.hash=(TO prog w).hash k)->
  iH (kvs.map (·.1)) es/\es.map (·.val)=kvs.map (·.2):=by
 intro es kvs p
 induction p with
 |nil=>intro _;exact⟨rfl,rfl⟩
 | @cons e kv es kvs h1 h2 _ ih=>
  intro hk
  obtain⟨a,b⟩:=ih λ x hx=>hk x (.tail _ hx)
  have ht:∃t,e.key=.int kv.1 t:=by
   have Ke:SK kv.1 e.key=true:=h1
   cases Jk:e.key<;>rw[Jk] at Ke<;>simp[SK] at Ke ⊢
   exact Ke
  refine ai (hk e (.head _)) λ k' h3 h4=> ?_
  have:k'=kv.1:=(TO prog w).inj _ _ _ h3 h1
  subst this
  refine⟨?_,by refine aa PR ?_;refine aa PR ?_;refine aa h2 ?_;refine aa b ?_;rfl⟩
  show nU _ _ _ _
  exact⟨e,es,rfl,ht,h4,a⟩
theorem pD{prog:Ui}{w:TD}{h:QI}{a:P5}{kvs:List (Str×PL)}(d:h.DictOf (strKind prog w) a kvs):
  ∃es m,h.get? a=some (QO es m)/\bY w.params (kvs.map (·.1)) es/\es.map (·.val)=kvs.map (·.2):=by
 refine u9 d λ o es ep ho FH hd hk hp hn=> ?_;clear d;rcases FH with⟨h1,h2,h3⟩
 obtain⟨oc,od,N0,NZ⟩:=o
 dsimp only at h1 h2 h3 hd
 subst h1 h2 h3 hd
 obtain⟨x,y⟩:=yt hp λ e he=>hk e (by simpa using he)
 exact rp es.toList ep (by refine aa ho ?_;rfl) x y
theorem vg{prog:Ui}{w:TD}{h:QI}{a:P5}{kvs:List (Int×PL)}(d:h.DictOf (TO prog w) a kvs):
  ∃es m,h.get? a=some (QO es m)/\iH (kvs.map (·.1)) es/\es.map (·.val)=kvs.map (·.2):=by
 refine u9 d λ o es ep ho FH hd hk hp hn=> ?_;clear d;rcases FH with⟨h1,h2,h3⟩
 obtain⟨oc,od,N0,NZ⟩:=o
 dsimp only at h1 h2 h3 hd
 subst h1 h2 h3 hd
 obtain⟨x,y⟩:=yu hp λ e he=>hk e (by simpa using he)
 exact rp es.toList ep (by refine aa ho ?_;rfl) x y
end
section
variable{g:Gs}{tb:Tb}{K:RH}{Γ:aH}{N:Nm}{n:Nat}{W W' V:P5->Prop}{A:Qz}{fr:List Env}{env:Env}{ρ:an}{φ φ':az}{M M':AH}{s s' sD:PM}{E0:PL->PM->Prop}
theorem LX.narrow(st:St g.pl g.w.params g.B W fr φ M s)(sp:av bt φ M s φ M sD)(hw:∀b,W b->W' b)(h:LX g.pl g.w.params g.B W' fr g.cls φ M sD X v s'):LX g.pl g.w.params g.B W fr g.cls φ M s X v s':=by
 obtain⟨e,φ',M',a,b,c,d,f⟩:=h
 exact⟨e,φ',M',a,b,st.back (fr':=[]) c hw,sp.trans d,f.le λ zz q=>sp.dead q⟩
theorem aC.widen{Nw:P5->Prop}(er:aC g.pl g.w.params W Γ env ρ φ M s.heap)(hk:∀b o,s.heap.get? b=some o->s'.heap.get? b=some o)(hN:∀b,Nw b->s.heap.objs.size<=b):aC g.pl g.w.params (λ b=>W b∨Nw b) Γ env ρ φ M s'.heap:=by
 have ho:∀b,ow (λ b=>W b∨Nw b) φ M b->ow W φ M b∨s.heap.get? b=none:=λ b q=>q.elim (λ q=>q.elim (λ q=>.inl (.inl q)) λ q=>.inr (aT (hN b q))) λ q=>.inl (.inr q)
 refine⟨er.kind,er.glob,er.bi,er.inj,.inl er.Ff,?_,λ x hx=> ?_,er.apart⟩
 ·obtain⟨m,hm,hl⟩:=er.loc
  exact⟨m,hm.keeps hk,λ x i hi hx=>(hl x i hi hx).mono (PB _) (λ b o e zz=>.inl (hk b o e)) ho⟩
 ·obtain⟨c,v,hc,hw,EE,hr⟩:=er.cell x hx
  exact⟨c,v,hc,.inl hw,EE.keeps hk,λ i hi=>(hr i hi).mono (PB _) (λ b o e zz=>.inl (hk b o e)) ho⟩
noncomputable def lb(env:Env)(pos:Pos):List (Option Qa)->List Qa->List (Sem PL×Sem PL)
 |some k::ks,v::vs=>(eval k env,(do let x<-eval v env;Sy pos;pure x))::lb env pos ks vs
 |_,_=>[]
noncomputable def uV:List String->List (Option Qa)->Bool
 |[],xs=>bW xs
 |k::ks,xs=>cy xs λ x xs=>bD x λ e=>cW e λ c zz zz=>uK c λ t=>PF k==t&&(decide (k.length<=ar)&&uV ks xs)
inductive fv:List String->List (Option Qa)->Prop
 |nil:fv [] []
 |cons {k:String} {ks:List String} {xs:List (Option Qa)} (i:Nat) (p:Pos):k.length<=ar->fv ks xs->fv (k::ks) (some (.Constant (.str (PF k)) i p)::xs)
theorem q7:∀{ks:List String} {xs:List (Option Qa)},uV ks xs=true->fv ks xs:=by
 intro ks
 induction ks with
 |nil=>
  intro y1 h
  exact bl h .nil
 |cons k y2 ih=>
  intro y3 h
  exact bK h λ x xs h=>cw (mo:=λ x=>fv _ (x::xs)) h λ e h=>ct (mo:=λ e=>fv _ (some e::xs)) h λ c i p h=>qO (mo:=λ c=>fv _ (some (.Constant c i p)::xs)) h λ t h=>
   aq (af h).1▸.cons i p (aJ (af (af h).2).1) (ih (af (af h).2).2)
theorem fv.len(h:fv ks xs):xs.length=ks.length:=by
 induction h with
 |nil=>rfl
 |cons i p _ _ ih=>exact congrArg (· +1) ih
theorem fv.seq(h:fv ks xs):∀k∈ks,k.length<=ar:=by
 induction h with
 |nil=>intro _ h;cases h
 |cons i p l _ ih=>exact TW.mpr ⟨l,ih⟩
theorem lC(env:Env)(pos:Pos)(h:fv ks keys):∀{vals:List Qa},vals.length=keys.length->
  (evalEachOpt keys env).zip ((evalEach vals env).map λ v=>do let x<-v;Sy pos;pure x)=((lb env pos keys vals).map λ p=>(some p.1,p.2))/\(lb env pos keys vals).length=ks.length:=by
 induction h with
 |nil=>intro vals _;cases vals<;>exact⟨rfl,rfl⟩
 |cons i p _ _ ih=>
  intro vals hl
  cases vals with
  |nil=>cases hl
  |cons v vs=>exact⟨congrArg (List.cons (_,_)) (ih (Tq hl)).1,congrArg (· +1) (ih (Tq hl)).2⟩
inductive Dy(prog:Ui)(w:TD)(ks:List String)(L:List PL->PM->Prop)(vs:List (PL×PL))(s':PM):Prop
 |mk (us:List PL):us.length=ks.length->Carries (strKind prog w) vs ((ks.map PF).zip us)->L us s'->Dy prog w ks L vs s'
noncomputable def jM(g:Gs)(Γ:aH)(N:Nm)(n:Nat)(ks:List String)(es:Es)(keys:List (Option Qa))(vals:List Qa):Prop:=
 ∀W A fr env ρ φ M s Q X pos,cj A fr n->env.scope.names=N->aC g.pl g.w.params W Γ env ρ φ M s.heap->St g.pl g.w.params g.B W fr φ M s->
  fp g.pl.P (ag g.pl.P n) es ρ M Q X->
  PT (PY g.prog g.w) A (evalPairs (lb env pos keys vals)) (Dy g.prog g.w ks (ug g.pl g.w.params g.B W fr φ M s Q)) (LX g.pl g.w.params g.B W fr g.cls φ M s X) s
theorem jM.nil:jM g Γ N n [] .nil [] []:=by
 intro W A fr env ρ φ M s Q X pos hA hN er st hw
 exact evalPairs_nil ⟨[],rfl,trivial,[],φ,M,hw,st,.refl,rfl⟩
theorem jM.cons{k:String}{ks:List String}{e:E}{r:Es}{i:Nat}{p:Pos}{x:Qa}{keys:List (Option Qa)}{vals:List Qa}(he:aj g Γ N n e x)(ih:jM g Γ N n ks r keys vals):
  jM g Γ N n (k::ks) (.cons e r) (some (.Constant (.str (PF k)) i p)::keys) (x::vals):=by
 intro W A fr env ρ φ M s Q X pos hA hN er st hw
 have Et:St g.pl g.w.params g.B W fr φ M {s with toks:=s.toks+1}:=st.tok rfl
 have Ks:av bt φ M s φ M {s with toks:=s.toks+1}:=.tok rfl rfl rfl
 refine evalPairs_cons (Yl (PA (aS (α:=Unit) he hA hN (er.Fb st Ks) Et hw (λ v y s1 φ1 M1 q1 Et Ep EC r1=>PA (QH (PD ?_))) (LX.step Ks))))
 refine PW (ih W A fr env ρ φ1 M1 s1 _ X pos hA hN EC Et q1) (λ vs s2 h=> ?_) (LX.step (Ks.trans Ep))
 obtain⟨us,hl,hc,ys,φ2,M2,q2,EB,EA,r2⟩:=h
 refine⟨v::us,by refine aa PQ ?_;refine aa PQ ?_;refine aa hl ?_;rfl,⟨by show RB _ (.str _ s.toks)=true;simp[RB],rfl,hc⟩,_,φ2,M2,q2,EB,(Ks.trans Ep).trans EA,?_⟩
 exact am.c ⟨v,us,rfl,r1.step EA bG,r2⟩
theorem uS{K:Type}[DecidableEq K]:∀(more kvs:List (K×PL)),((kvs++more).map (·.1)).Nodup->merged kvs more=kvs++more:=by
 intro more
 induction more with
 |nil=>
  intro kvs y1
  simp[merged]
 |cons p r ih=>
  intro kvs h
  have hn:¬(kvs.any λ kv=>decide (kv.1=p.1))=true:=by
   intro q
   refine ai (U9.mp q) λ x hx e=> ?_
   rw[Qf,PR] at h
   have:=(Si.mp h).2.2 x.1 (QG.mpr ⟨x,hx,rfl⟩) p.1 (.head _)
   exact this (of_decide_eq_true e)
  have e1:UK kvs p.1 p.2=kvs++[p]:=by unfold UK;refine aa (if_neg hn) ?_;rfl
  show merged (UK kvs p.1 p.2) r=_
  refine aa e1 ?_;refine aa (ih (kvs++[p]) (by simpa using h)) ?_
  simp
theorem St.adopt(hFW:∀env∈fr,∀L,env.frame=some L->W L)(y:St g.pl g.w.params g.B (λ b=>W b∨b=D) fr φ' M' s')(hWD:¬W D)
  (r:OR g.pl g.w.params (φ'++[(D,D)]) (ow (λ b=>W b∨b=D) φ' M') s'.heap (D,D) ob):
  St g.pl g.w.params g.B W fr (φ'++[(D,D)]) (M'.new ob) s'/\(∀b,own (φ'++[(D,D)]) (M'.new ob) b->own φ' M' b∨b=D):=by
 have FU:∀i o,M'.m i=some o->∃p,φ'[i]? =some p:=λ i o e=>let⟨q,a,_⟩:=y.hr.at_ i o e;⟨q,a⟩
 have FV:∀b,own (φ'++[(D,D)]) (M'.new ob) b->own φ' M' b∨b=D:=λ b q=>(jf y.hr.len FU q).imp id λ e=>e.elim id id
 have Nd:∀b,ow W (φ'++[(D,D)]) (M'.new ob) b->ow (λ b=>W b∨b=D) φ' M' b:=λ b z=>z.elim (λ z=>.inl (.inl z)) λ z=>(FV b z).elim .inr λ z=>.inl (.inr z)
 have G8:φ'<+:φ'++[(D,D)]:=List.Ez _ _
 have case:∀k z,(if k=M'.next then some ob else M'.m k).isSome=true->(φ'++[(D,D)])[k]? =some z->(k=M'.next/\z=(D,D))∨((M'.m k).isSome=true/\φ'[k]? =some z):=by
  intro k z FT hz
  by_cases Ir:k=M'.next
  ·subst Ir
   rw[P8 (by refine aa y.hr.len ?_;exact PE _),y.hr.len] at hz
   simp at hz;exact .inl ⟨rfl,hz.symm⟩
  ·rw[if_neg Ir] at FT
   obtain⟨o',Hh⟩:=P4.mp FT
   obtain⟨r',GD⟩:=FU k o' Hh
   rw[Qe (PO.mp GD).1] at hz
   exact .inr ⟨FT,hz⟩
 have Jz:∀k z,(M'.m k).isSome=true->φ'[k]? =some z->z.1≠D/\z.2≠D:=λ k z hk hz=>
  ⟨λ e=>y.hr.EU _ (cZ hk hz).1 (.inr e),λ e=>y.hr.EU _ (cZ hk hz).2 (.inr e)⟩
 refine⟨⟨⟨by refine aa PJ ?_;refine aa y.hr.len ?_;rfl,λ i o' Hh=> ?_,λ i j x z hi hj hx hz Ft=> ?_,λ b q=> ?_,λ b q=> ?_⟩,y.base,y.frames,hFW,y.GJ,λ b q=>y.FK b (.inl q),λ b q=>y.EY b (.inl q)⟩,FV⟩
 ·have hm:(if i=M'.next then some ob else M'.m i)=some o':=Hh
  by_cases hin:i=M'.next
  ·subst hin
   rw[if_pos rfl] at hm;cases hm
   exact aA (D,D) (by refine aa (P8 (by refine aa y.hr.len ?_;exact PE _)) ?_;refine aa y.hr.len ?_;simp) (OR.mono (PB _) (λ zz zz e zz=>.inl e) (λ b z=>.inl (Nd b z)) (λ zz e=>e) (λ zz e=>e) r)
  ·rw[if_neg hin] at hm
   refine ai (y.hr.at_ i o' hm) λ q hq rq=> ?_
   exact aA q (by refine aa (Qe (PO.mp hq).1) ?_;exact hq) (OR.mono G8 (λ zz zz e zz=>.inl e) (λ b z=>.inl (Nd b z)) (λ zz e=>e) (λ zz e=>e) rq)
 ·rcases case i x hi hx with⟨e1,e2⟩|⟨a1,a2⟩<;>rcases case j z hj hz with⟨f1,f2⟩|⟨b1,b2⟩
  ·exact absurd (e1.trans f1.symm) Ft
  ·have q:=Jz j z b1 b2;subst e2;exact fo q.1.symm q.2.symm q.1.symm q.2.symm
  ·have q:=Jz i x a1 a2;subst f2;exact fo q.1 q.1 q.2 q.2
  ·exact y.hr.apart i j x z a1 b1 a2 b2 Ft
 ·rcases FV b q with q|q
  ·exact y.hr.new b q
  ·exact y.EY b (.inr q)
 ·rcases FV b q with q|q
  ·exact λ w=>y.hr.EU b q (.inl w)
  ·exact λ w=>hWD (q▸w)
theorem LQ.GP(mu:Bool)(hFW:∀env∈fr,∀L,env.frame=some L->W L)(y:St g.pl g.w.params g.B (λ b=>W b∨b=D) fr φ' M' s')(hWD:¬W D)(hd:s.heap.get? D=none)(sp:av bt φ M s φ' M' s')
  (rT:¬ow W φ' M' D->VR g.pl g.w.params φ' (ow W φ' M') s'.heap x (.ref D))
  (rO:OR g.pl g.w.params (φ'++[(D,D)]) (ow (λ b=>W b∨b=D) φ' M') s'.heap (D,D) ob)
  (q:if mu then Q (.ref M'.next) (M'.new ob) else Q x M'):LQ g.pl g.w.params g.B W fr φ M s Q (.ref D) s':=by
 cases mu with
 |false=>
  have G4:St g.pl g.w.params g.B W fr φ' M' s':=⟨y.hr.same (λ b o e n=>.inl e) (λ b o zz e=>e) (λ b q=>.inl (.inl q)),y.base,y.frames,hFW,y.GJ,λ b q=>y.FK b (.inl q),λ b q=>y.EY b (.inl q)⟩
  refine⟨x,φ',M',q,G4,sp,rT λ q=> ?_⟩
  rcases q with q|q
  ·exact hWD q
  ·exact y.hr.EU _ q (.inr rfl)
 |true=>
  obtain⟨a,b⟩:=St.adopt hFW y hWD rO
  refine⟨_,_,_,q,a,⟨sp.pre.trans (List.Ez _ _),sp.keep,λ c h=>(b c h).elim (sp.own c) λ h=>.inr (h▸hd),sp.alive,sp.os,sp.gens⟩,?_⟩
  refine VR.r ?_
  exact⟨(D,D),by(first|refine aa (P8 (by refine aa y.hr.len ?_;exact PE _)) ?_;refine aa y.hr.len ?_|refine aa (P8 (by refine aa y.hr.len ?_;exact PE _)) ?_;refine aa y.hr.len ?_;with_reducible rfl);simp,rfl⟩
theorem LQ.settle(mu:Bool)(st:St g.pl g.w.params g.B W fr φ M s)(y:St g.pl g.w.params g.B (λ b=>W b∨b=D) fr φ' M' s')(hD:s.heap.objs.size<=D)(sp:av bt φ M s φ' M' s')
  (rT:¬ow W φ' M' D->VR g.pl g.w.params φ' (ow W φ' M') s'.heap x (.ref D))
  (rO:OR g.pl g.w.params (φ'++[(D,D)]) (ow (λ b=>W b∨b=D) φ' M') s'.heap (D,D) ob)
  (q:if mu then Q (.ref M'.next) (M'.new ob) else Q x M'):LQ g.pl g.w.params g.B W fr φ M s Q (.ref D) s':=
 LQ.GP mu st.Fi y (λ q=>absurd (st.Kq q) (V9.mpr hD)) (aT hD) sp rT rO q
theorem St.fill{D:P5}{o o':Obj}{s2:PM}(y:St g.pl g.w.params g.B (λ b=>W b∨b=D) fr φ' M' s')(hs:Qr D s'.heap s2.heap)(g2:s2.heap.get? D=some o')(hd:∀vs,o'.data≠.fields vs)(hF:∀env∈fr,env.frame≠some D)(ho:s2.os=s'.os)(hg:s2.gens=s'.gens):
  St g.pl g.w.params g.B (λ b=>W b∨b=D) fr φ' M' s2/\av (λ b=>b=D) φ' M' s' φ' M' s2/\∀{xs us},am g.pl g.w.params φ' (ow (λ b=>W b∨b=D) φ' M') s'.heap xs us->am g.pl g.w.params φ' (ow (λ b=>W b∨b=D) φ' M') s2.heap xs us:=by
 have hk:∀b x,s'.heap.get? b=some x->¬b=D->s2.heap.get? b=some x:=λ b x e nb=>(hs.2 b nb).trans e
 have Gf:∀b x,b=D->s'.heap.get? b=some x->∃x',s2.heap.get? b=some x'/\∀vs,x'.data≠.fields vs:=λ b x q e=>by subst q;exact aA o' g2 hd
 exact cg (St.changed (V:=λ b=>b=D) y hk (λ b q=>.inr q) Gf (λ b o q zz zz hx=>by subst q;refine ai hx λ env he hf=> ?_;clear hx;exact absurd hf (hF env he))) (.changed hk Gf ho hg) λ{xs us} r=>
  am.mono (PB _) (λ b x e nb=>.inl (hk b x e λ q=>nb (.inl (.inr q)))) (λ b q=>.inl q) r
theorem aj.Gq(fx:Fx g tb K){mu:Bool}{k0:String}{ks:List String}{es:Es}{keys:List (Option Qa)}{vals:List Qa}(h:jM g Γ N n (k0::ks) es keys vals)(hk:fv (k0::ks) keys)(hl:vals.length=keys.length)(hlen:(k0::ks).length<=15):
  aj g Γ N n (.Gq mu (k0::ks) es) (.Dict keys vals pos):=by
 intro W A fr env ρ φ M s Q X hA hN er st hw
 have hle:=(lC env pos hk hl).2
 have Hy:∀b o',s.heap.get? b=some o'->(s.heap.push {cls:=.type "dict",data:=.dict #[]}).get? b=some o':=λ b o' e=>PC _ e
 have hszD:s.heap.objs.size<=(s.heap.push {cls:=.type "dict",data:=.dict #[]}).objs.size:=by refine aa (Qd _ _) ?_;exact RR _
 refine wpAny_Dict_pairs (knd:=strKind g.prog g.w) (lC env pos hk hl).1 (by rewrite[<-List.length_pos_iff];refine aa hle ?_;simp) (by refine aa hle ?_;exact hlen) ?_
 have NP:St g.pl g.w.params g.B (λ b=>W b∨b=s.heap.objs.size) fr φ M {s with heap:=s.heap.push {cls:=.type "dict",data:=.dict #[]}}:=
  st.ext (N:=λ b=>b=s.heap.objs.size) Hy λ b q=>by subst q;exact⟨aT (PE _),_,PP _ rfl⟩
 have Mz:av bt φ M s φ M {s with heap:=s.heap.push {cls:=.type "dict",data:=.dict #[]}}:=.ext Hy rfl rfl
 refine PW (h _ A fr env ρ φ M _ _ X pos hA hN (er.widen (s':={s with heap:=s.heap.push {cls:=.type "dict",data:=.dict #[]}}) Hy λ b q=>RU q.symm) NP hw) (λ vs s1 h=> ?_) λ zz zz z=>LX.narrow st Mz (λ b q=>.inl q) z
 obtain⟨us,IU,hc,ys,φ1,M1,q1,Et,Ep,r1⟩:=h
 have g0:(s.heap.push {cls:=.type "dict",data:=.dict #[]}).get? s.heap.objs.size=some (QO [] 0):=PP _ rfl
 have nD:¬own φ M s.heap.objs.size:=λ q=>Rp _ (st.hr.GR q)
 have g1:s1.heap.get? s.heap.objs.size=some (QO [] 0):=(Ep.keep _ _ g0 nD id).eq (by simp)
 rename type_of% q1=>oqe;refine yL oqe λ q0 q1 q2 q3=> ?_;clear oqe
 have fst:=eT (ks:=(k0::ks).map PF) (xs:=us) (by refine aa (PG _) ?_;refine aa IU ?_;rfl)
 have snd:=nY (ks:=(k0::ks).map PF) (xs:=us) (by refine aa (PG _) ?_;refine aa IU ?_;rfl)
 refine gu _ hc ⟨_,#[],0,g1,⟨rfl,rfl,rfl⟩,rfl,λ zz h=>by simp at h,.nil,T4⟩ λ h' hD hs=> ?_
 rw[uS _ [] (by refine aa (R2 _) ?_;refine aa fst ?_;exact cJ q1),R2] at hD
 refine kQ (pD hD) λ Gg m' g2 ke ev=> ?_
 rw[fst] at ke;rw[snd] at ev
 refine ei (St.fill (s2:={s1 with heap:=h',toks:=s1.toks+vs.length}) (o:=QO [] 0) Et hs g2 (λ zz h=>by cases h) (λ env he hf=>Rp _ (st.Kq (st.Fi env he _ hf))) rfl rfl) λ y2 EA rr=> ?_
 have Nl:DC s.heap.objs.size (k0::ks):=⟨fx.GA st (PE _),q1,PN hlen (by decide),hk.seq⟩
 refine LQ.settle mu (ob:=.Eu (k0::ks) ys) (x:=.dict (k0::ks) ys) st y2 (PE _) ((Mz.trans Ep).trans' EA λ b q=>.inr (RU q.symm)) (λ no=> ?_) ⟨rfl,Gg,m',g2,Nl,ke,?_⟩ q3
 ·refine VR.d ?_
  exact⟨_,Gg,m',rfl,no,g2,Nl,ke,ev▸am.set (λ b q=>.inl (.inl q)) (rr r1)⟩
 ·refine aa ev ?_
  exact am.mono (List.Ez _ _) (λ zz zz e zz=>.inl e) (λ b q=>.inl q) (rr r1)
theorem aj.Mt(fx:Fx g tb K):aj g Γ N n (.Gq mu [] .nil) (.Dict [] [] pos):=by
 intro W A fr env ρ φ M s Q X hA hN er st hw
 refine yL hw λ zz zz zz q=> ?_;clear hw
 have hl:DC s.heap.objs.size []:=⟨fx.GA st (PE _),T4,Ry _,λ zz h=>by cases h⟩
 refine wpAny_Dict_empty ?_
 cases mu with
 |false=>exact LQ.push st _ q (λ h' e k no=>VR.d ⟨_,[],0,rfl,no,e,hl,rfl,rfl⟩) rfl
 |true=>exact LQ.GM st _ q rfl λ h' φ' o' e k hp ho=>⟨rfl,[],0,e,hl,rfl,rfl⟩
theorem aj.GL(fx:Fx g tb K):aj g Γ N n .GL (.Dict [] [] pos):=by
 intro W A fr env ρ φ M s Q X hA hN er st hw
 refine wpAny_Dict_empty ?_
 exact LQ.GM st _ hw rfl λ h' φ' o' e k hp ho=>⟨rfl,[],0,e,⟨fx.GA st (PE _),T4,Ry _⟩,rfl,rfl⟩
end
end Mine
end
section
namespace Mine
open PySem PySem.W PySem.Calls PyProof.Rows PySem.SeqAt
noncomputable def fg:xx->CmpOp|.eq=>.Eq|.ne=>.NotEq|.lt=>.Lt|.le=>.LtE|.gt=>.Gt|.ge=>.GtE|.isin=>.In|.notin=>.NotIn
section
variable{g:Gs}{tb:Tb}{K:RH}{Γ:aH}{N:Nm}{n:Nat}{W W' V:P5->Prop}{A:Qz}{fr:List Env}{env:Env}{ρ:an}{φ φ':az}{M M':AH}{s s' sD:PM}{E0:PL->PM->Prop}
inductive zN(g:Gs)(W:P5->Prop)(φ:az)(M:AH)(h:QI)(i:Nat)(ob:O)(v:PL):Prop
 |mk (p:P5×P5):v=.ref p.1->φ[i]? =some p->OR g.pl g.w.params φ (ow W φ M) h p ob->zN g W φ M h i ob v
theorem fY(st:St g.pl g.w.params g.B W fr φ M s)(r:VR g.pl g.w.params φ (ow W φ M) s.heap (.ref i) v)(hm:M.m i=some ob):zN g W φ M s.heap i ob v:=by
 obtain⟨p,hp,e⟩:=r
 refine ai (st.hr.at_ i _ hm) λ q hq ro=> ?_
 cases hp.symm.trans hq
 exact⟨p,e,hp,ro⟩
theorem lj(st:St g.pl g.w.params g.B W fr φ M s)(r:VR g.pl g.w.params φ (ow W φ M) s.heap x v):VN g.pl g.w.params φ (ow W φ M) s.heap (kG M x) v:=by
 cases x with
 |ref i=>
  show VN _ _ _ _ _ ((((M.m i).bind lstO?).map V.list).getD (.ref i)) v
  cases hm:M.m i with
  |none=>exact r
  |some ob=>
   cases ob with
   |list vs=>
    obtain⟨p,e,_,_,xs,m,gg,_,rs⟩:=fY st r hm
    exact zL.mk p.1 xs m e gg rs
   |_=>exact r
 |list vs=>
  obtain⟨a,xs,m,e,_,gg,_,rs⟩:=r
  exact zL.mk a xs m e gg rs
 |_=>exact r
inductive CG(x:Mine.V)(vs:List Mine.V)(b:Bool):Prop
 |mk (f:Nat->Bool):(∀i (t:Mine.V),vs[i]? =some t->kO t x=some (f i))->b=(PS vs.length).any f->CG x vs b
theorem vw:∀{vs:List Mine.V} {b:Bool},eJ x vs=some b->CG x vs b:=by
 intro vs
 induction vs with
 |nil=>
  intro b h
  exact⟨λ zz=>false,λ i t e=>(nomatch e),(PZ h).symm⟩
 |cons y r ih=>
  intro b h
  obtain⟨a,ha,h⟩:=aP h
  cases hc:eJ x r<;>rw[hc] at h<;>first|exact au h|skip;rename_i c;cases h
  obtain⟨f,h1,h2⟩:=ih hc
  refine⟨λ i=>match i with|0=>a|j+1=>f j,λ i t e=> ?_,?_⟩
  ·cases i with
   |zero=>cases e;exact ha
   |succ j=>exact h1 j t e
  ·refine aa PQ ?_;refine aa TC ?_;refine aa R0 ?_;refine aa List.any_map ?_;refine aa h2 ?_;rfl
theorem BP(r:VR g.pl g.w.params φ (ow W φ M) s.heap x v)(rs:am g.pl g.w.params φ (ow W φ M) s.heap vs xs)(h:eJ x vs=some b)(hu:A.units+100<Vt):
  ∃e:PL->Bool,(∀y,y∈xs.toArray->Yw A.in1 s y v (e y))/\xs.toArray.any e=b:=by
 classical
 obtain⟨f,h1,h2⟩:=vw h
 have hl:=rs.length
 have key:∀i y,xs[i]? =some y->Yw A.in1 s y v (f i):=λ i y e=>by
  have hi:i<vs.length:=by refine aE hl ?_;exact(PO.mp e).1
  have ht:vs[i]? =some vs[i]:=PI hi
  refine ai (rs.get ht) λ u MW ru=> ?_
  rw[e] at MW;cases MW
  exact t5 40 ru r (h1 i _ ht) (by show A.units+1+40<Vt;exact ae 0x90a6ac0467e0d0187f830a214d5808cfc1c8085fd101 rfl A.units hu)
 refine aA (λ y=>decide (∃i,xs[i]? =some y/\f i=true)) (λ y hy=> ?_) ?_
 ·obtain⟨i,hi⟩:=Sq.mp (by simpa using hy:y∈xs)
  by_cases q:∃i,xs[i]? =some y/\f i=true
  ·refine ai q λ j hj hf=> ?_;clear q
   have:=key j y hj
   rw[hf] at this
   have q':∃i,xs[i]? =some y/\f i=true:=⟨j,hj,hf⟩
   show Yw A.in1 s y v (decide _)
   refine aa (decide_eq_true q') ?_;exact this
  ·have hf:f i=false:=by cases hfi:f i with|false=>rfl|true=>exact absurd ⟨i,hi,hfi⟩ q
   have:=key i y hi
   rw[hf] at this
   show Yw A.in1 s y v (decide _)
   refine aa (decide_eq_false q) ?_;exact this
 ·refine aa h2 ?_;rewrite[SO]
  simp only [List.any_toArray,U9,decide_eq_true_eq,So]
  constructor
  ·rintro⟨y,hy,i,hi,hf⟩
   exact aA i (by refine aE hl ?_;exact(PO.mp hi).1) hf
  ·rintro⟨i,hi,hf⟩
   rw[<-hl] at hi
   exact⟨xs[i],QK hi,i,PI hi,hf⟩
theorem sr{ks:List String}{us:List PL}{k:String}(hl:us.length=ks.length):(SS ((ks.map PF).zip us) (PF k)).isSome=ks.contains k:=by
 induction ks generalizing us with
 |nil=>simp[SS]
 |cons x ks ih=>
  cases us with
  |nil=>simp at hl
  |cons u us=>
   have h:=ih (us:=us) (by simpa using hl)
   unfold SS at h ⊢
   refine aa PR ?_;refine aa Qk ?_;refine aa Q6 ?_
   by_cases e:x=k
   ·subst e;simp
   ·have e2:¬PF x=PF k:=λ q=>e (cV q)
    have e3:(k==x)=false:=beq_eq_false_iff_ne.mpr λ q=>e q.symm
    simp only [e2,decide_false]
    refine aa h ?_;refine aa SY ?_;refine aa e3 ?_;refine aa (Tr _) ?_;rfl
theorem su{ks:List Int}{us:List PL}{k:Int}(hl:us.length=ks.length):(SS (ks.zip us) k).isSome=ks.contains k:=by
 induction ks generalizing us with
 |nil=>simp[SS]
 |cons x ks ih=>
  cases us with
  |nil=>simp at hl
  |cons u us=>
   have h:=ih (us:=us) (by simpa using hl)
   unfold SS at h ⊢
   refine aa Qk ?_;refine aa Q6 ?_
   by_cases e:x=k
   ·subst e;simp
   ·have e3:(k==x)=false:=beq_eq_false_iff_ne.mpr λ q=>e q.symm
    simp only [e,decide_false]
    refine aa h ?_;refine aa SY ?_;refine aa e3 ?_;refine aa (Tr _) ?_;rfl
set_option tactic.hygienic true in
theorem zv{x c:Mine.V}{b:Bool}(st:St g.pl g.w.params g.B W fr φ M s)(hx:VR g.pl g.w.params φ (ow W φ M) s.heap x v)(hc:VR g.pl g.w.params φ (ow W φ M) s.heap c u)(h:zw M x c=some b)(hu:A.units+100<Vt){Q:PL->PM->Prop}:
  ((∀t,Q (.bool b) {s with toks:=t})->PT (PY g.prog g.w) A (SJ .In v u) Q E0 s)/\((∀t,Q (.bool (!b)) {s with toks:=t})->PT (PY g.prog g.w) A (SJ .NotIn v u) Q E0 s):=by
 have dS:∀{p:P5} {ks:List String} {es:List Qj} {m:Nat} {k:String} {t:Tok},s.heap.get? p=some (QO es m)->(p==WS)=false->ks.Nodup->bY g.w.params (ks.map PF) es->
   ((∀t,Q (.bool (ks.contains k)) {s with toks:=t})->PT (PY g.prog g.w) A (SJ .In (.str (PF k) t) (.ref p)) Q E0 s)/\((∀t,Q (.bool (!ks.contains k)) {s with toks:=t})->PT (PY g.prog g.w) A (SJ .NotIn (.str (PF k) t) (.ref p)) Q E0 s):=by
  intro p ks es m k t gg ns nd ke
  have d:=(gN (prog:=g.prog) gg (cJ nd) ke).mapOf
  have e:=sr (ks:=ks) (us:=es.map (·.val)) (k:=k) (by refine aa (PG _) ?_;refine aa (cB ke) ?_;refine aa (PG _) ?_;rfl)
  exact⟨λ q=>wpAny_in_of (WT _ _ _ _) ns d (by refine aa e ?_;exact q _),λ q=>wpAny_notIn_of (WT _ _ _ _) ns d (by refine aa e ?_;exact q _)⟩
 have dI:∀{p:P5×P5} {ob:O},OR g.pl g.w.params φ (ow W φ M) s.heap p ob->u=.ref p.1->Do x ob=some b->
   ((∀t,Q (.bool b) {s with toks:=t})->PT (PY g.prog g.w) A (SJ .In v u) Q E0 s)/\((∀t,Q (.bool (!b)) {s with toks:=t})->PT (PY g.prog g.w) A (SJ .NotIn v u) Q E0 s):=by
  intro p ob ro e h
  subst e
  cases ob with
  |EG ks vs=>
   have h:(match aM x with|some k=>some (ks.contains k)|none=>none)=some b:=h
   cases hk:aM x<;>rw[hk] at h<;>first|exact au h|skip;rename_i k;cases h
   cases ie hk
   obtain⟨_,es,m,gg,hl,ke,_⟩:=ro
   obtain⟨t,rfl⟩:=hx
   have d:=(ic (prog:=g.prog) (w:=g.w) gg hl.nd ke).mapOf
   have e:=su (ks:=ks) (us:=es.map (·.val)) (k:=k) (by refine aa (PG _) ?_;refine aa (gh ke) ?_;rfl)
   exact⟨λ q=>wpAny_in_of (WU _ _ _ _) hl.1 d (by refine aa e ?_;exact q _),λ q=>wpAny_notIn_of (WU _ _ _ _) hl.1 d (by refine aa e ?_;exact q _)⟩
  |Eu ks vs=>
   have h:(match cF x with|some k=>some (ks.contains k)|none=>none)=some b:=h
   cases hk:cF x<;>rw[hk] at h<;>first|exact au h|skip;rename_i k;cases h
   cases eR hk
   obtain⟨_,es,m,gg,hl,ke,_⟩:=ro
   obtain⟨_,t,rfl⟩:=hx
   exact dS gg hl.1 hl.nd ke
  |_=>exact au h
 cases c<;>first|exact au h|skip
 ·obtain⟨a,xs,m,rfl,_,gg,_,rs⟩:=hc
  refine ai (BP (A:=A) hx rs h hu) λ e h1 h2=> ?_
  exact⟨λ q=>in_tupleAt e (tR gg) h1 (by refine aa h2 ?_;exact q s.toks),λ q=>notIn_tupleAt e (tR gg) h1 (by refine aa h2 ?_;exact q s.toks)⟩
 ·rename_i ks _
  have h:(match cF x with|some k=>some (ks.contains k)|none=>none)=some b:=h
  cases hk:cF x<;>rw[hk] at h<;>first|exact au h|skip;rename_i k;cases h
  cases eR hk
  obtain⟨a,es,m,rfl,_,gg,hl,ke,_⟩:=hc
  obtain⟨_,t,rfl⟩:=hx
  exact dS gg hl.1 hl.nd ke
 ·obtain⟨ob,hm,h⟩:=aP h
  obtain⟨p,e,_,ro⟩:=fY st hc hm
  exact dI ro e h
theorem jn(st:St g.pl g.w.params g.B W fr φ M s)(hx:VR g.pl g.w.params φ (ow W φ M) s.heap x v)(hy:VR g.pl g.w.params φ (ow W φ M) s.heap y u)
  (h:rL M op x y=some b)(hu:A.units+100<Vt)(q:∀t,Q (.bool b) {s with toks:=t}):PT (PY g.prog g.w) A (SJ (fg op) v u) Q E0 s:=by
 cases op
 case eq=>exact(tz (n:=39) (lj st hx) (lj st hy) h (ae 0x90a6ac0467e0d0187fa214d5808cfc1c8085fd101 rfl A.units hu)).1 _ _ _ _ (q s.toks)
 case ne=>obtain⟨c,hc,rfl⟩:=hJ h;exact(tz (n:=39) (lj st hx) (lj st hy) hc (ae 0x90a6ac0467e0d0187fa214d5808cfc1c8085fd101 rfl A.units hu)).2 _ _ _ _ (q s.toks)
 case isin=>exact(zv st hx hy h hu).1 q
 case notin=>obtain⟨c,hc,rfl⟩:=hJ h;exact(zv st hx hy hc hu).2 q
 case lt=>
  have h:(match aM x with|some a=>(match aM y with|some b=>some (decide (a<b))|none=>none)|none=>none)=some b:=h
  cases hi:aM x<;>rw[hi] at h<;>first|exact au h|skip
  cases hj:aM y<;>rw[hj] at h<;>first|exact au h|skip
  cases h
  obtain⟨t,rfl⟩:=isInt hx hi
  obtain⟨t',rfl⟩:=isInt hy hj
  exact lt_int (q s.toks)
 case le=>
  have h:(match aM x with|some a=>(match aM y with|some b=>some (decide (a<=b))|none=>none)|none=>none)=some b:=h
  cases hi:aM x<;>rw[hi] at h<;>first|exact au h|skip
  cases hj:aM y<;>rw[hj] at h<;>first|exact au h|skip
  cases h
  obtain⟨t,rfl⟩:=isInt hx hi
  obtain⟨t',rfl⟩:=isInt hy hj
  exact le_int (q s.toks)
 case gt=>
  have h:(match aM x with|some a=>(match aM y with|some b=>some (decide (b<a))|none=>none)|none=>none)=some b:=h
  cases hi:aM x<;>rw[hi] at h<;>first|exact au h|skip
  cases hj:aM y<;>rw[hj] at h<;>first|exact au h|skip
  cases h
  obtain⟨t,rfl⟩:=isInt hx hi
  obtain⟨t',rfl⟩:=isInt hy hj
  exact gt_int (q s.toks)
 case ge=>
  have h:(match aM x with|some a=>(match aM y with|some b=>some (decide (b<=a))|none=>none)|none=>none)=some b:=h
  cases hi:aM x<;>rw[hi] at h<;>first|exact au h|skip
  cases hj:aM y<;>rw[hj] at h<;>first|exact au h|skip
  cases h
  obtain⟨t,rfl⟩:=isInt hx hi
  obtain⟨t',rfl⟩:=isInt hy hj
  exact ge_int (q s.toks)
theorem cj.G3(hA:cj A fr n):A.units+100<Vt:=by have:=hA.units;exact ae 0x90a6ac0467e0e4042fe8853560233f07e80c7fc13f449102 rfl A.units n this
theorem aj.cmp(ha:aj g Γ N n a xa)(hb:aj g Γ N n b xb)(hm:Xb (fg op) xb=false):aj g Γ N n (.cmp op a b) (.Compare xa [fg op] [xb] pos):=by
 intro W A fr env ρ φ M s Q X hA hN er st hw
 refine Wx (aS (α:=Unit) ha hA hN er st hw (λ v x s1 φ1 M1 q1 Et Ep EC r1=>aS (α:=Unit) hb hA hN EC Et q1 (λ u y s2 φ2 M2 q2 EB EA ET r2=> ?_) (LX.step Ep)) λ zz zz e=>e) hm
 refine ai (aD q2) λ r hr q3=> ?_
 exact jn EB (r1.step EA bG) r2 hr hA.G3 λ t=>LQ.step (Ep.trans EA) _ _ (LQ.tk EB t q3 rfl)
theorem bA.cmp(ha:aj g Γ N n a xa)(hb:aj g Γ N n b xb)(hm:Xb (fg op) xb=false):bA g Γ N n (.cmp op a b) (.Compare xa [fg op] [xb] pos):=by
 intro W A fr env ρ φ M s Q X hA hN er st hw
 refine Uo (aS (α:=Unit) ha hA hN er st hw (λ v x s1 φ1 M1 q1 Et Ep EC r1=>aS (α:=Unit) hb hA hN EC Et q1 (λ u y s2 φ2 M2 q2 EB EA ET r2=> ?_) (LX.step Ep)) λ zz zz e=>e) hm
 refine ai (aD q2) λ r hr q3=> ?_
 exact jn EB (r1.step EA bG) r2 hr hA.G3 λ t=>QB ⟨φ2,M2,q3,EB.tok rfl,(Ep.trans EA).trans (.tok rfl rfl rfl)⟩
theorem aj.FC(ha:aj g Γ N n a xa)(hb:aj g Γ N n b xb)(hc:aj g Γ N n c xc)(hm:lastMarks [fg op1,fg op2] [xb,xc]=false):
  aj g Γ N n (.FC a op1 b op2 c) (.Compare xa [fg op1,fg op2] [xb,xc] pos):=by
 intro W A fr env ρ φ M s Q X hA hN er st hw
 refine Compare_chain (aS (α:=Unit) ha hA hN er st hw (λ v x s1 φ1 M1 q1 Et Ep EC r1=> ?_) λ zz zz e=>e) hm
 refine chain_link (aS (α:=Unit) hb hA hN EC Et q1 (λ u y s2 φ2 M2 q2 EB EA ET r2=> ?_) (LX.step Ep))
 refine ai (aD q2) λ r hr q3=> ?_
 refine jn EB (r1.step EA bG) r2 hr hA.G3 λ t=>QB ?_
 have Fj:=EB.tok (s':={s2 with toks:=t}) rfl
 have Fk:=(Ep.trans EA).trans (.tok (s':={s2 with toks:=t}) rfl rfl rfl)
 cases r with
 |true=>
  refine aa (if_pos rfl) ?_
  refine chain_last (aS (α:=Unit) hc hA hN (ET.Fb EB (.tok rfl rfl rfl)) Fj (q3.1 rfl) (λ z y' s4 φ4 M4 q4 F6 FR HP r4=> ?_) (LX.step Fk))
  refine ai (aD q4) λ r' GD q5=> ?_
  exact jn F6 ((r2.step (.tok rfl rfl rfl) bG).step FR bG) r4 GD hA.G3 λ t=>LQ.step (Fk.trans FR) _ _ (LQ.tk F6 t q5 rfl)
 |false=>exact⟨_,φ2,M2,q3.2 rfl,Fj,Fk,rfl⟩
theorem bA.FC(ha:aj g Γ N n a xa)(hb:aj g Γ N n b xb)(hc:aj g Γ N n c xc)(hm:lastMarks [fg op1,fg op2] [xb,xc]=false):
  bA g Γ N n (.FC a op1 b op2 c) (.Compare xa [fg op1,fg op2] [xb,xc] pos):=by
 intro W A fr env ρ φ M s Q X hA hN er st hw
 refine isTrue_chain (aS (α:=Unit) ha hA hN er st hw (λ v x s1 φ1 M1 q1 Et Ep EC r1=> ?_) λ zz zz e=>e) hm
 refine test_link (aS (α:=Unit) hb hA hN EC Et q1 (λ u y s2 φ2 M2 q2 EB EA ET r2=> ?_) (LX.step Ep))
 refine ai (aD q2) λ r hr q3=> ?_
 refine jn EB (r1.step EA bG) r2 hr hA.G3 λ t=>QB ?_
 have Fj:=EB.tok (s':={s2 with toks:=t}) rfl
 have Fk:=(Ep.trans EA).trans (.tok (s':={s2 with toks:=t}) rfl rfl rfl)
 cases r with
 |true=>
  refine aa (if_pos rfl) ?_
  refine test_last (aS (α:=Unit) hc hA hN (ET.Fb EB (.tok rfl rfl rfl)) Fj (q3.1 rfl) (λ z y' s4 φ4 M4 q4 F6 FR HP r4=> ?_) (LX.step Fk))
  refine ai (aD q4) λ r' GD q5=> ?_
  exact jn F6 ((r2.step (.tok rfl rfl rfl) bG).step FR bG) r4 GD hA.G3 λ t=>QB ⟨φ4,M4,q5,F6.tok rfl,(Fk.trans FR).trans (.tok rfl rfl rfl)⟩
 |false=>exact⟨φ2,M2,q3.2 rfl,Fj,Fk⟩
noncomputable def isNone:Mine.V->Bool|.none=>true|_=>false
noncomputable def BJ:Mine.V->Bool
 |.tup _|.list _|.dict _ _|.inst _ _|.ref _=>true
 |_=>false
theorem wh{φ:az}(r:VR pl P φ o h x v)(q:BJ x=true):∃a,v=.ref a:=by
 cases x<;>first|exact QU q|skip
 case inst=>exact r.casesOn λ a zz zz zz zz e zz zz zz zz zz zz zz=>⟨a,e⟩
 case ref=>exact r.casesOn λ p zz e=>⟨p.1,e⟩
 case dict=>exact r.casesOn λ a zz zz e zz zz zz zz zz=>⟨a,e⟩
 all_goals exact r.casesOn λ a zz zz e zz zz zz zz=>⟨a,e⟩
theorem ll(r:VR g.pl g.w.params φ (ow W φ M) s.heap x v):plainIs v .none=true/\(v==.none)=isNone x:=by
 cases x
 case none=>subst r;exact⟨rfl,rfl⟩
 case bool=>subst r;exact⟨rfl,rfl⟩
 case int=>obtain⟨t,rfl⟩:=r;exact⟨rfl,rfl⟩
 case str=>obtain⟨_,t,rfl⟩:=r;exact⟨rfl,rfl⟩
 case bytes=>obtain⟨_,t,rfl⟩:=r;exact⟨rfl,rfl⟩
 case fn=>subst r;exact⟨rfl,rfl⟩
 all_goals
  obtain⟨a,e⟩:=wh r rfl
  subst e
  exact⟨rfl,rfl⟩
theorem aj.Gc(ha:aj g Γ N n a xa):aj g Γ N n (.Gc a) (.Compare xa [.Is] [.Constant .none k p] pos):=by
 intro W A fr env ρ φ M s Q X hA hN er st hw
 refine Wx (aS (α:=Unit) ha hA hN er st hw (λ v x s1 φ1 M1 q1 Et Ep EC r1=>Rt ?_) λ zz zz e=>e) rfl
 have q1:Q (.bool (isNone x)) M1:=by cases x<;>exact q1
 obtain⟨h1,h2⟩:=ll r1
 exact wpAny_is_plain h1 (by refine aa h2 ?_;exact LQ.step Ep _ _ (LQ.bool Et q1))
theorem bA.Gc(ha:aj g Γ N n a xa):bA g Γ N n (.Gc a) (.Compare xa [.Is] [.Constant .none k p] pos):=by
 intro W A fr env ρ φ M s Q X hA hN er st hw
 refine Uo (aS (α:=Unit) ha hA hN er st hw (λ v x s1 φ1 M1 q1 Et Ep EC r1=>Rt ?_) λ zz zz e=>e) rfl
 have q1:Q (isNone x) M1:=by cases x<;>exact q1
 obtain⟨h1,h2⟩:=ll r1
 exact wpAny_is_plain h1 (by refine aa h2 ?_;exact QB ⟨φ1,M1,q1,Et,Ep⟩)
theorem aj.FM(ha:aj g Γ N n a xa):aj g Γ N n (.FM a) (.Compare xa [.IsNot] [.Constant .none k p] pos):=by
 intro W A fr env ρ φ M s Q X hA hN er st hw
 refine Wx (aS (α:=Unit) ha hA hN er st hw (λ v x s1 φ1 M1 q1 Et Ep EC r1=>Rt ?_) λ zz zz e=>e) rfl
 have q1:Q (.bool (!isNone x)) M1:=by cases x<;>exact q1
 obtain⟨h1,h2⟩:=ll r1
 exact YG h1 (by refine aa h2 ?_;exact LQ.step Ep _ _ (LQ.bool Et q1))
theorem bA.FM(ha:aj g Γ N n a xa):bA g Γ N n (.FM a) (.Compare xa [.IsNot] [.Constant .none k p] pos):=by
 intro W A fr env ρ φ M s Q X hA hN er st hw
 refine Uo (aS (α:=Unit) ha hA hN er st hw (λ v x s1 φ1 M1 q1 Et Ep EC r1=>Rt ?_) λ zz zz e=>e) rfl
 have q1:Q (!isNone x) M1:=by cases x<;>exact q1
 obtain⟨h1,h2⟩:=ll r1
 exact YG h1 (by refine aa h2 ?_;exact QB ⟨φ1,M1,q1,Et,Ep⟩)
end
section
variable{g:Gs}{tb:Tb}{K:RH}{Γ:aH}{N:Nm}{n:Nat}{W W' V:P5->Prop}{A:Qz}{fr:List Env}{env:Env}{ρ:an}{φ φ':az}{M M':AH}{s s' sD:PM}{E0:PL->PM->Prop}
theorem wV:∀{ks:List Str} {es:List Qj} {k:Nat} {x:Str},bY P ks es->ks.Nodup->ks[k]? =some x->∃e,es.find? (·.key.isStr x)=some e/\(es.map (·.val))[k]? =some e.val:=by
 intro ks
 induction ks with
 |nil=>
  intro y1 y2 y3 y4 y5 h
  simp at h
 |cons y ks ih=>
  intro es k x ke nd h
  obtain⟨e,r,rfl,⟨t,hk⟩,_,ke⟩:=ke
  rw[QJ] at nd
  cases k with
  |zero=>
   simp at h;subst h
   exact aA e (by refine aa Q6 ?_;refine aa hk ?_;simp[Tn]) rfl
  |succ k=>
   have h':ks[k]? =some x:=by simpa using h
   refine ai (ih ke nd.2 h') λ e' h1 h2=> ?_
   have Ft:y≠x:=λ q=>nd.1 (q▸(PO.mp h').2▸QK _)
   exact aA e' (by refine aa Q6 ?_;refine aa hk ?_;simp only [Tn];refine aa (beq_eq_false_iff_ne.mpr Ft) ?_;exact h1) (by simpa using h2)
theorem wU:∀{ks:List Str} {es:List Qj} {x:Str},bY P ks es->x∉ks->es.find? (·.key.isStr x)=none/\es.any (·.refKey)=false:=by
 intro ks
 induction ks with
 |nil=>
  intro es x ke y1
  subst ke;exact⟨rfl,rfl⟩
 |cons y ks ih=>
  intro es x ke h
  obtain⟨e,r,rfl,⟨t,hk⟩,_,ke⟩:=ke
  obtain⟨h1,h2⟩:=ih ke λ q=>h (.tail _ q)
  have Ft:y≠x:=λ q=>h (q▸.head _)
  exact⟨by refine aa Q6 ?_;refine aa hk ?_;simp only [Tn];refine aa (beq_eq_false_iff_ne.mpr Ft) ?_;exact h1,by refine aa R0 ?_;refine aa h2 ?_;simp[Us,hk]⟩
theorem BU(r:VR g.pl g.w.params φ o h x v):handedIn v=true:=by
 cases x
 case none=>subst r;rfl
 case bool=>subst r;rfl
 case int=>obtain⟨t,rfl⟩:=r;rfl
 case str=>obtain⟨_,t,rfl⟩:=r;rfl
 case bytes=>obtain⟨_,t,rfl⟩:=r;rfl
 case fn=>subst r;rfl
 all_goals
  obtain⟨a,e⟩:=wh r rfl
  subst e
  rfl
inductive Cy(g:Gs)(W:P5->Prop)(φ:az)(M:AH)(h:QI)(c:Nat)(vs:List Mine.V)(v:PL):Prop
 |mk (a d:P5) (es:List Qj) (m:Nat) (C:kf):v=.ref a->h.get? a=some (R7 (g.pl.ED c) d)->h.get? d=some (QO es m)->g.pl.P.cls c=some C->vs.length<=C.fields.length->bY g.w.params ((C.fields.take vs.length).map g.pl.EH) es->am g.pl g.w.params φ (ow W φ M) h vs (es.map (·.val))->Cy g W φ M h c vs v
theorem tU(st:St g.pl g.w.params g.B W fr φ M s)(r:VR g.pl g.w.params φ (ow W φ M) s.heap x v)(h:kK M x=some (c,vs)):Cy g W φ M s.heap c vs v:=by
 cases x<;>first|exact au h|skip
 ·cases h
  obtain⟨a,d,es,m,C,e,_,_,g1,g2,hc,ke,rs⟩:=r
  have e1:=cB ke
  have e2:=rs.length
  rw[PG] at e1 e2
  have e3:vs.length=C.fields.length:=e2.symm.trans e1
  exact⟨a,d,es,m,C,e,g1,g2,hc,RU e3,by refine aa e3 ?_;refine aa U6 ?_;exact ke,rs⟩
 ·obtain⟨ob,hm,h⟩:=aP h
  cases ob<;>first|exact au h|skip
  cases h
  obtain⟨p,e,_,_,es,m,C,g1,g2,hc,hl,ke,rs⟩:=fY st r hm
  exact⟨p.1,p.2,es,m,C,e,g1,g2,hc,hl,ke,rs⟩
theorem uW(g1:s.heap.get? a=some (R7 (g.pl.ED c) d))(g2:s.heap.get? d=some (QO es m)):
  InstAt s.heap a (R7 (g.pl.ED c) d) (g.pl.ED c) (some (QO es m)):=⟨g1,rfl,rfl,g2⟩
theorem jA{α:Type}{l:List α}(h:l.Nodup)(k:Nat):(l.take k).Nodup:=h.sublist (List.take_sublist _ _)
theorem A2(fx:Fx g tb K)(st:St g.pl g.w.params g.B W fr φ M s)(hx:VR g.pl g.w.params φ (ow W φ M) s.heap x v)(h:nQ g.pl.P M a x=some r)
  (q:∀u t,VR g.pl g.w.params φ (ow W φ M) s.heap r u->Q u {s with toks:=t}):PT (PY g.prog g.w) A (getAttr v (g.pl.EH a) ex) Q E0 s:=by
 obtain⟨⟨c,vs⟩,h1,h2⟩:=aP h
 obtain⟨k,h3,h4⟩:=aP h2
 obtain⟨C',h5,h6⟩:=aP h3
 obtain⟨ad,d,es,m,C,rfl,g1,g2,hc,hl,ke,rs⟩:=tU st hx h1
 dsimp only at h4 h5 h6
 rw[hc] at h5
 have e5:=PZ h5
 rw[<-e5] at h6
 clear e5 h5
 have ck:=fx.cls c C hc
 have hk:k<vs.length:=(PO.mp h4).1
 have IY:C.fields[k]? =some a:=by
  have EO:k<C.fields.length:=PK hk hl
  refine aa (PI EO) ?_
  have Me:C.fields.findIdx? (· ==a)=some k:=h6
  refine ai (UG.mp Me) λ zz h7 zz=> ?_
  refine aa (beq_iff_eq.mp h7) ?_;rfl
 have Hv:((C.fields.take vs.length).map g.pl.EH)[k]? =some (g.pl.EH a):=by refine aa Rj ?_;refine aa (RT hk) ?_;refine aa IY ?_;rfl
 have nd:((C.fields.take vs.length).map g.pl.EH).Nodup:=by refine aa Ux ?_;exact jA ck.nodup _
 refine ai (wV ke nd Hv) λ e f1 f2=> ?_
 refine ai (rs.get h4) λ u hu ru=> ?_
 rw[f2] at hu;cases hu
 refine ai (Yj ck.cd) λ cd KH Gf=> ?_
 simp only [P1] at Gf
 refine get_value (K:=K) (fx.KS st) (uW g1 g2) ck.Iz ?_ (BU ru) (q e.val _ ru)
 unfold findObj
 refine aa KH ?_;refine aa (Q9 _ _) ?_;refine aa (ck.Kg a (SA IY)) ?_;refine aa (Q9 _ _) ?_
 dsimp only
 refine aa (Q9 _ _) ?_;refine aa (Q9 _ _) ?_
 dsimp only
 have ho:XI cd (some (QO es m)) (g.pl.EH a)=some (some e.val):=by
  unfold XI lookIn
  refine aa (if_pos Gf.1) ?_
  dsimp only
  refine aa f1 ?_;rfl
 refine aa ho ?_;rfl
theorem aj.attr(fx:Fx g tb K)(ho:aj g Γ N n o xo)(ha:g.pl.EH a=at_)(hb:∀env whole,Vg xo at_ env whole=whole):aj g Γ N n (.attr o a) (.Attribute xo at_ pos):=by
 intro W A fr env ρ φ M s Q X hA hN er st hw
 subst ha
 refine Attribute_any_ (aS (α:=Unit) ho hA hN er st hw (λ v x s1 φ1 M1 q1 Et Ep EC r1=> ?_) λ zz zz e=>e) ?_
 ·refine ai (aD q1) λ r hr q=> ?_
  exact A2 fx Et r1 hr λ u t ru=>LQ.step Ep _ _ (LQ.tk Et t q ru)
 ·show(Vg xo _ env (eval xo env)>>=_)=_
  refine aa (hb _ _) ?_;rfl
noncomputable def jz(x:Qa):Bool:=decide (x.ctorIdx≠26)
theorem gP{T id:String}{Q:PL->PM->Prop}(hT:s.TypeIs o T)(hl:Yy (.type T) "__getitem__" =pure (some (.builtin id)))
  (hg:PT (PY g.prog g.w) A (getItem o i) Q E0 s)(hs:jz slice=true):PT (PY g.prog g.w) A (Ri value slice o i) Q E0 s:=by
 refine W6 (ops:=[o,i]) hT hl hg ?_
 cases slice<;>first|rfl|exact QU hs
theorem vh:∀{ks:List String} {vs:List Mine.V} {k:String} {r:Mine.V} {us:List PL} {o:P5->Prop} {h:QI},ay ks vs k=some r->am g.pl g.w.params φ o h vs us->
  ∃u,SS ((ks.map PF).zip us) (PF k)=some u/\VR g.pl g.w.params φ o h r u:=by
 intro ks
 induction ks with
 |nil=>
  intro y1 y2 y3 y4 y5 y6 h y7
  exact au h
 |cons k' ks ih=>
  intro y8
  cases y8 with
  |nil=>
   intro y9 G2 Gv HJ Jd h Jc
   exact au h
  |cons x vs=>
   intro k r us o hh h rs
   obtain⟨u,HQ,rfl,r1,rs⟩:=rs
   have h:(if k'==k then some x else ay ks vs k)=some r:=h
   unfold SS
   refine aa PR ?_;refine aa Qk ?_;refine aa Q6 ?_
   by_cases e:k'=k
   ·subst e
    rw[if_pos (by simp)] at h;cases h
    exact aA u (by simp) r1
   ·rw[if_neg (by simpa using e)] at h
    refine ai (ih h rs) λ u2 h1 h2=> ?_
    have e2:¬PF k'=PF k:=λ q=>e (cV q)
    exact aA u2 (by simp only [e2,decide_false];exact h1) h2
theorem sZ:∀{ks:List Int} {vs:List Mine.V} {k:Int} {r:Mine.V} {us:List PL} {o:P5->Prop} {h:QI},ci ks vs k=some r->am g.pl g.w.params φ o h vs us->
  ∃u,SS (ks.zip us) k=some u/\VR g.pl g.w.params φ o h r u:=by
 intro ks
 induction ks with
 |nil=>
  intro y1 y2 y3 y4 y5 y6 h y7
  exact au h
 |cons k' ks ih=>
  intro y8
  cases y8 with
  |nil=>
   intro y9 G2 Gv HJ Jd h Jc
   exact au h
  |cons x vs=>
   intro k r us o hh h rs
   obtain⟨u,HQ,rfl,r1,rs⟩:=rs
   have h:(if k'==k then some x else ci ks vs k)=some r:=h
   unfold SS
   refine aa Qk ?_;refine aa Q6 ?_
   by_cases e:k'=k
   ·subst e
    rw[if_pos (by simp)] at h;cases h
    exact aA u (by simp) r1
   ·rw[if_neg (by simpa using e)] at h
    refine ai (ih h rs) λ u2 h1 h2=> ?_
    exact aA u2 (by simp only [e,decide_false];exact h1) h2
theorem qG{k n:Nat}(h:k<n)(hl:n<=ar):(k:Int)<2^63:=by
 have:k<100000:=PK h hl
 exact ae 0x122c7e0fe722161a814cfd101 rfl k this
set_option tactic.hygienic true in
theorem AL(fx:Fx g tb K)(st:St g.pl g.w.params g.B W fr φ M s)(hx:VR g.pl g.w.params φ (ow W φ M) s.heap x v)(hy:VR g.pl g.w.params φ (ow W φ M) s.heap y u)
  (h:eh M x y=some r)(hs:jz slice=true)(q:∀z t,VR g.pl g.w.params φ (ow W φ M) s.heap r z->Q z {s with toks:=t}):PT (PY g.prog g.w) A (Ri value slice v u) Q E0 s:=by
 have lst:∀{p:P5} {xs:List PL} {m:Nat} {vs:List Mine.V} {i:Int} {t:Tok},s.heap.get? p=some (bb xs m)->vs.length<=ar->am g.pl g.w.params φ (ow W φ M) s.heap vs xs->0<=i->vs[i.toNat]? =some r->
   PT (PY g.prog g.w) A (Ri value slice (.ref p) (.int i t)) Q E0 s:=by
  intro p xs m vs i t gg hl rs h0 hi
  refine ai (rs.get hi) λ z hz rz=> ?_
  have EO:=(PO.mp hi).1
  exact gP ⟨_,gg,rfl⟩ VE.lookup (wpAny_getItem_list (dE gg) h0 (by have:=qG EO hl;exact ae 0x9163f07f4458fc1fce35110 rfl i this) (by simpa using hz) (q z s.toks rz)) hs
 have dS:∀{p:P5} {ks:List String} {vs:List Mine.V} {es:List Qj} {m:Nat} {k:String} {t:Tok},s.heap.get? p=some (QO es m)->ks.Nodup->bY g.w.params (ks.map PF) es->am g.pl g.w.params φ (ow W φ M) s.heap vs (es.map (·.val))->
   ay ks vs k=some r->PT (PY g.prog g.w) A (Ri value slice (.ref p) (.str (PF k) t)) Q E0 s:=by
  intro p ks vs es m k t gg nd ke rs hk
  refine ai (vh hk rs) λ z hz rz=> ?_
  exact gP ⟨_,gg,rfl⟩ YK.lookup (wpAny_getItem_of (WT _ _ _ _) (gN (prog:=g.prog) gg (cJ nd) ke).mapOf hz (q z _ rz)) hs
 cases x<;>first|exact au h|skip
 case bytes b=>
  obtain⟨i,hi,h⟩:=aP h
  obtain⟨h0,h⟩:=eI h
  cases hz:b[i.toNat]? <;>rw[hz] at h<;>first|exact au h|skip;rename_i z;cases h
  obtain⟨hl,t,rfl⟩:=hx
  obtain⟨t',rfl⟩:=isInt hy hi
  have EO:=(PO.mp hz).1
  refine gP (XB s _ t) TX.lookup (getItem_bytes (PN hl (by decide)) h0 (ae 0x914e45109135111 rfl b.length i EO) ?_) hs
  have e:b.getD i.toNat 0=z:=by refine aa P9 ?_;refine aa hz ?_;rfl
  refine aa e ?_
  exact q _ _ (VR.i ⟨_,rfl⟩)
 case tup vs=>
  obtain⟨i,hi,h⟩:=aP h
  obtain⟨h0,h⟩:=eI h
  obtain⟨a,xs,m,rfl,_,gg,hl,rs⟩:=hx
  obtain⟨t,rfl⟩:=isInt hy hi
  refine ai (rs.get h) λ z hz rz=> ?_
  have EO:=(PO.mp h).1
  have hb:=qG EO hl
  have E7:i.toNat<xs.length:=by refine aa rs.length ?_;exact EO
  refine gP ⟨_,gg,rfl⟩ slot_tuple_getitem.lookup (PySem.P.getItem_tuple (items:=xs.toArray) (n:=m) (k:=i.toNat) gg (ae 0x24444d8fc1fc446010 rfl i h0) (ae 0x9163f07f4458fc1fce35110 rfl i hb) ?_ (by simpa using hz) (q z s.toks rz)) hs
  have hn:¬i<0:=ae 0x926016044446010 rfl i h0
  have OO:i<xs.length:=ae 0x914e45109135111 rfl xs.length i E7
  simp[seqIndex?,hn,h0,OO]
 case list vs=>
  obtain⟨i,hi,h⟩:=aP h
  obtain⟨h0,h⟩:=eI h
  obtain⟨a,xs,m,rfl,_,gg,hl,rs⟩:=hx
  obtain⟨t,rfl⟩:=isInt hy hi
  exact lst gg hl rs h0 h
 case dict ks vs=>
  obtain⟨k,hk,h⟩:=aP h
  cases eR hk
  obtain⟨a,es,m,rfl,_,gg,hl,ke,rs⟩:=hx
  obtain⟨_,t,rfl⟩:=hy
  exact dS gg hl.nd ke rs h
 case ref i=>
  obtain⟨ob,hm,h⟩:=aP h
  obtain⟨p,rfl,_,ro⟩:=fY st hx hm
  cases ob<;>first|exact au h|skip
  case list vs=>
   obtain⟨j,hj,h⟩:=aP h
   obtain⟨h0,h⟩:=eI h
   obtain⟨t,rfl⟩:=isInt hy hj
   obtain⟨_,xs,m,gg,hl,rs⟩:=ro
   exact lst gg hl rs h0 h
  case Eu ks vs=>
   obtain⟨k,hk,h⟩:=aP h
   cases eR hk
   obtain⟨_,t,rfl⟩:=hy
   obtain⟨_,es,m,gg,hl,ke,rs⟩:=ro
   exact dS gg hl.nd ke rs h
  case EG ks vs=>
   obtain⟨k,hk,h⟩:=aP h
   obtain⟨t,rfl⟩:=isInt hy hk
   obtain⟨_,es,m,gg,hl,ke,rs⟩:=ro
   refine ai (sZ h rs) λ z hz rz=> ?_
   exact gP ⟨_,gg,rfl⟩ YK.lookup (wpAny_getItem_of (WU _ _ _ _) (ic (prog:=g.prog) (w:=g.w) gg hl.nd ke).mapOf hz (q z _ rz)) hs
theorem aj.sub(fx:Fx g tb K)(ho:aj g Γ N n o xo)(hk:aj g Γ N n k xk)(hs:jz xk=true):aj g Γ N n (.sub o k) (.Subscript xo xk pos):=by
 intro W A fr env ρ φ M s Q X hA hN er st hw
 refine YF (aS (α:=Unit) ho hA hN er st hw (λ v x s1 φ1 M1 q1 Et Ep EC r1=>aS (α:=Unit) hk hA hN EC Et q1 (λ u y s2 φ2 M2 q2 EB EA ET r2=> ?_) (LX.step Ep)) λ zz zz e=>e)
 refine ai (aD q2) λ r hr q3=> ?_
 exact AL fx EB (r1.step EA bG) r2 hr hs λ z t rz=>LQ.step (Ep.trans EA) _ _ (LQ.tk EB t q3 rz)
end
noncomputable def vC(g:Gs)(Γ:aH)(N:Nm)(n:Nat):Eo->Option Qa->Prop
 |.no,none=>True
 |.yes e,some x=>aj g Γ N n e x
 |_,_=>False
section
variable{g:Gs}{tb:Tb}{K:RH}{Γ:aH}{N:Nm}{n:Nat}{W W' V:P5->Prop}{A:Qz}{fr:List Env}{env:Env}{ρ:an}{φ φ':az}{M M':AH}{s s' sD:PM}{E0:PL->PM->Prop}
theorem Bi
  (ha:vC g Γ N n e xe)(hA:cj A fr n)(hN:env.scope.names=N)(er:aC g.pl g.w.params W Γ env ρ φ M s.heap)(st:St g.pl g.w.params g.B W fr φ M s)
  (h:yG g.pl.P (ag g.pl.P n) e ρ M Q1 X)
  (k:∀v (x:Option Nat) s1 φ1 M1,Q1 x M1->St g.pl g.w.params g.B W fr φ1 M1 s1->av bt φ M s φ1 M1 s1->aC g.pl g.w.params W Γ env ρ φ1 M1 s1.heap->UL v (x.map QE)->R v s1)
  (he:∀v s',LX g.pl g.w.params g.B W fr g.cls φ M s X v s'->E0 v s'):PT (PY g.prog g.w) A (evalPart xe env) R E0 s:=by
 cases e with
 |no=>
  cases xe with
  |none=>refine aa (Xa _) ?_;exact PD (k _ _ _ _ _ h st .refl er .none)
  |some x=>exact ha.elim
 |yes e=>
  cases xe with
  |none=>exact ha.elim
  |some x=>
   refine aa (evalPart_some _ _) ?_
   refine aS (α:=Unit) ha hA hN er st h (λ v x s1 φ1 M1 q1 Et Ep EC r1=> ?_) he
   refine bz (aD q1) λ m hm zz q=> ?_
   obtain⟨i,hi,hm⟩:=aP hm
   obtain⟨h0,hm⟩:=eI hm
   cases hm
   obtain⟨t,rfl⟩:=isInt r1 hi
   refine k _ _ _ _ _ q Et Ep EC ?_
   show UL _ (some (QE i.toNat))
   refine aa (show QE i.toNat=i from Ur h0) ?_;exact .int i t
theorem pG{n lo:Nat}{hi:Option Nat}{l:Option Nat}(Jj:lo=l.getD 0):∀{α:Type} (xs:List α),xs.length=n->
  ((xs.drop ((l.map QE).elim 0 (Yh n))).take ((hi.map QE).elim n (Yh n)-(l.map QE).elim 0 (Yh n)))=cut xs lo hi:=by
 intro α xs hl
 have e1:(l.map QE).elim 0 (Yh n)=min lo n:=by
  cases l with
  |none=>simp at Jj;subst Jj;simp
  |some a=>simp at Jj;subst Jj;exact clipAt_nat n lo
 refine aa e1 ?_
 cases hi with
 |none=>
  show(xs.drop (min lo n)).take (n-min lo n)=xs.drop lo
  refine aa (Qg (by refine aa Qy ?_;refine aa hl ?_;exact PE _)) ?_
  rcases WC lo n with h|h
  ·refine aa (TU h) ?_;rfl
  ·refine aa (TA h) ?_;refine aa (Sf (ae 0x905244349102 rfl xs.length n hl)) ?_;refine aa (Sf (ae 0x92414d105348349103 rfl xs.length n lo hl h)) ?_;rfl
 |some b=>
  show(xs.drop (min lo n)).take (Yh n (QE b)-min lo n)=(xs.take b).drop lo
  refine aa (show Yh n (QE b)=min b n from clipAt_nat n b) ?_;refine aa VP ?_
  rcases WC lo n with h|h
  ·refine aa (TU h) ?_
   rcases WC b n with h'|h'
   ·refine aa (TU h') ?_;rfl
   ·refine aa (TA h') ?_;refine aa (Qg (by refine aa Qy ?_;refine aa hl ?_;exact PE _)) ?_;refine aa (Qg (by refine aa Qy ?_;refine aa hl ?_;exact ae 0x90424d209344149103 rfl n b lo h')) ?_;rfl
  ·refine aa (TA h) ?_;refine aa (Sf (ae 0x905244349102 rfl xs.length n hl)) ?_;refine aa (Sf (ae 0x92414d105348349103 rfl xs.length n lo hl h)) ?_;simp
theorem am.take{φ:az}:∀{a:List Mine.V} {xs:List PL} (k:Nat),am pl P φ o h a xs->am pl P φ o h (a.take k) (xs.take k):=by
 intro a
 induction a with
 |nil=>
  intro y1 y2
  cases y2 with
  |zero=>
   intro y3
   exact rfl
  |succ y4=>
   intro r
   subst r;rfl
 |cons y5 y6 ih=>
  intro y7 y8
  cases y8 with
  |zero=>
   intro y9
   exact rfl
  |succ k=>
   intro r
   exact r.casesOn λ v t e h1 h2=>e▸am.c ⟨v,_,rfl,h1,ih k h2⟩
theorem am.drop{φ:az}:∀{a:List Mine.V} {xs:List PL} (k:Nat),am pl P φ o h a xs->am pl P φ o h (a.drop k) (xs.drop k):=by
 intro a
 induction a with
 |nil=>
  intro y1 y2
  cases y2 with
  |zero=>
   intro r
   exact r
  |succ y3=>
   intro r
   subst r;rfl
 |cons y4 y5 ih=>
  intro y6 y7
  cases y7 with
  |zero=>
   intro r
   exact r
  |succ k=>
   intro r
   exact r.casesOn λ v t e h1 h2=>e▸ih k h2
theorem am.cut{φ:az}{o:P5->Prop}{a:List Mine.V}{xs:List PL}{lo:Nat}{hi:Option Nat}(r:am pl P φ o h a xs):am pl P φ o h (Mine.cut a lo hi) (Mine.cut xs lo hi):=by
 cases hi with
 |none=>exact r.drop lo
 |some b=>exact(r.take b).drop lo
theorem am.rev{φ:az}:∀{a:List Mine.V} {xs:List PL},am pl P φ o h a xs->am pl P φ o h a.reverse xs.reverse:=by
 intro a
 induction a with
 |nil=>
  intro xs r
  subst r;rfl
 |cons x a ih=>
  intro xs r
  obtain⟨v,t,rfl,h1,h2⟩:=r
  refine aa Sh ?_;refine aa Sh ?_
  exact am.append (ih h2) (am.c ⟨v,[],rfl,h1,rfl⟩)
theorem t6{α:Type}{xs:List α}{lo:Nat}{hi:Option Nat}:(Mine.cut xs lo hi).length<=xs.length:=by
 cases hi with
 |none=>show(xs.drop lo).length<=_;refine aa Qy ?_;exact ae 0x144249102 rfl xs.length lo
 |some b=>show((xs.take b).drop lo).length<=_;refine aa Qy ?_;refine aa Rb ?_;exact ae 0x14824c449103 rfl b xs.length lo
inductive yW(g:Gs)(W:P5->Prop)(φ:az)(M:AH)(h:QI)(vs:List Mine.V)(v:PL):Prop
 |mk (a:P5) (xs:List PL) (m:Nat):v=.ref a->h.get? a=some (bb xs m)->vs.length<=ar->am g.pl g.w.params φ (ow W φ M) h vs xs->yW g W φ M h vs v
theorem gL(st:St g.pl g.w.params g.B W fr φ M s)(r:VR g.pl g.w.params φ (ow W φ M) s.heap x v)(h:dg M x=some vs):yW g W φ M s.heap vs v:=by
 cases x<;>first|exact au h|skip
 ·cases h
  obtain⟨a,xs,m,e,_,gg,hl,rs⟩:=r
  exact⟨a,xs,m,e,gg,hl,rs⟩
 ·obtain⟨ob,hm,h⟩:=aP h
  cases ob<;>first|exact au h|skip
  cases h
  obtain⟨p,e,_,_,xs,m,gg,hl,rs⟩:=fY st r hm
  exact⟨p.1,xs,m,e,gg,hl,rs⟩
theorem uO{z:String}{lo:Nat}(h:lo<=z.length):Wv (PF z) (some (QE lo)) none=PF (RV (z.toList.drop lo)):=by
 have hl:(PF z).length=z.length:=Rc z
 refine aa (slice_from_eq (i:=QE lo) (b:=(PF z).length) (Sa _) (by refine aa hl ?_;exact S7.mpr h) rfl) ?_;refine aa (QD _) ?_;refine aa (QD _) ?_
 simp only [String.toList_ofList,List.map_drop]
 congr 2
 have e1:(QE lo).toNat=lo:=rfl
 refine aa e1 ?_
 refine Qg ?_
 simp[Str.length]
theorem uz(x:Str):Wv x none none=x:=by
 have h:(Ut none none 1 x.length).length=x.length:=by
  unfold Ut sliceRange
  simp only [show(1:Int)>0 by decide,if_true,PG,Sj]
  split<;>(try simp only [WF])<;>(first|(rename_i z0;exact ae 0x344d0a10610a039101 rfl x.length)|(rename_i z0;exact ae 0x24346026014e46001 rfl x.length z0))
 unfold Wv
 refine aa (if_pos (by refine aa h ?_;simp)) ?_;rfl
noncomputable abbrev km(s:PM)(vl vu:PL):PM:={s with heap:=s.heap.push {cls:=.type "slice",data:=.fields #[vl,vu,.none]}}
theorem St.sl(st:St g.pl g.w.params g.B W fr φ M s):St g.pl g.w.params g.B W fr φ M (km s vl vu):=st.Gp λ b o' e=>PC _ e
theorem av.sl:av bt φ M s φ M (km s vl vu):=.ext (λ b o' e=>PC _ e) rfl rfl
section
variable{v vl vu:PL}{lo hi:Option Nat}{value:Qa}{xl xu:Option Qa}{p:Pos}{Q:Mine.V->AH->Prop}
theorem uA{vs:List Mine.V}(st:St g.pl g.w.params g.B W fr φ M s)(hx:yW g W φ M s.heap vs v)(pl:UL vl (lo.map QE))(pu:UL vu (hi.map QE))(q:Q (.list (cut vs (lo.getD 0) hi)) M):
  PT (PY g.prog g.w) A (Ri value (.Slice xl xu none p) v (.ref s.heap.objs.size)) (LQ g.pl g.w.params g.B W fr φ M s Q) E0 (km s vl vu):=by
 obtain⟨a,xs,m,rfl,gg,hl,rs⟩:=hx
 have ND:=PC {cls:=.type "slice",data:=.fields #[vl,vu,.none]} gg
 refine W6 (ops:=[.ref s.heap.objs.size,.ref a]) ⟨_,ND,rfl⟩ VE.lookup (WW (dE ND) (Tu ..) pl pu .none (by simp) ?_ (by refine aa PX ?_;refine aa rs.length ?_;exact cG hl)) rfl
 refine aa (slicePick_plain _ _ _) ?_;refine aa (show xs.toArray.toList=xs from rfl) ?_;refine aa (pG (n:=xs.toArray.size) (hi:=hi) (l:=lo) rfl xs rfl) ?_
 exact LQ.step .sl _ _ (LQ.newList st.sl _ q (PN t6 hl) (rs.ext λ b o' e=>PC _ e).cut)
theorem v9{b:List UInt8}(st:St g.pl g.w.params g.B W fr φ M s)(hx:sq b v)(pl:UL vl (lo.map QE))(pu:UL vu (hi.map QE))(q:Q (.bytes (cut b (lo.getD 0) hi)) M):
  PT (PY g.prog g.w) A (Ri value (.Slice xl xu none p) v (.ref s.heap.objs.size)) (LQ g.pl g.w.params g.B W fr φ M s Q) E0 (km s vl vu):=by
 obtain⟨hl,t,rfl⟩:=hx
 refine W6 (ops:=[.ref s.heap.objs.size,.bytes b.toArray t]) (XB _ _ _) TX.lookup (getItem_meets (XB _ _ _) (by decide) TX FB.entry_bytes_getitem (FB.args_bytes_getitem_2 _ _) (KBc.meets_slice2 b.toArray t _ pl pu)
  ⟨Tu ..,PN (KBc.size_picked_le _ _ _) (by refine aa PX ?_;exact cG hl),λ t' k=> ?_⟩) rfl
 refine aa (KBc.picked_eq _ _ _) ?_;refine aa (show b.toArray.toList=b from rfl) ?_;refine aa (pG (n:=b.toArray.size) (hi:=hi) (l:=lo) rfl b rfl) ?_
 exact LQ.step .sl _ _ (LQ.tk st.sl k q (VR.y ⟨PN t6 hl,t',rfl⟩))
theorem mV{n:Nat}(st:St g.pl g.w.params g.B W fr φ M s)(hl:z.length<=ar)(ez:Wv (PF z) (l.map (·.1)) none=PF (RV (z.toList.drop n)))(q:Q (.str (RV (z.toList.drop n))) M):
  PT (PY g.prog g.w) A (Ri value (.Slice xl xu none p) (.str (PF z) t) (.ref s.heap.objs.size)) (LQ g.pl g.w.params g.B W fr φ M s Q) E0 (km s (partValue l) .none):=by
 have hlen:(PF z).length<=Rn:=by refine aa (Rc _) ?_;exact cG hl
 refine W6 (ops:=[.ref s.heap.objs.size,.str (PF z) t]) (typeIs_str _ _ _) F.slot_str_getitem.lookup (wpAny_getItem_str_slice (l:=l) (u:=none) (st:=none) ⟨_,PP _ rfl,rfl,rfl⟩ rfl
  (post_val_or_str ⟨PN (Txt.slice_le _ _ _) hlen,λ t' k=> ?_⟩)) rfl
 refine LQ.step .sl _ _ (LQ.tk st.sl k q (VR.s ⟨?_,t',congrArg (λ y=>Ve y t') ez⟩))
 exact PN (by refine aa String.length_ofList ?_;refine aa Qy ?_;refine aE String.length_toList ?_;exact Nat.sub_le _ _) hl
theorem v8{z:String}(st:St g.pl g.w.params g.B W fr φ M s)(hx:sn z v)(pl:UL vl (lo.map QE))(pu:UL vu none)(hle:lo.getD 0<=z.length)(q:Q (.str (RV (z.toList.drop (lo.getD 0)))) M):
  PT (PY g.prog g.w) A (Ri value (.Slice xl xu none p) v (.ref s.heap.objs.size)) (LQ g.pl g.w.params g.B W fr φ M s Q) E0 (km s vl vu):=by
 obtain⟨hl,t,rfl⟩:=hx
 cases pu
 cases lo with
 |none=>cases pl;exact mV (l:=none) st hl ((uz _).trans (congrArg PF (String.ofList_toList).symm)) q
 |some lo=>
  generalize he:(some lo).map QE=li at pl
  cases pl with
  |none=>cases he
  |int i t2=>cases he;exact mV (l:=some (_,t2)) st hl (uO hle) q
theorem wa(st:St g.pl g.w.params g.B W fr φ M s)(hx:VR g.pl g.w.params φ (ow W φ M) s.heap x v)
  (pl:UL vl (lo.map QE))(pu:UL vu (hi.map QE))(h:(dg M x).map (λ vs=>Mine.V.list (cut vs (lo.getD 0) hi))=some r)(q:Q r M):
  PT (PY g.prog g.w) A (Ri value (.Slice xl xu none p) v (.ref s.heap.objs.size)) (LQ g.pl g.w.params g.B W fr φ M s Q) E0 (km s vl vu):=by
 obtain⟨vs,hv,rfl⟩:=hJ h
 exact uA st (gL st hx hv) pl pu q
theorem xL(st:St g.pl g.w.params g.B W fr φ M s)(hx:VR g.pl g.w.params φ (ow W φ M) s.heap x v)
  (pl:UL vl (lo.map QE))(pu:UL vu (hi.map QE))(h:mW M x (lo.getD 0) hi=some r)(q:Q r M):
  PT (PY g.prog g.w) A (Ri value (.Slice xl xu none p) v (.ref s.heap.objs.size)) (LQ g.pl g.w.params g.B W fr φ M s Q) E0 (km s vl vu):=by
 cases x
 case bytes=>cases h;exact v9 st hx pl pu q
 case str=>
  cases hi with
  |some _=>exact au h
  |none=>obtain⟨hle,h⟩:=eI h;cases h;exact v8 st hx pl pu hle q
 all_goals exact wa st hx pl pu h q
end
theorem aj.slice{lo hi:Eo}{xl xu:Option Qa}{p pos:Pos}(ho:aj g Γ N n o xo)(hl:vC g Γ N n lo xl)(hu:vC g Γ N n hi xu):aj g Γ N n (.slice o lo hi) (.Subscript xo (.Slice xl xu none p) pos):=by
 intro W A fr env ρ φ M s Q X hA hN er st hw
 refine YF (aS (α:=Unit) ho hA hN er st hw (λ v x s1 φ1 M1 q1 Et Ep EC r1=>wpAny_Slice (Bi hl hA hN EC Et q1 (λ vl l s2 φ2 M2 q2 EB EA ET pl=>Bi hu hA hN ET EB q2 (λ vu u s3 φ3 M3 q3 Fj Fk G1 pu=> ?_) (LX.step (Ep.trans EA))) (LX.step Ep))) λ zz zz e=>e)
 refine aa (Xa _) ?_
 refine PD ?_
 refine ai (aD q3) λ r hr q=> ?_
 exact PW (xL (E0:=λ zz zz=>False) Fj ((r1.step EA bG).step Fk bG) pl pu hr q) (LQ.step ((Ep.trans EA).trans Fk)) λ zz zz e=>e.elim
noncomputable def BK(x:Qa):Bool:=ga x λ o a zz=>decide (o=.USub)&&cW a λ c zz zz=>decide (c=.int 1)
theorem aj.rev{p pos:Pos}(ho:aj g Γ N n o xo)(hm:BK xs=true):aj g Γ N n (.rev o) (.Subscript xo (.Slice none none (some xs) p) pos):=by
 refine gX (mo:=λ xs=>aj g Γ N n (.rev o) (.Subscript xo (.Slice none none (some xs) p) pos)) hm λ u a pu hm=> ?_
 cases aJ (af hm).1
 refine ct (mo:=λ a=>aj g Γ N n (.rev o) (.Subscript xo (.Slice none none (some (.UnaryOp _ a pu)) p) pos)) (af hm).2 λ c zz zz hm=> ?_
 cases aJ hm
 intro W A fr env ρ φ M s Q X hA hN er st hw
 refine YF (aS (α:=Unit) ho hA hN er st hw (λ v x s1 φ1 M1 q1 Et Ep EC r1=>wpAny_Slice ?_) λ zz zz e=>e)
 refine aa (Xa _) ?_
 refine PD (PD ?_)
 refine aa (evalPart_some _ _) ?_
 refine UnaryOp_ (Vh (neg_int ?_))
 refine ai (aD q1) λ vs hv q=> ?_
 have EB:St g.pl g.w.params g.B W fr φ1 M1 {s1 with toks:=s1.toks+1+1}:=Et.tok rfl
 have EA:av bt φ1 M1 s1 φ1 M1 {s1 with toks:=s1.toks+1+1}:=.tok rfl rfl rfl
 have hk:∀b o',s1.heap.get? b=some o'->(s1.heap.push {cls:=.type "slice",data:=.fields #[.none,.none,.int (-1) (s1.toks+1)]}).get? b=some o':=λ b o' e=>PC _ e
 have Fe:s1.heap.objs.size<=(s1.heap.push {cls:=.type "slice",data:=.fields #[.none,.none,.int (-1) (s1.toks+1)]}).objs.size:=by refine aa (Qd _ _) ?_;exact RR _
 have G4:St g.pl g.w.params g.B W fr φ1 M1 {s1 with heap:=s1.heap.push {cls:=.type "slice",data:=.fields #[.none,.none,.int (-1) (s1.toks+1)]},toks:=s1.toks+1+1}:=Et.Gp hk
 have Je:av bt φ1 M1 s1 φ1 M1 {s1 with heap:=s1.heap.push {cls:=.type "slice",data:=.fields #[.none,.none,.int (-1) (s1.toks+1)]},toks:=s1.toks+1+1}:=.ext hk rfl rfl
 obtain⟨a,xs,m,rfl,gg,hl,rs⟩:=gL G4 (VR.ext hk r1) hv
 have e1:=rs.length
 refine W6 (ops:=[.ref a,.ref s1.heap.objs.size]) ⟨_,gg,rfl⟩ VE.lookup (WW (dE gg) (Tu ..) .none .none (.int (-1) _) (by decide) ?_ (by refine aa PX ?_;refine aa e1 ?_;exact cG hl)) rfl
 refine aa (krv_pick _) ?_
 exact LQ.step (Ep.trans Je) _ _ (LQ.newList G4 _ q (by refine aa RP ?_;exact hl) rs.rev)
end
section
variable{g:Gs}{tb:Tb}{K:RH}{Γ:aH}{N:Nm}{n:Nat}{W W':P5->Prop}{A:Qz}{fr:List Env}{env:Env}{ρ:an}{φ φ':az}{M M':AH}{s s' sD:PM}{E0:PL->PM->Prop}
theorem kn{env:Env}:∀{xs:List Qa},xs.all aw=true->(Tp pos (Rh xs env)).any (·.1)=false:=by
 intro xs
 induction xs with
 |nil=>
  intro y1
  exact rfl
 |cons x xs ih=>
  intro h
  rw[Uy,P1] at h
  refine aa (bc h.1) ?_
  show(false||(Tp pos (Rh xs env)).any (·.1))=false
  refine aa (ih h.2) ?_;rfl
theorem iS(hx:xs.all aw=true)
  (h:PT M0 A (Vu (Tp pos (Rh xs env))) (λ vs s'=>R ⟨vs,[]⟩ s') E0 s):PT M0 A (evalArgs f true (Tp pos (Rh xs env)) []) R E0 s:=by
 cases xs with
 |nil=>
  have h':PT M0 A (Vu []) (λ vs s'=>R ⟨vs,[]⟩ s') E0 s:=h
  show PT M0 A (evalArgs f true [] []) R E0 s
  unfold evalArgs
  show PT M0 A (Vu []>>=_) R E0 s
  refine PA (PW h' (λ vs s' h'=> ?_) λ zz zz x=>x)
  refine PA (PD ?_)
  refine Qu ?_
  exact PA (PD (PA (PD (PD h'))))
 |cons x xs=>
  rw[Uy,P1] at hx
  rw[bc hx.1] at h ⊢
  exact evalArgs_plain h
theorem gO(fx:Fx g tb K)(hN:env.scope.names=N)(er:aC g.pl g.w.params W Γ env ρ φ M s.heap)(st:St g.pl g.w.params g.B W fr φ M s)
  (hk:N.lookup x=some .globalImplicit)(hv:(x,f)∈jJ)(hx:xs.all aw=true)
  (h:PT (PY g.prog g.w) A (Vu (Tp pos (Rh xs env))) (λ vs s1=>PT (PY g.prog g.w) A (call f vs) R E0 s1) E0 s):
  PT (PY g.prog g.w) A (eval (.Call (.Name x p) xs [] pos) env) R E0 s:=by
 refine Wi rfl (t9 fx hN er st hk hv ?_)
 have hf:decide (f.ctorIdx=8∨f.ctorIdx=9)=true:=QF.mp (show(jJ.all λ p=>decide (p.2.ctorIdx=8∨p.2.ctorIdx=9))=true by decide+kernel) _ hv
 revert hv h
 refine(aJ hf).elim (λ h0=>Value.type.elim (motive:=λ f=>_->PT _ _ _ (λ vs s1=>PT _ _ (call f vs) R E0 s1) _ _->PT _ _ (V8 _ f _ _ _) _ _ _) f h0 λ T zz h=> ?_) λ h0=>YR (motive:=λ f=>_->PT _ _ _ (λ vs s1=>PT _ _ (call f vs) R E0 s1) _ _->PT _ _ (V8 _ f _ _ _) _ _ _) f h0 λ i zz h=> ?_
 ·exact PyProof.Rows.callWith_type (kn hx) (iS hx h)
 ·exact callWith_builtin (kn hx) (iS hx h)
theorem ze
  (ha:aj g Γ N n e xe)(hn:aw xe=true)(hA:cj A fr n)(hN:env.scope.names=N)(er:aC g.pl g.w.params W Γ env ρ φ M s.heap)(st:St g.pl g.w.params g.B W fr φ M s)
  (h:aO g.pl.P (ag g.pl.P n) e ρ M Q1 X)
  (k:∀v x s1 φ1 M1,Q1 x M1->St g.pl g.w.params g.B W fr φ1 M1 s1->av bt φ M s φ1 M1 s1->aC g.pl g.w.params W Γ env ρ φ1 M1 s1.heap->VR g.pl g.w.params φ1 (ow W φ1 M1) s1.heap x v->R [v] s1)
  (he:∀v s',LX g.pl g.w.params g.B W fr g.cls φ M s X v s'->E0 v s'):PT (PY g.prog g.w) A (Vu (Tp pos (Rh [xe] env))) R E0 s:=by
 refine aa (bc hn) ?_
 exact spliced_cons (aS (α:=Unit) ha hA hN er st h (λ v x s1 φ1 M1 q Et Ep EC r1=>spliced_nil (k v x s1 φ1 M1 q Et Ep EC r1)) he)
theorem zd{Q1:V->V->AH->Prop}{R:List PL->PM->Prop}
  (ha:aj g Γ N n a xa)(hb:aj g Γ N n b xb)(na:aw xa=true)(nb:aw xb=true)(hA:cj A fr n)(hN:env.scope.names=N)(er:aC g.pl g.w.params W Γ env ρ φ M s.heap)(st:St g.pl g.w.params g.B W fr φ M s)
  (h:aO g.pl.P (ag g.pl.P n) a ρ M (λ x M1=>aO g.pl.P (ag g.pl.P n) b ρ M1 (λ y M2=>Q1 x y M2) X) X)
  (k:∀v u x y s1 φ1 M1,Q1 x y M1->St g.pl g.w.params g.B W fr φ1 M1 s1->av bt φ M s φ1 M1 s1->aC g.pl g.w.params W Γ env ρ φ1 M1 s1.heap->VR g.pl g.w.params φ1 (ow W φ1 M1) s1.heap x v->VR g.pl g.w.params φ1 (ow W φ1 M1) s1.heap y u->R [v,u] s1)
  (he:∀v s',LX g.pl g.w.params g.B W fr g.cls φ M s X v s'->E0 v s'):PT (PY g.prog g.w) A (Vu (Tp pos (Rh [xa,xb] env))) R E0 s:=by
 refine aa (bc na) ?_;refine aa (bc nb) ?_
 exact spliced_cons (aS (α:=Unit) ha hA hN er st h (λ v x s1 φ1 M1 q Et Ep EC r1=>spliced_cons (aS (α:=Unit) hb hA hN EC Et q (λ u y s2 φ2 M2 q2 EB EA ET r2=>spliced_nil (k v u x y s2 φ2 M2 q2 EB (Ep.trans EA) ET (r1.step EA bG) r2)) λ v s' z=>he v s' (LX.step Ep v s' z))) he)
theorem qF(h:k<=ar):¬(k:Int)≥2^63:=by have:k<=100000:=h;exact ae 0x124c021c8c7e0fe0e1a814cfd101 rfl k this
set_option tactic.hygienic true in
theorem BD(st:St g.pl g.w.params g.B W fr φ M s)(hx:VR g.pl g.w.params φ (ow W φ M) s.heap x v)(h:BE M x=some k)(q:∀t u,R (.int (k:Int) u) {s with toks:=t}):
  PT (PY g.prog g.w) A (call (.builtin "len") [v]) R E0 s:=by
 have lst:∀{a:P5} {xs:List PL} {m:Nat} {vs:List Mine.V},vs.length=k->s.heap.get? a=some (bb xs m)->vs.length<=ar->am g.pl g.w.params φ (ow W φ M) s.heap vs xs->PT (PY g.prog g.w) A (call (.builtin "len") [.ref a]) R E0 s:=by
  intro a xs m vs ek gg hl rs
  have e:xs.toArray.size=k:=by refine aa PX ?_;refine aa rs.length ?_;refine aa ek ?_;rfl
  refine call_len_list (dE gg) (by refine aa e ?_;have:=qF (ek▸hl);exact ae 0x9163f07f39126010e463f07f01 rfl k this) ?_
  refine aa e ?_;exact q _ _
 cases x<;>first|exact au h|skip
 case list vs=>obtain⟨a,xs,m,rfl,_,gg,hl,rs⟩:=hx;exact lst (PZ h) gg hl rs
 case tup vs=>
  cases h;obtain⟨a,xs,m,rfl,_,gg,hl,rs⟩:=hx
  have e:=rs.length
  refine P.len_tuple (items:=xs.toArray) (n:=m) gg (by refine aa PX ?_;refine aa e ?_;exact qF hl) ?_
  refine aa PX ?_;refine aa e ?_;exact q _ _
 case str z=>
  cases h;obtain⟨hl,t,rfl⟩:=hx
  refine len_str (by refine aa (Rc _) ?_;exact qF hl) ?_
  refine aa (Rc _) ?_;exact q _ _
 case bytes b=>
  cases h;obtain⟨hl,t,rfl⟩:=hx
  refine len_bytes (by refine aa PX ?_;exact PN hl (by decide)) ?_
  refine aa PX ?_;exact q _ _
 case ref i=>
  obtain⟨l,hl,e⟩:=hJ h
  obtain⟨a,xs,m,rfl,gg,hl,rs⟩:=gL st hx hl
  exact lst e gg hl rs
noncomputable def dG(N:Nm)(x:Str)(f:PL):Bool:=N.lookup x==some .globalImplicit&&jJ.contains (x,f)
theorem cE(h:dG N x f=true):N.lookup x=some .globalImplicit/\(x,f)∈jJ:=⟨aq (af h).1,Su.mp (af h).2⟩
theorem oE(h:aw x=true):[x].all aw=true:=by simp[h]
theorem n7(h:aw x=true)(h':aw y=true):[x,y].all aw=true:=by simp[h,h']
theorem aj.Jp(fx:Fx g tb K){F:Mine.V->AH->(Mine.V->AH->Prop)->Prop}(ha:aj g Γ N n a xa)(hs:aw xa=true)(hb:dG N x f=true)
  (hw:∀ρ M Q X,aO g.pl.P (ag g.pl.P n) e ρ M Q X->aO g.pl.P (ag g.pl.P n) a ρ M (λ v M1=>F v M1 Q) X)
  (k:∀{W A fr φ M s Q v x},A.handled=none->St g.pl g.w.params g.B W fr φ M s->VR g.pl g.w.params φ (ow W φ M) s.heap x v->F x M Q->PT (PY g.prog g.w) A (call f [v]) (LQ g.pl g.w.params g.B W fr φ M s Q) (λ zz zz=>False) s):
  aj g Γ N n e (.Call (.Name x p) [xa] [] pos):=by
 intro W A fr env ρ φ M s Q X hA hN er st h
 exact gO fx hN er st (cE hb).1 (cE hb).2 (oE hs) (ze ha hs hA hN er st (hw _ _ _ _ h) (λ v x s1 φ1 M1 q1 Et Ep EC r1=>PW (k hA.handled Et r1 q1) (LQ.step Ep) λ zz zz e=>e.elim) λ zz zz e=>e)
theorem aj.NJ(fx:Fx g tb K){F:Mine.V->Mine.V->AH->(Mine.V->AH->Prop)->Prop}(ha:aj g Γ N n a xa)(hb:aj g Γ N n b xb)(na:aw xa=true)(nb:aw xb=true)(hbi:dG N x f=true)
  (hw:∀ρ M Q X,aO g.pl.P (ag g.pl.P n) e ρ M Q X->aO g.pl.P (ag g.pl.P n) a ρ M (λ v M1=>aO g.pl.P (ag g.pl.P n) b ρ M1 (λ u M2=>F v u M2 Q) X) X)
  (k:∀{W A fr φ M s Q v u x y},A.handled=none->St g.pl g.w.params g.B W fr φ M s->VR g.pl g.w.params φ (ow W φ M) s.heap x v->VR g.pl g.w.params φ (ow W φ M) s.heap y u->F x y M Q->PT (PY g.prog g.w) A (call f [v,u]) (LQ g.pl g.w.params g.B W fr φ M s Q) (λ zz zz=>False) s):
  aj g Γ N n e (.Call (.Name x p) [xa,xb] [] pos):=by
 intro W A fr env ρ φ M s Q X hA hN er st h
 exact gO fx hN er st (cE hbi).1 (cE hbi).2 (n7 na nb) (zd ha hb na nb hA hN er st (hw _ _ _ _ h) (λ v u x y s1 φ1 M1 q1 Et Ep EC r1 r2=>PW (k hA.handled Et r1 r2 q1) (LQ.step Ep) λ zz zz e=>e.elim) λ zz zz e=>e)
theorem aj.len(fx:Fx g tb K)(ha:aj g Γ N n a xa)(hs:aw xa=true)(hb:dG N x (.builtin "len")=true):aj g Γ N n (.len a) (.Call (.Name x p) [xa] [] pos):=
 .Jp fx ha hs hb (λ zz zz zz zz h=>h) λ zz st r q=>by
  refine ai (aD q) λ k hk q=> ?_
  exact BD st r hk λ t u=>LQ.int st t q u
theorem aj.abs(fx:Fx g tb K)(ha:aj g Γ N n a xa)(hs:aw xa=true)(hb:dG N x (.builtin "abs")=true):aj g Γ N n (.abs a) (.Call (.Name x p) [xa] [] pos):=
 .Jp fx ha hs hb (λ zz zz zz zz h=>h) λ zz st r q=>by
  refine ai (aD q) λ i hi q=> ?_
  obtain⟨t,rfl⟩:=isInt r hi
  refine call_abs_int λ u tk=> ?_
  refine aa (show(if i<0 then-i else i)=(i.natAbs:Int) by split<;>(first|(rename_i z0;exact ae 0x24638e44d44581110 rfl i z0)|(rename_i z0;exact ae 0x918e39144980581110 rfl i z0))) ?_
  exact LQ.int st _ q u
theorem aj.intOf(fx:Fx g tb K)(ha:aj g Γ N n a xa)(hs:aw xa=true)(hb:dG N x (.type "int")=true):aj g Γ N n (.intOf a) (.Call (.Name x p) [xa] [] pos):=
 .Jp fx ha hs hb (λ zz zz zz zz h=>h) λ{W A fr φ M s Q v y} _ st r q=>by
  refine ai (aD q) λ i hi q=> ?_
  cases y<;>first|exact au hi|skip
  ·cases hi;subst r;exact call_int_bool (LQ.int st _ q _)
  ·cases hi;obtain⟨t,rfl⟩:=r;exact call_int_int (LQ.int st _ q t)
theorem jG{h':QI}{t:Nat}(hk:∀b o,s.heap.get? b=some o->h'.get? b=some o)(st:St g.pl g.w.params g.B W fr φ M s):
  St g.pl g.w.params g.B W fr φ M {s with heap:=h',toks:=t}/\av bt φ M s φ M {s with heap:=h',toks:=t}:=⟨st.Gp hk,.ext hk rfl rfl⟩
theorem tO{α:Type}[Decidable c]{a b:α}:(if decide c=true then a else b)=if c then a else b:=by by_cases h:c<;>simp[h]
theorem aj.max2(fx:Fx g tb K)(ha:aj g Γ N n a xa)(hb:aj g Γ N n b xb)(na:aw xa=true)(nb:aw xb=true)(hbi:dG N x (.builtin "max")=true):aj g Γ N n (.max2 a b) (.Call (.Name x p) [xa,xb] [] pos):=
 .NJ fx ha hb na nb hbi (λ zz zz zz zz h=>h) λ hh st r1 r2 q=>by
  refine ai (aD q) λ i hi q=> ?_
  refine ai (aD q) λ j hj q=> ?_
  obtain⟨t,rfl⟩:=isInt r1 hi
  obtain⟨t',rfl⟩:=isInt r2 hj
  refine PySem.Flt.max_two_num hh (.int i t) (.int j t') λ h' tk hk=> ?_
  obtain⟨EB,EA⟩:=jG (t:=tk) hk st
  show LQ _ _ _ _ _ _ _ _ _ (if decide (i<j) then _ else _) _
  by_cases e:i<j
  ·rw[if_pos e] at q
   refine aa (if_pos (decide_eq_true e)) ?_
   exact LQ.step EA _ _ (LQ.int EB _ q _)
  ·rw[if_neg e] at q
   refine aa tO ?_;refine aa (if_neg e) ?_
   exact LQ.step EA _ _ (LQ.int EB _ q _)
theorem aj.min2(fx:Fx g tb K)(ha:aj g Γ N n a xa)(hb:aj g Γ N n b xb)(na:aw xa=true)(nb:aw xb=true)(hbi:dG N x (.builtin "min")=true):aj g Γ N n (.min2 a b) (.Call (.Name x p) [xa,xb] [] pos):=
 .NJ fx ha hb na nb hbi (λ zz zz zz zz h=>h) λ hh st r1 r2 q=>by
  refine ai (aD q) λ i hi q=> ?_
  refine ai (aD q) λ j hj q=> ?_
  obtain⟨t,rfl⟩:=isInt r1 hi
  obtain⟨t',rfl⟩:=isInt r2 hj
  refine PySem.Flt.min_two_num hh (.int i t) (.int j t') λ h' tk hk=> ?_
  obtain⟨EB,EA⟩:=jG (t:=tk) hk st
  show LQ _ _ _ _ _ _ _ _ _ (if decide (j<i) then _ else _) _
  by_cases e:j<i
  ·rw[if_pos e] at q
   refine aa (if_pos (decide_eq_true e)) ?_
   exact LQ.step EA _ _ (LQ.int EB _ q _)
  ·rw[if_neg e] at q
   refine aa tO ?_;refine aa (if_neg e) ?_
   exact LQ.step EA _ _ (LQ.int EB _ q _)
theorem aj.Fa(fx:Fx g tb K)(ha:aj g Γ N n a xa)(hs:aw xa=true)(hb:dG N x (.type "tuple")=true):aj g Γ N n (.Fa a) (.Call (.Name x p) [xa] [] pos):=
 .Jp fx ha hs hb (λ zz zz zz zz h=>h) λ{W A fr φ M s Q v y} _ st r q=>by
  refine ai (aD q) λ vs hv q=> ?_
  obtain⟨c,xs,m,rfl,gg,hl,rs⟩:=gL st r hv
  refine PySem.call_tuple_list (dE gg) (λ h' hk=> ?_) (by refine aa PX ?_;refine aa rs.length ?_;exact cG hl)
  obtain⟨EB,EA⟩:=jG (t:=s.toks) hk st
  exact LQ.step EA _ _ (LQ.GB EB s.toks q hl (rs.step EA bG))
theorem mj:∀{vs:List Mine.V} {is:List Int} {xs:List PL},ints? vs=some is->am pl P φ o h vs xs->W5 xs is:=by
 intro vs
 induction vs with
 |nil=>
  intro is xs e r
  cases e;subst r;exact .nil
 |cons v vs ih=>
  intro is xs e r
  obtain⟨i,hi,e⟩:=aP e
  obtain⟨is',he,rfl⟩:=hJ e
  obtain⟨y,t,rfl,r1,r2⟩:=r
  obtain⟨tk,rfl⟩:=isInt r1 hi
  exact .cons i tk (ih he r2)
structure D3(is:List Int)(b:List UInt8):Prop where
 low:∀n∈is,0<=n/\n<256
 arr:is.map (λ n=>SL n.toNat)=b
theorem te:∀{is:List Int} {b:List UInt8},dY is=some b->D3 is b:=by
 intro is
 induction is with
 |nil=>
  intro b e
  exact⟨λ zz h=>(nomatch h),PZ e⟩
 |cons i is ih=>
  intro b e
  obtain⟨hi,e⟩:=eI e
  obtain⟨b',he,rfl⟩:=hJ e
  obtain⟨h1,h2⟩:=ih he
  exact⟨TW.mpr ⟨hi,h1⟩,congrArg (List.cons _) h2⟩
theorem rR:Yy (.type "bytes") "__bytes__" =pure (some (.builtin "bytes.__bytes__")):=by refine aa (typeLookup_type _ _) ?_;refine aa builtinLookup_eq_fast ?_;kernel_rfl
theorem oS(h:Q (.bytes b t) s):
  Sl (PY g.prog g.w) A (.call (.builtin "bytes.__new__") ⟨[.type "bytes",.bytes b t],[]⟩) (wants Q E0) s:=by
 refine Wm ?_
 show PT _ A.in1 (do V1 "bytes.__new__" ⟨[.type "bytes",.bytes b t],[]⟩;again (.builtin "bytes.__new__" ⟨[.type "bytes",.bytes b t],[]⟩)) _ _ s
 refine PA (Rs (PySem.F.bm_newCall _) (PD ⟨plainId_quiet WX _,codeAny_builtin PySem.F.bm_entry ?_⟩))
 refine aa (Around.under_plainId WX _) ?_
 unfold Builtin.«bytes.__new__»
 refine PA (Rs (a:=true) rfl ?_)
 refine X5 rfl ?_
 refine PA (Rs PySem.F.bm_sub ?_)
 refine X5 rfl ?_
 refine PA (Rs (PySem.F.bm_bind _) ?_)
 refine PA (Rs (a:=()) rfl ?_)
 refine PA (Rs (a:=()) rfl ?_)
 refine X5 rfl ?_
 refine PA (wpAny_specialOf (TG _ _ _) rR ?_)
 refine PA (TE ?_)
 refine PA (wpAny_typeOf (TG _ _ _) ?_)
 refine bm_if_true rfl ?_
 exact PD h
theorem vn(h:Q (.bytes b t) s):PT (PY g.prog g.w) A (call (.type "bytes") [.bytes b t]) Q E0 s:=by
 refine callType_codes (Q₁:=λ obj s₁=>s₁.TypeIs obj "bytes" /\Q obj s₁) Up (PySem.F.bm_typeCall _) PySem.F.entry_object_init
  (oS ⟨TG _ _ _,h⟩) λ obj s₁ h₁=> ?_
 exact cg h₁.1 (PySem.F.args_object_init_2 obj _) (object_init_meets Up.init.lookup Up.made (by decide) _ _ A.in1 _ s₁ ⟨h₁.1,rfl,h₁.2⟩)
theorem aj.bytesOf(fx:Fx g tb K)(ha:aj g Γ N n a xa)(hs:aw xa=true)(hb:dG N x (.type "bytes")=true):aj g Γ N n (.bytesOf a) (.Call (.Name x p) [xa] [] pos):=
 .Jp fx ha hs hb (λ zz zz zz zz h=>h) λ{W A fr φ M s Q v y} hh st r q=>by
  refine ai (aD q) λ b hv q=> ?_
  cases hy:nS y with
  |some b'=>
   cases r0 hy
   cases hv
   obtain⟨hl,t,rfl⟩:=r
   exact vn (LQ.here st q (VR.y ⟨hl,t,rfl⟩))
  |none=>
   have hv:((dg M y).bind λ vs=>(ints? vs).bind dY)=some b:=by cases y<;>first|exact au hy.symm|exact hv
   obtain⟨vs,h1,h2⟩:=aP hv
   obtain⟨is,h3,h4⟩:=aP h2
   obtain⟨c,xs,m,rfl,gg,hl,rs⟩:=gL st r h1
   obtain⟨b1,rfl⟩:=te h4
   have hi:=mj h3 rs
   refine call_bytes_ints (dE gg) hi b1 (by refine aa rs.length ?_;exact cG hl) hh λ h' t k hk=> ?_
   obtain⟨EB,EA⟩:=jG (t:=k) hk st
   exact LQ.step EA _ _ (LQ.here EB q (VR.y ⟨by refine aa (PG _) ?_;refine aE hi.length ?_;refine aa rs.length ?_;exact hl,t,rfl⟩))
theorem aj.sum(fx:Fx g tb K)(ha:aj g Γ N n a xa)(hs:aw xa=true)(hb:dG N x (.builtin "sum")=true):aj g Γ N n (.sum a) (.Call (.Name x p) [xa] [] pos):=
 .Jp fx ha hs hb (λ zz zz zz zz h=>h) λ hh st r q=>by
  refine ai (aD q) λ is hv q=> ?_
  obtain⟨vs,h1,h3⟩:=aP hv
  obtain⟨c,xs,m,rfl,gg,hl,rs⟩:=gL st r h1
  have hi:=mj h3 rs
  obtain⟨zs,hz⟩:=hi.allInts.items
  have gl:=dE gg
  rw[hz] at gl
  refine sum_intListG hh gl λ h' tk t' hk=> ?_
  obtain⟨EB,EA⟩:=jG (t:=tk) hk st
  have e:preSum (numAt zs) zs.size=is.sum:=by
   refine aa (preSum_eq _ _) ?_;refine aa (Qg (by simp)) ?_;refine aE (nums_intItems _) ?_;refine aE hz ?_;refine aa (show xs.toArray.toList=xs from rfl) ?_;refine aa hi.numsOf ?_;rfl
  refine aa e ?_
  exact LQ.step EA _ _ (LQ.int EB _ q t')
end
noncomputable def mD:Ty->String|.tbool=> "bool" |.tint=> "int" |.tlist=> "list" |.tdict=> "dict" |.cls _=> ""
noncomputable def jq(pl:Pl):Ty->PL|.cls c=>.ref (pl.ED c)|t=>.type (mD t)
noncomputable def eE(x:Qa):Bool:=decide (x.ctorIdx≠16)||kD x λ zz xs kw zz=> !(xs.isEmpty&&kw.isEmpty)
set_option tactic.hygienic true in
theorem kS(h:eE x=true)(attr:Str)(env:Env)(whole:Sem PL):Vg x attr env whole=whole:=by
 cases x<;>first|rfl|skip
 rename_i f xs kw p
 cases f<;>first|rfl|skip
 cases xs with
 |cons _ _=>rfl
 |nil=>
  cases kw with
  |cons _ _=>rfl
  |nil=>exact QU h
section
variable{g:Gs}{tb:Tb}{K:RH}{Γ:aH}{N:Nm}{n:Nat}{W W':P5->Prop}{A:Qz}{fr:List Env}{env:Env}{ρ:an}{φ φ':az}{M M':AH}{s s' sD:PM}{E0:PL->PM->Prop}
theorem BW{env:Env}:∀{xs:List Qa},xs.all aw=true->(Tp pos (Rh xs env)).all (λ x=> !x.1)=true:=by
 intro xs
 induction xs with
 |nil=>
  intro y1
  exact rfl
 |cons x xs ih=>
  intro h
  refine aa (bc (af h).1) ?_
  exact ih (af h).2
theorem g9(hb:eE o=true)(hx:args.all aw=true)(hn:args.length<30)(hl:(apos.endLine==pos.line)=true)
  (h:PT M0 A (eval o env) (λ ov s₁=>PT M0 A (getMethod ov name (do return (<-importBound o env).getD true)) (λ fx s₂=>PT M0 A (V8 pos fx.1 fx.2 (Tp pos (Rh args env)) []) R E0 s₂) E0 s₁) E0 s):
  PT M0 A (eval (.Call (.Attribute o name apos) args [] pos) env) R E0 s:=by
 show PT M0 A (Vg o name env (eval o env)>>=λ ov=>Sy apos.atName>>=λ zz=>methodCall o name apos pos env ov (args.length+([]:List Keyword).length) (Tp pos (Rh args env)) (backToKw pos (keywordEach [] env))) R E0 s
 refine aa ((kS hb) _ _ _) ?_
 refine PA (PW h (λ ov s₁ h₁=>PA (QH ?_)) λ zz zz e=>e)
 have JZ:methodCallForm (args.length+([]:List Keyword).length) (Tp pos (Rh args env)) (backToKw pos (keywordEach [] env))=true:=by
  unfold methodCallForm
  refine aa (BW hx) ?_
  show(true&&true&&decide (args.length+0+0<30))=true
  simp[hn]
 have Lr:methodCallPos true o env apos pos=pure pos:=by unfold methodCallPos;simp[hl]
 unfold methodCall
 refine aa JZ ?_
 refine PA (Qu (PW h₁ (λ fx s₂ h₂=> ?_) λ zz zz e=>e))
 exact PA (Rs Lr h₂)
theorem sY:∀{ks:List String} {vs:List Mine.V} {k:String} {us:List PL} {o:P5->Prop} {h:QI},us.length=ks.length->am g.pl g.w.params φ o h vs us->
  VR g.pl g.w.params φ o h ((ay ks vs k).getD .none) ((SS ((ks.map PF).zip us) (PF k)).getD .none):=by
 intro ks
 induction ks with
 |nil=>
  intro vs k us o h hl rs
  cases vs<;>exact(show VR _ _ _ _ _ .none .none from rfl)
 |cons k' ks ih=>
  intro y1
  cases y1 with
  |nil=>
   intro k us o h hl rs
   subst rs;cases hl
  |cons x vs=>
   intro k us o hh hl rs
   obtain⟨u,HQ,rfl,r1,rs⟩:=rs
   unfold SS
   refine aa PR ?_;refine aa Qk ?_;refine aa Q6 ?_
   show VR _ _ _ _ _ ((if k'==k then some x else ay ks vs k).getD .none) _
   by_cases e:k'=k
   ·subst e
    refine aa (if_pos (beq_iff_eq.mpr rfl)) ?_;refine aa (decide_eq_true rfl) ?_
    exact r1
   ·refine aa (if_neg λ q=>e (beq_iff_eq.mp q)) ?_;refine aa (decide_eq_false λ q=>e (cV q)) ?_
    exact ih (Tq hl) rs
theorem rI:∀{ks:List Int} {vs:List Mine.V} {k:Int} {us:List PL} {o:P5->Prop} {h:QI} {d:Mine.V} {dv:PL},us.length=ks.length->am g.pl g.w.params φ o h vs us->VR g.pl g.w.params φ o h d dv->
  VR g.pl g.w.params φ o h ((ci ks vs k).getD d) ((SS (ks.zip us) k).getD dv):=by
 intro ks
 induction ks with
 |nil=>
  intro vs k us o h d dv hl rs rd
  cases vs<;>exact rd
 |cons k' ks ih=>
  intro y1
  cases y1 with
  |nil=>
   intro k us o h d dv hl rs rd
   subst rs;cases hl
  |cons x vs=>
   intro k us o hh d dv hl rs rd
   obtain⟨u,HQ,rfl,r1,rs⟩:=rs
   unfold SS
   refine aa Qk ?_;refine aa Q6 ?_
   show VR _ _ _ _ _ ((if k'==k then some x else ci ks vs k).getD d) _
   by_cases e:k'=k
   ·subst e
    refine aa (if_pos (beq_iff_eq.mpr rfl)) ?_;refine aa (decide_eq_true rfl) ?_
    exact r1
   ·refine aa (if_neg λ q=>e (beq_iff_eq.mp q)) ?_;refine aa (decide_eq_false e) ?_
    exact ih (Tq hl) rs rd
theorem lP(hd:s.heap.get? d=some (QO es m))(h:R (.builtin "dict.get",[.ref d]) s):PT (PY g.prog g.w) A (getMethod (.ref d) "get" pl) R E0 s:=
 YL ⟨_,hd,rfl⟩ PySem.F.plainAttrs_dict PySem.F.slot_dict_get PySem.F.type_dict_get (λ a e=>by cases e;exact aA _ hd rfl) h
theorem rZ(h:qc v=some d):v=.dict d.1 d.2:=by cases v<;>first|exact au h|(cases h;rfl)
theorem rX(h:vt v=some i):v=.ref i:=by cases v<;>first|exact au h|(cases h;rfl)
theorem A3(h:vv v=some d):v=.EG d.1 d.2:=by cases v<;>first|exact au h|(cases h;rfl)
inductive CC(g:Gs)(W:P5->Prop)(φ:az)(M:AH)(h:QI)(d:List Int×List Mine.V)(v:PL):Prop
 |mk (a:P5) (es:List Qj) (n:Nat):v=.ref a->h.get? a=some (QO es n)->Dz a d.1->iH d.1 es->am g.pl g.w.params φ (ow W φ M) h d.2 (es.map (·.val))->CC g W φ M h d v
theorem zJ(st:St g.pl g.w.params g.B W fr φ M s)(r:VR g.pl g.w.params φ (ow W φ M) s.heap x v)(h:uF M x=some d):CC g W φ M s.heap d v:=by
 obtain⟨i,hi,h1⟩:=aP h
 obtain⟨ob,hm,h2⟩:=aP h1
 cases rX hi
 cases A3 h2
 obtain⟨p,e,_,_,es,m,gg,hl,ke,rs⟩:=fY st r hm
 exact⟨p.1,es,m,e,gg,hl,ke,rs⟩
set_option tactic.hygienic true in
theorem aj.GK(fx:Fx g tb K)(ho:aj g Γ N n o xo)(hk:aj g Γ N n k xk)(hb:eE xo=true)(hs:aw xk=true)(hl:(apos.endLine==pos.line)=true):
  aj g Γ N n (.GK o k) (.Call (.Attribute xo "get" apos) [xk] [] pos):=by
 intro W A fr env ρ φ M s Q X hA hN er st hw
 refine g9 hb (oE hs) (show 1<30 by decide) hl (aS (α:=Unit) ho hA hN er st hw (λ v x s1 φ1 M1 q1 Et Ep EC r1=> ?_) λ zz zz e=>e)
 obtain⟨hd,q1⟩:=q1
 obtain⟨d,hd⟩:=P4.mp hd
 cases rZ hd
 obtain⟨a,es,m,rfl,_,gg,hl,_⟩:=id r1
 refine lP gg ?_
 show PT _ _ (V8 pos _ _ (Tp pos (Rh [xk] env)) []) _ _ _
 refine aa (bc hs) ?_
 refine wpAny_dict_get1 (knd:=strKind g.prog g.w) hl.1 (aS (α:=Unit) hk hA hN EC Et q1 (λ u y s2 φ2 M2 q2 EB EA ET r2=> ?_) (LX.step Ep))
 refine ai (aD q2) λ r hr q=> ?_
 have hr:(match cF y with|some s=>some (ay d.1 d.2 s)|none=>none)=some r:=hr
 cases hk:cF y<;>rw[hk] at hr<;>first|exact au hr|skip;rename_i k;cases hr
 cases eR hk
 obtain⟨a',es,m,e,_,gg,hl,ke,rs⟩:=r1.step EA bG
 cases e
 obtain⟨_,t,rfl⟩:=r2
 exact rp (PF k) _ (WT _ _ _ _) ((gN (prog:=g.prog) gg (cJ hl.nd) ke).mapOf) (LQ.step (Ep.trans EA) _ _ (LQ.tk EB _ q (sY (by refine aa (PG _) ?_;refine aa (cB ke) ?_;refine aa (PG _) ?_;rfl) rs)))
set_option tactic.hygienic true in
theorem aj.FP(fx:Fx g tb K)(ho:aj g Γ N n o xo)(hk:aj g Γ N n k xk)(he:aj g Γ N n e xe)(hb:eE xo=true)(hs:aw xk=true)(F2:aw xe=true)(hl:(apos.endLine==pos.line)=true):
  aj g Γ N n (.FP o k e) (.Call (.Attribute xo "get" apos) [xk,xe] [] pos):=by
 intro W A fr env ρ φ M s Q X hA hN er st hw
 refine g9 hb (n7 hs F2) (show 2<30 by decide) hl (aS (α:=Unit) ho hA hN er st hw (λ v x s1 φ1 M1 q1 Et Ep EC r1=> ?_) λ zz zz e=>e)
 obtain⟨hd,q1⟩:=q1
 obtain⟨d,hd⟩:=P4.mp hd
 obtain⟨a,es,m,rfl,gg,hl,_⟩:=zJ Et r1 hd
 refine lP gg ?_
 show PT _ _ (V8 pos _ _ (Tp pos (Rh [xk,xe] env)) []) _ _ _
 refine aa (bc hs) ?_;refine aa (bc F2) ?_
 refine wpAny_dict_get2 (knd:=TO g.prog g.w) hl.1 (aS (α:=Unit) hk hA hN EC Et q1 (λ u y s2 φ2 M2 q2 EB EA ET r2=>aS (α:=Unit) he hA hN ET EB q2 (λ w z s3 φ3 M3 q3 Fj Fk G1 r3=> ?_) (LX.step (Ep.trans EA))) (LX.step Ep))
 refine ai (aD q3) λ r hr q=> ?_
 obtain⟨d2,hd,hr⟩:=aP hr
 have hr:(match aM y with|some s=>some (ci d2.1 d2.2 s)|none=>none)=some r:=hr
 cases hk:aM y<;>rw[hk] at hr<;>first|exact au hr|skip;rename_i k;cases hr
 obtain⟨t,rfl⟩:=isInt (r2.step Fk bG) hk
 obtain⟨a',es,m,e,gg,hl,ke,rs⟩:=zJ Fj ((r1.step EA bG).step Fk bG) hd
 cases e
 exact rp k _ (WU _ _ _ _) ((ic (prog:=g.prog) (w:=g.w) gg hl.nd ke).mapOf) (LQ.step ((Ep.trans EA).trans Fk) _ _ (LQ.tk Fj _ q (rI (by refine aa (PG _) ?_;refine aa (gh ke) ?_;rfl) rs r3)))
noncomputable abbrev uJ(s:PM)(a:P5):PM:={s with heap:=s.heap.update a (Q3 λ xs=>xs.eraseIdxIfInBounds 0),toks:=s.toks+1}
theorem Bp(gg:s.heap.get? a=some (bb (u::us) m)):∃m',(uJ s a).heap.get? a=some (bb us m'):=by
 obtain⟨n',Jl⟩:=Obj.data_mapSeq (o:=bb (u::us) m) (xs:=(u::us).toArray) (n:=m) rfl (λ xs=>xs.eraseIdxIfInBounds 0)
 refine⟨n',(P7 _ gg (Obj.isFreed_of_seq Jl)).trans (congrArg some ?_)⟩
 have hc:=Obj.cls_mapSeq (bb (u::us) m) (λ xs=>xs.eraseIdxIfInBounds 0)
 rw[show(u::us).toArray.eraseIdxIfInBounds 0=us.toArray by simp] at Jl
 generalize hq:Q3 (λ xs=>xs.eraseIdxIfInBounds 0) (bb (u::us) m)=z at Jl hc
 obtain⟨c1,c2,c3,c4⟩:=z
 cases Jl
 cases hc
 have h2:c2=none:=by have:=congrArg Obj.dict hq;simpa[Q3] using this.symm
 have h4:c4= #[]:=by have:=congrArg Obj.slots hq;simpa[Q3] using this.symm
 refine aa h2 ?_;refine aa h4 ?_;rfl
set_option tactic.hygienic true in
theorem Av(h:Bq o=some (y,ys)):o=.list (y::ys):=by
 cases o<;>first|exact au h|skip
 rename_i vs
 cases vs with
 |nil=>exact au h
 |cons _ _=>cases h;rfl
theorem aj.Gy(fx:Fx g tb K)(ha:aj g Γ N n a xa)(hb:eE xa=true)(hl:(apos.endLine==pos.line)=true):
  aj g Γ N n (.Gy a) (.Call (.Attribute xa "pop" apos) [.Constant (.int 0) k p] [] pos):=by
 intro W A fr env ρ φ M s Q X hA hN er st hw
 refine g9 hb rfl (show 1<30 by decide) hl (aS (α:=Unit) ha hA hN er st hw (λ v x s1 φ1 M1 q1 Et Ep EC r1=> ?_) λ zz zz e=>e)
 clear hw er st EC ha hb hl
 refine ai (aD q1) λ i hi q1=> ?_
 refine ai (aD q1) λ HT ho q=> ?_;rcases HT with⟨y,ys⟩
 cases rX hi
 obtain⟨o,hm,ho⟩:=aP ho
 cases Av ho
 obtain⟨p1,rfl,hp,e2,xs,m,gg,hlen,u,HQ,rfl,ru,Kt⟩:=fY Et r1 hm
 refine YL ⟨_,gg,rfl⟩ PySem.F.plainAttrs_list V6 PySem.F.type_list_pop (λ a e=>by cases e;exact aA _ gg rfl) ?_
 refine callWith_builtin rfl (evalArgs_plain (spliced_cons (Vh (k:=k) (pos:=p) (spliced_nil ?_))))
 have Fe:(u::HQ).toArray.size<=Rn:=by refine aa PX ?_;refine aa PQ ?_;refine aa Kt.length ?_;exact cG hlen
 refine call_meets V6 ⟨_,gg,rfl⟩ PySem.F.entry_list_pop (PySem.F.args_list_pop_2 _ _) (Yv p1.1 (u::HQ).toArray m 0 s1.toks 0 u (by decide) (by simp[seqIndex?]) rfl Fe) ⟨gg,?_⟩
 obtain⟨m',g2⟩:=Bp gg
 have hs:Qr p1.1 s1.heap (uJ s1 p1.1).heap:=QA ..
 have Ho:ow W φ1 M1 p1.1:=.inr (cZ (by refine aa hm ?_;rfl) hp).1
 have Fh:∀b o,s1.heap.get? b=some o->¬ow W φ1 M1 b->b7 o ((uJ s1 p1.1).heap.get? b):=λ b o e n=>.inl ((hs.2 b λ q=>n (q▸Ho)).trans e)
 obtain⟨z1,z2⟩:=St.upd (o':=.list ys) (s':=uJ s1 p1.1) Et hm hp (λ b x nb zz e=>(hs.2 b nb).trans e) rfl rfl ⟨e2,HQ,m',g2,Nat.le_of_succ_le hlen,am.mono (PB _) Fh (λ b q=>.inl q) Kt⟩
 exact⟨y,φ1,_,q,z1,Ep.trans z2,by refine aa (wo hm) ?_;exact ru.mono (PB _) Fh λ b q=>.inl q⟩
end
section
variable{g:Gs}{tb:Tb}{K:RH}{Γ:aH}{N:Nm}{n:Nat}{W W':P5->Prop}{A:Qz}{fr:List Env}{env:Env}{ρ:an}{φ φ':az}{M M':AH}{s s' sD:PM}{E0:PL->PM->Prop}
noncomputable def DL(K:RH)(X:String)(a b c d:Bool):Bool:=VM K (.type X) (.type "bool")==some a&&(VM K (.type X) (.type "int")==some b&&(VM K (.type X) (.type "list")==some c&&VM K (.type X) (.type "dict")==some d))
noncomputable def kg(pl:Pl):Ty->Prop|.cls c=>∃C,pl.P.cls c=some C|_=>True
theorem fO(fx:Fx g tb K)(st:St g.pl g.w.params g.B W fr φ M s)(hk:DL K X b1 b2 b3 b4=true)(Z:KitX K x (.type X) H)(p:H s.heap)(hx:x≠.builtin "__main__.__loader__#opaque")(hX:X∈["int","str","bool","NoneType","list","dict","tuple"])
  (ht:kg g.pl t)(q:∀tk,R (.bool (fK b1 b2 b3 b4 t)) {s with toks:=tk}):
  PT (PY g.prog g.w) A (call (.builtin "isinstance") [x,jq g.pl t]) R E0 s:=by
 have h2:=(af hk).2
 cases t with
 |cls c=>
  obtain⟨C,hC⟩:=ht
  exact Uh Z (fx.KS st) p ((fx.cls c C hC).Lk X hX) hx q
 |tbool=>exact Uh Z (fx.KS st) p (aq (af hk).1) hx q
 |tint=>exact Uh Z (fx.KS st) p (aq (af h2).1) hx q
 |tlist=>exact Uh Z (fx.KS st) p (aq (af (af h2).2).1) hx q
 |tdict=>exact Uh Z (fx.KS st) p (aq (af (af h2).2).2) hx q
theorem eX:QL a≠.builtin "__main__.__loader__#opaque" :=λ e=>RC e
theorem tP(fx:Fx g tb K)(st:St g.pl g.w.params g.B W fr φ M s)(g1:s.heap.get? a=some (R7 (g.pl.ED c) d))(g2:s.heap.get? d=some (QO es m))(hc:g.pl.P.cls c=some C)
  (ht:kg g.pl t)(q:∀tk,R (.bool (BL c t)) {s with toks:=tk}):PT (PY g.prog g.w) A (call (.builtin "isinstance") [.ref a,jq g.pl t]) R E0 s:=by
 have ck:=fx.cls c C hc
 have Z:KitX K (.ref a) (.ref (g.pl.ED c)) (λ h=>InstAt h a (R7 (g.pl.ED c) d) (g.pl.ED c) (some (QO es m))):=
  kitx_own ck.HZ.1 ck.HZ.2.1 ck.HZ.2.2.1 fx.JB.1 fx.JB.2 ck.HZ.2.2.2
 have I:=uW g1 g2
 cases t with
 |cls c'=>
  obtain⟨C',Kd⟩:=ht
  exact Uh Z (fx.KS st) I (ck.Fd c' C' Kd) eX q
 |tbool=>exact Uh Z (fx.KS st) I (ck.GC "bool" (.head _)) eX q
 |tint=>exact Uh Z (fx.KS st) I (ck.GC "int" (.tail _ (.head _))) eX q
 |tlist=>exact Uh Z (fx.KS st) I (ck.GC "list" (.tail _ (.tail _ (.head _)))) eX q
 |tdict=>exact Uh Z (fx.KS st) I (ck.GC "dict" (.tail _ (.tail _ (.tail _ (.head _))))) eX q
theorem tQ(fx:Fx g tb K)(st:St g.pl g.w.params g.B W fr φ M s)(gg:s.heap.get? a=some (bb xs m))(ht:kg g.pl t)(q:∀tk,R (.bool (fK false false true false t)) {s with toks:=tk}):
  PT (PY g.prog g.w) A (call (.builtin "isinstance") [.ref a,jq g.pl t]) R E0 s:=fO fx st (by kernel_rfl) kitx_list ⟨_,gg,rfl⟩ eX (by simp) ht q
theorem oO(fx:Fx g tb K)(st:St g.pl g.w.params g.B W fr φ M s)(gg:s.heap.get? a=some (QO xs m))(ht:kg g.pl t)(q:∀tk,R (.bool (fK false false false true t)) {s with toks:=tk}):
  PT (PY g.prog g.w) A (call (.builtin "isinstance") [.ref a,jq g.pl t]) R E0 s:=fO fx st (by kernel_rfl) kitx_dict ⟨_,gg,rfl⟩ eX (by simp) ht q
theorem AM(fx:Fx g tb K)(st:St g.pl g.w.params g.B W fr φ M s)(ro:OR g.pl g.w.params φ (ow W φ M) s.heap p ob)(ht:kg g.pl t)(q:∀tk,R (.bool (zt ob t)) {s with toks:=tk}):
  PT (PY g.prog g.w) A (call (.builtin "isinstance") [.ref p.1,jq g.pl t]) R E0 s:=by
 cases ob with
 |list vs=>exact ro.casesOn λ zz zz zz gg zz zz=>tQ fx st gg ht q
 |Eu ks vs=>exact ro.casesOn λ zz zz zz gg zz zz zz=>oO fx st gg ht q
 |EG ks vs=>exact ro.casesOn λ zz zz zz gg zz zz zz=>oO fx st gg ht q
 |inst c vs=>exact ro.casesOn λ zz zz zz zz g1 g2 hc zz zz zz=>tP fx st g1 g2 hc ht q
set_option tactic.hygienic true in
theorem wP(fx:Fx g tb K)(st:St g.pl g.w.params g.B W fr φ M s)(hx:VR g.pl g.w.params φ (ow W φ M) s.heap x v)(h:fP M x t=some b)(ht:kg g.pl t)(q:∀tk,R (.bool b) {s with toks:=tk}):
  PT (PY g.prog g.w) A (call (.builtin "isinstance") [v,jq g.pl t]) R E0 s:=by
 cases x<;>first|exact au h|skip
 case ref i=>
  obtain⟨ob,hm,rfl⟩:=hJ h
  obtain⟨p,rfl,_,ro⟩:=fY st hx hm
  exact AM fx st ro ht q
 all_goals cases h
 case none=>subst hx;exact fO fx st (by kernel_rfl) kitx_none trivial (λ e=>RC e) (by simp) ht q
 case bool c=>subst hx;exact fO fx st (by kernel_rfl) kitx_bool trivial (λ e=>RC e) (by simp) ht q
 case int i=>obtain⟨u,rfl⟩:=hx;exact fO fx st (by kernel_rfl) kitx_int trivial (λ e=>RC e) (by simp) ht q
 case str z=>obtain⟨_,u,rfl⟩:=hx;exact fO fx st (by kernel_rfl) kitx_str trivial (λ e=>RC e) (by simp) ht q
 case tup vs=>obtain⟨a,xs,m,rfl,_,gg,_⟩:=hx;exact fO fx st (by kernel_rfl) kitx_tuple ⟨_,gg,rfl⟩ eX (by simp) ht q
 case list vs=>obtain⟨a,xs,m,rfl,_,gg,_⟩:=hx;exact tQ fx st gg ht q
 case dict ks vs=>obtain⟨a,xs,m,rfl,_,gg,_⟩:=hx;exact oO fx st gg ht q
 case inst c vs=>obtain⟨a,d,es,m,C,rfl,_,_,g1,g2,hc,_⟩:=hx;exact tP fx st g1 g2 hc ht q
noncomputable def wQ:Ty->Bool|.cls _=>true|_=>false
theorem aj.Fd(fx:Fx g tb K)(ha:aj g Γ N n a xa)(hs:aw xa=true)(hb:dG N x (.builtin "isinstance")=true)
  (ht:(∃c,t=.cls c/\cC N y=true/\tb.Hc.lookup y=some c/\(g.pl.P.cls c).isSome=true)∨(wQ t=false/\dG N y (.type (mD t))=true)):aj g Γ N n (.Fd a t) (.Call (.Name x p) [xa,.Name y p2] [] pos):=by
 intro W A fr env ρ φ M s Q X hA hN er st hw
 refine gO fx hN er st (cE hb).1 (cE hb).2 (by simp[hs];rfl) ?_
 refine aa (bc hs) ?_;refine aa (bc rfl) ?_
 refine spliced_cons (aS (α:=Unit) ha hA hN er st hw (λ v z s1 φ1 M1 q1 Et Ep EC r1=>spliced_cons ?_) λ zz zz e=>e)
 refine ai (aD q1) λ b KL q=> ?_
 have fin:kg g.pl t->∀tk,LQ g.pl g.w.params g.B W fr φ M s Q (.bool b) {s1 with toks:=tk}:=λ zz tk=>LQ.step Ep _ _ (LQ.tk Et tk q rfl)
 rcases ht with⟨c,rfl,h1,h2,h3⟩|⟨h1,h2⟩
 ·obtain⟨C,hC⟩:=P4.mp h3
  refine dU fx hN EC Et (bQ h1).1 (bQ h1).2 (fx.Kj y c h2) (spliced_nil ?_)
  exact wP fx Et r1 KL ⟨C,hC⟩ (fin ⟨C,hC⟩)
 ·have hv:jq g.pl t=.type (mD t):=by cases t<;>first|rfl|(cases h1;done)
  have JG:kg g.pl t:=by cases t<;>first|trivial|(cases h1;done)
  refine t9 fx hN EC Et (cE h2).1 (cE h2).2 (spliced_nil ?_)
  have:=wP fx Et r1 KL JG (fin JG) (A:=A) (E0:=LX g.pl g.w.params g.B W fr g.cls φ M s X)
  rw[hv] at this
  exact this
end
end Mine
end
section
namespace Mine
open PySem PySem.W PySem.Calls PyProof.Rows PySem.SeqAt PySem.Spec
noncomputable def re(a b:String):Prop:=¬iC b<iC a
theorem pA(s:String):∀l,(iP s l).Perm (s::l):=by
 intro l
 induction l with
 |nil=>
  exact .refl _
 |cons t r ih=>
  refine aa (rn _ _ _) ?_
  split
  ·exact .refl _
  ·exact(W1 t (ih)).trans (.swap s t r)
theorem jr:∀l,(eH l).Perm l:=by
 intro l
 induction l with
 |nil=>
  exact .nil
 |cons s r ih=>
  exact(pA s _).trans (.cons s (ih))
theorem wM(h1:re a b)(h2:re b c):re a c:=Sg.mpr (Yp (Sg.mp h1) (Sg.mp h2))
theorem yx(s:String):∀l,l.Pairwise re->(iP s l).Pairwise re:=by
 intro l
 induction l with
 |nil=>
  intro y1
  exact Tt _ _
 |cons t r ih=>
  intro h
  have h':=Qq.mp h
  refine aa (rn _ _ _) ?_
  split
  ·rename_i EO
   have Nb:re s t:=λ q=>List.lt_irrefl _ (List.lt_trans EO q)
   exact Qq.mpr ⟨λ y hy=>by
    rcases PU.mp hy with rfl|hy
    ·exact Nb
    ·exact wM Nb (h'.1 y hy),h⟩
  ·rename_i hn
   refine Qq.mpr ⟨λ y hy=> ?_,ih h'.2⟩
   rcases PU.mp ((pA s r).mem_iff.mp hy) with rfl|hy
   ·exact hn
   ·exact h'.1 y hy
theorem vX:∀l,(eH l).Pairwise re:=by
 intro l
 induction l with
 |nil=>
  exact .nil
 |cons s r ih=>
  exact yx s _ (ih)
theorem pB(s:Int):∀l,(ml s l).Perm (s::l):=by
 intro l
 induction l with
 |nil=>
  exact .refl _
 |cons t r ih=>
  refine aa (wR _ _ _) ?_
  split
  ·exact .refl _
  ·exact(W1 t (ih)).trans (.swap s t r)
theorem mT:∀l,(gA l).Perm l:=by
 intro l
 induction l with
 |nil=>
  exact .nil
 |cons s r ih=>
  exact(pB s _).trans (.cons s (ih))
theorem yy(s:Int):∀l,l.Pairwise (· <= ·)->(ml s l).Pairwise (· <= ·):=by
 intro l
 induction l with
 |nil=>
  intro y1
  exact Tt _ _
 |cons t r ih=>
  intro h
  have h':=Qq.mp h
  refine aa (wR _ _ _) ?_
  split
  ·refine Qq.mpr ⟨λ y hy=> ?_,h⟩
   rcases PU.mp hy with rfl|hy
   ·(rename_i z0;exact ae 0x911244549120 rfl s y z0)
   ·have:=h'.1 y hy;(rename_i z0 z1;exact ae 0x92444d111348549130 rfl s t y z0 this)
  ·refine Qq.mpr ⟨λ y hy=> ?_,ih h'.2⟩
   rcases PU.mp ((pB s r).mem_iff.mp hy) with rfl|hy
   ·(rename_i z0;exact ae 0x911148980549120 rfl y t z0)
   ·exact h'.1 y hy
theorem vY:∀l,(gA l).Pairwise (· <= ·):=by
 intro l
 induction l with
 |nil=>
  exact .nil
 |cons s r ih=>
  exact yy s _ (ih)
noncomputable def j7(a b:Str):Prop:=¬b.cps.toList<a.cps.toList
theorem wL(h1:j7 a b)(h2:j7 b c):j7 a c:=Sg.mpr (Yp (Sg.mp h1) (Sg.mp h2))
theorem ym(h1:j7 a b)(h2:j7 b a):a=b:=by
 have:=List.le_antisymm (Sg.mp h1) (Sg.mp h2)
 cases a;cases b
 simp only [Str.mk.injEq]
 exact Xr.mp this
theorem wf:∀(p:Str) (l:List Str),risingS p l=true->(p::l).Pairwise j7:=by
 intro p l
 induction l generalizing p with
 |nil=>
  intro y1
  exact Tt _ _
 |cons x r ihq=>
  intro h
  have h':(!ltCps x.cps.toList p.cps.toList&&risingS x r)=true:=h
  rw[P1,Ti,ltCps_eq] at h'
  have JM:j7 p x:=of_decide_eq_false h'.1
  have ih:=ihq x h'.2
  have Ol:=Qq.mp ih
  refine Qq.mpr ⟨λ y hy=> ?_,ih⟩
  rcases PU.mp hy with rfl|hy
  ·exact JM
  ·exact wL JM (Ol.1 y hy)
theorem vV:∀(l:List Str),sortedS l=true->l.Pairwise j7
 |[],_=>.nil
 |x::r,h=>wf x r h
theorem CH:∀{a b:List Str},a.Perm b->a.Pairwise j7->b.Pairwise j7->a=b:=by
 intro a
 induction a with
 |nil=>
  intro y1 p y2 y3
  exact p.nil_eq
 |cons x r ih=>
  intro b p ha hb
  cases b with
  |nil=>exact absurd p.length_eq (by simp)
  |cons y t=>
   have hx:x∈y::t:=p.mem_iff.mp (.head _)
   have hy:y∈x::r:=p.mem_iff.mpr (.head _)
   have e:x=y:=by
    rcases PU.mp hx with h|h
    ·exact h
    ·rcases PU.mp hy with h'|h'
     ·exact h'.symm
     ·exact ym ((Qq.mp ha).1 y h') ((Qq.mp hb).1 x h)
   subst e
   refine aa (ih (List.Perm.cons_inv p) (Qq.mp ha).2 (Qq.mp hb).2) ?_;rfl
theorem w9(s:String):(PF s).cps.toList=iC s:=by
 refine aa (QD _) ?_;simp[iC]
theorem Af:((eH l).map PF).Pairwise j7:=by
 rewrite[Xp]
 refine(vX l).imp λ{a b} h=> ?_
 unfold j7
 refine aa (w9 _) ?_;refine aa (w9 _) ?_
 exact h
section
variable{g:Gs}{tb:Tb}{K:RH}{Γ:aH}{N:Nm}{n:Nat}{W W':P5->Prop}{A:Qz}{fr:List Env}{env:Env}{ρ:an}{φ φ':az}{M M':AH}{s s' sD:PM}{E0:PL->PM->Prop}
theorem mR{T:String}{r d:P5}{k:Nat}{P:Nat->PL->Prop}{OK:QI->Prop}{Q:PL->PM->Prop}(K:KdlSrc g.prog g.w T r d k P OK)(hh:A.handled=none)(hok:OK s.heap)(hn:k<=Rn)
  (h:∀(D:P5) (h':QI) (tk:Nat) (vs:List PL),D=h'.objs.size->(∀b o,s.heap.get? b=some o->h'.get? b=some o)->vs.length=k->(∀(j:Nat) (v:PL),vs[j]? =some v->P j v)->
   PT (PY g.prog g.w) A.in1 (call (.builtin "list.sort") [.ref D]) (λ zz s'=>Q (.ref D) s') E0 {s with heap:=h'.push (bb vs 0),toks:=tk}):
  PT (PY g.prog g.w) A (call (.builtin "sorted") [.ref r]) Q E0 s:=by
 refine call_function_entry kind_sorted plain_sorted entry_sorted (args_sorted1 _) ?_
 unfold Builtin.«sorted»
 refine PA (m:=checkCount "sorted" 1 1 _) (PD ?_)
 refine PA (kdu_collect (A:=A.in1) K hh hok hn λ h' tk acc hk HC=> ?_)
 have hl:acc.toList.length=k:=by refine aa Array.length_toList ?_;exact HC.1
 refine PA (wpAny_newList ?_ (by refine aa hl ?_;exact hn))
 have hg:=h h'.objs.size h' tk acc.toList rfl hk hl (λ j v e=>HC.2 j v (by refine aE Wr ?_;exact e))
 refine PA (Qu (PW hg (λ zz s' x=> ?_) λ zz zz e=>e))
 exact PD ⟨_,rfl,x⟩
theorem pQ{h':QI}{vs:List PL}{out:Array PL}:∃e,(Uv (h'.push (bb vs 0)) h'.objs.size vs out).get? h'.objs.size=some (bb out.toList e):=by
 have h0:(h'.push (bb vs 0)).get? h'.objs.size=some (Yg "list" vs.toArray 0):=PP _ rfl
 obtain⟨e1,Oz⟩:∃e1,((h'.push (bb vs 0)).update h'.objs.size (Q3 λ zz=> #[])).get? h'.objs.size=some (Yg "list" #[] e1):=⟨_,get?_update_seq h0 (λ zz=> #[])⟩
 have h2:=PC (Yg "list" #[] 0) (PC (Yg "tuple" vs.toArray 0) Oz)
 unfold Uv
 exact⟨_,by refine aa (get?_update_seq h2 (λ zz=>out)) ?_;rfl⟩
theorem ou{h':QI}{vs:List PL}{out:Array PL}{b:P5}{o:Obj}(e:h'.get? b=some o):(Uv (h'.push (bb vs 0)) h'.objs.size vs out).get? b=some o:=by
 have Ft:h'.objs.size≠b:=Sw (Qb e)
 unfold Uv
 refine aa (Qv _ _ Ft) ?_
 refine PC _ (PC _ ?_)
 refine aa (Qv _ _ Ft) ?_
 exact PC _ e
theorem am.strs:∀{ks:List String} {vs:List PL},StrsAre vs (ks.map PF)->(∀k∈ks,k.length<=ar)->am g.pl g.w.params φ o h (ks.map .str) vs:=by
 intro ks
 induction ks with
 |nil=>
  intro y1 x y2
  cases x;rfl
 |cons k ks ih=>
  intro y3 x hk
  cases x with
  |cons y t hr=>exact am.c ⟨_,_,rfl,VR.s ⟨hk k (.head _),t,rfl⟩,ih hr λ k h=>hk k (.tail _ h)⟩
theorem am.ints:∀{ks:List Int} {vs:List PL},W5 vs ks->am g.pl g.w.params φ o h (ks.map .int) vs:=by
 intro ks
 induction ks with
 |nil=>
  intro y1 x
  cases x;rfl
 |cons k ks ih=>
  intro y2 x
  cases x with
  |cons y t hr=>exact am.c ⟨_,_,rfl,VR.i ⟨t,rfl⟩,ih hr⟩
theorem qj:∀{ks:List String} {us vs:List PL},us.length=ks.length->vs.length=ks.length->(∀(j:Nat) (v:PL),vs[j]? =some v->∃k x,((ks.map PF).zip us)[j]? =some (k,x)/\(Un g.prog g.w).is k v=true)->StrsAre vs (ks.map PF):=by
 intro ks
 induction ks with
 |nil=>
  intro us vs y1 hl y2
  obtain rfl:vs=[]:=Rq hl
  exact .nil
 |cons k ks ih=>
  intro us vs hu hl h
  cases vs with
  |nil=>simp at hl
  |cons v vs=>
   cases us with
   |nil=>simp at hu
   |cons u us=>
    refine vf (h 0 v rfl) λ k' x e hk=> ?_
    simp at e
    obtain⟨rfl,rfl⟩:=e
    have hv:∃t,v=.str (PF k) t:=by
     have hk:RB (PF k) v=true:=hk
     exact T5 hk
    obtain⟨t,rfl⟩:=hv
    exact .cons _ t (ih (us:=us) (by simpa using hu) (by simpa using hl) λ j v e=>by simpa using h (j+1) v (by simpa using e))
set_option tactic.hygienic true in
theorem rm:∀{ks:List Int} {us vs:List PL},us.length=ks.length->vs.length=ks.length->(∀(j:Nat) (v:PL),vs[j]? =some v->∃k x,(ks.zip us)[j]? =some (k,x)/\(V3 g.prog g.w).is k v=true)->W5 vs ks:=by
 intro ks
 induction ks with
 |nil=>
  intro us vs y1 hl y2
  obtain rfl:vs=[]:=Rq hl
  exact .nil
 |cons k ks ih=>
  intro us vs hu hl h
  cases vs with
  |nil=>simp at hl
  |cons v vs=>
   cases us with
   |nil=>simp at hu
   |cons u us=>
    refine vf (h 0 v rfl) λ k' x e hk=> ?_
    simp at e
    obtain⟨rfl,rfl⟩:=e
    have hv:∃t,v=.int k t:=by
     have hk:SK k v=true:=hk
     cases v<;>first|(exact absurd (show false=true from hk) (by decide))|skip
     rename_i y t _
     exact⟨t,by refine aa (beq_iff_eq.mp (show(y==k)=true from hk)) ?_;rfl⟩
    obtain⟨t,rfl⟩:=hv
    exact .cons _ t (ih (us:=us) (by simpa using hu) (by simpa using hl) λ j v e=>by simpa using h (j+1) v (by simpa using e))
theorem LQ.sorted{Q:V->AH->Prop}{vs:List V}{ws:List PL}{out:Array PL}{h':QI}{tk:Nat}(st:St g.pl g.w.params g.B W fr φ M s)(hk:∀b o,s.heap.get? b=some o->h'.get? b=some o)(q:Q (.list vs) M)(hl:vs.length<=ar)(r:am g.pl g.w.params φ (ow W φ M) s.heap vs out.toList):
  LQ g.pl g.w.params g.B W fr φ M s Q (.ref h'.objs.size) {s with heap:=Uv (h'.push (bb ws 0)) h'.objs.size ws out,toks:=tk}:=by
 have FI:∀b o,s.heap.get? b=some o->(Uv (h'.push (bb ws 0)) h'.objs.size ws out).get? b=some o:=λ b o e=>ou (hk b o e)
 obtain⟨EB,EA⟩:=jG (t:=tk) FI st
 obtain⟨e,he⟩:=pQ (h':=h') (vs:=ws) (out:=out)
 refine⟨_,φ,M,q,EB,EA,?_⟩
 refine VR.l ?_
 refine⟨_,_,_,rfl,λ q=> ?_,he,hl,r.ext FI⟩
 have:=st.IG q
 cases z:s.heap.get? h'.objs.size with
 |none=>
  have h1:=q
  obtain⟨o,ho⟩:∃o,s.heap.get? h'.objs.size=some o:=by
   rcases q with q|⟨i,p,hi,hp,hb⟩
   ·exact st.FK _ q
   ·obtain⟨ob,hm⟩:=P4.mp hi
    refine ai (st.hr.at_ i ob hm) λ p' Fz ro=> ?_
    rw[hp] at Fz;cases Fz
    obtain⟨⟨x,g1,_⟩,⟨y,g2,_⟩⟩:=ro.there
    rcases hb with hb|hb
    ·exact⟨x,hb▸g1⟩
    ·exact⟨y,hb▸g2⟩
  rw[z] at ho;cases ho
 |some o=>exact Rp _ (Qb (hk _ _ z))
theorem vW(hA:cj A fr n)(st:St g.pl g.w.params g.B W fr φ M s)(hx:VR g.pl g.w.params φ (ow W φ M) s.heap x v)(h:ot M x=some vs)(q:Q (.list vs) M):
  PT (PY g.prog g.w) A (call (.builtin "sorted") [v]) (LQ g.pl g.w.params g.B W fr φ M s Q) E0 s:=by
 have low:∀{k:Nat},k<64->k<=Rn:=λ h=>PN (TR h) (by decide)
 cases x with
 |dict ks ys=>
  have h':(if ks.length<64 then some ((eH ks).map V.str) else none)=some vs:=h
  split at h'
  case isFalse=>cases h'
  case isTrue h64=>
  cases h'
  obtain⟨a,es,m,rfl,_,gg,hl,ke,rs⟩:=hx
  have hd:=gN (prog:=g.prog) (w:=g.w) gg (cJ hl.nd) ke
  obtain⟨ep,FU⟩:=hd.dictAt
  have hlen:((ks.map PF).zip (es.map (·.val))).length=ks.length:=by
   refine aa TK ?_;refine aa (PG _) ?_;refine aa (PG _) ?_
   have:=cB ke
   rw[PG] at this
   exact ae 0x90d211148349102 rfl es.length ks.length this
  have IU:(es.map (·.val)).length=ks.length:=by
   have:=cB ke
   rw[PG] at this
   refine aa (PG _) ?_;exact this
  refine mR (kdl_dict (knd:=Un g.prog g.w) (kvs:=(ks.map PF).zip (es.map (·.val))) (ep:=ep) hl.1) hA.handled FU (by refine aa hlen ?_;exact low h64) λ D h' tk ws hD hk IR hw=> ?_
  subst hD
  have hS:StrsAre ws (ks.map PF):=qj IU (by refine aa IR ?_;refine aa hlen ?_;rfl) hw
  have Kb:(h'.push (bb ws 0)).get? h'.objs.size=some (Yg "list" ws.toArray 0):=PP _ rfl
  refine QY Uf ⟨_,Kb,rfl⟩ Ud (list_sort_treeK strKind_oneLt (n:=0) (vs:=ws) Kb hS.keysOf (λ v₁ v₂ rest e=>keyKind_strs (by refine aE e ?_;exact hS)) (by refine aa IR ?_;refine aa hlen ?_;exact h64) λ G4 hp hs=>⟨.none,rfl,?_⟩) (Ug _)
  refine bz (sorted_out_str hS hp hs) λ NQ h1 h2 h3=> ?_
  have e:NQ=(eH ks).map PF:=CH (h2.trans ((jr ks).map _).symm) (vV _ h3) Af
  subst e
  exact LQ.sorted st hk q (by refine aa (PG _) ?_;refine aa ((jr ks).length_eq) ?_;exact PN (TR h64) (by decide)) (am.strs h1 λ k hk=>hl.str k ((jr ks).mem_iff.mp hk))
 |ref i=>
  cases hm:M.m i with
  |none=>have h:(M.m i).bind qo=some vs:=h;rw[hm] at h;cases h
  |some ob=>
   cases ob with
   |EG ks ys=>
    have h':(if ks.length<64 then some ((gA ks).map V.int) else none)=some vs:=by have h:(M.m i).bind qo=some vs:=h;rw[hm] at h;exact h
    split at h'
    case isFalse=>cases h'
    case isTrue h64=>
    cases h'
    obtain⟨p,hp,rfl⟩:=hx
    refine ai (st.hr.at_ i _ hm) λ p' Fz ro=> ?_
    rw[hp] at Fz;cases Fz
    obtain⟨_,es,m,gg,hl,ke,rs⟩:=ro
    have hd:=ic (prog:=g.prog) (w:=g.w) gg hl.nd ke
    obtain⟨ep,FU⟩:=hd.dictAt
    have IU:(es.map (·.val)).length=ks.length:=by refine aa (PG _) ?_;exact gh ke
    have hlen:(ks.zip (es.map (·.val))).length=ks.length:=by refine aa TK ?_;refine aa IU ?_;exact ae 0x344445101 rfl ks.length
    refine mR (kdl_dict (knd:=V3 g.prog g.w) (kvs:=ks.zip (es.map (·.val))) (ep:=ep) hl.1) hA.handled FU (by refine aa hlen ?_;exact low h64) λ D h' tk ws hD hk IR hw=> ?_
    subst hD
    have hS:W5 ws ks:=rm IU (by refine aa IR ?_;refine aa hlen ?_;rfl) hw
    have Kb:(h'.push (bb ws 0)).get? h'.objs.size=some (Yg "list" ws.toArray 0):=PP _ rfl
    refine QY Uf ⟨_,Kb,rfl⟩ Ud (list_sort_tree (n:=0) (vs:=ws) Kb hS (by refine aa IR ?_;refine aa hlen ?_;exact h64) λ out N3 h1 h2 h3=>⟨.none,rfl,?_⟩) (Ug _)
    have e:N3=gA ks:=lks_uniq (h2.trans (mT ks).symm) h3 (vY ks)
    subst e
    exact LQ.sorted st hk q (by refine aa (PG _) ?_;refine aa ((mT ks).length_eq) ?_;exact PN (TR h64) (by decide)) (am.ints h1)
   |_=>have h:(M.m i).bind qo=some vs:=h;rw[hm] at h;cases h
 |_=>cases h
theorem aj.sorted(fx:Fx g tb K)(ha:aj g Γ N n a xa)(hs:aw xa=true)(hb:dG N x (.builtin "sorted")=true):aj g Γ N n (.sorted a) (.Call (.Name x p) [xa] [] pos):=by
 intro W A fr env ρ φ M s Q X hA hN er st hw
 refine gO fx hN er st (cE hb).1 (cE hb).2 (oE hs) (ze ha hs hA hN er st hw (λ v x s1 φ1 M1 q1 Et Ep EC r1=> ?_) λ zz zz e=>e)
 refine ai (aD q1) λ vs hv q=> ?_
 exact PW (vW (E0:=LX g.pl g.w.params g.B W fr g.cls φ M s X) hA Et r1 hv q) (LQ.step Ep) λ zz zz e=>e
end
end Mine
end
section
namespace Mine
open PySem PySem.W PySem.Calls PyProof.Rows
noncomputable def rec?(o:Obj):Prop:=∃vs,o.data=.fields vs
noncomputable def rk(fr:List Env)(b:P5):Prop:=∃env∈fr,env.frame=some b
structure bT(h0:QI)(fr:List Env)(h h':QI):Prop where
 keep:∀b o,h.get? b=some o->(¬rec? o∨(h0.get? b).isSome=true)->h'.get? b=some o∨(rk fr b/\¬rec? o/\∃sl,h'.get? b=some {o with slots:=sl})
 alive:∀b o,h.get? b=some o->∃o',h'.get? b=some o'
theorem bT.refl:bT h0 fr h h:=⟨λ b o e zz=>.inl e,λ b o e=>⟨o,e⟩⟩
theorem bT.trans(x:bT h0 fr h h1)(y:bT h0 fr h1 h2):bT h0 fr h h2:=by
 refine⟨λ b o e c=> ?_,λ b o e=>let⟨o1,e1⟩:=x.alive b o e;y.alive b o1 e1⟩
 rcases x.keep b o e c with k|⟨f,nr,sl,k⟩
 ·exact y.keep b o k c
 ·have N4:¬rec? {o with slots:=sl}:=λ⟨vs,q⟩=>nr ⟨vs,q⟩
  rcases y.keep b _ k (.inl N4) with k2|⟨_,_,sl2,k2⟩
  ·exact .inr ⟨f,nr,sl,k2⟩
  ·exact .inr ⟨f,nr,sl2,k2⟩
theorem db:(∀vs,o.data≠.fields vs)↔¬rec? o:=⟨λ h ⟨vs,e⟩=>h vs e,λ h vs e=>h ⟨vs,e⟩⟩
section
variable{pl:Pl}{P:QP}{B:QI}{W V:P5->Prop}{fr:List Env}{φ φ0:az}{M M0:AH}{s s0:PM}{h0 h':QI}
theorem St.Fc(st:St pl P B W fr φ M s)(hB:∀b o,B.get? b=some o->(h0.get? b).isSome=true)(nt:bT h0 fr s.heap h'):St pl P B W fr φ M {s with heap:=h'}:=by
 have LI:∀b,rk fr b->B.get? b=none:=λ b ⟨env,he,hf⟩=>st.EY b (st.Fi env he b hf)
 have LH:∀b,rk fr b->¬own φ M b:=λ b ⟨env,he,hf⟩ q=>st.hr.EU b q (st.Fi env he b hf)
 have hk:∀b o,s.heap.get? b=some o->¬ow W φ M b->b7 o (h'.get? b):=λ b o e n=>by
  by_cases hr:rec? o
  ·exact .inr (.inr hr)
  ·rcases nt.keep b o e (.inl hr) with k|⟨⟨env,he,hf⟩,_⟩
   ·exact .inl k
   ·exact absurd (.inl (st.Fi env he b hf)) n
 refine⟨st.hr.same hk (λ b o q e=> ?_) (λ b q=>.inl q),λ b o e=> ?_,?_,st.Fi,λ env he L hf=> ?_,λ b q=>let⟨o,e⟩:=st.FK b q;nt.alive b o e,st.EY⟩
 ·obtain⟨i,p,hi,hp,hb⟩:=q
  obtain⟨ob,hm⟩:=P4.mp hi
  refine ai (st.hr.at_ i ob hm) λ p' Fz ro=> ?_
  rw[hp] at Fz;cases Fz
  have q:own φ M b:=⟨i,p,hi,hp,hb⟩
  have nr:¬rec? o:=by
   have two:(∀o,s.heap.get? p.1=some o->¬rec? o)/\∀o,s.heap.get? p.2=some o->¬rec? o:=by
    cases ob with
    |list vs=>obtain⟨e2,xs,n,g,_⟩:=ro;exact⟨λ o e=>by rw[g] at e;cases e;exact db.mp (by intro vs h;cases h),λ o e=>by rw[e2,g] at e;cases e;exact db.mp (by intro vs h;cases h)⟩
    |Eu ks vs=>obtain⟨e2,xs,n,g,_⟩:=ro;exact⟨λ o e=>by rw[g] at e;cases e;exact db.mp (by intro vs h;cases h),λ o e=>by rw[e2,g] at e;cases e;exact db.mp (by intro vs h;cases h)⟩
    |EG ks vs=>obtain⟨e2,xs,n,g,_⟩:=ro;exact⟨λ o e=>by rw[g] at e;cases e;exact db.mp (by intro vs h;cases h),λ o e=>by rw[e2,g] at e;cases e;exact db.mp (by intro vs h;cases h)⟩
    |inst c vs=>obtain⟨e2,es,n,C,g,gd,_⟩:=ro;exact⟨λ o e=>by rw[g] at e;cases e;exact db.mp (by intro vs h;cases h),λ o e=>by rw[gd] at e;cases e;exact db.mp (by intro vs h;cases h)⟩
   rcases hb with hb|hb
   ·exact two.1 o (hb▸e)
   ·exact two.2 o (hb▸e)
  rcases nt.keep b o e (.inl nr) with k|⟨f,_⟩
  ·exact k
  ·exact absurd q (LH b f)
 ·rcases nt.keep b o (st.base b o e) (.inr (hB b o e)) with k|⟨f,_⟩
  ·exact k
  ·rw[LI b f] at e;cases e
 ·exact st.frames.of_keeps λ b o e nf=>by
   rcases nt.keep b o e (.inl (db.mp nf)) with k|⟨_,_,sl,k⟩
   ·exact aA o k rfl
   ·exact aA _ k rfl
 ·refine ai (st.GJ env he L hf) λ o e c=> ?_
  have nr:¬rec? o:=by
   have key:∀{l:List Env},s.heap.FunFrames B l->env∈l->∀vs,o.data≠.fields vs:=by
    intro l
    induction l with
    |nil=>intro _ h;cases h
    |cons x r ih=>
     intro hl hm
     refine ei hl λ zz HS hr=> ?_;clear hl;rcases HS with⟨L',o',hf',_,Hh,Jl⟩
     rcases PU.mp hm with h|h
     ·rw[<-h,hf] at hf';cases hf'
      rw[e] at Hh;cases Hh
      exact Jl
     ·exact ih hr h
   exact db.mp (key st.frames he)
  rcases nt.keep L o e (.inl nr) with k|⟨_,_,sl,k⟩
  ·exact aA o k c
  ·exact aA _ k c
theorem av.Fc(x:av V φ0 M0 s0 φ M s)(st:St pl P B W fr φ M s)(nt:bT s0.heap fr s.heap h'):av V φ0 M0 s0 φ M {s with heap:=h'}:=by
 refine⟨x.pre,λ b o e n nv=> ?_,x.own,λ b o e=>let⟨o1,e1⟩:=x.alive b o e;nt.alive b o1 e1,x.os,x.gens⟩
 have h0:(s0.heap.get? b).isSome=true:=by refine aa e ?_;rfl
 have Gn:∀o',s.heap.get? b=some o'->rk fr b->o'.cls=.type "frame" :=λ o' e' ⟨env,he,hf⟩=>by
  refine ai (st.GJ env he b hf) λ o2 e2 c=> ?_
  rw[e'] at e2;cases e2;exact c
 rcases x.keep b o e n nv with k|⟨c,sl,k⟩
 ·rcases nt.keep b o k (.inr h0) with k2|⟨f,_,sl2,k2⟩
  ·exact .inl k2
  ·exact .inr ⟨Gn o k f,sl2,k2⟩
 ·rcases nt.keep b _ k (.inr h0) with k2|⟨f,_,sl2,k2⟩
  ·exact .inr ⟨c,sl,k2⟩
  ·exact .inr ⟨c,sl2,k2⟩
end
theorem yv{fr:List Env}(h:b∈fr.filterMap (·.frame)):rk fr b:=by
 refine ai (List.mem_filterMap.mp h) λ env he hf=> ?_
 exact aA env he hf
section
variable{M0:TZ}{A:Qz}{E:PL->PM->Prop}{s:PM}{B h0:QI}{env:Env}{r:List Env}{L e:P5}{cls:PL}
theorem bT.slots{fr:List Env}{h h':QI}(hs:Heap.SlotsOnly (fr.filterMap (·.frame)) h h')(nr:∀b o,b∈fr.filterMap (·.frame)->h.get? b=some o->¬rec? o):bT h0 fr h h':=by
 refine⟨λ b o e zz=> ?_,λ b o e=>let⟨sl,k⟩:=hs.2.2 b o e;⟨_,k⟩⟩
 by_cases hb:b∈fr.filterMap (·.frame)
 ·obtain⟨sl,k⟩:=hs.2.2 b o e
  exact .inr ⟨yv hb,nr b o hb e,sl,k⟩
 ·exact .inl ((hs.2.1 b hb).trans e)
theorem bT.record{fr:List Env}{h h':QI}(ho:h.get? a=some o)(hr:rec? o)(h0a:h0.get? a=none)(hs:∀b,b≠a->∀x,h.get? b=some x->h'.get? b=some x)(ha:∃o',h'.get? a=some o'):bT h0 fr h h':=by
 refine⟨λ b x e c=> ?_,λ b x e=> ?_⟩
 ·by_cases hb:b=a
  ·subst hb
   rw[ho] at e;cases e
   rcases c with c|c
   ·exact absurd hr c
   ·rw[h0a] at c;cases c
  ·exact .inl (hs b hb x e)
 ·by_cases hb:b=a
  ·subst hb;exact ha
  ·exact⟨x,hs b hb x e⟩
theorem lK
  (Is:A.frames=some (env::r))(hl:s.heap.FunFrames B (env::r))(hf:env.frame=some L)
  (he:s.heap.get? e=some oe)(hd:oe.data=.fields vs)(Fe:1<vs.size)(HM:vs[0]? =some a0)(KR:h0.get? e=none)(h0s:∀b,s.heap.get? b=none->h0.get? b=none)
  (h:∀h',bT h0 (env::r) s.heap h'->fA h0 h' e oe.cls (Sk L)->Q () {s with heap:=h'}):
  PT M0 A (do let a<-frameOf env;let pl<-entryPlaceOf L hadNext;let b<-VX head a .none (Sk L) .none pl;setField (.ref e) 1 b) Q E s:=by
 have MJ:∀b o,b∈(env::r).filterMap (·.frame)->s.heap.get? b=some o->¬rec? o:=λ b o hm e'=>by
  obtain⟨_,o2,ho,JO⟩:=hl.mem hm
  rw[e'] at ho;cases ho
  exact db.mp JO
 have LK:e∉(env::r).filterMap (·.frame):=λ hm=>MJ e oe hm he ⟨vs,hd⟩
 refine PA (wpAny_frameOf_fun Is hl hf λ h₁ GW=> ?_)
 refine PA (wpAny_entryPlaceOf λ pl Io=> ?_)
 unfold VX newFields
 refine PA (VD ?_ (Io.sizeOk5 _ _ _ _ _))
 have Np:h₁.get? e=some oe:=(GW.2.1 e LK).trans he
 have J0:=PC (h:=h₁) {cls:=.type "traceback",dict:=none,data:=.fields ([head,.ref L,.none,Sk L,.none]++(if pl.isEmpty then Qp 6 Qi else pl)).toArray} Np
 refine SC J0 hd Fe ?_
 have HN:h₁.objs.size≠e:=Sw (Qb Np)
 have hT:(h₁.push {cls:=.type "traceback",dict:=none,data:=.fields ([head,.ref L,.none,Sk L,.none]++(if pl.isEmpty then Qp 6 Qi else pl)).toArray}).get? h₁.objs.size=
   some {cls:=.type "traceback",dict:=none,data:=.fields ([head,.ref L,.none,Sk L,.none]++(if pl.isEmpty then Qp 6 Qi else pl)).toArray}:=PP h₁ rfl
 have G9:=Rv hd (·.setIfInBounds 1 (QL h₁.objs.size))
 have FN:(Qw (·.setIfInBounds 1 (QL h₁.objs.size)) oe).isFreed=false:=by
  generalize Qw (·.setIfInBounds 1 (QL h₁.objs.size)) oe=z at G9
  obtain⟨c1,c2,c3,c4⟩:=z
  simp only at G9;subst G9;rfl
 have Nq:=P7 (Qw (·.setIfInBounds 1 (QL h₁.objs.size))) J0 FN
 refine h _ (((bT.slots GW MJ).trans ⟨λ b o e' zz=>.inl (PC _ e'),λ b o e'=>⟨o,PC _ e'⟩⟩).trans
  (bT.record J0 ⟨vs,hd⟩ KR (λ b hb x e'=>(Qv _ _ (Sb hb)).trans e') ⟨_,Nq⟩)) ?_
 refine⟨_,_,a0,h₁.objs.size,_,_,Nq,XJ _ _,G9,by refine aa (UJ (by decide)) ?_;exact HM,by simp[Fe],?_,HN,
  (Qv _ _ (Sb HN)).trans hT,rfl,by first|(simp;done)|(rcases Io with rfl|⟨_,_,_,_,_,_,_,rfl⟩<;>simp)⟩
 refine h0s _ ?_
 cases q:s.heap.get? h₁.objs.size with
 |none=>rfl
 |some o=>have:=Qb q;rw[<-GW.1] at this;exact absurd this (Rp _)
theorem oL(Is:A.frames=some (env::r))(hl:s.heap.FunFrames B (env::r))(hf:env.frame=some L)(h0s:∀b,s.heap.get? b=none->h0.get? b=none)(x:mC h0 (env::r) s.heap e cls)
  (h:∀h',bT h0 (env::r) s.heap h'->fA h0 h' e cls (Sk L)->Q () {s with heap:=h'}):PT M0 A (XA (.ref e) env) Q E s:=by
 obtain⟨KR,x⟩:=x
 unfold XA
 simp only [hf]
 rcases x with⟨oe,vs,a0,he,rfl,hd,HM,h1⟩|⟨oe,vs,a0,T,oT,ts,he,rfl,hd,HM,h1,I8,HN,hT,GX,h3⟩|⟨env',r',L',hr,hf',oe,vs,a0,T,oT,ts,he,rfl,hd,HM,h1,I8,HN,hT,GX,h3⟩
 ·refine PA (Qx he hd h1 ?_)
  refine aa (if_neg (by decide)) ?_
  exact lK Is hl hf he hd (RE.mp h1).1 HM KR h0s h
 ·refine PA (Qx he hd h1 ?_)
  refine aa (if_pos (show(QL T !=Qi)=true from by simp)) ?_
  refine PA (Qx hT GX h3 ?_)
  refine aa (if_neg (show¬((Qi==Sk L)=true) from by simp[Sk])) ?_
  refine PA (SC hT GX (RE.mp h3).1 ?_)
  have other:∀b,b≠T->(s.heap.update T (Qw (·.setIfInBounds 3 Qi))).get? b=s.heap.get? b:=λ b hb=>Qv _ _ (Sb hb)
  have G9:=Rv GX (·.setIfInBounds 3 Qi)
  have FN:(Qw (·.setIfInBounds 3 Qi) oT).isFreed=false:=by
   generalize Qw (·.setIfInBounds 3 Qi) oT=z at G9
   obtain⟨c1,c2,c3,c4⟩:=z
   simp only at G9;subst G9;rfl
  have KN:=P7 (Qw (·.setIfInBounds 3 Qi)) hT FN
  have nt:bT h0 (env::r) s.heap (s.heap.update T (Qw (·.setIfInBounds 3 Qi))):=bT.record hT ⟨ts,GX⟩ I8 (λ b hb x e'=>(other b hb).trans e') ⟨_,KN⟩
  refine lK (B:=B) (s:={s with heap:=s.heap.update T (Qw (·.setIfInBounds 3 Qi))}) Is (hl.of_keeps λ b o hb JO=> ?_) hf ((other e (Sb HN)).trans he) hd (RE.mp h1).1 HM KR (λ b hb=>h0s b ?_)
   λ h' n2 t=>h h' (nt.trans n2) t
  ·rcases nt.keep b o hb (.inl (db.mp JO)) with k|⟨_,_,sl,k⟩
   ·exact aA o k rfl
   ·exact aA _ k rfl
  ·cases q:s.heap.get? b with
   |none=>rfl
   |some o=>
    obtain⟨o',e'⟩:=nt.alive b o q
    have KL:(s.heap.update T (Qw (·.setIfInBounds 3 Qi))).get? b=none:=hb
    rw[KL] at e';cases e'
 ·cases hr
  rw[hf] at hf';cases hf'
  refine PA (Qx he hd h1 ?_)
  refine aa (if_pos (show(QL T !=Qi)=true from by simp)) ?_
  refine PA (Qx hT GX h3 ?_)
  refine aa (if_pos (show(Sk L==Sk L)=true from by simp)) ?_
  exact PD (h _ .refl ⟨oe,vs,a0,T,oT,ts,he,rfl,hd,HM,h1,I8,HN,hT,GX,h3⟩)
theorem iB{fr:List Env}(x:fA h0 s.heap e cls fl)
  (h:∀h',bT h0 fr s.heap h'->fA h0 h' e cls (f.elim .none λ a=>Sk a)->Q () {s with heap:=h'}):PT M0 A (setFlight (.ref e) f) Q E s:=by
 obtain⟨oe,vs,a0,T,oT,ts,he,rfl,hd,HM,h1,I8,HN,hT,GX,h3⟩:=x
 have JI:3<ts.size:=(RE.mp h3).1
 have other:∀b,b≠T->(s.heap.update T (Qw (·.setIfInBounds 3 (f.elim .none λ a=>Sk a)))).get? b=s.heap.get? b:=λ b hb=>Qv _ _ (Sb hb)
 have G9:=Rv GX (·.setIfInBounds 3 (f.elim .none λ a=>Sk a))
 have FN:(Qw (·.setIfInBounds 3 (f.elim .none λ a=>Sk a)) oT).isFreed=false:=by
  generalize Qw (·.setIfInBounds 3 (f.elim .none λ a=>Sk a)) oT=z at G9
  obtain⟨c1,c2,c3,c4⟩:=z
  simp only at G9;subst G9;rfl
 have KN:=P7 (Qw (·.setIfInBounds 3 (f.elim .none λ a=>Sk a))) hT FN
 unfold setFlight
 refine PA (Qx he hd h1 ?_)
 refine aa (if_pos (show(QL T !=Qi)=true from by simp)) ?_
 refine SC hT GX JI (h _ (bT.record hT ⟨ts,GX⟩ I8 (λ b hb x e'=>(other b hb).trans e') ⟨_,KN⟩) ?_)
 exact⟨oe,vs,a0,T,_,_,(other e (Sb HN)).trans he,rfl,hd,HM,h1,I8,HN,KN,G9,by simp[JI]⟩
theorem yk(Is:A.frames=some (env::r))(hl:s.heap.FunFrames B (env::r))(hf:env.frame=some L)(h0s:∀b,s.heap.get? b=none->h0.get? b=none)(x:mC h0 (env::r) s.heap e cls)
  (h:∀h',bT h0 (env::r) s.heap h'->fA h0 h' e cls .none->Q () {s with heap:=h'}):PT M0 A (leaving env (.ref e)) Q E s:=by
 unfold leaving
 refine PA (oL Is hl hf h0s x λ h1 n1 t1=> ?_)
 exact iB (s:={s with heap:=h1}) (fr:=env::r) t1 λ h2 n2 t2=>h h2 (n1.trans n2) t2
end
end Mine
end
section
namespace Mine
open PySem PySem.W PySem.Calls PyProof.Rows PySem.SeqAt
theorem rB{α β:Type}(f:α->β->Sem (ForInStep β))(g:α->β->β)(hf:∀x b,f x b=pure (.yield (g x b))):∀(l:List α) (b:β),forIn l b f=pure (l.foldl (λ b x=>g x b) b):=by
 intro l
 induction l with
 |nil=>
  intro b
  refine aa RN ?_;rfl
 |cons x l ih=>
  intro b
  rewrite[Q5];refine aa (hf _ _) ?_;refine aa (pure_bind _ _) ?_
  exact ih (g x b)
noncomputable def si(slots:List (Str×PL))(x:Str×PL):List (Str×PL):=if(slots.lookup x.1).isNone then slots++[(x.1,x.2)] else slots
theorem sT(slots:List (Str×PL))(z:List (Str×PL))(k:Str):(z.foldl si slots).lookup k=(slots.lookup k).or (z.lookup k):=by
 induction z generalizing slots with
 |nil=>simp
 |cons x z ih=>
  obtain⟨n,v⟩:=x
  refine aa List.foldl_cons ?_;refine aa (ih _) ?_;refine aa Qn ?_
  unfold si
  by_cases e:k=n
  ·subst e
   simp only [beq_self_eq_true]
   cases h:slots.lookup k with
   |none=>simp[h,R5]
   |some u=>simp[h]
  ·have e':(k==n)=false:=beq_eq_false_iff_ne.mpr e
   refine aa e' ?_
   split
   ·refine aa R5 ?_;simp[Qn,e']
   ·rfl
theorem jD:∀{ps:List Str} {xs:List PL} {i:Nat} {k:Str},ps.Nodup->ps[i]? =some k->(ps.zip xs).lookup k=xs[i]? :=by
 intro ps
 induction ps with
 |nil=>
  intro y1 y2 y3 y4 h
  simp at h
 |cons p ps ih=>
  intro y5
  cases y5 with
  |nil=>
   intro i k y6 y7
   simp
  |cons x xs=>
   intro y8
   cases y8 with
   |zero=>
    intro k y9 h
    simp at h;subst h;simp
   |succ i=>
    intro k nd h
    rw[QJ] at nd
    have h':ps[i]? =some k:=by simpa using h
    have Ft:k≠p:=λ q=>nd.1 (q▸SA h')
    refine aa Qk ?_;refine aa Qn ?_;refine aa (beq_eq_false_iff_ne.mpr Ft) ?_
    simp only [List.getElem?_cons_succ]
    exact ih nd.2 h'
theorem pT:∀(ps:List Str) (vals:List PL) (f:Str->Option PL),vals.length=ps.length->(∀(i:Nat) (k:Str),ps[i]? =some k->f k=vals[i]?)->ps.filterMap (λ n=>(f n).map (n,·))=ps.zip vals:=by
 intro ps
 induction ps with
 |nil=>
  intro y1
  cases y1 with
  |nil=>
   intro y2 y3 y4
   exact rfl
  |cons y5 y6=>
   intro y7 h y8
   simp at h
 |cons p ps ih=>
  intro y9
  cases y9 with
  |nil=>
   intro G2 h Gv
   simp at h
  |cons v vals=>
   intro f hl h
   have h0:f p=some v:=by simpa using h 0 p rfl
   refine aa List.filterMap_cons ?_;refine aa h0 ?_
   simp only [RW,Qk]
   refine aa (ih vals f (by simpa using hl) λ i k e=>by simpa using h (i+1) k (by simpa using e)) ?_;rfl
noncomputable def dy(np:Nat)(xs ds:List PL):List PL:=xs++ds.drop (ds.length-(np-xs.length))
section
variable{M0:TZ}{A:Qz}{α β:Type}{E:PL->PM->Prop}{Q:α->PM->Prop}{R:β->PM->Prop}{s s0:PM}
theorem vG [Decidable c](h:¬c)(q:PT M0 A y Q E s):PT M0 A (if c then x else y) Q E s:=by refine aa (if_neg h) ?_;exact q
theorem A8(h:PT M0 A x (λ r' s'=>r'=r/\s'=s0) (λ zz zz=>False) s)(q:PT M0 A (f r) R E s0):PT M0 A (x>>=f) R E s:=
 PA (PW h (λ zz zz e=>e.1▸e.2▸q) λ zz zz e=>e.elim)
theorem A7{γ:Type}{l:List γ}{b:α}{f:γ->α->Sem (ForInStep α)}(g:α->γ->α){K:α->Sem β}(hf:∀x b,f x b=pure (.yield (g b x)))(q:PT M0 A (K (l.foldl g b)) R E s):PT M0 A (forIn l b f>>=K) R E s:=by
 refine aa ((rB f (λ x b=>g b x) hf) _ _) ?_;exact q
end
theorem A4{p:Arguments}(h1:p.posonlyargs=[])(h2:p.vararg=none)(h3:p.kwonlyargs=[])(h4:p.kwarg=none):p=⟨[],p.args,none,[],p.kw_defaults,none,p.defaults⟩:=by
 cases p;cases h1;cases h2;cases h3;cases h4;rfl
theorem DH{p d x i X Y Z W U:Nat}(h1:X+d=p)(h2:Y+x=p)(h3:Z+x=i)(h4:U+Y=d)(h5:W+X=i):W=U+Z:=ae 0x92492490c15986435c14590d20546035c15560d30555034c149109 rfl X d p Y x Z i U W h1 h2 h3 h4 h5
theorem yi{ps:List Str}{xs ds d:List PL}(nd:ps.Nodup)(hge:ps.length<=xs.length+ds.length)(e:d=ds):((ps.take (ps.length-d.length)).filter λ n=>((ps.zip xs).lookup n).isNone)=[]:=by
 subst e
 rewrite[Wq]
 intro k hk
 obtain⟨i,hi⟩:=Sq.mp hk
 have EO:=(PO.mp hi).1
 rw[Rb] at EO
 rw[RT (PK EO (Nat.min_le_left _ _))] at hi
 have hx:i<xs.length:=ae 0x92424940844424d150105349104 rfl ps.length xs.length d.length i hge EO
 refine aa (jD nd hi) ?_;refine aa (PI hx) ?_
 exact SZ
theorem wK{ps:List Str}{xs ds:List PL}(nd:ps.Nodup)(Iv:ds.length<=ps.length)(hge:ps.length<=xs.length+ds.length)(i:Nat)(k:Str)(hk:ps[i]? =some k):
  (((ps.drop (ps.length-ds.length)).zip ds).foldl si (ps.zip xs)).lookup k=(dy ps.length xs ds)[i]? :=by
 have hi:i<ps.length:=(PO.mp hk).1
 refine aa (sT _ _ _) ?_;refine aa (jD nd hk) ?_
 unfold dy
 by_cases hx:i<xs.length
 ·refine aa (Qe hx) ?_;refine aa (PI hx) ?_;rfl
 ·have hx:=Nat.le_of_not_lt hx
  refine aa (TL hx) ?_;refine aa (P8 hx) ?_;refine aa Vo ?_;refine aa UB ?_
  have FT:(ps.drop (ps.length-ds.length))[i-(ps.length-ds.length)]? =some k:=by
   refine aa UB ?_;refine aE hk ?_;refine aa (Uq (by(rename_i z0;exact ae 0x92415024d126009250105349104 rfl ps.length xs.length ds.length i hge z0))) ?_;rfl
  refine aa (jD (nd.sublist (List.drop_sublist ..)) FT) ?_;refine aa (DH (R9 Iv) (R9 (PN hx (TR hi))) (R9 hx) (R9 (show ps.length-xs.length<=ds.length by(rename_i z0;exact ae 0x905309244105349103 rfl ps.length xs.length ds.length hge))) (R9 (show ps.length-ds.length<=i by(rename_i z0;exact ae 0x92415024d126009250105349104 rfl ps.length xs.length ds.length i hge z0)))) ?_;rfl
theorem BX{ps:List Str}{xs ds d:List PL}(nd:ps.Nodup)(hle:xs.length<=ps.length)(Iv:ds.length<=ps.length)(hge:ps.length<=xs.length+ds.length)(e:d=ds):
  (ps++[]).filterMap (λ n=>Option.map (λ x=>(n,x)) ((((ps.drop (ps.length-d.length)).zip d).foldl si (ps.zip xs)).lookup n))=ps.zip (dy ps.length xs ds):=by
 subst e
 refine aa (Qc _) ?_
 exact pT _ (dy ps.length xs _) _ (by unfold dy;refine aa PJ ?_;refine aa Qy ?_;exact ae 0x92434810820914934d10414d148149103 rfl xs.length ps.length d.length hle hge) (wK nd Iv hge)
theorem rS{M0:TZ}{A:Qz}{E:PL->PM->Prop}{s:PM}{xs ds:List PL}{ps:List Str}{Q:List (Str×PL)->PM->Prop}
  (h1:fd.params.posonlyargs=[])(h2:fd.params.args.map (·.arg)=ps)(h3:fd.params.vararg=none)(h4:fd.params.kwonlyargs=[])(h5:fd.params.kwarg=none)(nd:ps.Nodup)
  (hd:(fd.defaults=.none/\ds=[])∨∃T o n,fd.defaults=.ref T/\s.heap.get? T=some o/\o.data=.seq ds.toArray n)(hle:xs.length<=ps.length)(hge:ps.length<=xs.length+ds.length)(Iv:ds.length<=ps.length)
  (h:Q (ps.zip (dy ps.length xs ds)) s):PT M0 A (bindArgs fd ⟨xs,[]⟩) Q E s:=by
 obtain⟨r,hr,rfl⟩:∃r:Option (Array PL),PT M0 A (Xy fd.defaults) (λ r' s'=>r'=r/\s'=s) (λ zz zz=>False) s/\(r.getD #[]).toList=ds:=by
  rcases hd with⟨e,rfl⟩|⟨T,o,n,e,ho,hs⟩
  ·exact aA none (by refine aa e ?_;exact PD ⟨rfl,rfl⟩) rfl
  ·exact aA (some ds.toArray) (by refine aa e ?_;exact Rl ho hs ⟨rfl,rfl⟩) rfl
 clear hd
 obtain⟨n,qn,p,rest⟩:=fd
 have hp:=A4 h1 h3 h4 h5
 dsimp only at hp h2
 generalize p.args=as,p.kw_defaults=kd,p.defaults=df at hp h2
 subst hp h2
 clear h1 h3 h4 h5
 generalize eps:as.map (·.arg)=ps at*
 have d0:(r.getD #[]).toList.drop ((r.getD #[]).toList.length-ps.length)=(r.getD #[]).toList:=by refine aa (WK Iv) ?_;rfl
 subst eps
 refine A8 (x:=Xy _) hr (vG ?_ (vG ?_ ?_))
 ·exact λ h=>Rp _ (PK (of_decide_eq_true (Bool.and_eq_true_iff.mp h).1) hle)
 ·exact λ h=>SZ ((congrArg (λ l=> !List.isEmpty l) (yi nd hge d0)).symm.trans h)
 ·refine A7 si (λ x b=> ?_) (PD ?_)
  ·show(if _ then _ else _)=pure (QW (if _ then _ else _))
   split<;>rfl
  exact(congrArg (λ l=>Q l s) (BX nd hle Iv hge d0)).mpr h
structure gH(A:Qz)(fr:List Env)(n:Nat):Prop where
 handled:A.handled=none
 frames:A.frames=some fr
 guards:A.guards=some []
 depth:A.depth+2*n+2<UN
 units:A.units+20*n+990<Vt
theorem cj.Ko(h:cj A fr n):gH A fr n:=⟨h.handled,h.frames,h.guards,by have:=h.depth;exact ae 0x90be80c7fc18813e24910be80c7fc18c13e249102 rfl A.depth n this,by have:=h.units;exact ae 0x90a6ac0467e0fbc024fe09fa248853560233f07e80c7fc13f449102 rfl A.units n this⟩
theorem gH.deeper(h:gH A fr (n+1)):cj (A.deeper env) (env::fr) n:=
 ⟨h.handled,by show A.frames.map (env:: ·)=_;refine aa h.frames ?_;rfl,h.guards,by have:=h.depth;show A.depth+1+_+_<_;exact ae 0x90be80c7fc18c13e24818510be80c7fc18813e206149102 rfl A.depth n this,by have:=h.units;show A.units+3+_+_<_;exact ae 0x90a6ac0467e0fd018ff827e89031a214d5808cfc1f78049fc13f406149102 rfl A.units n this⟩
noncomputable def jN(g:Gs)(n:Nat):Prop:=∀f vs xs W A fr φ M s Q X,gH A fr n->St g.pl g.w.params g.B W fr φ M s->am g.pl g.w.params φ (ow W φ M) s.heap vs xs->ag g.pl.P n f vs M Q X->
 Sl (PY g.prog g.w) A (.call (.ref (g.pl.FF f)) ⟨xs,[]⟩) (λ r s'=>match r with|.ok (.ret v)=>LQ g.pl g.w.params g.B W fr φ M s Q v s'|.ok _=>False|.error e=>LX g.pl g.w.params g.B W fr g.cls φ M s X e s') s
inductive d5(pl:Pl)(P:QP)(B:QI)(W:P5->Prop)(fr:List Env)(cls:PL)(V:P5->Prop)(φ:az)(M:AH)(s:PM)(X:AH->Prop)(v:PL)(s':PM):Prop
 |mk (e:P5) (φ':az) (M':AH):v=.ref e->X M'->St pl P B W fr φ' M' s'->av V φ M s φ' M' s'->mC s.heap fr s'.heap e cls->d5 pl P B W fr cls V φ M s X v s'
inductive Cr(pl:Pl)(P:QP)(B:QI)(W:P5->Prop)(fr:List Env)(Γ:aH)(env:Env)(φ:az)(M:AH)(s:PM)(Nx:an->AH->Prop)(s':PM):Prop
 |mk (ρ':an) (φ':az) (M':AH):Nx ρ' M'->aC pl P W Γ env ρ' φ' M' s'.heap->St pl P B W fr φ' M' s'->av (EQ env) φ M s φ' M' s'->Cr pl P B W fr Γ env φ M s Nx s'
inductive Du(pl:Pl)(P:QP)(B:QI)(W:P5->Prop)(fr:List Env)(env:Env)(φ:az)(M:AH)(s:PM)(R:V->AH->Prop)(v:PL)(s':PM):Prop
 |mk (x:V) (φ':az) (M':AH):R x M'->St pl P B W fr φ' M' s'->av (EQ env) φ M s φ' M' s'->VR pl P φ' (ow W φ' M') s'.heap x v->Du pl P B W fr env φ M s R v s'
noncomputable def FQ(pl:Pl)(P:QP)(B:QI)(W:P5->Prop)(fr:List Env)(Γ:aH)(env:Env)(φ:az)(M:AH)(s:PM)(Nx:an->AH->Prop)(R:V->AH->Prop):Flow->PM->Prop:=λ f s'=>match f with
 |.next=>Cr pl P B W fr Γ env φ M s Nx s'
 |.ret v=>Du pl P B W fr env φ M s R v s'
 |_=>False
noncomputable def dZ(g:Gs)(Γ:aH)(N:Nm)(n:Nat)(ss:Ss)(body:List Sd):Prop:=
 ∀W A fr env ρ φ M s Nx R X L,cj A (env::fr) n->env.scope.names=N->env.frame=some L->aC g.pl g.w.params W Γ env ρ φ M s.heap->St g.pl g.w.params g.B W (env::fr) φ M s->
  bq g.pl.P (ag g.pl.P n) ss ρ M Nx R X->PT (PY g.prog g.w) A (execs body env) (FQ g.pl g.w.params g.B W (env::fr) Γ env φ M s Nx R) (d5 g.pl g.w.params g.B W (env::fr) g.cls (EQ env) φ M s X) s
inductive vD(g:Gs)(K:RH)(Hk:List V)(np:Nat)(v:PL):Prop
 |mk (ds:List PL):((v=.none/\ds=[])∨∃T oT m,v=.ref T/\K.lookup T=some oT/\oT.data=.seq ds.toArray m)->am g.pl g.w.params [] (λ zz=>False) g.B Hk ds->ds.length<=np->vD g K Hk np v
structure CB(g:Gs)(K:RH)(f:Nat)(F:Fn)(Γ:aH)(o:Obj)(fd:SB)(body:List Sd)(ps:List Str):Prop where
 at_:K.lookup (g.pl.FF f)=some o
 data:o.data=.func fd
 code:codeIn K fd.code fd.qualname=true
 Km:fd.body=.stmts body
 Ey:fd.closure=[]
 glob:fd.globals=P3
 bi:fd.builtins=QX
 kind:fd.scope.kind=.function
 gen:fd.scope.isGenerator=false
 co:fd.scope.isCoroutine=false
 p1:fd.params.posonlyargs=[]
 p2:fd.params.args.map (·.arg)=ps
 p3:fd.params.vararg=none
 p4:fd.params.kwonlyargs=[]
 p5:fd.params.kwarg=none
 nd:ps.Nodup
 np:ps.length=F.np
 Pf:∀i k,ps[i]? =some k->Γ.lookup k=some i
 inj:∀x y i,Γ.lookup x=some i->Γ.lookup y=some i->x=y
 knd:∀k∈ps,fd.scope.names.lookup k=some .local∨fd.scope.names.lookup k=some .cell
 IL:∀x,fd.scope.names.lookup x≠some .free
 Hk:vD g K F.Fv ps.length fd.defaults
theorem an.IF:∀(a:an) (x:Option V) (r:an) (v:V),an.put (a++x::r) a.length v=a++some v::r:=by
 intro a
 induction a with
 |nil=>
  intro x r v
  exact rfl
 |cons y a ih=>
  intro x r v
  show y::an.put (a++x::r) a.length v=_;refine aa (ih x r v) ?_;rfl
theorem an.get_none(k i:Nat):an.get (Qp k none) i=none:=by
 induction k generalizing i with
 |zero=>rfl
 |succ k ih=>cases i with
  |zero=>rfl
  |succ i=>exact ih i
theorem rM:∀(names:List (Str×RZ)) (b:Nat) (acc:List (Str×P5)) (x:Str),(x,S9)∈names∨(acc.lookup x).isSome=true->((Tc b names acc).lookup x).isSome=true:=by
 intro names
 induction names with
 |nil=>
  intro b acc x h
  exact h.elim (λ h=>by cases h) id
 |cons y1 r ih=>
  obtain⟨n,k⟩:=y1
  intro b acc x h
  unfold Tc
  split
  ·rename_i hk
   refine ih _ _ x ?_
   rcases h with h|h
   ·rcases PU.mp h with e|h
    ·cases e;right;refine aa Qn ?_;simp
    ·exact .inl h
   ·right
    refine aa Qn ?_
    cases x==n
    ·exact h
    ·rfl
  ·rename_i hk
   refine ih _ _ x (h.imp (λ h=> ?_) id)
   rcases PU.mp h with e|h
   ·cases e;exact absurd rfl hk
   ·exact h
section
variable{g:Gs}{K:RH}{Γ:aH}{N:Nm}{n:Nat}{W:P5->Prop}{A:Qz}{fr:List Env}{env:Env}{ρ:an}{φ:az}{M:AH}{s:PM}{E0:PL->PM->Prop}{M0:TZ}
theorem wm(f:Str×PL->PUnit->Sem (ForInStep PUnit))(hf:∀n v u,f (n,v) u=(do Xx env n v;pure (.yield ⟨⟩))):
  ∀(ps:List Str) (vals:List PL) (vs pre:List V) (k:Nat) (s:PM) (Q:PUnit->PM->Prop),aC g.pl g.w.params W Γ env (pre.map some++Qp (ps.length+k) none) φ M s.heap->St g.pl g.w.params g.B W fr φ M s->
   (∀b,EQ env b->W b)->(∀(i:Nat) (p:Str),ps[i]? =some p->Γ.lookup p=some (pre.length+i))->(∀p∈ps,env.kindOf p=some .local∨env.kindOf p=some .cell)->am g.pl g.w.params φ (ow W φ M) s.heap vs vals->vs.length=ps.length->
   (∀s',aC g.pl g.w.params W Γ env ((pre++vs).map some++Qp k none) φ M s'.heap->St g.pl g.w.params g.B W fr φ M s'->av (EQ env) φ M s φ M s'->Q ⟨⟩ s')->PT M0 A (forIn (ps.zip vals) ⟨⟩ f) Q E0 s:=by
 intro ps
 induction ps with
 |nil=>
  intro vals vs pre k s Q er st hW hg hk hv hl h
  obtain rfl:vs=[]:=by cases vs with|nil=>rfl|cons _ _=>simp at hl
  refine aa List.zip_nil_left ?_;refine aa RN ?_
  exact PD (h s (by simpa using er) st .refl)
 |cons p ps ih=>
  intro vals vs pre k s Q er st hW hg hk hv hl h
  cases vs with
  |nil=>simp at hl
  |cons v vs=>
   obtain⟨x,xs,rfl,r1,r2⟩:=hv
   refine aa Qk ?_;rewrite[Q5];refine aa (hf _ _ _) ?_
   refine PA (PA (fG (i:=pre.length) (x:=v) er st (hg 0 p rfl) (hk p (.head _)) r1 λ s' KV G4 Je=>PD ?_))
   have e1:an.put (pre.map some++Qp ((p::ps).length+k) none) pre.length v=(pre++[v]).map some++Qp (ps.length+k) none:=by
    have e0:(p::ps).length+k=(ps.length+k)+1:=by refine aa PQ ?_;exact ae 0x306105244148185102 rfl ps.length k
    refine aa e0 ?_;refine aa List.replicate_succ ?_
    have:=an.IF (pre.map some) none (Qp (ps.length+k) none) v
    rw[PG] at this
    refine aa this ?_;simp
   rw[e1] at KV
   have Je:=av.mono Je λ b q zz=>bu.EQ q
   refine ih xs vs (pre++[v]) k s' Q KV G4 hW (λ i q e=> ?_) (λ q hq=>hk q (.tail _ hq)) (r2.step Je hW) (by simpa using hl) λ s2 ET EB EA=>h s2 ?_ EB (Je.trans EA)
   ·have:=hg (i+1) q (by simpa using e)
    refine aa this ?_;refine aa PJ ?_;simp;exact ae 0x305206144106149102 rfl pre.length i
   ·simpa using ET
theorem wC{scope:Xu}{ps:List Str}{vals:List PL}{vs:List V}{k:Nat}{qual:Str}{func:Option P5}{code:PL}{Q:Env->PM->Prop}
  (hkind:scope.kind=.function)(JO:∀x,scope.names.lookup x≠some .free)(inj:∀x y i,Γ.lookup x=some i->Γ.lookup y=some i->x=y)
  (hgam:∀(i:Nat) (p:Str),ps[i]? =some p->Γ.lookup p=some i)(hks:∀p∈ps,scope.names.lookup p=some .local∨scope.names.lookup p=some .cell)
  (st:St g.pl g.w.params g.B W fr φ M s)(hv:am g.pl g.w.params φ (ow W φ M) s.heap vs vals)(hl:vs.length=ps.length)
  (hQ:∀env W' s' L,env.scope=scope->env.frame=some L->(∀b,W b->W' b)->(∀b,W' b->W b∨s.heap.get? b=none)->(∀b,EQ env b->s.heap.objs.size<=b)->
   aC g.pl g.w.params W' Γ env (vs.map some++Qp k none) φ M s'.heap->St g.pl g.w.params g.B W' (env::fr) φ M s'->av bt φ M s φ M s'->Q env s'):
  PT M0 A (SE scope P3 [] (ps.zip vals) qual func code none QX) Q E0 s:=by
 simp only [SE,WJ,P6,if_false]
 refine PA (UQ ?_)
 refine PA (wpAny_layCells _ (λ name kind cells=>by cases hkc:kind==S9<;>simp[hkc]) _ _ _ _ ?_)
 have ok:=cellsFrom_ok scope.names (s.heap.push {cls:=.type "frame",data:=.dict #[]}) (s.heap.objs.size+1) [] ⟨λ zz zz hm=>(nomatch hm),VJ⟩ (by refine aa (Qd _ _) ?_;exact PE _)
 rw[Qd] at ok
 refine aa (show({s with heap:=s.heap.push {cls:=.type "frame",data:=.dict #[]}}:PM).heap.objs.size=s.heap.objs.size+1 from Qd ..) ?_
 generalize hcs:Tc (s.heap.objs.size+1) scope.names []=cs at ok ⊢
 generalize hs1:({s with heap:=Xz (s.heap.push {cls:=.type "frame",data:=.dict #[]}) scope.names}:PM)=s1
 have Fl:s1.heap=Xz (s.heap.push {cls:=.type "frame",data:=.dict #[]}) scope.names:=by refine aE hs1 ?_;rfl
 have IV:s1.os=s.os/\s1.gens=s.gens:=by refine aE hs1 ?_;exact⟨rfl,rfl⟩
 rw[<-Fl] at ok
 have hL:s1.heap.get? s.heap.objs.size=some {cls:=.type "frame",data:=.dict #[]}:=by refine aa Fl ?_;exact Sn _ _ _ _ (PP _ rfl)
 have EV:∀b o,s.heap.get? b=some o->s1.heap.get? b=some o:=λ b o e=>by refine aa Fl ?_;exact Sn _ _ _ _ (PC _ e)
 have IX:s1.heap.Ns s.heap.objs.size (λ zz=>none):=by
  have:=(Yb s.heap (.type "frame")).keeps (Sn scope.names _)
  refine aa Fl ?_;exact this
 clear hs1 Fl
 generalize henv:({scope,locals:=s.heap.objs.size,globals:=P3,cells:=cs,qual,func,code,frame:=some s.heap.objs.size,builtins:=QX}:Env)=env
 have e1:env.scope=scope:=by refine aE henv ?_;rfl
 have e2:env.locals=s.heap.objs.size:=by refine aE henv ?_;rfl
 have e3:env.frame=some s.heap.objs.size:=by refine aE henv ?_;rfl
 have e4:env.cells=cs:=by refine aE henv ?_;rfl
 have e5:env.globals=P3:=by refine aE henv ?_;rfl
 have e6:env.builtins=QX:=by refine aE henv ?_;rfl
 have MO:∀x,env.kindOf x=scope.names.lookup x:=λ x=>by unfold RF;refine aa e1 ?_;rfl
 clear henv
 have Et:=st.ext (N:=λ b=>s.heap.get? b=none/\∃o,s1.heap.get? b=some o) EV λ b q=>q
 have Ep:av bt φ M s φ M s1:=.ext EV IV.1 IV.2
 have Fm:∀b,s.heap.objs.size<=b->(∃o,s1.heap.get? b=some o)->W b∨(s.heap.get? b=none/\∃o,s1.heap.get? b=some o):=λ b q e=>.inr ⟨aT q,e⟩
 have EE:∀x c,cs.lookup x=some c->s1.heap.IsCell c none/\s.heap.objs.size+1<=c:=λ x c hc=>ok.empty x c (mem_of_lookup hc)
 have OZ:∀x c,cs.lookup x=some c->W c∨(s.heap.get? c=none/\∃o,s1.heap.get? c=some o):=λ x c hc=>by
  obtain⟨⟨o,ho,_⟩,hle⟩:=EE x c hc
  exact Fm c (ae 0x905244148185102 rfl s.heap.objs.size c hle) ⟨o,ho⟩
 have EC:aC g.pl g.w.params (λ b=>W b∨(s.heap.get? b=none/\∃o,s1.heap.get? b=some o)) Γ env (([]:List V).map some++Qp (ps.length+k) none) φ M s1.heap:=by
  refine⟨by refine aa e1 ?_;exact hkind,e5,e6,inj,by refine aa e2 ?_;exact Fm _ (PE _) ⟨_,hL⟩,⟨_,by refine aa e2 ?_;exact IX,λ x i hi hx=> ?_⟩,λ x hx=> ?_,λ x y c hx hy=> ?_⟩
  ·show eS _ _ _ _ _ (an.get (Qp (ps.length+k) none) i) _
   refine aa (an.get_none _ _) ?_;trivial
  ·rw[MO] at hx
   rcases hx with hx|hx
   ·have hm:=rM scope.names (s.heap.objs.size+1) [] x (.inl (mem_of_lookup hx))
    rw[hcs] at hm
    obtain⟨c,hc⟩:=P4.mp hm
    refine⟨c,none,by refine aa e4 ?_;exact hc,OZ x c hc,(EE x c hc).1,λ i hi=> ?_⟩
    show eS _ _ _ _ _ (an.get (Qp (ps.length+k) none) i) _
    refine aa (an.get_none _ _) ?_;trivial
   ·exact absurd hx (JO x)
  ·rw[e4] at hx hy
   exact name_of_addr ok.apart (mem_of_lookup hx) (mem_of_lookup hy)
 have EB:St g.pl g.w.params g.B (λ b=>W b∨(s.heap.get? b=none/\∃o,s1.heap.get? b=some o)) (env::fr) φ M s1:=by
  refine⟨Et.hr,Et.base,⟨by refine aa e1 ?_;refine aa hkind ?_;decide,⟨_,_,e3,?_,hL,λ vs h=>by cases h⟩,Et.frames⟩,λ en he L hf=> ?_,λ en he L hf=> ?_,Et.FK,Et.EY⟩
  ·exact Et.EY _ (Fm _ (PE _) ⟨_,hL⟩)
  ·rcases PU.mp he with rfl|he
   ·rw[e3] at hf;cases hf;exact Fm _ (PE _) ⟨_,hL⟩
   ·exact Et.Fi en he L hf
  ·rcases PU.mp he with rfl|he
   ·rw[e3] at hf;cases hf;exact aA _ hL rfl
   ·exact Et.GJ en he L hf
 have Im:∀b,EQ env b->s.heap.objs.size<=b/\∃o,s1.heap.get? b=some o:=λ b q=>by
  rcases q with q|⟨x,_,q⟩
  ·refine aa q ?_;refine aa e2 ?_;exact⟨PE _,_,hL⟩
  ·rw[e4] at q
   obtain⟨⟨o,ho,_⟩,hle⟩:=EE x b q
   exact⟨ae 0x905244148185102 rfl s.heap.objs.size b hle,o,ho⟩
 have Ot:am g.pl g.w.params φ (ow (λ b=>W b∨(s.heap.get? b=none/\∃o,s1.heap.get? b=some o)) φ M) s1.heap vs vals:=
  am.mono (PB _) (λ b o e zz=>.inl (EV b o e)) (λ b q=>q.elim (λ q=>q.elim (λ q=>.inl (.inl q)) λ q=>.inr q.1) λ q=>.inl (.inr q)) hv
 refine PA (wm (W:=λ b=>W b∨(s.heap.get? b=none/\∃o,s1.heap.get? b=some o)) (env:=env) _ (λ zz zz zz=>rfl) ps vals vs [] k s1 _ EC EB (λ b q=>Fm b (Im b q).1 (Im b q).2) (λ i p e=>by refine aa (hgam i p e) ?_;simp)
  (λ p hp=>by refine aa (MO _) ?_;exact hks p hp) Ot hl λ s2 ET Fj EA=>PD ?_)
 exact hQ env _ s2 _ e1 e3 (λ b q=>.inl q) (λ b q=>q.imp id λ q=>q.1) (λ b q=>(Im b q).1) ET Fj (Ep.trans' EA λ b q=>.inr (Im b q).1)
end
section
variable{g:Gs}{tb:Tb}{K:RH}{Γ:aH}{N:Nm}{n:Nat}{W:P5->Prop}{A:Qz}{fr:List Env}{env:Env}{ρ:an}{φ:az}{M:AH}{s:PM}{E0:PL->PM->Prop}{M0:TZ}
theorem am.base(st:St g.pl g.w.params g.B W fr φ M s)(r:am g.pl g.w.params [] (λ zz=>False) g.B x v):am g.pl g.w.params φ (ow W φ M) s.heap x v:=
 am.mono ⟨φ,rfl⟩ (λ b o e zz=>.inl (st.base b o e)) (λ b q=>.inr (q.elim (st.EY b) (st.hr.new b))) r
theorem BV(fx:Fx g tb K)(fk:CB g K f F Γ o fd body ps)(hP:g.pl.P.fn f=some F)(hb:dZ g Γ fd.scope.names n F.body body)
  (hA:gH A fr (n+1))(st:St g.pl g.w.params g.B W fr φ M s)(hv:am g.pl g.w.params φ (ow W φ M) s.heap vs xs)(hw:ag g.pl.P (n+1) f vs M Q X):
  Sl (PY g.prog g.w) A (.call (.ref (g.pl.FF f)) ⟨xs,[]⟩) (λ r s'=>match r with|.ok (.ret v)=>LQ g.pl g.w.params g.B W fr φ M s Q v s'|.ok _=>False|.error e=>LX g.pl g.w.params g.B W fr g.cls φ M s X e s') s:=by
 rw[ee,hP] at hw
 replace hw:aB (eQ F vs) _:=hw
 refine ai (aD hw) λ ρ hρ hw=> ?_
 unfold eQ at hρ
 split at hρ
 case isFalse=>cases hρ
 case isTrue hc=>
 cases hρ
 refine ei hc λ c1 c2 c3=> ?_;clear hc
 obtain⟨ds,hd,rd,Iv⟩:=fk.Hk
 have hlen:=hv.length
 have Iu:=rd.length
 have KS:=fx.KS st
 refine XG (by have:=hA.depth;exact ae 0x90be80c7fd10be80c7fc18813e206149102 rfl A.depth n this) (KS _ _ fk.at_) fk.data fk.co fk.gen fk.Km (codeRec_of KS fk.code) ?_
 refine rS fk.p1 fk.p2 fk.p3 fk.p4 fk.p5 fk.nd (ds:=ds) (hd.imp id λ⟨T,oT,m,e1,e2,e3⟩=>⟨T,oT,m,e1,KS _ _ e2,e3⟩) (by refine aa fk.np ?_;refine aa hlen ?_;exact c1) (by refine aa fk.np ?_;refine aa hlen ?_;refine aa Iu ?_;exact c2) Iv ?_
 refine aa fk.glob ?_;refine aa fk.bi ?_;refine aa fk.Ey ?_
 have OV:am g.pl g.w.params φ (ow W φ M) s.heap (vs++F.Fv.drop (F.Fv.length-(F.np-vs.length))) (dy ps.length xs ds):=by
  unfold dy
  refine aa Iu ?_;refine aa fk.np ?_;refine aa hlen ?_
  exact am.append hv (am.base st (am.drop _ rd))
 refine wC (ps:=ps) (k:=F.slots-F.np) fk.kind fk.IL fk.inj fk.Pf fk.knd st OV (by refine aa PJ ?_;refine aa Qy ?_;refine aa fk.np ?_;exact ae 0x92434810820914934d10414d148149103 rfl vs.length F.np F.Fv.length c1 c2) λ env W' s1 L e1 e2 hW hW2 Im EC Et Ep=> ?_
 refine⟨fx.nl.keeps Et.base,codeAny_func ?_⟩
 have Iw:∀b,s1.heap.get? b=none->s.heap.get? b=none:=λ b q=>Ep.dead q
 refine PW (hb W' _ fr env _ φ M s1 _ _ _ L (hA.deeper (env:=env)) (by refine aa e1 ?_;rfl) e2 EC Et hw) (λ fl s2 h=> ?_) λ v s2 h=> ?_
 ·cases fl with
  |next=>
   obtain⟨ρ',φ2,M2,q,ET,EB,EA⟩:=h
   exact⟨.none,φ2,M2,q,st.back (fr':=[env]) EB hW,Ep.trans' EA λ b q=>.inr (Im b q),rfl⟩
  |ret v=>
   obtain⟨x,φ2,M2,q,EB,EA,r⟩:=h
   exact⟨x,φ2,M2,q,st.back (fr':=[env]) EB hW,Ep.trans' EA λ b q=>.inr (Im b q),VR.set (λ b q=>.inl (hW b q)) r⟩
  |_=>exact h.elim
 ·obtain⟨e,φ2,M2,rfl,q,EB,EA,ex⟩:=h
  have sp:av bt φ M s φ2 M2 s2:=Ep.trans' EA λ b q=>.inr (Im b q)
  refine yk (B:=g.B) (h0:=s.heap) (env:=env) (r:=fr) (by show A.frames.map (env:: ·)=_;refine aa hA.frames ?_;rfl) EB.frames e2 (λ b q=>sp.dead q) (ex.le Iw) λ h' nt t=> ?_
  refine⟨e,φ2,M2,rfl,q,st.back (fr':=[env]) (EB.Fc (λ b o e=>by refine aa (st.base b o e) ?_;rfl) nt) hW,sp.Fc EB nt,ex.1|>Iw e,.inr (.inl t)⟩
end
noncomputable def CA(g:Gs)(K:RH):Prop:=∀f F,g.pl.P.fn f=some F->∃Γ o fd body ps,CB g K f F Γ o fd body ps/\∀n,jN g n->dZ g Γ fd.scope.names n F.body body
theorem yZ{g:Gs}{tb:Tb}{K:RH}(fx:Fx g tb K)(h:CA g K):∀n,jN g n:=by
 intro n
 induction n with
 |zero=>
  exact λ f vs xs W A fr φ M s Q X hA st hv hw=>(by rw[nN] at hw;exact hw.elim)
 |succ n ih=>
  exact λ f vs xs W A fr φ M s Q X hA st hv hw=>by
   have IS:=hw
   rw[ee] at IS
   refine ai (aD IS) λ F hF zz=> ?_
   refine DU (h f F hF) λ Γ o fd body ps fk hb=> ?_
   exact BV fx fk hF (hb n (ih)) hA st hv hw
section
variable{g:Gs}{tb:Tb}{K:RH}{Γ:aH}{N:Nm}{n:Nat}{W:P5->Prop}{A:Qz}{fr:List Env}{env:Env}{ρ:an}{φ:az}{M:AH}{s:PM}{E0:PL->PM->Prop}
theorem yS(h:ag g.pl.P n f vs M Q X):∃F,g.pl.P.fn f=some F:=by
 cases n with
 |zero=>rw[nN] at h;exact h.elim
 |succ n=>rw[ee] at h;refine ai (aD h) λ F hF zz=> ?_;exact⟨F,hF⟩
theorem lu(fx:Fx g tb K)(hc:jN g n)(hA:cj A fr n)(st:St g.pl g.w.params g.B W fr φ M s)(hv:am g.pl g.w.params φ (ow W φ M) s.heap vs xs)(hw:ag g.pl.P n f vs M Q X):
  PT (PY g.prog g.w) A (call (.ref (g.pl.FF f)) xs) (LQ g.pl g.w.params g.B W fr φ M s Q) (LX g.pl g.w.params g.B W fr g.cls φ M s X) s:=by
 refine Uu ?_
 exact hc f vs xs W A fr φ M s Q X hA.Ko st hv hw
theorem di(fx:Fx g tb K)(hes:dC g Γ N n es xs)(hx:xs.all aw=true)(hA:cj A fr n)(hN:env.scope.names=N)(er:aC g.pl g.w.params W Γ env ρ φ M s.heap)(st:St g.pl g.w.params g.B W fr φ M s)
  (h:fp g.pl.P (ag g.pl.P n) es ρ M Q1 X)
  (k:∀vs ys s1 φ1 M1,Q1 ys M1->vs.length=xs.length->St g.pl g.w.params g.B W fr φ1 M1 s1->av bt φ M s φ1 M1 s1->am g.pl g.w.params φ1 (ow W φ1 M1) s1.heap ys vs->Wc K f=true/\PT (PY g.prog g.w) A (call f (first++vs)) R E0 s1)
  (he:∀v s',LX g.pl g.w.params g.B W fr g.cls φ M s X v s'->E0 v s'):PT (PY g.prog g.w) A (V8 pos f first (Tp pos (Rh xs env)) []) R E0 s:=by
 refine callWith_of (P:=λ h=>Wc K f=true/\K.In h) (by refine aa (kn hx) ?_;rfl) (λ h x=>keeps_K x.1 h x.2) (iS hx (qH hes hA hN er st h (λ vs ys s1 φ1 M1 q hlen Et Ep EC r1=> ?_) he))
 obtain⟨a,b⟩:=k vs ys s1 φ1 M1 q hlen Et Ep r1
 exact⟨⟨a,fx.KS Et⟩,b⟩
theorem rh(fx:Fx g tb K)(h:ag g.pl.P n f vs M Q X):Wc K (.ref (g.pl.FF f))=true:=by
 obtain⟨F,hF⟩:=yS h
 exact fx.JC f F hF
theorem aj.call(fx:Fx g tb K)(hc:jN g n)(h:cC N x=true)(hk:tb.fns.lookup x=some f)(hes:dC g Γ N n es xs)(hx:xs.all aw=true):
  aj g Γ N n (.call f es) (.Call (.Name x p) xs [] pos):=by
 intro W A fr env ρ φ M s Q X hA hN er st hw
 refine Wi rfl (dU fx hN er st (bQ h).1 (bQ h).2 (fx.Mm x f hk) ?_)
 refine di fx hes hx hA hN er st hw (λ vs ys s1 φ1 M1 q zz Et Ep r1=>⟨rh fx q,?_⟩) λ zz zz e=>e
 exact PW (lu fx hc hA Et r1 q) (LQ.step Ep) (LX.step Ep)
theorem aj.Fw(fx:Fx g tb K)(hc:jN g n)(h:nF N Γ x i=true)(hes:dC g Γ N n es xs)(hx:xs.all aw=true):
  aj g Γ N n (.Fw i es) (.Call (.Name x p) xs [] pos):=by
 intro W A fr env ρ φ M s Q X hA hN er st hw
 refine ai (aD hw) λ v hv hw=> ?_
 refine Wi rfl ?_
 refine aS (α:=Unit) (aj.var (i:=i) h) hA hN er st (Q1:=λ u M1=>u=v/\M1=M) (X:=X) (by show aB (ρ.get i) _;refine aa hv ?_;exact⟨rfl,rfl⟩) (λ u x1 s1 φ1 M1 q1 Et Ep EC r1=> ?_) λ zz zz e=>e
 obtain⟨rfl,rfl⟩:=q1
 cases x1 with
 |fn f=>
  subst r1
  refine di fx hes hx hA hN EC Et hw (λ vs ys s2 φ2 M2 q zz EB EA r2=>⟨rh fx q,?_⟩) (LX.step Ep)
  exact PW (lu fx hc hA EB r2 q) (LQ.step (Ep.trans EA)) (LX.step (Ep.trans EA))
 |_=>exact TI hw
theorem aj.EL(fx:Fx g tb K)(hc:jN g n)(ho:aj g Γ N n o xo)(hm:g.pl.FE m=nm)(hb:eE xo=true)(hes:dC g Γ N n es xs)(hx:xs.all aw=true)(hn:xs.length<30)(hl:(apos.endLine==pos.line)=true):
  aj g Γ N n (.EL o m es) (.Call (.Attribute xo nm apos) xs [] pos):=by
 intro W A fr env ρ φ M s Q X hA hN er st hw
 subst hm
 refine g9 hb hx hn hl (aS (α:=Unit) ho hA hN er st hw (λ v x s1 φ1 M1 q1 Et Ep EC r1=> ?_) λ zz zz e=>e)
 refine ai (aD q1) λ f hf HK=> ?_
 refine ai (Rm.mp hf) λ HT h1 h2=> ?_;rcases HT with⟨c,vs⟩
 refine ai (Rm.mp h2) λ C' h5 h6=> ?_
 obtain⟨ad,d,Gg,k,C,rfl,g1,g2,hC,hlC,ke,rs⟩:=tU Et r1 h1
 dsimp only at h5 h6
 rw[hC] at h5
 have e5:=PZ h5
 rw[<-e5] at h6
 have ck:=fx.cls c C hC
 refine ei (ck.EL m f h6) λ m1 m2 m3=> ?_
 have sh:shadowIn (some (QO Gg k)) (g.pl.FE m)=some false:=by
  obtain⟨z1,z2⟩:=wU ke λ q=>m3 (by rw[Ux] at q;exact WN q)
  show(lookIn (g.pl.FE m) (QO Gg k)).map _=_
  unfold lookIn
  dsimp only
  refine aa z1 ?_
  simp[z2]
 refine method_fn (fx.KS Et) (uW g1 g2) ck.Iz ck.Ja m1 (beq_iff_eq.mp m2) sh ?_
 refine di fx hes hx hA hN EC Et HK (λ Hm ys s2 φ2 M2 q zz EB EA r2=>⟨rh fx q,?_⟩) (LX.step Ep)
 exact PW (lu fx hc hA EB (am.c ⟨_,_,rfl,r1.step EA bG,r2⟩) q) (LQ.step (Ep.trans EA)) (LX.step (Ep.trans EA))
theorem gH.new(h:cj A fr n):gH (A.under (.builtin "type.__call__" ⟨.ref c::xs,[]⟩)) fr n:=by
 have hw:(Ws "type.__call__" ⟨.ref c::xs,[]⟩).weight=1:=by rfl
 have hu:(Ws "type.__call__" ⟨.ref c::xs,[]⟩).cUnits=1:=by rfl
 refine⟨h.handled,?_,?_,?_,?_⟩
 ·unfold Yd
  dsimp only
  refine aa (pushEnvs_eq _ _) ?_;refine aa h.frames ?_;rfl
 ·unfold Yd
  dsimp only
  refine aa (pushGuards_eq _ _) ?_;refine aa h.guards ?_;rfl
 ·show A.depth+_+_+_<_
  have:=h.depth
  refine aa hw ?_;exact ae 0x90be80c7fc18813e24818510be80c7fc18c13e249102 rfl A.depth n this
 ·show A.units+_+_+_<_
  have:=h.units
  refine aa hu ?_;exact ae 0x90a6ac0467e0fbc024fe09fa240c28853560233f07e80c7fc13f449102 rfl A.units n this
theorem AF(fx:Fx g tb K)(hc:jN g n)(hA:cj A fr n)(st:St g.pl g.w.params g.B W fr φ M s)(r:am g.pl g.w.params φ (ow W φ M) s.heap ys vs)
  (hw:cK g.pl.P (ag g.pl.P n) c ys M Q X):
  PT (PY g.prog g.w) A (call (.ref (g.pl.ED c)) vs) (LQ g.pl g.w.params g.B W fr φ M s Q) (LX g.pl g.w.params g.B W fr g.cls φ M s X) s:=by
 unfold cK at hw
 refine ai (aD hw) λ C hC hw=> ?_
 refine ai (aD hw) λ f hf hw=> ?_
 have ck:=fx.cls c C hC
 have KS:=fx.KS st
 obtain⟨i1,i2⟩:=ck.init f hf
 refine Uu ?_
 obtain⟨h,gn,d,t,os⟩:=s
 have FI:∀b o,h.get? b=some o->((h.push Wh).push (R7 (g.pl.ED c) h.objs.size)).get? b=some o:=λ b o e=>PC _ (PC _ e)
 have e1:((h.push Wh).push (R7 (g.pl.ED c) h.objs.size)).get? (h.objs.size+1)=some (R7 (g.pl.ED c) h.objs.size):=by
  have:=PP (h.push Wh) (o:=R7 (g.pl.ED c) h.objs.size) rfl
  rwa [Qd] at this
 have e2:((h.push Wh).push (R7 (g.pl.ED c) h.objs.size)).get? h.objs.size=some (QO [] 0):=PC _ (PP _ rfl)
 obtain⟨Et,Ep⟩:=St.alloc (p:=(h.objs.size+1,h.objs.size)) (o:=.inst c []) (s':=⟨(h.push Wh).push (R7 (g.pl.ED c) h.objs.size),gn,d,t,os⟩) st FI (RR _) (PE _) rfl rfl
  ⟨Nat.succ_ne_self _,[],0,C,e1,e2,hC,Ry _,rfl,rfl⟩
 have hp:(φ++[(h.objs.size+1,h.objs.size)])[M.next]? =some (h.objs.size+1,h.objs.size):=by
  refine aa (P8 (by refine aa st.hr.len ?_;exact PE _)) ?_;refine aa st.hr.len ?_;simp
 refine make_core (makes_of KS ck.makes) (XC KS i1) (λ self=>bind_fn KS self i2) (.inl (by simp)) ?_
 refine Uj (hc f _ (.ref (h.objs.size+1)::vs) W _ fr _ _ _ _ _ (gH.new hA) Et (am.c ⟨_,_,rfl,VR.r ⟨_,hp,rfl⟩,r.step Ep bG⟩) hw) ?_
 intro rr s2 hr
 unfold InitBack
 cases rr with
 |error e=>exact LX.step Ep _ _ hr
 |ok fl=>
  cases fl with
  |ret v=>
   obtain⟨x,φ2,M2,q,EB,EA,rx⟩:=hr
   cases x with
   |none=>
    cases hm:M2.m M.next with
    |none=>rw[hm] at q;exact TI q
    |some ob=>
     rw[hm] at q
     cases ob with
     |inst cl fs=>
      refine⟨rx,?_⟩
      rename type_of% q=>oqe;refine ei oqe λ HT hl q=> ?_;clear oqe;subst HT
      have Hu:φ2[M.next]? =some (h.objs.size+1,h.objs.size):=by
       obtain⟨tl,ht⟩:=EA.pre
       refine aE ht ?_;refine aa (Qe (PO.mp hp).1) ?_;exact hp
      split at q
      ·exact⟨_,φ2,M2,q,EB,Ep.trans EA,VR.r ⟨_,Hu,rfl⟩⟩
      ·have hs:(M2.m M.next).isSome=true:=by refine aa hm ?_;rfl
       refine ai (EB.hr.at_ _ _ hm) λ p' Fz ro=> ?_
       rw[Hu] at Fz;cases Fz
       obtain⟨_,es,k,C',g1,g2,Kd,Gt,ke,rs⟩:=ro
       rw[hC] at Kd;cases Kd
       have no:=EB.Gj hs Hu
       refine⟨_,φ2,_,q,EB.kill.1,Ep.trans (EA.trans EB.kill.2),?_⟩
       refine VR.o ?_
       exact⟨_,_,es,k,C,rfl,no.1,no.2,g1,g2,hC,by rw[hl,U6] at ke;exact ke,am.mono (PB _) (λ b x e zz=>.inl e) (λ b z=>.inl (z.imp id eN)) rs⟩
     |_=>exact TI q
   |_=>exact TI q
  |_=>exact hr.elim
theorem aj.new(fx:Fx g tb K)(hc:jN g n)(h:cC N x=true)(hk:tb.Hc.lookup x=some c)(hes:dC g Γ N n es xs)(hx:xs.all aw=true):
  aj g Γ N n (.new c es) (.Call (.Name x p) xs [] pos):=by
 intro W A fr env ρ φ M s Q X hA hN er st hw
 refine Wi rfl (dU fx hN er st (bQ h).1 (bQ h).2 (fx.Kj x c hk) ?_)
 refine di fx hes hx hA hN er st hw (λ vs ys s1 φ1 M1 q zz Et Ep r1=>⟨?_,?_⟩) λ zz zz e=>e
 ·unfold cK at q
  refine ai (aD q) λ C hC zz=> ?_
  exact(fx.cls c C hC).keep
 ·exact PW (AF fx hc hA Et r1 q) (LQ.step Ep) (LX.step Ep)
end
section
variable{pl:Pl}{P:QP}{B:QI}{W Z:P5->Prop}{fr:List Env}{φ φ':az}{M M':AH}{s s':PM}
theorem jj{B h h':QI}:∀{l:List Env},(∀env∈l,∀L o,env.frame=some L->h.get? L=some o->h'.get? L=some o)->h.FunFrames B l->h'.FunFrames B l:=by
 intro l
 induction l with
 |nil=>
  intro y1 y2
  exact trivial
 |cons env r ih=>
  intro k y3
  refine ei y3 λ hk HS hr=> ?_;clear y3;rcases HS with⟨L,o,hf,hn,ho,hd⟩
  exact cg hk ⟨L,o,hf,hn,k env (.head _) L o hf ho,hd⟩ (ih (λ e he=>k e (.tail _ he)) hr)
theorem St.touched(x:St pl P B W fr φ M s)(hk:∀b o,s.heap.get? b=some o->¬Z b->s'.heap.get? b=some o)(hv:∀b,Z b->W b)(ha:∀b o,s.heap.get? b=some o->∃o',s'.heap.get? b=some o')
  (hF:∀env∈fr,∀L,env.frame=some L->¬Z L):St pl P B W fr φ M s':=by
 have hB:∀b o,B.get? b=some o->¬Z b:=λ b o e q=>by rw[x.EY b (hv b q)] at e;cases e
 refine⟨x.hr.same (λ b o e n=>.inl (hk b o e λ q=>n (.inl (hv b q)))) (λ b o q e=>hk b o e λ qv=>x.hr.EU b q (hv b qv)) (λ b q=>.inl q),λ b o e=>hk b o (x.base b o e) (hB b o e),
  jj (λ env he L o hf e=>hk L o e (hF env he L hf)) x.frames,x.Fi,λ env he L hf=>let⟨o,e,c⟩:=x.GJ env he L hf;⟨o,hk L o e (hF env he L hf),c⟩,
  λ b q=>let⟨o,e⟩:=x.FK b q;ha b o e,x.EY⟩
theorem av.touched(hk:∀b o,s.heap.get? b=some o->¬Z b->s'.heap.get? b=some o)(ha:∀b o,s.heap.get? b=some o->∃o',s'.heap.get? b=some o')(ho:s'.os=s.os)(hg:s'.gens=s.gens):av Z φ M s φ M s':=
 ⟨PB _,λ b o e zz nv=>.inl (hk b o e nv),λ zz q=>.inl q,ha,ho,hg⟩
end
structure ig(g:Gs)(A:Qz)(I:P5)(Z:P5->Prop)(tg:Qa->Prop)(S:(P5->Prop)->az->AH->QI->List V->Prop):Prop where
 mono:∀{W W' φ φ' M M' h h' xs},φ<+:φ'->(∀b o,h.get? b=some o->¬ow W φ M b->b7 o (h'.get? b))->(∀b,ow W' φ' M' b->ow W φ M b∨h.get? b=none)->(∀b o,Z b->h.get? b=some o->bZ o (h'.get? b))->S W φ M h xs->S W' φ' M' h' xs
 next:∀{W fr φ M s x xs E target} {Q:PL->PM->Prop},(∀b,Z b->W b)->(∀env∈fr,∀L,env.frame=some L->¬Z L)->tg target->St g.pl g.w.params g.B W fr φ M s->S W φ M s.heap (x::xs)->
  (∀v s',St g.pl g.w.params g.B W fr φ M s'->av Z φ M s φ M s'->VR g.pl g.w.params φ (ow W φ M) s'.heap x v->S W φ M s'.heap xs->Q v s')->
  PT (PY g.prog g.w) A (WR (.ref I)) (λ r s1=>∃v,r=some v/\PT (PY g.prog g.w) A (Ul target (.ref I) v) (λ zz s2=>Q v s2) E s1) E s
 done:∀{W φ M s E} {Q:Option PL->PM->Prop},A.handled=none->S W φ M s.heap []->
  (∀h' tk,(∀b o,s.heap.get? b=some o->¬Z b->h'.get? b=some o)->Q none {s with heap:=h',toks:=tk})->PT (PY g.prog g.w) A (WR (.ref I)) Q E s
 again:∀{W φ M s xs E} {Q:PL->PM->Prop},S W φ M s.heap xs->Q (.ref I) s->PT (PY g.prog g.w) A (Xv (.ref I)) Q E s
noncomputable def dT:Qa->Prop
 |.Name _ _=>True
 |_=>False
noncomputable def lm:Qa->Prop
 |.Tuple _ _ _=>True
 |_=>False
theorem oP(h:dT t)(it v:PL):Ul t it v=pure ():=by
 cases t<;>first|rfl|exact h.elim
section
variable{pl:Pl}{P:QP}{B:QI}{W W₁ Z V:P5->Prop}{fr:List Env}{φ φ' φ₁:az}{M M' M₁:AH}{s s' s₁:PM}
theorem St.drop(y:St pl P B W₁ fr φ M s₁)(hk:∀b o,s₁.heap.get? b=some o->¬Z b->s'.heap.get? b=some o)(hZ:∀b,Z b->W₁ b)(hF:∀env∈fr,∀L,env.frame=some L->¬Z L/\W L)(hW:∀b,W b->W₁ b/\¬Z b):St pl P B W fr φ M s':=by
 refine⟨y.hr.same (λ b o e n=>.inl (hk b o e λ q=>n (.inl (hZ b q)))) (λ b o q e=>hk b o e λ qv=>y.hr.EU b q (hZ b qv)) (λ b q=>.inl (hW b q).1),λ b o e=>hk b o (y.base b o e) (λ q=>by rw[y.EY b (hZ b q)] at e;cases e),
  jj (λ env he L o hf e=>hk L o e (hF env he L hf).1) y.frames,λ env he L hf=>(hF env he L hf).2,λ env he L hf=>let⟨o,e,c⟩:=y.GJ env he L hf;⟨o,hk L o e (hF env he L hf).1,c⟩,
  λ b q=>let⟨o,e⟩:=y.FK b (hW b q).1;⟨o,hk b o e (hW b q).2⟩,λ b q=>y.EY b (hW b q).1⟩
theorem av.drop(x:av V φ M s φ₁ M₁ s₁)(hk:∀b o,s₁.heap.get? b=some o->¬Z b->s'.heap.get? b=some o)(hZ:∀b,Z b->s.heap.get? b=none)(ho:s'.os=s₁.os)(hg:s'.gens=s₁.gens):av V φ M s φ₁ M₁ s':=by
 have nz:∀b o,s.heap.get? b=some o->¬Z b:=λ b o e q=>by rw[hZ b q] at e;cases e
 refine⟨x.pre,λ b o e n nv=> ?_,x.own,λ b o e=>let⟨o1,e1⟩:=x.alive b o e;⟨o1,hk b o1 e1 (nz b o e)⟩,ho.trans x.os,hg.trans x.gens⟩
 rcases x.keep b o e n nv with k|⟨c,sl,k⟩
 ·exact .inl (hk b o k (nz b o e))
 ·exact .inr ⟨c,sl,hk b _ k (nz b o e)⟩
theorem VR.drop(y:St pl P B W₁ fr φ M s₁)(hk:∀b o,s₁.heap.get? b=some o->¬Z b->s'.heap.get? b=some o)(hZ:∀b,Z b->W₁ b)(hW:∀b,W b->W₁ b)(r:VR pl P φ (ow W₁ φ M) s₁.heap x v):VR pl P φ (ow W φ M) s'.heap x v:=
 VR.mono (PB _) (λ b o e n=>.inl (hk b o e λ q=>n (.inl (hZ b q)))) (λ b q=>q.elim (λ q=>.inl (.inl (hW b q))) λ q=>.inl (.inr q)) r
theorem am.HH(y:St pl P B W₁ fr φ M s₁)(hk:∀b o,s₁.heap.get? b=some o->¬Z b->s'.heap.get? b=some o)(hZ:∀b,Z b->W₁ b)(hW:∀b,W b->W₁ b)(r:am pl P φ (ow W₁ φ M) s₁.heap x v):am pl P φ (ow W φ M) s'.heap x v:=
 am.mono (PB _) (λ b o e n=>.inl (hk b o e λ q=>n (.inl (hZ b q)))) (λ b q=>q.elim (λ q=>.inl (.inl (hW b q))) λ q=>.inl (.inr q)) r
end
section
variable{g:Gs}{A:Qz}{I ax:P5}{items:List PL}
theorem ng(hs:Qr I h h')(hI:∃o,h'.get? I=some o):(∀b o,h.get? b=some o->¬(b=I)->h'.get? b=some o)/\∀b o,h.get? b=some o->∃o',h'.get? b=some o':=
 ⟨λ b o e n=>hs.extBut b o n e,λ b o e=>by
  by_cases q:b=I
  ·subst q;exact hI
  ·exact⟨o,hs.extBut b o q e⟩⟩
inductive Cn(g:Gs)(tup:Bool)(I ax:P5)(items:List PL)(W:P5->Prop)(φ:az)(M:AH)(h:QI)(xs:List V):Prop
 |mk (i n:Nat):(if tup then h.IsTupleIter I ax i else h.IsListIter I ax i)->h.get? ax=some (if tup then iJ items n else bb items n)->¬ow W φ M ax->ax≠I->am g.pl g.w.params φ (ow W φ M) h xs (items.drop i)->Cn g tup I ax items W φ M h xs
theorem am.FA{pl:Pl}{P:QP}{φ:az}(r:am pl P φ o h (x::xs) (items.drop i)):∃v,items[i]? =some v/\VR pl P φ o h x v/\am pl P φ o h xs (items.drop (i+1)):=by
 obtain⟨v,t,e,r1,r2⟩:=r
 refine gu v ?_ r1 ?_
 ·have:=congrArg (λ l=>l[0]?) e
  simpa using this
 ·have:items.drop (i+1)=t:=by refine aE VQ ?_;refine aa e ?_;rfl
  refine aa this ?_;exact r2
theorem am.FL{pl:Pl}{P:QP}{φ:az}(r:am pl P φ o h [] (items.drop i)):items[i]? =none:=by
 have:items.length<=i:=WP.mp r
 exact TL this
theorem ig.seq:ig g A I (λ b=>b=I) dT (Cn g tup I ax items) where
 mono:=by
  rintro W W' φ φ' M M' h h' xs hp hk ho hI ⟨i,n,hit,hax,no,ne,rs⟩
  refine⟨i,n,?_,?_,λ q=>(ho _ q).elim no (dK hax),ne,rs.mono hp hk ho⟩
  ·cases tup
   ·refine bz hit λ o e c r=> ?_;clear hit;exact gu o ((hI _ o rfl e).eq (by refine aa c ?_;simp)) c r
   ·refine bz hit λ o e c r=> ?_;clear hit;exact gu o ((hI _ o rfl e).eq (by refine aa c ?_;simp)) c r
  ·exact(hk ax _ hax no).eq (by cases tup;exact .list;exact .tup)
 next:=by
  rintro W fr φ M s x xs E target Q hZ hF ht st ⟨i,n,hit,hax,no,ne,rs⟩ k
  refine bz rs.FA λ v hv r1 r2=> ?_
  have IT:items.toArray[i]? =some v:=by simpa using hv
  have fin:∀h',(if tup then h'.IsTupleIter I ax (i+1) else h'.IsListIter I ax (i+1))->Qr I s.heap h'->∃u,some v=some u/\PT (PY g.prog g.w) A (Ul target (.ref I) u) (λ zz s2=>Q u s2) E {s with heap:=h'}:=by
   intro h' E8 hs
   have hI:∃o,h'.get? I=some o:=by cases tup<;>(refine ai E8 λ o e zz=> ?_;clear E8;exact⟨o,e⟩)
   obtain⟨a1,a2⟩:=ng hs hI
   have Fh:∀b o,s.heap.get? b=some o->¬ow W φ M b->b7 o (h'.get? b):=λ b o e nb=>.inl (a1 b o e λ q=>nb (.inl (hZ b q)))
   refine aA v rfl ?_
   refine aa ((oP ht) _ _) ?_
   refine PD (k v _ (st.touched (Z:=λ b=>b=I) (s':={s with heap:=h'}) a1 hZ a2 hF) (.touched a1 a2 rfl rfl) (r1.mono (PB _) Fh λ b q=>.inl q) ⟨i+1,n,E8,a1 ax _ hax ne,no,ne,r2.mono (PB _) Fh λ b q=>.inl q⟩)
  cases tup
  ·exact Xk hit ⟨_,hax,rfl,_,rfl⟩ IT λ h' a b=>fin h' a b
  ·exact wpAny_pyNext_tuple_item hit ⟨_,hax,rfl,_,rfl⟩ IT λ h' a b=>fin h' a b
 done:=by
  rintro W φ M s E Q hh ⟨i,n,hit,hax,no,ne,rs⟩ k
  have IT:items.toArray[i]? =none:=by have:=rs.FL;simpa using this
  cases tup
  ·exact XF hh hit ⟨_,hax,rfl,_,rfl⟩ IT λ h' a=>k h' s.toks λ b o e nb=>a b o nb e
  ·exact wpAny_pyNext_tuple_end hh hit ⟨_,hax,rfl,_,rfl⟩ IT λ h' a=>k h' s.toks λ b o e nb=>a b o nb e
 again:=by
  rintro W φ M s xs E Q ⟨i,n,hit,hax,no,ne,rs⟩ k
  cases tup
  ·exact wpAny_pyIter_listiter hit k
  ·exact wpAny_pyIter_tupleiter hit k
inductive Cq(I:P5)(c:Nat)(W:P5->Prop)(φ:az)(M:AH)(h:QI)(xs:List V):Prop
 |mk (a:Int) (n:Nat):xs=aZ a c n->IsRangeIter h I a n c->Cq I c W φ M h xs
theorem ig.Fy:ig g A I (λ b=>b=I) dT (Cq I c) where
 mono:=by
  rintro W W' φ φ' M M' h h' xs hp hk ho hI ⟨a,n,e,hit⟩
  exact⟨a,n,e,(hI _ _ rfl hit).eq (by simp)⟩
 next:=by
  rintro W fr φ M s x xs E target Q hZ hF ht st ⟨a,n,e,hit⟩ k
  cases n with
  |zero=>cases e
  |succ n=>
   cases e
   refine wpAny_pyNext_range_item hit (ae 0x14e06146001 rfl n) λ h' E8 hs=>⟨_,rfl,?_⟩
   obtain⟨a1,a2⟩:=ng hs ⟨_,E8⟩
   refine aa ((oP ht) _ _) ?_
   refine PD (k _ _ (st.touched (Z:=λ b=>b=I) (s':={s with heap:=h',toks:=s.toks+1}) a1 hZ a2 hF) (.touched a1 a2 rfl rfl) (VR.i ⟨_,rfl⟩) ⟨a+c,n,rfl,?_⟩)
   have e2:((n+1:Nat):Int)-1=(n:Int):=ae 0x63910a138185101 rfl n
   rw[e2] at E8
   exact E8
 done:=by
  rintro W φ M s E Q hh ⟨a,n,e,hit⟩ k
  cases n with
  |zero=>exact wpAny_pyNext_range_end hh hit (ae 0x1203a000 rfl) λ h' a=>k h' s.toks λ b o e nb=>a b o nb e
  |succ n=>cases e
 again:=by
  rintro W φ M s xs E Q ⟨a,n,e,hit⟩ k
  exact wpAny_pyIter_rangeiter hit k
inductive Cx(g:Gs)(I d:P5)(kvs:List (Str×PL))(ep:Nat)(W:P5->Prop)(φ:az)(M:AH)(h:QI)(xs:List V):Prop
 |mk (i:Nat) (ks:List String):h.IsKeyIter I d i kvs.length ep->h.DictAt (Un g.prog g.w) d kvs ep->(∃es m,h.get? d=some (QO es m))->¬ow W φ M d->d≠I->xs=ks.map .str->(kvs.drop i).map (·.1)=ks.map PF->(∀k∈ks,k.length<=ar)->Cx g I d kvs ep W φ M h xs
theorem ig.keys:ig g A I (λ b=>b=I) dT (Cx g I d kvs ep) where
 mono:=by
  rintro W W' φ φ' M M' h h' xs hp hk ho hI ⟨i,ks,hit,hd,⟨es,m,hg⟩,no,ne,e,ek,hl⟩
  have No:h'.get? d=some (QO es m):=(hk d _ hg no).eq .dict
  refine⟨i,ks,?_,hd.at λ o e=> ?_,⟨es,m,No⟩,λ q=>(ho _ q).elim no (dK hg),ne,e,ek,hl⟩
  ·refine bz hit λ o e c r=> ?_;clear hit;exact gu o ((hI _ o rfl e).eq (by refine aa c ?_;simp)) c r
  ·rw[hg] at e;cases e;exact No
 next:=by
  rintro W fr φ M s x xs E target Q hZ hF ht st ⟨i,ks,hit,hd,⟨es,m,hg⟩,no,ne,e,ek,hl⟩ k
  cases ks with
  |nil=>cases e
  |cons k0 ks=>
   cases e
   cases hdr:kvs.drop i with
   |nil=>rw[hdr] at ek;cases ek
   |cons p r=>
    rw[hdr] at ek
    obtain⟨pk,pv⟩:=p
    simp only [PR,WQ] at ek
    obtain⟨Pr,Pq⟩:=ek
    have hx:kvs[i]? =some (pk,pv):=by
     have:=congrArg (λ l=>l[0]?) hdr
     simpa using this
    refine wpAny_pyNext_dict_item hit hd hx λ key h' Lz E8 hs=>⟨key,rfl,?_⟩
    refine ai (id E8) λ o eo zz=> ?_
    obtain⟨a1,a2⟩:=ng hs ⟨o,eo⟩
    refine aa ((oP ht) _ _) ?_
    obtain⟨t,rfl⟩:=T5 Lz
    refine PD (k _ _ (st.touched (Z:=λ b=>b=I) (s':={s with heap:=h'}) a1 hZ a2 hF) (.touched a1 a2 rfl rfl) (VR.s ⟨hl _ (.head _),t,by refine aa Pr ?_;rfl⟩) ⟨i+1,ks,E8,hd.extBut hs.extBut ne,⟨es,m,a1 d _ hg ne⟩,no,ne,rfl,?_,λ z hz=>hl z (.tail _ hz)⟩)
    have:kvs.drop (i+1)=r:=by refine aE VQ ?_;refine aa hdr ?_;rfl
    refine aa this ?_;exact Pq
 done:=by
  rintro W φ M s E Q hh ⟨i,ks,hit,hd,⟨es,m,hg⟩,no,ne,e,ek,hl⟩ k
  cases ks with
  |cons _ _=>cases e
  |nil=>
   have hlen:kvs.length<=i:=by
    have:=congrArg Q4 ek
    simp at this;exact ae 0x905244380249102 rfl kvs.length i this
   exact wpAny_pyNext_dict_end hh hit hd (TL hlen) λ h' a=>k h' s.toks λ b o e nb=>a b o nb e
 again:=by
  rintro W φ M s xs E Q ⟨i,ks,hit,_⟩ k
  exact wpAny_pyIter_keyiter hit k
end
inductive IQ(g:Gs)(A:Qz)(W:P5->Prop)(fr:List Env)(tg:Qa->Prop)(φ:az)(M:AH)(s:PM)(Q:List V->AH->Prop)(iv:PL)(s':PM):Prop
 |mk (I:P5) (Z:P5->Prop) (S:(P5->Prop)->az->AH->QI->List V->Prop) (xs:List V) (φ':az) (M':AH):iv=.ref I->Q xs M'->St g.pl g.w.params g.B (λ b=>W b∨Z b) fr φ' M' s'->av bt φ M s φ' M' s'->ig g A I Z tg S->(∀b,Z b->s.heap.get? b=none/\∃o,s'.heap.get? b=some o)->S (λ b=>W b∨Z b) φ' M' s'.heap xs->IQ g A W fr tg φ M s Q iv s'
noncomputable def fy(g:Gs)(Γ:aH)(N:Nm)(n:Nat)(it:It)(x:Qa)(tg:Qa->Prop):Prop:=
 ∀W A fr env ρ φ M s Q X E0,cj A fr n->env.scope.names=N->aC g.pl g.w.params W Γ env ρ φ M s.heap->St g.pl g.w.params g.B W fr φ M s->
  zr g.pl.P (ag g.pl.P n) it ρ M Q X->(∀v s',LX g.pl g.w.params g.B W fr g.cls φ M s X v s'->E0 v s')->
  PT (PY g.prog g.w) A (eval x env) (λ v s1=>PT (PY g.prog g.w) A (Xv v) (IQ g A W fr tg φ M s Q) E0 s1) E0 s
section
variable{g:Gs}{tb:Tb}{K:RH}{Γ:aH}{N:Nm}{n:Nat}{W:P5->Prop}{A:Qz}{fr:List Env}{env:Env}{ρ:an}{φ φ0:az}{M M0:AH}{s s0:PM}{E0:PL->PM->Prop}
theorem IQ.push{Q:List V->AH->Prop}{o:Obj}{t:Nat}{tg:Qa->Prop}{S:(P5->Prop)->az->AH->QI->List V->Prop}{xs:List V}(hf:o.isFreed=false)(st:St g.pl g.w.params g.B W fr φ M s)(sp:av bt φ0 M0 s0 φ M s)(q:Q xs M)(it:ig g A s.heap.objs.size (λ b=>b=s.heap.objs.size) tg S)
  (hS:∀W' h',(∀b,W' b->W b∨s.heap.objs.size=b)->h'.get? s.heap.objs.size=some o->(∀b o,s.heap.get? b=some o->h'.get? b=some o)->S W' φ M h' xs):IQ g A W fr tg φ0 M0 s0 Q (.ref s.heap.objs.size) {s with heap:=s.heap.push o,toks:=t}:=by
 have hk:∀b o',s.heap.get? b=some o'->(s.heap.push o).get? b=some o':=λ b o' e=>PC _ e
 have EB:St g.pl g.w.params g.B (λ b=>W b∨b=s.heap.objs.size) fr φ M {s with heap:=s.heap.push o,toks:=t}:=
  st.ext (N:=λ b=>b=s.heap.objs.size) hk λ b q=>by subst q;exact⟨aT (PE _),_,PP _ hf⟩
 exact⟨_,_,S,xs,φ,M,rfl,q,EB,sp.trans (.ext hk rfl rfl),it,λ b e=>by subst e;exact⟨sp.dead (aT (PE _)),_,PP _ hf⟩,hS _ _ (λ b q=>q.imp id Eq.symm) (PP _ hf) hk⟩
theorem tB(st:St g.pl g.w.params g.B W fr φ M s)(hW:∀b,W' b->W b∨s.heap.objs.size=b):∀b,ow W' φ M b->ow W φ M b∨s.heap.get? b=none:=
 λ b q=>q.elim (λ q=>(hW b q).elim (λ q=>.inl (.inl q)) λ q=>.inr (aT (RU q))) λ q=>.inl (.inr q)
theorem qV(st:St g.pl g.w.params g.B W fr φ M s)(hW:∀b,W' b->W b∨s.heap.objs.size=b)(no:¬ow W φ M a)(gg:s.heap.get? a=some o):¬ow W' φ M a:=
 λ q=>(tB st hW a q).elim no λ e=>by rw[gg] at e;cases e
theorem wO{tup:Bool}{a:P5}{us:List V}{xs:List PL}{m:Nat}{Q:List V->AH->Prop}{t:Nat}{o:Obj}(hf:o.isFreed=false)(st:St g.pl g.w.params g.B W fr φ M s)(sp:av bt φ0 M0 s0 φ M s)(q:Q us M)(no:¬ow W φ M a)
  (gg:s.heap.get? a=some (if tup then iJ xs m else bb xs m))(rs:am g.pl g.w.params φ (ow W φ M) s.heap us xs)(hI:∀h':QI,h'.get? s.heap.objs.size=some o->if tup then h'.IsTupleIter s.heap.objs.size a 0 else h'.IsListIter s.heap.objs.size a 0):
  IQ g A W fr dT φ0 M0 s0 Q (.ref s.heap.objs.size) {s with heap:=s.heap.push o,toks:=t}:=
 IQ.push hf st sp q (ig.seq (tup:=tup) (ax:=a) (items:=xs)) λ W' h' hW e hk=>⟨0,m,hI h' e,hk _ _ gg,qV st hW no gg,S5 (Qb gg),rs.mono (PB _) (λ b o e _=>.inl (hk b o e)) (tB st hW)⟩
theorem fy.it(h:aj g Γ N n e x):fy g Γ N n (.it e) x dT:=by
 intro W A fr env ρ φ M s Q X E0 hA hN er st hw hE
 refine aS (α:=Unit) h hA hN er st hw (λ v y s1 φ1 M1 q1 Et Ep EC r1=> ?_) hE
 clear hw er st EC h hA
 refine ai (aD q1) λ vs hv q=> ?_
 cases y<;>first|exact au hv|skip
 ·cases hv
  obtain⟨a,xs,m,rfl,no,gg,hl,rs⟩:=r1
  exact Yk ⟨_,gg,rfl,m,rfl⟩ (wO (tup:=true) (t:=s1.toks) rfl Et Ep q no gg rs λ h' e=>⟨_,e,rfl,rfl⟩)
 ·cases hv
  obtain⟨a,xs,m,rfl,no,gg,hl,rs⟩:=r1
  exact VB (dE gg) (wO (tup:=false) (t:=s1.toks) rfl Et Ep q no gg rs λ h' e=>⟨_,e,rfl,rfl⟩)
theorem fy.keys(h:aj g Γ N n e x):fy g Γ N n (.keys e) x dT:=by
 intro W A fr env ρ φ M s Q X E0 hA hN er st hw hE
 refine aS (α:=Unit) h hA hN er st hw (λ v y s1 φ1 M1 q1 Et Ep EC r1=> ?_) hE
 refine ai (aD q1) λ d hd q1=> ?_
 cases rZ hd
 obtain⟨a,es,m,rfl,no,gg,hl,ke,rs⟩:=r1
 obtain⟨ep,FU⟩:=(gN (prog:=g.prog) (w:=g.w) gg (cJ hl.nd) ke).dictAt
 refine wpAny_pyIter_dict hl.1 FU (IQ.push (t:=s1.toks) rfl Et Ep q1 (ig.keys (d:=a) (kvs:=(d.1.map PF).zip (es.map (·.val))) (ep:=ep)) λ W' h' hW e hk=>⟨0,d.1,⟨_,e,rfl,rfl⟩,FU.keep hk,⟨es,m,hk _ _ gg⟩,qV Et hW no gg,S5 (Qb gg),rfl,eT (by refine aa (PG _) ?_;exact cB ke),hl.str⟩)
theorem tx(hc:0<c):SM a b c=if a<b then(b-a-1)/c+1 else 0:=by
 unfold SM
 refine aa (if_pos hc) ?_;rfl
theorem gK(h:cm i=true): -(2^29)<i/\i<2^29:=by
 have:=of_decide_eq_true h
 exact ae 0x91c58741fd1151361d07f0a1d07f39110 rfl i this
theorem we(hc:0<c)(ha:cm a=true)(hb:cm b=true)(Go:cm c=true):Vk a b c=true:=by
 have:=gK ha
 have:=gK hb
 have:=gK Go
 unfold Vk
 refine aa (tx hc) ?_
 simp only [YS,P1,SN,decide_eq_true_eq,beq_iff_eq,show c>0 from hc,if_true]
 split
 ·have h1:(b-a-1)/c<=b-a-1:=Int.ediv_le_self _ (by(rename_i z0;exact ae 0x910284245280549120 rfl a b z0))
  have h2:0<=(b-a-1)/c:=X9 (by(rename_i z0;exact ae 0x910284245280549120 rfl a b z0)) (by exact ae 0x911180546010 rfl c hc)
  (rename_i z0 z1 z2;exact ae 0x92492491c81c58fc1fc10a14d21010a14d2363f07f1a00615071c58fc1fc1854101854363f07f1c7163f07f4c44cd8fc1fc71c58fc1fd2112363f07f1c58fc1fd1111363f07f1148040a10914941c58741fd3153361d07f1c58741fd2152361d07f1c58741fd1151361d07f40 rfl a b c ((b-a-1)/c) z0 z1 this h1 h2)
 ·(rename_i z0 z1 z2;exact ae 0x92491c81c58fc1fc10a14d21010a14d2363f07f1a08071c58fc1fe0120363f07f1c7163f07f4c44cd8fc1fc71c58fc1fd2112363f07f1c58fc1fd1111363f07f1c58741fd3153361d07f1c58741fd2152361d07f1c58741fd1151361d07f30 rfl a b c z0 z1 this)
theorem Ak(hc:0<c):((if a<b then((b-a-1)/c+1).toNat else 0:Nat):Int)=SM a b c:=by
 refine aa (tx hc) ?_
 split
 ·have h2:0<=(b-a-1)/c:=X9 (by(rename_i z0;exact ae 0x910284245280549120 rfl a b z0)) (by exact ae 0x911180546010 rfl c hc)
  exact ae 0x918185138d06144446010 rfl ((b-a-1)/c) h2
 ·rfl
theorem l4{a b c:Int}{t u v:Tok}{tk:Nat}{Q:List V->AH->Prop}(st:St g.pl g.w.params g.B W fr φ M s)(sp:av bt φ0 M0 s0 φ M s)(hc:0<c)(ha:cm a=true)(hb:cm b=true)(Go:cm c=true)
  (q:Q (aZ a c.toNat (if a<b then((b-a-1)/c+1).toNat else 0)) M):
  PT (PY g.prog g.w) A (Xv (.ref s.heap.objs.size)) (IQ g A W fr dT φ0 M0 s0 Q) E0 {s with heap:=s.heap.push {cls:=.type "range",data:=.fields #[.int a t,.int b u,.int c v]},toks:=tk}:=by
 have hk:∀b' o',s.heap.get? b'=some o'->(s.heap.push {cls:=.type "range",data:=.fields #[.int a t,.int b u,.int c v]}).get? b'=some o':=λ b' o' e=>PC _ e
 obtain⟨EB,EA⟩:=jG (t:=tk) hk st
 refine wpAny_pyIter_range (IsRange.new _ a b c t u v) (we hc ha hb Go) (IQ.push (t:=tk) rfl EB (sp.trans EA) q (ig.Fy (c:=c.toNat)) λ W' h' hW e hk=>⟨a,_,rfl,?_⟩)
 show h'.get? _=_
 refine aa e ?_;refine aa (Ak hc) ?_
 refine aa (Ur (by exact ae 0x911180546010 rfl c hc)) ?_;rfl
theorem fy.Fy(fx:Fx g tb K)(h:dC g Γ N n es xs)(hx:xs.all aw=true)(hb:dG N x (.type "range")=true):fy g Γ N n (.Fy es) (.Call (.Name x p) xs [] pos) dT:=by
 intro W A fr env ρ φ M s Q X E0 hA hN er st hw hE
 refine gO fx hN er st (cE hb).1 (cE hb).2 hx (qH h hA hN er st hw (λ vs ys s1 φ1 M1 q1 _ Et Ep EC r1=> ?_) hE)
 refine bz (aD q1) λ is hi zz q=> ?_
 obtain⟨js,hj,hi⟩:=aP hi
 have hI:=mj hj r1
 clear r1 hj EC er hw h hx hb hE q1
 cases hI with
 |nil=>exact au hi
 |cons a t hI=>
 cases hI with
 |nil=>
  obtain⟨hl,e⟩:=eI hi
  cases e
  refine call_range_1 (l4 (a:=0) (b:=a) (c:=1) Et Ep (by decide) (by decide) hl (by decide) ?_)
  refine aa (show(if(0:Int)<a then((a-0-1)/1+1).toNat else 0)=a.toNat by split<;>(first|refine aa (WF _) ?_;refine aa (U4 _) ?_;refine aa (Xq _ _) ?_;rfl|(rename_i z0;exact ae 0x24335180980546010 rfl a z0))) ?_;exact q
 |cons k u hI=>
 cases hI with
 |nil=>
  obtain⟨hl,e⟩:=eI hi
  cases e
  refine call_range_2 (l4 (a:=a) (b:=k) (c:=1) Et Ep (by decide) (af hl).1 (af hl).2 (by decide) ?_)
  refine aa (show(if a<k then((k-a-1)/1+1).toNat else 0)=(k-a).toNat by split<;>(first|refine aa (WF _) ?_;refine aa (Xq _ _) ?_;rfl|(rename_i z0;exact ae 0x24334245280980549120 rfl a k z0))) ?_;exact q
 |cons c v hI=>
 cases hI with
 |cons _ _ _=>exact au hi
 |nil=>
  obtain⟨hl,e⟩:=eI hi
  cases e
  obtain⟨hl,h3⟩:=af hl
  obtain⟨hl,h2⟩:=af hl
  obtain⟨h0,h1⟩:=af hl
  have b1:=gK h1
  have b2:=gK h2
  have b3:=gK h3
  have h0:=aJ h0
  refine call_range_3 (by lia) (l4 Et Ep h0 h1 h2 h3 q) (.inl (PyProof.noPylong_small (by(rename_i z0 z1 z2 z3 z4;exact ae 0x90a1e07f3911c58741fd1151361d07f10 rfl c b3))))
end
noncomputable def dw(N:Nm)(x:Str):Bool:=N.lookup x==some .local||N.lookup x==some .cell
noncomputable def qZ(Γ:aH)(N:Nm):List Nat->List Qa->Bool
 |[],es=>bW es
 |i::is,es=>cy es λ e es=>cx e λ x zz=>Γ.lookup x==some i&&(dw N x&&qZ Γ N is es)
noncomputable def Bv(e:Qa):List Str:=if h:e.ctorIdx=23 then R3 (motive_1:=λ zz=>List Str) e h λ x zz=>[x] else[]
noncomputable def fh:List Qa->List Str
 |e::es=>Bv e++fh es
 |[]=>[]
noncomputable def cY(e:Qa):List Str:=if h:e.ctorIdx=25 then Re (motive_1:=λ zz=>List Str) e h λ es zz zz=>fh es else Bv e
noncomputable def cS(Γ:aH)(N:Nm)(t:jp)(e:Qa):Bool:=match t with
 |.one i=>cx e λ x zz=>Γ.lookup x==some i&&dw N x
 |.many is=>oF e λ es zz zz=>qZ Γ N is es
inductive nT(Γ:aH)(N:Nm):List Nat->List Qa->Prop
 |nil:nT Γ N [] []
 |cons {i:Nat} {is:List Nat} {x:Str} {p:Pos} {es:List Qa}:Γ.lookup x=some i->dw N x=true->nT Γ N is es->nT Γ N (i::is) (.Name x p::es)
theorem wF:∀{is:List Nat} {es:List Qa},qZ Γ N is es=true->nT Γ N is es:=by
 intro is
 induction is with
 |nil=>
  intro y1 h
  exact bl h .nil
 |cons y2 is ih=>
  intro y3 h
  exact bK h λ e es h=>bR (mo:=λ e=>nT Γ N _ (e::es)) h λ x p h=>.cons (aq (af h).1) (af (af h).2).1 (ih (af (af h).2).2)
inductive Ct(Γ:aH)(N:Nm):jp->Qa->Prop
 |one {i:Nat} {x:Str} {p:Pos}:Γ.lookup x=some i->dw N x=true->Ct Γ N (.one i) (.Name x p)
 |many {is:List Nat} {es:List Qa} {k:Nat} {p:Pos}:nT Γ N is es->Ct Γ N (.many is) (.Tuple es k p)
theorem oM(h:cS Γ N t e=true):Ct Γ N t e:=by
 cases t with
 |one i=>exact bR h λ x p h=>.one (aq (af h).1) (af h).2
 |many is=>exact nh h λ es k p h=>.many (wF h)
section
variable{g:Gs}{tb:Tb}{K:RH}{Γ:aH}{N:Nm}{n:Nat}{W:P5->Prop}{A:Qz}{fr:List Env}{env:Env}{ρ ρ':an}{φ φ0:az}{M M0:AH}{s s0:PM}{E0:PL->PM->Prop}{Md:TZ}
theorem aC.FX(er:aC g.pl g.w.params W Γ env ρ φ M s.heap):∀b,EQ env b->W b:=by
 rintro b (q|⟨x,hx,hc⟩)
 ·refine aa q ?_;exact er.Ff
 ·obtain⟨c,v,h1,h2,_⟩:=er.cell x (.inl hx)
  rw[hc] at h1;cases h1;exact h2
theorem w0(Ft:t≠it):∀(n i:Nat) (s:PM) (Q:List PL->PM->Prop),s.heap.IsListIter it t i->s.heap.IsList t items->i+n<=items.size->
  (∀h',h'.IsListIter it t (i+n)->Qr it s.heap h'->Q ((items.toList.drop i).take n) {s with heap:=h'})->PT (PY g.prog g.w) A (draw (.ref it) n) Q E0 s:=by
 intro n
 induction n with
 |zero=>
  intro i s Q hit y1 y2 hQ
  exact PD (by simpa using hQ s.heap hit (Heap.SameBut.refl ..))
 |succ n ih=>
  intro i s Q hit ht hle hQ
  have EO:i<items.size:=ae 0x90934414c106149103 rfl i n items.size hle
  show PT _ _ (WR (.ref it)>>=_) Q E0 s
  refine PA (Xk hit ht (x:=items[i]) (by simp[EO]) λ h₁ I0 GW=> ?_)
  refine PA (Qu (ih (i+1) _ _ I0 (ht.extBut GW.extBut Ft) (ae 0x90530520614414c106149103 rfl i n items.size hle) λ h₂ LD Hs=>PD ?_))
  have hd:items.toList.drop i=items[i]::items.toList.drop (i+1):=by simp[VW,EO]
  have:=hQ h₂ (by refine aa (show i+(n+1)=i+1+n by exact ae 0x305206144106149102 rfl i n) ?_;exact LD) (GW.trans Hs)
  rw[hd,List.take_succ_cons] at this
  exact this
theorem sx(hh:A.handled=none)(ht:s.heap.IsList t items)
  (hQ:∀h',Heap.ExtBut s.heap.objs.size s.heap h'->Q items.toList {s with heap:=h'}):PT (PY g.prog g.w) A (XZ (.ref t) items.size none) Q E0 s:=by
 have EO:t≠s.heap.objs.size:=by refine ai ht λ o ho zz=> ?_;clear ht;exact S5 (Qb ho)
 unfold XZ
 refine PA ?_
 unfold notIterableAtAll
 refine PA (wpAny_specialOf ht.typeIs slot_list_iter.lookup (PD ?_))
 simp only [P6,if_false]
 refine PA (Qu (VB ht ?_))
 refine PA (Qu (w0 EO items.size 0 _ _ ⟨_,PP _ rfl,rfl,rfl⟩ (ht.push _) (ae 0x144146001 rfl items.size) λ h₁ I0 GW=> ?_))
 have LS:TH items.size (List.drop 0 items.toList)=items.toList:=by refine aa X8 ?_;exact Qg (by simp)
 refine aa LS ?_;refine aa (if_neg (by simp)) ?_
 refine PA (Qu (XF hh I0 ((ht.push _).extBut GW.extBut EO) (by simp) λ h₂ J0=> ?_))
 simp only [WJ,P6,if_false]
 exact PD (hQ h₂ λ b o hb e=>J0 b o hb (GW.extBut b o hb (PC _ e)))
theorem iW(hh:A.handled=none)(st:St g.pl g.w.params g.B W fr φ M s)(r:VR g.pl g.w.params φ (ow W φ M) s.heap x v)(hi:ri x=some vs)(hk:k=vs.length)
  (hQ:∀us h',(∀b o,s.heap.get? b=some o->h'.get? b=some o)->am g.pl g.w.params φ (ow W φ M) s.heap vs us->Q us {s with heap:=h'}):PT (PY g.prog g.w) A (XZ v k none) Q E0 s:=by
 cases x<;>first|exact au hi|skip
 ·cases hi
  obtain⟨a,xs,m,rfl,_,gg,_,rs⟩:=r
  refine aa (show k=xs.toArray.size from hk.trans (rs.length.symm.trans PX.symm)) ?_
  exact wpAny_unpackItems_tuple hh ⟨_,gg,rfl,m,rfl⟩ λ h' he=>hQ xs h' (λ b o q=>he b o (S5 (Qb q)) q) rs
 ·cases hi
  obtain⟨a,xs,m,rfl,_,gg,_,rs⟩:=r
  refine aa (show k=xs.toArray.size from hk.trans (rs.length.symm.trans PX.symm)) ?_
  exact sx hh (dE gg) λ h' he=>hQ xs h' (λ b o q=>he b o (S5 (Qb q)) q) rs
theorem aC.ext(er:aC g.pl g.w.params W Γ env ρ φ M s.heap)(hk:∀b o,s.heap.get? b=some o->h'.get? b=some o):aC g.pl g.w.params W Γ env ρ φ M h':=by
 refine⟨er.kind,er.glob,er.bi,er.inj,er.Ff,?_,λ n hn=> ?_,er.apart⟩
 ·obtain⟨m,hm,hl⟩:=er.loc
  exact⟨m,hm.keeps hk,λ n i hi hx=>(hl n i hi hx).mono (PB _) (λ b o e zz=>.inl (hk b o e)) λ zz q=>.inl q⟩
 ·obtain⟨c,v,hc,hw,EE,hr⟩:=er.cell n hn
  exact⟨c,v,hc,hw,EE.keeps hk,λ i hi=>(hr i hi).mono (PB _) (λ b o e zz=>.inl (hk b o e)) λ zz q=>.inl q⟩
theorem nE(hN:env.scope.names=N)(h:dw N x=true):env.kindOf x=some .local∨env.kindOf x=some .cell:=by
 unfold RF
 refine aa hN ?_
 unfold dw at h
 rw[SN,beq_iff_eq,beq_iff_eq] at h
 exact h
theorem vQ(hN:env.scope.names=N)(h:nT Γ N is es):∀{vs:List V} {xs:List PL} {ρ ρ':an} {s:PM} {Q:Unit->PM->Prop},aC g.pl g.w.params W Γ env ρ φ M s.heap->St g.pl g.w.params g.B W fr φ M s->
  am g.pl g.w.params φ (ow W φ M) s.heap vs xs->ρ.Fp is vs=some ρ'->(∀s',aC g.pl g.w.params W Γ env ρ' φ M s'.heap->St g.pl g.w.params g.B W fr φ M s'->av (bu env (fh es)) φ M s φ M s'->Q () s')->
  PT Md A (assignInOrder ((TF es env).map (·.2)) xs) Q E0 s:=by
 induction h with
 |nil=>
  intro vs xs ρ ρ' s Q er st rs hp k
  cases vs with
  |cons _ _=>exact au hp
  |nil=>cases hp;exact PD (k s er st .refl)
 |cons h1 h2 _ ih=>
  intro vs xs ρ ρ' s Q er st rs hp k
  cases vs with
  |nil=>exact au hp
  |cons v vs=>
   obtain⟨u,us,rfl,r1,r2⟩:=rs
   refine PA (Qu (YH (fG er st h1 (nE hN h2) r1 λ s1 EC Et Ep=> ?_)))
   exact ih EC Et (r2.step Ep λ b q=>er.FX b (bu.EQ q)) hp λ s2 ET EB EA=>k s2 ET EB ((Ep.mono λ b q zz=>bu.sub (λ y hy=>TV _ hy) q).trans (EA.mono λ b q zz=>bu.sub (λ y hy=>Wu _ hy) q))
theorem l5:∀{is:List Nat} {vs:List V} {ρ ρ':an},ρ.Fp is vs=some ρ'->is.length=vs.length:=by
 intro is
 induction is with
 |nil=>
  intro y1
  cases y1 with
  |nil=>
   intro y2 y3 y4
   exact rfl
  |cons y5 y6=>
   intro y7 y8 h
   exact au h
 |cons i is ih=>
  intro y9
  cases y9 with
  |nil=>
   intro G2 Gv h
   exact au h
  |cons v vs=>
   intro ρ ρ' h
   exact congrArg (· +1) (ih (vs:=vs) (ρ:=ρ.put i v) h)
structure El(env:Env)(is:List Nat)(es:List Qa):Prop where
 len:es.length=is.length
 each:(TF es env).length=is.length
 find:(TF es env).findIdx? (·.1)=none
theorem uU(env:Env)(h:nT Γ N is es):El env is es:=by
 induction h with
 |nil=>exact⟨rfl,rfl,rfl⟩
 | @cons i is x p es h1 h2 _ ih=>
  refine⟨congrArg (· +1) ih.len,congrArg (· +1) ih.each,?_⟩
  show((false,Xw (.Name x p) env)::TF es env).findIdx? (·.1)=none
  refine aa List.findIdx?_cons ?_;refine aa ih.find ?_;rfl
theorem iF(hm:cS Γ N t target=true)(hh:A.handled=none)(hN:env.scope.names=N)(er:aC g.pl g.w.params W Γ env ρ φ M s.heap)(st:St g.pl g.w.params g.B W fr φ M s)(r:VR g.pl g.w.params φ (ow W φ M) s.heap x v)
  (hb:dF t x ρ=some ρ')(k:∀s',aC g.pl g.w.params W Γ env ρ' φ M s'.heap->St g.pl g.w.params g.B W fr φ M s'->av (bu env (cY target)) φ M s φ M s'->Q () s'):PT (PY g.prog g.w) A (Xw target env v) Q E0 s:=by
 cases oM hm with
 |one h1 h2=>
  cases hb
  exact YH (fG er st h1 (nE hN h2) r k)
 | @many is es a pos hq=>
  obtain⟨vs,hi,hp⟩:=aP hb
  have hl:=uU env hq
  show PT _ _ (Sy pos>>=λ zz=>unpack v (TF es env)) _ _ _
  refine PA (QH ?_)
  unfold unpack
  refine aa hl.each ?_;refine aa hl.find ?_
  refine PA (Qu (iW hh st r hi (l5 hp) λ us h' hk rs=> ?_))
  have Et:St g.pl g.w.params g.B W fr φ M {s with heap:=h'}:=st.Gp hk
  exact vQ (s:={s with heap:=h'}) hN hq (er.ext hk) Et (rs.ext hk) hp λ s2 ET EB EA=>k s2 ET EB ((av.ext (s':={s with heap:=h'}) hk rfl rfl).trans EA)
end
noncomputable def bd(g:Gs)(Γ:aH)(N:Nm)(n:Nat)(st:S)(x:Sd):Prop:=
 ∀W A fr env ρ φ M s Nx R X L,cj A (env::fr) n->env.scope.names=N->env.frame=some L->aC g.pl g.w.params W Γ env ρ φ M s.heap->St g.pl g.w.params g.B W (env::fr) φ M s->
  Dp g.pl.P (ag g.pl.P n) st ρ M Nx R X->PT (PY g.prog g.w) A (exec x env) (FQ g.pl g.w.params g.B W (env::fr) Γ env φ M s Nx R) (d5 g.pl g.w.params g.B W (env::fr) g.cls (EQ env) φ M s X) s
section
variable{g:Gs}{tb:Tb}{K:RH}{Γ:aH}{N:Nm}{n:Nat}{W V:P5->Prop}{A:Qz}{fr:List Env}{env:Env}{ρ ρ':an}{φ φ1 φ0:az}{M M1 M0:AH}{s s1 s0:PM}{E0:PL->PM->Prop}{Md:TZ}
theorem FQ.step(x:av (EQ env) φ M s φ1 M1 s1):∀f s',FQ g.pl g.w.params g.B W fr Γ env φ1 M1 s1 Nx R f s'->FQ g.pl g.w.params g.B W fr Γ env φ M s Nx R f s':=by
 intro f s' h
 cases f with
 |next=>obtain⟨ρ',φ',M',q,er,st,sp⟩:=h;exact⟨ρ',φ',M',q,er,st,x.trans sp⟩
 |ret v=>obtain⟨y,φ',M',q,st,sp,r⟩:=h;exact⟨y,φ',M',q,st,x.trans sp,r⟩
 |_=>exact h.elim
theorem d5.step(x:av V φ M s φ1 M1 s1):∀v s',d5 g.pl g.w.params g.B W fr g.cls V φ1 M1 s1 X v s'->d5 g.pl g.w.params g.B W fr g.cls V φ M s X v s':=
 λ zz zz h=>h.casesOn λ e φ' M' a b c d f=>⟨e,φ',M',a,b,c,x.trans d,f.le λ zz q=>x.dead q⟩
theorem LX.p:∀v s',LX g.pl g.w.params g.B W fr g.cls φ M s X v s'->d5 g.pl g.w.params g.B W fr g.cls V φ M s X v s':=
 λ zz zz h=>h.casesOn λ e φ' M' a b c d f=>⟨e,φ',M',a,b,c,d.wide,f⟩
theorem dZ.nil:dZ g Γ N n .nil []:=by
 intro W A fr env ρ φ M s Nx R X L hA hN hL er st hw
 exact RL ⟨ρ,φ,M,hw,er,st,.refl⟩
theorem dZ.cons{x:S}{r:Ss}{y:Sd}{ys:List Sd}(h1:bd g Γ N n x y)(h2:dZ g Γ N n r ys):dZ g Γ N n (.cons x r) (y::ys):=by
 intro W A fr env ρ φ M s Nx R X L hA hN hL er st hw
 refine R1 (PW (h1 W A fr env ρ φ M s _ R X L hA hN hL er st hw) (λ f s1 h=> ?_) λ zz zz e=>e)
 cases f with
 |next=>
  obtain⟨ρ',φ',M',q,EC,Et,Ep⟩:=h
  exact PW (h2 W A fr env ρ' φ' M' s1 Nx R X L hA hN hL EC Et q) (FQ.step Ep) (d5.step Ep)
 |ret v=>exact h
 |_=>exact h.elim
theorem fz(M:AH)(x:Mine.V):(bf M x).2=M∨∃i,(bf M x).2=M.kill i:=by
 cases x with
 |ref i=>
  show(Yn ((M.m i).bind mq) (V.ref i,M) λ v=>(v,M.kill i)).2=M∨∃j,(Yn ((M.m i).bind mq) (V.ref i,M) λ v=>(v,M.kill i)).2=M.kill j
  cases(M.m i).bind mq with
  |none=>exact .inl rfl
  |some v=>exact .inr ⟨i,rfl⟩
 |_=>exact .inl rfl
theorem u3(q:own φ (bf M x).2 b):own φ M b:=by
 rcases fz M x with e|⟨i,e⟩<;>rw[e] at q
 ·exact q
 ·exact eN q
theorem eS.freeze(st:St g.pl g.w.params g.B W fr φ M s)(hx:ρ.get i=some x)(h:eS g.pl g.w.params φ (ow W φ M) s.heap (ρ.get j) u):eS g.pl g.w.params φ (ow W φ (bf M x).2) s.heap ((ρ.put i (bf M x).1).get j) u:=by
 by_cases e:j=i
 ·subst e
  rw[hx] at h
  obtain⟨y,hy,r⟩:=h
  rcases an.Fu ρ (i:=j) (bf M x).1 with e|e<;>refine aa e ?_
  ·exact⟨y,hy,(st.freeze r).2.2⟩
  ·trivial
 ·refine aa (an.EP ρ _ e) ?_
  exact h.mono (PB _) (λ b o e zz=>.inl e) λ b q=>.inl (q.imp id u3)
theorem aC.freeze(er:aC g.pl g.w.params W Γ env ρ φ M s.heap)(st:St g.pl g.w.params g.B W fr φ M s)(hx:ρ.get i=some x):aC g.pl g.w.params W Γ env (ρ.put i (bf M x).1) φ (bf M x).2 s.heap:=by
 refine⟨er.kind,er.glob,er.bi,er.inj,er.Ff,?_,λ n hn=> ?_,er.apart⟩
 ·obtain⟨m,hm,hl⟩:=er.loc
  exact⟨m,hm,λ n j hj hk=>eS.freeze st hx (hl n j hj hk)⟩
 ·obtain⟨c,v,hc,hw,EE,hr⟩:=er.cell n hn
  exact⟨c,v,hc,hw,EE,λ j hj=>eS.freeze st hx (hr j hj)⟩
theorem St.Ih(st:St g.pl g.w.params g.B W fr φ M s):St g.pl g.w.params g.B W fr φ (bf M x).2 s/\av bt φ M s φ (bf M x).2 s:=by
 rcases fz M x with e|⟨i,e⟩<;>refine aa e ?_
 ·exact⟨st,.refl⟩
 ·exact st.kill
theorem dZ.IA(h:dZ g Γ N n r ys):dZ g Γ N n (.cons (.IA i) r) ys:=by
 intro W A fr env ρ φ M s Nx R X L hA hN hL er st hw
 refine ai (aD hw) λ v hv q=> ?_
 obtain⟨Et,Ep⟩:=St.Ih (x:=v) st
 exact PW (h W A fr env _ φ _ s Nx R X L hA hN hL (er.freeze st hv) Et q) (FQ.step Ep.wide) (d5.step Ep.wide)
theorem bd.ret(h:aj g Γ N n e x):bd g Γ N n (.ret e) (.Return (some x) pos):=by
 intro W A fr env ρ φ M s Nx R X L hA hN hL er st hw
 refine wpAny_Return_some (PW (h W A _ env ρ φ M s R X hA hN er st hw) (λ v s1 h=>h.casesOn λ y φ1 M1 q Et Ep r=>⟨y,φ1,M1,q,Et,Ep.wide,r⟩) LX.p)
theorem bd.EF(ht:bA g Γ N n t xt)(ha:dZ g Γ N n a xa)(hb:dZ g Γ N n b xb):bd g Γ N n (.EF t a b) (.If xt xa xb pos):=by
 intro W A fr env ρ φ M s Nx R X L hA hN hL er st hw
 refine wpAny_If (iL ht hA hN er st hw (λ b s1 φ1 M1 q Et Ep EC=> ?_) LX.p)
 cases b with
 |true=>
  refine aa (if_pos rfl) ?_
  exact PW (ha W A fr env ρ φ1 M1 s1 Nx R X L hA hN hL EC Et (q.1 rfl)) (FQ.step Ep.wide) (d5.step Ep.wide)
 |false=>
  refine aa (if_neg (by decide)) ?_
  exact PW (hb W A fr env ρ φ1 M1 s1 Nx R X L hA hN hL EC Et (q.2 rfl)) (FQ.step Ep.wide) (d5.step Ep.wide)
noncomputable def iE:Qa->Option Xu
 |.ListComp _ _ s _|.SetComp _ _ s _|.DictComp _ _ _ s _=>some s
 |_=>none
noncomputable def fQ(N:Nm)(value target:Qa)(line:Nat):Bool:=bD (iE value) λ sc=>cx target λ t pos=>
 N.lookup t==some .local&&pos.line==line&& !(sc.names.any λ(n,k)=>n==t&&(k==.local||k==.cell))
theorem qh(hN:env.scope.names=N)(hk:env.scope.kind=.function)(h:fQ N value target value.pos.line=false):W8 [target] value line env=pure false:=by
 have J2:env.blockKind=.function:=by unfold Wo;refine aa hk ?_;rfl
 have LA:∀x,env.kindOf x=N.lookup x:=λ x=>by unfold RF;refine aa hN ?_;rfl
 show RX value (some target) line env=pure false
 cases value<;>first|rfl|skip
 all_goals
  by_cases ht:target.ctorIdx=23
  ·revert h
   refine R3 (motive_1:=λ target=>fQ N _ target _=false->RX _ (some target) line env=pure false) target ht λ t pos h=> ?_
   unfold RX
   dsimp only
   refine aa J2 ?_;refine aa (LA _) ?_
   exact congrArg pure h
  ·cases target<;>first|exact absurd rfl ht|rfl
noncomputable def vP(kd:Str->Option RZ)(ts vs:List Qa):Option (Option (List Str)):=
  if !(ts.length==2||ts.length==3)||vs.length !=ts.length then some none
  else if vs.any λ|.Starred .. =>true|_=>false then some none
  else
   let line:=(ts.head?.map (·.pos.line)).getD 0
   let names:=ts.filterMap λ
    |.Name id pos=>if kd id==some .local&&pos.line==line then some id else none
    |_=>none
   if names.length !=ts.length||names.eraseDups.length !=names.length then some none
   else if vs.all (foldedForSure 8) then some none
   else if vs.all (constantsAlone 8) then none
   else some (some names)
theorem Ba(hk:env.scope.kind=.function)(h:vP env.kindOf ts vs=some r):TP [.Tuple ts k1 p1] (.Tuple vs k2 p2) env=pure r:=by
 have J2:(env.blockKind !=.function)=false:=by unfold Wo;refine aa hk ?_;rfl
 unfold TP
 dsimp only
 refine aa J2 ?_;refine aa (Yr _) ?_
 unfold vP at h
 split at h
 ·rename_i c;cases h;exact if_pos c
 ·rename_i c
  refine(if_neg c).trans ?_
  split at h
  ·rename_i c;cases h;exact if_pos c
  ·rename_i c
   refine(if_neg c).trans ?_
   dsimp only at h
   split at h
   ·rename_i c;cases h;exact if_pos c
   ·rename_i c
    refine(if_neg c).trans ?_
    split at h
    ·rename_i c;cases h;exact if_pos c
    ·rename_i c
     refine(if_neg c).trans ?_
     split at h
     ·exact au h
     ·rename_i c;cases h;exact if_neg c
noncomputable def qg(e:Qa):Option (List Qa):=if h:e.ctorIdx=25 then Re (motive_1:=λ zz=>Option (List Qa)) e h λ es zz zz=>some es else none
noncomputable def kY(N:Nm)(value target:Qa):Option (Option (List Str)):=
 if target.ctorIdx=24 then none else match qg target with
  |none=>some none
  |some ts=>match qg value with
   |none=>some none
   |some vs=>vP (λ x=>N.lookup x) ts vs
theorem xD(hN:env.scope.names=N)(hk:env.scope.kind=.function)(h:kY N value target=some r):TP [target] value env=pure r:=by
 unfold kY at h
 by_cases ht:target.ctorIdx=24
 ·rw[if_pos ht] at h;exact au h
 rw[if_neg ht] at h
 by_cases ht2:target.ctorIdx=25
 ·revert h
  refine Re (motive_1:=λ target=>(match qg target with|none=>some none|some ts=>match qg value with|none=>some none|some vs=>vP (λ x=>N.lookup x) ts vs)=some r->TP [target] value env=pure r) target ht2 λ ts k p h=> ?_
  by_cases hv:value.ctorIdx=25
  ·revert h
   refine Re (motive_1:=λ value=>(match qg value with|none=>some none|some vs=>vP (λ x=>N.lookup x) ts vs)=some r->TP [.Tuple ts k p] value env=pure r) value hv λ vs k2 p2 h=> ?_
   exact Ba hk ((show(λ x=>N.lookup x)=env.kindOf by subst hN;rfl)▸h)
  ·cases value<;>first|exact absurd rfl hv|exact congrArg pure (PZ h)
 ·cases target<;>first|exact absurd rfl ht|exact absurd rfl ht2|exact congrArg pure (PZ h)
theorem uo(h:kY N value (.Name x p)=some (some r)):False:=by cases h
end
theorem xT:∀(ρ:an) {i j:Nat} (v w:V),i≠j->an.put (an.put ρ i v) j w=an.put (an.put ρ j w) i v:=by
 intro ρ
 induction ρ with
 |nil=>
  intro y1 y2 y3 y4 y5
  exact rfl
 |cons x r ih=>
  intro y6
  cases y6 with
  |zero=>
   intro y7
   cases y7 with
   |zero=>
    intro y8 y9 h
    exact absurd rfl h
   |succ j=>
    intro v w G2
    exact rfl
  |succ i=>
   intro Gv
   cases Gv with
   |zero=>
    intro v w HJ
    exact rfl
   |succ j=>
    intro v w h
    show x::an.put (an.put r i v) j w=x::an.put (an.put r j w) i v
    refine aa (ih v w (λ e=>h (by refine aa e ?_;rfl))) ?_;rfl
theorem wj:∀{is:List Nat} {vs:List V} {ρ:an} {i:Nat} {v:V},i∉is->an.Fp (an.put ρ i v) is vs=(an.Fp ρ is vs).map (an.put · i v):=by
 intro is
 induction is with
 |nil=>
  intro y1
  cases y1 with
  |nil=>
   intro y2 y3 y4 y5
   exact rfl
  |cons y6 y7=>
   intro y8 y9 G2 Gv
   exact rfl
 |cons j is ih=>
  intro HJ
  cases HJ with
  |nil=>
   intro Jd Jc Kp My
   exact rfl
  |cons w vs=>
   intro ρ i v h
   rw[PU,not_or] at h
   show an.Fp (an.put (an.put ρ i v) j w) is vs=(an.Fp (an.put ρ j w) is vs).map _
   refine aa (xT ρ v w h.1) ?_;refine aa (ih h.2) ?_;rfl
theorem wi:∀{is:List Nat} {vs:List V} {ρ:an} {i:Nat} {v:V},is.length=vs.length->an.Fp ρ (is++[i]) (vs++[v])=(an.Fp ρ is vs).map (an.put · i v):=by
 intro is
 induction is with
 |nil=>
  intro y1
  cases y1 with
  |nil=>
   intro y2 y3 y4 y5
   exact rfl
  |cons y6 y7=>
   intro y8 y9 G2 h
   simp at h
 |cons j is ih=>
  intro Gv
  cases Gv with
  |nil=>
   intro HJ Jd Jc h
   simp at h
  |cons w vs=>
   intro ρ i v h
   exact ih (vs:=vs) (ρ:=an.put ρ j w) (i:=i) (v:=v) (by simpa using h)
theorem xP:∀{is:List Nat} {vs:List V} {ρ:an},is.Nodup->is.length=vs.length->an.Fp ρ is.reverse vs.reverse=an.Fp ρ is vs:=by
 intro is
 induction is with
 |nil=>
  intro y1
  cases y1 with
  |nil=>
   intro y2 y3 y4
   exact rfl
  |cons y5 y6=>
   intro y7 y8 h
   simp at h
 |cons i is ih=>
  intro y9
  cases y9 with
  |nil=>
   intro G2 Gv h
   simp at h
  |cons v vs=>
   intro ρ nd h
   rw[QJ] at nd
   have hl:is.length=vs.length:=by simpa using h
   refine aa Sh ?_;refine aa Sh ?_;refine aa (wi (by refine aa RP ?_;refine aa RP ?_;exact hl)) ?_;refine aa (ih nd.2 hl) ?_
   exact(wj nd.1).symm
section
variable{g:Gs}{tb:Tb}{K:RH}{Γ:aH}{N:Nm}{n:Nat}{W V:P5->Prop}{A:Qz}{fr:List Env}{env:Env}{ρ ρ':an}{φ φ1 φ0:az}{M M1 M0:AH}{s s1 s0:PM}{E0:PL->PM->Prop}{Md:TZ}
theorem um(hN:env.scope.names=N):∀{l:List (Nat×Str)} {vs:List Mine.V} {xs:List PL} {ρ ρ':an} {s:PM} {Q:Unit->PM->Prop},(∀p∈l,Γ.lookup p.2=some p.1/\dw N p.2=true)->aC g.pl g.w.params W Γ env ρ φ M s.heap->St g.pl g.w.params g.B W fr φ M s->
  am g.pl g.w.params φ (ow W φ M) s.heap vs xs->ρ.Fp (l.map (·.1)) vs=some ρ'->(∀s',aC g.pl g.w.params W Γ env ρ' φ M s'.heap->St g.pl g.w.params g.B W fr φ M s'->av (EQ env) φ M s φ M s'->Q () s')->
  PT Md A (assignInOrder ((l.map (·.2)).map λ n=>bindName env n) xs) Q E0 s:=by
 intro l
 induction l with
 |nil=>
  intro vs xs ρ ρ' s Q y1 er st rs hp k
  cases vs with
  |cons _ _=>cases hp
  |nil=>cases hp;exact PD (k s er st .refl)
 |cons y2 l ih=>
  obtain⟨i,x⟩:=y2
  intro vs xs ρ ρ' s Q h er st rs hp k
  cases vs with
  |nil=>cases hp
  |cons v vs=>
   obtain⟨u,us,rfl,r1,r2⟩:=rs
   obtain⟨h1,h2⟩:=h _ (.head _)
   refine PA (Qu (wpAny_bindName (fG er st h1 (nE hN h2) r1 λ s1 EC Et Ep=> ?_)))
   have Ep:=Ep.mono λ b q zz=>bu.EQ q
   exact ih (λ p hp=>h p (.tail _ hp)) EC Et (r2.step Ep λ b q=>er.FX b q) hp λ s2 ET EB EA=>k s2 ET EB (Ep.trans EA)
theorem uT(h:nT Γ N is es):(fh es).length=is.length/\∀p∈is.zip (fh es),Γ.lookup p.2=some p.1/\dw N p.2=true:=by
 induction h with
 |nil=>exact⟨rfl,λ zz h=>nomatch h⟩
 |cons h1 h2 _ ih=>exact⟨congrArg (· +1) ih.1,TW.mpr ⟨⟨h1,h2⟩,ih.2⟩⟩
theorem C9(hm:cS Γ N t target=true):(TF [target] env).map (·.2)=[Xw target env]:=by
 cases oM hm<;>rfl
theorem bd.asg(he:aj g Γ N n e value)(hm:cS Γ N t target=true)(hs:fQ N value target value.pos.line=false)(hS:kY N value target=some r)
  (hr:∀names,r=some names->names=cY target/\t.list.Nodup):bd g Γ N n (.asg t e) (.Assign [target] value pos):=by
 intro W A fr env ρ φ M s Nx R X L hA hN hL er st hw
 rewrite[Um];refine aa (qh hN er.kind hs) ?_
 refine PA (QH (PA (PD ?_)))
 simp only [P6,if_false]
 refine PA (aS (α:=Unit) he hA hN er st hw (λ v x s1 φ1 M1 q1 Et Ep EC r1=> ?_) LX.p)
 refine ai (aD q1) λ ρ' hb q=> ?_
 refine aa (xD hN er.kind hS) ?_
 refine PA (PD ?_)
 cases r with
 |none=>
  refine aa (C9 hm) ?_
  show PT _ A (Xw target env v>>=λ zz=>pure Vl) _ _ s1
  refine PA (iF hm hA.handled hN EC Et r1 hb λ s2 ET EB EA=>PD ?_)
  exact⟨ρ',φ1,M1,q,ET,EB,Ep.wide.trans (EA.mono λ b q zz=>bu.EQ q)⟩
 |some names=>
  obtain⟨hn,nd⟩:=hr names rfl
  cases oM hm with
  |one _ _=>exact(uo hS).elim
  | @many is es a p2 hq=>
   obtain⟨vs,hi,hp⟩:=aP hb
   obtain⟨l1,l2⟩:=uT hq
   have hn:names=fh es:=hn
   subst hn
   refine PA (TE (PA (iW hA.handled Et r1 hi (by refine aa l1 ?_;exact l5 hp) λ us h' hk rs=> ?_)))
   have EB:St g.pl g.w.params g.B W (env::fr) φ1 M1 {s1 with heap:=h'}:=Et.Gp hk
   have e1:((is.zip (fh es)).reverse.map (·.2))=(fh es).reverse:=by refine aa U7 ?_;refine aa (List.map_snd_zip (ae 0x905244349102 rfl ((fh es).length) is.length l1)) ?_;rfl
   have e2:((is.zip (fh es)).reverse.map (·.1))=is.reverse:=by refine aa U7 ?_;refine aa (List.map_fst_zip (ae 0x905148349102 rfl ((fh es).length) is.length l1)) ?_;rfl
   refine aE e1 ?_
   refine PA (um (s:={s1 with heap:=h'}) (ρ':=ρ') hN (λ p hp=>l2 p (List.mem_reverse.mp hp)) (EC.ext hk) EB (rs.ext hk).rev (by refine aa e2 ?_;refine aa (xP (is:=is) nd (l5 hp)) ?_;exact hp) λ s3 G1 Fj Fk=>PD ?_)
   exact⟨ρ',φ1,M1,q,G1,Fj,Ep.wide.trans ((av.ext (s':={s1 with heap:=h'}) hk rfl rfl).trans Fk)⟩
end
theorem jC(f:Array PL->Array PL)(xs:List PL)(m:Nat):∃m',Q3 f (bb xs m)=bb (f xs.toArray).toList m':=by
 unfold bb
 refine aa Array.toArray_toList ?_
 exact⟨_,rfl⟩
section
variable{g:Gs}{tb:Tb}{K:RH}{Γ:aH}{N:Nm}{n:Nat}{W V:P5->Prop}{A:Qz}{fr:List Env}{env:Env}{ρ ρ':an}{φ φ1 φ0:az}{M M1 M0:AH}{s s1 s0:PM}{E0:PL->PM->Prop}{Md:TZ}
theorem vO(hN:env.scope.names=N)(hk:env.scope.kind=.function)(h:iE value=none):RX value none line env=pure false:=by
 unfold RX
 cases value<;>first|rfl|(cases h)
theorem qW(hk:env.scope.kind=.function):interactive env=false:=by unfold interactive;refine aa hk ?_;rfl
set_option tactic.hygienic true in
theorem bd.app(ho:aj g Γ N n o xo)(he:aj g Γ N n e xe)(hb:eE xo=true)(hx:aw xe=true)(hl:(apos.endLine==pos.line)=true):
  bd g Γ N n (.app o e) (.Expr (.Call (.Attribute xo "append" apos) [xe] [] pos) G5):=by
 intro W A fr env ρ φ M s Nx R X L hA hN hL er st hw
 refine wpAny_Expr ?_ (qW er.kind) (vO hN er.kind rfl)
 have tr:Rh [xe] env=[(false,eval xe env)]:=by refine aa (bc hx) ?_;rfl
 refine wpAny_Call_append (kS hb _ env _) (by refine aa tr ?_;rfl) hl (by refine aa tr ?_;rfl) ?_
 refine aS (α:=Unit) ho hA hN er st hw (λ v x s1 φ1 M1 q1 Et Ep EC r1=> ?_) LX.p
 obtain⟨H7,q1⟩:=q1
 cases x with
 |ref i=>
  cases hm:M1.m i with
  |none=>have H7:((M1.m i).bind lstO?).isSome=true:=H7;rw[hm] at H7;cases H7
  |some ob=>
   cases ob with
   |list vs0=>
    obtain⟨p,hp,rfl⟩:=r1
    refine ai (Et.hr.at_ i _ hm) λ p' Fz ro=> ?_
    rw[hp] at Fz;cases Fz
    obtain⟨e2,NK,m0,Pe,hl0,rs0⟩:=ro
    refine rp p.1 NK.toArray rfl ⟨_,m0,Pe,rfl,rfl,rfl⟩ ?_
    refine aS (α:=Unit) he hA hN EC Et q1 (λ u y s2 φ2 M2 q2 EB EA ET r2=> ?_) λ v s' z=>d5.step Ep.wide _ _ (LX.p _ _ z)
    dsimp only at q2
    split at q2
    case h_2=>exact q2.elim
    case h_1 vs Ge=>
    obtain⟨hle,q⟩:=q2
    have Hu:φ2[i]? =some p:=by
     obtain⟨tl,ht⟩:=EA.pre
     refine aE ht ?_;refine aa (Qe (PO.mp hp).1) ?_;exact hp
    refine ai (EB.hr.at_ i _ Ge) λ p' Fz ro=> ?_
    rw[Hu] at Fz;cases Fz
    obtain⟨e2,xs,m,gg,hlen,rs⟩:=ro
    refine QY slot_list_append ⟨_,gg,rfl⟩ YM ?_ (args_list_append _ _)
    show PT _ _ (updateSeq p.1 (·.push u)>>=λ zz=>Wk Qi) _ _ s2
    have Fe:xs.toArray.size<=Rn:=by have:=rs.length;refine aa PX ?_;refine aa this ?_;exact PN (TR hle) (by decide)
    refine PA (wpAny_updateSeq gg rfl (PD (Yc Qi ⟨rfl,?_⟩)) Fe (by refine aa (XO _) ?_;exact Sz Fe))
    obtain⟨m',Hi⟩:=jC (·.push u) xs m
    have g2:(s2.heap.update p.1 (Q3 (·.push u))).get? p.1=some (bb (xs++[u]) m'):=by
     refine aa (P7 _ gg (by refine aa Hi ?_;rfl)) ?_;refine aa Hi ?_
     simp
    have hs:Qr p.1 s2.heap (s2.heap.update p.1 (Q3 (·.push u))):=QA ..
    have Fh:∀b o,s2.heap.get? b=some o->¬ow W φ2 M2 b->b7 o ((s2.heap.update p.1 (Q3 (·.push u))).get? b):=λ b o e nb=>.inl (hs.extBut b o (λ q=>nb (.inr (q▸(cZ (by refine aa Ge ?_;rfl) Hu).1))) e)
    obtain⟨Fj,Fk⟩:=EB.upd (s':={s2 with heap:=s2.heap.update p.1 (Q3 (·.push u))}) (o':=.list (vs++[y])) Ge Hu (λ b x n1 zz e=>hs.extBut b x n1 e) rfl rfl
     ⟨e2,_,m',g2,by refine aa PJ ?_;exact hle,am.append (rs.mono (PB _) Fh λ b q=>.inl q) (am.c ⟨u,[],rfl,r2.mono (PB _) Fh λ b q=>.inl q,rfl⟩)⟩
    exact⟨ρ,φ2,_,q,ET.Fb EB Fk,Fj,(Ep.trans (EA.trans Fk)).wide⟩
   |_=>have H7:((M1.m i).bind lstO?).isSome=true:=H7;rw[hm] at H7;cases H7
 |_=>cases H7
end
section
variable{K:Type}[DecidableEq K]
theorem oZ{a:K}{r:List (K×PL)}(h:a∉r.map (·.1)):UK ((a,b)::r) a u=(a,u)::r:=by
 unfold UK
 refine aa (if_pos (by simp)) ?_
 refine aa PR ?_;refine aa (if_pos rfl) ?_
 congr 1
 refine map_eq_self λ x hx=>if_neg λ e=>h ?_
 refine aE e ?_;exact WY hx
theorem oY{a k:K}{r:List (K×PL)}(h:a≠k):UK ((a,b)::r) k u=(a,b)::UK r k u:=by
 unfold UK
 refine aa R0 ?_;refine aa (decide_eq_false h) ?_;refine aa (Tr _) ?_
 split
 ·refine aa PR ?_;refine aa (if_neg h) ?_;rfl
 ·rfl
end
theorem xY:∀{ks:List String} {vs:List V} {s:String} {v:V},vs.length=ks.length->(aI s v ks vs).1=(if s∈ks then ks else ks++[s])/\(aI s v ks vs).2.length=(aI s v ks vs).1.length:=by
 intro ks
 induction ks with
 |nil=>
  intro y1
  cases y1 with
  |nil=>
   intro s v y2
   exact⟨by refine aa (if_neg (by simp)) ?_;rfl,rfl⟩
  |cons y3 y4=>
   intro y5 y6 h
   simp at h
 |cons k ks ih=>
  intro y7
  cases y7 with
  |nil=>
   intro y8 y9 h
   simp at h
  |cons x vs=>
   intro s v h
   rewrite[fc]
   by_cases e:k=s
   ·subst e
    refine aa (if_pos (by simp)) ?_;refine aa (if_pos (by simp)) ?_
    exact⟨rfl,by simpa using h⟩
   ·obtain⟨a,b⟩:=ih (s:=s) (v:=v) (show vs.length=ks.length by simpa using h)
    refine aa (if_neg (by simpa using e)) ?_
    dsimp only
    refine⟨?_,by simpa using b⟩
    refine aa a ?_
    have:(s∈k::ks)↔ s∈ks:=by simp[Sb e]
    by_cases hm:s∈ks
    ·refine aa (if_pos hm) ?_;refine aa (if_pos (this.mpr hm)) ?_;rfl
    ·refine aa (if_neg hm) ?_;refine aa (if_neg (λ q=>hm (this.mp q))) ?_;rfl
theorem xZ:∀{ks:List Int} {vs:List V} {s:Int} {v:V},vs.length=ks.length->(dN s v ks vs).1=(if s∈ks then ks else ks++[s])/\(dN s v ks vs).2.length=(dN s v ks vs).1.length:=by
 intro ks
 induction ks with
 |nil=>
  intro y1
  cases y1 with
  |nil=>
   intro s v y2
   exact⟨by refine aa (if_neg (by simp)) ?_;rfl,rfl⟩
  |cons y3 y4=>
   intro y5 y6 h
   simp at h
 |cons k ks ih=>
  intro y7
  cases y7 with
  |nil=>
   intro y8 y9 h
   simp at h
  |cons x vs=>
   intro s v h
   rewrite[qL]
   by_cases e:k=s
   ·subst e
    refine aa (if_pos (by simp)) ?_;refine aa (if_pos (by simp)) ?_
    exact⟨rfl,by simpa using h⟩
   ·obtain⟨a,b⟩:=ih (s:=s) (v:=v) (show vs.length=ks.length by simpa using h)
    refine aa (if_neg (by simpa using e)) ?_
    dsimp only
    refine⟨?_,by simpa using b⟩
    refine aa a ?_
    have:(s∈k::ks)↔ s∈ks:=by simp[Sb e]
    by_cases hm:s∈ks
    ·refine aa (if_pos hm) ?_;refine aa (if_pos (this.mpr hm)) ?_;rfl
    ·refine aa (if_neg hm) ?_;refine aa (if_neg (λ q=>hm (this.mp q))) ?_;rfl
theorem lN{α:Type}[DecidableEq α]{l:List α}{s:α}(h:l.Nodup):(if s∈l then l else l++[s]).Nodup:=by
 split
 ·exact h
 ·rename_i n
  exact Si.mpr ⟨h,QJ.mpr ⟨by simp,T4⟩,λ a ha b hb e=>n (by rw[P2.mp hb] at e;exact e▸ha)⟩
section
variable{pl:Pl}{P:QP}{φ:az}{o:P5->Prop}{h:QI}
theorem uq:∀{ks:List String} {vs:List V} {us:List PL} {s:String} {v:V} {u:PL},ks.Nodup->us.length=ks.length->am pl P φ o h vs us->VR pl P φ o h v u->
  (UK ((ks.map PF).zip us) (PF s) u).map (·.1)=(aI s v ks vs).1.map PF/\am pl P φ o h (aI s v ks vs).2 ((UK ((ks.map PF).zip us) (PF s) u).map (·.2)):=by
 intro ks
 induction ks with
 |nil=>
  intro vs us s v u y1 hl rs r
  have:(aI s v [] vs)=([s],[v]):=by cases vs<;>rfl
  refine aa this ?_
  refine⟨rfl,?_⟩
  show am _ _ _ _ _ [v] [u]
  exact am.c ⟨u,[],rfl,r,rfl⟩
 |cons k ks ih=>
  intro vs us s v u nd hl rs r
  cases us with
  |nil=>simp at hl
  |cons b us=>
   cases vs with
   |nil=>cases rs
   |cons x vs=>
    obtain⟨b',HQ,e,r1,r2⟩:=rs
    cases e
    rw[QJ] at nd
    have Gt:us.length=ks.length:=by simpa using hl
    refine aa PR ?_;refine aa Qk ?_;rewrite[fc]
    by_cases e:k=s
    ·subst e
     rewrite[oZ];refine aa (if_pos (by simp)) ?_
     ·refine aa PR ?_;refine aa PR ?_;refine aa PR ?_;refine aa (eT (by refine aa (PG _) ?_;refine aa Gt ?_;rfl)) ?_;refine aa (nY (by refine aa (PG _) ?_;refine aa Gt ?_;rfl)) ?_
      refine⟨rfl,?_⟩
      dsimp only
      exact am.c ⟨u,us,rfl,r,r2⟩
     ·refine aa (eT (by refine aa (PG _) ?_;refine aa Gt ?_;rfl)) ?_
      intro q
      refine ai (QG.mp q) λ y hy e=> ?_
      exact nd.1 (cV e▸hy)
    ·refine aa (oY (λ q=>e (cV q))) ?_;refine aa (if_neg (by simpa using e)) ?_
     obtain⟨a,c⟩:=ih (s:=s) nd.2 Gt r2 r
     dsimp only
     refine aa PR ?_;refine aa PR ?_;refine aa PR ?_;refine aa a ?_
     refine⟨rfl,?_⟩
     dsimp only
     exact am.c ⟨b,_,rfl,r1,c⟩
theorem sy:∀{ks:List Int} {vs:List V} {us:List PL} {s:Int} {v:V} {u:PL},ks.Nodup->us.length=ks.length->am pl P φ o h vs us->VR pl P φ o h v u->
  (UK (ks.zip us) s u).map (·.1)=(dN s v ks vs).1/\am pl P φ o h (dN s v ks vs).2 ((UK (ks.zip us) s u).map (·.2)):=by
 intro ks
 induction ks with
 |nil=>
  intro vs us s v u y1 hl rs r
  have:(dN s v [] vs)=([s],[v]):=by cases vs<;>rfl
  refine aa this ?_
  refine⟨rfl,?_⟩
  show am _ _ _ _ _ [v] [u]
  exact am.c ⟨u,[],rfl,r,rfl⟩
 |cons k ks ih=>
  intro vs us s v u nd hl rs r
  cases us with
  |nil=>simp at hl
  |cons b us=>
   cases vs with
   |nil=>cases rs
   |cons x vs=>
    obtain⟨b',HQ,e,r1,r2⟩:=rs
    cases e
    rw[QJ] at nd
    have Gt:us.length=ks.length:=by simpa using hl
    refine aa Qk ?_;rewrite[qL]
    by_cases e:k=s
    ·subst e
     rewrite[oZ];refine aa (if_pos (by simp)) ?_
     ·refine aa PR ?_;refine aa PR ?_;refine aa (eT Gt) ?_;refine aa (nY Gt) ?_
      refine⟨rfl,?_⟩
      dsimp only
      exact am.c ⟨u,us,rfl,r,r2⟩
     ·refine aa (eT Gt) ?_
      exact nd.1
    ·refine aa (oY e) ?_;refine aa (if_neg (by simpa using e)) ?_
     obtain⟨a,c⟩:=ih (s:=s) nd.2 Gt r2 r
     dsimp only
     refine aa PR ?_;refine aa PR ?_;refine aa a ?_
     refine⟨rfl,?_⟩
     dsimp only
     exact am.c ⟨b,_,rfl,r1,c⟩
theorem am.Jv:∀{vs:List V} {us:List PL} {k:Nat} {v:V} {u:PL},am pl P φ o h vs us->VR pl P φ o h v u->am pl P φ o h (vs.set k v) (us.set k u):=by
 intro vs
 induction vs with
 |nil=>
  intro us k v u rs r
  subst rs;rfl
 |cons x vs ih=>
  intro us y1
  cases y1 with
  |zero=>
   intro v u rs r
   obtain⟨y,t,rfl,r1,r2⟩:=rs
   exact am.c ⟨u,t,rfl,r,r2⟩
  |succ k=>
   intro v u rs r
   obtain⟨y,t,rfl,r1,r2⟩:=rs
   exact am.c ⟨y,_,rfl,r1,ih r2 r⟩
end
section
variable{g:Gs}{tb:Tb}{K:RH}{Γ:aH}{N:Nm}{n:Nat}{W V:P5->Prop}{A:Qz}{fr:List Env}{env:Env}{ρ ρ':an}{φ φ1 φ0:az}{M M1 M0:AH}{s s1 s0:PM}{E0:PL->PM->Prop}{Md:TZ}
theorem uD(gg:s.heap.get? a=some (bb xs m))(h0:0<=i)(hi:i.toNat<xs.length)(hfit:i<2^63)
  (k:∀h' m',h'.get? a=some (bb (xs.set i.toNat u) m')->Qr a s.heap h'->Q () {s with heap:=h'}):PT (PY g.prog g.w) A (setItem (.ref a) (.int i t) u) Q E0 s:=by
 have hT:s.TypeIs (.ref a) "list" :=⟨_,gg,rfl⟩
 unfold setItem
 try with_reducible refine Qu ?_
 refine PA (wpAny_sequenceKey hT (by decide) ?_)
 refine PA (Ru (name:=PF "__setitem__") hT YJ (QY YJ hT entry_list_setitem ?_ (args_list_setitem _ _ _)))
 show PT _ _ (Builtin.List.listSubscript? (.int i t)>>=_) _ _ s
 refine PA (wpAny_listSubscript_int (fitsIndex_of h0 hfit) ?_)
 obtain⟨j,rfl⟩:=QZ h0
 have hx:xs.toArray[j]? =some (xs[j]'(by simpa using hi)):=by simp
 show PT _ _ ((seqItemAt a j>>=λ r=>pure (r.map (j,·)))>>=_) _ _ s
 refine PA (PA (wpAny_seqItemAt gg rfl (PD ?_)))
 refine aa hx ?_
 show PT _ _ (setSeqItemAt a j u>>=_) _ _ s
 obtain⟨m',Hi⟩:=jC (·.setIfInBounds j u) xs m
 have g2:(s.heap.update a (Q3 (·.setIfInBounds j u))).get? a=some (bb (xs.set j u) m'):=by
  refine aa (P7 _ gg (by refine aa Hi ?_;rfl)) ?_;refine aa Hi ?_
  simp
 refine PA (wpAny_setSeqItemAt gg rfl ?_)
 exact PD ⟨.none,rfl,PD (k _ m' g2 (QA ..))⟩
set_option tactic.hygienic true in
theorem bd.E1{o k e:E}(he:aj g Γ N n e xe)(ho:aj g Γ N n o xo)(hk:aj g Γ N n k xk):bd g Γ N n (.E1 o k e) (.Assign [.Subscript xo xk G5] xe pos):=by
 intro W A fr env ρ φ M s Nx R X L hA hN hL er st hw
 have hs:RX xe (some (.Subscript xo xk G5)) pos.line env=pure false:=by unfold RX;cases xe<;>rfl
 refine wpAny_Assign_Subscript ?_ hs
 refine aS (α:=Unit) he hA hN er st hw (λ u v s1 φ1 M1 q1 Et Ep EC r1=> ?_) LX.p
 refine aS (α:=Unit) ho hA hN EC Et q1 (λ ov x s2 φ2 M2 q2 EB EA ET r2=> ?_) λ v s' z=>d5.step Ep.wide _ _ (LX.p _ _ z)
 refine aS (α:=Unit) hk hA hN ET EB q2 (λ kv y s3 φ3 M3 q3 Fj Fk G1 r3=> ?_) λ v s' z=>d5.step (Ep.trans EA).wide _ _ (LX.p _ _ z)
 have rv:=(r1.step EA bG).step Fk bG
 have rx:=r2.step Fk bG
 have sp:=(Ep.trans EA).trans Fk
 clear r1 r2 q1 q2
 split at q3
 case h_2=>exact q3.elim
 case h_1 x i=>
 refine ai (aD q3) λ ob hm q4=> ?_
 clear q3
 refine ai (aD q4) λ Gz Fg q=> ?_
 clear q4
 obtain⟨p,hp,rfl⟩:=rx
 refine ai (Fj.hr.at_ i _ hm) λ p' Fz ro=> ?_
 rw[hp] at Fz;cases Fz
 have Ho:=(cZ (by refine aa hm ?_;rfl) hp).1
 have mono:∀{h':QI},Qr p.1 s3.heap h'->∀b o,s3.heap.get? b=some o->¬ow W φ3 M3 b->b7 o (h'.get? b):=λ hs b o e nb=>.inl (hs.extBut b o (λ q=>nb (.inr (q▸Ho))) e)
 have fin:∀{h':QI} {tk:Nat},Qr p.1 s3.heap h'->OR g.pl g.w.params φ3 (ow W φ3 M3) h' p Gz->FQ g.pl g.w.params g.B W (env::fr) Γ env φ M s Nx R .next {s3 with heap:=h',toks:=tk}:=by
  intro h' tk hs K8
  obtain⟨F6,FR⟩:=Fj.upd (s':={s3 with heap:=h',toks:=tk}) (o':=Gz) hm hp (λ b x n1 zz e=>hs.extBut b x n1 e) rfl rfl K8
  exact⟨ρ,φ3,_,q,G1.Fb Fj FR,F6,(sp.trans FR).wide⟩
 cases ob with
 |list vs=>
  cases y<;>first|cases Fg|skip
  rename_i j
  have Fg:(if 0<=j/\j.toNat<vs.length then some (O.list (vs.set j.toNat v)) else none)=some Gz:=Fg
  split at Fg
  case isFalse=>cases Fg
  case isTrue hj=>
  cases Fg
  obtain⟨e2,xs,m,gg,hlen,rs⟩:=ro
  obtain⟨t,rfl⟩:=r3
  have e:=rs.length
  refine uD gg hj.1 (by refine aa e ?_;exact hj.2) (by have:vs.length<=100000:=hlen;exact ae 0x1248b1f83fa20e1a814cfd11c244d44446011 rfl vs.length j hj this) λ h' m' g2 hs=> ?_
  exact fin (tk:=s3.toks) hs ⟨e2,_,m',g2,by refine aa Vp ?_;exact hlen,am.Jv (rs.mono (PB _) (mono hs) λ b q=>.inl q) (rv.mono (PB _) (mono hs) λ b q=>.inl q)⟩
 |Eu ks vs=>
  cases y<;>first|cases Fg|skip
  rename_i k0
  have Fg:(if ks.length<=ar then some (O.Eu (aI k0 v ks vs).1 (aI k0 v ks vs).2) else none)=some Gz:=Fg
  split at Fg
  case isFalse=>cases Fg
  case isTrue hj=>
  cases Fg
  obtain⟨e2,es,m,gg,hl,ke,rs⟩:=ro
  obtain⟨ON,t,rfl⟩:=r3
  have hu:(es.map (·.val)).length=ks.length:=by have:=cB ke;rw[PG] at this;refine aa (PG _) ?_;exact this
  have Lo:vs.length=ks.length:=by refine aE rs.length ?_;exact hu
  refine X6 (knd:=Un g.prog g.w) (k:=PF k0) (by show RB (PF k0) (.str (PF k0) t)=true;simp[RB]) (gN (prog:=g.prog) (w:=g.w) gg (cJ hl.nd) ke) (λ h' hd hs=> ?_) (by refine aa TK ?_;refine aa (PG _) ?_;refine aa hu ?_;refine aa (Nat.min_self _) ?_;exact PN hj (by decide))
  refine kQ (pD hd) λ Gg m' g2 JD ev=> ?_
  obtain⟨a,c⟩:=uq (s:=k0) hl.nd hu (rs.mono (PB _) (mono hs) λ b q=>.inl q) (rv.mono (PB _) (mono hs) λ b q=>.inl q)
  rw[a] at JD
  rw[<-ev] at c
  have pk:=(xY (s:=k0) (v:=v) Lo).1
  refine fin hs ⟨e2,Gg,m',g2,⟨hl.1,by refine aa pk ?_;exact lN hl.nd,?_,?_⟩,JD,c⟩
  ·refine aa pk ?_;split
   ·exact hl.len
   ·refine aa PJ ?_;exact Sz hj
  ·refine aa pk ?_;intro k hk;split at hk
   ·exact hl.str k hk
   ·rcases Qt.mp hk with hk|hk
    ·exact hl.str k hk
    ·refine aa (P2.mp hk) ?_;exact ON
 |EG ks vs=>
  cases y<;>first|cases Fg|skip
  rename_i k0
  have Fg:(if ks.length<=ar then some (O.EG (dN k0 v ks vs).1 (dN k0 v ks vs).2) else none)=some Gz:=Fg
  split at Fg
  case isFalse=>cases Fg
  case isTrue hj=>
  cases Fg
  obtain⟨e2,es,m,gg,hl,ke,rs⟩:=ro
  obtain⟨t,rfl⟩:=r3
  have hu:(es.map (·.val)).length=ks.length:=by refine aa (PG _) ?_;exact gh ke
  have Lo:vs.length=ks.length:=by refine aE rs.length ?_;exact hu
  refine X6 (knd:=V3 g.prog g.w) (k:=k0) (by show SK k0 (.int k0 t)=true;simp[SK]) (ic (prog:=g.prog) (w:=g.w) gg hl.nd ke) (λ h' hd hs=> ?_) (by refine aa TK ?_;refine aa hu ?_;refine aa (Nat.min_self _) ?_;exact PN hj (by decide))
  refine kQ (vg hd) λ Gg m' g2 JD ev=> ?_
  obtain⟨a,c⟩:=sy (s:=k0) hl.nd hu (rs.mono (PB _) (mono hs) λ b q=>.inl q) (rv.mono (PB _) (mono hs) λ b q=>.inl q)
  rw[a] at JD
  rw[<-ev] at c
  have pk:=(xZ (s:=k0) (v:=v) Lo).1
  refine fin hs ⟨e2,Gg,m',g2,⟨hl.1,by refine aa pk ?_;exact lN hl.nd,?_⟩,JD,c⟩
  refine aa pk ?_;split
  ·exact hl.len
  ·refine aa PJ ?_;exact Sz hj
 |inst c vs=>cases y<;>cases Fg
end
theorem xV:∀{ks:List Str} {es:List Qj} {k:Nat} {x:Str},bY P ks es->ks.Nodup->ks[k]? =some x->bY P ks (Xj x hsh key v es)/\(Xj x hsh key v es).map (·.val)=(es.map (·.val)).set k v:=by
 intro ks
 induction ks with
 |nil=>
  intro y1 y2 y3 y4 y5 h
  simp at h
 |cons y ks ih=>
  intro es k x ke nd h
  obtain⟨e,r,rfl,⟨t,hk⟩,hh,ke⟩:=ke
  rw[QJ] at nd
  cases k with
  |zero=>
   simp at h;subst h
   have hb:e.key.isStr y=true:=by refine aa hk ?_;simp[Tn]
   rewrite[Xj];refine aa (if_pos hb) ?_
   exact⟨nU.mk ⟨e.hash,e.key,v⟩ r rfl ⟨t,hk⟩ hh ke,rfl⟩
  |succ k=>
   have h':ks[k]? =some x:=by simpa using h
   have Ft:y≠x:=λ q=>nd.1 (q▸SA h')
   have hb:¬e.key.isStr x=true:=by refine aa hk ?_;simpa[Tn] using Ft
   obtain⟨a,b⟩:=ih ke nd.2 h'
   rewrite[Xj];refine aa (if_neg hb) ?_
   refine⟨?_,?_⟩
   ·exact nU.mk e _ rfl ⟨t,hk⟩ hh a
   ·refine aa PR ?_;refine aa b ?_;refine aa PR ?_;refine aa List.set_cons_succ ?_;rfl
theorem xW:∀{ks:List Str} {es:List Qj} {x:Str},bY P ks es->x∉ks->bY P (ks++[x]) (Xj x (Qh P x) (.str x t0) v es)/\(Xj x (Qh P x) (.str x t0) v es).map (·.val)=es.map (·.val)++[v]:=by
 intro ks
 induction ks with
 |nil=>
  intro es x ke y1
  subst ke
  exact⟨nU.mk ⟨Qh P x,.str x t0,v⟩ [] rfl ⟨t0,rfl⟩ rfl rfl,rfl⟩
 |cons y ks ih=>
  intro es x ke h
  obtain⟨e,r,rfl,⟨t,hk⟩,hh,ke⟩:=ke
  rw[PU,not_or] at h
  have hb:¬e.key.isStr x=true:=by refine aa hk ?_;simpa[Tn] using Sb h.1
  obtain⟨a,b⟩:=ih ke h.2
  rewrite[Xj];refine aa (if_neg hb) ?_
  refine⟨?_,?_⟩
  ·exact nU.mk e _ rfl ⟨t,hk⟩ hh a
  ·refine aa PR ?_;refine aa b ?_;refine aa PR ?_;refine aa U8 ?_;rfl
theorem wN:∀{ks:List Str} {es:List Qj},bY P ks es->es.any (·.refKey)=false:=by
 intro ks
 induction ks with
 |nil=>
  intro es ke
  subst ke;rfl
 |cons y ks ih=>
  intro es ke
  obtain⟨e,r,rfl,⟨t,hk⟩,_,ke⟩:=ke
  refine aa R0 ?_;refine aa (ih ke) ?_;simp[Us,hk]
section
variable{g:Gs}{tb:Tb}{K:RH}{Γ:aH}{N:Nm}{n:Nat}{W V:P5->Prop}{A:Qz}{fr:List Env}{env:Env}{ρ ρ':an}{φ φ1 φ0:az}{M M1 M0:AH}{s s1 s0:PM}{E0:PL->PM->Prop}{Md:TZ}
theorem sI(X:K.In s.heap)(g1:s.heap.get? x=some (R7 C d))(g2:s.heap.get? d=some (QO es m))
  (hs:Rr K (.ref C) "__setattr__" =some (some (.builtin "object.__setattr__")))(KH:(clsIn K C).any (λ cd=>cd.hasDict&&Yz cd.mro)=true)(hf:Rr K (.ref C) name=some none)(ke:bY g.w.params ks es)(hlen:es.length<=1000)
  (k:∀h' m' t0,h'.get? d=some (QO (Xj name (Qh g.w.params name) (.str name t0) v es) m')->Qr d s.heap h'->∀tk,Q () {s with heap:=h',toks:=tk}):PT (PY g.prog g.w) A (setAttr (.ref x) name v) Q E0 s:=by
 have I:InstAt s.heap x (R7 C d) C (some (QO es m)):=⟨g1,rfl,rfl,g2⟩
 refine ai (Yj KH) λ cd hc hd=> ?_
 simp only [P1] at hd
 have po:plainOver K C=true:=by unfold plainOver;refine aa hc ?_;exact hd.2
 have ti:XY K C name=some none:=by unfold XY;refine aa hf ?_;rfl
 refine set_plain X I hs ?_
 refine osa_open (s:={s with toks:=s.toks+1}) X I po ti λ b=> ?_
 dsimp only
 refine PA (PD (PA (PA (SD g1 (PA (Xe (s:={s with toks:=s.toks+1}) (UR X hc) ?_))))))
 refine aa hd.1 ?_
 refine PD (a:=some d) (PA (PD (PA ?_)))
 unfold nsSet
 refine PA (PA (VZ (PD (PA (wpAny_mkText (PA (SD g2 ?_)))))))
 dsimp only
 have c:(!es.toArray.any (·.key.isStr name)&&es.toArray.any (·.refKey))=false:=by
  refine aE Ts ?_;refine aE Ts ?_
  refine aa (show es.toArray.toList=es from rfl) ?_;refine aa (wN ke) ?_;refine aa (Ta _) ?_;rfl
 refine aa (Xl _ _) ?_;refine aa c ?_
 refine wpAny_updatePart g2 ?_
 have g3:(s.heap.update d (Vz name (Qh g.w.params name) (.str name (s.toks+1)) v)).get? d=some (QO (Xj name (Qh g.w.params name) (.str name (s.toks+1)) v es) (putN name es m)):=by
  refine aa (P7 _ g2 (by rewrite[VO];rfl)) ?_;rewrite[VO];rfl
 refine PA (wpAny_lookBehind g3 (pastItsLine_dict ?_) ?_)
 ·have:(Xj name (Qh g.w.params name) (.str name (s.toks+1)) v es).length<=es.length+1:=by
   have key:∀(l:List Qj),(Xj name (Qh g.w.params name) (.str name (s.toks+1)) v l).length<=l.length+1:=by
    intro l
    induction l with
    |nil=>exact PE _
    |cons e r ih=>rewrite[Xj];split<;>(simp only [PQ];(first|exact ae 0x106106144185101 rfl r.length|exact ae 0x904184185206144106149102 rfl ((Xj name (Qh g.w.params name) (Ve name (s.toks+1)) v r).length) r.length ih))
   exact key es
  refine aa PX ?_;refine aa X0 ?_;exact ae 0x249060000020067f48106145207e80c7fd102 rfl es.length ((Xj name (Qh g.w.params name) (Ve name (s.toks+1)) v es).length) hlen this
 ·exact PD (k _ _ _ g3 (QA ..) _)
set_option tactic.hygienic true in
theorem bd.EK(fx:Fx g tb K)(he:aj g Γ N n e xe)(ho:aj g Γ N n o xo)(ha:g.pl.EH a=at_):bd g Γ N n (.EK o a e) (.Assign [.Attribute xo at_ apos] xe pos):=by
 intro W A fr env ρ φ M s Nx R X L hA hN hL er st hw
 subst ha
 have hs:W8 [.Attribute xo (g.pl.EH a) apos] xe pos.line env=pure false:=by show RX xe (some (.Attribute xo (g.pl.EH a) apos)) pos.line env=pure false;unfold RX;cases xe<;>rfl
 rewrite[Um];refine aa hs ?_
 refine PA (QH (PA (PD ?_)))
 simp only [P6,if_false]
 refine PA (aS (α:=Unit) he hA hN er st hw (λ u v s1 φ1 M1 q1 Et Ep EC r1=> ?_) LX.p)
 refine PA (PD ?_)
 show PT _ A ((Vv [u] (eval xo env)>>=λ ov=>Sy apos.atName>>=λ zz=>Vv [u,ov] (setAttr ov (g.pl.EH a) u)>>=λ zz=>release [u,ov] [])>>=λ zz=>pure Vl) _ _ s1
 refine PA (PA (Qu (aS (α:=Unit) ho hA hN EC Et q1 (λ ov x s2 φ2 M2 q2 EB EA ET r2=> ?_) λ v s' z=>d5.step Ep.wide _ _ (LX.p _ _ z))))
 refine PA (QH (PA (Qu ?_)))
 have rv:=r1.step EA bG
 have sp:=Ep.trans EA
 clear r1 q1
 split at q2
 case h_2=>exact q2.elim
 case h_1 x i=>
 refine ai (aD q2) λ ob hm q4=> ?_
 clear q2
 refine ai (aD q4) λ Gz Fg q=> ?_
 clear q4
 obtain⟨p,hp,rfl⟩:=r2
 refine ai (EB.hr.at_ i _ hm) λ p' Fz ro=> ?_
 rw[hp] at Fz;cases Fz
 have Lq:=Fg
 cases ob<;>first|cases Fg|skip
 rename_i c vs
 have Fg:(match gM g.pl.P c a with
  |some k=>if k<vs.length then some (O.inst c (vs.set k v)) else if k=vs.length then some (O.inst c (vs++[v])) else none
  |none=>none)=some Gz:=Fg
 clear Lq
 cases hfi:gM g.pl.P c a with
 |none=>rw[hfi] at Fg;cases Fg
 |some k=>
 rw[hfi] at Fg
 dsimp only at Fg
 refine ai (Rm.mp hfi) λ C' h5 h6=> ?_
 obtain⟨ne,es,m,C,g1,g2,hC,hl,ke,rs⟩:=ro
 rw[hC] at h5
 have e5:=PZ h5
 rw[<-e5] at h6
 clear e5 h5
 have ck:=fx.cls c C hC
 have Me:C.fields.findIdx? (· ==a)=some k:=h6
 refine ai (UG.mp Me) λ Nn h7 zz=> ?_
 have IY:C.fields[k]? =some a:=by refine aa (PI Nn) ?_;refine aa (beq_iff_eq.mp h7) ?_;rfl
 have Ho:=cZ (M:=M2) (by refine aa hm ?_;rfl) hp
 have mono:∀{h':QI},Qr p.2 s2.heap h'->∀b o,s2.heap.get? b=some o->¬ow W φ2 M2 b->b7 o (h'.get? b):=λ hs b o e nb=>.inl (hs.extBut b o (λ q=>nb (.inr (q▸Ho.2))) e)
 have kel:=cB ke
 have hlen:es.length=vs.length:=by refine aE rs.length ?_;refine aa (PG _) ?_;rfl
 have fin:∀{h':QI} {tk:Nat},Qr p.2 s2.heap h'->OR g.pl g.w.params φ2 (ow W φ2 M2) h' p Gz->PT (PY g.prog g.w) A (release [u,.ref p.1] []) (λ zz s'=>PT (PY g.prog g.w) A (pure Vl) (FQ g.pl g.w.params g.B W (env::fr) Γ env φ M s Nx R) (d5 g.pl g.w.params g.B W (env::fr) g.cls (EQ env) φ M s X) s') (d5 g.pl g.w.params g.B W (env::fr) g.cls (EQ env) φ M s X) {s2 with heap:=h',toks:=tk}:=by
  intro h' tk hs K8
  obtain⟨F6,FR⟩:=EB.upd (s':={s2 with heap:=h',toks:=tk}) (o':=Gz) hm hp (λ b x zz n2 e=>hs.extBut b x n2 e) rfl rfl K8
  exact wpAny_release (PD ⟨ρ,φ2,_,q,ET.Fb EB FR,F6,(sp.trans FR).wide⟩)
 have nd:((C.fields.take vs.length).map g.pl.EH).Nodup:=by refine aa Ux ?_;exact jA ck.nodup _
 refine sI (fx.KS EB) g1 g2 ck.GQ ck.cd (ck.Kg a (SA IY)) ke ?_ λ h' m' t0 g3 hs tk=> ?_
 ·refine aa hlen ?_
  exact PN hl ck.few
 have Ml:h'.get? p.1=some (R7 (g.pl.ED c) p.2):=hs.extBut _ _ ne g1
 have ME:=rs.mono (PB _) (mono hs) λ b q=>.inl q
 have MC:=rv.mono (PB _) (mono hs) λ b q=>.inl q
 split at Fg
 ·rename_i hk
  cases Fg
  have Hv:((C.fields.take vs.length).map g.pl.EH)[k]? =some (g.pl.EH a):=by refine aa Rj ?_;refine aa (RT hk) ?_;refine aa IY ?_;rfl
  obtain⟨a1,a2⟩:=xV (hsh:=Qh g.w.params (g.pl.EH a)) (key:=.str (g.pl.EH a) t0) (v:=u) ke nd Hv
  exact fin hs ⟨ne,_,m',C,Ml,g3,hC,by refine aa Vp ?_;exact hl,by refine aa Vp ?_;exact a1,by refine aa a2 ?_;exact am.Jv ME MC⟩
 ·split at Fg
  ·rename_i hk FI
   cases Fg
   subst FI
   have hx:g.pl.EH a∉(C.fields.take vs.length).map g.pl.EH:=by
    have Le:((C.fields.take (vs.length+1)).map g.pl.EH).Nodup:=by refine aa Ux ?_;exact jA ck.nodup _
    rw[Q0,IY] at Le
    simp only [WI,Qf,PR,US] at Le
    intro q
    exact(Si.mp Le).2.2 _ q _ (P2.mpr rfl) rfl
   obtain⟨a1,a2⟩:=xW (v:=u) (t0:=t0) ke hx
   refine fin hs ⟨ne,_,m',C,Ml,g3,hC,by refine aa PJ ?_;exact Nn,?_,by refine aa a2 ?_;exact am.append ME (am.c ⟨u,[],rfl,MC,rfl⟩)⟩
   refine aa PJ ?_;refine aa Sr ?_;refine aa Q0 ?_;refine aa IY ?_
   simp only [WI,Qf,PR,US]
   exact a1
  ·cases Fg
end
section
variable{g:Gs}{tb:Tb}{K:RH}{Γ:aH}{N:Nm}{n:Nat}{W W₁ Z V:P5->Prop}{A:Qz}{fr:List Env}{env:Env}{ρ ρ':an}{φ φ1 φ0 φ':az}{M M1 M0 M':AH}{s s1 s0 s':PM}{E0:PL->PM->Prop}{Md:TZ}
theorem aC.GO(er:aC g.pl g.w.params W Γ env ρ φ M s.heap)(st:St g.pl g.w.params g.B W fr φ M s)(sp:av bt φ M s φ' M' s')(hZ:∀b,Z b->s.heap.get? b=none):aC g.pl g.w.params (λ b=>W b∨Z b) Γ env ρ φ' M' s'.heap:=by
 have ho:∀b,ow (λ b=>W b∨Z b) φ' M' b->ow W φ M b∨s.heap.get? b=none:=λ b q=>q.elim (λ q=>q.elim (λ q=>.inl (.inl q)) λ q=>.inr (hZ b q)) λ q=>(sp.own b q).imp .inr id
 refine⟨er.kind,er.glob,er.bi,er.inj,.inl er.Ff,?_,λ n hn=> ?_,er.apart⟩
 ·obtain⟨m,hm,hl⟩:=er.loc
  exact⟨m,bZ.ns hm λ o e=>sp.keep _ o e (λ q=>st.hr.EU _ q er.Ff) id,λ n i hi hk=>(hl n i hi hk).mono sp.pre (sp.E5 bG) ho⟩
 ·obtain⟨c,v,hc,hw,EE,hr⟩:=er.cell n hn
  exact⟨c,v,hc,.inl hw,bZ.cell EE λ o e=>sp.keep _ o e (λ q=>st.hr.EU _ q hw) id,λ i hi=>(hr i hi).mono sp.pre (sp.E5 bG) ho⟩
noncomputable def yY(W:P5->Prop)(env:Env):Prop:=W env.locals/\∀x c,(env.kindOf x=some .cell∨env.kindOf x=some .free)->env.cells.lookup x=some c->W c
theorem aC.places(er:aC g.pl g.w.params W Γ env ρ φ M s.heap):yY W env:=
 ⟨er.Ff,λ x c hx hc=>by obtain⟨c',v,h1,h2,_⟩:=er.cell x hx;rw[hc] at h1;cases h1;exact h2⟩
theorem aC.drop(ew:yY W env)(er:aC g.pl g.w.params W₁ Γ env ρ φ M h)(hk:∀b o,h.get? b=some o->¬Z b->h'.get? b=some o)(hZ:∀b,Z b->W₁ b)(hW:∀b,W b->W₁ b/\¬Z b):aC g.pl g.w.params W Γ env ρ φ M h':=by
 have Fh:∀b o,h.get? b=some o->¬ow W₁ φ M b->b7 o (h'.get? b):=λ b o e n=>.inl (hk b o e λ q=>n (.inl (hZ b q)))
 have ho:∀b,ow W φ M b->ow W₁ φ M b∨h.get? b=none:=λ b q=>.inl (q.imp (λ q=>(hW b q).1) id)
 refine⟨er.kind,er.glob,er.bi,er.inj,ew.1,?_,λ n hn=> ?_,er.apart⟩
 ·obtain⟨m,hm,hl⟩:=er.loc
  exact⟨m,hm.at' λ o e=>hk _ o e (hW _ ew.1).2,λ n i hi hx=>(hl n i hi hx).mono (PB _) Fh ho⟩
 ·obtain⟨c,v,hc,hw,⟨o,e,hd⟩,hr⟩:=er.cell n hn
  have wc:=ew.2 n c hn hc
  exact⟨c,v,hc,wc,⟨o,hk _ o e (hW _ wc).2,hd⟩,λ i hi=>(hr i hi).mono (PB _) Fh ho⟩
theorem aC.stepI(ew:yY W env)(er:aC g.pl g.w.params W₁ Γ env ρ φ M s.heap)(st:St g.pl g.w.params g.B W₁ fr φ M s)(sp:av Z φ M s φ' M' s')(hZ:∀b,Z b->W₁ b)(hW:∀b,W b->W₁ b/\¬Z b):aC g.pl g.w.params W₁ Γ env ρ φ' M' s'.heap:=
 er.step st sp hZ λ b zz q=>⟨λ e=>(hW _ ew.1).2 (e▸q),λ y hy e=>(hW _ (ew.2 y b hy e)).2 q⟩
theorem vN(hA:A.frames=some (env::fr))(hL:env.frame=some L)(zc:St g.pl g.w.params g.B W (env::fr) φ M s)(hW:∀b,W b->W₁ b)(h:d5 g.pl g.w.params g.B W₁ (env::fr) g.cls V φ M s X e s'):
  notedBy Md A env (λ e s'=>YE Md A env (d5 g.pl g.w.params g.B W (env::fr) g.cls V φ M s X) e s') e s':=by
 obtain⟨e,φ2,M2,rfl,q,EB,EA,ex⟩:=h
 refine oL (B:=g.B) (h0:=s.heap) hA EB.frames hL (λ b=>EA.dead) ex λ h' nt t=> ?_
 obtain⟨oe,vs,a0,T,oT,ts,he,hc,hd,HM,h1,I8,HN,hT,GX,h3⟩:=id t
 unfold YE
 refine PA (Qx he hd h1 ?_)
 refine aa (if_neg (show¬((QL T==Qi)=true) from by simp)) ?_
 refine iB (fr:=env::fr) (s:={s' with heap:=h'}) t λ h2 Ld t2=> ?_
 have Kz:=nt.trans Ld
 refine⟨e,φ2,M2,rfl,q,zc.back (fr':=[]) (EB.Fc (λ b o e=>by refine aa (zc.base b o e) ?_;rfl) Kz) hW,EA.Fc EB Kz,ex.1,.inr (.inr ⟨env,fr,L,rfl,hL,?_⟩)⟩
 rw[hL] at t2
 exact t2
inductive Cz(g:Gs)(Γ:aH)(env:Env)(fr:List Env)(W:P5->Prop)(F:List Mine.V->an->AH->Prop)(S:az->AH->QI->List Mine.V->Prop)(V:P5->Prop)(φ:az)(M:AH)(s:PM)(k:Nat)(s':PM):Prop
 |mk (xs:List Mine.V) (ρ':an) (φ':az) (M':AH):k=xs.length->F xs ρ' M'->aC g.pl g.w.params W Γ env ρ' φ' M' s'.heap->St g.pl g.w.params g.B W fr φ' M' s'->av V φ M s φ' M' s'->S φ' M' s'.heap xs->Cz g Γ env fr W F S V φ M s k s'
theorem bd.E3(hi:fy g Γ N n it xi tg)(Gd:tg target)(hm:cS Γ N t target=true)(hb:dZ g Γ N n body xb)(hs:∀env x,QS xi env x=pure x):
  bd g Γ N n (.E3 t it body) (.For target xi xb [] pos):=by
 intro W A fr env ρ φ M s Nx R X L hA hN hL er st hw
 refine wpAny_For ?_ (hs env)
 refine PW (hi W A _ env ρ φ M s _ X (d5 g.pl g.w.params g.B W (env::fr) g.cls (EQ env) φ M s X) hA hN er st hw LX.p) (λ v s0 h=>PW h (λ iv s1 h=> ?_) λ zz zz e=>e) λ zz zz e=>e
 obtain⟨I,Z,S,xs,φ1,M1,rfl,q,Et,Ep,GV,hZ,hS⟩:=h
 have H9:∀b,Z b->W b∨Z b:=λ b q=>.inr q
 have GY:∀b,W b->(W b∨Z b)/\¬Z b:=λ b q=>⟨.inl q,λ z=>by obtain⟨o,e⟩:=st.FK b q;rw[(hZ b z).1] at e;cases e⟩
 have ew:=er.places
 have NB:∀en∈env::fr,∀L,en.frame=some L->¬Z L:=λ en he L hf=>(GY L (st.Fi en he L hf)).2
 have EC:=er.GO st Ep λ b q=>(hZ b q).1
 refine codeAny_forLoop_any (Cz g Γ env (env::fr) (λ b=>W b∨Z b) (λ xs ρ' M'=>u4 (λ x ρ M2 k=>aB (dF t x ρ) λ ρ'=>bq g.pl.P (ag g.pl.P n) body ρ' M2 k R X) xs ρ' M' Nx) (S λ b=>W b∨Z b) (EQ env) φ M s) ?_ xs.length ⟨xs,ρ,φ1,M1,rfl,q,EC,Et,Ep.wide,hS⟩
 rintro k s2 ⟨xs,ρ2,φ2,M2,rfl,q2,ET,EB,EA,hS2⟩
 cases xs with
 |nil=>
  refine GV.done hA.handled hS2 λ h' tk hk=> ?_
  refine RL ⟨ρ2,φ2,M2,q2,ET.drop ew hk H9 GY,EB.drop (s':={s2 with heap:=h',toks:=tk}) hk H9 (λ en he L hf=>⟨NB en he L hf,st.Fi en he L hf⟩) GY,EA.drop (s':={s2 with heap:=h',toks:=tk}) hk (λ b q=>(hZ b q).1) rfl rfl⟩
 |cons x xs=>
  refine PW (GV.next (target:=target) (Q:=λ v s3=>PT (PY g.prog g.w) A (Xw target env v) _ _ s3) H9 NB Gd EB hS2 λ v s3 Fj Fk r3 LY=> ?_) (λ r s3 h=>by rename type_of% h=>oqe;refine ai oqe λ v e h=> ?_;clear oqe;subst e;exact h) λ zz zz e=>e
  have G1:=ET.stepI ew EB Fk H9 GY
  refine ai (aD q2) λ ρ4 hb4 q4=> ?_
  refine iF hm hA.handled hN G1 Fj r3 hb4 λ s4 HP F6 FR=> ?_
  have Jt:=FR.mono λ b q zz=>bu.EQ q
  have IE:av (EQ env) φ M s φ2 M2 s4:=(EA.F5 Fk λ b q=>.inr (hZ b q).1).trans Jt
  refine PW (hb _ A fr env ρ4 φ2 M2 s4 _ R X L hA hN hL HP F6 q4) (λ f s5 h=> ?_) λ e s5 h=>vN hA.frames hL st (λ b q=>.inl q) (d5.step IE _ _ h)
  cases f with
  |next=>
   obtain⟨ρ5,φ5,M5,q5,IC,Hf,Hg⟩:=h
   refine⟨xs.length,Rd _,xs,ρ5,φ5,M5,rfl,q5,IC,Hf,IE.trans Hg,?_⟩
   have spT:=Jt.trans Hg
   have nZ:∀b,Z b->¬EQ env b:=λ b q z=>(GY b (er.FX b z)).2 q
   refine GV.mono spT.pre (spT.E5 λ b q=>.inl (er.FX b q)) spT.FY (λ b o zb e=> ?_) LY
   exact spT.keep b o e (λ q=>Fj.hr.EU b q (.inr zb)) (nZ b zb)
  |ret v=>
   obtain⟨y,φ5,M5,q5,Hf,Hg,r5⟩:=h
   exact⟨y,φ5,M5,q5,st.back (fr':=[]) Hf (λ b q=>.inl q),IE.trans Hg,VR.set (λ b q=>.inl (.inl q)) r5⟩
  |_=>exact h.elim
theorem LX.no{C:Prop}(h:LX g.pl g.w.params g.B W fr g.cls φ M s (λ zz=>False) v s'):C:=h.casesOn λ zz zz zz zz f zz zz zz=>f.elim
theorem d5.no{C:Prop}(h:d5 g.pl g.w.params g.B W fr g.cls V φ M s (λ zz=>False) v s'):C:=h.casesOn λ zz zz zz zz f zz zz zz=>f.elim
theorem bd.EX{body:Ss}{xb:List Sd}(ht:bA g Γ N n t xt)(hb:dZ g Γ N n body xb):bd g Γ N n (.EX t body) (.While xt xb [] pos):=by
 intro W A fr env ρ φ M s Nx R X L hA hN hL er st hw
 obtain⟨k0,hw⟩:=hw
 refine wpAny_While (codeAny_whileLoop (λ k s'=>Cr g.pl g.w.params g.B W (env::fr) Γ env φ M s (λ ρ' M'=>vH (λ ρ M k=>aO g.pl.P (ag g.pl.P n) t ρ M (λ x M1=>aB (bE x) λ b=>k b M1) (λ zz=>False))
   (λ ρ M k=>bq g.pl.P (ag g.pl.P n) body ρ M k (λ zz zz=>False) (λ zz=>False)) k ρ' M' Nx) s') ?_ k0 ⟨ρ,φ,M,hw,er,st,.refl⟩)
 rintro k s1 ⟨ρ1,φ1,M1,q1,EC,Et,Ep⟩
 cases k with
 |zero=>exact q1.elim
 |succ k=>
  refine iL ht hA hN EC Et q1 (λ b s2 φ2 M2 q2 EB EA ET=> ?_) λ v s' z=>z.no
  cases b with
  |false=>
   refine aa (if_neg (by decide)) ?_
   exact RL ⟨ρ1,φ2,M2,q2.2 rfl,ET,EB,Ep.trans EA.wide⟩
  |true=>
   refine aa (if_pos rfl) ?_
   refine PW (hb W A fr env ρ1 φ2 M2 s2 _ _ _ L hA hN hL ET EB (q2.1 rfl)) (λ f s3 h=> ?_) λ v s' z=>z.no
   cases f with
   |next=>
    obtain⟨ρ3,φ3,M3,q3,G1,Fj,Fk⟩:=h
    exact⟨k,Rd _,ρ3,φ3,M3,q3,G1,Fj,(Ep.trans EA.wide).trans Fk⟩
   |ret v=>obtain⟨y,φ5,M5,q5,_⟩:=h;exact q5.elim
   |_=>exact h.elim
end
noncomputable def Cl.depth:Cl->Nat
 |.last _=>0
 |.cls _ _ _ r=>r.depth+1
noncomputable def ef(g:Gs)(Γ:aH)(N:Nm)(n:Nat)(es:Es)(xs:List Qa):Prop:=
 ∀W A fr env ρ φ M s Q E0,cj A fr n->env.scope.names=N->aC g.pl g.w.params W Γ env ρ φ M s.heap->St g.pl g.w.params g.B W fr φ M s->
  iQ g.pl.P (ag g.pl.P n) es ρ M Q->
  PT (PY g.prog g.w) A (forIn xs true λ c r=>if r=true then do let ok<-isTrue c env (eval c env);pure (QW ok) else pure (QW r)) (LB g.pl g.w.params g.B W fr φ M s Q) E0 s
section
variable{g:Gs}{tb:Tb}{K:RH}{Γ:aH}{N:Nm}{n:Nat}{W W₁ Z V:P5->Prop}{A:Qz}{fr:List Env}{env:Env}{ρ ρ':an}{φ φ1 φ0 φ':az}{M M1 M0 M':AH}{s s1 s0 s':PM}{E0:PL->PM->Prop}{Md:TZ}
theorem ef.nil:ef g Γ N n .nil []:=by
 intro W A fr env ρ φ M s Q E0 hA hN er st hw
 refine aa RN ?_
 exact PD ⟨φ,M,hw,st,.refl⟩
theorem sW(env:Env):∀xs:List Qa,(forIn xs false λ c r=>if r=true then do let ok<-isTrue c env (eval c env);pure (QW ok) else pure (QW r):Sem Bool)=pure false:=by
 intro xs
 induction xs with
 |nil=>
  refine aa RN ?_;rfl
 |cons x xs ih=>
  rewrite[Q5];refine aa (if_neg (by decide)) ?_;refine aa (pure_bind _ _) ?_
  exact ih
theorem ef.cons{e:E}{r:Es}{x:Qa}{xs:List Qa}(h1:bA g Γ N n e x)(h2:ef g Γ N n r xs):ef g Γ N n (.cons e r) (x::xs):=by
 intro W A fr env ρ φ M s Q E0 hA hN er st hw
 rewrite[Q5];refine aa (if_pos rfl) ?_
 refine PA (PA (iL h1 hA hN er st hw (λ b s1 φ1 M1 q Et Ep EC=>PD ?_) λ v s' z=>z.no))
 dsimp only
 cases b with
 |true=>exact PW (h2 W A fr env ρ φ1 M1 s1 Q E0 hA hN EC Et (q.1 rfl)) (LB.step Ep) λ zz zz e=>e
 |false=>
  refine aa (sW _ _) ?_
  exact PD ⟨φ1,M1,q.2 rfl,Et,Ep⟩
inductive CS(g:Gs)(W:P5->Prop)(φ:az)(M:AH)(h:QI)(D:P5)(pre:List Mine.V):Prop
 |mk (us:List PL) (m:Nat):h.get? D=some (bb us m)->am g.pl g.w.params φ (ow W φ M) h pre us->CS g W φ M h D pre
noncomputable def iD(D:P5)(env:Env)(ns:List Str)(b:P5):Prop:=b=D∨bu env ns b
structure jQ(D:P5)(W:P5->Prop)(fr:List Env)(env:Env)(ns:List Str):Prop where
 w:W D
 loc:D≠env.locals
 cells:∀x c,(env.kindOf x=some .cell∨env.kindOf x=some .free)->env.cells.lookup x=some c->c≠D
 fr:∀en∈fr,∀L,en.frame=some L->L≠D/\¬bu env ns L
noncomputable def zH(elt:Qa)(acc:PL)(env:Env):Sem Unit:=do let _<-call (.builtin "list.append") [acc,<-eval elt env]
noncomputable def la(e:Qa)(elt:Qa)(gens:List Q7)(k:Nat)(acc:PL)(env:Env):Sem Unit:=
 match gens[k+1]? with
 |some g'=>do
  let x<-eval g'.iter env
  Sy g'.iter.pos
  let x<-if g'.is_async !=0 then foldedIterable g'.iter x else QS g'.iter env x
  let _<-runOwn (.compStart e (k+1) (<-Vv [x] (if g'.is_async !=0 then asyncIter x else Xv x)) acc env) env
 |none=>zH elt acc env
inductive vy(g:Gs)(W:P5->Prop)(fr:List Env)(Γ:aH)(env:Env)(ρ:an)(ns:List Str)(D:P5)(pre:List Mine.V)(φ:az)(M:AH)(s:PM)(Kc:List Mine.V->AH->Prop)(s':PM):Prop
 |mk (out:List Mine.V) (φ':az) (M':AH):Kc out M'->aC g.pl g.w.params W Γ env ρ φ' M' s'.heap->St g.pl g.w.params g.B W fr φ' M' s'->av (iD D env ns) φ M s φ' M' s'->CS g W φ' M' s'.heap D (pre++out)->vy g W fr Γ env ρ ns D pre φ M s Kc s'
noncomputable def eF(g:Gs)(Γ:aH)(N:Nm)(ns:List Str)(n:Nat)(e elt:Qa)(gens:List Q7)(k:Nat)(r:Cl):Prop:=
 ∀W A fr env ρ φ M s D pre Kc E0,cj A fr n->env.scope.names=N->aC g.pl g.w.params W Γ env ρ φ M s.heap->St g.pl g.w.params g.B W fr φ M s->CS g W φ M s.heap D pre->jQ D W fr env ns->(∀i∈Cl.E6 r,ρ.get i=none)->
  pre.length+(r.depth+1)*ar<=Rn->lQ g.pl.P (ag g.pl.P n) r ρ M Kc->
  PT (PY g.prog g.w) A (la e elt gens k (.ref D) env) (λ zz=>vy g W fr Γ env ρ ns D pre φ M s Kc) E0 s
noncomputable def pW(e elt:Qa)(gens:List Q7)(k:Nat)(it acc:PL)(env:Env):Sem Fin:=do
 match gens[k+1]? with
 |some g'=>
  let x<-eval g'.iter env
  Sy g'.iter.pos
  let x<-if g'.is_async !=0 then foldedIterable g'.iter x else QS g'.iter env x
  let _<-runOwn (.compStart e (k+1) (<-Vv [x] (if g'.is_async !=0 then asyncIter x else Xv x)) acc env) env
 |none=>zH elt acc env
 again (.compLoop e k it acc env)
theorem z6(h:PT Md A (la e elt gens k acc env) (λ zz s'=>PT Md A (again (.compLoop e k it acc env)) Q E0 s') E0 s):PT Md A (pW e elt gens k it acc env) Q E0 s:=by
 have eq:pW e elt gens k it acc env=(la e elt gens k acc env>>=λ zz=>again (.compLoop e k it acc env)):=by
  unfold pW la
  cases gens[k+1]? with
  |none=>simp only [bind_assoc,pure_bind]
  |some g'=>
   dsimp only
   cases h:(g'.is_async !=0)
   ·simp only [P6,if_false,bind_assoc,pure_bind]
   ·simp only [if_true,bind_assoc,pure_bind]
 refine aa eq ?_
 exact PA h
theorem ta(elt:Qa)(gens:List Q7)(scope:Xu)(pos:Pos)(k:Nat)(it acc:PL)(env:Env)(hk:gens[k]? =some ⟨target,iter,ifs,0⟩):
  compTurn (.ListComp elt gens scope pos) k it acc env=(do
   Sy iter.pos
   match<-WR it with
   |none=>pure (.done .next)
   |some v=>
    Ul target it v
    Xw target env v
    let ok<-(forIn ifs true λ c r=>if r=true then do let ok<-isTrue c env (eval c env);pure (QW ok) else pure (QW r))
    if ok then pW (.ListComp elt gens scope pos) elt gens k it acc env
    else again (.compLoop (.ListComp elt gens scope pos) k it acc env)):=by
 unfold compTurn
 dsimp only
 refine aa hk ?_
 rfl
end
section
variable{g:Gs}{tb:Tb}{K:RH}{Γ:aH}{N:Nm}{n:Nat}{W W₁ Z V:P5->Prop}{A:Qz}{fr:List Env}{env:Env}{ρ ρ' ρ1:an}{φ φ1 φ0 φ':az}{M M1 M0 M':AH}{s s1 s0 s':PM}{E0:PL->PM->Prop}{Md:TZ}{D:P5}{pre:List Mine.V}{ns:List Str}
theorem xQ:∀{is:List Nat} {vs:List Mine.V} {ρ ρ1:an},an.Fp ρ is vs=some ρ1->∀i,i∉is->ρ1.get i=ρ.get i:=by
 intro is
 induction is with
 |nil=>
  intro y1
  cases y1 with
  |nil=>
   intro y2 y3 h i y4
   cases h;rfl
  |cons y5 y6=>
   intro y7 y8 h y9 G2
   cases h
 |cons j is ih=>
  intro Gv
  cases Gv with
  |nil=>
   intro HJ Jd h Jc Kp
   cases h
  |cons v vs=>
   intro ρ ρ1 h i hi
   rw[PU,not_or] at hi
   have h:an.Fp (an.put ρ j v) is vs=some ρ1:=h
   refine aa (ih h i hi.2) ?_;refine aa (an.EP ρ v hi.1) ?_;rfl
theorem pH(h:dF t x ρ=some ρ1):∀i,i∉t.list->ρ1.get i=ρ.get i:=by
 intro i hi
 cases t with
 |one j=>
  cases h
  exact an.EP ρ x λ e=>hi (by refine aa e ?_;exact .head _)
 |many is=>
  refine ai (Rm.mp h) λ vs zz hp=> ?_
  exact xQ hp i hi
theorem aC.weaken(er:aC g.pl g.w.params W Γ env ρ1 φ M h)(hw:∀i,ρ.get i=none∨ρ.get i=ρ1.get i):aC g.pl g.w.params W Γ env ρ φ M h:=by
 have ok:∀{i:Nat} {u:Option PL},eS g.pl g.w.params φ (ow W φ M) h (ρ1.get i) u->eS g.pl g.w.params φ (ow W φ M) h (ρ.get i) u:=λ{i u} q=>by
  rcases hw i with e|e
  ·refine aa e ?_;trivial
  ·refine aa e ?_;exact q
 refine⟨er.kind,er.glob,er.bi,er.inj,er.Ff,?_,λ x hx=> ?_,er.apart⟩
 ·obtain⟨m,hm,hl⟩:=er.loc
  exact⟨m,hm,λ x i hi hx=>ok (hl x i hi hx)⟩
 ·obtain⟨c,v,hc,IS,EE,hr⟩:=er.cell x hx
  exact⟨c,v,hc,IS,EE,λ i hi=>ok (hr i hi)⟩
theorem CS.step(cs:CS g W φ M s.heap D pre)(st:St g.pl g.w.params g.B W fr φ M s)(sp:av V φ M s φ' M' s')(hV:∀b,V b->W b)(hD:¬V D)(wD:W D):CS g W φ' M' s'.heap D pre:=by
 obtain⟨us,m,e,rs⟩:=cs
 exact⟨us,m,(sp.keep D _ e (λ q=>st.hr.EU D q wD) hD).eq (by simp),rs.step sp hV⟩
theorem As(st:St g.pl g.w.params g.B W fr φ M s)(cs:CS g W φ M s.heap D pre)(wD:W D)(hF:∀en∈fr,∀L,en.frame=some L->L≠D)(r:VR g.pl g.w.params φ (ow W φ M) s.heap x v)(hle:pre.length<=Rn)
  (k:∀s',St g.pl g.w.params g.B W fr φ M s'->av (λ b=>b=D) φ M s φ M s'->CS g W φ M s'.heap D (pre++[x])->Q .none s'):PT (PY g.prog g.w) A (call (.builtin "list.append") [.ref D,v]) Q E0 s:=by
 obtain⟨us,m,gg,rs⟩:=cs
 refine QY slot_list_append ⟨_,gg,rfl⟩ YM ?_ (args_list_append _ _)
 show PT _ _ (updateSeq D (·.push v)>>=λ zz=>Wk Qi) _ _ s
 have Fe:us.toArray.size<=Rn:=by have:=rs.length;refine aa PX ?_;refine aa this ?_;exact hle
 refine PA (wpAny_updateSeq gg rfl (PD (Yc Qi ⟨rfl,?_⟩)) Fe (by refine aa (XO _) ?_;exact Sz Fe))
 obtain⟨m',Hi⟩:=jC (·.push v) us m
 have g2:(s.heap.update D (Q3 (·.push v))).get? D=some (bb (us++[v]) m'):=by
  refine aa (P7 _ gg (by refine aa Hi ?_;rfl)) ?_;refine aa Hi ?_
  simp
 have hs:Qr D s.heap (s.heap.update D (Q3 (·.push v))):=QA ..
 obtain⟨a1,a2⟩:=ng hs ⟨_,g2⟩
 have Fh:∀b o,s.heap.get? b=some o->¬ow W φ M b->b7 o ((s.heap.update D (Q3 (·.push v))).get? b):=λ b o e nb=>.inl (a1 b o e λ q=>nb (.inl (q▸wD)))
 exact k _ (st.touched (Z:=λ b=>b=D) (s':={s with heap:=s.heap.update D (Q3 (·.push v))}) a1 (λ b q=>q▸wD) a2 λ en he L hf q=>hF en he L hf q) (.touched a1 a2 rfl rfl)
  ⟨us++[v],m',g2,am.append (rs.mono (PB _) Fh λ b q=>.inl q) (am.c ⟨v,[],rfl,r.mono (PB _) Fh λ b q=>.inl q,rfl⟩)⟩
theorem jQ.HU(ap:jQ D W fr env ns):¬bu env ns D:=by
 rintro(q|⟨x,_,hx,hc⟩)
 ·exact ap.loc q
 ·exact ap.cells x D (.inl hx) hc rfl
theorem aC.Js(er:aC g.pl g.w.params W Γ env ρ φ M s.heap)(st:St g.pl g.w.params g.B W fr φ M s)(ap:jQ D W fr env ns)(sp:av (λ b=>b=D) φ M s φ' M' s'):aC g.pl g.w.params W Γ env ρ φ' M' s'.heap:=
 er.step st sp (λ b q=>q▸ap.w) λ b zz q=>⟨λ e=>ap.loc (q.symm.trans e),λ y hy e=>ap.cells y b hy e q⟩
theorem eF.last(hk:gens[k+1]? =none)(he:aj g Γ N n el elt):eF g Γ N ns n e elt gens k (.last el):=by
 intro W A fr env ρ φ M s D pre Kc E0 hA hN er st cs ap Go hb hw
 unfold la
 refine aa hk ?_
 show PT _ A (eval elt env>>=λ v=>call (.builtin "list.append") [.ref D,v]>>=λ zz=>pure ()) _ _ s
 refine PA (aS (α:=Unit) he hA hN er st hw (λ v x s1 φ1 M1 q Et Ep EC r1=> ?_) λ v s' z=>z.no)
 have Jn:=cs.step st Ep bG id ap.w
 refine PA (As Et Jn ap.w (λ en he L hf=>(ap.fr en he L hf).1) r1 (by have:(Cl.last el).depth=0:=rfl;exact ae 0x4830c03fa20c300fe0a186a0533f06149102 rfl pre.length ((Cl.last el).depth) hb) λ s2 EB EA Mw=>PD ?_)
 exact⟨[x],φ1,M1,q,EC.Js Et ap EA,EB,Ep.wide.trans (EA.mono λ b q zz=>.inl q),Mw⟩
inductive zR(g:Gs)(W:P5->Prop)(fr:List Env)(Γ:aH)(env:Env)(ρ:an)(ns:List Str)(D:P5)(pre:List Mine.V)(Z:P5->Prop)(φ:az)(M:AH)(s:PM)(Q:List Mine.V->AH->Prop)(s':PM):Prop
 |mk (out:List Mine.V) (φ':az) (M':AH) (s1:PM):Q out M'->out.length<=ar->aC g.pl g.w.params W Γ env ρ φ' M' s1.heap->St g.pl g.w.params g.B W fr φ' M' s1->av (λ b=>iD D env ns b∨Z b) φ M s φ' M' s1->CS g W φ' M' s1.heap D (pre++out)->(∀b o,s1.heap.get? b=some o->¬Z b->s'.heap.get? b=some o)->s'.os=s1.os->s'.gens=s1.gens->zR g W fr Γ env ρ ns D pre Z φ M s Q s'
noncomputable def nM(P:dH)(c:cM)(ρ:an)(t:jp)(es:Es)(r:Cl)(x:Mine.V)(M2:AH)(k:List Mine.V->AH->Prop):Prop:=
 aB (dF t x ρ) λ ρ'=>iQ P c es ρ' M2 λ b M3=>(b=true->lQ P c r ρ' M3 k)/\(b=false->k [] M3)
inductive Cv(g:Gs)(W:P5->Prop)(fr:List Env)(Γ:aH)(env:Env)(ρ:an)(D:P5)(pre:List Mine.V)(V:P5->Prop)(φ:az)(M:AH)(s:PM)(F:List Mine.V->List Mine.V->AH->Prop)(S:az->AH->QI->List Mine.V->Prop)(k:Nat)(s':PM):Prop
 |mk (xs acc:List Mine.V) (φ':az) (M':AH):k=xs.length->F xs acc M'->aC g.pl g.w.params W Γ env ρ φ' M' s'.heap->St g.pl g.w.params g.B W fr φ' M' s'->av V φ M s φ' M' s'->S φ' M' s'.heap xs->CS g W φ' M' s'.heap D (pre++acc)->acc.length<=ar->Cv g W fr Γ env ρ D pre V φ M s F S k s'
theorem AI{a b c S L:Nat}(hb:a+(b+2)*S<=L)(h:c<=S):a+c+(b+1)*S<=L:=
 have hb:a+((b+1)*S+S)<=L:=Nat.succ_mul (b+1) S▸hb
 PN (RU (Nat.add_assoc a c _)) (PN (Xh (PN (RU (WD c _)) (Xh h _)) a) hb)
theorem tK{k:Nat}{gens:List Q7}{ifs:List Qa}{scope:Xu}{t:jp}{es:Es}{r:Cl}{I:P5}{tg:Qa->Prop}{S:(P5->Prop)->az->AH->QI->List Mine.V->Prop}{xs:List Mine.V}{Q:List Mine.V->AH->Prop}
  (hk:gens[k]? =some ⟨target,iter,ifs,0⟩)(hm:cS Γ N t target=true)(FS:∀x∈cY target,x∈ns)(hifs:ef g Γ N n es ifs)(hr:eF g Γ N ns n (.ListComp elt gens scope pos) elt gens k r)(Gd:tg target)(GV:ig g A I Z tg S)
  (hZ:∀b,Z b->W b)(hZF:∀en∈fr,∀L,en.frame=some L->¬Z L)(hZD:¬Z D)(hZE:∀b,Z b->b≠env.locals/\∀y,(env.kindOf y=some .cell∨env.kindOf y=some .free)->env.cells.lookup y≠some b)
  (hA:cj A fr n)(hN:env.scope.names=N)(er:aC g.pl g.w.params W Γ env ρ φ M s.heap)(st:St g.pl g.w.params g.B W fr φ M s)(hS:S W φ M s.heap xs)(cs:CS g W φ M s.heap D pre)(ap:jQ D W fr env ns)
  (Go:∀i∈t.list++r.E6,ρ.get i=none)(hnd:(t.list++r.E6).Nodup)(hb:pre.length+(r.depth+2)*ar<=Rn)
  (hw:bP (nM g.pl.P (ag g.pl.P n) ρ t es r) xs [] M Q):
  Sl (PY g.prog g.w) A (.compLoop (.ListComp elt gens scope pos) k (.ref I) (.ref D) env) (λ rr s'=>rr=.ok .next/\zR g W fr Γ env ρ ns D pre Z φ M s Q s') s:=by
 have OY:∀b,Z b->¬bu env ns b:=by
  rintro b q (z|⟨x,_,hx,hc⟩)
  ·exact(hZE b q).1 z
  ·exact(hZE b q).2 x (.inl hx) hc
 refine codeAny_loop rfl (Cv g W fr Γ env ρ D pre (λ b=>iD D env ns b∨Z b) φ M s (λ xs acc M'=>bP (nM g.pl.P (ag g.pl.P n) ρ t es r) xs acc M' Q) (S W)) ?_ xs.length
  ⟨xs,[],φ,M,rfl,hw,er,st,.refl,hS,by refine aa (Qc _) ?_;exact cs,Ry _⟩
 rintro k' s1 ⟨xs,acc,φ1,M1,rfl,q1,EC,Et,Ep,hS1,Jn,HC⟩
 show PT _ A ((compTurn (.ListComp elt gens scope pos) k (.ref I) (.ref D) env).onRaise (λ x=>do XA x env;theTreesLotGoes x)) _ _ s1
 refine wpAny_noted ?_
 refine aa (ta elt gens scope pos k (.ref I) (.ref D) env hk) ?_
 refine PA (QH ?_)
 cases xs with
 |nil=>
  refine PA (GV.done hA.handled hS1 λ h' tk FT=>PD ?_)
  exact⟨rfl,acc,φ1,M1,s1,q1,HC,EC,Et,Ep,Jn,FT,rfl,rfl⟩
 |cons x xs=>
  refine PA (PW (GV.next (target:=target) (Q:=λ v s3=>PT (PY g.prog g.w) A _ _ _ s3) hZ hZF Gd Et hS1 λ v s3 Fj Fk r3 LY=> ?_) (λ r s3 h=>by rename type_of% h=>oqe;refine ai oqe λ v e h=> ?_;clear oqe;subst e;exact PA h) λ zz zz e=>e)
  have G1:=EC.step Et Fk hZ λ b zz q=>hZE b q
  have Pt:=Jn.step Et Fk hZ hZD ap.w
  refine ai (aD q1) λ ρ4 hb4 q4=> ?_
  refine PA (iF hm hA.handled hN G1 Fj r3 hb4 λ s4 HP F6 FR=> ?_)
  have FR:=FR.mono λ b q zz=>bu.sub FS q
  have Nz:∀b,bu env ns b->W b:=λ b q=>G1.FX b (bu.EQ q)
  have Mv:=Pt.step Fj FR Nz ap.HU ap.w
  refine PA (PW (hifs W A fr env ρ4 φ1 M1 s4 _ _ hA hN HP F6 q4) (λ b s5 h=> ?_) λ zz zz e=>e)
  obtain⟨φ5,M5,q5,Hf,Hg⟩:=h
  have IC:=HP.Fb F6 Hg
  have Ki:=Mv.step F6 Hg bG id ap.w
  have Ju:av (iD D env ns) φ1 M1 s3 φ5 M5 s5:=(FR.mono λ b q zz=>.inr q).trans Hg.wide
  have weak:∀i,ρ.get i=none∨ρ.get i=ρ4.get i:=λ i=>by
   by_cases h:i∈t.list
   ·exact .inl (Go i (Qt.mpr (.inl h)))
   ·exact .inr (pH hb4 i h).symm
  have O5:∀b,iD D env ns b->W b:=λ b q=>q.elim (λ q=>q▸ap.w) (Nz b)
  have N7:∀b,Z b->¬iD D env ns b:=λ b q z=>z.elim (λ z=>hZD (z▸q)) (OY b q)
  have again:∀{φ6 M6 s6 out},aC g.pl g.w.params W Γ env ρ4 φ6 M6 s6.heap->St g.pl g.w.params g.B W fr φ6 M6 s6->av (iD D env ns) φ1 M1 s3 φ6 M6 s6->CS g W φ6 M6 s6.heap D (pre++(acc++out))->((acc++out).length<=ar/\bP (nM g.pl.P (ag g.pl.P n) ρ t es r) xs (acc++out) M6 Q)->
    ∃m,m<(x::xs).length/\Cv g W fr Γ env ρ D pre (λ b=>iD D env ns b∨Z b) φ M s (λ xs acc M'=>bP (nM g.pl.P (ag g.pl.P n) ρ t es r) xs acc M' Q) (S W) m s6:=by
   intro φ6 M6 s6 out Mo K0 ID Mu q6
   refine⟨xs.length,Rd _,xs,acc++out,φ6,M6,rfl,q6.2,Mo.weaken weak,K0,(Ep.trans (Fk.mono λ b q zz=>.inr q)).trans (ID.mono λ b q zz=>.inl q),?_,Mu,q6.1⟩
   exact GV.mono ID.pre (ID.E5 O5) ID.FY (λ b o zb e=>ID.keep b o e (λ q=>Fj.hr.EU b q (hZ b zb)) (N7 b zb)) LY
  cases b with
  |false=>
   refine aa (if_neg (by decide)) ?_
   exact PD ⟨rfl,again IC Hf Ju (by refine aa (Qc _) ?_;exact Ki) (q5.2 rfl)⟩
  |true=>
   refine aa (if_pos rfl) ?_
   refine z6 (PW (hr W A fr env ρ4 φ5 M5 s5 D (pre++acc) _ _ hA hN IC Hf Ki ap (λ i hi=> ?_) ?_ (q5.1 rfl)) (λ zz s6 h=> ?_) λ zz zz e=>e)
   ·have h2:i∉t.list:=λ q=>(Si.mp hnd).2.2 i q i hi rfl
    refine aa (pH hb4 i h2) ?_
    exact Go i (Qt.mpr (.inr hi))
   ·refine aa PJ ?_
    exact AI hb HC
   ·obtain⟨out,φ6,M6,q6,Mo,K0,ID,Mu⟩:=h
    exact PD ⟨rfl,again Mo K0 (Ju.trans ID) (by refine aE (Th _ _ _) ?_;exact Mu) q6⟩
end
section
variable{g:Gs}{tb:Tb}{K:RH}{Γ:aH}{N:Nm}{n:Nat}{W W₁ Z V:P5->Prop}{A:Qz}{fr:List Env}{env:Env}{ρ ρ' ρ1:an}{φ φ1 φ0 φ':az}{M M1 M0 M':AH}{s s1 s0 s':PM}{E0:PL->PM->Prop}{Md:TZ}{D:P5}{pre:List Mine.V}{ns:List Str}
theorem kR(hk:gens[k]? =some ⟨target,iter,ifs,0⟩)
  (h0:Sl (PY g.prog g.w) A (.compLoop (.ListComp elt gens scope pos) k it acc env) R s)
  (h:∀E,PT (PY g.prog g.w) A (Xv it) (λ MP s'=>Sl (PY g.prog g.w) A (.compLoop (.ListComp elt gens scope pos) k MP acc env) R s') E s):
  Sl (PY g.prog g.w) A (.compStart (.ListComp elt gens scope pos) k it acc env) R s:=by
 refine Wm ?_
 show PT _ _ ((compStart (.ListComp elt gens scope pos) k it acc env).onRaise (λ x=>do XA x env;Sy theWindowsPlace)) _ _ s
 refine wpAny_notedAt ?_
 unfold compStart
 have hc:clausesOf (.ListComp elt gens scope pos)=gens:=rfl
 refine aa hc ?_;refine aa hk ?_
 show PT _ _ (ask>>=_) _ _ s
 refine PA (VZ (wpAny_ite ?_))
 split
 ·first
   |exact PA (PD (PD (Ww rfl h0)))
   |exact PD (Ww rfl h0)
 ·refine PA (TE ?_)
  show PT _ _ (Sy iter.pos>>=_) _ _ s
  exact PA (QH (PA (PW (h _) (λ MP s' h'=>PD (Ww rfl h')) λ zz zz x=>x)))
theorem eF.cls
  (hk:gens[k+1]? =some ⟨target,iter,ifs,0⟩)(hs:∀env x,QS iter env x=pure x)(hi:fy g Γ N n it iter tg)(Gd:tg target)(hm:cS Γ N t target=true)(FS:∀x∈cY target,x∈ns)(hifs:ef g Γ N n es ifs)
  (hnd:(t.list++r.E6).Nodup)(hr:eF g Γ N ns n (.ListComp elt gens scope pos) elt gens (k+1) r):eF g Γ N ns n (.ListComp elt gens scope pos) elt gens k (.cls t it es r):=by
 intro W A fr env ρ φ M s D pre Kc E0 hA hN er st cs ap Go hb hw
 unfold la
 refine aa hk ?_
 show PT _ A (eval iter env>>=λ x=>Sy iter.pos>>=λ zz=>QS iter env x>>=λ x=>Vv [x] (Xv x)>>=λ i=>runOwn (.compStart (.ListComp elt gens scope pos) (k+1) i (.ref D) env) env>>=λ zz=>pure ()) _ _ s
 refine PA (PW (hi W A fr env ρ φ M s _ (λ zz=>False) E0 hA hN er st hw λ v s' z=>z.no) (λ v s0 h=> ?_) λ zz zz e=>e)
 refine PA (QH (PA (Rs (hs env v) (PA (Qu (PW h (λ iv s1 h1=> ?_) λ zz zz e=>e))))))
 obtain⟨I,Z,S,xs,φ1,M1,rfl,q,Et,Ep,GV,hZ,hS⟩:=h1
 have H9:∀b,Z b->W b∨Z b:=λ b q=>.inr q
 have GY:∀b,W b->(W b∨Z b)/\¬Z b:=λ b q=>⟨.inl q,λ z=>by obtain⟨o,e⟩:=st.FK b q;rw[(hZ b z).1] at e;cases e⟩
 have ew:=er.places
 have EC:=er.GO st Ep λ b q=>(hZ b q).1
 have Jn:CS g (λ b=>W b∨Z b) φ1 M1 s1.heap D pre:=by
  obtain⟨us,m,e,rs⟩:=cs
  exact⟨us,m,(Ep.keep D _ e (λ q=>st.hr.EU D q ap.w) id).eq (by simp),rs.mono Ep.pre (Ep.E5 bG) λ b q=>q.elim (λ q=>q.elim (λ q=>.inl (.inl q)) λ q=>.inr (hZ b q).1) λ q=>(Ep.own b q).imp .inr id⟩
 have Px:jQ D (λ b=>W b∨Z b) fr env ns:=⟨.inl ap.w,ap.loc,ap.cells,ap.fr⟩
 have main:=tK (W:=λ b=>W b∨Z b) (k:=k+1) (ns:=ns) (D:=D) (pre:=pre) (Q:=Kc) hk hm FS hifs hr Gd GV H9 (λ en he L hf=>(GY L (st.Fi en he L hf)).2) (GY D ap.w).2
  (λ b q=>⟨λ e=>(GY _ ew.1).2 (e▸q),λ y hy e=>(GY _ (ew.2 y b hy e)).2 q⟩) hA hN EC Et hS Jn Px Go hnd (by have:(Cl.cls t it es r).depth=r.depth+1:=rfl;rw[this] at hb;exact hb) q
 refine PA (wpAny_runOwn ?_)
 have fin:Sl (PY g.prog g.w) A (.compLoop (.ListComp elt gens scope pos) (k+1) (.ref I) (.ref D) env) (λ r s'=>match r with|.ok f=>PT (PY g.prog g.w) A (pure ()) (λ zz=>vy g W fr Γ env ρ ns D pre φ M s Kc) E0 s'|.error e=>YE (PY g.prog g.w) A env E0 e s') s1:=by
  refine Uj main λ rr s' h=> ?_
  obtain⟨rfl,out,φ',M',s2,q2,hl,ET,EB,EA,Mw,FI,ho,hg⟩:=h
  refine PD ⟨out,φ',M',q2,ET.drop ew FI H9 GY,EB.drop FI H9 (λ en he L hf=>⟨(GY L (st.Fi en he L hf)).2,st.Fi en he L hf⟩) GY,?_,?_⟩
  ·exact(Ep.wide.F5 EA λ b q=>q.elim .inl λ q=>.inr (hZ b q).1).drop FI (λ b q=>(hZ b q).1) ho hg
  ·obtain⟨us,m,e,rs⟩:=Mw
   exact⟨us,m,FI D _ e (GY D ap.w).2,am.HH EB FI H9 (λ b q=>.inl q) rs⟩
 exact kR hk fin λ E=>GV.again hS fin
end
noncomputable def eP(env:Env):List (Str×RZ)->List (Str×P5)->List (Str×P5)
 |[],acc=>acc
 |(n,k)::r,acc=>if k==.free then eP env r ((n,(env.cells.lookup n).getD 0)::acc) else eP env r acc
theorem vm(scope:Xu)(env:Env)(h:∀x,(x,QC)∈scope.names->(env.cells.lookup x).isSome=true):closureFor scope env=pure (eP env scope.names []):=by
 unfold closureFor
 have key:∀(l:List (Str×RZ)) (acc:List (Str×P5)),(∀x,(x,QC)∈l->(env.cells.lookup x).isSome=true)->
   (forIn l acc λ x cs=>do
    let __s:=cs
    if x.2==QC then do
     let c<-cellOf env x.1
     pure (QW ((x.1,c)::__s))
    else pure (QW __s):Sem (List (Str×P5)))=pure (eP env l acc):=by
  intro l
  induction l with
  |nil=>intro acc _;rfl
  |cons x r ih=>
   intro acc hx
   obtain⟨n,k⟩:=x
   rewrite[Q5]
   unfold eP
   cases hk:(k==QC)
   ·simp only [hk,P6,if_false,pure_bind]
    exact ih acc λ y hy=>hx y (.tail _ hy)
   ·simp only [hk,if_true]
    have OH:k=.free:=by simpa using hk
    obtain⟨c,hc⟩:=P4.mp (hx n (by refine aa OH ?_;exact .head _))
    unfold cellOf
    refine aa hc ?_
    simp only [pure_bind,Option.getD_some]
    exact ih _ λ y hy=>hx y (.tail _ hy)
 have:=key scope.names [] h
 simp only [] at this
 refine aE this ?_
 simp
theorem lR(env:Env)(x:Str):∀(l:List (Str×RZ)) (acc:List (Str×P5)),(eP env l acc).lookup x=(if(x,QC)∈l then some ((env.cells.lookup x).getD 0) else acc.lookup x):=by
 intro l
 induction l with
 |nil=>
  intro acc
  simp[eP]
 |cons y1 r ih=>
  obtain⟨n,k⟩:=y1
  intro acc
  unfold eP
  by_cases hk:k=.free
  ·subst hk
   refine aa (if_pos (by rfl)) ?_;refine aa (ih _) ?_
   by_cases hm:(x,QC)∈r
   ·refine aa (if_pos hm) ?_;refine aa (if_pos (.tail _ hm)) ?_;rfl
   ·refine aa (if_neg hm) ?_;refine aa Qn ?_
    by_cases e:x=n
    ·subst e;simp
    ·have:(x==n)=false:=beq_eq_false_iff_ne.mpr e
     refine aa this ?_;refine aa (if_neg (by simp[e,hm])) ?_;rfl
  ·have OM:(k==QC)=false:=by simpa using hk
   refine aa (if_neg (by refine aa OM ?_;decide)) ?_;refine aa (ih _) ?_
   have:((x,QC)∈(n,k)::r)↔(x,QC)∈r:=by simp[Sb hk]
   by_cases hm:(x,QC)∈r
   ·refine aa (if_pos hm) ?_;refine aa (if_pos (this.mpr hm)) ?_;rfl
   ·refine aa (if_neg hm) ?_;refine aa (if_neg (λ q=>hm (this.mp q))) ?_;rfl
theorem pV:∀(names:List (Str×RZ)) (b:Nat) (acc:List (Str×P5)),Tc b names acc=Tc b names []++acc:=by
 intro names
 induction names with
 |nil=>
  intro y1 y2
  exact rfl
 |cons y3 r ih=>
  obtain⟨n,k⟩:=y3
  intro b acc
  unfold Tc
  split
  ·refine aa (ih (b+1) ((n,b)::acc)) ?_;refine aa (ih (b+1) [(n,b)]) ?_;simp
  ·exact ih b acc
theorem pU:∀(names:List (Str×RZ)) (b:Nat) (acc:List (Str×P5)) {x:Str} {c:P5},(x,c)∈Tc b names acc->(x,S9)∈names∨(x,c)∈acc:=by
 intro names
 induction names with
 |nil=>
  intro y1 y2 y3 y4 h
  exact .inr h
 |cons y5 r ih=>
  obtain⟨n,k⟩:=y5
  intro b acc x c h
  unfold Tc at h
  split at h
  ·rename_i hk
   rcases ih _ _ h with h|h
   ·exact .inl (.tail _ h)
   ·rcases PU.mp h with e|h
    ·cases e
     have:k=.cell:=by simpa using hk
     exact .inl (by refine aa this ?_;exact .head _)
    ·exact .inr h
  ·rcases ih _ _ h with h|h
   ·exact .inl (.tail _ h)
   ·exact .inr h
theorem dc:∀{l:List (Str×RZ)} {x:Str} {k:RZ},(l.map (·.1)).Nodup->(x,k)∈l->l.lookup x=some k
 |(n,k')::r,x,k,nd,h=>by
  rw[PR,QJ] at nd
  refine aa Qn ?_
  rcases PU.mp h with e|h
  ·cases e;simp
  ·have Ft:x≠n:=λ e=>nd.1 (e▸WY (f:=(·.1)) h)
   refine aa (beq_eq_false_iff_ne.mpr Ft) ?_
   exact dc nd.2 h
noncomputable def jt(N:Nm)(p:Str×RZ):RZ:=if(p.2==.free&&N.lookup p.1==some .cell) then .cell else p.2
noncomputable def dM(N:Nm)(names:Nm):Nm:=names.map λ p=>(p.1,jt N p)
theorem sJ(N:Nm):∀(names:Nm) (x:Str),(dM N names).lookup x=(names.lookup x).map λ k=>jt N (x,k):=by
 intro names
 induction names with
 |nil=>
  intro x
  exact rfl
 |cons y1 r ih=>
  obtain⟨n,k⟩:=y1
  intro x
  show List.lookup x ((n,jt N (n,k))::dM N r)=_
  refine aa Qn ?_;refine aa Qn ?_
  by_cases e:x=n
  ·subst e;simp
  ·have hb:(x==n)=false:=beq_eq_false_iff_ne.mpr e
   refine aa hb ?_
   exact ih x
theorem pR(scope:Xu)(env:Env)(hk:env.scope.kind=.function):(RK scope env).names=dM env.scope.names scope.names:=by
 unfold RK dM
 refine RO λ x zz=> ?_
 obtain⟨n,k⟩:=x
 unfold jt RF
 dsimp only
 refine aa hk ?_
 have:(Wa==Wa)=true:=rfl
 refine aa this ?_;refine aa (Yt _) ?_
 split<;>rfl
structure nX(Γ Γc:aH)(N:Nm)(scope:Xu)(tg:List Nat)(ns:List Str):Prop where
 kind:scope.kind=.function
 nodup:(scope.names.map (·.1)).Nodup
 inj:∀x y i,Γc.lookup x=some i->Γc.lookup y=some i->x=y
 own:∀x,scope.names.lookup x=some .local∨scope.names.lookup x=some .cell->∀i,Γc.lookup x=some i->i∈tg
 free:∀x,scope.names.lookup x=some .free->(N.lookup x=some .cell∨N.lookup x=some .free)/\∀i,Γc.lookup x=some i->Γ.lookup x=some i/\i∉tg
 ns:∀x∈ns,scope.names.lookup x=some .local∨scope.names.lookup x=some .cell
theorem xh:∀(ρ:an) (i j:Nat),(an.clear ρ i).get j=if j=i then none else ρ.get j:=by
 intro ρ
 induction ρ with
 |nil=>
  intro i j
  show an.get [] j=_;split<;>rfl
 |cons x r ih=>
  intro y1
  cases y1 with
  |zero=>
   intro y2
   cases y2 with
   |zero=>
    exact rfl
   |succ j=>
    refine aa (if_neg (XR j)) ?_;rfl
  |succ i=>
   intro y3
   cases y3 with
   |zero=>
    refine aa (if_neg (ae 0x980306146001 rfl i)) ?_;rfl
   |succ j=>
    show(an.clear r i).get j=_
    refine aa (ih i j) ?_
    by_cases e:j=i
    ·refine aa (if_pos e) ?_;refine aa (if_pos (ae 0x90c185206144349102 rfl j i e)) ?_;rfl
    ·refine aa (if_neg e) ?_;refine aa (if_neg (ae 0x92600c185206144980349102 rfl j i e)) ?_;rfl
theorem ft:∀(is:List Nat) (ρ:an) (j:Nat),(an.FD ρ is).get j=if j∈is then none else ρ.get j:=by
 intro is
 induction is with
 |nil=>
  intro ρ j
  refine aa (if_neg (by simp)) ?_;rfl
 |cons i is ih=>
  intro ρ j
  show(an.FD (an.clear ρ i) is).get j=_
  refine aa (ih _ _) ?_;refine aa (xh _ _ _) ?_
  by_cases h1:j∈is
  ·refine aa (if_pos h1) ?_;refine aa (if_pos (.tail _ h1)) ?_;rfl
  ·refine aa (if_neg h1) ?_
   by_cases e:j=i
   ·refine aa (if_pos e) ?_;refine aa (if_pos (by refine aa e ?_;exact .head _)) ?_;rfl
   ·refine aa (if_neg e) ?_;refine aa (if_neg (by simp[e,h1])) ?_;rfl
section
variable{g:Gs}{tb:Tb}{K:RH}{Γ Γc:aH}{N:Nm}{n:Nat}{W W₁ Z V:P5->Prop}{A:Qz}{fr:List Env}{env:Env}{ρ ρ' ρ1:an}{φ φ1 φ0 φ':az}{M M1 M0 M':AH}{s s1 s0 s':PM}{E0:PL->PM->Prop}{Md:TZ}{D:P5}{pre:List Mine.V}{ns:List Str}
theorem vj(cn:nX Γ Γc N scope tg ns)(hN:env.scope.names=N)(er:aC g.pl g.w.params W Γ env ρ φ M s.heap)(st:St g.pl g.w.params g.B W fr φ M s)
  (hQ:∀(EW:Env) (s':PM) (Gb:P5->Prop),(∀b,Gb b->s.heap.get? b=none/\∃o,s'.heap.get? b=some o)->({EW with scope:=RK scope env}:Env).scope.names=dM N scope.names->Gb EW.locals->(∀b,bu {EW with scope:=RK scope env} ns b->Gb b)->
   (∀x c,({EW with scope:=RK scope env}:Env).kindOf x=some .cell∨({EW with scope:=RK scope env}:Env).kindOf x=some .free->EW.cells.lookup x=some c->Gb c∨∃y,(env.kindOf y=some .cell∨env.kindOf y=some .free)/\env.cells.lookup y=some c)->(∀b o,s.heap.get? b=some o->s'.heap.get? b=some o)->
   (∃o,s'.heap.get? EW.locals=some o/\o.cls=.type "dict")->
   aC g.pl g.w.params (λ b=>W b∨Gb b) Γc {EW with scope:=RK scope env} (ρ.FD tg) φ M s'.heap->St g.pl g.w.params g.B (λ b=>W b∨Gb b) fr φ M s'->av bt φ M s φ M s'->Q EW s'):
  PT Md A (SE scope env.globals (eP env scope.names []) [] env.qual none .none (some env)) Q E0 s:=by
 simp only [SE,Option.isSome_some,if_true]
 refine PA (UQ ?_)
 refine PA (wpAny_layCells _ (λ name kind cells=>by cases hkc:kind==S9<;>simp) _ _ _ _ ?_)
 have ok:=cellsFrom_ok scope.names (s.heap.push {cls:=.type "dict",data:=.dict #[]}) (s.heap.objs.size+1) [] ⟨λ zz zz hm=>(nomatch hm),VJ⟩ (by refine aa (Qd _ _) ?_;exact PE _)
 rw[Qd] at ok
 refine aa (show({s with heap:=s.heap.push {cls:=.type "dict",data:=.dict #[]}}:PM).heap.objs.size=s.heap.objs.size+1 from Qd ..) ?_
 refine aa (pV _ _ _) ?_
 have JS:=λ x c=>pU scope.names (s.heap.objs.size+1) [] (x:=x) (c:=c)
 have Gk:=λ x=>rM scope.names (s.heap.objs.size+1) [] x
 generalize hcs:Tc (s.heap.objs.size+1) scope.names []=cs at ok JS Gk ⊢
 generalize hs1:({s with heap:=Xz (s.heap.push {cls:=.type "dict",data:=.dict #[]}) scope.names}:PM)=s1
 have Fl:s1.heap=Xz (s.heap.push {cls:=.type "dict",data:=.dict #[]}) scope.names:=by refine aE hs1 ?_;rfl
 have IV:s1.os=s.os/\s1.gens=s.gens:=by refine aE hs1 ?_;exact⟨rfl,rfl⟩
 rw[<-Fl] at ok
 have hL:s1.heap.get? s.heap.objs.size=some {cls:=.type "dict",data:=.dict #[]}:=by refine aa Fl ?_;exact Sn _ _ _ _ (PP _ rfl)
 have EV:∀b o,s.heap.get? b=some o->s1.heap.get? b=some o:=λ b o e=>by refine aa Fl ?_;exact Sn _ _ _ _ (PC _ e)
 have IX:s1.heap.Ns s.heap.objs.size (λ zz=>none):=by
  have:=(Yb s.heap (.type "dict")).keeps (Sn scope.names _)
  refine aa Fl ?_;exact this
 clear hs1 Fl
 refine aa RN ?_
 refine PA (PD (PD ?_))
 have Et:=st.ext (N:=λ b=>s.heap.get? b=none/\∃o,s1.heap.get? b=some o) EV λ b q=>q
 have Ep:av bt φ M s φ M s1:=.ext EV IV.1 IV.2
 have Hr:s.heap.get? s.heap.objs.size=none/\∃o,s1.heap.get? s.heap.objs.size=some o:=⟨aT (PE _),_,hL⟩
 have EE:∀x c,cs.lookup x=some c->s1.heap.IsCell c none/\s.heap.objs.size+1<=c:=λ x c hc=>ok.empty x c (mem_of_lookup hc)
 have Gl:∀x c,cs.lookup x=some c->s.heap.get? c=none/\∃o,s1.heap.get? c=some o:=λ x c hc=>by
  obtain⟨⟨o,ho,_⟩,hle⟩:=EE x c hc
  exact⟨aT (ae 0x905244148185102 rfl s.heap.objs.size c hle),o,ho⟩
 have JK:(RK scope env).names=dM N scope.names:=by refine aa (pR scope env er.kind) ?_;refine aa hN ?_;rfl
 have JX:∀x,(RK scope env).names.lookup x=(scope.names.lookup x).map λ k=>jt N (x,k):=λ x=>by refine aa JK ?_;refine aa (sJ _ _ _) ?_;rfl
 have IK:∀x,scope.names.lookup x=some .free->cs.lookup x=none:=λ x hx=>by
  cases h:cs.lookup x with
  |none=>rfl
  |some c=>
   rcases JS x c (mem_of_lookup h) with h2|h2
   ·have:=dc cn.nodup h2
    rw[hx] at this;cases this
   ·cases h2
 have kinds:∀x,(RK scope env).names.lookup x=some .cell∨(RK scope env).names.lookup x=some .free->scope.names.lookup x=some .cell∨scope.names.lookup x=some .free:=λ x hx=>by
  rw[JX] at hx
  cases hl:scope.names.lookup x with
  |none=>rw[hl] at hx;rcases hx with h|h<;>cases h
  |some k=>
   rw[hl,RW] at hx
   by_cases hf:k=.free
   ·right;refine aa hf ?_;rfl
   ·have e:jt N (x,k)=k:=by unfold jt;refine aa (show((x,k).2==QC)=false by simpa using hf) ?_;rfl
    rw[e] at hx
    rcases hx with h|h
    ·exact .inl h
    ·exact .inr h
 have NI:∀x,scope.names.lookup x=some .free->∃c,(cs++eP env scope.names []).lookup x=some c/\env.cells.lookup x=some c/\(env.kindOf x=some .cell∨env.kindOf x=some .free):=λ x hx=>by
  obtain⟨h1,_⟩:=cn.free x hx
  have hk:env.kindOf x=some .cell∨env.kindOf x=some .free:=by unfold RF;refine aa hN ?_;exact h1
  obtain⟨c,v,hc,_⟩:=er.cell x hk
  refine gu c ?_ hc hk
  refine aa R5 ?_;refine aa (IK x hx) ?_;refine aa Vo ?_;rewrite[lR];refine aa (if_pos (mem_of_lookup hx)) ?_;refine aa hc ?_;rfl
 have own:∀x,scope.names.lookup x=some .cell->∃c,(cs++eP env scope.names []).lookup x=some c/\cs.lookup x=some c:=λ x hx=>by
  obtain⟨c,hc⟩:=P4.mp (Gk x (.inl (mem_of_lookup hx)))
  exact aA c (by refine aa R5 ?_;refine aa hc ?_;rfl) hc
 have F9:∀x c,(cs++eP env scope.names []).lookup x=some c->cs.lookup x=some c∨(cs.lookup x=none/\env.cells.lookup x=some c/\(env.kindOf x=some .cell∨env.kindOf x=some .free)/\scope.names.lookup x=some .free):=λ x c hc=>by
  rw[R5] at hc
  cases h:cs.lookup x with
  |some c'=>rw[h] at hc;exact .inl hc
  |none=>
   rw[h,Vo,lR] at hc
   split at hc
   ·rename_i hm
    have hx:=dc cn.nodup hm
    refine bz (NI x hx) λ c' zz h2 h3=> ?_
    rw[h2] at hc;cases hc
    exact .inr ⟨rfl,h2,h3,hx⟩
   ·cases hc
 refine hQ _ s1 (λ b=>s.heap.get? b=none/\∃o,s1.heap.get? b=some o) (λ b q=>q) JK Hr ?_ ?_ EV ⟨_,hL,rfl⟩ ⟨cn.kind,er.glob,er.bi,cn.inj,.inr Hr,⟨_,IX,λ x i hi hx=> ?_⟩,λ x hx=> ?_,λ x y c hx hy=> ?_⟩ Et Ep
 ·rintro b (q|⟨x,hx,hk,hc⟩)
  ·refine aa q ?_;exact Hr
  ·have hc:(cs++eP env scope.names []).lookup x=some b:=hc
   rcases F9 x b hc with h|⟨_,_,_,h⟩
   ·exact Gl x b h
   ·rcases cn.ns x hx with h2|h2<;>(rw[h] at h2;cases h2)
 ·intro x c _ hc
  rcases F9 x c hc with h|⟨_,h,hk,_⟩
  ·exact .inl (Gl x c h)
  ·exact .inr ⟨x,hk,h⟩
 ·have hx:(RK scope env).names.lookup x=some .local:=hx
  have hl:scope.names.lookup x=some .local:=by
   rw[JX] at hx
   cases hl:scope.names.lookup x with
   |none=>rw[hl] at hx;cases hx
   |some k=>
    rw[hl,RW] at hx
    have hx:jt N (x,k)=.local:=PZ hx
    unfold jt at hx
    split at hx
    ·cases hx
    ·exact congrArg some hx
  refine aa (ft _ _ _) ?_;refine aa (if_pos (cn.own x (.inl hl) i hi)) ?_;trivial
 ·have hx:(RK scope env).names.lookup x=some .cell∨(RK scope env).names.lookup x=some .free:=hx
  rcases kinds x hx with hk|hk
  ·refine ai (own x hk) λ c hc H8=> ?_
   refine⟨c,none,hc,.inr (Gl x c H8),(EE x c H8).1,λ i hi=> ?_⟩
   refine aa (ft _ _ _) ?_;refine aa (if_pos (cn.own x (.inr hk) i hi)) ?_;trivial
  ·refine bz (NI x hk) λ c hc I3 OJ=> ?_
   obtain⟨c',v,h1,h2,h3,h4⟩:=er.cell x OJ
   rw[I3] at h1;cases h1
   refine⟨c,v,hc,.inl h2,h3.keeps EV,λ i hi=> ?_⟩
   obtain⟨hg,OA⟩:=(cn.free x hk).2 i hi
   refine aa (ft _ _ _) ?_;refine aa (if_neg OA) ?_
   exact(h4 i hg).mono (PB _) (λ b o e zz=>.inl (EV b o e)) λ b q=>q.elim (λ q=>q.elim (λ q=>.inl (.inl q)) λ q=>.inr q.1) λ q=>.inl (.inr q)
 ·have hx:(cs++eP env scope.names []).lookup x=some c:=hx
  have hy:(cs++eP env scope.names []).lookup y=some c:=hy
  rcases F9 x c hx with h1|⟨_,h1,k1,_⟩<;>rcases F9 y c hy with h2|⟨_,h2,k2,_⟩
  ·exact name_of_addr ok.apart (mem_of_lookup h1) (mem_of_lookup h2)
  ·obtain⟨c',v,g1,g2,g3,g4⟩:=er.cell y k2
   rw[h2] at g1;cases g1
   obtain⟨o,ho⟩:=st.FK _ g2
   rw[(Gl x c h1).1] at ho;cases ho
  ·obtain⟨c',v,g1,g2,g3,g4⟩:=er.cell x k1
   rw[h1] at g1;cases g1
   obtain⟨o,ho⟩:=st.FK _ g2
   rw[(Gl y c h2).1] at ho;cases ho
  ·exact er.apart x y c h1 h2
end
section
variable{g:Gs}{tb:Tb}{K:RH}{Γ Γc:aH}{N:Nm}{n:Nat}{W W₁ Z V:P5->Prop}{A:Qz}{fr:List Env}{env:Env}{ρ ρ' ρ1:an}{φ φ1 φ0 φ':az}{M M1 M0 M':AH}{s s1 s0 s':PM}{E0:PL->PM->Prop}{Md:TZ}{D:P5}{pre:List Mine.V}{ns:List Str}
theorem pF
  (cn:nX Γ Γc N scope (Cl.E6 (.cls t it es r)) ns)(hs:∀env x,QS iter env x=pure x)(hi:fy g Γ N n it iter tg)(Gd:tg target)(hm:cS Γc (dM N scope.names) t target=true)(FS:∀x∈cY target,x∈ns)
  (hifs:ef g Γc (dM N scope.names) n es ifs)(hr:eF g Γc (dM N scope.names) ns n (.ListComp elt (⟨target,iter,ifs,0⟩::rest) scope pos) elt (⟨target,iter,ifs,0⟩::rest) 0 r)(hnd:(t.list++r.E6).Nodup)(hdp:(r.depth+2)*ar<=Rn)
  (hA:cj A fr n)(hN:env.scope.names=N)(er:aC g.pl g.w.params W Γ env ρ φ M s.heap)(st:St g.pl g.w.params g.B W fr φ M s)(hw:aO g.pl.P (ag g.pl.P n) (.comp mu (.cls t it es r)) ρ M Q X)
  (hfin:∀v C s',LQ g.pl g.w.params g.B (λ b=>W b∨b=C) fr φ M s Q v s'->s.heap.get? C=none->(∃m,s'.heap.Ns C m)->compPost (PY g.prog g.w) A E0 use R v C (.ok .next) s'):
  PT (PY g.prog g.w) A (comprehension (.ListComp elt (⟨target,iter,ifs,0⟩::rest) scope pos) scope env (firstIterPos (⟨target,iter,ifs,0⟩::rest) pos) (newList []) (firstAsync (⟨target,iter,ifs,0⟩::rest)) (firstIter (⟨target,iter,ifs,0⟩::rest) env) use) R E0 s:=by
 replace hw:zr g.pl.P (ag g.pl.P n) it (ρ.FD (Cl.E6 (.cls t it es r))) M _ _:=hw
 have FN:∀x,(x,QC)∈scope.names->(env.cells.lookup x).isSome=true:=λ x hx=>by
  have h:=dc cn.nodup hx
  obtain⟨c,v,hc,_⟩:=er.cell x (by unfold RF;refine aa hN ?_;exact(cn.free x h).1)
  refine aa hc ?_;rfl
 refine wpAny_comprehension_free (g:=⟨target,iter,ifs,0⟩) (gs:=rest) rfl (hs env) (vm scope env FN) cn.kind (λ x hx e=>by obtain⟨n,k⟩:=x;cases e;exact dc cn.nodup hx) ?_
 have Pn:aC g.pl g.w.params W Γ env (ρ.FD (Cl.E6 (.cls t it es r))) φ M s.heap:=er.weaken λ i=>by
  refine aa (ft _ _ _) ?_
  by_cases h:i∈Cl.E6 (.cls t it es r)
  ·refine aa (if_pos h) ?_;exact .inl rfl
  ·refine aa (if_neg h) ?_;exact .inr rfl
 refine PW (hi W A fr env _ φ M s _ (λ zz=>False) E0 hA hN Pn st hw λ v s' z=>z.no) (λ v s0 h=>PW h (λ iv s1 h1=> ?_) λ zz zz e=>e) λ zz zz e=>e
 obtain⟨I,Z,S,xs,φ1,M1,rfl,q,Et,Ep,GV,hZ,hS⟩:=h1
 refine wpAny_newList ?_
 have Hy:∀b o,s1.heap.get? b=some o->(s1.heap.push (bb [] 0)).get? b=some o:=λ b o e=>PC _ e
 have Ka:s1.heap.get? s1.heap.objs.size=none:=aT (PE _)
 have J9:(s1.heap.push (bb [] 0)).get? s1.heap.objs.size=some (bb [] 0):=PP _ rfl
 show PT _ A _ _ E0 {s1 with heap:=s1.heap.push (bb [] 0)}
 generalize hDe:s1.heap.objs.size=D at Ka J9 ⊢
 generalize F2:({s1 with heap:=s1.heap.push (bb [] 0)}:PM)=s2
 have I1:s2.heap=s1.heap.push (bb [] 0):=by refine aE F2 ?_;rfl
 have F3:s2.os=s1.os/\s2.gens=s1.gens:=by refine aE F2 ?_;exact⟨rfl,rfl⟩
 rw[<-I1] at Hy J9
 clear F2 I1 hDe
 have KO:s.heap.get? D=none:=Ep.dead Ka
 have Pp:(λ b=>(W b∨Z b)∨b=D)=(λ b=>W b∨(Z b∨b=D)):=funext λ b=>propext or_assoc
 have EB:St g.pl g.w.params g.B (λ b=>W b∨(Z b∨b=D)) fr φ1 M1 s2:=Pp▸Et.ext (N:=λ b=>b=D) Hy λ b e=>by subst e;exact⟨Ka,_,J9⟩
 have EA:av bt φ M s φ1 M1 s2:=Ep.trans (.ext Hy F3.1 F3.2)
 have ET:=er.GO (Z:=λ b=>Z b∨b=D) st EA λ b e=>e.elim (λ e=>(hZ b e).1) λ e=>e▸KO
 refine vj cn hN ET EB λ EW s4 Gb J8 OB Ji Nh Go H6 hdc HP F6 FR=> ?_
 have LU:∀b,W b->∃o,s.heap.get? b=some o:=st.FK
 have nZ:∀b,W b->¬Z b:=λ b q z=>by obtain⟨o,e⟩:=LU b q;rw[(hZ b z).1] at e;cases e
 have GU:∀b o,s2.heap.get? b=some o->¬Gb b:=λ b o e q=>by rw[(J8 b q).1] at e;cases e
 have Py:∀b,Z b->∃o,s2.heap.get? b=some o:=λ b z=>let⟨o,e⟩:=(hZ b z).2;⟨o,Hy b o e⟩
 have Lf:∀b,Z b->¬Gb b:=λ b z q=>let⟨o,e⟩:=Py b z;GU b o e q
 have Lg:¬Z D:=λ z=>by obtain⟨o,e⟩:=(hZ D z).2;rw[Ka] at e;cases e
 have Li:¬Gb D:=GU D _ J9
 have Lh:¬W D:=λ q=>by obtain⟨o,e⟩:=LU D q;rw[KO] at e;cases e
 have KX:∀b o,s.heap.get? b=some o->∃o',s2.heap.get? b=some o':=EA.alive
 have N6:∀b,W b->¬Gb b:=λ b q z=>by obtain⟨o,e⟩:=LU b q;obtain⟨o',e'⟩:=KX b o e;exact GU b o' e' z
 have JA:∀b,Gb b->s.heap.get? b=none:=λ b z=>EA.dead (J8 b z).1
 have S4:S (λ b=>(W b∨(Z b∨b=D))∨Gb b) φ1 M1 s4.heap xs:=by
  refine GV.mono (PB _) (λ b o e zz=>.inl (H6 b o (Hy b o e))) (λ b z=> ?_) (λ b o zz e=>.inl (H6 b o (Hy b o e))) hS
  rcases z with((z|z|z)|z)|z
  ·exact .inl (.inl (.inl z))
  ·exact .inl (.inl (.inr z))
  ·exact .inr (z▸Ka)
  ·refine .inr ?_
   cases e:s1.heap.get? b with
   |none=>rfl
   |some o=>exact absurd z (GU b o (Hy b o e))
  ·exact .inl (.inr z)
 have Mv:CS g (λ b=>(W b∨(Z b∨b=D))∨Gb b) φ1 M1 s4.heap D []:=⟨[],0,H6 D _ J9,rfl⟩
 have Hz:∀x c,(({EW with scope:=RK scope env}:Env).kindOf x=some .cell∨({EW with scope:=RK scope env}:Env).kindOf x=some .free)->EW.cells.lookup x=some c->Gb c∨W c:=λ x c hx hc=>(Go x c hx hc).imp id λ⟨y,h1,h2⟩=>er.places.2 y c h1 h2
 have Pw:jQ D (λ b=>(W b∨(Z b∨b=D))∨Gb b) fr {EW with scope:=RK scope env} ns:=by
  refine⟨.inl (.inr (.inr rfl)),λ e=>Li (e▸Ji),λ x c hx hc e=> ?_,λ en he L hf=>⟨λ e=>Lh (e▸st.Fi en he L hf),λ q=>N6 L (st.Fi en he L hf) (Nh L q)⟩⟩
  rcases Hz x c hx hc with h|h
  ·exact Li (e▸h)
  ·exact Lh (e▸h)
 have main:=tK (g:=g) (Γ:=Γc) (N:=dM N scope.names) (W:=λ b=>(W b∨(Z b∨b=D))∨Gb b) (Z:=Z) (k:=0) (ns:=ns) (D:=D) (pre:=[]) (Q:=λ vs M'=>if mu then Q (.ref M'.next) (M'.new (.list vs)) else Q (.list vs) M') (env:={EW with scope:=RK scope env})
  (gens:=⟨target,iter,ifs,0⟩::rest) (scope:=scope) (pos:=pos) (elt:=elt) rfl hm FS hifs hr Gd GV (λ b z=>.inl (.inr (.inl z))) (λ en he L hf=>nZ L (st.Fi en he L hf)) Lg
  (λ b z=>⟨λ e=>Lf b z (e▸Ji),λ y hy e=>(Hz y b hy e).elim (Lf b z) λ q=>nZ b q z⟩) hA OB HP F6 S4 Mv Pw (λ i hi=>by refine aa (ft _ _ _) ?_;exact if_pos hi) hnd (by refine aa Rx ?_;refine aa (TQ _) ?_;exact hdp) q
 have fin:Sl (PY g.prog g.w) A (.compLoop (.ListComp elt (⟨target,iter,ifs,0⟩::rest) scope pos) 0 (.ref I) (.ref D) {EW with scope:=RK scope env}) (compPost (PY g.prog g.w) A E0 use R (.ref D) EW.locals) s4:=by
  refine Uj main λ rr s' h=> ?_
  obtain⟨rfl,out,φ',M',s5,q5,hl,IC,Hf,Hg,Ki,H5,ho,hg⟩:=h
  rw[R2] at Ki
  obtain⟨us,m,e5,MD⟩:=Ki
  have I5:∀b,Z b->(W b∨(Z b∨b=D))∨Gb b:=λ b z=>.inl (.inr (.inl z))
  have MM:¬Z EW.locals:=λ z=>Lf _ z Ji
  have LV:∀b,((W b∨b=EW.locals)∨b=D)->((W b∨(Z b∨b=D))∨Gb b)/\¬Z b:=by
   rintro b ((z|z)|z)
   ·exact⟨.inl (.inl z),nZ b z⟩
   ·exact⟨.inr (z▸Ji),z▸MM⟩
   ·exact⟨.inl (.inr (.inr z)),z▸Lg⟩
  have y:St g.pl g.w.params g.B (λ b=>(W b∨b=EW.locals)∨b=D) fr φ' M' s':=Hf.drop H5 I5 (λ en he L hf=>⟨nZ L (st.Fi en he L hf),.inl (.inl (st.Fi en he L hf))⟩) LV
  have sp:av bt φ M s φ' M' s':=((EA.trans FR).F5 Hg λ b z=>.inr (by
   rcases z with(z|z)|z
   ·exact z▸KO
   ·exact JA b (Nh b z)
   ·exact(hZ b z).1)).drop H5 (λ b z=>(hZ b z).1) ho hg
  have eD:=H5 D _ e5 Lg
  refine hfin (.ref D) EW.locals s' (LQ.GP mu (ob:=.list out) (x:=.list out) (λ en he L hf=>.inl (st.Fi en he L hf)) y (λ z=>z.elim Lh λ z=>Li (z▸Ji)) KO sp (λ no=> ?_) ⟨rfl,us,m,eD,hl,?_⟩ q5) (JA _ Ji) ?_
  ·refine VR.l ?_
   exact⟨D,us,m,rfl,no,eD,hl,am.HH Hf H5 I5 (λ b z=>(LV b (.inl z)).1) MD⟩
  ·exact am.mono (List.Ez _ _) (λ zz zz e zz=>.inl e) (λ b q=>.inl q) (am.HH (W:=λ b=>(W b∨b=EW.locals)∨b=D) Hf H5 I5 (λ b z=>(LV b z).1) MD)
  ·obtain⟨m5,OE,_⟩:=IC.loc
   exact⟨m5,OE.at' λ o e=>H5 _ o e MM⟩
 exact kR (gens:=⟨target,iter,ifs,0⟩::rest) (k:=0) rfl fin λ E=>GV.again S4 fin
end
section
variable{g:Gs}{tb:Tb}{K:RH}{Γ Γc:aH}{N:Nm}{n:Nat}{W W₁ Z V:P5->Prop}{A:Qz}{fr:List Env}{env:Env}{ρ ρ' ρ1:an}{φ φ1 φ0 φ':az}{M M1 M0 M':AH}{s s1 s0 s':PM}{E0:PL->PM->Prop}{Md:TZ}{D:P5}{pre:List Mine.V}{ns:List Str}
theorem aj.comp
  (cn:nX Γ Γc N scope (Cl.E6 (.cls t it es r)) ns)(hs:∀env x,QS iter env x=pure x)(hi:fy g Γ N n it iter tg)(Gd:tg target)(hm:cS Γc (dM N scope.names) t target=true)(FS:∀x∈cY target,x∈ns)
  (hifs:ef g Γc (dM N scope.names) n es ifs)(hr:eF g Γc (dM N scope.names) ns n (.ListComp elt (⟨target,iter,ifs,0⟩::rest) scope pos) elt (⟨target,iter,ifs,0⟩::rest) 0 r)(hnd:(t.list++r.E6).Nodup)(hdp:(r.depth+2)*ar<=Rn):
  aj g Γ N n (.comp mu (.cls t it es r)) (.ListComp elt (⟨target,iter,ifs,0⟩::rest) scope pos):=by
 intro W A fr env ρ φ M s Q X hA hN er st hw
 rewrite[eval_ListComp]
 refine pF cn hs hi Gd hm FS hifs hr hnd hdp hA hN er st hw λ v C s' h hC ⟨m,Hi⟩=>⟨m,Hi,λ h' Ht=> ?_⟩
 obtain⟨x,φ',M',q,G4,sp,rx⟩:=h
 have hk:∀b o,s'.heap.get? b=some o->¬(b=C)->h'.get? b=some o:=λ b o e n=>Ht.extBut b o n e
 have nC:∀b,W b->¬b=C:=λ b q e=>by obtain⟨o,e2⟩:=st.FK b q;rw[e,hC] at e2;cases e2
 exact⟨x,φ',M',q,G4.drop (s':={s' with heap:=h'}) hk (λ b e=>.inr e) (λ en he L hf=>⟨nC L (st.Fi en he L hf),st.Fi en he L hf⟩) λ b q=>⟨.inl q,nC b q⟩,sp.drop (s':={s' with heap:=h'}) hk (λ b e=>e▸hC) rfl rfl,
  VR.drop (s':={s' with heap:=h'}) G4 hk (λ b e=>.inr e) (λ b q=>.inl q) rx⟩
theorem ul(hN:env.scope.names=N)(hk:env.scope.kind=.function)(h:fQ N (.ListComp elt gens scope cpos) (.Name t Fo) (Yq elt gens scope cpos).pos.line=true):W8 [.Name t Fo] (.ListComp elt gens scope cpos) line env=pure true:=by
 show RX (.ListComp elt gens scope cpos) (some (.Name t Fo)) line env=pure true
 have J2:env.blockKind=.function:=by unfold Wo;refine aa hk ?_;rfl
 have LA:∀x,env.kindOf x=N.lookup x:=λ x=>by unfold RF;refine aa hN ?_;rfl
 unfold RX
 dsimp only
 refine aa J2 ?_;refine aa (LA _) ?_
 exact congrArg pure h
theorem bd.Mx
  (cn:nX Γ Γc N scope (Cl.E6 (.cls t it es r)) ns)(hs:∀env x,QS iter env x=pure x)(hi:fy g Γ N n it iter tg)(Gd:tg target)(hm:cS Γc (dM N scope.names) t target=true)(FS:∀x∈cY target,x∈ns)
  (hifs:ef g Γc (dM N scope.names) n es ifs)(hr:eF g Γc (dM N scope.names) ns n (.ListComp elt (⟨target,iter,ifs,0⟩::rest) scope pos) elt (⟨target,iter,ifs,0⟩::rest) 0 r)(hnd:(t.list++r.E6).Nodup)(hdp:(r.depth+2)*ar<=Rn)
  (hx:cS Γ N (.one i) (.Name x Fo)=true)(JJ:fQ N (.ListComp elt (⟨target,iter,ifs,0⟩::rest) scope pos) (.Name x Fo) (Yq elt (⟨target,iter,ifs,0⟩::rest) scope pos).pos.line=true):
  bd g Γ N n (.asg (.one i) (.comp mu (.cls t it es r))) (.Assign [.Name x Fo] (.ListComp elt (⟨target,iter,ifs,0⟩::rest) scope pos) G5):=by
 intro W A fr env ρ φ M s Nx R X L hA hN hL er st hw
 rewrite[Um];refine aa (ul hN er.kind JJ) ?_
 refine PA (QH (PA (PD ?_)))
 simp only [if_true]
 show PT _ A ((comprehension _ scope env _ (newList []) _ _ (some λ v=>assignAll v ((TF [.Name x Fo] env).map (·.2)))>>=λ zz=>pure ())>>=λ zz=>pure Vl) _ _ s
 refine PA (PA (pF cn hs hi Gd hm FS hifs hr hnd hdp hA hN er st (show aO g.pl.P (ag g.pl.P n) (.comp mu (.cls t it es r)) ρ M (λ v M1=>aB (dF (.one i) v ρ) λ ρ'=>Nx ρ' M1) X from hw) λ v C s' h hC ⟨m,Hi⟩=> ?_))
 obtain⟨y,φ',M',q,G4,sp,rx⟩:=h
 refine ai (aD q) λ ρ' hb q=> ?_
 have nC:∀b,W b->¬b=C:=λ b q e=>by obtain⟨o,e2⟩:=st.FK b q;rw[e,hC] at e2;cases e2
 have KV:=er.GO (Z:=λ b=>b=C) st sp λ b e=>e▸hC
 show PT _ A (Xw (.Name x Fo) env v) _ _ s'
 refine iF hx hA.handled hN KV G4 rx hb λ s2 ET EB EA=> ?_
 have nP:¬bu env (cY (.Name x Fo)) C:=λ z=>nC C (er.FX C (bu.EQ z)) rfl
 refine aA m (bZ.ns Hi λ o e=>EA.keep C o e (λ q=>G4.hr.EU C q (.inr rfl)) nP) λ h' Ht=>PD (PD ?_)
 have hk:∀b o,s2.heap.get? b=some o->¬(b=C)->h'.get? b=some o:=λ b o e n=>Ht.extBut b o n e
 exact⟨ρ',φ',M',q,aC.drop (W:=W) er.places ET hk (λ b e=>.inr e) (λ b q=>⟨.inl q,nC b q⟩),EB.drop (s':={s2 with heap:=h'}) hk (λ b e=>.inr e) (λ en he L hf=>⟨nC L (st.Fi en he L hf),st.Fi en he L hf⟩) (λ b q=>⟨.inl q,nC b q⟩),
  (sp.wide.trans (EA.mono λ b q zz=>bu.EQ q)).drop (s':={s2 with heap:=h'}) hk (λ b e=>e▸hC) rfl rfl⟩
end
end Mine
end
section
namespace Mine
open PySem PySem.W PySem.Calls PyProof.Rows PySem.SeqAt Builtin
noncomputable def my(K:RH)(C:P5):Bool:=match K.lookup C with
 |some ⟨_,_,.cls cd,sl⟩=> !cd.abstract&&(!cd.hasDel&&((sl.toList[4]?).join==some (.builtin "Exception.__new__")&&(!cd.mro.isEmpty&&(XX K C (.ref C)==some true&&(XX K C (.type "Exception")==some true&&
   (XX K C (.type "BaseException")==some true&&(XX K C (.type "AttributeError")==some false&&(XX K C (.type "NameError")==some false&&(XX K C (.type "type")==some false&&(typeIn K (.ref C)==some (.type "type")&&(specialIn K (.ref C) "__call__" ==some (some (.builtin "type.__call__"))&&instIn K (.ref C) (.type "type")==some true)))))))))))
 |_=>false
structure yX(M:TZ)(h:QI)(C:P5):Prop where
 obj:∃oc od cd sl,h.get? C=some ⟨oc,od,.cls cd,sl⟩/\cd.abstract=false/\cd.hasDel=false/\cd.mro.isEmpty=false
 made:Sv M h (WV (.ref C)) (some "Exception.__new__")
 base:Sv M h (XW (.ref C)) (.ref C)
 self:Sv M h (Vc (.ref C) (.ref C)) true
 exc:Sv M h (Vc (.ref C) (.type "Exception")) true
 HI:Sv M h (Vc (.ref C) (.type "BaseException")) true
 HW:Sv M h (Vc (.ref C) (.type "AttributeError")) false
 GS:Sv M h (Vc (.ref C) (.type "NameError")) false
 Gi:Sv M h (Vc (.ref C) (.type "type")) false
 mty:Sv M h (typeOf (.ref C)) (.type "type")
 call:Sv M h (specialOf (.ref C) "__call__") (some (.builtin "type.__call__"))
 typ:Sv M h (S3 (.ref C) (.type "type")) true
set_option tactic.hygienic true in
theorem lq{K:RH}{M:TZ}{h:QI}(X:K.In h){C:P5}(e:my K C=true):yX M h C:=by
 unfold my at e
 cases ho:K.lookup C with
 |none=>rw[ho] at e;cases e
 |some o=>
  rw[ho] at e
  obtain⟨oc,od,dt,sl⟩:=o
  cases dt with
  |cls cd=>
   refine kT e λ e1 e2 e3 e4 e5 e6 e7 e8 e=> ?_
   obtain⟨e9,e⟩:=af e
   obtain⟨Mq,e⟩:=af e
   obtain⟨Mp,e⟩:=af e
   obtain⟨Mr,KW⟩:=af e
   have e4:=da e4
   have hc:clsIn K C=some cd:=by unfold clsIn;refine aa ho ?_;rfl
   have hm:Sv M h (mroOf (.ref C)) cd.mro:=(UR X hc).andThen .now
   obtain⟨c,l,hl⟩:∃c l,cd.mro=c::l:=by cases q:cd.mro with|nil=>rw[q] at e4;cases e4|cons c l=>exact⟨c,l,rfl⟩
   have made:Sv M h (WV (.ref C)) (some "Exception.__new__"):=by
    intro A Q E s k q
    unfold WV
    refine PA (hm A _ E s k ?_)
    refine aa hl ?_;rewrite[Q5]
    refine PA (PA (PA (PA (SD (k _ _ (X _ _ ho)) (PD ?_)))))
    dsimp only
    refine aE Wr ?_;refine aa (aq e3) ?_
    exact PD (PD (PD q))
   refine⟨⟨oc,od,cd,sl,X _ _ ho,da e1,da e2,e4⟩,made,?_,Td X (aq e5),Td X (aq e6),Td X (aq e7),Td X (aq e8),Td X (aq e9),Td X (aq Mq),looks_typeIn X (aq Mp),looks_specialIn X (aq Mr),looks_instIn X (aq KW)⟩
   intro A Q E s k q
   unfold XW
   refine PA (hm A _ E s k ?_)
   refine aa hl ?_;rewrite[Q5]
   exact PA (PA (PA (made A _ E s k (PD (PD (PD q))))))
  |_=>cases e
noncomputable abbrev dh(C t:P5):Obj:={cls:=.ref C,data:=.fields #[.ref t,.none,.none,.none,.bool false,.none]}
noncomputable abbrev iK(vs:List PL):Obj:={cls:=.type "tuple",data:=.seq vs.toArray}
section
variable{prog:Ui}{w:TD}{A:Qz}{C:P5}{R:Result->PM->Prop}{h:QI}{gn:Array GenState}{d:Drawn}{t:Nat}{os:Wf}
theorem AU(Y:yX (PY prog w) h C)(hl:rest.length<=Rn)
  (hq:R (.ok (.ret (.ref (h.objs.size+1)))) ⟨(h.push (iK rest)).push (dh C h.objs.size),gn,d,t,os⟩):
  Sl (PY prog w) A (.call (.builtin "Exception.__new__") ⟨.ref C::rest,[]⟩) R ⟨h,gn,d,t,os⟩:=by
 obtain⟨⟨oc,od,cd,sl,hC,e1,e2,e4⟩,made,base,self,exc,HI,HW,GS,Gi,meta',call,typ⟩:=Y
 have F:=Vj
 refine codeAny_call_builtin_code (Xi _ F.quiet) ?_
 simp only [V1,F.newKind,F.newSplit,F.newRow]
 have here:Sv (PY prog w) h (Yu "Exception.__new__" (.ref C)) ():=base.andThen (made.andThen (V4 (by simp only [RW,bne_self_eq_false,P6,if_false])))
 have args:VT "Exception.__new__" ⟨.any,"Exception","Exception",.cls,[⟨"args",.varPos,false⟩,⟨"kwargs",.varKw,false⟩]⟩ ⟨.ref C::rest,[]⟩=pure ():=by kernel_rfl
 refine aa args ?_
 repeat (first|simp only [bne_self_eq_false,P6,if_false]|lk)
 refine codeAny_builtinAt F.entry ?_
 unfold Builtin.«BaseException.__new__»
 refine XH ?_
 show PySem.wpAt _ _ _ (stack>>=_) _ _ _
 refine XH (PySem.wpAt_stack λ p below=>WH ?_)
 have hends:=F.ends
 wp_walk
 refine WH ?_
 refine aa F.owner ?_
 have here2:Sv (PY prog w) h (Yu "BaseException.__new__" (.ref C)) ():=base.andThen (made.andThen (V4 (by simp only [RW,F.canon,bne_self_eq_false,P6,if_false])))
 dsimp only
 unfold isType
 repeat (first|simp only [bne_self_eq_false,P6,if_false,Ys]|lk)
 refine aa (if_neg (by refine aa PX ?_;exact ae 0x92600918601fc18601fd101 rfl rest.length hl)) ?_
 unfold YA
 refine PA (UQ (PD ?_))
 refine PA ?_
 show PT _ _ (YA _ _ _) _ _ _
 unfold YA classHasDel
 refine PA (UQ (PA (PA (wpAny_load (PC _ (PC _ hC)) (PD ?_)))))
 dsimp only
 refine aa e2 ?_
 refine PD (PD ?_)
 show R _ _
 refine aa (Qd _ _) ?_
 exact hq
theorem yF(Y:yX (PY prog w) h C)(hl:rest.length<=Rn)(hi:Sv (PY prog w) h (Yy (.ref C) "__init__") (some init))(hb:∀self,Sv (PY prog w) h (bindSpecial init self) (init,[self]))
  (hq:Sl (PY prog w) (A.under (.builtin "type.__call__" ⟨.ref C::rest,[]⟩)) (.call init ⟨.ref (h.objs.size+1)::rest,[]⟩) (InitBack (h.objs.size+1) R) ⟨(h.push (iK rest)).push (dh C h.objs.size),gn,d,t,os⟩):
  Sl (PY prog w) A (.call (.ref C) ⟨rest,[]⟩) R ⟨h,gn,d,t,os⟩:=by
 have Y':=Y
 obtain⟨⟨oc,od,cd,sl,hC,e1,e2,e4⟩,made,base,self,exc,HI,HW,GS,Gi,meta',call,typ⟩:=Y
 refine Wm ?_
 show PT _ _ (callAny (.ref C) _) _ _ _
 refine nd_load hC ?_
 show PT _ _ (WG (.ref C) _) _ _ _
 unfold WG
 refine PA (call.at ?_)
 dsimp only
 refine aa (tc_bind _) ?_
 refine PA (PD (PA (PD ?_)))
 refine PD (a:=PySem.Fin.again (.call (.builtin "type.__call__") ⟨.ref C::rest,[]⟩)) (Ww rfl ?_)
 refine codeAny_call_builtin_at (Xi _ (by decide+kernel)) entry_typeCall (check_slot tc_kind tc_split typ (tc_args _ _ _) ?_)
 unfold Builtin.«type.__call__»
 have hm:Sv (PY prog w) h (mroOf (.ref C)) cd.mro:=((VY (part:=none) hC).andThen .now).andThen .now
 repeat (first|simp only [e4,P6,if_false]|with_reducible refine Uu ?_|lk)
 refine AU Y' hl ?_
 have k:∀b o,h.get? b=some o->((h.push (iK rest)).push (dh C h.objs.size)).get? b=some o:=λ b o e=>PC _ (PC _ e)
 have hx:((h.push (iK rest)).push (dh C h.objs.size)).get? (h.objs.size+1)=some (dh C h.objs.size):=by
  have:=PP (h.push (iK rest)) (o:=dh C h.objs.size) rfl
  rwa [Qd] at this
 have t1:Sv (PY prog w) ((h.push (iK rest)).push (dh C h.objs.size)) (typeOf (.ref (h.objs.size+1))) (.ref C):=(VY hx).andThen .now
 have s1:=self.keeps k
 have i1:=hi.keeps k
 have b1:=(hb (.ref (h.objs.size+1))).keeps k
 unfold S3 callSpecial? specialOf
 repeat (first|with_reducible refine Uu ?_|lk)
 refine Uj hq λ r s' z=> ?_
 rcases r with e|(v|_|_|_)<;>first|exact z|exact z.elim|skip
 obtain⟨rfl,z⟩:=z
 exact PD (PD z)
end
end Mine
end
section
namespace Mine
open PySem PySem.W PySem.Calls PyProof.Rows PySem.SeqAt Builtin Builtin.ObjectAttr
noncomputable def nH(K:RH)(C:P5):Bool:=(clsIn K C).any λ cd=>cd.hasDict&& !cd.mro.isEmpty&&(cd.mro.dropWhile λ v=>match v with|.ref _=>true|_=>false)==[.type "Exception",.type "BaseException",.type "object"]
theorem wk(self:PL):∀{l:List PL},(l.dropWhile λ v=>match v with|.ref _=>true|_=>false)=[.type "Exception",.type "BaseException",.type "object"]->refuseLoop self "__setattr__" l=pure ()/\l.contains (.type "object")=true:=by
 intro l
 induction l with
 |nil=>
  intro h
  cases h
 |cons v r ih=>
  intro h
  by_cases hv:∃a,v=.ref a
  ·obtain⟨a,rfl⟩:=hv
   rw[List.dropWhile_cons_of_pos (by rfl)] at h
   obtain⟨a,b⟩:=ih h
   exact⟨by rewrite[refuseLoop_ref];exact a,by refine aa SY ?_;refine aa b ?_;refine aa (Bool.or_true _) ?_;rfl⟩
  ·rw[List.dropWhile_cons_of_neg (by intro q;split at q;exact hv ⟨_,rfl⟩;cases q)] at h
   refine aa h ?_
   exact⟨PySem.F.store_Exception.passes self,by simp⟩
section
variable{prog:Ui}{w:TD}{A:Qz}{E0:PL->PM->Prop}{s:PM}{C x:P5}{K:RH}{R:Result->PM->Prop}
theorem tC(X:K.In s.heap)(I:InstAt s.heap x ox C od)(hp:nH K C=true)(ht:XY K C name=some none)
  (h:∀b,PT (PY prog w) A.in1 (storeInOwnDict (.ref x) (.ref C) (.str name tk) name v b)
   (λ fin s'=>match fin with|.done f=>R (.ok f) s'|.again c'=>c'.quiet=true/\Sl (PY prog w) A c' R s') (λ e s'=>R (.error e) s') s):
  Sl (PY prog w) A (.call (.builtin "object.__setattr__") ⟨[.ref x,.str name tk,v],[]⟩) R s:=by
 have SF:=PySem.F.store_object
 refine ai (Yj hp) λ cd hc ho=> ?_
 simp only [P1,Ti,beq_iff_eq] at ho
 obtain⟨⟨hd,ne⟩,hdw⟩:=ho
 obtain⟨ps,Oy⟩:=wk (.ref x) hdw
 have sub:Sv (PY prog w) s.heap (S3 (.ref x) (.type "object")) true:=I.type.andThen (Td X (by unfold XX;refine aa hc ?_;refine aa (Q9 _ _) ?_;refine aa (if_neg (by refine aa ne ?_;decide)) ?_;refine aa Oy ?_;rfl))
 refine XQ SF.slot.plain SF.entry (@check_slot (PY prog w) _ _ s "object.__setattr__" "object" "__setattr__" (.ref x) [.str name tk,v] [] _ SF.kind SF.split sub (SF.args (.ref x) (.str name tk) v) ?_)
 refine ai (Rm.mp ht) λ attr ha hr=> ?_
 have hm:Sv (PY prog w) s.heap (mroOf (.ref C)) cd.mro:=(UR X hc).andThen .now
 have L3:Sv (PY prog w) s.heap (storeTaker? attr) none:=by
  cases attr with
  |none=>cases hr;exact .now
  |some a=>
   refine ai (V7.mp hr) λ b hb J3=> ?_
   refine(looks_takesIn X hb).andThen ?_
   cases b with
   |true=>cases J3
   |false=>exact .now
 rewrite[osa_eq];refine aa (refuse_eq _ _) ?_
 refine PA (PA (I.type.here (PA (hm.here ?_))))
 refine aa ps ?_
 refine PD (PA (I.type.here (PA ((XC X ha).here (PA (L3.here ?_))))))
 exact h _
theorem xU:∀{es:List Qj},es.any (·.refKey)=false->(Xj name hsh (.str name t0) v es).any (·.refKey)=false/\(Xj name hsh (.str name t0) v es).length<=es.length+1:=by
 intro es
 induction es with
 |nil=>
  intro y1
  exact⟨rfl,PE _⟩
 |cons e r ih=>
  intro h
  rw[R0,Bool.or_eq_false_iff] at h
  rewrite[Xj]
  split
  ·refine⟨?_,by simp⟩
   refine aa R0 ?_;refine aa h.2 ?_;refine aa (Yr _) ?_
   exact h.1
  ·obtain⟨a,b⟩:=ih h.2
   refine⟨?_,by simp only [PQ];exact ae 0x904184185206144106149102 rfl ((Xj name hsh (Ve name t0) v r).length) r.length b⟩
   refine aa R0 ?_;refine aa a ?_;refine aa h.1 ?_;rfl
theorem mH(g2:s.heap.get? d=some (QO es n))(hr:es.any (·.refKey)=false)(hl:es.length<=10)
  (k:∀h' Gg n' tk,h'.get? d=some (QO Gg n')->Gg.any (·.refKey)=false->Gg.length<=es.length+1->Qr d s.heap h'->Q (.done (.ret .none)) {s with heap:=h',toks:=tk}):PT (PY prog w) A (storeInDict d (.str name t0) name v) Q E0 s:=by
 unfold storeInDict
 refine PA (PD (PA ?_))
 unfold nsSet
 refine PA (PA (VZ (PD (PA (wpAny_mkText (PA (SD g2 ?_)))))))
 dsimp only
 have c:(!es.toArray.any (·.key.isStr name)&&es.toArray.any (·.refKey))=false:=by
  refine aE Ts ?_;refine aE Ts ?_
  refine aa (show es.toArray.toList=es from rfl) ?_;refine aa hr ?_;refine aa (Ta _) ?_;rfl
 refine aa (Xl _ _) ?_;refine aa c ?_
 refine wpAny_updatePart g2 ?_
 have g3:(s.heap.update d (Vz name (Qh w.params name) (.str name s.toks) v)).get? d=some (QO (Xj name (Qh w.params name) (.str name s.toks) v es) (putN name es n)):=by
  refine aa (P7 _ g2 (by rewrite[VO];rfl)) ?_;rewrite[VO];rfl
 obtain⟨p1,p2⟩:=xU (name:=name) (hsh:=Qh w.params name) (t0:=s.toks) (v:=v) hr
 refine PA (wpAny_lookBehind g3 (pastItsLine_dict (by refine aa PX ?_;refine aa X0 ?_;exact ae 0x92418000008019fd2041851481a9102 rfl es.length ((Xj name (Qh w.params name) (Ve name s.toks) v es).length) hl p2)) ?_)
 exact PD (k _ _ _ _ g3 p1 p2 (QA ..))
theorem DA(hj:j<=5)(X:K.In s.heap)(g1:s.heap.get? x=some ⟨.ref C,od,.fields vs,sl⟩)
  (hod:∀d,od=some d->d≠x/\∃es n,s.heap.get? d=some (QO es n)/\es.any (·.refKey)=false/\es.length<=j)(hs:Rr K (.ref C) "__setattr__" =some (some (.builtin "object.__setattr__")))(hp:nH K C=true)(hf:Rr K (.ref C) name=some none)
  (k:∀h' d tk,h'.get? x=some ⟨.ref C,some d,.fields vs,sl⟩->d≠x->(∃es n,h'.get? d=some (QO es n)/\es.any (·.refKey)=false/\es.length<=j+1)->(od=some d∨s.heap.get? d=none)->(∀b o,b≠x->b≠d->s.heap.get? b=some o->h'.get? b=some o)->Q () {s with heap:=h',toks:=tk}):
  PT (PY prog w) A (setAttr (.ref x) name v) Q E0 s:=by
 have ti:XY K C name=some none:=by unfold XY;refine aa hf ?_;rfl
 refine ai (Yj hp) λ cd hc Gf=> ?_
 simp only [P1] at Gf
 cases od with
 |none=>
  have I:InstAt s.heap x ⟨.ref C,none,.fields vs,sl⟩ C none:=⟨g1,rfl,rfl,trivial⟩
  refine set_plain X I hs (tC (s:={s with toks:=s.toks+1}) X I hp ti λ b=> ?_)
  refine PA (PD (PA (PA (SD g1 (PA (Xe (s:={s with toks:=s.toks+1}) (UR X hc) ?_))))))
  refine aa Gf.1.1 ?_
  show PT _ _ (alloc {cls:=.type "dict",data:=.dict #[]}>>=λ d=>update x (λ o=>{o with dict:=some d})>>=λ zz=>pure (some d)) _ _ _
  refine PA (UQ (PA (wpAny_update (PC _ g1) (PD ?_))))
  have H1:s.heap.objs.size≠x:=Sw (Qb g1)
  have gx:((s.heap.push {cls:=.type "dict",data:=.dict #[]}).update x λ o=>{o with dict:=some s.heap.objs.size}).get? x=some ⟨.ref C,some s.heap.objs.size,.fields vs,sl⟩:=P7 _ (PC _ g1) rfl
  have gd:((s.heap.push {cls:=.type "dict",data:=.dict #[]}).update x λ o=>{o with dict:=some s.heap.objs.size}).get? s.heap.objs.size=some (QO [] 0):=(Qv _ _ (Sb H1)).trans (PP _ rfl)
  refine PA (PD ?_)
  refine mH (t0:=s.toks) (s:={s with heap:=(s.heap.push {cls:=.type "dict",data:=.dict #[]}).update x λ o=>{o with dict:=some s.heap.objs.size},toks:=s.toks+1}) gd rfl (by decide) λ h' Gg n' tk g3 GD Gt Ht=> ?_
  exact k h' _ tk (Ht.extBut _ _ (Sb H1) gx) H1 ⟨Gg,n',g3,GD,PN Gt (Sz (Ry _))⟩ (.inr (aT (PE _))) λ b o n1 n2 e=>Ht.extBut b o n2 ((Qv _ _ (Sb n1)).trans (PC _ e))
 |some d=>
  obtain⟨KG,es,n,g2,hr,hl⟩:=hod d rfl
  have I:InstAt s.heap x ⟨.ref C,some d,.fields vs,sl⟩ C (some (QO es n)):=⟨g1,rfl,rfl,g2⟩
  refine set_plain X I hs (tC (s:={s with toks:=s.toks+1}) X I hp ti λ b=> ?_)
  refine PA (PD (PA (PA (SD g1 (PA (Xe (s:={s with toks:=s.toks+1}) (UR X hc) ?_))))))
  refine aa Gf.1.1 ?_
  refine PD (a:=some d) (PA (PD ?_))
  refine mH (t0:=s.toks) (s:={s with toks:=s.toks+1}) g2 hr (ae 0x9241a9205148195102 rfl j es.length hj hl) λ h' Gg n' tk g3 GD Gt Ht=> ?_
  exact k h' d tk (Ht.extBut _ _ (Sb KG) g1) KG ⟨Gg,n',g3,GD,ae 0x92410614930418514c149103 rfl es.length j Gg.length hl Gt⟩ (.inl rfl) λ b o n1 n2 e=>Ht.extBut b o n2 e
end
end Mine
end
section
namespace Mine
open PySem PySem.W PySem.Calls PyProof.Rows PySem.SeqAt Builtin
inductive ii(l:List Sd):Prop
 |mk (p1 p2 p3 p4 p5 p6 p7 p8 p9 Jw Ky Kx Kw Kv:Pos):(p2.endLine==p5.line)=true->l=[.Expr (.Call (.Attribute (.Name "Exception" p1) "__init__" p2) [.Name "self" p3,.Name "what" p4] [] p5) p6,
  .Assign [.Attribute (.Name "self" p7) "what" p8] (.Name "what" p9) Jw,.Assign [.Attribute (.Name "self" Ky) "at" Kx] (.Name "at" Kw) Kv]->ii l
structure oW(g:Gs)(K:RH)(C f:P5)(fd:SB):Prop where
 ex:my K C=true
 set:nH K C=true
 keep:Wc K (.ref C)=true
 init:Rr K (.ref C) "__init__" =some (some (.ref f))
 Kf:typeIn K (.ref f)=some (.type "function")
 GQ:Rr K (.ref C) "__setattr__" =some (some (.builtin "object.__setattr__"))
 fw:Rr K (.ref C) "what" =some none
 fa:Rr K (.ref C) "at" =some none
 at_:∃o,K.lookup f=some o/\o.data=.func fd
 code:codeIn K fd.code fd.qualname=true
 body:∃l,fd.body=.stmts l/\ii l
 Ey:fd.closure=[]
 glob:fd.globals=P3
 bi:fd.builtins=QX
 kind:fd.scope.kind=.function
 gen:fd.scope.isGenerator=false
 co:fd.scope.isCoroutine=false
 p1:fd.params.posonlyargs=[]
 p2:fd.params.args.map (·.arg)=[("self" :Str),"what","at"]
 p3:fd.params.vararg=none
 p4:fd.params.kwonlyargs=[]
 p5:fd.params.kwarg=none
 n1:fd.scope.names.lookup ("self" :Str)=some .local
 n2:fd.scope.names.lookup ("what" :Str)=some .local
 n3:fd.scope.names.lookup ("at" :Str)=some .local
 n4:fd.scope.names.lookup ("Exception" :Str)=some .globalImplicit
 nc:∀x∈fd.scope.names,x.2≠.cell
 Hk:∃T oT m dv,fd.defaults=.ref T/\K.lookup T=some oT/\oT.data=.seq #[dv] m
 Pm:Xs K P3 "Exception" =some none
 Pk:findCls K (.type "Exception") (.type "type") "__init__" =some (.val (.builtin "Exception.__init__"))
section
variable{g:Gs}{A:Qz}{E0:PL->PM->Prop}{s:PM}{C x:P5}{K:RH}
theorem u5(X:K.In s.heap)(hx:my K C=true)(g1:s.heap.get? x=some ⟨.ref C,od,.fields vs,sl⟩)(hv:0<vs.size)
  (k:∀h',h'.get? x=some ⟨.ref C,od,.fields (vs.setIfInBounds 0 (.ref s.heap.objs.size)),sl⟩->(∀b o,b≠x->s.heap.get? b=some o->h'.get? b=some o)->Q .none {s with heap:=h'}):
  PT (PY g.prog g.w) A (call (.builtin "Exception.__init__") [.ref x,a]) Q E0 s:=by
 have F:=Vj
 have Y:=lq (M:=PY g.prog g.w) X hx
 have t1:Sv (PY g.prog g.w) s.heap (typeOf (.ref x)) (.ref C):=(VY g1).andThen .now
 have i1:Sv (PY g.prog g.w) s.heap (S3 (.ref x) (.type "Exception")) true:=t1.andThen Y.exc
 refine Uu (XQ F.init.plain F.initEntry ?_)
 simp only [V1,F.initKind,F.initSplit,F.initRow]
 refine PA (i1.here ?_)
 simp only [Ys,P6,if_false]
 have OT:Sv (PY g.prog g.w) s.heap (VT "Exception.__init__" ⟨.positional,"*","Exception",.self,[⟨"args",.varPos,false⟩]⟩ ⟨[.ref x,a],[]⟩) ():=by
  intro A' Q' E' s' k' q'
  refine DX Y.obj λ oc MG cd NH hC zz=> ?_
  have Ml:=k' _ _ g1
  have Kd:=k' _ _ hC
  unfold VT
  repeat (first|lk)
  exact q'
 refine OT.here ?_
 show PT _ _ (newTuple [a]>>=λ t=>Tf (.ref x) 0 t>>=λ zz=>Wk Qi) _ _ s
 refine PA (wpAny_newTuple ?_ (show([a]:List PL).length<=Rn from by refine aa X0 ?_;exact WM rfl))
 have Ft:s.heap.objs.size≠x:=Sw (Qb g1)
 obtain⟨v0,Lp⟩:∃v0,vs[0]? =some v0:=⟨vs[0],by simp[hv]⟩
 have g2:=PC (h:=s.heap) {cls:=.type "tuple",data:=.seq ([a]:List PL).toArray} g1
 unfold Tf
 refine PA (PA (Qx g2 rfl Lp (PA (SC g2 rfl hv ?_))))
 have g3:((s.heap.push {cls:=.type "tuple",data:=.seq ([a]:List PL).toArray}).update x (Qw (·.setIfInBounds 0 (QL s.heap.objs.size)))).get? x=some ⟨.ref C,od,.fields (vs.setIfInBounds 0 (.ref s.heap.objs.size)),sl⟩:=P7 _ g2 rfl
 have fin:PT (PY g.prog g.w) A.in1 (Wk Qi) (λ fin s'=>match fin with|.done f=>(match (Except.ok f:Result) with|.ok (.ret v)=>Q v s'|.ok _=>False|.error e=>E0 e s')|.again c'=>c'.quiet=true/\Sl (PY g.prog g.w) A c' (λ r s'=>match r with|.ok (.ret v)=>Q v s'|.ok _=>False|.error e=>E0 e s') s') (λ e s'=>E0 e s')
   {s with heap:=(s.heap.push {cls:=.type "tuple",data:=.seq ([a]:List PL).toArray}).update x (Qw (·.setIfInBounds 0 (QL s.heap.objs.size)))}:=
  PD (k _ g3 λ b o n e=>(Qv _ _ (Sb n)).trans (PC _ e))
 split
 ·exact Wj fin
 ·exact PD fin
end
section
variable{g:Gs}{A:Qz}{E0:PL->PM->Prop}{s:PM}{C x f L:P5}{K:RH}{fd:SB}{h0:QI}{env:Env}{m:Str->Option PL}
structure ue(K:RH)(h0:QI)(C x L:P5)(m:Str->Option PL)(od:Option P5)(j:Nat)(sl:Array (Option PL))(h:QI):Prop where
 base:∀b o,h0.get? b=some o->h.get? b=some o
 IN:K.In h0
 new:h0.get? x=none
 ns:h.Ns L m
 lx:L≠x
 Hr:h0.get? L=none
 obj:∃vs a0,h.get? x=some ⟨.ref C,od,.fields vs,sl⟩/\1<vs.size/\vs[0]? =some a0/\vs[1]? =some .none
 dict:∀d,od=some d->d≠x/\d≠L/\h0.get? d=none/\∃es n,h.get? d=some (QO es n)/\es.any (·.refKey)=false/\es.length<=j
theorem ue.Ll(X:ue K h0 C x L m od j sl h):K.In h:=X.IN.keeps X.base
theorem A6(hj:j<=5)(X:ue K h0 C x L m od j sl s.heap)(hk:env.scope.kind=.function)(hL:env.locals=L)(k1:env.kindOf ("self" :Str)=some .local)(k2:env.kindOf nm=some .local)(hd:(nm==("__debug__" :Str))=false)
  (m1:m ("self" :Str)=some (.ref x))(m2:m nm=some v)(hs:Rr K (.ref C) "__setattr__" =some (some (.builtin "object.__setattr__")))(hp:nH K C=true)(hf:Rr K (.ref C) nm=some none)
  (k:∀s' d,s'.os=s.os/\s'.gens=s.gens/\s'.drawn=s.drawn->ue K h0 C x L m (some d) (j+1) sl s'.heap->(∀b o,b≠x->od≠some b->s.heap.get? b=some o->s'.heap.get? b=some o)->(od=some d∨s.heap.get? d=none)->Q .next s'):
  PT (PY g.prog g.w) A (exec (.Assign [.Attribute (.Name "self" p7) nm p8] (.Name nm p9) Jw) env) Q E0 s:=by
 rewrite[Um]
 refine PA (QH (PA (Rs (a:=false) rfl ?_)))
 simp only [P6,if_false]
 refine PA (Vy (RS hk k2 (hL▸X.ns) m2 ?_) hd)
 refine PA (Rs (a:=none) rfl ?_)
 show PT _ A ((Vv [v] (eval (.Name "self" p7) env)>>=λ ov=>Sy p8.atName>>=λ zz=>Vv [v,ov] (setAttr ov nm v)>>=λ zz=>release [v,ov] [])>>=λ zz=>pure Vl) _ _ s
 refine PA (PA (Qu (Vy (RS hk k1 (hL▸X.ns) m1 ?_) (by decide))))
 refine oR X.obj λ vs a0 g1 Fe Ig GI=> ?_
 refine PA (QH (PA (Qu (DA hj X.Ll g1 (λ d e=>⟨(X.dict d e).1,(X.dict d e).2.2.2⟩) hs hp hf λ h' d tk g2 KG Gf H4 Hx=>wpAny_release (PD ?_)))))
 have LP:∀b o,h0.get? b=some o->b≠x:=λ b o e q=>by rw[q,X.new] at e;cases e
 have Nt:∀b o,h0.get? b=some o->b≠d:=λ b o e q=>by
  rcases H4 with hn|hn
  ·rw[q,(X.dict d hn).2.2.1] at e;cases e
  ·rw[<-q,X.base _ _ e] at hn;cases hn
 have Nr:d≠L:=by
  rcases H4 with hn|hn
  ·exact(X.dict _ hn).2.1
  ·intro q
   refine yK X.ns λ o es ep ho zz=> ?_
   rw[q,ho] at hn;cases hn
 have OQ:h0.get? d=none:=by
  cases q:h0.get? d with
  |none=>rfl
  |some o=>exact absurd rfl (Nt d o q)
 refine kQ Gf λ es n e1 e2 e3=> ?_;clear Gf
 refine k {s with heap:=h',toks:=tk} d ⟨rfl,rfl,rfl⟩ ⟨λ b o e=>Hx b o (LP b o e) (Nt b o e) (X.base b o e),X.IN,X.new,X.ns.at' λ o e=>Hx L o X.lx (Sb Nr) e,X.lx,X.Hr,⟨vs,a0,g2,Fe,Ig,GI⟩,λ d' e=> ?_⟩ (λ b o n1 n2 e=>Hx b o n1 (λ q=> ?_) e) H4
 ·cases e
  exact⟨KG,Nr,OQ,es,n,e1,e2,e3⟩
 ·rcases H4 with hn|hn
  ·exact n2 (q▸hn)
  ·rw[q,hn] at e;cases e
theorem BY(ek:oW g K C f fd)(IN:K.In h0)(nl:h0.NoLimit)(hbi:∃mb,h0.Ns QX mb/\∀x:Str,x≠"__name__" ->mb x=Sc x)(hroom:A.depth<UN)(harg:args.length=1∨args.length=2)
  (base:∀b o,h0.get? b=some o->s.heap.get? b=some o)(hs0:h0.objs.size<=s.heap.objs.size)(IP:h0.get? x=none)(hx:s.heap.get? x=some ⟨.ref C,none,.fields vs,sl⟩)(Fe:1<vs.size)(Ig:vs[0]? =some a0)(GI:vs[1]? =some .none):
  Sl (PY g.prog g.w) A (.call (.ref f) ⟨.ref x::args,[]⟩) (λ r s'=>r=.ok (.ret .none)/\(s'.os=s.os/\s'.gens=s.gens)/\(∀b o,b≠x->s.heap.get? b=some o->s'.heap.get? b=some o)/\
   ∃FG d b0,s'.heap.get? x=some ⟨.ref C,some d,.fields FG,sl⟩/\FG[0]? =some b0/\FG[1]? =some .none) s:=by
 refine ai ek.at_ λ o ho hd=> ?_
 obtain⟨l,J1,p1,p2,p3,p4,p5,p6,p7,p8,p9,Jw,Ky,Kx,Kw,Kv,JV,rfl⟩:=ek.body
 refine DW ek.Hk λ T oT m dv GX hT O1=> ?_
 have KS:K.In s.heap:=IN.keeps base
 refine XG hroom (KS _ _ ho) hd ek.co ek.gen J1 (codeRec_of KS ek.code) ?_
 refine rS (ps:=[("self" :Str),"what","at"]) ek.p1 ek.p2 ek.p3 ek.p4 ek.p5 (by decide+kernel) (ds:=[dv]) (.inr ⟨T,oT,m,GX,KS _ _ hT,O1⟩) (by rcases harg with h|h<;>simp[h]) (by rcases harg with h|h<;>simp[h]) (show(1:Nat)<=3 by decide) ?_
 obtain⟨a,b,JF⟩:∃a b,dy 3 (.ref x::args) [dv]=[.ref x,a,b]:=by
  rcases harg with h|h
  ·obtain⟨a,rfl⟩:∃a,args=[a]:=by
    cases args with
    |nil=>cases h
    |cons a r=>cases r with
     |nil=>exact⟨a,rfl⟩
     |cons _ _=>simp at h
   exact⟨a,dv,rfl⟩
  ·obtain⟨a,b,rfl⟩:∃a b,args=[a,b]:=by
    cases args with
    |nil=>cases h
    |cons a r=>cases r with
     |nil=>simp at h
     |cons b r=>cases r with
      |nil=>exact⟨a,b,rfl⟩
      |cons _ _=>simp at h
   exact⟨a,b,rfl⟩
 show PT _ _ (SE fd.scope fd.globals fd.closure ([("self" :Str),"what","at"].zip (dy 3 (.ref x::args) [dv])) _ _ _ _ _) _ _ _
 refine aa JF ?_;refine aa ek.glob ?_;refine aa ek.bi ?_;refine aa ek.Ey ?_
 show PT _ _ (SE fd.scope P3 [] [(("self" :Str),QL x),("what",a),("at",b)] _ _ _ _ _) _ _ _
 refine wpAny_newFunctionEnv (around:=none) ek.nc (λ y hy=> ?_) (λ h' FS Ht=> ?_) ek.kind
 ·simp only [PU,List.not_mem_nil,or_false] at hy
  rcases hy with rfl|rfl|rfl
  ·exact ek.n1
  ·exact ek.n2
  ·exact ek.n3
 have EV:∀b o,s.heap.get? b=some o->h'.get? b=some o:=λ b o e=>Ht.extBut b o (S5 (Qb e)) (PC _ e)
 have N5:h'.NoLimit:=nl.keeps λ b o e=>EV b o (base b o e)
 refine⟨N5,codeAny_func ?_⟩
 generalize henv:newEnv fd.scope s.heap.objs.size P3 [] (fd.qualname++ ".<locals>.") (some f) fd.code none QX=env
 have v1:env.scope=fd.scope:=by refine aE henv ?_;rfl
 have v2:env.locals=s.heap.objs.size:=by refine aE henv ?_;rfl
 have v3:env.globals=P3:=by refine aE henv ?_;rfl
 have v4:env.builtins=QX:=by refine aE henv ?_;rfl
 have vk:env.scope.kind=.function:=by refine aa v1 ?_;exact ek.kind
 have vo:∀y,env.kindOf y=fd.scope.names.lookup y:=λ y=>by unfold RF;refine aa v1 ?_;rfl
 clear henv
 have Lv:s.heap.objs.size≠x:=Sw (Qb hx)
 have NA:h0.get? s.heap.objs.size=none:=by
  cases q:h0.get? s.heap.objs.size with
  |none=>rfl
  |some o=>exact absurd (Qb (base _ _ q)) (Rp _)
 generalize hm:(λ y:Str=>([(("self" :Str),QL x),("what",a),("at",b)]:List (Str×PL)).reverse.lookup y)=mm at FS
 have q1:mm ("self" :Str)=some (.ref x):=by refine aE hm ?_;rfl
 have q2:mm ("what" :Str)=some a:=by refine aE hm ?_;rfl
 have q3:mm ("at" :Str)=some b:=by refine aE hm ?_;rfl
 clear hm
 have X1:ue K h0 C x s.heap.objs.size mm none 0 sl h':=⟨λ b o e=>EV b o (base b o e),IN,IP,FS,Lv,NA,⟨vs,a0,EV _ _ hx,Fe,Ig,GI⟩,λ d e=>by cases e⟩
 refine R1 (wpAny_Expr_any ?_ (qW vk) rfl)
 refine g9 rfl rfl (show(2:Nat)<30 by decide) JV ?_
 refine Name_function_global vk (by refine aa (vo _) ?_;exact ek.n4) ?_ (by decide)
 unfold YD
 refine PA ?_
 refine aa v3 ?_
 refine(YC (M:=PY g.prog g.w) X1.Ll ek.Pm).here ?_
 refine ai hbi λ mb JT J3=> ?_;clear hbi
 refine PA ?_
 refine aa v4 ?_
 refine wpAny_nsGet (JT.keeps X1.base) ?_
 refine aa (J3 "Exception" (by decide)) ?_;refine aa (show Sc "Exception" =some (.type "Exception") from by kernel_rfl) ?_
 refine PD ?_
 refine method_type (h₀:=h0) (L:=s.heap.objs.size) (m:=mm) ⟨FS,X1.base,hs0⟩ IN (by first|rfl|kernel_rfl) (by kernel_rfl) ek.Pk rfl ?_
 refine callWith_builtin rfl (evalArgs_plain (spliced_cons (Vy (RS vk (by refine aa (vo _) ?_;exact ek.n1) (v2▸FS) q1 ?_) (by decide))))
 refine spliced_cons (Vy (RS vk (by refine aa (vo _) ?_;exact ek.n2) (v2▸FS) q2 (spliced_nil ?_)) (by decide))
 refine u5 (C:=C) (vs:=vs) (sl:=sl) (od:=none) X1.Ll ek.ex (EV _ _ hx) (ae 0x909180246101 rfl vs.size Fe) λ h2 Pd FI=> ?_
 have LP:∀b o,h0.get? b=some o->b≠x:=λ b o e q=>by rw[q,IP] at e;cases e
 have X2:ue K h0 C x s.heap.objs.size mm none 0 sl h2:=⟨λ b o e=>FI b o (LP b o e) (X1.base b o e),IN,IP,FS.at' λ o e=>FI _ o Lv e,Lv,NA,⟨_,_,Pd,by simpa using Fe,(by have h9:0<vs.size:=(ae 0x909180246101 rfl vs.size Fe);refine aa Array.getElem?_setIfInBounds ?_;refine aa (if_pos rfl) ?_;refine aa (if_pos h9) ?_;rfl),by refine aa (UJ (by decide)) ?_;exact GI⟩,λ d e=>by cases e⟩
 refine R1 (A6 (Ry _) X2 vk v2 (by refine aa (vo _) ?_;exact ek.n1) (by refine aa (vo _) ?_;exact ek.n2) (by decide) q1 q2 ek.GQ ek.set ek.fw λ s3 d Ng X3 IZ OC=> ?_)
 refine R1 (A6 (by decide) X3 vk v2 (by refine aa (vo _) ?_;exact ek.n1) (by refine aa (vo _) ?_;exact ek.n3) (by decide) q1 q3 ek.GQ ek.set ek.fa λ s4 d4 Nf X4 H6 zz=> ?_)
 refine RL ⟨rfl,⟨Nf.1.trans Ng.1,Nf.2.1.trans Ng.2.1⟩,λ b o nb e=> ?_,?_⟩
 ·have e2:=FI b o nb (EV b o e)
  have e3:=IZ b o nb (by simp) e2
  refine H6 b o nb (λ q=> ?_) e3
  cases q
  rcases OC with hn|hn
  ·cases hn
  ·have h9:some o=none:=e2.symm.trans hn
   cases h9
 ·refine oR X4.obj λ FG b0 g4 zz Pc Ke=> ?_
  exact DO FG d4 b0 g4 Pc Ke
end
section
variable{g:Gs}{tb:Tb}{K:RH}{Γ:aH}{N:Nm}{n:Nat}{W:P5->Prop}{A:Qz}{fr:List Env}{env:Env}{ρ:an}{φ:az}{M:AH}{s:PM}{E0:PL->PM->Prop}{C f:P5}{fd:SB}
theorem uH(hh:A.handled=none)(hx:my K C=true)
  (hm:PT (PY g.prog g.w) A m (λ v s1=>∃x vs od sl,v=.ref x/\K.In s1.heap/\s1.heap.get? x=some ⟨.ref C,od,.fields vs,sl⟩/\vs[1]? =some .none/\E0 (.ref x) s1) E0 s):PT (PY g.prog g.w) A (raiseStmt env (some m) none) Q E0 s:=by
 unfold raiseStmt
 dsimp only
 refine PA (PW hm (λ v s hv=> ?_) λ zz zz e=>e)
 refine DV hv λ x vs od sl FH X g1 GI h=> ?_;clear hv;subst FH
 have Y:=lq (M:=PY g.prog g.w) X hx
 obtain⟨⟨oc,MG,cd,NH,hC,e1,e2,e4⟩,made,base,self,exc,HI,HW,GS,Gi,meta',call,typ⟩:=Y
 have t1:Sv (PY g.prog g.w) s.heap (typeOf (.ref x)) (.ref C):=(VY g1).andThen .now
 have b1:Sv (PY g.prog g.w) s.heap (S3 (.ref x) (.type "BaseException")) true:=t1.andThen HI
 have b2:Sv (PY g.prog g.w) s.heap (S3 (.ref x) (.type "type")) false:=t1.andThen Gi
 unfold excFromValue isExcClass raisedInstance setFlight isType
 repeat (first|simp only [P6,if_false]|lk)
 refine aa GI ?_
 refine PD ?_
 refine aa (if_neg (by decide)) ?_
 exact PD (wpAny_raiseNew_none hh h)
theorem bd.EJ(fx:Fx g tb K)(ek:oW g K C f fd)(Gn:g.cls=.ref C)(hg:cC N x=true)(hv:Xs K P3 x=some (some (.ref C)))(hes:dC g Γ N n es xs)(hx:xs.all aw=true)(hl:xs.length=1∨xs.length=2):
  bd g Γ N n (.EJ es) (.Raise (some (.Call (.Name x np) xs [] cpos)) none pos):=by
 intro W A fr env ρ φ M s Nx R X L hA hN hL er st hw
 rewrite[arm_exec_Raise]
 refine PA (QH ?_)
 show PT _ A (raiseStmt env (some (eval (.Call (.Name x np) xs [] cpos) env>>=λ v=>Sy pos>>=λ zz=>pure v)) none) _ _ s
 have main:∀{R':PL->PM->Prop} {E':PL->PM->Prop},(∀s' xa vs d sl φ1 M1,X M1->St g.pl g.w.params g.B W (env::fr) φ1 M1 s'->av bt φ M s φ1 M1 s'->s.heap.get? xa=none->s'.heap.get? xa=some ⟨.ref C,d,.fields vs,sl⟩->(∃b0,vs[0]? =some b0)->vs[1]? =some .none->R' (.ref xa) s')->
   PT (PY g.prog g.w) A (eval (.Call (.Name x np) xs [] cpos) env>>=λ v=>Sy pos>>=λ zz=>pure v) R' E' s:=by
  intro R' E' k
  refine PA (Wi rfl (dU fx hN er st (bQ hg).1 (bQ hg).2 hv ?_))
  refine di fx hes hx hA hN er st hw (λ vs ys s1 φ1 M1 q hlen Et Ep r1=>⟨ek.keep,?_⟩) λ v s' z=>z.no
  refine aa (R2 _) ?_
  have KS:=fx.KS Et
  refine Uu ?_
  obtain⟨h,gn,d,t,os⟩:=s1
  have FI:∀b o,h.get? b=some o->((h.push (iK vs)).push (dh C h.objs.size)).get? b=some o:=λ b o e=>PC _ (PC _ e)
  have gx:((h.push (iK vs)).push (dh C h.objs.size)).get? (h.objs.size+1)=some (dh C h.objs.size):=by
   have:=PP (h.push (iK vs)) (o:=dh C h.objs.size) rfl
   rwa [Qd] at this
  have IP:h.get? (h.objs.size+1)=none:=aT (RR _)
  refine yF (lq KS ek.ex) (by refine aa hlen ?_;rcases hl with e|e<;>(refine aa e ?_;decide)) (XC KS ek.init) (λ self=>bind_fn KS self ek.Kf) ?_
  have hd:(A.under (.builtin "type.__call__" ⟨.ref C::vs,[]⟩)).depth<UN:=by have:=(gH.new (c:=C) (xs:=vs) hA).depth;exact ae 0x90be80c7fd10be80c7fc18813e249102 rfl ((A.under (Ws "type.__call__" {pos:=QL C::vs})).depth) n this
  refine Uj (BY ek (h0:=h) (s:=⟨(h.push (iK vs)).push (dh C h.objs.size),gn,d,t,os⟩) KS (fx.nl.keeps Et.base) (by refine ai fx.bi λ mb h1 h2=> ?_;exact aA mb (h1.keeps Et.base) h2) hd (by refine aa hlen ?_;exact hl) FI (by refine aa (Qd _ _) ?_;refine aa (Qd _ _) ?_;exact ae 0x106106145101 rfl h.objs.size) IP gx (show(1:Nat)<6 by decide) rfl rfl) ?_
  rintro r s2 ⟨rfl,⟨ho,hgn⟩,IZ,FG,dd,b0,g2,Ig,GI⟩
  refine⟨rfl,?_⟩
  have hk:∀b o,h.get? b=some o->s2.heap.get? b=some o:=λ b o e=>IZ b o (λ q=>by rw[q,IP] at e;cases e) (FI b o e)
  refine PA (QH (PD ?_))
  exact k s2 _ FG (some dd) #[] φ1 M1 q (Et.Gp hk) (Ep.trans (.ext hk ho hgn)) (Ep.dead IP) g2 ⟨b0,Ig⟩ GI
 refine uH hA.handled ek.ex (main λ s' xa vs d sl φ1 M1 q Et Ep hn g1 Ig GI=>⟨xa,vs,d,sl,rfl,fx.KS Et,g1,GI,?_⟩)
 obtain⟨b0,Ig⟩:=Ig
 exact⟨xa,φ1,M1,rfl,q,Et,Ep.wide,hn,.inl ⟨_,vs,b0,g1,Gn.symm,rfl,Ig,GI⟩⟩
end
section
variable{g:Gs}{tb:Tb}{K:RH}{Γ:aH}{N:Nm}{n:Nat}{W:P5->Prop}{A:Qz}{fr:List Env}{env:Env}{ρ:an}{φ:az}{M:AH}{s:PM}{E0:PL->PM->Prop}{C f:P5}{fd:SB}{h0 h':QI}
theorem aC.Fc(er:aC g.pl g.w.params W Γ env ρ φ M s.heap)(st:St g.pl g.w.params g.B W fr φ M s)(nt:bT h0 fr s.heap h'):aC g.pl g.w.params W Γ env ρ φ M h':=by
 have kp:∀b o,s.heap.get? b=some o->¬rec? o->bZ o (h'.get? b):=λ b o e nr=>by
  rcases nt.keep b o e (.inl nr) with k|⟨⟨en,he,hf⟩,_,sl,k⟩
  ·exact .inl k
  ·refine ai (st.GJ en he b hf) λ o2 e2 c=> ?_
   rw[e] at e2;cases e2
   exact .inr ⟨c,sl,k⟩
 have hk:∀b o,s.heap.get? b=some o->¬ow W φ M b->b7 o (h'.get? b):=λ b o e no=>by
  by_cases hr:rec? o
  ·exact .inr (.inr hr)
  ·exact(kp b o e hr).weak
 refine⟨er.kind,er.glob,er.bi,er.inj,er.Ff,?_,λ x hx=> ?_,er.apart⟩
 ·obtain⟨m,hm,hl⟩:=er.loc
  refine⟨m,bZ.ns hm λ o e=>kp _ o e ?_,λ x i hi hx=>(hl x i hi hx).mono (PB _) hk λ b q=>.inl q⟩
  refine vd hm λ o2 es ep F3 hd2 zz=> ?_;clear hm
  rw[e] at F3;cases F3
  rintro⟨vs,q⟩;rw[hd2] at q;cases q
 ·obtain⟨c,v,hc,hw,EE,hr⟩:=er.cell x hx
  refine⟨c,v,hc,hw,bZ.cell EE λ o e=>kp _ o e ?_,λ i hi=>(hr i hi).mono (PB _) hk λ b q=>.inl q⟩
  refine ai EE λ o2 F3 hd2=> ?_;clear EE
  rw[e] at F3;cases F3
  rintro⟨vs,q⟩;rw[hd2] at q;cases q
theorem sX(X:K.In s.heap)(hx:my K C=true)(he:s.heap.get? x=some oe)(hc:oe.cls=.ref C)(hq:Q true s):PT (PY g.prog g.w) A (excMatches (.ref x) (.ref C)) Q E0 s:=by
 have Y:=lq (M:=PY g.prog g.w) X hx
 obtain⟨⟨oc,MG,cd,NH,hC,e1,e2,e4⟩,made,base,self,exc,HI,HW,GS,Gi,meta',call,typ⟩:=Y
 have t1:Sv (PY g.prog g.w) s.heap (typeOf (.ref x)) (.ref C):=(VY he).andThen (by refine aa hc ?_;exact .now)
 have b1:Sv (PY g.prog g.w) s.heap (S3 (.ref C) (.type "tuple")) false:=meta'.andThen (V4 tc_notTuple)
 unfold excMatches isExcClass isType
 repeat (first|simp only [P6,if_false]|lk)
 exact hq
theorem bd.Gw(fx:Fx g tb K)(ek:oW g K C f fd)(Gn:g.cls=.ref C){i:Nat}{e:E}{x y:Str}{value:Qa}{tp ap yp KY kp Kn hp pos:Pos}{k:Nat}(he:aj g Γ N n e value)(hcs:iE value=none)(hx:cS Γ N (.one i) (.Name x tp)=true)(hg:cC N y=true)(hv:Xs K P3 y=some (some (.ref C))):
  bd g Γ N n (.Gw i e) (.Try [.Assign [.Name x tp] value ap] [.ExceptHandler (some (.Name y yp)) none [.Assign [.Name x KY] (.Constant .none k kp) Kn] hp] [] [] pos):=by
 intro W A fr env ρ φ M s Nx R X L hA hN hL er st hw
 have Jf:Γ.lookup x=some i/\dw N x=true:=⟨aq (af hx).1,(af hx).2⟩
 have JJ:RX value (some (.Name x tp)) ap.line env=pure false:=by
  have:fQ N value (.Name x tp) value.pos.line=false:=by unfold fQ;refine aa hcs ?_;rfl
  exact qh (target:=.Name x tp) (line:=ap.line) hN er.kind this
 refine wpAny_Try_except (R1 (YI (aS (α:=Unit) he hA hN er st hw (λ v z s1 φ1 M1 q Et Ep EC r1=> ?_) λ v s1 h=> ?_) JJ))
 ·refine fG EC Et Jf.1 (nE hN Jf.2) r1 λ s2 ET EB EA=> ?_
  exact RL (RL ⟨_,φ1,M1,q,ET,EB,Ep.wide.trans (EA.mono λ b q zz=>bu.EQ q)⟩)
 ·obtain⟨xa,φ2,M2,rfl,q,EB,EA,ex⟩:=h
  have ET:=er.Fb st EA
  refine oL (B:=g.B) (h0:=s.heap) hA.frames EB.frames hL (λ b=>EA.dead) ex λ h1 N2 t1=> ?_
  refine iB (fr:=env::fr) (s:={s1 with heap:=h1}) (f:=none) t1 λ h2 Ld t2=> ?_
  have IJ:=N2.trans Ld
  have hB:∀b o,g.B.get? b=some o->(s.heap.get? b).isSome=true:=λ b o e=>by refine aa (st.base b o e) ?_;rfl
  have Fj:St g.pl g.w.params g.B W (env::fr) φ2 M2 {s1 with heap:=h2}:=EB.Fc hB IJ
  have G1:=ET.Fc EB IJ
  refine wpAny_handleBy_cons (codeAny_handlers_test ?_) (by intro q;cases q)
  refine dU (s:={s1 with heap:=h2}) fx hN G1 Fj (bQ hg).1 (bQ hg).2 hv ?_
  have NO:=t2
  obtain⟨oe,vs,a0,T,oT,ts,Oo,Op,hxd,_⟩:=NO
  refine sX (s:={s1 with heap:=h2}) (fx.KS Fj) ek.ex Oo (Op.trans Gn) ?_
  refine aa (if_pos rfl) ?_
  refine codeAny_handlers_suite (iB (fr:=env::fr) (s:={s1 with heap:=h2}) (f:=none) t2 λ h3 Kz t3=> ?_)
  have II:=IJ.trans Kz
  have F6:St g.pl g.w.params g.B W (env::fr) φ2 M2 {s1 with heap:=h3}:=EB.Fc hB II
  have HP:=ET.Fc EB II
  have FR:av bt φ M s φ2 M2 {s1 with heap:=h3}:=EA.Fc EB II
  refine R1 (YI (Rt (fG (x:=.none) (s:={s1 with heap:=h3}) HP F6 Jf.1 (nE hN Jf.2) rfl λ s5 IC Hf Hg=> ?_)))
  exact RL ⟨_,φ2,M2,q,IC,Hf,FR.wide.trans (Hg.mono λ b q zz=>bu.EQ q)⟩
end
end Mine
end
section
namespace Mine
open PySem PySem.W PySem.Calls PyProof.Rows PySem.SeqAt
noncomputable abbrev oy(tup:Bool)(xs:List PL)(n:Nat):Obj:=if tup then iJ xs n else bb xs n
noncomputable def eK(tup:Bool)(h:QI)(it ax:P5)(i:Nat):Prop:=if tup then h.IsTupleIter it ax i else h.IsListIter it ax i
theorem eK.at'(x:eK tup h it ax i)(e:∀o,h.get? it=some o->h'.get? it=some o):eK tup h' it ax i:=by
 cases tup<;>(refine ai x λ o ho r=> ?_;clear x;exact aA o (e o ho) r)
theorem eK.cls(x:eK tup h it ax i):∃o,h.get? it=some o/\o.cls≠.type "frame" :=by
 cases tup<;>(refine bz x λ o ho c r=> ?_;clear x;exact aA o ho (by refine aa c ?_;simp))
section
variable{g:Gs}{A:Qz}{E0:PL->PM->Prop}{s:PM}
theorem iN(hit:eK tup s.heap it ax i)(hl:s.heap.get? ax=some (oy tup xs n))(hx:xs[i]? =some x)
  (hQ:∀h',eK tup h' it ax (i+1)->Qr it s.heap h'->Q x {s with heap:=h'}):PT (PY g.prog g.w) A (Qo (.ref it)) Q E0 s:=by
 cases tup with
 |false=>exact wpAny_nextOf_list_item hit ⟨_,hl,rfl,_,rfl⟩ (by simpa using hx) hQ
 |true=>
  have E8:s.heap.IsTupleIter it ax i:=hit
  refine bz (id E8) λ o ho hc hd=> ?_
  have Ln:xs.toArray[i]? =some x:=by simpa using hx
  unfold Qo
  refine PA (Ru (name:=PF "__next__") E8.typeIs Rf
   (QY Rf E8.typeIs Uc ?_ (TY _)))
  show PT _ _ (Yx (.ref it) 0>>=_) _ _ s
  refine PA (Qx ho hd (x:=.ref ax) rfl ?_)
  show PT _ _ (if(QL ax==Qi)=true then _ else _) _ _ s
  refine aa (if_neg (show¬((QL ax==Qi)=true) from SZ)) ?_
  show PT _ _ (Yx (.ref it) 1>>=_) _ _ s
  refine PA (Qx ho hd (x:=.int i 0) rfl ?_)
  show PT _ _ (Xy (.ref ax)>>=_) _ _ s
  refine PA (Rl hl rfl ?_)
  simp only [PH,Ln]
  refine PA (SC ho hd (by simp) (PD ⟨x,rfl,PD (hQ _ ?_ (QA ..))⟩))
  exact gu _ (P7 _ ho (Obj.isFreed_of_fields (Rv hd _))) ((XJ ..).trans hc) (by
   (first|refine aa (Rv hd) ?_|refine aa ((Rv hd) _) ?_);simp[Sk])
theorem ny(hh:A.handled=none)(hit:eK tup s.heap it ax i)(hl:s.heap.get? ax=some (oy tup xs n))(hx:xs[i]? =none)
  (hE:∀h' e,Heap.ExtBut it s.heap h'->(∃o,h'.get? e=some o/\o.cls=.type "StopIteration")->E0 (.ref e) {s with heap:=h'}):PT (PY g.prog g.w) A (Qo (.ref it)) Q E0 s:=by
 cases tup with
 |false=>exact wpAny_nextOf_list_end hh hit ⟨_,hl,rfl,_,rfl⟩ (by simpa using hx) hE
 |true=>
  have E8:s.heap.IsTupleIter it ax i:=hit
  refine bz (id E8) λ o ho hc hd=> ?_
  have Ln:xs.toArray[i]? =none:=by simpa using hx
  unfold Qo
  refine PA (Ru (name:=PF "__next__") E8.typeIs Rf
   (QY Rf E8.typeIs Uc ?_ (TY _)))
  show PT _ _ (Yx (.ref it) 0>>=_) _ _ s
  refine PA (Qx ho hd (x:=.ref ax) rfl ?_)
  show PT _ _ (if(QL ax==Qi)=true then _ else _) _ _ s
  refine aa (if_neg (show¬((QL ax==Qi)=true) from SZ)) ?_
  show PT _ _ (Yx (.ref it) 1>>=_) _ _ s
  refine PA (Qx ho hd (x:=.int i 0) rfl ?_)
  show PT _ _ (Xy (.ref ax)>>=_) _ _ s
  refine PA (Rl hl rfl ?_)
  simp only [PH,Ln]
  refine PA (TE (PA (SC ho hd (by simp) ?_)))
  show PT _ _ (newExc (.type "StopIteration") []>>=_) _ _ _
  refine PA ?_
  simp only [newExc,newTuple]
  refine PA (VD ?_ (by size_fits))
  refine PA (m:=firstArgMember _ _) (Rs (a:=Qi) (by first|rfl|(simp only [firstArgMember];rfl)) ?_)
  refine VD ?_ (by size_fits)
  simp only [raiseNew]
  refine PA (wpAny_handled ?_)
  first|refine aa (show A.in1.handled=none from hh) ?_|rw[hh]
  refine PA (PD (wpAny_throw ?_))
  exact hE _ _ (((QA ..).extBut.push _).push _) ⟨_,PP _ rfl,rfl⟩
theorem xb(hs:Qr a h h')(c:Nat)(hc:c≠a)(e:h.get? c=some o):h'.get? c=some o:=hs.extBut c o hc e
structure iG(t1 t2:Bool)(b l1 l2:Nat)(xs ys:List PL)(i:Nat)(f0:PL)(h:QI):Prop where
 z:W4 h (b+4) (b+2) (b+3) f0
 ti:Va h (b+2) (.ref b) (.ref (b+1))
 to:∃a c,Va h (b+3) a c
 i1:eK t1 h b l1 i
 i2:eK t2 h (b+1) l2 i
 g1:∃n,h.get? l1=some (oy t1 xs n)
 g2:∃n,h.get? l2=some (oy t2 ys n)
 b1:l1<b
 b2:l2<b
noncomputable def eL(b c:Nat):Prop:=c=b∨c=b+1∨c=b+2∨c=b+3∨c=b+4
theorem xA(Z:iG t1 t2 b l1 l2 xs ys i .none s.heap)(hx:xs[i]? =some x)(hy:ys[i]? =some y)
  (hQ:∀h',iG t1 t2 b l1 l2 xs ys (i+1) (Sk s.heap.objs.size) h'->Va h' s.heap.objs.size x y->(∀(c:Nat) o,s.heap.get? c=some o->¬eL b c->h'.get? c=some o)->Q (some (.ref s.heap.objs.size)) {s with heap:=h'}):
  PT (PY g.prog g.w) A (WR (.ref (b+4))) Q E0 s:=by
 obtain⟨hz,Ix,⟨a,c,I6⟩,h1,h2,⟨n1,Hw⟩,⟨n2,Gm⟩,b1,b2⟩:=Z
 have hT:s.TypeIs (.ref (b+4)) "zip" :=⟨_,hz,rfl⟩
 unfold WR
 refine PA (wpAny_attempt (Ru (name:=PF "__next__") hT Se
  (QY Se hT VU ?_ (VG _))))
 show PT _ _ (Yx (.ref (b+4)) 2>>=_) _ _ _
 refine PA (Qx hz rfl (x:=.bool false) rfl ?_)
 show PT _ _ (Yx (.ref (b+4)) 3>>=_) _ _ _
 refine PA (Qx hz rfl (x:=.ref (b+2)) rfl ?_)
 refine PA (Rl Ix rfl ?_)
 show PT _ _ (QR (.ref (b+4))>>=_) _ _ _
 refine PA ?_
 unfold QR
 refine PA (Qx hz rfl (x:=.none) rfl (PD ?_))
 simp only [if_true]
 refine PA (TE ?_)
 refine PA (Qx hz rfl (x:=.ref (b+3)) rfl ?_)
 refine PA (RD hz (by simp) λ k₁ Ii GW=> ?_)
 replace Ii:W4 k₁ (b+4) (b+2) (b+3) .ellipsis:=Ii
 refine PA ?_
 simp only [XM,XU,Q5,RN]
 have e1:∀(c:Nat) o,c≠b+4->s.heap.get? c=some o->k₁.get? c=some o:=λ c o hc e=>GW.extBut c o hc e
 refine PA (PA (Vf ?_))
 show PT _ _ (Qo (.ref b)>>=_) _ _ _
 refine PA (iN (s:={s with heap:=k₁}) (h1.at' λ o e=>e1 b o (ae 0x980306445101 rfl b) e) (e1 l1 _ (ae 0x92600c191244249102 rfl l1 b b1) Hw) hx λ k₂ NC Hs=>PD ?_)
 have e2:∀(c:Nat) o,c≠b+4->c≠b->s.heap.get? c=some o->k₂.get? c=some o:=λ c o h4 h0 e=>Hs.extBut c o h0 (e1 c o h4 e)
 have HD:Va k₂ (b+3) a c:=e2 _ _ (ae 0x98030644418d101 rfl b) (ae 0x98034418d101 rfl b) I6
 refine PA (Rl HD rfl ?_)
 refine PA (UI HD λ k₃ Ib HL=> ?_)
 replace Ib:Va k₃ (b+3) x c:=Ib
 have e3:∀(c:Nat) o,c≠b+4->c≠b->c≠b+3->s.heap.get? c=some o->k₃.get? c=some o:=λ c o h4 h0 h3 e=>HL.extBut c o h3 (e2 c o h4 h0 e)
 refine PA (Wj (PD ?_))
 refine PA (PA (Vf ?_))
 show PT _ _ (Qo (.ref (b+1))>>=_) _ _ _
 refine PA (iN (s:={s with heap:=k₃}) (h2.at' λ o e=>e3 (b+1) o (ae 0x980306444185101 rfl b) (ae 0x980344185101 rfl b) (ae 0x980306344185101 rfl b) e) (e3 l2 _ (ae 0x92600c191244249102 rfl l2 b b2) (ae 0x92600d244249102 rfl l2 b b2) (ae 0x92600c18d244249102 rfl l2 b b2) Gm) hy λ k₄ O7 Ik=>PD ?_)
 have e4:∀(c:Nat) o,c≠b+4->c≠b->c≠b+3->c≠b+1->s.heap.get? c=some o->k₄.get? c=some o:=λ c o h4 h0 h3 h1 e=>Ik.extBut c o h1 (e3 c o h4 h0 h3 e)
 have J5:Va k₄ (b+3) x c:=xb Ik _ (ae 0x98030614418d101 rfl b) Ib
 refine PA (Rl J5 rfl ?_)
 refine PA (UI J5 λ k₅ Ia Ij=> ?_)
 replace Ia:Va k₅ (b+3) x y:=Ia
 refine PA (Wj (PD (PD ?_)))
 refine PA (Rl Ia rfl ?_)
 refine PA (wpAny_newTuple ?_)
 have Fe:k₅.objs.size=s.heap.objs.size:=by refine aa Ij.1 ?_;refine aa Ik.1 ?_;refine aa HL.1 ?_;refine aa Hs.1 ?_;refine aa GW.1 ?_;rfl
 have MQ:W4 k₅ (b+4) (b+2) (b+3) .ellipsis:=xb Ij _ (ae 0x980306344191101 rfl b) (xb Ik _ (ae 0x980306144191101 rfl b) (xb HL _ (ae 0x980306344191101 rfl b) (xb Hs _ (ae 0x980344191101 rfl b) Ii)))
 have e5:∀(c:Nat) o,c≠b+4->c≠b->c≠b+3->c≠b+1->s.heap.get? c=some o->k₅.get? c=some o:=λ c o h4 h0 h3 h1 e=>Ij.extBut c o h3 (e4 c o h4 h0 h3 h1 e)
 have Pa:eK t1 k₅ b l1 (i+1):=NC.at' λ o e=>xb Ij _ (ae 0x980306345101 rfl b) (xb Ik _ (ae 0x980306145101 rfl b) (xb HL _ (ae 0x980306345101 rfl b) e))
 have O6:eK t2 k₅ (b+1) l2 (i+1):=O7.at' λ o e=>xb Ij _ (ae 0x980306344185101 rfl b) e
 have JE:b+4<k₅.objs.size:=Qb MQ
 show PT _ _ (SV (.ref (b+4)) (.ref k₅.objs.size)>>=_) _ _ _
 refine PA ?_
 unfold SV
 have Om:W4 (k₅.push {cls:=.type "tuple",data:=.seq #[x,y]}) (b+4) (b+2) (b+3) .ellipsis:=PC _ MQ
 refine PA (RD Om (by simp) λ k₇ Lm Na=> ?_)
 replace Lm:W4 k₇ (b+4) (b+2) (b+3) (Sk k₅.objs.size):=Lm
 refine RD Lm (by simp) λ k₈ KA MZ=> ?_
 replace KA:W4 k₈ (b+4) (b+2) (b+3) (Sk k₅.objs.size):=KA
 have up:∀(c:Nat) o,c≠b+4->k₅.get? c=some o->k₈.get? c=some o:=λ c o c1 e=>MZ.extBut _ _ c1 (Na.extBut _ _ c1 (PC _ e))
 have Nu:Va k₈ k₅.objs.size x y:=MZ.extBut _ _ (Sw JE) (Na.extBut _ _ (Sw JE) (PP _ rfl))
 rw[Fe] at KA Nu
 refine PD ⟨_,rfl,PD ?_⟩
 show Q (some (.ref k₅.objs.size)) _
 refine aa Fe ?_
 refine hQ k₈ ⟨KA,up _ _ (ae 0x980306444189101 rfl b) (e5 _ _ (ae 0x980306444189101 rfl b) (ae 0x980344189101 rfl b) (ae 0x980306344189101 rfl b) (ae 0x980306144189101 rfl b) Ix),⟨x,y,up _ _ (ae 0x98030644418d101 rfl b) Ia⟩,Pa.at' λ o e=>up _ o (ae 0x980306445101 rfl b) e,O6.at' λ o e=>up _ o (ae 0x980306444185101 rfl b) e,
  ⟨n1,up _ _ (ae 0x92600c191244249102 rfl l1 b b1) (e5 _ _ (ae 0x92600c191244249102 rfl l1 b b1) (ae 0x92600d244249102 rfl l1 b b1) (ae 0x92600c18d244249102 rfl l1 b b1) (ae 0x92600c185244249102 rfl l1 b b1) Hw)⟩,⟨n2,up _ _ (ae 0x92600c191244249102 rfl l2 b b2) (e5 _ _ (ae 0x92600c191244249102 rfl l2 b b2) (ae 0x92600d244249102 rfl l2 b b2) (ae 0x92600c18d244249102 rfl l2 b b2) (ae 0x92600c185244249102 rfl l2 b b2) Gm)⟩,b1,b2⟩ Nu λ(c:Nat) o e nz=> ?_
 unfold eL at nz
 exact up c o (ae 0x92600c19124498082082030644910c18d24430624910c185244349102 rfl c b nz) (e5 c o (ae 0x92600c19124498082082030644910c18d24430624910c185244349102 rfl c b nz) (ae 0x92600d24498082082030644910c18d24430624910c185244349102 rfl c b nz) (ae 0x92600c18d24498082082030644910c18d24430624910c185244349102 rfl c b nz) (ae 0x92600c18524498082082030644910c18d24430624910c185244349102 rfl c b nz) e)
theorem zU(hh:A.handled=none)(Z:iG t1 t2 b l1 l2 xs ys i .none s.heap)(hend:xs[i]? =none∨ys[i]? =none)
  (hQ:∀h',(∀(c:Nat) o,s.heap.get? c=some o->¬eL b c->h'.get? c=some o)->Q none {s with heap:=h'}):PT (PY g.prog g.w) A (WR (.ref (b+4))) Q E0 s:=by
 obtain⟨hz,Ix,⟨a,c,I6⟩,h1,h2,⟨n1,Hw⟩,⟨n2,Gm⟩,b1,b2⟩:=Z
 have hT:s.TypeIs (.ref (b+4)) "zip" :=⟨_,hz,rfl⟩
 have stop:∀(e:P5) (h':QI),(∃o,h'.get? e=some o/\o.cls=.type "StopIteration")->(∀(c:Nat) o,s.heap.get? c=some o->¬eL b c->h'.get? c=some o)->PT (PY g.prog g.w) A (do if<-S3 (.ref e) (.type "StopIteration") then pure none else throw (QL e)) Q E0 {s with heap:=h'}:=λ e h' ⟨o,ho,hc⟩ hk=>by
  refine PA (wpAny_isInstance (T:= "StopIteration") (b:=true) ⟨o,ho,hc⟩ isSubtype_stop ?_)
  exact PD (hQ _ hk)
 unfold WR
 refine PA (wpAny_attempt (Ru (name:=PF "__next__") hT Se
  (QY Se hT VU ?_ (VG _))))
 show PT _ _ (Yx (.ref (b+4)) 2>>=_) _ _ _
 refine PA (Qx hz rfl (x:=.bool false) rfl ?_)
 show PT _ _ (Yx (.ref (b+4)) 3>>=_) _ _ _
 refine PA (Qx hz rfl (x:=.ref (b+2)) rfl ?_)
 refine PA (Rl Ix rfl ?_)
 show PT _ _ (QR (.ref (b+4))>>=_) _ _ _
 refine PA ?_
 unfold QR
 refine PA (Qx hz rfl (x:=.none) rfl (PD ?_))
 simp only [if_true]
 refine PA (TE ?_)
 refine PA (Qx hz rfl (x:=.ref (b+3)) rfl ?_)
 refine PA (RD hz (by simp) λ k₁ Ii GW=> ?_)
 replace Ii:W4 k₁ (b+4) (b+2) (b+3) .ellipsis:=Ii
 refine PA ?_
 simp only [XM,XU,Q5,RN]
 have e1:∀(c:Nat) o,c≠b+4->s.heap.get? c=some o->k₁.get? c=some o:=λ c o hc e=>GW.extBut c o hc e
 refine PA (PA (Vf ?_))
 show PT _ _ (Qo (.ref b)>>=_) _ _ _
 cases hx:xs[i]? with
 |none=>
  refine PA (ny (s:={s with heap:=k₁}) hh (h1.at' λ o e=>e1 b o (ae 0x980306445101 rfl b) e) (e1 l1 _ (ae 0x92600c191244249102 rfl l1 b b1) Hw) hx λ k₂ e Hs he=> ?_)
  refine ai he λ oe IW I3=> ?_;clear he
  have MS:W4 k₂ (b+4) (b+2) (b+3) .ellipsis:=Hs _ _ (show(b+4:Nat)≠b by exact ae 0x980344191101 rfl b) Ii
  have LJ:e≠b+4:=λ q=>by rw[q,MS] at IW;cases IW;simp at I3
  refine RD MS (by simp) λ k₃ zz HL=>stop e k₃ ⟨oe,HL.extBut _ _ LJ IW,I3⟩ λ c o ec nz=> ?_
  unfold eL at nz
  exact HL.extBut c o (show(c:Nat)≠b+4 by exact ae 0x92600c19124498082082030644910c18d24430624910c185244349102 rfl c b nz) (Hs c o (show(c:Nat)≠b by exact ae 0x92600d24498082082030644910c18d24430624910c185244349102 rfl c b nz) (e1 c o (by exact ae 0x92600c19124498082082030644910c18d24430624910c185244349102 rfl c b nz) ec))
 |some x=>
  have hy:ys[i]? =none:=by rcases hend with h|h;rw[hx] at h;cases h;exact h
  refine PA (iN (s:={s with heap:=k₁}) (h1.at' λ o e=>e1 b o (ae 0x980306445101 rfl b) e) (e1 l1 _ (ae 0x92600c191244249102 rfl l1 b b1) Hw) hx λ k₂ NC Hs=>PD ?_)
  have e2:∀(c:Nat) o,c≠b+4->c≠b->s.heap.get? c=some o->k₂.get? c=some o:=λ c o h4 h0 e=>Hs.extBut c o h0 (e1 c o h4 e)
  have HD:Va k₂ (b+3) a c:=e2 _ _ (ae 0x98030644418d101 rfl b) (ae 0x98034418d101 rfl b) I6
  refine PA (Rl HD rfl ?_)
  refine PA (UI HD λ k₃ Ib HL=> ?_)
  have e3:∀(c:Nat) o,c≠b+4->c≠b->c≠b+3->s.heap.get? c=some o->k₃.get? c=some o:=λ c o h4 h0 h3 e=>HL.extBut c o h3 (e2 c o h4 h0 e)
  refine PA (Wj (PD ?_))
  refine PA (PA (Vf ?_))
  show PT _ _ (Qo (.ref (b+1))>>=_) _ _ _
  refine PA (ny (s:={s with heap:=k₃}) hh (h2.at' λ o e=>e3 (b+1) o (ae 0x980306444185101 rfl b) (ae 0x980344185101 rfl b) (ae 0x980306344185101 rfl b) e) (e3 l2 _ (ae 0x92600c191244249102 rfl l2 b b2) (ae 0x92600d244249102 rfl l2 b b2) (ae 0x92600c18d244249102 rfl l2 b b2) Gm) hy λ k₄ e Ik he=> ?_)
  refine ai he λ oe IW I3=> ?_;clear he
  have On:W4 k₃ (b+4) (b+2) (b+3) .ellipsis:=xb HL _ (ae 0x980306344191101 rfl b) (xb Hs _ (ae 0x980344191101 rfl b) Ii)
  have MR:W4 k₄ (b+4) (b+2) (b+3) .ellipsis:=Ik _ _ (show(b+4:Nat)≠b+1 by exact ae 0x980306144191101 rfl b) On
  have LJ:e≠b+4:=λ q=>by rw[q,MR] at IW;cases IW;simp at I3
  refine RD MR (by simp) λ k₅ zz Ij=>stop e k₅ ⟨oe,Ij.extBut _ _ LJ IW,I3⟩ λ c o ec nz=> ?_
  unfold eL at nz
  exact Ij.extBut c o (show(c:Nat)≠b+4 by exact ae 0x92600c19124498082082030644910c18d24430624910c185244349102 rfl c b nz) (Ik c o (show(c:Nat)≠b+1 by exact ae 0x92600c18524498082082030644910c18d24430624910c185244349102 rfl c b nz) (e3 c o (by exact ae 0x92600c19124498082082030644910c18d24430624910c185244349102 rfl c b nz) (by exact ae 0x92600d24498082082030644910c18d24430624910c185244349102 rfl c b nz) (by exact ae 0x92600c18d24498082082030644910c18d24430624910c185244349102 rfl c b nz) ec))
inductive Cm(g:Gs)(t1 t2:Bool)(b l1 l2:Nat)(us ws:List PL)(W:P5->Prop)(φ:az)(M:AH)(h:QI)(xs:List V):Prop
 |mk (i:Nat) (ys zs:List V):iG t1 t2 b l1 l2 us ws i .none h->¬ow W φ M l1->¬ow W φ M l2->am g.pl g.w.params φ (ow W φ M) h ys (us.drop i)->am g.pl g.w.params φ (ow W φ M) h zs (ws.drop i)->xs=n6 ys zs->Cm g t1 t2 b l1 l2 us ws W φ M h xs
theorem iG.keep(Z:iG t1 t2 b l1 l2 xs ys i f0 h)(hZ:∀c o,eL b c->h.get? c=some o->bZ o (h'.get? c))(Hw:∀o,h.get? l1=some o->h'.get? l1=some o)(Gm:∀o,h.get? l2=some o->h'.get? l2=some o):iG t1 t2 b l1 l2 xs ys i f0 h':=by
 obtain⟨hz,Ix,⟨a,c,I6⟩,h1,h2,⟨n1,g1⟩,⟨n2,g2⟩,b1,b2⟩:=Z
 refine⟨(hZ _ _ (.inr (.inr (.inr (.inr rfl)))) hz).eq (by simp),(hZ _ _ (.inr (.inr (.inl rfl))) Ix).eq (by simp),⟨a,c,(hZ _ _ (.inr (.inr (.inr (.inl rfl)))) I6).eq (by simp)⟩,?_,?_,⟨n1,Hw _ g1⟩,⟨n2,Gm _ g2⟩,b1,b2⟩
 ·refine ai h1.cls λ o e c=> ?_
  exact h1.at' λ o' e'=>by rw[e] at e';cases e';exact(hZ _ _ (.inl rfl) e).eq c
 ·refine ai h2.cls λ o e c=> ?_
  exact h2.at' λ o' e'=>by rw[e] at e';cases e';exact(hZ _ _ (.inr (.inl rfl)) e).eq c
theorem tu(k:b7 (oy t xs n) x):x=some (oy t xs n):=k.eq (by cases t;exact .list;exact .tup)
theorem ig.zip:ig g A (b+4) (eL b) lm (Cm g t1 t2 b l1 l2 us ws) where
 mono:=by
  rintro W W' φ φ' M M' h h' xs hp hk ho hI ⟨i,ys,zs,Z,n1,n2,r1,r2,e⟩
  obtain⟨m1,g1⟩:=Z.g1
  obtain⟨m2,g2⟩:=Z.g2
  exact⟨i,ys,zs,Z.keep (λ c o z=>hI c o z) (λ o q=>by rw[g1] at q;cases q;exact tu (hk _ _ g1 n1)) (λ o q=>by rw[g2] at q;cases q;exact tu (hk _ _ g2 n2)),
   λ q=>(ho _ q).elim n1 (dK g1),λ q=>(ho _ q).elim n2 (dK g2),r1.mono hp hk ho,r2.mono hp hk ho,e⟩
 next:=by
  rintro W fr φ M s x xs E target Q hZ hF ht st ⟨i,ys,zs,Z,n1,n2,r1,r2,e⟩ k
  cases ys with
  |nil=>cases e
  |cons y ys=>
   cases zs with
   |nil=>cases e
   |cons z zs=>
    cases e
    refine bz r1.FA λ u hu ru Kt=> ?_
    refine bz r2.FA λ w hw NV rws=> ?_
    refine xA Z hu hw λ h' Z' hT hk=>⟨_,rfl,?_⟩
    cases target<;>first|exact ht.elim|skip
    refine wpAny_letOwnedTupleGo_zip Z'.z λ h2 H0 F2=> ?_
    have O0:(s.heap.objs.size:Nat)≠b+4:=by have:b+4<s.heap.objs.size:=Qb Z.z;exact ae 0x92600c191148248191102 rfl b s.heap.objs.size this
    have Jk:∀c o,s.heap.get? c=some o->¬eL b c->h2.get? c=some o:=λ c o e nz=>F2.extBut c o (λ q=>nz (.inr (.inr (.inr (.inr q))))) (hk c o e nz)
    have F1:iG t1 t2 b l1 l2 us ws (i+1) .none h2:=by
     obtain⟨hz,Ix,⟨a,c,I6⟩,h1,Mf,⟨m1,g1⟩,⟨m2,g2⟩,b1,b2⟩:=Z'
     refine⟨H0,xb F2 _ (ae 0x980306444189101 rfl b) Ix,⟨a,c,xb F2 _ (ae 0x98030644418d101 rfl b) I6⟩,h1.at' λ o e=>xb F2 _ (ae 0x980306445101 rfl b) e,Mf.at' λ o e=>xb F2 _ (ae 0x980306444185101 rfl b) e,⟨m1,xb F2 _ (ae 0x92600c191244249102 rfl l1 b b1) g1⟩,⟨m2,xb F2 _ (ae 0x92600c191244249102 rfl l2 b b2) g2⟩,b1,b2⟩
    have alive:∀c o,s.heap.get? c=some o->∃o',h2.get? c=some o':=λ c o e=>by
     by_cases q:eL b c
     ·rcases q with q|q|q|q|q<;>subst q
      ·refine ai F1.i1.cls λ o e zz=> ?_;exact⟨o,e⟩
      ·refine ai F1.i2.cls λ o e zz=> ?_;exact⟨o,e⟩
      ·exact⟨_,F1.ti⟩
      ·obtain⟨a,c,e⟩:=F1.to;exact⟨_,e⟩
      ·exact⟨_,F1.z⟩
     ·exact⟨o,Jk c o e q⟩
    have Fh:∀c o,s.heap.get? c=some o->¬ow W φ M c->b7 o (h2.get? c):=λ c o e nb=>.inl (Jk c o e λ q=>nb (.inl (hZ c q)))
    refine k _ _ (st.touched (Z:=eL b) (s':={s with heap:=h2}) Jk hZ alive hF) (.touched Jk alive rfl rfl) ?_ ⟨i+1,ys,zs,F1,n1,n2,Kt.mono (PB _) Fh λ b q=>.inl q,rws.mono (PB _) Fh λ b q=>.inl q,rfl⟩
    refine VR.t ?_
    refine⟨_,[u,w],0,rfl,λ q=>Rp _ (st.IG q),xb F2 _ O0 hT,(show(2:Nat)<=ar by decide),?_⟩
    refine am.c ?_
    refine⟨u,[w],rfl,ru.mono (PB _) Fh λ b q=>.inl q,?_⟩
    refine am.c ?_
    exact⟨w,[],rfl,NV.mono (PB _) Fh λ b q=>.inl q,rfl⟩
 done:=by
  rintro W φ M s E Q hh ⟨i,ys,zs,Z,n1,n2,r1,r2,e⟩ k
  refine zU hh Z ?_ λ h' hk=>k h' s.toks λ c o e nz=>hk c o e nz
  cases ys with
  |nil=>exact .inl r1.FL
  |cons y ys=>
   cases zs with
   |nil=>exact .inr r2.FL
   |cons z zs=>cases e
 again:=by
  rintro W φ M s xs E Q ⟨i,ys,zs,Z,_⟩ k
  exact wpAny_pyIter_zip Z.z k
end
noncomputable abbrev zA(h:QI)(l1:P5):QI:=h.push {cls:=.type "tuple_iterator",data:=.fields #[.ref l1,.int 0 0]}
noncomputable abbrev zB(h:QI)(l1 l2:P5):QI:=(zA h l1).push {cls:=.type "list_iterator",data:=.fields #[.ref l2,.int 0 0]}
noncomputable abbrev zC(h:QI)(l1 l2:P5):QI:=(zB h l1 l2).push {cls:=.type "tuple",data:=.seq #[.ref h.objs.size,.ref (zA h l1).objs.size]}
noncomputable abbrev zD(h:QI)(l1 l2:P5):QI:=(zC h l1 l2).push {cls:=.type "tuple",data:=.seq #[.none,.none]}
noncomputable abbrev zE(h:QI)(l1 l2:P5):QI:=(zD h l1 l2).push {cls:=.type "zip",data:=.fields #[.none,.bool false,.bool false,.ref (zB h l1 l2).objs.size,.ref (zC h l1 l2).objs.size]}
theorem wE(l1 l2:P5)(xs ys:Array PL):
  Meets (Builtin.«zip.__new__» ⟨[.type "zip",.ref l1,.ref l2],[]⟩) (λ zz R s=>s.heap.IsTuple l1 xs/\s.heap.IsList l2 ys/\R (.ok (.ret (.ref (zD s.heap l1 l2).objs.size))) {s with heap:=zE s.heap l1 l2}):=
 .of_wp λ prog w A R s h=>by
  obtain⟨hp,g,d,tk,os⟩:=s;rename type_of% h=>oqe;refine ei oqe λ Hw Gm h=> ?_;clear oqe
  have H2:=sub_zip
  have O3:Heap.IsTuple (Ym ⟨hp,g,d,tk,os⟩) l1 xs:=Hw
  have Mc:Heap.IsList (Ym ⟨hp.push {cls:=.type "tuple_iterator",data:=.fields #[.ref l1,.int 0 0]},g,d,tk,os⟩) l2 ys:=Heap.IsList.push Gm _
  wp_walk using Yk O3,VB Mc
  exact aA _ rfl h
section
variable{g:Gs}{tb:Tb}{K:RH}{Γ:aH}{N:Nm}{n:Nat}{W:P5->Prop}{A:Qz}{fr:List Env}{env:Env}{ρ:an}{φ φ0:az}{M M0:AH}{s s0:PM}{E0:PL->PM->Prop}
theorem yQ(Hw:s.heap.IsTuple l1 xs)(Gm:s.heap.IsList l2 ys)
  (h:∀h',W4 h' (s.heap.objs.size+4) (s.heap.objs.size+2) (s.heap.objs.size+3) .none->Va h' (s.heap.objs.size+2) (.ref s.heap.objs.size) (.ref (s.heap.objs.size+1))->
   Va h' (s.heap.objs.size+3) .none .none->h'.IsTupleIter s.heap.objs.size l1 0->h'.IsListIter (s.heap.objs.size+1) l2 0->
   (∀c o,s.heap.get? c=some o->h'.get? c=some o)->Q (.ref (s.heap.objs.size+4)) {s with heap:=h'}):
  PT (PY g.prog g.w) A (call (.type "zip") [.ref l1,.ref l2]) Q E0 s:=by
 refine callType_new PySem.F.called_zip (by decide) (PySem.F.typeCall_zip_2 _ _) (PySem.F.newCall_zip_2 _ _) (λ obj=>PySem.F.args_object_init_3 obj _ _) PySem.F.entry_zip_new (wE l1 l2 xs ys) ⟨Hw,Gm,?_⟩
 show _/\_
 unfold zE zD zC zB zA
 generalize JY:s.heap.push {cls:=.type "tuple_iterator",data:=.fields #[.ref l1,.int 0 0]}=k1
 generalize FI:k1.push {cls:=.type "list_iterator",data:=.fields #[.ref l2,.int 0 0]}=k2
 have z1:k1.objs.size=s.heap.objs.size+1:=by refine aE JY ?_;exact Qd ..
 have z2:k2.objs.size=s.heap.objs.size+2:=by refine aE FI ?_;refine aa (Qd _ _) ?_;refine aa z1 ?_;rfl
 refine aa z1 ?_;refine aa z2 ?_
 generalize IZ:k2.push {cls:=.type "tuple",data:=.seq #[.ref s.heap.objs.size,.ref (s.heap.objs.size+1)]}=k3
 have z3:k3.objs.size=s.heap.objs.size+3:=by refine aE IZ ?_;refine aa (Qd _ _) ?_;refine aa z2 ?_;rfl
 refine aa z3 ?_
 generalize H6:k3.push {cls:=.type "tuple",data:=.seq #[.none,.none]}=k4
 have z4:k4.objs.size=s.heap.objs.size+4:=by refine aE H6 ?_;refine aa (Qd _ _) ?_;refine aa z3 ?_;rfl
 refine aa z4 ?_
 generalize H5:k4.push {cls:=.type "zip",data:=.fields #[.none,.bool false,.bool false,.ref (s.heap.objs.size+2),.ref (s.heap.objs.size+3)]}=k5
 have p1:∀c o,s.heap.get? c=some o->k1.get? c=some o:=λ c o e=>by refine aE JY ?_;exact PC _ e
 have p2:∀c o,k1.get? c=some o->k2.get? c=some o:=λ c o e=>by refine aE FI ?_;exact PC _ e
 have p3:∀c o,k2.get? c=some o->k3.get? c=some o:=λ c o e=>by refine aE IZ ?_;exact PC _ e
 have p4:∀c o,k3.get? c=some o->k4.get? c=some o:=λ c o e=>by refine aE H6 ?_;exact PC _ e
 have p5:∀c o,k4.get? c=some o->k5.get? c=some o:=λ c o e=>by refine aE H5 ?_;exact PC _ e
 have g1:k1.get? s.heap.objs.size=some {cls:=.type "tuple_iterator",data:=.fields #[.ref l1,.int 0 0]}:=by refine aE JY ?_;exact PP _ rfl
 have g2:k2.get? (s.heap.objs.size+1)=some {cls:=.type "list_iterator",data:=.fields #[.ref l2,.int 0 0]}:=by refine aE z1 ?_;refine aE FI ?_;exact PP _ rfl
 have g3:k3.get? (s.heap.objs.size+2)=some {cls:=.type "tuple",data:=.seq #[.ref s.heap.objs.size,.ref (s.heap.objs.size+1)]}:=by refine aE z2 ?_;refine aE IZ ?_;exact PP _ rfl
 have g4:k4.get? (s.heap.objs.size+3)=some {cls:=.type "tuple",data:=.seq #[.none,.none]}:=by refine aE z3 ?_;refine aE H6 ?_;exact PP _ rfl
 have g5:k5.get? (s.heap.objs.size+4)=some {cls:=.type "zip",data:=.fields #[.none,.bool false,.bool false,.ref (s.heap.objs.size+2),.ref (s.heap.objs.size+3)]}:=by refine aE z4 ?_;refine aE H5 ?_;exact PP _ rfl
 exact⟨⟨_,g5,rfl⟩,h k5 g5 (p5 _ _ (p4 _ _ g3)) (p5 _ _ g4) ⟨_,p5 _ _ (p4 _ _ (p3 _ _ (p2 _ _ g1))),rfl,rfl⟩ ⟨_,p5 _ _ (p4 _ _ (p3 _ _ g2)),rfl,rfl⟩ λ c o e=>p5 _ _ (p4 _ _ (p3 _ _ (p2 _ _ (p1 c o e))))⟩
theorem fy.zip(fx:Fx g tb K){a b:E}{xa xb:Qa}{x:Str}{p pos:Pos}(ha:aj g Γ N n a xa)(hb:aj g Γ N n b xb)(na:aw xa=true)(nb:aw xb=true)(hbi:dG N x (.type "zip")=true):fy g Γ N n (.zip a b) (.Call (.Name x p) [xa,xb] [] pos) lm:=by
 intro W A fr env ρ φ M s Q X E0 hA hN er st hw hE
 refine gO fx hN er st (cE hbi).1 (cE hbi).2 (n7 na nb) (zd (Q1:=λ x y M2=>aB (nR x) λ xs=>aB (lw y) λ ys=>Q (n6 xs ys) M2) ha hb na nb hA hN er st hw (λ v u x y s1 φ1 M1 q1 Et Ep EC r1 r2=> ?_) hE)
 refine ai (aD q1) λ xs hx q1=> ?_
 refine ai (aD q1) λ ys hy q1=> ?_
 cases mB hx
 cases rY hy
 clear hw er EC st ha hb na nb hbi hE hA hx hy
 obtain⟨l1,us,m1,rfl,n1,g1,_,NX⟩:=r1
 obtain⟨l2,ws,m2,rfl,n2,g2,_,NW⟩:=r2
 refine yQ ⟨_,g1,rfl,m1,rfl⟩ (dE g2) λ h' hz JG MY LG LF hk=>wpAny_pyIter_zip hz ?_
 have a1:l1<s1.heap.objs.size:=Qb g1
 have a2:l2<s1.heap.objs.size:=Qb g2
 have KM:∀c,eL s1.heap.objs.size c->s1.heap.get? c=none/\∃o,h'.get? c=some o:=λ c z=>by
  rcases z with z|z|z|z|z<;>subst z
  ·refine ai LG λ o e zz=> ?_;clear LG;exact⟨aT (PE _),o,e⟩
  ·refine ai LF λ o e zz=> ?_;clear LF;exact⟨aT (TB _ _),o,e⟩
  ·exact⟨aT (TB _ _),_,JG⟩
  ·exact⟨aT (TB _ _),_,MY⟩
  ·exact⟨aT (TB _ _),_,hz⟩
 have Jh:∀c,ow (λ b=>W b∨eL s1.heap.objs.size b) φ1 M1 c->ow W φ1 M1 c∨s1.heap.get? c=none:=λ c q=>q.elim (λ q=>q.elim (λ q=>.inl (.inl q)) λ q=>.inr (KM c q).1) λ q=>.inl (.inr q)
 refine⟨_,eL s1.heap.objs.size,_,_,φ1,M1,rfl,q1,Et.ext (N:=eL s1.heap.objs.size) (s':={s1 with heap:=h'}) hk KM,Ep.trans (.ext (s':={s1 with heap:=h'}) hk rfl rfl),ig.zip (t1:=true) (t2:=false) (l1:=l1) (l2:=l2) (us:=us) (ws:=ws),
  λ c z=>⟨Ep.dead (KM c z).1,(KM c z).2⟩,0,xs,ys,⟨hz,JG,⟨_,_,MY⟩,LG,LF,⟨m1,hk _ _ g1⟩,⟨m2,hk _ _ g2⟩,a1,a2⟩,(λ q=>(Jh _ q).elim n1 (dK g1)),(λ q=>(Jh _ q).elim n2 (dK g2)),
  NX.mono (PB _) (λ b o e zz=>.inl (hk b o e)) Jh,NW.mono (PB _) (λ b o e zz=>.inl (hk b o e)) Jh,rfl⟩
end
structure MT where
 tb:Tb
 aN:Nat->Str
 mN:Nat->Str
 exc:Str
 J4:Nat->Bool
noncomputable def pZ(x:Qa):Bool:=decide (x.ctorIdx≠7)
noncomputable def uP:Es->Bool|.nil=>true|.cons _ _=>false
noncomputable def lp(x:Qa):Bool:=decide (x.ctorIdx=23)
noncomputable def rj(x:Qa):Bool:=decide (x.ctorIdx=25)
noncomputable def Ee(t:jp)(e:Qa):aH:=(cY e).zip t.list
noncomputable def Kj:Cl->List Q7->aH
 |.cls t _ _ r,g::gs=>Ee t g.target++Kj r gs
 |_,_=>[]
noncomputable def ra(Γ Γc:aH)(N:Nm)(scope:Xu)(tg:List Nat)(ns:List Str):Bool:=
 scope.kind==.function&&decide (scope.names.map (·.1)).Nodup&&decide (Γc.map (·.2)).Nodup&&
 scope.names.all (λ p=>if p.2==.local||p.2==.cell then(match Γc.lookup p.1 with|some i=>tg.contains i|none=>true)
  else if p.2==.free then(N.lookup p.1==some .cell||N.lookup p.1==some .free)&&(match Γc.lookup p.1 with|some i=>Γ.lookup p.1==some i&& !tg.contains i|none=>true) else true)&&
 ns.all (λ x=>scope.names.lookup x==some .local||scope.names.lookup x==some .cell)
noncomputable def jy(x:Qa)(f:Str->List Qa->Bool):Bool:=kD x λ fn xs kw zz=>cx fn λ y zz=>bW kw&&f y xs
theorem eV{f:Str->List Qa->Bool}{mo:Qa->Prop}(h:jy x f=true)(k:∀y q xs p,f y xs=true->mo (.Call (.Name y q) xs [] p)):mo x:=
 kC h λ fn xs kw p h=>bR (mo:=λ fn=>mo (.Call fn xs kw p)) h λ y q h=>bl (mo:=λ kw=>mo (.Call (.Name y q) xs kw p)) (af h).1 (k y q xs p (af h).2)
noncomputable def kE(N:Nm)(b:PL)(x:Qa)(f:Qa->Bool):Bool:=jy x λ y xs=>eW xs λ xa=>dG N y b&&(aw xa&&f xa)
theorem fM{f:Qa->Bool}{mo:Qa->Prop}(h:kE N b x f=true)(k:∀y q xa p,dG N y b=true->aw xa=true->f xa=true->mo (.Call (.Name y q) [xa] [] p)):mo x:=
 eV h λ y q xs p h=>bO (mo:=λ xs=>mo (.Call (.Name y q) xs [] p)) h λ xa h=>k y q xa p (af h).1 (af (af h).2).1 (af (af h).2).2
noncomputable def uN(N:Nm)(b:PL)(x:Qa)(f:Qa->Qa->Bool):Bool:=jy x λ y xs=>pq xs λ xa xb=>dG N y b&&(aw xa&&(aw xb&&f xa xb))
theorem oJ{f:Qa->Qa->Bool}{mo:Qa->Prop}(h:uN N b x f=true)(k:∀y q xa xb p,dG N y b=true->aw xa=true->aw xb=true->f xa xb=true->mo (.Call (.Name y q) [xa,xb] [] p)):mo x:=
 eV h λ y q xs p h=>gZ (mo:=λ xs=>mo (.Call (.Name y q) xs [] p)) h λ xa xb h=>k y q xa xb p (af h).1 (af (af h).2).1 (af (af (af h).2).2).1 (af (af (af h).2).2).2
noncomputable def jg(x:Qa)(f:Qa->Str->List Qa->Bool):Bool:=kD x λ fn xs kw p=>dp fn λ xo nm ap=>bW kw&&(ap.endLine==p.line&&(eE xo&&f xo nm xs))
theorem gc{f:Qa->Str->List Qa->Bool}{mo:Qa->Prop}(h:jg x f=true)(k:∀xo nm ap xs p,(ap.endLine==p.line)=true->eE xo=true->f xo nm xs=true->mo (.Call (.Attribute xo nm ap) xs [] p)):mo x:=
 kC h λ fn xs kw p h=>cR (mo:=λ fn=>mo (.Call fn xs kw p)) h λ xo nm ap h=>bl (mo:=λ kw=>mo (.Call (.Attribute xo nm ap) xs kw p)) (af h).1 (k xo nm ap xs p (af (af h).2).1 (af (af (af h).2).2).1 (af (af (af h).2).2).2)
noncomputable def yb(c:CmpOp)(x:Qa)(f:Qa->Bool):Bool:=iy x λ xa os xs zz=>eW os λ o=>eW xs λ xb=>decide (o=c)&&cW xb λ k zz zz=>decide (k=.none)&&f xa
theorem tD{c:CmpOp}{f:Qa->Bool}{mo:Qa->Prop}(h:yb c x f=true)(k:∀xa i p q,f xa=true->mo (.Compare xa [c] [.Constant .none i p] q)):mo x:=
 gY h λ xa os xs q h=>bO (mo:=λ os=>mo (.Compare xa os xs q)) h λ o h=>bO (mo:=λ xs=>mo (.Compare xa [o] xs q)) h λ xb h=>by
  cases aJ (af h).1
  exact ct (mo:=λ xb=>mo (.Compare xa [c] [xb] q)) (af h).2 λ d i p h=>by cases aJ (af h).1;exact k xa i p q (af h).2
noncomputable def GC(T:MT)(N:Nm)(z:Str):Ty->Bool
 |.cls c=>cC N z&&(T.tb.Hc.lookup z==some c&&T.J4 c)
 |t=> !wQ t&&dG N z (.type (mD t))
mutual
noncomputable def mE(T:MT)(Γ:aH)(N:Nm):E->Qa->Bool
 |.var i,x=>cx x λ y zz=>nF N Γ y i
 |.lit v,x=>cW x λ c zz zz=>wH v c
 |.glob k,x=>cx x λ y zz=>cC N y&&T.tb.vals.lookup y==some k
 |.Jb f,x=>cx x λ y zz=>cC N y&&T.tb.fns.lookup y==some f
 |.tup es,x=>oF x λ xs zz zz=>decide (xs.length<=1000)&&iz T Γ N es xs
 |.lst _ es,x=>ww x λ xs zz=>decide (xs.length<=1000)&&iz T Γ N es xs
 |.Gq _ ks es,x=>qS x λ keys vals zz=>(match ks with
    |[]=>bW keys&&(bW vals&&uP es)
    |k0::ks=>uV (k0::ks) keys&&(vals.length==keys.length&&(decide ((k0::ks).length<=15)&&iz T Γ N es vals)))
 |.GL,x=>qS x λ keys vals zz=>bW keys&&bW vals
 |.bin op a b,x=>tF x λ xa o xb zz=>decide (o=zg op)&&(mE T Γ N a xa&&mE T Γ N b xb)
 |.neg a,x=>ga x λ o xa zz=>decide (o=.USub)&&mE T Γ N a xa
 |.not a,x=>ga x λ o xa zz=>decide (o=.Not)&&mE T Γ N a xa
 |.cmp op a b,x=>iy x λ xa os xs zz=>eW os λ o=>eW xs λ xb=>decide (o=fg op)&&(!Xb (fg op) xb&&(mE T Γ N a xa&&mE T Γ N b xb))
 |.FC a o1 b o2 c,x=>iy x λ xa os xs zz=>pq os λ p1 p2=>pq xs λ xb xc=>decide (p1=fg o1)&&(decide (p2=fg o2)&&(!lastMarks [fg o1,fg o2] [xb,xc]&&(mE T Γ N a xa&&(mE T Γ N b xb&&mE T Γ N c xc))))
 |.Gc a,x=>yb .Is x λ xa=>mE T Γ N a xa
 |.FM a,x=>yb .IsNot x λ xa=>mE T Γ N a xa
 |.F4 Ev es,x=>qT x λ o xs zz=>decide (o=qN Ev)&&(!uP es&&iz T Γ N es xs)
 |.EF t a b,x=>tE x λ xt xa xb zz=>mE T Γ N t xt&&(mE T Γ N a xa&&mE T Γ N b xb)
 |.call f es,x=>jy x λ y xs=>cC N y&&(T.tb.fns.lookup y==some f&&(xs.all aw&&iz T Γ N es xs))
 |.new c es,x=>jy x λ y xs=>cC N y&&(T.tb.Hc.lookup y==some c&&(xs.all aw&&iz T Γ N es xs))
 |.EL o m es,x=>jg x λ xo nm xs=>T.mN m==nm&&(xs.all aw&&(decide (xs.length<30)&&(mE T Γ N o xo&&iz T Γ N es xs)))
 |.Fw i es,x=>jy x λ y xs=>nF N Γ y i&&(xs.all aw&&iz T Γ N es xs)
 |.attr o a,x=>dp x λ xo at_ zz=>T.aN a==at_&&(eE xo&&mE T Γ N o xo)
 |.sub o k,x=>eC x λ xo xk zz=>jz xk&&(mE T Γ N o xo&&mE T Γ N k xk)
 |.slice o lo hi,x=>eC x λ xo xs zz=>oH xs λ xl xu st zz=>st.isNone&&(mE T Γ N o xo&&(By T Γ N lo xl&&By T Γ N hi xu))
 |.rev o,x=>eC x λ xo xs zz=>oH xs λ xl xu st zz=>xl.isNone&&(xu.isNone&&bD st λ xs=>BK xs&&mE T Γ N o xo)
 |.len a,x=>kE N (.builtin "len") x λ xa=>mE T Γ N a xa
 |.abs a,x=>kE N (.builtin "abs") x λ xa=>mE T Γ N a xa
 |.sum a,x=>kE N (.builtin "sum") x λ xa=>mE T Γ N a xa
 |.intOf a,x=>kE N (.type "int") x λ xa=>mE T Γ N a xa
 |.Fa a,x=>kE N (.type "tuple") x λ xa=>mE T Γ N a xa
 |.bytesOf a,x=>kE N (.type "bytes") x λ xa=>mE T Γ N a xa
 |.sorted a,x=>kE N (.builtin "sorted") x λ xa=>mE T Γ N a xa
 |.max2 a b,x=>uN N (.builtin "max") x λ xa xb=>mE T Γ N a xa&&mE T Γ N b xb
 |.min2 a b,x=>uN N (.builtin "min") x λ xa xb=>mE T Γ N a xa&&mE T Γ N b xb
 |.Fd a t,x=>jy x λ y xs=>pq xs λ xa xz=>cx xz λ z zz=>dG N y (.builtin "isinstance")&&(aw xa&&(mE T Γ N a xa&&GC T N z t))
 |.Gy a,x=>jg x λ xo nm xs=>eW xs λ xk=>nm==("pop" :Str)&&cW xk λ c zz zz=>decide (c=.int 0)&&mE T Γ N a xo
 |.GK o k,x=>jg x λ xo nm xs=>eW xs λ xk=>nm==("get" :Str)&&(aw xk&&(mE T Γ N o xo&&mE T Γ N k xk))
 |.FP o k d,x=>jg x λ xo nm xs=>pq xs λ xk xd=>nm==("get" :Str)&&(aw xk&&(aw xd&&(mE T Γ N o xo&&(mE T Γ N k xk&&mE T Γ N d xd))))
 |.comp _ cl,x=>uX T Γ N cl x
 |.freeze a,x=>mE T Γ N a x
 |.dead,_=>true
noncomputable def By(T:MT)(Γ:aH)(N:Nm):Eo->Option Qa->Bool
 |.no,x=>x.isNone
 |.yes e,x=>bD x λ x=>mE T Γ N e x
noncomputable def iz(T:MT)(Γ:aH)(N:Nm):Es->List Qa->Bool
 |.nil,xs=>bW xs
 |.cons e r,xs=>cy xs λ x xs=>aw x&&(mE T Γ N e x&&iz T Γ N r xs)
noncomputable def zl(T:MT)(Γ:aH)(N:Nm):It->Qa->Qa->Bool
 |.it e,x,tg=>lp tg&&mE T Γ N e x
 |.keys e,x,tg=>lp tg&&mE T Γ N e x
 |.Fy es,x,tg=>jy x λ y xs=>lp tg&&(dG N y (.type "range")&&(xs.all aw&&iz T Γ N es xs))
 |.zip a b,x,tg=>uN N (.type "zip") x λ xa xb=>rj tg&&(mE T Γ N a xa&&mE T Γ N b xb)
noncomputable def Bz(T:MT)(Γ:aH)(N:Nm)(ns:List Str)(elt:Qa):Cl->List Q7->Bool
 |.last e,gs=>bW gs&&mE T Γ N e elt
 |.cls t it ifs r,gs=>cy gs λ g rest=>g.is_async==0&&(pZ g.iter&&(cS Γ N t g.target&&((cY g.target).all (ns.contains ·)&&(decide (t.list++r.E6).Nodup&&(zl T Γ N it g.iter g.target&&(iz T Γ N ifs g.ifs&&Bz T Γ N ns elt r rest))))))
noncomputable def uX(T:MT)(Γ:aH)(N:Nm):Cl->Qa->Bool
 |.last _,_=>false
 |.cls t it ifs r,x=>nq x λ elt gs scope pos=>cy gs λ g rest=>
   (λ(G:aH) (N':Nm)=>g.is_async==0&&(pZ g.iter&&(ra Γ (G++Γ) N scope (Cl.E6 (.cls t it ifs r)) (G.map (·.1))&&
    (cS (G++Γ) N' t g.target&&((cY g.target).all ((G.map (·.1)).contains ·)&&
    (decide (t.list++r.E6).Nodup&&(decide ((r.depth+2)*ar<=Rn)&&(zl T Γ N it g.iter g.target&&(iz T (G++Γ) N' ifs g.ifs&&
    Bz T (G++Γ) N' (G.map (·.1)) elt r rest))))))))) (Kj (.cls t it ifs r) (g::rest)) (dM N scope.names)
end
end Mine
end
section
namespace Mine
open PySem PySem.W PySem.Calls PyProof.Rows PySem.SeqAt
structure MX(g:Gs)(T:MT)(K:RH)(n:Nat):Prop where
 fx:Fx g T.tb K
 hc:jN g n
 aN:∀a,g.pl.EH a=T.aN a
 mN:∀a,g.pl.FE a=T.mN a
 cl:∀c,T.J4 c=true->(g.pl.P.cls c).isSome=true
theorem aj.dead:aj g Γ N n .dead x:=by
 intro W A fr env ρ φ M s Q X hA hN er st hw
 exact hw.elim
theorem bA.dead:bA g Γ N n .dead x:=by
 intro W A fr env ρ φ M s Q X hA hN er st hw
 exact hw.elim
theorem bA.freeze(h:bA g Γ N n e x):bA g Γ N n (.freeze e) x:=by
 intro W A fr env ρ φ M s Q X hA hN er st hw
 refine h W A fr env ρ φ M s Q X hA hN er st (Eq.mp (congrArg (λ K=>aO g.pl.P (ag g.pl.P n) e ρ M K X) (funext λ x=>funext λ M1=> ?_)) hw)
 cases x with
 |ref i=>
  show aB (bE (bf M1 (.ref i)).1) _=False
  unfold bf
  dsimp only
  cases M1.m i with
  |none=>rfl
  |some o=>cases o<;>rfl
 |_=>rfl
theorem jB(h:pZ x=true):∀env v,QS x env v=pure v:=by
 intro env v
 cases x<;>first|rfl|cases h
theorem kJ(h:lp x=true):dT x:=R3 (motive_1:=dT) x (aJ h) λ zz zz=>trivial
theorem u0(h:rj x=true):lm x:=Re (motive_1:=lm) x (aJ h) λ zz zz zz=>trivial
set_option tactic.hygienic true in
theorem jE:∀{Γ:aH},(Γ.map (·.2)).Nodup->∀{x y:Str} {i:Nat},Γ.lookup x=some i->Γ.lookup y=some i->x=y
 |[],_,_,_,_,h,_=>by cases h
 |(z,j)::r,nd,x,y,i,h1,h2=>by
  rw[PR,QJ] at nd
  have aux:∀{w:Str},List.lookup w r=some j->False:=λ{w} h=>nd.1 (by
   clear nd h1 h2
   induction r with
   |nil=>cases h
   |cons p r ih=>
    rw[Qn] at h
    split at h
    ·cases h;exact R4 ..
    ·exact RI _ (ih h))
  rw[Qn] at h1 h2
  split at h1
  ·cases h1
   split at h2
   ·rename_i a _ b;rw[beq_iff_eq] at a b;refine aa a ?_;refine aa b ?_;rfl
   ·exact(aux h2).elim
  ·split at h2
   ·cases h2;exact(aux h1).elim
   ·exact jE nd.2 h1 h2
theorem du{β:Type}:∀{l:List (Str×β)} {x:Str} {k:β},l.lookup x=some k->(x,k)∈l:=by
 intro l
 induction l with
 |nil=>
  intro y1 y2 h
  cases h
 |cons y3 r ih=>
  obtain⟨z,j⟩:=y3
  intro x k h
  rw[Qn] at h
  split at h
  ·rename_i e
   cases h
   rw[beq_iff_eq] at e
   refine aa e ?_;exact R4 ..
  ·exact RI _ (ih h)
theorem pw(h:ra Γ Γc N scope tg ns=true):nX Γ Γc N scope tg ns:=by
 simp only [ra,P1,decide_eq_true_eq,beq_iff_eq,QF,SN] at h
 obtain⟨⟨⟨⟨h1,h2⟩,h3⟩,h4⟩,h5⟩:=h
 refine⟨h1,h2,λ x y i a b=>jE h3 a b,λ x hx i hi=> ?_,λ x hx=> ?_,h5⟩
 ·rcases hx with hx|hx<;>
  ·have q:=h4 _ (du hx)
   simpa[hi] using q
 ·have q:=h4 _ (du hx)
  have h0:¬(QC=NameKind.local∨QC=S9):=by decide
  simp only [h0,if_false,if_true,P1,SN,beq_iff_eq] at q
  refine⟨q.1,λ i hi=> ?_⟩
  have q2:=q.2
  rw[hi] at q2
  simp only [P1,beq_iff_eq,Ti,List.contains_eq_mem,decide_eq_false_iff_not] at q2
  exact q2
noncomputable def bM(g:Gs)(Γ:aH)(N:Nm)(n:Nat)(e:E)(x:Qa):Prop:=aj g Γ N n e x/\bA g Γ N n e x
structure lz(g:Gs)(Γ:aH)(N:Nm)(n:Nat)(es:Es)(xs:List Qa):Prop where
 ok:dC g Γ N n es xs
 ifs:ef g Γ N n es xs
 ds:∀ks keys,fv ks keys->xs.length=keys.length->jM g Γ N n ks es keys xs
 bo:uP es=false->∀Ev,jP g Γ N n Ev es xs/\jO g Γ N n Ev es xs
 len:es.len=xs.length
inductive qe(g:Gs)(Γ:aH)(N:Nm)(n:Nat)(it:It)(x tg:Qa):Prop
 |mk (Jr:Qa->Prop):fy g Γ N n it x Jr->Jr tg->qe g Γ N n it x tg
noncomputable def vF(g:Gs)(Γ:aH)(N:Nm)(n:Nat)(ns:List Str)(elt:Qa)(r:Cl)(gs:List Q7):Prop:=
 ∀scope pos gens k,gens.drop (k+1)=gs->eF g Γ N ns n (.ListComp elt gens scope pos) elt gens k r
structure zS(g:Gs)(Γ:aH)(N:Nm)(n:Nat)(cl:Cl)(x:Qa):Prop where
 ev:∀mu,aj g Γ N n (.comp mu cl) x
 pl:mY x=true
 asg:∀mu i y Fo G5,cS Γ N (.one i) (.Name y Fo)=true->fQ N x (.Name y Fo) x.pos.line=true->bd g Γ N n (.asg (.one i) (.comp mu cl)) (.Assign [.Name y Fo] x G5)
section
variable{g:Gs}{T:MT}{K:RH}{n:Nat}{Γ:aH}{N:Nm}
theorem bM.pl(h:aj g Γ N n e x)(hp:mY x=true):bM g Γ N n e x:=⟨h,.Hp h hp⟩
theorem lz.nil:lz g Γ N n .nil []:=by
 refine⟨dC.nil,ef.nil,λ ks keys hk hl=> ?_,(λ h=>QU h),rfl⟩
 cases hk with
 |nil=>exact jM.nil
 |cons _ _ _ _=>cases hl
theorem lz.cons{e:E}{r:Es}{x:Qa}{xs:List Qa}(h:bM g Γ N n e x)(hn:aw x=true)(ih:lz g Γ N n r xs):lz g Γ N n (.cons e r) (x::xs):=by
 refine⟨dC.cons h.1 hn ih.ok,ef.cons h.2 ih.ifs,λ ks keys hk hl=> ?_,λ zz Ev=> ?_,congrArg (· +1) ih.len⟩
 ·cases hk with
  |nil=>cases hl
  |cons i p l hk=>exact jM.cons h.1 (ih.ds _ _ hk (Tq hl))
 ·have a5:=ih.len
  cases r with
  |nil=>
   cases xs with
   |nil=>exact⟨jP.one h.1,jO.one h.2⟩
   |cons _ _=>cases a5
  |cons e' r'=>
   cases xs with
   |nil=>cases a5
   |cons x' xs=>exact⟨jP.cons h.1 (ih.bo rfl Ev).1,jO.cons h.2 (ih.bo rfl Ev).2⟩
theorem wZ{α:Type}{l:List α}{x:α}{r:List α}(h:l.drop k=x::r):l[k]? =some x/\l.drop (k+1)=r:=
 ⟨by refine aE List.head?_drop ?_;refine aa h ?_;rfl,by refine aE VQ ?_;refine aa h ?_;rfl⟩
theorem AN(mx:MX g T K n)(ha:aj g Γ N n a xa)(hs:aw xa=true)(hb:dG N y (.builtin "isinstance")=true)(h:GC T N z t=true):aj g Γ N n (.Fd a t) (.Call (.Name y p) [xa,.Name z p2] [] pos):=
 .Fd mx.fx ha hs hb (by
  cases t with
  |cls c=>exact .inl ⟨c,rfl,(af h).1,aq (af (af h).2).1,mx.cl _ (af (af h).2).2⟩
  |_=>exact .inr ⟨rfl,h⟩)
mutual
theorem aG(mx:MX g T K n):∀(e:E) (Γ:aH) (N:Nm) (x:Qa),mE T Γ N e x=true->bM g Γ N n e x
 |.var _,_,_,_,h=>bR h λ zz zz h=>.pl (.var h) rfl
 |.lit _,_,_,_,h=>ct h λ zz zz zz h=>.pl (.lit h) rfl
 |.glob _,_,_,_,h=>bR h λ zz zz h=>.pl (.glob mx.fx (af h).1 (aq (af h).2)) rfl
 |.Jb _,_,_,_,h=>bR h λ zz zz h=>.pl (.Jb mx.fx (af h).1 (aq (af h).2)) rfl
 |.tup es,Γ,N,_,h=>nh h λ xs zz zz h=>.pl (.tup (cz mx es Γ N xs (af h).2).ok (aJ (af h).1)) rfl
 |.lst _ es,Γ,N,_,h=>wv h λ xs zz h=>.pl (.lst (cz mx es Γ N xs (af h).2).ok (aJ (af h).1)) rfl
 |.Gq _ [] .nil,_,_,_,h=>ix h λ ks xs p h=>bl (mo:=λ ks=>bM _ _ _ _ _ (.Dict ks xs p)) (af h).1 (bl (mo:=λ xs=>bM _ _ _ _ _ (.Dict [] xs p)) (af (af h).2).1 (.pl (.Mt mx.fx) rfl))
 |.Gq _ [] (.cons _ _),_,_,_,h=>ix h λ ks xs p h=>nomatch (af (af h).2).2
 |.Gq _ (_::_) es,Γ,N,_,h=>ix h λ keys xs zz h=>
  .pl (.Gq mx.fx ((cz mx es Γ N xs (af (af (af h).2).2).2).ds _ _ (q7 (af h).1) (aq (af (af h).2).1)) (q7 (af h).1) (aq (af (af h).2).1) (aJ (af (af (af h).2).2).1)) rfl
 |.GL,_,_,_,h=>ix h λ ks xs p h=>bl (mo:=λ ks=>bM _ _ _ _ _ (.Dict ks xs p)) (af h).1 (bl (mo:=λ xs=>bM _ _ _ _ _ (.Dict [] xs p)) (af h).2 (.pl (.GL mx.fx) rfl))
 |.bin _ a b,Γ,N,_,h=>uM h λ xa o xb zz h=>by
  cases aJ (af h).1
  exact .pl (.bin (aG mx a Γ N xa (af (af h).2).1).1 (aG mx b Γ N xb (af (af h).2).2).1) rfl
 |.neg a,Γ,N,_,h=>gX h λ o xa zz h=>by cases aJ (af h).1;exact .pl (.neg (aG mx a Γ N xa (af h).2).1) rfl
 |.not a,Γ,N,_,h=>gX h λ o xa zz h=>by cases aJ (af h).1;exact⟨.not (aG mx a Γ N xa (af h).2).1,.not (aG mx a Γ N xa (af h).2).2⟩
 |.cmp _ a b,Γ,N,_,h=>gY h λ xa os xs p h=>bO (mo:=λ os=>bM _ _ _ _ _ (.Compare xa os xs p)) h λ o h=>bO (mo:=λ xs=>bM _ _ _ _ _ (.Compare xa [o] xs p)) h λ xb h=>by
  cases aJ (af h).1
  have h1:=da (af (af h).2).1
  have ha:=aG mx a Γ N xa (af (af (af h).2).2).1
  have hb:=aG mx b Γ N xb (af (af (af h).2).2).2
  exact⟨.cmp ha.1 hb.1 h1,.cmp ha.1 hb.1 h1⟩
 |.FC a _ b _ c,Γ,N,_,h=>gY h λ xa os xs p h=>gZ (mo:=λ os=>bM _ _ _ _ _ (.Compare xa os xs p)) h λ o1 o2 h=>gZ (mo:=λ xs=>bM _ _ _ _ _ (.Compare xa [o1,o2] xs p)) h λ xb xc h=>by
  cases aJ (af h).1
  replace h:=(af h).2
  cases aJ (af h).1
  replace h:=(af h).2
  have h1:=da (af h).1
  have ha:=aG mx a Γ N xa (af (af h).2).1
  have hb:=aG mx b Γ N xb (af (af (af h).2).2).1
  have hc:=aG mx c Γ N xc (af (af (af h).2).2).2
  exact⟨.FC ha.1 hb.1 hc.1 h1,.FC ha.1 hb.1 hc.1 h1⟩
 |.Gc a,Γ,N,_,h=>tD h λ xa zz zz zz h=>have q:=(aG mx a Γ N xa h).1;⟨.Gc q,.Gc q⟩
 |.FM a,Γ,N,_,h=>tD h λ xa zz zz zz h=>have q:=(aG mx a Γ N xa h).1;⟨.FM q,.FM q⟩
 |.F4 Ev es,Γ,N,_,h=>sP h λ o xs zz h=>by
  cases aJ (af h).1
  have q:=(cz mx es Γ N xs (af (af h).2).2).bo (da (af (af h).2).1) Ev
  exact⟨.F4 q.1,.F4 q.2⟩
 |.EF t a b,Γ,N,_,h=>uL h λ xt xa xb zz h=>
  have q:=aG mx t Γ N xt (af h).1
  have qa:=aG mx a Γ N xa (af (af h).2).1
  have qb:=aG mx b Γ N xb (af (af h).2).2
  ⟨.EF q.2 qa.1 qb.1,.EF q.2 qa.2 qb.2⟩
 |.call _ es,Γ,N,_,h=>eV h λ zz zz xs zz h=>.pl (.call mx.fx mx.hc (af h).1 (aq (af (af h).2).1) (cz mx es Γ N xs (af (af (af h).2).2).2).ok (af (af (af h).2).2).1) rfl
 |.new _ es,Γ,N,_,h=>eV h λ zz zz xs zz h=>.pl (.new mx.fx mx.hc (af h).1 (aq (af (af h).2).1) (cz mx es Γ N xs (af (af (af h).2).2).2).ok (af (af (af h).2).2).1) rfl
 |.EL o m es,Γ,N,_,h=>gc h λ xo nm zz xs zz hl hb h=>
  have h2:=(af (af h).2).2
  .pl (.EL mx.fx mx.hc (aG mx o Γ N xo (af (af h2).2).1).1 ((mx.mN m).trans (aq (af h).1)) hb (cz mx es Γ N xs (af (af h2).2).2).ok (af (af h).2).1 (aJ (af h2).1) hl) rfl
 |.Fw _ es,Γ,N,_,h=>eV h λ zz zz xs zz h=>.pl (.Fw mx.fx mx.hc (af h).1 (cz mx es Γ N xs (af (af h).2).2).ok (af (af h).2).1) rfl
 |.attr o a,Γ,N,_,h=>cR h λ xo zz zz h=>.pl (.attr mx.fx (aG mx o Γ N xo (af (af h).2).2).1 ((mx.aN a).trans (aq (af h).1)) (kS (af (af h).2).1 _)) rfl
 |.sub o k,Γ,N,_,h=>d8 h λ xo xk zz h=>.pl (.sub mx.fx (aG mx o Γ N xo (af (af h).2).1).1 (aG mx k Γ N xk (af (af h).2).2).1 (af h).1) rfl
 |.slice o lo hi,Γ,N,_,h=>d8 h λ xo xs p h=>nj (mo:=λ xs=>bM _ _ _ _ _ (.Subscript xo xs p)) h λ xl xu st q h=>eY (mo:=λ st=>bM _ _ _ _ _ (.Subscript xo (.Slice xl xu st q) p)) (af h).1
  (.pl (.slice (aG mx o Γ N xo (af (af h).2).1).1 (wG mx lo Γ N xl (af (af (af h).2).2).1) (wG mx hi Γ N xu (af (af (af h).2).2).2)) rfl)
 |.rev o,Γ,N,_,h=>d8 h λ xo xs p h=>nj (mo:=λ xs=>bM _ _ _ _ _ (.Subscript xo xs p)) h λ xl xu st q h=>eY (mo:=λ xl=>bM _ _ _ _ _ (.Subscript xo (.Slice xl xu st q) p)) (af h).1
  (eY (mo:=λ xu=>bM _ _ _ _ _ (.Subscript xo (.Slice none xu st q) p)) (af (af h).2).1 (cw (mo:=λ st=>bM _ _ _ _ _ (.Subscript xo (.Slice none none st q) p)) (af (af h).2).2 λ xs h=>
   .pl (.rev (aG mx o Γ N xo (af h).2).1 (af h).1) rfl))
 |.len a,Γ,N,_,h=>fM h λ zz zz xa zz h1 h2 h=>.pl (.len mx.fx (aG mx a Γ N xa h).1 h2 h1) rfl
 |.abs a,Γ,N,_,h=>fM h λ zz zz xa zz h1 h2 h=>.pl (.abs mx.fx (aG mx a Γ N xa h).1 h2 h1) rfl
 |.sum a,Γ,N,_,h=>fM h λ zz zz xa zz h1 h2 h=>.pl (.sum mx.fx (aG mx a Γ N xa h).1 h2 h1) rfl
 |.intOf a,Γ,N,_,h=>fM h λ zz zz xa zz h1 h2 h=>.pl (.intOf mx.fx (aG mx a Γ N xa h).1 h2 h1) rfl
 |.Fa a,Γ,N,_,h=>fM h λ zz zz xa zz h1 h2 h=>.pl (.Fa mx.fx (aG mx a Γ N xa h).1 h2 h1) rfl
 |.bytesOf a,Γ,N,_,h=>fM h λ zz zz xa zz h1 h2 h=>.pl (.bytesOf mx.fx (aG mx a Γ N xa h).1 h2 h1) rfl
 |.sorted a,Γ,N,_,h=>fM h λ zz zz xa zz h1 h2 h=>.pl (.sorted mx.fx (aG mx a Γ N xa h).1 h2 h1) rfl
 |.max2 a b,Γ,N,_,h=>oJ h λ zz zz xa xb zz h1 h2 h3 h=>.pl (.max2 mx.fx (aG mx a Γ N xa (af h).1).1 (aG mx b Γ N xb (af h).2).1 h2 h3 h1) rfl
 |.min2 a b,Γ,N,_,h=>oJ h λ zz zz xa xb zz h1 h2 h3 h=>.pl (.min2 mx.fx (aG mx a Γ N xa (af h).1).1 (aG mx b Γ N xb (af h).2).1 h2 h3 h1) rfl
 |.Fd a t,Γ,N,_,h=>eV h λ y q xs p h=>gZ (mo:=λ xs=>bM _ _ _ _ _ (.Call (.Name y q) xs [] p)) h λ xa xz h=>bR (mo:=λ xz=>bM _ _ _ _ _ (.Call (.Name y q) [xa,xz] [] p)) h λ z zz h=>
  .pl (AN mx (aG mx a Γ N xa (af (af (af h).2).2).1).1 (af (af h).2).1 (af h).1 (af (af (af h).2).2).2) rfl
 |.Gy a,Γ,N,_,h=>gc h λ xo nm ap xs p hl hb h=>bO (mo:=λ xs=>bM _ _ _ _ _ (.Call (.Attribute xo nm ap) xs [] p)) h λ xk h=>by
  cases aq (af h).1
  exact ct (mo:=λ xk=>bM _ _ _ _ _ (.Call (.Attribute xo _ ap) [xk] [] p)) (af h).2 λ c i q h=>by
   cases aJ (af h).1
   exact .pl (.Gy mx.fx (aG mx a Γ N xo (af h).2).1 hb hl) rfl
 |.GK o k,Γ,N,_,h=>gc h λ xo nm ap xs p hl hb h=>bO (mo:=λ xs=>bM _ _ _ _ _ (.Call (.Attribute xo nm ap) xs [] p)) h λ xk h=>by
  cases aq (af h).1
  exact .pl (.GK mx.fx (aG mx o Γ N xo (af (af (af h).2).2).1).1 (aG mx k Γ N xk (af (af (af h).2).2).2).1 hb (af (af h).2).1 hl) rfl
 |.FP o k d,Γ,N,_,h=>gc h λ xo nm ap xs p hl hb h=>gZ (mo:=λ xs=>bM _ _ _ _ _ (.Call (.Attribute xo nm ap) xs [] p)) h λ xk xd h=>by
  cases aq (af h).1
  have h1:=(af (af h).2).2
  have h2:=(af (af h1).2).2
  exact .pl (.FP mx.fx (aG mx o Γ N xo (af (af h1).2).1).1 (aG mx k Γ N xk (af h2).1).1 (aG mx d Γ N xd (af h2).2).1 hb (af (af h).2).1 (af h1).1 hl) rfl
 |.comp mu cl,Γ,N,x,h=>have q:=q9 mx cl Γ N x h;.pl (q.ev mu) q.pl
 |.freeze a,Γ,N,x,h=>⟨.freeze (aG mx a Γ N x h).1,.freeze (aG mx a Γ N x h).2⟩
 |.dead,_,_,_,_=>⟨.dead,.dead⟩
theorem wG(mx:MX g T K n):∀(e:Eo) (Γ:aH) (N:Nm) (x:Option Qa),By T Γ N e x=true->vC g Γ N n e x
 |.no,_,_,_,h=>eY h trivial
 |.yes e,Γ,N,_,h=>cw h λ x h=>(aG mx e Γ N x h).1
theorem cz(mx:MX g T K n):∀(es:Es) (Γ:aH) (N:Nm) (xs:List Qa),iz T Γ N es xs=true->lz g Γ N n es xs
 |.nil,_,_,_,h=>bl h .nil
 |.cons e r,Γ,N,_,h=>bK h λ x xs h=>.cons (aG mx e Γ N x (af (af h).2).1) (af h).1 (cz mx r Γ N xs (af (af h).2).2)
theorem q8(mx:MX g T K n):∀(it:It) (Γ:aH) (N:Nm) (x tg:Qa),zl T Γ N it x tg=true->qe g Γ N n it x tg
 |.it e,Γ,N,x,_,h=>⟨_,.it (aG mx e Γ N x (af h).2).1,kJ (af h).1⟩
 |.keys e,Γ,N,x,_,h=>⟨_,.keys (aG mx e Γ N x (af h).2).1,kJ (af h).1⟩
 |.Fy es,Γ,N,_,tg,h=>eV (mo:=λ x=>qe _ _ _ _ _ x tg) h λ zz zz xs zz h=>⟨_,.Fy mx.fx (cz mx es Γ N xs (af (af (af h).2).2).2).ok (af (af (af h).2).2).1 (af (af h).2).1,kJ (af h).1⟩
 |.zip a b,Γ,N,_,tg,h=>oJ (mo:=λ x=>qe _ _ _ _ _ x tg) h λ zz zz xa xb zz h1 h2 h3 h=>⟨_,.zip mx.fx (aG mx a Γ N xa (af (af h).2).1).1 (aG mx b Γ N xb (af (af h).2).2).1 h2 h3 h1,u0 (af h).1⟩
theorem wI(mx:MX g T K n):∀(r:Cl) (Γ:aH) (N:Nm) (ns:List Str) (elt:Qa) (gs:List Q7),Bz T Γ N ns elt r gs=true->vF g Γ N n ns elt r gs
 |.last e,Γ,N,ns,elt,_,h=>bl (mo:=vF g Γ N n ns elt (.last e)) (af h).1 λ scope pos gens k hk=>
  .last (List.getElem?_eq_none_iff.mpr (WP.mp hk)) (aG mx e Γ N elt (af h).2).1
 |.cls t it ifs r,Γ,N,ns,elt,_,h=>bK (mo:=vF g Γ N n ns elt (.cls t it ifs r)) h λ⟨target,iter,xifs,asy⟩ rest h scope pos gens k hk=>by
  obtain⟨h0,h⟩:=af h
  obtain rfl:asy=0:=aq h0
  obtain⟨h1,h⟩:=af h
  obtain⟨h2,h⟩:=af h
  obtain⟨h3,h⟩:=af h
  obtain⟨h4,h⟩:=af h
  obtain⟨h5,h⟩:=af h
  obtain⟨h6,h7⟩:=af h
  obtain⟨q1,q2⟩:=wZ hk
  obtain⟨Jr,hi,Gd⟩:=q8 mx it Γ N iter target h5
  exact .cls q1 (jB h1) hi Gd h2 (λ x hx=>Su.mp (QF.mp h3 x hx)) (cz mx ifs Γ N xifs h6).ifs (aJ h4) (wI mx r Γ N ns elt rest h7 scope pos gens (k+1) q2)
theorem q9(mx:MX g T K n):∀(r:Cl) (Γ:aH) (N:Nm) (x:Qa),uX T Γ N r x=true->zS g Γ N n r x
 |.last _,_,_,_,h=>nomatch h
 |.cls t it ifs r,Γ,N,_,h=>pS h λ elt gs scope pos h=>bK (mo:=λ gs=>zS g Γ N n (.cls t it ifs r) (.ListComp elt gs scope pos)) h λ⟨target,iter,xifs,asy⟩ rest h=>by
  obtain⟨h0,h⟩:=af h
  obtain rfl:asy=0:=aq h0
  obtain⟨h1,h⟩:=af h
  obtain⟨h2,h⟩:=af h
  obtain⟨h3,h⟩:=af h
  obtain⟨h4,h⟩:=af h
  obtain⟨h5,h⟩:=af h
  obtain⟨h6,h⟩:=af h
  obtain⟨h7,h⟩:=af h
  obtain⟨h8,h9⟩:=af h
  obtain⟨Jr,hi,Gd⟩:=q8 mx it Γ N iter target h7
  have FS:=λ x hx=>Su.mp (QF.mp h4 x hx)
  have hc:=wI mx r _ _ _ _ _ h9 scope pos (⟨target,iter,xifs,0⟩::rest) 0 rfl
  exact⟨λ mu=>.comp (pw h2) (jB h1) hi Gd h3 FS (cz mx ifs _ _ _ h8).ifs hc (aJ h5) (aJ h6),rfl,λ mu i y Fo G5 hx JJ=>
   .Mx (pw h2) (jB h1) hi Gd h3 FS (cz mx ifs _ _ _ h8).ifs hc (aJ h5) (aJ h6) hx JJ⟩
end
end
end Mine
end
section
namespace Mine
open PySem PySem.W PySem.Calls PyProof.Rows PySem.SeqAt
noncomputable def u1:S->Bool|.IA _=>true|_=>false
noncomputable def rl:S->Bool|.dead=>true|_=>false
noncomputable def BA(N:Nm)(t:jp)(value target:Qa):Bool:=
 !fQ N value target value.pos.line&&bD (kY N value target) λ q=>(match q with|none=>true|some names=>decide (names=cY target)&&decide t.list.Nodup)
noncomputable def Em(T:MT)(N:Nm)(y:Str):Bool:=cC N y&&y==T.exc
noncomputable def CX(t:jp):Bool:=match t with|.one _=>true|.many _=>false
noncomputable def Eh(x:ExceptHandler)(f:Option Qa->Option Str->List Sd->Bool):Bool:=match x with|.ExceptHandler t n b _=>f t n b
noncomputable def wz(x:E)(f:Bool->Cl->Bool):Bool:=if h:x.ctorIdx=38 then E.comp.elim (motive_1:=λ zz=>Bool) x h f else false
theorem wx{f:Bool->Cl->Bool}{mo:E->Prop}(h:wz x f=true)(k:∀mu cl,f mu cl=true->mo (.comp mu cl)):mo x:=
 aU h λ h0=>E.comp.elim (motive_1:=λ x=>∀h0:x.ctorIdx=38,E.comp.elim (motive_1:=λ zz=>Bool) x h0 f=true->mo x) x h0 (λ mu cl zz=>k mu cl) h0
mutual
noncomputable def mS(T:MT)(Γ:aH)(N:Nm):S->Sd->Bool
 |.asg t e,x=>dP x λ ts value zz=>eW ts λ target=>cS Γ N t target&&((BA N t value target&&mE T Γ N e value)||
   (cx target λ y p=>CX t&&(fQ N value (.Name y p) value.pos.line&&wz e λ zz cl=>uX T Γ N cl value)))
 |.EK o a e,x=>dP x λ ts xe zz=>eW ts λ t=>dp t λ xo at_ zz=>T.aN a==at_&&(mE T Γ N e xe&&mE T Γ N o xo)
 |.E1 o k e,x=>dP x λ ts xe zz=>eW ts λ t=>eC t λ xo xk zz=>mE T Γ N e xe&&(mE T Γ N o xo&&mE T Γ N k xk)
 |.app o e,x=>oI x λ x zz=>jg x λ xo nm xs=>eW xs λ xe=>nm==("append" :Str)&&(aw xe&&(mE T Γ N o xo&&mE T Γ N e xe))
 |.ret e,x=>pi x λ v zz=>bD v λ y=>mE T Γ N e y
 |.EF t a b,x=>zh x λ xt xa xb zz=>mE T Γ N t xt&&(kH T Γ N a xa&&kH T Γ N b xb)
 |.E3 t it body,x=>wu x λ target xi xb el zz=>bW el&&(pZ xi&&(cS Γ N t target&&(zl T Γ N it xi target&&kH T Γ N body xb)))
 |.EX t body,x=>qP x λ xt xb el zz=>bW el&&(mE T Γ N t xt&&kH T Γ N body xb)
 |.EJ es,x=>qR x λ e c zz=>c.isNone&&bD e λ e=>jy e λ y xs=>cC N y&&(y==T.exc&&(xs.all aw&&((xs.length==1||xs.length==2)&&iz T Γ N es xs)))
 |.Gw i e,x=>wr x λ b hs el fb zz=>bW el&&(bW fb&&eW b λ b=>eW hs λ h=>dP b λ ts value zz=>eW ts λ t=>cx t λ y tp=>
   Eh h λ ty nm hb=>nm.isNone&&bD ty λ ty=>cx ty λ z zz=>eW hb λ s2=>dP s2 λ Kr v2 zz=>eW Kr λ t2=>cx t2 λ y2 zz=>cW v2 λ c zz zz=>
    decide (c=.none)&&(y==y2&&(cC N z&&(z==T.exc&&((iE value).isNone&&(cS Γ N (.one i) (.Name y tp)&&mE T Γ N e value))))))
 |.IA _,_=>false
 |.dead,_=>true
noncomputable def kH(T:MT)(Γ:aH)(N:Nm):Ss->List Sd->Bool
 |.nil,xs=>bW xs
 |.cons s r,xs=>if rl s then true else if u1 s then kH T Γ N r xs else cy xs λ x xs=>mS T Γ N s x&&kH T Γ N r xs
end
structure Dv(g:Gs)(T:MT)(K:RH)(n:Nat)(C f:P5)(fd:SB):Prop where
 E4:MX g T K n
 ek:oW g K C f fd
 Gn:g.cls=.ref C
 exc:Xs K P3 T.exc=some (some (.ref C))
section
variable{g:Gs}{T:MT}{K:RH}{n:Nat}{Γ:aH}{N:Nm}{C f:P5}{fd:SB}
theorem bd.dead:bd g Γ N n .dead x:=λ W A fr env ρ φ M s Nx R X L hA hN hL er st hw=>TI hw
theorem dZ.dead:dZ g Γ N n (.cons .dead r) xs:=λ W A fr env ρ φ M s Nx R X L hA hN hL er st hw=>TI hw
theorem pX(h:(a||b)=true):a=true∨b=true:=by
 cases a with
 |true=>exact .inl rfl
 |false=>exact .inr h
theorem AG(he:aj g Γ N n e value)(hm:cS Γ N t target=true)(h:BA N t value target=true):bd g Γ N n (.asg t e) (.Assign [target] value pos):=by
 have h1:=da (af h).1
 have h2:=(af h).2
 generalize q:kY N value target=o at h2
 cases o with
 |none=>cases h2
 |some o=>
  cases o with
  |none=>exact .asg he hm h1 q λ names e=>nomatch e
  |some names=>exact .asg he hm h1 q λ names e=>by cases e;exact⟨aJ (af h2).1,aJ (af h2).2⟩
mutual
theorem C0(mx:Dv g T K n C f fd):∀(s:S) (Γ:aH) (N:Nm) (x:Sd),mS T Γ N s x=true->bd g Γ N n s x
 |.asg t e,Γ,N,_,h=>cQ h λ ts value pos h=>bO (mo:=λ ts=>bd _ _ _ _ _ (.Assign ts value pos)) h λ target h=>by
  have hm:=(af h).1
  rcases pX (af h).2 with h|h
  ·exact AG (aG mx.E4 e Γ N value (af h).2).1 hm (af h).1
  ·revert hm
   refine bR (mo:=λ target=>cS Γ N t target=true->bd _ _ _ _ _ (.Assign [target] value pos)) h λ y Fo h hm=> ?_
   cases t with
   |many _=>cases h
   |one i=>
    have h:=(af h).2
    exact wx (mo:=λ e=>bd g Γ N n (.asg (.one i) e) _) (af h).2 λ mu cl h2=>(q9 mx.E4 cl Γ N value h2).asg mu i y Fo pos hm (af h).1
 |.EK o a e,Γ,N,_,h=>cQ h λ ts xe pos h=>bO (mo:=λ ts=>bd _ _ _ _ _ (.Assign ts xe pos)) h λ t h=>cR (mo:=λ t=>bd _ _ _ _ _ (.Assign [t] xe pos)) h λ xo at_ zz h=>
  .EK mx.E4.fx (aG mx.E4 e Γ N xe (af (af h).2).1).1 (aG mx.E4 o Γ N xo (af (af h).2).2).1 ((mx.E4.aN a).trans (aq (af h).1))
 |.E1 o k e,Γ,N,_,h=>cQ h λ ts xe pos h=>bO (mo:=λ ts=>bd _ _ _ _ _ (.Assign ts xe pos)) h λ t h=>d8 (mo:=λ t=>bd _ _ _ _ _ (.Assign [t] xe pos)) h λ xo xk zz h=>
  .E1 (aG mx.E4 e Γ N xe (af h).1).1 (aG mx.E4 o Γ N xo (af (af h).2).1).1 (aG mx.E4 k Γ N xk (af (af h).2).2).1
 |.app o e,Γ,N,_,h=>nk h λ x pos h=>gc (mo:=λ x=>bd _ _ _ _ _ (.Expr x pos)) h λ xo nm ap xs p hl hb h=>bO (mo:=λ xs=>bd _ _ _ _ _ (.Expr (.Call (.Attribute xo nm ap) xs [] p) pos)) h λ xe h=>by
  cases aq (af h).1
  exact .app (aG mx.E4 o Γ N xo (af (af (af h).2).2).1).1 (aG mx.E4 e Γ N xe (af (af (af h).2).2).2).1 hb (af (af h).2).1 hl
 |.ret e,Γ,N,_,h=>qQ h λ v p h=>cw (mo:=λ v=>bd _ _ _ _ _ (.Return v p)) h λ y h=>.ret (aG mx.E4 e Γ N y h).1
 |.EF t a b,Γ,N,_,h=>x4 h λ xt xa xb zz h=>.EF (aG mx.E4 t Γ N xt (af h).1).2 (hU mx a Γ N xa (af (af h).2).1) (hU mx b Γ N xb (af (af h).2).2)
 |.E3 t it body,Γ,N,_,h=>wt h λ target xi xb el p h=>bl (mo:=λ el=>bd _ _ _ _ _ (.For target xi xb el p)) (af h).1 (by
  obtain⟨Jr,hi,Gd⟩:=q8 mx.E4 it Γ N _ _ (af (af (af (af h).2).2).2).1
  exact .E3 hi Gd (af (af (af h).2).2).1 (hU mx body Γ N xb (af (af (af (af h).2).2).2).2) (jB (af (af h).2).1))
 |.EX t body,Γ,N,_,h=>sN h λ xt xb el p h=>bl (mo:=λ el=>bd _ _ _ _ _ (.While xt xb el p)) (af h).1 (.EX (aG mx.E4 t Γ N xt (af (af h).2).1).2 (hU mx body Γ N xb (af (af h).2).2))
 |.EJ es,Γ,N,_,h=>sO h λ e c p h=>eY (mo:=λ c=>bd _ _ _ _ _ (.Raise e c p)) (af h).1 (cw (mo:=λ e=>bd _ _ _ _ _ (.Raise e none p)) (af h).2 λ e h=>
  eV (mo:=λ e=>bd _ _ _ _ _ (.Raise (some e) none p)) h λ y q xs p2 h=>by
   have h2:=(af (af h).2).2
   have h3:=(af h2).2
   exact .EJ mx.E4.fx mx.ek mx.Gn (af h).1 (aq (af (af h).2).1▸mx.exc) (cz mx.E4 es Γ N xs (af h3).2).ok (af h2).1 ((pX (af h3).1).imp aq aq))
 |.Gw i e,Γ,N,_,h=>wq h λ b hs el fb p h=>bl (mo:=λ el=>bd _ _ _ _ _ (.Try b hs el fb p)) (af h).1 (bl (mo:=λ fb=>bd _ _ _ _ _ (.Try b hs [] fb p)) (af (af h).2).1
  (bO (mo:=λ b=>bd _ _ _ _ _ (.Try b hs [] [] p)) (af (af h).2).2 λ b h=>bO (mo:=λ hs=>bd _ _ _ _ _ (.Try [b] hs [] [] p)) h λ hd h=>cQ (mo:=λ b=>bd _ _ _ _ _ (.Try [b] [hd] [] [] p)) h λ ts value ap h=>
   bO (mo:=λ ts=>bd _ _ _ _ _ (.Try [.Assign ts value ap] [hd] [] [] p)) h λ t h=>bR (mo:=λ t=>bd _ _ _ _ _ (.Try [.Assign [t] value ap] [hd] [] [] p)) h λ y tp h=>by
    cases hd with
    |ExceptHandler ty nm hb hp=>
    exact eY (mo:=λ nm=>bd _ _ _ _ _ (.Try [.Assign [.Name y tp] value ap] [.ExceptHandler ty nm hb hp] [] [] p)) (af h).1 (cw (mo:=λ ty=>bd _ _ _ _ _ (.Try [.Assign [.Name y tp] value ap] [.ExceptHandler ty none hb hp] [] [] p)) (af h).2 λ ty h=>
     bR (mo:=λ ty=>bd _ _ _ _ _ (.Try [.Assign [.Name y tp] value ap] [.ExceptHandler (some ty) none hb hp] [] [] p)) h λ z zp h=>bO (mo:=λ hb=>bd _ _ _ _ _ (.Try [.Assign [.Name y tp] value ap] [.ExceptHandler (some (.Name z zp)) none hb hp] [] [] p)) h λ s2 h=>
     cQ (mo:=λ s2=>bd _ _ _ _ _ (.Try [.Assign [.Name y tp] value ap] [.ExceptHandler (some (.Name z zp)) none [s2] hp] [] [] p)) h λ Kr v2 Kn h=>bO (mo:=λ Kr=>bd _ _ _ _ _ (.Try [.Assign [.Name y tp] value ap] [.ExceptHandler (some (.Name z zp)) none [.Assign Kr v2 Kn] hp] [] [] p)) h λ t2 h=>
     bR (mo:=λ t2=>bd _ _ _ _ _ (.Try [.Assign [.Name y tp] value ap] [.ExceptHandler (some (.Name z zp)) none [.Assign [t2] v2 Kn] hp] [] [] p)) h λ y2 KY h=>ct (mo:=λ v2=>bd _ _ _ _ _ (.Try [.Assign [.Name y tp] value ap] [.ExceptHandler (some (.Name z zp)) none [.Assign [.Name y2 KY] v2 Kn] hp] [] [] p)) h λ c k kp h=>by
      cases aJ (af h).1
      cases aq (af (af h).2).1
      have h2:=(af (af h).2).2
      have h3:=(af (af h2).2).2
      exact .Gw mx.E4.fx mx.ek mx.Gn (aG mx.E4 e Γ N value (af (af h3).2).2).1 (QQ.mp (af h3).1) (af (af h3).2).1 (af h2).1 (aq (af (af h2).2).1▸mx.exc))))
 |.IA _,_,_,_,h=>nomatch h
 |.dead,_,_,_,_=>.dead
theorem hU(mx:Dv g T K n C f fd):∀(ss:Ss) (Γ:aH) (N:Nm) (xs:List Sd),kH T Γ N ss xs=true->dZ g Γ N n ss xs
 |.nil,_,_,_,h=>bl h .nil
 |.cons s r,Γ,N,xs,h=>by
  by_cases hd:rl s=true
  ·cases s<;>first|exact .dead|cases hd
  ·by_cases hf:u1 s=true
   ·have ih:=hU mx r Γ N xs
    cases s<;>first|exact .IA (ih h)|cases hf
   ·have h:(if rl s=true then true else if u1 s=true then kH T Γ N r xs else cy xs λ x xs=>mS T Γ N s x&&kH T Γ N r xs)=true:=h
    rw[if_neg hd,if_neg hf] at h
    exact bK h λ x xs h=>.cons (C0 mx s Γ N x (af h).1) (hU mx r Γ N xs (af h).2)
end
end
end Mine
end
section
namespace Mine
open PySem
noncomputable def nm(l:List (String×Nat)):List (Str×Nat):=l.map λ p=>(PF p.1,p.2)
noncomputable def mX:List aH:=[nm [("self",0),("top",1),("places",2)],nm [("self",0)],nm [("number",0)],nm [("top",0),("below",1),("size",2)],nm [("value",0)],nm [("one",0),("other",1),("first",2),("second",3),("places",4)],nm [("one",0),("other",1),("places",2),("top",3),("below",4),("scale",5)],nm [("one",0),("other",1),("first",2),("second",3)],nm [("self",0),("text",1)],nm [("self",0),("head",1),("octets",2)],nm [("self",0),("number",1),("generation",2)],nm [("value",0)],nm [("value",0)],nm [("kind",0),("value",1)],nm [("value",0),("kind",1)],nm [("self",0),("table",1),("trailer",2)],nm [("self",0),("value",1),("here",2),("hop",3),("generation",4),("found",5)],nm [("self",0),("head",1),("key",2)],nm [("self",0),("value",1),("number",2)],nm [("self",0)],nm [("self",0),("rows",1)],nm [("self",0),("name",1),("count",2),("base",3),("table",4),("most",5),("tint",6),("inks",7)],nm [],nm [("name",0)],nm [("self",0),("shelf",1),("resources",2),("opener",3)],nm [("self",0),("value",1)],nm [("self",0),("name",1),("found",2)],nm [("shelf",0),("resources",1),("value",2),("opener",3)],nm [("source",0),("value",1),("deep",2),("found",3),("word",4)],nm [("source",0),("name",1),("deep",2),("value",3)],nm [("source",0),("name",1),("deep",2),("value",3),("found",4)],nm [("value",0),("count",1)],nm [("self",0),("data",1)],nm [("self",0)],nm [("self",0),("count",1),("value",2)],nm [("data",0),("bits",1),("count",2),("source",3)],nm [("self",0),("width",1),("height",2),("bits",3),("count",4)],nm [("self",0)],nm [("self",0)],nm [("levels",0),("count",1)],nm [("octets",0),("frame",1),("size",2),("rows",3),("number",4),("row",5)],nm [("rows",0),("width",1),("height",2),("found",3),("down",4),("row",5)],nm [("sample",0),("bits",1),("low",2),("high",3),("steps",4),("above",5),("below",6),("shared",7),("first",8),("last",9),("places",10)],nm [("sample",0),("bits",1),("low",2),("high",3),("places",4),("above",5),("below",6)],nm [("frame",0),("is_indexed",1)],nm [("pixel",0),("bits",1),("pairs",2),("places",3)],nm [("pixel",0),("ranges",1),("sample",2),("span",3)],nm [("rows",0),("low",1),("painted",2)],nm [("rows",0)],nm [("shelf",0),("head",1),("key",2),("value",3)],nm [("shelf",0),("head",1),("value",2)],nm [("shelf",0),("head",1),("bits",2)],nm [("shelf",0),("head",1),("count",2)],nm [("shelf",0),("head",1),("frame",2),("is_indexed",3),("given",4),("numbers",5)],nm [("shelf",0),("resources",1),("head",2),("opener",3),("value",4),("found",5)],nm [("shelf",0),("resources",1),("head",2),("opener",3),("space",4)],nm [("shelf",0),("resources",1),("stream",2),("opener",3),("frame",4),("is_indexed",5)],nm [("shelf",0),("mask",1),("frame",2),("numbers",3),("number",4)],nm [("shelf",0),("stream",1),("opener",2),("frame",3),("low",4),("high",5)],nm [("shelf",0),("stream",1),("opener",2),("places",3),("frame",4),("pairs",5),("rows",6)],nm [("shelf",0),("resources",1),("stream",2),("opener",3),("places",4),("soft",5),("mask",6),("frame",7),("is_indexed",8),("ranges",9),("rows",10)],nm [("script",0),("cells",1)],nm [("well",0),("many",1),("digit",2)],nm [("well",0),("shelf",1),("value",2)],nm [("well",0),("shelf",1),("plain",2),("head",3),("key",4),("value",5)],nm [("well",0),("width",1),("height",2),("bits",3),("count",4),("ends",5),("rows",6),("down",7),("row",8),("across",9)],nm [("rows",0),("bits",1),("found",2),("row",3),("pixel",4),("more",5),("total",6),("octets",7),("turn",8),("size",9),("sample",10)],nm [("shelf",0),("stream",1)],nm [("well",0),("top",1),("kind",2)],nm [("above",0),("below",1),("places",2),("size",3)],nm [("well",0),("shelf",1),("places",2),("is_wrong",3),("rows",4),("plain",5),("steps",6),("due",7),("bits",8),("width",9),("height",10),("low",11),("high",12),("key",13),("value",14)],nm [("well",0),("shelf",1),("is_wrong",2),("rows",3),("plain",4),("way",5),("painting",6),("due",7),("width",8),("height",9),("key",10),("value",11)],nm [("well",0),("rows",1),("bits",2),("count",3),("is_wrong",4),("pixel",5),("ends",6),("spot",7),("due",8),("row",9),("parts",10),("low",11),("hits",12),("at",13)],nm [("cell",0),("many",1),("old",2)],nm [("rows",0),("width",1),("height",2),("picked",3)],nm [("shelf",0),("stream",1),("places",2),("heard",3)],nm [("script",0),("well",1),("rows",2),("plain",3),("due",4),("is_refused",5),("stream",6),("before",7),("bent",8),("soft_way",9),("mask_way",10),("shelf",11),("places",12),("name",13),("count",14),("bits",15),("width",16),("height",17),("mask",18),("lit",19),("soft",20),("shades",21)]]
noncomputable def CR:Tb:=⟨(nm [("sign_of",2),("rounded_quotient",3),("decimal_of",4),("at_one_scale",5),("over",6),("common_divisor",7),("kind_of",11),("is_number",12),("told_plain",13),("told",14),("device_spaces",22),("device_space",23),("space_of",27),("space_within",28),("space_by_name",29),("default_space",30),("low_bits",31),("samples",35),("cut_pixels",39),("sample_rows",40),("scaled_rows",41),("decoded_value",42),("decoded_number",43),("default_decode",44),("pixel_numbers",45),("is_keyed",46),("stencil_rows",47),("truth_numbers",48),("whole_in",49),("is_stencil",50),("depth_in",51),("frame_in",52),("decode_pairs",53),("image_space",54),("image_frame",55),("image_rows",56),("key_ranges",57),("painted_rows",58),("soft_rows",59),("opacity_rows",60),("_law_well",61),("_law_dip",62),("_law_behind",63),("_law_head",64),("_law_pixels",65),("_law_laid",66),("_law_open",67),("_law_end",68),("_law_near",69),("_law_soft",70),("_law_stencil",71),("_law_ranges",72),("_law_middle",73),("_law_scaled",74),("_law_heard",75),("law",76),("told_objects",14)]),(nm [("Decimal",0),("Name",1),("String",2),("Stream",3),("Reference",4),("Shelf",5),("Space",6),("Source",7),("HighBitsIn",8),("Lattice",9)]),(nm [("MOST_HOPS",0),("MOST_SPACES",1),("OCTET",2),("DEPTHS",3)])⟩
noncomputable def Dj:List Str:=["top","places","text","octets","is_hex","head","number","generation","table","trailer","name","count","base","most","tint","inks","shelf","resources","opener","data","at","held","width","height","bits"]
noncomputable def Bw:List Str:=["told","fetch","get","add","numbers","named","left","take","row_octets","top"]
noncomputable def gp:MT:=⟨CR,λ i=>Dj.getD i "",λ i=>Bw.getD i "","PaintFault",λ c=>decide (c<i6.length)⟩
noncomputable def Bn:List Nat:=[87,150,185,192,199,206,213,220,234,277,298,319,326,333,338,353,360,367,395,409,421,443,464,471,492,499,506,521,528,535,542,591,605,612,619,638,653,660,667,679,686,691,698,705,710,715,722,727,732,739,746,753,760,765,772,779,786,791,796,801,806,811,818,825,830,835,842,849,856,863,868,873,878,883,888,893,898]
noncomputable def Au:List Nat:=[167,237,259,280,308,424,453,509,629,670]
noncomputable def DJ:List String:=["Decimal.__init__","Decimal.told","sign_of","rounded_quotient","decimal_of","at_one_scale","over","common_divisor","Name.__init__","Stream.__init__","Reference.__init__","kind_of","is_number","told_plain","told","Lookup.__init__","Lookup.fetch","Lookup.get","Shelf.add","Shelf.numbers","Shelf.told","Space.__init__","device_spaces","device_space","Source.__init__","Source.fetch","Source.named","space_of","space_within","space_by_name","default_space","low_bits","HighBitsIn.__init__","HighBitsIn.left","HighBitsIn.take","samples","Lattice.__init__","Lattice.row_octets","Lattice.top","cut_pixels","sample_rows","scaled_rows","decoded_value","decoded_number","default_decode","pixel_numbers","is_keyed","stencil_rows","truth_numbers","whole_in","is_stencil","depth_in","frame_in","decode_pairs","image_space","image_frame","image_rows","key_ranges","painted_rows","soft_rows","opacity_rows","_law_well","_law_dip","_law_behind","_law_head","_law_pixels","_law_laid","_law_open","_law_end","_law_near","_law_soft","_law_stencil","_law_ranges","_law_middle","_law_scaled","_law_heard","law"]
end Mine
end
section
namespace Mine
open PySem PySem.W PySem.Calls PyProof.Rows PySem.SeqAt
noncomputable def zi(x:PL)(f:Int->Bool):Bool:=if h:x.ctorIdx=4 then UU (motive:=λ zz=>Bool) x h λ j zz=>f j else false
theorem yc{f:Int->Bool}{mo:PL->Prop}(h:zi x f=true)(k:∀j t,f j=true->mo (.int j t)):mo x:=
 aU h λ h0=>UU (motive:=λ x=>∀h0:x.ctorIdx=4,UU (motive:=λ zz=>Bool) x h0 (λ j zz=>f j)=true->mo x) x h0 (λ j t zz=>k j t) h0
noncomputable def zj(x:PL)(f:Array UInt8->Bool):Bool:=if h:x.ctorIdx=7 then T6 (motive:=λ zz=>Bool) x h λ j zz=>f j else false
theorem yd{f:Array UInt8->Bool}{mo:PL->Prop}(h:zj x f=true)(k:∀j t,f j=true->mo (.bytes j t)):mo x:=
 aU h λ h0=>T6 (motive:=λ x=>∀h0:x.ctorIdx=7,T6 (motive:=λ zz=>Bool) x h0 (λ j zz=>f j)=true->mo x) x h0 (λ j t zz=>k j t) h0
noncomputable def pY(x:PL)(f:P5->Bool):Bool:=if h:x.ctorIdx=10 then UT (motive:=λ zz=>Bool) x h f else false
theorem l8{f:P5->Bool}{mo:PL->Prop}(h:pY x f=true)(k:∀a,f a=true->mo (.ref a)):mo x:=
 aU h λ h0=>UT (motive:=λ x=>∀h0:x.ctorIdx=10,UT (motive:=λ zz=>Bool) x h0 f=true->mo x) x h0 (λ a zz=>k a) h0
noncomputable def jx(x:Data)(f:Array PL->Bool):Bool:=if h:x.ctorIdx=2 then Vq (motive:=λ zz=>Bool) x h λ a zz=>f a else false
theorem l6{x:Data}{f:Array PL->Bool}{mo:Data->Prop}(h:jx x f=true)(k:∀a n,f a=true->mo (.seq a n)):mo x:=
 aU h λ h0=>Vq (motive:=λ x=>∀h0:x.ctorIdx=2,Vq (motive:=λ zz=>Bool) x h0 (λ a zz=>f a)=true->mo x) x h0 (λ a n zz=>k a n) h0
noncomputable def kB(x:Data)(f:SB->Bool):Bool:=if h:x.ctorIdx=7 then UZ (motive:=λ zz=>Bool) x h f else false
theorem pj{x:Data}{f:SB->Bool}{mo:Data->Prop}(h:kB x f=true)(k:∀a,f a=true->mo (.func a)):mo x:=
 aU h λ h0=>UZ (motive:=λ x=>∀h0:x.ctorIdx=7,UZ (motive:=λ zz=>Bool) x h0 f=true->mo x) x h0 (λ a zz=>k a) h0
noncomputable def oG(x:FuncBody)(f:List Sd->Bool):Bool:=match x with|.stmts l=>f l|.expr _=>false
theorem ni{x:FuncBody}{f:List Sd->Bool}{mo:FuncBody->Prop}(h:oG x f=true)(k:∀l,f l=true->mo (.stmts l)):mo x:=by
 cases x with
 |stmts l=>exact k l h
 |expr e=>cases h
theorem ua{α:Type}{a:Array α}(h:a.toList.isEmpty=true):a= #[]:=Xr.mp (QT.mp h)
noncomputable def B8(v:V)(x:PL):Bool:=match v with
 |.none=>decide (x=.none)
 |.int i=>zi x λ j=>i==j
 |.bytes b=>zj x λ a=>b.isEmpty&&a.toList.isEmpty
 |_=>false
noncomputable def yM:List V->List PL->Bool
 |[],xs=>bW xs
 |v::vs,xs=>cy xs λ x xs=>B8 v x&&yM vs xs
noncomputable def dv(K:RH)(v:V)(x:PL):Bool:=match v with
 |.tup vs=>pY x λ a=>bD (K.lookup a) λ o=>decide (o.cls=.type "tuple")&&(o.dict.isNone&&(o.slots.toList.isEmpty&&jx o.data λ arr=>decide (vs.length<=100)&&yM vs arr.toList))
 |v=>B8 v x
noncomputable def B7(K:RH):List V->List PL->Bool
 |[],xs=>bW xs
 |v::vs,xs=>cy xs λ x xs=>dv K v x&&B7 K vs xs
section
variable{pl:Pl}{P:QP}{B:QI}{K:RH}
theorem wY(h:B8 v x=true):VR pl P [] (λ zz=>False) B v x:=by
 cases v<;>first|cases h|skip
 ·exact(aJ h:x=.none)
 ·exact yc (mo:=λ x=>∃t,x=.int _ t) h λ j t h=>⟨t,congrArg (Value.int · t) (aq h).symm⟩
 ·exact yd (mo:=sq _) h λ a t h=>by
   cases QT.mp (af h).1
   exact⟨Ry _,t,congrArg (Value.bytes · t) (ua (af h).2)⟩
theorem AW:∀{vs:List V} {xs:List PL},yM vs xs=true->am pl P [] (λ zz=>False) B vs xs:=by
 intro vs
 induction vs with
 |nil=>
  intro y1 h
  exact bl (mo:=λ xs=>xs=[]) h rfl
 |cons y2 vs ih=>
  intro y3 h
  exact bK (mo:=VC _ _) h λ x xs h=>⟨x,xs,rfl,wY (af h).1,ih (af h).2⟩
theorem zI(hK:K.In B)(h:dv K v x=true):VR pl P [] (λ zz=>False) B v x:=by
 cases v<;>first|exact wY h|skip
 refine l8 (mo:=ij iJ _ _ _ _) h λ a h=> ?_
 generalize hl:K.lookup a=o at h
 cases o with
 |none=>cases h
 |some o=>
  obtain⟨c,d,dt,sl⟩:=o
  have h:(decide (c=.type "tuple")&&(d.isNone&&(sl.toList.isEmpty&&jx dt _)))=true:=h
  obtain⟨h1,h⟩:=af h
  obtain⟨h2,h⟩:=af h
  obtain⟨h3,h⟩:=af h
  cases aJ h1
  cases QQ.mp h2
  cases ua h3
  revert hl
  exact l6 (mo:=λ dt=>K.lookup a=some ⟨_,none,dt,#[]⟩->_) h λ arr m h hl=>⟨a,arr.toList,m,rfl,id,hK a _ hl,PN (aJ (af h).1) (by decide),AW (af h).2⟩
theorem B6(hK:K.In B):∀{vs:List V} {xs:List PL},B7 K vs xs=true->am pl P [] (λ zz=>False) B vs xs:=by
 intro vs
 induction vs with
 |nil=>
  intro y1 h
  exact bl (mo:=λ xs=>xs=[]) h rfl
 |cons y2 vs ih=>
  intro y3 h
  exact bK (mo:=VC _ _) h λ x xs h=>⟨x,xs,rfl,zI hK (af h).1,ih (af h).2⟩
end
noncomputable def w5(K:RH)(Hk:List V)(np:Nat)(v:PL):Bool:=
 (decide (v=.none)&&bW Hk)||pY v λ T=>bD (K.lookup T) λ o=>jx o.data λ arr=>B7 K Hk arr.toList&&decide (arr.toList.length<=np)
noncomputable def C7(K:RH)(T:MT)(F:Fn)(Γ:aH)(fd:SB):Bool:=
 codeIn K fd.code fd.qualname&&(fd.closure.isEmpty&&(fd.globals==P3&&(fd.builtins==QX&&(fd.scope.kind==.function&&(!fd.scope.isGenerator&&(!fd.scope.isCoroutine&&
 (fd.params.posonlyargs.isEmpty&&(fd.params.args.map (·.arg)==(Γ.take F.np).map (·.1)&&(fd.params.vararg.isNone&&(fd.params.kwonlyargs.isEmpty&&(fd.params.kwarg.isNone&&
 (decide ((Γ.take F.np).map (·.1)).Nodup&&(decide (((Γ.take F.np).map (·.1)).length=F.np)&&((((Γ.take F.np).map (·.1)).zipIdx.all λ p=>Γ.lookup p.1==some p.2)&&(decide (Γ.map (·.2)).Nodup&&
 (((Γ.take F.np).map (·.1)).all (dw fd.scope.names)&&(fd.scope.names.all (λ p=>decide (p.2≠.free))&&(w5 K F.Fv F.np fd.defaults&&oG fd.body λ body=>kH T Γ fd.scope.names F.body body))))))))))))))))))
noncomputable def jH(K:RH)(T:MT)(a:P5)(F:Fn)(Γ:aH):Bool:=bD (K.lookup a) λ o=>kB o.data λ fd=>C7 K T F Γ fd
theorem w4{K:RH}(hK:K.In g.B)(h:w5 K Hk np v=true):vD g K Hk np v:=by
 rcases pX h with h|h
 ·exact⟨[],.inl ⟨aJ (af h).1,rfl⟩,bl (mo:=λ l=>am _ _ _ _ _ l []) (af h).2 rfl,Ry _⟩
 ·refine l8 h λ T0 h=> ?_
  generalize hT:K.lookup T0=o2 at h
  cases o2 with
  |none=>cases h
  |some o2=>
   have h:jx o2.data _=true:=h
   generalize hd2:o2.data=d2 at h
   refine l6 (mo:=λ d2=>o2.data=d2->vD g K Hk np (.ref T0)) h (λ arr m h hd2=> ?_) hd2
   exact⟨arr.toList,.inr ⟨T0,o2,m,rfl,hT,hd2⟩,B6 hK (af h).1,aJ (af h).2⟩
inductive zP(g:Gs)(K:RH)(T:MT)(f:Nat)(F:Fn)(Γ:aH):Prop
 |mk (o:Obj) (fd:SB) (body:List Sd) (ps:List Str):CB g K f F Γ o fd body ps->kH T Γ fd.scope.names F.body body=true->zP g K T f F Γ
theorem yE{g:Gs}{T:MT}{K:RH}{f:Nat}{F:Fn}{Γ:aH}(hK:K.In g.B)(h:jH K T (g.pl.FF f) F Γ=true):zP g K T f F Γ:=by
 unfold jH at h
 generalize hl:K.lookup (g.pl.FF f)=o at h
 cases o with
 |none=>cases h
 |some o=>
 have h:kB o.data _=true:=h
 generalize hd:o.data=d at h
 refine pj (mo:=λ d=>o.data=d->zP g K T f F Γ) h (λ fd h hd=> ?_) hd
 refine kT h λ h1 h3 h4 h5 h6 h7 h8 h9 h=> ?_
 refine kT h λ I7 GI Mk KQ Mj HG FO Mh h=> ?_
 obtain⟨Mg,h⟩:=af h
 obtain⟨Pb,h⟩:=af h
 obtain⟨O9,h⟩:=af h
 generalize hb:fd.body=b at h
 refine ni (mo:=λ b=>fd.body=b->zP g K T f F Γ) h (λ body h hb=> ?_) hb
 refine⟨o,fd,body,_,⟨hl,hd,h1,hb,QT.mp h3,aq h4,aq h5,aq h6,da h7,da h8,QT.mp h9,aq I7,QQ.mp GI,QT.mp Mk,QQ.mp KQ,aJ Mj,aJ HG,
  λ i k e=>aq (QF.mp FO (k,i) (SG.mpr e)),λ x y i a b=>jE (aJ Mh) a b,λ k hk=>(pX (QF.mp Mg k hk)).imp aq aq,λ x e=>aJ (QF.mp Pb _ (du e)) rfl,?_⟩,h⟩
 have Ps:=aJ HG
 refine aa Ps ?_
 exact w4 hK O9
noncomputable def xg(K:RH)(T:MT)(pl:Pl)(cls:List kf)(c:Nat)(C:kf):Bool:=
 makesIn K (pl.ED c)&&(Wc K (.ref (pl.ED c))&&((clsIn K (pl.ED c)).any (λ cd=>cd.hasDict&&Yz cd.mro)&&
 (Rr K (.ref (pl.ED c)) "__getattribute__" ==some (some (.builtin "object.__getattribute__"))&&(Rr K (.ref (pl.ED c)) "__getattr__" ==some none&&
 (Rr K (.ref (pl.ED c)) "__setattr__" ==some (some (.builtin "object.__setattr__"))&&(C.fields.all (λ a=>Rr K (.ref (pl.ED c)) (pl.EH a)==some none)&&
 (decide (C.fields.map pl.EH).Nodup&&(decide (C.fields.length<=1000)&&
 ((C.init.isNone||bD C.init λ f=>Rr K (.ref (pl.ED c)) "__init__" ==some (some (.ref (pl.FF f)))&&typeIn K (.ref (pl.FF f))==some (.type "function"))&&
 (C.meths.all (λ p=>Rr K (.ref (pl.ED c)) (pl.FE p.1)==some (some (.ref (pl.FF p.2)))&&(isFn K (.ref (pl.FF p.2))&& !((C.fields.map pl.EH).contains (pl.FE p.1))))&&
 (cls.zipIdx.all (λ p=>VM K (.ref (pl.ED c)) (.ref (pl.ED p.2))==some (c==p.2))&&
 (["bool","int","list","dict"].all (λ T=>VM K (.ref (pl.ED c)) (.type T)==some false)&&
 (["int","str","bool","NoneType","list","dict","tuple"].all (λ X=>VM K (.type X) (.ref (pl.ED c))==some false)&&
 (plainGet K (pl.ED c) "__class__" &&(hasDictIn K (pl.ED c)&&(Rr K (.ref (pl.ED c)) "__class__" ==some (some (.builtin "object.__class__"))&&XX K (pl.ED c) (.type "object")==some true))))))))))))))))
theorem uZ{β:Type}:∀{l:List (Nat×β)} {x:Nat} {k:β},l.lookup x=some k->(x,k)∈l:=by
 intro l
 induction l with
 |nil=>
  intro y1 y2 h
  cases h
 |cons y3 r ih=>
  obtain⟨z,j⟩:=y3
  intro x k h
  rw[Qn] at h
  split at h
  ·rename_i e
   cases h
   rw[beq_iff_eq] at e
   refine aa e ?_;exact R4 ..
  ·exact RI _ (ih h)
theorem dj{α:Type}{l:List α}{p:α->Bool}(h:l.all p=true){x:α}(m:x∈l):p x=true:=QF.mp h x m
theorem xf{g:Gs}{T:MT}{K:RH}{cls:List kf}{c:Nat}{C:kf}(hP:∀i,g.pl.P.cls i=cls[i]?)(h:xg K T g.pl cls c C=true):CD g K c C:=by
 refine kT h λ h1 h2 h3 h4 h5 h6 h7 h8 h=> ?_
 refine kT h λ h9 I7 GI Mk KQ Mj HG FO h=> ?_
 obtain⟨Mh,Mg⟩:=af h
 refine⟨h1,h2,h3,aq h4,aq h5,aq h6,λ a m=>aq (dj h7 m),aJ h8,aJ h9,λ f e=> ?_,λ m f e=> ?_,λ c' C' e=>aq (dj Mk (x:=(C',c')) (SG.mpr (hP c'▸e:cls[c']? =some C'))),λ T m=>aq (dj KQ m),λ X m=>aq (dj Mj m),HG,FO,aq Mh,aq Mg⟩
 ·rw[e] at I7
  have q:=af I7
  exact⟨aq q.1,aq q.2⟩
 ·have q:=af (dj GI (uZ e))
  have q2:=af q.2
  exact cg (aq q.1) q2.1 λ m=>QU ((da q2.2).symm.trans (Su.mpr m))
noncomputable def vM(K:RH)(T:MT)(pl:Pl)(glob:List V):Bool:=
 T.tb.fns.all (λ p=>Xs K P3 p.1==some (some (.ref (pl.FF p.2))))&&(T.tb.Hc.all (λ p=>Xs K P3 p.1==some (some (.ref (pl.ED p.2))))&&
 (T.tb.vals.all (λ p=>bD glob[p.2]? λ t=>bD (Xs K P3 p.1) λ v=>bD v λ v=>dv K t v)&&
 (lv.all (λ x=>Xs K P3 x==some none)&&
 (specialIn K (.builtin "object.__class__") "__get__" ==some (some (.builtin "getset_descriptor.__get__"))&&takesIn K (.builtin "object.__class__")==some true))))
noncomputable def xw(K:RH)(T:MT)(pl:Pl)(cls:List kf):Bool:=cls.zipIdx.all λ p=>xg K T pl cls p.2 p.1
noncomputable def ub(K:RH)(pl:Pl)(n:Nat):Bool:=(PS n).all λ f=>Wc K (.ref (pl.FF f))
theorem C6{g:Gs}{T:MT}{K:RH}{cls:List kf}{fns:List Fn}{glob:List V}(hP:∀i,g.pl.P.cls i=cls[i]?)(hF:∀i,g.pl.P.fn i=fns[i]?)(hG:∀i,g.pl.P.glob i=glob[i]?)
  (KB:K.In g.B)(nl:g.B.NoLimit)(big:∃a o,2<=a/\g.B.get? a=some o)(bi:∃mb,g.B.Ns QX mb/\∀x:Str,x≠"__name__" ->mb x=Sc x)
  (h1:vM K T g.pl glob=true)(h2:xw K T g.pl cls=true)(h3:ub K g.pl fns.length=true):Fx g T.tb K:=by
 obtain⟨a1,h⟩:=af h1
 obtain⟨a2,h⟩:=af h
 obtain⟨a3,h⟩:=af h
 obtain⟨a4,h⟩:=af h
 refine⟨KB,nl,big,bi,λ x f e=>aq (dj a1 (du e)),λ x f e=>aq (dj a2 (du e)),λ x k e=> ?_,λ x m=>aq (dj a4 m),⟨aq (af h).1,aq (af h).2⟩,
  λ c C e=>xf hP (dj h2 (x:=(C,c)) (SG.mpr (hP c▸e:cls[c]? =some C))),λ f F e=>dj h3 (So.mpr (PO.mp (hF f▸e:fns[f]? =some F)).1)⟩
 have q:bD glob[k]? (λ t=>bD (Xs K P3 x) λ v=>bD v λ v=>dv K t v)=true:=dj a3 (du e)
 refine aa (hG _) ?_
 refine cw (mo:=λ o=>∃v t,o=some t/\Xs K P3 x=some (some v)/\VR g.pl g.w.params [] (λ zz=>False) g.B t v) q λ t q=> ?_
 refine cw (mo:=λ o=>∃v t',some t=some t'/\o=some (some v)/\VR g.pl g.w.params [] (λ zz=>False) g.B t' v) q λ v q=> ?_
 exact cw (mo:=λ o=>∃v t',some t=some t'/\some o=some (some v)/\VR g.pl g.w.params [] (λ zz=>False) g.B t' v) q λ v q=>⟨v,t,rfl,rfl,zI KB q⟩
noncomputable def gj(K:RH)(T:MT)(pl:Pl):List Fn->List aH->Nat->Bool
 |[],_,_=>true
 |F::fs,gs,i=>cy gs λ Γ gs=>jH K T (pl.FF i) F Γ&&gj K T pl fs gs (i+1)
theorem pJ{K:RH}{T:MT}{pl:Pl}:∀{fs:List Fn} {gs:List aH} {i:Nat},gj K T pl fs gs i=true->∀{k:Nat} {F:Fn},fs[k]? =some F->∃Γ,jH K T (pl.FF (i+k)) F Γ=true:=by
 intro fs
 induction fs with
 |nil=>
  intro y1 y2 y3 k F e
  exact nomatch e
 |cons F0 fs ih=>
  intro y4 i h y5
  cases y5 with
  |zero=>
   intro F e
   exact bK (mo:=λ zz=>∃Γ,jH K T (pl.FF i) F Γ=true) h λ Γ gs h=>⟨Γ,PZ e▸(af h).1⟩
  |succ k=>
   intro F e
   exact bK (mo:=λ zz=>∃Γ,jH K T (pl.FF (i+(k+1))) F Γ=true) h λ Γ gs h=>(Nat.succ_add_eq_add_succ i k).symm▸ih (af h).2 e
theorem vx{K:RH}{T:MT}{pl:Pl}{fs:List Fn}{gs gs2:List aH}{m:Nat}(h:(gj K T pl (fs.take m) gs 0&&gj K T pl (fs.drop m) gs2 m)=true){k:Nat}{F:Fn}(e:fs[k]? =some F):∃Γ,jH K T (pl.FF k) F Γ=true:=by
 obtain⟨h1,h2⟩:=af h
 cases Nat.lt_or_ge k m with
 |inl q=>
  have r:=pJ h1 (k:=k) (F:=F) ((RT q).trans e)
  rw[TQ] at r
  exact r
 |inr q=>
  have r:=pJ h2 (k:=k-m) (F:=F) (by refine aa UB ?_;refine aa (Uq q) ?_;exact e)
  rw[Uq q] at r
  exact r
noncomputable def ji(y:Str)(e:Qa):Bool:=cx e λ z zz=>z==y
theorem gf{mo:Qa->Prop}(h:ji y e=true)(k:∀p,mo (.Name y p)):mo e:=bR h λ z p h=>aq h▸k p
noncomputable def xr(y a:Str)(e:Qa):Bool:=dp e λ o b zz=>b==a&&ji y o
theorem xq{mo:Qa->Prop}(h:xr y a e=true)(k:∀p q,mo (.Attribute (.Name y p) a q)):mo e:=
 cR h λ o b q h=>gf (mo:=λ o=>mo (.Attribute o b q)) (af h).2 λ p=>(aq (af h).1).symm▸k p q
noncomputable def vr(w:Str)(s:Sd):Bool:=dP s λ ts v zz=>eW ts λ t=>xr "self" w t&&ji w v
theorem rW{s:Sd}{mo:Sd->Prop}(h:vr w s=true)(k:∀p1 p2 p3 p4,mo (.Assign [.Attribute (.Name "self" p1) w p2] (.Name w p3) p4)):mo s:=
 cQ h λ ts v p4 h=>bO (mo:=λ ts=>mo (.Assign ts v p4)) h λ t h=>xq (mo:=λ t=>mo (.Assign [t] v p4)) (af h).1 λ p1 p2=>gf (mo:=λ v=>mo (.Assign [.Attribute _ _ _] v p4)) (af h).2 λ p3=>k p1 p2 p3 p4
noncomputable def tW(l:List Sd):Bool:=cy l λ s1 l=>pq l λ s2 s3=>vr "what" s2&&(vr "at" s3&&oI s1 λ e zz=>kD e λ fn xs kw p5=>bW kw&&dp fn λ o b p2=>
 ji "Exception" o&&(b==("__init__" :Str)&&(p2.endLine==p5.line&&pq xs λ x y=>ji "self" x&&ji "what" y)))
noncomputable def C8(K:RH)(fd:SB):Bool:=
 codeIn K fd.code fd.qualname&&(oG fd.body tW&&(fd.closure.isEmpty&&(fd.globals==P3&&(fd.builtins==QX&&(fd.scope.kind==.function&&(!fd.scope.isGenerator&&(!fd.scope.isCoroutine&&
 (fd.params.posonlyargs.isEmpty&&(fd.params.args.map (·.arg)==[("self" :Str),"what","at"]&&(fd.params.vararg.isNone&&(fd.params.kwonlyargs.isEmpty&&(fd.params.kwarg.isNone&&
 (fd.scope.names.lookup ("self" :Str)==some .local&&(fd.scope.names.lookup ("what" :Str)==some .local&&(fd.scope.names.lookup ("at" :Str)==some .local&&(fd.scope.names.lookup ("Exception" :Str)==some .globalImplicit&&
 (fd.scope.names.all (λ x=>decide (x.2≠.cell))&&pY fd.defaults λ T=>bD (K.lookup T) λ o=>jx o.data λ arr=>eW arr.toList λ zz=>true)))))))))))))))))
noncomputable def wX(K:RH)(C f:P5):Bool:=
 my K C&&(nH K C&&(Wc K (.ref C)&&(Rr K (.ref C) "__init__" ==some (some (.ref f))&&(typeIn K (.ref f)==some (.type "function")&&(Rr K (.ref C) "__setattr__" ==some (some (.builtin "object.__setattr__"))&&
 (Rr K (.ref C) "what" ==some none&&(Rr K (.ref C) "at" ==some none&&(Xs K P3 "Exception" ==some none&&
 bD (K.lookup f) λ o=>kB o.data λ fd=>C8 K fd))))))))
theorem u6{l:List Sd}(h:tW l=true):ii l:=
 bK h λ s1 l h=>gZ (mo:=λ l=>ii (s1::l)) h λ s2 s3 h=>by
  obtain⟨h1,h⟩:=af h
  obtain⟨h2,h⟩:=af h
  refine rW (mo:=λ s2=>ii [s1,s2,s3]) h1 λ p7 p8 p9 Jw=>rW (mo:=λ s3=>ii [s1,_,s3]) h2 λ Ky Kx Kw Kv=>nk (mo:=λ s1=>ii [s1,_,_]) h λ e p6 h=>kC (mo:=λ e=>ii [.Expr e p6,_,_]) h λ fn xs kw p5 h=>
   bl (mo:=λ kw=>ii [.Expr (.Call fn xs kw p5) p6,_,_]) (af h).1 (cR (mo:=λ fn=>ii [.Expr (.Call fn xs [] p5) p6,_,_]) (af h).2 λ o b p2 h=> ?_)
  obtain⟨h1,h⟩:=af h
  obtain⟨h2,h4⟩:=af h
  obtain⟨h3,h5⟩:=af h4
  cases aq h2
  exact gf (mo:=λ o=>ii [.Expr (.Call (.Attribute o _ p2) xs [] p5) p6,_,_]) h1 λ p1=>gZ (mo:=λ xs=>ii [.Expr (.Call (.Attribute _ _ p2) xs [] p5) p6,_,_]) h5 λ x y h=>
   gf (mo:=λ x=>ii [.Expr (.Call (.Attribute _ _ p2) [x,y] [] p5) p6,_,_]) (af h).1 λ p3=>gf (mo:=λ y=>ii [.Expr (.Call (.Attribute _ _ p2) [_,y] [] p5) p6,_,_]) (af h).2 λ p4=>⟨p1,p2,p3,p4,p5,p6,p7,p8,p9,Jw,Ky,Kx,Kw,Kv,h3,rfl⟩
theorem wW{g:Gs}{K:RH}{C f:P5}(h:wX K C f=true)(hx:findCls K (.type "Exception") (.type "type") "__init__" =some (.val (.builtin "Exception.__init__"))):∃fd,oW g K C f fd:=by
 refine kT h λ h1 h2 h3 h4 h5 h6 h7 h8 h=> ?_
 obtain⟨h9,h⟩:=af h
 generalize hl:K.lookup f=o at h
 cases o with
 |none=>cases h
 |some o=>
 have h:kB o.data _=true:=h
 generalize hd:o.data=d at h
 refine pj (mo:=λ d=>o.data=d->∃fd,oW g K C f fd) h (λ fd h hd=>⟨fd,?_⟩) hd
 refine kT h λ k1 k2 k3 k4 k5 k6 k7 k8 h=> ?_
 refine kT h λ k9 Oi Lj Oh Og Of Oe Od h=> ?_
 obtain⟨Oc,h⟩:=af h
 obtain⟨Oa,h⟩:=af h
 refine⟨h1,h2,h3,aq h4,aq h5,aq h6,aq h7,aq h8,⟨o,hl,hd⟩,k1,ni (mo:=λ b=>∃l,b=.stmts l/\ii l) k2 λ l h=>⟨l,rfl,u6 h⟩,QT.mp k3,aq k4,aq k5,aq k6,da k7,da k8,QT.mp k9,aq Oi,
  QQ.mp Lj,QT.mp Oh,QQ.mp Og,aq Of,aq Oe,aq Od,aq Oc,λ x hx=>aJ (dj Oa hx),?_,aq h9,hx⟩
 refine l8 (mo:=λ v=>∃T oT m dv,v=.ref T/\K.lookup T=some oT/\oT.data=.seq #[dv] m) h λ T h=> ?_
 generalize hT:K.lookup T=o2 at h
 cases o2 with
 |none=>cases h
 |some o2=>
  have h:jx o2.data _=true:=h
  generalize hd2:o2.data=d2 at h
  refine l6 (mo:=λ d2=>o2.data=d2->∃T' oT m dv,QL T=.ref T'/\K.lookup T'=some oT/\oT.data=.seq #[dv] m) h (λ arr m h hd2=> ?_) hd2
  obtain⟨l⟩:=arr
  exact bO (mo:=λ l=>o2.data=.seq ⟨l⟩ m->_) h (λ dv zz hd2=>⟨T,o2,m,dv,rfl,hT,hd2⟩) hd2
noncomputable def fe:Pl:=⟨λ c=>Au.getD c 0,λ f=>Bn.getD f 0,gp.aN,gp.mN,λ zz=> "",ak⟩
end Mine
end
section
open PySem PySem.W PySem.Calls PyProof.Rows PySem.SeqAt
namespace Mine
noncomputable section
abbrev DK:Sd->Bool|.FunctionDef n .. =>n==PF "law" |_=>false
noncomputable def qv:Ui:={P0 with main:={P0.main with body:=P0.main.body.filter DK}}
noncomputable def hY:List Str:=P0.boundNames.filter λ n=> !(n==PF "law")
noncomputable def iA:List Obj->Nat->RH
 |[],_=>[]
 |o::r,n=>bif (alive o).isSome then(n,o)::iA r (n+1) else iA r (n+1)
theorem AS(o:Obj)(r:List Obj)(n:Nat):iA (o::r) n=bif (alive o).isSome then(n,o)::iA r (n+1) else iA r (n+1):=rfl
noncomputable def cX(h:QI):RH:=iA h.objs.toList 0
noncomputable def yP(K:RH):Bool:=wX K 71 36&&vM K gp fe oC&&xw K gp fe i6&&ub K fe 77&&Xs K P3 "PaintFault" ==some (some (.ref 71))
noncomputable def zo(s:PM):=(yP (cX s.heap),findCls (cX s.heap) (.type "Exception") (.type "type") "__init__",s.heap.nsMap P3 "law",s.heap.objs.size)
theorem xN:∀w os,(lZ w os).map (λ s=>(staticsOk (RM P0.main.body) (Q2 w.params) s.abs.heap&&YB P0 s.abs.heap&&gensDone s.abs&&laidKept (Q2 w.params) s.abs.heap,openSeen qv hY (RM P0.main.body) (recOk []) true s.abs,gj (cX s.abs.heap) gp fe (i5.take 44) mX 0))=
  some (true,openGood qv hY,true):=by
 intro w os
 unfold lZ oV
 refine aa SX ?_;refine aa SR ?_;refine aa SQ ?_;refine aa SP ?_;refine aa Fast.te4187177175401517315 ?_;refine aa Fast.te5923862056798008813 ?_;refine aa SW ?_
 kernel_rfl
end
end Mine
end
section
open PySem PySem.W PySem.Calls PyProof.Rows PySem.SeqAt
namespace Mine
noncomputable section
theorem Ag:∀w os,(lZ w os).map (λ s=>zo s.abs)=some (true,some (.val (.builtin "Exception.__init__")),some (.ref 898),899):=by
 intro w os
 unfold lZ oV
 refine aa SX ?_;refine aa SR ?_;refine aa SQ ?_;refine aa SP ?_;refine aa SW ?_
 kernel_rfl
end
end Mine
end
section
open PySem PySem.W PySem.Calls PyProof.Rows PySem.SeqAt
namespace Mine
noncomputable section
theorem Ah:∀w os,(lZ w os).map (λ s=>gj (cX s.abs.heap) gp fe (i5.drop 44) (mX.drop 44) 44)=some true:=by
 intro w os
 unfold lZ oV
 refine aa SX ?_;refine aa SR ?_;refine aa SQ ?_;refine aa SP ?_;refine aa SW ?_
 kernel_rfl
end
end Mine
end
section
open PySem PySem.W PySem.Calls PyProof.Rows PySem.SeqAt
namespace Mine
noncomputable section
noncomputable def eU:OpenLaw:=RY
theorem CQ:(sreFenced P0.main&&((moduleNames P0.main.body).isEmpty||lookedIntoSs (moduleNames P0.main.body) P0.main.body))=true:=by kernel_rfl
theorem CP:namesResolve P0=true:=by kernel_rfl
theorem CO:(P0.boundNames.all λ n=> !worldNames.contains n)=true:=by refine aa Vr ?_;kernel_rfl
theorem CN:noRoadLSs {strict:= !(RM P0.main.body).all cThrough.contains,foot:=none,bare:=List.filter (readsOut P0 P0.main.body) [PF "vars",PF "dir",PF "locals"]} P0.main.body=true:=by
 refine aa VK ?_
 kernel_rfl
theorem CM:namesMeet P0 P0.main.body (λ x n=>attrL n)=true:=by refine aa Vs ?_;kernel_rfl
theorem CL:looksOpen P0=true:=Vb (Vb (Vb (Vb CQ CP) CO) CN) CM
theorem CK:eU.row.wellSaid=true:=by
 have e:looksOpen eU.row.prog=true:=CL
 unfold OpenRow.wellSaid OpenRow.partSaid
 refine aa e ?_;refine aa Vr ?_;refine aa Fast.te12749700546528644094 ?_
 kernel_rfl
theorem CJ:eU.wellSaid=true:=by
 unfold OpenLaw.wellSaid
 refine aa CK ?_;refine aa VK ?_;refine aa Fast.te9558739934217749035 ?_;refine aa Fast.te16286561074155671207 ?_;refine aa Fast.te6984425678791042302 ?_;refine aa Vs ?_;refine aa Fast.te12879404354523853263 ?_;refine aa Fast.te482687673346738481 ?_;refine aa Fast.te10792542408131684335 ?_;refine aa Fast.te10501279942588096481 ?_;refine aa Fast.te8179353310426384613 ?_;refine aa Fast.te797321630700447069 ?_
 kernel_rfl
end
end Mine
end
section
open PySem PySem.W PySem.Calls PyProof.Rows PySem.SeqAt
namespace Mine
noncomputable section
theorem AK{loose:List Str}{Xt:PM->Bool}{α:Type}{Yf:PM->α}{Ya:TD->α}{N m₀:Nat}{H:QP->QI}{gs:Array GenState}{d:Drawn}{k:Nat}{ann:TD->Option PL}
  (a:∀w:TD,(fencedOpening SI p w N).map (λ s=>(s.heap,s.gens,s.drawn,s.toks))=some (H w.params,gs,d,k))
  (b:∀P:QP,((H P).isNs P3&&gs.size==0)=true)(b2:∀P,(H P).objs.size=m₀)(b3:∀w:TD,(H w.params).nsMap P3 "__annotations__" =ann w)
  (c:∀(w:TD) (os:Wf),∃s:PM,topRun SI p w m₀ (ann w) N ⟨H w.params,gs,d,k,os⟩ (topStub p)=some s/\
   (staticsOk (RM p.main.body) (H w.params) s.heap&&YB p s.heap&&gensDone s&&laidKept (H w.params) s.heap)=true/\
   openSeen q loose (RM p.main.body) Xt true s=openGood q loose/\Yf s=Ya w):LeftO p q loose Xt Yf Ya N:=λ w=>by
 refine ai (V7.mp (a w)) λ HT e e'=> ?_;rcases HT with⟨h,gs',d',k',os⟩
 have e1:h=H w.params:=congrArg (·.1) e'
 have e2:gs'=gs:=congrArg (·.2.1) e'
 have e3:d'=d:=congrArg (·.2.2.1) e'
 have e4:k'=k:=congrArg (·.2.2.2) e'
 subst e1 e2 e3 e4
 refine jI (c w os) λ s r l1 l2 l3=> ?_
 have t:topFrom SI p w N ⟨H w.params,gs',d',k',os⟩=some s:=by
  unfold topFrom
  dsimp only
  refine aa (b _) ?_;refine aa (b2 _) ?_;refine aa (b3 _) ?_;refine aa r ?_
  dsimp only [Option.bind]
  refine aa l1 ?_;rfl
 unfold openEnds
 refine aa e ?_;refine aa (Q9 _ _) ?_;refine aa t ?_;refine aa (RW _ _) ?_;refine aa l2 ?_;refine aa l3 ?_;rfl
abbrev YT:=Bool×Bool×Option CFound×Option PL×Nat
noncomputable def yf(s:PM):YT:=(gj (cX s.heap) gp fe (i5.take 44) mX 0&&gj (cX s.heap) gp fe (i5.drop 44) (mX.drop 44) 44,zo s)
noncomputable def ya:YT:=(true,true,some (.val (.builtin "Exception.__init__")),some (.ref 898),899)
theorem Dg(P:QP):((Q2 P).isNs P3&&(#[]:Array GenState).size==0)=true:=by kernel_rfl
theorem Df(P:QP):(Q2 P).objs.size=11:=by kernel_rfl
theorem three{α β γ δ:Type}{o:Option α}{f:α->β}{g:α->γ}{h:α->δ}{b c d}(x:o.map f=some b)(y:o.map g=some c)(z:o.map h=some d):∃s,o=some s/\f s=b/\g s=c/\h s=d:=by
 cases o with
 |none=>cases x
 |some s=>exact DP s rfl (PZ x) (PZ y) (PZ z)
end
end Mine
end
section
open PySem PySem.W PySem.Calls PyProof.Rows PySem.SeqAt
namespace Mine
noncomputable section
theorem Co{os:Wf}{s:Tv}(h:lZ w os=some s):topRun SI P0 w 11 (oV w) 6300 ⟨Q2 w.params,#[],Uw,Vd,os⟩ (topStub P0)=some s.abs:=
 Cp w os▸uj _ _ _ _ h
theorem C1(w:TD)(os:Wf):∃s:PM,topRun SI P0 w 11 (oV w) 6300 ⟨Q2 w.params,#[],Uw,Vd,os⟩ (topStub P0)=some s/\
   (staticsOk (RM P0.main.body) (Q2 w.params) s.heap&&YB P0 s.heap&&gensDone s&&laidKept (Q2 w.params) s.heap)=true/\
   openSeen qv hY (RM P0.main.body) (recOk []) true s=openGood qv hY/\yf s=ya:=
 have⟨s,h,a,b,c⟩:=three (xN w os) (Ag w os) (Ah w os)
 ⟨s.abs,Co h,congrArg Prod.fst a,congrArg (·.2.1) a,congr (congrArg Prod.mk (Vb (congrArg (·.2.2) a) c)) b⟩
end
end Mine
end
section
open PySem PySem.W PySem.Calls PyProof.Rows PySem.SeqAt
namespace Mine
noncomputable section
theorem C2:LeftO P0 qv hY (recOk []) yf (λ zz=>ya) 6300:=AK Dh Dg Df (λ zz=>rfl) C1
theorem Dq:(defOf qv (PF "law")).isSome=true:=by kernel_rfl
noncomputable def dX:DefRec×List (Str×Qa):=(defOf qv (PF "law")).get Dq
theorem AZ:defOf qv (PF "law")=some (dX.1,dX.2):=(Option.some_get Dq).symm
theorem x1:(chainsOk qv&&opensWell P0)=true:=by kernel_rfl
theorem x3:(frees eU.row.toRowW&&eU.row.within.isEmpty)=true:=by kernel_rfl
theorem x5:P0.theDef (PF "law")=some (dX.1.params,dX.1.body,dX.1.scope):=by kernel_rfl
theorem x6:kwWritten? dX.1.params.kwonlyargs dX.1.params.kw_defaults=some dX.2:=by kernel_rfl
theorem x7:P0.bare:=⟨rfl,rfl,rfl,rfl,rfl,by decide+kernel⟩
end
end Mine
end
section
open PySem PySem.W PySem.Calls PyProof.Rows PySem.SeqAt
namespace Mine
noncomputable section
theorem x2:(chainsOk qv&&opensWell eU.row.prog&&(frees eU.row.toRowW&&eU.row.within.isEmpty))=true:=Vb x1 x3
theorem x8:eU.row.toRowW.promised:=⟨[.list []],by decide+kernel,by decide+kernel⟩
theorem x9:eU.row.prog.theDef eU.row.name=some (dX.1.params,dX.1.body,dX.1.scope):=x5
theorem Ea:defOf qv eU.row.name=some (dX.1,dX.2):=AZ
theorem D9:LeftO eU.row.prog qv hY (recOk []) yf (λ zz=>ya) 6300:=C2
theorem D8:(!eU.row.writes||eU.row.records.isEmpty)=true:=by kernel_rfl
theorem D7:∀s,recOk [] s=true->RecFacts eU.row.records s.heap:=λ s e=>recFacts_of e
theorem D6:eU.row.prog.bare:=x7
abbrev uf:=WalkX qv hY (λ zz zz=>True) yf (λ zz=>ya) eU.row.toRowW dX.1 dX.2 λ f vs=>PySem.call f vs
theorem BH(walk:uf):eU.Holds:=holds_law CJ λ K7=>
 holds_openX (Xt:=recOk []) (XP:=λ zz zz=>True) D9 (λ zz zz=>trivial) (λ zz zz zz zz zz=>trivial) Ea x9 x6 D7 D8 K7 x2 D6 x8 walk
end
end Mine
end
section
open PySem PySem.W PySem.Calls PyProof.Rows PySem.SeqAt
namespace Mine
noncomputable section
set_option tactic.hygienic true in
theorem yC:∀{l:List Obj} {n a:Nat} {o:Obj},(iA l n).lookup a=some o->n<=a/\l[a-n]? =some o/\alive o=some o:=by
 intro l
 induction l with
 |nil=>
  intro y1 y2 y3 h
  cases h
 |cons p r ih=>
  intro n a o h
  have next:(iA r (n+1)).lookup a=some o->n<=a/\(p::r)[a-n]? =some o/\alive o=some o:=λ q=>by
   refine ei (ih q) λ x y z=> ?_
   refine cg (ae 0x905244148185102 rfl n a x) ?_ z
   refine aa (show a-n=(a-(n+1))+1 by exact ae 0x90c184206145209148148185102 rfl n a x) ?_
   exact y
  rw[AS] at h
  cases hd:(alive p).isSome with
  |false=>rw[hd] at h;exact next h
  |true=>
   rw[hd,cond_true,Qn] at h
   split at h
   ·rename_i e
    rw[beq_iff_eq] at e
    cases h
    subst e
    refine cg (PE _) (by refine aa (U1 _) ?_;rfl) ?_
    obtain⟨c,d,dt,sl⟩:=p
    cases dt<;>first|rfl|cases hd
   ·exact next h
theorem yD(h:QI):(cX h).In h:=λ a o e=>by
 refine ei (yC e) λ zz g al=> ?_
 have g':h.objs[a]? =some o:=by simpa using g
 unfold Heap.get?
 refine aa g' ?_
 obtain⟨c,d,dt,sl⟩:=o
 cases dt<;>first|rfl|cases al
noncomputable def Cu:AH:=⟨λ zz=>none,0⟩
abbrev qd:Prop:=∀is:List Int,is.length<=63->ag ak 60 76 [.list (is.map .int)] Cu (λ v zz=>v=.bool true) (λ zz=>False)
end
end Mine
end
section
open PySem PySem.W PySem.W.X PySem.Calls PyProof.Rows PySem.SeqAt
namespace Mine
noncomputable section
set_option tactic.hygienic true in
theorem wB{K:RH}{h:QI}{N:P5}{mg:Str->Option PL}{n:Str}{v:PL}(X:K.In h)(G:h.Ns N mg)(e:Xs K N n=some (some v)):mg n=some v:=by
 refine vc G λ o es ep ho hd zz hf=> ?_;clear G
 unfold Xs at e
 cases q:K.lookup N with
 |none=>rw[q] at e;cases e
 |some p=>
  rw[q] at e
  have:=X _ _ q
  rw[ho] at this
  cases this
  obtain⟨c,d,dt,sl⟩:=o
  cases hd
  dsimp only at e
  refine aE (hf _) ?_
  unfold nsFind findBy
  refine aE Array.find?_toList ?_
  cases he:es.toList.find? (·.key.isStr n) with
  |some x=>rw[he] at e;cases e;rfl
  |none=>rw[he] at e;dsimp only at e;split at e<;>cases e
noncomputable def gs(w:TD)(B:QI):Gs:=⟨fe,P0,w,B,.ref 71⟩
theorem Ek(y:yf s=ya)(hk:∀b o,s.heap.get? b=some o->B.get? b=some o)(nl:B.NoLimit)(bi:∃mb,B.Ns QX mb/\∀x:Str,x≠"__name__" ->mb x=Sc x)
  (big:∃a o,2<=a/\B.get? a=some o):(cX s.heap).In B/\Fx (gs w B) gp.tb (cX s.heap)/\CA (gs w B) (cX s.heap):=by
 have KB:(cX s.heap).In B:=λ a o e=>hk a o (yD s.heap a o e)
 have y1:=congrArg (·.1) y
 have y2:yP (cX s.heap)=true:=congrArg (·.2.1) y
 have y3:findCls (cX s.heap) (.type "Exception") (.type "type") "__init__" =some (.val (.builtin "Exception.__init__")):=congrArg (·.2.2.1) y
 unfold yP at y2
 rw[P1,P1,P1,P1] at y2
 obtain⟨⟨⟨⟨c1,c2⟩,c3⟩,c4⟩,c5⟩:=y2
 have fx:Fx (gs w B) gp.tb (cX s.heap):=C6 (g:=gs w B) (T:=gp) (cls:=i6) (fns:=i5) (glob:=oC) (λ zz=>rfl) (λ zz=>rfl) (λ zz=>rfl) KB nl big bi c2 c3 c4
 obtain⟨fd,ek⟩:=wW (g:=gs w B) c1 y3
 refine cg KB fx λ f F hF=> ?_
 obtain⟨Γ,h⟩:=vx y1 hF
 obtain⟨o,Ph,body,ps,fk,hm⟩:=yE (g:=gs w B) KB h
 exact DN Γ o Ph body ps fk λ n hc=>hU (T:=gp) (K:=cX s.heap) (n:=n) (C:=71) (f:=36) (fd:=fd) ⟨⟨fx,hc,λ zz=>rfl,λ zz=>rfl,λ c hc=>(by
  have LO:c<i6.length:=of_decide_eq_true hc
  show(i6[c]?).isSome=true
  refine aa (PI LO) ?_;rfl)⟩,ek,rfl,eq_of_beq c5⟩ F.body Γ _ _ hm
theorem yo:dX.1.name=PF "law" :=by kernel_rfl
theorem zc{w:TD}{s:PM}:St fe w.params s.heap bt [] [] Cu s:=
 ⟨⟨rfl,λ zz zz e=>(by cases e),λ zz zz zz zz e=>(by cases e),λ b q=>q.casesOn λ zz zz e zz zz=>(by cases e),λ b q=>q.casesOn λ zz zz e zz zz=>(by cases e)⟩,λ zz zz e=>e,trivial,λ zz e=>(by cases e),λ zz e=>(by cases e),λ zz e=>e.elim,λ zz e=>e.elim⟩
theorem D2:cj callerA [] 60:=⟨rfl,rfl,rfl,by decide,by decide⟩
theorem yn(H:qd){w:TD}{s₀ s₁:PM}{mg mb:Str->Option PL}{a b:P5}{is:List Int}{xs:List PL}{as:List P5}(y:yf s₀=ya)(L:Laid eU.row.records w s₀ s₁ [ofPy (PyData.list (is.map PyData.int))] [.ref b] as)
  (nl:s₁.heap.NoLimit)(bi:s₁.heap.Ns QX mb/\∀x:Str,x≠"__name__" ->mb x=Sc x)(Tg:s₁.heap.Ns P3 mg)(KC:mg dX.1.name=some (.ref a))(hg:s₁.gens= #[])
  (hL:s₁.heap.IsList b xs.toArray)(hI:W5 xs is)(hlen:is.length<=63){Q E:PL->PM->Prop}
  (hQ:∀s',(∀b o,s₁.heap.get? b=some o->s'.heap.get? b=some o)->s'.os=s₁.os->s'.gens= #[]->Q (.bool true) s'):
  PT (PY P0 w) callerA (PySem.call (.ref a) [.ref b]) Q E s₁:=by
 have hb:=script_obj L hL
 have Gu:2<=b:=by
  have h1:=(script_at L).1
  have h2:s₀.heap.objs.size=899:=congrArg (·.2.2.2.2) y
  refine aa h1 ?_;refine aa h2 ?_;decide
 refine ei (Ek (w:=w) y L.keeps nl ⟨mb,bi⟩ ⟨b,_,Gu,hb⟩) λ KB fx fns=> ?_
 have ea:a=fe.FF 76:=by
  have e:=wB KB Tg (fx.Mm (PF "law") 76 (by rfl))
  rw[yo,e] at KC
  cases KC
  rfl
 subst ea
 have hv:am fe w.params [] (ow bt [] Cu) s₁.heap [.list (is.map .int)] [.ref b]:=by
  exact VC.mk _ _ rfl (ij.mk b xs 0 rfl (λ q=>q.elim id λ q=>q.casesOn λ zz zz e zz zz=>(by cases e)) hb (by refine aa (PG _) ?_;exact PN hlen (by decide)) (am.ints (g:=gs w s₁.heap) hI)) rfl
 refine PW (lu (g:=gs w s₁.heap) fx (yZ fx fns 60) D2 zc hv (H is hlen)) ?_ ?_
 ·rintro v s' ⟨x,φ',M',rfl,st,sp,r⟩
  subst r
  exact hQ s' st.base sp.os (sp.gens.trans hg)
 ·rintro v s' ⟨e,φ',M',_,h,_⟩
  exact h.elim
set_option tactic.hygienic true in
theorem zV(H:qd):uf:=by
 intro w s₀ s₁ mg mb G y a o pm cd doc dV kV ho hd KH hD KC hg args vals as L G8 Lx Ow IR Jj
 have T:=G.T
 have nl:s₁.heap.NoLimit:=T.nolimit
 have bi:s₁.heap.Ns QX mb/\∀x:Str,x≠"__name__" ->mb x=Sc x:=⟨T.b,T.builtins⟩
 have Tg:s₁.heap.Ns P3 mg:=T.g
 clear T
 wrow_args G8 Lx Ow IR Jj
 rename List Int=>is
 rename W5 _ _=>hI
 rename Heap.IsList _ _ _=>hL
 rename¬_<_=>hc
 refine yn H y L nl bi Tg KC hg hL hI (ae 0x241fc0037e89300a72277e001bf01 rfl is.length hc) λ s' hk IV OP=> ?_
 exact fo (.inl ⟨_,_,_,rfl,raisesW_false (by wrow_none_raised),.bool true,by wrow_post,unshared_nil⟩) (OldK.of_keep hk) IV (AllBare.of_eq OP)
theorem yr(H:qd):RY.Holds:=BH (zV H)
end
end Mine
end
namespace Mine
open PySem
theorem dO{α:Type}(a:α)(k:α->Prop):aB (some a) k=k a:=rfl
theorem td(h:vs.length=F.np)(h2:F.np<=F.slots):eQ F vs=some (vs.map some++Qp (F.slots-F.np) none):=by
 unfold eQ
 refine aa (if_pos ⟨ae 0x905244349102 rfl vs.length F.np h,ae 0x90414d148349103 rfl vs.length F.np F.Fv.length h,h2⟩) ?_;refine aa h ?_;refine aa (U1 _) ?_;refine aa (Nat.sub_zero _) ?_;refine aa List.drop_length ?_;refine aa (Qc _) ?_;rfl
theorem Ey(F:Fn)(hf:ak.fn f=some F)(h:vs.length=F.np)(h2:Nat.ble F.np F.slots=true)
  (q:bq ak (ag ak n) F.body (vs.map some++Qp (F.slots-F.np) none) M (λ zz M'=>Q .none M') Q X):ag ak (n+1) f vs M Q X:=by
 rewrite[ee];refine aa hf ?_;refine aa (dO _ _) ?_;refine aa (td h (WM h2)) ?_;exact q
section
variable(a b:Int)(x y:V)(M:AH)(s t:String)(l m:List V)
theorem Di:gv .add (.list l) (.list m)=if l.length+m.length<=ar then some (.list (l++m)) else none:=rfl
theorem D4:kO (.int a) (.int b)=some (a==b):=rfl
end
theorem Da:ak.cls 0=some ⟨[0,1],false,(some 0),[(0,1)]⟩:=rfl
theorem ite_t(h:r=true)(a:A):(r=true->A)/\(r=false->B):=⟨λ zz=>a,λ h2=>(by rw[h] at h2;cases h2)⟩
theorem ite_f(h:r=false)(b:B):(r=true->A)/\(r=false->B):=⟨λ h2=>(by rw[h] at h2;cases h2),λ zz=>b⟩
theorem or_f(h:r=false)(a:A):(r=false->A)/\(r=true->B):=⟨λ zz=>a,λ h2=>(by rw[h] at h2;cases h2)⟩
theorem or_t(h:r=true)(b:B):(r=false->A)/\(r=true->B):=⟨λ h2=>(by rw[h] at h2;cases h2),λ zz=>b⟩
theorem ao{α:Type}[Decidable c]{o:Option α}{K:α->Prop}(h:c)(q:aB o K):aB (if c then o else none) K:=by refine aa (if_pos h) ?_;exact q
theorem ah{α:Type}{o:Option α}{a:α}{K:α->Prop}(h:o=some a)(q:K a):aB o K:=by refine aa h ?_;exact q
noncomputable def bC:Nat->Ss->Ss
 |0,s=>s
 |n+1,.cons _ r=>bC n r
 |_+1,.nil=>.nil
local macro_rules
  | `(tactic| infer_instance) => `(tactic| first | refine ite_t rfl ?_ | refine ite_f rfl ?_ | refine or_f rfl ?_ | refine or_t rfl ?_)
local macro_rules
  | `(tactic| and_intros) => `(tactic| ((conv => whnf); repeat (infer_instance; conv => whnf)))
structure Pu(M M':AH):Prop where
 next:M.next<=M'.next
 same:∀i,i<M.next->M'.m i=M.m i
theorem Pu.refl(M:AH):Pu M M:=⟨PE _,λ zz zz=>rfl⟩
theorem Pu.trans(a:Pu M M1)(b:Pu M1 M2):Pu M M2:=⟨PN a.next b.next,λ i h=>(b.same i (PK h a.next)).trans (a.same i h)⟩
theorem aF(M:AH)(i:Nat)(o:O):(M.set i o).m i=some o:=by simp[AH.set]
theorem be(M:AH)(o:O)(h:j≠i):(M.set i o).m j=M.m j:=by simp[AH.set,h]
theorem cA(M:AH)(h:j≠i):(M.kill i).m j=M.m j:=by simp[AH.kill,h]
theorem bL(M:AH)(o:O):(M.new o).m M.next=some o:=by simp[AH.new]
theorem md(M:AH)(o:O)(h:j≠M.next):(M.new o).m j=M.m j:=by simp[AH.new,h]
noncomputable def fB(i:Int):Int:=if i=0 then 0 else if i>0 then 1 else-1
theorem mK(h:Q (.int (fB i)) M):ag ak (n+1) 2 [.int i] M Q X:=by
 refine Ey pg rfl rfl rfl ?_
 unfold fB at h
 refine⟨λ e=> ?_,λ e=> ?_⟩
 ·rw[beq_iff_eq] at e
  rw[if_pos e] at h
  exact h
 ·rw[beq_eq_false_iff_ne] at e
  rw[if_neg e] at h
  refine⟨λ e2=> ?_,λ e2=> ?_⟩
  ·rw[if_pos (of_decide_eq_true e2)] at h;exact h
  ·rw[if_neg (of_decide_eq_false e2)] at h;exact h
noncomputable def rq(t b:Int):Int:=QN (2*t.natAbs+b.natAbs) (2*b.natAbs)*fB t*fB b
theorem tm(i:Int):(fB i).natAbs<=1:=by unfold fB;split<;>(try split)<;>simp
theorem CI(hb:b≠0)(ht:t.natAbs<2^200)(Gu:b.natAbs<2^200)(h:Q (.int (rq t b)) M):ag ak (n+2) 3 [.int t,.int b] M Q X:=by
 have hm:QN (2*t.natAbs+b.natAbs) (2*b.natAbs)=(((2*t.natAbs+b.natAbs)/(2*b.natAbs):Nat):Int):=by
  refine aa (RJ _ (ae 0x43e238e46010 rfl b)) ?_;push_cast;rfl
 have hs:(2*t.natAbs+b.natAbs)/(2*b.natAbs)<=2*t.natAbs+b.natAbs:=Nat.div_le_self _ _
 unfold rq at h
 have a1:=tm t
 have a2:=tm b
 have hL:cU=2^256:=rfl
 rw[hm] at h
 refine Ey fZ rfl rfl rfl ?_
 refine ao (ae 0x91c2c001fce38e442c001fe20ac807f39110 rfl t ht) ?_
 refine ao (ae 0x91c2c001fce38e442c001fe20ac807f39110 rfl b Gu) ?_
 refine ao (ae 0x92470b0007f38f88e3912601a03e238e442b201fce44980681110 rfl b hb Gu) ?_
 refine aa hm ?_
 generalize (2*t.natAbs+b.natAbs)/(2*b.natAbs)=q at*
 refine mK ?_
 have a3:((q:Int)*fB t).natAbs<=q:=by
  refine aa (Sp _ _) ?_
  calc _<=q*1:=Qm (ae 0x144e39101 rfl q) a1
   _=q:=Xd _
 refine ao (ae 0x92492470b0007f3930b0007f38e44104e48f88e4510613930ac807f3920ac807f39131 rfl q t b (fB t) ht Gu a1 hs) ?_
 refine mK ?_
 refine ao (ae 0x92492491c2c001fce4c2c001fce50144e50104e48f88e4510613930ac807f3920ac807f39141 rfl q t b (fB b) (SH q*fB t) ht Gu a2 hs a3) ?_
 exact h
noncomputable def nd:Int->Nat->Int×Nat
 |t,0=>(t,0)
 |t,p+1=>if QM t 10=0 then nd (QN t 10) p else(t,p+1)
theorem uR(t:Int)(p:Nat):nd t (p+1)=if QM t 10=0 then nd (QN t 10) p else(t,p+1):=rfl
noncomputable def ej(t:Int)(p:Nat):V:=.inst 0 [.int (nd t p).1,.int (nd t p).2]
theorem sH{n:Nat}{i:Nat}{t:Int}{p:Nat}(hM:M.m i=some (.inst 0 []))
  (h:Q .none ((M.set i (.inst 0 [.int (nd t p).1])).set i (.inst 0 [.int (nd t p).1,.int (nd t p).2]))):ag ak (n+1) 0 [.ref i,.int t,.int p] M Q X:=by
 refine Ey gr rfl rfl rfl ?_
 have fin:∀(t:Int) (p:Int),Q V.none ((M.set i (.inst 0 [.int t])).set i (.inst 0 [.int t,.int p]))->bq ak (ag ak n) (bC 1 gr.body) [some (.ref i),some (.int t),some (.int p)] M (λ zz M'=>Q .none M') Q X:=by
  intro t p h
  refine ah hM ?_
  and_intros
  refine ah (aF _ _ _) ?_
  exact h
 refine⟨p+1,?_⟩
 induction p generalizing t with
 |zero=>
  repeat infer_instance
  exact fin _ _ h
 |succ p ih=>
  have e1:decide ((0:Int)<((p+1:Nat):Int))=true:=decide_eq_true (ae 0x14e06146001 rfl p)
  refine ite_t e1 ?_
  refine⟨λ h0=> ?_,λ h0=> ?_⟩
  ·and_intros
   refine aa (show((p+1:Nat):Int)-1=(p:Int) by exact ae 0x63910a138185101 rfl p) ?_
   refine ih ?_
   rw[uR,if_pos (by simpa using h0)] at h
   exact h
  ·rw[uR,if_neg (by simpa using h0)] at h
   exact fin _ _ h
theorem Pu.made{M M2:AH}(o:O)(h1:M2.next=M.next+1)(h2:∀j,j≠M.next->M2.m j=M.m j):Pu M (M2.kill M.next):=
 ⟨by show M.next<=M2.next;exact ae 0x905148306149102 rfl M2.next M.next h1,λ j hj=>by refine aa (cA _ (ae 0x92600d244249102 rfl j M.next hj)) ?_;refine aa (h2 j (ae 0x92600d244249102 rfl j M.next hj)) ?_;rfl⟩
theorem aR{n:Nat}{t:Int}{p:Nat}(h:∀M',Pu M M'->Q (ej t p) M'):cK ak (ag ak (n+1)) 0 [.int t,.int p] M Q X:=by
 unfold cK
 refine aa Da ?_;refine aa (dO _ _) ?_;refine aa (dO _ _) ?_
 refine sH (bL M _) ?_
 refine aa (aF _ _ _) ?_
 refine cg rfl rfl ?_
 exact h _ (Pu.made (.inst 0 []) rfl λ j hj=>by refine aa (be _ _ hj) ?_;refine aa (be _ _ hj) ?_;refine aa (md _ _ hj) ?_;rfl)
theorem fS(h:Q (.tup [a,b]) M):ag ak (n+1) 1 [.inst 0 [a,b]] M Q X:=by
 refine Ey je rfl rfl rfl ?_
 exact h
theorem mQ(h:Q (.inst 0 vs) M):ag ak (n+1) 4 [.inst 0 vs] M Q X:=by
 refine Ey gT rfl rfl rfl ?_;repeat infer_instance
 exact h
theorem oq(h:∀M',Pu M M'->Q (.inst 0 [.int i,.int 0]) M'):ag ak (n+2) 4 [.int i] M Q X:=by
 refine Ey gT rfl rfl rfl ?_;repeat infer_instance
 exact aR (p:=0) h
section
variable(M:AH)(vs:List V)(i:Int)(b:List UInt8)(ks:List String)(s:String)(x y:V)
theorem Ed(t:Ty):fP M .none t=some false:=by cases t<;>rfl
theorem Ec(t:Ty):fP M (.str s) t=some false:=by cases t<;>rfl
theorem Eb(t:Ty):fP M (.tup vs) t=some false:=by cases t<;>rfl
theorem DG(c:Bool)(d:Nat):fP M (.bool c) (.cls d)=some false:=rfl
theorem DD(d:Nat):fP M (.int i) (.cls d)=some false:=rfl
theorem DB(d:Nat):fP M (.list vs) (.cls d)=some false:=rfl
theorem DE(d:Nat):fP M (.dict ks vs) (.cls d)=some false:=rfl
theorem DF(c d:Nat):fP M (.inst c vs) (.cls d)=some (c==d):=rfl
theorem Ei:dg M (.list vs)=some vs:=rfl
theorem bU{i:Int}(h:i.natAbs<2^29):cm i=true:=decide_eq_true h
end
section
variable(x a b c d:V)
end
noncomputable def fj(w h b c:Nat):V:=.inst 9 [.int w,.int h,.int b,.int c]
noncomputable def uE(n:Nat):V:=.inst 4 [.int n,.int 0]
noncomputable def sh(t:Nat):V:=.inst 5 [.ref t,.dict [] []]
section
variable(x v0 v1 v2 v3 v4 v5 v6:V)
end
theorem ui{T:an->AH->(Bool->AH->Prop)->Prop}{B:an->AH->(an->AH->Prop)->Prop}{N:an->AH->Prop}(J:Nat->an->AH->Prop)(m:Nat){M:AH}(h0:J m ρ M)
  (step:∀m ρ M,J m ρ M->∀K:an->AH->Prop,(∀m' ρ' M',m'<m->J m' ρ' M'->K ρ' M')->T ρ M λ b M1=>(b=true->B ρ M1 K)/\(b=false->N ρ M1)):∃n,vH T B n ρ M N:=by
 have key:∀n m ρ M,m<n->J m ρ M->vH T B n ρ M N:=by
  intro n
  induction n with
  |zero=>intro m ρ M h;exact(ae 0x980281101 rfl m h:False).elim
  |succ n ih=>exact λ m ρ M h j=>step m ρ M j _ λ m' ρ' M' h' j'=>ih m' ρ' M' (ae 0x92424930914c206149103 rfl m n m' h h') j'
 exact⟨m+1,key _ m ρ M (ae 0x206145101 rfl m) h0⟩
theorem cD{T:V->an->AH->(an->AH->Prop)->Prop}{N:an->AH->Prop}(J:List V->an->AH->Prop):∀(items:List V) {ρ:an} {M:AH},J items ρ M->(∀ρ M,J [] ρ M->N ρ M)->
  (∀x xs ρ M,J (x::xs) ρ M->∀K:an->AH->Prop,(∀ρ' M',J xs ρ' M'->K ρ' M')->T x ρ M K)->u4 T items ρ M N:=by
 intro items
 induction items with
 |nil=>
  intro y1 y2 h hN y3
  exact hN _ _ h
 |cons x xs ih=>
  intro y4 y5 h hN step
  exact step x xs _ _ h _ λ zz zz j=>ih j hN step
theorem cT{T:V->AH->(List V->AH->Prop)->Prop}{Q:List V->AH->Prop}(J:List V->List V->AH->Prop):∀(items:List V) {acc:List V} {M:AH},J items acc M->(∀acc M,J [] acc M->Q acc M)->
  (∀x xs acc M,J (x::xs) acc M->∀K:List V->AH->Prop,(∀r M',(acc++r).length<=ar->J xs (acc++r) M'->K r M')->T x M K)->bP T items acc M Q:=by
 intro items
 induction items with
 |nil=>
  intro y1 y2 h hN y3
  exact hN _ _ h
 |cons x xs ih=>
  intro y4 y5 h hN step
  exact step x xs _ _ h _ λ zz zz hl j=>⟨hl,ih j hN step⟩
theorem rb{T:V->AH->(List V->AH->Prop)->Prop}{Q:List V->AH->Prop}{f:V->V}{items:List V}{M:AH}(hl:items.length<=ar)
  (ht:∀x∈items,∀M',Pu M M'->∀K:List V->AH->Prop,(∀M2,Pu M M2->K [f x] M2)->T x M' K)(hQ:∀M',Pu M M'->Q (items.map f) M'):bP T items [] M Q:=by
 refine cT (λ rest acc M'=>∃done,items=done++rest/\acc=done.map f/\Pu M M') items ⟨[],rfl,rfl,.refl _⟩ (λ acc M' j=> ?_) λ x xs acc M' j K hK=> ?_
 ·refine bz j λ done e EN p=> ?_;clear j;subst EN
  rw[Qc] at e;subst e
  exact hQ _ p
 ·refine bz j λ done e EN p=> ?_;clear j;subst EN
  refine ht x (by refine aa e ?_;simp) M' p K λ M2 p2=>hK _ _ ?_ ⟨done++[x],by refine aa e ?_;simp,by simp,p2⟩
  have:items.length=done.length+(xs.length+1):=by refine aa e ?_;simp
  simp;exact ae 0x249070d40a67e0c29060830a69220e1a814cfd103 rfl items.length done.length xs.length hl this
inductive br:V->Int->Nat->Prop
 |int (i:Int):br (.int i) i 0
 |dec (t:Int) (p:Nat):br (.inst 0 [.int t,.int p]) t p
theorem eG(hv:br v t p)(h:∀M',Pu M M'->Q (.inst 0 [.int t,.int p]) M'):ag ak (n+2) 4 [v] M Q X:=by
 cases hv with
 |int=>exact oq h
 |dec=>exact mQ (h _ (.refl _))
theorem dk(k:Nat):((10:Int)^k)=((10^k:Nat):Int):=by push_cast;rfl
theorem kh(h:k<=m):10^k<=10^m:=T9 (by decide) h
theorem th(h:k<=20):((10:Int)^k).natAbs<=10^20:=by refine aa (dk _) ?_;refine aa (Ql _) ?_;exact kh h
theorem kX(h:k<=20):((10:Int)^k).natAbs<cU:=Nat.lt_of_le_of_lt (th h) (by decide)
theorem qw(hv:br v t1 p1)(hu:br u t2 p2)(b1:t1.natAbs<cU)(b2:t2.natAbs<cU)(q1:p1<=20)(q2:p2<=20)
  (h:∀M',Pu M M'->Q (.tup [.int (t1*10^(max p1 p2-p1)),.int (t2*10^(max p1 p2-p2)),.int (max p1 p2:Nat)]) M'):ag ak (n+3) 5 [v,u] M Q X:=by
 refine Ey ja rfl rfl rfl ?_
 refine eG hv λ M1 k1=> ?_
 refine eG hu λ M2 k2=> ?_
 have Lu:(if(p1:Int)<(p2:Int) then(p2:Int) else(p1:Int))=((max p1 p2:Nat):Int):=by
  split<;>(first|(rename_i z0;exact ae 0x918e0d244e48539239102 rfl p1 p2 z0)|(rename_i z0;exact ae 0x918e0d244e44980539239102 rfl p1 p2 z0))
 have e1:(((max p1 p2:Nat):Int)-(p1:Int)).toNat=max p1 p2-p1:=ae 0xc244349134239138349102 rfl p1 p2
 have e2:(((max p1 p2:Nat):Int)-(p2:Int)).toNat=max p1 p2-p2:=ae 0xc248349134239238349102 rfl p1 p2
 and_intros
 refine aa Lu ?_
 refine ao ⟨by decide,by decide,ae 0x408e44e0d246002 rfl p1 p2,ae 0x9120607f08e48e0d1481d1102 rfl p2 p1 q2⟩ ?_
 refine aa e1 ?_
 refine ao ⟨b1,kX (ae 0x90740920d1481d1102 rfl p2 p1 q2)⟩ ?_
 refine ao ⟨by decide,by decide,ae 0x408e48e0d246002 rfl p1 p2,ae 0x9120607f08e48e0d2441d1102 rfl p1 p2 q1⟩ ?_
 refine aa e2 ?_
 refine ao ⟨b2,kX (ae 0x90740920d2441d1102 rfl p1 p2 q1)⟩ ?_
 exact h _ (k1.trans k2)
noncomputable def b8(a b:Int)(pl:Nat):Int:=if a<0 then-(QN (2*a.natAbs*10^pl+b) (2*b)) else QN (2*a.natAbs*10^pl+b) (2*b)
theorem dW(a b:Nat):QN (a:Int) (b:Int)=((a/b:Nat):Int):=by
 refine aa (RJ _ (ae 0x10e46001 rfl b)) ?_;rfl
theorem me(a:Int)(b:Nat)(pl:Nat):QN (2*a.natAbs*10^pl+(b:Int)) (2*(b:Int))=(((2*a.natAbs*10^pl+b)/(2*b):Nat):Int):=by
 refine aE (dW _ _) ?_;push_cast;rfl
theorem Ai(a:Int)(hb:0<b)(pl:Nat):rq (a*10^pl) b=b8 a b pl:=by
 obtain⟨b,rfl⟩:=QZ (Ro hb)
 unfold rq b8
 refine aa (me _ _ _) ?_
 have e:((a*10^pl).natAbs)=a.natAbs*10^pl:=by rewrite[Sp,dk,Ql];rfl
 have e2:QN (2*((a*10^pl).natAbs:Int)+((b:Int).natAbs:Int)) (2*((b:Int).natAbs:Int))=(((2*a.natAbs*10^pl+b)/(2*b):Nat):Int):=by
  rewrite[<-dW,e,Ql];push_cast;refine aa (UH _ _ _) ?_;rfl
 refine aa e2 ?_
 have hs:fB (b:Int)=1:=by unfold fB;refine aa (if_neg (ae 0x92601a039114e46001 rfl b hb)) ?_;refine aa (if_pos (ae 0x914e46014e46001 rfl b hb)) ?_;rfl
 refine aa hs ?_;refine aa (SU _) ?_
 have hp:0<(10:Int)^pl:=by refine aa (dk _) ?_;have:=Sm (a:=10) (n:=pl) (by decide);exact ae 0x24539180246001 rfl (10^pl) this
 rcases Int.lt_trichotomy a 0 with h|h|h
 ·have:fB (a*10^pl)= -1:=by
   have h1:a*10^pl<0:=Int.mul_neg_of_neg_of_pos h hp
   unfold fB;refine aa (if_neg (ae 0x92601a044581110 rfl (a*10^pl) h1)) ?_;refine aa (if_neg (ae 0x926015180581110 rfl (a*10^pl) h1)) ?_;rfl
  refine aa this ?_;refine aa (if_pos h) ?_;omega
 ·subst h
  have:fB (0*10^pl)=0:=by unfold fB;simp
  refine aa this ?_
  have:(2*Int.natAbs 0*10^pl+b)/(2*b)=0:=by
   simp;exact ae 0x808f89144380f89101 rfl b
  refine aa this ?_;simp
 ·have:fB (a*10^pl)=1:=by
   have h1:0<a*10^pl:=Int.mul_pos h hp
   unfold fB;refine aa (if_neg (ae 0x92601a044546010 rfl (a*10^pl) h1)) ?_;refine aa (if_pos (ae 0x915180546010 rfl (a*10^pl) h1)) ?_;rfl
  refine aa this ?_;refine aa (if_neg (ae 0x926016044546010 rfl a h)) ?_;exact ae 0x639142139101 rfl ((2*a.natAbs*10^pl+b)/(2*b))
theorem qX(hk:0<k)(a:Int)(hb:0<b)(pl:Nat):b8 (k*a) (k*b) pl=b8 a b pl:=by
 obtain⟨b,rfl⟩:=QZ (Ro hb)
 obtain⟨k,rfl⟩:=QZ (Ro hk)
 unfold b8
 refine aa (show(k:Int)*(b:Int)=((k*b:Nat):Int) by push_cast;rfl) ?_;refine aa (me _ _ _) ?_;refine aa (me _ _ _) ?_
 have e:(2*((k:Int)*a).natAbs*10^pl+k*b)/(2*(k*b))=(2*a.natAbs*10^pl+b)/(2*b):=by
  refine aa (Sp _ _) ?_;refine aa (Ql _) ?_;refine aa (show 2*(k*a.natAbs)*10^pl+k*b=k*(2*a.natAbs*10^pl+b) by refine aa (Uk _ _ _) ?_;ac_rfl) ?_;refine aa (show 2*(k*b)=k*(2*b) by ac_rfl) ?_
  exact Nat.mul_div_mul_left _ _ (ae 0x24246014e46001 rfl k hk)
 refine aa e ?_
 have:(k:Int)*a<0 ↔ a<0:=by
  constructor
  ·intro h
   rcases Int.lt_or_le a 0 with q|q
   ·exact q
   ·have:=V5 (Ro hk) q;exact ae 0x924581211180581120 rfl (SH k*a) a h this
  ·intro h;exact Int.mul_neg_of_pos_of_neg hk h
 simp only [this]
theorem Ac{n:Nat}{a b:Int}{pl:Nat}(ha:a.natAbs<2^100)(hb:0<b)(Gu:b<2^100)(hp:pl<=9)
  (h:∀M',Pu M M'->Q (ej (b8 a b pl) pl) M'):ag ak (n+4) 6 [.int a,.int b,.int pl] M Q X:=by
 refine Ey wn rfl rfl rfl ?_
 have hL:cU=2^256:=rfl
 refine qw (.int a) (.int b) (ae 0x90b0007f3910a6407f39110 rfl a ha) (ae 0x2490b0007f391166407f44546010 rfl b hb Gu) (by decide) (by decide) λ M1 k1=> ?_
 simp only [Nat.max_self,U1,U5,SU]
 have hz:(b==0)=false:=by simpa using(show b≠0 by exact ae 0x92601a044546010 rfl b hb)
 have I7:=th (k:=pl) (ae 0x9074441a5101 rfl pl hp)
 have H0:((10:Int)^pl).natAbs<=10^9:=by refine aa (dk _) ?_;refine aa (Ql _) ?_;exact kh hp
 have hm:(a*10^pl).natAbs<2^200:=by
  refine aa (Sp _ _) ?_
  calc _<=2^100*10^9:=Qm (ae 0x9066407f3910a6407f39110 rfl a ha) H0
   _<_:=by decide
 refine ite_f hz ?_
 refine ao ⟨by decide,by decide,ae 0x10e46001 rfl pl,ae 0x2448181fce441a5101 rfl pl hp⟩ ?_
 refine aa (PH _) ?_
 refine ao ⟨ae 0x90b0007f3910a6407f39110 rfl a ha,kX (ae 0x9074441a5101 rfl pl hp)⟩ ?_
 refine CI (ae 0x92601a044546010 rfl b hb) hm (ae 0x2490ac807f391166407f44546010 rfl b hb Gu) ?_
 refine aa ((Ai _ hb) _) ?_
 exact aR λ M2 k2=>h _ (k1.trans k2)
theorem Be(h:Q (.int (Vx a.natAbs b.natAbs)) M):ag ak (n+1) 7 [.int a,.int b] M Q X:=by
 refine Ey gU rfl rfl rfl ?_;and_intros
 generalize a.natAbs=x at*
 generalize hy:b.natAbs=y at*
 clear hy
 refine ui (λ m ρ M'=>M'=M/\∃x:Nat,ρ=[some (.int a),some (.int b),some (.int x),some (.int m)]/\Q (.int (Vx x m)) M) y ⟨rfl,x,rfl,h⟩ ?_
 rintro y ρ M' ⟨rfl,x,rfl,h⟩ K hK
 refine⟨λ h0=> ?_,λ h0=> ?_⟩
 ·have h0:0<y:=by simpa using h0
  refine ao (ae 0x24980680e44246001 rfl y h0) ?_
  and_intros
  refine aa (show QM (x:Int) (y:Int)=((x % y:Nat):Int) by refine aa (S2 _ (ae 0x10e46001 rfl y)) ?_;rfl) ?_
  refine hK (x % y) _ _ (XE x h0) ⟨rfl,y,rfl,?_⟩
  refine aa ((Nat.gcd_comm y) _) ?_;refine aE (Nat.gcd_rec _ _) ?_;refine aa (Nat.gcd_comm _ _) ?_
  exact h
 ·have:y=0:=by simpa using h0
  subst this
  rw[Nat.gcd_zero_right] at h
  exact h
theorem kZ:(1:Int)*2^b-1=((2^b-1:Nat):Int):=by
 have:=Sm (a:=2) (n:=b) (by decide)
 have e:((2:Int)^b)=((2^b:Nat):Int):=by push_cast;rfl
 refine aa e ?_;exact ae 0x918e0a144284f84e44246001 rfl (2^b) this
theorem ch(h:b<=m):2^b<=2^m:=T9 (by decide) h
noncomputable def dA(s b:Nat)(t1 t2:Int)(p1 p2:Nat):Int:=t1*10^(max p1 p2-p1)*(((2^b-1:Nat):Int)-s)+t2*10^(max p1 p2-p2)*s
noncomputable def dB(b p1 p2:Nat):Nat:=(2^b-1)*10^max p1 p2
theorem dq{a b:Int}{x y:Nat}(h:a.natAbs<=x)(h2:b.natAbs<=y):(a*b).natAbs<=x*y:=by
 refine aa (Sp _ _) ?_;exact Qm h h2
theorem i7(h:k<=m):((10:Int)^k).natAbs<=10^m:=by refine aa (dk _) ?_;refine aa (Ql _) ?_;exact kh h
theorem w7{s b:Nat}{t1 t2:Int}{p1 p2:Nat}(hb:b<=16)(hs:s<=2^b-1)(b1:t1.natAbs<2^40)(b2:t2.natAbs<2^40)(q1:p1<=4)(q2:p2<=4):(dA s b t1 t2 p1 p2).natAbs<2^90:=by
 have FO:2^b<=2^16:=ch hb
 unfold dA
 have h1:(t1*10^(max p1 p2-p1)*(((2^b-1:Nat):Int)-s)).natAbs<=2^40*10^4*2^16:=dq (dq (ae 0x9062807f3910a2807f39110 rfl t1 b1) (i7 (ae 0x90640920d148191102 rfl p2 p1 q2))) (ae 0x249061007f382391382852061007f4810a149102 rfl s (2^b) hs FO)
 have h2:(t2*10^(max p1 p2-p2)*(s:Int)).natAbs<=2^40*10^4*2^16:=dq (dq (ae 0x9062807f3910a2807f39110 rfl t2 b2) (i7 (ae 0x90640920d244191102 rfl p1 p2 q1))) (ae 0x92418401fce391061007f4810a149102 rfl s (2^b) hs FO)
 exact ae 0x92429681fce0524419c47857e7240ce23c2bf39120 rfl (t1*Rg 10^(max p1 p2-p1)*(SH (Rg 2^b-Rg 1)-SH s)) (t2*Rg 10^(max p1 p2-p2)*SH s) h1 h2
theorem rJ(hb:1<=b):0<dB b p1 p2:=by
 unfold dB
 have:2^1<=2^b:=ch hb
 exact VA (ae 0x908285180146201 rfl (2^b) this) (Sm (by decide))
theorem zK(hb:b<=16)(q1:p1<=4)(q2:p2<=4):dB b p1 p2<2^90:=by
 unfold dB
 have FO:2^b<=2^16:=ch hb
 have I7:10^max p1 p2<=10^4:=kh (ae 0x924190349106448191102 rfl p1 p2 q1 q2)
 calc _<=2^16*10^4:=Qm (ae 0x9061007f0a14418401fd101 rfl (2^b) FO) I7
  _<_:=by decide
theorem lY{n:Nat}{s b:Nat}{t1 t2:Int}{p1 p2:Nat}(EZ:1<=b)(hb:b<=16)(hs:s<=2^b-1)(hv:br v t1 p1)(hu:br u t2 p2)(b1:t1.natAbs<2^40)(b2:t2.natAbs<2^40)(q1:p1<=4)(q2:p2<=4)
  (h:∀M' (x y k:Int),Pu M M'->0<k->dA s b t1 t2 p1 p2=k*x->(dB b p1 p2:Int)=k*y->Q (.tup [.int x,.int y]) M'):ag ak (n+4) 42 [.int s,.int b,v,u] M Q X:=by
 refine Ey ir rfl rfl rfl ?_
 have hL:cU=2^256:=rfl
 refine qw hv hu (ae 0x90b0007f3910a2807f39110 rfl t1 b1) (ae 0x90b0007f3910a2807f39110 rfl t2 b2) (ae 0x907444191101 rfl p1 q1) (ae 0x907444191101 rfl p2 q2) λ M1 k1=> ?_
 refine ao ⟨by decide,ae 0x10e46001 rfl b,ae 0x2448181fce441c1101 rfl b hb⟩ ?_
 and_intros
 refine aa (PH _) ?_;refine aa kZ ?_
 have FO:2^b<=2^16:=ch hb
 have hp:2^1<=2^b:=ch EZ
 have m1:=dq (a:=t1) (b:=10^(max p1 p2-p1)) (x:=2^40) (y:=10^4) (ae 0x9062807f3910a2807f39110 rfl t1 b1) (i7 (ae 0x90640920d148191102 rfl p2 p1 q2))
 have m2:=dq (a:=t2) (b:=10^(max p1 p2-p2)) (x:=2^40) (y:=10^4) (ae 0x9062807f3910a2807f39110 rfl t2 b2) (i7 (ae 0x90640920d244191102 rfl p1 p2 q1))
 refine ao ⟨ae 0x1216000fe7220ce22c2bf39110 rfl (t1*10^(max p1 p2-p1)) m1,ae 0x2490b0007f382391382852061007f4810a149102 rfl s (2^b) hs FO⟩ ?_
 refine ao ⟨ae 0x1216000fe7220ce22c2bf39110 rfl (t2*10^(max p1 p2-p2)) m2,ae 0x9242c001fce391061007f4810a149102 rfl s (2^b) hs FO⟩ ?_
 refine ao ⟨by decide,by decide,ae 0x10e0d246002 rfl p1 p2,ae 0x249120607f38349106448191102 rfl p1 p2 q1 q2⟩ ?_
 and_intros
 refine aa (PH _) ?_
 refine ao ⟨ae 0x90b0007f38e0a14418401fd101 rfl (2^b) FO,kX (ae 0x9241d0349106448191102 rfl p1 p2 q1 q2)⟩ ?_
 refine aa (show((2^b-1:Nat):Int)*10^max p1 p2=(dB b p1 p2:Int) by unfold dB;push_cast;rfl) ?_
 refine aa (show t1*10^(max p1 p2-p1)*(((2^b-1:Nat):Int)-(s:Int))+t2*10^(max p1 p2-p2)*(s:Int)=dA s b t1 t2 p1 p2 from rfl) ?_
 have hA:=w7 (t1:=t1) (t2:=t2) hb hs b1 b2 q1 q2
 have hB:=zK (b:=b) hb q1 q2
 have KP:=rJ (p1:=p1) (p2:=p2) EZ
 refine Be ?_
 refine aa (Ql _) ?_
 generalize dA s b t1 t2 p1 p2=A at*
 generalize dB b p1 p2=B at*
 have g0:0<Vx A.natAbs B:=Nat.gcd_pos_of_pos_right _ KP
 have gB:Vx A.natAbs B<=B:=Nat.gcd_le_right _ KP
 refine ao ⟨ae 0x24980680e44246001 rfl (A.natAbs.gcd B) g0,ae 0x9242c001fce3920514829681fd102 rfl B (A.natAbs.gcd B) hB gB⟩ ?_
 refine ao ⟨ae 0x24980680e44246001 rfl (A.natAbs.gcd B) g0,ae 0x9242c001fce3920514829681fd102 rfl B (A.natAbs.gcd B) hB gB⟩ ?_
 refine h _ _ _ (Vx A.natAbs B:Int) k1 (ae 0x24539180246001 rfl (A.natAbs.gcd B) g0) ?_ ?_
 ·have hd:((Vx A.natAbs B:Nat):Int)∣ A:=Int.ofNat_dvd_left.mpr (Nat.gcd_dvd_left _ _)
  refine aa (RJ _ (ae 0x10e46001 rfl (A.natAbs.gcd B))) ?_
  exact(W3 hd).symm
 ·have hd:((Vx A.natAbs B:Nat):Int)∣(B:Int):=Int.ofNat_dvd.mpr (Nat.gcd_dvd_right _ _)
  refine aa (RJ _ (ae 0x10e46001 rfl (A.natAbs.gcd B))) ?_
  exact(W3 hd).symm
theorem pz{A k x:Int}(hk:0<k)(e:A=k*x):x.natAbs<=A.natAbs:=by
 refine aa e ?_;refine aa (Sp _ _) ?_;exact Nat.le_mul_of_pos_left _ (ae 0x24239180546010 rfl k hk)
theorem lB{n:Nat}{s b pl:Nat}{t1 t2:Int}{p1 p2:Nat}(EZ:1<=b)(hb:b<=16)(hs:s<=2^b-1)(hv:br v t1 p1)(hu:br u t2 p2)(b1:t1.natAbs<2^40)(b2:t2.natAbs<2^40)(q1:p1<=4)(q2:p2<=4)(hp:pl<=9)
  (h:∀M',Pu M M'->Q (ej (b8 (dA s b t1 t2 p1 p2) (dB b p1 p2) pl) pl) M'):ag ak (n+5) 43 [.int s,.int b,v,u,.int pl] M Q X:=by
 refine Ey gS rfl rfl rfl ?_
 refine lY EZ hb hs hv hu b1 b2 q1 q2 λ M1 x y k k1 hk e1 e2=> ?_
 have hA:=w7 (t1:=t1) (t2:=t2) hb hs b1 b2 q1 q2
 have hB:=zK (b:=b) hb q1 q2
 have KP:=rJ (p1:=p1) (p2:=p2) EZ
 have hx:=pz hk e1
 have hy:=pz hk e2
 have MU:0<y:=by
  rcases Int.lt_or_le 0 y with q|q
  ·exact q
  ·have:=Int.mul_nonpos_of_nonneg_of_nonpos (Ro hk) q;exact ae 0x2492454a012044246019139121 rfl (dB b p1 p2) (k*y) y e2 KP this
 rw[Ql] at hy
 refine Ac (ae 0x92429901fce4813913920a5a07f39120 rfl (dA s b t1 t2 p1 p2) x hA hx) MU (ae 0x249166407f44144e4429681fd111 rfl (dB b p1 p2) y hB hy) hp λ M2 k2=> ?_
 have:=h M2 (k1.trans k2)
 rw[e1,e2,qX hk _ MU] at this
 exact this
theorem lU{n:Nat}{s b pl:Nat}{t1 t2:Int}{p1 p2:Nat}(EZ:1<=b)(hb:b<=16)(hs:s<=2^b-1)(hv:br v t1 p1)(hu:br u t2 p2)(b1:t1.natAbs<2^40)(b2:t2.natAbs<2^40)(q1:p1<=4)(q2:p2<=4)(hp:pl<=9)
  (h:∀M',Pu M M'->Q (.list [ej (b8 (dA s b t1 t2 p1 p2) (dB b p1 p2) pl) pl]) M'):ag ak (n+6) 45 [.tup [.int s],.int b,.list [.tup [v,u]],.int pl] M Q X:=by
 refine Ey io rfl rfl rfl ?_;repeat infer_instance
 refine lB EZ hb hs hv hu b1 b2 q1 q2 hp λ M2 k2=> ?_
 exact⟨show 1<=ar by decide,h _ k2⟩
structure gk(h:Nat)(M M':AH):Prop where
 next:M.next<=M'.next
 same:∀i,i<M.next->i≠h->M'.m i=M.m i
theorem gk.refl(h:Nat)(M:AH):gk h M M:=⟨PE _,λ zz zz zz=>rfl⟩
theorem gk.trans(a:gk h M M1)(b:gk h M1 M2):gk h M M2:=⟨PN a.next b.next,λ i x y=>(b.same i (PK x a.next) y).trans (a.same i x y)⟩
theorem gk.set(M:AH)(h:Nat)(o:O):gk h M (M.set h o):=⟨PE _,λ i zz y=>be _ _ y⟩
theorem gk.pu(a:gk h M M')(p:Pu M0 M)(hh:M0.next<=h):Pu M0 M':=⟨PN p.next a.next,λ i x=>(a.same i (PK x p.next) (ae 0x92498034930914c149103 rfl M0.next h i hh x)).trans (p.same i x)⟩
theorem yU(h:M.m i=some (.inst c vs))(a:Nat):nQ ak M a (.ref i)=(gM ak c a).bind λ k=>vs[k]? :=by
 unfold nQ kK;simp only [h];rfl
theorem yj(h:M.m i=some (.inst c vs))(a:Nat):nA ak M a (.ref i)=(ak.cls c).bind λ cl=>cl.meths.lookup a:=by
 unfold nA kK;simp only [h];rfl
theorem b9(h:M.m i=some (.inst c vs))(e:((gM ak c a).bind λ k=>vs[k]?)=some x):nQ ak M a (.ref i)=some x:=(yU h a).trans e
theorem tJ(h:M.m i=some (.inst c vs))(e:((ak.cls c).bind λ cl=>cl.meths.lookup a)=some x):nA ak M a (.ref i)=some x:=(yj h a).trans e
theorem xF{B:List UInt8}{a:Nat}{y:UInt8}(h:B[a]? =some y):eh M (.bytes B) (.int (a:Int))=some (.int (y.toNat:Int)):=by
 show(if 0<=(a:Int) then(match B[a]? with|some x=>some (V.int x.toNat)|none=>none) else none)=_
 refine aa (if_pos (Sa a)) ?_;refine aa h ?_;rfl
noncomputable def bv(B:List UInt8):Nat:=B.foldl (λ n x=>n*256+x.toNat) 0
theorem t7{B:List UInt8}{a:Nat}{x:UInt8}(h:B[a]? =some x):bv (B.take (a+1))=bv (B.take a)*256+x.toNat:=by
 unfold bv
 refine aa Q0 ?_;refine aa h ?_;refine aa UO ?_;rfl
theorem De{B:List UInt8}(a:Nat)(h:a<=B.length):bv (B.take a)=bv B/2^(8*(B.length-a)):=by
 have key:∀k,k<=B.length->bv (B.take (B.length-k))=bv B/2^(8*k):=by
  intro k
  induction k with
  |zero=>intro _;simp
  |succ k ih=>
   intro hk
   have h1:=ih (ae 0x905244148185102 rfl k B.length hk)
   have hx:B[B.length-(k+1)]? =some (B[B.length-(k+1)]'(ae 0x909208185148148185102 rfl k B.length hk)):=PI _
   have h2:=t7 hx
   rw[show B.length-(k+1)+1=B.length-k by exact ae 0x90c245206108185148148185102 rfl k B.length hk] at h2
   refine aa (show 8*(k+1)=8*k+8 by exact ae 0x30683e844fa0185101 rfl k) ?_;refine aa (RQ _ _ _) ?_;refine aE (Q8 _ _ _) ?_;refine aE h1 ?_;refine aa h2 ?_
   have:=(B[B.length-(k+1)]'(ae 0x909208185148148185102 rfl k B.length hk)).toNat_lt
   exact ae 0x4921a498e083fe0023f3e0807f4814508201fd30414508201fd33e0807f4828201fd103 rfl (B[B.length-(k+1)].toNat) ((bv (TH (B.length-(k+1)) B)*256+B[B.length-(k+1)].toNat)/2^8) (bv (TH (B.length-(k+1)) B)) this (lO _ 255)
 have:=key (B.length-a) (ae 0x144249102 rfl B.length a)
 rwa [show B.length-(B.length-a)=a by exact ae 0x90d108245248149102 rfl a B.length h] at this
def HB(h:Nat)(B:List UInt8)(k:Nat)(M:AH):Prop:=∃a c:Nat,M.m h=some (.inst 8 [.bytes B,.int a,.int ((bv (B.take a) % 2^c:Nat):Int),.int c])/\a<=B.length/\8*a=k+c/\c<8
theorem sC{n:Nat}{v c:Nat}(hc:c<=64)(h:Q (.int ((v % 2^c:Nat):Int)) M):ag ak (n+1) 31 [.int v,.int c] M Q X:=by
 refine Ey m6 rfl rfl rfl ?_
 refine ao ⟨by decide,ae 0x10e46001 rfl c,ae 0x2448181fce4418181fd101 rfl c hc⟩ ?_
 and_intros
 refine aa (PH _) ?_;refine aa kZ ?_
 and_intros
 refine aa (PH _) ?_;refine aa (PH _) ?_;refine aa (Nat.and_two_pow_sub_one_eq_mod _ _) ?_
 exact h
theorem Ae{n:Nat}{h:Nat}{B:List UInt8}{a c:Nat}(hM:M.m h=some (.inst 8 [.bytes B,.int a,x,.int c]))(ha:a<=B.length)(hB:B.length<=1000)
  (q:Q (.int ((c+8*(B.length-a):Nat):Int)) M):ag ak (n+1) 33 [.ref h] M Q X:=by
 refine Ey gz rfl rfl rfl ?_
 refine ah (b9 hM rfl) ?_
 refine ah (b9 hM rfl) ?_
 and_intros
 refine ah (b9 hM rfl) ?_
 have hL:cU=2^256:=rfl
 refine ao ⟨by decide,ae 0x9242c001fce08e44e481fa031ff48149102 rfl a B.length ha hB⟩ ?_
 and_intros
 refine aa (show(c:Int)+8*((B.length:Int)-(a:Int))=((c+8*(B.length-a):Nat):Int) by exact ae 0x918e04fa024524c13e808e44e48e4c149103 rfl a B.length c ha) ?_
 exact q
theorem Aa{n:Nat}{h:Nat}{B:List UInt8}{k b:Nat}(hM:HB h B k M)(EZ:1<=b)(hb:b<=16)(hB:B.length<=1000)(hk:k+b<=8*B.length)
  (q:∀M',HB h B (k+b) M'->gk h M M'->Q (.int ((bv B/2^(8*B.length-(k+b)) % 2^b:Nat):Int)) M'):ag ak (n+2) 34 [.ref h,.int b] M Q X:=by
 rename type_of% hM=>oqe;refine oR oqe λ a c hM ha I4 hc=> ?_;clear oqe
 refine Ey gy rfl rfl rfl ?_
 refine ah (tJ hM rfl) ?_
 refine Ae hM ha hB ?_
 refine ite_f (decide_eq_false (ae 0x92498053923813e80944d50c15513e85013e84c149105 rfl k b B.length a c hk I4)) ?_
 refine ui (λ m ρ M'=>∃a c:Nat,ρ=[some (.ref h),some (.int b),none]/\M'.m h=some (.inst 8 [.bytes B,.int a,.int ((bv (B.take a) % 2^c:Nat):Int),.int c])/\a<=B.length/\8*a=k+c/\c<b+8/\m=24-c/\gk h M M') (24-c)
  ⟨a,c,rfl,hM,ha,I4,ae 0x9081a12442a1102 rfl c b hc,rfl,.refl _ _⟩ ?_
 rintro m ρ M1 ⟨a,c,rfl,hM,ha,I4,hc,rfl,f1⟩ K hK
 have EO:bv (B.take a) % 2^c<2^c:=XE _ (Sm (by decide))
 have O8:2^c<=2^24:=ch (ae 0x9241e12081a11481c1102 rfl b c hb hc)
 refine ah (b9 hM rfl) ?_
 refine⟨λ h0=> ?_,λ h0=> ?_⟩
 ·have h0:c<b:=by have:=of_decide_eq_true h0;exact ae 0x909244539239102 rfl c b (of_decide_eq_true h0:)
  have OX:a<B.length:=by(rename_i z0;exact ae 0x92490935053923950c15513e85013e84c149105 rfl k b B.length a c hk I4 (of_decide_eq_true z0:))
  have hx:B[a]? =some B[a]:=PI _
  have MV:=(B[a]).toNat_lt
  refine ah (b9 hM rfl) ?_
  refine ao ⟨ae 0x92429001fce391061807f48249102 rfl (bv (TH a B) % 2^c) (2^c) EO O8,by decide,by decide⟩ ?_
  and_intros
  refine ah (b9 hM rfl) ?_
  refine ah (b9 hM rfl) ?_
  refine ah (xF hx) ?_
  and_intros
  refine ah hM ?_
  and_intros
  refine ah (b9 (aF _ _ _) rfl) ?_
  refine ah (aF _ _ _) ?_
  and_intros
  refine ah (b9 (aF _ _ _) rfl) ?_
  and_intros
  refine ah (aF _ _ _) ?_
  refine hK (24-(c+8)) _ _ (by(rename_i z0;exact ae 0x9242092e020684b814e44e481c1102 rfl b c hb (of_decide_eq_true z0:))) ⟨a+1,c+8,rfl,?_,ae 0x905206144249102 rfl a B.length OX,ae 0x90c10684d23e806144305348fa1103 rfl a k c I4,by(rename_i z0;exact ae 0x9081a1206844539239102 rfl c b (of_decide_eq_true z0:)),rfl,?_⟩
  ·refine aa (aF _ _ _) ?_;refine aa (t7 hx) ?_
   have e1:((bv (B.take a) % 2^c:Nat):Int)*2^8=((bv (B.take a) % 2^c*2^8:Nat):Int):=by push_cast;rfl
   have e2:(bv (B.take a) % 2^c*2^8|||(B[a]).toNat)=(bv (B.take a)*256+(B[a]).toNat) % 2^(c+8):=by
    refine aa (RA _ _) ?_;refine aE ((Nat.two_pow_add_eq_or_of_lt (ae 0x90a0807f4428201fd101 rfl (B[a].toNat) MV)) _) ?_;refine aa (RQ _ _ _) ?_;refine aa ((RA (2^c)) _) ?_;refine aa Nat.mod_mul ?_;refine aa (show(bv (B.take a)*256+(B[a]).toNat)/2^8=bv (B.take a) by exact ae 0x4921a690e083fe0023f3e0807f4814508201fd30414508201fd33e0807f4828201fd103 rfl (B[a].toNat) ((bv (TH a B)*256+B[a].toNat)/2^8) (bv (TH a B)) MV (lO _ 255)) ?_
    lia
   refine aE e2 ?_
   show some (O.inst 8 [.bytes B,.int ((a:Int)+1),.int (((((bv (B.take a) % 2^c:Nat):Int)*2^8).toNat|||((B[a].toNat:Nat):Int).toNat:Nat):Int),.int ((c:Int)+8)])=_
   refine aa e1 ?_;refine aa (PH _) ?_;refine aa (PH _) ?_
   push_cast
   rfl
  ·exact((f1.trans (.set _ _ _)).trans (.set _ _ _)).trans (.set _ _ _)
 ·have h0:b<=c:=by have:=of_decide_eq_false h0;exact ae 0x905148980539239102 rfl c b (of_decide_eq_false h0:)
  refine ah (b9 hM rfl) ?_
  and_intros
  refine ah hM ?_
  and_intros
  refine ah (b9 (aF _ _ _) rfl) ?_
  refine ah (b9 (aF _ _ _) rfl) ?_
  refine aa (show(c:Int)-(b:Int)=((c-b:Nat):Int) by(rename_i z0;exact ae 0x24638249108e48e44980539239102 rfl c b (of_decide_eq_false z0:))) ?_
  and_intros
  refine ah (b9 (aF _ _ _) rfl) ?_
  refine ah (b9 (aF _ _ _) rfl) ?_
  refine sC (ae 0x9060607f09244206849102 rfl c b hc) ?_
  and_intros
  refine ah (aF _ _ _) ?_
  have e1:QN ((bv (B.take a) % 2^c:Nat):Int) (2^(c-b))=((bv B/2^(8*B.length-(k+b)) % 2^b:Nat):Int):=by
   refine aa (show((2:Int)^(c-b))=((2^(c-b):Nat):Int) by push_cast;rfl) ?_;refine aa (dW _ _) ?_
   congr 1
   refine aa (show c=(c-b)+b by(rename_i z0;exact ae 0x90c148249144980539239102 rfl c b (of_decide_eq_false z0:))) ?_;refine aa (RQ _ _ _) ?_;refine aa (Xo _ _) ?_;refine aa (Nat.mod_mul_right_div_self _ _ _) ?_;refine aa (De a ha) ?_;refine aa (Q8 _ _ _) ?_;refine aE (RQ _ _ _) ?_;refine aa (show 8*(B.length-a)+(c-b)=8*B.length-(k+b) by(rename_i z0;exact ae 0x92490c20554cfa120425543e80914898053953940c15133e844149105 rfl a B.length k c b ha I4 (of_decide_eq_false z0:))) ?_;rfl
  refine aa (PH _) ?_;refine aa e1 ?_
  refine q _ ⟨a,c-b,?_,ha,by(rename_i z0;exact ae 0x924304251305448fa1126014e50e4c305348fa1104 rfl a k c b I4 (of_decide_eq_false z0:)),ae 0x90a809244206849102 rfl c b hc⟩ (((f1.trans (.set _ _ _)).trans (.set _ _ _)))
  refine aa (aF _ _ _) ?_;refine aE (Nat.mod_mod_of_dvd (bv (B.take a)) (Nat.pow_dvd_pow 2 (show c-b<=c by(rename_i z0;exact ae 0x144249102 rfl c b)))) ?_
  rfl
noncomputable def dD(b:Nat)(ss:List Nat):Nat:=ss.foldl (λ t s=>t*2^b+s) 0
noncomputable def fN:Nat->Nat->List UInt8
 |0,_=>[]
 |k+1,T=>SL (T % 256)::fN k (T/256)
theorem nB(k T:Nat):fN (k+1) T=SL (T % 256)::fN k (T/256):=rfl
noncomputable def bg(size:Nat):Nat:=(8-size % 8) % 8
noncomputable def cN(b:Nat)(ss:List Nat):List UInt8:=(fN ((ss.length*b+bg (ss.length*b))/8) (dD b ss*2^bg (ss.length*b))).reverse
theorem iO:∀k T,(fN k T).length=k:=by
 intro k
 induction k with
 |zero=>
  intro y1
  exact rfl
 |succ k ih=>
  intro T
  refine aa (nB _ _) ?_;refine aa PQ ?_;refine aa (ih _) ?_;rfl
theorem xm(A:List UInt8)(x:UInt8):bv (A++[x])=bv A*256+x.toNat:=by unfold bv;refine aa UO ?_;rfl
theorem Ce:∀k T,bv (fN k T).reverse=T % 256^k:=by
 intro k
 induction k with
 |zero=>
  intro T
  refine aa (WA _) ?_;refine aa (Nat.mod_one _) ?_;rfl
 |succ k ih=>
  intro T
  refine aa (nB _ _) ?_;refine aa Sh ?_;refine aa (xm _ _) ?_;refine aa (ih _) ?_;refine aa (WB _ _) ?_;refine aa ((RA (256^k)) _) ?_;refine aa Nat.mod_mul ?_
  have:(SL (T % 256)).toNat=T % 256:=by simp
  refine aa this ?_;exact ae 0x304f8201fd14814908201fd102 rfl (T/256 % 256^k) (T % 256)
theorem mF(b:Nat)(A:List Nat)(s:Nat):dD b (A++[s])=dD b A*2^b+s:=by unfold dD;refine aa UO ?_;rfl
theorem lT{b:Nat}{ss:List Nat}{k s:Nat}(h:ss[k]? =some s):dD b (ss.take (k+1))=dD b (ss.take k)*2^b+s:=by
 refine aa Q0 ?_;refine aa h ?_;exact mF _ _ _
theorem zY{b:Nat}{ss:List Nat}(h:∀s∈ss,s<2^b):∀k,k<=ss.length->dD b (ss.take k)<2^(k*b):=by
 intro k
 induction k with
 |zero=>
  intro y1
  simp[dD]
 |succ k ih=>
  intro hk
  have hx:ss[k]? =some (ss[k]'(ae 0x909244148185102 rfl k ss.length hk)):=PI _
  refine aa (lT hx) ?_;refine aa (QV _ _ _) ?_;refine aa (Rz _) ?_;refine aa (RQ _ _ _) ?_
  have h1:=ih (ae 0x905244148185102 rfl k ss.length hk)
  have h2:=h (ss[k]'(ae 0x909244148185102 rfl k ss.length hk)) (QK _)
  calc _<dD b (ss.take k)*2^b+2^b:=ae 0x90814930514c249103 rfl (ss[k]) (2^b) (dD b (TH k ss)*2^b) h2
   _=(dD b (ss.take k)+1)*2^b:=by refine aa (QV _ _ _) ?_;refine aa (Rz _) ?_;rfl
   _<=_:=Ua _ h1
theorem vK{b:Nat}{ss:List Nat}(h:∀s∈ss,s<2^b):dD b ss<2^(ss.length*b):=by
 have:=zY h ss.length (PE _)
 rwa [U6] at this
theorem zZ{b:Nat}{ss:List Nat}(h:∀s∈ss,s<2^b):∀k,k<=ss.length->dD b ss/2^(k*b)=dD b (ss.take (ss.length-k)):=by
 intro k
 induction k with
 |zero=>
  intro y1
  simp
 |succ k ih=>
  intro hk
  have h1:=ih (ae 0x905244148185102 rfl k ss.length hk)
  have hx:ss[ss.length-(k+1)]? =some (ss[ss.length-(k+1)]'(ae 0x909208185148148185102 rfl k ss.length hk)):=PI _
  have h2:=lT (b:=b) hx
  have h3:=h _ (QK (l:=ss) (n:=ss.length-(k+1)) (ae 0x909208185148148185102 rfl k ss.length hk))
  rw[show ss.length-(k+1)+1=ss.length-k by lia] at h2
  refine aa (QV _ _ _) ?_;refine aa (Rz _) ?_;refine aa (RQ _ _ _) ?_;refine aE (Q8 _ _ _) ?_;refine aa h1 ?_;refine aa h2 ?_;refine aa (RA _ (2^b)) ?_;refine aa ((VF (Sm (by decide))) _ _) ?_;refine aa (XT h3) ?_;refine aa (U2 _) ?_;rfl
theorem A9{b:Nat}{ss:List Nat}(h:∀s∈ss,s<2^b){j s:Nat}(hj:ss[j]? =some s):dD b ss/2^((ss.length-(j+1))*b) % 2^b=s:=by
 have hl:j<ss.length:=(PO.mp hj).1
 refine aa (zZ h _ (by exact ae 0x144206149102 rfl ss.length j)) ?_;refine aa (show ss.length-(ss.length-(j+1))=j+1 by exact ae 0x90c185108206145248249102 rfl j ss.length hl) ?_;refine aa (lT hj) ?_;refine aa (RA _ _) ?_;refine aa (X7 _ _ _) ?_
 exact XS (h s (Sq.mpr ⟨j,hj⟩))
theorem qY(k:Nat):8*((k+bg k)/8)=k+bg k:=by unfold bg;omega
theorem l0(b:Nat)(ss:List Nat):8*(cN b ss).length=ss.length*b+bg (ss.length*b):=by
 unfold cN
 refine aa RP ?_;refine aa (iO _ _) ?_
 exact qY _
theorem wb(b:Nat)(ss:List Nat):(cN b ss).length=(ss.length*b+7)/8:=by
 have:=l0 b ss
 unfold bg at this;exact ae 0x92490d64470419cfa1606748106748fa161c19d30c25680533e850305348fa1106 rfl ((cN b ss).length) (ss.length*b) ((8-ss.length*b % 8) % 8) ((8-ss.length*b % 8)/8) (ss.length*b % 8) ((ss.length*b+7)/8) this (Bx _ 7) (lO _ 7)
theorem Aj(h:∀s∈ss,s<2^b)(hj:ss[j]? =some s):bv (cN b ss)/2^(8*(cN b ss).length-(j*b+b)) % 2^b=s:=by
 have hl:j<ss.length:=(PO.mp hj).1
 have e:=l0 b ss
 refine aa e ?_
 have ht:=vK h
 have OU:bv (cN b ss)=dD b ss*2^bg (ss.length*b):=by
  unfold cN
  refine aa (Ce _ _) ?_
  refine XS ?_
  refine aa (show 256=2^8 by rfl) ?_;refine aE (Nat.pow_mul _ _ _) ?_
  have:8*((ss.length*b+bg (ss.length*b))/8)=ss.length*b+bg (ss.length*b):=qY _
  refine aa this ?_;refine aa (RQ _ _ _) ?_
  exact VH ht (Sm (by decide))
 have hm:j*b+b=(j+1)*b:=by refine aa (QV _ _ _) ?_;refine aa (Rz _) ?_;rfl
 have Ge:(ss.length-(j+1))*b=ss.length*b-(j+1)*b:=Nat.sub_mul _ _ _
 have OF:(j+1)*b<=ss.length*b:=Ua _ hl
 refine aa OU ?_;refine aa hm ?_;refine aa (show ss.length*b+bg (ss.length*b)-(j+1)*b=bg (ss.length*b)+(ss.length-(j+1))*b by exact ae 0x92430515024c15120524c309349104 rfl ((ss.length-(j+1))*b) (ss.length*b) ((j+1)*b) (bg (ss.length*b)) Ge OF) ?_;refine aa (RQ _ _ _) ?_;refine aE (Q8 _ _ _) ?_;refine aa (Nat.mul_div_cancel _ (Sm (by decide))) ?_
 exact A9 h hj
theorem Pu.Jy(o:O)(f:gk M.next (M.new o) M'):Pu M M':=
 ⟨PN (RR _) f.next,λ i h=>by refine aa (f.same i (show i<M.next+1 by exact ae 0x908185244249102 rfl i M.next h) (by exact ae 0x92600d244249102 rfl i M.next h)) ?_;refine aa (md _ _ (by exact ae 0x92600d244249102 rfl i M.next h)) ?_;rfl⟩
theorem gk.made(M:AH)(o o':O):gk M.next (M.new o) ((M.new o).set M.next o'):=gk.set _ _ _
theorem vT(hB:B.length<=1000)(q:∀h M',M.next<=h->h<M'.next->Pu M M'->HB h B 0 M'->Q (.ref h) M'):cK ak (ag ak (n+1)) 8 [.bytes B] M Q X:=by
 unfold cK
 refine Ey gW rfl rfl rfl ?_
 refine ah (bL _ _) ?_
 and_intros
 refine ah (aF _ _ _) ?_
 and_intros
 refine ah (aF _ _ _) ?_
 and_intros
 refine ah (aF _ _ _) ?_
 and_intros
 refine aa (aF _ _ _) ?_
 refine cg rfl rfl ?_
 refine q _ _ (PE _) (Rd _) (Pu.Jy (.inst 8 []) ((((gk.set _ _ _).trans (.set _ _ _)).trans (.set _ _ _)).trans (.set _ _ _))) ⟨0,0,?_,ae 0x146001 rfl B.length,ae 0x382000 rfl,ae 0x2a2000 rfl⟩
 refine aa (aF _ _ _) ?_;rfl
theorem ba(s:Nat):∀n a,(aZ a s n).length=n:=by
 intro n
 induction n with
 |zero=>
  intro y1
  exact rfl
 |succ n ih=>
  intro a
  refine aa (qJ _ _ _) ?_;refine aa PQ ?_;refine aa (ih _) ?_;rfl
theorem ut{n:Nat}{b m:Nat}{ss:List Nat}(hs:∀s∈ss,s<2^b)(hm:ss.length=m)(Ge:m<=100)(EZ:1<=b)(hb:b<=16)
  (q:∀M',Pu M M'->Q (.list (ss.map λ s:Nat=>.int s)) M'):ag ak (n+3) 35 [.bytes (cN b ss),.int b,.int m] M Q X:=by
 have JT:m*b<=100*16:=Qm Ge hb
 have hlen:=l0 b ss
 have hB:(cN b ss).length<=1000:=by rw[hm] at hlen;unfold bg at hlen;exact ae 0x249241fa031ff4870674c3095a014cfa140c14d13e8481c8185fd105 rfl (m*b) ((cN b ss).length) ((8-m*b % 8) % 8) ((8-m*b % 8)/8) (m*b % 8) JT hlen (Bx _ 7)
 refine Ey ph rfl rfl rfl ?_
 refine vT hB λ h M1 h1 h2 p1 hh=> ?_
 refine ao (bU (ae 0x90a1d07f38e441c8085fd101 rfl m Ge)) ?_
 and_intros
 refine aa (PH _) ?_
 refine⟨by refine aa (ba _ _ _) ?_;unfold ar;exact ae 0x48386a0533f441c8085fd101 rfl m Ge,?_⟩
 refine cT (λ rest acc M'=>∃j,j+rest.length=m/\acc=(ss.take j).map (λ s:Nat=>V.int s)/\HB h (cN b ss) (j*b) M'/\Pu M M') _ ⟨0,by refine aa (ba _ _ _) ?_;refine aa (TQ _) ?_;rfl,rfl,by rwa [Wy],p1⟩ (λ acc M' j=> ?_) λ x xs acc M' j K hK=> ?_
 ·rename type_of% j=>oqe;refine jI oqe λ j e EN zz p=> ?_;clear oqe;subst EN
  rw[Rx,U2] at e
  subst e
  refine aa (Qg (ae 0x905244349102 rfl ss.length j hm)) ?_
  exact q _ p
 ·rename type_of% j=>oqe;refine jI oqe λ j e EN hh p=> ?_;clear oqe;subst EN
  rw[PQ] at e
  refine vf (id hh) λ a c hM w=> ?_
  repeat infer_instance
  refine ah (tJ hM rfl) ?_
  have OG:j*b+b<=8*(cN b ss).length:=by
   have:(j+1)*b<=m*b:=Ua _ (ae 0x90530614434c106149103 rfl j xs.length m e)
   rw[QV,Rz] at this
   refine aa hlen ?_;refine aa hm ?_;exact ae 0x90415130524414c149104 rfl (j*b) b (m*b) (bg (m*b)) this
  have hx:ss[j]? =some (ss[j]'(ae 0x92424530d20418544c349104 rfl ss.length m j xs.length hm e)):=PI _
  refine Aa hh EZ hb hB OG λ M2 I1 f2=> ?_
  refine aa (Aj hs hx) ?_
  refine hK _ _ ?_ ⟨j+1,ae 0x90d30520614434c106149103 rfl j xs.length m e,?_,by rwa [QV,Rz],f2.pu p h1⟩
  ·simp only [PJ,PG,Rb,Sr];unfold ar;exact ae 0x4920e1a814cfc18445120d1041853481c8085fd104 rfl m j xs.length ss.length Ge e
  ·refine aa Q0 ?_;refine aa hx ?_;refine aa Qf ?_;rfl
theorem jT(hw:w<=1000)(hb:b<=1000)(hc:c<=1000)(q:Q (.int (((w*c*b+7)/8:Nat):Int)) M):ag ak (n+1) 37 [fj w h b c] M Q X:=by
 have hL:cU=2^256:=rfl
 have h1:w*c<=1000*1000:=Qm hw hc
 have e:(w:Int)*(c:Int)=((w*c:Nat):Int):=by push_cast;rfl
 refine Ey ff rfl rfl rfl ?_
 refine ao (ae 0x92470b0007f38e482c001fce39107e80c7fd207e80c7fd102 rfl w c hw hc) ?_
 refine aa e ?_
 refine ao (ae 0x4923858003f9c72216000fe71c903e84818efd207e80c7fd102 rfl b (w*c) hb h1) ?_
 have e2:QN (((w*c:Nat):Int)*(b:Int)+7) 8=(((w*c*b+7)/8:Nat):Int):=by
  refine aa (show(8:Int)=((8:Nat):Int) by rfl) ?_;refine aE (dW _ _) ?_;push_cast;rfl
 and_intros
 refine aa e2 ?_;exact q
theorem vS(hb:b<=16)(q:Q (.int ((2^b-1:Nat):Int)) M):ag ak (n+1) 38 [fj w h b c] M Q X:=by
 refine Ey j5 rfl rfl rfl ?_
 refine ao ⟨by decide,ae 0x10e46001 rfl b,ae 0x2448181fce441c1101 rfl b hb⟩ ?_
 and_intros
 refine aa (PH _) ?_;refine aa kZ ?_;exact q
theorem mr{α:Type}:∀{rows:List (List α)},(∀p∈rows,p.length=c)->rows.flatten.length=c*rows.length:=by
 intro rows
 induction rows with
 |nil=>
  intro y1
  simp
 |cons p r ih=>
  intro h
  refine aa UP ?_;refine aa PJ ?_;refine aa (h p (by simp)) ?_;refine aa (ih λ q hq=>h q (by simp[hq])) ?_;refine aa PQ ?_;refine aa (Uk _ _ _) ?_;refine aa (Xd _) ?_;refine aa (WD _ _) ?_;rfl
theorem rC{α:Type}:∀{rows:List (List α)} {j:Nat} {p:List α},(∀p∈rows,p.length=c)->rows[j]? =some p->(rows.flatten.take (j*c+c)).drop (j*c)=p:=by
 intro rows
 induction rows with
 |nil=>
  intro j p y1 e
  simp at e
 |cons q r ihq=>
  intro y2
  cases y2 with
  |zero=>
   intro p h e
   simp at e;subst e
   have hq:=h q (by simp)
   refine aa (Wy _) ?_;refine aa (TQ _) ?_;refine aa X8 ?_;refine aa UP ?_;refine aE hq ?_;rewrite[List.take_left'];rfl
   rfl
  |succ j=>
   intro p h e
   have hq:=h q (by simp)
   have ih:=ihq (j:=j) (p:=p) (λ x hx=>h x (by simp[hx])) (by simpa using e)
   refine aa UP ?_;refine aa VP ?_;refine aa List.drop_append ?_;refine aa hq ?_;refine aa (List.drop_eq_nil_of_le (by refine aa hq ?_;refine aa (QV _ _ _) ?_;exact ae 0x104f85149102 rfl c (j*c))) ?_;refine aa (R2 _) ?_
   rw[VP] at ih
   refine aE ih ?_
   congr 1
   ·refine aa (QV _ _ _) ?_;exact ae 0x309105244204f8524414813e149102 rfl (j*c) c
   ·congr 1;refine aa (QV _ _ _) ?_;exact ae 0x34424813e149102 rfl (j*c) c
theorem fT(h:x::xs=aZ a s n):∃m,n=m+1/\x=.int a/\xs=aZ (a+s) s m:=by
 cases n with
 |zero=>cases h
 |succ m=>rw[qJ] at h;cases h;exact gu m rfl rfl rfl
theorem bF(h:[]=aZ a s n):n=0:=by
 cases n with
 |zero=>rfl
 |succ m=>cases h
theorem pE(hc:1<=c):(if(0:Int)<((c*k:Nat):Int) then((((c*k:Nat):Int)-0-1)/(c:Int)+1).toNat else 0)=k:=by
 split
 ·rename_i h
  have hk:0<k:=by
   rcases Xn k with e|e
   ·subst e;simp at h
   ·exact e
  have e1:(((c*k:Nat):Int)-0-1)=((c*k-1:Nat):Int):=ae 0x2463828510a10a039114e46001 rfl (c*k) h
  refine aa e1 ?_;refine aE (Int.natCast_ediv _ _) ?_
  have e2:(c*k-1)/c=k-1:=by
   obtain⟨k,rfl⟩:∃m,k=m+1:=⟨k-1,ae 0x90c184285144246001 rfl k hk⟩
   refine aa (Uk _ _ _) ?_;refine aa (Xd _) ?_;refine aa (Xo _ _) ?_;refine aa (show c*k+c-1=c*k+(c-1) by exact ae 0x90c10a14520a105148146102 rfl c (c*k) hc) ?_;refine aa ((VF (by exact ae 0x909180146101 rfl c hc)) _ _) ?_;refine aa (XT (by exact ae 0x90910a144146101 rfl c hc)) ?_;refine aa (U2 _) ?_;rfl
  refine aa e2 ?_;exact ae 0x90d134184e0a144246001 rfl k hk
 ·rename_i h
  rcases Xn k with e|e
  ·exact e.symm
  ·exact absurd (Int.ofNat_lt.mpr (VA hc e)) h
theorem Bf{n:Nat}{c:Nat}{rows:List (List V)}(hc:1<=c)(H8:c<=100)(hk:rows.length<=100)(hr:∀p∈rows,p.length=c)(q:Q (.list (rows.map .tup)) M):ag ak (n+1) 39 [.list rows.flatten,.int c] M Q X:=by
 have hl:=mr hr
 have OS:c*rows.length<=100*100:=Qm H8 hk
 refine Ey kt rfl rfl rfl ?_;and_intros
 refine aa hl ?_
 have hd:(decide ((0:Int)<(c:Int))&&cm 0&&cm ((c*rows.length:Nat):Int)&&cm (c:Int))=true:=by
  simp only [P1]
  exact⟨⟨⟨decide_eq_true (ae 0x24539180146101 rfl c hc),rfl⟩,bU (ae 0x12143a0fe71c88338810afd101 rfl (c*rows.length) OS)⟩,bU (ae 0x90a1d07f38e441c8085fd101 rfl c H8)⟩
 refine ao hd ?_
 refine aa (pE hc) ?_;refine aa (PH _) ?_
 refine⟨by refine aa (ba _ _ _) ?_;unfold ar;exact ae 0x48386a0533f441c8085fd101 rfl rows.length hk,?_⟩
 refine cT (λ rest acc M'=>M'=M/\∃j,j<=rows.length/\rest=aZ ((j*c:Nat):Int) c (rows.length-j)/\acc=(rows.take j).map .tup) _ ⟨rfl,0,ae 0x146001 rfl rows.length,by simp,rfl⟩ (λ acc M' j=> ?_) λ x xs acc M' j K hK=> ?_
 ·obtain⟨rfl,j,e0,e,rfl⟩:=j
  have:=bF e
  refine aa (Qg (ae 0x905244380249102 rfl rows.length j this)) ?_
  exact q
 ·obtain⟨rfl,j,e0,e,rfl⟩:=j
  refine bz (fT e) λ m e1 EN e2=> ?_;subst EN
  repeat infer_instance
  have hx:rows[j]? =some (rows[j]'(ae 0x90914830614c249103 rfl rows.length j m e1)):=PI _
  have e3:((j*c:Nat):Int)+(c:Int)=((j*c+c:Nat):Int):=ae 0x18e05244139239102 rfl (j*c) c
  have h4:j*c+c<=100*100:=by
   refine aa (show j*c+c=(j+1)*c by refine aa (QV _ _ _) ?_;refine aa (Rz _) ?_;rfl) ?_
   exact Qm (ae 0x9241c8085fc18520c1853092441c8085fd103 rfl rows.length j m hk e1) H8
  refine⟨by refine aa (PH _) ?_;unfold ar;exact ae 0x90b0d40a67e88338810afc149102 rfl (j*c) c h4,?_⟩
  and_intros
  refine aa e3 ?_
  refine⟨by refine aa (PH _) ?_;unfold ar;exact ae 0x90b0d40a67e0a488338810afc149102 rfl (j*c) c h4,?_⟩
  and_intros
  refine aa (PH _) ?_;refine aa (PH _) ?_
  refine aa (show cut rows.flatten ((some (j*c)).getD 0) (some (j*c+c))=rows[j]'(ae 0x90914830614c249103 rfl rows.length j m e1) from rC hr hx) ?_
  refine hK _ _ ?_ ⟨rfl,j+1,ae 0x90510614830614c249103 rfl rows.length j m e1,?_,?_⟩
  ·simp only [PJ,PG,Rb,Sr];unfold ar;exact ae 0x48386a0533f061111481c8085fd102 rfl rows.length j hk
  ·refine aa e2 ?_;refine aa (show m=rows.length-(j+1) by exact ae 0x90c20614914c30614c249103 rfl rows.length j m e1) ?_;refine aa e3 ?_;refine aa (QV _ _ _) ?_;refine aa (Rz _) ?_;rfl
  ·refine aa Q0 ?_;refine aa hx ?_;refine aa Qf ?_;rfl
noncomputable def cH(p:List Nat):V:=.tup (p.map λ s:Nat=>.int s)
noncomputable def dz(r:List (List Nat)):V:=.list (r.map cH)
noncomputable def bk(px:List (List (List Nat))):V:=.list (px.map dz)
structure ca(px:List (List (List Nat)))(w h b c:Nat):Prop where
 len:px.length=h
 row:∀r∈px,r.length=w
 Ku:∀r∈px,∀p∈r,p.length=c
 K6:∀r∈px,∀p∈r,∀s∈p,s<2^b
noncomputable def bX(b:Nat)(px:List (List (List Nat))):List UInt8:=(px.map λ r=>cN b r.flatten).flatten
theorem ca.flat(d:ca px w h b c)(hr:r∈px):r.flatten.length=w*c/\∀s∈r.flatten,s<2^b:=by
 refine⟨by refine aa (mr (d.Ku r hr)) ?_;refine aa (d.row r hr) ?_;refine aa (RA _ _) ?_;rfl,λ s hs=> ?_⟩
 refine ai (List.mem_flatten.mp hs) λ p hp Ou=> ?_
 exact d.K6 r hr p hp s Ou
theorem ca.size(d:ca px w h b c):∀B∈px.map λ r=>cN b r.flatten,B.length=(w*c*b+7)/8:=by
 intro B hB
 refine ai (QG.mp hB) λ r hr EN=> ?_;subst EN
 refine aa (wb _ _) ?_;refine aa ((d.flat hr).1) ?_;rfl
theorem jF(d:ca px w h b c):(bX b px).length=(w*c*b+7)/8*h:=by
 unfold bX
 refine aa (mr d.size) ?_;refine aa (PG _) ?_;refine aa d.len ?_;rfl
theorem x0(r:List (List Nat)):(r.map λ p=>p.map λ s:Nat=>V.int s).flatten=r.flatten.map λ s:Nat=>V.int s:=by
 refine aa List.map_flatten ?_;rfl
theorem dR(h:M.m i=some (.list vs)):tS M (.ref i)=true:=by show((M.m i).bind lstO?).isSome=_;refine aa h ?_;rfl
theorem b6(M:AH)(o:O):M.next<(M.new o).next:=Rd _
theorem Pu.new(M:AH)(o:O):Pu M (M.new o):=⟨RR _,λ i h=>md _ _ (ae 0x92600d244249102 rfl i M.next h)⟩
theorem Pu.Er(p:Pu M M')(h:M.next<=i)(o:O):Pu M (M'.set i o):=⟨p.next,λ j hj=>by refine aa (be _ _ (ae 0x92498034930914c149103 rfl M.next i j h hj)) ?_;refine aa (p.same j hj) ?_;rfl⟩
theorem Pu.Ew(p:Pu M M')(h:M.next<=i):Pu M (M'.kill i):=⟨p.next,λ j hj=>by refine aa (cA _ (ae 0x92498034930914c149103 rfl M.next i j h hj)) ?_;refine aa (p.same j hj) ?_;rfl⟩
theorem dx(h:M.m i=some (.list vs)):bf M (.ref i)=(.list vs,M.kill i):=by show((M.m i).bind mq).elim _ _=_;refine aa h ?_;rfl
theorem jS{n:Nat}{w h b c:Nat}{O:List UInt8}(hw:w<=1000)(hb:b<=16)(hc:c<=10)(hh:h<=1000)(hO:O.length<(w*c*b+7)/8*h)(q:X M):ag ak (n+5) 40 [.bytes O,fj w h b c] M Q X:=by
 refine Ey gq rfl rfl rfl ?_
 refine jT hw (ae 0x241fa031ff441c1101 rfl b hb) (ae 0x241fa031ff441a9101 rfl c hc) ?_
 have hL:cU=2^256:=rfl
 have h1:w*c<=1000*10:=Qm hw hc
 have h2:w*c*b<=1000*10*16:=Qm h1 hb
 have e:(((w*c*b+7)/8:Nat):Int)*(h:Int)=(((w*c*b+7)/8*h:Nat):Int):=by push_cast;rfl
 have hz:(w*c*b+7)/8<=100000:=ae 0x9241c350299fa43820ce7d09033a20833a27d090338820afd102 rfl (w*c*b) ((w*c*b+7)/8) h2 (lO _ 7)
 generalize (w*c*b+7)/8=z at*
 refine ao (ae 0x1248e16000fe71c8858003f9c7240e1a814cfd207e80c7fd102 rfl h z hh hz) ?_
 refine aa e ?_
 refine ite_t (decide_eq_true (ae 0x914e48e44249102 rfl O.length (z*h) hO)) ?_
 exact q
theorem fI{n:Nat}{w h b c:Nat}{px:List (List (List Nat))}(d:ca px w h b c)(HK:1<=w)(hw:w<=8)(EZ:1<=b)(hb:b<=16)(hc1:1<=c)(hc:c<=4)(hh:h<=8)
  (q:∀M',Pu M M'->Q (bk px) M'):ag ak (n+5) 40 [.bytes (bX b px),fj w h b c] M Q X:=by
 refine Ey gq rfl rfl rfl ?_
 refine jT (ae 0x241fa031ff441a1101 rfl w hw) (ae 0x241fa031ff441c1101 rfl b hb) (ae 0x241fa031ff44191101 rfl c hc) ?_
 have hL:cU=2^256:=rfl
 have h1:w*c<=8*4:=Qm hw hc
 have h2:w*c*b<=8*4*16:=Qm h1 hb
 have hlen:=jF d
 have Fe:=d.size
 have H0:(w*c*b+7)/8<=100:=ae 0x9241c8085fd21c10673e84819d10419d13e84818241fd102 rfl (w*c*b) ((w*c*b+7)/8) h2 (lO _ 7)
 generalize (w*c*b+7)/8=z at*
 have hz3:z*h<=100*8:=Qm H0 hh
 have e:(z:Int)*(h:Int)=((z*h:Nat):Int):=by push_cast;rfl
 refine ao (ae 0x92470b0007f38e442c001fce3920720217f481a1102 rfl h z hh H0) ?_
 refine aa e ?_;refine aa hlen ?_
 refine ite_f (decide_eq_false (ae 0x980539139101 rfl (z*h))) ?_
 refine ao (bU (ae 0x90a1d07f38e441a1101 rfl h hh)) ?_
 and_intros
 refine aa (PH _) ?_
 refine⟨by refine aa (ba _ _ _) ?_;unfold ar;exact ae 0x48386a0533f441a1101 rfl h hh,?_⟩
 refine cD (λ rest ρ M'=>∃j o4 o5,rest=aZ (j:Nat) 1 (h-j)/\j<=h/\ρ=[some (.bytes (bX b px)),some (fj w h b c),some (.int z),some (.ref M.next),o4,o5]/\M'.m M.next=some (.list ((px.take j).map dz))/\M.next<M'.next/\Pu M M') _
  ⟨0,_,_,rfl,ae 0x146001 rfl h,rfl,bL _ _,b6 _ _,.new _ _⟩ (λ ρ M' j=> ?_) λ x xs ρ M' j K hK=> ?_
 ·rename type_of% j=>oqe;refine u9 oqe λ j o4 o5 e1 e2 F7 hM EO p=> ?_;clear oqe;subst F7
  have:=bF e1
  and_intros
  refine aa (dx hM) ?_;refine aa (Qg (by refine aa d.len ?_;exact ae 0x905244380249102 rfl h j this)) ?_
  exact q _ (p.Ew (PE _))
 ·rename type_of% j=>oqe;refine u9 oqe λ j o4 o5 e1 e2 F7 hM EO p=> ?_;clear oqe;subst F7
  refine bz (fT e1) λ m e3 EN e4=> ?_;subst EN
  have hx:px[j]? =some (px[j]'(by refine aa d.len ?_;exact ae 0x90914830614c249103 rfl h j m e3)):=PI _
  generalize px[j]'(by refine aa d.len ?_;exact ae 0x90914830614c249103 rfl h j m e3)=r at hx
  have hr:r∈px:=Sq.mpr ⟨j,hx⟩
  obtain⟨KF,KE⟩:=d.flat hr
  have z1:(z:Int)*(j:Int)=((j*z:Nat):Int):=by refine aa (TS _ _) ?_;push_cast;rfl
  have z2:(z:Int)*((j:Int)+1)=((j*z+z:Nat):Int):=by refine aa (Xg _ _ _) ?_;refine aa z1 ?_;exact ae 0x18e05244142139239102 rfl (j*z) z
  have z3:j*z+z<=8*100:=by
   refine aa (show j*z+z=(j+1)*z by refine aa (QV _ _ _) ?_;refine aa (Rz _) ?_;rfl) ?_
   exact Qm (ae 0x9241a018520c1853092441a1103 rfl h j m hh e3) H0
  have LM:=rC (rows:=px.map λ r=>cN b r.flatten) (j:=j) (p:=cN b r.flatten) Fe (by refine aa Rj ?_;refine aa hx ?_;rfl)
  refine ao (ae 0x92491c2c001fce3930b0007f38e4814530720217f481a1103 rfl h z j hh H0 e2) ?_
  refine aa z1 ?_
  refine⟨by refine aa (PH _) ?_;unfold ar;exact ae 0x48586a0533f441c8145fc149102 rfl (j*z) z z3,?_⟩
  refine ao (ae 0x92491c2c001fce0613930b0007f38e4814530720217f481a1103 rfl h z j hh H0 e2) ?_
  refine aa z2 ?_
  refine⟨by refine aa (PH _) ?_;unfold ar;exact ae 0x48586a0533f052441c8145fc149102 rfl (j*z) z z3,?_⟩
  refine⟨dR hM,?_⟩
  refine ao (ae 0x92470b0007f38e482c001fce391064481a1102 rfl w c hw hc) ?_
  and_intros
  refine aa (PH _) ?_;refine aa (PH _) ?_
  refine aa (show cut (bX b px) ((some (j*z)).getD 0) (some (j*z+z))=cN b r.flatten from LM) ?_;refine aa (show(w:Int)*(c:Int)=((w*c:Nat):Int) by push_cast;rfl) ?_
  refine ut KE KF (ae 0x90720217f4418141fd101 rfl (w*c) h1) EZ hb λ M2 p2=> ?_
  refine aE (x0 _) ?_
  refine Bf hc1 (ae 0x90720217f44191101 rfl c hc) (by refine aa (PG _) ?_;refine aa (d.row r hr) ?_;exact ae 0x90720217f441a1101 rfl w hw) (λ p hp=> ?_) ?_
  ·refine ai (QG.mp hp) λ y hy EN=> ?_;subst EN
   refine aa (PG _) ?_;exact d.Ku r hr y hy
  have HE:M2.m M.next=some (.list ((px.take j).map dz)):=by refine aa (p2.same _ EO) ?_;refine aa hM ?_;rfl
  simp only [HE]
  refine⟨?_,hK _ _ ⟨j+1,_,_,?_,ae 0x90510614830614c249103 rfl h j m e3,rfl,?_,PK EO p2.next,(p.trans p2).Er (PE _) _⟩⟩
  ·refine aa (PG _) ?_;refine aa Rb ?_;unfold ar;exact ae 0x492161a814cfc45120c1853092441a1104 rfl h j m px.length hh e3
  ·refine aa e4 ?_;refine aa (show m=h-(j+1) by exact ae 0x90c20614914c30614c249103 rfl h j m e3) ?_;rfl
  ·refine aa (aF _ _ _) ?_;refine aa Q0 ?_;refine aa hx ?_;refine aa Qf ?_;refine aa YN ?_;rfl
noncomputable def aK(h w:Nat)(g:Nat->Nat->V):V:=.list ((PS h).map λ i=>.list ((PS w).map λ j=>g i j))
noncomputable def bm(i h H:Nat):Nat:=(2*i+1)*H/(2*h)
theorem g8(hi:i<h)(hH:1<=H):bm i h H<H:=by
 unfold bm
 rewrite[Nat.div_lt_iff_lt_mul (by exact ae 0x908f89280249102 rfl i h hi)]
 refine aa ((RA H) _) ?_
 exact VH (ae 0x908f8920613e244249102 rfl i h hi) (ae 0x909180146101 rfl H hH)
theorem qI{α:Type}(f:Nat->α)(h:k<n):((PS n).map f)[k]? =some (f k):=by
 refine aa Rj ?_;refine aa (WZ h) ?_;rfl
theorem ce{a:Nat}{n:Nat}{xs:List V}(h:x::xs=aZ (a:Int) 1 n):∃m,n=m+1/\x=.int a/\xs=aZ ((a+1:Nat):Int) 1 m:=by
 refine bz (fT h) λ m e1 e2 e3=> ?_
 exact gu m e1 e2 (by refine aa e3 ?_;rfl)
theorem fi{T:V->AH->(List V->AH->Prop)->Prop}{Q:List V->AH->Prop}{f:Nat->V}{n:Nat}(hl:n<=ar)
  (ht:∀k,k<n->∀M',Pu M M'->∀K:List V->AH->Prop,(∀M2,Pu M M2->K [f k] M2)->T (.int k) M' K)(hQ:∀M',Pu M M'->Q ((PS n).map f) M'):bP T (aZ 0 1 n) [] M Q:=by
 refine cT (λ rest acc M'=>∃j,rest=aZ (j:Nat) 1 (n-j)/\j<=n/\acc=(PS j).map f/\Pu M M') _ ⟨0,rfl,ae 0x146001 rfl n,rfl,.refl _⟩ (λ acc M' j=> ?_) λ x xs acc M' j K hK=> ?_
 ·rename type_of% j=>oqe;refine jI oqe λ j e e2 G6 p=> ?_;clear oqe;subst G6
  have:=bF e
  obtain rfl:j=n:=ae 0x92434910e009148149102 rfl j n e2 this
  exact hQ _ p
 ·rename type_of% j=>oqe;refine jI oqe λ j e e2 G6 p=> ?_;clear oqe;subst G6
  refine bz (ce e) λ m e3 EN e4=> ?_;subst EN
  refine ht j (by exact ae 0x90914830614c249103 rfl n j m e3) M' p K λ M2 p2=>hK _ _ ?_ ⟨j+1,by refine aa e4 ?_;refine aa (show m=n-(j+1) by exact ae 0x90c20614914c30614c249103 rfl n j m e3) ?_;rfl,by exact ae 0x90510614830614c249103 rfl n j m e3,?_,p2⟩
  ·simp;exact ae 0x249070d40a67e0c29060c29849220e1a814cfd103 rfl n j m hl e3
  ·refine aa TJ ?_;refine aa Qf ?_;rfl
theorem ry(h w:Nat)(g:Nat->Nat->V):((PS h).map λ i=>V.list ((PS w).map λ j=>g i j)).length=h:=by simp
theorem oz(w:Nat)(g:Nat->V):((PS w).map g).length=w:=by simp
theorem tI(i h H:Nat):QN ((2*(i:Int)+1)*(H:Int)) (2*(h:Int))=((bm i h H:Nat):Int):=by
 unfold bm;refine aE (dW _ _) ?_;push_cast;rfl
theorem gI(hr:r<m):eh M (.list ((PS m).map g)) (.int (r:Int))=some (g r):=by
 show(if 0<=(r:Int) then((PS m).map g)[(r:Int).toNat]? else none)=_
 refine aa (if_pos (ae 0x10e46001 rfl r)) ?_;refine aa (PH _) ?_;refine aa Rj ?_;refine aa (WZ hr) ?_;rfl
theorem o0{n:Nat}{H W w h:Nat}{g:Nat->Nat->V}(HK:1<=w)(hw:w<=8)(Fl:1<=h)(hh:h<=8)(Fm:1<=W)(hW:W<=8)(hH1:1<=H)(hH:H<=8)
  (q:∀M',Pu M M'->Q (aK h w λ i j=>g (bm i h H) (bm j w W)) M'):ag ak (n+1) 41 [aK H W g,.int w,.int h] M Q X:=by
 refine Ey jW rfl rfl rfl ?_
 have hL:cU=2^256:=rfl
 refine or_f (decide_eq_false (ae 0x24980584e44146101 rfl w HK)) ?_
 refine ite_f (decide_eq_false (ae 0x24980584e44146101 rfl h Fl)) ?_
 refine ao (bU (ae 0x90a1d07f38e441a1101 rfl h hh)) ?_
 and_intros
 refine aa (PH _) ?_
 refine⟨by refine aa (ba _ _ _) ?_;unfold ar;exact ae 0x48386a0533f441a1101 rfl h hh,?_⟩
 refine cD (λ rest ρ M'=>∃j o4 o5 o6,rest=aZ (j:Nat) 1 (h-j)/\j<=h/\ρ=[some (aK H W g),some (.int w),some (.int h),some (.ref M.next),o4,o5,o6]/\
   M'.m M.next=some (.list ((PS j).map λ i=>V.list ((PS w).map λ j=>g (bm i h H) (bm j w W))))/\M.next<M'.next/\Pu M M') _
  ⟨0,_,_,_,rfl,ae 0x146001 rfl h,rfl,bL _ _,b6 _ _,.new _ _⟩ (λ ρ M' j=> ?_) λ x xs ρ M' j K hK=> ?_
 ·rename type_of% j=>oqe;refine yJ oqe λ j o4 o5 o6 e1 e2 IH hM EO p=> ?_;clear oqe;subst IH
  have:=bF e1
  obtain rfl:j=h:=ae 0x92434910e009148149102 rfl j h e2 this
  and_intros
  refine aa (dx hM) ?_
  exact q _ (p.Ew (PE _))
 ·rename type_of% j=>oqe;refine yJ oqe λ j o4 o5 o6 e1 e2 IH hM EO p=> ?_;clear oqe;subst IH
  refine bz (ce e1) λ m e3 EN e4=> ?_;subst EN
  have hm:=g8 (i:=j) (h:=h) (H:=H) (ae 0x90914830614c249103 rfl h j m e3) hH1
  unfold aK at hK ⊢
  refine ao (ae 0x92470b0007f38e482c001fe2051481a1102 rfl h j hh e2) ?_
  and_intros
  refine aa (ry _ _ _) ?_
  refine ao (ae 0x92491c2c001fce3920b0007f38184f88e4c1453068481a1103 rfl h H j hh hH e2) ?_
  refine ao (ae 0x91c2c001fce3910b0007f881a1101 rfl h hh) ?_
  refine ao (ae 0x2491c2c001fce3e23912601a03e239106844146101 rfl h Fl hh) ?_
  and_intros
  refine aa (tI _ _ _) ?_
  refine ah (gI (g:=λ i=>V.list ((PS W).map λ j=>g i j)) hm) ?_
  refine⟨dR hM,?_⟩
  refine ao (bU (ae 0x90a1d07f38e441a1101 rfl w hw)) ?_
  and_intros
  refine aa (PH _) ?_
  refine⟨by refine aa (ba _ _ _) ?_;unfold ar;exact ae 0x48386a0533f441a1101 rfl w hw,?_⟩
  refine fi (f:=λ i=>g (bm j h H) (bm i w W)) (by unfold ar;exact ae 0x48386a0533f441a1101 rfl w hw) (λ k hk M1 p1 K1 Ie=> ?_) λ M1 p1=> ?_
  ·have Ge:=g8 (i:=k) (h:=w) (H:=W) (ae 0x909244249102 rfl k w hk) Fm
   repeat infer_instance
   refine ao (ae 0x92470b0007f38e482c001fe2091481a1102 rfl w k hw hk) ?_
   and_intros
   refine aa (oz _ _) ?_
   refine ao (ae 0x92491c2c001fce3920b0007f38184f88e4c2453068481a1103 rfl w W k hw hW hk) ?_
   refine ao (ae 0x91c2c001fce3910b0007f881a1101 rfl w hw) ?_
   refine ao (ae 0x2491c2c001fce3e23912601a03e239106844146101 rfl w HK hw) ?_
   and_intros
   refine aa (tI _ _ _) ?_
   refine ah (gI (g:=λ j'=>g (bm j h H) j') Ge) ?_
   exact Ie _ p1
  ·have HE:M1.m M.next=_:=(p1.same _ EO).trans hM
   and_intros
   simp only [HE]
   refine⟨by simp;unfold ar;exact ae 0x492161a814cfd2051481a1102 rfl h j hh e2,hK _ _ ⟨j+1,_,_,_,?_,ae 0x90510614830614c249103 rfl h j m e3,rfl,?_,PK EO p1.next,(p.trans p1).Er (PE _) _⟩⟩
   ·refine aa e4 ?_;refine aa (show m=h-(j+1) by exact ae 0x90c20614914c30614c249103 rfl h j m e3) ?_;rfl
   ·refine aa (aF _ _ _) ?_;refine aa TJ ?_;refine aa Qf ?_;rfl
theorem pa{n:Nat}{i h H:Nat}(hi:i<h)(hh:h<=8)(hH1:1<=H)(hH:H<=8)
  (q:Q (.int (bm i h H:Nat)) M):ag ak (n+1) 73 [.int i,.int h,.int H] M Q X:=by
 refine Ey j3 rfl rfl rfl ?_
 have hL:cU=2^256:=rfl
 have hm:=g8 hi hH1
 have hd:(cm 1&&cm (H:Int))=true:=by
  refine aa (P1 _ _) ?_;exact⟨rfl,bU (ae 0x90a1d07f38e441a1101 rfl H hH)⟩
 refine ao hd ?_
 refine⟨by refine aa (ba _ _ _) ?_;unfold ar;exact ae 0x48386a0533f34284e441a1101 rfl H hH,?_⟩
 refine cT (λ rest acc M'=>M'=M/\∃j,rest=aZ ((1+j:Nat):Int) 1 (H-1-j)/\j<=H-1/\acc.length=min j (bm i h H)) _ ⟨rfl,0,by simp,ae 0x10a146001 rfl H,by simp⟩ (λ acc M' j=> ?_) λ x xs acc M' j K hK=> ?_
 ·obtain⟨rfl,j,e,e2,e3⟩:=j
  have:=bF e
  and_intros
  refine aa e3 ?_;refine aa (show min j (bm i h H)=bm i h H by exact ae 0x92434444530e00930a148249103 rfl (bm i h H) H j hm this) ?_
  exact q
 ·obtain⟨rfl,j,e,e2,e3⟩:=j
  refine bz (ce e) λ m e4 EN e5=> ?_;subst EN
  have JR:1+j<=bm i h H ↔ 2*h*(1+j)<=(2*i+1)*H:=by
   unfold bm
   rewrite[Nat.le_div_iff_mul_le (by exact ae 0x908f89280249102 rfl i h hi)];refine aa (RA _ _) ?_;rfl
  have z1:2*(h:Int)*((1+j:Nat):Int)=((2*h*(1+j):Nat):Int):=by push_cast;rfl
  have z2:(2*(i:Int)+1)*(H:Int)=(((2*i+1)*H:Nat):Int):=by push_cast;rfl
  refine ao (ae 0x91c2c001fce3910b0007f881a1101 rfl h hh) ?_
  refine ao (ae 0x92491c2c001fce3814e10b0007f38f88e4430615024c2852068481a1104 rfl h H j m hh hH e4) ?_
  refine ao (ae 0x92470b0007f38e442c001fe206848249102 rfl i h hi hh) ?_
  refine ao (ae 0x92491c2c001fce3930b0007f38184f88e441a1306848249103 rfl i h H hi hh hH) ?_
  and_intros
  refine aa z1 ?_;refine aa z2 ?_
  refine⟨λ hd=> ?_,λ hd=> ?_⟩
  ·have hd:=of_decide_eq_true hd
   repeat infer_instance
   refine hK _ _ ?_ ⟨rfl,j+1,?_,WL e4,?_⟩
   ·refine aa PJ ?_;simp;unfold ar;exact ae 0x49248386a0533f0614830615424c28510c4513481a1105 rfl H acc.length j (bm i h H) m hH e3 e4
   ·refine aa e5 ?_;refine aa (show H-1-(j+1)=m by exact ae 0x90d30818520a14430614c248285103 rfl H j m e4) ?_;rfl
   ·refine aa PJ ?_;simp;exact ae 0x92490c44c185206144439539428155405305284311349105 rfl acc.length j (bm i h H) (2*h*(1+j)) ((2*i+1)*H) e3 JR hd
  ·have hd:=of_decide_eq_false hd
   repeat infer_instance
   refine hK _ _ ?_ ⟨rfl,j+1,?_,WL e4,?_⟩
   ·refine aa (Qc _) ?_;unfold ar;exact ae 0x49248386a0533f4830615424c28510c4513481a1105 rfl H acc.length j (bm i h H) m hH e3 e4
   ·refine aa e5 ?_;refine aa (show H-1-(j+1)=m by exact ae 0x90d30818520a14430614c248285103 rfl H j m e4) ?_;rfl
   ·refine aa (Qc _) ?_;exact ae 0x92490c44c185244980439539428155405305284311349105 rfl acc.length j (bm i h H) (2*h*(1+j)) ((2*i+1)*H) e3 JR hd
theorem jV{n:Nat}{H W w h:Nat}{g:Nat->Nat->V}(HK:1<=w)(hw:w<=8)(Fl:1<=h)(hh:h<=8)(Fm:1<=W)(hW:W<=8)(hH1:1<=H)(hH:H<=8)
  (q:∀M',Pu M M'->Q (aK h w λ i j=>g (bm i h H) (bm j w W)) M'):ag ak (n+2) 74 [aK H W g,.int w,.int h] M Q X:=by
 unfold aK
 refine Ey jZ rfl rfl rfl ?_
 refine ao (bU (ae 0x90a1d07f38e441a1101 rfl h hh)) ?_
 and_intros
 refine aa (PH _) ?_
 refine⟨by refine aa (ba _ _ _) ?_;unfold ar;exact ae 0x48386a0533f441a1101 rfl h hh,?_⟩
 refine fi (f:=λ i=>V.list ((PS W).map λ j=>g (bm i h H) j)) (by unfold ar;exact ae 0x48386a0533f441a1101 rfl h hh) (λ k hk M1 p1 K1 Ie=> ?_) λ M1 p1=> ?_
 ·and_intros
  refine aa (ry _ _ _) ?_
  refine pa hk hh hH1 hH ?_
  refine ah (gI (g:=λ i=>V.list ((PS W).map λ j=>g i j)) (g8 hk hH1)) ?_
  exact Ie _ p1
 ·refine rb (f:=λ x=>match x with|.list r=>.list ((PS w).map λ j=>r.getD (bm j w W) .none)|x=>x) (by refine aa (oz _ _) ?_;unfold ar;exact ae 0x48386a0533f441a1101 rfl h hh) (λ x hx M2 p2 K2 E9=> ?_) λ M2 p2=> ?_
  ·refine ai (QG.mp hx) λ i hi EN=> ?_;subst EN
   repeat infer_instance
   refine ao (bU (ae 0x90a1d07f38e441a1101 rfl w hw)) ?_
   and_intros
   refine aa (PH _) ?_
   refine⟨by refine aa (ba _ _ _) ?_;unfold ar;exact ae 0x48386a0533f441a1101 rfl w hw,?_⟩
   refine fi (f:=λ j=>g (bm i h H) (bm j w W)) (by unfold ar;exact ae 0x48386a0533f441a1101 rfl w hw) (λ k hk M3 p3 K3 HF=> ?_) λ M3 p3=> ?_
   ·and_intros
    refine aa (oz _ _) ?_
    refine pa hk hw Fm hW ?_
    refine ah (gI (g:=λ j=>g (bm i h H) j) (g8 hk Fm)) ?_
    exact HF _ p3
   ·have:=E9 _ (p2.trans p3)
    have e:((PS w).map λ j=>(((PS W).map λ j=>g (bm i h H) j).getD (bm j w W) V.none))=(PS w).map λ j=>g (bm i h H) (bm j w W):=by
     refine RO λ j hj=> ?_
     refine aa P9 ?_;refine aa (qI _ (g8 (So.mp hj) Fm)) ?_;rfl
    simp only [e] at this
    exact this
  ·refine aa YN ?_
   have:=q _ (p1.trans p2)
   unfold aK at this
   have e:(PS h).map ((λ x=>match x with|.list r=>V.list ((PS w).map λ j=>r.getD (bm j w W) .none)|x=>x)∘ λ i=>V.list ((PS W).map λ j=>g (bm i h H) j))=
     (PS h).map λ i=>V.list ((PS w).map λ j=>g (bm i h H) (bm j w W)):=by
    refine RO λ i zz=> ?_
    show V.list _=V.list _
    congr 1
    refine RO λ j hj=> ?_
    refine aa P9 ?_;refine aa (qI _ (g8 (So.mp hj) Fm)) ?_;rfl
   refine aa e ?_;exact this
noncomputable def bB:Nat->Nat->List Int
 |_,0=>[]
 |a,n+1=>(a:Int)::bB (a+1) n
theorem zW(a:Nat):bB a 0=[]:=rfl
theorem iV(a n:Nat):bB a (n+1)=(a:Int)::bB (a+1) n:=rfl
noncomputable def entry(v:V):V:=.tup [.int 0,v]
structure aY(t:Nat)(T:List V)(M:AH):Prop where
 at_:M.m t=some (.EG (bB 1 T.length) (T.map entry))
 lt:t<M.next
theorem aY.pu{t:Nat}{T:List V}(h:aY t T M)(p:Pu M M'):aY t T M':=⟨(p.same _ h.lt).trans h.at_,PK h.lt p.next⟩
def NR:V->Prop
 |.inst c _=>c≠4
 |.ref _=>False
 |.fn _=>False
 |.bytes _=>False
 |_=>True
theorem zk(h:NR v)(M:AH):fP M v (.cls 4)=some false:=by
 cases v with
 |inst c vs=>rewrite[DF];have h:c≠4:=h;simp[h]
 |ref i=>exact h.elim
 |fn i=>exact h.elim
 |none=>exact Ed ..
 |bool b=>exact DG ..
 |int i=>exact DD ..
 |str s=>exact Ec ..
 |bytes s=>exact h.elim
 |tup s=>exact Eb ..
 |list s=>exact DB ..
 |dict k s=>exact DE ..
def Bh(T:List V)(x v:V):Prop:=x=v∨∃n,x=uE (n+1)/\T[n]? =some v
theorem Bh.mono{T T':List V}(h:T<+:T')(b:Bh T x v):Bh T' x v:=b.imp id λ⟨n,e,e2⟩=>⟨n,e,by
 obtain⟨r,rfl⟩:=h
 refine aa (Qe (PO.mp e2).1) ?_;exact e2⟩
def At(T:List V)(hd:V)(key:String)(v:V):Prop:=NR v/\∃ks vs,hd=.dict ks vs/\Bh T ((ay ks vs key).getD .none) v
theorem At.mono{T T':List V}(h:T<+:T'){key:String}(b:At T hd key v):At T' hd key v:=⟨b.1,let⟨ks,vs,e,q⟩:=b.2;⟨ks,vs,e,q.mono h⟩⟩
theorem py:∀{T:List V} {a n:Nat} {v:V},T[n]? =some v->ci (bB a T.length) (T.map entry) ((a+n:Nat):Int)=some (entry v):=by
 intro T
 induction T with
 |nil=>
  intro a n v h
  simp at h
 |cons x T ih=>
  intro a y1
  cases y1 with
  |zero=>
   intro v h
   simp at h;subst h
   show(if(a:Int)==((a+0:Nat):Int) then _ else _)=_
   refine aa (if_pos (by simp)) ?_;rfl
  |succ n=>
   intro v h
   show(if(a:Int)==((a+(n+1):Nat):Int) then _ else _)=_
   refine aa (if_neg (by simp;exact ae 0x26018106139239139102 rfl a n)) ?_
   have:=ih (a:=a+1) (n:=n) (v:=v) (by simpa using h)
   refine aa (show a+(n+1)=a+1+n by exact ae 0x305206144106149102 rfl a n) ?_
   exact this
theorem xC{t:Nat}{T:List V}(h:aY t T M):tT M (.ref t)=true:=by show((M.m t).bind vv).isSome=true;refine aa h.at_ ?_;rfl
theorem z5{t:Nat}{T:List V}(h:aY t T M)(i:Int):yB M (.ref t) (.int i)=some (ci (bB 1 T.length) (T.map entry) i):=by show((M.m t).bind vv).bind _=_;refine aa h.at_ ?_;rfl
theorem eM{n:Nat}{t:Nat}{T:List V}(hT:aY t T M)(hb:Bh T x v)(hn:NR v)(q:Q v M):ag ak (n+1) 16 [sh t,x] M Q X:=by
 refine Ey jd rfl rfl rfl ?_
 refine⟨by decide,?_⟩
 rcases hb with rfl|⟨k,rfl,hk⟩
 ·refine ah (zk hn _) ?_
  repeat infer_instance
  exact q
 ·have e:yB M (.ref t) (.int ((k+1:Nat):Int))=some (some (entry v)):=(z5 hT _).trans (congrArg some (by refine aa (show k+1=1+k by exact ae 0x305184185101 rfl k) ?_;exact py hk))
  repeat infer_instance
  refine⟨xC hT,?_⟩
  refine ah e ?_
  repeat infer_instance
  refine ah (zk hn _) ?_
  repeat infer_instance
  exact q
theorem bn{n:Nat}{t:Nat}{T:List V}{key:String}(hT:aY t T M)(hb:At T hd key v)(q:Q v M):ag ak (n+2) 17 [sh t,hd,.str key] M Q X:=by
 obtain⟨hn,ks,vs,rfl,hb⟩:=hb
 refine Ey kA rfl rfl rfl ?_
 refine⟨rfl,?_⟩
 exact eM hT hb hn q
section
variable{n:Nat}{t:Nat}{T:List V}{hd:V}{M:AH}{Q:V->AH->Prop}{X:AH->Prop}
theorem fH{key:String}{k:Nat}(hT:aY t T M)(hb:At T hd key (.int k))(hk:1<=k)(q:Q (.int k) M):ag ak (n+3) 49 [sh t,hd,.str key] M Q X:=by
 refine Ey ju rfl rfl rfl ?_
 refine bn hT hb ?_
 repeat infer_instance
 refine ite_f (decide_eq_false (ae 0x24980584e44146101 rfl k hk)) ?_
 exact q
def CF(v:V):Prop:=(∃b,v=.bool b)∨∃i:Int,v=.int i/\i<1
theorem wg:("an image without a right " :String).length=25:=by decide
theorem qr(hT:aY t T M)(hb:At T hd key v)(hk:key.length<=100)(hv:CF v)(q:X M):ag ak (n+3) 49 [sh t,hd,.str key] M Q X:=by
 have hl:gv .add (.str "an image without a right ") (.str key)=some (.str ("an image without a right " ++key)):=if_pos (by refine aa wg ?_;unfold ar;exact ae 0x48386a0533f051e41c8085fd101 rfl key.length hk)
 refine Ey ju rfl rfl rfl ?_
 refine bn hT hb ?_
 rcases hv with⟨b,rfl⟩|⟨i,rfl,hi⟩
 ·repeat infer_instance
  refine ah hl ?_
  exact q
 ·repeat infer_instance
  refine ite_t (decide_eq_true (ae 0x916144585110 rfl i hi)) ?_
  refine ah hl ?_
  exact q
noncomputable def eu:V->Bool|.bool b=>b|_=>false
theorem cu(hT:aY t T M)(hb:At T hd "ImageMask" v)(q:Q (.bool (eu v)) M):ag ak (n+3) 50 [sh t,hd] M Q X:=by
 refine Ey kq rfl rfl rfl ?_
 refine bn hT hb ?_
 have hn:=hb.1
 cases v with
 |inst c vs=>and_intros;exact q
 |ref i=>exact hn.elim
 |fn i=>exact hn.elim
 |none=>and_intros;exact q
 |bool b=>and_intros;exact q
 |int i=>and_intros;exact q
 |str s=>and_intros;exact q
 |bytes s=>exact hn.elim
 |tup s=>and_intros;exact q
 |list s=>and_intros;exact q
 |dict k s=>and_intros;exact q
theorem xv(b:Nat):eJ (.int b) [.int 1,.int 2,.int 4,.int 8,.int 16]=some (decide (b=1∨b=2∨b=4∨b=8∨b=16)):=by
 have e:∀k:Nat,((k:Int)==(b:Int))=decide (b=k):=λ k=>by
  by_cases h:b=k
  ·subst h;simp
  ·simp[h];exact ae 0x926018e44e48980349102 rfl b k h
 have e1:=e 1;have e2:=e 2;have e3:=e 4;have e4:=e 8;have e5:=e 16
 show some _=_
 refine aa (show((1:Int)==(b:Int))=decide (b=1) from e1) ?_;refine aa (show((2:Int)==(b:Int))=decide (b=2) from e2) ?_;refine aa (show((4:Int)==(b:Int))=decide (b=4) from e3) ?_;refine aa (show((8:Int)==(b:Int))=decide (b=8) from e4) ?_;refine aa (show((16:Int)==(b:Int))=decide (b=16) from e5) ?_
 simp
theorem Ci(b:Nat):((1:Int)==(b:Int)||((2:Int)==(b:Int)||((4:Int)==(b:Int)||((8:Int)==(b:Int)||((16:Int)==(b:Int)||false)))))=decide (b=1∨b=2∨b=4∨b=8∨b=16):=PZ (xv b)
theorem lW(hT:aY t T M)(hi:At T hd "ImageMask" v)(hv:eu v=true)(hb:At T hd "BitsPerComponent" .none)(q:Q (.int 1) M):ag ak (n+4) 51 [sh t,hd] M Q X:=by
 refine Ey jv rfl rfl rfl ?_
 refine cu hT hi ?_
 refine aa hv ?_
 repeat infer_instance
 refine bn hT hb ?_
 repeat infer_instance
 exact q
theorem nK{b:Nat}(hT:aY t T M)(hi:At T hd "ImageMask" v)(hb:At T hd "BitsPerComponent" (.int b))(EZ:1<=b)
  (q:(decide (b=1∨b=2∨b=4∨b=8∨b=16)=false∨(eu v=true/\b≠1))->X M)(q2:decide (b=1∨b=2∨b=4∨b=8∨b=16)=true->(eu v=true->b=1)->Q (.int b) M):ag ak (n+4) 51 [sh t,hd] M Q X:=by
 refine Ey jv rfl rfl rfl ?_
 refine cu hT hi ?_
 cases hv:eu v
 ·repeat infer_instance
  refine fH hT hb EZ ?_
  and_intros
  refine aa (Ci _) ?_
  refine⟨λ h=> ?_,λ h=> ?_⟩
  ·simp only [UF] at h
   refine cu hT hi ?_
   refine aa hv ?_
   repeat infer_instance
   exact q2 h (λ e=>by rw[hv] at e;cases e)
  ·have h:=(YQ h:_=false)
   refine ite_t (by refine aa h ?_;rfl) ?_
   and_intros
   exact q (.inl h)
 ·repeat infer_instance
  refine bn hT hb ?_
  repeat infer_instance
  refine fH hT hb EZ ?_
  and_intros
  refine aa (Ci _) ?_
  refine⟨λ h=> ?_,λ h=> ?_⟩
  ·simp only [UF] at h
   refine cu hT hi ?_
   refine aa hv ?_
   repeat infer_instance
   refine⟨λ h2=> ?_,λ h2=> ?_⟩
   ·refine q (.inr ⟨hv,?_⟩)
    intro e;subst e;simp at h2
   ·refine q2 h λ zz=> ?_
    simp at h2;exact ae 0x2438511a139101 rfl b h2
  ·have h:=(YQ h:_=false)
   refine ite_t (by refine aa h ?_;rfl) ?_
   and_intros
   exact q (.inl h)
theorem xI{b:Nat}(hT:aY t T M)(hi:At T hd "ImageMask" v)(hb:At T hd "BitsPerComponent" (.int b))(h5:b=1∨b=2∨b=4∨b=8∨b=16)(hv:eu v=true->b=1)(q:Q (.int b) M):ag ak (n+4) 51 [sh t,hd] M Q X:=
 nK hT hi hb (ae 0x9051848208203c110e84439110e244385101 rfl b h5) (λ h=>h.elim (λ h=>absurd h5 (of_decide_eq_false h)) λ h=>absurd (hv h.1) h.2) λ zz zz=>q
theorem qB{b:Nat}(hT:aY t T M)(hi:At T hd "ImageMask" v)(hb:At T hd "BitsPerComponent" (.int b))(EZ:1<=b)(h5:¬(b=1∨b=2∨b=4∨b=8∨b=16)∨(eu v=true/\b≠1))(q:X M):ag ak (n+4) 51 [sh t,hd] M Q X:=
 nK hT hi hb EZ (λ h=>q) λ h h2=>(h5.elim (λ e=>e (of_decide_eq_true h)) λ e=>e.2 (h2 e.1)).elim
theorem mM(q:∀M',Pu M M'->Q (fj w h b c) M'):cK ak (ag ak (n+1)) 9 [.int w,.int h,.int b,.int c] M Q X:=by
 unfold cK
 refine Ey j6 rfl rfl rfl ?_
 refine ah (bL _ _) ?_
 and_intros
 refine ah (aF _ _ _) ?_
 and_intros
 refine ah (aF _ _ _) ?_
 and_intros
 refine ah (aF _ _ _) ?_
 and_intros
 refine aa (aF _ _ _) ?_
 refine cg rfl rfl ?_
 exact q _ (((((Pu.new M _).Er (PE _) _).Er (PE _) _).Er (PE _) _).Er (PE _) _|>.Ew (PE _))
structure fE(T:List V)(hd:V)(w h b:Nat):Prop where
 wd:At T hd "Width" (.int w)
 ht:At T hd "Height" (.int h)
 w1:1<=w
 h1:1<=h
 dep:(∃v,At T hd "ImageMask" v/\eu v=true/\At T hd "BitsPerComponent" .none/\b=1)∨∃v,At T hd "ImageMask" v/\At T hd "BitsPerComponent" (.int b)/\(b=1∨b=2∨b=4∨b=8∨b=16)/\(eu v=true->b=1)
theorem fJ{w h b c:Nat}(hT:aY t T M)(f:fE T hd w h b)(q:∀M',Pu M M'->Q (fj w h b c) M'):ag ak (n+5) 52 [sh t,hd,.int c] M Q X:=by
 refine Ey gF rfl rfl rfl ?_
 refine fH hT f.wd f.w1 (fH hT f.ht f.h1 ?_)
 rcases f.dep with⟨v,a1,a2,a3,rfl⟩|⟨v,a1,a2,a3,a4⟩
 ·exact lW hT a1 a2 a3 (mM q)
 ·exact xI hT a1 a2 a3 a4 (mM q)
theorem om(hT:aY t T M)(hw:At T hd "Width" v)(hv:CF v)(q:X M):ag ak (n+5) 52 [sh t,hd,.int c] M Q X:=by
 refine Ey gF rfl rfl rfl ?_
 exact qr hT hw (by decide) hv q
theorem i3{w h b c:Nat}(hT:aY t T M)(hw:At T hd "Width" (.int w))(w1:1<=w)(hh:At T hd "Height" (.int h))(h1:1<=h)(hi:At T hd "ImageMask" v)(hb:At T hd "BitsPerComponent" (.int b))(EZ:1<=b)
  (h5:¬(b=1∨b=2∨b=4∨b=8∨b=16)∨(eu v=true/\b≠1))(q:X M):ag ak (n+5) 52 [sh t,hd,.int c] M Q X:=by
 refine Ey gF rfl rfl rfl ?_
 exact fH hT hw w1 (fH hT hh h1 (qB hT hi hb EZ h5 q))
end
theorem yR(hf:ak.fn f=some F)(ha:eQ F vs=some ρ)
  (q:bq ak (ag ak n) F.body ρ M (λ zz M'=>Q .none M') Q X):ag ak (n+1) f vs M Q X:=by rewrite[ee];refine aa hf ?_;refine aa (dO _ _) ?_;refine aa ha ?_;refine aa (dO _ _) ?_;exact q
noncomputable def qp(nm:String)(c:Nat):V:=.inst 6 [.str nm,.int c,.none,.bytes [],.int 0,.none,.tup []]
noncomputable def mI(t:Nat):V:=.inst 7 [sh t,.dict [] [],.fn 67]
def fF(nm:String)(c:Nat):Prop:=(nm= "DeviceGray" /\c=1)∨(nm= "DeviceRGB" /\c=3)∨(nm= "DeviceCMYK" /\c=4)
section
variable{n:Nat}{t:Nat}{T:List V}{hd:V}{nm:String}{c:Nat}{M:AH}{Q:V->AH->Prop}{X:AH->Prop}
noncomputable def Cb:V:=.dict ["DeviceGray","DeviceRGB","DeviceCMYK"] [.int 1,.int 3,.int 4]
theorem mO(q:Q Cb M):ag ak (n+1) 22 [] M Q X:=by
 refine Ey ip rfl rfl rfl ?_
 exact fo rfl (by decide) (by decide) q
theorem AY(d:fF nm c):ay ["DeviceGray","DeviceRGB","DeviceCMYK"] [.int 1,.int 3,.int 4] nm=some (.int c):=by
 rcases d with⟨rfl,rfl⟩|⟨rfl,rfl⟩|⟨rfl,rfl⟩<;>rfl
theorem B9(d:fF nm c):(["DeviceGray","DeviceRGB","DeviceCMYK"].contains nm)=true:=by
 rcases d with⟨rfl,rfl⟩|⟨rfl,rfl⟩|⟨rfl,rfl⟩<;>decide
theorem qy(q:∀M',Pu M M'->Q (qp nm c) M'):cK ak (ag ak (n+1)) 6 [.str nm,.int c] M Q X:=by
 unfold cK
 refine yR (F:=lI) (ρ:=[some (.ref M.next),some (.str nm),some (.int c),some .none,some (.bytes []),some (.int 0),some .none,some (.tup [])]) rfl rfl ?_
 refine ah (bL _ _) ?_
 and_intros
 iterate 6 (refine ah (aF _ _ _) ?_;and_intros)
 refine aa (aF _ _ _) ?_
 refine cg rfl rfl ?_
 exact q _ ((((((((Pu.new M _).Er (PE _) _).Er (PE _) _).Er (PE _) _).Er (PE _) _).Er (PE _) _).Er (PE _) _).Er (PE _) _|>.Ew (PE _))
theorem mP(d:fF nm c)(q:∀M',Pu M M'->Q (qp nm c) M'):ag ak (n+2) 23 [.str nm] M Q X:=by
 refine Ey i9 rfl rfl rfl ?_
 refine mO ?_
 and_intros
 refine ah (show eh M Cb (.str nm)=some (.int c) from AY d) ?_
 exact qy q
theorem uv(q:∀M',Pu M M'->Q (mI t) M'):cK ak (ag ak (n+1)) 7 [sh t,.dict [] [],.fn 67] M Q X:=by
 unfold cK
 refine Ey kx rfl rfl rfl ?_
 refine ah (bL _ _) ?_
 and_intros
 iterate 2 (refine ah (aF _ _ _) ?_;and_intros)
 refine aa (aF _ _ _) ?_
 refine cg rfl rfl ?_
 exact q _ ((((Pu.new M _).Er (PE _) _).Er (PE _) _).Er (PE _) _|>.Ew (PE _))
theorem xG(hT:aY t T M)(q:Q .none M):ag ak (n+3) 26 [mI t,.str s] M Q X:=by
 unfold mI
 refine Ey jb rfl rfl rfl ?_
 refine bn hT (v:=.none) ⟨trivial,[],[],rfl,.inl rfl⟩ ?_
 repeat infer_instance
 exact q
theorem qt(hT:aY t T M)(hb:Bh T x v)(hn:NR v)(q:Q v M):ag ak (n+2) 25 [mI t,x] M Q X:=by
 unfold mI
 refine Ey jc rfl rfl rfl ?_
 exact eM hT hb hn q
theorem AX(d:fF nm c):("Device" :String).length=6/\6<=nm.length/\("Default" :String).length+(RV (nm.toList.drop 6)).length<=ar:=by
 rcases d with⟨rfl,rfl⟩|⟨rfl,rfl⟩|⟨rfl,rfl⟩<;>decide
theorem Ef(s:String)(lo:Nat):mW M (.str s) lo none=if lo<=s.length then some (.str (RV (s.toList.drop lo))) else none:=rfl
theorem lX(d:fF nm c)(hT:aY t T M)(q:∀M',Pu M M'->Q (qp nm c) M'):ag ak (n+4) 30 [mI t,.str nm,.int k] M Q X:=by
 refine ei (AX d) λ d1 d2 d3=> ?_
 refine Ey iq rfl rfl rfl ?_
 refine aa d1 ?_
 refine⟨(show 6<ar by decide),?_⟩
 obtain⟨z,y,hz,hy⟩:∃z y,mW M (.str nm) 6 none=some (.str z)/\gv .add (.str "Default") (.str z)=some (.str y):=⟨_,_,(Ef nm 6).trans (if_pos d2),if_pos d3⟩
 refine ah hz ?_
 show aB (gv .add (.str "Default") (.str z)) _
 refine ah hy ?_
 refine xG hT ?_
 repeat infer_instance
 exact mP d q
theorem ux(d:fF nm c)(hT:aY t T M)(q:∀M',Pu M M'->Q (qp nm c) M'):ag ak (n+5) 29 [mI t,.str nm,.int k] M Q X:=by
 refine Ey il rfl rfl rfl ?_
 refine mO ?_
 refine ite_t (B9 d) ?_
 exact lX d hT q
theorem vR(d:fF nm c)(hT:aY t T M)(hb:Bh T x (.inst 1 [.str nm]))(q:∀M',Pu M M'->Q (qp nm c) M'):ag ak (n+6) 28 [mI t,x,.int 8] M Q X:=by
 refine Ey i8 rfl rfl rfl ?_
 unfold mI
 refine qt hT hb (by show 1≠4;decide) ?_
 repeat infer_instance
 exact ux d hT q
theorem sz(d:fF nm c)(hT:aY t T M)(hb:Bh T x (.inst 1 [.str nm]))(q:∀M',Pu M M'->Q (qp nm c) M'):ag ak (n+7) 27 [sh t,.dict [] [],x,.fn 67] M Q X:=by
 refine Ey m4 rfl rfl rfl ?_
 refine uv λ M1 p1=> ?_
 exact vR d (hT.pu p1) hb λ M2 p2=>q _ (p1.trans p2)
theorem w6(d:fF nm c):(nm== "Pattern")=false/\(nm== "Indexed")=false:=by
 rcases d with⟨rfl,rfl⟩|⟨rfl,rfl⟩|⟨rfl,rfl⟩<;>decide
theorem oh(d:fF nm c)(hT:aY t T M)(hi:At T hd "ImageMask" v)(hv:eu v=false)(hc:At T hd "ColorSpace" (.inst 1 [.str nm]))(q:∀M',Pu M M'->Q (qp nm c) M'):ag ak (n+8) 54 [sh t,.dict [] [],hd,.fn 67] M Q X:=by
 refine Ey jX rfl rfl rfl ?_
 refine cu hT hi ?_
 refine aa hv ?_
 repeat infer_instance
 refine bn hT hc ?_
 repeat infer_instance
 refine sz d hT (.inl rfl) λ M1 p1=> ?_
 refine ite_f (w6 d).1 ?_
 exact q _ p1
theorem bH(d:fF nm c)(hT:aY t T M)(hi:At T hd "ImageMask" v)(hv:eu v=false)(hc:At T hd "ColorSpace" (.inst 1 [.str nm]))(f:fE T hd w h b)
  (q:∀M',Pu M M'->Q (.tup [fj w h b c,.bool false]) M'):ag ak (n+9) 55 [sh t,.dict [] [],hd,.fn 67] M Q X:=by
 refine Ey jY rfl rfl rfl ?_
 refine oh d hT hi hv hc λ M1 p1=> ?_
 repeat infer_instance
 refine fJ (hT.pu p1) f λ M2 p2=> ?_
 have:=q _ (p1.trans p2)
 rw[<-(w6 d).2] at this
 exact this
end
noncomputable def aW(R:V->V->Prop):List V->List V->Prop
 |[],[]=>True
 |x::xs,y::ys=>R x y/\aW R xs ys
 |_,_=>False
theorem aW.len:∀{xs ys:List V},aW R xs ys->xs.length=ys.length:=by
 intro xs
 induction xs with
 |nil=>
  intro y1
  cases y1 with
  |nil=>
   intro y2
   exact rfl
  |cons y3 y4=>
   intro h
   exact h.elim
 |cons x xs ih=>
  intro y5
  cases y5 with
  |nil=>
   intro h
   exact h.elim
  |cons y ys=>
   intro h
   refine aa PQ ?_;refine aa PQ ?_;refine aa (ih h.2) ?_;rfl
theorem aW.mono{R S:V->V->Prop}(h:∀x y,R x y->S x y):∀{xs ys:List V},aW R xs ys->aW S xs ys:=by
 intro xs
 induction xs with
 |nil=>
  intro y1
  cases y1 with
  |nil=>
   intro y2
   exact trivial
  |cons y3 y4=>
   intro q
   exact q.elim
 |cons x xs ih=>
  intro y5
  cases y5 with
  |nil=>
   intro q
   exact q.elim
  |cons y ys=>
   intro q
   exact⟨h _ _ q.1,ih q.2⟩
theorem mf{T:V->AH->(List V->AH->Prop)->Prop}{Q:List V->AH->Prop}{R:V->V->Prop}{items out:List V}(h2:aW R items out)(hl:items.length<=ar)
  (ht:∀x y,R x y->∀M',Pu M M'->∀K:List V->AH->Prop,(∀M2,Pu M M2->K [y] M2)->T x M' K)(hQ:∀M',Pu M M'->Q out M'):bP T items [] M Q:=by
 refine cT (λ rest acc M'=>∃ys,aW R rest ys/\out=acc++ys/\acc.length+rest.length<=ar/\Pu M M') items ⟨out,h2,rfl,by simpa using hl,.refl _⟩ (λ acc M' j=> ?_) λ x xs acc M' j K hK=> ?_
 ·refine jI j λ ys a EN zz p=> ?_;clear j;subst EN
  cases ys with
  |nil=>rw[Qc] at hQ;exact hQ _ p
  |cons y ys=>exact a.elim
 ·refine jI j λ ys a EN l p=> ?_;clear j;subst EN
  cases ys with
  |nil=>exact a.elim
  |cons y ys=>
   rw[PQ] at l
   exact ht x y a.1 M' p K λ M2 p2=>hK _ _ (by simp;exact ae 0x241c350299f830a20e1a814cfc106149102 rfl acc.length xs.length l) ⟨ys,a.2,by simp,by simp;exact ae 0x241c350299f829030a20e1a814cfc106149102 rfl acc.length xs.length l,p2⟩
theorem cb{T:V->AH->(List V->AH->Prop)->Prop}{Q:List V->AH->Prop}{g g':Nat->V}{n:Nat}(hl:n<=ar)
  (ht:∀k,k<n->∀M',Pu M M'->∀K:List V->AH->Prop,(∀M2,Pu M M2->K [g' k] M2)->T (g k) M' K)(hQ:∀M',Pu M M'->Q ((PS n).map g') M'):bP T ((PS n).map g) [] M Q:=by
 refine mf (R:=λ x y=>∃k,k<n/\x=g k/\y=g' k) (out:=(PS n).map g') ?_ (by simpa using hl) (λ x y h M' p K hK=> ?_) hQ
 ·have key:∀l:List Nat,(∀k∈l,k<n)->aW (λ x y=>∃k,k<n/\x=g k/\y=g' k) (l.map g) (l.map g'):=by
   intro l
   induction l with
   |nil=>intro _;trivial
   |cons k l ih=>exact λ h=>⟨⟨k,h k (by simp),rfl,rfl⟩,ih λ j hj=>h j (by simp[hj])⟩
  exact key _ λ k hk=>So.mp hk
 ·refine bz h λ k hk EN G6=> ?_;clear h;subst EN;subst G6
  exact ht k hk M' p K hK
noncomputable def bN(px:List (List (List Nat)))(i j:Nat):List Nat:=(px.getD i []).getD j []
noncomputable def bS(px:List (List (List Nat)))(i j:Nat):Nat:=(bN px i j).getD 0 0
theorem pt{α β:Type}(d:α)(f:α->β)(l:List α):l.map f=(PS l.length).map λ i=>f (l.getD i d):=by
 refine List.ext_getElem (by simp) λ i h1 h2=> ?_
 simp
 refine aa (PI (by simpa using h1)) ?_;rfl
theorem fX(d:ca px w h b c):bk px=aK h w λ i j=>cH (bN px i j):=by
 unfold bk aK
 refine aa (pt [] dz px) ?_;refine aa d.len ?_
 congr 1
 refine RO λ i hi=> ?_
 have hi:=So.mp hi
 unfold dz
 have hr:px.getD i []∈px:=by
  refine aa P9 ?_;refine aa (PI (by refine aa d.len ?_;exact hi)) ?_;exact QK _
 refine aa (pt [] cH (px.getD i [])) ?_;refine aa (d.row _ hr) ?_
 rfl
theorem ca.at_(d:ca px w h b c)(hi:i<h)(hj:j<w):(bN px i j).length=c/\∀s∈bN px i j,s<2^b:=by
 have hr:px.getD i []∈px:=by
  refine aa P9 ?_;refine aa (PI (by refine aa d.len ?_;exact hi)) ?_;exact QK _
 have hp:bN px i j∈px.getD i []:=by
  unfold bN
  refine aa (P9 (l:=px.getD i [])) ?_;refine aa (PI (by refine aa (d.row _ hr) ?_;exact hj)) ?_;exact QK _
 exact⟨d.Ku _ hr _ hp,d.K6 _ hr _ hp⟩
theorem lg(h:p.length=1):cH p=.tup [.int (p.getD 0 0)]:=by
 match p,h with
 |[s],_=>rfl
noncomputable def EI(hd:V)(px:List (List (List Nat)))(b:Nat):V:=.inst 3 [hd,.bytes (33::bX b px)]
section
variable{n:Nat}{t:Nat}{T:List V}{hd:V}{nm:String}{w h b c:Nat}{px:List (List (List Nat))}{M:AH}{Q:V->AH->Prop}{X:AH->Prop}
theorem i0(q:Q (.bytes (bX b px)) M):ag ak (n+1) 67 [sh t,EI hd px b] M Q X:=by
 refine Ey lE rfl rfl rfl ?_
 exact⟨by decide,q⟩
theorem pM(d:fF nm c)(hT:aY t T M)(hi:At T hd "ImageMask" v)(hv:eu v=false)(hc:At T hd "ColorSpace" (.inst 1 [.str nm]))(f:fE T hd w h b)(dm:ca px w h b c)(hw:w<=8)(hh:h<=8)
  (q:∀M',Pu M M'->Q (bk px) M'):ag ak (n+10) 56 [sh t,.dict [] [],EI hd px b,.fn 67] M Q X:=by
 have hb:1<=b/\b<=16:=by rcases f.dep with⟨v,a1,a2,a3,rfl⟩|⟨v,a1,a2,a3,a4⟩<;>(first|exact ae 0x707084186100 rfl|exact ae 0x91c1c11051848208203c110e84439110e244385101 rfl b a3)
 have KI:1<=c/\c<=4:=by rcases d with⟨_,rfl⟩|⟨_,rfl⟩|⟨_,rfl⟩<;>(first|exact ae 0x706484186100 rfl|exact ae 0x70648c18e100 rfl|exact ae 0x706490192100 rfl)
 refine Ey kr rfl rfl rfl ?_
 refine bH d hT hi hv hc f λ M1 p1=> ?_
 refine i0 (hd:=hd) (px:=px) ?_
 refine fI dm f.w1 hw hb.1 hb.2 KI.1 KI.2 hh λ M2 p2=>q _ (p1.trans p2)
theorem sG(hv:br v k p)(q:∀s,s= "int"∨s= "real" ->Q (.str s) M):ag ak (n+1) 11 [v] M Q X:=by
 cases hv
 ·refine Ey bJ rfl rfl rfl ?_;repeat infer_instance
  exact q _ (.inl rfl)
 ·refine Ey bJ rfl rfl rfl ?_;repeat infer_instance
  exact q _ (.inr rfl)
theorem qx(hv:br v k p)(q:Q (.bool true) M):ag ak (n+2) 12 [v] M Q X:=by
 refine Ey iM rfl rfl rfl ?_
 refine sG hv λ s hs=> ?_
 rcases hs with rfl|rfl
 ·and_intros;exact q
 ·and_intros;exact q
theorem sB(q:Q (.bool false) M):ag ak (n+2) 12 [.bool v] M Q X:=by
 refine Ey iM rfl rfl rfl ?_
 refine Ey bJ rfl rfl rfl ?_;repeat infer_instance
 exact q
end
noncomputable def cv:List V->List V
 |x::y::r=>.tup [x,y]::cv r
 |_=>[]
theorem mZ:∀{vs:List V} {j:Nat} {x y:V},vs[2*j]? =some x->vs[2*j+1]? =some y->(cv vs)[j]? =some (.tup [x,y])
 |[],j,x,y,h,_=>by simp at h
 |[a],j,x,y,_,h=>by simp at h
 |a::b::r,0,x,y,h,h2=>by
  have h:some a=some x:=h
  have h2:some b=some y:=h2
  cases h;cases h2;rfl
 |a::b::r,j+1,x,y,h,h2=>by
  have:=mZ (vs:=r) (j:=j) (x:=x) (y:=y) (by simpa[Uk] using h) (by simpa[Uk] using h2)
  exact this
theorem pe:∀{vs:List V} {k:Nat},vs.length=2*k->(cv vs).length=k
 |[],k,h=>by
  have:k=0:=by simp at h;exact ae 0x90e04433e246001 rfl k h
  subst this;rfl
 |[a],k,h=>by simp at h;lia
 |a::b::r,k,h=>by
  rw[PQ,PQ] at h
  obtain⟨k,rfl⟩:∃m,k=m+1:=⟨k-1,ae 0x90c18428524833e248184185102 rfl r.length k h⟩
  show(cv r).length+1=_
  refine aa (pe (vs:=r) (k:=k) (ae 0x90cf8924433e206148184185102 rfl r.length k h)) ?_;rfl
theorem uY{T:V->AH->(List V->AH->Prop)->Prop}{Q:List V->AH->Prop}{vs:List V}{k:Nat}(hk:vs.length=2*k)(hl:k<=1000)
  (ht:∀(j:Nat) x y,j<k->vs[2*j]? =some x->vs[2*j+1]? =some y->∀K:List V->AH->Prop,K [.tup [x,y]] M->T (.int ((2*j:Nat):Int)) M K)(hQ:Q (cv vs) M):bP T (aZ 0 2 k) [] M Q:=by
 have hp:=pe hk
 refine cT (λ rest acc M'=>M'=M/\∃j,j<=k/\rest=aZ ((2*j:Nat):Int) 2 (k-j)/\acc=(cv vs).take j) _ ⟨rfl,0,ae 0x146001 rfl k,rfl,rfl⟩ (λ acc M' j=> ?_) λ x xs acc M' j K hK=> ?_
 ·obtain⟨rfl,j,e0,e,rfl⟩:=j
  have:=bF e
  refine aa (Qg (ae 0x92414d10e009348349103 rfl ((cv vs).length) k j hp this)) ?_
  exact hQ
 ·obtain⟨rfl,j,e0,e,rfl⟩:=j
  refine bz (fT e) λ m e1 EN e2=> ?_;subst EN
  have h1:vs[2*j]? =some (vs[2*j]'(ae 0x924244f8930c18540934833e249104 rfl vs.length k j m hk e1)):=PI _
  have h2:vs[2*j+1]? =some (vs[2*j+1]'(ae 0x924244184f8930c18540934833e249104 rfl vs.length k j m hk e1)):=PI _
  refine ht j _ _ (ae 0x90914830614c249103 rfl k j m e1) h1 h2 K (hK _ _ ?_ ⟨rfl,j+1,ae 0x90510614830614c249103 rfl k j m e1,?_,?_⟩)
  ·simp;unfold ar;exact ae 0x1248386a0533f06111348145207e80c7fd103 rfl k j ((cv vs).length) hl e0
  ·refine aa e2 ?_;refine aa (show m=k-(j+1) by exact ae 0x90c20614914c30614c249103 rfl k j m e1) ?_;refine aa (show((2*j:Nat):Int)+((2:Nat):Int)=((2*(j+1):Nat):Int) by exact ae 0x18e3e20614413a238f89101 rfl j) ?_;rfl
  ·refine aa Q0 ?_;refine aa (mZ h1 h2) ?_;rfl
theorem nI(k:Nat):(if(0:Int)<((2*k:Nat):Int) then((((2*k:Nat):Int)-0-1)/2+1).toNat else 0)=k:=pE (c:=2) (by decide)
section
variable{n:Nat}{t:Nat}{T:List V}{hd:V}{nm:String}{w h b c:Nat}{px:List (List (List Nat))}{M:AH}{Q:V->AH->Prop}{X:AH->Prop}
theorem uw(q:∀M',Pu M M'->Q (.list [.tup [.int 0,.int 1]]) M'):ag ak (n+1) 44 [fj w h b 1,.bool false] M Q X:=by
 refine Ey gR rfl rfl rfl ?_
 refine⟨by decide,?_⟩
 repeat infer_instance
 refine⟨show 1<=ar by decide,?_⟩
 exact q _ (.refl _)
theorem on(hT:aY t T M)(hb:At T hd "Decode" .none)(q:∀M',Pu M M'->Q (.list [.tup [.int 0,.int 1]]) M'):ag ak (n+3) 53 [sh t,hd,fj w h b 1,.bool false] M Q X:=by
 refine Ey cP rfl rfl rfl ?_
 refine bn hT hb ?_
 repeat infer_instance
 exact uw q
theorem pP(hT:aY t T M)(hb:At T hd "Decode" (.list ps))(hl:ps.length≠2)(q:X M):ag ak (n+3) 53 [sh t,hd,fj w h b 1,.bool false] M Q X:=by
 refine Ey cP rfl rfl rfl ?_
 refine bn hT hb ?_
 and_intros
 have e:((ps.length:Int)==2*(1:Nat))=false:=by simp;exact ae 0x24980688e44980389101 rfl ps.length hl
 refine aa e ?_
 repeat infer_instance
 exact q
theorem pO(hT:aY t T M)(hb:At T hd "Decode" (.list [x,y]))(hx:Bh T x v)(hy:Bh T y u)(hv:br v t1 p1)(hu:br u t2 p2)
  (q:∀M',Pu M M'->Q (.list [.tup [v,u]]) M'):ag ak (n+3) 53 [sh t,hd,fj w h b 1,.bool false] M Q X:=by
 have nv:NR v:=by cases hv<;>first|exact trivial|exact(show(0:Nat)≠4 by decide)
 have nu:NR u:=by cases hu<;>first|exact trivial|exact(show(0:Nat)≠4 by decide)
 refine Ey cP rfl rfl rfl ?_
 refine bn hT hb ?_
 repeat infer_instance
 refine eM hT hx nv ?_
 refine⟨show 1<=ar by decide,?_⟩
 repeat infer_instance
 refine eM hT hy nu ?_
 refine⟨show 2<=ar by decide,?_⟩
 refine qx hv ?_
 repeat infer_instance
 refine⟨show 0<=ar by decide,?_⟩
 refine qx hu ?_
 repeat infer_instance
 refine⟨show 0<=ar by decide,?_⟩
 and_intros
 refine aa (show(if(0:Int)<((([]++[v]++[u]:List V).length:Nat):Int) then((((([]++[v]++[u]:List V).length:Nat):Int)-0-1)/2+1).toNat else 0)=1 from nI 1) ?_
 refine⟨show 1<=ar by decide,?_⟩
 repeat infer_instance
 refine⟨show 1<=ar by decide,?_⟩
 exact q _ (.refl _)
theorem oo(hT:aY t T M)(hb:At T hd "Decode" (.list [x,y]))(hx:Bh T x v)(hy:Bh T y (.bool bo))(hv:br v k p)(q:∀M',Pu M M'->X M'):ag ak (n+3) 53 [sh t,hd,fj w h b 1,.bool false] M Q X:=by
 have nv:NR v:=by cases hv<;>first|exact trivial|exact(show(0:Nat)≠4 by decide)
 refine Ey cP rfl rfl rfl ?_
 refine bn hT hb ?_
 repeat infer_instance
 refine eM hT hx nv ?_
 refine⟨show 1<=ar by decide,?_⟩
 repeat infer_instance
 refine eM hT hy trivial ?_
 refine⟨show 2<=ar by decide,?_⟩
 refine qx hv ?_
 repeat infer_instance
 refine⟨show 0<=ar by decide,?_⟩
 refine sB ?_
 repeat infer_instance
 refine⟨show 1<=ar by decide,?_⟩
 repeat infer_instance
 exact q _ (.refl _)
end
def nW(T:List V)(hd:V)(v u:V):Prop:=(At T hd "Decode" .none/\v=.int 0/\u=.int 1)∨∃x y,At T hd "Decode" (.list [x,y])/\Bh T x v/\Bh T y u
section
variable{n:Nat}{t:Nat}{T:List V}{hd:V}{nm:String}{w h b c pl:Nat}{px:List (List (List Nat))}{v u:V}{t1 t2:Int}{p1 p2:Nat}{M:AH}{Q:V->AH->Prop}{X:AH->Prop}
theorem kj(hT:aY t T M)(hde:nW T hd v u)(hv:br v t1 p1)(hu:br u t2 p2)(q:∀M',Pu M M'->Q (.list [.tup [v,u]]) M'):ag ak (n+3) 53 [sh t,hd,fj w h b 1,.bool false] M Q X:=by
 rcases hde with⟨h,rfl,rfl⟩|⟨x,y,h,hx,hy⟩
 ·exact on hT h q
 ·exact pO hT h hx hy hv hu q
theorem fE.bits(f:fE T hd w h b):1<=b/\b<=16:=by rcases f.dep with⟨v,a1,a2,a3,rfl⟩|⟨v,a1,a2,a3,a4⟩<;>(first|exact ae 0x707084186100 rfl|exact ae 0x91c1c11051848208203c110e84439110e244385101 rfl b a3)
noncomputable def uC(b pl:Nat)(t1 t2:Int)(p1 p2:Nat)(s:Nat):V:=ej (b8 (dA s b t1 t2 p1 p2) (dB b p1 p2) pl) pl
theorem Ab(hT:aY t T M)(f:fE T hd w h b)(hde:nW T hd v u)(hv:br v t1 p1)(hu:br u t2 p2)(b1:t1.natAbs<2^40)(b2:t2.natAbs<2^40)(q1:p1<=4)(q2:p2<=4)(hp:pl<=9)(dm:ca px w h b 1)(hw:w<=8)(hh:h<=8)
  (q:∀M',Pu M M'->Q (aK h w λ i j=>uC b pl t1 t2 p1 p2 (bS px i j)) M'):ag ak (n+7) 59 [sh t,EI hd px b,.fn 67,.int pl] M Q X:=by
 have hb:=f.bits
 refine Ey cI rfl rfl rfl ?_
 refine fJ hT f λ M1 k1=> ?_
 refine kj (hT.pu k1) hde hv hu λ M2 k2=> ?_
 refine i0 (hd:=hd) (px:=px) ?_
 refine fI (c:=1) dm f.w1 hw hb.1 hb.2 (ae 0x186100 rfl) (ae 0x192100 rfl) hh λ M3 k3=> ?_
 refine aa (fX dm) ?_
 unfold aK
 refine cb (g':=λ i=>.list ((PS w).map λ j=>uC b pl t1 t2 p1 p2 (bS px i j))) (by unfold ar;exact ae 0x48386a0533f441a1101 rfl h hh) (λ i hi M4 k4 K hK=> ?_) λ M4 k4=>q _ (((k1.trans k2).trans k3).trans k4)
 repeat infer_instance
 refine cb (g':=λ j=>uC b pl t1 t2 p1 p2 (bS px i j)) (by unfold ar;exact ae 0x48386a0533f441a1101 rfl w hw) (λ j hj M5 k5 K2 E9=> ?_) λ M5 k5=>hK _ (k4.trans k5)
 obtain⟨e1,e2⟩:=dm.at_ hi hj
 and_intros
 show ag ak (n+6) 45 [cH (bN px i j),_,_,_] _ _ _
 refine aa (lg e1) ?_
 have hs:bS px i j<=2^b-1:=by
  have:bS px i j<2^b:=e2 _ (by
   unfold bS
   refine aa P9 ?_;refine aa (PI (ae 0x909180385101 rfl ((bN px i j).length) e1)) ?_;exact QK _)
  exact ae 0x904285244249102 rfl (bS px i j) (2^b) this
 refine lU hb.1 hb.2 hs hv hu b1 b2 q1 q2 hp λ M6 k6=> ?_
 exact E9 _ (k5.trans k6)
theorem jR(hT:aY t T M)(hw:At T hd "Width" v)(hv:CF v)(q:X M):ag ak (n+7) 59 [sh t,EI hd px b,.fn 67,.int pl] M Q X:=by
 refine Ey cI rfl rfl rfl ?_
 exact om hT hw hv q
theorem pK{b':Nat}(hT:aY t T M)(hw:At T hd "Width" (.int w))(w1:1<=w)(hh:At T hd "Height" (.int h))(h1:1<=h)(hi:At T hd "ImageMask" v)(hb:At T hd "BitsPerComponent" (.int b'))(EZ:1<=b')
  (h5:¬(b'=1∨b'=2∨b'=4∨b'=8∨b'=16))(q:X M):ag ak (n+7) 59 [sh t,EI hd px b,.fn 67,.int pl] M Q X:=by
 refine Ey cI rfl rfl rfl ?_
 exact i3 hT hw w1 hh h1 hi hb EZ (.inl h5) q
theorem sA(hT:aY t T M)(f:fE T hd w h b)(hb:At T hd "Decode" (.list ps))(hl:ps.length≠2)(q:∀M',Pu M M'->X M'):ag ak (n+7) 59 [sh t,EI hd px b,.fn 67,.int pl] M Q X:=by
 refine Ey cI rfl rfl rfl ?_
 refine fJ hT f λ M1 k1=> ?_
 exact pP (hT.pu k1) hb hl (q _ k1)
theorem qu(hT:aY t T M)(f:fE T hd w h b)(hb:At T hd "Decode" (.list [x,y]))(hx:Bh T x v)(hy:Bh T y (.bool bo))(hv:br v t1 p1)(q:∀M',Pu M M'->X M'):ag ak (n+7) 59 [sh t,EI hd px b,.fn 67,.int pl] M Q X:=by
 refine Ey cI rfl rfl rfl ?_
 refine fJ hT f λ M1 k1=> ?_
 exact oo (hT.pu k1) hb hx hy hv λ M2 k2=>q _ (k1.trans k2)
theorem n9(hT:aY t T M)(f:fE T hd w h' b)(hde:nW T hd v u)(hv:br v t1 p1)(hu:br u t2 p2)(dm:ca px w h b 1)(hw:w<=8)(hh:h<h')(I1:h'<=8)(q:∀M',Pu M M'->X M'):ag ak (n+7) 59 [sh t,EI hd px b,.fn 67,.int pl] M Q X:=by
 have hb:=f.bits
 have HK:=f.w1
 refine Ey cI rfl rfl rfl ?_
 refine fJ hT f λ M1 k1=> ?_
 refine kj (hT.pu k1) hde hv hu λ M2 k2=> ?_
 refine i0 (hd:=hd) (px:=px) ?_
 refine jS (c:=1) (ae 0x241fa031ff441a1101 rfl w hw) hb.2 (ae 0x1aa100 rfl) (ae 0x241fa031ff441a1101 rfl h' I1) ?_ (q _ (k1.trans k2))
 refine aa (jF dm) ?_
 have:1<=(w*1*b+7)/8:=by
  have:1<=w*1*b:=VA (ae 0x909085180146101 rfl w HK) hb.1
  exact ae 0x92414a11c10673e84819d10419d13e848146102 rfl (w*1*b) ((w*1*b+7)/8) this (lO _ 7)
 exact VV hh this
end
section
variable{n:Nat}{t:Nat}{T:List V}{hd:V}{nm:String}{w h b c pl:Nat}{px:List (List (List Nat))}{v u:V}{t1 t2:Int}{p1 p2:Nat}{M:AH}{Q:V->AH->Prop}{X:AH->Prop}
theorem dQ{T:V->AH->(List V->AH->Prop)->Prop}{Q:List V->AH->Prop}{g:Nat->V}{g':Nat->Nat->V}(hh:h<=8)(hw:w<=8)
  (ht:∀i,i<h->∀M',Pu M M'->∀K:List V->AH->Prop,(∀M2,Pu M M2->K [.list ((PS w).map (g' i))] M2)->T (g i) M' K)(hQ:∀M',Pu M M'->Q ((PS h).map λ i=>.list ((PS w).map λ j=>g' i j)) M'):bP T ((PS h).map g) [] M Q:=
 cb (g':=λ i=>.list ((PS w).map λ j=>g' i j)) (by unfold ar;exact ae 0x48386a0533f441a1101 rfl h hh) ht hQ
theorem xp(s p:Nat):((s:Int)==(p:Int))=(s==p):=by
 rewrite[SO];simp;exact ae 0xa0d244639239102 rfl s p
theorem mJ{low p:Nat}(hp:p=if low=0 then 0 else 1)(dm:ca px w h b 1)(hw:w<=8)(hh:h<=8)(q:∀M',Pu M M'->Q (aK h w λ i j=>.bool (bS px i j==p)) M'):ag ak (n+1) 47 [bk px,.int low] M Q X:=by
 refine aa (fX dm) ?_
 refine Ey fL rfl rfl rfl ?_
 have main:bq ak (ag ak n) (bC 1 fL.body) [some (aK h w λ i j=>cH (bN px i j)),some (.int low),some (.int p),none,none] M (λ zz M'=>Q .none M') Q X:=by
  refine dQ (h:=h) (w:=w) (g':=λ i j=>.bool (bS px i j==p)) hh hw (λ i hi M1 k1 K hK=> ?_) λ M1 k1=>q _ k1
  repeat infer_instance
  refine cb (n:=w) (g':=λ j=>.bool (bS px i j==p)) (by unfold ar;exact ae 0x48386a0533f441a1101 rfl w hw) (λ j hj M2 k2 K2 E9=> ?_) λ M2 k2=>hK _ (k1.trans k2)
  repeat infer_instance
  refine ah (show eh M2 (cH (bN px i j)) (.int 0)=some (.int (bS px i j:Nat)) from by refine aa (lg (dm.at_ hi hj).1) ?_;rfl) ?_
  and_intros
  refine aa (xp _ _) ?_
  exact E9 _ k2
 refine⟨λ h=> ?_,λ h=> ?_⟩
 ·have:low=0:=by simpa using h
  subst this
  rw[if_pos rfl] at hp
  subst hp
  exact main
 ·have:low≠0:=by simpa using h
  rw[if_neg this] at hp
  subst hp
  exact main
theorem qs{g:Nat->Nat->Bool}(hw:w<=8)(hh:h<=8)(q:∀M',Pu M M'->Q (aK h w λ i j=>.inst 0 [.int (if g i j then 1 else 0),.int 0]) M'):ag ak (n+2) 48 [aK h w λ i j=>.bool (g i j)] M Q X:=by
 unfold aK
 refine Ey ik rfl rfl rfl ?_
 refine dQ (g':=λ i j=>.inst 0 [.int (if g i j then 1 else 0),.int 0]) hh hw (λ i hi M1 k1 K hK=> ?_) q
 repeat infer_instance
 refine cb (g':=λ j=>.inst 0 [.int (if g i j then 1 else 0),.int 0]) (by unfold ar;exact ae 0x48386a0533f441a1101 rfl w hw) (λ j hj M2 k2 K2 E9=> ?_) λ M2 k2=>hK _ (k1.trans k2)
 repeat infer_instance
 exact aR (p:=0) λ M3 k3=>E9 _ (k2.trans k3)
noncomputable def ls:List V:=[.tup [.tup [.int 0,.int 0],.tup [.int 1,.int 0]],.tup [.tup [.int 1,.int 0],.tup [.int 0,.int 0]]]
noncomputable def lr(t1 t2:Int)(p1 p2:Nat):V:=.tup [.tup [.int t1,.int p1],.tup [.int t2,.int p2]]
theorem gQ(hT:aY t T M)(hi:At T hd "ImageMask" vi)(hvi:eu vi=true)(f:fE T hd w h' b)(hde:nW T hd v u)(hv:br v t1 p1)(hu:br u t2 p2)
  (hm:eJ (lr t1 t2 p1 p2) ls=some bo)
  (q:bo=true->∀M',Pu M M'->ag ak (n+5) 67 [sh t,EI hd px b] M' (λ NM M1=>ag ak (n+5) 40 [NM,fj w h' b 1] M1 (λ NN M1=>ag ak (n+5) 47 [NN,.int t1] M1 Q X) X) X)(q2:bo=false->∀M',Pu M M'->X M'):
  ag ak (n+6) 58 [sh t,EI hd px b,.fn 67] M Q X:=by
 refine Ey d7 rfl rfl rfl ?_
 refine cu hT hi ?_
 refine aa hvi ?_
 repeat infer_instance
 refine fJ hT f λ M1 k1=> ?_
 refine kj (hT.pu k1) hde hv hu λ M2 k2=> ?_
 repeat infer_instance
 refine eG hv λ M3 k3=> ?_
 refine fS ?_
 refine⟨show 1<=ar by decide,?_⟩
 repeat infer_instance
 refine eG hu λ M4 k4=> ?_
 refine fS ?_
 refine⟨show 2<=ar by decide,?_⟩
 have kk:=((k1.trans k2).trans k3).trans k4
 cases bo with
 |true=>
  refine ite_f (congrArg (!·) (PZ hm)) ?_
  exact q rfl _ kk
 |false=>
  refine ite_t (congrArg (!·) (PZ hm)) ?_
  exact q2 rfl _ kk
theorem uu{low p:Nat}(hT:aY t T M)(hi:At T hd "ImageMask" vi)(hvi:eu vi=true)(f:fE T hd w h b)(hde:nW T hd v u)(hv:br v low 0)(hu:br u t2 p2)(hm:eJ (lr low t2 0 p2) ls=some true)(hp:p=if low=0 then 0 else 1)
  (dm:ca px w h b 1)(hw:w<=8)(hh:h<=8)(q:∀M',Pu M M'->Q (aK h w λ i j=>.bool (bS px i j==p)) M'):ag ak (n+6) 58 [sh t,EI hd px b,.fn 67] M Q X:=by
 have hb:=f.bits
 refine gQ hT hi hvi f hde hv hu hm (λ zz M1 k1=> ?_) λ h=>by cases h
 refine i0 ?_
 refine fI dm f.w1 hw hb.1 hb.2 (ae 0x186100 rfl) (ae 0x192100 rfl) hh λ M2 k2=> ?_
 exact mJ hp dm hw hh λ M3 k3=>q _ ((k1.trans k2).trans k3)
theorem mL(hT:aY t T M)(hi:At T hd "ImageMask" vi)(hvi:eu vi=true)(f:fE T hd w h b)(hde:nW T hd v u)(hv:br v t1 p1)(hu:br u t2 p2)(hm:eJ (lr t1 t2 p1 p2) ls=some false)
  (q:∀M',Pu M M'->X M'):ag ak (n+6) 58 [sh t,EI hd px b,.fn 67] M Q X:=
 gQ hT hi hvi f hde hv hu hm (λ h=>by cases h) λ zz=>q
theorem lA(hT:aY t T M)(hi:At T hd "ImageMask" vi)(hvi:eu vi=true)(f:fE T hd w h' b)(hde:nW T hd v u)(hv:br v t1 p1)(hu:br u t2 p2)(hm:eJ (lr t1 t2 p1 p2) ls=some true)
  (dm:ca px w h b 1)(hw:w<=8)(hh:h<h')(I1:h'<=8)(q:∀M',Pu M M'->X M'):ag ak (n+6) 58 [sh t,EI hd px b,.fn 67] M Q X:=by
 have hb:=f.bits
 have HK:=f.w1
 refine gQ hT hi hvi f hde hv hu hm (λ zz M1 k1=> ?_) λ h=>by cases h
 refine i0 ?_
 refine jS (ae 0x241fa031ff441a1101 rfl w hw) hb.2 (ae 0x1aa100 rfl) (ae 0x241fa031ff441a1101 rfl h' I1) ?_ (q _ k1)
 refine aa (jF dm) ?_
 have:1<=(w*1*b+7)/8:=by
  have:1<=w*1*b:=VA (ae 0x909085180146101 rfl w HK) hb.1
  exact ae 0x92414a11c10673e84819d10419d13e848146102 rfl (w*1*b) ((w*1*b+7)/8) this (lO _ 7)
 exact VV hh this
theorem jU(hT:aY t T M)(hi:At T hd "ImageMask" vi)(hvi:eu vi=false)(q:X M):ag ak (n+6) 58 [sh t,EI hd px b,.fn 67] M Q X:=by
 refine Ey d7 rfl rfl rfl ?_
 refine cu hT hi ?_
 refine aa hvi ?_
 repeat infer_instance
 exact q
theorem lV{b':Nat}(hT:aY t T M)(hi:At T hd "ImageMask" vi)(hvi:eu vi=true)(hw:At T hd "Width" (.int w))(w1:1<=w)(hh:At T hd "Height" (.int h))(h1:1<=h)(hb:At T hd "BitsPerComponent" (.int b'))(EZ:1<=b')(Gu:b'≠1)
  (q:X M):ag ak (n+6) 58 [sh t,EI hd px b,.fn 67] M Q X:=by
 refine Ey d7 rfl rfl rfl ?_
 refine cu hT hi ?_
 refine aa hvi ?_
 repeat infer_instance
 exact i3 hT hw w1 hh h1 hi hb EZ (.inr ⟨hvi,Gu⟩) q
end
noncomputable def cp(k:Nat):V:=.int k
section
variable{n:Nat}{t:Nat}{T:List V}{hd:V}{nm:String}{w h b c pl:Nat}{px:List (List (List Nat))}{v u:V}{t1 t2:Int}{p1 p2:Nat}{M:AH}{Q:V->AH->Prop}{X:AH->Prop}
def dJ(b:Nat)(v:V):Prop:=∃k:Nat,v=.int k/\k<=2^b-1
def gw(v:V):Prop:=(∃k:Int,v=.int k)∨∃b,v=.bool b
theorem rg(hT:aY t T M)(h2:aW (λ x y=>Bh T x y/\NR y) ps vs)(hb:b<=16)(hc:c<=4)(hl:ps.length<=1000)(hv:vs.length=2*c->∀v∈vs,gw v)
  (q:vs.length=2*c->(∀v∈vs,dJ b v)->∀M',Pu M M'->Q (.list (cv vs)) M')(q2:vs.length≠2*c∨(∃v∈vs,¬dJ b v)->∀M',Pu M M'->X M'):
  ag ak (n+3) 57 [sh t,.list ps,fj w h b c] M Q X:=by
 have hlen:=h2.len
 refine Ey ko rfl rfl rfl ?_
 refine mf h2 (by unfold ar;exact ae 0x120e1a814cfd107e80c7fd101 rfl ps.length hl) (λ x y h M' p K hK=> ?_) λ M1 k1=> ?_
 ·repeat infer_instance
  exact eM (hT.pu p) h.1 h.2 (hK _ p)
 have hL:cU=2^256:=rfl
 refine ao (ae 0x91c2c001fce3910b0007f88191101 rfl c hc) ?_
 refine⟨λ hz=> ?_,λ hz=> ?_⟩
 ·refine q2 (.inl ?_) _ k1
  intro e;rw[e] at hz;simp at hz
 ·have Gm:vs.length=2*c:=by
   simp at hz;exact ae 0x90cf8924463e239239102 rfl vs.length c hz
  replace hv:=hv Gm
  by_cases hok:∀v∈vs,dJ b v
  ·refine cD (λ rest ρ M'=>Pu M M'/\(∀v∈rest,dJ b v)/\∃o4 o5 o6,ρ=[some (sh t),some (.list ps),some (fj w h b c),some (.list vs),o4,o5,o6]) _ ⟨k1,hok,_,_,_,rfl⟩ (λ ρ M' j=> ?_) λ x xs ρ M' j K hK=> ?_
   ·obtain⟨k2,_,o4,o5,o6,rfl⟩:=j
    have hd:(decide ((0:Int)<2)&&cm 0&&cm ((vs.length:Nat):Int)&&cm 2)=true:=by
     simp only [P1]
     exact⟨⟨⟨by decide,rfl⟩,bU (ae 0x2490a1d07f38e48349107e80c7fd102 rfl ps.length vs.length hl hlen)⟩,rfl⟩
    refine ao hd ?_
    and_intros
    refine aa Gm ?_
    refine aa (show(if(0:Int)<((2*c:Nat):Int) then((((2*c:Nat):Int)-0-1)/2+1).toNat else 0)=c from nI c) ?_
    refine⟨by refine aa (ba _ _ _) ?_;unfold ar;exact ae 0x48386a0533f44191101 rfl c hc,?_⟩
    refine uY Gm (ae 0x241fa031ff44191101 rfl c hc) (λ j x y hj h1 h2 K hK=> ?_) (q Gm hok _ k2)
    have sub:∀{i:Nat} {y:V},vs[i]? =some y->eh M' (.list vs) (.int (i:Int))=some y:=λ{i y} h=>by
     show(if 0<=(i:Int) then vs[(i:Int).toNat]? else none)=_
     refine aa (if_pos (ae 0x10e46001 rfl i)) ?_;refine aa (PH _) ?_;exact h
    repeat infer_instance
    refine ah (sub h1) ?_
    refine aa (show((2*j:Nat):Int)+1=((2*j+1:Nat):Int) by exact ae 0x638184f89106138f89101 rfl j) ?_
    refine ah (sub h2) ?_
    exact hK
   ·obtain⟨k2,hx,o4,o5,o6,rfl⟩:=j
    refine ai (hx x (by simp)) λ k HS hk=> ?_;subst HS
    repeat infer_instance
    have hle:((k:Int)<=((2^b-1:Nat):Int)):=ae 0x910e0a148e4410a149102 rfl k (2^b) hk
    refine vS hb ?_
    refine ite_f (by refine aa (decide_eq_true hle) ?_;rfl) ?_
    exact hK _ _ ⟨k2,λ v hv=>hx v (by simp[hv]),_,_,_,rfl⟩
  ·have ES:∃v∈vs,¬dJ b v:=by
    refine Ra λ e=>hok λ v hv=> ?_
    exact Ra λ e2=>e ⟨v,hv,e2⟩
   refine cD (λ rest ρ M'=>Pu M M'/\(∀v∈rest,gw v)/\(∃v∈rest,¬dJ b v)/\∃o4 o5 o6,ρ=[some (sh t),some (.list ps),some (fj w h b c),some (.list vs),o4,o5,o6]) _ ⟨k1,hv,ES,_,_,_,rfl⟩ (λ ρ M' j=> ?_) λ x xs ρ M' j K hK=> ?_
   ·refine yL j λ zz zz EN zz=> ?_;clear j;rcases EN with⟨v,hv,_⟩
    cases hv
   ·obtain⟨k2,hx,⟨v0,Lp,hn⟩,o4,o5,o6,rfl⟩:=j
    have next:dJ b x->∀o4,K [some (sh t),some (.list ps),some (fj w h b c),some (.list vs),o4,o5,o6] M':=λ hk o4=>hK _ _ ⟨k2,λ v hv=>hx v (by simp[hv]),⟨v0,by
     rcases PU.mp Lp with e|e
     ·subst e;exact absurd hk hn
     ·exact e,hn⟩,_,_,_,rfl⟩
    rcases hx x (by simp) with⟨k,rfl⟩|⟨bo,rfl⟩
    ·repeat infer_instance
     refine⟨λ h0=> ?_,λ h0=> ?_⟩
     ·refine vS hb ?_
      have h0:0<=k:=of_decide_eq_true h0
      refine⟨λ h=> ?_,λ h=> ?_⟩
      ·exact q2 (.inr ES) _ k2
      ·refine next ⟨k.toNat,by refine aa (Ur h0) ?_;rfl,?_⟩ _
       have:k<=((2^b-1:Nat):Int):=by simpa using h
       exact ae 0x904285135110e0a145111 rfl (2^b) k this
     ·repeat infer_instance
      exact q2 (.inr ES) _ k2
    ·repeat infer_instance
     exact q2 (.inr ES) _ k2
noncomputable def fD:List Nat->List Nat->Bool
 |s::p,lo::hi::r=>(decide (lo<=s)&&decide (s<=hi))&&fD p r
 |_,_=>true
theorem xH(hl:ns.length=2*p.length)(q:Q (.bool (fD p ns)) M):ag ak (n+1) 46 [cH p,.list (cv (ns.map cp))] M Q X:=by
 unfold cH
 refine Ey m7 rfl rfl rfl ?_
 refine cD (λ rest ρ M'=>M'=M/\∃(p' r':List Nat) (o2 o3:Option V),rest=n6 (p'.map λ s:Nat=>V.int s) (cv (r'.map cp))/\r'.length=2*p'.length/\ρ=[some (.tup (p.map λ s:Nat=>V.int s)),some (.list (cv (ns.map cp))),o2,o3]/\fD p ns=fD p' r') _
  ⟨rfl,p,ns,_,_,rfl,hl,rfl,rfl⟩ (λ ρ M' j=> ?_) λ x xs ρ M' j K hK=> ?_
 ·obtain⟨rfl,p',r',o2,o3,e1,e2,rfl,e3⟩:=j
  have:fD p' r'=true:=by
   cases p' with
   |nil=>cases r'<;>rfl
   |cons s p'=>
    match r',e2 with
    |lo::hi::r,_=>cases e1
  rw[e3,this] at q
  exact q
 ·obtain⟨rfl,p',r',o2,o3,e1,e2,rfl,e3⟩:=j
  match p',r',e2 with
  |[],[],_=>cases e1
  |s::p',lo::hi::r,e2=>
   have e1:x::xs=.tup [.int s,.tup [.int lo,.int hi]]::n6 (p'.map λ s:Nat=>V.int s) (cv (r.map cp)):=e1
   cases e1
   have e3:fD p ns=((decide (lo<=s)&&decide (s<=hi))&&fD p' r):=e3
   have next:(decide (lo<=s)&&decide (s<=hi))=true->∀o2 o3,K [some (.tup (p.map λ s:Nat=>V.int s)),some (.list (cv (ns.map cp))),o2,o3] M':=λ hk o2 o3=>hK _ _ ⟨rfl,p',r,_,_,rfl,by simp at e2;exact ae 0x90cf8924433e206148184185102 rfl r.length p'.length e2,rfl,by refine aa e3 ?_;refine aa hk ?_;refine aa (Bool.true_and _) ?_;rfl⟩
   refine⟨λ h1=> ?_,λ h1=> ?_⟩
   ·have h1:=of_decide_eq_true h1
    refine⟨λ h2=> ?_,λ h2=> ?_⟩
    ·have:¬s<=hi:=by simp at h2;exact ae 0x926005148249102 rfl hi s h2
     rw[e3,decide_eq_false this,Ta,VS] at q
     exact q
    ·refine next ?_ _ _
     refine aa (P1 _ _) ?_
     simp at h2
     exact⟨decide_eq_true (by(rename_i z0;exact ae 0x905244439239102 rfl lo s (of_decide_eq_true z0:))),decide_eq_true (ae 0x905244149102 rfl s hi h2)⟩
   ·repeat infer_instance
    have h1:=of_decide_eq_false h1
    have:¬lo<=s:=by(rename_i z0;exact ae 0x926005244980439239102 rfl lo s (of_decide_eq_false z0:))
    rw[e3,decide_eq_false this,VS,VS] at q
    exact q
end
structure nV(T:List V)(hd:V)(px:List (List (List Nat)))(nm:String)(w h b c:Nat):Prop where
 FJ:fF nm c
 IM:∃v,At T hd "ImageMask" v/\eu v=false
 col:At T hd "ColorSpace" (.inst 1 [.str nm])
 G0:fE T hd w h b
 Ms:ca px w h b c
 w8:w<=8
 h8:h<=8
def iI(t:Nat)(T:List V)(f:Nat)(args:List V)(out:V):Prop:=∀n M Q X,aY t T M->(∀M',Pu M M'->Q out M')->ag ak (n+7) f args M Q X
def kW(t:Nat)(T:List V)(f:Nat)(args:List V):Prop:=∀n M Q X,aY t T M->(∀M',Pu M M'->X M')->ag ak (n+7) f args M Q X
def kU(v:V):Prop:=∀M,fP M v (.cls 3)=some false
section
variable{n:Nat}{t:Nat}{T:List V}{hd hs:V}{nm:String}{w h b c pl H W B:Nat}{px ps:List (List (List Nat))}{v u:V}{t1 t2:Int}{p1 p2:Nat}{M:AH}{Q:V->AH->Prop}{X:AH->Prop}
theorem Aw(hT:aY t T M)(I:nV T hd px nm w h b c)(hs:At T hd "SMask" (.inst 3 fs))(hm:At T hd "Mask" u)(hg:iI t T 59 [sh t,.inst 3 fs,.fn 67,.int pl] (aK H W g))(Fm:1<=W)(hW:W<=8)(hH1:1<=H)(hH:H<=8)
  (q:∀M',Pu M M'->Q (aK h w λ i j=>g (bm i h H) (bm j w W)) M'):ag ak (n+11) 60 [sh t,.dict [] [],EI hd px b,.fn 67,.int pl] M Q X:=by
 refine ai I.IM λ v0 hi hv=> ?_
 refine Ey bI rfl rfl rfl ?_
 refine bH I.FJ hT hi hv I.col I.G0 λ M1 k1=> ?_
 refine bn (hT.pu k1) hs ?_
 refine bn (hT.pu k1) hm ?_
 repeat infer_instance
 refine hg _ _ _ _ (hT.pu k1) λ M2 k2=> ?_
 exact o0 I.G0.w1 I.w8 I.G0.h1 I.h8 Fm hW hH1 hH λ M3 k3=>q _ ((k1.trans k2).trans k3)
theorem sK(hT:aY t T M)(I:nV T hd px nm w h b c)(hs:At T hd "SMask" (.inst 3 fs))(hm:At T hd "Mask" u)(hg:kW t T 59 [sh t,.inst 3 fs,.fn 67,.int pl])
  (q:∀M',Pu M M'->X M'):ag ak (n+11) 60 [sh t,.dict [] [],EI hd px b,.fn 67,.int pl] M Q X:=by
 refine ai I.IM λ v0 hi hv=> ?_
 refine Ey bI rfl rfl rfl ?_
 refine bH I.FJ hT hi hv I.col I.G0 λ M1 k1=> ?_
 refine bn (hT.pu k1) hs ?_
 refine bn (hT.pu k1) hm ?_
 repeat infer_instance
 exact hg _ _ _ _ (hT.pu k1) λ M2 k2=>q _ (k1.trans k2)
theorem Ay{g:Nat->Nat->Bool}{fs:List V}(hT:aY t T M)(I:nV T hd px nm w h b c)(hs:At T hd "SMask" v)(hn:kU v)(hm:At T hd "Mask" (.inst 3 fs))(hg:iI t T 58 [sh t,.inst 3 fs,.fn 67] (aK H W λ i j=>.bool (g i j)))(Fm:1<=W)(hW:W<=8)(hH1:1<=H)(hH:H<=8)
  (q:∀M',Pu M M'->Q (aK h w λ i j=>.inst 0 [.int (if g (bm i h H) (bm j w W) then 1 else 0),.int 0]) M'):ag ak (n+11) 60 [sh t,.dict [] [],EI hd px b,.fn 67,.int pl] M Q X:=by
 refine ai I.IM λ v0 hi hv=> ?_
 refine Ey bI rfl rfl rfl ?_
 refine bH I.FJ hT hi hv I.col I.G0 λ M1 k1=> ?_
 refine bn (hT.pu k1) hs ?_
 refine bn (hT.pu k1) hm ?_
 and_intros
 refine ah (hn _) ?_
 repeat infer_instance
 refine hg _ _ _ _ (hT.pu k1) λ M2 k2=> ?_
 refine o0 I.G0.w1 I.w8 I.G0.h1 I.h8 Fm hW hH1 hH λ M3 k3=> ?_
 exact qs I.w8 I.h8 λ M4 k4=>q _ (((k1.trans k2).trans k3).trans k4)
theorem sL(hT:aY t T M)(I:nV T hd px nm w h b c)(hs:At T hd "SMask" v)(hn:kU v)(hm:At T hd "Mask" (.inst 3 fs))(hg:kW t T 58 [sh t,.inst 3 fs,.fn 67])
  (q:∀M',Pu M M'->X M'):ag ak (n+11) 60 [sh t,.dict [] [],EI hd px b,.fn 67,.int pl] M Q X:=by
 refine ai I.IM λ v0 hi hv=> ?_
 refine Ey bI rfl rfl rfl ?_
 refine bH I.FJ hT hi hv I.col I.G0 λ M1 k1=> ?_
 refine bn (hT.pu k1) hs ?_
 refine bn (hT.pu k1) hm ?_
 and_intros
 refine ah (hn _) ?_
 repeat infer_instance
 exact hg _ _ _ _ (hT.pu k1) λ M2 k2=>q _ (k1.trans k2)
theorem Ax(hT:aY t T M)(I:nV T hd px nm w h b c)(hs:At T hd "SMask" v)(hn:kU v)(hm:At T hd "Mask" .none)
  (q:∀M',Pu M M'->Q (aK h w λ i j=>.inst 0 [.int 1,.int 0]) M'):ag ak (n+11) 60 [sh t,.dict [] [],EI hd px b,.fn 67,.int pl] M Q X:=by
 refine ai I.IM λ v0 hi hv=> ?_
 refine Ey bI rfl rfl rfl ?_
 refine bH I.FJ hT hi hv I.col I.G0 λ M1 k1=> ?_
 refine bn (hT.pu k1) hs ?_
 refine bn (hT.pu k1) hm ?_
 and_intros
 refine ah (hn _) ?_
 repeat infer_instance
 have hw:=I.w8
 have hh:=I.h8
 refine ao (bU (ae 0x90a1d07f38e441a1101 rfl h hh)) ?_
 and_intros
 refine aa (PH _) ?_
 refine⟨by refine aa (ba _ _ _) ?_;unfold ar;exact ae 0x48386a0533f441a1101 rfl h hh,?_⟩
 refine fi (f:=λ i=>.list ((PS w).map λ zz=>.inst 0 [.int 1,.int 0])) (by unfold ar;exact ae 0x48386a0533f441a1101 rfl h hh) (λ i hi M2 k2 K hK=> ?_) λ M2 k2=>q _ (k1.trans k2)
 repeat infer_instance
 refine ao (bU (ae 0x90a1d07f38e441a1101 rfl w hw)) ?_
 and_intros
 refine aa (PH _) ?_
 refine⟨by refine aa (ba _ _ _) ?_;unfold ar;exact ae 0x48386a0533f441a1101 rfl w hw,?_⟩
 refine fi (f:=λ i=>.inst 0 [.int 1,.int 0]) (by unfold ar;exact ae 0x48386a0533f441a1101 rfl w hw) (λ j hj M3 k3 K2 E9=> ?_) λ M3 k3=>hK _ (k2.trans k3)
 repeat infer_instance
 exact aR (p:=0) λ M4 k4=>E9 _ (k3.trans k4)
theorem Az{ps:List V}(hT:aY t T M)(I:nV T hd px nm w h b c)(hs:At T hd "SMask" v)(hn:kU v)(hm:At T hd "Mask" (.list ps))(h2:aW (λ x y=>Bh T x y/\NR y) ps (ns.map cp))(hl:ns.length=2*c)(hk:∀k∈ns,k<=2^b-1)
  (q:∀M',Pu M M'->Q (aK h w λ i j=>.inst 0 [.int (if !fD (bN px i j) ns then 1 else 0),.int 0]) M'):ag ak (n+11) 60 [sh t,.dict [] [],EI hd px b,.fn 67,.int pl] M Q X:=by
 refine ai I.IM λ v0 hi hv=> ?_
 refine Ey bI rfl rfl rfl ?_
 refine bH I.FJ hT hi hv I.col I.G0 λ M1 k1=> ?_
 refine bn (hT.pu k1) hs ?_
 refine bn (hT.pu k1) hm ?_
 and_intros
 refine ah (hn _) ?_
 repeat infer_instance
 have hb:=I.G0.bits
 have hc:c<=4:=by rcases I.FJ with⟨_,rfl⟩|⟨_,rfl⟩|⟨_,rfl⟩<;>(first|exact ae 0x192100 rfl|exact ae 0x192300 rfl|exact ae 0x192400 rfl)
 have hlen:=h2.len
 rw[PG] at hlen
 have N9:∀v∈ns.map cp,dJ b v:=λ v hv=>by
  refine ai (QG.mp hv) λ k FT EN=> ?_;subst EN
  exact aA k rfl (hk k FT)
 refine rg (hT.pu k1) h2 hb.2 hc (ae 0x249241fa031ff4c34530644833e249103 rfl ns.length c ps.length hl hc hlen) (λ zz v hv=> ?_) (λ zz zz M2 k2=> ?_) λ h=> ?_
 ·refine ai (QG.mp hv) λ k FT EN=> ?_;subst EN
  exact .inl ⟨k,rfl⟩
 ·refine pM I.FJ (hT.pu (k1.trans k2)) hi hv I.col I.G0 I.Ms I.w8 I.h8 λ M3 k3=> ?_
  refine aa (fX I.Ms) ?_
  unfold aK
  refine dQ (g':=λ i j=>.bool (!fD (bN px i j) ns)) I.h8 I.w8 (λ i hi M4 k4 K hK=> ?_) λ M4 k4=> ?_
  ·and_intros
   refine cb (g':=λ j=>.bool (!fD (bN px i j) ns)) (by have:=I.w8;unfold ar;exact ae 0x48386a0533f441a1101 rfl w this) (λ j hj M5 k5 K2 E9=> ?_) λ M5 k5=>hK _ (k4.trans k5)
   and_intros
   refine xH (ns:=ns) (by refine aa ((I.Ms.at_ hi hj).1) ?_;refine aa hl ?_;rfl) ?_
   exact E9 _ k5
  ·refine qs (g:=λ i j=> !fD (bN px i j) ns) I.w8 I.h8 λ M5 k5=>q _ ((((k1.trans k2).trans k3).trans k4).trans k5)
 ·rw[PG] at h
  exact(h.elim (λ e=>e hl) λ⟨v,hv,e⟩=>e (N9 v hv)).elim
theorem sM{ps vs:List V}(hT:aY t T M)(I:nV T hd px nm w h b c)(hs:At T hd "SMask" v)(hn:kU v)(hm:At T hd "Mask" (.list ps))(h2:aW (λ x y=>Bh T x y/\NR y) ps vs)(hl:ps.length<=1000)(IT:∀v∈vs,gw v)(hk:vs.length≠2*c∨∃v∈vs,¬dJ b v)
  (q:∀M',Pu M M'->X M'):ag ak (n+11) 60 [sh t,.dict [] [],EI hd px b,.fn 67,.int pl] M Q X:=by
 refine ai I.IM λ v0 hi hv=> ?_
 refine Ey bI rfl rfl rfl ?_
 refine bH I.FJ hT hi hv I.col I.G0 λ M1 k1=> ?_
 refine bn (hT.pu k1) hs ?_
 refine bn (hT.pu k1) hm ?_
 and_intros
 refine ah (hn _) ?_
 repeat infer_instance
 have hb:=I.G0.bits
 have hc:c<=4:=by rcases I.FJ with⟨_,rfl⟩|⟨_,rfl⟩|⟨_,rfl⟩<;>(first|exact ae 0x192100 rfl|exact ae 0x192300 rfl|exact ae 0x192400 rfl)
 refine rg (hT.pu k1) h2 hb.2 hc hl (λ zz=>IT) (λ h1 h2=> ?_) λ zz M2 k2=>q _ (k1.trans k2)
 exact(hk.elim (λ e=>e h1) λ⟨v,hv,e⟩=>e (h2 v hv)).elim
end
structure Wl(w c K:Nat)(M:AH):Prop where
 wc:c≠w
 HX:w<M.next
 HY:c<M.next
 at_:∃(cells:List Int) (a b k:Int),M.m w=some (.list [.ref c,.int a,.int b,.int k])/\M.m c=some (.list (cells.map .int))/\0<=b/\b<=K/\0<=k/\k<1009
theorem Wl.mono(h:Wl w c K M)(hk:K<=K'):Wl w c K' M:=⟨h.wc,h.HX,h.HY,let⟨x,a,b,k,h1,h2,h3,h4,h5⟩:=h.at_;⟨x,a,b,k,h1,h2,h3,ae 0x924439244439144149112 rfl K K' b hk h4,h5⟩⟩
structure Dx(w c:Nat)(M M':AH):Prop where
 next:M'.next=M.next
 same:∀i,i≠w->i≠c->M'.m i=M.m i
theorem pr(h:M.m i=some (.list vs)):kG M (.ref i)=.list vs:=by show(((M.m i).bind lstO?).map V.list).getD _=_;refine aa h ?_;rfl
theorem xE(h:M.m i=some (.list vs))(k:Int):eh M (.ref i) (.int k)=if 0<=k then vs[k.toNat]? else none:=by show(M.m i).bind _=_;refine aa h ?_;rfl
theorem tV(a:Int){m:Nat}(hm:0<m):∃r:Nat,QM a m=r/\r<m:=by
 have h1:=Int.fmod_nonneg_of_pos a (b:=(m:Int)) (ae 0x24539180246001 rfl m hm)
 have h2:=Int.fmod_lt_of_pos a (b:=(m:Int)) (ae 0x24539180246001 rfl m hm)
 exact aA ((QM a m).toNat) (ae 0x918e35144446010 rfl (a.fmod ↑m) h1) (ae 0x924244d44539144446011 rfl m (a.fmod ↑m) h1 h2)
theorem eA(h:M.m i=some (.list vs))(e:(if 0<=k then vs[k.toNat]? else none)=some x):eh M (.ref i) (.int k)=some x:=(xE h k).trans e
section
variable{n:Nat}{w c K m:Nat}{M:AH}{Q:V->AH->Prop}{X:AH->Prop}
theorem tj(h:Wl w c K M)(hm:0<m)(Ge:m<=2^100)(hK:K<=2^100)(q:∀(r:Nat) M',r<m->Wl w c (K+1) M'->Dx w c M M'->Q (.int r) M'):ag ak (n+1) 62 [.ref w,.int m] M Q X:=by
 refine yJ h.at_ λ cells a b k h1 h2 h3 h4 h5 h6=> ?_
 have hL:cU=2^256:=rfl
 have tail:∀(M1:AH) (cells:List Int) (a:Int),M1.m w=some (.list [.ref c,.int a,.int b,.int k])->M1.m c=some (.list (cells.map .int))->M1.next=M.next->(∀i,i≠w->i≠c->M1.m i=M.m i)->
   bq ak (ag ak n) (bC 1 jw.body) [some (.ref w),some (.int m),none] M1 (λ zz M'=>Q .none M') Q X:=by
  intro M1 cells a h1 h2 hn hs
  and_intros
  refine ah (eA h1 rfl) ?_
  refine ao (ae 0x24980680e44246001 rfl m hm) ?_
  and_intros
  refine ah (eA h1 rfl) ?_
  refine ao ⟨ae 0x24980680e44246001 rfl m hm,ae 0x90b0007f38e4419901fd101 rfl m Ge⟩ ?_
  and_intros
  refine ah h1 ?_
  and_intros
  refine ah (eA (aF _ _ _) rfl) ?_
  refine ah (aF _ _ _) ?_
  have z:((b+1)*(b+1+1)).natAbs<cU:=by
   have:=dq (a:=b+1) (b:=b+1+1) (x:=2^101) (y:=2^101) (ae 0x9249066507f38185110e4511118019901fd111 rfl K b hK h3 h4) (ae 0x9249066507f38184185110e4511118019901fd111 rfl K b hK h3 h4)
   exact ae 0x90b0007f39106ca07f39110 rfl ((b+1)*(b+1+1)) this
  and_intros
  refine ah (eA (aF _ _ _) rfl) ?_
  refine ah (eA (aF _ _ _) rfl) ?_
  refine ao (ae 0x49249248e16000fe72416000fe7030a22fe2002bf4844a010e4511118019901fd121 rfl K b k hK h3 h4 h5 h6) ?_
  and_intros
  refine ah (eA (aF _ _ _) rfl) ?_
  refine ah (eA (aF _ _ _) rfl) ?_
  refine ao (ae 0x2492470b0007f3818418510b0007f38185110e4511118019901fd111 rfl K b hK h3 h4) ?_
  refine ao (ae 0x24980680e44246001 rfl m hm) ?_
  refine ai (tV (a.fmod m+(b+1)*k+((b+1)*(b+1+1)).fdiv 2) hm) λ r e hr=> ?_
  refine aa e ?_
  refine q r _ hr ⟨h.wc,by show w<M1.next;refine aa hn ?_;exact h.HX,by show c<M1.next;refine aa hn ?_;exact h.HY,cells,a.fdiv m,b+1,k,aF _ _ _,?_,ae 0x910185180446010 rfl b h3,ae 0x910e06144185110e45111 rfl K b h4,h5,h6⟩ ⟨hn,λ i hi hj=> ?_⟩
  ·refine aa (be _ _ h.wc) ?_;refine aa (be _ _ h.wc) ?_;refine aa h2 ?_;rfl
  ·refine aa (be _ _ hi) ?_;refine aa (be _ _ hi) ?_;refine aa (hs i hi hj) ?_;rfl
 have t0:=tail M cells a h1 h2 rfl λ zz zz zz=>rfl
 refine Ey jw rfl rfl rfl ?_
 refine ah (eA h1 rfl) ?_
 refine⟨λ ha=> ?_,λ ha=> ?_⟩
 ·refine ah (eA h1 rfl) ?_
  cases cells with
  |nil=>
   refine ah (a:=false) (show(kO (kG M (.ref c)) (.list [])).map (!·)=_ by refine aa (pr h2) ?_;rfl) ?_
   repeat infer_instance
   exact t0
  |cons x cells=>
   refine ah (a:=true) (show(kO (kG M (.ref c)) (.list [])).map (!·)=_ by refine aa (pr h2) ?_;rfl) ?_
   repeat infer_instance
   refine ah (eA h1 rfl) ?_
   and_intros
   rw[PR] at h2
   simp only [h2]
   and_intros
   refine ah ((be _ _ h.wc.symm).trans h1) ?_
   and_intros
   refine tail _ cells x.natAbs (aF _ _ _) ?_ rfl λ i hi hj=> ?_
   ·refine aa (be _ _ h.wc) ?_;refine aa (aF _ _ _) ?_;rfl
   ·refine aa (be _ _ hi) ?_;refine aa (be _ _ hj) ?_;rfl
 ·refine ite_f ha ?_
  exact t0
end
def bj(d:Nat)(x:V):Prop:=∀j,d<=j->jl j x x=some true
theorem bj.mono(h:bj d x)(hd:d<=d'):bj d' x:=λ j hj=>h j (PN hd hj)
theorem bj.int(i:Int):bj 1 (.int i):=λ j hj=>by
 obtain⟨j,rfl⟩:∃m,j=m+1:=⟨j-1,ae 0x90c184285144146101 rfl j hj⟩
 show some (i==i)=_;simp
theorem bj.str(s:String):bj 1 (.str s):=λ j hj=>by
 obtain⟨j,rfl⟩:∃m,j=m+1:=⟨j-1,ae 0x90c184285144146101 rfl j hj⟩
 show some (s==s)=_;simp
theorem bj.bytes(s:List UInt8):bj 1 (.bytes s):=λ j hj=>by
 obtain⟨j,rfl⟩:∃m,j=m+1:=⟨j-1,ae 0x90c184285144146101 rfl j hj⟩
 show some (s==s)=_;simp
theorem pC:∀{xs:List V},(∀x∈xs,f x x=some true)->eO f xs xs=some true:=by
 intro xs
 induction xs with
 |nil=>
  intro y1
  exact rfl
 |cons x xs ih=>
  intro h
  rewrite[B1];refine aa (h x (by simp)) ?_;refine aa (ih λ y hy=>h y (by simp[hy])) ?_;rfl
theorem bj.tup(h:∀x∈xs,bj d x):bj (d+1) (.tup xs):=λ j hj=>by
 obtain⟨j,rfl⟩:∃m,j=m+1:=⟨j-1,ae 0x90c184285248148185102 rfl d j hj⟩
 exact pC λ x hx=>h x hx j (ae 0x905244106148185102 rfl d j hj)
theorem bj.list(h:∀x∈xs,bj d x):bj (d+1) (.list xs):=λ j hj=>by
 obtain⟨j,rfl⟩:∃m,j=m+1:=⟨j-1,ae 0x90c184285248148185102 rfl d j hj⟩
 exact pC λ x hx=>h x hx j (ae 0x905244106148185102 rfl d j hj)
theorem bj.self(h:bj d x)(hd:d<=40):kO x x=some true:=h 40 hd
def sj(k:Nat)(v x:V):Prop:=∀n M Q X,(∀M',Pu M M'->Q x M')->ag ak (n+k) 14 [v] M Q X
def Ob(k:Nat)(v:V):Prop:=∃x,bj (2*k) x/\sj k v x
theorem sj.mono(h:sj k v x)(hk:k<=k'):sj k' v x:=λ n M Q X q=>by
 refine aa (show n+k'=(n+(k'-k))+k by exact ae 0x90c14410914930524c149103 rfl k k' n hk) ?_;exact h _ M Q X q
theorem Ob.mono(h:Ob k v)(hk:k<=k'):Ob k' v:=let⟨x,e,t⟩:=h;⟨x,e.mono (ae 0x904f8923e244149102 rfl k k' hk),t.mono hk⟩
theorem ud(h:a.length+b.length<=ar):gv .add (.tup a) (.tup b)=some (.tup (a++b)):=by
 show(if a.length+b.length<=ar then some (V.tup (a++b)) else none)=_
 exact if_pos h
theorem bj.two(ha:bj d a)(hb:bj d b):bj (d+1) (.tup [a,b]):=.tup λ x hx=>by
 simp at hx
 rcases hx with rfl|rfl
 ·exact ha
 ·exact hb
theorem bj.three(ha:bj d a)(hb:bj d b)(hc:bj d c):bj (d+1) (.tup [a,b,c]):=.tup λ x hx=>by
 simp at hx
 rcases hx with rfl|rfl|rfl
 ·exact ha
 ·exact hb
 ·exact hc
theorem jh(i:Int):Ob 2 (.int i):=by
 refine aA (.tup [.str "int",.int i]) ((bj.two (.str _) (.int _)).mono (by decide)) λ n M Q X q=> ?_
 refine Ey eB rfl rfl rfl ?_
 refine Ey bJ rfl rfl rfl ?_
 repeat infer_instance
 refine Ey cO rfl rfl rfl ?_;repeat infer_instance
 exact q _ (.refl _)
theorem oK(b:Bool):Ob 2 (.bool b):=by
 refine aA (.tup [.str "truth",.int (if b then 1 else 0)]) ((bj.two (.str _) (.int _)).mono (by decide)) λ n M Q X q=> ?_
 refine Ey eB rfl rfl rfl ?_
 refine Ey bJ rfl rfl rfl ?_
 repeat infer_instance
 refine Ey cO rfl rfl rfl ?_;repeat infer_instance
 cases b
 ·and_intros;exact q _ (.refl _)
 ·and_intros;exact q _ (.refl _)
theorem wA(a b:Int):Ob 2 (.inst 0 [.int a,.int b]):=by
 refine aA (.tup [.str "real",.int a,.int b]) ((bj.three (.str _) (.int _) (.int _)).mono (by decide)) λ n M Q X q=> ?_
 refine Ey eB rfl rfl rfl ?_
 refine Ey bJ rfl rfl rfl ?_
 repeat infer_instance
 refine Ey cO rfl rfl rfl ?_;repeat infer_instance
 exact q _ (.refl _)
theorem AA(a:String):Ob 2 (.inst 1 [.str a]):=by
 refine aA (.tup [.str "name",.str a]) ((bj.two (.str _) (.str _)).mono (by decide)) λ n M Q X q=> ?_
 refine Ey eB rfl rfl rfl ?_
 refine Ey bJ rfl rfl rfl ?_
 repeat infer_instance
 refine Ey cO rfl rfl rfl ?_;repeat infer_instance
 exact q _ (.refl _)
theorem Bt(a:Nat):Ob 2 (uE a):=by
 refine aA (.tup [.str "ref",.int a,.int 0]) ((bj.three (.str _) (.int _) (.int _)).mono (by decide)) λ n M Q X q=> ?_
 unfold uE
 refine Ey eB rfl rfl rfl ?_
 refine Ey bJ rfl rfl rfl ?_
 repeat infer_instance
 refine Ey cO rfl rfl rfl ?_;repeat infer_instance
 exact q _ (.refl _)
theorem Bs:∀{vs:List V},(∀v∈vs,Ob k v)->∃xs,aW (λ v x=>bj (2*k) x/\sj k v x) vs xs:=by
 intro vs
 induction vs with
 |nil=>
  intro y1
  exact⟨[],trivial⟩
 |cons v vs ih=>
  intro h
  obtain⟨x,hx⟩:=h v (by simp)
  obtain⟨xs,H1⟩:=ih λ u hu=>h u (by simp[hu])
  exact⟨x::xs,hx,H1⟩
theorem aW.out:∀{xs ys:List V},aW R xs ys->∀y∈ys,∃x∈xs,R x y:=by
 intro xs
 induction xs with
 |nil=>
  intro y1
  cases y1 with
  |nil=>
   intro y2 y hy
   cases hy
  |cons y3 y4=>
   intro h y5 y6
   exact h.elim
 |cons x xs ih=>
  intro y7
  cases y7 with
  |nil=>
   intro h y8 y9
   exact h.elim
  |cons z ys=>
   intro h y hy
   rcases PU.mp hy with e|e
   ·subst e;exact aA x (by simp) h.1
   ·refine ai (ih h.2 y e) λ x' Jf r=> ?_
    exact aA x' (by simp[Jf]) r
theorem AB(h:∀v∈vs,Ob k v)(hl:vs.length<=1000)(hk:1<=k):Ob (k+1) (.list vs):=by
 obtain⟨xs,H1⟩:=Bs h
 have hlen:=H1.len
 refine aA (.tup (.str "array" ::xs)) ((bj.tup (d:=2*k) λ x hx=> ?_).mono (ae 0x13e206144184f89101 rfl k)) λ n M Q X q=> ?_
 ·rcases PU.mp hx with e|e
  ·subst e;exact(bj.str _).mono (ae 0x904f89184146101 rfl k hk)
  ·refine ai (H1.out x e) λ v zz hv=> ?_
   exact hv.1
 ·obtain⟨k,rfl⟩:∃m,k=m+1:=⟨k-1,by exact ae 0x90c184285144146101 rfl k hk⟩
  refine aa (show n+(k+1+1)=(n+k)+1+1 by exact ae 0x306106105244106106149102 rfl n k) ?_
  refine Ey eB rfl rfl rfl ?_
  refine Ey bJ rfl rfl rfl ?_
  repeat infer_instance
  refine mf H1 (by unfold ar;exact ae 0x120e1a814cfd107e80c7fd101 rfl vs.length hl) (λ x y h M' p K hK=> ?_) λ M1 k1=> ?_
  ·repeat infer_instance
   exact h.2 n M' _ _ λ M2 k2=>hK _ (p.trans k2)
  ·refine ah (ud (by show 0+1+_<=ar;unfold ar;exact ae 0x1248386a0533f05284349107e80c7fd102 rfl vs.length xs.length hl hlen)) ?_
   exact q _ k1
theorem xJ:∀{ks:List String} {k:String},k∈eH ks->k∈ks:=by
 intro ks
 induction ks with
 |nil=>
  intro k h
  exact h
 |cons s r ihq=>
  intro k h
  have ins:∀{l:List String},k∈iP s l->k=s∨k∈l:=by
   intro l
   induction l with
   |nil=>intro h;exact .inl (P2.mp h)
   |cons t l ih=>
    intro h
    rw[rn] at h
    split at h
    ·rcases PU.mp h with e|e
     ·exact .inl e
     ·exact .inr e
    ·rcases PU.mp h with e|e
     ·exact .inr (by simp[e])
     ·exact(ih e).imp id λ e=>by simp[e]
  rcases ins h with e|e
  ·simp[e]
  ·exact RI _ (ihq e)
theorem qC:∀ks:List String,(eH ks).length=ks.length:=by
 intro ks
 induction ks with
 |nil=>
  exact rfl
 |cons s r ihq=>
  have ins:∀l:List String,(iP s l).length=l.length+1:=by
   intro l
   induction l with
   |nil=>rfl
   |cons t l ih=>unfold iP;split<;>simp[ih]
  show(iP s (eH r)).length=_
  refine aa (ins _) ?_;refine aa ihq ?_;rfl
theorem yN:∀{ks:List String} {vs:List V} {k:String},ks.length=vs.length->k∈ks->∃v,ay ks vs k=some v/\v∈vs:=by
 intro ks
 induction ks with
 |nil=>
  intro y1 k y2 h
  cases h
 |cons s ks ih=>
  intro y3
  cases y3 with
  |nil=>
   intro k hl y4
   cases hl
  |cons v vs=>
   intro k hl h
   by_cases e:s=k
   ·subst e
    exact aA v (by show(if s==s then _ else _)=_;refine aa (if_pos (by simp)) ?_;rfl) (by simp)
   ·rcases PU.mp h with h|h
    ·exact absurd h.symm e
    ·refine ai (ih (vs:=vs) (by simpa using hl) h) λ u hu hm=> ?_
     exact aA u (by show(if s==k then _ else _)=_;refine aa (if_neg (by simpa using e)) ?_;exact hu) (by simp[hm])
noncomputable def Ej:V->Bool|.none=>true|_=>false
theorem lh(h:∀v∈vs,Ob k v)(hl:ks.length=vs.length)(h64:ks.length<64)(hk:1<=k):Ob (k+1) (.dict ks vs):=by
 have rows:∀l:List String,(∀s∈l,s∈ks)->∃xs:List V,xs.length<=l.length/\(∀x∈xs,bj (2*k+1) x)/\∀n M acc (Q:List V->AH->Prop),acc.length+l.length<=1000->(∀M',Pu M M'->Q (acc++xs) M')->
   ∀o1 o2 o3:Option V,bP (λ x M2 k'=>aB (dF (.one 3) x [some (.dict ks vs),o1,o2,o3]) λ ρ'=>iQ ak (ag ak (n+k)) (.cons (.FM (.sub (.var 0) (.var 3))) .nil) ρ' M2 λ b M3=>(b=true->lQ ak (ag ak (n+k)) (.last (.tup (.cons (.var 3) (.cons (.call 14 (.cons (.sub (.var 0) (.var 3)) .nil)) .nil)))) ρ' M3 k')/\(b=false->k' [] M3)) (l.map .str) acc M Q:=by
  intro l
  induction l with
  |nil=>exact λ zz=>⟨[],by simp,by simp,λ n M acc Q zz q zz zz zz=>by refine aa US ?_;rewrite[tL];simpa using q M (.refl _)⟩
  |cons s l ih=>
   intro hs
   refine bz (ih λ u hu=>hs u (by simp[hu])) λ xs e1 e2 e3=> ?_
   refine ai (yN hl (hs s (by simp))) λ v hv hm=> ?_
   refine ai (h v hm) λ x hx ht=> ?_
   cases hn:Ej v
   ·refine gu (.tup [.str s,x]::xs) (by simpa using e1) (λ y hy=> ?_) λ n M acc Q hl q o1 o2 o3=> ?_
    ·rcases PU.mp hy with e|e
     ·subst e;exact bj.two ((bj.str _).mono (ae 0x904f89184146101 rfl k hk)) hx
     ·exact e2 y e
    ·rw[PQ] at hl
     refine aa PR ?_;rewrite[oN]
     refine ah (a:=v) hv ?_
     refine ite_t (by cases v<;>first|rfl|cases hn) ?_
     repeat infer_instance
     refine ah (a:=v) hv ?_
     refine ht n M _ _ λ M1 k1=>⟨by simp;unfold ar;exact ae 0x120e1a814cfc185107e80c7fc106149102 rfl acc.length l.length hl,?_⟩
     refine e3 n M1 _ Q (by simp;exact ae 0x907e80c7fc148185107e80c7fc106149102 rfl acc.length l.length hl) (λ M2 k2=> ?_) _ _ _
     have:=q M2 (k1.trans k2)
     simpa using this
   ·refine gu xs (by simp;exact ae 0x904185244149102 rfl xs.length l.length e1) e2 λ n M acc Q hl q o1 o2 o3=> ?_
    rw[PQ] at hl
    refine aa PR ?_;rewrite[oN]
    refine ah (a:=v) hv ?_
    refine ite_f (by cases v<;>first|rfl|cases hn) ?_
    repeat infer_instance
    refine⟨by refine aa (Qc _) ?_;unfold ar;exact ae 0x120e1a814cfd107e80c7fc106149102 rfl acc.length l.length hl,?_⟩
    refine aa (Qc _) ?_
    exact e3 n M _ Q (ae 0x907e80c7fc149107e80c7fc106149102 rfl acc.length l.length hl) q _ _ _
 refine bz (rows (eH ks) λ s hs=>xJ hs) λ xs e1 e2 e3=> ?_
 rw[qC] at e1
 refine aA (.tup (.str "dict" ::xs)) ((bj.tup (d:=2*k+1) λ x hx=> ?_).mono (ae 0x13e206144184184f89101 rfl k)) λ n M Q X q=> ?_
 ·rcases PU.mp hx with e|e
  ·subst e;exact(bj.str _).mono (ae 0x10613e246101 rfl k)
  ·exact e2 x e
 ·obtain⟨k,rfl⟩:∃m,k=m+1:=⟨k-1,by exact ae 0x90c184285144146101 rfl k hk⟩
  refine aa (show n+(k+1+1)=(n+k)+1+1 by exact ae 0x306106105244106106149102 rfl n k) ?_
  refine Ey eB rfl rfl rfl ?_
  refine Ey bJ rfl rfl rfl ?_
  repeat infer_instance
  refine ao h64 ?_
  have Gt:=qC ks
  refine e3 n M [] _ (by refine aa Rx ?_;exact ae 0x24907e80c7fc14a00d14828181fd102 rfl ks.length ((eH ks).length) h64 Gt) (λ M1 k1=> ?_) _ _ _
  refine ah (ud (by refine aa (R2 _) ?_;show 0+1+_<=ar;unfold ar;exact ae 0x4920e1a814cfc14a10514828181fd102 rfl ks.length xs.length h64 e1)) ?_
  exact q _ k1
theorem kF(h:Ob k hd)(hk:1<=k):Ob (k+1) (.inst 3 [hd,.bytes B]):=by
 refine ai h λ x hx ht=> ?_;clear h
 refine aA (.tup [.str "stream",x,.bytes B]) ((bj.three ((bj.str _).mono (ae 0x904f89184146101 rfl k hk)) hx ((bj.bytes _).mono (ae 0x904f89184146101 rfl k hk))).mono (ae 0x13e206144184f89101 rfl k)) λ n M Q X q=> ?_
 obtain⟨k,rfl⟩:∃m,k=m+1:=⟨k-1,ae 0x90c184285144146101 rfl k hk⟩
 refine aa (show n+(k+1+1)=(n+k)+1+1 by exact ae 0x306106105244106106149102 rfl n k) ?_
 refine Ey eB rfl rfl rfl ?_
 refine Ey bJ rfl rfl rfl ?_
 repeat infer_instance
 refine ht n M _ _ λ M1 k1=> ?_
 exact q _ k1
theorem vI:∀(n a:Nat),gA (bB a n)=bB a n:=by
 intro n
 induction n with
 |zero=>
  intro y1
  exact rfl
 |succ n ih=>
  intro a
  show ml (a:Int) (gA (bB (a+1) n))=_
  refine aa (ih _) ?_
  cases n with
  |zero=>rfl
  |succ n=>
   show(if(a:Int)<((a+1:Nat):Int) then _ else _)=_
   refine aa (if_pos (ae 0x538185139101 rfl a)) ?_;rfl
theorem qf:∀(n a:Nat),(bB a n).length=n:=by
 intro n
 induction n with
 |zero=>
  intro y1
  exact rfl
 |succ n ih=>
  intro a
  refine aa (iV _ _) ?_;refine aa PQ ?_;refine aa (ih _) ?_;rfl
theorem uy{t:Nat}{T:List V}(h:aY t T M)(h64:T.length<64):ot M (.ref t)=some ((bB 1 T.length).map .int):=by
 show(M.m t).bind qo=_
 refine aa h.at_ ?_
 show(if(bB 1 T.length).length<64 then some ((gA (bB 1 T.length)).map V.int) else none)=_
 refine aa (qf _ _) ?_;refine aa (vI _ _) ?_;refine aa (if_pos h64) ?_;rfl
theorem z7{t:Nat}{T:List V}(h:aY t T M)(i:Int):eh M (.ref t) (.int i)=ci (bB 1 T.length) (T.map entry) i:=by show(M.m t).bind _=_;refine aa h.at_ ?_;rfl
theorem uB{k:Nat}{T:List V}(h:∀v∈T,Ob k v)(h64:T.length<64)(hk:3<=k):∃x,bj (2*k+3) x/\∀t n M Q X,aY t T M->(∀M',Pu M M'->Q x M')->ag ak (n+(k+1)) 20 [sh t] M Q X:=by
 have rows:∀(l:List V) (a:Nat),(∀v∈l,Ob k v)->(∀j v,l[j]? =some v->T[a+j]? =some v)->∃xs:List V,xs.length=l.length/\(∀x∈xs,bj (2*k+1) x)/\∀t n M acc (Q:List V->AH->Prop),aY t T M->acc.length+l.length<=1000->(∀M',Pu M M'->Q (acc++xs) M')->
   ∀o1 o2:Option V,bP (λ x M2 k'=>aB (dF (.one 2) x [some (sh t),o1,o2]) λ ρ'=>iQ ak (ag ak (n+k)) .nil ρ' M2 λ b M3=>(b=true->lQ ak (ag ak (n+k)) (.last (.tup (.cons (.var 2) (.cons (.sub (.sub (.attr (.var 0) 8) (.var 2)) (.lit (.int 0))) (.cons (.call 14 (.cons (.sub (.sub (.attr (.var 0) 8) (.var 2)) (.lit (.int 1))) .nil)) .nil))))) ρ' M3 k')/\(b=false->k' [] M3)) ((bB (1+a) l.length).map .int) acc M Q:=by
  intro l
  induction l with
  |nil=>exact λ a zz zz=>⟨[],rfl,by simp,λ t n M acc Q zz zz q zz zz=>by refine aa Rx ?_;refine aa (zW _) ?_;refine aa US ?_;rewrite[tL];simpa using q M (.refl _)⟩
  |cons v l ih=>
   intro a ho hs
   refine bz (ih (a+1) (λ u hu=>ho u (by simp[hu])) λ j u hu=>by
    have:=hs (j+1) u (by simpa using hu)
    rwa [show a+(j+1)=a+1+j by exact ae 0x305206144106149102 rfl a j] at this) λ xs e1 e2 e3=> ?_
   have Nv:=hs 0 v rfl
   refine ai (ho v (by simp)) λ x hx ht=> ?_
   refine gu (.tup [.int ((1+a:Nat):Int),.int 0,x]::xs) (by simpa using e1) (λ y hy=> ?_) λ t n M acc Q hT hl q o1 o2=> ?_
   ·rcases PU.mp hy with e|e
    ·subst e;exact bj.three ((bj.int _).mono (ae 0x904f89184146301 rfl k hk)) ((bj.int _).mono (ae 0x904f89184146301 rfl k hk)) hx
    ·exact e2 y e
   ·rw[PQ] at hl
    refine aa PQ ?_;refine aa (iV _ _) ?_;refine aa PR ?_;rewrite[oN]
    rw[U2] at Nv
    have hs:=(z7 hT ((1+a:Nat):Int)).trans (py Nv)
    repeat infer_instance
    refine ah hs ?_
    refine ah hs ?_
    refine ht n M _ _ λ M1 k1=>⟨by simp;unfold ar;exact ae 0x120e1a814cfc185107e80c7fc106149102 rfl acc.length l.length hl,?_⟩
    refine e3 t n M1 _ Q (hT.pu k1) (by simp;exact ae 0x907e80c7fc148185107e80c7fc106149102 rfl acc.length l.length hl) (λ M2 k2=> ?_) _ _
    have:=q M2 (k1.trans k2)
    simpa using this
 refine bz (rows T 0 h λ j v hv=>by rwa [TQ]) λ xs e1 e2 e3=> ?_
 refine aA (.tup [.tup xs,.tup [.str "dict"]]) (bj.two (.tup e2) (bj.mono (d:=2) (.tup λ x hx=>by simp at hx;subst hx;exact .str _) (ae 0x10623e246201 rfl k))) λ t n M Q X hT q=> ?_
 obtain⟨k,rfl⟩:∃m,k=m+3:=⟨k-3,ae 0x90c18c28d144146301 rfl k hk⟩
 refine aa (show n+(k+3+1)=(n+k)+3+1 by exact ae 0x306106305244106106349102 rfl n k) ?_
 refine Ey kz rfl rfl rfl ?_
 refine Ey iu rfl rfl rfl ?_
 refine ah (uy hT h64) ?_
 refine e3 t n M [] _ hT (by refine aa Rx ?_;exact ae 0x241fa031ff0518028181fd101 rfl T.length h64) (λ M1 k1=> ?_) _ _
 refine Ey eB rfl rfl rfl ?_
 refine Ey bJ rfl rfl rfl ?_
 repeat infer_instance
 exact q _ k1
structure aV(w c t K:Nat)(T:List V)(M:AH):Prop where
 wl:Wl w c K M
 Gr:aY t T M
 tw:t≠w
 tc:t≠c
 ob:∀v∈T,Ob 5 v
structure bh(w c t:Nat)(M M':AH):Prop where
 next:M.next<=M'.next
 same:∀i,i<M.next->i≠w->i≠c->i≠t->M'.m i=M.m i
theorem bh.refl(w c t:Nat)(M:AH):bh w c t M M:=⟨PE _,λ zz zz zz zz zz=>rfl⟩
theorem bh.trans(a:bh w c t M M1)(b:bh w c t M1 M2):bh w c t M M2:=⟨PN a.next b.next,λ i h x y z=>(b.same i (PK h a.next) x y z).trans (a.same i h x y z)⟩
theorem bh.pu(a:bh w c t M M1)(b:Pu M1 M2):bh w c t M M2:=⟨PN a.next b.next,λ i h x y z=>(b.same i (PK h a.next)).trans (a.same i h x y z)⟩
theorem Pu.KU(b:Pu M M1):bh w c t M M1:=(bh.refl _ _ _ _).pu b
theorem bh.Er(a:bh w c t M M1)(h:M.next<=i)(o:O):bh w c t M (M1.set i o):=⟨a.next,λ j hj x y z=>by refine aa (be _ _ (ae 0x92498034930914c149103 rfl M.next i j h hj)) ?_;refine aa (a.same j hj x y z) ?_;rfl⟩
theorem bh.Ew(a:bh w c t M M1)(h:M.next<=i):bh w c t M (M1.kill i):=⟨a.next,λ j hj x y z=>by refine aa (cA _ (ae 0x92498034930914c149103 rfl M.next i j h hj)) ?_;refine aa (a.same j hj x y z) ?_;rfl⟩
theorem Wl.pu(h:Wl w c K M)(p:Pu M M'):Wl w c K M':=⟨h.wc,PK h.HX p.next,PK h.HY p.next,let⟨x,a,b,k,h1,h2,h3⟩:=h.at_;⟨x,a,b,k,(p.same _ h.HX).trans h1,(p.same _ h.HY).trans h2,h3⟩⟩
section
variable{n:Nat}{w c t K m:Nat}{T:List V}{v:V}{M M':AH}{Q:V->AH->Prop}{X:AH->Prop}
theorem aV.pu(s:aV w c t K T M)(p:Pu M M'):aV w c t K T M':=⟨s.wl.pu p,s.Gr.pu p,s.tw,s.tc,s.ob⟩
theorem aV.mono(s:aV w c t K T M)(h:K<=K'):aV w c t K' T M:=⟨s.wl.mono h,s.Gr,s.tw,s.tc,s.ob⟩
theorem aV.lt(s:aV w c t K T M):w<M.next/\c<M.next/\t<M.next:=⟨s.wl.HX,s.wl.HY,s.Gr.lt⟩
theorem aV.Er(s:aV w c t K T M)(hw:i≠w)(hc:i≠c)(ht:i≠t)(o:O):aV w c t K T (M.set i o):=
 ⟨⟨s.wl.wc,s.wl.HX,s.wl.HY,let⟨x,a,b,k,h1,h2,h3⟩:=s.wl.at_;⟨x,a,b,k,(be _ _ hw.symm).trans h1,(be _ _ hc.symm).trans h2,h3⟩⟩,⟨(be _ _ ht.symm).trans s.Gr.at_,s.Gr.lt⟩,s.tw,s.tc,s.ob⟩
theorem aV.Ew(s:aV w c t K T M)(hw:i≠w)(hc:i≠c)(ht:i≠t):aV w c t K T (M.kill i):=
 ⟨⟨s.wl.wc,s.wl.HX,s.wl.HY,let⟨x,a,b,k,h1,h2,h3⟩:=s.wl.at_;⟨x,a,b,k,(cA _ hw.symm).trans h1,(cA _ hc.symm).trans h2,h3⟩⟩,⟨(cA _ ht.symm).trans s.Gr.at_,s.Gr.lt⟩,s.tw,s.tc,s.ob⟩
theorem aX(s:aV w c t K T M)(hm:0<m)(Ge:m<=2^100)(hK:K<=2^100)(q:∀(r:Nat) M',r<m->aV w c t (K+1) T M'->bh w c t M M'->Q (.int r) M'):ag ak (n+1) 62 [.ref w,.int m] M Q X:=
 tj s.wl hm Ge hK λ r M' hr wl f=>q r M' hr ⟨wl,⟨(f.same _ s.tw s.tc).trans s.Gr.at_,by refine aa f.next ?_;exact s.Gr.lt⟩,s.tw,s.tc,s.ob⟩ ⟨by refine aa f.next ?_;exact PE _,λ i zz x y zz=>f.same i x y⟩
theorem xB:∀(n a k:Nat),(bB a n).contains ((a+k:Nat):Int)=decide (k<n):=by
 intro n
 induction n with
 |zero=>
  intro a k
  exact(decide_eq_false (Nat.not_lt_zero _)).symm
 |succ n ih=>
  intro a y1
  cases y1 with
  |zero=>
   refine aa (iV _ _) ?_;simp
  |succ k=>
   have:=ih (a+1) k
   refine aa (iV _ _) ?_;refine aa SY ?_;refine aa (show a+(k+1)=a+1+k by exact ae 0x305206144106149102 rfl a k) ?_;refine aa this ?_
   have h:(((a+1+k:Nat):Int)==(a:Int))=false:=by rewrite[beq_eq_false_iff_ne];exact ae 0x980639138148185102 rfl a k
   refine aa h ?_;refine aa (Tr _) ?_
   simp
theorem xR(x:V):∀(n a:Nat) (vs:List V),vs.length=n->dN ((a+n:Nat):Int) x (bB a n) vs=(bB a (n+1),vs++[x]):=by
 intro n
 induction n with
 |zero=>
  intro a y1
  cases y1 with
  |nil=>
   intro y2
   exact rfl
  |cons y3 y4=>
   intro h
   simp at h
 |succ n ihq=>
  intro a y5
  cases y5 with
  |nil=>
   intro h
   simp at h
  |cons v vs=>
   intro h
   have ih:=ihq (a+1) vs (by simpa using h)
   refine aa (iV _ _) ?_;rewrite[qL]
   have e:((a:Int)==((a+(n+1):Nat):Int))=false:=by rewrite[beq_eq_false_iff_ne];exact ae 0x980638106149139102 rfl a n
   refine aa e ?_;refine aa (show a+(n+1)=a+1+n by exact ae 0x305206144106149102 rfl a n) ?_;refine aa ih ?_
   rfl
theorem BQ(h:aY t T M)(k:Nat):zw M (.int ((1+k:Nat):Int)) (.ref t)=some (decide (k<T.length)):=by
 show(M.m t).bind _=_
 refine aa h.at_ ?_
 exact congrArg some (xB ..)
theorem Bg(s:aV w c t K T M)(ho:Ob 5 v)(hl:T.length<=62)(q:∀M',aV w c t K (T++[v]) M'->bh w c t M M'->Q (uE (T.length+1)) M'):ag ak (n+2) 18 [sh t,v] M Q X:=by
 refine Ey lJ rfl rfl rfl ?_
 refine ui (λ m ρ M'=>M'=M/\∃k,ρ=[some (sh t),some v,some (.int ((1+k:Nat):Int))]/\k<=T.length/\m=T.length-k) T.length ⟨rfl,0,rfl,ae 0x146001 rfl T.length,ae 0x30a045101 rfl T.length⟩ ?_
 rintro m ρ M' ⟨rfl,k,rfl,hk,rfl⟩ K hK
 refine ah (BQ s.Gr k) ?_
 refine⟨λ h=> ?_,λ h=> ?_⟩
 ·have h:=of_decide_eq_true h
  refine hK (T.length-(k+1)) _ _ (by(rename_i z0;exact ae 0x908245208185148249102 rfl k T.length (of_decide_eq_true z0:))) ⟨rfl,k+1,?_,by(rename_i z0;exact ae 0x905206144249102 rfl k T.length (of_decide_eq_true z0:)),rfl⟩
  refine aa (show((1+k:Nat):Int)+1=((1+(k+1):Nat):Int) by exact ae 0x638106146106138146101 rfl k) ?_
  rfl
 ·have h:=of_decide_eq_false h
  obtain rfl:k=T.length:=by(rename_i z0;exact ae 0x924349126009244149102 rfl k T.length hk (of_decide_eq_false z0:))
  have hs:dL (.EG (bB 1 T.length) (T.map entry)) (.int ((1+T.length:Nat):Int)) (.tup [.int 0,v])=some (.EG (bB 1 (T++[v]).length) ((T++[v]).map entry)):=by
   show(if(bB 1 T.length).length<=ar then some (O.EG (dN _ _ (bB 1 T.length) (T.map entry)).1 (dN _ _ (bB 1 T.length) (T.map entry)).2) else none)=_
   refine aa (xR (.tup [.int 0,v]) T.length 1 (T.map entry) (by simp)) ?_;refine aa (qf _ _) ?_;refine aa (if_pos (show T.length<=ar by unfold ar;exact ae 0x48386a0533f441f8045fd101 rfl T.length hl)) ?_;refine aa PJ ?_;refine aa Qf ?_
   rfl
  refine ah s.Gr.at_ ?_
  refine ah hs ?_
  and_intros
  unfold cK
  refine Ey iw rfl rfl rfl ?_
  refine ah (bL _ _) ?_
  and_intros
  refine ah (aF _ _ _) ?_
  and_intros
  refine aa (aF _ _ _) ?_
  refine cg rfl rfl ?_
  refine aa ((WD 1) _) ?_
  have p:Pu (M'.set t (.EG (bB 1 (T++[v]).length) ((T++[v]).map entry))) _:=(((Pu.new _ (.inst 4 [])).Er (PE _) (.inst 4 [.int ((T.length+1:Nat):Int)])).Er (PE _) (.inst 4 [.int ((T.length+1:Nat):Int),.int 0])).Ew (PE _)
  refine q _ ?_ ?_
  ·refine aV.pu ?_ p
   exact⟨⟨s.wl.wc,s.wl.HX,s.wl.HY,let⟨x,a,b,k,h1,h2,h3⟩:=s.wl.at_;⟨x,a,b,k,(be _ _ s.tw.symm).trans h1,(be _ _ s.tc.symm).trans h2,h3⟩⟩,⟨aF _ _ _,s.Gr.lt⟩,s.tw,s.tc,λ u hu=>(Qt.mp hu).elim (s.ob u) λ e=>by(first|rewrite[P2.mp e]|refine aa (P2.mp e) ?_);exact ho⟩
  ·have f1:bh w c t M' (M'.set t (.EG (bB 1 (T++[v]).length) ((T++[v]).map entry))):=⟨PE _,λ i zz zz zz h=>be _ _ h⟩
   exact f1.pu p
theorem kl(s:aV w c t K T M)(ho:Ob 5 v)(hl:T.length<=62)(hK:K<=2^90)(q:∀x T' M',aV w c t (K+1) T' M'->bh w c t M M'->T<+:T'->T'.length<=T.length+1->Bh T' x v->Q x M'):ag ak (n+3) 63 [.ref w,sh t,v] M Q X:=by
 refine Ey j4 rfl rfl rfl ?_
 refine aX (m:=3) s (by decide) (by decide) (ae 0x9066407f4419681fd101 rfl K hK) λ r M1 hr s1 f1=> ?_
 refine⟨λ h=> ?_,λ h=> ?_⟩
 ·exact Bg s1 ho hl λ M2 s2 f2=>q _ _ _ s2 (f1.trans f2) (List.prefix_append _ _) (by simp) (.inr ⟨T.length,rfl,by simp⟩)
 ·exact q _ _ _ s1 f1 (PB _) (ae 0x106145101 rfl T.length) (.inl rfl)
end
theorem aW.snoc:∀{xs ys:List V} {x y:V},aW R xs ys->R x y->aW R (xs++[x]) (ys++[y]):=by
 intro xs
 induction xs with
 |nil=>
  intro y1
  cases y1 with
  |nil=>
   intro y2 y3 y4 r
   exact⟨r,trivial⟩
  |cons y5 y6=>
   intro y7 y8 h y9
   exact h.elim
 |cons G2 Gv ih=>
  intro HJ
  cases HJ with
  |nil=>
   intro Jd Jc h Kp
   exact h.elim
  |cons My y17=>
   intro y18 y19 h r
   exact⟨h.1,ih h.2 r⟩
noncomputable def cq:V->Nat|.list ps=>ps.length+1|_=>1
noncomputable def aL:List V->Nat|[]=>0|v::vs=>cq v+aL vs
theorem jm:aL []=0:=rfl
theorem eZ(v:V)(vs:List V):aL (v::vs)=cq v+aL vs:=rfl
theorem rK(ps:List V):cq (.list ps)=ps.length+1:=rfl
def PV(k:Nat)(v:V):Prop:=(∃ps,v=.list ps/\ps.length<=20/\∀p∈ps,Ob 2 p/\NR p)∨((∀ps,v≠.list ps)/\NR v/\Ob k v)
def HV(T:List V)(v x:V):Prop:=(∃ps Gx,v=.list ps/\aW (λ y p=>Bh T y p/\NR p) Gx ps/\Bh T x (.list Gx))∨((∀ps,v≠.list ps)/\NR v/\Bh T x v)
theorem HV.mono{T T':List V}(h:T<+:T')(b:HV T v x):HV T' v x:=b.imp (λ⟨ps,Gx,e,a,q⟩=>⟨ps,Gx,e,a.mono λ zz zz r=>⟨r.1.mono h,r.2⟩,q.mono h⟩) λ⟨a,nr,q⟩=>⟨a,nr,q.mono h⟩
theorem Bh.ob{T:List V}{k:Nat}(b:Bh T x v)(h:Ob k v)(hk:2<=k):Ob k x:=by
 rcases b with rfl|⟨n,rfl,_⟩
 ·exact h
 ·exact(Bt _).mono hk
theorem yO:∀{ka kb:List String} {va vb:List V},ka.length=va.length->k∉ka->ay (ka++k::kb) (va++v::vb) k=some v:=by
 intro ka
 induction ka with
 |nil=>
  intro kb y1
  cases y1 with
  |nil=>
   intro vb y2 y3
   show(if k==k then _ else _)=_;refine aa (if_pos (by simp)) ?_;rfl
  |cons y4 y5=>
   intro y6 h y7
   simp at h
 |cons a ka ih=>
  intro kb y8
  cases y8 with
  |nil=>
   intro y9 h G2
   simp at h
  |cons b va=>
   intro vb h hk
   have Ft:¬(a==k)=true:=by
    intro e;rw[beq_iff_eq] at e;subst e;exact hk (by simp)
   show(if a==k then _ else _)=_
   refine aa (if_neg Ft) ?_
   exact ih (by simpa using h) λ e=>hk (by simp[e])
theorem xX:∀{ka:List String} {va:List V},ka.length=va.length->k∉ka->aI k v ka va=(ka++[k],va++[v]):=by
 intro ka
 induction ka with
 |nil=>
  intro y1
  cases y1 with
  |nil=>
   intro y2 y3
   exact rfl
  |cons y4 y5=>
   intro h y6
   simp at h
 |cons a ka ihq=>
  intro y7
  cases y7 with
  |nil=>
   intro h y8
   simp at h
  |cons b va=>
   intro h hk
   have Ft:¬(a==k)=true:=by
    intro e;rw[beq_iff_eq] at e;subst e;exact hk (by simp)
   have ih:=ihq (va:=va) (by simpa using h) λ e=>hk (by simp[e])
   rewrite[fc];refine aa (if_neg Ft) ?_;refine aa ih ?_;rfl
theorem sd:∀{ks:List String} {vs xs:List V} {k:String} {v:V},aW R vs xs->ay ks vs k=some v->∃x,ay ks xs k=some x/\R v x:=by
 intro ks
 induction ks with
 |nil=>
  intro y1 y2 y3 y4 y5 h
  cases h
 |cons a ks ih=>
  intro y6
  cases y6 with
  |nil=>
   intro y7 y8 y9 G2 h
   cases h
  |cons u vs=>
   intro Gv
   cases Gv with
   |nil=>
    intro k v q HJ
    exact q.elim
   |cons x xs=>
    intro k v q h
    have h:(if a==k then some u else ay ks vs k)=some v:=h
    show∃x',(if a==k then some x else ay ks xs k)=some x'/\R v x'
    by_cases e:(a==k)=true
    ·rw[if_pos e] at h ⊢;cases h;exact aA x rfl q.1
    ·rw[if_neg e] at h ⊢;exact ih q.2 h
theorem A5:∀{ks:List String} {vs xs:List V} {k:String},aW R vs xs->ay ks vs k=none->ay ks xs k=none:=by
 intro ks
 induction ks with
 |nil=>
  intro y1 y2 y3 y4 y5
  rfl
 |cons a ks ih=>
  intro y6
  cases y6 with
  |nil=>
   intro y7
   cases y7 with
   |nil=>
    intro y8 y9 G2
    rfl
   |cons Gv HJ=>
    intro Jd q Jc
    exact q.elim
  |cons u vs=>
   intro Kp
   cases Kp with
   |nil=>
    intro k q My
    exact q.elim
   |cons x xs=>
    intro k q h
    have h:(if a==k then some u else ay ks vs k)=none:=h
    show(if a==k then some x else ay ks xs k)=none
    by_cases e:(a==k)=true
    ·rw[if_pos e] at h;cases h
    ·rw[if_neg e] at h ⊢;exact ih q.2 h
section
variable{T:List V}{ks:List String}{vs xs ps:List V}{key:String}{v:V}
theorem aQ(h:aW (HV T) vs xs)(hk:ay ks vs key=some v)(nl:∀ps,v≠.list ps):At T (.dict ks xs) key v:=by
 refine ai (sd h hk) λ x hx r=> ?_
 rcases r with⟨ps,_,e,_⟩|⟨_,nr,b⟩
 ·exact(nl ps e).elim
 ·exact⟨nr,ks,xs,rfl,by(first|refine aa hx ?_;with_reducible rfl|refine aa hx ?_);exact b⟩
theorem fV(h:aW (HV T) vs xs)(hk:ay ks vs key=none):At T (.dict ks xs) key .none:=⟨trivial,ks,xs,rfl,by refine aa (A5 h hk) ?_;exact .inl rfl⟩
theorem jo(h:aW (HV T) vs xs)(hk:ay ks vs key=some (.list ps)):∃Gx,aW (λ y p=>Bh T y p/\NR p) Gx ps/\At T (.dict ks xs) key (.list Gx):=by
 refine ai (sd h hk) λ x hx r=> ?_
 rcases r with⟨ps1,Gx,e,a,b⟩|⟨nl,_⟩
 ·cases e
  exact⟨Gx,a,trivial,ks,xs,rfl,by refine aa hx ?_;exact b⟩
 ·exact(nl ps rfl).elim
end
theorem zX{v:V}(h:NR v)(nl:∀ps,v≠.list ps)(M:AH):fP M v .tlist=some false:=by
 cases v<;>first|rfl|exact h.elim|exact(nl _ rfl).elim
section
variable{n:Nat}{w c t K m:Nat}{T:List V}{v:V}{ks:List String}{vs:List V}{M M':AH}{Q:V->AH->Prop}{X:AH->Prop}
theorem sS{ps:List V}{Q:List V->AH->Prop}(s:aV w c t K T M)(hp:∀p∈ps,Ob 2 p/\NR p)(hl:T.length+ps.length<=62)(hK:K+ps.length<=2^80)
  (q:∀xs T' M',aV w c t (K+ps.length) T' M'->bh w c t M M'->T<+:T'->T'.length<=T.length+ps.length->aW (λ y p=>Bh T' y p/\NR p) xs ps->Q xs M'):
  ∀o3 o4 o5 o6:Option V,bP (λ x M2 k=>aB (dF (.one 6) x [some (.ref w),some (sh t),o3,o4,o5,o6,none]) λ ρ'=>iQ ak (ag ak (n+3)) .nil ρ' M2 λ b M3=>(b=true->lQ ak (ag ak (n+3)) (.last (.call 63 (.cons (.var 0) (.cons (.var 1) (.cons (.var 6) .nil))))) ρ' M3 k)/\(b=false->k [] M3)) ps [] M Q:=by
 intro o3 o4 o5 o6
 refine cT (λ rest acc M'=>∃done T',ps=done++rest/\acc.length=done.length/\aV w c t (K+done.length) T' M'/\bh w c t M M'/\T<+:T'/\T'.length<=T.length+done.length/\aW (λ y p=>Bh T' y p/\NR p) acc done) ps
  ⟨[],T,rfl,rfl,s,.refl _ _ _ _,PB _,by simp,trivial⟩ (λ acc M' j=> ?_) λ x xs acc M' j K2 E9=> ?_
 ·refine ve j λ done T' e e2 s1 f1 p1 l1 a1=> ?_;clear j
  rw[Qc] at e;subst e
  exact q _ _ _ s1 f1 p1 l1 a1
 ·refine ve j λ done T' EN e2 s1 f1 p1 l1 a1=> ?_;clear j;subst EN
  rw[PJ,PQ] at hl hK
  have hx:=hp x (by simp)
  repeat infer_instance
  refine kl s1 (hx.1.mono (by decide)) (ae 0x9241f8045fd4041491501f8045fc104185349104 rfl T.length done.length xs.length T'.length hl l1) (ae 0x9065a07f0524419401fc104185349103 rfl K done.length xs.length hK) λ y T2 M2 s2 f2 p2 l2 b2=> ?_
  refine E9 _ _ ?_ ⟨done++[x],T2,by simp,?_,?_,f1.trans f2,p1.trans p2,?_,(a1.mono λ zz zz r=>⟨r.1.mono p2,r.2⟩).snoc ⟨b2,hx.2⟩⟩
  ·refine aa PJ ?_;simp;unfold ar;exact ae 0x4920e1a814cfc18540d2501f8045fc104185349104 rfl T.length done.length xs.length acc.length hl e2
  ·refine aa PJ ?_;refine aa PJ ?_;refine aa e2 ?_;rfl
  ·refine aa PJ ?_;exact s2
  ·refine aa PJ ?_;simp;exact ae 0x924104185349404185150105349104 rfl T'.length T.length done.length T2.length l1 l2
inductive JH(w c t K d:Nat)(T:List V)(ks:List String)(vs:List V)(M:AH)(rest:List V)(ρ:an)(M':AH):Prop
 |mk (ka kb:List String) (va vb xs T':List V) (o4 o5 o6:Option V) (e1:ks=ka++kb) (e2:vs=va++vb) (e3:ka.length=va.length) (e4:rest=kb.map .str) (e5:ρ=[some (.ref w),some (sh t),some (.dict ks vs),some (.ref M.next),o4,o5,o6])
   (hM:M'.m M.next=some (.Eu ka xs)) (hl:M.next<M'.next) (s:aV w c t (K+aL va) T' M') (f:bh w c t M M') (p:T<+:T') (l:T'.length<=T.length+aL va) (a:aW (HV T') va xs) (b:∀x∈xs,Ob d x)
theorem oi(h3:3<=d)(h5:d<=5)(s:aV w c t K T M)(hv:∀v∈vs,PV d v)(hk:ks.length=vs.length)(nd:ks.Nodup)(HG:ks.length<=15)(hl:T.length+aL vs<=62)(hK:K+aL vs<=2^80)
  (q:∀xs T' M',aV w c t (K+aL vs) T' M'->bh w c t M M'->T<+:T'->T'.length<=T.length+aL vs->aW (HV T') vs xs->(∀x∈xs,Ob d x)->Q (.dict ks xs) M'):ag ak (n+4) 64 [.ref w,sh t,.dict ks vs] M Q X:=by
 refine Ey lH rfl rfl rfl ?_
 refine fo rfl (by decide) (by decide) ?_
 refine ei s.lt λ hw hc ht=> ?_
 refine cD (JH w c t K d T ks vs M) _
  ⟨[],ks,[],vs,[],T,_,_,_,rfl,rfl,rfl,rfl,rfl,bL _ _,b6 _ _,s.pu (.new _ _),(Pu.new _ _).KU,PB _,by simp[jm],trivial,by simp⟩ (λ ρ M' j=> ?_) λ x xs ρ M' j K2 E9=> ?_
 ·obtain⟨ka,kb,va,vb,xs,T',o4,o5,o6,e1,e2,e3,e4,rfl,hM,EO,s1,f1,p1,l1,a1,La⟩:=j
  have:kb=[]:=by simpa using e4
  subst this
  rw[Qc] at e1;subst e1
  have:vb=[]:=by
   have:=congrArg Q4 e2
   rw[PJ] at this
   exact Rq (ae 0x92490e05030544d20d344349104 rfl ks.length vs.length va.length vb.length hk e3 this)
  subst this
  rw[Qc] at e2;subst e2
  and_intros
  refine aa (show bf M' (.ref M.next)=(.dict ks xs,M'.kill M.next) by show((M'.m M.next).bind mq).elim _ _=_;refine aa hM ?_;rfl) ?_
  exact q _ _ _ (s1.Ew (ae 0x92600d148249102 rfl w M.next hw) (ae 0x92600d148249102 rfl c M.next hc) (ae 0x92600d148249102 rfl t M.next ht)) (f1.Ew (PE _)) p1 l1 a1 La
 ·obtain⟨ka,kb,va,vb,ys,T',o4,o5,o6,e1,e2,e3,e4,rfl,hM,EO,s1,f1,p1,l1,a1,La⟩:=j
  cases kb with
  |nil=>cases e4
  |cons k kb=>
  cases e4
  cases vb with
  |nil=>
   have:=congrArg Q4 e1
   have:=congrArg Q4 e2
   simp at*;lia
  |cons v vb=>
  subst e1 e2
  have Ir:k∉ka:=λ hm=>(Si.mp nd).2.2 k hm k (by simp) rfl
  have Ly:ka.length=ys.length:=by refine aa e3 ?_;refine aa a1.len ?_;rfl
  have cst:∀(a b:List V),aL (a++b)=aL a+aL b:=by
   intro a b
   induction a with
   |nil=>simp[jm]
   |cons x a ih=>refine aa U8 ?_;refine aa (eZ _ _) ?_;refine aa (eZ _ _) ?_;refine aa ih ?_;exact ae 0x305305244105349103 rfl (cq x) (aL a) (aL b)
  rw[cst,eZ] at hl hK
  have Mi:ka.length<=ar:=by rw[PJ] at HG;unfold ar;exact ae 0x48386a0533f441bc149102 rfl ka.length ((k::kb).length) HG
  have H2:∀M',eh M' (.dict (ka++k::kb) (va++v::vb)) (.str k)=some v:=λ zz=>yO e3 Ir
  and_intros
  refine ah (H2 _) ?_
  and_intros
  have fin:∀(y u:V) (T2:List V) (M2:AH) (o6:Option V),aV w c t (K+aL va+cq v) T2 M2->bh w c t M' M2->T'<+:T2->T2.length<=T'.length+cq v->HV T2 v y->Ob d y->
    aB (M2.m M.next) λ ob=>aB (dL ob (V.str k) y) λ Gz=>K2 [some (.ref w),some (sh t),some (.dict (ka++k::kb) (va++v::vb)),some (.ref M.next),some (.str k),some u,o6] (M2.set M.next Gz):=by
   intro y u T2 M2 o6 s2 f2 p2 l2 b2 N1
   refine aa (f2.same _ EO (ae 0x92600d148249102 rfl w M.next hw) (ae 0x92600d148249102 rfl c M.next hc) (ae 0x92600d148249102 rfl t M.next ht)) ?_;refine aa hM ?_;refine aa (dO _ _) ?_
   refine aa (show dL (.Eu ka ys) (.str k) y=some (.Eu (ka++[k]) (ys++[y])) by show(if ka.length<=ar then some (O.Eu (aI k y ka ys).1 (aI k y ka ys).2) else none)=_;refine aa (if_pos Mi) ?_;refine aa (xX Ly Ir) ?_;rfl) ?_;refine aa (dO _ _) ?_
   refine E9 _ _ ⟨ka++[k],kb,va++[v],vb,ys++[y],T2,_,_,_,by simp,by simp,by simp[e3],rfl,rfl,aF _ _ _,PK EO f2.next,?_,(f1.trans f2).Er (PE _) _,p1.trans p2,?_,(a1.mono λ zz zz r=>r.mono p2).snoc b2,λ x hx=> ?_⟩
   ·refine aa (cst _ _) ?_
    refine aV.Er (s2.mono ?_) (ae 0x92600d148249102 rfl w M.next hw) (ae 0x92600d148249102 rfl c M.next hc) (ae 0x92600d148249102 rfl t M.next ht) _
    simp[eZ,jm];exact ae 0x10414d24414c149103 rfl K (aL va) (cq v)
   ·refine aa (cst _ _) ?_;simp[eZ,jm];exact ae 0x924104155349404155150105349105 rfl T'.length T.length (aL va) T2.length (cq v) l1 l2
   ·rcases Qt.mp hx with e|e
    ·exact La x e
    ·refine aa (P2.mp e) ?_;exact N1
  rcases hv v (by simp) with⟨ps,rfl,hps,hp⟩|⟨nl,nr,ov⟩
  ·rw[rK] at hl hK
   repeat infer_instance
   refine sS s1 hp (ae 0x9241f8045fc151107e0117f04105506151348105349105 rfl T'.length T.length (aL va) ps.length (aL vb) l1 hl) (ae 0x9065007f0530524419401fc104150185349104 rfl K (aL va) ps.length (aL vb) hK) (λ xs T2 M2 s2 f2 p2 l2 a2=> ?_) _ _ _ _
   have ol:Ob d (.list xs):=Ob.mono (k:=3) (AB (λ x hx=> ?_) (by refine aa a2.len ?_;exact ae 0x241fa031ff441d1101 rfl ps.length hps) (by decide)) h3
   refine kl s2 (ol.mono h5) (ae 0x924907e0117f58105445607e0117f04105506151348105349106 rfl T'.length T.length (aL va) ps.length (aL vb) T2.length l1 hl l2) (ae 0x9065a07f0530524419401fc104150185349104 rfl K (aL va) ps.length (aL vb) hK) λ y T3 M3 s3 f3 p3 l3 b3=> ?_
   refine fin y _ T3 M3 _ ?_ (f2.trans f3) (p2.trans p3) (by refine aa (rK _) ?_;exact ae 0x924104185349404185150105349104 rfl T2.length T'.length ps.length T3.length l2 l3) (.inl ⟨ps,xs,rfl,a2.mono λ zz zz r=>⟨r.1.mono p3,r.2⟩,b3⟩) (b3.ob ol (ae 0x905188146301 rfl d h3))
   ·refine aa (rK _) ?_;exact s3
   ·have key:∀{xs ps:List V},aW (λ y p=>Bh T2 y p/\NR p) xs ps->(∀p∈ps,Ob 2 p/\NR p)->∀x∈xs,Ob 2 x:=by
     intro xs
     induction xs with
     |nil=>intro ps _ _ x hx;cases hx
     |cons a xs ih=>
      intro ps q hp x hx
      cases ps with
      |nil=>exact q.elim
      |cons p ps=>
       rcases PU.mp hx with e|e
       ·subst e;exact q.1.1.ob (hp p (by simp)).1 (PE _)
       ·exact ih q.2 (λ p' h'=>hp p' (by simp[h'])) x e
    exact key a2 hp x hx
  ·have LL:cq v=1:=by
    cases v<;>first|rfl|exact(nl _ rfl).elim
   rw[LL] at hl hK
   refine ah (zX nr nl _) ?_
   repeat infer_instance
   refine kl s1 (ov.mono h5) (ae 0x9241f8045fd107e0117f04105485348105349104 rfl T'.length T.length (aL va) (aL vb) l1 hl) (ae 0x9065a07f0524419401fc10414e149103 rfl K (aL va) (aL vb) hK) λ y T3 M3 s3 f3 p3 l3 b3=> ?_
   exact fin y v T3 M3 _ (by refine aa LL ?_;exact s3) f3 p3 (by refine aa LL ?_;exact ae 0x904185244106149102 rfl T3.length T'.length l3) (.inr ⟨nl,nr,b3⟩) (b3.ob ov (ae 0x905188146301 rfl d h3))
end
theorem oD(b:Nat):((2:Int)^b)=((2^b:Nat):Int):=by push_cast;rfl
theorem uI(b:Nat):((2:Int)^b)-1=((2^b-1:Nat):Int):=by
 have:=kZ (b:=b)
 rwa [Int.one_mul] at this
theorem CT(b:Nat):QN ((2:Int)^b) 2=((2^b/2:Nat):Int):=by
 refine aa (oD _) ?_;refine aa (show(2:Int)=((2:Nat):Int) by rfl) ?_;refine aa (dW _ _) ?_;rfl
section
variable{n:Nat}{w cc t K W h b c:Nat}{T:List V}{M M':AH}{Q:V->AH->Prop}{X:AH->Prop}
theorem Bc(s:aV w cc t K T M)(EZ:1<=b)(hb:b<=16)(hc:c<=4)(hK:K<=2^88)(h0:ρ.get 0=some (.ref w))(h3:ρ.get 3=some (.int b))(h5:ρ.get 5=some (.list [.int 0,.int (2^b-1),.int 1,.int (QN (2^b) 2)]))
  (n0:∀x,(ρ.put 10 x).get 0=ρ.get 0)(n3:∀x,(ρ.put 10 x).get 3=ρ.get 3)(n5:∀x,(ρ.put 10 x).get 5=ρ.get 5)
  (q:∀(p:List Nat) M',p.length=c->(∀s∈p,s<2^b)->aV w cc t (K+8) T M'->bh w cc t M M'->Qs (p.map λ s:Nat=>V.int s) M'):
  bP (λ x M2 k=>aB (dF (.one 10) x ρ) λ ρ'=>iQ ak (ag ak (n+1)) .nil ρ' M2 λ b M3=>(b=true->lQ ak (ag ak (n+1)) (.last (.EF (.cmp .eq (.call 62 (.cons (.var 0) (.cons (.lit (.int 2)) .nil))) (.lit (.int 0))) (.sub (.var 5) (.call 62 (.cons (.var 0) (.cons (.lit (.int 4)) .nil)))) (.call 62 (.cons (.var 0) (.cons (.bin .pow (.lit (.int 2)) (.var 3)) .nil))))) ρ' M3 k)/\(b=false->k [] M3)) (aZ 0 1 c) [] M Qs:=by
 have FO:2^b<=2^16:=ch hb
 have hp:2^1<=2^b:=ch EZ
 refine cT (λ rest acc M'=>∃j ss,rest=aZ (j:Nat) 1 (c-j)/\j<=c/\ss.length=j/\acc=ss.map (λ s:Nat=>V.int s)/\(∀s∈ss,s<2^b)/\aV w cc t (K+2*j) T M'/\bh w cc t M M') _
  ⟨0,[],rfl,by exact ae 0x146001 rfl c,rfl,rfl,by simp,s,.refl _ _ _ _⟩ (λ acc M' j=> ?_) λ x xs acc M' j K2 E9=> ?_
 ·rename type_of% j=>oqe;refine ve oqe λ j ss e1 e2 FH F7 e5 s1 f1=> ?_;clear oqe;subst FH;subst F7
  have:=bF e1
  exact q ss _ (by exact ae 0x92434910e009148149102 rfl ss.length c e2 this) e5 (s1.mono (by exact ae 0x92410684c13e249305148191103 rfl c ss.length K hc e2)) f1
 ·rename type_of% j=>oqe;refine ve oqe λ j ss e1 e2 FH F7 e5 s1 f1=> ?_;clear oqe;subst FH;subst F7
  refine bz (ce e1) λ m e6 EN e7=> ?_;subst EN
  have fin:∀(k:Nat) M2,k<2^b->aV w cc t (K+2*(ss.length+1)) T M2->bh w cc t M M2->K2 [.int k] M2:=by
   intro k M2 hk s2 f2
   refine E9 _ _ ?_ ⟨ss.length+1,ss++[k],?_,by exact ae 0x90510614830614c249103 rfl c ss.length m e6,by simp,by simp,?_,s2,f2⟩
   ·simp;unfold ar;exact ae 0x4920e1a814cfc185205148191102 rfl c ss.length hc e2
   ·refine aa e7 ?_;refine aa (show c-(ss.length+1)=m by exact ae 0x90d30818524430614c249103 rfl c ss.length m e6) ?_;rfl
   ·intro y hy
    rcases Qt.mp hy with e|e
    ·exact e5 y e
    ·refine aa (P2.mp e) ?_;exact hk
  repeat infer_instance
  refine ah ((n0 _).trans h0) ?_
  refine aX (m:=2) s1 (by decide) (by decide) (by exact ae 0x9249066407f04f893481453065807f48191103 rfl c K ss.length hc hK e2) λ r M1 hr s2 f2=> ?_
  refine⟨λ h=> ?_,λ h=> ?_⟩
  ·refine ah ((n5 _).trans h5) ?_
   refine ah ((n0 _).trans h0) ?_
   refine aX (m:=4) s2 (by decide) (by decide) (by exact ae 0x9249066407f06104f893481453065807f48191103 rfl c K ss.length hc hK e2) λ r M2 hr s3 f3=> ?_
   have f4:=f1.trans (f2.trans f3)
   have hd:2^b/2<2^b:=by(rename_i z0 z1;exact ae 0x92424521c10613e24910513e248146202 rfl (2^b) (2^b/2) hp (lO _ 1))
   match r,hr with
   |0,_=>exact fin 0 _ (by(rename_i z0 z1 z2;exact ae 0x909180146201 rfl (2^b) hp)) s3 f4
   |1,_=>have:=fin (2^b-1) _ (by(rename_i z0 z1 z2;exact ae 0x90910a144146201 rfl (2^b) hp)) s3 f4;rw[<-uI] at this;exact this
   |2,_=>exact fin 1 _ (by(rename_i z0 z1 z2;exact ae 0x909184146201 rfl (2^b) hp)) s3 f4
   |3,_=>have:=fin (2^b/2) _ (by exact ae 0x909244249102 rfl (2^b/2) (2^b) hd) s3 f4;rw[<-CT] at this;exact this
  ·refine ah ((n0 _).trans h0) ?_
   refine ah ((n3 _).trans h3) ?_
   refine ao ⟨by exact ae 0x48a000 rfl,by exact ae 0x4c2200 rfl,by exact ae 0x10e46001 rfl b,by exact ae 0x2448181fce441c1101 rfl b hb⟩ ?_
   refine aa (PH _) ?_;refine aa (oD _) ?_
   refine aX (m:=2^b) s2 (by exact ae 0x909180146201 rfl (2^b) hp) (by exact ae 0x9066407f4418401fd101 rfl (2^b) FO) (by exact ae 0x9249066407f06104f893481453065807f48191103 rfl c K ss.length hc hK e2) λ r M2 hr s3 f3=> ?_
   exact fin r _ hr s3 (f1.trans (f2.trans f3))
inductive JP(w cc t K W h b c:Nat)(T:List V)(M:AH)(rest:List V)(ρ:an)(M':AH):Prop
 |mk (j:Nat) (px:List (List (List Nat))) (o7 o8 o9 FZ:Option V) (e1:rest=aZ (j:Nat) 1 (h-j)) (e2:j<=h) (e3:ca px W j b c) (e4:ρ=[some (.ref w),some (.int W),some (.int h),some (.int b),some (.int c),some (.list [.int 0,.int (2^b-1),.int 1,.int (QN (2^b) 2)]),some (.ref M.next),o7,o8,o9,FZ])
   (hM:M'.m M.next=some (.list (px.map dz))) (hl:M.next<M'.next) (s:aV w cc t (K+64*j) T M') (f:bh w cc t M M')
inductive JQ(w cc t K W h b c j:Nat)(T:List V)(M M':AH)(rest:List V)(ρ:an)(M2:AH):Prop
 |mk (i:Nat) (row:List (List Nat)) (o9 FZ:Option V) (e1:rest=aZ (i:Nat) 1 (W-i)) (e2:i<=W) (e3:row.length=i) (e4:∀p∈row,p.length=c/\∀s∈p,s<2^b)
   (e5:ρ=[some (.ref w),some (.int W),some (.int h),some (.int b),some (.int c),some (.list [.int 0,.int (2^b-1),.int 1,.int (QN (2^b) 2)]),some (.ref M.next),some (.int j),some (.ref M'.next),o9,FZ])
   (hM:M2.m M'.next=some (.list (row.map cH))) (hl:M'.next<M2.next) (s:aV w cc t (K+64*j+8*i) T M2) (f:bh w cc t M' M2)
theorem ki(s:aV w cc t K T M)(hw:W<=8)(hh:h<=8)(EZ:1<=b)(hb:b<=16)(hc:c<=4)(hK:K<=2^80)
  (q:∀px M',ca px W h b c->aV w cc t (K+1000) T M'->bh w cc t M M'->Q (bk px) M'):ag ak (n+2) 65 [.ref w,.int W,.int h,.int b,.int c] M Q X:=by
 refine Ey j0 rfl rfl rfl ?_
 refine ao ⟨by exact ae 0x48a000 rfl,by exact ae 0x4c2200 rfl,by exact ae 0x10e46001 rfl b,by exact ae 0x2448181fce441c1101 rfl b hb⟩ ?_
 refine ao ⟨by exact ae 0x48a000 rfl,by exact ae 0x4c2200 rfl,by exact ae 0x10e46001 rfl b,by exact ae 0x2448181fce441c1101 rfl b hb⟩ ?_
 refine ao (bU (by exact ae 0x90a1d07f38e441a1101 rfl h hh)) ?_
 and_intros
 refine aa (PH _) ?_
 refine⟨by refine aa (ba _ _ _) ?_;unfold ar;exact ae 0x48386a0533f441a1101 rfl h hh,?_⟩
 have hs:=s.lt
 refine cD (JP w cc t K W h b c T M) _
  ⟨0,[],_,_,_,_,rfl,by exact ae 0x146001 rfl h,⟨rfl,by simp,by simp,by simp⟩,rfl,bL _ _,b6 _ _,s.pu (.new _ _),(Pu.new _ _).KU⟩ (λ ρ M' j=> ?_) λ x xs ρ M' j K2 E9=> ?_
 ·obtain⟨j,px,o7,o8,o9,FZ,e1,e2,e3,rfl,hM,EO,s1,f1⟩:=j
  have:=bF e1
  obtain rfl:j=h:=by exact ae 0x92434910e009148149102 rfl j h e2 this
  and_intros
  refine aa (dx hM) ?_
  exact q px _ e3 ((s1.mono (by exact ae 0x24107e80c7fd204f8181fd1481a1102 rfl j K hh)).Ew (by exact ae 0x92600d14871c24940924c249104 rfl w M.next cc t hs) (by exact ae 0x92600d34871c24940924c249104 rfl w M.next cc t hs) (by exact ae 0x92600d44871c24940924c249104 rfl w M.next cc t hs)) (f1.Ew (PE _))
 ·obtain⟨j,px,o7,o8,o9,FZ,e1,e2,e3,rfl,hM,EO,s1,f1⟩:=j
  refine bz (ce e1) λ m e6 EN e7=> ?_;subst EN
  refine ao (bU (by exact ae 0x90a1d07f38e441a1101 rfl W hw)) ?_
  and_intros
  refine aa (PH _) ?_
  refine⟨by refine aa (ba _ _ _) ?_;unfold ar;exact ae 0x48386a0533f441a1101 rfl W hw,?_⟩
  refine cD (JQ w cc t K W h b c j T M M') _
   ⟨0,[],_,_,rfl,by exact ae 0x146001 rfl W,rfl,by simp,rfl,bL _ _,b6 _ _,s1.pu (.new _ _),(Pu.new _ _).KU⟩ (λ ρ M2 j'=> ?_) λ x xs ρ M2 j' K3 HF=> ?_
  ·obtain⟨i,row,o9,FZ,g1,g2,rfl,g4,rfl,HE,E7,s2,f2⟩:=j'
   have:=bF g1
   have Ic:M2.m M.next=some (.list (px.map dz)):=(f2.same _ EO (by exact ae 0x92600d14871c24940924c249104 rfl w M.next cc t hs) (by exact ae 0x92600d34871c24940924c249104 rfl w M.next cc t hs) (by exact ae 0x92600d44871c24940924c249104 rfl w M.next cc t hs)).trans hM
   refine⟨dR Ic,?_⟩
   and_intros
   refine aa (dx HE) ?_
   have Hb:(M2.kill M'.next).m M.next=some (.list (px.map dz)):=(cA _ (by exact ae 0x92600d244249102 rfl M.next M'.next EO)).trans Ic
   simp only [Hb]
   refine⟨by refine aa (PG _) ?_;refine aa e3.len ?_;unfold ar;exact ae 0x492161a814cfd2051481a1102 rfl h j hh e2,E9 _ _ ⟨j+1,px++[row],_,_,_,_,?_,by exact ae 0x90510614830614c249103 rfl h j m e6,?_,rfl,?_,?_,?_,?_⟩⟩
   ·refine aa e7 ?_;refine aa (show h-(j+1)=m by exact ae 0x90d30818524430614c249103 rfl h j m e6) ?_;rfl
   ·have all:∀r∈px++[row],r.length=W/\∀p∈r,p.length=c/\∀s∈p,s<2^b:=by
     intro r hr
     rcases Qt.mp hr with e|e
     ·exact⟨e3.row r e,λ p hp=>⟨e3.Ku r e p hp,e3.K6 r e p hp⟩⟩
     ·refine aa (P2.mp e) ?_;exact⟨by exact ae 0x92434910e009148149102 rfl row.length W g2 this,g4⟩
    exact⟨by refine aa PJ ?_;refine aa e3.len ?_;rfl,λ r hr=>(all r hr).1,λ r hr p hp=>((all r hr).2 p hp).1,λ r hr p hp=>((all r hr).2 p hp).2⟩
   ·refine aa (aF _ _ _) ?_;refine aa Qf ?_;rfl
   ·exact Nat.lt_trans EO E7
   ·exact((s2.mono (by exact ae 0x924104f8181fc18544c13e84813e0607f513051481a1104 rfl W row.length K j hw g2)).Ew (by exact ae 0x92498034550954871c24940924c249105 rfl w M.next cc t M'.next hs EO) (by exact ae 0x92498034d50954871c24940924c249105 rfl w M.next cc t M'.next hs EO) (by exact ae 0x92498035150954871c24940924c249105 rfl w M.next cc t M'.next hs EO)).Er (by exact ae 0x92600d14871c24940924c249104 rfl w M.next cc t hs) (by exact ae 0x92600d34871c24940924c249104 rfl w M.next cc t hs) (by exact ae 0x92600d44871c24940924c249104 rfl w M.next cc t hs) _
   ·exact((f1.trans f2).Ew (by exact ae 0x905244249102 rfl M.next M'.next EO)).Er (PE _) _
  ·obtain⟨i,row,o9,FZ,g1,g2,rfl,g4,rfl,HE,E7,s2,f2⟩:=j'
   refine bz (ce g1) λ m2 g6 EN g7=> ?_;subst EN
   refine⟨dR HE,?_⟩
   refine ao (bU (by exact ae 0x90a1d07f38e44191101 rfl c hc)) ?_
   and_intros
   refine aa (PH _) ?_
   refine⟨by refine aa (ba _ _ _) ?_;unfold ar;exact ae 0x48386a0533f44191101 rfl c hc,?_⟩
   refine Bc s2 EZ hb hc (by exact ae 0x9249249065807f04fa1504f8181fd44c14550525019401fd3068481a1105 rfl W h K j row.length hw hh hK e2 g2) rfl rfl rfl (λ zz=>rfl) (λ zz=>rfl) (λ zz=>rfl) λ p M3 Ox Hu s3 f3=> ?_
   and_intros
   have Ic:M3.m M'.next=some (.list (row.map cH)):=(f3.same _ E7 (by exact ae 0x92498034550954871c24940924c249105 rfl w M.next cc t M'.next hs EO) (by exact ae 0x92498034d50954871c24940924c249105 rfl w M.next cc t M'.next hs EO) (by exact ae 0x92498035150954871c24940924c249105 rfl w M.next cc t M'.next hs EO)).trans HE
   simp only [Ic]
   refine⟨by refine aa (PG _) ?_;unfold ar;exact ae 0x492161a814cfd2051481a1102 rfl W row.length hw g2,HF _ _ ⟨row.length+1,row++[p],_,_,?_,by exact ae 0x90510614830614c249103 rfl W row.length m2 g6,by simp,?_,rfl,?_,PK E7 f3.next,?_,?_⟩⟩
   ·refine aa g7 ?_;refine aa (show W-(row.length+1)=m2 by exact ae 0x90d30818524430614c249103 rfl W row.length m2 g6) ?_;rfl
   ·intro p' Fz
    rcases Qt.mp Fz with e|e
    ·exact g4 p' e
    ·refine aa (P2.mp e) ?_;exact⟨Ox,Hu⟩
   ·refine aa (aF _ _ _) ?_;refine aa Qf ?_;rfl
   ·exact(s3.mono (by exact ae 0x104fa0185304f8181fd2441a013e84c13e0607f49103 rfl K j row.length)).Er (by exact ae 0x92498034550954871c24940924c249105 rfl w M.next cc t M'.next hs EO) (by exact ae 0x92498034d50954871c24940924c249105 rfl w M.next cc t M'.next hs EO) (by exact ae 0x92498035150954871c24940924c249105 rfl w M.next cc t M'.next hs EO) _
   ·exact(f2.trans f3).Er (PE _) _
end
theorem yh(s:Nat):QM (-(s:Int)) 8=((bg s:Nat):Int):=by
 refine aa (S2 _ (by exact ae 0x4a2000 rfl)) ?_;unfold bg;lia
theorem wJ:∀k T,fN (k+1) T=fN k T++[SL (T/256^k % 256)]:=by
 intro k
 induction k with
 |zero=>
  intro T
  refine aa (WA _) ?_;refine aa (Nat.div_one _) ?_;rfl
 |succ k ih=>
  intro T
  refine aa (nB _ _) ?_;refine aa (ih _) ?_;refine aa (nB _ _) ?_;refine aa U8 ?_;refine aa (Q8 _ _ _) ?_;refine aa (WB _ _) ?_;refine aa ((RA (256^k)) _) ?_;rfl
noncomputable def nO(x:UInt8):V:=.int x.toNat
theorem yT(M:AH)(bs:List UInt8):mz M (.list (bs.map nO))=some bs:=by
 have h1:ints? (bs.map nO)=some (bs.map λ x=>(x.toNat:Int)):=by
  induction bs with
  |nil=>rfl
  |cons b bs ih=>refine aa PR ?_;rewrite[nO];refine aa (BM _ _) ?_;refine aa ih ?_;rfl
 have h2:dY (bs.map λ x=>(x.toNat:Int))=some bs:=by
  clear h1
  induction bs with
  |nil=>rfl
  |cons b bs ih=>
   refine aa PR ?_;refine aa (vp _ _) ?_;refine aa (if_pos ⟨by exact ae 0x10e46001 rfl b.toNat,by have:=b.toNat_lt;exact ae 0x2458201fce4428201fd101 rfl b.toNat this⟩) ?_;refine aa ih ?_;refine aa (PH _) ?_
   simp
 show((dg M (.list (bs.map nO))).bind λ vs=>(ints? vs).bind dY)=_
 refine aa (Ei _ _) ?_;refine aa (Q9 _ _) ?_;refine aa h1 ?_;refine aa (Q9 _ _) ?_;refine aa h2 ?_;rfl
noncomputable def kM(B:List UInt8):V:=.list ((33::B).map nO)
theorem wT(M:AH)(B:List UInt8):mz M (kM B)=some (33::B):=yT M _
theorem AT(h:(33::B).length+bs.length<=ar):gv .add (kM B) (.list (bs.map nO))=some (kM (B++bs)):=by
 unfold kM
 refine aa (Di _ _) ?_;refine aa (PG _) ?_;refine aa (PG _) ?_;refine aa (if_pos h) ?_;refine aE Qf ?_;rfl
theorem rf(b:Nat)(p q:List (List (List Nat))):bX b (p++q)=bX b p++bX b q:=by simp[bX]
theorem BC(h:k<=256):2^k<=cU:=T9 (by decide) h
theorem tf{b:Nat}(h:∀s∈rr,s<2^b)(p:ss<+:rr)(hl:rr.length*b<=256):dD b ss<cU:=by
 obtain⟨x,rfl⟩:=p
 rw[PJ,QV] at hl
 exact PK (vK λ s hs=>h s (TV _ hs)) (BC (by exact ae 0x9060807f4418201fc149102 rfl (ss.length*b) (x.length*b) hl))
section
variable{n:Nat}{W h b c:Nat}{M M':AH}{Q:V->AH->Prop}{X:AH->Prop}
inductive JL(b:Nat)(px:List (List (List Nat)))(M:AH)(rest:List V)(ρ:an)(M':AH):Prop
 |mk (done todo:List (List (List Nat))) (o3 o4 o5 o6 o7 o8 o9 FZ:Option V) (e1:px=done++todo) (e2:rest=todo.map dz) (e3:ρ=[some (V.list (W7 dz px)),some (V.int ↑b),some (kM (bX b done)),o3,o4,o5,o6,o7,o8,o9,FZ]) (p:Pu M M')
theorem og(dm:ca px W h b c)(hw:W<=4)(hh:h<=8)(EZ:1<=b)(hb:b<=16)(hc:c<=4)
  (q:∀M',Pu M M'->Q (.bytes (33::bX b px)) M'):ag ak (n+2) 66 [bk px,.int b] M Q X:=by
 unfold bk
 refine Ey lG rfl rfl rfl ?_
 refine cD (JL b px M) _
  ⟨[],px,_,_,_,_,_,_,_,_,rfl,rfl,rfl,.refl _⟩ (λ ρ M' j=> ?_) λ x xs ρ M' j K2 E9=> ?_
 ·obtain⟨done,todo,o3,o4,o5,o6,o7,o8,o9,FZ,e1,e2,rfl,p⟩:=j
  have:todo=[]:=by simpa using e2
  subst this
  rw[Qc] at e1;subst e1
  refine ah (wT _ _) ?_
  exact q _ p
 ·obtain⟨done,todo,o3,o4,o5,o6,o7,o8,o9,FZ,e1,e2,rfl,p⟩:=j
  cases todo with
  |nil=>cases e2
  |cons r todo=>
  cases e2
  have hr:r∈px:=by refine aa e1 ?_;simp
  obtain⟨KF,KE⟩:=dm.flat hr
  have KJ:r.flatten.length*b<=256:=by
   refine aa KF ?_
   calc _<=4*4*16:=Qm (Qm hw hc) hb
    _=256:=rfl
  refine cD (λ rest ρ M2=>∃d Fs o4 FZ,M2=M'/\r=d++Fs/\rest=Fs.map cH/\ρ=[some (V.list (W7 dz px)),some (V.int ↑b),some (kM (bX b done)),some (dz r),o4,o5,some (.int (dD b d.flatten:Nat)),o7,o8,some (.int ((d.flatten.length*b:Nat):Int)),FZ]) _
   ⟨[],r,_,_,rfl,rfl,rfl,by refine aa List.flatten_nil ?_;refine aa Rx ?_;refine aa (Wy _) ?_;rfl⟩ (λ ρ M2 j=> ?_) λ x xs ρ M2 j K3 HF=> ?_
  ·refine B2 j λ d Fs o4 FZ FH e3 e4 K9=> ?_;clear j;subst FH;subst K9
   have:Fs=[]:=by simpa using e4
   subst this
   rw[Qc] at e3;subst e3
   have hL:=tf KE (PB _) KJ
   have Mc:cU=2^256:=rfl
   have Lt:bg (r.flatten.length*b)<=7:=by unfold bg;exact ae 0x9067487067483093a0148fa1103 rfl ((8-r.flatten.length*b % 8)/8) ((8-r.flatten.length*b % 8) % 8) (r.flatten.length*b % 8) (Bx _ 7)
   have h7:=ch Lt
   have hz:(r.flatten.length*b+bg (r.flatten.length*b))/8<=40:=by exact ae 0x249241a030ff4c70419cfa1305244105244fa130674818201fd103 rfl (r.flatten.length*b) (bg (r.flatten.length*b)) ((r.flatten.length*b+bg (r.flatten.length*b))/8) KJ Lt (lO _ 7)
   have e8:cN b r.flatten=(fN ((r.flatten.length*b+bg (r.flatten.length*b))/8) (dD b r.flatten*2^bg (r.flatten.length*b))).reverse:=rfl
   generalize dD b r.flatten=TT at*
   and_intros
   refine aa (yh _) ?_
   have e9:QN (((r.flatten.length*b:Nat):Int)+((bg (r.flatten.length*b):Nat):Int)) 8=(((r.flatten.length*b+bg (r.flatten.length*b))/8:Nat):Int):=by
    refine aa (show(8:Int)=((8:Nat):Int) by rfl) ?_;refine aE (dW _ _) ?_;push_cast;rfl
   generalize (r.flatten.length*b+bg (r.flatten.length*b))/8=Z at*
   generalize bg (r.flatten.length*b)=mo at*
   refine ao ⟨by decide,by decide,by exact ae 0x10e46001 rfl mo,by exact ae 0x2448181fce4419d101 rfl mo Lt⟩ ?_
   refine aa (PH _) ?_;refine aa (oD _) ?_
   refine ao ⟨by refine aa (Ql _) ?_;exact ae 0x90b0007f442c001fd101 rfl TT hL,by refine aa (Ql _) ?_;exact ae 0x90b0007f44181c1fd101 rfl (2^mo) h7⟩ ?_
   and_intros
   refine aa e9 ?_
   refine ao (bU (by exact ae 0x2428741fce3910680c3fd101 rfl Z hz)) ?_
   refine aa (PH _) ?_
   refine⟨by refine aa (ba _ _ _) ?_;unfold ar;exact ae 0x120e1a814cfd10680c3fd101 rfl Z hz,?_⟩
   refine aa (show((TT:Nat):Int)*((2^mo:Nat):Int)=((TT*2^mo:Nat):Int) by push_cast;rfl) ?_
   refine cD (λ rest ρ M3=>∃k o8,rest=aZ (k:Nat) 1 (Z-k)/\k<=Z/\ρ=[some (V.list (W7 dz px)),some (V.int ↑b),some (kM (bX b done)),some (dz r),o4,some (.int mo),some (.int ((TT*2^mo/256^k:Nat):Int)),some (.ref M2.next),o8,some (.int ((r.flatten.length*b:Nat):Int)),FZ]/\
     M3.m M2.next=some (.list ((fN k (TT*2^mo)).map nO))/\Pu M2 M3) _ ⟨0,_,rfl,by exact ae 0x146001 rfl Z,by refine aa (WA _) ?_;refine aa (Nat.div_one _) ?_;rfl,bL _ _,.new _ _⟩ (λ ρ M3 j=> ?_) λ x xs ρ M3 j K3 HF=> ?_
   ·refine B5 j λ k o8 e5 e6 FH hM p3=> ?_;clear j;subst FH
    have:=bF e5
    obtain rfl:k=Z:=by exact ae 0x92434910e009148149102 rfl k Z e6 this
    have hl:=jF dm
    rw[e1,rf,PJ] at hl
    have hB:(W*c*b+7)/8*h<=100*8:=Qm (by have:=KF▸KJ;exact ae 0x9241c8085fd21c10673e84819d10419d13e84818201fd102 rfl (W*c*b) ((W*c*b+7)/8) this (lO _ 7)) hh
    have Mr:dg M3 (.ref M2.next)=some ((fN k (TT*2^mo)).map nO):=by show(M3.m _).bind _=_;refine aa hM ?_;rfl
    have KW:=AT (B:=bX b done) (bs:=(fN k (TT*2^mo)).reverse) (by refine aa RP ?_;refine aa (iO _ _) ?_;refine aa PQ ?_;unfold ar;lia)
    rw[U7] at KW
    refine ah Mr ?_
    refine ah KW ?_
    have Mq:bX b done++(fN k (TT*2^mo)).reverse=bX b (done++[r]):=by refine aa (rf _ _ _) ?_;refine aE e8 ?_;refine aa (show bX b [r]=cN b r.flatten by simp[bX]) ?_;rfl
    refine aa Mq ?_
    exact E9 _ _ ⟨done++[r],todo,_,_,_,_,_,_,_,_,by simp[e1],rfl,rfl,p.trans p3⟩
   ·refine B5 j λ k o8 e5 e6 FH hM p3=> ?_;clear j;subst FH
    refine bz (ce e5) λ m e7 EN e8=> ?_;subst EN
    refine⟨dR hM,?_⟩
    and_intros
    simp only [hM]
    refine⟨by refine aa (PG _) ?_;refine aa (iO _ _) ?_;unfold ar;exact ae 0x1248586a0533f4814520680c3fd102 rfl Z k hz e6,?_⟩
    and_intros
    have Mp:QN ((TT*2^mo/256^k:Nat):Int) 256=((TT*2^mo/256^(k+1):Nat):Int):=by
     refine aa (show QN ((TT*2^mo/256^k:Nat):Int) 256=((TT*2^mo/256^k/256:Nat):Int) from dW _ 256) ?_;refine aa (Q8 _ _ _) ?_;refine aE (WB _ _) ?_;rfl
    refine aa Mp ?_
    refine HF _ _ ⟨k+1,_,by refine aa e8 ?_;refine aa (show Z-(k+1)=m by exact ae 0x90d30818524430614c249103 rfl Z k m e7) ?_;rfl,by exact ae 0x90510614830614c249103 rfl Z k m e7,rfl,?_,p3.Er (PE _) _⟩
    ·refine aa (aF _ _ _) ?_;refine aa (wJ _ _) ?_;refine aa Qf ?_
     simp[nO]
     refine aa (show(256:Int)=((256:Nat):Int) by rfl) ?_;refine aa (S2 _ (by exact ae 0x10e8201fe000 rfl)) ?_;rfl
  ·refine B2 j λ d Fs o4 FZ FH e3 e4 K9=> ?_;clear j;subst FH;subst K9
   cases Fs with
   |nil=>cases e4
   |cons p0 Fs=>
   cases e4
   refine cD (λ rest ρ M3=>∃d2 t2 FZ,M3=M2/\p0=d2++t2/\rest=t2.map (λ s:Nat=>V.int s)/\ρ=[some (V.list (W7 dz px)),some (V.int ↑b),some (kM (bX b done)),some (dz r),some (cH p0),o5,some (.int (dD b (d.flatten++d2):Nat)),o7,o8,some (.int (((d.flatten++d2).length*b:Nat):Int)),FZ]) _
    ⟨[],p0,_,rfl,rfl,rfl,by refine aa (Qc _) ?_;rfl⟩ (λ ρ M3 j=> ?_) λ x xs ρ M3 j K4 O4=> ?_
   ·refine vc j λ d2 t2 FZ G6 e5 e6 IH=> ?_;clear j;subst G6;subst IH
    have:t2=[]:=by simpa using e6
    subst this
    rw[Qc] at e5;subst e5
    exact HF _ _ ⟨d++[p0],Fs,_,_,rfl,by simp[e3],rfl,by simp;exact⟨rfl,rfl⟩⟩
   ·refine vc j λ d2 t2 FZ G6 e5 e6 IH=> ?_;clear j;subst G6;subst IH
    cases t2 with
    |nil=>cases e6
    |cons s0 t2=>
    cases e6
    have hp:d.flatten++d2<+:r.flatten:=⟨(s0::t2)++Fs.flatten,by refine aa e3 ?_;refine aa e5 ?_;simp⟩
    have hL:=tf KE hp KJ
    have FO:2^b<=2^16:=ch hb
    have Mc:cU=2^256:=rfl
    refine ao ⟨by decide,by decide,by exact ae 0x10e46001 rfl b,by exact ae 0x2448181fce441c1101 rfl b hb⟩ ?_
    refine aa (PH _) ?_;refine aa (oD _) ?_
    refine ao ⟨by refine aa (Ql _) ?_;exact ae 0x90b0007f442c001fd101 rfl (dD b (d.flatten++d2)) hL,by refine aa (Ql _) ?_;exact ae 0x90b0007f4418401fd101 rfl (2^b) FO⟩ ?_
    and_intros
    have g1:((dD b (d.flatten++d2):Nat):Int)*((2^b:Nat):Int)+(s0:Int)=((dD b (d.flatten++(d2++[s0])):Nat):Int):=by
     refine aE (Th _ _ _) ?_;refine aa (mF _ _ _) ?_;push_cast;rfl
    have g2:(((d.flatten++d2).length*b:Nat):Int)+(b:Int)=(((d.flatten++(d2++[s0])).length*b:Nat):Int):=by
     refine aE (Th _ _ _) ?_;refine aa (PJ (bs:=[s0])) ?_;refine aa (QV _ _ _) ?_;refine aa Sr ?_;refine aa (Rz _) ?_;push_cast;rfl
    refine aa g1 ?_;refine aa g2 ?_
    exact O4 _ _ ⟨d2++[s0],t2,_,rfl,by simp[e5],rfl,rfl⟩
end
noncomputable def n8(t:Int)(p:Nat):V:=.tup [.int (nd t p).1,.int (nd t p).2]
theorem rD(h:QM t 10=0):t=QN t 10*10:=by
 have:=Int.mul_fdiv_add_fmod t 10
 exact ae 0x924642a4931930513ea48681130 rfl (t.fmod 10) (t.fdiv 10) t h this
theorem CY:∀(p:Nat) (t:Int),(nd t p).2<=p/\(nd t p).1.natAbs<=t.natAbs:=by
 intro p
 induction p with
 |zero=>
  intro t
  exact⟨PE _,PE _⟩
 |succ p ihq=>
  intro t
  refine aa (uR _ _) ?_
  split
  ·rename_i h
   have:=rD h
   have ih:=ihq (QN t 10)
   exact ae 0x924704e44e4c10614911c139239305244642a49132 rfl ((nd (t.fdiv 10) p).snd) p t (t.fdiv 10) ((nd (t.fdiv 10) p).fst) this ih
  ·exact⟨PE _,PE _⟩
theorem CZ:∀(p:Nat) (t:Int),∃k,p=(nd t p).2+k/\t=(nd t p).1*10^k:=by
 intro p
 induction p with
 |zero=>
  intro t
  exact aA 0 rfl (by refine aa (U5 _) ?_;refine aa (SU _) ?_;rfl)
 |succ p ih=>
  intro t
  refine aa (uR _ _) ?_
  split
  ·rename_i h
   refine ai (ih (QN t 10)) λ k e1 e2=> ?_
   refine aA (k+1) (ae 0x90c10614d206144305349103 rfl p ((nd (t.fdiv 10) p).snd) k e1) ?_
   refine aa (Int.pow_succ _ _) ?_;refine aE (UH _ _ _) ?_;refine aE e2 ?_
   exact rD h
  ·exact aA 0 rfl (by refine aa (U5 _) ?_;refine aa (SU _) ?_;rfl)
theorem ye(t:Int)(p:Nat):br (ej t p) (nd t p).1 (nd t p).2:=.dec _ _
structure d6(a:Int)(v:V)(t:Int)(p:Nat):Prop where
 num:br v t p
 p4:p<=4
 tb:t.natAbs<2^40
 ab:a.natAbs<2^40
 eq:a=t*10^(4-p)
theorem d6.dec(hp:p<=4)(ht:t.natAbs<2^20)(e:a=t*10^(4-p)):d6 a (ej t p) (nd t p).1 (nd t p).2:=by
 obtain⟨h1,h2⟩:=CY p t
 refine ai (CZ p t) λ k e1 e2=> ?_
 refine⟨ye t p,ae 0x924191205148191102 rfl p ((nd t p).snd) hp h1,ae 0x92428a01fce4813913920a1407f39120 rfl t ((nd t p).fst) ht h2,?_,?_⟩
 ·refine aa e ?_
  have:=dq (a:=t) (b:=10^(4-p)) (x:=2^20) (y:=10^4) (ae 0x9061407f3910a1407f39110 rfl t ht) (i7 (ae 0x190246401 rfl p))
  exact ae 0x1214500fe7220ce2182bf39110 rfl (t*10^(4-p)) this
 ·refine aa e ?_;refine aa (show 4-(nd t p).2=k+(4-p) by exact ae 0x92430424644c24a40c14d244191103 rfl p ((nd t p).snd) k hp e1) ?_;refine aa (Xf _ _ _) ?_;refine aE (UH _ _ _) ?_;refine aE e2 ?_;rfl
section
variable{n:Nat}{w cc t K W h b c pl:Nat}{T:List V}{M M':AH}{Q:V->AH->Prop}{X:AH->Prop}
theorem oQ(a:Int)(m:Nat)(hm:0<m):0<=QM a m/\QM a m<m:=by
 refine ai (tV a hm) λ r e h=> ?_
 exact ae 0x924714e49111180249118e45112 rfl r m (a.fmod ↑m) e h
theorem vU(s:aV w cc t K T M)(hK:K<=2^80)(q:∀a v tt p M',d6 a v tt p->aV w cc t (K+2) T M'->bh w cc t M M'->Q (.tup [.int a,v]) M'):ag ak (n+2) 68 [.ref w] M Q X:=by
 refine Ey m8 rfl rfl rfl ?_
 refine aX (m:=30001) s (by decide) (by decide) (ae 0x9066407f4419401fd101 rfl K hK) λ r M1 hr s1 f1=> ?_
 refine aX (m:=4) s1 (by decide) (by decide) (ae 0x9066407f0614419401fd101 rfl K hK) λ r2 M2 H3 s2 f2=> ?_
 have f:=f1.trans f2
 have hL:cU=2^256:=rfl
 have g3:0<=QM ((r:Int)-12000) 3/\QM ((r:Int)-12000) 3<3:=oQ _ 3 (by decide)
 have g5:0<=QM ((r:Int)-12000) 5/\QM ((r:Int)-12000) 5<5:=oQ _ 5 (by decide)
 refine⟨λ zz=> ?_,λ zz=> ?_⟩
 ·refine ao (ae 0x48e16000fe7050a216000ff38810afc716344446010 rfl (QM (SH r-Rg 12000) (Rg 3)) g3) ?_
  refine q _ _ _ _ _ ⟨.int _,by decide,ae 0x2428a01fce0a144716344446010 rfl (QM (r-12000) 3) g3,ae 0x4851403f9c7ce2042bf0a144716344446010 rfl (QM (r-12000) 3) g3,?_⟩ s2 f
  refine aa (TS _ _) ?_;rfl
 ·refine⟨λ zz=> ?_,λ zz=> ?_⟩
  ·refine ao (ae 0x48e16000fe72216000ff3880cafc716544446010 rfl (QM (SH r-Rg 12000) (Rg 5)) g5) ?_
   refine ao (ae 0x2470b0007f3910b0007f94716544446010 rfl (QM (SH r-Rg 12000) (Rg 5)) g5) ?_
   refine aR (p:=1) λ M3 k3=> ?_
   refine q _ _ _ _ _ (d6.dec (by decide) (ae 0x2428501fce3e544716544446010 rfl (QM (r-12000) 5) g5) ?_) (s2.pu k3) (f.pu k3)
   refine aa (show(10:Int)^(4-1)=1000 from rfl) ?_;exact ae 0x321f4063fe7ca89f3880cafd110 rfl (QM (r-12000) 5)
  ·refine aR (p:=4) λ M3 k3=> ?_
   refine q _ _ _ _ _ (d6.dec (by decide) (ae 0x2428501fce0aee0527f3910ba98800ffd101 rfl r hr) ?_) (s2.pu k3) (f.pu k3)
   refine aa (U1 _) ?_;refine aa (U5 _) ?_;refine aa (SU _) ?_;rfl
theorem Ad{b:Nat}(ha:a.natAbs<2^90)(hb:0<b)(Gu:b<2^90)(hp:pl<=9)(q:∀M',Pu M M'->Q (n8 (b8 a b pl) pl) M'):ag ak (n+2) 69 [.int a,.int b,.int pl] M Q X:=by
 have hL:cU=2^256:=rfl
 have h9:=kh hp
 have h8:(10:Int)^(pl:Int).toNat=((10^pl:Nat):Int):=by refine aa (PH _) ?_;exact dk pl
 have h7:((10^pl:Nat):Int).natAbs=10^pl:=Ql _
 refine Ey lF rfl rfl rfl ?_
 refine ao (ae 0x91c2c001fce38e442c001fe20a5a07f39110 rfl a ha) ?_
 refine ao (ae 0x91c71c48181fce444391804c2a12a801a5101 rfl pl hp) ?_
 refine aa h8 ?_
 refine ao (ae 0x92470b0007f38e442c001fce3e238e441ee6b28255fd10a5a07f39111 rfl (10^pl) a ha h9) ?_
 refine ao (ae 0x91c2c001fce3910b0007f8829681fd101 rfl b Gu) ?_
 refine ao (ae 0x2491c2c001fce3e23912601a03e23910a5a07f44246001 rfl b hb Gu) ?_
 have e:∀x:Int,b8 a b pl=x->∀M3,Pu M M3->ag ak (n+1) 1 [ej x pl] M3 Q X:=λ x hx M3 k3=>by
  unfold ej
  refine fS ?_
  refine aE hx ?_;exact q _ k3
 refine⟨λ h=> ?_,λ h=> ?_⟩
 ·have h:=of_decide_eq_true h
  refine aR λ M3 k3=> ?_
  refine e _ ?_ _ k3
  unfold b8;refine aa (if_pos h) ?_;refine aa (dk _) ?_;rfl
 ·have h:=of_decide_eq_false h
  refine aR λ M3 k3=> ?_
  refine e _ ?_ _ k3
  unfold b8;refine aa (if_neg h) ?_;refine aa (dk _) ?_;rfl
theorem AC{p1 p2 b s:Nat}(hb:1<=b)(h1:d6 a1 v1 t1 p1)(h2:d6 a2 v2 t2 p2)(pl:Nat):
  b8 (a1*(((2^b-1:Nat):Int)-s)+a2*s) ((10000*(2^b-1):Nat):Int) pl=b8 (dA s b t1 t2 p1 p2) (dB b p1 p2) pl:=by
 have q1:=h1.p4
 have q2:=h2.p4
 have hk:0<(10:Int)^(4-max p1 p2):=by refine aa (dk _) ?_;have:=Sm (a:=10) (n:=4-max p1 p2) (by decide);exact ae 0x24539180246001 rfl (10^(4-max p1 p2)) this
 have hB:0<(dB b p1 p2:Int):=by have:=rJ (p1:=p1) (p2:=p2) hb;exact ae 0x24539180246001 rfl (dB b p1 p2) this
 refine aE ((qX hk _ hB) _) ?_
 congr 1
 ·unfold dA
  rewrite[h1.eq,h2.eq,Xg,show 4-p1=(4-max p1 p2)+(max p1 p2-p1) by exact ae 0x90c10920d14820d14a409290191102 rfl p2 p1 q2,show 4-p2=(4-max p1 p2)+(max p1 p2-p2) by exact ae 0x90c10920d24420d246409290191102 rfl p1 p2 q1,Xf,Xf]
  congr 1<;>ac_rfl
 ·unfold dB
  refine aa (dk _) ?_
  have:10000=10^(4-max p1 p2)*10^max p1 p2:=by refine aE (RQ _ _ _) ?_;refine aa (show 4-max p1 p2+max p1 p2=4 by exact ae 0x92439010d24420d246406448191102 rfl p1 p2 q1 q2) ?_;rfl
  refine aa this ?_
  push_cast
  ac_rfl
theorem gC(d:ca px W h b c):px.map dz=(PS h).map λ i=>.list ((PS W).map λ j=>cH (bN px i j)):=by
 have:=fX d
 unfold bk aK at this
 exact(by injection this)
theorem gm(q:∀M',Pu M M'->Q (.inst 3 [hd,.bytes B]) M'):cK ak (ag ak (n+1)) 3 [hd,.bytes B] M Q X:=by
 unfold cK
 refine Ey ku rfl rfl rfl ?_
 refine ah (bL _ _) ?_
 and_intros
 refine ah (aF _ _ _) ?_
 and_intros
 refine aa (aF _ _ _) ?_
 exact cg rfl rfl (q _ (((Pu.new M _).Er (PE _) _).Er (PE _) _|>.Ew (PE _)))
theorem fR(q:∀M',Pu M M'->Q (.inst 1 [a]) M'):cK ak (ag ak (n+1)) 1 [a] M Q X:=by
 unfold cK
 refine Ey m9 rfl rfl rfl ?_
 refine ah (bL _ _) ?_
 and_intros
 refine aa (aF _ _ _) ?_
 exact cg rfl rfl (q _ ((Pu.new M _).Er (PE _) _|>.Ew (PE _)))
theorem iR(h:M.m R=some (.Eu ks vs)):bf M (.ref R)=(.dict ks vs,M.kill R):=by show((M.m R).bind mq).elim _ _=_;refine aa h ?_;rfl
theorem vZ
  (s:aV w cc t K T M)(f0:bh w cc t M0 M)(ER:M0.next<=R)(EM:w<M0.next/\cc<M0.next/\t<M0.next)(hR:M.m R=some (.Eu ks vs))(E2:R<M.next)
  (hv:∀v∈vs,PV 3 v)(hk:ks.length=vs.length)(nd':ks.Nodup)(HG:ks.length<=15)(hc:aL vs<=20)(hl:T.length<=30)(hK:K<=2^70)
  (dm:ca px W h b 1)(hW:W<=4)(hh:h<=4)(EZ:1<=b)(hb:b<=16)(hp:pl<=9)(h1:d6 a1 v1 t1 p1)(h2:d6 a2 v2 t2 p2)
  (q:∀xs T' M',aV w cc t (K+20) T' M'->bh w cc t M0 M'->T<+:T'->T'.length<=T.length+aL vs->aW (HV T') vs xs->(∀x∈xs,Ob 3 x)->
   Q (.tup [EI (.dict ks xs) px b,aK h W λ i j=>n8 (b8 (dA (bS px i j) b t1 t2 p1 p2) (dB b p1 p2) pl) pl]) M'):
  bq ak (ag ak (n+5)) (bC 6 dn.body) [some (.ref w),some (sh t),some (.int pl),c3,some (bk px),some (.ref R),c6,c7,some (.int b),r9,r10,some (.tup [.int a1,v1]),some (.tup [.int a2,v2]),Ga,Jo,Kl,Kk] M N Q X:=by
 have hL:cU=2^256:=rfl
 have FO:2^b<=2^16:=ch hb
 have Mf:2^1<=2^b:=ch EZ
 refine ao (ae 0x91c71c48181fce444391804c22122801c1101 rfl b hb) ?_
 and_intros
 refine aa (PH _) ?_;refine aa (uI _) ?_
 refine aa (gC dm) ?_
 refine dQ (h:=h) (w:=W) (g':=λ i j=>n8 (b8 (dA (bS px i j) b t1 t2 p1 p2) (dB b p1 p2) pl) pl) (ae 0x906844191101 rfl h hh) (ae 0x906844191101 rfl W hW) (λ i hi M1 k1 K1 Ie=> ?_) λ M1 k1=> ?_
 ·repeat infer_instance
  refine cb (n:=W) (g':=λ j=>n8 (b8 (dA (bS px i j) b t1 t2 p1 p2) (dB b p1 p2) pl) pl) (by unfold ar;exact ae 0x48386a0533f44191101 rfl W hW) (λ j hj M2 k2 K2 E9=> ?_) λ M2 k2=>Ie _ (k1.trans k2)
  have hs:=(dm.at_ hi hj)
  have F2:bS px i j<2^b:=hs.2 _ (by unfold bS;refine aa P9 ?_;refine aa (PI (by lia)) ?_;exact QK _)
  refine aa (lg hs.1) ?_;refine aa (show(bN px i j).getD 0 0=bS px i j from rfl) ?_
  generalize bS px i j=sv at*
  have b1:=h1.ab
  have b2:=h2.ab
  have JY:=dq (a:=a1) (b:=((2^b-1:Nat):Int)-(sv:Int)) (x:=2^40) (y:=2^16) (ae 0x9062807f3910a2807f39110 rfl a1 b1) (ae 0x249061007f3823923828510914818401fd102 rfl (2^b) sv FO F2)
  have FI:=dq (a:=a2) (b:=(sv:Int)) (x:=2^40) (y:=2^16) (ae 0x9062807f3910a2807f39110 rfl a2 b2) (ae 0x92418401fce3920914818401fd102 rfl (2^b) sv FO F2)
  repeat infer_instance
  refine ao (ae 0x2492470b0007f3823923828510b0007f3910a2807f3910914818401fd112 rfl (2^b) sv a1 FO F2 b1) ?_
  refine ao (ae 0x92491c2c001fce3920b0007f3910a2807f3910914818401fd112 rfl (2^b) sv a2 FO F2 b2) ?_
  refine ao (ae 0x123858003f9c7050a216000ff38810afc18401fd101 rfl (2^b) FO) ?_
  refine aa (show(10000:Int)*((2^b-1:Nat):Int)=((10000*(2^b-1):Nat):Int) by push_cast;rfl) ?_
  refine Ad (ae 0x2490a5a07f381491063807f392063807f39120 rfl (a1*(SH (Rg 2^b-Rg 1)-SH sv)) (a2*SH sv) JY FI) (ae 0x1211f38810afc285180146201 rfl (2^b) Mf) (ae 0x1214b40fe7ce2042bf0a14418401fd101 rfl (2^b) FO) hp λ M3 k3=> ?_
  refine aa ((AC EZ h1 h2) _) ?_
  exact E9 _ (k2.trans k3)
 ·and_intros
  refine aa (iR ((k1.same _ E2).trans hR)) ?_
  have sk:=(s.pu k1).Ew (i:=R) (ae 0x92498034d21c70915424540914c149105 rfl M0.next R w cc t ER EM) (ae 0x92498035121c70915424540914c149105 rfl M0.next R w cc t ER EM) (ae 0x92498035521c70915424540914c149105 rfl M0.next R w cc t ER EM)
  have fk:=(f0.pu k1).Ew ER
  refine oi (d:=3) (by decide) (by decide) sk hv hk nd' HG (ae 0x9241f8045fc145207e481d1102 rfl (aL vs) T.length hc hl) (ae 0x92419401fc1452064607f481d1102 rfl (aL vs) K hc hK) λ xs T' M2 s2 f2 p2 l2 a2 o2=> ?_
  refine og dm hW (ae 0x906844191101 rfl h hh) EZ hb (ae 0x192100 rfl) λ M3 k3=> ?_
  refine gm λ M4 k4=> ?_
  exact q xs T' M4 (((s2.pu k3).pu k4).mono (ae 0x9041d12051481d1102 rfl (aL vs) K hc)) (((fk.trans f2).pu k3).pu k4) p2 l2 a2 o2
end
section
variable{ks:List String}{vs:List V}{s s':String}{x:V}
theorem i4:∀{ks:List String} {vs:List V},ks.length=vs.length->ay (aI s x ks vs).1 (aI s x ks vs).2 s'=if s==s' then some x else ay ks vs s':=by
 intro ks
 induction ks with
 |nil=>
  intro y1
  cases y1 with
  |nil=>
   intro y2
   exact rfl
  |cons y3 y4=>
   intro h
   simp at h
 |cons k ks ihq=>
  intro y5
  cases y5 with
  |nil=>
   intro h
   simp at h
  |cons v vs=>
   intro h
   have ih:=ihq (vs:=vs) (by simpa using h)
   rewrite[fc]
   by_cases e:(k==s)=true
   ·refine aa (if_pos e) ?_
    rw[beq_iff_eq] at e;subst e
    show(if k==s' then some x else _)=_
    by_cases e2:(k==s')=true
    ·refine aa (if_pos e2) ?_;refine aa (if_pos e2) ?_;rfl
    ·refine aa (if_neg e2) ?_;refine aa (if_neg e2) ?_
     show _=if k==s' then _ else _
     refine aa (if_neg e2) ?_;rfl
   ·refine aa (if_neg e) ?_
    show(if k==s' then some v else ay (aI s x ks vs).1 (aI s x ks vs).2 s')=_
    refine aa ih ?_
    show _=if s==s' then _ else(if k==s' then some v else ay ks vs s')
    by_cases e2:(k==s')=true
    ·refine aa (if_pos e2) ?_
     have:¬(s==s')=true:=by
      rw[beq_iff_eq] at e2;subst e2
      intro h;rw[beq_iff_eq] at h;subst h;exact e (by simp)
     refine aa (if_neg this) ?_;refine aa (if_pos e2) ?_;rfl
    ·refine aa (if_neg e2) ?_;refine aa (if_neg e2) ?_;rfl
theorem Aq:∀{ks:List String} {vs:List V},ks.length=vs.length->(aI s x ks vs).1.length=(aI s x ks vs).2.length/\(aI s x ks vs).1.length<=ks.length+1:=by
 intro ks
 induction ks with
 |nil=>
  intro y1
  cases y1 with
  |nil=>
   intro y2
   exact⟨rfl,PE 1⟩
  |cons y3 y4=>
   intro h
   simp at h
 |cons k ks ihq=>
  intro y5
  cases y5 with
  |nil=>
   intro h
   simp at h
  |cons v vs=>
   intro h
   have ih:=ihq (vs:=vs) (by simpa using h)
   rewrite[fc]
   by_cases e:(k==s)=true
   ·refine aa (if_pos e) ?_;exact⟨h,by simp⟩
   ·refine aa (if_neg e) ?_
    simp only [PQ] at*
    exact ae 0x91c10610614c18510c185206144704185344349103 rfl ((aI s x ks vs).fst.length) ((aI s x ks vs).snd.length) ks.length ih
theorem Ap:∀{ks:List String} {vs:List V} {y:String},ks.length=vs.length->y∈(aI s x ks vs).1->y=s∨y∈ks:=by
 intro ks
 induction ks with
 |nil=>
  intro y1
  cases y1 with
  |nil=>
   intro y y2 h
   exact .inl (by simpa[qK] using h)
  |cons y3 y4=>
   intro y h y5
   simp at h
 |cons k ks ih=>
  intro y6
  cases y6 with
  |nil=>
   intro y h y7
   simp at h
  |cons v vs=>
   intro y h hy
   rw[fc] at hy
   by_cases e:(k==s)=true
   ·rw[if_pos e] at hy;exact .inr hy
   ·rw[if_neg e] at hy
    rcases PU.mp hy with e2|e2
    ·exact .inr (by simp[e2])
    ·exact(ih (by simpa using h) e2).imp id λ h=>by simp[h]
theorem Bm:∀{ks:List String} {vs:List V},ks.length=vs.length->ks.Nodup->(aI s x ks vs).1.Nodup:=by
 intro ks
 induction ks with
 |nil=>
  intro y1
  cases y1 with
  |nil=>
   intro y2 y3
   simp[qK]
  |cons y4 y5=>
   intro h y6
   simp at h
 |cons k ks ih=>
  intro y7
  cases y7 with
  |nil=>
   intro h y8
   simp at h
  |cons v vs=>
   intro h nd
   rewrite[fc]
   by_cases e:(k==s)=true
   ·refine aa (if_pos e) ?_;exact nd
   ·refine aa (if_neg e) ?_
    rw[QJ] at nd
    refine QJ.mpr ⟨λ hm=> ?_,ih (by simpa using h) nd.2⟩
    rcases Ap (by simpa using h) hm with e2|e2
    ·subst e2;exact e (by simp)
    ·exact nd.1 e2
theorem Ar{P:V->Prop}(hx:P x):∀{ks:List String} {vs:List V},(∀v∈vs,P v)->∀v∈(aI s x ks vs).2,P v:=by
 intro ks
 induction ks with
 |nil=>
  intro vs y1 v h
  refine aa (P2.mp h) ?_;exact hx
 |cons k ks ih=>
  intro y2
  cases y2 with
  |nil=>
   intro y3 v h
   refine aa (P2.mp h) ?_;exact hx
  |cons u vs=>
   intro hv v h
   rw[fc] at h
   by_cases e:(k==s)=true
   ·rw[if_pos e] at h
    rcases PU.mp h with e2|e2
    ·refine aa e2 ?_;exact hx
    ·exact hv v (by simp[e2])
   ·rw[if_neg e] at h
    rcases PU.mp h with e2|e2
    ·refine aa e2 ?_;exact hv u (by simp)
    ·exact ih (λ y hy=>hv y (by simp[hy])) v e2
theorem xS:∀{ks:List String} {vs:List V},ks.length=vs.length->aL (aI s x ks vs).2<=aL vs+cq x:=by
 intro ks
 induction ks with
 |nil=>
  intro y1
  cases y1 with
  |nil=>
   intro y2
   simp[qK,jm,eZ]
  |cons y3 y4=>
   intro h
   simp at h
 |cons k ks ihq=>
  intro y5
  cases y5 with
  |nil=>
   intro h
   simp at h
  |cons v vs=>
   intro h
   have ih:=ihq (vs:=vs) (by simpa using h)
   rewrite[fc]
   by_cases e:(k==s)=true
   ·refine aa (if_pos e) ?_;simp only [eZ];exact ae 0x10510524c149103 rfl (cq x) (aL vs) (cq v)
   ·refine aa (if_neg e) ?_;simp only [eZ];exact ae 0x90414c149405150105349104 rfl (aL (aI s x ks vs).snd) (aL vs) (cq x) (cq v) ih
end
structure fu(d:Nat)(ks:List String)(vs:List V)(L C:Nat):Prop where
 len:ks.length=vs.length
 nd:ks.Nodup
 pv:∀v∈vs,PV d v
 most:ks.length<=L
 cst:aL vs<=C
theorem fu.put{ks:List String}{vs:List V}(h:fu d ks vs L C){x:V}(hx:PV d x)(s:String):fu d (aI s x ks vs).1 (aI s x ks vs).2 (L+1) (C+cq x):=by
 have h1:=Aq (s:=s) (x:=x) h.len
 have h2:=xS (s:=s) (x:=x) h.len
 have h3:=h.most
 have h4:=h.cst
 exact⟨h1.1,Bm h.len h.nd,Ar hx h.pv,ae 0x92410615110544c704185344349104 rfl ((aI s x ks vs).fst.length) ((aI s x ks vs).snd.length) ks.length L h1 h3,ae 0x924105351105448105349104 rfl (aL (aI s x ks vs).snd) (aL vs) (cq x) C h2 h4⟩
theorem fu.mono{ks:List String}{vs:List V}(h:fu d ks vs L C)(hL:L<=L')(hC:C<=C'):fu d ks vs L' C':=⟨h.len,h.nd,h.pv,PN h.most hL,PN h.cst hC⟩
theorem bV{ks:List String}{vs:List V}{s:String}{x:V}(h:ks.length<=100):dL (.Eu ks vs) (.str s) x=some (.Eu (aI s x ks vs).1 (aI s x ks vs).2):=by
 exact if_pos (by unfold ar;exact ae 0x48386a0533f441c8085fd101 rfl ks.length h)
theorem PV.int(hd:2<=d)(i:Int):PV d (.int i):=.inr ⟨λ zz h=>(by cases h),trivial,(jh i).mono hd⟩
theorem PV.bool(hd:2<=d)(b:Bool):PV d (.bool b):=.inr ⟨λ zz h=>(by cases h),trivial,(oK b).mono hd⟩
theorem PV.name(hd:2<=d)(a:String):PV d (.inst 1 [.str a]):=.inr ⟨λ zz h=>(by cases h),(show(1:Nat)≠4 by decide),(AA a).mono hd⟩
theorem d6.ob(h:d6 a v t p):Ob 2 v/\NR v:=by
 have:=h.num
 cases this with
 |int=>exact⟨jh _,trivial⟩
 |dec=>exact⟨wA _ _,(show(0:Nat)≠4 by decide)⟩
theorem jL{T T2:List V}(h:T<+:T2){vs xs:List V}(a:aW (HV T) vs xs):aW (HV T2) vs xs:=a.mono λ zz zz r=>r.mono h
theorem lS{T:List V}:∀{ps:List V},aW (λ y p=>Bh T y p/\NR p) ps [v,u]->∃x y,ps=[x,y]/\Bh T x v/\Bh T y u
 |[x,y],h=>⟨x,y,rfl,h.1.1,h.2.1.1⟩
 |[],h=>h.elim
 |[_],h=>h.2.elim
 |_::_::_::_,h=>h.2.2.elim
def D5(b:Nat):Prop:=b=1∨b=2∨b=4∨b=8∨b=16
structure ly(ks:List String)(vs:List V)(W h:V)(b:V)(v u:V):Prop where
 wd:ay ks vs "Width" =some W
 ht:ay ks vs "Height" =some h
 bp:ay ks vs "BitsPerComponent" =some b
 im:ay ks vs "ImageMask" =none
 de:(ay ks vs "Decode" =none/\v=.int 0/\u=.int 1)∨ay ks vs "Decode" =some (.list [v,u])
section
variable{n:Nat}{w cc t K W h b c pl:Nat}{T:List V}{ks:List String}{vs xs:List V}{px:List (List (List Nat))}{v u:V}{a1 a2 t1 t2:Int}{p1 p2:Nat}{M M':AH}{Q:V->AH->Prop}{X:AH->Prop}
theorem bw(i:Int):∀ps,V.int i≠.list ps:=λ zz h=>by cases h
theorem d9(i:Bool):∀ps,V.bool i≠.list ps:=λ zz h=>by cases h
theorem qE{W h b:V}(a:aW (HV T) vs xs)(k:ly ks vs W h b v u):nW T (.dict ks xs) v u:=by
 rcases k.de with⟨h,e1,e2⟩|h
 ·exact .inl ⟨fV a h,e1,e2⟩
 ·refine ai (jo a h) λ ps h2 h3=> ?_
  refine kQ (lS h2) λ x y EN hx hy=> ?_;subst EN
  exact .inr ⟨x,y,h3,hx,hy⟩
theorem qD(a:aW (HV T) vs xs)(k:ly ks vs (.int W) (.int h) (.int b) v u)(hW:1<=W)(hh:1<=h)(hb:D5 b):fE T (.dict ks xs) W h b:=
 ⟨aQ a k.wd (bw _),aQ a k.ht (bw _),hW,hh,.inr ⟨.none,fV a k.im,aQ a k.bp (bw _),hb,λ h=>by cases h⟩⟩
theorem v7(a:aW (HV T) vs xs)(k:ly ks vs (.int W) (.int h) (.int b) v u)(e1:d6 a1 v t1 p1)(e2:d6 a2 u t2 p2)(dm:ca px W h b 1)(hW:1<=W)(hh:1<=h)(hb:D5 b)(hW8:W<=8)(hh8:h<=8)(hp:pl<=9):
  iI t T 59 [sh t,EI (.dict ks xs) px b,.fn 67,.int pl] (aK h W λ i j=>ej (b8 (dA (bS px i j) b t1 t2 p1 p2) (dB b p1 p2) pl) pl):=
 λ n M Q X hT q=>Ab hT (qD a k hW hh hb) (qE a k) e1.num e2.num e1.tb e2.tb e1.p4 e2.p4 hp dm hW8 hh8 q
theorem xK(r:Nat)(hl:ks.length=vs.length)(k:ly ks vs (.int W) (.int h) (.int b) v u)(e1:d6 a1 v t1 p1)(e2:d6 a2 u t2 p2)(dm:ca px W h b 1)(hW:1<=W)(hh:1<=h)(hb:D5 b)(hW8:W<=8)(hh8:h<=7)
  {s:String}(hs:(s= "Width" /\x=.int 0)∨(s= "Height" /\x=.int ((h+1:Nat):Int))∨(s= "BitsPerComponent" /\x=.int 3)∨(s= "Decode" /\x=.list [.int 0,.int 1,.int 1])∨(s= "Decode" /\x=.list [.int 0,.bool true])∨(s= "Width" /\x=.bool true))
  (a:aW (HV T) (aI s x ks vs).2 xs):kW t T 59 [sh t,EI (.dict (aI s x ks vs).1 xs) px b,.fn 67,.int pl]:=by
 intro n M Q X hT q
 have g:=λ s'=>i4 (s:=s) (x:=x) (s':=s') hl
 rcases hs with⟨rfl,rfl⟩|⟨rfl,rfl⟩|⟨rfl,rfl⟩|⟨rfl,rfl⟩|⟨rfl,rfl⟩|⟨rfl,rfl⟩
 ·exact jR hT (aQ a (g "Width") (bw _)) (.inr ⟨0,rfl,by decide⟩) (q _ (.refl _))
 ·have k':ly (aI "Height" (.int ((h+1:Nat):Int)) ks vs).1 (aI "Height" (.int ((h+1:Nat):Int)) ks vs).2 (.int W) (.int ((h+1:Nat):Int)) (.int b) v u:=
   ⟨(g "Width").trans k.wd,g "Height",(g "BitsPerComponent").trans k.bp,(g "ImageMask").trans k.im,k.de.imp (λ⟨x,y⟩=>⟨(g "Decode").trans x,y⟩) λ x=>(g "Decode").trans x⟩
  exact n9 hT (qD a k' hW (ae 0x106146101 rfl h) hb) (qE a k') e1.num e2.num dm hW8 (Rd _) (ae 0x90680614419d101 rfl h hh8) q
 ·exact pK hT (aQ a ((g "Width").trans k.wd) (bw _)) hW (aQ a ((g "Height").trans k.ht) (bw _)) hh (fV a ((g "ImageMask").trans k.im)) (aQ (v:=.int ((3:Nat):Int)) a (g "BitsPerComponent") (bw _)) (by decide) (by decide) (q _ (.refl _))
 ·have f:fE T (.dict (aI "Decode" (.list [.int 0,.int 1,.int 1]) ks vs).1 xs) W h b:=
   ⟨aQ a ((g "Width").trans k.wd) (bw _),aQ a ((g "Height").trans k.ht) (bw _),hW,hh,.inr ⟨.none,fV a ((g "ImageMask").trans k.im),aQ a ((g "BitsPerComponent").trans k.bp) (bw _),hb,λ h=>by cases h⟩⟩
  refine ai (jo a (g "Decode")) λ ps h2 h3=> ?_
  exact sA hT f h3 (by refine aa h2.len ?_;decide) q
 ·have f:fE T (.dict (aI "Decode" (.list [.int 0,.bool true]) ks vs).1 xs) W h b:=
   ⟨aQ a ((g "Width").trans k.wd) (bw _),aQ a ((g "Height").trans k.ht) (bw _),hW,hh,.inr ⟨.none,fV a ((g "ImageMask").trans k.im),aQ a ((g "BitsPerComponent").trans k.bp) (bw _),hb,λ h=>by cases h⟩⟩
  refine ai (jo a (g "Decode")) λ ps h2 h3=> ?_
  refine kQ (lS h2) λ x y EN hx hy=> ?_;subst EN
  exact qu hT f h3 hx hy (.int 0) q
 ·exact jR hT (aQ a (g "Width") (d9 _)) (.inl ⟨true,rfl⟩) (q _ (.refl _))
end
theorem gJ(r:Nat):(1:Int)+(r:Int)=((1+r:Nat):Int):=by push_cast;rfl
theorem CV(M:AH)(r:Nat)(hr:r<5):∃b:Nat,D5 b/\eh M (.tup [.int 8,.int 1,.int 2,.int 4,.int 16]) (.int r)=some (.int b):=by
 match r,hr with
 |0,_=>exact aA 8 (.inr (.inr (.inr (.inl rfl)))) rfl
 |1,_=>exact aA 1 (.inl rfl) rfl
 |2,_=>exact aA 2 (.inr (.inl rfl)) rfl
 |3,_=>exact aA 4 (.inr (.inr (.inl rfl))) rfl
 |4,_=>exact aA 16 (.inr (.inr (.inr (.inr rfl)))) rfl
theorem D5.le(h:D5 b):1<=b/\b<=16:=by unfold D5 at h;exact ae 0x91c1c11051848208203c110e84439110e244385101 rfl b h
section
variable{n:Nat}{w cc t K W h b c pl:Nat}{T:List V}{ks:List String}{vs xs:List V}{px:List (List (List Nat))}{v u:V}{M M':AH}{Q:V->AH->Prop}{X:AH->Prop}
theorem sF(s:aV w cc t K T M)(hl:T.length<=20)(hK:K<=2^60)(hp:pl<=9)
  (q:∀fs W h (f:Nat->Nat->Int) T' M',aV w cc t (K+3000) T' M'->bh w cc t M M'->T<+:T'->T'.length<=T.length+20->Ob 5 (.inst 3 fs)->1<=W->W<=8->1<=h->h<=8->
   (bad=false->∀T2,T'<+:T2->iI t T2 59 [sh t,.inst 3 fs,.fn 67,.int pl] (aK h W λ i j=>ej (f i j) pl))->
   (bad=true->∀T2,T'<+:T2->kW t T2 59 [sh t,.inst 3 fs,.fn 67,.int pl])->Q (.tup [.inst 3 fs,aK h W λ i j=>n8 (f i j) pl]) M'):
  ag ak (n+6) 70 [.ref w,sh t,.int pl,.bool bad] M Q X:=by
 have EM:=s.lt
 refine Ey dn rfl rfl rfl ?_
 refine aX (m:=5) s (by decide) (by decide) (ae 0x9066407f4418f01fd101 rfl K hK) λ r M1 hr s1 f1=> ?_
 refine ai (CV M1 r hr) λ b hb H2=> ?_
 have Fq:=hb.le
 refine ah H2 ?_
 refine aX (m:=3) s1 (by decide) (by decide) (ae 0x9066407f0614418f01fd101 rfl K hK) λ r2 M2 H3 s2 f2=> ?_
 refine aX (m:=3) s2 (by decide) (by decide) (ae 0x9066407f0610614418f01fd101 rfl K hK) λ r3 M3 Jg s3 f3=> ?_
 and_intros
 refine aa (gJ _) ?_;refine aa (gJ _) ?_
 have hW:1<=1+r2/\1+r2<=3:=ae 0x91c18c14610414618428d101 rfl r2 H3
 have hh:1<=1+r3/\1+r3<=3:=ae 0x91c18c14610414618428d101 rfl r3 Jg
 generalize 1+r2=W at*
 generalize 1+r3=h at*
 refine ki (c:=1) s3 (ae 0x906844706344146101 rfl W hW) (ae 0x906844706344146101 rfl h hh) Fq.1 Fq.2 (by decide) (ae 0x9065007f0610610614418f01fd101 rfl K hK) λ px M4 dm s4 f4=> ?_
 have Kh:=((f1.trans f2).trans f3).trans f4
 clear f1 f2 f3 f4 s1 s2 s3
 have bm:∀{ks:List String} {vs:List V} {a1 a2 t1 t2:Int} {v1 v2:V} {p1 p2:Nat} {M5:AH} {R:Nat} {c7 c6 Ga Jo Kl Kk:Option V},aV w cc t (K+1010) T M5->bh w cc t M M5->M.next<=R->R<M5.next->M5.m R=some (.Eu ks vs)->fu 3 ks vs 6 9->
   ly ks vs (.int W) (.int h) (.int b) v1 v2->d6 a1 v1 t1 p1->d6 a2 v2 t2 p2->
   bq ak (ag ak (n+5)) (bC 5 dn.body) [some (.ref w),some (sh t),some (.int pl),some (.bool bad),some (bk px),some (.ref R),c6,c7,some (.int b),some (.int W),some (.int h),some (.tup [.int a1,v1]),some (.tup [.int a2,v2]),Ga,Jo,Kl,Kk] M5 (λ _ M'=>Q .none M') Q X:=by
  intro ks vs a1 a2 t1 t2 v1 v2 p1 p2 M5 R c7 c6 Ga Jo Kl Kk s5 f5 ER E2 hR pn sk e1 e2
  have hd:∀{F8:List String} {FG:List V} {M6:AH} {Ga Jo:Option V},aV w cc t (K+1020) T M6->bh w cc t M M6->R<M6.next->M6.m R=some (.Eu F8 FG)->fu 3 F8 FG 7 13->
    (∀xs T',aW (HV T') FG xs->(bad=false->iI t T' 59 [sh t,EI (.dict F8 xs) px b,.fn 67,.int pl] (aK h W λ i j=>ej (b8 (dA (bS px i j) b t1 t2 p1 p2) (dB b p1 p2) pl) pl))/\
     (bad=true->kW t T' 59 [sh t,EI (.dict F8 xs) px b,.fn 67,.int pl]))->
    bq ak (ag ak (n+5)) (bC 6 dn.body) [some (.ref w),some (sh t),some (.int pl),some (.bool bad),some (bk px),some (.ref R),c6,c7,some (.int b),some (.int W),some (.int h),some (.tup [.int a1,v1]),some (.tup [.int a2,v2]),Ga,Jo,Kl,Kk] M6 (λ _ M'=>Q .none M') Q X:=by
   intro F8 FG M6 Ga Jo s6 f6 E2 hR Gh gb
   refine vZ s6 f6 ER EM hR E2 Gh.pv Gh.len Gh.nd (PN Gh.most (by decide)) (PN Gh.cst (by decide)) (ae 0x907e441d1101 rfl T.length hl) (ae 0x4832303f83fe0223f4418f01fd101 rfl K hK) dm (ae 0x906444706344146101 rfl W hW) (ae 0x906444706344146101 rfl h hh) Fq.1 Fq.2 hp e1 e2 λ xs T' M7 s7 f7 p7 l7 a7 o7=> ?_
   refine q _ W h _ T' M7 (s7.mono (ae 0x83770193fa20e80ff8088fd101 rfl K)) f7 p7 (PN l7 (by have:=Gh.cst;exact ae 0x9041d12051481b5102 rfl (aL FG) T.length this)) ?_ hW.1 (ae 0x906844706344146101 rfl W hW) hh.1 (ae 0x906844706344146101 rfl h hh) (λ ES T2 h2=>(gb xs T2 (jL h2 a7)).1 ES) λ ES T2 h2=>(gb xs T2 (jL h2 a7)).2 ES
   exact kF (lh o7 (by refine aa Gh.len ?_;refine aa a7.len ?_;rfl) (by have:=Gh.most;exact ae 0x90a0607f4419d101 rfl F8.length this) (by decide)) (by decide)
  refine⟨λ ES=> ?_,λ ES=> ?_⟩
  ·refine aX (m:=6) s5 (by decide) (by decide) (ae 0x9066407f07f20127f4418f01fd101 rfl K hK) λ r M6 hr s6 f6=> ?_
   have HO:M6.m R=some (.Eu ks vs):=(f6.same _ E2 (by(rename_i z0 z1;exact ae 0x92498034550554871c24940924c249105 rfl w M.next cc t R EM ER)) (by(rename_i z0 z1;exact ae 0x92498034d50554871c24940924c249105 rfl w M.next cc t R EM ER)) (by(rename_i z0 z1;exact ae 0x92498035150554871c24940924c249105 rfl w M.next cc t R EM ER))).trans hR
   have GF:R<M6.next:=PK E2 f6.next
   have G7:ks.length<=100:=PN pn.most (by decide)
   have fin:∀(key:String) (x:V),PV 3 x->cq x<=4->((key= "Width" /\x=.int 0)∨(key= "Height" /\x=.int ((h+1:Nat):Int))∨(key= "BitsPerComponent" /\x=.int 3)∨(key= "Decode" /\x=.list [.int 0,.int 1,.int 1])∨(key= "Decode" /\x=.list [.int 0,.bool true])∨(key= "Width" /\x=.bool true))->
     bq ak (ag ak (n+5)) (bC 6 dn.body) [some (.ref w),some (sh t),some (.int pl),some (.bool bad),some (bk px),some (.ref R),c6,c7,some (.int b),some (.int W),some (.int h),some (.tup [.int a1,v1]),some (.tup [.int a2,v2]),some (.str key),some x,Kl,Kk] (M6.set R (.Eu (aI key x ks vs).1 (aI key x ks vs).2)) (λ _ M'=>Q .none M') Q X:=by
    intro key x hx hc hs
    refine hd ((s6.mono (by(rename_i z0 z1;exact ae 0x83fe0223f441841fc8049fd101 rfl K))).Er (by(rename_i z0 z1;exact ae 0x92498034550554871c24940924c249105 rfl w M.next cc t R EM ER)) (by(rename_i z0 z1;exact ae 0x92498034d50554871c24940924c249105 rfl w M.next cc t R EM ER)) (by(rename_i z0 z1;exact ae 0x92498035150554871c24940924c249105 rfl w M.next cc t R EM ER)) _) ((f5.trans f6).Er ER _) GF (aF _ _ _) ((pn.put hx key).mono (by decide) (by(rename_i z0 z1;exact ae 0x906d051a4191101 rfl (cq x) hc))) λ xs T' a=>⟨λ h=> ?_,λ _=>xK r pn.len sk e1 e2 dm hW.1 hh.1 hb (by(rename_i z0 z1 z2;exact ae 0x906844706344146101 rfl W hW)) (by(rename_i z0 z1 z2;exact ae 0x906744706344146101 rfl h hh)) hs a⟩
    rw[ES] at h;cases h
   have MF:∀{ps:List V},ps.length<=20->(∀p∈ps,Ob 2 p/\NR p)->PV 3 (.list ps):=λ h1 h2=>.inl ⟨_,rfl,h1,h2⟩
   match r,hr with
   |0,_=>and_intros;refine ah HO ?_;refine ah (bV G7) ?_;exact fin "Width" (.int 0) (PV.int (by decide) _) (by decide) (.inl ⟨rfl,rfl⟩)
   |1,_=>and_intros;refine ah HO ?_;refine ah (bV G7) ?_;exact fin "Height" (.int ((h+1:Nat):Int)) (PV.int (by decide) _) (show 1<=4 by decide) (.inr (.inl ⟨rfl,rfl⟩))
   |2,_=>and_intros;refine ah HO ?_;refine ah (bV G7) ?_;exact fin "BitsPerComponent" (.int 3) (PV.int (by decide) _) (by decide) (.inr (.inr (.inl ⟨rfl,rfl⟩)))
   |3,_=>and_intros;refine ah HO ?_;refine ah (bV G7) ?_;exact fin "Decode" (.list [.int 0,.int 1,.int 1]) (MF (by decide) λ p hp=>by simp at hp;rcases hp with rfl|rfl<;>exact⟨jh _,trivial⟩) (by decide) (.inr (.inr (.inr (.inl ⟨rfl,rfl⟩))))
   |4,_=>and_intros;refine ah HO ?_;refine ah (bV G7) ?_;exact fin "Decode" (.list [.int 0,.bool true]) (MF (by decide) λ p hp=>by simp at hp;rcases hp with rfl|rfl<;>first|exact⟨jh _,trivial⟩|exact⟨oK _,trivial⟩) (by decide) (.inr (.inr (.inr (.inr (.inl ⟨rfl,rfl⟩)))))
   |5,_=>and_intros;refine ah HO ?_;refine ah (bV G7) ?_;exact fin "Width" (.bool true) (PV.bool (by decide) _) (by decide) (.inr (.inr (.inr (.inr (.inr ⟨rfl,rfl⟩)))))
  ·refine hd (s5.mono (ae 0x83fe0223f441fc8049fd101 rfl K)) f5 E2 hR (pn.mono (by decide) (by decide)) λ xs T' a=>⟨λ _=>v7 a sk e1 e2 dm hW.1 hh.1 hb (ae 0x906844706344146101 rfl W hW) (ae 0x906844706344146101 rfl h hh) hp,λ h=> ?_⟩
   rw[ES] at h;cases h
 refine fR λ M5 k5=> ?_
 refine fR λ M6 k6=> ?_
 refine fo rfl (by decide) (by decide) ?_
 have s6:=((s4.pu k5).pu k6).pu (Pu.new M6 (.Eu ["Subtype","Width","Height","ColorSpace","BitsPerComponent"] [.inst 1 [.str "Image"],.int W,.int h,.inst 1 [.str "DeviceGray"],.int b]))
 have f6:=((Kh.pu k5).pu k6).pu (Pu.new M6 (.Eu ["Subtype","Width","Height","ColorSpace","BitsPerComponent"] [.inst 1 [.str "Image"],.int W,.int h,.inst 1 [.str "DeviceGray"],.int b]))
 have Hj:M.next<=M6.next:=((Kh.pu k5).pu k6).next
 have pn:fu 3 ["Subtype","Width","Height","ColorSpace","BitsPerComponent"] [.inst 1 [.str "Image"],.int W,.int h,.inst 1 [.str "DeviceGray"],.int b] 5 5:=
  ⟨rfl,by decide,λ v hv=>by simp at hv;rcases hv with rfl|rfl|rfl|rfl|rfl<;>first|exact PV.int (by decide) _|exact PV.name (by decide) _,by decide,PE 5⟩
 refine aX (m:=4) s6 (by decide) (by decide) (ae 0x2419901fc1fa031ff0610610614418f01fd101 rfl K hK) λ r M7 hr s7 f7=> ?_
 have GH:=(f7.same _ (b6 _ _) (by(rename_i z0 z1;exact ae 0x92498034550554871c24940924c249105 rfl w M.next cc t M6.next EM Hj)) (by(rename_i z0 z1;exact ae 0x92498034d50554871c24940924c249105 rfl w M.next cc t M6.next EM Hj)) (by(rename_i z0 z1;exact ae 0x92498035150554871c24940924c249105 rfl w M.next cc t M6.next EM Hj))).trans (bL M6 _)
 have FW:M6.next<M7.next:=PK (b6 _ _) f7.next
 refine⟨λ _=> ?_,λ _=> ?_⟩
 ·refine vU s7 (by(rename_i z0 z1 z2;exact ae 0x2419401fc1841fa031ff0610610614418f01fd101 rfl K hK)) λ a1 v1 t1 p1 M8 e1 s8 f8=> ?_
  refine vU s8 (by(rename_i z0 z1 z2;exact ae 0x2419401fc1881841fa031ff0610610614418f01fd101 rfl K hK)) λ a2 v2 t2 p2 M9 e2 s9 f9=> ?_
  have Mn:=f8.trans f9
  refine ah ((Mn.same _ FW (by(rename_i z0 z1 z2;exact ae 0x92498034550554871c24940924c249105 rfl w M.next cc t M6.next EM Hj)) (by(rename_i z0 z1 z2;exact ae 0x92498034d50554871c24940924c249105 rfl w M.next cc t M6.next EM Hj)) (by(rename_i z0 z1 z2;exact ae 0x92498035150554871c24940924c249105 rfl w M.next cc t M6.next EM Hj))).trans GH) ?_
  refine ah (bV (by decide)) ?_
  have o1:=e1.ob
  have o2:=e2.ob
  have pd:PV 3 (.list [v1,v2]):=.inl ⟨_,rfl,(show 2<=20 by decide),λ p hp=>by simp at hp;rcases hp with rfl|rfl<;>assumption⟩
  exact bm ((s9.mono (by(rename_i z0 z1 z2;exact ae 0x41fc8049fd106206206107e80c7fc184184185101 rfl K))).Er (by(rename_i z0 z1 z2;exact ae 0x92498034550554871c24940924c249105 rfl w M.next cc t M6.next EM Hj)) (by(rename_i z0 z1 z2;exact ae 0x92498034d50554871c24940924c249105 rfl w M.next cc t M6.next EM Hj)) (by(rename_i z0 z1 z2;exact ae 0x92498035150554871c24940924c249105 rfl w M.next cc t M6.next EM Hj)) _) ((f6.trans (f7.trans Mn)).Er Hj _) Hj (PK FW Mn.next) (aF _ _ _) ((pn.put pd "Decode").mono (by decide) (show 5+3<=9 by decide))
   ⟨rfl,rfl,rfl,rfl,.inr rfl⟩ e1 e2
 ·exact bm (s7.mono (by(rename_i z0 z1 z2;exact ae 0x41fc8049fd106107e80c7fc184184185101 rfl K))) (f6.trans f7) Hj FW GH (pn.mono (by decide) (by decide)) ⟨rfl,rfl,rfl,rfl,.inl ⟨rfl,rfl,rfl⟩⟩ (a1:=0) (a2:=10000) ⟨.int 0,by decide,by decide,by decide,rfl⟩ ⟨.int 1,by decide,by decide,by decide,rfl⟩
end
structure zM(v u:V)(low p:Nat)(t2:Int):Prop where
 nv:br v (low:Int) 0
 nu:br u t2 0
 m:eJ (lr low t2 0 0) ls=some true
 hp:p=if low=0 then 0 else 1
structure so(ks:List String)(vs:List V)(W h:Nat)(v u:V):Prop where
 im:ay ks vs "ImageMask" =some (.bool true)
 wd:ay ks vs "Width" =some (.int W)
 ht:ay ks vs "Height" =some (.int h)
 bp:ay ks vs "BitsPerComponent" =none∨ay ks vs "BitsPerComponent" =some (.int 1)
 de:(ay ks vs "Decode" =none/\v=.int 0/\u=.int 1)∨ay ks vs "Decode" =some (.list [v,u])
section
variable{n:Nat}{w cc t K W h b c p low:Nat}{T:List V}{ks:List String}{vs xs:List V}{px:List (List (List Nat))}{v u:V}{t2:Int}{M M':AH}{Q:V->AH->Prop}{X:AH->Prop}
theorem qm(a:aW (HV T) vs xs)(k:so ks vs W h v u):nW T (.dict ks xs) v u:=by
 rcases k.de with⟨h,e1,e2⟩|h
 ·exact .inl ⟨fV a h,e1,e2⟩
 ·refine ai (jo a h) λ ps h2 h3=> ?_
  refine kQ (lS h2) λ x y EN hx hy=> ?_;subst EN
  exact .inr ⟨x,y,h3,hx,hy⟩
theorem ql(a:aW (HV T) vs xs)(k:so ks vs W h v u)(hW:1<=W)(hh:1<=h):fE T (.dict ks xs) W h 1:=by
 refine⟨aQ a k.wd (bw _),aQ a k.ht (bw _),hW,hh,?_⟩
 rcases k.bp with e|e
 ·exact .inl ⟨.bool true,aQ a k.im (d9 _),rfl,fV a e,rfl⟩
 ·exact .inr ⟨.bool true,aQ a k.im (d9 _),aQ (v:=.int ((1:Nat):Int)) a e (bw _),.inl rfl,λ zz=>rfl⟩
theorem z9(a:aW (HV T) vs xs)(k:so ks vs W h v u)(e:zM v u low p t2)(dm:ca px W h 1 1)(hW:1<=W)(hh:1<=h)(hW8:W<=8)(hh8:h<=8):
  iI t T 58 [sh t,EI (.dict ks xs) px 1,.fn 67] (aK h W λ i j=>.bool (bS px i j==p)):=
 λ n M Q X hT q=>uu hT (aQ a k.im (d9 _)) rfl (ql a k hW hh) (qm a k) e.nv e.nu e.m e.hp dm hW8 hh8 q
def Dt(h:Nat)(s:String)(x:V):Prop:=(s= "ImageMask" /\x=.bool false)∨(s= "BitsPerComponent" /\x=.int 2)∨(s= "Decode" /\x=.list [.int 0,ej 5 1])∨(s= "Decode" /\x=.list [.int 1,.int 1])∨(s= "Height" /\x=.int ((h+1:Nat):Int))∨(s= "ImageMask" /\x=.int 1)
theorem Bb(hl:ks.length=vs.length)(k:so ks vs W h v u)(e:zM v u low p t2)(dm:ca px W h 1 1)(hW:1<=W)(hh:1<=h)(hW8:W<=8)(hh8:h<=7)
  (hs:Dt h s x)(a:aW (HV T) (aI s x ks vs).2 xs):kW t T 58 [sh t,EI (.dict (aI s x ks vs).1 xs) px 1,.fn 67]:=by
 intro n M Q X hT q
 have g:=λ s'=>i4 (s:=s) (x:=x) (s':=s') hl
 have two:∀{v' u':V} {i:Int} {j:Nat} {i2:Int} {j2:Nat},s= "Decode" ->x=.list [v',u']->br v' i j->br u' i2 j2->eJ (lr i i2 j j2) ls=some false->ag ak (n+7) 58 [sh t,EI (.dict (aI s x ks vs).1 xs) px 1,.fn 67] M Q X:=by
  intro v' u' i j i2 j2 hs hx n1 n2 hm
  subst hs hx
  have k':so (aI "Decode" (.list [v',u']) ks vs).1 (aI "Decode" (.list [v',u']) ks vs).2 W h v' u':=
   ⟨(g "ImageMask").trans k.im,(g "Width").trans k.wd,(g "Height").trans k.ht,k.bp.imp (λ x=>(g "BitsPerComponent").trans x) λ x=>(g "BitsPerComponent").trans x,.inr (g "Decode")⟩
  exact mL hT (aQ a k'.im (d9 _)) rfl (ql a k' hW hh) (qm a k') n1 n2 hm q
 rcases hs with⟨rfl,rfl⟩|⟨rfl,rfl⟩|⟨h1,h2⟩|⟨h1,h2⟩|⟨rfl,rfl⟩|⟨rfl,rfl⟩
 ·exact jU hT (aQ a (g "ImageMask") (d9 _)) rfl (q _ (.refl _))
 ·exact lV hT (aQ a ((g "ImageMask").trans k.im) (d9 _)) rfl (aQ a ((g "Width").trans k.wd) (bw _)) hW (aQ a ((g "Height").trans k.ht) (bw _)) hh (aQ (v:=.int ((2:Nat):Int)) a (g "BitsPerComponent") (bw _)) (by decide) (by decide) (q _ (.refl _))
 ·exact two h1 h2 (.int 0) (.dec 5 1) rfl
 ·exact two h1 h2 (.int 1) (.int 1) rfl
 ·have k':so (aI "Height" (.int ((h+1:Nat):Int)) ks vs).1 (aI "Height" (.int ((h+1:Nat):Int)) ks vs).2 W (h+1) v u:=
   ⟨(g "ImageMask").trans k.im,(g "Width").trans k.wd,g "Height",k.bp.imp (λ x=>(g "BitsPerComponent").trans x) λ x=>(g "BitsPerComponent").trans x,k.de.imp (λ⟨x,y⟩=>⟨(g "Decode").trans x,y⟩) λ x=>(g "Decode").trans x⟩
  exact lA hT (aQ a k'.im (d9 _)) rfl (ql a k' hW (ae 0x106146101 rfl h)) (qm a k') e.nv e.nu e.m dm hW8 (Rd _) (ae 0x90680614419d101 rfl h hh8) q
 ·exact jU hT (aQ a (g "ImageMask") (bw _)) rfl (q _ (.refl _))
theorem BN(s p:Nat):((s:Int)==(p:Int))=(s==p):=xp s p
theorem z8
  (s:aV w cc t K T M)(f0:bh w cc t M0 M)(ER:M0.next<=R)(EM:w<M0.next/\cc<M0.next/\t<M0.next)(hR:M.m R=some (.Eu ks vs))(E2:R<M.next)
  (Ip:p=if((2:Int)==(wy:Int)||((4:Int)==(wy:Int)||false))=true then 1 else 0)
  (hv:∀v∈vs,PV 3 v)(hk:ks.length=vs.length)(nd':ks.Nodup)(HG:ks.length<=15)(hc:aL vs<=20)(hl:T.length<=30)(hK:K<=2^70)
  (dm:ca px W h 1 1)(hW:W<=4)(hh:h<=4)
  (q:∀xs T' M',aV w cc t (K+20) T' M'->bh w cc t M0 M'->T<+:T'->T'.length<=T.length+aL vs->aW (HV T') vs xs->(∀x∈xs,Ob 3 x)->
   Q (.tup [EI (.dict ks xs) px 1,aK h W λ i j=>.tup [.int (if bS px i j==p then 1 else 0),.int 0]]) M'):
  bq ak (ag ak (n+5)) (bC 7 bx.body) [some (.ref w),some (sh t),c2,some (bk px),some (.ref R),some (.int wy),c6,c7,c8,c9,He,Hd,Hl,Ga] M N Q X:=by
 have go:∀{c6:Option V},bq ak (ag ak (n+5)) (bC 8 bx.body) [some (.ref w),some (sh t),c2,some (bk px),some (.ref R),some (.int wy),some (.int p),c7,c8,c9,He,Hd,Hl,Ga] M N Q X:=by
  intro _
  and_intros
  refine aa (gC dm) ?_
  refine dQ (h:=h) (w:=W) (g':=λ i j=>.tup [.int (if bS px i j==p then 1 else 0),.int 0]) (ae 0x906844191101 rfl h hh) (ae 0x906844191101 rfl W hW) (λ i hi M1 k1 K1 Ie=> ?_) λ M1 k1=> ?_
  ·repeat infer_instance
   refine cb (n:=W) (g':=λ j=>.tup [.int (if bS px i j==p then 1 else 0),.int 0]) (by unfold ar;exact ae 0x48386a0533f44191101 rfl W hW) (λ j hj M2 k2 K2 E9=> ?_) λ M2 k2=>Ie _ (k1.trans k2)
   refine aa (lg (dm.at_ hi hj).1) ?_;refine aa (show(bN px i j).getD 0 0=bS px i j from rfl) ?_
   and_intros
   refine aa (BN _ _) ?_
   exact E9 _ k2
  ·and_intros
   refine aa (iR ((k1.same _ E2).trans hR)) ?_
   have sk:=(s.pu k1).Ew (i:=R) (ae 0x92498034d21c70915424540914c149105 rfl M0.next R w cc t ER EM) (ae 0x92498035121c70915424540914c149105 rfl M0.next R w cc t ER EM) (ae 0x92498035521c70915424540914c149105 rfl M0.next R w cc t ER EM)
   have fk:=(f0.pu k1).Ew ER
   refine oi (d:=3) (by decide) (by decide) sk hv hk nd' HG (ae 0x9241f8045fc145207e481d1102 rfl (aL vs) T.length hc hl) (ae 0x92419401fc1452064607f481d1102 rfl (aL vs) K hc hK) λ xs T' M2 s2 f2 p2 l2 a2 o2=> ?_
   refine og dm hW (ae 0x906844191101 rfl h hh) (by decide) (by decide) (ae 0x192100 rfl) λ M3 k3=> ?_
   refine gm λ M4 k4=> ?_
   exact q xs T' M4 (((s2.pu k3).pu k4).mono (ae 0x9041d12051481d1102 rfl (aL vs) K hc)) (((fk.trans f2).pu k3).pu k4) p2 l2 a2 o2
 refine⟨λ e=> ?_,λ e=> ?_⟩
 ·rw[if_pos e] at Ip;subst Ip;exact go (c6:=none)
 ·rw[if_neg (by refine aa e ?_;decide)] at Ip;subst Ip;exact go (c6:=none)
end
section
variable{n:Nat}{w cc t K W h b c:Nat}{T:List V}{ks:List String}{vs xs:List V}{px:List (List (List Nat))}{v u:V}{M M':AH}{Q:V->AH->Prop}{X:AH->Prop}
theorem PV.list(h1:ps.length<=20)(h2:∀p∈ps,Ob 2 p/\NR p):PV 3 (.list ps):=.inl ⟨_,rfl,h1,h2⟩
theorem nL(i:Int)(p:Nat):Ob 2 (ej i p)/\NR (ej i p):=⟨wA _ _,(show(0:Nat)≠4 by decide)⟩
theorem iX{a b:V}(h1:Ob 2 a/\NR a)(h2:Ob 2 b/\NR b):PV 3 (.list [a,b]):=PV.list (show 2<=20 by decide) λ p hp=>by simp at hp;rcases hp with rfl|rfl<;>assumption
theorem ed(i:Int):Ob 2 (.int i)/\NR (.int i):=⟨jh _,trivial⟩
theorem oa(s:aV w cc t K T M)(hl:T.length<=20)(hK:K<=2^60)
  (q:∀fs W h (f:Nat->Nat->Bool) T' M',aV w cc t (K+3000) T' M'->bh w cc t M M'->T<+:T'->T'.length<=T.length+20->Ob 5 (.inst 3 fs)->1<=W->W<=8->1<=h->h<=8->
   (bad=false->∀T2,T'<+:T2->iI t T2 58 [sh t,.inst 3 fs,.fn 67] (aK h W λ i j=>.bool (f i j)))->
   (bad=true->∀T2,T'<+:T2->kW t T2 58 [sh t,.inst 3 fs,.fn 67])->Q (.tup [.inst 3 fs,aK h W λ i j=>.tup [.int (if f i j then 1 else 0),.int 0]]) M'):
  ag ak (n+6) 71 [.ref w,sh t,.bool bad] M Q X:=by
 have EM:=s.lt
 refine Ey bx rfl rfl rfl ?_
 refine aX (m:=4) s (by decide) (by decide) (ae 0x9066407f4418f01fd101 rfl K hK) λ r2 M2 H3 s2 f2=> ?_
 refine aX (m:=3) s2 (by decide) (by decide) (ae 0x9066407f0614418f01fd101 rfl K hK) λ r3 M3 Jg s3 f3=> ?_
 and_intros
 refine aa (gJ _) ?_;refine aa (gJ _) ?_
 have hW:1<=1+r2/\1+r2<=4:=ae 0x91c190146104146184291101 rfl r2 H3
 have hh:1<=1+r3/\1+r3<=3:=ae 0x91c18c14610414618428d101 rfl r3 Jg
 generalize 1+r2=W at*
 generalize 1+r3=h at*
 refine ki (b:=1) (c:=1) s3 (ae 0x906844706444146101 rfl W hW) (ae 0x906844706344146101 rfl h hh) (by decide) (by decide) (by decide) (ae 0x9065007f0610614418f01fd101 rfl K hK) λ px M4 dm s4 f4=> ?_
 have Kh:=(f2.trans f3).trans f4
 clear f2 f3 f4 s2 s3
 have bm:∀{ks:List String} {vs:List V} {v1 v2:V} {low p:Nat} {t2:Int} {wy:Nat} {M5:AH} {R:Nat} {c6 c7 He Hd Hl Ga:Option V},aV w cc t (K+1010) T M5->bh w cc t M M5->M.next<=R->R<M5.next->M5.m R=some (.Eu ks vs)->fu 3 ks vs 6 9->
   so ks vs W h v1 v2->zM v1 v2 low p t2->p=(if((2:Int)==(wy:Int)||((4:Int)==(wy:Int)||false))=true then 1 else 0)->
   bq ak (ag ak (n+5)) (bC 6 bx.body) [some (.ref w),some (sh t),some (.bool bad),some (bk px),some (.ref R),some (.int wy),c6,c7,some (.int W),some (.int h),He,Hd,Hl,Ga] M5 (λ zz M'=>Q .none M') Q X:=by
  intro ks vs v1 v2 low p t2 wy M5 R c6 c7 He Hd Hl Ga s5 f5 ER E2 hR pn sk e Ip
  have hd:∀{F8:List String} {FG:List V} {M6:AH} {He Hd:Option V},aV w cc t (K+1020) T M6->bh w cc t M M6->R<M6.next->M6.m R=some (.Eu F8 FG)->fu 3 F8 FG 7 13->
    (∀xs T',aW (HV T') FG xs->(bad=false->iI t T' 58 [sh t,EI (.dict F8 xs) px 1,.fn 67] (aK h W λ i j=>.bool (bS px i j==p)))/\
     (bad=true->kW t T' 58 [sh t,EI (.dict F8 xs) px 1,.fn 67]))->
    bq ak (ag ak (n+5)) (bC 7 bx.body) [some (.ref w),some (sh t),some (.bool bad),some (bk px),some (.ref R),some (.int wy),c6,c7,some (.int W),some (.int h),He,Hd,Hl,Ga] M6 (λ zz M'=>Q .none M') Q X:=by
   intro F8 FG M6 He Hd s6 f6 E2 hR Gh gb
   refine z8 s6 f6 ER EM hR E2 Ip Gh.pv Gh.len Gh.nd (PN Gh.most (by decide)) (PN Gh.cst (by decide)) (ae 0x907e441d1101 rfl T.length hl) (ae 0x4832303f83fe0223f4418f01fd101 rfl K hK) dm (ae 0x906444706444146101 rfl W hW) (ae 0x906444706344146101 rfl h hh) λ xs T' M7 s7 f7 p7 l7 a7 o7=> ?_
   refine q _ W h (λ i j=>bS px i j==p) T' M7 (s7.mono (ae 0x83770193fa20e80ff8088fd101 rfl K)) f7 p7 (PN l7 (by have:=Gh.cst;exact ae 0x9041d12051481b5102 rfl (aL FG) T.length this)) ?_ hW.1 (ae 0x906844706444146101 rfl W hW) hh.1 (ae 0x906844706344146101 rfl h hh) (λ ES T2 h2=>(gb xs T2 (jL h2 a7)).1 ES) λ ES T2 h2=>(gb xs T2 (jL h2 a7)).2 ES
   exact kF (lh o7 (by refine aa Gh.len ?_;refine aa a7.len ?_;rfl) (by have:=Gh.most;exact ae 0x90a0607f4419d101 rfl F8.length this) (by decide)) (by decide)
  refine⟨λ ES=> ?_,λ ES=> ?_⟩
  ·have fin:∀{M6:AH} (key:String) (x:V),aV w cc t (K+1015) T M6->bh w cc t M M6->R<M6.next->M6.m R=some (.Eu ks vs)->PV 3 x->cq x<=4->Dt h key x->
     aB (dL (.Eu ks vs) (.str key) x) λ o=>bq ak (ag ak (n+5)) (bC 7 bx.body) [some (.ref w),some (sh t),some (.bool bad),some (bk px),some (.ref R),some (.int wy),c6,c7,some (.int W),some (.int h),some (.str key),some x,Hl,Ga] (M6.set R o) (λ zz M'=>Q .none M') Q X:=by
    intro M6 key x s6 f6 GF HO hx hc hs
    refine ah (bV (PN pn.most (by decide))) ?_
    refine hd ((s6.mono (ae 0x107fc0447e883fb800afd101 rfl K)).Er (ae 0x92498034550554871c24940924c249105 rfl w M.next cc t R EM ER) (ae 0x92498034d50554871c24940924c249105 rfl w M.next cc t R EM ER) (ae 0x92498035150554871c24940924c249105 rfl w M.next cc t R EM ER) _) (f6.Er ER _) GF (aF _ _ _) ((pn.put hx key).mono (by decide) (ae 0x906d051a4191101 rfl (cq x) hc)) λ xs T' a=>⟨λ h=> ?_,λ zz=>Bb pn.len sk e dm hW.1 hh.1 (ae 0x906844706444146101 rfl W hW) (ae 0x906744706344146101 rfl h hh) hs a⟩
    rw[ES] at h;cases h
   refine aR (p:=1) λ M6 k6=> ?_
   refine aX (m:=6) (s5.pu k6) (by decide) (by decide) (ae 0x9066407f07f20127f4418f01fd101 rfl K hK) λ r M7 hr s7 f7=> ?_
   have IB:=k6.KU.trans f7
   have GH:M7.m R=some (.Eu ks vs):=(IB.same _ E2 (ae 0x92498034550554871c24940924c249105 rfl w M.next cc t R EM ER) (ae 0x92498034d50554871c24940924c249105 rfl w M.next cc t R EM ER) (ae 0x92498035150554871c24940924c249105 rfl w M.next cc t R EM ER)).trans hR
   have FW:R<M7.next:=PK E2 IB.next
   match r,hr with
   |0,_=>and_intros;refine ah GH ?_;exact fin "ImageMask" (.bool false) (s7.mono (ae 0x20fee002bf441841fc8049fd101 rfl K)) (f5.trans IB) FW GH (PV.bool (by decide) _) (by decide) (.inl ⟨rfl,rfl⟩)
   |1,_=>and_intros;refine ah GH ?_;exact fin "BitsPerComponent" (.int 2) (s7.mono (ae 0x20fee002bf441841fc8049fd101 rfl K)) (f5.trans IB) FW GH (PV.int (by decide) _) (by decide) (.inr (.inl ⟨rfl,rfl⟩))
   |2,_=>and_intros;refine ah GH ?_;exact fin "Decode" (.list [.int 0,ej 5 1]) (s7.mono (ae 0x20fee002bf441841fc8049fd101 rfl K)) (f5.trans IB) FW GH (iX (ed _) (nL _ _)) (show 3<=4 by decide) (.inr (.inr (.inl ⟨rfl,rfl⟩)))
   |3,_=>and_intros;refine ah GH ?_;exact fin "Decode" (.list [.int 1,.int 1]) (s7.mono (ae 0x20fee002bf441841fc8049fd101 rfl K)) (f5.trans IB) FW GH (iX (ed _) (ed _)) (show 3<=4 by decide) (.inr (.inr (.inr (.inl ⟨rfl,rfl⟩))))
   |4,_=>and_intros;refine ah GH ?_;exact fin "Height" (.int ((h+1:Nat):Int)) (s7.mono (ae 0x20fee002bf441841fc8049fd101 rfl K)) (f5.trans IB) FW GH (PV.int (by decide) _) (show 1<=4 by decide) (.inr (.inr (.inr (.inr (.inl ⟨rfl,rfl⟩)))))
   |5,_=>and_intros;refine ah GH ?_;exact fin "ImageMask" (.int 1) (s7.mono (ae 0x20fee002bf441841fc8049fd101 rfl K)) (f5.trans IB) FW GH (PV.int (by decide) _) (by decide) (.inr (.inr (.inr (.inr (.inr ⟨rfl,rfl⟩)))))
  ·refine hd (s5.mono (ae 0x83fe0223f441fc8049fd101 rfl K)) f5 E2 hR (pn.mono (by decide) (by decide)) λ xs T' a=>⟨λ zz=>z9 a sk e dm hW.1 hh.1 (ae 0x906844706444146101 rfl W hW) (ae 0x906844706344146101 rfl h hh),λ h=> ?_⟩
   rw[ES] at h;cases h
 have way:∀{ks:List String} {vs:List V} {M5:AH} {R:Nat} {c5 c6 c7 He Hd Hl Ga:Option V},aV w cc t (K+1005) T M5->bh w cc t M M5->M.next<=R->R<M5.next->M5.m R=some (.Eu ks vs)->fu 3 ks vs 5 6->
   ay ks vs "ImageMask" =some (.bool true)->ay ks vs "Width" =some (.int W)->ay ks vs "Height" =some (.int h)->(ay ks vs "BitsPerComponent" =none∨ay ks vs "BitsPerComponent" =some (.int 1))->ay ks vs "Decode" =none->
   bq ak (ag ak (n+5)) (bC 4 bx.body) [some (.ref w),some (sh t),some (.bool bad),some (bk px),some (.ref R),c5,c6,c7,some (.int W),some (.int h),He,Hd,Hl,Ga] M5 (λ zz M'=>Q .none M') Q X:=by
  intro ks vs M5 R c5 c6 c7 He Hd Hl Ga s5 f5 ER E2 hR pn g1 g2 g3 g4 g5
  refine aX (m:=5) s5 (by decide) (by decide) (ae 0x120cc80fe0fda002bf4418f01fd101 rfl K hK) λ r M6 hr s6 f6=> ?_
  have HO:M6.m R=some (.Eu ks vs):=(f6.same _ E2 (ae 0x92498034550554871c24940924c249105 rfl w M.next cc t R EM ER) (ae 0x92498034d50554871c24940924c249105 rfl w M.next cc t R EM ER) (ae 0x92498035150554871c24940924c249105 rfl w M.next cc t R EM ER)).trans hR
  have GF:R<M6.next:=PK E2 f6.next
  have g:=λ x s'=>i4 (s:= "Decode") (x:=x) (s':=s') pn.len
  have put:∀{M7:AH} {wy low p:Nat} {v1 v2:V} {t2:Int} {c6 c7 He Hd Hl Ga:Option V},Pu M6 M7->PV 3 (.list [v1,v2])->zM v1 v2 low p t2->p=(if((2:Int)==(wy:Int)||((4:Int)==(wy:Int)||false))=true then 1 else 0)->
    aB (M7.m R) λ o=>aB (dL o (.str "Decode") (.list [v1,v2])) λ o=>bq ak (ag ak (n+5)) (bC 6 bx.body) [some (.ref w),some (sh t),some (.bool bad),some (bk px),some (.ref R),some (.int wy),c6,c7,some (.int W),some (.int h),He,Hd,Hl,Ga] (M7.set R o) (λ zz M'=>Q .none M') Q X:=by
   intro M7 wy low p v1 v2 t2 c6 c7 He Hd Hl Ga k7 hx e Ip
   refine ah ((k7.same _ GF).trans HO) ?_
   refine ah (bV (PN pn.most (by decide))) ?_
   exact bm (((s6.pu k7).mono (ae 0x20fe4024fe883083f6800afd101 rfl K)).Er (ae 0x92498034550554871c24940924c249105 rfl w M.next cc t R EM ER) (ae 0x92498034d50554871c24940924c249105 rfl w M.next cc t R EM ER) (ae 0x92498035150554871c24940924c249105 rfl w M.next cc t R EM ER) _) (((f5.trans f6).pu k7).Er ER _) ER (PK GF k7.next) (aF _ _ _) ((pn.put hx "Decode").mono (by decide) (show 6+3<=9 by decide))
    ⟨(g _ "ImageMask").trans g1,(g _ "Width").trans g2,(g _ "Height").trans g3,g4.imp (λ x=>(g _ "BitsPerComponent").trans x) λ x=>(g _ "BitsPerComponent").trans x,.inr (g _ "Decode")⟩ e Ip
  match r,hr with
  |0,_=>
   repeat infer_instance
   exact bm (p:=0) (wy:=0) (s6.mono (ae 0x20fe4024fe883083f6800afd101 rfl K)) (f5.trans f6) ER GF HO (pn.mono (by decide) (by decide)) ⟨g1,g2,g3,g4,.inl ⟨g5,rfl,rfl⟩⟩ ⟨.int 0,.int 1,rfl,rfl⟩ rfl
  |1,_=>
   repeat infer_instance
   refine aR (p:=0) λ M7 k7=> ?_
   refine aR (p:=1) λ M8 k8=> ?_
   refine aR (p:=0) λ M9 k9=> ?_
   exact put (p:=0) (low:=0) (wy:=1) ((k7.trans k8).trans k9) (iX (ed 0) (ed 1)) ⟨.int 0,.int 1,rfl,rfl⟩ rfl
  |2,_=>
   repeat infer_instance
   refine aR (p:=0) λ M7 k7=> ?_
   refine aR (p:=1) λ M8 k8=> ?_
   refine aR (p:=0) λ M9 k9=> ?_
   exact put (p:=1) (low:=1) (wy:=2) ((k7.trans k8).trans k9) (iX (ed 1) (ed 0)) ⟨.int 1,.int 0,rfl,rfl⟩ rfl
  |3,_=>
   repeat infer_instance
   refine aR (p:=0) λ M7 k7=> ?_
   refine aR (p:=1) λ M8 k8=> ?_
   refine aR (p:=0) λ M9 k9=> ?_
   exact put (p:=0) (low:=0) (wy:=3) ((k7.trans k8).trans k9) (iX (nL 0 0) (nL 10 1)) ⟨.dec 0 0,.dec 1 0,rfl,rfl⟩ rfl
  |4,_=>
   repeat infer_instance
   refine aR (p:=0) λ M7 k7=> ?_
   refine aR (p:=1) λ M8 k8=> ?_
   refine aR (p:=0) λ M9 k9=> ?_
   exact put (p:=1) (low:=1) (wy:=4) ((k7.trans k8).trans k9) (iX (nL 1 0) (ed 0)) ⟨.dec 1 0,.int 0,rfl,rfl⟩ rfl
 refine fo rfl (by decide) (by decide) ?_
 have NS:=s4.pu (Pu.new M4 (.Eu ["ImageMask","Width","Height"] [.bool true,.int W,.int h]))
 have NE:=Kh.pu (Pu.new M4 (.Eu ["ImageMask","Width","Height"] [.bool true,.int W,.int h]))
 have Hb:=Kh.next
 have pn:fu 3 ["ImageMask","Width","Height"] [.bool true,.int W,.int h] 3 3:=
  ⟨rfl,by decide,λ v hv=>by simp at hv;rcases hv with rfl|rfl|rfl<;>first|exact PV.int (by decide) _|exact PV.bool (by decide) _,by decide,PE 3⟩
 refine aX (m:=2) NS (by decide) (by decide) (ae 0x2419901fc1fa031ff0610614418f01fd101 rfl K hK) λ r M5 hr s5 f5=> ?_
 have Ny:=(f5.same _ (b6 _ _) (ae 0x92498034550554871c24940924c249105 rfl w M.next cc t M4.next EM Hb) (ae 0x92498034d50554871c24940924c249105 rfl w M.next cc t M4.next EM Hb) (ae 0x92498035150554871c24940924c249105 rfl w M.next cc t M4.next EM Hb)).trans (bL M4 _)
 have J6:M4.next<M5.next:=PK (b6 _ _) f5.next
 refine⟨λ zz=> ?_,λ zz=> ?_⟩
 ·refine ah Ny ?_
  refine ah (bV (by decide)) ?_
  exact way ((s5.mono (ae 0x83f6800afd106107e80c7fc184185101 rfl K)).Er (ae 0x92498034550554871c24940924c249105 rfl w M.next cc t M4.next EM Hb) (ae 0x92498034d50554871c24940924c249105 rfl w M.next cc t M4.next EM Hb) (ae 0x92498035150554871c24940924c249105 rfl w M.next cc t M4.next EM Hb) _) ((NE.trans f5).Er Hb _) Hb J6 (aF _ _ _) ((pn.put (PV.int (by decide) 1) "BitsPerComponent").mono (by decide) (show 3+1<=6 by decide)) rfl rfl rfl (.inr rfl) rfl
 ·exact way (s5.mono (ae 0x83f6800afd106107e80c7fc184185101 rfl K)) (NE.trans f5) Hb J6 Ny (pn.mono (by decide) (by decide)) rfl rfl rfl (.inl rfl) rfl
end
noncomputable def b5:List (Nat×Nat)->List Nat
 |[]=>[]
 |e::r=>e.1::e.2::b5 r
noncomputable def nw(p:List Nat)(es:List (Nat×Nat))(k:Nat):Bool:=decide ((es.getD k (0,0)).1<=p.getD k 0)&&decide (p.getD k 0<=(es.getD k (0,0)).2)
noncomputable def kP(e:Nat×Nat):V:=.tup [.int (e.1:Int),.int (e.2:Int)]
theorem mc:∀es:List (Nat×Nat),(b5 es).length=2*es.length:=by
 intro es
 induction es with
 |nil=>
  exact rfl
 |cons e r ih=>
  show(b5 r).length+1+1=2*(r.length+1);refine aa ih ?_;exact ae 0x33e206144184184f89101 rfl r.length
theorem yg:∀a b:List (Nat×Nat),b5 (a++b)=b5 a++b5 b:=by
 intro a
 induction a with
 |nil=>
  intro y1
  exact rfl
 |cons e r ih=>
  intro b
  show _::_::b5 (r++b)=_;refine aa (ih b) ?_;rfl
theorem tG:∀{es:List (Nat×Nat)},(∀e∈es,e.1<=b/\e.2<=b)->∀k∈b5 es,k<=b:=by
 intro es
 induction es with
 |nil=>
  intro y1 k h
  cases h
 |cons e r ih=>
  intro he k h
  have h':k∈e.1::e.2::b5 r:=h
  have e0:=he e (by simp)
  rcases PU.mp h' with q|q
  ·exact ae 0x92414940d15070524c149104 rfl e.fst b e.snd k e0 q
  ·rcases PU.mp q with q|q
   ·exact ae 0x92414940d35070524c149104 rfl e.fst b e.snd k e0 q
   ·exact ih (λ x hx=>he x (by simp[hx])) k q
theorem AO:∀(p:List Nat) (es:List (Nat×Nat)),p.length=es.length->fD p (b5 es)=(PS p.length).all (nw p es):=by
 intro p
 induction p with
 |nil=>
  intro y1
  cases y1 with
  |nil=>
   intro y2
   exact rfl
  |cons y3 y4=>
   intro h
   simp at h
 |cons s p ihq=>
  intro y5
  cases y5 with
  |nil=>
   intro h
   simp at h
  |cons e es=>
   intro h
   have ih:=ihq es (by simpa using h)
   show((decide (e.1<=s)&&decide (s<=e.2))&&fD p (b5 es))=_
   refine aa PQ ?_;refine aa TC ?_;refine aa Uy ?_;refine aa YO ?_;refine aa ih ?_
   rfl
noncomputable def ia(p:List Nat)(es:List (Nat×Nat))(j:Nat):List V:=((PS j).filter λ k=> !nw p es k).map cp
theorem AQ(p:List Nat)(es:List (Nat×Nat))(j:Nat):(ia p es j).length<=j:=by
 unfold ia
 refine aa (PG _) ?_
 exact PN (List.length_filter_le _ _) (by refine aa Sj ?_;exact PE _)
theorem rt(p:List Nat)(es:List (Nat×Nat))(j:Nat):ia p es (j+1)=ia p es j++(if nw p es j then[] else[cp j]):=by
 unfold ia
 refine aa TJ ?_;refine aa (List.filter_append _ _) ?_;refine aa Qf ?_
 cases h:nw p es j<;>simp[h]
theorem AP(h:p.length=es.length):(ia p es p.length).isEmpty=fD p (b5 es):=by
 refine aa (AO p es h) ?_
 unfold ia
 rewrite[SO];rewrite[QT];rewrite[List.map_eq_nil_iff];rewrite[Wq];rewrite[QF]
 exact⟨λ q x hx=>by have:=q x hx;simpa using this,λ q x hx=>by simp[q x hx]⟩
theorem BZ(l:List V):kO (.list l) (.list [])=some l.isEmpty:=by
 cases l<;>rfl
theorem rA{f:Nat->V}{p:List Nat}{k:Nat}(h:k<p.length):(p.map f)[k]? =some (f (p.getD k 0)):=by
 refine aa Rj ?_;refine aa (PI h) ?_;refine aa P9 ?_;refine aa (PI h) ?_;rfl
theorem wS{es:List (Nat×Nat)}{k:Nat}(h:k<es.length):(es.map kP)[k]? =some (kP (es.getD k (0,0))):=by
 refine aa Rj ?_;refine aa (PI h) ?_;refine aa P9 ?_;refine aa (PI h) ?_;rfl
theorem add_list(h:a.length+b.length<=ar):gv .add (.list a) (.list b)=some (.list (a++b)):=by
 show(if a.length+b.length<=ar then some (V.list (a++b)) else none)=_
 exact if_pos h
section
variable{n:Nat}{w cc t K W h b c:Nat}{T:List V}{px:List (List (List Nat))}{M M':AH}{Q:V->AH->Prop}{X:AH->Prop}{es:List (Nat×Nat)}{p:List Nat}
theorem Ao{a0 a1 a2 a3 a4 a5 a7 a8 a9 a10 a11 a12 a13 a15 a16 a17 a18:Option V}{Qs:List V->AH->Prop}(hp:p.length=c)(he:es.length=c)(hc:c<=4)(q:Qs (ia p es c) M):
  bP (λ x M2 k=>aB (dF (.one 15) x [a0,a1,a2,a3,a4,a5,some (.list (es.map kP)),a7,a8,a9,a10,a11,a12,a13,some (cH p),a15,a16,a17,a18]) λ ρ'=>iQ ak (ag ak n) (.cons (.not (.FC (.sub (.sub (.var 6) (.var 15)) (.lit (.int 0))) .le (.sub (.var 14) (.var 15)) .le (.sub (.sub (.var 6) (.var 15)) (.lit (.int 1))))) .nil) ρ' M2 λ b M3=>(b=true->lQ ak (ag ak n) (.last (.var 15)) ρ' M3 k)/\(b=false->k [] M3)) (aZ 0 1 c) [] M Qs:=by
 refine cT (λ rest acc M'=>∃j,rest=aZ (j:Nat) 1 (c-j)/\j<=c/\acc=ia p es j/\M'=M) _ ⟨0,rfl,ae 0x146001 rfl c,rfl,rfl⟩ (λ acc M' j=> ?_) λ x xs acc M' j K2 E9=> ?_
 ·rename type_of% j=>oqe;refine jI oqe λ j e1 e2 G6 FH=> ?_;clear oqe;subst G6;subst FH
  have:=bF e1
  obtain rfl:j=c:=ae 0x92434910e009148149102 rfl j c e2 this
  exact q
 ·rename type_of% j=>oqe;refine jI oqe λ j e1 e2 G6 FH=> ?_;clear oqe;subst G6;subst FH
  refine bz (ce e1) λ m e6 EN e7=> ?_;subst EN
  have fin:∀r:List V,r=(if nw p es j then[] else[cp j])->K2 r M':=by
   intro r hr
   refine E9 _ _ ?_ ⟨j+1,by refine aa e7 ?_;refine aa (show c-(j+1)=m by exact ae 0x90d30818524430614c249103 rfl c j m e6) ?_;rfl,by exact ae 0x90510614830614c249103 rfl c j m e6,by refine aa (rt _ _ _) ?_;refine aa hr ?_;rfl,rfl⟩
   have:=AQ p es (j+1)
   rw[rt] at this
   refine aa hr ?_;unfold ar;exact ae 0x49248386a0533f4c106149305148191103 rfl c j ((ia p es j++if nw p es j=true then[] else[cp j]).length) hc e2 this
  have g6:=wS (es:=es) (k:=j) (ae 0x92424530c185409348349104 rfl es.length c j m he e6)
  have Pg:=rA (f:=λ s:Nat=>V.int s) (p:=p) (k:=j) (ae 0x92424530c185409348349104 rfl p.length c j m hp e6)
  and_intros
  refine ah g6 ?_
  refine ah Pg ?_
  refine⟨λ h1=> ?_,λ h1=> ?_⟩
  ·refine ah g6 ?_
   have h1:=of_decide_eq_true h1
   have d1:decide ((es.getD j (0,0)).1<=p.getD j 0)=true:=decide_eq_true (ae 0x905244439239102 rfl ((es.getD j (0,0)).fst) (p.getD j 0) h1)
   refine⟨λ h2=> ?_,λ h2=> ?_⟩
   ·repeat infer_instance
    refine fin _ ?_
    rw[Ti] at h2
    have h2:=of_decide_eq_false h2
    have d2:decide (p.getD j 0<=(es.getD j (0,0)).2)=false:=decide_eq_false (ae 0x926005244980439239102 rfl (p.getD j 0) ((es.getD j (0,0)).snd) h2)
    refine aa (if_neg (by unfold nw;refine aa d2 ?_;simp)) ?_;rfl
   ·repeat infer_instance
    refine fin _ ?_
    rw[UF] at h2
    have h2:=of_decide_eq_true h2
    have d2:decide (p.getD j 0<=(es.getD j (0,0)).2)=true:=decide_eq_true (ae 0x905244439239102 rfl (p.getD j 0) ((es.getD j (0,0)).snd) h2)
    refine aa (if_pos (by unfold nw;refine aa d1 ?_;refine aa d2 ?_;rfl)) ?_;rfl
  ·repeat infer_instance
   have h1:=of_decide_eq_false h1
   have d1:decide ((es.getD j (0,0)).1<=p.getD j 0)=false:=decide_eq_false (by(rename_i z0;exact ae 0x926005244980439239102 rfl ((es.getD j (0,0)).fst) (p.getD j 0) (of_decide_eq_false z0:)))
   refine fin _ ?_
   refine aa (if_neg (by unfold nw;refine aa d1 ?_;simp)) ?_;rfl
theorem Am
  (s:aV w cc t K T M)(f0:bh w cc t M0 M)(ER:M0.next<=R8)(EM:w<M0.next/\cc<M0.next/\t<M0.next)(hR:M.m R8=some (.list ((PS h).map λ i=>.list ((PS W).map λ j=>g i j))))(E2:R8<M.next)
  (he:es.length=c)(hle:∀e∈es,e.1<=2^b-1/\e.2<=2^b-1)(EZ:1<=b)(hb:b<=16)(hc1:1<=c)(hc:c<=4)(hK:K<=2^70)
  (q:∀vs M',aV w cc t (K+20) T M'->bh w cc t M0 M'->(∀v∈vs,gw v)->vs.length<=9->
   (bad=false->vs=(b5 es).map cp)->(bad=true->vs.length≠2*c∨∃v∈vs,¬dJ b v)->Q (.tup [.list vs,aK h W g]) M'):
  bq ak (ag ak (n+5)) (bC 7 cr.body) [some (.ref w),a1,some (.int b),some (.int c),some (.bool bad),a5,a6,a7,some (.ref R8),a9,some (.list ((b5 es).map cp)),a11,a12,a13,a14,a15,a16,a17,a18] M N Q X:=by
 have FS:=mc es
 have hnle:=tG hle
 have hp:2^1<=2^b:=ch EZ
 have hint:∀v∈(b5 es).map cp,gw v:=λ v hv=>by
  refine ai (QG.mp hv) λ k zz EN=> ?_;subst EN
  exact .inl ⟨k,rfl⟩
 have fin:∀{vs:List V} {M1:AH} {a13:Option V},aV w cc t (K+20) T M1->bh w cc t M M1->(∀v∈vs,gw v)->vs.length<=9->
   (bad=false->vs=(b5 es).map cp)->(bad=true->vs.length≠2*c∨∃v∈vs,¬dJ b v)->
   bq ak (ag ak (n+5)) (bC 8 cr.body) [some (.ref w),a1,some (.int b),some (.int c),some (.bool bad),a5,a6,a7,some (.ref R8),a9,some (.list vs),a11,a12,a13,a14,a15,a16,a17,a18] M1 N Q X:=by
  intro vs M1 a13 s1 f1 k1 k2 k3 k4
  and_intros
  refine aa (dx ((f1.same _ E2 (ae 0x92498034d21c70915424540914c149105 rfl M0.next R8 w cc t ER EM) (ae 0x92498035121c70915424540914c149105 rfl M0.next R8 w cc t ER EM) (ae 0x92498035521c70915424540914c149105 rfl M0.next R8 w cc t ER EM)).trans hR)) ?_
  exact q vs _ (s1.Ew (ae 0x92498034d21c70915424540914c149105 rfl M0.next R8 w cc t ER EM) (ae 0x92498035121c70915424540914c149105 rfl M0.next R8 w cc t ER EM) (ae 0x92498035521c70915424540914c149105 rfl M0.next R8 w cc t ER EM)) ((f0.trans f1).Ew ER) k1 k2 k3 k4
 refine⟨λ ES=> ?_,λ ES=> ?_⟩
 ·have hl:((b5 es).map cp).length=2*c:=by refine aa (PG _) ?_;refine aa FS ?_;refine aa he ?_;rfl
  generalize (b5 es).map cp=l at*
  refine aX s (m:=l.length) (ae 0x92424a00cf89148146102 rfl c l.length hc1 hl) (ae 0x92419901fd20cf89148191102 rfl c l.length hc hl) (ae 0x9066407f4419181fd101 rfl K hK) λ at_ M1 FU s1 f1=> ?_
  have one:∀y:V,gv .add (.list (l.take at_)) (.list [y])=some (.list (l.take at_++[y])):=λ y=>add_list (by refine aa Rb ?_;show _+1<=ar;unfold ar;exact ae 0x4920e1a814cfc18444930cf89148191103 rfl c l.length at_ hc hl)
  have two:∀y:V,gv .add (.list (l.take at_++[y])) (.list (l.drop (at_+1)))=some (.list (l.take at_++[y]++l.drop (at_+1))):=λ y=>add_list (by refine aa PJ ?_;refine aa Rb ?_;refine aa Qy ?_;show _+1+_<=ar;unfold ar;exact ae 0x4920e1a814cfc10818534818444930cf89148191103 rfl c l.length at_ hc hl)
  have hS:at_+1<ar:=by unfold ar;exact ae 0x49248586a0533f0614c24930cf89148191103 rfl c l.length at_ hc hl FU
  have LZ:at_<ar:=ae 0x242c350299fa2161a814cfc185101 rfl at_ hS
  and_intros
  refine ah (add_list (by show _+1<=ar;unfold ar;exact ae 0x4920e1a814cfc18520cf89148191102 rfl c l.length hc hl)) ?_
  refine⟨LZ,?_⟩
  and_intros
  refine ao ⟨ae 0x48a000 rfl,ae 0x4c2200 rfl,ae 0x10e46001 rfl b,ae 0x2448181fce441c1101 rfl b hb⟩ ?_
  and_intros
  refine ah (one _) ?_
  refine⟨hS,?_⟩
  and_intros
  refine ah (two _) ?_
  refine⟨LZ,?_⟩
  and_intros
  refine ah (one _) ?_
  refine⟨hS,?_⟩
  and_intros
  refine ah (two _) ?_
  refine⟨LZ,?_⟩
  and_intros
  refine ah (one _) ?_
  refine⟨hS,?_⟩
  refine ah (two _) ?_
  refine⟨(show 1<ar by decide),?_⟩
  refine aX s1 (m:=5) (ae 0x296000 rfl) (ae 0x19901fe500 rfl) (ae 0x9066407f0614419181fd101 rfl K hK) λ r M2 hr s2 f2=> ?_
  have f:=f1.trans f2
  have s3:=s2.mono (K':=K+20) (ae 0x107444184185101 rfl K)
  have sub:∀v∈l.take at_,gw v:=λ v hv=>hint v (WN hv)
  have KZ:∀v∈l.drop (at_+1),gw v:=λ v hv=>hint v (WO hv)
  have K5:∀y:V,gw y->¬dJ b y->bq ak (ag ak (n+5)) (bC 8 cr.body) [some (.ref w),a1,some (.int b),some (.int c),some (.bool bad),a5,a6,a7,some (.ref R8),a9,some (.list (l.take at_++[y]++l.drop (at_+1))),a11,a12,some (.int at_),a14,a15,a16,a17,a18] M2 N Q X:=by
   intro y ky no
   refine fin s3 f (λ v hv=> ?_) (by simp only [PJ,Rb,Qy,PQ,Rx];exact ae 0x9241a410818534818444930cf89148191103 rfl c l.length at_ hc hl) (λ h=> ?_) λ zz=>.inr ⟨y,by simp,no⟩
   ·rcases Qt.mp hv with h|h
    ·rcases Qt.mp h with h|h
     ·exact sub v h
     ·refine aa (P2.mp h) ?_;exact ky
    ·exact KZ v h
   ·rw[ES] at h;cases h
  match r,hr with
  |0,_=>
   refine fin (vs:=l++[.int 0]) (a13:=some (.int at_)) s3 f (λ v hv=> ?_) (by refine aa PJ ?_;show _+1<=9;exact ae 0x9241a418520cf89148191102 rfl c l.length hc hl) (λ h=> ?_) λ zz=>.inl (by refine aa PJ ?_;show _+1≠_;exact ae 0x92600cf8920614433e249102 rfl l.length c hl)
   ·rcases Qt.mp hv with h|h
    ·exact hint v h
    ·refine aa (P2.mp h) ?_;exact .inl ⟨0,rfl⟩
   ·rw[ES] at h;cases h
  |1,_=>
   refine K5 (.int (2^b)) (.inl ⟨_,rfl⟩) ?_
   rintro⟨k,e,hk⟩
   injection e with e
   rw[oD] at e
   exact ae 0x924980639239104285148146202 rfl (2^b) k hp hk e
  |2,_=>
   refine K5 (.int (-1)) (.inl ⟨_,rfl⟩) ?_
   rintro⟨k,e,hk⟩
   injection e with e
   exact ae 0x980639136101 rfl k e
  |3,_=>
   refine K5 (.bool true) (.inr ⟨_,rfl⟩) ?_
   rintro⟨k,e,hk⟩
   cases e
  |4,_=>
   refine fin (vs:=l.drop 1) (a13:=some (.int at_)) s3 f (λ v hv=>hint v (WO hv)) (by refine aa Qy ?_;exact ae 0x9241a428520cf89148191102 rfl c l.length hc hl) (λ h=> ?_) λ zz=>.inl (by refine aa Qy ?_;exact ae 0x92498033e24428520cf89148146102 rfl c l.length hc1 hl)
   rw[ES] at h;cases h
 ·refine fin (a13:=a13) (s.mono (ae 0x107445101 rfl K)) (.refl _ _ _ _) hint (by refine aa (PG _) ?_;exact ae 0x92490694c33e245306448349103 rfl es.length c ((b5 es).length) he hc FS) (λ zz=>rfl) λ h=> ?_
  rw[ES] at h;cases h
theorem uG{h j:Nat}(e:x::xs=((PS h).drop j).map g):j<h/\x=g j/\xs=((PS h).drop (j+1)).map g:=by
 have hj:j<h:=by
  have:=congrArg Q4 e
  simp at this
  exact ae 0x90924c309348185103 rfl xs.length h j this
 rw[VW (by refine aa Sj ?_;exact hj),PR,List.getElem_range] at e
 injection e with e1 e2
 exact cg hj e1 e2
theorem oA{h j:Nat}(e:[]=((PS h).drop j).map g)(hj:j<=h):j=h:=by
 have:=congrArg Q4 e
 simp at this
 exact ae 0x92434910c245280149102 rfl j h hj this
noncomputable def rH(px:List (List (List Nat)))(es:List (Nat×Nat))(i j:Nat):V:=.tup [.int (if !fD (bN px i j) (b5 es) then 1 else 0),.int 0]
theorem sR(l:List V):(kO (.list l) (.list [])).map (!·)=some (!l.isEmpty):=by refine aa (BZ _) ?_;rfl
theorem xO(hl:es.length<=4)(q:Qs ((b5 es).map cp) M):
  bP (λ x M2 k=>aB (dF (.one 17) x [a0,a1,a2,a3,a4,a5,a6,a7,a8,a9,a10,a11,a12,a13,a14,a15,a16,a17,a18]) λ ρ'=>iQ ak (ag ak n) .nil ρ' M2 λ b M3=>(b=true->lQ ak (ag ak n) (.cls (.one 18) (.it (.var 17)) .nil (.last (.var 18))) ρ' M3 k)/\(b=false->k [] M3)) (es.map kP) [] M Qs:=by
 refine cT (λ rest acc M'=>∃e1 e2,es=e1++e2/\rest=e2.map kP/\acc=(b5 e1).map cp/\M'=M) _ ⟨[],es,rfl,rfl,rfl,rfl⟩ (λ acc M' j=> ?_) λ x xs acc M' j K2 E9=> ?_
 ·refine oR j λ e1 e2 e h1 FH F7=> ?_;clear j;subst FH;subst F7
  have:e2=[]:=by cases e2 with|nil=>rfl|cons _ _=>cases h1
  subst this
  rw[Qc] at e;subst e
  exact q
 ·refine oR j λ e1 e2 e h1 FH F7=> ?_;clear j;subst FH;subst F7
  cases e2 with
  |nil=>cases h1
  |cons y ys=>
   rw[PR] at h1
   injection h1 with h1 h2
   subst h1 h2
   repeat infer_instance
   have hlen:((b5 e1).map cp++[V.int (y.1:Int),V.int (y.2:Int)]).length<=ar:=by
    refine aa PJ ?_;refine aa (PG _) ?_;refine aa (mc _) ?_
    have:=congrArg Q4 e
    rw[PJ] at this
    show _+2<=ar
    unfold ar;exact ae 0x4920e1a814cfc188f8920c14d244191103 rfl es.length e1.length ((y::ys).length) hl this
   refine⟨by show 1<=ar;decide,?_⟩
   repeat infer_instance
   refine⟨by show 2<=ar;decide,?_⟩
   exact E9 _ _ hlen ⟨e1++[y],ys,by refine aa e ?_;refine aa (Th _ _ _) ?_;rfl,rfl,by refine aa (yg _ _) ?_;refine aa Qf ?_;rfl,rfl⟩
end
section
variable{n:Nat}{w cc t K W h b c:Nat}{T:List V}{px:List (List (List Nat))}{M M':AH}{Q:V->AH->Prop}{X:AH->Prop}{es:List (Nat×Nat)}{p:List Nat}
theorem Bj
  (s:aV w cc t K T M)(f0:bh w cc t M0 M)(ER:M0.next<=R6)(EM:w<M0.next/\cc<M0.next/\t<M0.next)(hR:M.m R6=some (.list (es.map kP)))(E2:R6<M.next)(dm:ca px W h b c)(hW:W<=4)(hh:h<=4)
  (he:es.length=c)(hle:∀e∈es,e.1<=2^b-1/\e.2<=2^b-1)(EZ:1<=b)(hb:b<=16)(hc1:1<=c)(hc:c<=4)(hK:K<=2^70)
  (q:∀vs M',aV w cc t (K+20) T M'->bh w cc t M0 M'->(∀v∈vs,gw v)->vs.length<=9->
   (bad=false->vs=(b5 es).map cp)->(bad=true->vs.length≠2*c∨∃v∈vs,¬dJ b v)->Q (.tup [.list vs,aK h W (rH px es)]) M'):
  bq ak (ag ak (n+5)) (bC 3 cr.body) [some (.ref w),some (bk px),some (.int b),some (.int c),some (.bool bad),a5,some (.ref R6),a7,a8,a9,a10,a11,a12,a13,a14,a15,a16,a17,a18] M N Q X:=by
 and_intros
 refine aa (dx (((Pu.new M (.list [])).same _ E2).trans hR)) ?_;refine aa (gC dm) ?_
 have EO:=b6 M (.list [])
 have s0:aV w cc t K T ((M.new (.list [])).kill R6):=(s.pu (.new _ _)).Ew (ae 0x92498034d21c70915424540914c149105 rfl M0.next R6 w cc t ER EM) (ae 0x92498035121c70915424540914c149105 rfl M0.next R6 w cc t ER EM) (ae 0x92498035521c70915424540914c149105 rfl M0.next R6 w cc t ER EM)
 have Pj:bh w cc t M0 ((M.new (.list [])).kill R6):=(f0.pu (.new _ _)).Ew ER
 have O2:((M.new (.list [])).kill R6).m M.next=some (.list []):=(cA _ (ae 0x92600d148249102 rfl R6 M.next E2)).trans (bL _ _)
 refine cD (λ rest ρ M'=>∃j o9 Lb,rest=((PS h).drop j).map (λ i=>.list ((PS W).map λ j=>cH (bN px i j)))/\j<=h/\ρ=[some (.ref w),some (bk px),some (.int b),some (.int c),some (.bool bad),a5,some (.list (es.map kP)),a7,some (.ref M.next),o9,a10,a11,Lb,a13,a14,a15,a16,a17,a18]/\
   M'.m M.next=some (.list ((PS j).map λ i=>.list ((PS W).map λ k=>rH px es i k)))/\M.next<M'.next/\aV w cc t K T M'/\bh w cc t M0 M') _
  ⟨0,_,_,rfl,ae 0x146001 rfl h,rfl,O2,EO,s0,Pj⟩ (λ ρ M' j=> ?_) λ x xs ρ M' j K2 E9=> ?_
 ·rename type_of% j=>oqe;refine B4 oqe λ j o9 Lb e1 e2 F7 hM E7 s1 f1=> ?_;clear oqe;subst F7
  obtain rfl:=oA e1 e2
  have nx:=f0.next
  refine xO (ae 0x924191106448349102 rfl es.length c he hc) ?_
  exact Am (g:=rH px es) s1 f1 (ae 0x905244149102 rfl M0.next M.next nx) EM hM E7 he hle EZ hb hc1 hc hK q
 ·rename type_of% j=>oqe;refine B4 oqe λ j o9 Lb e1 e2 F7 hM E7 s1 f1=> ?_;clear oqe;subst F7
  refine ei (uG e1) λ hj HS EN=> ?_;subst HS;subst EN
  have nx:=f0.next
  refine cb (n:=W) (g':=λ k=>.list (ia (bN px j k) es c)) (by unfold ar;exact ae 0x48386a0533f44191101 rfl W hW) (λ k hk M2 k2 K3 HF=> ?_) λ M2 k2=> ?_
  ·repeat infer_instance
   refine ao (bU (ae 0x90a1d07f38e44191101 rfl c hc)) ?_
   and_intros
   refine aa (PH _) ?_
   refine⟨by refine aa (ba _ _ _) ?_;unfold ar;exact ae 0x48386a0533f44191101 rfl c hc,?_⟩
   refine Ao (dm.at_ hj hk).1 he hc ?_
   exact HF _ k2
  ·have HE:=(k2.same _ E7).trans hM
   refine⟨dR HE,?_⟩
   refine cb (n:=W) (g':=λ k=>rH px es j k) (by unfold ar;exact ae 0x48386a0533f44191101 rfl W hW) (λ k hk M3 k3 K3 HF=> ?_) λ M3 k3=> ?_
   ·have hp:=(dm.at_ hj hk).1
    have hn:=AP (p:=bN px j k) (es:=es) (ae 0x92434530d24c349103 rfl es.length c ((bN px j k).length) he hp)
    rw[hp] at hn
    repeat infer_instance
    refine ah (sR _) ?_
    refine aa hn ?_
    have fin:=HF M3 (k2.trans k3|>.trans (.refl _)|>λ zz=>k3)
    unfold rH at fin
    cases hr:fD (bN px j k) (b5 es) with
    |true=>
     rw[hr] at fin
     repeat infer_instance
     exact fin
    |false=>
     rw[hr] at fin
     repeat infer_instance
     exact fin
   ·have Ic:=(k3.same _ (PK E7 k2.next)).trans HE
    and_intros
    simp only [Ic]
    refine⟨by refine aa (PG _) ?_;refine aa Sj ?_;unfold ar;exact ae 0x492161a814cfd209148191102 rfl h j hh hj,E9 _ _ ⟨j+1,_,_,rfl,ae 0x905206144249102 rfl j h hj,rfl,?_,PK E7 (k2.trans k3).next,((s1.pu k2).pu k3).Er (ae 0x92492600d35825921c70915424540914c149106 rfl M0.next R6 w cc t M.next ER EM E2) (ae 0x92492600d45825921c70915424540914c149106 rfl M0.next R6 w cc t M.next ER EM E2) (ae 0x92492600d55825921c70915424540914c149106 rfl M0.next R6 w cc t M.next ER EM E2) _,((f1.pu k2).pu k3).Er (ae 0x92414d109348149103 rfl M0.next R6 M.next ER E2) _⟩⟩
    refine aa (aF _ _ _) ?_;refine aa TJ ?_;refine aa Qf ?_
    rfl
end
section
variable{n:Nat}{w cc t K W h b c:Nat}{T:List V}{px:List (List (List Nat))}{M M':AH}{Q:V->AH->Prop}{X:AH->Prop}{es:List (Nat×Nat)}{p:List Nat}
theorem qi(dm:ca px W h b c)(hr:r<h):eh M (bk px) (.int (r:Int))=some (.list ((PS W).map λ j=>cH (bN px r j))):=by
 refine aa (fX dm) ?_;exact gI (g:=λ i=>.list ((PS W).map λ j=>cH (bN px i j))) hr
theorem AE(a r:Nat):(if((a:Int)-(r:Int))<0 then(0:Int) else(a:Int)-(r:Int))=((a-r:Nat):Int):=by
 split<;>(first|(rename_i z0;exact ae 0x24638249180580239239102 rfl a r z0)|(rename_i z0;exact ae 0x24638249108e48e44980580239239102 rfl a r z0))
theorem AD(a r m:Nat):(if(m:Int)<(a:Int)+(r:Int) then(m:Int) else(a:Int)+(r:Int))=((min (a+r) m:Nat):Int):=by
 split<;>(first|(rename_i z0;exact ae 0x2463844414d239114139339239103 rfl m a r z0)|(rename_i z0;exact ae 0x918e11105348139339226014139339239103 rfl m a r z0))
theorem pL(s:aV w cc t K T M)(dm:ca px W h b c)(Fm:1<=W)(hW:W<=4)(Fl:1<=h)(hh:h<=4)(EZ:1<=b)(hb:b<=16)(hc1:1<=c)(hc:c<=4)(hK:K<=2^60)
  (q:∀vs ns M',aV w cc t (K+100) T M'->bh w cc t M M'->(∀v∈vs,gw v)->vs.length<=9->(bad=false->vs=ns.map cp/\ns.length=2*c/\∀k∈ns,k<=2^b-1)->
   (bad=true->vs.length≠2*c∨∃v∈vs,¬dJ b v)->Q (.tup [.list vs,aK h W λ i j=>.tup [.int (if !fD (bN px i j) ns then 1 else 0),.int 0]]) M'):
  ag ak (n+6) 72 [.ref w,bk px,.int b,.int c,.bool bad] M Q X:=by
 have EM:=s.lt
 have hlen:(px.map dz).length=h:=by refine aa (PG _) ?_;refine aa dm.len ?_;rfl
 refine Ey cr rfl rfl rfl ?_;and_intros
 refine aa hlen ?_
 refine aX (m:=h) s (ae 0x909180146101 rfl h Fl) (ae 0x9066407f44191101 rfl h hh) (ae 0x9066407f4418f01fd101 rfl K hK) λ r1 M1 Nc s1 f1=> ?_
 refine ah (qi dm Nc) ?_
 refine ah (qi (r:=0) dm (ae 0x909180146101 rfl h Fl)) ?_
 and_intros
 refine aa (PG _) ?_;refine aa Sj ?_
 refine aX (m:=W) s1 (ae 0x909180146101 rfl W Fm) (ae 0x9066407f44191101 rfl W hW) (ae 0x9066407f0614418f01fd101 rfl K hK) λ r2 M2 H3 s2 f2=> ?_
 refine ah (gI (g:=λ j=>cH (bN px r1 j)) H3) ?_
 have JM:=dm.at_ Nc H3
 generalize bN px r1 r2=pp at*
 refine ao (bU (ae 0x90a1d07f38e44191101 rfl c hc)) ?_
 and_intros
 refine aa (PH _) ?_
 refine⟨by refine aa (ba _ _ _) ?_;unfold ar;exact ae 0x48386a0533f44191101 rfl c hc,?_⟩
 have NG:=f1.trans f2
 have nx:=NG.next
 have EO:=b6 M2 (.list [])
 have Ls:2^b<=2^16:=ch hb
 have Hu:2^1<=2^b:=ch EZ
 refine cD (λ rest ρ M'=>∃es o7 Lc,rest=aZ ((es.length:Nat):Int) 1 (c-es.length)/\es.length<=c/\ρ=[some (.ref w),some (bk px),some (.int b),some (.int c),some (.bool bad),some (cH pp),some (.ref M2.next),o7,none,none,none,Lc,none,none,none,none,none,none,none]/\
   M'.m M2.next=some (.list (es.map kP))/\M2.next<M'.next/\(∀e∈es,e.1<=2^b-1/\e.2<=2^b-1)/\aV w cc t (K+2+5*es.length) T M'/\bh w cc t M M') _
  ⟨[],_,_,rfl,Ry _,rfl,bL _ _,EO,(by simp),(s2.pu (.new _ _)).mono (PE _),NG.pu (.new _ _)⟩ (λ ρ M' j=> ?_) λ x xs ρ M' j K2 E9=> ?_
 ·refine B3 j λ es o7 Lc e1 e2 F7 hM E7 hle s3 f3=> ?_;clear j;subst F7
  have:=bF e1
  have he:es.length=c:=ae 0x92434910e009148149102 rfl es.length c e2 this
  refine Bj s3 f3 nx EM hM E7 dm hW hh he hle EZ hb hc1 hc (ae 0x9249064607f04f953062483453063c07f48191103 rfl c K es.length hc hK he) λ vs M4 s4 f4 k1 k2 k3 k4=> ?_
  refine q vs (b5 es) M4 (s4.mono (ae 0x92410720217f4c1d013e54818930d148191103 rfl c es.length K hc he)) f4 k1 k2 (λ h=>⟨k3 h,by refine aa (mc _) ?_;refine aa he ?_;rfl,tG hle⟩) k4
 ·refine B3 j λ es o7 Lc e1 e2 F7 hM E7 hle s3 f3=> ?_;clear j;subst F7
  refine bz (ce e1) λ m e6 EN e7=> ?_;subst EN
  have body:∀{low:Nat} {M3:AH},low<=2^b-1->aV w cc t (K+2+5*es.length+3) T M3->bh w cc t M' M3->
    bq ak (ag ak (n+5)) (.cons (.app (.var 6) (.tup (.cons (.var 11) (.cons (.min2 (.bin .add (.var 11) (.call 62 (.cons (.var 0) (.cons (.lit (.int 3)) .nil)))) (.bin .sub (.bin .pow (.lit (.int 2)) (.var 2)) (.lit (.int 1)))) .nil)))) .nil)
     [some (.ref w),some (bk px),some (.int b),some (.int c),some (.bool bad),some (cH pp),some (.ref M2.next),some (.int ((es.length:Nat):Int)),none,none,none,some (.int low),none,none,none,none,none,none,none] M3 K2 Q X:=by
   intro low M3 Lw s4 f4
   have Ic:=(f4.same _ E7 (ae 0x92498034550554871c24940924c249105 rfl w M.next cc t M2.next EM nx) (ae 0x92498034d50554871c24940924c249105 rfl w M.next cc t M2.next EM nx) (ae 0x92498035150554871c24940924c249105 rfl w M.next cc t M2.next EM nx)).trans hM
   refine⟨dR Ic,?_⟩
   refine aX (m:=3) s4 (ae 0x28e000 rfl) (ae 0x19901fe300 rfl) (ae 0x9249066407f06304f953062481453063c07f48191103 rfl c K es.length hc hK e2) λ r M4 hr s5 f5=> ?_
   have Hb:=(f5.same _ (PK E7 f4.next) (ae 0x92498034550554871c24940924c249105 rfl w M.next cc t M2.next EM nx) (ae 0x92498034d50554871c24940924c249105 rfl w M.next cc t M2.next EM nx) (ae 0x92498035150554871c24940924c249105 rfl w M.next cc t M2.next EM nx)).trans Ic
   refine ao ⟨ae 0x48a000 rfl,ae 0x4c2200 rfl,ae 0x10e46001 rfl b,ae 0x2448181fce441c1101 rfl b hb⟩ ?_
   and_intros
   refine aa (PH _) ?_;refine aa (uI _) ?_;refine aa (AD _ _ _) ?_
   simp only [Hb]
   refine⟨by refine aa (PG _) ?_;unfold ar;exact ae 0x492161a814cfd205148191102 rfl c es.length hc e2,E9 _ _ ⟨es++[(low,min (low+r) (2^b-1))],_,_,?_,by refine aa PJ ?_;show _+1<=_;exact ae 0x90510614830614c249103 rfl c es.length m e6,rfl,?_,PK E7 (f4.trans f5).next,?_,?_,?_⟩⟩
   ·refine aa PJ ?_
    show _=aZ ((es.length+1:Nat):Int) 1 (c-(es.length+1))
    refine aa e7 ?_;refine aa (show c-(es.length+1)=m by exact ae 0x90d30818524430614c249103 rfl c es.length m e6) ?_;rfl
   ·refine aa (aF _ _ _) ?_;refine aa Qf ?_;rfl
   ·intro e he
    rcases Qt.mp he with h|h
    ·exact hle e h
    ·refine aa (P2.mp h) ?_;exact⟨Lw,by show min _ _<=_;exact ae 0x10a14c40a14c149103 rfl low r (2^b)⟩
   ·refine aa PJ ?_
    exact(s5.mono (by show _<=K+2+5*(_+1);exact ae 0x104f9418520624418418c13e548189102 rfl K es.length)).Er (ae 0x92498034550554871c24940924c249105 rfl w M.next cc t M2.next EM nx) (ae 0x92498034d50554871c24940924c249105 rfl w M.next cc t M2.next EM nx) (ae 0x92498035150554871c24940924c249105 rfl w M.next cc t M2.next EM nx) _
   ·exact((f3.trans f4).trans f5).Er nx _
  have Io:es.length<pp.length:=by refine aa JM.1 ?_;exact ae 0x90914830614c249103 rfl c es.length m e6
  have Ov:pp.getD es.length 0<2^b:=JM.2 _ (by refine aa P9 ?_;refine aa (PI Io) ?_;exact QK _)
  refine aX (m:=3) s3 (ae 0x28e000 rfl) (ae 0x19901fe300 rfl) (by lia) λ r M3 hr s4 f4=> ?_
  refine⟨λ h=> ?_,λ h=> ?_⟩
  ·refine ah (rA (f:=λ s:Nat=>V.int s) Io) ?_
   refine aX (m:=2) s4 (ae 0x28a000 rfl) (ae 0x19901fe200 rfl) (by lia) λ r3 M4 Jg s5 f5=> ?_
   and_intros
   refine aa (PH _) ?_;refine aa (AE _ _) ?_
   exact body (low:=pp.getD es.length 0-r3) (ae 0x904285209344249103 rfl (pp.getD es.length 0) (2^b) r3 Ov) (s5.mono (ae 0x106304f9520624418418413e548189102 rfl K es.length)) (f4.trans f5)
  ·refine ao ⟨ae 0x48a000 rfl,ae 0x4c2200 rfl,ae 0x10e46001 rfl b,ae 0x2448181fce441c1101 rfl b hb⟩ ?_
   and_intros
   refine aa (PH _) ?_;refine aa (oD _) ?_
   refine aX (m:=2^b) s4 (ae 0x909180146201 rfl (2^b) Hu) (ae 0x9066407f4418401fd101 rfl (2^b) Ls) (by lia) λ r3 M4 Jg s5 f5=> ?_
   exact body (low:=r3) (ae 0x904285244249102 rfl r3 (2^b) Jg) (s5.mono (ae 0x106304f9520624418418413e548189102 rfl K es.length)) (f4.trans f5)
end
section
variable{n:Nat}{M M':AH}{Q:V->AH->Prop}{X:AH->Prop}
theorem yw:∀is:List Int,ints? (is.map V.int)=some is:=by
 intro is
 induction is with
 |nil=>
  exact rfl
 |cons i r ihq=>
  have ih:=ihq
  show(ints? (V.int i::r.map V.int))=_
  unfold ints?
  refine aa ih ?_;rfl
theorem sE{is:List Int}(hl:is.length<=63)(q:∀w c M',Wl w c 0 M'->Q (.ref w) M'):ag ak (n+1) 61 [.list (is.map .int)] M Q X:=by
 refine Ey lD rfl rfl rfl ?_
 refine⟨(show 63<ar by decide),?_⟩
 have e:cut (is.map V.int) 0 (some 63)=is.map V.int:=by
  show((is.map V.int).take 63).drop 0=_
  refine aa (Qg (by refine aa (PG _) ?_;exact hl)) ?_;rfl
 change bP _ (cut (is.map V.int) 0 (some 63)) [] M _
 refine aa e ?_
 refine rb (f:=λ x=>x) (by refine aa (PG _) ?_;unfold ar;exact ae 0x9070d40a67e883f8006fd101 rfl is.length hl) (λ x hx M1 k1 K hK=> ?_) λ M1 k1=> ?_
 ·refine ai (QG.mp hx) λ i zz EN=> ?_;subst EN
  repeat infer_instance
  exact hK _ k1
 ·refine aa (List.map_id' _) ?_
  have hs:(dg (M1.new (.list (is.map .int))) (.ref M1.next)).bind ints? =some is:=by
   show(((M1.new (.list (is.map .int))).m M1.next).bind lstO?).bind ints? =_
   refine aa (bL _ _) ?_
   exact yw is
  refine ah hs ?_
  have g:0<=QM is.sum 1009/\QM is.sum 1009<1009:=oQ _ 1009 (by decide)
  refine q _ M1.next _ ⟨(show M1.next≠M1.next+1 by exact ae 0x980306145101 rfl M1.next),b6 _ _,Nat.lt_succ_of_lt (b6 _ _),is,0,0,QM is.sum 1009,bL _ _,?_,by decide,by decide,g.1,g.2⟩
  exact((Pu.new (M1.new (.list (is.map .int))) _).same _ (b6 _ _)).trans (bL _ _)
end
def vB(t:Nat)(T:List V)(args:List V)(h w:Nat)(a p:Nat->Nat->Int):Prop:=∀n M Q X,aY t T M->(∀M',Pu M M'->Q (aK h w λ i j=>.inst 0 [.int (a i j),.int (p i j)]) M')->ag ak (n+11) 60 args M Q X
def y0(t:Nat)(T:List V)(args:List V):Prop:=∀n M Q X,aY t T M->(∀M',Pu M M'->X M')->ag ak (n+11) 60 args M Q X
section
variable{n t h w pl:Nat}{T:List V}{x:V}{a p:Nat->Nat->Int}{M M':AH}{Q:V->AH->Prop}{X:AH->Prop}
theorem pN(hT:aY t T M)(g:vB t T [sh t,.dict [] [],x,.fn 67,.int pl] h w a p)(hh:h<=8)(hw:w<=8)(q:∀M',Pu M M'->Q (aK h w λ i j=>.tup [.int (a i j),.int (p i j)]) M'):
  ag ak (n+12) 75 [sh t,x,.int pl] M Q X:=by
 refine Ey gV rfl rfl rfl ?_
 refine fo rfl (by decide) (by decide) ?_
 refine g _ _ _ _ hT λ M1 k1=> ?_
 repeat infer_instance
 refine dQ (h:=h) (w:=w) (g':=λ i j=>.tup [.int (a i j),.int (p i j)]) hh hw (λ i hi M2 k2 K hK=> ?_) λ M2 k2=>q _ (k1.trans k2)
 repeat infer_instance
 refine cb (n:=w) (g':=λ j=>.tup [.int (a i j),.int (p i j)]) (by unfold ar;exact ae 0x48386a0533f441a1101 rfl w hw) (λ j hj M3 k3 K2 E9=> ?_) λ M3 k3=>hK _ (k2.trans k3)
 repeat infer_instance
 refine fS ?_
 exact E9 _ k3
theorem qA(hT:aY t T M)(g:y0 t T [sh t,.dict [] [],x,.fn 67,.int pl])(q:∀M',Pu M M'->Q .none M'):
  ag ak (n+12) 75 [sh t,x,.int pl] M Q X:=by
 refine Ey gV rfl rfl rfl ?_
 refine fo rfl (by decide) (by decide) ?_
 refine g _ _ _ _ hT λ M1 k1=> ?_
 repeat infer_instance
 exact q _ k1
end
structure fW(ks:List String)(vs:List V)(nm:String)(W h b:Nat)(mv sv:Option V):Prop where
 wd:ay ks vs "Width" =some (.int W)
 ht:ay ks vs "Height" =some (.int h)
 co:ay ks vs "ColorSpace" =some (.inst 1 [.str nm])
 bp:ay ks vs "BitsPerComponent" =some (.int b)
 im:ay ks vs "ImageMask" =none∨ay ks vs "ImageMask" =some (.bool false)
 ma:ay ks vs "Mask" =mv
 sm:ay ks vs "SMask" =sv
def zO(T:List V)(hd:V):Option V->Prop
 |none=>At T hd "Mask" .none
 |some (.list ps)=>∃Gx,aW (λ y p=>Bh T y p/\NR p) Gx ps/\At T hd "Mask" (.list Gx)
 |some v=>At T hd "Mask" v
section
variable{n t w cc K W h b c pl:Nat}{T T':List V}{ks:List String}{vs xs:List V}{px:List (List (List Nat))}{nm:String}{mv sv:Option V}{a p:Nat->Nat->Int}{M M':AH}{Q:V->AH->Prop}{X:AH->Prop}
set_option tactic.hygienic true in
theorem rU(a2:aW (HV T) vs xs)(k:fW ks vs nm W h b mv sv):zO T (.dict ks xs) mv:=by
 have e:=k.ma
 cases mv with
 |none=>exact fV a2 e
 |some v=>cases v with
  |list ps=>exact jo a2 e
  |_=>exact aQ a2 e (λ ps q=>nomatch q)
theorem zO.some(m:zO T hd mv):∃u,At T hd "Mask" u:=by
 cases mv with
 |none=>exact⟨_,m⟩
 |some v=>cases v with
  |list ps=>refine ai m λ Gx zz x=> ?_;clear m;exact⟨_,x⟩
  |_=>exact⟨_,m⟩
theorem rV(a2:aW (HV T) vs xs)(k:fW ks vs nm W h b mv sv)(FJ:fF nm c)(dm:ca px W h b c)(hb:D5 b)(Fm:1<=W)(hW:W<=8)(Fl:1<=h)(hh:h<=8):nV T (.dict ks xs) px nm W h b c:=by
 have hi:∃v,At T (.dict ks xs) "ImageMask" v/\eu v=false:=by
  rcases k.im with e|e
  ·exact aA _ (fV a2 e) rfl
  ·exact aA _ (aQ a2 e (d9 _)) rfl
 refine ai hi λ v hv ht=> ?_;clear hi
 exact⟨FJ,⟨v,hv,ht⟩,aQ a2 k.co (λ zz h=>by cases h),⟨aQ a2 k.wd (bw _),aQ a2 k.ht (bw _),Fm,Fl,.inr ⟨v,hv,aQ a2 k.bp (bw _),hb,λ h=>by rw[ht] at h;cases h⟩⟩,dm,hW,hh⟩
theorem mA(hl:ks.length=vs.length)(k:fW ks vs nm W h b mv none)(x:V):fW (aI "SMask" x ks vs).1 (aI "SMask" x ks vs).2 nm W h b mv (some x):=by
 have g:=λ s'=>i4 (s:= "SMask") (x:=x) (s':=s') hl
 exact⟨(g _).trans k.wd,(g _).trans k.ht,(g _).trans k.co,(g _).trans k.bp,k.im.imp (λ e=>(g _).trans e) λ e=>(g _).trans e,(g _).trans k.ma,g _⟩
theorem j8(hl:ks.length=vs.length)(k:fW ks vs nm W h b none none)(x:V):fW (aI "Mask" x ks vs).1 (aI "Mask" x ks vs).2 nm W h b (some x) none:=by
 have g:=λ s'=>i4 (s:= "Mask") (x:=x) (s':=s') hl
 exact⟨(g _).trans k.wd,(g _).trans k.ht,(g _).trans k.co,(g _).trans k.bp,k.im.imp (λ e=>(g _).trans e) λ e=>(g _).trans e,g _,(g _).trans k.sm⟩
theorem AR(g:Nat->Nat->V)(hg:∀i j,bj 2 (g i j)):bj 4 (aK h W g):=by
 unfold aK
 refine .list λ x hx=> ?_
 refine ai (QG.mp hx) λ i zz EN=> ?_;subst EN
 refine .list λ y hy=> ?_
 refine ai (QG.mp hy) λ j zz EN=> ?_;subst EN
 exact hg i j
theorem qz(q:∀t M',aY t [] M'->Pu M M'->M.next<=t->Q (sh t) M'):cK ak (ag ak (n+1)) 5 [] M Q X:=by
 unfold cK
 and_intros
 rewrite[ee]
 repeat infer_instance
 have e1:((M.new (.inst 5 [])).new (.EG [] [])).m M.next=some (.inst 5 []):=((Pu.new _ _).same _ (b6 _ _)).trans (bL _ _)
 refine ah e1 ?_
 repeat infer_instance
 refine fo rfl (by decide) (by decide) ?_
 refine ah (aF _ _ _) ?_
 and_intros
 refine aa (aF _ _ _) ?_
 refine cg rfl rfl ?_
 have hl:(M.new (.inst 5 [])).next=M.next+1:=rfl
 refine q _ _ ⟨?_,?_⟩ ((((Pu.new M _).trans (Pu.new _ _)).Er (PE _) _).Er (PE _) _|>.Ew (PE _)) (RR _)
 ·refine aa (cA _ (ae 0x92600d244306149102 rfl ((M.new (O.inst 5 [])).next) M.next hl)) ?_;refine aa (be _ _ (ae 0x92600d244306149102 rfl ((M.new (O.inst 5 [])).next) M.next hl)) ?_;refine aa (be _ _ (ae 0x92600d244306149102 rfl ((M.new (O.inst 5 [])).next) M.next hl)) ?_
  exact bL _ _
 ·exact Rd _
theorem tN
  (s:aV w cc t K T M)(hR:M.m R=some (.Eu ks vs))(E2:R<M.next)(hRw:R≠w/\R≠cc/\R≠t)(pn:fu 5 ks vs 7 16)(hl:T.length<=40)(hK:K<=2^70)
  (dm:ca px W h b c)(hW:W<=4)(hh:h<=4)(EZ:1<=b)(hb:b<=16)(hc:c<=4)
  (gb:∀xs T',T<+:T'->aW (HV T') vs xs->(bad=false->vB t T' [sh t,.dict [] [],EI (.dict ks xs) px b,.fn 67,.int pl] h W a p)/\(bad=true->y0 t T' [sh t,.dict [] [],EI (.dict ks xs) px b,.fn 67,.int pl]))
  (q:∀M',Q (.bool true) M'):
  bq ak (ag ak (n+12)) (bC 12 gE.body) [a0,some (.ref w),some (bk px),some (.ref R),some (aK h W λ i j=>.tup [.int (a i j),.int (p i j)]),some (.bool bad),none,none,a8,a9,a10,some (sh t),some (.int pl),a13,a14,some (.int b),some (.int W),some (.int h),a18,a19,a20,a21,a22,a23] M N Q X:=by
 and_intros
 refine aa (iR hR) ?_
 have sk:=s.Ew (i:=R) hRw.1 hRw.2.1 hRw.2.2
 have c1:=pn.cst
 have m1:=pn.most
 refine oi (n:=n+8) (d:=5) (by decide) (by decide) sk pn.pv pn.len pn.nd (ae 0x906f4419d101 rfl ks.length m1) (ae 0x24907e0117f052441c120680c3fd102 rfl T.length (aL vs) hl c1) (ae 0x92419401fc14910704819181fd102 rfl K (aL vs) hK c1) λ xs T' M1 s1 f1 p1 l1 a1 o1=> ?_
 refine og (n:=n+10) dm hW (ae 0x906844191101 rfl h hh) EZ hb hc λ M2 k2=> ?_
 refine gm λ M3 k3=> ?_
 have s3:=(s1.pu k2).pu k3
 have ho:Ob 7 (EI (.dict ks xs) px b):=kF (lh o1 (by refine aa pn.len ?_;refine aa a1.len ?_;rfl) (ae 0x90a0607f4419d101 rfl ks.length m1) (by decide)) (by decide)
 refine ai ho λ x2 q2 t2=> ?_;clear ho
 refine ai (uB (k:=5) s3.ob (ae 0x2492428181fd30414914c1c120680c3fd103 rfl T.length (aL vs) T'.length hl c1 l1) (by decide)) λ x1 q1 t1=> ?_
 obtain⟨g1,g2⟩:=gb xs T' p1 a1
 refine t1 t (n+6) _ _ _ s3.Gr λ M4 k4=> ?_
 refine t2 (n+5) _ _ _ λ M5 k5=> ?_
 have s5:=(s3.pu k4).pu k5
 have last:∀{M6:AH} {a6 a7:Option V},aV w cc t (K+aL vs) T' M6->bq ak (ag ak (n+12)) (bC 15 gE.body) [a0,some (.ref w),some (bk px),some (.ref R),some (aK h W λ i j=>.tup [.int (a i j),.int (p i j)]),some (.bool bad),some (EI (.dict ks xs) px b),some (.tup [x1,x2]),a8,a9,a10,some (sh t),some (.int pl),a13,a14,some (.int b),some (.int W),some (.int h),a18,a19,a20,a21,a22,a23] M6 N Q X:=by
  intro M6 a6 a7 s6
  refine t1 t (n+6) _ _ _ s6.Gr λ M7 k7=> ?_
  refine t2 (n+5) _ _ _ λ M8 k8=> ?_
  have qq:bj 15 (.tup [x1,x2]):=bj.two (q1.mono (by decide)) (q2.mono (by decide))
  refine ah (qq.self (by decide)) ?_
  exact q _
 have ge:bj 4 (aK h W λ i j=>.tup [.int (a i j),.int (p i j)]):=AR _ λ i j=>bj.two (.int _) (.int _)
 cases bad with
 |false=>
  refine pN s5.Gr (g1 rfl) (ae 0x906844191101 rfl h hh) (ae 0x906844191101 rfl W hW) λ M6 k6=> ?_
  and_intros
  have e:rL M6 .ne (aK h W λ i j=>.tup [.int (a i j),.int (p i j)]) (aK h W λ i j=>.tup [.int (a i j),.int (p i j)])=some false:=by
   show(kO (aK h W λ i j=>.tup [.int (a i j),.int (p i j)]) (aK h W λ i j=>.tup [.int (a i j),.int (p i j)])).map (!·)=_
   refine aa (ge.self (by decide)) ?_;rfl
  refine ah e ?_
  repeat infer_instance
  exact last (a6:=none) (a7:=none) (s5.pu k6)
 |true=>
  refine qA s5.Gr (g2 rfl) λ M6 k6=> ?_
  repeat infer_instance
  exact last (a6:=none) (a7:=none) (s5.pu k6)
end
def Dl(t:Nat)(T0:List V)(nm:String)(px:List (List (List Nat)))(W h b c pl:Nat)(mv:Option V)(bad:Bool)(a p:Nat->Nat->Int):Prop:=
 ∀T' hd v,T0<+:T'->nV T' hd px nm W h b c->At T' hd "SMask" v->kU v->zO T' hd mv->
  (bad=false->vB t T' [sh t,.dict [] [],EI hd px b,.fn 67,.int pl] h W a p)/\(bad=true->y0 t T' [sh t,.dict [] [],EI hd px b,.fn 67,.int pl])
section
variable{n t w cc K W h b c pl bent sw:Nat}{T T':List V}{ks:List String}{vs xs:List V}{px:List (List (List Nat))}{nm:String}{mv sv:Option V}{a p:Nat->Nat->Int}{M M':AH}{Q:V->AH->Prop}{X:AH->Prop}
theorem D5.of{b:Nat}(h:D5 b):1<=b/\b<=16:=h.le
theorem PV.EI(h:Ob 5 (.inst 3 fs)):PV 5 (.inst 3 fs):=.inr ⟨λ zz h=>(by cases h),(show(3:Nat)≠4 by decide),h⟩
theorem mh
  (s:aV w cc t K T M)(hR:M.m R=some (.Eu ks vs))(E2:R<M.next)(hRw:R≠w/\R≠cc/\R≠t)(pn:fu 5 ks vs 6 15)(k:fW ks vs nm W h b mv none)(hl:T.length<=20)(hK:K<=2^50)
  (FJ:fF nm c)(dm:ca px W h b c)(Fm:1<=W)(hW:W<=4)(Fl:1<=h)(hh:h<=4)(hb:D5 b)(hc:c<=4)(hp:pl<=9)(mp:Dl t T nm px W h b c pl mv bad a p)(q:∀M',Q (.bool true) M'):
  bq ak (ag ak (n+12)) (bC 11 gE.body) [a0,some (.ref w),some (bk px),some (.ref R),some (aK h W λ i j=>.tup [.int (a i j),.int (p i j)]),some (.bool bad),none,none,some (.int (bent:Int)),some (.int (sw:Int)),a10,some (sh t),some (.int pl),a13,a14,some (.int b),some (.int W),some (.int h),a18,a19,none,none,a22,a23] M N Q X:=by
 have Fq:=hb.le
 have Hq:∀{F8:List String} {FG:List V} {sv:Option V} {v:V} {K':Nat} {M1:AH} {a20 a21:Option V},aV w cc t K' T M1->K'<=K+10->M1.m R=some (.Eu F8 FG)->R<M1.next->fu 5 F8 FG 7 16->fW F8 FG nm W h b mv sv->kU v->
   (∀xs T',aW (HV T') FG xs->At T' (.dict F8 xs) "SMask" v)->
   bq ak (ag ak (n+12)) (bC 12 gE.body) [a0,some (.ref w),some (bk px),some (.ref R),some (aK h W λ i j=>.tup [.int (a i j),.int (p i j)]),some (.bool bad),none,none,some (.int (bent:Int)),some (.int (sw:Int)),a10,some (sh t),some (.int pl),a13,a14,some (.int b),some (.int W),some (.int h),a18,a19,none,none,a22,a23] M1 N Q X:=by
  intro F8 FG sv v K' M1 a20 a21 s1 Ie Jm Ha NY k1 ns FU
  refine tN s1 Jm Ha hRw NY (ae 0x241a030ff441d1101 rfl T.length hl) (ae 0x92419181fd2041a914818c81fd102 rfl K K' hK Ie) dm hW hh Fq.1 Fq.2 hc (λ xs T' p1 a1=> ?_) q
  exact mp T' _ v p1 (rV a1 k1 FJ dm hb Fm (ae 0x906844191101 rfl W hW) Fl (ae 0x906844191101 rfl h hh)) (FU xs T' a1) ns (rU a1 k1)
 refine⟨λ hs=> ?_,λ hs=> ?_⟩
 ·refine sF (n:=n+6) (bad:=((bent:Int)==2)) s hl (ae 0x9063c07f4418c81fd101 rfl K hK) hp λ fs W2 h2 f T1 M1 s1 f1 p1 l1 o1 w1 w2 h3 h4 gg gb=> ?_
  and_intros
  have Jm:M1.m R=some (.Eu ks vs):=(f1.same _ E2 hRw.1 hRw.2.1 hRw.2.2).trans hR
  refine ah Jm ?_
  refine ah (bV (PN pn.most (by decide))) ?_
  refine jV (n:=n+10) (g:=λ i j=>n8 (f i j) pl) Fm (ae 0x906844191101 rfl W hW) Fl (ae 0x906844191101 rfl h hh) w1 w2 h3 h4 λ M2 k2=> ?_
  have s2:=(s1.Er hRw.1 hRw.2.1 hRw.2.2 (.Eu (aI "SMask" (.inst 3 fs) ks vs).1 (aI "SMask" (.inst 3 fs) ks vs).2)).pu k2
  have GG:R<(M1.set R (.Eu (aI "SMask" (.inst 3 fs) ks vs).1 (aI "SMask" (.inst 3 fs) ks vs).2)).next:=PK E2 f1.next
  have k1:=mA pn.len k (.inst 3 fs)
  refine tN (a:=λ i j=>(nd (f (bm i h h2) (bm j W W2)) pl).1) (p:=λ i j=>((nd (f (bm i h h2) (bm j W W2)) pl).2:Int)) s2 ((k2.same _ GG).trans (aF _ _ _)) (PK GG k2.next) hRw ((pn.put (PV.EI o1) "SMask").mono (by decide) (by show 15+1<=16;decide)) (ae 0x2490680c3fd2041d11481d1102 rfl T.length T1.length hl l1) (ae 0x9064607f06ee0327f4418c81fd101 rfl K hK) dm hW hh Fq.1 Fq.2 hc (λ xs T' p2 a1=> ?_) q
  have I:=rV a1 k1 FJ dm hb Fm (ae 0x906844191101 rfl W hW) Fl (ae 0x906844191101 rfl h hh)
  have hs:=aQ a1 k1.sm (λ zz h=>by cases h)
  obtain⟨u,hm⟩:=(rU a1 k1).some
  exact⟨λ e n M Q X hT q=>Aw hT I hs hm (gg e T' p2) w1 w2 h3 h4 q,λ e n M Q X hT q=>sK hT I hs hm (gb e T' p2) q⟩
 ·refine aX (n:=n+11) (m:=2) s (by decide) (by decide) (ae 0x9066407f4418c81fd101 rfl K hK) λ r M1 hr s1 f1=> ?_
  have Jm:M1.m R=some (.Eu ks vs):=(f1.same _ E2 hRw.1 hRw.2.1 hRw.2.2).trans hR
  have Ha:R<M1.next:=PK E2 f1.next
  refine⟨λ h0=> ?_,λ h0=> ?_⟩
  ·refine fR λ M2 k2=> ?_
   refine fo rfl (by decide) (by decide) ?_
   refine aX (n:=n+11) (m:=3) (s1.pu k2) (by decide) (by decide) (ae 0x9066407f0614418c81fd101 rfl K hK) λ r M3 hr s3 f3=> ?_
   have Mb:M3.m R=some (.Eu ks vs):=(f3.same _ (PK Ha k2.next) hRw.1 hRw.2.1 hRw.2.2).trans ((k2.same _ Ha).trans Jm)
   have Ma:R<M3.next:=PK Ha (PN k2.next f3.next)
   have put:∀(x:V),PV 5 x->cq x<=1->kU x->(∀ps,x≠.list ps)->
     aB (dL (.Eu ks vs) (.str "SMask") x) λ o=>bq ak (ag ak (n+12)) (bC 12 gE.body) [a0,some (.ref w),some (bk px),some (.ref R),some (aK h W λ i j=>.tup [.int (a i j),.int (p i j)]),some (.bool bad),none,none,some (.int (bent:Int)),some (.int (sw:Int)),a10,some (sh t),some (.int pl),a13,a14,some (.int b),some (.int W),some (.int h),a18,a19,none,none,a22,a23] (M3.set R o) N Q X:=by
    intro x hx LO ns nl
    refine ah (bV (PN pn.most (by decide))) ?_
    exact Hq (a20:=none) (a21:=none) (s3.Er hRw.1 hRw.2.1 hRw.2.2 _) (ae 0x106a44184185101 rfl K) (aF _ _ _) Ma ((pn.put hx "SMask").mono (by decide) (ae 0x9070051bc185101 rfl (cq x) LO)) (mA pn.len k x) ns λ xs T' a1=>aQ a1 (mA pn.len k x).sm nl
   match r,hr with
   |0,_=>
    and_intros
    refine ah Mb ?_
    exact put (.inst 1 [.str "None"]) (PV.name (by decide) _) (by decide) (λ zz=>rfl) (λ zz h=>by cases h)
   |1,_=>
    and_intros
    refine ah Mb ?_
    exact put (.int 5) (PV.int (by decide) _) (by decide) (λ zz=>rfl) (λ zz h=>by cases h)
   |2,_=>
    and_intros
    refine ah Mb ?_
    exact put (.dict ["Width"] [.int 1]) (.inr ⟨λ zz h=>(by cases h),trivial,(lh (k:=2) (ks:=["Width"]) (vs:=[.int 1]) (λ v hv=>(by refine aa (P2.mp hv) ?_;exact jh 1)) rfl (by decide) (by decide)).mono (by decide)⟩) (by decide) (λ zz=>rfl) (λ zz h=>by cases h)
  ·exact Hq (v:=.none) (a20:=none) (a21:=none) s1 (ae 0x106a44185101 rfl K) Jm Ha (pn.mono (by decide) (by decide)) k (λ zz=>rfl) λ xs T' a1=>fV a1 k.sm
end
section
variable{n t w cc K W h b c pl bent sw mw:Nat}{T T':List V}{ks:List String}{vs xs:List V}{px:List (List (List Nat))}{nm:String}{mv sv:Option V}{a p:Nat->Nat->Int}{M M':AH}{Q:V->AH->Prop}{X:AH->Prop}
theorem BI(h:gw v):Ob 2 v/\NR v:=by
 rcases h with⟨k,rfl⟩|⟨x,rfl⟩
 ·exact ed k
 ·exact⟨oK x,trivial⟩
theorem yq
  (s:aV w cc t K T M)(hR:M.m R=some (.Eu ks vs))(E2:R<M.next)(hRw:R≠w/\R≠cc/\R≠t)(pn:fu 5 ks vs 5 5)(k:fW ks vs nm W h b none none)(hl:T.length=0)(hK:K<=2^40)
  (FJ:fF nm c)(dm:ca px W h b c)(Fm:1<=W)(hW:W<=4)(Fl:1<=h)(hh:h<=4)(hb:D5 b)(hc1:1<=c)(hc:c<=4)(hp:pl<=9)(q:∀M',Q (.bool true) M'):
  bq ak (ag ak (n+12)) (bC 10 gE.body) [a0,some (.ref w),some (bk px),some (.ref R),some (aK h W λ i j=>.tup [.int 1,.int 0]),some (.bool false),none,none,some (.int (bent:Int)),some (.int (sw:Int)),some (.int (mw:Int)),some (sh t),some (.int pl),a13,some (.int c),some (.int b),some (.int W),some (.int h),none,none,none,none,a22,a23] M N Q X:=by
 have Fq:=hb.le
 have Nj:∀{M1:AH},bh w cc t M M1->M1.m R=some (.Eu ks vs):=λ f=>(f.same _ E2 hRw.1 hRw.2.1 hRw.2.2).trans hR
 refine⟨λ hm=> ?_,λ hm=> ?_⟩
 ·refine⟨λ h1=> ?_,λ h1=> ?_⟩
  ·refine oa (n:=n+6) (bad:=((bent:Int)==1)) s (ae 0x907444381101 rfl T.length hl) (ae 0x9063c07f4418a01fd101 rfl K hK) λ fs W2 h2 f T1 M1 s1 f1 p1 l1 o1 w1 w2 h3 h4 gg gb=> ?_
   and_intros
   refine ah (Nj f1) ?_
   refine ah (bV (PN pn.most (by decide))) ?_
   have one:((mw:Int))=1:=by
    have:=h1
    rw[beq_iff_eq] at this
    exact this
   refine⟨λ h2=> ?_,λ zz=> ?_⟩
   ·have h2:=of_decide_eq_true h2
    lia
   refine jV (n:=n+10) (g:=λ i j=>.tup [.int (if f i j then 1 else 0),.int 0]) Fm (ae 0x906844191101 rfl W hW) Fl (ae 0x906844191101 rfl h hh) w1 w2 h3 h4 λ M2 k2=> ?_
   have k1:=j8 pn.len k (.inst 3 fs)
   have s2:=(s1.Er hRw.1 hRw.2.1 hRw.2.2 (.Eu (aI "Mask" (.inst 3 fs) ks vs).1 (aI "Mask" (.inst 3 fs) ks vs).2)).pu k2
   have GG:R<(M1.set R (.Eu (aI "Mask" (.inst 3 fs) ks vs).1 (aI "Mask" (.inst 3 fs) ks vs).2)).next:=PK E2 f1.next
   refine mh (a:=λ i j=>if f (bm i h h2) (bm j W W2) then 1 else 0) (p:=λ zz zz=>0) s2 ((k2.same _ GG).trans (aF _ _ _)) (PK GG k2.next) hRw ((pn.put (PV.EI o1) "Mask").mono (by decide) (by show 5+1<=15;decide)) k1 (ae 0x9241d12041d1148381102 rfl T.length T1.length hl l1) (ae 0x9063207f06ee0327f4418a01fd101 rfl K hK) FJ dm Fm hW Fl hh hb hc hp (λ T' hd v p1 I hs ns ma=> ?_) q
   exact⟨λ e n M Q X hT q=>Ay hT I hs ns ma (gg e T' p1) w1 w2 h3 h4 q,λ e n M Q X hT q=>sL hT I hs ns ma (gb e T' p1) q⟩
  ·refine pL (n:=n+6) (bad:=((bent:Int)==1)) s dm Fm hW Fl hh Fq.1 Fq.2 hc1 hc (ae 0x9063c07f4418a01fd101 rfl K hK) λ Hm ns M1 s1 f1 kv l9 gg gb=> ?_
   and_intros
   refine ah (Nj f1) ?_
   refine ah (bV (PN pn.most (by decide))) ?_
   have h1:(mw:Int)≠1:=by
    intro e
    rw[beq_eq_false_iff_ne] at h1
    exact h1 e
   have hm:=of_decide_eq_true hm
   refine⟨λ zz=> ?_,λ h2=> ?_⟩
   rotate_left
   ·have h2:=of_decide_eq_false h2
    lia
   have k1:=j8 pn.len k (.list Hm)
   have s2:=s1.Er hRw.1 hRw.2.1 hRw.2.2 (.Eu (aI "Mask" (.list Hm) ks vs).1 (aI "Mask" (.list Hm) ks vs).2)
   have GG:R<(M1.set R (.Eu (aI "Mask" (.list Hm) ks vs).1 (aI "Mask" (.list Hm) ks vs).2)).next:=PK E2 f1.next
   have pv:PV 5 (.list Hm):=.inl ⟨_,rfl,ae 0x9074441a5101 rfl Hm.length l9,λ p hp=>BI (kv p hp)⟩
   refine mh (a:=λ i j=>if !fD (bN px i j) ns then 1 else 0) (p:=λ zz zz=>0) s2 (aF _ _ _) GG hRw ((pn.put pv "Mask").mono (by decide) (by show 5+(Hm.length+1)<=15;exact ae 0x906f041851941a5101 rfl Hm.length l9)) k1 (ae 0x907444381101 rfl T.length hl) (ae 0x9063207f0720217f4418a01fd101 rfl K hK) FJ dm Fm hW Fl hh hb hc hp (λ T' hd v p1 I hs MI ma=> ?_) q
   refine ai ma λ Gx a2 Nk=> ?_;clear ma
   have Gm:=a2.len
   refine⟨λ e n M Q X hT q=> ?_,λ e n M Q X hT q=> ?_⟩
   ·refine ei (gg e) λ HT l2 l3=> ?_;subst HT
    exact Az hT I hs MI Nk a2 l2 l3 q
   ·exact sM hT I hs MI Nk a2 (ae 0x24907e80c7fd20d1481a5102 rfl Hm.length Gx.length l9 Gm) kv (gb e) q
 ·refine mh (a18:=none) (a19:=none) (a:=λ zz zz=>1) (p:=λ zz zz=>0) s hR E2 hRw (pn.mono (by decide) (by decide)) k (ae 0x907444381101 rfl T.length hl) (ae 0x9063207f4418a01fd101 rfl K hK) FJ dm Fm hW Fl hh hb hc hp (λ T' hd v p1 I hs ns ma=>⟨λ zz n M Q X hT q=>Ax hT I hs ns ma q,λ h=>by cases h⟩) q
end
section
variable{n t w cc K W h b c pl bent sw mw:Nat}{T:List V}{ks:List String}{vs xs:List V}{px:List (List (List Nat))}{nm:String}{M M':AH}{Q:V->AH->Prop}{X:AH->Prop}
theorem CU(M:AH)(r:Nat)(hr:r<6):∃b:Nat,b<=9/\eh M (.tup [.int 4,.int 0,.int 1,.int 2,.int 3,.int 9]) (.int r)=some (.int b):=by
 match r,hr with
 |0,_=>exact aA 4 (by decide) rfl
 |1,_=>exact aA 0 (by decide) rfl
 |2,_=>exact aA 1 (by decide) rfl
 |3,_=>exact aA 2 (by decide) rfl
 |4,_=>exact aA 3 (by decide) rfl
 |5,_=>exact aA 9 (by decide) rfl
theorem CW(M:AH)(r:Nat)(hr:r<3):∃(nm:String) (c:Nat),fF nm c/\1<=c/\c<=4/\eh M (.tup [.tup [.str "DeviceGray",.int 1],.tup [.str "DeviceRGB",.int 3],.tup [.str "DeviceCMYK",.int 4]]) (.int r)=some (.tup [.str nm,.int c]):=by
 match r,hr with
 |0,_=>exact yA _ 1 (.inl ⟨rfl,rfl⟩) (by decide) (by decide) rfl
 |1,_=>exact yA _ 3 (.inr (.inl ⟨rfl,rfl⟩)) (by decide) (by decide) rfl
 |2,_=>exact yA _ 4 (.inr (.inr ⟨rfl,rfl⟩)) (by decide) (by decide) rfl
theorem Br(M:AH)(r:Nat)(hr:r<5):∃b:Nat,D5 b/\eh M (.tup [.int 2,.int 16,.int 1,.int 8,.int 4]) (.int r)=some (.int b):=by
 match r,hr with
 |0,_=>exact aA 2 (.inr (.inl rfl)) rfl
 |1,_=>exact aA 16 (.inr (.inr (.inr (.inr rfl)))) rfl
 |2,_=>exact aA 1 (.inl rfl) rfl
 |3,_=>exact aA 8 (.inr (.inr (.inr (.inl rfl)))) rfl
 |4,_=>exact aA 4 (.inr (.inr (.inl rfl))) rfl
theorem tM
  (s:aV w cc t K T M)(hR:M.m R=some (.Eu ks vs))(E2:R<M.next)(hRw:R≠w/\R≠cc/\R≠t)(pn:fu 5 ks vs 5 5)(k:fW ks vs nm W h b none none)(hl:T.length=0)(hK:K<=2^40)
  (FJ:fF nm c)(dm:ca px W h b c)(Fm:1<=W)(hW:W<=4)(Fl:1<=h)(hh:h<=4)(hb:D5 b)(hc1:1<=c)(hc:c<=4)(hp:pl<=9)(q:∀M',Q (.bool true) M'):
  bq ak (ag ak (n+12)) (bC 8 gE.body) [a0,some (.ref w),some (bk px),some (.ref R),none,none,none,none,some (.int (bent:Int)),some (.int (sw:Int)),some (.int (mw:Int)),some (sh t),some (.int pl),a13,some (.int c),some (.int b),some (.int W),some (.int h),none,none,none,none,a22,a23] M N Q X:=by
 and_intros
 refine aa (gC dm) ?_
 refine dQ (h:=h) (w:=W) (g':=λ i j=>.tup [.int 1,.int 0]) (ae 0x906844191101 rfl h hh) (ae 0x906844191101 rfl W hW) (λ i hi M2 k2 K hK=> ?_) λ M2 k2=> ?_
 ·and_intros
  refine cb (n:=W) (g':=λ j=>.tup [.int 1,.int 0]) (by unfold ar;exact ae 0x48386a0533f44191101 rfl W hW) (λ j hj M3 k3 K2 E9=> ?_) λ M3 k3=>hK _ (k2.trans k3)
  and_intros
  exact E9 _ k3
 ·exact yq (s.pu k2) ((k2.same _ E2).trans hR) (PK E2 k2.next) hRw pn k hl hK FJ dm Fm hW Fl hh hb hc1 hc hp q
set_option maxHeartbeats 4000000 in
theorem Bd{is:List Int}(hl:is.length<=63)(q:∀M',Q (.bool true) M'):ag ak (n+13) 76 [.list (is.map .int)] M Q X:=by
 refine Ey gE rfl rfl rfl ?_;and_intros
 refine sE (n:=n+11) hl λ w cc M0 hw=> ?_
 and_intros
 have d0:∀{m K:Nat} {M:AH} {Q:V->AH->Prop} {X:AH->Prop},Wl w cc K M->0<m->m<=2^100->K<=2^100->(∀(r:Nat) M',r<m->Wl w cc (K+1) M'->Dx w cc M M'->Q (.int r) M')->ag ak (n+12) 62 [.ref w,.int m] M Q X:=
  λ h hm Ge hK q=>tj (n:=n+11) h hm Ge hK q
 refine d0 (m:=6) hw (by decide) (by decide) (by decide) λ bent M1 zz w1 zz=> ?_
 and_intros
 refine d0 (m:=3) w1 (by decide) (by decide) (by decide) λ sw M2 zz w2 zz=> ?_
 and_intros
 refine d0 (m:=4) w2 (by decide) (by decide) (by decide) λ mw M3 zz w3 zz=> ?_
 repeat infer_instance
 refine qz (n:=n+11) λ t M4 tb k4 ht=> ?_
 have l3:=w3.HX
 have N8:=w3.HY
 have s4:aV w cc t 3 [] M4:=⟨w3.pu k4,tb,ae 0x92498034d20914c149103 rfl M3.next t w ht l3,ae 0x92498034d20914c149103 rfl M3.next t cc ht N8,λ v hv=>by cases hv⟩
 refine aX (n:=n+11) (m:=6) s4 (by decide) (by decide) (by decide) λ r5 M5 h5 s5 f5=> ?_
 refine ai (CU M5 r5 h5) λ pl Io e5=> ?_
 refine ah e5 ?_
 refine aX (n:=n+11) (m:=3) s5 (by decide) (by decide) (by decide) λ r6 M6 h6 s6 f6=> ?_
 refine oR (CW M6 r6 h6) λ nm c FJ c1 c4 e6=> ?_
 and_intros
 refine ah e6 ?_
 and_intros
 refine aX (n:=n+11) (m:=5) s6 (by decide) (by decide) (by decide) λ r7 M7 h7 s7 f7=> ?_
 refine ai (Br M7 r7 h7) λ b hb e7=> ?_
 have Fq:=hb.le
 and_intros
 refine ah e7 ?_
 and_intros
 refine aX (n:=n+11) (m:=4) s7 (by decide) (by decide) (by decide) λ r8 M8 h8 s8 f8=> ?_
 and_intros
 refine aX (n:=n+11) (m:=3) s8 (by decide) (by decide) (by decide) λ r9 M9 h9 s9 f9=> ?_
 and_intros
 refine aa (gJ _) ?_;refine aa (gJ _) ?_
 have hW:1<=1+r8/\1+r8<=4:=ae 0x91c190146104146184291101 rfl r8 h8
 have hh:1<=1+r9/\1+r9<=4:=ae 0x91c19014610414618428d101 rfl r9 h9
 generalize 1+r8=W at*
 generalize 1+r9=h at*
 refine ki (n:=n+10) s9 (ae 0x906844706444146101 rfl W hW) (ae 0x906844706444146101 rfl h hh) Fq.1 Fq.2 c4 (by decide) λ px M10 dm NU f10=> ?_
 and_intros
 refine fR (n:=n+11) λ GN Lj=> ?_
 and_intros
 refine fo rfl (by decide) (by decide) ?_
 and_intros
 have MB:=NU.pu Lj
 have EO:=MB.lt
 have NT:=MB.pu (Pu.new GN (.Eu ["Width","Height","ColorSpace","BitsPerComponent"] [.int W,.int h,.inst 1 [.str nm],.int b]))
 have pn:fu 5 ["Width","Height","ColorSpace","BitsPerComponent"] [.int W,.int h,.inst 1 [.str nm],.int b] 4 4:=
  ⟨rfl,by decide,λ v hv=>by simp at hv;rcases hv with rfl|rfl|rfl|rfl<;>first|exact PV.int (by decide) _|exact PV.name (by decide) _,by decide,PE 4⟩
 refine aX (n:=n+11) (m:=3) NT (by decide) (by decide) (by decide) λ r13 Pz KQ MA NF=> ?_
 have J7:=(NF.same _ (b6 _ _) (ae 0x92600d14871c24940924c249104 rfl w GN.next cc t EO) (ae 0x92600d34871c24940924c249104 rfl w GN.next cc t EO) (ae 0x92600d44871c24940924c249104 rfl w GN.next cc t EO)).trans (bL GN (.Eu ["Width","Height","ColorSpace","BitsPerComponent"] [.int W,.int h,.inst 1 [.str nm],.int b]))
 have Iy:GN.next<Pz.next:=PK (b6 _ _) NF.next
 and_intros
 refine⟨λ zz=> ?_,λ zz=> ?_⟩
 ·and_intros
  refine ah J7 ?_
  refine ah (bV (by decide)) ?_
  exact tM (MA.Er (ae 0x92600d14871c24940924c249104 rfl w GN.next cc t EO) (ae 0x92600d34871c24940924c249104 rfl w GN.next cc t EO) (ae 0x92600d44871c24940924c249104 rfl w GN.next cc t EO) _) (aF _ _ _) Iy ⟨ae 0x92600d14871c24940924c249104 rfl w GN.next cc t EO,ae 0x92600d34871c24940924c249104 rfl w GN.next cc t EO,ae 0x92600d44871c24940924c249104 rfl w GN.next cc t EO⟩ ((pn.put (PV.bool (by decide) false) "ImageMask").mono (by decide) (show 4+1<=5 by decide)) ⟨rfl,rfl,rfl,rfl,.inr rfl,rfl,rfl⟩ rfl (by decide) FJ dm hW.1 hW.2 hh.1 hh.2 hb c1 c4 Io q
 ·exact tM MA J7 Iy ⟨ae 0x92600d14871c24940924c249104 rfl w GN.next cc t EO,ae 0x92600d34871c24940924c249104 rfl w GN.next cc t EO,ae 0x92600d44871c24940924c249104 rfl w GN.next cc t EO⟩ (pn.mono (by decide) (by decide)) ⟨rfl,rfl,rfl,rfl,.inl rfl,rfl,rfl⟩ rfl (by decide) FJ dm hW.1 hW.2 hh.1 hh.2 hb c1 c4 Io q
end
end Mine
section
namespace Mine
open PySem
theorem BG:qd:=λ is hl=>Bd (n:=47) hl λ zz=>rfl
theorem holds:RY.Holds:=yr BG
end Mine
end
theorem PySem.Challenge.cw_pq0813_01_holds : PySem.Challenge.rw_pq0813_01.Holds :=
  Mine.holds
