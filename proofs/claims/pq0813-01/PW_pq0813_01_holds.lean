import PyProof.Rows.All
import Wide.All
import OpenK.AllK
import Wide.FinOn
import PyProof.Rows.StrTemp
import PyProof.Rows.AttrNodeAny
import PyProof.Rows.SortStr
import PyProof.ZipIter
import PyProof.ExcBaseAll.Exception
import PyProof.InstStoreFacts
import Lean
import PySem.Challenge.RW_pq0813_01
set_option maxRecDepth 100000
set_option linter.all false
set_option Elab.async false
set_option tactic.hygienic false
set_option bootstrap.genMatcherCode false
set_option compiler.extract_closed false
open PySem renaming wpAny_bind->Py, wpAny_pure->PB, Value->PJ, Shared->PK, wpAny->PR, wpAny_mono->PT, model->PW, mainGlobals->P1, Addr->P3, Expr->P8, DictEntry->Qh, wpAny_holding->Qr, wpAny_field->Qv, Around->Qx, wpAny_truthy_bool->Qz, wpAny_standAt->QF, Heap->QG, Params->QN, foldedSetIterable->QQ, builtinsNs->QV, wpAny_call_entry->QW, Comprehension->Q5, ofString_length->Ra, starEach->Rf, wpAny_seqItems->Rj, sizeLine->Rl, wpAny_of_eq->Rq, wpAny_Constant_none->Rr, wpAny_callSpecial?_slot->Rs, wpAny_setField_rec->RB, relabel->RI, wpAny_execs_nil->RJ, importedModules->RK, wpAny_loadName_local->RQ, swapsWith->RT, NameKind->RV, wpAny_execs_cons->RX, bootBuiltins->R7, Stmt->R9, rawInt->Sg, codeAny->Sh, pushCells_keeps->Sj, standAt->Su, FuncData->Sx, wpAny_setField->Sy, wpAny_loadPart->Sz, newFunctionEnv->SA, treeTable->SD, compareOp->SE, valueAt->SO, isInstance->SY, cellsFrom->S8, backTo->Tn, World->TB, wpAny_rule->TC, assignEach->TD, intKind->TM, swappedStores->TN, Model->TX, Program->Ug, codeAny_mono->Uh, letOwnedTupleGo->Uj, arm_exec_Assign->Uk, strKind->Ul, wpAny_isTrue_Compare1->Um, wpAny_call->Ur, wpAny_updateSeq_pair->UE, stored->UG, IsPart->UH, recursionLimit->UJ, wpAny_alloc->UM, IsPair->U6, isSubtype->U7, wpAny_onRaise->Va, attributeBase->Vb, wpAny_Constant_int->Vc, cLine->Vo, spliced->Vp, holding->Vq, wpAny_Name->Vs, wpAny_pyIter_list->Vv, wpAny_newObj_type->Vx, slot_list_getitem->Vy, wpAny_askSetting->VU, noFill_tuple_add->VV, checkBuiltinCall->VW, intKind->VY, callWith->V3, Thread->V8, OsState->Wa, Builtin->Wb, wpAny_letGo->Wf, ret->Wg, codeAny_of_tree->Wh, wpAny_Compare1->Wt, wpAt_of_wpAny->WC, pyNext->WM, sysModules->WN, strKind_is->WO, intKind_is->WP, wpAny_getItem_list_slice->WR, IsZip->WY, swapsWithSole->W3, seq_tuple_add->W4, evalPart_none->W5, behindInMarks->W6, wpAny_pyNext_list_item->Xf, aRefKeyMayBeTheName_at->Xg, Scope->Xo, pyIter->Xp, assign->Xq, storeName->Xr, seqItems?->Xs, pushCells->Xu, noteFrame->Xv, concat_meets->Xy, wpAny_pyNext_list_end->XA, codeAny_call_function->XB, wpAt_bind->XC, codeAny_call_builtin->XJ, unpackItems->XT, sizeLine_eq->XU, bm_if_false->XW, wpAny_setItem_pairs->XX, clipAt->Yb, binaryOp->Yc, wpAny_pyIter_tuple->Ye, wpAny_Constant_str->Yg, field->Ys, typeLookup->Yt, newObjAsIs->Yv, loadGlobal->Yy, cameBackBy->Yz, wpAny_isNot_plain->YB, wpAny_assign_Name->YC, wpAny_Assign_Name->YD, slot_list_setitem->YE, slot_dict_getitem->YF, getMethod_builtin->YG, entry_list_append->YH
open List renaming prefix_refl->Pz, length_map->PE, getElem?_eq_getElem->PG, length_append->PH, getElem?_eq_some_iff->PL, length_cons->PN, map_cons->PP, range->PQ, mem_cons->PS, size_toArray->PU, mem_singleton->PZ, getElem?_append_right->P6, getD_eq_getElem?_getD->P7, append_nil->Qa, getElem?_append_left->Qc, map_append->Qd, take_of_length_le->Qe, zip_cons_cons->Qi, lookup_cons->Ql, replicate->Qn, pairwise_cons->Qo, mem_append->Qq, length_drop->Qw, all_eq_true->QD, mem_map->QE, nodup_cons->QH, getElem_mem->QI, isEmpty_iff->QR, take_add_one->QY, length->Q2, forIn_cons->Q3, find?_cons->Q4, length_take->Q9, getElem?_map->Rh, eq_nil_of_length_eq_zero->Ro, length_nil->Ru, mem_cons_of_mem->RF, forIn_nil->RL, map_congr_left->RM, length_reverse->RN, any_cons->RW, nil_append->RY, mem_cons_self->R0, lookup_append->R1, drop_of_length_le->Sb, not_lt->Sc, reverse_cons->Sd, nodup_append->Se, length_range->Sf, mem_range->Sk, mem_iff_getElem?->Sm, length_singleton->Sn, contains_iff_mem->So, mem_flatMap->Sr, mem_of_getElem?->Sw, mem_zipIdx_iff_getElem?->SB, contains_cons->SU, append_assoc->Td, getElem?_take_of_lt->Tf, pairwise_singleton->Tr, range_succ_eq_map->TA, take->TF, range_succ->TH, length_zip->TI, getElem?_eq_none->TJ, mem_append_left->TS, forall_mem_cons->TU, nodup_nil->TY, map_take->Uu, all_cons->Uv, findIdx?_eq_some_iff_getElem->UC, foldl_append->UK, flatten_cons->UL, map_nil->UO, take_length->U2, map_reverse->U3, cons_append->U4, any_eq_true->U5, length_set->Vk, nodup_iff_pairwise_ne->VD, drop_take->VJ, drop_drop->VK, drop_eq_getElem_cons->VQ, filter_eq_nil_iff->Wm, mem_append_right->Wq, mem_of_mem_take->WI, mem_of_mem_drop->WJ, drop_eq_nil_iff->WK, mem_map_of_mem->WT, getElem?_range->WU, append_toArray->WV, map->W1, getElem?_drop->Xc, pairwise_map->Xk, zipIdx_cons->XG, zipIdx_nil->XO, drop_zero->XZ, le_trans->Yk, map_map->YI, all_map->YJ
open PySem.Heap renaming get?_push_of_some->PA, get?_push_size->PM, get?_update_self->P5, lt_size->P9, size_push->Qb, SameBut->Qp, get?_update_other->Qt
open Nat renaming le_refl->PC, lt_of_lt_of_le->PI, le_trans->PO, mul_le_mul->Qk, add_mul->QT, div_div_eq_div_mul->Q6, lt_succ_self->Rb, lt_irrefl->Rn, zero_le->Rv, one_mul->Rx, mul_comm->Ry, pow_add->RO, le_succ->RP, sub_add_cancel->R3, pow_pos->Si, ne_of_gt->Sq, succ_le_succ->Sv, cast->SC, ne_of_lt->SZ, le_of_eq->S1, min_eq_right->Tx, le_add_right->Tz, zero_add->TO, le_of_lt->TP, min_eq_left->TR, pow_le_pow_right->T7, mul_le_mul_right->T8, mul_add->Ui, sub_self->UX, add_zero->UY, gcd->Vr, mul_pos->Vu, mul_add_div->Vz, mul_lt_mul_of_pos_right->VB, mul_lt_mul_of_pos_left->VP, not_lt->V4, zero_mul->Wu, succ_pos->Wv, pow_zero->Ww, pow_succ->Wx, le_total->Wy, sub_eq_zero_of_le->WF, lt_of_sub_eq_succ->WG, le_of_ble_eq_true->WH, mul_one->W8, eq_zero_or_pos->Xi, add_sub_cancel->Xj, mod_lt->Xz, le_of_lt_succ->XF, succ_ne_zero->XK, mod_eq_of_lt->XM, div_eq_of_lt->XN, mul_add_mod->XY
open PySem.Str renaming ofString->PD, ofString_eq_toList->QB
open Int renaming toNat_natCast->PF, natAbs_natCast->Qj, ofNat->QC, fmod->QK, fdiv->QL, eq_ofNat_of_zero_le->QX, sub_nonneg_of_le->Ri, le_of_lt->Rm, fdiv_eq_ediv_of_nonneg->RG, natCast_nonneg->R4, natAbs_mul->Sl, mul_one->SP, fmod_eq_emod_of_nonneg->SX, zero_mul->S2, ofNat_le->S3, add_zero->S5, not_le->Tj, mul_comm->TQ, toNat_of_nonneg->Uo, mul_assoc->UD, zero_add->UZ, sub_zero->U0, pow_zero->U1, mul_nonneg->V0, neg_nonneg_of_nonpos->V6, add_assoc->Wi, mul_zero->Wz, ediv_one->WA, mul_ediv_cancel'->WX, pow_add->Xa, mul_add->Xb, sub_add_cancel->Xl, ediv_nonneg->X0
open Option.some renaming inj->PX
open Bool renaming and_eq_true->PY, false_eq_true->P4, noConfusion->QS, or_eq_true->SJ, eq_iff_iff->SK, false_ne_true->SV, and_false->S7, not_eq_true'->Te, false_or->Tp, not_eq_false'->UB, false_and->VL, or_false->Ym, not_true->Yn, and_true->Yo, not_inj->YL
open Option renaming isSome_iff_exists->P2, isNone_iff_eq_none->QO, bind_some->Q7, bind_eq_some_iff->Rk, map_some->RS, none_or->Vj, map_eq_some_iff->V2, some_ne_none->Wp, toList_some->WD, isSome_none->WE, elim->Yi
open PySem.PyData renaming keyHash->Qf
open PySem.Value renaming none->Qg, ref->QJ, isStrOf->Rz, noConfusion->RA, isInt->SG, isStr->Tk, isStrOf_shape->TZ, str->U9, type->W7
open PySem.Builtin.SmallTypes renaming nextOf->Qm, ownedTupleIsFree->QP, ownedTupleHandOut->SQ
open PySem.Obj renaming mapFields->Qu, mapSeq->Q0, data_mapFields->Rt, putName->Vt, putNameByArray->Xh, cls_mapFields->XE, putName_eq->Yj
open PySem.Heap.SameBut renaming update->Qy
open PySem.NameKind renaming free->QA, cell->S6
open PySem.W renaming dictOf->QM, boot_heap->QZ, findIn->Rp, Frag->RH, instObj->R2, Looks->Sp, looks_mroIn->S9, SharedT->Tt, typeIs_bytes->TE, kia_one->Uf, boot_drawn->Ut, looks_clsIn->UN, boot_toks->U8, kitOne->VH, putName_dict->VI, keepIn->V7, absHeap->V9, look_both->Wc, emptyDict->Wd, putL->Xe, nsIn->Xn, typeIs_bytes->Xw, looks_findIn->Xx, ownOf->XD, mroIn->XR, takerIn->XS, any_some->Yd, onlyObject->Yu, namesBound->Yw, looks_nsIn->Yx
open ForInStep renaming yield->QU
open Classical renaming byContradiction->Q8, em->Uc
open PySem.Expr.Tuple renaming elim->Rc
open PySem.F renaming slot_tuple_iterator_next->Rd, slot_zip_next->Sa, args_tuple_add_2->SW, entry_tuple_add->Ta, slot_tuple_add->Tl, args_tuple_iterator_next_1->TW, entry_tuple_iterator_next->Ua, bm_called->Un, excBase_Exception->Ve, args_zip_next_1->VA, entry_zip_next->VO, slot_list_pop->V1, bm_plain->WS
open OfNat renaming ofNat->Re
open PyProof.Rows renaming subscriptTail->Rg, entry_list_sort->Ub, slot_list_sort->Ud, args_list_sort->Ue, sortedHeap->Us, Call_Name->We, IntsAre->WZ, tail_any->W0, seqObj->X9, Subscript_->YA
open Array renaming getElem?_eq_some_iff->RC, any_toList->Tq, getElem?_setIfInBounds_ne->UF, toList->Wk, getElem?_toList->Wn, toList_inj->Xm, size_push->XI
open PySem.Env renaming kindOf->RD, blockKind->Wj
open PySem.Builtin renaming bitNot->RE, bitAnd->Vd, bitOr->XH
open String renaming ofList->RR
open PySem.Challenge renaming rw_pq0813_01->RU, pw_pq0813_01->X8
open PySem.Expr.Name renaming elim->RZ
open Ne renaming symm->R5
open UInt8 renaming ofNat->SH
open PySem.Builtin.Range renaming rangeSize->SI, small->Vf, rangeFitsLong->YN
open PySem.W.Fast renaming te14364793385576792824->SL, te11892475500146522536->SM, te10156331382660048174->SN, te8920871248978507458->SR, te6613529449190102663->SS, te18344453789297297638->Vm, te17119622794617984870->Vn, te8326940854005059898->VF
open PySem.Builtin.BaseException renaming bexcPut->Tc
open PySem.Expr.Subscript renaming elim->Th
open PySem.Expr.Attribute renaming elim->Ti
open Nat.succ renaming inj->To
open PySem.Heap.IsSliceOf renaming new->Ts
open PySem.Data renaming noConfusion->Tu
open PySem.Expr.ListComp renaming elim->Tv
open PySem.Expr.Constant renaming elim->Tw
open False renaming elim->TG
open PySem.Expr.UnaryOp renaming elim->TK
open PySem.Expr.Compare renaming elim->TL
open PySem.W.FB renaming slot_bytes_getitem->TV
open PySem.Value.bytes renaming elim->T4
open PySem.Stmt.Return renaming elim->T5
open PySem.Stmt.Assign renaming elim->T6
open PySem.Expr.BoolOp renaming elim->T9
open PySem.DictEntry renaming refKey->Up
open PySem.Builtin.Str renaming strSliceIndices->Uq
open PySem.Stmt.While renaming elim->Uw
open PySem.Stmt.Raise renaming elim->Ux
open PySem.Expr.Slice renaming elim->Uy
open PySem.Expr.IfExp renaming elim->Uz
open PySem.Expr.BinOp renaming elim->UA
open Char renaming toNat->UI
open PySem.Value.ref renaming elim->UP
open PySem.Value.int renaming elim->UQ
open PySem.Stmt.Expr renaming elim->UR
open PySem.Expr.List renaming elim->US
open PySem.Expr.Dict renaming elim->UT
open PySem.Expr.Call renaming elim->UU
open PySem.Data.func renaming elim->UV
open PySem.Const.str renaming elim->UW
open PySem.Flow renaming next->Vg
open PySem.Stmt.Try renaming elim->Vh
open PySem.Stmt.For renaming elim->Vi
open PySem.Data.seq renaming elim->Vl
open List.Pairwise renaming nil->VE
open PySem.Builtin.Int renaming intBits->VG
open PySem.Bind renaming checkArgs->VM, madeBy->WQ, staticBase->XQ, madeHere->Yp
open PySem.EntryCells renaming newEntry->VS
open PySem.W.Looks renaming ld->VT, of_pure->VZ, here->W9
open PySem.Stmt.If renaming elim->VX
open PySem.ScopeKind renaming function->V5
open PySem.Code renaming builtin->Wo, quiet_builtin->Xd
open PySem.Txt renaming slice->Wr
open And renaming intro->Ws
open PySem.callAny renaming viaDunder->WB
open List.cons renaming injEq->WL
open List.Perm renaming cons->WW
open PySem.Heap.Ns renaming new->X5
open Exists renaming intro->X6
open PySem.Around renaming under->X7
open PySem.Shared renaming heap->Yh
open PySem.Expr renaming ListComp->Yl
open PySem.MeetsSeq renaming list_pop_at->Yq
open PySem.SeqAt renaming EqAt->Yr
open PySem.SeqAt.EqAt renaming of_refs->YK
open PySem.Value.builtin renaming elim->YM
namespace Mine
@[elab_as_elim]theorem aa{α:Sort u}{motive:α->Prop}{a b:α}(e:a=b)(h:motive b):motive a:=e▸h
@[elab_as_elim]theorem aE{α:Sort u}{motive:α->Prop}{a b:α}(e:a=b)(h:motive a):motive b:=e▸h
end Mine
namespace Mine
theorem ei{A B C:Prop}{P:Prop}(h:A/\B/\C)(k:A->B->C->P):P:=k h.1 h.2.1 h.2.2
theorem yK{A B C D:Prop}{P:Prop}(h:A/\B/\C/\D)(k:A->B->C->D->P):P:=k h.1 h.2.1 h.2.2.1 h.2.2.2
theorem ai{α:Sort _}{A B:α->Prop}{P:Prop}(h:∃x,A x/\B x)(k:∀x,A x->B x->P):P:=h.elim λ x h=>k x h.1 h.2
theorem bz{α:Sort _}{A B C:α->Prop}{P:Prop}(h:∃x,A x/\B x/\C x)(k:∀x,A x->B x->C x->P):P:=h.elim λ x h=>k x h.1 h.2.1 h.2.2
theorem jF{α:Sort _}{A B C D:α->Prop}{P:Prop}(h:∃x,A x/\B x/\C x/\D x)(k:∀x,A x->B x->C x->D x->P):P:=h.elim λ x h=>k x h.1 h.2.1 h.2.2.1 h.2.2.2
theorem ve{α:Sort _}{β:Sort _}{A B:α->β->Prop}{P:Prop}(h:∃x y,A x y/\B x y)(k:∀x y,A x y->B x y->P):P:=h.elim λ x h=>h.elim λ y h=>k x y h.1 h.2
theorem kO{α:Sort _}{β:Sort _}{A B C:α->β->Prop}{P:Prop}(h:∃x y,A x y/\B x y/\C x y)(k:∀x y,A x y->B x y->C x y->P):P:=h.elim λ x h=>h.elim λ y h=>k x y h.1 h.2.1 h.2.2
theorem oQ{α:Sort _}{β:Sort _}{A B C D:α->β->Prop}{P:Prop}(h:∃x y,A x y/\B x y/\C x y/\D x y)(k:∀x y,A x y->B x y->C x y->D x y->P):P:=h.elim λ x h=>h.elim λ y h=>k x y h.1 h.2.1 h.2.2.1 h.2.2.2
theorem B3{α:Sort _}{β:Sort _}{A B C D E:α->β->Prop}{P:Prop}(h:∃x y,A x y/\B x y/\C x y/\D x y/\E x y)(k:∀x y,A x y->B x y->C x y->D x y->E x y->P):P:=h.elim λ x h=>h.elim λ y h=>k x y h.1 h.2.1 h.2.2.1 h.2.2.2.1 h.2.2.2.2
theorem vd{α:Sort _}{β:Sort _}{A B C D E F G:α->β->Prop}{P:Prop}(h:∃x y,A x y/\B x y/\C x y/\D x y/\E x y/\F x y/\G x y)(k:∀x y,A x y->B x y->C x y->D x y->E x y->F x y->G x y->P):P:=h.elim λ x h=>h.elim λ y h=>k x y h.1 h.2.1 h.2.2.1 h.2.2.2.1 h.2.2.2.2.1 h.2.2.2.2.2.1 h.2.2.2.2.2.2
theorem yJ{α:Sort _}{β:Sort _}{γ:Sort _}{A B:α->β->γ->Prop}{P:Prop}(h:∃x y z,A x y z/\B x y z)(k:∀x y z,A x y z->B x y z->P):P:=h.elim λ x h=>h.elim λ y h=>h.elim λ z h=>k x y z h.1 h.2
theorem vc{α:Sort _}{β:Sort _}{γ:Sort _}{A B C:α->β->γ->Prop}{P:Prop}(h:∃x y z,A x y z/\B x y z/\C x y z)(k:∀x y z,A x y z->B x y z->C x y z->P):P:=h.elim λ x h=>h.elim λ y h=>h.elim λ z h=>k x y z h.1 h.2.1 h.2.2
theorem u9{α:Sort _}{β:Sort _}{γ:Sort _}{A B C D:α->β->γ->Prop}{P:Prop}(h:∃x y z,A x y z/\B x y z/\C x y z/\D x y z)(k:∀x y z,A x y z->B x y z->C x y z->D x y z->P):P:=h.elim λ x h=>h.elim λ y h=>h.elim λ z h=>k x y z h.1 h.2.1 h.2.2.1 h.2.2.2
theorem u8{α:Sort _}{β:Sort _}{γ:Sort _}{A B C D E F:α->β->γ->Prop}{P:Prop}(h:∃x y z,A x y z/\B x y z/\C x y z/\D x y z/\E x y z/\F x y z)(k:∀x y z,A x y z->B x y z->C x y z->D x y z->E x y z->F x y z->P):P:=h.elim λ x h=>h.elim λ y h=>h.elim λ z h=>k x y z h.1 h.2.1 h.2.2.1 h.2.2.2.1 h.2.2.2.2.1 h.2.2.2.2.2
theorem B2{α:Sort _}{β:Sort _}{γ:Sort _}{A B C D E F G:α->β->γ->Prop}{P:Prop}(h:∃x y z,A x y z/\B x y z/\C x y z/\D x y z/\E x y z/\F x y z/\G x y z)(k:∀x y z,A x y z->B x y z->C x y z->D x y z->E x y z->F x y z->G x y z->P):P:=h.elim λ x h=>h.elim λ y h=>h.elim λ z h=>k x y z h.1 h.2.1 h.2.2.1 h.2.2.2.1 h.2.2.2.2.1 h.2.2.2.2.2.1 h.2.2.2.2.2.2
theorem B1{α:Sort _}{β:Sort _}{γ:Sort _}{A B C D E F G H:α->β->γ->Prop}{P:Prop}(h:∃x y z,A x y z/\B x y z/\C x y z/\D x y z/\E x y z/\F x y z/\G x y z/\H x y z)(k:∀x y z,A x y z->B x y z->C x y z->D x y z->E x y z->F x y z->G x y z->H x y z->P):P:=h.elim λ x h=>h.elim λ y h=>h.elim λ z h=>k x y z h.1 h.2.1 h.2.2.1 h.2.2.2.1 h.2.2.2.2.1 h.2.2.2.2.2.1 h.2.2.2.2.2.2.1 h.2.2.2.2.2.2.2
theorem DV{α:Sort _}{β:Sort _}{γ:Sort _}{δ:Sort _}{A B:α->β->γ->δ->Prop}{P:Prop}(h:∃x y z u,A x y z u/\B x y z u)(k:∀x y z u,A x y z u->B x y z u->P):P:=h.elim λ x h=>h.elim λ y h=>h.elim λ z h=>h.elim λ u h=>k x y z u h.1 h.2
theorem DU{α:Sort _}{β:Sort _}{γ:Sort _}{δ:Sort _}{A B C:α->β->γ->δ->Prop}{P:Prop}(h:∃x y z u,A x y z u/\B x y z u/\C x y z u)(k:∀x y z u,A x y z u->B x y z u->C x y z u->P):P:=h.elim λ x h=>h.elim λ y h=>h.elim λ z h=>h.elim λ u h=>k x y z u h.1 h.2.1 h.2.2
theorem B0{α:Sort _}{β:Sort _}{γ:Sort _}{δ:Sort _}{A B C D:α->β->γ->δ->Prop}{P:Prop}(h:∃x y z u,A x y z u/\B x y z u/\C x y z u/\D x y z u)(k:∀x y z u,A x y z u->B x y z u->C x y z u->D x y z u->P):P:=h.elim λ x h=>h.elim λ y h=>h.elim λ z h=>h.elim λ u h=>k x y z u h.1 h.2.1 h.2.2.1 h.2.2.2
theorem DT{α:Sort _}{β:Sort _}{γ:Sort _}{δ:Sort _}{A B C D E:α->β->γ->δ->Prop}{P:Prop}(h:∃x y z u,A x y z u/\B x y z u/\C x y z u/\D x y z u/\E x y z u)(k:∀x y z u,A x y z u->B x y z u->C x y z u->D x y z u->E x y z u->P):P:=h.elim λ x h=>h.elim λ y h=>h.elim λ z h=>h.elim λ u h=>k x y z u h.1 h.2.1 h.2.2.1 h.2.2.2.1 h.2.2.2.2
theorem yI{α:Sort _}{β:Sort _}{γ:Sort _}{δ:Sort _}{A B C D E F:α->β->γ->δ->Prop}{P:Prop}(h:∃x y z u,A x y z u/\B x y z u/\C x y z u/\D x y z u/\E x y z u/\F x y z u)(k:∀x y z u,A x y z u->B x y z u->C x y z u->D x y z u->E x y z u->F x y z u->P):P:=h.elim λ x h=>h.elim λ y h=>h.elim λ z h=>h.elim λ u h=>k x y z u h.1 h.2.1 h.2.2.1 h.2.2.2.1 h.2.2.2.2.1 h.2.2.2.2.2
theorem DS{α:Sort _}{β:Sort _}{γ:Sort _}{δ:Sort _}{ε:Sort _}{A B:α->β->γ->δ->ε->Prop}{P:Prop}(h:∃x y z u v,A x y z u v/\B x y z u v)(k:∀x y z u v,A x y z u v->B x y z u v->P):P:=h.elim λ x h=>h.elim λ y h=>h.elim λ z h=>h.elim λ u h=>h.elim λ v h=>k x y z u v h.1 h.2
theorem cg(a0:A)(b0:B)(c0:C):A/\B/\C:=⟨a0,b0,c0⟩
theorem fj(a0:A)(b0:B)(c0:C)(d0:D):A/\B/\C/\D:=⟨a0,b0,c0,d0⟩
theorem aA{α:Sort _}{A B:α->Prop}(x:α)(a0:A x)(b0:B x):∃x,A x/\B x:=⟨x,a0,b0⟩
theorem gq{α:Sort _}{A B C:α->Prop}(x:α)(a0:A x)(b0:B x)(c0:C x):∃x,A x/\B x/\C x:=⟨x,a0,b0,c0⟩
theorem DN{α:Sort _}{A B C D:α->Prop}(x:α)(a0:A x)(b0:B x)(c0:C x)(d0:D x):∃x,A x/\B x/\C x/\D x:=⟨x,a0,b0,c0,d0⟩
theorem rn{α:Sort _}{β:Sort _}{A B C:α->β->Prop}(x:α)(y:β)(a0:A x y)(b0:B x y)(c0:C x y):∃x y,A x y/\B x y/\C x y:=⟨x,y,a0,b0,c0⟩
theorem yz{α:Sort _}{β:Sort _}{A B C D:α->β->Prop}(x:α)(y:β)(a0:A x y)(b0:B x y)(c0:C x y)(d0:D x y):∃x y,A x y/\B x y/\C x y/\D x y:=⟨x,y,a0,b0,c0,d0⟩
theorem BQ{α:Sort _}{β:Sort _}{γ:Sort _}{A B:α->β->γ->Prop}(x:α)(y:β)(z:γ)(a0:A x y z)(b0:B x y z):∃x y z,A x y z/\B x y z:=⟨x,y,z,a0,b0⟩
theorem DM{α:Sort _}{β:Sort _}{γ:Sort _}{A B C:α->β->γ->Prop}(x:α)(y:β)(z:γ)(a0:A x y z)(b0:B x y z)(c0:C x y z):∃x y z,A x y z/\B x y z/\C x y z:=⟨x,y,z,a0,b0,c0⟩
theorem BP{α:Sort _}{β:Sort _}{γ:Sort _}{A B C D E F:α->β->γ->Prop}(x:α)(y:β)(z:γ)(a0:A x y z)(b0:B x y z)(c0:C x y z)(d0:D x y z)(e0:E x y z)(f0:F x y z):∃x y z,A x y z/\B x y z/\C x y z/\D x y z/\E x y z/\F x y z:=⟨x,y,z,a0,b0,c0,d0,e0,f0⟩
theorem DL{α:Sort _}{β:Sort _}{γ:Sort _}{δ:Sort _}{ε:Sort _}{A B:α->β->γ->δ->ε->Prop}(x:α)(y:β)(z:γ)(u:δ)(v:ε)(a0:A x y z u v)(b0:B x y z u v):∃x y z u v,A x y z u v/\B x y z u v:=⟨x,y,z,u,v,a0,b0⟩
end Mine
section
set_option genInjectivity false
set_option genSizeOf false
namespace Mine
inductive T where
 |lf(k:Nat)|lit(k:Nat)|un(o k:Nat)(a:T)|nd(o:Nat)(a b:T)
abbrev Po:=List Int
abbrev Ca:=List (Po×List Po)
abbrev Dn:=List (List Po)
noncomputable def eg{α:Type}(l:List α)(d:α):Nat->α:=
 l.rec (λ zz=>d) λ x zz ih k=>k.rec x λ k zz=>ih k
noncomputable def tv(ns:List Nat)(is:List Int)(t:T):Nat×Int:=
 t.rec (λ k=>(eg ns 0 k,eg is 0 k)) (λ k=>(k,(k:Int)))
  (λ o k zz a=>(eg [k*a.1,a.1*k,a.2.toNat,a.2.natAbs] 0 o,eg [(k:Int)*a.2,a.2*(k:Int),-a.2,(a.1:Int)] 0 o))
  (λ o zz zz a b=>(eg [a.1+b.1,a.1-b.1,max a.1 b.1,min a.1 b.1] 0 o,eg [a.2+b.2,a.2-b.2,max a.2 b.2,min a.2 b.2] 0 o))
noncomputable def tp(ns:List Nat)(is:List Int)(t:T):Prop:=
 t.rec (λ zz=>True) (λ zz=>False) (λ zz zz zz zz=>True)
  λ o a b p q=>eg [(tv ns is a).1<=(tv ns is b).1,(tv ns is a).1<(tv ns is b).1,(tv ns is a).1=(tv ns is b).1,
   (tv ns is a).2<=(tv ns is b).2,(tv ns is a).2<(tv ns is b).2,(tv ns is a).2=(tv ns is b).2,p/\q,p∨q,p->q,p ↔ q] True o
noncomputable def pe(a:Po):Po->Po:=a.rec id λ x r ih b=>b.rec (x::r) λ y bs zz=>(x+y)::ih bs
noncomputable def fB(k:Int)(a:Po):Po:=a.map λ x=>k*x
noncomputable def cL(a b:Po):Po:=pe a (fB (-1) b)
noncomputable def oA(k:Nat):Po:=k.rec [1] λ zz r=>0::r
noncomputable def bi(f:Po->Po->Ca)(A B:Ca):Ca:=
 A.flatMap λ a=>B.flatMap λ b=>(f a.1 b.1).map λ c=>(c.1,c.2++(a.2++b.2))
noncomputable def pb(A B:Dn):Dn:=A.flatMap λ a=>B.map λ b=>a++b
noncomputable def z1:Ca:=[([],[])]
noncomputable def tl(t:T):Ca×Ca:=
 t.rec (λ k=>([(oA (2*k+1),[oA (2*k+1)])],[(oA (2*k+2),[])])) (λ k=>([([(k:Int)],[])],[([(k:Int)],[])]))
  (λ o k zz a=>
   (eg [bi (λ l zz=>[(fB k l,[])]) a.1 z1,bi (λ l zz=>[(fB k l,[])]) a.1 z1,bi (λ l zz=>[(l,[l]),([],[fB (-1) l])]) a.2 z1,bi (λ l zz=>[(l,[l]),(fB (-1) l,[fB (-1) l])]) a.2 z1] z1 o,
    eg [bi (λ l zz=>[(fB k l,[])]) a.2 z1,bi (λ l zz=>[(fB k l,[])]) a.2 z1,bi (λ l zz=>[(fB (-1) l,[])]) a.2 z1,a.1] z1 o))
  (λ o zz zz a b=>
   (eg [bi (λ l m=>[(pe l m,[])]) a.1 b.1,bi (λ l m=>[(cL l m,[cL l m]),([],[cL m l])]) a.1 b.1,bi (λ l m=>[(l,[cL l m]),(m,[cL m l])]) a.1 b.1,bi (λ l m=>[(m,[cL l m]),(l,[cL m l])]) a.1 b.1] z1 o,
    eg [bi (λ l m=>[(pe l m,[])]) a.2 b.2,bi (λ l m=>[(cL l m,[])]) a.2 b.2,bi (λ l m=>[(l,[cL l m]),(m,[cL m l])]) a.2 b.2,bi (λ l m=>[(m,[cL l m]),(l,[cL m l])]) a.2 b.2] z1 o))
noncomputable def cls(A:Ca):Dn:=A.map λ c=>c.1::c.2
noncomputable def t7(f:Po->Po->Ca)(A B:Ca):Dn:=cls (bi f A B)
noncomputable def tz(l m:Po):Po:=pe (cL l m) [-1]
noncomputable def BD(A B:Ca):Dn×Dn:=(t7 (λ l m=>[(cL m l,[])]) A B,t7 (λ l m=>[(tz l m,[])]) A B)
noncomputable def Bz(A B:Ca):Dn×Dn:=(t7 (λ l m=>[(tz m l,[])]) A B,t7 (λ l m=>[(cL l m,[])]) A B)
noncomputable def BY(A B:Ca):Dn×Dn:=(t7 (λ l m=>[(cL m l,[cL l m])]) A B,t7 (λ l m=>[(tz l m,[]),(tz m l,[])]) A B)
noncomputable def tn(t:T):Dn×Dn:=
 t.rec (λ zz=>([[]],[])) (λ zz=>([],[[]])) (λ zz zz zz zz=>([[]],[]))
  λ o a b p q=>eg [BD (tl a).1 (tl b).1,Bz (tl a).1 (tl b).1,BY (tl a).1 (tl b).1,BD (tl a).2 (tl b).2,Bz (tl a).2 (tl b).2,BY (tl a).2 (tl b).2,
   (pb p.1 q.1,p.2++q.2),(p.1++q.1,pb p.2 q.2),(p.2++q.1,pb p.1 q.2),(pb p.1 q.1++pb p.2 q.2,pb p.1 q.2++pb p.2 q.1)] ([[]],[]) o
noncomputable def cf(c:Po):Int:=eg c 0 1
noncomputable def dr(c:Po):Po:=c.rec [] λ k r zz=>k::r.tail
noncomputable def u7(cs:List Po):List Po:=cs.flatMap λ c=>
 (cf c).rec (λ n=>n.rec [dr c] λ n zz=>cs.flatMap λ d=>(cf d).rec (λ zz=>[]) λ m=>[dr (pe (fB (m+1:Nat) c) (fB (n+1:Nat) d))]) λ zz=>[]
noncomputable def uP(cs:List Po):Bool:=cs.any λ c=>c.rec false λ k r zz=>k.rec (λ zz=>false) λ zz=>r.all λ x=>x.rec (λ n=>n.rec true λ zz zz=>false) λ zz=>false
noncomputable def fm(f:Nat):List Po->Bool:=f.rec uP λ zz ih cs=>uP cs||ih (u7 cs)
noncomputable def DP(cs:List Po):Nat:=cs.foldr (λ c r=>max c.length r) 0
noncomputable def Dp(t:T):Bool:=(tn t).2.all λ c=>fm (DP c) c
noncomputable def ev(c:Po):(Nat->Int)->Int:=c.rec (λ zz=>0) λ a zz ih E=>a*E 0+ih λ k=>E (k+1)
noncomputable def en(ns:List Nat)(is:List Int)(k:Nat):Int:=k.rec 1 λ j zz=>if j % 2=0 then((eg ns 0 (j/2):Nat):Int) else eg is 0 (j/2)
theorem ji:∀(a b:Po) E,ev (pe a b) E=ev a E+ev b E
 |[],b,E=>(UZ _).symm
 |a::r,[],E=>(S5 _).symm
 |a::r,b::s,E=>by
  show(a+b)*E 0+ev (pe r s) _=(a*E 0+ev r _)+(b*E 0+ev s _)
  refine aa ((ji r s) _) ?_;refine aa (Int.add_mul _ _ _) ?_;refine aa (Wi _ _ _) ?_;refine aa ((Int.add_left_comm (b*E 0)) _ _) ?_;refine aE (Wi _ _ _) ?_;rfl
theorem gi(k:Int):∀(a:Po) E,ev (fB k a) E=k*ev a E
 |[],E=>(Wz k).symm
 |a::r,E=>by
  show(k*a)*E 0+ev (fB k r) _=k*(a*E 0+ev r _)
  refine aa ((gi k r) _) ?_;refine aa (Xb _ _ _) ?_;refine aa (UD _ _ _) ?_;rfl
theorem kL(a:Po)E:ev (fB (-1) a) E= -ev a E:=by refine aa (gi _ _ _) ?_;refine aa (Int.neg_one_mul _) ?_;rfl
theorem fp(a b:Po)E:ev (cL a b) E=ev a E-ev b E:=by
 unfold cL;refine aa (ji _ _ _) ?_;refine aa (kL _ _) ?_;rfl
theorem tX:∀k E,ev (oA k) E=E k:=by
 intro k
 induction k with
 |zero=>
  intro E
  show 1*E 0+0=_;refine aa (Int.one_mul _) ?_;refine aa (S5 _) ?_;rfl
 |succ k ih=>
  intro E
  show 0*E 0+ev (oA k) _=_;refine aa (ih _) ?_;refine aa (S2 _) ?_;refine aa (UZ _) ?_;rfl
theorem zy(E:Nat->Int):∀c:Po,ev (dr c) (λ k=>k.rec (E 0) λ j zz=>E (j+2))=ev c E-cf c*E 1
 |[]=>by show(0:Int)=0-0*E 1;refine aa (S2 _) ?_;rfl
 |[k]=>by show k*E 0+0=k*E 0+0-0*E 1;refine aa (S2 _) ?_;refine aa (U0 _) ?_;rfl
 |k::a::r=>by show k*E 0+ev r (λ j=>E (j+2))=k*E 0+(a*E 1+ev r (λ j=>E (j+2)))-a*E 1;refine aa ((Int.add_comm (a*E 1)) _) ?_;refine aE (Wi _ _ _) ?_;refine aa (Int.add_sub_cancel _ _) ?_;rfl
def Al(E:Nat->Int)(c:List Po):Prop:=∀p∈c,0<=ev p E
theorem se{E}:Al E []:=λ zz h=>nomatch h
theorem ub{E p c}(h:0<=ev p E)(k:Al E c):Al E (p::c):=λ q hq=>(PS.mp hq).elim (λ e=>e▸h) (k q)
theorem sf{E}(h:Al E a)(k:Al E b):Al E (a++b):=λ q hq=>(Qq.mp hq).elim (h q) (k q)
inductive An(E:Nat->Int)(A:Ca)(x:Int):Prop
 |mk (c:Po×List Po) (h:c∈A) (e:ev c.1 E=x) (k:Al E c.2)
theorem An.one{E p x B}(e:ev p E=x):An E ((p,[])::B) x:=⟨_,R0,e,se⟩
theorem An.fst{E p q x B}(e:ev p E=x)(h:0<=ev q E):An E ((p,[q])::B) x:=⟨_,R0,e,ub h se⟩
theorem An.snd{E B a x}:An E B x->An E (a::B) x:=λ⟨c,h,e,k⟩=>⟨c,RF _ h,e,k⟩
theorem An.bi{E A B x y z f}:An E A x->An E B y->(∀l m,ev l E=x->ev m E=y->An E (f l m) z)->An E (Mine.bi f A B) z
 |⟨a,ha,ea,ka⟩,⟨b,hb,eb,kb⟩,hf=>
  let⟨c,hc,ec,kc⟩:=hf _ _ ea eb
  ⟨(c.1,c.2++(a.2++b.2)),Sr.mpr ⟨a,ha,Sr.mpr ⟨b,hb,QE.mpr ⟨c,hc,rfl⟩⟩⟩,ec,sf kc (sf ka kb)⟩
theorem r0{E}:An E z1 0:=.one rfl
theorem An.un{E A x z}{f:Po->Ca}(h:An E A x)(hf:∀l,ev l E=x->An E (f l) z):An E (Mine.bi (λ l zz=>f l) A z1) z:=h.bi r0 λ l zz e zz=>hf l e
def Ex(E:Nat->Int)(D:Dn):Prop:=∃c∈D,Al E c
theorem An.ex{E A x}(h:0<=x):An E A x->Ex E (cls A)
 |⟨c,hc,e,k⟩=>⟨c.1::c.2,QE.mpr ⟨c,hc,rfl⟩,ub (e▸h) k⟩
theorem ia{E A B}:Ex E A->Ex E B->Ex E (pb A B)
 |⟨a,ha,ka⟩,⟨b,hb,kb⟩=>⟨a++b,Sr.mpr ⟨a,ha,QE.mpr ⟨b,hb,rfl⟩⟩,sf ka kb⟩
theorem rE{E A B}:Ex E A->Ex E (A++B)|⟨a,ha,ka⟩=>⟨a,TS _ ha,ka⟩
theorem rD{E A B}:Ex E B->Ex E (A++B)|⟨a,ha,ka⟩=>⟨a,Wq _ ha,ka⟩
theorem u6{E}:Ex E [[]]:=⟨[],PZ.mpr rfl,se⟩
section
variable(ns:List Nat)(is:List Int)
theorem DQ(k:Nat):en ns is (2*k+1)=((eg ns 0 k:Nat):Int):=by
 show(if(2*k) % 2=0 then((eg ns 0 (2*k/2):Nat):Int) else eg is 0 (2*k/2))=_
 refine aa (if_pos (Nat.mul_mod_right 2 k)) ?_;refine aa (Nat.mul_div_cancel_left k Nat.two_pos) ?_;rfl
theorem DR(k:Nat):en ns is (2*k+2)=eg is 0 k:=by
 show(if(2*k+1) % 2=0 then((eg ns 0 ((2*k+1)/2):Nat):Int) else eg is 0 ((2*k+1)/2))=_
 refine aa (XY 2 k 1) ?_;refine aa (Vz Nat.two_pos k 1) ?_;rfl
theorem yG(k:Int):ev [k] (en ns is)=k:=by show k*1+0=k;refine aa (SP _) ?_;refine aa (S5 _) ?_;rfl
theorem An.to{E A x y}(h:An E A x)(e:y=x):An E A y:=e▸h
section
variable{E:Nat->Int}{A B:Ca}{x y:Int}(h:An E A x)(g:An E B y)
include h
theorem An.nn:An E (Mine.bi (λ l zz=>[(l,[l]),([],[fB (-1) l])]) A z1) (if 0<=x then x else 0):=by
 refine h.un λ l e=> ?_
 split
 ·exact .fst e (e▸‹0<=x›)
 ·exact .snd (.fst rfl (by refine aa (kL _ _) ?_;refine aa e ?_;exact V6 (Rm (Tj.mp ‹_›))))
theorem An.ab:An E (Mine.bi (λ l zz=>[(l,[l]),(fB (-1) l,[fB (-1) l])]) A z1) (if 0<=x then x else-x):=by
 refine h.un λ l e=> ?_
 split
 ·exact .fst e (e▸‹0<=x›)
 ·exact .snd (.fst (by refine aa (kL _ _) ?_;refine aa e ?_;rfl) (by refine aa (kL _ _) ?_;refine aa e ?_;exact V6 (Rm (Tj.mp ‹_›))))
include g
theorem An.sel{p q:Po->Po->Po}{z t:Int}(hp:∀l m,ev l E=x->ev m E=y->ev (p l m) E=z)(hq:∀l m,ev l E=x->ev m E=y->ev (q l m) E=t):
  An E (Mine.bi (λ l m=>[(p l m,[cL l m]),(q l m,[cL m l])]) A B) (if y<=x then z else t):=by
 refine h.bi g λ l m e e'=> ?_
 split
 ·exact .fst (hp l m e e') (by refine aa (fp _ _ _) ?_;refine aa e ?_;refine aa e' ?_;exact Ri ‹_›)
 ·exact .snd (.fst (hq l m e e') (by refine aa (fp _ _ _) ?_;refine aa e ?_;refine aa e' ?_;exact Ri (Rm (Tj.mp ‹_›))))
theorem An.sb:An E (Mine.bi (λ l m=>[(cL l m,[cL l m]),([],[cL m l])]) A B) (if y<=x then x-y else 0):=h.sel (q:=λ zz zz=>[]) g (λ l m e e'=>by refine aa (fp _ _ _) ?_;refine aa e ?_;refine aa e' ?_;rfl) λ zz zz zz zz=>rfl
theorem An.mx:An E (Mine.bi (λ l m=>[(l,[cL l m]),(m,[cL m l])]) A B) (if y<=x then x else y):=h.sel (p:=λ l zz=>l) (q:=λ zz m=>m) g (λ zz zz e zz=>e) λ zz zz zz e=>e
theorem An.mn:An E (Mine.bi (λ l m=>[(m,[cL l m]),(l,[cL m l])]) A B) (if y<=x then y else x):=h.sel (p:=λ zz m=>m) (q:=λ l zz=>l) g (λ zz zz zz e=>e) λ zz zz e zz=>e
end
theorem yk{a b:Nat}(h:¬(b:Int)<=a):a<=b:=Nat.le_of_not_le λ k=>h (S3.mpr k)
theorem C9(a b:Nat):((a-b:Nat):Int)=if(b:Int)<=a then(a:Int)-b else 0:=by
 split
 ·exact Int.ofNat_sub (S3.mp ‹_›)
 ·refine aa (WF (yk ‹_›)) ?_;rfl
theorem Db(a b:Nat):((max a b:Nat):Int)=if(b:Int)<=a then(a:Int) else b:=by
 split
 ·refine aa (Nat.max_eq_left (S3.mp ‹_›)) ?_;rfl
 ·refine aa (Nat.max_eq_right (yk ‹_›)) ?_;rfl
theorem Da(a b:Nat):((min a b:Nat):Int)=if(b:Int)<=a then(b:Int) else a:=by
 split
 ·refine aa (Tx (S3.mp ‹_›)) ?_;rfl
 ·refine aa (TR (yk ‹_›)) ?_;rfl
theorem C3(a b:Int):max a b=if b<=a then a else b:=by
 split
 ·exact Int.max_eq_left ‹_›
 ·exact Int.max_eq_right (Rm (Tj.mp ‹_›))
theorem C2(a b:Int):min a b=if b<=a then b else a:=by
 split
 ·exact Int.min_eq_right ‹_›
 ·exact Int.min_eq_left (Rm (Tj.mp ‹_›))
theorem DW:∀x:Int,((x.toNat:Nat):Int)=if 0<=x then x else 0|.ofNat _=>rfl|.negSucc _=>rfl
theorem DX:∀x:Int,((x.natAbs:Nat):Int)=if 0<=x then x else-x|.ofNat _=>rfl|.negSucc _=>rfl
theorem mG:∀t,An (en ns is) (tl t).1 (tv ns is t).1/\An (en ns is) (tl t).2 (tv ns is t).2
 |.lf k=>by
  have e:ev (oA (2*k+1)) (en ns is)=((eg ns 0 k:Nat):Int):=(tX _ _).trans (DQ ns is k)
  exact⟨.fst e (e▸R4 _),.one ((tX _ _).trans (DR ns is k))⟩
 |.lit k=>⟨.one (yG ns is k),.one (yG ns is k)⟩
 |.un o k a=>by
  have⟨h,g⟩:=mG a
  match o with
  |0=>exact⟨h.un λ l e=>.one (by refine aa (gi _ _ _) ?_;refine aa e ?_;rfl),g.un λ l e=>.one (by refine aa (gi _ _ _) ?_;refine aa e ?_;rfl)⟩
  |1=>exact⟨h.un λ l e=>.one (by refine aa (gi _ _ _) ?_;refine aa e ?_;refine aa (TQ _ _) ?_;rfl),g.un λ l e=>.one (by refine aa (gi _ _ _) ?_;refine aa e ?_;refine aa (TQ _ _) ?_;rfl)⟩
  |2=>exact⟨g.nn.to (DW _),g.un λ l e=>.one (by refine aa (kL _ _) ?_;refine aa e ?_;rfl)⟩
  |3=>exact⟨g.ab.to (DX _),h⟩
  |_+4=>exact⟨r0,r0⟩
 |.nd o a b=>by
  have⟨h,g⟩:=mG a
  have⟨h',g'⟩:=mG b
  match o with
  |0=>exact⟨h.bi h' λ l m e e'=>.one (by refine aa (ji _ _ _) ?_;refine aa e ?_;refine aa e' ?_;rfl),g.bi g' λ l m e e'=>.one (by refine aa (ji _ _ _) ?_;refine aa e ?_;refine aa e' ?_;rfl)⟩
  |1=>exact⟨(h.sb h').to (C9 _ _),g.bi g' λ l m e e'=>.one (by refine aa (fp _ _ _) ?_;refine aa e ?_;refine aa e' ?_;rfl)⟩
  |2=>exact⟨(h.mx h').to (Db _ _),(g.mx g').to (C3 _ _)⟩
  |3=>exact⟨(h.mn h').to (Da _ _),(g.mn g').to (C2 _ _)⟩
  |_+4=>exact⟨r0,r0⟩
end
section
variable{ns:List Nat}{is:List Int}
theorem nI(a b:Po):ev (tz a b) (en ns is)=ev a (en ns is)-ev b (en ns is)-1:=by unfold tz;refine aa (ji _ _ _) ?_;refine aa (fp _ _ _) ?_;refine aa (yG _ _ _) ?_;rfl
def Bo(E:Nat->Int)(p:Prop)(D:Dn×Dn):Prop:=(p->Ex E D.1)/\(¬p->Ex E D.2)
theorem zl{x y:Int}(h:x<y):0<=y-x-1:=by omega
theorem zo{A B x y}(h:An (en ns is) A x)(g:An (en ns is) B y):Bo (en ns is) (x<=y) (BD A B):=
 ⟨λ k=>An.ex (Ri k) (h.bi g λ l m e e'=>.one (by refine aa (fp _ _ _) ?_;refine aa e ?_;refine aa e' ?_;rfl)),λ k=>An.ex (zl (Tj.mp k)) (h.bi g λ l m e e'=>.one (by refine aa (nI _ _) ?_;refine aa e ?_;refine aa e' ?_;rfl))⟩
theorem zm{A B x y}(h:An (en ns is) A x)(g:An (en ns is) B y):Bo (en ns is) (x<y) (Bz A B):=
 ⟨λ k=>An.ex (zl k) (h.bi g λ l m e e'=>.one (by refine aa (nI _ _) ?_;refine aa e ?_;refine aa e' ?_;rfl)),λ k=>An.ex (Ri (Int.not_lt.mp k)) (h.bi g λ l m e e'=>.one (by refine aa (fp _ _ _) ?_;refine aa e ?_;refine aa e' ?_;rfl))⟩
theorem zF{A B x y}(h:An (en ns is) A x)(g:An (en ns is) B y):Bo (en ns is) (x=y) (BY A B):=by
 refine⟨λ k=>An.ex (Ri (Int.le_of_eq k)) (h.bi g λ l m e e'=>.fst (by refine aa (fp _ _ _) ?_;refine aa e ?_;refine aa e' ?_;rfl) (by refine aa (fp _ _ _) ?_;refine aa e ?_;refine aa e' ?_;exact Ri (Int.le_of_eq k.symm))),λ k=> ?_⟩
 by_cases hh:x<=y
 ·exact An.ex (zl (Int.lt_iff_le_and_ne.mpr ⟨hh,k⟩)) (h.bi g λ l m e e'=>.snd (.one (by refine aa (nI _ _) ?_;refine aa e ?_;refine aa e' ?_;rfl)))
 ·exact An.ex (zl (Tj.mp hh)) (h.bi g λ l m e e'=>.one (by refine aa (nI _ _) ?_;refine aa e ?_;refine aa e' ?_;rfl))
theorem Bo.of{E p q D}(h:Bo E q D)(k:p ↔ q):Bo E p D:=⟨λ a=>h.1 (k.mp a),λ a=>h.2 λ b=>a (k.mpr b)⟩
theorem uj:∀t,Bo (en ns is) (tp ns is t) (tn t)
 |.lf k=>⟨λ zz=>u6,λ h=>(h trivial).elim⟩
 |.lit k=>⟨λ h=>h.elim,λ zz=>u6⟩
 |.un o k a=>⟨λ zz=>u6,λ h=>(h trivial).elim⟩
 |.nd o a b=>by
  have⟨h,g⟩:=mG ns is a
  have⟨h',g'⟩:=mG ns is b
  have⟨p1,p2⟩:=uj a
  have⟨q1,q2⟩:=uj b
  match o with
  |0=>exact(zo h h').of S3.symm
  |1=>exact(zm h h').of Int.ofNat_lt.symm
  |2=>exact(zF h h').of Int.ofNat_inj.symm
  |3=>exact zo g g'
  |4=>exact zm g g'
  |5=>exact zF g g'
  |6=>exact⟨λ k=>ia (p1 k.1) (q1 k.2),λ k=>(Uc (tp ns is a)).elim (λ x=>rD (q2 λ y=>k ⟨x,y⟩)) λ x=>rE (p2 x)⟩
  |7=>exact⟨λ k=>k.elim (λ x=>rE (p1 x)) λ x=>rD (q1 x),λ k=>ia (p2 λ x=>k (.inl x)) (q2 λ x=>k (.inr x))⟩
  |8=>exact⟨λ k=>(Uc (tp ns is a)).elim (λ x=>rD (q1 (k x))) λ x=>rE (p2 x),λ k=>ia (p1 (Q8 λ x=>k λ y=>(x y).elim)) (q2 λ x=>k λ zz=>x)⟩
  |9=>
   refine⟨λ k=>(Uc (tp ns is a)).elim (λ x=>rE (ia (p1 x) (q1 (k.mp x)))) λ x=>rD (ia (p2 x) (q2 λ y=>x (k.mpr y))),λ k=> ?_⟩
   exact(Uc (tp ns is a)).elim (λ x=>rE (ia (p1 x) (q2 λ y=>k ⟨λ zz=>y,λ zz=>x⟩))) λ x=>rD (ia (p2 x) (q1 (Q8 λ y=>k ⟨λ z=>(x z).elim,λ z=>(y z).elim⟩)))
  |_+10=>exact⟨λ zz=>u6,λ h=>(h trivial).elim⟩
end
theorem sP{p q x y:Int}(hp:0<=p)(hq:0<=q)(ex:x=(n+1:Nat))(ey:y= -((m+1:Nat):Int))(t:Int):
  0<=(m+1:Nat)*p+(n+1:Nat)*q-((m+1:Nat)*x+(n+1:Nat)*y)*t:=by
 refine aa ex ?_;refine aa ey ?_;refine aa (Int.mul_neg _ _) ?_;refine aa (TQ ((m+1:Nat):Int) ((n+1:Nat):Int)) ?_;refine aa (Int.add_right_neg _) ?_;refine aa (S2 _) ?_;refine aa (U0 _) ?_
 exact Int.add_nonneg (V0 (R4 (m+1)) hp) (V0 (R4 (n+1)) hq)
theorem Cb:∀a b:Po,cf (pe a b)=cf a+cf b
 |[],b=>(UZ _).symm
 |[x],[]=>rfl
 |x::y::r,[]=>(S5 _).symm
 |[x],[y]=>rfl
 |[x],y::z::s=>(UZ _).symm
 |x::z::r,[y]=>(S5 _).symm
 |x::z::r,y::w::s=>rfl
theorem xg(k:Int):∀a:Po,cf (fB k a)=k*cf a
 |[]=>(Wz k).symm
 |[x]=>(Wz k).symm
 |x::y::r=>rfl
theorem AT{E:Nat->Int}(h:Al E cs):Al (λ k=>k.rec (E 0) λ j zz=>E (j+2)) (u7 cs):=by
 intro p hp
 refine ai (Sr.mp hp) λ c hc hp=> ?_
 have h1:=h c hc
 match ek:cf c with
 |.ofNat 0=>
  rw[ek] at hp
  refine aa (PZ.mp hp) ?_;refine aa (zy _ _) ?_;refine aa ek ?_;refine aa (show QC 0=0 from rfl) ?_;refine aa (S2 _) ?_;refine aa (U0 _) ?_;exact h1
 |.ofNat (n+1)=>
  rw[ek] at hp
  refine ai (Sr.mp hp) λ d hd hp=> ?_
  have h2:=h d hd
  match em:cf d with
  |.ofNat m=>rw[em] at hp;exact nomatch hp
  |.negSucc m=>
   rw[em] at hp
   refine aa (PZ.mp hp) ?_;refine aa (zy _ _) ?_;refine aa (ji _ _ _) ?_;refine aa (gi _ _ _) ?_;refine aa (gi _ _ _) ?_;refine aa (Cb _ _) ?_;refine aa (xg _ _) ?_;refine aa (xg _ _) ?_
   exact sP h1 h2 ek em _
 |.negSucc n=>rw[ek] at hp;exact nomatch hp
theorem tW{E:Nat->Int}:∀r:Po,(r.all λ x=>x.rec (λ n=>n.rec true λ zz zz=>false) λ zz=>false)=true->ev r E=0
 |[],_=>rfl
 |.ofNat 0::r,h=>by show 0*E 0+ev r _=0;refine aa (tW r h) ?_;refine aa (S2 _) ?_;rfl
 |.ofNat (_+1)::_,h=>nomatch h
 |.negSucc _::_,h=>nomatch h
theorem tG{E:Nat->Int}(h0:E 0=1)(h:Al E cs):uP cs=false:=by
 refine Bool.eq_false_iff.mpr λ k=> ?_
 refine ai (U5.mp k) λ c hc k=> ?_
 have h1:=h c hc
 match c,k with
 |.negSucc n::r,k=>
  have h1:0<=Int.negSucc n*E 0+ev r _:=h1
  rw[tW r k,h0,SP,S5] at h1
  exact nomatch h1
theorem zx:∀f {E:Nat->Int} {cs:List Po},E 0=1->Al E cs->fm f cs=false
 |0,_,_,h0,h=>tG h0 h
 |f+1,E,_,h0,h=>by
  show(uP _||fm f (u7 _))=false
  refine aa (tG h0 h) ?_;refine aa (Tp _) ?_
  exact zx f (E:=λ k=>k.rec (E 0) λ j zz=>E (j+2)) h0 (AT h)
theorem B9(h:Dp t=true)(ns:List Nat)(is:List Int):tp ns is t:=Q8 λ k=>by
 refine ai ((uj (ns:=ns) (is:=is) t).2 k) λ c hc hk=> ?_
 have:=QD.mp h c hc
 rw[zx _ rfl hk] at this
 exact nomatch this
noncomputable def y0{α:Type}(n:Nat):(List α->Prop)->Prop:=n.rec (λ P=>P []) λ zz ih P=>∀x:α,ih λ l=>P (x::l)
theorem Cg{α:Type}:∀n {P:List α->Prop},(∀l,P l)->y0 n P:=by
 intro n
 induction n with
 |zero=>
  intro y1 h
  exact h []
 |succ n ih=>
  intro y2 h
  exact λ x=>ih λ l=>h (x::l)
noncomputable def lt?(a b:Nat):Bool:=Nat.ble (a+1) b
noncomputable def Ee(f:Nat):Nat->List T->T:=
 f.rec (λ zz zz=>.lf 0) λ zz ih n st=>
  (Nat.beq n 0).rec
   ((λ t k=>(lt? t 11).rec
    ((lt? t 15).rec
     ((lt? t 17).rec
      ((lt? t 32).rec
       ((lt? t 63).rec (ih (k/32768/2^(k % 64)) (.lit (k/32768 % 2^(k % 64)*2^(k/64 % 512))::st)) (ih k (.lit (t-32)::st)))
       (ih k (.lf (t-17)::st)))
      (st.rec (.lf 0) λ a st zz=>a.rec (λ zz=>.lf 0) (λ m=>st.rec (.lf 0) λ b st zz=>ih k (.un (t-15) m b::st)) (λ zz zz zz zz=>.lf 0) λ zz zz zz zz zz=>.lf 0))
     (st.rec (.lf 0) λ a st zz=>ih k (.un (t-11) 0 a::st)))
    (st.rec (.lf 0) λ b st zz=>st.rec (.lf 0) λ a st zz=>ih k (.nd (t-1) a b::st))) (n % 64) (n/64))
   (st.rec (.lf 0) λ a zz zz=>a)
noncomputable def dec(n:Nat):T:=Ee 300 n []
theorem ae(N:Nat)(h:true=Dp (dec (N/256))):y0 (α:=Nat) (N % 16) λ ns=>y0 (α:=Int) (N/16 % 16) λ is=>tp ns is (dec (N/256)):=Cg _ λ ns=>Cg _ λ is=>B9 h.symm ns is
theorem lO(a k:Nat):(k+1)*(a/(k+1))<=a/\a<=(k+1)*(a/(k+1))+k:=
 ⟨Nat.mul_div_le a (k+1),XF (Nat.lt_mul_div_succ a (Wv k))⟩
theorem Bv(a k:Nat):(k+1)*(a/(k+1))+a % (k+1)=a/\a % (k+1)<=k:=⟨Nat.div_add_mod a (k+1),XF (Xz a (Wv k))⟩
end Mine
end
section
open PySem PySem.W PySem.Calls PyProof.Rows
namespace Mine
noncomputable section
abbrev P0:Ug:=X8
noncomputable def iY(ok:V8->Bool)(st:Tt->V8->Option (Tt×V8)):Nat->Tt->V8->Option Tt
 |0,_,_=>none
 |n+1,s,t=>match through t with
  |true=>some s
  |false=>match ok t with
   |false=>none
   |true=>match st s t with
    |some (s',t')=>iY ok st n s' t'
    |none=>none
theorem vJ{ok:V8->Bool}{st:Tt->V8->Option (Tt×V8)}{n:Nat}{s:Tt}{t:V8}:iY ok st (n+1) s t=(match through t with
  |true=>some s
  |false=>match ok t with
   |false=>none
   |true=>match st s t with
    |some (s',t')=>iY ok st n s' t'
    |none=>none):=rfl
theorem ui:∀(n:Nat) (s:Tt) (t:V8) (r:Tt),
  iY (stepOk n₀ ann) (stepT (denote SD) p w) n s t=some r->topRun SD p w n₀ ann n s.abs t=some r.abs:=by
 intro n
 induction n with
 |zero=>
  intro y1 y2 y3 h
  cases h
 |succ n ih=>
  intro s t r h
  rw[vJ] at h
  unfold topRun
  cases ht:through t with
  |true=>rw[ht] at h;cases h;rfl
  |false=>
   rw[ht] at h
   cases hk:stepOk n₀ ann t with
   |false=>rw[hk] at h;cases h
   |true=>
    rw[hk] at h
    cases hs:stepT (denote SD) p w s t with
    |none=>rw[hs] at h;cases h
    |some x=>
     obtain⟨s',t'⟩:=x
     rw[hs] at h
     dsimp only
     refine aa (stepT_spec hs) ?_
     exact ih s' t' r h
noncomputable def iX:List Obj->Nat->BT->BT
 |[],_,t=>t
 |o::r,n,t=>iX r (n+1) (t.ins n o)
theorem vH:∀(l:List Obj) (n:Nat) (t:BT),(∀k,k<l.length->((iX (l.take (k+1)) n t).get (n+k)).isSome=true)->
  V9 (iX l n t) (n+l.length) life=⟨(V9 t n life).objs++l.toArray,life⟩:=by
 intro l
 induction l with
 |nil=>
  intro n t y1
  show V9 t n life=_
  simp[V9]
 |cons o r ih=>
  intro n t h
  have h0:((t.ins n o).get n).isSome=true:=h 0 (Wv _)
  show V9 (iX r (n+1) (t.ins n o)) (n+(r.length+1)) life=_
  refine aa (show n+(r.length+1)=n+1+r.length by exact ae 0x305206144106149102 rfl n r.length) ?_;refine aa (ih (n+1) (t.ins n o) λ k hk=>by
   have:=h (k+1) (Nat.succ_lt_succ hk)
   refine aa (show n+1+k=n+(k+1) by exact ae 0x304185244148185102 rfl n k) ?_
   exact this) ?_;refine aa (absHeap_ins h0) ?_
  show Heap.mk _ _=Heap.mk _ _
  congr 1
  show((V9 t n life).objs.push o)++r.toArray=_
  simp
noncomputable def oU(w:TB):Option PJ:=(QZ w.params).nsMap P1 "__annotations__"
noncomputable def S0(w:TB)(os:Wa):Tt:=⟨iX (QZ w.params).objs.toList 0 .nil,11,(QZ w.params).life,#[],Ut,U8,os⟩
noncomputable def lZ(w:TB)(os:Wa):Option Tt:=iY (stepOk 11 (oU w)) (stepT (denote SD) P0 w) 6300 (S0 w os) (topStub P0)
theorem xj(P:QN):V9 (iX (QZ P).objs.toList 0 .nil) 11 (QZ P).life=QZ P:=by
 have:=vH (life:=(QZ P).life) (QZ P).objs.toList 0 .nil (λ k hk=>by
  have FR:k<11:=hk
  match k,FR with
  |0,_=>rfl
  |1,_=>rfl
  |2,_=>rfl
  |3,_=>rfl
  |4,_=>rfl
  |5,_=>rfl
  |6,_=>rfl
  |7,_=>rfl
  |8,_=>rfl
  |9,_=>rfl
  |10,_=>rfl)
 exact this
theorem Cn(w:TB)(os:Wa):(S0 w os).abs=⟨QZ w.params,#[],Ut,U8,os⟩:=
 congrArg (λ h=>Shared.mk h #[] Ut U8 os) (xj w.params)
theorem Df:∀w:TB,(fencedOpening SD P0 w 6300).map (λ s=>(s.heap,s.gens,s.drawn,s.toks))=some (QZ w.params,Array.mk [],Ut,U8):=
 boot_open (p:=P0) (N:=6300) (by kernel_rfl) (by decide) (λ s=>by kernel_rfl)
end
end Mine
end
section
set_option genInjectivity false
set_option genSizeOf false
namespace Mine
open PySem
inductive V where
 |none|bool(b:Bool)|int(i:Int)|str(s:String)|bytes(b:List UInt8)
 |tup(vs:List V)|list(vs:List V)|dict(ks:List String)(vs:List V)|inst(c:Nat)(vs:List V)
 |ref(i:Nat)|fn(f:Nat)
inductive O where
 |list(vs:List V)|Er(ks:List String)(vs:List V)|EE(ks:List Int)(vs:List V)|inst(c:Nat)(vs:List V)
structure AH where
 m:Nat->Option O
 next:Nat
noncomputable def AH.set(M:AH)(i:Nat)(o:O):AH:=⟨λ j=>if j=i then some o else M.m j,M.next⟩
noncomputable def AH.kill(M:AH)(i:Nat):AH:=⟨λ j=>if j=i then none else M.m j,M.next⟩
noncomputable def AH.new(M:AH)(o:O):AH:=⟨λ j=>if j=M.next then some o else M.m j,M.next+1⟩
inductive xx where|add|sub|mul|div|mod|pow|shl|shr|band|bor
deriving DecidableEq
inductive xw where|eq|ne|lt|le|gt|ge|isin|notin
deriving DecidableEq
inductive Ty where|cls(c:Nat)|tbool|tint|tlist|tdict
inductive jn where|one(i:Nat)|many(is:List Nat)
deriving DecidableEq
mutual
inductive E where
 |var(i:Nat)|lit(v:V)|glob(g:Nat)|I9(f:Nat)
 |tup(es:Es)|lst(mu:Bool)(es:Es)|Go(mu:Bool)(ks:List String)(es:Es)|GJ
 |bin(op:xx)(a b:E)|neg(a:E)|not(a:E)
 |cmp(op:xw)(a b:E)|Fz(a:E)(op1:xw)(b:E)(op2:xw)(c:E)
 |Ga(a:E)|FK(a:E)|F2(Et:Bool)(es:Es)|ED(c a b:E)
 |call(f:Nat)(es:Es)|new(c:Nat)(es:Es)|EJ(o:E)(m:Nat)(es:Es)|Fu(i:Nat)(es:Es)
 |attr(o:E)(a:Nat)|sub(o k:E)|slice(o:E)(lo hi:Eo)|rev(o:E)
 |len(a:E)|abs(a:E)|sum(a:E)|intOf(a:E)|max2(a b:E)|min2(a b:E)
 |E8(a:E)|bytesOf(a:E)|sorted(a:E)|Fb(a:E)(t:Ty)|Gw(a:E)
 |GI(o k:E)|FN(o k d:E)
 |comp(mu:Bool)(cl:Cl)
 |freeze(a:E)|dead
inductive Eo where|no|yes(e:E)
inductive Es where|nil|cons(e:E)(r:Es)
inductive It where|it(e:E)|Fv(es:Es)|zip(a b:E)|keys(e:E)
inductive Cl where|last(e:E)|cls(t:jn)(it:It)(ifs:Es)(r:Cl)
end
mutual
inductive S where
 |asg(t:jn)(e:E)|EI(o:E)(a:Nat)(e:E)|EY(o k e:E)|app(o e:E)
 |ret(e:E)|ED(c:E)(a b:Ss)|E1(t:jn)(it:It)(body:Ss)|EV(c:E)(body:Ss)
 |EH(es:Es)|Gu(i:Nat)(e:E)|Iy(i:Nat)|dead
inductive Ss where|nil|cons(s:S)(r:Ss)
end
noncomputable def jn.list:jn->List Nat|.one i=>[i]|.many is=>is
noncomputable def Cl.E4:Cl->List Nat
 |.last _=>[]
 |.cls t _ _ r=>t.list++Cl.E4 r
noncomputable def Es.len:Es->Nat|.nil=>0|.cons _ r=>Es.len r+1
abbrev an:=List (Option V)
noncomputable def an.clear:an->Nat->an
 |[],_=>[]
 |_::r,0=>none::r
 |x::r,n+1=>x::an.clear r n
noncomputable def an.FA(ρ:an)(is:List Nat):an:=is.foldl an.clear ρ
noncomputable def an.put:an->Nat->V->an
 |[],_,_=>[]
 |_::r,0,v=>some v::r
 |x::r,n+1,v=>x::an.put r n v
noncomputable def an.get:an->Nat->Option V
 |[],_=>none
 |x::_,0=>x
 |_::r,n+1=>an.get r n
noncomputable def an.Fm:an->List Nat->List V->Option an
 |ρ,[],[]=>some ρ
 |ρ,i::is,v::vs=>an.Fm (ρ.put i v) is vs
 |_,_,_=>none
noncomputable def cU:Nat:=2^256
noncomputable def aq:Nat:=100000
noncomputable def eO(f:V->V->Option Bool):List V->List V->Option Bool
 |[],[]=>some true
 |[],_::_=>some false
 |_::_,[]=>some false
 |x::xs,y::ys=>(f x y).bind λ a=>(match eO f xs ys with|some b=>some (a&&b)|none=>none)
noncomputable def bE:V->Option Bool|.bool b=>some b|_=>none
noncomputable def aM:V->Option Int|.int i=>some i|_=>none
noncomputable def cF:V->Option String|.str i=>some i|_=>none
noncomputable def nR:V->Option (List UInt8)|.bytes i=>some i|_=>none
noncomputable def nQ:V->Option (List V)|.tup i=>some i|_=>none
noncomputable def lw:V->Option (List V)|.list i=>some i|_=>none
noncomputable def zt:V->Bool|.none=>true|_=>false
noncomputable def jj:Nat->V->V->Option Bool
 |0=>λ zz zz=>none
 |n+1=>λ x y=>match x with
  |.none=>if zt y then some true else(match lw y with|some _=>some false|none=>none)
  |.bool a=>(match bE y with|some b=>some (a==b)|none=>none)
  |.int a=>(match aM y with|some b=>some (a==b)|none=>none)
  |.str a=>(match cF y with|some b=>some (a==b)|none=>none)
  |.bytes a=>(match nR y with|some b=>some (a==b)|none=>none)
  |.tup a=>(nQ y).bind λ b=>eO (jj n) a b
  |.list a=>if zt y then some false else(lw y).bind λ b=>eO (jj n) a b
  |_=>none
noncomputable def kM(x y:V):Option Bool:=jj 40 x y
noncomputable def lstO? :O->Option (List V)|.list vs=>some vs|_=>none
noncomputable def dc(M:AH):V->Option (List V)
 |.list vs=>some vs
 |.ref i=>(M.m i).bind lstO?
 |_=>none
noncomputable def kE(M:AH):V->V
 |.ref i=>(((M.m i).bind lstO?).map V.list).getD (.ref i)
 |v=>v
noncomputable def ints? :List V->Option (List Int)
 |[]=>some []
 |x::r=>(aM x).bind λ i=>(ints? r).map (i:: ·)
noncomputable def dY:List Int->Option (List UInt8)
 |[]=>some []
 |i::r=>if 0<=i/\i<256 then(dY r).map (SH i.toNat:: ·) else none
noncomputable def Ce(op:xx)(a b:Int):Option V:=match op with
 |.add=>some (.int (a+b))
 |.sub=>some (.int (a-b))
 |.mul=>if a.natAbs<cU/\b.natAbs<cU then some (.int (a*b)) else none
 |.div=>if b≠0/\b.natAbs<cU then some (.int (QL a b)) else none
 |.mod=>if b≠0 then some (.int (QK a b)) else none
 |.pow=>if 0<=a/\a<=16/\0<=b/\b<=64 then some (.int (a^b.toNat)) else none
 |.shl=>if a.natAbs<2^64/\0<=b/\b<=64 then some (.int (a*2^b.toNat)) else none
 |.shr=>if 0<=b then some (.int (QL a (2^b.toNat))) else none
 |.band=>if 0<=a/\0<=b then some (.int ((a.toNat&&&b.toNat:Nat):Int)) else none
 |.bor=>if 0<=a/\0<=b then some (.int ((a.toNat|||b.toNat:Nat):Int)) else none
noncomputable def Ci(x y:V):Option V:=match x with
 |.str a=>(cF y).bind λ b=>if a.length+b.length<=aq then some (.str (a++b)) else none
 |.list a=>(lw y).bind λ b=>if a.length+b.length<=aq then some (.list (a++b)) else none
 |.tup a=>(nQ y).bind λ b=>if a.length+b.length<=aq then some (.tup (a++b)) else none
 |_=>none
noncomputable def C1:xx->Bool|.add=>true|_=>false
noncomputable def gr(op:xx)(x y:V):Option V:=match aM x with
 |some a=>(aM y).bind λ b=>Ce op a b
 |none=>match C1 op with|true=>Ci x y|false=>none
noncomputable def eJ(x:V):List V->Option Bool
 |[]=>some false
 |y::r=>(kM y x).bind λ a=>(match eJ x r with|some b=>some (a||b)|none=>none)
noncomputable def Dl(x:V):O->Option Bool
 |.EE ks _=>(match aM x with|some k=>some (ks.contains k)|none=>none)
 |.Er ks _=>(match cF x with|some k=>some (ks.contains k)|none=>none)
 |_=>none
noncomputable def zv(M:AH)(x:V):V->Option Bool
 |.tup vs=>eJ x vs
 |.dict ks _=>(match cF x with|some s=>some (ks.contains s)|none=>none)
 |.ref i=>(M.m i).bind (Dl x)
 |_=>none
noncomputable def rK(M:AH)(op:xw)(x y:V):Option Bool:=match op with
 |.eq=>kM (kE M x) (kE M y)
 |.ne=>(kM (kE M x) (kE M y)).map (!·)
 |.lt=>(match aM x with|some a=>(match aM y with|some b=>some (decide (a<b))|none=>none)|none=>none)
 |.le=>(match aM x with|some a=>(match aM y with|some b=>some (decide (a<=b))|none=>none)|none=>none)
 |.gt=>(match aM x with|some a=>(match aM y with|some b=>some (decide (b<a))|none=>none)|none=>none)
 |.ge=>(match aM x with|some a=>(match aM y with|some b=>some (decide (b<=a))|none=>none)|none=>none)
 |.isin=>zv M x y
 |.notin=>(zv M x y).map (!·)
end Mine
namespace Mine
open PySem
structure j7 where
 fields:List Nat
 mu:Bool
 init:Option Nat
 meths:List (Nat×Nat)
structure Fn where
 np:Nat
 Ft:List V
 slots:Nat
 body:Ss
structure dH where
 cls:Nat->Option j7
 fn:Nat->Option Fn
 glob:Nat->Option V
noncomputable def aB{α:Type}(o:Option α)(k:α->Prop):Prop:=match o with|some a=>k a|none=>False
noncomputable def Di(v:V):Option Nat:=(aM v).bind λ i=>if 0<=i then some i.toNat else none
noncomputable def insO? :O->Option (Nat×List V)|.inst c vs=>some (c,vs)|_=>none
noncomputable def kI(M:AH):V->Option (Nat×List V)
 |.inst c vs=>some (c,vs)
 |.ref i=>(M.m i).bind insO?
 |_=>none
noncomputable def gK(P:dH)(c a:Nat):Option Nat:=(P.cls c).bind λ cl=>cl.fields.idxOf? a
noncomputable def nO(P:dH)(M:AH)(a:Nat)(v:V):Option V:=(kI M v).bind λ x=>(gK P x.1 a).bind λ k=>x.2[k]?
noncomputable def ny(P:dH)(M:AH)(m:Nat)(v:V):Option Nat:=(kI M v).bind λ x=>(P.cls x.1).bind λ cl=>cl.meths.lookup m
noncomputable def ay:List String->List V->String->Option V
 |k::ks,v::vs,s=>if k==s then some v else ay ks vs s
 |_,_,_=>none
noncomputable def ci:List Int->List V->Int->Option V
 |k::ks,v::vs,s=>if k==s then some v else ci ks vs s
 |_,_,_=>none
noncomputable def yy(vs:List V)(y:V):Option V:=(aM y).bind λ i=>if 0<=i then vs[i.toNat]? else none
noncomputable def DG(y:V):O->Option V
 |.list vs=>yy vs y
 |.Er ks vs=>(cF y).bind λ s=>ay ks vs s
 |.EE ks vs=>(aM y).bind λ s=>ci ks vs s
 |.inst _ _=>none
noncomputable def eh(M:AH)(x y:V):Option V:=match x with
 |.list vs=>yy vs y
 |.tup vs=>yy vs y
 |.bytes b=>(aM y).bind λ i=>if 0<=i then(match b[i.toNat]? with|some x=>some (.int x.toNat)|none=>none) else none
 |.dict ks vs=>(cF y).bind λ s=>ay ks vs s
 |.ref i=>(M.m i).bind (DG y)
 |_=>none
noncomputable def pY:V->Option (List String×List V)|.dict ks vs=>some (ks,vs)|_=>none
noncomputable def DK(x:V):Bool:=(pY x).isSome
noncomputable def DO(x y:V):Option (Option V):=(pY x).bind λ d=>(match cF y with|some s=>some (ay d.1 d.2 s)|none=>none)
noncomputable def vt:O->Option (List Int×List V)|.EE ks vs=>some (ks,vs)|_=>none
noncomputable def vr:V->Option Nat|.ref i=>some i|_=>none
noncomputable def uE(M:AH)(x:V):Option (List Int×List V):=(vr x).bind λ i=>(M.m i).bind vt
noncomputable def tS(M:AH)(x:V):Bool:=(uE M x).isSome
noncomputable def yA(M:AH)(x y:V):Option (Option V):=(uE M x).bind λ d=>(match aM y with|some s=>some (ci d.1 d.2 s)|none=>none)
noncomputable def cut{α:Type}(l:List α)(lo:Nat)(hi:Option Nat):List α:=match hi with
 |some h=>(l.take h).drop lo
 |none=>l.drop lo
noncomputable def mW(M:AH)(v:V)(lo:Nat)(hi:Option Nat):Option V:=match v with
 |.bytes b=>some (.bytes (cut b lo hi))
 |.str s=>match hi with|none=>if lo<=s.length then some (.str (RR (s.toList.drop lo))) else none|some _=>none
 |v=>(dc M v).map λ vs=>.list (cut vs lo hi)
noncomputable def BC(M:AH):V->Option Nat
 |.list vs=>some vs.length
 |.tup vs=>some vs.length
 |.str s=>some s.length
 |.bytes b=>some b.length
 |.ref i=>((M.m i).bind lstO?).map Q2
 |_=>none
noncomputable def fJ(a b c d:Bool):Ty->Bool|.cls _=>false|.tbool=>a|.tint=>b|.tlist=>c|.tdict=>d
noncomputable def BJ(c:Nat):Ty->Bool|.cls d=>c==d|_=>false
noncomputable def zr:O->Ty->Bool
 |.list _=>fJ false false true false
 |.Er _ _=>fJ false false false true
 |.EE _ _=>fJ false false false true
 |.inst c _=>BJ c
noncomputable def fO(M:AH)(x:V)(t:Ty):Option Bool:=match x with
 |.none=>some (fJ false false false false t)
 |.bool _=>some (fJ true true false false t)
 |.int _=>some (fJ false true false false t)
 |.str _=>some (fJ false false false false t)
 |.tup _=>some (fJ false false false false t)
 |.list _=>some (fJ false false true false t)
 |.dict _ _=>some (fJ false false false true t)
 |.inst c _=>some (BJ c t)
 |.ref i=>(M.m i).map λ o=>zr o t
 |_=>none
noncomputable def BM:V->Option Int
 |.int i=>some i
 |.bool b=>some (if b then 1 else 0)
 |_=>none
noncomputable def mz(M:AH):V->Option (List UInt8)
 |.bytes b=>some b
 |v=>(dc M v).bind λ vs=>(ints? vs).bind dY
noncomputable def iB(s:String):List Nat:=s.toList.map UI
noncomputable def iO(s:String):List String->List String
 |[]=>[s]
 |t::r=>if iB s<iB t then s::t::r else t::iO s r
noncomputable def eH:List String->List String
 |[]=>[]
 |s::r=>iO s (eH r)
noncomputable def ml(s:Int):List Int->List Int
 |[]=>[s]
 |t::r=>if s<t then s::t::r else t::ml s r
noncomputable def gy:List Int->List Int
 |[]=>[]
 |s::r=>ml s (gy r)
noncomputable def ql:O->Option (List V)|.EE ks _=>if ks.length<64 then some ((gy ks).map .int) else none|_=>none
noncomputable def oq(M:AH):V->Option (List V)
 |.dict ks _=>if ks.length<64 then some ((eH ks).map .str) else none
 |.ref i=>(M.m i).bind ql
 |_=>none
noncomputable def aZ(a:Int)(s:Nat):Nat->List V
 |0=>[]
 |n+1=>.int a::aZ (a+s) s n
noncomputable def cm(i:Int):Bool:=decide (i.natAbs<2^29)
noncomputable def Bj:List Int->Option (List V)
 |[]=>none
 |n::r=>match r with
  |[]=>if cm n then some (aZ 0 1 n.toNat) else none
  |k::r=>match r with
   |[]=>if cm n&&cm k then some (aZ n 1 (k-n).toNat) else none
   |s::r=>match r with
    |[]=>if decide (0<s)&&cm n&&cm k&&cm s then some (aZ n s.toNat (if n<k then((k-n-1)/s+1).toNat else 0)) else none
    |_::_=>none
noncomputable def Bi(vs:List V):Option (List V):=(ints? vs).bind Bj
noncomputable def nY:List V->List V->List V
 |x::xs,y::ys=>.tup [x,y]::nY xs ys
 |_,_=>[]
noncomputable def rh(v:V):Option (List V):=match v with|.list vs=>some vs|.tup vs=>some vs|_=>none
noncomputable def aI(s:String)(v:V):List String->List V->List String×List V
 |k::ks,x::xs=>if k==s then(k::ks,v::xs) else let r:=aI s v ks xs;(k::r.1,x::r.2)
 |_,_=>([s],[v])
noncomputable def dN(s:Int)(v:V):List Int->List V->List Int×List V
 |k::ks,x::xs=>if k==s then(k::ks,v::xs) else let r:=dN s v ks xs;(k::r.1,x::r.2)
 |_,_=>([s],[v])
noncomputable def dL(o:O)(k x:V):Option O:=match o with
 |.list vs=>(aM k).bind λ i=>if 0<=i/\i.toNat<vs.length then some (.list (vs.set i.toNat x)) else none
 |.Er ks vs=>(cF k).bind λ s=>if ks.length<=aq then some (.Er (aI s x ks vs).1 (aI s x ks vs).2) else none
 |.EE ks vs=>(aM k).bind λ s=>if ks.length<=aq then some (.EE (dN s x ks vs).1 (dN s x ks vs).2) else none
 |.inst _ _=>none
noncomputable def xL(P:dH)(a:Nat)(x:V):O->Option O
 |.inst c vs=>match gK P c a with
  |some k=>if k<vs.length then some (.inst c (vs.set k x)) else if k=vs.length then some (.inst c (vs++[x])) else none
  |none=>none
 |_=>none
noncomputable def mq:O->Option V|.list vs=>some (.list vs)|.Er ks vs=>some (.dict ks vs)|_=>none
noncomputable def bf(M:AH):V->V×AH
 |.ref i=>((M.m i).bind mq).elim (.ref i,M) λ v=>(v,M.kill i)
 |v=>(v,M)
noncomputable def dF(t:jn)(v:V)(ρ:an):Option an:=match t with
 |.one i=>some (ρ.put i v)
 |.many is=>(rh v).bind λ vs=>ρ.Fm is vs
noncomputable def eQ(f:Fn)(vs:List V):Option an:=
 if vs.length<=f.np/\f.np<=vs.length+f.Ft.length/\f.np<=f.slots then
  some (((vs++f.Ft.drop (f.Ft.length-(f.np-vs.length))).map some)++Qn (f.slots-f.np) none)
 else none
noncomputable def Bn:O->Option (V×List V)|.list l=>(match l with|v::vs=>some (v,vs)|[]=>none)|_=>none
noncomputable def tR(M:AH):V->Bool
 |.ref i=>((M.m i).bind lstO?).isSome
 |_=>false
abbrev cM:=Nat->List V->AH->(V->AH->Prop)->(AH->Prop)->Prop
noncomputable def bP(turn:V->AH->(List V->AH->Prop)->Prop):List V->List V->AH->(List V->AH->Prop)->Prop
 |[],acc,M,Q=>Q acc M
 |x::xs,acc,M,Q=>turn x M λ r M'=>(acc++r).length<=aq/\bP turn xs (acc++r) M' Q
noncomputable def u3(turn:V->an->AH->(an->AH->Prop)->Prop):List V->an->AH->(an->AH->Prop)->Prop
 |[],ρ,M,N=>N ρ M
 |x::xs,ρ,M,N=>turn x ρ M λ ρ' M'=>u3 turn xs ρ' M' N
noncomputable def vF(test:an->AH->(Bool->AH->Prop)->Prop)(body:an->AH->(an->AH->Prop)->Prop):Nat->an->AH->(an->AH->Prop)->Prop
 |0,_,_,_=>False
 |n+1,ρ,M,N=>test ρ M λ b M1=>(b=true->body ρ M1 λ ρ' M'=>vF test body n ρ' M' N)/\(b=false->N ρ M1)
@[irreducible]noncomputable def cK(P:dH)(c:cM)(cl:Nat)(vs:List V)(M:AH)(Q:V->AH->Prop)(X:AH->Prop):Prop:=
 aB (P.cls cl) λ C=>aB C.init λ f=>c f (.ref M.next::vs) (M.new (.inst cl [])) (λ r M2=>
  match r,M2.m M.next with
  |.none,some (.inst cl' fs)=>cl'=cl/\fs.length=C.fields.length/\(if C.mu then Q (.ref M.next) M2 else Q (.inst cl fs) (M2.kill M.next))
  |_,_=>False) X
mutual
noncomputable def aO(P:dH)(c:cM):E->an->AH->(V->AH->Prop)->(AH->Prop)->Prop
 |.var i,ρ,M,Q,_=>aB (ρ.get i) λ v=>Q v M
 |.lit v,_,M,Q,_=>Q v M
 |.glob g,_,M,Q,_=>aB (P.glob g) λ v=>Q v M
 |.I9 f,_,M,Q,_=>Q (.fn f) M
 |.tup es,ρ,M,Q,X=>fo P c es ρ M (λ vs M'=>Q (.tup vs) M') X
 |.lst mu es,ρ,M,Q,X=>fo P c es ρ M (λ vs M'=>if mu then Q (.ref M'.next) (M'.new (.list vs)) else Q (.list vs) M') X
 |.Go mu ks es,ρ,M,Q,X=>fo P c es ρ M (λ vs M'=>vs.length=ks.length/\ks.Nodup/\ks.length<=15/\if mu then Q (.ref M'.next) (M'.new (.Er ks vs)) else Q (.dict ks vs) M') X
 |.GJ,_,M,Q,_=>Q (.ref M.next) (M.new (.EE [] []))
 |.bin op a b,ρ,M,Q,X=>aO P c a ρ M (λ x M1=>aO P c b ρ M1 (λ y M2=>aB (gr op x y) λ r=>Q r M2) X) X
 |.neg a,ρ,M,Q,X=>aO P c a ρ M (λ x M1=>aB (aM x) λ i=>Q (.int (-i)) M1) X
 |.not a,ρ,M,Q,X=>aO P c a ρ M (λ x M1=>aB (bE x) λ b=>Q (.bool (!b)) M1) X
 |.cmp op a b,ρ,M,Q,X=>aO P c a ρ M (λ x M1=>aO P c b ρ M1 (λ y M2=>aB (rK M2 op x y) λ r=>Q (.bool r) M2) X) X
 |.Fz a op1 b op2 d,ρ,M,Q,X=>aO P c a ρ M (λ x M1=>aO P c b ρ M1 (λ y M2=>aB (rK M2 op1 x y) λ r=>
   (r=true->aO P c d ρ M2 (λ z M3=>aB (rK M3 op2 y z) λ r2=>Q (.bool r2) M3) X)/\(r=false->Q (.bool false) M2)) X) X
 |.Ga a,ρ,M,Q,X=>aO P c a ρ M (λ x M1=>Q (.bool (match x with|.none=>true|_=>false)) M1) X
 |.FK a,ρ,M,Q,X=>aO P c a ρ M (λ x M1=>Q (.bool (match x with|.none=>false|_=>true)) M1) X
 |.F2 Et es,ρ,M,Q,X=>iS P c Et es ρ M Q X
 |.ED t a b,ρ,M,Q,X=>aO P c t ρ M (λ x M1=>aB (bE x) λ r=>(r=true->aO P c a ρ M1 Q X)/\(r=false->aO P c b ρ M1 Q X)) X
 |.call f es,ρ,M,Q,X=>fo P c es ρ M (λ vs M1=>c f vs M1 Q X) X
 |.new cl es,ρ,M,Q,X=>fo P c es ρ M (λ vs M1=>cK P c cl vs M1 Q X) X
 |.EJ o m es,ρ,M,Q,X=>aO P c o ρ M (λ x M1=>aB (ny P M1 m x) λ f=>fo P c es ρ M1 (λ vs M2=>c f (x::vs) M2 Q X) X) X
 |.Fu i es,ρ,M,Q,X=>aB (ρ.get i) λ v=>match v with|.fn f=>fo P c es ρ M (λ vs M2=>c f vs M2 Q X) X|_=>False
 |.attr o a,ρ,M,Q,X=>aO P c o ρ M (λ x M1=>aB (nO P M1 a x) λ r=>Q r M1) X
 |.sub o k,ρ,M,Q,X=>aO P c o ρ M (λ x M1=>aO P c k ρ M1 (λ y M2=>aB (eh M2 x y) λ r=>Q r M2) X) X
 |.slice o lo hi,ρ,M,Q,X=>aO P c o ρ M (λ x M1=>yF P c lo ρ M1 (λ l M2=>yF P c hi ρ M2 (λ h M3=>aB (mW M3 x (l.getD 0) h) λ r=>Q r M3) X) X) X
 |.rev o,ρ,M,Q,X=>aO P c o ρ M (λ x M1=>aB (dc M1 x) λ vs=>Q (.list vs.reverse) M1) X
 |.len a,ρ,M,Q,X=>aO P c a ρ M (λ x M1=>aB (BC M1 x) λ n=>Q (.int n) M1) X
 |.abs a,ρ,M,Q,X=>aO P c a ρ M (λ x M1=>aB (aM x) λ i=>Q (.int i.natAbs) M1) X
 |.sum a,ρ,M,Q,X=>aO P c a ρ M (λ x M1=>aB ((dc M1 x).bind ints?) λ is=>Q (.int is.sum) M1) X
 |.intOf a,ρ,M,Q,X=>aO P c a ρ M (λ x M1=>aB (BM x) λ i=>Q (.int i) M1) X
 |.max2 a b,ρ,M,Q,X=>aO P c a ρ M (λ x M1=>aO P c b ρ M1 (λ y M2=>aB (aM x) λ i=>aB (aM y) λ j=>Q (.int (if i<j then j else i)) M2) X) X
 |.min2 a b,ρ,M,Q,X=>aO P c a ρ M (λ x M1=>aO P c b ρ M1 (λ y M2=>aB (aM x) λ i=>aB (aM y) λ j=>Q (.int (if j<i then j else i)) M2) X) X
 |.E8 a,ρ,M,Q,X=>aO P c a ρ M (λ x M1=>aB (dc M1 x) λ vs=>Q (.tup vs) M1) X
 |.bytesOf a,ρ,M,Q,X=>aO P c a ρ M (λ x M1=>aB (mz M1 x) λ b=>Q (.bytes b) M1) X
 |.sorted a,ρ,M,Q,X=>aO P c a ρ M (λ x M1=>aB (oq M1 x) λ vs=>Q (.list vs) M1) X
 |.Fb a t,ρ,M,Q,X=>aO P c a ρ M (λ x M1=>aB (fO M1 x t) λ b=>Q (.bool b) M1) X
 |.Gw a,ρ,M,Q,X=>aO P c a ρ M (λ x M1=>aB (vr x) λ i=>aB ((M1.m i).bind Bn) λ p=>Q p.1 (M1.set i (.list p.2))) X
 |.GI o k,ρ,M,Q,X=>aO P c o ρ M (λ x M1=>DK x=true/\aO P c k ρ M1 (λ y M2=>aB (DO x y) λ r=>Q (r.getD .none) M2) X) X
 |.FN o k d,ρ,M,Q,X=>aO P c o ρ M (λ x M1=>tS M1 x=true/\aO P c k ρ M1 (λ y M2=>aO P c d ρ M2 (λ z M3=>aB (yA M3 x y) λ r=>Q (r.getD z) M3) X) X) X
 |.comp mu cl,ρ,M,Q,_=>lQ P c cl (ρ.FA cl.E4) M (λ vs M'=>if mu then Q (.ref M'.next) (M'.new (.list vs)) else Q (.list vs) M')
 |.freeze a,ρ,M,Q,X=>aO P c a ρ M (λ x M1=>Q (bf M1 x).1 (bf M1 x).2) X
 |.dead,_,_,_,_=>False
noncomputable def yF(P:dH)(c:cM):Eo->an->AH->(Option Nat->AH->Prop)->(AH->Prop)->Prop
 |.no,_,M,Q,_=>Q none M
 |.yes e,ρ,M,Q,X=>aO P c e ρ M (λ x M1=>aB (Di x) λ n=>n<aq/\Q (some n) M1) X
noncomputable def fo(P:dH)(c:cM):Es->an->AH->(List V->AH->Prop)->(AH->Prop)->Prop
 |.nil,_,M,Q,_=>Q [] M
 |.cons e r,ρ,M,Q,X=>aO P c e ρ M (λ v M1=>fo P c r ρ M1 (λ vs M2=>Q (v::vs) M2) X) X
noncomputable def iS(P:dH)(c:cM):Bool->Es->an->AH->(V->AH->Prop)->(AH->Prop)->Prop
 |_,.nil,_,_,_,_=>False
 |Et,.cons e r,ρ,M,Q,X=>aO P c e ρ M (λ v M1=>match r with
   |.nil=>Q v M1
   |.cons e' r'=>aB (bE v) λ b=>(b=Et->iS P c Et (.cons e' r') ρ M1 Q X)/\(b=(!Et)->Q v M1)) X
noncomputable def zq(P:dH)(c:cM):It->an->AH->(List V->AH->Prop)->(AH->Prop)->Prop
 |.it e,ρ,M,Q,X=>aO P c e ρ M (λ x M1=>aB (rh x) λ vs=>Q vs M1) X
 |.Fv es,ρ,M,Q,X=>fo P c es ρ M (λ vs M1=>aB (Bi vs) λ is=>is.length<=aq/\Q is M1) X
 |.zip a b,ρ,M,Q,X=>aO P c a ρ M (λ x M1=>aO P c b ρ M1 (λ y M2=>aB (nQ x) λ xs=>aB (lw y) λ ys=>Q (nY xs ys) M2) X) X
 |.keys e,ρ,M,Q,X=>aO P c e ρ M (λ x M1=>aB (pY x) λ d=>Q (d.1.map .str) M1) X
noncomputable def iP(P:dH)(c:cM):Es->an->AH->(Bool->AH->Prop)->Prop
 |.nil,_,M,Q=>Q true M
 |.cons e r,ρ,M,Q=>aO P c e ρ M (λ v M1=>aB (bE v) λ b=>(b=true->iP P c r ρ M1 Q)/\(b=false->Q false M1)) (λ zz=>False)
noncomputable def lQ(P:dH)(c:cM):Cl->an->AH->(List V->AH->Prop)->Prop
 |.last e,ρ,M,Q=>aO P c e ρ M (λ v M1=>Q [v] M1) (λ zz=>False)
 |.cls t it ifs r,ρ,M,Q=>zq P c it ρ M (λ items M1=>bP (λ x M2 k=>aB (dF t x ρ) λ ρ'=>
   iP P c ifs ρ' M2 λ b M3=>(b=true->lQ P c r ρ' M3 k)/\(b=false->k [] M3)) items [] M1 Q) (λ zz=>False)
end
mutual
noncomputable def Dm(P:dH)(c:cM):S->an->AH->(an->AH->Prop)->(V->AH->Prop)->(AH->Prop)->Prop
 |.asg t e,ρ,M,N,_,X=>aO P c e ρ M (λ v M1=>aB (dF t v ρ) λ ρ'=>N ρ' M1) X
 |.EI o a e,ρ,M,N,_,X=>aO P c e ρ M (λ v M1=>aO P c o ρ M1 (λ x M2=>match x with
   |.ref i=>aB (M2.m i) λ ob=>aB (xL P a v ob) λ Gx=>N ρ (M2.set i Gx)
   |_=>False) X) X
 |.EY o k e,ρ,M,N,_,X=>aO P c e ρ M (λ v M1=>aO P c o ρ M1 (λ x M2=>aO P c k ρ M2 (λ y M3=>match x with
   |.ref i=>aB (M3.m i) λ ob=>aB (dL ob y v) λ Gx=>N ρ (M3.set i Gx)
   |_=>False) X) X) X
 |.app o e,ρ,M,N,_,X=>aO P c o ρ M (λ x M1=>tR M1 x=true/\aO P c e ρ M1 (λ v M2=>match x with
   |.ref i=>(match M2.m i with
    |some (.list vs)=>vs.length<aq/\N ρ (M2.set i (.list (vs++[v])))
    |_=>False)
   |_=>False) X) X
 |.ret e,ρ,M,_,R,X=>aO P c e ρ M R X
 |.ED t a b,ρ,M,N,R,X=>aO P c t ρ M (λ x M1=>aB (bE x) λ r=>(r=true->bq P c a ρ M1 N R X)/\(r=false->bq P c b ρ M1 N R X)) X
 |.E1 t it body,ρ,M,N,R,X=>zq P c it ρ M (λ items M1=>u3 (λ x ρ M2 k=>aB (dF t x ρ) λ ρ'=>bq P c body ρ' M2 k R X) items ρ M1 N) X
 |.EV t body,ρ,M,N,_,_=>∃n,vF (λ ρ M k=>aO P c t ρ M (λ x M1=>aB (bE x) λ b=>k b M1) (λ zz=>False))
   (λ ρ M k=>bq P c body ρ M k (λ zz zz=>False) (λ zz=>False)) n ρ M N
 |.EH es,ρ,M,_,_,X=>fo P c es ρ M (λ zz M1=>X M1) (λ zz=>False)
 |.Gu i e,ρ,M,N,_,_=>aO P c e ρ M (λ v M1=>N (ρ.put i v) M1) (λ M1=>N (ρ.put i .none) M1)
 |.Iy i,ρ,M,N,_,_=>aB (ρ.get i) λ v=>N (ρ.put i (bf M v).1) (bf M v).2
 |.dead,_,_,_,_,_=>False
noncomputable def bq(P:dH)(c:cM):Ss->an->AH->(an->AH->Prop)->(V->AH->Prop)->(AH->Prop)->Prop
 |.nil,ρ,M,N,_,_=>N ρ M
 |.cons s r,ρ,M,N,R,X=>Dm P c s ρ M (λ ρ' M'=>bq P c r ρ' M' N R X) R X
end
noncomputable def rP(P:dH):Nat->cM
 |0,_,_,_,_,_=>False
 |n+1,f,vs,M,Q,X=>aB (P.fn f) λ fn=>aB (eQ fn vs) λ ρ=>bq P (rP P n) fn.body ρ M (λ zz M'=>Q .none M') Q X
theorem rN:∃f:dH->Nat->cM,f=rP:=⟨_,rfl⟩
@[irreducible]noncomputable def ag:dH->Nat->cM:=Classical.choose rN
theorem rM:ag=rP:=by unfold ag;exact Classical.choose_spec rN
theorem nM(P:dH)(f:Nat)(vs:List V)(M:AH)(Q:V->AH->Prop)(X:AH->Prop):ag P 0 f vs M Q X=False:=by refine aa rM ?_;rfl
theorem ee(P:dH)(n f:Nat)(vs:List V)(M:AH)(Q:V->AH->Prop)(X:AH->Prop):
  ag P (n+1) f vs M Q X=aB (P.fn f) λ fn=>aB (eQ fn vs) λ ρ=>bq P (ag P n) fn.body ρ M (λ zz M'=>Q .none M') Q X:=by refine aa rM ?_;rfl
section
variable(s k:String)(i j:Int)(v x:V)(ks:List String)(is:List Int)(vs xs:List V)(r:an)(n a:Nat)(b:Option V)(l:List String)
theorem qI:aI s v [] xs=([s],[v]):=rfl
theorem fc:aI s v (k::ks) (x::xs)=if(k==s)=true then(k::ks,v::xs) else(k::(aI s v ks xs).1,x::(aI s v ks xs).2):=rfl
theorem qJ:dN i v (j::is) (x::xs)=if(j==i)=true then(j::is,v::xs) else(j::(dN i v is xs).1,x::(dN i v is xs).2):=rfl
theorem tK(t:V->AH->(List V->AH->Prop)->Prop)(M:AH)(Q:List V->AH->Prop):bP t [] vs M Q=Q vs M:=rfl
theorem oM(t:V->AH->(List V->AH->Prop)->Prop)(M:AH)(Q:List V->AH->Prop):bP t (x::xs) vs M Q=t x M λ r M'=>(vs++r).length<=aq/\bP t xs (vs++r) M' Q:=rfl
theorem ze:an.put (b::r) (n+1) v=b::an.put r n v:=rfl
theorem zw:an.get (b::r) (n+1)=an.get r n:=rfl
theorem qH:aZ i a (n+1)=.int i::aZ (i+a) a n:=rfl
theorem rm:iO s (k::l)=if iB s<iB k then s::k::l else k::iO s l:=rfl
theorem wP:ml i (j::is)=if i<j then i::j::is else j::ml i is:=rfl
theorem BZ(f:V->V->Option Bool):eO f (v::vs) (x::xs)=(f v x).bind λ a=>(match eO f vs xs with|some b=>some (a&&b)|none=>none):=rfl
theorem vn:dY (i::is)=if 0<=i/\i<256 then(dY is).map (SH i.toNat:: ·) else none:=rfl
theorem BK:ints? (v::vs)=(aM v).bind λ i=>(ints? vs).map (i:: ·):=rfl
end
end Mine
end
section
namespace Mine
noncomputable def gp:Fn:=⟨3,[],3,
 (.cons (.EV (.F2 true (.cons (.cmp .gt (.var 2) (.lit (.int 0))) (.cons (.cmp .eq (.bin .mod (.var 1) (.lit (.int 10))) (.lit (.int 0))) .nil))) (.cons (.asg (.one 1) (.bin .div (.var 1) (.lit (.int 10)))) (.cons (.asg (.one 2) (.bin .sub (.var 2) (.lit (.int 1)))) .nil))) (.cons (.EI (.var 0) 0 (.var 1)) (.cons (.EI (.var 0) 1 (.var 2)) .nil)))⟩
noncomputable def jc:Fn:=⟨1,[],1,
 (.cons (.ret (.tup (.cons (.attr (.var 0) 0) (.cons (.attr (.var 0) 1) .nil)))) .nil)⟩
noncomputable def pf:Fn:=⟨1,[],1,
 (.cons (.ED (.cmp .eq (.var 0) (.lit (.int 0))) (.cons (.ret (.lit (.int 0))) .nil) .nil) (.cons (.ret (.ED (.cmp .gt (.var 0) (.lit (.int 0))) (.lit (.int 1)) (.neg (.lit (.int 1))))) .nil))⟩
noncomputable def fZ:Fn:=⟨2,[],3,
 (.cons (.asg (.one 2) (.bin .div (.bin .add (.bin .mul (.lit (.int 2)) (.abs (.var 0))) (.abs (.var 1))) (.bin .mul (.lit (.int 2)) (.abs (.var 1))))) (.cons (.ret (.bin .mul (.bin .mul (.var 2) (.call 2 (.cons (.var 0) .nil))) (.call 2 (.cons (.var 1) .nil)))) .nil))⟩
noncomputable def gS:Fn:=⟨1,[],1,
 (.cons (.ED (.Fb (.var 0) (.cls 0)) (.cons (.ret (.var 0)) .nil) .nil) (.cons (.ED (.F2 false (.cons (.Fb (.var 0) .tbool) (.cons (.not (.Fb (.var 0) .tint)) .nil))) (.cons .dead .nil) .nil) (.cons (.ret (.new 0 (.cons (.var 0) (.cons (.lit (.int 0)) .nil)))) .nil)))⟩
noncomputable def i8:Fn:=⟨2,[],5,
 (.cons (.asg (.one 2) (.call 4 (.cons (.var 0) .nil))) (.cons (.asg (.one 3) (.call 4 (.cons (.var 1) .nil))) (.cons (.asg (.one 4) (.max2 (.attr (.var 2) 1) (.attr (.var 3) 1))) (.cons (.ret (.tup (.cons (.bin .mul (.attr (.var 2) 0) (.bin .pow (.lit (.int 10)) (.bin .sub (.var 4) (.attr (.var 2) 1)))) (.cons (.bin .mul (.attr (.var 3) 0) (.bin .pow (.lit (.int 10)) (.bin .sub (.var 4) (.attr (.var 3) 1)))) (.cons (.var 4) .nil))))) .nil))))⟩
noncomputable def wk:Fn:=⟨3,[],6,
 (.cons (.asg (.many [3,4,5]) (.call 5 (.cons (.var 0) (.cons (.var 1) .nil)))) (.cons (.ED (.cmp .eq (.var 4) (.lit (.int 0))) (.cons .dead .nil) .nil) (.cons (.ret (.new 0 (.cons (.call 3 (.cons (.bin .mul (.var 3) (.bin .pow (.lit (.int 10)) (.var 2))) (.cons (.var 4) .nil))) (.cons (.var 2) .nil)))) .nil)))⟩
noncomputable def gT:Fn:=⟨2,[],4,
 (.cons (.asg (.one 2) (.abs (.var 0))) (.cons (.asg (.one 3) (.abs (.var 1))) (.cons (.EV (.cmp .gt (.var 3) (.lit (.int 0))) (.cons (.asg (.many [2,3]) (.tup (.cons (.var 3) (.cons (.bin .mod (.var 2) (.var 3)) .nil)))) .nil)) (.cons (.ret (.var 2)) .nil))))⟩
noncomputable def m8:Fn:=⟨2,[],2,
 (.cons (.EI (.var 0) 2 (.var 1)) .nil)⟩
noncomputable def kr:Fn:=⟨3,[],3,
 (.cons (.EI (.var 0) 5 (.var 1)) (.cons (.EI (.var 0) 3 (.var 2)) .nil))⟩
noncomputable def iu:Fn:=⟨3,[],3,
 (.cons (.EI (.var 0) 6 (.var 1)) (.cons (.EI (.var 0) 7 (.var 2)) .nil))⟩
noncomputable def bJ:Fn:=⟨1,[],1,
 (.cons (.ED (.Ga (.var 0)) (.cons (.ret (.lit (.str "null"))) .nil) .nil) (.cons (.ED (.Fb (.var 0) .tbool) (.cons (.ret (.lit (.str "truth"))) .nil) .nil) (.cons (.ED (.Fb (.var 0) .tint) (.cons (.ret (.lit (.str "int"))) .nil) .nil) (.cons (.ED (.Fb (.var 0) (.cls 0)) (.cons (.ret (.lit (.str "real"))) .nil) .nil) (.cons (.ED (.Fb (.var 0) (.cls 1)) (.cons (.ret (.lit (.str "name"))) .nil) .nil) (.cons (.ED (.Fb (.var 0) (.cls 2)) (.cons (.ret (.lit (.str "string"))) .nil) .nil) (.cons (.ED (.Fb (.var 0) .tlist) (.cons (.ret (.lit (.str "array"))) .nil) .nil) (.cons (.ED (.Fb (.var 0) .tdict) (.cons (.ret (.lit (.str "dict"))) .nil) .nil) (.cons (.ED (.Fb (.var 0) (.cls 3)) (.cons (.ret (.lit (.str "stream"))) .nil) .nil) (.cons (.ED (.Fb (.var 0) (.cls 4)) (.cons (.ret (.lit (.str "ref"))) .nil) .nil) (.cons .dead .nil)))))))))))⟩
noncomputable def iL:Fn:=⟨1,[],1,
 (.cons (.ret (.cmp .isin (.call 11 (.cons (.var 0) .nil)) (.tup (.cons (.lit (.str "int")) (.cons (.lit (.str "real")) .nil))))) .nil)⟩
noncomputable def cO:Fn:=⟨2,[],2,
 (.cons (.ED (.cmp .eq (.var 0) (.lit (.str "null"))) (.cons (.ret (.tup (.cons (.lit (.str "null")) .nil))) .nil) .nil) (.cons (.ED (.cmp .eq (.var 0) (.lit (.str "truth"))) (.cons (.ret (.tup (.cons (.lit (.str "truth")) (.cons (.ED (.var 1) (.lit (.int 1)) (.lit (.int 0))) .nil)))) .nil) .nil) (.cons (.ED (.cmp .eq (.var 0) (.lit (.str "int"))) (.cons (.ret (.tup (.cons (.lit (.str "int")) (.cons (.var 1) .nil)))) .nil) .nil) (.cons (.ED (.cmp .eq (.var 0) (.lit (.str "real"))) (.cons (.ret (.tup (.cons (.lit (.str "real")) (.cons (.attr (.var 1) 0) (.cons (.attr (.var 1) 1) .nil))))) .nil) .nil) (.cons (.ED (.cmp .eq (.var 0) (.lit (.str "name"))) (.cons (.ret (.tup (.cons (.lit (.str "name")) (.cons (.attr (.var 1) 2) .nil)))) .nil) .nil) (.cons (.ED (.cmp .eq (.var 0) (.lit (.str "string"))) (.cons (.ret (.tup (.cons (.lit (.str "string")) (.cons (.bytesOf (.attr (.var 1) 3)) .nil)))) .nil) .nil) (.cons (.ret (.tup (.cons (.lit (.str "ref")) (.cons (.attr (.var 1) 6) (.cons (.attr (.var 1) 7) .nil))))) .nil)))))))⟩
noncomputable def eB:Fn:=⟨1,[],4,
 (.cons (.asg (.one 1) (.call 11 (.cons (.var 0) .nil))) (.cons (.ED (.cmp .eq (.var 1) (.lit (.str "array"))) (.cons (.ret (.bin .add (.tup (.cons (.lit (.str "array")) .nil)) (.E8 (.comp false (.cls (.one 2) (.it (.var 0)) .nil (.last (.call 14 (.cons (.var 2) .nil)))))))) .nil) .nil) (.cons (.ED (.cmp .eq (.var 1) (.lit (.str "dict"))) (.cons (.ret (.bin .add (.tup (.cons (.lit (.str "dict")) .nil)) (.E8 (.comp false (.cls (.one 3) (.it (.sorted (.var 0))) (.cons (.FK (.sub (.var 0) (.var 3))) .nil) (.last (.tup (.cons (.var 3) (.cons (.call 14 (.cons (.sub (.var 0) (.var 3)) .nil)) .nil))))))))) .nil) .nil) (.cons (.ED (.cmp .eq (.var 1) (.lit (.str "stream"))) (.cons (.ret (.tup (.cons (.lit (.str "stream")) (.cons (.call 14 (.cons (.attr (.var 0) 5) .nil)) (.cons (.bytesOf (.attr (.var 0) 3)) .nil))))) .nil) .nil) (.cons (.ret (.call 13 (.cons (.var 1) (.cons (.var 0) .nil)))) .nil)))))⟩
noncomputable def qL:Fn:=⟨3,[.none,.none],3,
 (.cons (.EI (.var 0) 8 (.ED (.Ga (.var 1)) .GJ (.var 1))) (.cons (.EI (.var 0) 9 (.ED (.Ga (.var 2)) (.Go false [] .nil) (.var 2))) .nil))⟩
noncomputable def jb:Fn:=⟨2,[],6,
 (.cons (.asg (.one 2) (.var 1)) (.cons (.E1 (.one 3) (.Fv (.cons (.glob 0) .nil)) (.cons (.ED (.not (.Fb (.var 2) (.cls 4))) (.cons (.ret (.var 2)) .nil) .nil) (.cons (.asg (.many [4,5]) (.FN (.attr (.var 0) 8) (.attr (.var 2) 6) (.tup (.cons (.neg (.lit (.int 1))) (.cons (.lit .none) .nil))))) (.cons (.ED (.cmp .ne (.var 4) (.attr (.var 2) 7)) (.cons (.ret (.lit .none)) .nil) .nil) (.cons (.asg (.one 2) (.var 5)) .nil))))) (.cons (.ret (.ED (.Fb (.var 2) (.cls 4)) (.lit .none) (.var 2))) .nil)))⟩
noncomputable def kx:Fn:=⟨3,[],3,
 (.cons (.ret (.EJ (.var 0) 1 (.cons (.GI (.var 1) (.var 2)) .nil))) .nil)⟩
noncomputable def lJ:Fn:=⟨2,[],3,
 (.cons (.asg (.one 2) (.lit (.int 1))) (.cons (.EV (.cmp .isin (.var 2) (.attr (.var 0) 8)) (.cons (.asg (.one 2) (.bin .add (.var 2) (.lit (.int 1)))) .nil)) (.cons (.EY (.attr (.var 0) 8) (.var 2) (.tup (.cons (.lit (.int 0)) (.cons (.var 1) .nil)))) (.cons (.ret (.new 4 (.cons (.var 2) (.cons (.lit (.int 0)) .nil)))) .nil))))⟩
noncomputable def ir:Fn:=⟨1,[],1,
 (.cons (.ret (.sorted (.attr (.var 0) 8))) .nil)⟩
noncomputable def ku:Fn:=⟨1,[],3,
 (.cons (.asg (.one 1) (.E8 (.comp false (.cls (.one 2) (.it (.EJ (.var 0) 4 .nil)) .nil (.last (.tup (.cons (.var 2) (.cons (.sub (.sub (.attr (.var 0) 8) (.var 2)) (.lit (.int 0))) (.cons (.call 14 (.cons (.sub (.sub (.attr (.var 0) 8) (.var 2)) (.lit (.int 1))) .nil)) .nil))))))))) (.cons (.ret (.tup (.cons (.var 1) (.cons (.call 14 (.cons (.attr (.var 0) 9) .nil)) .nil)))) .nil))⟩
noncomputable def lI:Fn:=⟨8,[.none,(.bytes []),(.int 0),.none,(.tup [])],8,
 (.cons (.EI (.var 0) 10 (.var 1)) (.cons (.EI (.var 0) 11 (.var 2)) (.cons (.EI (.var 0) 12 (.var 3)) (.cons (.EI (.var 0) 8 (.var 4)) (.cons (.EI (.var 0) 13 (.var 5)) (.cons (.EI (.var 0) 14 (.var 6)) (.cons (.EI (.var 0) 15 (.var 7)) .nil)))))))⟩
noncomputable def io:Fn:=⟨0,[],0,
 (.cons (.ret (.Go false ["DeviceGray","DeviceRGB","DeviceCMYK"] (.cons (.lit (.int 1)) (.cons (.lit (.int 3)) (.cons (.lit (.int 4)) .nil))))) .nil)⟩
noncomputable def i7:Fn:=⟨1,[],1,
 (.cons (.ret (.new 6 (.cons (.var 0) (.cons (.sub (.call 22 .nil) (.var 0)) .nil)))) .nil)⟩
noncomputable def kt:Fn:=⟨4,[],4,
 (.cons (.EI (.var 0) 16 (.var 1)) (.cons (.EI (.var 0) 17 (.var 2)) (.cons (.EI (.var 0) 18 (.var 3)) .nil)))⟩
noncomputable def ja:Fn:=⟨2,[],2,
 (.cons (.ret (.EJ (.attr (.var 0) 16) 1 (.cons (.var 1) .nil))) .nil)⟩
noncomputable def i9:Fn:=⟨2,[],3,
 (.cons (.asg (.one 2) (.EJ (.attr (.var 0) 16) 2 (.cons (.attr (.var 0) 17) (.cons (.lit (.str "ColorSpace")) .nil)))) (.cons (.ret (.ED (.Fb (.var 2) .tdict) (.EJ (.attr (.var 0) 16) 2 (.cons (.var 2) (.cons (.var 1) .nil))) (.lit .none))) .nil))⟩
noncomputable def mZ:Fn:=⟨4,[.none],4,
 (.cons (.ret (.call 28 (.cons (.new 7 (.cons (.var 0) (.cons (.var 1) (.cons (.var 3) .nil)))) (.cons (.var 2) (.cons (.glob 1) .nil))))) .nil)⟩
noncomputable def i6:Fn:=⟨3,[],5,
 (.cons (.asg (.one 3) (.EJ (.var 0) 1 (.cons (.var 1) .nil))) (.cons (.ED (.cmp .eq (.var 2) (.lit (.int 0))) (.cons (.EH (.cons (.lit (.str "colour spaces within one another too deep")) .nil)) .nil) .nil) (.cons (.ED (.Fb (.var 3) (.cls 1)) (.cons (.ret (.call 29 (.cons (.var 0) (.cons (.attr (.var 3) 2) (.cons (.var 2) .nil))))) .nil) .nil) (.cons .dead .nil))))⟩
noncomputable def ik:Fn:=⟨3,[],4,
 (.cons (.ED (.cmp .isin (.var 1) (.call 22 .nil)) (.cons (.ret (.call 30 (.cons (.var 0) (.cons (.var 1) (.cons (.var 2) .nil))))) .nil) .nil) (.cons .dead .nil))⟩
noncomputable def ip:Fn:=⟨3,[],5,
 (.cons (.asg (.one 3) (.EJ (.var 0) 5 (.cons (.bin .add (.lit (.str "Default")) (.slice (.var 1) (.yes (.len (.lit (.str "Device")))) .no)) .nil))) (.cons (.ED (.Ga (.var 3)) (.cons (.ret (.call 23 (.cons (.var 1) .nil))) .nil) .nil) (.cons .dead .nil)))⟩
noncomputable def m4:Fn:=⟨2,[],2,
 (.cons (.ret (.bin .band (.var 0) (.bin .sub (.bin .shl (.lit (.int 1)) (.var 1)) (.lit (.int 1))))) .nil)⟩
noncomputable def gV:Fn:=⟨2,[],2,
 (.cons (.EI (.var 0) 19 (.var 1)) (.cons (.EI (.var 0) 20 (.lit (.int 0))) (.cons (.EI (.var 0) 21 (.lit (.int 0))) (.cons (.EI (.var 0) 11 (.lit (.int 0))) .nil))))⟩
noncomputable def gw:Fn:=⟨1,[],1,
 (.cons (.ret (.bin .add (.attr (.var 0) 11) (.bin .mul (.glob 2) (.bin .sub (.len (.attr (.var 0) 19)) (.attr (.var 0) 20))))) .nil)⟩
noncomputable def gv:Fn:=⟨2,[],3,
 (.cons (.ED (.cmp .lt (.EJ (.var 0) 6 .nil) (.var 1)) (.cons .dead .nil) .nil) (.cons (.EV (.cmp .lt (.attr (.var 0) 11) (.var 1)) (.cons (.EI (.var 0) 21 (.bin .bor (.bin .shl (.attr (.var 0) 21) (.glob 2)) (.sub (.attr (.var 0) 19) (.attr (.var 0) 20)))) (.cons (.EI (.var 0) 20 (.bin .add (.attr (.var 0) 20) (.lit (.int 1)))) (.cons (.EI (.var 0) 11 (.bin .add (.attr (.var 0) 11) (.glob 2))) .nil)))) (.cons (.EI (.var 0) 11 (.bin .sub (.attr (.var 0) 11) (.var 1))) (.cons (.asg (.one 2) (.bin .shr (.attr (.var 0) 21) (.attr (.var 0) 11))) (.cons (.EI (.var 0) 21 (.call 31 (.cons (.attr (.var 0) 21) (.cons (.attr (.var 0) 11) .nil)))) (.cons (.ret (.var 2)) .nil))))))⟩
noncomputable def pg:Fn:=⟨3,[],5,
 (.cons (.asg (.one 3) (.new 8 (.cons (.var 0) .nil))) (.cons (.ret (.comp false (.cls (.one 4) (.Fv (.cons (.var 2) .nil)) .nil (.last (.EJ (.var 3) 7 (.cons (.var 1) .nil)))))) .nil))⟩
noncomputable def j3:Fn:=⟨5,[],5,
 (.cons (.EI (.var 0) 22 (.var 1)) (.cons (.EI (.var 0) 23 (.var 2)) (.cons (.EI (.var 0) 24 (.var 3)) (.cons (.EI (.var 0) 11 (.var 4)) .nil))))⟩
noncomputable def fe:Fn:=⟨1,[],1,
 (.cons (.ret (.bin .div (.bin .add (.bin .mul (.bin .mul (.attr (.var 0) 22) (.attr (.var 0) 11)) (.attr (.var 0) 24)) (.lit (.int 7))) (.lit (.int 8)))) .nil)⟩
noncomputable def j0:Fn:=⟨1,[],1,
 (.cons (.ret (.bin .sub (.bin .shl (.lit (.int 1)) (.attr (.var 0) 24)) (.lit (.int 1)))) .nil)⟩
noncomputable def kq:Fn:=⟨2,[],3,
 (.cons (.ret (.comp false (.cls (.one 2) (.Fv (.cons (.lit (.int 0)) (.cons (.len (.var 0)) (.cons (.var 1) .nil)))) .nil (.last (.E8 (.slice (.var 0) (.yes (.var 2)) (.yes (.bin .add (.var 2) (.var 1))))))))) .nil)⟩
noncomputable def gm:Fn:=⟨2,[],6,
 (.cons (.asg (.one 2) (.EJ (.var 1) 8 .nil)) (.cons (.ED (.cmp .lt (.len (.var 0)) (.bin .mul (.var 2) (.attr (.var 1) 23))) (.cons (.EH (.cons (.lit (.str "an image with too few octets")) (.cons (.len (.var 0)) .nil))) .nil) .nil) (.cons (.asg (.one 3) (.lst true .nil)) (.cons (.E1 (.one 4) (.Fv (.cons (.attr (.var 1) 23) .nil)) (.cons (.asg (.one 5) (.slice (.var 0) (.yes (.bin .mul (.var 2) (.var 4))) (.yes (.bin .mul (.var 2) (.bin .add (.var 4) (.lit (.int 1))))))) (.cons (.app (.var 3) (.call 39 (.cons (.call 35 (.cons (.var 5) (.cons (.attr (.var 1) 24) (.cons (.bin .mul (.attr (.var 1) 22) (.attr (.var 1) 11)) .nil)))) (.cons (.attr (.var 1) 11) .nil)))) .nil))) (.cons (.ret (.freeze (.var 3))) .nil)))))⟩
noncomputable def jT:Fn:=⟨3,[],7,
 (.cons (.ED (.F2 false (.cons (.cmp .lt (.var 1) (.lit (.int 1))) (.cons (.cmp .lt (.var 2) (.lit (.int 1))) .nil))) (.cons (.EH (.cons (.lit (.str "an image without pixels")) .nil)) .nil) .nil) (.cons (.asg (.one 3) (.lst true .nil)) (.cons (.E1 (.one 4) (.Fv (.cons (.var 2) .nil)) (.cons (.asg (.one 5) (.sub (.var 0) (.bin .div (.bin .mul (.bin .add (.bin .mul (.lit (.int 2)) (.var 4)) (.lit (.int 1))) (.len (.var 0))) (.bin .mul (.lit (.int 2)) (.var 2))))) (.cons (.app (.var 3) (.comp false (.cls (.one 6) (.Fv (.cons (.var 1) .nil)) .nil (.last (.sub (.var 5) (.bin .div (.bin .mul (.bin .add (.bin .mul (.lit (.int 2)) (.var 6)) (.lit (.int 1))) (.len (.var 5))) (.bin .mul (.lit (.int 2)) (.var 1)))))))) .nil))) (.cons (.ret (.freeze (.var 3))) .nil))))⟩
noncomputable def iq:Fn:=⟨4,[],11,
 (.cons (.asg (.many [8,9,10]) (.call 5 (.cons (.var 2) (.cons (.var 3) .nil)))) (.cons (.asg (.one 4) (.bin .sub (.bin .shl (.lit (.int 1)) (.var 1)) (.lit (.int 1)))) (.cons (.asg (.one 5) (.bin .add (.bin .mul (.var 8) (.bin .sub (.var 4) (.var 0))) (.bin .mul (.var 9) (.var 0)))) (.cons (.asg (.one 6) (.bin .mul (.var 4) (.bin .pow (.lit (.int 10)) (.var 10)))) (.cons (.asg (.one 7) (.call 7 (.cons (.var 5) (.cons (.var 6) .nil)))) (.cons (.ret (.tup (.cons (.bin .div (.var 5) (.var 7)) (.cons (.bin .div (.var 6) (.var 7)) .nil)))) .nil))))))⟩
noncomputable def gR:Fn:=⟨5,[],7,
 (.cons (.asg (.many [5,6]) (.call 42 (.cons (.var 0) (.cons (.var 1) (.cons (.var 2) (.cons (.var 3) .nil)))))) (.cons (.ret (.call 6 (.cons (.var 5) (.cons (.var 6) (.cons (.var 4) .nil))))) .nil))⟩
noncomputable def gQ:Fn:=⟨2,[],3,
 (.cons (.ret (.comp false (.cls (.one 2) (.Fv (.cons (.attr (.var 0) 11) .nil)) .nil (.last (.tup (.cons (.lit (.int 0)) (.cons (.ED (.var 1) (.EJ (.var 0) 9 .nil) (.lit (.int 1))) .nil))))))) .nil)⟩
noncomputable def il:Fn:=⟨4,[],6,
 (.cons (.ret (.comp false (.cls (.many [4,5]) (.zip (.var 0) (.var 2)) .nil (.last (.call 43 (.cons (.var 4) (.cons (.var 1) (.cons (.sub (.var 5) (.lit (.int 0))) (.cons (.sub (.var 5) (.lit (.int 1))) (.cons (.var 3) .nil)))))))))) .nil)⟩
noncomputable def m6:Fn:=⟨2,[],4,
 (.cons (.E1 (.many [2,3]) (.zip (.var 0) (.var 1)) (.cons (.ED (.not (.Fz (.sub (.var 3) (.lit (.int 0))) .le (.var 2) .le (.sub (.var 3) (.lit (.int 1))))) (.cons (.ret (.lit (.bool false))) .nil) .nil) .nil)) (.cons (.ret (.lit (.bool true))) .nil))⟩
noncomputable def fK:Fn:=⟨2,[],5,
 (.cons (.asg (.one 2) (.ED (.cmp .eq (.var 1) (.lit (.int 0))) (.lit (.int 0)) (.lit (.int 1)))) (.cons (.ret (.comp false (.cls (.one 3) (.it (.var 0)) .nil (.last (.comp false (.cls (.one 4) (.it (.var 3)) .nil (.last (.cmp .eq (.sub (.var 4) (.lit (.int 0))) (.var 2))))))))) .nil))⟩
noncomputable def ij:Fn:=⟨1,[],3,
 (.cons (.ret (.comp false (.cls (.one 1) (.it (.var 0)) .nil (.last (.comp false (.cls (.one 2) (.it (.var 1)) .nil (.last (.new 0 (.cons (.intOf (.var 2)) (.cons (.lit (.int 0)) .nil)))))))))) .nil)⟩
noncomputable def jr:Fn:=⟨3,[],4,
 (.cons (.asg (.one 3) (.EJ (.var 0) 2 (.cons (.var 1) (.cons (.var 2) .nil)))) (.cons (.ED (.F2 false (.cons (.Fb (.var 3) .tbool) (.cons (.not (.Fb (.var 3) .tint)) (.cons (.cmp .lt (.var 3) (.lit (.int 1))) .nil)))) (.cons (.EH (.cons (.bin .add (.lit (.str "an image without a right ")) (.var 2)) .nil)) .nil) .nil) (.cons (.ret (.var 3)) .nil)))⟩
noncomputable def kn:Fn:=⟨2,[],3,
 (.cons (.asg (.one 2) (.EJ (.var 0) 2 (.cons (.var 1) (.cons (.lit (.str "ImageMask")) .nil)))) (.cons (.ret (.F2 true (.cons (.Fb (.var 2) .tbool) (.cons (.var 2) .nil)))) .nil))⟩
noncomputable def jt:Fn:=⟨2,[],3,
 (.cons (.ED (.F2 true (.cons (.call 50 (.cons (.var 0) (.cons (.var 1) .nil))) (.cons (.Ga (.EJ (.var 0) 2 (.cons (.var 1) (.cons (.lit (.str "BitsPerComponent")) .nil)))) .nil))) (.cons (.ret (.lit (.int 1))) .nil) .nil) (.cons (.asg (.one 2) (.call 49 (.cons (.var 0) (.cons (.var 1) (.cons (.lit (.str "BitsPerComponent")) .nil))))) (.cons (.ED (.F2 false (.cons (.cmp .notin (.var 2) (.glob 3)) (.cons (.F2 true (.cons (.call 50 (.cons (.var 0) (.cons (.var 1) .nil))) (.cons (.cmp .ne (.var 2) (.lit (.int 1))) .nil))) .nil))) (.cons (.EH (.cons (.lit (.str "an image without a right BitsPerComponent")) .nil)) .nil) .nil) (.cons (.ret (.var 2)) .nil))))⟩
noncomputable def gD:Fn:=⟨3,[],3,
 (.cons (.ret (.new 9 (.cons (.call 49 (.cons (.var 0) (.cons (.var 1) (.cons (.lit (.str "Width")) .nil)))) (.cons (.call 49 (.cons (.var 0) (.cons (.var 1) (.cons (.lit (.str "Height")) .nil)))) (.cons (.call 51 (.cons (.var 0) (.cons (.var 1) .nil))) (.cons (.var 2) .nil)))))) .nil)⟩
noncomputable def cP:Fn:=⟨4,[],9,
 (.cons (.asg (.one 4) (.EJ (.var 0) 2 (.cons (.var 1) (.cons (.lit (.str "Decode")) .nil)))) (.cons (.ED (.Ga (.var 4)) (.cons (.ret (.call 44 (.cons (.var 2) (.cons (.var 3) .nil)))) .nil) .nil) (.cons (.ED (.F2 false (.cons (.not (.Fb (.var 4) .tlist)) (.cons (.cmp .ne (.len (.var 4)) (.bin .mul (.lit (.int 2)) (.attr (.var 2) 11))) .nil))) (.cons (.EH (.cons (.lit (.str "a Decode of another length")) .nil)) .nil) .nil) (.cons (.asg (.one 5) (.comp false (.cls (.one 6) (.it (.var 4)) .nil (.last (.EJ (.var 0) 1 (.cons (.var 6) .nil)))))) (.cons (.ED (.cmp .ne (.comp false (.cls (.one 7) (.it (.var 5)) (.cons (.not (.call 12 (.cons (.var 7) .nil))) .nil) (.last (.var 7)))) (.lst false .nil)) (.cons (.EH (.cons (.lit (.str "a Decode that is no row of numbers")) .nil)) .nil) .nil) (.cons (.ret (.comp false (.cls (.one 8) (.Fv (.cons (.lit (.int 0)) (.cons (.len (.var 5)) (.cons (.lit (.int 2)) .nil)))) .nil (.last (.tup (.cons (.sub (.var 5) (.var 8)) (.cons (.sub (.var 5) (.bin .add (.var 8) (.lit (.int 1)))) .nil))))))) .nil))))))⟩
noncomputable def jU:Fn:=⟨4,[],6,
 (.cons (.ED (.call 50 (.cons (.var 0) (.cons (.var 2) .nil))) (.cons (.ret (.lit .none)) .nil) .nil) (.cons (.asg (.one 4) (.EJ (.var 0) 2 (.cons (.var 2) (.cons (.lit (.str "ColorSpace")) .nil)))) (.cons (.ED (.Ga (.var 4)) (.cons (.EH (.cons (.lit (.str "an image without a colour space")) .nil)) .nil) .nil) (.cons (.asg (.one 5) (.call 27 (.cons (.var 0) (.cons (.var 1) (.cons (.var 4) (.cons (.var 3) .nil)))))) (.cons (.ED (.cmp .eq (.attr (.var 5) 10) (.lit (.str "Pattern"))) (.cons (.EH (.cons (.lit (.str "an image of patterns")) .nil)) .nil) .nil) (.cons (.ret (.var 5)) .nil))))))⟩
noncomputable def jV:Fn:=⟨4,[],5,
 (.cons (.asg (.one 4) (.call 54 (.cons (.var 0) (.cons (.var 1) (.cons (.var 2) (.cons (.var 3) .nil)))))) (.cons (.ED (.Ga (.var 4)) (.cons (.ret (.tup (.cons (.call 52 (.cons (.var 0) (.cons (.var 2) (.cons (.lit (.int 1)) .nil)))) (.cons (.lit (.bool false)) .nil)))) .nil) .nil) (.cons (.ret (.tup (.cons (.call 52 (.cons (.var 0) (.cons (.var 2) (.cons (.attr (.var 4) 11) .nil)))) (.cons (.cmp .eq (.attr (.var 4) 10) (.lit (.str "Indexed"))) .nil)))) .nil)))⟩
noncomputable def ko:Fn:=⟨4,[],6,
 (.cons (.asg (.many [4,5]) (.call 55 (.cons (.var 0) (.cons (.var 1) (.cons (.attr (.var 2) 5) (.cons (.var 3) .nil)))))) (.cons (.ret (.call 40 (.cons (.Fu 3 (.cons (.var 0) (.cons (.var 2) .nil))) (.cons (.var 4) .nil)))) .nil))⟩
noncomputable def km:Fn:=⟨3,[],7,
 (.cons (.asg (.one 3) (.comp false (.cls (.one 5) (.it (.var 1)) .nil (.last (.EJ (.var 0) 1 (.cons (.var 5) .nil)))))) (.cons (.ED (.cmp .ne (.len (.var 3)) (.bin .mul (.lit (.int 2)) (.attr (.var 2) 11))) (.cons (.EH (.cons (.lit (.str "a Mask of another length")) .nil)) .nil) .nil) (.cons (.E1 (.one 4) (.it (.var 3)) (.cons (.ED (.F2 false (.cons (.Fb (.var 4) .tbool) (.cons (.not (.Fb (.var 4) .tint)) (.cons (.not (.Fz (.lit (.int 0)) .le (.var 4) .le (.EJ (.var 2) 9 .nil))) .nil)))) (.cons (.EH (.cons (.lit (.str "a Mask beyond the samples")) .nil)) .nil) .nil) .nil)) (.cons (.ret (.comp false (.cls (.one 6) (.Fv (.cons (.lit (.int 0)) (.cons (.len (.var 3)) (.cons (.lit (.int 2)) .nil)))) .nil (.last (.tup (.cons (.sub (.var 3) (.var 6)) (.cons (.sub (.var 3) (.bin .add (.var 6) (.lit (.int 1)))) .nil))))))) .nil))))⟩
noncomputable def d7:Fn:=⟨3,[],7,
 (.cons (.ED (.not (.call 50 (.cons (.var 0) (.cons (.attr (.var 1) 5) .nil)))) (.cons (.EH (.cons (.lit (.str "no image mask")) .nil)) .nil) .nil) (.cons (.asg (.one 3) (.call 52 (.cons (.var 0) (.cons (.attr (.var 1) 5) (.cons (.lit (.int 1)) .nil))))) (.cons (.asg (.many [4,5]) (.comp false (.cls (.one 6) (.it (.sub (.call 53 (.cons (.var 0) (.cons (.attr (.var 1) 5) (.cons (.var 3) (.cons (.lit (.bool false)) .nil))))) (.lit (.int 0)))) .nil (.last (.EJ (.call 4 (.cons (.var 6) .nil)) 0 .nil))))) (.cons (.ED (.cmp .notin (.tup (.cons (.var 4) (.cons (.var 5) .nil))) (.tup (.cons (.tup (.cons (.tup (.cons (.lit (.int 0)) (.cons (.lit (.int 0)) .nil))) (.cons (.tup (.cons (.lit (.int 1)) (.cons (.lit (.int 0)) .nil))) .nil))) (.cons (.tup (.cons (.tup (.cons (.lit (.int 1)) (.cons (.lit (.int 0)) .nil))) (.cons (.tup (.cons (.lit (.int 0)) (.cons (.lit (.int 0)) .nil))) .nil))) .nil)))) (.cons (.EH (.cons (.lit (.str "a mask with another Decode")) .nil)) .nil) .nil) (.cons (.ret (.call 47 (.cons (.call 40 (.cons (.Fu 2 (.cons (.var 0) (.cons (.var 1) .nil))) (.cons (.var 3) .nil))) (.cons (.sub (.var 4) (.lit (.int 0))) .nil)))) .nil)))))⟩
noncomputable def cI:Fn:=⟨4,[],9,
 (.cons (.asg (.one 4) (.call 52 (.cons (.var 0) (.cons (.attr (.var 1) 5) (.cons (.lit (.int 1)) .nil))))) (.cons (.asg (.one 5) (.call 53 (.cons (.var 0) (.cons (.attr (.var 1) 5) (.cons (.var 4) (.cons (.lit (.bool false)) .nil)))))) (.cons (.asg (.one 6) (.call 40 (.cons (.Fu 2 (.cons (.var 0) (.cons (.var 1) .nil))) (.cons (.var 4) .nil)))) (.cons (.ret (.comp false (.cls (.one 7) (.it (.var 6)) .nil (.last (.comp false (.cls (.one 8) (.it (.var 7)) .nil (.last (.sub (.call 45 (.cons (.var 8) (.cons (.attr (.var 4) 24) (.cons (.var 5) (.cons (.var 3) .nil))))) (.lit (.int 0)))))))))) .nil))))⟩
noncomputable def bI:Fn:=⟨5,[],15,
 (.cons (.asg (.many [7,8]) (.call 55 (.cons (.var 0) (.cons (.var 1) (.cons (.attr (.var 2) 5) (.cons (.var 3) .nil)))))) (.cons (.asg (.one 5) (.EJ (.var 0) 2 (.cons (.attr (.var 2) 5) (.cons (.lit (.str "SMask")) .nil)))) (.cons (.asg (.one 6) (.EJ (.var 0) 2 (.cons (.attr (.var 2) 5) (.cons (.lit (.str "Mask")) .nil)))) (.cons (.ED (.Fb (.var 5) (.cls 3)) (.cons (.ret (.call 41 (.cons (.call 59 (.cons (.var 0) (.cons (.var 5) (.cons (.var 3) (.cons (.var 4) .nil))))) (.cons (.attr (.var 7) 22) (.cons (.attr (.var 7) 23) .nil))))) .nil) .nil) (.cons (.ED (.Fb (.var 6) (.cls 3)) (.cons (.ret (.call 48 (.cons (.call 41 (.cons (.call 58 (.cons (.var 0) (.cons (.var 6) (.cons (.var 3) .nil)))) (.cons (.attr (.var 7) 22) (.cons (.attr (.var 7) 23) .nil)))) .nil))) .nil) .nil) (.cons (.ED (.Fb (.var 6) .tlist) (.cons (.asg (.one 9) (.call 57 (.cons (.var 0) (.cons (.var 6) (.cons (.var 7) .nil))))) (.cons (.asg (.one 10) (.call 56 (.cons (.var 0) (.cons (.var 1) (.cons (.var 2) (.cons (.var 3) .nil)))))) (.cons (.ret (.call 48 (.cons (.comp false (.cls (.one 11) (.it (.var 10)) .nil (.last (.comp false (.cls (.one 12) (.it (.var 11)) .nil (.last (.not (.call 46 (.cons (.var 12) (.cons (.var 9) .nil)))))))))) .nil))) .nil))) .nil) (.cons (.ret (.comp false (.cls (.one 13) (.Fv (.cons (.attr (.var 7) 23) .nil)) .nil (.last (.comp false (.cls (.one 14) (.Fv (.cons (.attr (.var 7) 22) .nil)) .nil (.last (.new 0 (.cons (.lit (.int 1)) (.cons (.lit (.int 0)) .nil)))))))))) .nil)))))))⟩
noncomputable def lD:Fn:=⟨1,[],3,
 (.cons (.asg (.one 1) (.comp true (.cls (.one 2) (.it (.slice (.var 0) .no (.yes (.lit (.int 63))))) .nil (.last (.intOf (.var 2)))))) (.cons (.ret (.lst true (.cons (.var 1) (.cons (.lit (.int 0)) (.cons (.lit (.int 0)) (.cons (.bin .mod (.sum (.var 1)) (.lit (.int 1009))) .nil)))))) .nil))⟩
noncomputable def ju:Fn:=⟨2,[],3,
 (.cons (.ED (.F2 true (.cons (.cmp .eq (.sub (.var 0) (.lit (.int 1))) (.lit (.int 0))) (.cons (.cmp .ne (.sub (.var 0) (.lit (.int 0))) (.lst false .nil)) .nil))) (.cons (.EY (.var 0) (.lit (.int 1)) (.abs (.Gw (.sub (.var 0) (.lit (.int 0)))))) .nil) .nil) (.cons (.asg (.one 2) (.bin .mod (.sub (.var 0) (.lit (.int 1))) (.var 1))) (.cons (.EY (.var 0) (.lit (.int 1)) (.bin .div (.sub (.var 0) (.lit (.int 1))) (.var 1))) (.cons (.EY (.var 0) (.lit (.int 2)) (.bin .add (.sub (.var 0) (.lit (.int 2))) (.lit (.int 1)))) (.cons (.ret (.bin .mod (.bin .add (.bin .add (.var 2) (.bin .mul (.sub (.var 0) (.lit (.int 2))) (.sub (.var 0) (.lit (.int 3))))) (.bin .div (.bin .mul (.sub (.var 0) (.lit (.int 2))) (.bin .add (.sub (.var 0) (.lit (.int 2))) (.lit (.int 1)))) (.lit (.int 2)))) (.var 1))) .nil)))))⟩
noncomputable def jZ:Fn:=⟨3,[],3,
 (.cons (.ret (.ED (.cmp .eq (.call 62 (.cons (.var 0) (.cons (.lit (.int 3)) .nil))) (.lit (.int 0))) (.EJ (.var 1) 3 (.cons (.var 2) .nil)) (.var 2))) .nil)⟩
noncomputable def lH:Fn:=⟨3,[],7,
 (.cons (.asg (.one 3) (.Go true [] .nil)) (.cons (.E1 (.one 4) (.keys (.var 2)) (.cons (.asg (.one 5) (.sub (.var 2) (.var 4))) (.cons (.ED (.Fb (.var 5) .tlist) (.cons (.asg (.one 5) (.comp false (.cls (.one 6) (.it (.var 5)) .nil (.last (.call 63 (.cons (.var 0) (.cons (.var 1) (.cons (.var 6) .nil)))))))) .nil) .nil) (.cons (.EY (.var 3) (.var 4) (.call 63 (.cons (.var 0) (.cons (.var 1) (.cons (.var 5) .nil))))) .nil)))) (.cons (.ret (.freeze (.var 3))) .nil)))⟩
noncomputable def jX:Fn:=⟨5,[],11,
 (.cons (.asg (.one 5) (.lst false (.cons (.lit (.int 0)) (.cons (.bin .sub (.bin .pow (.lit (.int 2)) (.var 3)) (.lit (.int 1))) (.cons (.lit (.int 1)) (.cons (.bin .div (.bin .pow (.lit (.int 2)) (.var 3)) (.lit (.int 2))) .nil)))))) (.cons (.asg (.one 6) (.lst true .nil)) (.cons (.E1 (.one 7) (.Fv (.cons (.var 2) .nil)) (.cons (.asg (.one 8) (.lst true .nil)) (.cons (.E1 (.one 9) (.Fv (.cons (.var 1) .nil)) (.cons (.app (.var 8) (.E8 (.comp false (.cls (.one 10) (.Fv (.cons (.var 4) .nil)) .nil (.last (.ED (.cmp .eq (.call 62 (.cons (.var 0) (.cons (.lit (.int 2)) .nil))) (.lit (.int 0))) (.sub (.var 5) (.call 62 (.cons (.var 0) (.cons (.lit (.int 4)) .nil)))) (.call 62 (.cons (.var 0) (.cons (.bin .pow (.lit (.int 2)) (.var 3)) .nil))))))))) .nil)) (.cons (.app (.var 6) (.freeze (.var 8))) .nil)))) (.cons (.ret (.freeze (.var 6))) .nil))))⟩
noncomputable def lG:Fn:=⟨2,[],11,
 (.cons (.asg (.one 2) (.lst false (.cons (.lit (.int 33)) .nil))) (.cons (.E1 (.one 3) (.it (.var 0)) (.cons (.asg (.many [6,9]) (.tup (.cons (.lit (.int 0)) (.cons (.lit (.int 0)) .nil)))) (.cons (.E1 (.one 4) (.it (.var 3)) (.cons (.E1 (.one 10) (.it (.var 4)) (.cons (.asg (.many [6,9]) (.tup (.cons (.bin .add (.bin .mul (.var 6) (.bin .pow (.lit (.int 2)) (.var 1))) (.var 10)) (.cons (.bin .add (.var 9) (.var 1)) .nil)))) .nil)) .nil)) (.cons (.asg (.one 5) (.bin .mod (.neg (.var 9)) (.lit (.int 8)))) (.cons (.asg (.one 6) (.bin .mul (.var 6) (.bin .pow (.lit (.int 2)) (.var 5)))) (.cons (.asg (.one 7) (.lst true .nil)) (.cons (.E1 (.one 8) (.Fv (.cons (.bin .div (.bin .add (.var 9) (.var 5)) (.lit (.int 8))) .nil)) (.cons (.app (.var 7) (.bin .mod (.var 6) (.lit (.int 256)))) (.cons (.asg (.one 6) (.bin .div (.var 6) (.lit (.int 256)))) .nil))) (.cons (.asg (.one 2) (.bin .add (.var 2) (.rev (.var 7)))) .nil)))))))) (.cons (.ret (.bytesOf (.var 2))) .nil)))⟩
noncomputable def lE:Fn:=⟨2,[],2,
 (.cons (.ret (.slice (.attr (.var 1) 3) (.yes (.lit (.int 1))) .no)) .nil)⟩
noncomputable def m7:Fn:=⟨1,[],3,
 (.cons (.asg (.many [1,2]) (.tup (.cons (.bin .sub (.call 62 (.cons (.var 0) (.cons (.lit (.int 30001)) .nil))) (.lit (.int 12000))) (.cons (.call 62 (.cons (.var 0) (.cons (.lit (.int 4)) .nil))) .nil)))) (.cons (.ED (.cmp .eq (.var 2) (.lit (.int 0))) (.cons (.ret (.tup (.cons (.bin .mul (.lit (.int 10000)) (.bin .sub (.bin .mod (.var 1) (.lit (.int 3))) (.lit (.int 1)))) (.cons (.bin .sub (.bin .mod (.var 1) (.lit (.int 3))) (.lit (.int 1))) .nil)))) .nil) .nil) (.cons (.ret (.ED (.cmp .eq (.var 2) (.lit (.int 1))) (.tup (.cons (.bin .mul (.lit (.int 5000)) (.bin .mod (.var 1) (.lit (.int 5)))) (.cons (.new 0 (.cons (.bin .mul (.lit (.int 5)) (.bin .mod (.var 1) (.lit (.int 5)))) (.cons (.lit (.int 1)) .nil))) .nil))) (.tup (.cons (.var 1) (.cons (.new 0 (.cons (.var 1) (.cons (.lit (.int 4)) .nil))) .nil))))) .nil)))⟩
noncomputable def lF:Fn:=⟨3,[],4,
 (.cons (.asg (.one 3) (.bin .div (.bin .add (.bin .mul (.bin .mul (.lit (.int 2)) (.abs (.var 0))) (.bin .pow (.lit (.int 10)) (.var 2))) (.var 1)) (.bin .mul (.lit (.int 2)) (.var 1)))) (.cons (.ret (.EJ (.new 0 (.cons (.ED (.cmp .lt (.var 0) (.lit (.int 0))) (.neg (.var 3)) (.var 3)) (.cons (.var 2) .nil))) 0 .nil)) .nil))⟩
noncomputable def dk:Fn:=⟨4,[],17,
 (.cons (.asg (.many [8,9,10]) (.tup (.cons (.sub (.tup (.cons (.lit (.int 8)) (.cons (.lit (.int 1)) (.cons (.lit (.int 2)) (.cons (.lit (.int 4)) (.cons (.lit (.int 16)) .nil)))))) (.call 62 (.cons (.var 0) (.cons (.lit (.int 5)) .nil)))) (.cons (.bin .add (.lit (.int 1)) (.call 62 (.cons (.var 0) (.cons (.lit (.int 3)) .nil)))) (.cons (.bin .add (.lit (.int 1)) (.call 62 (.cons (.var 0) (.cons (.lit (.int 3)) .nil)))) .nil))))) (.cons (.asg (.one 4) (.call 65 (.cons (.var 0) (.cons (.var 9) (.cons (.var 10) (.cons (.var 8) (.cons (.lit (.int 1)) .nil))))))) (.cons (.asg (.one 5) (.Go true ["Subtype","Width","Height","ColorSpace","BitsPerComponent"] (.cons (.new 1 (.cons (.lit (.str "Image")) .nil)) (.cons (.var 9) (.cons (.var 10) (.cons (.new 1 (.cons (.lit (.str "DeviceGray")) .nil)) (.cons (.var 8) .nil))))))) (.cons (.asg (.many [11,12]) (.tup (.cons (.tup (.cons (.lit (.int 0)) (.cons (.lit (.int 0)) .nil))) (.cons (.tup (.cons (.lit (.int 10000)) (.cons (.lit (.int 1)) .nil))) .nil)))) (.cons (.ED (.cmp .gt (.call 62 (.cons (.var 0) (.cons (.lit (.int 4)) .nil))) (.lit (.int 0))) (.cons (.asg (.many [11,12]) (.tup (.cons (.call 68 (.cons (.var 0) .nil)) (.cons (.call 68 (.cons (.var 0) .nil)) .nil)))) (.cons (.EY (.var 5) (.lit (.str "Decode")) (.lst false (.cons (.sub (.var 11) (.lit (.int 1))) (.cons (.sub (.var 12) (.lit (.int 1))) .nil)))) .nil)) .nil) (.cons (.ED (.var 3) (.cons (.asg (.many [13,14]) (.sub (.tup (.cons (.tup (.cons (.lit (.str "Width")) (.cons (.lit (.int 0)) .nil))) (.cons (.tup (.cons (.lit (.str "Height")) (.cons (.bin .add (.var 10) (.lit (.int 1))) .nil))) (.cons (.tup (.cons (.lit (.str "BitsPerComponent")) (.cons (.lit (.int 3)) .nil))) (.cons (.tup (.cons (.lit (.str "Decode")) (.cons (.lst false (.cons (.lit (.int 0)) (.cons (.lit (.int 1)) (.cons (.lit (.int 1)) .nil)))) .nil))) (.cons (.tup (.cons (.lit (.str "Decode")) (.cons (.lst false (.cons (.lit (.int 0)) (.cons (.lit (.bool true)) .nil))) .nil))) (.cons (.tup (.cons (.lit (.str "Width")) (.cons (.lit (.bool true)) .nil))) .nil))))))) (.call 62 (.cons (.var 0) (.cons (.lit (.int 6)) .nil))))) (.cons (.EY (.var 5) (.var 13) (.var 14)) .nil)) .nil) (.cons (.asg (.one 6) (.bin .sub (.bin .pow (.lit (.int 2)) (.var 8)) (.lit (.int 1)))) (.cons (.asg (.one 7) (.comp false (.cls (.one 15) (.it (.var 4)) .nil (.last (.comp false (.cls (.one 16) (.it (.var 15)) .nil (.last (.call 69 (.cons (.bin .add (.bin .mul (.sub (.var 11) (.lit (.int 0))) (.bin .sub (.var 6) (.sub (.var 16) (.lit (.int 0))))) (.bin .mul (.sub (.var 12) (.lit (.int 0))) (.sub (.var 16) (.lit (.int 0))))) (.cons (.bin .mul (.lit (.int 10000)) (.var 6)) (.cons (.var 2) .nil))))))))))) (.cons (.ret (.tup (.cons (.new 3 (.cons (.call 64 (.cons (.var 0) (.cons (.var 1) (.cons (.freeze (.var 5)) .nil)))) (.cons (.call 66 (.cons (.var 4) (.cons (.var 8) .nil))) .nil))) (.cons (.var 7) .nil)))) .nil)))))))))⟩
noncomputable def bx:Fn:=⟨3,[],14,
 (.cons (.asg (.many [8,9]) (.tup (.cons (.bin .add (.lit (.int 1)) (.call 62 (.cons (.var 0) (.cons (.lit (.int 4)) .nil)))) (.cons (.bin .add (.lit (.int 1)) (.call 62 (.cons (.var 0) (.cons (.lit (.int 3)) .nil)))) .nil)))) (.cons (.asg (.one 3) (.call 65 (.cons (.var 0) (.cons (.var 8) (.cons (.var 9) (.cons (.lit (.int 1)) (.cons (.lit (.int 1)) .nil))))))) (.cons (.asg (.one 4) (.Go true ["ImageMask","Width","Height"] (.cons (.lit (.bool true)) (.cons (.var 8) (.cons (.var 9) .nil))))) (.cons (.ED (.cmp .eq (.call 62 (.cons (.var 0) (.cons (.lit (.int 2)) .nil))) (.lit (.int 0))) (.cons (.EY (.var 4) (.lit (.str "BitsPerComponent")) (.lit (.int 1))) .nil) .nil) (.cons (.asg (.one 5) (.call 62 (.cons (.var 0) (.cons (.lit (.int 5)) .nil)))) (.cons (.ED (.cmp .gt (.var 5) (.lit (.int 0))) (.cons (.EY (.var 4) (.lit (.str "Decode")) (.sub (.tup (.cons (.lst false (.cons (.lit (.int 0)) (.cons (.lit (.int 1)) .nil))) (.cons (.lst false (.cons (.lit (.int 1)) (.cons (.lit (.int 0)) .nil))) (.cons (.lst false (.cons (.new 0 (.cons (.lit (.int 0)) (.cons (.lit (.int 0)) .nil))) (.cons (.new 0 (.cons (.lit (.int 10)) (.cons (.lit (.int 1)) .nil))) .nil))) (.cons (.lst false (.cons (.new 0 (.cons (.lit (.int 1)) (.cons (.lit (.int 0)) .nil))) (.cons (.lit (.int 0)) .nil))) .nil))))) (.bin .sub (.var 5) (.lit (.int 1))))) .nil) .nil) (.cons (.ED (.var 2) (.cons (.asg (.many [10,11]) (.sub (.tup (.cons (.tup (.cons (.lit (.str "ImageMask")) (.cons (.lit (.bool false)) .nil))) (.cons (.tup (.cons (.lit (.str "BitsPerComponent")) (.cons (.lit (.int 2)) .nil))) (.cons (.tup (.cons (.lit (.str "Decode")) (.cons (.lst false (.cons (.lit (.int 0)) (.cons (.new 0 (.cons (.lit (.int 5)) (.cons (.lit (.int 1)) .nil))) .nil))) .nil))) (.cons (.tup (.cons (.lit (.str "Decode")) (.cons (.lst false (.cons (.lit (.int 1)) (.cons (.lit (.int 1)) .nil))) .nil))) (.cons (.tup (.cons (.lit (.str "Height")) (.cons (.bin .add (.var 9) (.lit (.int 1))) .nil))) (.cons (.tup (.cons (.lit (.str "ImageMask")) (.cons (.lit (.int 1)) .nil))) .nil))))))) (.call 62 (.cons (.var 0) (.cons (.lit (.int 6)) .nil))))) (.cons (.EY (.var 4) (.var 10) (.var 11)) .nil)) .nil) (.cons (.asg (.one 6) (.ED (.cmp .isin (.var 5) (.tup (.cons (.lit (.int 2)) (.cons (.lit (.int 4)) .nil)))) (.lit (.int 1)) (.lit (.int 0)))) (.cons (.asg (.one 7) (.comp false (.cls (.one 12) (.it (.var 3)) .nil (.last (.comp false (.cls (.one 13) (.it (.var 12)) .nil (.last (.tup (.cons (.intOf (.cmp .eq (.sub (.var 13) (.lit (.int 0))) (.var 6))) (.cons (.lit (.int 0)) .nil)))))))))) (.cons (.ret (.tup (.cons (.new 3 (.cons (.call 64 (.cons (.var 0) (.cons (.var 1) (.cons (.freeze (.var 4)) .nil)))) (.cons (.call 66 (.cons (.var 3) (.cons (.lit (.int 1)) .nil))) .nil))) (.cons (.var 7) .nil)))) .nil))))))))))⟩
noncomputable def cr:Fn:=⟨5,[],19,
 (.cons (.asg (.one 5) (.sub (.sub (.var 1) (.call 62 (.cons (.var 0) (.cons (.len (.var 1)) .nil)))) (.call 62 (.cons (.var 0) (.cons (.len (.sub (.var 1) (.lit (.int 0)))) .nil))))) (.cons (.asg (.one 6) (.lst true .nil)) (.cons (.E1 (.one 7) (.Fv (.cons (.var 3) .nil)) (.cons (.asg (.one 11) (.ED (.cmp .gt (.call 62 (.cons (.var 0) (.cons (.lit (.int 3)) .nil))) (.lit (.int 0))) (.max2 (.bin .sub (.sub (.var 5) (.var 7)) (.call 62 (.cons (.var 0) (.cons (.lit (.int 2)) .nil)))) (.lit (.int 0))) (.call 62 (.cons (.var 0) (.cons (.bin .pow (.lit (.int 2)) (.var 2)) .nil))))) (.cons (.app (.var 6) (.tup (.cons (.var 11) (.cons (.min2 (.bin .add (.var 11) (.call 62 (.cons (.var 0) (.cons (.lit (.int 3)) .nil)))) (.bin .sub (.bin .pow (.lit (.int 2)) (.var 2)) (.lit (.int 1)))) .nil)))) .nil))) (.cons (.asg (.one 8) (.lst true .nil)) (.cons (.Iy 6) (.cons (.E1 (.one 9) (.it (.var 1)) (.cons (.asg (.one 12) (.comp false (.cls (.one 14) (.it (.var 9)) .nil (.last (.comp false (.cls (.one 15) (.Fv (.cons (.var 3) .nil)) (.cons (.not (.Fz (.sub (.sub (.var 6) (.var 15)) (.lit (.int 0))) .le (.sub (.var 14) (.var 15)) .le (.sub (.sub (.var 6) (.var 15)) (.lit (.int 1))))) .nil) (.last (.var 15)))))))) (.cons (.app (.var 8) (.comp false (.cls (.one 16) (.it (.var 12)) .nil (.last (.tup (.cons (.ED (.cmp .ne (.var 16) (.lst false .nil)) (.lit (.int 1)) (.lit (.int 0))) (.cons (.lit (.int 0)) .nil))))))) .nil))) (.cons (.asg (.one 10) (.comp false (.cls (.one 17) (.it (.var 6)) .nil (.cls (.one 18) (.it (.var 17)) .nil (.last (.var 18)))))) (.cons (.ED (.var 4) (.cons (.asg (.one 13) (.call 62 (.cons (.var 0) (.cons (.len (.var 10)) .nil)))) (.cons (.asg (.one 10) (.sub (.tup (.cons (.bin .add (.var 10) (.lst false (.cons (.lit (.int 0)) .nil))) (.cons (.bin .add (.bin .add (.slice (.var 10) .no (.yes (.var 13))) (.lst false (.cons (.bin .pow (.lit (.int 2)) (.var 2)) .nil))) (.slice (.var 10) (.yes (.bin .add (.var 13) (.lit (.int 1)))) .no)) (.cons (.bin .add (.bin .add (.slice (.var 10) .no (.yes (.var 13))) (.lst false (.cons (.neg (.lit (.int 1))) .nil))) (.slice (.var 10) (.yes (.bin .add (.var 13) (.lit (.int 1)))) .no)) (.cons (.bin .add (.bin .add (.slice (.var 10) .no (.yes (.var 13))) (.lst false (.cons (.lit (.bool true)) .nil))) (.slice (.var 10) (.yes (.bin .add (.var 13) (.lit (.int 1)))) .no)) (.cons (.slice (.var 10) (.yes (.lit (.int 1))) .no) .nil)))))) (.call 62 (.cons (.var 0) (.cons (.lit (.int 5)) .nil))))) .nil)) .nil) (.cons (.ret (.tup (.cons (.var 10) (.cons (.freeze (.var 8)) .nil)))) .nil)))))))))⟩
noncomputable def jY:Fn:=⟨3,[],4,
 (.cons (.ret (.len (.comp false (.cls (.one 3) (.Fv (.cons (.lit (.int 1)) (.cons (.var 2) .nil))) (.cons (.cmp .le (.bin .mul (.bin .mul (.lit (.int 2)) (.var 1)) (.var 3)) (.bin .mul (.bin .add (.bin .mul (.lit (.int 2)) (.var 0)) (.lit (.int 1))) (.var 2))) .nil) (.last (.var 3)))))) .nil)⟩
noncomputable def jW:Fn:=⟨3,[],7,
 (.cons (.asg (.one 3) (.comp false (.cls (.one 4) (.Fv (.cons (.var 2) .nil)) .nil (.last (.sub (.var 0) (.call 73 (.cons (.var 4) (.cons (.var 2) (.cons (.len (.var 0)) .nil))))))))) (.cons (.ret (.comp false (.cls (.one 5) (.it (.var 3)) .nil (.last (.comp false (.cls (.one 6) (.Fv (.cons (.var 1) .nil)) .nil (.last (.sub (.var 5) (.call 73 (.cons (.var 6) (.cons (.var 1) (.cons (.len (.var 5)) .nil)))))))))))) .nil))⟩
noncomputable def gU:Fn:=⟨3,[],6,
 (.cons (.asg (.one 3) (.lit .none)) (.cons (.Gu 3 (.call 60 (.cons (.var 0) (.cons (.Go false [] .nil) (.cons (.var 1) (.cons (.I9 67) (.cons (.var 2) .nil))))))) (.cons (.ret (.ED (.Ga (.var 3)) (.var 3) (.comp false (.cls (.one 4) (.it (.var 3)) .nil (.last (.comp false (.cls (.one 5) (.it (.var 4)) .nil (.last (.EJ (.var 5) 0 .nil))))))))) .nil)))⟩
noncomputable def gC:Fn:=⟨1,[],24,
 (.cons (.asg (.one 1) (.call 61 (.cons (.var 0) .nil))) (.cons (.asg (.many [8,9,10]) (.tup (.cons (.call 62 (.cons (.var 1) (.cons (.lit (.int 6)) .nil))) (.cons (.call 62 (.cons (.var 1) (.cons (.lit (.int 3)) .nil))) (.cons (.call 62 (.cons (.var 1) (.cons (.lit (.int 4)) .nil))) .nil))))) (.cons (.asg (.many [11,12]) (.tup (.cons (.new 5 .nil) (.cons (.sub (.tup (.cons (.lit (.int 4)) (.cons (.lit (.int 0)) (.cons (.lit (.int 1)) (.cons (.lit (.int 2)) (.cons (.lit (.int 3)) (.cons (.lit (.int 9)) .nil))))))) (.call 62 (.cons (.var 1) (.cons (.lit (.int 6)) .nil)))) .nil)))) (.cons (.asg (.many [13,14]) (.sub (.tup (.cons (.tup (.cons (.lit (.str "DeviceGray")) (.cons (.lit (.int 1)) .nil))) (.cons (.tup (.cons (.lit (.str "DeviceRGB")) (.cons (.lit (.int 3)) .nil))) (.cons (.tup (.cons (.lit (.str "DeviceCMYK")) (.cons (.lit (.int 4)) .nil))) .nil)))) (.call 62 (.cons (.var 1) (.cons (.lit (.int 3)) .nil))))) (.cons (.asg (.many [15,16,17]) (.tup (.cons (.sub (.tup (.cons (.lit (.int 2)) (.cons (.lit (.int 16)) (.cons (.lit (.int 1)) (.cons (.lit (.int 8)) (.cons (.lit (.int 4)) .nil)))))) (.call 62 (.cons (.var 1) (.cons (.lit (.int 5)) .nil)))) (.cons (.bin .add (.lit (.int 1)) (.call 62 (.cons (.var 1) (.cons (.lit (.int 4)) .nil)))) (.cons (.bin .add (.lit (.int 1)) (.call 62 (.cons (.var 1) (.cons (.lit (.int 3)) .nil)))) .nil))))) (.cons (.asg (.one 2) (.call 65 (.cons (.var 1) (.cons (.var 16) (.cons (.var 17) (.cons (.var 15) (.cons (.var 14) .nil))))))) (.cons (.asg (.one 3) (.Go true ["Width","Height","ColorSpace","BitsPerComponent"] (.cons (.var 16) (.cons (.var 17) (.cons (.new 1 (.cons (.var 13) .nil)) (.cons (.var 15) .nil)))))) (.cons (.ED (.cmp .eq (.call 62 (.cons (.var 1) (.cons (.lit (.int 3)) .nil))) (.lit (.int 0))) (.cons (.EY (.var 3) (.lit (.str "ImageMask")) (.lit (.bool false))) .nil) .nil) (.cons (.asg (.one 4) (.comp false (.cls (.one 22) (.it (.var 2)) .nil (.last (.comp false (.cls (.one 23) (.it (.var 22)) .nil (.last (.tup (.cons (.lit (.int 1)) (.cons (.lit (.int 0)) .nil)))))))))) (.cons (.asg (.one 5) (.lit (.bool false))) (.cons (.ED (.cmp .gt (.var 10) (.lit (.int 0))) (.cons (.asg (.one 5) (.cmp .eq (.var 8) (.lit (.int 1)))) (.cons (.asg (.many [18,19]) (.ED (.cmp .eq (.var 10) (.lit (.int 1))) (.call 71 (.cons (.var 1) (.cons (.var 11) (.cons (.var 5) .nil)))) (.call 72 (.cons (.var 1) (.cons (.var 2) (.cons (.var 15) (.cons (.var 14) (.cons (.var 5) .nil)))))))) (.cons (.EY (.var 3) (.lit (.str "Mask")) (.var 18)) (.cons (.asg (.one 4) (.ED (.cmp .gt (.var 10) (.lit (.int 1))) (.var 19) (.call 74 (.cons (.var 19) (.cons (.var 16) (.cons (.var 17) .nil)))))) .nil)))) .nil) (.cons (.ED (.cmp .gt (.var 9) (.lit (.int 0))) (.cons (.asg (.one 5) (.cmp .eq (.var 8) (.lit (.int 2)))) (.cons (.asg (.many [20,21]) (.call 70 (.cons (.var 1) (.cons (.var 11) (.cons (.var 12) (.cons (.var 5) .nil)))))) (.cons (.EY (.var 3) (.lit (.str "SMask")) (.var 20)) (.cons (.asg (.one 4) (.call 74 (.cons (.var 21) (.cons (.var 16) (.cons (.var 17) .nil))))) .nil)))) (.cons (.ED (.cmp .eq (.call 62 (.cons (.var 1) (.cons (.lit (.int 2)) .nil))) (.lit (.int 0))) (.cons (.EY (.var 3) (.lit (.str "SMask")) (.sub (.tup (.cons (.new 1 (.cons (.lit (.str "None")) .nil)) (.cons (.lit (.int 5)) (.cons (.Go false ["Width"] (.cons (.lit (.int 1)) .nil)) .nil)))) (.call 62 (.cons (.var 1) (.cons (.lit (.int 3)) .nil))))) .nil) .nil) .nil)) (.cons (.asg (.one 6) (.new 3 (.cons (.call 64 (.cons (.var 1) (.cons (.var 11) (.cons (.freeze (.var 3)) .nil)))) (.cons (.call 66 (.cons (.var 2) (.cons (.var 15) .nil))) .nil)))) (.cons (.asg (.one 7) (.tup (.cons (.EJ (.var 11) 0 .nil) (.cons (.call 14 (.cons (.var 6) .nil)) .nil)))) (.cons (.ED (.cmp .ne (.call 75 (.cons (.var 11) (.cons (.var 6) (.cons (.var 12) .nil)))) (.ED (.var 5) (.lit .none) (.var 4))) (.cons (.ret (.lit (.bool false))) .nil) .nil) (.cons (.ret (.cmp .eq (.var 7) (.tup (.cons (.EJ (.var 11) 0 .nil) (.cons (.call 14 (.cons (.var 6) .nil)) .nil))))) .nil))))))))))))))))⟩
noncomputable def kj:List Fn:=[gp,jc,pf,fZ,gS,i8,wk,gT,m8,kr,iu,bJ,iL,cO,eB,qL,jb,kx,lJ,ir,ku,lI,io,i7,kt,ja,i9,mZ,i6,ik,ip,m4,gV,gw,gv,pg,j3,fe,j0,kq,gm,jT,iq,gR,gQ,il,m6,fK,ij,jr,kn,jt,gD,cP,jU,jV,ko,km,d7,cI,bI,lD,ju,jZ,lH,jX,lG,lE,m7,lF,dk,bx,cr,jY,jW,gU,gC]
noncomputable def i4:List j7:=[⟨[0,1],false,(some 0),[(0,1)]⟩,⟨[2],false,(some 8),[]⟩,⟨[3,4],false,none,[]⟩,⟨[5,3],false,(some 9),[]⟩,⟨[6,7],false,(some 10),[]⟩,⟨[8,9],false,(some 15),[(1,16),(2,17),(3,18),(4,19),(0,20)]⟩,⟨[10,11,12,8,13,14,15],false,(some 21),[]⟩,⟨[16,17,18],false,(some 24),[(1,25),(5,26)]⟩,⟨[19,20,21,11],true,(some 32),[(6,33),(7,34)]⟩,⟨[22,23,24,11],false,(some 36),[(8,37),(9,38)]⟩]
noncomputable def oB:List V:=[(.int 30),(.int 8),(.int 8),(.tup [(.int 1),(.int 2),(.int 4),(.int 8),(.int 16)])]
noncomputable def ak:dH:=⟨λ i=>i4[i]?,λ i=>kj[i]?,λ i=>oB[i]?⟩
end Mine
end
section
namespace Mine
open PySem PySem.W PySem.Calls PyProof.Rows
structure Pl where
 EB:Nat->P3
 FG:Nat->P3
 EF:Nat->Str
 FC:Nat->Str
 globN:Nat->Str
 P:dH
noncomputable abbrev bb(xs:List PJ)(n:Nat):Obj:={cls:=.type "list",data:=.seq xs.toArray n}
noncomputable abbrev iI(xs:List PJ)(n:Nat):Obj:={cls:=.type "tuple",data:=.seq xs.toArray n}
inductive nT(A:Qh->Prop)(B:Qh->Prop)(R:List Qh->Prop)(es:List Qh):Prop
 |mk (e:Qh) (r:List Qh):es=e::r->A e->B e->R r->nT A B R es
noncomputable def bY(P:QN):List Str->List Qh->Prop
 |[],es=>es=[]
 |k::ks,es=>nT (λ e=>∃t,e.key=.str k t) (λ e=>e.hash=Qf P k) (bY P ks) es
noncomputable def iG:List Int->List Qh->Prop
 |[],es=>es=[]
 |k::ks,es=>nT (λ e=>∃t,e.key=.int k t) (λ e=>e.hash=hashInt k) (iG ks) es
abbrev az:=List (P3×P3)
structure DC(a:P3)(ks:List String):Prop where
 sys:(a==WN)=false
 nd:ks.Nodup
 len:ks.length<=aq+1
 str:∀k∈ks,k.length<=aq
structure Dx(a:P3)(ks:List Int):Prop where
 sys:(a==WN)=false
 nd:ks.Nodup
 len:ks.length<=aq+1
inductive ii(f:List PJ->Nat->Obj)(ow:P3->Prop)(h:QG)(l:Nat)(R:List PJ->Prop)(v:PJ):Prop
 |mk (a:P3) (xs:List PJ) (n:Nat):v=.ref a->¬ow a->h.get? a=some (f xs n)->l<=aq->R xs->ii f ow h l R v
inductive vC(ks:List String)(P:QN)(ow:P3->Prop)(h:QG)(R:List PJ->Prop)(v:PJ):Prop
 |mk (a:P3) (es:List Qh) (n:Nat):v=.ref a->¬ow a->h.get? a=some (QM es n)->DC a ks->bY P (ks.map PD) es->R (es.map (·.val))->vC ks P ow h R v
inductive vy(pl:Pl)(c:Nat)(P:QN)(ow:P3->Prop)(h:QG)(R:List PJ->Prop)(v:PJ):Prop
 |mk (a d:P3) (es:List Qh) (n:Nat) (C:j7):v=.ref a->¬ow a->¬ow d->h.get? a=some (R2 (pl.EB c) d)->h.get? d=some (QM es n)->pl.P.cls c=some C->bY P (C.fields.map pl.EF) es->R (es.map (·.val))->vy pl c P ow h R v
inductive vx(φ:az)(i:Nat)(v:PJ):Prop
 |mk (p:P3×P3):φ[i]? =some p->v=.ref p.1->vx φ i v
inductive sj(s:String)(v:PJ):Prop
 |mk (l:s.length<=aq) (t:Tok):v=.str (PD s) t->sj s v
inductive so(b:List UInt8)(v:PJ):Prop
 |mk (l:b.length<=aq) (t:Tok):v=.bytes b.toArray t->so b v
inductive VC(A:PJ->Prop)(R:List PJ->Prop)(xs:List PJ):Prop
 |mk (x:PJ) (r:List PJ):xs=x::r->A x->R r->VC A R xs
mutual
noncomputable def VR(pl:Pl)(P:QN)(φ:az)(ow:P3->Prop)(h:QG):V->PJ->Prop
 |.none=>λ v=>v=.none
 |.bool b=>λ v=>v=.bool b
 |.int i=>λ v=>∃t,v=.int i t
 |.str s=>sj s
 |.bytes b=>so b
 |.tup vs=>ii iI ow h vs.length (am pl P φ ow h vs)
 |.list vs=>ii bb ow h vs.length (am pl P φ ow h vs)
 |.dict ks vs=>vC ks P ow h (am pl P φ ow h vs)
 |.inst c vs=>vy pl c P ow h (am pl P φ ow h vs)
 |.ref i=>vx φ i
 |.fn f=>λ v=>v=.ref (pl.FG f)
noncomputable def am(pl:Pl)(P:QN)(φ:az)(ow:P3->Prop)(h:QG):List V->List PJ->Prop
 |[]=>λ xs=>xs=[]
 |v::vs=>VC (VR pl P φ ow h v) (am pl P φ ow h vs)
end
theorem am.length:∀{vs:List V} {xs:List PJ},am pl P φ ow h vs xs->xs.length=vs.length
 |[],_,e=>congrArg Q2 (show _=[] from e)
 |_::vs,_,.mk _ r e _ b=>e▸congrArg (· +1) (am.length (vs:=vs) (xs:=r) b)
noncomputable def bZ(o:Obj)(x:Option Obj):Prop:=x=some o∨(o.cls=.type "frame" /\∃sl,x=some {o with slots:=sl})
noncomputable def b7(o:Obj)(x:Option Obj):Prop:=x=some o∨(o.cls=.type "frame" /\∃sl,x=some {o with slots:=sl})∨∃vs,o.data=.fields vs
theorem bZ.eq(k:bZ o x)(hc:o.cls≠.type "frame"):x=some o:=k.elim id λ e=>absurd e.1 hc
theorem bZ.weak(k:bZ o x):b7 o x:=k.imp id .inl
structure j6(o:Obj):Prop where
 cls:o.cls≠.type "frame"
 data:∀vs,o.data≠.fields vs
theorem b7.eq(k:b7 o x)(p:j6 o):x=some o:=k.elim id λ e=>e.elim (λ e=>absurd e.1 p.cls) λ e=>e.elim λ vs e=>absurd e (p.data vs)
theorem j6.tup:j6 (iI xs n):=⟨show W7 "tuple"≠.type "frame" by decide,λ zz h=>Tu h⟩
theorem j6.list:j6 (bb xs n):=⟨show W7 "list"≠.type "frame" by decide,λ zz h=>Tu h⟩
theorem j6.dict:j6 (QM es n):=⟨show W7 "dict"≠.type "frame" by decide,λ zz h=>Tu h⟩
theorem j6.inst:j6 (R2 c d):=⟨λ h=>RA h,λ zz h=>Tu h⟩
theorem dK{α:Type}{x:Option α}{a:α}{C:Prop}(h:x=some a)(g:x=none):C:=absurd (h.symm.trans g) (Wp a)
theorem kG{ow ow':P3->Prop}{h h':QG}{a:P3}{o:Obj}(hk:∀b o,h.get? b=some o->¬ow b->b7 o (h'.get? b))(ho:∀b,ow' b->ow b∨h.get? b=none)(na:¬ow a)(g:h.get? a=some o)(p:j6 o):¬ow' a/\h'.get? a=some o:=
 ⟨λ q=>(ho a q).elim na (dK g),(hk a _ g na).eq p⟩
mutual
theorem VR.mono{pl:Pl}{P:QN}{φ φ':az}{ow ow':P3->Prop}{h h':QG}(hp:φ<+:φ')(hk:∀b o,h.get? b=some o->¬ow b->b7 o (h'.get? b))(ho:∀b,ow' b->ow b∨h.get? b=none):
  ∀{x:V} {v:PJ},VR pl P φ ow h x v->VR pl P φ' ow' h' x v
 |.none,_,r=>r
 |.bool _,_,r=>r
 |.int _,_,r=>r
 |.str _,_,r=>r
 |.bytes _,_,r=>r
 |.tup _,_,.mk a xs n e na g l rs=>have q:=kG hk ho na g .tup;ii.mk a xs n e q.1 q.2 l (am.mono hp hk ho rs)
 |.list _,_,.mk a xs n e na g l rs=>have q:=kG hk ho na g .list;ii.mk a xs n e q.1 q.2 l (am.mono hp hk ho rs)
 |.dict _ _,_,.mk a es n e na g l ke rs=>have q:=kG hk ho na g .dict;vC.mk a es n e q.1 q.2 l ke (am.mono hp hk ho rs)
 |.inst _ _,_,.mk a d es n C e na nd g gd hc ke rs=>have q:=kG hk ho na g .inst;have q2:=kG hk ho nd gd .dict;vy.mk a d es n C e q.1 q2.1 q.2 q2.2 hc ke (am.mono hp hk ho rs)
 |.ref _,_,.mk p e q=>vx.mk p (hp.elim λ t et=>et▸(Qc (PL.mp e).1).trans e) q
 |.fn _,_,r=>r
theorem am.mono(hp:φ<+:φ')(hk:∀b o,h.get? b=some o->¬ow b->b7 o (h'.get? b))(ho:∀b,ow' b->ow b∨h.get? b=none):
  ∀{xs:List V} {vs:List PJ},am pl P φ ow h xs vs->am pl P φ' ow' h' xs vs
 |[],_,r=>r
 |_::_,_,.mk y t e a b=>VC.mk y t e (VR.mono hp hk ho a) (am.mono hp hk ho b)
end
section
variable{pl:Pl}{P:QN}{φ:az}{ow:P3->Prop}{h:QG}{v:PJ}{vs:List V}
theorem am.c(q:VC (VR pl P φ ow h x) (am pl P φ ow h vs) xs):am pl P φ ow h (x::vs) xs:=q
theorem VR.r(q:vx φ i v):VR pl P φ ow h (.ref i) v:=q
theorem VR.i{i:Int}(q:∃t,v=.int i t):VR pl P φ ow h (.int i) v:=q
theorem VR.s{s:String}(q:sj s v):VR pl P φ ow h (.str s) v:=q
theorem VR.y{s:List UInt8}(q:so s v):VR pl P φ ow h (.bytes s) v:=q
theorem VR.t(q:ii iI ow h vs.length (am pl P φ ow h vs) v):VR pl P φ ow h (.tup vs) v:=q
theorem VR.l(q:ii bb ow h vs.length (am pl P φ ow h vs) v):VR pl P φ ow h (.list vs) v:=q
theorem VR.d(q:vC ks P ow h (am pl P φ ow h vs) v):VR pl P φ ow h (.dict ks vs) v:=q
theorem VR.o(q:vy pl c P ow h (am pl P φ ow h vs) v):VR pl P φ ow h (.inst c vs) v:=q
end
inductive OL(h:QG)(p:P3×P3)(l:Nat)(R:List PJ->Prop):Prop
 |mk (e:p.2=p.1) (xs:List PJ) (n:Nat):h.get? p.1=some (bb xs n)->l<=aq->R xs->OL h p l R
inductive OD(h:QG)(p:P3×P3)(C:Prop)(K:List Qh->Prop)(R:List PJ->Prop):Prop
 |mk (e:p.2=p.1) (es:List Qh) (n:Nat):h.get? p.1=some (QM es n)->C->K es->R (es.map (·.val))->OD h p C K R
inductive OI(pl:Pl)(P:QN)(c:Nat)(l:Nat)(h:QG)(p:P3×P3)(R:List PJ->Prop):Prop
 |mk (e:p.1≠p.2) (es:List Qh) (n:Nat) (C:j7):h.get? p.1=some (R2 (pl.EB c) p.2)->h.get? p.2=some (QM es n)->pl.P.cls c=some C->l<=C.fields.length->bY P ((C.fields.take l).map pl.EF) es->R (es.map (·.val))->OI pl P c l h p R
noncomputable def OR(pl:Pl)(P:QN)(φ:az)(ow:P3->Prop)(h:QG)(p:P3×P3):O->Prop
 |.list vs=>OL h p vs.length (am pl P φ ow h vs)
 |.Er ks vs=>OD h p (DC p.1 ks) (bY P (ks.map PD)) (am pl P φ ow h vs)
 |.EE ks vs=>OD h p (Dx p.1 ks) (iG ks) (am pl P φ ow h vs)
 |.inst c vs=>OI pl P c vs.length h p (am pl P φ ow h vs)
inductive own(φ:az)(M:AH)(b:P3):Prop
 |mk (i:Nat) (p:P3×P3):(M.m i).isSome=true->φ[i]? =some p->(b=p.1∨b=p.2)->own φ M b
noncomputable def ow(W:P3->Prop)(φ:az)(M:AH)(b:P3):Prop:=W b∨own φ M b
noncomputable def bt:P3->Prop:=λ zz=>False
structure HR(pl:Pl)(P:QN)(B:QG)(W:P3->Prop)(φ:az)(M:AH)(h:QG):Prop where
 len:φ.length=M.next
 at_:∀i o,M.m i=some o->∃p,φ[i]? =some p/\OR pl P φ (ow W φ M) h p o
 apart:∀i j p q,(M.m i).isSome=true->(M.m j).isSome=true->φ[i]? =some p->φ[j]? =some q->i≠j->p.1≠q.1/\p.1≠q.2/\p.2≠q.1/\p.2≠q.2
 new:∀b,own φ M b->B.get? b=none
 ES:∀b,own φ M b->¬W b
structure St(pl:Pl)(P:QN)(B:QG)(W:P3->Prop)(fr:List Env)(φ:az)(M:AH)(s:PK):Prop where
 hr:HR pl P B W φ M s.heap
 base:B.StaysIn s.heap
 frames:s.heap.FunFrames B fr
 Fg:∀env∈fr,∀L,env.frame=some L->W L
 GH:∀env∈fr,∀L,env.frame=some L->∃o,s.heap.get? L=some o/\o.cls=.type "frame"
 FI:∀b,W b->∃o,s.heap.get? b=some o
 EW:∀b,W b->B.get? b=none
structure av(V:P3->Prop)(φ:az)(M:AH)(s:PK)(φ':az)(M':AH)(s':PK):Prop where
 pre:φ<+:φ'
 keep:∀b o,s.heap.get? b=some o->¬own φ M b->¬V b->bZ o (s'.heap.get? b)
 own:∀b,own φ' M' b->own φ M b∨s.heap.get? b=none
 alive:∀b o,s.heap.get? b=some o->∃o',s'.heap.get? b=some o'
 os:s'.os=s.os
 gens:s'.gens=s.gens
theorem bZ.refl:bZ o (some o):=.inl rfl
theorem aT{h:QG}(q:h.objs.size<=b):h.get? b=none:=by
 cases e:h.get? b with
 |none=>rfl
 |some o=>exact absurd (P9 e) (V4.mpr q)
theorem av.refl{V:P3->Prop}{φ:az}:av V φ M s φ M s:=⟨Pz _,λ zz zz e zz zz=>.inl e,λ zz h=>.inl h,λ zz o e=>⟨o,e⟩,rfl,rfl⟩
theorem av.dead{V:P3->Prop}{φ φ':az}(x:av V φ M s φ' M' s'){b:P3}(h:s'.heap.get? b=none):s.heap.get? b=none:=by
 cases e:s.heap.get? b with
 |none=>rfl
 |some o=>obtain⟨o',e'⟩:=x.alive b o e;rw[h] at e';cases e'
theorem av.trans{V:P3->Prop}{φ φ₁ φ₂:az}(x:av V φ M s φ₁ M₁ s₁)(y:av V φ₁ M₁ s₁ φ₂ M₂ s₂):av V φ M s φ₂ M₂ s₂:=by
 refine⟨x.pre.trans y.pre,λ b o e n nv=> ?_,λ b hb=> ?_,λ b o e=>let⟨o1,e1⟩:=x.alive b o e;y.alive b o1 e1,y.os.trans x.os,y.gens.trans x.gens⟩
 ·have n1:¬Mine.own φ₁ M₁ b:=λ q=>(x.own b q).elim n λ q=>by rw[q] at e;cases e
  rcases x.keep b o e n nv with k|⟨hc,sl,k⟩
  ·exact y.keep b o k n1 nv
  ·rcases y.keep b _ k n1 nv with k2|⟨_,sl2,k2⟩
   ·exact .inr ⟨hc,sl,k2⟩
   ·exact .inr ⟨hc,sl2,k2⟩
 ·rcases y.own b hb with q|q
  ·exact x.own b q
  ·exact .inr (x.dead q)
theorem av.mono{V V':P3->Prop}{φ φ':az}(x:av V φ M s φ' M' s')(hv:∀b,V b->b<s.heap.objs.size->V' b):av V' φ M s φ' M' s':=
 ⟨x.pre,λ b o e n nv=>x.keep b o e n λ q=>nv (hv b q (P9 e)),x.own,x.alive,x.os,x.gens⟩
theorem av.wide{V:P3->Prop}{φ φ':az}(x:av bt φ M s φ' M' s'):av V φ M s φ' M' s':=x.mono λ zz q=>q.elim
theorem av.F3{V V₁:P3->Prop}{φ φ₁ φ₂:az}(x:av V φ M s φ₁ M₁ s₁)(y:av V₁ φ₁ M₁ s₁ φ₂ M₂ s₂)(hv:∀b,V₁ b->V b∨s.heap.get? b=none):av V φ M s φ₂ M₂ s₂:=by
 refine⟨x.pre.trans y.pre,λ b o e n nv=> ?_,λ b hb=> ?_,λ b o e=>let⟨o1,e1⟩:=x.alive b o e;y.alive b o1 e1,y.os.trans x.os,y.gens.trans x.gens⟩
 ·have n1:¬Mine.own φ₁ M₁ b:=λ q=>(x.own b q).elim n λ q=>by rw[q] at e;cases e
  have MF:¬V₁ b:=λ q=>(hv b q).elim nv λ q=>by rw[q] at e;cases e
  rcases x.keep b o e n nv with k|⟨hc,sl,k⟩
  ·exact y.keep b o k n1 MF
  ·rcases y.keep b _ k n1 MF with k2|⟨_,sl2,k2⟩
   ·exact .inr ⟨hc,sl,k2⟩
   ·exact .inr ⟨hc,sl2,k2⟩
 ·rcases y.own b hb with q|q
  ·exact x.own b q
  ·exact .inr (x.dead q)
theorem av.trans'{V V₁:P3->Prop}{φ φ₁ φ₂:az}(x:av V φ M s φ₁ M₁ s₁)(y:av V₁ φ₁ M₁ s₁ φ₂ M₂ s₂)(hv:∀b,V₁ b->V b∨s.heap.objs.size<=b):av V φ M s φ₂ M₂ s₂:=
 x.F3 y λ b q=>(hv b q).imp id aT
section
variable{pl:Pl}{P:QN}{B:QG}{W V:P3->Prop}{fr:List Env}{φ φ':az}{M M':AH}{s s':PK}
theorem av.E3(x:av V φ M s φ' M' s')(hv:∀b,V b->W b):∀b o,s.heap.get? b=some o->¬ow W φ M b->b7 o (s'.heap.get? b):=
 λ b o e n=>(x.keep b o e (λ q=>n (.inr q)) λ q=>n (.inl (hv b q))).weak
theorem av.FW(x:av V φ M s φ' M' s'):∀b,ow W φ' M' b->ow W φ M b∨s.heap.get? b=none:=
 λ b q=>q.elim (λ q=>.inl (.inl q)) λ q=>(x.own b q).elim (λ q=>.inl (.inr q)) .inr
theorem VR.step(x:av V φ M s φ' M' s')(hv:∀b,V b->W b){y:Mine.V}{v:PJ}(r:VR pl P φ (ow W φ M) s.heap y v):VR pl P φ' (ow W φ' M') s'.heap y v:=VR.mono x.pre (x.E3 hv) x.FW r
theorem am.step(x:av V φ M s φ' M' s')(hv:∀b,V b->W b){v:List PJ}(r:am pl P φ (ow W φ M) s.heap y v):am pl P φ' (ow W φ' M') s'.heap y v:=am.mono x.pre (x.E3 hv) x.FW r
theorem VR.set{W':P3->Prop}{φ:az}{M:AH}{h:QG}(hw:∀b,W' b->W b∨h.get? b=none){y:Mine.V}{v:PJ}(r:VR pl P φ (ow W φ M) h y v):VR pl P φ (ow W' φ M) h y v:=
 VR.mono (Pz _) (λ zz zz e zz=>.inl e) (λ b q=>q.elim (λ q=>(hw b q).elim (λ q=>.inl (.inl q)) .inr) λ q=>.inl (.inr q)) r
theorem am.set{φ:az}{M:AH}{h:QG}(hw:∀b,W' b->W b∨h.get? b=none){v:List PJ}(r:am pl P φ (ow W φ M) h y v):am pl P φ (ow W' φ M) h y v:=
 am.mono (Pz _) (λ zz zz e zz=>.inl e) (λ b q=>q.elim (λ q=>(hw b q).elim (λ q=>.inl (.inl q)) .inr) λ q=>.inl (.inr q)) r
theorem OR.mono{φ φ':az}{h h':QG}(hp:φ<+:φ')(hk:∀b o,h.get? b=some o->¬o1 b->b7 o (h'.get? b))(ho:∀b,o2 b->o1 b∨h.get? b=none)
  (h1:∀o,h.get? p.1=some o->h'.get? p.1=some o)(h2:∀o,h.get? p.2=some o->h'.get? p.2=some o):∀{o:O},OR pl P φ o1 h p o->OR pl P φ' o2 h' p o
 |.list _,.mk e xs n g l r=>OL.mk e xs n (h1 _ g) l (am.mono hp hk ho r)
 |.Er _ _,.mk e es n g l k r=>OD.mk e es n (h1 _ g) l k (am.mono hp hk ho r)
 |.EE _ _,.mk e es n g l k r=>OD.mk e es n (h1 _ g) l k (am.mono hp hk ho r)
 |.inst _ _,.mk e es n C g gd c l k r=>OI.mk e es n C (h1 _ g) (h2 _ gd) c l k (am.mono hp hk ho r)
theorem cY(hm:(M.m i).isSome=true)(hp:φ[i]? =some p):own φ M p.1/\own φ M p.2:=⟨⟨i,p,hm,hp,.inl rfl⟩,⟨i,p,hm,hp,.inr rfl⟩⟩
theorem HR.same{h h':QG}(x:HR pl P B W φ M h)(hk:∀b o,h.get? b=some o->¬ow W φ M b->b7 o (h'.get? b))(FT:∀b o,own φ M b->h.get? b=some o->h'.get? b=some o)
  (hw:∀b,W' b->W b∨h.get? b=none):HR pl P B W' φ M h':=by
 have JS:∀i,(M.m i).isSome=true->∀p,φ[i]? =some p->(∃o,h.get? p.1=some o)/\∃o,h.get? p.2=some o:=by
  intro i hi p hp
  obtain⟨o,ho⟩:=P2.mp hi
  refine ai (x.at_ i o ho) λ q hq r=> ?_
  rw[hp] at hq;cases hq
  cases o with
  |list vs=>obtain⟨e,xs,n,g,_⟩:=r;exact⟨⟨_,g⟩,⟨_,by refine aa e ?_;exact g⟩⟩
  |Er ks vs=>obtain⟨e,xs,n,g,_⟩:=r;exact⟨⟨_,g⟩,⟨_,by refine aa e ?_;exact g⟩⟩
  |EE ks vs=>obtain⟨e,xs,n,g,_⟩:=r;exact⟨⟨_,g⟩,⟨_,by refine aa e ?_;exact g⟩⟩
  |inst c vs=>obtain⟨e,es,n,C,g,gd,_⟩:=r;exact⟨⟨_,g⟩,⟨_,gd⟩⟩
 refine⟨x.len,λ i o ho=> ?_,x.apart,x.new,λ b hb Oo=> ?_⟩
 ·refine ai (x.at_ i o ho) λ p hp r=> ?_
  have hs:(M.m i).isSome=true:=by refine aa ho ?_;rfl
  exact aA p hp (OR.mono (Pz _) hk (λ b q=>q.elim (λ q=>(hw b q).elim (λ q=>.inl (.inl q)) .inr) λ q=>.inl (.inr q))
   (λ o=>FT _ o (cY hs hp).1) (λ o=>FT _ o (cY hs hp).2) r)
 ·rcases hw b Oo with q|q
  ·exact x.ES b hb q
  ·obtain⟨i,p,hi,hp,e⟩:=hb
   obtain⟨⟨o1,h1⟩,⟨o2,h2⟩⟩:=JS i hi p hp
   rcases e with e|e<;>subst e
   ·rw[q] at h1;cases h1
   ·rw[q] at h2;cases h2
theorem HR.GP{h:QG}(x:HR pl P B W φ M h)(q:own φ M b):b<h.objs.size:=by
 obtain⟨i,p,hi,hp,e⟩:=q
 obtain⟨o1,ho⟩:=P2.mp hi
 refine ai (x.at_ i o1 ho) λ p' Fw r'=> ?_
 rw[hp] at Fw;cases Fw
 have key:∀c o',h.get? c=some o'->b=c->b<h.objs.size:=λ c o' e1 e2=>by refine aa e2 ?_;exact P9 e1
 cases o1 with
 |list vs=>obtain⟨e',xs,n,g1,_⟩:=r';rcases e with e|e;exact key _ _ g1 e;rw[e'] at e;exact key _ _ g1 e
 |Er ks vs=>obtain⟨e',xs,n,g1,_⟩:=r';rcases e with e|e;exact key _ _ g1 e;rw[e'] at e;exact key _ _ g1 e
 |EE ks vs=>obtain⟨e',xs,n,g1,_⟩:=r';rcases e with e|e;exact key _ _ g1 e;rw[e'] at e;exact key _ _ g1 e
 |inst c vs=>obtain⟨e',es,n,C,g1,gd,_⟩:=r';rcases e with e|e;exact key _ _ g1 e;exact key _ _ gd e
theorem b7.of_eq(h:x=some o):b7 o x:=.inl h
theorem kJ{B h h':QG}(k:∀L o,h.get? L=some o->(∀vs,o.data≠.fields vs)->∃o',h'.get? L=some o'/\∀vs,o'.data≠.fields vs):
  ∀{l:List Env},(∀env∈l,∀L,env.frame=some L->W L)->(∀L o,W L->h.get? L=some o->(∀vs,o.data≠.fields vs)->∃o',h'.get? L=some o'/\∀vs,o'.data≠.fields vs)->h.FunFrames B l->h'.FunFrames B l:=by
 intro l
 induction l with
 |nil=>
  intro y1 y2 y3
  exact trivial
 |cons env r ih=>
  intro hw k' y4
  refine ei y4 λ hk HP hr=> ?_;clear y4;rcases HP with⟨L,o,hf,hn,ho,hd⟩
  refine ai (k' L o (hw env (.head _) L hf) ho hd) λ o' e' d'=> ?_
  exact cg hk ⟨L,o',hf,hn,e',d'⟩ (ih (λ e he=>hw e (.tail _ he)) k' hr)
theorem St.IE(x:St pl P B W fr φ M s)(q:ow W φ M b):b<s.heap.objs.size:=q.elim (λ q=>let⟨_,e⟩:=x.FI b q;P9 e) x.hr.GP
theorem St.Ko(x:St pl P B W fr φ M s)(q:W b):b<s.heap.objs.size:=let⟨_,e⟩:=x.FI b q;P9 e
theorem St.ext{N:P3->Prop}(x:St pl P B W fr φ M s)(hk:∀b o,s.heap.get? b=some o->s'.heap.get? b=some o)
  (hN:∀b,N b->s.heap.get? b=none/\∃o,s'.heap.get? b=some o):St pl P B (λ b=>W b∨N b) fr φ M s':=by
 refine⟨x.hr.same (λ b o e zz=>.inl (hk b o e)) (λ b o zz e=>hk b o e) (λ b q=>q.imp id λ q=>(hN b q).1),λ b o e=>hk b o (x.base b o e),
  x.frames.of_keeps λ b o e zz=>⟨o,hk b o e,rfl⟩,λ env he L hf=>.inl (x.Fg env he L hf),λ env he L hf=>let⟨o,e,c⟩:=x.GH env he L hf;⟨o,hk _ _ e,c⟩,λ b q=> ?_,λ b q=> ?_⟩
 ·exact q.elim (λ q=>let⟨o,e⟩:=x.FI b q;⟨o,hk b o e⟩) λ q=>(hN b q).2
 ·rcases q with q|q
  ·exact x.EW b q
  ·cases e:B.get? b with
   |none=>rfl
   |some o=>have:=x.base b o e;rw[(hN b q).1] at this;cases this
theorem St.Gn(x:St pl P B W fr φ M s)(hk:∀b o,s.heap.get? b=some o->s'.heap.get? b=some o):St pl P B W fr φ M s':=
 ⟨x.hr.same (λ b o e zz=>.inl (hk b o e)) (λ b o zz e=>hk b o e) (λ b q=>.inl q),λ b o e=>hk b o (x.base b o e),
  x.frames.of_keeps λ b o e zz=>⟨o,hk b o e,rfl⟩,x.Fg,λ env he L hf=>let⟨o,e,c⟩:=x.GH env he L hf;⟨o,hk _ _ e,c⟩,λ b q=>let⟨o,e⟩:=x.FI b q;⟨o,hk b o e⟩,x.EW⟩
theorem av.ext(hk:∀b o,s.heap.get? b=some o->s'.heap.get? b=some o)(ho:s'.os=s.os)(hg:s'.gens=s.gens):av V φ M s φ M s':=
 ⟨Pz _,λ b o e zz zz=>.inl (hk b o e),λ zz q=>.inl q,λ b o e=>⟨o,hk b o e⟩,ho,hg⟩
theorem sd{V:P3->Prop}(hk:∀b o,s.heap.get? b=some o->¬V b->s'.heap.get? b=some o)(hd:∀b o,V b->s.heap.get? b=some o->∃o',s'.heap.get? b=some o'/\∀vs,o'.data≠.fields vs):
  ∀b o,s.heap.get? b=some o->∃o',s'.heap.get? b=some o':=λ b o e=>by
 by_cases q:V b
 ·refine ai (hd b o q e) λ o' e' zz=> ?_;exact⟨o',e'⟩
 ·exact⟨o,hk b o e q⟩
theorem St.changed(x:St pl P B W fr φ M s)(hk:∀b o,s.heap.get? b=some o->¬V b->s'.heap.get? b=some o)(hv:∀b,V b->W b)
  (hd:∀b o,V b->s.heap.get? b=some o->∃o',s'.heap.get? b=some o'/\∀vs,o'.data≠.fields vs)(hc:∀b o,V b->s.heap.get? b=some o->o.cls=.type "frame" ->(∃env∈fr,env.frame=some b)->∃o',s'.heap.get? b=some o'/\o'.cls=.type "frame"):St pl P B W fr φ M s':=by
 have hB:∀b o,B.get? b=some o->¬V b:=λ b o e q=>by rw[x.EW b (hv b q)] at e;cases e
 refine⟨x.hr.same (λ b o e n=>.inl (hk b o e λ q=>n (.inl (hv b q)))) (λ b o q e=>hk b o e λ qv=>x.hr.ES b q (hv b qv)) (λ b q=>.inl q),λ b o e=>hk b o (x.base b o e) (hB b o e),?_,x.Fg,λ env he L hf=> ?_,
  λ b q=>let⟨o,e⟩:=x.FI b q;sd hk hd b o e,x.EW⟩
 have all:∀L o,s.heap.get? L=some o->(∀vs,o.data≠.fields vs)->∃o',s'.heap.get? L=some o'/\∀vs,o'.data≠.fields vs:=λ L o e nd=>by
  by_cases q:V L
  ·exact hd L o q e
  ·exact aA o (hk L o e q) nd
 ·exact kJ all x.Fg (λ L o zz=>all L o) x.frames
 ·refine ai (x.GH env he L hf) λ o e c=> ?_
  by_cases q:V L
  ·exact hc L o q e c ⟨env,he,hf⟩
  ·exact aA o (hk L o e q) c
theorem av.changed(hk:∀b o,s.heap.get? b=some o->¬V b->s'.heap.get? b=some o)(hd:∀b o,V b->s.heap.get? b=some o->∃o',s'.heap.get? b=some o'/\∀vs,o'.data≠.fields vs)(ho:s'.os=s.os)(hg:s'.gens=s.gens):av V φ M s φ M s':=
 ⟨Pz _,λ b o e zz nv=>.inl (hk b o e nv),λ zz q=>.inl q,sd hk hd,ho,hg⟩
theorem St.back(x:St pl P B W fr φ M s)(y:St pl P B W' (fr'++fr) φ' M' s')(hw:∀b,W b->W' b):St pl P B W fr φ' M' s':=by
 refine⟨y.hr.same (λ b o e zz=>.inl e) (λ b o zz e=>e) (λ b q=>.inl (hw b q)),y.base,?_,x.Fg,λ env he L hf=>y.GH env (Qq.mpr (.inr he)) L hf,λ b q=>y.FI b (hw b q),x.EW⟩
 have h:=y.frames
 clear y x
 induction fr' with
 |nil=>exact h
 |cons e r ih=>exact ih h.2.2
theorem St.tok(x:St pl P B W fr φ M s)(h:s'.heap=s.heap):St pl P B W fr φ M s':=x.Gn (λ b o e=>by refine aa h ?_;exact e)
theorem av.tok(h:s'.heap=s.heap)(o:s'.os=s.os)(g:s'.gens=s.gens):av V φ M s φ M s':=.ext (λ b o e=>by refine aa h ?_;exact e) o g
end
inductive LQ(pl:Pl)(P:QN)(B:QG)(W:P3->Prop)(fr:List Env)(φ:az)(M:AH)(s:PK)(Q:V->AH->Prop)(v:PJ)(s':PK):Prop
 |mk (x:V) (φ':az) (M':AH):Q x M'->St pl P B W fr φ' M' s'->av bt φ M s φ' M' s'->VR pl P φ' (ow W φ' M') s'.heap x v->LQ pl P B W fr φ M s Q v s'
inductive uf(pl:Pl)(P:QN)(B:QG)(W:P3->Prop)(fr:List Env)(φ:az)(M:AH)(s:PK)(Q:List V->AH->Prop)(v:List PJ)(s':PK):Prop
 |mk (x:List V) (φ':az) (M':AH):Q x M'->St pl P B W fr φ' M' s'->av bt φ M s φ' M' s'->am pl P φ' (ow W φ' M') s'.heap x v->uf pl P B W fr φ M s Q v s'
inductive ug(h:QG)(e:P3)(cls:PJ):Prop
 |mk (oe:Obj) (vs:Array PJ) (a0:PJ):h.get? e=some oe->oe.cls=cls->oe.data=.fields vs->vs[0]? =some a0->vs[1]? =some .none->ug h e cls
inductive fy(h0:QG)(h:QG)(e:P3)(cls fl:PJ):Prop
 |mk (oe:Obj) (vs:Array PJ) (a0:PJ) (T:P3) (oT:Obj) (ts:Array PJ):h.get? e=some oe->oe.cls=cls->oe.data=.fields vs->vs[0]? =some a0->vs[1]? =some (.ref T)->h0.get? T=none->T≠e->h.get? T=some oT->oT.data=.fields ts->ts[3]? =some fl->fy h0 h e cls fl
inductive zP(h0:QG)(fr:List Env)(h:QG)(e:P3)(cls:PJ):Prop
 |mk (env:Env) (r:List Env) (L:P3):fr=env::r->env.frame=some L->fy h0 h e cls (Sg L)->zP h0 fr h e cls
noncomputable def mC(h0:QG)(fr:List Env)(h:QG)(e:P3)(cls:PJ):Prop:=
 h0.get? e=none/\(ug h e cls∨fy h0 h e cls .none∨zP h0 fr h e cls)
inductive LX(pl:Pl)(P:QN)(B:QG)(W:P3->Prop)(fr:List Env)(cls:PJ)(φ:az)(M:AH)(s:PK)(X:AH->Prop)(v:PJ)(s':PK):Prop
 |mk (e:P3) (φ':az) (M':AH):v=.ref e->X M'->St pl P B W fr φ' M' s'->av bt φ M s φ' M' s'->mC s.heap fr s'.heap e cls->LX pl P B W fr cls φ M s X v s'
theorem fy.le{h0 h1:QG}{h:QG}{e:P3}{cls fl:PJ}(x:fy h1 h e cls fl)(l:∀b,h1.get? b=none->h0.get? b=none):fy h0 h e cls fl:=
 x.casesOn λ oe vs a0 T oT ts a b c d e' f g h i j=>⟨oe,vs,a0,T,oT,ts,a,b,c,d,e',l _ f,g,h,i,j⟩
theorem mC.le{h0 h1:QG}{fr:List Env}{h:QG}{e:P3}{cls:PJ}(x:mC h1 fr h e cls)(l:∀b,h1.get? b=none->h0.get? b=none):mC h0 fr h e cls:=
 ⟨l _ x.1,x.2.imp id λ y=>y.imp (λ y=>y.le l) λ y=>y.casesOn λ env r L a b c=>⟨env,r,L,a,b,c.le l⟩⟩
section
variable{pl:Pl}{P:QN}{B:QG}{W:P3->Prop}{fr:List Env}{φ φ₁:az}{M M₁:AH}{s s₁:PK}{cls:PJ}
theorem LQ.step(x:av bt φ M s φ₁ M₁ s₁):∀v s',LQ pl P B W fr φ₁ M₁ s₁ Q v s'->LQ pl P B W fr φ M s Q v s':=
 λ zz zz h=>h.casesOn λ a φ' M' q st sp r=>⟨a,φ',M',q,st,x.trans sp,r⟩
theorem uf.step(x:av bt φ M s φ₁ M₁ s₁):∀v s',uf pl P B W fr φ₁ M₁ s₁ Q v s'->uf pl P B W fr φ M s Q v s':=
 λ zz zz h=>h.casesOn λ a φ' M' q st sp r=>⟨a,φ',M',q,st,x.trans sp,r⟩
theorem LX.step(x:av bt φ M s φ₁ M₁ s₁):∀v s',LX pl P B W fr cls φ₁ M₁ s₁ X v s'->LX pl P B W fr cls φ M s X v s':=
 λ zz zz h=>h.casesOn λ e φ' M' a b c d f=>⟨e,φ',M',a,b,c,x.trans d,f.le λ zz q=>x.dead q⟩
end
abbrev aH:=List (Str×Nat)
inductive yU(R:PJ->Prop)(v:Option PJ):Prop
 |mk (y:PJ):v=some y->R y->yU R v
noncomputable def eS(pl:Pl)(P:QN)(φ:az)(o:P3->Prop)(h:QG):Option V->Option PJ->Prop
 |none=>λ zz=>True
 |some x=>yU (VR pl P φ o h x)
theorem eS.mono{pl:Pl}{P:QN}{φ φ':az}{h h':QG}(hp:φ<+:φ')(hk:∀b o,h.get? b=some o->¬o1 b->b7 o (h'.get? b))(ho:∀b,o2 b->o1 b∨h.get? b=none):
  ∀{x:Option V} {v:Option PJ},eS pl P φ o1 h x v->eS pl P φ' o2 h' x v
 |none,_,_=>trivial
 |some _,_,r=>r.casesOn λ y e r=>yU.mk y e (r.mono hp hk ho)
inductive Cu(env:Env)(Γ:aH)(h:QG)(R:Nat->Option PJ->Prop):Prop
 |mk (m:Str->Option PJ):h.Ns env.locals m->(∀x i,Γ.lookup x=some i->env.kindOf x=some .local->R i (m x))->Cu env Γ h R
inductive CC(env:Env)(W:P3->Prop)(Γ:aH)(h:QG)(R:Nat->Option PJ->Prop)(x:Str):Prop
 |mk (c:P3) (v:Option PJ):env.cells.lookup x=some c->W c->h.IsCell c v->(∀i,Γ.lookup x=some i->R i v)->CC env W Γ h R x
structure aC(pl:Pl)(P:QN)(W:P3->Prop)(Γ:aH)(env:Env)(ρ:an)(φ:az)(M:AH)(h:QG):Prop where
 kind:env.scope.kind=.function
 glob:env.globals=P1
 bi:env.builtins=QV
 inj:∀x y i,Γ.lookup x=some i->Γ.lookup y=some i->x=y
 Fd:W env.locals
 loc:Cu env Γ h λ i=>eS pl P φ (ow W φ M) h (ρ.get i)
 cell:∀x,(env.kindOf x=some .cell∨env.kindOf x=some .free)->CC env W Γ h (λ i=>eS pl P φ (ow W φ M) h (ρ.get i)) x
 apart:∀x y c,env.cells.lookup x=some c->env.cells.lookup y=some c->x=y
noncomputable def EO(env:Env)(b:P3):Prop:=b=env.locals∨∃x,env.kindOf x=some .cell/\env.cells.lookup x=some b
noncomputable def bu(env:Env)(ns:List Str)(b:P3):Prop:=b=env.locals∨∃x∈ns,env.kindOf x=some .cell/\env.cells.lookup x=some b
theorem bu.EO(h:bu env ns b):EO env b:=h.imp id λ⟨x,_,q⟩=>⟨x,q⟩
theorem bu.sub(hs:∀x∈ns,x∈ms)(h:bu env ns b):bu env ms b:=h.imp id λ⟨x,hx,q⟩=>⟨x,hs x hx,q⟩
theorem bZ.ns{h h':QG}(hn:h.Ns a m)(hk:∀o,h.get? a=some o->bZ o (h'.get? a)):h'.Ns a m:=by
 refine yJ hn λ o es ep ho r=> ?_;clear hn
 rcases hk o ho with k|⟨_,sl,k⟩
 ·exact BQ o es ep k r
 ·exact BQ _ es ep k r
theorem bZ.cell{h h':QG}{v:Option PJ}(hn:h.IsCell a v)(hk:∀o,h.get? a=some o->bZ o (h'.get? a)):h'.IsCell a v:=by
 refine ai hn λ o ho r=> ?_;clear hn
 rcases hk o ho with k|⟨_,sl,k⟩
 ·exact aA o k r
 ·exact aA _ k r
section
variable{pl:Pl}{P:QN}{B:QG}{W V:P3->Prop}{Γ:aH}{env:Env}{ρ:an}{fr:List Env}{φ φ':az}{M M':AH}{s s':PK}
theorem aC.step(x:aC pl P W Γ env ρ φ M s.heap)(st:St pl P B W fr φ M s)(t:av V φ M s φ' M' s')(hv:∀b,V b->W b)(hp:∀b,W b->V b->b≠env.locals/\∀y,(env.kindOf y=some .cell∨env.kindOf y=some .free)->env.cells.lookup y≠some b):aC pl P W Γ env ρ φ' M' s'.heap:=by
 refine⟨x.kind,x.glob,x.bi,x.inj,x.Fd,?_,λ n hn=> ?_,x.apart⟩
 ·obtain⟨m,hm,hl⟩:=x.loc
  refine⟨m,bZ.ns hm λ o e=>t.keep _ o e (λ q=>st.hr.ES _ q x.Fd) λ q=>(hp _ x.Fd q).1 rfl,λ n i hi hk=>(hl n i hi hk).mono t.pre (t.E3 hv) t.FW⟩
 ·obtain⟨c,v,hc,hw,EC,hr⟩:=x.cell n hn
  exact⟨c,v,hc,hw,bZ.cell EC λ o e=>t.keep _ o e (λ q=>st.hr.ES _ q hw) λ q=>(hp _ hw q).2 n hn hc,λ i hi=>(hr i hi).mono t.pre (t.E3 hv) t.FW⟩
theorem aC.E9(x:aC pl P W Γ env ρ φ M s.heap)(st:St pl P B W fr φ M s)(t:av bt φ M s φ' M' s'):aC pl P W Γ env ρ φ' M' s'.heap:=
 x.step st t (λ zz q=>q.elim) λ zz zz q=>q.elim
theorem an.GX:∀(ρ:an) (i j:Nat) (v:Mine.V),i<ρ.length->(ρ.put i v).get j=if j=i then some v else ρ.get j:=by
 intro ρ
 induction ρ with
 |nil=>
  intro i j v h
  simp at h
 |cons x r ih=>
  intro y1
  cases y1 with
  |zero=>
   intro y2
   cases y2 with
   |zero=>
    intro v y3
    exact rfl
   |succ j=>
    intro v y4
    refine aa (if_neg (XK j)) ?_;rfl
  |succ i=>
   intro y5
   cases y5 with
   |zero=>
    intro v y6
    refine aa (if_neg (ae 0x980306146001 rfl i)) ?_;rfl
   |succ j=>
    intro v h
    rewrite[ze];refine aa (zw _ _ _) ?_;refine aa (ih i j v (by simpa using h)) ?_
    by_cases e:j=i
    ·refine aa (if_pos e) ?_;refine aa (if_pos (ae 0x90c185206144349102 rfl j i e)) ?_;rfl
    ·refine aa (if_neg e) ?_;refine aa (if_neg (ae 0x92600c185206144980349102 rfl j i e)) ?_;rfl
theorem an.Hl:∀(ρ:an) (i:Nat) (v:Mine.V),ρ.length<=i->ρ.put i v=ρ:=by
 intro ρ
 induction ρ with
 |nil=>
  intro y1 y2 y3
  exact rfl
 |cons x r ih=>
  intro y4
  cases y4 with
  |zero=>
   intro y5 h
   simp at h
  |succ i=>
   intro v h
   rewrite[ze];refine aa (ih i v (by simpa using h)) ?_;rfl
theorem an.I7:∀(ρ:an) (i:Nat),ρ.length<=i->ρ.get i=none:=by
 intro ρ
 induction ρ with
 |nil=>
  intro y1 y2
  exact rfl
 |cons x r ih=>
  intro y3
  cases y3 with
  |zero=>
   intro h
   simp at h
  |succ i=>
   intro h
   refine aa (zw _ _ _) ?_;refine aa (ih i (by simpa using h)) ?_;rfl
theorem an.EN(ρ:an)(v:Mine.V)(h:j≠i):(ρ.put i v).get j=ρ.get j:=by
 by_cases l:i<ρ.length
 ·refine aa (an.GX ρ i j v l) ?_;refine aa (if_neg h) ?_;rfl
 ·refine aa (an.Hl ρ i v (ae 0x905148980249102 rfl i (Q2 ρ) l)) ?_;rfl
theorem an.Fs(ρ:an)(v:Mine.V):(ρ.put i v).get i=some v∨(ρ.put i v).get i=none:=by
 by_cases l:i<ρ.length
 ·refine aa (an.GX ρ i i v l) ?_;refine aa (if_pos rfl) ?_;exact .inl rfl
 ·refine aa (an.Hl ρ i v (ae 0x905148980249102 rfl i (Q2 ρ) l)) ?_;refine aa (an.I7 ρ i (ae 0x905148980249102 rfl i (Q2 ρ) l)) ?_;exact .inr rfl
theorem Bs{E:PJ->PK->Prop}{s:PK}{a:P3}{m:Str->Option PJ}{v:PJ}{Q:Unit->PK->Prop}(hn:s.heap.Ns a m)
  (hQ:∀h',h'.Ns a (λ x=>if x=name then some v else m x)->Qp a s.heap h'->(∀o,s.heap.get? a=some o->∃o',h'.get? a=some o'/\o'.cls=o.cls)->Q () {s with heap:=h',toks:=s.toks+1}):PR M0 A (nsSet a name v) Q E s:=λ Γ p hΓ=>by
 have Ng:=hn
 refine u9 Ng λ o es ep ho hd hk hm=> ?_;clear Ng
 have ML:=Sem.wp_nsSet M0 Γ (λ e zz s'=>E e s') p s hn name v (λ zz zz s'=>∀h',s'={s with heap:=h',toks:=s.toks+1}->h'.Ns a (λ x=>if x=name then some v else m x)/\Qp a s.heap h') (λ h' h1 h2 h'' e=>by cases e;exact⟨h1,h2⟩)
 have key:∀(Q1:Unit->Pos->PK->Prop),Sem.wp M0 Γ (nsSet a name v) Q1 (λ e zz s'=>E e s') p s ↔
   Q1 () p {s with heap:=s.heap.update a (Vt name (Qf M0.w.params name) (.str name s.toks) v),toks:=s.toks+1}:=by
  intro Q1
  have LO:es.any (·.refKey)=false:=by
   rewrite[Array.any_eq_false'];intro e he;obtain⟨n,t,h⟩:=hk e he;simp[Up,h]
  simp only [nsSet,strHash,Sem.wp_bind',Sem.wp_cmd_ask,Sem.wp_pure',Sem.wp_cmd_mkText]
  refine aa ((Sem.wp_loadPart_of M0 Γ (λ e zz s'=>E e s') p {s with toks:=s.toks+1} (o:=o) _ ho) _) ?_
  simp only [hd,aRefKeyMayBeTheName_eq,aRefKeyMayBeTheNameByArray,LO,S7,P4,if_false,Sem.wp_cmd_updatePart]
  exact⟨λ h=>h.2,λ h=>⟨by refine aa ho ?_;rfl,h⟩⟩
 rw[key] at ML ⊢
 obtain⟨l1,l2⟩:=ML _ rfl
 refine hQ _ l1 l2 λ o' e=> ?_
 rw[ho] at e;cases e
 refine yJ l1 λ o2 es2 ep2 F1 zz=> ?_;clear l1
 refine aA o2 F1 ?_
 have Iq:(Vt name (Qf M0.w.params name) (.str name s.toks) v o).isFreed=false:=by
  obtain⟨c,d,dt,sl⟩:=o
  subst hd
  simp only [Yj,Xh]
  split<;>rfl
 rw[P5 _ ho Iq] at F1
 cases F1
 obtain⟨c,d,dt,sl⟩:=o
 subst hd
 simp only [Yj,Xh]
 split<;>rfl
theorem uq{E:PJ->PK->Prop}{s:PK}{env:Env}{c:P3}{v₀:Option PJ}{v:PJ}{Q:Unit->PK->Prop}(hk:env.scope.kind=.function)(hl:env.kindOf name=some .cell)
  (hc:env.cells.lookup name=some c)(hv:s.heap.IsCell c v₀)
  (h:∀h',h'.IsCell c (some v)->Qp c s.heap h'->(∀o,s.heap.get? c=some o->∃o',h'.get? c=some o'/\o'.cls=o.cls)->Q () {s with heap:=h'}):PR M0 A (Xr env name v) Q E s:=by
 unfold Xr
 refine aa hl ?_;refine aa hk ?_
 show PR _ _ (cellOf env name>>=λ c=>cellSet c (some v)) _ _ _
 refine ai hv λ o ho hd=> ?_;clear hv
 refine Py (wpAny_cellOf hc ?_)
 unfold cellSet
 refine Py (wpAny_load ho ?_)
 refine aa hd ?_
 have hg:(s.heap.update c λ o=>{o with data:=.cell (some v)}).get? c=some {o with data:=.cell (some v)}:=P5 _ ho rfl
 exact wpAny_update ho (h _ ⟨_,hg,rfl⟩ (Qy ..) λ o' e=>by rw[ho] at e;cases e;exact aA _ hg rfl)
theorem fF{E:PJ->PK->Prop}{i:Nat}{x:Mine.V}{v:PJ}{Q:Unit->PK->Prop}(er:aC pl P W Γ env ρ φ M s.heap)(st:St pl P B W fr φ M s)
  (hi:Γ.lookup n=some i)(hk:env.kindOf n=some .local∨env.kindOf n=some .cell)(r:VR pl P φ (ow W φ M) s.heap x v)
  (h:∀s',aC pl P W Γ env (ρ.put i x) φ M s'.heap->St pl P B W fr φ M s'->av (bu env [n]) φ M s φ M s'->Q () s'):PR M0 A (Xr env n v) Q E s:=by
 have JK:∀{o:P3->Prop} {h:QG},VR pl P φ o h x v->eS pl P φ o h ((ρ.put i x).get i) (some v):=λ r=>by
  rcases an.Fs ρ (i:=i) x with e|e<;>refine aa e ?_
  ·exact⟨v,rfl,r⟩
  ·trivial
 obtain⟨m,hm,hl⟩:=er.loc
 rcases hk with hk|hk
 ·refine aa ((storeName_local hk (by refine aa er.kind ?_;rfl)) _) ?_
  refine Bs hm λ h' hn hs Gm=> ?_
  have Hv:∀b o,s.heap.get? b=some o->¬(b=env.locals)->h'.get? b=some o:=λ b o e nb=>hs.extBut b o nb e
  have Ff:∀b o,s.heap.get? b=some o->¬ow W φ M b->b7 o (h'.get? b):=λ b o e n=>.inl (Hv b o e λ q=>n (.inl (by refine aa q ?_;exact er.Fd)))
  have Fc:s.heap.objs.size<=h'.objs.size:=by refine aa hs.1 ?_;exact PC _
  have Gd:∀b o,b=env.locals->s.heap.get? b=some o->∃o',h'.get? b=some o'/\∀vs,o'.data≠.fields vs:=λ b o q e=>by
   subst q
   refine vc hn λ o2 es ep F1 hd2 zz=> ?_;clear hn
   exact aA o2 F1 λ vs q=>by rw[hd2] at q;cases q
  refine h _ ⟨er.kind,er.glob,er.bi,er.inj,er.Fd,⟨_,hn,λ y j hj JU=> ?_⟩,λ y hy=> ?_,er.apart⟩
   (St.changed (V:=λ b=>b=env.locals) st (λ b o e nb=>Hv b o e nb) (λ b q=>by refine aa q ?_;exact er.Fd) Gd λ b o q e c zz=>by subst q;refine ai (Gm o e) λ o' e' c'=> ?_;exact aA o' e' (c'.trans c))
   (av.mono (V:=λ b=>b=env.locals) (.changed (λ b o e nb=>Hv b o e nb) Gd rfl rfl) λ b q zz=>.inl q)
  ·by_cases e:y=n
   ·subst e;rw[hi] at hj;cases hj
    refine aa (if_pos rfl) ?_
    exact JK (r.mono (Pz _) Ff λ b q=>.inl q)
   ·refine aa (if_neg e) ?_;refine aa (an.EN ρ x λ q=>e (er.inj y n i (by refine aE q ?_;exact hj) hi)) ?_
    exact(hl y j hj JU).mono (Pz _) Ff λ b q=>.inl q
  ·obtain⟨c,u,hc,hw,EC,hr⟩:=er.cell y hy
   have Gm:c≠env.locals:=λ q=>by
    refine ai EC λ o ho hd=> ?_;clear EC;refine vc hm λ o2 es ep F1 hd2 zz=> ?_;clear hm
    rw[q,F1] at ho;cases ho;rw[hd2] at hd;cases hd
   refine⟨c,u,hc,hw,EC.sameBut hs Gm,λ j hj=> ?_⟩
   have Lz:j≠i:=λ q=>by
    have:=er.inj y n i (by refine aE q ?_;exact hj) hi
    subst this;rw[hk] at hy;rcases hy with hy|hy<;>cases hy
   refine aa (an.EN ρ x Lz) ?_
   exact(hr j hj).mono (Pz _) Ff λ b q=>.inl q
 ·obtain⟨c,u,hc,hw,EC,hr⟩:=er.cell n (.inl hk)
  refine uq er.kind hk hc EC λ h' hn hs LL=> ?_
  have Hv:∀b o,s.heap.get? b=some o->¬(b=c)->h'.get? b=some o:=λ b o e nb=>hs.extBut b o nb e
  have Ff:∀b o,s.heap.get? b=some o->¬ow W φ M b->b7 o (h'.get? b):=λ b o e n=>.inl (Hv b o e λ q=>n (.inl (by refine aa q ?_;exact hw)))
  have Fc:s.heap.objs.size<=h'.objs.size:=by refine aa hs.1 ?_;exact PC _
  have Gm:env.locals≠c:=λ q=>by
   refine ai EC λ o ho hd=> ?_;clear EC;refine vc hm λ o2 es ep F1 hd2 zz=> ?_;clear hm
   rw[<-q,F1] at ho;cases ho;rw[hd2] at hd;cases hd
  have Gd:∀b o,b=c->s.heap.get? b=some o->∃o',h'.get? b=some o'/\∀vs,o'.data≠.fields vs:=λ b o q e=>by
   subst q
   refine ai hn λ o2 F1 hd2=> ?_;clear hn
   exact aA o2 F1 λ vs q=>by rw[hd2] at q;cases q
  refine h _ ⟨er.kind,er.glob,er.bi,er.inj,er.Fd,⟨m,hm.sameBut hs Gm,λ y j hj JU=> ?_⟩,λ y hy=> ?_,er.apart⟩
   (St.changed (V:=λ b=>b=c) st (λ b o e nb=>Hv b o e nb) (λ b q=>by refine aa q ?_;exact hw) Gd λ b o q e cf zz=>by subst q;refine ai (LL o e) λ o' e' c'=> ?_;exact aA o' e' (c'.trans cf))
   (av.mono (V:=λ b=>b=c) (.changed (λ b o e nb=>Hv b o e nb) Gd rfl rfl) λ b q zz=>.inr ⟨n,.head _,hk,by refine aa q ?_;exact hc⟩)
  ·have Lz:j≠i:=λ q=>by
    have:=er.inj y n i (by refine aE q ?_;exact hj) hi
    subst this;rw[hk] at JU;cases JU
   refine aa (an.EN ρ x Lz) ?_
   exact(hl y j hj JU).mono (Pz _) Ff λ b q=>.inl q
  ·by_cases e:y=n
   ·subst e
    refine⟨c,some v,hc,hw,hn,λ j hj=> ?_⟩
    rw[hi] at hj;cases hj
    exact JK (r.mono (Pz _) Ff λ b q=>.inl q)
   ·obtain⟨c2,u2,H6,Op,I0,H1⟩:=er.cell y hy
    have KG:c2≠c:=λ q=>e (er.apart y n c (by refine aE q ?_;exact H6) hc)
    refine⟨c2,u2,H6,Op,I0.sameBut hs KG,λ j hj=> ?_⟩
    refine aa (an.EN ρ x λ q=>e (er.inj y n i (by refine aE q ?_;exact hj) hi)) ?_
    exact(H1 j hj).mono (Pz _) Ff λ b q=>.inl q
theorem AG{E:PJ->PK->Prop}{i:Nat}{x:Mine.V}{Q:PJ->PK->Prop}(er:aC pl P W Γ env ρ φ M s.heap)
  (hi:Γ.lookup n=some i)(hk:env.kindOf n=some .local∨env.kindOf n=some .cell∨env.kindOf n=some .free)(hx:ρ.get i=some x)(hn:(n==("__classdict__" :Str))=false)
  (h:∀v,VR pl P φ (ow W φ M) s.heap x v->Q v s):PR M0 A (loadName env n) Q E s:=by
 rcases hk with hk|hk|hk
 ·obtain⟨m,hm,hl⟩:=er.loc
  have:=hl n i hi hk
  rw[hx] at this
  obtain⟨y,e,r⟩:=this
  exact RQ er.kind hk hm e (h y r)
 ·obtain⟨c,v,hc,_,EC,hr⟩:=er.cell n (.inl hk)
  have:=hr i hi
  rw[hx] at this
  obtain⟨y,e,r⟩:=this
  subst e
  exact wpAny_loadName_cell er.kind hk hc EC (h y r)
 ·obtain⟨c,v,hc,_,EC,hr⟩:=er.cell n (.inr hk)
  have:=hr i hi
  rw[hx] at this
  obtain⟨y,e,r⟩:=this
  subst e
  exact wpAny_loadName_free er.kind hk hc EC (h y r) hn
end
end Mine
end
section
namespace Mine
open PySem
theorem aU{c:Prop}[Decidable c]{f:c->Bool}{C:Prop}(h:(if h:c then f h else false)=true)(k:∀h:c,f h=true->C):C:=by
 by_cases h0:c
 ·rw[dif_pos h0] at h;exact k h0 h
 ·rw[dif_neg h0] at h;cases h
noncomputable def cx(x:P8)(f:Str->Pos->Bool):Bool:=if h:x.ctorIdx=23 then RZ (motive_1:=λ zz=>Bool) x h f else false
theorem bR{f:Str->Pos->Bool}{mo:P8->Prop}(h:cx x f=true)(k:∀y p,f y p=true->mo (.Name y p)):mo x:=
 aU h λ h0=>RZ (motive_1:=λ x=>∀h0:x.ctorIdx=23,RZ (motive_1:=λ zz=>Bool) x h0 f=true->mo x) x h0 (λ y p zz=>k y p) h0
noncomputable def cW(x:P8)(f:Const->Nat->Pos->Bool):Bool:=if h:x.ctorIdx=19 then Tw (motive_1:=λ zz=>Bool) x h f else false
theorem ct{f:Const->Nat->Pos->Bool}{mo:P8->Prop}(h:cW x f=true)(k:∀c i p,f c i p=true->mo (.Constant c i p)):mo x:=
 aU h λ h0=>Tw (motive_1:=λ x=>∀h0:x.ctorIdx=19,Tw (motive_1:=λ zz=>Bool) x h0 f=true->mo x) x h0 (λ c i p zz=>k c i p) h0
noncomputable def oE(x:P8)(f:List P8->Nat->Pos->Bool):Bool:=if h:x.ctorIdx=25 then Rc (motive_1:=λ zz=>Bool) x h f else false
theorem ng{f:List P8->Nat->Pos->Bool}{mo:P8->Prop}(h:oE x f=true)(k:∀xs i p,f xs i p=true->mo (.Tuple xs i p)):mo x:=
 aU h λ h0=>Rc (motive_1:=λ x=>∀h0:x.ctorIdx=25,Rc (motive_1:=λ zz=>Bool) x h0 f=true->mo x) x h0 (λ xs i p zz=>k xs i p) h0
noncomputable def wu(x:P8)(f:List P8->Pos->Bool):Bool:=if h:x.ctorIdx=24 then US (motive_1:=λ zz=>Bool) x h f else false
theorem wt{f:List P8->Pos->Bool}{mo:P8->Prop}(h:wu x f=true)(k:∀xs p,f xs p=true->mo (.List xs p)):mo x:=
 aU h λ h0=>US (motive_1:=λ x=>∀h0:x.ctorIdx=24,US (motive_1:=λ zz=>Bool) x h0 f=true->mo x) x h0 (λ xs p zz=>k xs p) h0
noncomputable def qR(x:P8)(f:List (Option P8)->List P8->Pos->Bool):Bool:=if h:x.ctorIdx=6 then UT (motive_1:=λ zz=>Bool) x h f else false
theorem iw{f:List (Option P8)->List P8->Pos->Bool}{mo:P8->Prop}(h:qR x f=true)(k:∀ks xs p,f ks xs p=true->mo (.Dict ks xs p)):mo x:=
 aU h λ h0=>UT (motive_1:=λ x=>∀h0:x.ctorIdx=6,UT (motive_1:=λ zz=>Bool) x h0 f=true->mo x) x h0 (λ ks xs p zz=>k ks xs p) h0
noncomputable def tE(x:P8)(f:P8->Operator->P8->Pos->Bool):Bool:=if h:x.ctorIdx=2 then UA (motive_1:=λ zz=>Bool) x h f else false
theorem uL{f:P8->Operator->P8->Pos->Bool}{mo:P8->Prop}(h:tE x f=true)(k:∀a o b p,f a o b p=true->mo (.BinOp a o b p)):mo x:=
 aU h λ h0=>UA (motive_1:=λ x=>∀h0:x.ctorIdx=2,UA (motive_1:=λ zz=>Bool) x h0 f=true->mo x) x h0 (λ a o b p zz=>k a o b p) h0
noncomputable def ga(x:P8)(f:UnaryOp->P8->Pos->Bool):Bool:=if h:x.ctorIdx=3 then TK (motive_1:=λ zz=>Bool) x h f else false
theorem gW{f:UnaryOp->P8->Pos->Bool}{mo:P8->Prop}(h:ga x f=true)(k:∀o a p,f o a p=true->mo (.UnaryOp o a p)):mo x:=
 aU h λ h0=>TK (motive_1:=λ x=>∀h0:x.ctorIdx=3,TK (motive_1:=λ zz=>Bool) x h0 f=true->mo x) x h0 (λ o a p zz=>k o a p) h0
noncomputable def ix(x:P8)(f:P8->List CmpOp->List P8->Pos->Bool):Bool:=if h:x.ctorIdx=15 then TL (motive_1:=λ zz=>Bool) x h f else false
theorem gX{f:P8->List CmpOp->List P8->Pos->Bool}{mo:P8->Prop}(h:ix x f=true)(k:∀a os xs p,f a os xs p=true->mo (.Compare a os xs p)):mo x:=
 aU h λ h0=>TL (motive_1:=λ x=>∀h0:x.ctorIdx=15,TL (motive_1:=λ zz=>Bool) x h0 f=true->mo x) x h0 (λ a os xs p zz=>k a os xs p) h0
noncomputable def qS(x:P8)(f:BoolOp->List P8->Pos->Bool):Bool:=if h:x.ctorIdx=0 then T9 (motive_1:=λ zz=>Bool) x h f else false
theorem sO{f:BoolOp->List P8->Pos->Bool}{mo:P8->Prop}(h:qS x f=true)(k:∀o xs p,f o xs p=true->mo (.BoolOp o xs p)):mo x:=
 aU h λ h0=>T9 (motive_1:=λ x=>∀h0:x.ctorIdx=0,T9 (motive_1:=λ zz=>Bool) x h0 f=true->mo x) x h0 (λ o xs p zz=>k o xs p) h0
noncomputable def tD(x:P8)(f:P8->P8->P8->Pos->Bool):Bool:=if h:x.ctorIdx=5 then Uz (motive_1:=λ zz=>Bool) x h f else false
theorem uK{f:P8->P8->P8->Pos->Bool}{mo:P8->Prop}(h:tD x f=true)(k:∀t a b p,f t a b p=true->mo (.IfExp t a b p)):mo x:=
 aU h λ h0=>Uz (motive_1:=λ x=>∀h0:x.ctorIdx=5,Uz (motive_1:=λ zz=>Bool) x h0 f=true->mo x) x h0 (λ t a b p zz=>k t a b p) h0
noncomputable def kB(x:P8)(f:P8->List P8->List Keyword->Pos->Bool):Bool:=if h:x.ctorIdx=16 then UU (motive_1:=λ zz=>Bool) x h f else false
theorem kA{f:P8->List P8->List Keyword->Pos->Bool}{mo:P8->Prop}(h:kB x f=true)(k:∀fn xs kw p,f fn xs kw p=true->mo (.Call fn xs kw p)):mo x:=
 aU h λ h0=>UU (motive_1:=λ x=>∀h0:x.ctorIdx=16,UU (motive_1:=λ zz=>Bool) x h0 f=true->mo x) x h0 (λ fn xs kw p zz=>k fn xs kw p) h0
noncomputable def dn(x:P8)(f:P8->Str->Pos->Bool):Bool:=if h:x.ctorIdx=20 then Ti (motive_1:=λ zz=>Bool) x h f else false
theorem cR{f:P8->Str->Pos->Bool}{mo:P8->Prop}(h:dn x f=true)(k:∀o a p,f o a p=true->mo (.Attribute o a p)):mo x:=
 aU h λ h0=>Ti (motive_1:=λ x=>∀h0:x.ctorIdx=20,Ti (motive_1:=λ zz=>Bool) x h0 f=true->mo x) x h0 (λ o a p zz=>k o a p) h0
noncomputable def eC(x:P8)(f:P8->P8->Pos->Bool):Bool:=if h:x.ctorIdx=21 then Th (motive_1:=λ zz=>Bool) x h f else false
theorem d8{f:P8->P8->Pos->Bool}{mo:P8->Prop}(h:eC x f=true)(k:∀o i p,f o i p=true->mo (.Subscript o i p)):mo x:=
 aU h λ h0=>Th (motive_1:=λ x=>∀h0:x.ctorIdx=21,Th (motive_1:=λ zz=>Bool) x h0 f=true->mo x) x h0 (λ o i p zz=>k o i p) h0
noncomputable def oG(x:P8)(f:Option P8->Option P8->Option P8->Pos->Bool):Bool:=if h:x.ctorIdx=26 then Uy (motive_1:=λ zz=>Bool) x h f else false
theorem ni{f:Option P8->Option P8->Option P8->Pos->Bool}{mo:P8->Prop}(h:oG x f=true)(k:∀l u t p,f l u t p=true->mo (.Slice l u t p)):mo x:=
 aU h λ h0=>Uy (motive_1:=λ x=>∀h0:x.ctorIdx=26,Uy (motive_1:=λ zz=>Bool) x h0 f=true->mo x) x h0 (λ l u t p zz=>k l u t p) h0
noncomputable def nk(x:P8)(f:P8->List Q5->Xo->Pos->Bool):Bool:=if h:x.ctorIdx=8 then Tv (motive_1:=λ zz=>Bool) x h f else false
theorem pQ{f:P8->List Q5->Xo->Pos->Bool}{mo:P8->Prop}(h:nk x f=true)(k:∀e gs sc p,f e gs sc p=true->mo (.ListComp e gs sc p)):mo x:=
 aU h λ h0=>Tv (motive_1:=λ x=>∀h0:x.ctorIdx=8,Tv (motive_1:=λ zz=>Bool) x h0 f=true->mo x) x h0 (λ e gs sc p zz=>k e gs sc p) h0
noncomputable def dP(x:R9)(f:List P8->P8->Pos->Bool):Bool:=if h:x.ctorIdx=5 then T6 (motive_2:=λ zz=>Bool) x h f else false
theorem cQ{x:R9}{f:List P8->P8->Pos->Bool}{mo:R9->Prop}(h:dP x f=true)(k:∀ts v p,f ts v p=true->mo (.Assign ts v p)):mo x:=
 aU h λ h0=>T6 (motive_2:=λ x=>∀h0:x.ctorIdx=5,T6 (motive_2:=λ zz=>Bool) x h0 f=true->mo x) x h0 (λ ts v p zz=>k ts v p) h0
noncomputable def ph(x:R9)(f:Option P8->Pos->Bool):Bool:=if h:x.ctorIdx=3 then T5 (motive_2:=λ zz=>Bool) x h f else false
theorem qP{x:R9}{f:Option P8->Pos->Bool}{mo:R9->Prop}(h:ph x f=true)(k:∀v p,f v p=true->mo (.Return v p)):mo x:=
 aU h λ h0=>T5 (motive_2:=λ x=>∀h0:x.ctorIdx=3,T5 (motive_2:=λ zz=>Bool) x h0 f=true->mo x) x h0 (λ v p zz=>k v p) h0
noncomputable def zg(x:R9)(f:P8->List R9->List R9->Pos->Bool):Bool:=if h:x.ctorIdx=12 then VX (motive_2:=λ zz=>Bool) x h f else false
theorem x0{x:R9}{f:P8->List R9->List R9->Pos->Bool}{mo:R9->Prop}(h:zg x f=true)(k:∀t a b p,f t a b p=true->mo (.If t a b p)):mo x:=
 aU h λ h0=>VX (motive_2:=λ x=>∀h0:x.ctorIdx=12,VX (motive_2:=λ zz=>Bool) x h0 f=true->mo x) x h0 (λ t a b p zz=>k t a b p) h0
noncomputable def wr(x:R9)(f:P8->P8->List R9->List R9->Pos->Bool):Bool:=if h:x.ctorIdx=9 then Vi (motive_2:=λ zz=>Bool) x h f else false
theorem wq{x:R9}{f:P8->P8->List R9->List R9->Pos->Bool}{mo:R9->Prop}(h:wr x f=true)(k:∀t i b e p,f t i b e p=true->mo (.For t i b e p)):mo x:=
 aU h λ h0=>Vi (motive_2:=λ x=>∀h0:x.ctorIdx=9,Vi (motive_2:=λ zz=>Bool) x h0 f=true->mo x) x h0 (λ t i b e p zz=>k t i b e p) h0
noncomputable def qO(x:R9)(f:P8->List R9->List R9->Pos->Bool):Bool:=if h:x.ctorIdx=11 then Uw (motive_2:=λ zz=>Bool) x h f else false
theorem sM{x:R9}{f:P8->List R9->List R9->Pos->Bool}{mo:R9->Prop}(h:qO x f=true)(k:∀t b e p,f t b e p=true->mo (.While t b e p)):mo x:=
 aU h λ h0=>Uw (motive_2:=λ x=>∀h0:x.ctorIdx=11,Uw (motive_2:=λ zz=>Bool) x h0 f=true->mo x) x h0 (λ t b e p zz=>k t b e p) h0
noncomputable def qQ(x:R9)(f:Option P8->Option P8->Pos->Bool):Bool:=if h:x.ctorIdx=16 then Ux (motive_2:=λ zz=>Bool) x h f else false
theorem sN{x:R9}{f:Option P8->Option P8->Pos->Bool}{mo:R9->Prop}(h:qQ x f=true)(k:∀e c p,f e c p=true->mo (.Raise e c p)):mo x:=
 aU h λ h0=>Ux (motive_2:=λ x=>∀h0:x.ctorIdx=16,Ux (motive_2:=λ zz=>Bool) x h0 f=true->mo x) x h0 (λ e c p zz=>k e c p) h0
noncomputable def wo(x:R9)(f:List R9->List ExceptHandler->List R9->List R9->Pos->Bool):Bool:=if h:x.ctorIdx=17 then Vh (motive_2:=λ zz=>Bool) x h f else false
theorem wn{x:R9}{f:List R9->List ExceptHandler->List R9->List R9->Pos->Bool}{mo:R9->Prop}(h:wo x f=true)(k:∀b hs e fb p,f b hs e fb p=true->mo (.Try b hs e fb p)):mo x:=
 aU h λ h0=>Vh (motive_2:=λ x=>∀h0:x.ctorIdx=17,Vh (motive_2:=λ zz=>Bool) x h0 f=true->mo x) x h0 (λ b hs e fb p zz=>k b hs e fb p) h0
noncomputable def oH(x:R9)(f:P8->Pos->Bool):Bool:=if h:x.ctorIdx=24 then UR (motive_2:=λ zz=>Bool) x h f else false
theorem nj{x:R9}{f:P8->Pos->Bool}{mo:R9->Prop}(h:oH x f=true)(k:∀e p,f e p=true->mo (.Expr e p)):mo x:=
 aU h λ h0=>UR (motive_2:=λ x=>∀h0:x.ctorIdx=24,UR (motive_2:=λ zz=>Bool) x h0 f=true->mo x) x h0 (λ e p zz=>k e p) h0
noncomputable def cy{α:Type}(xs:List α)(f:α->List α->Bool):Bool:=match xs with|x::r=>f x r|[]=>false
theorem bK{α:Type}{xs:List α}{f:α->List α->Bool}{mo:List α->Prop}(h:cy xs f=true)(k:∀x r,f x r=true->mo (x::r)):mo xs:=by
 cases xs with
 |nil=>cases h
 |cons x r=>exact k x r h
noncomputable def bW{α:Type}(xs:List α):Bool:=match xs with|[]=>true|_::_=>false
theorem bl{α:Type}{xs:List α}{mo:List α->Prop}(h:bW xs=true)(k:mo []):mo xs:=by
 cases xs with
 |nil=>exact k
 |cons x r=>cases h
noncomputable def eW{α:Type}(xs:List α)(f:α->Bool):Bool:=cy xs λ x r=>bW r&&f x
theorem af(h:(a&&b)=true):a=true/\b=true:=by
 cases a with
 |true=>exact⟨rfl,h⟩
 |false=>cases h
theorem kR{a b c d e f u v r:Bool}{P:Prop}(h:(a&&(b&&(c&&(d&&(e&&(f&&(u&&(v&&r))))))))=true)(k:a=true->b=true->c=true->d=true->e=true->f=true->u=true->v=true->r=true->P):P:=
 k (af h).1 (af (af h).2).1 (af (af (af h).2).2).1 (af (af (af (af h).2).2).2).1 (af (af (af (af (af h).2).2).2).2).1 (af (af (af (af (af (af h).2).2).2).2).2).1 (af (af (af (af (af (af (af h).2).2).2).2).2).2).1 (af (af (af (af (af (af (af (af h).2).2).2).2).2).2).2).1 (af (af (af (af (af (af (af (af h).2).2).2).2).2).2).2).2
theorem bO{α:Type}{xs:List α}{f:α->Bool}{mo:List α->Prop}(h:eW xs f=true)(k:∀x,f x=true->mo [x]):mo xs:=
 bK h λ x zz h=>bl (mo:=λ r=>mo (x::r)) (af h).1 (k x (af h).2)
noncomputable def pj{α:Type}(xs:List α)(f:α->α->Bool):Bool:=cy xs λ x r=>eW r (f x)
theorem gY{α:Type}{xs:List α}{f:α->α->Bool}{mo:List α->Prop}(h:pj xs f=true)(k:∀x y,f x y=true->mo [x,y]):mo xs:=
 bK h λ x zz h=>bO (mo:=λ r=>mo (x::r)) h (k x)
noncomputable def bD{α:Type}(o:Option α)(f:α->Bool):Bool:=match o with|some x=>f x|none=>false
theorem cw{α:Type}{o:Option α}{f:α->Bool}{mo:Option α->Prop}(h:bD o f=true)(k:∀x,f x=true->mo (some x)):mo o:=by
 cases o with
 |none=>cases h
 |some x=>exact k x h
theorem eY{α:Type}{o:Option α}{mo:Option α->Prop}(h:o.isNone=true)(k:mo none):mo o:=by
 cases o with
 |none=>exact k
 |some x=>cases h
noncomputable def uJ(x:Const)(f:Str->Bool):Bool:=if h:x.ctorIdx=5 then UW (motive:=λ zz=>Bool) x h f else false
theorem qN{x:Const}{f:Str->Bool}{mo:Const->Prop}(h:uJ x f=true)(k:∀t,f t=true->mo (.str t)):mo x:=
 aU h λ h0=>UW (motive:=λ x=>∀h0:x.ctorIdx=5,UW (motive:=λ zz=>Bool) x h0 f=true->mo x) x h0 (λ t zz=>k t) h0
theorem au{α:Type}{a:α}{C:Prop}(h:none=some a):C:=absurd h.symm (Wp a)
theorem aJ [Decidable c](h:decide c=true):c:=of_decide_eq_true h
theorem ar{α:Type}[BEq α][LawfulBEq α]{a b:α}(h:(a==b)=true):a=b:=eq_of_beq h
theorem cZ(h:(!b)=true):b=false:=by cases b;rfl;cases h
end Mine
end
section
namespace Mine
open PySem PySem.W PySem.Calls PyProof.Rows
structure Gs where
 pl:Pl
 prog:Ug
 w:TB
 B:QG
 cls:PJ
structure cj(A:Qx)(fr:List Env)(n:Nat):Prop where
 handled:A.handled=none
 frames:A.frames=some fr
 guards:A.guards=some []
 depth:A.depth+2*n+3<UJ
 units:A.units+20*n+1000<Vo
noncomputable def aj(g:Gs)(Γ:aH)(N:List (Str×RV))(n:Nat)(e:E)(x:P8):Prop:=
 ∀W A fr env ρ φ M s Q X,cj A fr n->env.scope.names=N->aC g.pl g.w.params W Γ env ρ φ M s.heap->St g.pl g.w.params g.B W fr φ M s->
  aO g.pl.P (ag g.pl.P n) e ρ M Q X->PR (PW g.prog g.w) A (eval x env) (LQ g.pl g.w.params g.B W fr φ M s Q) (LX g.pl g.w.params g.B W fr g.cls φ M s X) s
section
variable{g:Gs}{Γ:aH}{N:List (Str×RV)}{n:Nat}{W V:P3->Prop}{A:Qx}{fr:List Env}{φ:az}{M:AH}{s:PK}{E0:PJ->PK->Prop}
theorem LQ.here(st:St g.pl g.w.params g.B W fr φ M s)(q:Q x M)(r:VR g.pl g.w.params φ (ow W φ M) s.heap x v):LQ g.pl g.w.params g.B W fr φ M s Q v s:=
 ⟨x,φ,M,q,st,.refl,r⟩
theorem LQ.tk(st:St g.pl g.w.params g.B W fr φ M s)(t:Tok)(q:Q x M)(r:VR g.pl g.w.params φ (ow W φ M) s.heap x v):LQ g.pl g.w.params g.B W fr φ M s Q v {s with toks:=t}:=
 ⟨x,φ,M,q,st.tok rfl,.tok rfl rfl rfl,r⟩
theorem LQ.int(st:St g.pl g.w.params g.B W fr φ M s)(t:Tok)(q:Q (.int i) M)(u:Tok):LQ g.pl g.w.params g.B W fr φ M s Q (.int i u) {s with toks:=t}:=
 LQ.tk st t q (VR.i ⟨_,rfl⟩)
theorem LQ.bool(st:St g.pl g.w.params g.B W fr φ M s)(q:Q (.bool b) M):LQ g.pl g.w.params g.B W fr φ M s Q (.bool b) s:=
 LQ.here st q rfl
theorem LQ.push(st:St g.pl g.w.params g.B W fr φ M s)(t:Tok)(q:Q x M)
  (r:∀h',h'.get? s.heap.objs.size=some o->(∀b o,s.heap.get? b=some o->h'.get? b=some o)->¬ow W φ M s.heap.objs.size->VR g.pl g.w.params φ (ow W φ M) h' x (.ref s.heap.objs.size))(hf:o.isFreed=false):
  LQ g.pl g.w.params g.B W fr φ M s Q (.ref s.heap.objs.size) {s with heap:=s.heap.push o,toks:=t}:=by
 have hk:∀b o',s.heap.get? b=some o'->(s.heap.push o).get? b=some o':=λ b o' e=>PA _ e
 have Fc:s.heap.objs.size<=(s.heap.push o).objs.size:=by refine aa (Qb _ _) ?_;exact RP _
 have Jf:¬ow W φ M s.heap.objs.size:=λ q=>Rn _ (st.IE q)
 exact⟨x,φ,M,q,st.Gn hk,.ext hk rfl rfl,r _ (PM _ hf) hk Jf⟩
theorem am.ext{φ:az}(hk:∀b o,h.get? b=some o->h'.get? b=some o)(r:am pl P φ o h y v):am pl P φ o h' y v:=
 am.mono (Pz _) (λ b o e zz=>.inl (hk b o e)) (λ zz q=>.inl q) r
theorem VR.ext{φ:az}{o:P3->Prop}(hk:∀b o,h.get? b=some o->h'.get? b=some o){y:Mine.V}(r:VR pl P φ o h y v):VR pl P φ o h' y v:=
 VR.mono (Pz _) (λ b o e zz=>.inl (hk b o e)) (λ zz q=>.inl q) r
theorem LQ.newList(st:St g.pl g.w.params g.B W fr φ M s)(t:Tok)(q:Q (.list vs) M)(l:vs.length<=aq)(r:am g.pl g.w.params φ (ow W φ M) s.heap vs xs):
  LQ g.pl g.w.params g.B W fr φ M s Q (.ref s.heap.objs.size) {s with heap:=s.heap.push {cls:=.type "list",data:=.seq xs.toArray},toks:=t}:=
 LQ.push st t q (λ h' e k no=>VR.l ⟨_,xs,0,rfl,no,e,l,r.ext k⟩) rfl
theorem LQ.Gz(st:St g.pl g.w.params g.B W fr φ M s)(t:Tok)(q:Q (.tup vs) M)(l:vs.length<=aq)(r:am g.pl g.w.params φ (ow W φ M) s.heap vs xs):
  LQ g.pl g.w.params g.B W fr φ M s Q (.ref s.heap.objs.size) {s with heap:=s.heap.push {cls:=.type "tuple",data:=.seq xs.toArray},toks:=t}:=
 LQ.push st t q (λ h' e k no=>VR.t ⟨_,xs,0,rfl,no,e,l,r.ext k⟩) rfl
theorem am.append{φ:az}:∀{a b:List Mine.V} {xs ys:List PJ},am pl P φ o h a xs->am pl P φ o h b ys->am pl P φ o h (a++b) (xs++ys):=by
 intro a
 induction a with
 |nil=>
  intro b xs ys ha hb
  subst ha;exact hb
 |cons x a ih=>
  intro b xs ys ha hb
  obtain⟨y,t,rfl,h1,h2⟩:=ha
  exact am.c ⟨y,t++ys,rfl,h1,ih h2 hb⟩
theorem am.get{φ:az}:∀{a:List Mine.V} {xs:List PJ} {i:Nat} {x:Mine.V},am pl P φ o h a xs->a[i]? =some x->∃v,xs[i]? =some v/\VR pl P φ o h x v:=by
 intro a
 induction a with
 |nil=>
  intro xs i x ha e
  simp at e
 |cons y a ih=>
  intro xs y1
  cases y1 with
  |zero=>
   intro x ha e
   obtain⟨v,t,rfl,h1,_⟩:=ha
   simp at e;subst e
   exact aA v rfl h1
  |succ i=>
   intro x ha e
   obtain⟨v,t,rfl,_,h2⟩:=ha
   simp at e
   refine ai (ih h2 e) λ u e1 r=> ?_
   exact aA u (by simpa using e1) r
theorem aD{α:Type}{o:Option α}{k:α->Prop}(h:aB o k):∃a,o=some a/\k a:=by
 cases o with
 |none=>exact h.elim
 |some a=>exact aA a rfl h
theorem lL{b:Int}(h:b.natAbs<cU):b.natAbs.log2<9000:=by
 by_cases h0:b.natAbs=0
 ·refine aa h0 ?_;decide+kernel
 ·exact Nat.lt_trans ((Nat.log2_lt h0).mpr h) (by decide)
theorem lM(h:a.natAbs<cU):VG a<=2^20:=by
 unfold VG
 split
 ·exact Rv _
 ·have:=lL h
  exact ae 0x2418501fc18510a3280cbfd101 rfl a.natAbs.log2 this
theorem cV(h:PD a=PD b):a=b:=by
 rw[QB,QB] at h
 injection h with h
 have h2:a.toList.map UI=b.toList.map UI:=by simpa using congrArg Wk h
 have inj:∀{l1 l2:List Char},l1.map UI=l2.map UI->l1=l2:=by
  intro l1
  induction l1 with
  |nil=>intro l2 e;cases l2 with
   |nil=>rfl
   |cons _ _=>simp at e
  |cons c r ih=>intro l2 e;cases l2 with
   |nil=>simp at e
   |cons d r2=>
    simp only [PP,WL] at e
    have hc:c=d:=Char.ext (UInt32.toNat_inj.mp e.1)
    refine aa hc ?_;refine aa (ih e.2) ?_;rfl
 exact String.toList_inj.mp (inj h2)
theorem qT(a b:String):PD a++PD b=PD (a++b):=by
 show Str.append _ _=_
 refine aa (QB _) ?_;refine aa (QB _) ?_;refine aa (QB _) ?_
 simp[Str.append]
noncomputable def zf:xx->Operator
 |.add=>.Add|.sub=>.Sub|.mul=>.Mult|.div=>.FloorDiv|.mod=>.Mod|.pow=>.Pow|.shl=>.LShift|.shr=>.RShift|.band=>.BitAnd|.bor=>.BitOr
theorem cG{n:Nat}(h:n<=aq):n<=Rl:=PO h (by decide)
theorem ic(h:aM v=some i):v=.int i:=by cases v<;>first|exact au h|(cases h;rfl)
theorem pH(h:bE v=some i):v=.bool i:=by cases v<;>first|exact au h|(cases h;rfl)
theorem eR(h:cF v=some i):v=.str i:=by cases v<;>first|exact au h|(cases h;rfl)
theorem rZ(h:nR v=some i):v=.bytes i:=by cases v<;>first|exact au h|(cases h;rfl)
theorem mB(h:nQ v=some i):v=.tup i:=by cases v<;>first|exact au h|(cases h;rfl)
theorem rX(h:lw v=some i):v=.list i:=by cases v<;>first|exact au h|(cases h;rfl)
inductive zS{α β:Type}(o:Option α)(f:α->Option β)(r:β):Prop
 |mk (a:α):o=some a->f a=some r->zS o f r
theorem aP{α β:Type}{o:Option α}{f:α->Option β}{r:β}(h:o.bind f=some r):zS o f r:=by
 cases o with
 |none=>exact au h
 |some a=>exact⟨a,rfl,h⟩
inductive Cq{α β:Type}(o:Option α)(f:α->β)(r:β):Prop
 |mk (a:α):o=some a->f a=r->Cq o f r
theorem g9{α β:Type}{o:Option α}{f:α->β}{r:β}(h:o.map f=some r):Cq o f r:=by
 cases o with
 |none=>exact au h
 |some a=>exact⟨a,rfl,PX h⟩
theorem eI{α:Type}[Decidable c]{o:Option α}{r:α}(h:(if c then o else none)=some r):c/\o=some r:=by
 by_cases hc:c
 ·rw[if_pos hc] at h;exact⟨hc,h⟩
 ·rw[if_neg hc] at h;cases h
theorem Dk(h:0<=a):decide (0<=RE a)=false:=decide_eq_false (by unfold RE;exact ae 0x2498040a135180446010 rfl a h)
theorem oS(i:Int):RE (RE i)=i:=by unfold RE;exact ae 0x644284d0a135110 rfl i
theorem AZ(st:St g.pl g.w.params g.B W fr φ M s)(h:Ce op a b=some r)(q:Q r M):
  PR (PW g.prog g.w) A (Yc (zf op) (.int a t) (.int b u)) (LQ g.pl g.w.params g.B W fr φ M s Q) E0 s:=by
 cases op
 case add=>cases h;exact add_int (LQ.int st _ q _)
 case sub=>cases h;exact sub_int (LQ.int st _ q _)
 all_goals
  obtain⟨hb,e⟩:=eI h
  cases e
 ·exact mul_int (LQ.int st _ q _) (IntMulOk.of_bits (lM hb.1) (lM hb.2))
 ·exact floordiv_int hb.1 (LQ.int st _ q _) (.inl (PyProof.noPylong_of_log2 (lL hb.2)))
 ·exact mod_int' hb (LQ.int st _ q _)
 ·exact pow_int_small hb.2.2.1 (ae 0x1227a12063bf4871c7120607f4844a013044446020 rfl a b hb) (ae 0x2429001fce4471c7120607f4844a013044446020 rfl a b hb) (LQ.int st _ q _)
 ·exact lshift_int_small hb.2.1 (ae 0x489e84818efd21c7120607f4844a00a4007f39120 rfl a b hb) hb.1 (LQ.int st _ q _)
 ·exact rshift_int hb (LQ.int st _ q _)
 ·have e:Vd a b=((a.toNat&&&b.toNat:Nat):Int):=by unfold Vd;refine aa (decide_eq_true hb.1) ?_;refine aa (decide_eq_true hb.2) ?_;rfl
  exact and_int (by refine aa e ?_;exact LQ.int st _ q _)
 ·have e:XH a b=((a.toNat|||b.toNat:Nat):Int):=by
   obtain⟨m,rfl⟩:=QX hb.1
   obtain⟨k,rfl⟩:=QX hb.2
   unfold XH Vd
   refine aa (Dk hb.1) ?_;refine aa (Dk hb.2) ?_
   show RE (RE _)=_
   refine aa (oS _) ?_;refine aa (oS _) ?_;refine aa (oS _) ?_;rfl
  exact or_int (by refine aa e ?_;exact LQ.int st _ q _)
theorem am.nil_of{φ:az}(r:am pl P φ o h a xs)(e:xs=[]):a=[]:=Ro (by refine aE r.length ?_;refine aa e ?_;rfl)
theorem AY(st:St g.pl g.w.params g.B W fr φ M s)(hx:VR g.pl g.w.params φ (ow W φ M) s.heap (.tup a) v)(hy:VR g.pl g.w.params φ (ow W φ M) s.heap (.tup b) u)
  (hb:a.length+b.length<=aq)(q:Q (.tup (a++b)) M):PR (PW g.prog g.w) A (Yc .Add v u) (LQ g.pl g.w.params g.B W fr φ M s Q) E0 s:=by
 obtain⟨p1,xs,n1,rfl,MJ,g1,l1,r1⟩:=hx
 obtain⟨p2,ys,n2,rfl,MI,g2,l2,r2⟩:=hy
 by_cases hv:xs=[]
 ·subst hv
  cases r1.nil_of rfl
  exact Xy ⟨_,g1,rfl⟩ ⟨_,g2,rfl⟩ VV W4 Tl Ta (SW _ _)
   (tuple_addW0 p1 p2 [].toArray ys.toArray n1 n2 none none #[] #[] rfl) ⟨g1,g2,LQ.here st q (ii.mk _ ys n2 rfl MI g2 l2 r2)⟩
 ·by_cases hw:ys=[]
  ·subst hw
   cases r2.nil_of rfl
   rw[Qa] at q
   exact Xy ⟨_,g1,rfl⟩ ⟨_,g2,rfl⟩ VV W4 Tl Ta (SW _ _)
    (tuple_addW1 p1 p2 xs.toArray [].toArray n1 n2 none none #[] #[] (by simpa using hv) rfl) ⟨g1,g2,LQ.here st q (ii.mk _ xs n1 rfl MJ g1 l1 r1)⟩
  ·refine Xy ⟨_,g1,rfl⟩ ⟨_,g2,rfl⟩ VV W4 Tl Ta (SW _ _)
    (tuple_addW2 p1 p2 xs.toArray ys.toArray n1 n2 none none #[] #[] (by simpa using hv) (by simpa using hw) (by refine aa PU ?_;refine aa PU ?_;refine aa r1.length ?_;refine aa r2.length ?_;exact cG hb)) ⟨g1,g2,?_⟩
   refine aa (WV _ _) ?_
   exact LQ.Gz st _ q (by refine aa PH ?_;exact hb) (r1.append r2)
theorem Cd(st:St g.pl g.w.params g.B W fr φ M s)(hx:VR g.pl g.w.params φ (ow W φ M) s.heap x v)(hy:VR g.pl g.w.params φ (ow W φ M) s.heap y u)
  (h:gr op x y=some r)(q:Q r M):PR (PW g.prog g.w) A (Yc (zf op) v u) (LQ g.pl g.w.params g.B W fr φ M s Q) E0 s:=by
 have add:∀x:Mine.V,VR g.pl g.w.params φ (ow W φ M) s.heap x v->Ci x y=some r->PR (PW g.prog g.w) A (Yc .Add v u) (LQ g.pl g.w.params g.B W fr φ M s Q) E0 s:=by
  intro x hx h
  cases x<;>first|exact au h|(obtain⟨b,hb,h⟩:=aP h;obtain⟨hc,h⟩:=eI h;cases h)
  ·cases eR hb
   obtain⟨l1,t,rfl⟩:=hx;obtain⟨l2,t',rfl⟩:=hy
   refine add_str (λ t' tk=> ?_) (by refine aa (Ra _) ?_;refine aa (Ra _) ?_;exact cG hc)
   exact LQ.tk st _ q (sj.mk (by refine aa (String.length_append _ _) ?_;exact hc) t' (by refine aa (qT _ _) ?_;rfl))
  ·cases mB hb
   exact AY st hx hy hc q
  ·cases rX hb
   obtain⟨p1,xs,n1,rfl,MJ,g1,l1,r1⟩:=hx
   obtain⟨p2,ys,n2,rfl,MI,g2,l2,r2⟩:=hy
   refine P.add_list g1 g2 ?_ (by refine aa PU ?_;refine aa PU ?_;refine aa r1.length ?_;refine aa r2.length ?_;exact cG hc)
   refine aa (WV _ _) ?_
   exact LQ.newList st _ q (by refine aa PH ?_;exact hc) (r1.append r2)
 unfold gr at h
 generalize ha:aM x=o at h
 cases o with
 |some a=>
  obtain⟨b,hb,h⟩:=aP h
  cases ic ha
  cases ic hb
  obtain⟨t,rfl⟩:=hx
  obtain⟨t',rfl⟩:=hy
  exact AZ st h q
 |none=>cases op<;>first|exact au h|exact add _ hx h
end
end Mine
end
section
namespace Mine
open PySem PySem.W PySem.Calls PyProof.Rows PySem.SeqAt
noncomputable def gA(f:Mine.V->Mine.V->Option Bool)(xs ys:List Mine.V)(j:Nat):Bool:=(f (xs.getD j .none) (ys.getD j .none)).getD false
inductive Du(f:Mine.V->Mine.V->Option Bool)(x y:Mine.V)(xs ys:List Mine.V)(r:Bool):Prop
 |mk (a c:Bool):f x y=some a->eO f xs ys=some c->r=(a&&c)->Du f x y xs ys r
set_option tactic.hygienic true in
theorem tY(h:eO f (x::xs) (y::ys)=some r):Du f x y xs ys r:=by
 obtain⟨a,ha,h⟩:=aP h
 cases hc:eO f xs ys<;>rw[hc] at h<;>first|exact au h|skip;rename_i c;cases h
 exact⟨a,c,ha,hc,rfl⟩
theorem DZ(n m:Nat):(n+1==m+1)=(n==m):=SK.mpr (by rewrite[beq_iff_eq];rewrite[beq_iff_eq];rewrite[Nat.add_right_cancel_iff];rfl)
theorem tZ:∀{xs ys:List Mine.V} {b:Bool},eO f xs ys=some b->
  b=((PQ (min xs.length ys.length)).all (gA f xs ys)&&xs.length==ys.length)/\∀j (x y:Mine.V),xs[j]? =some x->ys[j]? =some y->f x y=some (gA f xs ys j):=by
 intro xs
 induction xs with
 |nil=>
  intro y1
  cases y1 with
  |nil=>
   intro b h
   cases h;exact⟨rfl,λ j x y hx=>by simp at hx⟩
  |cons y ys=>
   intro b h
   cases h;exact⟨by simp,λ j x y hx=>by simp at hx⟩
 |cons x xs ih=>
  intro y2
  cases y2 with
  |nil=>
   intro b h
   cases h;exact⟨by simp,λ j x y zz hx=>by simp at hx⟩
  |cons y ys=>
   intro b h
   obtain⟨a,c,ha,hc,rfl⟩:=tY h
   obtain⟨Oi,Oh⟩:=ih hc
   have e0:gA f (x::xs) (y::ys) 0=a:=by show(f x y).getD false=a;refine aa ha ?_;rfl
   have e3:(PQ (min xs.length ys.length+1)).all (gA f (x::xs) (y::ys))=(a&&(PQ (min xs.length ys.length)).all (gA f xs ys)):=by
    refine aa TA ?_;refine aa Uv ?_;refine aa YJ ?_;refine aa e0 ?_
    rfl
   refine⟨?_,λ j u v hu hv=> ?_⟩
   ·refine aa PN ?_;refine aa PN ?_;refine aa (Nat.succ_min_succ _ _) ?_;refine aa e3 ?_;refine aa (Bool.and_assoc _ _ _) ?_;refine aa (DZ _ _) ?_;refine aE Oi ?_;rfl
   ·cases j with
    |zero=>cases hu;cases hv;refine aa e0 ?_;exact ha
    |succ j=>exact Oh j u v hu hv
section
variable{pl:Pl}{P:QN}{φ:az}{o:P3->Prop}
inductive iT(n:Nat):Mine.V->Mine.V->Bool->Prop
 |none:iT n .none .none true
 |bool (a b:Bool):iT n (.bool a) (.bool b) (a==b)
 |int (a b:Int):iT n (.int a) (.int b) (a==b)
 |str (a b:String):iT n (.str a) (.str b) (a==b)
 |bytes (a b:List UInt8):iT n (.bytes a) (.bytes b) (a==b)
 |tup (a b:List Mine.V) (r:Bool):eO (jj n) a b=some r->iT n (.tup a) (.tup b) r
 |list (a b:List Mine.V) (r:Bool):eO (jj n) a b=some r->iT n (.list a) (.list b) r
 |nl (b:List Mine.V):iT n .none (.list b) false
 |ln (b:List Mine.V):iT n (.list b) .none false
set_option tactic.hygienic true in
theorem rF(h:jj (n+1) x y=some r):iT n x y r:=by
 cases x<;>first|exact au h|skip
 case none=>cases y<;>first|exact au h|(cases h;constructor)
 case list a=>cases y<;>first|exact au h|(cases h;exact .ln a)|exact .list a _ r h
 case tup a=>obtain⟨b,hb,h⟩:=aP h;cases mB hb;exact .tup a b r h
 case bool a=>have h:(match bE y with|some b=>some (a==b)|none=>none)=some r:=h;cases hb:bE y<;>rw[hb] at h<;>first|exact au h|skip;rename_i b;have e:=PX h;cases pH hb;cases e;constructor
 case int a=>have h:(match aM y with|some b=>some (a==b)|none=>none)=some r:=h;cases hb:aM y<;>rw[hb] at h<;>first|exact au h|skip;rename_i b;have e:=PX h;cases ic hb;cases e;constructor
 case str a=>have h:(match cF y with|some b=>some (a==b)|none=>none)=some r:=h;cases hb:cF y<;>rw[hb] at h<;>first|exact au h|skip;rename_i b;have e:=PX h;cases eR hb;cases e;constructor
 case bytes a=>have h:(match nR y with|some b=>some (a==b)|none=>none)=some r:=h;cases hb:nR y<;>rw[hb] at h<;>first|exact au h|skip;rename_i b;have e:=PX h;cases rZ hb;cases e;constructor
theorem tm{o:Option Obj}{f:List PJ->Nat->Obj}(hf:∀xs n,(f xs n).data=.seq xs.toArray n){xs ys:List PJ}{n m:Nat}(h:o=some (f xs n))(h':o=some (f ys m)):xs=ys:=by
 have e:=congrArg Obj.data (PX (h.symm.trans h'))
 rw[hf,hf] at e
 injection e with e
 exact congrArg Wk e
theorem yH:∀(n:Nat) {x y:Mine.V} {v:PJ} {b:Bool},VR pl P φ o h x v->VR pl P φ o h y v->jj n x y=some b->b=true:=by
 intro n
 induction n with
 |zero=>
  intro y1 y2 y3 y4 y5 y6 e
  exact au e
 |succ n ihq=>
  intro x y v b hx hy e
  have hl:∀(d:Bool) {xs ys:List Mine.V} {vs:List PJ},am pl P φ o h xs vs->am pl P φ o h ys vs->eO (jj n) xs ys=some d->d=true:=by
   intro d xs ys vs h1 h2 he
   induction xs generalizing ys vs d with
   |nil=>
    subst h1
    cases ys with
    |nil=>cases he;rfl
    |cons y ys=>obtain⟨_,_,h,_⟩:=h2;cases h
   |cons x xs ih=>
    obtain⟨u,t,rfl,a1,a2⟩:=h1
    cases ys with
    |nil=>cases h2
    |cons y ys=>
     obtain⟨u',t',hh,b1,b2⟩:=h2
     cases hh
     obtain⟨a,c,ha,hc,rfl⟩:=tY he
     refine aa (ihq a1 b1 ha) ?_;refine aa (ih _ a2 b2 hc) ?_;rfl
  cases rF e with
  |none=>rfl
  |bool a b=>subst hx;injection hy with e;exact beq_iff_eq.mpr e
  |int a b=>obtain⟨t,rfl⟩:=hx;obtain⟨t',h⟩:=hy;injection h with e;exact beq_iff_eq.mpr e
  |str a b=>obtain⟨_,t,rfl⟩:=hx;obtain⟨_,t',h⟩:=hy;injection h with e;exact beq_iff_eq.mpr (cV e)
  |bytes a b=>obtain⟨_,t,rfl⟩:=hx;obtain⟨_,t',h⟩:=hy;injection h with e;exact beq_iff_eq.mpr (congrArg Wk e)
  |tup a b r he=>
   obtain⟨p,xs,k,rfl,_,g,_,r⟩:=hx
   obtain⟨p',Jo,k',hh,_,g',_,r'⟩:=hy
   cases hh
   cases tm (λ zz zz=>rfl) g g'
   exact hl _ r r' he
  |list a b r he=>
   obtain⟨p,xs,k,rfl,_,g,_,r⟩:=hx
   obtain⟨p',Jo,k',hh,_,g',_,r'⟩:=hy
   cases hh
   cases tm (λ zz zz=>rfl) g g'
   exact hl _ r r' he
  |nl b=>obtain⟨p,xs,k,rfl,_⟩:=hy;cases hx
  |ln b=>obtain⟨p,xs,k,rfl,_⟩:=hx;cases hy
theorem Yr.bytes(a:Array UInt8)(t:Tok)(b:Array UInt8)(u:Tok):Yr A s (.bytes a t) (.bytes b u) (a.toList==b.toList):=λ prog w E Q h=>by
 unfold eqBool
 refine Qr ?_
 refine wpAny_ite_split (λ OU=> ?_) (λ zz=> ?_)
 ·have e:a=b:=by have:=eq_of_beq OU;injection this
  subst e
  exact Py (TC (PB (by simpa using h)))
 ·exact Py (eq_bytes (prog:=prog) (w:=w) (Qz h):PR _ _ (SE .Eq _ _) _ _ _)
theorem qi(a b:String):(PD a==PD b)=(a==b):=by
 rewrite[SK];rewrite[beq_iff_eq];rewrite[beq_iff_eq];exact⟨cV,λ h=>by refine aa h ?_;rfl⟩
theorem dD{h:QG}{a:P3}{xs:List PJ}{n:Nat}(g:h.get? a=some (bb xs n)):h.IsList a xs.toArray:=⟨_,g,rfl,n,rfl⟩
theorem tQ{h:QG}{a:P3}{xs:List PJ}{n:Nat}(g:h.get? a=some (iI xs n)):h.IsTuple a xs.toArray:=⟨_,g,rfl,n,rfl⟩
theorem jH(r1:am pl P φ o s.heap as xs)(r2:am pl P φ o s.heap cs ys)
  (he:∀j (x y:Mine.V),as[j]? =some x->cs[j]? =some y->f x y=some (gA f as cs j))
  (ih:∀x y v u b,VR pl P φ o s.heap x v->VR pl P φ o s.heap y u->f x y=some b->Yr A s v u b):
  ∀j (h1:j<xs.toArray.size) (h2:j<ys.toArray.size),Yr A s xs.toArray[j] ys.toArray[j] (gA f as cs j):=by
 intro j h1 h2
 have l1:=r1.length;have l2:=r2.length
 simp only [PU] at h1 h2
 have j1:j<as.length:=ae 0x92424930914c349103 rfl xs.length as.length j l1 h1
 have j2:j<cs.length:=ae 0x92424930914c349103 rfl ys.length cs.length j l2 h2
 refine ai (r1.get (i:=j) (x:=as[j]) (by simp[j1])) λ v hv rv=> ?_
 refine ai (r2.get (i:=j) (x:=cs[j]) (by simp[j2])) λ u hu ru=> ?_
 have e1:xs.toArray[j]=v:=by simp;rw[PG h1] at hv;exact PX hv
 have e2:ys.toArray[j]=u:=by simp;rw[PG h2] at hu;exact PX hu
 refine aa e1 ?_;refine aa e2 ?_
 exact ih _ _ _ _ _ rv ru (he j _ _ (by simp[j1]) (by simp[j2]))
theorem rb{A:Qx}{s:PK}{f:Mine.V->Mine.V->Option Bool}{as cs:List Mine.V}{xs ys:List PJ}{p q:P3}{n k:Nat}{b:Bool}(r1:am pl P φ o s.heap as xs)(r2:am pl P φ o s.heap cs ys)
  (g1:s.heap.get? p=some (bb xs n))(g2:s.heap.get? q=some (bb ys k))(he:eO f as cs=some b)(hu:A.units<Vo)
  (ih:∀x y v u b,VR pl P φ o s.heap x v->VR pl P φ o s.heap y u->f x y=some b->Yr A.in1 s v u b):RcAt A s (.ref p) (.ref q) b/\RcNeAt A s (.ref p) (.ref q) (!b):=by
 obtain⟨hb,hj⟩:=tZ he
 have l1:=r1.length;have l2:=r2.length
 by_cases Fc:xs.length=ys.length
 ·have e:b=(PQ xs.toArray.size).all (gA f as cs):=by
   refine aa hb ?_;have:(as.length==cs.length)=true:=by simp;exact ae 0x92490d44834d10d44c349104 rfl xs.length as.length ys.length cs.length l1 l2 Fc
   refine aa this ?_;refine aa (Yo _) ?_;congr 2;simp;exact ae 0x92490d11144834d10d44c349104 rfl xs.length as.length ys.length cs.length l1 l2 Fc
  refine aa e ?_
  exact⟨RcAt.lists (dD g1) (dD g2) (by simpa using Fc) hu (jH (A:=A.in1) r1 r2 hj ih),RcNeAt.lists (dD g1) (dD g2) (by simpa using Fc) hu (jH (A:=A.in1) r1 r2 hj ih)⟩
 ·have e:b=false:=by
   refine aa hb ?_;have:(as.length==cs.length)=false:=by simp;exact ae 0x92492600d44898034d10d44c349104 rfl xs.length as.length ys.length cs.length l1 l2 Fc
   refine aa this ?_;refine aa (S7 _) ?_;rfl
  refine aa e ?_
  exact⟨RcAt.lists_lengths (dD g1) (dD g2) (by simpa using Fc) hu,RcNeAt.lists_lengths (dD g1) (dD g2) (by simpa using Fc) hu⟩
theorem oW(r1:am pl P φ o s.heap as xs)(r2:am pl P φ o s.heap cs ys)
  (g1:s.heap.get? p=some (iI xs n))(g2:s.heap.get? q=some (iI ys k))(he:eO f as cs=some b)(hu:A.units<Vo)
  (ih:∀x y v u b,VR pl P φ o s.heap x v->VR pl P φ o s.heap y u->f x y=some b->Yr A.in1 s v u b):RcAt A s (.ref p) (.ref q) b/\RcNeAt A s (.ref p) (.ref q) (!b):=by
 obtain⟨hb,hj⟩:=tZ he
 have l1:=r1.length;have l2:=r2.length
 have e:b=((PQ (min xs.toArray.size ys.toArray.size)).all (gA f as cs)&&xs.toArray.size==ys.toArray.size):=by
  refine aa hb ?_;simp only [PU];refine aa l1 ?_;refine aa l2 ?_;rfl
 refine aa e ?_
 exact⟨RcAt.tuples (tQ g1) (tQ g2) hu (jH (A:=A.in1) r1 r2 hj ih),RcNeAt.tuples (tQ g1) (tQ g2) hu (jH (A:=A.in1) r1 r2 hj ih)⟩
theorem t4:∀(n:Nat) {A:Qx} {s:PK} {x y:Mine.V} {v u:PJ} {b:Bool},VR pl P φ o s.heap x v->VR pl P φ o s.heap y u->jj n x y=some b->A.units+n<Vo->Yr A s v u b:=by
 intro n
 induction n with
 |zero=>
  intro y1 y2 y3 y4 y5 y6 y7 y8 y9 e G0
  cases e
 |succ n ihq=>
  intro A s x y v u b hx hy e hu
  have h1:A.units<Vo:=ae 0x2429ab0119fa214d5808cfc106149102 rfl A.units n hu
  have ih:∀x y v u b,VR pl P φ o s.heap x v->VR pl P φ o s.heap y u->jj n x y=some b->Yr A.in1 s v u b:=λ x y v u b h1 h2 h3=>ihq h1 h2 h3 (by show A.units+1+n<Vo;exact ae 0x2429ab0119f829030a214d5808cfc106149102 rfl A.units n hu)
  have same:v=u->Yr A s v u b:=λ q=>by
   subst q;refine aa (yH (n+1) hx hy e) ?_;exact EqAt.same _
  cases rF e with
  |none=>subst hx hy;exact EqAt.same _
  |bool a b=>subst hx hy;exact EqAt.bool_bool _ _
  |int a b=>obtain⟨t,rfl⟩:=hx;obtain⟨t',rfl⟩:=hy;exact EqAt.int_int _ _ _ _
  |str a b=>obtain⟨_,t,rfl⟩:=hx;obtain⟨_,t',rfl⟩:=hy;refine aE (qi _ _) ?_;exact EqAt.str_str _ _ _ _
  |bytes a b=>obtain⟨_,t,rfl⟩:=hx;obtain⟨_,t',rfl⟩:=hy;exact Yr.bytes _ _ _ _
  |tup a c d e=>
   obtain⟨p,xs,k,rfl,_,g,_,r⟩:=hx
   obtain⟨p',Jo,k',rfl,_,g',_,r'⟩:=hy
   by_cases hp:p=p'
   ·exact same (by refine aa hp ?_;rfl)
   ·exact YK hp (oW r r' g g' e h1 ih).1
  |list a c d e=>
   obtain⟨p,xs,k,rfl,_,g,_,r⟩:=hx
   obtain⟨p',Jo,k',rfl,_,g',_,r'⟩:=hy
   by_cases hp:p=p'
   ·exact same (by refine aa hp ?_;rfl)
   ·exact YK hp (rb r r' g g' e h1 ih).1
  |nl c=>obtain⟨p,xs,k,rfl,_,g,_,r⟩:=hy;subst hx;exact EqAt.none_list (dD g) h1
  |ln c=>obtain⟨p,xs,k,rfl,_,g,_,r⟩:=hx;subst hy;exact EqAt.list_none (dD g) h1
inductive zK(h:QG)(R:List PJ->Prop)(v:PJ):Prop
 |mk (a:P3) (xs:List PJ) (n:Nat):v=.ref a->h.get? a=some (bb xs n)->R xs->zK h R v
noncomputable def VN(pl:Pl)(P:QN)(φ:az)(o:P3->Prop)(h:QG):Mine.V->PJ->Prop
 |.list vs=>zK h (am pl P φ o h vs)
 |x=>VR pl P φ o h x
theorem tx{n:Nat}{A:Qx}{s:PK}{x y:Mine.V}{v u:PJ}{b:Bool}(hx:VN pl P φ o s.heap x v)(hy:VN pl P φ o s.heap y u)(e:jj (n+1) x y=some b)(hu:A.units+(n+1)<Vo):
  RcAt A s v u b/\RcNeAt A s v u (!b):=by
 have h1:A.units<Vo:=ae 0x2429ab0119fa214d5808cfc106149102 rfl A.units n hu
 have ih:∀x y v u b,VR pl P φ o s.heap x v->VR pl P φ o s.heap y u->jj n x y=some b->Yr A.in1 s v u b:=λ x y v u b h1 h2 h3=>t4 n h1 h2 h3 (by show A.units+1+n<Vo;exact ae 0x2429ab0119f829030a214d5808cfc106149102 rfl A.units n hu)
 cases rF e with
 |none=>subst hx hy;exact⟨RcAt.none_none,RcNeAt.none_none⟩
 |bool a b=>subst hx hy;exact⟨RcAt.bool_bool _ _,RcNeAt.bool_bool _ _⟩
 |int a b=>obtain⟨t,rfl⟩:=hx;obtain⟨t',rfl⟩:=hy;exact⟨RcAt.int_int _ _ _ _,RcNeAt.int_int _ _ _ _⟩
 |str a b=>obtain⟨_,t,rfl⟩:=hx;obtain⟨_,t',rfl⟩:=hy;refine aE (qi _ _) ?_;exact⟨RcAt.str_str _ _ _ _,RcNeAt.str_str _ _ _ _⟩
 |bytes a b=>
  obtain⟨_,t,rfl⟩:=hx;obtain⟨_,t',rfl⟩:=hy
  exact⟨λ prog w E Q h=>(eq_bytes h:PR _ _ (SE .Eq _ _) _ _ _),λ prog w E Q h=>(ne_bytes h:PR _ _ (SE .NotEq _ _) _ _ _)⟩
 |tup a c d e=>
  obtain⟨p,xs,k,rfl,_,g,_,r⟩:=hx
  obtain⟨p',Jo,k',rfl,_,g',_,r'⟩:=hy
  exact oW r r' g g' e h1 ih
 |list a c d e=>
  obtain⟨p,xs,k,rfl,g,r⟩:=hx
  obtain⟨p',Jo,k',rfl,g',r'⟩:=hy
  exact rb r r' g g' e h1 ih
 |nl c=>obtain⟨p,xs,k,rfl,g,r⟩:=hy;subst hx;exact⟨RcAt.none_list (dD g) h1,RcNeAt.none_list (dD g) h1⟩
 |ln c=>obtain⟨p,xs,k,rfl,g,r⟩:=hx;subst hy;exact⟨RcAt.list_none (dD g) h1,RcNeAt.list_none (dD g) h1⟩
end
end Mine
end
section
namespace Mine
open PySem PySem.W PySem.Calls PyProof.Rows
theorem fU{n:Nat}{a b:P3}(h:n<=a)(l:b<n):a≠b:=λ e=>Rn b (PI l (e▸h))
theorem List.Ew{α:Type}(a b:List α):a<+:a++b:=⟨b,rfl⟩
section
variable{pl:Pl}{P:QN}{B:QG}{W V:P3->Prop}{fr:List Env}{φ φ':az}{M M':AH}{s s':PK}
theorem jd{φ:az}{M:AH}(hlen:φ.length=M.next)(FS:∀i o,M.m i=some o->∃p,φ[i]? =some p)(q:own (φ++[p]) (M.new o) b):own φ M b∨b=p.1∨b=p.2:=by
 obtain⟨i,r,hi,hr,e⟩:=q
 have hm:(if i=M.next then some o else M.m i).isSome=true:=hi
 by_cases hin:i=M.next
 ·subst hin
  rw[P6 (by exact ae 0x905244349102 rfl (Q2 φ) M.next hlen),hlen] at hr
  simp at hr;subst hr
  exact .inr e
 ·rw[if_neg hin] at hm
  obtain⟨o',Hf⟩:=P2.mp hm
  obtain⟨r',GB⟩:=FS i o' Hf
  rw[Qc (PL.mp GB).1,GB] at hr
  cases hr
  exact .inl ⟨i,_,hm,GB,e⟩
theorem St.alloc{p:P3×P3}{o:O}(st:St pl P B W fr φ M s)(hk:∀b o,s.heap.get? b=some o->s'.heap.get? b=some o)
  (h1:s.heap.objs.size<=p.1)(h2:s.heap.objs.size<=p.2)(ho:s'.os=s.os)(hg:s'.gens=s.gens)
  (r:OR pl P (φ++[p]) (ow W (φ++[p]) (M.new o)) s'.heap p o):St pl P B W fr (φ++[p]) (M.new o) s'/\av bt φ M s (φ++[p]) (M.new o) s':=by
 have FS:∀i o,M.m i=some o->∃p,φ[i]? =some p:=λ i o e=>let⟨q,a,_⟩:=st.hr.at_ i o e;⟨q,a⟩
 have FT:∀b,own (φ++[p]) (M.new o) b->own φ M b∨s.heap.objs.size<=b:=λ b q=>(jd st.hr.len FS q).imp id λ e=>e.elim (λ e=>e▸h1) λ e=>e▸h2
 have G6:φ<+:φ++[p]:=List.Ew _ _
 have Jv:∀b,s.heap.objs.size<=b->B.get? b=none:=λ b q=>by
  cases e:B.get? b with
  |none=>rfl
  |some o=>exact absurd (P9 (st.base b o e)) (V4.mpr q)
 refine⟨⟨⟨?_,λ i o' Hf=> ?_,λ i j x y hi hj hx hy Fq=> ?_,λ b q=> ?_,λ b q=> ?_⟩,λ b o e=>hk b o (st.base b o e),st.frames.of_keeps λ b o e zz=>⟨o,hk b o e,rfl⟩,st.Fg,λ env he L hf=>let⟨o,e,c⟩:=st.GH env he L hf;⟨o,hk _ _ e,c⟩,λ b q=>let⟨o,e⟩:=st.FI b q;⟨o,hk b o e⟩,st.EW⟩,
  ⟨G6,λ b o e zz zz=>.inl (hk b o e),λ b q=>(FT b q).imp id aT,λ b o e=>⟨o,hk b o e⟩,ho,hg⟩⟩
 ·refine aa PH ?_;refine aa st.hr.len ?_;rfl
 ·have hm:(if i=M.next then some o else M.m i)=some o':=Hf
  by_cases hin:i=M.next
  ·subst hin
   rw[if_pos rfl] at hm;cases hm
   exact aA p (by refine aa (P6 (by refine aa st.hr.len ?_;exact PC _)) ?_;refine aa st.hr.len ?_;simp) r
  ·rw[if_neg hin] at hm
   refine ai (st.hr.at_ i o' hm) λ q hq rq=> ?_
   refine aA q (by refine aa (Qc (PL.mp hq).1) ?_;exact hq) (OR.mono G6 (λ b o e zz=>.inl (hk b o e)) (λ b z=> ?_) (λ o=>hk _ o) (λ o=>hk _ o) rq)
   exact z.elim (λ z=>.inl (.inl z)) λ z=>(FT b z).elim (λ z=>.inl (.inr z)) λ z=>.inr (aT z)
 ·have case:∀k z,(if k=M.next then some o else M.m k).isSome=true->(φ++[p])[k]? =some z->(k=M.next/\z=p)∨((M.m k).isSome=true/\φ[k]? =some z):=by
   intro k z FR hz
   by_cases Ip:k=M.next
   ·subst Ip
    rw[P6 (by refine aa st.hr.len ?_;exact PC _),st.hr.len] at hz
    simp at hz;exact .inl ⟨rfl,hz.symm⟩
   ·rw[if_neg Ip] at FR
    obtain⟨o',Hf⟩:=P2.mp FR
    obtain⟨r',GB⟩:=FS k o' Hf
    rw[Qc (PL.mp GB).1] at hz
    exact .inr ⟨FR,hz⟩
  have lt:∀k z,(M.m k).isSome=true->φ[k]? =some z->z.1<s.heap.objs.size/\z.2<s.heap.objs.size:=λ k z FR hz=>
   ⟨st.hr.GP (cY FR hz).1,st.hr.GP (cY FR hz).2⟩
  rcases case i x hi hx with⟨e1,e2⟩|⟨a1,a2⟩<;>rcases case j y hj hy with⟨f1,f2⟩|⟨b1,b2⟩
  ·exact absurd (e1.trans f1.symm) Fq
  ·have z:=lt j y b1 b2;subst e2
   exact fj (fU h1 z.1) (fU h1 z.2) (fU h2 z.1) (fU h2 z.2)
  ·have z:=lt i x a1 a2;subst f2
   exact fj ((fU h1 z.1).symm) ((fU h2 z.1).symm) ((fU h1 z.2).symm) ((fU h2 z.2).symm)
  ·exact st.hr.apart i j x y a1 b1 a2 b2 Fq
 ·rcases jd st.hr.len FS q with q|q|q
  ·exact st.hr.new b q
  ·exact Jv b (q▸h1)
  ·exact Jv b (q▸h2)
 ·rcases jd st.hr.len FS q with q|q|q
  ·exact st.hr.ES b q
  ·exact λ w=>fU h1 (st.Ko w) q.symm
  ·exact λ w=>fU h2 (st.Ko w) q.symm
theorem lb{φ:az}{M:AH}(hi:M.m i=some o):own φ (M.set i o') b ↔ own φ M b:=by
 have key:∀j,((M.set i o').m j).isSome=(M.m j).isSome:=λ j=>by
  show(if j=i then some o' else M.m j).isSome=_
  by_cases e:j=i
  ·subst e;refine aa (if_pos rfl) ?_;refine aa hi ?_;rfl
  ·refine aa (if_neg e) ?_;rfl
 constructor
 ·rintro⟨j,p,hj,hp,e⟩;exact⟨j,p,by(first|refine aE (key j) ?_;with_reducible rfl|refine aE (key j) ?_);exact hj,hp,e⟩
 ·rintro⟨j,p,hj,hp,e⟩;exact⟨j,p,by(first|refine aa (key j) ?_;with_reducible rfl|refine aa (key j) ?_);exact hj,hp,e⟩
theorem wm{W:P3->Prop}{φ:az}{M:AH}(hi:M.m i=some o):ow W φ (M.set i o')=ow W φ M:=by
 funext b;unfold ow;rewrite[lb hi];rfl
inductive gE(h:QG)(a:P3):Prop
 |mk (x:Obj):h.get? a=some x->j6 x->gE h a
theorem gE.both{p:P3×P3}(e:p.2=p.1)(g:h.get? p.1=some x)(q:j6 x):gE h p.1/\gE h p.2:=⟨⟨x,g,q⟩,e▸⟨x,g,q⟩⟩
theorem OR.there{o1:P3->Prop}{p:P3×P3}:∀{o:O},OR pl P φ o1 h p o->gE h p.1/\gE h p.2
 |.list _,r=>r.casesOn λ e zz zz g zz zz=>gE.both e g .list
 |.Er _ _,r=>r.casesOn λ e zz zz g zz zz zz=>gE.both e g .dict
 |.EE _ _,r=>r.casesOn λ e zz zz g zz zz zz=>gE.both e g .dict
 |.inst _ _,r=>r.casesOn λ zz zz zz zz g gd zz zz zz zz=>⟨⟨_,g,.inst⟩,⟨_,gd,.dict⟩⟩
theorem St.upd(st:St pl P B W fr φ M s)(hi:M.m i=some o)(hp:φ[i]? =some p)(hk:∀b x,b≠p.1->b≠p.2->s.heap.get? b=some x->s'.heap.get? b=some x)
  (ho:s'.os=s.os)(hg:s'.gens=s.gens)(r:OR pl P φ (ow W φ M) s'.heap p o'):St pl P B W fr φ (M.set i o') s'/\av bt φ M s φ (M.set i o') s':=by
 have hs:(M.m i).isSome=true:=by refine aa hi ?_;rfl
 have o1:=(cY hs hp).1
 have o2:=(cY hs hp).2
 have Ff:∀b x,s.heap.get? b=some x->¬own φ M b->s'.heap.get? b=some x:=λ b x e n=>hk b x (λ q=>n (q▸o1)) (λ q=>n (q▸o2)) e
 have hB:∀b x,B.get? b=some x->s'.heap.get? b=some x:=λ b x e=>Ff b x (st.base b x e) λ q=>by rw[st.hr.new b q] at e;cases e
 have Hy:∀b x,s.heap.get? b=some x->∃x',s'.heap.get? b=some x':=by
  intro b x e
  by_cases e1:b=p.1
  ·subst e1;obtain⟨x',g,_⟩:=r.there.1;exact⟨x',g⟩
  ·by_cases e2:b=p.2
   ·subst e2;obtain⟨x',g,_⟩:=r.there.2;exact⟨x',g⟩
   ·exact⟨x,hk b x e1 e2 e⟩
 refine⟨⟨⟨st.hr.len,λ j oj hj=> ?_,λ j k x y hj FR hx hy Fq=> ?_,λ b q=>st.hr.new b ((lb hi).mp q),λ b q=>st.hr.ES b ((lb hi).mp q)⟩,hB,?_,st.Fg,λ env he L hf=>let⟨o,e,c⟩:=st.GH env he L hf;⟨o,Ff _ _ e λ q=>st.hr.ES _ q (st.Fg env he L hf),c⟩,λ b q=>let⟨o,e⟩:=st.FI b q;Hy b o e,st.EW⟩,
  ⟨Pz _,λ b x e n zz=>.inl (Ff b x e n),λ b q=>.inl ((lb hi).mp q),Hy,ho,hg⟩⟩
 ·refine aa (wm hi) ?_
  by_cases e:j=i
  ·subst e
   have:(if j=j then some o' else M.m j)=some oj:=hj
   rw[if_pos rfl] at this;cases this
   exact aA p hp r
  ·have KA:M.m j=some oj:=by have:(if j=i then some o' else M.m j)=some oj:=hj;rwa [if_neg e] at this
   refine ai (st.hr.at_ j oj KA) λ q hq rq=> ?_
   have ap:=st.hr.apart j i q p (by refine aa KA ?_;rfl) hs hq hp e
   exact aA q hq (OR.mono (Pz _) (λ b x e n=>.inl (Ff b x e λ z=>n (.inr z))) (λ b z=>.inl z)
    (λ x=>hk _ x ap.1 ap.2.1) (λ x=>hk _ x ap.2.2.1 ap.2.2.2) rq)
 ·have key:∀j,((M.set i o').m j).isSome=(M.m j).isSome:=λ j=>by
   show(if j=i then some o' else M.m j).isSome=_
   by_cases e:j=i
   ·subst e;refine aa (if_pos rfl) ?_;refine aa hi ?_;rfl
   ·refine aa (if_neg e) ?_;rfl
  rw[key] at hj FR
  exact st.hr.apart j k x y hj FR hx hy Fq
 ·refine kJ (W:=W) (λ L x e nf=> ?_) st.Fg (λ L x hw e nf=>⟨x,Ff L x e λ q=>st.hr.ES L q hw,nf⟩) st.frames
  by_cases e1:L=p.1
  ·subst e1;obtain⟨x',g,a⟩:=r.there.1;exact aA x' g a.data
  ·by_cases e2:L=p.2
   ·subst e2;obtain⟨x',g,a⟩:=r.there.2;exact aA x' g a.data
   ·exact aA x (hk L x e1 e2 e) nf
theorem eN{φ:az}{M:AH}(q:own φ (M.kill i) b):own φ M b:=by
 obtain⟨j,p,hj,hp,e⟩:=q
 have:(if j=i then none else M.m j).isSome=true:=hj
 by_cases h:j=i
 ·rw[if_pos h] at this;cases this
 ·rw[if_neg h] at this;exact⟨j,p,this,hp,e⟩
theorem St.kill(st:St pl P B W fr φ M s):St pl P B W fr φ (M.kill i) s/\av bt φ M s φ (M.kill i) s:=by
 have Gi:∀j,((M.kill i).m j).isSome=true->(M.m j).isSome=true:=λ j hj=>by
  have:(if j=i then none else M.m j).isSome=true:=hj
  by_cases h:j=i
  ·rw[if_pos h] at this;cases this
  ·rwa [if_neg h] at this
 refine⟨⟨⟨st.hr.len,λ j oj hj=> ?_,λ j k x y hj hk=>st.hr.apart j k x y (Gi j hj) (Gi k hk),λ b q=>st.hr.new b (eN q),λ b q=>st.hr.ES b (eN q)⟩,st.base,st.frames,st.Fg,st.GH,st.FI,st.EW⟩,
  ⟨Pz _,λ b o e zz zz=>.inl e,λ b q=>.inl (eN q),λ zz o e=>⟨o,e⟩,rfl,rfl⟩⟩
 have KA:M.m j=some oj:=by
  have:(if j=i then none else M.m j)=some oj:=hj
  by_cases h:j=i
  ·rw[if_pos h] at this;cases this
  ·rwa [if_neg h] at this
 refine ai (st.hr.at_ j oj KA) λ q hq rq=> ?_
 exact aA q hq (OR.mono (Pz _) (λ b x e zz=>.inl e) (λ b z=>.inl (z.imp id eN)) (λ zz e=>e) (λ zz e=>e) rq)
theorem St.Gh(st:St pl P B W fr φ M s)(hi:(M.m i).isSome=true)(hp:φ[i]? =some p):¬ow W φ (M.kill i) p.1/\¬ow W φ (M.kill i) p.2:=by
 have key:∀b,(b=p.1∨b=p.2)->¬ow W φ (M.kill i) b:=by
  rintro b e (q|⟨j,r,hj,hr,e'⟩)
  ·refine st.hr.ES b ?_ q
   exact⟨i,p,hi,hp,e⟩
  ·have:(if j=i then none else M.m j).isSome=true:=hj
   by_cases h:j=i
   ·rw[if_pos h] at this;cases this
   ·rw[if_neg h] at this
    have ap:=st.hr.apart j i r p this hi hr hp h
    rcases e with e|e<;>rcases e' with e'|e'
    ·exact ap.1 (e'.symm.trans e)
    ·exact ap.2.2.1 (e'.symm.trans e)
    ·exact ap.2.1 (e'.symm.trans e)
    ·exact ap.2.2.2 (e'.symm.trans e)
 exact⟨key _ (.inl rfl),key _ (.inr rfl)⟩
theorem St.freeze(st:St pl P B W fr φ M s)(hx:VR pl P φ (ow W φ M) s.heap x v):
  St pl P B W fr φ (bf M x).2 s/\av bt φ M s φ (bf M x).2 s/\VR pl P φ (ow W φ (bf M x).2) s.heap (bf M x).1 v:=by
 unfold bf
 cases x with
 |ref i=>
  dsimp only
  obtain⟨p,hp,rfl⟩:=hx
  have Io:∀{ys us},am pl P φ (ow W φ M) s.heap ys us->am pl P φ (ow W φ (M.kill i)) s.heap ys us:=λ r=>
   am.mono (Pz _) (λ b x e zz=>.inl e) (λ b z=>.inl (z.imp id eN)) r
  cases hm:M.m i with
  |none=>exact cg st (.refl) (VR.r ⟨p,hp,rfl⟩)
  |some o=>
   have hs:(M.m i).isSome=true:=by refine aa hm ?_;rfl
   refine ai (st.hr.at_ i o hm) λ q hq r=> ?_
   rw[hp] at hq;cases hq
   have no:=st.Gh hs hp
   cases o with
   |list vs=>
    obtain⟨e,xs,n,g,l,rs⟩:=r
    exact cg st.kill.1 st.kill.2 (VR.l ⟨p.1,xs,n,rfl,no.1,g,l,Io rs⟩)
   |Er ks vs=>
    obtain⟨e,es,n,g,l,ke,rs⟩:=r
    exact cg st.kill.1 st.kill.2 (VR.d ⟨p.1,es,n,rfl,no.1,g,l,ke,Io rs⟩)
   |EE ks vs=>exact cg st (.refl) (VR.r ⟨p,hp,rfl⟩)
   |inst c vs=>exact cg st (.refl) (VR.r ⟨p,hp,rfl⟩)
 |_=>exact cg st (.refl) hx
end
abbrev Nm:=List (Str×RV)
inductive LB(pl:Pl)(P:QN)(B:QG)(W:P3->Prop)(fr:List Env)(φ:az)(M:AH)(s:PK)(Q:Bool->AH->Prop)(b:Bool)(s':PK):Prop
 |mk (φ':az) (M':AH):Q b M'->St pl P B W fr φ' M' s'->av bt φ M s φ' M' s'->LB pl P B W fr φ M s Q b s'
theorem LB.step(x:av bt φ M s φ₁ M₁ s₁):∀v s',LB pl P B W fr φ₁ M₁ s₁ Q v s'->LB pl P B W fr φ M s Q v s':=
 λ zz zz h=>h.casesOn λ φ' M' q st sp=>⟨φ',M',q,st,x.trans sp⟩
theorem LQ.weak(h:∀x M,Q x M->R x M):∀v s',LQ pl P B W fr φ M s Q v s'->LQ pl P B W fr φ M s R v s':=
 λ zz zz h2=>h2.casesOn λ a φ' M' q st sp r=>⟨a,φ',M',h _ _ q,st,sp,r⟩
noncomputable def bA(g:Gs)(Γ:aH)(N:Nm)(n:Nat)(e:E)(x:P8):Prop:=
 ∀W A fr env ρ φ M s Q X,cj A fr n->env.scope.names=N->aC g.pl g.w.params W Γ env ρ φ M s.heap->St g.pl g.w.params g.B W fr φ M s->
  aO g.pl.P (ag g.pl.P n) e ρ M (λ v M'=>aB (bE v) λ b=>Q b M') X->
  PR (PW g.prog g.w) A (isTrue x env (eval x env)) (LB g.pl g.w.params g.B W fr φ M s Q) (LX g.pl g.w.params g.B W fr g.cls φ M s X) s
noncomputable def dz(g:Gs)(Γ:aH)(N:Nm)(n:Nat)(es:Es)(xs:List P8):Prop:=
 ∀W A fr env ρ φ M s Q X pos,cj A fr n->env.scope.names=N->aC g.pl g.w.params W Γ env ρ φ M s.heap->St g.pl g.w.params g.B W fr φ M s->
  fo g.pl.P (ag g.pl.P n) es ρ M Q X->
  PR (PW g.prog g.w) A (Vp (Tn pos (Rf xs env))) (λ vs s'=>vs.length=xs.length/\uf g.pl g.w.params g.B W fr φ M s Q vs s') (LX g.pl g.w.params g.B W fr g.cls φ M s X) s
section
variable{g:Gs}{Γ:aH}{N:Nm}{n:Nat}
theorem aS{α:Type}{e:E}{xe:P8}{W:P3->Prop}{A:Qx}{fr:List Env}{env:Env}{ρ:an}{φ:az}{M:AH}{s:PK}{Q1:V->AH->Prop}{X:AH->Prop}{R:PJ->PK->Prop}{E0:PJ->PK->Prop}
  (ha:aj g Γ N n e xe)(hA:cj A fr n)(hN:env.scope.names=N)(er:aC g.pl g.w.params W Γ env ρ φ M s.heap)(st:St g.pl g.w.params g.B W fr φ M s)
  (h:aO g.pl.P (ag g.pl.P n) e ρ M Q1 X)
  (k:∀v x s1 φ1 M1,Q1 x M1->St g.pl g.w.params g.B W fr φ1 M1 s1->av bt φ M s φ1 M1 s1->aC g.pl g.w.params W Γ env ρ φ1 M1 s1.heap->VR g.pl g.w.params φ1 (ow W φ1 M1) s1.heap x v->R v s1)
  (he:∀v s',LX g.pl g.w.params g.B W fr g.cls φ M s X v s'->E0 v s'):PR (PW g.prog g.w) A (eval xe env) R E0 s:=
 PT (ha W A fr env ρ φ M s Q1 X hA hN er st h) (λ v s1 h=>h.casesOn λ x φ1 M1 q Ep Em r1=>k v x s1 φ1 M1 q Ep Em (er.E9 st Em) r1) he
theorem iK{W:P3->Prop}{Q1:Bool->AH->Prop}{R:Bool->PK->Prop}{E0:PJ->PK->Prop}
  (ha:bA g Γ N n e xe)(hA:cj A fr n)(hN:env.scope.names=N)(er:aC g.pl g.w.params W Γ env ρ φ M s.heap)(st:St g.pl g.w.params g.B W fr φ M s)
  (h:aO g.pl.P (ag g.pl.P n) e ρ M (λ v M'=>aB (bE v) λ b=>Q1 b M') X)
  (k:∀b s1 φ1 M1,Q1 b M1->St g.pl g.w.params g.B W fr φ1 M1 s1->av bt φ M s φ1 M1 s1->aC g.pl g.w.params W Γ env ρ φ1 M1 s1.heap->R b s1)
  (he:∀v s',LX g.pl g.w.params g.B W fr g.cls φ M s X v s'->E0 v s'):PR (PW g.prog g.w) A (isTrue xe env (eval xe env)) R E0 s:=
 PT (ha W A fr env ρ φ M s Q1 X hA hN er st h) (λ b s1 h=>h.casesOn λ φ1 M1 q Ep Em=>k b s1 φ1 M1 q Ep Em (er.E9 st Em)) he
theorem qF
  (ha:dz g Γ N n es xs)(hA:cj A fr n)(hN:env.scope.names=N)(er:aC g.pl g.w.params W Γ env ρ φ M s.heap)(st:St g.pl g.w.params g.B W fr φ M s)
  (h:fo g.pl.P (ag g.pl.P n) es ρ M Q1 X)
  (k:∀vs ys s1 φ1 M1,Q1 ys M1->vs.length=xs.length->St g.pl g.w.params g.B W fr φ1 M1 s1->av bt φ M s φ1 M1 s1->aC g.pl g.w.params W Γ env ρ φ1 M1 s1.heap->am g.pl g.w.params φ1 (ow W φ1 M1) s1.heap ys vs->R vs s1)
  (he:∀v s',LX g.pl g.w.params g.B W fr g.cls φ M s X v s'->E0 v s'):PR (PW g.prog g.w) A (Vp (Tn pos (Rf xs env))) R E0 s:=
 PT (ha W A fr env ρ φ M s Q1 X pos hA hN er st h) (λ v s1 h=>h.2.casesOn λ x φ1 M1 q Ep Em r1=>k v x s1 φ1 M1 q h.1 Ep Em (er.E9 st Em) r1) he
theorem bG{W:P3->Prop}:∀b,bt b->W b:=λ zz q=>q.elim
theorem nF(r:VR pl P φ o h x v)(e:bE x=some b):v=.bool b:=by
 cases pH e;exact r
theorem isInt(r:VR pl P φ o h x v)(e:aM x=some i):∃t,v=.int i t:=by
 cases ic e;exact r
noncomputable def mX(x:P8):Bool:=if x.ctorIdx=3 then ga x λ o zz zz=>decide (o≠.Not) else decide (x.ctorIdx≠0/\x.ctorIdx≠5/\x.ctorIdx≠15)
set_option tactic.hygienic true in
theorem mi(h:mX x=true)(env:Env)(whole:Sem PJ):isTrue x env whole=(do let v<-whole;Su x.pos;Vq [v] (truthy v)):=by
 cases x<;>first|rfl|exact QS h|skip
 rename_i op _ _;cases op<;>first|rfl|exact QS h
theorem bA.Hn(h:aj g Γ N n e x)(hp:mX x=true):bA g Γ N n e x:=by
 intro W A fr env ρ φ M s Q X hA hN er st hw
 refine isTrue_plain (aS (α:=Unit) h hA hN er st hw (λ v x s1 φ1 M1 q Ep Em EA r1=> ?_) λ zz zz e=>e) (mi hp env _)
 refine ai (aD q) λ b hb q=> ?_
 refine aa (nF r1 hb) ?_
 exact Qz ⟨φ1,M1,q,Ep,Em⟩
theorem aj.freeze(h:aj g Γ N n e x):aj g Γ N n (.freeze e) x:=by
 intro W A fr env ρ φ M s Q X hA hN er st hw
 refine aS (α:=Unit) h hA hN er st hw (λ v x s1 φ1 M1 q Ep Em EA r1=> ?_) λ zz zz e=>e
 refine ei (Ep.freeze r1) λ a b c=> ?_
 exact⟨_,φ1,_,q,a,Em.trans b,c⟩
theorem aj.bin(ha:aj g Γ N n a xa)(hb:aj g Γ N n b xb):aj g Γ N n (.bin op a b) (.BinOp xa (zf op) xb pos):=by
 intro W A fr env ρ φ M s Q X hA hN er st hw
 refine wpAny_BinOp (aS (α:=Unit) ha hA hN er st hw (λ v x s1 φ1 M1 q1 Ep Em EA r1=>aS (α:=Unit) hb hA hN EA Ep q1 (λ u y s2 φ2 M2 q2 Ez Ey ER r2=> ?_) (LX.step Em)) λ zz zz e=>e)
 refine ai (aD q2) λ r hr q3=> ?_
 exact PT (Cd (E0:=λ zz zz=>False) Ez (r1.step Ey bG) r2 hr q3) (LQ.step (Em.trans Ey)) λ zz zz e=>e.elim
theorem aj.neg(ha:aj g Γ N n a xa):aj g Γ N n (.neg a) (.UnaryOp .USub xa pos):=by
 intro W A fr env ρ φ M s Q X hA hN er st hw
 refine UnaryOp_ (aS (α:=Unit) ha hA hN er st hw (λ v x s1 φ1 M1 q1 Ep Em EA r1=> ?_) λ zz zz e=>e)
 refine ai (aD q1) λ i hi q=> ?_
 obtain⟨t,rfl⟩:=isInt r1 hi
 exact neg_int (LQ.step Em _ _ (LQ.int Ep _ q _))
theorem aj.not(ha:aj g Γ N n a xa):aj g Γ N n (.not a) (.UnaryOp .Not xa pos):=by
 intro W A fr env ρ φ M s Q X hA hN er st hw
 refine UnaryOp_ (aS (α:=Unit) ha hA hN er st hw (λ v x s1 φ1 M1 q1 Ep Em EA r1=> ?_) λ zz zz e=>e)
 refine ai (aD q1) λ i hi q=> ?_
 refine aa (nF r1 hi) ?_
 exact not_of (Qz (LQ.step Em _ _ (LQ.bool Ep q)))
theorem bA.not(ha:bA g Γ N n a xa):bA g Γ N n (.not a) (.UnaryOp .Not xa pos):=by
 intro W A fr env ρ φ M s Q X hA hN er st hw
 exact isTrue_not (iK (Q1:=λ b M'=>Q (!b) M') ha hA hN er st hw (λ b s1 φ1 M1 q1 Ep Em EA=>⟨φ1,M1,q1,Ep,Em⟩) λ zz zz e=>e)
theorem aj.ED(ht:bA g Γ N n t xt)(ha:aj g Γ N n a xa)(hb:aj g Γ N n b xb):aj g Γ N n (.ED t a b) (.IfExp xt xa xb pos):=by
 intro W A fr env ρ φ M s Q X hA hN er st hw
 refine IfExp_ (iK (Q1:=λ r M1=>(r=true->aO g.pl.P (ag g.pl.P n) a ρ M1 Q X)/\(r=false->aO g.pl.P (ag g.pl.P n) b ρ M1 Q X)) ht hA hN er st hw (λ c s1 φ1 M1 q1 Ep Em EA=> ?_) λ zz zz e=>e)
 cases c with
 |true=>exact PT (ha W A fr env ρ φ1 M1 s1 Q X hA hN EA Ep (q1.1 rfl)) (LQ.step Em) (LX.step Em)
 |false=>exact PT (hb W A fr env ρ φ1 M1 s1 Q X hA hN EA Ep (q1.2 rfl)) (LQ.step Em) (LX.step Em)
theorem bA.ED(ht:bA g Γ N n t xt)(ha:bA g Γ N n a xa)(hb:bA g Γ N n b xb):bA g Γ N n (.ED t a b) (.IfExp xt xa xb pos):=by
 intro W A fr env ρ φ M s Q X hA hN er st hw
 refine isTrue_IfExp (iK (Q1:=λ r M1=>(r=true->aO g.pl.P (ag g.pl.P n) a ρ M1 _ X)/\(r=false->aO g.pl.P (ag g.pl.P n) b ρ M1 _ X)) ht hA hN er st hw (λ c s1 φ1 M1 q1 Ep Em EA=> ?_) λ zz zz e=>e)
 cases c with
 |true=>exact PT (ha W A fr env ρ φ1 M1 s1 Q X hA hN EA Ep (q1.1 rfl)) (LB.step Em) (LX.step Em)
 |false=>exact PT (hb W A fr env ρ φ1 M1 s1 Q X hA hN EA Ep (q1.2 rfl)) (LB.step Em) (LX.step Em)
theorem DY(P:dH)(c:cM)(Et:Bool)(e:E)(ρ:an)(M:AH)(Q:V->AH->Prop)(X:AH->Prop):iS P c Et (.cons e .nil) ρ M Q X=aO P c e ρ M Q X:=rfl
theorem Dq(P:dH)(c:cM)(Et:Bool)(e e':E)(r:Es)(ρ:an)(M:AH)(Q:V->AH->Prop)(X:AH->Prop):iS P c Et (.cons e (.cons e' r)) ρ M Q X=
  aO P c e ρ M (λ v M1=>aB (bE v) λ b=>(b=Et->iS P c Et (.cons e' r) ρ M1 Q X)/\(b=(!Et)->Q v M1)) X:=rfl
noncomputable def qM:Bool->BoolOp|true=>.And|false=>.Or
noncomputable def jM(g:Gs)(Γ:aH)(N:Nm)(n:Nat)(Et:Bool)(es:Es)(xs:List P8):Prop:=
 ∀pos,∀W A fr env ρ φ M s Q X,cj A fr n->env.scope.names=N->aC g.pl g.w.params W Γ env ρ φ M s.heap->St g.pl g.w.params g.B W fr φ M s->
  iS g.pl.P (ag g.pl.P n) Et es ρ M Q X->PR (PW g.prog g.w) A (eval (.BoolOp (qM Et) xs pos) env) (LQ g.pl g.w.params g.B W fr φ M s Q) (LX g.pl g.w.params g.B W fr g.cls φ M s X) s
noncomputable def jL(g:Gs)(Γ:aH)(N:Nm)(n:Nat)(Et:Bool)(es:Es)(xs:List P8):Prop:=
 ∀pos,∀W A fr env ρ φ M s Q X whole,cj A fr n->env.scope.names=N->aC g.pl g.w.params W Γ env ρ φ M s.heap->St g.pl g.w.params g.B W fr φ M s->
  iS g.pl.P (ag g.pl.P n) Et es ρ M (λ v M'=>aB (bE v) λ b=>Q b M') X->
  PR (PW g.prog g.w) A (isTrue (.BoolOp (qM Et) xs pos) env whole) (LB g.pl g.w.params g.B W fr φ M s Q) (LX g.pl g.w.params g.B W fr g.cls φ M s X) s
theorem jM.one(h:aj g Γ N n e x):jM g Γ N n Et (.cons e .nil) [x]:=by
 intro pos W A fr env ρ φ M s Q X hA hN er st hw
 exact BoolOp_one (h W A fr env ρ φ M s Q X hA hN er st hw)
theorem jM.cons{Et:Bool}{e e':E}{r:Es}{x x':P8}{xs:List P8}(h:aj g Γ N n e x)(ih:jM g Γ N n Et (.cons e' r) (x'::xs)):jM g Γ N n Et (.cons e (.cons e' r)) (x::x'::xs):=by
 intro pos W A fr env ρ φ M s Q X hA hN er st hw
 cases Et with
 |true=>
  refine BoolOp_and (aS (α:=Unit) h hA hN er st hw (λ v x s1 φ1 M1 q1 Ep Em EA r1=> ?_) λ zz zz e=>e)
  refine ai (aD q1) λ b hb q=> ?_
  have hv:=nF r1 hb
  subst hv
  refine Qz ?_
  cases b with
  |true=>exact PT (ih pos W A fr env ρ φ1 M1 s1 Q X hA hN EA Ep (q.1 rfl)) (LQ.step Em) (LX.step Em)
  |false=>exact⟨_,φ1,M1,q.2 rfl,Ep,Em,r1⟩
 |false=>
  refine BoolOp_or (aS (α:=Unit) h hA hN er st hw (λ v x s1 φ1 M1 q1 Ep Em EA r1=> ?_) λ zz zz e=>e)
  refine ai (aD q1) λ b hb q=> ?_
  have hv:=nF r1 hb
  subst hv
  refine Qz ?_
  cases b with
  |false=>exact PT (ih pos W A fr env ρ φ1 M1 s1 Q X hA hN EA Ep (q.1 rfl)) (LQ.step Em) (LX.step Em)
  |true=>exact⟨_,φ1,M1,q.2 rfl,Ep,Em,r1⟩
theorem jL.one(h:bA g Γ N n e x):jL g Γ N n Et (.cons e .nil) [x]:=by
 intro pos W A fr env ρ φ M s Q X whole hA hN er st hw
 cases Et with
 |true=>
  refine isTrue_and (iK (Q1:=Q) h hA hN er st hw (λ c s1 φ1 M1 q1 Ep Em EA=> ?_) λ zz zz e=>e)
  cases c with
  |true=>exact isTrue_and_nil ⟨φ1,M1,q1,Ep,Em⟩
  |false=>exact⟨φ1,M1,q1,Ep,Em⟩
 |false=>
  refine isTrue_or (iK (Q1:=Q) h hA hN er st hw (λ c s1 φ1 M1 q1 Ep Em EA=> ?_) λ zz zz e=>e)
  cases c with
  |true=>exact⟨φ1,M1,q1,Ep,Em⟩
  |false=>exact isTrue_or_nil ⟨φ1,M1,q1,Ep,Em⟩
theorem jL.cons{Et:Bool}{e e':E}{r:Es}{x x':P8}{xs:List P8}(h:bA g Γ N n e x)(ih:jL g Γ N n Et (.cons e' r) (x'::xs)):jL g Γ N n Et (.cons e (.cons e' r)) (x::x'::xs):=by
 intro pos W A fr env ρ φ M s Q X whole hA hN er st hw
 have IP:aO g.pl.P (ag g.pl.P n) e ρ M (λ v M'=>aB (bE v) λ b=>(b=Et->iS g.pl.P (ag g.pl.P n) Et (.cons e' r) ρ M' (λ v M'=>aB (bE v) λ b=>Q b M') X)/\(b=(!Et)->Q b M')) X:=
  Eq.mp (congrArg (λ K=>aO g.pl.P (ag g.pl.P n) e ρ M K X) (funext λ v=>funext λ M1=>by cases v<;>rfl)) hw
 cases Et with
 |true=>
  refine isTrue_and (iK (Q1:=λ b M'=>(b=true->iS g.pl.P (ag g.pl.P n) true (.cons e' r) ρ M' (λ v M'=>aB (bE v) λ b=>Q b M') X)/\(b=(!true)->Q b M')) h hA hN er st IP (λ c s1 φ1 M1 q1 Ep Em EA=> ?_) λ zz zz e=>e)
  cases c with
  |true=>exact PT (ih pos W A fr env ρ φ1 M1 s1 Q X whole hA hN EA Ep (q1.1 rfl)) (LB.step Em) (LX.step Em)
  |false=>exact⟨φ1,M1,q1.2 rfl,Ep,Em⟩
 |false=>
  refine isTrue_or (iK (Q1:=λ b M'=>(b=false->iS g.pl.P (ag g.pl.P n) false (.cons e' r) ρ M' (λ v M'=>aB (bE v) λ b=>Q b M') X)/\(b=(!false)->Q b M')) h hA hN er st IP (λ c s1 φ1 M1 q1 Ep Em EA=> ?_) λ zz zz e=>e)
  cases c with
  |false=>exact PT (ih pos W A fr env ρ φ1 M1 s1 Q X whole hA hN EA Ep (q1.1 rfl)) (LB.step Em) (LX.step Em)
  |true=>exact⟨φ1,M1,q1.2 rfl,Ep,Em⟩
theorem aj.F2(h:jM g Γ N n Et es xs):aj g Γ N n (.F2 Et es) (.BoolOp (qM Et) xs pos):=by
 intro W A fr env ρ φ M s Q X hA hN er st hw
 exact h pos W A fr env ρ φ M s Q X hA hN er st hw
theorem bA.F2(h:jL g Γ N n Et es xs):bA g Γ N n (.F2 Et es) (.BoolOp (qM Et) xs pos):=by
 intro W A fr env ρ φ M s Q X hA hN er st hw
 exact h pos W A fr env ρ φ M s Q X _ hA hN er st hw
noncomputable def aw(x:P8):Bool:=decide (x.ctorIdx≠22)
theorem bc(h:aw x=true):Rf (x::xs) env=(false,eval x env)::Rf xs env:=by
 cases x<;>first|rfl|exact QS h
theorem dz.nil:dz g Γ N n .nil []:=by
 intro W A fr env ρ φ M s Q X pos hA hN er st hw
 exact spliced_nil ⟨rfl,[],φ,M,hw,st,.refl,rfl⟩
theorem dz.cons{e:E}{r:Es}{x:P8}{xs:List P8}(he:aj g Γ N n e x)(hn:aw x=true)(ih:dz g Γ N n r xs):dz g Γ N n (.cons e r) (x::xs):=by
 intro W A fr env ρ φ M s Q X pos hA hN er st hw
 refine aa (bc hn) ?_
 refine spliced_cons (aS (α:=Unit) he hA hN er st hw (λ v y s1 φ1 M1 q1 Ep Em EA r1=> ?_) λ zz zz e=>e)
 refine qF ih hA hN EA Ep q1 (λ vs ys s2 φ2 M2 q2 hl Ez Ey ER r2=> ?_) (LX.step Em)
 exact⟨by refine aa PN ?_;refine aa PN ?_;refine aa hl ?_;rfl,_,φ2,M2,q2,Ez,Em.trans Ey,am.c ⟨v,vs,rfl,r1.step Ey bG,r2⟩⟩
end
structure Tb where
 fns:List (Str×Nat)
 Ha:List (Str×Nat)
 vals:List (Str×Nat)
noncomputable def lv:List Str:=["len","abs","sum","int","max","min","tuple","bytes","sorted","isinstance","range","zip","bool","list","dict"]
noncomputable def jG:List (Str×PJ):=[("len",.builtin "len"),("abs",.builtin "abs"),("sum",.builtin "sum"),("int",.type "int"),("max",.builtin "max"),("min",.builtin "min"),("tuple",.type "tuple"),("bytes",.type "bytes"),("sorted",.builtin "sorted"),("isinstance",.builtin "isinstance"),("range",.type "range"),("zip",.type "zip"),("bool",.type "bool"),("list",.type "list"),("dict",.type "dict")]
theorem vp:(jG.all λ p=>decide (R7 p.1=some p.2)&&p.1 !=("__name__" :Str)&&p.1 !=("__debug__" :Str))=true:=by decide+kernel
structure CB(g:Gs)(K:RH)(c:Nat)(C:j7):Prop where
 makes:makesIn K (g.pl.EB c)=true
 keep:V7 K (.ref (g.pl.EB c))=true
 cd:(clsIn K (g.pl.EB c)).any (λ cd=>cd.hasDict&&Yu cd.mro)=true
 Ix:Rp K (.ref (g.pl.EB c)) "__getattribute__" =some (some (.builtin "object.__getattribute__"))
 I8:Rp K (.ref (g.pl.EB c)) "__getattr__" =some none
 GO:Rp K (.ref (g.pl.EB c)) "__setattr__" =some (some (.builtin "object.__setattr__"))
 Ke:∀a∈C.fields,Rp K (.ref (g.pl.EB c)) (g.pl.EF a)=some none
 nodup:(C.fields.map g.pl.EF).Nodup
 few:C.fields.length<=1000
 init:∀f,C.init=some f->Rp K (.ref (g.pl.EB c)) "__init__" =some (some (.ref (g.pl.FG f)))/\typeIn K (.ref (g.pl.FG f))=some (.type "function")
 EJ:∀m f,C.meths.lookup m=some f->Rp K (.ref (g.pl.EB c)) (g.pl.FC m)=some (some (.ref (g.pl.FG f)))/\isFn K (.ref (g.pl.FG f))=true/\g.pl.FC m∉C.fields.map g.pl.EF
 Fb:∀c' C',g.pl.P.cls c'=some C'->VH K (.ref (g.pl.EB c)) (.ref (g.pl.EB c'))=some (c==c')
 GA:∀T∈["bool","int","list","dict"],VH K (.ref (g.pl.EB c)) (.type T)=some false
 Li:∀X∈["int","str","bool","NoneType","list","dict","tuple"],VH K (.type X) (.ref (g.pl.EB c))=some false
 HX:plainGet K (g.pl.EB c) "__class__" =true/\hasDictIn K (g.pl.EB c)=true/\Rp K (.ref (g.pl.EB c)) "__class__" =some (some (.builtin "object.__class__"))/\XR K (g.pl.EB c) (.type "object")=some true
structure Fx(g:Gs)(tb:Tb)(K:RH):Prop where
 KB:K.In g.B
 nl:g.B.NoLimit
 big:∃a o,2<=a/\g.B.get? a=some o
 bi:∃mb,g.B.Ns QV mb/\∀x:Str,x≠"__name__" ->mb x=R7 x
 Mk:∀x f,tb.fns.lookup x=some f->Xn K P1 x=some (some (.ref (g.pl.FG f)))
 Kh:∀x c,tb.Ha.lookup x=some c->Xn K P1 x=some (some (.ref (g.pl.EB c)))
 NJ:∀x k,tb.vals.lookup x=some k->∃v t,g.pl.P.glob k=some t/\Xn K P1 x=some (some v)/\VR g.pl g.w.params [] (λ zz=>False) g.B t v
 Ps:∀x∈lv,Xn K P1 x=some none
 Jz:specialIn K (.builtin "object.__class__") "__get__" =some (some (.builtin "getset_descriptor.__get__"))/\takesIn K (.builtin "object.__class__")=some true
 cls:∀c C,g.pl.P.cls c=some C->CB g K c C
 JA:∀f F,g.pl.P.fn f=some F->V7 K (.ref (g.pl.FG f))=true
section
variable{g:Gs}{tb:Tb}{K:RH}{Γ:aH}{N:Nm}{n:Nat}{W:P3->Prop}{A:Qx}{fr:List Env}{env:Env}{ρ:an}{φ:az}{M:AH}{s:PK}{E0:PJ->PK->Prop}
theorem Fx.KS(fx:Fx g tb K)(st:St g.pl g.w.params g.B W fr φ M s):K.In s.heap:=fx.KB.keeps st.base
theorem Fx.Gy(fx:Fx g tb K)(st:St g.pl g.w.params g.B W fr φ M s)(h:s.heap.objs.size<=D):(D==WN)=false:=by
 refine ve fx.big λ a o h1 h2=> ?_
 have:=P9 (st.base a o h2)
 exact beq_eq_false_iff_ne.mpr λ e=>by
  have e2:D=1:=e
  have h3:s.heap.objs.size<=1:=e2▸h
  exact absurd (PI this h3) (by show¬a<1;exact V4.mpr (PO (by decide) h1))
theorem dU(fx:Fx g tb K)(hN:env.scope.names=N)(er:aC g.pl g.w.params W Γ env ρ φ M s.heap)(st:St g.pl g.w.params g.B W fr φ M s)
  (hk:N.lookup x=some .globalImplicit)(hd:(x==("__debug__" :Str))=false)(hv:Xn K P1 x=some (some v))(h:R v s):PR (PW g.prog g.w) A (eval (.Name x pos) env) R E0 s:=by
 refine Name_function_global er.kind (by unfold RD;refine aa hN ?_;exact hk) ?_ hd
 unfold Yy
 refine Py ?_
 refine aa er.glob ?_
 refine(Yx (M:=PW g.prog g.w) (fx.KS st) hv).here ?_
 exact PB h
theorem t8(fx:Fx g tb K)(hN:env.scope.names=N)(er:aC g.pl g.w.params W Γ env ρ φ M s.heap)(st:St g.pl g.w.params g.B W fr φ M s)
  (hk:N.lookup x=some .globalImplicit)(hv:(x,v)∈jG)(h:R v s):PR (PW g.prog g.w) A (eval (.Name x pos) env) R E0 s:=by
 have hb:=QD.mp vp _ hv
 simp only [PY,decide_eq_true_eq,bne_iff_ne,ne_eq] at hb
 obtain⟨⟨EX,Gr⟩,hb3⟩:=hb
 have hm:x∈lv:=by
  have:lv=jG.map (·.1):=rfl
  refine aa this ?_;exact QE.mpr ⟨_,hv,rfl⟩
 refine Name_function_global er.kind (by unfold RD;refine aa hN ?_;exact hk) ?_ (beq_eq_false_iff_ne.mpr hb3)
 unfold Yy
 refine Py ?_
 refine aa er.glob ?_
 refine(Yx (M:=PW g.prog g.w) (fx.KS st) (fx.Ps x hm)).here ?_
 refine ai fx.bi λ mb JR J1=> ?_
 refine Py ?_
 refine aa er.bi ?_
 refine wpAny_nsGet (JR.keeps st.base) ?_
 refine aa (J1 x Gr) ?_;refine aa EX ?_
 exact PB h
noncomputable def nE(N:Nm)(Γ:aH)(x:Str)(i:Nat):Bool:=
 (N.lookup x==some .local||N.lookup x==some .cell||N.lookup x==some .free)&&Γ.lookup x==some i&&x !=("__debug__" :Str)&&x !=("__classdict__" :Str)
theorem aj.var(h:nE N Γ x i=true):aj g Γ N n (.var i) (.Name x pos):=by
 intro W A fr env ρ φ M s Q X hA hN er st hw
 refine ai (aD hw) λ v hv q=> ?_
 simp only [nE,PY,SJ,beq_iff_eq,bne_iff_ne,ne_eq] at h
 obtain⟨⟨⟨h1,h2⟩,h3⟩,h4⟩:=h
 refine Vs (AG er h2 (by unfold RD;refine aa hN ?_;exact or_assoc.mp h1) hv (beq_eq_false_iff_ne.mpr h4) λ u r=>LQ.here st q r) (beq_eq_false_iff_ne.mpr h3)
noncomputable def cC(N:Nm)(x:Str):Bool:=N.lookup x==some .globalImplicit&&x !=("__debug__" :Str)
theorem bQ(h:cC N x=true):N.lookup x=some .globalImplicit/\(x==("__debug__" :Str))=false:=by
 simp only [cC,PY,beq_iff_eq,bne_iff_ne,ne_eq] at h
 exact⟨h.1,beq_eq_false_iff_ne.mpr h.2⟩
theorem VR.base(st:St g.pl g.w.params g.B W fr φ M s)(r:VR g.pl g.w.params [] (λ zz=>False) g.B x v):VR g.pl g.w.params φ (ow W φ M) s.heap x v:=
 VR.mono ⟨φ,rfl⟩ (λ b o e zz=>.inl (st.base b o e)) (λ b q=>.inr (q.elim (st.EW b) (st.hr.new b))) r
theorem aj.glob(fx:Fx g tb K)(h:cC N x=true)(hk:tb.vals.lookup x=some k):aj g Γ N n (.glob k) (.Name x pos):=by
 intro W A fr env ρ φ M s Q X hA hN er st hw
 refine ai (aD hw) λ v hv q=> ?_
 refine kO (fx.NJ x k hk) λ u t ht hu r=> ?_
 rw[ht] at hv;cases hv
 exact dU fx hN er st (bQ h).1 (bQ h).2 hu (LQ.here st q (VR.base st r))
theorem aj.I9(fx:Fx g tb K)(h:cC N x=true)(hk:tb.fns.lookup x=some f):aj g Γ N n (.I9 f) (.Name x pos):=by
 intro W A fr env ρ φ M s Q X hA hN er st hw
 exact dU fx hN er st (bQ h).1 (bQ h).2 (fx.Mk x f hk) (LQ.here st hw rfl)
noncomputable def wF(v:V)(c:Const):Bool:=match v with
 |.none=>decide (c=.none)
 |.bool a=>decide (c=.bool a)
 |.int i=>decide (c=.int i)
 |.str a=>uJ c λ b=>PD a==b&&decide (a.length<=aq)
 |_=>false
theorem aj.lit(h:wF v c=true):aj g Γ N n (.lit v) (.Constant c k pos):=by
 intro W A fr env ρ φ M s Q X hA hN er st hw
 cases v<;>first|exact QS h|skip
 case none=>cases aJ h;exact Rr (LQ.here st hw rfl)
 case bool=>cases aJ h;exact wpAny_Constant_bool (LQ.here st hw rfl)
 case int=>cases aJ h;exact Vc (LQ.int st _ hw _)
 case str=>
  refine qN (mo:=λ c=>PR _ _ (eval (.Constant c k pos) env) _ _ _) h λ t h=> ?_
  cases ar (af h).1
  exact Yg (LQ.tk st _ hw (VR.s ⟨aJ (af h).2,_,rfl⟩))
end
section
variable{g:Gs}{tb:Tb}{K:RH}{Γ:aH}{N:Nm}{n:Nat}{W:P3->Prop}{A:Qx}{fr:List Env}{env:Env}{ρ:an}{φ:az}{M:AH}{s:PK}{E0:PJ->PK->Prop}
theorem mU(h:k<=1000):k<=Rl:=PO h (by decide)
theorem pa(h:k<=1000):k<=aq:=PO h (by decide)
theorem LQ.GK(st:St g.pl g.w.params g.B W fr φ M s)(t:Tok)(q:Q (.ref M.next) (M.new ob))(hf:o.isFreed=false)
  (r:∀h' φ' o',h'.get? s.heap.objs.size=some o->(∀b o,s.heap.get? b=some o->h'.get? b=some o)->φ<+:φ'->(∀b,o' b->ow W φ M b∨s.heap.get? b=none)->OR g.pl g.w.params φ' o' h' (s.heap.objs.size,s.heap.objs.size) ob):
  LQ g.pl g.w.params g.B W fr φ M s Q (.ref s.heap.objs.size) {s with heap:=s.heap.push o,toks:=t}:=by
 have hk:∀b o',s.heap.get? b=some o'->(s.heap.push o).get? b=some o':=λ b o' e=>PA _ e
 have Fc:s.heap.objs.size<=(s.heap.push o).objs.size:=by refine aa (Qb _ _) ?_;exact RP _
 have FS:∀i o,M.m i=some o->∃p,φ[i]? =some p:=λ i o e=>let⟨q,a,_⟩:=st.hr.at_ i o e;⟨q,a⟩
 obtain⟨a,b⟩:=St.alloc (p:=(s.heap.objs.size,s.heap.objs.size)) (o:=ob) (s':={s with heap:=s.heap.push o,toks:=t}) st hk (PC _) (PC _) rfl rfl
  (r _ _ _ (PM _ hf) hk (List.Ew _ _) λ b q=>q.elim (λ q=>.inl (.inl q)) λ q=>(jd st.hr.len FS q).elim (λ q=>.inl (.inr q)) λ q=>.inr (aT (q.elim (λ q=>S1 q.symm) λ q=>S1 q.symm)))
 exact⟨_,_,_,q,a,b,VR.r ⟨(s.heap.objs.size,s.heap.objs.size),by(first|rewrite[P6 (by refine aa st.hr.len ?_;exact PC _)];refine aa st.hr.len ?_|refine aa (P6 (by refine aa st.hr.len ?_;exact PC _)) ?_;refine aa st.hr.len ?_);simp,rfl⟩⟩
theorem aj.tup(h:dz g Γ N n es xs)(hl:xs.length<=1000):aj g Γ N n (.tup es) (.Tuple xs k pos):=by
 intro W A fr env ρ φ M s Q X hA hN er st hw
 refine wpAny_Tuple_spliced (qF h hA hN er st hw (λ vs ys s1 φ1 M1 q1 hlen Ep Em EA r1=> ?_) λ zz zz e=>e)
 have e1:=r1.length
 exact⟨by refine aa hlen ?_;exact mU hl,LQ.step Em _ _ (LQ.Gz Ep _ q1 (by refine aE e1 ?_;refine aa hlen ?_;exact pa hl) r1)⟩
theorem LQ.list(mu:Bool)(st:St g.pl g.w.params g.B W fr φ M s)(t:Tok)
  (q:if mu then Q (.ref M.next) (M.new (.list vs)) else Q (.list vs) M)(l:vs.length<=aq)(r:am g.pl g.w.params φ (ow W φ M) s.heap vs xs):
  LQ g.pl g.w.params g.B W fr φ M s Q (.ref s.heap.objs.size) {s with heap:=s.heap.push {cls:=.type "list",data:=.seq xs.toArray},toks:=t}:=by
 cases mu with
 |false=>exact LQ.newList st t q l r
 |true=>exact LQ.GK st t q rfl λ h' φ' o' e k hp ho=>⟨rfl,xs,0,e,l,am.mono hp (λ b o e zz=>.inl (k b o e)) ho r⟩
theorem aj.lst(h:dz g Γ N n es xs)(hl:xs.length<=1000):aj g Γ N n (.lst mu es) (.List xs pos):=by
 intro W A fr env ρ φ M s Q X hA hN er st hw
 refine wpAny_List_spliced (qF h hA hN er st hw (λ vs ys s1 φ1 M1 q1 hlen Ep Em EA r1=> ?_) λ zz zz e=>e)
 have e1:=r1.length
 exact⟨by refine aa hlen ?_;exact mU hl,LQ.step Em _ _ (LQ.list mu Ep _ q1 (by refine aE e1 ?_;refine aa hlen ?_;exact pa hl) r1)⟩
theorem cB:∀{ks:List Str} {es:List Qh},bY P ks es->es.length=ks.length:=by
 intro ks
 induction ks with
 |nil=>
  intro es h
  subst h;rfl
 |cons k ks ih=>
  intro es h
  obtain⟨e,r,rfl,_,_,h⟩:=h
  refine aa PN ?_;refine aa PN ?_;refine aa (ih h) ?_;rfl
theorem gh:∀{ks:List Int} {es:List Qh},iG ks es->es.length=ks.length:=by
 intro ks
 induction ks with
 |nil=>
  intro es h
  subst h;rfl
 |cons k ks ih=>
  intro es h
  obtain⟨e,r,rfl,_,_,h⟩:=h
  refine aa PN ?_;refine aa PN ?_;refine aa (ih h) ?_;rfl
theorem sT:∀{ks:List Str} {es:List Qh},bY w.params ks es->Pairs (strKind prog w) es (ks.zip (es.map (·.val)))/\∀e∈es,∃k,(strKind prog w).is k e.key=true/\e.hash=(strKind prog w).hash k:=by
 intro ks
 induction ks with
 |nil=>
  intro es h
  subst h;exact⟨.nil,λ zz h=>by cases h⟩
 |cons k ks ih=>
  intro es h
  obtain⟨e,r,rfl,⟨t,hk⟩,hh,h⟩:=h
  obtain⟨a,b⟩:=ih h
  have hi:(strKind prog w).is k e.key=true:=by refine aa hk ?_;show Rz k (.str k t)=true;simp[Rz]
  refine⟨.cons (kv:=(k,e.val)) hi rfl a,λ x hx=> ?_⟩
  rcases PS.mp hx with rfl|hx
  ·exact aA k hi hh
  ·exact b x hx
theorem sU:∀{ks:List Int} {es:List Qh},iG ks es->Pairs (TM prog w) es (ks.zip (es.map (·.val)))/\∀e∈es,∃k,(TM prog w).is k e.key=true/\e.hash=(TM prog w).hash k:=by
 intro ks
 induction ks with
 |nil=>
  intro es h
  subst h;exact⟨.nil,λ zz h=>by cases h⟩
 |cons k ks ih=>
  intro es h
  obtain⟨e,r,rfl,⟨t,hk⟩,hh,h⟩:=h
  obtain⟨a,b⟩:=ih h
  have hi:(TM prog w).is k e.key=true:=by refine aa hk ?_;show SG k (.int k t)=true;simp[SG]
  refine⟨.cons (kv:=(k,e.val)) hi rfl a,λ x hx=> ?_⟩
  rcases PS.mp hx with rfl|hx
  ·exact aA k hi hh
  ·exact b x hx
theorem eT{α β:Type}:∀{ks:List α} {xs:List β},xs.length=ks.length->(ks.zip xs).map (·.1)=ks:=by
 intro ks
 induction ks with
 |nil=>
  intro y1 y2
  exact rfl
 |cons k ks ih=>
  intro y3
  cases y3 with
  |nil=>
   intro h
   simp at h
  |cons x xs=>
   intro h
   refine aa Qi ?_;refine aa PP ?_;refine aa (ih (by simpa using h)) ?_;rfl
theorem nX{α β:Type}:∀{ks:List α} {xs:List β},xs.length=ks.length->(ks.zip xs).map (·.2)=xs:=by
 intro ks
 induction ks with
 |nil=>
  intro y1
  cases y1 with
  |nil=>
   intro y2
   exact rfl
  |cons x xs=>
   intro h
   simp at h
 |cons k ks ih=>
  intro y3
  cases y3 with
  |nil=>
   intro h
   simp at h
  |cons x xs=>
   intro h
   refine aa Qi ?_;refine aa PP ?_;refine aa (ih (by simpa using h)) ?_;rfl
theorem cJ:∀{ks:List String},ks.Nodup->(ks.map PD).Nodup:=λ h=>
 VD.mpr ((Xk).mpr ((VD.mp h).imp λ Fq e=>Fq (cV e)))
theorem gL{prog:Ug}{w:TB}{h:QG}{a:P3}{ks:List Str}{es:List Qh}{m:Nat}(e:h.get? a=some (QM es m))(nd:ks.Nodup)(ke:bY w.params ks es):
  h.DictOf (strKind prog w) a (ks.zip (es.map (·.val))):=by
 obtain⟨p,q⟩:=sT (prog:=prog) ke
 refine BP _ es.toArray m e ⟨rfl,rfl,rfl⟩ rfl (λ x hx=>q x (by simpa using hx)) (by simpa using p) ?_
 refine aa (eT (by refine aa (PE _) ?_;refine aa (cB ke) ?_;rfl)) ?_;exact nd
theorem ib{prog:Ug}{w:TB}{h:QG}{a:P3}{ks:List Int}{es:List Qh}{m:Nat}(e:h.get? a=some (QM es m))(nd:ks.Nodup)(ke:iG ks es):
  h.DictOf (TM prog w) a (ks.zip (es.map (·.val))):=by
 obtain⟨p,q⟩:=sU (prog:=prog) (w:=w) ke
 refine BP _ es.toArray m e ⟨rfl,rfl,rfl⟩ rfl (λ x hx=>q x (by simpa using hx)) (by simpa using p) ?_
 refine aa (eT (by refine aa (PE _) ?_;refine aa (gh ke) ?_;rfl)) ?_;exact nd
theorem yr:∀{es:List Qh} {kvs:List (Str×PJ)},Pairs (strKind prog w) es kvs->(∀e∈es,∃k,(strKind prog w).is k e.key=true/\e.hash=(strKind prog w).hash k)->
  bY w.params (kvs.map (·.1)) es/\es.map (·.val)=kvs.map (·.2):=by
 intro es kvs p
 induction p with
 |nil=>intro _;exact⟨rfl,rfl⟩
 | @cons e kv es kvs h1 h2 _ ih=>
  intro hk
  obtain⟨a,b⟩:=ih λ x hx=>hk x (.tail _ hx)
  obtain⟨t,ht⟩:=TZ (show Rz kv.1 e.key=true from h1)
  refine ai (hk e (.head _)) λ k' h3 h4=> ?_
  have:k'=kv.1:=(strKind prog w).inj _ _ _ h3 h1
  subst this
  refine⟨?_,by refine aa PP ?_;refine aa PP ?_;refine aa h2 ?_;refine aa b ?_;rfl⟩
  show nT _ _ _ _
  exact⟨e,es,rfl,⟨t,ht⟩,h4,a⟩
theorem yt:∀{es:List Qh} {kvs:List (Int×PJ)},Pairs (TM prog w) es kvs->(∀e∈es,∃k,(TM prog w).is k e.key=true/\e.hash=(TM prog w).hash k)->
  iG (kvs.map (·.1)) es/\es.map (·.val)=kvs.map (·.2):=by
 intro es kvs p
 induction p with
 |nil=>intro _;exact⟨rfl,rfl⟩
 | @cons e kv es kvs h1 h2 _ ih=>
  intro hk
  obtain⟨a,b⟩:=ih λ x hx=>hk x (.tail _ hx)
  have ht:∃t,e.key=.int kv.1 t:=by
   have Kb:SG kv.1 e.key=true:=h1
   cases Ji:e.key<;>rw[Ji] at Kb<;>simp[SG] at Kb ⊢
   exact Kb
  refine ai (hk e (.head _)) λ k' h3 h4=> ?_
  have:k'=kv.1:=(TM prog w).inj _ _ _ h3 h1
  subst this
  refine⟨?_,by refine aa PP ?_;refine aa PP ?_;refine aa h2 ?_;refine aa b ?_;rfl⟩
  show nT _ _ _ _
  exact⟨e,es,rfl,ht,h4,a⟩
theorem pC{prog:Ug}{w:TB}{h:QG}{a:P3}{kvs:List (Str×PJ)}(d:h.DictOf (strKind prog w) a kvs):
  ∃es m,h.get? a=some (QM es m)/\bY w.params (kvs.map (·.1)) es/\es.map (·.val)=kvs.map (·.2):=by
 refine u8 d λ o es ep ho FE hd hk hp hn=> ?_;clear d;rcases FE with⟨h1,h2,h3⟩
 obtain⟨oc,od,NY,NX⟩:=o
 dsimp only at h1 h2 h3 hd
 subst h1 h2 h3 hd
 obtain⟨x,y⟩:=yr hp λ e he=>hk e (by simpa using he)
 exact rn es.toList ep (by refine aa ho ?_;rfl) x y
theorem vf{prog:Ug}{w:TB}{h:QG}{a:P3}{kvs:List (Int×PJ)}(d:h.DictOf (TM prog w) a kvs):
  ∃es m,h.get? a=some (QM es m)/\iG (kvs.map (·.1)) es/\es.map (·.val)=kvs.map (·.2):=by
 refine u8 d λ o es ep ho FE hd hk hp hn=> ?_;clear d;rcases FE with⟨h1,h2,h3⟩
 obtain⟨oc,od,NY,NX⟩:=o
 dsimp only at h1 h2 h3 hd
 subst h1 h2 h3 hd
 obtain⟨x,y⟩:=yt hp λ e he=>hk e (by simpa using he)
 exact rn es.toList ep (by refine aa ho ?_;rfl) x y
end
section
variable{g:Gs}{tb:Tb}{K:RH}{Γ:aH}{N:Nm}{n:Nat}{W W' V:P3->Prop}{A:Qx}{fr:List Env}{env:Env}{ρ:an}{φ φ':az}{M M':AH}{s s' sD:PK}{E0:PJ->PK->Prop}
theorem LX.narrow(st:St g.pl g.w.params g.B W fr φ M s)(sp:av bt φ M s φ M sD)(hw:∀b,W b->W' b)(h:LX g.pl g.w.params g.B W' fr g.cls φ M sD X v s'):LX g.pl g.w.params g.B W fr g.cls φ M s X v s':=by
 obtain⟨e,φ',M',a,b,c,d,f⟩:=h
 exact⟨e,φ',M',a,b,st.back (fr':=[]) c hw,sp.trans d,f.le λ zz q=>sp.dead q⟩
theorem aC.widen{Nw:P3->Prop}(er:aC g.pl g.w.params W Γ env ρ φ M s.heap)(hk:∀b o,s.heap.get? b=some o->s'.heap.get? b=some o)(hN:∀b,Nw b->s.heap.objs.size<=b):aC g.pl g.w.params (λ b=>W b∨Nw b) Γ env ρ φ M s'.heap:=by
 have ho:∀b,ow (λ b=>W b∨Nw b) φ M b->ow W φ M b∨s.heap.get? b=none:=λ b q=>q.elim (λ q=>q.elim (λ q=>.inl (.inl q)) λ q=>.inr (aT (hN b q))) λ q=>.inl (.inr q)
 refine⟨er.kind,er.glob,er.bi,er.inj,.inl er.Fd,?_,λ x hx=> ?_,er.apart⟩
 ·obtain⟨m,hm,hl⟩:=er.loc
  exact⟨m,hm.keeps hk,λ x i hi hx=>(hl x i hi hx).mono (Pz _) (λ b o e zz=>.inl (hk b o e)) ho⟩
 ·obtain⟨c,v,hc,hw,EC,hr⟩:=er.cell x hx
  exact⟨c,v,hc,.inl hw,EC.keeps hk,λ i hi=>(hr i hi).mono (Pz _) (λ b o e zz=>.inl (hk b o e)) ho⟩
noncomputable def la(env:Env)(pos:Pos):List (Option P8)->List P8->List (Sem PJ×Sem PJ)
 |some k::ks,v::vs=>(eval k env,(do let x<-eval v env;Su pos;pure x))::la env pos ks vs
 |_,_=>[]
noncomputable def uU:List String->List (Option P8)->Bool
 |[],xs=>bW xs
 |k::ks,xs=>cy xs λ x xs=>bD x λ e=>cW e λ c zz zz=>uJ c λ t=>PD k==t&&(decide (k.length<=aq)&&uU ks xs)
inductive fu:List String->List (Option P8)->Prop
 |nil:fu [] []
 |cons {k:String} {ks:List String} {xs:List (Option P8)} (i:Nat) (p:Pos):k.length<=aq->fu ks xs->fu (k::ks) (some (.Constant (.str (PD k)) i p)::xs)
theorem qZ:∀{ks:List String} {xs:List (Option P8)},uU ks xs=true->fu ks xs:=by
 intro ks
 induction ks with
 |nil=>
  intro y1 h
  exact bl h .nil
 |cons k y2 ih=>
  intro y3 h
  exact bK h λ x xs h=>cw (mo:=λ x=>fu _ (x::xs)) h λ e h=>ct (mo:=λ e=>fu _ (some e::xs)) h λ c i p h=>qN (mo:=λ c=>fu _ (some (.Constant c i p)::xs)) h λ t h=>
   ar (af h).1▸.cons i p (aJ (af (af h).2).1) (ih (af (af h).2).2)
theorem fu.len(h:fu ks xs):xs.length=ks.length:=by
 induction h with
 |nil=>rfl
 |cons i p _ _ ih=>exact congrArg (· +1) ih
theorem fu.seq(h:fu ks xs):∀k∈ks,k.length<=aq:=by
 induction h with
 |nil=>intro _ h;cases h
 |cons i p l _ ih=>exact TU.mpr ⟨l,ih⟩
theorem lC(env:Env)(pos:Pos)(h:fu ks keys):∀{vals:List P8},vals.length=keys.length->
  (evalEachOpt keys env).zip ((evalEach vals env).map λ v=>do let x<-v;Su pos;pure x)=((la env pos keys vals).map λ p=>(some p.1,p.2))/\(la env pos keys vals).length=ks.length:=by
 induction h with
 |nil=>intro vals _;cases vals<;>exact⟨rfl,rfl⟩
 |cons i p _ _ ih=>
  intro vals hl
  cases vals with
  |nil=>cases hl
  |cons v vs=>exact⟨congrArg (List.cons (_,_)) (ih (To hl)).1,congrArg (· +1) (ih (To hl)).2⟩
inductive Dw(prog:Ug)(w:TB)(ks:List String)(L:List PJ->PK->Prop)(vs:List (PJ×PJ))(s':PK):Prop
 |mk (us:List PJ):us.length=ks.length->Carries (strKind prog w) vs ((ks.map PD).zip us)->L us s'->Dw prog w ks L vs s'
noncomputable def jJ(g:Gs)(Γ:aH)(N:Nm)(n:Nat)(ks:List String)(es:Es)(keys:List (Option P8))(vals:List P8):Prop:=
 ∀W A fr env ρ φ M s Q X pos,cj A fr n->env.scope.names=N->aC g.pl g.w.params W Γ env ρ φ M s.heap->St g.pl g.w.params g.B W fr φ M s->
  fo g.pl.P (ag g.pl.P n) es ρ M Q X->
  PR (PW g.prog g.w) A (evalPairs (la env pos keys vals)) (Dw g.prog g.w ks (uf g.pl g.w.params g.B W fr φ M s Q)) (LX g.pl g.w.params g.B W fr g.cls φ M s X) s
theorem jJ.nil:jJ g Γ N n [] .nil [] []:=by
 intro W A fr env ρ φ M s Q X pos hA hN er st hw
 exact evalPairs_nil ⟨[],rfl,trivial,[],φ,M,hw,st,.refl,rfl⟩
theorem jJ.cons{k:String}{ks:List String}{e:E}{r:Es}{i:Nat}{p:Pos}{x:P8}{keys:List (Option P8)}{vals:List P8}(he:aj g Γ N n e x)(ih:jJ g Γ N n ks r keys vals):
  jJ g Γ N n (k::ks) (.cons e r) (some (.Constant (.str (PD k)) i p)::keys) (x::vals):=by
 intro W A fr env ρ φ M s Q X pos hA hN er st hw
 have Ep:St g.pl g.w.params g.B W fr φ M {s with toks:=s.toks+1}:=st.tok rfl
 have Kq:av bt φ M s φ M {s with toks:=s.toks+1}:=.tok rfl rfl rfl
 refine evalPairs_cons (Yg (Py (aS (α:=Unit) he hA hN (er.E9 st Kq) Ep hw (λ v y s1 φ1 M1 q1 Ep Em EA r1=>Py (QF (PB ?_))) (LX.step Kq))))
 refine PT (ih W A fr env ρ φ1 M1 s1 _ X pos hA hN EA Ep q1) (λ vs s2 h=> ?_) (LX.step (Kq.trans Em))
 obtain⟨us,hl,hc,ys,φ2,M2,q2,Ez,Ey,r2⟩:=h
 refine⟨v::us,by refine aa PN ?_;refine aa PN ?_;refine aa hl ?_;rfl,⟨by show Rz _ (.str _ s.toks)=true;simp[Rz],rfl,hc⟩,_,φ2,M2,q2,Ez,(Kq.trans Em).trans Ey,?_⟩
 exact am.c ⟨v,us,rfl,r1.step Ey bG,r2⟩
theorem uR{K:Type}[DecidableEq K]:∀(more kvs:List (K×PJ)),((kvs++more).map (·.1)).Nodup->merged kvs more=kvs++more:=by
 intro more
 induction more with
 |nil=>
  intro kvs y1
  simp[merged]
 |cons p r ih=>
  intro kvs h
  have hn:¬(kvs.any λ kv=>decide (kv.1=p.1))=true:=by
   intro q
   refine ai (U5.mp q) λ x hx e=> ?_
   rw[Qd,PP] at h
   have:=(Se.mp h).2.2 x.1 (QE.mpr ⟨x,hx,rfl⟩) p.1 (.head _)
   exact this (of_decide_eq_true e)
  have e1:UG kvs p.1 p.2=kvs++[p]:=by unfold UG;refine aa (if_neg hn) ?_;rfl
  show merged (UG kvs p.1 p.2) r=_
  refine aa e1 ?_;refine aa (ih (kvs++[p]) (by simpa using h)) ?_
  simp
theorem St.adopt(hFW:∀env∈fr,∀L,env.frame=some L->W L)(y:St g.pl g.w.params g.B (λ b=>W b∨b=D) fr φ' M' s')(hWD:¬W D)
  (r:OR g.pl g.w.params (φ'++[(D,D)]) (ow (λ b=>W b∨b=D) φ' M') s'.heap (D,D) ob):
  St g.pl g.w.params g.B W fr (φ'++[(D,D)]) (M'.new ob) s'/\(∀b,own (φ'++[(D,D)]) (M'.new ob) b->own φ' M' b∨b=D):=by
 have FS:∀i o,M'.m i=some o->∃p,φ'[i]? =some p:=λ i o e=>let⟨q,a,_⟩:=y.hr.at_ i o e;⟨q,a⟩
 have FT:∀b,own (φ'++[(D,D)]) (M'.new ob) b->own φ' M' b∨b=D:=λ b q=>(jd y.hr.len FS q).imp id λ e=>e.elim id id
 have Nb:∀b,ow W (φ'++[(D,D)]) (M'.new ob) b->ow (λ b=>W b∨b=D) φ' M' b:=λ b z=>z.elim (λ z=>.inl (.inl z)) λ z=>(FT b z).elim .inr λ z=>.inl (.inr z)
 have G6:φ'<+:φ'++[(D,D)]:=List.Ew _ _
 have case:∀k z,(if k=M'.next then some ob else M'.m k).isSome=true->(φ'++[(D,D)])[k]? =some z->(k=M'.next/\z=(D,D))∨((M'.m k).isSome=true/\φ'[k]? =some z):=by
  intro k z FR hz
  by_cases Ip:k=M'.next
  ·subst Ip
   rw[P6 (by refine aa y.hr.len ?_;exact PC _),y.hr.len] at hz
   simp at hz;exact .inl ⟨rfl,hz.symm⟩
  ·rw[if_neg Ip] at FR
   obtain⟨o',Hf⟩:=P2.mp FR
   obtain⟨r',GB⟩:=FS k o' Hf
   rw[Qc (PL.mp GB).1] at hz
   exact .inr ⟨FR,hz⟩
 have Jx:∀k z,(M'.m k).isSome=true->φ'[k]? =some z->z.1≠D/\z.2≠D:=λ k z hk hz=>
  ⟨λ e=>y.hr.ES _ (cY hk hz).1 (.inr e),λ e=>y.hr.ES _ (cY hk hz).2 (.inr e)⟩
 refine⟨⟨⟨by refine aa PH ?_;refine aa y.hr.len ?_;rfl,λ i o' Hf=> ?_,λ i j x z hi hj hx hz Fq=> ?_,λ b q=> ?_,λ b q=> ?_⟩,y.base,y.frames,hFW,y.GH,λ b q=>y.FI b (.inl q),λ b q=>y.EW b (.inl q)⟩,FT⟩
 ·have hm:(if i=M'.next then some ob else M'.m i)=some o':=Hf
  by_cases hin:i=M'.next
  ·subst hin
   rw[if_pos rfl] at hm;cases hm
   exact aA (D,D) (by refine aa (P6 (by refine aa y.hr.len ?_;exact PC _)) ?_;refine aa y.hr.len ?_;simp) (OR.mono (Pz _) (λ zz zz e zz=>.inl e) (λ b z=>.inl (Nb b z)) (λ zz e=>e) (λ zz e=>e) r)
  ·rw[if_neg hin] at hm
   refine ai (y.hr.at_ i o' hm) λ q hq rq=> ?_
   exact aA q (by refine aa (Qc (PL.mp hq).1) ?_;exact hq) (OR.mono G6 (λ zz zz e zz=>.inl e) (λ b z=>.inl (Nb b z)) (λ zz e=>e) (λ zz e=>e) rq)
 ·rcases case i x hi hx with⟨e1,e2⟩|⟨a1,a2⟩<;>rcases case j z hj hz with⟨f1,f2⟩|⟨b1,b2⟩
  ·exact absurd (e1.trans f1.symm) Fq
  ·have q:=Jx j z b1 b2;subst e2;exact fj q.1.symm q.2.symm q.1.symm q.2.symm
  ·have q:=Jx i x a1 a2;subst f2;exact fj q.1 q.1 q.2 q.2
  ·exact y.hr.apart i j x z a1 b1 a2 b2 Fq
 ·rcases FT b q with q|q
  ·exact y.hr.new b q
  ·exact y.EW b (.inr q)
 ·rcases FT b q with q|q
  ·exact λ w=>y.hr.ES b q (.inl w)
  ·exact λ w=>hWD (q▸w)
theorem LQ.GN(mu:Bool)(hFW:∀env∈fr,∀L,env.frame=some L->W L)(y:St g.pl g.w.params g.B (λ b=>W b∨b=D) fr φ' M' s')(hWD:¬W D)(hd:s.heap.get? D=none)(sp:av bt φ M s φ' M' s')
  (rT:¬ow W φ' M' D->VR g.pl g.w.params φ' (ow W φ' M') s'.heap x (.ref D))
  (rO:OR g.pl g.w.params (φ'++[(D,D)]) (ow (λ b=>W b∨b=D) φ' M') s'.heap (D,D) ob)
  (q:if mu then Q (.ref M'.next) (M'.new ob) else Q x M'):LQ g.pl g.w.params g.B W fr φ M s Q (.ref D) s':=by
 cases mu with
 |false=>
  have G2:St g.pl g.w.params g.B W fr φ' M' s':=⟨y.hr.same (λ b o e n=>.inl e) (λ b o zz e=>e) (λ b q=>.inl (.inl q)),y.base,y.frames,hFW,y.GH,λ b q=>y.FI b (.inl q),λ b q=>y.EW b (.inl q)⟩
  refine⟨x,φ',M',q,G2,sp,rT λ q=> ?_⟩
  rcases q with q|q
  ·exact hWD q
  ·exact y.hr.ES _ q (.inr rfl)
 |true=>
  obtain⟨a,b⟩:=St.adopt hFW y hWD rO
  refine⟨_,_,_,q,a,⟨sp.pre.trans (List.Ew _ _),sp.keep,λ c h=>(b c h).elim (sp.own c) λ h=>.inr (h▸hd),sp.alive,sp.os,sp.gens⟩,?_⟩
  refine VR.r ?_
  exact⟨(D,D),by(first|refine aa (P6 (by refine aa y.hr.len ?_;exact PC _)) ?_;refine aa y.hr.len ?_|refine aa (P6 (by refine aa y.hr.len ?_;exact PC _)) ?_;refine aa y.hr.len ?_;with_reducible rfl);simp,rfl⟩
theorem LQ.settle(mu:Bool)(st:St g.pl g.w.params g.B W fr φ M s)(y:St g.pl g.w.params g.B (λ b=>W b∨b=D) fr φ' M' s')(hD:s.heap.objs.size<=D)(sp:av bt φ M s φ' M' s')
  (rT:¬ow W φ' M' D->VR g.pl g.w.params φ' (ow W φ' M') s'.heap x (.ref D))
  (rO:OR g.pl g.w.params (φ'++[(D,D)]) (ow (λ b=>W b∨b=D) φ' M') s'.heap (D,D) ob)
  (q:if mu then Q (.ref M'.next) (M'.new ob) else Q x M'):LQ g.pl g.w.params g.B W fr φ M s Q (.ref D) s':=
 LQ.GN mu st.Fg y (λ q=>absurd (st.Ko q) (V4.mpr hD)) (aT hD) sp rT rO q
theorem St.fill{D:P3}{o o':Obj}{s2:PK}(y:St g.pl g.w.params g.B (λ b=>W b∨b=D) fr φ' M' s')(hs:Qp D s'.heap s2.heap)(g2:s2.heap.get? D=some o')(hd:∀vs,o'.data≠.fields vs)(hF:∀env∈fr,env.frame≠some D)(ho:s2.os=s'.os)(hg:s2.gens=s'.gens):
  St g.pl g.w.params g.B (λ b=>W b∨b=D) fr φ' M' s2/\av (λ b=>b=D) φ' M' s' φ' M' s2/\∀{xs us},am g.pl g.w.params φ' (ow (λ b=>W b∨b=D) φ' M') s'.heap xs us->am g.pl g.w.params φ' (ow (λ b=>W b∨b=D) φ' M') s2.heap xs us:=by
 have hk:∀b x,s'.heap.get? b=some x->¬b=D->s2.heap.get? b=some x:=λ b x e nb=>(hs.2 b nb).trans e
 have Gd:∀b x,b=D->s'.heap.get? b=some x->∃x',s2.heap.get? b=some x'/\∀vs,x'.data≠.fields vs:=λ b x q e=>by subst q;exact aA o' g2 hd
 exact cg (St.changed (V:=λ b=>b=D) y hk (λ b q=>.inr q) Gd (λ b o q zz zz hx=>by subst q;refine ai hx λ env he hf=> ?_;clear hx;exact absurd hf (hF env he))) (.changed hk Gd ho hg) λ{xs us} r=>
  am.mono (Pz _) (λ b x e nb=>.inl (hk b x e λ q=>nb (.inl (.inr q)))) (λ b q=>.inl q) r
theorem aj.Go(fx:Fx g tb K){mu:Bool}{k0:String}{ks:List String}{es:Es}{keys:List (Option P8)}{vals:List P8}(h:jJ g Γ N n (k0::ks) es keys vals)(hk:fu (k0::ks) keys)(hl:vals.length=keys.length)(hlen:(k0::ks).length<=15):
  aj g Γ N n (.Go mu (k0::ks) es) (.Dict keys vals pos):=by
 intro W A fr env ρ φ M s Q X hA hN er st hw
 have hle:=(lC env pos hk hl).2
 have Hw:∀b o',s.heap.get? b=some o'->(s.heap.push {cls:=.type "dict",data:=.dict #[]}).get? b=some o':=λ b o' e=>PA _ e
 have hszD:s.heap.objs.size<=(s.heap.push {cls:=.type "dict",data:=.dict #[]}).objs.size:=by refine aa (Qb _ _) ?_;exact RP _
 refine wpAny_Dict_pairs (knd:=strKind g.prog g.w) (lC env pos hk hl).1 (by rewrite[<-List.length_pos_iff];refine aa hle ?_;simp) (by refine aa hle ?_;exact hlen) ?_
 have NN:St g.pl g.w.params g.B (λ b=>W b∨b=s.heap.objs.size) fr φ M {s with heap:=s.heap.push {cls:=.type "dict",data:=.dict #[]}}:=
  st.ext (N:=λ b=>b=s.heap.objs.size) Hw λ b q=>by subst q;exact⟨aT (PC _),_,PM _ rfl⟩
 have Mx:av bt φ M s φ M {s with heap:=s.heap.push {cls:=.type "dict",data:=.dict #[]}}:=.ext Hw rfl rfl
 refine PT (h _ A fr env ρ φ M _ _ X pos hA hN (er.widen (s':={s with heap:=s.heap.push {cls:=.type "dict",data:=.dict #[]}}) Hw λ b q=>S1 q.symm) NN hw) (λ vs s1 h=> ?_) λ zz zz z=>LX.narrow st Mx (λ b q=>.inl q) z
 obtain⟨us,IS,hc,ys,φ1,M1,q1,Ep,Em,r1⟩:=h
 have g0:(s.heap.push {cls:=.type "dict",data:=.dict #[]}).get? s.heap.objs.size=some (QM [] 0):=PM _ rfl
 have nD:¬own φ M s.heap.objs.size:=λ q=>Rn _ (st.hr.GP q)
 have g1:s1.heap.get? s.heap.objs.size=some (QM [] 0):=(Em.keep _ _ g0 nD id).eq (by simp)
 rename type_of% q1=>oqe;refine yK oqe λ q0 q1 q2 q3=> ?_;clear oqe
 have fst:=eT (ks:=(k0::ks).map PD) (xs:=us) (by refine aa (PE _) ?_;refine aa IS ?_;rfl)
 have snd:=nX (ks:=(k0::ks).map PD) (xs:=us) (by refine aa (PE _) ?_;refine aa IS ?_;rfl)
 refine gq _ hc ⟨_,#[],0,g1,⟨rfl,rfl,rfl⟩,rfl,λ zz h=>by simp at h,.nil,TY⟩ λ h' hD hs=> ?_
 rw[uR _ [] (by refine aa (RY _) ?_;refine aa fst ?_;exact cJ q1),RY] at hD
 refine kO (pC hD) λ Ge m' g2 ke ev=> ?_
 rw[fst] at ke;rw[snd] at ev
 refine ei (St.fill (s2:={s1 with heap:=h',toks:=s1.toks+vs.length}) (o:=QM [] 0) Ep hs g2 (λ zz h=>by cases h) (λ env he hf=>Rn _ (st.Ko (st.Fg env he _ hf))) rfl rfl) λ y2 Ey rr=> ?_
 have Nj:DC s.heap.objs.size (k0::ks):=⟨fx.Gy st (PC _),q1,PO hlen (by decide),hk.seq⟩
 refine LQ.settle mu (ob:=.Er (k0::ks) ys) (x:=.dict (k0::ks) ys) st y2 (PC _) ((Mx.trans Em).trans' Ey λ b q=>.inr (S1 q.symm)) (λ no=> ?_) ⟨rfl,Ge,m',g2,Nj,ke,?_⟩ q3
 ·refine VR.d ?_
  exact⟨_,Ge,m',rfl,no,g2,Nj,ke,ev▸am.set (λ b q=>.inl (.inl q)) (rr r1)⟩
 ·refine aa ev ?_
  exact am.mono (List.Ew _ _) (λ zz zz e zz=>.inl e) (λ b q=>.inl q) (rr r1)
theorem aj.Mr(fx:Fx g tb K):aj g Γ N n (.Go mu [] .nil) (.Dict [] [] pos):=by
 intro W A fr env ρ φ M s Q X hA hN er st hw
 refine yK hw λ zz zz zz q=> ?_;clear hw
 have hl:DC s.heap.objs.size []:=⟨fx.Gy st (PC _),TY,Rv _,λ zz h=>by cases h⟩
 refine wpAny_Dict_empty ?_
 cases mu with
 |false=>exact LQ.push st _ q (λ h' e k no=>VR.d ⟨_,[],0,rfl,no,e,hl,rfl,rfl⟩) rfl
 |true=>exact LQ.GK st _ q rfl λ h' φ' o' e k hp ho=>⟨rfl,[],0,e,hl,rfl,rfl⟩
theorem aj.GJ(fx:Fx g tb K):aj g Γ N n .GJ (.Dict [] [] pos):=by
 intro W A fr env ρ φ M s Q X hA hN er st hw
 refine wpAny_Dict_empty ?_
 exact LQ.GK st _ hw rfl λ h' φ' o' e k hp ho=>⟨rfl,[],0,e,⟨fx.Gy st (PC _),TY,Rv _⟩,rfl,rfl⟩
end
end Mine
end
section
namespace Mine
open PySem PySem.W PySem.Calls PyProof.Rows PySem.SeqAt
noncomputable def ff:xw->CmpOp|.eq=>.Eq|.ne=>.NotEq|.lt=>.Lt|.le=>.LtE|.gt=>.Gt|.ge=>.GtE|.isin=>.In|.notin=>.NotIn
section
variable{g:Gs}{tb:Tb}{K:RH}{Γ:aH}{N:Nm}{n:Nat}{W W' V:P3->Prop}{A:Qx}{fr:List Env}{env:Env}{ρ:an}{φ φ':az}{M M':AH}{s s' sD:PK}{E0:PJ->PK->Prop}
inductive zM(g:Gs)(W:P3->Prop)(φ:az)(M:AH)(h:QG)(i:Nat)(ob:O)(v:PJ):Prop
 |mk (p:P3×P3):v=.ref p.1->φ[i]? =some p->OR g.pl g.w.params φ (ow W φ M) h p ob->zM g W φ M h i ob v
theorem fY(st:St g.pl g.w.params g.B W fr φ M s)(r:VR g.pl g.w.params φ (ow W φ M) s.heap (.ref i) v)(hm:M.m i=some ob):zM g W φ M s.heap i ob v:=by
 obtain⟨p,hp,e⟩:=r
 refine ai (st.hr.at_ i _ hm) λ q hq ro=> ?_
 cases hp.symm.trans hq
 exact⟨p,e,hp,ro⟩
theorem lh(st:St g.pl g.w.params g.B W fr φ M s)(r:VR g.pl g.w.params φ (ow W φ M) s.heap x v):VN g.pl g.w.params φ (ow W φ M) s.heap (kE M x) v:=by
 cases x with
 |ref i=>
  show VN _ _ _ _ _ ((((M.m i).bind lstO?).map V.list).getD (.ref i)) v
  cases hm:M.m i with
  |none=>exact r
  |some ob=>
   cases ob with
   |list vs=>
    obtain⟨p,e,_,_,xs,m,gg,_,rs⟩:=fY st r hm
    exact zK.mk p.1 xs m e gg rs
   |_=>exact r
 |list vs=>
  obtain⟨a,xs,m,e,_,gg,_,rs⟩:=r
  exact zK.mk a xs m e gg rs
 |_=>exact r
inductive CE(x:Mine.V)(vs:List Mine.V)(b:Bool):Prop
 |mk (f:Nat->Bool):(∀i (t:Mine.V),vs[i]? =some t->kM t x=some (f i))->b=(PQ vs.length).any f->CE x vs b
theorem vv:∀{vs:List Mine.V} {b:Bool},eJ x vs=some b->CE x vs b:=by
 intro vs
 induction vs with
 |nil=>
  intro b h
  exact⟨λ zz=>false,λ i t e=>(nomatch e),(PX h).symm⟩
 |cons y r ih=>
  intro b h
  obtain⟨a,ha,h⟩:=aP h
  cases hc:eJ x r<;>rw[hc] at h<;>first|exact au h|skip;rename_i c;cases h
  obtain⟨f,h1,h2⟩:=ih hc
  refine⟨λ i=>match i with|0=>a|j+1=>f j,λ i t e=> ?_,?_⟩
  ·cases i with
   |zero=>cases e;exact ha
   |succ j=>exact h1 j t e
  ·refine aa PN ?_;refine aa TA ?_;refine aa RW ?_;refine aa List.any_map ?_;refine aa h2 ?_;rfl
theorem BN(r:VR g.pl g.w.params φ (ow W φ M) s.heap x v)(rs:am g.pl g.w.params φ (ow W φ M) s.heap vs xs)(h:eJ x vs=some b)(hu:A.units+100<Vo):
  ∃e:PJ->Bool,(∀y,y∈xs.toArray->Yr A.in1 s y v (e y))/\xs.toArray.any e=b:=by
 classical
 obtain⟨f,h1,h2⟩:=vv h
 have hl:=rs.length
 have key:∀i y,xs[i]? =some y->Yr A.in1 s y v (f i):=λ i y e=>by
  have hi:i<vs.length:=by refine aE hl ?_;exact(PL.mp e).1
  have ht:vs[i]? =some vs[i]:=PG hi
  refine ai (rs.get ht) λ u MU ru=> ?_
  rw[e] at MU;cases MU
  exact t4 40 ru r (h1 i _ ht) (by show A.units+1+40<Vo;exact ae 0x90a6ac0467e0d0187f830a214d5808cfc1c8085fd101 rfl A.units hu)
 refine aA (λ y=>decide (∃i,xs[i]? =some y/\f i=true)) (λ y hy=> ?_) ?_
 ·obtain⟨i,hi⟩:=Sm.mp (by simpa using hy:y∈xs)
  by_cases q:∃i,xs[i]? =some y/\f i=true
  ·refine ai q λ j hj hf=> ?_;clear q
   have:=key j y hj
   rw[hf] at this
   have q':∃i,xs[i]? =some y/\f i=true:=⟨j,hj,hf⟩
   show Yr A.in1 s y v (decide _)
   refine aa (decide_eq_true q') ?_;exact this
  ·have hf:f i=false:=by cases hfi:f i with|false=>rfl|true=>exact absurd ⟨i,hi,hfi⟩ q
   have:=key i y hi
   rw[hf] at this
   show Yr A.in1 s y v (decide _)
   refine aa (decide_eq_false q) ?_;exact this
 ·refine aa h2 ?_;rewrite[SK]
  simp only [List.any_toArray,U5,decide_eq_true_eq,Sk]
  constructor
  ·rintro⟨y,hy,i,hi,hf⟩
   exact aA i (by refine aE hl ?_;exact(PL.mp hi).1) hf
  ·rintro⟨i,hi,hf⟩
   rw[<-hl] at hi
   exact⟨xs[i],QI hi,i,PG hi,hf⟩
theorem sq{ks:List String}{us:List PJ}{k:String}(hl:us.length=ks.length):(SO ((ks.map PD).zip us) (PD k)).isSome=ks.contains k:=by
 induction ks generalizing us with
 |nil=>simp[SO]
 |cons x ks ih=>
  cases us with
  |nil=>simp at hl
  |cons u us=>
   have h:=ih (us:=us) (by simpa using hl)
   unfold SO at h ⊢
   refine aa PP ?_;refine aa Qi ?_;refine aa Q4 ?_
   by_cases e:x=k
   ·subst e;simp
   ·have e2:¬PD x=PD k:=λ q=>e (cV q)
    have e3:(k==x)=false:=beq_eq_false_iff_ne.mpr λ q=>e q.symm
    simp only [e2,decide_false]
    refine aa h ?_;refine aa SU ?_;refine aa e3 ?_;refine aa (Tp _) ?_;rfl
theorem sr{ks:List Int}{us:List PJ}{k:Int}(hl:us.length=ks.length):(SO (ks.zip us) k).isSome=ks.contains k:=by
 induction ks generalizing us with
 |nil=>simp[SO]
 |cons x ks ih=>
  cases us with
  |nil=>simp at hl
  |cons u us=>
   have h:=ih (us:=us) (by simpa using hl)
   unfold SO at h ⊢
   refine aa Qi ?_;refine aa Q4 ?_
   by_cases e:x=k
   ·subst e;simp
   ·have e3:(k==x)=false:=beq_eq_false_iff_ne.mpr λ q=>e q.symm
    simp only [e,decide_false]
    refine aa h ?_;refine aa SU ?_;refine aa e3 ?_;refine aa (Tp _) ?_;rfl
set_option tactic.hygienic true in
theorem zu{x c:Mine.V}{b:Bool}(st:St g.pl g.w.params g.B W fr φ M s)(hx:VR g.pl g.w.params φ (ow W φ M) s.heap x v)(hc:VR g.pl g.w.params φ (ow W φ M) s.heap c u)(h:zv M x c=some b)(hu:A.units+100<Vo){Q:PJ->PK->Prop}:
  ((∀t,Q (.bool b) {s with toks:=t})->PR (PW g.prog g.w) A (SE .In v u) Q E0 s)/\((∀t,Q (.bool (!b)) {s with toks:=t})->PR (PW g.prog g.w) A (SE .NotIn v u) Q E0 s):=by
 have dS:∀{p:P3} {ks:List String} {es:List Qh} {m:Nat} {k:String} {t:Tok},s.heap.get? p=some (QM es m)->(p==WN)=false->ks.Nodup->bY g.w.params (ks.map PD) es->
   ((∀t,Q (.bool (ks.contains k)) {s with toks:=t})->PR (PW g.prog g.w) A (SE .In (.str (PD k) t) (.ref p)) Q E0 s)/\((∀t,Q (.bool (!ks.contains k)) {s with toks:=t})->PR (PW g.prog g.w) A (SE .NotIn (.str (PD k) t) (.ref p)) Q E0 s):=by
  intro p ks es m k t gg ns nd ke
  have d:=(gL (prog:=g.prog) gg (cJ nd) ke).mapOf
  have e:=sq (ks:=ks) (us:=es.map (·.val)) (k:=k) (by refine aa (PE _) ?_;refine aa (cB ke) ?_;refine aa (PE _) ?_;rfl)
  exact⟨λ q=>wpAny_in_of (WO _ _ _ _) ns d (by refine aa e ?_;exact q _),λ q=>wpAny_notIn_of (WO _ _ _ _) ns d (by refine aa e ?_;exact q _)⟩
 have dI:∀{p:P3×P3} {ob:O},OR g.pl g.w.params φ (ow W φ M) s.heap p ob->u=.ref p.1->Dl x ob=some b->
   ((∀t,Q (.bool b) {s with toks:=t})->PR (PW g.prog g.w) A (SE .In v u) Q E0 s)/\((∀t,Q (.bool (!b)) {s with toks:=t})->PR (PW g.prog g.w) A (SE .NotIn v u) Q E0 s):=by
  intro p ob ro e h
  subst e
  cases ob with
  |EE ks vs=>
   have h:(match aM x with|some k=>some (ks.contains k)|none=>none)=some b:=h
   cases hk:aM x<;>rw[hk] at h<;>first|exact au h|skip;rename_i k;cases h
   cases ic hk
   obtain⟨_,es,m,gg,hl,ke,_⟩:=ro
   obtain⟨t,rfl⟩:=hx
   have d:=(ib (prog:=g.prog) (w:=g.w) gg hl.nd ke).mapOf
   have e:=sr (ks:=ks) (us:=es.map (·.val)) (k:=k) (by refine aa (PE _) ?_;refine aa (gh ke) ?_;rfl)
   exact⟨λ q=>wpAny_in_of (WP _ _ _ _) hl.1 d (by refine aa e ?_;exact q _),λ q=>wpAny_notIn_of (WP _ _ _ _) hl.1 d (by refine aa e ?_;exact q _)⟩
  |Er ks vs=>
   have h:(match cF x with|some k=>some (ks.contains k)|none=>none)=some b:=h
   cases hk:cF x<;>rw[hk] at h<;>first|exact au h|skip;rename_i k;cases h
   cases eR hk
   obtain⟨_,es,m,gg,hl,ke,_⟩:=ro
   obtain⟨_,t,rfl⟩:=hx
   exact dS gg hl.1 hl.nd ke
  |_=>exact au h
 cases c<;>first|exact au h|skip
 ·obtain⟨a,xs,m,rfl,_,gg,_,rs⟩:=hc
  refine ai (BN (A:=A) hx rs h hu) λ e h1 h2=> ?_
  exact⟨λ q=>in_tupleAt e (tQ gg) h1 (by refine aa h2 ?_;exact q s.toks),λ q=>notIn_tupleAt e (tQ gg) h1 (by refine aa h2 ?_;exact q s.toks)⟩
 ·rename_i ks _
  have h:(match cF x with|some k=>some (ks.contains k)|none=>none)=some b:=h
  cases hk:cF x<;>rw[hk] at h<;>first|exact au h|skip;rename_i k;cases h
  cases eR hk
  obtain⟨a,es,m,rfl,_,gg,hl,ke,_⟩:=hc
  obtain⟨_,t,rfl⟩:=hx
  exact dS gg hl.1 hl.nd ke
 ·obtain⟨ob,hm,h⟩:=aP h
  obtain⟨p,e,_,ro⟩:=fY st hc hm
  exact dI ro e h
theorem jl(st:St g.pl g.w.params g.B W fr φ M s)(hx:VR g.pl g.w.params φ (ow W φ M) s.heap x v)(hy:VR g.pl g.w.params φ (ow W φ M) s.heap y u)
  (h:rK M op x y=some b)(hu:A.units+100<Vo)(q:∀t,Q (.bool b) {s with toks:=t}):PR (PW g.prog g.w) A (SE (ff op) v u) Q E0 s:=by
 cases op
 case eq=>exact(tx (n:=39) (lh st hx) (lh st hy) h (ae 0x90a6ac0467e0d0187fa214d5808cfc1c8085fd101 rfl A.units hu)).1 _ _ _ _ (q s.toks)
 case ne=>obtain⟨c,hc,rfl⟩:=g9 h;exact(tx (n:=39) (lh st hx) (lh st hy) hc (ae 0x90a6ac0467e0d0187fa214d5808cfc1c8085fd101 rfl A.units hu)).2 _ _ _ _ (q s.toks)
 case isin=>exact(zu st hx hy h hu).1 q
 case notin=>obtain⟨c,hc,rfl⟩:=g9 h;exact(zu st hx hy hc hu).2 q
 case lt=>
  have h:(match aM x with|some a=>(match aM y with|some b=>some (decide (a<b))|none=>none)|none=>none)=some b:=h
  cases hi:aM x<;>rw[hi] at h<;>first|exact au h|skip
  cases hj:aM y<;>rw[hj] at h<;>first|exact au h|skip
  cases h
  obtain⟨t,rfl⟩:=isInt hx hi
  obtain⟨t',rfl⟩:=isInt hy hj
  exact lt_int (q s.toks)
 case le=>
  have h:(match aM x with|some a=>(match aM y with|some b=>some (decide (a<=b))|none=>none)|none=>none)=some b:=h
  cases hi:aM x<;>rw[hi] at h<;>first|exact au h|skip
  cases hj:aM y<;>rw[hj] at h<;>first|exact au h|skip
  cases h
  obtain⟨t,rfl⟩:=isInt hx hi
  obtain⟨t',rfl⟩:=isInt hy hj
  exact le_int (q s.toks)
 case gt=>
  have h:(match aM x with|some a=>(match aM y with|some b=>some (decide (b<a))|none=>none)|none=>none)=some b:=h
  cases hi:aM x<;>rw[hi] at h<;>first|exact au h|skip
  cases hj:aM y<;>rw[hj] at h<;>first|exact au h|skip
  cases h
  obtain⟨t,rfl⟩:=isInt hx hi
  obtain⟨t',rfl⟩:=isInt hy hj
  exact gt_int (q s.toks)
 case ge=>
  have h:(match aM x with|some a=>(match aM y with|some b=>some (decide (b<=a))|none=>none)|none=>none)=some b:=h
  cases hi:aM x<;>rw[hi] at h<;>first|exact au h|skip
  cases hj:aM y<;>rw[hj] at h<;>first|exact au h|skip
  cases h
  obtain⟨t,rfl⟩:=isInt hx hi
  obtain⟨t',rfl⟩:=isInt hy hj
  exact ge_int (q s.toks)
theorem cj.G1(hA:cj A fr n):A.units+100<Vo:=by have:=hA.units;exact ae 0x90a6ac0467e0e4042fe8853560233f07e80c7fc13f449102 rfl A.units n this
theorem aj.cmp(ha:aj g Γ N n a xa)(hb:aj g Γ N n b xb)(hm:W6 (ff op) xb=false):aj g Γ N n (.cmp op a b) (.Compare xa [ff op] [xb] pos):=by
 intro W A fr env ρ φ M s Q X hA hN er st hw
 refine Wt (aS (α:=Unit) ha hA hN er st hw (λ v x s1 φ1 M1 q1 Ep Em EA r1=>aS (α:=Unit) hb hA hN EA Ep q1 (λ u y s2 φ2 M2 q2 Ez Ey ER r2=> ?_) (LX.step Em)) λ zz zz e=>e) hm
 refine ai (aD q2) λ r hr q3=> ?_
 exact jl Ez (r1.step Ey bG) r2 hr hA.G1 λ t=>LQ.step (Em.trans Ey) _ _ (LQ.tk Ez t q3 rfl)
theorem bA.cmp(ha:aj g Γ N n a xa)(hb:aj g Γ N n b xb)(hm:W6 (ff op) xb=false):bA g Γ N n (.cmp op a b) (.Compare xa [ff op] [xb] pos):=by
 intro W A fr env ρ φ M s Q X hA hN er st hw
 refine Um (aS (α:=Unit) ha hA hN er st hw (λ v x s1 φ1 M1 q1 Ep Em EA r1=>aS (α:=Unit) hb hA hN EA Ep q1 (λ u y s2 φ2 M2 q2 Ez Ey ER r2=> ?_) (LX.step Em)) λ zz zz e=>e) hm
 refine ai (aD q2) λ r hr q3=> ?_
 exact jl Ez (r1.step Ey bG) r2 hr hA.G1 λ t=>Qz ⟨φ2,M2,q3,Ez.tok rfl,(Em.trans Ey).trans (.tok rfl rfl rfl)⟩
theorem aj.Fz(ha:aj g Γ N n a xa)(hb:aj g Γ N n b xb)(hc:aj g Γ N n c xc)(hm:lastMarks [ff op1,ff op2] [xb,xc]=false):
  aj g Γ N n (.Fz a op1 b op2 c) (.Compare xa [ff op1,ff op2] [xb,xc] pos):=by
 intro W A fr env ρ φ M s Q X hA hN er st hw
 refine Compare_chain (aS (α:=Unit) ha hA hN er st hw (λ v x s1 φ1 M1 q1 Ep Em EA r1=> ?_) λ zz zz e=>e) hm
 refine chain_link (aS (α:=Unit) hb hA hN EA Ep q1 (λ u y s2 φ2 M2 q2 Ez Ey ER r2=> ?_) (LX.step Em))
 refine ai (aD q2) λ r hr q3=> ?_
 refine jl Ez (r1.step Ey bG) r2 hr hA.G1 λ t=>Qz ?_
 have Fh:=Ez.tok (s':={s2 with toks:=t}) rfl
 have Fi:=(Em.trans Ey).trans (.tok (s':={s2 with toks:=t}) rfl rfl rfl)
 cases r with
 |true=>
  refine aa (if_pos rfl) ?_
  refine chain_last (aS (α:=Unit) hc hA hN (ER.E9 Ez (.tok rfl rfl rfl)) Fh (q3.1 rfl) (λ z y' s4 φ4 M4 q4 F4 FO HN r4=> ?_) (LX.step Fi))
  refine ai (aD q4) λ r' GB q5=> ?_
  exact jl F4 ((r2.step (.tok rfl rfl rfl) bG).step FO bG) r4 GB hA.G1 λ t=>LQ.step (Fi.trans FO) _ _ (LQ.tk F4 t q5 rfl)
 |false=>exact⟨_,φ2,M2,q3.2 rfl,Fh,Fi,rfl⟩
theorem bA.Fz(ha:aj g Γ N n a xa)(hb:aj g Γ N n b xb)(hc:aj g Γ N n c xc)(hm:lastMarks [ff op1,ff op2] [xb,xc]=false):
  bA g Γ N n (.Fz a op1 b op2 c) (.Compare xa [ff op1,ff op2] [xb,xc] pos):=by
 intro W A fr env ρ φ M s Q X hA hN er st hw
 refine isTrue_chain (aS (α:=Unit) ha hA hN er st hw (λ v x s1 φ1 M1 q1 Ep Em EA r1=> ?_) λ zz zz e=>e) hm
 refine test_link (aS (α:=Unit) hb hA hN EA Ep q1 (λ u y s2 φ2 M2 q2 Ez Ey ER r2=> ?_) (LX.step Em))
 refine ai (aD q2) λ r hr q3=> ?_
 refine jl Ez (r1.step Ey bG) r2 hr hA.G1 λ t=>Qz ?_
 have Fh:=Ez.tok (s':={s2 with toks:=t}) rfl
 have Fi:=(Em.trans Ey).trans (.tok (s':={s2 with toks:=t}) rfl rfl rfl)
 cases r with
 |true=>
  refine aa (if_pos rfl) ?_
  refine test_last (aS (α:=Unit) hc hA hN (ER.E9 Ez (.tok rfl rfl rfl)) Fh (q3.1 rfl) (λ z y' s4 φ4 M4 q4 F4 FO HN r4=> ?_) (LX.step Fi))
  refine ai (aD q4) λ r' GB q5=> ?_
  exact jl F4 ((r2.step (.tok rfl rfl rfl) bG).step FO bG) r4 GB hA.G1 λ t=>Qz ⟨φ4,M4,q5,F4.tok rfl,(Fi.trans FO).trans (.tok rfl rfl rfl)⟩
 |false=>exact⟨φ2,M2,q3.2 rfl,Fh,Fi⟩
noncomputable def isNone:Mine.V->Bool|.none=>true|_=>false
noncomputable def BH:Mine.V->Bool
 |.tup _|.list _|.dict _ _|.inst _ _|.ref _=>true
 |_=>false
theorem wf{φ:az}(r:VR pl P φ o h x v)(q:BH x=true):∃a,v=.ref a:=by
 cases x<;>first|exact QS q|skip
 case inst=>exact r.casesOn λ a zz zz zz zz e zz zz zz zz zz zz zz=>⟨a,e⟩
 case ref=>exact r.casesOn λ p zz e=>⟨p.1,e⟩
 case dict=>exact r.casesOn λ a zz zz e zz zz zz zz zz=>⟨a,e⟩
 all_goals exact r.casesOn λ a zz zz e zz zz zz zz=>⟨a,e⟩
theorem lj(r:VR g.pl g.w.params φ (ow W φ M) s.heap x v):plainIs v .none=true/\(v==.none)=isNone x:=by
 cases x
 case none=>subst r;exact⟨rfl,rfl⟩
 case bool=>subst r;exact⟨rfl,rfl⟩
 case int=>obtain⟨t,rfl⟩:=r;exact⟨rfl,rfl⟩
 case str=>obtain⟨_,t,rfl⟩:=r;exact⟨rfl,rfl⟩
 case bytes=>obtain⟨_,t,rfl⟩:=r;exact⟨rfl,rfl⟩
 case fn=>subst r;exact⟨rfl,rfl⟩
 all_goals
  obtain⟨a,e⟩:=wf r rfl
  subst e
  exact⟨rfl,rfl⟩
theorem aj.Ga(ha:aj g Γ N n a xa):aj g Γ N n (.Ga a) (.Compare xa [.Is] [.Constant .none k p] pos):=by
 intro W A fr env ρ φ M s Q X hA hN er st hw
 refine Wt (aS (α:=Unit) ha hA hN er st hw (λ v x s1 φ1 M1 q1 Ep Em EA r1=>Rr ?_) λ zz zz e=>e) rfl
 have q1:Q (.bool (isNone x)) M1:=by cases x<;>exact q1
 obtain⟨h1,h2⟩:=lj r1
 exact wpAny_is_plain h1 (by refine aa h2 ?_;exact LQ.step Em _ _ (LQ.bool Ep q1))
theorem bA.Ga(ha:aj g Γ N n a xa):bA g Γ N n (.Ga a) (.Compare xa [.Is] [.Constant .none k p] pos):=by
 intro W A fr env ρ φ M s Q X hA hN er st hw
 refine Um (aS (α:=Unit) ha hA hN er st hw (λ v x s1 φ1 M1 q1 Ep Em EA r1=>Rr ?_) λ zz zz e=>e) rfl
 have q1:Q (isNone x) M1:=by cases x<;>exact q1
 obtain⟨h1,h2⟩:=lj r1
 exact wpAny_is_plain h1 (by refine aa h2 ?_;exact Qz ⟨φ1,M1,q1,Ep,Em⟩)
theorem aj.FK(ha:aj g Γ N n a xa):aj g Γ N n (.FK a) (.Compare xa [.IsNot] [.Constant .none k p] pos):=by
 intro W A fr env ρ φ M s Q X hA hN er st hw
 refine Wt (aS (α:=Unit) ha hA hN er st hw (λ v x s1 φ1 M1 q1 Ep Em EA r1=>Rr ?_) λ zz zz e=>e) rfl
 have q1:Q (.bool (!isNone x)) M1:=by cases x<;>exact q1
 obtain⟨h1,h2⟩:=lj r1
 exact YB h1 (by refine aa h2 ?_;exact LQ.step Em _ _ (LQ.bool Ep q1))
theorem bA.FK(ha:aj g Γ N n a xa):bA g Γ N n (.FK a) (.Compare xa [.IsNot] [.Constant .none k p] pos):=by
 intro W A fr env ρ φ M s Q X hA hN er st hw
 refine Um (aS (α:=Unit) ha hA hN er st hw (λ v x s1 φ1 M1 q1 Ep Em EA r1=>Rr ?_) λ zz zz e=>e) rfl
 have q1:Q (!isNone x) M1:=by cases x<;>exact q1
 obtain⟨h1,h2⟩:=lj r1
 exact YB h1 (by refine aa h2 ?_;exact Qz ⟨φ1,M1,q1,Ep,Em⟩)
end
section
variable{g:Gs}{tb:Tb}{K:RH}{Γ:aH}{N:Nm}{n:Nat}{W W' V:P3->Prop}{A:Qx}{fr:List Env}{env:Env}{ρ:an}{φ φ':az}{M M':AH}{s s' sD:PK}{E0:PJ->PK->Prop}
theorem wT:∀{ks:List Str} {es:List Qh} {k:Nat} {x:Str},bY P ks es->ks.Nodup->ks[k]? =some x->∃e,es.find? (·.key.isStr x)=some e/\(es.map (·.val))[k]? =some e.val:=by
 intro ks
 induction ks with
 |nil=>
  intro y1 y2 y3 y4 y5 h
  simp at h
 |cons y ks ih=>
  intro es k x ke nd h
  obtain⟨e,r,rfl,⟨t,hk⟩,_,ke⟩:=ke
  rw[QH] at nd
  cases k with
  |zero=>
   simp at h;subst h
   exact aA e (by refine aa Q4 ?_;refine aa hk ?_;simp[Tk]) rfl
  |succ k=>
   have h':ks[k]? =some x:=by simpa using h
   refine ai (ih ke nd.2 h') λ e' h1 h2=> ?_
   have Fq:y≠x:=λ q=>nd.1 (q▸(PL.mp h').2▸QI _)
   exact aA e' (by refine aa Q4 ?_;refine aa hk ?_;simp only [Tk];refine aa (beq_eq_false_iff_ne.mpr Fq) ?_;exact h1) (by simpa using h2)
theorem wS:∀{ks:List Str} {es:List Qh} {x:Str},bY P ks es->x∉ks->es.find? (·.key.isStr x)=none/\es.any (·.refKey)=false:=by
 intro ks
 induction ks with
 |nil=>
  intro es x ke y1
  subst ke;exact⟨rfl,rfl⟩
 |cons y ks ih=>
  intro es x ke h
  obtain⟨e,r,rfl,⟨t,hk⟩,_,ke⟩:=ke
  obtain⟨h1,h2⟩:=ih ke λ q=>h (.tail _ q)
  have Fq:y≠x:=λ q=>h (q▸.head _)
  exact⟨by refine aa Q4 ?_;refine aa hk ?_;simp only [Tk];refine aa (beq_eq_false_iff_ne.mpr Fq) ?_;exact h1,by refine aa RW ?_;refine aa h2 ?_;simp[Up,hk]⟩
theorem BR(r:VR g.pl g.w.params φ o h x v):handedIn v=true:=by
 cases x
 case none=>subst r;rfl
 case bool=>subst r;rfl
 case int=>obtain⟨t,rfl⟩:=r;rfl
 case str=>obtain⟨_,t,rfl⟩:=r;rfl
 case bytes=>obtain⟨_,t,rfl⟩:=r;rfl
 case fn=>subst r;rfl
 all_goals
  obtain⟨a,e⟩:=wf r rfl
  subst e
  rfl
inductive Cw(g:Gs)(W:P3->Prop)(φ:az)(M:AH)(h:QG)(c:Nat)(vs:List Mine.V)(v:PJ):Prop
 |mk (a d:P3) (es:List Qh) (m:Nat) (C:j7):v=.ref a->h.get? a=some (R2 (g.pl.EB c) d)->h.get? d=some (QM es m)->g.pl.P.cls c=some C->vs.length<=C.fields.length->bY g.w.params ((C.fields.take vs.length).map g.pl.EF) es->am g.pl g.w.params φ (ow W φ M) h vs (es.map (·.val))->Cw g W φ M h c vs v
theorem tT(st:St g.pl g.w.params g.B W fr φ M s)(r:VR g.pl g.w.params φ (ow W φ M) s.heap x v)(h:kI M x=some (c,vs)):Cw g W φ M s.heap c vs v:=by
 cases x<;>first|exact au h|skip
 ·cases h
  obtain⟨a,d,es,m,C,e,_,_,g1,g2,hc,ke,rs⟩:=r
  have e1:=cB ke
  have e2:=rs.length
  rw[PE] at e1 e2
  have e3:vs.length=C.fields.length:=e2.symm.trans e1
  exact⟨a,d,es,m,C,e,g1,g2,hc,S1 e3,by refine aa e3 ?_;refine aa U2 ?_;exact ke,rs⟩
 ·obtain⟨ob,hm,h⟩:=aP h
  cases ob<;>first|exact au h|skip
  cases h
  obtain⟨p,e,_,_,es,m,C,g1,g2,hc,hl,ke,rs⟩:=fY st r hm
  exact⟨p.1,p.2,es,m,C,e,g1,g2,hc,hl,ke,rs⟩
theorem uV(g1:s.heap.get? a=some (R2 (g.pl.EB c) d))(g2:s.heap.get? d=some (QM es m)):
  InstAt s.heap a (R2 (g.pl.EB c) d) (g.pl.EB c) (some (QM es m)):=⟨g1,rfl,rfl,g2⟩
theorem jy{α:Type}{l:List α}(h:l.Nodup)(k:Nat):(l.take k).Nodup:=h.sublist (List.take_sublist _ _)
theorem A0(fx:Fx g tb K)(st:St g.pl g.w.params g.B W fr φ M s)(hx:VR g.pl g.w.params φ (ow W φ M) s.heap x v)(h:nO g.pl.P M a x=some r)
  (q:∀u t,VR g.pl g.w.params φ (ow W φ M) s.heap r u->Q u {s with toks:=t}):PR (PW g.prog g.w) A (getAttr v (g.pl.EF a) ex) Q E0 s:=by
 obtain⟨⟨c,vs⟩,h1,h2⟩:=aP h
 obtain⟨k,h3,h4⟩:=aP h2
 obtain⟨C',h5,h6⟩:=aP h3
 obtain⟨ad,d,es,m,C,rfl,g1,g2,hc,hl,ke,rs⟩:=tT st hx h1
 dsimp only at h4 h5 h6
 rw[hc] at h5
 have e5:=PX h5
 rw[<-e5] at h6
 clear e5 h5
 have ck:=fx.cls c C hc
 have hk:k<vs.length:=(PL.mp h4).1
 have IW:C.fields[k]? =some a:=by
  have EM:k<C.fields.length:=PI hk hl
  refine aa (PG EM) ?_
  have Mb:C.fields.findIdx? (· ==a)=some k:=h6
  refine ai (UC.mp Mb) λ zz h7 zz=> ?_
  refine aa (beq_iff_eq.mp h7) ?_;rfl
 have Ht:((C.fields.take vs.length).map g.pl.EF)[k]? =some (g.pl.EF a):=by refine aa Rh ?_;refine aa (Tf hk) ?_;refine aa IW ?_;rfl
 have nd:((C.fields.take vs.length).map g.pl.EF).Nodup:=by refine aa Uu ?_;exact jy ck.nodup _
 refine ai (wT ke nd Ht) λ e f1 f2=> ?_
 refine ai (rs.get h4) λ u hu ru=> ?_
 rw[f2] at hu;cases hu
 refine ai (Yd ck.cd) λ cd KF Gd=> ?_
 simp only [PY] at Gd
 refine get_value (K:=K) (fx.KS st) (uV g1 g2) ck.Ix ?_ (BR ru) (q e.val _ ru)
 unfold findObj
 refine aa KF ?_;refine aa (Q7 _ _) ?_;refine aa (ck.Ke a (Sw IW)) ?_;refine aa (Q7 _ _) ?_
 dsimp only
 refine aa (Q7 _ _) ?_;refine aa (Q7 _ _) ?_
 dsimp only
 have ho:XD cd (some (QM es m)) (g.pl.EF a)=some (some e.val):=by
  unfold XD lookIn
  refine aa (if_pos Gd.1) ?_
  dsimp only
  refine aa f1 ?_;rfl
 refine aa ho ?_;rfl
theorem aj.attr(fx:Fx g tb K)(ho:aj g Γ N n o xo)(ha:g.pl.EF a=at_)(hb:∀env whole,Vb xo at_ env whole=whole):aj g Γ N n (.attr o a) (.Attribute xo at_ pos):=by
 intro W A fr env ρ φ M s Q X hA hN er st hw
 subst ha
 refine Attribute_any_ (aS (α:=Unit) ho hA hN er st hw (λ v x s1 φ1 M1 q1 Ep Em EA r1=> ?_) λ zz zz e=>e) ?_
 ·refine ai (aD q1) λ r hr q=> ?_
  exact A0 fx Ep r1 hr λ u t ru=>LQ.step Em _ _ (LQ.tk Ep t q ru)
 ·show(Vb xo _ env (eval xo env)>>=_)=_
  refine aa (hb _ _) ?_;rfl
noncomputable def jx(x:P8):Bool:=decide (x.ctorIdx≠26)
theorem gN{T id:String}{Q:PJ->PK->Prop}(hT:s.TypeIs o T)(hl:Yt (.type T) "__getitem__" =pure (some (.builtin id)))
  (hg:PR (PW g.prog g.w) A (getItem o i) Q E0 s)(hs:jx slice=true):PR (PW g.prog g.w) A (Rg value slice o i) Q E0 s:=by
 refine W0 (ops:=[o,i]) hT hl hg ?_
 cases slice<;>first|rfl|exact QS hs
theorem vg:∀{ks:List String} {vs:List Mine.V} {k:String} {r:Mine.V} {us:List PJ} {o:P3->Prop} {h:QG},ay ks vs k=some r->am g.pl g.w.params φ o h vs us->
  ∃u,SO ((ks.map PD).zip us) (PD k)=some u/\VR g.pl g.w.params φ o h r u:=by
 intro ks
 induction ks with
 |nil=>
  intro y1 y2 y3 y4 y5 y6 h y7
  exact au h
 |cons k' ks ih=>
  intro y8
  cases y8 with
  |nil=>
   intro y9 G0 Gt HH Jb h Ja
   exact au h
  |cons x vs=>
   intro k r us o hh h rs
   obtain⟨u,HO,rfl,r1,rs⟩:=rs
   have h:(if k'==k then some x else ay ks vs k)=some r:=h
   unfold SO
   refine aa PP ?_;refine aa Qi ?_;refine aa Q4 ?_
   by_cases e:k'=k
   ·subst e
    rw[if_pos (by simp)] at h;cases h
    exact aA u (by simp) r1
   ·rw[if_neg (by simpa using e)] at h
    refine ai (ih h rs) λ u2 h1 h2=> ?_
    have e2:¬PD k'=PD k:=λ q=>e (cV q)
    exact aA u2 (by simp only [e2,decide_false];exact h1) h2
theorem sY:∀{ks:List Int} {vs:List Mine.V} {k:Int} {r:Mine.V} {us:List PJ} {o:P3->Prop} {h:QG},ci ks vs k=some r->am g.pl g.w.params φ o h vs us->
  ∃u,SO (ks.zip us) k=some u/\VR g.pl g.w.params φ o h r u:=by
 intro ks
 induction ks with
 |nil=>
  intro y1 y2 y3 y4 y5 y6 h y7
  exact au h
 |cons k' ks ih=>
  intro y8
  cases y8 with
  |nil=>
   intro y9 G0 Gt HH Jb h Ja
   exact au h
  |cons x vs=>
   intro k r us o hh h rs
   obtain⟨u,HO,rfl,r1,rs⟩:=rs
   have h:(if k'==k then some x else ci ks vs k)=some r:=h
   unfold SO
   refine aa Qi ?_;refine aa Q4 ?_
   by_cases e:k'=k
   ·subst e
    rw[if_pos (by simp)] at h;cases h
    exact aA u (by simp) r1
   ·rw[if_neg (by simpa using e)] at h
    refine ai (ih h rs) λ u2 h1 h2=> ?_
    exact aA u2 (by simp only [e,decide_false];exact h1) h2
theorem qE{k n:Nat}(h:k<n)(hl:n<=aq):(k:Int)<2^63:=by
 have:k<100000:=PI h hl
 exact ae 0x122c7e0fe722161a814cfd101 rfl k this
set_option tactic.hygienic true in
theorem AJ(fx:Fx g tb K)(st:St g.pl g.w.params g.B W fr φ M s)(hx:VR g.pl g.w.params φ (ow W φ M) s.heap x v)(hy:VR g.pl g.w.params φ (ow W φ M) s.heap y u)
  (h:eh M x y=some r)(hs:jx slice=true)(q:∀z t,VR g.pl g.w.params φ (ow W φ M) s.heap r z->Q z {s with toks:=t}):PR (PW g.prog g.w) A (Rg value slice v u) Q E0 s:=by
 have lst:∀{p:P3} {xs:List PJ} {m:Nat} {vs:List Mine.V} {i:Int} {t:Tok},s.heap.get? p=some (bb xs m)->vs.length<=aq->am g.pl g.w.params φ (ow W φ M) s.heap vs xs->0<=i->vs[i.toNat]? =some r->
   PR (PW g.prog g.w) A (Rg value slice (.ref p) (.int i t)) Q E0 s:=by
  intro p xs m vs i t gg hl rs h0 hi
  refine ai (rs.get hi) λ z hz rz=> ?_
  have EM:=(PL.mp hi).1
  exact gN ⟨_,gg,rfl⟩ Vy.lookup (wpAny_getItem_list (dD gg) h0 (by have:=qE EM hl;exact ae 0x9163f07f4458fc1fce35110 rfl i this) (by simpa using hz) (q z s.toks rz)) hs
 have dS:∀{p:P3} {ks:List String} {vs:List Mine.V} {es:List Qh} {m:Nat} {k:String} {t:Tok},s.heap.get? p=some (QM es m)->ks.Nodup->bY g.w.params (ks.map PD) es->am g.pl g.w.params φ (ow W φ M) s.heap vs (es.map (·.val))->
   ay ks vs k=some r->PR (PW g.prog g.w) A (Rg value slice (.ref p) (.str (PD k) t)) Q E0 s:=by
  intro p ks vs es m k t gg nd ke rs hk
  refine ai (vg hk rs) λ z hz rz=> ?_
  exact gN ⟨_,gg,rfl⟩ YF.lookup (wpAny_getItem_of (WO _ _ _ _) (gL (prog:=g.prog) gg (cJ nd) ke).mapOf hz (q z _ rz)) hs
 cases x<;>first|exact au h|skip
 case bytes b=>
  obtain⟨i,hi,h⟩:=aP h
  obtain⟨h0,h⟩:=eI h
  cases hz:b[i.toNat]? <;>rw[hz] at h<;>first|exact au h|skip;rename_i z;cases h
  obtain⟨hl,t,rfl⟩:=hx
  obtain⟨t',rfl⟩:=isInt hy hi
  have EM:=(PL.mp hz).1
  refine gN (Xw s _ t) TV.lookup (getItem_bytes (PO hl (by decide)) h0 (ae 0x914e45109135111 rfl b.length i EM) ?_) hs
  have e:b.getD i.toNat 0=z:=by refine aa P7 ?_;refine aa hz ?_;rfl
  refine aa e ?_
  exact q _ _ (VR.i ⟨_,rfl⟩)
 case tup vs=>
  obtain⟨i,hi,h⟩:=aP h
  obtain⟨h0,h⟩:=eI h
  obtain⟨a,xs,m,rfl,_,gg,hl,rs⟩:=hx
  obtain⟨t,rfl⟩:=isInt hy hi
  refine ai (rs.get h) λ z hz rz=> ?_
  have EM:=(PL.mp h).1
  have hb:=qE EM hl
  have E5:i.toNat<xs.length:=by refine aa rs.length ?_;exact EM
  refine gN ⟨_,gg,rfl⟩ slot_tuple_getitem.lookup (PySem.P.getItem_tuple (items:=xs.toArray) (n:=m) (k:=i.toNat) gg (ae 0x24444d8fc1fc446010 rfl i h0) (ae 0x9163f07f4458fc1fce35110 rfl i hb) ?_ (by simpa using hz) (q z s.toks rz)) hs
  have hn:¬i<0:=ae 0x926016044446010 rfl i h0
  have OM:i<xs.length:=ae 0x914e45109135111 rfl xs.length i E5
  simp[seqIndex?,hn,h0,OM]
 case list vs=>
  obtain⟨i,hi,h⟩:=aP h
  obtain⟨h0,h⟩:=eI h
  obtain⟨a,xs,m,rfl,_,gg,hl,rs⟩:=hx
  obtain⟨t,rfl⟩:=isInt hy hi
  exact lst gg hl rs h0 h
 case dict ks vs=>
  obtain⟨k,hk,h⟩:=aP h
  cases eR hk
  obtain⟨a,es,m,rfl,_,gg,hl,ke,rs⟩:=hx
  obtain⟨_,t,rfl⟩:=hy
  exact dS gg hl.nd ke rs h
 case ref i=>
  obtain⟨ob,hm,h⟩:=aP h
  obtain⟨p,rfl,_,ro⟩:=fY st hx hm
  cases ob<;>first|exact au h|skip
  case list vs=>
   obtain⟨j,hj,h⟩:=aP h
   obtain⟨h0,h⟩:=eI h
   obtain⟨t,rfl⟩:=isInt hy hj
   obtain⟨_,xs,m,gg,hl,rs⟩:=ro
   exact lst gg hl rs h0 h
  case Er ks vs=>
   obtain⟨k,hk,h⟩:=aP h
   cases eR hk
   obtain⟨_,t,rfl⟩:=hy
   obtain⟨_,es,m,gg,hl,ke,rs⟩:=ro
   exact dS gg hl.nd ke rs h
  case EE ks vs=>
   obtain⟨k,hk,h⟩:=aP h
   obtain⟨t,rfl⟩:=isInt hy hk
   obtain⟨_,es,m,gg,hl,ke,rs⟩:=ro
   refine ai (sY h rs) λ z hz rz=> ?_
   exact gN ⟨_,gg,rfl⟩ YF.lookup (wpAny_getItem_of (WP _ _ _ _) (ib (prog:=g.prog) (w:=g.w) gg hl.nd ke).mapOf hz (q z _ rz)) hs
theorem aj.sub(fx:Fx g tb K)(ho:aj g Γ N n o xo)(hk:aj g Γ N n k xk)(hs:jx xk=true):aj g Γ N n (.sub o k) (.Subscript xo xk pos):=by
 intro W A fr env ρ φ M s Q X hA hN er st hw
 refine YA (aS (α:=Unit) ho hA hN er st hw (λ v x s1 φ1 M1 q1 Ep Em EA r1=>aS (α:=Unit) hk hA hN EA Ep q1 (λ u y s2 φ2 M2 q2 Ez Ey ER r2=> ?_) (LX.step Em)) λ zz zz e=>e)
 refine ai (aD q2) λ r hr q3=> ?_
 exact AJ fx Ez (r1.step Ey bG) r2 hr hs λ z t rz=>LQ.step (Em.trans Ey) _ _ (LQ.tk Ez t q3 rz)
end
noncomputable def vA(g:Gs)(Γ:aH)(N:Nm)(n:Nat):Eo->Option P8->Prop
 |.no,none=>True
 |.yes e,some x=>aj g Γ N n e x
 |_,_=>False
section
variable{g:Gs}{tb:Tb}{K:RH}{Γ:aH}{N:Nm}{n:Nat}{W W' V:P3->Prop}{A:Qx}{fr:List Env}{env:Env}{ρ:an}{φ φ':az}{M M':AH}{s s' sD:PK}{E0:PJ->PK->Prop}
theorem Bf
  (ha:vA g Γ N n e xe)(hA:cj A fr n)(hN:env.scope.names=N)(er:aC g.pl g.w.params W Γ env ρ φ M s.heap)(st:St g.pl g.w.params g.B W fr φ M s)
  (h:yF g.pl.P (ag g.pl.P n) e ρ M Q1 X)
  (k:∀v (x:Option Nat) s1 φ1 M1,Q1 x M1->St g.pl g.w.params g.B W fr φ1 M1 s1->av bt φ M s φ1 M1 s1->aC g.pl g.w.params W Γ env ρ φ1 M1 s1.heap->UH v (x.map QC)->R v s1)
  (he:∀v s',LX g.pl g.w.params g.B W fr g.cls φ M s X v s'->E0 v s'):PR (PW g.prog g.w) A (evalPart xe env) R E0 s:=by
 cases e with
 |no=>
  cases xe with
  |none=>refine aa (W5 _) ?_;exact PB (k _ _ _ _ _ h st .refl er .none)
  |some x=>exact ha.elim
 |yes e=>
  cases xe with
  |none=>exact ha.elim
  |some x=>
   refine aa (evalPart_some _ _) ?_
   refine aS (α:=Unit) ha hA hN er st h (λ v x s1 φ1 M1 q1 Ep Em EA r1=> ?_) he
   refine bz (aD q1) λ m hm zz q=> ?_
   obtain⟨i,hi,hm⟩:=aP hm
   obtain⟨h0,hm⟩:=eI hm
   cases hm
   obtain⟨t,rfl⟩:=isInt r1 hi
   refine k _ _ _ _ _ q Ep Em EA ?_
   show UH _ (some (QC i.toNat))
   refine aa (show QC i.toNat=i from Uo h0) ?_;exact .int i t
theorem pF{n lo:Nat}{hi:Option Nat}{l:Option Nat}(Jh:lo=l.getD 0):∀{α:Type} (xs:List α),xs.length=n->
  ((xs.drop ((l.map QC).elim 0 (Yb n))).take ((hi.map QC).elim n (Yb n)-(l.map QC).elim 0 (Yb n)))=cut xs lo hi:=by
 intro α xs hl
 have e1:(l.map QC).elim 0 (Yb n)=min lo n:=by
  cases l with
  |none=>simp at Jh;subst Jh;simp
  |some a=>simp at Jh;subst Jh;exact clipAt_nat n lo
 refine aa e1 ?_
 cases hi with
 |none=>
  show(xs.drop (min lo n)).take (n-min lo n)=xs.drop lo
  refine aa (Qe (by refine aa Qw ?_;refine aa hl ?_;exact PC _)) ?_
  rcases Wy lo n with h|h
  ·refine aa (TR h) ?_;rfl
  ·refine aa (Tx h) ?_;refine aa (Sb (ae 0x905244349102 rfl xs.length n hl)) ?_;refine aa (Sb (ae 0x92414d105348349103 rfl xs.length n lo hl h)) ?_;rfl
 |some b=>
  show(xs.drop (min lo n)).take (Yb n (QC b)-min lo n)=(xs.take b).drop lo
  refine aa (show Yb n (QC b)=min b n from clipAt_nat n b) ?_;refine aa VJ ?_
  rcases Wy lo n with h|h
  ·refine aa (TR h) ?_
   rcases Wy b n with h'|h'
   ·refine aa (TR h') ?_;rfl
   ·refine aa (Tx h') ?_;refine aa (Qe (by refine aa Qw ?_;refine aa hl ?_;exact PC _)) ?_;refine aa (Qe (by refine aa Qw ?_;refine aa hl ?_;exact ae 0x90424d209344149103 rfl n b lo h')) ?_;rfl
  ·refine aa (Tx h) ?_;refine aa (Sb (ae 0x905244349102 rfl xs.length n hl)) ?_;refine aa (Sb (ae 0x92414d105348349103 rfl xs.length n lo hl h)) ?_;simp
theorem am.take{φ:az}:∀{a:List Mine.V} {xs:List PJ} (k:Nat),am pl P φ o h a xs->am pl P φ o h (a.take k) (xs.take k):=by
 intro a
 induction a with
 |nil=>
  intro y1 y2
  cases y2 with
  |zero=>
   intro y3
   exact rfl
  |succ y4=>
   intro r
   subst r;rfl
 |cons y5 y6 ih=>
  intro y7 y8
  cases y8 with
  |zero=>
   intro y9
   exact rfl
  |succ k=>
   intro r
   exact r.casesOn λ v t e h1 h2=>e▸am.c ⟨v,_,rfl,h1,ih k h2⟩
theorem am.drop{φ:az}:∀{a:List Mine.V} {xs:List PJ} (k:Nat),am pl P φ o h a xs->am pl P φ o h (a.drop k) (xs.drop k):=by
 intro a
 induction a with
 |nil=>
  intro y1 y2
  cases y2 with
  |zero=>
   intro r
   exact r
  |succ y3=>
   intro r
   subst r;rfl
 |cons y4 y5 ih=>
  intro y6 y7
  cases y7 with
  |zero=>
   intro r
   exact r
  |succ k=>
   intro r
   exact r.casesOn λ v t e h1 h2=>e▸ih k h2
theorem am.cut{φ:az}{o:P3->Prop}{a:List Mine.V}{xs:List PJ}{lo:Nat}{hi:Option Nat}(r:am pl P φ o h a xs):am pl P φ o h (Mine.cut a lo hi) (Mine.cut xs lo hi):=by
 cases hi with
 |none=>exact r.drop lo
 |some b=>exact(r.take b).drop lo
theorem am.rev{φ:az}:∀{a:List Mine.V} {xs:List PJ},am pl P φ o h a xs->am pl P φ o h a.reverse xs.reverse:=by
 intro a
 induction a with
 |nil=>
  intro xs r
  subst r;rfl
 |cons x a ih=>
  intro xs r
  obtain⟨v,t,rfl,h1,h2⟩:=r
  refine aa Sd ?_;refine aa Sd ?_
  exact am.append (ih h2) (am.c ⟨v,[],rfl,h1,rfl⟩)
theorem t5{α:Type}{xs:List α}{lo:Nat}{hi:Option Nat}:(Mine.cut xs lo hi).length<=xs.length:=by
 cases hi with
 |none=>show(xs.drop lo).length<=_;refine aa Qw ?_;exact ae 0x144249102 rfl xs.length lo
 |some b=>show((xs.take b).drop lo).length<=_;refine aa Qw ?_;refine aa Q9 ?_;exact ae 0x14824c449103 rfl b xs.length lo
inductive yV(g:Gs)(W:P3->Prop)(φ:az)(M:AH)(h:QG)(vs:List Mine.V)(v:PJ):Prop
 |mk (a:P3) (xs:List PJ) (m:Nat):v=.ref a->h.get? a=some (bb xs m)->vs.length<=aq->am g.pl g.w.params φ (ow W φ M) h vs xs->yV g W φ M h vs v
theorem gJ(st:St g.pl g.w.params g.B W fr φ M s)(r:VR g.pl g.w.params φ (ow W φ M) s.heap x v)(h:dc M x=some vs):yV g W φ M s.heap vs v:=by
 cases x<;>first|exact au h|skip
 ·cases h
  obtain⟨a,xs,m,e,_,gg,hl,rs⟩:=r
  exact⟨a,xs,m,e,gg,hl,rs⟩
 ·obtain⟨ob,hm,h⟩:=aP h
  cases ob<;>first|exact au h|skip
  cases h
  obtain⟨p,e,_,_,xs,m,gg,hl,rs⟩:=fY st r hm
  exact⟨p.1,xs,m,e,gg,hl,rs⟩
theorem uN{z:String}{lo:Nat}(h:lo<=z.length):Wr (PD z) (some (QC lo)) none=PD (RR (z.toList.drop lo)):=by
 have hl:(PD z).length=z.length:=Ra z
 refine aa (slice_from_eq (i:=QC lo) (b:=(PD z).length) (R4 _) (by refine aa hl ?_;exact S3.mpr h) rfl) ?_;refine aa (QB _) ?_;refine aa (QB _) ?_
 simp only [String.toList_ofList,List.map_drop]
 congr 2
 have e1:(QC lo).toNat=lo:=rfl
 refine aa e1 ?_
 refine Qe ?_
 simp[Str.length]
theorem uy(x:Str):Wr x none none=x:=by
 have h:(Uq none none 1 x.length).length=x.length:=by
  unfold Uq sliceRange
  simp only [show(1:Int)>0 by decide,if_true,PE,Sf]
  split<;>(try simp only [WA])<;>(first|(rename_i z0;exact ae 0x344d0a10610a039101 rfl x.length)|(rename_i z0;exact ae 0x24346026014e46001 rfl x.length z0))
 unfold Wr
 refine aa (if_pos (by refine aa h ?_;simp)) ?_;rfl
noncomputable abbrev ki(s:PK)(vl vu:PJ):PK:={s with heap:=s.heap.push {cls:=.type "slice",data:=.fields #[vl,vu,.none]}}
theorem St.sl(st:St g.pl g.w.params g.B W fr φ M s):St g.pl g.w.params g.B W fr φ M (ki s vl vu):=st.Gn λ b o' e=>PA _ e
theorem av.sl:av bt φ M s φ M (ki s vl vu):=.ext (λ b o' e=>PA _ e) rfl rfl
section
variable{v vl vu:PJ}{lo hi:Option Nat}{value:P8}{xl xu:Option P8}{p:Pos}{Q:Mine.V->AH->Prop}
theorem uz{vs:List Mine.V}(st:St g.pl g.w.params g.B W fr φ M s)(hx:yV g W φ M s.heap vs v)(pl:UH vl (lo.map QC))(pu:UH vu (hi.map QC))(q:Q (.list (cut vs (lo.getD 0) hi)) M):
  PR (PW g.prog g.w) A (Rg value (.Slice xl xu none p) v (.ref s.heap.objs.size)) (LQ g.pl g.w.params g.B W fr φ M s Q) E0 (ki s vl vu):=by
 obtain⟨a,xs,m,rfl,gg,hl,rs⟩:=hx
 have NB:=PA {cls:=.type "slice",data:=.fields #[vl,vu,.none]} gg
 refine W0 (ops:=[.ref s.heap.objs.size,.ref a]) ⟨_,NB,rfl⟩ Vy.lookup (WR (dD NB) (Ts ..) pl pu .none (by simp) ?_ (by refine aa PU ?_;refine aa rs.length ?_;exact cG hl)) rfl
 refine aa (slicePick_plain _ _ _) ?_;refine aa (show xs.toArray.toList=xs from rfl) ?_;refine aa (pF (n:=xs.toArray.size) (hi:=hi) (l:=lo) rfl xs rfl) ?_
 exact LQ.step .sl _ _ (LQ.newList st.sl _ q (PO t5 hl) (rs.ext λ b o' e=>PA _ e).cut)
theorem v7{b:List UInt8}(st:St g.pl g.w.params g.B W fr φ M s)(hx:so b v)(pl:UH vl (lo.map QC))(pu:UH vu (hi.map QC))(q:Q (.bytes (cut b (lo.getD 0) hi)) M):
  PR (PW g.prog g.w) A (Rg value (.Slice xl xu none p) v (.ref s.heap.objs.size)) (LQ g.pl g.w.params g.B W fr φ M s Q) E0 (ki s vl vu):=by
 obtain⟨hl,t,rfl⟩:=hx
 refine W0 (ops:=[.ref s.heap.objs.size,.bytes b.toArray t]) (Xw _ _ _) TV.lookup (getItem_meets (Xw _ _ _) (by decide) TV FB.entry_bytes_getitem (FB.args_bytes_getitem_2 _ _) (KBc.meets_slice2 b.toArray t _ pl pu)
  ⟨Ts ..,PO (KBc.size_picked_le _ _ _) (by refine aa PU ?_;exact cG hl),λ t' k=> ?_⟩) rfl
 refine aa (KBc.picked_eq _ _ _) ?_;refine aa (show b.toArray.toList=b from rfl) ?_;refine aa (pF (n:=b.toArray.size) (hi:=hi) (l:=lo) rfl b rfl) ?_
 exact LQ.step .sl _ _ (LQ.tk st.sl k q (VR.y ⟨PO t5 hl,t',rfl⟩))
theorem mV{n:Nat}(st:St g.pl g.w.params g.B W fr φ M s)(hl:z.length<=aq)(ez:Wr (PD z) (l.map (·.1)) none=PD (RR (z.toList.drop n)))(q:Q (.str (RR (z.toList.drop n))) M):
  PR (PW g.prog g.w) A (Rg value (.Slice xl xu none p) (.str (PD z) t) (.ref s.heap.objs.size)) (LQ g.pl g.w.params g.B W fr φ M s Q) E0 (ki s (partValue l) .none):=by
 have hlen:(PD z).length<=Rl:=by refine aa (Ra _) ?_;exact cG hl
 refine W0 (ops:=[.ref s.heap.objs.size,.str (PD z) t]) (typeIs_str _ _ _) F.slot_str_getitem.lookup (wpAny_getItem_str_slice (l:=l) (u:=none) (st:=none) ⟨_,PM _ rfl,rfl,rfl⟩ rfl
  (post_val_or_str ⟨PO (Txt.slice_le _ _ _) hlen,λ t' k=> ?_⟩)) rfl
 refine LQ.step .sl _ _ (LQ.tk st.sl k q (VR.s ⟨?_,t',congrArg (λ y=>U9 y t') ez⟩))
 exact PO (by refine aa String.length_ofList ?_;refine aa Qw ?_;refine aE String.length_toList ?_;exact Nat.sub_le _ _) hl
theorem vZ{z:String}(st:St g.pl g.w.params g.B W fr φ M s)(hx:sj z v)(pl:UH vl (lo.map QC))(pu:UH vu none)(hle:lo.getD 0<=z.length)(q:Q (.str (RR (z.toList.drop (lo.getD 0)))) M):
  PR (PW g.prog g.w) A (Rg value (.Slice xl xu none p) v (.ref s.heap.objs.size)) (LQ g.pl g.w.params g.B W fr φ M s Q) E0 (ki s vl vu):=by
 obtain⟨hl,t,rfl⟩:=hx
 cases pu
 cases lo with
 |none=>cases pl;exact mV (l:=none) st hl ((uy _).trans (congrArg PD (String.ofList_toList).symm)) q
 |some lo=>
  generalize he:(some lo).map QC=li at pl
  cases pl with
  |none=>cases he
  |int i t2=>cases he;exact mV (l:=some (_,t2)) st hl (uN hle) q
theorem v8(st:St g.pl g.w.params g.B W fr φ M s)(hx:VR g.pl g.w.params φ (ow W φ M) s.heap x v)
  (pl:UH vl (lo.map QC))(pu:UH vu (hi.map QC))(h:(dc M x).map (λ vs=>Mine.V.list (cut vs (lo.getD 0) hi))=some r)(q:Q r M):
  PR (PW g.prog g.w) A (Rg value (.Slice xl xu none p) v (.ref s.heap.objs.size)) (LQ g.pl g.w.params g.B W fr φ M s Q) E0 (ki s vl vu):=by
 obtain⟨vs,hv,rfl⟩:=g9 h
 exact uz st (gJ st hx hv) pl pu q
theorem xK(st:St g.pl g.w.params g.B W fr φ M s)(hx:VR g.pl g.w.params φ (ow W φ M) s.heap x v)
  (pl:UH vl (lo.map QC))(pu:UH vu (hi.map QC))(h:mW M x (lo.getD 0) hi=some r)(q:Q r M):
  PR (PW g.prog g.w) A (Rg value (.Slice xl xu none p) v (.ref s.heap.objs.size)) (LQ g.pl g.w.params g.B W fr φ M s Q) E0 (ki s vl vu):=by
 cases x
 case bytes=>cases h;exact v7 st hx pl pu q
 case str=>
  cases hi with
  |some _=>exact au h
  |none=>obtain⟨hle,h⟩:=eI h;cases h;exact vZ st hx pl pu hle q
 all_goals exact v8 st hx pl pu h q
end
theorem aj.slice{lo hi:Eo}{xl xu:Option P8}{p pos:Pos}(ho:aj g Γ N n o xo)(hl:vA g Γ N n lo xl)(hu:vA g Γ N n hi xu):aj g Γ N n (.slice o lo hi) (.Subscript xo (.Slice xl xu none p) pos):=by
 intro W A fr env ρ φ M s Q X hA hN er st hw
 refine YA (aS (α:=Unit) ho hA hN er st hw (λ v x s1 φ1 M1 q1 Ep Em EA r1=>wpAny_Slice (Bf hl hA hN EA Ep q1 (λ vl l s2 φ2 M2 q2 Ez Ey ER pl=>Bf hu hA hN ER Ez q2 (λ vu u s3 φ3 M3 q3 Fh Fi GZ pu=> ?_) (LX.step (Em.trans Ey))) (LX.step Em))) λ zz zz e=>e)
 refine aa (W5 _) ?_
 refine PB ?_
 refine ai (aD q3) λ r hr q=> ?_
 exact PT (xK (E0:=λ zz zz=>False) Fh ((r1.step Ey bG).step Fi bG) pl pu hr q) (LQ.step ((Em.trans Ey).trans Fi)) λ zz zz e=>e.elim
noncomputable def BI(x:P8):Bool:=ga x λ o a zz=>decide (o=.USub)&&cW a λ c zz zz=>decide (c=.int 1)
theorem aj.rev{p pos:Pos}(ho:aj g Γ N n o xo)(hm:BI xs=true):aj g Γ N n (.rev o) (.Subscript xo (.Slice none none (some xs) p) pos):=by
 refine gW (mo:=λ xs=>aj g Γ N n (.rev o) (.Subscript xo (.Slice none none (some xs) p) pos)) hm λ u a pu hm=> ?_
 cases aJ (af hm).1
 refine ct (mo:=λ a=>aj g Γ N n (.rev o) (.Subscript xo (.Slice none none (some (.UnaryOp _ a pu)) p) pos)) (af hm).2 λ c zz zz hm=> ?_
 cases aJ hm
 intro W A fr env ρ φ M s Q X hA hN er st hw
 refine YA (aS (α:=Unit) ho hA hN er st hw (λ v x s1 φ1 M1 q1 Ep Em EA r1=>wpAny_Slice ?_) λ zz zz e=>e)
 refine aa (W5 _) ?_
 refine PB (PB ?_)
 refine aa (evalPart_some _ _) ?_
 refine UnaryOp_ (Vc (neg_int ?_))
 refine ai (aD q1) λ vs hv q=> ?_
 have Ez:St g.pl g.w.params g.B W fr φ1 M1 {s1 with toks:=s1.toks+1+1}:=Ep.tok rfl
 have Ey:av bt φ1 M1 s1 φ1 M1 {s1 with toks:=s1.toks+1+1}:=.tok rfl rfl rfl
 have hk:∀b o',s1.heap.get? b=some o'->(s1.heap.push {cls:=.type "slice",data:=.fields #[.none,.none,.int (-1) (s1.toks+1)]}).get? b=some o':=λ b o' e=>PA _ e
 have Fc:s1.heap.objs.size<=(s1.heap.push {cls:=.type "slice",data:=.fields #[.none,.none,.int (-1) (s1.toks+1)]}).objs.size:=by refine aa (Qb _ _) ?_;exact RP _
 have G2:St g.pl g.w.params g.B W fr φ1 M1 {s1 with heap:=s1.heap.push {cls:=.type "slice",data:=.fields #[.none,.none,.int (-1) (s1.toks+1)]},toks:=s1.toks+1+1}:=Ep.Gn hk
 have Jc:av bt φ1 M1 s1 φ1 M1 {s1 with heap:=s1.heap.push {cls:=.type "slice",data:=.fields #[.none,.none,.int (-1) (s1.toks+1)]},toks:=s1.toks+1+1}:=.ext hk rfl rfl
 obtain⟨a,xs,m,rfl,gg,hl,rs⟩:=gJ G2 (VR.ext hk r1) hv
 have e1:=rs.length
 refine W0 (ops:=[.ref a,.ref s1.heap.objs.size]) ⟨_,gg,rfl⟩ Vy.lookup (WR (dD gg) (Ts ..) .none .none (.int (-1) _) (by decide) ?_ (by refine aa PU ?_;refine aa e1 ?_;exact cG hl)) rfl
 refine aa (krv_pick _) ?_
 exact LQ.step (Em.trans Jc) _ _ (LQ.newList G2 _ q (by refine aa RN ?_;exact hl) rs.rev)
end
section
variable{g:Gs}{tb:Tb}{K:RH}{Γ:aH}{N:Nm}{n:Nat}{W W':P3->Prop}{A:Qx}{fr:List Env}{env:Env}{ρ:an}{φ φ':az}{M M':AH}{s s' sD:PK}{E0:PJ->PK->Prop}
theorem kl{env:Env}:∀{xs:List P8},xs.all aw=true->(Tn pos (Rf xs env)).any (·.1)=false:=by
 intro xs
 induction xs with
 |nil=>
  intro y1
  exact rfl
 |cons x xs ih=>
  intro h
  rw[Uv,PY] at h
  refine aa (bc h.1) ?_
  show(false||(Tn pos (Rf xs env)).any (·.1))=false
  refine aa (ih h.2) ?_;rfl
theorem iR(hx:xs.all aw=true)
  (h:PR M0 A (Vp (Tn pos (Rf xs env))) (λ vs s'=>R ⟨vs,[]⟩ s') E0 s):PR M0 A (evalArgs f true (Tn pos (Rf xs env)) []) R E0 s:=by
 cases xs with
 |nil=>
  have h':PR M0 A (Vp []) (λ vs s'=>R ⟨vs,[]⟩ s') E0 s:=h
  show PR M0 A (evalArgs f true [] []) R E0 s
  unfold evalArgs
  show PR M0 A (Vp []>>=_) R E0 s
  refine Py (PT h' (λ vs s' h'=> ?_) λ zz zz x=>x)
  refine Py (PB ?_)
  refine Qr ?_
  exact Py (PB (Py (PB (PB h'))))
 |cons x xs=>
  rw[Uv,PY] at hx
  rw[bc hx.1] at h ⊢
  exact evalArgs_plain h
theorem gM(fx:Fx g tb K)(hN:env.scope.names=N)(er:aC g.pl g.w.params W Γ env ρ φ M s.heap)(st:St g.pl g.w.params g.B W fr φ M s)
  (hk:N.lookup x=some .globalImplicit)(hv:(x,f)∈jG)(hx:xs.all aw=true)
  (h:PR (PW g.prog g.w) A (Vp (Tn pos (Rf xs env))) (λ vs s1=>PR (PW g.prog g.w) A (call f vs) R E0 s1) E0 s):
  PR (PW g.prog g.w) A (eval (.Call (.Name x p) xs [] pos) env) R E0 s:=by
 refine We rfl (t8 fx hN er st hk hv ?_)
 have hf:decide (f.ctorIdx=8∨f.ctorIdx=9)=true:=QD.mp (show(jG.all λ p=>decide (p.2.ctorIdx=8∨p.2.ctorIdx=9))=true by decide+kernel) _ hv
 revert hv h
 refine(aJ hf).elim (λ h0=>Value.type.elim (motive:=λ f=>_->PR _ _ _ (λ vs s1=>PR _ _ (call f vs) R E0 s1) _ _->PR _ _ (V3 _ f _ _ _) _ _ _) f h0 λ T zz h=> ?_) λ h0=>YM (motive:=λ f=>_->PR _ _ _ (λ vs s1=>PR _ _ (call f vs) R E0 s1) _ _->PR _ _ (V3 _ f _ _ _) _ _ _) f h0 λ i zz h=> ?_
 ·exact PyProof.Rows.callWith_type (kl hx) (iR hx h)
 ·exact callWith_builtin (kl hx) (iR hx h)
theorem zd
  (ha:aj g Γ N n e xe)(hn:aw xe=true)(hA:cj A fr n)(hN:env.scope.names=N)(er:aC g.pl g.w.params W Γ env ρ φ M s.heap)(st:St g.pl g.w.params g.B W fr φ M s)
  (h:aO g.pl.P (ag g.pl.P n) e ρ M Q1 X)
  (k:∀v x s1 φ1 M1,Q1 x M1->St g.pl g.w.params g.B W fr φ1 M1 s1->av bt φ M s φ1 M1 s1->aC g.pl g.w.params W Γ env ρ φ1 M1 s1.heap->VR g.pl g.w.params φ1 (ow W φ1 M1) s1.heap x v->R [v] s1)
  (he:∀v s',LX g.pl g.w.params g.B W fr g.cls φ M s X v s'->E0 v s'):PR (PW g.prog g.w) A (Vp (Tn pos (Rf [xe] env))) R E0 s:=by
 refine aa (bc hn) ?_
 exact spliced_cons (aS (α:=Unit) ha hA hN er st h (λ v x s1 φ1 M1 q Ep Em EA r1=>spliced_nil (k v x s1 φ1 M1 q Ep Em EA r1)) he)
theorem zc{Q1:V->V->AH->Prop}{R:List PJ->PK->Prop}
  (ha:aj g Γ N n a xa)(hb:aj g Γ N n b xb)(na:aw xa=true)(nb:aw xb=true)(hA:cj A fr n)(hN:env.scope.names=N)(er:aC g.pl g.w.params W Γ env ρ φ M s.heap)(st:St g.pl g.w.params g.B W fr φ M s)
  (h:aO g.pl.P (ag g.pl.P n) a ρ M (λ x M1=>aO g.pl.P (ag g.pl.P n) b ρ M1 (λ y M2=>Q1 x y M2) X) X)
  (k:∀v u x y s1 φ1 M1,Q1 x y M1->St g.pl g.w.params g.B W fr φ1 M1 s1->av bt φ M s φ1 M1 s1->aC g.pl g.w.params W Γ env ρ φ1 M1 s1.heap->VR g.pl g.w.params φ1 (ow W φ1 M1) s1.heap x v->VR g.pl g.w.params φ1 (ow W φ1 M1) s1.heap y u->R [v,u] s1)
  (he:∀v s',LX g.pl g.w.params g.B W fr g.cls φ M s X v s'->E0 v s'):PR (PW g.prog g.w) A (Vp (Tn pos (Rf [xa,xb] env))) R E0 s:=by
 refine aa (bc na) ?_;refine aa (bc nb) ?_
 exact spliced_cons (aS (α:=Unit) ha hA hN er st h (λ v x s1 φ1 M1 q Ep Em EA r1=>spliced_cons (aS (α:=Unit) hb hA hN EA Ep q (λ u y s2 φ2 M2 q2 Ez Ey ER r2=>spliced_nil (k v u x y s2 φ2 M2 q2 Ez (Em.trans Ey) ER (r1.step Ey bG) r2)) λ v s' z=>he v s' (LX.step Em v s' z))) he)
theorem qD(h:k<=aq):¬(k:Int)≥2^63:=by have:k<=100000:=h;exact ae 0x124c021c8c7e0fe0e1a814cfd101 rfl k this
set_option tactic.hygienic true in
theorem BB(st:St g.pl g.w.params g.B W fr φ M s)(hx:VR g.pl g.w.params φ (ow W φ M) s.heap x v)(h:BC M x=some k)(q:∀t u,R (.int (k:Int) u) {s with toks:=t}):
  PR (PW g.prog g.w) A (call (.builtin "len") [v]) R E0 s:=by
 have lst:∀{a:P3} {xs:List PJ} {m:Nat} {vs:List Mine.V},vs.length=k->s.heap.get? a=some (bb xs m)->vs.length<=aq->am g.pl g.w.params φ (ow W φ M) s.heap vs xs->PR (PW g.prog g.w) A (call (.builtin "len") [.ref a]) R E0 s:=by
  intro a xs m vs ek gg hl rs
  have e:xs.toArray.size=k:=by refine aa PU ?_;refine aa rs.length ?_;refine aa ek ?_;rfl
  refine call_len_list (dD gg) (by refine aa e ?_;have:=qD (ek▸hl);exact ae 0x9163f07f39126010e463f07f01 rfl k this) ?_
  refine aa e ?_;exact q _ _
 cases x<;>first|exact au h|skip
 case list vs=>obtain⟨a,xs,m,rfl,_,gg,hl,rs⟩:=hx;exact lst (PX h) gg hl rs
 case tup vs=>
  cases h;obtain⟨a,xs,m,rfl,_,gg,hl,rs⟩:=hx
  have e:=rs.length
  refine P.len_tuple (items:=xs.toArray) (n:=m) gg (by refine aa PU ?_;refine aa e ?_;exact qD hl) ?_
  refine aa PU ?_;refine aa e ?_;exact q _ _
 case str z=>
  cases h;obtain⟨hl,t,rfl⟩:=hx
  refine len_str (by refine aa (Ra _) ?_;exact qD hl) ?_
  refine aa (Ra _) ?_;exact q _ _
 case bytes b=>
  cases h;obtain⟨hl,t,rfl⟩:=hx
  refine len_bytes (by refine aa PU ?_;exact PO hl (by decide)) ?_
  refine aa PU ?_;exact q _ _
 case ref i=>
  obtain⟨l,hl,e⟩:=g9 h
  obtain⟨a,xs,m,rfl,gg,hl,rs⟩:=gJ st hx hl
  exact lst e gg hl rs
noncomputable def dG(N:Nm)(x:Str)(f:PJ):Bool:=N.lookup x==some .globalImplicit&&jG.contains (x,f)
theorem cE(h:dG N x f=true):N.lookup x=some .globalImplicit/\(x,f)∈jG:=⟨ar (af h).1,So.mp (af h).2⟩
theorem oD(h:aw x=true):[x].all aw=true:=by simp[h]
theorem n6(h:aw x=true)(h':aw y=true):[x,y].all aw=true:=by simp[h,h']
theorem aj.Jn(fx:Fx g tb K){F:Mine.V->AH->(Mine.V->AH->Prop)->Prop}(ha:aj g Γ N n a xa)(hs:aw xa=true)(hb:dG N x f=true)
  (hw:∀ρ M Q X,aO g.pl.P (ag g.pl.P n) e ρ M Q X->aO g.pl.P (ag g.pl.P n) a ρ M (λ v M1=>F v M1 Q) X)
  (k:∀{W A fr φ M s Q v x},A.handled=none->St g.pl g.w.params g.B W fr φ M s->VR g.pl g.w.params φ (ow W φ M) s.heap x v->F x M Q->PR (PW g.prog g.w) A (call f [v]) (LQ g.pl g.w.params g.B W fr φ M s Q) (λ zz zz=>False) s):
  aj g Γ N n e (.Call (.Name x p) [xa] [] pos):=by
 intro W A fr env ρ φ M s Q X hA hN er st h
 exact gM fx hN er st (cE hb).1 (cE hb).2 (oD hs) (zd ha hs hA hN er st (hw _ _ _ _ h) (λ v x s1 φ1 M1 q1 Ep Em EA r1=>PT (k hA.handled Ep r1 q1) (LQ.step Em) λ zz zz e=>e.elim) λ zz zz e=>e)
theorem aj.NH(fx:Fx g tb K){F:Mine.V->Mine.V->AH->(Mine.V->AH->Prop)->Prop}(ha:aj g Γ N n a xa)(hb:aj g Γ N n b xb)(na:aw xa=true)(nb:aw xb=true)(hbi:dG N x f=true)
  (hw:∀ρ M Q X,aO g.pl.P (ag g.pl.P n) e ρ M Q X->aO g.pl.P (ag g.pl.P n) a ρ M (λ v M1=>aO g.pl.P (ag g.pl.P n) b ρ M1 (λ u M2=>F v u M2 Q) X) X)
  (k:∀{W A fr φ M s Q v u x y},A.handled=none->St g.pl g.w.params g.B W fr φ M s->VR g.pl g.w.params φ (ow W φ M) s.heap x v->VR g.pl g.w.params φ (ow W φ M) s.heap y u->F x y M Q->PR (PW g.prog g.w) A (call f [v,u]) (LQ g.pl g.w.params g.B W fr φ M s Q) (λ zz zz=>False) s):
  aj g Γ N n e (.Call (.Name x p) [xa,xb] [] pos):=by
 intro W A fr env ρ φ M s Q X hA hN er st h
 exact gM fx hN er st (cE hbi).1 (cE hbi).2 (n6 na nb) (zc ha hb na nb hA hN er st (hw _ _ _ _ h) (λ v u x y s1 φ1 M1 q1 Ep Em EA r1 r2=>PT (k hA.handled Ep r1 r2 q1) (LQ.step Em) λ zz zz e=>e.elim) λ zz zz e=>e)
theorem aj.len(fx:Fx g tb K)(ha:aj g Γ N n a xa)(hs:aw xa=true)(hb:dG N x (.builtin "len")=true):aj g Γ N n (.len a) (.Call (.Name x p) [xa] [] pos):=
 .Jn fx ha hs hb (λ zz zz zz zz h=>h) λ zz st r q=>by
  refine ai (aD q) λ k hk q=> ?_
  exact BB st r hk λ t u=>LQ.int st t q u
theorem aj.abs(fx:Fx g tb K)(ha:aj g Γ N n a xa)(hs:aw xa=true)(hb:dG N x (.builtin "abs")=true):aj g Γ N n (.abs a) (.Call (.Name x p) [xa] [] pos):=
 .Jn fx ha hs hb (λ zz zz zz zz h=>h) λ zz st r q=>by
  refine ai (aD q) λ i hi q=> ?_
  obtain⟨t,rfl⟩:=isInt r hi
  refine call_abs_int λ u tk=> ?_
  refine aa (show(if i<0 then-i else i)=(i.natAbs:Int) by split<;>(first|(rename_i z0;exact ae 0x24638e44d44581110 rfl i z0)|(rename_i z0;exact ae 0x918e39144980581110 rfl i z0))) ?_
  exact LQ.int st _ q u
theorem aj.intOf(fx:Fx g tb K)(ha:aj g Γ N n a xa)(hs:aw xa=true)(hb:dG N x (.type "int")=true):aj g Γ N n (.intOf a) (.Call (.Name x p) [xa] [] pos):=
 .Jn fx ha hs hb (λ zz zz zz zz h=>h) λ{W A fr φ M s Q v y} _ st r q=>by
  refine ai (aD q) λ i hi q=> ?_
  cases y<;>first|exact au hi|skip
  ·cases hi;subst r;exact call_int_bool (LQ.int st _ q _)
  ·cases hi;obtain⟨t,rfl⟩:=r;exact call_int_int (LQ.int st _ q t)
theorem jE{h':QG}{t:Nat}(hk:∀b o,s.heap.get? b=some o->h'.get? b=some o)(st:St g.pl g.w.params g.B W fr φ M s):
  St g.pl g.w.params g.B W fr φ M {s with heap:=h',toks:=t}/\av bt φ M s φ M {s with heap:=h',toks:=t}:=⟨st.Gn hk,.ext hk rfl rfl⟩
theorem tN{α:Type}[Decidable c]{a b:α}:(if decide c=true then a else b)=if c then a else b:=by by_cases h:c<;>simp[h]
theorem aj.max2(fx:Fx g tb K)(ha:aj g Γ N n a xa)(hb:aj g Γ N n b xb)(na:aw xa=true)(nb:aw xb=true)(hbi:dG N x (.builtin "max")=true):aj g Γ N n (.max2 a b) (.Call (.Name x p) [xa,xb] [] pos):=
 .NH fx ha hb na nb hbi (λ zz zz zz zz h=>h) λ hh st r1 r2 q=>by
  refine ai (aD q) λ i hi q=> ?_
  refine ai (aD q) λ j hj q=> ?_
  obtain⟨t,rfl⟩:=isInt r1 hi
  obtain⟨t',rfl⟩:=isInt r2 hj
  refine PySem.Flt.max_two_num hh (.int i t) (.int j t') λ h' tk hk=> ?_
  obtain⟨Ez,Ey⟩:=jE (t:=tk) hk st
  show LQ _ _ _ _ _ _ _ _ _ (if decide (i<j) then _ else _) _
  by_cases e:i<j
  ·rw[if_pos e] at q
   refine aa (if_pos (decide_eq_true e)) ?_
   exact LQ.step Ey _ _ (LQ.int Ez _ q _)
  ·rw[if_neg e] at q
   refine aa tN ?_;refine aa (if_neg e) ?_
   exact LQ.step Ey _ _ (LQ.int Ez _ q _)
theorem aj.min2(fx:Fx g tb K)(ha:aj g Γ N n a xa)(hb:aj g Γ N n b xb)(na:aw xa=true)(nb:aw xb=true)(hbi:dG N x (.builtin "min")=true):aj g Γ N n (.min2 a b) (.Call (.Name x p) [xa,xb] [] pos):=
 .NH fx ha hb na nb hbi (λ zz zz zz zz h=>h) λ hh st r1 r2 q=>by
  refine ai (aD q) λ i hi q=> ?_
  refine ai (aD q) λ j hj q=> ?_
  obtain⟨t,rfl⟩:=isInt r1 hi
  obtain⟨t',rfl⟩:=isInt r2 hj
  refine PySem.Flt.min_two_num hh (.int i t) (.int j t') λ h' tk hk=> ?_
  obtain⟨Ez,Ey⟩:=jE (t:=tk) hk st
  show LQ _ _ _ _ _ _ _ _ _ (if decide (j<i) then _ else _) _
  by_cases e:j<i
  ·rw[if_pos e] at q
   refine aa (if_pos (decide_eq_true e)) ?_
   exact LQ.step Ey _ _ (LQ.int Ez _ q _)
  ·rw[if_neg e] at q
   refine aa tN ?_;refine aa (if_neg e) ?_
   exact LQ.step Ey _ _ (LQ.int Ez _ q _)
theorem aj.E8(fx:Fx g tb K)(ha:aj g Γ N n a xa)(hs:aw xa=true)(hb:dG N x (.type "tuple")=true):aj g Γ N n (.E8 a) (.Call (.Name x p) [xa] [] pos):=
 .Jn fx ha hs hb (λ zz zz zz zz h=>h) λ{W A fr φ M s Q v y} _ st r q=>by
  refine ai (aD q) λ vs hv q=> ?_
  obtain⟨c,xs,m,rfl,gg,hl,rs⟩:=gJ st r hv
  refine PySem.call_tuple_list (dD gg) (λ h' hk=> ?_) (by refine aa PU ?_;refine aa rs.length ?_;exact cG hl)
  obtain⟨Ez,Ey⟩:=jE (t:=s.toks) hk st
  exact LQ.step Ey _ _ (LQ.Gz Ez s.toks q hl (rs.step Ey bG))
theorem mj:∀{vs:List Mine.V} {is:List Int} {xs:List PJ},ints? vs=some is->am pl P φ o h vs xs->WZ xs is:=by
 intro vs
 induction vs with
 |nil=>
  intro is xs e r
  cases e;subst r;exact .nil
 |cons v vs ih=>
  intro is xs e r
  obtain⟨i,hi,e⟩:=aP e
  obtain⟨is',he,rfl⟩:=g9 e
  obtain⟨y,t,rfl,r1,r2⟩:=r
  obtain⟨tk,rfl⟩:=isInt r1 hi
  exact .cons i tk (ih he r2)
structure D1(is:List Int)(b:List UInt8):Prop where
 low:∀n∈is,0<=n/\n<256
 arr:is.map (λ n=>SH n.toNat)=b
theorem td:∀{is:List Int} {b:List UInt8},dY is=some b->D1 is b:=by
 intro is
 induction is with
 |nil=>
  intro b e
  exact⟨λ zz h=>(nomatch h),PX e⟩
 |cons i is ih=>
  intro b e
  obtain⟨hi,e⟩:=eI e
  obtain⟨b',he,rfl⟩:=g9 e
  obtain⟨h1,h2⟩:=ih he
  exact⟨TU.mpr ⟨hi,h1⟩,congrArg (List.cons _) h2⟩
theorem rQ:Yt (.type "bytes") "__bytes__" =pure (some (.builtin "bytes.__bytes__")):=by refine aa (typeLookup_type _ _) ?_;refine aa builtinLookup_eq_fast ?_;kernel_rfl
theorem oR(h:Q (.bytes b t) s):
  Sh (PW g.prog g.w) A (.call (.builtin "bytes.__new__") ⟨[.type "bytes",.bytes b t],[]⟩) (wants Q E0) s:=by
 refine Wh ?_
 show PR _ A.in1 (do VW "bytes.__new__" ⟨[.type "bytes",.bytes b t],[]⟩;again (.builtin "bytes.__new__" ⟨[.type "bytes",.bytes b t],[]⟩)) _ _ s
 refine Py (Rq (PySem.F.bm_newCall _) (PB ⟨plainId_quiet WS _,codeAny_builtin PySem.F.bm_entry ?_⟩))
 refine aa (Around.under_plainId WS _) ?_
 unfold Builtin.«bytes.__new__»
 refine Py (Rq (a:=true) rfl ?_)
 refine XW rfl ?_
 refine Py (Rq PySem.F.bm_sub ?_)
 refine XW rfl ?_
 refine Py (Rq (PySem.F.bm_bind _) ?_)
 refine Py (Rq (a:=()) rfl ?_)
 refine Py (Rq (a:=()) rfl ?_)
 refine XW rfl ?_
 refine Py (wpAny_specialOf (TE _ _ _) rQ ?_)
 refine Py (TC ?_)
 refine Py (wpAny_typeOf (TE _ _ _) ?_)
 refine bm_if_true rfl ?_
 exact PB h
theorem vm(h:Q (.bytes b t) s):PR (PW g.prog g.w) A (call (.type "bytes") [.bytes b t]) Q E0 s:=by
 refine callType_codes (Q₁:=λ obj s₁=>s₁.TypeIs obj "bytes" /\Q obj s₁) Un (PySem.F.bm_typeCall _) PySem.F.entry_object_init
  (oR ⟨TE _ _ _,h⟩) λ obj s₁ h₁=> ?_
 exact cg h₁.1 (PySem.F.args_object_init_2 obj _) (object_init_meets Un.init.lookup Un.made (by decide) _ _ A.in1 _ s₁ ⟨h₁.1,rfl,h₁.2⟩)
theorem aj.bytesOf(fx:Fx g tb K)(ha:aj g Γ N n a xa)(hs:aw xa=true)(hb:dG N x (.type "bytes")=true):aj g Γ N n (.bytesOf a) (.Call (.Name x p) [xa] [] pos):=
 .Jn fx ha hs hb (λ zz zz zz zz h=>h) λ{W A fr φ M s Q v y} hh st r q=>by
  refine ai (aD q) λ b hv q=> ?_
  cases hy:nR y with
  |some b'=>
   cases rZ hy
   cases hv
   obtain⟨hl,t,rfl⟩:=r
   exact vm (LQ.here st q (VR.y ⟨hl,t,rfl⟩))
  |none=>
   have hv:((dc M y).bind λ vs=>(ints? vs).bind dY)=some b:=by cases y<;>first|exact au hy.symm|exact hv
   obtain⟨vs,h1,h2⟩:=aP hv
   obtain⟨is,h3,h4⟩:=aP h2
   obtain⟨c,xs,m,rfl,gg,hl,rs⟩:=gJ st r h1
   obtain⟨b1,rfl⟩:=td h4
   have hi:=mj h3 rs
   refine call_bytes_ints (dD gg) hi b1 (by refine aa rs.length ?_;exact cG hl) hh λ h' t k hk=> ?_
   obtain⟨Ez,Ey⟩:=jE (t:=k) hk st
   exact LQ.step Ey _ _ (LQ.here Ez q (VR.y ⟨by refine aa (PE _) ?_;refine aE hi.length ?_;refine aa rs.length ?_;exact hl,t,rfl⟩))
theorem aj.sum(fx:Fx g tb K)(ha:aj g Γ N n a xa)(hs:aw xa=true)(hb:dG N x (.builtin "sum")=true):aj g Γ N n (.sum a) (.Call (.Name x p) [xa] [] pos):=
 .Jn fx ha hs hb (λ zz zz zz zz h=>h) λ hh st r q=>by
  refine ai (aD q) λ is hv q=> ?_
  obtain⟨vs,h1,h3⟩:=aP hv
  obtain⟨c,xs,m,rfl,gg,hl,rs⟩:=gJ st r h1
  have hi:=mj h3 rs
  obtain⟨zs,hz⟩:=hi.allInts.items
  have gl:=dD gg
  rw[hz] at gl
  refine sum_intListG hh gl λ h' tk t' hk=> ?_
  obtain⟨Ez,Ey⟩:=jE (t:=tk) hk st
  have e:preSum (numAt zs) zs.size=is.sum:=by
   refine aa (preSum_eq _ _) ?_;refine aa (Qe (by simp)) ?_;refine aE (nums_intItems _) ?_;refine aE hz ?_;refine aa (show xs.toArray.toList=xs from rfl) ?_;refine aa hi.numsOf ?_;rfl
  refine aa e ?_
  exact LQ.step Ey _ _ (LQ.int Ez _ q t')
end
noncomputable def mD:Ty->String|.tbool=> "bool" |.tint=> "int" |.tlist=> "list" |.tdict=> "dict" |.cls _=> ""
noncomputable def jo(pl:Pl):Ty->PJ|.cls c=>.ref (pl.EB c)|t=>.type (mD t)
noncomputable def eE(x:P8):Bool:=decide (x.ctorIdx≠16)||kB x λ zz xs kw zz=> !(xs.isEmpty&&kw.isEmpty)
set_option tactic.hygienic true in
theorem kQ(h:eE x=true)(attr:Str)(env:Env)(whole:Sem PJ):Vb x attr env whole=whole:=by
 cases x<;>first|rfl|skip
 rename_i f xs kw p
 cases f<;>first|rfl|skip
 cases xs with
 |cons _ _=>rfl
 |nil=>
  cases kw with
  |cons _ _=>rfl
  |nil=>exact QS h
section
variable{g:Gs}{tb:Tb}{K:RH}{Γ:aH}{N:Nm}{n:Nat}{W W':P3->Prop}{A:Qx}{fr:List Env}{env:Env}{ρ:an}{φ φ':az}{M M':AH}{s s' sD:PK}{E0:PJ->PK->Prop}
theorem BU{env:Env}:∀{xs:List P8},xs.all aw=true->(Tn pos (Rf xs env)).all (λ x=> !x.1)=true:=by
 intro xs
 induction xs with
 |nil=>
  intro y1
  exact rfl
 |cons x xs ih=>
  intro h
  refine aa (bc (af h).1) ?_
  exact ih (af h).2
theorem g8(hb:eE o=true)(hx:args.all aw=true)(hn:args.length<30)(hl:(apos.endLine==pos.line)=true)
  (h:PR M0 A (eval o env) (λ ov s₁=>PR M0 A (getMethod ov name (do return (<-importBound o env).getD true)) (λ fx s₂=>PR M0 A (V3 pos fx.1 fx.2 (Tn pos (Rf args env)) []) R E0 s₂) E0 s₁) E0 s):
  PR M0 A (eval (.Call (.Attribute o name apos) args [] pos) env) R E0 s:=by
 show PR M0 A (Vb o name env (eval o env)>>=λ ov=>Su apos.atName>>=λ zz=>methodCall o name apos pos env ov (args.length+([]:List Keyword).length) (Tn pos (Rf args env)) (backToKw pos (keywordEach [] env))) R E0 s
 refine aa ((kQ hb) _ _ _) ?_
 refine Py (PT h (λ ov s₁ h₁=>Py (QF ?_)) λ zz zz e=>e)
 have JX:methodCallForm (args.length+([]:List Keyword).length) (Tn pos (Rf args env)) (backToKw pos (keywordEach [] env))=true:=by
  unfold methodCallForm
  refine aa (BU hx) ?_
  show(true&&true&&decide (args.length+0+0<30))=true
  simp[hn]
 have Lp:methodCallPos true o env apos pos=pure pos:=by unfold methodCallPos;simp[hl]
 unfold methodCall
 refine aa JX ?_
 refine Py (Qr (PT h₁ (λ fx s₂ h₂=> ?_) λ zz zz e=>e))
 exact Py (Rq Lp h₂)
theorem sX:∀{ks:List String} {vs:List Mine.V} {k:String} {us:List PJ} {o:P3->Prop} {h:QG},us.length=ks.length->am g.pl g.w.params φ o h vs us->
  VR g.pl g.w.params φ o h ((ay ks vs k).getD .none) ((SO ((ks.map PD).zip us) (PD k)).getD .none):=by
 intro ks
 induction ks with
 |nil=>
  intro vs k us o h hl rs
  cases vs<;>exact(show VR _ _ _ _ _ .none .none from rfl)
 |cons k' ks ih=>
  intro y1
  cases y1 with
  |nil=>
   intro k us o h hl rs
   subst rs;cases hl
  |cons x vs=>
   intro k us o hh hl rs
   obtain⟨u,HO,rfl,r1,rs⟩:=rs
   unfold SO
   refine aa PP ?_;refine aa Qi ?_;refine aa Q4 ?_
   show VR _ _ _ _ _ ((if k'==k then some x else ay ks vs k).getD .none) _
   by_cases e:k'=k
   ·subst e
    refine aa (if_pos (beq_iff_eq.mpr rfl)) ?_;refine aa (decide_eq_true rfl) ?_
    exact r1
   ·refine aa (if_neg λ q=>e (beq_iff_eq.mp q)) ?_;refine aa (decide_eq_false λ q=>e (cV q)) ?_
    exact ih (To hl) rs
theorem rH:∀{ks:List Int} {vs:List Mine.V} {k:Int} {us:List PJ} {o:P3->Prop} {h:QG} {d:Mine.V} {dv:PJ},us.length=ks.length->am g.pl g.w.params φ o h vs us->VR g.pl g.w.params φ o h d dv->
  VR g.pl g.w.params φ o h ((ci ks vs k).getD d) ((SO (ks.zip us) k).getD dv):=by
 intro ks
 induction ks with
 |nil=>
  intro vs k us o h d dv hl rs rd
  cases vs<;>exact rd
 |cons k' ks ih=>
  intro y1
  cases y1 with
  |nil=>
   intro k us o h d dv hl rs rd
   subst rs;cases hl
  |cons x vs=>
   intro k us o hh d dv hl rs rd
   obtain⟨u,HO,rfl,r1,rs⟩:=rs
   unfold SO
   refine aa Qi ?_;refine aa Q4 ?_
   show VR _ _ _ _ _ ((if k'==k then some x else ci ks vs k).getD d) _
   by_cases e:k'=k
   ·subst e
    refine aa (if_pos (beq_iff_eq.mpr rfl)) ?_;refine aa (decide_eq_true rfl) ?_
    exact r1
   ·refine aa (if_neg λ q=>e (beq_iff_eq.mp q)) ?_;refine aa (decide_eq_false e) ?_
    exact ih (To hl) rs rd
theorem lP(hd:s.heap.get? d=some (QM es m))(h:R (.builtin "dict.get",[.ref d]) s):PR (PW g.prog g.w) A (getMethod (.ref d) "get" pl) R E0 s:=
 YG ⟨_,hd,rfl⟩ PySem.F.plainAttrs_dict PySem.F.slot_dict_get PySem.F.type_dict_get (λ a e=>by cases e;exact aA _ hd rfl) h
theorem rY(h:pY v=some d):v=.dict d.1 d.2:=by cases v<;>first|exact au h|(cases h;rfl)
theorem rW(h:vr v=some i):v=.ref i:=by cases v<;>first|exact au h|(cases h;rfl)
theorem A1(h:vt v=some d):v=.EE d.1 d.2:=by cases v<;>first|exact au h|(cases h;rfl)
inductive CA(g:Gs)(W:P3->Prop)(φ:az)(M:AH)(h:QG)(d:List Int×List Mine.V)(v:PJ):Prop
 |mk (a:P3) (es:List Qh) (n:Nat):v=.ref a->h.get? a=some (QM es n)->Dx a d.1->iG d.1 es->am g.pl g.w.params φ (ow W φ M) h d.2 (es.map (·.val))->CA g W φ M h d v
theorem zI(st:St g.pl g.w.params g.B W fr φ M s)(r:VR g.pl g.w.params φ (ow W φ M) s.heap x v)(h:uE M x=some d):CA g W φ M s.heap d v:=by
 obtain⟨i,hi,h1⟩:=aP h
 obtain⟨ob,hm,h2⟩:=aP h1
 cases rW hi
 cases A1 h2
 obtain⟨p,e,_,_,es,m,gg,hl,ke,rs⟩:=fY st r hm
 exact⟨p.1,es,m,e,gg,hl,ke,rs⟩
set_option tactic.hygienic true in
theorem aj.GI(fx:Fx g tb K)(ho:aj g Γ N n o xo)(hk:aj g Γ N n k xk)(hb:eE xo=true)(hs:aw xk=true)(hl:(apos.endLine==pos.line)=true):
  aj g Γ N n (.GI o k) (.Call (.Attribute xo "get" apos) [xk] [] pos):=by
 intro W A fr env ρ φ M s Q X hA hN er st hw
 refine g8 hb (oD hs) (show 1<30 by decide) hl (aS (α:=Unit) ho hA hN er st hw (λ v x s1 φ1 M1 q1 Ep Em EA r1=> ?_) λ zz zz e=>e)
 obtain⟨hd,q1⟩:=q1
 obtain⟨d,hd⟩:=P2.mp hd
 cases rY hd
 obtain⟨a,es,m,rfl,_,gg,hl,_⟩:=id r1
 refine lP gg ?_
 show PR _ _ (V3 pos _ _ (Tn pos (Rf [xk] env)) []) _ _ _
 refine aa (bc hs) ?_
 refine wpAny_dict_get1 (knd:=strKind g.prog g.w) hl.1 (aS (α:=Unit) hk hA hN EA Ep q1 (λ u y s2 φ2 M2 q2 Ez Ey ER r2=> ?_) (LX.step Em))
 refine ai (aD q2) λ r hr q=> ?_
 have hr:(match cF y with|some s=>some (ay d.1 d.2 s)|none=>none)=some r:=hr
 cases hk:cF y<;>rw[hk] at hr<;>first|exact au hr|skip;rename_i k;cases hr
 cases eR hk
 obtain⟨a',es,m,e,_,gg,hl,ke,rs⟩:=r1.step Ey bG
 cases e
 obtain⟨_,t,rfl⟩:=r2
 exact rn (PD k) _ (WO _ _ _ _) ((gL (prog:=g.prog) gg (cJ hl.nd) ke).mapOf) (LQ.step (Em.trans Ey) _ _ (LQ.tk Ez _ q (sX (by refine aa (PE _) ?_;refine aa (cB ke) ?_;refine aa (PE _) ?_;rfl) rs)))
set_option tactic.hygienic true in
theorem aj.FN(fx:Fx g tb K)(ho:aj g Γ N n o xo)(hk:aj g Γ N n k xk)(he:aj g Γ N n e xe)(hb:eE xo=true)(hs:aw xk=true)(FZ:aw xe=true)(hl:(apos.endLine==pos.line)=true):
  aj g Γ N n (.FN o k e) (.Call (.Attribute xo "get" apos) [xk,xe] [] pos):=by
 intro W A fr env ρ φ M s Q X hA hN er st hw
 refine g8 hb (n6 hs FZ) (show 2<30 by decide) hl (aS (α:=Unit) ho hA hN er st hw (λ v x s1 φ1 M1 q1 Ep Em EA r1=> ?_) λ zz zz e=>e)
 obtain⟨hd,q1⟩:=q1
 obtain⟨d,hd⟩:=P2.mp hd
 obtain⟨a,es,m,rfl,gg,hl,_⟩:=zI Ep r1 hd
 refine lP gg ?_
 show PR _ _ (V3 pos _ _ (Tn pos (Rf [xk,xe] env)) []) _ _ _
 refine aa (bc hs) ?_;refine aa (bc FZ) ?_
 refine wpAny_dict_get2 (knd:=TM g.prog g.w) hl.1 (aS (α:=Unit) hk hA hN EA Ep q1 (λ u y s2 φ2 M2 q2 Ez Ey ER r2=>aS (α:=Unit) he hA hN ER Ez q2 (λ w z s3 φ3 M3 q3 Fh Fi GZ r3=> ?_) (LX.step (Em.trans Ey))) (LX.step Em))
 refine ai (aD q3) λ r hr q=> ?_
 obtain⟨d2,hd,hr⟩:=aP hr
 have hr:(match aM y with|some s=>some (ci d2.1 d2.2 s)|none=>none)=some r:=hr
 cases hk:aM y<;>rw[hk] at hr<;>first|exact au hr|skip;rename_i k;cases hr
 obtain⟨t,rfl⟩:=isInt (r2.step Fi bG) hk
 obtain⟨a',es,m,e,gg,hl,ke,rs⟩:=zI Fh ((r1.step Ey bG).step Fi bG) hd
 cases e
 exact rn k _ (WP _ _ _ _) ((ib (prog:=g.prog) (w:=g.w) gg hl.nd ke).mapOf) (LQ.step ((Em.trans Ey).trans Fi) _ _ (LQ.tk Fh _ q (rH (by refine aa (PE _) ?_;refine aa (gh ke) ?_;rfl) rs r3)))
noncomputable abbrev uI(s:PK)(a:P3):PK:={s with heap:=s.heap.update a (Q0 λ xs=>xs.eraseIdxIfInBounds 0),toks:=s.toks+1}
theorem Bm(gg:s.heap.get? a=some (bb (u::us) m)):∃m',(uI s a).heap.get? a=some (bb us m'):=by
 obtain⟨n',Jj⟩:=Obj.data_mapSeq (o:=bb (u::us) m) (xs:=(u::us).toArray) (n:=m) rfl (λ xs=>xs.eraseIdxIfInBounds 0)
 refine⟨n',(P5 _ gg (Obj.isFreed_of_seq Jj)).trans (congrArg some ?_)⟩
 have hc:=Obj.cls_mapSeq (bb (u::us) m) (λ xs=>xs.eraseIdxIfInBounds 0)
 rw[show(u::us).toArray.eraseIdxIfInBounds 0=us.toArray by simp] at Jj
 generalize hq:Q0 (λ xs=>xs.eraseIdxIfInBounds 0) (bb (u::us) m)=z at Jj hc
 obtain⟨c1,c2,c3,c4⟩:=z
 cases Jj
 cases hc
 have h2:c2=none:=by have:=congrArg Obj.dict hq;simpa[Q0] using this.symm
 have h4:c4= #[]:=by have:=congrArg Obj.slots hq;simpa[Q0] using this.symm
 refine aa h2 ?_;refine aa h4 ?_;rfl
set_option tactic.hygienic true in
theorem Au(h:Bn o=some (y,ys)):o=.list (y::ys):=by
 cases o<;>first|exact au h|skip
 rename_i vs
 cases vs with
 |nil=>exact au h
 |cons _ _=>cases h;rfl
theorem aj.Gw(fx:Fx g tb K)(ha:aj g Γ N n a xa)(hb:eE xa=true)(hl:(apos.endLine==pos.line)=true):
  aj g Γ N n (.Gw a) (.Call (.Attribute xa "pop" apos) [.Constant (.int 0) k p] [] pos):=by
 intro W A fr env ρ φ M s Q X hA hN er st hw
 refine g8 hb rfl (show 1<30 by decide) hl (aS (α:=Unit) ha hA hN er st hw (λ v x s1 φ1 M1 q1 Ep Em EA r1=> ?_) λ zz zz e=>e)
 clear hw er st EA ha hb hl
 refine ai (aD q1) λ i hi q1=> ?_
 refine ai (aD q1) λ HQ ho q=> ?_;rcases HQ with⟨y,ys⟩
 cases rW hi
 obtain⟨o,hm,ho⟩:=aP ho
 cases Au ho
 obtain⟨p1,rfl,hp,e2,xs,m,gg,hlen,u,HO,rfl,ru,Kr⟩:=fY Ep r1 hm
 refine YG ⟨_,gg,rfl⟩ PySem.F.plainAttrs_list V1 PySem.F.type_list_pop (λ a e=>by cases e;exact aA _ gg rfl) ?_
 refine callWith_builtin rfl (evalArgs_plain (spliced_cons (Vc (k:=k) (pos:=p) (spliced_nil ?_))))
 have Fc:(u::HO).toArray.size<=Rl:=by refine aa PU ?_;refine aa PN ?_;refine aa Kr.length ?_;exact cG hlen
 refine call_meets V1 ⟨_,gg,rfl⟩ PySem.F.entry_list_pop (PySem.F.args_list_pop_2 _ _) (Yq p1.1 (u::HO).toArray m 0 s1.toks 0 u (by decide) (by simp[seqIndex?]) rfl Fc) ⟨gg,?_⟩
 obtain⟨m',g2⟩:=Bm gg
 have hs:Qp p1.1 s1.heap (uI s1 p1.1).heap:=Qy ..
 have Hm:ow W φ1 M1 p1.1:=.inr (cY (by refine aa hm ?_;rfl) hp).1
 have Ff:∀b o,s1.heap.get? b=some o->¬ow W φ1 M1 b->b7 o ((uI s1 p1.1).heap.get? b):=λ b o e n=>.inl ((hs.2 b λ q=>n (q▸Hm)).trans e)
 obtain⟨z1,z2⟩:=St.upd (o':=.list ys) (s':=uI s1 p1.1) Ep hm hp (λ b x nb zz e=>(hs.2 b nb).trans e) rfl rfl ⟨e2,HO,m',g2,Nat.le_of_succ_le hlen,am.mono (Pz _) Ff (λ b q=>.inl q) Kr⟩
 exact⟨y,φ1,_,q,z1,Em.trans z2,by refine aa (wm hm) ?_;exact ru.mono (Pz _) Ff λ b q=>.inl q⟩
end
section
variable{g:Gs}{tb:Tb}{K:RH}{Γ:aH}{N:Nm}{n:Nat}{W W':P3->Prop}{A:Qx}{fr:List Env}{env:Env}{ρ:an}{φ φ':az}{M M':AH}{s s' sD:PK}{E0:PJ->PK->Prop}
noncomputable def DJ(K:RH)(X:String)(a b c d:Bool):Bool:=VH K (.type X) (.type "bool")==some a&&(VH K (.type X) (.type "int")==some b&&(VH K (.type X) (.type "list")==some c&&VH K (.type X) (.type "dict")==some d))
noncomputable def j8(pl:Pl):Ty->Prop|.cls c=>∃C,pl.P.cls c=some C|_=>True
theorem fN(fx:Fx g tb K)(st:St g.pl g.w.params g.B W fr φ M s)(hk:DJ K X b1 b2 b3 b4=true)(Z:KitX K x (.type X) H)(p:H s.heap)(hx:x≠.builtin "__main__.__loader__#opaque")(hX:X∈["int","str","bool","NoneType","list","dict","tuple"])
  (ht:j8 g.pl t)(q:∀tk,R (.bool (fJ b1 b2 b3 b4 t)) {s with toks:=tk}):
  PR (PW g.prog g.w) A (call (.builtin "isinstance") [x,jo g.pl t]) R E0 s:=by
 have h2:=(af hk).2
 cases t with
 |cls c=>
  obtain⟨C,hC⟩:=ht
  exact Uf Z (fx.KS st) p ((fx.cls c C hC).Li X hX) hx q
 |tbool=>exact Uf Z (fx.KS st) p (ar (af hk).1) hx q
 |tint=>exact Uf Z (fx.KS st) p (ar (af h2).1) hx q
 |tlist=>exact Uf Z (fx.KS st) p (ar (af (af h2).2).1) hx q
 |tdict=>exact Uf Z (fx.KS st) p (ar (af (af h2).2).2) hx q
theorem eX:QJ a≠.builtin "__main__.__loader__#opaque" :=λ e=>RA e
theorem tO(fx:Fx g tb K)(st:St g.pl g.w.params g.B W fr φ M s)(g1:s.heap.get? a=some (R2 (g.pl.EB c) d))(g2:s.heap.get? d=some (QM es m))(hc:g.pl.P.cls c=some C)
  (ht:j8 g.pl t)(q:∀tk,R (.bool (BJ c t)) {s with toks:=tk}):PR (PW g.prog g.w) A (call (.builtin "isinstance") [.ref a,jo g.pl t]) R E0 s:=by
 have ck:=fx.cls c C hc
 have Z:KitX K (.ref a) (.ref (g.pl.EB c)) (λ h=>InstAt h a (R2 (g.pl.EB c) d) (g.pl.EB c) (some (QM es m))):=
  kitx_own ck.HX.1 ck.HX.2.1 ck.HX.2.2.1 fx.Jz.1 fx.Jz.2 ck.HX.2.2.2
 have I:=uV g1 g2
 cases t with
 |cls c'=>
  obtain⟨C',Ka⟩:=ht
  exact Uf Z (fx.KS st) I (ck.Fb c' C' Ka) eX q
 |tbool=>exact Uf Z (fx.KS st) I (ck.GA "bool" (.head _)) eX q
 |tint=>exact Uf Z (fx.KS st) I (ck.GA "int" (.tail _ (.head _))) eX q
 |tlist=>exact Uf Z (fx.KS st) I (ck.GA "list" (.tail _ (.tail _ (.head _)))) eX q
 |tdict=>exact Uf Z (fx.KS st) I (ck.GA "dict" (.tail _ (.tail _ (.tail _ (.head _))))) eX q
theorem tP(fx:Fx g tb K)(st:St g.pl g.w.params g.B W fr φ M s)(gg:s.heap.get? a=some (bb xs m))(ht:j8 g.pl t)(q:∀tk,R (.bool (fJ false false true false t)) {s with toks:=tk}):
  PR (PW g.prog g.w) A (call (.builtin "isinstance") [.ref a,jo g.pl t]) R E0 s:=fN fx st (by kernel_rfl) kitx_list ⟨_,gg,rfl⟩ eX (by simp) ht q
theorem oN(fx:Fx g tb K)(st:St g.pl g.w.params g.B W fr φ M s)(gg:s.heap.get? a=some (QM xs m))(ht:j8 g.pl t)(q:∀tk,R (.bool (fJ false false false true t)) {s with toks:=tk}):
  PR (PW g.prog g.w) A (call (.builtin "isinstance") [.ref a,jo g.pl t]) R E0 s:=fN fx st (by kernel_rfl) kitx_dict ⟨_,gg,rfl⟩ eX (by simp) ht q
theorem AK(fx:Fx g tb K)(st:St g.pl g.w.params g.B W fr φ M s)(ro:OR g.pl g.w.params φ (ow W φ M) s.heap p ob)(ht:j8 g.pl t)(q:∀tk,R (.bool (zr ob t)) {s with toks:=tk}):
  PR (PW g.prog g.w) A (call (.builtin "isinstance") [.ref p.1,jo g.pl t]) R E0 s:=by
 cases ob with
 |list vs=>exact ro.casesOn λ zz zz zz gg zz zz=>tP fx st gg ht q
 |Er ks vs=>exact ro.casesOn λ zz zz zz gg zz zz zz=>oN fx st gg ht q
 |EE ks vs=>exact ro.casesOn λ zz zz zz gg zz zz zz=>oN fx st gg ht q
 |inst c vs=>exact ro.casesOn λ zz zz zz zz g1 g2 hc zz zz zz=>tO fx st g1 g2 hc ht q
set_option tactic.hygienic true in
theorem wN(fx:Fx g tb K)(st:St g.pl g.w.params g.B W fr φ M s)(hx:VR g.pl g.w.params φ (ow W φ M) s.heap x v)(h:fO M x t=some b)(ht:j8 g.pl t)(q:∀tk,R (.bool b) {s with toks:=tk}):
  PR (PW g.prog g.w) A (call (.builtin "isinstance") [v,jo g.pl t]) R E0 s:=by
 cases x<;>first|exact au h|skip
 case ref i=>
  obtain⟨ob,hm,rfl⟩:=g9 h
  obtain⟨p,rfl,_,ro⟩:=fY st hx hm
  exact AK fx st ro ht q
 all_goals cases h
 case none=>subst hx;exact fN fx st (by kernel_rfl) kitx_none trivial (λ e=>RA e) (by simp) ht q
 case bool c=>subst hx;exact fN fx st (by kernel_rfl) kitx_bool trivial (λ e=>RA e) (by simp) ht q
 case int i=>obtain⟨u,rfl⟩:=hx;exact fN fx st (by kernel_rfl) kitx_int trivial (λ e=>RA e) (by simp) ht q
 case str z=>obtain⟨_,u,rfl⟩:=hx;exact fN fx st (by kernel_rfl) kitx_str trivial (λ e=>RA e) (by simp) ht q
 case tup vs=>obtain⟨a,xs,m,rfl,_,gg,_⟩:=hx;exact fN fx st (by kernel_rfl) kitx_tuple ⟨_,gg,rfl⟩ eX (by simp) ht q
 case list vs=>obtain⟨a,xs,m,rfl,_,gg,_⟩:=hx;exact tP fx st gg ht q
 case dict ks vs=>obtain⟨a,xs,m,rfl,_,gg,_⟩:=hx;exact oN fx st gg ht q
 case inst c vs=>obtain⟨a,d,es,m,C,rfl,_,_,g1,g2,hc,_⟩:=hx;exact tO fx st g1 g2 hc ht q
noncomputable def wO:Ty->Bool|.cls _=>true|_=>false
theorem aj.Fb(fx:Fx g tb K)(ha:aj g Γ N n a xa)(hs:aw xa=true)(hb:dG N x (.builtin "isinstance")=true)
  (ht:(∃c,t=.cls c/\cC N y=true/\tb.Ha.lookup y=some c/\(g.pl.P.cls c).isSome=true)∨(wO t=false/\dG N y (.type (mD t))=true)):aj g Γ N n (.Fb a t) (.Call (.Name x p) [xa,.Name y p2] [] pos):=by
 intro W A fr env ρ φ M s Q X hA hN er st hw
 refine gM fx hN er st (cE hb).1 (cE hb).2 (by simp[hs];rfl) ?_
 refine aa (bc hs) ?_;refine aa (bc rfl) ?_
 refine spliced_cons (aS (α:=Unit) ha hA hN er st hw (λ v z s1 φ1 M1 q1 Ep Em EA r1=>spliced_cons ?_) λ zz zz e=>e)
 refine ai (aD q1) λ b KI q=> ?_
 have fin:j8 g.pl t->∀tk,LQ g.pl g.w.params g.B W fr φ M s Q (.bool b) {s1 with toks:=tk}:=λ zz tk=>LQ.step Em _ _ (LQ.tk Ep tk q rfl)
 rcases ht with⟨c,rfl,h1,h2,h3⟩|⟨h1,h2⟩
 ·obtain⟨C,hC⟩:=P2.mp h3
  refine dU fx hN EA Ep (bQ h1).1 (bQ h1).2 (fx.Kh y c h2) (spliced_nil ?_)
  exact wN fx Ep r1 KI ⟨C,hC⟩ (fin ⟨C,hC⟩)
 ·have hv:jo g.pl t=.type (mD t):=by cases t<;>first|rfl|(cases h1;done)
  have JE:j8 g.pl t:=by cases t<;>first|trivial|(cases h1;done)
  refine t8 fx hN EA Ep (cE h2).1 (cE h2).2 (spliced_nil ?_)
  have:=wN fx Ep r1 KI JE (fin JE) (A:=A) (E0:=LX g.pl g.w.params g.B W fr g.cls φ M s X)
  rw[hv] at this
  exact this
end
end Mine
end
section
namespace Mine
open PySem PySem.W PySem.Calls PyProof.Rows PySem.SeqAt PySem.Spec
noncomputable def rc(a b:String):Prop:=¬iB b<iB a
theorem pz(s:String):∀l,(iO s l).Perm (s::l):=by
 intro l
 induction l with
 |nil=>
  exact .refl _
 |cons t r ih=>
  refine aa (rm _ _ _) ?_
  split
  ·exact .refl _
  ·exact(WW t (ih)).trans (.swap s t r)
theorem jp:∀l,(eH l).Perm l:=by
 intro l
 induction l with
 |nil=>
  exact .nil
 |cons s r ih=>
  exact(pz s _).trans (.cons s (ih))
theorem wK(h1:rc a b)(h2:rc b c):rc a c:=Sc.mpr (Yk (Sc.mp h1) (Sc.mp h2))
theorem yw(s:String):∀l,l.Pairwise rc->(iO s l).Pairwise rc:=by
 intro l
 induction l with
 |nil=>
  intro y1
  exact Tr _ _
 |cons t r ih=>
  intro h
  have h':=Qo.mp h
  refine aa (rm _ _ _) ?_
  split
  ·rename_i EM
   have MZ:rc s t:=λ q=>List.lt_irrefl _ (List.lt_trans EM q)
   exact Qo.mpr ⟨λ y hy=>by
    rcases PS.mp hy with rfl|hy
    ·exact MZ
    ·exact wK MZ (h'.1 y hy),h⟩
  ·rename_i hn
   refine Qo.mpr ⟨λ y hy=> ?_,ih h'.2⟩
   rcases PS.mp ((pz s r).mem_iff.mp hy) with rfl|hy
   ·exact hn
   ·exact h'.1 y hy
theorem vV:∀l,(eH l).Pairwise rc:=by
 intro l
 induction l with
 |nil=>
  exact .nil
 |cons s r ih=>
  exact yw s _ (ih)
theorem pA(s:Int):∀l,(ml s l).Perm (s::l):=by
 intro l
 induction l with
 |nil=>
  exact .refl _
 |cons t r ih=>
  refine aa (wP _ _ _) ?_
  split
  ·exact .refl _
  ·exact(WW t (ih)).trans (.swap s t r)
theorem mT:∀l,(gy l).Perm l:=by
 intro l
 induction l with
 |nil=>
  exact .nil
 |cons s r ih=>
  exact(pA s _).trans (.cons s (ih))
theorem yx(s:Int):∀l,l.Pairwise (· <= ·)->(ml s l).Pairwise (· <= ·):=by
 intro l
 induction l with
 |nil=>
  intro y1
  exact Tr _ _
 |cons t r ih=>
  intro h
  have h':=Qo.mp h
  refine aa (wP _ _ _) ?_
  split
  ·refine Qo.mpr ⟨λ y hy=> ?_,h⟩
   rcases PS.mp hy with rfl|hy
   ·(rename_i z0;exact ae 0x911244549120 rfl s y z0)
   ·have:=h'.1 y hy;(rename_i z0 z1;exact ae 0x92444d111348549130 rfl s t y z0 this)
  ·refine Qo.mpr ⟨λ y hy=> ?_,ih h'.2⟩
   rcases PS.mp ((pA s r).mem_iff.mp hy) with rfl|hy
   ·(rename_i z0;exact ae 0x911148980549120 rfl y t z0)
   ·exact h'.1 y hy
theorem vW:∀l,(gy l).Pairwise (· <= ·):=by
 intro l
 induction l with
 |nil=>
  exact .nil
 |cons s r ih=>
  exact yx s _ (ih)
noncomputable def j4(a b:Str):Prop:=¬b.cps.toList<a.cps.toList
theorem wJ(h1:j4 a b)(h2:j4 b c):j4 a c:=Sc.mpr (Yk (Sc.mp h1) (Sc.mp h2))
theorem yl(h1:j4 a b)(h2:j4 b a):a=b:=by
 have:=List.le_antisymm (Sc.mp h1) (Sc.mp h2)
 cases a;cases b
 simp only [Str.mk.injEq]
 exact Xm.mp this
theorem wb:∀(p:Str) (l:List Str),risingS p l=true->(p::l).Pairwise j4:=by
 intro p l
 induction l generalizing p with
 |nil=>
  intro y1
  exact Tr _ _
 |cons x r ihq=>
  intro h
  have h':(!ltCps x.cps.toList p.cps.toList&&risingS x r)=true:=h
  rw[PY,Te,ltCps_eq] at h'
  have JJ:j4 p x:=of_decide_eq_false h'.1
  have ih:=ihq x h'.2
  have Oj:=Qo.mp ih
  refine Qo.mpr ⟨λ y hy=> ?_,ih⟩
  rcases PS.mp hy with rfl|hy
  ·exact JJ
  ·exact wJ JJ (Oj.1 y hy)
theorem vT:∀(l:List Str),sortedS l=true->l.Pairwise j4
 |[],_=>.nil
 |x::r,h=>wb x r h
theorem CF:∀{a b:List Str},a.Perm b->a.Pairwise j4->b.Pairwise j4->a=b:=by
 intro a
 induction a with
 |nil=>
  intro y1 p y2 y3
  exact p.nil_eq
 |cons x r ih=>
  intro b p ha hb
  cases b with
  |nil=>exact absurd p.length_eq (by simp)
  |cons y t=>
   have hx:x∈y::t:=p.mem_iff.mp (.head _)
   have hy:y∈x::r:=p.mem_iff.mpr (.head _)
   have e:x=y:=by
    rcases PS.mp hx with h|h
    ·exact h
    ·rcases PS.mp hy with h'|h'
     ·exact h'.symm
     ·exact yl ((Qo.mp ha).1 y h') ((Qo.mp hb).1 x h)
   subst e
   refine aa (ih (List.Perm.cons_inv p) (Qo.mp ha).2 (Qo.mp hb).2) ?_;rfl
theorem w6(s:String):(PD s).cps.toList=iB s:=by
 refine aa (QB _) ?_;simp[iB]
theorem Ae:((eH l).map PD).Pairwise j4:=by
 rewrite[Xk]
 refine(vV l).imp λ{a b} h=> ?_
 unfold j4
 refine aa (w6 _) ?_;refine aa (w6 _) ?_
 exact h
section
variable{g:Gs}{tb:Tb}{K:RH}{Γ:aH}{N:Nm}{n:Nat}{W W':P3->Prop}{A:Qx}{fr:List Env}{env:Env}{ρ:an}{φ φ':az}{M M':AH}{s s' sD:PK}{E0:PJ->PK->Prop}
theorem mR{T:String}{r d:P3}{k:Nat}{P:Nat->PJ->Prop}{OK:QG->Prop}{Q:PJ->PK->Prop}(K:KdlSrc g.prog g.w T r d k P OK)(hh:A.handled=none)(hok:OK s.heap)(hn:k<=Rl)
  (h:∀(D:P3) (h':QG) (tk:Nat) (vs:List PJ),D=h'.objs.size->(∀b o,s.heap.get? b=some o->h'.get? b=some o)->vs.length=k->(∀(j:Nat) (v:PJ),vs[j]? =some v->P j v)->
   PR (PW g.prog g.w) A.in1 (call (.builtin "list.sort") [.ref D]) (λ zz s'=>Q (.ref D) s') E0 {s with heap:=h'.push (bb vs 0),toks:=tk}):
  PR (PW g.prog g.w) A (call (.builtin "sorted") [.ref r]) Q E0 s:=by
 refine call_function_entry kind_sorted plain_sorted entry_sorted (args_sorted1 _) ?_
 unfold Builtin.«sorted»
 refine Py (m:=checkCount "sorted" 1 1 _) (PB ?_)
 refine Py (kdu_collect (A:=A.in1) K hh hok hn λ h' tk acc hk Hz=> ?_)
 have hl:acc.toList.length=k:=by refine aa Array.length_toList ?_;exact Hz.1
 refine Py (wpAny_newList ?_ (by refine aa hl ?_;exact hn))
 have hg:=h h'.objs.size h' tk acc.toList rfl hk hl (λ j v e=>Hz.2 j v (by refine aE Wn ?_;exact e))
 refine Py (Qr (PT hg (λ zz s' x=> ?_) λ zz zz e=>e))
 exact PB ⟨_,rfl,x⟩
theorem pO{h':QG}{vs:List PJ}{out:Array PJ}:∃e,(Us (h'.push (bb vs 0)) h'.objs.size vs out).get? h'.objs.size=some (bb out.toList e):=by
 have h0:(h'.push (bb vs 0)).get? h'.objs.size=some (X9 "list" vs.toArray 0):=PM _ rfl
 obtain⟨e1,Ox⟩:∃e1,((h'.push (bb vs 0)).update h'.objs.size (Q0 λ zz=> #[])).get? h'.objs.size=some (X9 "list" #[] e1):=⟨_,get?_update_seq h0 (λ zz=> #[])⟩
 have h2:=PA (X9 "list" #[] 0) (PA (X9 "tuple" vs.toArray 0) Ox)
 unfold Us
 exact⟨_,by refine aa (get?_update_seq h2 (λ zz=>out)) ?_;rfl⟩
theorem ot{h':QG}{vs:List PJ}{out:Array PJ}{b:P3}{o:Obj}(e:h'.get? b=some o):(Us (h'.push (bb vs 0)) h'.objs.size vs out).get? b=some o:=by
 have Fq:h'.objs.size≠b:=Sq (P9 e)
 unfold Us
 refine aa (Qt _ _ Fq) ?_
 refine PA _ (PA _ ?_)
 refine aa (Qt _ _ Fq) ?_
 exact PA _ e
theorem am.strs:∀{ks:List String} {vs:List PJ},StrsAre vs (ks.map PD)->(∀k∈ks,k.length<=aq)->am g.pl g.w.params φ o h (ks.map .str) vs:=by
 intro ks
 induction ks with
 |nil=>
  intro y1 x y2
  cases x;rfl
 |cons k ks ih=>
  intro y3 x hk
  cases x with
  |cons y t hr=>exact am.c ⟨_,_,rfl,VR.s ⟨hk k (.head _),t,rfl⟩,ih hr λ k h=>hk k (.tail _ h)⟩
theorem am.ints:∀{ks:List Int} {vs:List PJ},WZ vs ks->am g.pl g.w.params φ o h (ks.map .int) vs:=by
 intro ks
 induction ks with
 |nil=>
  intro y1 x
  cases x;rfl
 |cons k ks ih=>
  intro y2 x
  cases x with
  |cons y t hr=>exact am.c ⟨_,_,rfl,VR.i ⟨t,rfl⟩,ih hr⟩
theorem qh:∀{ks:List String} {us vs:List PJ},us.length=ks.length->vs.length=ks.length->(∀(j:Nat) (v:PJ),vs[j]? =some v->∃k x,((ks.map PD).zip us)[j]? =some (k,x)/\(Ul g.prog g.w).is k v=true)->StrsAre vs (ks.map PD):=by
 intro ks
 induction ks with
 |nil=>
  intro us vs y1 hl y2
  obtain rfl:vs=[]:=Ro hl
  exact .nil
 |cons k ks ih=>
  intro us vs hu hl h
  cases vs with
  |nil=>simp at hl
  |cons v vs=>
   cases us with
   |nil=>simp at hu
   |cons u us=>
    refine ve (h 0 v rfl) λ k' x e hk=> ?_
    simp at e
    obtain⟨rfl,rfl⟩:=e
    have hv:∃t,v=.str (PD k) t:=by
     have hk:Rz (PD k) v=true:=hk
     exact TZ hk
    obtain⟨t,rfl⟩:=hv
    exact .cons _ t (ih (us:=us) (by simpa using hu) (by simpa using hl) λ j v e=>by simpa using h (j+1) v (by simpa using e))
set_option tactic.hygienic true in
theorem rl:∀{ks:List Int} {us vs:List PJ},us.length=ks.length->vs.length=ks.length->(∀(j:Nat) (v:PJ),vs[j]? =some v->∃k x,(ks.zip us)[j]? =some (k,x)/\(VY g.prog g.w).is k v=true)->WZ vs ks:=by
 intro ks
 induction ks with
 |nil=>
  intro us vs y1 hl y2
  obtain rfl:vs=[]:=Ro hl
  exact .nil
 |cons k ks ih=>
  intro us vs hu hl h
  cases vs with
  |nil=>simp at hl
  |cons v vs=>
   cases us with
   |nil=>simp at hu
   |cons u us=>
    refine ve (h 0 v rfl) λ k' x e hk=> ?_
    simp at e
    obtain⟨rfl,rfl⟩:=e
    have hv:∃t,v=.int k t:=by
     have hk:SG k v=true:=hk
     cases v<;>first|(exact absurd (show false=true from hk) (by decide))|skip
     rename_i y t _
     exact⟨t,by refine aa (beq_iff_eq.mp (show(y==k)=true from hk)) ?_;rfl⟩
    obtain⟨t,rfl⟩:=hv
    exact .cons _ t (ih (us:=us) (by simpa using hu) (by simpa using hl) λ j v e=>by simpa using h (j+1) v (by simpa using e))
theorem LQ.sorted{Q:V->AH->Prop}{vs:List V}{ws:List PJ}{out:Array PJ}{h':QG}{tk:Nat}(st:St g.pl g.w.params g.B W fr φ M s)(hk:∀b o,s.heap.get? b=some o->h'.get? b=some o)(q:Q (.list vs) M)(hl:vs.length<=aq)(r:am g.pl g.w.params φ (ow W φ M) s.heap vs out.toList):
  LQ g.pl g.w.params g.B W fr φ M s Q (.ref h'.objs.size) {s with heap:=Us (h'.push (bb ws 0)) h'.objs.size ws out,toks:=tk}:=by
 have FF:∀b o,s.heap.get? b=some o->(Us (h'.push (bb ws 0)) h'.objs.size ws out).get? b=some o:=λ b o e=>ot (hk b o e)
 obtain⟨Ez,Ey⟩:=jE (t:=tk) FF st
 obtain⟨e,he⟩:=pO (h':=h') (vs:=ws) (out:=out)
 refine⟨_,φ,M,q,Ez,Ey,?_⟩
 refine VR.l ?_
 refine⟨_,_,_,rfl,λ q=> ?_,he,hl,r.ext FF⟩
 have:=st.IE q
 cases z:s.heap.get? h'.objs.size with
 |none=>
  have h1:=q
  obtain⟨o,ho⟩:∃o,s.heap.get? h'.objs.size=some o:=by
   rcases q with q|⟨i,p,hi,hp,hb⟩
   ·exact st.FI _ q
   ·obtain⟨ob,hm⟩:=P2.mp hi
    refine ai (st.hr.at_ i ob hm) λ p' Fw ro=> ?_
    rw[hp] at Fw;cases Fw
    obtain⟨⟨x,g1,_⟩,⟨y,g2,_⟩⟩:=ro.there
    rcases hb with hb|hb
    ·exact⟨x,hb▸g1⟩
    ·exact⟨y,hb▸g2⟩
  rw[z] at ho;cases ho
 |some o=>exact Rn _ (P9 (hk _ _ z))
theorem vU(hA:cj A fr n)(st:St g.pl g.w.params g.B W fr φ M s)(hx:VR g.pl g.w.params φ (ow W φ M) s.heap x v)(h:oq M x=some vs)(q:Q (.list vs) M):
  PR (PW g.prog g.w) A (call (.builtin "sorted") [v]) (LQ g.pl g.w.params g.B W fr φ M s Q) E0 s:=by
 have low:∀{k:Nat},k<64->k<=Rl:=λ h=>PO (TP h) (by decide)
 cases x with
 |dict ks ys=>
  have h':(if ks.length<64 then some ((eH ks).map V.str) else none)=some vs:=h
  split at h'
  case isFalse=>cases h'
  case isTrue h64=>
  cases h'
  obtain⟨a,es,m,rfl,_,gg,hl,ke,rs⟩:=hx
  have hd:=gL (prog:=g.prog) (w:=g.w) gg (cJ hl.nd) ke
  obtain⟨ep,FS⟩:=hd.dictAt
  have hlen:((ks.map PD).zip (es.map (·.val))).length=ks.length:=by
   refine aa TI ?_;refine aa (PE _) ?_;refine aa (PE _) ?_
   have:=cB ke
   rw[PE] at this
   exact ae 0x90d211148349102 rfl es.length ks.length this
  have IS:(es.map (·.val)).length=ks.length:=by
   have:=cB ke
   rw[PE] at this
   refine aa (PE _) ?_;exact this
  refine mR (kdl_dict (knd:=Ul g.prog g.w) (kvs:=(ks.map PD).zip (es.map (·.val))) (ep:=ep) hl.1) hA.handled FS (by refine aa hlen ?_;exact low h64) λ D h' tk ws hD hk IN hw=> ?_
  subst hD
  have hS:StrsAre ws (ks.map PD):=qh IS (by refine aa IN ?_;refine aa hlen ?_;rfl) hw
  have J9:(h'.push (bb ws 0)).get? h'.objs.size=some (X9 "list" ws.toArray 0):=PM _ rfl
  refine QW Ud ⟨_,J9,rfl⟩ Ub (list_sort_treeK strKind_oneLt (n:=0) (vs:=ws) J9 hS.keysOf (λ v₁ v₂ rest e=>keyKind_strs (by refine aE e ?_;exact hS)) (by refine aa IN ?_;refine aa hlen ?_;exact h64) λ G2 hp hs=>⟨.none,rfl,?_⟩) (Ue _)
  refine bz (sorted_out_str hS hp hs) λ NO h1 h2 h3=> ?_
  have e:NO=(eH ks).map PD:=CF (h2.trans ((jp ks).map _).symm) (vT _ h3) Ae
  subst e
  exact LQ.sorted st hk q (by refine aa (PE _) ?_;refine aa ((jp ks).length_eq) ?_;exact PO (TP h64) (by decide)) (am.strs h1 λ k hk=>hl.str k ((jp ks).mem_iff.mp hk))
 |ref i=>
  cases hm:M.m i with
  |none=>have h:(M.m i).bind ql=some vs:=h;rw[hm] at h;cases h
  |some ob=>
   cases ob with
   |EE ks ys=>
    have h':(if ks.length<64 then some ((gy ks).map V.int) else none)=some vs:=by have h:(M.m i).bind ql=some vs:=h;rw[hm] at h;exact h
    split at h'
    case isFalse=>cases h'
    case isTrue h64=>
    cases h'
    obtain⟨p,hp,rfl⟩:=hx
    refine ai (st.hr.at_ i _ hm) λ p' Fw ro=> ?_
    rw[hp] at Fw;cases Fw
    obtain⟨_,es,m,gg,hl,ke,rs⟩:=ro
    have hd:=ib (prog:=g.prog) (w:=g.w) gg hl.nd ke
    obtain⟨ep,FS⟩:=hd.dictAt
    have IS:(es.map (·.val)).length=ks.length:=by refine aa (PE _) ?_;exact gh ke
    have hlen:(ks.zip (es.map (·.val))).length=ks.length:=by refine aa TI ?_;refine aa IS ?_;exact ae 0x344445101 rfl ks.length
    refine mR (kdl_dict (knd:=VY g.prog g.w) (kvs:=ks.zip (es.map (·.val))) (ep:=ep) hl.1) hA.handled FS (by refine aa hlen ?_;exact low h64) λ D h' tk ws hD hk IN hw=> ?_
    subst hD
    have hS:WZ ws ks:=rl IS (by refine aa IN ?_;refine aa hlen ?_;rfl) hw
    have J9:(h'.push (bb ws 0)).get? h'.objs.size=some (X9 "list" ws.toArray 0):=PM _ rfl
    refine QW Ud ⟨_,J9,rfl⟩ Ub (list_sort_tree (n:=0) (vs:=ws) J9 hS (by refine aa IN ?_;refine aa hlen ?_;exact h64) λ out N1 h1 h2 h3=>⟨.none,rfl,?_⟩) (Ue _)
    have e:N1=gy ks:=lks_uniq (h2.trans (mT ks).symm) h3 (vW ks)
    subst e
    exact LQ.sorted st hk q (by refine aa (PE _) ?_;refine aa ((mT ks).length_eq) ?_;exact PO (TP h64) (by decide)) (am.ints h1)
   |_=>have h:(M.m i).bind ql=some vs:=h;rw[hm] at h;cases h
 |_=>cases h
theorem aj.sorted(fx:Fx g tb K)(ha:aj g Γ N n a xa)(hs:aw xa=true)(hb:dG N x (.builtin "sorted")=true):aj g Γ N n (.sorted a) (.Call (.Name x p) [xa] [] pos):=by
 intro W A fr env ρ φ M s Q X hA hN er st hw
 refine gM fx hN er st (cE hb).1 (cE hb).2 (oD hs) (zd ha hs hA hN er st hw (λ v x s1 φ1 M1 q1 Ep Em EA r1=> ?_) λ zz zz e=>e)
 refine ai (aD q1) λ vs hv q=> ?_
 exact PT (vU (E0:=LX g.pl g.w.params g.B W fr g.cls φ M s X) hA Ep r1 hv q) (LQ.step Em) λ zz zz e=>e
end
end Mine
end
section
namespace Mine
open PySem PySem.W PySem.Calls PyProof.Rows
noncomputable def rec?(o:Obj):Prop:=∃vs,o.data=.fields vs
noncomputable def rj(fr:List Env)(b:P3):Prop:=∃env∈fr,env.frame=some b
structure bT(h0:QG)(fr:List Env)(h h':QG):Prop where
 keep:∀b o,h.get? b=some o->(¬rec? o∨(h0.get? b).isSome=true)->h'.get? b=some o∨(rj fr b/\¬rec? o/\∃sl,h'.get? b=some {o with slots:=sl})
 alive:∀b o,h.get? b=some o->∃o',h'.get? b=some o'
theorem bT.refl:bT h0 fr h h:=⟨λ b o e zz=>.inl e,λ b o e=>⟨o,e⟩⟩
theorem bT.trans(x:bT h0 fr h h1)(y:bT h0 fr h1 h2):bT h0 fr h h2:=by
 refine⟨λ b o e c=> ?_,λ b o e=>let⟨o1,e1⟩:=x.alive b o e;y.alive b o1 e1⟩
 rcases x.keep b o e c with k|⟨f,nr,sl,k⟩
 ·exact y.keep b o k c
 ·have N2:¬rec? {o with slots:=sl}:=λ⟨vs,q⟩=>nr ⟨vs,q⟩
  rcases y.keep b _ k (.inl N2) with k2|⟨_,_,sl2,k2⟩
  ·exact .inr ⟨f,nr,sl,k2⟩
  ·exact .inr ⟨f,nr,sl2,k2⟩
theorem da:(∀vs,o.data≠.fields vs)↔¬rec? o:=⟨λ h ⟨vs,e⟩=>h vs e,λ h vs e=>h ⟨vs,e⟩⟩
section
variable{pl:Pl}{P:QN}{B:QG}{W V:P3->Prop}{fr:List Env}{φ φ0:az}{M M0:AH}{s s0:PK}{h0 h':QG}
theorem St.Fa(st:St pl P B W fr φ M s)(hB:∀b o,B.get? b=some o->(h0.get? b).isSome=true)(nt:bT h0 fr s.heap h'):St pl P B W fr φ M {s with heap:=h'}:=by
 have LG:∀b,rj fr b->B.get? b=none:=λ b ⟨env,he,hf⟩=>st.EW b (st.Fg env he b hf)
 have LF:∀b,rj fr b->¬own φ M b:=λ b ⟨env,he,hf⟩ q=>st.hr.ES b q (st.Fg env he b hf)
 have hk:∀b o,s.heap.get? b=some o->¬ow W φ M b->b7 o (h'.get? b):=λ b o e n=>by
  by_cases hr:rec? o
  ·exact .inr (.inr hr)
  ·rcases nt.keep b o e (.inl hr) with k|⟨⟨env,he,hf⟩,_⟩
   ·exact .inl k
   ·exact absurd (.inl (st.Fg env he b hf)) n
 refine⟨st.hr.same hk (λ b o q e=> ?_) (λ b q=>.inl q),λ b o e=> ?_,?_,st.Fg,λ env he L hf=> ?_,λ b q=>let⟨o,e⟩:=st.FI b q;nt.alive b o e,st.EW⟩
 ·obtain⟨i,p,hi,hp,hb⟩:=q
  obtain⟨ob,hm⟩:=P2.mp hi
  refine ai (st.hr.at_ i ob hm) λ p' Fw ro=> ?_
  rw[hp] at Fw;cases Fw
  have q:own φ M b:=⟨i,p,hi,hp,hb⟩
  have nr:¬rec? o:=by
   have two:(∀o,s.heap.get? p.1=some o->¬rec? o)/\∀o,s.heap.get? p.2=some o->¬rec? o:=by
    cases ob with
    |list vs=>obtain⟨e2,xs,n,g,_⟩:=ro;exact⟨λ o e=>by rw[g] at e;cases e;exact da.mp (by intro vs h;cases h),λ o e=>by rw[e2,g] at e;cases e;exact da.mp (by intro vs h;cases h)⟩
    |Er ks vs=>obtain⟨e2,xs,n,g,_⟩:=ro;exact⟨λ o e=>by rw[g] at e;cases e;exact da.mp (by intro vs h;cases h),λ o e=>by rw[e2,g] at e;cases e;exact da.mp (by intro vs h;cases h)⟩
    |EE ks vs=>obtain⟨e2,xs,n,g,_⟩:=ro;exact⟨λ o e=>by rw[g] at e;cases e;exact da.mp (by intro vs h;cases h),λ o e=>by rw[e2,g] at e;cases e;exact da.mp (by intro vs h;cases h)⟩
    |inst c vs=>obtain⟨e2,es,n,C,g,gd,_⟩:=ro;exact⟨λ o e=>by rw[g] at e;cases e;exact da.mp (by intro vs h;cases h),λ o e=>by rw[gd] at e;cases e;exact da.mp (by intro vs h;cases h)⟩
   rcases hb with hb|hb
   ·exact two.1 o (hb▸e)
   ·exact two.2 o (hb▸e)
  rcases nt.keep b o e (.inl nr) with k|⟨f,_⟩
  ·exact k
  ·exact absurd q (LF b f)
 ·rcases nt.keep b o (st.base b o e) (.inr (hB b o e)) with k|⟨f,_⟩
  ·exact k
  ·rw[LG b f] at e;cases e
 ·exact st.frames.of_keeps λ b o e nf=>by
   rcases nt.keep b o e (.inl (da.mp nf)) with k|⟨_,_,sl,k⟩
   ·exact aA o k rfl
   ·exact aA _ k rfl
 ·refine ai (st.GH env he L hf) λ o e c=> ?_
  have nr:¬rec? o:=by
   have key:∀{l:List Env},s.heap.FunFrames B l->env∈l->∀vs,o.data≠.fields vs:=by
    intro l
    induction l with
    |nil=>intro _ h;cases h
    |cons x r ih=>
     intro hl hm
     refine ei hl λ zz HP hr=> ?_;clear hl;rcases HP with⟨L',o',hf',_,Hf,Jj⟩
     rcases PS.mp hm with h|h
     ·rw[<-h,hf] at hf';cases hf'
      rw[e] at Hf;cases Hf
      exact Jj
     ·exact ih hr h
   exact da.mp (key st.frames he)
  rcases nt.keep L o e (.inl nr) with k|⟨_,_,sl,k⟩
  ·exact aA o k c
  ·exact aA _ k c
theorem av.Fa(x:av V φ0 M0 s0 φ M s)(st:St pl P B W fr φ M s)(nt:bT s0.heap fr s.heap h'):av V φ0 M0 s0 φ M {s with heap:=h'}:=by
 refine⟨x.pre,λ b o e n nv=> ?_,x.own,λ b o e=>let⟨o1,e1⟩:=x.alive b o e;nt.alive b o1 e1,x.os,x.gens⟩
 have h0:(s0.heap.get? b).isSome=true:=by refine aa e ?_;rfl
 have Gl:∀o',s.heap.get? b=some o'->rj fr b->o'.cls=.type "frame" :=λ o' e' ⟨env,he,hf⟩=>by
  refine ai (st.GH env he b hf) λ o2 e2 c=> ?_
  rw[e'] at e2;cases e2;exact c
 rcases x.keep b o e n nv with k|⟨c,sl,k⟩
 ·rcases nt.keep b o k (.inr h0) with k2|⟨f,_,sl2,k2⟩
  ·exact .inl k2
  ·exact .inr ⟨Gl o k f,sl2,k2⟩
 ·rcases nt.keep b _ k (.inr h0) with k2|⟨f,_,sl2,k2⟩
  ·exact .inr ⟨c,sl,k2⟩
  ·exact .inr ⟨c,sl2,k2⟩
end
theorem yu{fr:List Env}(h:b∈fr.filterMap (·.frame)):rj fr b:=by
 refine ai (List.mem_filterMap.mp h) λ env he hf=> ?_
 exact aA env he hf
section
variable{M0:TX}{A:Qx}{E:PJ->PK->Prop}{s:PK}{B h0:QG}{env:Env}{r:List Env}{L e:P3}{cls:PJ}
theorem bT.slots{fr:List Env}{h h':QG}(hs:Heap.SlotsOnly (fr.filterMap (·.frame)) h h')(nr:∀b o,b∈fr.filterMap (·.frame)->h.get? b=some o->¬rec? o):bT h0 fr h h':=by
 refine⟨λ b o e zz=> ?_,λ b o e=>let⟨sl,k⟩:=hs.2.2 b o e;⟨_,k⟩⟩
 by_cases hb:b∈fr.filterMap (·.frame)
 ·obtain⟨sl,k⟩:=hs.2.2 b o e
  exact .inr ⟨yu hb,nr b o hb e,sl,k⟩
 ·exact .inl ((hs.2.1 b hb).trans e)
theorem bT.record{fr:List Env}{h h':QG}(ho:h.get? a=some o)(hr:rec? o)(h0a:h0.get? a=none)(hs:∀b,b≠a->∀x,h.get? b=some x->h'.get? b=some x)(ha:∃o',h'.get? a=some o'):bT h0 fr h h':=by
 refine⟨λ b x e c=> ?_,λ b x e=> ?_⟩
 ·by_cases hb:b=a
  ·subst hb
   rw[ho] at e;cases e
   rcases c with c|c
   ·exact absurd hr c
   ·rw[h0a] at c;cases c
  ·exact .inl (hs b hb x e)
 ·by_cases hb:b=a
  ·subst hb;exact ha
  ·exact⟨x,hs b hb x e⟩
theorem lK
  (Iq:A.frames=some (env::r))(hl:s.heap.FunFrames B (env::r))(hf:env.frame=some L)
  (he:s.heap.get? e=some oe)(hd:oe.data=.fields vs)(Fc:1<vs.size)(HK:vs[0]? =some a0)(KP:h0.get? e=none)(h0s:∀b,s.heap.get? b=none->h0.get? b=none)
  (h:∀h',bT h0 (env::r) s.heap h'->fy h0 h' e oe.cls (Sg L)->Q () {s with heap:=h'}):
  PR M0 A (do let a<-frameOf env;let pl<-entryPlaceOf L hadNext;let b<-VS head a .none (Sg L) .none pl;setField (.ref e) 1 b) Q E s:=by
 have MH:∀b o,b∈(env::r).filterMap (·.frame)->s.heap.get? b=some o->¬rec? o:=λ b o hm e'=>by
  obtain⟨_,o2,ho,JM⟩:=hl.mem hm
  rw[e'] at ho;cases ho
  exact da.mp JM
 have LI:e∉(env::r).filterMap (·.frame):=λ hm=>MH e oe hm he ⟨vs,hd⟩
 refine Py (wpAny_frameOf_fun Iq hl hf λ h₁ GU=> ?_)
 refine Py (wpAny_entryPlaceOf λ pl Ik=> ?_)
 unfold VS newFields
 refine Py (Vx ?_ (Ik.sizeOk5 _ _ _ _ _))
 have Nn:h₁.get? e=some oe:=(GU.2.1 e LI).trans he
 have JY:=PA (h:=h₁) {cls:=.type "traceback",dict:=none,data:=.fields ([head,.ref L,.none,Sg L,.none]++(if pl.isEmpty then Qn 6 Qg else pl)).toArray} Nn
 refine Sy JY hd Fc ?_
 have HL:h₁.objs.size≠e:=Sq (P9 Nn)
 have hT:(h₁.push {cls:=.type "traceback",dict:=none,data:=.fields ([head,.ref L,.none,Sg L,.none]++(if pl.isEmpty then Qn 6 Qg else pl)).toArray}).get? h₁.objs.size=
   some {cls:=.type "traceback",dict:=none,data:=.fields ([head,.ref L,.none,Sg L,.none]++(if pl.isEmpty then Qn 6 Qg else pl)).toArray}:=PM h₁ rfl
 have G7:=Rt hd (·.setIfInBounds 1 (QJ h₁.objs.size))
 have FL:(Qu (·.setIfInBounds 1 (QJ h₁.objs.size)) oe).isFreed=false:=by
  generalize Qu (·.setIfInBounds 1 (QJ h₁.objs.size)) oe=z at G7
  obtain⟨c1,c2,c3,c4⟩:=z
  simp only at G7;subst G7;rfl
 have No:=P5 (Qu (·.setIfInBounds 1 (QJ h₁.objs.size))) JY FL
 refine h _ (((bT.slots GU MH).trans ⟨λ b o e' zz=>.inl (PA _ e'),λ b o e'=>⟨o,PA _ e'⟩⟩).trans
  (bT.record JY ⟨vs,hd⟩ KP (λ b hb x e'=>(Qt _ _ (R5 hb)).trans e') ⟨_,No⟩)) ?_
 refine⟨_,_,a0,h₁.objs.size,_,_,No,XE _ _,G7,by refine aa (UF (by decide)) ?_;exact HK,by simp[Fc],?_,HL,
  (Qt _ _ (R5 HL)).trans hT,rfl,by first|(simp;done)|(rcases Ik with rfl|⟨_,_,_,_,_,_,_,rfl⟩<;>simp)⟩
 refine h0s _ ?_
 cases q:s.heap.get? h₁.objs.size with
 |none=>rfl
 |some o=>have:=P9 q;rw[<-GU.1] at this;exact absurd this (Rn _)
theorem oK(Iq:A.frames=some (env::r))(hl:s.heap.FunFrames B (env::r))(hf:env.frame=some L)(h0s:∀b,s.heap.get? b=none->h0.get? b=none)(x:mC h0 (env::r) s.heap e cls)
  (h:∀h',bT h0 (env::r) s.heap h'->fy h0 h' e cls (Sg L)->Q () {s with heap:=h'}):PR M0 A (Xv (.ref e) env) Q E s:=by
 obtain⟨KP,x⟩:=x
 unfold Xv
 simp only [hf]
 rcases x with⟨oe,vs,a0,he,rfl,hd,HK,h1⟩|⟨oe,vs,a0,T,oT,ts,he,rfl,hd,HK,h1,I6,HL,hT,GV,h3⟩|⟨env',r',L',hr,hf',oe,vs,a0,T,oT,ts,he,rfl,hd,HK,h1,I6,HL,hT,GV,h3⟩
 ·refine Py (Qv he hd h1 ?_)
  refine aa (if_neg (by decide)) ?_
  exact lK Iq hl hf he hd (RC.mp h1).1 HK KP h0s h
 ·refine Py (Qv he hd h1 ?_)
  refine aa (if_pos (show(QJ T !=Qg)=true from by simp)) ?_
  refine Py (Qv hT GV h3 ?_)
  refine aa (if_neg (show¬((Qg==Sg L)=true) from by simp[Sg])) ?_
  refine Py (Sy hT GV (RC.mp h3).1 ?_)
  have other:∀b,b≠T->(s.heap.update T (Qu (·.setIfInBounds 3 Qg))).get? b=s.heap.get? b:=λ b hb=>Qt _ _ (R5 hb)
  have G7:=Rt GV (·.setIfInBounds 3 Qg)
  have FL:(Qu (·.setIfInBounds 3 Qg) oT).isFreed=false:=by
   generalize Qu (·.setIfInBounds 3 Qg) oT=z at G7
   obtain⟨c1,c2,c3,c4⟩:=z
   simp only at G7;subst G7;rfl
  have KL:=P5 (Qu (·.setIfInBounds 3 Qg)) hT FL
  have nt:bT h0 (env::r) s.heap (s.heap.update T (Qu (·.setIfInBounds 3 Qg))):=bT.record hT ⟨ts,GV⟩ I6 (λ b hb x e'=>(other b hb).trans e') ⟨_,KL⟩
  refine lK (B:=B) (s:={s with heap:=s.heap.update T (Qu (·.setIfInBounds 3 Qg))}) Iq (hl.of_keeps λ b o hb JM=> ?_) hf ((other e (R5 HL)).trans he) hd (RC.mp h1).1 HK KP (λ b hb=>h0s b ?_)
   λ h' n2 t=>h h' (nt.trans n2) t
  ·rcases nt.keep b o hb (.inl (da.mp JM)) with k|⟨_,_,sl,k⟩
   ·exact aA o k rfl
   ·exact aA _ k rfl
  ·cases q:s.heap.get? b with
   |none=>rfl
   |some o=>
    obtain⟨o',e'⟩:=nt.alive b o q
    have KI:(s.heap.update T (Qu (·.setIfInBounds 3 Qg))).get? b=none:=hb
    rw[KI] at e';cases e'
 ·cases hr
  rw[hf] at hf';cases hf'
  refine Py (Qv he hd h1 ?_)
  refine aa (if_pos (show(QJ T !=Qg)=true from by simp)) ?_
  refine Py (Qv hT GV h3 ?_)
  refine aa (if_pos (show(Sg L==Sg L)=true from by simp)) ?_
  exact PB (h _ .refl ⟨oe,vs,a0,T,oT,ts,he,rfl,hd,HK,h1,I6,HL,hT,GV,h3⟩)
theorem iA{fr:List Env}(x:fy h0 s.heap e cls fl)
  (h:∀h',bT h0 fr s.heap h'->fy h0 h' e cls (f.elim .none λ a=>Sg a)->Q () {s with heap:=h'}):PR M0 A (setFlight (.ref e) f) Q E s:=by
 obtain⟨oe,vs,a0,T,oT,ts,he,rfl,hd,HK,h1,I6,HL,hT,GV,h3⟩:=x
 have JF:3<ts.size:=(RC.mp h3).1
 have other:∀b,b≠T->(s.heap.update T (Qu (·.setIfInBounds 3 (f.elim .none λ a=>Sg a)))).get? b=s.heap.get? b:=λ b hb=>Qt _ _ (R5 hb)
 have G7:=Rt GV (·.setIfInBounds 3 (f.elim .none λ a=>Sg a))
 have FL:(Qu (·.setIfInBounds 3 (f.elim .none λ a=>Sg a)) oT).isFreed=false:=by
  generalize Qu (·.setIfInBounds 3 (f.elim .none λ a=>Sg a)) oT=z at G7
  obtain⟨c1,c2,c3,c4⟩:=z
  simp only at G7;subst G7;rfl
 have KL:=P5 (Qu (·.setIfInBounds 3 (f.elim .none λ a=>Sg a))) hT FL
 unfold setFlight
 refine Py (Qv he hd h1 ?_)
 refine aa (if_pos (show(QJ T !=Qg)=true from by simp)) ?_
 refine Sy hT GV JF (h _ (bT.record hT ⟨ts,GV⟩ I6 (λ b hb x e'=>(other b hb).trans e') ⟨_,KL⟩) ?_)
 exact⟨oe,vs,a0,T,_,_,(other e (R5 HL)).trans he,rfl,hd,HK,h1,I6,HL,KL,G7,by simp[JF]⟩
theorem yj(Iq:A.frames=some (env::r))(hl:s.heap.FunFrames B (env::r))(hf:env.frame=some L)(h0s:∀b,s.heap.get? b=none->h0.get? b=none)(x:mC h0 (env::r) s.heap e cls)
  (h:∀h',bT h0 (env::r) s.heap h'->fy h0 h' e cls .none->Q () {s with heap:=h'}):PR M0 A (leaving env (.ref e)) Q E s:=by
 unfold leaving
 refine Py (oK Iq hl hf h0s x λ h1 n1 t1=> ?_)
 exact iA (s:={s with heap:=h1}) (fr:=env::r) t1 λ h2 n2 t2=>h h2 (n1.trans n2) t2
end
end Mine
end
section
namespace Mine
open PySem PySem.W PySem.Calls PyProof.Rows PySem.SeqAt
theorem rA{α β:Type}(f:α->β->Sem (ForInStep β))(g:α->β->β)(hf:∀x b,f x b=pure (.yield (g x b))):∀(l:List α) (b:β),forIn l b f=pure (l.foldl (λ b x=>g x b) b):=by
 intro l
 induction l with
 |nil=>
  intro b
  refine aa RL ?_;rfl
 |cons x l ih=>
  intro b
  rewrite[Q3];refine aa (hf _ _) ?_;refine aa (pure_bind _ _) ?_
  exact ih (g x b)
noncomputable def sg(slots:List (Str×PJ))(x:Str×PJ):List (Str×PJ):=if(slots.lookup x.1).isNone then slots++[(x.1,x.2)] else slots
theorem sS(slots:List (Str×PJ))(z:List (Str×PJ))(k:Str):(z.foldl sg slots).lookup k=(slots.lookup k).or (z.lookup k):=by
 induction z generalizing slots with
 |nil=>simp
 |cons x z ih=>
  obtain⟨n,v⟩:=x
  refine aa List.foldl_cons ?_;refine aa (ih _) ?_;refine aa Ql ?_
  unfold sg
  by_cases e:k=n
  ·subst e
   simp only [beq_self_eq_true]
   cases h:slots.lookup k with
   |none=>simp[h,R1]
   |some u=>simp[h]
  ·have e':(k==n)=false:=beq_eq_false_iff_ne.mpr e
   refine aa e' ?_
   split
   ·refine aa R1 ?_;simp[Ql,e']
   ·rfl
theorem jB:∀{ps:List Str} {xs:List PJ} {i:Nat} {k:Str},ps.Nodup->ps[i]? =some k->(ps.zip xs).lookup k=xs[i]? :=by
 intro ps
 induction ps with
 |nil=>
  intro y1 y2 y3 y4 h
  simp at h
 |cons p ps ih=>
  intro y5
  cases y5 with
  |nil=>
   intro i k y6 y7
   simp
  |cons x xs=>
   intro y8
   cases y8 with
   |zero=>
    intro k y9 h
    simp at h;subst h;simp
   |succ i=>
    intro k nd h
    rw[QH] at nd
    have h':ps[i]? =some k:=by simpa using h
    have Fq:k≠p:=λ q=>nd.1 (q▸Sw h')
    refine aa Qi ?_;refine aa Ql ?_;refine aa (beq_eq_false_iff_ne.mpr Fq) ?_
    simp only [List.getElem?_cons_succ]
    exact ih nd.2 h'
theorem pR:∀(ps:List Str) (vals:List PJ) (f:Str->Option PJ),vals.length=ps.length->(∀(i:Nat) (k:Str),ps[i]? =some k->f k=vals[i]?)->ps.filterMap (λ n=>(f n).map (n,·))=ps.zip vals:=by
 intro ps
 induction ps with
 |nil=>
  intro y1
  cases y1 with
  |nil=>
   intro y2 y3 y4
   exact rfl
  |cons y5 y6=>
   intro y7 h y8
   simp at h
 |cons p ps ih=>
  intro y9
  cases y9 with
  |nil=>
   intro G0 h Gt
   simp at h
  |cons v vals=>
   intro f hl h
   have h0:f p=some v:=by simpa using h 0 p rfl
   refine aa List.filterMap_cons ?_;refine aa h0 ?_
   simp only [RS,Qi]
   refine aa (ih vals f (by simpa using hl) λ i k e=>by simpa using h (i+1) k (by simpa using e)) ?_;rfl
noncomputable def dx(np:Nat)(xs ds:List PJ):List PJ:=xs++ds.drop (ds.length-(np-xs.length))
section
variable{M0:TX}{A:Qx}{α β:Type}{E:PJ->PK->Prop}{Q:α->PK->Prop}{R:β->PK->Prop}{s s0:PK}
theorem vE [Decidable c](h:¬c)(q:PR M0 A y Q E s):PR M0 A (if c then x else y) Q E s:=by refine aa (if_neg h) ?_;exact q
theorem A6(h:PR M0 A x (λ r' s'=>r'=r/\s'=s0) (λ zz zz=>False) s)(q:PR M0 A (f r) R E s0):PR M0 A (x>>=f) R E s:=
 Py (PT h (λ zz zz e=>e.1▸e.2▸q) λ zz zz e=>e.elim)
theorem A5{γ:Type}{l:List γ}{b:α}{f:γ->α->Sem (ForInStep α)}(g:α->γ->α){K:α->Sem β}(hf:∀x b,f x b=pure (.yield (g b x)))(q:PR M0 A (K (l.foldl g b)) R E s):PR M0 A (forIn l b f>>=K) R E s:=by
 refine aa ((rA f (λ x b=>g b x) hf) _ _) ?_;exact q
end
theorem A2{p:Arguments}(h1:p.posonlyargs=[])(h2:p.vararg=none)(h3:p.kwonlyargs=[])(h4:p.kwarg=none):p=⟨[],p.args,none,[],p.kw_defaults,none,p.defaults⟩:=by
 cases p;cases h1;cases h2;cases h3;cases h4;rfl
theorem DF{p d x i X Y Z W U:Nat}(h1:X+d=p)(h2:Y+x=p)(h3:Z+x=i)(h4:U+Y=d)(h5:W+X=i):W=U+Z:=ae 0x92492490c15986435c14590d20546035c15560d30555034c149109 rfl X d p Y x Z i U W h1 h2 h3 h4 h5
theorem yh{ps:List Str}{xs ds d:List PJ}(nd:ps.Nodup)(hge:ps.length<=xs.length+ds.length)(e:d=ds):((ps.take (ps.length-d.length)).filter λ n=>((ps.zip xs).lookup n).isNone)=[]:=by
 subst e
 rewrite[Wm]
 intro k hk
 obtain⟨i,hi⟩:=Sm.mp hk
 have EM:=(PL.mp hi).1
 rw[Q9] at EM
 rw[Tf (PI EM (Nat.min_le_left _ _))] at hi
 have hx:i<xs.length:=ae 0x92424940844424d150105349104 rfl ps.length xs.length d.length i hge EM
 refine aa (jB nd hi) ?_;refine aa (PG hx) ?_
 exact SV
theorem wI{ps:List Str}{xs ds:List PJ}(nd:ps.Nodup)(Is:ds.length<=ps.length)(hge:ps.length<=xs.length+ds.length)(i:Nat)(k:Str)(hk:ps[i]? =some k):
  (((ps.drop (ps.length-ds.length)).zip ds).foldl sg (ps.zip xs)).lookup k=(dx ps.length xs ds)[i]? :=by
 have hi:i<ps.length:=(PL.mp hk).1
 refine aa (sS _ _ _) ?_;refine aa (jB nd hk) ?_
 unfold dx
 by_cases hx:i<xs.length
 ·refine aa (Qc hx) ?_;refine aa (PG hx) ?_;rfl
 ·have hx:=Nat.le_of_not_lt hx
  refine aa (TJ hx) ?_;refine aa (P6 hx) ?_;refine aa Vj ?_;refine aa Xc ?_
  have FR:(ps.drop (ps.length-ds.length))[i-(ps.length-ds.length)]? =some k:=by
   refine aa Xc ?_;refine aE hk ?_;refine aa (Nat.add_sub_cancel' (by(rename_i z0;exact ae 0x92415024d126009250105349104 rfl ps.length xs.length ds.length i hge z0))) ?_;rfl
  refine aa (jB (nd.sublist (List.drop_sublist ..)) FR) ?_;refine aa (DF (R3 Is) (R3 (PO hx (TP hi))) (R3 hx) (R3 (show ps.length-xs.length<=ds.length by(rename_i z0;exact ae 0x905309244105349103 rfl ps.length xs.length ds.length hge))) (R3 (show ps.length-ds.length<=i by(rename_i z0;exact ae 0x92415024d126009250105349104 rfl ps.length xs.length ds.length i hge z0)))) ?_;rfl
theorem BV{ps:List Str}{xs ds d:List PJ}(nd:ps.Nodup)(hle:xs.length<=ps.length)(Is:ds.length<=ps.length)(hge:ps.length<=xs.length+ds.length)(e:d=ds):
  (ps++[]).filterMap (λ n=>Option.map (λ x=>(n,x)) ((((ps.drop (ps.length-d.length)).zip d).foldl sg (ps.zip xs)).lookup n))=ps.zip (dx ps.length xs ds):=by
 subst e
 refine aa (Qa _) ?_
 exact pR _ (dx ps.length xs _) _ (by unfold dx;refine aa PH ?_;refine aa Qw ?_;exact ae 0x92434810820914934d10414d148149103 rfl xs.length ps.length d.length hle hge) (wI nd Is hge)
theorem rR{M0:TX}{A:Qx}{E:PJ->PK->Prop}{s:PK}{xs ds:List PJ}{ps:List Str}{Q:List (Str×PJ)->PK->Prop}
  (h1:fd.params.posonlyargs=[])(h2:fd.params.args.map (·.arg)=ps)(h3:fd.params.vararg=none)(h4:fd.params.kwonlyargs=[])(h5:fd.params.kwarg=none)(nd:ps.Nodup)
  (hd:(fd.defaults=.none/\ds=[])∨∃T o n,fd.defaults=.ref T/\s.heap.get? T=some o/\o.data=.seq ds.toArray n)(hle:xs.length<=ps.length)(hge:ps.length<=xs.length+ds.length)(Is:ds.length<=ps.length)
  (h:Q (ps.zip (dx ps.length xs ds)) s):PR M0 A (bindArgs fd ⟨xs,[]⟩) Q E s:=by
 obtain⟨r,hr,rfl⟩:∃r:Option (Array PJ),PR M0 A (Xs fd.defaults) (λ r' s'=>r'=r/\s'=s) (λ zz zz=>False) s/\(r.getD #[]).toList=ds:=by
  rcases hd with⟨e,rfl⟩|⟨T,o,n,e,ho,hs⟩
  ·exact aA none (by refine aa e ?_;exact PB ⟨rfl,rfl⟩) rfl
  ·exact aA (some ds.toArray) (by refine aa e ?_;exact Rj ho hs ⟨rfl,rfl⟩) rfl
 clear hd
 obtain⟨n,qn,p,rest⟩:=fd
 have hp:=A2 h1 h3 h4 h5
 dsimp only at hp h2
 generalize p.args=as,p.kw_defaults=kd,p.defaults=df at hp h2
 subst hp h2
 clear h1 h3 h4 h5
 generalize eps:as.map (·.arg)=ps at*
 have d0:(r.getD #[]).toList.drop ((r.getD #[]).toList.length-ps.length)=(r.getD #[]).toList:=by refine aa (WF Is) ?_;rfl
 subst eps
 refine A6 (x:=Xs _) hr (vE ?_ (vE ?_ ?_))
 ·exact λ h=>Rn _ (PI (of_decide_eq_true (Bool.and_eq_true_iff.mp h).1) hle)
 ·exact λ h=>SV ((congrArg (λ l=> !List.isEmpty l) (yh nd hge d0)).symm.trans h)
 ·refine A5 sg (λ x b=> ?_) (PB ?_)
  ·show(if _ then _ else _)=pure (QU (if _ then _ else _))
   split<;>rfl
  exact(congrArg (λ l=>Q l s) (BV nd hle Is hge d0)).mpr h
structure gF(A:Qx)(fr:List Env)(n:Nat):Prop where
 handled:A.handled=none
 frames:A.frames=some fr
 guards:A.guards=some []
 depth:A.depth+2*n+2<UJ
 units:A.units+20*n+990<Vo
theorem cj.Km(h:cj A fr n):gF A fr n:=⟨h.handled,h.frames,h.guards,by have:=h.depth;exact ae 0x90be80c7fc18813e24910be80c7fc18c13e249102 rfl A.depth n this,by have:=h.units;exact ae 0x90a6ac0467e0fbc024fe09fa248853560233f07e80c7fc13f449102 rfl A.units n this⟩
theorem gF.deeper(h:gF A fr (n+1)):cj (A.deeper env) (env::fr) n:=
 ⟨h.handled,by show A.frames.map (env:: ·)=_;refine aa h.frames ?_;rfl,h.guards,by have:=h.depth;show A.depth+1+_+_<_;exact ae 0x90be80c7fc18c13e24818510be80c7fc18813e206149102 rfl A.depth n this,by have:=h.units;show A.units+3+_+_<_;exact ae 0x90a6ac0467e0fd018ff827e89031a214d5808cfc1f78049fc13f406149102 rfl A.units n this⟩
noncomputable def jK(g:Gs)(n:Nat):Prop:=∀f vs xs W A fr φ M s Q X,gF A fr n->St g.pl g.w.params g.B W fr φ M s->am g.pl g.w.params φ (ow W φ M) s.heap vs xs->ag g.pl.P n f vs M Q X->
 Sh (PW g.prog g.w) A (.call (.ref (g.pl.FG f)) ⟨xs,[]⟩) (λ r s'=>match r with|.ok (.ret v)=>LQ g.pl g.w.params g.B W fr φ M s Q v s'|.ok _=>False|.error e=>LX g.pl g.w.params g.B W fr g.cls φ M s X e s') s
inductive d5(pl:Pl)(P:QN)(B:QG)(W:P3->Prop)(fr:List Env)(cls:PJ)(V:P3->Prop)(φ:az)(M:AH)(s:PK)(X:AH->Prop)(v:PJ)(s':PK):Prop
 |mk (e:P3) (φ':az) (M':AH):v=.ref e->X M'->St pl P B W fr φ' M' s'->av V φ M s φ' M' s'->mC s.heap fr s'.heap e cls->d5 pl P B W fr cls V φ M s X v s'
inductive Cp(pl:Pl)(P:QN)(B:QG)(W:P3->Prop)(fr:List Env)(Γ:aH)(env:Env)(φ:az)(M:AH)(s:PK)(Nx:an->AH->Prop)(s':PK):Prop
 |mk (ρ':an) (φ':az) (M':AH):Nx ρ' M'->aC pl P W Γ env ρ' φ' M' s'.heap->St pl P B W fr φ' M' s'->av (EO env) φ M s φ' M' s'->Cp pl P B W fr Γ env φ M s Nx s'
inductive Ds(pl:Pl)(P:QN)(B:QG)(W:P3->Prop)(fr:List Env)(env:Env)(φ:az)(M:AH)(s:PK)(R:V->AH->Prop)(v:PJ)(s':PK):Prop
 |mk (x:V) (φ':az) (M':AH):R x M'->St pl P B W fr φ' M' s'->av (EO env) φ M s φ' M' s'->VR pl P φ' (ow W φ' M') s'.heap x v->Ds pl P B W fr env φ M s R v s'
noncomputable def FQ(pl:Pl)(P:QN)(B:QG)(W:P3->Prop)(fr:List Env)(Γ:aH)(env:Env)(φ:az)(M:AH)(s:PK)(Nx:an->AH->Prop)(R:V->AH->Prop):Flow->PK->Prop:=λ f s'=>match f with
 |.next=>Cp pl P B W fr Γ env φ M s Nx s'
 |.ret v=>Ds pl P B W fr env φ M s R v s'
 |_=>False
noncomputable def dZ(g:Gs)(Γ:aH)(N:Nm)(n:Nat)(ss:Ss)(body:List R9):Prop:=
 ∀W A fr env ρ φ M s Nx R X L,cj A (env::fr) n->env.scope.names=N->env.frame=some L->aC g.pl g.w.params W Γ env ρ φ M s.heap->St g.pl g.w.params g.B W (env::fr) φ M s->
  bq g.pl.P (ag g.pl.P n) ss ρ M Nx R X->PR (PW g.prog g.w) A (execs body env) (FQ g.pl g.w.params g.B W (env::fr) Γ env φ M s Nx R) (d5 g.pl g.w.params g.B W (env::fr) g.cls (EO env) φ M s X) s
inductive vB(g:Gs)(K:RH)(Hi:List V)(np:Nat)(v:PJ):Prop
 |mk (ds:List PJ):((v=.none/\ds=[])∨∃T oT m,v=.ref T/\K.lookup T=some oT/\oT.data=.seq ds.toArray m)->am g.pl g.w.params [] (λ zz=>False) g.B Hi ds->ds.length<=np->vB g K Hi np v
structure Cz(g:Gs)(K:RH)(f:Nat)(F:Fn)(Γ:aH)(o:Obj)(fd:Sx)(body:List R9)(ps:List Str):Prop where
 at_:K.lookup (g.pl.FG f)=some o
 data:o.data=.func fd
 code:codeIn K fd.code fd.qualname=true
 Kk:fd.body=.stmts body
 Ev:fd.closure=[]
 glob:fd.globals=P1
 bi:fd.builtins=QV
 kind:fd.scope.kind=.function
 gen:fd.scope.isGenerator=false
 co:fd.scope.isCoroutine=false
 p1:fd.params.posonlyargs=[]
 p2:fd.params.args.map (·.arg)=ps
 p3:fd.params.vararg=none
 p4:fd.params.kwonlyargs=[]
 p5:fd.params.kwarg=none
 nd:ps.Nodup
 np:ps.length=F.np
 Pd:∀i k,ps[i]? =some k->Γ.lookup k=some i
 inj:∀x y i,Γ.lookup x=some i->Γ.lookup y=some i->x=y
 knd:∀k∈ps,fd.scope.names.lookup k=some .local∨fd.scope.names.lookup k=some .cell
 IJ:∀x,fd.scope.names.lookup x≠some .free
 Hi:vB g K F.Ft ps.length fd.defaults
theorem an.ID:∀(a:an) (x:Option V) (r:an) (v:V),an.put (a++x::r) a.length v=a++some v::r:=by
 intro a
 induction a with
 |nil=>
  intro x r v
  exact rfl
 |cons y a ih=>
  intro x r v
  show y::an.put (a++x::r) a.length v=_;refine aa (ih x r v) ?_;rfl
theorem an.get_none(k i:Nat):an.get (Qn k none) i=none:=by
 induction k generalizing i with
 |zero=>rfl
 |succ k ih=>cases i with
  |zero=>rfl
  |succ i=>exact ih i
theorem rL:∀(names:List (Str×RV)) (b:Nat) (acc:List (Str×P3)) (x:Str),(x,S6)∈names∨(acc.lookup x).isSome=true->((S8 b names acc).lookup x).isSome=true:=by
 intro names
 induction names with
 |nil=>
  intro b acc x h
  exact h.elim (λ h=>by cases h) id
 |cons y1 r ih=>
  obtain⟨n,k⟩:=y1
  intro b acc x h
  unfold S8
  split
  ·rename_i hk
   refine ih _ _ x ?_
   rcases h with h|h
   ·rcases PS.mp h with e|h
    ·cases e;right;refine aa Ql ?_;simp
    ·exact .inl h
   ·right
    refine aa Ql ?_
    cases x==n
    ·exact h
    ·rfl
  ·rename_i hk
   refine ih _ _ x (h.imp (λ h=> ?_) id)
   rcases PS.mp h with e|h
   ·cases e;exact absurd rfl hk
   ·exact h
section
variable{g:Gs}{K:RH}{Γ:aH}{N:Nm}{n:Nat}{W:P3->Prop}{A:Qx}{fr:List Env}{env:Env}{ρ:an}{φ:az}{M:AH}{s:PK}{E0:PJ->PK->Prop}{M0:TX}
theorem wj(f:Str×PJ->PUnit->Sem (ForInStep PUnit))(hf:∀n v u,f (n,v) u=(do Xr env n v;pure (.yield ⟨⟩))):
  ∀(ps:List Str) (vals:List PJ) (vs pre:List V) (k:Nat) (s:PK) (Q:PUnit->PK->Prop),aC g.pl g.w.params W Γ env (pre.map some++Qn (ps.length+k) none) φ M s.heap->St g.pl g.w.params g.B W fr φ M s->
   (∀b,EO env b->W b)->(∀(i:Nat) (p:Str),ps[i]? =some p->Γ.lookup p=some (pre.length+i))->(∀p∈ps,env.kindOf p=some .local∨env.kindOf p=some .cell)->am g.pl g.w.params φ (ow W φ M) s.heap vs vals->vs.length=ps.length->
   (∀s',aC g.pl g.w.params W Γ env ((pre++vs).map some++Qn k none) φ M s'.heap->St g.pl g.w.params g.B W fr φ M s'->av (EO env) φ M s φ M s'->Q ⟨⟩ s')->PR M0 A (forIn (ps.zip vals) ⟨⟩ f) Q E0 s:=by
 intro ps
 induction ps with
 |nil=>
  intro vals vs pre k s Q er st hW hg hk hv hl h
  obtain rfl:vs=[]:=by cases vs with|nil=>rfl|cons _ _=>simp at hl
  refine aa List.zip_nil_left ?_;refine aa RL ?_
  exact PB (h s (by simpa using er) st .refl)
 |cons p ps ih=>
  intro vals vs pre k s Q er st hW hg hk hv hl h
  cases vs with
  |nil=>simp at hl
  |cons v vs=>
   obtain⟨x,xs,rfl,r1,r2⟩:=hv
   refine aa Qi ?_;rewrite[Q3];refine aa (hf _ _ _) ?_
   refine Py (Py (fF (i:=pre.length) (x:=v) er st (hg 0 p rfl) (hk p (.head _)) r1 λ s' KR G2 Jc=>PB ?_))
   have e1:an.put (pre.map some++Qn ((p::ps).length+k) none) pre.length v=(pre++[v]).map some++Qn (ps.length+k) none:=by
    have e0:(p::ps).length+k=(ps.length+k)+1:=by refine aa PN ?_;exact ae 0x306105244148185102 rfl ps.length k
    refine aa e0 ?_;refine aa List.replicate_succ ?_
    have:=an.ID (pre.map some) none (Qn (ps.length+k) none) v
    rw[PE] at this
    refine aa this ?_;simp
   rw[e1] at KR
   have Jc:=av.mono Jc λ b q zz=>bu.EO q
   refine ih xs vs (pre++[v]) k s' Q KR G2 hW (λ i q e=> ?_) (λ q hq=>hk q (.tail _ hq)) (r2.step Jc hW) (by simpa using hl) λ s2 ER Ez Ey=>h s2 ?_ Ez (Jc.trans Ey)
   ·have:=hg (i+1) q (by simpa using e)
    refine aa this ?_;refine aa PH ?_;simp;exact ae 0x305206144106149102 rfl pre.length i
   ·simpa using ER
theorem wA{scope:Xo}{ps:List Str}{vals:List PJ}{vs:List V}{k:Nat}{qual:Str}{func:Option P3}{code:PJ}{Q:Env->PK->Prop}
  (hkind:scope.kind=.function)(JM:∀x,scope.names.lookup x≠some .free)(inj:∀x y i,Γ.lookup x=some i->Γ.lookup y=some i->x=y)
  (hgam:∀(i:Nat) (p:Str),ps[i]? =some p->Γ.lookup p=some i)(hks:∀p∈ps,scope.names.lookup p=some .local∨scope.names.lookup p=some .cell)
  (st:St g.pl g.w.params g.B W fr φ M s)(hv:am g.pl g.w.params φ (ow W φ M) s.heap vs vals)(hl:vs.length=ps.length)
  (hQ:∀env W' s' L,env.scope=scope->env.frame=some L->(∀b,W b->W' b)->(∀b,W' b->W b∨s.heap.get? b=none)->(∀b,EO env b->s.heap.objs.size<=b)->
   aC g.pl g.w.params W' Γ env (vs.map some++Qn k none) φ M s'.heap->St g.pl g.w.params g.B W' (env::fr) φ M s'->av bt φ M s φ M s'->Q env s'):
  PR M0 A (SA scope P1 [] (ps.zip vals) qual func code none QV) Q E0 s:=by
 simp only [SA,WE,P4,if_false]
 refine Py (UM ?_)
 refine Py (wpAny_layCells _ (λ name kind cells=>by cases hkc:kind==S6<;>simp[hkc]) _ _ _ _ ?_)
 have ok:=cellsFrom_ok scope.names (s.heap.push {cls:=.type "frame",data:=.dict #[]}) (s.heap.objs.size+1) [] ⟨λ zz zz hm=>(nomatch hm),VE⟩ (by refine aa (Qb _ _) ?_;exact PC _)
 rw[Qb] at ok
 refine aa (show({s with heap:=s.heap.push {cls:=.type "frame",data:=.dict #[]}}:PK).heap.objs.size=s.heap.objs.size+1 from Qb ..) ?_
 generalize hcs:S8 (s.heap.objs.size+1) scope.names []=cs at ok ⊢
 generalize hs1:({s with heap:=Xu (s.heap.push {cls:=.type "frame",data:=.dict #[]}) scope.names}:PK)=s1
 have Fj:s1.heap=Xu (s.heap.push {cls:=.type "frame",data:=.dict #[]}) scope.names:=by refine aE hs1 ?_;rfl
 have IT:s1.os=s.os/\s1.gens=s.gens:=by refine aE hs1 ?_;exact⟨rfl,rfl⟩
 rw[<-Fj] at ok
 have hL:s1.heap.get? s.heap.objs.size=some {cls:=.type "frame",data:=.dict #[]}:=by refine aa Fj ?_;exact Sj _ _ _ _ (PM _ rfl)
 have ET:∀b o,s.heap.get? b=some o->s1.heap.get? b=some o:=λ b o e=>by refine aa Fj ?_;exact Sj _ _ _ _ (PA _ e)
 have IV:s1.heap.Ns s.heap.objs.size (λ zz=>none):=by
  have:=(X5 s.heap (.type "frame")).keeps (Sj scope.names _)
  refine aa Fj ?_;exact this
 clear hs1 Fj
 generalize henv:({scope,locals:=s.heap.objs.size,globals:=P1,cells:=cs,qual,func,code,frame:=some s.heap.objs.size,builtins:=QV}:Env)=env
 have e1:env.scope=scope:=by refine aE henv ?_;rfl
 have e2:env.locals=s.heap.objs.size:=by refine aE henv ?_;rfl
 have e3:env.frame=some s.heap.objs.size:=by refine aE henv ?_;rfl
 have e4:env.cells=cs:=by refine aE henv ?_;rfl
 have e5:env.globals=P1:=by refine aE henv ?_;rfl
 have e6:env.builtins=QV:=by refine aE henv ?_;rfl
 have MM:∀x,env.kindOf x=scope.names.lookup x:=λ x=>by unfold RD;refine aa e1 ?_;rfl
 clear henv
 have Ep:=st.ext (N:=λ b=>s.heap.get? b=none/\∃o,s1.heap.get? b=some o) ET λ b q=>q
 have Em:av bt φ M s φ M s1:=.ext ET IT.1 IT.2
 have Fk:∀b,s.heap.objs.size<=b->(∃o,s1.heap.get? b=some o)->W b∨(s.heap.get? b=none/\∃o,s1.heap.get? b=some o):=λ b q e=>.inr ⟨aT q,e⟩
 have EC:∀x c,cs.lookup x=some c->s1.heap.IsCell c none/\s.heap.objs.size+1<=c:=λ x c hc=>ok.empty x c (mem_of_lookup hc)
 have OX:∀x c,cs.lookup x=some c->W c∨(s.heap.get? c=none/\∃o,s1.heap.get? c=some o):=λ x c hc=>by
  obtain⟨⟨o,ho,_⟩,hle⟩:=EC x c hc
  exact Fk c (ae 0x905244148185102 rfl s.heap.objs.size c hle) ⟨o,ho⟩
 have EA:aC g.pl g.w.params (λ b=>W b∨(s.heap.get? b=none/\∃o,s1.heap.get? b=some o)) Γ env (([]:List V).map some++Qn (ps.length+k) none) φ M s1.heap:=by
  refine⟨by refine aa e1 ?_;exact hkind,e5,e6,inj,by refine aa e2 ?_;exact Fk _ (PC _) ⟨_,hL⟩,⟨_,by refine aa e2 ?_;exact IV,λ x i hi hx=> ?_⟩,λ x hx=> ?_,λ x y c hx hy=> ?_⟩
  ·show eS _ _ _ _ _ (an.get (Qn (ps.length+k) none) i) _
   refine aa (an.get_none _ _) ?_;trivial
  ·rw[MM] at hx
   rcases hx with hx|hx
   ·have hm:=rL scope.names (s.heap.objs.size+1) [] x (.inl (mem_of_lookup hx))
    rw[hcs] at hm
    obtain⟨c,hc⟩:=P2.mp hm
    refine⟨c,none,by refine aa e4 ?_;exact hc,OX x c hc,(EC x c hc).1,λ i hi=> ?_⟩
    show eS _ _ _ _ _ (an.get (Qn (ps.length+k) none) i) _
    refine aa (an.get_none _ _) ?_;trivial
   ·exact absurd hx (JM x)
  ·rw[e4] at hx hy
   exact name_of_addr ok.apart (mem_of_lookup hx) (mem_of_lookup hy)
 have Ez:St g.pl g.w.params g.B (λ b=>W b∨(s.heap.get? b=none/\∃o,s1.heap.get? b=some o)) (env::fr) φ M s1:=by
  refine⟨Ep.hr,Ep.base,⟨by refine aa e1 ?_;refine aa hkind ?_;decide,⟨_,_,e3,?_,hL,λ vs h=>by cases h⟩,Ep.frames⟩,λ en he L hf=> ?_,λ en he L hf=> ?_,Ep.FI,Ep.EW⟩
  ·exact Ep.EW _ (Fk _ (PC _) ⟨_,hL⟩)
  ·rcases PS.mp he with rfl|he
   ·rw[e3] at hf;cases hf;exact Fk _ (PC _) ⟨_,hL⟩
   ·exact Ep.Fg en he L hf
  ·rcases PS.mp he with rfl|he
   ·rw[e3] at hf;cases hf;exact aA _ hL rfl
   ·exact Ep.GH en he L hf
 have Ij:∀b,EO env b->s.heap.objs.size<=b/\∃o,s1.heap.get? b=some o:=λ b q=>by
  rcases q with q|⟨x,_,q⟩
  ·refine aa q ?_;refine aa e2 ?_;exact⟨PC _,_,hL⟩
  ·rw[e4] at q
   obtain⟨⟨o,ho,_⟩,hle⟩:=EC x b q
   exact⟨ae 0x905244148185102 rfl s.heap.objs.size b hle,o,ho⟩
 have Oq:am g.pl g.w.params φ (ow (λ b=>W b∨(s.heap.get? b=none/\∃o,s1.heap.get? b=some o)) φ M) s1.heap vs vals:=
  am.mono (Pz _) (λ b o e zz=>.inl (ET b o e)) (λ b q=>q.elim (λ q=>q.elim (λ q=>.inl (.inl q)) λ q=>.inr q.1) λ q=>.inl (.inr q)) hv
 refine Py (wj (W:=λ b=>W b∨(s.heap.get? b=none/\∃o,s1.heap.get? b=some o)) (env:=env) _ (λ zz zz zz=>rfl) ps vals vs [] k s1 _ EA Ez (λ b q=>Fk b (Ij b q).1 (Ij b q).2) (λ i p e=>by refine aa (hgam i p e) ?_;simp)
  (λ p hp=>by refine aa (MM _) ?_;exact hks p hp) Oq hl λ s2 ER Fh Ey=>PB ?_)
 exact hQ env _ s2 _ e1 e3 (λ b q=>.inl q) (λ b q=>q.imp id λ q=>q.1) (λ b q=>(Ij b q).1) ER Fh (Em.trans' Ey λ b q=>.inr (Ij b q).1)
end
section
variable{g:Gs}{tb:Tb}{K:RH}{Γ:aH}{N:Nm}{n:Nat}{W:P3->Prop}{A:Qx}{fr:List Env}{env:Env}{ρ:an}{φ:az}{M:AH}{s:PK}{E0:PJ->PK->Prop}{M0:TX}
theorem am.base(st:St g.pl g.w.params g.B W fr φ M s)(r:am g.pl g.w.params [] (λ zz=>False) g.B x v):am g.pl g.w.params φ (ow W φ M) s.heap x v:=
 am.mono ⟨φ,rfl⟩ (λ b o e zz=>.inl (st.base b o e)) (λ b q=>.inr (q.elim (st.EW b) (st.hr.new b))) r
theorem BS(fx:Fx g tb K)(fk:Cz g K f F Γ o fd body ps)(hP:g.pl.P.fn f=some F)(hb:dZ g Γ fd.scope.names n F.body body)
  (hA:gF A fr (n+1))(st:St g.pl g.w.params g.B W fr φ M s)(hv:am g.pl g.w.params φ (ow W φ M) s.heap vs xs)(hw:ag g.pl.P (n+1) f vs M Q X):
  Sh (PW g.prog g.w) A (.call (.ref (g.pl.FG f)) ⟨xs,[]⟩) (λ r s'=>match r with|.ok (.ret v)=>LQ g.pl g.w.params g.B W fr φ M s Q v s'|.ok _=>False|.error e=>LX g.pl g.w.params g.B W fr g.cls φ M s X e s') s:=by
 rw[ee,hP] at hw
 replace hw:aB (eQ F vs) _:=hw
 refine ai (aD hw) λ ρ hρ hw=> ?_
 unfold eQ at hρ
 split at hρ
 case isFalse=>cases hρ
 case isTrue hc=>
 cases hρ
 refine ei hc λ c1 c2 c3=> ?_;clear hc
 obtain⟨ds,hd,rd,Is⟩:=fk.Hi
 have hlen:=hv.length
 have Ir:=rd.length
 have KS:=fx.KS st
 refine XB (by have:=hA.depth;exact ae 0x90be80c7fd10be80c7fc18813e206149102 rfl A.depth n this) (KS _ _ fk.at_) fk.data fk.co fk.gen fk.Kk (codeRec_of KS fk.code) ?_
 refine rR fk.p1 fk.p2 fk.p3 fk.p4 fk.p5 fk.nd (ds:=ds) (hd.imp id λ⟨T,oT,m,e1,e2,e3⟩=>⟨T,oT,m,e1,KS _ _ e2,e3⟩) (by refine aa fk.np ?_;refine aa hlen ?_;exact c1) (by refine aa fk.np ?_;refine aa hlen ?_;refine aa Ir ?_;exact c2) Is ?_
 refine aa fk.glob ?_;refine aa fk.bi ?_;refine aa fk.Ev ?_
 have OT:am g.pl g.w.params φ (ow W φ M) s.heap (vs++F.Ft.drop (F.Ft.length-(F.np-vs.length))) (dx ps.length xs ds):=by
  unfold dx
  refine aa Ir ?_;refine aa fk.np ?_;refine aa hlen ?_
  exact am.append hv (am.base st (am.drop _ rd))
 refine wA (ps:=ps) (k:=F.slots-F.np) fk.kind fk.IJ fk.inj fk.Pd fk.knd st OT (by refine aa PH ?_;refine aa Qw ?_;refine aa fk.np ?_;exact ae 0x92434810820914934d10414d148149103 rfl vs.length F.np F.Ft.length c1 c2) λ env W' s1 L e1 e2 hW hW2 Ij EA Ep Em=> ?_
 refine⟨fx.nl.keeps Ep.base,codeAny_func ?_⟩
 have Iu:∀b,s1.heap.get? b=none->s.heap.get? b=none:=λ b q=>Em.dead q
 refine PT (hb W' _ fr env _ φ M s1 _ _ _ L (hA.deeper (env:=env)) (by refine aa e1 ?_;rfl) e2 EA Ep hw) (λ fl s2 h=> ?_) λ v s2 h=> ?_
 ·cases fl with
  |next=>
   obtain⟨ρ',φ2,M2,q,ER,Ez,Ey⟩:=h
   exact⟨.none,φ2,M2,q,st.back (fr':=[env]) Ez hW,Em.trans' Ey λ b q=>.inr (Ij b q),rfl⟩
  |ret v=>
   obtain⟨x,φ2,M2,q,Ez,Ey,r⟩:=h
   exact⟨x,φ2,M2,q,st.back (fr':=[env]) Ez hW,Em.trans' Ey λ b q=>.inr (Ij b q),VR.set (λ b q=>.inl (hW b q)) r⟩
  |_=>exact h.elim
 ·obtain⟨e,φ2,M2,rfl,q,Ez,Ey,ex⟩:=h
  have sp:av bt φ M s φ2 M2 s2:=Em.trans' Ey λ b q=>.inr (Ij b q)
  refine yj (B:=g.B) (h0:=s.heap) (env:=env) (r:=fr) (by show A.frames.map (env:: ·)=_;refine aa hA.frames ?_;rfl) Ez.frames e2 (λ b q=>sp.dead q) (ex.le Iu) λ h' nt t=> ?_
  refine⟨e,φ2,M2,rfl,q,st.back (fr':=[env]) (Ez.Fa (λ b o e=>by refine aa (st.base b o e) ?_;rfl) nt) hW,sp.Fa Ez nt,ex.1|>Iu e,.inr (.inl t)⟩
end
noncomputable def Cy(g:Gs)(K:RH):Prop:=∀f F,g.pl.P.fn f=some F->∃Γ o fd body ps,Cz g K f F Γ o fd body ps/\∀n,jK g n->dZ g Γ fd.scope.names n F.body body
theorem yY{g:Gs}{tb:Tb}{K:RH}(fx:Fx g tb K)(h:Cy g K):∀n,jK g n:=by
 intro n
 induction n with
 |zero=>
  exact λ f vs xs W A fr φ M s Q X hA st hv hw=>(by rw[nM] at hw;exact hw.elim)
 |succ n ih=>
  exact λ f vs xs W A fr φ M s Q X hA st hv hw=>by
   have IP:=hw
   rw[ee] at IP
   refine ai (aD IP) λ F hF zz=> ?_
   refine DS (h f F hF) λ Γ o fd body ps fk hb=> ?_
   exact BS fx fk hF (hb n (ih)) hA st hv hw
section
variable{g:Gs}{tb:Tb}{K:RH}{Γ:aH}{N:Nm}{n:Nat}{W:P3->Prop}{A:Qx}{fr:List Env}{env:Env}{ρ:an}{φ:az}{M:AH}{s:PK}{E0:PJ->PK->Prop}
theorem yR(h:ag g.pl.P n f vs M Q X):∃F,g.pl.P.fn f=some F:=by
 cases n with
 |zero=>rw[nM] at h;exact h.elim
 |succ n=>rw[ee] at h;refine ai (aD h) λ F hF zz=> ?_;exact⟨F,hF⟩
theorem lu(fx:Fx g tb K)(hc:jK g n)(hA:cj A fr n)(st:St g.pl g.w.params g.B W fr φ M s)(hv:am g.pl g.w.params φ (ow W φ M) s.heap vs xs)(hw:ag g.pl.P n f vs M Q X):
  PR (PW g.prog g.w) A (call (.ref (g.pl.FG f)) xs) (LQ g.pl g.w.params g.B W fr φ M s Q) (LX g.pl g.w.params g.B W fr g.cls φ M s X) s:=by
 refine Ur ?_
 exact hc f vs xs W A fr φ M s Q X hA.Km st hv hw
theorem dh(fx:Fx g tb K)(hes:dz g Γ N n es xs)(hx:xs.all aw=true)(hA:cj A fr n)(hN:env.scope.names=N)(er:aC g.pl g.w.params W Γ env ρ φ M s.heap)(st:St g.pl g.w.params g.B W fr φ M s)
  (h:fo g.pl.P (ag g.pl.P n) es ρ M Q1 X)
  (k:∀vs ys s1 φ1 M1,Q1 ys M1->vs.length=xs.length->St g.pl g.w.params g.B W fr φ1 M1 s1->av bt φ M s φ1 M1 s1->am g.pl g.w.params φ1 (ow W φ1 M1) s1.heap ys vs->V7 K f=true/\PR (PW g.prog g.w) A (call f (first++vs)) R E0 s1)
  (he:∀v s',LX g.pl g.w.params g.B W fr g.cls φ M s X v s'->E0 v s'):PR (PW g.prog g.w) A (V3 pos f first (Tn pos (Rf xs env)) []) R E0 s:=by
 refine callWith_of (P:=λ h=>V7 K f=true/\K.In h) (by refine aa (kl hx) ?_;rfl) (λ h x=>keeps_K x.1 h x.2) (iR hx (qF hes hA hN er st h (λ vs ys s1 φ1 M1 q hlen Ep Em EA r1=> ?_) he))
 obtain⟨a,b⟩:=k vs ys s1 φ1 M1 q hlen Ep Em r1
 exact⟨⟨a,fx.KS Ep⟩,b⟩
theorem rg(fx:Fx g tb K)(h:ag g.pl.P n f vs M Q X):V7 K (.ref (g.pl.FG f))=true:=by
 obtain⟨F,hF⟩:=yR h
 exact fx.JA f F hF
theorem aj.call(fx:Fx g tb K)(hc:jK g n)(h:cC N x=true)(hk:tb.fns.lookup x=some f)(hes:dz g Γ N n es xs)(hx:xs.all aw=true):
  aj g Γ N n (.call f es) (.Call (.Name x p) xs [] pos):=by
 intro W A fr env ρ φ M s Q X hA hN er st hw
 refine We rfl (dU fx hN er st (bQ h).1 (bQ h).2 (fx.Mk x f hk) ?_)
 refine dh fx hes hx hA hN er st hw (λ vs ys s1 φ1 M1 q zz Ep Em r1=>⟨rg fx q,?_⟩) λ zz zz e=>e
 exact PT (lu fx hc hA Ep r1 q) (LQ.step Em) (LX.step Em)
theorem aj.Fu(fx:Fx g tb K)(hc:jK g n)(h:nE N Γ x i=true)(hes:dz g Γ N n es xs)(hx:xs.all aw=true):
  aj g Γ N n (.Fu i es) (.Call (.Name x p) xs [] pos):=by
 intro W A fr env ρ φ M s Q X hA hN er st hw
 refine ai (aD hw) λ v hv hw=> ?_
 refine We rfl ?_
 refine aS (α:=Unit) (aj.var (i:=i) h) hA hN er st (Q1:=λ u M1=>u=v/\M1=M) (X:=X) (by show aB (ρ.get i) _;refine aa hv ?_;exact⟨rfl,rfl⟩) (λ u x1 s1 φ1 M1 q1 Ep Em EA r1=> ?_) λ zz zz e=>e
 obtain⟨rfl,rfl⟩:=q1
 cases x1 with
 |fn f=>
  subst r1
  refine dh fx hes hx hA hN EA Ep hw (λ vs ys s2 φ2 M2 q zz Ez Ey r2=>⟨rg fx q,?_⟩) (LX.step Em)
  exact PT (lu fx hc hA Ez r2 q) (LQ.step (Em.trans Ey)) (LX.step (Em.trans Ey))
 |_=>exact TG hw
theorem aj.EJ(fx:Fx g tb K)(hc:jK g n)(ho:aj g Γ N n o xo)(hm:g.pl.FC m=nm)(hb:eE xo=true)(hes:dz g Γ N n es xs)(hx:xs.all aw=true)(hn:xs.length<30)(hl:(apos.endLine==pos.line)=true):
  aj g Γ N n (.EJ o m es) (.Call (.Attribute xo nm apos) xs [] pos):=by
 intro W A fr env ρ φ M s Q X hA hN er st hw
 subst hm
 refine g8 hb hx hn hl (aS (α:=Unit) ho hA hN er st hw (λ v x s1 φ1 M1 q1 Ep Em EA r1=> ?_) λ zz zz e=>e)
 refine ai (aD q1) λ f hf HI=> ?_
 refine ai (Rk.mp hf) λ HQ h1 h2=> ?_;rcases HQ with⟨c,vs⟩
 refine ai (Rk.mp h2) λ C' h5 h6=> ?_
 obtain⟨ad,d,Ge,k,C,rfl,g1,g2,hC,hlC,ke,rs⟩:=tT Ep r1 h1
 dsimp only at h5 h6
 rw[hC] at h5
 have e5:=PX h5
 rw[<-e5] at h6
 have ck:=fx.cls c C hC
 refine ei (ck.EJ m f h6) λ m1 m2 m3=> ?_
 have sh:shadowIn (some (QM Ge k)) (g.pl.FC m)=some false:=by
  obtain⟨z1,z2⟩:=wS ke λ q=>m3 (by rw[Uu] at q;exact WI q)
  show(lookIn (g.pl.FC m) (QM Ge k)).map _=_
  unfold lookIn
  dsimp only
  refine aa z1 ?_
  simp[z2]
 refine method_fn (fx.KS Ep) (uV g1 g2) ck.Ix ck.I8 m1 (beq_iff_eq.mp m2) sh ?_
 refine dh fx hes hx hA hN EA Ep HI (λ Hk ys s2 φ2 M2 q zz Ez Ey r2=>⟨rg fx q,?_⟩) (LX.step Em)
 exact PT (lu fx hc hA Ez (am.c ⟨_,_,rfl,r1.step Ey bG,r2⟩) q) (LQ.step (Em.trans Ey)) (LX.step (Em.trans Ey))
theorem gF.new(h:cj A fr n):gF (A.under (.builtin "type.__call__" ⟨.ref c::xs,[]⟩)) fr n:=by
 have hw:(Wo "type.__call__" ⟨.ref c::xs,[]⟩).weight=1:=by rfl
 have hu:(Wo "type.__call__" ⟨.ref c::xs,[]⟩).cUnits=1:=by rfl
 refine⟨h.handled,?_,?_,?_,?_⟩
 ·unfold X7
  dsimp only
  refine aa (pushEnvs_eq _ _) ?_;refine aa h.frames ?_;rfl
 ·unfold X7
  dsimp only
  refine aa (pushGuards_eq _ _) ?_;refine aa h.guards ?_;rfl
 ·show A.depth+_+_+_<_
  have:=h.depth
  refine aa hw ?_;exact ae 0x90be80c7fc18813e24818510be80c7fc18c13e249102 rfl A.depth n this
 ·show A.units+_+_+_<_
  have:=h.units
  refine aa hu ?_;exact ae 0x90a6ac0467e0fbc024fe09fa240c28853560233f07e80c7fc13f449102 rfl A.units n this
theorem AE(fx:Fx g tb K)(hc:jK g n)(hA:cj A fr n)(st:St g.pl g.w.params g.B W fr φ M s)(r:am g.pl g.w.params φ (ow W φ M) s.heap ys vs)
  (hw:cK g.pl.P (ag g.pl.P n) c ys M Q X):
  PR (PW g.prog g.w) A (call (.ref (g.pl.EB c)) vs) (LQ g.pl g.w.params g.B W fr φ M s Q) (LX g.pl g.w.params g.B W fr g.cls φ M s X) s:=by
 unfold cK at hw
 refine ai (aD hw) λ C hC hw=> ?_
 refine ai (aD hw) λ f hf hw=> ?_
 have ck:=fx.cls c C hC
 have KS:=fx.KS st
 obtain⟨i1,i2⟩:=ck.init f hf
 refine Ur ?_
 obtain⟨h,gn,d,t,os⟩:=s
 have FF:∀b o,h.get? b=some o->((h.push Wd).push (R2 (g.pl.EB c) h.objs.size)).get? b=some o:=λ b o e=>PA _ (PA _ e)
 have e1:((h.push Wd).push (R2 (g.pl.EB c) h.objs.size)).get? (h.objs.size+1)=some (R2 (g.pl.EB c) h.objs.size):=by
  have:=PM (h.push Wd) (o:=R2 (g.pl.EB c) h.objs.size) rfl
  rwa [Qb] at this
 have e2:((h.push Wd).push (R2 (g.pl.EB c) h.objs.size)).get? h.objs.size=some (QM [] 0):=PA _ (PM _ rfl)
 obtain⟨Ep,Em⟩:=St.alloc (p:=(h.objs.size+1,h.objs.size)) (o:=.inst c []) (s':=⟨(h.push Wd).push (R2 (g.pl.EB c) h.objs.size),gn,d,t,os⟩) st FF (RP _) (PC _) rfl rfl
  ⟨Nat.succ_ne_self _,[],0,C,e1,e2,hC,Rv _,rfl,rfl⟩
 have hp:(φ++[(h.objs.size+1,h.objs.size)])[M.next]? =some (h.objs.size+1,h.objs.size):=by
  refine aa (P6 (by refine aa st.hr.len ?_;exact PC _)) ?_;refine aa st.hr.len ?_;simp
 refine make_core (makes_of KS ck.makes) (Xx KS i1) (λ self=>bind_fn KS self i2) (.inl (by simp)) ?_
 refine Uh (hc f _ (.ref (h.objs.size+1)::vs) W _ fr _ _ _ _ _ (gF.new hA) Ep (am.c ⟨_,_,rfl,VR.r ⟨_,hp,rfl⟩,r.step Em bG⟩) hw) ?_
 intro rr s2 hr
 unfold InitBack
 cases rr with
 |error e=>exact LX.step Em _ _ hr
 |ok fl=>
  cases fl with
  |ret v=>
   obtain⟨x,φ2,M2,q,Ez,Ey,rx⟩:=hr
   cases x with
   |none=>
    cases hm:M2.m M.next with
    |none=>rw[hm] at q;exact TG q
    |some ob=>
     rw[hm] at q
     cases ob with
     |inst cl fs=>
      refine⟨rx,?_⟩
      rename type_of% q=>oqe;refine ei oqe λ HQ hl q=> ?_;clear oqe;subst HQ
      have Hs:φ2[M.next]? =some (h.objs.size+1,h.objs.size):=by
       obtain⟨tl,ht⟩:=Ey.pre
       refine aE ht ?_;refine aa (Qc (PL.mp hp).1) ?_;exact hp
      split at q
      ·exact⟨_,φ2,M2,q,Ez,Em.trans Ey,VR.r ⟨_,Hs,rfl⟩⟩
      ·have hs:(M2.m M.next).isSome=true:=by refine aa hm ?_;rfl
       refine ai (Ez.hr.at_ _ _ hm) λ p' Fw ro=> ?_
       rw[Hs] at Fw;cases Fw
       obtain⟨_,es,k,C',g1,g2,Ka,Gq,ke,rs⟩:=ro
       rw[hC] at Ka;cases Ka
       have no:=Ez.Gh hs Hs
       refine⟨_,φ2,_,q,Ez.kill.1,Em.trans (Ey.trans Ez.kill.2),?_⟩
       refine VR.o ?_
       exact⟨_,_,es,k,C,rfl,no.1,no.2,g1,g2,hC,by rw[hl,U2] at ke;exact ke,am.mono (Pz _) (λ b x e zz=>.inl e) (λ b z=>.inl (z.imp id eN)) rs⟩
     |_=>exact TG q
   |_=>exact TG q
  |_=>exact hr.elim
theorem aj.new(fx:Fx g tb K)(hc:jK g n)(h:cC N x=true)(hk:tb.Ha.lookup x=some c)(hes:dz g Γ N n es xs)(hx:xs.all aw=true):
  aj g Γ N n (.new c es) (.Call (.Name x p) xs [] pos):=by
 intro W A fr env ρ φ M s Q X hA hN er st hw
 refine We rfl (dU fx hN er st (bQ h).1 (bQ h).2 (fx.Kh x c hk) ?_)
 refine dh fx hes hx hA hN er st hw (λ vs ys s1 φ1 M1 q zz Ep Em r1=>⟨?_,?_⟩) λ zz zz e=>e
 ·unfold cK at q
  refine ai (aD q) λ C hC zz=> ?_
  exact(fx.cls c C hC).keep
 ·exact PT (AE fx hc hA Ep r1 q) (LQ.step Em) (LX.step Em)
end
section
variable{pl:Pl}{P:QN}{B:QG}{W Z:P3->Prop}{fr:List Env}{φ φ':az}{M M':AH}{s s':PK}
theorem jh{B h h':QG}:∀{l:List Env},(∀env∈l,∀L o,env.frame=some L->h.get? L=some o->h'.get? L=some o)->h.FunFrames B l->h'.FunFrames B l:=by
 intro l
 induction l with
 |nil=>
  intro y1 y2
  exact trivial
 |cons env r ih=>
  intro k y3
  refine ei y3 λ hk HP hr=> ?_;clear y3;rcases HP with⟨L,o,hf,hn,ho,hd⟩
  exact cg hk ⟨L,o,hf,hn,k env (.head _) L o hf ho,hd⟩ (ih (λ e he=>k e (.tail _ he)) hr)
theorem St.touched(x:St pl P B W fr φ M s)(hk:∀b o,s.heap.get? b=some o->¬Z b->s'.heap.get? b=some o)(hv:∀b,Z b->W b)(ha:∀b o,s.heap.get? b=some o->∃o',s'.heap.get? b=some o')
  (hF:∀env∈fr,∀L,env.frame=some L->¬Z L):St pl P B W fr φ M s':=by
 have hB:∀b o,B.get? b=some o->¬Z b:=λ b o e q=>by rw[x.EW b (hv b q)] at e;cases e
 refine⟨x.hr.same (λ b o e n=>.inl (hk b o e λ q=>n (.inl (hv b q)))) (λ b o q e=>hk b o e λ qv=>x.hr.ES b q (hv b qv)) (λ b q=>.inl q),λ b o e=>hk b o (x.base b o e) (hB b o e),
  jh (λ env he L o hf e=>hk L o e (hF env he L hf)) x.frames,x.Fg,λ env he L hf=>let⟨o,e,c⟩:=x.GH env he L hf;⟨o,hk L o e (hF env he L hf),c⟩,
  λ b q=>let⟨o,e⟩:=x.FI b q;ha b o e,x.EW⟩
theorem av.touched(hk:∀b o,s.heap.get? b=some o->¬Z b->s'.heap.get? b=some o)(ha:∀b o,s.heap.get? b=some o->∃o',s'.heap.get? b=some o')(ho:s'.os=s.os)(hg:s'.gens=s.gens):av Z φ M s φ M s':=
 ⟨Pz _,λ b o e zz nv=>.inl (hk b o e nv),λ zz q=>.inl q,ha,ho,hg⟩
end
structure ie(g:Gs)(A:Qx)(I:P3)(Z:P3->Prop)(tg:P8->Prop)(S:(P3->Prop)->az->AH->QG->List V->Prop):Prop where
 mono:∀{W W' φ φ' M M' h h' xs},φ<+:φ'->(∀b o,h.get? b=some o->¬ow W φ M b->b7 o (h'.get? b))->(∀b,ow W' φ' M' b->ow W φ M b∨h.get? b=none)->(∀b o,Z b->h.get? b=some o->bZ o (h'.get? b))->S W φ M h xs->S W' φ' M' h' xs
 next:∀{W fr φ M s x xs E target} {Q:PJ->PK->Prop},(∀b,Z b->W b)->(∀env∈fr,∀L,env.frame=some L->¬Z L)->tg target->St g.pl g.w.params g.B W fr φ M s->S W φ M s.heap (x::xs)->
  (∀v s',St g.pl g.w.params g.B W fr φ M s'->av Z φ M s φ M s'->VR g.pl g.w.params φ (ow W φ M) s'.heap x v->S W φ M s'.heap xs->Q v s')->
  PR (PW g.prog g.w) A (WM (.ref I)) (λ r s1=>∃v,r=some v/\PR (PW g.prog g.w) A (Uj target (.ref I) v) (λ zz s2=>Q v s2) E s1) E s
 done:∀{W φ M s E} {Q:Option PJ->PK->Prop},A.handled=none->S W φ M s.heap []->
  (∀h' tk,(∀b o,s.heap.get? b=some o->¬Z b->h'.get? b=some o)->Q none {s with heap:=h',toks:=tk})->PR (PW g.prog g.w) A (WM (.ref I)) Q E s
 again:∀{W φ M s xs E} {Q:PJ->PK->Prop},S W φ M s.heap xs->Q (.ref I) s->PR (PW g.prog g.w) A (Xp (.ref I)) Q E s
noncomputable def dT:P8->Prop
 |.Name _ _=>True
 |_=>False
noncomputable def ll:P8->Prop
 |.Tuple _ _ _=>True
 |_=>False
theorem oO(h:dT t)(it v:PJ):Uj t it v=pure ():=by
 cases t<;>first|rfl|exact h.elim
section
variable{pl:Pl}{P:QN}{B:QG}{W W₁ Z V:P3->Prop}{fr:List Env}{φ φ' φ₁:az}{M M' M₁:AH}{s s' s₁:PK}
theorem St.drop(y:St pl P B W₁ fr φ M s₁)(hk:∀b o,s₁.heap.get? b=some o->¬Z b->s'.heap.get? b=some o)(hZ:∀b,Z b->W₁ b)(hF:∀env∈fr,∀L,env.frame=some L->¬Z L/\W L)(hW:∀b,W b->W₁ b/\¬Z b):St pl P B W fr φ M s':=by
 refine⟨y.hr.same (λ b o e n=>.inl (hk b o e λ q=>n (.inl (hZ b q)))) (λ b o q e=>hk b o e λ qv=>y.hr.ES b q (hZ b qv)) (λ b q=>.inl (hW b q).1),λ b o e=>hk b o (y.base b o e) (λ q=>by rw[y.EW b (hZ b q)] at e;cases e),
  jh (λ env he L o hf e=>hk L o e (hF env he L hf).1) y.frames,λ env he L hf=>(hF env he L hf).2,λ env he L hf=>let⟨o,e,c⟩:=y.GH env he L hf;⟨o,hk L o e (hF env he L hf).1,c⟩,
  λ b q=>let⟨o,e⟩:=y.FI b (hW b q).1;⟨o,hk b o e (hW b q).2⟩,λ b q=>y.EW b (hW b q).1⟩
theorem av.drop(x:av V φ M s φ₁ M₁ s₁)(hk:∀b o,s₁.heap.get? b=some o->¬Z b->s'.heap.get? b=some o)(hZ:∀b,Z b->s.heap.get? b=none)(ho:s'.os=s₁.os)(hg:s'.gens=s₁.gens):av V φ M s φ₁ M₁ s':=by
 have nz:∀b o,s.heap.get? b=some o->¬Z b:=λ b o e q=>by rw[hZ b q] at e;cases e
 refine⟨x.pre,λ b o e n nv=> ?_,x.own,λ b o e=>let⟨o1,e1⟩:=x.alive b o e;⟨o1,hk b o1 e1 (nz b o e)⟩,ho.trans x.os,hg.trans x.gens⟩
 rcases x.keep b o e n nv with k|⟨c,sl,k⟩
 ·exact .inl (hk b o k (nz b o e))
 ·exact .inr ⟨c,sl,hk b _ k (nz b o e)⟩
theorem VR.drop(y:St pl P B W₁ fr φ M s₁)(hk:∀b o,s₁.heap.get? b=some o->¬Z b->s'.heap.get? b=some o)(hZ:∀b,Z b->W₁ b)(hW:∀b,W b->W₁ b)(r:VR pl P φ (ow W₁ φ M) s₁.heap x v):VR pl P φ (ow W φ M) s'.heap x v:=
 VR.mono (Pz _) (λ b o e n=>.inl (hk b o e λ q=>n (.inl (hZ b q)))) (λ b q=>q.elim (λ q=>.inl (.inl (hW b q))) λ q=>.inl (.inr q)) r
theorem am.HF(y:St pl P B W₁ fr φ M s₁)(hk:∀b o,s₁.heap.get? b=some o->¬Z b->s'.heap.get? b=some o)(hZ:∀b,Z b->W₁ b)(hW:∀b,W b->W₁ b)(r:am pl P φ (ow W₁ φ M) s₁.heap x v):am pl P φ (ow W φ M) s'.heap x v:=
 am.mono (Pz _) (λ b o e n=>.inl (hk b o e λ q=>n (.inl (hZ b q)))) (λ b q=>q.elim (λ q=>.inl (.inl (hW b q))) λ q=>.inl (.inr q)) r
end
section
variable{g:Gs}{A:Qx}{I ax:P3}{items:List PJ}
theorem m9(hs:Qp I h h')(hI:∃o,h'.get? I=some o):(∀b o,h.get? b=some o->¬(b=I)->h'.get? b=some o)/\∀b o,h.get? b=some o->∃o',h'.get? b=some o':=
 ⟨λ b o e n=>hs.extBut b o n e,λ b o e=>by
  by_cases q:b=I
  ·subst q;exact hI
  ·exact⟨o,hs.extBut b o q e⟩⟩
inductive Ck(g:Gs)(tup:Bool)(I ax:P3)(items:List PJ)(W:P3->Prop)(φ:az)(M:AH)(h:QG)(xs:List V):Prop
 |mk (i n:Nat):(if tup then h.IsTupleIter I ax i else h.IsListIter I ax i)->h.get? ax=some (if tup then iI items n else bb items n)->¬ow W φ M ax->ax≠I->am g.pl g.w.params φ (ow W φ M) h xs (items.drop i)->Ck g tup I ax items W φ M h xs
theorem am.Fy{pl:Pl}{P:QN}{φ:az}(r:am pl P φ o h (x::xs) (items.drop i)):∃v,items[i]? =some v/\VR pl P φ o h x v/\am pl P φ o h xs (items.drop (i+1)):=by
 obtain⟨v,t,e,r1,r2⟩:=r
 refine gq v ?_ r1 ?_
 ·have:=congrArg (λ l=>l[0]?) e
  simpa using this
 ·have:items.drop (i+1)=t:=by refine aE VK ?_;refine aa e ?_;rfl
  refine aa this ?_;exact r2
theorem am.FJ{pl:Pl}{P:QN}{φ:az}(r:am pl P φ o h [] (items.drop i)):items[i]? =none:=by
 have:items.length<=i:=WK.mp r
 exact TJ this
theorem ie.seq:ie g A I (λ b=>b=I) dT (Ck g tup I ax items) where
 mono:=by
  rintro W W' φ φ' M M' h h' xs hp hk ho hI ⟨i,n,hit,hax,no,ne,rs⟩
  refine⟨i,n,?_,?_,λ q=>(ho _ q).elim no (dK hax),ne,rs.mono hp hk ho⟩
  ·cases tup
   ·refine bz hit λ o e c r=> ?_;clear hit;exact gq o ((hI _ o rfl e).eq (by refine aa c ?_;simp)) c r
   ·refine bz hit λ o e c r=> ?_;clear hit;exact gq o ((hI _ o rfl e).eq (by refine aa c ?_;simp)) c r
  ·exact(hk ax _ hax no).eq (by cases tup;exact .list;exact .tup)
 next:=by
  rintro W fr φ M s x xs E target Q hZ hF ht st ⟨i,n,hit,hax,no,ne,rs⟩ k
  refine bz rs.Fy λ v hv r1 r2=> ?_
  have IR:items.toArray[i]? =some v:=by simpa using hv
  have fin:∀h',(if tup then h'.IsTupleIter I ax (i+1) else h'.IsListIter I ax (i+1))->Qp I s.heap h'->∃u,some v=some u/\PR (PW g.prog g.w) A (Uj target (.ref I) u) (λ zz s2=>Q u s2) E {s with heap:=h'}:=by
   intro h' E6 hs
   have hI:∃o,h'.get? I=some o:=by cases tup<;>(refine ai E6 λ o e zz=> ?_;clear E6;exact⟨o,e⟩)
   obtain⟨a1,a2⟩:=m9 hs hI
   have Ff:∀b o,s.heap.get? b=some o->¬ow W φ M b->b7 o (h'.get? b):=λ b o e nb=>.inl (a1 b o e λ q=>nb (.inl (hZ b q)))
   refine aA v rfl ?_
   refine aa ((oO ht) _ _) ?_
   refine PB (k v _ (st.touched (Z:=λ b=>b=I) (s':={s with heap:=h'}) a1 hZ a2 hF) (.touched a1 a2 rfl rfl) (r1.mono (Pz _) Ff λ b q=>.inl q) ⟨i+1,n,E6,a1 ax _ hax ne,no,ne,r2.mono (Pz _) Ff λ b q=>.inl q⟩)
  cases tup
  ·exact Xf hit ⟨_,hax,rfl,_,rfl⟩ IR λ h' a b=>fin h' a b
  ·exact wpAny_pyNext_tuple_item hit ⟨_,hax,rfl,_,rfl⟩ IR λ h' a b=>fin h' a b
 done:=by
  rintro W φ M s E Q hh ⟨i,n,hit,hax,no,ne,rs⟩ k
  have IR:items.toArray[i]? =none:=by have:=rs.FJ;simpa using this
  cases tup
  ·exact XA hh hit ⟨_,hax,rfl,_,rfl⟩ IR λ h' a=>k h' s.toks λ b o e nb=>a b o nb e
  ·exact wpAny_pyNext_tuple_end hh hit ⟨_,hax,rfl,_,rfl⟩ IR λ h' a=>k h' s.toks λ b o e nb=>a b o nb e
 again:=by
  rintro W φ M s xs E Q ⟨i,n,hit,hax,no,ne,rs⟩ k
  cases tup
  ·exact wpAny_pyIter_listiter hit k
  ·exact wpAny_pyIter_tupleiter hit k
inductive Co(I:P3)(c:Nat)(W:P3->Prop)(φ:az)(M:AH)(h:QG)(xs:List V):Prop
 |mk (a:Int) (n:Nat):xs=aZ a c n->IsRangeIter h I a n c->Co I c W φ M h xs
theorem ie.Fv:ie g A I (λ b=>b=I) dT (Co I c) where
 mono:=by
  rintro W W' φ φ' M M' h h' xs hp hk ho hI ⟨a,n,e,hit⟩
  exact⟨a,n,e,(hI _ _ rfl hit).eq (by simp)⟩
 next:=by
  rintro W fr φ M s x xs E target Q hZ hF ht st ⟨a,n,e,hit⟩ k
  cases n with
  |zero=>cases e
  |succ n=>
   cases e
   refine wpAny_pyNext_range_item hit (ae 0x14e06146001 rfl n) λ h' E6 hs=>⟨_,rfl,?_⟩
   obtain⟨a1,a2⟩:=m9 hs ⟨_,E6⟩
   refine aa ((oO ht) _ _) ?_
   refine PB (k _ _ (st.touched (Z:=λ b=>b=I) (s':={s with heap:=h',toks:=s.toks+1}) a1 hZ a2 hF) (.touched a1 a2 rfl rfl) (VR.i ⟨_,rfl⟩) ⟨a+c,n,rfl,?_⟩)
   have e2:((n+1:Nat):Int)-1=(n:Int):=ae 0x63910a138185101 rfl n
   rw[e2] at E6
   exact E6
 done:=by
  rintro W φ M s E Q hh ⟨a,n,e,hit⟩ k
  cases n with
  |zero=>exact wpAny_pyNext_range_end hh hit (ae 0x1203a000 rfl) λ h' a=>k h' s.toks λ b o e nb=>a b o nb e
  |succ n=>cases e
 again:=by
  rintro W φ M s xs E Q ⟨a,n,e,hit⟩ k
  exact wpAny_pyIter_rangeiter hit k
inductive Cv(g:Gs)(I d:P3)(kvs:List (Str×PJ))(ep:Nat)(W:P3->Prop)(φ:az)(M:AH)(h:QG)(xs:List V):Prop
 |mk (i:Nat) (ks:List String):h.IsKeyIter I d i kvs.length ep->h.DictAt (Ul g.prog g.w) d kvs ep->(∃es m,h.get? d=some (QM es m))->¬ow W φ M d->d≠I->xs=ks.map .str->(kvs.drop i).map (·.1)=ks.map PD->(∀k∈ks,k.length<=aq)->Cv g I d kvs ep W φ M h xs
theorem ie.keys:ie g A I (λ b=>b=I) dT (Cv g I d kvs ep) where
 mono:=by
  rintro W W' φ φ' M M' h h' xs hp hk ho hI ⟨i,ks,hit,hd,⟨es,m,hg⟩,no,ne,e,ek,hl⟩
  have Nl:h'.get? d=some (QM es m):=(hk d _ hg no).eq .dict
  refine⟨i,ks,?_,hd.at λ o e=> ?_,⟨es,m,Nl⟩,λ q=>(ho _ q).elim no (dK hg),ne,e,ek,hl⟩
  ·refine bz hit λ o e c r=> ?_;clear hit;exact gq o ((hI _ o rfl e).eq (by refine aa c ?_;simp)) c r
  ·rw[hg] at e;cases e;exact Nl
 next:=by
  rintro W fr φ M s x xs E target Q hZ hF ht st ⟨i,ks,hit,hd,⟨es,m,hg⟩,no,ne,e,ek,hl⟩ k
  cases ks with
  |nil=>cases e
  |cons k0 ks=>
   cases e
   cases hdr:kvs.drop i with
   |nil=>rw[hdr] at ek;cases ek
   |cons p r=>
    rw[hdr] at ek
    obtain⟨pk,pv⟩:=p
    simp only [PP,WL] at ek
    obtain⟨Pp,Pn⟩:=ek
    have hx:kvs[i]? =some (pk,pv):=by
     have:=congrArg (λ l=>l[0]?) hdr
     simpa using this
    refine wpAny_pyNext_dict_item hit hd hx λ key h' Lx E6 hs=>⟨key,rfl,?_⟩
    refine ai (id E6) λ o eo zz=> ?_
    obtain⟨a1,a2⟩:=m9 hs ⟨o,eo⟩
    refine aa ((oO ht) _ _) ?_
    obtain⟨t,rfl⟩:=TZ Lx
    refine PB (k _ _ (st.touched (Z:=λ b=>b=I) (s':={s with heap:=h'}) a1 hZ a2 hF) (.touched a1 a2 rfl rfl) (VR.s ⟨hl _ (.head _),t,by refine aa Pp ?_;rfl⟩) ⟨i+1,ks,E6,hd.extBut hs.extBut ne,⟨es,m,a1 d _ hg ne⟩,no,ne,rfl,?_,λ z hz=>hl z (.tail _ hz)⟩)
    have:kvs.drop (i+1)=r:=by refine aE VK ?_;refine aa hdr ?_;rfl
    refine aa this ?_;exact Pn
 done:=by
  rintro W φ M s E Q hh ⟨i,ks,hit,hd,⟨es,m,hg⟩,no,ne,e,ek,hl⟩ k
  cases ks with
  |cons _ _=>cases e
  |nil=>
   have hlen:kvs.length<=i:=by
    have:=congrArg Q2 ek
    simp at this;exact ae 0x905244380249102 rfl kvs.length i this
   exact wpAny_pyNext_dict_end hh hit hd (TJ hlen) λ h' a=>k h' s.toks λ b o e nb=>a b o nb e
 again:=by
  rintro W φ M s xs E Q ⟨i,ks,hit,_⟩ k
  exact wpAny_pyIter_keyiter hit k
end
inductive IQ(g:Gs)(A:Qx)(W:P3->Prop)(fr:List Env)(tg:P8->Prop)(φ:az)(M:AH)(s:PK)(Q:List V->AH->Prop)(iv:PJ)(s':PK):Prop
 |mk (I:P3) (Z:P3->Prop) (S:(P3->Prop)->az->AH->QG->List V->Prop) (xs:List V) (φ':az) (M':AH):iv=.ref I->Q xs M'->St g.pl g.w.params g.B (λ b=>W b∨Z b) fr φ' M' s'->av bt φ M s φ' M' s'->ie g A I Z tg S->(∀b,Z b->s.heap.get? b=none/\∃o,s'.heap.get? b=some o)->S (λ b=>W b∨Z b) φ' M' s'.heap xs->IQ g A W fr tg φ M s Q iv s'
noncomputable def fv(g:Gs)(Γ:aH)(N:Nm)(n:Nat)(it:It)(x:P8)(tg:P8->Prop):Prop:=
 ∀W A fr env ρ φ M s Q X E0,cj A fr n->env.scope.names=N->aC g.pl g.w.params W Γ env ρ φ M s.heap->St g.pl g.w.params g.B W fr φ M s->
  zq g.pl.P (ag g.pl.P n) it ρ M Q X->(∀v s',LX g.pl g.w.params g.B W fr g.cls φ M s X v s'->E0 v s')->
  PR (PW g.prog g.w) A (eval x env) (λ v s1=>PR (PW g.prog g.w) A (Xp v) (IQ g A W fr tg φ M s Q) E0 s1) E0 s
section
variable{g:Gs}{tb:Tb}{K:RH}{Γ:aH}{N:Nm}{n:Nat}{W:P3->Prop}{A:Qx}{fr:List Env}{env:Env}{ρ:an}{φ φ0:az}{M M0:AH}{s s0:PK}{E0:PJ->PK->Prop}
theorem IQ.push{Q:List V->AH->Prop}{o:Obj}{t:Nat}{tg:P8->Prop}{S:(P3->Prop)->az->AH->QG->List V->Prop}{xs:List V}(hf:o.isFreed=false)(st:St g.pl g.w.params g.B W fr φ M s)(sp:av bt φ0 M0 s0 φ M s)(q:Q xs M)(it:ie g A s.heap.objs.size (λ b=>b=s.heap.objs.size) tg S)
  (hS:∀W' h',(∀b,W' b->W b∨s.heap.objs.size=b)->h'.get? s.heap.objs.size=some o->(∀b o,s.heap.get? b=some o->h'.get? b=some o)->S W' φ M h' xs):IQ g A W fr tg φ0 M0 s0 Q (.ref s.heap.objs.size) {s with heap:=s.heap.push o,toks:=t}:=by
 have hk:∀b o',s.heap.get? b=some o'->(s.heap.push o).get? b=some o':=λ b o' e=>PA _ e
 have Ez:St g.pl g.w.params g.B (λ b=>W b∨b=s.heap.objs.size) fr φ M {s with heap:=s.heap.push o,toks:=t}:=
  st.ext (N:=λ b=>b=s.heap.objs.size) hk λ b q=>by subst q;exact⟨aT (PC _),_,PM _ hf⟩
 exact⟨_,_,S,xs,φ,M,rfl,q,Ez,sp.trans (.ext hk rfl rfl),it,λ b e=>by subst e;exact⟨sp.dead (aT (PC _)),_,PM _ hf⟩,hS _ _ (λ b q=>q.imp id Eq.symm) (PM _ hf) hk⟩
theorem tA(st:St g.pl g.w.params g.B W fr φ M s)(hW:∀b,W' b->W b∨s.heap.objs.size=b):∀b,ow W' φ M b->ow W φ M b∨s.heap.get? b=none:=
 λ b q=>q.elim (λ q=>(hW b q).elim (λ q=>.inl (.inl q)) λ q=>.inr (aT (S1 q))) λ q=>.inl (.inr q)
theorem qU(st:St g.pl g.w.params g.B W fr φ M s)(hW:∀b,W' b->W b∨s.heap.objs.size=b)(no:¬ow W φ M a)(gg:s.heap.get? a=some o):¬ow W' φ M a:=
 λ q=>(tA st hW a q).elim no λ e=>by rw[gg] at e;cases e
theorem wM{tup:Bool}{a:P3}{us:List V}{xs:List PJ}{m:Nat}{Q:List V->AH->Prop}{t:Nat}{o:Obj}(hf:o.isFreed=false)(st:St g.pl g.w.params g.B W fr φ M s)(sp:av bt φ0 M0 s0 φ M s)(q:Q us M)(no:¬ow W φ M a)
  (gg:s.heap.get? a=some (if tup then iI xs m else bb xs m))(rs:am g.pl g.w.params φ (ow W φ M) s.heap us xs)(hI:∀h':QG,h'.get? s.heap.objs.size=some o->if tup then h'.IsTupleIter s.heap.objs.size a 0 else h'.IsListIter s.heap.objs.size a 0):
  IQ g A W fr dT φ0 M0 s0 Q (.ref s.heap.objs.size) {s with heap:=s.heap.push o,toks:=t}:=
 IQ.push hf st sp q (ie.seq (tup:=tup) (ax:=a) (items:=xs)) λ W' h' hW e hk=>⟨0,m,hI h' e,hk _ _ gg,qU st hW no gg,SZ (P9 gg),rs.mono (Pz _) (λ b o e _=>.inl (hk b o e)) (tA st hW)⟩
theorem fv.it(h:aj g Γ N n e x):fv g Γ N n (.it e) x dT:=by
 intro W A fr env ρ φ M s Q X E0 hA hN er st hw hE
 refine aS (α:=Unit) h hA hN er st hw (λ v y s1 φ1 M1 q1 Ep Em EA r1=> ?_) hE
 clear hw er st EA h hA
 refine ai (aD q1) λ vs hv q=> ?_
 cases y<;>first|exact au hv|skip
 ·cases hv
  obtain⟨a,xs,m,rfl,no,gg,hl,rs⟩:=r1
  exact Ye ⟨_,gg,rfl,m,rfl⟩ (wM (tup:=true) (t:=s1.toks) rfl Ep Em q no gg rs λ h' e=>⟨_,e,rfl,rfl⟩)
 ·cases hv
  obtain⟨a,xs,m,rfl,no,gg,hl,rs⟩:=r1
  exact Vv (dD gg) (wM (tup:=false) (t:=s1.toks) rfl Ep Em q no gg rs λ h' e=>⟨_,e,rfl,rfl⟩)
theorem fv.keys(h:aj g Γ N n e x):fv g Γ N n (.keys e) x dT:=by
 intro W A fr env ρ φ M s Q X E0 hA hN er st hw hE
 refine aS (α:=Unit) h hA hN er st hw (λ v y s1 φ1 M1 q1 Ep Em EA r1=> ?_) hE
 refine ai (aD q1) λ d hd q1=> ?_
 cases rY hd
 obtain⟨a,es,m,rfl,no,gg,hl,ke,rs⟩:=r1
 obtain⟨ep,FS⟩:=(gL (prog:=g.prog) (w:=g.w) gg (cJ hl.nd) ke).dictAt
 refine wpAny_pyIter_dict hl.1 FS (IQ.push (t:=s1.toks) rfl Ep Em q1 (ie.keys (d:=a) (kvs:=(d.1.map PD).zip (es.map (·.val))) (ep:=ep)) λ W' h' hW e hk=>⟨0,d.1,⟨_,e,rfl,rfl⟩,FS.keep hk,⟨es,m,hk _ _ gg⟩,qU Ep hW no gg,SZ (P9 gg),rfl,eT (by refine aa (PE _) ?_;exact cB ke),hl.str⟩)
theorem tu(hc:0<c):SI a b c=if a<b then(b-a-1)/c+1 else 0:=by
 unfold SI
 refine aa (if_pos hc) ?_;rfl
theorem gI(h:cm i=true): -(2^29)<i/\i<2^29:=by
 have:=of_decide_eq_true h
 exact ae 0x91c58741fd1151361d07f0a1d07f39110 rfl i this
theorem wa(hc:0<c)(ha:cm a=true)(hb:cm b=true)(Gm:cm c=true):Vf a b c=true:=by
 have:=gI ha
 have:=gI hb
 have:=gI Gm
 unfold Vf
 refine aa (tu hc) ?_
 simp only [YN,PY,SJ,decide_eq_true_eq,beq_iff_eq,show c>0 from hc,if_true]
 split
 ·have h1:(b-a-1)/c<=b-a-1:=Int.ediv_le_self _ (by(rename_i z0;exact ae 0x910284245280549120 rfl a b z0))
  have h2:0<=(b-a-1)/c:=X0 (by(rename_i z0;exact ae 0x910284245280549120 rfl a b z0)) (by exact ae 0x911180546010 rfl c hc)
  (rename_i z0 z1 z2;exact ae 0x92492491c81c58fc1fc10a14d21010a14d2363f07f1a00615071c58fc1fc1854101854363f07f1c7163f07f4c44cd8fc1fc71c58fc1fd2112363f07f1c58fc1fd1111363f07f1148040a10914941c58741fd3153361d07f1c58741fd2152361d07f1c58741fd1151361d07f40 rfl a b c ((b-a-1)/c) z0 z1 this h1 h2)
 ·(rename_i z0 z1 z2;exact ae 0x92491c81c58fc1fc10a14d21010a14d2363f07f1a08071c58fc1fe0120363f07f1c7163f07f4c44cd8fc1fc71c58fc1fd2112363f07f1c58fc1fd1111363f07f1c58741fd3153361d07f1c58741fd2152361d07f1c58741fd1151361d07f30 rfl a b c z0 z1 this)
theorem Aj(hc:0<c):((if a<b then((b-a-1)/c+1).toNat else 0:Nat):Int)=SI a b c:=by
 refine aa (tu hc) ?_
 split
 ·have h2:0<=(b-a-1)/c:=X0 (by(rename_i z0;exact ae 0x910284245280549120 rfl a b z0)) (by exact ae 0x911180546010 rfl c hc)
  exact ae 0x918185138d06144446010 rfl ((b-a-1)/c) h2
 ·rfl
theorem l4{a b c:Int}{t u v:Tok}{tk:Nat}{Q:List V->AH->Prop}(st:St g.pl g.w.params g.B W fr φ M s)(sp:av bt φ0 M0 s0 φ M s)(hc:0<c)(ha:cm a=true)(hb:cm b=true)(Gm:cm c=true)
  (q:Q (aZ a c.toNat (if a<b then((b-a-1)/c+1).toNat else 0)) M):
  PR (PW g.prog g.w) A (Xp (.ref s.heap.objs.size)) (IQ g A W fr dT φ0 M0 s0 Q) E0 {s with heap:=s.heap.push {cls:=.type "range",data:=.fields #[.int a t,.int b u,.int c v]},toks:=tk}:=by
 have hk:∀b' o',s.heap.get? b'=some o'->(s.heap.push {cls:=.type "range",data:=.fields #[.int a t,.int b u,.int c v]}).get? b'=some o':=λ b' o' e=>PA _ e
 obtain⟨Ez,Ey⟩:=jE (t:=tk) hk st
 refine wpAny_pyIter_range (IsRange.new _ a b c t u v) (wa hc ha hb Gm) (IQ.push (t:=tk) rfl Ez (sp.trans Ey) q (ie.Fv (c:=c.toNat)) λ W' h' hW e hk=>⟨a,_,rfl,?_⟩)
 show h'.get? _=_
 refine aa e ?_;refine aa (Aj hc) ?_
 refine aa (Uo (by exact ae 0x911180546010 rfl c hc)) ?_;rfl
theorem fv.Fv(fx:Fx g tb K)(h:dz g Γ N n es xs)(hx:xs.all aw=true)(hb:dG N x (.type "range")=true):fv g Γ N n (.Fv es) (.Call (.Name x p) xs [] pos) dT:=by
 intro W A fr env ρ φ M s Q X E0 hA hN er st hw hE
 refine gM fx hN er st (cE hb).1 (cE hb).2 hx (qF h hA hN er st hw (λ vs ys s1 φ1 M1 q1 _ Ep Em EA r1=> ?_) hE)
 refine bz (aD q1) λ is hi zz q=> ?_
 obtain⟨js,hj,hi⟩:=aP hi
 have hI:=mj hj r1
 clear r1 hj EA er hw h hx hb hE q1
 cases hI with
 |nil=>exact au hi
 |cons a t hI=>
 cases hI with
 |nil=>
  obtain⟨hl,e⟩:=eI hi
  cases e
  refine call_range_1 (l4 (a:=0) (b:=a) (c:=1) Ep Em (by decide) (by decide) hl (by decide) ?_)
  refine aa (show(if(0:Int)<a then((a-0-1)/1+1).toNat else 0)=a.toNat by split<;>(first|refine aa (WA _) ?_;refine aa (U0 _) ?_;refine aa (Xl _ _) ?_;rfl|(rename_i z0;exact ae 0x24335180980546010 rfl a z0))) ?_;exact q
 |cons k u hI=>
 cases hI with
 |nil=>
  obtain⟨hl,e⟩:=eI hi
  cases e
  refine call_range_2 (l4 (a:=a) (b:=k) (c:=1) Ep Em (by decide) (af hl).1 (af hl).2 (by decide) ?_)
  refine aa (show(if a<k then((k-a-1)/1+1).toNat else 0)=(k-a).toNat by split<;>(first|refine aa (WA _) ?_;refine aa (Xl _ _) ?_;rfl|(rename_i z0;exact ae 0x24334245280980549120 rfl a k z0))) ?_;exact q
 |cons c v hI=>
 cases hI with
 |cons _ _ _=>exact au hi
 |nil=>
  obtain⟨hl,e⟩:=eI hi
  cases e
  obtain⟨hl,h3⟩:=af hl
  obtain⟨hl,h2⟩:=af hl
  obtain⟨h0,h1⟩:=af hl
  have b1:=gI h1
  have b2:=gI h2
  have b3:=gI h3
  have h0:=aJ h0
  refine call_range_3 (by lia) (l4 Ep Em h0 h1 h2 h3 q) (.inl (PyProof.noPylong_small (by(rename_i z0 z1 z2 z3 z4;exact ae 0x90a1e07f3911c58741fd1151361d07f10 rfl c b3))))
end
noncomputable def du(N:Nm)(x:Str):Bool:=N.lookup x==some .local||N.lookup x==some .cell
noncomputable def qY(Γ:aH)(N:Nm):List Nat->List P8->Bool
 |[],es=>bW es
 |i::is,es=>cy es λ e es=>cx e λ x zz=>Γ.lookup x==some i&&(du N x&&qY Γ N is es)
noncomputable def Bt(e:P8):List Str:=if h:e.ctorIdx=23 then RZ (motive_1:=λ zz=>List Str) e h λ x zz=>[x] else[]
noncomputable def fg:List P8->List Str
 |e::es=>Bt e++fg es
 |[]=>[]
noncomputable def cX(e:P8):List Str:=if h:e.ctorIdx=25 then Rc (motive_1:=λ zz=>List Str) e h λ es zz zz=>fg es else Bt e
noncomputable def cS(Γ:aH)(N:Nm)(t:jn)(e:P8):Bool:=match t with
 |.one i=>cx e λ x zz=>Γ.lookup x==some i&&du N x
 |.many is=>oE e λ es zz zz=>qY Γ N is es
inductive nS(Γ:aH)(N:Nm):List Nat->List P8->Prop
 |nil:nS Γ N [] []
 |cons {i:Nat} {is:List Nat} {x:Str} {p:Pos} {es:List P8}:Γ.lookup x=some i->du N x=true->nS Γ N is es->nS Γ N (i::is) (.Name x p::es)
theorem wC:∀{is:List Nat} {es:List P8},qY Γ N is es=true->nS Γ N is es:=by
 intro is
 induction is with
 |nil=>
  intro y1 h
  exact bl h .nil
 |cons y2 is ih=>
  intro y3 h
  exact bK h λ e es h=>bR (mo:=λ e=>nS Γ N _ (e::es)) h λ x p h=>.cons (ar (af h).1) (af (af h).2).1 (ih (af (af h).2).2)
inductive Cr(Γ:aH)(N:Nm):jn->P8->Prop
 |one {i:Nat} {x:Str} {p:Pos}:Γ.lookup x=some i->du N x=true->Cr Γ N (.one i) (.Name x p)
 |many {is:List Nat} {es:List P8} {k:Nat} {p:Pos}:nS Γ N is es->Cr Γ N (.many is) (.Tuple es k p)
theorem oL(h:cS Γ N t e=true):Cr Γ N t e:=by
 cases t with
 |one i=>exact bR h λ x p h=>.one (ar (af h).1) (af h).2
 |many is=>exact ng h λ es k p h=>.many (wC h)
section
variable{g:Gs}{tb:Tb}{K:RH}{Γ:aH}{N:Nm}{n:Nat}{W:P3->Prop}{A:Qx}{fr:List Env}{env:Env}{ρ ρ':an}{φ φ0:az}{M M0:AH}{s s0:PK}{E0:PJ->PK->Prop}{Md:TX}
theorem aC.FV(er:aC g.pl g.w.params W Γ env ρ φ M s.heap):∀b,EO env b->W b:=by
 rintro b (q|⟨x,hx,hc⟩)
 ·refine aa q ?_;exact er.Fd
 ·obtain⟨c,v,h1,h2,_⟩:=er.cell x (.inl hx)
  rw[hc] at h1;cases h1;exact h2
theorem wY(Fq:t≠it):∀(n i:Nat) (s:PK) (Q:List PJ->PK->Prop),s.heap.IsListIter it t i->s.heap.IsList t items->i+n<=items.size->
  (∀h',h'.IsListIter it t (i+n)->Qp it s.heap h'->Q ((items.toList.drop i).take n) {s with heap:=h'})->PR (PW g.prog g.w) A (draw (.ref it) n) Q E0 s:=by
 intro n
 induction n with
 |zero=>
  intro i s Q hit y1 y2 hQ
  exact PB (by simpa using hQ s.heap hit (Heap.SameBut.refl ..))
 |succ n ih=>
  intro i s Q hit ht hle hQ
  have EM:i<items.size:=ae 0x90934414c106149103 rfl i n items.size hle
  show PR _ _ (WM (.ref it)>>=_) Q E0 s
  refine Py (Xf hit ht (x:=items[i]) (by simp[EM]) λ h₁ IY GU=> ?_)
  refine Py (Qr (ih (i+1) _ _ IY (ht.extBut GU.extBut Fq) (ae 0x90530520614414c106149103 rfl i n items.size hle) λ h₂ LA Hq=>PB ?_))
  have hd:items.toList.drop i=items[i]::items.toList.drop (i+1):=by simp[VQ,EM]
  have:=hQ h₂ (by refine aa (show i+(n+1)=i+1+n by exact ae 0x305206144106149102 rfl i n) ?_;exact LA) (GU.trans Hq)
  rw[hd,List.take_succ_cons] at this
  exact this
theorem su(hh:A.handled=none)(ht:s.heap.IsList t items)
  (hQ:∀h',Heap.ExtBut s.heap.objs.size s.heap h'->Q items.toList {s with heap:=h'}):PR (PW g.prog g.w) A (XT (.ref t) items.size none) Q E0 s:=by
 have EM:t≠s.heap.objs.size:=by refine ai ht λ o ho zz=> ?_;clear ht;exact SZ (P9 ho)
 unfold XT
 refine Py ?_
 unfold notIterableAtAll
 refine Py (wpAny_specialOf ht.typeIs slot_list_iter.lookup (PB ?_))
 simp only [P4,if_false]
 refine Py (Qr (Vv ht ?_))
 refine Py (Qr (wY EM items.size 0 _ _ ⟨_,PM _ rfl,rfl,rfl⟩ (ht.push _) (ae 0x144146001 rfl items.size) λ h₁ IY GU=> ?_))
 have LP:TF items.size (List.drop 0 items.toList)=items.toList:=by refine aa XZ ?_;exact Qe (by simp)
 refine aa LP ?_;refine aa (if_neg (by simp)) ?_
 refine Py (Qr (XA hh IY ((ht.push _).extBut GU.extBut EM) (by simp) λ h₂ JY=> ?_))
 simp only [WE,P4,if_false]
 exact PB (hQ h₂ λ b o hb e=>JY b o hb (GU.extBut b o hb (PA _ e)))
theorem iV(hh:A.handled=none)(st:St g.pl g.w.params g.B W fr φ M s)(r:VR g.pl g.w.params φ (ow W φ M) s.heap x v)(hi:rh x=some vs)(hk:k=vs.length)
  (hQ:∀us h',(∀b o,s.heap.get? b=some o->h'.get? b=some o)->am g.pl g.w.params φ (ow W φ M) s.heap vs us->Q us {s with heap:=h'}):PR (PW g.prog g.w) A (XT v k none) Q E0 s:=by
 cases x<;>first|exact au hi|skip
 ·cases hi
  obtain⟨a,xs,m,rfl,_,gg,_,rs⟩:=r
  refine aa (show k=xs.toArray.size from hk.trans (rs.length.symm.trans PU.symm)) ?_
  exact wpAny_unpackItems_tuple hh ⟨_,gg,rfl,m,rfl⟩ λ h' he=>hQ xs h' (λ b o q=>he b o (SZ (P9 q)) q) rs
 ·cases hi
  obtain⟨a,xs,m,rfl,_,gg,_,rs⟩:=r
  refine aa (show k=xs.toArray.size from hk.trans (rs.length.symm.trans PU.symm)) ?_
  exact su hh (dD gg) λ h' he=>hQ xs h' (λ b o q=>he b o (SZ (P9 q)) q) rs
theorem aC.ext(er:aC g.pl g.w.params W Γ env ρ φ M s.heap)(hk:∀b o,s.heap.get? b=some o->h'.get? b=some o):aC g.pl g.w.params W Γ env ρ φ M h':=by
 refine⟨er.kind,er.glob,er.bi,er.inj,er.Fd,?_,λ n hn=> ?_,er.apart⟩
 ·obtain⟨m,hm,hl⟩:=er.loc
  exact⟨m,hm.keeps hk,λ n i hi hx=>(hl n i hi hx).mono (Pz _) (λ b o e zz=>.inl (hk b o e)) λ zz q=>.inl q⟩
 ·obtain⟨c,v,hc,hw,EC,hr⟩:=er.cell n hn
  exact⟨c,v,hc,hw,EC.keeps hk,λ i hi=>(hr i hi).mono (Pz _) (λ b o e zz=>.inl (hk b o e)) λ zz q=>.inl q⟩
theorem nB(hN:env.scope.names=N)(h:du N x=true):env.kindOf x=some .local∨env.kindOf x=some .cell:=by
 unfold RD
 refine aa hN ?_
 unfold du at h
 rw[SJ,beq_iff_eq,beq_iff_eq] at h
 exact h
theorem vO(hN:env.scope.names=N)(h:nS Γ N is es):∀{vs:List V} {xs:List PJ} {ρ ρ':an} {s:PK} {Q:Unit->PK->Prop},aC g.pl g.w.params W Γ env ρ φ M s.heap->St g.pl g.w.params g.B W fr φ M s->
  am g.pl g.w.params φ (ow W φ M) s.heap vs xs->ρ.Fm is vs=some ρ'->(∀s',aC g.pl g.w.params W Γ env ρ' φ M s'.heap->St g.pl g.w.params g.B W fr φ M s'->av (bu env (fg es)) φ M s φ M s'->Q () s')->
  PR Md A (assignInOrder ((TD es env).map (·.2)) xs) Q E0 s:=by
 induction h with
 |nil=>
  intro vs xs ρ ρ' s Q er st rs hp k
  cases vs with
  |cons _ _=>exact au hp
  |nil=>cases hp;exact PB (k s er st .refl)
 |cons h1 h2 _ ih=>
  intro vs xs ρ ρ' s Q er st rs hp k
  cases vs with
  |nil=>exact au hp
  |cons v vs=>
   obtain⟨u,us,rfl,r1,r2⟩:=rs
   refine Py (Qr (YC (fF er st h1 (nB hN h2) r1 λ s1 EA Ep Em=> ?_)))
   exact ih EA Ep (r2.step Em λ b q=>er.FV b (bu.EO q)) hp λ s2 ER Ez Ey=>k s2 ER Ez ((Em.mono λ b q zz=>bu.sub (λ y hy=>TS _ hy) q).trans (Ey.mono λ b q zz=>bu.sub (λ y hy=>Wq _ hy) q))
theorem l5:∀{is:List Nat} {vs:List V} {ρ ρ':an},ρ.Fm is vs=some ρ'->is.length=vs.length:=by
 intro is
 induction is with
 |nil=>
  intro y1
  cases y1 with
  |nil=>
   intro y2 y3 y4
   exact rfl
  |cons y5 y6=>
   intro y7 y8 h
   exact au h
 |cons i is ih=>
  intro y9
  cases y9 with
  |nil=>
   intro G0 Gt h
   exact au h
  |cons v vs=>
   intro ρ ρ' h
   exact congrArg (· +1) (ih (vs:=vs) (ρ:=ρ.put i v) h)
structure Ej(env:Env)(is:List Nat)(es:List P8):Prop where
 len:es.length=is.length
 each:(TD es env).length=is.length
 find:(TD es env).findIdx? (·.1)=none
theorem uT(env:Env)(h:nS Γ N is es):Ej env is es:=by
 induction h with
 |nil=>exact⟨rfl,rfl,rfl⟩
 | @cons i is x p es h1 h2 _ ih=>
  refine⟨congrArg (· +1) ih.len,congrArg (· +1) ih.each,?_⟩
  show((false,Xq (.Name x p) env)::TD es env).findIdx? (·.1)=none
  refine aa List.findIdx?_cons ?_;refine aa ih.find ?_;rfl
theorem iE(hm:cS Γ N t target=true)(hh:A.handled=none)(hN:env.scope.names=N)(er:aC g.pl g.w.params W Γ env ρ φ M s.heap)(st:St g.pl g.w.params g.B W fr φ M s)(r:VR g.pl g.w.params φ (ow W φ M) s.heap x v)
  (hb:dF t x ρ=some ρ')(k:∀s',aC g.pl g.w.params W Γ env ρ' φ M s'.heap->St g.pl g.w.params g.B W fr φ M s'->av (bu env (cX target)) φ M s φ M s'->Q () s'):PR (PW g.prog g.w) A (Xq target env v) Q E0 s:=by
 cases oL hm with
 |one h1 h2=>
  cases hb
  exact YC (fF er st h1 (nB hN h2) r k)
 | @many is es a pos hq=>
  obtain⟨vs,hi,hp⟩:=aP hb
  have hl:=uT env hq
  show PR _ _ (Su pos>>=λ zz=>unpack v (TD es env)) _ _ _
  refine Py (QF ?_)
  unfold unpack
  refine aa hl.each ?_;refine aa hl.find ?_
  refine Py (Qr (iV hh st r hi (l5 hp) λ us h' hk rs=> ?_))
  have Ep:St g.pl g.w.params g.B W fr φ M {s with heap:=h'}:=st.Gn hk
  exact vO (s:={s with heap:=h'}) hN hq (er.ext hk) Ep (rs.ext hk) hp λ s2 ER Ez Ey=>k s2 ER Ez ((av.ext (s':={s with heap:=h'}) hk rfl rfl).trans Ey)
end
noncomputable def bd(g:Gs)(Γ:aH)(N:Nm)(n:Nat)(st:S)(x:R9):Prop:=
 ∀W A fr env ρ φ M s Nx R X L,cj A (env::fr) n->env.scope.names=N->env.frame=some L->aC g.pl g.w.params W Γ env ρ φ M s.heap->St g.pl g.w.params g.B W (env::fr) φ M s->
  Dm g.pl.P (ag g.pl.P n) st ρ M Nx R X->PR (PW g.prog g.w) A (exec x env) (FQ g.pl g.w.params g.B W (env::fr) Γ env φ M s Nx R) (d5 g.pl g.w.params g.B W (env::fr) g.cls (EO env) φ M s X) s
section
variable{g:Gs}{tb:Tb}{K:RH}{Γ:aH}{N:Nm}{n:Nat}{W V:P3->Prop}{A:Qx}{fr:List Env}{env:Env}{ρ ρ':an}{φ φ1 φ0:az}{M M1 M0:AH}{s s1 s0:PK}{E0:PJ->PK->Prop}{Md:TX}
theorem FQ.step(x:av (EO env) φ M s φ1 M1 s1):∀f s',FQ g.pl g.w.params g.B W fr Γ env φ1 M1 s1 Nx R f s'->FQ g.pl g.w.params g.B W fr Γ env φ M s Nx R f s':=by
 intro f s' h
 cases f with
 |next=>obtain⟨ρ',φ',M',q,er,st,sp⟩:=h;exact⟨ρ',φ',M',q,er,st,x.trans sp⟩
 |ret v=>obtain⟨y,φ',M',q,st,sp,r⟩:=h;exact⟨y,φ',M',q,st,x.trans sp,r⟩
 |_=>exact h.elim
theorem d5.step(x:av V φ M s φ1 M1 s1):∀v s',d5 g.pl g.w.params g.B W fr g.cls V φ1 M1 s1 X v s'->d5 g.pl g.w.params g.B W fr g.cls V φ M s X v s':=
 λ zz zz h=>h.casesOn λ e φ' M' a b c d f=>⟨e,φ',M',a,b,c,x.trans d,f.le λ zz q=>x.dead q⟩
theorem LX.p:∀v s',LX g.pl g.w.params g.B W fr g.cls φ M s X v s'->d5 g.pl g.w.params g.B W fr g.cls V φ M s X v s':=
 λ zz zz h=>h.casesOn λ e φ' M' a b c d f=>⟨e,φ',M',a,b,c,d.wide,f⟩
theorem dZ.nil:dZ g Γ N n .nil []:=by
 intro W A fr env ρ φ M s Nx R X L hA hN hL er st hw
 exact RJ ⟨ρ,φ,M,hw,er,st,.refl⟩
theorem dZ.cons{x:S}{r:Ss}{y:R9}{ys:List R9}(h1:bd g Γ N n x y)(h2:dZ g Γ N n r ys):dZ g Γ N n (.cons x r) (y::ys):=by
 intro W A fr env ρ φ M s Nx R X L hA hN hL er st hw
 refine RX (PT (h1 W A fr env ρ φ M s _ R X L hA hN hL er st hw) (λ f s1 h=> ?_) λ zz zz e=>e)
 cases f with
 |next=>
  obtain⟨ρ',φ',M',q,EA,Ep,Em⟩:=h
  exact PT (h2 W A fr env ρ' φ' M' s1 Nx R X L hA hN hL EA Ep q) (FQ.step Em) (d5.step Em)
 |ret v=>exact h
 |_=>exact h.elim
theorem fz(M:AH)(x:Mine.V):(bf M x).2=M∨∃i,(bf M x).2=M.kill i:=by
 cases x with
 |ref i=>
  show(Yi ((M.m i).bind mq) (V.ref i,M) λ v=>(v,M.kill i)).2=M∨∃j,(Yi ((M.m i).bind mq) (V.ref i,M) λ v=>(v,M.kill i)).2=M.kill j
  cases(M.m i).bind mq with
  |none=>exact .inl rfl
  |some v=>exact .inr ⟨i,rfl⟩
 |_=>exact .inl rfl
theorem u1(q:own φ (bf M x).2 b):own φ M b:=by
 rcases fz M x with e|⟨i,e⟩<;>rw[e] at q
 ·exact q
 ·exact eN q
theorem eS.freeze(st:St g.pl g.w.params g.B W fr φ M s)(hx:ρ.get i=some x)(h:eS g.pl g.w.params φ (ow W φ M) s.heap (ρ.get j) u):eS g.pl g.w.params φ (ow W φ (bf M x).2) s.heap ((ρ.put i (bf M x).1).get j) u:=by
 by_cases e:j=i
 ·subst e
  rw[hx] at h
  obtain⟨y,hy,r⟩:=h
  rcases an.Fs ρ (i:=j) (bf M x).1 with e|e<;>refine aa e ?_
  ·exact⟨y,hy,(st.freeze r).2.2⟩
  ·trivial
 ·refine aa (an.EN ρ _ e) ?_
  exact h.mono (Pz _) (λ b o e zz=>.inl e) λ b q=>.inl (q.imp id u1)
theorem aC.freeze(er:aC g.pl g.w.params W Γ env ρ φ M s.heap)(st:St g.pl g.w.params g.B W fr φ M s)(hx:ρ.get i=some x):aC g.pl g.w.params W Γ env (ρ.put i (bf M x).1) φ (bf M x).2 s.heap:=by
 refine⟨er.kind,er.glob,er.bi,er.inj,er.Fd,?_,λ n hn=> ?_,er.apart⟩
 ·obtain⟨m,hm,hl⟩:=er.loc
  exact⟨m,hm,λ n j hj hk=>eS.freeze st hx (hl n j hj hk)⟩
 ·obtain⟨c,v,hc,hw,EC,hr⟩:=er.cell n hn
  exact⟨c,v,hc,hw,EC,λ j hj=>eS.freeze st hx (hr j hj)⟩
theorem St.Ie(st:St g.pl g.w.params g.B W fr φ M s):St g.pl g.w.params g.B W fr φ (bf M x).2 s/\av bt φ M s φ (bf M x).2 s:=by
 rcases fz M x with e|⟨i,e⟩<;>refine aa e ?_
 ·exact⟨st,.refl⟩
 ·exact st.kill
theorem dZ.Iy(h:dZ g Γ N n r ys):dZ g Γ N n (.cons (.Iy i) r) ys:=by
 intro W A fr env ρ φ M s Nx R X L hA hN hL er st hw
 refine ai (aD hw) λ v hv q=> ?_
 obtain⟨Ep,Em⟩:=St.Ie (x:=v) st
 exact PT (h W A fr env _ φ _ s Nx R X L hA hN hL (er.freeze st hv) Ep q) (FQ.step Em.wide) (d5.step Em.wide)
theorem bd.ret(h:aj g Γ N n e x):bd g Γ N n (.ret e) (.Return (some x) pos):=by
 intro W A fr env ρ φ M s Nx R X L hA hN hL er st hw
 refine wpAny_Return_some (PT (h W A _ env ρ φ M s R X hA hN er st hw) (λ v s1 h=>h.casesOn λ y φ1 M1 q Ep Em r=>⟨y,φ1,M1,q,Ep,Em.wide,r⟩) LX.p)
theorem bd.ED(ht:bA g Γ N n t xt)(ha:dZ g Γ N n a xa)(hb:dZ g Γ N n b xb):bd g Γ N n (.ED t a b) (.If xt xa xb pos):=by
 intro W A fr env ρ φ M s Nx R X L hA hN hL er st hw
 refine wpAny_If (iK ht hA hN er st hw (λ b s1 φ1 M1 q Ep Em EA=> ?_) LX.p)
 cases b with
 |true=>
  refine aa (if_pos rfl) ?_
  exact PT (ha W A fr env ρ φ1 M1 s1 Nx R X L hA hN hL EA Ep (q.1 rfl)) (FQ.step Em.wide) (d5.step Em.wide)
 |false=>
  refine aa (if_neg (by decide)) ?_
  exact PT (hb W A fr env ρ φ1 M1 s1 Nx R X L hA hN hL EA Ep (q.2 rfl)) (FQ.step Em.wide) (d5.step Em.wide)
noncomputable def iD:P8->Option Xo
 |.ListComp _ _ s _|.SetComp _ _ s _|.DictComp _ _ _ s _=>some s
 |_=>none
noncomputable def fP(N:Nm)(value target:P8)(line:Nat):Bool:=bD (iD value) λ sc=>cx target λ t pos=>
 N.lookup t==some .local&&pos.line==line&& !(sc.names.any λ(n,k)=>n==t&&(k==.local||k==.cell))
theorem qf(hN:env.scope.names=N)(hk:env.scope.kind=.function)(h:fP N value target value.pos.line=false):W3 [target] value line env=pure false:=by
 have J0:env.blockKind=.function:=by unfold Wj;refine aa hk ?_;rfl
 have Ly:∀x,env.kindOf x=N.lookup x:=λ x=>by unfold RD;refine aa hN ?_;rfl
 show RT value (some target) line env=pure false
 cases value<;>first|rfl|skip
 all_goals
  by_cases ht:target.ctorIdx=23
  ·revert h
   refine RZ (motive_1:=λ target=>fP N _ target _=false->RT _ (some target) line env=pure false) target ht λ t pos h=> ?_
   unfold RT
   dsimp only
   refine aa J0 ?_;refine aa (Ly _) ?_
   exact congrArg pure h
  ·cases target<;>first|exact absurd rfl ht|rfl
noncomputable def vN(kd:Str->Option RV)(ts vs:List P8):Option (Option (List Str)):=
  if !(ts.length==2||ts.length==3)||vs.length !=ts.length then some none
  else if vs.any λ|.Starred .. =>true|_=>false then some none
  else
   let line:=(ts.head?.map (·.pos.line)).getD 0
   let names:=ts.filterMap λ
    |.Name id pos=>if kd id==some .local&&pos.line==line then some id else none
    |_=>none
   if names.length !=ts.length||names.eraseDups.length !=names.length then some none
   else if vs.all (foldedForSure 8) then some none
   else if vs.all (constantsAlone 8) then none
   else some (some names)
theorem A8(hk:env.scope.kind=.function)(h:vN env.kindOf ts vs=some r):TN [.Tuple ts k1 p1] (.Tuple vs k2 p2) env=pure r:=by
 have J0:(env.blockKind !=.function)=false:=by unfold Wj;refine aa hk ?_;rfl
 unfold TN
 dsimp only
 refine aa J0 ?_;refine aa (Ym _) ?_
 unfold vN at h
 split at h
 ·rename_i c;cases h;exact if_pos c
 ·rename_i c
  refine(if_neg c).trans ?_
  split at h
  ·rename_i c;cases h;exact if_pos c
  ·rename_i c
   refine(if_neg c).trans ?_
   dsimp only at h
   split at h
   ·rename_i c;cases h;exact if_pos c
   ·rename_i c
    refine(if_neg c).trans ?_
    split at h
    ·rename_i c;cases h;exact if_pos c
    ·rename_i c
     refine(if_neg c).trans ?_
     split at h
     ·exact au h
     ·rename_i c;cases h;exact if_neg c
noncomputable def qe(e:P8):Option (List P8):=if h:e.ctorIdx=25 then Rc (motive_1:=λ zz=>Option (List P8)) e h λ es zz zz=>some es else none
noncomputable def kX(N:Nm)(value target:P8):Option (Option (List Str)):=
 if target.ctorIdx=24 then none else match qe target with
  |none=>some none
  |some ts=>match qe value with
   |none=>some none
   |some vs=>vN (λ x=>N.lookup x) ts vs
theorem xC(hN:env.scope.names=N)(hk:env.scope.kind=.function)(h:kX N value target=some r):TN [target] value env=pure r:=by
 unfold kX at h
 by_cases ht:target.ctorIdx=24
 ·rw[if_pos ht] at h;exact au h
 rw[if_neg ht] at h
 by_cases ht2:target.ctorIdx=25
 ·revert h
  refine Rc (motive_1:=λ target=>(match qe target with|none=>some none|some ts=>match qe value with|none=>some none|some vs=>vN (λ x=>N.lookup x) ts vs)=some r->TN [target] value env=pure r) target ht2 λ ts k p h=> ?_
  by_cases hv:value.ctorIdx=25
  ·revert h
   refine Rc (motive_1:=λ value=>(match qe value with|none=>some none|some vs=>vN (λ x=>N.lookup x) ts vs)=some r->TN [.Tuple ts k p] value env=pure r) value hv λ vs k2 p2 h=> ?_
   exact A8 hk ((show(λ x=>N.lookup x)=env.kindOf by subst hN;rfl)▸h)
  ·cases value<;>first|exact absurd rfl hv|exact congrArg pure (PX h)
 ·cases target<;>first|exact absurd rfl ht|exact absurd rfl ht2|exact congrArg pure (PX h)
theorem um(h:kX N value (.Name x p)=some (some r)):False:=by cases h
end
theorem xS:∀(ρ:an) {i j:Nat} (v w:V),i≠j->an.put (an.put ρ i v) j w=an.put (an.put ρ j w) i v:=by
 intro ρ
 induction ρ with
 |nil=>
  intro y1 y2 y3 y4 y5
  exact rfl
 |cons x r ih=>
  intro y6
  cases y6 with
  |zero=>
   intro y7
   cases y7 with
   |zero=>
    intro y8 y9 h
    exact absurd rfl h
   |succ j=>
    intro v w G0
    exact rfl
  |succ i=>
   intro Gt
   cases Gt with
   |zero=>
    intro v w HH
    exact rfl
   |succ j=>
    intro v w h
    show x::an.put (an.put r i v) j w=x::an.put (an.put r j w) i v
    refine aa (ih v w (λ e=>h (by refine aa e ?_;rfl))) ?_;rfl
theorem wh:∀{is:List Nat} {vs:List V} {ρ:an} {i:Nat} {v:V},i∉is->an.Fm (an.put ρ i v) is vs=(an.Fm ρ is vs).map (an.put · i v):=by
 intro is
 induction is with
 |nil=>
  intro y1
  cases y1 with
  |nil=>
   intro y2 y3 y4 y5
   exact rfl
  |cons y6 y7=>
   intro y8 y9 G0 Gt
   exact rfl
 |cons j is ih=>
  intro HH
  cases HH with
  |nil=>
   intro Jb Ja Kn Mw
   exact rfl
  |cons w vs=>
   intro ρ i v h
   rw[PS,not_or] at h
   show an.Fm (an.put (an.put ρ i v) j w) is vs=(an.Fm (an.put ρ j w) is vs).map _
   refine aa (xS ρ v w h.1) ?_;refine aa (ih h.2) ?_;rfl
theorem wg:∀{is:List Nat} {vs:List V} {ρ:an} {i:Nat} {v:V},is.length=vs.length->an.Fm ρ (is++[i]) (vs++[v])=(an.Fm ρ is vs).map (an.put · i v):=by
 intro is
 induction is with
 |nil=>
  intro y1
  cases y1 with
  |nil=>
   intro y2 y3 y4 y5
   exact rfl
  |cons y6 y7=>
   intro y8 y9 G0 h
   simp at h
 |cons j is ih=>
  intro Gt
  cases Gt with
  |nil=>
   intro HH Jb Ja h
   simp at h
  |cons w vs=>
   intro ρ i v h
   exact ih (vs:=vs) (ρ:=an.put ρ j w) (i:=i) (v:=v) (by simpa using h)
theorem xO:∀{is:List Nat} {vs:List V} {ρ:an},is.Nodup->is.length=vs.length->an.Fm ρ is.reverse vs.reverse=an.Fm ρ is vs:=by
 intro is
 induction is with
 |nil=>
  intro y1
  cases y1 with
  |nil=>
   intro y2 y3 y4
   exact rfl
  |cons y5 y6=>
   intro y7 y8 h
   simp at h
 |cons i is ih=>
  intro y9
  cases y9 with
  |nil=>
   intro G0 Gt h
   simp at h
  |cons v vs=>
   intro ρ nd h
   rw[QH] at nd
   have hl:is.length=vs.length:=by simpa using h
   refine aa Sd ?_;refine aa Sd ?_;refine aa (wg (by refine aa RN ?_;refine aa RN ?_;exact hl)) ?_;refine aa (ih nd.2 hl) ?_
   exact(wh nd.1).symm
section
variable{g:Gs}{tb:Tb}{K:RH}{Γ:aH}{N:Nm}{n:Nat}{W V:P3->Prop}{A:Qx}{fr:List Env}{env:Env}{ρ ρ':an}{φ φ1 φ0:az}{M M1 M0:AH}{s s1 s0:PK}{E0:PJ->PK->Prop}{Md:TX}
theorem ul(hN:env.scope.names=N):∀{l:List (Nat×Str)} {vs:List Mine.V} {xs:List PJ} {ρ ρ':an} {s:PK} {Q:Unit->PK->Prop},(∀p∈l,Γ.lookup p.2=some p.1/\du N p.2=true)->aC g.pl g.w.params W Γ env ρ φ M s.heap->St g.pl g.w.params g.B W fr φ M s->
  am g.pl g.w.params φ (ow W φ M) s.heap vs xs->ρ.Fm (l.map (·.1)) vs=some ρ'->(∀s',aC g.pl g.w.params W Γ env ρ' φ M s'.heap->St g.pl g.w.params g.B W fr φ M s'->av (EO env) φ M s φ M s'->Q () s')->
  PR Md A (assignInOrder ((l.map (·.2)).map λ n=>bindName env n) xs) Q E0 s:=by
 intro l
 induction l with
 |nil=>
  intro vs xs ρ ρ' s Q y1 er st rs hp k
  cases vs with
  |cons _ _=>cases hp
  |nil=>cases hp;exact PB (k s er st .refl)
 |cons y2 l ih=>
  obtain⟨i,x⟩:=y2
  intro vs xs ρ ρ' s Q h er st rs hp k
  cases vs with
  |nil=>cases hp
  |cons v vs=>
   obtain⟨u,us,rfl,r1,r2⟩:=rs
   obtain⟨h1,h2⟩:=h _ (.head _)
   refine Py (Qr (wpAny_bindName (fF er st h1 (nB hN h2) r1 λ s1 EA Ep Em=> ?_)))
   have Em:=Em.mono λ b q zz=>bu.EO q
   exact ih (λ p hp=>h p (.tail _ hp)) EA Ep (r2.step Em λ b q=>er.FV b q) hp λ s2 ER Ez Ey=>k s2 ER Ez (Em.trans Ey)
theorem uS(h:nS Γ N is es):(fg es).length=is.length/\∀p∈is.zip (fg es),Γ.lookup p.2=some p.1/\du N p.2=true:=by
 induction h with
 |nil=>exact⟨rfl,λ zz h=>nomatch h⟩
 |cons h1 h2 _ ih=>exact⟨congrArg (· +1) ih.1,TU.mpr ⟨⟨h1,h2⟩,ih.2⟩⟩
theorem C7(hm:cS Γ N t target=true):(TD [target] env).map (·.2)=[Xq target env]:=by
 cases oL hm<;>rfl
theorem bd.asg(he:aj g Γ N n e value)(hm:cS Γ N t target=true)(hs:fP N value target value.pos.line=false)(hS:kX N value target=some r)
  (hr:∀names,r=some names->names=cX target/\t.list.Nodup):bd g Γ N n (.asg t e) (.Assign [target] value pos):=by
 intro W A fr env ρ φ M s Nx R X L hA hN hL er st hw
 rewrite[Uk];refine aa (qf hN er.kind hs) ?_
 refine Py (QF (Py (PB ?_)))
 simp only [P4,if_false]
 refine Py (aS (α:=Unit) he hA hN er st hw (λ v x s1 φ1 M1 q1 Ep Em EA r1=> ?_) LX.p)
 refine ai (aD q1) λ ρ' hb q=> ?_
 refine aa (xC hN er.kind hS) ?_
 refine Py (PB ?_)
 cases r with
 |none=>
  refine aa (C7 hm) ?_
  show PR _ A (Xq target env v>>=λ zz=>pure Vg) _ _ s1
  refine Py (iE hm hA.handled hN EA Ep r1 hb λ s2 ER Ez Ey=>PB ?_)
  exact⟨ρ',φ1,M1,q,ER,Ez,Em.wide.trans (Ey.mono λ b q zz=>bu.EO q)⟩
 |some names=>
  obtain⟨hn,nd⟩:=hr names rfl
  cases oL hm with
  |one _ _=>exact(um hS).elim
  | @many is es a p2 hq=>
   obtain⟨vs,hi,hp⟩:=aP hb
   obtain⟨l1,l2⟩:=uS hq
   have hn:names=fg es:=hn
   subst hn
   refine Py (TC (Py (iV hA.handled Ep r1 hi (by refine aa l1 ?_;exact l5 hp) λ us h' hk rs=> ?_)))
   have Ez:St g.pl g.w.params g.B W (env::fr) φ1 M1 {s1 with heap:=h'}:=Ep.Gn hk
   have e1:((is.zip (fg es)).reverse.map (·.2))=(fg es).reverse:=by refine aa U3 ?_;refine aa (List.map_snd_zip (ae 0x905244349102 rfl ((fg es).length) is.length l1)) ?_;rfl
   have e2:((is.zip (fg es)).reverse.map (·.1))=is.reverse:=by refine aa U3 ?_;refine aa (List.map_fst_zip (ae 0x905148349102 rfl ((fg es).length) is.length l1)) ?_;rfl
   refine aE e1 ?_
   refine Py (ul (s:={s1 with heap:=h'}) (ρ':=ρ') hN (λ p hp=>l2 p (List.mem_reverse.mp hp)) (EA.ext hk) Ez (rs.ext hk).rev (by refine aa e2 ?_;refine aa (xO (is:=is) nd (l5 hp)) ?_;exact hp) λ s3 GZ Fh Fi=>PB ?_)
   exact⟨ρ',φ1,M1,q,GZ,Fh,Em.wide.trans ((av.ext (s':={s1 with heap:=h'}) hk rfl rfl).trans Fi)⟩
end
theorem jA(f:Array PJ->Array PJ)(xs:List PJ)(m:Nat):∃m',Q0 f (bb xs m)=bb (f xs.toArray).toList m':=by
 unfold bb
 refine aa Array.toArray_toList ?_
 exact⟨_,rfl⟩
section
variable{g:Gs}{tb:Tb}{K:RH}{Γ:aH}{N:Nm}{n:Nat}{W V:P3->Prop}{A:Qx}{fr:List Env}{env:Env}{ρ ρ':an}{φ φ1 φ0:az}{M M1 M0:AH}{s s1 s0:PK}{E0:PJ->PK->Prop}{Md:TX}
theorem vM(hN:env.scope.names=N)(hk:env.scope.kind=.function)(h:iD value=none):RT value none line env=pure false:=by
 unfold RT
 cases value<;>first|rfl|(cases h)
theorem qV(hk:env.scope.kind=.function):interactive env=false:=by unfold interactive;refine aa hk ?_;rfl
set_option tactic.hygienic true in
theorem bd.app(ho:aj g Γ N n o xo)(he:aj g Γ N n e xe)(hb:eE xo=true)(hx:aw xe=true)(hl:(apos.endLine==pos.line)=true):
  bd g Γ N n (.app o e) (.Expr (.Call (.Attribute xo "append" apos) [xe] [] pos) G3):=by
 intro W A fr env ρ φ M s Nx R X L hA hN hL er st hw
 refine wpAny_Expr ?_ (qV er.kind) (vM hN er.kind rfl)
 have tr:Rf [xe] env=[(false,eval xe env)]:=by refine aa (bc hx) ?_;rfl
 refine wpAny_Call_append (kQ hb _ env _) (by refine aa tr ?_;rfl) hl (by refine aa tr ?_;rfl) ?_
 refine aS (α:=Unit) ho hA hN er st hw (λ v x s1 φ1 M1 q1 Ep Em EA r1=> ?_) LX.p
 obtain⟨H5,q1⟩:=q1
 cases x with
 |ref i=>
  cases hm:M1.m i with
  |none=>have H5:((M1.m i).bind lstO?).isSome=true:=H5;rw[hm] at H5;cases H5
  |some ob=>
   cases ob with
   |list vs0=>
    obtain⟨p,hp,rfl⟩:=r1
    refine ai (Ep.hr.at_ i _ hm) λ p' Fw ro=> ?_
    rw[hp] at Fw;cases Fw
    obtain⟨e2,NI,m0,Pc,hl0,rs0⟩:=ro
    refine rn p.1 NI.toArray rfl ⟨_,m0,Pc,rfl,rfl,rfl⟩ ?_
    refine aS (α:=Unit) he hA hN EA Ep q1 (λ u y s2 φ2 M2 q2 Ez Ey ER r2=> ?_) λ v s' z=>d5.step Em.wide _ _ (LX.p _ _ z)
    dsimp only at q2
    split at q2
    case h_2=>exact q2.elim
    case h_1 vs Gc=>
    obtain⟨hle,q⟩:=q2
    have Hs:φ2[i]? =some p:=by
     obtain⟨tl,ht⟩:=Ey.pre
     refine aE ht ?_;refine aa (Qc (PL.mp hp).1) ?_;exact hp
    refine ai (Ez.hr.at_ i _ Gc) λ p' Fw ro=> ?_
    rw[Hs] at Fw;cases Fw
    obtain⟨e2,xs,m,gg,hlen,rs⟩:=ro
    refine QW slot_list_append ⟨_,gg,rfl⟩ YH ?_ (args_list_append _ _)
    show PR _ _ (updateSeq p.1 (·.push u)>>=λ zz=>Wg Qg) _ _ s2
    have Fc:xs.toArray.size<=Rl:=by have:=rs.length;refine aa PU ?_;refine aa this ?_;exact PO (TP hle) (by decide)
    refine Py (wpAny_updateSeq gg rfl (PB (X6 Qg ⟨rfl,?_⟩)) Fc (by refine aa (XI _) ?_;exact Sv Fc))
    obtain⟨m',Hg⟩:=jA (·.push u) xs m
    have g2:(s2.heap.update p.1 (Q0 (·.push u))).get? p.1=some (bb (xs++[u]) m'):=by
     refine aa (P5 _ gg (by refine aa Hg ?_;rfl)) ?_;refine aa Hg ?_
     simp
    have hs:Qp p.1 s2.heap (s2.heap.update p.1 (Q0 (·.push u))):=Qy ..
    have Ff:∀b o,s2.heap.get? b=some o->¬ow W φ2 M2 b->b7 o ((s2.heap.update p.1 (Q0 (·.push u))).get? b):=λ b o e nb=>.inl (hs.extBut b o (λ q=>nb (.inr (q▸(cY (by refine aa Gc ?_;rfl) Hs).1))) e)
    obtain⟨Fh,Fi⟩:=Ez.upd (s':={s2 with heap:=s2.heap.update p.1 (Q0 (·.push u))}) (o':=.list (vs++[y])) Gc Hs (λ b x n1 zz e=>hs.extBut b x n1 e) rfl rfl
     ⟨e2,_,m',g2,by refine aa PH ?_;exact hle,am.append (rs.mono (Pz _) Ff λ b q=>.inl q) (am.c ⟨u,[],rfl,r2.mono (Pz _) Ff λ b q=>.inl q,rfl⟩)⟩
    exact⟨ρ,φ2,_,q,ER.E9 Ez Fi,Fh,(Em.trans (Ey.trans Fi)).wide⟩
   |_=>have H5:((M1.m i).bind lstO?).isSome=true:=H5;rw[hm] at H5;cases H5
 |_=>cases H5
end
section
variable{K:Type}[DecidableEq K]
theorem oY{a:K}{r:List (K×PJ)}(h:a∉r.map (·.1)):UG ((a,b)::r) a u=(a,u)::r:=by
 unfold UG
 refine aa (if_pos (by simp)) ?_
 refine aa PP ?_;refine aa (if_pos rfl) ?_
 congr 1
 refine map_eq_self λ x hx=>if_neg λ e=>h ?_
 refine aE e ?_;exact WT hx
theorem oX{a k:K}{r:List (K×PJ)}(h:a≠k):UG ((a,b)::r) k u=(a,b)::UG r k u:=by
 unfold UG
 refine aa RW ?_;refine aa (decide_eq_false h) ?_;refine aa (Tp _) ?_
 split
 ·refine aa PP ?_;refine aa (if_neg h) ?_;rfl
 ·rfl
end
theorem xX:∀{ks:List String} {vs:List V} {s:String} {v:V},vs.length=ks.length->(aI s v ks vs).1=(if s∈ks then ks else ks++[s])/\(aI s v ks vs).2.length=(aI s v ks vs).1.length:=by
 intro ks
 induction ks with
 |nil=>
  intro y1
  cases y1 with
  |nil=>
   intro s v y2
   exact⟨by refine aa (if_neg (by simp)) ?_;rfl,rfl⟩
  |cons y3 y4=>
   intro y5 y6 h
   simp at h
 |cons k ks ih=>
  intro y7
  cases y7 with
  |nil=>
   intro y8 y9 h
   simp at h
  |cons x vs=>
   intro s v h
   rewrite[fc]
   by_cases e:k=s
   ·subst e
    refine aa (if_pos (by simp)) ?_;refine aa (if_pos (by simp)) ?_
    exact⟨rfl,by simpa using h⟩
   ·obtain⟨a,b⟩:=ih (s:=s) (v:=v) (show vs.length=ks.length by simpa using h)
    refine aa (if_neg (by simpa using e)) ?_
    dsimp only
    refine⟨?_,by simpa using b⟩
    refine aa a ?_
    have:(s∈k::ks)↔ s∈ks:=by simp[R5 e]
    by_cases hm:s∈ks
    ·refine aa (if_pos hm) ?_;refine aa (if_pos (this.mpr hm)) ?_;rfl
    ·refine aa (if_neg hm) ?_;refine aa (if_neg (λ q=>hm (this.mp q))) ?_;rfl
theorem xY:∀{ks:List Int} {vs:List V} {s:Int} {v:V},vs.length=ks.length->(dN s v ks vs).1=(if s∈ks then ks else ks++[s])/\(dN s v ks vs).2.length=(dN s v ks vs).1.length:=by
 intro ks
 induction ks with
 |nil=>
  intro y1
  cases y1 with
  |nil=>
   intro s v y2
   exact⟨by refine aa (if_neg (by simp)) ?_;rfl,rfl⟩
  |cons y3 y4=>
   intro y5 y6 h
   simp at h
 |cons k ks ih=>
  intro y7
  cases y7 with
  |nil=>
   intro y8 y9 h
   simp at h
  |cons x vs=>
   intro s v h
   rewrite[qJ]
   by_cases e:k=s
   ·subst e
    refine aa (if_pos (by simp)) ?_;refine aa (if_pos (by simp)) ?_
    exact⟨rfl,by simpa using h⟩
   ·obtain⟨a,b⟩:=ih (s:=s) (v:=v) (show vs.length=ks.length by simpa using h)
    refine aa (if_neg (by simpa using e)) ?_
    dsimp only
    refine⟨?_,by simpa using b⟩
    refine aa a ?_
    have:(s∈k::ks)↔ s∈ks:=by simp[R5 e]
    by_cases hm:s∈ks
    ·refine aa (if_pos hm) ?_;refine aa (if_pos (this.mpr hm)) ?_;rfl
    ·refine aa (if_neg hm) ?_;refine aa (if_neg (λ q=>hm (this.mp q))) ?_;rfl
theorem lN{α:Type}[DecidableEq α]{l:List α}{s:α}(h:l.Nodup):(if s∈l then l else l++[s]).Nodup:=by
 split
 ·exact h
 ·rename_i n
  exact Se.mpr ⟨h,QH.mpr ⟨by simp,TY⟩,λ a ha b hb e=>n (by rw[PZ.mp hb] at e;exact e▸ha)⟩
section
variable{pl:Pl}{P:QN}{φ:az}{o:P3->Prop}{h:QG}
theorem uo:∀{ks:List String} {vs:List V} {us:List PJ} {s:String} {v:V} {u:PJ},ks.Nodup->us.length=ks.length->am pl P φ o h vs us->VR pl P φ o h v u->
  (UG ((ks.map PD).zip us) (PD s) u).map (·.1)=(aI s v ks vs).1.map PD/\am pl P φ o h (aI s v ks vs).2 ((UG ((ks.map PD).zip us) (PD s) u).map (·.2)):=by
 intro ks
 induction ks with
 |nil=>
  intro vs us s v u y1 hl rs r
  have:(aI s v [] vs)=([s],[v]):=by cases vs<;>rfl
  refine aa this ?_
  refine⟨rfl,?_⟩
  show am _ _ _ _ _ [v] [u]
  exact am.c ⟨u,[],rfl,r,rfl⟩
 |cons k ks ih=>
  intro vs us s v u nd hl rs r
  cases us with
  |nil=>simp at hl
  |cons b us=>
   cases vs with
   |nil=>cases rs
   |cons x vs=>
    obtain⟨b',HO,e,r1,r2⟩:=rs
    cases e
    rw[QH] at nd
    have Gq:us.length=ks.length:=by simpa using hl
    refine aa PP ?_;refine aa Qi ?_;rewrite[fc]
    by_cases e:k=s
    ·subst e
     rewrite[oY];refine aa (if_pos (by simp)) ?_
     ·refine aa PP ?_;refine aa PP ?_;refine aa PP ?_;refine aa (eT (by refine aa (PE _) ?_;refine aa Gq ?_;rfl)) ?_;refine aa (nX (by refine aa (PE _) ?_;refine aa Gq ?_;rfl)) ?_
      refine⟨rfl,?_⟩
      dsimp only
      exact am.c ⟨u,us,rfl,r,r2⟩
     ·refine aa (eT (by refine aa (PE _) ?_;refine aa Gq ?_;rfl)) ?_
      intro q
      refine ai (QE.mp q) λ y hy e=> ?_
      exact nd.1 (cV e▸hy)
    ·refine aa (oX (λ q=>e (cV q))) ?_;refine aa (if_neg (by simpa using e)) ?_
     obtain⟨a,c⟩:=ih (s:=s) nd.2 Gq r2 r
     dsimp only
     refine aa PP ?_;refine aa PP ?_;refine aa PP ?_;refine aa a ?_
     refine⟨rfl,?_⟩
     dsimp only
     exact am.c ⟨b,_,rfl,r1,c⟩
theorem sx:∀{ks:List Int} {vs:List V} {us:List PJ} {s:Int} {v:V} {u:PJ},ks.Nodup->us.length=ks.length->am pl P φ o h vs us->VR pl P φ o h v u->
  (UG (ks.zip us) s u).map (·.1)=(dN s v ks vs).1/\am pl P φ o h (dN s v ks vs).2 ((UG (ks.zip us) s u).map (·.2)):=by
 intro ks
 induction ks with
 |nil=>
  intro vs us s v u y1 hl rs r
  have:(dN s v [] vs)=([s],[v]):=by cases vs<;>rfl
  refine aa this ?_
  refine⟨rfl,?_⟩
  show am _ _ _ _ _ [v] [u]
  exact am.c ⟨u,[],rfl,r,rfl⟩
 |cons k ks ih=>
  intro vs us s v u nd hl rs r
  cases us with
  |nil=>simp at hl
  |cons b us=>
   cases vs with
   |nil=>cases rs
   |cons x vs=>
    obtain⟨b',HO,e,r1,r2⟩:=rs
    cases e
    rw[QH] at nd
    have Gq:us.length=ks.length:=by simpa using hl
    refine aa Qi ?_;rewrite[qJ]
    by_cases e:k=s
    ·subst e
     rewrite[oY];refine aa (if_pos (by simp)) ?_
     ·refine aa PP ?_;refine aa PP ?_;refine aa (eT Gq) ?_;refine aa (nX Gq) ?_
      refine⟨rfl,?_⟩
      dsimp only
      exact am.c ⟨u,us,rfl,r,r2⟩
     ·refine aa (eT Gq) ?_
      exact nd.1
    ·refine aa (oX e) ?_;refine aa (if_neg (by simpa using e)) ?_
     obtain⟨a,c⟩:=ih (s:=s) nd.2 Gq r2 r
     dsimp only
     refine aa PP ?_;refine aa PP ?_;refine aa a ?_
     refine⟨rfl,?_⟩
     dsimp only
     exact am.c ⟨b,_,rfl,r1,c⟩
theorem am.Jt:∀{vs:List V} {us:List PJ} {k:Nat} {v:V} {u:PJ},am pl P φ o h vs us->VR pl P φ o h v u->am pl P φ o h (vs.set k v) (us.set k u):=by
 intro vs
 induction vs with
 |nil=>
  intro us k v u rs r
  subst rs;rfl
 |cons x vs ih=>
  intro us y1
  cases y1 with
  |zero=>
   intro v u rs r
   obtain⟨y,t,rfl,r1,r2⟩:=rs
   exact am.c ⟨u,t,rfl,r,r2⟩
  |succ k=>
   intro v u rs r
   obtain⟨y,t,rfl,r1,r2⟩:=rs
   exact am.c ⟨y,_,rfl,r1,ih r2 r⟩
end
section
variable{g:Gs}{tb:Tb}{K:RH}{Γ:aH}{N:Nm}{n:Nat}{W V:P3->Prop}{A:Qx}{fr:List Env}{env:Env}{ρ ρ':an}{φ φ1 φ0:az}{M M1 M0:AH}{s s1 s0:PK}{E0:PJ->PK->Prop}{Md:TX}
theorem uC(gg:s.heap.get? a=some (bb xs m))(h0:0<=i)(hi:i.toNat<xs.length)(hfit:i<2^63)
  (k:∀h' m',h'.get? a=some (bb (xs.set i.toNat u) m')->Qp a s.heap h'->Q () {s with heap:=h'}):PR (PW g.prog g.w) A (setItem (.ref a) (.int i t) u) Q E0 s:=by
 have hT:s.TypeIs (.ref a) "list" :=⟨_,gg,rfl⟩
 unfold setItem
 try with_reducible refine Qr ?_
 refine Py (wpAny_sequenceKey hT (by decide) ?_)
 refine Py (Rs (name:=PD "__setitem__") hT YE (QW YE hT entry_list_setitem ?_ (args_list_setitem _ _ _)))
 show PR _ _ (Builtin.List.listSubscript? (.int i t)>>=_) _ _ s
 refine Py (wpAny_listSubscript_int (fitsIndex_of h0 hfit) ?_)
 obtain⟨j,rfl⟩:=QX h0
 have hx:xs.toArray[j]? =some (xs[j]'(by simpa using hi)):=by simp
 show PR _ _ ((seqItemAt a j>>=λ r=>pure (r.map (j,·)))>>=_) _ _ s
 refine Py (Py (wpAny_seqItemAt gg rfl (PB ?_)))
 refine aa hx ?_
 show PR _ _ (setSeqItemAt a j u>>=_) _ _ s
 obtain⟨m',Hg⟩:=jA (·.setIfInBounds j u) xs m
 have g2:(s.heap.update a (Q0 (·.setIfInBounds j u))).get? a=some (bb (xs.set j u) m'):=by
  refine aa (P5 _ gg (by refine aa Hg ?_;rfl)) ?_;refine aa Hg ?_
  simp
 refine Py (wpAny_setSeqItemAt gg rfl ?_)
 exact PB ⟨.none,rfl,PB (k _ m' g2 (Qy ..))⟩
set_option tactic.hygienic true in
theorem bd.EY{o k e:E}(he:aj g Γ N n e xe)(ho:aj g Γ N n o xo)(hk:aj g Γ N n k xk):bd g Γ N n (.EY o k e) (.Assign [.Subscript xo xk G3] xe pos):=by
 intro W A fr env ρ φ M s Nx R X L hA hN hL er st hw
 have hs:RT xe (some (.Subscript xo xk G3)) pos.line env=pure false:=by unfold RT;cases xe<;>rfl
 refine wpAny_Assign_Subscript ?_ hs
 refine aS (α:=Unit) he hA hN er st hw (λ u v s1 φ1 M1 q1 Ep Em EA r1=> ?_) LX.p
 refine aS (α:=Unit) ho hA hN EA Ep q1 (λ ov x s2 φ2 M2 q2 Ez Ey ER r2=> ?_) λ v s' z=>d5.step Em.wide _ _ (LX.p _ _ z)
 refine aS (α:=Unit) hk hA hN ER Ez q2 (λ kv y s3 φ3 M3 q3 Fh Fi GZ r3=> ?_) λ v s' z=>d5.step (Em.trans Ey).wide _ _ (LX.p _ _ z)
 have rv:=(r1.step Ey bG).step Fi bG
 have rx:=r2.step Fi bG
 have sp:=(Em.trans Ey).trans Fi
 clear r1 r2 q1 q2
 split at q3
 case h_2=>exact q3.elim
 case h_1 x i=>
 refine ai (aD q3) λ ob hm q4=> ?_
 clear q3
 refine ai (aD q4) λ Gx Fe q=> ?_
 clear q4
 obtain⟨p,hp,rfl⟩:=rx
 refine ai (Fh.hr.at_ i _ hm) λ p' Fw ro=> ?_
 rw[hp] at Fw;cases Fw
 have Hm:=(cY (by refine aa hm ?_;rfl) hp).1
 have mono:∀{h':QG},Qp p.1 s3.heap h'->∀b o,s3.heap.get? b=some o->¬ow W φ3 M3 b->b7 o (h'.get? b):=λ hs b o e nb=>.inl (hs.extBut b o (λ q=>nb (.inr (q▸Hm))) e)
 have fin:∀{h':QG} {tk:Nat},Qp p.1 s3.heap h'->OR g.pl g.w.params φ3 (ow W φ3 M3) h' p Gx->FQ g.pl g.w.params g.B W (env::fr) Γ env φ M s Nx R .next {s3 with heap:=h',toks:=tk}:=by
  intro h' tk hs K6
  obtain⟨F4,FO⟩:=Fh.upd (s':={s3 with heap:=h',toks:=tk}) (o':=Gx) hm hp (λ b x n1 zz e=>hs.extBut b x n1 e) rfl rfl K6
  exact⟨ρ,φ3,_,q,GZ.E9 Fh FO,F4,(sp.trans FO).wide⟩
 cases ob with
 |list vs=>
  cases y<;>first|cases Fe|skip
  rename_i j
  have Fe:(if 0<=j/\j.toNat<vs.length then some (O.list (vs.set j.toNat v)) else none)=some Gx:=Fe
  split at Fe
  case isFalse=>cases Fe
  case isTrue hj=>
  cases Fe
  obtain⟨e2,xs,m,gg,hlen,rs⟩:=ro
  obtain⟨t,rfl⟩:=r3
  have e:=rs.length
  refine uC gg hj.1 (by refine aa e ?_;exact hj.2) (by have:vs.length<=100000:=hlen;exact ae 0x1248b1f83fa20e1a814cfd11c244d44446011 rfl vs.length j hj this) λ h' m' g2 hs=> ?_
  exact fin (tk:=s3.toks) hs ⟨e2,_,m',g2,by refine aa Vk ?_;exact hlen,am.Jt (rs.mono (Pz _) (mono hs) λ b q=>.inl q) (rv.mono (Pz _) (mono hs) λ b q=>.inl q)⟩
 |Er ks vs=>
  cases y<;>first|cases Fe|skip
  rename_i k0
  have Fe:(if ks.length<=aq then some (O.Er (aI k0 v ks vs).1 (aI k0 v ks vs).2) else none)=some Gx:=Fe
  split at Fe
  case isFalse=>cases Fe
  case isTrue hj=>
  cases Fe
  obtain⟨e2,es,m,gg,hl,ke,rs⟩:=ro
  obtain⟨OJ,t,rfl⟩:=r3
  have hu:(es.map (·.val)).length=ks.length:=by have:=cB ke;rw[PE] at this;refine aa (PE _) ?_;exact this
  have Lm:vs.length=ks.length:=by refine aE rs.length ?_;exact hu
  refine XX (knd:=Ul g.prog g.w) (k:=PD k0) (by show Rz (PD k0) (.str (PD k0) t)=true;simp[Rz]) (gL (prog:=g.prog) (w:=g.w) gg (cJ hl.nd) ke) (λ h' hd hs=> ?_) (by refine aa TI ?_;refine aa (PE _) ?_;refine aa hu ?_;refine aa (Nat.min_self _) ?_;exact PO hj (by decide))
  refine kO (pC hd) λ Ge m' g2 JB ev=> ?_
  obtain⟨a,c⟩:=uo (s:=k0) hl.nd hu (rs.mono (Pz _) (mono hs) λ b q=>.inl q) (rv.mono (Pz _) (mono hs) λ b q=>.inl q)
  rw[a] at JB
  rw[<-ev] at c
  have pk:=(xX (s:=k0) (v:=v) Lm).1
  refine fin hs ⟨e2,Ge,m',g2,⟨hl.1,by refine aa pk ?_;exact lN hl.nd,?_,?_⟩,JB,c⟩
  ·refine aa pk ?_;split
   ·exact hl.len
   ·refine aa PH ?_;exact Sv hj
  ·refine aa pk ?_;intro k hk;split at hk
   ·exact hl.str k hk
   ·rcases Qq.mp hk with hk|hk
    ·exact hl.str k hk
    ·refine aa (PZ.mp hk) ?_;exact OJ
 |EE ks vs=>
  cases y<;>first|cases Fe|skip
  rename_i k0
  have Fe:(if ks.length<=aq then some (O.EE (dN k0 v ks vs).1 (dN k0 v ks vs).2) else none)=some Gx:=Fe
  split at Fe
  case isFalse=>cases Fe
  case isTrue hj=>
  cases Fe
  obtain⟨e2,es,m,gg,hl,ke,rs⟩:=ro
  obtain⟨t,rfl⟩:=r3
  have hu:(es.map (·.val)).length=ks.length:=by refine aa (PE _) ?_;exact gh ke
  have Lm:vs.length=ks.length:=by refine aE rs.length ?_;exact hu
  refine XX (knd:=VY g.prog g.w) (k:=k0) (by show SG k0 (.int k0 t)=true;simp[SG]) (ib (prog:=g.prog) (w:=g.w) gg hl.nd ke) (λ h' hd hs=> ?_) (by refine aa TI ?_;refine aa hu ?_;refine aa (Nat.min_self _) ?_;exact PO hj (by decide))
  refine kO (vf hd) λ Ge m' g2 JB ev=> ?_
  obtain⟨a,c⟩:=sx (s:=k0) hl.nd hu (rs.mono (Pz _) (mono hs) λ b q=>.inl q) (rv.mono (Pz _) (mono hs) λ b q=>.inl q)
  rw[a] at JB
  rw[<-ev] at c
  have pk:=(xY (s:=k0) (v:=v) Lm).1
  refine fin hs ⟨e2,Ge,m',g2,⟨hl.1,by refine aa pk ?_;exact lN hl.nd,?_⟩,JB,c⟩
  refine aa pk ?_;split
  ·exact hl.len
  ·refine aa PH ?_;exact Sv hj
 |inst c vs=>cases y<;>cases Fe
end
theorem xU:∀{ks:List Str} {es:List Qh} {k:Nat} {x:Str},bY P ks es->ks.Nodup->ks[k]? =some x->bY P ks (Xe x hsh key v es)/\(Xe x hsh key v es).map (·.val)=(es.map (·.val)).set k v:=by
 intro ks
 induction ks with
 |nil=>
  intro y1 y2 y3 y4 y5 h
  simp at h
 |cons y ks ih=>
  intro es k x ke nd h
  obtain⟨e,r,rfl,⟨t,hk⟩,hh,ke⟩:=ke
  rw[QH] at nd
  cases k with
  |zero=>
   simp at h;subst h
   have hb:e.key.isStr y=true:=by refine aa hk ?_;simp[Tk]
   rewrite[Xe];refine aa (if_pos hb) ?_
   exact⟨nT.mk ⟨e.hash,e.key,v⟩ r rfl ⟨t,hk⟩ hh ke,rfl⟩
  |succ k=>
   have h':ks[k]? =some x:=by simpa using h
   have Fq:y≠x:=λ q=>nd.1 (q▸Sw h')
   have hb:¬e.key.isStr x=true:=by refine aa hk ?_;simpa[Tk] using Fq
   obtain⟨a,b⟩:=ih ke nd.2 h'
   rewrite[Xe];refine aa (if_neg hb) ?_
   refine⟨?_,?_⟩
   ·exact nT.mk e _ rfl ⟨t,hk⟩ hh a
   ·refine aa PP ?_;refine aa b ?_;refine aa PP ?_;refine aa List.set_cons_succ ?_;rfl
theorem xV:∀{ks:List Str} {es:List Qh} {x:Str},bY P ks es->x∉ks->bY P (ks++[x]) (Xe x (Qf P x) (.str x t0) v es)/\(Xe x (Qf P x) (.str x t0) v es).map (·.val)=es.map (·.val)++[v]:=by
 intro ks
 induction ks with
 |nil=>
  intro es x ke y1
  subst ke
  exact⟨nT.mk ⟨Qf P x,.str x t0,v⟩ [] rfl ⟨t0,rfl⟩ rfl rfl,rfl⟩
 |cons y ks ih=>
  intro es x ke h
  obtain⟨e,r,rfl,⟨t,hk⟩,hh,ke⟩:=ke
  rw[PS,not_or] at h
  have hb:¬e.key.isStr x=true:=by refine aa hk ?_;simpa[Tk] using R5 h.1
  obtain⟨a,b⟩:=ih ke h.2
  rewrite[Xe];refine aa (if_neg hb) ?_
  refine⟨?_,?_⟩
  ·exact nT.mk e _ rfl ⟨t,hk⟩ hh a
  ·refine aa PP ?_;refine aa b ?_;refine aa PP ?_;refine aa U4 ?_;rfl
theorem wL:∀{ks:List Str} {es:List Qh},bY P ks es->es.any (·.refKey)=false:=by
 intro ks
 induction ks with
 |nil=>
  intro es ke
  subst ke;rfl
 |cons y ks ih=>
  intro es ke
  obtain⟨e,r,rfl,⟨t,hk⟩,_,ke⟩:=ke
  refine aa RW ?_;refine aa (ih ke) ?_;simp[Up,hk]
section
variable{g:Gs}{tb:Tb}{K:RH}{Γ:aH}{N:Nm}{n:Nat}{W V:P3->Prop}{A:Qx}{fr:List Env}{env:Env}{ρ ρ':an}{φ φ1 φ0:az}{M M1 M0:AH}{s s1 s0:PK}{E0:PJ->PK->Prop}{Md:TX}
theorem sH(X:K.In s.heap)(g1:s.heap.get? x=some (R2 C d))(g2:s.heap.get? d=some (QM es m))
  (hs:Rp K (.ref C) "__setattr__" =some (some (.builtin "object.__setattr__")))(KF:(clsIn K C).any (λ cd=>cd.hasDict&&Yu cd.mro)=true)(hf:Rp K (.ref C) name=some none)(ke:bY g.w.params ks es)(hlen:es.length<=1000)
  (k:∀h' m' t0,h'.get? d=some (QM (Xe name (Qf g.w.params name) (.str name t0) v es) m')->Qp d s.heap h'->∀tk,Q () {s with heap:=h',toks:=tk}):PR (PW g.prog g.w) A (setAttr (.ref x) name v) Q E0 s:=by
 have I:InstAt s.heap x (R2 C d) C (some (QM es m)):=⟨g1,rfl,rfl,g2⟩
 refine ai (Yd KF) λ cd hc hd=> ?_
 simp only [PY] at hd
 have po:plainOver K C=true:=by unfold plainOver;refine aa hc ?_;exact hd.2
 have ti:XS K C name=some none:=by unfold XS;refine aa hf ?_;rfl
 refine set_plain X I hs ?_
 refine osa_open (s:={s with toks:=s.toks+1}) X I po ti λ b=> ?_
 dsimp only
 refine Py (PB (Py (Py (Sz g1 (Py (W9 (s:={s with toks:=s.toks+1}) (UN X hc) ?_))))))
 refine aa hd.1 ?_
 refine PB (a:=some d) (Py (PB (Py ?_)))
 unfold nsSet
 refine Py (Py (VU (PB (Py (wpAny_mkText (Py (Sz g2 ?_)))))))
 dsimp only
 have c:(!es.toArray.any (·.key.isStr name)&&es.toArray.any (·.refKey))=false:=by
  refine aE Tq ?_;refine aE Tq ?_
  refine aa (show es.toArray.toList=es from rfl) ?_;refine aa (wL ke) ?_;refine aa (S7 _) ?_;rfl
 refine aa (Xg _ _) ?_;refine aa c ?_
 refine wpAny_updatePart g2 ?_
 have g3:(s.heap.update d (Vt name (Qf g.w.params name) (.str name (s.toks+1)) v)).get? d=some (QM (Xe name (Qf g.w.params name) (.str name (s.toks+1)) v es) (putN name es m)):=by
  refine aa (P5 _ g2 (by rewrite[VI];rfl)) ?_;rewrite[VI];rfl
 refine Py (wpAny_lookBehind g3 (pastItsLine_dict ?_) ?_)
 ·have:(Xe name (Qf g.w.params name) (.str name (s.toks+1)) v es).length<=es.length+1:=by
   have key:∀(l:List Qh),(Xe name (Qf g.w.params name) (.str name (s.toks+1)) v l).length<=l.length+1:=by
    intro l
    induction l with
    |nil=>exact PC _
    |cons e r ih=>rewrite[Xe];split<;>(simp only [PN];(first|exact ae 0x106106144185101 rfl r.length|exact ae 0x904184185206144106149102 rfl ((Xe name (Qf g.w.params name) (U9 name (s.toks+1)) v r).length) r.length ih))
   exact key es
  refine aa PU ?_;refine aa XU ?_;exact ae 0x249060000020067f48106145207e80c7fd102 rfl es.length ((Xe name (Qf g.w.params name) (U9 name (s.toks+1)) v es).length) hlen this
 ·exact PB (k _ _ _ g3 (Qy ..) _)
set_option tactic.hygienic true in
theorem bd.EI(fx:Fx g tb K)(he:aj g Γ N n e xe)(ho:aj g Γ N n o xo)(ha:g.pl.EF a=at_):bd g Γ N n (.EI o a e) (.Assign [.Attribute xo at_ apos] xe pos):=by
 intro W A fr env ρ φ M s Nx R X L hA hN hL er st hw
 subst ha
 have hs:W3 [.Attribute xo (g.pl.EF a) apos] xe pos.line env=pure false:=by show RT xe (some (.Attribute xo (g.pl.EF a) apos)) pos.line env=pure false;unfold RT;cases xe<;>rfl
 rewrite[Uk];refine aa hs ?_
 refine Py (QF (Py (PB ?_)))
 simp only [P4,if_false]
 refine Py (aS (α:=Unit) he hA hN er st hw (λ u v s1 φ1 M1 q1 Ep Em EA r1=> ?_) LX.p)
 refine Py (PB ?_)
 show PR _ A ((Vq [u] (eval xo env)>>=λ ov=>Su apos.atName>>=λ zz=>Vq [u,ov] (setAttr ov (g.pl.EF a) u)>>=λ zz=>release [u,ov] [])>>=λ zz=>pure Vg) _ _ s1
 refine Py (Py (Qr (aS (α:=Unit) ho hA hN EA Ep q1 (λ ov x s2 φ2 M2 q2 Ez Ey ER r2=> ?_) λ v s' z=>d5.step Em.wide _ _ (LX.p _ _ z))))
 refine Py (QF (Py (Qr ?_)))
 have rv:=r1.step Ey bG
 have sp:=Em.trans Ey
 clear r1 q1
 split at q2
 case h_2=>exact q2.elim
 case h_1 x i=>
 refine ai (aD q2) λ ob hm q4=> ?_
 clear q2
 refine ai (aD q4) λ Gx Fe q=> ?_
 clear q4
 obtain⟨p,hp,rfl⟩:=r2
 refine ai (Ez.hr.at_ i _ hm) λ p' Fw ro=> ?_
 rw[hp] at Fw;cases Fw
 have Lo:=Fe
 cases ob<;>first|cases Fe|skip
 rename_i c vs
 have Fe:(match gK g.pl.P c a with
  |some k=>if k<vs.length then some (O.inst c (vs.set k v)) else if k=vs.length then some (O.inst c (vs++[v])) else none
  |none=>none)=some Gx:=Fe
 clear Lo
 cases hfi:gK g.pl.P c a with
 |none=>rw[hfi] at Fe;cases Fe
 |some k=>
 rw[hfi] at Fe
 dsimp only at Fe
 refine ai (Rk.mp hfi) λ C' h5 h6=> ?_
 obtain⟨ne,es,m,C,g1,g2,hC,hl,ke,rs⟩:=ro
 rw[hC] at h5
 have e5:=PX h5
 rw[<-e5] at h6
 clear e5 h5
 have ck:=fx.cls c C hC
 have Mb:C.fields.findIdx? (· ==a)=some k:=h6
 refine ai (UC.mp Mb) λ Nk h7 zz=> ?_
 have IW:C.fields[k]? =some a:=by refine aa (PG Nk) ?_;refine aa (beq_iff_eq.mp h7) ?_;rfl
 have Hm:=cY (M:=M2) (by refine aa hm ?_;rfl) hp
 have mono:∀{h':QG},Qp p.2 s2.heap h'->∀b o,s2.heap.get? b=some o->¬ow W φ2 M2 b->b7 o (h'.get? b):=λ hs b o e nb=>.inl (hs.extBut b o (λ q=>nb (.inr (q▸Hm.2))) e)
 have kel:=cB ke
 have hlen:es.length=vs.length:=by refine aE rs.length ?_;refine aa (PE _) ?_;rfl
 have fin:∀{h':QG} {tk:Nat},Qp p.2 s2.heap h'->OR g.pl g.w.params φ2 (ow W φ2 M2) h' p Gx->PR (PW g.prog g.w) A (release [u,.ref p.1] []) (λ zz s'=>PR (PW g.prog g.w) A (pure Vg) (FQ g.pl g.w.params g.B W (env::fr) Γ env φ M s Nx R) (d5 g.pl g.w.params g.B W (env::fr) g.cls (EO env) φ M s X) s') (d5 g.pl g.w.params g.B W (env::fr) g.cls (EO env) φ M s X) {s2 with heap:=h',toks:=tk}:=by
  intro h' tk hs K6
  obtain⟨F4,FO⟩:=Ez.upd (s':={s2 with heap:=h',toks:=tk}) (o':=Gx) hm hp (λ b x zz n2 e=>hs.extBut b x n2 e) rfl rfl K6
  exact wpAny_release (PB ⟨ρ,φ2,_,q,ER.E9 Ez FO,F4,(sp.trans FO).wide⟩)
 have nd:((C.fields.take vs.length).map g.pl.EF).Nodup:=by refine aa Uu ?_;exact jy ck.nodup _
 refine sH (fx.KS Ez) g1 g2 ck.GO ck.cd (ck.Ke a (Sw IW)) ke ?_ λ h' m' t0 g3 hs tk=> ?_
 ·refine aa hlen ?_
  exact PO hl ck.few
 have Mj:h'.get? p.1=some (R2 (g.pl.EB c) p.2):=hs.extBut _ _ ne g1
 have MC:=rs.mono (Pz _) (mono hs) λ b q=>.inl q
 have MA:=rv.mono (Pz _) (mono hs) λ b q=>.inl q
 split at Fe
 ·rename_i hk
  cases Fe
  have Ht:((C.fields.take vs.length).map g.pl.EF)[k]? =some (g.pl.EF a):=by refine aa Rh ?_;refine aa (Tf hk) ?_;refine aa IW ?_;rfl
  obtain⟨a1,a2⟩:=xU (hsh:=Qf g.w.params (g.pl.EF a)) (key:=.str (g.pl.EF a) t0) (v:=u) ke nd Ht
  exact fin hs ⟨ne,_,m',C,Mj,g3,hC,by refine aa Vk ?_;exact hl,by refine aa Vk ?_;exact a1,by refine aa a2 ?_;exact am.Jt MC MA⟩
 ·split at Fe
  ·rename_i hk FF
   cases Fe
   subst FF
   have hx:g.pl.EF a∉(C.fields.take vs.length).map g.pl.EF:=by
    have Lc:((C.fields.take (vs.length+1)).map g.pl.EF).Nodup:=by refine aa Uu ?_;exact jy ck.nodup _
    rw[QY,IW] at Lc
    simp only [WD,Qd,PP,UO] at Lc
    intro q
    exact(Se.mp Lc).2.2 _ q _ (PZ.mpr rfl) rfl
   obtain⟨a1,a2⟩:=xV (v:=u) (t0:=t0) ke hx
   refine fin hs ⟨ne,_,m',C,Mj,g3,hC,by refine aa PH ?_;exact Nk,?_,by refine aa a2 ?_;exact am.append MC (am.c ⟨u,[],rfl,MA,rfl⟩)⟩
   refine aa PH ?_;refine aa Sn ?_;refine aa QY ?_;refine aa IW ?_
   simp only [WD,Qd,PP,UO]
   exact a1
  ·cases Fe
end
section
variable{g:Gs}{tb:Tb}{K:RH}{Γ:aH}{N:Nm}{n:Nat}{W W₁ Z V:P3->Prop}{A:Qx}{fr:List Env}{env:Env}{ρ ρ':an}{φ φ1 φ0 φ':az}{M M1 M0 M':AH}{s s1 s0 s':PK}{E0:PJ->PK->Prop}{Md:TX}
theorem aC.GM(er:aC g.pl g.w.params W Γ env ρ φ M s.heap)(st:St g.pl g.w.params g.B W fr φ M s)(sp:av bt φ M s φ' M' s')(hZ:∀b,Z b->s.heap.get? b=none):aC g.pl g.w.params (λ b=>W b∨Z b) Γ env ρ φ' M' s'.heap:=by
 have ho:∀b,ow (λ b=>W b∨Z b) φ' M' b->ow W φ M b∨s.heap.get? b=none:=λ b q=>q.elim (λ q=>q.elim (λ q=>.inl (.inl q)) λ q=>.inr (hZ b q)) λ q=>(sp.own b q).imp .inr id
 refine⟨er.kind,er.glob,er.bi,er.inj,.inl er.Fd,?_,λ n hn=> ?_,er.apart⟩
 ·obtain⟨m,hm,hl⟩:=er.loc
  exact⟨m,bZ.ns hm λ o e=>sp.keep _ o e (λ q=>st.hr.ES _ q er.Fd) id,λ n i hi hk=>(hl n i hi hk).mono sp.pre (sp.E3 bG) ho⟩
 ·obtain⟨c,v,hc,hw,EC,hr⟩:=er.cell n hn
  exact⟨c,v,hc,.inl hw,bZ.cell EC λ o e=>sp.keep _ o e (λ q=>st.hr.ES _ q hw) id,λ i hi=>(hr i hi).mono sp.pre (sp.E3 bG) ho⟩
noncomputable def yX(W:P3->Prop)(env:Env):Prop:=W env.locals/\∀x c,(env.kindOf x=some .cell∨env.kindOf x=some .free)->env.cells.lookup x=some c->W c
theorem aC.places(er:aC g.pl g.w.params W Γ env ρ φ M s.heap):yX W env:=
 ⟨er.Fd,λ x c hx hc=>by obtain⟨c',v,h1,h2,_⟩:=er.cell x hx;rw[hc] at h1;cases h1;exact h2⟩
theorem aC.drop(ew:yX W env)(er:aC g.pl g.w.params W₁ Γ env ρ φ M h)(hk:∀b o,h.get? b=some o->¬Z b->h'.get? b=some o)(hZ:∀b,Z b->W₁ b)(hW:∀b,W b->W₁ b/\¬Z b):aC g.pl g.w.params W Γ env ρ φ M h':=by
 have Ff:∀b o,h.get? b=some o->¬ow W₁ φ M b->b7 o (h'.get? b):=λ b o e n=>.inl (hk b o e λ q=>n (.inl (hZ b q)))
 have ho:∀b,ow W φ M b->ow W₁ φ M b∨h.get? b=none:=λ b q=>.inl (q.imp (λ q=>(hW b q).1) id)
 refine⟨er.kind,er.glob,er.bi,er.inj,ew.1,?_,λ n hn=> ?_,er.apart⟩
 ·obtain⟨m,hm,hl⟩:=er.loc
  exact⟨m,hm.at' λ o e=>hk _ o e (hW _ ew.1).2,λ n i hi hx=>(hl n i hi hx).mono (Pz _) Ff ho⟩
 ·obtain⟨c,v,hc,hw,⟨o,e,hd⟩,hr⟩:=er.cell n hn
  have wc:=ew.2 n c hn hc
  exact⟨c,v,hc,wc,⟨o,hk _ o e (hW _ wc).2,hd⟩,λ i hi=>(hr i hi).mono (Pz _) Ff ho⟩
theorem aC.stepI(ew:yX W env)(er:aC g.pl g.w.params W₁ Γ env ρ φ M s.heap)(st:St g.pl g.w.params g.B W₁ fr φ M s)(sp:av Z φ M s φ' M' s')(hZ:∀b,Z b->W₁ b)(hW:∀b,W b->W₁ b/\¬Z b):aC g.pl g.w.params W₁ Γ env ρ φ' M' s'.heap:=
 er.step st sp hZ λ b zz q=>⟨λ e=>(hW _ ew.1).2 (e▸q),λ y hy e=>(hW _ (ew.2 y b hy e)).2 q⟩
theorem vL(hA:A.frames=some (env::fr))(hL:env.frame=some L)(za:St g.pl g.w.params g.B W (env::fr) φ M s)(hW:∀b,W b->W₁ b)(h:d5 g.pl g.w.params g.B W₁ (env::fr) g.cls V φ M s X e s'):
  notedBy Md A env (λ e s'=>Yz Md A env (d5 g.pl g.w.params g.B W (env::fr) g.cls V φ M s X) e s') e s':=by
 obtain⟨e,φ2,M2,rfl,q,Ez,Ey,ex⟩:=h
 refine oK (B:=g.B) (h0:=s.heap) hA Ez.frames hL (λ b=>Ey.dead) ex λ h' nt t=> ?_
 obtain⟨oe,vs,a0,T,oT,ts,he,hc,hd,HK,h1,I6,HL,hT,GV,h3⟩:=id t
 unfold Yz
 refine Py (Qv he hd h1 ?_)
 refine aa (if_neg (show¬((QJ T==Qg)=true) from by simp)) ?_
 refine iA (fr:=env::fr) (s:={s' with heap:=h'}) t λ h2 Lb t2=> ?_
 have Kx:=nt.trans Lb
 refine⟨e,φ2,M2,rfl,q,za.back (fr':=[]) (Ez.Fa (λ b o e=>by refine aa (za.base b o e) ?_;rfl) Kx) hW,Ey.Fa Ez Kx,ex.1,.inr (.inr ⟨env,fr,L,rfl,hL,?_⟩)⟩
 rw[hL] at t2
 exact t2
inductive Cx(g:Gs)(Γ:aH)(env:Env)(fr:List Env)(W:P3->Prop)(F:List Mine.V->an->AH->Prop)(S:az->AH->QG->List Mine.V->Prop)(V:P3->Prop)(φ:az)(M:AH)(s:PK)(k:Nat)(s':PK):Prop
 |mk (xs:List Mine.V) (ρ':an) (φ':az) (M':AH):k=xs.length->F xs ρ' M'->aC g.pl g.w.params W Γ env ρ' φ' M' s'.heap->St g.pl g.w.params g.B W fr φ' M' s'->av V φ M s φ' M' s'->S φ' M' s'.heap xs->Cx g Γ env fr W F S V φ M s k s'
theorem bd.E1(hi:fv g Γ N n it xi tg)(Gb:tg target)(hm:cS Γ N t target=true)(hb:dZ g Γ N n body xb)(hs:∀env x,QQ xi env x=pure x):
  bd g Γ N n (.E1 t it body) (.For target xi xb [] pos):=by
 intro W A fr env ρ φ M s Nx R X L hA hN hL er st hw
 refine wpAny_For ?_ (hs env)
 refine PT (hi W A _ env ρ φ M s _ X (d5 g.pl g.w.params g.B W (env::fr) g.cls (EO env) φ M s X) hA hN er st hw LX.p) (λ v s0 h=>PT h (λ iv s1 h=> ?_) λ zz zz e=>e) λ zz zz e=>e
 obtain⟨I,Z,S,xs,φ1,M1,rfl,q,Ep,Em,GS,hZ,hS⟩:=h
 have H7:∀b,Z b->W b∨Z b:=λ b q=>.inr q
 have GW:∀b,W b->(W b∨Z b)/\¬Z b:=λ b q=>⟨.inl q,λ z=>by obtain⟨o,e⟩:=st.FI b q;rw[(hZ b z).1] at e;cases e⟩
 have ew:=er.places
 have Nz:∀en∈env::fr,∀L,en.frame=some L->¬Z L:=λ en he L hf=>(GW L (st.Fg en he L hf)).2
 have EA:=er.GM st Em λ b q=>(hZ b q).1
 refine codeAny_forLoop_any (Cx g Γ env (env::fr) (λ b=>W b∨Z b) (λ xs ρ' M'=>u3 (λ x ρ M2 k=>aB (dF t x ρ) λ ρ'=>bq g.pl.P (ag g.pl.P n) body ρ' M2 k R X) xs ρ' M' Nx) (S λ b=>W b∨Z b) (EO env) φ M s) ?_ xs.length ⟨xs,ρ,φ1,M1,rfl,q,EA,Ep,Em.wide,hS⟩
 rintro k s2 ⟨xs,ρ2,φ2,M2,rfl,q2,ER,Ez,Ey,hS2⟩
 cases xs with
 |nil=>
  refine GS.done hA.handled hS2 λ h' tk hk=> ?_
  refine RJ ⟨ρ2,φ2,M2,q2,ER.drop ew hk H7 GW,Ez.drop (s':={s2 with heap:=h',toks:=tk}) hk H7 (λ en he L hf=>⟨Nz en he L hf,st.Fg en he L hf⟩) GW,Ey.drop (s':={s2 with heap:=h',toks:=tk}) hk (λ b q=>(hZ b q).1) rfl rfl⟩
 |cons x xs=>
  refine PT (GS.next (target:=target) (Q:=λ v s3=>PR (PW g.prog g.w) A (Xq target env v) _ _ s3) H7 Nz Gb Ez hS2 λ v s3 Fh Fi r3 LU=> ?_) (λ r s3 h=>by rename type_of% h=>oqe;refine ai oqe λ v e h=> ?_;clear oqe;subst e;exact h) λ zz zz e=>e
  have GZ:=ER.stepI ew Ez Fi H7 GW
  refine ai (aD q2) λ ρ4 hb4 q4=> ?_
  refine iE hm hA.handled hN GZ Fh r3 hb4 λ s4 HN F4 FO=> ?_
  have Jr:=FO.mono λ b q zz=>bu.EO q
  have IC:av (EO env) φ M s φ2 M2 s4:=(Ey.F3 Fi λ b q=>.inr (hZ b q).1).trans Jr
  refine PT (hb _ A fr env ρ4 φ2 M2 s4 _ R X L hA hN hL HN F4 q4) (λ f s5 h=> ?_) λ e s5 h=>vL hA.frames hL st (λ b q=>.inl q) (d5.step IC _ _ h)
  cases f with
  |next=>
   obtain⟨ρ5,φ5,M5,q5,IA,Hd,He⟩:=h
   refine⟨xs.length,Rb _,xs,ρ5,φ5,M5,rfl,q5,IA,Hd,IC.trans He,?_⟩
   have spT:=Jr.trans He
   have nZ:∀b,Z b->¬EO env b:=λ b q z=>(GW b (er.FV b z)).2 q
   refine GS.mono spT.pre (spT.E3 λ b q=>.inl (er.FV b q)) spT.FW (λ b o zb e=> ?_) LU
   exact spT.keep b o e (λ q=>Fh.hr.ES b q (.inr zb)) (nZ b zb)
  |ret v=>
   obtain⟨y,φ5,M5,q5,Hd,He,r5⟩:=h
   exact⟨y,φ5,M5,q5,st.back (fr':=[]) Hd (λ b q=>.inl q),IC.trans He,VR.set (λ b q=>.inl (.inl q)) r5⟩
  |_=>exact h.elim
theorem LX.no{C:Prop}(h:LX g.pl g.w.params g.B W fr g.cls φ M s (λ zz=>False) v s'):C:=h.casesOn λ zz zz zz zz f zz zz zz=>f.elim
theorem d5.no{C:Prop}(h:d5 g.pl g.w.params g.B W fr g.cls V φ M s (λ zz=>False) v s'):C:=h.casesOn λ zz zz zz zz f zz zz zz=>f.elim
theorem bd.EV{body:Ss}{xb:List R9}(ht:bA g Γ N n t xt)(hb:dZ g Γ N n body xb):bd g Γ N n (.EV t body) (.While xt xb [] pos):=by
 intro W A fr env ρ φ M s Nx R X L hA hN hL er st hw
 obtain⟨k0,hw⟩:=hw
 refine wpAny_While (codeAny_whileLoop (λ k s'=>Cp g.pl g.w.params g.B W (env::fr) Γ env φ M s (λ ρ' M'=>vF (λ ρ M k=>aO g.pl.P (ag g.pl.P n) t ρ M (λ x M1=>aB (bE x) λ b=>k b M1) (λ zz=>False))
   (λ ρ M k=>bq g.pl.P (ag g.pl.P n) body ρ M k (λ zz zz=>False) (λ zz=>False)) k ρ' M' Nx) s') ?_ k0 ⟨ρ,φ,M,hw,er,st,.refl⟩)
 rintro k s1 ⟨ρ1,φ1,M1,q1,EA,Ep,Em⟩
 cases k with
 |zero=>exact q1.elim
 |succ k=>
  refine iK ht hA hN EA Ep q1 (λ b s2 φ2 M2 q2 Ez Ey ER=> ?_) λ v s' z=>z.no
  cases b with
  |false=>
   refine aa (if_neg (by decide)) ?_
   exact RJ ⟨ρ1,φ2,M2,q2.2 rfl,ER,Ez,Em.trans Ey.wide⟩
  |true=>
   refine aa (if_pos rfl) ?_
   refine PT (hb W A fr env ρ1 φ2 M2 s2 _ _ _ L hA hN hL ER Ez (q2.1 rfl)) (λ f s3 h=> ?_) λ v s' z=>z.no
   cases f with
   |next=>
    obtain⟨ρ3,φ3,M3,q3,GZ,Fh,Fi⟩:=h
    exact⟨k,Rb _,ρ3,φ3,M3,q3,GZ,Fh,(Em.trans Ey.wide).trans Fi⟩
   |ret v=>obtain⟨y,φ5,M5,q5,_⟩:=h;exact q5.elim
   |_=>exact h.elim
end
noncomputable def Cl.depth:Cl->Nat
 |.last _=>0
 |.cls _ _ _ r=>r.depth+1
noncomputable def ef(g:Gs)(Γ:aH)(N:Nm)(n:Nat)(es:Es)(xs:List P8):Prop:=
 ∀W A fr env ρ φ M s Q E0,cj A fr n->env.scope.names=N->aC g.pl g.w.params W Γ env ρ φ M s.heap->St g.pl g.w.params g.B W fr φ M s->
  iP g.pl.P (ag g.pl.P n) es ρ M Q->
  PR (PW g.prog g.w) A (forIn xs true λ c r=>if r=true then do let ok<-isTrue c env (eval c env);pure (QU ok) else pure (QU r)) (LB g.pl g.w.params g.B W fr φ M s Q) E0 s
section
variable{g:Gs}{tb:Tb}{K:RH}{Γ:aH}{N:Nm}{n:Nat}{W W₁ Z V:P3->Prop}{A:Qx}{fr:List Env}{env:Env}{ρ ρ':an}{φ φ1 φ0 φ':az}{M M1 M0 M':AH}{s s1 s0 s':PK}{E0:PJ->PK->Prop}{Md:TX}
theorem ef.nil:ef g Γ N n .nil []:=by
 intro W A fr env ρ φ M s Q E0 hA hN er st hw
 refine aa RL ?_
 exact PB ⟨φ,M,hw,st,.refl⟩
theorem sV(env:Env):∀xs:List P8,(forIn xs false λ c r=>if r=true then do let ok<-isTrue c env (eval c env);pure (QU ok) else pure (QU r):Sem Bool)=pure false:=by
 intro xs
 induction xs with
 |nil=>
  refine aa RL ?_;rfl
 |cons x xs ih=>
  rewrite[Q3];refine aa (if_neg (by decide)) ?_;refine aa (pure_bind _ _) ?_
  exact ih
theorem ef.cons{e:E}{r:Es}{x:P8}{xs:List P8}(h1:bA g Γ N n e x)(h2:ef g Γ N n r xs):ef g Γ N n (.cons e r) (x::xs):=by
 intro W A fr env ρ φ M s Q E0 hA hN er st hw
 rewrite[Q3];refine aa (if_pos rfl) ?_
 refine Py (Py (iK h1 hA hN er st hw (λ b s1 φ1 M1 q Ep Em EA=>PB ?_) λ v s' z=>z.no))
 dsimp only
 cases b with
 |true=>exact PT (h2 W A fr env ρ φ1 M1 s1 Q E0 hA hN EA Ep (q.1 rfl)) (LB.step Em) λ zz zz e=>e
 |false=>
  refine aa (sV _ _) ?_
  exact PB ⟨φ1,M1,q.2 rfl,Ep,Em⟩
inductive CS(g:Gs)(W:P3->Prop)(φ:az)(M:AH)(h:QG)(D:P3)(pre:List Mine.V):Prop
 |mk (us:List PJ) (m:Nat):h.get? D=some (bb us m)->am g.pl g.w.params φ (ow W φ M) h pre us->CS g W φ M h D pre
noncomputable def iC(D:P3)(env:Env)(ns:List Str)(b:P3):Prop:=b=D∨bu env ns b
structure jN(D:P3)(W:P3->Prop)(fr:List Env)(env:Env)(ns:List Str):Prop where
 w:W D
 loc:D≠env.locals
 cells:∀x c,(env.kindOf x=some .cell∨env.kindOf x=some .free)->env.cells.lookup x=some c->c≠D
 fr:∀en∈fr,∀L,en.frame=some L->L≠D/\¬bu env ns L
noncomputable def zG(elt:P8)(acc:PJ)(env:Env):Sem Unit:=do let _<-call (.builtin "list.append") [acc,<-eval elt env]
noncomputable def kZ(e:P8)(elt:P8)(gens:List Q5)(k:Nat)(acc:PJ)(env:Env):Sem Unit:=
 match gens[k+1]? with
 |some g'=>do
  let x<-eval g'.iter env
  Su g'.iter.pos
  let x<-if g'.is_async !=0 then foldedIterable g'.iter x else QQ g'.iter env x
  let _<-runOwn (.compStart e (k+1) (<-Vq [x] (if g'.is_async !=0 then asyncIter x else Xp x)) acc env) env
 |none=>zG elt acc env
inductive vw(g:Gs)(W:P3->Prop)(fr:List Env)(Γ:aH)(env:Env)(ρ:an)(ns:List Str)(D:P3)(pre:List Mine.V)(φ:az)(M:AH)(s:PK)(Kc:List Mine.V->AH->Prop)(s':PK):Prop
 |mk (out:List Mine.V) (φ':az) (M':AH):Kc out M'->aC g.pl g.w.params W Γ env ρ φ' M' s'.heap->St g.pl g.w.params g.B W fr φ' M' s'->av (iC D env ns) φ M s φ' M' s'->CS g W φ' M' s'.heap D (pre++out)->vw g W fr Γ env ρ ns D pre φ M s Kc s'
noncomputable def eF(g:Gs)(Γ:aH)(N:Nm)(ns:List Str)(n:Nat)(e elt:P8)(gens:List Q5)(k:Nat)(r:Cl):Prop:=
 ∀W A fr env ρ φ M s D pre Kc E0,cj A fr n->env.scope.names=N->aC g.pl g.w.params W Γ env ρ φ M s.heap->St g.pl g.w.params g.B W fr φ M s->CS g W φ M s.heap D pre->jN D W fr env ns->(∀i∈Cl.E4 r,ρ.get i=none)->
  pre.length+(r.depth+1)*aq<=Rl->lQ g.pl.P (ag g.pl.P n) r ρ M Kc->
  PR (PW g.prog g.w) A (kZ e elt gens k (.ref D) env) (λ zz=>vw g W fr Γ env ρ ns D pre φ M s Kc) E0 s
noncomputable def pU(e elt:P8)(gens:List Q5)(k:Nat)(it acc:PJ)(env:Env):Sem Fin:=do
 match gens[k+1]? with
 |some g'=>
  let x<-eval g'.iter env
  Su g'.iter.pos
  let x<-if g'.is_async !=0 then foldedIterable g'.iter x else QQ g'.iter env x
  let _<-runOwn (.compStart e (k+1) (<-Vq [x] (if g'.is_async !=0 then asyncIter x else Xp x)) acc env) env
 |none=>zG elt acc env
 again (.compLoop e k it acc env)
theorem z5(h:PR Md A (kZ e elt gens k acc env) (λ zz s'=>PR Md A (again (.compLoop e k it acc env)) Q E0 s') E0 s):PR Md A (pU e elt gens k it acc env) Q E0 s:=by
 have eq:pU e elt gens k it acc env=(kZ e elt gens k acc env>>=λ zz=>again (.compLoop e k it acc env)):=by
  unfold pU kZ
  cases gens[k+1]? with
  |none=>simp only [bind_assoc,pure_bind]
  |some g'=>
   dsimp only
   cases h:(g'.is_async !=0)
   ·simp only [P4,if_false,bind_assoc,pure_bind]
   ·simp only [if_true,bind_assoc,pure_bind]
 refine aa eq ?_
 exact Py h
theorem sZ(elt:P8)(gens:List Q5)(scope:Xo)(pos:Pos)(k:Nat)(it acc:PJ)(env:Env)(hk:gens[k]? =some ⟨target,iter,ifs,0⟩):
  compTurn (.ListComp elt gens scope pos) k it acc env=(do
   Su iter.pos
   match<-WM it with
   |none=>pure (.done .next)
   |some v=>
    Uj target it v
    Xq target env v
    let ok<-(forIn ifs true λ c r=>if r=true then do let ok<-isTrue c env (eval c env);pure (QU ok) else pure (QU r))
    if ok then pU (.ListComp elt gens scope pos) elt gens k it acc env
    else again (.compLoop (.ListComp elt gens scope pos) k it acc env)):=by
 unfold compTurn
 dsimp only
 refine aa hk ?_
 rfl
end
section
variable{g:Gs}{tb:Tb}{K:RH}{Γ:aH}{N:Nm}{n:Nat}{W W₁ Z V:P3->Prop}{A:Qx}{fr:List Env}{env:Env}{ρ ρ' ρ1:an}{φ φ1 φ0 φ':az}{M M1 M0 M':AH}{s s1 s0 s':PK}{E0:PJ->PK->Prop}{Md:TX}{D:P3}{pre:List Mine.V}{ns:List Str}
theorem xP:∀{is:List Nat} {vs:List Mine.V} {ρ ρ1:an},an.Fm ρ is vs=some ρ1->∀i,i∉is->ρ1.get i=ρ.get i:=by
 intro is
 induction is with
 |nil=>
  intro y1
  cases y1 with
  |nil=>
   intro y2 y3 h i y4
   cases h;rfl
  |cons y5 y6=>
   intro y7 y8 h y9 G0
   cases h
 |cons j is ih=>
  intro Gt
  cases Gt with
  |nil=>
   intro HH Jb h Ja Kn
   cases h
  |cons v vs=>
   intro ρ ρ1 h i hi
   rw[PS,not_or] at hi
   have h:an.Fm (an.put ρ j v) is vs=some ρ1:=h
   refine aa (ih h i hi.2) ?_;refine aa (an.EN ρ v hi.1) ?_;rfl
theorem pG(h:dF t x ρ=some ρ1):∀i,i∉t.list->ρ1.get i=ρ.get i:=by
 intro i hi
 cases t with
 |one j=>
  cases h
  exact an.EN ρ x λ e=>hi (by refine aa e ?_;exact .head _)
 |many is=>
  refine ai (Rk.mp h) λ vs zz hp=> ?_
  exact xP hp i hi
theorem aC.weaken(er:aC g.pl g.w.params W Γ env ρ1 φ M h)(hw:∀i,ρ.get i=none∨ρ.get i=ρ1.get i):aC g.pl g.w.params W Γ env ρ φ M h:=by
 have ok:∀{i:Nat} {u:Option PJ},eS g.pl g.w.params φ (ow W φ M) h (ρ1.get i) u->eS g.pl g.w.params φ (ow W φ M) h (ρ.get i) u:=λ{i u} q=>by
  rcases hw i with e|e
  ·refine aa e ?_;trivial
  ·refine aa e ?_;exact q
 refine⟨er.kind,er.glob,er.bi,er.inj,er.Fd,?_,λ x hx=> ?_,er.apart⟩
 ·obtain⟨m,hm,hl⟩:=er.loc
  exact⟨m,hm,λ x i hi hx=>ok (hl x i hi hx)⟩
 ·obtain⟨c,v,hc,IP,EC,hr⟩:=er.cell x hx
  exact⟨c,v,hc,IP,EC,λ i hi=>ok (hr i hi)⟩
theorem CS.step(cs:CS g W φ M s.heap D pre)(st:St g.pl g.w.params g.B W fr φ M s)(sp:av V φ M s φ' M' s')(hV:∀b,V b->W b)(hD:¬V D)(wD:W D):CS g W φ' M' s'.heap D pre:=by
 obtain⟨us,m,e,rs⟩:=cs
 exact⟨us,m,(sp.keep D _ e (λ q=>st.hr.ES D q wD) hD).eq (by simp),rs.step sp hV⟩
theorem Ar(st:St g.pl g.w.params g.B W fr φ M s)(cs:CS g W φ M s.heap D pre)(wD:W D)(hF:∀en∈fr,∀L,en.frame=some L->L≠D)(r:VR g.pl g.w.params φ (ow W φ M) s.heap x v)(hle:pre.length<=Rl)
  (k:∀s',St g.pl g.w.params g.B W fr φ M s'->av (λ b=>b=D) φ M s φ M s'->CS g W φ M s'.heap D (pre++[x])->Q .none s'):PR (PW g.prog g.w) A (call (.builtin "list.append") [.ref D,v]) Q E0 s:=by
 obtain⟨us,m,gg,rs⟩:=cs
 refine QW slot_list_append ⟨_,gg,rfl⟩ YH ?_ (args_list_append _ _)
 show PR _ _ (updateSeq D (·.push v)>>=λ zz=>Wg Qg) _ _ s
 have Fc:us.toArray.size<=Rl:=by have:=rs.length;refine aa PU ?_;refine aa this ?_;exact hle
 refine Py (wpAny_updateSeq gg rfl (PB (X6 Qg ⟨rfl,?_⟩)) Fc (by refine aa (XI _) ?_;exact Sv Fc))
 obtain⟨m',Hg⟩:=jA (·.push v) us m
 have g2:(s.heap.update D (Q0 (·.push v))).get? D=some (bb (us++[v]) m'):=by
  refine aa (P5 _ gg (by refine aa Hg ?_;rfl)) ?_;refine aa Hg ?_
  simp
 have hs:Qp D s.heap (s.heap.update D (Q0 (·.push v))):=Qy ..
 obtain⟨a1,a2⟩:=m9 hs ⟨_,g2⟩
 have Ff:∀b o,s.heap.get? b=some o->¬ow W φ M b->b7 o ((s.heap.update D (Q0 (·.push v))).get? b):=λ b o e nb=>.inl (a1 b o e λ q=>nb (.inl (q▸wD)))
 exact k _ (st.touched (Z:=λ b=>b=D) (s':={s with heap:=s.heap.update D (Q0 (·.push v))}) a1 (λ b q=>q▸wD) a2 λ en he L hf q=>hF en he L hf q) (.touched a1 a2 rfl rfl)
  ⟨us++[v],m',g2,am.append (rs.mono (Pz _) Ff λ b q=>.inl q) (am.c ⟨v,[],rfl,r.mono (Pz _) Ff λ b q=>.inl q,rfl⟩)⟩
theorem jN.HS(ap:jN D W fr env ns):¬bu env ns D:=by
 rintro(q|⟨x,_,hx,hc⟩)
 ·exact ap.loc q
 ·exact ap.cells x D (.inl hx) hc rfl
theorem aC.Jq(er:aC g.pl g.w.params W Γ env ρ φ M s.heap)(st:St g.pl g.w.params g.B W fr φ M s)(ap:jN D W fr env ns)(sp:av (λ b=>b=D) φ M s φ' M' s'):aC g.pl g.w.params W Γ env ρ φ' M' s'.heap:=
 er.step st sp (λ b q=>q▸ap.w) λ b zz q=>⟨λ e=>ap.loc (q.symm.trans e),λ y hy e=>ap.cells y b hy e q⟩
theorem eF.last(hk:gens[k+1]? =none)(he:aj g Γ N n el elt):eF g Γ N ns n e elt gens k (.last el):=by
 intro W A fr env ρ φ M s D pre Kc E0 hA hN er st cs ap Gm hb hw
 unfold kZ
 refine aa hk ?_
 show PR _ A (eval elt env>>=λ v=>call (.builtin "list.append") [.ref D,v]>>=λ zz=>pure ()) _ _ s
 refine Py (aS (α:=Unit) he hA hN er st hw (λ v x s1 φ1 M1 q Ep Em EA r1=> ?_) λ v s' z=>z.no)
 have Jl:=cs.step st Em bG id ap.w
 refine Py (Ar Ep Jl ap.w (λ en he L hf=>(ap.fr en he L hf).1) r1 (by have:(Cl.last el).depth=0:=rfl;exact ae 0x4830c03fa20c300fe0a186a0533f06149102 rfl pre.length ((Cl.last el).depth) hb) λ s2 Ez Ey Mu=>PB ?_)
 exact⟨[x],φ1,M1,q,EA.Jq Ep ap Ey,Ez,Em.wide.trans (Ey.mono λ b q zz=>.inl q),Mu⟩
inductive zQ(g:Gs)(W:P3->Prop)(fr:List Env)(Γ:aH)(env:Env)(ρ:an)(ns:List Str)(D:P3)(pre:List Mine.V)(Z:P3->Prop)(φ:az)(M:AH)(s:PK)(Q:List Mine.V->AH->Prop)(s':PK):Prop
 |mk (out:List Mine.V) (φ':az) (M':AH) (s1:PK):Q out M'->out.length<=aq->aC g.pl g.w.params W Γ env ρ φ' M' s1.heap->St g.pl g.w.params g.B W fr φ' M' s1->av (λ b=>iC D env ns b∨Z b) φ M s φ' M' s1->CS g W φ' M' s1.heap D (pre++out)->(∀b o,s1.heap.get? b=some o->¬Z b->s'.heap.get? b=some o)->s'.os=s1.os->s'.gens=s1.gens->zQ g W fr Γ env ρ ns D pre Z φ M s Q s'
noncomputable def nL(P:dH)(c:cM)(ρ:an)(t:jn)(es:Es)(r:Cl)(x:Mine.V)(M2:AH)(k:List Mine.V->AH->Prop):Prop:=
 aB (dF t x ρ) λ ρ'=>iP P c es ρ' M2 λ b M3=>(b=true->lQ P c r ρ' M3 k)/\(b=false->k [] M3)
inductive Ct(g:Gs)(W:P3->Prop)(fr:List Env)(Γ:aH)(env:Env)(ρ:an)(D:P3)(pre:List Mine.V)(V:P3->Prop)(φ:az)(M:AH)(s:PK)(F:List Mine.V->List Mine.V->AH->Prop)(S:az->AH->QG->List Mine.V->Prop)(k:Nat)(s':PK):Prop
 |mk (xs acc:List Mine.V) (φ':az) (M':AH):k=xs.length->F xs acc M'->aC g.pl g.w.params W Γ env ρ φ' M' s'.heap->St g.pl g.w.params g.B W fr φ' M' s'->av V φ M s φ' M' s'->S φ' M' s'.heap xs->CS g W φ' M' s'.heap D (pre++acc)->acc.length<=aq->Ct g W fr Γ env ρ D pre V φ M s F S k s'
theorem tJ{k:Nat}{gens:List Q5}{ifs:List P8}{scope:Xo}{t:jn}{es:Es}{r:Cl}{I:P3}{tg:P8->Prop}{S:(P3->Prop)->az->AH->QG->List Mine.V->Prop}{xs:List Mine.V}{Q:List Mine.V->AH->Prop}
  (hk:gens[k]? =some ⟨target,iter,ifs,0⟩)(hm:cS Γ N t target=true)(FP:∀x∈cX target,x∈ns)(hifs:ef g Γ N n es ifs)(hr:eF g Γ N ns n (.ListComp elt gens scope pos) elt gens k r)(Gb:tg target)(GS:ie g A I Z tg S)
  (hZ:∀b,Z b->W b)(hZF:∀en∈fr,∀L,en.frame=some L->¬Z L)(hZD:¬Z D)(hZE:∀b,Z b->b≠env.locals/\∀y,(env.kindOf y=some .cell∨env.kindOf y=some .free)->env.cells.lookup y≠some b)
  (hA:cj A fr n)(hN:env.scope.names=N)(er:aC g.pl g.w.params W Γ env ρ φ M s.heap)(st:St g.pl g.w.params g.B W fr φ M s)(hS:S W φ M s.heap xs)(cs:CS g W φ M s.heap D pre)(ap:jN D W fr env ns)
  (Gm:∀i∈t.list++r.E4,ρ.get i=none)(hnd:(t.list++r.E4).Nodup)(hb:pre.length+(r.depth+2)*aq<=Rl)
  (hw:bP (nL g.pl.P (ag g.pl.P n) ρ t es r) xs [] M Q):
  Sh (PW g.prog g.w) A (.compLoop (.ListComp elt gens scope pos) k (.ref I) (.ref D) env) (λ rr s'=>rr=.ok .next/\zQ g W fr Γ env ρ ns D pre Z φ M s Q s') s:=by
 have OW:∀b,Z b->¬bu env ns b:=by
  rintro b q (z|⟨x,_,hx,hc⟩)
  ·exact(hZE b q).1 z
  ·exact(hZE b q).2 x (.inl hx) hc
 refine codeAny_loop rfl (Ct g W fr Γ env ρ D pre (λ b=>iC D env ns b∨Z b) φ M s (λ xs acc M'=>bP (nL g.pl.P (ag g.pl.P n) ρ t es r) xs acc M' Q) (S W)) ?_ xs.length
  ⟨xs,[],φ,M,rfl,hw,er,st,.refl,hS,by refine aa (Qa _) ?_;exact cs,Rv _⟩
 rintro k' s1 ⟨xs,acc,φ1,M1,rfl,q1,EA,Ep,Em,hS1,Jl,Hz⟩
 show PR _ A ((compTurn (.ListComp elt gens scope pos) k (.ref I) (.ref D) env).onRaise (λ x=>do Xv x env;theTreesLotGoes x)) _ _ s1
 refine wpAny_noted ?_
 refine aa (sZ elt gens scope pos k (.ref I) (.ref D) env hk) ?_
 refine Py (QF ?_)
 cases xs with
 |nil=>
  refine Py (GS.done hA.handled hS1 λ h' tk FR=>PB ?_)
  exact⟨rfl,acc,φ1,M1,s1,q1,Hz,EA,Ep,Em,Jl,FR,rfl,rfl⟩
 |cons x xs=>
  refine Py (PT (GS.next (target:=target) (Q:=λ v s3=>PR (PW g.prog g.w) A _ _ _ s3) hZ hZF Gb Ep hS1 λ v s3 Fh Fi r3 LU=> ?_) (λ r s3 h=>by rename type_of% h=>oqe;refine ai oqe λ v e h=> ?_;clear oqe;subst e;exact Py h) λ zz zz e=>e)
  have GZ:=EA.step Ep Fi hZ λ b zz q=>hZE b q
  have Pr:=Jl.step Ep Fi hZ hZD ap.w
  refine ai (aD q1) λ ρ4 hb4 q4=> ?_
  refine Py (iE hm hA.handled hN GZ Fh r3 hb4 λ s4 HN F4 FO=> ?_)
  have FO:=FO.mono λ b q zz=>bu.sub FP q
  have Nv:∀b,bu env ns b->W b:=λ b q=>GZ.FV b (bu.EO q)
  have Mt:=Pr.step Fh FO Nv ap.HS ap.w
  refine Py (PT (hifs W A fr env ρ4 φ1 M1 s4 _ _ hA hN HN F4 q4) (λ b s5 h=> ?_) λ zz zz e=>e)
  obtain⟨φ5,M5,q5,Hd,He⟩:=h
  have IA:=HN.E9 F4 He
  have Kg:=Mt.step F4 He bG id ap.w
  have Js:av (iC D env ns) φ1 M1 s3 φ5 M5 s5:=(FO.mono λ b q zz=>.inr q).trans He.wide
  have weak:∀i,ρ.get i=none∨ρ.get i=ρ4.get i:=λ i=>by
   by_cases h:i∈t.list
   ·exact .inl (Gm i (Qq.mpr (.inl h)))
   ·exact .inr (pG hb4 i h).symm
  have O3:∀b,iC D env ns b->W b:=λ b q=>q.elim (λ q=>q▸ap.w) (Nv b)
  have N5:∀b,Z b->¬iC D env ns b:=λ b q z=>z.elim (λ z=>hZD (z▸q)) (OW b q)
  have again:∀{φ6 M6 s6 out},aC g.pl g.w.params W Γ env ρ4 φ6 M6 s6.heap->St g.pl g.w.params g.B W fr φ6 M6 s6->av (iC D env ns) φ1 M1 s3 φ6 M6 s6->CS g W φ6 M6 s6.heap D (pre++(acc++out))->((acc++out).length<=aq/\bP (nL g.pl.P (ag g.pl.P n) ρ t es r) xs (acc++out) M6 Q)->
    ∃m,m<(x::xs).length/\Ct g W fr Γ env ρ D pre (λ b=>iC D env ns b∨Z b) φ M s (λ xs acc M'=>bP (nL g.pl.P (ag g.pl.P n) ρ t es r) xs acc M' Q) (S W) m s6:=by
   intro φ6 M6 s6 out Mm KY IB Ms q6
   refine⟨xs.length,Rb _,xs,acc++out,φ6,M6,rfl,q6.2,Mm.weaken weak,KY,(Em.trans (Fi.mono λ b q zz=>.inr q)).trans (IB.mono λ b q zz=>.inl q),?_,Ms,q6.1⟩
   exact GS.mono IB.pre (IB.E3 O3) IB.FW (λ b o zb e=>IB.keep b o e (λ q=>Fh.hr.ES b q (hZ b zb)) (N5 b zb)) LU
  cases b with
  |false=>
   refine aa (if_neg (by decide)) ?_
   exact PB ⟨rfl,again IA Hd Js (by refine aa (Qa _) ?_;exact Kg) (q5.2 rfl)⟩
  |true=>
   refine aa (if_pos rfl) ?_
   refine z5 (PT (hr W A fr env ρ4 φ5 M5 s5 D (pre++acc) _ _ hA hN IA Hd Kg ap (λ i hi=> ?_) ?_ (q5.1 rfl)) (λ zz s6 h=> ?_) λ zz zz e=>e)
   ·have h2:i∉t.list:=λ q=>(Se.mp hnd).2.2 i q i hi rfl
    refine aa (pG hb4 i h2) ?_
    exact Gm i (Qq.mpr (.inr hi))
   ·refine aa PH ?_
    have:(r.depth+2)*aq=(r.depth+1)*aq+aq:=Nat.succ_mul _ _
    exact ae 0x124830c03f82861a814cfc1852053441c350299fa60c300fe0a186a0533f06249103 rfl pre.length r.depth acc.length hb Hz
   ·obtain⟨out,φ6,M6,q6,Mm,KY,IB,Ms⟩:=h
    exact PB ⟨rfl,again Mm KY (Js.trans IB) (by refine aE (Td _ _ _) ?_;exact Ms) q6⟩
end
section
variable{g:Gs}{tb:Tb}{K:RH}{Γ:aH}{N:Nm}{n:Nat}{W W₁ Z V:P3->Prop}{A:Qx}{fr:List Env}{env:Env}{ρ ρ' ρ1:an}{φ φ1 φ0 φ':az}{M M1 M0 M':AH}{s s1 s0 s':PK}{E0:PJ->PK->Prop}{Md:TX}{D:P3}{pre:List Mine.V}{ns:List Str}
theorem kP(hk:gens[k]? =some ⟨target,iter,ifs,0⟩)
  (h0:Sh (PW g.prog g.w) A (.compLoop (.ListComp elt gens scope pos) k it acc env) R s)
  (h:∀E,PR (PW g.prog g.w) A (Xp it) (λ MN s'=>Sh (PW g.prog g.w) A (.compLoop (.ListComp elt gens scope pos) k MN acc env) R s') E s):
  Sh (PW g.prog g.w) A (.compStart (.ListComp elt gens scope pos) k it acc env) R s:=by
 refine Wh ?_
 show PR _ _ ((compStart (.ListComp elt gens scope pos) k it acc env).onRaise (λ x=>do Xv x env;Su theWindowsPlace)) _ _ s
 refine wpAny_notedAt ?_
 unfold compStart
 have hc:clausesOf (.ListComp elt gens scope pos)=gens:=rfl
 refine aa hc ?_;refine aa hk ?_
 show PR _ _ (ask>>=_) _ _ s
 refine Py (VU (wpAny_ite ?_))
 split
 ·first
   |exact Py (PB (PB (Ws rfl h0)))
   |exact PB (Ws rfl h0)
 ·refine Py (TC ?_)
  show PR _ _ (Su iter.pos>>=_) _ _ s
  exact Py (QF (Py (PT (h _) (λ MN s' h'=>PB (Ws rfl h')) λ zz zz x=>x)))
theorem eF.cls
  (hk:gens[k+1]? =some ⟨target,iter,ifs,0⟩)(hs:∀env x,QQ iter env x=pure x)(hi:fv g Γ N n it iter tg)(Gb:tg target)(hm:cS Γ N t target=true)(FP:∀x∈cX target,x∈ns)(hifs:ef g Γ N n es ifs)
  (hnd:(t.list++r.E4).Nodup)(hr:eF g Γ N ns n (.ListComp elt gens scope pos) elt gens (k+1) r):eF g Γ N ns n (.ListComp elt gens scope pos) elt gens k (.cls t it es r):=by
 intro W A fr env ρ φ M s D pre Kc E0 hA hN er st cs ap Gm hb hw
 unfold kZ
 refine aa hk ?_
 show PR _ A (eval iter env>>=λ x=>Su iter.pos>>=λ zz=>QQ iter env x>>=λ x=>Vq [x] (Xp x)>>=λ i=>runOwn (.compStart (.ListComp elt gens scope pos) (k+1) i (.ref D) env) env>>=λ zz=>pure ()) _ _ s
 refine Py (PT (hi W A fr env ρ φ M s _ (λ zz=>False) E0 hA hN er st hw λ v s' z=>z.no) (λ v s0 h=> ?_) λ zz zz e=>e)
 refine Py (QF (Py (Rq (hs env v) (Py (Qr (PT h (λ iv s1 h1=> ?_) λ zz zz e=>e))))))
 obtain⟨I,Z,S,xs,φ1,M1,rfl,q,Ep,Em,GS,hZ,hS⟩:=h1
 have H7:∀b,Z b->W b∨Z b:=λ b q=>.inr q
 have GW:∀b,W b->(W b∨Z b)/\¬Z b:=λ b q=>⟨.inl q,λ z=>by obtain⟨o,e⟩:=st.FI b q;rw[(hZ b z).1] at e;cases e⟩
 have ew:=er.places
 have EA:=er.GM st Em λ b q=>(hZ b q).1
 have Jl:CS g (λ b=>W b∨Z b) φ1 M1 s1.heap D pre:=by
  obtain⟨us,m,e,rs⟩:=cs
  exact⟨us,m,(Em.keep D _ e (λ q=>st.hr.ES D q ap.w) id).eq (by simp),rs.mono Em.pre (Em.E3 bG) λ b q=>q.elim (λ q=>q.elim (λ q=>.inl (.inl q)) λ q=>.inr (hZ b q).1) λ q=>(Em.own b q).imp .inr id⟩
 have Pv:jN D (λ b=>W b∨Z b) fr env ns:=⟨.inl ap.w,ap.loc,ap.cells,ap.fr⟩
 have main:=tJ (W:=λ b=>W b∨Z b) (k:=k+1) (ns:=ns) (D:=D) (pre:=pre) (Q:=Kc) hk hm FP hifs hr Gb GS H7 (λ en he L hf=>(GW L (st.Fg en he L hf)).2) (GW D ap.w).2
  (λ b q=>⟨λ e=>(GW _ ew.1).2 (e▸q),λ y hy e=>(GW _ (ew.2 y b hy e)).2 q⟩) hA hN EA Ep hS Jl Pv Gm hnd (by have:(Cl.cls t it es r).depth=r.depth+1:=rfl;rw[this] at hb;exact hb) q
 refine Py (wpAny_runOwn ?_)
 have fin:Sh (PW g.prog g.w) A (.compLoop (.ListComp elt gens scope pos) (k+1) (.ref I) (.ref D) env) (λ r s'=>match r with|.ok f=>PR (PW g.prog g.w) A (pure ()) (λ zz=>vw g W fr Γ env ρ ns D pre φ M s Kc) E0 s'|.error e=>Yz (PW g.prog g.w) A env E0 e s') s1:=by
  refine Uh main λ rr s' h=> ?_
  obtain⟨rfl,out,φ',M',s2,q2,hl,ER,Ez,Ey,Mu,FF,ho,hg⟩:=h
  refine PB ⟨out,φ',M',q2,ER.drop ew FF H7 GW,Ez.drop FF H7 (λ en he L hf=>⟨(GW L (st.Fg en he L hf)).2,st.Fg en he L hf⟩) GW,?_,?_⟩
  ·exact(Em.wide.F3 Ey λ b q=>q.elim .inl λ q=>.inr (hZ b q).1).drop FF (λ b q=>(hZ b q).1) ho hg
  ·obtain⟨us,m,e,rs⟩:=Mu
   exact⟨us,m,FF D _ e (GW D ap.w).2,am.HF Ez FF H7 (λ b q=>.inl q) rs⟩
 exact kP hk fin λ E=>GS.again hS fin
end
noncomputable def eP(env:Env):List (Str×RV)->List (Str×P3)->List (Str×P3)
 |[],acc=>acc
 |(n,k)::r,acc=>if k==.free then eP env r ((n,(env.cells.lookup n).getD 0)::acc) else eP env r acc
theorem vj(scope:Xo)(env:Env)(h:∀x,(x,QA)∈scope.names->(env.cells.lookup x).isSome=true):closureFor scope env=pure (eP env scope.names []):=by
 unfold closureFor
 have key:∀(l:List (Str×RV)) (acc:List (Str×P3)),(∀x,(x,QA)∈l->(env.cells.lookup x).isSome=true)->
   (forIn l acc λ x cs=>do
    let __s:=cs
    if x.2==QA then do
     let c<-cellOf env x.1
     pure (QU ((x.1,c)::__s))
    else pure (QU __s):Sem (List (Str×P3)))=pure (eP env l acc):=by
  intro l
  induction l with
  |nil=>intro acc _;rfl
  |cons x r ih=>
   intro acc hx
   obtain⟨n,k⟩:=x
   rewrite[Q3]
   unfold eP
   cases hk:(k==QA)
   ·simp only [hk,P4,if_false,pure_bind]
    exact ih acc λ y hy=>hx y (.tail _ hy)
   ·simp only [hk,if_true]
    have OF:k=.free:=by simpa using hk
    obtain⟨c,hc⟩:=P2.mp (hx n (by refine aa OF ?_;exact .head _))
    unfold cellOf
    refine aa hc ?_
    simp only [pure_bind,Option.getD_some]
    exact ih _ λ y hy=>hx y (.tail _ hy)
 have:=key scope.names [] h
 simp only [] at this
 refine aE this ?_
 simp
theorem lR(env:Env)(x:Str):∀(l:List (Str×RV)) (acc:List (Str×P3)),(eP env l acc).lookup x=(if(x,QA)∈l then some ((env.cells.lookup x).getD 0) else acc.lookup x):=by
 intro l
 induction l with
 |nil=>
  intro acc
  simp[eP]
 |cons y1 r ih=>
  obtain⟨n,k⟩:=y1
  intro acc
  unfold eP
  by_cases hk:k=.free
  ·subst hk
   refine aa (if_pos (by rfl)) ?_;refine aa (ih _) ?_
   by_cases hm:(x,QA)∈r
   ·refine aa (if_pos hm) ?_;refine aa (if_pos (.tail _ hm)) ?_;rfl
   ·refine aa (if_neg hm) ?_;refine aa Ql ?_
    by_cases e:x=n
    ·subst e;simp
    ·have:(x==n)=false:=beq_eq_false_iff_ne.mpr e
     refine aa this ?_;refine aa (if_neg (by simp[e,hm])) ?_;rfl
  ·have OH:(k==QA)=false:=by simpa using hk
   refine aa (if_neg (by refine aa OH ?_;decide)) ?_;refine aa (ih _) ?_
   have:((x,QA)∈(n,k)::r)↔(x,QA)∈r:=by simp[R5 hk]
   by_cases hm:(x,QA)∈r
   ·refine aa (if_pos hm) ?_;refine aa (if_pos (this.mpr hm)) ?_;rfl
   ·refine aa (if_neg hm) ?_;refine aa (if_neg (λ q=>hm (this.mp q))) ?_;rfl
theorem pT:∀(names:List (Str×RV)) (b:Nat) (acc:List (Str×P3)),S8 b names acc=S8 b names []++acc:=by
 intro names
 induction names with
 |nil=>
  intro y1 y2
  exact rfl
 |cons y3 r ih=>
  obtain⟨n,k⟩:=y3
  intro b acc
  unfold S8
  split
  ·refine aa (ih (b+1) ((n,b)::acc)) ?_;refine aa (ih (b+1) [(n,b)]) ?_;simp
  ·exact ih b acc
theorem pS:∀(names:List (Str×RV)) (b:Nat) (acc:List (Str×P3)) {x:Str} {c:P3},(x,c)∈S8 b names acc->(x,S6)∈names∨(x,c)∈acc:=by
 intro names
 induction names with
 |nil=>
  intro y1 y2 y3 y4 h
  exact .inr h
 |cons y5 r ih=>
  obtain⟨n,k⟩:=y5
  intro b acc x c h
  unfold S8 at h
  split at h
  ·rename_i hk
   rcases ih _ _ h with h|h
   ·exact .inl (.tail _ h)
   ·rcases PS.mp h with e|h
    ·cases e
     have:k=.cell:=by simpa using hk
     exact .inl (by refine aa this ?_;exact .head _)
    ·exact .inr h
  ·rcases ih _ _ h with h|h
   ·exact .inl (.tail _ h)
   ·exact .inr h
theorem db:∀{l:List (Str×RV)} {x:Str} {k:RV},(l.map (·.1)).Nodup->(x,k)∈l->l.lookup x=some k
 |(n,k')::r,x,k,nd,h=>by
  rw[PP,QH] at nd
  refine aa Ql ?_
  rcases PS.mp h with e|h
  ·cases e;simp
  ·have Fq:x≠n:=λ e=>nd.1 (e▸WT (f:=(·.1)) h)
   refine aa (beq_eq_false_iff_ne.mpr Fq) ?_
   exact db nd.2 h
noncomputable def jq(N:Nm)(p:Str×RV):RV:=if(p.2==.free&&N.lookup p.1==some .cell) then .cell else p.2
noncomputable def dM(N:Nm)(names:Nm):Nm:=names.map λ p=>(p.1,jq N p)
theorem sI(N:Nm):∀(names:Nm) (x:Str),(dM N names).lookup x=(names.lookup x).map λ k=>jq N (x,k):=by
 intro names
 induction names with
 |nil=>
  intro x
  exact rfl
 |cons y1 r ih=>
  obtain⟨n,k⟩:=y1
  intro x
  show List.lookup x ((n,jq N (n,k))::dM N r)=_
  refine aa Ql ?_;refine aa Ql ?_
  by_cases e:x=n
  ·subst e;simp
  ·have hb:(x==n)=false:=beq_eq_false_iff_ne.mpr e
   refine aa hb ?_
   exact ih x
theorem pP(scope:Xo)(env:Env)(hk:env.scope.kind=.function):(RI scope env).names=dM env.scope.names scope.names:=by
 unfold RI dM
 refine RM λ x zz=> ?_
 obtain⟨n,k⟩:=x
 unfold jq RD
 dsimp only
 refine aa hk ?_
 have:(V5==V5)=true:=rfl
 refine aa this ?_;refine aa (Yo _) ?_
 split<;>rfl
structure nW(Γ Γc:aH)(N:Nm)(scope:Xo)(tg:List Nat)(ns:List Str):Prop where
 kind:scope.kind=.function
 nodup:(scope.names.map (·.1)).Nodup
 inj:∀x y i,Γc.lookup x=some i->Γc.lookup y=some i->x=y
 own:∀x,scope.names.lookup x=some .local∨scope.names.lookup x=some .cell->∀i,Γc.lookup x=some i->i∈tg
 free:∀x,scope.names.lookup x=some .free->(N.lookup x=some .cell∨N.lookup x=some .free)/\∀i,Γc.lookup x=some i->Γ.lookup x=some i/\i∉tg
 ns:∀x∈ns,scope.names.lookup x=some .local∨scope.names.lookup x=some .cell
theorem xf:∀(ρ:an) (i j:Nat),(an.clear ρ i).get j=if j=i then none else ρ.get j:=by
 intro ρ
 induction ρ with
 |nil=>
  intro i j
  show an.get [] j=_;split<;>rfl
 |cons x r ih=>
  intro y1
  cases y1 with
  |zero=>
   intro y2
   cases y2 with
   |zero=>
    exact rfl
   |succ j=>
    refine aa (if_neg (XK j)) ?_;rfl
  |succ i=>
   intro y3
   cases y3 with
   |zero=>
    refine aa (if_neg (ae 0x980306146001 rfl i)) ?_;rfl
   |succ j=>
    show(an.clear r i).get j=_
    refine aa (ih i j) ?_
    by_cases e:j=i
    ·refine aa (if_pos e) ?_;refine aa (if_pos (ae 0x90c185206144349102 rfl j i e)) ?_;rfl
    ·refine aa (if_neg e) ?_;refine aa (if_neg (ae 0x92600c185206144980349102 rfl j i e)) ?_;rfl
theorem fq:∀(is:List Nat) (ρ:an) (j:Nat),(an.FA ρ is).get j=if j∈is then none else ρ.get j:=by
 intro is
 induction is with
 |nil=>
  intro ρ j
  refine aa (if_neg (by simp)) ?_;rfl
 |cons i is ih=>
  intro ρ j
  show(an.FA (an.clear ρ i) is).get j=_
  refine aa (ih _ _) ?_;refine aa (xf _ _ _) ?_
  by_cases h1:j∈is
  ·refine aa (if_pos h1) ?_;refine aa (if_pos (.tail _ h1)) ?_;rfl
  ·refine aa (if_neg h1) ?_
   by_cases e:j=i
   ·refine aa (if_pos e) ?_;refine aa (if_pos (by refine aa e ?_;exact .head _)) ?_;rfl
   ·refine aa (if_neg e) ?_;refine aa (if_neg (by simp[e,h1])) ?_;rfl
section
variable{g:Gs}{tb:Tb}{K:RH}{Γ Γc:aH}{N:Nm}{n:Nat}{W W₁ Z V:P3->Prop}{A:Qx}{fr:List Env}{env:Env}{ρ ρ' ρ1:an}{φ φ1 φ0 φ':az}{M M1 M0 M':AH}{s s1 s0 s':PK}{E0:PJ->PK->Prop}{Md:TX}{D:P3}{pre:List Mine.V}{ns:List Str}
theorem vh(cn:nW Γ Γc N scope tg ns)(hN:env.scope.names=N)(er:aC g.pl g.w.params W Γ env ρ φ M s.heap)(st:St g.pl g.w.params g.B W fr φ M s)
  (hQ:∀(EU:Env) (s':PK) (F9:P3->Prop),(∀b,F9 b->s.heap.get? b=none/\∃o,s'.heap.get? b=some o)->({EU with scope:=RI scope env}:Env).scope.names=dM N scope.names->F9 EU.locals->(∀b,bu {EU with scope:=RI scope env} ns b->F9 b)->
   (∀x c,({EU with scope:=RI scope env}:Env).kindOf x=some .cell∨({EU with scope:=RI scope env}:Env).kindOf x=some .free->EU.cells.lookup x=some c->F9 c∨∃y,(env.kindOf y=some .cell∨env.kindOf y=some .free)/\env.cells.lookup y=some c)->(∀b o,s.heap.get? b=some o->s'.heap.get? b=some o)->
   (∃o,s'.heap.get? EU.locals=some o/\o.cls=.type "dict")->
   aC g.pl g.w.params (λ b=>W b∨F9 b) Γc {EU with scope:=RI scope env} (ρ.FA tg) φ M s'.heap->St g.pl g.w.params g.B (λ b=>W b∨F9 b) fr φ M s'->av bt φ M s φ M s'->Q EU s'):
  PR Md A (SA scope env.globals (eP env scope.names []) [] env.qual none .none (some env)) Q E0 s:=by
 simp only [SA,Option.isSome_some,if_true]
 refine Py (UM ?_)
 refine Py (wpAny_layCells _ (λ name kind cells=>by cases hkc:kind==S6<;>simp) _ _ _ _ ?_)
 have ok:=cellsFrom_ok scope.names (s.heap.push {cls:=.type "dict",data:=.dict #[]}) (s.heap.objs.size+1) [] ⟨λ zz zz hm=>(nomatch hm),VE⟩ (by refine aa (Qb _ _) ?_;exact PC _)
 rw[Qb] at ok
 refine aa (show({s with heap:=s.heap.push {cls:=.type "dict",data:=.dict #[]}}:PK).heap.objs.size=s.heap.objs.size+1 from Qb ..) ?_
 refine aa (pT _ _ _) ?_
 have JO:=λ x c=>pS scope.names (s.heap.objs.size+1) [] (x:=x) (c:=c)
 have Gi:=λ x=>rL scope.names (s.heap.objs.size+1) [] x
 generalize hcs:S8 (s.heap.objs.size+1) scope.names []=cs at ok JO Gi ⊢
 generalize hs1:({s with heap:=Xu (s.heap.push {cls:=.type "dict",data:=.dict #[]}) scope.names}:PK)=s1
 have Fj:s1.heap=Xu (s.heap.push {cls:=.type "dict",data:=.dict #[]}) scope.names:=by refine aE hs1 ?_;rfl
 have IT:s1.os=s.os/\s1.gens=s.gens:=by refine aE hs1 ?_;exact⟨rfl,rfl⟩
 rw[<-Fj] at ok
 have hL:s1.heap.get? s.heap.objs.size=some {cls:=.type "dict",data:=.dict #[]}:=by refine aa Fj ?_;exact Sj _ _ _ _ (PM _ rfl)
 have ET:∀b o,s.heap.get? b=some o->s1.heap.get? b=some o:=λ b o e=>by refine aa Fj ?_;exact Sj _ _ _ _ (PA _ e)
 have IV:s1.heap.Ns s.heap.objs.size (λ zz=>none):=by
  have:=(X5 s.heap (.type "dict")).keeps (Sj scope.names _)
  refine aa Fj ?_;exact this
 clear hs1 Fj
 refine aa RL ?_
 refine Py (PB (PB ?_))
 have Ep:=st.ext (N:=λ b=>s.heap.get? b=none/\∃o,s1.heap.get? b=some o) ET λ b q=>q
 have Em:av bt φ M s φ M s1:=.ext ET IT.1 IT.2
 have Hp:s.heap.get? s.heap.objs.size=none/\∃o,s1.heap.get? s.heap.objs.size=some o:=⟨aT (PC _),_,hL⟩
 have EC:∀x c,cs.lookup x=some c->s1.heap.IsCell c none/\s.heap.objs.size+1<=c:=λ x c hc=>ok.empty x c (mem_of_lookup hc)
 have Gj:∀x c,cs.lookup x=some c->s.heap.get? c=none/\∃o,s1.heap.get? c=some o:=λ x c hc=>by
  obtain⟨⟨o,ho,_⟩,hle⟩:=EC x c hc
  exact⟨aT (ae 0x905244148185102 rfl s.heap.objs.size c hle),o,ho⟩
 have JI:(RI scope env).names=dM N scope.names:=by refine aa (pP scope env er.kind) ?_;refine aa hN ?_;rfl
 have JV:∀x,(RI scope env).names.lookup x=(scope.names.lookup x).map λ k=>jq N (x,k):=λ x=>by refine aa JI ?_;refine aa (sI _ _ _) ?_;rfl
 have II:∀x,scope.names.lookup x=some .free->cs.lookup x=none:=λ x hx=>by
  cases h:cs.lookup x with
  |none=>rfl
  |some c=>
   rcases JO x c (mem_of_lookup h) with h2|h2
   ·have:=db cn.nodup h2
    rw[hx] at this;cases this
   ·cases h2
 have kinds:∀x,(RI scope env).names.lookup x=some .cell∨(RI scope env).names.lookup x=some .free->scope.names.lookup x=some .cell∨scope.names.lookup x=some .free:=λ x hx=>by
  rw[JV] at hx
  cases hl:scope.names.lookup x with
  |none=>rw[hl] at hx;rcases hx with h|h<;>cases h
  |some k=>
   rw[hl,RS] at hx
   by_cases hf:k=.free
   ·right;refine aa hf ?_;rfl
   ·have e:jq N (x,k)=k:=by unfold jq;refine aa (show((x,k).2==QA)=false by simpa using hf) ?_;rfl
    rw[e] at hx
    rcases hx with h|h
    ·exact .inl h
    ·exact .inr h
 have NG:∀x,scope.names.lookup x=some .free->∃c,(cs++eP env scope.names []).lookup x=some c/\env.cells.lookup x=some c/\(env.kindOf x=some .cell∨env.kindOf x=some .free):=λ x hx=>by
  obtain⟨h1,_⟩:=cn.free x hx
  have hk:env.kindOf x=some .cell∨env.kindOf x=some .free:=by unfold RD;refine aa hN ?_;exact h1
  obtain⟨c,v,hc,_⟩:=er.cell x hk
  refine gq c ?_ hc hk
  refine aa R1 ?_;refine aa (II x hx) ?_;refine aa Vj ?_;rewrite[lR];refine aa (if_pos (mem_of_lookup hx)) ?_;refine aa hc ?_;rfl
 have own:∀x,scope.names.lookup x=some .cell->∃c,(cs++eP env scope.names []).lookup x=some c/\cs.lookup x=some c:=λ x hx=>by
  obtain⟨c,hc⟩:=P2.mp (Gi x (.inl (mem_of_lookup hx)))
  exact aA c (by refine aa R1 ?_;refine aa hc ?_;rfl) hc
 have F7:∀x c,(cs++eP env scope.names []).lookup x=some c->cs.lookup x=some c∨(cs.lookup x=none/\env.cells.lookup x=some c/\(env.kindOf x=some .cell∨env.kindOf x=some .free)/\scope.names.lookup x=some .free):=λ x c hc=>by
  rw[R1] at hc
  cases h:cs.lookup x with
  |some c'=>rw[h] at hc;exact .inl hc
  |none=>
   rw[h,Vj,lR] at hc
   split at hc
   ·rename_i hm
    have hx:=db cn.nodup hm
    refine bz (NG x hx) λ c' zz h2 h3=> ?_
    rw[h2] at hc;cases hc
    exact .inr ⟨rfl,h2,h3,hx⟩
   ·cases hc
 refine hQ _ s1 (λ b=>s.heap.get? b=none/\∃o,s1.heap.get? b=some o) (λ b q=>q) JI Hp ?_ ?_ ET ⟨_,hL,rfl⟩ ⟨cn.kind,er.glob,er.bi,cn.inj,.inr Hp,⟨_,IV,λ x i hi hx=> ?_⟩,λ x hx=> ?_,λ x y c hx hy=> ?_⟩ Ep Em
 ·rintro b (q|⟨x,hx,hk,hc⟩)
  ·refine aa q ?_;exact Hp
  ·have hc:(cs++eP env scope.names []).lookup x=some b:=hc
   rcases F7 x b hc with h|⟨_,_,_,h⟩
   ·exact Gj x b h
   ·rcases cn.ns x hx with h2|h2<;>(rw[h] at h2;cases h2)
 ·intro x c _ hc
  rcases F7 x c hc with h|⟨_,h,hk,_⟩
  ·exact .inl (Gj x c h)
  ·exact .inr ⟨x,hk,h⟩
 ·have hx:(RI scope env).names.lookup x=some .local:=hx
  have hl:scope.names.lookup x=some .local:=by
   rw[JV] at hx
   cases hl:scope.names.lookup x with
   |none=>rw[hl] at hx;cases hx
   |some k=>
    rw[hl,RS] at hx
    have hx:jq N (x,k)=.local:=PX hx
    unfold jq at hx
    split at hx
    ·cases hx
    ·exact congrArg some hx
  refine aa (fq _ _ _) ?_;refine aa (if_pos (cn.own x (.inl hl) i hi)) ?_;trivial
 ·have hx:(RI scope env).names.lookup x=some .cell∨(RI scope env).names.lookup x=some .free:=hx
  rcases kinds x hx with hk|hk
  ·refine ai (own x hk) λ c hc H6=> ?_
   refine⟨c,none,hc,.inr (Gj x c H6),(EC x c H6).1,λ i hi=> ?_⟩
   refine aa (fq _ _ _) ?_;refine aa (if_pos (cn.own x (.inr hk) i hi)) ?_;trivial
  ·refine bz (NG x hk) λ c hc I1 OG=> ?_
   obtain⟨c',v,h1,h2,h3,h4⟩:=er.cell x OG
   rw[I1] at h1;cases h1
   refine⟨c,v,hc,.inl h2,h3.keeps ET,λ i hi=> ?_⟩
   obtain⟨hg,Oy⟩:=(cn.free x hk).2 i hi
   refine aa (fq _ _ _) ?_;refine aa (if_neg Oy) ?_
   exact(h4 i hg).mono (Pz _) (λ b o e zz=>.inl (ET b o e)) λ b q=>q.elim (λ q=>q.elim (λ q=>.inl (.inl q)) λ q=>.inr q.1) λ q=>.inl (.inr q)
 ·have hx:(cs++eP env scope.names []).lookup x=some c:=hx
  have hy:(cs++eP env scope.names []).lookup y=some c:=hy
  rcases F7 x c hx with h1|⟨_,h1,k1,_⟩<;>rcases F7 y c hy with h2|⟨_,h2,k2,_⟩
  ·exact name_of_addr ok.apart (mem_of_lookup h1) (mem_of_lookup h2)
  ·obtain⟨c',v,g1,g2,g3,g4⟩:=er.cell y k2
   rw[h2] at g1;cases g1
   obtain⟨o,ho⟩:=st.FI _ g2
   rw[(Gj x c h1).1] at ho;cases ho
  ·obtain⟨c',v,g1,g2,g3,g4⟩:=er.cell x k1
   rw[h1] at g1;cases g1
   obtain⟨o,ho⟩:=st.FI _ g2
   rw[(Gj y c h2).1] at ho;cases ho
  ·exact er.apart x y c h1 h2
end
section
variable{g:Gs}{tb:Tb}{K:RH}{Γ Γc:aH}{N:Nm}{n:Nat}{W W₁ Z V:P3->Prop}{A:Qx}{fr:List Env}{env:Env}{ρ ρ' ρ1:an}{φ φ1 φ0 φ':az}{M M1 M0 M':AH}{s s1 s0 s':PK}{E0:PJ->PK->Prop}{Md:TX}{D:P3}{pre:List Mine.V}{ns:List Str}
theorem pE
  (cn:nW Γ Γc N scope (Cl.E4 (.cls t it es r)) ns)(hs:∀env x,QQ iter env x=pure x)(hi:fv g Γ N n it iter tg)(Gb:tg target)(hm:cS Γc (dM N scope.names) t target=true)(FP:∀x∈cX target,x∈ns)
  (hifs:ef g Γc (dM N scope.names) n es ifs)(hr:eF g Γc (dM N scope.names) ns n (.ListComp elt (⟨target,iter,ifs,0⟩::rest) scope pos) elt (⟨target,iter,ifs,0⟩::rest) 0 r)(hnd:(t.list++r.E4).Nodup)(hdp:(r.depth+2)*aq<=Rl)
  (hA:cj A fr n)(hN:env.scope.names=N)(er:aC g.pl g.w.params W Γ env ρ φ M s.heap)(st:St g.pl g.w.params g.B W fr φ M s)(hw:aO g.pl.P (ag g.pl.P n) (.comp mu (.cls t it es r)) ρ M Q X)
  (hfin:∀v C s',LQ g.pl g.w.params g.B (λ b=>W b∨b=C) fr φ M s Q v s'->s.heap.get? C=none->(∃m,s'.heap.Ns C m)->compPost (PW g.prog g.w) A E0 use R v C (.ok .next) s'):
  PR (PW g.prog g.w) A (comprehension (.ListComp elt (⟨target,iter,ifs,0⟩::rest) scope pos) scope env (firstIterPos (⟨target,iter,ifs,0⟩::rest) pos) (newList []) (firstAsync (⟨target,iter,ifs,0⟩::rest)) (firstIter (⟨target,iter,ifs,0⟩::rest) env) use) R E0 s:=by
 replace hw:zq g.pl.P (ag g.pl.P n) it (ρ.FA (Cl.E4 (.cls t it es r))) M _ _:=hw
 have FL:∀x,(x,QA)∈scope.names->(env.cells.lookup x).isSome=true:=λ x hx=>by
  have h:=db cn.nodup hx
  obtain⟨c,v,hc,_⟩:=er.cell x (by unfold RD;refine aa hN ?_;exact(cn.free x h).1)
  refine aa hc ?_;rfl
 refine wpAny_comprehension_free (g:=⟨target,iter,ifs,0⟩) (gs:=rest) rfl (hs env) (vj scope env FL) cn.kind (λ x hx e=>by obtain⟨n,k⟩:=x;cases e;exact db cn.nodup hx) ?_
 have Pk:aC g.pl g.w.params W Γ env (ρ.FA (Cl.E4 (.cls t it es r))) φ M s.heap:=er.weaken λ i=>by
  refine aa (fq _ _ _) ?_
  by_cases h:i∈Cl.E4 (.cls t it es r)
  ·refine aa (if_pos h) ?_;exact .inl rfl
  ·refine aa (if_neg h) ?_;exact .inr rfl
 refine PT (hi W A fr env _ φ M s _ (λ zz=>False) E0 hA hN Pk st hw λ v s' z=>z.no) (λ v s0 h=>PT h (λ iv s1 h1=> ?_) λ zz zz e=>e) λ zz zz e=>e
 obtain⟨I,Z,S,xs,φ1,M1,rfl,q,Ep,Em,GS,hZ,hS⟩:=h1
 refine wpAny_newList ?_
 have Hw:∀b o,s1.heap.get? b=some o->(s1.heap.push (bb [] 0)).get? b=some o:=λ b o e=>PA _ e
 have J8:s1.heap.get? s1.heap.objs.size=none:=aT (PC _)
 have J7:(s1.heap.push (bb [] 0)).get? s1.heap.objs.size=some (bb [] 0):=PM _ rfl
 show PR _ A _ _ E0 {s1 with heap:=s1.heap.push (bb [] 0)}
 generalize hDe:s1.heap.objs.size=D at J8 J7 ⊢
 generalize FZ:({s1 with heap:=s1.heap.push (bb [] 0)}:PK)=s2
 have IZ:s2.heap=s1.heap.push (bb [] 0):=by refine aE FZ ?_;rfl
 have F1:s2.os=s1.os/\s2.gens=s1.gens:=by refine aE FZ ?_;exact⟨rfl,rfl⟩
 rw[<-IZ] at Hw J7
 clear FZ IZ hDe
 have KM:s.heap.get? D=none:=Em.dead J8
 have Pm:(λ b=>(W b∨Z b)∨b=D)=(λ b=>W b∨(Z b∨b=D)):=funext λ b=>propext or_assoc
 have Ez:St g.pl g.w.params g.B (λ b=>W b∨(Z b∨b=D)) fr φ1 M1 s2:=Pm▸Ep.ext (N:=λ b=>b=D) Hw λ b e=>by subst e;exact⟨J8,_,J7⟩
 have Ey:av bt φ M s φ1 M1 s2:=Em.trans (.ext Hw F1.1 F1.2)
 have ER:=er.GM (Z:=λ b=>Z b∨b=D) st Ey λ b e=>e.elim (λ e=>(hZ b e).1) λ e=>e▸KM
 refine vh cn hN ER Ez λ EU s4 F9 J6 Oz Jg Nf Gm H4 hdc HN F4 FO=> ?_
 have LR:∀b,W b->∃o,s.heap.get? b=some o:=st.FI
 have nZ:∀b,W b->¬Z b:=λ b q z=>by obtain⟨o,e⟩:=LR b q;rw[(hZ b z).1] at e;cases e
 have GR:∀b o,s2.heap.get? b=some o->¬F9 b:=λ b o e q=>by rw[(J6 b q).1] at e;cases e
 have Pw:∀b,Z b->∃o,s2.heap.get? b=some o:=λ b z=>let⟨o,e⟩:=(hZ b z).2;⟨o,Hw b o e⟩
 have Ld:∀b,Z b->¬F9 b:=λ b z q=>let⟨o,e⟩:=Pw b z;GR b o e q
 have Le:¬Z D:=λ z=>by obtain⟨o,e⟩:=(hZ D z).2;rw[J8] at e;cases e
 have Lg:¬F9 D:=GR D _ J7
 have Lf:¬W D:=λ q=>by obtain⟨o,e⟩:=LR D q;rw[KM] at e;cases e
 have KV:∀b o,s.heap.get? b=some o->∃o',s2.heap.get? b=some o':=Ey.alive
 have N4:∀b,W b->¬F9 b:=λ b q z=>by obtain⟨o,e⟩:=LR b q;obtain⟨o',e'⟩:=KV b o e;exact GR b o' e' z
 have Jy:∀b,F9 b->s.heap.get? b=none:=λ b z=>Ey.dead (J6 b z).1
 have S4:S (λ b=>(W b∨(Z b∨b=D))∨F9 b) φ1 M1 s4.heap xs:=by
  refine GS.mono (Pz _) (λ b o e zz=>.inl (H4 b o (Hw b o e))) (λ b z=> ?_) (λ b o zz e=>.inl (H4 b o (Hw b o e))) hS
  rcases z with((z|z|z)|z)|z
  ·exact .inl (.inl (.inl z))
  ·exact .inl (.inl (.inr z))
  ·exact .inr (z▸J8)
  ·refine .inr ?_
   cases e:s1.heap.get? b with
   |none=>rfl
   |some o=>exact absurd z (GR b o (Hw b o e))
  ·exact .inl (.inr z)
 have Mt:CS g (λ b=>(W b∨(Z b∨b=D))∨F9 b) φ1 M1 s4.heap D []:=⟨[],0,H4 D _ J7,rfl⟩
 have Hx:∀x c,(({EU with scope:=RI scope env}:Env).kindOf x=some .cell∨({EU with scope:=RI scope env}:Env).kindOf x=some .free)->EU.cells.lookup x=some c->F9 c∨W c:=λ x c hx hc=>(Gm x c hx hc).imp id λ⟨y,h1,h2⟩=>er.places.2 y c h1 h2
 have Pt:jN D (λ b=>(W b∨(Z b∨b=D))∨F9 b) fr {EU with scope:=RI scope env} ns:=by
  refine⟨.inl (.inr (.inr rfl)),λ e=>Lg (e▸Jg),λ x c hx hc e=> ?_,λ en he L hf=>⟨λ e=>Lf (e▸st.Fg en he L hf),λ q=>N4 L (st.Fg en he L hf) (Nf L q)⟩⟩
  rcases Hx x c hx hc with h|h
  ·exact Lg (e▸h)
  ·exact Lf (e▸h)
 have main:=tJ (g:=g) (Γ:=Γc) (N:=dM N scope.names) (W:=λ b=>(W b∨(Z b∨b=D))∨F9 b) (Z:=Z) (k:=0) (ns:=ns) (D:=D) (pre:=[]) (Q:=λ vs M'=>if mu then Q (.ref M'.next) (M'.new (.list vs)) else Q (.list vs) M') (env:={EU with scope:=RI scope env})
  (gens:=⟨target,iter,ifs,0⟩::rest) (scope:=scope) (pos:=pos) (elt:=elt) rfl hm FP hifs hr Gb GS (λ b z=>.inl (.inr (.inl z))) (λ en he L hf=>nZ L (st.Fg en he L hf)) Le
  (λ b z=>⟨λ e=>Ld b z (e▸Jg),λ y hy e=>(Hx y b hy e).elim (Ld b z) λ q=>nZ b q z⟩) hA Oz HN F4 S4 Mt Pt (λ i hi=>by refine aa (fq _ _ _) ?_;exact if_pos hi) hnd (by refine aa Ru ?_;refine aa (TO _) ?_;exact hdp) q
 have fin:Sh (PW g.prog g.w) A (.compLoop (.ListComp elt (⟨target,iter,ifs,0⟩::rest) scope pos) 0 (.ref I) (.ref D) {EU with scope:=RI scope env}) (compPost (PW g.prog g.w) A E0 use R (.ref D) EU.locals) s4:=by
  refine Uh main λ rr s' h=> ?_
  obtain⟨rfl,out,φ',M',s5,q5,hl,IA,Hd,He,Kg,H3,ho,hg⟩:=h
  rw[RY] at Kg
  obtain⟨us,m,e5,MB⟩:=Kg
  have I3:∀b,Z b->(W b∨(Z b∨b=D))∨F9 b:=λ b z=>.inl (.inr (.inl z))
  have MK:¬Z EU.locals:=λ z=>Ld _ z Jg
  have LS:∀b,((W b∨b=EU.locals)∨b=D)->((W b∨(Z b∨b=D))∨F9 b)/\¬Z b:=by
   rintro b ((z|z)|z)
   ·exact⟨.inl (.inl z),nZ b z⟩
   ·exact⟨.inr (z▸Jg),z▸MK⟩
   ·exact⟨.inl (.inr (.inr z)),z▸Le⟩
  have y:St g.pl g.w.params g.B (λ b=>(W b∨b=EU.locals)∨b=D) fr φ' M' s':=Hd.drop H3 I3 (λ en he L hf=>⟨nZ L (st.Fg en he L hf),.inl (.inl (st.Fg en he L hf))⟩) LS
  have sp:av bt φ M s φ' M' s':=((Ey.trans FO).F3 He λ b z=>.inr (by
   rcases z with(z|z)|z
   ·exact z▸KM
   ·exact Jy b (Nf b z)
   ·exact(hZ b z).1)).drop H3 (λ b z=>(hZ b z).1) ho hg
  have eD:=H3 D _ e5 Le
  refine hfin (.ref D) EU.locals s' (LQ.GN mu (ob:=.list out) (x:=.list out) (λ en he L hf=>.inl (st.Fg en he L hf)) y (λ z=>z.elim Lf λ z=>Lg (z▸Jg)) KM sp (λ no=> ?_) ⟨rfl,us,m,eD,hl,?_⟩ q5) (Jy _ Jg) ?_
  ·refine VR.l ?_
   exact⟨D,us,m,rfl,no,eD,hl,am.HF Hd H3 I3 (λ b z=>(LS b (.inl z)).1) MB⟩
  ·exact am.mono (List.Ew _ _) (λ zz zz e zz=>.inl e) (λ b q=>.inl q) (am.HF (W:=λ b=>(W b∨b=EU.locals)∨b=D) Hd H3 I3 (λ b z=>(LS b z).1) MB)
  ·obtain⟨m5,OB,_⟩:=IA.loc
   exact⟨m5,OB.at' λ o e=>H3 _ o e MK⟩
 exact kP (gens:=⟨target,iter,ifs,0⟩::rest) (k:=0) rfl fin λ E=>GS.again S4 fin
end
section
variable{g:Gs}{tb:Tb}{K:RH}{Γ Γc:aH}{N:Nm}{n:Nat}{W W₁ Z V:P3->Prop}{A:Qx}{fr:List Env}{env:Env}{ρ ρ' ρ1:an}{φ φ1 φ0 φ':az}{M M1 M0 M':AH}{s s1 s0 s':PK}{E0:PJ->PK->Prop}{Md:TX}{D:P3}{pre:List Mine.V}{ns:List Str}
theorem aj.comp
  (cn:nW Γ Γc N scope (Cl.E4 (.cls t it es r)) ns)(hs:∀env x,QQ iter env x=pure x)(hi:fv g Γ N n it iter tg)(Gb:tg target)(hm:cS Γc (dM N scope.names) t target=true)(FP:∀x∈cX target,x∈ns)
  (hifs:ef g Γc (dM N scope.names) n es ifs)(hr:eF g Γc (dM N scope.names) ns n (.ListComp elt (⟨target,iter,ifs,0⟩::rest) scope pos) elt (⟨target,iter,ifs,0⟩::rest) 0 r)(hnd:(t.list++r.E4).Nodup)(hdp:(r.depth+2)*aq<=Rl):
  aj g Γ N n (.comp mu (.cls t it es r)) (.ListComp elt (⟨target,iter,ifs,0⟩::rest) scope pos):=by
 intro W A fr env ρ φ M s Q X hA hN er st hw
 rewrite[eval_ListComp]
 refine pE cn hs hi Gb hm FP hifs hr hnd hdp hA hN er st hw λ v C s' h hC ⟨m,Hg⟩=>⟨m,Hg,λ h' Hr=> ?_⟩
 obtain⟨x,φ',M',q,G2,sp,rx⟩:=h
 have hk:∀b o,s'.heap.get? b=some o->¬(b=C)->h'.get? b=some o:=λ b o e n=>Hr.extBut b o n e
 have nC:∀b,W b->¬b=C:=λ b q e=>by obtain⟨o,e2⟩:=st.FI b q;rw[e,hC] at e2;cases e2
 exact⟨x,φ',M',q,G2.drop (s':={s' with heap:=h'}) hk (λ b e=>.inr e) (λ en he L hf=>⟨nC L (st.Fg en he L hf),st.Fg en he L hf⟩) λ b q=>⟨.inl q,nC b q⟩,sp.drop (s':={s' with heap:=h'}) hk (λ b e=>e▸hC) rfl rfl,
  VR.drop (s':={s' with heap:=h'}) G2 hk (λ b e=>.inr e) (λ b q=>.inl q) rx⟩
theorem uk(hN:env.scope.names=N)(hk:env.scope.kind=.function)(h:fP N (.ListComp elt gens scope cpos) (.Name t Fl) (Yl elt gens scope cpos).pos.line=true):W3 [.Name t Fl] (.ListComp elt gens scope cpos) line env=pure true:=by
 show RT (.ListComp elt gens scope cpos) (some (.Name t Fl)) line env=pure true
 have J0:env.blockKind=.function:=by unfold Wj;refine aa hk ?_;rfl
 have Ly:∀x,env.kindOf x=N.lookup x:=λ x=>by unfold RD;refine aa hN ?_;rfl
 unfold RT
 dsimp only
 refine aa J0 ?_;refine aa (Ly _) ?_
 exact congrArg pure h
theorem bd.Mv
  (cn:nW Γ Γc N scope (Cl.E4 (.cls t it es r)) ns)(hs:∀env x,QQ iter env x=pure x)(hi:fv g Γ N n it iter tg)(Gb:tg target)(hm:cS Γc (dM N scope.names) t target=true)(FP:∀x∈cX target,x∈ns)
  (hifs:ef g Γc (dM N scope.names) n es ifs)(hr:eF g Γc (dM N scope.names) ns n (.ListComp elt (⟨target,iter,ifs,0⟩::rest) scope pos) elt (⟨target,iter,ifs,0⟩::rest) 0 r)(hnd:(t.list++r.E4).Nodup)(hdp:(r.depth+2)*aq<=Rl)
  (hx:cS Γ N (.one i) (.Name x Fl)=true)(JG:fP N (.ListComp elt (⟨target,iter,ifs,0⟩::rest) scope pos) (.Name x Fl) (Yl elt (⟨target,iter,ifs,0⟩::rest) scope pos).pos.line=true):
  bd g Γ N n (.asg (.one i) (.comp mu (.cls t it es r))) (.Assign [.Name x Fl] (.ListComp elt (⟨target,iter,ifs,0⟩::rest) scope pos) G3):=by
 intro W A fr env ρ φ M s Nx R X L hA hN hL er st hw
 rewrite[Uk];refine aa (uk hN er.kind JG) ?_
 refine Py (QF (Py (PB ?_)))
 simp only [if_true]
 show PR _ A ((comprehension _ scope env _ (newList []) _ _ (some λ v=>assignAll v ((TD [.Name x Fl] env).map (·.2)))>>=λ zz=>pure ())>>=λ zz=>pure Vg) _ _ s
 refine Py (Py (pE cn hs hi Gb hm FP hifs hr hnd hdp hA hN er st (show aO g.pl.P (ag g.pl.P n) (.comp mu (.cls t it es r)) ρ M (λ v M1=>aB (dF (.one i) v ρ) λ ρ'=>Nx ρ' M1) X from hw) λ v C s' h hC ⟨m,Hg⟩=> ?_))
 obtain⟨y,φ',M',q,G2,sp,rx⟩:=h
 refine ai (aD q) λ ρ' hb q=> ?_
 have nC:∀b,W b->¬b=C:=λ b q e=>by obtain⟨o,e2⟩:=st.FI b q;rw[e,hC] at e2;cases e2
 have KR:=er.GM (Z:=λ b=>b=C) st sp λ b e=>e▸hC
 show PR _ A (Xq (.Name x Fl) env v) _ _ s'
 refine iE hx hA.handled hN KR G2 rx hb λ s2 ER Ez Ey=> ?_
 have nP:¬bu env (cX (.Name x Fl)) C:=λ z=>nC C (er.FV C (bu.EO z)) rfl
 refine aA m (bZ.ns Hg λ o e=>Ey.keep C o e (λ q=>G2.hr.ES C q (.inr rfl)) nP) λ h' Hr=>PB (PB ?_)
 have hk:∀b o,s2.heap.get? b=some o->¬(b=C)->h'.get? b=some o:=λ b o e n=>Hr.extBut b o n e
 exact⟨ρ',φ',M',q,aC.drop (W:=W) er.places ER hk (λ b e=>.inr e) (λ b q=>⟨.inl q,nC b q⟩),Ez.drop (s':={s2 with heap:=h'}) hk (λ b e=>.inr e) (λ en he L hf=>⟨nC L (st.Fg en he L hf),st.Fg en he L hf⟩) (λ b q=>⟨.inl q,nC b q⟩),
  (sp.wide.trans (Ey.mono λ b q zz=>bu.EO q)).drop (s':={s2 with heap:=h'}) hk (λ b e=>e▸hC) rfl rfl⟩
end
end Mine
end
section
namespace Mine
open PySem PySem.W PySem.Calls PyProof.Rows PySem.SeqAt Builtin
noncomputable def my(K:RH)(C:P3):Bool:=match K.lookup C with
 |some ⟨_,_,.cls cd,sl⟩=> !cd.abstract&&(!cd.hasDel&&((sl.toList[4]?).join==some (.builtin "Exception.__new__")&&(!cd.mro.isEmpty&&(XR K C (.ref C)==some true&&(XR K C (.type "Exception")==some true&&
   (XR K C (.type "BaseException")==some true&&(XR K C (.type "AttributeError")==some false&&(XR K C (.type "NameError")==some false&&(XR K C (.type "type")==some false&&(typeIn K (.ref C)==some (.type "type")&&(specialIn K (.ref C) "__call__" ==some (some (.builtin "type.__call__"))&&instIn K (.ref C) (.type "type")==some true)))))))))))
 |_=>false
structure yW(M:TX)(h:QG)(C:P3):Prop where
 obj:∃oc od cd sl,h.get? C=some ⟨oc,od,.cls cd,sl⟩/\cd.abstract=false/\cd.hasDel=false/\cd.mro.isEmpty=false
 made:Sp M h (WQ (.ref C)) (some "Exception.__new__")
 base:Sp M h (XQ (.ref C)) (.ref C)
 self:Sp M h (U7 (.ref C) (.ref C)) true
 exc:Sp M h (U7 (.ref C) (.type "Exception")) true
 HG:Sp M h (U7 (.ref C) (.type "BaseException")) true
 HT:Sp M h (U7 (.ref C) (.type "AttributeError")) false
 GQ:Sp M h (U7 (.ref C) (.type "NameError")) false
 Gg:Sp M h (U7 (.ref C) (.type "type")) false
 mty:Sp M h (typeOf (.ref C)) (.type "type")
 call:Sp M h (specialOf (.ref C) "__call__") (some (.builtin "type.__call__"))
 typ:Sp M h (SY (.ref C) (.type "type")) true
set_option tactic.hygienic true in
theorem lq{K:RH}{M:TX}{h:QG}(X:K.In h){C:P3}(e:my K C=true):yW M h C:=by
 unfold my at e
 cases ho:K.lookup C with
 |none=>rw[ho] at e;cases e
 |some o=>
  rw[ho] at e
  obtain⟨oc,od,dt,sl⟩:=o
  cases dt with
  |cls cd=>
   refine kR e λ e1 e2 e3 e4 e5 e6 e7 e8 e=> ?_
   obtain⟨e9,e⟩:=af e
   obtain⟨Mo,e⟩:=af e
   obtain⟨Mn,e⟩:=af e
   obtain⟨Mp,KU⟩:=af e
   have e4:=cZ e4
   have hc:clsIn K C=some cd:=by unfold clsIn;refine aa ho ?_;rfl
   have hm:Sp M h (mroOf (.ref C)) cd.mro:=(UN X hc).andThen .now
   obtain⟨c,l,hl⟩:∃c l,cd.mro=c::l:=by cases q:cd.mro with|nil=>rw[q] at e4;cases e4|cons c l=>exact⟨c,l,rfl⟩
   have made:Sp M h (WQ (.ref C)) (some "Exception.__new__"):=by
    intro A Q E s k q
    unfold WQ
    refine Py (hm A _ E s k ?_)
    refine aa hl ?_;rewrite[Q3]
    refine Py (Py (Py (Py (Sz (k _ _ (X _ _ ho)) (PB ?_)))))
    dsimp only
    refine aE Wn ?_;refine aa (ar e3) ?_
    exact PB (PB (PB q))
   refine⟨⟨oc,od,cd,sl,X _ _ ho,cZ e1,cZ e2,e4⟩,made,?_,S9 X (ar e5),S9 X (ar e6),S9 X (ar e7),S9 X (ar e8),S9 X (ar e9),S9 X (ar Mo),looks_typeIn X (ar Mn),looks_specialIn X (ar Mp),looks_instIn X (ar KU)⟩
   intro A Q E s k q
   unfold XQ
   refine Py (hm A _ E s k ?_)
   refine aa hl ?_;rewrite[Q3]
   exact Py (Py (Py (made A _ E s k (PB (PB (PB q))))))
  |_=>cases e
noncomputable abbrev dg(C t:P3):Obj:={cls:=.ref C,data:=.fields #[.ref t,.none,.none,.none,.bool false,.none]}
noncomputable abbrev iJ(vs:List PJ):Obj:={cls:=.type "tuple",data:=.seq vs.toArray}
section
variable{prog:Ug}{w:TB}{A:Qx}{C:P3}{R:Result->PK->Prop}{h:QG}{gn:Array GenState}{d:Drawn}{t:Nat}{os:Wa}
theorem AS(Y:yW (PW prog w) h C)(hl:rest.length<=Rl)
  (hq:R (.ok (.ret (.ref (h.objs.size+1)))) ⟨(h.push (iJ rest)).push (dg C h.objs.size),gn,d,t,os⟩):
  Sh (PW prog w) A (.call (.builtin "Exception.__new__") ⟨.ref C::rest,[]⟩) R ⟨h,gn,d,t,os⟩:=by
 obtain⟨⟨oc,od,cd,sl,hC,e1,e2,e4⟩,made,base,self,exc,HG,HT,GQ,Gg,meta',call,typ⟩:=Y
 have F:=Ve
 refine codeAny_call_builtin_code (Xd _ F.quiet) ?_
 simp only [VW,F.newKind,F.newSplit,F.newRow]
 have here:Sp (PW prog w) h (Yp "Exception.__new__" (.ref C)) ():=base.andThen (made.andThen (VZ (by simp only [RS,bne_self_eq_false,P4,if_false])))
 have args:VM "Exception.__new__" ⟨.any,"Exception","Exception",.cls,[⟨"args",.varPos,false⟩,⟨"kwargs",.varKw,false⟩]⟩ ⟨.ref C::rest,[]⟩=pure ():=by kernel_rfl
 refine aa args ?_
 repeat (first|simp only [bne_self_eq_false,P4,if_false]|lk)
 refine codeAny_builtinAt F.entry ?_
 unfold Builtin.«BaseException.__new__»
 refine XC ?_
 show PySem.wpAt _ _ _ (stack>>=_) _ _ _
 refine XC (PySem.wpAt_stack λ p below=>WC ?_)
 have hends:=F.ends
 wp_walk
 refine WC ?_
 refine aa F.owner ?_
 have here2:Sp (PW prog w) h (Yp "BaseException.__new__" (.ref C)) ():=base.andThen (made.andThen (VZ (by simp only [RS,F.canon,bne_self_eq_false,P4,if_false])))
 dsimp only
 unfold isType
 repeat (first|simp only [bne_self_eq_false,P4,if_false,Yn]|lk)
 refine aa (if_neg (by refine aa PU ?_;exact ae 0x92600918601fc18601fd101 rfl rest.length hl)) ?_
 unfold Yv
 refine Py (UM (PB ?_))
 refine Py ?_
 show PR _ _ (Yv _ _ _) _ _ _
 unfold Yv classHasDel
 refine Py (UM (Py (Py (wpAny_load (PA _ (PA _ hC)) (PB ?_)))))
 dsimp only
 refine aa e2 ?_
 refine PB (PB ?_)
 show R _ _
 refine aa (Qb _ _) ?_
 exact hq
theorem yE(Y:yW (PW prog w) h C)(hl:rest.length<=Rl)(hi:Sp (PW prog w) h (Yt (.ref C) "__init__") (some init))(hb:∀self,Sp (PW prog w) h (bindSpecial init self) (init,[self]))
  (hq:Sh (PW prog w) (A.under (.builtin "type.__call__" ⟨.ref C::rest,[]⟩)) (.call init ⟨.ref (h.objs.size+1)::rest,[]⟩) (InitBack (h.objs.size+1) R) ⟨(h.push (iJ rest)).push (dg C h.objs.size),gn,d,t,os⟩):
  Sh (PW prog w) A (.call (.ref C) ⟨rest,[]⟩) R ⟨h,gn,d,t,os⟩:=by
 have Y':=Y
 obtain⟨⟨oc,od,cd,sl,hC,e1,e2,e4⟩,made,base,self,exc,HG,HT,GQ,Gg,meta',call,typ⟩:=Y
 refine Wh ?_
 show PR _ _ (callAny (.ref C) _) _ _ _
 refine nd_load hC ?_
 show PR _ _ (WB (.ref C) _) _ _ _
 unfold WB
 refine Py (call.at ?_)
 dsimp only
 refine aa (tc_bind _) ?_
 refine Py (PB (Py (PB ?_)))
 refine PB (a:=PySem.Fin.again (.call (.builtin "type.__call__") ⟨.ref C::rest,[]⟩)) (Ws rfl ?_)
 refine codeAny_call_builtin_at (Xd _ (by decide+kernel)) entry_typeCall (check_slot tc_kind tc_split typ (tc_args _ _ _) ?_)
 unfold Builtin.«type.__call__»
 have hm:Sp (PW prog w) h (mroOf (.ref C)) cd.mro:=((VT (part:=none) hC).andThen .now).andThen .now
 repeat (first|simp only [e4,P4,if_false]|with_reducible refine Ur ?_|lk)
 refine AS Y' hl ?_
 have k:∀b o,h.get? b=some o->((h.push (iJ rest)).push (dg C h.objs.size)).get? b=some o:=λ b o e=>PA _ (PA _ e)
 have hx:((h.push (iJ rest)).push (dg C h.objs.size)).get? (h.objs.size+1)=some (dg C h.objs.size):=by
  have:=PM (h.push (iJ rest)) (o:=dg C h.objs.size) rfl
  rwa [Qb] at this
 have t1:Sp (PW prog w) ((h.push (iJ rest)).push (dg C h.objs.size)) (typeOf (.ref (h.objs.size+1))) (.ref C):=(VT hx).andThen .now
 have s1:=self.keeps k
 have i1:=hi.keeps k
 have b1:=(hb (.ref (h.objs.size+1))).keeps k
 unfold SY callSpecial? specialOf
 repeat (first|with_reducible refine Ur ?_|lk)
 refine Uh hq λ r s' z=> ?_
 rcases r with e|(v|_|_|_)<;>first|exact z|exact z.elim|skip
 obtain⟨rfl,z⟩:=z
 exact PB (PB z)
end
end Mine
end
section
namespace Mine
open PySem PySem.W PySem.Calls PyProof.Rows PySem.SeqAt Builtin Builtin.ObjectAttr
noncomputable def nG(K:RH)(C:P3):Bool:=(clsIn K C).any λ cd=>cd.hasDict&& !cd.mro.isEmpty&&(cd.mro.dropWhile λ v=>match v with|.ref _=>true|_=>false)==[.type "Exception",.type "BaseException",.type "object"]
theorem wi(self:PJ):∀{l:List PJ},(l.dropWhile λ v=>match v with|.ref _=>true|_=>false)=[.type "Exception",.type "BaseException",.type "object"]->refuseLoop self "__setattr__" l=pure ()/\l.contains (.type "object")=true:=by
 intro l
 induction l with
 |nil=>
  intro h
  cases h
 |cons v r ih=>
  intro h
  by_cases hv:∃a,v=.ref a
  ·obtain⟨a,rfl⟩:=hv
   rw[List.dropWhile_cons_of_pos (by rfl)] at h
   obtain⟨a,b⟩:=ih h
   exact⟨by rewrite[refuseLoop_ref];exact a,by refine aa SU ?_;refine aa b ?_;refine aa (Bool.or_true _) ?_;rfl⟩
  ·rw[List.dropWhile_cons_of_neg (by intro q;split at q;exact hv ⟨_,rfl⟩;cases q)] at h
   refine aa h ?_
   exact⟨PySem.F.store_Exception.passes self,by simp⟩
section
variable{prog:Ug}{w:TB}{A:Qx}{E0:PJ->PK->Prop}{s:PK}{C x:P3}{K:RH}{R:Result->PK->Prop}
theorem tB(X:K.In s.heap)(I:InstAt s.heap x ox C od)(hp:nG K C=true)(ht:XS K C name=some none)
  (h:∀b,PR (PW prog w) A.in1 (storeInOwnDict (.ref x) (.ref C) (.str name tk) name v b)
   (λ fin s'=>match fin with|.done f=>R (.ok f) s'|.again c'=>c'.quiet=true/\Sh (PW prog w) A c' R s') (λ e s'=>R (.error e) s') s):
  Sh (PW prog w) A (.call (.builtin "object.__setattr__") ⟨[.ref x,.str name tk,v],[]⟩) R s:=by
 have SF:=PySem.F.store_object
 refine ai (Yd hp) λ cd hc ho=> ?_
 simp only [PY,Te,beq_iff_eq] at ho
 obtain⟨⟨hd,ne⟩,hdw⟩:=ho
 obtain⟨ps,Ow⟩:=wi (.ref x) hdw
 have sub:Sp (PW prog w) s.heap (SY (.ref x) (.type "object")) true:=I.type.andThen (S9 X (by unfold XR;refine aa hc ?_;refine aa (Q7 _ _) ?_;refine aa (if_neg (by refine aa ne ?_;decide)) ?_;refine aa Ow ?_;rfl))
 refine XJ SF.slot.plain SF.entry (@check_slot (PW prog w) _ _ s "object.__setattr__" "object" "__setattr__" (.ref x) [.str name tk,v] [] _ SF.kind SF.split sub (SF.args (.ref x) (.str name tk) v) ?_)
 refine ai (Rk.mp ht) λ attr ha hr=> ?_
 have hm:Sp (PW prog w) s.heap (mroOf (.ref C)) cd.mro:=(UN X hc).andThen .now
 have L3:Sp (PW prog w) s.heap (storeTaker? attr) none:=by
  cases attr with
  |none=>cases hr;exact .now
  |some a=>
   refine ai (V2.mp hr) λ b hb J1=> ?_
   refine(looks_takesIn X hb).andThen ?_
   cases b with
   |true=>cases J1
   |false=>exact .now
 rewrite[osa_eq];refine aa (refuse_eq _ _) ?_
 refine Py (Py (I.type.here (Py (hm.here ?_))))
 refine aa ps ?_
 refine PB (Py (I.type.here (Py ((Xx X ha).here (Py (L3.here ?_))))))
 exact h _
theorem xT:∀{es:List Qh},es.any (·.refKey)=false->(Xe name hsh (.str name t0) v es).any (·.refKey)=false/\(Xe name hsh (.str name t0) v es).length<=es.length+1:=by
 intro es
 induction es with
 |nil=>
  intro y1
  exact⟨rfl,PC _⟩
 |cons e r ih=>
  intro h
  rw[RW,Bool.or_eq_false_iff] at h
  rewrite[Xe]
  split
  ·refine⟨?_,by simp⟩
   refine aa RW ?_;refine aa h.2 ?_;refine aa (Ym _) ?_
   exact h.1
  ·obtain⟨a,b⟩:=ih h.2
   refine⟨?_,by simp only [PN];exact ae 0x904184185206144106149102 rfl ((Xe name hsh (U9 name t0) v r).length) r.length b⟩
   refine aa RW ?_;refine aa a ?_;refine aa h.1 ?_;rfl
theorem mH(g2:s.heap.get? d=some (QM es n))(hr:es.any (·.refKey)=false)(hl:es.length<=10)
  (k:∀h' Ge n' tk,h'.get? d=some (QM Ge n')->Ge.any (·.refKey)=false->Ge.length<=es.length+1->Qp d s.heap h'->Q (.done (.ret .none)) {s with heap:=h',toks:=tk}):PR (PW prog w) A (storeInDict d (.str name t0) name v) Q E0 s:=by
 unfold storeInDict
 refine Py (PB (Py ?_))
 unfold nsSet
 refine Py (Py (VU (PB (Py (wpAny_mkText (Py (Sz g2 ?_)))))))
 dsimp only
 have c:(!es.toArray.any (·.key.isStr name)&&es.toArray.any (·.refKey))=false:=by
  refine aE Tq ?_;refine aE Tq ?_
  refine aa (show es.toArray.toList=es from rfl) ?_;refine aa hr ?_;refine aa (S7 _) ?_;rfl
 refine aa (Xg _ _) ?_;refine aa c ?_
 refine wpAny_updatePart g2 ?_
 have g3:(s.heap.update d (Vt name (Qf w.params name) (.str name s.toks) v)).get? d=some (QM (Xe name (Qf w.params name) (.str name s.toks) v es) (putN name es n)):=by
  refine aa (P5 _ g2 (by rewrite[VI];rfl)) ?_;rewrite[VI];rfl
 obtain⟨p1,p2⟩:=xT (name:=name) (hsh:=Qf w.params name) (t0:=s.toks) (v:=v) hr
 refine Py (wpAny_lookBehind g3 (pastItsLine_dict (by refine aa PU ?_;refine aa XU ?_;exact ae 0x92418000008019fd2041851481a9102 rfl es.length ((Xe name (Qf w.params name) (U9 name s.toks) v es).length) hl p2)) ?_)
 exact PB (k _ _ _ _ g3 p1 p2 (Qy ..))
theorem Dy(hj:j<=5)(X:K.In s.heap)(g1:s.heap.get? x=some ⟨.ref C,od,.fields vs,sl⟩)
  (hod:∀d,od=some d->d≠x/\∃es n,s.heap.get? d=some (QM es n)/\es.any (·.refKey)=false/\es.length<=j)(hs:Rp K (.ref C) "__setattr__" =some (some (.builtin "object.__setattr__")))(hp:nG K C=true)(hf:Rp K (.ref C) name=some none)
  (k:∀h' d tk,h'.get? x=some ⟨.ref C,some d,.fields vs,sl⟩->d≠x->(∃es n,h'.get? d=some (QM es n)/\es.any (·.refKey)=false/\es.length<=j+1)->(od=some d∨s.heap.get? d=none)->(∀b o,b≠x->b≠d->s.heap.get? b=some o->h'.get? b=some o)->Q () {s with heap:=h',toks:=tk}):
  PR (PW prog w) A (setAttr (.ref x) name v) Q E0 s:=by
 have ti:XS K C name=some none:=by unfold XS;refine aa hf ?_;rfl
 refine ai (Yd hp) λ cd hc Gd=> ?_
 simp only [PY] at Gd
 cases od with
 |none=>
  have I:InstAt s.heap x ⟨.ref C,none,.fields vs,sl⟩ C none:=⟨g1,rfl,rfl,trivial⟩
  refine set_plain X I hs (tB (s:={s with toks:=s.toks+1}) X I hp ti λ b=> ?_)
  refine Py (PB (Py (Py (Sz g1 (Py (W9 (s:={s with toks:=s.toks+1}) (UN X hc) ?_))))))
  refine aa Gd.1.1 ?_
  show PR _ _ (alloc {cls:=.type "dict",data:=.dict #[]}>>=λ d=>update x (λ o=>{o with dict:=some d})>>=λ zz=>pure (some d)) _ _ _
  refine Py (UM (Py (wpAny_update (PA _ g1) (PB ?_))))
  have HZ:s.heap.objs.size≠x:=Sq (P9 g1)
  have gx:((s.heap.push {cls:=.type "dict",data:=.dict #[]}).update x λ o=>{o with dict:=some s.heap.objs.size}).get? x=some ⟨.ref C,some s.heap.objs.size,.fields vs,sl⟩:=P5 _ (PA _ g1) rfl
  have gd:((s.heap.push {cls:=.type "dict",data:=.dict #[]}).update x λ o=>{o with dict:=some s.heap.objs.size}).get? s.heap.objs.size=some (QM [] 0):=(Qt _ _ (R5 HZ)).trans (PM _ rfl)
  refine Py (PB ?_)
  refine mH (t0:=s.toks) (s:={s with heap:=(s.heap.push {cls:=.type "dict",data:=.dict #[]}).update x λ o=>{o with dict:=some s.heap.objs.size},toks:=s.toks+1}) gd rfl (by decide) λ h' Ge n' tk g3 GB Gq Hr=> ?_
  exact k h' _ tk (Hr.extBut _ _ (R5 HZ) gx) HZ ⟨Ge,n',g3,GB,PO Gq (Sv (Rv _))⟩ (.inr (aT (PC _))) λ b o n1 n2 e=>Hr.extBut b o n2 ((Qt _ _ (R5 n1)).trans (PA _ e))
 |some d=>
  obtain⟨KE,es,n,g2,hr,hl⟩:=hod d rfl
  have I:InstAt s.heap x ⟨.ref C,some d,.fields vs,sl⟩ C (some (QM es n)):=⟨g1,rfl,rfl,g2⟩
  refine set_plain X I hs (tB (s:={s with toks:=s.toks+1}) X I hp ti λ b=> ?_)
  refine Py (PB (Py (Py (Sz g1 (Py (W9 (s:={s with toks:=s.toks+1}) (UN X hc) ?_))))))
  refine aa Gd.1.1 ?_
  refine PB (a:=some d) (Py (PB ?_))
  refine mH (t0:=s.toks) (s:={s with toks:=s.toks+1}) g2 hr (ae 0x9241a9205148195102 rfl j es.length hj hl) λ h' Ge n' tk g3 GB Gq Hr=> ?_
  exact k h' d tk (Hr.extBut _ _ (R5 KE) g1) KE ⟨Ge,n',g3,GB,ae 0x92410614930418514c149103 rfl es.length j Ge.length hl Gq⟩ (.inl rfl) λ b o n1 n2 e=>Hr.extBut b o n2 e
end
end Mine
end
section
namespace Mine
open PySem PySem.W PySem.Calls PyProof.Rows PySem.SeqAt Builtin
inductive ig(l:List R9):Prop
 |mk (p1 p2 p3 p4 p5 p6 p7 p8 p9 Ju Kw Kv Ku Kt:Pos):(p2.endLine==p5.line)=true->l=[.Expr (.Call (.Attribute (.Name "Exception" p1) "__init__" p2) [.Name "self" p3,.Name "what" p4] [] p5) p6,
  .Assign [.Attribute (.Name "self" p7) "what" p8] (.Name "what" p9) Ju,.Assign [.Attribute (.Name "self" Kw) "at" Kv] (.Name "at" Ku) Kt]->ig l
structure oV(g:Gs)(K:RH)(C f:P3)(fd:Sx):Prop where
 ex:my K C=true
 set:nG K C=true
 keep:V7 K (.ref C)=true
 init:Rp K (.ref C) "__init__" =some (some (.ref f))
 Kd:typeIn K (.ref f)=some (.type "function")
 GO:Rp K (.ref C) "__setattr__" =some (some (.builtin "object.__setattr__"))
 fw:Rp K (.ref C) "what" =some none
 fa:Rp K (.ref C) "at" =some none
 at_:∃o,K.lookup f=some o/\o.data=.func fd
 code:codeIn K fd.code fd.qualname=true
 body:∃l,fd.body=.stmts l/\ig l
 Ev:fd.closure=[]
 glob:fd.globals=P1
 bi:fd.builtins=QV
 kind:fd.scope.kind=.function
 gen:fd.scope.isGenerator=false
 co:fd.scope.isCoroutine=false
 p1:fd.params.posonlyargs=[]
 p2:fd.params.args.map (·.arg)=[("self" :Str),"what","at"]
 p3:fd.params.vararg=none
 p4:fd.params.kwonlyargs=[]
 p5:fd.params.kwarg=none
 n1:fd.scope.names.lookup ("self" :Str)=some .local
 n2:fd.scope.names.lookup ("what" :Str)=some .local
 n3:fd.scope.names.lookup ("at" :Str)=some .local
 n4:fd.scope.names.lookup ("Exception" :Str)=some .globalImplicit
 nc:∀x∈fd.scope.names,x.2≠.cell
 Hi:∃T oT m dv,fd.defaults=.ref T/\K.lookup T=some oT/\oT.data=.seq #[dv] m
 Pj:Xn K P1 "Exception" =some none
 Ph:findCls K (.type "Exception") (.type "type") "__init__" =some (.val (.builtin "Exception.__init__"))
section
variable{g:Gs}{A:Qx}{E0:PJ->PK->Prop}{s:PK}{C x:P3}{K:RH}
theorem u4(X:K.In s.heap)(hx:my K C=true)(g1:s.heap.get? x=some ⟨.ref C,od,.fields vs,sl⟩)(hv:0<vs.size)
  (k:∀h',h'.get? x=some ⟨.ref C,od,.fields (vs.setIfInBounds 0 (.ref s.heap.objs.size)),sl⟩->(∀b o,b≠x->s.heap.get? b=some o->h'.get? b=some o)->Q .none {s with heap:=h'}):
  PR (PW g.prog g.w) A (call (.builtin "Exception.__init__") [.ref x,a]) Q E0 s:=by
 have F:=Ve
 have Y:=lq (M:=PW g.prog g.w) X hx
 have t1:Sp (PW g.prog g.w) s.heap (typeOf (.ref x)) (.ref C):=(VT g1).andThen .now
 have i1:Sp (PW g.prog g.w) s.heap (SY (.ref x) (.type "Exception")) true:=t1.andThen Y.exc
 refine Ur (XJ F.init.plain F.initEntry ?_)
 simp only [VW,F.initKind,F.initSplit,F.initRow]
 refine Py (i1.here ?_)
 simp only [Yn,P4,if_false]
 have OQ:Sp (PW g.prog g.w) s.heap (VM "Exception.__init__" ⟨.positional,"*","Exception",.self,[⟨"args",.varPos,false⟩]⟩ ⟨[.ref x,a],[]⟩) ():=by
  intro A' Q' E' s' k' q'
  refine DV Y.obj λ oc ME cd NF hC zz=> ?_
  have Mj:=k' _ _ g1
  have Ka:=k' _ _ hC
  unfold VM
  repeat (first|lk)
  exact q'
 refine OQ.here ?_
 show PR _ _ (newTuple [a]>>=λ t=>Tc (.ref x) 0 t>>=λ zz=>Wg Qg) _ _ s
 refine Py (wpAny_newTuple ?_ (show([a]:List PJ).length<=Rl from by refine aa XU ?_;exact WH rfl))
 have Fq:s.heap.objs.size≠x:=Sq (P9 g1)
 obtain⟨v0,Ln⟩:∃v0,vs[0]? =some v0:=⟨vs[0],by simp[hv]⟩
 have g2:=PA (h:=s.heap) {cls:=.type "tuple",data:=.seq ([a]:List PJ).toArray} g1
 unfold Tc
 refine Py (Py (Qv g2 rfl Ln (Py (Sy g2 rfl hv ?_))))
 have g3:((s.heap.push {cls:=.type "tuple",data:=.seq ([a]:List PJ).toArray}).update x (Qu (·.setIfInBounds 0 (QJ s.heap.objs.size)))).get? x=some ⟨.ref C,od,.fields (vs.setIfInBounds 0 (.ref s.heap.objs.size)),sl⟩:=P5 _ g2 rfl
 have fin:PR (PW g.prog g.w) A.in1 (Wg Qg) (λ fin s'=>match fin with|.done f=>(match (Except.ok f:Result) with|.ok (.ret v)=>Q v s'|.ok _=>False|.error e=>E0 e s')|.again c'=>c'.quiet=true/\Sh (PW g.prog g.w) A c' (λ r s'=>match r with|.ok (.ret v)=>Q v s'|.ok _=>False|.error e=>E0 e s') s') (λ e s'=>E0 e s')
   {s with heap:=(s.heap.push {cls:=.type "tuple",data:=.seq ([a]:List PJ).toArray}).update x (Qu (·.setIfInBounds 0 (QJ s.heap.objs.size)))}:=
  PB (k _ g3 λ b o n e=>(Qt _ _ (R5 n)).trans (PA _ e))
 split
 ·exact Wf fin
 ·exact PB fin
end
section
variable{g:Gs}{A:Qx}{E0:PJ->PK->Prop}{s:PK}{C x f L:P3}{K:RH}{fd:Sx}{h0:QG}{env:Env}{m:Str->Option PJ}
structure ud(K:RH)(h0:QG)(C x L:P3)(m:Str->Option PJ)(od:Option P3)(j:Nat)(sl:Array (Option PJ))(h:QG):Prop where
 base:∀b o,h0.get? b=some o->h.get? b=some o
 IL:K.In h0
 new:h0.get? x=none
 ns:h.Ns L m
 lx:L≠x
 Hp:h0.get? L=none
 obj:∃vs a0,h.get? x=some ⟨.ref C,od,.fields vs,sl⟩/\1<vs.size/\vs[0]? =some a0/\vs[1]? =some .none
 dict:∀d,od=some d->d≠x/\d≠L/\h0.get? d=none/\∃es n,h.get? d=some (QM es n)/\es.any (·.refKey)=false/\es.length<=j
theorem ud.Lj(X:ud K h0 C x L m od j sl h):K.In h:=X.IL.keeps X.base
theorem A4(hj:j<=5)(X:ud K h0 C x L m od j sl s.heap)(hk:env.scope.kind=.function)(hL:env.locals=L)(k1:env.kindOf ("self" :Str)=some .local)(k2:env.kindOf nm=some .local)(hd:(nm==("__debug__" :Str))=false)
  (m1:m ("self" :Str)=some (.ref x))(m2:m nm=some v)(hs:Rp K (.ref C) "__setattr__" =some (some (.builtin "object.__setattr__")))(hp:nG K C=true)(hf:Rp K (.ref C) nm=some none)
  (k:∀s' d,s'.os=s.os/\s'.gens=s.gens/\s'.drawn=s.drawn->ud K h0 C x L m (some d) (j+1) sl s'.heap->(∀b o,b≠x->od≠some b->s.heap.get? b=some o->s'.heap.get? b=some o)->(od=some d∨s.heap.get? d=none)->Q .next s'):
  PR (PW g.prog g.w) A (exec (.Assign [.Attribute (.Name "self" p7) nm p8] (.Name nm p9) Ju) env) Q E0 s:=by
 rewrite[Uk]
 refine Py (QF (Py (Rq (a:=false) rfl ?_)))
 simp only [P4,if_false]
 refine Py (Vs (RQ hk k2 (hL▸X.ns) m2 ?_) hd)
 refine Py (Rq (a:=none) rfl ?_)
 show PR _ A ((Vq [v] (eval (.Name "self" p7) env)>>=λ ov=>Su p8.atName>>=λ zz=>Vq [v,ov] (setAttr ov nm v)>>=λ zz=>release [v,ov] [])>>=λ zz=>pure Vg) _ _ s
 refine Py (Py (Qr (Vs (RQ hk k1 (hL▸X.ns) m1 ?_) (by decide))))
 refine oQ X.obj λ vs a0 g1 Fc Ic GG=> ?_
 refine Py (QF (Py (Qr (Dy hj X.Lj g1 (λ d e=>⟨(X.dict d e).1,(X.dict d e).2.2.2⟩) hs hp hf λ h' d tk g2 KE Gd H2 Hv=>wpAny_release (PB ?_)))))
 have LN:∀b o,h0.get? b=some o->b≠x:=λ b o e q=>by rw[q,X.new] at e;cases e
 have Nq:∀b o,h0.get? b=some o->b≠d:=λ b o e q=>by
  rcases H2 with hn|hn
  ·rw[q,(X.dict d hn).2.2.1] at e;cases e
  ·rw[<-q,X.base _ _ e] at hn;cases hn
 have Np:d≠L:=by
  rcases H2 with hn|hn
  ·exact(X.dict _ hn).2.1
  ·intro q
   refine yJ X.ns λ o es ep ho zz=> ?_
   rw[q,ho] at hn;cases hn
 have OO:h0.get? d=none:=by
  cases q:h0.get? d with
  |none=>rfl
  |some o=>exact absurd rfl (Nq d o q)
 refine kO Gd λ es n e1 e2 e3=> ?_;clear Gd
 refine k {s with heap:=h',toks:=tk} d ⟨rfl,rfl,rfl⟩ ⟨λ b o e=>Hv b o (LN b o e) (Nq b o e) (X.base b o e),X.IL,X.new,X.ns.at' λ o e=>Hv L o X.lx (R5 Np) e,X.lx,X.Hp,⟨vs,a0,g2,Fc,Ic,GG⟩,λ d' e=> ?_⟩ (λ b o n1 n2 e=>Hv b o n1 (λ q=> ?_) e) H2
 ·cases e
  exact⟨KE,Np,OO,es,n,e1,e2,e3⟩
 ·rcases H2 with hn|hn
  ·exact n2 (q▸hn)
  ·rw[q,hn] at e;cases e
theorem BW(ek:oV g K C f fd)(IL:K.In h0)(nl:h0.NoLimit)(hbi:∃mb,h0.Ns QV mb/\∀x:Str,x≠"__name__" ->mb x=R7 x)(hroom:A.depth<UJ)(harg:args.length=1∨args.length=2)
  (base:∀b o,h0.get? b=some o->s.heap.get? b=some o)(hs0:h0.objs.size<=s.heap.objs.size)(IM:h0.get? x=none)(hx:s.heap.get? x=some ⟨.ref C,none,.fields vs,sl⟩)(Fc:1<vs.size)(Ic:vs[0]? =some a0)(GG:vs[1]? =some .none):
  Sh (PW g.prog g.w) A (.call (.ref f) ⟨.ref x::args,[]⟩) (λ r s'=>r=.ok (.ret .none)/\(s'.os=s.os/\s'.gens=s.gens)/\(∀b o,b≠x->s.heap.get? b=some o->s'.heap.get? b=some o)/\
   ∃FD d b0,s'.heap.get? x=some ⟨.ref C,some d,.fields FD,sl⟩/\FD[0]? =some b0/\FD[1]? =some .none) s:=by
 refine ai ek.at_ λ o ho hd=> ?_
 obtain⟨l,JZ,p1,p2,p3,p4,p5,p6,p7,p8,p9,Ju,Kw,Kv,Ku,Kt,JT,rfl⟩:=ek.body
 refine DU ek.Hi λ T oT m dv GV hT OZ=> ?_
 have KS:K.In s.heap:=IL.keeps base
 refine XB hroom (KS _ _ ho) hd ek.co ek.gen JZ (codeRec_of KS ek.code) ?_
 refine rR (ps:=[("self" :Str),"what","at"]) ek.p1 ek.p2 ek.p3 ek.p4 ek.p5 (by decide+kernel) (ds:=[dv]) (.inr ⟨T,oT,m,GV,KS _ _ hT,OZ⟩) (by rcases harg with h|h<;>simp[h]) (by rcases harg with h|h<;>simp[h]) (show(1:Nat)<=3 by decide) ?_
 obtain⟨a,b,JD⟩:∃a b,dx 3 (.ref x::args) [dv]=[.ref x,a,b]:=by
  rcases harg with h|h
  ·obtain⟨a,rfl⟩:∃a,args=[a]:=by
    cases args with
    |nil=>cases h
    |cons a r=>cases r with
     |nil=>exact⟨a,rfl⟩
     |cons _ _=>simp at h
   exact⟨a,dv,rfl⟩
  ·obtain⟨a,b,rfl⟩:∃a b,args=[a,b]:=by
    cases args with
    |nil=>cases h
    |cons a r=>cases r with
     |nil=>simp at h
     |cons b r=>cases r with
      |nil=>exact⟨a,b,rfl⟩
      |cons _ _=>simp at h
   exact⟨a,b,rfl⟩
 show PR _ _ (SA fd.scope fd.globals fd.closure ([("self" :Str),"what","at"].zip (dx 3 (.ref x::args) [dv])) _ _ _ _ _) _ _ _
 refine aa JD ?_;refine aa ek.glob ?_;refine aa ek.bi ?_;refine aa ek.Ev ?_
 show PR _ _ (SA fd.scope P1 [] [(("self" :Str),QJ x),("what",a),("at",b)] _ _ _ _ _) _ _ _
 refine wpAny_newFunctionEnv (around:=none) ek.nc (λ y hy=> ?_) (λ h' FP Hr=> ?_) ek.kind
 ·simp only [PS,List.not_mem_nil,or_false] at hy
  rcases hy with rfl|rfl|rfl
  ·exact ek.n1
  ·exact ek.n2
  ·exact ek.n3
 have ET:∀b o,s.heap.get? b=some o->h'.get? b=some o:=λ b o e=>Hr.extBut b o (SZ (P9 e)) (PA _ e)
 have N3:h'.NoLimit:=nl.keeps λ b o e=>ET b o (base b o e)
 refine⟨N3,codeAny_func ?_⟩
 generalize henv:newEnv fd.scope s.heap.objs.size P1 [] (fd.qualname++ ".<locals>.") (some f) fd.code none QV=env
 have v1:env.scope=fd.scope:=by refine aE henv ?_;rfl
 have v2:env.locals=s.heap.objs.size:=by refine aE henv ?_;rfl
 have v3:env.globals=P1:=by refine aE henv ?_;rfl
 have v4:env.builtins=QV:=by refine aE henv ?_;rfl
 have vk:env.scope.kind=.function:=by refine aa v1 ?_;exact ek.kind
 have vo:∀y,env.kindOf y=fd.scope.names.lookup y:=λ y=>by unfold RD;refine aa v1 ?_;rfl
 clear henv
 have Lt:s.heap.objs.size≠x:=Sq (P9 hx)
 have Ny:h0.get? s.heap.objs.size=none:=by
  cases q:h0.get? s.heap.objs.size with
  |none=>rfl
  |some o=>exact absurd (P9 (base _ _ q)) (Rn _)
 generalize hm:(λ y:Str=>([(("self" :Str),QJ x),("what",a),("at",b)]:List (Str×PJ)).reverse.lookup y)=mm at FP
 have q1:mm ("self" :Str)=some (.ref x):=by refine aE hm ?_;rfl
 have q2:mm ("what" :Str)=some a:=by refine aE hm ?_;rfl
 have q3:mm ("at" :Str)=some b:=by refine aE hm ?_;rfl
 clear hm
 have X1:ud K h0 C x s.heap.objs.size mm none 0 sl h':=⟨λ b o e=>ET b o (base b o e),IL,IM,FP,Lt,Ny,⟨vs,a0,ET _ _ hx,Fc,Ic,GG⟩,λ d e=>by cases e⟩
 refine RX (wpAny_Expr_any ?_ (qV vk) rfl)
 refine g8 rfl rfl (show(2:Nat)<30 by decide) JT ?_
 refine Name_function_global vk (by refine aa (vo _) ?_;exact ek.n4) ?_ (by decide)
 unfold Yy
 refine Py ?_
 refine aa v3 ?_
 refine(Yx (M:=PW g.prog g.w) X1.Lj ek.Pj).here ?_
 refine ai hbi λ mb JR J1=> ?_;clear hbi
 refine Py ?_
 refine aa v4 ?_
 refine wpAny_nsGet (JR.keeps X1.base) ?_
 refine aa (J1 "Exception" (by decide)) ?_;refine aa (show R7 "Exception" =some (.type "Exception") from by kernel_rfl) ?_
 refine PB ?_
 refine method_type (h₀:=h0) (L:=s.heap.objs.size) (m:=mm) ⟨FP,X1.base,hs0⟩ IL (by first|rfl|kernel_rfl) (by kernel_rfl) ek.Ph rfl ?_
 refine callWith_builtin rfl (evalArgs_plain (spliced_cons (Vs (RQ vk (by refine aa (vo _) ?_;exact ek.n1) (v2▸FP) q1 ?_) (by decide))))
 refine spliced_cons (Vs (RQ vk (by refine aa (vo _) ?_;exact ek.n2) (v2▸FP) q2 (spliced_nil ?_)) (by decide))
 refine u4 (C:=C) (vs:=vs) (sl:=sl) (od:=none) X1.Lj ek.ex (ET _ _ hx) (ae 0x909180246101 rfl vs.size Fc) λ h2 Pb FF=> ?_
 have LN:∀b o,h0.get? b=some o->b≠x:=λ b o e q=>by rw[q,IM] at e;cases e
 have X2:ud K h0 C x s.heap.objs.size mm none 0 sl h2:=⟨λ b o e=>FF b o (LN b o e) (X1.base b o e),IL,IM,FP.at' λ o e=>FF _ o Lt e,Lt,Ny,⟨_,_,Pb,by simpa using Fc,(by have h9:0<vs.size:=(ae 0x909180246101 rfl vs.size Fc);refine aa Array.getElem?_setIfInBounds ?_;refine aa (if_pos rfl) ?_;refine aa (if_pos h9) ?_;rfl),by refine aa (UF (by decide)) ?_;exact GG⟩,λ d e=>by cases e⟩
 refine RX (A4 (Rv _) X2 vk v2 (by refine aa (vo _) ?_;exact ek.n1) (by refine aa (vo _) ?_;exact ek.n2) (by decide) q1 q2 ek.GO ek.set ek.fw λ s3 d Nd X3 IX OA=> ?_)
 refine RX (A4 (by decide) X3 vk v2 (by refine aa (vo _) ?_;exact ek.n1) (by refine aa (vo _) ?_;exact ek.n3) (by decide) q1 q3 ek.GO ek.set ek.fa λ s4 d4 Nc X4 H4 zz=> ?_)
 refine RJ ⟨rfl,⟨Nc.1.trans Nd.1,Nc.2.1.trans Nd.2.1⟩,λ b o nb e=> ?_,?_⟩
 ·have e2:=FF b o nb (ET b o e)
  have e3:=IX b o nb (by simp) e2
  refine H4 b o nb (λ q=> ?_) e3
  cases q
  rcases OA with hn|hn
  ·cases hn
  ·have h9:some o=none:=e2.symm.trans hn
   cases h9
 ·refine oQ X4.obj λ FD b0 g4 zz Pa Kb=> ?_
  exact DM FD d4 b0 g4 Pa Kb
end
section
variable{g:Gs}{tb:Tb}{K:RH}{Γ:aH}{N:Nm}{n:Nat}{W:P3->Prop}{A:Qx}{fr:List Env}{env:Env}{ρ:an}{φ:az}{M:AH}{s:PK}{E0:PJ->PK->Prop}{C f:P3}{fd:Sx}
theorem uG(hh:A.handled=none)(hx:my K C=true)
  (hm:PR (PW g.prog g.w) A m (λ v s1=>∃x vs od sl,v=.ref x/\K.In s1.heap/\s1.heap.get? x=some ⟨.ref C,od,.fields vs,sl⟩/\vs[1]? =some .none/\E0 (.ref x) s1) E0 s):PR (PW g.prog g.w) A (raiseStmt env (some m) none) Q E0 s:=by
 unfold raiseStmt
 dsimp only
 refine Py (PT hm (λ v s hv=> ?_) λ zz zz e=>e)
 refine DT hv λ x vs od sl FE X g1 GG h=> ?_;clear hv;subst FE
 have Y:=lq (M:=PW g.prog g.w) X hx
 obtain⟨⟨oc,ME,cd,NF,hC,e1,e2,e4⟩,made,base,self,exc,HG,HT,GQ,Gg,meta',call,typ⟩:=Y
 have t1:Sp (PW g.prog g.w) s.heap (typeOf (.ref x)) (.ref C):=(VT g1).andThen .now
 have b1:Sp (PW g.prog g.w) s.heap (SY (.ref x) (.type "BaseException")) true:=t1.andThen HG
 have b2:Sp (PW g.prog g.w) s.heap (SY (.ref x) (.type "type")) false:=t1.andThen Gg
 unfold excFromValue isExcClass raisedInstance setFlight isType
 repeat (first|simp only [P4,if_false]|lk)
 refine aa GG ?_
 refine PB ?_
 refine aa (if_neg (by decide)) ?_
 exact PB (wpAny_raiseNew_none hh h)
theorem bd.EH(fx:Fx g tb K)(ek:oV g K C f fd)(Gl:g.cls=.ref C)(hg:cC N x=true)(hv:Xn K P1 x=some (some (.ref C)))(hes:dz g Γ N n es xs)(hx:xs.all aw=true)(hl:xs.length=1∨xs.length=2):
  bd g Γ N n (.EH es) (.Raise (some (.Call (.Name x np) xs [] cpos)) none pos):=by
 intro W A fr env ρ φ M s Nx R X L hA hN hL er st hw
 rewrite[arm_exec_Raise]
 refine Py (QF ?_)
 show PR _ A (raiseStmt env (some (eval (.Call (.Name x np) xs [] cpos) env>>=λ v=>Su pos>>=λ zz=>pure v)) none) _ _ s
 have main:∀{R':PJ->PK->Prop} {E':PJ->PK->Prop},(∀s' xa vs d sl φ1 M1,X M1->St g.pl g.w.params g.B W (env::fr) φ1 M1 s'->av bt φ M s φ1 M1 s'->s.heap.get? xa=none->s'.heap.get? xa=some ⟨.ref C,d,.fields vs,sl⟩->(∃b0,vs[0]? =some b0)->vs[1]? =some .none->R' (.ref xa) s')->
   PR (PW g.prog g.w) A (eval (.Call (.Name x np) xs [] cpos) env>>=λ v=>Su pos>>=λ zz=>pure v) R' E' s:=by
  intro R' E' k
  refine Py (We rfl (dU fx hN er st (bQ hg).1 (bQ hg).2 hv ?_))
  refine dh fx hes hx hA hN er st hw (λ vs ys s1 φ1 M1 q hlen Ep Em r1=>⟨ek.keep,?_⟩) λ v s' z=>z.no
  refine aa (RY _) ?_
  have KS:=fx.KS Ep
  refine Ur ?_
  obtain⟨h,gn,d,t,os⟩:=s1
  have FF:∀b o,h.get? b=some o->((h.push (iJ vs)).push (dg C h.objs.size)).get? b=some o:=λ b o e=>PA _ (PA _ e)
  have gx:((h.push (iJ vs)).push (dg C h.objs.size)).get? (h.objs.size+1)=some (dg C h.objs.size):=by
   have:=PM (h.push (iJ vs)) (o:=dg C h.objs.size) rfl
   rwa [Qb] at this
  have IM:h.get? (h.objs.size+1)=none:=aT (RP _)
  refine yE (lq KS ek.ex) (by refine aa hlen ?_;rcases hl with e|e<;>(refine aa e ?_;decide)) (Xx KS ek.init) (λ self=>bind_fn KS self ek.Kd) ?_
  have hd:(A.under (.builtin "type.__call__" ⟨.ref C::vs,[]⟩)).depth<UJ:=by have:=(gF.new (c:=C) (xs:=vs) hA).depth;exact ae 0x90be80c7fd10be80c7fc18813e249102 rfl ((A.under (Wo "type.__call__" {pos:=QJ C::vs})).depth) n this
  refine Uh (BW ek (h0:=h) (s:=⟨(h.push (iJ vs)).push (dg C h.objs.size),gn,d,t,os⟩) KS (fx.nl.keeps Ep.base) (by refine ai fx.bi λ mb h1 h2=> ?_;exact aA mb (h1.keeps Ep.base) h2) hd (by refine aa hlen ?_;exact hl) FF (by refine aa (Qb _ _) ?_;refine aa (Qb _ _) ?_;exact ae 0x106106145101 rfl h.objs.size) IM gx (show(1:Nat)<6 by decide) rfl rfl) ?_
  rintro r s2 ⟨rfl,⟨ho,hgn⟩,IX,FD,dd,b0,g2,Ic,GG⟩
  refine⟨rfl,?_⟩
  have hk:∀b o,h.get? b=some o->s2.heap.get? b=some o:=λ b o e=>IX b o (λ q=>by rw[q,IM] at e;cases e) (FF b o e)
  refine Py (QF (PB ?_))
  exact k s2 _ FD (some dd) #[] φ1 M1 q (Ep.Gn hk) (Em.trans (.ext hk ho hgn)) (Em.dead IM) g2 ⟨b0,Ic⟩ GG
 refine uG hA.handled ek.ex (main λ s' xa vs d sl φ1 M1 q Ep Em hn g1 Ic GG=>⟨xa,vs,d,sl,rfl,fx.KS Ep,g1,GG,?_⟩)
 obtain⟨b0,Ic⟩:=Ic
 exact⟨xa,φ1,M1,rfl,q,Ep,Em.wide,hn,.inl ⟨_,vs,b0,g1,Gl.symm,rfl,Ic,GG⟩⟩
end
section
variable{g:Gs}{tb:Tb}{K:RH}{Γ:aH}{N:Nm}{n:Nat}{W:P3->Prop}{A:Qx}{fr:List Env}{env:Env}{ρ:an}{φ:az}{M:AH}{s:PK}{E0:PJ->PK->Prop}{C f:P3}{fd:Sx}{h0 h':QG}
theorem aC.Fa(er:aC g.pl g.w.params W Γ env ρ φ M s.heap)(st:St g.pl g.w.params g.B W fr φ M s)(nt:bT h0 fr s.heap h'):aC g.pl g.w.params W Γ env ρ φ M h':=by
 have kp:∀b o,s.heap.get? b=some o->¬rec? o->bZ o (h'.get? b):=λ b o e nr=>by
  rcases nt.keep b o e (.inl nr) with k|⟨⟨en,he,hf⟩,_,sl,k⟩
  ·exact .inl k
  ·refine ai (st.GH en he b hf) λ o2 e2 c=> ?_
   rw[e] at e2;cases e2
   exact .inr ⟨c,sl,k⟩
 have hk:∀b o,s.heap.get? b=some o->¬ow W φ M b->b7 o (h'.get? b):=λ b o e no=>by
  by_cases hr:rec? o
  ·exact .inr (.inr hr)
  ·exact(kp b o e hr).weak
 refine⟨er.kind,er.glob,er.bi,er.inj,er.Fd,?_,λ x hx=> ?_,er.apart⟩
 ·obtain⟨m,hm,hl⟩:=er.loc
  refine⟨m,bZ.ns hm λ o e=>kp _ o e ?_,λ x i hi hx=>(hl x i hi hx).mono (Pz _) hk λ b q=>.inl q⟩
  refine vc hm λ o2 es ep F1 hd2 zz=> ?_;clear hm
  rw[e] at F1;cases F1
  rintro⟨vs,q⟩;rw[hd2] at q;cases q
 ·obtain⟨c,v,hc,hw,EC,hr⟩:=er.cell x hx
  refine⟨c,v,hc,hw,bZ.cell EC λ o e=>kp _ o e ?_,λ i hi=>(hr i hi).mono (Pz _) hk λ b q=>.inl q⟩
  refine ai EC λ o2 F1 hd2=> ?_;clear EC
  rw[e] at F1;cases F1
  rintro⟨vs,q⟩;rw[hd2] at q;cases q
theorem sW(X:K.In s.heap)(hx:my K C=true)(he:s.heap.get? x=some oe)(hc:oe.cls=.ref C)(hq:Q true s):PR (PW g.prog g.w) A (excMatches (.ref x) (.ref C)) Q E0 s:=by
 have Y:=lq (M:=PW g.prog g.w) X hx
 obtain⟨⟨oc,ME,cd,NF,hC,e1,e2,e4⟩,made,base,self,exc,HG,HT,GQ,Gg,meta',call,typ⟩:=Y
 have t1:Sp (PW g.prog g.w) s.heap (typeOf (.ref x)) (.ref C):=(VT he).andThen (by refine aa hc ?_;exact .now)
 have b1:Sp (PW g.prog g.w) s.heap (SY (.ref C) (.type "tuple")) false:=meta'.andThen (VZ tc_notTuple)
 unfold excMatches isExcClass isType
 repeat (first|simp only [P4,if_false]|lk)
 exact hq
theorem bd.Gu(fx:Fx g tb K)(ek:oV g K C f fd)(Gl:g.cls=.ref C){i:Nat}{e:E}{x y:Str}{value:P8}{tp ap yp KW kp Kl hp pos:Pos}{k:Nat}(he:aj g Γ N n e value)(hcs:iD value=none)(hx:cS Γ N (.one i) (.Name x tp)=true)(hg:cC N y=true)(hv:Xn K P1 y=some (some (.ref C))):
  bd g Γ N n (.Gu i e) (.Try [.Assign [.Name x tp] value ap] [.ExceptHandler (some (.Name y yp)) none [.Assign [.Name x KW] (.Constant .none k kp) Kl] hp] [] [] pos):=by
 intro W A fr env ρ φ M s Nx R X L hA hN hL er st hw
 have Jd:Γ.lookup x=some i/\du N x=true:=⟨ar (af hx).1,(af hx).2⟩
 have JG:RT value (some (.Name x tp)) ap.line env=pure false:=by
  have:fP N value (.Name x tp) value.pos.line=false:=by unfold fP;refine aa hcs ?_;rfl
  exact qf (target:=.Name x tp) (line:=ap.line) hN er.kind this
 refine wpAny_Try_except (RX (YD (aS (α:=Unit) he hA hN er st hw (λ v z s1 φ1 M1 q Ep Em EA r1=> ?_) λ v s1 h=> ?_) JG))
 ·refine fF EA Ep Jd.1 (nB hN Jd.2) r1 λ s2 ER Ez Ey=> ?_
  exact RJ (RJ ⟨_,φ1,M1,q,ER,Ez,Em.wide.trans (Ey.mono λ b q zz=>bu.EO q)⟩)
 ·obtain⟨xa,φ2,M2,rfl,q,Ez,Ey,ex⟩:=h
  have ER:=er.E9 st Ey
  refine oK (B:=g.B) (h0:=s.heap) hA.frames Ez.frames hL (λ b=>Ey.dead) ex λ h1 N0 t1=> ?_
  refine iA (fr:=env::fr) (s:={s1 with heap:=h1}) (f:=none) t1 λ h2 Lb t2=> ?_
  have IH:=N0.trans Lb
  have hB:∀b o,g.B.get? b=some o->(s.heap.get? b).isSome=true:=λ b o e=>by refine aa (st.base b o e) ?_;rfl
  have Fh:St g.pl g.w.params g.B W (env::fr) φ2 M2 {s1 with heap:=h2}:=Ez.Fa hB IH
  have GZ:=ER.Fa Ez IH
  refine wpAny_handleBy_cons (codeAny_handlers_test ?_) (by intro q;cases q)
  refine dU (s:={s1 with heap:=h2}) fx hN GZ Fh (bQ hg).1 (bQ hg).2 hv ?_
  have NM:=t2
  obtain⟨oe,vs,a0,T,oT,ts,Om,On,hxd,_⟩:=NM
  refine sW (s:={s1 with heap:=h2}) (fx.KS Fh) ek.ex Om (On.trans Gl) ?_
  refine aa (if_pos rfl) ?_
  refine codeAny_handlers_suite (iA (fr:=env::fr) (s:={s1 with heap:=h2}) (f:=none) t2 λ h3 Kx t3=> ?_)
  have IG:=IH.trans Kx
  have F4:St g.pl g.w.params g.B W (env::fr) φ2 M2 {s1 with heap:=h3}:=Ez.Fa hB IG
  have HN:=ER.Fa Ez IG
  have FO:av bt φ M s φ2 M2 {s1 with heap:=h3}:=Ey.Fa Ez IG
  refine RX (YD (Rr (fF (x:=.none) (s:={s1 with heap:=h3}) HN F4 Jd.1 (nB hN Jd.2) rfl λ s5 IA Hd He=> ?_)))
  exact RJ ⟨_,φ2,M2,q,IA,Hd,FO.wide.trans (He.mono λ b q zz=>bu.EO q)⟩
end
end Mine
end
section
namespace Mine
open PySem PySem.W PySem.Calls PyProof.Rows PySem.SeqAt
noncomputable abbrev ou(tup:Bool)(xs:List PJ)(n:Nat):Obj:=if tup then iI xs n else bb xs n
noncomputable def eK(tup:Bool)(h:QG)(it ax:P3)(i:Nat):Prop:=if tup then h.IsTupleIter it ax i else h.IsListIter it ax i
theorem eK.at'(x:eK tup h it ax i)(e:∀o,h.get? it=some o->h'.get? it=some o):eK tup h' it ax i:=by
 cases tup<;>(refine ai x λ o ho r=> ?_;clear x;exact aA o (e o ho) r)
theorem eK.cls(x:eK tup h it ax i):∃o,h.get? it=some o/\o.cls≠.type "frame" :=by
 cases tup<;>(refine bz x λ o ho c r=> ?_;clear x;exact aA o ho (by refine aa c ?_;simp))
section
variable{g:Gs}{A:Qx}{E0:PJ->PK->Prop}{s:PK}
theorem iM(hit:eK tup s.heap it ax i)(hl:s.heap.get? ax=some (ou tup xs n))(hx:xs[i]? =some x)
  (hQ:∀h',eK tup h' it ax (i+1)->Qp it s.heap h'->Q x {s with heap:=h'}):PR (PW g.prog g.w) A (Qm (.ref it)) Q E0 s:=by
 cases tup with
 |false=>exact wpAny_nextOf_list_item hit ⟨_,hl,rfl,_,rfl⟩ (by simpa using hx) hQ
 |true=>
  have E6:s.heap.IsTupleIter it ax i:=hit
  refine bz (id E6) λ o ho hc hd=> ?_
  have Ll:xs.toArray[i]? =some x:=by simpa using hx
  unfold Qm
  refine Py (Rs (name:=PD "__next__") E6.typeIs Rd
   (QW Rd E6.typeIs Ua ?_ (TW _)))
  show PR _ _ (Ys (.ref it) 0>>=_) _ _ s
  refine Py (Qv ho hd (x:=.ref ax) rfl ?_)
  show PR _ _ (if(QJ ax==Qg)=true then _ else _) _ _ s
  refine aa (if_neg (show¬((QJ ax==Qg)=true) from SV)) ?_
  show PR _ _ (Ys (.ref it) 1>>=_) _ _ s
  refine Py (Qv ho hd (x:=.int i 0) rfl ?_)
  show PR _ _ (Xs (.ref ax)>>=_) _ _ s
  refine Py (Rj hl rfl ?_)
  simp only [PF,Ll]
  refine Py (Sy ho hd (by simp) (PB ⟨x,rfl,PB (hQ _ ?_ (Qy ..))⟩))
  exact gq _ (P5 _ ho (Obj.isFreed_of_fields (Rt hd _))) ((XE ..).trans hc) (by
   (first|refine aa (Rt hd) ?_|refine aa ((Rt hd) _) ?_);simp[Sg])
theorem nw(hh:A.handled=none)(hit:eK tup s.heap it ax i)(hl:s.heap.get? ax=some (ou tup xs n))(hx:xs[i]? =none)
  (hE:∀h' e,Heap.ExtBut it s.heap h'->(∃o,h'.get? e=some o/\o.cls=.type "StopIteration")->E0 (.ref e) {s with heap:=h'}):PR (PW g.prog g.w) A (Qm (.ref it)) Q E0 s:=by
 cases tup with
 |false=>exact wpAny_nextOf_list_end hh hit ⟨_,hl,rfl,_,rfl⟩ (by simpa using hx) hE
 |true=>
  have E6:s.heap.IsTupleIter it ax i:=hit
  refine bz (id E6) λ o ho hc hd=> ?_
  have Ll:xs.toArray[i]? =none:=by simpa using hx
  unfold Qm
  refine Py (Rs (name:=PD "__next__") E6.typeIs Rd
   (QW Rd E6.typeIs Ua ?_ (TW _)))
  show PR _ _ (Ys (.ref it) 0>>=_) _ _ s
  refine Py (Qv ho hd (x:=.ref ax) rfl ?_)
  show PR _ _ (if(QJ ax==Qg)=true then _ else _) _ _ s
  refine aa (if_neg (show¬((QJ ax==Qg)=true) from SV)) ?_
  show PR _ _ (Ys (.ref it) 1>>=_) _ _ s
  refine Py (Qv ho hd (x:=.int i 0) rfl ?_)
  show PR _ _ (Xs (.ref ax)>>=_) _ _ s
  refine Py (Rj hl rfl ?_)
  simp only [PF,Ll]
  refine Py (TC (Py (Sy ho hd (by simp) ?_)))
  show PR _ _ (newExc (.type "StopIteration") []>>=_) _ _ _
  refine Py ?_
  simp only [newExc,newTuple]
  refine Py (Vx ?_ (by size_fits))
  refine Py (m:=firstArgMember _ _) (Rq (a:=Qg) (by first|rfl|(simp only [firstArgMember];rfl)) ?_)
  refine Vx ?_ (by size_fits)
  simp only [raiseNew]
  refine Py (wpAny_handled ?_)
  first|refine aa (show A.in1.handled=none from hh) ?_|rw[hh]
  refine Py (PB (wpAny_throw ?_))
  exact hE _ _ (((Qy ..).extBut.push _).push _) ⟨_,PM _ rfl,rfl⟩
theorem xb(hs:Qp a h h')(c:Nat)(hc:c≠a)(e:h.get? c=some o):h'.get? c=some o:=hs.extBut c o hc e
structure iF(t1 t2:Bool)(b l1 l2:Nat)(xs ys:List PJ)(i:Nat)(f0:PJ)(h:QG):Prop where
 z:WY h (b+4) (b+2) (b+3) f0
 ti:U6 h (b+2) (.ref b) (.ref (b+1))
 to:∃a c,U6 h (b+3) a c
 i1:eK t1 h b l1 i
 i2:eK t2 h (b+1) l2 i
 g1:∃n,h.get? l1=some (ou t1 xs n)
 g2:∃n,h.get? l2=some (ou t2 ys n)
 b1:l1<b
 b2:l2<b
noncomputable def eL(b c:Nat):Prop:=c=b∨c=b+1∨c=b+2∨c=b+3∨c=b+4
theorem xy(Z:iF t1 t2 b l1 l2 xs ys i .none s.heap)(hx:xs[i]? =some x)(hy:ys[i]? =some y)
  (hQ:∀h',iF t1 t2 b l1 l2 xs ys (i+1) (Sg s.heap.objs.size) h'->U6 h' s.heap.objs.size x y->(∀(c:Nat) o,s.heap.get? c=some o->¬eL b c->h'.get? c=some o)->Q (some (.ref s.heap.objs.size)) {s with heap:=h'}):
  PR (PW g.prog g.w) A (WM (.ref (b+4))) Q E0 s:=by
 obtain⟨hz,Iv,⟨a,c,I4⟩,h1,h2,⟨n1,Hu⟩,⟨n2,Gk⟩,b1,b2⟩:=Z
 have hT:s.TypeIs (.ref (b+4)) "zip" :=⟨_,hz,rfl⟩
 unfold WM
 refine Py (wpAny_attempt (Rs (name:=PD "__next__") hT Sa
  (QW Sa hT VO ?_ (VA _))))
 show PR _ _ (Ys (.ref (b+4)) 2>>=_) _ _ _
 refine Py (Qv hz rfl (x:=.bool false) rfl ?_)
 show PR _ _ (Ys (.ref (b+4)) 3>>=_) _ _ _
 refine Py (Qv hz rfl (x:=.ref (b+2)) rfl ?_)
 refine Py (Rj Iv rfl ?_)
 show PR _ _ (QP (.ref (b+4))>>=_) _ _ _
 refine Py ?_
 unfold QP
 refine Py (Qv hz rfl (x:=.none) rfl (PB ?_))
 simp only [if_true]
 refine Py (TC ?_)
 refine Py (Qv hz rfl (x:=.ref (b+3)) rfl ?_)
 refine Py (RB hz (by simp) λ k₁ Ig GU=> ?_)
 replace Ig:WY k₁ (b+4) (b+2) (b+3) .ellipsis:=Ig
 refine Py ?_
 simp only [XG,XO,Q3,RL]
 have e1:∀(c:Nat) o,c≠b+4->s.heap.get? c=some o->k₁.get? c=some o:=λ c o hc e=>GU.extBut c o hc e
 refine Py (Py (Va ?_))
 show PR _ _ (Qm (.ref b)>>=_) _ _ _
 refine Py (iM (s:={s with heap:=k₁}) (h1.at' λ o e=>e1 b o (ae 0x980306445101 rfl b) e) (e1 l1 _ (ae 0x92600c191244249102 rfl l1 b b1) Hu) hx λ k₂ NA Hq=>PB ?_)
 have e2:∀(c:Nat) o,c≠b+4->c≠b->s.heap.get? c=some o->k₂.get? c=some o:=λ c o h4 h0 e=>Hq.extBut c o h0 (e1 c o h4 e)
 have HA:U6 k₂ (b+3) a c:=e2 _ _ (ae 0x98030644418d101 rfl b) (ae 0x98034418d101 rfl b) I4
 refine Py (Rj HA rfl ?_)
 refine Py (UE HA λ k₃ H9 HJ=> ?_)
 replace H9:U6 k₃ (b+3) x c:=H9
 have e3:∀(c:Nat) o,c≠b+4->c≠b->c≠b+3->s.heap.get? c=some o->k₃.get? c=some o:=λ c o h4 h0 h3 e=>HJ.extBut c o h3 (e2 c o h4 h0 e)
 refine Py (Wf (PB ?_))
 refine Py (Py (Va ?_))
 show PR _ _ (Qm (.ref (b+1))>>=_) _ _ _
 refine Py (iM (s:={s with heap:=k₃}) (h2.at' λ o e=>e3 (b+1) o (ae 0x980306444185101 rfl b) (ae 0x980344185101 rfl b) (ae 0x980306344185101 rfl b) e) (e3 l2 _ (ae 0x92600c191244249102 rfl l2 b b2) (ae 0x92600d244249102 rfl l2 b b2) (ae 0x92600c18d244249102 rfl l2 b b2) Gk) hy λ k₄ O5 Ii=>PB ?_)
 have e4:∀(c:Nat) o,c≠b+4->c≠b->c≠b+3->c≠b+1->s.heap.get? c=some o->k₄.get? c=some o:=λ c o h4 h0 h3 h1 e=>Ii.extBut c o h1 (e3 c o h4 h0 h3 e)
 have J3:U6 k₄ (b+3) x c:=xb Ii _ (ae 0x98030614418d101 rfl b) H9
 refine Py (Rj J3 rfl ?_)
 refine Py (UE J3 λ k₅ H8 Ih=> ?_)
 replace H8:U6 k₅ (b+3) x y:=H8
 refine Py (Wf (PB (PB ?_)))
 refine Py (Rj H8 rfl ?_)
 refine Py (wpAny_newTuple ?_)
 have Fc:k₅.objs.size=s.heap.objs.size:=by refine aa Ih.1 ?_;refine aa Ii.1 ?_;refine aa HJ.1 ?_;refine aa Hq.1 ?_;refine aa GU.1 ?_;rfl
 have MO:WY k₅ (b+4) (b+2) (b+3) .ellipsis:=xb Ih _ (ae 0x980306344191101 rfl b) (xb Ii _ (ae 0x980306144191101 rfl b) (xb HJ _ (ae 0x980306344191101 rfl b) (xb Hq _ (ae 0x980344191101 rfl b) Ig)))
 have e5:∀(c:Nat) o,c≠b+4->c≠b->c≠b+3->c≠b+1->s.heap.get? c=some o->k₅.get? c=some o:=λ c o h4 h0 h3 h1 e=>Ih.extBut c o h3 (e4 c o h4 h0 h3 h1 e)
 have O8:eK t1 k₅ b l1 (i+1):=NA.at' λ o e=>xb Ih _ (ae 0x980306345101 rfl b) (xb Ii _ (ae 0x980306145101 rfl b) (xb HJ _ (ae 0x980306345101 rfl b) e))
 have O4:eK t2 k₅ (b+1) l2 (i+1):=O5.at' λ o e=>xb Ih _ (ae 0x980306344185101 rfl b) e
 have JC:b+4<k₅.objs.size:=P9 MO
 show PR _ _ (SQ (.ref (b+4)) (.ref k₅.objs.size)>>=_) _ _ _
 refine Py ?_
 unfold SQ
 have Ok:WY (k₅.push {cls:=.type "tuple",data:=.seq #[x,y]}) (b+4) (b+2) (b+3) .ellipsis:=PA _ MO
 refine Py (RB Ok (by simp) λ k₇ Lk MY=> ?_)
 replace Lk:WY k₇ (b+4) (b+2) (b+3) (Sg k₅.objs.size):=Lk
 refine RB Lk (by simp) λ k₈ Ky MW=> ?_
 replace Ky:WY k₈ (b+4) (b+2) (b+3) (Sg k₅.objs.size):=Ky
 have up:∀(c:Nat) o,c≠b+4->k₅.get? c=some o->k₈.get? c=some o:=λ c o c1 e=>MW.extBut _ _ c1 (MY.extBut _ _ c1 (PA _ e))
 have Nr:U6 k₈ k₅.objs.size x y:=MW.extBut _ _ (Sq JC) (MY.extBut _ _ (Sq JC) (PM _ rfl))
 rw[Fc] at Ky Nr
 refine PB ⟨_,rfl,PB ?_⟩
 show Q (some (.ref k₅.objs.size)) _
 refine aa Fc ?_
 refine hQ k₈ ⟨Ky,up _ _ (ae 0x980306444189101 rfl b) (e5 _ _ (ae 0x980306444189101 rfl b) (ae 0x980344189101 rfl b) (ae 0x980306344189101 rfl b) (ae 0x980306144189101 rfl b) Iv),⟨x,y,up _ _ (ae 0x98030644418d101 rfl b) H8⟩,O8.at' λ o e=>up _ o (ae 0x980306445101 rfl b) e,O4.at' λ o e=>up _ o (ae 0x980306444185101 rfl b) e,
  ⟨n1,up _ _ (ae 0x92600c191244249102 rfl l1 b b1) (e5 _ _ (ae 0x92600c191244249102 rfl l1 b b1) (ae 0x92600d244249102 rfl l1 b b1) (ae 0x92600c18d244249102 rfl l1 b b1) (ae 0x92600c185244249102 rfl l1 b b1) Hu)⟩,⟨n2,up _ _ (ae 0x92600c191244249102 rfl l2 b b2) (e5 _ _ (ae 0x92600c191244249102 rfl l2 b b2) (ae 0x92600d244249102 rfl l2 b b2) (ae 0x92600c18d244249102 rfl l2 b b2) (ae 0x92600c185244249102 rfl l2 b b2) Gk)⟩,b1,b2⟩ Nr λ(c:Nat) o e nz=> ?_
 unfold eL at nz
 exact up c o (ae 0x92600c19124498082082030644910c18d24430624910c185244349102 rfl c b nz) (e5 c o (ae 0x92600c19124498082082030644910c18d24430624910c185244349102 rfl c b nz) (ae 0x92600d24498082082030644910c18d24430624910c185244349102 rfl c b nz) (ae 0x92600c18d24498082082030644910c18d24430624910c185244349102 rfl c b nz) (ae 0x92600c18524498082082030644910c18d24430624910c185244349102 rfl c b nz) e)
theorem zT(hh:A.handled=none)(Z:iF t1 t2 b l1 l2 xs ys i .none s.heap)(hend:xs[i]? =none∨ys[i]? =none)
  (hQ:∀h',(∀(c:Nat) o,s.heap.get? c=some o->¬eL b c->h'.get? c=some o)->Q none {s with heap:=h'}):PR (PW g.prog g.w) A (WM (.ref (b+4))) Q E0 s:=by
 obtain⟨hz,Iv,⟨a,c,I4⟩,h1,h2,⟨n1,Hu⟩,⟨n2,Gk⟩,b1,b2⟩:=Z
 have hT:s.TypeIs (.ref (b+4)) "zip" :=⟨_,hz,rfl⟩
 have stop:∀(e:P3) (h':QG),(∃o,h'.get? e=some o/\o.cls=.type "StopIteration")->(∀(c:Nat) o,s.heap.get? c=some o->¬eL b c->h'.get? c=some o)->PR (PW g.prog g.w) A (do if<-SY (.ref e) (.type "StopIteration") then pure none else throw (QJ e)) Q E0 {s with heap:=h'}:=λ e h' ⟨o,ho,hc⟩ hk=>by
  refine Py (wpAny_isInstance (T:= "StopIteration") (b:=true) ⟨o,ho,hc⟩ isSubtype_stop ?_)
  exact PB (hQ _ hk)
 unfold WM
 refine Py (wpAny_attempt (Rs (name:=PD "__next__") hT Sa
  (QW Sa hT VO ?_ (VA _))))
 show PR _ _ (Ys (.ref (b+4)) 2>>=_) _ _ _
 refine Py (Qv hz rfl (x:=.bool false) rfl ?_)
 show PR _ _ (Ys (.ref (b+4)) 3>>=_) _ _ _
 refine Py (Qv hz rfl (x:=.ref (b+2)) rfl ?_)
 refine Py (Rj Iv rfl ?_)
 show PR _ _ (QP (.ref (b+4))>>=_) _ _ _
 refine Py ?_
 unfold QP
 refine Py (Qv hz rfl (x:=.none) rfl (PB ?_))
 simp only [if_true]
 refine Py (TC ?_)
 refine Py (Qv hz rfl (x:=.ref (b+3)) rfl ?_)
 refine Py (RB hz (by simp) λ k₁ Ig GU=> ?_)
 replace Ig:WY k₁ (b+4) (b+2) (b+3) .ellipsis:=Ig
 refine Py ?_
 simp only [XG,XO,Q3,RL]
 have e1:∀(c:Nat) o,c≠b+4->s.heap.get? c=some o->k₁.get? c=some o:=λ c o hc e=>GU.extBut c o hc e
 refine Py (Py (Va ?_))
 show PR _ _ (Qm (.ref b)>>=_) _ _ _
 cases hx:xs[i]? with
 |none=>
  refine Py (nw (s:={s with heap:=k₁}) hh (h1.at' λ o e=>e1 b o (ae 0x980306445101 rfl b) e) (e1 l1 _ (ae 0x92600c191244249102 rfl l1 b b1) Hu) hx λ k₂ e Hq he=> ?_)
  refine ai he λ oe IU I1=> ?_;clear he
  have MQ:WY k₂ (b+4) (b+2) (b+3) .ellipsis:=Hq _ _ (show(b+4:Nat)≠b by exact ae 0x980344191101 rfl b) Ig
  have LH:e≠b+4:=λ q=>by rw[q,MQ] at IU;cases IU;simp at I1
  refine RB MQ (by simp) λ k₃ zz HJ=>stop e k₃ ⟨oe,HJ.extBut _ _ LH IU,I1⟩ λ c o ec nz=> ?_
  unfold eL at nz
  exact HJ.extBut c o (show(c:Nat)≠b+4 by exact ae 0x92600c19124498082082030644910c18d24430624910c185244349102 rfl c b nz) (Hq c o (show(c:Nat)≠b by exact ae 0x92600d24498082082030644910c18d24430624910c185244349102 rfl c b nz) (e1 c o (by exact ae 0x92600c19124498082082030644910c18d24430624910c185244349102 rfl c b nz) ec))
 |some x=>
  have hy:ys[i]? =none:=by rcases hend with h|h;rw[hx] at h;cases h;exact h
  refine Py (iM (s:={s with heap:=k₁}) (h1.at' λ o e=>e1 b o (ae 0x980306445101 rfl b) e) (e1 l1 _ (ae 0x92600c191244249102 rfl l1 b b1) Hu) hx λ k₂ NA Hq=>PB ?_)
  have e2:∀(c:Nat) o,c≠b+4->c≠b->s.heap.get? c=some o->k₂.get? c=some o:=λ c o h4 h0 e=>Hq.extBut c o h0 (e1 c o h4 e)
  have HA:U6 k₂ (b+3) a c:=e2 _ _ (ae 0x98030644418d101 rfl b) (ae 0x98034418d101 rfl b) I4
  refine Py (Rj HA rfl ?_)
  refine Py (UE HA λ k₃ H9 HJ=> ?_)
  have e3:∀(c:Nat) o,c≠b+4->c≠b->c≠b+3->s.heap.get? c=some o->k₃.get? c=some o:=λ c o h4 h0 h3 e=>HJ.extBut c o h3 (e2 c o h4 h0 e)
  refine Py (Wf (PB ?_))
  refine Py (Py (Va ?_))
  show PR _ _ (Qm (.ref (b+1))>>=_) _ _ _
  refine Py (nw (s:={s with heap:=k₃}) hh (h2.at' λ o e=>e3 (b+1) o (ae 0x980306444185101 rfl b) (ae 0x980344185101 rfl b) (ae 0x980306344185101 rfl b) e) (e3 l2 _ (ae 0x92600c191244249102 rfl l2 b b2) (ae 0x92600d244249102 rfl l2 b b2) (ae 0x92600c18d244249102 rfl l2 b b2) Gk) hy λ k₄ e Ii he=> ?_)
  refine ai he λ oe IU I1=> ?_;clear he
  have Ol:WY k₃ (b+4) (b+2) (b+3) .ellipsis:=xb HJ _ (ae 0x980306344191101 rfl b) (xb Hq _ (ae 0x980344191101 rfl b) Ig)
  have MP:WY k₄ (b+4) (b+2) (b+3) .ellipsis:=Ii _ _ (show(b+4:Nat)≠b+1 by exact ae 0x980306144191101 rfl b) Ol
  have LH:e≠b+4:=λ q=>by rw[q,MP] at IU;cases IU;simp at I1
  refine RB MP (by simp) λ k₅ zz Ih=>stop e k₅ ⟨oe,Ih.extBut _ _ LH IU,I1⟩ λ c o ec nz=> ?_
  unfold eL at nz
  exact Ih.extBut c o (show(c:Nat)≠b+4 by exact ae 0x92600c19124498082082030644910c18d24430624910c185244349102 rfl c b nz) (Ii c o (show(c:Nat)≠b+1 by exact ae 0x92600c18524498082082030644910c18d24430624910c185244349102 rfl c b nz) (e3 c o (by exact ae 0x92600c19124498082082030644910c18d24430624910c185244349102 rfl c b nz) (by exact ae 0x92600d24498082082030644910c18d24430624910c185244349102 rfl c b nz) (by exact ae 0x92600c18d24498082082030644910c18d24430624910c185244349102 rfl c b nz) ec))
inductive Cj(g:Gs)(t1 t2:Bool)(b l1 l2:Nat)(us ws:List PJ)(W:P3->Prop)(φ:az)(M:AH)(h:QG)(xs:List V):Prop
 |mk (i:Nat) (ys zs:List V):iF t1 t2 b l1 l2 us ws i .none h->¬ow W φ M l1->¬ow W φ M l2->am g.pl g.w.params φ (ow W φ M) h ys (us.drop i)->am g.pl g.w.params φ (ow W φ M) h zs (ws.drop i)->xs=nY ys zs->Cj g t1 t2 b l1 l2 us ws W φ M h xs
theorem iF.keep(Z:iF t1 t2 b l1 l2 xs ys i f0 h)(hZ:∀c o,eL b c->h.get? c=some o->bZ o (h'.get? c))(Hu:∀o,h.get? l1=some o->h'.get? l1=some o)(Gk:∀o,h.get? l2=some o->h'.get? l2=some o):iF t1 t2 b l1 l2 xs ys i f0 h':=by
 obtain⟨hz,Iv,⟨a,c,I4⟩,h1,h2,⟨n1,g1⟩,⟨n2,g2⟩,b1,b2⟩:=Z
 refine⟨(hZ _ _ (.inr (.inr (.inr (.inr rfl)))) hz).eq (by simp),(hZ _ _ (.inr (.inr (.inl rfl))) Iv).eq (by simp),⟨a,c,(hZ _ _ (.inr (.inr (.inr (.inl rfl)))) I4).eq (by simp)⟩,?_,?_,⟨n1,Hu _ g1⟩,⟨n2,Gk _ g2⟩,b1,b2⟩
 ·refine ai h1.cls λ o e c=> ?_
  exact h1.at' λ o' e'=>by rw[e] at e';cases e';exact(hZ _ _ (.inl rfl) e).eq c
 ·refine ai h2.cls λ o e c=> ?_
  exact h2.at' λ o' e'=>by rw[e] at e';cases e';exact(hZ _ _ (.inr (.inl rfl)) e).eq c
theorem tq(k:b7 (ou t xs n) x):x=some (ou t xs n):=k.eq (by cases t;exact .list;exact .tup)
theorem ie.zip:ie g A (b+4) (eL b) ll (Cj g t1 t2 b l1 l2 us ws) where
 mono:=by
  rintro W W' φ φ' M M' h h' xs hp hk ho hI ⟨i,ys,zs,Z,n1,n2,r1,r2,e⟩
  obtain⟨m1,g1⟩:=Z.g1
  obtain⟨m2,g2⟩:=Z.g2
  exact⟨i,ys,zs,Z.keep (λ c o z=>hI c o z) (λ o q=>by rw[g1] at q;cases q;exact tq (hk _ _ g1 n1)) (λ o q=>by rw[g2] at q;cases q;exact tq (hk _ _ g2 n2)),
   λ q=>(ho _ q).elim n1 (dK g1),λ q=>(ho _ q).elim n2 (dK g2),r1.mono hp hk ho,r2.mono hp hk ho,e⟩
 next:=by
  rintro W fr φ M s x xs E target Q hZ hF ht st ⟨i,ys,zs,Z,n1,n2,r1,r2,e⟩ k
  cases ys with
  |nil=>cases e
  |cons y ys=>
   cases zs with
   |nil=>cases e
   |cons z zs=>
    cases e
    refine bz r1.Fy λ u hu ru Kr=> ?_
    refine bz r2.Fy λ w hw NT rws=> ?_
    refine xy Z hu hw λ h' Z' hT hk=>⟨_,rfl,?_⟩
    cases target<;>first|exact ht.elim|skip
    refine wpAny_letOwnedTupleGo_zip Z'.z λ h2 HY FZ=> ?_
    have OY:(s.heap.objs.size:Nat)≠b+4:=by have:b+4<s.heap.objs.size:=P9 Z.z;exact ae 0x92600c191148248191102 rfl b s.heap.objs.size this
    have Ji:∀c o,s.heap.get? c=some o->¬eL b c->h2.get? c=some o:=λ c o e nz=>FZ.extBut c o (λ q=>nz (.inr (.inr (.inr (.inr q))))) (hk c o e nz)
    have FY:iF t1 t2 b l1 l2 us ws (i+1) .none h2:=by
     obtain⟨hz,Iv,⟨a,c,I4⟩,h1,Mc,⟨m1,g1⟩,⟨m2,g2⟩,b1,b2⟩:=Z'
     refine⟨HY,xb FZ _ (ae 0x980306444189101 rfl b) Iv,⟨a,c,xb FZ _ (ae 0x98030644418d101 rfl b) I4⟩,h1.at' λ o e=>xb FZ _ (ae 0x980306445101 rfl b) e,Mc.at' λ o e=>xb FZ _ (ae 0x980306444185101 rfl b) e,⟨m1,xb FZ _ (ae 0x92600c191244249102 rfl l1 b b1) g1⟩,⟨m2,xb FZ _ (ae 0x92600c191244249102 rfl l2 b b2) g2⟩,b1,b2⟩
    have alive:∀c o,s.heap.get? c=some o->∃o',h2.get? c=some o':=λ c o e=>by
     by_cases q:eL b c
     ·rcases q with q|q|q|q|q<;>subst q
      ·refine ai FY.i1.cls λ o e zz=> ?_;exact⟨o,e⟩
      ·refine ai FY.i2.cls λ o e zz=> ?_;exact⟨o,e⟩
      ·exact⟨_,FY.ti⟩
      ·obtain⟨a,c,e⟩:=FY.to;exact⟨_,e⟩
      ·exact⟨_,FY.z⟩
     ·exact⟨o,Ji c o e q⟩
    have Ff:∀c o,s.heap.get? c=some o->¬ow W φ M c->b7 o (h2.get? c):=λ c o e nb=>.inl (Ji c o e λ q=>nb (.inl (hZ c q)))
    refine k _ _ (st.touched (Z:=eL b) (s':={s with heap:=h2}) Ji hZ alive hF) (.touched Ji alive rfl rfl) ?_ ⟨i+1,ys,zs,FY,n1,n2,Kr.mono (Pz _) Ff λ b q=>.inl q,rws.mono (Pz _) Ff λ b q=>.inl q,rfl⟩
    refine VR.t ?_
    refine⟨_,[u,w],0,rfl,λ q=>Rn _ (st.IE q),xb FZ _ OY hT,(show(2:Nat)<=aq by decide),?_⟩
    refine am.c ?_
    refine⟨u,[w],rfl,ru.mono (Pz _) Ff λ b q=>.inl q,?_⟩
    refine am.c ?_
    exact⟨w,[],rfl,NT.mono (Pz _) Ff λ b q=>.inl q,rfl⟩
 done:=by
  rintro W φ M s E Q hh ⟨i,ys,zs,Z,n1,n2,r1,r2,e⟩ k
  refine zT hh Z ?_ λ h' hk=>k h' s.toks λ c o e nz=>hk c o e nz
  cases ys with
  |nil=>exact .inl r1.FJ
  |cons y ys=>
   cases zs with
   |nil=>exact .inr r2.FJ
   |cons z zs=>cases e
 again:=by
  rintro W φ M s xs E Q ⟨i,ys,zs,Z,_⟩ k
  exact wpAny_pyIter_zip Z.z k
end
noncomputable abbrev zA(h:QG)(l1:P3):QG:=h.push {cls:=.type "tuple_iterator",data:=.fields #[.ref l1,.int 0 0]}
noncomputable abbrev zB(h:QG)(l1 l2:P3):QG:=(zA h l1).push {cls:=.type "list_iterator",data:=.fields #[.ref l2,.int 0 0]}
noncomputable abbrev zC(h:QG)(l1 l2:P3):QG:=(zB h l1 l2).push {cls:=.type "tuple",data:=.seq #[.ref h.objs.size,.ref (zA h l1).objs.size]}
noncomputable abbrev zD(h:QG)(l1 l2:P3):QG:=(zC h l1 l2).push {cls:=.type "tuple",data:=.seq #[.none,.none]}
noncomputable abbrev zE(h:QG)(l1 l2:P3):QG:=(zD h l1 l2).push {cls:=.type "zip",data:=.fields #[.none,.bool false,.bool false,.ref (zB h l1 l2).objs.size,.ref (zC h l1 l2).objs.size]}
theorem wB(l1 l2:P3)(xs ys:Array PJ):
  Meets (Builtin.«zip.__new__» ⟨[.type "zip",.ref l1,.ref l2],[]⟩) (λ zz R s=>s.heap.IsTuple l1 xs/\s.heap.IsList l2 ys/\R (.ok (.ret (.ref (zD s.heap l1 l2).objs.size))) {s with heap:=zE s.heap l1 l2}):=
 .of_wp λ prog w A R s h=>by
  obtain⟨hp,g,d,tk,os⟩:=s;rename type_of% h=>oqe;refine ei oqe λ Hu Gk h=> ?_;clear oqe
  have H0:=sub_zip
  have O1:Heap.IsTuple (Yh ⟨hp,g,d,tk,os⟩) l1 xs:=Hu
  have Ma:Heap.IsList (Yh ⟨hp.push {cls:=.type "tuple_iterator",data:=.fields #[.ref l1,.int 0 0]},g,d,tk,os⟩) l2 ys:=Heap.IsList.push Gk _
  wp_walk using Ye O1,Vv Ma
  exact aA _ rfl h
section
variable{g:Gs}{tb:Tb}{K:RH}{Γ:aH}{N:Nm}{n:Nat}{W:P3->Prop}{A:Qx}{fr:List Env}{env:Env}{ρ:an}{φ φ0:az}{M M0:AH}{s s0:PK}{E0:PJ->PK->Prop}
theorem yP(Hu:s.heap.IsTuple l1 xs)(Gk:s.heap.IsList l2 ys)
  (h:∀h',WY h' (s.heap.objs.size+4) (s.heap.objs.size+2) (s.heap.objs.size+3) .none->U6 h' (s.heap.objs.size+2) (.ref s.heap.objs.size) (.ref (s.heap.objs.size+1))->
   U6 h' (s.heap.objs.size+3) .none .none->h'.IsTupleIter s.heap.objs.size l1 0->h'.IsListIter (s.heap.objs.size+1) l2 0->
   (∀c o,s.heap.get? c=some o->h'.get? c=some o)->Q (.ref (s.heap.objs.size+4)) {s with heap:=h'}):
  PR (PW g.prog g.w) A (call (.type "zip") [.ref l1,.ref l2]) Q E0 s:=by
 refine callType_new PySem.F.called_zip (by decide) (PySem.F.typeCall_zip_2 _ _) (PySem.F.newCall_zip_2 _ _) (λ obj=>PySem.F.args_object_init_3 obj _ _) PySem.F.entry_zip_new (wB l1 l2 xs ys) ⟨Hu,Gk,?_⟩
 show _/\_
 unfold zE zD zC zB zA
 generalize JW:s.heap.push {cls:=.type "tuple_iterator",data:=.fields #[.ref l1,.int 0 0]}=k1
 generalize FF:k1.push {cls:=.type "list_iterator",data:=.fields #[.ref l2,.int 0 0]}=k2
 have z1:k1.objs.size=s.heap.objs.size+1:=by refine aE JW ?_;exact Qb ..
 have z2:k2.objs.size=s.heap.objs.size+2:=by refine aE FF ?_;refine aa (Qb _ _) ?_;refine aa z1 ?_;rfl
 refine aa z1 ?_;refine aa z2 ?_
 generalize IX:k2.push {cls:=.type "tuple",data:=.seq #[.ref s.heap.objs.size,.ref (s.heap.objs.size+1)]}=k3
 have z3:k3.objs.size=s.heap.objs.size+3:=by refine aE IX ?_;refine aa (Qb _ _) ?_;refine aa z2 ?_;rfl
 refine aa z3 ?_
 generalize H4:k3.push {cls:=.type "tuple",data:=.seq #[.none,.none]}=k4
 have z4:k4.objs.size=s.heap.objs.size+4:=by refine aE H4 ?_;refine aa (Qb _ _) ?_;refine aa z3 ?_;rfl
 refine aa z4 ?_
 generalize H3:k4.push {cls:=.type "zip",data:=.fields #[.none,.bool false,.bool false,.ref (s.heap.objs.size+2),.ref (s.heap.objs.size+3)]}=k5
 have p1:∀c o,s.heap.get? c=some o->k1.get? c=some o:=λ c o e=>by refine aE JW ?_;exact PA _ e
 have p2:∀c o,k1.get? c=some o->k2.get? c=some o:=λ c o e=>by refine aE FF ?_;exact PA _ e
 have p3:∀c o,k2.get? c=some o->k3.get? c=some o:=λ c o e=>by refine aE IX ?_;exact PA _ e
 have p4:∀c o,k3.get? c=some o->k4.get? c=some o:=λ c o e=>by refine aE H4 ?_;exact PA _ e
 have p5:∀c o,k4.get? c=some o->k5.get? c=some o:=λ c o e=>by refine aE H3 ?_;exact PA _ e
 have g1:k1.get? s.heap.objs.size=some {cls:=.type "tuple_iterator",data:=.fields #[.ref l1,.int 0 0]}:=by refine aE JW ?_;exact PM _ rfl
 have g2:k2.get? (s.heap.objs.size+1)=some {cls:=.type "list_iterator",data:=.fields #[.ref l2,.int 0 0]}:=by refine aE z1 ?_;refine aE FF ?_;exact PM _ rfl
 have g3:k3.get? (s.heap.objs.size+2)=some {cls:=.type "tuple",data:=.seq #[.ref s.heap.objs.size,.ref (s.heap.objs.size+1)]}:=by refine aE z2 ?_;refine aE IX ?_;exact PM _ rfl
 have g4:k4.get? (s.heap.objs.size+3)=some {cls:=.type "tuple",data:=.seq #[.none,.none]}:=by refine aE z3 ?_;refine aE H4 ?_;exact PM _ rfl
 have g5:k5.get? (s.heap.objs.size+4)=some {cls:=.type "zip",data:=.fields #[.none,.bool false,.bool false,.ref (s.heap.objs.size+2),.ref (s.heap.objs.size+3)]}:=by refine aE z4 ?_;refine aE H3 ?_;exact PM _ rfl
 exact⟨⟨_,g5,rfl⟩,h k5 g5 (p5 _ _ (p4 _ _ g3)) (p5 _ _ g4) ⟨_,p5 _ _ (p4 _ _ (p3 _ _ (p2 _ _ g1))),rfl,rfl⟩ ⟨_,p5 _ _ (p4 _ _ (p3 _ _ g2)),rfl,rfl⟩ λ c o e=>p5 _ _ (p4 _ _ (p3 _ _ (p2 _ _ (p1 c o e))))⟩
theorem fv.zip(fx:Fx g tb K){a b:E}{xa xb:P8}{x:Str}{p pos:Pos}(ha:aj g Γ N n a xa)(hb:aj g Γ N n b xb)(na:aw xa=true)(nb:aw xb=true)(hbi:dG N x (.type "zip")=true):fv g Γ N n (.zip a b) (.Call (.Name x p) [xa,xb] [] pos) ll:=by
 intro W A fr env ρ φ M s Q X E0 hA hN er st hw hE
 refine gM fx hN er st (cE hbi).1 (cE hbi).2 (n6 na nb) (zc (Q1:=λ x y M2=>aB (nQ x) λ xs=>aB (lw y) λ ys=>Q (nY xs ys) M2) ha hb na nb hA hN er st hw (λ v u x y s1 φ1 M1 q1 Ep Em EA r1 r2=> ?_) hE)
 refine ai (aD q1) λ xs hx q1=> ?_
 refine ai (aD q1) λ ys hy q1=> ?_
 cases mB hx
 cases rX hy
 clear hw er EA st ha hb na nb hbi hE hA hx hy
 obtain⟨l1,us,m1,rfl,n1,g1,_,NV⟩:=r1
 obtain⟨l2,ws,m2,rfl,n2,g2,_,NU⟩:=r2
 refine yP ⟨_,g1,rfl,m1,rfl⟩ (dD g2) λ h' hz JE MV LD LC hk=>wpAny_pyIter_zip hz ?_
 have a1:l1<s1.heap.objs.size:=P9 g1
 have a2:l2<s1.heap.objs.size:=P9 g2
 have KJ:∀c,eL s1.heap.objs.size c->s1.heap.get? c=none/\∃o,h'.get? c=some o:=λ c z=>by
  rcases z with z|z|z|z|z<;>subst z
  ·refine ai LD λ o e zz=> ?_;clear LD;exact⟨aT (PC _),o,e⟩
  ·refine ai LC λ o e zz=> ?_;clear LC;exact⟨aT (Tz _ _),o,e⟩
  ·exact⟨aT (Tz _ _),_,JE⟩
  ·exact⟨aT (Tz _ _),_,MV⟩
  ·exact⟨aT (Tz _ _),_,hz⟩
 have Jf:∀c,ow (λ b=>W b∨eL s1.heap.objs.size b) φ1 M1 c->ow W φ1 M1 c∨s1.heap.get? c=none:=λ c q=>q.elim (λ q=>q.elim (λ q=>.inl (.inl q)) λ q=>.inr (KJ c q).1) λ q=>.inl (.inr q)
 refine⟨_,eL s1.heap.objs.size,_,_,φ1,M1,rfl,q1,Ep.ext (N:=eL s1.heap.objs.size) (s':={s1 with heap:=h'}) hk KJ,Em.trans (.ext (s':={s1 with heap:=h'}) hk rfl rfl),ie.zip (t1:=true) (t2:=false) (l1:=l1) (l2:=l2) (us:=us) (ws:=ws),
  λ c z=>⟨Em.dead (KJ c z).1,(KJ c z).2⟩,0,xs,ys,⟨hz,JE,⟨_,_,MV⟩,LD,LC,⟨m1,hk _ _ g1⟩,⟨m2,hk _ _ g2⟩,a1,a2⟩,(λ q=>(Jf _ q).elim n1 (dK g1)),(λ q=>(Jf _ q).elim n2 (dK g2)),
  NV.mono (Pz _) (λ b o e zz=>.inl (hk b o e)) Jf,NU.mono (Pz _) (λ b o e zz=>.inl (hk b o e)) Jf,rfl⟩
end
structure MT where
 tb:Tb
 aN:Nat->Str
 mN:Nat->Str
 exc:Str
 J2:Nat->Bool
noncomputable def pX(x:P8):Bool:=decide (x.ctorIdx≠7)
noncomputable def uO:Es->Bool|.nil=>true|.cons _ _=>false
noncomputable def lm(x:P8):Bool:=decide (x.ctorIdx=23)
noncomputable def ri(x:P8):Bool:=decide (x.ctorIdx=25)
noncomputable def Ec(t:jn)(e:P8):aH:=(cX e).zip t.list
noncomputable def Kh:Cl->List Q5->aH
 |.cls t _ _ r,g::gs=>Ec t g.target++Kh r gs
 |_,_=>[]
noncomputable def q9(Γ Γc:aH)(N:Nm)(scope:Xo)(tg:List Nat)(ns:List Str):Bool:=
 scope.kind==.function&&decide (scope.names.map (·.1)).Nodup&&decide (Γc.map (·.2)).Nodup&&
 scope.names.all (λ p=>if p.2==.local||p.2==.cell then(match Γc.lookup p.1 with|some i=>tg.contains i|none=>true)
  else if p.2==.free then(N.lookup p.1==some .cell||N.lookup p.1==some .free)&&(match Γc.lookup p.1 with|some i=>Γ.lookup p.1==some i&& !tg.contains i|none=>true) else true)&&
 ns.all (λ x=>scope.names.lookup x==some .local||scope.names.lookup x==some .cell)
noncomputable def jw(x:P8)(f:Str->List P8->Bool):Bool:=kB x λ fn xs kw zz=>cx fn λ y zz=>bW kw&&f y xs
theorem eV{f:Str->List P8->Bool}{mo:P8->Prop}(h:jw x f=true)(k:∀y q xs p,f y xs=true->mo (.Call (.Name y q) xs [] p)):mo x:=
 kA h λ fn xs kw p h=>bR (mo:=λ fn=>mo (.Call fn xs kw p)) h λ y q h=>bl (mo:=λ kw=>mo (.Call (.Name y q) xs kw p)) (af h).1 (k y q xs p (af h).2)
noncomputable def kC(N:Nm)(b:PJ)(x:P8)(f:P8->Bool):Bool:=jw x λ y xs=>eW xs λ xa=>dG N y b&&(aw xa&&f xa)
theorem fL{f:P8->Bool}{mo:P8->Prop}(h:kC N b x f=true)(k:∀y q xa p,dG N y b=true->aw xa=true->f xa=true->mo (.Call (.Name y q) [xa] [] p)):mo x:=
 eV h λ y q xs p h=>bO (mo:=λ xs=>mo (.Call (.Name y q) xs [] p)) h λ xa h=>k y q xa p (af h).1 (af (af h).2).1 (af (af h).2).2
noncomputable def uM(N:Nm)(b:PJ)(x:P8)(f:P8->P8->Bool):Bool:=jw x λ y xs=>pj xs λ xa xb=>dG N y b&&(aw xa&&(aw xb&&f xa xb))
theorem oI{f:P8->P8->Bool}{mo:P8->Prop}(h:uM N b x f=true)(k:∀y q xa xb p,dG N y b=true->aw xa=true->aw xb=true->f xa xb=true->mo (.Call (.Name y q) [xa,xb] [] p)):mo x:=
 eV h λ y q xs p h=>gY (mo:=λ xs=>mo (.Call (.Name y q) xs [] p)) h λ xa xb h=>k y q xa xb p (af h).1 (af (af h).2).1 (af (af (af h).2).2).1 (af (af (af h).2).2).2
noncomputable def je(x:P8)(f:P8->Str->List P8->Bool):Bool:=kB x λ fn xs kw p=>dn fn λ xo nm ap=>bW kw&&(ap.endLine==p.line&&(eE xo&&f xo nm xs))
theorem gc{f:P8->Str->List P8->Bool}{mo:P8->Prop}(h:je x f=true)(k:∀xo nm ap xs p,(ap.endLine==p.line)=true->eE xo=true->f xo nm xs=true->mo (.Call (.Attribute xo nm ap) xs [] p)):mo x:=
 kA h λ fn xs kw p h=>cR (mo:=λ fn=>mo (.Call fn xs kw p)) h λ xo nm ap h=>bl (mo:=λ kw=>mo (.Call (.Attribute xo nm ap) xs kw p)) (af h).1 (k xo nm ap xs p (af (af h).2).1 (af (af (af h).2).2).1 (af (af (af h).2).2).2)
noncomputable def x4(c:CmpOp)(x:P8)(f:P8->Bool):Bool:=ix x λ xa os xs zz=>eW os λ o=>eW xs λ xb=>decide (o=c)&&cW xb λ k zz zz=>decide (k=.none)&&f xa
theorem tC{c:CmpOp}{f:P8->Bool}{mo:P8->Prop}(h:x4 c x f=true)(k:∀xa i p q,f xa=true->mo (.Compare xa [c] [.Constant .none i p] q)):mo x:=
 gX h λ xa os xs q h=>bO (mo:=λ os=>mo (.Compare xa os xs q)) h λ o h=>bO (mo:=λ xs=>mo (.Compare xa [o] xs q)) h λ xb h=>by
  cases aJ (af h).1
  exact ct (mo:=λ xb=>mo (.Compare xa [c] [xb] q)) (af h).2 λ d i p h=>by cases aJ (af h).1;exact k xa i p q (af h).2
noncomputable def GA(T:MT)(N:Nm)(z:Str):Ty->Bool
 |.cls c=>cC N z&&(T.tb.Ha.lookup z==some c&&T.J2 c)
 |t=> !wO t&&dG N z (.type (mD t))
mutual
noncomputable def mE(T:MT)(Γ:aH)(N:Nm):E->P8->Bool
 |.var i,x=>cx x λ y zz=>nE N Γ y i
 |.lit v,x=>cW x λ c zz zz=>wF v c
 |.glob k,x=>cx x λ y zz=>cC N y&&T.tb.vals.lookup y==some k
 |.I9 f,x=>cx x λ y zz=>cC N y&&T.tb.fns.lookup y==some f
 |.tup es,x=>oE x λ xs zz zz=>decide (xs.length<=1000)&&iy T Γ N es xs
 |.lst _ es,x=>wu x λ xs zz=>decide (xs.length<=1000)&&iy T Γ N es xs
 |.Go _ ks es,x=>qR x λ keys vals zz=>(match ks with
    |[]=>bW keys&&(bW vals&&uO es)
    |k0::ks=>uU (k0::ks) keys&&(vals.length==keys.length&&(decide ((k0::ks).length<=15)&&iy T Γ N es vals)))
 |.GJ,x=>qR x λ keys vals zz=>bW keys&&bW vals
 |.bin op a b,x=>tE x λ xa o xb zz=>decide (o=zf op)&&(mE T Γ N a xa&&mE T Γ N b xb)
 |.neg a,x=>ga x λ o xa zz=>decide (o=.USub)&&mE T Γ N a xa
 |.not a,x=>ga x λ o xa zz=>decide (o=.Not)&&mE T Γ N a xa
 |.cmp op a b,x=>ix x λ xa os xs zz=>eW os λ o=>eW xs λ xb=>decide (o=ff op)&&(!W6 (ff op) xb&&(mE T Γ N a xa&&mE T Γ N b xb))
 |.Fz a o1 b o2 c,x=>ix x λ xa os xs zz=>pj os λ p1 p2=>pj xs λ xb xc=>decide (p1=ff o1)&&(decide (p2=ff o2)&&(!lastMarks [ff o1,ff o2] [xb,xc]&&(mE T Γ N a xa&&(mE T Γ N b xb&&mE T Γ N c xc))))
 |.Ga a,x=>x4 .Is x λ xa=>mE T Γ N a xa
 |.FK a,x=>x4 .IsNot x λ xa=>mE T Γ N a xa
 |.F2 Et es,x=>qS x λ o xs zz=>decide (o=qM Et)&&(!uO es&&iy T Γ N es xs)
 |.ED t a b,x=>tD x λ xt xa xb zz=>mE T Γ N t xt&&(mE T Γ N a xa&&mE T Γ N b xb)
 |.call f es,x=>jw x λ y xs=>cC N y&&(T.tb.fns.lookup y==some f&&(xs.all aw&&iy T Γ N es xs))
 |.new c es,x=>jw x λ y xs=>cC N y&&(T.tb.Ha.lookup y==some c&&(xs.all aw&&iy T Γ N es xs))
 |.EJ o m es,x=>je x λ xo nm xs=>T.mN m==nm&&(xs.all aw&&(decide (xs.length<30)&&(mE T Γ N o xo&&iy T Γ N es xs)))
 |.Fu i es,x=>jw x λ y xs=>nE N Γ y i&&(xs.all aw&&iy T Γ N es xs)
 |.attr o a,x=>dn x λ xo at_ zz=>T.aN a==at_&&(eE xo&&mE T Γ N o xo)
 |.sub o k,x=>eC x λ xo xk zz=>jx xk&&(mE T Γ N o xo&&mE T Γ N k xk)
 |.slice o lo hi,x=>eC x λ xo xs zz=>oG xs λ xl xu st zz=>st.isNone&&(mE T Γ N o xo&&(Bw T Γ N lo xl&&Bw T Γ N hi xu))
 |.rev o,x=>eC x λ xo xs zz=>oG xs λ xl xu st zz=>xl.isNone&&(xu.isNone&&bD st λ xs=>BI xs&&mE T Γ N o xo)
 |.len a,x=>kC N (.builtin "len") x λ xa=>mE T Γ N a xa
 |.abs a,x=>kC N (.builtin "abs") x λ xa=>mE T Γ N a xa
 |.sum a,x=>kC N (.builtin "sum") x λ xa=>mE T Γ N a xa
 |.intOf a,x=>kC N (.type "int") x λ xa=>mE T Γ N a xa
 |.E8 a,x=>kC N (.type "tuple") x λ xa=>mE T Γ N a xa
 |.bytesOf a,x=>kC N (.type "bytes") x λ xa=>mE T Γ N a xa
 |.sorted a,x=>kC N (.builtin "sorted") x λ xa=>mE T Γ N a xa
 |.max2 a b,x=>uM N (.builtin "max") x λ xa xb=>mE T Γ N a xa&&mE T Γ N b xb
 |.min2 a b,x=>uM N (.builtin "min") x λ xa xb=>mE T Γ N a xa&&mE T Γ N b xb
 |.Fb a t,x=>jw x λ y xs=>pj xs λ xa xz=>cx xz λ z zz=>dG N y (.builtin "isinstance")&&(aw xa&&(mE T Γ N a xa&&GA T N z t))
 |.Gw a,x=>je x λ xo nm xs=>eW xs λ xk=>nm==("pop" :Str)&&cW xk λ c zz zz=>decide (c=.int 0)&&mE T Γ N a xo
 |.GI o k,x=>je x λ xo nm xs=>eW xs λ xk=>nm==("get" :Str)&&(aw xk&&(mE T Γ N o xo&&mE T Γ N k xk))
 |.FN o k d,x=>je x λ xo nm xs=>pj xs λ xk xd=>nm==("get" :Str)&&(aw xk&&(aw xd&&(mE T Γ N o xo&&(mE T Γ N k xk&&mE T Γ N d xd))))
 |.comp _ cl,x=>uW T Γ N cl x
 |.freeze a,x=>mE T Γ N a x
 |.dead,_=>true
noncomputable def Bw(T:MT)(Γ:aH)(N:Nm):Eo->Option P8->Bool
 |.no,x=>x.isNone
 |.yes e,x=>bD x λ x=>mE T Γ N e x
noncomputable def iy(T:MT)(Γ:aH)(N:Nm):Es->List P8->Bool
 |.nil,xs=>bW xs
 |.cons e r,xs=>cy xs λ x xs=>aw x&&(mE T Γ N e x&&iy T Γ N r xs)
noncomputable def zk(T:MT)(Γ:aH)(N:Nm):It->P8->P8->Bool
 |.it e,x,tg=>lm tg&&mE T Γ N e x
 |.keys e,x,tg=>lm tg&&mE T Γ N e x
 |.Fv es,x,tg=>jw x λ y xs=>lm tg&&(dG N y (.type "range")&&(xs.all aw&&iy T Γ N es xs))
 |.zip a b,x,tg=>uM N (.type "zip") x λ xa xb=>ri tg&&(mE T Γ N a xa&&mE T Γ N b xb)
noncomputable def Bx(T:MT)(Γ:aH)(N:Nm)(ns:List Str)(elt:P8):Cl->List Q5->Bool
 |.last e,gs=>bW gs&&mE T Γ N e elt
 |.cls t it ifs r,gs=>cy gs λ g rest=>g.is_async==0&&(pX g.iter&&(cS Γ N t g.target&&((cX g.target).all (ns.contains ·)&&(decide (t.list++r.E4).Nodup&&(zk T Γ N it g.iter g.target&&(iy T Γ N ifs g.ifs&&Bx T Γ N ns elt r rest))))))
noncomputable def uW(T:MT)(Γ:aH)(N:Nm):Cl->P8->Bool
 |.last _,_=>false
 |.cls t it ifs r,x=>nk x λ elt gs scope pos=>cy gs λ g rest=>
   (λ(G:aH) (N':Nm)=>g.is_async==0&&(pX g.iter&&(q9 Γ (G++Γ) N scope (Cl.E4 (.cls t it ifs r)) (G.map (·.1))&&
    (cS (G++Γ) N' t g.target&&((cX g.target).all ((G.map (·.1)).contains ·)&&
    (decide (t.list++r.E4).Nodup&&(decide ((r.depth+2)*aq<=Rl)&&(zk T Γ N it g.iter g.target&&(iy T (G++Γ) N' ifs g.ifs&&
    Bx T (G++Γ) N' (G.map (·.1)) elt r rest))))))))) (Kh (.cls t it ifs r) (g::rest)) (dM N scope.names)
end
end Mine
end
section
namespace Mine
open PySem PySem.W PySem.Calls PyProof.Rows PySem.SeqAt
structure MX(g:Gs)(T:MT)(K:RH)(n:Nat):Prop where
 fx:Fx g T.tb K
 hc:jK g n
 aN:∀a,g.pl.EF a=T.aN a
 mN:∀a,g.pl.FC a=T.mN a
 cl:∀c,T.J2 c=true->(g.pl.P.cls c).isSome=true
theorem aj.dead:aj g Γ N n .dead x:=by
 intro W A fr env ρ φ M s Q X hA hN er st hw
 exact hw.elim
theorem bA.dead:bA g Γ N n .dead x:=by
 intro W A fr env ρ φ M s Q X hA hN er st hw
 exact hw.elim
theorem bA.freeze(h:bA g Γ N n e x):bA g Γ N n (.freeze e) x:=by
 intro W A fr env ρ φ M s Q X hA hN er st hw
 refine h W A fr env ρ φ M s Q X hA hN er st (Eq.mp (congrArg (λ K=>aO g.pl.P (ag g.pl.P n) e ρ M K X) (funext λ x=>funext λ M1=> ?_)) hw)
 cases x with
 |ref i=>
  show aB (bE (bf M1 (.ref i)).1) _=False
  unfold bf
  dsimp only
  cases M1.m i with
  |none=>rfl
  |some o=>cases o<;>rfl
 |_=>rfl
theorem jz(h:pX x=true):∀env v,QQ x env v=pure v:=by
 intro env v
 cases x<;>first|rfl|cases h
theorem kH(h:lm x=true):dT x:=RZ (motive_1:=dT) x (aJ h) λ zz zz=>trivial
theorem uZ(h:ri x=true):ll x:=Rc (motive_1:=ll) x (aJ h) λ zz zz zz=>trivial
set_option tactic.hygienic true in
theorem jC:∀{Γ:aH},(Γ.map (·.2)).Nodup->∀{x y:Str} {i:Nat},Γ.lookup x=some i->Γ.lookup y=some i->x=y
 |[],_,_,_,_,h,_=>by cases h
 |(z,j)::r,nd,x,y,i,h1,h2=>by
  rw[PP,QH] at nd
  have aux:∀{w:Str},List.lookup w r=some j->False:=λ{w} h=>nd.1 (by
   clear nd h1 h2
   induction r with
   |nil=>cases h
   |cons p r ih=>
    rw[Ql] at h
    split at h
    ·cases h;exact R0 ..
    ·exact RF _ (ih h))
  rw[Ql] at h1 h2
  split at h1
  ·cases h1
   split at h2
   ·rename_i a _ b;rw[beq_iff_eq] at a b;refine aa a ?_;refine aa b ?_;rfl
   ·exact(aux h2).elim
  ·split at h2
   ·cases h2;exact(aux h1).elim
   ·exact jC nd.2 h1 h2
theorem dq{β:Type}:∀{l:List (Str×β)} {x:Str} {k:β},l.lookup x=some k->(x,k)∈l:=by
 intro l
 induction l with
 |nil=>
  intro y1 y2 h
  cases h
 |cons y3 r ih=>
  obtain⟨z,j⟩:=y3
  intro x k h
  rw[Ql] at h
  split at h
  ·rename_i e
   cases h
   rw[beq_iff_eq] at e
   refine aa e ?_;exact R0 ..
  ·exact RF _ (ih h)
theorem pt(h:q9 Γ Γc N scope tg ns=true):nW Γ Γc N scope tg ns:=by
 simp only [q9,PY,decide_eq_true_eq,beq_iff_eq,QD,SJ] at h
 obtain⟨⟨⟨⟨h1,h2⟩,h3⟩,h4⟩,h5⟩:=h
 refine⟨h1,h2,λ x y i a b=>jC h3 a b,λ x hx i hi=> ?_,λ x hx=> ?_,h5⟩
 ·rcases hx with hx|hx<;>
  ·have q:=h4 _ (dq hx)
   simpa[hi] using q
 ·have q:=h4 _ (dq hx)
  have h0:¬(QA=NameKind.local∨QA=S6):=by decide
  simp only [h0,if_false,if_true,PY,SJ,beq_iff_eq] at q
  refine⟨q.1,λ i hi=> ?_⟩
  have q2:=q.2
  rw[hi] at q2
  simp only [PY,beq_iff_eq,Te,List.contains_eq_mem,decide_eq_false_iff_not] at q2
  exact q2
noncomputable def bM(g:Gs)(Γ:aH)(N:Nm)(n:Nat)(e:E)(x:P8):Prop:=aj g Γ N n e x/\bA g Γ N n e x
structure lz(g:Gs)(Γ:aH)(N:Nm)(n:Nat)(es:Es)(xs:List P8):Prop where
 ok:dz g Γ N n es xs
 ifs:ef g Γ N n es xs
 ds:∀ks keys,fu ks keys->xs.length=keys.length->jJ g Γ N n ks es keys xs
 bo:uO es=false->∀Et,jM g Γ N n Et es xs/\jL g Γ N n Et es xs
 len:es.len=xs.length
inductive qc(g:Gs)(Γ:aH)(N:Nm)(n:Nat)(it:It)(x tg:P8):Prop
 |mk (Jp:P8->Prop):fv g Γ N n it x Jp->Jp tg->qc g Γ N n it x tg
noncomputable def vD(g:Gs)(Γ:aH)(N:Nm)(n:Nat)(ns:List Str)(elt:P8)(r:Cl)(gs:List Q5):Prop:=
 ∀scope pos gens k,gens.drop (k+1)=gs->eF g Γ N ns n (.ListComp elt gens scope pos) elt gens k r
structure zR(g:Gs)(Γ:aH)(N:Nm)(n:Nat)(cl:Cl)(x:P8):Prop where
 ev:∀mu,aj g Γ N n (.comp mu cl) x
 pl:mX x=true
 asg:∀mu i y Fl G3,cS Γ N (.one i) (.Name y Fl)=true->fP N x (.Name y Fl) x.pos.line=true->bd g Γ N n (.asg (.one i) (.comp mu cl)) (.Assign [.Name y Fl] x G3)
section
variable{g:Gs}{T:MT}{K:RH}{n:Nat}{Γ:aH}{N:Nm}
theorem bM.pl(h:aj g Γ N n e x)(hp:mX x=true):bM g Γ N n e x:=⟨h,.Hn h hp⟩
theorem lz.nil:lz g Γ N n .nil []:=by
 refine⟨dz.nil,ef.nil,λ ks keys hk hl=> ?_,(λ h=>QS h),rfl⟩
 cases hk with
 |nil=>exact jJ.nil
 |cons _ _ _ _=>cases hl
theorem lz.cons{e:E}{r:Es}{x:P8}{xs:List P8}(h:bM g Γ N n e x)(hn:aw x=true)(ih:lz g Γ N n r xs):lz g Γ N n (.cons e r) (x::xs):=by
 refine⟨dz.cons h.1 hn ih.ok,ef.cons h.2 ih.ifs,λ ks keys hk hl=> ?_,λ zz Et=> ?_,congrArg (· +1) ih.len⟩
 ·cases hk with
  |nil=>cases hl
  |cons i p l hk=>exact jJ.cons h.1 (ih.ds _ _ hk (To hl))
 ·have a5:=ih.len
  cases r with
  |nil=>
   cases xs with
   |nil=>exact⟨jM.one h.1,jL.one h.2⟩
   |cons _ _=>cases a5
  |cons e' r'=>
   cases xs with
   |nil=>cases a5
   |cons x' xs=>exact⟨jM.cons h.1 (ih.bo rfl Et).1,jL.cons h.2 (ih.bo rfl Et).2⟩
theorem wX{α:Type}{l:List α}{x:α}{r:List α}(h:l.drop k=x::r):l[k]? =some x/\l.drop (k+1)=r:=
 ⟨by refine aE List.head?_drop ?_;refine aa h ?_;rfl,by refine aE VK ?_;refine aa h ?_;rfl⟩
theorem AL(mx:MX g T K n)(ha:aj g Γ N n a xa)(hs:aw xa=true)(hb:dG N y (.builtin "isinstance")=true)(h:GA T N z t=true):aj g Γ N n (.Fb a t) (.Call (.Name y p) [xa,.Name z p2] [] pos):=
 .Fb mx.fx ha hs hb (by
  cases t with
  |cls c=>exact .inl ⟨c,rfl,(af h).1,ar (af (af h).2).1,mx.cl _ (af (af h).2).2⟩
  |_=>exact .inr ⟨rfl,h⟩)
mutual
theorem aG(mx:MX g T K n):∀(e:E) (Γ:aH) (N:Nm) (x:P8),mE T Γ N e x=true->bM g Γ N n e x
 |.var _,_,_,_,h=>bR h λ zz zz h=>.pl (.var h) rfl
 |.lit _,_,_,_,h=>ct h λ zz zz zz h=>.pl (.lit h) rfl
 |.glob _,_,_,_,h=>bR h λ zz zz h=>.pl (.glob mx.fx (af h).1 (ar (af h).2)) rfl
 |.I9 _,_,_,_,h=>bR h λ zz zz h=>.pl (.I9 mx.fx (af h).1 (ar (af h).2)) rfl
 |.tup es,Γ,N,_,h=>ng h λ xs zz zz h=>.pl (.tup (cz mx es Γ N xs (af h).2).ok (aJ (af h).1)) rfl
 |.lst _ es,Γ,N,_,h=>wt h λ xs zz h=>.pl (.lst (cz mx es Γ N xs (af h).2).ok (aJ (af h).1)) rfl
 |.Go _ [] .nil,_,_,_,h=>iw h λ ks xs p h=>bl (mo:=λ ks=>bM _ _ _ _ _ (.Dict ks xs p)) (af h).1 (bl (mo:=λ xs=>bM _ _ _ _ _ (.Dict [] xs p)) (af (af h).2).1 (.pl (.Mr mx.fx) rfl))
 |.Go _ [] (.cons _ _),_,_,_,h=>iw h λ ks xs p h=>nomatch (af (af h).2).2
 |.Go _ (_::_) es,Γ,N,_,h=>iw h λ keys xs zz h=>
  .pl (.Go mx.fx ((cz mx es Γ N xs (af (af (af h).2).2).2).ds _ _ (qZ (af h).1) (ar (af (af h).2).1)) (qZ (af h).1) (ar (af (af h).2).1) (aJ (af (af (af h).2).2).1)) rfl
 |.GJ,_,_,_,h=>iw h λ ks xs p h=>bl (mo:=λ ks=>bM _ _ _ _ _ (.Dict ks xs p)) (af h).1 (bl (mo:=λ xs=>bM _ _ _ _ _ (.Dict [] xs p)) (af h).2 (.pl (.GJ mx.fx) rfl))
 |.bin _ a b,Γ,N,_,h=>uL h λ xa o xb zz h=>by
  cases aJ (af h).1
  exact .pl (.bin (aG mx a Γ N xa (af (af h).2).1).1 (aG mx b Γ N xb (af (af h).2).2).1) rfl
 |.neg a,Γ,N,_,h=>gW h λ o xa zz h=>by cases aJ (af h).1;exact .pl (.neg (aG mx a Γ N xa (af h).2).1) rfl
 |.not a,Γ,N,_,h=>gW h λ o xa zz h=>by cases aJ (af h).1;exact⟨.not (aG mx a Γ N xa (af h).2).1,.not (aG mx a Γ N xa (af h).2).2⟩
 |.cmp _ a b,Γ,N,_,h=>gX h λ xa os xs p h=>bO (mo:=λ os=>bM _ _ _ _ _ (.Compare xa os xs p)) h λ o h=>bO (mo:=λ xs=>bM _ _ _ _ _ (.Compare xa [o] xs p)) h λ xb h=>by
  cases aJ (af h).1
  have h1:=cZ (af (af h).2).1
  have ha:=aG mx a Γ N xa (af (af (af h).2).2).1
  have hb:=aG mx b Γ N xb (af (af (af h).2).2).2
  exact⟨.cmp ha.1 hb.1 h1,.cmp ha.1 hb.1 h1⟩
 |.Fz a _ b _ c,Γ,N,_,h=>gX h λ xa os xs p h=>gY (mo:=λ os=>bM _ _ _ _ _ (.Compare xa os xs p)) h λ o1 o2 h=>gY (mo:=λ xs=>bM _ _ _ _ _ (.Compare xa [o1,o2] xs p)) h λ xb xc h=>by
  cases aJ (af h).1
  replace h:=(af h).2
  cases aJ (af h).1
  replace h:=(af h).2
  have h1:=cZ (af h).1
  have ha:=aG mx a Γ N xa (af (af h).2).1
  have hb:=aG mx b Γ N xb (af (af (af h).2).2).1
  have hc:=aG mx c Γ N xc (af (af (af h).2).2).2
  exact⟨.Fz ha.1 hb.1 hc.1 h1,.Fz ha.1 hb.1 hc.1 h1⟩
 |.Ga a,Γ,N,_,h=>tC h λ xa zz zz zz h=>have q:=(aG mx a Γ N xa h).1;⟨.Ga q,.Ga q⟩
 |.FK a,Γ,N,_,h=>tC h λ xa zz zz zz h=>have q:=(aG mx a Γ N xa h).1;⟨.FK q,.FK q⟩
 |.F2 Et es,Γ,N,_,h=>sO h λ o xs zz h=>by
  cases aJ (af h).1
  have q:=(cz mx es Γ N xs (af (af h).2).2).bo (cZ (af (af h).2).1) Et
  exact⟨.F2 q.1,.F2 q.2⟩
 |.ED t a b,Γ,N,_,h=>uK h λ xt xa xb zz h=>
  have q:=aG mx t Γ N xt (af h).1
  have qa:=aG mx a Γ N xa (af (af h).2).1
  have qb:=aG mx b Γ N xb (af (af h).2).2
  ⟨.ED q.2 qa.1 qb.1,.ED q.2 qa.2 qb.2⟩
 |.call _ es,Γ,N,_,h=>eV h λ zz zz xs zz h=>.pl (.call mx.fx mx.hc (af h).1 (ar (af (af h).2).1) (cz mx es Γ N xs (af (af (af h).2).2).2).ok (af (af (af h).2).2).1) rfl
 |.new _ es,Γ,N,_,h=>eV h λ zz zz xs zz h=>.pl (.new mx.fx mx.hc (af h).1 (ar (af (af h).2).1) (cz mx es Γ N xs (af (af (af h).2).2).2).ok (af (af (af h).2).2).1) rfl
 |.EJ o m es,Γ,N,_,h=>gc h λ xo nm zz xs zz hl hb h=>
  have h2:=(af (af h).2).2
  .pl (.EJ mx.fx mx.hc (aG mx o Γ N xo (af (af h2).2).1).1 ((mx.mN m).trans (ar (af h).1)) hb (cz mx es Γ N xs (af (af h2).2).2).ok (af (af h).2).1 (aJ (af h2).1) hl) rfl
 |.Fu _ es,Γ,N,_,h=>eV h λ zz zz xs zz h=>.pl (.Fu mx.fx mx.hc (af h).1 (cz mx es Γ N xs (af (af h).2).2).ok (af (af h).2).1) rfl
 |.attr o a,Γ,N,_,h=>cR h λ xo zz zz h=>.pl (.attr mx.fx (aG mx o Γ N xo (af (af h).2).2).1 ((mx.aN a).trans (ar (af h).1)) (kQ (af (af h).2).1 _)) rfl
 |.sub o k,Γ,N,_,h=>d8 h λ xo xk zz h=>.pl (.sub mx.fx (aG mx o Γ N xo (af (af h).2).1).1 (aG mx k Γ N xk (af (af h).2).2).1 (af h).1) rfl
 |.slice o lo hi,Γ,N,_,h=>d8 h λ xo xs p h=>ni (mo:=λ xs=>bM _ _ _ _ _ (.Subscript xo xs p)) h λ xl xu st q h=>eY (mo:=λ st=>bM _ _ _ _ _ (.Subscript xo (.Slice xl xu st q) p)) (af h).1
  (.pl (.slice (aG mx o Γ N xo (af (af h).2).1).1 (wE mx lo Γ N xl (af (af (af h).2).2).1) (wE mx hi Γ N xu (af (af (af h).2).2).2)) rfl)
 |.rev o,Γ,N,_,h=>d8 h λ xo xs p h=>ni (mo:=λ xs=>bM _ _ _ _ _ (.Subscript xo xs p)) h λ xl xu st q h=>eY (mo:=λ xl=>bM _ _ _ _ _ (.Subscript xo (.Slice xl xu st q) p)) (af h).1
  (eY (mo:=λ xu=>bM _ _ _ _ _ (.Subscript xo (.Slice none xu st q) p)) (af (af h).2).1 (cw (mo:=λ st=>bM _ _ _ _ _ (.Subscript xo (.Slice none none st q) p)) (af (af h).2).2 λ xs h=>
   .pl (.rev (aG mx o Γ N xo (af h).2).1 (af h).1) rfl))
 |.len a,Γ,N,_,h=>fL h λ zz zz xa zz h1 h2 h=>.pl (.len mx.fx (aG mx a Γ N xa h).1 h2 h1) rfl
 |.abs a,Γ,N,_,h=>fL h λ zz zz xa zz h1 h2 h=>.pl (.abs mx.fx (aG mx a Γ N xa h).1 h2 h1) rfl
 |.sum a,Γ,N,_,h=>fL h λ zz zz xa zz h1 h2 h=>.pl (.sum mx.fx (aG mx a Γ N xa h).1 h2 h1) rfl
 |.intOf a,Γ,N,_,h=>fL h λ zz zz xa zz h1 h2 h=>.pl (.intOf mx.fx (aG mx a Γ N xa h).1 h2 h1) rfl
 |.E8 a,Γ,N,_,h=>fL h λ zz zz xa zz h1 h2 h=>.pl (.E8 mx.fx (aG mx a Γ N xa h).1 h2 h1) rfl
 |.bytesOf a,Γ,N,_,h=>fL h λ zz zz xa zz h1 h2 h=>.pl (.bytesOf mx.fx (aG mx a Γ N xa h).1 h2 h1) rfl
 |.sorted a,Γ,N,_,h=>fL h λ zz zz xa zz h1 h2 h=>.pl (.sorted mx.fx (aG mx a Γ N xa h).1 h2 h1) rfl
 |.max2 a b,Γ,N,_,h=>oI h λ zz zz xa xb zz h1 h2 h3 h=>.pl (.max2 mx.fx (aG mx a Γ N xa (af h).1).1 (aG mx b Γ N xb (af h).2).1 h2 h3 h1) rfl
 |.min2 a b,Γ,N,_,h=>oI h λ zz zz xa xb zz h1 h2 h3 h=>.pl (.min2 mx.fx (aG mx a Γ N xa (af h).1).1 (aG mx b Γ N xb (af h).2).1 h2 h3 h1) rfl
 |.Fb a t,Γ,N,_,h=>eV h λ y q xs p h=>gY (mo:=λ xs=>bM _ _ _ _ _ (.Call (.Name y q) xs [] p)) h λ xa xz h=>bR (mo:=λ xz=>bM _ _ _ _ _ (.Call (.Name y q) [xa,xz] [] p)) h λ z zz h=>
  .pl (AL mx (aG mx a Γ N xa (af (af (af h).2).2).1).1 (af (af h).2).1 (af h).1 (af (af (af h).2).2).2) rfl
 |.Gw a,Γ,N,_,h=>gc h λ xo nm ap xs p hl hb h=>bO (mo:=λ xs=>bM _ _ _ _ _ (.Call (.Attribute xo nm ap) xs [] p)) h λ xk h=>by
  cases ar (af h).1
  exact ct (mo:=λ xk=>bM _ _ _ _ _ (.Call (.Attribute xo _ ap) [xk] [] p)) (af h).2 λ c i q h=>by
   cases aJ (af h).1
   exact .pl (.Gw mx.fx (aG mx a Γ N xo (af h).2).1 hb hl) rfl
 |.GI o k,Γ,N,_,h=>gc h λ xo nm ap xs p hl hb h=>bO (mo:=λ xs=>bM _ _ _ _ _ (.Call (.Attribute xo nm ap) xs [] p)) h λ xk h=>by
  cases ar (af h).1
  exact .pl (.GI mx.fx (aG mx o Γ N xo (af (af (af h).2).2).1).1 (aG mx k Γ N xk (af (af (af h).2).2).2).1 hb (af (af h).2).1 hl) rfl
 |.FN o k d,Γ,N,_,h=>gc h λ xo nm ap xs p hl hb h=>gY (mo:=λ xs=>bM _ _ _ _ _ (.Call (.Attribute xo nm ap) xs [] p)) h λ xk xd h=>by
  cases ar (af h).1
  have h1:=(af (af h).2).2
  have h2:=(af (af h1).2).2
  exact .pl (.FN mx.fx (aG mx o Γ N xo (af (af h1).2).1).1 (aG mx k Γ N xk (af h2).1).1 (aG mx d Γ N xd (af h2).2).1 hb (af (af h).2).1 (af h1).1 hl) rfl
 |.comp mu cl,Γ,N,x,h=>have q:=q8 mx cl Γ N x h;.pl (q.ev mu) q.pl
 |.freeze a,Γ,N,x,h=>⟨.freeze (aG mx a Γ N x h).1,.freeze (aG mx a Γ N x h).2⟩
 |.dead,_,_,_,_=>⟨.dead,.dead⟩
theorem wE(mx:MX g T K n):∀(e:Eo) (Γ:aH) (N:Nm) (x:Option P8),Bw T Γ N e x=true->vA g Γ N n e x
 |.no,_,_,_,h=>eY h trivial
 |.yes e,Γ,N,_,h=>cw h λ x h=>(aG mx e Γ N x h).1
theorem cz(mx:MX g T K n):∀(es:Es) (Γ:aH) (N:Nm) (xs:List P8),iy T Γ N es xs=true->lz g Γ N n es xs
 |.nil,_,_,_,h=>bl h .nil
 |.cons e r,Γ,N,_,h=>bK h λ x xs h=>.cons (aG mx e Γ N x (af (af h).2).1) (af h).1 (cz mx r Γ N xs (af (af h).2).2)
theorem q7(mx:MX g T K n):∀(it:It) (Γ:aH) (N:Nm) (x tg:P8),zk T Γ N it x tg=true->qc g Γ N n it x tg
 |.it e,Γ,N,x,_,h=>⟨_,.it (aG mx e Γ N x (af h).2).1,kH (af h).1⟩
 |.keys e,Γ,N,x,_,h=>⟨_,.keys (aG mx e Γ N x (af h).2).1,kH (af h).1⟩
 |.Fv es,Γ,N,_,tg,h=>eV (mo:=λ x=>qc _ _ _ _ _ x tg) h λ zz zz xs zz h=>⟨_,.Fv mx.fx (cz mx es Γ N xs (af (af (af h).2).2).2).ok (af (af (af h).2).2).1 (af (af h).2).1,kH (af h).1⟩
 |.zip a b,Γ,N,_,tg,h=>oI (mo:=λ x=>qc _ _ _ _ _ x tg) h λ zz zz xa xb zz h1 h2 h3 h=>⟨_,.zip mx.fx (aG mx a Γ N xa (af (af h).2).1).1 (aG mx b Γ N xb (af (af h).2).2).1 h2 h3 h1,uZ (af h).1⟩
theorem wG(mx:MX g T K n):∀(r:Cl) (Γ:aH) (N:Nm) (ns:List Str) (elt:P8) (gs:List Q5),Bx T Γ N ns elt r gs=true->vD g Γ N n ns elt r gs
 |.last e,Γ,N,ns,elt,_,h=>bl (mo:=vD g Γ N n ns elt (.last e)) (af h).1 λ scope pos gens k hk=>
  .last (List.getElem?_eq_none_iff.mpr (WK.mp hk)) (aG mx e Γ N elt (af h).2).1
 |.cls t it ifs r,Γ,N,ns,elt,_,h=>bK (mo:=vD g Γ N n ns elt (.cls t it ifs r)) h λ⟨target,iter,xifs,asy⟩ rest h scope pos gens k hk=>by
  obtain⟨h0,h⟩:=af h
  obtain rfl:asy=0:=ar h0
  obtain⟨h1,h⟩:=af h
  obtain⟨h2,h⟩:=af h
  obtain⟨h3,h⟩:=af h
  obtain⟨h4,h⟩:=af h
  obtain⟨h5,h⟩:=af h
  obtain⟨h6,h7⟩:=af h
  obtain⟨q1,q2⟩:=wX hk
  obtain⟨Jp,hi,Gb⟩:=q7 mx it Γ N iter target h5
  exact .cls q1 (jz h1) hi Gb h2 (λ x hx=>So.mp (QD.mp h3 x hx)) (cz mx ifs Γ N xifs h6).ifs (aJ h4) (wG mx r Γ N ns elt rest h7 scope pos gens (k+1) q2)
theorem q8(mx:MX g T K n):∀(r:Cl) (Γ:aH) (N:Nm) (x:P8),uW T Γ N r x=true->zR g Γ N n r x
 |.last _,_,_,_,h=>nomatch h
 |.cls t it ifs r,Γ,N,_,h=>pQ h λ elt gs scope pos h=>bK (mo:=λ gs=>zR g Γ N n (.cls t it ifs r) (.ListComp elt gs scope pos)) h λ⟨target,iter,xifs,asy⟩ rest h=>by
  obtain⟨h0,h⟩:=af h
  obtain rfl:asy=0:=ar h0
  obtain⟨h1,h⟩:=af h
  obtain⟨h2,h⟩:=af h
  obtain⟨h3,h⟩:=af h
  obtain⟨h4,h⟩:=af h
  obtain⟨h5,h⟩:=af h
  obtain⟨h6,h⟩:=af h
  obtain⟨h7,h⟩:=af h
  obtain⟨h8,h9⟩:=af h
  obtain⟨Jp,hi,Gb⟩:=q7 mx it Γ N iter target h7
  have FP:=λ x hx=>So.mp (QD.mp h4 x hx)
  have hc:=wG mx r _ _ _ _ _ h9 scope pos (⟨target,iter,xifs,0⟩::rest) 0 rfl
  exact⟨λ mu=>.comp (pt h2) (jz h1) hi Gb h3 FP (cz mx ifs _ _ _ h8).ifs hc (aJ h5) (aJ h6),rfl,λ mu i y Fl G3 hx JG=>
   .Mv (pt h2) (jz h1) hi Gb h3 FP (cz mx ifs _ _ _ h8).ifs hc (aJ h5) (aJ h6) hx JG⟩
end
end
end Mine
end
section
namespace Mine
open PySem PySem.W PySem.Calls PyProof.Rows PySem.SeqAt
noncomputable def u0:S->Bool|.Iy _=>true|_=>false
noncomputable def rk:S->Bool|.dead=>true|_=>false
noncomputable def By(N:Nm)(t:jn)(value target:P8):Bool:=
 !fP N value target value.pos.line&&bD (kX N value target) λ q=>(match q with|none=>true|some names=>decide (names=cX target)&&decide t.list.Nodup)
noncomputable def Ek(T:MT)(N:Nm)(y:Str):Bool:=cC N y&&y==T.exc
noncomputable def CV(t:jn):Bool:=match t with|.one _=>true|.many _=>false
noncomputable def Ef(x:ExceptHandler)(f:Option P8->Option Str->List R9->Bool):Bool:=match x with|.ExceptHandler t n b _=>f t n b
noncomputable def ww(x:E)(f:Bool->Cl->Bool):Bool:=if h:x.ctorIdx=38 then E.comp.elim (motive_1:=λ zz=>Bool) x h f else false
theorem wv{f:Bool->Cl->Bool}{mo:E->Prop}(h:ww x f=true)(k:∀mu cl,f mu cl=true->mo (.comp mu cl)):mo x:=
 aU h λ h0=>E.comp.elim (motive_1:=λ x=>∀h0:x.ctorIdx=38,E.comp.elim (motive_1:=λ zz=>Bool) x h0 f=true->mo x) x h0 (λ mu cl zz=>k mu cl) h0
mutual
noncomputable def mS(T:MT)(Γ:aH)(N:Nm):S->R9->Bool
 |.asg t e,x=>dP x λ ts value zz=>eW ts λ target=>cS Γ N t target&&((By N t value target&&mE T Γ N e value)||
   (cx target λ y p=>CV t&&(fP N value (.Name y p) value.pos.line&&ww e λ zz cl=>uW T Γ N cl value)))
 |.EI o a e,x=>dP x λ ts xe zz=>eW ts λ t=>dn t λ xo at_ zz=>T.aN a==at_&&(mE T Γ N e xe&&mE T Γ N o xo)
 |.EY o k e,x=>dP x λ ts xe zz=>eW ts λ t=>eC t λ xo xk zz=>mE T Γ N e xe&&(mE T Γ N o xo&&mE T Γ N k xk)
 |.app o e,x=>oH x λ x zz=>je x λ xo nm xs=>eW xs λ xe=>nm==("append" :Str)&&(aw xe&&(mE T Γ N o xo&&mE T Γ N e xe))
 |.ret e,x=>ph x λ v zz=>bD v λ y=>mE T Γ N e y
 |.ED t a b,x=>zg x λ xt xa xb zz=>mE T Γ N t xt&&(kF T Γ N a xa&&kF T Γ N b xb)
 |.E1 t it body,x=>wr x λ target xi xb el zz=>bW el&&(pX xi&&(cS Γ N t target&&(zk T Γ N it xi target&&kF T Γ N body xb)))
 |.EV t body,x=>qO x λ xt xb el zz=>bW el&&(mE T Γ N t xt&&kF T Γ N body xb)
 |.EH es,x=>qQ x λ e c zz=>c.isNone&&bD e λ e=>jw e λ y xs=>cC N y&&(y==T.exc&&(xs.all aw&&((xs.length==1||xs.length==2)&&iy T Γ N es xs)))
 |.Gu i e,x=>wo x λ b hs el fb zz=>bW el&&(bW fb&&eW b λ b=>eW hs λ h=>dP b λ ts value zz=>eW ts λ t=>cx t λ y tp=>
   Ef h λ ty nm hb=>nm.isNone&&bD ty λ ty=>cx ty λ z zz=>eW hb λ s2=>dP s2 λ Kp v2 zz=>eW Kp λ t2=>cx t2 λ y2 zz=>cW v2 λ c zz zz=>
    decide (c=.none)&&(y==y2&&(cC N z&&(z==T.exc&&((iD value).isNone&&(cS Γ N (.one i) (.Name y tp)&&mE T Γ N e value))))))
 |.Iy _,_=>false
 |.dead,_=>true
noncomputable def kF(T:MT)(Γ:aH)(N:Nm):Ss->List R9->Bool
 |.nil,xs=>bW xs
 |.cons s r,xs=>if rk s then true else if u0 s then kF T Γ N r xs else cy xs λ x xs=>mS T Γ N s x&&kF T Γ N r xs
end
structure Dt(g:Gs)(T:MT)(K:RH)(n:Nat)(C f:P3)(fd:Sx):Prop where
 E2:MX g T K n
 ek:oV g K C f fd
 Gl:g.cls=.ref C
 exc:Xn K P1 T.exc=some (some (.ref C))
section
variable{g:Gs}{T:MT}{K:RH}{n:Nat}{Γ:aH}{N:Nm}{C f:P3}{fd:Sx}
theorem bd.dead:bd g Γ N n .dead x:=λ W A fr env ρ φ M s Nx R X L hA hN hL er st hw=>TG hw
theorem dZ.dead:dZ g Γ N n (.cons .dead r) xs:=λ W A fr env ρ φ M s Nx R X L hA hN hL er st hw=>TG hw
theorem pV(h:(a||b)=true):a=true∨b=true:=by
 cases a with
 |true=>exact .inl rfl
 |false=>exact .inr h
theorem AF(he:aj g Γ N n e value)(hm:cS Γ N t target=true)(h:By N t value target=true):bd g Γ N n (.asg t e) (.Assign [target] value pos):=by
 have h1:=cZ (af h).1
 have h2:=(af h).2
 generalize q:kX N value target=o at h2
 cases o with
 |none=>cases h2
 |some o=>
  cases o with
  |none=>exact .asg he hm h1 q λ names e=>nomatch e
  |some names=>exact .asg he hm h1 q λ names e=>by cases e;exact⟨aJ (af h2).1,aJ (af h2).2⟩
mutual
theorem CY(mx:Dt g T K n C f fd):∀(s:S) (Γ:aH) (N:Nm) (x:R9),mS T Γ N s x=true->bd g Γ N n s x
 |.asg t e,Γ,N,_,h=>cQ h λ ts value pos h=>bO (mo:=λ ts=>bd _ _ _ _ _ (.Assign ts value pos)) h λ target h=>by
  have hm:=(af h).1
  rcases pV (af h).2 with h|h
  ·exact AF (aG mx.E2 e Γ N value (af h).2).1 hm (af h).1
  ·revert hm
   refine bR (mo:=λ target=>cS Γ N t target=true->bd _ _ _ _ _ (.Assign [target] value pos)) h λ y Fl h hm=> ?_
   cases t with
   |many _=>cases h
   |one i=>
    have h:=(af h).2
    exact wv (mo:=λ e=>bd g Γ N n (.asg (.one i) e) _) (af h).2 λ mu cl h2=>(q8 mx.E2 cl Γ N value h2).asg mu i y Fl pos hm (af h).1
 |.EI o a e,Γ,N,_,h=>cQ h λ ts xe pos h=>bO (mo:=λ ts=>bd _ _ _ _ _ (.Assign ts xe pos)) h λ t h=>cR (mo:=λ t=>bd _ _ _ _ _ (.Assign [t] xe pos)) h λ xo at_ zz h=>
  .EI mx.E2.fx (aG mx.E2 e Γ N xe (af (af h).2).1).1 (aG mx.E2 o Γ N xo (af (af h).2).2).1 ((mx.E2.aN a).trans (ar (af h).1))
 |.EY o k e,Γ,N,_,h=>cQ h λ ts xe pos h=>bO (mo:=λ ts=>bd _ _ _ _ _ (.Assign ts xe pos)) h λ t h=>d8 (mo:=λ t=>bd _ _ _ _ _ (.Assign [t] xe pos)) h λ xo xk zz h=>
  .EY (aG mx.E2 e Γ N xe (af h).1).1 (aG mx.E2 o Γ N xo (af (af h).2).1).1 (aG mx.E2 k Γ N xk (af (af h).2).2).1
 |.app o e,Γ,N,_,h=>nj h λ x pos h=>gc (mo:=λ x=>bd _ _ _ _ _ (.Expr x pos)) h λ xo nm ap xs p hl hb h=>bO (mo:=λ xs=>bd _ _ _ _ _ (.Expr (.Call (.Attribute xo nm ap) xs [] p) pos)) h λ xe h=>by
  cases ar (af h).1
  exact .app (aG mx.E2 o Γ N xo (af (af (af h).2).2).1).1 (aG mx.E2 e Γ N xe (af (af (af h).2).2).2).1 hb (af (af h).2).1 hl
 |.ret e,Γ,N,_,h=>qP h λ v p h=>cw (mo:=λ v=>bd _ _ _ _ _ (.Return v p)) h λ y h=>.ret (aG mx.E2 e Γ N y h).1
 |.ED t a b,Γ,N,_,h=>x0 h λ xt xa xb zz h=>.ED (aG mx.E2 t Γ N xt (af h).1).2 (hJ mx a Γ N xa (af (af h).2).1) (hJ mx b Γ N xb (af (af h).2).2)
 |.E1 t it body,Γ,N,_,h=>wq h λ target xi xb el p h=>bl (mo:=λ el=>bd _ _ _ _ _ (.For target xi xb el p)) (af h).1 (by
  obtain⟨Jp,hi,Gb⟩:=q7 mx.E2 it Γ N _ _ (af (af (af (af h).2).2).2).1
  exact .E1 hi Gb (af (af (af h).2).2).1 (hJ mx body Γ N xb (af (af (af (af h).2).2).2).2) (jz (af (af h).2).1))
 |.EV t body,Γ,N,_,h=>sM h λ xt xb el p h=>bl (mo:=λ el=>bd _ _ _ _ _ (.While xt xb el p)) (af h).1 (.EV (aG mx.E2 t Γ N xt (af (af h).2).1).2 (hJ mx body Γ N xb (af (af h).2).2))
 |.EH es,Γ,N,_,h=>sN h λ e c p h=>eY (mo:=λ c=>bd _ _ _ _ _ (.Raise e c p)) (af h).1 (cw (mo:=λ e=>bd _ _ _ _ _ (.Raise e none p)) (af h).2 λ e h=>
  eV (mo:=λ e=>bd _ _ _ _ _ (.Raise (some e) none p)) h λ y q xs p2 h=>by
   have h2:=(af (af h).2).2
   have h3:=(af h2).2
   exact .EH mx.E2.fx mx.ek mx.Gl (af h).1 (ar (af (af h).2).1▸mx.exc) (cz mx.E2 es Γ N xs (af h3).2).ok (af h2).1 ((pV (af h3).1).imp ar ar))
 |.Gu i e,Γ,N,_,h=>wn h λ b hs el fb p h=>bl (mo:=λ el=>bd _ _ _ _ _ (.Try b hs el fb p)) (af h).1 (bl (mo:=λ fb=>bd _ _ _ _ _ (.Try b hs [] fb p)) (af (af h).2).1
  (bO (mo:=λ b=>bd _ _ _ _ _ (.Try b hs [] [] p)) (af (af h).2).2 λ b h=>bO (mo:=λ hs=>bd _ _ _ _ _ (.Try [b] hs [] [] p)) h λ hd h=>cQ (mo:=λ b=>bd _ _ _ _ _ (.Try [b] [hd] [] [] p)) h λ ts value ap h=>
   bO (mo:=λ ts=>bd _ _ _ _ _ (.Try [.Assign ts value ap] [hd] [] [] p)) h λ t h=>bR (mo:=λ t=>bd _ _ _ _ _ (.Try [.Assign [t] value ap] [hd] [] [] p)) h λ y tp h=>by
    cases hd with
    |ExceptHandler ty nm hb hp=>
    exact eY (mo:=λ nm=>bd _ _ _ _ _ (.Try [.Assign [.Name y tp] value ap] [.ExceptHandler ty nm hb hp] [] [] p)) (af h).1 (cw (mo:=λ ty=>bd _ _ _ _ _ (.Try [.Assign [.Name y tp] value ap] [.ExceptHandler ty none hb hp] [] [] p)) (af h).2 λ ty h=>
     bR (mo:=λ ty=>bd _ _ _ _ _ (.Try [.Assign [.Name y tp] value ap] [.ExceptHandler (some ty) none hb hp] [] [] p)) h λ z zp h=>bO (mo:=λ hb=>bd _ _ _ _ _ (.Try [.Assign [.Name y tp] value ap] [.ExceptHandler (some (.Name z zp)) none hb hp] [] [] p)) h λ s2 h=>
     cQ (mo:=λ s2=>bd _ _ _ _ _ (.Try [.Assign [.Name y tp] value ap] [.ExceptHandler (some (.Name z zp)) none [s2] hp] [] [] p)) h λ Kp v2 Kl h=>bO (mo:=λ Kp=>bd _ _ _ _ _ (.Try [.Assign [.Name y tp] value ap] [.ExceptHandler (some (.Name z zp)) none [.Assign Kp v2 Kl] hp] [] [] p)) h λ t2 h=>
     bR (mo:=λ t2=>bd _ _ _ _ _ (.Try [.Assign [.Name y tp] value ap] [.ExceptHandler (some (.Name z zp)) none [.Assign [t2] v2 Kl] hp] [] [] p)) h λ y2 KW h=>ct (mo:=λ v2=>bd _ _ _ _ _ (.Try [.Assign [.Name y tp] value ap] [.ExceptHandler (some (.Name z zp)) none [.Assign [.Name y2 KW] v2 Kl] hp] [] [] p)) h λ c k kp h=>by
      cases aJ (af h).1
      cases ar (af (af h).2).1
      have h2:=(af (af h).2).2
      have h3:=(af (af h2).2).2
      exact .Gu mx.E2.fx mx.ek mx.Gl (aG mx.E2 e Γ N value (af (af h3).2).2).1 (QO.mp (af h3).1) (af (af h3).2).1 (af h2).1 (ar (af (af h2).2).1▸mx.exc))))
 |.Iy _,_,_,_,h=>nomatch h
 |.dead,_,_,_,_=>.dead
theorem hJ(mx:Dt g T K n C f fd):∀(ss:Ss) (Γ:aH) (N:Nm) (xs:List R9),kF T Γ N ss xs=true->dZ g Γ N n ss xs
 |.nil,_,_,_,h=>bl h .nil
 |.cons s r,Γ,N,xs,h=>by
  by_cases hd:rk s=true
  ·cases s<;>first|exact .dead|cases hd
  ·by_cases hf:u0 s=true
   ·have ih:=hJ mx r Γ N xs
    cases s<;>first|exact .Iy (ih h)|cases hf
   ·have h:(if rk s=true then true else if u0 s=true then kF T Γ N r xs else cy xs λ x xs=>mS T Γ N s x&&kF T Γ N r xs)=true:=h
    rw[if_neg hd,if_neg hf] at h
    exact bK h λ x xs h=>.cons (CY mx s Γ N x (af h).1) (hJ mx r Γ N xs (af h).2)
end
end
end Mine
end
section
namespace Mine
open PySem
noncomputable def nm(l:List (String×Nat)):List (Str×Nat):=l.map λ p=>(PD p.1,p.2)
noncomputable def qK:List aH:=[nm [("self",0),("top",1),("places",2)],nm [("self",0)],nm [("number",0)],nm [("top",0),("below",1),("size",2)],nm [("value",0)],nm [("one",0),("other",1),("first",2),("second",3),("places",4)],nm [("one",0),("other",1),("places",2),("top",3),("below",4),("scale",5)],nm [("one",0),("other",1),("first",2),("second",3)],nm [("self",0),("text",1)],nm [("self",0),("head",1),("octets",2)],nm [("self",0),("number",1),("generation",2)],nm [("value",0)],nm [("value",0)],nm [("kind",0),("value",1)],nm [("value",0),("kind",1)],nm [("self",0),("table",1),("trailer",2)],nm [("self",0),("value",1),("here",2),("hop",3),("generation",4),("found",5)],nm [("self",0),("head",1),("key",2)],nm [("self",0),("value",1),("number",2)],nm [("self",0)],nm [("self",0),("rows",1)],nm [("self",0),("name",1),("count",2),("base",3),("table",4),("most",5),("tint",6),("inks",7)],nm [],nm [("name",0)],nm [("self",0),("shelf",1),("resources",2),("opener",3)],nm [("self",0),("value",1)],nm [("self",0),("name",1),("found",2)],nm [("shelf",0),("resources",1),("value",2),("opener",3)],nm [("source",0),("value",1),("deep",2),("found",3),("word",4)],nm [("source",0),("name",1),("deep",2),("value",3)],nm [("source",0),("name",1),("deep",2),("value",3),("found",4)],nm [("value",0),("count",1)],nm [("self",0),("data",1)],nm [("self",0)],nm [("self",0),("count",1),("value",2)],nm [("data",0),("bits",1),("count",2),("source",3)],nm [("self",0),("width",1),("height",2),("bits",3),("count",4)],nm [("self",0)],nm [("self",0)],nm [("levels",0),("count",1)],nm [("octets",0),("frame",1),("size",2),("rows",3),("number",4),("row",5)],nm [("rows",0),("width",1),("height",2),("found",3),("down",4),("row",5)],nm [("sample",0),("bits",1),("low",2),("high",3),("steps",4),("above",5),("below",6),("shared",7),("first",8),("last",9),("places",10)],nm [("sample",0),("bits",1),("low",2),("high",3),("places",4),("above",5),("below",6)],nm [("frame",0),("is_indexed",1)],nm [("pixel",0),("bits",1),("pairs",2),("places",3)],nm [("pixel",0),("ranges",1),("sample",2),("span",3)],nm [("rows",0),("low",1),("painted",2)],nm [("rows",0)],nm [("shelf",0),("head",1),("key",2),("value",3)],nm [("shelf",0),("head",1),("value",2)],nm [("shelf",0),("head",1),("bits",2)],nm [("shelf",0),("head",1),("count",2)],nm [("shelf",0),("head",1),("frame",2),("is_indexed",3),("given",4),("numbers",5)],nm [("shelf",0),("resources",1),("head",2),("opener",3),("value",4),("found",5)],nm [("shelf",0),("resources",1),("head",2),("opener",3),("space",4)],nm [("shelf",0),("resources",1),("stream",2),("opener",3),("frame",4),("is_indexed",5)],nm [("shelf",0),("mask",1),("frame",2),("numbers",3),("number",4)],nm [("shelf",0),("stream",1),("opener",2),("frame",3),("low",4),("high",5)],nm [("shelf",0),("stream",1),("opener",2),("places",3),("frame",4),("pairs",5),("rows",6)],nm [("shelf",0),("resources",1),("stream",2),("opener",3),("places",4),("soft",5),("mask",6),("frame",7),("is_indexed",8),("ranges",9),("rows",10)],nm [("script",0),("cells",1)],nm [("well",0),("many",1),("digit",2)],nm [("well",0),("shelf",1),("value",2)],nm [("well",0),("shelf",1),("plain",2),("head",3),("key",4),("value",5)],nm [("well",0),("width",1),("height",2),("bits",3),("count",4),("ends",5),("rows",6),("down",7),("row",8),("across",9)],nm [("rows",0),("bits",1),("found",2),("row",3),("pixel",4),("more",5),("total",6),("octets",7),("turn",8),("size",9),("sample",10)],nm [("shelf",0),("stream",1)],nm [("well",0),("top",1),("kind",2)],nm [("above",0),("below",1),("places",2),("size",3)],nm [("well",0),("shelf",1),("places",2),("is_wrong",3),("rows",4),("plain",5),("steps",6),("due",7),("bits",8),("width",9),("height",10),("low",11),("high",12),("key",13),("value",14)],nm [("well",0),("shelf",1),("is_wrong",2),("rows",3),("plain",4),("way",5),("painting",6),("due",7),("width",8),("height",9),("key",10),("value",11)],nm [("well",0),("rows",1),("bits",2),("count",3),("is_wrong",4),("pixel",5),("ends",6),("spot",7),("due",8),("row",9),("parts",10),("low",11),("hits",12),("at",13)],nm [("cell",0),("many",1),("old",2)],nm [("rows",0),("width",1),("height",2),("picked",3)],nm [("shelf",0),("stream",1),("places",2),("heard",3)],nm [("script",0),("well",1),("rows",2),("plain",3),("due",4),("is_refused",5),("stream",6),("before",7),("bent",8),("soft_way",9),("mask_way",10),("shelf",11),("places",12),("name",13),("count",14),("bits",15),("width",16),("height",17),("mask",18),("lit",19),("soft",20),("shades",21)]]
noncomputable def CP:Tb:=⟨(nm [("sign_of",2),("rounded_quotient",3),("decimal_of",4),("at_one_scale",5),("over",6),("common_divisor",7),("kind_of",11),("is_number",12),("told_plain",13),("told",14),("device_spaces",22),("device_space",23),("space_of",27),("space_within",28),("space_by_name",29),("default_space",30),("low_bits",31),("samples",35),("cut_pixels",39),("sample_rows",40),("scaled_rows",41),("decoded_value",42),("decoded_number",43),("default_decode",44),("pixel_numbers",45),("is_keyed",46),("stencil_rows",47),("truth_numbers",48),("whole_in",49),("is_stencil",50),("depth_in",51),("frame_in",52),("decode_pairs",53),("image_space",54),("image_frame",55),("image_rows",56),("key_ranges",57),("painted_rows",58),("soft_rows",59),("opacity_rows",60),("_law_well",61),("_law_dip",62),("_law_behind",63),("_law_head",64),("_law_pixels",65),("_law_laid",66),("_law_open",67),("_law_end",68),("_law_near",69),("_law_soft",70),("_law_stencil",71),("_law_ranges",72),("_law_middle",73),("_law_scaled",74),("_law_heard",75),("law",76),("told_objects",14)]),(nm [("Decimal",0),("Name",1),("String",2),("Stream",3),("Reference",4),("Shelf",5),("Space",6),("Source",7),("HighBitsIn",8),("Lattice",9)]),(nm [("MOST_HOPS",0),("MOST_SPACES",1),("OCTET",2),("DEPTHS",3)])⟩
noncomputable def Dh:List Str:=["top","places","text","octets","is_hex","head","number","generation","table","trailer","name","count","base","most","tint","inks","shelf","resources","opener","data","at","held","width","height","bits"]
noncomputable def Bu:List Str:=["told","fetch","get","add","numbers","named","left","take","row_octets","top"]
noncomputable def gO:MT:=⟨CP,λ i=>Dh.getD i "",λ i=>Bu.getD i "","PaintFault",λ c=>decide (c<i4.length)⟩
noncomputable def Bl:List Nat:=[87,150,185,192,199,206,213,220,234,277,298,319,326,333,338,353,360,367,395,409,421,443,464,471,492,499,506,521,528,535,542,591,605,612,619,638,653,660,667,679,686,691,698,705,710,715,722,727,732,739,746,753,760,765,772,779,786,791,796,801,806,811,818,825,830,835,842,849,856,863,868,873,878,883,888,893,898]
noncomputable def As:List Nat:=[167,237,259,280,308,424,453,509,629,670]
noncomputable def DH:List String:=["Decimal.__init__","Decimal.told","sign_of","rounded_quotient","decimal_of","at_one_scale","over","common_divisor","Name.__init__","Stream.__init__","Reference.__init__","kind_of","is_number","told_plain","told","Lookup.__init__","Lookup.fetch","Lookup.get","Shelf.add","Shelf.numbers","Shelf.told","Space.__init__","device_spaces","device_space","Source.__init__","Source.fetch","Source.named","space_of","space_within","space_by_name","default_space","low_bits","HighBitsIn.__init__","HighBitsIn.left","HighBitsIn.take","samples","Lattice.__init__","Lattice.row_octets","Lattice.top","cut_pixels","sample_rows","scaled_rows","decoded_value","decoded_number","default_decode","pixel_numbers","is_keyed","stencil_rows","truth_numbers","whole_in","is_stencil","depth_in","frame_in","decode_pairs","image_space","image_frame","image_rows","key_ranges","painted_rows","soft_rows","opacity_rows","_law_well","_law_dip","_law_behind","_law_head","_law_pixels","_law_laid","_law_open","_law_end","_law_near","_law_soft","_law_stencil","_law_ranges","_law_middle","_law_scaled","_law_heard","law"]
end Mine
end
section
namespace Mine
open PySem PySem.W PySem.Calls PyProof.Rows PySem.SeqAt
noncomputable def zh(x:PJ)(f:Int->Bool):Bool:=if h:x.ctorIdx=4 then UQ (motive:=λ zz=>Bool) x h λ j zz=>f j else false
theorem yb{f:Int->Bool}{mo:PJ->Prop}(h:zh x f=true)(k:∀j t,f j=true->mo (.int j t)):mo x:=
 aU h λ h0=>UQ (motive:=λ x=>∀h0:x.ctorIdx=4,UQ (motive:=λ zz=>Bool) x h0 (λ j zz=>f j)=true->mo x) x h0 (λ j t zz=>k j t) h0
noncomputable def zi(x:PJ)(f:Array UInt8->Bool):Bool:=if h:x.ctorIdx=7 then T4 (motive:=λ zz=>Bool) x h λ j zz=>f j else false
theorem yc{f:Array UInt8->Bool}{mo:PJ->Prop}(h:zi x f=true)(k:∀j t,f j=true->mo (.bytes j t)):mo x:=
 aU h λ h0=>T4 (motive:=λ x=>∀h0:x.ctorIdx=7,T4 (motive:=λ zz=>Bool) x h0 (λ j zz=>f j)=true->mo x) x h0 (λ j t zz=>k j t) h0
noncomputable def pW(x:PJ)(f:P3->Bool):Bool:=if h:x.ctorIdx=10 then UP (motive:=λ zz=>Bool) x h f else false
theorem l8{f:P3->Bool}{mo:PJ->Prop}(h:pW x f=true)(k:∀a,f a=true->mo (.ref a)):mo x:=
 aU h λ h0=>UP (motive:=λ x=>∀h0:x.ctorIdx=10,UP (motive:=λ zz=>Bool) x h0 f=true->mo x) x h0 (λ a zz=>k a) h0
noncomputable def jv(x:Data)(f:Array PJ->Bool):Bool:=if h:x.ctorIdx=2 then Vl (motive:=λ zz=>Bool) x h λ a zz=>f a else false
theorem l6{x:Data}{f:Array PJ->Bool}{mo:Data->Prop}(h:jv x f=true)(k:∀a n,f a=true->mo (.seq a n)):mo x:=
 aU h λ h0=>Vl (motive:=λ x=>∀h0:x.ctorIdx=2,Vl (motive:=λ zz=>Bool) x h0 (λ a zz=>f a)=true->mo x) x h0 (λ a n zz=>k a n) h0
noncomputable def kz(x:Data)(f:Sx->Bool):Bool:=if h:x.ctorIdx=7 then UV (motive:=λ zz=>Bool) x h f else false
theorem pi{x:Data}{f:Sx->Bool}{mo:Data->Prop}(h:kz x f=true)(k:∀a,f a=true->mo (.func a)):mo x:=
 aU h λ h0=>UV (motive:=λ x=>∀h0:x.ctorIdx=7,UV (motive:=λ zz=>Bool) x h0 f=true->mo x) x h0 (λ a zz=>k a) h0
noncomputable def oF(x:FuncBody)(f:List R9->Bool):Bool:=match x with|.stmts l=>f l|.expr _=>false
theorem nh{x:FuncBody}{f:List R9->Bool}{mo:FuncBody->Prop}(h:oF x f=true)(k:∀l,f l=true->mo (.stmts l)):mo x:=by
 cases x with
 |stmts l=>exact k l h
 |expr e=>cases h
theorem t9{α:Type}{a:Array α}(h:a.toList.isEmpty=true):a= #[]:=Xm.mp (QR.mp h)
noncomputable def B6(v:V)(x:PJ):Bool:=match v with
 |.none=>decide (x=.none)
 |.int i=>zh x λ j=>i==j
 |.bytes b=>zi x λ a=>b.isEmpty&&a.toList.isEmpty
 |_=>false
noncomputable def yL:List V->List PJ->Bool
 |[],xs=>bW xs
 |v::vs,xs=>cy xs λ x xs=>B6 v x&&yL vs xs
noncomputable def dv(K:RH)(v:V)(x:PJ):Bool:=match v with
 |.tup vs=>pW x λ a=>bD (K.lookup a) λ o=>decide (o.cls=.type "tuple")&&(o.dict.isNone&&(o.slots.toList.isEmpty&&jv o.data λ arr=>decide (vs.length<=100)&&yL vs arr.toList))
 |v=>B6 v x
noncomputable def B5(K:RH):List V->List PJ->Bool
 |[],xs=>bW xs
 |v::vs,xs=>cy xs λ x xs=>dv K v x&&B5 K vs xs
section
variable{pl:Pl}{P:QN}{B:QG}{K:RH}
theorem wW(h:B6 v x=true):VR pl P [] (λ zz=>False) B v x:=by
 cases v<;>first|cases h|skip
 ·exact(aJ h:x=.none)
 ·exact yb (mo:=λ x=>∃t,x=.int _ t) h λ j t h=>⟨t,congrArg (Value.int · t) (ar h).symm⟩
 ·exact yc (mo:=so _) h λ a t h=>by
   cases QR.mp (af h).1
   exact⟨Rv _,t,congrArg (Value.bytes · t) (t9 (af h).2)⟩
theorem AU:∀{vs:List V} {xs:List PJ},yL vs xs=true->am pl P [] (λ zz=>False) B vs xs:=by
 intro vs
 induction vs with
 |nil=>
  intro y1 h
  exact bl (mo:=λ xs=>xs=[]) h rfl
 |cons y2 vs ih=>
  intro y3 h
  exact bK (mo:=VC _ _) h λ x xs h=>⟨x,xs,rfl,wW (af h).1,ih (af h).2⟩
theorem zH(hK:K.In B)(h:dv K v x=true):VR pl P [] (λ zz=>False) B v x:=by
 cases v<;>first|exact wW h|skip
 refine l8 (mo:=ii iI _ _ _ _) h λ a h=> ?_
 generalize hl:K.lookup a=o at h
 cases o with
 |none=>cases h
 |some o=>
  obtain⟨c,d,dt,sl⟩:=o
  have h:(decide (c=.type "tuple")&&(d.isNone&&(sl.toList.isEmpty&&jv dt _)))=true:=h
  obtain⟨h1,h⟩:=af h
  obtain⟨h2,h⟩:=af h
  obtain⟨h3,h⟩:=af h
  cases aJ h1
  cases QO.mp h2
  cases t9 h3
  revert hl
  exact l6 (mo:=λ dt=>K.lookup a=some ⟨_,none,dt,#[]⟩->_) h λ arr m h hl=>⟨a,arr.toList,m,rfl,id,hK a _ hl,PO (aJ (af h).1) (by decide),AU (af h).2⟩
theorem B4(hK:K.In B):∀{vs:List V} {xs:List PJ},B5 K vs xs=true->am pl P [] (λ zz=>False) B vs xs:=by
 intro vs
 induction vs with
 |nil=>
  intro y1 h
  exact bl (mo:=λ xs=>xs=[]) h rfl
 |cons y2 vs ih=>
  intro y3 h
  exact bK (mo:=VC _ _) h λ x xs h=>⟨x,xs,rfl,zH hK (af h).1,ih (af h).2⟩
end
noncomputable def w0(K:RH)(Hi:List V)(np:Nat)(v:PJ):Bool:=
 (decide (v=.none)&&bW Hi)||pW v λ T=>bD (K.lookup T) λ o=>jv o.data λ arr=>B5 K Hi arr.toList&&decide (arr.toList.length<=np)
noncomputable def C5(K:RH)(T:MT)(F:Fn)(Γ:aH)(fd:Sx):Bool:=
 codeIn K fd.code fd.qualname&&(fd.closure.isEmpty&&(fd.globals==P1&&(fd.builtins==QV&&(fd.scope.kind==.function&&(!fd.scope.isGenerator&&(!fd.scope.isCoroutine&&
 (fd.params.posonlyargs.isEmpty&&(fd.params.args.map (·.arg)==(Γ.take F.np).map (·.1)&&(fd.params.vararg.isNone&&(fd.params.kwonlyargs.isEmpty&&(fd.params.kwarg.isNone&&
 (decide ((Γ.take F.np).map (·.1)).Nodup&&(decide (((Γ.take F.np).map (·.1)).length=F.np)&&((((Γ.take F.np).map (·.1)).zipIdx.all λ p=>Γ.lookup p.1==some p.2)&&(decide (Γ.map (·.2)).Nodup&&
 (((Γ.take F.np).map (·.1)).all (du fd.scope.names)&&(fd.scope.names.all (λ p=>decide (p.2≠.free))&&(w0 K F.Ft F.np fd.defaults&&oF fd.body λ body=>kF T Γ fd.scope.names F.body body))))))))))))))))))
noncomputable def lp(K:RH)(T:MT)(a:P3)(F:Fn)(Γ:aH):Bool:=bD (K.lookup a) λ o=>kz o.data λ fd=>C5 K T F Γ fd
theorem wZ{K:RH}(hK:K.In g.B)(h:w0 K Hi np v=true):vB g K Hi np v:=by
 rcases pV h with h|h
 ·exact⟨[],.inl ⟨aJ (af h).1,rfl⟩,bl (mo:=λ l=>am _ _ _ _ _ l []) (af h).2 rfl,Rv _⟩
 ·refine l8 h λ T0 h=> ?_
  generalize hT:K.lookup T0=o2 at h
  cases o2 with
  |none=>cases h
  |some o2=>
   have h:jv o2.data _=true:=h
   generalize hd2:o2.data=d2 at h
   refine l6 (mo:=λ d2=>o2.data=d2->vB g K Hi np (.ref T0)) h (λ arr m h hd2=> ?_) hd2
   exact⟨arr.toList,.inr ⟨T0,o2,m,rfl,hT,hd2⟩,B4 hK (af h).1,aJ (af h).2⟩
inductive zO(g:Gs)(K:RH)(T:MT)(f:Nat)(F:Fn)(Γ:aH):Prop
 |mk (o:Obj) (fd:Sx) (body:List R9) (ps:List Str):Cz g K f F Γ o fd body ps->kF T Γ fd.scope.names F.body body=true->zO g K T f F Γ
theorem yD{g:Gs}{T:MT}{K:RH}{f:Nat}{F:Fn}{Γ:aH}(hK:K.In g.B)(h:lp K T (g.pl.FG f) F Γ=true):zO g K T f F Γ:=by
 unfold lp at h
 generalize hl:K.lookup (g.pl.FG f)=o at h
 cases o with
 |none=>cases h
 |some o=>
 have h:kz o.data _=true:=h
 generalize hd:o.data=d at h
 refine pi (mo:=λ d=>o.data=d->zO g K T f F Γ) h (λ fd h hd=> ?_) hd
 refine kR h λ h1 h3 h4 h5 h6 h7 h8 h9 h=> ?_
 refine kR h λ I5 GG Mi KO Mh HE FM Mf h=> ?_
 obtain⟨Me,h⟩:=af h
 obtain⟨O9,h⟩:=af h
 obtain⟨O7,h⟩:=af h
 generalize hb:fd.body=b at h
 refine nh (mo:=λ b=>fd.body=b->zO g K T f F Γ) h (λ body h hb=> ?_) hb
 refine⟨o,fd,body,_,⟨hl,hd,h1,hb,QR.mp h3,ar h4,ar h5,ar h6,cZ h7,cZ h8,QR.mp h9,ar I5,QO.mp GG,QR.mp Mi,QO.mp KO,aJ Mh,aJ HE,
  λ i k e=>ar (QD.mp FM (k,i) (SB.mpr e)),λ x y i a b=>jC (aJ Mf) a b,λ k hk=>(pV (QD.mp Me k hk)).imp ar ar,λ x e=>aJ (QD.mp O9 _ (dq e)) rfl,?_⟩,h⟩
 have Pq:=aJ HE
 refine aa Pq ?_
 exact wZ hK O7
noncomputable def w9(K:RH)(T:MT)(pl:Pl)(cls:List j7)(c:Nat)(C:j7):Bool:=
 makesIn K (pl.EB c)&&(V7 K (.ref (pl.EB c))&&((clsIn K (pl.EB c)).any (λ cd=>cd.hasDict&&Yu cd.mro)&&
 (Rp K (.ref (pl.EB c)) "__getattribute__" ==some (some (.builtin "object.__getattribute__"))&&(Rp K (.ref (pl.EB c)) "__getattr__" ==some none&&
 (Rp K (.ref (pl.EB c)) "__setattr__" ==some (some (.builtin "object.__setattr__"))&&(C.fields.all (λ a=>Rp K (.ref (pl.EB c)) (pl.EF a)==some none)&&
 (decide (C.fields.map pl.EF).Nodup&&(decide (C.fields.length<=1000)&&
 ((C.init.isNone||bD C.init λ f=>Rp K (.ref (pl.EB c)) "__init__" ==some (some (.ref (pl.FG f)))&&typeIn K (.ref (pl.FG f))==some (.type "function"))&&
 (C.meths.all (λ p=>Rp K (.ref (pl.EB c)) (pl.FC p.1)==some (some (.ref (pl.FG p.2)))&&(isFn K (.ref (pl.FG p.2))&& !((C.fields.map pl.EF).contains (pl.FC p.1))))&&
 (cls.zipIdx.all (λ p=>VH K (.ref (pl.EB c)) (.ref (pl.EB p.2))==some (c==p.2))&&
 (["bool","int","list","dict"].all (λ T=>VH K (.ref (pl.EB c)) (.type T)==some false)&&
 (["int","str","bool","NoneType","list","dict","tuple"].all (λ X=>VH K (.type X) (.ref (pl.EB c))==some false)&&
 (plainGet K (pl.EB c) "__class__" &&(hasDictIn K (pl.EB c)&&(Rp K (.ref (pl.EB c)) "__class__" ==some (some (.builtin "object.__class__"))&&XR K (pl.EB c) (.type "object")==some true))))))))))))))))
theorem uY{β:Type}:∀{l:List (Nat×β)} {x:Nat} {k:β},l.lookup x=some k->(x,k)∈l:=by
 intro l
 induction l with
 |nil=>
  intro y1 y2 h
  cases h
 |cons y3 r ih=>
  obtain⟨z,j⟩:=y3
  intro x k h
  rw[Ql] at h
  split at h
  ·rename_i e
   cases h
   rw[beq_iff_eq] at e
   refine aa e ?_;exact R0 ..
  ·exact RF _ (ih h)
theorem di{α:Type}{l:List α}{p:α->Bool}(h:l.all p=true){x:α}(m:x∈l):p x=true:=QD.mp h x m
theorem w7{g:Gs}{T:MT}{K:RH}{cls:List j7}{c:Nat}{C:j7}(hP:∀i,g.pl.P.cls i=cls[i]?)(h:w9 K T g.pl cls c C=true):CB g K c C:=by
 refine kR h λ h1 h2 h3 h4 h5 h6 h7 h8 h=> ?_
 refine kR h λ h9 I5 GG Mi KO Mh HE FM h=> ?_
 obtain⟨Mf,Me⟩:=af h
 refine⟨h1,h2,h3,ar h4,ar h5,ar h6,λ a m=>ar (di h7 m),aJ h8,aJ h9,λ f e=> ?_,λ m f e=> ?_,λ c' C' e=>ar (di Mi (x:=(C',c')) (SB.mpr (hP c'▸e:cls[c']? =some C'))),λ T m=>ar (di KO m),λ X m=>ar (di Mh m),HE,FM,ar Mf,ar Me⟩
 ·rw[e] at I5
  have q:=af I5
  exact⟨ar q.1,ar q.2⟩
 ·have q:=af (di GG (uY e))
  have q2:=af q.2
  exact cg (ar q.1) q2.1 λ m=>QS ((cZ q2.2).symm.trans (So.mpr m))
noncomputable def vK(K:RH)(T:MT)(pl:Pl)(glob:List V):Bool:=
 T.tb.fns.all (λ p=>Xn K P1 p.1==some (some (.ref (pl.FG p.2))))&&(T.tb.Ha.all (λ p=>Xn K P1 p.1==some (some (.ref (pl.EB p.2))))&&
 (T.tb.vals.all (λ p=>bD glob[p.2]? λ t=>bD (Xn K P1 p.1) λ v=>bD v λ v=>dv K t v)&&
 (lv.all (λ x=>Xn K P1 x==some none)&&
 (specialIn K (.builtin "object.__class__") "__get__" ==some (some (.builtin "getset_descriptor.__get__"))&&takesIn K (.builtin "object.__class__")==some true))))
noncomputable def xv(K:RH)(T:MT)(pl:Pl)(cls:List j7):Bool:=cls.zipIdx.all λ p=>w9 K T pl cls p.2 p.1
noncomputable def ua(K:RH)(pl:Pl)(n:Nat):Bool:=(PQ n).all λ f=>V7 K (.ref (pl.FG f))
theorem C4{g:Gs}{T:MT}{K:RH}{cls:List j7}{fns:List Fn}{glob:List V}(hP:∀i,g.pl.P.cls i=cls[i]?)(hF:∀i,g.pl.P.fn i=fns[i]?)(hG:∀i,g.pl.P.glob i=glob[i]?)
  (KB:K.In g.B)(nl:g.B.NoLimit)(big:∃a o,2<=a/\g.B.get? a=some o)(bi:∃mb,g.B.Ns QV mb/\∀x:Str,x≠"__name__" ->mb x=R7 x)
  (h1:vK K T g.pl glob=true)(h2:xv K T g.pl cls=true)(h3:ua K g.pl fns.length=true):Fx g T.tb K:=by
 obtain⟨a1,h⟩:=af h1
 obtain⟨a2,h⟩:=af h
 obtain⟨a3,h⟩:=af h
 obtain⟨a4,h⟩:=af h
 refine⟨KB,nl,big,bi,λ x f e=>ar (di a1 (dq e)),λ x f e=>ar (di a2 (dq e)),λ x k e=> ?_,λ x m=>ar (di a4 m),⟨ar (af h).1,ar (af h).2⟩,
  λ c C e=>w7 hP (di h2 (x:=(C,c)) (SB.mpr (hP c▸e:cls[c]? =some C))),λ f F e=>di h3 (Sk.mpr (PL.mp (hF f▸e:fns[f]? =some F)).1)⟩
 have q:bD glob[k]? (λ t=>bD (Xn K P1 x) λ v=>bD v λ v=>dv K t v)=true:=di a3 (dq e)
 refine aa (hG _) ?_
 refine cw (mo:=λ o=>∃v t,o=some t/\Xn K P1 x=some (some v)/\VR g.pl g.w.params [] (λ zz=>False) g.B t v) q λ t q=> ?_
 refine cw (mo:=λ o=>∃v t',some t=some t'/\o=some (some v)/\VR g.pl g.w.params [] (λ zz=>False) g.B t' v) q λ v q=> ?_
 exact cw (mo:=λ o=>∃v t',some t=some t'/\some o=some (some v)/\VR g.pl g.w.params [] (λ zz=>False) g.B t' v) q λ v q=>⟨v,t,rfl,rfl,zH KB q⟩
noncomputable def kS(K:RH)(T:MT)(pl:Pl):List Fn->List aH->Nat->Bool
 |[],_,_=>true
 |F::fs,gs,i=>cy gs λ Γ gs=>lp K T (pl.FG i) F Γ&&kS K T pl fs gs (i+1)
theorem xr{K:RH}{T:MT}{pl:Pl}:∀{fs:List Fn} {gs:List aH} {i:Nat},kS K T pl fs gs i=true->∀{k:Nat} {F:Fn},fs[k]? =some F->∃Γ,lp K T (pl.FG (i+k)) F Γ=true:=by
 intro fs
 induction fs with
 |nil=>
  intro y1 y2 y3 k F e
  exact nomatch e
 |cons F0 fs ih=>
  intro y4 i h y5
  cases y5 with
  |zero=>
   intro F e
   exact bK (mo:=λ zz=>∃Γ,lp K T (pl.FG i) F Γ=true) h λ Γ gs h=>⟨Γ,PX e▸(af h).1⟩
  |succ k=>
   intro F e
   exact bK (mo:=λ zz=>∃Γ,lp K T (pl.FG (i+(k+1))) F Γ=true) h λ Γ gs h=>(Nat.succ_add_eq_add_succ i k).symm▸ih (af h).2 e
noncomputable def jg(y:Str)(e:P8):Bool:=cx e λ z zz=>z==y
theorem gf{mo:P8->Prop}(h:jg y e=true)(k:∀p,mo (.Name y p)):mo e:=bR h λ z p h=>ar h▸k p
noncomputable def xp(y a:Str)(e:P8):Bool:=dn e λ o b zz=>b==a&&jg y o
theorem xn{mo:P8->Prop}(h:xp y a e=true)(k:∀p q,mo (.Attribute (.Name y p) a q)):mo e:=
 cR h λ o b q h=>gf (mo:=λ o=>mo (.Attribute o b q)) (af h).2 λ p=>(ar (af h).1).symm▸k p q
noncomputable def vq(w:Str)(s:R9):Bool:=dP s λ ts v zz=>eW ts λ t=>xp "self" w t&&jg w v
theorem rV{s:R9}{mo:R9->Prop}(h:vq w s=true)(k:∀p1 p2 p3 p4,mo (.Assign [.Attribute (.Name "self" p1) w p2] (.Name w p3) p4)):mo s:=
 cQ h λ ts v p4 h=>bO (mo:=λ ts=>mo (.Assign ts v p4)) h λ t h=>xn (mo:=λ t=>mo (.Assign [t] v p4)) (af h).1 λ p1 p2=>gf (mo:=λ v=>mo (.Assign [.Attribute _ _ _] v p4)) (af h).2 λ p3=>k p1 p2 p3 p4
noncomputable def tV(l:List R9):Bool:=cy l λ s1 l=>pj l λ s2 s3=>vq "what" s2&&(vq "at" s3&&oH s1 λ e zz=>kB e λ fn xs kw p5=>bW kw&&dn fn λ o b p2=>
 jg "Exception" o&&(b==("__init__" :Str)&&(p2.endLine==p5.line&&pj xs λ x y=>jg "self" x&&jg "what" y)))
noncomputable def C6(K:RH)(fd:Sx):Bool:=
 codeIn K fd.code fd.qualname&&(oF fd.body tV&&(fd.closure.isEmpty&&(fd.globals==P1&&(fd.builtins==QV&&(fd.scope.kind==.function&&(!fd.scope.isGenerator&&(!fd.scope.isCoroutine&&
 (fd.params.posonlyargs.isEmpty&&(fd.params.args.map (·.arg)==[("self" :Str),"what","at"]&&(fd.params.vararg.isNone&&(fd.params.kwonlyargs.isEmpty&&(fd.params.kwarg.isNone&&
 (fd.scope.names.lookup ("self" :Str)==some .local&&(fd.scope.names.lookup ("what" :Str)==some .local&&(fd.scope.names.lookup ("at" :Str)==some .local&&(fd.scope.names.lookup ("Exception" :Str)==some .globalImplicit&&
 (fd.scope.names.all (λ x=>decide (x.2≠.cell))&&pW fd.defaults λ T=>bD (K.lookup T) λ o=>jv o.data λ arr=>eW arr.toList λ zz=>true)))))))))))))))))
noncomputable def wV(K:RH)(C f:P3):Bool:=
 my K C&&(nG K C&&(V7 K (.ref C)&&(Rp K (.ref C) "__init__" ==some (some (.ref f))&&(typeIn K (.ref f)==some (.type "function")&&(Rp K (.ref C) "__setattr__" ==some (some (.builtin "object.__setattr__"))&&
 (Rp K (.ref C) "what" ==some none&&(Rp K (.ref C) "at" ==some none&&(Xn K P1 "Exception" ==some none&&
 bD (K.lookup f) λ o=>kz o.data λ fd=>C6 K fd))))))))
theorem u5{l:List R9}(h:tV l=true):ig l:=
 bK h λ s1 l h=>gY (mo:=λ l=>ig (s1::l)) h λ s2 s3 h=>by
  obtain⟨h1,h⟩:=af h
  obtain⟨h2,h⟩:=af h
  refine rV (mo:=λ s2=>ig [s1,s2,s3]) h1 λ p7 p8 p9 Ju=>rV (mo:=λ s3=>ig [s1,_,s3]) h2 λ Kw Kv Ku Kt=>nj (mo:=λ s1=>ig [s1,_,_]) h λ e p6 h=>kA (mo:=λ e=>ig [.Expr e p6,_,_]) h λ fn xs kw p5 h=>
   bl (mo:=λ kw=>ig [.Expr (.Call fn xs kw p5) p6,_,_]) (af h).1 (cR (mo:=λ fn=>ig [.Expr (.Call fn xs [] p5) p6,_,_]) (af h).2 λ o b p2 h=> ?_)
  obtain⟨h1,h⟩:=af h
  obtain⟨h2,h4⟩:=af h
  obtain⟨h3,h5⟩:=af h4
  cases ar h2
  exact gf (mo:=λ o=>ig [.Expr (.Call (.Attribute o _ p2) xs [] p5) p6,_,_]) h1 λ p1=>gY (mo:=λ xs=>ig [.Expr (.Call (.Attribute _ _ p2) xs [] p5) p6,_,_]) h5 λ x y h=>
   gf (mo:=λ x=>ig [.Expr (.Call (.Attribute _ _ p2) [x,y] [] p5) p6,_,_]) (af h).1 λ p3=>gf (mo:=λ y=>ig [.Expr (.Call (.Attribute _ _ p2) [_,y] [] p5) p6,_,_]) (af h).2 λ p4=>⟨p1,p2,p3,p4,p5,p6,p7,p8,p9,Ju,Kw,Kv,Ku,Kt,h3,rfl⟩
theorem wU{g:Gs}{K:RH}{C f:P3}(h:wV K C f=true)(hx:findCls K (.type "Exception") (.type "type") "__init__" =some (.val (.builtin "Exception.__init__"))):∃fd,oV g K C f fd:=by
 refine kR h λ h1 h2 h3 h4 h5 h6 h7 h8 h=> ?_
 obtain⟨h9,h⟩:=af h
 generalize hl:K.lookup f=o at h
 cases o with
 |none=>cases h
 |some o=>
 have h:kz o.data _=true:=h
 generalize hd:o.data=d at h
 refine pi (mo:=λ d=>o.data=d->∃fd,oV g K C f fd) h (λ fd h hd=>⟨fd,?_⟩) hd
 refine kR h λ k1 k2 k3 k4 k5 k6 k7 k8 h=> ?_
 refine kR h λ k9 Og Lh Of Oe Od Oc Oa h=> ?_
 obtain⟨N9,h⟩:=af h
 obtain⟨N8,h⟩:=af h
 refine⟨h1,h2,h3,ar h4,ar h5,ar h6,ar h7,ar h8,⟨o,hl,hd⟩,k1,nh (mo:=λ b=>∃l,b=.stmts l/\ig l) k2 λ l h=>⟨l,rfl,u5 h⟩,QR.mp k3,ar k4,ar k5,ar k6,cZ k7,cZ k8,QR.mp k9,ar Og,
  QO.mp Lh,QR.mp Of,QO.mp Oe,ar Od,ar Oc,ar Oa,ar N9,λ x hx=>aJ (di N8 hx),?_,ar h9,hx⟩
 refine l8 (mo:=λ v=>∃T oT m dv,v=.ref T/\K.lookup T=some oT/\oT.data=.seq #[dv] m) h λ T h=> ?_
 generalize hT:K.lookup T=o2 at h
 cases o2 with
 |none=>cases h
 |some o2=>
  have h:jv o2.data _=true:=h
  generalize hd2:o2.data=d2 at h
  refine l6 (mo:=λ d2=>o2.data=d2->∃T' oT m dv,QJ T=.ref T'/\K.lookup T'=some oT/\oT.data=.seq #[dv] m) h (λ arr m h hd2=> ?_) hd2
  obtain⟨l⟩:=arr
  exact bO (mo:=λ l=>o2.data=.seq ⟨l⟩ m->_) h (λ dv zz hd2=>⟨T,o2,m,dv,rfl,hT,hd2⟩) hd2
noncomputable def fT:Pl:=⟨λ c=>As.getD c 0,λ f=>Bl.getD f 0,gO.aN,gO.mN,λ zz=> "",ak⟩
end Mine
end
section
open PySem PySem.W PySem.Calls PyProof.Rows PySem.SeqAt
namespace Mine
noncomputable section
abbrev DI:R9->Bool|.FunctionDef n .. =>n==PD "law" |_=>false
noncomputable def qv:Ug:={P0 with main:={P0.main with body:=P0.main.body.filter DI}}
noncomputable def hU:List Str:=P0.boundNames.filter λ n=> !(n==PD "law")
noncomputable def iz:List Obj->Nat->RH
 |[],_=>[]
 |o::r,n=>bif (alive o).isSome then(n,o)::iz r (n+1) else iz r (n+1)
theorem AQ(o:Obj)(r:List Obj)(n:Nat):iz (o::r) n=bif (alive o).isSome then(n,o)::iz r (n+1) else iz r (n+1):=rfl
noncomputable def dE(h:QG):RH:=iz h.objs.toList 0
noncomputable def yO(K:RH):Bool:=wV K 71 36&&vK K gO fT oB&&xv K gO fT i4&&ua K fT 77&&Xn K P1 "PaintFault" ==some (some (.ref 71))
noncomputable def zn(s:PK):=(yO (dE s.heap),findCls (dE s.heap) (.type "Exception") (.type "type") "__init__",s.heap.nsMap P1 "law",s.heap.objs.size)
theorem xM:∀w os,(lZ w os).map (λ s=>(staticsOk (RK P0.main.body) (QZ w.params) s.abs.heap&&Yw P0 s.abs.heap&&gensDone s.abs&&laidKept (QZ w.params) s.abs.heap,openSeen qv hU (RK P0.main.body) (recOk []) true s.abs))=
  some (true,openGood qv hU):=by
 intro w os
 unfold lZ oU
 refine aa SS ?_;refine aa SN ?_;refine aa SM ?_;refine aa SL ?_;refine aa Fast.te4187177175401517315 ?_;refine aa Fast.te5923862056798008813 ?_;refine aa SR ?_
 kernel_rfl
end
end Mine
end
section
open PySem PySem.W PySem.Calls PyProof.Rows PySem.SeqAt
namespace Mine
noncomputable section
theorem Af:∀w os,(lZ w os).map (λ s=>zn s.abs)=some (true,some (.val (.builtin "Exception.__init__")),some (.ref 898),899):=by
 intro w os
 unfold lZ oU
 refine aa SS ?_;refine aa SN ?_;refine aa SM ?_;refine aa SL ?_;refine aa SR ?_
 kernel_rfl
end
end Mine
end
section
open PySem PySem.W PySem.Calls PyProof.Rows PySem.SeqAt
namespace Mine
noncomputable section
theorem Ag:∀w os,(lZ w os).map (λ s=>kS (dE s.abs.heap) gO fT kj qK 0)=some true:=by
 intro w os
 unfold lZ oU
 refine aa SS ?_;refine aa SN ?_;refine aa SM ?_;refine aa SL ?_;refine aa SR ?_
 kernel_rfl
end
end Mine
end
section
open PySem PySem.W PySem.Calls PyProof.Rows PySem.SeqAt
namespace Mine
noncomputable section
noncomputable def eU:OpenLaw:=RU
theorem CO:(sreFenced P0.main&&((moduleNames P0.main.body).isEmpty||lookedIntoSs (moduleNames P0.main.body) P0.main.body))=true:=by kernel_rfl
theorem CN:namesResolve P0=true:=by kernel_rfl
theorem CM:(P0.boundNames.all λ n=> !worldNames.contains n)=true:=by refine aa Vm ?_;kernel_rfl
theorem CL:noRoadLSs {strict:= !(RK P0.main.body).all cThrough.contains,foot:=none,bare:=List.filter (readsOut P0 P0.main.body) [PD "vars",PD "dir",PD "locals"]} P0.main.body=true:=by
 refine aa VF ?_
 kernel_rfl
theorem CK:namesMeet P0 P0.main.body (λ x n=>attrL n)=true:=by refine aa Vn ?_;kernel_rfl
theorem CJ:looksOpen P0=true:=Wc (Wc (Wc (Wc CO CN) CM) CL) CK
theorem CI:eU.row.wellSaid=true:=by
 have e:looksOpen eU.row.prog=true:=CJ
 unfold OpenRow.wellSaid OpenRow.partSaid
 refine aa e ?_;refine aa Vm ?_;refine aa Fast.te12749700546528644094 ?_
 kernel_rfl
theorem CH:eU.wellSaid=true:=by
 unfold OpenLaw.wellSaid
 refine aa CI ?_;refine aa VF ?_;refine aa Fast.te9558739934217749035 ?_;refine aa Fast.te16286561074155671207 ?_;refine aa Fast.te6984425678791042302 ?_;refine aa Vn ?_;refine aa Fast.te12879404354523853263 ?_;refine aa Fast.te482687673346738481 ?_;refine aa Fast.te10792542408131684335 ?_;refine aa Fast.te10501279942588096481 ?_;refine aa Fast.te8179353310426384613 ?_;refine aa Fast.te797321630700447069 ?_
 kernel_rfl
end
end Mine
end
section
open PySem PySem.W PySem.Calls PyProof.Rows PySem.SeqAt
namespace Mine
noncomputable section
theorem AI{loose:List Str}{Xt:PK->Bool}{α:Type}{Yf:PK->α}{Ya:TB->α}{N m₀:Nat}{H:QN->QG}{gs:Array GenState}{d:Drawn}{k:Nat}{ann:TB->Option PJ}
  (a:∀w:TB,(fencedOpening SD p w N).map (λ s=>(s.heap,s.gens,s.drawn,s.toks))=some (H w.params,gs,d,k))
  (b:∀P:QN,((H P).isNs P1&&gs.size==0)=true)(b2:∀P,(H P).objs.size=m₀)(b3:∀w:TB,(H w.params).nsMap P1 "__annotations__" =ann w)
  (c:∀(w:TB) (os:Wa),∃s:PK,topRun SD p w m₀ (ann w) N ⟨H w.params,gs,d,k,os⟩ (topStub p)=some s/\
   (staticsOk (RK p.main.body) (H w.params) s.heap&&Yw p s.heap&&gensDone s&&laidKept (H w.params) s.heap)=true/\
   openSeen q loose (RK p.main.body) Xt true s=openGood q loose/\Yf s=Ya w):LeftO p q loose Xt Yf Ya N:=λ w=>by
 refine ai (V2.mp (a w)) λ HQ e e'=> ?_;rcases HQ with⟨h,gs',d',k',os⟩
 have e1:h=H w.params:=congrArg (·.1) e'
 have e2:gs'=gs:=congrArg (·.2.1) e'
 have e3:d'=d:=congrArg (·.2.2.1) e'
 have e4:k'=k:=congrArg (·.2.2.2) e'
 subst e1 e2 e3 e4
 refine jF (c w os) λ s r l1 l2 l3=> ?_
 have t:topFrom SD p w N ⟨H w.params,gs',d',k',os⟩=some s:=by
  unfold topFrom
  dsimp only
  refine aa (b _) ?_;refine aa (b2 _) ?_;refine aa (b3 _) ?_;refine aa r ?_
  dsimp only [Option.bind]
  refine aa l1 ?_;rfl
 unfold openEnds
 refine aa e ?_;refine aa (Q7 _ _) ?_;refine aa t ?_;refine aa (RS _ _) ?_;refine aa l2 ?_;refine aa l3 ?_;rfl
abbrev YT:=Bool×Bool×Option CFound×Option PJ×Nat
noncomputable def yf(s:PK):YT:=(kS (dE s.heap) gO fT kj qK 0,zn s)
noncomputable def ya:YT:=(true,true,some (.val (.builtin "Exception.__init__")),some (.ref 898),899)
theorem De(P:QN):((QZ P).isNs P1&&(#[]:Array GenState).size==0)=true:=by kernel_rfl
theorem Dd(P:QN):(QZ P).objs.size=11:=by kernel_rfl
theorem three{α β γ δ:Type}{o:Option α}{f:α->β}{g:α->γ}{h:α->δ}{b c d}(x:o.map f=some b)(y:o.map g=some c)(z:o.map h=some d):∃s,o=some s/\f s=b/\g s=c/\h s=d:=by
 cases o with
 |none=>cases x
 |some s=>exact DN s rfl (PX x) (PX y) (PX z)
end
end Mine
end
section
open PySem PySem.W PySem.Calls PyProof.Rows PySem.SeqAt
namespace Mine
noncomputable section
theorem Cm{os:Wa}{s:Tt}(h:lZ w os=some s):topRun SD P0 w 11 (oU w) 6300 ⟨QZ w.params,#[],Ut,U8,os⟩ (topStub P0)=some s.abs:=
 Cn w os▸ui _ _ _ _ h
theorem CZ(w:TB)(os:Wa):∃s:PK,topRun SD P0 w 11 (oU w) 6300 ⟨QZ w.params,#[],Ut,U8,os⟩ (topStub P0)=some s/\
   (staticsOk (RK P0.main.body) (QZ w.params) s.heap&&Yw P0 s.heap&&gensDone s&&laidKept (QZ w.params) s.heap)=true/\
   openSeen qv hU (RK P0.main.body) (recOk []) true s=openGood qv hU/\yf s=ya:=
 have⟨s,h,a,b,c⟩:=three (xM w os) (Af w os) (Ag w os)
 ⟨s.abs,Cm h,congrArg Prod.fst a,congrArg Prod.snd a,congr (congrArg Prod.mk c) b⟩
end
end Mine
end
section
open PySem PySem.W PySem.Calls PyProof.Rows PySem.SeqAt
namespace Mine
noncomputable section
theorem C0:LeftO P0 qv hU (recOk []) yf (λ zz=>ya) 6300:=AI Df De Dd (λ zz=>rfl) CZ
theorem Do:(defOf qv (PD "law")).isSome=true:=by kernel_rfl
noncomputable def dX:DefRec×List (Str×P8):=(defOf qv (PD "law")).get Do
theorem AX:defOf qv (PD "law")=some (dX.1,dX.2):=(Option.some_get Do).symm
theorem x1:(chainsOk qv&&opensWell P0)=true:=by kernel_rfl
theorem x3:(frees eU.row.toRowW&&eU.row.within.isEmpty)=true:=by kernel_rfl
theorem x5:P0.theDef (PD "law")=some (dX.1.params,dX.1.body,dX.1.scope):=by kernel_rfl
theorem x6:kwWritten? dX.1.params.kwonlyargs dX.1.params.kw_defaults=some dX.2:=by kernel_rfl
theorem x7:P0.bare:=⟨rfl,rfl,rfl,rfl,rfl,by decide+kernel⟩
end
end Mine
end
section
open PySem PySem.W PySem.Calls PyProof.Rows PySem.SeqAt
namespace Mine
noncomputable section
theorem x2:(chainsOk qv&&opensWell eU.row.prog&&(frees eU.row.toRowW&&eU.row.within.isEmpty))=true:=Wc x1 x3
theorem x8:eU.row.toRowW.promised:=⟨[.list []],by decide+kernel,by decide+kernel⟩
theorem x9:eU.row.prog.theDef eU.row.name=some (dX.1.params,dX.1.body,dX.1.scope):=x5
theorem D8:defOf qv eU.row.name=some (dX.1,dX.2):=AX
theorem D7:LeftO eU.row.prog qv hU (recOk []) yf (λ zz=>ya) 6300:=C0
theorem D6:(!eU.row.writes||eU.row.records.isEmpty)=true:=by kernel_rfl
theorem D4:∀s,recOk [] s=true->RecFacts eU.row.records s.heap:=λ s e=>recFacts_of e
theorem D3:eU.row.prog.bare:=x7
abbrev ue:=WalkX qv hU (λ zz zz=>True) yf (λ zz=>ya) eU.row.toRowW dX.1 dX.2 λ f vs=>PySem.call f vs
theorem BF(walk:ue):eU.Holds:=holds_law CH λ K5=>
 holds_openX (Xt:=recOk []) (XP:=λ zz zz=>True) D7 (λ zz zz=>trivial) (λ zz zz zz zz zz=>trivial) D8 x9 x6 D4 D6 K5 x2 D3 x8 walk
end
end Mine
end
section
open PySem PySem.W PySem.Calls PyProof.Rows PySem.SeqAt
namespace Mine
noncomputable section
set_option tactic.hygienic true in
theorem yB:∀{l:List Obj} {n a:Nat} {o:Obj},(iz l n).lookup a=some o->n<=a/\l[a-n]? =some o/\alive o=some o:=by
 intro l
 induction l with
 |nil=>
  intro y1 y2 y3 h
  cases h
 |cons p r ih=>
  intro n a o h
  have next:(iz r (n+1)).lookup a=some o->n<=a/\(p::r)[a-n]? =some o/\alive o=some o:=λ q=>by
   refine ei (ih q) λ x y z=> ?_
   refine cg (ae 0x905244148185102 rfl n a x) ?_ z
   refine aa (show a-n=(a-(n+1))+1 by exact ae 0x90c184206145209148148185102 rfl n a x) ?_
   exact y
  rw[AQ] at h
  cases hd:(alive p).isSome with
  |false=>rw[hd] at h;exact next h
  |true=>
   rw[hd,cond_true,Ql] at h
   split at h
   ·rename_i e
    rw[beq_iff_eq] at e
    cases h
    subst e
    refine cg (PC _) (by refine aa (UX _) ?_;rfl) ?_
    obtain⟨c,d,dt,sl⟩:=p
    cases dt<;>first|rfl|cases hd
   ·exact next h
theorem yC(h:QG):(dE h).In h:=λ a o e=>by
 refine ei (yB e) λ zz g al=> ?_
 have g':h.objs[a]? =some o:=by simpa using g
 unfold Heap.get?
 refine aa g' ?_
 obtain⟨c,d,dt,sl⟩:=o
 cases dt<;>first|rfl|cases al
noncomputable def Cs:AH:=⟨λ zz=>none,0⟩
abbrev pZ:Prop:=∀is:List Int,is.length<=63->ag ak 60 76 [.list (is.map .int)] Cs (λ v zz=>v=.bool true) (λ zz=>False)
end
end Mine
end
section
open PySem PySem.W PySem.W.X PySem.Calls PyProof.Rows PySem.SeqAt
namespace Mine
noncomputable section
set_option tactic.hygienic true in
theorem wz{K:RH}{h:QG}{N:P3}{mg:Str->Option PJ}{n:Str}{v:PJ}(X:K.In h)(G:h.Ns N mg)(e:Xn K N n=some (some v)):mg n=some v:=by
 refine u9 G λ o es ep ho hd zz hf=> ?_;clear G
 unfold Xn at e
 cases q:K.lookup N with
 |none=>rw[q] at e;cases e
 |some p=>
  rw[q] at e
  have:=X _ _ q
  rw[ho] at this
  cases this
  obtain⟨c,d,dt,sl⟩:=o
  cases hd
  dsimp only at e
  refine aE (hf _) ?_
  unfold nsFind findBy
  refine aE Array.find?_toList ?_
  cases he:es.toList.find? (·.key.isStr n) with
  |some x=>rw[he] at e;cases e;rfl
  |none=>rw[he] at e;dsimp only at e;split at e<;>cases e
noncomputable def gs(w:TB)(B:QG):Gs:=⟨fT,P0,w,B,.ref 71⟩
theorem Ei(y:yf s=ya)(hk:∀b o,s.heap.get? b=some o->B.get? b=some o)(nl:B.NoLimit)(bi:∃mb,B.Ns QV mb/\∀x:Str,x≠"__name__" ->mb x=R7 x)
  (big:∃a o,2<=a/\B.get? a=some o):(dE s.heap).In B/\Fx (gs w B) gO.tb (dE s.heap)/\Cy (gs w B) (dE s.heap):=by
 have KB:(dE s.heap).In B:=λ a o e=>hk a o (yC s.heap a o e)
 have y1:kS (dE s.heap) gO fT kj qK 0=true:=congrArg (·.1) y
 have y2:yO (dE s.heap)=true:=congrArg (·.2.1) y
 have y3:findCls (dE s.heap) (.type "Exception") (.type "type") "__init__" =some (.val (.builtin "Exception.__init__")):=congrArg (·.2.2.1) y
 unfold yO at y2
 rw[PY,PY,PY,PY] at y2
 obtain⟨⟨⟨⟨c1,c2⟩,c3⟩,c4⟩,c5⟩:=y2
 have fx:Fx (gs w B) gO.tb (dE s.heap):=C4 (g:=gs w B) (T:=gO) (cls:=i4) (fns:=kj) (glob:=oB) (λ zz=>rfl) (λ zz=>rfl) (λ zz=>rfl) KB nl big bi c2 c3 c4
 obtain⟨fd,ek⟩:=wU (g:=gs w B) c1 y3
 refine cg KB fx λ f F hF=> ?_
 obtain⟨Γ,h⟩:=xr y1 (k:=f) hF
 rw[TO] at h
 obtain⟨o,Pf,body,ps,fk,hm⟩:=yD (g:=gs w B) KB h
 exact DL Γ o Pf body ps fk λ n hc=>hJ (T:=gO) (K:=dE s.heap) (n:=n) (C:=71) (f:=36) (fd:=fd) ⟨⟨fx,hc,λ zz=>rfl,λ zz=>rfl,λ c hc=>(by
  have LM:c<i4.length:=of_decide_eq_true hc
  show(i4[c]?).isSome=true
  refine aa (PG LM) ?_;rfl)⟩,ek,rfl,eq_of_beq c5⟩ F.body Γ _ _ hm
theorem yn:dX.1.name=PD "law" :=by kernel_rfl
theorem za{w:TB}{s:PK}:St fT w.params s.heap bt [] [] Cs s:=
 ⟨⟨rfl,λ zz zz e=>(by cases e),λ zz zz zz zz e=>(by cases e),λ b q=>q.casesOn λ zz zz e zz zz=>(by cases e),λ b q=>q.casesOn λ zz zz e zz zz=>(by cases e)⟩,λ zz zz e=>e,trivial,λ zz e=>(by cases e),λ zz e=>(by cases e),λ zz e=>e.elim,λ zz e=>e.elim⟩
theorem D0:cj callerA [] 60:=⟨rfl,rfl,rfl,by decide,by decide⟩
theorem ym(H:pZ){w:TB}{s₀ s₁:PK}{mg mb:Str->Option PJ}{a b:P3}{is:List Int}{xs:List PJ}{as:List P3}(y:yf s₀=ya)(L:Laid eU.row.records w s₀ s₁ [ofPy (PyData.list (is.map PyData.int))] [.ref b] as)
  (nl:s₁.heap.NoLimit)(bi:s₁.heap.Ns QV mb/\∀x:Str,x≠"__name__" ->mb x=R7 x)(Tg:s₁.heap.Ns P1 mg)(Kz:mg dX.1.name=some (.ref a))(hg:s₁.gens= #[])
  (hL:s₁.heap.IsList b xs.toArray)(hI:WZ xs is)(hlen:is.length<=63){Q E:PJ->PK->Prop}
  (hQ:∀s',(∀b o,s₁.heap.get? b=some o->s'.heap.get? b=some o)->s'.os=s₁.os->s'.gens= #[]->Q (.bool true) s'):
  PR (PW P0 w) callerA (PySem.call (.ref a) [.ref b]) Q E s₁:=by
 have hb:=script_obj L hL
 have Gr:2<=b:=by
  have h1:=(script_at L).1
  have h2:s₀.heap.objs.size=899:=congrArg (·.2.2.2.2) y
  refine aa h1 ?_;refine aa h2 ?_;decide
 refine ei (Ei (w:=w) y L.keeps nl ⟨mb,bi⟩ ⟨b,_,Gr,hb⟩) λ KB fx fns=> ?_
 have ea:a=fT.FG 76:=by
  have e:=wz KB Tg (fx.Mk (PD "law") 76 (by rfl))
  rw[yn,e] at Kz
  cases Kz
  rfl
 subst ea
 have hv:am fT w.params [] (ow bt [] Cs) s₁.heap [.list (is.map .int)] [.ref b]:=by
  exact VC.mk _ _ rfl (ii.mk b xs 0 rfl (λ q=>q.elim id λ q=>q.casesOn λ zz zz e zz zz=>(by cases e)) hb (by refine aa (PE _) ?_;exact PO hlen (by decide)) (am.ints (g:=gs w s₁.heap) hI)) rfl
 refine PT (lu (g:=gs w s₁.heap) fx (yY fx fns 60) D0 za hv (H is hlen)) ?_ ?_
 ·rintro v s' ⟨x,φ',M',rfl,st,sp,r⟩
  subst r
  exact hQ s' st.base sp.os (sp.gens.trans hg)
 ·rintro v s' ⟨e,φ',M',_,h,_⟩
  exact h.elim
set_option tactic.hygienic true in
theorem zU(H:pZ):ue:=by
 intro w s₀ s₁ mg mb G y a o pm cd doc dV kV ho hd KF hD Kz hg args vals as L G6 Lv Ou IN Jh
 have T:=G.T
 have nl:s₁.heap.NoLimit:=T.nolimit
 have bi:s₁.heap.Ns QV mb/\∀x:Str,x≠"__name__" ->mb x=R7 x:=⟨T.b,T.builtins⟩
 have Tg:s₁.heap.Ns P1 mg:=T.g
 clear T
 wrow_args G6 Lv Ou IN Jh
 rename List Int=>is
 rename WZ _ _=>hI
 rename Heap.IsList _ _ _=>hL
 rename¬_<_=>hc
 refine ym H y L nl bi Tg Kz hg hL hI (ae 0x241fc0037e89300a72277e001bf01 rfl is.length hc) λ s' hk IT ON=> ?_
 exact fj (.inl ⟨_,_,_,rfl,raisesW_false (by wrow_none_raised),.bool true,by wrow_post,unshared_nil⟩) (OldK.of_keep hk) IT (AllBare.of_eq ON)
theorem yq(H:pZ):RU.Holds:=BF (zU H)
end
end Mine
end
namespace Mine
open PySem
theorem dO{α:Type}(a:α)(k:α->Prop):aB (some a) k=k a:=rfl
theorem ta(h:vs.length=F.np)(h2:F.np<=F.slots):eQ F vs=some (vs.map some++Qn (F.slots-F.np) none):=by
 unfold eQ
 refine aa (if_pos ⟨ae 0x905244349102 rfl vs.length F.np h,ae 0x90414d148349103 rfl vs.length F.np F.Ft.length h,h2⟩) ?_;refine aa h ?_;refine aa (UX _) ?_;refine aa (Nat.sub_zero _) ?_;refine aa List.drop_length ?_;refine aa (Qa _) ?_;rfl
theorem Ev(F:Fn)(hf:ak.fn f=some F)(h:vs.length=F.np)(h2:Nat.ble F.np F.slots=true)
  (q:bq ak (ag ak n) F.body (vs.map some++Qn (F.slots-F.np) none) M (λ zz M'=>Q .none M') Q X):ag ak (n+1) f vs M Q X:=by
 rewrite[ee];refine aa hf ?_;refine aa (dO _ _) ?_;refine aa (ta h (WH h2)) ?_;exact q
section
variable(a b:Int)(x y:V)(M:AH)(s t:String)(l m:List V)
theorem Dg:gr .add (.list l) (.list m)=if l.length+m.length<=aq then some (.list (l++m)) else none:=rfl
theorem D2:kM (.int a) (.int b)=some (a==b):=rfl
end
theorem C8:ak.cls 0=some ⟨[0,1],false,(some 0),[(0,1)]⟩:=rfl
theorem ite_t(h:r=true)(a:A):(r=true->A)/\(r=false->B):=⟨λ zz=>a,λ h2=>(by rw[h] at h2;cases h2)⟩
theorem ite_f(h:r=false)(b:B):(r=true->A)/\(r=false->B):=⟨λ h2=>(by rw[h] at h2;cases h2),λ zz=>b⟩
theorem or_f(h:r=false)(a:A):(r=false->A)/\(r=true->B):=⟨λ zz=>a,λ h2=>(by rw[h] at h2;cases h2)⟩
theorem or_t(h:r=true)(b:B):(r=false->A)/\(r=true->B):=⟨λ h2=>(by rw[h] at h2;cases h2),λ zz=>b⟩
theorem ao{α:Type}[Decidable c]{o:Option α}{K:α->Prop}(h:c)(q:aB o K):aB (if c then o else none) K:=by refine aa (if_pos h) ?_;exact q
theorem ah{α:Type}{o:Option α}{a:α}{K:α->Prop}(h:o=some a)(q:K a):aB o K:=by refine aa h ?_;exact q
noncomputable def bC:Nat->Ss->Ss
 |0,s=>s
 |n+1,.cons _ r=>bC n r
 |_+1,.nil=>.nil
local macro_rules
  | `(tactic| infer_instance) => `(tactic| first | refine ite_t rfl ?_ | refine ite_f rfl ?_ | refine or_f rfl ?_ | refine or_t rfl ?_)
local macro_rules
  | `(tactic| and_intros) => `(tactic| ((conv => whnf); repeat (infer_instance; conv => whnf)))
structure Pu(M M':AH):Prop where
 next:M.next<=M'.next
 same:∀i,i<M.next->M'.m i=M.m i
theorem Pu.refl(M:AH):Pu M M:=⟨PC _,λ zz zz=>rfl⟩
theorem Pu.trans(a:Pu M M1)(b:Pu M1 M2):Pu M M2:=⟨PO a.next b.next,λ i h=>(b.same i (PI h a.next)).trans (a.same i h)⟩
theorem aF(M:AH)(i:Nat)(o:O):(M.set i o).m i=some o:=by simp[AH.set]
theorem be(M:AH)(o:O)(h:j≠i):(M.set i o).m j=M.m j:=by simp[AH.set,h]
theorem cA(M:AH)(h:j≠i):(M.kill i).m j=M.m j:=by simp[AH.kill,h]
theorem bL(M:AH)(o:O):(M.new o).m M.next=some o:=by simp[AH.new]
theorem md(M:AH)(o:O)(h:j≠M.next):(M.new o).m j=M.m j:=by simp[AH.new,h]
noncomputable def fA(i:Int):Int:=if i=0 then 0 else if i>0 then 1 else-1
theorem mK(h:Q (.int (fA i)) M):ag ak (n+1) 2 [.int i] M Q X:=by
 refine Ev pf rfl rfl rfl ?_
 unfold fA at h
 refine⟨λ e=> ?_,λ e=> ?_⟩
 ·rw[beq_iff_eq] at e
  rw[if_pos e] at h
  exact h
 ·rw[beq_eq_false_iff_ne] at e
  rw[if_neg e] at h
  refine⟨λ e2=> ?_,λ e2=> ?_⟩
  ·rw[if_pos (of_decide_eq_true e2)] at h;exact h
  ·rw[if_neg (of_decide_eq_false e2)] at h;exact h
noncomputable def rq(t b:Int):Int:=QL (2*t.natAbs+b.natAbs) (2*b.natAbs)*fA t*fA b
theorem tj(i:Int):(fA i).natAbs<=1:=by unfold fA;split<;>(try split)<;>simp
theorem CG(hb:b≠0)(ht:t.natAbs<2^200)(Gr:b.natAbs<2^200)(h:Q (.int (rq t b)) M):ag ak (n+2) 3 [.int t,.int b] M Q X:=by
 have hm:QL (2*t.natAbs+b.natAbs) (2*b.natAbs)=(((2*t.natAbs+b.natAbs)/(2*b.natAbs):Nat):Int):=by
  refine aa (RG _ (ae 0x43e238e46010 rfl b)) ?_;push_cast;rfl
 have hs:(2*t.natAbs+b.natAbs)/(2*b.natAbs)<=2*t.natAbs+b.natAbs:=Nat.div_le_self _ _
 unfold rq at h
 have a1:=tj t
 have a2:=tj b
 have hL:cU=2^256:=rfl
 rw[hm] at h
 refine Ev fZ rfl rfl rfl ?_
 refine ao (ae 0x91c2c001fce38e442c001fe20ac807f39110 rfl t ht) ?_
 refine ao (ae 0x91c2c001fce38e442c001fe20ac807f39110 rfl b Gr) ?_
 refine ao (ae 0x92470b0007f38f88e3912601a03e238e442b201fce44980681110 rfl b hb Gr) ?_
 refine aa hm ?_
 generalize (2*t.natAbs+b.natAbs)/(2*b.natAbs)=q at*
 refine mK ?_
 have a3:((q:Int)*fA t).natAbs<=q:=by
  refine aa (Sl _ _) ?_
  calc _<=q*1:=Qk (ae 0x144e39101 rfl q) a1
   _=q:=W8 _
 refine ao (ae 0x92492470b0007f3930b0007f38e44104e48f88e4510613930ac807f3920ac807f39131 rfl q t b (fA t) ht Gr a1 hs) ?_
 refine mK ?_
 refine ao (ae 0x92492491c2c001fce4c2c001fce50144e50104e48f88e4510613930ac807f3920ac807f39141 rfl q t b (fA b) (SC q*fA t) ht Gr a2 hs a3) ?_
 exact h
noncomputable def nd:Int->Nat->Int×Nat
 |t,0=>(t,0)
 |t,p+1=>if QK t 10=0 then nd (QL t 10) p else(t,p+1)
theorem uQ(t:Int)(p:Nat):nd t (p+1)=if QK t 10=0 then nd (QL t 10) p else(t,p+1):=rfl
noncomputable def ej(t:Int)(p:Nat):V:=.inst 0 [.int (nd t p).1,.int (nd t p).2]
theorem sG{n:Nat}{i:Nat}{t:Int}{p:Nat}(hM:M.m i=some (.inst 0 []))
  (h:Q .none ((M.set i (.inst 0 [.int (nd t p).1])).set i (.inst 0 [.int (nd t p).1,.int (nd t p).2]))):ag ak (n+1) 0 [.ref i,.int t,.int p] M Q X:=by
 refine Ev gp rfl rfl rfl ?_
 have fin:∀(t:Int) (p:Int),Q V.none ((M.set i (.inst 0 [.int t])).set i (.inst 0 [.int t,.int p]))->bq ak (ag ak n) (bC 1 gp.body) [some (.ref i),some (.int t),some (.int p)] M (λ zz M'=>Q .none M') Q X:=by
  intro t p h
  refine ah hM ?_
  and_intros
  refine ah (aF _ _ _) ?_
  exact h
 refine⟨p+1,?_⟩
 induction p generalizing t with
 |zero=>
  repeat infer_instance
  exact fin _ _ h
 |succ p ih=>
  have e1:decide ((0:Int)<((p+1:Nat):Int))=true:=decide_eq_true (ae 0x14e06146001 rfl p)
  refine ite_t e1 ?_
  refine⟨λ h0=> ?_,λ h0=> ?_⟩
  ·and_intros
   refine aa (show((p+1:Nat):Int)-1=(p:Int) by exact ae 0x63910a138185101 rfl p) ?_
   refine ih ?_
   rw[uQ,if_pos (by simpa using h0)] at h
   exact h
  ·rw[uQ,if_neg (by simpa using h0)] at h
   exact fin _ _ h
theorem Pu.made{M M2:AH}(o:O)(h1:M2.next=M.next+1)(h2:∀j,j≠M.next->M2.m j=M.m j):Pu M (M2.kill M.next):=
 ⟨by show M.next<=M2.next;exact ae 0x905148306149102 rfl M2.next M.next h1,λ j hj=>by refine aa (cA _ (ae 0x92600d244249102 rfl j M.next hj)) ?_;refine aa (h2 j (ae 0x92600d244249102 rfl j M.next hj)) ?_;rfl⟩
theorem aR{n:Nat}{t:Int}{p:Nat}(h:∀M',Pu M M'->Q (ej t p) M'):cK ak (ag ak (n+1)) 0 [.int t,.int p] M Q X:=by
 unfold cK
 refine aa C8 ?_;refine aa (dO _ _) ?_;refine aa (dO _ _) ?_
 refine sG (bL M _) ?_
 refine aa (aF _ _ _) ?_
 refine cg rfl rfl ?_
 exact h _ (Pu.made (.inst 0 []) rfl λ j hj=>by refine aa (be _ _ hj) ?_;refine aa (be _ _ hj) ?_;refine aa (md _ _ hj) ?_;rfl)
theorem fR(h:Q (.tup [a,b]) M):ag ak (n+1) 1 [.inst 0 [a,b]] M Q X:=by
 refine Ev jc rfl rfl rfl ?_
 exact h
theorem mQ(h:Q (.inst 0 vs) M):ag ak (n+1) 4 [.inst 0 vs] M Q X:=by
 refine Ev gS rfl rfl rfl ?_;repeat infer_instance
 exact h
theorem oo(h:∀M',Pu M M'->Q (.inst 0 [.int i,.int 0]) M'):ag ak (n+2) 4 [.int i] M Q X:=by
 refine Ev gS rfl rfl rfl ?_;repeat infer_instance
 exact aR (p:=0) h
section
variable(M:AH)(vs:List V)(i:Int)(b:List UInt8)(ks:List String)(s:String)(x y:V)
theorem Eb(t:Ty):fO M .none t=some false:=by cases t<;>rfl
theorem Ea(t:Ty):fO M (.str s) t=some false:=by cases t<;>rfl
theorem D9(t:Ty):fO M (.tup vs) t=some false:=by cases t<;>rfl
theorem DE(c:Bool)(d:Nat):fO M (.bool c) (.cls d)=some false:=rfl
theorem DA(d:Nat):fO M (.int i) (.cls d)=some false:=rfl
theorem Dz(d:Nat):fO M (.list vs) (.cls d)=some false:=rfl
theorem DB(d:Nat):fO M (.dict ks vs) (.cls d)=some false:=rfl
theorem DD(c d:Nat):fO M (.inst c vs) (.cls d)=some (c==d):=rfl
theorem Eg:dc M (.list vs)=some vs:=rfl
theorem bU{i:Int}(h:i.natAbs<2^29):cm i=true:=decide_eq_true h
end
section
variable(x a b c d:V)
end
noncomputable def fi(w h b c:Nat):V:=.inst 9 [.int w,.int h,.int b,.int c]
noncomputable def uD(n:Nat):V:=.inst 4 [.int n,.int 0]
noncomputable def sh(t:Nat):V:=.inst 5 [.ref t,.dict [] []]
section
variable(x v0 v1 v2 v3 v4 v5 v6:V)
end
theorem uh{T:an->AH->(Bool->AH->Prop)->Prop}{B:an->AH->(an->AH->Prop)->Prop}{N:an->AH->Prop}(J:Nat->an->AH->Prop)(m:Nat){M:AH}(h0:J m ρ M)
  (step:∀m ρ M,J m ρ M->∀K:an->AH->Prop,(∀m' ρ' M',m'<m->J m' ρ' M'->K ρ' M')->T ρ M λ b M1=>(b=true->B ρ M1 K)/\(b=false->N ρ M1)):∃n,vF T B n ρ M N:=by
 have key:∀n m ρ M,m<n->J m ρ M->vF T B n ρ M N:=by
  intro n
  induction n with
  |zero=>intro m ρ M h;exact(ae 0x980281101 rfl m h:False).elim
  |succ n ih=>exact λ m ρ M h j=>step m ρ M j _ λ m' ρ' M' h' j'=>ih m' ρ' M' (ae 0x92424930914c206149103 rfl m n m' h h') j'
 exact⟨m+1,key _ m ρ M (ae 0x206145101 rfl m) h0⟩
theorem cD{T:V->an->AH->(an->AH->Prop)->Prop}{N:an->AH->Prop}(J:List V->an->AH->Prop):∀(items:List V) {ρ:an} {M:AH},J items ρ M->(∀ρ M,J [] ρ M->N ρ M)->
  (∀x xs ρ M,J (x::xs) ρ M->∀K:an->AH->Prop,(∀ρ' M',J xs ρ' M'->K ρ' M')->T x ρ M K)->u3 T items ρ M N:=by
 intro items
 induction items with
 |nil=>
  intro y1 y2 h hN y3
  exact hN _ _ h
 |cons x xs ih=>
  intro y4 y5 h hN step
  exact step x xs _ _ h _ λ zz zz j=>ih j hN step
theorem cT{T:V->AH->(List V->AH->Prop)->Prop}{Q:List V->AH->Prop}(J:List V->List V->AH->Prop):∀(items:List V) {acc:List V} {M:AH},J items acc M->(∀acc M,J [] acc M->Q acc M)->
  (∀x xs acc M,J (x::xs) acc M->∀K:List V->AH->Prop,(∀r M',(acc++r).length<=aq->J xs (acc++r) M'->K r M')->T x M K)->bP T items acc M Q:=by
 intro items
 induction items with
 |nil=>
  intro y1 y2 h hN y3
  exact hN _ _ h
 |cons x xs ih=>
  intro y4 y5 h hN step
  exact step x xs _ _ h _ λ zz zz hl j=>⟨hl,ih j hN step⟩
theorem ra{T:V->AH->(List V->AH->Prop)->Prop}{Q:List V->AH->Prop}{f:V->V}{items:List V}{M:AH}(hl:items.length<=aq)
  (ht:∀x∈items,∀M',Pu M M'->∀K:List V->AH->Prop,(∀M2,Pu M M2->K [f x] M2)->T x M' K)(hQ:∀M',Pu M M'->Q (items.map f) M'):bP T items [] M Q:=by
 refine cT (λ rest acc M'=>∃done,items=done++rest/\acc=done.map f/\Pu M M') items ⟨[],rfl,rfl,.refl _⟩ (λ acc M' j=> ?_) λ x xs acc M' j K hK=> ?_
 ·refine bz j λ done e EL p=> ?_;clear j;subst EL
  rw[Qa] at e;subst e
  exact hQ _ p
 ·refine bz j λ done e EL p=> ?_;clear j;subst EL
  refine ht x (by refine aa e ?_;simp) M' p K λ M2 p2=>hK _ _ ?_ ⟨done++[x],by refine aa e ?_;simp,by simp,p2⟩
  have:items.length=done.length+(xs.length+1):=by refine aa e ?_;simp
  simp;exact ae 0x249070d40a67e0c29060830a69220e1a814cfd103 rfl items.length done.length xs.length hl this
inductive br:V->Int->Nat->Prop
 |int (i:Int):br (.int i) i 0
 |dec (t:Int) (p:Nat):br (.inst 0 [.int t,.int p]) t p
theorem eG(hv:br v t p)(h:∀M',Pu M M'->Q (.inst 0 [.int t,.int p]) M'):ag ak (n+2) 4 [v] M Q X:=by
 cases hv with
 |int=>exact oo h
 |dec=>exact mQ (h _ (.refl _))
theorem dj(k:Nat):((10:Int)^k)=((10^k:Nat):Int):=by push_cast;rfl
theorem j9(h:k<=m):10^k<=10^m:=T7 (by decide) h
theorem tf(h:k<=20):((10:Int)^k).natAbs<=10^20:=by refine aa (dj _) ?_;refine aa (Qj _) ?_;exact j9 h
theorem kW(h:k<=20):((10:Int)^k).natAbs<cU:=Nat.lt_of_le_of_lt (tf h) (by decide)
theorem qt(hv:br v t1 p1)(hu:br u t2 p2)(b1:t1.natAbs<cU)(b2:t2.natAbs<cU)(q1:p1<=20)(q2:p2<=20)
  (h:∀M',Pu M M'->Q (.tup [.int (t1*10^(max p1 p2-p1)),.int (t2*10^(max p1 p2-p2)),.int (max p1 p2:Nat)]) M'):ag ak (n+3) 5 [v,u] M Q X:=by
 refine Ev i8 rfl rfl rfl ?_
 refine eG hv λ M1 k1=> ?_
 refine eG hu λ M2 k2=> ?_
 have Ls:(if(p1:Int)<(p2:Int) then(p2:Int) else(p1:Int))=((max p1 p2:Nat):Int):=by
  split<;>(first|(rename_i z0;exact ae 0x918e0d244e48539239102 rfl p1 p2 z0)|(rename_i z0;exact ae 0x918e0d244e44980539239102 rfl p1 p2 z0))
 have e1:(((max p1 p2:Nat):Int)-(p1:Int)).toNat=max p1 p2-p1:=ae 0xc244349134239138349102 rfl p1 p2
 have e2:(((max p1 p2:Nat):Int)-(p2:Int)).toNat=max p1 p2-p2:=ae 0xc248349134239238349102 rfl p1 p2
 and_intros
 refine aa Ls ?_
 refine ao ⟨by decide,by decide,ae 0x408e44e0d246002 rfl p1 p2,ae 0x9120607f08e48e0d1481d1102 rfl p2 p1 q2⟩ ?_
 refine aa e1 ?_
 refine ao ⟨b1,kW (ae 0x90740920d1481d1102 rfl p2 p1 q2)⟩ ?_
 refine ao ⟨by decide,by decide,ae 0x408e48e0d246002 rfl p1 p2,ae 0x9120607f08e48e0d2441d1102 rfl p1 p2 q1⟩ ?_
 refine aa e2 ?_
 refine ao ⟨b2,kW (ae 0x90740920d2441d1102 rfl p1 p2 q1)⟩ ?_
 exact h _ (k1.trans k2)
noncomputable def b8(a b:Int)(pl:Nat):Int:=if a<0 then-(QL (2*a.natAbs*10^pl+b) (2*b)) else QL (2*a.natAbs*10^pl+b) (2*b)
theorem dW(a b:Nat):QL (a:Int) (b:Int)=((a/b:Nat):Int):=by
 refine aa (RG _ (ae 0x10e46001 rfl b)) ?_;rfl
theorem me(a:Int)(b:Nat)(pl:Nat):QL (2*a.natAbs*10^pl+(b:Int)) (2*(b:Int))=(((2*a.natAbs*10^pl+b)/(2*b):Nat):Int):=by
 refine aE (dW _ _) ?_;push_cast;rfl
theorem Ah(a:Int)(hb:0<b)(pl:Nat):rq (a*10^pl) b=b8 a b pl:=by
 obtain⟨b,rfl⟩:=QX (Rm hb)
 unfold rq b8
 refine aa (me _ _ _) ?_
 have e:((a*10^pl).natAbs)=a.natAbs*10^pl:=by rewrite[Sl,dj,Qj];rfl
 have e2:QL (2*((a*10^pl).natAbs:Int)+((b:Int).natAbs:Int)) (2*((b:Int).natAbs:Int))=(((2*a.natAbs*10^pl+b)/(2*b):Nat):Int):=by
  rewrite[<-dW,e,Qj];push_cast;refine aa (UD _ _ _) ?_;rfl
 refine aa e2 ?_
 have hs:fA (b:Int)=1:=by unfold fA;refine aa (if_neg (ae 0x92601a039114e46001 rfl b hb)) ?_;refine aa (if_pos (ae 0x914e46014e46001 rfl b hb)) ?_;rfl
 refine aa hs ?_;refine aa (SP _) ?_
 have hp:0<(10:Int)^pl:=by refine aa (dj _) ?_;have:=Si (a:=10) (n:=pl) (by decide);exact ae 0x24539180246001 rfl (10^pl) this
 rcases Int.lt_trichotomy a 0 with h|h|h
 ·have:fA (a*10^pl)= -1:=by
   have h1:a*10^pl<0:=Int.mul_neg_of_neg_of_pos h hp
   unfold fA;refine aa (if_neg (ae 0x92601a044581110 rfl (a*10^pl) h1)) ?_;refine aa (if_neg (ae 0x926015180581110 rfl (a*10^pl) h1)) ?_;rfl
  refine aa this ?_;refine aa (if_pos h) ?_;omega
 ·subst h
  have:fA (0*10^pl)=0:=by unfold fA;simp
  refine aa this ?_
  have:(2*Int.natAbs 0*10^pl+b)/(2*b)=0:=by
   simp;exact ae 0x808f89144380f89101 rfl b
  refine aa this ?_;simp
 ·have:fA (a*10^pl)=1:=by
   have h1:0<a*10^pl:=Int.mul_pos h hp
   unfold fA;refine aa (if_neg (ae 0x92601a044546010 rfl (a*10^pl) h1)) ?_;refine aa (if_pos (ae 0x915180546010 rfl (a*10^pl) h1)) ?_;rfl
  refine aa this ?_;refine aa (if_neg (ae 0x926016044546010 rfl a h)) ?_;exact ae 0x639142139101 rfl ((2*a.natAbs*10^pl+b)/(2*b))
theorem qW(hk:0<k)(a:Int)(hb:0<b)(pl:Nat):b8 (k*a) (k*b) pl=b8 a b pl:=by
 obtain⟨b,rfl⟩:=QX (Rm hb)
 obtain⟨k,rfl⟩:=QX (Rm hk)
 unfold b8
 refine aa (show(k:Int)*(b:Int)=((k*b:Nat):Int) by push_cast;rfl) ?_;refine aa (me _ _ _) ?_;refine aa (me _ _ _) ?_
 have e:(2*((k:Int)*a).natAbs*10^pl+k*b)/(2*(k*b))=(2*a.natAbs*10^pl+b)/(2*b):=by
  refine aa (Sl _ _) ?_;refine aa (Qj _) ?_;refine aa (show 2*(k*a.natAbs)*10^pl+k*b=k*(2*a.natAbs*10^pl+b) by refine aa (Ui _ _ _) ?_;ac_rfl) ?_;refine aa (show 2*(k*b)=k*(2*b) by ac_rfl) ?_
  exact Nat.mul_div_mul_left _ _ (ae 0x24246014e46001 rfl k hk)
 refine aa e ?_
 have:(k:Int)*a<0 ↔ a<0:=by
  constructor
  ·intro h
   rcases Int.lt_or_le a 0 with q|q
   ·exact q
   ·have:=V0 (Rm hk) q;exact ae 0x924581211180581120 rfl (SC k*a) a h this
  ·intro h;exact Int.mul_neg_of_pos_of_neg hk h
 simp only [this]
theorem Ab{n:Nat}{a b:Int}{pl:Nat}(ha:a.natAbs<2^100)(hb:0<b)(Gr:b<2^100)(hp:pl<=9)
  (h:∀M',Pu M M'->Q (ej (b8 a b pl) pl) M'):ag ak (n+4) 6 [.int a,.int b,.int pl] M Q X:=by
 refine Ev wk rfl rfl rfl ?_
 have hL:cU=2^256:=rfl
 refine qt (.int a) (.int b) (ae 0x90b0007f3910a6407f39110 rfl a ha) (ae 0x2490b0007f391166407f44546010 rfl b hb Gr) (by decide) (by decide) λ M1 k1=> ?_
 simp only [Nat.max_self,UX,U1,SP]
 have hz:(b==0)=false:=by simpa using(show b≠0 by exact ae 0x92601a044546010 rfl b hb)
 have I5:=tf (k:=pl) (ae 0x9074441a5101 rfl pl hp)
 have HY:((10:Int)^pl).natAbs<=10^9:=by refine aa (dj _) ?_;refine aa (Qj _) ?_;exact j9 hp
 have hm:(a*10^pl).natAbs<2^200:=by
  refine aa (Sl _ _) ?_
  calc _<=2^100*10^9:=Qk (ae 0x9066407f3910a6407f39110 rfl a ha) HY
   _<_:=by decide
 refine ite_f hz ?_
 refine ao ⟨by decide,by decide,ae 0x10e46001 rfl pl,ae 0x2448181fce441a5101 rfl pl hp⟩ ?_
 refine aa (PF _) ?_
 refine ao ⟨ae 0x90b0007f3910a6407f39110 rfl a ha,kW (ae 0x9074441a5101 rfl pl hp)⟩ ?_
 refine CG (ae 0x92601a044546010 rfl b hb) hm (ae 0x2490ac807f391166407f44546010 rfl b hb Gr) ?_
 refine aa ((Ah _ hb) _) ?_
 exact aR λ M2 k2=>h _ (k1.trans k2)
theorem Bc(h:Q (.int (Vr a.natAbs b.natAbs)) M):ag ak (n+1) 7 [.int a,.int b] M Q X:=by
 refine Ev gT rfl rfl rfl ?_;and_intros
 generalize a.natAbs=x at*
 generalize hy:b.natAbs=y at*
 clear hy
 refine uh (λ m ρ M'=>M'=M/\∃x:Nat,ρ=[some (.int a),some (.int b),some (.int x),some (.int m)]/\Q (.int (Vr x m)) M) y ⟨rfl,x,rfl,h⟩ ?_
 rintro y ρ M' ⟨rfl,x,rfl,h⟩ K hK
 refine⟨λ h0=> ?_,λ h0=> ?_⟩
 ·have h0:0<y:=by simpa using h0
  refine ao (ae 0x24980680e44246001 rfl y h0) ?_
  and_intros
  refine aa (show QK (x:Int) (y:Int)=((x % y:Nat):Int) by refine aa (SX _ (ae 0x10e46001 rfl y)) ?_;rfl) ?_
  refine hK (x % y) _ _ (Xz x h0) ⟨rfl,y,rfl,?_⟩
  refine aa ((Nat.gcd_comm y) _) ?_;refine aE (Nat.gcd_rec _ _) ?_;refine aa (Nat.gcd_comm _ _) ?_
  exact h
 ·have:y=0:=by simpa using h0
  subst this
  rw[Nat.gcd_zero_right] at h
  exact h
theorem kY:(1:Int)*2^b-1=((2^b-1:Nat):Int):=by
 have:=Si (a:=2) (n:=b) (by decide)
 have e:((2:Int)^b)=((2^b:Nat):Int):=by push_cast;rfl
 refine aa e ?_;exact ae 0x918e0a144284f84e44246001 rfl (2^b) this
theorem ch(h:b<=m):2^b<=2^m:=T7 (by decide) h
noncomputable def dA(s b:Nat)(t1 t2:Int)(p1 p2:Nat):Int:=t1*10^(max p1 p2-p1)*(((2^b-1:Nat):Int)-s)+t2*10^(max p1 p2-p2)*s
noncomputable def dB(b p1 p2:Nat):Nat:=(2^b-1)*10^max p1 p2
theorem dp{a b:Int}{x y:Nat}(h:a.natAbs<=x)(h2:b.natAbs<=y):(a*b).natAbs<=x*y:=by
 refine aa (Sl _ _) ?_;exact Qk h h2
theorem i5(h:k<=m):((10:Int)^k).natAbs<=10^m:=by refine aa (dj _) ?_;refine aa (Qj _) ?_;exact j9 h
theorem w5{s b:Nat}{t1 t2:Int}{p1 p2:Nat}(hb:b<=16)(hs:s<=2^b-1)(b1:t1.natAbs<2^40)(b2:t2.natAbs<2^40)(q1:p1<=4)(q2:p2<=4):(dA s b t1 t2 p1 p2).natAbs<2^90:=by
 have FM:2^b<=2^16:=ch hb
 unfold dA
 have h1:(t1*10^(max p1 p2-p1)*(((2^b-1:Nat):Int)-s)).natAbs<=2^40*10^4*2^16:=dp (dp (ae 0x9062807f3910a2807f39110 rfl t1 b1) (i5 (ae 0x90640920d148191102 rfl p2 p1 q2))) (ae 0x249061007f382391382852061007f4810a149102 rfl s (2^b) hs FM)
 have h2:(t2*10^(max p1 p2-p2)*(s:Int)).natAbs<=2^40*10^4*2^16:=dp (dp (ae 0x9062807f3910a2807f39110 rfl t2 b2) (i5 (ae 0x90640920d244191102 rfl p1 p2 q1))) (ae 0x92418401fce391061007f4810a149102 rfl s (2^b) hs FM)
 exact ae 0x92429681fce0524419c47857e7240ce23c2bf39120 rfl (t1*Re 10^(max p1 p2-p1)*(SC (Re 2^b-Re 1)-SC s)) (t2*Re 10^(max p1 p2-p2)*SC s) h1 h2
theorem rI(hb:1<=b):0<dB b p1 p2:=by
 unfold dB
 have:2^1<=2^b:=ch hb
 exact Vu (ae 0x908285180146201 rfl (2^b) this) (Si (by decide))
theorem zJ(hb:b<=16)(q1:p1<=4)(q2:p2<=4):dB b p1 p2<2^90:=by
 unfold dB
 have FM:2^b<=2^16:=ch hb
 have I5:10^max p1 p2<=10^4:=j9 (ae 0x924190349106448191102 rfl p1 p2 q1 q2)
 calc _<=2^16*10^4:=Qk (ae 0x9061007f0a14418401fd101 rfl (2^b) FM) I5
  _<_:=by decide
theorem lY{n:Nat}{s b:Nat}{t1 t2:Int}{p1 p2:Nat}(EX:1<=b)(hb:b<=16)(hs:s<=2^b-1)(hv:br v t1 p1)(hu:br u t2 p2)(b1:t1.natAbs<2^40)(b2:t2.natAbs<2^40)(q1:p1<=4)(q2:p2<=4)
  (h:∀M' (x y k:Int),Pu M M'->0<k->dA s b t1 t2 p1 p2=k*x->(dB b p1 p2:Int)=k*y->Q (.tup [.int x,.int y]) M'):ag ak (n+4) 42 [.int s,.int b,v,u] M Q X:=by
 refine Ev iq rfl rfl rfl ?_
 have hL:cU=2^256:=rfl
 refine qt hv hu (ae 0x90b0007f3910a2807f39110 rfl t1 b1) (ae 0x90b0007f3910a2807f39110 rfl t2 b2) (ae 0x907444191101 rfl p1 q1) (ae 0x907444191101 rfl p2 q2) λ M1 k1=> ?_
 refine ao ⟨by decide,ae 0x10e46001 rfl b,ae 0x2448181fce441c1101 rfl b hb⟩ ?_
 and_intros
 refine aa (PF _) ?_;refine aa kY ?_
 have FM:2^b<=2^16:=ch hb
 have hp:2^1<=2^b:=ch EX
 have m1:=dp (a:=t1) (b:=10^(max p1 p2-p1)) (x:=2^40) (y:=10^4) (ae 0x9062807f3910a2807f39110 rfl t1 b1) (i5 (ae 0x90640920d148191102 rfl p2 p1 q2))
 have m2:=dp (a:=t2) (b:=10^(max p1 p2-p2)) (x:=2^40) (y:=10^4) (ae 0x9062807f3910a2807f39110 rfl t2 b2) (i5 (ae 0x90640920d244191102 rfl p1 p2 q1))
 refine ao ⟨ae 0x1216000fe7220ce22c2bf39110 rfl (t1*10^(max p1 p2-p1)) m1,ae 0x2490b0007f382391382852061007f4810a149102 rfl s (2^b) hs FM⟩ ?_
 refine ao ⟨ae 0x1216000fe7220ce22c2bf39110 rfl (t2*10^(max p1 p2-p2)) m2,ae 0x9242c001fce391061007f4810a149102 rfl s (2^b) hs FM⟩ ?_
 refine ao ⟨by decide,by decide,ae 0x10e0d246002 rfl p1 p2,ae 0x249120607f38349106448191102 rfl p1 p2 q1 q2⟩ ?_
 and_intros
 refine aa (PF _) ?_
 refine ao ⟨ae 0x90b0007f38e0a14418401fd101 rfl (2^b) FM,kW (ae 0x9241d0349106448191102 rfl p1 p2 q1 q2)⟩ ?_
 refine aa (show((2^b-1:Nat):Int)*10^max p1 p2=(dB b p1 p2:Int) by unfold dB;push_cast;rfl) ?_
 refine aa (show t1*10^(max p1 p2-p1)*(((2^b-1:Nat):Int)-(s:Int))+t2*10^(max p1 p2-p2)*(s:Int)=dA s b t1 t2 p1 p2 from rfl) ?_
 have hA:=w5 (t1:=t1) (t2:=t2) hb hs b1 b2 q1 q2
 have hB:=zJ (b:=b) hb q1 q2
 have KN:=rI (p1:=p1) (p2:=p2) EX
 refine Bc ?_
 refine aa (Qj _) ?_
 generalize dA s b t1 t2 p1 p2=A at*
 generalize dB b p1 p2=B at*
 have g0:0<Vr A.natAbs B:=Nat.gcd_pos_of_pos_right _ KN
 have gB:Vr A.natAbs B<=B:=Nat.gcd_le_right _ KN
 refine ao ⟨ae 0x24980680e44246001 rfl (A.natAbs.gcd B) g0,ae 0x9242c001fce3920514829681fd102 rfl B (A.natAbs.gcd B) hB gB⟩ ?_
 refine ao ⟨ae 0x24980680e44246001 rfl (A.natAbs.gcd B) g0,ae 0x9242c001fce3920514829681fd102 rfl B (A.natAbs.gcd B) hB gB⟩ ?_
 refine h _ _ _ (Vr A.natAbs B:Int) k1 (ae 0x24539180246001 rfl (A.natAbs.gcd B) g0) ?_ ?_
 ·have hd:((Vr A.natAbs B:Nat):Int)∣ A:=Int.ofNat_dvd_left.mpr (Nat.gcd_dvd_left _ _)
  refine aa (RG _ (ae 0x10e46001 rfl (A.natAbs.gcd B))) ?_
  exact(WX hd).symm
 ·have hd:((Vr A.natAbs B:Nat):Int)∣(B:Int):=Int.ofNat_dvd.mpr (Nat.gcd_dvd_right _ _)
  refine aa (RG _ (ae 0x10e46001 rfl (A.natAbs.gcd B))) ?_
  exact(WX hd).symm
theorem py{A k x:Int}(hk:0<k)(e:A=k*x):x.natAbs<=A.natAbs:=by
 refine aa e ?_;refine aa (Sl _ _) ?_;exact Nat.le_mul_of_pos_left _ (ae 0x24239180546010 rfl k hk)
theorem lB{n:Nat}{s b pl:Nat}{t1 t2:Int}{p1 p2:Nat}(EX:1<=b)(hb:b<=16)(hs:s<=2^b-1)(hv:br v t1 p1)(hu:br u t2 p2)(b1:t1.natAbs<2^40)(b2:t2.natAbs<2^40)(q1:p1<=4)(q2:p2<=4)(hp:pl<=9)
  (h:∀M',Pu M M'->Q (ej (b8 (dA s b t1 t2 p1 p2) (dB b p1 p2) pl) pl) M'):ag ak (n+5) 43 [.int s,.int b,v,u,.int pl] M Q X:=by
 refine Ev gR rfl rfl rfl ?_
 refine lY EX hb hs hv hu b1 b2 q1 q2 λ M1 x y k k1 hk e1 e2=> ?_
 have hA:=w5 (t1:=t1) (t2:=t2) hb hs b1 b2 q1 q2
 have hB:=zJ (b:=b) hb q1 q2
 have KN:=rI (p1:=p1) (p2:=p2) EX
 have hx:=py hk e1
 have hy:=py hk e2
 have MR:0<y:=by
  rcases Int.lt_or_le 0 y with q|q
  ·exact q
  ·have:=Int.mul_nonpos_of_nonneg_of_nonpos (Rm hk) q;exact ae 0x2492454a012044246019139121 rfl (dB b p1 p2) (k*y) y e2 KN this
 rw[Qj] at hy
 refine Ab (ae 0x92429901fce4813913920a5a07f39120 rfl (dA s b t1 t2 p1 p2) x hA hx) MR (ae 0x249166407f44144e4429681fd111 rfl (dB b p1 p2) y hB hy) hp λ M2 k2=> ?_
 have:=h M2 (k1.trans k2)
 rw[e1,e2,qW hk _ MR] at this
 exact this
theorem lU{n:Nat}{s b pl:Nat}{t1 t2:Int}{p1 p2:Nat}(EX:1<=b)(hb:b<=16)(hs:s<=2^b-1)(hv:br v t1 p1)(hu:br u t2 p2)(b1:t1.natAbs<2^40)(b2:t2.natAbs<2^40)(q1:p1<=4)(q2:p2<=4)(hp:pl<=9)
  (h:∀M',Pu M M'->Q (.list [ej (b8 (dA s b t1 t2 p1 p2) (dB b p1 p2) pl) pl]) M'):ag ak (n+6) 45 [.tup [.int s],.int b,.list [.tup [v,u]],.int pl] M Q X:=by
 refine Ev il rfl rfl rfl ?_;repeat infer_instance
 refine lB EX hb hs hv hu b1 b2 q1 q2 hp λ M2 k2=> ?_
 exact⟨show 1<=aq by decide,h _ k2⟩
structure gj(h:Nat)(M M':AH):Prop where
 next:M.next<=M'.next
 same:∀i,i<M.next->i≠h->M'.m i=M.m i
theorem gj.refl(h:Nat)(M:AH):gj h M M:=⟨PC _,λ zz zz zz=>rfl⟩
theorem gj.trans(a:gj h M M1)(b:gj h M1 M2):gj h M M2:=⟨PO a.next b.next,λ i x y=>(b.same i (PI x a.next) y).trans (a.same i x y)⟩
theorem gj.set(M:AH)(h:Nat)(o:O):gj h M (M.set h o):=⟨PC _,λ i zz y=>be _ _ y⟩
theorem gj.pu(a:gj h M M')(p:Pu M0 M)(hh:M0.next<=h):Pu M0 M':=⟨PO p.next a.next,λ i x=>(a.same i (PI x p.next) (ae 0x92498034930914c149103 rfl M0.next h i hh x)).trans (p.same i x)⟩
theorem yT(h:M.m i=some (.inst c vs))(a:Nat):nO ak M a (.ref i)=(gK ak c a).bind λ k=>vs[k]? :=by
 unfold nO kI;simp only [h];rfl
theorem yi(h:M.m i=some (.inst c vs))(a:Nat):ny ak M a (.ref i)=(ak.cls c).bind λ cl=>cl.meths.lookup a:=by
 unfold ny kI;simp only [h];rfl
theorem b9(h:M.m i=some (.inst c vs))(e:((gK ak c a).bind λ k=>vs[k]?)=some x):nO ak M a (.ref i)=some x:=(yT h a).trans e
theorem tI(h:M.m i=some (.inst c vs))(e:((ak.cls c).bind λ cl=>cl.meths.lookup a)=some x):ny ak M a (.ref i)=some x:=(yi h a).trans e
theorem xE{B:List UInt8}{a:Nat}{y:UInt8}(h:B[a]? =some y):eh M (.bytes B) (.int (a:Int))=some (.int (y.toNat:Int)):=by
 show(if 0<=(a:Int) then(match B[a]? with|some x=>some (V.int x.toNat)|none=>none) else none)=_
 refine aa (if_pos (R4 a)) ?_;refine aa h ?_;rfl
noncomputable def bv(B:List UInt8):Nat:=B.foldl (λ n x=>n*256+x.toNat) 0
theorem t6{B:List UInt8}{a:Nat}{x:UInt8}(h:B[a]? =some x):bv (B.take (a+1))=bv (B.take a)*256+x.toNat:=by
 unfold bv
 refine aa QY ?_;refine aa h ?_;refine aa UK ?_;rfl
theorem Dc{B:List UInt8}(a:Nat)(h:a<=B.length):bv (B.take a)=bv B/2^(8*(B.length-a)):=by
 have key:∀k,k<=B.length->bv (B.take (B.length-k))=bv B/2^(8*k):=by
  intro k
  induction k with
  |zero=>intro _;simp
  |succ k ih=>
   intro hk
   have h1:=ih (ae 0x905244148185102 rfl k B.length hk)
   have hx:B[B.length-(k+1)]? =some (B[B.length-(k+1)]'(ae 0x909208185148148185102 rfl k B.length hk)):=PG _
   have h2:=t6 hx
   rw[show B.length-(k+1)+1=B.length-k by exact ae 0x90c245206108185148148185102 rfl k B.length hk] at h2
   refine aa (show 8*(k+1)=8*k+8 by exact ae 0x30683e844fa0185101 rfl k) ?_;refine aa (RO _ _ _) ?_;refine aE (Q6 _ _ _) ?_;refine aE h1 ?_;refine aa h2 ?_
   have:=(B[B.length-(k+1)]'(ae 0x909208185148148185102 rfl k B.length hk)).toNat_lt
   exact ae 0x4921a498e083fe0023f3e0807f4814508201fd30414508201fd33e0807f4828201fd103 rfl (B[B.length-(k+1)].toNat) ((bv (TF (B.length-(k+1)) B)*256+B[B.length-(k+1)].toNat)/2^8) (bv (TF (B.length-(k+1)) B)) this (lO _ 255)
 have:=key (B.length-a) (ae 0x144249102 rfl B.length a)
 rwa [show B.length-(B.length-a)=a by exact ae 0x90d108245248149102 rfl a B.length h] at this
def HB(h:Nat)(B:List UInt8)(k:Nat)(M:AH):Prop:=∃a c:Nat,M.m h=some (.inst 8 [.bytes B,.int a,.int ((bv (B.take a) % 2^c:Nat):Int),.int c])/\a<=B.length/\8*a=k+c/\c<8
theorem sB{n:Nat}{v c:Nat}(hc:c<=64)(h:Q (.int ((v % 2^c:Nat):Int)) M):ag ak (n+1) 31 [.int v,.int c] M Q X:=by
 refine Ev m4 rfl rfl rfl ?_
 refine ao ⟨by decide,ae 0x10e46001 rfl c,ae 0x2448181fce4418181fd101 rfl c hc⟩ ?_
 and_intros
 refine aa (PF _) ?_;refine aa kY ?_
 and_intros
 refine aa (PF _) ?_;refine aa (PF _) ?_;refine aa (Nat.and_two_pow_sub_one_eq_mod _ _) ?_
 exact h
theorem Ad{n:Nat}{h:Nat}{B:List UInt8}{a c:Nat}(hM:M.m h=some (.inst 8 [.bytes B,.int a,x,.int c]))(ha:a<=B.length)(hB:B.length<=1000)
  (q:Q (.int ((c+8*(B.length-a):Nat):Int)) M):ag ak (n+1) 33 [.ref h] M Q X:=by
 refine Ev gw rfl rfl rfl ?_
 refine ah (b9 hM rfl) ?_
 refine ah (b9 hM rfl) ?_
 and_intros
 refine ah (b9 hM rfl) ?_
 have hL:cU=2^256:=rfl
 refine ao ⟨by decide,ae 0x9242c001fce08e44e481fa031ff48149102 rfl a B.length ha hB⟩ ?_
 and_intros
 refine aa (show(c:Int)+8*((B.length:Int)-(a:Int))=((c+8*(B.length-a):Nat):Int) by exact ae 0x918e04fa024524c13e808e44e48e4c149103 rfl a B.length c ha) ?_
 exact q
theorem z9{n:Nat}{h:Nat}{B:List UInt8}{k b:Nat}(hM:HB h B k M)(EX:1<=b)(hb:b<=16)(hB:B.length<=1000)(hk:k+b<=8*B.length)
  (q:∀M',HB h B (k+b) M'->gj h M M'->Q (.int ((bv B/2^(8*B.length-(k+b)) % 2^b:Nat):Int)) M'):ag ak (n+2) 34 [.ref h,.int b] M Q X:=by
 rename type_of% hM=>oqe;refine oQ oqe λ a c hM ha I2 hc=> ?_;clear oqe
 refine Ev gv rfl rfl rfl ?_
 refine ah (tI hM rfl) ?_
 refine Ad hM ha hB ?_
 refine ite_f (decide_eq_false (ae 0x92498053923813e80944d50c15513e85013e84c149105 rfl k b B.length a c hk I2)) ?_
 refine uh (λ m ρ M'=>∃a c:Nat,ρ=[some (.ref h),some (.int b),none]/\M'.m h=some (.inst 8 [.bytes B,.int a,.int ((bv (B.take a) % 2^c:Nat):Int),.int c])/\a<=B.length/\8*a=k+c/\c<b+8/\m=24-c/\gj h M M') (24-c)
  ⟨a,c,rfl,hM,ha,I2,ae 0x9081a12442a1102 rfl c b hc,rfl,.refl _ _⟩ ?_
 rintro m ρ M1 ⟨a,c,rfl,hM,ha,I2,hc,rfl,f1⟩ K hK
 have EM:bv (B.take a) % 2^c<2^c:=Xz _ (Si (by decide))
 have O6:2^c<=2^24:=ch (ae 0x9241e12081a11481c1102 rfl b c hb hc)
 refine ah (b9 hM rfl) ?_
 refine⟨λ h0=> ?_,λ h0=> ?_⟩
 ·have h0:c<b:=by have:=of_decide_eq_true h0;exact ae 0x909244539239102 rfl c b (of_decide_eq_true h0:)
  have OV:a<B.length:=by(rename_i z0;exact ae 0x92490935053923950c15513e85013e84c149105 rfl k b B.length a c hk I2 (of_decide_eq_true z0:))
  have hx:B[a]? =some B[a]:=PG _
  have MS:=(B[a]).toNat_lt
  refine ah (b9 hM rfl) ?_
  refine ao ⟨ae 0x92429001fce391061807f48249102 rfl (bv (TF a B) % 2^c) (2^c) EM O6,by decide,by decide⟩ ?_
  and_intros
  refine ah (b9 hM rfl) ?_
  refine ah (b9 hM rfl) ?_
  refine ah (xE hx) ?_
  and_intros
  refine ah hM ?_
  and_intros
  refine ah (b9 (aF _ _ _) rfl) ?_
  refine ah (aF _ _ _) ?_
  and_intros
  refine ah (b9 (aF _ _ _) rfl) ?_
  and_intros
  refine ah (aF _ _ _) ?_
  refine hK (24-(c+8)) _ _ (by(rename_i z0;exact ae 0x9242092e020684b814e44e481c1102 rfl b c hb (of_decide_eq_true z0:))) ⟨a+1,c+8,rfl,?_,ae 0x905206144249102 rfl a B.length OV,ae 0x90c10684d23e806144305348fa1103 rfl a k c I2,by(rename_i z0;exact ae 0x9081a1206844539239102 rfl c b (of_decide_eq_true z0:)),rfl,?_⟩
  ·refine aa (aF _ _ _) ?_;refine aa (t6 hx) ?_
   have e1:((bv (B.take a) % 2^c:Nat):Int)*2^8=((bv (B.take a) % 2^c*2^8:Nat):Int):=by push_cast;rfl
   have e2:(bv (B.take a) % 2^c*2^8|||(B[a]).toNat)=(bv (B.take a)*256+(B[a]).toNat) % 2^(c+8):=by
    refine aa (Ry _ _) ?_;refine aE ((Nat.two_pow_add_eq_or_of_lt (ae 0x90a0807f4428201fd101 rfl (B[a].toNat) MS)) _) ?_;refine aa (RO _ _ _) ?_;refine aa ((Ry (2^c)) _) ?_;refine aa Nat.mod_mul ?_;refine aa (show(bv (B.take a)*256+(B[a]).toNat)/2^8=bv (B.take a) by exact ae 0x4921a690e083fe0023f3e0807f4814508201fd30414508201fd33e0807f4828201fd103 rfl (B[a].toNat) ((bv (TF a B)*256+B[a].toNat)/2^8) (bv (TF a B)) MS (lO _ 255)) ?_
    lia
   refine aE e2 ?_
   show some (O.inst 8 [.bytes B,.int ((a:Int)+1),.int (((((bv (B.take a) % 2^c:Nat):Int)*2^8).toNat|||((B[a].toNat:Nat):Int).toNat:Nat):Int),.int ((c:Int)+8)])=_
   refine aa e1 ?_;refine aa (PF _) ?_;refine aa (PF _) ?_
   push_cast
   rfl
  ·exact((f1.trans (.set _ _ _)).trans (.set _ _ _)).trans (.set _ _ _)
 ·have h0:b<=c:=by have:=of_decide_eq_false h0;exact ae 0x905148980539239102 rfl c b (of_decide_eq_false h0:)
  refine ah (b9 hM rfl) ?_
  and_intros
  refine ah hM ?_
  and_intros
  refine ah (b9 (aF _ _ _) rfl) ?_
  refine ah (b9 (aF _ _ _) rfl) ?_
  refine aa (show(c:Int)-(b:Int)=((c-b:Nat):Int) by(rename_i z0;exact ae 0x24638249108e48e44980539239102 rfl c b (of_decide_eq_false z0:))) ?_
  and_intros
  refine ah (b9 (aF _ _ _) rfl) ?_
  refine ah (b9 (aF _ _ _) rfl) ?_
  refine sB (ae 0x9060607f09244206849102 rfl c b hc) ?_
  and_intros
  refine ah (aF _ _ _) ?_
  have e1:QL ((bv (B.take a) % 2^c:Nat):Int) (2^(c-b))=((bv B/2^(8*B.length-(k+b)) % 2^b:Nat):Int):=by
   refine aa (show((2:Int)^(c-b))=((2^(c-b):Nat):Int) by push_cast;rfl) ?_;refine aa (dW _ _) ?_
   congr 1
   refine aa (show c=(c-b)+b by(rename_i z0;exact ae 0x90c148249144980539239102 rfl c b (of_decide_eq_false z0:))) ?_;refine aa (RO _ _ _) ?_;refine aa (Xj _ _) ?_;refine aa (Nat.mod_mul_right_div_self _ _ _) ?_;refine aa (Dc a ha) ?_;refine aa (Q6 _ _ _) ?_;refine aE (RO _ _ _) ?_;refine aa (show 8*(B.length-a)+(c-b)=8*B.length-(k+b) by(rename_i z0;exact ae 0x92490c20554cfa120425543e80914898053953940c15133e844149105 rfl a B.length k c b ha I2 (of_decide_eq_false z0:))) ?_;rfl
  refine aa (PF _) ?_;refine aa e1 ?_
  refine q _ ⟨a,c-b,?_,ha,by(rename_i z0;exact ae 0x924304251305448fa1126014e50e4c305348fa1104 rfl a k c b I2 (of_decide_eq_false z0:)),ae 0x90a809244206849102 rfl c b hc⟩ (((f1.trans (.set _ _ _)).trans (.set _ _ _)))
  refine aa (aF _ _ _) ?_;refine aE (Nat.mod_mod_of_dvd (bv (B.take a)) (Nat.pow_dvd_pow 2 (show c-b<=c by(rename_i z0;exact ae 0x144249102 rfl c b)))) ?_
  rfl
noncomputable def dC(b:Nat)(ss:List Nat):Nat:=ss.foldl (λ t s=>t*2^b+s) 0
noncomputable def fM:Nat->Nat->List UInt8
 |0,_=>[]
 |k+1,T=>SH (T % 256)::fM k (T/256)
theorem nA(k T:Nat):fM (k+1) T=SH (T % 256)::fM k (T/256):=rfl
noncomputable def bg(size:Nat):Nat:=(8-size % 8) % 8
noncomputable def cN(b:Nat)(ss:List Nat):List UInt8:=(fM ((ss.length*b+bg (ss.length*b))/8) (dC b ss*2^bg (ss.length*b))).reverse
theorem iN:∀k T,(fM k T).length=k:=by
 intro k
 induction k with
 |zero=>
  intro y1
  exact rfl
 |succ k ih=>
  intro T
  refine aa (nA _ _) ?_;refine aa PN ?_;refine aa (ih _) ?_;rfl
theorem xh(A:List UInt8)(x:UInt8):bv (A++[x])=bv A*256+x.toNat:=by unfold bv;refine aa UK ?_;rfl
theorem Cc:∀k T,bv (fM k T).reverse=T % 256^k:=by
 intro k
 induction k with
 |zero=>
  intro T
  refine aa (Ww _) ?_;refine aa (Nat.mod_one _) ?_;rfl
 |succ k ih=>
  intro T
  refine aa (nA _ _) ?_;refine aa Sd ?_;refine aa (xh _ _) ?_;refine aa (ih _) ?_;refine aa (Wx _ _) ?_;refine aa ((Ry (256^k)) _) ?_;refine aa Nat.mod_mul ?_
  have:(SH (T % 256)).toNat=T % 256:=by simp
  refine aa this ?_;exact ae 0x304f8201fd14814908201fd102 rfl (T/256 % 256^k) (T % 256)
theorem mF(b:Nat)(A:List Nat)(s:Nat):dC b (A++[s])=dC b A*2^b+s:=by unfold dC;refine aa UK ?_;rfl
theorem lT{b:Nat}{ss:List Nat}{k s:Nat}(h:ss[k]? =some s):dC b (ss.take (k+1))=dC b (ss.take k)*2^b+s:=by
 refine aa QY ?_;refine aa h ?_;exact mF _ _ _
theorem zX{b:Nat}{ss:List Nat}(h:∀s∈ss,s<2^b):∀k,k<=ss.length->dC b (ss.take k)<2^(k*b):=by
 intro k
 induction k with
 |zero=>
  intro y1
  simp[dC]
 |succ k ih=>
  intro hk
  have hx:ss[k]? =some (ss[k]'(ae 0x909244148185102 rfl k ss.length hk)):=PG _
  refine aa (lT hx) ?_;refine aa (QT _ _ _) ?_;refine aa (Rx _) ?_;refine aa (RO _ _ _) ?_
  have h1:=ih (ae 0x905244148185102 rfl k ss.length hk)
  have h2:=h (ss[k]'(ae 0x909244148185102 rfl k ss.length hk)) (QI _)
  calc _<dC b (ss.take k)*2^b+2^b:=ae 0x90814930514c249103 rfl (ss[k]) (2^b) (dC b (TF k ss)*2^b) h2
   _=(dC b (ss.take k)+1)*2^b:=by refine aa (QT _ _ _) ?_;refine aa (Rx _) ?_;rfl
   _<=_:=T8 _ h1
theorem vI{b:Nat}{ss:List Nat}(h:∀s∈ss,s<2^b):dC b ss<2^(ss.length*b):=by
 have:=zX h ss.length (PC _)
 rwa [U2] at this
theorem zY{b:Nat}{ss:List Nat}(h:∀s∈ss,s<2^b):∀k,k<=ss.length->dC b ss/2^(k*b)=dC b (ss.take (ss.length-k)):=by
 intro k
 induction k with
 |zero=>
  intro y1
  simp
 |succ k ih=>
  intro hk
  have h1:=ih (ae 0x905244148185102 rfl k ss.length hk)
  have hx:ss[ss.length-(k+1)]? =some (ss[ss.length-(k+1)]'(ae 0x909208185148148185102 rfl k ss.length hk)):=PG _
  have h2:=lT (b:=b) hx
  have h3:=h _ (QI (l:=ss) (n:=ss.length-(k+1)) (ae 0x909208185148148185102 rfl k ss.length hk))
  rw[show ss.length-(k+1)+1=ss.length-k by lia] at h2
  refine aa (QT _ _ _) ?_;refine aa (Rx _) ?_;refine aa (RO _ _ _) ?_;refine aE (Q6 _ _ _) ?_;refine aa h1 ?_;refine aa h2 ?_;refine aa (Ry _ (2^b)) ?_;refine aa ((Vz (Si (by decide))) _ _) ?_;refine aa (XN h3) ?_;refine aa (UY _) ?_;rfl
theorem A7{b:Nat}{ss:List Nat}(h:∀s∈ss,s<2^b){j s:Nat}(hj:ss[j]? =some s):dC b ss/2^((ss.length-(j+1))*b) % 2^b=s:=by
 have hl:j<ss.length:=(PL.mp hj).1
 refine aa (zY h _ (by exact ae 0x144206149102 rfl ss.length j)) ?_;refine aa (show ss.length-(ss.length-(j+1))=j+1 by exact ae 0x90c185108206145248249102 rfl j ss.length hl) ?_;refine aa (lT hj) ?_;refine aa (Ry _ _) ?_;refine aa (XY _ _ _) ?_
 exact XM (h s (Sm.mpr ⟨j,hj⟩))
theorem qX(k:Nat):8*((k+bg k)/8)=k+bg k:=by unfold bg;omega
theorem l0(b:Nat)(ss:List Nat):8*(cN b ss).length=ss.length*b+bg (ss.length*b):=by
 unfold cN
 refine aa RN ?_;refine aa (iN _ _) ?_
 exact qX _
theorem v9(b:Nat)(ss:List Nat):(cN b ss).length=(ss.length*b+7)/8:=by
 have:=l0 b ss
 unfold bg at this;exact ae 0x92490d64470419cfa1606748106748fa161c19d30c25680533e850305348fa1106 rfl ((cN b ss).length) (ss.length*b) ((8-ss.length*b % 8) % 8) ((8-ss.length*b % 8)/8) (ss.length*b % 8) ((ss.length*b+7)/8) this (Bv _ 7) (lO _ 7)
theorem Ai(h:∀s∈ss,s<2^b)(hj:ss[j]? =some s):bv (cN b ss)/2^(8*(cN b ss).length-(j*b+b)) % 2^b=s:=by
 have hl:j<ss.length:=(PL.mp hj).1
 have e:=l0 b ss
 refine aa e ?_
 have ht:=vI h
 have OS:bv (cN b ss)=dC b ss*2^bg (ss.length*b):=by
  unfold cN
  refine aa (Cc _ _) ?_
  refine XM ?_
  refine aa (show 256=2^8 by rfl) ?_;refine aE (Nat.pow_mul _ _ _) ?_
  have:8*((ss.length*b+bg (ss.length*b))/8)=ss.length*b+bg (ss.length*b):=qX _
  refine aa this ?_;refine aa (RO _ _ _) ?_
  exact VB ht (Si (by decide))
 have hm:j*b+b=(j+1)*b:=by refine aa (QT _ _ _) ?_;refine aa (Rx _) ?_;rfl
 have Gc:(ss.length-(j+1))*b=ss.length*b-(j+1)*b:=Nat.sub_mul _ _ _
 have OC:(j+1)*b<=ss.length*b:=T8 _ hl
 refine aa OS ?_;refine aa hm ?_;refine aa (show ss.length*b+bg (ss.length*b)-(j+1)*b=bg (ss.length*b)+(ss.length-(j+1))*b by exact ae 0x92430515024c15120524c309349104 rfl ((ss.length-(j+1))*b) (ss.length*b) ((j+1)*b) (bg (ss.length*b)) Gc OC) ?_;refine aa (RO _ _ _) ?_;refine aE (Q6 _ _ _) ?_;refine aa (Nat.mul_div_cancel _ (Si (by decide))) ?_
 exact A7 h hj
theorem Pu.Jw(o:O)(f:gj M.next (M.new o) M'):Pu M M':=
 ⟨PO (RP _) f.next,λ i h=>by refine aa (f.same i (show i<M.next+1 by exact ae 0x908185244249102 rfl i M.next h) (by exact ae 0x92600d244249102 rfl i M.next h)) ?_;refine aa (md _ _ (by exact ae 0x92600d244249102 rfl i M.next h)) ?_;rfl⟩
theorem gj.made(M:AH)(o o':O):gj M.next (M.new o) ((M.new o).set M.next o'):=gj.set _ _ _
theorem vR(hB:B.length<=1000)(q:∀h M',M.next<=h->h<M'.next->Pu M M'->HB h B 0 M'->Q (.ref h) M'):cK ak (ag ak (n+1)) 8 [.bytes B] M Q X:=by
 unfold cK
 refine Ev gV rfl rfl rfl ?_
 refine ah (bL _ _) ?_
 and_intros
 refine ah (aF _ _ _) ?_
 and_intros
 refine ah (aF _ _ _) ?_
 and_intros
 refine ah (aF _ _ _) ?_
 and_intros
 refine aa (aF _ _ _) ?_
 refine cg rfl rfl ?_
 refine q _ _ (PC _) (Rb _) (Pu.Jw (.inst 8 []) ((((gj.set _ _ _).trans (.set _ _ _)).trans (.set _ _ _)).trans (.set _ _ _))) ⟨0,0,?_,ae 0x146001 rfl B.length,ae 0x382000 rfl,ae 0x2a2000 rfl⟩
 refine aa (aF _ _ _) ?_;rfl
theorem ba(s:Nat):∀n a,(aZ a s n).length=n:=by
 intro n
 induction n with
 |zero=>
  intro y1
  exact rfl
 |succ n ih=>
  intro a
  refine aa (qH _ _ _) ?_;refine aa PN ?_;refine aa (ih _) ?_;rfl
theorem ur{n:Nat}{b m:Nat}{ss:List Nat}(hs:∀s∈ss,s<2^b)(hm:ss.length=m)(Gc:m<=100)(EX:1<=b)(hb:b<=16)
  (q:∀M',Pu M M'->Q (.list (ss.map λ s:Nat=>.int s)) M'):ag ak (n+3) 35 [.bytes (cN b ss),.int b,.int m] M Q X:=by
 have JR:m*b<=100*16:=Qk Gc hb
 have hlen:=l0 b ss
 have hB:(cN b ss).length<=1000:=by rw[hm] at hlen;unfold bg at hlen;exact ae 0x249241fa031ff4870674c3095a014cfa140c14d13e8481c8185fd105 rfl (m*b) ((cN b ss).length) ((8-m*b % 8) % 8) ((8-m*b % 8)/8) (m*b % 8) JR hlen (Bv _ 7)
 refine Ev pg rfl rfl rfl ?_
 refine vR hB λ h M1 h1 h2 p1 hh=> ?_
 refine ao (bU (ae 0x90a1d07f38e441c8085fd101 rfl m Gc)) ?_
 and_intros
 refine aa (PF _) ?_
 refine⟨by refine aa (ba _ _ _) ?_;unfold aq;exact ae 0x48386a0533f441c8085fd101 rfl m Gc,?_⟩
 refine cT (λ rest acc M'=>∃j,j+rest.length=m/\acc=(ss.take j).map (λ s:Nat=>V.int s)/\HB h (cN b ss) (j*b) M'/\Pu M M') _ ⟨0,by refine aa (ba _ _ _) ?_;refine aa (TO _) ?_;rfl,rfl,by rwa [Wu],p1⟩ (λ acc M' j=> ?_) λ x xs acc M' j K hK=> ?_
 ·rename type_of% j=>oqe;refine jF oqe λ j e EL zz p=> ?_;clear oqe;subst EL
  rw[Ru,UY] at e
  subst e
  refine aa (Qe (ae 0x905244349102 rfl ss.length j hm)) ?_
  exact q _ p
 ·rename type_of% j=>oqe;refine jF oqe λ j e EL hh p=> ?_;clear oqe;subst EL
  rw[PN] at e
  refine ve (id hh) λ a c hM w=> ?_
  repeat infer_instance
  refine ah (tI hM rfl) ?_
  have OE:j*b+b<=8*(cN b ss).length:=by
   have:(j+1)*b<=m*b:=T8 _ (ae 0x90530614434c106149103 rfl j xs.length m e)
   rw[QT,Rx] at this
   refine aa hlen ?_;refine aa hm ?_;exact ae 0x90415130524414c149104 rfl (j*b) b (m*b) (bg (m*b)) this
  have hx:ss[j]? =some (ss[j]'(ae 0x92424530d20418544c349104 rfl ss.length m j xs.length hm e)):=PG _
  refine z9 hh EX hb hB OE λ M2 IZ f2=> ?_
  refine aa (Ai hs hx) ?_
  refine hK _ _ ?_ ⟨j+1,ae 0x90d30520614434c106149103 rfl j xs.length m e,?_,by rwa [QT,Rx],f2.pu p h1⟩
  ·simp only [PH,PE,Q9,Sn];unfold aq;exact ae 0x4920e1a814cfc18445120d1041853481c8085fd104 rfl m j xs.length ss.length Gc e
  ·refine aa QY ?_;refine aa hx ?_;refine aa Qd ?_;rfl
theorem jQ(hw:w<=1000)(hb:b<=1000)(hc:c<=1000)(q:Q (.int (((w*c*b+7)/8:Nat):Int)) M):ag ak (n+1) 37 [fi w h b c] M Q X:=by
 have hL:cU=2^256:=rfl
 have h1:w*c<=1000*1000:=Qk hw hc
 have e:(w:Int)*(c:Int)=((w*c:Nat):Int):=by push_cast;rfl
 refine Ev fe rfl rfl rfl ?_
 refine ao (ae 0x92470b0007f38e482c001fce39107e80c7fd207e80c7fd102 rfl w c hw hc) ?_
 refine aa e ?_
 refine ao (ae 0x4923858003f9c72216000fe71c903e84818efd207e80c7fd102 rfl b (w*c) hb h1) ?_
 have e2:QL (((w*c:Nat):Int)*(b:Int)+7) 8=(((w*c*b+7)/8:Nat):Int):=by
  refine aa (show(8:Int)=((8:Nat):Int) by rfl) ?_;refine aE (dW _ _) ?_;push_cast;rfl
 and_intros
 refine aa e2 ?_;exact q
theorem vQ(hb:b<=16)(q:Q (.int ((2^b-1:Nat):Int)) M):ag ak (n+1) 38 [fi w h b c] M Q X:=by
 refine Ev j0 rfl rfl rfl ?_
 refine ao ⟨by decide,ae 0x10e46001 rfl b,ae 0x2448181fce441c1101 rfl b hb⟩ ?_
 and_intros
 refine aa (PF _) ?_;refine aa kY ?_;exact q
theorem mr{α:Type}:∀{rows:List (List α)},(∀p∈rows,p.length=c)->rows.flatten.length=c*rows.length:=by
 intro rows
 induction rows with
 |nil=>
  intro y1
  simp
 |cons p r ih=>
  intro h
  refine aa UL ?_;refine aa PH ?_;refine aa (h p (by simp)) ?_;refine aa (ih λ q hq=>h q (by simp[hq])) ?_;refine aa PN ?_;refine aa (Ui _ _ _) ?_;refine aa (W8 _) ?_;refine aa (Nat.add_comm _ _) ?_;rfl
theorem rB{α:Type}:∀{rows:List (List α)} {j:Nat} {p:List α},(∀p∈rows,p.length=c)->rows[j]? =some p->(rows.flatten.take (j*c+c)).drop (j*c)=p:=by
 intro rows
 induction rows with
 |nil=>
  intro j p y1 e
  simp at e
 |cons q r ihq=>
  intro y2
  cases y2 with
  |zero=>
   intro p h e
   simp at e;subst e
   have hq:=h q (by simp)
   refine aa (Wu _) ?_;refine aa (TO _) ?_;refine aa XZ ?_;refine aa UL ?_;refine aE hq ?_;rewrite[List.take_left'];rfl
   rfl
  |succ j=>
   intro p h e
   have hq:=h q (by simp)
   have ih:=ihq (j:=j) (p:=p) (λ x hx=>h x (by simp[hx])) (by simpa using e)
   refine aa UL ?_;refine aa VJ ?_;refine aa List.drop_append ?_;refine aa hq ?_;refine aa (List.drop_eq_nil_of_le (by refine aa hq ?_;refine aa (QT _ _ _) ?_;exact ae 0x104f85149102 rfl c (j*c))) ?_;refine aa (RY _) ?_
   rw[VJ] at ih
   refine aE ih ?_
   congr 1
   ·refine aa (QT _ _ _) ?_;exact ae 0x309105244204f8524414813e149102 rfl (j*c) c
   ·congr 1;refine aa (QT _ _ _) ?_;exact ae 0x34424813e149102 rfl (j*c) c
theorem fS(h:x::xs=aZ a s n):∃m,n=m+1/\x=.int a/\xs=aZ (a+s) s m:=by
 cases n with
 |zero=>cases h
 |succ m=>rw[qH] at h;cases h;exact gq m rfl rfl rfl
theorem bF(h:[]=aZ a s n):n=0:=by
 cases n with
 |zero=>rfl
 |succ m=>cases h
theorem pD(hc:1<=c):(if(0:Int)<((c*k:Nat):Int) then((((c*k:Nat):Int)-0-1)/(c:Int)+1).toNat else 0)=k:=by
 split
 ·rename_i h
  have hk:0<k:=by
   rcases Xi k with e|e
   ·subst e;simp at h
   ·exact e
  have e1:(((c*k:Nat):Int)-0-1)=((c*k-1:Nat):Int):=ae 0x2463828510a10a039114e46001 rfl (c*k) h
  refine aa e1 ?_;refine aE (Int.natCast_ediv _ _) ?_
  have e2:(c*k-1)/c=k-1:=by
   obtain⟨k,rfl⟩:∃m,k=m+1:=⟨k-1,ae 0x90c184285144246001 rfl k hk⟩
   refine aa (Ui _ _ _) ?_;refine aa (W8 _) ?_;refine aa (Xj _ _) ?_;refine aa (show c*k+c-1=c*k+(c-1) by exact ae 0x90c10a14520a105148146102 rfl c (c*k) hc) ?_;refine aa ((Vz (by exact ae 0x909180146101 rfl c hc)) _ _) ?_;refine aa (XN (by exact ae 0x90910a144146101 rfl c hc)) ?_;refine aa (UY _) ?_;rfl
  refine aa e2 ?_;exact ae 0x90d134184e0a144246001 rfl k hk
 ·rename_i h
  rcases Xi k with e|e
  ·exact e.symm
  ·exact absurd (Int.ofNat_lt.mpr (Vu hc e)) h
theorem Bd{n:Nat}{c:Nat}{rows:List (List V)}(hc:1<=c)(H6:c<=100)(hk:rows.length<=100)(hr:∀p∈rows,p.length=c)(q:Q (.list (rows.map .tup)) M):ag ak (n+1) 39 [.list rows.flatten,.int c] M Q X:=by
 have hl:=mr hr
 have OP:c*rows.length<=100*100:=Qk H6 hk
 refine Ev kq rfl rfl rfl ?_;and_intros
 refine aa hl ?_
 have hd:(decide ((0:Int)<(c:Int))&&cm 0&&cm ((c*rows.length:Nat):Int)&&cm (c:Int))=true:=by
  simp only [PY]
  exact⟨⟨⟨decide_eq_true (ae 0x24539180146101 rfl c hc),rfl⟩,bU (ae 0x12143a0fe71c88338810afd101 rfl (c*rows.length) OP)⟩,bU (ae 0x90a1d07f38e441c8085fd101 rfl c H6)⟩
 refine ao hd ?_
 refine aa (pD hc) ?_;refine aa (PF _) ?_
 refine⟨by refine aa (ba _ _ _) ?_;unfold aq;exact ae 0x48386a0533f441c8085fd101 rfl rows.length hk,?_⟩
 refine cT (λ rest acc M'=>M'=M/\∃j,j<=rows.length/\rest=aZ ((j*c:Nat):Int) c (rows.length-j)/\acc=(rows.take j).map .tup) _ ⟨rfl,0,ae 0x146001 rfl rows.length,by simp,rfl⟩ (λ acc M' j=> ?_) λ x xs acc M' j K hK=> ?_
 ·obtain⟨rfl,j,e0,e,rfl⟩:=j
  have:=bF e
  refine aa (Qe (ae 0x905244380249102 rfl rows.length j this)) ?_
  exact q
 ·obtain⟨rfl,j,e0,e,rfl⟩:=j
  refine bz (fS e) λ m e1 EL e2=> ?_;subst EL
  repeat infer_instance
  have hx:rows[j]? =some (rows[j]'(ae 0x90914830614c249103 rfl rows.length j m e1)):=PG _
  have e3:((j*c:Nat):Int)+(c:Int)=((j*c+c:Nat):Int):=ae 0x18e05244139239102 rfl (j*c) c
  have h4:j*c+c<=100*100:=by
   refine aa (show j*c+c=(j+1)*c by refine aa (QT _ _ _) ?_;refine aa (Rx _) ?_;rfl) ?_
   exact Qk (ae 0x9241c8085fc18520c1853092441c8085fd103 rfl rows.length j m hk e1) H6
  refine⟨by refine aa (PF _) ?_;unfold aq;exact ae 0x90b0d40a67e88338810afc149102 rfl (j*c) c h4,?_⟩
  and_intros
  refine aa e3 ?_
  refine⟨by refine aa (PF _) ?_;unfold aq;exact ae 0x90b0d40a67e0a488338810afc149102 rfl (j*c) c h4,?_⟩
  and_intros
  refine aa (PF _) ?_;refine aa (PF _) ?_
  refine aa (show cut rows.flatten ((some (j*c)).getD 0) (some (j*c+c))=rows[j]'(ae 0x90914830614c249103 rfl rows.length j m e1) from rB hr hx) ?_
  refine hK _ _ ?_ ⟨rfl,j+1,ae 0x90510614830614c249103 rfl rows.length j m e1,?_,?_⟩
  ·simp only [PH,PE,Q9,Sn];unfold aq;exact ae 0x48386a0533f061111481c8085fd102 rfl rows.length j hk
  ·refine aa e2 ?_;refine aa (show m=rows.length-(j+1) by exact ae 0x90c20614914c30614c249103 rfl rows.length j m e1) ?_;refine aa e3 ?_;refine aa (QT _ _ _) ?_;refine aa (Rx _) ?_;rfl
  ·refine aa QY ?_;refine aa hx ?_;refine aa Qd ?_;rfl
noncomputable def cH(p:List Nat):V:=.tup (p.map λ s:Nat=>.int s)
noncomputable def dy(r:List (List Nat)):V:=.list (r.map cH)
noncomputable def bk(px:List (List (List Nat))):V:=.list (px.map dy)
structure ca(px:List (List (List Nat)))(w h b c:Nat):Prop where
 len:px.length=h
 row:∀r∈px,r.length=w
 Ks:∀r∈px,∀p∈r,p.length=c
 K0:∀r∈px,∀p∈r,∀s∈p,s<2^b
noncomputable def bX(b:Nat)(px:List (List (List Nat))):List UInt8:=(px.map λ r=>cN b r.flatten).flatten
theorem ca.flat(d:ca px w h b c)(hr:r∈px):r.flatten.length=w*c/\∀s∈r.flatten,s<2^b:=by
 refine⟨by refine aa (mr (d.Ks r hr)) ?_;refine aa (d.row r hr) ?_;refine aa (Ry _ _) ?_;rfl,λ s hs=> ?_⟩
 refine ai (List.mem_flatten.mp hs) λ p hp Os=> ?_
 exact d.K0 r hr p hp s Os
theorem ca.size(d:ca px w h b c):∀B∈px.map λ r=>cN b r.flatten,B.length=(w*c*b+7)/8:=by
 intro B hB
 refine ai (QE.mp hB) λ r hr EL=> ?_;subst EL
 refine aa (v9 _ _) ?_;refine aa ((d.flat hr).1) ?_;rfl
theorem jD(d:ca px w h b c):(bX b px).length=(w*c*b+7)/8*h:=by
 unfold bX
 refine aa (mr d.size) ?_;refine aa (PE _) ?_;refine aa d.len ?_;rfl
theorem xZ(r:List (List Nat)):(r.map λ p=>p.map λ s:Nat=>V.int s).flatten=r.flatten.map λ s:Nat=>V.int s:=by
 refine aa List.map_flatten ?_;rfl
theorem dR(h:M.m i=some (.list vs)):tR M (.ref i)=true:=by show((M.m i).bind lstO?).isSome=_;refine aa h ?_;rfl
theorem b6(M:AH)(o:O):M.next<(M.new o).next:=Rb _
theorem Pu.new(M:AH)(o:O):Pu M (M.new o):=⟨RP _,λ i h=>md _ _ (ae 0x92600d244249102 rfl i M.next h)⟩
theorem Pu.En(p:Pu M M')(h:M.next<=i)(o:O):Pu M (M'.set i o):=⟨p.next,λ j hj=>by refine aa (be _ _ (ae 0x92498034930914c149103 rfl M.next i j h hj)) ?_;refine aa (p.same j hj) ?_;rfl⟩
theorem Pu.Eu(p:Pu M M')(h:M.next<=i):Pu M (M'.kill i):=⟨p.next,λ j hj=>by refine aa (cA _ (ae 0x92498034930914c149103 rfl M.next i j h hj)) ?_;refine aa (p.same j hj) ?_;rfl⟩
theorem dw(h:M.m i=some (.list vs)):bf M (.ref i)=(.list vs,M.kill i):=by show((M.m i).bind mq).elim _ _=_;refine aa h ?_;rfl
theorem jP{n:Nat}{w h b c:Nat}{O:List UInt8}(hw:w<=1000)(hb:b<=16)(hc:c<=10)(hh:h<=1000)(hO:O.length<(w*c*b+7)/8*h)(q:X M):ag ak (n+5) 40 [.bytes O,fi w h b c] M Q X:=by
 refine Ev gm rfl rfl rfl ?_
 refine jQ hw (ae 0x241fa031ff441c1101 rfl b hb) (ae 0x241fa031ff441a9101 rfl c hc) ?_
 have hL:cU=2^256:=rfl
 have h1:w*c<=1000*10:=Qk hw hc
 have h2:w*c*b<=1000*10*16:=Qk h1 hb
 have e:(((w*c*b+7)/8:Nat):Int)*(h:Int)=(((w*c*b+7)/8*h:Nat):Int):=by push_cast;rfl
 have hz:(w*c*b+7)/8<=100000:=ae 0x9241c350299fa43820ce7d09033a20833a27d090338820afd102 rfl (w*c*b) ((w*c*b+7)/8) h2 (lO _ 7)
 generalize (w*c*b+7)/8=z at*
 refine ao (ae 0x1248e16000fe71c8858003f9c7240e1a814cfd207e80c7fd102 rfl h z hh hz) ?_
 refine aa e ?_
 refine ite_t (decide_eq_true (ae 0x914e48e44249102 rfl O.length (z*h) hO)) ?_
 exact q
theorem fH{n:Nat}{w h b c:Nat}{px:List (List (List Nat))}(d:ca px w h b c)(HI:1<=w)(hw:w<=8)(EX:1<=b)(hb:b<=16)(hc1:1<=c)(hc:c<=4)(hh:h<=8)
  (q:∀M',Pu M M'->Q (bk px) M'):ag ak (n+5) 40 [.bytes (bX b px),fi w h b c] M Q X:=by
 refine Ev gm rfl rfl rfl ?_
 refine jQ (ae 0x241fa031ff441a1101 rfl w hw) (ae 0x241fa031ff441c1101 rfl b hb) (ae 0x241fa031ff44191101 rfl c hc) ?_
 have hL:cU=2^256:=rfl
 have h1:w*c<=8*4:=Qk hw hc
 have h2:w*c*b<=8*4*16:=Qk h1 hb
 have hlen:=jD d
 have Fc:=d.size
 have HY:(w*c*b+7)/8<=100:=ae 0x9241c8085fd21c10673e84819d10419d13e84818241fd102 rfl (w*c*b) ((w*c*b+7)/8) h2 (lO _ 7)
 generalize (w*c*b+7)/8=z at*
 have hz3:z*h<=100*8:=Qk HY hh
 have e:(z:Int)*(h:Int)=((z*h:Nat):Int):=by push_cast;rfl
 refine ao (ae 0x92470b0007f38e442c001fce3920720217f481a1102 rfl h z hh HY) ?_
 refine aa e ?_;refine aa hlen ?_
 refine ite_f (decide_eq_false (ae 0x980539139101 rfl (z*h))) ?_
 refine ao (bU (ae 0x90a1d07f38e441a1101 rfl h hh)) ?_
 and_intros
 refine aa (PF _) ?_
 refine⟨by refine aa (ba _ _ _) ?_;unfold aq;exact ae 0x48386a0533f441a1101 rfl h hh,?_⟩
 refine cD (λ rest ρ M'=>∃j o4 o5,rest=aZ (j:Nat) 1 (h-j)/\j<=h/\ρ=[some (.bytes (bX b px)),some (fi w h b c),some (.int z),some (.ref M.next),o4,o5]/\M'.m M.next=some (.list ((px.take j).map dy))/\M.next<M'.next/\Pu M M') _
  ⟨0,_,_,rfl,ae 0x146001 rfl h,rfl,bL _ _,b6 _ _,.new _ _⟩ (λ ρ M' j=> ?_) λ x xs ρ M' j K hK=> ?_
 ·rename type_of% j=>oqe;refine u8 oqe λ j o4 o5 e1 e2 F5 hM EM p=> ?_;clear oqe;subst F5
  have:=bF e1
  and_intros
  refine aa (dw hM) ?_;refine aa (Qe (by refine aa d.len ?_;exact ae 0x905244380249102 rfl h j this)) ?_
  exact q _ (p.Eu (PC _))
 ·rename type_of% j=>oqe;refine u8 oqe λ j o4 o5 e1 e2 F5 hM EM p=> ?_;clear oqe;subst F5
  refine bz (fS e1) λ m e3 EL e4=> ?_;subst EL
  have hx:px[j]? =some (px[j]'(by refine aa d.len ?_;exact ae 0x90914830614c249103 rfl h j m e3)):=PG _
  generalize px[j]'(by refine aa d.len ?_;exact ae 0x90914830614c249103 rfl h j m e3)=r at hx
  have hr:r∈px:=Sm.mpr ⟨j,hx⟩
  obtain⟨KD,KC⟩:=d.flat hr
  have z1:(z:Int)*(j:Int)=((j*z:Nat):Int):=by refine aa (TQ _ _) ?_;push_cast;rfl
  have z2:(z:Int)*((j:Int)+1)=((j*z+z:Nat):Int):=by refine aa (Xb _ _ _) ?_;refine aa z1 ?_;exact ae 0x18e05244142139239102 rfl (j*z) z
  have z3:j*z+z<=8*100:=by
   refine aa (show j*z+z=(j+1)*z by refine aa (QT _ _ _) ?_;refine aa (Rx _) ?_;rfl) ?_
   exact Qk (ae 0x9241a018520c1853092441a1103 rfl h j m hh e3) HY
  have LK:=rB (rows:=px.map λ r=>cN b r.flatten) (j:=j) (p:=cN b r.flatten) Fc (by refine aa Rh ?_;refine aa hx ?_;rfl)
  refine ao (ae 0x92491c2c001fce3930b0007f38e4814530720217f481a1103 rfl h z j hh HY e2) ?_
  refine aa z1 ?_
  refine⟨by refine aa (PF _) ?_;unfold aq;exact ae 0x48586a0533f441c8145fc149102 rfl (j*z) z z3,?_⟩
  refine ao (ae 0x92491c2c001fce0613930b0007f38e4814530720217f481a1103 rfl h z j hh HY e2) ?_
  refine aa z2 ?_
  refine⟨by refine aa (PF _) ?_;unfold aq;exact ae 0x48586a0533f052441c8145fc149102 rfl (j*z) z z3,?_⟩
  refine⟨dR hM,?_⟩
  refine ao (ae 0x92470b0007f38e482c001fce391064481a1102 rfl w c hw hc) ?_
  and_intros
  refine aa (PF _) ?_;refine aa (PF _) ?_
  refine aa (show cut (bX b px) ((some (j*z)).getD 0) (some (j*z+z))=cN b r.flatten from LK) ?_;refine aa (show(w:Int)*(c:Int)=((w*c:Nat):Int) by push_cast;rfl) ?_
  refine ur KC KD (ae 0x90720217f4418141fd101 rfl (w*c) h1) EX hb λ M2 p2=> ?_
  refine aE (xZ _) ?_
  refine Bd hc1 (ae 0x90720217f44191101 rfl c hc) (by refine aa (PE _) ?_;refine aa (d.row r hr) ?_;exact ae 0x90720217f441a1101 rfl w hw) (λ p hp=> ?_) ?_
  ·refine ai (QE.mp hp) λ y hy EL=> ?_;subst EL
   refine aa (PE _) ?_;exact d.Ks r hr y hy
  have HC:M2.m M.next=some (.list ((px.take j).map dy)):=by refine aa (p2.same _ EM) ?_;refine aa hM ?_;rfl
  simp only [HC]
  refine⟨?_,hK _ _ ⟨j+1,_,_,?_,ae 0x90510614830614c249103 rfl h j m e3,rfl,?_,PI EM p2.next,(p.trans p2).En (PC _) _⟩⟩
  ·refine aa (PE _) ?_;refine aa Q9 ?_;unfold aq;exact ae 0x492161a814cfc45120c1853092441a1104 rfl h j m px.length hh e3
  ·refine aa e4 ?_;refine aa (show m=h-(j+1) by exact ae 0x90c20614914c30614c249103 rfl h j m e3) ?_;rfl
  ·refine aa (aF _ _ _) ?_;refine aa QY ?_;refine aa hx ?_;refine aa Qd ?_;refine aa YI ?_;rfl
noncomputable def aK(h w:Nat)(g:Nat->Nat->V):V:=.list ((PQ h).map λ i=>.list ((PQ w).map λ j=>g i j))
noncomputable def bm(i h H:Nat):Nat:=(2*i+1)*H/(2*h)
theorem gZ(hi:i<h)(hH:1<=H):bm i h H<H:=by
 unfold bm
 rewrite[Nat.div_lt_iff_lt_mul (by exact ae 0x908f89280249102 rfl i h hi)]
 refine aa ((Ry H) _) ?_
 exact VB (ae 0x908f8920613e244249102 rfl i h hi) (ae 0x909180146101 rfl H hH)
theorem qG{α:Type}(f:Nat->α)(h:k<n):((PQ n).map f)[k]? =some (f k):=by
 refine aa Rh ?_;refine aa (WU h) ?_;rfl
theorem ce{a:Nat}{n:Nat}{xs:List V}(h:x::xs=aZ (a:Int) 1 n):∃m,n=m+1/\x=.int a/\xs=aZ ((a+1:Nat):Int) 1 m:=by
 refine bz (fS h) λ m e1 e2 e3=> ?_
 exact gq m e1 e2 (by refine aa e3 ?_;rfl)
theorem fh{T:V->AH->(List V->AH->Prop)->Prop}{Q:List V->AH->Prop}{f:Nat->V}{n:Nat}(hl:n<=aq)
  (ht:∀k,k<n->∀M',Pu M M'->∀K:List V->AH->Prop,(∀M2,Pu M M2->K [f k] M2)->T (.int k) M' K)(hQ:∀M',Pu M M'->Q ((PQ n).map f) M'):bP T (aZ 0 1 n) [] M Q:=by
 refine cT (λ rest acc M'=>∃j,rest=aZ (j:Nat) 1 (n-j)/\j<=n/\acc=(PQ j).map f/\Pu M M') _ ⟨0,rfl,ae 0x146001 rfl n,rfl,.refl _⟩ (λ acc M' j=> ?_) λ x xs acc M' j K hK=> ?_
 ·rename type_of% j=>oqe;refine jF oqe λ j e e2 G4 p=> ?_;clear oqe;subst G4
  have:=bF e
  obtain rfl:j=n:=ae 0x92434910e009148149102 rfl j n e2 this
  exact hQ _ p
 ·rename type_of% j=>oqe;refine jF oqe λ j e e2 G4 p=> ?_;clear oqe;subst G4
  refine bz (ce e) λ m e3 EL e4=> ?_;subst EL
  refine ht j (by exact ae 0x90914830614c249103 rfl n j m e3) M' p K λ M2 p2=>hK _ _ ?_ ⟨j+1,by refine aa e4 ?_;refine aa (show m=n-(j+1) by exact ae 0x90c20614914c30614c249103 rfl n j m e3) ?_;rfl,by exact ae 0x90510614830614c249103 rfl n j m e3,?_,p2⟩
  ·simp;exact ae 0x249070d40a67e0c29060c29849220e1a814cfd103 rfl n j m hl e3
  ·refine aa TH ?_;refine aa Qd ?_;rfl
theorem rt(h w:Nat)(g:Nat->Nat->V):((PQ h).map λ i=>V.list ((PQ w).map λ j=>g i j)).length=h:=by simp
theorem oy(w:Nat)(g:Nat->V):((PQ w).map g).length=w:=by simp
theorem tH(i h H:Nat):QL ((2*(i:Int)+1)*(H:Int)) (2*(h:Int))=((bm i h H:Nat):Int):=by
 unfold bm;refine aE (dW _ _) ?_;push_cast;rfl
theorem gG(hr:r<m):eh M (.list ((PQ m).map g)) (.int (r:Int))=some (g r):=by
 show(if 0<=(r:Int) then((PQ m).map g)[(r:Int).toNat]? else none)=_
 refine aa (if_pos (ae 0x10e46001 rfl r)) ?_;refine aa (PF _) ?_;refine aa Rh ?_;refine aa (WU hr) ?_;rfl
theorem oZ{n:Nat}{H W w h:Nat}{g:Nat->Nat->V}(HI:1<=w)(hw:w<=8)(Fj:1<=h)(hh:h<=8)(Fk:1<=W)(hW:W<=8)(hH1:1<=H)(hH:H<=8)
  (q:∀M',Pu M M'->Q (aK h w λ i j=>g (bm i h H) (bm j w W)) M'):ag ak (n+1) 41 [aK H W g,.int w,.int h] M Q X:=by
 refine Ev jT rfl rfl rfl ?_
 have hL:cU=2^256:=rfl
 refine or_f (decide_eq_false (ae 0x24980584e44146101 rfl w HI)) ?_
 refine ite_f (decide_eq_false (ae 0x24980584e44146101 rfl h Fj)) ?_
 refine ao (bU (ae 0x90a1d07f38e441a1101 rfl h hh)) ?_
 and_intros
 refine aa (PF _) ?_
 refine⟨by refine aa (ba _ _ _) ?_;unfold aq;exact ae 0x48386a0533f441a1101 rfl h hh,?_⟩
 refine cD (λ rest ρ M'=>∃j o4 o5 o6,rest=aZ (j:Nat) 1 (h-j)/\j<=h/\ρ=[some (aK H W g),some (.int w),some (.int h),some (.ref M.next),o4,o5,o6]/\
   M'.m M.next=some (.list ((PQ j).map λ i=>V.list ((PQ w).map λ j=>g (bm i h H) (bm j w W))))/\M.next<M'.next/\Pu M M') _
  ⟨0,_,_,_,rfl,ae 0x146001 rfl h,rfl,bL _ _,b6 _ _,.new _ _⟩ (λ ρ M' j=> ?_) λ x xs ρ M' j K hK=> ?_
 ·rename type_of% j=>oqe;refine yI oqe λ j o4 o5 o6 e1 e2 IF hM EM p=> ?_;clear oqe;subst IF
  have:=bF e1
  obtain rfl:j=h:=ae 0x92434910e009148149102 rfl j h e2 this
  and_intros
  refine aa (dw hM) ?_
  exact q _ (p.Eu (PC _))
 ·rename type_of% j=>oqe;refine yI oqe λ j o4 o5 o6 e1 e2 IF hM EM p=> ?_;clear oqe;subst IF
  refine bz (ce e1) λ m e3 EL e4=> ?_;subst EL
  have hm:=gZ (i:=j) (h:=h) (H:=H) (ae 0x90914830614c249103 rfl h j m e3) hH1
  unfold aK at hK ⊢
  refine ao (ae 0x92470b0007f38e482c001fe2051481a1102 rfl h j hh e2) ?_
  and_intros
  refine aa (rt _ _ _) ?_
  refine ao (ae 0x92491c2c001fce3920b0007f38184f88e4c1453068481a1103 rfl h H j hh hH e2) ?_
  refine ao (ae 0x91c2c001fce3910b0007f881a1101 rfl h hh) ?_
  refine ao (ae 0x2491c2c001fce3e23912601a03e239106844146101 rfl h Fj hh) ?_
  and_intros
  refine aa (tH _ _ _) ?_
  refine ah (gG (g:=λ i=>V.list ((PQ W).map λ j=>g i j)) hm) ?_
  refine⟨dR hM,?_⟩
  refine ao (bU (ae 0x90a1d07f38e441a1101 rfl w hw)) ?_
  and_intros
  refine aa (PF _) ?_
  refine⟨by refine aa (ba _ _ _) ?_;unfold aq;exact ae 0x48386a0533f441a1101 rfl w hw,?_⟩
  refine fh (f:=λ i=>g (bm j h H) (bm i w W)) (by unfold aq;exact ae 0x48386a0533f441a1101 rfl w hw) (λ k hk M1 p1 K1 Ib=> ?_) λ M1 p1=> ?_
  ·have Gc:=gZ (i:=k) (h:=w) (H:=W) (ae 0x909244249102 rfl k w hk) Fk
   repeat infer_instance
   refine ao (ae 0x92470b0007f38e482c001fe2091481a1102 rfl w k hw hk) ?_
   and_intros
   refine aa (oy _ _) ?_
   refine ao (ae 0x92491c2c001fce3920b0007f38184f88e4c2453068481a1103 rfl w W k hw hW hk) ?_
   refine ao (ae 0x91c2c001fce3910b0007f881a1101 rfl w hw) ?_
   refine ao (ae 0x2491c2c001fce3e23912601a03e239106844146101 rfl w HI hw) ?_
   and_intros
   refine aa (tH _ _ _) ?_
   refine ah (gG (g:=λ j'=>g (bm j h H) j') Gc) ?_
   exact Ib _ p1
  ·have HC:M1.m M.next=_:=(p1.same _ EM).trans hM
   and_intros
   simp only [HC]
   refine⟨by simp;unfold aq;exact ae 0x492161a814cfd2051481a1102 rfl h j hh e2,hK _ _ ⟨j+1,_,_,_,?_,ae 0x90510614830614c249103 rfl h j m e3,rfl,?_,PI EM p1.next,(p.trans p1).En (PC _) _⟩⟩
   ·refine aa e4 ?_;refine aa (show m=h-(j+1) by exact ae 0x90c20614914c30614c249103 rfl h j m e3) ?_;rfl
   ·refine aa (aF _ _ _) ?_;refine aa TH ?_;refine aa Qd ?_;rfl
theorem o0{n:Nat}{i h H:Nat}(hi:i<h)(hh:h<=8)(hH1:1<=H)(hH:H<=8)
  (q:Q (.int (bm i h H:Nat)) M):ag ak (n+1) 73 [.int i,.int h,.int H] M Q X:=by
 refine Ev jY rfl rfl rfl ?_
 have hL:cU=2^256:=rfl
 have hm:=gZ hi hH1
 have hd:(cm 1&&cm (H:Int))=true:=by
  refine aa (PY _ _) ?_;exact⟨rfl,bU (ae 0x90a1d07f38e441a1101 rfl H hH)⟩
 refine ao hd ?_
 refine⟨by refine aa (ba _ _ _) ?_;unfold aq;exact ae 0x48386a0533f34284e441a1101 rfl H hH,?_⟩
 refine cT (λ rest acc M'=>M'=M/\∃j,rest=aZ ((1+j:Nat):Int) 1 (H-1-j)/\j<=H-1/\acc.length=min j (bm i h H)) _ ⟨rfl,0,by simp,ae 0x10a146001 rfl H,by simp⟩ (λ acc M' j=> ?_) λ x xs acc M' j K hK=> ?_
 ·obtain⟨rfl,j,e,e2,e3⟩:=j
  have:=bF e
  and_intros
  refine aa e3 ?_;refine aa (show min j (bm i h H)=bm i h H by exact ae 0x92434444530e00930a148249103 rfl (bm i h H) H j hm this) ?_
  exact q
 ·obtain⟨rfl,j,e,e2,e3⟩:=j
  refine bz (ce e) λ m e4 EL e5=> ?_;subst EL
  have JN:1+j<=bm i h H ↔ 2*h*(1+j)<=(2*i+1)*H:=by
   unfold bm
   rewrite[Nat.le_div_iff_mul_le (by exact ae 0x908f89280249102 rfl i h hi)];refine aa (Ry _ _) ?_;rfl
  have z1:2*(h:Int)*((1+j:Nat):Int)=((2*h*(1+j):Nat):Int):=by push_cast;rfl
  have z2:(2*(i:Int)+1)*(H:Int)=(((2*i+1)*H:Nat):Int):=by push_cast;rfl
  refine ao (ae 0x91c2c001fce3910b0007f881a1101 rfl h hh) ?_
  refine ao (ae 0x92491c2c001fce3814e10b0007f38f88e4430615024c2852068481a1104 rfl h H j m hh hH e4) ?_
  refine ao (ae 0x92470b0007f38e442c001fe206848249102 rfl i h hi hh) ?_
  refine ao (ae 0x92491c2c001fce3930b0007f38184f88e441a1306848249103 rfl i h H hi hh hH) ?_
  and_intros
  refine aa z1 ?_;refine aa z2 ?_
  refine⟨λ hd=> ?_,λ hd=> ?_⟩
  ·have hd:=of_decide_eq_true hd
   repeat infer_instance
   refine hK _ _ ?_ ⟨rfl,j+1,?_,WG e4,?_⟩
   ·refine aa PH ?_;simp;unfold aq;exact ae 0x49248386a0533f0614830615424c28510c4513481a1105 rfl H acc.length j (bm i h H) m hH e3 e4
   ·refine aa e5 ?_;refine aa (show H-1-(j+1)=m by exact ae 0x90d30818520a14430614c248285103 rfl H j m e4) ?_;rfl
   ·refine aa PH ?_;simp;exact ae 0x92490c44c185206144439539428155405305284311349105 rfl acc.length j (bm i h H) (2*h*(1+j)) ((2*i+1)*H) e3 JN hd
  ·have hd:=of_decide_eq_false hd
   repeat infer_instance
   refine hK _ _ ?_ ⟨rfl,j+1,?_,WG e4,?_⟩
   ·refine aa (Qa _) ?_;unfold aq;exact ae 0x49248386a0533f4830615424c28510c4513481a1105 rfl H acc.length j (bm i h H) m hH e3 e4
   ·refine aa e5 ?_;refine aa (show H-1-(j+1)=m by exact ae 0x90d30818520a14430614c248285103 rfl H j m e4) ?_;rfl
   ·refine aa (Qa _) ?_;exact ae 0x92490c44c185244980439539428155405305284311349105 rfl acc.length j (bm i h H) (2*h*(1+j)) ((2*i+1)*H) e3 JN hd
theorem jS{n:Nat}{H W w h:Nat}{g:Nat->Nat->V}(HI:1<=w)(hw:w<=8)(Fj:1<=h)(hh:h<=8)(Fk:1<=W)(hW:W<=8)(hH1:1<=H)(hH:H<=8)
  (q:∀M',Pu M M'->Q (aK h w λ i j=>g (bm i h H) (bm j w W)) M'):ag ak (n+2) 74 [aK H W g,.int w,.int h] M Q X:=by
 unfold aK
 refine Ev jW rfl rfl rfl ?_
 refine ao (bU (ae 0x90a1d07f38e441a1101 rfl h hh)) ?_
 and_intros
 refine aa (PF _) ?_
 refine⟨by refine aa (ba _ _ _) ?_;unfold aq;exact ae 0x48386a0533f441a1101 rfl h hh,?_⟩
 refine fh (f:=λ i=>V.list ((PQ W).map λ j=>g (bm i h H) j)) (by unfold aq;exact ae 0x48386a0533f441a1101 rfl h hh) (λ k hk M1 p1 K1 Ib=> ?_) λ M1 p1=> ?_
 ·and_intros
  refine aa (rt _ _ _) ?_
  refine o0 hk hh hH1 hH ?_
  refine ah (gG (g:=λ i=>V.list ((PQ W).map λ j=>g i j)) (gZ hk hH1)) ?_
  exact Ib _ p1
 ·refine ra (f:=λ x=>match x with|.list r=>.list ((PQ w).map λ j=>r.getD (bm j w W) .none)|x=>x) (by refine aa (oy _ _) ?_;unfold aq;exact ae 0x48386a0533f441a1101 rfl h hh) (λ x hx M2 p2 K2 E7=> ?_) λ M2 p2=> ?_
  ·refine ai (QE.mp hx) λ i hi EL=> ?_;subst EL
   repeat infer_instance
   refine ao (bU (ae 0x90a1d07f38e441a1101 rfl w hw)) ?_
   and_intros
   refine aa (PF _) ?_
   refine⟨by refine aa (ba _ _ _) ?_;unfold aq;exact ae 0x48386a0533f441a1101 rfl w hw,?_⟩
   refine fh (f:=λ j=>g (bm i h H) (bm j w W)) (by unfold aq;exact ae 0x48386a0533f441a1101 rfl w hw) (λ k hk M3 p3 K3 HD=> ?_) λ M3 p3=> ?_
   ·and_intros
    refine aa (oy _ _) ?_
    refine o0 hk hw Fk hW ?_
    refine ah (gG (g:=λ j=>g (bm i h H) j) (gZ hk Fk)) ?_
    exact HD _ p3
   ·have:=E7 _ (p2.trans p3)
    have e:((PQ w).map λ j=>(((PQ W).map λ j=>g (bm i h H) j).getD (bm j w W) V.none))=(PQ w).map λ j=>g (bm i h H) (bm j w W):=by
     refine RM λ j hj=> ?_
     refine aa P7 ?_;refine aa (qG _ (gZ (Sk.mp hj) Fk)) ?_;rfl
    simp only [e] at this
    exact this
  ·refine aa YI ?_
   have:=q _ (p1.trans p2)
   unfold aK at this
   have e:(PQ h).map ((λ x=>match x with|.list r=>V.list ((PQ w).map λ j=>r.getD (bm j w W) .none)|x=>x)∘ λ i=>V.list ((PQ W).map λ j=>g (bm i h H) j))=
     (PQ h).map λ i=>V.list ((PQ w).map λ j=>g (bm i h H) (bm j w W)):=by
    refine RM λ i zz=> ?_
    show V.list _=V.list _
    congr 1
    refine RM λ j hj=> ?_
    refine aa P7 ?_;refine aa (qG _ (gZ (Sk.mp hj) Fk)) ?_;rfl
   refine aa e ?_;exact this
noncomputable def bB:Nat->Nat->List Int
 |_,0=>[]
 |a,n+1=>(a:Int)::bB (a+1) n
theorem zV(a:Nat):bB a 0=[]:=rfl
theorem iU(a n:Nat):bB a (n+1)=(a:Int)::bB (a+1) n:=rfl
noncomputable def entry(v:V):V:=.tup [.int 0,v]
structure aY(t:Nat)(T:List V)(M:AH):Prop where
 at_:M.m t=some (.EE (bB 1 T.length) (T.map entry))
 lt:t<M.next
theorem aY.pu{t:Nat}{T:List V}(h:aY t T M)(p:Pu M M'):aY t T M':=⟨(p.same _ h.lt).trans h.at_,PI h.lt p.next⟩
def NR:V->Prop
 |.inst c _=>c≠4
 |.ref _=>False
 |.fn _=>False
 |.bytes _=>False
 |_=>True
theorem zj(h:NR v)(M:AH):fO M v (.cls 4)=some false:=by
 cases v with
 |inst c vs=>rewrite[DD];have h:c≠4:=h;simp[h]
 |ref i=>exact h.elim
 |fn i=>exact h.elim
 |none=>exact Eb ..
 |bool b=>exact DE ..
 |int i=>exact DA ..
 |str s=>exact Ea ..
 |bytes s=>exact h.elim
 |tup s=>exact D9 ..
 |list s=>exact Dz ..
 |dict k s=>exact DB ..
def Bh(T:List V)(x v:V):Prop:=x=v∨∃n,x=uD (n+1)/\T[n]? =some v
theorem Bh.mono{T T':List V}(h:T<+:T')(b:Bh T x v):Bh T' x v:=b.imp id λ⟨n,e,e2⟩=>⟨n,e,by
 obtain⟨r,rfl⟩:=h
 refine aa (Qc (PL.mp e2).1) ?_;exact e2⟩
def At(T:List V)(hd:V)(key:String)(v:V):Prop:=NR v/\∃ks vs,hd=.dict ks vs/\Bh T ((ay ks vs key).getD .none) v
theorem At.mono{T T':List V}(h:T<+:T'){key:String}(b:At T hd key v):At T' hd key v:=⟨b.1,let⟨ks,vs,e,q⟩:=b.2;⟨ks,vs,e,q.mono h⟩⟩
theorem pw:∀{T:List V} {a n:Nat} {v:V},T[n]? =some v->ci (bB a T.length) (T.map entry) ((a+n:Nat):Int)=some (entry v):=by
 intro T
 induction T with
 |nil=>
  intro a n v h
  simp at h
 |cons x T ih=>
  intro a y1
  cases y1 with
  |zero=>
   intro v h
   simp at h;subst h
   show(if(a:Int)==((a+0:Nat):Int) then _ else _)=_
   refine aa (if_pos (by simp)) ?_;rfl
  |succ n=>
   intro v h
   show(if(a:Int)==((a+(n+1):Nat):Int) then _ else _)=_
   refine aa (if_neg (by simp;exact ae 0x26018106139239139102 rfl a n)) ?_
   have:=ih (a:=a+1) (n:=n) (v:=v) (by simpa using h)
   refine aa (show a+(n+1)=a+1+n by exact ae 0x305206144106149102 rfl a n) ?_
   exact this
theorem xB{t:Nat}{T:List V}(h:aY t T M):tS M (.ref t)=true:=by show((M.m t).bind vt).isSome=true;refine aa h.at_ ?_;rfl
theorem zZ{t:Nat}{T:List V}(h:aY t T M)(i:Int):yA M (.ref t) (.int i)=some (ci (bB 1 T.length) (T.map entry) i):=by show((M.m t).bind vt).bind _=_;refine aa h.at_ ?_;rfl
theorem eM{n:Nat}{t:Nat}{T:List V}(hT:aY t T M)(hb:Bh T x v)(hn:NR v)(q:Q v M):ag ak (n+1) 16 [sh t,x] M Q X:=by
 refine Ev jb rfl rfl rfl ?_
 refine⟨by decide,?_⟩
 rcases hb with rfl|⟨k,rfl,hk⟩
 ·refine ah (zj hn _) ?_
  repeat infer_instance
  exact q
 ·have e:yA M (.ref t) (.int ((k+1:Nat):Int))=some (some (entry v)):=(zZ hT _).trans (congrArg some (by refine aa (show k+1=1+k by exact ae 0x305184185101 rfl k) ?_;exact pw hk))
  repeat infer_instance
  refine⟨xB hT,?_⟩
  refine ah e ?_
  repeat infer_instance
  refine ah (zj hn _) ?_
  repeat infer_instance
  exact q
theorem bn{n:Nat}{t:Nat}{T:List V}{key:String}(hT:aY t T M)(hb:At T hd key v)(q:Q v M):ag ak (n+2) 17 [sh t,hd,.str key] M Q X:=by
 obtain⟨hn,ks,vs,rfl,hb⟩:=hb
 refine Ev kx rfl rfl rfl ?_
 refine⟨rfl,?_⟩
 exact eM hT hb hn q
section
variable{n:Nat}{t:Nat}{T:List V}{hd:V}{M:AH}{Q:V->AH->Prop}{X:AH->Prop}
theorem fG{key:String}{k:Nat}(hT:aY t T M)(hb:At T hd key (.int k))(hk:1<=k)(q:Q (.int k) M):ag ak (n+3) 49 [sh t,hd,.str key] M Q X:=by
 refine Ev jr rfl rfl rfl ?_
 refine bn hT hb ?_
 repeat infer_instance
 refine ite_f (decide_eq_false (ae 0x24980584e44146101 rfl k hk)) ?_
 exact q
def CD(v:V):Prop:=(∃b,v=.bool b)∨∃i:Int,v=.int i/\i<1
theorem we:("an image without a right " :String).length=25:=by decide
theorem qo(hT:aY t T M)(hb:At T hd key v)(hk:key.length<=100)(hv:CD v)(q:X M):ag ak (n+3) 49 [sh t,hd,.str key] M Q X:=by
 have hl:gr .add (.str "an image without a right ") (.str key)=some (.str ("an image without a right " ++key)):=if_pos (by refine aa we ?_;unfold aq;exact ae 0x48386a0533f051e41c8085fd101 rfl key.length hk)
 refine Ev jr rfl rfl rfl ?_
 refine bn hT hb ?_
 rcases hv with⟨b,rfl⟩|⟨i,rfl,hi⟩
 ·repeat infer_instance
  refine ah hl ?_
  exact q
 ·repeat infer_instance
  refine ite_t (decide_eq_true (ae 0x916144585110 rfl i hi)) ?_
  refine ah hl ?_
  exact q
noncomputable def eu:V->Bool|.bool b=>b|_=>false
theorem cu(hT:aY t T M)(hb:At T hd "ImageMask" v)(q:Q (.bool (eu v)) M):ag ak (n+3) 50 [sh t,hd] M Q X:=by
 refine Ev kn rfl rfl rfl ?_
 refine bn hT hb ?_
 have hn:=hb.1
 cases v with
 |inst c vs=>and_intros;exact q
 |ref i=>exact hn.elim
 |fn i=>exact hn.elim
 |none=>and_intros;exact q
 |bool b=>and_intros;exact q
 |int i=>and_intros;exact q
 |str s=>and_intros;exact q
 |bytes s=>exact hn.elim
 |tup s=>and_intros;exact q
 |list s=>and_intros;exact q
 |dict k s=>and_intros;exact q
theorem xq(b:Nat):eJ (.int b) [.int 1,.int 2,.int 4,.int 8,.int 16]=some (decide (b=1∨b=2∨b=4∨b=8∨b=16)):=by
 have e:∀k:Nat,((k:Int)==(b:Int))=decide (b=k):=λ k=>by
  by_cases h:b=k
  ·subst h;simp
  ·simp[h];exact ae 0x926018e44e48980349102 rfl b k h
 have e1:=e 1;have e2:=e 2;have e3:=e 4;have e4:=e 8;have e5:=e 16
 show some _=_
 refine aa (show((1:Int)==(b:Int))=decide (b=1) from e1) ?_;refine aa (show((2:Int)==(b:Int))=decide (b=2) from e2) ?_;refine aa (show((4:Int)==(b:Int))=decide (b=4) from e3) ?_;refine aa (show((8:Int)==(b:Int))=decide (b=8) from e4) ?_;refine aa (show((16:Int)==(b:Int))=decide (b=16) from e5) ?_
 simp
theorem Cf(b:Nat):((1:Int)==(b:Int)||((2:Int)==(b:Int)||((4:Int)==(b:Int)||((8:Int)==(b:Int)||((16:Int)==(b:Int)||false)))))=decide (b=1∨b=2∨b=4∨b=8∨b=16):=PX (xq b)
theorem lW(hT:aY t T M)(hi:At T hd "ImageMask" v)(hv:eu v=true)(hb:At T hd "BitsPerComponent" .none)(q:Q (.int 1) M):ag ak (n+4) 51 [sh t,hd] M Q X:=by
 refine Ev jt rfl rfl rfl ?_
 refine cu hT hi ?_
 refine aa hv ?_
 repeat infer_instance
 refine bn hT hb ?_
 repeat infer_instance
 exact q
theorem nJ{b:Nat}(hT:aY t T M)(hi:At T hd "ImageMask" v)(hb:At T hd "BitsPerComponent" (.int b))(EX:1<=b)
  (q:(decide (b=1∨b=2∨b=4∨b=8∨b=16)=false∨(eu v=true/\b≠1))->X M)(q2:decide (b=1∨b=2∨b=4∨b=8∨b=16)=true->(eu v=true->b=1)->Q (.int b) M):ag ak (n+4) 51 [sh t,hd] M Q X:=by
 refine Ev jt rfl rfl rfl ?_
 refine cu hT hi ?_
 cases hv:eu v
 ·repeat infer_instance
  refine fG hT hb EX ?_
  and_intros
  refine aa (Cf _) ?_
  refine⟨λ h=> ?_,λ h=> ?_⟩
  ·simp only [UB] at h
   refine cu hT hi ?_
   refine aa hv ?_
   repeat infer_instance
   exact q2 h (λ e=>by rw[hv] at e;cases e)
  ·have h:=(YL h:_=false)
   refine ite_t (by refine aa h ?_;rfl) ?_
   and_intros
   exact q (.inl h)
 ·repeat infer_instance
  refine bn hT hb ?_
  repeat infer_instance
  refine fG hT hb EX ?_
  and_intros
  refine aa (Cf _) ?_
  refine⟨λ h=> ?_,λ h=> ?_⟩
  ·simp only [UB] at h
   refine cu hT hi ?_
   refine aa hv ?_
   repeat infer_instance
   refine⟨λ h2=> ?_,λ h2=> ?_⟩
   ·refine q (.inr ⟨hv,?_⟩)
    intro e;subst e;simp at h2
   ·refine q2 h λ zz=> ?_
    simp at h2;exact ae 0x2438511a139101 rfl b h2
  ·have h:=(YL h:_=false)
   refine ite_t (by refine aa h ?_;rfl) ?_
   and_intros
   exact q (.inl h)
theorem xH{b:Nat}(hT:aY t T M)(hi:At T hd "ImageMask" v)(hb:At T hd "BitsPerComponent" (.int b))(h5:b=1∨b=2∨b=4∨b=8∨b=16)(hv:eu v=true->b=1)(q:Q (.int b) M):ag ak (n+4) 51 [sh t,hd] M Q X:=
 nJ hT hi hb (ae 0x9051848208203c110e84439110e244385101 rfl b h5) (λ h=>h.elim (λ h=>absurd h5 (of_decide_eq_false h)) λ h=>absurd (hv h.1) h.2) λ zz zz=>q
theorem qz{b:Nat}(hT:aY t T M)(hi:At T hd "ImageMask" v)(hb:At T hd "BitsPerComponent" (.int b))(EX:1<=b)(h5:¬(b=1∨b=2∨b=4∨b=8∨b=16)∨(eu v=true/\b≠1))(q:X M):ag ak (n+4) 51 [sh t,hd] M Q X:=
 nJ hT hi hb EX (λ h=>q) λ h h2=>(h5.elim (λ e=>e (of_decide_eq_true h)) λ e=>e.2 (h2 e.1)).elim
theorem mM(q:∀M',Pu M M'->Q (fi w h b c) M'):cK ak (ag ak (n+1)) 9 [.int w,.int h,.int b,.int c] M Q X:=by
 unfold cK
 refine Ev j3 rfl rfl rfl ?_
 refine ah (bL _ _) ?_
 and_intros
 refine ah (aF _ _ _) ?_
 and_intros
 refine ah (aF _ _ _) ?_
 and_intros
 refine ah (aF _ _ _) ?_
 and_intros
 refine aa (aF _ _ _) ?_
 refine cg rfl rfl ?_
 exact q _ (((((Pu.new M _).En (PC _) _).En (PC _) _).En (PC _) _).En (PC _) _|>.Eu (PC _))
structure fD(T:List V)(hd:V)(w h b:Nat):Prop where
 wd:At T hd "Width" (.int w)
 ht:At T hd "Height" (.int h)
 w1:1<=w
 h1:1<=h
 dep:(∃v,At T hd "ImageMask" v/\eu v=true/\At T hd "BitsPerComponent" .none/\b=1)∨∃v,At T hd "ImageMask" v/\At T hd "BitsPerComponent" (.int b)/\(b=1∨b=2∨b=4∨b=8∨b=16)/\(eu v=true->b=1)
theorem fI{w h b c:Nat}(hT:aY t T M)(f:fD T hd w h b)(q:∀M',Pu M M'->Q (fi w h b c) M'):ag ak (n+5) 52 [sh t,hd,.int c] M Q X:=by
 refine Ev gD rfl rfl rfl ?_
 refine fG hT f.wd f.w1 (fG hT f.ht f.h1 ?_)
 rcases f.dep with⟨v,a1,a2,a3,rfl⟩|⟨v,a1,a2,a3,a4⟩
 ·exact lW hT a1 a2 a3 (mM q)
 ·exact xH hT a1 a2 a3 a4 (mM q)
theorem oi(hT:aY t T M)(hw:At T hd "Width" v)(hv:CD v)(q:X M):ag ak (n+5) 52 [sh t,hd,.int c] M Q X:=by
 refine Ev gD rfl rfl rfl ?_
 exact qo hT hw (by decide) hv q
theorem i0{w h b c:Nat}(hT:aY t T M)(hw:At T hd "Width" (.int w))(w1:1<=w)(hh:At T hd "Height" (.int h))(h1:1<=h)(hi:At T hd "ImageMask" v)(hb:At T hd "BitsPerComponent" (.int b))(EX:1<=b)
  (h5:¬(b=1∨b=2∨b=4∨b=8∨b=16)∨(eu v=true/\b≠1))(q:X M):ag ak (n+5) 52 [sh t,hd,.int c] M Q X:=by
 refine Ev gD rfl rfl rfl ?_
 exact fG hT hw w1 (fG hT hh h1 (qz hT hi hb EX h5 q))
end
theorem yQ(hf:ak.fn f=some F)(ha:eQ F vs=some ρ)
  (q:bq ak (ag ak n) F.body ρ M (λ zz M'=>Q .none M') Q X):ag ak (n+1) f vs M Q X:=by rewrite[ee];refine aa hf ?_;refine aa (dO _ _) ?_;refine aa ha ?_;refine aa (dO _ _) ?_;exact q
noncomputable def qm(nm:String)(c:Nat):V:=.inst 6 [.str nm,.int c,.none,.bytes [],.int 0,.none,.tup []]
noncomputable def mI(t:Nat):V:=.inst 7 [sh t,.dict [] [],.fn 67]
def fE(nm:String)(c:Nat):Prop:=(nm= "DeviceGray" /\c=1)∨(nm= "DeviceRGB" /\c=3)∨(nm= "DeviceCMYK" /\c=4)
section
variable{n:Nat}{t:Nat}{T:List V}{hd:V}{nm:String}{c:Nat}{M:AH}{Q:V->AH->Prop}{X:AH->Prop}
noncomputable def B8:V:=.dict ["DeviceGray","DeviceRGB","DeviceCMYK"] [.int 1,.int 3,.int 4]
theorem mO(q:Q B8 M):ag ak (n+1) 22 [] M Q X:=by
 refine Ev io rfl rfl rfl ?_
 exact fj rfl (by decide) (by decide) q
theorem AW(d:fE nm c):ay ["DeviceGray","DeviceRGB","DeviceCMYK"] [.int 1,.int 3,.int 4] nm=some (.int c):=by
 rcases d with⟨rfl,rfl⟩|⟨rfl,rfl⟩|⟨rfl,rfl⟩<;>rfl
theorem B7(d:fE nm c):(["DeviceGray","DeviceRGB","DeviceCMYK"].contains nm)=true:=by
 rcases d with⟨rfl,rfl⟩|⟨rfl,rfl⟩|⟨rfl,rfl⟩<;>decide
theorem qw(q:∀M',Pu M M'->Q (qm nm c) M'):cK ak (ag ak (n+1)) 6 [.str nm,.int c] M Q X:=by
 unfold cK
 refine yQ (F:=lI) (ρ:=[some (.ref M.next),some (.str nm),some (.int c),some .none,some (.bytes []),some (.int 0),some .none,some (.tup [])]) rfl rfl ?_
 refine ah (bL _ _) ?_
 and_intros
 iterate 6 (refine ah (aF _ _ _) ?_;and_intros)
 refine aa (aF _ _ _) ?_
 refine cg rfl rfl ?_
 exact q _ ((((((((Pu.new M _).En (PC _) _).En (PC _) _).En (PC _) _).En (PC _) _).En (PC _) _).En (PC _) _).En (PC _) _|>.Eu (PC _))
theorem mP(d:fE nm c)(q:∀M',Pu M M'->Q (qm nm c) M'):ag ak (n+2) 23 [.str nm] M Q X:=by
 refine Ev i7 rfl rfl rfl ?_
 refine mO ?_
 and_intros
 refine ah (show eh M B8 (.str nm)=some (.int c) from AW d) ?_
 exact qw q
theorem uu(q:∀M',Pu M M'->Q (mI t) M'):cK ak (ag ak (n+1)) 7 [sh t,.dict [] [],.fn 67] M Q X:=by
 unfold cK
 refine Ev kt rfl rfl rfl ?_
 refine ah (bL _ _) ?_
 and_intros
 iterate 2 (refine ah (aF _ _ _) ?_;and_intros)
 refine aa (aF _ _ _) ?_
 refine cg rfl rfl ?_
 exact q _ ((((Pu.new M _).En (PC _) _).En (PC _) _).En (PC _) _|>.Eu (PC _))
theorem xF(hT:aY t T M)(q:Q .none M):ag ak (n+3) 26 [mI t,.str s] M Q X:=by
 unfold mI
 refine Ev i9 rfl rfl rfl ?_
 refine bn hT (v:=.none) ⟨trivial,[],[],rfl,.inl rfl⟩ ?_
 repeat infer_instance
 exact q
theorem qr(hT:aY t T M)(hb:Bh T x v)(hn:NR v)(q:Q v M):ag ak (n+2) 25 [mI t,x] M Q X:=by
 unfold mI
 refine Ev ja rfl rfl rfl ?_
 exact eM hT hb hn q
theorem AV(d:fE nm c):("Device" :String).length=6/\6<=nm.length/\("Default" :String).length+(RR (nm.toList.drop 6)).length<=aq:=by
 rcases d with⟨rfl,rfl⟩|⟨rfl,rfl⟩|⟨rfl,rfl⟩<;>decide
theorem Ed(s:String)(lo:Nat):mW M (.str s) lo none=if lo<=s.length then some (.str (RR (s.toList.drop lo))) else none:=rfl
theorem lX(d:fE nm c)(hT:aY t T M)(q:∀M',Pu M M'->Q (qm nm c) M'):ag ak (n+4) 30 [mI t,.str nm,.int k] M Q X:=by
 refine ei (AV d) λ d1 d2 d3=> ?_
 refine Ev ip rfl rfl rfl ?_
 refine aa d1 ?_
 refine⟨(show 6<aq by decide),?_⟩
 obtain⟨z,y,hz,hy⟩:∃z y,mW M (.str nm) 6 none=some (.str z)/\gr .add (.str "Default") (.str z)=some (.str y):=⟨_,_,(Ed nm 6).trans (if_pos d2),if_pos d3⟩
 refine ah hz ?_
 show aB (gr .add (.str "Default") (.str z)) _
 refine ah hy ?_
 refine xF hT ?_
 repeat infer_instance
 exact mP d q
theorem uw(d:fE nm c)(hT:aY t T M)(q:∀M',Pu M M'->Q (qm nm c) M'):ag ak (n+5) 29 [mI t,.str nm,.int k] M Q X:=by
 refine Ev ik rfl rfl rfl ?_
 refine mO ?_
 refine ite_t (B7 d) ?_
 exact lX d hT q
theorem vP(d:fE nm c)(hT:aY t T M)(hb:Bh T x (.inst 1 [.str nm]))(q:∀M',Pu M M'->Q (qm nm c) M'):ag ak (n+6) 28 [mI t,x,.int 8] M Q X:=by
 refine Ev i6 rfl rfl rfl ?_
 unfold mI
 refine qr hT hb (by show 1≠4;decide) ?_
 repeat infer_instance
 exact uw d hT q
theorem sy(d:fE nm c)(hT:aY t T M)(hb:Bh T x (.inst 1 [.str nm]))(q:∀M',Pu M M'->Q (qm nm c) M'):ag ak (n+7) 27 [sh t,.dict [] [],x,.fn 67] M Q X:=by
 refine Ev mZ rfl rfl rfl ?_
 refine uu λ M1 p1=> ?_
 exact vP d (hT.pu p1) hb λ M2 p2=>q _ (p1.trans p2)
theorem w4(d:fE nm c):(nm== "Pattern")=false/\(nm== "Indexed")=false:=by
 rcases d with⟨rfl,rfl⟩|⟨rfl,rfl⟩|⟨rfl,rfl⟩<;>decide
theorem og(d:fE nm c)(hT:aY t T M)(hi:At T hd "ImageMask" v)(hv:eu v=false)(hc:At T hd "ColorSpace" (.inst 1 [.str nm]))(q:∀M',Pu M M'->Q (qm nm c) M'):ag ak (n+8) 54 [sh t,.dict [] [],hd,.fn 67] M Q X:=by
 refine Ev jU rfl rfl rfl ?_
 refine cu hT hi ?_
 refine aa hv ?_
 repeat infer_instance
 refine bn hT hc ?_
 repeat infer_instance
 refine sy d hT (.inl rfl) λ M1 p1=> ?_
 refine ite_f (w4 d).1 ?_
 exact q _ p1
theorem bH(d:fE nm c)(hT:aY t T M)(hi:At T hd "ImageMask" v)(hv:eu v=false)(hc:At T hd "ColorSpace" (.inst 1 [.str nm]))(f:fD T hd w h b)
  (q:∀M',Pu M M'->Q (.tup [fi w h b c,.bool false]) M'):ag ak (n+9) 55 [sh t,.dict [] [],hd,.fn 67] M Q X:=by
 refine Ev jV rfl rfl rfl ?_
 refine og d hT hi hv hc λ M1 p1=> ?_
 repeat infer_instance
 refine fI (hT.pu p1) f λ M2 p2=> ?_
 have:=q _ (p1.trans p2)
 rw[<-(w4 d).2] at this
 exact this
end
def aW(R:V->V->Prop):List V->List V->Prop
 |[],[]=>True
 |x::xs,y::ys=>R x y/\aW R xs ys
 |_,_=>False
theorem aW.len:∀{xs ys:List V},aW R xs ys->xs.length=ys.length:=by
 intro xs
 induction xs with
 |nil=>
  intro y1
  cases y1 with
  |nil=>
   intro y2
   exact rfl
  |cons y3 y4=>
   intro h
   exact h.elim
 |cons x xs ih=>
  intro y5
  cases y5 with
  |nil=>
   intro h
   exact h.elim
  |cons y ys=>
   intro h
   refine aa PN ?_;refine aa PN ?_;refine aa (ih h.2) ?_;rfl
theorem aW.mono{R S:V->V->Prop}(h:∀x y,R x y->S x y):∀{xs ys:List V},aW R xs ys->aW S xs ys:=by
 intro xs
 induction xs with
 |nil=>
  intro y1
  cases y1 with
  |nil=>
   intro y2
   exact trivial
  |cons y3 y4=>
   intro q
   exact q.elim
 |cons x xs ih=>
  intro y5
  cases y5 with
  |nil=>
   intro q
   exact q.elim
  |cons y ys=>
   intro q
   exact⟨h _ _ q.1,ih q.2⟩
theorem mf{T:V->AH->(List V->AH->Prop)->Prop}{Q:List V->AH->Prop}{R:V->V->Prop}{items out:List V}(h2:aW R items out)(hl:items.length<=aq)
  (ht:∀x y,R x y->∀M',Pu M M'->∀K:List V->AH->Prop,(∀M2,Pu M M2->K [y] M2)->T x M' K)(hQ:∀M',Pu M M'->Q out M'):bP T items [] M Q:=by
 refine cT (λ rest acc M'=>∃ys,aW R rest ys/\out=acc++ys/\acc.length+rest.length<=aq/\Pu M M') items ⟨out,h2,rfl,by simpa using hl,.refl _⟩ (λ acc M' j=> ?_) λ x xs acc M' j K hK=> ?_
 ·refine jF j λ ys a EL zz p=> ?_;clear j;subst EL
  cases ys with
  |nil=>rw[Qa] at hQ;exact hQ _ p
  |cons y ys=>exact a.elim
 ·refine jF j λ ys a EL l p=> ?_;clear j;subst EL
  cases ys with
  |nil=>exact a.elim
  |cons y ys=>
   rw[PN] at l
   exact ht x y a.1 M' p K λ M2 p2=>hK _ _ (by simp;exact ae 0x241c350299f830a20e1a814cfc106149102 rfl acc.length xs.length l) ⟨ys,a.2,by simp,by simp;exact ae 0x241c350299f829030a20e1a814cfc106149102 rfl acc.length xs.length l,p2⟩
theorem cb{T:V->AH->(List V->AH->Prop)->Prop}{Q:List V->AH->Prop}{g g':Nat->V}{n:Nat}(hl:n<=aq)
  (ht:∀k,k<n->∀M',Pu M M'->∀K:List V->AH->Prop,(∀M2,Pu M M2->K [g' k] M2)->T (g k) M' K)(hQ:∀M',Pu M M'->Q ((PQ n).map g') M'):bP T ((PQ n).map g) [] M Q:=by
 refine mf (R:=λ x y=>∃k,k<n/\x=g k/\y=g' k) (out:=(PQ n).map g') ?_ (by simpa using hl) (λ x y h M' p K hK=> ?_) hQ
 ·have key:∀l:List Nat,(∀k∈l,k<n)->aW (λ x y=>∃k,k<n/\x=g k/\y=g' k) (l.map g) (l.map g'):=by
   intro l
   induction l with
   |nil=>intro _;trivial
   |cons k l ih=>exact λ h=>⟨⟨k,h k (by simp),rfl,rfl⟩,ih λ j hj=>h j (by simp[hj])⟩
  exact key _ λ k hk=>Sk.mp hk
 ·refine bz h λ k hk EL G4=> ?_;clear h;subst EL;subst G4
  exact ht k hk M' p K hK
noncomputable def bN(px:List (List (List Nat)))(i j:Nat):List Nat:=(px.getD i []).getD j []
noncomputable def bS(px:List (List (List Nat)))(i j:Nat):Nat:=(bN px i j).getD 0 0
theorem pr{α β:Type}(d:α)(f:α->β)(l:List α):l.map f=(PQ l.length).map λ i=>f (l.getD i d):=by
 refine List.ext_getElem (by simp) λ i h1 h2=> ?_
 simp
 refine aa (PG (by simpa using h1)) ?_;rfl
theorem fX(d:ca px w h b c):bk px=aK h w λ i j=>cH (bN px i j):=by
 unfold bk aK
 refine aa (pr [] dy px) ?_;refine aa d.len ?_
 congr 1
 refine RM λ i hi=> ?_
 have hi:=Sk.mp hi
 unfold dy
 have hr:px.getD i []∈px:=by
  refine aa P7 ?_;refine aa (PG (by refine aa d.len ?_;exact hi)) ?_;exact QI _
 refine aa (pr [] cH (px.getD i [])) ?_;refine aa (d.row _ hr) ?_
 rfl
theorem ca.at_(d:ca px w h b c)(hi:i<h)(hj:j<w):(bN px i j).length=c/\∀s∈bN px i j,s<2^b:=by
 have hr:px.getD i []∈px:=by
  refine aa P7 ?_;refine aa (PG (by refine aa d.len ?_;exact hi)) ?_;exact QI _
 have hp:bN px i j∈px.getD i []:=by
  unfold bN
  refine aa (P7 (l:=px.getD i [])) ?_;refine aa (PG (by refine aa (d.row _ hr) ?_;exact hj)) ?_;exact QI _
 exact⟨d.Ks _ hr _ hp,d.K0 _ hr _ hp⟩
theorem lc(h:p.length=1):cH p=.tup [.int (p.getD 0 0)]:=by
 match p,h with
 |[s],_=>rfl
noncomputable def EG(hd:V)(px:List (List (List Nat)))(b:Nat):V:=.inst 3 [hd,.bytes (33::bX b px)]
section
variable{n:Nat}{t:Nat}{T:List V}{hd:V}{nm:String}{w h b c:Nat}{px:List (List (List Nat))}{M:AH}{Q:V->AH->Prop}{X:AH->Prop}
theorem iZ(q:Q (.bytes (bX b px)) M):ag ak (n+1) 67 [sh t,EG hd px b] M Q X:=by
 refine Ev lE rfl rfl rfl ?_
 exact⟨by decide,q⟩
theorem pK(d:fE nm c)(hT:aY t T M)(hi:At T hd "ImageMask" v)(hv:eu v=false)(hc:At T hd "ColorSpace" (.inst 1 [.str nm]))(f:fD T hd w h b)(dm:ca px w h b c)(hw:w<=8)(hh:h<=8)
  (q:∀M',Pu M M'->Q (bk px) M'):ag ak (n+10) 56 [sh t,.dict [] [],EG hd px b,.fn 67] M Q X:=by
 have hb:1<=b/\b<=16:=by rcases f.dep with⟨v,a1,a2,a3,rfl⟩|⟨v,a1,a2,a3,a4⟩<;>(first|exact ae 0x707084186100 rfl|exact ae 0x91c1c11051848208203c110e84439110e244385101 rfl b a3)
 have KG:1<=c/\c<=4:=by rcases d with⟨_,rfl⟩|⟨_,rfl⟩|⟨_,rfl⟩<;>(first|exact ae 0x706484186100 rfl|exact ae 0x70648c18e100 rfl|exact ae 0x706490192100 rfl)
 refine Ev ko rfl rfl rfl ?_
 refine bH d hT hi hv hc f λ M1 p1=> ?_
 refine iZ (hd:=hd) (px:=px) ?_
 refine fH dm f.w1 hw hb.1 hb.2 KG.1 KG.2 hh λ M2 p2=>q _ (p1.trans p2)
theorem sF(hv:br v k p)(q:∀s,s= "int"∨s= "real" ->Q (.str s) M):ag ak (n+1) 11 [v] M Q X:=by
 cases hv
 ·refine Ev bJ rfl rfl rfl ?_;repeat infer_instance
  exact q _ (.inl rfl)
 ·refine Ev bJ rfl rfl rfl ?_;repeat infer_instance
  exact q _ (.inr rfl)
theorem qu(hv:br v k p)(q:Q (.bool true) M):ag ak (n+2) 12 [v] M Q X:=by
 refine Ev iL rfl rfl rfl ?_
 refine sF hv λ s hs=> ?_
 rcases hs with rfl|rfl
 ·and_intros;exact q
 ·and_intros;exact q
theorem sA(q:Q (.bool false) M):ag ak (n+2) 12 [.bool v] M Q X:=by
 refine Ev iL rfl rfl rfl ?_
 refine Ev bJ rfl rfl rfl ?_;repeat infer_instance
 exact q
end
noncomputable def cv:List V->List V
 |x::y::r=>.tup [x,y]::cv r
 |_=>[]
theorem mY:∀{vs:List V} {j:Nat} {x y:V},vs[2*j]? =some x->vs[2*j+1]? =some y->(cv vs)[j]? =some (.tup [x,y])
 |[],j,x,y,h,_=>by simp at h
 |[a],j,x,y,_,h=>by simp at h
 |a::b::r,0,x,y,h,h2=>by
  have h:some a=some x:=h
  have h2:some b=some y:=h2
  cases h;cases h2;rfl
 |a::b::r,j+1,x,y,h,h2=>by
  have:=mY (vs:=r) (j:=j) (x:=x) (y:=y) (by simpa[Ui] using h) (by simpa[Ui] using h2)
  exact this
theorem pc:∀{vs:List V} {k:Nat},vs.length=2*k->(cv vs).length=k
 |[],k,h=>by
  have:k=0:=by simp at h;exact ae 0x90e04433e246001 rfl k h
  subst this;rfl
 |[a],k,h=>by simp at h;lia
 |a::b::r,k,h=>by
  rw[PN,PN] at h
  obtain⟨k,rfl⟩:∃m,k=m+1:=⟨k-1,ae 0x90c18428524833e248184185102 rfl r.length k h⟩
  show(cv r).length+1=_
  refine aa (pc (vs:=r) (k:=k) (ae 0x90cf8924433e206148184185102 rfl r.length k h)) ?_;rfl
theorem uX{T:V->AH->(List V->AH->Prop)->Prop}{Q:List V->AH->Prop}{vs:List V}{k:Nat}(hk:vs.length=2*k)(hl:k<=1000)
  (ht:∀(j:Nat) x y,j<k->vs[2*j]? =some x->vs[2*j+1]? =some y->∀K:List V->AH->Prop,K [.tup [x,y]] M->T (.int ((2*j:Nat):Int)) M K)(hQ:Q (cv vs) M):bP T (aZ 0 2 k) [] M Q:=by
 have hp:=pc hk
 refine cT (λ rest acc M'=>M'=M/\∃j,j<=k/\rest=aZ ((2*j:Nat):Int) 2 (k-j)/\acc=(cv vs).take j) _ ⟨rfl,0,ae 0x146001 rfl k,rfl,rfl⟩ (λ acc M' j=> ?_) λ x xs acc M' j K hK=> ?_
 ·obtain⟨rfl,j,e0,e,rfl⟩:=j
  have:=bF e
  refine aa (Qe (ae 0x92414d10e009348349103 rfl ((cv vs).length) k j hp this)) ?_
  exact hQ
 ·obtain⟨rfl,j,e0,e,rfl⟩:=j
  refine bz (fS e) λ m e1 EL e2=> ?_;subst EL
  have h1:vs[2*j]? =some (vs[2*j]'(ae 0x924244f8930c18540934833e249104 rfl vs.length k j m hk e1)):=PG _
  have h2:vs[2*j+1]? =some (vs[2*j+1]'(ae 0x924244184f8930c18540934833e249104 rfl vs.length k j m hk e1)):=PG _
  refine ht j _ _ (ae 0x90914830614c249103 rfl k j m e1) h1 h2 K (hK _ _ ?_ ⟨rfl,j+1,ae 0x90510614830614c249103 rfl k j m e1,?_,?_⟩)
  ·simp;unfold aq;exact ae 0x1248386a0533f06111348145207e80c7fd103 rfl k j ((cv vs).length) hl e0
  ·refine aa e2 ?_;refine aa (show m=k-(j+1) by exact ae 0x90c20614914c30614c249103 rfl k j m e1) ?_;refine aa (show((2*j:Nat):Int)+((2:Nat):Int)=((2*(j+1):Nat):Int) by exact ae 0x18e3e20614413a238f89101 rfl j) ?_;rfl
  ·refine aa QY ?_;refine aa (mY h1 h2) ?_;rfl
theorem nH(k:Nat):(if(0:Int)<((2*k:Nat):Int) then((((2*k:Nat):Int)-0-1)/2+1).toNat else 0)=k:=pD (c:=2) (by decide)
section
variable{n:Nat}{t:Nat}{T:List V}{hd:V}{nm:String}{w h b c:Nat}{px:List (List (List Nat))}{M:AH}{Q:V->AH->Prop}{X:AH->Prop}
theorem uv(q:∀M',Pu M M'->Q (.list [.tup [.int 0,.int 1]]) M'):ag ak (n+1) 44 [fi w h b 1,.bool false] M Q X:=by
 refine Ev gQ rfl rfl rfl ?_
 refine⟨by decide,?_⟩
 repeat infer_instance
 refine⟨show 1<=aq by decide,?_⟩
 exact q _ (.refl _)
theorem om(hT:aY t T M)(hb:At T hd "Decode" .none)(q:∀M',Pu M M'->Q (.list [.tup [.int 0,.int 1]]) M'):ag ak (n+3) 53 [sh t,hd,fi w h b 1,.bool false] M Q X:=by
 refine Ev cP rfl rfl rfl ?_
 refine bn hT hb ?_
 repeat infer_instance
 exact uv q
theorem pN(hT:aY t T M)(hb:At T hd "Decode" (.list ps))(hl:ps.length≠2)(q:X M):ag ak (n+3) 53 [sh t,hd,fi w h b 1,.bool false] M Q X:=by
 refine Ev cP rfl rfl rfl ?_
 refine bn hT hb ?_
 and_intros
 have e:((ps.length:Int)==2*(1:Nat))=false:=by simp;exact ae 0x24980688e44980389101 rfl ps.length hl
 refine aa e ?_
 repeat infer_instance
 exact q
theorem pM(hT:aY t T M)(hb:At T hd "Decode" (.list [x,y]))(hx:Bh T x v)(hy:Bh T y u)(hv:br v t1 p1)(hu:br u t2 p2)
  (q:∀M',Pu M M'->Q (.list [.tup [v,u]]) M'):ag ak (n+3) 53 [sh t,hd,fi w h b 1,.bool false] M Q X:=by
 have nv:NR v:=by cases hv<;>first|exact trivial|exact(show(0:Nat)≠4 by decide)
 have nu:NR u:=by cases hu<;>first|exact trivial|exact(show(0:Nat)≠4 by decide)
 refine Ev cP rfl rfl rfl ?_
 refine bn hT hb ?_
 repeat infer_instance
 refine eM hT hx nv ?_
 refine⟨show 1<=aq by decide,?_⟩
 repeat infer_instance
 refine eM hT hy nu ?_
 refine⟨show 2<=aq by decide,?_⟩
 refine qu hv ?_
 repeat infer_instance
 refine⟨show 0<=aq by decide,?_⟩
 refine qu hu ?_
 repeat infer_instance
 refine⟨show 0<=aq by decide,?_⟩
 and_intros
 refine aa (show(if(0:Int)<((([]++[v]++[u]:List V).length:Nat):Int) then((((([]++[v]++[u]:List V).length:Nat):Int)-0-1)/2+1).toNat else 0)=1 from nH 1) ?_
 refine⟨show 1<=aq by decide,?_⟩
 repeat infer_instance
 refine⟨show 1<=aq by decide,?_⟩
 exact q _ (.refl _)
theorem on(hT:aY t T M)(hb:At T hd "Decode" (.list [x,y]))(hx:Bh T x v)(hy:Bh T y (.bool bo))(hv:br v k p)(q:∀M',Pu M M'->X M'):ag ak (n+3) 53 [sh t,hd,fi w h b 1,.bool false] M Q X:=by
 have nv:NR v:=by cases hv<;>first|exact trivial|exact(show(0:Nat)≠4 by decide)
 refine Ev cP rfl rfl rfl ?_
 refine bn hT hb ?_
 repeat infer_instance
 refine eM hT hx nv ?_
 refine⟨show 1<=aq by decide,?_⟩
 repeat infer_instance
 refine eM hT hy trivial ?_
 refine⟨show 2<=aq by decide,?_⟩
 refine qu hv ?_
 repeat infer_instance
 refine⟨show 0<=aq by decide,?_⟩
 refine sA ?_
 repeat infer_instance
 refine⟨show 1<=aq by decide,?_⟩
 repeat infer_instance
 exact q _ (.refl _)
end
def nV(T:List V)(hd:V)(v u:V):Prop:=(At T hd "Decode" .none/\v=.int 0/\u=.int 1)∨∃x y,At T hd "Decode" (.list [x,y])/\Bh T x v/\Bh T y u
section
variable{n:Nat}{t:Nat}{T:List V}{hd:V}{nm:String}{w h b c pl:Nat}{px:List (List (List Nat))}{v u:V}{t1 t2:Int}{p1 p2:Nat}{M:AH}{Q:V->AH->Prop}{X:AH->Prop}
theorem kg(hT:aY t T M)(hde:nV T hd v u)(hv:br v t1 p1)(hu:br u t2 p2)(q:∀M',Pu M M'->Q (.list [.tup [v,u]]) M'):ag ak (n+3) 53 [sh t,hd,fi w h b 1,.bool false] M Q X:=by
 rcases hde with⟨h,rfl,rfl⟩|⟨x,y,h,hx,hy⟩
 ·exact om hT h q
 ·exact pM hT h hx hy hv hu q
theorem fD.bits(f:fD T hd w h b):1<=b/\b<=16:=by rcases f.dep with⟨v,a1,a2,a3,rfl⟩|⟨v,a1,a2,a3,a4⟩<;>(first|exact ae 0x707084186100 rfl|exact ae 0x91c1c11051848208203c110e84439110e244385101 rfl b a3)
noncomputable def uB(b pl:Nat)(t1 t2:Int)(p1 p2:Nat)(s:Nat):V:=ej (b8 (dA s b t1 t2 p1 p2) (dB b p1 p2) pl) pl
theorem Aa(hT:aY t T M)(f:fD T hd w h b)(hde:nV T hd v u)(hv:br v t1 p1)(hu:br u t2 p2)(b1:t1.natAbs<2^40)(b2:t2.natAbs<2^40)(q1:p1<=4)(q2:p2<=4)(hp:pl<=9)(dm:ca px w h b 1)(hw:w<=8)(hh:h<=8)
  (q:∀M',Pu M M'->Q (aK h w λ i j=>uB b pl t1 t2 p1 p2 (bS px i j)) M'):ag ak (n+7) 59 [sh t,EG hd px b,.fn 67,.int pl] M Q X:=by
 have hb:=f.bits
 refine Ev cI rfl rfl rfl ?_
 refine fI hT f λ M1 k1=> ?_
 refine kg (hT.pu k1) hde hv hu λ M2 k2=> ?_
 refine iZ (hd:=hd) (px:=px) ?_
 refine fH (c:=1) dm f.w1 hw hb.1 hb.2 (ae 0x186100 rfl) (ae 0x192100 rfl) hh λ M3 k3=> ?_
 refine aa (fX dm) ?_
 unfold aK
 refine cb (g':=λ i=>.list ((PQ w).map λ j=>uB b pl t1 t2 p1 p2 (bS px i j))) (by unfold aq;exact ae 0x48386a0533f441a1101 rfl h hh) (λ i hi M4 k4 K hK=> ?_) λ M4 k4=>q _ (((k1.trans k2).trans k3).trans k4)
 repeat infer_instance
 refine cb (g':=λ j=>uB b pl t1 t2 p1 p2 (bS px i j)) (by unfold aq;exact ae 0x48386a0533f441a1101 rfl w hw) (λ j hj M5 k5 K2 E7=> ?_) λ M5 k5=>hK _ (k4.trans k5)
 obtain⟨e1,e2⟩:=dm.at_ hi hj
 and_intros
 show ag ak (n+6) 45 [cH (bN px i j),_,_,_] _ _ _
 refine aa (lc e1) ?_
 have hs:bS px i j<=2^b-1:=by
  have:bS px i j<2^b:=e2 _ (by
   unfold bS
   refine aa P7 ?_;refine aa (PG (ae 0x909180385101 rfl ((bN px i j).length) e1)) ?_;exact QI _)
  exact ae 0x904285244249102 rfl (bS px i j) (2^b) this
 refine lU hb.1 hb.2 hs hv hu b1 b2 q1 q2 hp λ M6 k6=> ?_
 exact E7 _ (k5.trans k6)
theorem jO(hT:aY t T M)(hw:At T hd "Width" v)(hv:CD v)(q:X M):ag ak (n+7) 59 [sh t,EG hd px b,.fn 67,.int pl] M Q X:=by
 refine Ev cI rfl rfl rfl ?_
 exact oi hT hw hv q
theorem pI{b':Nat}(hT:aY t T M)(hw:At T hd "Width" (.int w))(w1:1<=w)(hh:At T hd "Height" (.int h))(h1:1<=h)(hi:At T hd "ImageMask" v)(hb:At T hd "BitsPerComponent" (.int b'))(EX:1<=b')
  (h5:¬(b'=1∨b'=2∨b'=4∨b'=8∨b'=16))(q:X M):ag ak (n+7) 59 [sh t,EG hd px b,.fn 67,.int pl] M Q X:=by
 refine Ev cI rfl rfl rfl ?_
 exact i0 hT hw w1 hh h1 hi hb EX (.inl h5) q
theorem sz(hT:aY t T M)(f:fD T hd w h b)(hb:At T hd "Decode" (.list ps))(hl:ps.length≠2)(q:∀M',Pu M M'->X M'):ag ak (n+7) 59 [sh t,EG hd px b,.fn 67,.int pl] M Q X:=by
 refine Ev cI rfl rfl rfl ?_
 refine fI hT f λ M1 k1=> ?_
 exact pN (hT.pu k1) hb hl (q _ k1)
theorem qs(hT:aY t T M)(f:fD T hd w h b)(hb:At T hd "Decode" (.list [x,y]))(hx:Bh T x v)(hy:Bh T y (.bool bo))(hv:br v t1 p1)(q:∀M',Pu M M'->X M'):ag ak (n+7) 59 [sh t,EG hd px b,.fn 67,.int pl] M Q X:=by
 refine Ev cI rfl rfl rfl ?_
 refine fI hT f λ M1 k1=> ?_
 exact on (hT.pu k1) hb hx hy hv λ M2 k2=>q _ (k1.trans k2)
theorem n8(hT:aY t T M)(f:fD T hd w h' b)(hde:nV T hd v u)(hv:br v t1 p1)(hu:br u t2 p2)(dm:ca px w h b 1)(hw:w<=8)(hh:h<h')(IZ:h'<=8)(q:∀M',Pu M M'->X M'):ag ak (n+7) 59 [sh t,EG hd px b,.fn 67,.int pl] M Q X:=by
 have hb:=f.bits
 have HI:=f.w1
 refine Ev cI rfl rfl rfl ?_
 refine fI hT f λ M1 k1=> ?_
 refine kg (hT.pu k1) hde hv hu λ M2 k2=> ?_
 refine iZ (hd:=hd) (px:=px) ?_
 refine jP (c:=1) (ae 0x241fa031ff441a1101 rfl w hw) hb.2 (ae 0x1aa100 rfl) (ae 0x241fa031ff441a1101 rfl h' IZ) ?_ (q _ (k1.trans k2))
 refine aa (jD dm) ?_
 have:1<=(w*1*b+7)/8:=by
  have:1<=w*1*b:=Vu (ae 0x909085180146101 rfl w HI) hb.1
  exact ae 0x92414a11c10673e84819d10419d13e848146102 rfl (w*1*b) ((w*1*b+7)/8) this (lO _ 7)
 exact VP hh this
end
section
variable{n:Nat}{t:Nat}{T:List V}{hd:V}{nm:String}{w h b c pl:Nat}{px:List (List (List Nat))}{v u:V}{t1 t2:Int}{p1 p2:Nat}{M:AH}{Q:V->AH->Prop}{X:AH->Prop}
theorem dQ{T:V->AH->(List V->AH->Prop)->Prop}{Q:List V->AH->Prop}{g:Nat->V}{g':Nat->Nat->V}(hh:h<=8)(hw:w<=8)
  (ht:∀i,i<h->∀M',Pu M M'->∀K:List V->AH->Prop,(∀M2,Pu M M2->K [.list ((PQ w).map (g' i))] M2)->T (g i) M' K)(hQ:∀M',Pu M M'->Q ((PQ h).map λ i=>.list ((PQ w).map λ j=>g' i j)) M'):bP T ((PQ h).map g) [] M Q:=
 cb (g':=λ i=>.list ((PQ w).map λ j=>g' i j)) (by unfold aq;exact ae 0x48386a0533f441a1101 rfl h hh) ht hQ
theorem xm(s p:Nat):((s:Int)==(p:Int))=(s==p):=by
 rewrite[SK];simp;exact ae 0xa0d244639239102 rfl s p
theorem mJ{low p:Nat}(hp:p=if low=0 then 0 else 1)(dm:ca px w h b 1)(hw:w<=8)(hh:h<=8)(q:∀M',Pu M M'->Q (aK h w λ i j=>.bool (bS px i j==p)) M'):ag ak (n+1) 47 [bk px,.int low] M Q X:=by
 refine aa (fX dm) ?_
 refine Ev fK rfl rfl rfl ?_
 have main:bq ak (ag ak n) (bC 1 fK.body) [some (aK h w λ i j=>cH (bN px i j)),some (.int low),some (.int p),none,none] M (λ zz M'=>Q .none M') Q X:=by
  refine dQ (h:=h) (w:=w) (g':=λ i j=>.bool (bS px i j==p)) hh hw (λ i hi M1 k1 K hK=> ?_) λ M1 k1=>q _ k1
  repeat infer_instance
  refine cb (n:=w) (g':=λ j=>.bool (bS px i j==p)) (by unfold aq;exact ae 0x48386a0533f441a1101 rfl w hw) (λ j hj M2 k2 K2 E7=> ?_) λ M2 k2=>hK _ (k1.trans k2)
  repeat infer_instance
  refine ah (show eh M2 (cH (bN px i j)) (.int 0)=some (.int (bS px i j:Nat)) from by refine aa (lc (dm.at_ hi hj).1) ?_;rfl) ?_
  and_intros
  refine aa (xm _ _) ?_
  exact E7 _ k2
 refine⟨λ h=> ?_,λ h=> ?_⟩
 ·have:low=0:=by simpa using h
  subst this
  rw[if_pos rfl] at hp
  subst hp
  exact main
 ·have:low≠0:=by simpa using h
  rw[if_neg this] at hp
  subst hp
  exact main
theorem qp{g:Nat->Nat->Bool}(hw:w<=8)(hh:h<=8)(q:∀M',Pu M M'->Q (aK h w λ i j=>.inst 0 [.int (if g i j then 1 else 0),.int 0]) M'):ag ak (n+2) 48 [aK h w λ i j=>.bool (g i j)] M Q X:=by
 unfold aK
 refine Ev ij rfl rfl rfl ?_
 refine dQ (g':=λ i j=>.inst 0 [.int (if g i j then 1 else 0),.int 0]) hh hw (λ i hi M1 k1 K hK=> ?_) q
 repeat infer_instance
 refine cb (g':=λ j=>.inst 0 [.int (if g i j then 1 else 0),.int 0]) (by unfold aq;exact ae 0x48386a0533f441a1101 rfl w hw) (λ j hj M2 k2 K2 E7=> ?_) λ M2 k2=>hK _ (k1.trans k2)
 repeat infer_instance
 exact aR (p:=0) λ M3 k3=>E7 _ (k2.trans k3)
noncomputable def ls:List V:=[.tup [.tup [.int 0,.int 0],.tup [.int 1,.int 0]],.tup [.tup [.int 1,.int 0],.tup [.int 0,.int 0]]]
noncomputable def lr(t1 t2:Int)(p1 p2:Nat):V:=.tup [.tup [.int t1,.int p1],.tup [.int t2,.int p2]]
theorem gP(hT:aY t T M)(hi:At T hd "ImageMask" vi)(hvi:eu vi=true)(f:fD T hd w h' b)(hde:nV T hd v u)(hv:br v t1 p1)(hu:br u t2 p2)
  (hm:eJ (lr t1 t2 p1 p2) ls=some bo)
  (q:bo=true->∀M',Pu M M'->ag ak (n+5) 67 [sh t,EG hd px b] M' (λ NK M1=>ag ak (n+5) 40 [NK,fi w h' b 1] M1 (λ NL M1=>ag ak (n+5) 47 [NL,.int t1] M1 Q X) X) X)(q2:bo=false->∀M',Pu M M'->X M'):
  ag ak (n+6) 58 [sh t,EG hd px b,.fn 67] M Q X:=by
 refine Ev d7 rfl rfl rfl ?_
 refine cu hT hi ?_
 refine aa hvi ?_
 repeat infer_instance
 refine fI hT f λ M1 k1=> ?_
 refine kg (hT.pu k1) hde hv hu λ M2 k2=> ?_
 repeat infer_instance
 refine eG hv λ M3 k3=> ?_
 refine fR ?_
 refine⟨show 1<=aq by decide,?_⟩
 repeat infer_instance
 refine eG hu λ M4 k4=> ?_
 refine fR ?_
 refine⟨show 2<=aq by decide,?_⟩
 have kk:=((k1.trans k2).trans k3).trans k4
 cases bo with
 |true=>
  refine ite_f (congrArg (!·) (PX hm)) ?_
  exact q rfl _ kk
 |false=>
  refine ite_t (congrArg (!·) (PX hm)) ?_
  exact q2 rfl _ kk
theorem ut{low p:Nat}(hT:aY t T M)(hi:At T hd "ImageMask" vi)(hvi:eu vi=true)(f:fD T hd w h b)(hde:nV T hd v u)(hv:br v low 0)(hu:br u t2 p2)(hm:eJ (lr low t2 0 p2) ls=some true)(hp:p=if low=0 then 0 else 1)
  (dm:ca px w h b 1)(hw:w<=8)(hh:h<=8)(q:∀M',Pu M M'->Q (aK h w λ i j=>.bool (bS px i j==p)) M'):ag ak (n+6) 58 [sh t,EG hd px b,.fn 67] M Q X:=by
 have hb:=f.bits
 refine gP hT hi hvi f hde hv hu hm (λ zz M1 k1=> ?_) λ h=>by cases h
 refine iZ ?_
 refine fH dm f.w1 hw hb.1 hb.2 (ae 0x186100 rfl) (ae 0x192100 rfl) hh λ M2 k2=> ?_
 exact mJ hp dm hw hh λ M3 k3=>q _ ((k1.trans k2).trans k3)
theorem mL(hT:aY t T M)(hi:At T hd "ImageMask" vi)(hvi:eu vi=true)(f:fD T hd w h b)(hde:nV T hd v u)(hv:br v t1 p1)(hu:br u t2 p2)(hm:eJ (lr t1 t2 p1 p2) ls=some false)
  (q:∀M',Pu M M'->X M'):ag ak (n+6) 58 [sh t,EG hd px b,.fn 67] M Q X:=
 gP hT hi hvi f hde hv hu hm (λ h=>by cases h) λ zz=>q
theorem lA(hT:aY t T M)(hi:At T hd "ImageMask" vi)(hvi:eu vi=true)(f:fD T hd w h' b)(hde:nV T hd v u)(hv:br v t1 p1)(hu:br u t2 p2)(hm:eJ (lr t1 t2 p1 p2) ls=some true)
  (dm:ca px w h b 1)(hw:w<=8)(hh:h<h')(IZ:h'<=8)(q:∀M',Pu M M'->X M'):ag ak (n+6) 58 [sh t,EG hd px b,.fn 67] M Q X:=by
 have hb:=f.bits
 have HI:=f.w1
 refine gP hT hi hvi f hde hv hu hm (λ zz M1 k1=> ?_) λ h=>by cases h
 refine iZ ?_
 refine jP (ae 0x241fa031ff441a1101 rfl w hw) hb.2 (ae 0x1aa100 rfl) (ae 0x241fa031ff441a1101 rfl h' IZ) ?_ (q _ k1)
 refine aa (jD dm) ?_
 have:1<=(w*1*b+7)/8:=by
  have:1<=w*1*b:=Vu (ae 0x909085180146101 rfl w HI) hb.1
  exact ae 0x92414a11c10673e84819d10419d13e848146102 rfl (w*1*b) ((w*1*b+7)/8) this (lO _ 7)
 exact VP hh this
theorem jR(hT:aY t T M)(hi:At T hd "ImageMask" vi)(hvi:eu vi=false)(q:X M):ag ak (n+6) 58 [sh t,EG hd px b,.fn 67] M Q X:=by
 refine Ev d7 rfl rfl rfl ?_
 refine cu hT hi ?_
 refine aa hvi ?_
 repeat infer_instance
 exact q
theorem lV{b':Nat}(hT:aY t T M)(hi:At T hd "ImageMask" vi)(hvi:eu vi=true)(hw:At T hd "Width" (.int w))(w1:1<=w)(hh:At T hd "Height" (.int h))(h1:1<=h)(hb:At T hd "BitsPerComponent" (.int b'))(EX:1<=b')(Gr:b'≠1)
  (q:X M):ag ak (n+6) 58 [sh t,EG hd px b,.fn 67] M Q X:=by
 refine Ev d7 rfl rfl rfl ?_
 refine cu hT hi ?_
 refine aa hvi ?_
 repeat infer_instance
 exact i0 hT hw w1 hh h1 hi hb EX (.inr ⟨hvi,Gr⟩) q
end
noncomputable def cp(k:Nat):V:=.int k
section
variable{n:Nat}{t:Nat}{T:List V}{hd:V}{nm:String}{w h b c pl:Nat}{px:List (List (List Nat))}{v u:V}{t1 t2:Int}{p1 p2:Nat}{M:AH}{Q:V->AH->Prop}{X:AH->Prop}
def dJ(b:Nat)(v:V):Prop:=∃k:Nat,v=.int k/\k<=2^b-1
def gu(v:V):Prop:=(∃k:Int,v=.int k)∨∃b,v=.bool b
theorem rf(hT:aY t T M)(h2:aW (λ x y=>Bh T x y/\NR y) ps vs)(hb:b<=16)(hc:c<=4)(hl:ps.length<=1000)(hv:vs.length=2*c->∀v∈vs,gu v)
  (q:vs.length=2*c->(∀v∈vs,dJ b v)->∀M',Pu M M'->Q (.list (cv vs)) M')(q2:vs.length≠2*c∨(∃v∈vs,¬dJ b v)->∀M',Pu M M'->X M'):
  ag ak (n+3) 57 [sh t,.list ps,fi w h b c] M Q X:=by
 have hlen:=h2.len
 refine Ev km rfl rfl rfl ?_
 refine mf h2 (by unfold aq;exact ae 0x120e1a814cfd107e80c7fd101 rfl ps.length hl) (λ x y h M' p K hK=> ?_) λ M1 k1=> ?_
 ·repeat infer_instance
  exact eM (hT.pu p) h.1 h.2 (hK _ p)
 have hL:cU=2^256:=rfl
 refine ao (ae 0x91c2c001fce3910b0007f88191101 rfl c hc) ?_
 refine⟨λ hz=> ?_,λ hz=> ?_⟩
 ·refine q2 (.inl ?_) _ k1
  intro e;rw[e] at hz;simp at hz
 ·have Gk:vs.length=2*c:=by
   simp at hz;exact ae 0x90cf8924463e239239102 rfl vs.length c hz
  replace hv:=hv Gk
  by_cases hok:∀v∈vs,dJ b v
  ·refine cD (λ rest ρ M'=>Pu M M'/\(∀v∈rest,dJ b v)/\∃o4 o5 o6,ρ=[some (sh t),some (.list ps),some (fi w h b c),some (.list vs),o4,o5,o6]) _ ⟨k1,hok,_,_,_,rfl⟩ (λ ρ M' j=> ?_) λ x xs ρ M' j K hK=> ?_
   ·obtain⟨k2,_,o4,o5,o6,rfl⟩:=j
    have hd:(decide ((0:Int)<2)&&cm 0&&cm ((vs.length:Nat):Int)&&cm 2)=true:=by
     simp only [PY]
     exact⟨⟨⟨by decide,rfl⟩,bU (ae 0x2490a1d07f38e48349107e80c7fd102 rfl ps.length vs.length hl hlen)⟩,rfl⟩
    refine ao hd ?_
    and_intros
    refine aa Gk ?_
    refine aa (show(if(0:Int)<((2*c:Nat):Int) then((((2*c:Nat):Int)-0-1)/2+1).toNat else 0)=c from nH c) ?_
    refine⟨by refine aa (ba _ _ _) ?_;unfold aq;exact ae 0x48386a0533f44191101 rfl c hc,?_⟩
    refine uX Gk (ae 0x241fa031ff44191101 rfl c hc) (λ j x y hj h1 h2 K hK=> ?_) (q Gk hok _ k2)
    have sub:∀{i:Nat} {y:V},vs[i]? =some y->eh M' (.list vs) (.int (i:Int))=some y:=λ{i y} h=>by
     show(if 0<=(i:Int) then vs[(i:Int).toNat]? else none)=_
     refine aa (if_pos (ae 0x10e46001 rfl i)) ?_;refine aa (PF _) ?_;exact h
    repeat infer_instance
    refine ah (sub h1) ?_
    refine aa (show((2*j:Nat):Int)+1=((2*j+1:Nat):Int) by exact ae 0x638184f89106138f89101 rfl j) ?_
    refine ah (sub h2) ?_
    exact hK
   ·obtain⟨k2,hx,o4,o5,o6,rfl⟩:=j
    refine ai (hx x (by simp)) λ k HP hk=> ?_;subst HP
    repeat infer_instance
    have hle:((k:Int)<=((2^b-1:Nat):Int)):=ae 0x910e0a148e4410a149102 rfl k (2^b) hk
    refine vQ hb ?_
    refine ite_f (by refine aa (decide_eq_true hle) ?_;rfl) ?_
    exact hK _ _ ⟨k2,λ v hv=>hx v (by simp[hv]),_,_,_,rfl⟩
  ·have EQ:∃v∈vs,¬dJ b v:=by
    refine Q8 λ e=>hok λ v hv=> ?_
    exact Q8 λ e2=>e ⟨v,hv,e2⟩
   refine cD (λ rest ρ M'=>Pu M M'/\(∀v∈rest,gu v)/\(∃v∈rest,¬dJ b v)/\∃o4 o5 o6,ρ=[some (sh t),some (.list ps),some (fi w h b c),some (.list vs),o4,o5,o6]) _ ⟨k1,hv,EQ,_,_,_,rfl⟩ (λ ρ M' j=> ?_) λ x xs ρ M' j K hK=> ?_
   ·refine yK j λ zz zz EL zz=> ?_;clear j;rcases EL with⟨v,hv,_⟩
    cases hv
   ·obtain⟨k2,hx,⟨v0,Ln,hn⟩,o4,o5,o6,rfl⟩:=j
    have next:dJ b x->∀o4,K [some (sh t),some (.list ps),some (fi w h b c),some (.list vs),o4,o5,o6] M':=λ hk o4=>hK _ _ ⟨k2,λ v hv=>hx v (by simp[hv]),⟨v0,by
     rcases PS.mp Ln with e|e
     ·subst e;exact absurd hk hn
     ·exact e,hn⟩,_,_,_,rfl⟩
    rcases hx x (by simp) with⟨k,rfl⟩|⟨bo,rfl⟩
    ·repeat infer_instance
     refine⟨λ h0=> ?_,λ h0=> ?_⟩
     ·refine vQ hb ?_
      have h0:0<=k:=of_decide_eq_true h0
      refine⟨λ h=> ?_,λ h=> ?_⟩
      ·exact q2 (.inr EQ) _ k2
      ·refine next ⟨k.toNat,by refine aa (Uo h0) ?_;rfl,?_⟩ _
       have:k<=((2^b-1:Nat):Int):=by simpa using h
       exact ae 0x904285135110e0a145111 rfl (2^b) k this
     ·repeat infer_instance
      exact q2 (.inr EQ) _ k2
    ·repeat infer_instance
     exact q2 (.inr EQ) _ k2
noncomputable def fC:List Nat->List Nat->Bool
 |s::p,lo::hi::r=>(decide (lo<=s)&&decide (s<=hi))&&fC p r
 |_,_=>true
theorem xG(hl:ns.length=2*p.length)(q:Q (.bool (fC p ns)) M):ag ak (n+1) 46 [cH p,.list (cv (ns.map cp))] M Q X:=by
 unfold cH
 refine Ev m6 rfl rfl rfl ?_
 refine cD (λ rest ρ M'=>M'=M/\∃(p' r':List Nat) (o2 o3:Option V),rest=nY (p'.map λ s:Nat=>V.int s) (cv (r'.map cp))/\r'.length=2*p'.length/\ρ=[some (.tup (p.map λ s:Nat=>V.int s)),some (.list (cv (ns.map cp))),o2,o3]/\fC p ns=fC p' r') _
  ⟨rfl,p,ns,_,_,rfl,hl,rfl,rfl⟩ (λ ρ M' j=> ?_) λ x xs ρ M' j K hK=> ?_
 ·obtain⟨rfl,p',r',o2,o3,e1,e2,rfl,e3⟩:=j
  have:fC p' r'=true:=by
   cases p' with
   |nil=>cases r'<;>rfl
   |cons s p'=>
    match r',e2 with
    |lo::hi::r,_=>cases e1
  rw[e3,this] at q
  exact q
 ·obtain⟨rfl,p',r',o2,o3,e1,e2,rfl,e3⟩:=j
  match p',r',e2 with
  |[],[],_=>cases e1
  |s::p',lo::hi::r,e2=>
   have e1:x::xs=.tup [.int s,.tup [.int lo,.int hi]]::nY (p'.map λ s:Nat=>V.int s) (cv (r.map cp)):=e1
   cases e1
   have e3:fC p ns=((decide (lo<=s)&&decide (s<=hi))&&fC p' r):=e3
   have next:(decide (lo<=s)&&decide (s<=hi))=true->∀o2 o3,K [some (.tup (p.map λ s:Nat=>V.int s)),some (.list (cv (ns.map cp))),o2,o3] M':=λ hk o2 o3=>hK _ _ ⟨rfl,p',r,_,_,rfl,by simp at e2;exact ae 0x90cf8924433e206148184185102 rfl r.length p'.length e2,rfl,by refine aa e3 ?_;refine aa hk ?_;refine aa (Bool.true_and _) ?_;rfl⟩
   refine⟨λ h1=> ?_,λ h1=> ?_⟩
   ·have h1:=of_decide_eq_true h1
    refine⟨λ h2=> ?_,λ h2=> ?_⟩
    ·have:¬s<=hi:=by simp at h2;exact ae 0x926005148249102 rfl hi s h2
     rw[e3,decide_eq_false this,S7,VL] at q
     exact q
    ·refine next ?_ _ _
     refine aa (PY _ _) ?_
     simp at h2
     exact⟨decide_eq_true (by(rename_i z0;exact ae 0x905244439239102 rfl lo s (of_decide_eq_true z0:))),decide_eq_true (ae 0x905244149102 rfl s hi h2)⟩
   ·repeat infer_instance
    have h1:=of_decide_eq_false h1
    have:¬lo<=s:=by(rename_i z0;exact ae 0x926005244980439239102 rfl lo s (of_decide_eq_false z0:))
    rw[e3,decide_eq_false this,VL,VL] at q
    exact q
end
structure nU(T:List V)(hd:V)(px:List (List (List Nat)))(nm:String)(w h b c:Nat):Prop where
 FH:fE nm c
 IK:∃v,At T hd "ImageMask" v/\eu v=false
 col:At T hd "ColorSpace" (.inst 1 [.str nm])
 GY:fD T hd w h b
 Mq:ca px w h b c
 w8:w<=8
 h8:h<=8
def iH(t:Nat)(T:List V)(f:Nat)(args:List V)(out:V):Prop:=∀n M Q X,aY t T M->(∀M',Pu M M'->Q out M')->ag ak (n+7) f args M Q X
def kU(t:Nat)(T:List V)(f:Nat)(args:List V):Prop:=∀n M Q X,aY t T M->(∀M',Pu M M'->X M')->ag ak (n+7) f args M Q X
def kT(v:V):Prop:=∀M,fO M v (.cls 3)=some false
section
variable{n:Nat}{t:Nat}{T:List V}{hd hs:V}{nm:String}{w h b c pl H W B:Nat}{px ps:List (List (List Nat))}{v u:V}{t1 t2:Int}{p1 p2:Nat}{M:AH}{Q:V->AH->Prop}{X:AH->Prop}
theorem Av(hT:aY t T M)(I:nU T hd px nm w h b c)(hs:At T hd "SMask" (.inst 3 fs))(hm:At T hd "Mask" u)(hg:iH t T 59 [sh t,.inst 3 fs,.fn 67,.int pl] (aK H W g))(Fk:1<=W)(hW:W<=8)(hH1:1<=H)(hH:H<=8)
  (q:∀M',Pu M M'->Q (aK h w λ i j=>g (bm i h H) (bm j w W)) M'):ag ak (n+11) 60 [sh t,.dict [] [],EG hd px b,.fn 67,.int pl] M Q X:=by
 refine ai I.IK λ v0 hi hv=> ?_
 refine Ev bI rfl rfl rfl ?_
 refine bH I.FH hT hi hv I.col I.GY λ M1 k1=> ?_
 refine bn (hT.pu k1) hs ?_
 refine bn (hT.pu k1) hm ?_
 repeat infer_instance
 refine hg _ _ _ _ (hT.pu k1) λ M2 k2=> ?_
 exact oZ I.GY.w1 I.w8 I.GY.h1 I.h8 Fk hW hH1 hH λ M3 k3=>q _ ((k1.trans k2).trans k3)
theorem sJ(hT:aY t T M)(I:nU T hd px nm w h b c)(hs:At T hd "SMask" (.inst 3 fs))(hm:At T hd "Mask" u)(hg:kU t T 59 [sh t,.inst 3 fs,.fn 67,.int pl])
  (q:∀M',Pu M M'->X M'):ag ak (n+11) 60 [sh t,.dict [] [],EG hd px b,.fn 67,.int pl] M Q X:=by
 refine ai I.IK λ v0 hi hv=> ?_
 refine Ev bI rfl rfl rfl ?_
 refine bH I.FH hT hi hv I.col I.GY λ M1 k1=> ?_
 refine bn (hT.pu k1) hs ?_
 refine bn (hT.pu k1) hm ?_
 repeat infer_instance
 exact hg _ _ _ _ (hT.pu k1) λ M2 k2=>q _ (k1.trans k2)
theorem Ax{g:Nat->Nat->Bool}{fs:List V}(hT:aY t T M)(I:nU T hd px nm w h b c)(hs:At T hd "SMask" v)(hn:kT v)(hm:At T hd "Mask" (.inst 3 fs))(hg:iH t T 58 [sh t,.inst 3 fs,.fn 67] (aK H W λ i j=>.bool (g i j)))(Fk:1<=W)(hW:W<=8)(hH1:1<=H)(hH:H<=8)
  (q:∀M',Pu M M'->Q (aK h w λ i j=>.inst 0 [.int (if g (bm i h H) (bm j w W) then 1 else 0),.int 0]) M'):ag ak (n+11) 60 [sh t,.dict [] [],EG hd px b,.fn 67,.int pl] M Q X:=by
 refine ai I.IK λ v0 hi hv=> ?_
 refine Ev bI rfl rfl rfl ?_
 refine bH I.FH hT hi hv I.col I.GY λ M1 k1=> ?_
 refine bn (hT.pu k1) hs ?_
 refine bn (hT.pu k1) hm ?_
 and_intros
 refine ah (hn _) ?_
 repeat infer_instance
 refine hg _ _ _ _ (hT.pu k1) λ M2 k2=> ?_
 refine oZ I.GY.w1 I.w8 I.GY.h1 I.h8 Fk hW hH1 hH λ M3 k3=> ?_
 exact qp I.w8 I.h8 λ M4 k4=>q _ (((k1.trans k2).trans k3).trans k4)
theorem sK(hT:aY t T M)(I:nU T hd px nm w h b c)(hs:At T hd "SMask" v)(hn:kT v)(hm:At T hd "Mask" (.inst 3 fs))(hg:kU t T 58 [sh t,.inst 3 fs,.fn 67])
  (q:∀M',Pu M M'->X M'):ag ak (n+11) 60 [sh t,.dict [] [],EG hd px b,.fn 67,.int pl] M Q X:=by
 refine ai I.IK λ v0 hi hv=> ?_
 refine Ev bI rfl rfl rfl ?_
 refine bH I.FH hT hi hv I.col I.GY λ M1 k1=> ?_
 refine bn (hT.pu k1) hs ?_
 refine bn (hT.pu k1) hm ?_
 and_intros
 refine ah (hn _) ?_
 repeat infer_instance
 exact hg _ _ _ _ (hT.pu k1) λ M2 k2=>q _ (k1.trans k2)
theorem Aw(hT:aY t T M)(I:nU T hd px nm w h b c)(hs:At T hd "SMask" v)(hn:kT v)(hm:At T hd "Mask" .none)
  (q:∀M',Pu M M'->Q (aK h w λ i j=>.inst 0 [.int 1,.int 0]) M'):ag ak (n+11) 60 [sh t,.dict [] [],EG hd px b,.fn 67,.int pl] M Q X:=by
 refine ai I.IK λ v0 hi hv=> ?_
 refine Ev bI rfl rfl rfl ?_
 refine bH I.FH hT hi hv I.col I.GY λ M1 k1=> ?_
 refine bn (hT.pu k1) hs ?_
 refine bn (hT.pu k1) hm ?_
 and_intros
 refine ah (hn _) ?_
 repeat infer_instance
 have hw:=I.w8
 have hh:=I.h8
 refine ao (bU (ae 0x90a1d07f38e441a1101 rfl h hh)) ?_
 and_intros
 refine aa (PF _) ?_
 refine⟨by refine aa (ba _ _ _) ?_;unfold aq;exact ae 0x48386a0533f441a1101 rfl h hh,?_⟩
 refine fh (f:=λ i=>.list ((PQ w).map λ zz=>.inst 0 [.int 1,.int 0])) (by unfold aq;exact ae 0x48386a0533f441a1101 rfl h hh) (λ i hi M2 k2 K hK=> ?_) λ M2 k2=>q _ (k1.trans k2)
 repeat infer_instance
 refine ao (bU (ae 0x90a1d07f38e441a1101 rfl w hw)) ?_
 and_intros
 refine aa (PF _) ?_
 refine⟨by refine aa (ba _ _ _) ?_;unfold aq;exact ae 0x48386a0533f441a1101 rfl w hw,?_⟩
 refine fh (f:=λ i=>.inst 0 [.int 1,.int 0]) (by unfold aq;exact ae 0x48386a0533f441a1101 rfl w hw) (λ j hj M3 k3 K2 E7=> ?_) λ M3 k3=>hK _ (k2.trans k3)
 repeat infer_instance
 exact aR (p:=0) λ M4 k4=>E7 _ (k3.trans k4)
theorem Ay{ps:List V}(hT:aY t T M)(I:nU T hd px nm w h b c)(hs:At T hd "SMask" v)(hn:kT v)(hm:At T hd "Mask" (.list ps))(h2:aW (λ x y=>Bh T x y/\NR y) ps (ns.map cp))(hl:ns.length=2*c)(hk:∀k∈ns,k<=2^b-1)
  (q:∀M',Pu M M'->Q (aK h w λ i j=>.inst 0 [.int (if !fC (bN px i j) ns then 1 else 0),.int 0]) M'):ag ak (n+11) 60 [sh t,.dict [] [],EG hd px b,.fn 67,.int pl] M Q X:=by
 refine ai I.IK λ v0 hi hv=> ?_
 refine Ev bI rfl rfl rfl ?_
 refine bH I.FH hT hi hv I.col I.GY λ M1 k1=> ?_
 refine bn (hT.pu k1) hs ?_
 refine bn (hT.pu k1) hm ?_
 and_intros
 refine ah (hn _) ?_
 repeat infer_instance
 have hb:=I.GY.bits
 have hc:c<=4:=by rcases I.FH with⟨_,rfl⟩|⟨_,rfl⟩|⟨_,rfl⟩<;>(first|exact ae 0x192100 rfl|exact ae 0x192300 rfl|exact ae 0x192400 rfl)
 have hlen:=h2.len
 rw[PE] at hlen
 have N7:∀v∈ns.map cp,dJ b v:=λ v hv=>by
  refine ai (QE.mp hv) λ k FR EL=> ?_;subst EL
  exact aA k rfl (hk k FR)
 refine rf (hT.pu k1) h2 hb.2 hc (ae 0x249241fa031ff4c34530644833e249103 rfl ns.length c ps.length hl hc hlen) (λ zz v hv=> ?_) (λ zz zz M2 k2=> ?_) λ h=> ?_
 ·refine ai (QE.mp hv) λ k FR EL=> ?_;subst EL
  exact .inl ⟨k,rfl⟩
 ·refine pK I.FH (hT.pu (k1.trans k2)) hi hv I.col I.GY I.Mq I.w8 I.h8 λ M3 k3=> ?_
  refine aa (fX I.Mq) ?_
  unfold aK
  refine dQ (g':=λ i j=>.bool (!fC (bN px i j) ns)) I.h8 I.w8 (λ i hi M4 k4 K hK=> ?_) λ M4 k4=> ?_
  ·and_intros
   refine cb (g':=λ j=>.bool (!fC (bN px i j) ns)) (by have:=I.w8;unfold aq;exact ae 0x48386a0533f441a1101 rfl w this) (λ j hj M5 k5 K2 E7=> ?_) λ M5 k5=>hK _ (k4.trans k5)
   and_intros
   refine xG (ns:=ns) (by refine aa ((I.Mq.at_ hi hj).1) ?_;refine aa hl ?_;rfl) ?_
   exact E7 _ k5
  ·refine qp (g:=λ i j=> !fC (bN px i j) ns) I.w8 I.h8 λ M5 k5=>q _ ((((k1.trans k2).trans k3).trans k4).trans k5)
 ·rw[PE] at h
  exact(h.elim (λ e=>e hl) λ⟨v,hv,e⟩=>e (N7 v hv)).elim
theorem sL{ps vs:List V}(hT:aY t T M)(I:nU T hd px nm w h b c)(hs:At T hd "SMask" v)(hn:kT v)(hm:At T hd "Mask" (.list ps))(h2:aW (λ x y=>Bh T x y/\NR y) ps vs)(hl:ps.length<=1000)(IR:∀v∈vs,gu v)(hk:vs.length≠2*c∨∃v∈vs,¬dJ b v)
  (q:∀M',Pu M M'->X M'):ag ak (n+11) 60 [sh t,.dict [] [],EG hd px b,.fn 67,.int pl] M Q X:=by
 refine ai I.IK λ v0 hi hv=> ?_
 refine Ev bI rfl rfl rfl ?_
 refine bH I.FH hT hi hv I.col I.GY λ M1 k1=> ?_
 refine bn (hT.pu k1) hs ?_
 refine bn (hT.pu k1) hm ?_
 and_intros
 refine ah (hn _) ?_
 repeat infer_instance
 have hb:=I.GY.bits
 have hc:c<=4:=by rcases I.FH with⟨_,rfl⟩|⟨_,rfl⟩|⟨_,rfl⟩<;>(first|exact ae 0x192100 rfl|exact ae 0x192300 rfl|exact ae 0x192400 rfl)
 refine rf (hT.pu k1) h2 hb.2 hc hl (λ zz=>IR) (λ h1 h2=> ?_) λ zz M2 k2=>q _ (k1.trans k2)
 exact(hk.elim (λ e=>e h1) λ⟨v,hv,e⟩=>e (h2 v hv)).elim
end
structure Wl(w c K:Nat)(M:AH):Prop where
 wc:c≠w
 HU:w<M.next
 HW:c<M.next
 at_:∃(cells:List Int) (a b k:Int),M.m w=some (.list [.ref c,.int a,.int b,.int k])/\M.m c=some (.list (cells.map .int))/\0<=b/\b<=K/\0<=k/\k<1009
theorem Wl.mono(h:Wl w c K M)(hk:K<=K'):Wl w c K' M:=⟨h.wc,h.HU,h.HW,let⟨x,a,b,k,h1,h2,h3,h4,h5⟩:=h.at_;⟨x,a,b,k,h1,h2,h3,ae 0x924439244439144149112 rfl K K' b hk h4,h5⟩⟩
structure Dv(w c:Nat)(M M':AH):Prop where
 next:M'.next=M.next
 same:∀i,i≠w->i≠c->M'.m i=M.m i
theorem pq(h:M.m i=some (.list vs)):kE M (.ref i)=.list vs:=by show(((M.m i).bind lstO?).map V.list).getD _=_;refine aa h ?_;rfl
theorem xD(h:M.m i=some (.list vs))(k:Int):eh M (.ref i) (.int k)=if 0<=k then vs[k.toNat]? else none:=by show(M.m i).bind _=_;refine aa h ?_;rfl
theorem tU(a:Int){m:Nat}(hm:0<m):∃r:Nat,QK a m=r/\r<m:=by
 have h1:=Int.fmod_nonneg_of_pos a (b:=(m:Int)) (ae 0x24539180246001 rfl m hm)
 have h2:=Int.fmod_lt_of_pos a (b:=(m:Int)) (ae 0x24539180246001 rfl m hm)
 exact aA ((QK a m).toNat) (ae 0x918e35144446010 rfl (a.fmod ↑m) h1) (ae 0x924244d44539144446011 rfl m (a.fmod ↑m) h1 h2)
theorem eA(h:M.m i=some (.list vs))(e:(if 0<=k then vs[k.toNat]? else none)=some x):eh M (.ref i) (.int k)=some x:=(xD h k).trans e
section
variable{n:Nat}{w c K m:Nat}{M:AH}{Q:V->AH->Prop}{X:AH->Prop}
theorem th(h:Wl w c K M)(hm:0<m)(Gc:m<=2^100)(hK:K<=2^100)(q:∀(r:Nat) M',r<m->Wl w c (K+1) M'->Dv w c M M'->Q (.int r) M'):ag ak (n+1) 62 [.ref w,.int m] M Q X:=by
 refine yI h.at_ λ cells a b k h1 h2 h3 h4 h5 h6=> ?_
 have hL:cU=2^256:=rfl
 have tail:∀(M1:AH) (cells:List Int) (a:Int),M1.m w=some (.list [.ref c,.int a,.int b,.int k])->M1.m c=some (.list (cells.map .int))->M1.next=M.next->(∀i,i≠w->i≠c->M1.m i=M.m i)->
   bq ak (ag ak n) (bC 1 ju.body) [some (.ref w),some (.int m),none] M1 (λ zz M'=>Q .none M') Q X:=by
  intro M1 cells a h1 h2 hn hs
  and_intros
  refine ah (eA h1 rfl) ?_
  refine ao (ae 0x24980680e44246001 rfl m hm) ?_
  and_intros
  refine ah (eA h1 rfl) ?_
  refine ao ⟨ae 0x24980680e44246001 rfl m hm,ae 0x90b0007f38e4419901fd101 rfl m Gc⟩ ?_
  and_intros
  refine ah h1 ?_
  and_intros
  refine ah (eA (aF _ _ _) rfl) ?_
  refine ah (aF _ _ _) ?_
  have z:((b+1)*(b+1+1)).natAbs<cU:=by
   have:=dp (a:=b+1) (b:=b+1+1) (x:=2^101) (y:=2^101) (ae 0x9249066507f38185110e4511118019901fd111 rfl K b hK h3 h4) (ae 0x9249066507f38184185110e4511118019901fd111 rfl K b hK h3 h4)
   exact ae 0x90b0007f39106ca07f39110 rfl ((b+1)*(b+1+1)) this
  and_intros
  refine ah (eA (aF _ _ _) rfl) ?_
  refine ah (eA (aF _ _ _) rfl) ?_
  refine ao (ae 0x49249248e16000fe72416000fe7030a22fe2002bf4844a010e4511118019901fd121 rfl K b k hK h3 h4 h5 h6) ?_
  and_intros
  refine ah (eA (aF _ _ _) rfl) ?_
  refine ah (eA (aF _ _ _) rfl) ?_
  refine ao (ae 0x2492470b0007f3818418510b0007f38185110e4511118019901fd111 rfl K b hK h3 h4) ?_
  refine ao (ae 0x24980680e44246001 rfl m hm) ?_
  refine ai (tU (a.fmod m+(b+1)*k+((b+1)*(b+1+1)).fdiv 2) hm) λ r e hr=> ?_
  refine aa e ?_
  refine q r _ hr ⟨h.wc,by show w<M1.next;refine aa hn ?_;exact h.HU,by show c<M1.next;refine aa hn ?_;exact h.HW,cells,a.fdiv m,b+1,k,aF _ _ _,?_,ae 0x910185180446010 rfl b h3,ae 0x910e06144185110e45111 rfl K b h4,h5,h6⟩ ⟨hn,λ i hi hj=> ?_⟩
  ·refine aa (be _ _ h.wc) ?_;refine aa (be _ _ h.wc) ?_;refine aa h2 ?_;rfl
  ·refine aa (be _ _ hi) ?_;refine aa (be _ _ hi) ?_;refine aa (hs i hi hj) ?_;rfl
 have t0:=tail M cells a h1 h2 rfl λ zz zz zz=>rfl
 refine Ev ju rfl rfl rfl ?_
 refine ah (eA h1 rfl) ?_
 refine⟨λ ha=> ?_,λ ha=> ?_⟩
 ·refine ah (eA h1 rfl) ?_
  cases cells with
  |nil=>
   refine ah (a:=false) (show(kM (kE M (.ref c)) (.list [])).map (!·)=_ by refine aa (pq h2) ?_;rfl) ?_
   repeat infer_instance
   exact t0
  |cons x cells=>
   refine ah (a:=true) (show(kM (kE M (.ref c)) (.list [])).map (!·)=_ by refine aa (pq h2) ?_;rfl) ?_
   repeat infer_instance
   refine ah (eA h1 rfl) ?_
   and_intros
   rw[PP] at h2
   simp only [h2]
   and_intros
   refine ah ((be _ _ h.wc.symm).trans h1) ?_
   and_intros
   refine tail _ cells x.natAbs (aF _ _ _) ?_ rfl λ i hi hj=> ?_
   ·refine aa (be _ _ h.wc) ?_;refine aa (aF _ _ _) ?_;rfl
   ·refine aa (be _ _ hi) ?_;refine aa (be _ _ hj) ?_;rfl
 ·refine ite_f ha ?_
  exact t0
end
def bj(d:Nat)(x:V):Prop:=∀j,d<=j->jj j x x=some true
theorem bj.mono(h:bj d x)(hd:d<=d'):bj d' x:=λ j hj=>h j (PO hd hj)
theorem bj.int(i:Int):bj 1 (.int i):=λ j hj=>by
 obtain⟨j,rfl⟩:∃m,j=m+1:=⟨j-1,ae 0x90c184285144146101 rfl j hj⟩
 show some (i==i)=_;simp
theorem bj.str(s:String):bj 1 (.str s):=λ j hj=>by
 obtain⟨j,rfl⟩:∃m,j=m+1:=⟨j-1,ae 0x90c184285144146101 rfl j hj⟩
 show some (s==s)=_;simp
theorem bj.bytes(s:List UInt8):bj 1 (.bytes s):=λ j hj=>by
 obtain⟨j,rfl⟩:∃m,j=m+1:=⟨j-1,ae 0x90c184285144146101 rfl j hj⟩
 show some (s==s)=_;simp
theorem pB:∀{xs:List V},(∀x∈xs,f x x=some true)->eO f xs xs=some true:=by
 intro xs
 induction xs with
 |nil=>
  intro y1
  exact rfl
 |cons x xs ih=>
  intro h
  rewrite[BZ];refine aa (h x (by simp)) ?_;refine aa (ih λ y hy=>h y (by simp[hy])) ?_;rfl
theorem bj.tup(h:∀x∈xs,bj d x):bj (d+1) (.tup xs):=λ j hj=>by
 obtain⟨j,rfl⟩:∃m,j=m+1:=⟨j-1,ae 0x90c184285248148185102 rfl d j hj⟩
 exact pB λ x hx=>h x hx j (ae 0x905244106148185102 rfl d j hj)
theorem bj.list(h:∀x∈xs,bj d x):bj (d+1) (.list xs):=λ j hj=>by
 obtain⟨j,rfl⟩:∃m,j=m+1:=⟨j-1,ae 0x90c184285248148185102 rfl d j hj⟩
 exact pB λ x hx=>h x hx j (ae 0x905244106148185102 rfl d j hj)
theorem bj.self(h:bj d x)(hd:d<=40):kM x x=some true:=h 40 hd
def si(k:Nat)(v x:V):Prop:=∀n M Q X,(∀M',Pu M M'->Q x M')->ag ak (n+k) 14 [v] M Q X
def Ob(k:Nat)(v:V):Prop:=∃x,bj (2*k) x/\si k v x
theorem si.mono(h:si k v x)(hk:k<=k'):si k' v x:=λ n M Q X q=>by
 refine aa (show n+k'=(n+(k'-k))+k by exact ae 0x90c14410914930524c149103 rfl k k' n hk) ?_;exact h _ M Q X q
theorem Ob.mono(h:Ob k v)(hk:k<=k'):Ob k' v:=let⟨x,e,t⟩:=h;⟨x,e.mono (ae 0x904f8923e244149102 rfl k k' hk),t.mono hk⟩
theorem uc(h:a.length+b.length<=aq):gr .add (.tup a) (.tup b)=some (.tup (a++b)):=by
 show(if a.length+b.length<=aq then some (V.tup (a++b)) else none)=_
 exact if_pos h
theorem bj.two(ha:bj d a)(hb:bj d b):bj (d+1) (.tup [a,b]):=.tup λ x hx=>by
 simp at hx
 rcases hx with rfl|rfl
 ·exact ha
 ·exact hb
theorem bj.three(ha:bj d a)(hb:bj d b)(hc:bj d c):bj (d+1) (.tup [a,b,c]):=.tup λ x hx=>by
 simp at hx
 rcases hx with rfl|rfl|rfl
 ·exact ha
 ·exact hb
 ·exact hc
theorem jf(i:Int):Ob 2 (.int i):=by
 refine aA (.tup [.str "int",.int i]) ((bj.two (.str _) (.int _)).mono (by decide)) λ n M Q X q=> ?_
 refine Ev eB rfl rfl rfl ?_
 refine Ev bJ rfl rfl rfl ?_
 repeat infer_instance
 refine Ev cO rfl rfl rfl ?_;repeat infer_instance
 exact q _ (.refl _)
theorem oJ(b:Bool):Ob 2 (.bool b):=by
 refine aA (.tup [.str "truth",.int (if b then 1 else 0)]) ((bj.two (.str _) (.int _)).mono (by decide)) λ n M Q X q=> ?_
 refine Ev eB rfl rfl rfl ?_
 refine Ev bJ rfl rfl rfl ?_
 repeat infer_instance
 refine Ev cO rfl rfl rfl ?_;repeat infer_instance
 cases b
 ·and_intros;exact q _ (.refl _)
 ·and_intros;exact q _ (.refl _)
theorem wx(a b:Int):Ob 2 (.inst 0 [.int a,.int b]):=by
 refine aA (.tup [.str "real",.int a,.int b]) ((bj.three (.str _) (.int _) (.int _)).mono (by decide)) λ n M Q X q=> ?_
 refine Ev eB rfl rfl rfl ?_
 refine Ev bJ rfl rfl rfl ?_
 repeat infer_instance
 refine Ev cO rfl rfl rfl ?_;repeat infer_instance
 exact q _ (.refl _)
theorem Az(a:String):Ob 2 (.inst 1 [.str a]):=by
 refine aA (.tup [.str "name",.str a]) ((bj.two (.str _) (.str _)).mono (by decide)) λ n M Q X q=> ?_
 refine Ev eB rfl rfl rfl ?_
 refine Ev bJ rfl rfl rfl ?_
 repeat infer_instance
 refine Ev cO rfl rfl rfl ?_;repeat infer_instance
 exact q _ (.refl _)
theorem Br(a:Nat):Ob 2 (uD a):=by
 refine aA (.tup [.str "ref",.int a,.int 0]) ((bj.three (.str _) (.int _) (.int _)).mono (by decide)) λ n M Q X q=> ?_
 unfold uD
 refine Ev eB rfl rfl rfl ?_
 refine Ev bJ rfl rfl rfl ?_
 repeat infer_instance
 refine Ev cO rfl rfl rfl ?_;repeat infer_instance
 exact q _ (.refl _)
theorem Bq:∀{vs:List V},(∀v∈vs,Ob k v)->∃xs,aW (λ v x=>bj (2*k) x/\si k v x) vs xs:=by
 intro vs
 induction vs with
 |nil=>
  intro y1
  exact⟨[],trivial⟩
 |cons v vs ih=>
  intro h
  obtain⟨x,hx⟩:=h v (by simp)
  obtain⟨xs,HZ⟩:=ih λ u hu=>h u (by simp[hu])
  exact⟨x::xs,hx,HZ⟩
theorem aW.out:∀{xs ys:List V},aW R xs ys->∀y∈ys,∃x∈xs,R x y:=by
 intro xs
 induction xs with
 |nil=>
  intro y1
  cases y1 with
  |nil=>
   intro y2 y hy
   cases hy
  |cons y3 y4=>
   intro h y5 y6
   exact h.elim
 |cons x xs ih=>
  intro y7
  cases y7 with
  |nil=>
   intro h y8 y9
   exact h.elim
  |cons z ys=>
   intro h y hy
   rcases PS.mp hy with e|e
   ·subst e;exact aA x (by simp) h.1
   ·refine ai (ih h.2 y e) λ x' Jd r=> ?_
    exact aA x' (by simp[Jd]) r
theorem AA(h:∀v∈vs,Ob k v)(hl:vs.length<=1000)(hk:1<=k):Ob (k+1) (.list vs):=by
 obtain⟨xs,HZ⟩:=Bq h
 have hlen:=HZ.len
 refine aA (.tup (.str "array" ::xs)) ((bj.tup (d:=2*k) λ x hx=> ?_).mono (ae 0x13e206144184f89101 rfl k)) λ n M Q X q=> ?_
 ·rcases PS.mp hx with e|e
  ·subst e;exact(bj.str _).mono (ae 0x904f89184146101 rfl k hk)
  ·refine ai (HZ.out x e) λ v zz hv=> ?_
   exact hv.1
 ·obtain⟨k,rfl⟩:∃m,k=m+1:=⟨k-1,by exact ae 0x90c184285144146101 rfl k hk⟩
  refine aa (show n+(k+1+1)=(n+k)+1+1 by exact ae 0x306106105244106106149102 rfl n k) ?_
  refine Ev eB rfl rfl rfl ?_
  refine Ev bJ rfl rfl rfl ?_
  repeat infer_instance
  refine mf HZ (by unfold aq;exact ae 0x120e1a814cfd107e80c7fd101 rfl vs.length hl) (λ x y h M' p K hK=> ?_) λ M1 k1=> ?_
  ·repeat infer_instance
   exact h.2 n M' _ _ λ M2 k2=>hK _ (p.trans k2)
  ·refine ah (uc (by show 0+1+_<=aq;unfold aq;exact ae 0x1248386a0533f05284349107e80c7fd102 rfl vs.length xs.length hl hlen)) ?_
   exact q _ k1
theorem xI:∀{ks:List String} {k:String},k∈eH ks->k∈ks:=by
 intro ks
 induction ks with
 |nil=>
  intro k h
  exact h
 |cons s r ihq=>
  intro k h
  have ins:∀{l:List String},k∈iO s l->k=s∨k∈l:=by
   intro l
   induction l with
   |nil=>intro h;exact .inl (PZ.mp h)
   |cons t l ih=>
    intro h
    rw[rm] at h
    split at h
    ·rcases PS.mp h with e|e
     ·exact .inl e
     ·exact .inr e
    ·rcases PS.mp h with e|e
     ·exact .inr (by simp[e])
     ·exact(ih e).imp id λ e=>by simp[e]
  rcases ins h with e|e
  ·simp[e]
  ·exact RF _ (ihq e)
theorem qA:∀ks:List String,(eH ks).length=ks.length:=by
 intro ks
 induction ks with
 |nil=>
  exact rfl
 |cons s r ihq=>
  have ins:∀l:List String,(iO s l).length=l.length+1:=by
   intro l
   induction l with
   |nil=>rfl
   |cons t l ih=>unfold iO;split<;>simp[ih]
  show(iO s (eH r)).length=_
  refine aa (ins _) ?_;refine aa ihq ?_;rfl
theorem yM:∀{ks:List String} {vs:List V} {k:String},ks.length=vs.length->k∈ks->∃v,ay ks vs k=some v/\v∈vs:=by
 intro ks
 induction ks with
 |nil=>
  intro y1 k y2 h
  cases h
 |cons s ks ih=>
  intro y3
  cases y3 with
  |nil=>
   intro k hl y4
   cases hl
  |cons v vs=>
   intro k hl h
   by_cases e:s=k
   ·subst e
    exact aA v (by show(if s==s then _ else _)=_;refine aa (if_pos (by simp)) ?_;rfl) (by simp)
   ·rcases PS.mp h with h|h
    ·exact absurd h.symm e
    ·refine ai (ih (vs:=vs) (by simpa using hl) h) λ u hu hm=> ?_
     exact aA u (by show(if s==k then _ else _)=_;refine aa (if_neg (by simpa using e)) ?_;exact hu) (by simp[hm])
noncomputable def Eh:V->Bool|.none=>true|_=>false
theorem lg(h:∀v∈vs,Ob k v)(hl:ks.length=vs.length)(h64:ks.length<64)(hk:1<=k):Ob (k+1) (.dict ks vs):=by
 have rows:∀l:List String,(∀s∈l,s∈ks)->∃xs:List V,xs.length<=l.length/\(∀x∈xs,bj (2*k+1) x)/\∀n M acc (Q:List V->AH->Prop),acc.length+l.length<=1000->(∀M',Pu M M'->Q (acc++xs) M')->
   ∀o1 o2 o3:Option V,bP (λ x M2 k'=>aB (dF (.one 3) x [some (.dict ks vs),o1,o2,o3]) λ ρ'=>iP ak (ag ak (n+k)) (.cons (.FK (.sub (.var 0) (.var 3))) .nil) ρ' M2 λ b M3=>(b=true->lQ ak (ag ak (n+k)) (.last (.tup (.cons (.var 3) (.cons (.call 14 (.cons (.sub (.var 0) (.var 3)) .nil)) .nil)))) ρ' M3 k')/\(b=false->k' [] M3)) (l.map .str) acc M Q:=by
  intro l
  induction l with
  |nil=>exact λ zz=>⟨[],by simp,by simp,λ n M acc Q zz q zz zz zz=>by refine aa UO ?_;rewrite[tK];simpa using q M (.refl _)⟩
  |cons s l ih=>
   intro hs
   refine bz (ih λ u hu=>hs u (by simp[hu])) λ xs e1 e2 e3=> ?_
   refine ai (yM hl (hs s (by simp))) λ v hv hm=> ?_
   refine ai (h v hm) λ x hx ht=> ?_
   cases hn:Eh v
   ·refine gq (.tup [.str s,x]::xs) (by simpa using e1) (λ y hy=> ?_) λ n M acc Q hl q o1 o2 o3=> ?_
    ·rcases PS.mp hy with e|e
     ·subst e;exact bj.two ((bj.str _).mono (ae 0x904f89184146101 rfl k hk)) hx
     ·exact e2 y e
    ·rw[PN] at hl
     refine aa PP ?_;rewrite[oM]
     refine ah (a:=v) hv ?_
     refine ite_t (by cases v<;>first|rfl|cases hn) ?_
     repeat infer_instance
     refine ah (a:=v) hv ?_
     refine ht n M _ _ λ M1 k1=>⟨by simp;unfold aq;exact ae 0x120e1a814cfc185107e80c7fc106149102 rfl acc.length l.length hl,?_⟩
     refine e3 n M1 _ Q (by simp;exact ae 0x907e80c7fc148185107e80c7fc106149102 rfl acc.length l.length hl) (λ M2 k2=> ?_) _ _ _
     have:=q M2 (k1.trans k2)
     simpa using this
   ·refine gq xs (by simp;exact ae 0x904185244149102 rfl xs.length l.length e1) e2 λ n M acc Q hl q o1 o2 o3=> ?_
    rw[PN] at hl
    refine aa PP ?_;rewrite[oM]
    refine ah (a:=v) hv ?_
    refine ite_f (by cases v<;>first|rfl|cases hn) ?_
    repeat infer_instance
    refine⟨by refine aa (Qa _) ?_;unfold aq;exact ae 0x120e1a814cfd107e80c7fc106149102 rfl acc.length l.length hl,?_⟩
    refine aa (Qa _) ?_
    exact e3 n M _ Q (ae 0x907e80c7fc149107e80c7fc106149102 rfl acc.length l.length hl) q _ _ _
 refine bz (rows (eH ks) λ s hs=>xI hs) λ xs e1 e2 e3=> ?_
 rw[qA] at e1
 refine aA (.tup (.str "dict" ::xs)) ((bj.tup (d:=2*k+1) λ x hx=> ?_).mono (ae 0x13e206144184184f89101 rfl k)) λ n M Q X q=> ?_
 ·rcases PS.mp hx with e|e
  ·subst e;exact(bj.str _).mono (ae 0x10613e246101 rfl k)
  ·exact e2 x e
 ·obtain⟨k,rfl⟩:∃m,k=m+1:=⟨k-1,by exact ae 0x90c184285144146101 rfl k hk⟩
  refine aa (show n+(k+1+1)=(n+k)+1+1 by exact ae 0x306106105244106106149102 rfl n k) ?_
  refine Ev eB rfl rfl rfl ?_
  refine Ev bJ rfl rfl rfl ?_
  repeat infer_instance
  refine ao h64 ?_
  have Gq:=qA ks
  refine e3 n M [] _ (by refine aa Ru ?_;exact ae 0x24907e80c7fc14a00d14828181fd102 rfl ks.length ((eH ks).length) h64 Gq) (λ M1 k1=> ?_) _ _ _
  refine ah (uc (by refine aa (RY _) ?_;show 0+1+_<=aq;unfold aq;exact ae 0x4920e1a814cfc14a10514828181fd102 rfl ks.length xs.length h64 e1)) ?_
  exact q _ k1
theorem kD(h:Ob k hd)(hk:1<=k):Ob (k+1) (.inst 3 [hd,.bytes B]):=by
 refine ai h λ x hx ht=> ?_;clear h
 refine aA (.tup [.str "stream",x,.bytes B]) ((bj.three ((bj.str _).mono (ae 0x904f89184146101 rfl k hk)) hx ((bj.bytes _).mono (ae 0x904f89184146101 rfl k hk))).mono (ae 0x13e206144184f89101 rfl k)) λ n M Q X q=> ?_
 obtain⟨k,rfl⟩:∃m,k=m+1:=⟨k-1,ae 0x90c184285144146101 rfl k hk⟩
 refine aa (show n+(k+1+1)=(n+k)+1+1 by exact ae 0x306106105244106106149102 rfl n k) ?_
 refine Ev eB rfl rfl rfl ?_
 refine Ev bJ rfl rfl rfl ?_
 repeat infer_instance
 refine ht n M _ _ λ M1 k1=> ?_
 exact q _ k1
theorem vG:∀(n a:Nat),gy (bB a n)=bB a n:=by
 intro n
 induction n with
 |zero=>
  intro y1
  exact rfl
 |succ n ih=>
  intro a
  show ml (a:Int) (gy (bB (a+1) n))=_
  refine aa (ih _) ?_
  cases n with
  |zero=>rfl
  |succ n=>
   show(if(a:Int)<((a+1:Nat):Int) then _ else _)=_
   refine aa (if_pos (ae 0x538185139101 rfl a)) ?_;rfl
theorem qd:∀(n a:Nat),(bB a n).length=n:=by
 intro n
 induction n with
 |zero=>
  intro y1
  exact rfl
 |succ n ih=>
  intro a
  refine aa (iU _ _) ?_;refine aa PN ?_;refine aa (ih _) ?_;rfl
theorem ux{t:Nat}{T:List V}(h:aY t T M)(h64:T.length<64):oq M (.ref t)=some ((bB 1 T.length).map .int):=by
 show(M.m t).bind ql=_
 refine aa h.at_ ?_
 show(if(bB 1 T.length).length<64 then some ((gy (bB 1 T.length)).map V.int) else none)=_
 refine aa (qd _ _) ?_;refine aa (vG _ _) ?_;refine aa (if_pos h64) ?_;rfl
theorem z6{t:Nat}{T:List V}(h:aY t T M)(i:Int):eh M (.ref t) (.int i)=ci (bB 1 T.length) (T.map entry) i:=by show(M.m t).bind _=_;refine aa h.at_ ?_;rfl
theorem uA{k:Nat}{T:List V}(h:∀v∈T,Ob k v)(h64:T.length<64)(hk:3<=k):∃x,bj (2*k+3) x/\∀t n M Q X,aY t T M->(∀M',Pu M M'->Q x M')->ag ak (n+(k+1)) 20 [sh t] M Q X:=by
 have rows:∀(l:List V) (a:Nat),(∀v∈l,Ob k v)->(∀j v,l[j]? =some v->T[a+j]? =some v)->∃xs:List V,xs.length=l.length/\(∀x∈xs,bj (2*k+1) x)/\∀t n M acc (Q:List V->AH->Prop),aY t T M->acc.length+l.length<=1000->(∀M',Pu M M'->Q (acc++xs) M')->
   ∀o1 o2:Option V,bP (λ x M2 k'=>aB (dF (.one 2) x [some (sh t),o1,o2]) λ ρ'=>iP ak (ag ak (n+k)) .nil ρ' M2 λ b M3=>(b=true->lQ ak (ag ak (n+k)) (.last (.tup (.cons (.var 2) (.cons (.sub (.sub (.attr (.var 0) 8) (.var 2)) (.lit (.int 0))) (.cons (.call 14 (.cons (.sub (.sub (.attr (.var 0) 8) (.var 2)) (.lit (.int 1))) .nil)) .nil))))) ρ' M3 k')/\(b=false->k' [] M3)) ((bB (1+a) l.length).map .int) acc M Q:=by
  intro l
  induction l with
  |nil=>exact λ a zz zz=>⟨[],rfl,by simp,λ t n M acc Q zz zz q zz zz=>by refine aa Ru ?_;refine aa (zV _) ?_;refine aa UO ?_;rewrite[tK];simpa using q M (.refl _)⟩
  |cons v l ih=>
   intro a ho hs
   refine bz (ih (a+1) (λ u hu=>ho u (by simp[hu])) λ j u hu=>by
    have:=hs (j+1) u (by simpa using hu)
    rwa [show a+(j+1)=a+1+j by exact ae 0x305206144106149102 rfl a j] at this) λ xs e1 e2 e3=> ?_
   have Nt:=hs 0 v rfl
   refine ai (ho v (by simp)) λ x hx ht=> ?_
   refine gq (.tup [.int ((1+a:Nat):Int),.int 0,x]::xs) (by simpa using e1) (λ y hy=> ?_) λ t n M acc Q hT hl q o1 o2=> ?_
   ·rcases PS.mp hy with e|e
    ·subst e;exact bj.three ((bj.int _).mono (ae 0x904f89184146301 rfl k hk)) ((bj.int _).mono (ae 0x904f89184146301 rfl k hk)) hx
    ·exact e2 y e
   ·rw[PN] at hl
    refine aa PN ?_;refine aa (iU _ _) ?_;refine aa PP ?_;rewrite[oM]
    rw[UY] at Nt
    have hs:=(z6 hT ((1+a:Nat):Int)).trans (pw Nt)
    repeat infer_instance
    refine ah hs ?_
    refine ah hs ?_
    refine ht n M _ _ λ M1 k1=>⟨by simp;unfold aq;exact ae 0x120e1a814cfc185107e80c7fc106149102 rfl acc.length l.length hl,?_⟩
    refine e3 t n M1 _ Q (hT.pu k1) (by simp;exact ae 0x907e80c7fc148185107e80c7fc106149102 rfl acc.length l.length hl) (λ M2 k2=> ?_) _ _
    have:=q M2 (k1.trans k2)
    simpa using this
 refine bz (rows T 0 h λ j v hv=>by rwa [TO]) λ xs e1 e2 e3=> ?_
 refine aA (.tup [.tup xs,.tup [.str "dict"]]) (bj.two (.tup e2) (bj.mono (d:=2) (.tup λ x hx=>by simp at hx;subst hx;exact .str _) (ae 0x10623e246201 rfl k))) λ t n M Q X hT q=> ?_
 obtain⟨k,rfl⟩:∃m,k=m+3:=⟨k-3,ae 0x90c18c28d144146301 rfl k hk⟩
 refine aa (show n+(k+3+1)=(n+k)+3+1 by exact ae 0x306106305244106106349102 rfl n k) ?_
 refine Ev ku rfl rfl rfl ?_
 refine Ev ir rfl rfl rfl ?_
 refine ah (ux hT h64) ?_
 refine e3 t n M [] _ hT (by refine aa Ru ?_;exact ae 0x241fa031ff0518028181fd101 rfl T.length h64) (λ M1 k1=> ?_) _ _
 refine Ev eB rfl rfl rfl ?_
 refine Ev bJ rfl rfl rfl ?_
 repeat infer_instance
 exact q _ k1
structure aV(w c t K:Nat)(T:List V)(M:AH):Prop where
 wl:Wl w c K M
 Gp:aY t T M
 tw:t≠w
 tc:t≠c
 ob:∀v∈T,Ob 5 v
structure bh(w c t:Nat)(M M':AH):Prop where
 next:M.next<=M'.next
 same:∀i,i<M.next->i≠w->i≠c->i≠t->M'.m i=M.m i
theorem bh.refl(w c t:Nat)(M:AH):bh w c t M M:=⟨PC _,λ zz zz zz zz zz=>rfl⟩
theorem bh.trans(a:bh w c t M M1)(b:bh w c t M1 M2):bh w c t M M2:=⟨PO a.next b.next,λ i h x y z=>(b.same i (PI h a.next) x y z).trans (a.same i h x y z)⟩
theorem bh.pu(a:bh w c t M M1)(b:Pu M1 M2):bh w c t M M2:=⟨PO a.next b.next,λ i h x y z=>(b.same i (PI h a.next)).trans (a.same i h x y z)⟩
theorem Pu.KQ(b:Pu M M1):bh w c t M M1:=(bh.refl _ _ _ _).pu b
theorem bh.En(a:bh w c t M M1)(h:M.next<=i)(o:O):bh w c t M (M1.set i o):=⟨a.next,λ j hj x y z=>by refine aa (be _ _ (ae 0x92498034930914c149103 rfl M.next i j h hj)) ?_;refine aa (a.same j hj x y z) ?_;rfl⟩
theorem bh.Eu(a:bh w c t M M1)(h:M.next<=i):bh w c t M (M1.kill i):=⟨a.next,λ j hj x y z=>by refine aa (cA _ (ae 0x92498034930914c149103 rfl M.next i j h hj)) ?_;refine aa (a.same j hj x y z) ?_;rfl⟩
theorem Wl.pu(h:Wl w c K M)(p:Pu M M'):Wl w c K M':=⟨h.wc,PI h.HU p.next,PI h.HW p.next,let⟨x,a,b,k,h1,h2,h3⟩:=h.at_;⟨x,a,b,k,(p.same _ h.HU).trans h1,(p.same _ h.HW).trans h2,h3⟩⟩
section
variable{n:Nat}{w c t K m:Nat}{T:List V}{v:V}{M M':AH}{Q:V->AH->Prop}{X:AH->Prop}
theorem aV.pu(s:aV w c t K T M)(p:Pu M M'):aV w c t K T M':=⟨s.wl.pu p,s.Gp.pu p,s.tw,s.tc,s.ob⟩
theorem aV.mono(s:aV w c t K T M)(h:K<=K'):aV w c t K' T M:=⟨s.wl.mono h,s.Gp,s.tw,s.tc,s.ob⟩
theorem aV.lt(s:aV w c t K T M):w<M.next/\c<M.next/\t<M.next:=⟨s.wl.HU,s.wl.HW,s.Gp.lt⟩
theorem aV.En(s:aV w c t K T M)(hw:i≠w)(hc:i≠c)(ht:i≠t)(o:O):aV w c t K T (M.set i o):=
 ⟨⟨s.wl.wc,s.wl.HU,s.wl.HW,let⟨x,a,b,k,h1,h2,h3⟩:=s.wl.at_;⟨x,a,b,k,(be _ _ hw.symm).trans h1,(be _ _ hc.symm).trans h2,h3⟩⟩,⟨(be _ _ ht.symm).trans s.Gp.at_,s.Gp.lt⟩,s.tw,s.tc,s.ob⟩
theorem aV.Eu(s:aV w c t K T M)(hw:i≠w)(hc:i≠c)(ht:i≠t):aV w c t K T (M.kill i):=
 ⟨⟨s.wl.wc,s.wl.HU,s.wl.HW,let⟨x,a,b,k,h1,h2,h3⟩:=s.wl.at_;⟨x,a,b,k,(cA _ hw.symm).trans h1,(cA _ hc.symm).trans h2,h3⟩⟩,⟨(cA _ ht.symm).trans s.Gp.at_,s.Gp.lt⟩,s.tw,s.tc,s.ob⟩
theorem aX(s:aV w c t K T M)(hm:0<m)(Gc:m<=2^100)(hK:K<=2^100)(q:∀(r:Nat) M',r<m->aV w c t (K+1) T M'->bh w c t M M'->Q (.int r) M'):ag ak (n+1) 62 [.ref w,.int m] M Q X:=
 th s.wl hm Gc hK λ r M' hr wl f=>q r M' hr ⟨wl,⟨(f.same _ s.tw s.tc).trans s.Gp.at_,by refine aa f.next ?_;exact s.Gp.lt⟩,s.tw,s.tc,s.ob⟩ ⟨by refine aa f.next ?_;exact PC _,λ i zz x y zz=>f.same i x y⟩
theorem xA:∀(n a k:Nat),(bB a n).contains ((a+k:Nat):Int)=decide (k<n):=by
 intro n
 induction n with
 |zero=>
  intro a k
  exact(decide_eq_false (Nat.not_lt_zero _)).symm
 |succ n ih=>
  intro a y1
  cases y1 with
  |zero=>
   refine aa (iU _ _) ?_;simp
  |succ k=>
   have:=ih (a+1) k
   refine aa (iU _ _) ?_;refine aa SU ?_;refine aa (show a+(k+1)=a+1+k by exact ae 0x305206144106149102 rfl a k) ?_;refine aa this ?_
   have h:(((a+1+k:Nat):Int)==(a:Int))=false:=by rewrite[beq_eq_false_iff_ne];exact ae 0x980639138148185102 rfl a k
   refine aa h ?_;refine aa (Tp _) ?_
   simp
theorem xQ(x:V):∀(n a:Nat) (vs:List V),vs.length=n->dN ((a+n:Nat):Int) x (bB a n) vs=(bB a (n+1),vs++[x]):=by
 intro n
 induction n with
 |zero=>
  intro a y1
  cases y1 with
  |nil=>
   intro y2
   exact rfl
  |cons y3 y4=>
   intro h
   simp at h
 |succ n ihq=>
  intro a y5
  cases y5 with
  |nil=>
   intro h
   simp at h
  |cons v vs=>
   intro h
   have ih:=ihq (a+1) vs (by simpa using h)
   refine aa (iU _ _) ?_;rewrite[qJ]
   have e:((a:Int)==((a+(n+1):Nat):Int))=false:=by rewrite[beq_eq_false_iff_ne];exact ae 0x980638106149139102 rfl a n
   refine aa e ?_;refine aa (show a+(n+1)=a+1+n by exact ae 0x305206144106149102 rfl a n) ?_;refine aa ih ?_
   rfl
theorem BO(h:aY t T M)(k:Nat):zv M (.int ((1+k:Nat):Int)) (.ref t)=some (decide (k<T.length)):=by
 show(M.m t).bind _=_
 refine aa h.at_ ?_
 exact congrArg some (xA ..)
theorem Be(s:aV w c t K T M)(ho:Ob 5 v)(hl:T.length<=62)(q:∀M',aV w c t K (T++[v]) M'->bh w c t M M'->Q (uD (T.length+1)) M'):ag ak (n+2) 18 [sh t,v] M Q X:=by
 refine Ev lJ rfl rfl rfl ?_
 refine uh (λ m ρ M'=>M'=M/\∃k,ρ=[some (sh t),some v,some (.int ((1+k:Nat):Int))]/\k<=T.length/\m=T.length-k) T.length ⟨rfl,0,rfl,ae 0x146001 rfl T.length,ae 0x30a045101 rfl T.length⟩ ?_
 rintro m ρ M' ⟨rfl,k,rfl,hk,rfl⟩ K hK
 refine ah (BO s.Gp k) ?_
 refine⟨λ h=> ?_,λ h=> ?_⟩
 ·have h:=of_decide_eq_true h
  refine hK (T.length-(k+1)) _ _ (by(rename_i z0;exact ae 0x908245208185148249102 rfl k T.length (of_decide_eq_true z0:))) ⟨rfl,k+1,?_,by(rename_i z0;exact ae 0x905206144249102 rfl k T.length (of_decide_eq_true z0:)),rfl⟩
  refine aa (show((1+k:Nat):Int)+1=((1+(k+1):Nat):Int) by exact ae 0x638106146106138146101 rfl k) ?_
  rfl
 ·have h:=of_decide_eq_false h
  obtain rfl:k=T.length:=by(rename_i z0;exact ae 0x924349126009244149102 rfl k T.length hk (of_decide_eq_false z0:))
  have hs:dL (.EE (bB 1 T.length) (T.map entry)) (.int ((1+T.length:Nat):Int)) (.tup [.int 0,v])=some (.EE (bB 1 (T++[v]).length) ((T++[v]).map entry)):=by
   show(if(bB 1 T.length).length<=aq then some (O.EE (dN _ _ (bB 1 T.length) (T.map entry)).1 (dN _ _ (bB 1 T.length) (T.map entry)).2) else none)=_
   refine aa (xQ (.tup [.int 0,v]) T.length 1 (T.map entry) (by simp)) ?_;refine aa (qd _ _) ?_;refine aa (if_pos (show T.length<=aq by unfold aq;exact ae 0x48386a0533f441f8045fd101 rfl T.length hl)) ?_;refine aa PH ?_;refine aa Qd ?_
   rfl
  refine ah s.Gp.at_ ?_
  refine ah hs ?_
  and_intros
  unfold cK
  refine Ev iu rfl rfl rfl ?_
  refine ah (bL _ _) ?_
  and_intros
  refine ah (aF _ _ _) ?_
  and_intros
  refine aa (aF _ _ _) ?_
  refine cg rfl rfl ?_
  refine aa ((Nat.add_comm 1) _) ?_
  have p:Pu (M'.set t (.EE (bB 1 (T++[v]).length) ((T++[v]).map entry))) _:=(((Pu.new _ (.inst 4 [])).En (PC _) (.inst 4 [.int ((T.length+1:Nat):Int)])).En (PC _) (.inst 4 [.int ((T.length+1:Nat):Int),.int 0])).Eu (PC _)
  refine q _ ?_ ?_
  ·refine aV.pu ?_ p
   exact⟨⟨s.wl.wc,s.wl.HU,s.wl.HW,let⟨x,a,b,k,h1,h2,h3⟩:=s.wl.at_;⟨x,a,b,k,(be _ _ s.tw.symm).trans h1,(be _ _ s.tc.symm).trans h2,h3⟩⟩,⟨aF _ _ _,s.Gp.lt⟩,s.tw,s.tc,λ u hu=>(Qq.mp hu).elim (s.ob u) λ e=>by(first|rewrite[PZ.mp e]|refine aa (PZ.mp e) ?_);exact ho⟩
  ·have f1:bh w c t M' (M'.set t (.EE (bB 1 (T++[v]).length) ((T++[v]).map entry))):=⟨PC _,λ i zz zz zz h=>be _ _ h⟩
   exact f1.pu p
theorem kh(s:aV w c t K T M)(ho:Ob 5 v)(hl:T.length<=62)(hK:K<=2^90)(q:∀x T' M',aV w c t (K+1) T' M'->bh w c t M M'->T<+:T'->T'.length<=T.length+1->Bh T' x v->Q x M'):ag ak (n+3) 63 [.ref w,sh t,v] M Q X:=by
 refine Ev jZ rfl rfl rfl ?_
 refine aX (m:=3) s (by decide) (by decide) (ae 0x9066407f4419681fd101 rfl K hK) λ r M1 hr s1 f1=> ?_
 refine⟨λ h=> ?_,λ h=> ?_⟩
 ·exact Be s1 ho hl λ M2 s2 f2=>q _ _ _ s2 (f1.trans f2) (List.prefix_append _ _) (by simp) (.inr ⟨T.length,rfl,by simp⟩)
 ·exact q _ _ _ s1 f1 (Pz _) (ae 0x106145101 rfl T.length) (.inl rfl)
end
theorem aW.snoc:∀{xs ys:List V} {x y:V},aW R xs ys->R x y->aW R (xs++[x]) (ys++[y]):=by
 intro xs
 induction xs with
 |nil=>
  intro y1
  cases y1 with
  |nil=>
   intro y2 y3 y4 r
   exact⟨r,trivial⟩
  |cons y5 y6=>
   intro y7 y8 h y9
   exact h.elim
 |cons G0 Gt ih=>
  intro HH
  cases HH with
  |nil=>
   intro Jb Ja h Kn
   exact h.elim
  |cons Mw y17=>
   intro y18 y19 h r
   exact⟨h.1,ih h.2 r⟩
noncomputable def cq:V->Nat|.list ps=>ps.length+1|_=>1
noncomputable def aL:List V->Nat|[]=>0|v::vs=>cq v+aL vs
theorem jk:aL []=0:=rfl
theorem eZ(v:V)(vs:List V):aL (v::vs)=cq v+aL vs:=rfl
theorem rJ(ps:List V):cq (.list ps)=ps.length+1:=rfl
def PV(k:Nat)(v:V):Prop:=(∃ps,v=.list ps/\ps.length<=20/\∀p∈ps,Ob 2 p/\NR p)∨((∀ps,v≠.list ps)/\NR v/\Ob k v)
def HV(T:List V)(v x:V):Prop:=(∃ps Gv,v=.list ps/\aW (λ y p=>Bh T y p/\NR p) Gv ps/\Bh T x (.list Gv))∨((∀ps,v≠.list ps)/\NR v/\Bh T x v)
theorem HV.mono{T T':List V}(h:T<+:T')(b:HV T v x):HV T' v x:=b.imp (λ⟨ps,Gv,e,a,q⟩=>⟨ps,Gv,e,a.mono λ zz zz r=>⟨r.1.mono h,r.2⟩,q.mono h⟩) λ⟨a,nr,q⟩=>⟨a,nr,q.mono h⟩
theorem Bh.ob{T:List V}{k:Nat}(b:Bh T x v)(h:Ob k v)(hk:2<=k):Ob k x:=by
 rcases b with rfl|⟨n,rfl,_⟩
 ·exact h
 ·exact(Br _).mono hk
theorem yN:∀{ka kb:List String} {va vb:List V},ka.length=va.length->k∉ka->ay (ka++k::kb) (va++v::vb) k=some v:=by
 intro ka
 induction ka with
 |nil=>
  intro kb y1
  cases y1 with
  |nil=>
   intro vb y2 y3
   show(if k==k then _ else _)=_;refine aa (if_pos (by simp)) ?_;rfl
  |cons y4 y5=>
   intro y6 h y7
   simp at h
 |cons a ka ih=>
  intro kb y8
  cases y8 with
  |nil=>
   intro y9 h G0
   simp at h
  |cons b va=>
   intro vb h hk
   have Fq:¬(a==k)=true:=by
    intro e;rw[beq_iff_eq] at e;subst e;exact hk (by simp)
   show(if a==k then _ else _)=_
   refine aa (if_neg Fq) ?_
   exact ih (by simpa using h) λ e=>hk (by simp[e])
theorem xW:∀{ka:List String} {va:List V},ka.length=va.length->k∉ka->aI k v ka va=(ka++[k],va++[v]):=by
 intro ka
 induction ka with
 |nil=>
  intro y1
  cases y1 with
  |nil=>
   intro y2 y3
   exact rfl
  |cons y4 y5=>
   intro h y6
   simp at h
 |cons a ka ihq=>
  intro y7
  cases y7 with
  |nil=>
   intro h y8
   simp at h
  |cons b va=>
   intro h hk
   have Fq:¬(a==k)=true:=by
    intro e;rw[beq_iff_eq] at e;subst e;exact hk (by simp)
   have ih:=ihq (va:=va) (by simpa using h) λ e=>hk (by simp[e])
   rewrite[fc];refine aa (if_neg Fq) ?_;refine aa ih ?_;rfl
theorem sa:∀{ks:List String} {vs xs:List V} {k:String} {v:V},aW R vs xs->ay ks vs k=some v->∃x,ay ks xs k=some x/\R v x:=by
 intro ks
 induction ks with
 |nil=>
  intro y1 y2 y3 y4 y5 h
  cases h
 |cons a ks ih=>
  intro y6
  cases y6 with
  |nil=>
   intro y7 y8 y9 G0 h
   cases h
  |cons u vs=>
   intro Gt
   cases Gt with
   |nil=>
    intro k v q HH
    exact q.elim
   |cons x xs=>
    intro k v q h
    have h:(if a==k then some u else ay ks vs k)=some v:=h
    show∃x',(if a==k then some x else ay ks xs k)=some x'/\R v x'
    by_cases e:(a==k)=true
    ·rw[if_pos e] at h ⊢;cases h;exact aA x rfl q.1
    ·rw[if_neg e] at h ⊢;exact ih q.2 h
theorem A3:∀{ks:List String} {vs xs:List V} {k:String},aW R vs xs->ay ks vs k=none->ay ks xs k=none:=by
 intro ks
 induction ks with
 |nil=>
  intro y1 y2 y3 y4 y5
  rfl
 |cons a ks ih=>
  intro y6
  cases y6 with
  |nil=>
   intro y7
   cases y7 with
   |nil=>
    intro y8 y9 G0
    rfl
   |cons Gt HH=>
    intro Jb q Ja
    exact q.elim
  |cons u vs=>
   intro Kn
   cases Kn with
   |nil=>
    intro k q Mw
    exact q.elim
   |cons x xs=>
    intro k q h
    have h:(if a==k then some u else ay ks vs k)=none:=h
    show(if a==k then some x else ay ks xs k)=none
    by_cases e:(a==k)=true
    ·rw[if_pos e] at h;cases h
    ·rw[if_neg e] at h ⊢;exact ih q.2 h
section
variable{T:List V}{ks:List String}{vs xs ps:List V}{key:String}{v:V}
theorem aQ(h:aW (HV T) vs xs)(hk:ay ks vs key=some v)(nl:∀ps,v≠.list ps):At T (.dict ks xs) key v:=by
 refine ai (sa h hk) λ x hx r=> ?_
 rcases r with⟨ps,_,e,_⟩|⟨_,nr,b⟩
 ·exact(nl ps e).elim
 ·exact⟨nr,ks,xs,rfl,by(first|refine aa hx ?_;with_reducible rfl|refine aa hx ?_);exact b⟩
theorem fV(h:aW (HV T) vs xs)(hk:ay ks vs key=none):At T (.dict ks xs) key .none:=⟨trivial,ks,xs,rfl,by refine aa (A3 h hk) ?_;exact .inl rfl⟩
theorem jm(h:aW (HV T) vs xs)(hk:ay ks vs key=some (.list ps)):∃Gv,aW (λ y p=>Bh T y p/\NR p) Gv ps/\At T (.dict ks xs) key (.list Gv):=by
 refine ai (sa h hk) λ x hx r=> ?_
 rcases r with⟨ps1,Gv,e,a,b⟩|⟨nl,_⟩
 ·cases e
  exact⟨Gv,a,trivial,ks,xs,rfl,by refine aa hx ?_;exact b⟩
 ·exact(nl ps rfl).elim
end
theorem zW{v:V}(h:NR v)(nl:∀ps,v≠.list ps)(M:AH):fO M v .tlist=some false:=by
 cases v<;>first|rfl|exact h.elim|exact(nl _ rfl).elim
section
variable{n:Nat}{w c t K m:Nat}{T:List V}{v:V}{ks:List String}{vs:List V}{M M':AH}{Q:V->AH->Prop}{X:AH->Prop}
theorem sR{ps:List V}{Q:List V->AH->Prop}(s:aV w c t K T M)(hp:∀p∈ps,Ob 2 p/\NR p)(hl:T.length+ps.length<=62)(hK:K+ps.length<=2^80)
  (q:∀xs T' M',aV w c t (K+ps.length) T' M'->bh w c t M M'->T<+:T'->T'.length<=T.length+ps.length->aW (λ y p=>Bh T' y p/\NR p) xs ps->Q xs M'):
  ∀o3 o4 o5 o6:Option V,bP (λ x M2 k=>aB (dF (.one 6) x [some (.ref w),some (sh t),o3,o4,o5,o6,none]) λ ρ'=>iP ak (ag ak (n+3)) .nil ρ' M2 λ b M3=>(b=true->lQ ak (ag ak (n+3)) (.last (.call 63 (.cons (.var 0) (.cons (.var 1) (.cons (.var 6) .nil))))) ρ' M3 k)/\(b=false->k [] M3)) ps [] M Q:=by
 intro o3 o4 o5 o6
 refine cT (λ rest acc M'=>∃done T',ps=done++rest/\acc.length=done.length/\aV w c t (K+done.length) T' M'/\bh w c t M M'/\T<+:T'/\T'.length<=T.length+done.length/\aW (λ y p=>Bh T' y p/\NR p) acc done) ps
  ⟨[],T,rfl,rfl,s,.refl _ _ _ _,Pz _,by simp,trivial⟩ (λ acc M' j=> ?_) λ x xs acc M' j K2 E7=> ?_
 ·refine vd j λ done T' e e2 s1 f1 p1 l1 a1=> ?_;clear j
  rw[Qa] at e;subst e
  exact q _ _ _ s1 f1 p1 l1 a1
 ·refine vd j λ done T' EL e2 s1 f1 p1 l1 a1=> ?_;clear j;subst EL
  rw[PH,PN] at hl hK
  have hx:=hp x (by simp)
  repeat infer_instance
  refine kh s1 (hx.1.mono (by decide)) (ae 0x9241f8045fd4041491501f8045fc104185349104 rfl T.length done.length xs.length T'.length hl l1) (ae 0x9065a07f0524419401fc104185349103 rfl K done.length xs.length hK) λ y T2 M2 s2 f2 p2 l2 b2=> ?_
  refine E7 _ _ ?_ ⟨done++[x],T2,by simp,?_,?_,f1.trans f2,p1.trans p2,?_,(a1.mono λ zz zz r=>⟨r.1.mono p2,r.2⟩).snoc ⟨b2,hx.2⟩⟩
  ·refine aa PH ?_;simp;unfold aq;exact ae 0x4920e1a814cfc18540d2501f8045fc104185349104 rfl T.length done.length xs.length acc.length hl e2
  ·refine aa PH ?_;refine aa PH ?_;refine aa e2 ?_;rfl
  ·refine aa PH ?_;exact s2
  ·refine aa PH ?_;simp;exact ae 0x924104185349404185150105349104 rfl T'.length T.length done.length T2.length l1 l2
inductive JH(w c t K d:Nat)(T:List V)(ks:List String)(vs:List V)(M:AH)(rest:List V)(ρ:an)(M':AH):Prop
 |mk (ka kb:List String) (va vb xs T':List V) (o4 o5 o6:Option V) (e1:ks=ka++kb) (e2:vs=va++vb) (e3:ka.length=va.length) (e4:rest=kb.map .str) (e5:ρ=[some (.ref w),some (sh t),some (.dict ks vs),some (.ref M.next),o4,o5,o6])
   (hM:M'.m M.next=some (.Er ka xs)) (hl:M.next<M'.next) (s:aV w c t (K+aL va) T' M') (f:bh w c t M M') (p:T<+:T') (l:T'.length<=T.length+aL va) (a:aW (HV T') va xs) (b:∀x∈xs,Ob d x)
theorem oh(h3:3<=d)(h5:d<=5)(s:aV w c t K T M)(hv:∀v∈vs,PV d v)(hk:ks.length=vs.length)(nd:ks.Nodup)(HE:ks.length<=15)(hl:T.length+aL vs<=62)(hK:K+aL vs<=2^80)
  (q:∀xs T' M',aV w c t (K+aL vs) T' M'->bh w c t M M'->T<+:T'->T'.length<=T.length+aL vs->aW (HV T') vs xs->(∀x∈xs,Ob d x)->Q (.dict ks xs) M'):ag ak (n+4) 64 [.ref w,sh t,.dict ks vs] M Q X:=by
 refine Ev lH rfl rfl rfl ?_
 refine fj rfl (by decide) (by decide) ?_
 refine ei s.lt λ hw hc ht=> ?_
 refine cD (JH w c t K d T ks vs M) _
  ⟨[],ks,[],vs,[],T,_,_,_,rfl,rfl,rfl,rfl,rfl,bL _ _,b6 _ _,s.pu (.new _ _),(Pu.new _ _).KQ,Pz _,by simp[jk],trivial,by simp⟩ (λ ρ M' j=> ?_) λ x xs ρ M' j K2 E7=> ?_
 ·obtain⟨ka,kb,va,vb,xs,T',o4,o5,o6,e1,e2,e3,e4,rfl,hM,EM,s1,f1,p1,l1,a1,K8⟩:=j
  have:kb=[]:=by simpa using e4
  subst this
  rw[Qa] at e1;subst e1
  have:vb=[]:=by
   have:=congrArg Q2 e2
   rw[PH] at this
   exact Ro (ae 0x92490e05030544d20d344349104 rfl ks.length vs.length va.length vb.length hk e3 this)
  subst this
  rw[Qa] at e2;subst e2
  and_intros
  refine aa (show bf M' (.ref M.next)=(.dict ks xs,M'.kill M.next) by show((M'.m M.next).bind mq).elim _ _=_;refine aa hM ?_;rfl) ?_
  exact q _ _ _ (s1.Eu (ae 0x92600d148249102 rfl w M.next hw) (ae 0x92600d148249102 rfl c M.next hc) (ae 0x92600d148249102 rfl t M.next ht)) (f1.Eu (PC _)) p1 l1 a1 K8
 ·obtain⟨ka,kb,va,vb,ys,T',o4,o5,o6,e1,e2,e3,e4,rfl,hM,EM,s1,f1,p1,l1,a1,K8⟩:=j
  cases kb with
  |nil=>cases e4
  |cons k kb=>
  cases e4
  cases vb with
  |nil=>
   have:=congrArg Q2 e1
   have:=congrArg Q2 e2
   simp at*;lia
  |cons v vb=>
  subst e1 e2
  have Ip:k∉ka:=λ hm=>(Se.mp nd).2.2 k hm k (by simp) rfl
  have Lw:ka.length=ys.length:=by refine aa e3 ?_;refine aa a1.len ?_;rfl
  have cst:∀(a b:List V),aL (a++b)=aL a+aL b:=by
   intro a b
   induction a with
   |nil=>simp[jk]
   |cons x a ih=>refine aa U4 ?_;refine aa (eZ _ _) ?_;refine aa (eZ _ _) ?_;refine aa ih ?_;exact ae 0x305305244105349103 rfl (cq x) (aL a) (aL b)
  rw[cst,eZ] at hl hK
  have Mg:ka.length<=aq:=by rw[PH] at HE;unfold aq;exact ae 0x48386a0533f441bc149102 rfl ka.length ((k::kb).length) HE
  have H0:∀M',eh M' (.dict (ka++k::kb) (va++v::vb)) (.str k)=some v:=λ zz=>yN e3 Ip
  and_intros
  refine ah (H0 _) ?_
  and_intros
  have fin:∀(y u:V) (T2:List V) (M2:AH) (o6:Option V),aV w c t (K+aL va+cq v) T2 M2->bh w c t M' M2->T'<+:T2->T2.length<=T'.length+cq v->HV T2 v y->Ob d y->
    aB (M2.m M.next) λ ob=>aB (dL ob (V.str k) y) λ Gx=>K2 [some (.ref w),some (sh t),some (.dict (ka++k::kb) (va++v::vb)),some (.ref M.next),some (.str k),some u,o6] (M2.set M.next Gx):=by
   intro y u T2 M2 o6 s2 f2 p2 l2 b2 NZ
   refine aa (f2.same _ EM (ae 0x92600d148249102 rfl w M.next hw) (ae 0x92600d148249102 rfl c M.next hc) (ae 0x92600d148249102 rfl t M.next ht)) ?_;refine aa hM ?_;refine aa (dO _ _) ?_
   refine aa (show dL (.Er ka ys) (.str k) y=some (.Er (ka++[k]) (ys++[y])) by show(if ka.length<=aq then some (O.Er (aI k y ka ys).1 (aI k y ka ys).2) else none)=_;refine aa (if_pos Mg) ?_;refine aa (xW Lw Ip) ?_;rfl) ?_;refine aa (dO _ _) ?_
   refine E7 _ _ ⟨ka++[k],kb,va++[v],vb,ys++[y],T2,_,_,_,by simp,by simp,by simp[e3],rfl,rfl,aF _ _ _,PI EM f2.next,?_,(f1.trans f2).En (PC _) _,p1.trans p2,?_,(a1.mono λ zz zz r=>r.mono p2).snoc b2,λ x hx=> ?_⟩
   ·refine aa (cst _ _) ?_
    refine aV.En (s2.mono ?_) (ae 0x92600d148249102 rfl w M.next hw) (ae 0x92600d148249102 rfl c M.next hc) (ae 0x92600d148249102 rfl t M.next ht) _
    simp[eZ,jk];exact ae 0x10414d24414c149103 rfl K (aL va) (cq v)
   ·refine aa (cst _ _) ?_;simp[eZ,jk];exact ae 0x924104155349404155150105349105 rfl T'.length T.length (aL va) T2.length (cq v) l1 l2
   ·rcases Qq.mp hx with e|e
    ·exact K8 x e
    ·refine aa (PZ.mp e) ?_;exact NZ
  rcases hv v (by simp) with⟨ps,rfl,hps,hp⟩|⟨nl,nr,ov⟩
  ·rw[rJ] at hl hK
   repeat infer_instance
   refine sR s1 hp (ae 0x9241f8045fc151107e0117f04105506151348105349105 rfl T'.length T.length (aL va) ps.length (aL vb) l1 hl) (ae 0x9065007f0530524419401fc104150185349104 rfl K (aL va) ps.length (aL vb) hK) (λ xs T2 M2 s2 f2 p2 l2 a2=> ?_) _ _ _ _
   have ol:Ob d (.list xs):=Ob.mono (k:=3) (AA (λ x hx=> ?_) (by refine aa a2.len ?_;exact ae 0x241fa031ff441d1101 rfl ps.length hps) (by decide)) h3
   refine kh s2 (ol.mono h5) (ae 0x924907e0117f58105445607e0117f04105506151348105349106 rfl T'.length T.length (aL va) ps.length (aL vb) T2.length l1 hl l2) (ae 0x9065a07f0530524419401fc104150185349104 rfl K (aL va) ps.length (aL vb) hK) λ y T3 M3 s3 f3 p3 l3 b3=> ?_
   refine fin y _ T3 M3 _ ?_ (f2.trans f3) (p2.trans p3) (by refine aa (rJ _) ?_;exact ae 0x924104185349404185150105349104 rfl T2.length T'.length ps.length T3.length l2 l3) (.inl ⟨ps,xs,rfl,a2.mono λ zz zz r=>⟨r.1.mono p3,r.2⟩,b3⟩) (b3.ob ol (ae 0x905188146301 rfl d h3))
   ·refine aa (rJ _) ?_;exact s3
   ·have key:∀{xs ps:List V},aW (λ y p=>Bh T2 y p/\NR p) xs ps->(∀p∈ps,Ob 2 p/\NR p)->∀x∈xs,Ob 2 x:=by
     intro xs
     induction xs with
     |nil=>intro ps _ _ x hx;cases hx
     |cons a xs ih=>
      intro ps q hp x hx
      cases ps with
      |nil=>exact q.elim
      |cons p ps=>
       rcases PS.mp hx with e|e
       ·subst e;exact q.1.1.ob (hp p (by simp)).1 (PC _)
       ·exact ih q.2 (λ p' h'=>hp p' (by simp[h'])) x e
    exact key a2 hp x hx
  ·have LJ:cq v=1:=by
    cases v<;>first|rfl|exact(nl _ rfl).elim
   rw[LJ] at hl hK
   refine ah (zW nr nl _) ?_
   repeat infer_instance
   refine kh s1 (ov.mono h5) (ae 0x9241f8045fd107e0117f04105485348105349104 rfl T'.length T.length (aL va) (aL vb) l1 hl) (ae 0x9065a07f0524419401fc10414e149103 rfl K (aL va) (aL vb) hK) λ y T3 M3 s3 f3 p3 l3 b3=> ?_
   exact fin y v T3 M3 _ (by refine aa LJ ?_;exact s3) f3 p3 (by refine aa LJ ?_;exact ae 0x904185244106149102 rfl T3.length T'.length l3) (.inr ⟨nl,nr,b3⟩) (b3.ob ov (ae 0x905188146301 rfl d h3))
end
theorem oC(b:Nat):((2:Int)^b)=((2^b:Nat):Int):=by push_cast;rfl
theorem uH(b:Nat):((2:Int)^b)-1=((2^b-1:Nat):Int):=by
 have:=kY (b:=b)
 rwa [Int.one_mul] at this
theorem CQ(b:Nat):QL ((2:Int)^b) 2=((2^b/2:Nat):Int):=by
 refine aa (oC _) ?_;refine aa (show(2:Int)=((2:Nat):Int) by rfl) ?_;refine aa (dW _ _) ?_;rfl
section
variable{n:Nat}{w cc t K W h b c:Nat}{T:List V}{M M':AH}{Q:V->AH->Prop}{X:AH->Prop}
theorem Ba(s:aV w cc t K T M)(EX:1<=b)(hb:b<=16)(hc:c<=4)(hK:K<=2^88)(h0:ρ.get 0=some (.ref w))(h3:ρ.get 3=some (.int b))(h5:ρ.get 5=some (.list [.int 0,.int (2^b-1),.int 1,.int (QL (2^b) 2)]))
  (n0:∀x,(ρ.put 10 x).get 0=ρ.get 0)(n3:∀x,(ρ.put 10 x).get 3=ρ.get 3)(n5:∀x,(ρ.put 10 x).get 5=ρ.get 5)
  (q:∀(p:List Nat) M',p.length=c->(∀s∈p,s<2^b)->aV w cc t (K+8) T M'->bh w cc t M M'->Qs (p.map λ s:Nat=>V.int s) M'):
  bP (λ x M2 k=>aB (dF (.one 10) x ρ) λ ρ'=>iP ak (ag ak (n+1)) .nil ρ' M2 λ b M3=>(b=true->lQ ak (ag ak (n+1)) (.last (.ED (.cmp .eq (.call 62 (.cons (.var 0) (.cons (.lit (.int 2)) .nil))) (.lit (.int 0))) (.sub (.var 5) (.call 62 (.cons (.var 0) (.cons (.lit (.int 4)) .nil)))) (.call 62 (.cons (.var 0) (.cons (.bin .pow (.lit (.int 2)) (.var 3)) .nil))))) ρ' M3 k)/\(b=false->k [] M3)) (aZ 0 1 c) [] M Qs:=by
 have FM:2^b<=2^16:=ch hb
 have hp:2^1<=2^b:=ch EX
 refine cT (λ rest acc M'=>∃j ss,rest=aZ (j:Nat) 1 (c-j)/\j<=c/\ss.length=j/\acc=ss.map (λ s:Nat=>V.int s)/\(∀s∈ss,s<2^b)/\aV w cc t (K+2*j) T M'/\bh w cc t M M') _
  ⟨0,[],rfl,by exact ae 0x146001 rfl c,rfl,rfl,by simp,s,.refl _ _ _ _⟩ (λ acc M' j=> ?_) λ x xs acc M' j K2 E7=> ?_
 ·rename type_of% j=>oqe;refine vd oqe λ j ss e1 e2 FE F5 e5 s1 f1=> ?_;clear oqe;subst FE;subst F5
  have:=bF e1
  exact q ss _ (by exact ae 0x92434910e009148149102 rfl ss.length c e2 this) e5 (s1.mono (by exact ae 0x92410684c13e249305148191103 rfl c ss.length K hc e2)) f1
 ·rename type_of% j=>oqe;refine vd oqe λ j ss e1 e2 FE F5 e5 s1 f1=> ?_;clear oqe;subst FE;subst F5
  refine bz (ce e1) λ m e6 EL e7=> ?_;subst EL
  have fin:∀(k:Nat) M2,k<2^b->aV w cc t (K+2*(ss.length+1)) T M2->bh w cc t M M2->K2 [.int k] M2:=by
   intro k M2 hk s2 f2
   refine E7 _ _ ?_ ⟨ss.length+1,ss++[k],?_,by exact ae 0x90510614830614c249103 rfl c ss.length m e6,by simp,by simp,?_,s2,f2⟩
   ·simp;unfold aq;exact ae 0x4920e1a814cfc185205148191102 rfl c ss.length hc e2
   ·refine aa e7 ?_;refine aa (show c-(ss.length+1)=m by exact ae 0x90d30818524430614c249103 rfl c ss.length m e6) ?_;rfl
   ·intro y hy
    rcases Qq.mp hy with e|e
    ·exact e5 y e
    ·refine aa (PZ.mp e) ?_;exact hk
  repeat infer_instance
  refine ah ((n0 _).trans h0) ?_
  refine aX (m:=2) s1 (by decide) (by decide) (by exact ae 0x9249066407f04f893481453065807f48191103 rfl c K ss.length hc hK e2) λ r M1 hr s2 f2=> ?_
  refine⟨λ h=> ?_,λ h=> ?_⟩
  ·refine ah ((n5 _).trans h5) ?_
   refine ah ((n0 _).trans h0) ?_
   refine aX (m:=4) s2 (by decide) (by decide) (by exact ae 0x9249066407f06104f893481453065807f48191103 rfl c K ss.length hc hK e2) λ r M2 hr s3 f3=> ?_
   have f4:=f1.trans (f2.trans f3)
   have hd:2^b/2<2^b:=by(rename_i z0 z1;exact ae 0x92424521c10613e24910513e248146202 rfl (2^b) (2^b/2) hp (lO _ 1))
   match r,hr with
   |0,_=>exact fin 0 _ (by(rename_i z0 z1 z2;exact ae 0x909180146201 rfl (2^b) hp)) s3 f4
   |1,_=>have:=fin (2^b-1) _ (by(rename_i z0 z1 z2;exact ae 0x90910a144146201 rfl (2^b) hp)) s3 f4;rw[<-uH] at this;exact this
   |2,_=>exact fin 1 _ (by(rename_i z0 z1 z2;exact ae 0x909184146201 rfl (2^b) hp)) s3 f4
   |3,_=>have:=fin (2^b/2) _ (by exact ae 0x909244249102 rfl (2^b/2) (2^b) hd) s3 f4;rw[<-CQ] at this;exact this
  ·refine ah ((n0 _).trans h0) ?_
   refine ah ((n3 _).trans h3) ?_
   refine ao ⟨by exact ae 0x48a000 rfl,by exact ae 0x4c2200 rfl,by exact ae 0x10e46001 rfl b,by exact ae 0x2448181fce441c1101 rfl b hb⟩ ?_
   refine aa (PF _) ?_;refine aa (oC _) ?_
   refine aX (m:=2^b) s2 (by exact ae 0x909180146201 rfl (2^b) hp) (by exact ae 0x9066407f4418401fd101 rfl (2^b) FM) (by exact ae 0x9249066407f06104f893481453065807f48191103 rfl c K ss.length hc hK e2) λ r M2 hr s3 f3=> ?_
   exact fin r _ hr s3 (f1.trans (f2.trans f3))
inductive JP(w cc t K W h b c:Nat)(T:List V)(M:AH)(rest:List V)(ρ:an)(M':AH):Prop
 |mk (j:Nat) (px:List (List (List Nat))) (o7 o8 o9 FX:Option V) (e1:rest=aZ (j:Nat) 1 (h-j)) (e2:j<=h) (e3:ca px W j b c) (e4:ρ=[some (.ref w),some (.int W),some (.int h),some (.int b),some (.int c),some (.list [.int 0,.int (2^b-1),.int 1,.int (QL (2^b) 2)]),some (.ref M.next),o7,o8,o9,FX])
   (hM:M'.m M.next=some (.list (px.map dy))) (hl:M.next<M'.next) (s:aV w cc t (K+64*j) T M') (f:bh w cc t M M')
inductive JQ(w cc t K W h b c j:Nat)(T:List V)(M M':AH)(rest:List V)(ρ:an)(M2:AH):Prop
 |mk (i:Nat) (row:List (List Nat)) (o9 FX:Option V) (e1:rest=aZ (i:Nat) 1 (W-i)) (e2:i<=W) (e3:row.length=i) (e4:∀p∈row,p.length=c/\∀s∈p,s<2^b)
   (e5:ρ=[some (.ref w),some (.int W),some (.int h),some (.int b),some (.int c),some (.list [.int 0,.int (2^b-1),.int 1,.int (QL (2^b) 2)]),some (.ref M.next),some (.int j),some (.ref M'.next),o9,FX])
   (hM:M2.m M'.next=some (.list (row.map cH))) (hl:M'.next<M2.next) (s:aV w cc t (K+64*j+8*i) T M2) (f:bh w cc t M' M2)
theorem kf(s:aV w cc t K T M)(hw:W<=8)(hh:h<=8)(EX:1<=b)(hb:b<=16)(hc:c<=4)(hK:K<=2^80)
  (q:∀px M',ca px W h b c->aV w cc t (K+1000) T M'->bh w cc t M M'->Q (bk px) M'):ag ak (n+2) 65 [.ref w,.int W,.int h,.int b,.int c] M Q X:=by
 refine Ev jX rfl rfl rfl ?_
 refine ao ⟨by exact ae 0x48a000 rfl,by exact ae 0x4c2200 rfl,by exact ae 0x10e46001 rfl b,by exact ae 0x2448181fce441c1101 rfl b hb⟩ ?_
 refine ao ⟨by exact ae 0x48a000 rfl,by exact ae 0x4c2200 rfl,by exact ae 0x10e46001 rfl b,by exact ae 0x2448181fce441c1101 rfl b hb⟩ ?_
 refine ao (bU (by exact ae 0x90a1d07f38e441a1101 rfl h hh)) ?_
 and_intros
 refine aa (PF _) ?_
 refine⟨by refine aa (ba _ _ _) ?_;unfold aq;exact ae 0x48386a0533f441a1101 rfl h hh,?_⟩
 have hs:=s.lt
 refine cD (JP w cc t K W h b c T M) _
  ⟨0,[],_,_,_,_,rfl,by exact ae 0x146001 rfl h,⟨rfl,by simp,by simp,by simp⟩,rfl,bL _ _,b6 _ _,s.pu (.new _ _),(Pu.new _ _).KQ⟩ (λ ρ M' j=> ?_) λ x xs ρ M' j K2 E7=> ?_
 ·obtain⟨j,px,o7,o8,o9,FX,e1,e2,e3,rfl,hM,EM,s1,f1⟩:=j
  have:=bF e1
  obtain rfl:j=h:=by exact ae 0x92434910e009148149102 rfl j h e2 this
  and_intros
  refine aa (dw hM) ?_
  exact q px _ e3 ((s1.mono (by exact ae 0x24107e80c7fd204f8181fd1481a1102 rfl j K hh)).Eu (by exact ae 0x92600d14871c24940924c249104 rfl w M.next cc t hs) (by exact ae 0x92600d34871c24940924c249104 rfl w M.next cc t hs) (by exact ae 0x92600d44871c24940924c249104 rfl w M.next cc t hs)) (f1.Eu (PC _))
 ·obtain⟨j,px,o7,o8,o9,FX,e1,e2,e3,rfl,hM,EM,s1,f1⟩:=j
  refine bz (ce e1) λ m e6 EL e7=> ?_;subst EL
  refine ao (bU (by exact ae 0x90a1d07f38e441a1101 rfl W hw)) ?_
  and_intros
  refine aa (PF _) ?_
  refine⟨by refine aa (ba _ _ _) ?_;unfold aq;exact ae 0x48386a0533f441a1101 rfl W hw,?_⟩
  refine cD (JQ w cc t K W h b c j T M M') _
   ⟨0,[],_,_,rfl,by exact ae 0x146001 rfl W,rfl,by simp,rfl,bL _ _,b6 _ _,s1.pu (.new _ _),(Pu.new _ _).KQ⟩ (λ ρ M2 j'=> ?_) λ x xs ρ M2 j' K3 HD=> ?_
  ·obtain⟨i,row,o9,FX,g1,g2,rfl,g4,rfl,HC,E5,s2,f2⟩:=j'
   have:=bF g1
   have Ia:M2.m M.next=some (.list (px.map dy)):=(f2.same _ EM (by exact ae 0x92600d14871c24940924c249104 rfl w M.next cc t hs) (by exact ae 0x92600d34871c24940924c249104 rfl w M.next cc t hs) (by exact ae 0x92600d44871c24940924c249104 rfl w M.next cc t hs)).trans hM
   refine⟨dR Ia,?_⟩
   and_intros
   refine aa (dw HC) ?_
   have G9:(M2.kill M'.next).m M.next=some (.list (px.map dy)):=(cA _ (by exact ae 0x92600d244249102 rfl M.next M'.next EM)).trans Ia
   simp only [G9]
   refine⟨by refine aa (PE _) ?_;refine aa e3.len ?_;unfold aq;exact ae 0x492161a814cfd2051481a1102 rfl h j hh e2,E7 _ _ ⟨j+1,px++[row],_,_,_,_,?_,by exact ae 0x90510614830614c249103 rfl h j m e6,?_,rfl,?_,?_,?_,?_⟩⟩
   ·refine aa e7 ?_;refine aa (show h-(j+1)=m by exact ae 0x90d30818524430614c249103 rfl h j m e6) ?_;rfl
   ·have all:∀r∈px++[row],r.length=W/\∀p∈r,p.length=c/\∀s∈p,s<2^b:=by
     intro r hr
     rcases Qq.mp hr with e|e
     ·exact⟨e3.row r e,λ p hp=>⟨e3.Ks r e p hp,e3.K0 r e p hp⟩⟩
     ·refine aa (PZ.mp e) ?_;exact⟨by exact ae 0x92434910e009148149102 rfl row.length W g2 this,g4⟩
    exact⟨by refine aa PH ?_;refine aa e3.len ?_;rfl,λ r hr=>(all r hr).1,λ r hr p hp=>((all r hr).2 p hp).1,λ r hr p hp=>((all r hr).2 p hp).2⟩
   ·refine aa (aF _ _ _) ?_;refine aa Qd ?_;rfl
   ·exact Nat.lt_trans EM E5
   ·exact((s2.mono (by exact ae 0x924104f8181fc18544c13e84813e0607f513051481a1104 rfl W row.length K j hw g2)).Eu (by exact ae 0x92498034550954871c24940924c249105 rfl w M.next cc t M'.next hs EM) (by exact ae 0x92498034d50954871c24940924c249105 rfl w M.next cc t M'.next hs EM) (by exact ae 0x92498035150954871c24940924c249105 rfl w M.next cc t M'.next hs EM)).En (by exact ae 0x92600d14871c24940924c249104 rfl w M.next cc t hs) (by exact ae 0x92600d34871c24940924c249104 rfl w M.next cc t hs) (by exact ae 0x92600d44871c24940924c249104 rfl w M.next cc t hs) _
   ·exact((f1.trans f2).Eu (by exact ae 0x905244249102 rfl M.next M'.next EM)).En (PC _) _
  ·obtain⟨i,row,o9,FX,g1,g2,rfl,g4,rfl,HC,E5,s2,f2⟩:=j'
   refine bz (ce g1) λ m2 g6 EL g7=> ?_;subst EL
   refine⟨dR HC,?_⟩
   refine ao (bU (by exact ae 0x90a1d07f38e44191101 rfl c hc)) ?_
   and_intros
   refine aa (PF _) ?_
   refine⟨by refine aa (ba _ _ _) ?_;unfold aq;exact ae 0x48386a0533f44191101 rfl c hc,?_⟩
   refine Ba s2 EX hb hc (by exact ae 0x9249249065807f04fa1504f8181fd44c14550525019401fd3068481a1105 rfl W h K j row.length hw hh hK e2 g2) rfl rfl rfl (λ zz=>rfl) (λ zz=>rfl) (λ zz=>rfl) λ p M3 Ov Hs s3 f3=> ?_
   and_intros
   have Ia:M3.m M'.next=some (.list (row.map cH)):=(f3.same _ E5 (by exact ae 0x92498034550954871c24940924c249105 rfl w M.next cc t M'.next hs EM) (by exact ae 0x92498034d50954871c24940924c249105 rfl w M.next cc t M'.next hs EM) (by exact ae 0x92498035150954871c24940924c249105 rfl w M.next cc t M'.next hs EM)).trans HC
   simp only [Ia]
   refine⟨by refine aa (PE _) ?_;unfold aq;exact ae 0x492161a814cfd2051481a1102 rfl W row.length hw g2,HD _ _ ⟨row.length+1,row++[p],_,_,?_,by exact ae 0x90510614830614c249103 rfl W row.length m2 g6,by simp,?_,rfl,?_,PI E5 f3.next,?_,?_⟩⟩
   ·refine aa g7 ?_;refine aa (show W-(row.length+1)=m2 by exact ae 0x90d30818524430614c249103 rfl W row.length m2 g6) ?_;rfl
   ·intro p' Fw
    rcases Qq.mp Fw with e|e
    ·exact g4 p' e
    ·refine aa (PZ.mp e) ?_;exact⟨Ov,Hs⟩
   ·refine aa (aF _ _ _) ?_;refine aa Qd ?_;rfl
   ·exact(s3.mono (by exact ae 0x104fa0185304f8181fd2441a013e84c13e0607f49103 rfl K j row.length)).En (by exact ae 0x92498034550954871c24940924c249105 rfl w M.next cc t M'.next hs EM) (by exact ae 0x92498034d50954871c24940924c249105 rfl w M.next cc t M'.next hs EM) (by exact ae 0x92498035150954871c24940924c249105 rfl w M.next cc t M'.next hs EM) _
   ·exact(f2.trans f3).En (PC _) _
end
theorem yg(s:Nat):QK (-(s:Int)) 8=((bg s:Nat):Int):=by
 refine aa (SX _ (by exact ae 0x4a2000 rfl)) ?_;unfold bg;lia
theorem wH:∀k T,fM (k+1) T=fM k T++[SH (T/256^k % 256)]:=by
 intro k
 induction k with
 |zero=>
  intro T
  refine aa (Ww _) ?_;refine aa (Nat.div_one _) ?_;rfl
 |succ k ih=>
  intro T
  refine aa (nA _ _) ?_;refine aa (ih _) ?_;refine aa (nA _ _) ?_;refine aa U4 ?_;refine aa (Q6 _ _ _) ?_;refine aa (Wx _ _) ?_;refine aa ((Ry (256^k)) _) ?_;rfl
noncomputable def nN(x:UInt8):V:=.int x.toNat
theorem yS(M:AH)(bs:List UInt8):mz M (.list (bs.map nN))=some bs:=by
 have h1:ints? (bs.map nN)=some (bs.map λ x=>(x.toNat:Int)):=by
  induction bs with
  |nil=>rfl
  |cons b bs ih=>refine aa PP ?_;rewrite[nN];refine aa (BK _ _) ?_;refine aa ih ?_;rfl
 have h2:dY (bs.map λ x=>(x.toNat:Int))=some bs:=by
  clear h1
  induction bs with
  |nil=>rfl
  |cons b bs ih=>
   refine aa PP ?_;refine aa (vn _ _) ?_;refine aa (if_pos ⟨by exact ae 0x10e46001 rfl b.toNat,by have:=b.toNat_lt;exact ae 0x2458201fce4428201fd101 rfl b.toNat this⟩) ?_;refine aa ih ?_;refine aa (PF _) ?_
   simp
 show((dc M (.list (bs.map nN))).bind λ vs=>(ints? vs).bind dY)=_
 refine aa (Eg _ _) ?_;refine aa (Q7 _ _) ?_;refine aa h1 ?_;refine aa (Q7 _ _) ?_;refine aa h2 ?_;rfl
noncomputable def kK(B:List UInt8):V:=.list ((33::B).map nN)
theorem wR(M:AH)(B:List UInt8):mz M (kK B)=some (33::B):=yS M _
theorem AR(h:(33::B).length+bs.length<=aq):gr .add (kK B) (.list (bs.map nN))=some (kK (B++bs)):=by
 unfold kK
 refine aa (Dg _ _) ?_;refine aa (PE _) ?_;refine aa (PE _) ?_;refine aa (if_pos h) ?_;refine aE Qd ?_;rfl
theorem re(b:Nat)(p q:List (List (List Nat))):bX b (p++q)=bX b p++bX b q:=by simp[bX]
theorem BA(h:k<=256):2^k<=cU:=T7 (by decide) h
theorem te{b:Nat}(h:∀s∈rr,s<2^b)(p:ss<+:rr)(hl:rr.length*b<=256):dC b ss<cU:=by
 obtain⟨x,rfl⟩:=p
 rw[PH,QT] at hl
 exact PI (vI λ s hs=>h s (TS _ hs)) (BA (by exact ae 0x9060807f4418201fc149102 rfl (ss.length*b) (x.length*b) hl))
section
variable{n:Nat}{W h b c:Nat}{M M':AH}{Q:V->AH->Prop}{X:AH->Prop}
inductive JL(b:Nat)(px:List (List (List Nat)))(M:AH)(rest:List V)(ρ:an)(M':AH):Prop
 |mk (done todo:List (List (List Nat))) (o3 o4 o5 o6 o7 o8 o9 FX:Option V) (e1:px=done++todo) (e2:rest=todo.map dy) (e3:ρ=[some (V.list (W1 dy px)),some (V.int ↑b),some (kK (bX b done)),o3,o4,o5,o6,o7,o8,o9,FX]) (p:Pu M M')
theorem oa(dm:ca px W h b c)(hw:W<=4)(hh:h<=8)(EX:1<=b)(hb:b<=16)(hc:c<=4)
  (q:∀M',Pu M M'->Q (.bytes (33::bX b px)) M'):ag ak (n+2) 66 [bk px,.int b] M Q X:=by
 unfold bk
 refine Ev lG rfl rfl rfl ?_
 refine cD (JL b px M) _
  ⟨[],px,_,_,_,_,_,_,_,_,rfl,rfl,rfl,.refl _⟩ (λ ρ M' j=> ?_) λ x xs ρ M' j K2 E7=> ?_
 ·obtain⟨done,todo,o3,o4,o5,o6,o7,o8,o9,FX,e1,e2,rfl,p⟩:=j
  have:todo=[]:=by simpa using e2
  subst this
  rw[Qa] at e1;subst e1
  refine ah (wR _ _) ?_
  exact q _ p
 ·obtain⟨done,todo,o3,o4,o5,o6,o7,o8,o9,FX,e1,e2,rfl,p⟩:=j
  cases todo with
  |nil=>cases e2
  |cons r todo=>
  cases e2
  have hr:r∈px:=by refine aa e1 ?_;simp
  obtain⟨KD,KC⟩:=dm.flat hr
  have KH:r.flatten.length*b<=256:=by
   refine aa KD ?_
   calc _<=4*4*16:=Qk (Qk hw hc) hb
    _=256:=rfl
  refine cD (λ rest ρ M2=>∃d Fp o4 FX,M2=M'/\r=d++Fp/\rest=Fp.map cH/\ρ=[some (V.list (W1 dy px)),some (V.int ↑b),some (kK (bX b done)),some (dy r),o4,o5,some (.int (dC b d.flatten:Nat)),o7,o8,some (.int ((d.flatten.length*b:Nat):Int)),FX]) _
   ⟨[],r,_,_,rfl,rfl,rfl,by refine aa List.flatten_nil ?_;refine aa Ru ?_;refine aa (Wu _) ?_;rfl⟩ (λ ρ M2 j=> ?_) λ x xs ρ M2 j K3 HD=> ?_
  ·refine B0 j λ d Fp o4 FX FE e3 e4 K7=> ?_;clear j;subst FE;subst K7
   have:Fp=[]:=by simpa using e4
   subst this
   rw[Qa] at e3;subst e3
   have hL:=te KC (Pz _) KH
   have Ma:cU=2^256:=rfl
   have Lr:bg (r.flatten.length*b)<=7:=by unfold bg;exact ae 0x9067487067483093a0148fa1103 rfl ((8-r.flatten.length*b % 8)/8) ((8-r.flatten.length*b % 8) % 8) (r.flatten.length*b % 8) (Bv _ 7)
   have h7:=ch Lr
   have hz:(r.flatten.length*b+bg (r.flatten.length*b))/8<=40:=by exact ae 0x249241a030ff4c70419cfa1305244105244fa130674818201fd103 rfl (r.flatten.length*b) (bg (r.flatten.length*b)) ((r.flatten.length*b+bg (r.flatten.length*b))/8) KH Lr (lO _ 7)
   have e8:cN b r.flatten=(fM ((r.flatten.length*b+bg (r.flatten.length*b))/8) (dC b r.flatten*2^bg (r.flatten.length*b))).reverse:=rfl
   generalize dC b r.flatten=TT at*
   and_intros
   refine aa (yg _) ?_
   have e9:QL (((r.flatten.length*b:Nat):Int)+((bg (r.flatten.length*b):Nat):Int)) 8=(((r.flatten.length*b+bg (r.flatten.length*b))/8:Nat):Int):=by
    refine aa (show(8:Int)=((8:Nat):Int) by rfl) ?_;refine aE (dW _ _) ?_;push_cast;rfl
   generalize (r.flatten.length*b+bg (r.flatten.length*b))/8=Z at*
   generalize bg (r.flatten.length*b)=mo at*
   refine ao ⟨by decide,by decide,by exact ae 0x10e46001 rfl mo,by exact ae 0x2448181fce4419d101 rfl mo Lr⟩ ?_
   refine aa (PF _) ?_;refine aa (oC _) ?_
   refine ao ⟨by refine aa (Qj _) ?_;exact ae 0x90b0007f442c001fd101 rfl TT hL,by refine aa (Qj _) ?_;exact ae 0x90b0007f44181c1fd101 rfl (2^mo) h7⟩ ?_
   and_intros
   refine aa e9 ?_
   refine ao (bU (by exact ae 0x2428741fce3910680c3fd101 rfl Z hz)) ?_
   refine aa (PF _) ?_
   refine⟨by refine aa (ba _ _ _) ?_;unfold aq;exact ae 0x120e1a814cfd10680c3fd101 rfl Z hz,?_⟩
   refine aa (show((TT:Nat):Int)*((2^mo:Nat):Int)=((TT*2^mo:Nat):Int) by push_cast;rfl) ?_
   refine cD (λ rest ρ M3=>∃k o8,rest=aZ (k:Nat) 1 (Z-k)/\k<=Z/\ρ=[some (V.list (W1 dy px)),some (V.int ↑b),some (kK (bX b done)),some (dy r),o4,some (.int mo),some (.int ((TT*2^mo/256^k:Nat):Int)),some (.ref M2.next),o8,some (.int ((r.flatten.length*b:Nat):Int)),FX]/\
     M3.m M2.next=some (.list ((fM k (TT*2^mo)).map nN))/\Pu M2 M3) _ ⟨0,_,rfl,by exact ae 0x146001 rfl Z,by refine aa (Ww _) ?_;refine aa (Nat.div_one _) ?_;rfl,bL _ _,.new _ _⟩ (λ ρ M3 j=> ?_) λ x xs ρ M3 j K3 HD=> ?_
   ·refine B3 j λ k o8 e5 e6 FE hM p3=> ?_;clear j;subst FE
    have:=bF e5
    obtain rfl:k=Z:=by exact ae 0x92434910e009148149102 rfl k Z e6 this
    have hl:=jD dm
    rw[e1,re,PH] at hl
    have hB:(W*c*b+7)/8*h<=100*8:=Qk (by have:=KD▸KH;exact ae 0x9241c8085fd21c10673e84819d10419d13e84818201fd102 rfl (W*c*b) ((W*c*b+7)/8) this (lO _ 7)) hh
    have Mp:dc M3 (.ref M2.next)=some ((fM k (TT*2^mo)).map nN):=by show(M3.m _).bind _=_;refine aa hM ?_;rfl
    have KU:=AR (B:=bX b done) (bs:=(fM k (TT*2^mo)).reverse) (by refine aa RN ?_;refine aa (iN _ _) ?_;refine aa PN ?_;unfold aq;lia)
    rw[U3] at KU
    refine ah Mp ?_
    refine ah KU ?_
    have Mo:bX b done++(fM k (TT*2^mo)).reverse=bX b (done++[r]):=by refine aa (re _ _ _) ?_;refine aE e8 ?_;refine aa (show bX b [r]=cN b r.flatten by simp[bX]) ?_;rfl
    refine aa Mo ?_
    exact E7 _ _ ⟨done++[r],todo,_,_,_,_,_,_,_,_,by simp[e1],rfl,rfl,p.trans p3⟩
   ·refine B3 j λ k o8 e5 e6 FE hM p3=> ?_;clear j;subst FE
    refine bz (ce e5) λ m e7 EL e8=> ?_;subst EL
    refine⟨dR hM,?_⟩
    and_intros
    simp only [hM]
    refine⟨by refine aa (PE _) ?_;refine aa (iN _ _) ?_;unfold aq;exact ae 0x1248586a0533f4814520680c3fd102 rfl Z k hz e6,?_⟩
    and_intros
    have Mn:QL ((TT*2^mo/256^k:Nat):Int) 256=((TT*2^mo/256^(k+1):Nat):Int):=by
     refine aa (show QL ((TT*2^mo/256^k:Nat):Int) 256=((TT*2^mo/256^k/256:Nat):Int) from dW _ 256) ?_;refine aa (Q6 _ _ _) ?_;refine aE (Wx _ _) ?_;rfl
    refine aa Mn ?_
    refine HD _ _ ⟨k+1,_,by refine aa e8 ?_;refine aa (show Z-(k+1)=m by exact ae 0x90d30818524430614c249103 rfl Z k m e7) ?_;rfl,by exact ae 0x90510614830614c249103 rfl Z k m e7,rfl,?_,p3.En (PC _) _⟩
    ·refine aa (aF _ _ _) ?_;refine aa (wH _ _) ?_;refine aa Qd ?_
     simp[nN]
     refine aa (show(256:Int)=((256:Nat):Int) by rfl) ?_;refine aa (SX _ (by exact ae 0x10e8201fe000 rfl)) ?_;rfl
  ·refine B0 j λ d Fp o4 FX FE e3 e4 K7=> ?_;clear j;subst FE;subst K7
   cases Fp with
   |nil=>cases e4
   |cons p0 Fp=>
   cases e4
   refine cD (λ rest ρ M3=>∃d2 t2 FX,M3=M2/\p0=d2++t2/\rest=t2.map (λ s:Nat=>V.int s)/\ρ=[some (V.list (W1 dy px)),some (V.int ↑b),some (kK (bX b done)),some (dy r),some (cH p0),o5,some (.int (dC b (d.flatten++d2):Nat)),o7,o8,some (.int (((d.flatten++d2).length*b:Nat):Int)),FX]) _
    ⟨[],p0,_,rfl,rfl,rfl,by refine aa (Qa _) ?_;rfl⟩ (λ ρ M3 j=> ?_) λ x xs ρ M3 j K4 O2=> ?_
   ·refine u9 j λ d2 t2 FX G4 e5 e6 IF=> ?_;clear j;subst G4;subst IF
    have:t2=[]:=by simpa using e6
    subst this
    rw[Qa] at e5;subst e5
    exact HD _ _ ⟨d++[p0],Fp,_,_,rfl,by simp[e3],rfl,by simp;exact⟨rfl,rfl⟩⟩
   ·refine u9 j λ d2 t2 FX G4 e5 e6 IF=> ?_;clear j;subst G4;subst IF
    cases t2 with
    |nil=>cases e6
    |cons s0 t2=>
    cases e6
    have hp:d.flatten++d2<+:r.flatten:=⟨(s0::t2)++Fp.flatten,by refine aa e3 ?_;refine aa e5 ?_;simp⟩
    have hL:=te KC hp KH
    have FM:2^b<=2^16:=ch hb
    have Ma:cU=2^256:=rfl
    refine ao ⟨by decide,by decide,by exact ae 0x10e46001 rfl b,by exact ae 0x2448181fce441c1101 rfl b hb⟩ ?_
    refine aa (PF _) ?_;refine aa (oC _) ?_
    refine ao ⟨by refine aa (Qj _) ?_;exact ae 0x90b0007f442c001fd101 rfl (dC b (d.flatten++d2)) hL,by refine aa (Qj _) ?_;exact ae 0x90b0007f4418401fd101 rfl (2^b) FM⟩ ?_
    and_intros
    have g1:((dC b (d.flatten++d2):Nat):Int)*((2^b:Nat):Int)+(s0:Int)=((dC b (d.flatten++(d2++[s0])):Nat):Int):=by
     refine aE (Td _ _ _) ?_;refine aa (mF _ _ _) ?_;push_cast;rfl
    have g2:(((d.flatten++d2).length*b:Nat):Int)+(b:Int)=(((d.flatten++(d2++[s0])).length*b:Nat):Int):=by
     refine aE (Td _ _ _) ?_;refine aa (PH (bs:=[s0])) ?_;refine aa (QT _ _ _) ?_;refine aa Sn ?_;refine aa (Rx _) ?_;push_cast;rfl
    refine aa g1 ?_;refine aa g2 ?_
    exact O2 _ _ ⟨d2++[s0],t2,_,rfl,by simp[e5],rfl,rfl⟩
end
noncomputable def n7(t:Int)(p:Nat):V:=.tup [.int (nd t p).1,.int (nd t p).2]
theorem rC(h:QK t 10=0):t=QL t 10*10:=by
 have:=Int.mul_fdiv_add_fmod t 10
 exact ae 0x924642a4931930513ea48681130 rfl (t.fmod 10) (t.fdiv 10) t h this
theorem CW:∀(p:Nat) (t:Int),(nd t p).2<=p/\(nd t p).1.natAbs<=t.natAbs:=by
 intro p
 induction p with
 |zero=>
  intro t
  exact⟨PC _,PC _⟩
 |succ p ihq=>
  intro t
  refine aa (uQ _ _) ?_
  split
  ·rename_i h
   have:=rC h
   have ih:=ihq (QL t 10)
   exact ae 0x924704e44e4c10614911c139239305244642a49132 rfl ((nd (t.fdiv 10) p).snd) p t (t.fdiv 10) ((nd (t.fdiv 10) p).fst) this ih
  ·exact⟨PC _,PC _⟩
theorem CX:∀(p:Nat) (t:Int),∃k,p=(nd t p).2+k/\t=(nd t p).1*10^k:=by
 intro p
 induction p with
 |zero=>
  intro t
  exact aA 0 rfl (by refine aa (U1 _) ?_;refine aa (SP _) ?_;rfl)
 |succ p ih=>
  intro t
  refine aa (uQ _ _) ?_
  split
  ·rename_i h
   refine ai (ih (QL t 10)) λ k e1 e2=> ?_
   refine aA (k+1) (ae 0x90c10614d206144305349103 rfl p ((nd (t.fdiv 10) p).snd) k e1) ?_
   refine aa (Int.pow_succ _ _) ?_;refine aE (UD _ _ _) ?_;refine aE e2 ?_
   exact rC h
  ·exact aA 0 rfl (by refine aa (U1 _) ?_;refine aa (SP _) ?_;rfl)
theorem yd(t:Int)(p:Nat):br (ej t p) (nd t p).1 (nd t p).2:=.dec _ _
structure d6(a:Int)(v:V)(t:Int)(p:Nat):Prop where
 num:br v t p
 p4:p<=4
 tb:t.natAbs<2^40
 ab:a.natAbs<2^40
 eq:a=t*10^(4-p)
theorem d6.dec(hp:p<=4)(ht:t.natAbs<2^20)(e:a=t*10^(4-p)):d6 a (ej t p) (nd t p).1 (nd t p).2:=by
 obtain⟨h1,h2⟩:=CW p t
 refine ai (CX p t) λ k e1 e2=> ?_
 refine⟨yd t p,ae 0x924191205148191102 rfl p ((nd t p).snd) hp h1,ae 0x92428a01fce4813913920a1407f39120 rfl t ((nd t p).fst) ht h2,?_,?_⟩
 ·refine aa e ?_
  have:=dp (a:=t) (b:=10^(4-p)) (x:=2^20) (y:=10^4) (ae 0x9061407f3910a1407f39110 rfl t ht) (i5 (ae 0x190246401 rfl p))
  exact ae 0x1214500fe7220ce2182bf39110 rfl (t*10^(4-p)) this
 ·refine aa e ?_;refine aa (show 4-(nd t p).2=k+(4-p) by exact ae 0x92430424644c24a40c14d244191103 rfl p ((nd t p).snd) k hp e1) ?_;refine aa (Xa _ _ _) ?_;refine aE (UD _ _ _) ?_;refine aE e2 ?_;rfl
section
variable{n:Nat}{w cc t K W h b c pl:Nat}{T:List V}{M M':AH}{Q:V->AH->Prop}{X:AH->Prop}
theorem oP(a:Int)(m:Nat)(hm:0<m):0<=QK a m/\QK a m<m:=by
 refine ai (tU a hm) λ r e h=> ?_
 exact ae 0x924714e49111180249118e45112 rfl r m (a.fmod ↑m) e h
theorem vS(s:aV w cc t K T M)(hK:K<=2^80)(q:∀a v tt p M',d6 a v tt p->aV w cc t (K+2) T M'->bh w cc t M M'->Q (.tup [.int a,v]) M'):ag ak (n+2) 68 [.ref w] M Q X:=by
 refine Ev m7 rfl rfl rfl ?_
 refine aX (m:=30001) s (by decide) (by decide) (ae 0x9066407f4419401fd101 rfl K hK) λ r M1 hr s1 f1=> ?_
 refine aX (m:=4) s1 (by decide) (by decide) (ae 0x9066407f0614419401fd101 rfl K hK) λ r2 M2 H1 s2 f2=> ?_
 have f:=f1.trans f2
 have hL:cU=2^256:=rfl
 have g3:0<=QK ((r:Int)-12000) 3/\QK ((r:Int)-12000) 3<3:=oP _ 3 (by decide)
 have g5:0<=QK ((r:Int)-12000) 5/\QK ((r:Int)-12000) 5<5:=oP _ 5 (by decide)
 refine⟨λ zz=> ?_,λ zz=> ?_⟩
 ·refine ao (ae 0x48e16000fe7050a216000ff38810afc716344446010 rfl (QK (SC r-Re 12000) (Re 3)) g3) ?_
  refine q _ _ _ _ _ ⟨.int _,by decide,ae 0x2428a01fce0a144716344446010 rfl (QK (r-12000) 3) g3,ae 0x4851403f9c7ce2042bf0a144716344446010 rfl (QK (r-12000) 3) g3,?_⟩ s2 f
  refine aa (TQ _ _) ?_;rfl
 ·refine⟨λ zz=> ?_,λ zz=> ?_⟩
  ·refine ao (ae 0x48e16000fe72216000ff3880cafc716544446010 rfl (QK (SC r-Re 12000) (Re 5)) g5) ?_
   refine ao (ae 0x2470b0007f3910b0007f94716544446010 rfl (QK (SC r-Re 12000) (Re 5)) g5) ?_
   refine aR (p:=1) λ M3 k3=> ?_
   refine q _ _ _ _ _ (d6.dec (by decide) (ae 0x2428501fce3e544716544446010 rfl (QK (r-12000) 5) g5) ?_) (s2.pu k3) (f.pu k3)
   refine aa (show(10:Int)^(4-1)=1000 from rfl) ?_;exact ae 0x321f4063fe7ca89f3880cafd110 rfl (QK (r-12000) 5)
  ·refine aR (p:=4) λ M3 k3=> ?_
   refine q _ _ _ _ _ (d6.dec (by decide) (ae 0x2428501fce0aee0527f3910ba98800ffd101 rfl r hr) ?_) (s2.pu k3) (f.pu k3)
   refine aa (UX _) ?_;refine aa (U1 _) ?_;refine aa (SP _) ?_;rfl
theorem Ac{b:Nat}(ha:a.natAbs<2^90)(hb:0<b)(Gr:b<2^90)(hp:pl<=9)(q:∀M',Pu M M'->Q (n7 (b8 a b pl) pl) M'):ag ak (n+2) 69 [.int a,.int b,.int pl] M Q X:=by
 have hL:cU=2^256:=rfl
 have h9:=j9 hp
 have h8:(10:Int)^(pl:Int).toNat=((10^pl:Nat):Int):=by refine aa (PF _) ?_;exact dj pl
 have h7:((10^pl:Nat):Int).natAbs=10^pl:=Qj _
 refine Ev lF rfl rfl rfl ?_
 refine ao (ae 0x91c2c001fce38e442c001fe20a5a07f39110 rfl a ha) ?_
 refine ao (ae 0x91c71c48181fce444391804c2a12a801a5101 rfl pl hp) ?_
 refine aa h8 ?_
 refine ao (ae 0x92470b0007f38e442c001fce3e238e441ee6b28255fd10a5a07f39111 rfl (10^pl) a ha h9) ?_
 refine ao (ae 0x91c2c001fce3910b0007f8829681fd101 rfl b Gr) ?_
 refine ao (ae 0x2491c2c001fce3e23912601a03e23910a5a07f44246001 rfl b hb Gr) ?_
 have e:∀x:Int,b8 a b pl=x->∀M3,Pu M M3->ag ak (n+1) 1 [ej x pl] M3 Q X:=λ x hx M3 k3=>by
  unfold ej
  refine fR ?_
  refine aE hx ?_;exact q _ k3
 refine⟨λ h=> ?_,λ h=> ?_⟩
 ·have h:=of_decide_eq_true h
  refine aR λ M3 k3=> ?_
  refine e _ ?_ _ k3
  unfold b8;refine aa (if_pos h) ?_;refine aa (dj _) ?_;rfl
 ·have h:=of_decide_eq_false h
  refine aR λ M3 k3=> ?_
  refine e _ ?_ _ k3
  unfold b8;refine aa (if_neg h) ?_;refine aa (dj _) ?_;rfl
theorem AB{p1 p2 b s:Nat}(hb:1<=b)(h1:d6 a1 v1 t1 p1)(h2:d6 a2 v2 t2 p2)(pl:Nat):
  b8 (a1*(((2^b-1:Nat):Int)-s)+a2*s) ((10000*(2^b-1):Nat):Int) pl=b8 (dA s b t1 t2 p1 p2) (dB b p1 p2) pl:=by
 have q1:=h1.p4
 have q2:=h2.p4
 have hk:0<(10:Int)^(4-max p1 p2):=by refine aa (dj _) ?_;have:=Si (a:=10) (n:=4-max p1 p2) (by decide);exact ae 0x24539180246001 rfl (10^(4-max p1 p2)) this
 have hB:0<(dB b p1 p2:Int):=by have:=rI (p1:=p1) (p2:=p2) hb;exact ae 0x24539180246001 rfl (dB b p1 p2) this
 refine aE ((qW hk _ hB) _) ?_
 congr 1
 ·unfold dA
  rewrite[h1.eq,h2.eq,Xb,show 4-p1=(4-max p1 p2)+(max p1 p2-p1) by exact ae 0x90c10920d14820d14a409290191102 rfl p2 p1 q2,show 4-p2=(4-max p1 p2)+(max p1 p2-p2) by exact ae 0x90c10920d24420d246409290191102 rfl p1 p2 q1,Xa,Xa]
  congr 1<;>ac_rfl
 ·unfold dB
  refine aa (dj _) ?_
  have:10000=10^(4-max p1 p2)*10^max p1 p2:=by refine aE (RO _ _ _) ?_;refine aa (show 4-max p1 p2+max p1 p2=4 by exact ae 0x92439010d24420d246406448191102 rfl p1 p2 q1 q2) ?_;rfl
  refine aa this ?_
  push_cast
  ac_rfl
theorem gz(d:ca px W h b c):px.map dy=(PQ h).map λ i=>.list ((PQ W).map λ j=>cH (bN px i j)):=by
 have:=fX d
 unfold bk aK at this
 exact(by injection this)
theorem gk(q:∀M',Pu M M'->Q (.inst 3 [hd,.bytes B]) M'):cK ak (ag ak (n+1)) 3 [hd,.bytes B] M Q X:=by
 unfold cK
 refine Ev kr rfl rfl rfl ?_
 refine ah (bL _ _) ?_
 and_intros
 refine ah (aF _ _ _) ?_
 and_intros
 refine aa (aF _ _ _) ?_
 exact cg rfl rfl (q _ (((Pu.new M _).En (PC _) _).En (PC _) _|>.Eu (PC _)))
theorem fQ(q:∀M',Pu M M'->Q (.inst 1 [a]) M'):cK ak (ag ak (n+1)) 1 [a] M Q X:=by
 unfold cK
 refine Ev m8 rfl rfl rfl ?_
 refine ah (bL _ _) ?_
 and_intros
 refine aa (aF _ _ _) ?_
 exact cg rfl rfl (q _ ((Pu.new M _).En (PC _) _|>.Eu (PC _)))
theorem iQ(h:M.m R=some (.Er ks vs)):bf M (.ref R)=(.dict ks vs,M.kill R):=by show((M.m R).bind mq).elim _ _=_;refine aa h ?_;rfl
theorem vX
  (s:aV w cc t K T M)(f0:bh w cc t M0 M)(EP:M0.next<=R)(EK:w<M0.next/\cc<M0.next/\t<M0.next)(hR:M.m R=some (.Er ks vs))(EZ:R<M.next)
  (hv:∀v∈vs,PV 3 v)(hk:ks.length=vs.length)(nd':ks.Nodup)(HE:ks.length<=15)(hc:aL vs<=20)(hl:T.length<=30)(hK:K<=2^70)
  (dm:ca px W h b 1)(hW:W<=4)(hh:h<=4)(EX:1<=b)(hb:b<=16)(hp:pl<=9)(h1:d6 a1 v1 t1 p1)(h2:d6 a2 v2 t2 p2)
  (q:∀xs T' M',aV w cc t (K+20) T' M'->bh w cc t M0 M'->T<+:T'->T'.length<=T.length+aL vs->aW (HV T') vs xs->(∀x∈xs,Ob 3 x)->
   Q (.tup [EG (.dict ks xs) px b,aK h W λ i j=>n7 (b8 (dA (bS px i j) b t1 t2 p1 p2) (dB b p1 p2) pl) pl]) M'):
  bq ak (ag ak (n+5)) (bC 6 dk.body) [some (.ref w),some (sh t),some (.int pl),c3,some (bk px),some (.ref R),c6,c7,some (.int b),r9,r10,some (.tup [.int a1,v1]),some (.tup [.int a2,v2]),F8,Jm,Kj,Ki] M N Q X:=by
 have hL:cU=2^256:=rfl
 have FM:2^b<=2^16:=ch hb
 have Mc:2^1<=2^b:=ch EX
 refine ao (ae 0x91c71c48181fce444391804c22122801c1101 rfl b hb) ?_
 and_intros
 refine aa (PF _) ?_;refine aa (uH _) ?_
 refine aa (gz dm) ?_
 refine dQ (h:=h) (w:=W) (g':=λ i j=>n7 (b8 (dA (bS px i j) b t1 t2 p1 p2) (dB b p1 p2) pl) pl) (ae 0x906844191101 rfl h hh) (ae 0x906844191101 rfl W hW) (λ i hi M1 k1 K1 Ib=> ?_) λ M1 k1=> ?_
 ·repeat infer_instance
  refine cb (n:=W) (g':=λ j=>n7 (b8 (dA (bS px i j) b t1 t2 p1 p2) (dB b p1 p2) pl) pl) (by unfold aq;exact ae 0x48386a0533f44191101 rfl W hW) (λ j hj M2 k2 K2 E7=> ?_) λ M2 k2=>Ib _ (k1.trans k2)
  have hs:=(dm.at_ hi hj)
  have FZ:bS px i j<2^b:=hs.2 _ (by unfold bS;refine aa P7 ?_;refine aa (PG (by lia)) ?_;exact QI _)
  refine aa (lc hs.1) ?_;refine aa (show(bN px i j).getD 0 0=bS px i j from rfl) ?_
  generalize bS px i j=sv at*
  have b1:=h1.ab
  have b2:=h2.ab
  have JW:=dp (a:=a1) (b:=((2^b-1:Nat):Int)-(sv:Int)) (x:=2^40) (y:=2^16) (ae 0x9062807f3910a2807f39110 rfl a1 b1) (ae 0x249061007f3823923828510914818401fd102 rfl (2^b) sv FM FZ)
  have FF:=dp (a:=a2) (b:=(sv:Int)) (x:=2^40) (y:=2^16) (ae 0x9062807f3910a2807f39110 rfl a2 b2) (ae 0x92418401fce3920914818401fd102 rfl (2^b) sv FM FZ)
  repeat infer_instance
  refine ao (ae 0x2492470b0007f3823923828510b0007f3910a2807f3910914818401fd112 rfl (2^b) sv a1 FM FZ b1) ?_
  refine ao (ae 0x92491c2c001fce3920b0007f3910a2807f3910914818401fd112 rfl (2^b) sv a2 FM FZ b2) ?_
  refine ao (ae 0x123858003f9c7050a216000ff38810afc18401fd101 rfl (2^b) FM) ?_
  refine aa (show(10000:Int)*((2^b-1:Nat):Int)=((10000*(2^b-1):Nat):Int) by push_cast;rfl) ?_
  refine Ac (ae 0x2490a5a07f381491063807f392063807f39120 rfl (a1*(SC (Re 2^b-Re 1)-SC sv)) (a2*SC sv) JW FF) (ae 0x1211f38810afc285180146201 rfl (2^b) Mc) (ae 0x1214b40fe7ce2042bf0a14418401fd101 rfl (2^b) FM) hp λ M3 k3=> ?_
  refine aa ((AB EX h1 h2) _) ?_
  exact E7 _ (k2.trans k3)
 ·and_intros
  refine aa (iQ ((k1.same _ EZ).trans hR)) ?_
  have sk:=(s.pu k1).Eu (i:=R) (ae 0x92498034d21c70915424540914c149105 rfl M0.next R w cc t EP EK) (ae 0x92498035121c70915424540914c149105 rfl M0.next R w cc t EP EK) (ae 0x92498035521c70915424540914c149105 rfl M0.next R w cc t EP EK)
  have fk:=(f0.pu k1).Eu EP
  refine oh (d:=3) (by decide) (by decide) sk hv hk nd' HE (ae 0x9241f8045fc145207e481d1102 rfl (aL vs) T.length hc hl) (ae 0x92419401fc1452064607f481d1102 rfl (aL vs) K hc hK) λ xs T' M2 s2 f2 p2 l2 a2 o2=> ?_
  refine oa dm hW (ae 0x906844191101 rfl h hh) EX hb (ae 0x192100 rfl) λ M3 k3=> ?_
  refine gk λ M4 k4=> ?_
  exact q xs T' M4 (((s2.pu k3).pu k4).mono (ae 0x9041d12051481d1102 rfl (aL vs) K hc)) (((fk.trans f2).pu k3).pu k4) p2 l2 a2 o2
end
section
variable{ks:List String}{vs:List V}{s s':String}{x:V}
theorem i3:∀{ks:List String} {vs:List V},ks.length=vs.length->ay (aI s x ks vs).1 (aI s x ks vs).2 s'=if s==s' then some x else ay ks vs s':=by
 intro ks
 induction ks with
 |nil=>
  intro y1
  cases y1 with
  |nil=>
   intro y2
   exact rfl
  |cons y3 y4=>
   intro h
   simp at h
 |cons k ks ihq=>
  intro y5
  cases y5 with
  |nil=>
   intro h
   simp at h
  |cons v vs=>
   intro h
   have ih:=ihq (vs:=vs) (by simpa using h)
   rewrite[fc]
   by_cases e:(k==s)=true
   ·refine aa (if_pos e) ?_
    rw[beq_iff_eq] at e;subst e
    show(if k==s' then some x else _)=_
    by_cases e2:(k==s')=true
    ·refine aa (if_pos e2) ?_;refine aa (if_pos e2) ?_;rfl
    ·refine aa (if_neg e2) ?_;refine aa (if_neg e2) ?_
     show _=if k==s' then _ else _
     refine aa (if_neg e2) ?_;rfl
   ·refine aa (if_neg e) ?_
    show(if k==s' then some v else ay (aI s x ks vs).1 (aI s x ks vs).2 s')=_
    refine aa ih ?_
    show _=if s==s' then _ else(if k==s' then some v else ay ks vs s')
    by_cases e2:(k==s')=true
    ·refine aa (if_pos e2) ?_
     have:¬(s==s')=true:=by
      rw[beq_iff_eq] at e2;subst e2
      intro h;rw[beq_iff_eq] at h;subst h;exact e (by simp)
     refine aa (if_neg this) ?_;refine aa (if_pos e2) ?_;rfl
    ·refine aa (if_neg e2) ?_;refine aa (if_neg e2) ?_;rfl
theorem Ap:∀{ks:List String} {vs:List V},ks.length=vs.length->(aI s x ks vs).1.length=(aI s x ks vs).2.length/\(aI s x ks vs).1.length<=ks.length+1:=by
 intro ks
 induction ks with
 |nil=>
  intro y1
  cases y1 with
  |nil=>
   intro y2
   exact⟨rfl,PC 1⟩
  |cons y3 y4=>
   intro h
   simp at h
 |cons k ks ihq=>
  intro y5
  cases y5 with
  |nil=>
   intro h
   simp at h
  |cons v vs=>
   intro h
   have ih:=ihq (vs:=vs) (by simpa using h)
   rewrite[fc]
   by_cases e:(k==s)=true
   ·refine aa (if_pos e) ?_;exact⟨h,by simp⟩
   ·refine aa (if_neg e) ?_
    simp only [PN] at*
    exact ae 0x91c10610614c18510c185206144704185344349103 rfl ((aI s x ks vs).fst.length) ((aI s x ks vs).snd.length) ks.length ih
theorem Ao:∀{ks:List String} {vs:List V} {y:String},ks.length=vs.length->y∈(aI s x ks vs).1->y=s∨y∈ks:=by
 intro ks
 induction ks with
 |nil=>
  intro y1
  cases y1 with
  |nil=>
   intro y y2 h
   exact .inl (by simpa[qI] using h)
  |cons y3 y4=>
   intro y h y5
   simp at h
 |cons k ks ih=>
  intro y6
  cases y6 with
  |nil=>
   intro y h y7
   simp at h
  |cons v vs=>
   intro y h hy
   rw[fc] at hy
   by_cases e:(k==s)=true
   ·rw[if_pos e] at hy;exact .inr hy
   ·rw[if_neg e] at hy
    rcases PS.mp hy with e2|e2
    ·exact .inr (by simp[e2])
    ·exact(ih (by simpa using h) e2).imp id λ h=>by simp[h]
theorem Bk:∀{ks:List String} {vs:List V},ks.length=vs.length->ks.Nodup->(aI s x ks vs).1.Nodup:=by
 intro ks
 induction ks with
 |nil=>
  intro y1
  cases y1 with
  |nil=>
   intro y2 y3
   simp[qI]
  |cons y4 y5=>
   intro h y6
   simp at h
 |cons k ks ih=>
  intro y7
  cases y7 with
  |nil=>
   intro h y8
   simp at h
  |cons v vs=>
   intro h nd
   rewrite[fc]
   by_cases e:(k==s)=true
   ·refine aa (if_pos e) ?_;exact nd
   ·refine aa (if_neg e) ?_
    rw[QH] at nd
    refine QH.mpr ⟨λ hm=> ?_,ih (by simpa using h) nd.2⟩
    rcases Ao (by simpa using h) hm with e2|e2
    ·subst e2;exact e (by simp)
    ·exact nd.1 e2
theorem Aq{P:V->Prop}(hx:P x):∀{ks:List String} {vs:List V},(∀v∈vs,P v)->∀v∈(aI s x ks vs).2,P v:=by
 intro ks
 induction ks with
 |nil=>
  intro vs y1 v h
  refine aa (PZ.mp h) ?_;exact hx
 |cons k ks ih=>
  intro y2
  cases y2 with
  |nil=>
   intro y3 v h
   refine aa (PZ.mp h) ?_;exact hx
  |cons u vs=>
   intro hv v h
   rw[fc] at h
   by_cases e:(k==s)=true
   ·rw[if_pos e] at h
    rcases PS.mp h with e2|e2
    ·refine aa e2 ?_;exact hx
    ·exact hv v (by simp[e2])
   ·rw[if_neg e] at h
    rcases PS.mp h with e2|e2
    ·refine aa e2 ?_;exact hv u (by simp)
    ·exact ih (λ y hy=>hv y (by simp[hy])) v e2
theorem xR:∀{ks:List String} {vs:List V},ks.length=vs.length->aL (aI s x ks vs).2<=aL vs+cq x:=by
 intro ks
 induction ks with
 |nil=>
  intro y1
  cases y1 with
  |nil=>
   intro y2
   simp[qI,jk,eZ]
  |cons y3 y4=>
   intro h
   simp at h
 |cons k ks ihq=>
  intro y5
  cases y5 with
  |nil=>
   intro h
   simp at h
  |cons v vs=>
   intro h
   have ih:=ihq (vs:=vs) (by simpa using h)
   rewrite[fc]
   by_cases e:(k==s)=true
   ·refine aa (if_pos e) ?_;simp only [eZ];exact ae 0x10510524c149103 rfl (cq x) (aL vs) (cq v)
   ·refine aa (if_neg e) ?_;simp only [eZ];exact ae 0x90414c149405150105349104 rfl (aL (aI s x ks vs).snd) (aL vs) (cq x) (cq v) ih
end
structure ft(d:Nat)(ks:List String)(vs:List V)(L C:Nat):Prop where
 len:ks.length=vs.length
 nd:ks.Nodup
 pv:∀v∈vs,PV d v
 most:ks.length<=L
 cst:aL vs<=C
theorem ft.put{ks:List String}{vs:List V}(h:ft d ks vs L C){x:V}(hx:PV d x)(s:String):ft d (aI s x ks vs).1 (aI s x ks vs).2 (L+1) (C+cq x):=by
 have h1:=Ap (s:=s) (x:=x) h.len
 have h2:=xR (s:=s) (x:=x) h.len
 have h3:=h.most
 have h4:=h.cst
 exact⟨h1.1,Bk h.len h.nd,Aq hx h.pv,ae 0x92410615110544c704185344349104 rfl ((aI s x ks vs).fst.length) ((aI s x ks vs).snd.length) ks.length L h1 h3,ae 0x924105351105448105349104 rfl (aL (aI s x ks vs).snd) (aL vs) (cq x) C h2 h4⟩
theorem ft.mono{ks:List String}{vs:List V}(h:ft d ks vs L C)(hL:L<=L')(hC:C<=C'):ft d ks vs L' C':=⟨h.len,h.nd,h.pv,PO h.most hL,PO h.cst hC⟩
theorem bV{ks:List String}{vs:List V}{s:String}{x:V}(h:ks.length<=100):dL (.Er ks vs) (.str s) x=some (.Er (aI s x ks vs).1 (aI s x ks vs).2):=by
 exact if_pos (by unfold aq;exact ae 0x48386a0533f441c8085fd101 rfl ks.length h)
theorem PV.int(hd:2<=d)(i:Int):PV d (.int i):=.inr ⟨λ zz h=>(by cases h),trivial,(jf i).mono hd⟩
theorem PV.bool(hd:2<=d)(b:Bool):PV d (.bool b):=.inr ⟨λ zz h=>(by cases h),trivial,(oJ b).mono hd⟩
theorem PV.name(hd:2<=d)(a:String):PV d (.inst 1 [.str a]):=.inr ⟨λ zz h=>(by cases h),(show(1:Nat)≠4 by decide),(Az a).mono hd⟩
theorem d6.ob(h:d6 a v t p):Ob 2 v/\NR v:=by
 have:=h.num
 cases this with
 |int=>exact⟨jf _,trivial⟩
 |dec=>exact⟨wx _ _,(show(0:Nat)≠4 by decide)⟩
theorem jI{T T2:List V}(h:T<+:T2){vs xs:List V}(a:aW (HV T) vs xs):aW (HV T2) vs xs:=a.mono λ zz zz r=>r.mono h
theorem lS{T:List V}:∀{ps:List V},aW (λ y p=>Bh T y p/\NR p) ps [v,u]->∃x y,ps=[x,y]/\Bh T x v/\Bh T y u
 |[x,y],h=>⟨x,y,rfl,h.1.1,h.2.1.1⟩
 |[],h=>h.elim
 |[_],h=>h.2.elim
 |_::_::_::_,h=>h.2.2.elim
def D5(b:Nat):Prop:=b=1∨b=2∨b=4∨b=8∨b=16
structure ly(ks:List String)(vs:List V)(W h:V)(b:V)(v u:V):Prop where
 wd:ay ks vs "Width" =some W
 ht:ay ks vs "Height" =some h
 bp:ay ks vs "BitsPerComponent" =some b
 im:ay ks vs "ImageMask" =none
 de:(ay ks vs "Decode" =none/\v=.int 0/\u=.int 1)∨ay ks vs "Decode" =some (.list [v,u])
section
variable{n:Nat}{w cc t K W h b c pl:Nat}{T:List V}{ks:List String}{vs xs:List V}{px:List (List (List Nat))}{v u:V}{a1 a2 t1 t2:Int}{p1 p2:Nat}{M M':AH}{Q:V->AH->Prop}{X:AH->Prop}
theorem bw(i:Int):∀ps,V.int i≠.list ps:=λ zz h=>by cases h
theorem d9(i:Bool):∀ps,V.bool i≠.list ps:=λ zz h=>by cases h
theorem qC{W h b:V}(a:aW (HV T) vs xs)(k:ly ks vs W h b v u):nV T (.dict ks xs) v u:=by
 rcases k.de with⟨h,e1,e2⟩|h
 ·exact .inl ⟨fV a h,e1,e2⟩
 ·refine ai (jm a h) λ ps h2 h3=> ?_
  refine kO (lS h2) λ x y EL hx hy=> ?_;subst EL
  exact .inr ⟨x,y,h3,hx,hy⟩
theorem qB(a:aW (HV T) vs xs)(k:ly ks vs (.int W) (.int h) (.int b) v u)(hW:1<=W)(hh:1<=h)(hb:D5 b):fD T (.dict ks xs) W h b:=
 ⟨aQ a k.wd (bw _),aQ a k.ht (bw _),hW,hh,.inr ⟨.none,fV a k.im,aQ a k.bp (bw _),hb,λ h=>by cases h⟩⟩
theorem vY(a:aW (HV T) vs xs)(k:ly ks vs (.int W) (.int h) (.int b) v u)(e1:d6 a1 v t1 p1)(e2:d6 a2 u t2 p2)(dm:ca px W h b 1)(hW:1<=W)(hh:1<=h)(hb:D5 b)(hW8:W<=8)(hh8:h<=8)(hp:pl<=9):
  iH t T 59 [sh t,EG (.dict ks xs) px b,.fn 67,.int pl] (aK h W λ i j=>ej (b8 (dA (bS px i j) b t1 t2 p1 p2) (dB b p1 p2) pl) pl):=
 λ n M Q X hT q=>Aa hT (qB a k hW hh hb) (qC a k) e1.num e2.num e1.tb e2.tb e1.p4 e2.p4 hp dm hW8 hh8 q
theorem xJ(r:Nat)(hl:ks.length=vs.length)(k:ly ks vs (.int W) (.int h) (.int b) v u)(e1:d6 a1 v t1 p1)(e2:d6 a2 u t2 p2)(dm:ca px W h b 1)(hW:1<=W)(hh:1<=h)(hb:D5 b)(hW8:W<=8)(hh8:h<=7)
  {s:String}(hs:(s= "Width" /\x=.int 0)∨(s= "Height" /\x=.int ((h+1:Nat):Int))∨(s= "BitsPerComponent" /\x=.int 3)∨(s= "Decode" /\x=.list [.int 0,.int 1,.int 1])∨(s= "Decode" /\x=.list [.int 0,.bool true])∨(s= "Width" /\x=.bool true))
  (a:aW (HV T) (aI s x ks vs).2 xs):kU t T 59 [sh t,EG (.dict (aI s x ks vs).1 xs) px b,.fn 67,.int pl]:=by
 intro n M Q X hT q
 have g:=λ s'=>i3 (s:=s) (x:=x) (s':=s') hl
 rcases hs with⟨rfl,rfl⟩|⟨rfl,rfl⟩|⟨rfl,rfl⟩|⟨rfl,rfl⟩|⟨rfl,rfl⟩|⟨rfl,rfl⟩
 ·exact jO hT (aQ a (g "Width") (bw _)) (.inr ⟨0,rfl,by decide⟩) (q _ (.refl _))
 ·have k':ly (aI "Height" (.int ((h+1:Nat):Int)) ks vs).1 (aI "Height" (.int ((h+1:Nat):Int)) ks vs).2 (.int W) (.int ((h+1:Nat):Int)) (.int b) v u:=
   ⟨(g "Width").trans k.wd,g "Height",(g "BitsPerComponent").trans k.bp,(g "ImageMask").trans k.im,k.de.imp (λ⟨x,y⟩=>⟨(g "Decode").trans x,y⟩) λ x=>(g "Decode").trans x⟩
  exact n8 hT (qB a k' hW (ae 0x106146101 rfl h) hb) (qC a k') e1.num e2.num dm hW8 (Rb _) (ae 0x90680614419d101 rfl h hh8) q
 ·exact pI hT (aQ a ((g "Width").trans k.wd) (bw _)) hW (aQ a ((g "Height").trans k.ht) (bw _)) hh (fV a ((g "ImageMask").trans k.im)) (aQ (v:=.int ((3:Nat):Int)) a (g "BitsPerComponent") (bw _)) (by decide) (by decide) (q _ (.refl _))
 ·have f:fD T (.dict (aI "Decode" (.list [.int 0,.int 1,.int 1]) ks vs).1 xs) W h b:=
   ⟨aQ a ((g "Width").trans k.wd) (bw _),aQ a ((g "Height").trans k.ht) (bw _),hW,hh,.inr ⟨.none,fV a ((g "ImageMask").trans k.im),aQ a ((g "BitsPerComponent").trans k.bp) (bw _),hb,λ h=>by cases h⟩⟩
  refine ai (jm a (g "Decode")) λ ps h2 h3=> ?_
  exact sz hT f h3 (by refine aa h2.len ?_;decide) q
 ·have f:fD T (.dict (aI "Decode" (.list [.int 0,.bool true]) ks vs).1 xs) W h b:=
   ⟨aQ a ((g "Width").trans k.wd) (bw _),aQ a ((g "Height").trans k.ht) (bw _),hW,hh,.inr ⟨.none,fV a ((g "ImageMask").trans k.im),aQ a ((g "BitsPerComponent").trans k.bp) (bw _),hb,λ h=>by cases h⟩⟩
  refine ai (jm a (g "Decode")) λ ps h2 h3=> ?_
  refine kO (lS h2) λ x y EL hx hy=> ?_;subst EL
  exact qs hT f h3 hx hy (.int 0) q
 ·exact jO hT (aQ a (g "Width") (d9 _)) (.inl ⟨true,rfl⟩) (q _ (.refl _))
end
theorem gH(r:Nat):(1:Int)+(r:Int)=((1+r:Nat):Int):=by push_cast;rfl
theorem CT(M:AH)(r:Nat)(hr:r<5):∃b:Nat,D5 b/\eh M (.tup [.int 8,.int 1,.int 2,.int 4,.int 16]) (.int r)=some (.int b):=by
 match r,hr with
 |0,_=>exact aA 8 (.inr (.inr (.inr (.inl rfl)))) rfl
 |1,_=>exact aA 1 (.inl rfl) rfl
 |2,_=>exact aA 2 (.inr (.inl rfl)) rfl
 |3,_=>exact aA 4 (.inr (.inr (.inl rfl))) rfl
 |4,_=>exact aA 16 (.inr (.inr (.inr (.inr rfl)))) rfl
theorem D5.le(h:D5 b):1<=b/\b<=16:=by unfold D5 at h;exact ae 0x91c1c11051848208203c110e84439110e244385101 rfl b h
section
variable{n:Nat}{w cc t K W h b c pl:Nat}{T:List V}{ks:List String}{vs xs:List V}{px:List (List (List Nat))}{v u:V}{M M':AH}{Q:V->AH->Prop}{X:AH->Prop}
theorem sE(s:aV w cc t K T M)(hl:T.length<=20)(hK:K<=2^60)(hp:pl<=9)
  (q:∀fs W h (f:Nat->Nat->Int) T' M',aV w cc t (K+3000) T' M'->bh w cc t M M'->T<+:T'->T'.length<=T.length+20->Ob 5 (.inst 3 fs)->1<=W->W<=8->1<=h->h<=8->
   (bad=false->∀T2,T'<+:T2->iH t T2 59 [sh t,.inst 3 fs,.fn 67,.int pl] (aK h W λ i j=>ej (f i j) pl))->
   (bad=true->∀T2,T'<+:T2->kU t T2 59 [sh t,.inst 3 fs,.fn 67,.int pl])->Q (.tup [.inst 3 fs,aK h W λ i j=>n7 (f i j) pl]) M'):
  ag ak (n+6) 70 [.ref w,sh t,.int pl,.bool bad] M Q X:=by
 have EK:=s.lt
 refine Ev dk rfl rfl rfl ?_
 refine aX (m:=5) s (by decide) (by decide) (ae 0x9066407f4418f01fd101 rfl K hK) λ r M1 hr s1 f1=> ?_
 refine ai (CT M1 r hr) λ b hb H0=> ?_
 have Fo:=hb.le
 refine ah H0 ?_
 refine aX (m:=3) s1 (by decide) (by decide) (ae 0x9066407f0614418f01fd101 rfl K hK) λ r2 M2 H1 s2 f2=> ?_
 refine aX (m:=3) s2 (by decide) (by decide) (ae 0x9066407f0610614418f01fd101 rfl K hK) λ r3 M3 Je s3 f3=> ?_
 and_intros
 refine aa (gH _) ?_;refine aa (gH _) ?_
 have hW:1<=1+r2/\1+r2<=3:=ae 0x91c18c14610414618428d101 rfl r2 H1
 have hh:1<=1+r3/\1+r3<=3:=ae 0x91c18c14610414618428d101 rfl r3 Je
 generalize 1+r2=W at*
 generalize 1+r3=h at*
 refine kf (c:=1) s3 (ae 0x906844706344146101 rfl W hW) (ae 0x906844706344146101 rfl h hh) Fo.1 Fo.2 (by decide) (ae 0x9065007f0610610614418f01fd101 rfl K hK) λ px M4 dm s4 f4=> ?_
 have Kf:=((f1.trans f2).trans f3).trans f4
 clear f1 f2 f3 f4 s1 s2 s3
 have bm:∀{ks:List String} {vs:List V} {a1 a2 t1 t2:Int} {v1 v2:V} {p1 p2:Nat} {M5:AH} {R:Nat} {c7 c6 F8 Jm Kj Ki:Option V},aV w cc t (K+1010) T M5->bh w cc t M M5->M.next<=R->R<M5.next->M5.m R=some (.Er ks vs)->ft 3 ks vs 6 9->
   ly ks vs (.int W) (.int h) (.int b) v1 v2->d6 a1 v1 t1 p1->d6 a2 v2 t2 p2->
   bq ak (ag ak (n+5)) (bC 5 dk.body) [some (.ref w),some (sh t),some (.int pl),some (.bool bad),some (bk px),some (.ref R),c6,c7,some (.int b),some (.int W),some (.int h),some (.tup [.int a1,v1]),some (.tup [.int a2,v2]),F8,Jm,Kj,Ki] M5 (λ _ M'=>Q .none M') Q X:=by
  intro ks vs a1 a2 t1 t2 v1 v2 p1 p2 M5 R c7 c6 F8 Jm Kj Ki s5 f5 EP EZ hR pn sk e1 e2
  have hd:∀{F6:List String} {FD:List V} {M6:AH} {F8 Jm:Option V},aV w cc t (K+1020) T M6->bh w cc t M M6->R<M6.next->M6.m R=some (.Er F6 FD)->ft 3 F6 FD 7 13->
    (∀xs T',aW (HV T') FD xs->(bad=false->iH t T' 59 [sh t,EG (.dict F6 xs) px b,.fn 67,.int pl] (aK h W λ i j=>ej (b8 (dA (bS px i j) b t1 t2 p1 p2) (dB b p1 p2) pl) pl))/\
     (bad=true->kU t T' 59 [sh t,EG (.dict F6 xs) px b,.fn 67,.int pl]))->
    bq ak (ag ak (n+5)) (bC 6 dk.body) [some (.ref w),some (sh t),some (.int pl),some (.bool bad),some (bk px),some (.ref R),c6,c7,some (.int b),some (.int W),some (.int h),some (.tup [.int a1,v1]),some (.tup [.int a2,v2]),F8,Jm,Kj,Ki] M6 (λ _ M'=>Q .none M') Q X:=by
   intro F6 FD M6 F8 Jm s6 f6 EZ hR Gf gb
   refine vX s6 f6 EP EK hR EZ Gf.pv Gf.len Gf.nd (PO Gf.most (by decide)) (PO Gf.cst (by decide)) (ae 0x907e441d1101 rfl T.length hl) (ae 0x4832303f83fe0223f4418f01fd101 rfl K hK) dm (ae 0x906444706344146101 rfl W hW) (ae 0x906444706344146101 rfl h hh) Fo.1 Fo.2 hp e1 e2 λ xs T' M7 s7 f7 p7 l7 a7 o7=> ?_
   refine q _ W h _ T' M7 (s7.mono (ae 0x83770193fa20e80ff8088fd101 rfl K)) f7 p7 (PO l7 (by have:=Gf.cst;exact ae 0x9041d12051481b5102 rfl (aL FD) T.length this)) ?_ hW.1 (ae 0x906844706344146101 rfl W hW) hh.1 (ae 0x906844706344146101 rfl h hh) (λ EQ T2 h2=>(gb xs T2 (jI h2 a7)).1 EQ) λ EQ T2 h2=>(gb xs T2 (jI h2 a7)).2 EQ
   exact kD (lg o7 (by refine aa Gf.len ?_;refine aa a7.len ?_;rfl) (by have:=Gf.most;exact ae 0x90a0607f4419d101 rfl F6.length this) (by decide)) (by decide)
  refine⟨λ EQ=> ?_,λ EQ=> ?_⟩
  ·refine aX (m:=6) s5 (by decide) (by decide) (ae 0x9066407f07f20127f4418f01fd101 rfl K hK) λ r M6 hr s6 f6=> ?_
   have HM:M6.m R=some (.Er ks vs):=(f6.same _ EZ (by(rename_i z0 z1;exact ae 0x92498034550554871c24940924c249105 rfl w M.next cc t R EK EP)) (by(rename_i z0 z1;exact ae 0x92498034d50554871c24940924c249105 rfl w M.next cc t R EK EP)) (by(rename_i z0 z1;exact ae 0x92498035150554871c24940924c249105 rfl w M.next cc t R EK EP))).trans hR
   have GC:R<M6.next:=PI EZ f6.next
   have G5:ks.length<=100:=PO pn.most (by decide)
   have fin:∀(key:String) (x:V),PV 3 x->cq x<=4->((key= "Width" /\x=.int 0)∨(key= "Height" /\x=.int ((h+1:Nat):Int))∨(key= "BitsPerComponent" /\x=.int 3)∨(key= "Decode" /\x=.list [.int 0,.int 1,.int 1])∨(key= "Decode" /\x=.list [.int 0,.bool true])∨(key= "Width" /\x=.bool true))->
     bq ak (ag ak (n+5)) (bC 6 dk.body) [some (.ref w),some (sh t),some (.int pl),some (.bool bad),some (bk px),some (.ref R),c6,c7,some (.int b),some (.int W),some (.int h),some (.tup [.int a1,v1]),some (.tup [.int a2,v2]),some (.str key),some x,Kj,Ki] (M6.set R (.Er (aI key x ks vs).1 (aI key x ks vs).2)) (λ _ M'=>Q .none M') Q X:=by
    intro key x hx hc hs
    refine hd ((s6.mono (by(rename_i z0 z1;exact ae 0x83fe0223f441841fc8049fd101 rfl K))).En (by(rename_i z0 z1;exact ae 0x92498034550554871c24940924c249105 rfl w M.next cc t R EK EP)) (by(rename_i z0 z1;exact ae 0x92498034d50554871c24940924c249105 rfl w M.next cc t R EK EP)) (by(rename_i z0 z1;exact ae 0x92498035150554871c24940924c249105 rfl w M.next cc t R EK EP)) _) ((f5.trans f6).En EP _) GC (aF _ _ _) ((pn.put hx key).mono (by decide) (by(rename_i z0 z1;exact ae 0x906d051a4191101 rfl (cq x) hc))) λ xs T' a=>⟨λ h=> ?_,λ _=>xJ r pn.len sk e1 e2 dm hW.1 hh.1 hb (by(rename_i z0 z1 z2;exact ae 0x906844706344146101 rfl W hW)) (by(rename_i z0 z1 z2;exact ae 0x906744706344146101 rfl h hh)) hs a⟩
    rw[EQ] at h;cases h
   have MD:∀{ps:List V},ps.length<=20->(∀p∈ps,Ob 2 p/\NR p)->PV 3 (.list ps):=λ h1 h2=>.inl ⟨_,rfl,h1,h2⟩
   match r,hr with
   |0,_=>and_intros;refine ah HM ?_;refine ah (bV G5) ?_;exact fin "Width" (.int 0) (PV.int (by decide) _) (by decide) (.inl ⟨rfl,rfl⟩)
   |1,_=>and_intros;refine ah HM ?_;refine ah (bV G5) ?_;exact fin "Height" (.int ((h+1:Nat):Int)) (PV.int (by decide) _) (show 1<=4 by decide) (.inr (.inl ⟨rfl,rfl⟩))
   |2,_=>and_intros;refine ah HM ?_;refine ah (bV G5) ?_;exact fin "BitsPerComponent" (.int 3) (PV.int (by decide) _) (by decide) (.inr (.inr (.inl ⟨rfl,rfl⟩)))
   |3,_=>and_intros;refine ah HM ?_;refine ah (bV G5) ?_;exact fin "Decode" (.list [.int 0,.int 1,.int 1]) (MD (by decide) λ p hp=>by simp at hp;rcases hp with rfl|rfl<;>exact⟨jf _,trivial⟩) (by decide) (.inr (.inr (.inr (.inl ⟨rfl,rfl⟩))))
   |4,_=>and_intros;refine ah HM ?_;refine ah (bV G5) ?_;exact fin "Decode" (.list [.int 0,.bool true]) (MD (by decide) λ p hp=>by simp at hp;rcases hp with rfl|rfl<;>first|exact⟨jf _,trivial⟩|exact⟨oJ _,trivial⟩) (by decide) (.inr (.inr (.inr (.inr (.inl ⟨rfl,rfl⟩)))))
   |5,_=>and_intros;refine ah HM ?_;refine ah (bV G5) ?_;exact fin "Width" (.bool true) (PV.bool (by decide) _) (by decide) (.inr (.inr (.inr (.inr (.inr ⟨rfl,rfl⟩)))))
  ·refine hd (s5.mono (ae 0x83fe0223f441fc8049fd101 rfl K)) f5 EZ hR (pn.mono (by decide) (by decide)) λ xs T' a=>⟨λ _=>vY a sk e1 e2 dm hW.1 hh.1 hb (ae 0x906844706344146101 rfl W hW) (ae 0x906844706344146101 rfl h hh) hp,λ h=> ?_⟩
   rw[EQ] at h;cases h
 refine fQ λ M5 k5=> ?_
 refine fQ λ M6 k6=> ?_
 refine fj rfl (by decide) (by decide) ?_
 have s6:=((s4.pu k5).pu k6).pu (Pu.new M6 (.Er ["Subtype","Width","Height","ColorSpace","BitsPerComponent"] [.inst 1 [.str "Image"],.int W,.int h,.inst 1 [.str "DeviceGray"],.int b]))
 have f6:=((Kf.pu k5).pu k6).pu (Pu.new M6 (.Er ["Subtype","Width","Height","ColorSpace","BitsPerComponent"] [.inst 1 [.str "Image"],.int W,.int h,.inst 1 [.str "DeviceGray"],.int b]))
 have Hh:M.next<=M6.next:=((Kf.pu k5).pu k6).next
 have pn:ft 3 ["Subtype","Width","Height","ColorSpace","BitsPerComponent"] [.inst 1 [.str "Image"],.int W,.int h,.inst 1 [.str "DeviceGray"],.int b] 5 5:=
  ⟨rfl,by decide,λ v hv=>by simp at hv;rcases hv with rfl|rfl|rfl|rfl|rfl<;>first|exact PV.int (by decide) _|exact PV.name (by decide) _,by decide,PC 5⟩
 refine aX (m:=4) s6 (by decide) (by decide) (ae 0x2419901fc1fa031ff0610610614418f01fd101 rfl K hK) λ r M7 hr s7 f7=> ?_
 have GF:=(f7.same _ (b6 _ _) (by(rename_i z0 z1;exact ae 0x92498034550554871c24940924c249105 rfl w M.next cc t M6.next EK Hh)) (by(rename_i z0 z1;exact ae 0x92498034d50554871c24940924c249105 rfl w M.next cc t M6.next EK Hh)) (by(rename_i z0 z1;exact ae 0x92498035150554871c24940924c249105 rfl w M.next cc t M6.next EK Hh))).trans (bL M6 _)
 have FU:M6.next<M7.next:=PI (b6 _ _) f7.next
 refine⟨λ _=> ?_,λ _=> ?_⟩
 ·refine vS s7 (by(rename_i z0 z1 z2;exact ae 0x2419401fc1841fa031ff0610610614418f01fd101 rfl K hK)) λ a1 v1 t1 p1 M8 e1 s8 f8=> ?_
  refine vS s8 (by(rename_i z0 z1 z2;exact ae 0x2419401fc1881841fa031ff0610610614418f01fd101 rfl K hK)) λ a2 v2 t2 p2 M9 e2 s9 f9=> ?_
  have Ml:=f8.trans f9
  refine ah ((Ml.same _ FU (by(rename_i z0 z1 z2;exact ae 0x92498034550554871c24940924c249105 rfl w M.next cc t M6.next EK Hh)) (by(rename_i z0 z1 z2;exact ae 0x92498034d50554871c24940924c249105 rfl w M.next cc t M6.next EK Hh)) (by(rename_i z0 z1 z2;exact ae 0x92498035150554871c24940924c249105 rfl w M.next cc t M6.next EK Hh))).trans GF) ?_
  refine ah (bV (by decide)) ?_
  have o1:=e1.ob
  have o2:=e2.ob
  have pd:PV 3 (.list [v1,v2]):=.inl ⟨_,rfl,(show 2<=20 by decide),λ p hp=>by simp at hp;rcases hp with rfl|rfl<;>assumption⟩
  exact bm ((s9.mono (by(rename_i z0 z1 z2;exact ae 0x41fc8049fd106206206107e80c7fc184184185101 rfl K))).En (by(rename_i z0 z1 z2;exact ae 0x92498034550554871c24940924c249105 rfl w M.next cc t M6.next EK Hh)) (by(rename_i z0 z1 z2;exact ae 0x92498034d50554871c24940924c249105 rfl w M.next cc t M6.next EK Hh)) (by(rename_i z0 z1 z2;exact ae 0x92498035150554871c24940924c249105 rfl w M.next cc t M6.next EK Hh)) _) ((f6.trans (f7.trans Ml)).En Hh _) Hh (PI FU Ml.next) (aF _ _ _) ((pn.put pd "Decode").mono (by decide) (show 5+3<=9 by decide))
   ⟨rfl,rfl,rfl,rfl,.inr rfl⟩ e1 e2
 ·exact bm (s7.mono (by(rename_i z0 z1 z2;exact ae 0x41fc8049fd106107e80c7fc184184185101 rfl K))) (f6.trans f7) Hh FU GF (pn.mono (by decide) (by decide)) ⟨rfl,rfl,rfl,rfl,.inl ⟨rfl,rfl,rfl⟩⟩ (a1:=0) (a2:=10000) ⟨.int 0,by decide,by decide,by decide,rfl⟩ ⟨.int 1,by decide,by decide,by decide,rfl⟩
end
structure zL(v u:V)(low p:Nat)(t2:Int):Prop where
 nv:br v (low:Int) 0
 nu:br u t2 0
 m:eJ (lr low t2 0 0) ls=some true
 hp:p=if low=0 then 0 else 1
structure sn(ks:List String)(vs:List V)(W h:Nat)(v u:V):Prop where
 im:ay ks vs "ImageMask" =some (.bool true)
 wd:ay ks vs "Width" =some (.int W)
 ht:ay ks vs "Height" =some (.int h)
 bp:ay ks vs "BitsPerComponent" =none∨ay ks vs "BitsPerComponent" =some (.int 1)
 de:(ay ks vs "Decode" =none/\v=.int 0/\u=.int 1)∨ay ks vs "Decode" =some (.list [v,u])
section
variable{n:Nat}{w cc t K W h b c p low:Nat}{T:List V}{ks:List String}{vs xs:List V}{px:List (List (List Nat))}{v u:V}{t2:Int}{M M':AH}{Q:V->AH->Prop}{X:AH->Prop}
theorem qk(a:aW (HV T) vs xs)(k:sn ks vs W h v u):nV T (.dict ks xs) v u:=by
 rcases k.de with⟨h,e1,e2⟩|h
 ·exact .inl ⟨fV a h,e1,e2⟩
 ·refine ai (jm a h) λ ps h2 h3=> ?_
  refine kO (lS h2) λ x y EL hx hy=> ?_;subst EL
  exact .inr ⟨x,y,h3,hx,hy⟩
theorem qj(a:aW (HV T) vs xs)(k:sn ks vs W h v u)(hW:1<=W)(hh:1<=h):fD T (.dict ks xs) W h 1:=by
 refine⟨aQ a k.wd (bw _),aQ a k.ht (bw _),hW,hh,?_⟩
 rcases k.bp with e|e
 ·exact .inl ⟨.bool true,aQ a k.im (d9 _),rfl,fV a e,rfl⟩
 ·exact .inr ⟨.bool true,aQ a k.im (d9 _),aQ (v:=.int ((1:Nat):Int)) a e (bw _),.inl rfl,λ zz=>rfl⟩
theorem z8(a:aW (HV T) vs xs)(k:sn ks vs W h v u)(e:zL v u low p t2)(dm:ca px W h 1 1)(hW:1<=W)(hh:1<=h)(hW8:W<=8)(hh8:h<=8):
  iH t T 58 [sh t,EG (.dict ks xs) px 1,.fn 67] (aK h W λ i j=>.bool (bS px i j==p)):=
 λ n M Q X hT q=>ut hT (aQ a k.im (d9 _)) rfl (qj a k hW hh) (qk a k) e.nv e.nu e.m e.hp dm hW8 hh8 q
def Dr(h:Nat)(s:String)(x:V):Prop:=(s= "ImageMask" /\x=.bool false)∨(s= "BitsPerComponent" /\x=.int 2)∨(s= "Decode" /\x=.list [.int 0,ej 5 1])∨(s= "Decode" /\x=.list [.int 1,.int 1])∨(s= "Height" /\x=.int ((h+1:Nat):Int))∨(s= "ImageMask" /\x=.int 1)
theorem A9(hl:ks.length=vs.length)(k:sn ks vs W h v u)(e:zL v u low p t2)(dm:ca px W h 1 1)(hW:1<=W)(hh:1<=h)(hW8:W<=8)(hh8:h<=7)
  (hs:Dr h s x)(a:aW (HV T) (aI s x ks vs).2 xs):kU t T 58 [sh t,EG (.dict (aI s x ks vs).1 xs) px 1,.fn 67]:=by
 intro n M Q X hT q
 have g:=λ s'=>i3 (s:=s) (x:=x) (s':=s') hl
 have two:∀{v' u':V} {i:Int} {j:Nat} {i2:Int} {j2:Nat},s= "Decode" ->x=.list [v',u']->br v' i j->br u' i2 j2->eJ (lr i i2 j j2) ls=some false->ag ak (n+7) 58 [sh t,EG (.dict (aI s x ks vs).1 xs) px 1,.fn 67] M Q X:=by
  intro v' u' i j i2 j2 hs hx n1 n2 hm
  subst hs hx
  have k':sn (aI "Decode" (.list [v',u']) ks vs).1 (aI "Decode" (.list [v',u']) ks vs).2 W h v' u':=
   ⟨(g "ImageMask").trans k.im,(g "Width").trans k.wd,(g "Height").trans k.ht,k.bp.imp (λ x=>(g "BitsPerComponent").trans x) λ x=>(g "BitsPerComponent").trans x,.inr (g "Decode")⟩
  exact mL hT (aQ a k'.im (d9 _)) rfl (qj a k' hW hh) (qk a k') n1 n2 hm q
 rcases hs with⟨rfl,rfl⟩|⟨rfl,rfl⟩|⟨h1,h2⟩|⟨h1,h2⟩|⟨rfl,rfl⟩|⟨rfl,rfl⟩
 ·exact jR hT (aQ a (g "ImageMask") (d9 _)) rfl (q _ (.refl _))
 ·exact lV hT (aQ a ((g "ImageMask").trans k.im) (d9 _)) rfl (aQ a ((g "Width").trans k.wd) (bw _)) hW (aQ a ((g "Height").trans k.ht) (bw _)) hh (aQ (v:=.int ((2:Nat):Int)) a (g "BitsPerComponent") (bw _)) (by decide) (by decide) (q _ (.refl _))
 ·exact two h1 h2 (.int 0) (.dec 5 1) rfl
 ·exact two h1 h2 (.int 1) (.int 1) rfl
 ·have k':sn (aI "Height" (.int ((h+1:Nat):Int)) ks vs).1 (aI "Height" (.int ((h+1:Nat):Int)) ks vs).2 W (h+1) v u:=
   ⟨(g "ImageMask").trans k.im,(g "Width").trans k.wd,g "Height",k.bp.imp (λ x=>(g "BitsPerComponent").trans x) λ x=>(g "BitsPerComponent").trans x,k.de.imp (λ⟨x,y⟩=>⟨(g "Decode").trans x,y⟩) λ x=>(g "Decode").trans x⟩
  exact lA hT (aQ a k'.im (d9 _)) rfl (qj a k' hW (ae 0x106146101 rfl h)) (qk a k') e.nv e.nu e.m dm hW8 (Rb _) (ae 0x90680614419d101 rfl h hh8) q
 ·exact jR hT (aQ a (g "ImageMask") (bw _)) rfl (q _ (.refl _))
theorem BL(s p:Nat):((s:Int)==(p:Int))=(s==p):=xm s p
theorem z7
  (s:aV w cc t K T M)(f0:bh w cc t M0 M)(EP:M0.next<=R)(EK:w<M0.next/\cc<M0.next/\t<M0.next)(hR:M.m R=some (.Er ks vs))(EZ:R<M.next)
  (Im:p=if((2:Int)==(wy:Int)||((4:Int)==(wy:Int)||false))=true then 1 else 0)
  (hv:∀v∈vs,PV 3 v)(hk:ks.length=vs.length)(nd':ks.Nodup)(HE:ks.length<=15)(hc:aL vs<=20)(hl:T.length<=30)(hK:K<=2^70)
  (dm:ca px W h 1 1)(hW:W<=4)(hh:h<=4)
  (q:∀xs T' M',aV w cc t (K+20) T' M'->bh w cc t M0 M'->T<+:T'->T'.length<=T.length+aL vs->aW (HV T') vs xs->(∀x∈xs,Ob 3 x)->
   Q (.tup [EG (.dict ks xs) px 1,aK h W λ i j=>.tup [.int (if bS px i j==p then 1 else 0),.int 0]]) M'):
  bq ak (ag ak (n+5)) (bC 7 bx.body) [some (.ref w),some (sh t),c2,some (bk px),some (.ref R),some (.int wy),c6,c7,c8,c9,Hc,Hb,Hj,F8] M N Q X:=by
 have go:∀{c6:Option V},bq ak (ag ak (n+5)) (bC 8 bx.body) [some (.ref w),some (sh t),c2,some (bk px),some (.ref R),some (.int wy),some (.int p),c7,c8,c9,Hc,Hb,Hj,F8] M N Q X:=by
  intro _
  and_intros
  refine aa (gz dm) ?_
  refine dQ (h:=h) (w:=W) (g':=λ i j=>.tup [.int (if bS px i j==p then 1 else 0),.int 0]) (ae 0x906844191101 rfl h hh) (ae 0x906844191101 rfl W hW) (λ i hi M1 k1 K1 Ib=> ?_) λ M1 k1=> ?_
  ·repeat infer_instance
   refine cb (n:=W) (g':=λ j=>.tup [.int (if bS px i j==p then 1 else 0),.int 0]) (by unfold aq;exact ae 0x48386a0533f44191101 rfl W hW) (λ j hj M2 k2 K2 E7=> ?_) λ M2 k2=>Ib _ (k1.trans k2)
   refine aa (lc (dm.at_ hi hj).1) ?_;refine aa (show(bN px i j).getD 0 0=bS px i j from rfl) ?_
   and_intros
   refine aa (BL _ _) ?_
   exact E7 _ k2
  ·and_intros
   refine aa (iQ ((k1.same _ EZ).trans hR)) ?_
   have sk:=(s.pu k1).Eu (i:=R) (ae 0x92498034d21c70915424540914c149105 rfl M0.next R w cc t EP EK) (ae 0x92498035121c70915424540914c149105 rfl M0.next R w cc t EP EK) (ae 0x92498035521c70915424540914c149105 rfl M0.next R w cc t EP EK)
   have fk:=(f0.pu k1).Eu EP
   refine oh (d:=3) (by decide) (by decide) sk hv hk nd' HE (ae 0x9241f8045fc145207e481d1102 rfl (aL vs) T.length hc hl) (ae 0x92419401fc1452064607f481d1102 rfl (aL vs) K hc hK) λ xs T' M2 s2 f2 p2 l2 a2 o2=> ?_
   refine oa dm hW (ae 0x906844191101 rfl h hh) (by decide) (by decide) (ae 0x192100 rfl) λ M3 k3=> ?_
   refine gk λ M4 k4=> ?_
   exact q xs T' M4 (((s2.pu k3).pu k4).mono (ae 0x9041d12051481d1102 rfl (aL vs) K hc)) (((fk.trans f2).pu k3).pu k4) p2 l2 a2 o2
 refine⟨λ e=> ?_,λ e=> ?_⟩
 ·rw[if_pos e] at Im;subst Im;exact go (c6:=none)
 ·rw[if_neg (by refine aa e ?_;decide)] at Im;subst Im;exact go (c6:=none)
end
section
variable{n:Nat}{w cc t K W h b c:Nat}{T:List V}{ks:List String}{vs xs:List V}{px:List (List (List Nat))}{v u:V}{M M':AH}{Q:V->AH->Prop}{X:AH->Prop}
theorem PV.list(h1:ps.length<=20)(h2:∀p∈ps,Ob 2 p/\NR p):PV 3 (.list ps):=.inl ⟨_,rfl,h1,h2⟩
theorem nK(i:Int)(p:Nat):Ob 2 (ej i p)/\NR (ej i p):=⟨wx _ _,(show(0:Nat)≠4 by decide)⟩
theorem iW{a b:V}(h1:Ob 2 a/\NR a)(h2:Ob 2 b/\NR b):PV 3 (.list [a,b]):=PV.list (show 2<=20 by decide) λ p hp=>by simp at hp;rcases hp with rfl|rfl<;>assumption
theorem ed(i:Int):Ob 2 (.int i)/\NR (.int i):=⟨jf _,trivial⟩
theorem n9(s:aV w cc t K T M)(hl:T.length<=20)(hK:K<=2^60)
  (q:∀fs W h (f:Nat->Nat->Bool) T' M',aV w cc t (K+3000) T' M'->bh w cc t M M'->T<+:T'->T'.length<=T.length+20->Ob 5 (.inst 3 fs)->1<=W->W<=8->1<=h->h<=8->
   (bad=false->∀T2,T'<+:T2->iH t T2 58 [sh t,.inst 3 fs,.fn 67] (aK h W λ i j=>.bool (f i j)))->
   (bad=true->∀T2,T'<+:T2->kU t T2 58 [sh t,.inst 3 fs,.fn 67])->Q (.tup [.inst 3 fs,aK h W λ i j=>.tup [.int (if f i j then 1 else 0),.int 0]]) M'):
  ag ak (n+6) 71 [.ref w,sh t,.bool bad] M Q X:=by
 have EK:=s.lt
 refine Ev bx rfl rfl rfl ?_
 refine aX (m:=4) s (by decide) (by decide) (ae 0x9066407f4418f01fd101 rfl K hK) λ r2 M2 H1 s2 f2=> ?_
 refine aX (m:=3) s2 (by decide) (by decide) (ae 0x9066407f0614418f01fd101 rfl K hK) λ r3 M3 Je s3 f3=> ?_
 and_intros
 refine aa (gH _) ?_;refine aa (gH _) ?_
 have hW:1<=1+r2/\1+r2<=4:=ae 0x91c190146104146184291101 rfl r2 H1
 have hh:1<=1+r3/\1+r3<=3:=ae 0x91c18c14610414618428d101 rfl r3 Je
 generalize 1+r2=W at*
 generalize 1+r3=h at*
 refine kf (b:=1) (c:=1) s3 (ae 0x906844706444146101 rfl W hW) (ae 0x906844706344146101 rfl h hh) (by decide) (by decide) (by decide) (ae 0x9065007f0610614418f01fd101 rfl K hK) λ px M4 dm s4 f4=> ?_
 have Kf:=(f2.trans f3).trans f4
 clear f2 f3 f4 s2 s3
 have bm:∀{ks:List String} {vs:List V} {v1 v2:V} {low p:Nat} {t2:Int} {wy:Nat} {M5:AH} {R:Nat} {c6 c7 Hc Hb Hj F8:Option V},aV w cc t (K+1010) T M5->bh w cc t M M5->M.next<=R->R<M5.next->M5.m R=some (.Er ks vs)->ft 3 ks vs 6 9->
   sn ks vs W h v1 v2->zL v1 v2 low p t2->p=(if((2:Int)==(wy:Int)||((4:Int)==(wy:Int)||false))=true then 1 else 0)->
   bq ak (ag ak (n+5)) (bC 6 bx.body) [some (.ref w),some (sh t),some (.bool bad),some (bk px),some (.ref R),some (.int wy),c6,c7,some (.int W),some (.int h),Hc,Hb,Hj,F8] M5 (λ zz M'=>Q .none M') Q X:=by
  intro ks vs v1 v2 low p t2 wy M5 R c6 c7 Hc Hb Hj F8 s5 f5 EP EZ hR pn sk e Im
  have hd:∀{F6:List String} {FD:List V} {M6:AH} {Hc Hb:Option V},aV w cc t (K+1020) T M6->bh w cc t M M6->R<M6.next->M6.m R=some (.Er F6 FD)->ft 3 F6 FD 7 13->
    (∀xs T',aW (HV T') FD xs->(bad=false->iH t T' 58 [sh t,EG (.dict F6 xs) px 1,.fn 67] (aK h W λ i j=>.bool (bS px i j==p)))/\
     (bad=true->kU t T' 58 [sh t,EG (.dict F6 xs) px 1,.fn 67]))->
    bq ak (ag ak (n+5)) (bC 7 bx.body) [some (.ref w),some (sh t),some (.bool bad),some (bk px),some (.ref R),some (.int wy),c6,c7,some (.int W),some (.int h),Hc,Hb,Hj,F8] M6 (λ zz M'=>Q .none M') Q X:=by
   intro F6 FD M6 Hc Hb s6 f6 EZ hR Gf gb
   refine z7 s6 f6 EP EK hR EZ Im Gf.pv Gf.len Gf.nd (PO Gf.most (by decide)) (PO Gf.cst (by decide)) (ae 0x907e441d1101 rfl T.length hl) (ae 0x4832303f83fe0223f4418f01fd101 rfl K hK) dm (ae 0x906444706444146101 rfl W hW) (ae 0x906444706344146101 rfl h hh) λ xs T' M7 s7 f7 p7 l7 a7 o7=> ?_
   refine q _ W h (λ i j=>bS px i j==p) T' M7 (s7.mono (ae 0x83770193fa20e80ff8088fd101 rfl K)) f7 p7 (PO l7 (by have:=Gf.cst;exact ae 0x9041d12051481b5102 rfl (aL FD) T.length this)) ?_ hW.1 (ae 0x906844706444146101 rfl W hW) hh.1 (ae 0x906844706344146101 rfl h hh) (λ EQ T2 h2=>(gb xs T2 (jI h2 a7)).1 EQ) λ EQ T2 h2=>(gb xs T2 (jI h2 a7)).2 EQ
   exact kD (lg o7 (by refine aa Gf.len ?_;refine aa a7.len ?_;rfl) (by have:=Gf.most;exact ae 0x90a0607f4419d101 rfl F6.length this) (by decide)) (by decide)
  refine⟨λ EQ=> ?_,λ EQ=> ?_⟩
  ·have fin:∀{M6:AH} (key:String) (x:V),aV w cc t (K+1015) T M6->bh w cc t M M6->R<M6.next->M6.m R=some (.Er ks vs)->PV 3 x->cq x<=4->Dr h key x->
     aB (dL (.Er ks vs) (.str key) x) λ o=>bq ak (ag ak (n+5)) (bC 7 bx.body) [some (.ref w),some (sh t),some (.bool bad),some (bk px),some (.ref R),some (.int wy),c6,c7,some (.int W),some (.int h),some (.str key),some x,Hj,F8] (M6.set R o) (λ zz M'=>Q .none M') Q X:=by
    intro M6 key x s6 f6 GC HM hx hc hs
    refine ah (bV (PO pn.most (by decide))) ?_
    refine hd ((s6.mono (ae 0x107fc0447e883fb800afd101 rfl K)).En (ae 0x92498034550554871c24940924c249105 rfl w M.next cc t R EK EP) (ae 0x92498034d50554871c24940924c249105 rfl w M.next cc t R EK EP) (ae 0x92498035150554871c24940924c249105 rfl w M.next cc t R EK EP) _) (f6.En EP _) GC (aF _ _ _) ((pn.put hx key).mono (by decide) (ae 0x906d051a4191101 rfl (cq x) hc)) λ xs T' a=>⟨λ h=> ?_,λ zz=>A9 pn.len sk e dm hW.1 hh.1 (ae 0x906844706444146101 rfl W hW) (ae 0x906744706344146101 rfl h hh) hs a⟩
    rw[EQ] at h;cases h
   refine aR (p:=1) λ M6 k6=> ?_
   refine aX (m:=6) (s5.pu k6) (by decide) (by decide) (ae 0x9066407f07f20127f4418f01fd101 rfl K hK) λ r M7 hr s7 f7=> ?_
   have Iz:=k6.KQ.trans f7
   have GF:M7.m R=some (.Er ks vs):=(Iz.same _ EZ (ae 0x92498034550554871c24940924c249105 rfl w M.next cc t R EK EP) (ae 0x92498034d50554871c24940924c249105 rfl w M.next cc t R EK EP) (ae 0x92498035150554871c24940924c249105 rfl w M.next cc t R EK EP)).trans hR
   have FU:R<M7.next:=PI EZ Iz.next
   match r,hr with
   |0,_=>and_intros;refine ah GF ?_;exact fin "ImageMask" (.bool false) (s7.mono (ae 0x20fee002bf441841fc8049fd101 rfl K)) (f5.trans Iz) FU GF (PV.bool (by decide) _) (by decide) (.inl ⟨rfl,rfl⟩)
   |1,_=>and_intros;refine ah GF ?_;exact fin "BitsPerComponent" (.int 2) (s7.mono (ae 0x20fee002bf441841fc8049fd101 rfl K)) (f5.trans Iz) FU GF (PV.int (by decide) _) (by decide) (.inr (.inl ⟨rfl,rfl⟩))
   |2,_=>and_intros;refine ah GF ?_;exact fin "Decode" (.list [.int 0,ej 5 1]) (s7.mono (ae 0x20fee002bf441841fc8049fd101 rfl K)) (f5.trans Iz) FU GF (iW (ed _) (nK _ _)) (show 3<=4 by decide) (.inr (.inr (.inl ⟨rfl,rfl⟩)))
   |3,_=>and_intros;refine ah GF ?_;exact fin "Decode" (.list [.int 1,.int 1]) (s7.mono (ae 0x20fee002bf441841fc8049fd101 rfl K)) (f5.trans Iz) FU GF (iW (ed _) (ed _)) (show 3<=4 by decide) (.inr (.inr (.inr (.inl ⟨rfl,rfl⟩))))
   |4,_=>and_intros;refine ah GF ?_;exact fin "Height" (.int ((h+1:Nat):Int)) (s7.mono (ae 0x20fee002bf441841fc8049fd101 rfl K)) (f5.trans Iz) FU GF (PV.int (by decide) _) (show 1<=4 by decide) (.inr (.inr (.inr (.inr (.inl ⟨rfl,rfl⟩)))))
   |5,_=>and_intros;refine ah GF ?_;exact fin "ImageMask" (.int 1) (s7.mono (ae 0x20fee002bf441841fc8049fd101 rfl K)) (f5.trans Iz) FU GF (PV.int (by decide) _) (by decide) (.inr (.inr (.inr (.inr (.inr ⟨rfl,rfl⟩)))))
  ·refine hd (s5.mono (ae 0x83fe0223f441fc8049fd101 rfl K)) f5 EZ hR (pn.mono (by decide) (by decide)) λ xs T' a=>⟨λ zz=>z8 a sk e dm hW.1 hh.1 (ae 0x906844706444146101 rfl W hW) (ae 0x906844706344146101 rfl h hh),λ h=> ?_⟩
   rw[EQ] at h;cases h
 have way:∀{ks:List String} {vs:List V} {M5:AH} {R:Nat} {c5 c6 c7 Hc Hb Hj F8:Option V},aV w cc t (K+1005) T M5->bh w cc t M M5->M.next<=R->R<M5.next->M5.m R=some (.Er ks vs)->ft 3 ks vs 5 6->
   ay ks vs "ImageMask" =some (.bool true)->ay ks vs "Width" =some (.int W)->ay ks vs "Height" =some (.int h)->(ay ks vs "BitsPerComponent" =none∨ay ks vs "BitsPerComponent" =some (.int 1))->ay ks vs "Decode" =none->
   bq ak (ag ak (n+5)) (bC 4 bx.body) [some (.ref w),some (sh t),some (.bool bad),some (bk px),some (.ref R),c5,c6,c7,some (.int W),some (.int h),Hc,Hb,Hj,F8] M5 (λ zz M'=>Q .none M') Q X:=by
  intro ks vs M5 R c5 c6 c7 Hc Hb Hj F8 s5 f5 EP EZ hR pn g1 g2 g3 g4 g5
  refine aX (m:=5) s5 (by decide) (by decide) (ae 0x120cc80fe0fda002bf4418f01fd101 rfl K hK) λ r M6 hr s6 f6=> ?_
  have HM:M6.m R=some (.Er ks vs):=(f6.same _ EZ (ae 0x92498034550554871c24940924c249105 rfl w M.next cc t R EK EP) (ae 0x92498034d50554871c24940924c249105 rfl w M.next cc t R EK EP) (ae 0x92498035150554871c24940924c249105 rfl w M.next cc t R EK EP)).trans hR
  have GC:R<M6.next:=PI EZ f6.next
  have g:=λ x s'=>i3 (s:= "Decode") (x:=x) (s':=s') pn.len
  have put:∀{M7:AH} {wy low p:Nat} {v1 v2:V} {t2:Int} {c6 c7 Hc Hb Hj F8:Option V},Pu M6 M7->PV 3 (.list [v1,v2])->zL v1 v2 low p t2->p=(if((2:Int)==(wy:Int)||((4:Int)==(wy:Int)||false))=true then 1 else 0)->
    aB (M7.m R) λ o=>aB (dL o (.str "Decode") (.list [v1,v2])) λ o=>bq ak (ag ak (n+5)) (bC 6 bx.body) [some (.ref w),some (sh t),some (.bool bad),some (bk px),some (.ref R),some (.int wy),c6,c7,some (.int W),some (.int h),Hc,Hb,Hj,F8] (M7.set R o) (λ zz M'=>Q .none M') Q X:=by
   intro M7 wy low p v1 v2 t2 c6 c7 Hc Hb Hj F8 k7 hx e Im
   refine ah ((k7.same _ GC).trans HM) ?_
   refine ah (bV (PO pn.most (by decide))) ?_
   exact bm (((s6.pu k7).mono (ae 0x20fe4024fe883083f6800afd101 rfl K)).En (ae 0x92498034550554871c24940924c249105 rfl w M.next cc t R EK EP) (ae 0x92498034d50554871c24940924c249105 rfl w M.next cc t R EK EP) (ae 0x92498035150554871c24940924c249105 rfl w M.next cc t R EK EP) _) (((f5.trans f6).pu k7).En EP _) EP (PI GC k7.next) (aF _ _ _) ((pn.put hx "Decode").mono (by decide) (show 6+3<=9 by decide))
    ⟨(g _ "ImageMask").trans g1,(g _ "Width").trans g2,(g _ "Height").trans g3,g4.imp (λ x=>(g _ "BitsPerComponent").trans x) λ x=>(g _ "BitsPerComponent").trans x,.inr (g _ "Decode")⟩ e Im
  match r,hr with
  |0,_=>
   repeat infer_instance
   exact bm (p:=0) (wy:=0) (s6.mono (ae 0x20fe4024fe883083f6800afd101 rfl K)) (f5.trans f6) EP GC HM (pn.mono (by decide) (by decide)) ⟨g1,g2,g3,g4,.inl ⟨g5,rfl,rfl⟩⟩ ⟨.int 0,.int 1,rfl,rfl⟩ rfl
  |1,_=>
   repeat infer_instance
   refine aR (p:=0) λ M7 k7=> ?_
   refine aR (p:=1) λ M8 k8=> ?_
   refine aR (p:=0) λ M9 k9=> ?_
   exact put (p:=0) (low:=0) (wy:=1) ((k7.trans k8).trans k9) (iW (ed 0) (ed 1)) ⟨.int 0,.int 1,rfl,rfl⟩ rfl
  |2,_=>
   repeat infer_instance
   refine aR (p:=0) λ M7 k7=> ?_
   refine aR (p:=1) λ M8 k8=> ?_
   refine aR (p:=0) λ M9 k9=> ?_
   exact put (p:=1) (low:=1) (wy:=2) ((k7.trans k8).trans k9) (iW (ed 1) (ed 0)) ⟨.int 1,.int 0,rfl,rfl⟩ rfl
  |3,_=>
   repeat infer_instance
   refine aR (p:=0) λ M7 k7=> ?_
   refine aR (p:=1) λ M8 k8=> ?_
   refine aR (p:=0) λ M9 k9=> ?_
   exact put (p:=0) (low:=0) (wy:=3) ((k7.trans k8).trans k9) (iW (nK 0 0) (nK 10 1)) ⟨.dec 0 0,.dec 1 0,rfl,rfl⟩ rfl
  |4,_=>
   repeat infer_instance
   refine aR (p:=0) λ M7 k7=> ?_
   refine aR (p:=1) λ M8 k8=> ?_
   refine aR (p:=0) λ M9 k9=> ?_
   exact put (p:=1) (low:=1) (wy:=4) ((k7.trans k8).trans k9) (iW (nK 1 0) (ed 0)) ⟨.dec 1 0,.int 0,rfl,rfl⟩ rfl
 refine fj rfl (by decide) (by decide) ?_
 have NP:=s4.pu (Pu.new M4 (.Er ["ImageMask","Width","Height"] [.bool true,.int W,.int h]))
 have NC:=Kf.pu (Pu.new M4 (.Er ["ImageMask","Width","Height"] [.bool true,.int W,.int h]))
 have G9:=Kf.next
 have pn:ft 3 ["ImageMask","Width","Height"] [.bool true,.int W,.int h] 3 3:=
  ⟨rfl,by decide,λ v hv=>by simp at hv;rcases hv with rfl|rfl|rfl<;>first|exact PV.int (by decide) _|exact PV.bool (by decide) _,by decide,PC 3⟩
 refine aX (m:=2) NP (by decide) (by decide) (ae 0x2419901fc1fa031ff0610614418f01fd101 rfl K hK) λ r M5 hr s5 f5=> ?_
 have Nu:=(f5.same _ (b6 _ _) (ae 0x92498034550554871c24940924c249105 rfl w M.next cc t M4.next EK G9) (ae 0x92498034d50554871c24940924c249105 rfl w M.next cc t M4.next EK G9) (ae 0x92498035150554871c24940924c249105 rfl w M.next cc t M4.next EK G9)).trans (bL M4 _)
 have J4:M4.next<M5.next:=PI (b6 _ _) f5.next
 refine⟨λ zz=> ?_,λ zz=> ?_⟩
 ·refine ah Nu ?_
  refine ah (bV (by decide)) ?_
  exact way ((s5.mono (ae 0x83f6800afd106107e80c7fc184185101 rfl K)).En (ae 0x92498034550554871c24940924c249105 rfl w M.next cc t M4.next EK G9) (ae 0x92498034d50554871c24940924c249105 rfl w M.next cc t M4.next EK G9) (ae 0x92498035150554871c24940924c249105 rfl w M.next cc t M4.next EK G9) _) ((NC.trans f5).En G9 _) G9 J4 (aF _ _ _) ((pn.put (PV.int (by decide) 1) "BitsPerComponent").mono (by decide) (show 3+1<=6 by decide)) rfl rfl rfl (.inr rfl) rfl
 ·exact way (s5.mono (ae 0x83f6800afd106107e80c7fc184185101 rfl K)) (NC.trans f5) G9 J4 Nu (pn.mono (by decide) (by decide)) rfl rfl rfl (.inl rfl) rfl
end
noncomputable def b5:List (Nat×Nat)->List Nat
 |[]=>[]
 |e::r=>e.1::e.2::b5 r
noncomputable def nq(p:List Nat)(es:List (Nat×Nat))(k:Nat):Bool:=decide ((es.getD k (0,0)).1<=p.getD k 0)&&decide (p.getD k 0<=(es.getD k (0,0)).2)
noncomputable def kN(e:Nat×Nat):V:=.tup [.int (e.1:Int),.int (e.2:Int)]
theorem mc:∀es:List (Nat×Nat),(b5 es).length=2*es.length:=by
 intro es
 induction es with
 |nil=>
  exact rfl
 |cons e r ih=>
  show(b5 r).length+1+1=2*(r.length+1);refine aa ih ?_;exact ae 0x33e206144184184f89101 rfl r.length
theorem ye:∀a b:List (Nat×Nat),b5 (a++b)=b5 a++b5 b:=by
 intro a
 induction a with
 |nil=>
  intro y1
  exact rfl
 |cons e r ih=>
  intro b
  show _::_::b5 (r++b)=_;refine aa (ih b) ?_;rfl
theorem tF:∀{es:List (Nat×Nat)},(∀e∈es,e.1<=b/\e.2<=b)->∀k∈b5 es,k<=b:=by
 intro es
 induction es with
 |nil=>
  intro y1 k h
  cases h
 |cons e r ih=>
  intro he k h
  have h':k∈e.1::e.2::b5 r:=h
  have e0:=he e (by simp)
  rcases PS.mp h' with q|q
  ·exact ae 0x92414940d15070524c149104 rfl e.fst b e.snd k e0 q
  ·rcases PS.mp q with q|q
   ·exact ae 0x92414940d35070524c149104 rfl e.fst b e.snd k e0 q
   ·exact ih (λ x hx=>he x (by simp[hx])) k q
theorem AM:∀(p:List Nat) (es:List (Nat×Nat)),p.length=es.length->fC p (b5 es)=(PQ p.length).all (nq p es):=by
 intro p
 induction p with
 |nil=>
  intro y1
  cases y1 with
  |nil=>
   intro y2
   exact rfl
  |cons y3 y4=>
   intro h
   simp at h
 |cons s p ihq=>
  intro y5
  cases y5 with
  |nil=>
   intro h
   simp at h
  |cons e es=>
   intro h
   have ih:=ihq es (by simpa using h)
   show((decide (e.1<=s)&&decide (s<=e.2))&&fC p (b5 es))=_
   refine aa PN ?_;refine aa TA ?_;refine aa Uv ?_;refine aa YJ ?_;refine aa ih ?_
   rfl
noncomputable def hY(p:List Nat)(es:List (Nat×Nat))(j:Nat):List V:=((PQ j).filter λ k=> !nq p es k).map cp
theorem AO(p:List Nat)(es:List (Nat×Nat))(j:Nat):(hY p es j).length<=j:=by
 unfold hY
 refine aa (PE _) ?_
 exact PO (List.length_filter_le _ _) (by refine aa Sf ?_;exact PC _)
theorem rp(p:List Nat)(es:List (Nat×Nat))(j:Nat):hY p es (j+1)=hY p es j++(if nq p es j then[] else[cp j]):=by
 unfold hY
 refine aa TH ?_;refine aa (List.filter_append _ _) ?_;refine aa Qd ?_
 cases h:nq p es j<;>simp[h]
theorem AN(h:p.length=es.length):(hY p es p.length).isEmpty=fC p (b5 es):=by
 refine aa (AM p es h) ?_
 unfold hY
 rewrite[SK];rewrite[QR];rewrite[List.map_eq_nil_iff];rewrite[Wm];rewrite[QD]
 exact⟨λ q x hx=>by have:=q x hx;simpa using this,λ q x hx=>by simp[q x hx]⟩
theorem BX(l:List V):kM (.list l) (.list [])=some l.isEmpty:=by
 cases l<;>rfl
theorem ry{f:Nat->V}{p:List Nat}{k:Nat}(h:k<p.length):(p.map f)[k]? =some (f (p.getD k 0)):=by
 refine aa Rh ?_;refine aa (PG h) ?_;refine aa P7 ?_;refine aa (PG h) ?_;rfl
theorem wQ{es:List (Nat×Nat)}{k:Nat}(h:k<es.length):(es.map kN)[k]? =some (kN (es.getD k (0,0))):=by
 refine aa Rh ?_;refine aa (PG h) ?_;refine aa P7 ?_;refine aa (PG h) ?_;rfl
theorem add_list(h:a.length+b.length<=aq):gr .add (.list a) (.list b)=some (.list (a++b)):=by
 show(if a.length+b.length<=aq then some (V.list (a++b)) else none)=_
 exact if_pos h
section
variable{n:Nat}{w cc t K W h b c:Nat}{T:List V}{px:List (List (List Nat))}{M M':AH}{Q:V->AH->Prop}{X:AH->Prop}{es:List (Nat×Nat)}{p:List Nat}
theorem Am{a0 a1 a2 a3 a4 a5 a7 a8 a9 a10 a11 a12 a13 a15 a16 a17 a18:Option V}{Qs:List V->AH->Prop}(hp:p.length=c)(he:es.length=c)(hc:c<=4)(q:Qs (hY p es c) M):
  bP (λ x M2 k=>aB (dF (.one 15) x [a0,a1,a2,a3,a4,a5,some (.list (es.map kN)),a7,a8,a9,a10,a11,a12,a13,some (cH p),a15,a16,a17,a18]) λ ρ'=>iP ak (ag ak n) (.cons (.not (.Fz (.sub (.sub (.var 6) (.var 15)) (.lit (.int 0))) .le (.sub (.var 14) (.var 15)) .le (.sub (.sub (.var 6) (.var 15)) (.lit (.int 1))))) .nil) ρ' M2 λ b M3=>(b=true->lQ ak (ag ak n) (.last (.var 15)) ρ' M3 k)/\(b=false->k [] M3)) (aZ 0 1 c) [] M Qs:=by
 refine cT (λ rest acc M'=>∃j,rest=aZ (j:Nat) 1 (c-j)/\j<=c/\acc=hY p es j/\M'=M) _ ⟨0,rfl,ae 0x146001 rfl c,rfl,rfl⟩ (λ acc M' j=> ?_) λ x xs acc M' j K2 E7=> ?_
 ·rename type_of% j=>oqe;refine jF oqe λ j e1 e2 G4 FE=> ?_;clear oqe;subst G4;subst FE
  have:=bF e1
  obtain rfl:j=c:=ae 0x92434910e009148149102 rfl j c e2 this
  exact q
 ·rename type_of% j=>oqe;refine jF oqe λ j e1 e2 G4 FE=> ?_;clear oqe;subst G4;subst FE
  refine bz (ce e1) λ m e6 EL e7=> ?_;subst EL
  have fin:∀r:List V,r=(if nq p es j then[] else[cp j])->K2 r M':=by
   intro r hr
   refine E7 _ _ ?_ ⟨j+1,by refine aa e7 ?_;refine aa (show c-(j+1)=m by exact ae 0x90d30818524430614c249103 rfl c j m e6) ?_;rfl,by exact ae 0x90510614830614c249103 rfl c j m e6,by refine aa (rp _ _ _) ?_;refine aa hr ?_;rfl,rfl⟩
   have:=AO p es (j+1)
   rw[rp] at this
   refine aa hr ?_;unfold aq;exact ae 0x49248386a0533f4c106149305148191103 rfl c j ((hY p es j++if nq p es j=true then[] else[cp j]).length) hc e2 this
  have g6:=wQ (es:=es) (k:=j) (ae 0x92424530c185409348349104 rfl es.length c j m he e6)
  have Pe:=ry (f:=λ s:Nat=>V.int s) (p:=p) (k:=j) (ae 0x92424530c185409348349104 rfl p.length c j m hp e6)
  and_intros
  refine ah g6 ?_
  refine ah Pe ?_
  refine⟨λ h1=> ?_,λ h1=> ?_⟩
  ·refine ah g6 ?_
   have h1:=of_decide_eq_true h1
   have d1:decide ((es.getD j (0,0)).1<=p.getD j 0)=true:=decide_eq_true (ae 0x905244439239102 rfl ((es.getD j (0,0)).fst) (p.getD j 0) h1)
   refine⟨λ h2=> ?_,λ h2=> ?_⟩
   ·repeat infer_instance
    refine fin _ ?_
    rw[Te] at h2
    have h2:=of_decide_eq_false h2
    have d2:decide (p.getD j 0<=(es.getD j (0,0)).2)=false:=decide_eq_false (ae 0x926005244980439239102 rfl (p.getD j 0) ((es.getD j (0,0)).snd) h2)
    refine aa (if_neg (by unfold nq;refine aa d2 ?_;simp)) ?_;rfl
   ·repeat infer_instance
    refine fin _ ?_
    rw[UB] at h2
    have h2:=of_decide_eq_true h2
    have d2:decide (p.getD j 0<=(es.getD j (0,0)).2)=true:=decide_eq_true (ae 0x905244439239102 rfl (p.getD j 0) ((es.getD j (0,0)).snd) h2)
    refine aa (if_pos (by unfold nq;refine aa d1 ?_;refine aa d2 ?_;rfl)) ?_;rfl
  ·repeat infer_instance
   have h1:=of_decide_eq_false h1
   have d1:decide ((es.getD j (0,0)).1<=p.getD j 0)=false:=decide_eq_false (by(rename_i z0;exact ae 0x926005244980439239102 rfl ((es.getD j (0,0)).fst) (p.getD j 0) (of_decide_eq_false z0:)))
   refine fin _ ?_
   refine aa (if_neg (by unfold nq;refine aa d1 ?_;simp)) ?_;rfl
theorem Ak
  (s:aV w cc t K T M)(f0:bh w cc t M0 M)(EP:M0.next<=R8)(EK:w<M0.next/\cc<M0.next/\t<M0.next)(hR:M.m R8=some (.list ((PQ h).map λ i=>.list ((PQ W).map λ j=>g i j))))(EZ:R8<M.next)
  (he:es.length=c)(hle:∀e∈es,e.1<=2^b-1/\e.2<=2^b-1)(EX:1<=b)(hb:b<=16)(hc1:1<=c)(hc:c<=4)(hK:K<=2^70)
  (q:∀vs M',aV w cc t (K+20) T M'->bh w cc t M0 M'->(∀v∈vs,gu v)->vs.length<=9->
   (bad=false->vs=(b5 es).map cp)->(bad=true->vs.length≠2*c∨∃v∈vs,¬dJ b v)->Q (.tup [.list vs,aK h W g]) M'):
  bq ak (ag ak (n+5)) (bC 7 cr.body) [some (.ref w),a1,some (.int b),some (.int c),some (.bool bad),a5,a6,a7,some (.ref R8),a9,some (.list ((b5 es).map cp)),a11,a12,a13,a14,a15,a16,a17,a18] M N Q X:=by
 have FP:=mc es
 have hnle:=tF hle
 have hp:2^1<=2^b:=ch EX
 have hint:∀v∈(b5 es).map cp,gu v:=λ v hv=>by
  refine ai (QE.mp hv) λ k zz EL=> ?_;subst EL
  exact .inl ⟨k,rfl⟩
 have fin:∀{vs:List V} {M1:AH} {a13:Option V},aV w cc t (K+20) T M1->bh w cc t M M1->(∀v∈vs,gu v)->vs.length<=9->
   (bad=false->vs=(b5 es).map cp)->(bad=true->vs.length≠2*c∨∃v∈vs,¬dJ b v)->
   bq ak (ag ak (n+5)) (bC 8 cr.body) [some (.ref w),a1,some (.int b),some (.int c),some (.bool bad),a5,a6,a7,some (.ref R8),a9,some (.list vs),a11,a12,a13,a14,a15,a16,a17,a18] M1 N Q X:=by
  intro vs M1 a13 s1 f1 k1 k2 k3 k4
  and_intros
  refine aa (dw ((f1.same _ EZ (ae 0x92498034d21c70915424540914c149105 rfl M0.next R8 w cc t EP EK) (ae 0x92498035121c70915424540914c149105 rfl M0.next R8 w cc t EP EK) (ae 0x92498035521c70915424540914c149105 rfl M0.next R8 w cc t EP EK)).trans hR)) ?_
  exact q vs _ (s1.Eu (ae 0x92498034d21c70915424540914c149105 rfl M0.next R8 w cc t EP EK) (ae 0x92498035121c70915424540914c149105 rfl M0.next R8 w cc t EP EK) (ae 0x92498035521c70915424540914c149105 rfl M0.next R8 w cc t EP EK)) ((f0.trans f1).Eu EP) k1 k2 k3 k4
 refine⟨λ EQ=> ?_,λ EQ=> ?_⟩
 ·have hl:((b5 es).map cp).length=2*c:=by refine aa (PE _) ?_;refine aa FP ?_;refine aa he ?_;rfl
  generalize (b5 es).map cp=l at*
  refine aX s (m:=l.length) (ae 0x92424a00cf89148146102 rfl c l.length hc1 hl) (ae 0x92419901fd20cf89148191102 rfl c l.length hc hl) (ae 0x9066407f4419181fd101 rfl K hK) λ at_ M1 FS s1 f1=> ?_
  have one:∀y:V,gr .add (.list (l.take at_)) (.list [y])=some (.list (l.take at_++[y])):=λ y=>add_list (by refine aa Q9 ?_;show _+1<=aq;unfold aq;exact ae 0x4920e1a814cfc18444930cf89148191103 rfl c l.length at_ hc hl)
  have two:∀y:V,gr .add (.list (l.take at_++[y])) (.list (l.drop (at_+1)))=some (.list (l.take at_++[y]++l.drop (at_+1))):=λ y=>add_list (by refine aa PH ?_;refine aa Q9 ?_;refine aa Qw ?_;show _+1+_<=aq;unfold aq;exact ae 0x4920e1a814cfc10818534818444930cf89148191103 rfl c l.length at_ hc hl)
  have hS:at_+1<aq:=by unfold aq;exact ae 0x49248586a0533f0614c24930cf89148191103 rfl c l.length at_ hc hl FS
  have LV:at_<aq:=ae 0x242c350299fa2161a814cfc185101 rfl at_ hS
  and_intros
  refine ah (add_list (by show _+1<=aq;unfold aq;exact ae 0x4920e1a814cfc18520cf89148191102 rfl c l.length hc hl)) ?_
  refine⟨LV,?_⟩
  and_intros
  refine ao ⟨ae 0x48a000 rfl,ae 0x4c2200 rfl,ae 0x10e46001 rfl b,ae 0x2448181fce441c1101 rfl b hb⟩ ?_
  and_intros
  refine ah (one _) ?_
  refine⟨hS,?_⟩
  and_intros
  refine ah (two _) ?_
  refine⟨LV,?_⟩
  and_intros
  refine ah (one _) ?_
  refine⟨hS,?_⟩
  and_intros
  refine ah (two _) ?_
  refine⟨LV,?_⟩
  and_intros
  refine ah (one _) ?_
  refine⟨hS,?_⟩
  refine ah (two _) ?_
  refine⟨(show 1<aq by decide),?_⟩
  refine aX s1 (m:=5) (ae 0x296000 rfl) (ae 0x19901fe500 rfl) (ae 0x9066407f0614419181fd101 rfl K hK) λ r M2 hr s2 f2=> ?_
  have f:=f1.trans f2
  have s3:=s2.mono (K':=K+20) (ae 0x107444184185101 rfl K)
  have sub:∀v∈l.take at_,gu v:=λ v hv=>hint v (WI hv)
  have KX:∀v∈l.drop (at_+1),gu v:=λ v hv=>hint v (WJ hv)
  have KZ:∀y:V,gu y->¬dJ b y->bq ak (ag ak (n+5)) (bC 8 cr.body) [some (.ref w),a1,some (.int b),some (.int c),some (.bool bad),a5,a6,a7,some (.ref R8),a9,some (.list (l.take at_++[y]++l.drop (at_+1))),a11,a12,some (.int at_),a14,a15,a16,a17,a18] M2 N Q X:=by
   intro y ky no
   refine fin s3 f (λ v hv=> ?_) (by simp only [PH,Q9,Qw,PN,Ru];exact ae 0x9241a410818534818444930cf89148191103 rfl c l.length at_ hc hl) (λ h=> ?_) λ zz=>.inr ⟨y,by simp,no⟩
   ·rcases Qq.mp hv with h|h
    ·rcases Qq.mp h with h|h
     ·exact sub v h
     ·refine aa (PZ.mp h) ?_;exact ky
    ·exact KX v h
   ·rw[EQ] at h;cases h
  match r,hr with
  |0,_=>
   refine fin (vs:=l++[.int 0]) (a13:=some (.int at_)) s3 f (λ v hv=> ?_) (by refine aa PH ?_;show _+1<=9;exact ae 0x9241a418520cf89148191102 rfl c l.length hc hl) (λ h=> ?_) λ zz=>.inl (by refine aa PH ?_;show _+1≠_;exact ae 0x92600cf8920614433e249102 rfl l.length c hl)
   ·rcases Qq.mp hv with h|h
    ·exact hint v h
    ·refine aa (PZ.mp h) ?_;exact .inl ⟨0,rfl⟩
   ·rw[EQ] at h;cases h
  |1,_=>
   refine KZ (.int (2^b)) (.inl ⟨_,rfl⟩) ?_
   rintro⟨k,e,hk⟩
   injection e with e
   rw[oC] at e
   exact ae 0x924980639239104285148146202 rfl (2^b) k hp hk e
  |2,_=>
   refine KZ (.int (-1)) (.inl ⟨_,rfl⟩) ?_
   rintro⟨k,e,hk⟩
   injection e with e
   exact ae 0x980639136101 rfl k e
  |3,_=>
   refine KZ (.bool true) (.inr ⟨_,rfl⟩) ?_
   rintro⟨k,e,hk⟩
   cases e
  |4,_=>
   refine fin (vs:=l.drop 1) (a13:=some (.int at_)) s3 f (λ v hv=>hint v (WJ hv)) (by refine aa Qw ?_;exact ae 0x9241a428520cf89148191102 rfl c l.length hc hl) (λ h=> ?_) λ zz=>.inl (by refine aa Qw ?_;exact ae 0x92498033e24428520cf89148146102 rfl c l.length hc1 hl)
   rw[EQ] at h;cases h
 ·refine fin (a13:=a13) (s.mono (ae 0x107445101 rfl K)) (.refl _ _ _ _) hint (by refine aa (PE _) ?_;exact ae 0x92490694c33e245306448349103 rfl es.length c ((b5 es).length) he hc FP) (λ zz=>rfl) λ h=> ?_
  rw[EQ] at h;cases h
theorem uF{h j:Nat}(e:x::xs=((PQ h).drop j).map g):j<h/\x=g j/\xs=((PQ h).drop (j+1)).map g:=by
 have hj:j<h:=by
  have:=congrArg Q2 e
  simp at this
  exact ae 0x90924c309348185103 rfl xs.length h j this
 rw[VQ (by refine aa Sf ?_;exact hj),PP,List.getElem_range] at e
 injection e with e1 e2
 exact cg hj e1 e2
theorem oz{h j:Nat}(e:[]=((PQ h).drop j).map g)(hj:j<=h):j=h:=by
 have:=congrArg Q2 e
 simp at this
 exact ae 0x92434910c245280149102 rfl j h hj this
noncomputable def rG(px:List (List (List Nat)))(es:List (Nat×Nat))(i j:Nat):V:=.tup [.int (if !fC (bN px i j) (b5 es) then 1 else 0),.int 0]
theorem sQ(l:List V):(kM (.list l) (.list [])).map (!·)=some (!l.isEmpty):=by refine aa (BX _) ?_;rfl
theorem xN(hl:es.length<=4)(q:Qs ((b5 es).map cp) M):
  bP (λ x M2 k=>aB (dF (.one 17) x [a0,a1,a2,a3,a4,a5,a6,a7,a8,a9,a10,a11,a12,a13,a14,a15,a16,a17,a18]) λ ρ'=>iP ak (ag ak n) .nil ρ' M2 λ b M3=>(b=true->lQ ak (ag ak n) (.cls (.one 18) (.it (.var 17)) .nil (.last (.var 18))) ρ' M3 k)/\(b=false->k [] M3)) (es.map kN) [] M Qs:=by
 refine cT (λ rest acc M'=>∃e1 e2,es=e1++e2/\rest=e2.map kN/\acc=(b5 e1).map cp/\M'=M) _ ⟨[],es,rfl,rfl,rfl,rfl⟩ (λ acc M' j=> ?_) λ x xs acc M' j K2 E7=> ?_
 ·refine oQ j λ e1 e2 e h1 FE F5=> ?_;clear j;subst FE;subst F5
  have:e2=[]:=by cases e2 with|nil=>rfl|cons _ _=>cases h1
  subst this
  rw[Qa] at e;subst e
  exact q
 ·refine oQ j λ e1 e2 e h1 FE F5=> ?_;clear j;subst FE;subst F5
  cases e2 with
  |nil=>cases h1
  |cons y ys=>
   rw[PP] at h1
   injection h1 with h1 h2
   subst h1 h2
   repeat infer_instance
   have hlen:((b5 e1).map cp++[V.int (y.1:Int),V.int (y.2:Int)]).length<=aq:=by
    refine aa PH ?_;refine aa (PE _) ?_;refine aa (mc _) ?_
    have:=congrArg Q2 e
    rw[PH] at this
    show _+2<=aq
    unfold aq;exact ae 0x4920e1a814cfc188f8920c14d244191103 rfl es.length e1.length ((y::ys).length) hl this
   refine⟨by show 1<=aq;decide,?_⟩
   repeat infer_instance
   refine⟨by show 2<=aq;decide,?_⟩
   exact E7 _ _ hlen ⟨e1++[y],ys,by refine aa e ?_;refine aa (Td _ _ _) ?_;rfl,rfl,by refine aa (ye _ _) ?_;refine aa Qd ?_;rfl,rfl⟩
end
section
variable{n:Nat}{w cc t K W h b c:Nat}{T:List V}{px:List (List (List Nat))}{M M':AH}{Q:V->AH->Prop}{X:AH->Prop}{es:List (Nat×Nat)}{p:List Nat}
theorem Bg
  (s:aV w cc t K T M)(f0:bh w cc t M0 M)(EP:M0.next<=R6)(EK:w<M0.next/\cc<M0.next/\t<M0.next)(hR:M.m R6=some (.list (es.map kN)))(EZ:R6<M.next)(dm:ca px W h b c)(hW:W<=4)(hh:h<=4)
  (he:es.length=c)(hle:∀e∈es,e.1<=2^b-1/\e.2<=2^b-1)(EX:1<=b)(hb:b<=16)(hc1:1<=c)(hc:c<=4)(hK:K<=2^70)
  (q:∀vs M',aV w cc t (K+20) T M'->bh w cc t M0 M'->(∀v∈vs,gu v)->vs.length<=9->
   (bad=false->vs=(b5 es).map cp)->(bad=true->vs.length≠2*c∨∃v∈vs,¬dJ b v)->Q (.tup [.list vs,aK h W (rG px es)]) M'):
  bq ak (ag ak (n+5)) (bC 3 cr.body) [some (.ref w),some (bk px),some (.int b),some (.int c),some (.bool bad),a5,some (.ref R6),a7,a8,a9,a10,a11,a12,a13,a14,a15,a16,a17,a18] M N Q X:=by
 and_intros
 refine aa (dw (((Pu.new M (.list [])).same _ EZ).trans hR)) ?_;refine aa (gz dm) ?_
 have EM:=b6 M (.list [])
 have s0:aV w cc t K T ((M.new (.list [])).kill R6):=(s.pu (.new _ _)).Eu (ae 0x92498034d21c70915424540914c149105 rfl M0.next R6 w cc t EP EK) (ae 0x92498035121c70915424540914c149105 rfl M0.next R6 w cc t EP EK) (ae 0x92498035521c70915424540914c149105 rfl M0.next R6 w cc t EP EK)
 have Pg:bh w cc t M0 ((M.new (.list [])).kill R6):=(f0.pu (.new _ _)).Eu EP
 have O0:((M.new (.list [])).kill R6).m M.next=some (.list []):=(cA _ (ae 0x92600d148249102 rfl R6 M.next EZ)).trans (bL _ _)
 refine cD (λ rest ρ M'=>∃j o9 K9,rest=((PQ h).drop j).map (λ i=>.list ((PQ W).map λ j=>cH (bN px i j)))/\j<=h/\ρ=[some (.ref w),some (bk px),some (.int b),some (.int c),some (.bool bad),a5,some (.list (es.map kN)),a7,some (.ref M.next),o9,a10,a11,K9,a13,a14,a15,a16,a17,a18]/\
   M'.m M.next=some (.list ((PQ j).map λ i=>.list ((PQ W).map λ k=>rG px es i k)))/\M.next<M'.next/\aV w cc t K T M'/\bh w cc t M0 M') _
  ⟨0,_,_,rfl,ae 0x146001 rfl h,rfl,O0,EM,s0,Pg⟩ (λ ρ M' j=> ?_) λ x xs ρ M' j K2 E7=> ?_
 ·rename type_of% j=>oqe;refine B2 oqe λ j o9 K9 e1 e2 F5 hM E5 s1 f1=> ?_;clear oqe;subst F5
  obtain rfl:=oz e1 e2
  have nx:=f0.next
  refine xN (ae 0x924191106448349102 rfl es.length c he hc) ?_
  exact Ak (g:=rG px es) s1 f1 (ae 0x905244149102 rfl M0.next M.next nx) EK hM E5 he hle EX hb hc1 hc hK q
 ·rename type_of% j=>oqe;refine B2 oqe λ j o9 K9 e1 e2 F5 hM E5 s1 f1=> ?_;clear oqe;subst F5
  refine ei (uF e1) λ hj HP EL=> ?_;subst HP;subst EL
  have nx:=f0.next
  refine cb (n:=W) (g':=λ k=>.list (hY (bN px j k) es c)) (by unfold aq;exact ae 0x48386a0533f44191101 rfl W hW) (λ k hk M2 k2 K3 HD=> ?_) λ M2 k2=> ?_
  ·repeat infer_instance
   refine ao (bU (ae 0x90a1d07f38e44191101 rfl c hc)) ?_
   and_intros
   refine aa (PF _) ?_
   refine⟨by refine aa (ba _ _ _) ?_;unfold aq;exact ae 0x48386a0533f44191101 rfl c hc,?_⟩
   refine Am (dm.at_ hj hk).1 he hc ?_
   exact HD _ k2
  ·have HC:=(k2.same _ E5).trans hM
   refine⟨dR HC,?_⟩
   refine cb (n:=W) (g':=λ k=>rG px es j k) (by unfold aq;exact ae 0x48386a0533f44191101 rfl W hW) (λ k hk M3 k3 K3 HD=> ?_) λ M3 k3=> ?_
   ·have hp:=(dm.at_ hj hk).1
    have hn:=AN (p:=bN px j k) (es:=es) (ae 0x92434530d24c349103 rfl es.length c ((bN px j k).length) he hp)
    rw[hp] at hn
    repeat infer_instance
    refine ah (sQ _) ?_
    refine aa hn ?_
    have fin:=HD M3 (k2.trans k3|>.trans (.refl _)|>λ zz=>k3)
    unfold rG at fin
    cases hr:fC (bN px j k) (b5 es) with
    |true=>
     rw[hr] at fin
     repeat infer_instance
     exact fin
    |false=>
     rw[hr] at fin
     repeat infer_instance
     exact fin
   ·have Ia:=(k3.same _ (PI E5 k2.next)).trans HC
    and_intros
    simp only [Ia]
    refine⟨by refine aa (PE _) ?_;refine aa Sf ?_;unfold aq;exact ae 0x492161a814cfd209148191102 rfl h j hh hj,E7 _ _ ⟨j+1,_,_,rfl,ae 0x905206144249102 rfl j h hj,rfl,?_,PI E5 (k2.trans k3).next,((s1.pu k2).pu k3).En (ae 0x92492600d35825921c70915424540914c149106 rfl M0.next R6 w cc t M.next EP EK EZ) (ae 0x92492600d45825921c70915424540914c149106 rfl M0.next R6 w cc t M.next EP EK EZ) (ae 0x92492600d55825921c70915424540914c149106 rfl M0.next R6 w cc t M.next EP EK EZ) _,((f1.pu k2).pu k3).En (ae 0x92414d109348149103 rfl M0.next R6 M.next EP EZ) _⟩⟩
    refine aa (aF _ _ _) ?_;refine aa TH ?_;refine aa Qd ?_
    rfl
end
section
variable{n:Nat}{w cc t K W h b c:Nat}{T:List V}{px:List (List (List Nat))}{M M':AH}{Q:V->AH->Prop}{X:AH->Prop}{es:List (Nat×Nat)}{p:List Nat}
theorem qg(dm:ca px W h b c)(hr:r<h):eh M (bk px) (.int (r:Int))=some (.list ((PQ W).map λ j=>cH (bN px r j))):=by
 refine aa (fX dm) ?_;exact gG (g:=λ i=>.list ((PQ W).map λ j=>cH (bN px i j))) hr
theorem AD(a r:Nat):(if((a:Int)-(r:Int))<0 then(0:Int) else(a:Int)-(r:Int))=((a-r:Nat):Int):=by
 split<;>(first|(rename_i z0;exact ae 0x24638249180580239239102 rfl a r z0)|(rename_i z0;exact ae 0x24638249108e48e44980580239239102 rfl a r z0))
theorem AC(a r m:Nat):(if(m:Int)<(a:Int)+(r:Int) then(m:Int) else(a:Int)+(r:Int))=((min (a+r) m:Nat):Int):=by
 split<;>(first|(rename_i z0;exact ae 0x2463844414d239114139339239103 rfl m a r z0)|(rename_i z0;exact ae 0x918e11105348139339226014139339239103 rfl m a r z0))
theorem pJ(s:aV w cc t K T M)(dm:ca px W h b c)(Fk:1<=W)(hW:W<=4)(Fj:1<=h)(hh:h<=4)(EX:1<=b)(hb:b<=16)(hc1:1<=c)(hc:c<=4)(hK:K<=2^60)
  (q:∀vs ns M',aV w cc t (K+100) T M'->bh w cc t M M'->(∀v∈vs,gu v)->vs.length<=9->(bad=false->vs=ns.map cp/\ns.length=2*c/\∀k∈ns,k<=2^b-1)->
   (bad=true->vs.length≠2*c∨∃v∈vs,¬dJ b v)->Q (.tup [.list vs,aK h W λ i j=>.tup [.int (if !fC (bN px i j) ns then 1 else 0),.int 0]]) M'):
  ag ak (n+6) 72 [.ref w,bk px,.int b,.int c,.bool bad] M Q X:=by
 have EK:=s.lt
 have hlen:(px.map dy).length=h:=by refine aa (PE _) ?_;refine aa dm.len ?_;rfl
 refine Ev cr rfl rfl rfl ?_;and_intros
 refine aa hlen ?_
 refine aX (m:=h) s (ae 0x909180146101 rfl h Fj) (ae 0x9066407f44191101 rfl h hh) (ae 0x9066407f4418f01fd101 rfl K hK) λ r1 M1 Na s1 f1=> ?_
 refine ah (qg dm Na) ?_
 refine ah (qg (r:=0) dm (ae 0x909180146101 rfl h Fj)) ?_
 and_intros
 refine aa (PE _) ?_;refine aa Sf ?_
 refine aX (m:=W) s1 (ae 0x909180146101 rfl W Fk) (ae 0x9066407f44191101 rfl W hW) (ae 0x9066407f0614418f01fd101 rfl K hK) λ r2 M2 H1 s2 f2=> ?_
 refine ah (gG (g:=λ j=>cH (bN px r1 j)) H1) ?_
 have JJ:=dm.at_ Na H1
 generalize bN px r1 r2=pp at*
 refine ao (bU (ae 0x90a1d07f38e44191101 rfl c hc)) ?_
 and_intros
 refine aa (PF _) ?_
 refine⟨by refine aa (ba _ _ _) ?_;unfold aq;exact ae 0x48386a0533f44191101 rfl c hc,?_⟩
 have NE:=f1.trans f2
 have nx:=NE.next
 have EM:=b6 M2 (.list [])
 have Lq:2^b<=2^16:=ch hb
 have Hs:2^1<=2^b:=ch EX
 refine cD (λ rest ρ M'=>∃es o7 La,rest=aZ ((es.length:Nat):Int) 1 (c-es.length)/\es.length<=c/\ρ=[some (.ref w),some (bk px),some (.int b),some (.int c),some (.bool bad),some (cH pp),some (.ref M2.next),o7,none,none,none,La,none,none,none,none,none,none,none]/\
   M'.m M2.next=some (.list (es.map kN))/\M2.next<M'.next/\(∀e∈es,e.1<=2^b-1/\e.2<=2^b-1)/\aV w cc t (K+2+5*es.length) T M'/\bh w cc t M M') _
  ⟨[],_,_,rfl,Rv _,rfl,bL _ _,EM,(by simp),(s2.pu (.new _ _)).mono (PC _),NE.pu (.new _ _)⟩ (λ ρ M' j=> ?_) λ x xs ρ M' j K2 E7=> ?_
 ·refine B1 j λ es o7 La e1 e2 F5 hM E5 hle s3 f3=> ?_;clear j;subst F5
  have:=bF e1
  have he:es.length=c:=ae 0x92434910e009148149102 rfl es.length c e2 this
  refine Bg s3 f3 nx EK hM E5 dm hW hh he hle EX hb hc1 hc (ae 0x9249064607f04f953062483453063c07f48191103 rfl c K es.length hc hK he) λ vs M4 s4 f4 k1 k2 k3 k4=> ?_
  refine q vs (b5 es) M4 (s4.mono (ae 0x92410720217f4c1d013e54818930d148191103 rfl c es.length K hc he)) f4 k1 k2 (λ h=>⟨k3 h,by refine aa (mc _) ?_;refine aa he ?_;rfl,tF hle⟩) k4
 ·refine B1 j λ es o7 La e1 e2 F5 hM E5 hle s3 f3=> ?_;clear j;subst F5
  refine bz (ce e1) λ m e6 EL e7=> ?_;subst EL
  have body:∀{low:Nat} {M3:AH},low<=2^b-1->aV w cc t (K+2+5*es.length+3) T M3->bh w cc t M' M3->
    bq ak (ag ak (n+5)) (.cons (.app (.var 6) (.tup (.cons (.var 11) (.cons (.min2 (.bin .add (.var 11) (.call 62 (.cons (.var 0) (.cons (.lit (.int 3)) .nil)))) (.bin .sub (.bin .pow (.lit (.int 2)) (.var 2)) (.lit (.int 1)))) .nil)))) .nil)
     [some (.ref w),some (bk px),some (.int b),some (.int c),some (.bool bad),some (cH pp),some (.ref M2.next),some (.int ((es.length:Nat):Int)),none,none,none,some (.int low),none,none,none,none,none,none,none] M3 K2 Q X:=by
   intro low M3 Lu s4 f4
   have Ia:=(f4.same _ E5 (ae 0x92498034550554871c24940924c249105 rfl w M.next cc t M2.next EK nx) (ae 0x92498034d50554871c24940924c249105 rfl w M.next cc t M2.next EK nx) (ae 0x92498035150554871c24940924c249105 rfl w M.next cc t M2.next EK nx)).trans hM
   refine⟨dR Ia,?_⟩
   refine aX (m:=3) s4 (ae 0x28e000 rfl) (ae 0x19901fe300 rfl) (ae 0x9249066407f06304f953062481453063c07f48191103 rfl c K es.length hc hK e2) λ r M4 hr s5 f5=> ?_
   have G9:=(f5.same _ (PI E5 f4.next) (ae 0x92498034550554871c24940924c249105 rfl w M.next cc t M2.next EK nx) (ae 0x92498034d50554871c24940924c249105 rfl w M.next cc t M2.next EK nx) (ae 0x92498035150554871c24940924c249105 rfl w M.next cc t M2.next EK nx)).trans Ia
   refine ao ⟨ae 0x48a000 rfl,ae 0x4c2200 rfl,ae 0x10e46001 rfl b,ae 0x2448181fce441c1101 rfl b hb⟩ ?_
   and_intros
   refine aa (PF _) ?_;refine aa (uH _) ?_;refine aa (AC _ _ _) ?_
   simp only [G9]
   refine⟨by refine aa (PE _) ?_;unfold aq;exact ae 0x492161a814cfd205148191102 rfl c es.length hc e2,E7 _ _ ⟨es++[(low,min (low+r) (2^b-1))],_,_,?_,by refine aa PH ?_;show _+1<=_;exact ae 0x90510614830614c249103 rfl c es.length m e6,rfl,?_,PI E5 (f4.trans f5).next,?_,?_,?_⟩⟩
   ·refine aa PH ?_
    show _=aZ ((es.length+1:Nat):Int) 1 (c-(es.length+1))
    refine aa e7 ?_;refine aa (show c-(es.length+1)=m by exact ae 0x90d30818524430614c249103 rfl c es.length m e6) ?_;rfl
   ·refine aa (aF _ _ _) ?_;refine aa Qd ?_;rfl
   ·intro e he
    rcases Qq.mp he with h|h
    ·exact hle e h
    ·refine aa (PZ.mp h) ?_;exact⟨Lu,by show min _ _<=_;exact ae 0x10a14c40a14c149103 rfl low r (2^b)⟩
   ·refine aa PH ?_
    exact(s5.mono (by show _<=K+2+5*(_+1);exact ae 0x104f9418520624418418c13e548189102 rfl K es.length)).En (ae 0x92498034550554871c24940924c249105 rfl w M.next cc t M2.next EK nx) (ae 0x92498034d50554871c24940924c249105 rfl w M.next cc t M2.next EK nx) (ae 0x92498035150554871c24940924c249105 rfl w M.next cc t M2.next EK nx) _
   ·exact((f3.trans f4).trans f5).En nx _
  have Ik:es.length<pp.length:=by refine aa JJ.1 ?_;exact ae 0x90914830614c249103 rfl c es.length m e6
  have Ot:pp.getD es.length 0<2^b:=JJ.2 _ (by refine aa P7 ?_;refine aa (PG Ik) ?_;exact QI _)
  refine aX (m:=3) s3 (ae 0x28e000 rfl) (ae 0x19901fe300 rfl) (by lia) λ r M3 hr s4 f4=> ?_
  refine⟨λ h=> ?_,λ h=> ?_⟩
  ·refine ah (ry (f:=λ s:Nat=>V.int s) Ik) ?_
   refine aX (m:=2) s4 (ae 0x28a000 rfl) (ae 0x19901fe200 rfl) (by lia) λ r3 M4 Je s5 f5=> ?_
   and_intros
   refine aa (PF _) ?_;refine aa (AD _ _) ?_
   exact body (low:=pp.getD es.length 0-r3) (ae 0x904285209344249103 rfl (pp.getD es.length 0) (2^b) r3 Ot) (s5.mono (ae 0x106304f9520624418418413e548189102 rfl K es.length)) (f4.trans f5)
  ·refine ao ⟨ae 0x48a000 rfl,ae 0x4c2200 rfl,ae 0x10e46001 rfl b,ae 0x2448181fce441c1101 rfl b hb⟩ ?_
   and_intros
   refine aa (PF _) ?_;refine aa (oC _) ?_
   refine aX (m:=2^b) s4 (ae 0x909180146201 rfl (2^b) Hs) (ae 0x9066407f4418401fd101 rfl (2^b) Lq) (by lia) λ r3 M4 Je s5 f5=> ?_
   exact body (low:=r3) (ae 0x904285244249102 rfl r3 (2^b) Je) (s5.mono (ae 0x106304f9520624418418413e548189102 rfl K es.length)) (f4.trans f5)
end
section
variable{n:Nat}{M M':AH}{Q:V->AH->Prop}{X:AH->Prop}
theorem yv:∀is:List Int,ints? (is.map V.int)=some is:=by
 intro is
 induction is with
 |nil=>
  exact rfl
 |cons i r ihq=>
  have ih:=ihq
  show(ints? (V.int i::r.map V.int))=_
  unfold ints?
  refine aa ih ?_;rfl
theorem sC{is:List Int}(hl:is.length<=63)(q:∀w c M',Wl w c 0 M'->Q (.ref w) M'):ag ak (n+1) 61 [.list (is.map .int)] M Q X:=by
 refine Ev lD rfl rfl rfl ?_
 refine⟨(show 63<aq by decide),?_⟩
 have e:cut (is.map V.int) 0 (some 63)=is.map V.int:=by
  show((is.map V.int).take 63).drop 0=_
  refine aa (Qe (by refine aa (PE _) ?_;exact hl)) ?_;rfl
 change bP _ (cut (is.map V.int) 0 (some 63)) [] M _
 refine aa e ?_
 refine ra (f:=λ x=>x) (by refine aa (PE _) ?_;unfold aq;exact ae 0x9070d40a67e883f8006fd101 rfl is.length hl) (λ x hx M1 k1 K hK=> ?_) λ M1 k1=> ?_
 ·refine ai (QE.mp hx) λ i zz EL=> ?_;subst EL
  repeat infer_instance
  exact hK _ k1
 ·refine aa (List.map_id' _) ?_
  have hs:(dc (M1.new (.list (is.map .int))) (.ref M1.next)).bind ints? =some is:=by
   show(((M1.new (.list (is.map .int))).m M1.next).bind lstO?).bind ints? =_
   refine aa (bL _ _) ?_
   exact yv is
  refine ah hs ?_
  have g:0<=QK is.sum 1009/\QK is.sum 1009<1009:=oP _ 1009 (by decide)
  refine q _ M1.next _ ⟨(show M1.next≠M1.next+1 by exact ae 0x980306145101 rfl M1.next),b6 _ _,Nat.lt_succ_of_lt (b6 _ _),is,0,0,QK is.sum 1009,bL _ _,?_,by decide,by decide,g.1,g.2⟩
  exact((Pu.new (M1.new (.list (is.map .int))) _).same _ (b6 _ _)).trans (bL _ _)
end
def vz(t:Nat)(T:List V)(args:List V)(h w:Nat)(a p:Nat->Nat->Int):Prop:=∀n M Q X,aY t T M->(∀M',Pu M M'->Q (aK h w λ i j=>.inst 0 [.int (a i j),.int (p i j)]) M')->ag ak (n+11) 60 args M Q X
def yZ(t:Nat)(T:List V)(args:List V):Prop:=∀n M Q X,aY t T M->(∀M',Pu M M'->X M')->ag ak (n+11) 60 args M Q X
section
variable{n t h w pl:Nat}{T:List V}{x:V}{a p:Nat->Nat->Int}{M M':AH}{Q:V->AH->Prop}{X:AH->Prop}
theorem pL(hT:aY t T M)(g:vz t T [sh t,.dict [] [],x,.fn 67,.int pl] h w a p)(hh:h<=8)(hw:w<=8)(q:∀M',Pu M M'->Q (aK h w λ i j=>.tup [.int (a i j),.int (p i j)]) M'):
  ag ak (n+12) 75 [sh t,x,.int pl] M Q X:=by
 refine Ev gU rfl rfl rfl ?_
 refine fj rfl (by decide) (by decide) ?_
 refine g _ _ _ _ hT λ M1 k1=> ?_
 repeat infer_instance
 refine dQ (h:=h) (w:=w) (g':=λ i j=>.tup [.int (a i j),.int (p i j)]) hh hw (λ i hi M2 k2 K hK=> ?_) λ M2 k2=>q _ (k1.trans k2)
 repeat infer_instance
 refine cb (n:=w) (g':=λ j=>.tup [.int (a i j),.int (p i j)]) (by unfold aq;exact ae 0x48386a0533f441a1101 rfl w hw) (λ j hj M3 k3 K2 E7=> ?_) λ M3 k3=>hK _ (k2.trans k3)
 repeat infer_instance
 refine fR ?_
 exact E7 _ k3
theorem qy(hT:aY t T M)(g:yZ t T [sh t,.dict [] [],x,.fn 67,.int pl])(q:∀M',Pu M M'->Q .none M'):
  ag ak (n+12) 75 [sh t,x,.int pl] M Q X:=by
 refine Ev gU rfl rfl rfl ?_
 refine fj rfl (by decide) (by decide) ?_
 refine g _ _ _ _ hT λ M1 k1=> ?_
 repeat infer_instance
 exact q _ k1
end
structure fW(ks:List String)(vs:List V)(nm:String)(W h b:Nat)(mv sv:Option V):Prop where
 wd:ay ks vs "Width" =some (.int W)
 ht:ay ks vs "Height" =some (.int h)
 co:ay ks vs "ColorSpace" =some (.inst 1 [.str nm])
 bp:ay ks vs "BitsPerComponent" =some (.int b)
 im:ay ks vs "ImageMask" =none∨ay ks vs "ImageMask" =some (.bool false)
 ma:ay ks vs "Mask" =mv
 sm:ay ks vs "SMask" =sv
def zN(T:List V)(hd:V):Option V->Prop
 |none=>At T hd "Mask" .none
 |some (.list ps)=>∃Gv,aW (λ y p=>Bh T y p/\NR p) Gv ps/\At T hd "Mask" (.list Gv)
 |some v=>At T hd "Mask" v
section
variable{n t w cc K W h b c pl:Nat}{T T':List V}{ks:List String}{vs xs:List V}{px:List (List (List Nat))}{nm:String}{mv sv:Option V}{a p:Nat->Nat->Int}{M M':AH}{Q:V->AH->Prop}{X:AH->Prop}
set_option tactic.hygienic true in
theorem rS(a2:aW (HV T) vs xs)(k:fW ks vs nm W h b mv sv):zN T (.dict ks xs) mv:=by
 have e:=k.ma
 cases mv with
 |none=>exact fV a2 e
 |some v=>cases v with
  |list ps=>exact jm a2 e
  |_=>exact aQ a2 e (λ ps q=>nomatch q)
theorem zN.some(m:zN T hd mv):∃u,At T hd "Mask" u:=by
 cases mv with
 |none=>exact⟨_,m⟩
 |some v=>cases v with
  |list ps=>refine ai m λ Gv zz x=> ?_;clear m;exact⟨_,x⟩
  |_=>exact⟨_,m⟩
theorem rU(a2:aW (HV T) vs xs)(k:fW ks vs nm W h b mv sv)(FH:fE nm c)(dm:ca px W h b c)(hb:D5 b)(Fk:1<=W)(hW:W<=8)(Fj:1<=h)(hh:h<=8):nU T (.dict ks xs) px nm W h b c:=by
 have hi:∃v,At T (.dict ks xs) "ImageMask" v/\eu v=false:=by
  rcases k.im with e|e
  ·exact aA _ (fV a2 e) rfl
  ·exact aA _ (aQ a2 e (d9 _)) rfl
 refine ai hi λ v hv ht=> ?_;clear hi
 exact⟨FH,⟨v,hv,ht⟩,aQ a2 k.co (λ zz h=>by cases h),⟨aQ a2 k.wd (bw _),aQ a2 k.ht (bw _),Fk,Fj,.inr ⟨v,hv,aQ a2 k.bp (bw _),hb,λ h=>by rw[ht] at h;cases h⟩⟩,dm,hW,hh⟩
theorem mA(hl:ks.length=vs.length)(k:fW ks vs nm W h b mv none)(x:V):fW (aI "SMask" x ks vs).1 (aI "SMask" x ks vs).2 nm W h b mv (some x):=by
 have g:=λ s'=>i3 (s:= "SMask") (x:=x) (s':=s') hl
 exact⟨(g _).trans k.wd,(g _).trans k.ht,(g _).trans k.co,(g _).trans k.bp,k.im.imp (λ e=>(g _).trans e) λ e=>(g _).trans e,(g _).trans k.ma,g _⟩
theorem j5(hl:ks.length=vs.length)(k:fW ks vs nm W h b none none)(x:V):fW (aI "Mask" x ks vs).1 (aI "Mask" x ks vs).2 nm W h b (some x) none:=by
 have g:=λ s'=>i3 (s:= "Mask") (x:=x) (s':=s') hl
 exact⟨(g _).trans k.wd,(g _).trans k.ht,(g _).trans k.co,(g _).trans k.bp,k.im.imp (λ e=>(g _).trans e) λ e=>(g _).trans e,g _,(g _).trans k.sm⟩
theorem AP(g:Nat->Nat->V)(hg:∀i j,bj 2 (g i j)):bj 4 (aK h W g):=by
 unfold aK
 refine .list λ x hx=> ?_
 refine ai (QE.mp hx) λ i zz EL=> ?_;subst EL
 refine .list λ y hy=> ?_
 refine ai (QE.mp hy) λ j zz EL=> ?_;subst EL
 exact hg i j
theorem qx(q:∀t M',aY t [] M'->Pu M M'->M.next<=t->Q (sh t) M'):cK ak (ag ak (n+1)) 5 [] M Q X:=by
 unfold cK
 and_intros
 rewrite[ee]
 repeat infer_instance
 have e1:((M.new (.inst 5 [])).new (.EE [] [])).m M.next=some (.inst 5 []):=((Pu.new _ _).same _ (b6 _ _)).trans (bL _ _)
 refine ah e1 ?_
 repeat infer_instance
 refine fj rfl (by decide) (by decide) ?_
 refine ah (aF _ _ _) ?_
 and_intros
 refine aa (aF _ _ _) ?_
 refine cg rfl rfl ?_
 have hl:(M.new (.inst 5 [])).next=M.next+1:=rfl
 refine q _ _ ⟨?_,?_⟩ ((((Pu.new M _).trans (Pu.new _ _)).En (PC _) _).En (PC _) _|>.Eu (PC _)) (RP _)
 ·refine aa (cA _ (ae 0x92600d244306149102 rfl ((M.new (O.inst 5 [])).next) M.next hl)) ?_;refine aa (be _ _ (ae 0x92600d244306149102 rfl ((M.new (O.inst 5 [])).next) M.next hl)) ?_;refine aa (be _ _ (ae 0x92600d244306149102 rfl ((M.new (O.inst 5 [])).next) M.next hl)) ?_
  exact bL _ _
 ·exact Rb _
theorem tM
  (s:aV w cc t K T M)(hR:M.m R=some (.Er ks vs))(EZ:R<M.next)(hRw:R≠w/\R≠cc/\R≠t)(pn:ft 5 ks vs 7 16)(hl:T.length<=40)(hK:K<=2^70)
  (dm:ca px W h b c)(hW:W<=4)(hh:h<=4)(EX:1<=b)(hb:b<=16)(hc:c<=4)
  (gb:∀xs T',T<+:T'->aW (HV T') vs xs->(bad=false->vz t T' [sh t,.dict [] [],EG (.dict ks xs) px b,.fn 67,.int pl] h W a p)/\(bad=true->yZ t T' [sh t,.dict [] [],EG (.dict ks xs) px b,.fn 67,.int pl]))
  (q:∀M',Q (.bool true) M'):
  bq ak (ag ak (n+12)) (bC 12 gC.body) [a0,some (.ref w),some (bk px),some (.ref R),some (aK h W λ i j=>.tup [.int (a i j),.int (p i j)]),some (.bool bad),none,none,a8,a9,a10,some (sh t),some (.int pl),a13,a14,some (.int b),some (.int W),some (.int h),a18,a19,a20,a21,a22,a23] M N Q X:=by
 and_intros
 refine aa (iQ hR) ?_
 have sk:=s.Eu (i:=R) hRw.1 hRw.2.1 hRw.2.2
 have c1:=pn.cst
 have m1:=pn.most
 refine oh (n:=n+8) (d:=5) (by decide) (by decide) sk pn.pv pn.len pn.nd (ae 0x906f4419d101 rfl ks.length m1) (ae 0x24907e0117f052441c120680c3fd102 rfl T.length (aL vs) hl c1) (ae 0x92419401fc14910704819181fd102 rfl K (aL vs) hK c1) λ xs T' M1 s1 f1 p1 l1 a1 o1=> ?_
 refine oa (n:=n+10) dm hW (ae 0x906844191101 rfl h hh) EX hb hc λ M2 k2=> ?_
 refine gk λ M3 k3=> ?_
 have s3:=(s1.pu k2).pu k3
 have ho:Ob 7 (EG (.dict ks xs) px b):=kD (lg o1 (by refine aa pn.len ?_;refine aa a1.len ?_;rfl) (ae 0x90a0607f4419d101 rfl ks.length m1) (by decide)) (by decide)
 refine ai ho λ x2 q2 t2=> ?_;clear ho
 refine ai (uA (k:=5) s3.ob (ae 0x2492428181fd30414914c1c120680c3fd103 rfl T.length (aL vs) T'.length hl c1 l1) (by decide)) λ x1 q1 t1=> ?_
 obtain⟨g1,g2⟩:=gb xs T' p1 a1
 refine t1 t (n+6) _ _ _ s3.Gp λ M4 k4=> ?_
 refine t2 (n+5) _ _ _ λ M5 k5=> ?_
 have s5:=(s3.pu k4).pu k5
 have last:∀{M6:AH} {a6 a7:Option V},aV w cc t (K+aL vs) T' M6->bq ak (ag ak (n+12)) (bC 15 gC.body) [a0,some (.ref w),some (bk px),some (.ref R),some (aK h W λ i j=>.tup [.int (a i j),.int (p i j)]),some (.bool bad),some (EG (.dict ks xs) px b),some (.tup [x1,x2]),a8,a9,a10,some (sh t),some (.int pl),a13,a14,some (.int b),some (.int W),some (.int h),a18,a19,a20,a21,a22,a23] M6 N Q X:=by
  intro M6 a6 a7 s6
  refine t1 t (n+6) _ _ _ s6.Gp λ M7 k7=> ?_
  refine t2 (n+5) _ _ _ λ M8 k8=> ?_
  have qq:bj 15 (.tup [x1,x2]):=bj.two (q1.mono (by decide)) (q2.mono (by decide))
  refine ah (qq.self (by decide)) ?_
  exact q _
 have ge:bj 4 (aK h W λ i j=>.tup [.int (a i j),.int (p i j)]):=AP _ λ i j=>bj.two (.int _) (.int _)
 cases bad with
 |false=>
  refine pL s5.Gp (g1 rfl) (ae 0x906844191101 rfl h hh) (ae 0x906844191101 rfl W hW) λ M6 k6=> ?_
  and_intros
  have e:rK M6 .ne (aK h W λ i j=>.tup [.int (a i j),.int (p i j)]) (aK h W λ i j=>.tup [.int (a i j),.int (p i j)])=some false:=by
   show(kM (aK h W λ i j=>.tup [.int (a i j),.int (p i j)]) (aK h W λ i j=>.tup [.int (a i j),.int (p i j)])).map (!·)=_
   refine aa (ge.self (by decide)) ?_;rfl
  refine ah e ?_
  repeat infer_instance
  exact last (a6:=none) (a7:=none) (s5.pu k6)
 |true=>
  refine qy s5.Gp (g2 rfl) λ M6 k6=> ?_
  repeat infer_instance
  exact last (a6:=none) (a7:=none) (s5.pu k6)
end
def Dj(t:Nat)(T0:List V)(nm:String)(px:List (List (List Nat)))(W h b c pl:Nat)(mv:Option V)(bad:Bool)(a p:Nat->Nat->Int):Prop:=
 ∀T' hd v,T0<+:T'->nU T' hd px nm W h b c->At T' hd "SMask" v->kT v->zN T' hd mv->
  (bad=false->vz t T' [sh t,.dict [] [],EG hd px b,.fn 67,.int pl] h W a p)/\(bad=true->yZ t T' [sh t,.dict [] [],EG hd px b,.fn 67,.int pl])
section
variable{n t w cc K W h b c pl bent sw:Nat}{T T':List V}{ks:List String}{vs xs:List V}{px:List (List (List Nat))}{nm:String}{mv sv:Option V}{a p:Nat->Nat->Int}{M M':AH}{Q:V->AH->Prop}{X:AH->Prop}
theorem D5.of{b:Nat}(h:D5 b):1<=b/\b<=16:=h.le
theorem PV.EG(h:Ob 5 (.inst 3 fs)):PV 5 (.inst 3 fs):=.inr ⟨λ zz h=>(by cases h),(show(3:Nat)≠4 by decide),h⟩
theorem mh
  (s:aV w cc t K T M)(hR:M.m R=some (.Er ks vs))(EZ:R<M.next)(hRw:R≠w/\R≠cc/\R≠t)(pn:ft 5 ks vs 6 15)(k:fW ks vs nm W h b mv none)(hl:T.length<=20)(hK:K<=2^50)
  (FH:fE nm c)(dm:ca px W h b c)(Fk:1<=W)(hW:W<=4)(Fj:1<=h)(hh:h<=4)(hb:D5 b)(hc:c<=4)(hp:pl<=9)(mp:Dj t T nm px W h b c pl mv bad a p)(q:∀M',Q (.bool true) M'):
  bq ak (ag ak (n+12)) (bC 11 gC.body) [a0,some (.ref w),some (bk px),some (.ref R),some (aK h W λ i j=>.tup [.int (a i j),.int (p i j)]),some (.bool bad),none,none,some (.int (bent:Int)),some (.int (sw:Int)),a10,some (sh t),some (.int pl),a13,a14,some (.int b),some (.int W),some (.int h),a18,a19,none,none,a22,a23] M N Q X:=by
 have Fo:=hb.le
 have Ho:∀{F6:List String} {FD:List V} {sv:Option V} {v:V} {K':Nat} {M1:AH} {a20 a21:Option V},aV w cc t K' T M1->K'<=K+10->M1.m R=some (.Er F6 FD)->R<M1.next->ft 5 F6 FD 7 16->fW F6 FD nm W h b mv sv->kT v->
   (∀xs T',aW (HV T') FD xs->At T' (.dict F6 xs) "SMask" v)->
   bq ak (ag ak (n+12)) (bC 12 gC.body) [a0,some (.ref w),some (bk px),some (.ref R),some (aK h W λ i j=>.tup [.int (a i j),.int (p i j)]),some (.bool bad),none,none,some (.int (bent:Int)),some (.int (sw:Int)),a10,some (sh t),some (.int pl),a13,a14,some (.int b),some (.int W),some (.int h),a18,a19,none,none,a22,a23] M1 N Q X:=by
  intro F6 FD sv v K' M1 a20 a21 s1 Ib Jk G8 NW k1 ns FS
  refine tM s1 Jk G8 hRw NW (ae 0x241a030ff441d1101 rfl T.length hl) (ae 0x92419181fd2041a914818c81fd102 rfl K K' hK Ib) dm hW hh Fo.1 Fo.2 hc (λ xs T' p1 a1=> ?_) q
  exact mp T' _ v p1 (rU a1 k1 FH dm hb Fk (ae 0x906844191101 rfl W hW) Fj (ae 0x906844191101 rfl h hh)) (FS xs T' a1) ns (rS a1 k1)
 refine⟨λ hs=> ?_,λ hs=> ?_⟩
 ·refine sE (n:=n+6) (bad:=((bent:Int)==2)) s hl (ae 0x9063c07f4418c81fd101 rfl K hK) hp λ fs W2 h2 f T1 M1 s1 f1 p1 l1 o1 w1 w2 h3 h4 gg gb=> ?_
  and_intros
  have Jk:M1.m R=some (.Er ks vs):=(f1.same _ EZ hRw.1 hRw.2.1 hRw.2.2).trans hR
  refine ah Jk ?_
  refine ah (bV (PO pn.most (by decide))) ?_
  refine jS (n:=n+10) (g:=λ i j=>n7 (f i j) pl) Fk (ae 0x906844191101 rfl W hW) Fj (ae 0x906844191101 rfl h hh) w1 w2 h3 h4 λ M2 k2=> ?_
  have s2:=(s1.En hRw.1 hRw.2.1 hRw.2.2 (.Er (aI "SMask" (.inst 3 fs) ks vs).1 (aI "SMask" (.inst 3 fs) ks vs).2)).pu k2
  have GD:R<(M1.set R (.Er (aI "SMask" (.inst 3 fs) ks vs).1 (aI "SMask" (.inst 3 fs) ks vs).2)).next:=PI EZ f1.next
  have k1:=mA pn.len k (.inst 3 fs)
  refine tM (a:=λ i j=>(nd (f (bm i h h2) (bm j W W2)) pl).1) (p:=λ i j=>((nd (f (bm i h h2) (bm j W W2)) pl).2:Int)) s2 ((k2.same _ GD).trans (aF _ _ _)) (PI GD k2.next) hRw ((pn.put (PV.EG o1) "SMask").mono (by decide) (by show 15+1<=16;decide)) (ae 0x2490680c3fd2041d11481d1102 rfl T.length T1.length hl l1) (ae 0x9064607f06ee0327f4418c81fd101 rfl K hK) dm hW hh Fo.1 Fo.2 hc (λ xs T' p2 a1=> ?_) q
  have I:=rU a1 k1 FH dm hb Fk (ae 0x906844191101 rfl W hW) Fj (ae 0x906844191101 rfl h hh)
  have hs:=aQ a1 k1.sm (λ zz h=>by cases h)
  obtain⟨u,hm⟩:=(rS a1 k1).some
  exact⟨λ e n M Q X hT q=>Av hT I hs hm (gg e T' p2) w1 w2 h3 h4 q,λ e n M Q X hT q=>sJ hT I hs hm (gb e T' p2) q⟩
 ·refine aX (n:=n+11) (m:=2) s (by decide) (by decide) (ae 0x9066407f4418c81fd101 rfl K hK) λ r M1 hr s1 f1=> ?_
  have Jk:M1.m R=some (.Er ks vs):=(f1.same _ EZ hRw.1 hRw.2.1 hRw.2.2).trans hR
  have G8:R<M1.next:=PI EZ f1.next
  refine⟨λ h0=> ?_,λ h0=> ?_⟩
  ·refine fQ λ M2 k2=> ?_
   refine fj rfl (by decide) (by decide) ?_
   refine aX (n:=n+11) (m:=3) (s1.pu k2) (by decide) (by decide) (ae 0x9066407f0614418c81fd101 rfl K hK) λ r M3 hr s3 f3=> ?_
   have LZ:M3.m R=some (.Er ks vs):=(f3.same _ (PI G8 k2.next) hRw.1 hRw.2.1 hRw.2.2).trans ((k2.same _ G8).trans Jk)
   have LY:R<M3.next:=PI G8 (PO k2.next f3.next)
   have put:∀(x:V),PV 5 x->cq x<=1->kT x->(∀ps,x≠.list ps)->
     aB (dL (.Er ks vs) (.str "SMask") x) λ o=>bq ak (ag ak (n+12)) (bC 12 gC.body) [a0,some (.ref w),some (bk px),some (.ref R),some (aK h W λ i j=>.tup [.int (a i j),.int (p i j)]),some (.bool bad),none,none,some (.int (bent:Int)),some (.int (sw:Int)),a10,some (sh t),some (.int pl),a13,a14,some (.int b),some (.int W),some (.int h),a18,a19,none,none,a22,a23] (M3.set R o) N Q X:=by
    intro x hx LM ns nl
    refine ah (bV (PO pn.most (by decide))) ?_
    exact Ho (a20:=none) (a21:=none) (s3.En hRw.1 hRw.2.1 hRw.2.2 _) (ae 0x106a44184185101 rfl K) (aF _ _ _) LY ((pn.put hx "SMask").mono (by decide) (ae 0x9070051bc185101 rfl (cq x) LM)) (mA pn.len k x) ns λ xs T' a1=>aQ a1 (mA pn.len k x).sm nl
   match r,hr with
   |0,_=>
    and_intros
    refine ah LZ ?_
    exact put (.inst 1 [.str "None"]) (PV.name (by decide) _) (by decide) (λ zz=>rfl) (λ zz h=>by cases h)
   |1,_=>
    and_intros
    refine ah LZ ?_
    exact put (.int 5) (PV.int (by decide) _) (by decide) (λ zz=>rfl) (λ zz h=>by cases h)
   |2,_=>
    and_intros
    refine ah LZ ?_
    exact put (.dict ["Width"] [.int 1]) (.inr ⟨λ zz h=>(by cases h),trivial,(lg (k:=2) (ks:=["Width"]) (vs:=[.int 1]) (λ v hv=>(by refine aa (PZ.mp hv) ?_;exact jf 1)) rfl (by decide) (by decide)).mono (by decide)⟩) (by decide) (λ zz=>rfl) (λ zz h=>by cases h)
  ·exact Ho (v:=.none) (a20:=none) (a21:=none) s1 (ae 0x106a44185101 rfl K) Jk G8 (pn.mono (by decide) (by decide)) k (λ zz=>rfl) λ xs T' a1=>fV a1 k.sm
end
section
variable{n t w cc K W h b c pl bent sw mw:Nat}{T T':List V}{ks:List String}{vs xs:List V}{px:List (List (List Nat))}{nm:String}{mv sv:Option V}{a p:Nat->Nat->Int}{M M':AH}{Q:V->AH->Prop}{X:AH->Prop}
theorem BG(h:gu v):Ob 2 v/\NR v:=by
 rcases h with⟨k,rfl⟩|⟨x,rfl⟩
 ·exact ed k
 ·exact⟨oJ x,trivial⟩
theorem yo
  (s:aV w cc t K T M)(hR:M.m R=some (.Er ks vs))(EZ:R<M.next)(hRw:R≠w/\R≠cc/\R≠t)(pn:ft 5 ks vs 5 5)(k:fW ks vs nm W h b none none)(hl:T.length=0)(hK:K<=2^40)
  (FH:fE nm c)(dm:ca px W h b c)(Fk:1<=W)(hW:W<=4)(Fj:1<=h)(hh:h<=4)(hb:D5 b)(hc1:1<=c)(hc:c<=4)(hp:pl<=9)(q:∀M',Q (.bool true) M'):
  bq ak (ag ak (n+12)) (bC 10 gC.body) [a0,some (.ref w),some (bk px),some (.ref R),some (aK h W λ i j=>.tup [.int 1,.int 0]),some (.bool false),none,none,some (.int (bent:Int)),some (.int (sw:Int)),some (.int (mw:Int)),some (sh t),some (.int pl),a13,some (.int c),some (.int b),some (.int W),some (.int h),none,none,none,none,a22,a23] M N Q X:=by
 have Fo:=hb.le
 have Nh:∀{M1:AH},bh w cc t M M1->M1.m R=some (.Er ks vs):=λ f=>(f.same _ EZ hRw.1 hRw.2.1 hRw.2.2).trans hR
 refine⟨λ hm=> ?_,λ hm=> ?_⟩
 ·refine⟨λ h1=> ?_,λ h1=> ?_⟩
  ·refine n9 (n:=n+6) (bad:=((bent:Int)==1)) s (ae 0x907444381101 rfl T.length hl) (ae 0x9063c07f4418a01fd101 rfl K hK) λ fs W2 h2 f T1 M1 s1 f1 p1 l1 o1 w1 w2 h3 h4 gg gb=> ?_
   and_intros
   refine ah (Nh f1) ?_
   refine ah (bV (PO pn.most (by decide))) ?_
   have one:((mw:Int))=1:=by
    have:=h1
    rw[beq_iff_eq] at this
    exact this
   refine⟨λ h2=> ?_,λ zz=> ?_⟩
   ·have h2:=of_decide_eq_true h2
    lia
   refine jS (n:=n+10) (g:=λ i j=>.tup [.int (if f i j then 1 else 0),.int 0]) Fk (ae 0x906844191101 rfl W hW) Fj (ae 0x906844191101 rfl h hh) w1 w2 h3 h4 λ M2 k2=> ?_
   have k1:=j5 pn.len k (.inst 3 fs)
   have s2:=(s1.En hRw.1 hRw.2.1 hRw.2.2 (.Er (aI "Mask" (.inst 3 fs) ks vs).1 (aI "Mask" (.inst 3 fs) ks vs).2)).pu k2
   have GD:R<(M1.set R (.Er (aI "Mask" (.inst 3 fs) ks vs).1 (aI "Mask" (.inst 3 fs) ks vs).2)).next:=PI EZ f1.next
   refine mh (a:=λ i j=>if f (bm i h h2) (bm j W W2) then 1 else 0) (p:=λ zz zz=>0) s2 ((k2.same _ GD).trans (aF _ _ _)) (PI GD k2.next) hRw ((pn.put (PV.EG o1) "Mask").mono (by decide) (by show 5+1<=15;decide)) k1 (ae 0x9241d12041d1148381102 rfl T.length T1.length hl l1) (ae 0x9063207f06ee0327f4418a01fd101 rfl K hK) FH dm Fk hW Fj hh hb hc hp (λ T' hd v p1 I hs ns ma=> ?_) q
   exact⟨λ e n M Q X hT q=>Ax hT I hs ns ma (gg e T' p1) w1 w2 h3 h4 q,λ e n M Q X hT q=>sK hT I hs ns ma (gb e T' p1) q⟩
  ·refine pJ (n:=n+6) (bad:=((bent:Int)==1)) s dm Fk hW Fj hh Fo.1 Fo.2 hc1 hc (ae 0x9063c07f4418a01fd101 rfl K hK) λ Hk ns M1 s1 f1 kv l9 gg gb=> ?_
   and_intros
   refine ah (Nh f1) ?_
   refine ah (bV (PO pn.most (by decide))) ?_
   have h1:(mw:Int)≠1:=by
    intro e
    rw[beq_eq_false_iff_ne] at h1
    exact h1 e
   have hm:=of_decide_eq_true hm
   refine⟨λ zz=> ?_,λ h2=> ?_⟩
   rotate_left
   ·have h2:=of_decide_eq_false h2
    lia
   have k1:=j5 pn.len k (.list Hk)
   have s2:=s1.En hRw.1 hRw.2.1 hRw.2.2 (.Er (aI "Mask" (.list Hk) ks vs).1 (aI "Mask" (.list Hk) ks vs).2)
   have GD:R<(M1.set R (.Er (aI "Mask" (.list Hk) ks vs).1 (aI "Mask" (.list Hk) ks vs).2)).next:=PI EZ f1.next
   have pv:PV 5 (.list Hk):=.inl ⟨_,rfl,ae 0x9074441a5101 rfl Hk.length l9,λ p hp=>BG (kv p hp)⟩
   refine mh (a:=λ i j=>if !fC (bN px i j) ns then 1 else 0) (p:=λ zz zz=>0) s2 (aF _ _ _) GD hRw ((pn.put pv "Mask").mono (by decide) (by show 5+(Hk.length+1)<=15;exact ae 0x906f041851941a5101 rfl Hk.length l9)) k1 (ae 0x907444381101 rfl T.length hl) (ae 0x9063207f0720217f4418a01fd101 rfl K hK) FH dm Fk hW Fj hh hb hc hp (λ T' hd v p1 I hs MG ma=> ?_) q
   refine ai ma λ Gv a2 Ni=> ?_;clear ma
   have Gk:=a2.len
   refine⟨λ e n M Q X hT q=> ?_,λ e n M Q X hT q=> ?_⟩
   ·refine ei (gg e) λ HQ l2 l3=> ?_;subst HQ
    exact Ay hT I hs MG Ni a2 l2 l3 q
   ·exact sL hT I hs MG Ni a2 (ae 0x24907e80c7fd20d1481a5102 rfl Hk.length Gv.length l9 Gk) kv (gb e) q
 ·refine mh (a18:=none) (a19:=none) (a:=λ zz zz=>1) (p:=λ zz zz=>0) s hR EZ hRw (pn.mono (by decide) (by decide)) k (ae 0x907444381101 rfl T.length hl) (ae 0x9063207f4418a01fd101 rfl K hK) FH dm Fk hW Fj hh hb hc hp (λ T' hd v p1 I hs ns ma=>⟨λ zz n M Q X hT q=>Aw hT I hs ns ma q,λ h=>by cases h⟩) q
end
section
variable{n t w cc K W h b c pl bent sw mw:Nat}{T:List V}{ks:List String}{vs xs:List V}{px:List (List (List Nat))}{nm:String}{M M':AH}{Q:V->AH->Prop}{X:AH->Prop}
theorem CR(M:AH)(r:Nat)(hr:r<6):∃b:Nat,b<=9/\eh M (.tup [.int 4,.int 0,.int 1,.int 2,.int 3,.int 9]) (.int r)=some (.int b):=by
 match r,hr with
 |0,_=>exact aA 4 (by decide) rfl
 |1,_=>exact aA 0 (by decide) rfl
 |2,_=>exact aA 1 (by decide) rfl
 |3,_=>exact aA 2 (by decide) rfl
 |4,_=>exact aA 3 (by decide) rfl
 |5,_=>exact aA 9 (by decide) rfl
theorem CU(M:AH)(r:Nat)(hr:r<3):∃(nm:String) (c:Nat),fE nm c/\1<=c/\c<=4/\eh M (.tup [.tup [.str "DeviceGray",.int 1],.tup [.str "DeviceRGB",.int 3],.tup [.str "DeviceCMYK",.int 4]]) (.int r)=some (.tup [.str nm,.int c]):=by
 match r,hr with
 |0,_=>exact yz _ 1 (.inl ⟨rfl,rfl⟩) (by decide) (by decide) rfl
 |1,_=>exact yz _ 3 (.inr (.inl ⟨rfl,rfl⟩)) (by decide) (by decide) rfl
 |2,_=>exact yz _ 4 (.inr (.inr ⟨rfl,rfl⟩)) (by decide) (by decide) rfl
theorem Bp(M:AH)(r:Nat)(hr:r<5):∃b:Nat,D5 b/\eh M (.tup [.int 2,.int 16,.int 1,.int 8,.int 4]) (.int r)=some (.int b):=by
 match r,hr with
 |0,_=>exact aA 2 (.inr (.inl rfl)) rfl
 |1,_=>exact aA 16 (.inr (.inr (.inr (.inr rfl)))) rfl
 |2,_=>exact aA 1 (.inl rfl) rfl
 |3,_=>exact aA 8 (.inr (.inr (.inr (.inl rfl)))) rfl
 |4,_=>exact aA 4 (.inr (.inr (.inl rfl))) rfl
theorem tL
  (s:aV w cc t K T M)(hR:M.m R=some (.Er ks vs))(EZ:R<M.next)(hRw:R≠w/\R≠cc/\R≠t)(pn:ft 5 ks vs 5 5)(k:fW ks vs nm W h b none none)(hl:T.length=0)(hK:K<=2^40)
  (FH:fE nm c)(dm:ca px W h b c)(Fk:1<=W)(hW:W<=4)(Fj:1<=h)(hh:h<=4)(hb:D5 b)(hc1:1<=c)(hc:c<=4)(hp:pl<=9)(q:∀M',Q (.bool true) M'):
  bq ak (ag ak (n+12)) (bC 8 gC.body) [a0,some (.ref w),some (bk px),some (.ref R),none,none,none,none,some (.int (bent:Int)),some (.int (sw:Int)),some (.int (mw:Int)),some (sh t),some (.int pl),a13,some (.int c),some (.int b),some (.int W),some (.int h),none,none,none,none,a22,a23] M N Q X:=by
 and_intros
 refine aa (gz dm) ?_
 refine dQ (h:=h) (w:=W) (g':=λ i j=>.tup [.int 1,.int 0]) (ae 0x906844191101 rfl h hh) (ae 0x906844191101 rfl W hW) (λ i hi M2 k2 K hK=> ?_) λ M2 k2=> ?_
 ·and_intros
  refine cb (n:=W) (g':=λ j=>.tup [.int 1,.int 0]) (by unfold aq;exact ae 0x48386a0533f44191101 rfl W hW) (λ j hj M3 k3 K2 E7=> ?_) λ M3 k3=>hK _ (k2.trans k3)
  and_intros
  exact E7 _ k3
 ·exact yo (s.pu k2) ((k2.same _ EZ).trans hR) (PI EZ k2.next) hRw pn k hl hK FH dm Fk hW Fj hh hb hc1 hc hp q
set_option maxHeartbeats 4000000 in
theorem Bb{is:List Int}(hl:is.length<=63)(q:∀M',Q (.bool true) M'):ag ak (n+13) 76 [.list (is.map .int)] M Q X:=by
 refine Ev gC rfl rfl rfl ?_;and_intros
 refine sC (n:=n+11) hl λ w cc M0 hw=> ?_
 and_intros
 have d0:∀{m K:Nat} {M:AH} {Q:V->AH->Prop} {X:AH->Prop},Wl w cc K M->0<m->m<=2^100->K<=2^100->(∀(r:Nat) M',r<m->Wl w cc (K+1) M'->Dv w cc M M'->Q (.int r) M')->ag ak (n+12) 62 [.ref w,.int m] M Q X:=
  λ h hm Gc hK q=>th (n:=n+11) h hm Gc hK q
 refine d0 (m:=6) hw (by decide) (by decide) (by decide) λ bent M1 zz w1 zz=> ?_
 and_intros
 refine d0 (m:=3) w1 (by decide) (by decide) (by decide) λ sw M2 zz w2 zz=> ?_
 and_intros
 refine d0 (m:=4) w2 (by decide) (by decide) (by decide) λ mw M3 zz w3 zz=> ?_
 repeat infer_instance
 refine qx (n:=n+11) λ t M4 tb k4 ht=> ?_
 have l3:=w3.HU
 have N6:=w3.HW
 have s4:aV w cc t 3 [] M4:=⟨w3.pu k4,tb,ae 0x92498034d20914c149103 rfl M3.next t w ht l3,ae 0x92498034d20914c149103 rfl M3.next t cc ht N6,λ v hv=>by cases hv⟩
 refine aX (n:=n+11) (m:=6) s4 (by decide) (by decide) (by decide) λ r5 M5 h5 s5 f5=> ?_
 refine ai (CR M5 r5 h5) λ pl Ik e5=> ?_
 refine ah e5 ?_
 refine aX (n:=n+11) (m:=3) s5 (by decide) (by decide) (by decide) λ r6 M6 h6 s6 f6=> ?_
 refine oQ (CU M6 r6 h6) λ nm c FH c1 c4 e6=> ?_
 and_intros
 refine ah e6 ?_
 and_intros
 refine aX (n:=n+11) (m:=5) s6 (by decide) (by decide) (by decide) λ r7 M7 h7 s7 f7=> ?_
 refine ai (Bp M7 r7 h7) λ b hb e7=> ?_
 have Fo:=hb.le
 and_intros
 refine ah e7 ?_
 and_intros
 refine aX (n:=n+11) (m:=4) s7 (by decide) (by decide) (by decide) λ r8 M8 h8 s8 f8=> ?_
 and_intros
 refine aX (n:=n+11) (m:=3) s8 (by decide) (by decide) (by decide) λ r9 M9 h9 s9 f9=> ?_
 and_intros
 refine aa (gH _) ?_;refine aa (gH _) ?_
 have hW:1<=1+r8/\1+r8<=4:=ae 0x91c190146104146184291101 rfl r8 h8
 have hh:1<=1+r9/\1+r9<=4:=ae 0x91c19014610414618428d101 rfl r9 h9
 generalize 1+r8=W at*
 generalize 1+r9=h at*
 refine kf (n:=n+10) s9 (ae 0x906844706444146101 rfl W hW) (ae 0x906844706444146101 rfl h hh) Fo.1 Fo.2 c4 (by decide) λ px M10 dm NS f10=> ?_
 and_intros
 refine fQ (n:=n+11) λ GL Lh=> ?_
 and_intros
 refine fj rfl (by decide) (by decide) ?_
 and_intros
 have Mz:=NS.pu Lh
 have EM:=Mz.lt
 have NQ:=Mz.pu (Pu.new GL (.Er ["Width","Height","ColorSpace","BitsPerComponent"] [.int W,.int h,.inst 1 [.str nm],.int b]))
 have pn:ft 5 ["Width","Height","ColorSpace","BitsPerComponent"] [.int W,.int h,.inst 1 [.str nm],.int b] 4 4:=
  ⟨rfl,by decide,λ v hv=>by simp at hv;rcases hv with rfl|rfl|rfl|rfl<;>first|exact PV.int (by decide) _|exact PV.name (by decide) _,by decide,PC 4⟩
 refine aX (n:=n+11) (m:=3) NQ (by decide) (by decide) (by decide) λ r13 Px KO My ND=> ?_
 have J5:=(ND.same _ (b6 _ _) (ae 0x92600d14871c24940924c249104 rfl w GL.next cc t EM) (ae 0x92600d34871c24940924c249104 rfl w GL.next cc t EM) (ae 0x92600d44871c24940924c249104 rfl w GL.next cc t EM)).trans (bL GL (.Er ["Width","Height","ColorSpace","BitsPerComponent"] [.int W,.int h,.inst 1 [.str nm],.int b]))
 have Iw:GL.next<Px.next:=PI (b6 _ _) ND.next
 and_intros
 refine⟨λ zz=> ?_,λ zz=> ?_⟩
 ·and_intros
  refine ah J5 ?_
  refine ah (bV (by decide)) ?_
  exact tL (My.En (ae 0x92600d14871c24940924c249104 rfl w GL.next cc t EM) (ae 0x92600d34871c24940924c249104 rfl w GL.next cc t EM) (ae 0x92600d44871c24940924c249104 rfl w GL.next cc t EM) _) (aF _ _ _) Iw ⟨ae 0x92600d14871c24940924c249104 rfl w GL.next cc t EM,ae 0x92600d34871c24940924c249104 rfl w GL.next cc t EM,ae 0x92600d44871c24940924c249104 rfl w GL.next cc t EM⟩ ((pn.put (PV.bool (by decide) false) "ImageMask").mono (by decide) (show 4+1<=5 by decide)) ⟨rfl,rfl,rfl,rfl,.inr rfl,rfl,rfl⟩ rfl (by decide) FH dm hW.1 hW.2 hh.1 hh.2 hb c1 c4 Ik q
 ·exact tL My J5 Iw ⟨ae 0x92600d14871c24940924c249104 rfl w GL.next cc t EM,ae 0x92600d34871c24940924c249104 rfl w GL.next cc t EM,ae 0x92600d44871c24940924c249104 rfl w GL.next cc t EM⟩ (pn.mono (by decide) (by decide)) ⟨rfl,rfl,rfl,rfl,.inl rfl,rfl,rfl⟩ rfl (by decide) FH dm hW.1 hW.2 hh.1 hh.2 hb c1 c4 Ik q
end
end Mine
section
namespace Mine
open PySem
theorem BE:pZ:=λ is hl=>Bb (n:=47) hl λ zz=>rfl
theorem holds:RU.Holds:=yq BE
end Mine
end
theorem PySem.Challenge.cw_pq0813_01_holds : PySem.Challenge.rw_pq0813_01.Holds :=
  Mine.holds
