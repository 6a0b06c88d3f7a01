import PyProof.Rows.All
import Wide.All
import OpenK.AllK
import Wide.FinOn
import KE.BytesMulAny
import PyProof.Rows.CountFlat
import Lean
import PySem.Challenge.RW_og0107_01
set_option Elab.async false
set_option maxRecDepth 1000000
set_option maxHeartbeats 0
set_option linter.all false
set_option tactic.hygienic false
set_option bootstrap.genMatcherCode false
set_option compiler.extract_closed false
namespace Mine
open PySem PySem.W PySem.Calls PyProof.Rows
open PySem PySem.W
open PySem.W.KBw (IsBytesIter)
open _root_.Nat renaming ble_eq_true_of_le->Dh, ble->Dn, le_trans->Dr, beq->Dy, eq_of_beq_eq_true->Dz, le_refl->DQ, lt_of_le_of_lt->DY, lt_of_lt_of_le->DZ, le_of_ble_eq_true->D5, ne_of_lt->D9, le_of_eq->Eg, succ_le_succ->Em, lt_succ_self->En, zero_le->Ep, sub_add_cancel->Et, le_add_right->Ex, pow_le_pow_right->EM, lt_irrefl->EN, le_of_lt->EP, min_eq_left->ET, add_right_comm->EY, blt->E1, sub_self->E7, sub_le->Fd, sub_eq_zero_of_le->Ff, add_le_add_right->Fs, lt_succ_of_le->Ft, add_sub_cancel_left->FD, add_le_add->FE, add_assoc->FR, pow_pos->F8, min_eq_right->F9, ne_of_gt->Gb, add_le_add_left->Gd, add_sub_cancel'->Ge, le_add_left->Gm, min_le_right->GC, not_lt->GD, zero_add->GP, lt_succ_of_lt->G5, le_of_lt_succ->G6, exists_eq_add_of_le'->G8, sub_sub_self->Hi, sub_le_iff_le_add'->Hq, min_le_left->Hy, not_lt_zero->Hz, blt_eq->IG, succ_pos->I8, rec->Jb, sub_lt_left_of_lt_add->JT, toDigits->Km, sub_zero->Kn, le_total->Ko, add_zero->Kp, div_le_div_right->KH, lt_sub_of_add_lt->KL, lt_of_lt_of_eq->Lb, le_of_succ_le->Lr, lt_of_succ_lt->Ls, mod_eq_of_lt->LO, le_of_not_lt->LP
open _root_.List renaming append_assoc->Di, length_map->Do, replicate->Dp, length_append->Ds, mem_cons->Dv, map_append->Dw, getElem?_eq_getElem->DA, map_cons->DB, length_cons->DC, length_replicate->DD, mem_map_of_mem->DE, mem_append_right->DF, append_nil->DG, getElem?_map->DH, size_toArray->DJ, mem_append->DL, prefix_refl->DM, mem_append_left->DN, getElem?_append_right->DO, getD_eq_getElem?_getD->DP, nodup_iff_pairwise_ne->DS, mem_of_getElem?->DU, mem_map->DV, mem_singleton->DW, all_eq_true->D2, nodup_append->D3, nodup_cons->D6, length_drop->D7, not_mem_nil->Eb, getElem?_eq_none->Ed, getElem?_eq_some_iff->Ei, length_take->Ej, getElem?_append_left->Eo, length_nil->Ew, mem_iff_getElem?->Ey, lookup_cons->EE, any_cons->EI, map_map->EJ, toArray->EO, getElem?_eq_none_iff->EU, cons_append->EX, eq_of_mem_replicate->E0, isEmpty_iff->E8, nodup_nil->E9, nil_append->Fo, pairwise_map->Fq, replicate_succ->Fx, any_eq_true->FC, take_of_length_le->FK, map_nil->FL, mem_cons_of_mem->FZ, mem_range->F5, range->F7, Pairwise->Gi, prefix_append->Gk, mem_filterMap->Gl, ext_getElem?->Gu, getElem?_set->Gv, getElem_mem->GB, map_congr_left->GH, length_reverse->GI, reverse_cons->GX, lookup->G2, getElem?_cons_succ->Hb, mem_reverse->Hc, map_reverse->He, drop_of_length_le->Hn, nil_prefix->Hs, getElem?_toArray->Hu, mem_of_mem_drop->HO, mem_of_mem_take->HP, filterMap_cons->H9, take_replicate->Ia, IsPrefix->Ii, map_replicate->Im, zip_cons_cons->Io, flatten_cons->IL, filter_cons->Jd, perm_middle->Je, length->Jh, mem_filter->Jo, foldl_cons->Jp, drop_eq_getElem_cons->JM, contains_eq_any_beq->JV, map_take->J2, length_eq_zero_iff->J4, filter_cons_of_pos->J5, filter_cons_of_neg->J6, map_set->Kb, Sublist->Kc, length_filter_le->Ke, take_eq_take_iff->Kg, drop_eq_nil_iff->Kw, map_id->KF, getElem_of_mem->KM, map_inj_right->KW, getElem?_inj->Ld, getElem_map->Lu, append_cons->Lw, drop_append->Lx, take_append->Ly, forIn_cons->LQ, find?_cons->LR, length_set->LU
open _root_.PySem renaming wpAny_bind->Dj, Value->Dk, Shared->Dm, Addr->Du, wpAny_pure->Dx, Heap->DI, builtinLookup_eq_fast->DX, Builtin->D1, wpAny_specialOf->D4, wpAny_of_eq->D8, typeLookup_type->Ee, Scope->Ef, Stmt->Ek, wpAny_field->EA, DictEntry->EL, wpAny_loadPart_at->EV, NameKind->EW, Around->E3, Program->E4, getMethod_builtin->E6, Const->Fu, wpAny_newObj_type->Fy, bindL->FF, wpAny_callSpecial?_slot->FM, isSubtype_type->FO, wpAny_mono->FU, bindC->FW, World->FX, wpAny_rule->Gg, wpAny_isInstance->Gj, wpAny_isSubtype_exc->Gn, wpAny_holding->Gr, plainId_quiet->Gs, wpAny_setField_rec->Gw, wpAny_getItem_str_slice->Gy, wpAny_call_entry->GJ, wpAny_load->GL, wpAny_standAt->GM, Builtin->GY, wpAny_newFunctionEnv_cells->G7, OsState->Hp, wpAny_execs_cons->HG, ClassData->HK, FuncData->HL, strKind_is->HZ, codeAny_of_tree->Ib, wpAny_loadName_local->ID, IsEnum->IJ, Data->IK, Arguments->IM, Str->Ja, ExceptHandler->Jf, wpAny_Constant_str->Jg, wpAny_call->Ji, wpAny_assign_Name->Jx, call->JA, ExcName->JC, plainObj_wpAny_Assign_Attribute->JD, entryFor_of_tree->JO, arm_exec_Assign->J7, wpAny_setField->Kj, wpAny_seqItems->Kk, wpAny_loadPart->Kl, IsPart->Kr, Model->Ks, Flow->Kt, wpAt_of_wpAny->Kz, evalPart_some->KP, Spec->KV, IsEnumOut->K7, CmpOp->K9, BindsTo->Li, Result->Lj, Keeper->Lk, wpAny_storeName_local->Lp, wpAt_bind->LB, arm_assign_Subscript->LM, codeAny_call_builtin->LN, wpAny_point->LY, sizeLine_eq->LZ, Operator->L1
open _root_.Bool renaming and_eq_true->Dl, false_ne_true->Dq, and_eq_true_iff->Ea, not_eq_true'->Ec, eq_iff_iff->E5, or_eq_true->Fm, or_eq_false_iff->Fp, eq_false_iff->FT, or_true->GN, false_or->Ig, and_false->JJ, or_eq_true_iff->KN, false_eq_true->KX, not_eq_true->Lv
open _root_.PySem.Heap renaming get?_push_of_some->Dt, lt_size->DT, get?_push_size->El, SameBut->Er, UpToSlots->EB, get?_update_self->Fc, size_push->JI, MadeExcOf->JK, get?_none_of_le->Kx, ExtBut->KE, HeldW->K6
open _root_.Int renaming toNat_natCast->DK, fmod_nonneg_of_pos->Es, ofNat_lt->Ez, natCast_nonneg->EC, natCast_pow->ED, toNat_of_nonneg->EH, ofNat_le->EK, not_lt->EZ, fmod_lt_of_pos->FN, ofNat->FS, le_trans->Ga, ofNat_sub->GF, fdiv_eq_ediv_of_nonneg->GT, lt_of_lt_of_le->GU, max_eq_right->Hh, zero_add->Ht, min_eq_left->HA, sub_nonneg_of_le->HR, lt_of_le_of_lt->IE, le_of_lt->I9, ediv_nonneg->Jy, fmod_eq_emod_of_nonneg->JL, add_nonneg->JP, mul_nonneg->JQ, le_sub_left_of_add_le->JU, toNat_sub->J8, add_le_add_right->KI, ofNat_eq_natCast->KJ, natAbs_natCast->Lc
open _root_.ForInStep renaming yield->Eh
open _root_.PySem.Str renaming ofString->Eu, length->Fv
open _root_.Option.some renaming inj->EF, injEq->Gf
open _root_.Option renaming some->EG, isNone_iff_eq_none->ES, map_some->Fi, isSome_iff_exists->Gc, map_eq_some_iff->Gq, bind_some->KY, isNone->LW
open _root_.PySem.Heap.UpToSlots renaming trans->ER, of_keeps->Fe
open _root_.PySem.F renaming excBase_Exception->Fb, slot_enumerate_next->GE, plainAttrs_list->GW, plainAttrs_str->G9, args_object_init_2->Ie, slot_list_getitem->Jk, slot_list_extend->Jv, slot_str_getitem->Jw, slot_str_split->JN, slot_dict_get->JX, args_enumerate_next_1->Kv, entry_enumerate_next->KG, entry_object_init->Lq
open _root_.PySem.Around renaming frames_deeper->Fj, under_plainId->Hv
open _root_.PySem.Calls renaming Name_function_global->Fw, spliced_cons->FJ, spliced_nil->IF, evalArgs_plain->Ki
open _root_.PySem.Value renaming ref->Fz, none->GA, isStrOf->GZ, type->Hk, bytes->HJ, int->HQ, str->J3, bool->KU
open _root_.List.Pairwise renaming imp->FA
open _root_.List.IsPrefix renaming eq_of_length->FI
open _root_.Ne renaming symm->FP
open _root_.PySem.Heap.SameBut renaming update->FQ
open _root_.PyProof.Rows renaming cellsFrom_names->FV, markedEach_of_false->GV, wpAny_release'->Ha, News->HM, lookup_of_mem_nodup->IS, Below->K8
open _root_.PySem.Builtin.Range renaming rangeSize->FY, rangeFitsLong->H8, small->Jl
open _root_.PySem.Builtin.Bytes renaming buffer?->Gh, bindOptional->Gz, decodersThatHold->HD, exported->IQ, write->Jm
open _root_.PySem.Expr renaming Name->Gp, Tuple->GS, Attribute->JG, Subscript->JH, Constant->J0, ListComp->J1, UnaryOp->J9, Compare->Ka, BoolOp->KB, BinOp->K1, IfExp->K2, Slice->K3, List->LF, Dict->LG, Call->LH
open _root_.PySem.NameKind renaming free->Gx, cell->Ju
open _root_.Eq renaming refl->GG, trans->Ho
open _root_.Array renaming getElem?_eq_none_iff->GO, getElem?_modify->Hr, length_toList->HS, getElem?_eq_getElem->JE, toList_extract->Kh, toList_append->Ky
open _root_.Iff renaming rfl->GQ
open _root_.PySem.Code renaming quiet_builtin->GR
open _root_.PySem.Expr.Attribute renaming elim->G3
open _root_.PySem.Expr.Subscript renaming elim->G4
open _root_.PySem.Expr.Constant renaming elim->Hf
open _root_.PySem.Expr.ListComp renaming elim->Hg
open _root_.PySem.SeqAt renaming RcNeAt->Hj, EqAt->JB, eq_list_lengthsAt->JW, eq_listAt->LA
open _root_.PySem.Builtin.Str renaming occurrences->Hm, strKind->HN, strSliceIndices->Ik, occurrences->Jc, partsBetween->LL
open _root_.PySem.Expr.UnaryOp renaming elim->Hw
open _root_.PySem.Expr.Compare renaming elim->Hx
open _root_.PySem.PyData renaming keyHash->HB
open _root_.PySem.Challenge renaming rw_og0107_01->HE
open _root_.PySem.Builtin.SmallTypes renaming nextOf->HF, ownedTupleIsFree->Ll
open _root_.Function renaming comp->HI
open _root_.PySem.Const.bytes renaming elim->HT
open _root_.PySem.Expr.BoolOp renaming elim->HU
open _root_.PySem.Stmt.Return renaming elim->HV
open _root_.PySem.Stmt.Assign renaming elim->HW
open _root_.PySem.Value.bytes renaming elim->HX
open _root_.PySem.Sem renaming wp_mono->HY
open _root_.And renaming intro->Ic, right->Jj
open _root_.False renaming elim->Ij
open _root_.PySem.SeqAt.RcNeAt renaming lists_lengths->Il, lists->JF
open _root_.PySem.Const.none renaming elim->Ip
open _root_.PySem.Const.bool renaming elim->Iq
open _root_.PySem.Expr.BinOp renaming elim->Ir
open _root_.PySem.Expr.IfExp renaming elim->Iu
open _root_.PySem.Expr.Tuple renaming elim->Iv
open _root_.PySem.Expr.Slice renaming elim->Iw
open _root_.PySem.Stmt.While renaming elim->Iy
open _root_.PySem.Value.none renaming elim->Iz
open _root_.PySem.Value.bool renaming elim->IA
open _root_.PySem.Value.type renaming elim->IB
open _root_.PySem.Stmt.Raise renaming elim->IC
open _root_.PySem.Builtin renaming divisionGoesByPylong->IP
open _root_.PySem.Const.int renaming elim->IT
open _root_.PySem.Const.str renaming elim->IU
open _root_.PySem.Expr.Name renaming elim->IV
open _root_.PySem.Expr.List renaming elim->IW
open _root_.PySem.Expr.Dict renaming elim->IX
open _root_.PySem.Expr.Call renaming elim->IY
open _root_.PySem.Stmt.Expr renaming elim->IZ
open _root_.PySem.Value.int renaming elim->I4
open _root_.PySem.Value.str renaming elim->I5
open _root_.PySem.Value.ref renaming elim->I6
open _root_.PySem.Data.func renaming elim->I7
open _root_.PySem.Heap.IsSliceOf renaming new->Jn
open _root_.PySem.Stmt.For renaming elim->Jq
open _root_.PySem.Stmt.Try renaming elim->Jr
open _root_.PySem.Data.seq renaming elim->Js
open _root_.PySem.Data.cls renaming elim->Jt
open _root_.Prod.mk renaming injEq->Jz
open _root_.PySem.Stmt.If renaming elim->JR
open _root_.PySem.Obj renaming mk->JS, data_mapFields->La, mapSeq->Le
open _root_.PySem.SeqAt.EqAt renaming str_str->JY
open _root_.PySem.Spec renaming countIn->JZ
open _root_.PySem.Txt renaming slice->Kd
open _root_.PySem.Const renaming bytes->Kq, none->KQ, bool->KS, int->Lf, str->Lg
open _root_.PySem.Builtin.Bytes.exported renaming match_1->Ku
open _root_.List.cons renaming injEq->KA
open _root_.PySem.Stmt renaming Return->KC, Assign->KD, While->K4, Raise->K5, Expr->LJ
open _root_.PySem.Keeper renaming boundFrame->KO, machine->LC
open _root_.PySem.Shared renaming forget_eq->KZ
open _root_.Int.ofNat renaming inj->K0
open _root_.Prod renaming mk->Lh
open _root_.PySem.Builtin.ObjectAttr renaming storeInOwnDict->Lm, storeTaker?->Ln, storeInDict->Lo
open _root_.UInt8 renaming toNat_inj->Lz
open _root_.PySem.ExcName renaming means->LD
open _root_.PySem.Data renaming func->LK
open _root_.PySem.W.WShape renaming hasAll->LX
open _root_.PySem.W.WTm renaming holds->L0
set_option hygiene false in
local macro_rules
 |`(command|def $i:declId $s:optDeclSig $v:declVal)=>`(command|noncomputable def $i:declId $s:optDeclSig $v:declVal)
set_option hygiene false in
local macro_rules
 |`(tactic|walk_at $s)=>do
 let w:="ag ac aJ aH dw ao aK aL fP cM iC aA kC iT cw aT:r av:r ae:r ar:r gH:r bh:r fH:rr TF:rrr ae:a aw:rafr".splitOn " "
 let h ←`(?_)
 let a ←`(by assumption)
 let f ←`(by first|rfl|assumption)
 let b ←`(tactic|refine rfl)
 let t:=s.getString.toList.map fun c=>
  let l:=(w.getD ("abcdefghijklmnopqrstuvwxy".toList.takeWhile (· != c)).length "").splitOn ":"
  (⟨b.raw.setArg 1 (Lean.Syntax.mkApp (Lean.mkIdent (.mkSimple (l.headD ""))) (((l.getD 1 "").toList.map fun d => if d == 'a' then a else if d == 'f' then f else Lean.mkIdent `rfl).toArray.push h)).raw⟩ : Lean.TSyntax `tactic)
 `(tactic|($[$(t.toArray)]*))
theorem V1:OpenLaw.wellSaid HE=true:=by
 unfold OpenLaw.wellSaid
 iterate 18 (refine look_both ?_ (by decide+kernel))
 unfold OpenRow.wellSaid OpenRow.partSaid looksOpen
 repeat' (first|with_reducible refine look_both ?_ ?_|decide+kernel)
set_option genSizeOf false
set_option genInjectivity false
set_option genCtorIdx false
@[elab_as_elim] theorem rwT {α:Sort u} {a b:α} {P:α->Prop} (h:a=b) (q:P b):P a:=h▸q
@[elab_as_elim] theorem rwS {α:Sort u} {a b:α} {P:α->Prop} (h:b=a) (q:P b):P a:=h▸q
@[elab_as_elim] theorem rwI {a b:Prop} {P:Prop->Prop} (h:a↔b) (q:P b):P a:=propext h▸q
@[elab_as_elim] theorem rwJ {a b:Prop} {P:Prop->Prop} (h:b↔a) (q:P b):P a:=propext h▸q
theorem et {a b:Nat} (h:Dn a b=true):a<=b:=D5 h
theorem wi {a b N:Nat} (h:Dn a b=true):a<=N+b:=Dr (D5 h) (Gm b N)
theorem PZ {a b d N:Nat} (h:Dn a b=true):d+a<=N+d+b:=FE (Gm d N) (D5 h)
theorem lR {a b c:Nat} (h:a<=b) (k:Dn b c=true):a<=c:=Dr h (et k)
theorem z8 {a b c:Nat} (h:a<b) (k:Dn b c=true):a<=c:=Dr (EP h) (et k)
theorem QG {a b c:Nat} (h:b<=c) (k:Dn a b=true):a<=c:=Dr (et k) h
theorem Qi {a b c:Nat} (h:a<=b) (k:Dn b c=true):(a:Int)<=c:=EK.mpr (lR h k)
theorem Qk {a b c:Nat} (h:a<b) (k:Dn b c=true):(a:Int)<=c:=EK.mpr (z8 h k)
theorem PS {a b c:Nat} (h:a<=b) (k:E1 b c=true):(a:Int)<c:=Ez.mpr (lR (Em h) k)
theorem SA {a b c:Nat} (h:a<b) (k:Dn b c=true):(a:Int)<c:=Ez.mpr (lR h k)
theorem wm {a:Nat} {c:Int} (k:decide (c<=0)=true):c<=(a:Int):=Ga (of_decide_eq_true k) (EC a)
theorem Sk {a b c:Nat} (h:b<=c) (k:Dn a b=true):(a:Int)<=c:=EK.mpr (QG h k)
theorem PH {a b c:Int} (h:b<=c) (k:decide (a<=b)=true):a<=c:=Ga (of_decide_eq_true k) h
theorem RO {a b c:Int} (h:a<=b) (k:decide (b<=c)=true):a<=c:=Ga h (of_decide_eq_true k)
theorem Ru {a b c e:Nat} (h:a+b<=e) (k:Dn e c=true):a<=c:=lR (Dr (Ex a b) h) k
theorem Q3 {a b c e:Nat} (h:a+b<=e) (k:Dn e c=true):b<=c:=lR (Dr (Gm b a) h) k
theorem NF {a b c d:Nat} (h:a+(b+d)<=c):a+d+b<=c:=Dr (Eg ((EY a d b).trans (FR a b d))) h
theorem Si {a b c e:Nat} (h:a<=b) (k:Dn (b+e) c=true):a+e<=c:=lR (Fs h e) k
theorem Q7 {a b c e:Nat} (h:a<=b) (k:Dn (e+b) c=true):e+a<=c:=lR (Gd h e) k
theorem Sn {N a s b c:Nat} (k:Dn (a+b) c=true):N+a+s+b<=N+c+s:=(EY (N+a) s b▸Fs (FR N a b▸Gd (et k) N) s)
theorem Sj {a b c e:Nat} (h:a=b) (q:b<=e) (k:Dn e c=true):a<=c:=h▸lR q k
theorem S9 {a b c e:Nat} (h:b=a) (q:b<=e) (k:Dn e c=true):a<=c:=h▸lR q k
theorem Pu {a b e c:Nat} (h:a<b) (q:b<=e) (k:Dn e c=true):a<=c:=lR (Dr (EP h) q) k
theorem Rp {a b c e k:Nat} (h:Dy k (c+e)=true):a+b+k=a+c+b+e:=(congrArg (a+b+·) (Dz h)).trans ((FR (a+b) c e).symm.trans (congrArg (·+e) (EY a b c)))
theorem Rg {a b c:Nat} (h:a+(b+1)=c):a<c:=h▸Nat.lt_add_of_pos_right (I8 b)
theorem Sb {a b c d:Nat} (h:a+(b+d)=c):a+d+b=c:=((EY a d b).trans (FR a b d)).trans h
theorem Rr {a b c d:Nat} (h:a+(b+d)<c):a+d+b<c:=DY (Eg ((EY a d b).trans (FR a b d))) h
theorem RY {a n c:Nat} (h:a+4*(n+1)<c):a+4+4*n<c:=DY (Eg (EY a 4 (4*n))) h
theorem Rt {a b c:Nat} (h:a+b<c):a<c:=DY (Ex a b) h
theorem So {a b c e:Nat} (h:a<b) (q:b<=e) (k:Dn e c=true):(a:Int)<=c:=EK.mpr (Pu h q k)
theorem SQ {a b c e k:Nat} (h:a<=b) (q:Dn (b/k+e) c=true):a/k+e<=c:=Dr (Fs (KH h) e) (et q)
theorem Rw {a b c d x:Int} (h:a<=x/\x<b) (k:(decide (c<=a)&&decide (b<=d))=true):c<=x/\x<d:=⟨Ga (of_decide_eq_true (Ea.mp k).1) h.1,GU h.2 (of_decide_eq_true (Ea.mp k).2)⟩
theorem Sx {a b c:Nat} (k:Dn a c=true):min a b<=c:=Dr (Hy a b) (et k)
theorem SI {a b c d e:Nat} (h:a+b<c) (k:Dn (c+d) e=true):a+d<e:=DZ (Nat.add_lt_add_right (DY (Ex a b) h) d) (et k)
theorem SX {a b c e:Nat} (h:a+b<c) (k:Dn c e=true):a<e:=DY (Ex a b) (DZ h (et k))
theorem Rf {a b c:Int} (h:a<=b) (k:decide (b<c)=true):a<c:=IE h (of_decide_eq_true k)
theorem OD {a b c:Int} (h:a<b) (k:decide (b<=c)=true):a<c:=GU h (of_decide_eq_true k)
theorem Qp {a b c:Int} (h:a<b) (k:decide (b<=c)=true):a<=c:=Ga (I9 h) (of_decide_eq_true k)
theorem OQ {a b c:Nat} (h:a<=c) (q:c=b):a<=b:=q▸h
theorem Os {α:Type} {l:List α}:l=l++[]:=(DG l).symm
@[elab_as_elim] theorem fuel {P:Nat->Prop} {k M:Nat} (h:k<=M) (q:∀N,P (N+k)):P M:=rwT (Et h).symm (q _)
@[elab_as_elim] theorem fuel2 {P:Nat->Prop} {a k M:Nat} (h:a+k<=M) (q:∀N,P (N+a+k)):P M:=fuel (P:=P) h fun N=>rwT (FR N a k).symm (q N)
@[elab_as_elim] theorem fuel3 {P:Nat->Prop} {a b k M:Nat} (h:a+b+k<=M) (q:∀N,P (N+a+b+k)):P M:=fuel2 (P:=P) h fun N=>rwT (congrArg (·+k) (FR N a b)).symm (q N)
set_option hygiene false in
local macro_rules
 |`(tactic|rw [$rs,*])=>do
  let a ←`(tactic|try with_reducible rfl)
  let ts ←rs.getElems.mapM fun r=>do
   let e:Lean.Term:=⟨r.raw[1]⟩
   let f:=fun x y=>Lean.mkIdent (if r.raw[0].isNone then x else y)
   `(tactic|first|refine $(f `rwT `rwS) ($e ..) ?_|refine $(f `rwI `rwJ) ($e ..) ?_|rewrite [$r])
  `(tactic|($[$(ts.push a)]*))
 |`(tactic|lia)=>`(tactic|first|assumption|walk_at "|wi:R PZ:R lR:ar z8:ar QG:ar Qi:ar Qk:ar PS:ar SA:ar Sk:ar PH:ar RO:ar Rf:ar OD:ar Qp:ar SX:ar SI:ar wm:R Ru:ar Q3:ar Si:ar Q7:ar SQ:ar Sj:aar S9:aar Pu:aar So:aar Rw:ar Sn:R Rp:R Sx:R NF:a Rg:a Sb:a Rr:a RY:a Rt:a OQ:ss Ho:ss GD.mp:a EZ.mp:a Nat.not_le.mp:a Int.not_le.mp:a")
 |`(tactic|simp)=>`(tactic|first|with_reducible exact rfl|walk_at "|Ch Or.inl:R Or.inr:i Or.inr:j Ds Os I8:u Eb decide_eq_true:R Dq if_pos:R Ep:u")
 |`(tactic|simpa using $h)=>`(tactic|first|exact $h|exact Eq.symm $h|fail)
 |`(tactic|ac_rfl)=>`(tactic|first|assumption|exact And.left ‹_›|exact Jj ‹_›|exact And.left (Jj ‹_›)|exact Jj (Jj ‹_›)|exact Jj (And.left ‹_›)|fail)
 |`(tactic|walk_at $s)=>do
  let t:=s.getString
  if t.front != '|' then Lean.Macro.throwUnsupported
  let n:=fun (x:String)=>Lean.mkIdent x.toName
  let y ←`(by assumption)
  let b ←`(tactic|exact rfl)
  let a:=#[←`(by ac_rfl),←`(by exact rfl),n "rfl",y,←`(_),Lean.Syntax.mkApp (n "Or.inl") #[n "rfl"],Lean.Syntax.mkApp (n "Or.inr") #[n "rfl"],Lean.Syntax.mkApp (n "And.left") #[y],Lean.Syntax.mkApp (n "And.right") #[y]]
  let z ←`(tactic|first|exact rfl|fail)
  return z.raw.setArg 1 (Lean.mkNullNode ((((t.drop 1).toString.splitOn " ").toArray.map fun q=>
   let l:=q.splitOn ":"
   let g:=z.raw[1][0]
   g.setArg 1 (g[1].setArg 0 (g[1][0].setArg 0 (g[1][0][0].setArg 0 (b.raw.setArg 1 (Lean.Syntax.mkApp (n (l.headD "")) ((l.getD 1 "").toList.map fun c=>a.getD ("arRsuijxy".toList.takeWhile (· != c)).length y).toArray)))))).push z.raw[1][1]))
noncomputable abbrev aQ (s:Dm) (h:DI) (t:Nat):Dm:={s with heap:=h,toks:=t}
theorem aD {p0 p1:Prop} {G:Prop} (h:p0/\p1) (k:p0->p1->G):G:=k h.1 h.2
theorem eU {p0 p1 p2:Prop} {G:Prop} (h:p0/\p1/\p2) (k:p0->p1->p2->G):G:=k h.1 h.2.1 h.2.2
theorem iG {p0 p1 p2 p3:Prop} {G:Prop} (h:p0/\p1/\p2/\p3) (k:p0->p1->p2->p3->G):G:=k h.1 h.2.1 h.2.2.1 h.2.2.2
theorem Od {p0 p1 p2 p3 p4:Prop} {G:Prop} (h:p0/\p1/\p2/\p3/\p4) (k:p0->p1->p2->p3->p4->G):G:=k h.1 h.2.1 h.2.2.1 h.2.2.2.1 h.2.2.2.2
theorem M9 {p0 p1 p2 p3 p4 p5 p6:Prop} {G:Prop} (h:p0/\p1/\p2/\p3/\p4/\p5/\p6) (k:p0->p1->p2->p3->p4->p5->p6->G):G:=k h.1 h.2.1 h.2.2.1 h.2.2.2.1 h.2.2.2.2.1 h.2.2.2.2.2.1 h.2.2.2.2.2.2
theorem aG {α0:Sort u0} {p0:α0->Prop} {G:Prop} (h:∃x0,p0 x0) (k:∀x0,p0 x0->G):G:=h.elim fun x0 h=>k x0 h
theorem ay {α0:Sort u0} {p0 p1:α0->Prop} {G:Prop} (h:∃x0,p0 x0/\p1 x0) (k:∀x0,p0 x0->p1 x0->G):G:=h.elim fun x0 h=>k x0 h.1 h.2
theorem iH {α0:Sort u0} {p0 p1 p2:α0->Prop} {G:Prop} (h:∃x0,p0 x0/\p1 x0/\p2 x0) (k:∀x0,p0 x0->p1 x0->p2 x0->G):G:=h.elim fun x0 h=>k x0 h.1 h.2.1 h.2.2
theorem ME {α0:Sort u0} {p0 p1 p2 p3:α0->Prop} {G:Prop} (h:∃x0,p0 x0/\p1 x0/\p2 x0/\p3 x0) (k:∀x0,p0 x0->p1 x0->p2 x0->p3 x0->G):G:=h.elim fun x0 h=>k x0 h.1 h.2.1 h.2.2.1 h.2.2.2
theorem Qc {α0:Sort u0} {p0 p1 p2 p3 p4 p5:α0->Prop} {G:Prop} (h:∃x0,p0 x0/\p1 x0/\p2 x0/\p3 x0/\p4 x0/\p5 x0) (k:∀x0,p0 x0->p1 x0->p2 x0->p3 x0->p4 x0->p5 x0->G):G:=h.elim fun x0 h=>k x0 h.1 h.2.1 h.2.2.1 h.2.2.2.1 h.2.2.2.2.1 h.2.2.2.2.2
theorem ro {α0:Sort u0} {α1:Sort u1} {p0:α0->α1->Prop} {G:Prop} (h:∃x0 x1,p0 x0 x1) (k:∀x0 x1,p0 x0 x1->G):G:=h.elim fun x0 h=>h.elim fun x1 h=>k x0 x1 h
theorem dG {α0:Sort u0} {α1:Sort u1} {p0 p1:α0->α1->Prop} {G:Prop} (h:∃x0 x1,p0 x0 x1/\p1 x0 x1) (k:∀x0 x1,p0 x0 x1->p1 x0 x1->G):G:=h.elim fun x0 h=>h.elim fun x1 h=>k x0 x1 h.1 h.2
theorem cV {α0:Sort u0} {α1:Sort u1} {p0 p1 p2:α0->α1->Prop} {G:Prop} (h:∃x0 x1,p0 x0 x1/\p1 x0 x1/\p2 x0 x1) (k:∀x0 x1,p0 x0 x1->p1 x0 x1->p2 x0 x1->G):G:=h.elim fun x0 h=>h.elim fun x1 h=>k x0 x1 h.1 h.2.1 h.2.2
theorem P7 {α0:Sort u0} {α1:Sort u1} {p0 p1 p2 p3:α0->α1->Prop} {G:Prop} (h:∃x0 x1,p0 x0 x1/\p1 x0 x1/\p2 x0 x1/\p3 x0 x1) (k:∀x0 x1,p0 x0 x1->p1 x0 x1->p2 x0 x1->p3 x0 x1->G):G:=h.elim fun x0 h=>h.elim fun x1 h=>k x0 x1 h.1 h.2.1 h.2.2.1 h.2.2.2
theorem OE {α0:Sort u0} {α1:Sort u1} {α2:Sort u2} {p0:α0->α1->α2->Prop} {G:Prop} (h:∃x0 x1 x2,p0 x0 x1 x2) (k:∀x0 x1 x2,p0 x0 x1 x2->G):G:=h.elim fun x0 h=>h.elim fun x1 h=>h.elim fun x2 h=>k x0 x1 x2 h
theorem jo {α0:Sort u0} {α1:Sort u1} {α2:Sort u2} {p0 p1:α0->α1->α2->Prop} {G:Prop} (h:∃x0 x1 x2,p0 x0 x1 x2/\p1 x0 x1 x2) (k:∀x0 x1 x2,p0 x0 x1 x2->p1 x0 x1 x2->G):G:=h.elim fun x0 h=>h.elim fun x1 h=>h.elim fun x2 h=>k x0 x1 x2 h.1 h.2
theorem kZ {α0:Sort u0} {α1:Sort u1} {α2:Sort u2} {p0 p1 p2:α0->α1->α2->Prop} {G:Prop} (h:∃x0 x1 x2,p0 x0 x1 x2/\p1 x0 x1 x2/\p2 x0 x1 x2) (k:∀x0 x1 x2,p0 x0 x1 x2->p1 x0 x1 x2->p2 x0 x1 x2->G):G:=h.elim fun x0 h=>h.elim fun x1 h=>h.elim fun x2 h=>k x0 x1 x2 h.1 h.2.1 h.2.2
theorem SY {α0:Sort u0} {α1:Sort u1} {α2:Sort u2} {p0 p1 p2 p3:α0->α1->α2->Prop} {G:Prop} (h:∃x0 x1 x2,p0 x0 x1 x2/\p1 x0 x1 x2/\p2 x0 x1 x2/\p3 x0 x1 x2) (k:∀x0 x1 x2,p0 x0 x1 x2->p1 x0 x1 x2->p2 x0 x1 x2->p3 x0 x1 x2->G):G:=h.elim fun x0 h=>h.elim fun x1 h=>h.elim fun x2 h=>k x0 x1 x2 h.1 h.2.1 h.2.2.1 h.2.2.2
theorem Pi {α0:Sort u0} {α1:Sort u1} {α2:Sort u2} {p0 p1 p2 p3 p4:α0->α1->α2->Prop} {G:Prop} (h:∃x0 x1 x2,p0 x0 x1 x2/\p1 x0 x1 x2/\p2 x0 x1 x2/\p3 x0 x1 x2/\p4 x0 x1 x2) (k:∀x0 x1 x2,p0 x0 x1 x2->p1 x0 x1 x2->p2 x0 x1 x2->p3 x0 x1 x2->p4 x0 x1 x2->G):G:=h.elim fun x0 h=>h.elim fun x1 h=>h.elim fun x2 h=>k x0 x1 x2 h.1 h.2.1 h.2.2.1 h.2.2.2.1 h.2.2.2.2
theorem Me {α0:Sort u0} {α1:Sort u1} {α2:Sort u2} {p0 p1 p2 p3 p4 p5:α0->α1->α2->Prop} {G:Prop} (h:∃x0 x1 x2,p0 x0 x1 x2/\p1 x0 x1 x2/\p2 x0 x1 x2/\p3 x0 x1 x2/\p4 x0 x1 x2/\p5 x0 x1 x2) (k:∀x0 x1 x2,p0 x0 x1 x2->p1 x0 x1 x2->p2 x0 x1 x2->p3 x0 x1 x2->p4 x0 x1 x2->p5 x0 x1 x2->G):G:=h.elim fun x0 h=>h.elim fun x1 h=>h.elim fun x2 h=>k x0 x1 x2 h.1 h.2.1 h.2.2.1 h.2.2.2.1 h.2.2.2.2.1 h.2.2.2.2.2
theorem Rk {α0:Sort u0} {α1:Sort u1} {α2:Sort u2} {α3:Sort u3} {p0 p1:α0->α1->α2->α3->Prop} {G:Prop} (h:∃x0 x1 x2 x3,p0 x0 x1 x2 x3/\p1 x0 x1 x2 x3) (k:∀x0 x1 x2 x3,p0 x0 x1 x2 x3->p1 x0 x1 x2 x3->G):G:=h.elim fun x0 h=>h.elim fun x1 h=>h.elim fun x2 h=>h.elim fun x3 h=>k x0 x1 x2 x3 h.1 h.2
theorem Ta {α0:Sort u0} {α1:Sort u1} {α2:Sort u2} {α3:Sort u3} {p0 p1 p2 p3:α0->α1->α2->α3->Prop} {G:Prop} (h:∃x0 x1 x2 x3,p0 x0 x1 x2 x3/\p1 x0 x1 x2 x3/\p2 x0 x1 x2 x3/\p3 x0 x1 x2 x3) (k:∀x0 x1 x2 x3,p0 x0 x1 x2 x3->p1 x0 x1 x2 x3->p2 x0 x1 x2 x3->p3 x0 x1 x2 x3->G):G:=h.elim fun x0 h=>h.elim fun x1 h=>h.elim fun x2 h=>h.elim fun x3 h=>k x0 x1 x2 x3 h.1 h.2.1 h.2.2.1 h.2.2.2
theorem AO {α0:Sort u0} {α1:Sort u1} {α2:Sort u2} {α3:Sort u3} {p0 p1 p2 p3 p4 p5:α0->α1->α2->α3->Prop} {G:Prop} (h:∃x0 x1 x2 x3,p0 x0 x1 x2 x3/\p1 x0 x1 x2 x3/\p2 x0 x1 x2 x3/\p3 x0 x1 x2 x3/\p4 x0 x1 x2 x3/\p5 x0 x1 x2 x3) (k:∀x0 x1 x2 x3,p0 x0 x1 x2 x3->p1 x0 x1 x2 x3->p2 x0 x1 x2 x3->p3 x0 x1 x2 x3->p4 x0 x1 x2 x3->p5 x0 x1 x2 x3->G):G:=h.elim fun x0 h=>h.elim fun x1 h=>h.elim fun x2 h=>h.elim fun x3 h=>k x0 x1 x2 x3 h.1 h.2.1 h.2.2.1 h.2.2.2.1 h.2.2.2.2.1 h.2.2.2.2.2
theorem SK {α0:Sort u0} {α1:Sort u1} {α2:Sort u2} {α3:Sort u3} {α4:Sort u4} {p0 p1:α0->α1->α2->α3->α4->Prop} {G:Prop} (h:∃x0 x1 x2 x3 x4,p0 x0 x1 x2 x3 x4/\p1 x0 x1 x2 x3 x4) (k:∀x0 x1 x2 x3 x4,p0 x0 x1 x2 x3 x4->p1 x0 x1 x2 x3 x4->G):G:=h.elim fun x0 h=>h.elim fun x1 h=>h.elim fun x2 h=>h.elim fun x3 h=>h.elim fun x4 h=>k x0 x1 x2 x3 x4 h.1 h.2
theorem QJ {α0:Sort u0} {α1:Sort u1} {α2:Sort u2} {α3:Sort u3} {α4:Sort u4} {p0 p1 p2 p3:α0->α1->α2->α3->α4->Prop} {G:Prop} (h:∃x0 x1 x2 x3 x4,p0 x0 x1 x2 x3 x4/\p1 x0 x1 x2 x3 x4/\p2 x0 x1 x2 x3 x4/\p3 x0 x1 x2 x3 x4) (k:∀x0 x1 x2 x3 x4,p0 x0 x1 x2 x3 x4->p1 x0 x1 x2 x3 x4->p2 x0 x1 x2 x3 x4->p3 x0 x1 x2 x3 x4->G):G:=h.elim fun x0 h=>h.elim fun x1 h=>h.elim fun x2 h=>h.elim fun x3 h=>h.elim fun x4 h=>k x0 x1 x2 x3 x4 h.1 h.2.1 h.2.2.1 h.2.2.2
theorem AE {α0:Sort u0} {α1:Sort u1} {α2:Sort u2} {α3:Sort u3} {α4:Sort u4} {p0 p1 p2 p3 p4:α0->α1->α2->α3->α4->Prop} {G:Prop} (h:∃x0 x1 x2 x3 x4,p0 x0 x1 x2 x3 x4/\p1 x0 x1 x2 x3 x4/\p2 x0 x1 x2 x3 x4/\p3 x0 x1 x2 x3 x4/\p4 x0 x1 x2 x3 x4) (k:∀x0 x1 x2 x3 x4,p0 x0 x1 x2 x3 x4->p1 x0 x1 x2 x3 x4->p2 x0 x1 x2 x3 x4->p3 x0 x1 x2 x3 x4->p4 x0 x1 x2 x3 x4->G):G:=h.elim fun x0 h=>h.elim fun x1 h=>h.elim fun x2 h=>h.elim fun x3 h=>h.elim fun x4 h=>k x0 x1 x2 x3 x4 h.1 h.2.1 h.2.2.1 h.2.2.2.1 h.2.2.2.2
set_option genCtorIdx true in
inductive CV where
 |none|bool (b:Bool)|int (i:Int)|str (s:List Nat)|bytes (b:List Int)|obj (i:Nat)|top (a:Nat)
set_option genCtorIdx true in
inductive CO where
 |list (l:List CV)|tup (l:List CV)|attrs (l:List (Nat×CV))|dict (l:List (List Nat×CV))|inst (c d:Nat)|barr (b:List Int)|rng (a b c:Int)|cell (v:Option CV)|raw (l:List CV) (o:Obj)
set_option genCtorIdx true in
inductive LV where
 |val (v:CV)|cell (k:Nat)
theorem Ch {v:CV} {k:Nat}:some (LV.val v)≠some (LV.cell k):=nofun
noncomputable abbrev al:=List CO
noncomputable abbrev aP:=List (Nat×LV)
set_option genCtorIdx true in
inductive Aq where|add|sub|mul|fdiv|mod|pow
set_option genCtorIdx true in
inductive pk where|lt|le|gt|ge|eq|ne|is|isnot|isin|notin
set_option genCtorIdx true in
inductive Bf where|len|int|str|abs|sum|min|max|bytes|bytearray|chr|ord|range
set_option genCtorIdx true in
inductive Mk where|append|extend|count|index|split|find|join|get
 deriving DecidableEq
inductive CE where
 |cst (v:CV)|loc (x:Nat)|glb (x:Nat)
 |bin (s:Bool) (o:Aq) (a b:CE)|neg (a:CE)
 |ife (s:Bool) (t a b:CE)|bop (s:Bool) (isAnd:Bool) (l:List CE)|nt (t:CE)
 |cmp (s:Bool) (a:CE) (l:List (pk×CE))
 |lst (l:List CE)|tup (l:List CE)|dct (l:List (List Nat×CE))
 |calF (f:Nat) (as:List CE)|calC (c:Nat) (as:List CE)|calB (s:Bool) (b:Bf) (as:List CE)
 |mth (o:CE) (x:Nat) (as:List CE)|mtB (s:Bool) (m:Mk) (o:CE) (as:List CE)|att (o:CE) (x:Nat)
 |sub (s:Bool) (o i:CE)|slc (s:Bool) (o:CE) (a b c:Option CE)
 |comp (s:Bool) (elt:CE) (tg:List Nat) (tp:Bool) (it:CE) (cond:Option CE)
 |bad
inductive CS where
 |ret (e:Option CE)|xpr (e:CE)|asg (x:Nat) (e:CE)|asgT (xs:List Nat) (e:CE)
 |asgA (o:CE) (x:Nat) (e:CE)|asgS (s:Bool) (o i e:CE)|asgL (o lo hi e:CE)
 |ite (s:Bool) (t:CE) (a b:List CS)|whl (s:Bool) (t:CE) (b:List CS)
 |for (tg:List Nat) (tp:Bool) (it:CE) (b:List CS)|forz (tg:List Nat) (i j:CE) (b:List CS)|fore (tg:List Nat) (i:CE) (b:List CS)
 |tri (b:List CS)
 |bad
inductive Fl where|next|ret (v:CV)
inductive It where
 |lst (k i:Nat)|seq (l:List CV)|zip (j k i:Nat)|enm (l:List CV) (i:Nat)
structure wN where
 ps:List Nat
 df:List CV
 cells:List Nat
 body:List CS
structure QM where
 init:Nat
 mths:List (Nat×Nat)
 ats:List Nat
noncomputable abbrev bu:=CV->al->Prop
structure Tab where
 fn:Nat->Option wN
 cl:Nat->Option QM
 gv:Nat->Option CV
 tv:Nat->Option CO
 ct:Nat->Option (List CV->al->bu->Prop)
def lk {α:Type} (l:List (Nat×α)) (x:Nat):Option α:=List.rec none (fun p Z0 ih=>cond (Dy p.1 x) (some p.2) ih) l
theorem wD {α:Type} {x:Nat}:lk ([]:List (Nat×α)) x=none:=rfl
def cu {α:Type} (l:List (Nat×α)) (x:Nat) (v:α):List (Nat×α):=List.rec [(x,v)] (fun p l ih=>cond (Dy p.1 x) ((x,v)::l) (p::ih)) l
theorem Qf {α:Type} {x:Nat} {v:α}:cu [] x v=[(x,v)]:=rfl
def am {α:Type} (l:List α) (i:Nat):Option α:=List.rec (motive:=fun Z0=>Nat->Option α) (fun Z0=>none) (fun a Z0 ih i=>Jb (some a) (fun i Z0=>ih i) i) l i
theorem jY {α:Type} {i:Nat}:am ([]:List α) i=none:=rfl
theorem j0 {α:Type} {a:α} {l:List α}:am (a::l) 0=some a:=rfl
theorem kb {α:Type} {a:α} {l:List α} {i:Nat}:am (a::l) (i+1)=am l i:=rfl
def aU {α:Type} (l:List α) (i:Nat) (v:α):List α:=List.rec (motive:=fun Z0=>Nat->List α) (fun Z0=>[]) (fun a l ih i=>Jb (v::l) (fun i Z0=>a::ih i) i) l i
theorem qc {α:Type} {i:Nat} {v:α}:aU [] i v=[]:=rfl
theorem pJ {α:Type} {a v:α} {l:List α}:aU (a::l) 0 v=v::l:=rfl
theorem qj {α:Type} {a v:α} {l:List α} {i:Nat}:aU (a::l) (i+1) v=a::aU l i v:=rfl
def yS {α:Type} (f:α->α->Bool) (l m:List α):Bool:=List.rec (motive:=fun Z0=>List α->Bool) (fun m=>m.isEmpty) (fun a Z0 ih m=>List.rec false (fun b m Z0=>cond (f a b) (ih m) false) m) l m
theorem mQ (hf:∀a b,f a b=true↔a=b):yS f a b=true↔a=b:=by
 induction a generalizing b with
 |nil=>cases b with
  |nil=>exact ⟨fun Z0=>rfl,fun Z0=>rfl⟩
  |cons=>exact ⟨fun h=>(by cases h),fun h=>(by cases h)⟩
 |cons a l ih=>cases b with
  |nil=>exact ⟨fun h=>(by cases h),fun h=>(by cases h)⟩
  |cons b m=>
   show cond (f a b) (yS f l m) false=true↔_
   cases h:f a b with
   |false=>exact ⟨fun q=>(by cases q),fun q=>(by cases q;rw [(hf a a).mpr rfl] at h;cases h)⟩
   |true=>exact ⟨fun q=>(by rw [(hf a b).mp h,ih.mp q]),fun q=>(by cases q;exact ih.mpr rfl)⟩
def aF:List Nat->List Nat->Bool:=yS Dy
def w8 {α:Type} (l:List (List Nat×α)) (x:List Nat):Option α:=List.rec none (fun p Z0 ih=>cond (aF p.1 x) (some p.2) ih) l
def iV {α:Type} (l:List (List Nat×α)) (x:List Nat) (v:α):List (List Nat×α):=List.rec [(x,v)] (fun p l ih=>cond (aF p.1 x) ((p.1,v)::l) (p::ih)) l
theorem Ms {α:Type} {x:List Nat} {v:α}:iV [] x v=[(x,v)]:=rfl
theorem cG (a b:Nat):Dy a b=decide (a=b):=by
 cases h:Dy a b with
 |true=>simp [Dz h]
 |false=>simp [Nat.ne_of_beq_eq_false h]
theorem cg:aF a b=true↔a=b:=mQ fun a b=>by rw [cG,decide_eq_true_iff]
theorem gp (a b:List Nat):aF a b=decide (a=b):=by
 rw [E5,cg,decide_eq_true_iff]
theorem aO (l:List α):∀i:Nat,am l i=l[i]?:=by
 induction l with
 |nil=>intro i;rfl
 |cons a l ih=>intro i;cases i with
  |zero=>rfl
  |succ i=>exact ih i
theorem eH (l:List α):∀(i:Nat) (v:α),aU l i v=l.set i v:=by
 induction l with
 |nil=>intro i v;rfl
 |cons a l ih=>intro i v;cases i with
  |zero=>rfl
  |succ i=>exact congrArg (a::·) (ih i v)
theorem jZ:lk (p::l) x=cond (Dy p.1 x) (some p.2) (lk l x):=rfl
theorem yD:cu (p::l) x v=cond (Dy p.1 x) ((x,v)::l) (p::cu l x v):=rfl
theorem CG:w8 (p::l) x=cond (aF p.1 x) (some p.2) (w8 l x):=rfl
theorem pY:iV (p::l) x v=cond (aF p.1 x) ((p.1,v)::l) (p::iV l x v):=rfl
def fL (s b:Bool) (k:Prop):Prop:=match s with
 |true=>b=true/\k
 |false=>cond b k False
def br (s b:Bool) (p q:Prop):Prop:=match s with
 |true=>(b=true->p)/\(b=false->q)
 |false=>cond b p q
theorem aW (h:fL s b k):b=true/\k:=by
 cases s<;>cases b<;>simp_all [fL]
theorem jx (h:br s b p q):(b=true->p)/\(b=false->q):=by
 cases s<;>cases b<;>simp_all [br]
def eM (a:Int):Bool:=E1 a.natAbs 18446744073709551616
def eB (a b:Int):Bool:=PySem.W.Z.ltB a b
def dk (a b:Int):Bool:=PySem.W.Z.leB a b
def j5 (a b:Int):Bool:=PySem.W.Z.eqB a b
def qD (T:Tab) (σ:al) (v:CV):Option CO:=match v with
 |.obj i=>am σ i
 |.top a=>T.tv a
 |_=>none
theorem bE {α β:Type} {o:Option α} {f:α->Option β} {b:β} {G:Prop} (h:o.bind f=some b) (k:∀a,o=some a->f a=some b->G):G:=by
 cases o with
 |none=>cases h
 |some a=>exact k a rfl h
@[elab_as_elim]
theorem sE {α:Type} {G:α->Prop} {a b:α} (h:some a=some b) (q:G a):G b:=rwS (EF h) q
theorem bI {α β:Type} {o:Option α} {f:α->Option β} {a:α} {b:Option β} (h:o=some a) (q:f a=b):o.bind f=b:=by
 subst h
 exact q
def fB {α β:Type} (f:α->Option β):List α->Option (List β)
 |[]=>some []
 |a::l=>(f a).bind fun b=>(fB f l).bind fun r=>some (b::r)
@[elab_as_elim]
theorem iZ {α β:Type} {f:α->Option β} {a:α} {l:List α} {r:List β} {G:List β->Prop} (h:fB f (a::l)=some r) (k:∀b r,f a=some b->fB f l=some r->G (b::r)):G r:=bE h fun b e h=>bE h fun r e2 h=>sE h (k b r e e2)
theorem ta {α β:Type} {f:α->Option β} {a:α} {l:List α} {b:β} {r:List β} (h:f a=some b) (h2:fB f l=some r):fB f (a::l)=some (b::r):=bI h (bI h2 rfl)
theorem xg {α β:Type} {f:α->Option β} {g:β->α} (h:∀x,f (g x)=some x):∀{l:List β},fB f (l.map g)=some l:=by
 intro x0
 induction x0 with
 |nil=>exact rfl
 |cons x l ihh=>exact ta (h x) ihh
def Py (v:CV):Option (List Nat):=match v with
 |.str x=>some x
 |_=>none
def PA (v:CV):Option Int:=match v with
 |.int x=>some x
 |_=>none
def fx (l:List CV):Option (List (List Nat)):=fB Py l
def lx (l:List CV):Option (List Int):=fB PA l
def hK {α:Type} (o:Option α) (f:α->Prop):Prop:=match o with
 |some v=>f v
 |none=>False
theorem fA (h:o=some v) (q:f v):hK o f:=by rw [h];exact q
theorem gg {G:Prop} {α:Type} {o:Option α} {f:α->Prop} (q:hK o f) (k:∀v,o=some v->f v->G):G:=by
 cases o with
 |none=>exact q.elim
 |some v=>exact k v rfl q
def nZ (as:List CV) (f:CV->Prop):Prop:=match as with
 |[]=>False
 |a::l=>match l with
  |[]=>f a
  |Z1::Z2=>False
def zV (as:List CV) (f:CV->CV->Prop):Prop:=match as with
 |[]=>False
 |a::l=>nZ l (f a)
def gG (a:CV) (f:Int->Prop):Prop:=match a with
 |.int i=>f i
 |_=>False
def qo (a:CV) (f:Nat->Prop):Prop:=match a with
 |.obj i=>f i
 |_=>False
def qA (a:CV) (f:List Nat->Prop):Prop:=match a with
 |.str x=>f x
 |_=>False
def vZ (a:CV) (f:List Int->Prop):Prop:=match a with
 |.bytes x=>f x
 |_=>False
def Qh (x:List Nat) (f:Nat->Prop):Prop:=match x with
 |[]=>False
 |c::l=>match l with
  |[]=>f c
  |Z1::Z2=>False
def nx (σ:al) (i:Nat) (f:List CV->Prop):Prop:=match am σ i with
 |some (.list l)=>f l
 |_=>False
def QU (l:List CV) (f:List Int->Prop):Prop:=hK (lx l) f
def nW (σ:al) (i:Nat) (f:List CV->Prop) (g:List Int->Prop):Prop:=match am σ i with
 |some (.list l)=>f l
 |some (.barr l)=>g l
 |_=>False
theorem gl (h:am σ i=some (.list l)) (q:f l):nx σ i f:=by unfold nx;rw [h];exact q
theorem w0 (h:lx l=some r) (q:f r):QU l f:=fA h q
theorem zh (h:am σ i=some (.list l)) (q:f l):nW σ i f g:=by unfold nW;rw [h];exact q
theorem w7 (h:am σ i=some (.barr l)) (q:g l):nW σ i f g:=by unfold nW;rw [h];exact q
def OF (a:CV) (f:Bool->Prop):Prop:=match a with
 |.bool b=>f b
 |_=>False
def rZ (l:List CV) (f:List (List Nat)->Prop):Prop:=hK (fx l) f
def C7 (σ:al) (i:Nat) (f:List (List Nat×CV)->Prop):Prop:=match am σ i with
 |some (.dict l)=>f l
 |_=>False
def l7 (T:Tab) (σ:al) (v:CV) (f g:List CV->Prop):Prop:=match qD T σ v with
 |some (.list l)=>f l
 |some (.tup l)=>g l
 |_=>False
theorem ly (h:fx l=some r) (q:f r):rZ l f:=fA h q
theorem sO (h:am σ i=some (.dict l)) (q:f l):C7 σ i f:=by unfold C7;rw [h];exact q
theorem kz (h:am σ i=some (.list l)) (q:f l):l7 T σ (.obj i) f g:=by
 unfold l7
 rw [show qD T σ (.obj i)=am σ i from rfl,h];exact q
theorem xo (h:am σ i=some (.tup l)) (q:g l):l7 T σ (.obj i) f g:=by
 unfold l7
 rw [show qD T σ (.obj i)=am σ i from rfl,h];exact q
section ops
variable (s:Bool) (T:Tab) (σ:al)
def lZ {α:Type}:Nat->List α->List α
 |0,Z1=>[]
 |n+1,l=>l++lZ n l
theorem Cg {α:Type} {l:List α}:lZ 0 l=[]:=rfl
theorem ol {α:Type} {l:List α} {n:Nat}:lZ (n+1) l=l++lZ n l:=rfl
def dJ (o:Aq) (a b:CV) (Q:bu):Prop:=match o with
 |.add=>match a with
  |.int a=>gG b fun b=>Q (.int (a+b)) σ
  |.str a=>qA b fun b=>fL s (Dn (a.length+b.length) 100000) (Q (.str (a++b)) σ)
  |.bytes a=>vZ b fun b=>fL s (Dn (a.length+b.length) 100000) (Q (.bytes (a++b)) σ)
  |a=>l7 T σ a (fun l=>l7 T σ b (fun m=>fL s (Dn (l.length+m.length) 100000) (Q (.obj σ.length) (σ++[.list (l++m)]))) fun Z0=>False) fun l=>l7 T σ b (fun Z0=>False) fun m=>match l with
   |[]=>False
   |x::l=>match m with
    |[]=>False
    |y::m=>fL s (Dn (l.length+m.length) 100000) (Q (.obj σ.length) (σ++[.tup ((x::l)++(y::m))]))
 |.sub=>gG a fun a=>gG b fun b=>Q (.int (a-b)) σ
 |.mul=>match a with
  |.int a=>gG b fun b=>fL s (eM a||eM b) (Q (.int (a*b)) σ)
  |.str a=>gG b fun n=>fL s (Dn a.length 16&&(dk (-1000) n&&dk n 1000)) (Q (.str (lZ n.toNat a)) σ)
  |.bytes a=>gG b fun n=>fL s (E1 0 a.length&&Dn a.length 16&&(dk (-1000) n&&dk n 1000)) (Q (.bytes (lZ n.toNat a)) σ)
  |.obj i=>gG b fun n=>nx σ i fun l=>fL s (Dn l.length 16&&(dk (-1000) n&&dk n 1000)) (Q (.obj σ.length) (σ++[.list (lZ n.toNat l)]))
  |_=>False
 |.fdiv=>gG a fun a=>gG b fun b=>fL s (eM b&&!j5 b 0) (Q (.int (a.fdiv b)) σ)
 |.mod=>gG a fun a=>gG b fun b=>fL s (!j5 b 0) (Q (.int (a.fmod b)) σ)
 |.pow=>gG a fun a=>gG b fun b=>fL s (eM a&&(dk 0 b&&dk b 1000)) (Q (.int (a^b.toNat)) σ)
end ops
def A5:List Nat->List Nat->Bool
 |[],[]=>false
 |[],Z1::Z2=>true
 |Z1::Z2,[]=>false
 |a::l,b::m=>cond (E1 a b) true (cond (Dy a b) (A5 l m) false)
theorem vu:A5 [] []=false:=rfl
theorem vd {b:Nat} {m:List Nat}:A5 [] (b::m)=true:=rfl
theorem uT {a:Nat} {l:List Nat}:A5 (a::l) []=false:=rfl
theorem uG {a b:Nat} {l m:List Nat}:A5 (a::l) (b::m)=cond (E1 a b) true (cond (Dy a b) (A5 l m) false):=rfl
def qZ:List Int->List Int->Bool:=yS j5
def gS (c:Nat):List Nat->Bool
 |[]=>false
 |x::r=>cond (Dy x c) true (gS c r)
theorem kS {c:Nat}:gS c []=false:=rfl
theorem kK {c x:Nat} {r:List Nat}:gS c (x::r)=cond (Dy x c) true (gS c r):=rfl
def fm (x:List Nat):List (List Nat)->Bool
 |[]=>false
 |y::l=>cond (aF y x) true (fm x l)
theorem xG {c:List Nat}:fm c []=false:=rfl
theorem zT {c x:List Nat} {r:List (List Nat)}:fm c (x::r)=cond (aF x c) true (fm c r):=rfl
def jw:List (List Nat)->List (List Nat)->Bool:=yS aF
def dn (s:Bool) (T:Tab) (σ:al) (o:pk) (a b:CV) (Q:Bool->Prop):Prop:=match o with
 |.lt=>gG a fun a=>gG b fun b=>Q (eB a b)
 |.le=>match a with
  |.int a=>gG b fun b=>Q (dk a b)
  |.str a=>qA b fun b=>Q (!A5 b a)
  |_=>False
 |.gt=>gG a fun a=>gG b fun b=>Q (eB b a)
 |.ge=>gG a fun a=>gG b fun b=>Q (dk b a)
 |.eq=>eqv a b Q
 |.ne=>eqv a b fun r=>Q (!r)
 |.is=>isn a b (Q true) (Q false)
 |.isnot=>isn a b (Q false) (Q true)
 |.isin=>mem a b Q
 |.notin=>mem a b fun r=>Q (!r)
where
 isn (a b:CV) (p q:Prop):Prop:=match a with
  |.none=>match b with
   |.none=>p
   |_=>False
  |_=>match b with
   |.none=>q
   |_=>False
 eqv (a b:CV) (Q:Bool->Prop):Prop:=match a with
  |.int a=>gG b fun b=>Q (j5 a b)
  |.str a=>qA b fun b=>Q (aF a b)
  |.bytes a=>vZ b fun b=>Q (qZ a b)
  |.bool a=>OF b fun b=>Q (cond a b (!b))
  |a=>l7 T σ a (fun l=>l7 T σ b (fun m=>match m with
    |[]=>Q (match l with|[]=>true|Z1::Z2=>false)
    |x::m=>rZ l fun l=>rZ (x::m) fun m=>Q (jw l m)) fun Z0=>False) fun l=>l7 T σ b (fun Z0=>False) fun m=>rZ l fun l=>rZ m fun m=>Q (jw l m)
 mem (a b:CV) (Q:Bool->Prop):Prop:=qA a fun a=>match b with
  |.str b=>Qh a fun a=>Q (gS a b)
  |b=>l7 T σ b (fun l=>rZ l fun l=>Q (fm a l)) fun l=>rZ l fun l=>Q (fm a l)
def sx:List Int->Int
 |[]=>0
 |a::l=>a+sx l
theorem C0 {a:Int} {l:List Int}:sx (a::l)=a+sx l:=rfl
def BQ:List Int->Bool
 |[]=>true
 |a::l=>(dk 0 a&&eB a 256)&&BQ l
theorem Ck:BQ []=true:=rfl
theorem Cy {a:Int} {l:List Int}:BQ (a::l)=((dk 0 a&&eB a 256)&&BQ l):=rfl
def iL:Nat->Nat->List Nat
 |0,Z1=>[]
 |n+1,k=>cond (E1 k 10) [48+k] (iL n (k/10)++[48+k%10])
theorem vz {k:Nat}:iL 0 k=[]:=rfl
theorem vq {n k:Nat}:iL (n+1) k=cond (E1 k 10) [48+k] (iL n (k/10)++[48+k%10]):=rfl
def cQ (s:Bool) (T:Tab) (σ:al) (f:Bf) (as:List CV) (Q:bu):Prop:=match f with
 |.len=>nZ as fun a=>match a with
  |.str x=>fL s (Dn x.length 100000) (Q (.int x.length) σ)
  |.bytes x=>fL s (Dn x.length 100000) (Q (.int x.length) σ)
  |.obj i=>nx σ i fun l=>fL s (Dn l.length 100000) (Q (.int l.length) σ)
  |_=>False
 |.int=>nZ as fun a=>match a with
  |.int i=>Q (.int i) σ
  |.bool b=>Q (.int (cond b 1 0)) σ
  |.str x=>Qh x fun c=>fL s (Dn 48 c&&Dn c 57) (Q (.int (c-48:Nat)) σ)
  |_=>False
 |.str=>nZ as fun a=>gG a fun i=>fL s (dk 0 i&&eB i (10^20)) (Q (.str (iL 21 i.toNat)) σ)
 |.abs=>nZ as fun a=>gG a fun i=>Q (.int (cond (eB i 0) (-i) i)) σ
 |.sum=>nZ as fun a=>qo a fun i=>nx σ i fun l=>QU l fun l=>fL s (Dn l.length 1000) (Q (.int (sx l)) σ)
 |.min=>zV as fun a b=>gG a fun a=>gG b fun b=>Q (.int (cond (eB b a) b a)) σ
 |.max=>zV as fun a b=>gG a fun a=>gG b fun b=>Q (.int (cond (eB a b) b a)) σ
 |.bytes=>nZ as fun a=>match a with
  |.bytes x=>Q (.bytes x) σ
  |.obj i=>nW σ i (fun l=>QU l fun l=>fL s (BQ l&&Dn l.length 100000) (Q (.bytes l) σ)) fun l=>fL s (Dn l.length 100000) (Q (.bytes l) σ)
  |_=>False
 |.bytearray=>match as with
  |[]=>Q (.obj σ.length) (σ++[.barr []])
  |a::l=>nZ (a::l) fun a=>vZ a fun x=>fL s (Dn x.length 100000) (Q (.obj σ.length) (σ++[.barr x]))
 |.chr=>nZ as fun a=>gG a fun i=>fL s (dk 0 i&&eB i 128) (Q (.str [i.toNat]) σ)
 |.ord=>nZ as fun a=>qA a fun x=>Qh x fun c=>Q (.int c) σ
 |.range=>match as with
  |[]=>False
  |a::l=>gG a fun a=>match l with
   |[]=>fL s (dk 0 a&&eB a 100000) (Q (.obj σ.length) (σ++[.rng 0 a 1]))
   |b::l=>gG b fun b=>match l with
    |[]=>fL s (dk (-1000) a&&eB a 100000&&(dk (-1000) b&&eB b 100000)) (Q (.obj σ.length) (σ++[.rng a b 1]))
    |c::l=>nZ (c::l) fun c=>gG c fun c=>fL s (dk (-1000) a&&eB a 100000&&(dk (-1000) b&&eB b 100000)&&(dk (-1000) c&&eB c 100000&&!j5 c 0)) (Q (.obj σ.length) (σ++[.rng a b c]))
def jz (sep:List Nat):List (List Nat)->List Nat
 |[]=>[]
 |[x]=>x
 |x::y::r=>x++sep++jz sep (y::r)
theorem vg {s:List Nat}:jz s []=[]:=rfl
theorem vp {s x:List Nat}:jz s [x]=x:=rfl
theorem lX {s x y:List Nat} {r:List (List Nat)}:jz s (x::y::r)=x++s++jz s (y::r):=rfl
def nO (x:List Nat):List (List Nat)->Nat
 |[]=>0
 |y::l=>cond (aF y x) (nO x l+1) (nO x l)
theorem MX {x:List Nat}:nO x []=0:=rfl
theorem zF {x y:List Nat} {l:List (List Nat)}:nO x (y::l)=cond (aF y x) (nO x l+1) (nO x l):=rfl
def bz (σ:al) (o:CV):Nat:=match o with
 |.str _=>1
 |.obj i=>match am σ i with
  |some (.list _)=>2
  |some (.dict _)=>3
  |some (.barr _)=>4
  |_=>0
 |_=>0
def jK (m:Mk) (n:Nat):Bool:=match m with
 |.append=>Dy n 2||Dy n 4
 |.extend=>Dy n 2
 |.count=>Dy n 2
 |.index=>false
 |.get=>Dy n 3
 |_=>Dy n 1
def CF (x:List Nat) (c:Nat):Bool:=
 !(decide ((⟨x.toArray⟩:Ja).length<1)||decide (HN ⟨x.toArray⟩<HN ⟨#[c]⟩))&&!(Hm ⟨x.toArray⟩ ⟨#[c]⟩ 0 (⟨x.toArray⟩:Ja).length ((⟨x.toArray⟩:Ja).length+1)).isEmpty
def MO (x:List Nat) (c:Nat):List (List Nat):=
 (LL ⟨x.toArray⟩ (Hm ⟨x.toArray⟩ ⟨#[c]⟩ 0 (⟨x.toArray⟩:Ja).length ((⟨x.toArray⟩:Ja).length+1)) 1).map fun y=>y.cps.toList
def cO (s:Bool) (σ:al) (m:Mk) (kd:Nat) (o:CV) (as:List CV) (Q:bu):Prop:=match m with
 |.append=>qo o fun i=>nZ as fun v=>nW σ i (fun l=>fL s (Dy kd 2&&Dn l.length 100000) (Q .none (aU σ i (.list (l++[v]))))) fun l=>gG v fun c=>fL s (dk 0 c&&eB c 256&&(Dy kd 4&&Dn l.length 100000)) (Q .none (aU σ i (.barr (l++[c]))))
 |.extend=>qo o fun i=>nZ as fun v=>qo v fun j=>nx σ i fun l=>nx σ j fun m=>fL s (Dy kd 2&&Dn (l.length+m.length) 100000) (Q .none (aU σ i (.list (l++m))))
 |.count=>qo o fun i=>nZ as fun v=>qA v fun x=>nx σ i fun l=>rZ l fun l=>fL s (Dy kd 2&&Dn l.length 100000) (Q (.int (nO x l)) σ)
 |.split=>qA o fun x=>nZ as fun v=>qA v fun p=>Qh p fun c=>fL s (Dy kd 1&&CF x c&&Dn x.length 1000&&Dn (MO x c).length 1000) (Q (.obj σ.length) (σ++[.list ((MO x c).map .str)]))
 |.find=>qA o fun x=>zV as fun v w=>qA v fun p=>gG w fun i=>fL s (Dy kd 1) (Q (.int (PySem.Txt.find3 ⟨x.toArray⟩ ⟨p.toArray⟩ i)) σ)
 |.join=>qA o fun x=>nZ as fun v=>qo v fun i=>nx σ i fun l=>rZ l fun l=>fL s (Dy kd 1&&Dn ((l.map (·.length)).sum+l.length*x.length) 100000) (Q (.str (jz x l)) σ)
 |.get=>qo o fun i=>zV as fun v d=>qA v fun k=>C7 σ i fun l=>fL s (Dy kd 3) (Q ((w8 l k).getD d) σ)
 |.index=>False
def cx (i:Int) (n:Nat):Nat:=cond (eB i 0) (i+n).toNat i.toNat
def r0 (i:Int) (n:Nat):Bool:=cond (eB i 0) (dk (-n) i) (eB i n)
def Nb (σ:al) (i:Nat) (f g:List CV->Prop):Prop:=match am σ i with
 |some (.list l)=>f l
 |some (.tup l)=>g l
 |_=>False
def tW (σ:al) (i:Nat) (f:List CV->Prop):Prop:=match am σ i with
 |some (.list l)=>f l
 |some (.raw l _)=>f l
 |_=>False
def xE (σ:al) (i:Nat) (f:List Int->Prop):Prop:=match am σ i with
 |some (.barr l)=>f l
 |_=>False
theorem OG (h:am σ i=some (.list l)) (q:f l):Nb σ i f g:=by unfold Nb;rw [h];exact q
theorem P4 (h:am σ i=some (.tup l)) (q:g l):Nb σ i f g:=by unfold Nb;rw [h];exact q
theorem Mf (h:am σ i=some (.list l)) (q:f l):tW σ i f:=by unfold tW;rw [h];exact q
theorem MB (h:am σ i=some (.raw l o)) (q:f l):tW σ i f:=by unfold tW;rw [h];exact q
theorem Be (h:am σ i=some (.barr l)) (q:f l):xE σ i f:=by unfold xE;rw [h];exact q
theorem pi {b:Bool} {p G:Prop} (q:cond b p False) (k:b=true->p->G):G:=by
 cases b with
 |false=>exact q.elim
 |true=>exact k rfl q
def gQ (s:Bool) (T:Tab) (σ:al) (o i:CV) (Q:bu):Prop:=match o with
 |.str x=>gG i fun i=>fL s (r0 i x.length&&Dn x.length 100000) (Q (.str ((x.drop (cx i x.length)).take 1)) σ)
 |.bytes x=>gG i fun i=>fL s (r0 i x.length&&Dn x.length 100000) (Q (.int (x.getD (cx i x.length) 0)) σ)
 |.obj k=>match i with
  |.int i=>Nb σ k (fun l=>hK (am l (cx i l.length)) fun v=>fL s (r0 i l.length&&Dn l.length 100000) (Q v σ)) fun l=>hK (am l (cx i l.length)) fun v=>fL s (r0 i l.length&&Dn l.length 100000) (Q v σ)
  |.str x=>C7 σ k fun l=>hK (w8 l x) fun v=>Q v σ
  |_=>False
 |_=>False
def cE (n:Nat) (i:Int):Nat:=cond (eB i 0) (i+n).toNat (cond (eB n i) n i.toNat)
def dF {α:Type} (lo hi:Nat) (l:List α):List α:=(l.drop lo).take (hi-lo)
def bD (s:Bool) (σ:al) (o:CV) (a b c:CV) (Q:bu):Prop:=match c with
 |.none=>match a with
  |.none=>gG b fun b=>cut .none (.some b)
  |.int a=>match b with
   |.none=>cut (.some a) .none
   |.int b=>cut (.some a) (.some b)
   |_=>False
  |_=>False
 |.int c=>match a with
  |.none=>match b with
   |.none=>qo o fun k=>nx σ k fun l=>fL s (j5 c (-1)&&Dn l.length 100000) (Q (.obj σ.length) (σ++[.list l.reverse]))
   |_=>False
  |_=>False
 |_=>False
where
 cut (lo hi:Option Int):Prop:=match o with
  |.str x=>fL s (okB lo&&okB hi&&Dn x.length 100000) (Q (.str (dF (lo.elim 0 (cE x.length)) (hi.elim x.length (cE x.length)) x)) σ)
  |.bytes x=>fL s (okB lo&&okB hi&&Dn x.length 100000) (Q (.bytes (dF (lo.elim 0 (cE x.length)) (hi.elim x.length (cE x.length)) x)) σ)
  |.obj k=>tW σ k fun l=>fL s (okB lo&&okB hi&&Dn l.length 100000) (Q (.obj σ.length) (σ++[.list (dF (lo.elim 0 (cE l.length)) (hi.elim l.length (cE l.length)) l)]))
  |_=>False
 okB (b:Option Int):Bool:=match b with
  |some i=>dk (-1000000) i&&dk i 1000000
  |none=>true
def cR:Nat->Int->Int->List CV
 |0,Z1,Z2=>[]
 |n+1,a,c=>.int a::cR n (a+c) c
theorem gY {a c:Int}:cR 0 a c=[]:=rfl
theorem fO {n:Nat} {a c:Int}:cR (n+1) a c=.int a::cR n (a+c) c:=rfl
def hV (a b c:Int):Nat:=cond (eB 0 c) (cond (eB a b) ((b-a-1)/c+1).toNat 0) (cond (eB b a) ((a-b-1)/(-c)+1).toNat 0)
def rT (a b c:Int):Bool:=dk (-1000) a&&eB a 100000&&(dk (-1000) b&&eB b 100000)&&(dk (-1000) c&&eB c 100000&&!j5 c 0)
def M8 (σ:al) (k:Nat):Option It:=match am σ k with
 |some (.list _)=>some (.lst k 0)
 |some (.rng a b c)=>cond (rT a b c) (some (.seq (cR (hV a b c) a c))) none
 |_=>none
def cI (σ:al) (v:CV):Option It:=match v with
 |.str x=>some (.seq (x.map fun c=>.str [c]))
 |.bytes x=>some (.seq (x.map .int))
 |.obj k=>M8 σ k
 |_=>none
theorem OM (h:am σ k=some (.list l)):cI σ (.obj k)=some (.lst k 0):=by show M8 σ k=_;unfold M8;rw [h]
theorem Cs (h:am σ k=some (.rng a b c)) (h2:rT a b c=true):cI σ (.obj k)=some (.seq (cR (hV a b c) a c)):=by show M8 σ k=_;unfold M8;rw [h];show cond (rT a b c) _ _=_;rw [h2];rfl
@[elab_as_elim] theorem it_e {G:CV->It->Prop} {σ:al} {v:CV} {i:It} (q:cI σ v=some i) (k1:∀x,G (.str x) (.seq (x.map fun c=>.str [c]))) (k2:∀x,G (.bytes x) (.seq (x.map .int)))
  (k3:∀k l,am σ k=some (.list l)->G (.obj k) (.lst k 0)) (k4:∀k a b c,am σ k=some (.rng a b c)->rT a b c=true->G (.obj k) (.seq (cR (hV a b c) a c))):G v i:=by
 cases v with
 |str x=>cases q;exact k1 x
 |bytes x=>cases q;exact k2 x
 |obj k=>
  have q:M8 σ k=some i:=q
  unfold M8 at q
  generalize e:am σ k=o at q
  cases o with
  |none=>cases q
  |some c=>
   cases c with
   |list l=>cases q;exact k3 k l e
   |rng a b c=>
    have q:cond (rT a b c) (some (It.seq (cR (hV a b c) a c))) none=some i:=q
    cases h:rT a b c with
    |false=>rw [h] at q;cases q
    |true=>rw [h] at q;cases q;exact k4 k a b c e h
   |_=>cases q
 |_=>cases q
set_option genCtorIdx true in
inductive Nx where
 |stop|item (v:CV) (i:It)|pair (a b:CV) (i:It)|no
def L7 (σ:al) (k:Nat) (f:List CV->Nx):Nx:=match am σ k with
 |some (.list l)=>f l
 |_=>.no
def NU (o:Option CV) (a:Nx) (f:CV->Nx):Nx:=match o with
 |some v=>f v
 |none=>a
def cY (σ:al) (i:It):Nx:=match i with
 |.seq l=>(match l with
  |[]=>.stop
  |v::l=>.item v (.seq l))
 |.enm l i=>(match l with
  |[]=>.stop
  |v::l=>.pair (.int i) v (.enm l (i+1)))
 |.lst k i=>L7 σ k fun l=>NU (am l i) .stop fun v=>.item v (.lst k (i+1))
 |.zip j k i=>L7 σ j fun l=>L7 σ k fun m=>NU (am l i) .stop fun v=>NU (am m i) .no fun w=>.pair v w (.zip j k (i+1))
theorem gy (h:am σ k=some (.list l)):L7 σ k f=f l:=by unfold L7;rw [h]
theorem rB (h:o=some v):NU o a f=f v:=by rw [h];rfl
theorem vH (h:o=none):NU o a f=a:=by rw [h];rfl
theorem j6 {σ:al} {k:Nat} {r:Nx} {f:List CV->Nx} {G:Prop} (q:L7 σ k f=r) (h:Nx.no≠r) (g:∀l,am σ k=some (.list l)->f l=r->G):G:=by
 unfold L7 at q
 generalize am σ k=o at q g
 cases o with
 |none=>exact absurd q h
 |some c=>cases c<;>first|exact g _ rfl q|exact absurd q h
theorem kE {o:Option CV} {r a:Nx} {f:CV->Nx} {G:Prop} (q:NU o a f=r) (g1:o=none->a=r->G) (g2:∀v,o=some v->f v=r->G):G:=by
 cases o with
 |none=>exact g1 rfl q
 |some v=>exact g2 v rfl q
@[elab_as_elim] theorem nx_stop {G:It->Prop} {σ:al} {it:It} (q:cY σ it=.stop) (k1:G (.seq [])) (k2:∀i,G (.enm [] i)) (k3:∀k i l,am σ k=some (.list l)->am l i=none->G (.lst k i))
  (k4:∀j k i l m,am σ j=some (.list l)->am σ k=some (.list m)->am l i=none->G (.zip j k i)):G it:=by
 cases it with
 |seq l=>cases l<;>first|exact k1|cases q
 |enm l i=>cases l<;>first|exact k2 i|cases q
 |lst k i=>exact j6 q (by intro h;cases h) fun l h q=>kE q (fun h2 Z0=>k3 k i l h h2) fun Z0 Z0 q=>by cases q
 |zip j k i=>exact j6 q (by intro h;cases h) fun l h q=>j6 q (by intro h;cases h) fun m h' q=>kE q (fun h2 Z0=>k4 j k i l m h h' h2) fun Z0 Z0 q=>kE q (fun Z0 q=>by cases q) fun Z0 Z0 q=>by cases q
@[elab_as_elim] theorem nx_item {G:It->It->Prop} {σ:al} {it it':It} {v:CV} (q:cY σ it=.item v it') (k1:∀l,G (.seq (v::l)) (.seq l)) (k3:∀k i l,am σ k=some (.list l)->am l i=some v->G (.lst k i) (.lst k (i+1))):G it it':=by
 cases it with
 |seq l=>cases l<;>cases q;exact k1 _
 |enm l i=>cases l<;>cases q
 |lst k i=>exact j6 q (by intro h;cases h) fun l h q=>kE q (fun Z0 q=>by cases q) fun Z0 h2 q=>by cases q;exact k3 k i l h h2
 |zip j k i=>exact j6 q (by intro h;cases h) fun l h q=>j6 q (by intro h;cases h) fun m h' q=>kE q (fun h2 q=>by cases q) fun Z0 Z0 q=>kE q (fun Z0 q=>by cases q) fun Z0 Z0 q=>by cases q
@[elab_as_elim] theorem nx_pair {G:CV->It->It->Prop} {σ:al} {it it':It} {a b:CV} (q:cY σ it=.pair a b it') (k2:∀l (i:Nat),G (.int i) (.enm (b::l) i) (.enm l (i+1)))
  (k4:∀j k i l m,am σ j=some (.list l)->am σ k=some (.list m)->am l i=some a->am m i=some b->G a (.zip j k i) (.zip j k (i+1))):G a it it':=by
 cases it with
 |seq l=>cases l<;>cases q
 |enm l i=>cases l<;>cases q;exact k2 _ _
 |lst k i=>exact j6 q (by intro h;cases h) fun l h q=>kE q (fun Z0 q=>by cases q) fun Z0 h2 q=>by cases q
 |zip j k i=>exact j6 q (by intro h;cases h) fun l h q=>j6 q (by intro h;cases h) fun m h' q=>kE q (fun h2 q=>by cases q) fun Z0 h3 q=>kE q (fun Z0 q=>by cases q) fun Z0 h4 q=>by cases q;exact k4 j k i l m h h' h3 h4
def wO (loc:aP) (σ:al) (x:Nat):Option CV:=match lk loc x with
 |some (.val v)=>some v
 |some (.cell k)=>match am σ k with
  |some (.cell v)=>v
  |_=>none
 |none=>none
def lp (loc:aP) (σ:al) (x:Nat) (v:CV) (Q:aP->al->Prop):Prop:=match lk loc x with
 |some (.cell k)=>match am σ k with
  |some (.cell _)=>Q loc (aU σ k (.cell (some v)))
  |_=>False
 |some (.val _)=>Q (cu loc x (.val v)) σ
 |none=>Q (cu loc x (.val v)) σ
def fE (loc:aP) (σ:al):List Nat->List CV->(aP->al->Prop)->Prop
 |[],[],Q=>Q loc σ
 |x::xs,v::vs,Q=>lp loc σ x v fun loc σ=>fE loc σ xs vs Q
 |Z1,Z2,Z3=>False
def da (σ:al) (v:CV):Option (List CV):=match v with
 |.obj k=>match am σ k with
  |some (.tup l)=>some l
  |_=>none
 |_=>none
theorem uQ (h:da σ v=some l):∃k,v=.obj k/\am σ k=some (.tup l):=by
 cases v with
 |obj k=>
  refine ⟨k,rfl,?_⟩
  have h:(match am σ k with|some (.tup l)=>some l|_=>none)=some l:=h
  generalize am σ k=o at h
  cases o with
  |none=>cases h
  |some c=>cases c<;>cases h;rfl
 |_=>cases h
theorem RA (h:wO loc σ x=some v):lk loc x=some (.val v)\/∃k,lk loc x=some (.cell k)/\am σ k=some (.cell (some v)):=by
 unfold wO at h
 generalize lk loc x=o at h
 cases o with
 |none=>cases h
 |some lv=>
  cases lv with
  |val w=>cases h;exact .inl rfl
  |cell k=>
   refine .inr ⟨k,rfl,?_⟩
   have h:(match am σ k with|some (.cell v)=>v|_=>none)=some v:=h
   generalize am σ k=o at h
   cases o with
   |none=>cases h
   |some c=>
    cases c with
    |cell w=>cases h;rfl
    |_=>cases h
def gu (loc:aP) (σ:al) (tg:List Nat) (tp:Bool) (v:CV) (Q:aP->al->Prop):Prop:=match tp with
 |true=>hK (da σ v) fun l=>fE loc σ tg l Q
 |false=>match tg with
  |[x]=>lp loc σ x v Q
  |_=>False
structure Ih where
 e:CE->aP->al->bu->Prop
 t:CE->aP->al->(Bool->al->Prop)->Prop
 b:List CS->aP->al->(Fl->aP->al->Prop)->Prop
 w:Bool->CE->List CS->aP->al->(Fl->aP->al->Prop)->Prop
 f:List Nat->Bool->It->List CS->aP->al->(Fl->aP->al->Prop)->Prop
 p:Bool->CE->List Nat->Bool->Option CE->It->Nat->aP->al->(al->Prop)->Prop
 c:Nat->List CV->al->bu->Prop
section step
variable (T:Tab) (ih:Ih)
def eC:List CE->aP->al->(List CV->al->Prop)->Prop
 |[],Z1,σ,Q=>Q [] σ
 |c::l,loc,σ,Q=>ih.e c loc σ fun v σ=>eC l loc σ fun vs σ=>Q (v::vs) σ
def wQ:Option CE->aP->al->bu->Prop
 |none,Z1,σ,Q=>Q .none σ
 |some c,loc,σ,Q=>ih.e c loc σ Q
def Cf:List (List Nat×CE)->aP->al->(List (List Nat×CV)->al->Prop)->Prop
 |[],Z1,σ,Q=>Q [] σ
 |(k,c)::l,loc,σ,Q=>ih.e c loc σ fun v σ=>Cf l loc σ fun r σ=>Q ((k,v)::r) σ
def gx:List (List Nat×CV)->List (List Nat×CV)->List (List Nat×CV)
 |d,[]=>d
 |d,(k,v)::r=>gx (iV d k v) r
def i9 (s:Bool) (a:CV):List (pk×CE)->aP->al->(Bool->al->Prop)->Prop
 |[],Z1,Z2,Z3=>False
 |[(o,c)],loc,σ,Q=>ih.e c loc σ fun b σ=>dn s T σ o a b fun r=>Q r σ
 |(o,c)::d::l,loc,σ,Q=>ih.e c loc σ fun b σ=>dn s T σ o a b fun r=>br s r (i9 s b (d::l) loc σ Q) (Q false σ)
theorem A9 {T:Tab} {ih:Ih} {s:Bool} {a:CV} {o:pk} {c:CE} {loc:aP} {σ:al} {Q:Bool->al->Prop}:i9 T ih s a [(o,c)] loc σ Q=ih.e c loc σ fun b σ=>dn s T σ o a b fun r=>Q r σ:=rfl
theorem vC {T:Tab} {ih:Ih} {s:Bool} {a:CV} {o:pk} {c:CE} {d:pk×CE} {l:List (pk×CE)} {loc:aP} {σ:al} {Q:Bool->al->Prop}:i9 T ih s a ((o,c)::d::l) loc σ Q=ih.e c loc σ fun b σ=>dn s T σ o a b fun r=>br s r (i9 T ih s b (d::l) loc σ Q) (Q false σ):=rfl
def vr (s isAnd:Bool):List CE->aP->al->(Bool->al->Prop)->Prop
 |[],Z1,σ,Q=>Q isAnd σ
 |c::l,loc,σ,Q=>ih.t c loc σ fun r σ=>match isAnd with
  |true=>br s r (vr s isAnd l loc σ Q) (Q false σ)
  |false=>br s r (Q true σ) (vr s isAnd l loc σ Q)
def oZ (s isAnd:Bool):List CE->aP->al->bu->Prop
 |[],Z1,Z2,Z3=>False
 |[c],loc,σ,Q=>ih.e c loc σ Q
 |c::d::l,loc,σ,Q=>ih.e c loc σ fun v σ=>match v with
  |.bool r=>match isAnd with
   |true=>br s r (oZ s isAnd (d::l) loc σ Q) (Q (.bool false) σ)
   |false=>br s r (Q (.bool true) σ) (oZ s isAnd (d::l) loc σ Q)
  |_=>False
def dD (f:Nat) (as:List CV) (σ:al) (Q:bu):Prop:=match T.ct f with
 |some P=>P as σ Q
 |none=>ih.c f as σ Q
def Sa (v:CV) (p:Prop):Prop:=match v with
 |.none=>p
 |_=>False
def PM {α:Type} (o:Option α) (p:Prop):Prop:=match o with
 |none=>p
 |some Z1=>False
theorem Ps {G:Prop} {α:Type} {o:Option α} {p:Prop} (q:PM o p) (k:o=none->p->G):G:=by
 cases o with
 |none=>exact k rfl q
 |some Z1=>exact q.elim
def vX (c:Nat) (as:List CV) (σ:al) (Q:bu):Prop:=hK (T.cl c) fun k=>dD T ih k.init (.obj (σ.length+1)::as) (σ++[.attrs [],.inst c σ.length]) fun v σ'=>Sa v (Q (.obj (σ.length+1)) σ')
theorem BC (h:T.cl c=some k) (q:dD T ih k.init (.obj (σ.length+1)::as) (σ++[.attrs [],.inst c σ.length]) fun v σ'=>Sa v (Q (.obj (σ.length+1)) σ')):vX T ih c as σ Q:=fA h q
def io (c x:Nat):Bool:=match T.cl c with
 |some k=>gS x k.ats
 |none=>false
def aM (σ:al) (v:CV):Option (Nat×Nat×List (Nat×CV)):=match v with
 |.obj i=>match am σ i with
  |some (.inst c d)=>match am σ d with
   |some (.attrs l)=>some (c,d,l)
   |_=>none
  |_=>none
 |_=>none
theorem w5 (h:aM σ v=some t):∃i,v=.obj i/\am σ i=some (.inst t.1 t.2.1)/\am σ t.2.1=some (.attrs t.2.2):=by
 cases v with
 |obj i=>
  refine ⟨i,rfl,?_⟩
  have h:(match am σ i with|some (.inst c d)=>(match am σ d with|some (.attrs l)=>some (c,d,l)|_=>none)|_=>none)=some t:=h
  generalize am σ i=o at h
  cases o with
  |none=>cases h
  |some co=>
   cases co with
   |inst c d=>
    have h:(match am σ d with|some (.attrs l)=>some (c,d,l)|_=>none)=some t:=h
    generalize e:am σ d=o at h
    cases o with
    |none=>cases h
    |some co=>cases co<;>cases h;exact ⟨rfl,e⟩
   |_=>cases h
 |_=>cases h
theorem N9 (h:io T c x=true):∃k,T.cl c=some k/\gS x k.ats=true:=by
 unfold io at h
 generalize T.cl c=o at h
 cases o with
 |none=>cases h
 |some k=>exact ⟨k,rfl,h⟩
def r5 (σ:al) (v:CV) (f:Nat->Nat->List (Nat×CV)->Prop):Prop:=hK (aM σ v) fun t=>f t.1 t.2.1 t.2.2
theorem tJ (h:aM σ v=some (c,d,l)) (q:f c d l):r5 σ v f:=fA h q
theorem xH {G:Prop} {σ:al} {v:CV} {f:Nat->Nat->List (Nat×CV)->Prop} (q:r5 σ v f) (k:∀c d l,aM σ v=some (c,d,l)->f c d l->G):G:=gg q fun t h q=>k t.1 t.2.1 t.2.2 h q
def Pa (c:CE) (loc:aP) (σ:al) (Q:bu):Prop:=match c with
 |.cst v=>Q v σ
 |.loc x=>hK (wO loc σ x) fun v=>Q v σ
 |.glb x=>match T.gv x with
  |some v=>Q v σ
  |none=>False
 |.bin s o a b=>ih.e a loc σ fun a σ=>ih.e b loc σ fun b σ=>dJ s T σ o a b Q
 |.neg a=>ih.e a loc σ fun a σ=>match a with
  |.int i=>Q (.int (-i)) σ
  |_=>False
 |.ife s t a b=>ih.t t loc σ fun r σ=>br s r (ih.e a loc σ Q) (ih.e b loc σ Q)
 |.bop s isAnd l=>oZ ih s isAnd l loc σ Q
 |.nt _=>False
 |.cmp s a l=>ih.e a loc σ fun a σ=>i9 T ih s a l loc σ fun r σ=>Q (.bool r) σ
 |.lst l=>eC ih l loc σ fun vs σ=>Q (.obj σ.length) (σ++[.list vs])
 |.tup l=>eC ih l loc σ fun vs σ=>Q (.obj σ.length) (σ++[.tup vs])
 |.dct l=>Cf ih l loc σ fun vs σ=>Q (.obj σ.length) (σ++[.dict (gx [] vs)])
 |.calF f as=>eC ih as loc σ fun vs σ=>dD T ih f vs σ Q
 |.calC c as=>eC ih as loc σ fun vs σ=>vX T ih c vs σ Q
 |.calB s b as=>eC ih as loc σ fun vs σ=>cQ s T σ b vs Q
 |.mth o x as=>ih.e o loc σ fun o σ=>r5 σ o fun c0 d0 l0=>PM (lk l0 x) (hK (T.cl c0) fun k=>hK (lk k.mths x) fun f=>eC ih as loc σ fun vs σ=>dD T ih f (o::vs) σ Q)
 |.mtB s m o as=>ih.e o loc σ fun o σ=>cond (jK m (bz σ o)) (eC ih as loc σ fun vs σ'=>cO s σ' m (bz σ o) o vs Q) False
 |.att o x=>ih.e o loc σ fun o σ=>r5 σ o fun c0 d0 l0=>hK (lk l0 x) fun v=>cond (io T c0 x) (Q v σ) False
 |.sub s o i=>ih.e o loc σ fun o σ=>ih.e i loc σ fun i σ=>gQ s T σ o i Q
 |.slc s o a b c=>ih.e o loc σ fun o σ=>wQ ih a loc σ fun a σ=>wQ ih b loc σ fun b σ=>wQ ih c loc σ fun c σ=>bD s σ o a b c Q
 |.comp s elt tg tp it cond=>ih.e it loc σ fun v σ=>hK (cI σ v) fun i=>ih.p s elt tg tp cond i σ.length (loc.filter fun p=>!(tg.any fun x=>Dy x p.1)) (σ++[.list []]) fun σ'=>Q (.obj σ.length) σ'
 |.bad=>False
def OZ (c:CE) (loc:aP) (σ:al) (Q:Bool->al->Prop):Prop:=match c with
 |.nt t=>ih.t t loc σ fun r σ=>Q (!r) σ
 |.bop s isAnd l=>vr ih s isAnd l loc σ Q
 |.cmp s a l=>ih.e a loc σ fun a σ=>i9 T ih s a l loc σ Q
 |.ife _ _ _ _=>False
 |c=>ih.e c loc σ fun v σ=>match v with
  |.bool r=>Q r σ
  |_=>False
def oF (s:Bool) (σ:al) (o i v:CV) (Q:al->Prop):Prop:=qo o fun k=>match i with
 |.int i=>nx σ k fun l=>fL s (r0 i l.length&&Dn l.length 100000) (Q (aU σ k (.list (aU l (cx i l.length) v))))
 |.str x=>C7 σ k fun l=>fL s (Dn l.length 100) (Q (aU σ k (.dict (iV l x v))))
 |_=>False
def mI (σ:al) (o a b v:CV) (Q:al->Prop):Prop:=qo o fun k=>gG a fun a=>gG b fun b=>vZ v fun x=>xE σ k fun l=>
 (dk 0 a&&dk a b&&dk b l.length&&Dn l.length 1000&&Dn x.length 1000)=true/\Q (aU σ k (.barr (l.take a.toNat++x++l.drop b.toNat)))
def cN (c:CS) (loc:aP) (σ:al) (Q:Fl->aP->al->Prop):Prop:=match c with
 |.ret none=>Q (.ret .none) loc σ
 |.ret (some e)=>ih.e e loc σ fun v σ=>Q (.ret v) loc σ
 |.xpr e=>ih.e e loc σ fun Z0 σ=>Q .next loc σ
 |.asg x e=>ih.e e loc σ fun v σ=>lp loc σ x v fun loc σ=>Q .next loc σ
 |.asgT xs e=>ih.e e loc σ fun v σ=>hK (da σ v) fun l=>fE loc σ xs l fun loc σ=>Q .next loc σ
 |.asgA o x e=>ih.e e loc σ fun v σ=>ih.e o loc σ fun o σ=>r5 σ o fun c0 d0 l0=>cond (io T c0 x&&Dn l0.length 100) (Q .next loc (aU σ d0 (.attrs (cu l0 x v)))) False
 |.asgS s o i e=>ih.e e loc σ fun v σ=>ih.e o loc σ fun o σ=>ih.e i loc σ fun i σ=>oF s σ o i v fun σ=>Q .next loc σ
 |.asgL o lo hi e=>ih.e e loc σ fun v σ=>ih.e o loc σ fun o σ=>ih.e lo loc σ fun a σ=>ih.e hi loc σ fun b σ=>mI σ o a b v fun σ=>Q .next loc σ
 |.ite s t a b=>ih.t t loc σ fun r σ=>br s r (ih.b a loc σ Q) (ih.b b loc σ Q)
 |.whl s t b=>ih.w s t b loc σ Q
 |.for tg tp it b=>ih.e it loc σ fun v σ=>hK (cI σ v) fun i=>ih.f tg tp i b loc σ Q
 |.forz tg i j b=>ih.e i loc σ fun i σ=>ih.e j loc σ fun j σ=>qo i fun i=>qo j fun j=>nx σ i fun Z0=>nx σ j fun Z0=>ih.f tg true (.zip i j 0) b loc σ Q
 |.fore tg i b=>ih.e i loc σ fun v σ=>vZ v fun x=>ih.f tg true (.enm (x.map .int) 0) b loc σ Q
 |.tri b=>ih.b b loc σ Q
 |.bad=>False
def lD:List CS->aP->al->(Fl->aP->al->Prop)->Prop
 |[],loc,σ,Q=>Q .next loc σ
 |c::l,loc,σ,Q=>cN T ih c loc σ fun fl loc σ=>match fl with
  |.next=>lD l loc σ Q
  |.ret v=>Q (.ret v) loc σ
def Cz (s:Bool) (t:CE) (b:List CS) (loc:aP) (σ:al) (Q:Fl->aP->al->Prop):Prop:=
 ih.t t loc σ fun r σ=>br s r (ih.b b loc σ fun fl loc σ=>match fl with
  |.next=>ih.w s t b loc σ Q
  |.ret v=>Q (.ret v) loc σ) (Q .next loc σ)
def iO (tg:List Nat) (tp:Bool) (i:It) (b:List CS) (loc:aP) (σ:al) (Q:Fl->aP->al->Prop):Prop:=match cY σ i with
 |.stop=>Q .next loc σ
 |.item v i=>gu loc σ tg tp v fun loc σ=>ih.b b loc σ fun fl loc σ=>match fl with
  |.next=>ih.f tg tp i b loc σ Q
  |.ret v=>Q (.ret v) loc σ
 |.pair v w i=>match tp with
  |true=>fE loc σ tg [v,w] fun loc σ=>ih.b b loc σ fun fl loc σ=>match fl with
   |.next=>ih.f tg tp i b loc σ Q
   |.ret v=>Q (.ret v) loc σ
  |false=>False
 |.no=>False
def pB (n:Nat) (k:Prop):Prop:=cond (Dn n 100000) k False
def nj (s:Bool) (elt:CE) (tg:List Nat) (tp:Bool) (cond:Option CE) (i:It) (acc:Nat) (loc:aP) (σ:al) (Q:al->Prop):Prop:=match cY σ i with
 |.stop=>Q σ
 |.item v i=>gu loc σ tg tp v fun loc σ=>
  let on (σ:al):Prop:=ih.e elt loc σ fun v σ=>match am σ acc with
   |some (.list l)=>pB l.length (ih.p s elt tg tp cond i acc loc (aU σ acc (.list (l++[v]))) Q)
   |_=>False
  match cond with
  |none=>on σ
  |some t=>ih.t t loc σ fun r σ=>br s r (on σ) (ih.p s elt tg tp cond i acc loc σ Q)
 |.pair _ _ _=>False
 |.no=>False
def ow:List Nat->List CV->aP
 |x::xs,v::vs=>(x,.val v)::ow xs vs
 |Z1,Z2=>[]
theorem Bh {x:Nat} {xs:List Nat} {v:CV} {vs:List CV}:ow (x::xs) (v::vs)=(x,.val v)::ow xs vs:=rfl
def ix (fi:wN) (as:List CV):Option aP:=
 let d:=fi.df.drop (fi.df.length-(fi.ps.length-as.length))
 cond (Dy (as.length+d.length) fi.ps.length) (some (ow fi.ps (as++d))) none
def rD:List Nat->aP->al->aP×al
 |[],loc,σ=>(loc,σ)
 |x::xs,loc,σ=>match lk loc x with
  |some (.val v)=>rD xs (cu loc x (.cell σ.length)) (σ++[.cell (some v)])
  |_=>rD xs (cu loc x (.cell σ.length)) (σ++[.cell none])
def nE (f:Nat) (as:List CV) (σ:al) (Q:bu):Prop:=match T.fn f with
 |some fi=>match ix fi as with
  |some loc=>ih.b fi.body (rD fi.cells loc σ).1 (rD fi.cells loc σ).2 fun fl Z0 σ=>match fl with
   |.ret v=>Q v σ
   |.next=>Q .none σ
  |none=>False
 |none=>False
end step
def vt (T:Tab) (ih:Ih):Ih:={e:=Pa T ih,t:=OZ T ih,b:=lD T ih,w:=Cz ih,f:=iO ih,p:=nj ih,c:=nE T ih}
def Vm:Ih:={e:=fun Z0 Z0 Z0 Z0=>False,t:=fun Z0 Z0 Z0 Z0=>False,b:=fun Z0 Z0 Z0 Z0=>False,w:=fun Z0 Z0 Z0 Z0 Z0 Z0=>False,f:=fun Z0 Z0 Z0 Z0 Z0 Z0 Z0=>False,p:=fun Z0 Z0 Z0 Z0 Z0 Z0 Z0 Z0 Z0 Z0=>False,c:=fun Z0 Z0 Z0 Z0=>False}
def aj (T:Tab) (n:Nat):Ih:=Jb Vm (fun Z0 ih=>vt T ih) n
inductive GK where
 |fn (f:Nat)|cl (c:Nat)|bi (b:Bf)
structure Cx where
 prog:E4
 w:FX
 K:Frag
 p:E4
 loose:List Str
 mean:JC->Option Dk
 mg:Str->Option Dk
 mb:Str->Option Dk
 nm:Nat->List Nat
 gk:List Nat->Option GK
 T:Tab
 ca:Nat->Du
 fa:Nat->Du
 ds:List Env->Prop
def aV (l:List Nat):Str:=⟨l.toArray⟩
def Cx.nS (C:Cx) (x:Nat):Str:=aV (C.nm x)
theorem e8 (h:aV a=aV b):a=b:=by
 have:(aV a).cps.toList=(aV b).cps.toList:=by rw [h]
 simpa [aV] using this
def VR (ρ:List Du):CV->Dk->Prop
 |.none,v=>v=.none
 |.bool b,v=>v=.bool b
 |.int i,v=>∃t,v=.int i t
 |.str s,v=>∃t,v=.str (aV s) t
 |.bytes b,v=>∃a t,v=.bytes a t/\KBw.bInts a=b
 |.obj i,v=>∃a,ρ[i]?=some a/\v=.ref a
 |.top a,v=>v=.ref a
def dc (ρ:List Du):List CV->List Dk->Prop
 |[],[]=>True
 |a::l,v::vs=>VR ρ a v/\dc ρ l vs
 |Z1,Z2=>False
def AR (C:Cx) (ρ:List Du):List (Nat×CV)->List EL->Prop
 |[],[]=>True
 |p::l,e::es=>(∃t,e.key=.str (C.nS p.1) t)/\VR ρ p.2 e.val/\AR C ρ l es
 |Z1,Z2=>False
def DR (C:Cx) (ρ:List Du):List (List Nat×CV)->List EL->Prop
 |[],[]=>True
 |p::l,e::es=>(∃t,e.key=.str (aV p.1) t)/\e.hash=HB C.w.params (aV p.1)/\VR ρ p.2 e.val/\DR C ρ l es
 |Z1,Z2=>False
noncomputable abbrev wl (vs:Array Dk) (n:Nat):Obj:={cls:=.type "tuple",data:=.seq vs n}
noncomputable abbrev cH (a:Array UInt8):Obj:={cls:=.type "bytearray",data:=.bytearray a 0}
def OR (C:Cx) (ρ:List Du):CO->Obj->Prop
 |.list l,o=>∃vs n,o=listOf (EO vs) n/\dc ρ l vs
 |.tup l,o=>∃vs n,o=wl (EO vs) n/\dc ρ l vs
 |.attrs l,o=>∃es n,o=dictOf es n/\AR C ρ l es
 |.dict l,o=>∃es n,o=dictOf es n/\DR C ρ l es/\(l.map (·.1)).Nodup
 |.inst c d,o=>∃dx,ρ[d]?=some dx/\o=instObj (C.ca c) dx
 |.barr b,o=>∃a,o=cH a/\KBw.bInts a=b
 |.rng a b c,o=>∃t u r,o={cls:=.type "range",data:=.fields #[.int a t,.int b u,.int c r]}
 |.cell v,o=>match v with
  |none=>o.data=.cell none/\o.isFreed=false
  |some v=>∃w,o.data=.cell (some w)/\VR ρ v w
 |.raw l o',o=>o=o'/\∃vs n,o'=listOf (EO vs) n/\dc [] l vs
def gR (C:Cx) (ρ:List Du):al->List (Du×Obj)->Prop
 |[],[]=>True
 |co::σ,p::os=>OR C ρ co p.2/\gR C ρ σ os
 |Z1,Z2=>False
theorem e9 (h:a<+:b) {i:Nat} (e:a[i]?=some x):b[i]?=some x:=by
 obtain ⟨c,rfl⟩:=h
 rw [Eo]
 ·exact e
 ·exact (Ei.mp e).1
theorem VR.mono {ρ ρ':List Du} (h:ρ<+:ρ'):∀{c:CV} {v:Dk},VR ρ c v->VR ρ' c v
 |.none,_,x=>x
 |.bool _,_,x=>x
 |.int _,_,x=>x
 |.str _,_,x=>x
 |.bytes _,_,x=>x
 |.obj _,_,⟨a,e,x⟩=>⟨a,e9 h e,x⟩
 |.top _,_,x=>x
theorem dc.mono (h:ρ<+:ρ'):∀{l:List CV} {vs:List Dk},dc ρ l vs->dc ρ' l vs:=by
 intro x0
 induction x0 with
 |nil=>
  intro y4
  cases y4 with
  |nil=>
   intro _
   exact trivial
  |cons Z1 Z2=>
   intro x
   exact x.elim
 |cons Z1 Z2 ihh=>
  intro y4
  cases y4 with
  |nil=>
   intro x
   exact x.elim
  |cons Z1 Z2=>
   intro x
   exact ⟨x.1.mono h,ihh x.2⟩
theorem AR.mono (h:ρ<+:ρ'):∀{l:List (Nat×CV)} {es:List EL},AR C ρ l es->AR C ρ' l es:=by
 intro x0
 induction x0 with
 |nil=>
  intro y4
  cases y4 with
  |nil=>
   intro _
   exact trivial
  |cons Z1 Z2=>
   intro x
   exact x.elim
 |cons Z1 Z2 ihh=>
  intro y4
  cases y4 with
  |nil=>
   intro x
   exact x.elim
  |cons Z1 Z2=>
   intro x
   exact ⟨x.1,x.2.1.mono h,ihh x.2.2⟩
theorem DR.mono (h:ρ<+:ρ'):∀{l:List (List Nat×CV)} {es:List EL},DR C ρ l es->DR C ρ' l es:=by
 intro x0
 induction x0 with
 |nil=>
  intro y4
  cases y4 with
  |nil=>
   intro _
   exact trivial
  |cons Z1 Z2=>
   intro x
   exact x.elim
 |cons Z1 Z2 ihh=>
  intro y4
  cases y4 with
  |nil=>
   intro x
   exact x.elim
  |cons Z1 Z2=>
   intro x
   exact ⟨x.1,x.2.1,x.2.2.1.mono h,ihh x.2.2.2⟩
theorem OR.mono {C:Cx} {ρ ρ':List Du} (h:ρ<+:ρ'):∀{co:CO} {o:Obj},OR C ρ co o->OR C ρ' co o
 |.list _,_,⟨vs,n,e,x⟩=>⟨vs,n,e,x.mono h⟩
 |.tup _,_,⟨vs,n,e,x⟩=>⟨vs,n,e,x.mono h⟩
 |.attrs _,_,⟨es,n,e,x⟩=>⟨es,n,e,x.mono h⟩
 |.dict _,_,⟨es,n,e,x,y⟩=>⟨es,n,e,x.mono h,y⟩
 |.inst _ _,_,⟨dx,e,x⟩=>⟨dx,e9 h e,x⟩
 |.barr _,_,x=>x
 |.rng _ _ _,_,x=>x
 |.cell none,_,x=>x
 |.cell (some _),_,⟨w,e,x⟩=>⟨w,e,x.mono h⟩
 |.raw _ _,_,x=>x
theorem gR.mono (h:ρ<+:ρ'):∀{σ:al} {os:List (Du×Obj)},gR C ρ σ os->gR C ρ' σ os:=by
 intro x0
 induction x0 with
 |nil=>
  intro y4
  cases y4 with
  |nil=>
   intro _
   exact trivial
  |cons Z1 Z2=>
   intro x
   exact x.elim
 |cons Z1 Z2 ihh=>
  intro y4
  cases y4 with
  |nil=>
   intro x
   exact x.elim
  |cons Z1 Z2=>
   intro x
   exact ⟨x.1.mono h,ihh x.2⟩
theorem gR.len:∀{σ:al} {os:List (Du×Obj)},gR C ρ σ os->σ.length=os.length:=by
 intro x0
 induction x0 with
 |nil=>
  intro y4
  cases y4 with
  |nil=>
   intro _
   exact rfl
  |cons Z1 Z2=>
   intro x
   exact x.elim
 |cons Z1 Z2 ihh=>
  intro y4
  cases y4 with
  |nil=>
   intro x
   exact x.elim
  |cons Z1 Z2=>
   intro x
   simp [ihh x.2]
theorem gR.get:∀{σ:al} {os:List (Du×Obj)},gR C ρ σ os->∀{i:Nat} {co:CO},am σ i=some co->∃p,os[i]?=some p/\OR C ρ co p.2:=by
 intro x0
 induction x0 with
 |nil=>
  intro y4
  cases y4 with
  |nil=>
   intro _ _ _ e
   simp [jY,j0,kb] at e
  |cons Z1 Z2=>
   intro x _ _ _
   exact x.elim
 |cons Z1 Z2 ihh=>
  intro y4
  cases y4 with
  |nil=>
   intro x _ _ _
   exact x.elim
  |cons p Z1=>
   intro x y6
   cases y6 with
   |zero=>
    intro co e
    simp [jY,j0,kb] at e
    subst e
    exact ⟨p,rfl,x.1⟩
   |succ i=>
    intro co e
    simp only [jY,j0,kb] at e
    obtain ⟨p,h1,h2⟩:=ihh x.2 e
    exact ⟨p,by simpa using h1,h2⟩
theorem gR.set:∀{σ:al} {os:List (Du×Obj)},gR C ρ σ os->∀{i:Nat} {co:CO} {p:Du×Obj},OR C ρ co p.2->gR C ρ (aU σ i co) (os.set i p):=by
 intro x0
 induction x0 with
 |nil=>
  intro y4
  cases y4 with
  |nil=>
   intro _ _ _ _ _
   exact trivial
  |cons Z1 Z2=>
   intro x _ _ _ _
   exact x.elim
 |cons Z1 Z2 ihh=>
  intro y4
  cases y4 with
  |nil=>
   intro x _ _ _ _
   exact x.elim
  |cons Z1 Z2=>
   intro x y6
   cases y6 with
   |zero=>
    intro _ _ h
    exact ⟨h,x.2⟩
   |succ i=>
    intro _ _ h
    exact ⟨x.1,ihh x.2 h⟩
theorem gR.app:∀{σ:al} {os:List (Du×Obj)},gR C ρ σ os->∀{σ':al} {os':List (Du×Obj)},gR C ρ σ' os'->gR C ρ (σ++σ') (os++os'):=by
 intro x0
 induction x0 with
 |nil=>
  intro y4
  cases y4 with
  |nil=>
   intro _ _ _ h
   exact h
  |cons Z1 Z2=>
   intro x _ _ _
   exact x.elim
 |cons Z1 Z2 ihh=>
  intro y4
  cases y4 with
  |nil=>
   intro x _ _ _
   exact x.elim
  |cons Z1 Z2=>
   intro x _ _ h
   exact ⟨x.1,ihh x.2 h⟩
structure bT where
 A:E3
 A₀:E3
 base:DI
 h₀:DI
 outer:List Env
 fenv:Env
 env:Env
 L:Du
inductive bT.Ok (C:Cx) (S:bT) (n:Nat):Prop where
 |mk (B:K8 S.A₀ S.base S.outer S.h₀) (X:C.K.In S.h₀) (Tp:Top C.p C.loose C.mean C.mg C.mb S.h₀) (hA:S.A.frames=some (S.fenv::S.outer)) (hf:S.fenv.frame=some S.L) (hk:S.fenv.scope.kind=.function) (hh:S.A.handled=none) (dep:S.A.depth+n<990) (un:S.A.units+4*n<9000) (ek:S.env.scope.kind=.function) (eg:S.env.globals=mainGlobals) (eb:S.env.builtins=builtinsNs) (ds:C.ds S.outer) (XB:C.K.In S.base) (TB:Top C.p C.loose C.mean C.mg C.mb S.base)
theorem bT.Ok.le {C:Cx} {S:bT} {n k:Nat} (x:S.Ok C n) (h:k<=n):S.Ok C k:=
 ⟨x.1,x.2,x.3,x.4,x.5,x.6,x.7,DY (Gd h _) x.8,DY (Gd (Nat.mul_le_mul_left 4 h) _) x.9,x.10,x.11,x.12,x.13,x.14,x.15⟩
inductive aX (C:Cx) (S:bT) (hid:List (Du×Obj)) (m:Str->Option Dk) (ρ:List Du) (σ:al) (h:DI):Prop where
 |mk (F:Fr S.h₀ S.L h m) (os:∃os,HM S.h₀ S.L h (hid++os)/\((hid++os).map (·.1)).Nodup/\os.map (·.1)=ρ/\gR C ρ σ os)
def oV:Option EW->Bool
 |some .local|some .cell|some .free=>true
 |_=>false
def tZ (C:Cx) (S:bT) (mD:Str->Option Dk) (ρ:List Du) (loc:aP):Prop:=
 ∀x lv,lk loc x=some lv->oV (S.env.kindOf (C.nS x))=true->match lv with
  |.val cv=>S.env.kindOf (C.nS x)=some .local/\∃v,mD (C.nS x)=some v/\VR ρ cv v
  |.cell k=>(S.env.kindOf (C.nS x)=some .cell\/S.env.kindOf (C.nS x)=some .free)/\∃c,S.env.cells.lookup (C.nS x)=some c/\ρ[k]?=some c
theorem tZ.mono {C:Cx} {S:bT} {mD:Str->Option Dk} {ρ ρ':List Du} {loc:aP} (h:ρ<+:ρ') (x:tZ C S mD ρ loc):tZ C S mD ρ' loc:=by
 intro y lv e il
 have z:=x y lv e il
 cases lv with
 |val cv=>exact ⟨z.1,z.2.imp fun v q=>⟨q.1,q.2.mono h⟩⟩
 |cell k=>exact ⟨z.1,z.2.imp fun c q=>⟨q.1,e9 h q.2⟩⟩
def RN (S:bT) (hid:List (Du×Obj)) (m mD:Str->Option Dk):Prop:=
 ∀h:DI,Fr S.h₀ S.L h m->(∀p∈hid,h.get? p.1=some p.2)->h.Ns S.env.locals mD
def bQ (C:Cx) (S:bT) (hid:List (Du×Obj)) (m:Str->Option Dk) (ρ:List Du) (s:Dm) (Q:bu) (Qm:Dk->Dm->Prop):Prop:=
 ∀cv σ' ρ' v h' tk,Q cv σ'->VR ρ' cv v->ρ<+:ρ'->aX C S hid m ρ' σ' h'->Qm v (aQ s h' tk)
def ja (C:Cx) (S:bT) (hid:List (Du×Obj)) (m:Str->Option Dk) (ρ:List Du) (s:Dm) (Q:Bool->al->Prop) (Qm:Bool->Dm->Prop):Prop:=
 ∀b σ' ρ' h' tk,Q b σ'->ρ<+:ρ'->aX C S hid m ρ' σ' h'->Qm b (aQ s h' tk)
theorem bQ.mono (x:bQ C S hid m ρ s Q Qm) (h:ρ<+:ρ') (h':DI) (tk:Nat):
  bQ C S hid m ρ' (aQ s h' tk) Q Qm:=fun cv σ' ρ'' v h'' tk' q r p R=>x cv σ' ρ'' v h'' tk' q r (h.trans p) R
theorem ja.mono (x:ja C S hid m ρ s Q Qm) (h:ρ<+:ρ') (h':DI) (tk:Nat):
  ja C S hid m ρ' (aQ s h' tk) Q Qm:=fun b σ' ρ'' h'' tk' q p R=>x b σ' ρ'' h'' tk' q (h.trans p) R
def B5:Bf->Dk
 |.len=>.builtin "len"|.int=>.type "int"|.str=>.type "str"|.abs=>.builtin "abs"|.sum=>.builtin "sum"
 |.min=>.builtin "min"|.max=>.builtin "max"|.bytes=>.type "bytes"|.bytearray=>.type "bytearray"
 |.chr=>.builtin "chr"|.ord=>.builtin "ord"|.range=>.type "range"
def PP:Bf->Nat
 |.len=>0|.int=>1|.str=>2|.abs=>3|.sum=>4|.min=>5|.max=>6|.bytes=>7|.bytearray=>8|.chr=>9|.ord=>10|.range=>11
def TN (n:Nat):Bf:=[.len,.int,.str,.abs,.sum,.min,.max,.bytes,.bytearray,.chr,.ord,.range].getD n .len
theorem uo (a:Bf):TN (PP a)=a:=by cases a<;>rfl
theorem Bj (h:PP a=PP b):a=b:=(uo a).symm.trans ((congrArg TN h).trans (uo b))
def SL:Mk->List Nat
 |.append=>[97,112,112,101,110,100]|.extend=>[101,120,116,101,110,100]|.count=>[99,111,117,110,116]|.index=>[105,110,100,101,120]
 |.split=>[115,112,108,105,116]|.find=>[102,105,110,100]|.join=>[106,111,105,110]|.get=>[103,101,116]
def UG:Aq->L1
 |.add=>.Add|.sub=>.Sub|.mul=>.Mult|.fdiv=>.FloorDiv|.mod=>.Mod|.pow=>.Pow
def Mr (o:Aq) (p:L1):Bool:=decide (p=UG o)
def VQ:pk->K9
 |.lt=>.Lt|.le=>.LtE|.gt=>.Gt|.ge=>.GtE|.eq=>.Eq|.ne=>.NotEq|.is=>.Is|.isnot=>.IsNot|.isin=>.In|.notin=>.NotIn
def wj (o:pk) (p:K9):Bool:=decide (p=VQ o)
def dC (l:List Nat) (x:Str):Bool:=aF l x.cps.toList
theorem bN (h:dC l x=true):x=aV l:=by
 have:=cg.mp h
 cases x with|mk cps=>cases cps with|mk xs=>simp [aV,this]
theorem dT [Decidable c] (h:dite c f (fun Z0=>false)=true):∃q:c,f q=true:=by
 by_cases q:c
 ·rw [dif_pos q] at h;exact ⟨q,h⟩
 ·rw [dif_neg q] at h;cases h
def CC (v:Fu):Bool:=if h:v.ctorIdx=0 then Ip (motive:=fun Z0=>Bool) v h (true) else false
@[elab_as_elim] theorem kNone_e {P:Fu->Prop} {v:Fu} (h:CC v=true) (k:P .none):P v:=(dT (c:=v.ctorIdx=0) h).elim fun h2 h=>Ip (motive:=fun v=>∀h2,Ip (motive:=fun Z0=>Bool) v h2 (true)=true->P v) v h2 (fun Z0 Z0=>k) h2 h
def B6 (v:Fu) (f:Bool->Bool):Bool:=if h:v.ctorIdx=1 then Iq (motive:=fun Z0=>Bool) v h (fun b=>f b) else false
@[elab_as_elim] theorem kBool_e {P:Fu->Prop} {v:Fu} {f:Bool->Bool} (h:B6 v f=true) (k:∀b,f b=true->P (.bool b)):P v:=(dT (c:=v.ctorIdx=1) h).elim fun h2 h=>Iq (motive:=fun v=>∀h2,Iq (motive:=fun Z0=>Bool) v h2 (fun b=>f b)=true->P v) v h2 (fun b Z0 h=>k b h) h2 h
def OL (v:Fu) (f:Int->Bool):Bool:=if h:v.ctorIdx=2 then IT (motive:=fun Z0=>Bool) v h (fun i=>f i) else false
@[elab_as_elim] theorem kInt_e {P:Fu->Prop} {v:Fu} {f:Int->Bool} (h:OL v f=true) (k:∀i,f i=true->P (.int i)):P v:=(dT (c:=v.ctorIdx=2) h).elim fun h2 h=>IT (motive:=fun v=>∀h2,IT (motive:=fun Z0=>Bool) v h2 (fun i=>f i)=true->P v) v h2 (fun i Z0 h=>k i h) h2 h
def NS (v:Fu) (f:Str->Bool):Bool:=if h:v.ctorIdx=5 then IU (motive:=fun Z0=>Bool) v h (fun x=>f x) else false
@[elab_as_elim] theorem kStr_e {P:Fu->Prop} {v:Fu} {f:Str->Bool} (h:NS v f=true) (k:∀x,f x=true->P (.str x)):P v:=(dT (c:=v.ctorIdx=5) h).elim fun h2 h=>IU (motive:=fun v=>∀h2,IU (motive:=fun Z0=>Bool) v h2 (fun x=>f x)=true->P v) v h2 (fun x Z0 h=>k x h) h2 h
def Pl (v:Fu) (f:List UInt8->Bool):Bool:=if h:v.ctorIdx=6 then HT (motive:=fun Z0=>Bool) v h (fun x=>f x) else false
@[elab_as_elim] theorem kByt_e {P:Fu->Prop} {v:Fu} {f:List UInt8->Bool} (h:Pl v f=true) (k:∀x,f x=true->P (.bytes x)):P v:=(dT (c:=v.ctorIdx=6) h).elim fun h2 h=>HT (motive:=fun v=>∀h2,HT (motive:=fun Z0=>Bool) v h2 (fun x=>f x)=true->P v) v h2 (fun x Z0 h=>k x h) h2 h
def B3 (v:CV) (w:Fu):Bool:=match v with
 |.none=>CC w
 |.bool a=>B6 w fun b=>cond a b (!b)
 |.int a=>OL w (j5 a)
 |.str l=>NS w fun x=>aF l x.cps.toList
 |.bytes l=>Pl w fun b=>qZ l (b.map fun c=>(c.toNat:Int))
 |_=>false
def jS {α:Type} (o:Option α) (f:α->Bool):Bool:=match o with|some x=>f x|none=>false
def dN (sc:Ef) (x:Str) (k:EW):Bool:=jS (sc.names.lookup x) fun j=>decide (j=k)
def QL (sc:Ef) (x:Str):Bool:=jS (sc.names.lookup x) fun k=>decide (k=.local)||(decide (k=.cell)||decide (k=.free))
def Cd (n:Nat) (e:Expr):Bool:=!Dy n e.ctorIdx
def fW:Expr->Bool:=Cd 7
def gA:Expr->Bool:=Cd 16
def qf:Expr->Bool:=Cd 22
def j4 (x:Str):Bool:=!(x==("__debug__":Str))&&!(x==("__classdict__":Str))
section
variable (nm:Nat->List Nat) (gk:List Nat->Option GK)
def PV (g h:GK):Bool:=match g with
 |.fn a=>(match h with|.fn b=>Dy a b|_=>false)
 |.cl a=>(match h with|.cl b=>Dy a b|_=>false)
 |.bi a=>(match h with|.bi b=>Dy (PP a) (PP b)|_=>false)
theorem Bq (e:PV g h=true):g=h:=by
 cases g<;>cases h<;>first|exact congrArg _ (Dz e)|exact congrArg _ (Bj (Dz e))|cases e
def qr (x:Str) (g:GK):Bool:=match gk x.cps.toList with
 |some h=>PV h g
 |none=>false
theorem hO (h:qr gk x g=true):gk x.cps.toList=some g:=by
 unfold qr at h
 cases e:gk x.cps.toList with
 |none=>rw [e] at h;cases h
 |some y=>rw [e] at h;rw [Bq h]
def bA {α β:Type} (f:α->β->Bool):List α->List β->Bool
 |[],[]=>true
 |a::l,b::m=>f a b&&bA f l m
 |Z1,Z2=>false
def rl (e:Expr) (f:Fu->Bool):Bool:=if h:e.ctorIdx=19 then Hf (motive_1:=fun Z0=>Bool) e h fun w Z0 Z0=>f w else false
def i7 (e:Expr) (f:Str->Bool):Bool:=if h:e.ctorIdx=23 then IV (motive_1:=fun Z0=>Bool) e h fun x Z0=>f x else false
def Cv (e:Expr) (f:Expr->L1->Expr->Bool):Bool:=if h:e.ctorIdx=2 then Ir (motive_1:=fun Z0=>Bool) e h fun a o b Z0=>f a o b else false
def A7 (e:Expr) (f:UnaryOp->Expr->Bool):Bool:=if h:e.ctorIdx=3 then Hw (motive_1:=fun Z0=>Bool) e h fun o x Z0=>f o x else false
def Cp (e:Expr) (f:Expr->Expr->Expr->Bool):Bool:=if h:e.ctorIdx=5 then Iu (motive_1:=fun Z0=>Bool) e h fun a b c Z0=>f a b c else false
def zu (e:Expr) (f:BoolOp->List Expr->Bool):Bool:=if h:e.ctorIdx=0 then HU (motive_1:=fun Z0=>Bool) e h fun o l Z0=>f o l else false
def u9 (e:Expr) (f:Expr->List K9->List Expr->Bool):Bool:=if h:e.ctorIdx=15 then Hx (motive_1:=fun Z0=>Bool) e h fun a o l Z0=>f a o l else false
def Cr (e:Expr) (f:List Expr->Bool):Bool:=if h:e.ctorIdx=24 then IW (motive_1:=fun Z0=>Bool) e h fun l Z0=>f l else false
def oY (e:Expr) (f:List Expr->Bool):Bool:=if h:e.ctorIdx=25 then Iv (motive_1:=fun Z0=>Bool) e h fun l Z0 Z0=>f l else false
def B0 (e:Expr) (f:List (Option Expr)->List Expr->Bool):Bool:=if h:e.ctorIdx=6 then IX (motive_1:=fun Z0=>Bool) e h fun k l Z0=>f k l else false
def vy (e:Expr) (f:Expr->List Expr->List Keyword->Pos->Bool):Bool:=if h:e.ctorIdx=16 then IY (motive_1:=fun Z0=>Bool) e h fun g l w p=>f g l w p else false
def rP (e:Expr) (f:Expr->Str->Pos->Bool):Bool:=if h:e.ctorIdx=20 then G3 (motive_1:=fun Z0=>Bool) e h fun v a p=>f v a p else false
def ry (e:Expr) (f:Expr->Expr->Bool):Bool:=if h:e.ctorIdx=21 then G4 (motive_1:=fun Z0=>Bool) e h fun v j Z0=>f v j else false
def zy (e:Expr) (f:Option Expr->Option Expr->Option Expr->Bool):Bool:=if h:e.ctorIdx=26 then Iw (motive_1:=fun Z0=>Bool) e h fun a b c Z0=>f a b c else false
def Ce (e:Expr) (f:Expr->List Comprehension->Ef->Bool):Bool:=if h:e.ctorIdx=8 then Hg (motive_1:=fun Z0=>Bool) e h fun a g s Z0=>f a g s else false
section
variable {P:Expr->Prop}
@[elab_as_elim] theorem onCst_e (h:rl e f=true) (k:∀w a p,f w=true->P (.Constant w a p)):P e:=(dT (c:=e.ctorIdx=19) h).elim fun h2 h=>Hf (motive_1:=fun e=>∀h2,Hf (motive_1:=fun Z0=>Bool) e h2 (fun w Z0 Z0=>f w)=true->P e) e h2 (fun Z0 Z0 Z0 Z0 h=>k _ _ _ h) h2 h
@[elab_as_elim] theorem onName_e (h:i7 e f=true) (k:∀x p,f x=true->P (.Name x p)):P e:=(dT (c:=e.ctorIdx=23) h).elim fun h2 h=>IV (motive_1:=fun e=>∀h2,IV (motive_1:=fun Z0=>Bool) e h2 (fun x Z0=>f x)=true->P e) e h2 (fun Z0 Z0 Z0 h=>k _ _ h) h2 h
@[elab_as_elim] theorem onBin_e (h:Cv e f=true) (k:∀a o b p,f a o b=true->P (.BinOp a o b p)):P e:=(dT (c:=e.ctorIdx=2) h).elim fun h2 h=>Ir (motive_1:=fun e=>∀h2,Ir (motive_1:=fun Z0=>Bool) e h2 (fun a o b Z0=>f a o b)=true->P e) e h2 (fun Z0 Z0 Z0 Z0 Z0 h=>k _ _ _ _ h) h2 h
@[elab_as_elim] theorem onUn_e (h:A7 e f=true) (k:∀o x p,f o x=true->P (.UnaryOp o x p)):P e:=(dT (c:=e.ctorIdx=3) h).elim fun h2 h=>Hw (motive_1:=fun e=>∀h2,Hw (motive_1:=fun Z0=>Bool) e h2 (fun o x Z0=>f o x)=true->P e) e h2 (fun Z0 Z0 Z0 Z0 h=>k _ _ _ h) h2 h
@[elab_as_elim] theorem onIfe_e (h:Cp e f=true) (k:∀a b c p,f a b c=true->P (.IfExp a b c p)):P e:=(dT (c:=e.ctorIdx=5) h).elim fun h2 h=>Iu (motive_1:=fun e=>∀h2,Iu (motive_1:=fun Z0=>Bool) e h2 (fun a b c Z0=>f a b c)=true->P e) e h2 (fun Z0 Z0 Z0 Z0 Z0 h=>k _ _ _ _ h) h2 h
@[elab_as_elim] theorem onBop_e (h:zu e f=true) (k:∀o l p,f o l=true->P (.BoolOp o l p)):P e:=(dT (c:=e.ctorIdx=0) h).elim fun h2 h=>HU (motive_1:=fun e=>∀h2,HU (motive_1:=fun Z0=>Bool) e h2 (fun o l Z0=>f o l)=true->P e) e h2 (fun Z0 Z0 Z0 Z0 h=>k _ _ _ h) h2 h
@[elab_as_elim] theorem onCmp_e (h:u9 e f=true) (k:∀a o l p,f a o l=true->P (.Compare a o l p)):P e:=(dT (c:=e.ctorIdx=15) h).elim fun h2 h=>Hx (motive_1:=fun e=>∀h2,Hx (motive_1:=fun Z0=>Bool) e h2 (fun a o l Z0=>f a o l)=true->P e) e h2 (fun Z0 Z0 Z0 Z0 Z0 h=>k _ _ _ _ h) h2 h
@[elab_as_elim] theorem onLst_e (h:Cr e f=true) (k:∀l p,f l=true->P (.List l p)):P e:=(dT (c:=e.ctorIdx=24) h).elim fun h2 h=>IW (motive_1:=fun e=>∀h2,IW (motive_1:=fun Z0=>Bool) e h2 (fun l Z0=>f l)=true->P e) e h2 (fun Z0 Z0 Z0 h=>k _ _ h) h2 h
@[elab_as_elim] theorem onTup_e (h:oY e f=true) (k:∀l a p,f l=true->P (.Tuple l a p)):P e:=(dT (c:=e.ctorIdx=25) h).elim fun h2 h=>Iv (motive_1:=fun e=>∀h2,Iv (motive_1:=fun Z0=>Bool) e h2 (fun l Z0 Z0=>f l)=true->P e) e h2 (fun Z0 Z0 Z0 Z0 h=>k _ _ _ h) h2 h
@[elab_as_elim] theorem onDct_e (h:B0 e f=true) (k:∀a l p,f a l=true->P (.Dict a l p)):P e:=(dT (c:=e.ctorIdx=6) h).elim fun h2 h=>IX (motive_1:=fun e=>∀h2,IX (motive_1:=fun Z0=>Bool) e h2 (fun k l Z0=>f k l)=true->P e) e h2 (fun Z0 Z0 Z0 Z0 h=>k _ _ _ h) h2 h
@[elab_as_elim] theorem onCal_e (h:vy e f=true) (k:∀g l w p,f g l w p=true->P (.Call g l w p)):P e:=(dT (c:=e.ctorIdx=16) h).elim fun h2 h=>IY (motive_1:=fun e=>∀h2,IY (motive_1:=fun Z0=>Bool) e h2 (fun g l w p=>f g l w p)=true->P e) e h2 (fun Z0 Z0 Z0 Z0 Z0 h=>k _ _ _ _ h) h2 h
@[elab_as_elim] theorem onAtt_e (h:rP e f=true) (k:∀v a p,f v a p=true->P (.Attribute v a p)):P e:=(dT (c:=e.ctorIdx=20) h).elim fun h2 h=>G3 (motive_1:=fun e=>∀h2,G3 (motive_1:=fun Z0=>Bool) e h2 (fun v a p=>f v a p)=true->P e) e h2 (fun Z0 Z0 Z0 Z0 h=>k _ _ _ h) h2 h
@[elab_as_elim] theorem onSub_e (h:ry e f=true) (k:∀v j p,f v j=true->P (.Subscript v j p)):P e:=(dT (c:=e.ctorIdx=21) h).elim fun h2 h=>G4 (motive_1:=fun e=>∀h2,G4 (motive_1:=fun Z0=>Bool) e h2 (fun v j Z0=>f v j)=true->P e) e h2 (fun Z0 Z0 Z0 Z0 h=>k _ _ _ h) h2 h
@[elab_as_elim] theorem onSlc_e (h:zy e f=true) (k:∀a b c p,f a b c=true->P (.Slice a b c p)):P e:=(dT (c:=e.ctorIdx=26) h).elim fun h2 h=>Iw (motive_1:=fun e=>∀h2,Iw (motive_1:=fun Z0=>Bool) e h2 (fun a b c Z0=>f a b c)=true->P e) e h2 (fun Z0 Z0 Z0 Z0 Z0 h=>k _ _ _ _ h) h2 h
@[elab_as_elim] theorem onLcp_e (h:Ce e f=true) (k:∀a g s p,f a g s=true->P (.ListComp a g s p)):P e:=(dT (c:=e.ctorIdx=8) h).elim fun h2 h=>Hg (motive_1:=fun e=>∀h2,Hg (motive_1:=fun Z0=>Bool) e h2 (fun a g s Z0=>f a g s)=true->P e) e h2 (fun Z0 Z0 Z0 Z0 Z0 h=>k _ _ _ _ h) h2 h
end
theorem bL (h:(a&&b)=true):a=true:=by cases a<;>first|rfl|exact h
theorem bR (h:(a&&b)=true):b=true:=by cases a<;>first|exact h|exact absurd h Dq
def sP {α:Type} (l:List α) (f:α->Bool):Bool:=match l with|[x]=>f x|_=>false
def N5 {α:Type} (l:List α) (f:α->α->Bool):Bool:=match l with|[x,y]=>f x y|_=>false
@[elab_as_elim] theorem on1_e {α:Type} {P:List α->Prop} {l:List α} {f:α->Bool} (h:sP l f=true) (k:∀x,f x=true->P [x]):P l:=by
 rcases l with _|⟨x,_|⟨y,l⟩⟩<;>first|exact absurd h Dq|exact k _ h
@[elab_as_elim] theorem on2_e {α:Type} {P:List α->Prop} {l:List α} {f:α->α->Bool} (h:N5 l f=true) (k:∀x y,f x y=true->P [x,y]):P l:=by
 rcases l with _|⟨x,_|⟨y,_|⟨z,l⟩⟩⟩<;>first|exact absurd h Dq|exact k _ _ h
@[elab_as_elim] theorem onO_e {α:Type} {P:Option α->Prop} {o:Option α} {f:α->Bool} (h:jS o f=true) (k:∀x,f x=true->P (some x)):P o:=by
 cases o<;>first|exact absurd h Dq|exact k _ h
theorem Qw (h:dN sc x k=true):sc.names.lookup x=some k:=onO_e (P:=fun r=>r=some k) h fun j h=>congrArg some (of_decide_eq_true h)
@[elab_as_elim] theorem isN_e {α:Type} {P:Option α->Prop} {o:Option α} (h:o.isNone=true) (k:P none):P o:=by
 cases o<;>first|exact k|exact absurd h Dq
@[elab_as_elim] theorem isE_e {α:Type} {P:List α->Prop} {l:List α} (h:l.isEmpty=true) (k:P []):P l:=by
 cases l<;>first|exact k|exact absurd h Dq
def iX (e:Expr) (f:Str->List Expr->Bool):Bool:=vy e fun g l w Z0=>i7 g fun x=>w.isEmpty&&f x l
@[elab_as_elim] theorem onCalN_e {P:Expr->Prop} {e:Expr} {f:Str->List Expr->Bool} (h:iX e f=true) (k:∀x p l ps,f x l=true->P (.Call (.Name x p) l [] ps)):P e:=
 onCal_e h fun Z0 l w ps h=>onName_e h fun x p h=>isE_e (bL h) (k x p l ps (bR h))
def qi (e:Expr) (f:Expr->Str->List Expr->Bool):Bool:=vy e fun g l w ps=>rP g fun v a ap=>w.isEmpty&&Dy ap.endLine ps.line&&f v a l
@[elab_as_elim] theorem onCalA_e {P:Expr->Prop} {e:Expr} {f:Expr->Str->List Expr->Bool} (h:qi e f=true) (k:∀v a ap l ps,Dy ap.endLine ps.line=true->f v a l=true->P (.Call (.Attribute v a ap) l [] ps)):P e:=
 onCal_e h fun Z0 l w ps h=>onAtt_e h fun v a ap h=>isE_e (bL (bL h)) (k v a ap l ps (bR (bL h)) (bR h))
theorem Qt (h:j5 z 0=true):z=0:=by
 cases z with
 |ofNat n=>cases n<;>first|rfl|exact absurd h Dq
 |negSucc n=>exact absurd h Dq
def so (e:Expr) (f:Expr->Expr->Expr->List Expr->Ef->Bool):Bool:=Ce e fun a g s=>sP g fun c=>j5 c.is_async 0&&f a c.target c.iter c.ifs s
@[elab_as_elim] theorem onCmpr_e {P:Expr->Prop} {e:Expr} {f:Expr->Expr->Expr->List Expr->Ef->Bool} (h:so e f=true) (k:∀a t i l s p,f a t i l s=true->P (.ListComp a [⟨t,i,l,0⟩] s p)):P e:=
 onLcp_e h fun a g s p h=>on1_e h fun c h=>by
  obtain ⟨t,i,l,z⟩:=c
  have:z=0:=Qt (bL h)
  subst this
  exact k a t i l s p (bR h)
def CJ (e:Expr) (f:Expr->Bool):Bool:=A7 e fun o x=>match o with|.Not=>f x|_=>false
def CP (e:Expr) (f:Expr->Bool):Bool:=A7 e fun o x=>match o with|.USub=>f x|_=>false
@[elab_as_elim] theorem onNot_e {P:Expr->Prop} {e:Expr} {f:Expr->Bool} (h:CJ e f=true) (k:∀x p,f x=true->P (.UnaryOp .Not x p)):P e:=
 onUn_e h fun o x p h=>by cases o<;>first|exact absurd h Dq|exact k x p h
@[elab_as_elim] theorem onNeg_e {P:Expr->Prop} {e:Expr} {f:Expr->Bool} (h:CP e f=true) (k:∀x p,f x=true->P (.UnaryOp .USub x p)):P e:=
 onUn_e h fun o x p h=>by cases o<;>first|exact absurd h Dq|exact k x p h
def yc (e:Expr) (f:Str->Bool):Bool:=rl e fun w=>NS w f
@[elab_as_elim] theorem onStr_e {P:Expr->Prop} {e:Expr} {f:Str->Bool} (h:yc e f=true) (k:∀x a p,f x=true->P (.Constant (.str x) a p)):P e:=
 onCst_e h fun w a p h=>kStr_e h fun x h=>k x a p h
def xj (x:List Nat) (q:Option Expr):Bool:=jS q fun e=>yc e (dC x)
def yj:Expr->Bool:=Cd 26
def jf (e:Expr):Bool:=Dn 11 e.ctorIdx||Dn e.ctorIdx 7
def yx (a:Bool):BoolOp->Bool
 |.And=>a
 |.Or=>!a
def lC {α β:Type} (f:α->β->Bool) (a:Option α) (b:Option β):Bool:=match a with
 |none=>b.isNone
 |some a=>jS b (f a)
def vA {α β:Type} (f:α->β->Bool) (a:Option α) (l:List β):Bool:=match a with
 |none=>l.isEmpty
 |some a=>sP l (f a)
def xf (sc:Ef) (x:Nat) (e:Expr):Bool:=i7 e fun id=>dC (nm x) id&&dN sc id .local
def iR (sc:Ef) (l:List Nat) (t:Bool) (e:Expr):Bool:=match t with
 |true=>oY e (bA (xf nm sc) l)
 |false=>sP l fun x=>xf nm sc x e
def pQ (sc sc':Ef) (tg:List Nat):Bool:=
 (sc'.names.all fun y=>decide (y.2=.local)||decide (y.2=.free)||decide (y.2=.globalImplicit))&&decide (sc'.kind=.function)&&(sc'.names.all fun y=>!decide (y.2=.local)||decide (sc'.names.lookup y.1=some .local))&&
 (sc'.names.all fun y=>!decide (y.2=.local)||(dC [46,48] y.1||tg.any fun x=>dC (nm x) y.1))&&
 (sc'.names.all fun y=>!decide (y.2=.free)||decide (sc.names.lookup y.1=some .cell)||decide (sc.names.lookup y.1=some .free))
def Ca (r:Ef->CE->Expr->Bool) (sc:Ef) (elt:CE) (tg:List Nat) (tp:Bool) (it:CE) (cond:Option CE) (elt' tgE iD:Expr) (ifs:List Expr) (sc':Ef):Bool:=r sc it iD&&iR nm sc' tg tp tgE&&r sc' elt elt'&&vA (r sc') cond ifs&&fW iD&&pQ nm sc sc' tg
def Q4 (r:Ef->CE->Expr->Bool) (sc:Ef) (c:CE) (e:Expr):Bool:=match c with
 |.cst v=>rl e (B3 v)
 |.loc x=>i7 e fun id=>dC (nm x) id&&j4 id&&QL sc id
 |.glb x=>i7 e fun id=>dC (nm x) id&&dN sc id .globalImplicit&&j4 id
 |.bin _ o a b=>Cv e fun a' p b'=>Mr o p&&r sc a a'&&r sc b b'
 |.neg a=>CP e (r sc a)
 |.nt a=>CJ e (r sc a)
 |.ife _ t a b=>Cp e fun t' a' b'=>r sc t t'&&r sc a a'&&r sc b b'
 |.bop _ isAnd l=>zu e fun op vs=>yx isAnd op&&bA (r sc) l vs
 |.cmp _ a l=>u9 e fun a' ops vs=>r sc a a'&&bA (fun p o=>wj p.1 o) l ops&&bA (fun p v=>fW v&&r sc p.2 v) l vs
 |.lst l=>Cr e fun es=>bA (r sc) l es&&Dn l.length 1000
 |.tup l=>oY e fun es=>bA (r sc) l es&&Dn l.length 1000
 |.dct l=>B0 e fun ks vs=>bA (fun p q=>xj p.1 q) l ks&&bA (fun p v=>r sc p.2 v) l vs&&E1 0 l.length&&Dn l.length 15
 |.calF f as=>iX e fun id es=>dN sc id .globalImplicit&&j4 id&&qr gk id (.fn f)&&bA (r sc) as es
 |.calC f as=>iX e fun id es=>dN sc id .globalImplicit&&j4 id&&qr gk id (.cl f)&&bA (r sc) as es
 |.calB _ f as=>iX e fun id es=>dN sc id .globalImplicit&&j4 id&&qr gk id (.bi f)&&bA (r sc) as es
 |.mth o x as=>qi e fun v a es=>gA v&&dC (nm x) a&&r sc o v&&bA (r sc) as es&&Dn as.length 10
 |.mtB _ m o as=>qi e fun v a es=>gA v&&dC (SL m) a&&r sc o v&&bA (r sc) as es&&Dn as.length 10
 |.att o x=>rP e fun v a Z0=>gA v&&dC (nm x) a&&r sc o v
 |.sub _ o i=>ry e fun v j=>yj j&&r sc o v&&r sc i j
 |.slc _ o a b c=>ry e fun v j=>zy j fun a' b' c'=>r sc o v&&lC (r sc) a a'&&lC (r sc) b b'&&lC (r sc) c c'
 |.comp _ elt tg tp it cond=>so e (Ca nm r sc elt tg tp it cond)
 |.bad=>qf e
def aN (k:Nat):Ef->CE->Expr->Bool:=Jb (motive:=fun Z0=>Ef->CE->Expr->Bool) (fun Z0 Z0 Z0=>false) (fun Z0 r=>Q4 nm gk r) k
theorem kg {k:Nat} {sc:Ef} {e:Expr} {w:Bool} {elt:CE} {tg:List Nat} {tp:Bool} {it:CE} {cond:Option CE} (h:aN nm gk (k+1) sc (.comp w elt tg tp it cond) e=true):so e (Ca nm (aN nm gk k) sc elt tg tp it cond)=true:=h
def gE:List Nat->Bool
 |[]=>true
 |x::l=>!(gS x l)&&gE l
theorem yn:gE []=true:=rfl
theorem zM {x:Nat} {l:List Nat}:gE (x::l)=(!(gS x l)&&gE l):=rfl
def xd (s:Ek) (f:Option Expr->Bool):Bool:=if h:s.ctorIdx=3 then HV (motive_2:=fun Z0=>Bool) s h fun o Z0=>f o else false
def yq (s:Ek) (f:Expr->Bool):Bool:=if h:s.ctorIdx=24 then IZ (motive_2:=fun Z0=>Bool) s h fun e Z0=>f e else false
def mv (s:Ek) (f:Expr->Expr->Bool):Bool:=if h:s.ctorIdx=5 then HW (motive_2:=fun Z0=>Bool) s h fun l e Z0=>sP l fun t=>f t e else false
def M6 (s:Ek) (f:Expr->List Ek->List Ek->Bool):Bool:=if h:s.ctorIdx=12 then JR (motive_2:=fun Z0=>Bool) s h fun t a b Z0=>f t a b else false
def BW (s:Ek) (f:Expr->List Ek->Bool):Bool:=if h:s.ctorIdx=11 then Iy (motive_2:=fun Z0=>Bool) s h fun t a b Z0=>b.isEmpty&&f t a else false
def qN (s:Ek) (f:Expr->Expr->List Ek->Bool):Bool:=if h:s.ctorIdx=9 then Jq (motive_2:=fun Z0=>Bool) s h fun t i a b Z0=>b.isEmpty&&f t i a else false
def x9 (s:Ek) (f:List Ek->List Jf->Bool):Bool:=if h:s.ctorIdx=17 then Jr (motive_2:=fun Z0=>Bool) s h fun a h b c Z0=>b.isEmpty&&c.isEmpty&&f a h else false
section
variable {P:Ek->Prop}
@[elab_as_elim] theorem onRet_e (h:xd s f=true) (k:∀o p,f o=true->P (.Return o p)):P s:=(dT (c:=s.ctorIdx=3) h).elim fun h2 h=>HV (motive_2:=fun s=>∀h2,HV (motive_2:=fun Z0=>Bool) s h2 (fun o Z0=>f o)=true->P s) s h2 (fun Z0 Z0 Z0 h=>k _ _ h) h2 h
@[elab_as_elim] theorem onXpr_e (h:yq s f=true) (k:∀o p,f o=true->P (.Expr o p)):P s:=(dT (c:=s.ctorIdx=24) h).elim fun h2 h=>IZ (motive_2:=fun s=>∀h2,IZ (motive_2:=fun Z0=>Bool) s h2 (fun e Z0=>f e)=true->P s) s h2 (fun Z0 Z0 Z0 h=>k _ _ h) h2 h
@[elab_as_elim] theorem onAsg_e (h:mv s f=true) (k:∀t e p,f t e=true->P (.Assign [t] e p)):P s:=(dT (c:=s.ctorIdx=5) h).elim fun h2 h=>HW (motive_2:=fun s=>∀h2,HW (motive_2:=fun Z0=>Bool) s h2 (fun l e Z0=>sP l fun t=>f t e)=true->P s) s h2 (fun Z0 Z0 Z0 Z0 h=>on1_e h fun t h=>k t _ _ h) h2 h
@[elab_as_elim] theorem onIf_e (h:M6 s f=true) (k:∀t a b p,f t a b=true->P (.If t a b p)):P s:=(dT (c:=s.ctorIdx=12) h).elim fun h2 h=>JR (motive_2:=fun s=>∀h2,JR (motive_2:=fun Z0=>Bool) s h2 (fun t a b Z0=>f t a b)=true->P s) s h2 (fun Z0 Z0 Z0 Z0 Z0 h=>k _ _ _ _ h) h2 h
@[elab_as_elim] theorem onWhl_e (h:BW s f=true) (k:∀t a p,f t a=true->P (.While t a [] p)):P s:=(dT (c:=s.ctorIdx=11) h).elim fun h2 h=>Iy (motive_2:=fun s=>∀h2,Iy (motive_2:=fun Z0=>Bool) s h2 (fun t a b Z0=>b.isEmpty&&f t a)=true->P s) s h2 (fun Z0 Z0 Z0 Z0 Z0 h=>isE_e (bL h) (k _ _ _ (bR h))) h2 h
@[elab_as_elim] theorem onFor_e (h:qN s f=true) (k:∀t i a p,f t i a=true->P (.For t i a [] p)):P s:=(dT (c:=s.ctorIdx=9) h).elim fun h2 h=>Jq (motive_2:=fun s=>∀h2,Jq (motive_2:=fun Z0=>Bool) s h2 (fun t i a b Z0=>b.isEmpty&&f t i a)=true->P s) s h2 (fun Z0 Z0 Z0 Z0 Z0 Z0 h=>isE_e (bL h) (k _ _ _ _ (bR h))) h2 h
@[elab_as_elim] theorem onTry_e (h:x9 s f=true) (k:∀a l p,f a l=true->P (.Try a l [] [] p)):P s:=(dT (c:=s.ctorIdx=17) h).elim fun h2 h=>Jr (motive_2:=fun s=>∀h2,Jr (motive_2:=fun Z0=>Bool) s h2 (fun a h b c Z0=>b.isEmpty&&c.isEmpty&&f a h)=true->P s) s h2 (fun Z0 Z0 Z0 Z0 Z0 Z0 h=>isE_e (bL (bL h)) (isE_e (bR (bL h)) (k _ _ _ (bR h)))) h2 h
end
def Sq (e:Expr):Bool:=(oY e fun vs=>!(vs.all (constantsAlone 8))||vs.all (foldedForSure 8))||(vy e (fun Z0 Z0 Z0 Z0=>true)||i7 e fun Z0=>true)
theorem bO (h:(a||b)=true):a=true\/b=true:=by cases a<;>first|exact .inl rfl|exact .inr h
def RK (r:Ef->CE->Expr->Bool) (rs:List CS->List Ek->Bool) (sc:Ef) (c:CS) (s:Ek):Bool:=match c with
 |.ret o=>xd s fun o'=>lC (r sc) o o'
 |.xpr e=>yq s fun e'=>r sc e e'&&jf e'
 |.asg x e=>mv s fun t e'=>i7 t fun id=>dC (nm x) id&&(dN sc id .local||dN sc id .cell)&&r sc e e'
 |.asgT xs e=>mv s fun t e'=>oY t fun ts=>gE xs&&bA (xf nm sc) xs ts&&r sc e e'&&Sq e'
 |.asgA o x e=>mv s fun t e'=>rP t fun v a Z0=>r sc o v&&gA v&&dC (nm x) a&&r sc e e'
 |.asgS _ o i e=>mv s fun t e'=>ry t fun v j=>r sc o v&&r sc i j&&r sc e e'&&yj j
 |.asgL o a b e=>mv s fun t e'=>ry t fun v j=>zy j fun a' b' c'=>r sc o v&&jS a' (r sc a)&&jS b' (r sc b)&&c'.isNone&&r sc e e'
 |.ite _ t a b=>M6 s fun t' a' b'=>r sc t t'&&rs a a'&&rs b b'
 |.whl _ t b=>BW s fun t' b'=>r sc t t'&&rs b b'
 |.for tg tp it b=>qN s fun tgE iD b'=>iR nm sc tg tp tgE&&r sc it iD&&rs b b'&&fW iD
 |.forz tg i j b=>qN s fun tgE iD b'=>iX iD fun id es=>N5 es fun i' j'=>iR nm sc tg true tgE&&Dy tg.length 2&&dC [122,105,112] id&&dN sc id .globalImplicit&&r sc i i'&&r sc j j'&&rs b b'
 |.fore tg i b=>qN s fun tgE iD b'=>iX iD fun id es=>sP es fun i'=>iR nm sc tg true tgE&&Dy tg.length 2&&dC [101,110,117,109,101,114,97,116,101] id&&dN sc id .globalImplicit&&r sc i i'&&rs b b'
 |.tri b=>x9 s fun b' h=>!h.isEmpty&&rs b b'
 |.bad=>true
def iF (k:Nat):Ef->CS->Ek->Bool:=Jb (motive:=fun Z0=>Ef->CS->Ek->Bool) (fun Z0 Z0 Z0=>false) (fun k r sc=>RK nm (aN nm gk k) (bA (r sc)) sc) k
def eD (k:Nat) (sc:Ef):List CS->List Ek->Bool:=bA (iF nm gk k sc)
end
def b0:List CS:=[.ite false (.cmp false (.cmp false (.loc 0) [(.lt,.cst (.int 0))]) [(.ne,.cmp false (.loc 1) [(.lt,.cst (.int 0))])]) [.ret (some (.neg (.bin true .fdiv (.calB true .abs [.loc 0]) (.calB true .abs [.loc 1]))))] [],.ret (some (.bin true .fdiv (.calB true .abs [.loc 0]) (.calB true .abs [.loc 1])))]
def b1:List CS:=[.ite false (.cmp false (.loc 2) [(.lt,.cst (.int 0))]) [.ret (some (.tup [.bin true .mul (.loc 3) (.bin true .pow (.cst (.int 10)) (.neg (.loc 2))),.cst (.int 0)]))] [],.whl false (.bop false true [.cmp false (.loc 2) [(.gt,.cst (.int 0))],.cmp false (.bin true .mod (.loc 3) (.cst (.int 10))) [(.eq,.cst (.int 0))]]) [.asg 3 (.bin true .fdiv (.loc 3) (.cst (.int 10))),.asg 2 (.bin true .sub (.loc 2) (.cst (.int 1)))],.ret (some (.tup [.loc 3,.loc 2]))]
def b2:List CS:=[.ite false (.cmp false (.loc 2) [(.ge,.sub true (.loc 4) (.cst (.int 1)))]) [.ret (some (.bin true .mul (.sub true (.loc 4) (.cst (.int 0))) (.bin true .pow (.cst (.int 10)) (.bin true .sub (.loc 2) (.sub true (.loc 4) (.cst (.int 1)))))))] [],.asg 5 (.bin true .pow (.cst (.int 10)) (.bin true .sub (.sub true (.loc 4) (.cst (.int 1))) (.loc 2))),.ite false (.nt (.loc 6)) [.ret (some (.calF 0 [.sub true (.loc 4) (.cst (.int 0)),.loc 5]))] [],.asg 7 (.bin true .fdiv (.bin true .add (.bin true .mul (.cst (.int 2)) (.calB true .abs [.sub true (.loc 4) (.cst (.int 0))])) (.loc 5)) (.bin true .mul (.cst (.int 2)) (.loc 5))),.ret (some (.ife false (.cmp false (.sub true (.loc 4) (.cst (.int 0))) [(.lt,.cst (.int 0))]) (.neg (.loc 7)) (.loc 7)))]
def b3:List CS:=[.asgA (.loc 8) 9 (.loc 9),.asgA (.loc 8) 10 (.loc 10),.asgA (.loc 8) 11 (.loc 11),.asgA (.loc 8) 12 (.loc 12),.asgA (.loc 8) 2 (.loc 2),.asgA (.loc 8) 13 (.loc 13),.asgA (.loc 8) 5 (.loc 5)]
def b4:List CS:=[.asgA (.loc 8) 14 (.loc 14),.asgA (.loc 8) 15 (.loc 15),.asgA (.loc 8) 16 (.loc 16)]
def b5:List CS:=[.ret (some .bad)]
def b6:List CS:=[.ite false (.cmp false (.slc false (.loc 9) (some (.loc 16)) (some (.bin false .add (.loc 16) (.cst (.int 2)))) none) [(.isin,.tup [.cst (.str [67,82]),.cst (.str [68,66])])]) [.ret (some (.slc false (.loc 9) (some (.loc 16)) (some (.bin false .add (.loc 16) (.cst (.int 2)))) none))] [],.ite false (.cmp false (.sub false (.loc 9) (.loc 16)) [(.notin,.glb 17)]) [.bad] [],.ret (some (.sub false (.loc 9) (.loc 16)))]
def b7:List CS:=[.ite false (.cmp false (.slc false (.loc 9) (some (.loc 16)) (some (.bin false .add (.loc 16) (.cst (.int 1)))) none) [(.ne,.cst (.str [40]))]) [.ret (some (.tup [.cst (.int 1),.loc 16]))] [],.asg 18 (.mtB false .find (.loc 9) [.cst (.str [41]),.loc 16]),.asg 19 (.slc false (.loc 9) (some (.bin false .add (.loc 16) (.cst (.int 1)))) (some (.calB false .max [.loc 18,.loc 16])) none),.ite false (.bop false false [.nt (.cmp false (.cst (.int 1)) [(.le,.calB false .len [.loc 19]),(.le,.cst (.int 4))]),.cmp false (.comp false (.loc 14) [14] false (.loc 19) (some (.cmp false (.loc 14) [(.notin,.glb 20)]))) [(.ne,.lst [])],.cmp false (.calB false .int [.loc 19]) [(.eq,.cst (.int 0))]]) [.bad] [],.ret (some (.tup [.calB false .int [.loc 19],.bin false .add (.loc 18) (.cst (.int 1))]))]
def b8:List CS:=[.asgT [21,16] (.tup [.lst [],.cst (.int 0)]),.whl false (.cmp false (.loc 16) [(.lt,.calB false .len [.loc 9])]) [.asg 14 (.calF 6 [.loc 9,.loc 16]),.asgT [15,18] (.calF 7 [.loc 9,.bin false .add (.loc 16) (.calB false .len [.loc 14])]),.ite false (.bop false true [.cmp false (.loc 18) [(.gt,.bin false .add (.loc 16) (.calB false .len [.loc 14]))],.cmp false (.loc 14) [(.isin,.mtB false .split (.glb 22) [.cst (.str [32])])]]) [.bad] [],.xpr (.mtB false .append (.loc 21) [.calC 1 [.loc 14,.loc 15,.loc 16]]),.asg 16 (.loc 18)],.ret (some (.loc 21))]
def b9:List CS:=[.asg 21 (.lst []),.for [23] false (.loc 24) [.ite false (.bop false true [.cmp false (.loc 21) [(.ne,.lst [])],.cmp false (.sub false (.sub false (.loc 21) (.neg (.cst (.int 1)))) (.cst (.int 0))) [(.eq,.att (.loc 23) 14)]]) [.asgS false (.loc 21) (.neg (.cst (.int 1))) (.tup [.att (.loc 23) 14,.bin false .add (.sub false (.sub false (.loc 21) (.neg (.cst (.int 1)))) (.cst (.int 1))) (.att (.loc 23) 15)])] [.xpr (.mtB false .append (.loc 21) [.tup [.att (.loc 23) 14,.att (.loc 23) 15]])]],.ret (some (.loc 21))]
def Us:List CS:=[.ret (some (.calB false .sum [.comp false (.bin false .mul (.loc 15) (.calB false .len [.loc 14])) [14,15] true (.loc 10) (some (.cmp false (.loc 14) [(.notin,.mtB false .split (.glb 25) [.cst (.str [32])])]))]))]
def Un:List CS:=[.asgA (.loc 8) 26 (.cst (.int 0)),.asgA (.loc 8) 27 (.cst (.bool false)),.asgA (.loc 8) 28 (.cst (.str [])),.asgA (.loc 8) 29 (.cst (.int 0)),.asgA (.loc 8) 30 (.cst (.int 0)),.asgA (.loc 8) 31 (.cst (.int 0)),.asgA (.loc 8) 32 (.cst (.str [])),.asgA (.loc 8) 33 (.cst (.int 0)),.asgA (.loc 8) 34 (.cst (.int 0)),.asgA (.loc 8) 35 (.cst (.int 0)),.asgA (.loc 8) 36 (.cst (.bool false)),.asgA (.loc 8) 14 (.cst (.str [])),.asgA (.loc 8) 37 (.cst (.str [])),.asgA (.loc 8) 38 (.cst (.str [])),.asgA (.loc 8) 39 (.cst (.bool false)),.asgA (.loc 8) 40 (.cst (.bool false))]
def TY:List CS:=[.ret (some (.bin false .add (.bin false .add (.att (.loc 8) 31) (.att (.loc 8) 33)) (.att (.loc 8) 34)))]
def VI:List CS:=[.ite false (.cmp false (.att (.loc 8) 28) [(.ne,.cst (.str []))]) [.asgA (.loc 8) 35 (.bin false .add (.att (.loc 8) 35) (.loc 15)),.asgA (.loc 8) 36 (.bop false false [.att (.loc 8) 36,.loc 41])] []]
def VV:List CS:=[.ite false (.bop false false [.cmp false (.att (.loc 8) 30) [(.gt,.cst (.int 0))],.att (.loc 8) 36]) [.bad] [],.asgA (.loc 8) 31 (.bin false .add (.att (.loc 8) 31) (.att (.loc 23) 15)),.xpr (.mth (.loc 8) 42 [.att (.loc 23) 15,.cst (.bool false)])]
def Vh:List CS:=[.ite false (.bop false false [.cmp false (.att (.loc 8) 30) [(.gt,.cst (.int 0))],.cmp false (.att (.loc 8) 31) [(.gt,.cst (.int 0))],.cmp false (.att (.loc 8) 34) [(.gt,.cst (.int 0))],.cmp false (.att (.loc 8) 32) [(.notin,.tup [.cst (.str []),.att (.loc 23) 14])]]) [.bad] [],.asgA (.loc 8) 32 (.att (.loc 23) 14),.asgA (.loc 8) 33 (.bin false .add (.att (.loc 8) 33) (.att (.loc 23) 15)),.xpr (.mth (.loc 8) 42 [.att (.loc 23) 15,.cst (.bool true)])]
def UU:List CS:=[.ite false (.bop false false [.cmp false (.att (.loc 8) 28) [(.ne,.cst (.str []))],.cmp false (.att (.loc 8) 29) [(.gt,.cst (.int 0))],.bop false true [.cmp false (.att (.loc 23) 14) [(.eq,.cst (.str [46]))],.cmp false (.att (.loc 8) 30) [(.gt,.cst (.int 0))]]]) [.bad] [],.asgA (.loc 8) 28 (.att (.loc 23) 14)]
def VC:List CS:=[.ite false (.cmp false (.mth (.loc 8) 12 []) [(.gt,.cst (.int 0))]) [.ite false (.bop false false [.cmp false (.att (.loc 8) 28) [(.ne,.cst (.str []))],.cmp false (.att (.loc 8) 29) [(.gt,.cst (.int 0))]]) [.bad] [],.asgA (.loc 8) 30 (.bin false .add (.att (.loc 8) 30) (.att (.loc 23) 15)),.ret none] [],.ite false (.bop false false [.cmp false (.att (.loc 8) 28) [(.eq,.cst (.str [46]))],.att (.loc 8) 40]) [.bad] [],.asgA (.loc 8) 29 (.bin false .add (.att (.loc 8) 29) (.att (.loc 23) 15))]
def VW:List CS:=[.ite false (.cmp false (.att (.loc 8) 30) [(.gt,.cst (.int 0))]) [.bad] [],.asgA (.loc 8) 40 (.cst (.bool true))]
def Uh:List CS:=[.asgA (.loc 8) 34 (.bin false .add (.att (.loc 8) 34) (.loc 15)),.xpr (.mth (.loc 8) 42 [.loc 15,.cst (.bool true)])]
def Vf:List CS:=[.ret (some (.bop false true [.cmp false (.att (.loc 8) 31) [(.eq,.cst (.int 0))],.cmp false (.att (.loc 8) 33) [(.eq,.cst (.int 0))],.cmp false (.att (.loc 8) 29) [(.eq,.cst (.int 0))],.cmp false (.att (.loc 8) 30) [(.eq,.cst (.int 0))]]))]
def UT:List CS:=[.ite false (.cmp false (.att (.loc 8) 26) [(.eq,.cst (.int 0))]) [.asgA (.loc 8) 14 (.att (.loc 23) 14),.xpr (.mth (.loc 8) 43 [.loc 23,.bin false .sub (.att (.loc 23) 15) (.cst (.int 1))])] [.ite false (.bop false true [.cmp false (.att (.loc 8) 14) [(.eq,.att (.loc 23) 14)],.cmp false (.att (.loc 8) 37) [(.eq,.cst (.str []))],.mth (.loc 8) 44 []]) [.xpr (.mth (.loc 8) 43 [.loc 23,.att (.loc 23) 15])] [.xpr (.mth (.loc 8) 45 [.loc 23])]]]
def Um:List CS:=[.ite false (.cmp false (.att (.loc 8) 37) [(.eq,.cst (.str []))]) [.ite false (.bop false false [.cmp false (.att (.loc 8) 26) [(.gt,.cst (.int 1))],.bop false true [.cmp false (.att (.loc 8) 26) [(.eq,.cst (.int 1))],.bop false false [.cmp false (.att (.loc 8) 14) [(.eq,.cst (.str []))],.cmp false (.att (.loc 8) 34) [(.gt,.cst (.int 0))]]]]) [.bad] [],.asgA (.loc 8) 37 (.att (.loc 23) 14),.xpr (.mth (.loc 8) 43 [.loc 23,.bin false .sub (.att (.loc 23) 15) (.cst (.int 1))])] [.ite false (.mth (.loc 8) 44 []) [.xpr (.mth (.loc 8) 43 [.loc 23,.att (.loc 23) 15])] [.bad]]]
def Ur:List CS:=[.ite false (.bop false false [.cmp false (.mth (.loc 8) 12 []) [(.eq,.cst (.int 0))],.cmp false (.att (.loc 8) 14) [(.ne,.cst (.str []))],.cmp false (.att (.loc 23) 15) [(.gt,.cst (.int 1))]]) [.bad] [],.asgA (.loc 8) 14 (.att (.loc 23) 14),.asgA (.loc 8) 39 (.cst (.bool true))]
def Up:List CS:=[.asg 14 (.att (.loc 23) 14),.ite false (.bop false false [.att (.loc 8) 39,.bop false true [.att (.loc 8) 27,.cmp false (.loc 14) [(.notin,.tup [.cst (.str [57]),.cst (.str [80]),.cst (.str [86])])]],.bop false true [.cmp false (.loc 14) [(.eq,.cst (.str [83]))],.cmp false (.att (.loc 8) 26) [(.gt,.cst (.int 0))]]]) [.bad] [],.ite false (.cmp false (.loc 14) [(.eq,.cst (.str [83]))]) [.asgA (.loc 8) 27 (.cst (.bool true))] [.ite false (.cmp false (.loc 14) [(.eq,.cst (.str [57]))]) [.xpr (.mth (.loc 8) 46 [.loc 23])] [.ite false (.cmp false (.loc 14) [(.isin,.tup [.cst (.str [90]),.cst (.str [42])])]) [.xpr (.mth (.loc 8) 47 [.loc 23])] [.ite false (.cmp false (.loc 14) [(.isin,.tup [.cst (.str [86]),.cst (.str [46])])]) [.xpr (.mth (.loc 8) 48 [.loc 23])] [.ite false (.cmp false (.loc 14) [(.eq,.cst (.str [80]))]) [.xpr (.mth (.loc 8) 49 [.loc 23])] [.ite false (.cmp false (.loc 14) [(.isin,.tup [.cst (.str [43]),.cst (.str [45])])]) [.xpr (.mth (.loc 8) 50 [.loc 23])] [.ite false (.cmp false (.loc 14) [(.eq,.cst (.str [36]))]) [.xpr (.mth (.loc 8) 51 [.loc 23])] [.ite false (.cmp false (.loc 14) [(.isin,.tup [.cst (.str [67,82]),.cst (.str [68,66])])]) [.xpr (.mth (.loc 8) 45 [.loc 23])] [.xpr (.mth (.loc 8) 52 [.loc 23])]]]]]]]],.asgA (.loc 8) 26 (.bin false .add (.att (.loc 8) 26) (.cst (.int 1))),.asgA (.loc 8) 38 (.loc 14)]
def U3:List CS:=[.ite false (.bop false false [.cmp false (.mth (.loc 8) 12 []) [(.eq,.cst (.int 0))],.cmp false (.att (.loc 8) 38) [(.isin,.tup [.cst (.str [44]),.cst (.str [46])])]]) [.ret (some (.cst (.bool false)))] [],.ret (some (.cmp false (.bin false .add (.bin false .add (.mth (.loc 8) 12 []) (.att (.loc 8) 29)) (.att (.loc 8) 30)) [(.le,.glb 53)]))]
def Vb:List CS:=[.ite false (.cmp false (.att (.loc 8) 29) [(.gt,.cst (.int 0))]) [.ret (some (.bin false .add (.att (.loc 8) 29) (.mth (.loc 8) 12 [])))] [],.ret (some (.bin false .sub (.att (.loc 8) 35) (.att (.loc 8) 30)))]
def U9:List CS:=[.asgT [54,10] (.tup [.calC 2 [],.calF 9 [.loc 24]]),.for [23] false (.loc 24) [.xpr (.mth (.loc 54) 55 [.loc 23])],.ite false (.bop false false [.nt (.mth (.loc 54) 56 []),.cmp false (.calF 10 [.loc 10]) [(.gt,.glb 57)]]) [.bad] [],.asg 58 (.cmp false (.comp false (.loc 14) [14,15] true (.loc 10) (some (.cmp false (.loc 14) [(.notin,.mtB false .split (.glb 59) [.cst (.str [32])])]))) [(.eq,.lst [])]),.asg 11 (.ife false (.loc 58) (.cst (.str [110,117,109,101,114,105,99])) (.cst (.str [101,100,105,116,101,100]))),.asg 13 (.bop false false [.att (.loc 54) 27,.cmp false (.att (.loc 54) 14) [(.ne,.cst (.str []))]]),.ret (some (.calC 0 [.loc 9,.loc 10,.loc 11,.mth (.loc 54) 12 [],.mth (.loc 54) 2 [],.loc 13,.calF 10 [.loc 10]]))]
def Vg:List CS:=[.asg 24 (.comp false (.loc 14) [14,15] true (.loc 10) none),.ite false (.bop false false [.cmp false (.cst (.str [66])) [(.isin,.loc 24)],.cmp false (.cst (.str [48])) [(.isin,.loc 24)],.cmp false (.cst (.str [47])) [(.isin,.loc 24)]]) [.ret (some (.cst (.str [97,108,110,117,109,45,101,100,105,116,101,100])))] [],.ret (some (.ife false (.cmp false (.loc 24) [(.eq,.lst [.cst (.str [65])])]) (.cst (.str [97,108,112,104,97,98,101,116,105,99])) (.cst (.str [97,108,112,104,97,110,117,109,101,114,105,99]))))]
def UI:List CS:=[.for [23] false (.loc 24) [.ite false (.cmp false (.att (.loc 23) 14) [(.notin,.mtB false .split (.glb 60) [.cst (.str [32])])]) [.bad] []],.asg 10 (.calF 9 [.loc 24]),.ite false (.cmp false (.calF 10 [.loc 10]) [(.gt,.glb 57)]) [.bad] [],.ret (some (.calC 0 [.loc 9,.loc 10,.calF 28 [.loc 10],.cst (.int 0),.cst (.int 0),.cst (.bool false),.calF 10 [.loc 10]]))]
def VT:List CS:=[.ite false (.cmp false (.calB false .len [.loc 9]) [(.gt,.glb 61)]) [.bad] [],.asg 62 (.mtB false .join (.cst (.str [])) [.comp false (.ife false (.cmp false (.cst (.str [97])) [(.le,.loc 14),(.le,.cst (.str [122]))]) (.calB false .chr [.bin false .sub (.calB false .ord [.loc 14]) (.cst (.int 32))]) (.loc 14)) [14] false (.loc 9) none]),.asg 24 (.calF 8 [.loc 62]),.ite false (.cmp false (.comp false (.loc 23) [23] false (.loc 24) (some (.cmp false (.att (.loc 23) 14) [(.isin,.tup [.cst (.str [65]),.cst (.str [88])])]))) [(.ne,.lst [])]) [.ret (some (.calF 29 [.loc 62,.loc 24]))] [],.ret (some (.calF 27 [.loc 62,.loc 24]))]
def UX:List CS:=[.asg 21 (.lst []),.for [14,15] true (.att (.loc 63) 10) [.xpr (.mtB false .extend (.loc 21) [.bin false .mul (.lst [.loc 14]) (.loc 15)])],.ret (some (.loc 21))]
def UM:List CS:=[.for [14] false (.glb 64) [.ite false (.cmp false (.mtB false .count (.loc 24) [.loc 14]) [(.gt,.cst (.int 1))]) [.ret (some (.loc 14))] []],.ret (some (.cst (.str [])))]
def Vc:List CS:=[.asg 58 (.dct [([57],.cst (.str [102,105,103,117,114,101])),([90],.cst (.str [122,101,114,111])),([42],.cst (.str [115,116,97,114])),([46],.cst (.str [112,111,105,110,116])),([86],.cst (.str [109,97,114,107])),([80],.cst (.str [110,111,110,101]))]),.for [14] false (.glb 65) [.asgS false (.loc 58) (.loc 14) (.cst (.str [105,110,115,101,114,116]))],.asgT [66,21] (.tup [.calF 32 [.loc 24],.lst []]),.for [14] false (.loc 24) [.ite false (.cmp false (.loc 14) [(.eq,.loc 66)]) [.xpr (.mtB false .append (.loc 21) [.ife false (.cmp false (.cst (.str [108,101,97,100])) [(.isin,.loc 21)]) (.cst (.str [102,108,111,97,116])) (.cst (.str [108,101,97,100]))])] [.xpr (.mtB false .append (.loc 21) [.mtB false .get (.loc 58) [.loc 14,.cst (.str [102,105,120,101,100])]])]],.ret (some (.loc 21))]
def Vz:List CS:=[.ret (some (.cmp false (.loc 67) [(.isin,.tup [.cst (.str [122,101,114,111]),.cst (.str [115,116,97,114]),.cst (.str [102,108,111,97,116])])]))]
def UE:List CS:=[.asg 3 (.bin true .mod (.calB true .abs [.calF 2 [.loc 68,.att (.loc 63) 2,.cst (.bool false)]]) (.bin true .pow (.cst (.int 10)) (.att (.loc 63) 12))),.asg 9 (.ife true (.cmp true (.loc 3) [(.gt,.cst (.int 0))]) (.calB true .str [.loc 3]) (.cst (.str []))),.ret (some (.tup [.bin true .add (.bin true .mul (.cst (.str [48])) (.bin true .sub (.att (.loc 63) 12) (.calB true .len [.loc 9]))) (.loc 9),.bop true true [.cmp false (.sub true (.loc 68) (.cst (.int 0))) [(.lt,.cst (.int 0))],.cmp true (.loc 3) [(.gt,.cst (.int 0))]]]))]
def UL:List CS:=[.ite false (.cmp false (.loc 14) [(.eq,.cst (.str [43]))]) [.ret (some (.ife false (.loc 69) (.cst (.str [45])) (.cst (.str [43]))))] [],.ite false (.cmp false (.loc 14) [(.eq,.cst (.str [45]))]) [.ret (some (.ife false (.loc 69) (.cst (.str [45])) (.glb 70)))] [],.ite false (.cmp false (.loc 14) [(.isin,.tup [.cst (.str [67,82]),.cst (.str [68,66])])]) [.ret (some (.ife false (.loc 69) (.loc 14) (.bin false .mul (.glb 70) (.cst (.int 2)))))] [],.ret (some (.loc 14))]
def UP:List CS:=[.ret (some (.ife false (.cmp false (.loc 14) [(.eq,.cst (.str [66]))]) (.glb 70) (.loc 14)))]
def UA:List CS:=[.asgA (.loc 8) 19 (.loc 19),.asgA (.loc 8) 69 (.loc 69),.asgA (.loc 8) 71 (.loc 71),.asgA (.loc 8) 72 (.cst (.int 0)),.asgA (.loc 8) 21 (.lst []),.asgA (.loc 8) 73 (.cst (.bool false)),.asgA (.loc 8) 74 (.cst (.bool false)),.asgA (.loc 8) 75 (.neg (.cst (.int 1)))]
def US:List CS:=[.asgA (.loc 8) 75 (.calB true .len [.att (.loc 8) 21]),.xpr (.mtB true .append (.att (.loc 8) 21) [.att (.loc 8) 71])]
def Vu:List CS:=[.asg 76 (.sub true (.att (.loc 8) 19) (.att (.loc 8) 72)),.asgA (.loc 8) 72 (.bin true .add (.att (.loc 8) 72) (.cst (.int 1))),.asgA (.loc 8) 74 (.bop true false [.att (.loc 8) 74,.calF 34 [.loc 67]]),.asgA (.loc 8) 73 (.bop true false [.att (.loc 8) 73,.cmp false (.loc 67) [(.eq,.cst (.str [102,105,103,117,114,101]))],.cmp false (.loc 76) [(.ne,.cst (.str [48]))]]),.ite true (.att (.loc 8) 73) [.xpr (.mtB true .append (.att (.loc 8) 21) [.loc 76])] [.xpr (.mth (.loc 8) 77 [])]]
def VD:List CS:=[.ite false (.bop false false [.cmp false (.loc 67) [(.eq,.cst (.str [102,105,103,117,114,101]))],.calF 34 [.loc 67]]) [.xpr (.mth (.loc 8) 76 [.loc 67])] [.ite false (.cmp false (.loc 67) [(.eq,.cst (.str [108,101,97,100]))]) [.asgA (.loc 8) 74 (.cst (.bool true)),.xpr (.mth (.loc 8) 77 [])] [.ite true (.bop true true [.cmp true (.loc 67) [(.eq,.cst (.str [105,110,115,101,114,116]))],.att (.loc 8) 74,.nt (.att (.loc 8) 73)]) [.xpr (.mth (.loc 8) 77 [])] [.ite false (.cmp false (.loc 67) [(.eq,.cst (.str [105,110,115,101,114,116]))]) [.xpr (.mtB true .append (.att (.loc 8) 21) [.calF 37 [.loc 14]])] [.ite false (.cmp false (.loc 67) [(.eq,.cst (.str [102,105,120,101,100]))]) [.xpr (.mtB true .append (.att (.loc 8) 21) [.calF 36 [.loc 14,.att (.loc 8) 69]])] [.ite false (.cmp false (.loc 67) [(.ne,.cst (.str [110,111,110,101]))]) [.asgA (.loc 8) 73 (.cst (.bool true)),.xpr (.mtB true .append (.att (.loc 8) 21) [.ife false (.cmp false (.loc 67) [(.eq,.cst (.str [112,111,105,110,116]))]) (.loc 14) (.cst (.str []))])] []]]]]]]
def VB:List CS:=[.asg 24 (.calF 31 [.loc 63]),.asg 78 (.calF 33 [.loc 24]),.asgT [19,69] (.calF 35 [.loc 63,.loc 68]),.ite true (.cmp true (.loc 19) [(.eq,.bin true .mul (.cst (.str [48])) (.calB true .len [.loc 19]))]) [.ite false (.loc 79) [.ret (some (.bin true .mul (.glb 70) (.att (.loc 63) 5)))] [],.ite false (.cmp false (.cst (.str [102,105,103,117,114,101])) [(.notin,.loc 78)]) [.ret (some .bad)] []] [],.asg 80 (.calC 3 [.loc 19,.loc 69,.ife false (.cmp false (.cst (.str [115,116,97,114])) [(.isin,.loc 78)]) (.cst (.str [42])) (.glb 70)]),.forz [67,14] (.loc 78) (.loc 24) [.xpr (.mth (.loc 80) 81 [.loc 67,.loc 14])],.ite false (.cmp false (.cst (.str [108,101,97,100])) [(.isin,.loc 78)]) [.asgS true (.att (.loc 80) 21) (.att (.loc 80) 75) (.calF 36 [.sub true (.loc 24) (.mtB true .index (.loc 78) [.cst (.str [108,101,97,100])]),.loc 69])] [],.ret (some (.mtB true .join (.cst (.str [])) [.att (.loc 80) 21]))]
def Uj:List CS:=[.ret (some (.calB true .bytes [.comp false (.calB true .ord [.loc 14]) [14] false (.calF 42 [.loc 63,.loc 68,.loc 79]) none]))]
def UO:List CS:=[.ret (some (.calB false .len [.comp false (.loc 14) [14] false (.loc 24) (some (.cmp false (.loc 14) [(.isin,.tup [.cst (.str [88]),.cst (.str [65]),.cst (.str [57])])]))]))]
def Ut:List CS:=[.asg 24 (.calF 31 [.loc 63]),.asg 82 (.calF 44 [.loc 24]),.asg 83 (.bin true .add (.calB true .bytes [.slc true (.loc 84) none (some (.loc 82)) none]) (.bin true .mul (.cst (.bytes [32])) (.bin true .sub (.loc 82) (.calB true .len [.slc true (.loc 84) none (some (.loc 82)) none])))),.asgT [21,16] (.tup [.calB true .bytearray [],.cst (.int 0)]),.for [14] false (.loc 24) [.ite false (.cmp false (.loc 14) [(.isin,.glb 65)]) [.xpr (.mtB true .append (.loc 21) [.calB true .ord [.calF 37 [.loc 14]]])] [.xpr (.mtB true .append (.loc 21) [.sub true (.loc 83) (.loc 16)]),.asg 16 (.bin true .add (.loc 16) (.cst (.int 1)))]],.ret (some (.calB true .bytes [.loc 21]))]
def Vl:List CS:=[.asgA (.loc 8) 11 (.loc 11),.asgA (.loc 8) 5 (.loc 5),.asgA (.loc 8) 63 (.loc 63),.asgA (.loc 8) 85 (.loc 85),.asgA (.loc 8) 14 (.loc 14),.asgA (.loc 8) 86 (.loc 86),.asgA (.loc 8) 87 (.loc 87),.asgA (.loc 8) 79 (.loc 79),.asgA (.loc 8) 12 (.cst (.int 0)),.asgA (.loc 8) 2 (.cst (.int 0)),.asgA (.loc 8) 13 (.cst (.bool false)),.ite false (.bop false true [.cmp false (.loc 63) [(.isnot,.cst .none)],.cmp false (.loc 11) [(.isin,.tup [.cst (.str [110,117,109,101,114,105,99]),.cst (.str [101,100,105,116,101,100])])]]) [.asgA (.loc 8) 12 (.att (.loc 63) 12),.asgA (.loc 8) 2 (.att (.loc 63) 2),.asgA (.loc 8) 13 (.att (.loc 63) 13)] []]
def T1:List CS:=[.ret (some (.bin false .pow (.cst (.int 10)) (.att (.loc 88) 12)))]
def Vj:List CS:=[.ite false (.nt (.cmp false (.cst (.int 1)) [(.le,.loc 12),(.le,.glb 89)])) [.bad] [],.ite false (.cmp false (.loc 12) [(.le,.cst (.int 4))]) [.ret (some (.cst (.int 2)))] [],.ret (some (.ife false (.cmp false (.loc 12) [(.le,.cst (.int 9))]) (.cst (.int 4)) (.cst (.int 8))))]
def Vk:List CS:=[.ite false (.nt (.cmp false (.cst (.int 1)) [(.le,.loc 12),(.le,.glb 89)])) [.bad] [],.ret (some (.bin false .add (.bin false .fdiv (.loc 12) (.cst (.int 2))) (.cst (.int 1))))]
def UW:List CS:=[.ite false (.cmp false (.loc 85) [(.eq,.cst (.str [112,97,99,107,101,100]))]) [.ret (some (.calF 49 [.att (.loc 63) 12]))] [],.ite false (.cmp false (.loc 85) [(.eq,.cst (.str [98,105,110,97,114,121]))]) [.ret (some (.calF 48 [.att (.loc 63) 12]))] [],.ret (some (.bin false .add (.att (.loc 63) 5) (.ife false (.loc 86) (.cst (.int 1)) (.cst (.int 0)))))]
def VE:List CS:=[.ite false (.cmp false (.loc 85) [(.notin,.mtB false .split (.glb 90) [.cst (.str [32])])]) [.bad] [],.ite false (.cmp false (.loc 85) [(.eq,.cst (.str [105,110,100,101,120]))]) [.bad] [],.ite false (.bop false true [.cmp false (.loc 85) [(.ne,.cst (.str [100,105,115,112,108,97,121]))],.cmp false (.att (.loc 63) 11) [(.ne,.cst (.str [110,117,109,101,114,105,99]))]]) [.bad] []]
def VL:List CS:=[.ite false (.bop false true [.cmp false (.loc 14) [(.ne,.cst (.str [108,101,97,100,105,110,103]))],.cmp false (.loc 14) [(.ne,.cst (.str [116,114,97,105,108,105,110,103]))]]) [.bad] [],.ite false (.bop false true [.cmp false (.loc 14) [(.eq,.cst (.str [116,114,97,105,108,105,110,103]))],.nt (.loc 86)]) [.ret none] [],.ite false (.bop false false [.cmp false (.att (.loc 63) 11) [(.ne,.cst (.str [110,117,109,101,114,105,99]))],.nt (.att (.loc 63) 13),.cmp false (.loc 85) [(.ne,.cst (.str [100,105,115,112,108,97,121]))]]) [.bad] []]
def Ub:List CS:=[.ite false (.bop false true [.loc 87,.cmp false (.att (.loc 63) 11) [(.notin,.tup [.cst (.str [97,108,112,104,97,98,101,116,105,99]),.cst (.str [97,108,112,104,97,110,117,109,101,114,105,99])])]]) [.bad] [],.ite false (.bop false true [.loc 79,.cmp false (.att (.loc 63) 11) [(.ne,.cst (.str [101,100,105,116,101,100]))]]) [.bad] [],.ite false (.bop false true [.loc 79,.cmp false (.comp false (.loc 14) [14,15] true (.att (.loc 63) 10) (some (.cmp false (.loc 14) [(.eq,.cst (.str [42]))]))) [(.ne,.lst [])]]) [.bad] []]
def U7:List CS:=[.xpr (.calF 51 [.loc 63,.loc 85]),.xpr (.calF 52 [.loc 63,.loc 85,.loc 14,.loc 86]),.xpr (.calF 53 [.loc 63,.loc 87,.loc 79]),.asg 5 (.calF 50 [.loc 63,.loc 85,.loc 86]),.ret (some (.calC 4 [.att (.loc 63) 11,.loc 5,.loc 63,.loc 85,.loc 14,.loc 86,.loc 87,.loc 79]))]
def U1:List CS:=[.ret (some (.calC 4 [.cst (.str [103,114,111,117,112]),.loc 5]))]
def Uz:List CS:=[.ret (some (.calC 4 [.cst (.str [97,108,112,104,97,110,117,109,101,114,105,99]),.calB true .len [.loc 84]]))]
def U5:List CS:=[.asg 91 (.bin true .mod (.calB true .abs [.loc 3]) (.calF 47 [.loc 88])),.ret (some (.ife true (.bop true true [.cmp true (.loc 3) [(.lt,.cst (.int 0))],.att (.loc 88) 13]) (.bin true .sub (.cst (.int 0)) (.loc 91)) (.loc 91)))]
def VJ:List CS:=[.asgT [21,92] (.tup [.lst [],.loc 68]),.for [93] false (.calB true .range [.loc 15]) [.xpr (.mtB true .append (.loc 21) [.bin true .mod (.loc 92) (.cst (.int 10))]),.asg 92 (.bin true .fdiv (.loc 92) (.cst (.int 10)))],.ret (some (.slc true (.loc 21) none none (some (.neg (.cst (.int 1))))))]
def Uy:List CS:=[.asg 94 (.comp false (.bin true .add (.glb 95) (.loc 76)) [76] false (.calF 58 [.calB true .abs [.loc 3],.att (.loc 88) 12]) none),.ite false (.nt (.att (.loc 88) 13)) [.ret (some (.calB true .bytes [.loc 94]))] [],.ite false (.att (.loc 88) 86) [.asg 14 (.lst [.ife true (.cmp true (.loc 3) [(.lt,.cst (.int 0))]) (.glb 96) (.glb 97)]),.ret (some (.calB true .bytes [.ife false (.cmp false (.att (.loc 88) 14) [(.eq,.cst (.str [108,101,97,100,105,110,103]))]) (.bin true .add (.loc 14) (.loc 94)) (.bin true .add (.loc 94) (.loc 14))]))] [],.asg 81 (.ife false (.cmp false (.att (.loc 88) 14) [(.eq,.cst (.str [108,101,97,100,105,110,103]))]) (.cst (.int 0)) (.bin true .sub (.calB true .len [.loc 94]) (.cst (.int 1)))),.asg 98 (.ife true (.cmp true (.loc 3) [(.lt,.cst (.int 0))]) (.glb 99) (.glb 100)),.asgS true (.loc 94) (.loc 81) (.sub true (.loc 98) (.bin true .sub (.sub true (.loc 94) (.loc 81)) (.glb 95))),.ret (some (.calB true .bytes [.loc 94]))]
def VG:List CS:=[.asg 101 (.glb 102),.ite false (.att (.loc 88) 13) [.asg 101 (.ife true (.cmp true (.loc 3) [(.lt,.cst (.int 0))]) (.glb 103) (.glb 104))] [],.asg 105 (.bin true .add (.calF 58 [.calB true .abs [.loc 3],.bin true .sub (.bin true .mul (.cst (.int 2)) (.att (.loc 88) 5)) (.cst (.int 1))]) (.lst [.loc 101])),.ret (some (.calB true .bytes [.comp false (.bin true .add (.bin true .mul (.cst (.int 16)) (.sub true (.loc 105) (.loc 16))) (.sub true (.loc 105) (.bin true .add (.loc 16) (.cst (.int 1))))) [16] false (.calB true .range [.cst (.int 0),.calB true .len [.loc 105],.cst (.int 2)]) none]))]
def Ud:List CS:=[.asgT [92,21] (.tup [.bin true .mod (.loc 3) (.bin true .pow (.cst (.int 256)) (.att (.loc 88) 5)),.lst []]),.for [93] false (.calB true .range [.att (.loc 88) 5]) [.xpr (.mtB true .append (.loc 21) [.bin true .mod (.loc 92) (.cst (.int 256))]),.asg 92 (.bin true .fdiv (.loc 92) (.cst (.int 256)))],.ret (some (.calB true .bytes [.slc true (.loc 21) none none (some (.neg (.cst (.int 1))))]))]
def VN:List CS:=[.asg 91 (.calF 57 [.loc 88,.loc 3]),.ite false (.cmp false (.att (.loc 88) 85) [(.eq,.cst (.str [100,105,115,112,108,97,121]))]) [.ret (some (.calF 59 [.loc 88,.loc 91]))] [],.ret (some (.ife false (.cmp false (.att (.loc 88) 85) [(.eq,.cst (.str [112,97,99,107,101,100]))]) (.calF 60 [.loc 88,.loc 91]) (.calF 61 [.loc 88,.loc 91])))]
def U8:List CS:=[.ret (some (.calF 62 [.loc 88,.calF 2 [.loc 68,.att (.loc 88) 2,.cst (.bool false)]]))]
def U2:List CS:=[.asg 106 (.tup [.cst (.str [103,114,111,117,112]),.cst (.str [97,108,112,104,97,98,101,116,105,99]),.cst (.str [97,108,112,104,97,110,117,109,101,114,105,99]),.cst (.str [97,108,110,117,109,45,101,100,105,116,101,100])]),.asg 107 (.dct [([103,114,111,117,112],.bin false .add (.loc 106) (.glb 108)),([97,108,112,104,97,110,117,109,101,114,105,99],.bin false .add (.loc 106) (.glb 108)),([97,108,112,104,97,98,101,116,105,99],.loc 106),([97,108,110,117,109,45,101,100,105,116,101,100],.loc 106),([110,117,109,101,114,105,99],.bin false .add (.tup [.cst (.str [103,114,111,117,112]),.cst (.str [97,108,112,104,97,110,117,109,101,114,105,99]),.cst (.str [97,108,110,117,109,45,101,100,105,116,101,100])]) (.glb 108)),([101,100,105,116,101,100],.bin false .add (.tup [.cst (.str [103,114,111,117,112]),.cst (.str [97,108,112,104,97,110,117,109,101,114,105,99]),.cst (.str [97,108,110,117,109,45,101,100,105,116,101,100])]) (.glb 108))]),.ret (some (.mtB false .get (.loc 107) [.loc 11,.tup []]))]
def UC:List CS:=[.ret (some (.cmp false (.loc 109) [(.isin,.calF 64 [.loc 110])]))]
def SW:List CS:=[.ite false (.loc 87) [.ret (some (.bin true .add (.bin true .mul (.glb 111) (.bin true .sub (.loc 5) (.calB true .len [.loc 84]))) (.slc true (.loc 84) (some (.calB true .max [.bin true .sub (.calB true .len [.loc 84]) (.loc 5),.cst (.int 0)])) none none)))] [],.ret (some (.bin true .add (.slc true (.loc 84) none (some (.loc 5)) none) (.bin true .mul (.glb 111) (.bin true .sub (.loc 5) (.calB true .len [.loc 84])))))]
def TZ:List CS:=[.ite false (.cmp false (.loc 84) [(.eq,.cst (.bytes []))]) [.bad] [],.ret (some (.slc true (.bin true .mul (.loc 84) (.bin true .add (.bin true .fdiv (.loc 5) (.calB true .len [.loc 84])) (.cst (.int 1)))) none (some (.loc 5)) none))]
def QR:List CS:=[.asg 68 (.cst (.int 0)),.fore [16,112] (.loc 84) [.ite true (.nt (.cmp true (.glb 113) [(.le,.loc 112),(.le,.bin true .add (.glb 113) (.cst (.int 9)))])) [.bad] [],.asg 68 (.bin true .sub (.bin true .add (.bin true .mul (.cst (.int 10)) (.loc 68)) (.loc 112)) (.glb 113))],.ret (some (.loc 68))]
def TR:List CS:=[.ite false (.cmp false (.att (.loc 88) 11) [(.eq,.cst (.str [110,117,109,101,114,105,99]))]) [.ret (some .bad)] [],.ite false (.cmp false (.att (.loc 88) 11) [(.eq,.cst (.str [101,100,105,116,101,100]))]) [.ret (some .bad)] [],.ret (some (.calF 1 [.calF 68 [.loc 84]]))]
def Ux:List CS:=[.ite false (.cmp false (.att (.loc 88) 11) [(.ne,.cst (.str [110,117,109,101,114,105,99]))]) [.ret (some (.loc 84))] [],.ite false (.cmp false (.att (.loc 88) 2) [(.gt,.cst (.int 0))]) [.bad] [],.ret (some (.bin true .add (.calF 62 [.bad,.calB true .abs [.bad]]) (.bin true .mul (.cst (.bytes [48])) (.bin true .sub (.cst (.int 0)) (.att (.loc 88) 2)))))]
def UJ:List CS:=[.ite false (.cmp false (.att (.loc 88) 11) [(.eq,.cst (.str [97,108,110,117,109,45,101,100,105,116,101,100]))]) [.ret (some (.calF 45 [.att (.loc 88) 63,.loc 84]))] [],.ret (some (.calF 66 [.loc 84,.att (.loc 88) 5,.att (.loc 88) 87]))]
def Tn:List CS:=[.ite false (.cmp false (.att (.loc 88) 11) [(.eq,.cst (.str [101,100,105,116,101,100]))]) [.ret (some (.calF 43 [.att (.loc 88) 63,.loc 68,.att (.loc 88) 79]))] [],.ret (some (.calF 63 [.loc 88,.loc 68]))]
def SZ:List CS:=[.ite false (.nt (.calF 65 [.att (.loc 110) 11,.att (.loc 109) 11])) [.bad] [],.ite false (.bop false false [.cmp false (.att (.loc 110) 11) [(.eq,.cst (.str [103,114,111,117,112]))],.cmp false (.att (.loc 109) 11) [(.eq,.cst (.str [103,114,111,117,112]))]]) [.ret (some (.calF 66 [.loc 84,.att (.loc 109) 5]))] [],.ite false (.cmp false (.att (.loc 109) 11) [(.isin,.glb 108)]) [.ret (some (.calF 72 [.loc 109,.calF 69 [.loc 110,.loc 84]]))] [],.ret (some (.calF 71 [.loc 109,.calF 70 [.loc 110,.loc 84]]))]
def Vx:List CS:=[.ite false (.cmp false (.sub false (.loc 114) (.cst (.int 0))) [(.eq,.cst (.str [97,108,108]))]) [.ret (some (.sub false (.loc 114) (.cst (.int 1))))] [],.ret (some (.sub false (.dct [([90,69,82,79],.cst (.bytes [48])),([83,80,65,67,69],.cst (.bytes [32])),([72,73,71,72],.cst (.bytes [255])),([76,79,87],.cst (.bytes [0])),([81,85,79,84,69],.cst (.bytes [34]))]) (.sub false (.loc 114) (.cst (.int 1)))))]
def U0:List CS:=[.ite false (.cmp false (.loc 114) [(.eq,.tup [.cst (.str [102,105,103,117,114,101]),.cst (.str [90,69,82,79])])]) [.ret (some (.calF 72 [.loc 88,.calF 1 [.cst (.int 0)]]))] [],.ite false (.cmp false (.sub false (.loc 114) (.cst (.int 0))) [(.eq,.cst (.str [102,105,103,117,114,101]))]) [.bad] [],.ret (some (.calF 72 [.loc 88,.calF 1 [.calF 68 [.calF 67 [.sub false (.loc 114) (.cst (.int 1)),.att (.loc 88) 12]]]]))]
def UK:List CS:=[.ite false (.cmp false (.att (.loc 88) 11) [(.isin,.glb 108)]) [.ret (some (.calF 75 [.loc 114,.loc 88]))] [],.ite false (.bop false false [.cmp false (.att (.loc 88) 11) [(.eq,.cst (.str [105,110,100,101,120]))],.bop false true [.cmp false (.att (.loc 88) 11) [(.eq,.cst (.str [97,108,112,104,97,98,101,116,105,99]))],.cmp false (.loc 114) [(.eq,.tup [.cst (.str [102,105,103,117,114,101]),.cst (.str [90,69,82,79])])]]]) [.bad] [],.asg 9 (.calF 67 [.calF 74 [.loc 114],.att (.loc 88) 5]),.ret (some (.ife false (.cmp false (.att (.loc 88) 11) [(.eq,.cst (.str [97,108,110,117,109,45,101,100,105,116,101,100]))]) (.calF 45 [.att (.loc 88) 63,.loc 9]) (.loc 9)))]
def QI:List CS:=[.ite true (.cmp true (.calB true .len [.loc 84]) [(.gt,.cst (.int 0))]) [.ret (some (.calF 73 [.calF 56 [.loc 84],.loc 84,.loc 88]))] [],.ite false (.cmp false (.att (.loc 88) 11) [(.isin,.tup [.cst (.str [110,117,109,101,114,105,99]),.cst (.str [101,100,105,116,101,100])])]) [.ret (some (.calF 76 [.tup [.cst (.str [102,105,103,117,114,101]),.cst (.str [90,69,82,79])],.loc 88]))] [],.ret (some (.calF 76 [.tup [.cst (.str [102,105,103,117,114,101]),.cst (.str [83,80,65,67,69])],.loc 88]))]
def SJ:List CS:=[.asgT [115,116,88] (.loc 75),.asgL (.loc 115) (.loc 116) (.bin true .add (.loc 116) (.att (.loc 88) 5)) (.calF 77 [.loc 84,.loc 88])]
def VS:List CS:=[.ret (some (.lst [.comp false (.calB true .int [.loc 118]) [118] false (.slc true (.loc 117) none (some (.cst (.int 48))) none) none,.cst (.int 0),.cst (.int 0)]))]
def NW:List CS:=[.ite true (.cmp true (.sub true (.loc 119) (.cst (.int 2))) [(.gt,.cst (.int 0))]) [.asg 120 (.bin true .mod (.calB true .int [.sub true (.loc 119) (.cst (.int 2))]) (.loc 82)),.asgS true (.loc 119) (.cst (.int 2)) (.bin true .fdiv (.calB true .int [.sub true (.loc 119) (.cst (.int 2))]) (.loc 82)),.ret (some (.loc 120))] [],.asg 93 (.sub true (.loc 119) (.cst (.int 1))),.asgS true (.loc 119) (.cst (.int 1)) (.bin true .add (.loc 93) (.cst (.int 1))),.asg 118 (.bin true .add (.bin true .add (.bin true .mul (.cst (.int 26003)) (.loc 93)) (.cst (.int 1913))) (.bin true .mod (.calB true .int [.calB true .sum [.slc true (.sub true (.loc 119) (.cst (.int 0))) none (some (.cst (.int 1))) none]]) (.cst (.int 1000003)))),.ite true (.cmp true (.sub true (.loc 119) (.cst (.int 0))) [(.ne,.lst [])]) [.asg 118 (.sub true (.sub true (.loc 119) (.cst (.int 0))) (.bin true .mod (.calB true .int [.loc 93]) (.calB true .len [.sub true (.loc 119) (.cst (.int 0))])))] [],.ite true (.bop true true [.cmp true (.loc 93) [(.lt,.calB true .len [.sub true (.loc 119) (.cst (.int 0))])],.cmp true (.calB true .abs [.loc 118]) [(.ge,.bin true .pow (.cst (.int 10)) (.cst (.int 18)))]]) [.asg 62 (.bin true .add (.bin true .mul (.cst (.int 2)) (.bin true .sub (.calB true .abs [.loc 118]) (.bin true .pow (.cst (.int 10)) (.cst (.int 18))))) (.calB true .int [.cmp false (.loc 118) [(.lt,.cst (.int 0))]])),.asgS true (.loc 119) (.cst (.int 2)) (.bin true .fdiv (.calB true .int [.loc 62]) (.loc 82)),.ret (some (.bin true .mod (.calB true .int [.loc 62]) (.loc 82)))] [],.asg 121 (.bin true .mod (.calB true .int [.bin true .pow (.bin true .add (.bin true .add (.bin true .mod (.calB true .int [.loc 118]) (.cst (.int 2147483587))) (.bin true .mul (.cst (.int 26003)) (.loc 93))) (.cst (.int 1913))) (.cst (.int 5))]) (.cst (.int 2147483629))),.asg 121 (.bin true .mod (.calB true .int [.bin true .pow (.bin true .add (.bin true .add (.bin true .mul (.loc 121) (.bin true .add (.bin true .mul (.cst (.int 2)) (.loc 93)) (.cst (.int 5501)))) (.bin true .mul (.bin true .mul (.cst (.int 26003)) (.loc 93)) (.loc 93))) (.cst (.int 41))) (.cst (.int 3))]) (.cst (.int 2147483579))),.ret (some (.bin true .mod (.calB true .int [.bin true .fdiv (.loc 121) (.cst (.int 32))]) (.loc 82)))]
def UB:List CS:=[.ret (some (.sub true (.loc 122) (.calF 80 [.loc 119,.calB true .len [.loc 122]])))]
def UR:List CS:=[.ret (some (.calB true .bytes [.comp false (.bin true .add (.cst (.int 48)) (.bin true .mod (.bin true .fdiv (.loc 68) (.bin true .pow (.cst (.int 10)) (.loc 81))) (.cst (.int 10)))) [81] false (.calB true .range [.bin true .sub (.loc 12) (.cst (.int 1)),.neg (.cst (.int 1)),.neg (.cst (.int 1))]) none]))]
def Ue:List CS:=[.asg 68 (.cst (.int 0)),.for [123] false (.loc 84) [.ite true (.nt (.cmp true (.cst (.int 48)) [(.le,.loc 123),(.le,.cst (.int 57))])) [.ret (some (.neg (.cst (.int 1))))] [],.asg 68 (.bin true .sub (.bin true .add (.bin true .mul (.cst (.int 10)) (.loc 68)) (.loc 123)) (.cst (.int 48)))],.ret (some (.loc 68))]
def Uf:List CS:=[.ite false (.cmp false (.loc 124) [(.eq,.cst (.str [106,117,115,116,105,102,105,101,100]))]) [.ret (some (.slc true (.bin true .add (.bin true .mul (.cst (.bytes [32])) (.loc 5)) (.loc 84)) (some (.calB true .len [.loc 84])) none none))] [],.ite false (.cmp false (.loc 124) [(.eq,.cst (.str [105,110,115,101,114,116,101,100]))]) [.asg 125 (.slc true (.bin true .add (.loc 84) (.bin true .mul (.cst (.bytes [32])) (.loc 5))) none (some (.bin true .sub (.loc 5) (.cst (.int 1)))) none),.ret (some (.bin true .add (.bin true .add (.slc true (.loc 125) none (some (.cst (.int 1))) none) (.cst (.bytes [32]))) (.slc true (.loc 125) (some (.cst (.int 1))) none none)))] [],.ret (some (.slc true (.bin true .add (.loc 84) (.bin true .mul (.cst (.bytes [32])) (.loc 5))) none (some (.loc 5)) none))]
def Uk:List CS:=[.asg 3 (.bin true .mod (.bin true .mul (.loc 68) (.bin true .pow (.cst (.int 10)) (.loc 2))) (.bin true .pow (.cst (.int 10)) (.loc 12))),.ite false (.cmp false (.loc 124) [(.eq,.cst (.str [112,108,97,105,110]))]) [.ret (some (.calF 82 [.loc 3,.loc 12]))] [],.ite false (.cmp false (.loc 124) [(.eq,.cst (.str [115,105,103,110,101,100]))]) [.ret (some (.bin true .add (.slc true (.calF 82 [.loc 3,.loc 12]) none (some (.neg (.cst (.int 1)))) none) (.slc true (.cst (.bytes [123,65,66,67,68,69,70,71,72,73])) (some (.bin true .mod (.loc 3) (.cst (.int 10)))) (some (.bin true .add (.bin true .mod (.loc 3) (.cst (.int 10))) (.cst (.int 1)))) none)))] [],.ite false (.cmp false (.loc 124) [(.eq,.cst (.str [112,97,99,107,101,100]))]) [.asg 105 (.bin true .add (.comp false (.bin true .sub (.loc 123) (.cst (.int 48))) [123] false (.calF 82 [.loc 3,.bin true .add (.bin true .mul (.bin true .fdiv (.loc 12) (.cst (.int 2))) (.cst (.int 2))) (.cst (.int 1))]) none) (.lst [.cst (.int 15)])),.ret (some (.calB true .bytes [.comp false (.bin true .add (.bin true .mul (.cst (.int 16)) (.sub true (.loc 105) (.loc 16))) (.sub true (.loc 105) (.bin true .add (.loc 16) (.cst (.int 1))))) [16] false (.calB true .range [.cst (.int 0),.calB true .len [.loc 105],.cst (.int 2)]) none]))] [],.ite false (.cmp false (.loc 124) [(.eq,.cst (.str [98,105,110,97,114,121]))]) [.asg 126 (.ife false (.cmp false (.loc 12) [(.le,.cst (.int 4))]) (.cst (.int 2)) (.ife false (.cmp false (.loc 12) [(.le,.cst (.int 9))]) (.cst (.int 4)) (.cst (.int 8)))),.ret (some (.calB true .bytes [.comp false (.bin true .mod (.bin true .fdiv (.loc 3) (.bin true .pow (.cst (.int 256)) (.loc 81))) (.cst (.int 256))) [81] false (.calB true .range [.bin true .sub (.loc 126) (.cst (.int 1)),.neg (.cst (.int 1)),.neg (.cst (.int 1))]) none]))] [],.asg 127 (.calF 82 [.loc 3,.loc 12]),.asg 128 (.cst (.int 0)),.whl true (.bop true true [.cmp true (.loc 128) [(.lt,.bin true .sub (.loc 12) (.cst (.int 1)))],.cmp true (.sub true (.loc 127) (.loc 128)) [(.eq,.cst (.int 48))]]) [.asg 128 (.bin true .add (.loc 128) (.cst (.int 1)))],.ret (some (.bin true .add (.bin true .mul (.cst (.bytes [32])) (.loc 128)) (.slc true (.loc 127) (some (.loc 128)) none none)))]
def Ug:List CS:=[.ite false (.cmp false (.loc 124) [(.eq,.cst (.str [103,114,111,117,112]))]) [.ret (some (.calF 55 [.loc 5]))] [],.ite false (.cmp false (.loc 124) [(.eq,.cst (.str [105,110,115,101,114,116,101,100]))]) [.ret (some (.calF 54 [.calF 30 [.bin false .add (.cst (.str [88,66])) (.bin false .mul (.cst (.str [88])) (.bin false .sub (.loc 5) (.cst (.int 2))))]]))] [],.asg 14 (.ife false (.cmp false (.loc 124) [(.eq,.cst (.str [108,101,116,116,101,114,115]))]) (.cst (.str [65])) (.cst (.str [88]))),.ret (some (.calF 54 [.calF 30 [.bin false .add (.bin false .add (.bin false .add (.loc 14) (.cst (.str [40]))) (.calB false .str [.loc 5])) (.cst (.str [41]))],.cst (.str [100,105,115,112,108,97,121]),.cst (.str [116,114,97,105,108,105,110,103]),.cst (.bool false),.cmp false (.loc 124) [(.eq,.cst (.str [106,117,115,116,105,102,105,101,100]))]]))]
def UZ:List CS:=[.ite false (.cmp false (.loc 124) [(.eq,.cst (.str [101,100,105,116,101,100]))]) [.ret (some (.calF 54 [.calF 30 [.bin false .add (.bin false .mul (.cst (.str [90])) (.bin false .sub (.loc 12) (.cst (.int 1)))) (.cst (.str [57]))]]))] [],.asg 35 (.ife false (.cmp false (.loc 2) [(.gt,.cst (.int 0))]) (.bin false .add (.bin false .add (.cst (.str [86,57,40])) (.calB false .str [.loc 2])) (.cst (.str [41]))) (.cst (.str []))),.asg 128 (.ife false (.cmp false (.loc 12) [(.gt,.loc 2)]) (.bin false .add (.bin false .add (.cst (.str [57,40])) (.calB false .str [.bin false .sub (.loc 12) (.loc 2)])) (.cst (.str [41]))) (.cst (.str []))),.asg 85 (.ife false (.cmp false (.loc 124) [(.isin,.tup [.cst (.str [112,97,99,107,101,100]),.cst (.str [98,105,110,97,114,121])])]) (.loc 124) (.cst (.str [100,105,115,112,108,97,121]))),.ret (some (.calF 54 [.calF 30 [.bin false .add (.bin false .add (.ife false (.cmp false (.loc 124) [(.eq,.cst (.str [115,105,103,110,101,100]))]) (.cst (.str [83])) (.cst (.str []))) (.loc 128)) (.loc 35)],.loc 85]))]
def Q0:List CS:=[.asg 115 (.calB true .bytearray [.bin true .add (.bin true .add (.cst (.bytes [60,60])) (.bin true .mul (.cst (.bytes [35])) (.att (.loc 88) 5))) (.cst (.bytes [62,62]))]),.asg 129 (.calB true .bytes [.loc 115]),.tri [.xpr (.calF 78 [.tup [.loc 115,.cst (.int 2),.loc 88],.loc 84])],.ret (some (.bop true true [.cmp true (.loc 130) [(.isnot,.cst .none)],.cmp true (.calB true .len [.loc 130]) [(.eq,.att (.loc 88) 5)],.cmp true (.calB true .bytes [.loc 115]) [(.eq,.bin true .add (.bin true .add (.cst (.bytes [60,60])) (.loc 130)) (.cst (.bytes [62,62])))],.cmp true (.calF 77 [.loc 84,.loc 88]) [(.eq,.loc 130)]]))]
def TM:List CS:=[.asg 68 (.calF 83 [.loc 84]),.asg 130 (.ife true (.cmp true (.loc 68) [(.lt,.cst (.int 0))]) (.cst .none) (.calF 85 [.loc 124,.loc 12,.loc 2,.loc 68])),.ret (some (.calF 88 [.calF 87 [.loc 124,.loc 12,.loc 2],.loc 84,.loc 130]))]
def TG:List CS:=[.asg 107 (.lst [.tup [.cst (.str [108,101,102,116]),.cst (.int 3),.cst (.bytes [65,66,67,68]),.cst (.bytes [65,66,67])],.tup [.cst (.str [106,117,115,116,105,102,105,101,100]),.cst (.int 3),.cst (.bytes [65,66,67,68]),.cst (.bytes [66,67,68])],.tup [.cst (.str [106,117,115,116,105,102,105,101,100]),.cst (.int 3),.cst (.bytes [65]),.cst (.bytes [32,32,65])],.tup [.cst (.str [103,114,111,117,112]),.cst (.int 2),.cst (.bytes []),.cst (.bytes [32,32])]]),.asg 107 (.bin false .add (.loc 107) (.lst [.tup [.cst (.str [105,110,115,101,114,116,101,100]),.cst (.int 4),.cst (.bytes [65,66,67,68]),.cst (.bytes [65,32,66,67])],.tup [.cst (.str [108,101,116,116,101,114,115]),.cst (.int 3),.cst (.bytes [65]),.cst (.bytes [65,32,32])]])),.ite false (.cmp false (.comp false (.loc 98) [98] false (.loc 107) (some (.bop false false [.cmp false (.calF 84 [.sub false (.loc 98) (.cst (.int 0)),.sub false (.loc 98) (.cst (.int 1)),.sub false (.loc 98) (.cst (.int 2))]) [(.ne,.sub false (.loc 98) (.cst (.int 3)))],.nt (.calF 88 [.calF 86 [.sub false (.loc 98) (.cst (.int 0)),.sub false (.loc 98) (.cst (.int 1))],.sub false (.loc 98) (.cst (.int 2)),.sub false (.loc 98) (.cst (.int 3))])]))) [(.ne,.lst [])]) [.ret (some (.cst (.bool false)))] [],.asg 122 (.lst [.tup [.cst (.str [112,108,97,105,110]),.cst (.int 3),.cst (.int 1),.cst (.bytes [49,50,51]),.cst (.bytes [50,51,48])],.tup [.cst (.str [115,105,103,110,101,100]),.cst (.int 2),.cst (.int 0),.cst (.bytes [55]),.cst (.bytes [48,71])],.tup [.cst (.str [112,97,99,107,101,100]),.cst (.int 3),.cst (.int 0),.cst (.bytes [49,50]),.cst (.bytes [1,47])],.tup [.cst (.str [98,105,110,97,114,121]),.cst (.int 4),.cst (.int 0),.cst (.bytes [51,48,48]),.cst (.bytes [1,44])]]),.asg 122 (.bin false .add (.loc 122) (.lst [.tup [.cst (.str [101,100,105,116,101,100]),.cst (.int 3),.cst (.int 0),.cst (.bytes []),.cst (.bytes [32,32,48])],.tup [.cst (.str [101,100,105,116,101,100]),.cst (.int 3),.cst (.int 0),.cst (.bytes [49,48,52,53]),.cst (.bytes [32,52,53])],.tup [.cst (.str [112,108,97,105,110]),.cst (.int 2),.cst (.int 0),.cst (.bytes []),.cst (.bytes [48,48])],.tup [.cst (.str [115,105,103,110,101,100]),.cst (.int 3),.cst (.int 2),.cst (.bytes []),.cst (.bytes [48,48,123])]])),.ret (some (.cmp false (.comp false (.loc 98) [98] false (.loc 122) (some (.nt (.calF 88 [.calF 87 [.sub false (.loc 98) (.cst (.int 0)),.sub false (.loc 98) (.cst (.int 1)),.sub false (.loc 98) (.cst (.int 2))],.sub false (.loc 98) (.cst (.int 3)),.sub false (.loc 98) (.cst (.int 4))])))) [(.eq,.lst [])]))]
def NV:List CS:=[.ite true (.nt (.calF 90 [])) [.ret (some (.cst (.bool false)))] [],.asg 119 (.calF 79 [.loc 117]),.for [93] false (.calB true .range [.cst (.int 3)]) [.asg 84 (.calB true .bytes [.comp false (.calF 81 [.loc 119,.cst (.bytes [48,49,50,51,52,53,54,55,56,57])]) [82] false (.calB true .range [.calF 80 [.loc 119,.cst (.int 12)]]) none]),.ite true (.cmp true (.calF 80 [.loc 119,.cst (.int 3)]) [(.eq,.cst (.int 0))]) [.asg 84 (.bin true .add (.loc 84) (.calB true .bytes [.lst [.calF 81 [.loc 119,.cst (.bytes [65,32,46,45,120])]]]))] [],.asgT [124,5] (.tup [.calF 81 [.loc 119,.lst [.cst (.str [108,101,102,116]),.cst (.str [106,117,115,116,105,102,105,101,100]),.cst (.str [103,114,111,117,112]),.cst (.str [105,110,115,101,114,116,101,100]),.cst (.str [108,101,116,116,101,114,115])]],.bin true .add (.cst (.int 3)) (.calF 80 [.loc 119,.cst (.int 7)])]),.ite true (.nt (.calF 88 [.calF 86 [.loc 124,.loc 5],.loc 84,.calF 84 [.loc 124,.loc 5,.loc 84]])) [.ret (some (.cst (.bool false)))] [],.asgT [124,12] (.tup [.calF 81 [.loc 119,.lst [.cst (.str [112,108,97,105,110]),.cst (.str [115,105,103,110,101,100]),.cst (.str [112,97,99,107,101,100]),.cst (.str [98,105,110,97,114,121]),.cst (.str [101,100,105,116,101,100])]],.bin true .add (.cst (.int 2)) (.calF 80 [.loc 119,.cst (.int 8)])]),.asg 2 (.ife false (.cmp false (.loc 124) [(.eq,.cst (.str [101,100,105,116,101,100]))]) (.cst (.int 0)) (.calF 80 [.loc 119,.bin true .add (.calB true .min [.loc 12,.cst (.int 4)]) (.cst (.int 1))])),.ite true (.bop true false [.nt (.calF 89 [.loc 124,.loc 12,.loc 2,.loc 84]),.nt (.calF 89 [.loc 124,.loc 12,.loc 2,.slc true (.loc 84) none (some (.neg (.cst (.int 1)))) none])]) [.ret (some (.cst (.bool false)))] []],.ret (some (.cst (.bool true)))]
def Ua:List wN:=[
 ⟨[0,1],[],[],b0⟩,
 ⟨[3,2],[(.int 0)],[],b1⟩,
 ⟨[4,2,6],[],[],b2⟩,
 ⟨[8,9,10,11,12,2,13,5],[],[],b3⟩,
 ⟨[8,14,15,16],[],[],b4⟩,
 ⟨[8],[],[],b5⟩,
 ⟨[9,16],[],[],b6⟩,
 ⟨[9,16],[],[],b7⟩,
 ⟨[9],[],[],b8⟩,
 ⟨[24],[],[],b9⟩,
 ⟨[10],[],[],Us⟩,
 ⟨[8],[],[],Un⟩,
 ⟨[8],[],[],TY⟩,
 ⟨[8,15,41],[],[],VI⟩,
 ⟨[8,23],[],[],VV⟩,
 ⟨[8,23],[],[],Vh⟩,
 ⟨[8,23],[],[],UU⟩,
 ⟨[8,23],[],[],VC⟩,
 ⟨[8,23],[],[],VW⟩,
 ⟨[8,23,15],[],[],Uh⟩,
 ⟨[8],[],[],Vf⟩,
 ⟨[8,23],[],[],UT⟩,
 ⟨[8,23],[],[],Um⟩,
 ⟨[8,23],[],[],Ur⟩,
 ⟨[8,23],[],[],Up⟩,
 ⟨[8],[],[],U3⟩,
 ⟨[8],[],[],Vb⟩,
 ⟨[9,24],[],[],U9⟩,
 ⟨[10],[],[],Vg⟩,
 ⟨[9,24],[],[],UI⟩,
 ⟨[9],[],[],VT⟩,
 ⟨[63],[],[],UX⟩,
 ⟨[24],[],[],UM⟩,
 ⟨[24],[],[],Vc⟩,
 ⟨[67],[],[],Vz⟩,
 ⟨[63,68],[],[],UE⟩,
 ⟨[14,69],[],[],UL⟩,
 ⟨[14],[],[],UP⟩,
 ⟨[8,19,69,71],[],[],UA⟩,
 ⟨[8],[],[],US⟩,
 ⟨[8,67],[],[],Vu⟩,
 ⟨[8,67,14],[],[],VD⟩,
 ⟨[63,68,79],[],[],VB⟩,
 ⟨[63,68,79],[(.bool false)],[],Uj⟩,
 ⟨[24],[],[],UO⟩,
 ⟨[63,84],[],[],Ut⟩,
 ⟨[8,11,5,63,85,14,86,87,79],[.none,(.str [100,105,115,112,108,97,121]),(.str [116,114,97,105,108,105,110,103]),(.bool false),(.bool false),(.bool false)],[],Vl⟩,
 ⟨[88],[],[],T1⟩,
 ⟨[12],[],[],Vj⟩,
 ⟨[12],[],[],Vk⟩,
 ⟨[63,85,86],[],[],UW⟩,
 ⟨[63,85],[],[],VE⟩,
 ⟨[63,85,14,86],[],[],VL⟩,
 ⟨[63,87,79],[],[],Ub⟩,
 ⟨[63,85,14,86,87,79],[(.str [100,105,115,112,108,97,121]),(.str [116,114,97,105,108,105,110,103]),(.bool false),(.bool false),(.bool false)],[],U7⟩,
 ⟨[5],[],[],U1⟩,
 ⟨[84],[],[],Uz⟩,
 ⟨[88,3],[],[],U5⟩,
 ⟨[68,15],[],[],VJ⟩,
 ⟨[88,3],[],[],Uy⟩,
 ⟨[88,3],[],[105],VG⟩,
 ⟨[88,3],[],[],Ud⟩,
 ⟨[88,3],[],[],VN⟩,
 ⟨[88,68],[],[],U8⟩,
 ⟨[11],[],[],U2⟩,
 ⟨[110,109],[],[],UC⟩,
 ⟨[84,5,87],[(.bool false)],[],SW⟩,
 ⟨[84,5],[],[],TZ⟩,
 ⟨[84],[],[],QR⟩,
 ⟨[88,84],[],[],TR⟩,
 ⟨[88,84],[],[],Ux⟩,
 ⟨[88,84],[],[],UJ⟩,
 ⟨[88,68],[],[],Tn⟩,
 ⟨[110,84,109],[],[],SZ⟩,
 ⟨[114],[],[],Vx⟩,
 ⟨[114,88],[],[],U0⟩,
 ⟨[114,88],[],[],UK⟩,
 ⟨[84,88],[],[],QI⟩,
 ⟨[75,84],[],[],SJ⟩,
 ⟨[117],[],[],VS⟩,
 ⟨[119,82],[],[],NW⟩,
 ⟨[119,122],[],[],UB⟩,
 ⟨[68,12],[],[68],UR⟩,
 ⟨[84],[],[],Ue⟩,
 ⟨[124,5,84],[],[],Uf⟩,
 ⟨[124,12,2,68],[],[105,3],Uk⟩,
 ⟨[124,5],[],[],Ug⟩,
 ⟨[124,12,2],[],[],UZ⟩,
 ⟨[88,84,130],[],[],Q0⟩,
 ⟨[124,12,2,84],[],[],TM⟩,
 ⟨[],[],[],TG⟩,
 ⟨[117],[],[119],NV⟩]
def zZ (f:Nat):Option wN:=am Ua f
def Ui:List QM:=[
 ⟨3,[],[9,10,11,12,2,13,5]⟩,
 ⟨4,[(131,5)],[14,15,16]⟩,
 ⟨11,[(12,12),(42,13),(46,14),(47,15),(48,16),(49,17),(52,18),(43,19),(44,20),(50,21),(51,22),(45,23),(55,24),(56,25),(2,26)],[26,27,28,29,30,31,32,33,34,35,36,14,37,38,39,40]⟩,
 ⟨38,[(77,39),(76,40),(81,41)],[19,69,71,72,21,73,74,75]⟩,
 ⟨46,[],[11,5,63,85,14,86,87,79,12,2,13]⟩]
def NL (c:Nat):Option QM:=am Ui c
def TP:List (Nat×CV):=[
 (108,(.top 720)),
 (17,(.str [65,66,80,83,86,88,90,57,48,47,44,46,43,45,42,36])),
 (60,(.str [65,32,88,32,57,32,66,32,48,32,47])),
 (59,(.str [57,32,80,32,83,32,86])),
 (25,(.str [80,32,83,32,86])),
 (22,(.str [83,32,86,32,46,32,67,82,32,68,66])),
 (20,(.str [48,49,50,51,52,53,54,55,56,57])),
 (61,(.int 30)),
 (53,(.int 18)),
 (57,(.int 9999)),
 (64,(.str [36,43,45])),
 (65,(.str [66,48,47,44])),
 (70,(.str [32])),
 (90,(.str [100,105,115,112,108,97,121,32,112,97,99,107,101,100,32,98,105,110,97,114,121,32,105,110,100,101,120])),
 (89,(.int 18)),
 (95,(.int 48)),
 (97,(.int 43)),
 (96,(.int 45)),
 (100,(.bytes [123,65,66,67,68,69,70,71,72,73])),
 (99,(.bytes [125,74,75,76,77,78,79,80,81,82])),
 (104,(.int 12)),
 (103,(.int 13)),
 (102,(.int 15)),
 (111,(.bytes [32])),
 (113,(.int 48))]
def QW (x:Nat):Option CV:=lk TP x
def MH:List (List Nat):=[[116,111,112],[98,111,116,116,111,109],[115,99,97,108,101],[117,110,105,116,115],[97],[115,105,122,101],[105,115,95,114,111,117,110,100,101,100],[104,97,108,102],[115,101,108,102],[116,101,120,116],[115,121,109,98,111,108,115],[99,97,116,101,103,111,114,121],[100,105,103,105,116,115],[105,115,95,115,105,103,110,101,100],[115,105,103,110],[99,111,117,110,116],[97,116],[83,73,71,78,83],[101,110,100],[102,105,103,117,114,101,115],[70,73,71,85,82,69,83],[102,111,117,110,100],[65,76,79,78,69],[111,110,101],[115,105,103,110,115],[76,65,73,68,95,78,79,87,72,69,82,69],[115,101,101,110],[105,115,95,112,108,97,105,110],[112,111,105,110,116],[108,101,97,100],[116,114,97,105,108],[110,105,110,101,115],[122,101,114,111],[122,101,114,111,115],[102,108,111,97,116,115],[98,101,104,105,110,100],[105,115,95,108,97,116,101],[109,111,110,101,121],[108,97,115,116],[105,115,95,111,118,101,114],[105,115,95,105,110,115,101,114,116,101,100],[105,115,95,108,111,111,115,101],[97,100,100,95,98,101,104,105,110,100],[102,108,111,97,116,95,111,110],[109,97,121,95,102,108,111,97,116],[116,97,107,101,95,101,110,100],[116,97,107,101,95,110,105,110,101],[116,97,107,101,95,122,101,114,111],[116,97,107,101,95,112,111,105,110,116],[116,97,107,101,95,115,99,97,108,105,110,103],[116,97,107,101,95,115,105,103,110],[116,97,107,101,95,109,111,110,101,121],[116,97,107,101,95,105,110,115,101,114,116,101,100],[77,79,83,84,95,68,73,71,73,84,83,95,112,105,99,116,117,114,101,115],[111,114,100,101,114],[116,97,107,101],[105,115,95,119,104,111,108,101],[77,79,83,84,95,83,73,90,69],[112,108,97,105,110],[80,76,65,73,78,95,83,73,71,78,83],[84,69,88,84,95,83,73,71,78,83],[77,79,83,84,95,84,69,88,84],[103,114,101,97,116],[112,105,99,116,117,114,101],[70,73,88,69,68],[73,78,83,69,82,84,69,68],[102,108,111,97,116,105,110,103],[114,111,108,101],[110,117,109,98,101,114],[105,115,95,110,101,103,97,116,105,118,101],[66,76,65,78,75,95,101,100,105,116,105,110,103],[102,105,108,108],[110,101,120,116],[105,115,95,99,111,117,110,116,105,110,103],[105,115,95,98,101,103,117,110],[115,112,111,116],[102,105,103,117,114,101],[115,117,112,112,114,101,115,115],[114,111,108,101,115],[105,115,95,98,108,97,110,107,95,122,101,114,111],[108,97,121,101,114],[112,108,97,99,101],[109,97,110,121],[104,101,108,100],[111,99,116,101,116,115],[117,115,97,103,101],[105,115,95,115,101,112,97,114,97,116,101],[105,115,95,106,117,115,116,105,102,105,101,100],[115,104,97,112,101],[77,79,83,84,95,68,73,71,73,84,83,95,115,104,97,112,101,115],[85,83,65,71,69,83],[108,101,102,116],[114,101,115,116],[116,117,114,110],[99,111,100,101,115],[78,79,85,71,72,84,95,117,115,97,103,101,115],[77,73,78,85,83,95,117,115,97,103,101,115],[80,76,85,83],[114,111,119],[77,73,78,85,83,95,70,73,71,85,82,69,83],[80,76,85,83,95,70,73,71,85,82,69,83],[109,97,114,107],[80,65,67,75,69,68,95,80,76,65,73,78],[80,65,67,75,69,68,95,77,73,78,85,83],[80,65,67,75,69,68,95,80,76,85,83],[104,97,108,118,101,115],[116,101,120,116,115],[114,111,119,115],[78,85,77,66,69,82,83],[103,111,97,108],[115,111,117,114,99,101],[66,76,65,78,75,95,109,111,118,105,110,103],[99,111,100,101],[78,79,85,71,72,84,95,67,79,68,69],[111,112,101,114,97,110,100],[109,101,109,111,114,121],[111,102,102,115,101,116],[115,99,114,105,112,116],[99,101,108,108],[112,101,110],[100,105,103,105,116],[109,105,120,101,100],[115,111,109,101],[111,99,116,101,116],[107,105,110,100],[108,97,105,100],[119,105,100,116,104],[115,104,111,119,110],[97,104,101,97,100],[101,108,100,101,114],[100,117,101],[102,97,117,108,116]]
def Tj:List (List Nat×GK):=[([99,117,116,95,113,117,111,116,105,101,110,116],.fn 0),([100,101,99,105,109,97,108],.fn 1),([117,110,105,116,115,95,97,116],.fn 2),([115,105,103,110,95,97,116],.fn 6),([99,111,117,110,116,95,97,116],.fn 7),([115,105,103,110,115,95,111,102],.fn 8),([115,121,109,98,111,108,115,95,111,102],.fn 9),([115,105,122,101,95,111,102,95,115,121,109,98,111,108,115],.fn 10),([110,117,109,98,101,114,95,112,105,99,116,117,114,101],.fn 27),([116,101,120,116,95,99,97,116,101,103,111,114,121],.fn 28),([116,101,120,116,95,112,105,99,116,117,114,101],.fn 29),([114,101,97,100,95,112,105,99,116,117,114,101],.fn 30),([112,108,97,99,101,115],.fn 31),([102,108,111,97,116,105,110,103,95,115,105,103,110],.fn 32),([114,111,108,101,115,95,111,102],.fn 33),([105,115,95,115,117,112,112,114,101,115,115,105,110,103],.fn 34),([102,105,103,117,114,101,115,95,108,97,105,100],.fn 35),([115,105,103,110,95,116,101,120,116],.fn 36),([105,110,115,101,114,116,95,116,101,120,116],.fn 37),([101,100,105,116,101,100,95,116,101,120,116],.fn 42),([101,100,105,116,101,100],.fn 43),([100,97,116,97,95,112,108,97,99,101,115],.fn 44),([105,110,115,101,114,116,101,100],.fn 45),([117,110,105,116,95,98,111,117,110,100],.fn 47),([98,105,110,97,114,121,95,119,105,100,116,104],.fn 48),([112,97,99,107,101,100,95,119,105,100,116,104],.fn 49),([115,105,122,101,95,102,111,114],.fn 50),([99,104,101,99,107,95,117,115,97,103,101],.fn 51),([99,104,101,99,107,95,115,105,103,110],.fn 52),([99,104,101,99,107,95,99,108,97,117,115,101,115],.fn 53),([115,104,97,112,101,95,111,102],.fn 54),([103,114,111,117,112,95,115,104,97,112,101],.fn 55),([116,101,120,116,95,115,104,97,112,101],.fn 56),([107,101,112,116,95,117,110,105,116,115],.fn 57),([102,105,103,117,114,101,115,95,102,111,114],.fn 58),([100,105,115,112,108,97,121,95,111,99,116,101,116,115],.fn 59),([112,97,99,107,101,100,95,111,99,116,101,116,115],.fn 60),([98,105,110,97,114,121,95,111,99,116,101,116,115],.fn 61),([111,99,116,101,116,115,95,102,111,114],.fn 62),([99,117,116,95,111,99,116,101,116,115],.fn 63),([103,111,97,108,115,95,111,102],.fn 64),([99,97,110,95,109,111,118,101],.fn 65),([97,108,105,103,110,101,100],.fn 66),([114,101,112,101,97,116,101,100],.fn 67),([119,104,111,108,101,95,102,105,103,117,114,101,115,95,111,102],.fn 68),([119,111,114,116,104,95,105,110,95,116,101,120,116],.fn 69),([116,101,120,116,95,105,110],.fn 70),([116,101,120,116,95,102,111,114],.fn 71),([110,117,109,98,101,114,95,102,111,114],.fn 72),([109,111,118,101,100],.fn 73),([112,97,116,116,101,114,110,95,111,102],.fn 74),([102,105,108,108,101,100,95,110,117,109,98,101,114],.fn 75),([102,105,108,108,101,100],.fn 76),([114,101,99,101,105,118,101,100],.fn 77),([108,97,121,95,112,105,101,99,101],.fn 78),([95,108,97,119,95,112,101,110],.fn 79),([95,108,97,119,95,100,114,97,119],.fn 80),([95,108,97,119,95,112,105,99,107],.fn 81),([95,108,97,119,95,102,105,103,117,114,101,115],.fn 82),([95,108,97,119,95,119,104,111,108,101],.fn 83),([95,108,97,119,95,116,101,120,116,95,100,117,101],.fn 84),([95,108,97,119,95,110,117,109,98,101,114,95,100,117,101],.fn 85),([95,108,97,119,95,116,101,120,116,95,115,104,97,112,101],.fn 86),([95,108,97,119,95,110,117,109,98,101,114,95,115,104,97,112,101],.fn 87),([95,108,97,119,95,108,97,105,100],.fn 88),([95,108,97,119,95,110,117,109,98,101,114,95,108,97,105,100],.fn 89),([95,108,97,119,95,119,114,105,116,116,101,110],.fn 90),([108,97,119],.fn 91),([80,105,99,116,117,114,101],.cl 0),([83,105,103,110],.cl 1),([79,114,100,101,114],.cl 2),([76,97,121,101,114],.cl 3),([83,104,97,112,101],.cl 4),([108,101,110],.bi .len),([105,110,116],.bi .int),([115,116,114],.bi .str),([97,98,115],.bi .abs),([115,117,109],.bi .sum),([109,105,110],.bi .min),([109,97,120],.bi .max),([98,121,116,101,115],.bi .bytes),([98,121,116,101,97,114,114,97,121],.bi .bytearray),([99,104,114],.bi .chr),([111,114,100],.bi .ord),([114,97,110,103,101],.bi .range)]
def QZ (x:List Nat):Option GK:=w8 Tj x
def kF (x:Nat):List Nat:=match am MH x with|some l=>l|none=>[2000000+x]
def Pc:List (Nat×CO):=[(720,.tup [.str [110,117,109,101,114,105,99],.str [101,100,105,116,101,100]])]
def UY:List Nat:=[21,29,36,115,148,155,169,174,181,188,193,207,214,221,228,235,242,249,256,263,270,277,284,291,298,305,312,324,329,336,341,348,355,362,369,376,383,390,404,411,418,425,444,450,455,462,523,551,558,565,572,579,586,591,599,606,613,634,641,646,651,658,665,719,727,734,742,749,756,763,770,777,784,791,798,805,812,819,826,831,838,845,850,857,864,869,876,883,890,897,902,907]
def Vq:List Nat:=[130,158,315,428,540]
def Sz:List Nat:=[3,1,21,20,29,28,22,36,35,115,114,148,147,155,154,169,168,174,173,181,180,188,187,193,192,207,206,214,213,221,220,228,227,235,234,242,241,249,248,256,255,263,262,270,269,277,276,284,283,291,290,298,297,305,304,312,311,324,323,329,328,336,335,341,340,348,347,355,354,362,361,369,368,376,375,383,382,390,389,404,403,411,410,418,417,425,424,444,443,450,449,445,455,454,462,461,523,522,516,551,550,558,557,565,564,572,571,579,578,586,585,591,590,599,598,592,606,605,613,612,634,633,641,640,646,645,651,650,658,657,665,664,719,718,727,726,734,733,742,741,735,749,748,756,755,763,762,770,769,777,776,784,783,791,790,798,797,805,804,812,811,819,818,826,825,831,830,838,837,845,844,850,849,857,856,864,863,869,868,876,875,883,882,890,889,897,896,902,901,907,906,130,129,158,157,315,314,428,427,540,539,62,61,99,98,52,51,45,720]
def nK (f:Nat):Nat:=(am UY f).getD 0
def ON (c:Nat):Nat:=(am Vq c).getD 0
def TB:Tab:={fn:=zZ,cl:=NL,gv:=QW,tv:=lk Pc,ct:=fun Z0=>none}
def y8 (v:Dk):Bool:=if h:v.ctorIdx=0 then Iz (motive:=fun Z0=>Bool) v h (true) else false
@[elab_as_elim] theorem vNone_e {P:Dk->Prop} {v:Dk} (h:y8 v=true) (k:P .none):P v:=(dT (c:=v.ctorIdx=0) h).elim fun h2 h=>Iz (motive:=fun v=>∀h2,Iz (motive:=fun Z0=>Bool) v h2 (true)=true->P v) v h2 (fun Z0 Z0=>k) h2 h
def CD (v:Dk) (f:Bool->Bool):Bool:=if h:v.ctorIdx=3 then IA (motive:=fun Z0=>Bool) v h (fun b=>f b) else false
@[elab_as_elim] theorem vBool_e {P:Dk->Prop} {v:Dk} {f:Bool->Bool} (h:CD v f=true) (k:∀b,f b=true->P (.bool b)):P v:=(dT (c:=v.ctorIdx=3) h).elim fun h2 h=>IA (motive:=fun v=>∀h2,IA (motive:=fun Z0=>Bool) v h2 (fun b=>f b)=true->P v) v h2 (fun b Z0 h=>k b h) h2 h
def Oj (v:Dk) (f:Int->Bool):Bool:=if h:v.ctorIdx=4 then I4 (motive:=fun Z0=>Bool) v h (fun i t=>f i) else false
@[elab_as_elim] theorem vInt_e {P:Dk->Prop} {v:Dk} {f:Int->Bool} (h:Oj v f=true) (k:∀i t,f i=true->P (.int i t)):P v:=(dT (c:=v.ctorIdx=4) h).elim fun h2 h=>I4 (motive:=fun v=>∀h2,I4 (motive:=fun Z0=>Bool) v h2 (fun i t=>f i)=true->P v) v h2 (fun i t Z0 h=>k i t h) h2 h
def MZ (v:Dk) (f:Str->Bool):Bool:=if h:v.ctorIdx=6 then I5 (motive:=fun Z0=>Bool) v h (fun x t=>f x) else false
@[elab_as_elim] theorem vStr_e {P:Dk->Prop} {v:Dk} {f:Str->Bool} (h:MZ v f=true) (k:∀x t,f x=true->P (.str x t)):P v:=(dT (c:=v.ctorIdx=6) h).elim fun h2 h=>I5 (motive:=fun v=>∀h2,I5 (motive:=fun Z0=>Bool) v h2 (fun x t=>f x)=true->P v) v h2 (fun x t Z0 h=>k x t h) h2 h
def Qu (v:Dk) (f:Array UInt8->Bool):Bool:=if h:v.ctorIdx=7 then HX (motive:=fun Z0=>Bool) v h (fun b t=>f b) else false
@[elab_as_elim] theorem vByt_e {P:Dk->Prop} {v:Dk} {f:Array UInt8->Bool} (h:Qu v f=true) (k:∀b t,f b=true->P (.bytes b t)):P v:=(dT (c:=v.ctorIdx=7) h).elim fun h2 h=>HX (motive:=fun v=>∀h2,HX (motive:=fun Z0=>Bool) v h2 (fun b t=>f b)=true->P v) v h2 (fun b t Z0 h=>k b t h) h2 h
def AU (v:Dk) (f:Du->Bool):Bool:=if h:v.ctorIdx=10 then I6 (motive:=fun Z0=>Bool) v h (fun a=>f a) else false
@[elab_as_elim] theorem vRef_e {P:Dk->Prop} {v:Dk} {f:Du->Bool} (h:AU v f=true) (k:∀a,f a=true->P (.ref a)):P v:=(dT (c:=v.ctorIdx=10) h).elim fun h2 h=>I6 (motive:=fun v=>∀h2,I6 (motive:=fun Z0=>Bool) v h2 (fun a=>f a)=true->P v) v h2 (fun a Z0 h=>k a h) h2 h
def LE (c:CV) (v:Dk):Bool:=match c with
 |.none=>y8 v
 |.bool a=>CD v fun b=>cond a b (!b)
 |.int a=>Oj v (j5 a)
 |.str l=>MZ v (dC l)
 |.bytes l=>Qu v fun b=>qZ l (KBw.bInts b)
 |.top a=>AU v (Dy a)
 |.obj _=>false
def QH (v:Dk) (f:String->Bool):Bool:=if h:v.ctorIdx=8 then IB (motive:=fun Z0=>Bool) v h (fun u=>f u) else false
@[elab_as_elim] theorem vTyp_e {P:Dk->Prop} {v:Dk} {f:String->Bool} (h:QH v f=true) (k:∀u,f u=true->P (.type u)):P v:=(dT (c:=v.ctorIdx=8) h).elim fun h2 h=>IB (motive:=fun v=>∀h2,IB (motive:=fun Z0=>Bool) v h2 (fun u=>f u)=true->P v) v h2 (fun u Z0 h=>k u h) h2 h
def Ar (v:Dk) (t:String):Bool:=QH v (·==t)
@[elab_as_elim] theorem isTy_e {P:Dk->Prop} {v:Dk} {t:String} (h:Ar v t=true) (k:P (.type t)):P v:=vTyp_e h fun u h=>by rw [beq_iff_eq.mp h];exact k
def yh (d:IK) (f:Array Dk->Bool):Bool:=if h:d.ctorIdx=2 then Js (motive:=fun Z0=>Bool) d h (fun vs Z0=>f vs) else false
@[elab_as_elim] theorem dSeq_e {P:IK->Prop} {d:IK} {f:Array Dk->Bool} (h:yh d f=true) (k:∀vs n,f vs=true->P (.seq vs n)):P d:=(dT (c:=d.ctorIdx=2) h).elim fun h2 h=>Js (motive:=fun d=>∀h2,Js (motive:=fun Z0=>Bool) d h2 (fun vs Z0=>f vs)=true->P d) d h2 (fun vs n Z0 h=>k vs n h) h2 h
def By (d:IK) (f:HL->Bool):Bool:=if h:d.ctorIdx=7 then I7 (motive:=fun Z0=>Bool) d h (fun x=>f x) else false
@[elab_as_elim] theorem dFun_e {P:IK->Prop} {d:IK} {f:HL->Bool} (h:By d f=true) (k:∀x,f x=true->P (.func x)):P d:=(dT (c:=d.ctorIdx=7) h).elim fun h2 h=>I7 (motive:=fun d=>∀h2,I7 (motive:=fun Z0=>Bool) d h2 (fun x=>f x)=true->P d) d h2 (fun x Z0 h=>k x h) h2 h
def P3 (d:IK) (f:HK->Bool):Bool:=if h:d.ctorIdx=8 then Jt (motive:=fun Z0=>Bool) d h (fun x=>f x) else false
@[elab_as_elim] theorem dCls_e {P:IK->Prop} {d:IK} {f:HK->Bool} (h:P3 d f=true) (k:∀x,f x=true->P (.cls x)):P d:=(dT (c:=d.ctorIdx=8) h).elim fun h2 h=>Jt (motive:=fun d=>∀h2,Jt (motive:=fun Z0=>Bool) d h2 (fun x=>f x)=true->P d) d h2 (fun x Z0 h=>k x h) h2 h
def At (b:FuncBody) (f:List Ek->Bool):Bool:=match b with
 |.stmts x=>f x
 |.expr _=>false
@[elab_as_elim] theorem bStm_e {P:FuncBody->Prop} {b:FuncBody} {f:List Ek->Bool} (h:At b f=true) (k:∀x,f x=true->P (.stmts x)):P b:=by
 cases b<;>first|exact k _ h|exact absurd h Dq
theorem uW {K:Frag} {a:Du} {f:Array Dk->Bool} (h:(jS (K.lookup a) fun o=>yh o.data f)=true):∃c od vs n sl,K.lookup a=some ⟨c,od,.seq vs n,sl⟩/\f vs=true:=
 onO_e (P:=fun r=>∃c od vs n sl,r=some ⟨c,od,.seq vs n,sl⟩/\f vs=true) h fun o h=>dSeq_e (P:=fun d=>∃c od vs n sl,some (JS o.cls o.dict d o.slots)=some ⟨c,od,.seq vs n,sl⟩/\f vs=true) h fun vs n h=>⟨_,_,_,_,_,rfl,h⟩
theorem Aj {K:Frag} {a:Du} {f:HL->Bool} (h:(jS (K.lookup a) fun o=>By o.data f)=true):∃c od fd sl,K.lookup a=some ⟨c,od,.func fd,sl⟩/\f fd=true:=
 onO_e (P:=fun r=>∃c od fd sl,r=some ⟨c,od,.func fd,sl⟩/\f fd=true) h fun o h=>dFun_e (P:=fun d=>∃c od fd sl,some (JS o.cls o.dict d o.slots)=some ⟨c,od,.func fd,sl⟩/\f fd=true) h fun fd h=>⟨_,_,_,_,rfl,h⟩
def PN (x:List Nat) (v:Dk):Bool:=MZ v (dC x)
def OC (K:Frag) (x:List Nat):Option (Option Dk):=match K.lookup mainGlobals with
 |some ⟨_,_,.dict es _,_⟩=>(match es.toList.find? (fun e=>PN x e.key) with
   |some e=>some (some e.val)
   |none=>if es.toList.any (·.refKey) then none else some none)
 |_=>none
theorem tF (K:Frag) (x:List Nat):OC K x=nsIn K mainGlobals (aV x):=by
 have e:(fun e:EL=>PN x e.key)=fun e=>e.key.isStr (aV x):=funext fun e=>by
  cases e.key with
  |str y t=>
   show dC x y=(y==aV x)
   rw [E5,beq_iff_eq]
   constructor
   ·intro h;exact (bN h)
   ·intro h;subst h;exact cg.mpr (rfl)
  |_=>rfl
 unfold OC nsIn
 rw [e]
 rfl
def Se (K:Frag) (x:List Nat) (v:Dk):Bool:=jS (OC K x) fun o=>jS o (·==v)
def Ti (K:Frag):Bool:=TP.all fun p=>jS (OC K (kF p.1)) fun o=>jS o (LE p.2)
def CU (K:Frag) (x:List Nat):Bool:=jS (OC K x) LW
def NX (x:List Nat) (b:Dk):Bool:=jS (bootBuiltins (aV x)) (·==b)
def Ts (K:Frag):Bool:=Tj.all fun p=>match p.2 with
 |.fn f=>Se K p.1 (.ref (nK f))&&keepIn K (.ref (nK f))
 |.cl c=>Se K p.1 (.ref (ON c))&&keepIn K (.ref (ON c))
 |.bi b=>CU K p.1&&NX p.1 (B5 b)&&!(aV p.1=="__name__")
def w6 (a:Option (Option Dk)) (b:Option Dk):Bool:=jS a (·==b)
def SR (K:Frag) (a:Nat) (k:QM):Bool:=
 makesIn K a&&w6 (findIn K (.ref a) "__init__") (some (.ref (nK k.init)))&&isFn K (.ref (nK k.init))&&plainGet K a ""&&hasDictIn K a&&
 w6 (findIn K (.ref a) "__setattr__") (some (.builtin "object.__setattr__"))&&plainOver K a&&
 (k.ats.all fun x=>jS (findIn K (.ref a) (aV (kF x))) (noGet K)&&w6 (takerIn K a (aV (kF x))) none)&&
 k.mths.all fun p=>w6 (findIn K (.ref a) (aV (kF p.1))) (some (.ref (nK p.2)))&&isFn K (.ref (nK p.2))&&keepIn K (.ref (nK p.2))
def PW (sc:Ef) (fi:wN):Bool:=
 decide (sc.kind=.function)&&!sc.isCoroutine&&!sc.isGenerator&&(sc.names.all fun y=>!decide (y.2=.free))&&gE fi.ps&&gE fi.cells&&
 (fi.ps.all fun x=>jS (sc.names.lookup (aV (kF x))) fun k=>decide (k=.local)||decide (k=.cell))&&
 bA (fun x (n:Str×Du)=>dC (kF x) n.1) fi.cells (cellsFrom 0 sc.names [])&&
 (sc.names.all fun y=>!decide (y.2=.cell)||fi.cells.any fun c=>dC (kF c) y.1)&&
 fi.cells.all fun y=>jS (sc.names.lookup (aV (kF y))) fun k=>decide (k=.cell)
def B8 (P:IM) (ps:List Nat):Bool:=P.posonlyargs.isEmpty&&P.vararg.isNone&&P.kwonlyargs.isEmpty&&P.kwarg.isNone&&bA (fun x (a:Arg)=>dC (kF x) a.arg) ps P.args
def CW (K:Frag) (v:Dk) (df:List CV):Bool:=(y8 v&&df.isEmpty)||AU v fun T=>jS (K.lookup T) fun o=>yh o.data fun vs=>bA LE df vs.toList
def Tb (K:Frag) (a:Nat) (fi:wN):Bool:=jS (K.lookup a) fun o=>By o.data fun fd=>At fd.body fun body=>
 Dy fd.globals mainGlobals&&fd.closure.isEmpty&&Dy fd.builtins builtinsNs&&codeIn K fd.code fd.qualname&&eD kF QZ 60 fd.scope fi.body body&&PW fd.scope fi&&B8 fd.params fi.ps&&CW K fd.defaults fi.df&&Dn fi.df.length fi.ps.length
def Ov (c:CO) (f:List CV->Bool):Bool:=match c with
 |.tup l=>f l
 |_=>false
theorem Ml (h:Ov c f=true):∃l,c=.tup l/\f l=true:=by
 cases c<;>first|exact ⟨_,rfl,h⟩|exact absurd h Dq
def Tv (K:Frag):Bool:=Pc.all fun p=>Ov p.2 fun l=>jS (K.lookup p.1) fun o=>Ar o.cls "tuple"&&(o.dict.isNone&&(o.slots.isEmpty&&yh o.data fun vs=>bA LE l vs.toList))
def Mh (K:Frag) (ex:List Nat):Bool:=(F7 92).all fun f=>gS f ex||match zZ f with
 |some fi=>Tb K (nK f) fi
 |none=>false
def Oc (K:Frag):Bool:=(F7 5).all fun c=>match NL c with
 |some k=>SR K (ON c) k
 |none=>false
def eR (K:Frag):Bool:=Ti K&&Ts K&&Tv K&&Mh K []&&Oc K&&CU K [122,105,112]&&NX [122,105,112] (.type "zip")&&CU K [101,110,117,109,101,114,97,116,101]&&NX [101,110,117,109,101,114,97,116,101] (.type "enumerate")&&(K.lookup sysModules).isSome
noncomputable abbrev o6 (P:Du):List Dk:=[.ref P,.type "Exception",.type "BaseException",.type "object"]
def og (sc:Ef) (x:Str) (k:EW):Bool:=jS (sc.names.lookup x) fun j=>decide (j=k)
def Ss {α:Type} (l:List α) (f:α->α->α->Bool):Bool:=match l with|[x,y,z]=>f x y z|_=>false
def Th {α:Type} (l:List α) (f:α->α->α->α->Bool):Bool:=match l with|[x,y,z,w]=>f x y z w|_=>false
@[elab_as_elim] theorem on3_e {α:Type} {P:List α->Prop} {l:List α} {f:α->α->α->Bool} (h:Ss l f=true) (k:∀x y z,f x y z=true->P [x,y,z]):P l:=by
 rcases l with _|⟨x,_|⟨y,_|⟨z,_|⟨w,l⟩⟩⟩⟩<;>first|exact absurd h Dq|exact k _ _ _ h
@[elab_as_elim] theorem on4_e {α:Type} {P:List α->Prop} {l:List α} {f:α->α->α->α->Bool} (h:Th l f=true) (k:∀x y z w,f x y z w=true->P [x,y,z,w]):P l:=by
 rcases l with _|⟨x,_|⟨y,_|⟨z,_|⟨w,_|⟨v,l⟩⟩⟩⟩⟩<;>first|exact absurd h Dq|exact k _ _ _ _ h
def nA (e:Expr) (x:Str):Bool:=i7 e fun y=>y==x
@[elab_as_elim] theorem isNm_e {P:Expr->Prop} {e:Expr} {x:Str} (h:nA e x=true) (k:∀p,P (.Name x p)):P e:=onName_e h fun y p h=>by rw [beq_iff_eq.mp h];exact k p
def Nj (s:Ek) (x:Str):Bool:=mv s fun t e=>nA e x&&rP t fun v a Z0=>nA v "self"&&a==x
@[elab_as_elim] theorem asgB_e {P:Ek->Prop} {s:Ek} {x:Str} (h:Nj s x=true) (k:∀p p1 p2 p3,P (.Assign [.Attribute (.Name "self" p) x p1] (.Name x p2) p3)):P s:=
 onAsg_e h fun t e p3 h=>isNm_e (bL h) fun p2=>onAtt_e (bR h) fun v a p1 h=>by
  rw [beq_iff_eq.mp (bR h)]
  exact isNm_e (bL h) fun p=>k p p1 p2 p3
def yF (b:List Ek):Bool:=Ss b fun s1 s2 s3=>(yq s1 fun e=>qi e fun v a es=>nA v "Exception"&&a=="__init__"&&N5 es fun x y=>nA x "self"&&nA y "what")&&Nj s2 "what"&&Nj s3 "at"
@[elab_as_elim] theorem bodyB_e {P:List Ek->Prop} {b:List Ek} (h:yF b=true) (k:∀np ap pa pb pc pe p1 p2 p3 p4 q1 q2 q3 q4,Dy ap.endLine pc.line=true->
  P [.Expr (.Call (.Attribute (.Name "Exception" np) "__init__" ap) [.Name "self" pa,.Name "what" pb] [] pc) pe,.Assign [.Attribute (.Name "self" p1) "what" p2] (.Name "what" p3) p4,.Assign [.Attribute (.Name "self" q1) "at" q2] (.Name "at" q3) q4]):P b:=
 on3_e h fun s1 s2 s3 h=>asgB_e (bR (bL h)) fun p1 p2 p3 p4=>asgB_e (bR h) fun q1 q2 q3 q4=>onXpr_e (bL (bL h)) fun e pe h=>onCalA_e h fun v a ap es pc hp h=>by
  rw [beq_iff_eq.mp (bR (bL h))]
  exact isNm_e (bL (bL h)) fun np=>on2_e (bR h) fun x y h=>isNm_e (bL h) fun pa=>isNm_e (bR h) fun pb=>k _ _ _ _ _ _ _ _ _ _ _ _ _ _ hp
def CY (fd:HL):Bool:=At fd.body yF&&
 (og fd.scope "self" .local&&og fd.scope "what" .local&&og fd.scope "at" .local&&og fd.scope "Exception" .globalImplicit&&(fd.scope.names.all fun y=>!decide (y.2=.cell))&&
  decide (fd.scope.kind=.function)&&!fd.scope.isCoroutine&&!fd.scope.isGenerator&&Dy fd.globals mainGlobals&&fd.closure.isEmpty&&Dy fd.builtins builtinsNs&&
  fd.params.posonlyargs.isEmpty&&fd.params.vararg.isNone&&fd.params.kwonlyargs.isEmpty&&fd.params.kwarg.isNone&&(fd.params.args.map (·.arg)==(["self","what","at"]:List Str)))
def Op (K:Frag) (a:Du) (f:HL->Bool):Bool:=jS (K.lookup a) fun o=>Ar o.cls "function"&&By o.data f
theorem wU {K:Frag} {a:Du} {f:HL->Bool} (h:Op K a f=true):∃od fd sl,K.lookup a=some ⟨.type "function",od,.func fd,sl⟩/\f fd=true:=
 onO_e (P:=fun r=>∃od fd sl,r=some ⟨.type "function",od,.func fd,sl⟩/\f fd=true) h fun o h=>isTy_e (P:=fun c=>∃od fd sl,some (JS c o.dict o.data o.slots)=some ⟨.type "function",od,.func fd,sl⟩/\f fd=true) (bL h)
  (dFun_e (P:=fun d=>∃od fd sl,some (JS (.type "function") o.dict d o.slots)=some ⟨.type "function",od,.func fd,sl⟩/\f fd=true) (bR h) fun fd h=>⟨_,_,_,rfl,h⟩)
def Pk (K:Frag) (a:Du) (f:HK->List (Option Dk)->Bool):Bool:=jS (K.lookup a) fun o=>Ar o.cls "type"&&P3 o.data fun cd=>f cd o.slots.toList
theorem Df {K:Frag} {a:Du} {f:HK->List (Option Dk)->Bool} (h:Pk K a f=true):∃od cd sl,K.lookup a=some ⟨.type "type",od,.cls cd,⟨sl⟩⟩/\f cd sl=true:=
 onO_e (P:=fun r=>∃od cd sl,r=some ⟨.type "type",od,.cls cd,⟨sl⟩⟩/\f cd sl=true) h fun o h=>isTy_e (P:=fun c=>∃od cd sl,some (JS c o.dict o.data o.slots)=some ⟨.type "type",od,.cls cd,⟨sl⟩⟩/\f cd sl=true) (bL h)
  (dCls_e (P:=fun d=>∃od cd sl,some (JS (.type "type") o.dict d o.slots)=some ⟨.type "type",od,.cls cd,⟨sl⟩⟩/\f cd sl=true) (bR h) fun cd h=>⟨_,_,_,rfl,h⟩)
def OT (K:Frag) (v:Dk):Bool:=AU v fun T=>jS (K.lookup T) fun o=>yh o.data fun vs=>Dy vs.toList.length 1
def kf (K:Frag):Bool:=Op K 52 (fun fd=>CY fd&&codeIn K fd.code fd.qualname&&OT K fd.defaults)&&
 Pk K 99 (fun cd sl=>(cd.mro==.ref 99::o6 62)&&!cd.hasDel&&cd.hasDict&&Dy sl.length 6&&(sl.getD 4 none==some (.builtin "Exception.__new__")))&&
 w6 (findIn K (.ref 99) "__init__") (some (.ref 52))&&w6 (findIn K (.ref 99) "__setattr__") (some (.builtin "object.__setattr__"))&&w6 (takerIn K 99 "what") none&&w6 (takerIn K 99 "at") none&&
 w6 (nsIn K mainGlobals "RunFault") (some (.ref 99))&&w6 (nsIn K mainGlobals "Exception") none
inductive SP (K:Frag):Prop where
 |mk (od:Option Du) (cd:HK) (nm q:Str) (N:Du) (bs:List Dk) (hdct:Bool) (sn:List Str) (sub:List Dk) (ab:Bool) (col:Option Bool) (k0 k1 k2 k3 k5:Option Dk) (hcls:clsIn K 99=some cd) (hmro:cd.mro=.ref 99::o6 62) (hdi:cd.hasDict=true)
  (hC:K.lookup 99=some (excClassObj nm q 99 N bs (o6 62) hdct sn sub ab col od k0 k1 k2 k3 k5 "Exception.__new__"))
theorem qd {K:Frag} (h:kf K=true):SP K:=by
 refine jo (Df (bR (bL (bL (bL (bL (bL (bL h)))))))) fun od cd sl e h=>?_
 have h1:=beq_iff_eq.mp (bL (bL (bL (bL h))))
 have h2:cd.hasDel=false:=by have:=bR (bL (bL (bL h)));rwa [Ec] at this
 have h3:=bR (bL (bL h))
 have h5:sl.getD 4 none=some (.builtin "Exception.__new__"):=beq_iff_eq.mp (bR h)
 have h4:=Dz (bR (bL h))
 rcases sl with _|⟨k0,_|⟨k1,_|⟨k2,_|⟨k3,_|⟨k4,_|⟨k5,_|⟨_,_⟩⟩⟩⟩⟩⟩⟩<;>first|cases h4;done|skip
 have h5:k4=some (.builtin "Exception.__new__"):=h5
 subst h5
 have hc:clsIn K 99=some cd:=by unfold clsIn;rw [e]
 obtain ⟨nm,bs,mro,ns,qn,hd,sn,sub,ab,col,del⟩:=cd
 dsimp only at h1 h2 h3
 subst h1 h2
 exact ⟨od,_,nm,qn,ns,bs,hd,sn,sub,ab,col,k0,k1,k2,k3,k5,hc,rfl,h3,e⟩
def gF (K:Frag) (a:Du):Option (List Ek×Ef):=match K.lookup a with
 |some ⟨_,_,.func fd,_⟩=>match fd.body with
  |.stmts b=>some (b,fd.scope)
  |_=>none
 |_=>none
def Cq (s:Ek) (f:Expr->Bool):Bool:=if h:s.ctorIdx=16 then IC (motive_2:=fun Z0=>Bool) s h fun a b Z0=>b.isNone&&jS a f else false
@[elab_as_elim] theorem onRai_e {P:Ek->Prop} {s:Ek} {f:Expr->Bool} (h:Cq s f=true) (k:∀e p,f e=true->P (.Raise (some e) none p)):P s:=(dT (c:=s.ctorIdx=16) h).elim fun h2 h=>IC (motive_2:=fun s=>∀h2,IC (motive_2:=fun Z0=>Bool) s h2 (fun a b Z0=>b.isNone&&jS a f)=true->P s) s h2 (fun Z0 Z0 Z0 Z0 h=>isN_e (bL h) (onO_e (bR h) fun e h=>k e _ h)) h2 h
def BV (e:Expr):Bool:=rl e fun w=>match w with|.int _=>true|_=>false
@[elab_as_elim] theorem onInt_e {P:Expr->Prop} {e:Expr} (h:BV e=true) (k:∀z a p,P (.Constant (.int z) a p)):P e:=onCst_e h fun w a p h=>by cases w<;>first|exact absurd h Dq|exact k _ a p
def BU (e:Expr):Bool:=rl e fun w=>match w with|.none=>true|_=>false
@[elab_as_elim] theorem onNon_e {P:Expr->Prop} {e:Expr} (h:BU e=true) (k:∀a p,P (.Constant .none a p)):P e:=onCst_e h fun w a p h=>by cases w<;>first|exact absurd h Dq|exact k a p
def v6 (sc:Ef) (r:List Ek):Bool:=sP r fun s=>Cq s fun e=>iX e fun x es=>x=="RunFault"&&og sc "RunFault" .globalImplicit&&og sc "at" .local&&N5 es fun u v=>yc u (fun Z0=>true)&&oY v fun vs=>N5 vs fun i y=>BV i&&nA y "at"
@[elab_as_elim] theorem raiB_e {P:List Ek->Prop} {sc:Ef} {r:List Ek} (h:v6 sc r=true) (k:∀np wd wk wp z zk zp yp tkk tp cpos rp,og sc "RunFault" .globalImplicit=true->og sc "at" .local=true->
  P [.Raise (some (.Call (.Name "RunFault" np) [.Constant (.str wd) wk wp,.Tuple [.Constant (.int z) zk zp,.Name "at" yp] tkk tp] [] cpos)) none rp]):P r:=
 on1_e h fun s h=>onRai_e h fun e rp h=>onCalN_e h fun x np es cpos h=>by
  rw [beq_iff_eq.mp (bL (bL (bL h)))]
  exact on2_e (bR h) fun u v h'=>onStr_e (bL h') fun wd wk wp Z0=>onTup_e (bR h') fun vs tkk tp h'=>on2_e h' fun i y h'=>
   onInt_e (bL h') fun z zk zp=>isNm_e (bR h') fun yp=>k _ _ _ _ _ _ _ _ _ _ _ _ (bR (bL (bL h))) (bR (bL h))
def kM (K:Frag) (a:Du):Bool:=match gF K a with
 |some (b,sc)=>Ss b fun Z0 s Z0=>qN s fun Z0 Z0 b=>(match b with|s::Z1=>M6 s fun Z0 r Z0=>v6 sc r|[]=>false)
 |none=>false
theorem Dg {K:Frag} {a:Du} {b:List Ek} {sc:Ef} (h:kM K a=true) (e:gF K a=some (b,sc)):∃s1 t i tt r o p rest fp s3,b=[s1,.For t i (.If tt r o p::rest) [] fp,s3]/\v6 sc r=true:=by
 unfold kM at h
 rw [e] at h
 exact on3_e h fun x s y h=>onFor_e h fun t i b fp h=>by
  cases b with
  |nil=>exact absurd h Dq
  |cons s rest=>exact onIf_e h fun tt r o p h=>⟨_,_,_,_,_,_,_,_,_,_,rfl,h⟩
def isAnd (o:BoolOp):Bool:=match o with|.And=>true|.Or=>false
def zr (sc:Ef) (b:List Ek):Bool:=sP b fun s=>xd s fun o=>jS o fun e=>zu e fun op l=>isAnd op&&(N5 l fun c1 c2=>(u9 c1 fun a ops vs=>nA a "due"&&sP ops (fun o=>decide (o=.Is))&&sP vs BU)&&
  u9 c2 fun a ops vs=>(iX a fun f es=>f=="bytes"&&sP es fun m=>nA m "memory")&&sP ops (fun o=>decide (o=.Eq))&&sP vs fun v=>nA v "elder")&&og sc "due" .local&&og sc "bytes" .globalImplicit&&og sc "memory" .local&&og sc "elder" .local
@[elab_as_elim] theorem suiB_e {P:List Ek->Prop} {sc:Ef} {b:List Ek} (h:zr sc b=true) (k:∀dp nk np cp bp mp bc ep ec bo rp,og sc "due" .local=true->og sc "bytes" .globalImplicit=true->og sc "memory" .local=true->og sc "elder" .local=true->
  P [.Return (some (.BoolOp .And [.Compare (.Name "due" dp) [.Is] [.Constant .none nk np] cp,.Compare (.Call (.Name "bytes" bp) [.Name "memory" mp] [] bc) [.Eq] [.Name "elder" ep] ec] bo)) rp]):P b:=
 on1_e h fun s h=>onRet_e h fun o rp h=>onO_e h fun e h=>onBop_e h fun op l bo h=>by
  cases op with
  |Or=>exact absurd (bL (bL (bL (bL (bL h))))) Dq
  |And=>
   exact on2_e (bR (bL (bL (bL (bL h))))) fun c1 c2 h'=>onCmp_e (bL h') fun a ops vs cp g=>isNm_e (bL (bL g)) fun dp=>on1_e (bR (bL g)) fun o1 e1=>by
    rw [of_decide_eq_true e1]
    exact on1_e (bR g) fun v g=>onNon_e g fun nk np=>onCmp_e (bR h') fun a ops vs ec g=>onCalN_e (bL (bL g)) fun f bp es bc g'=>by
     rw [beq_iff_eq.mp (bL g')]
     exact on1_e (bR g') fun m g'=>isNm_e g' fun mp=>on1_e (bR (bL g)) fun o1 e1=>by
      rw [of_decide_eq_true e1]
      exact on1_e (bR g) fun v g=>isNm_e g fun ep=>k _ _ _ _ _ _ _ _ _ _ _ (bR (bL (bL (bL h)))) (bR (bL (bL h))) (bR (bL h)) (bR h)
def ND (sc:Ef) (l:List Jf):Bool:=sP l fun h=>match h with
 |.ExceptHandler t n b Z1=>n.isNone&&jS t (fun e=>nA e "RunFault")&&og sc "RunFault" .globalImplicit&&zr sc b
theorem L2 (h:ND sc l=true):∃xp sb hp,l=[.ExceptHandler (some (.Name "RunFault" xp)) none sb hp]/\og sc "RunFault" .globalImplicit=true/\zr sc sb=true:=
 on1_e h fun x h=>by
  obtain ⟨t,n,b,p⟩:=x
  exact isN_e (bL (bL (bL h))) (onO_e (bR (bL (bL h))) fun e g=>
   isNm_e g fun xp=>⟨xp,b,p,rfl,bR (bL h),bR h⟩)
def ri (K:Frag) (a:Du):Bool:=match gF K a with
 |some (b,sc)=>Th b fun Z0 Z0 s Z0=>x9 s fun Z0 h=>ND sc h
 |none=>false
theorem Na {K:Frag} {a:Du} {b:List Ek} {sc:Ef} (h:ri K a=true) (e:gF K a=some (b,sc)):∃s1 s2 tb hh tp s4,b=[s1,s2,.Try tb hh [] [] tp,s4]/\ND sc hh=true:=by
 unfold ri at h
 rw [e] at h
 exact on4_e h fun x y s z h=>onTry_e h fun tb hh tp h=>⟨_,_,_,_,_,_,rfl,h⟩
def tH (K:Frag):Bool:=Ti K&&Ts K&&Tv K&&Oc K&&CU K [122,105,112]&&NX [122,105,112] (.type "zip")&&CU K [101,110,117,109,101,114,97,116,101]&&NX [101,110,117,109,101,114,97,116,101] (.type "enumerate")&&(K.lookup sysModules).isSome&&kf K&&kM K (nK 68)&&ri K (nK 88)&&CU K [98,121,116,101,115]
def fg (K:Frag):Bool:=eR K&&kf K&&kM K (nK 68)&&ri K (nK 88)&&CU K [98,121,116,101,115]
def i6 (h:DI):Frag:=Sz.filterMap fun a=>(h.get? a).map fun o=>(a,o)
theorem xM {K:Frag} (h:Mh K []=true) (r:tH K=true):fg K=true:=by
 unfold tH at r
 unfold fg eR
 simp only [Dl] at r ⊢
 refine aD r fun zz5 b4=>?_
 obtain ⟨⟨⟨⟨⟨⟨⟨⟨⟨⟨⟨a1,a2⟩,a3⟩,a4⟩,a5⟩,a6⟩,a7⟩,a8⟩,a9⟩,b1⟩,b2⟩,b3⟩:=zz5
 exact ⟨⟨⟨⟨⟨⟨⟨⟨⟨⟨⟨⟨⟨a1,a2⟩,a3⟩,h⟩,a4⟩,a5⟩,a6⟩,a7⟩,a8⟩,a9⟩,b1⟩,b2⟩,b3⟩,b4⟩
def iY:List String:=["bytearray.__contains__","bytearray.__mod__","bytearray.__rmod__","_struct.pack_into.held","bytearray.find.held"]++HD
def nM:Code->Bool
 |.builtin id _=>!(iY.contains id)
 |_=>true
def Ow (J:Ctx):Prop:=∀x∈J.below,nM x.1=true
def aq {α:Type} (M:Ks) (A:E3) (t:Sem α) (Q:α->Dm->Prop) (E:Dk->Dm->Prop) (s:Dm):Prop:=
 ∀J p,J.In A->Ow J->nM J.code=true->Sem.wp M J t (fun a Z0 s'=>Q a s') (fun e Z0 s'=>E e s') p s
def bg (M:Ks) (A:E3) (c:Code) (R:Lj->Dm->Prop) (s:Dm):Prop:=
 ∀J p,J.code=c->J.Below A->Ow J->nM c=true->wpCode M J R p s
theorem nn (h:wpAny M A t Q E s):aq M A t Q E s:=fun J p i Z0 Z0=>h J p i
theorem ad (h:Q a s):aq M A (pure a) Q E s:=nn (Dx h)
theorem aC (h:aq M A t Q E s) (hQ:∀a s,Q a s->Q' a s) (hE:∀e s,E e s->E' e s):aq M A t Q' E' s:=
 fun J p i n k=>HY M J t (fun a Z0 s=>hQ a s) (fun e Z0 s=>hE e s) p s (h J p i n k)
theorem aa (h:aq M A m (fun a s'=>aq M A (f a) Q E s') E s):aq M A (m >>=f) Q E s:=fun J p i n k=>by
 rw [Sem.wp_bind']
 exact HY M J m (fun a p' s' h'=>h' J p' i n k) (fun Z0 Z0 Z0 h'=>h') p s (h J p i n k)
theorem af (h:aq M A m Q E s):aq M A (holding vs m) Q E s:=fun J p i n k=>by
 rw [Sem.wp_holding];exact h J p i n k
theorem d8 (h:aq M A m Q (fun e s'=>aq M A (k e) (fun Z0 s''=>E e s'') E s') s):aq M A (m.onRaise k) Q E s:=fun J p i n o=>by
 rw [Sem.wp_onRaise]
 exact HY M J m (fun Z0 Z0 Z0 h'=>h') (fun e p' s' h'=>h' J p' i n o) p s (h J p i n o)
theorem lM {m:Sem α} {Q:Except Dk α->Dm->Prop} (h:aq M A m (fun a=>Q (.ok a)) (fun e=>Q (.error e)) s):aq M A m.attempt Q E s:=fun J p i n k=>by
 rw [Sem.wp_attempt];exact h J p i n k
theorem iP (h:aq M A m Q E s):aq M A (operate vs m) Q E s:=fun J p i n k=>by
 rw [Sem.wp_operate];exact h J p i n k
theorem ak (h:Q () s):aq M A (standAt pos) Q E s:=nn (GM h)
theorem bW (e:m=pure a) (h:Q a s):aq M A m Q E s:=by subst e;exact ad h
theorem me (hc:bg M (A.mark h) c (fun r s'=>match r with|.ok f=>Q f s'|.error e=>E e s') s) (ok:nM c=true) (hnb:h≠some byPass):aq M A (PySem.run c h) Q E s:=
 fun J p i n k=>by
  rw [Sem.wp_run]
  exact hc _ p rfl (i.enter c h p hnb) (fun x hx=>by rcases Dv.mp hx with rfl|hx;exact k;exact n x hx) ok
theorem pO (hc:bg M A c (fun r s'=>match r with|.ok (.ret v)=>Q v s'|.ok _=>False|.error e=>E e s') s) (ok:nM c=true):aq M A (runValue c) Q E s:=fun J p i n k=>by
 rw [Sem.wp_runValue]
 refine hc _ p rfl (i.enter c none p (by intro x;cases x)) (fun x hx=>?_) ok
 rcases Dv.mp hx with rfl|hx
 ·exact k
 ·exact n x hx
theorem dy (hc:bg M A (.call f ⟨pos,kw⟩) (fun r s'=>match r with|.ok (.ret v)=>Q v s'|.ok _=>False|.error e=>E e s') s):aq M A (call f pos kw) Q E s:=pO hc rfl
theorem cM
  (h:aq M (A.under c) (M.den c) (fun fin s'=>match fin with|.done f=>R (.ok f) s'|.again c'=>c'.quiet=true/\nM c'=true/\bg M A c' R s') (fun e s'=>R (.error e) s') s):bg M A c R s:=fun J p hc i n k=>by
 rw [wpCode_iff_wp,hc]
 refine HY M J _ (fun fin p' s' h'=>?_) (fun Z0 Z0 Z0 h'=>h') p s (h J p (hc▸i.in) n (hc▸k))
 cases fin with
 |done f=>exact h'
 |again c'=>exact ⟨h'.1,h'.2.2 (J.goto c') p' rfl (i.goto c') n h'.2.1⟩
theorem iw (hq:c.quiet=true) (ok:nM c=true) (I:Nat->Dm->Prop)
  (turn:∀n s,I n s->aq M (A.under c) (M.den c) (fun fin s'=>match fin with|.done f=>R (.ok f) s'|.again c'=>(c'=c/\∃m,m<n/\I m s')\/(c'.quiet=true/\nM c'=true/\bg M A c' R s')) (fun e s'=>R (.error e) s') s)
  (n:Nat) (h:I n s):bg M A c R s:=by
 induction n using Nat.strongRecOn generalizing s with
 |ind n ih=>
  refine cM (aC (turn n s h) (fun fin s' hf=>?_) fun Z0 Z0 h'=>h')
  cases fin with
  |done f=>exact hf
  |again c'=>
   rcases hf with ⟨rfl,m,hm,hI⟩|hf
   ·exact ⟨hq,ok,ih m hm hI⟩
   ·exact hf
theorem gh (h:bg M A c R s) (hR:∀r s,R r s->R' r s):bg M A c R' s:=fun J p hc i n k=>wpCode_mono hR (h J p hc i n k)
theorem Af [Decidable c] (h:if c then aq M A a Q E s else aq M A b Q E s):aq M A (if c then a else b) Q E s:=by split<;>simp_all
theorem cS (hc:c=false) (h:aq M A b Q E s):aq M A (if c=true then a else b) Q E s:=by subst hc;exact h
theorem rK (hc:c=true) (h:aq M A a Q E s):aq M A (if c=true then a else b) Q E s:=by subst hc;exact h
def QB (p:E4) (w:FX) (n₀:Nat) (ann:Option Dk) (n:Nat):SharedT->Thread->Option SharedT:=
 Jb (motive:=fun Z0=>SharedT->Thread->Option SharedT) (fun Z0 Z0=>none) (fun Z0 ih s t=>match through t with
  |true=>some s
  |false=>match stepOk n₀ ann t with
   |false=>none
   |true=>match PySem.W.stepT (denote treeTable) p w s t with
    |none=>none
    |some r=>ih r.1 r.2) n
def RP (p:E4) (w:FX) (n₀:Nat) (ann:Option Dk) (n:Nat):SharedT->Thread->Option SharedT:=
 Jb (motive:=fun Z0=>SharedT->Thread->Option SharedT) (fun Z0 Z0=>none) (fun Z0 ih s t=>match through t with
  |true=>some s
  |false=>match PySem.W.Fast.tw6613529449190102663 n₀ ann t with
   |false=>none
   |true=>match PySem.W.Fast.tw10156331382660048174 (PySem.W.Fast.tw11892475500146522536 PySem.W.Fast.tw14364793385576792824) p w s t with
    |none=>none
    |some r=>ih r.1 r.2) n
theorem Ny:QB=RP:=by
 have e1:=PySem.W.Fast.te6613529449190102663
 have e2:=PySem.W.Fast.te10156331382660048174
 have e3:=PySem.W.Fast.te11892475500146522536
 have e4:=PySem.W.Fast.te14364793385576792824
 unfold QB RP
 rw [←e1,←e2,←e3,←e4]
theorem Ay:∀(n:Nat) {s s':SharedT} {t:Thread},QB p w n₀ ann n s t=some s'->topRun treeTable p w n₀ ann n s.abs t=some s'.abs:=by
 intro x0
 induction x0 with
 |zero=>
  intro _ _ _ h
  cases h
 |succ n ihh=>
  intro s s' t h
  have h:(match through t with
   |true=>some s
   |false=>match stepOk n₀ ann t with
    |false=>none
    |true=>match PySem.W.stepT (denote treeTable) p w s t with
     |none=>none
     |some r=>QB p w n₀ ann n r.1 r.2)=some s':=h
  unfold topRun
  cases ht:through t with
  |true=>rw [ht] at h;cases h;rfl
  |false=>
   rw [ht] at h
   have h:=h
   cases hk:stepOk n₀ ann t with
   |false=>rw [hk] at h;cases h
   |true=>
    rw [hk] at h
    have h:=h
    cases hs:PySem.W.stepT (denote treeTable) p w s t with
    |none=>rw [hs] at h;cases h
    |some r=>rw [hs] at h;rw [stepT_spec hs];exact ihh h
def zL (l:List Obj):BT:=(List.rec (motive:=fun Z0=>Nat->BT->BT) (fun Z0 t=>t) (fun o Z0 ih n t=>ih (n+1) (t.ins n o)) l:Nat->BT->BT) 0 .nil
def QS (w:FX) (os:Hp):SharedT:=⟨zL (boot_heap w.params).objs.toList,(boot_heap w.params).objs.size,(boot_heap w.params).life,#[],boot_drawn,boot_toks,os⟩
theorem tK
  (e:opening p=plainProg p.main.scope.names) (hN:Dn 600 N=true) (f:∀s,fenceModules? p s=some s)
  (size:∀w:FX,((boot_heap w.params).isNs mainGlobals,(boot_heap w.params).nsMap mainGlobals "__annotations__")=(true,ann))
  (tree:∀w:FX,absHeap (zL (boot_heap w.params).objs.toList) (boot_heap w.params).objs.size (boot_heap w.params).life=boot_heap w.params)
  (aj:∀(w:FX) (os:Hp),(QB p w (boot_heap w.params).objs.size ann N (QS w os) (topStub p)).map (fun s=>
   ((staticsOk (importedModules p.main.body) (boot_heap w.params) s.abs.heap&&namesBound p s.abs.heap&&gensDone s.abs&&laidKept (boot_heap w.params) s.abs.heap),openSeen q loose (importedModules p.main.body) Xt true s.abs,Yf s.abs))=some (true,openGood q loose,Ya w)):LeftO p q loose Xt Yf Ya N:=fun w=>by
 refine ay (Gq.mp (boot_open e hN f w)) fun zz2 e1 e2=>?_
 obtain ⟨h,gs,d,k,os⟩:=zz2
 obtain ⟨rfl,rfl,rfl,rfl⟩:h=boot_heap w.params/\gs=#[]/\d=boot_drawn/\k=boot_toks:=by simpa using e2
 refine ay (Gq.mp (aj w os)) fun sT h1 h2=>?_
 obtain ⟨l1,l2,l3⟩:_/\_/\_:=by simpa only [Jz] using h2
 obtain ⟨z1,z2⟩:_/\_:=by simpa only [Jz] using size w
 have r:=Ay _ h1
 have hs:(QS w os).abs=⟨boot_heap w.params,#[],boot_drawn,boot_toks,os⟩:=by
  unfold QS SharedT.abs
  rw [tree w]
 rw [hs] at r
 unfold openEnds
 rw [e1]
 show ((topFrom treeTable p w N _).map _)=_
 have t:topFrom treeTable p w N ⟨boot_heap w.params,#[],boot_drawn,boot_toks,os⟩=some sT.abs:=by
  unfold topFrom
  dsimp only
  rw [z1,z2,r]
  show (match staticsOk (importedModules p.main.body) (boot_heap w.params) sT.abs.heap&&namesBound p sT.abs.heap&&gensDone sT.abs&&laidKept (boot_heap w.params) sT.abs.heap with|true=>_|false=>_)=_
  rw [l1]
 rw [t]
 show some (_,_)=some (_,_)
 rw [l2,l3]
def pw:E4:=PySem.Challenge.pw_og0107_01
def pq:E4:=view pw [130]
def kG:List Str:=(pw.main.scope.names.map (·.1)).filter fun x=>!(x==(Eu "law"))
noncomputable abbrev rr:RowW:=HE.row.toRowW
def xt (s:Dm):Bool:=xlAt pq [] s&&recOk (RowW.records rr) s
theorem a1:opening pw=plainProg pw.main.scope.names:=by kernel_rfl
theorem a3:∀s,fenceModules? pw s=some s:=by intro s;kernel_rfl
theorem a4:∀w:FX,((boot_heap w.params).isNs mainGlobals,(boot_heap w.params).nsMap mainGlobals "__annotations__")=(true,some (.ref 6)):=by intro w;kernel_rfl
theorem a5:∀w:FX,absHeap (zL (boot_heap w.params).objs.toList) (boot_heap w.params).objs.size (boot_heap w.params).life=boot_heap w.params:=by intro w;kernel_rfl
noncomputable abbrev A3 (w:FX) (os:Hp):Option SharedT:=RP pw w (boot_heap w.params).objs.size (some (.ref 6)) 12000 (QS w os) (topStub pw)
def Mz (s:SharedT) (a:Nat):Option Obj:=cond (E1 a s.n) (alive ((s.tree.get a).getD default)) none
theorem AK (s:SharedT) (a:Nat):s.abs.heap.get? a=Mz s a:=by
 unfold Mz
 cases h:E1 a s.n with
 |false=>exact abs_get_none fun q=>Dq (h▸Dh q)
 |true=>
  cases e:s.tree.get a with
  |some o=>exact abs_get (D5 h) e
  |none=>
   show (absHeap s.tree s.n s.life).get? a=_
   unfold DI.get?
   rw [absHeap_at,if_pos (D5 h:a<s.n),e]
   exact rfl
def xX (s:SharedT):Frag:=Sz.filterMap fun a=>(Mz s a).map fun o=>(a,o)
theorem yN (s:SharedT):xX s=i6 s.abs.heap:=congrArg (fun g:Nat->Option Obj=>Sz.filterMap fun a=>(g a).map fun o=>(a,o)) (funext fun a=>(AK s a).symm)
theorem Vd:∀(w:FX) (os:Hp),(A3 w os).map (fun s=>
   ((staticsOk (importedModules pw.main.body) (boot_heap w.params) s.abs.heap&&namesBound pw s.abs.heap&&gensDone s.abs&&laidKept (boot_heap w.params) s.abs.heap),PySem.W.Fast.tw4187177175401517315 pq kG (importedModules pw.main.body) xt true s.abs))=some (true,openGood pq kG):=by
 intro w os
 kernel_rfl
theorem TX:∀(w:FX) (os:Hp),(A3 w os).map (fun s=>Mh (xX s) [])=some true:=by
 intro w os
 kernel_rfl
theorem UN:∀(w:FX) (os:Hp),(A3 w os).map (fun s=>tH (xX s))=some true:=by
 intro w os
 kernel_rfl
theorem a8 (w:FX) (os:Hp):(A3 w os).map (fun s=>
   ((staticsOk (importedModules pw.main.body) (boot_heap w.params) s.abs.heap&&namesBound pw s.abs.heap&&gensDone s.abs&&laidKept (boot_heap w.params) s.abs.heap),PySem.W.Fast.tw4187177175401517315 pq kG (importedModules pw.main.body) xt true s.abs,fg (i6 s.abs.heap)))=some (true,openGood pq kG,true):=by
 obtain ⟨s,e,h1⟩:=Gq.mp (Vd w os)
 have h2:=TX w os
 have h3:=UN w os
 rw [e] at h2 h3 ⊢
 simp only [Fi,Gf,Jz,yN] at h1 h2 h3 ⊢
 exact ⟨h1.1,h1.2,xM h2 h3⟩
theorem aB (h:aq M A m Q₁ E s) (k:∀a s₁,Q₁ a s₁->aq M A (f a) Q E s₁):aq M A (m >>=f) Q E s:=aa (aC h k fun Z0 Z0 x=>x)
theorem ju (h:Q [] s):aq M A (spliced (backTo pos (starEach [] env))) Q E s:=ad h
theorem jA
  (h:aq M A x (fun v s₁=>aq M A (spliced rest) (fun vs s₂=>Q (v::vs) s₂) E s₁) E s):aq M A (spliced ((false,x)::rest)) Q E s:=by
 rw [spliced]
 exact aB h fun v s₁ h₁=>aa (ad (aB (af h₁) fun vs s₂ h₂=>ad h₂))
theorem gK
  (h:aq M A (eval e env) (fun v s₁=>aq M A (spliced (backTo pos (starEach rest env))) (fun vs s₂=>Q (v::vs) s₂) E s₁) E s)
  (he:starEach (e::rest) env=(false,eval e env)::starEach rest env):aq M A (spliced (backTo pos (starEach (e::rest) env))) Q E s:=by
 rw [he]
 exact jA h
theorem fy
  (h:aq M A (spliced ((false,x)::rest)) (fun vs s'=>Q ⟨vs,[]⟩ s') E s):aq M A (evalArgs f true ((false,x)::rest) []) Q E s:=by
 exact aB h fun vs s' h'=>af (aa (ad (aa (ad (ad h')))))
theorem nY (h:Q ⟨[],[]⟩ s):aq M A (evalArgs f true [] []) Q E s:=nn (evalArgs_nil3 h)
theorem M4 (h:aq M A (eval l env) (fun a s₁=>aq M A (eval r env) (fun b s₂=>aq M A (binaryOp op a b) Q E s₂) E s₁) E s):aq M A (eval (.BinOp l op r pos) env) Q E s:=by
 rw [eval_BinOp]
 exact aB h fun a s₁ h₁=>aB (af h₁) fun b s₂ h₂=>aa (ak (iP h₂))
theorem zH (h:aq M A (eval x env) (fun v s₁=>aq M A (unaryOp op v) Q E s₁) E s):aq M A (eval (.UnaryOp op x pos) env) Q E s:=by
 rw [PyProof.Rows.eval_UnaryOp]
 exact aB h fun v s₁ h₁=>aa (ak (af h₁))
theorem Mu
  (h:aq M A (isTrue test env (eval test env)) (fun c s₂=>if c then aq M A (eval body env) Q E s₂ else aq M A (eval orelse env) Q E s₂) E s):aq M A (eval (.IfExp test body orelse pos) env) Q E s:=by
 rw [PyProof.Rows.eval_IfExp]
 refine aB h fun c s₂ h₂=>?_
 cases c<;>exact h₂
theorem lA (h:aq M A (eval e env) Q E s):aq M A (eval (.BoolOp op [e] pos) env) Q E s:=h
theorem lB
  (h:aq M A (eval e₁ env) (fun v s₁=>aq M A (truthy v) (fun c s₂=>if c=(op==.And) then aq M A (eval (.BoolOp op (e₂::rest) pos) env) Q E s₂ else Q v s₂) E s₁) E s):aq M A (eval (.BoolOp op (e₁::e₂::rest) pos) env) Q E s:=by
 show aq M A (do
  let v ←eval e₁ env
  standAt pos
  let c ←holding [v] (truthy v)
  match op,c with
  |.And,false|.Or,true=>pure v
  |Z1,Z2=>boolOp pos op (eval e₂ env::evalEach rest env)) Q E s
 refine aB h fun v s₁ h₁=>aa (ak (aB (af h₁) fun c s₂ h₂=>?_))
 cases op<;>cases c<;>first|exact h₂|exact ad h₂
theorem qT (h:aq M A (isTrue x env (eval x env)) (fun c s'=>Q (!c) s') E s):aq M A (isTrue (.UnaryOp .Not x pos) env whole) Q E s:=by
 rw [arm_isTrue_UnaryOp]
 exact aB h fun c s' h'=>ad h'
theorem lF (h:Q (op==.And) s):aq M A (isTrue (.BoolOp op [] pos) env whole) Q E s:=ad h
theorem lN
  (h:aq M A (isTrue x env (eval x env)) (fun c s'=>if c=(op==.And) then aq M A (isTrue (.BoolOp op rest pos) env whole) Q E s' else Q c s') E s):aq M A (isTrue (.BoolOp op (x::rest) pos) env whole) Q E s:=by
 show aq M A (do
  match op,←isTrue x env (eval x env) with
  |.And,false=>pure false
  |.Or,true=>pure true
  |Z1,Z2=>allTrue op rest env) Q E s
 refine aB h fun c s' h'=>?_
 cases op<;>cases c<;>first|exact h'|exact ad h'
theorem nT (h:aq M A whole (fun v s₁=>aq M A (truthy v) Q E s₁) E s) (he:isTrue e env whole=(do let v ←whole;standAt e.pos;holding [v] (truthy v))):aq M A (isTrue e env whole) Q E s:=by
 rw [he]
 exact aB h fun v s₁ h₁=>aa (ak (af h₁))
theorem iN (h:aq M A r (fun b s₁=>aq M A (compareOp op a b) Q E s₁) E s):aq M A (compareChain pos a [op] [r]) Q E s:=by
 show aq M A (do
  let rv ←holding [a] r
  standAt pos
  operate [a,rv] (compareOp op a rv)) Q E s
 exact aB (af h) fun b s₁ h₁=>aa (ak (iP h₁))
theorem rq
  (h:aq M A r (fun b s₁=>aq M A (compareOp op a b) (fun c s₂=>aq M A (truthy c) (fun t s₃=>if t then aq M A (compareChain pos b (op'::ops) (r'::rs)) Q E s₃ else Q c s₃) E s₂) E s₁) E s):
  aq M A (compareChain pos a (op::op'::ops) (r::r'::rs)) Q E s:=by
 show aq M A (do
  let rv ←holding [a] r
  standAt pos
  let c ←holding [a,rv] (compareOp op a rv)
  release [a,rv] [c]
  if ←holding [c,rv] (truthy c) then compareChain pos rv (op'::ops) (r'::rs) else pure c) Q E s
 refine aB (af h) fun b s₁ h₁=>aa (ak (aB (af h₁) fun c s₂ h₂=>aa (nn (Ha (aB (af h₂) fun t s₃ h₃=>?_)))))
 cases t with
 |false=>exact ad h₃
 |true=>exact h₃
theorem sw (h:aq M A r (fun b s₁=>aq M A (compareOp op a b) (fun c s₂=>aq M A (truthy c) Q E s₂) E s₁) E s):aq M A (testChain pos a [op] [r]) Q E s:=by
 show aq M A (do
  let rv ←holding [a] r
  standAt pos
  let c ←operate [a,rv] (compareOp op a rv)
  holding [c] (truthy c)) Q E s
 exact aB (af h) fun b s₁ h₁=>aa (ak (aB (iP h₁) fun c s₂ h₂=>af h₂))
theorem t4
  (h:aq M A r (fun b s₁=>aq M A (compareOp op a b) (fun c s₂=>aq M A (truthy c) (fun t s₃=>if t then aq M A (testChain pos b (op'::ops) (r'::rs)) Q E s₃ else Q false s₃) E s₂) E s₁) E s):
  aq M A (testChain pos a (op::op'::ops) (r::r'::rs)) Q E s:=by
 show aq M A (do
  let rv ←holding [a] r
  standAt pos
  let c ←holding [a,rv] (compareOp op a rv)
  release [a,rv] [c]
  if ←holding [c,rv] (truthy c) then testChain pos rv (op'::ops) (r'::rs) else pure false) Q E s
 refine aB (af h) fun b s₁ h₁=>aa (ak (aB (af h₁) fun c s₂ h₂=>aa (nn (Ha (aB (af h₂) fun t s₃ h₃=>?_)))))
 cases t with
 |false=>exact ad h₃
 |true=>exact h₃
theorem MR (h:aq M A (spliced (backTo pos (starEach elts env))) (fun vs s₁=>vs.length<=sizeLine/\Q (.ref s₁.heap.objs.size) {s₁ with heap:=s₁.heap.push {cls:=.type "tuple",data:=.seq vs.toArray}}) E s):
  aq M A (eval (.Tuple elts k pos) env) Q E s:=by
 rw [arm_eval_Tuple]
 exact aa (ak (aB h fun vs s₁ h₁=>nn (Fy h₁.2 (by show vs.toArray.size<=sizeLine;rw [DJ];exact h₁.1))))
theorem PF (h:aq M A (spliced (backTo pos (starEach elts env))) (fun vs s₁=>vs.length<=sizeLine/\Q (.ref s₁.heap.objs.size) {s₁ with heap:=s₁.heap.push {cls:=.type "list",data:=.seq vs.toArray}}) E s):
  aq M A (eval (.List elts pos) env) Q E s:=by
 rw [arm_eval_List]
 exact aa (ak (aB h fun vs s₁ h₁=>nn (Fy h₁.2 (by show vs.toArray.size<=sizeLine;rw [DJ];exact h₁.1))))
theorem zP {lower upper step:Option Expr} {p:Pos} {Q:Dk->Dm->Prop}
  (h:aq M A (evalPart lower env) (fun l s₁=>aq M A (evalPart upper env) (fun u s₂=>aq M A (evalPart step env) (fun st s₃=>
   Q (.ref s₃.heap.objs.size) {s₃ with heap:=s₃.heap.push {cls:=.type "slice",data:=.fields #[l,u,st]}}) E s₂) E s₁) E s):aq M A (eval (.Slice lower upper step p) env) Q E s:=by
 rw [arm_eval_Slice]
 exact aB h fun l s₁ h₁=>aB (af h₁) fun u s₂ h₂=>aB (af h₂) fun st s₃ h₃=>nn (Fy h₃)
theorem jI {id:Str} {p pos:Pos} {args:List Expr} {Q:Dk->Dm->Prop} (h:aq M A (eval (.Name id p) env) (fun f s₁=>aq M A (callWith pos f [] (backTo pos (starEach args env)) []) Q E s₁) E s):
  aq M A (eval (.Call (.Name id p) args [] pos) env) Q E s:=by
 exact aa h
theorem kX {f:Dk} {pos:Pos} {first:List Dk} {P:DI->Prop} {args:List (Bool×Sem Dk)} {Q:Dk->Dm->Prop} (hplain:args.any (·.1)=false)
  (hk:∀h,P h->∃k,(k=Lk.frame\/k=LC\/k=KO)/\Looks M h (keeperOf f) k)
  (h:aq M A (evalArgs f true args []) (fun a s₁=>P s₁.heap/\aq M A (call f (first++a.pos) a.kw) Q E s₁) E s):aq M A (callWith pos f first args []) Q E s:=by
 refine aB (af h) fun a s₁ h₁=>aa (ak (ay (hk _ h₁.1) fun k hk' L=>?_))
 rw [hplain,List.any_nil,Bool.or_false]
 refine aa (nn (L.here ?_))
 have tail:∀{t:Sem Dk},aq M A t Q E s₁->aq M A (t >>=fun r=>holding [r] point >>=fun Z0=>pure r) Q E s₁:=
  fun ht=>aB ht fun r s₂ hr=>aa (af (nn (LY (ad hr))))
 have marked (mk:Dk):aq M A (callMarked mk f (first++a.pos) a.kw) Q E s₁:=by
  intro J p i n o
  have:=h₁.2 J p i n o
  first
  |(rw [Sem.wp_keep];exact this)
  |exact this
 rcases hk' with rfl|rfl|rfl<;>dsimp only<;>first|exact tail h₁.2|(split<;>first|exact tail h₁.2|exact tail (marked _))
theorem mc (h:aq M A (eval e env) (fun v=>Q (.ret v)) E s):aq M A (exec (.Return (some e) pos) env) Q E s:=by
 rw [exec_Return_some]
 exact aa (ak (aB h fun v s' h'=>ad h'))
theorem Sv
  (h:aq M A (isTrue test env (eval test env)) (fun b s₂=>if b then aq M A (execs body env) Q E s₂ else aq M A (execs orelse env) Q E s₂) E s):aq M A (exec (.If test body orelse pos) env) Q E s:=by
 rw [exec_If]
 refine aa (ak (aB h fun b s₂ h₂=>?_))
 cases b<;>exact h₂
theorem fZ (h:Q .next s):aq M A (execs [] env) Q E s:=nn (wpAny_execs_nil h)
theorem bB {st:Ek} {rest:List Ek} {Q:Kt->Dm->Prop} (h:aq M A (exec st env) (fun f s'=>match f with|.next=>aq M A (execs rest env) Q E s'|f=>Q f s') E s):aq M A (execs (st::rest) env) Q E s:=by
 rw [execs_cons]
 refine aB h fun f s' h'=>?_
 cases f<;>first|exact h'|exact ad h'
theorem py (h:aq M A (eval value env) (fun v s₁=>aq M A (storeName env x v) (fun Z0=>Q .next) E s₁) E s)
  (hs:swapsWith value (some (.Name x pos')) pos.line env=pure false):aq M A (exec (.Assign [.Name x pos'] value pos) env) Q E s:=by
 rw [exec_Assign_Name env x pos' value pos hs]
 refine aa (ak (aB h fun v s₁ h₁=>aa (ak (aa ?_))))
 intro J p i n o
 rw [Sem.wp_bindName]
 exact (aC h₁ (fun Z0 Z0 q=>ad q) fun Z0 Z0 q=>q) J p i n o
theorem dv
  (h:aq M A (eval value env) (fun v s₁=>aq M A (assignAll v ((assignEach targets env).map (·.2))) (fun Z0=>Q .next) E s₁) E s)
  (hs:swapsWithSole targets value pos.line env=pure false) (hw:swappedStores targets value env=pure none):aq M A (exec (.Assign targets value pos) env) Q E s:=by
 rw [J7]
 refine aa (ak ?_)
 rw [hs]
 refine aa (ad ?_)
 rw [if_neg (by decide)]
 refine aB h fun v s₁ h₁=>?_
 rw [hw]
 exact aa (ad (aB h₁ fun Z0 Z0 x=>ad x))
theorem Cm (h:aq (model prog w) A (eval e env) (fun Z0=>Q .next) E s) (hi:interactive env=false) (hs:swapsWith e none pos.line env=pure false):aq (model prog w) A (exec (.Expr e pos) env) Q E s:=by
 rw [exec_Expr env e pos hi hs]
 exact aa (ak (aB h fun v s' h'=>nn (wpAny_dropValue h')))
theorem vD (hc:bg (model prog w) A c (fun r s'=>match r with|.ok f=>Q f s'|.error _=>False) s) (ok:nM c=true):aq (model prog w) A (runOwn c env) Q E s:=by
 exact d8 (aC (me (E:=fun Z0 Z0=>False) (h:=none) hc ok (by intro x;cases x)) (fun Z0 Z0 q=>q) fun Z0 Z0 q=>q.elim)
theorem C2
  (h:aq (model prog w) A (eval iter env) (fun x s₁=>aq (model prog w) A (pyIter x) (fun it s₂=>bg (model prog w) A (.forLoop target it body orelse env) (fun r s'=>match r with|.ok f=>Q f s'|.error _=>False) s₂) E s₁) E s)
  (hs:∀x,foldedSetIterable iter env x=pure x):aq (model prog w) A (exec (.For target iter body orelse pos) env) Q E s:=by
 rw [exec_For]
 refine aa (ak (aB h fun x s₁ h₁=>aa (bW (hs x) (aa (ak (aB (af h₁) fun it s₂ h₂=>vD h₂ rfl))))))
theorem ie (h:aq (model prog w) A m Q (fun Z0 Z0=>False) s):aq (model prog w) A (m.onRaise k) Q E s:=
 d8 (aC h (fun Z0 Z0 q=>q) fun Z0 Z0 q=>q.elim)
theorem xl (h:aq (model prog w) A (execs stmts env) (fun f s'=>R (.ok f) s') (fun Z0 Z0=>False) s):bg (model prog w) A (.block stmts env) R s:=by
 exact cM (aB (ie h) fun f s' h'=>ad h')
theorem yV (I:Nat->Dm->Prop)
  (turn:∀n s,I n s->aq (model prog w) A (pyNext it) (fun r s₁=>match r with
   |none=>R (.ok .next) s₁
   |some v=>aq (model prog w) A (letOwnedTupleGo target it v) (fun Z0 s₁'=>aq (model prog w) A (assign target env v) (fun Z0 s₂=>aq (model prog w) A (execs body env) (fun f s₃=>match f with
      |.next|.cont=>∃m,m<n/\I m s₃
      |.brk=>R (.ok .next) s₃
      |.ret v=>R (.ok (.ret v)) s₃) (fun Z0 Z0=>False) s₂) (fun Z0 Z0=>False) s₁') (fun Z0 Z0=>False) s₁) (fun Z0 Z0=>False) s)
  (n:Nat) (h:I n s):bg (model prog w) A (.forLoop target it body [] env) R s:=by
 refine iw rfl rfl I (fun n s hI=>?_) n h
 show aq _ A ((forTurn target it body [] env).onRaise (fun x=>do noteFrame x env;theTreesLotGoes x)) _ _ s
 refine ie ?_
 rw [forTurn]
 refine aa (ak (aB (ie (turn n s hI)) fun r s₁ h₁=>?_))
 cases r with
 |none=>exact ad (.inr ⟨rfl,rfl,xl (fZ h₁)⟩)
 |some v=>
  refine aB h₁ fun Z0 s₁' h₁'=>aB h₁' fun Z0 s₂ h₂=>aB h₂ fun f s₃ h₃=>?_
  cases f with
  |next=>exact ad (.inl ⟨rfl,h₃⟩)
  |cont=>exact ad (.inl ⟨rfl,h₃⟩)
  |brk=>exact ad h₃
  |ret v=>exact ad h₃
theorem wg (I:Nat->Dm->Prop)
  (turn:∀n s,I n s->aq (model prog w) A (pyNext it) (fun r s₁=>match r with
   |none=>R (.ok .next) s₁
   |some v=>aq (model prog w) A (letOwnedTupleGo target it v) (fun Z0 s₁'=>aq (model prog w) A (assign target env v) (fun Z0 s₂=>
     aq (model prog w) A (forIn ifs true fun c r=>if r=true then do let ok ←isTrue c env (eval c env);pure (Eh ok) else pure (Eh r)) (fun ok s₃=>
      if ok=true then aq (model prog w) A (eval elt env) (fun x s₄=>
       aq (model prog w) A (call (.builtin "list.append") [acc,x]) (fun Z0 s₅=>∃m,m<n/\I m s₅) (fun Z0 Z0=>False) s₄) (fun Z0 Z0=>False) s₃
      else ∃m,m<n/\I m s₃) (fun Z0 Z0=>False) s₂) (fun Z0 Z0=>False) s₁') (fun Z0 Z0=>False) s₁) (fun Z0 Z0=>False) s)
  (n:Nat) (h:I n s):bg (model prog w) A (.compLoop (.ListComp elt [⟨target,iter,ifs,0⟩] scope pos) 0 it acc env) R s:=by
 refine iw rfl rfl I (fun n s hI=>?_) n h
 show aq _ A ((compTurn (.ListComp elt [⟨target,iter,ifs,0⟩] scope pos) 0 it acc env).onRaise (fun x=>do noteFrame x env;theTreesLotGoes x)) _ _ s
 refine ie ?_
 rw [compTurn_list]
 refine aa (ak (aB (turn n s hI) fun r s₁ h₁=>?_))
 cases r with
 |none=>exact ad h₁
 |some v=>
  refine aB h₁ fun Z0 s₁' h₁=>aB h₁ fun Z0 s₂ h₂=>aB h₂ fun ok s₃ h₃=>?_
  cases ok with
  |true=>exact aa (aB h₃ fun x s₄ h₄=>aB h₄ fun Z0 s₅ h₅=>ad (ad (.inl ⟨rfl,h₅⟩)))
  |false=>exact ad (.inl ⟨rfl,h₃⟩)
theorem tx
  (h0:bg (model prog w) A (.compLoop (.ListComp elt [⟨target,iter,ifs,0⟩] scope pos) 0 it acc env) R s)
  (h:aq (model prog w) A (pyIter it) (fun it' s'=>bg (model prog w) A (.compLoop (.ListComp elt [⟨target,iter,ifs,0⟩] scope pos) 0 it' acc env) R s') (fun Z0 Z0=>False) s):
  bg (model prog w) A (.compStart (.ListComp elt [⟨target,iter,ifs,0⟩] scope pos) 0 it acc env) R s:=by
 walk_at "j"
 show aq _ _ ((compStart (.ListComp elt [⟨target,iter,ifs,0⟩] scope pos) 0 it acc env).onRaise (fun x=>do noteFrame x env;standAt theWindowsPlace)) _ _ s
 refine ie (aa (nn (wpAny_askSetting (Af ?_))))
 split
 ·first
   |exact ad ⟨rfl,rfl,h0⟩
   |exact aa (ad (ad ⟨rfl,rfl,h0⟩))
 ·exact aa (nn (Gg (aa (ak (aB h fun it' s' h'=>ad ⟨rfl,rfl,h'⟩)))))
theorem t6
  (h:aq M A (eval e₁ env) (fun v s₁=>aq M A (truthy v) (fun c s₂=>if c then Q v s₂ else aq M A (eval (.BoolOp .Or (e₂::rest) pos) env) Q E s₂) E s₁) E s):aq M A (eval (.BoolOp .Or (e₁::e₂::rest) pos) env) Q E s:=
 lB (aC h (fun v s₁ h₁=>aC h₁ (fun c s₂ h₂=>by cases c<;>exact h₂) fun Z0 Z0 x=>x) fun Z0 Z0 x=>x)
theorem lI
  (h:aq M A (eval e₁ env) (fun v s₁=>aq M A (truthy v) (fun c s₂=>if c then aq M A (eval (.BoolOp .And (e₂::rest) pos) env) Q E s₂ else Q v s₂) E s₁) E s):aq M A (eval (.BoolOp .And (e₁::e₂::rest) pos) env) Q E s:=
 lB (aC h (fun v s₁ h₁=>aC h₁ (fun c s₂ h₂=>by cases c<;>exact h₂) fun Z0 Z0 x=>x) fun Z0 Z0 x=>x)
theorem sL
  (h:aq M A (isTrue x env (eval x env)) (fun c s'=>if c then Q true s' else aq M A (isTrue (.BoolOp .Or rest pos) env whole) Q E s') E s):aq M A (isTrue (.BoolOp .Or (x::rest) pos) env whole) Q E s:=
 lN (aC h (fun c s₁ h₁=>by cases c<;>exact h₁) fun Z0 Z0 x=>x)
theorem ra
  (h:aq M A (isTrue x env (eval x env)) (fun c s'=>if c then aq M A (isTrue (.BoolOp .And rest pos) env whole) Q E s' else Q false s') E s):aq M A (isTrue (.BoolOp .And (x::rest) pos) env whole) Q E s:=
 lN (aC h (fun c s₁ h₁=>by cases c<;>exact h₁) fun Z0 Z0 x=>x)
theorem t7 (h:Q [] s):aq (model prog w) A (evalPairs (pairTrees [] [] env pos)) Q E s:=nn (pairTrees_nil_walk h)
theorem rx
  (h:aq (model prog w) A (eval k env) (fun kv s₁=>aq (model prog w) A (eval v env) (fun vv s₂=>aq (model prog w) A (evalPairs (pairTrees ks vs env pos)) (fun r s₃=>Q ((kv,vv)::r) s₃) E s₂) E s₁) E s):
  aq (model prog w) A (evalPairs (pairTrees (some k::ks) (v::vs) env pos)) Q E s:=by
 show aq _ A (evalPairs ((eval k env,do let x ←eval v env;standAt pos;pure x)::pairTrees ks vs env pos)) Q E s
 rw [evalPairs]
 exact aB h fun kv s₁ h₁=>aa (af (aB h₁ fun vv s₂ h₂=>aa (ak (ad (aa (af (aC h₂ (fun vs s₃ h₃=>ad h₃) fun Z0 Z0 e=>e)))))))
theorem nr (h:aq (model prog w) A (evalPairs iA) Q E s):
  aq (model prog w) A (evalPairs iA) (fun vs s'=>vs.length=iA.length/\Q vs s') E s:=
 fun J p i n k=>wp_evalPairs_len _ J iA _ _ p s (h J p i n k)
theorem PC {K:Type} [DecidableEq K] {knd:KeyKind prog w K} {keys:List (Option Expr)} {values:List Expr} {pos:Pos} {Q:Dk->Dm->Prop}
  (hall:keys.all (·.isSome)=true) (hl:keys.length=values.length) (h0:keys≠[]) (hlen:keys.length<=15)
  (h:aq (model prog w) A (evalPairs (pairTrees keys values env pos)) (fun vs s₁=>∃kvs,Carries knd vs kvs/\s₁.heap.DictOf knd s.heap.objs.size []/\
   ∀h',h'.DictOf knd s.heap.objs.size (merged [] kvs)->Er s.heap.objs.size s₁.heap h'->Q (.ref s.heap.objs.size) (aQ s₁ h' (s₁.toks+vs.length))) E
   {s with heap:=s.heap.push {cls:=.type "dict",data:=.dict #[]}}):
  aq (model prog w) A (eval (.Dict keys values pos) env) Q E s:=by
 have hn:=pairTrees_length keys values env pos hall hl
 rw [arm_eval_Dict,zip_pairTrees keys values env pos hall hl,dictDisplay_pairs _ (fun he=>by
  rw [he] at hn
  exact h0 (J4.mp hn.symm)) (by lia)]
 refine aa (ak (aa (aa (nn (wpAny_alloc (aa (af ?_)))))))
 rw [if_pos (by rw [hn];exact hlen)]
 refine aB (nr h) fun vs s₁ h₁=>?_
 obtain ⟨hvl,kvs,hc,hm,hQ⟩:=h₁
 have hsz:([]:List (K×Dk)).length+kvs.length<=sizeLine:=by
  have e:=hc.length
  rw [LZ,Ew];lia
 refine af (aa (nn (wpAny_storeAll (knd:=knd) vs kvs [] s₁ _ hc hm hsz fun h' hm' hs'=>ad (ad (ad (hQ h' hm' hs'))))))
theorem bP {id:String} {args:Args} {b:D1} (hq:(Code.builtin id args).quiet=true) (ok:nM (.builtin id args)=true) (hb:entryFor table id=some b)
  (h:aq (model prog w) A.in1 (checkBuiltinCall id args) (fun Z0 s₁=>aq (model prog w) (A.under (.builtin id args)) (b args)
   (fun fin s'=>match fin with|.done f=>R (.ok f) s'|.again c'=>c'.quiet=true/\nM c'=true/\bg (model prog w) A c' R s') (fun e s'=>R (.error e) s') s₁)
   (fun e s'=>R (.error e) s') s):bg (model prog w) A (.call (.builtin id) args) R s:=by
 walk_at "j"
 show aq _ A.in1 (do checkBuiltinCall id args;again (.builtin id args)) _ _ s
 refine aa (aC h (fun Z0 s₁ h₁=>ad (Ic hq (Ic ok (cM ?_)))) fun Z0 Z0 h'=>h')
 show aq _ _ (match entryFor table id with|some b=>b args|none=>unsupported ((withoutEnding? id "#data").getD id)) _ _ s₁
 rw [hb];exact h₁
theorem Om {C:Du} {h:DI} {g:Array GenState} {d:Drawn} {t:Nat} {os:Hp} {rest:List Dk} {kw:List (Str×Dk)} {init:Dk} (Y:Makes (model prog w) h C) (hi:Looks (model prog w) h (typeLookup (.ref C) "__init__") (some init))
  (hb:∀self,Looks (model prog w) h (bindSpecial init self) (init,[self])) (hne:(some init != some (Dk.builtin "object.__init__"))=true)
  (hq:bg (model prog w) (A.under (.builtin "type.__call__" ⟨.ref C::rest,kw⟩)) (.call init ⟨.ref (h.objs.size+1)::rest,kw⟩) (InitBack (h.objs.size+1) R) ⟨(h.push emptyDict).push (instObj C h.objs.size),g,d,t,os⟩):
  bg (model prog w) A (.call (.ref C) ⟨rest,kw⟩) R ⟨h,g,d,t,os⟩:=by
 have Y':=Y
 obtain ⟨⟨oc,od,cd,sl,hC,e1,e2,e4⟩,made,base,self,top,call,typ⟩:=Y
 refine cM (nn (nd_load hC ?_))
 show wpAny _ _ (callAny.viaDunder (.ref C) _) _ _ _
 refine Dj (call.at ?_)
 dsimp only
 rw [tc_bind]
 refine Dj (Dx (Dj (Dx (Dx (a:=Fin.again (.call (.builtin "type.__call__") ⟨.ref C::rest,kw⟩)) (Ic rfl (Ic rfl ?_))))))
 refine bP (GR _ (by decide+kernel)) (show nM (.builtin "type.__call__" _)=true by show (!(iY.contains "type.__call__"))=true;decide+kernel) entry_typeCall (nn (check_slot tc_kind tc_split typ (tc_args _ _ _) ?_))
 have hm:Looks (model prog w) h (mroOf (.ref C)) cd.mro:=((Looks.ld (part:=none) hC).andThen .now).andThen .now
 refine aa (m:=mroOf (.ref C)) (nn (hm.at (cS (c:=cd.mro.isEmpty) e4 (aa (nn (made.at (aa (ad (aa (af (nn (Ji (new_K Y' hi (.inl hne) ?_)))))))))))))
 have k:∀b o,h.get? b=some o->((h.push emptyDict).push (instObj C h.objs.size)).get? b=some o:=fun b o e=>Dt _ (Dt _ e)
 have t1:Looks (model prog w) ((h.push emptyDict).push (instObj C h.objs.size)) (typeOf (.ref (h.objs.size+1))) (.ref C):=(Looks.ld (by heap_get:((h.push emptyDict).push (instObj C h.objs.size)).get? (h.objs.size+1)=some (instObj C h.objs.size))).andThen .now
 have i1:Looks (model prog w) ((h.push emptyDict).push (instObj C h.objs.size)) (specialOf (.ref (h.objs.size+1)) "__init__") (some init):=t1.andThen (hi.keeps k)
 have b1:=(hb (.ref (h.objs.size+1))).keeps k
 refine aa (nn ((show Looks (model prog w) ((h.push emptyDict).push (instObj C h.objs.size)) (isInstance (.ref (h.objs.size+1)) (.ref C)) true from t1.andThen (self.keeps k)).at (aa (af (aa (nn (i1.at (af (aa (nn (b1.at (aa (dy (gh hq fun r s' z=>?_))))))))))))))
 rcases r with e|(v|_|_|_)<;>first|exact z|exact z.elim|skip
 obtain ⟨rfl,z⟩:=z
 exact ad (ad z)
section
variable {K:Frag} {C:Du} {h₀:DI} {L:Du}
theorem xO (F:Fr h₀ L s.heap m) (X₀:K.In h₀) (N:HM h₀ L s.heap news) (hm:makesIn K C=true) (hi:findIn K (.ref C) "__init__"=some (some (.ref fI))) (hf:isFn K (.ref fI)=true)
  (h:∀x dx h',Fr h₀ L h' m->HM h₀ L h' ((x,instObj C dx)::(dx,dictOf [] 0)::news)->(∀p∈news,p.1<dx)->dx<x->
   bg (model prog w) (A.under (.builtin "type.__call__" ⟨.ref C::pos,kw⟩)) (.call (.ref fI) ⟨.ref x::pos,kw⟩) (InitBack x fun r s'=>match r with|.ok (.ret v)=>Q v s'|.ok _=>False|.error e=>E e s') {s with heap:=h'}):
  aq (model prog w) A (JA (.ref C) pos kw) Q E s:=by
 refine dy ?_
 have X:=X₀.keeps F.keep
 obtain ⟨hh,g,d,t,os⟩:=s
 refine Om (makes_of X hm) (looks_findIn X hi) (fun self=>bind_fn X self (beq_iff_eq.mp hf)) rfl (h _ hh.objs.size _ ((F.push _).push _) ?_ (fun p hp=>DT (N p hp).1) (En _))
 have:=(N.push F emptyDict).push (F.push _) (instObj C hh.objs.size)
 rwa [JI] at this
end
theorem sF (h:aq M A (isTrue c env (eval c env)) Q E s):
  aq M A (forIn [c] true fun c r=>if r=true then do let ok ←isTrue c env (eval c env);pure (Eh ok) else pure (Eh r)) Q E s:=by
 rw [LQ]
 simp only [if_true,bind_assoc,pure_bind,List.forIn_nil]
 simpa using h
def kY (M:Ks) (A:E3) (E:Dk->Dm->Prop) (use:Option (Dk->Sem Unit)) (Q:Dk->Dm->Prop) (acc:Dk) (C:Du) (r:Lj) (s':Dm):Prop:=
 match r,use with
 |.ok _,none=>∃m,s'.heap.Ns C m/\∀h',Er C s'.heap h'->Q acc {s' with heap:=h'}
 |.ok _,some u=>aq M A (u acc) (fun Z0 s''=>∃m,s''.heap.Ns C m/\∀h',Er C s''.heap h'->Q .none {s'' with heap:=h'}) E s'
 |.error _,_=>False
theorem xZ [Decidable c] (h:aq M A (k ()) Q E s):aq M A (if c then (standAt pos >>=k) else k ()) Q E s:=by
 split
 ·exact aa (ak h)
 ·exact h
theorem mK
  (hcl:clausesOf e=g::gs) (hs:∀x,foldedSetIterable g.iter env x=pure x) (hclos:closureFor scope env=pure cl)
  (hkind:scope.kind=.function) (hnames:∀x∈scope.names,x.2=.local->scope.names.lookup x.1=some .local)
  (h:aq M A first (fun x s₁=>aq M A (pyIter x) (fun it s₂=>aq M A newAcc (fun acc s₃=>
   aq M A (newFunctionEnv scope env.globals cl [] env.qual none .none (some env)) (fun cenv s₄=>
    bg M A (.compStart e 0 it acc {cenv with scope:=relabel scope env}) (kY M A E use Q acc cenv.locals) s₄) E s₃) E s₂) E s₁) E s):
  aq M A (comprehension e scope env pos newAcc false first use) Q E s:=by
 unfold comprehension
 rw [hclos,hcl]
 refine aB h fun x s₁ h₁=>aa (ak (aa (bW (hs x) (aa (af (aC h₁ (fun it s₂ h₂=>?_) fun Z0 Z0 h'=>h'))))))
 refine xZ (aB h₂ fun acc s₃ h₃=>aa (ad (aB h₃ fun cenv s₄ h₄=>?_)))
 have hv:∀x∈(scope.names.filter fun x=>(x.2==.local||x.2==.cell)&&x.1 != (".0":Str)).reverse,x.2=.local->
   Env.kindOf {cenv with scope:=relabel scope env} x.1=some .local:=fun x hx hl=>lookup_relabel_local (hnames x (Jo.mp (Hc.mp hx)).1 hl)
 have hv':∀x∈(scope.names.filter fun x=>(x.2==.local||x.2==.cell)&&x.1 != (".0":Str)).reverse.drop 1++(scope.names.filter fun x=>(x.2==.local||x.2==.cell)&&x.1 != (".0":Str)).reverse.take 1,
   x.2=.local->Env.kindOf {cenv with scope:=relabel scope env} x.1=some .local:=fun x hx hl=>by
  rcases DL.mp hx with h1|h1
  ·exact hv x (HO h1) hl
  ·exact hv x (HP h1) hl
 refine af (aa (lM (af (me (gh h₄ fun r s' hr=>?_) rfl (by intro z;cases z)))))
 cases r with
 |ok f=>
  cases use with
  |none=>
   exact ay hr fun m hn hr=>aa (af (nn (wpAny_comp_letGo (cenv:={cenv with scope:=relabel scope env}) hkind _ s' m hv hn fun h' m' Z0 hs'=>ad (hr h' hs'))))
  |some u=>
   exact aa (nn (Gg (aB (af hr) fun Z0 s'' hr'=>ay hr' fun m hn hr'=>aa (nn (wpAny_comp_letGo (cenv:={cenv with scope:=relabel scope env}) hkind _ s'' m hv' hn fun h' m' Z0 hs'=>ad (hr' h' hs'))))))
 |error x=>cases use<;>exact hr.elim
theorem NH
  (h:bg (model prog w) A (.whileLoop test body orelse env) (fun r s'=>match r with|.ok f=>Q f s'|.error _=>False) s):
  aq (model prog w) A (exec (.While test body orelse pos) env) Q E s:=by
 rw [exec_While];exact aa (ak (vD h rfl))
theorem tG (I:Nat->Dm->Prop)
  (turn:∀n s,I n s->
   aq (model prog w) A (isTrue test env (eval test env)) (fun b s₂=>
    if b then aq (model prog w) A (execs body env) (fun f s₃=>match f with
      |.next|.cont=>∃m,m<n/\I m s₃
      |.brk=>R (.ok .next) s₃
      |.ret v=>R (.ok (.ret v)) s₃) (fun Z0 Z0=>False) s₂
    else aq (model prog w) A (execs orelse env) (fun f s₃=>R (.ok f) s₃) (fun Z0 Z0=>False) s₂) (fun Z0 Z0=>False) s)
  (n:Nat) (h:I n s):bg (model prog w) A (.whileLoop test body orelse env) R s:=by
 refine iw rfl rfl I (fun n s hI=>?_) n h
 show aq _ A ((whileTurn test body orelse env).onRaise (fun x=>do noteFrame x env;theTreesLotGoes x)) _ _ s
 refine ie ?_
 rw [whileTurn]
 refine aB (turn n s hI) fun b s₂ h₂=>?_
 cases b with
 |false=>
  exact aB (m:=execs orelse env) h₂ fun f s₃ h₃=>ad h₃
 |true=>
  refine aB (m:=execs body env) h₂ fun f s₃ h₃=>?_
  cases f with
  |next=>exact ad (.inl ⟨rfl,h₃⟩)
  |cont=>exact ad (.inl ⟨rfl,h₃⟩)
  |brk=>exact ad h₃
  |ret v=>exact ad h₃
theorem xr
  (h:aq (model prog w) (A.deeper env) (execs body env) (fun f s'=>R (.ok (.ret (match f with|.ret v=>v|_=>.none))) s')
   (fun e s'=>aq (model prog w) (A.deeper env) (leaving env e) (fun Z0 s''=>R (.error e) s'') (fun e' s''=>R (.error e') s'') s') s):
  bg (model prog w) A (.func body env) R s:=by
 walk_at "j"
 show aq _ (A.deeper env) (do point;match ←(execs body env).onRaise (leaving env) with|.ret v=>ret v|_=>ret .none) _ _ s
 refine aa (nn (LY (aa (d8 (aC h (fun f s' h'=>?_) fun Z0 Z0 h'=>h')))))
 cases f<;>exact ad h'
theorem qb (hroom:A.depth<recursionLimit)
  (ho:s.heap.get? a=some o)
  (hd':o.data=.func fd) (hco:fd.scope.isCoroutine=false) (hgen:fd.scope.isGenerator=false) (hbody:fd.body=.stmts body) (hcd:s.heap.CodeRec fd.code fd.qualname)
  (h:wpAny (model prog w) A.in1 (bindArgs fd args) (fun binds s₁=>
   wpAny (model prog w) A.in1 (newFunctionEnv fd.scope fd.globals fd.closure binds (fd.qualname++".<locals>.") (some a) fd.code none fd.builtins)
    (fun env s₂=>s₂.heap.NoLimit/\bg (model prog w) A (.func body env) R s₂) (fun e s'=>R (.error e) s') s₁) (fun e s'=>R (.error e) s') s):
  bg (model prog w) A (.call (.ref a) args) R s:=by
 refine cM (nn ?_)
 obtain ⟨name,qual,params,body',scope,globals,closure,defaults,kwd,doc,pm,an,code,ct',bi⟩:=fd
 obtain ⟨oc,od,dt,osl⟩:=o
 cases (show dt=_ from hd')
 cases (show body'=_ from hbody)
 refine Ta hcd fun c oc vs tq hc hoc hdc hq=>?_
 cases (show code=_ from hc)
 refine Dj (m:=load a) (GL ho (Dj (m:=field (.ref c) 1) (EA hoc hdc hq (Dj (Dx (Dj (FU h (fun binds s₁ h₁=>Dj (FU h₁ (fun env s₂ h₂=>Dj (wpAny_enterFrame h₂.1 hroom ?_)) fun Z0 Z0 h'=>h')) fun Z0 Z0 h'=>h')))))))
 rw [(show scope.isGenerator=false from hgen),(show scope.isCoroutine=false from hco)]
 exact Dx (Ic rfl (Ic rfl h₂.2))
theorem te (B:K8 A₀ base outer h₀) (F:Fr h₀ L s.heap m) (N:HM h₀ L s.heap news) (hlim:h₀.NoLimit) (hA:A.frames=some (env::outer)) (hf:env.frame=some L) (hke:env.scope.kind=.function)
  (ho:s.heap.get? f=some fo) (hd:fo.data=.func (fnX name qual params body scope [] dV kV doc pm an cdv ct)) (hcd:s.heap.CodeRec cdv qual) (hroom:A.depth<recursionLimit)
  (hbind:Li s (fnX name qual params body scope [] dV kV doc pm an cdv ct) args binds)
  (hkind:∀n,∀x∈binds,scope.names.lookup x.1=some .local\/(scope.names.lookup x.1=some .cell/\((cellsFrom n scope.names []).lookup x.1).isSome=true))
  (hnd:((cellsFrom 0 scope.names []).map (·.1)).Nodup)
  (h:∀g L' h₁ tk cells,Fr h₀ L g m->Fr g L' h₁ (FF (envOfC qual scope L' f cdv).kindOf binds fun Z0=>none)->HM g L' h₁ (cells++news)->
   CellsAre (FW (envOfC qual scope L' f cdv).kindOf binds fun Z0=>none) (cellsFrom (L'+1) scope.names []) cells->K8 A base (env::outer) g->h₀.StaysIn g->(∀p∈news,p.1<L')->
   aq (model prog w) (A.deeper (envOfC qual scope L' f cdv)) (execs body (envOfC qual scope L' f cdv))
    (fun fl s'=>LeaveK h₀ L m g R (match fl with|.ret v=>v|_=>.none) s')
    (fun e s'=>aq (model prog w) (A.deeper (envOfC qual scope L' f cdv)) (leaving (envOfC qual scope L' f cdv) e) (fun Z0 s''=>R (.error e) s'') (fun e' s''=>R (.error e') s'') s')
    (aQ s h₁ tk))
  (hco:scope.isCoroutine=false:=by rfl) (hgen:scope.isGenerator=false:=by rfl) (hk:scope.kind=.function:=by rfl):bg (model prog w) A (.call (.ref f) args) R s:=by
 refine iG (groundX (R:=R) B F N hA hf hke) fun FG BG st lv=>qb hroom ho hd hco hgen rfl hcd (hbind _ _ _ _ (G7 hk (hkind _) fun env' he s' x=>?_))
 subst he
 refine ⟨(hlim.keeps F.keep).keeps x.toInCall.keep,xr ?_⟩
 refine dG x.done fun h₁ tk zz3 Z0=>?_
 subst zz3
 have hk₁:=x.toInCall.keep
 refine ay (Cl.news (h₀:=s.heap) (DQ _) fun n c hm=>⟨x.cell n c (IS (FV scope.names 0 (s.heap.objs.size+1) [] [] rfl▸hnd) hm),x.above n c hm⟩) fun cells NC Y=>aC (h _ s.heap.objs.size h₁ tk cells FG ⟨x.toInCall.ns,fun b o e=>hk₁ b o (of_hideAll _ e),Eg (hideAll_size _ _)⟩ (fun p hp=>?_) Y BG st (fun p hp=>DT (N p hp).1)) (fun fl s' hl=>lv _ _ hl) fun Z0 Z0 y=>y
 rcases DL.mp hp with hp|hp
 ·refine ⟨(NC p hp).1,(NC p hp).2.1,?_⟩
  cases q:(hideAll s.heap (news.map (·.1))).get? p.1 with
  |none=>rfl
  |some o=>have:=of_hideAll _ q;rw [(NC p hp).2.2] at this;cases this
 ·exact ⟨hk₁ _ _ (N p hp).1,D9 (DT (N p hp).1),hideAll_none _ (DE hp)⟩
theorem gR.len' {os:List (Du×Obj)} (x:gR C ρ σ os) (e:os.map (·.1)=ρ):ρ.length=σ.length:=by rw [←e,Do,x.len]
theorem aX.e {G:Prop} (R:aX C S hid m ρ σ h) (k:∀os,Fr S.h₀ S.L h m->HM S.h₀ S.L h (hid++os)->((hid++os).map (·.1)).Nodup->os.map (·.1)=ρ->gR C ρ σ os->G):G:=ME R.2 fun os N nd eq O=>k os R.1 N nd eq O
theorem aX.len (R:aX C S hid m ρ σ h):ρ.length=σ.length:=by
 obtain ⟨F,os,N,nd,e,O⟩:=R
 exact O.len' e
theorem aX.get (R:aX C S hid m ρ σ h) {i:Nat} (e:am σ i=some co):∃a o,ρ[i]?=some a/\OR C ρ co o/\h.get? a=some o:=by
 refine aX.e R fun os F N nd eq O=>ay (O.get e) fun p h1 h2=>⟨p.1,p.2,?_,h2,(N p (DF _ (DU h1))).1⟩
 rw [←eq,DH,h1];rfl
theorem aX.get' (R:aX C S hid m ρ σ h) (e:am σ i=some co) (ea:ρ[i]?=some a):∃o,OR C ρ co o/\h.get? a=some o:=by
 refine cV (R.get e) fun a' o h1 h2 h3=>?_
 rw [ea] at h1
 cases h1
 exact ⟨o,h2,h3⟩
theorem aX.keeps (R:aX C S hid m ρ σ h) {h':DI} (k:∀b o,h.get? b=some o->h'.get? b=some o):aX C S hid m ρ σ h':=by
 exact aX.e R fun os F N nd eq O=>⟨F.keeps k,os,N.grown k,nd,eq,O⟩
theorem cq (ρ:List Du) (a:Du):ρ<+:ρ++[a]:=⟨[a],rfl⟩
theorem gZ (ρ:List Du) (a:Du):(ρ++[a])[ρ.length]?=some a:=by simp
theorem aX.push {h':DI} {os:List (Du×Obj)} {a:Du} {o:Obj} {co:CO} (nd:((hid++os).map (·.1)).Nodup) (eq:os.map (·.1)=ρ) (O:gR C ρ σ os)
  (F':Fr S.h₀ S.L h' m) (N':HM S.h₀ S.L h' ((a,o)::(hid++os))) (fr:∀p∈hid++os,p.1≠a) (ho:OR C (ρ++[a]) co o):aX C S hid m (ρ++[a]) (σ++[co]) h':=by
 refine ⟨F',os++[(a,o)],fun p hp=>?_,?_,by simp [eq],(O.mono (cq ρ a)).app ⟨ho,trivial⟩⟩
 ·rcases DL.mp hp with q|q
  ·exact N' p (.tail _ (DN _ q))
  ·rcases DL.mp q with q|q
   ·exact N' p (.tail _ (DF _ q))
   ·rcases DW.mp q with rfl
    exact N' _ (.head _)
 ·rw [←Di,Dw]
  refine D3.mpr ⟨nd,by simp,fun x hx y hy=>?_⟩
  simp at hy
  subst hy
  refine ay (DV.mp hx) fun p hp zz1=>?_
  subst zz1
  exact fr p hp
theorem d9 (N:HM h₀ L h news):∀p∈news,p.1≠h.objs.size:=fun p hp=>D9 (DT (N p hp).1)
theorem L4:∀{os:List (Du×Obj)} {i:Nat},os[i]?=some (d,o)->(os.map (·.1)).Nodup->Upd d o o' os (os.set i (d,o')):=by
 intro x0
 induction x0 with
 |nil=>
  intro _ e _
  cases e
 |cons p r ihh=>
  intro y4
  cases y4 with
  |zero=>
   intro e nd
   simp at e
   subst e
   rw [DB,D6] at nd
   exact .head fun q hq z=>nd.1 (by
    have:=DE (f:=(·.1)) hq
    simpa [z] using this)
  |succ i=>
   intro e nd
   rw [DB,D6] at nd
   have nd:=nd
   have e':r[i]?=some (d,o):=by simpa using e
   refine .tail (fun z=>nd.1 ?_) (ihh e' nd.2)
   have:=DE (f:=(·.1)) (DU e')
   simpa [z] using this
theorem AD (u:Upd d o o' l l'):∀{hid:List (Du×Obj)},(∀p∈hid,p.1≠d)->Upd d o o' (hid++l) (hid++l'):=by
 intro x0
 induction x0 with
 |nil=>
  intro _
  exact u
 |cons p r ihh=>
  intro h
  exact .tail (h p (.head _)) (ihh fun q hq=>h q (.tail _ hq))
theorem tQ {os:List (Du×Obj)} {i:Nat} {d:Du} {o o':Obj} (nd:((hid++os).map (·.1)).Nodup) (e:os[i]?=some (d,o)):Upd d o o' (hid++os) (hid++os.set i (d,o')):=by
 rw [Dw,D3] at nd
 have nd:=nd
 refine AD (L4 e nd.2.1) fun p hp=>nd.2.2 p.1 (DE hp) d ?_
 have:=DE (f:=(·.1)) (DU e)
 simpa using this
theorem kD {os:List (Du×Obj)} {i:Nat} {d:Du} {o o':Obj} (e:os[i]?=some (d,o)):(os.set i (d,o')).map (·.1)=os.map (·.1):=by
 rw [Kb]
 exact PySem.W.X.set_same (by rw [DH,e];rfl)
theorem aX.turn {h':DI} {os:List (Du×Obj)} {i:Nat} {d:Du} {o o':Obj} {co:CO} (nd:((hid++os).map (·.1)).Nodup) (eq:os.map (·.1)=ρ) (O:gR C ρ σ os) (e:os[i]?=some (d,o))
  (F':Fr S.h₀ S.L h' m) (N':HM S.h₀ S.L h' (hid++os.set i (d,o'))) (ho:OR C ρ co o'):aX C S hid m ρ (aU σ i co) h':=by
 refine ⟨F',os.set i (d,o'),N',?_,by rw [kD e,eq],O.set ho⟩
 rw [Dw,kD e,←Dw]
 exact nd
inductive aZ (C:Cx) (n:Nat) (sc:Ef) (S:bT) (hid:List (Du×Obj)) (m mD:Str->Option Dk) (ρ:List Du) (loc:aP) (σ:al) (h:DI):Prop where
 |mk (ok:S.Ok C n) (sc:∀x k,sc.names.lookup x=some k->(k=.local\/k=.globalImplicit\/k=.cell->S.env.kindOf x=some k)/\(k=.free->S.env.kindOf x=some .free\/S.env.kindOf x=some .cell)) (cel:∀x,S.env.kindOf x=some .cell\/S.env.kindOf x=some .free->(S.env.cells.lookup x).isSome=true) (ns:RN S hid m mD) (lr:tZ C S mD ρ loc) (rel:aX C S hid m ρ σ h)
theorem aZ.go (H:aZ C n sc S hid m mD ρ loc σ h) (p:ρ<+:ρ') (R:aX C S hid m ρ' σ' h'):aZ C n sc S hid m mD ρ' loc σ' h':=⟨H.1,H.2,H.3,H.4,H.5.mono p,R⟩
theorem aZ.le (H:aZ C n sc S hid m mD ρ loc σ h) (q:k<=n):aZ C k sc S hid m mD ρ loc σ h:=⟨H.1.le q,H.2,H.3,H.4,H.5,H.6⟩
theorem aZ.X (H:aZ C n sc S hid m mD ρ loc σ h):C.K.In h:=H.1.2.keeps H.6.1.keep
theorem aZ.nd (H:aZ C n sc S hid m mD ρ loc σ h):h.Ns S.env.locals mD:=by
 obtain ⟨F,os,N,_⟩:=H.6
 exact H.4 h F fun p hp=>(N p (DN _ hp)).1
def SE (C:Cx) (n:Nat) (ih:Ih):Prop:=∀k sc c e,aN C.nm C.gk k sc c e=true->∀S hid m mD ρ loc σ s Q Qm E,aZ C n sc S hid m mD ρ loc σ s.heap->ih.e c loc σ Q->bQ C S hid m ρ s Q Qm->aq (model C.prog C.w) S.A (eval e S.env) Qm E s
def ST (C:Cx) (n:Nat) (ih:Ih):Prop:=∀k sc c e,aN C.nm C.gk k sc c e=true->∀S hid m mD ρ loc σ s Q Qm E,aZ C n sc S hid m mD ρ loc σ s.heap->ih.t c loc σ Q->ja C S hid m ρ s Q Qm->aq (model C.prog C.w) S.A (isTrue e S.env (eval e S.env)) Qm E s
theorem aR:Dn a b=true↔a<=b:=PySem.W.Z.ble_iff
theorem fG:E1 a b=true↔a<b:=PySem.W.Z.blt_iff
theorem dq:eB a b=true↔a<b:=PySem.W.Z.ltB_iff a b
theorem cA:dk a b=true↔a<=b:=PySem.W.Z.leB_iff a b
theorem mf:j5 a b=true↔a=b:=PySem.W.Z.eqB_iff a b
theorem gO (a b:Int):eB a b=decide (a<b):=by rw [E5,dq,decide_eq_true_iff]
theorem eZ (a b:Int):dk a b=decide (a<=b):=by rw [E5,cA,decide_eq_true_iff]
theorem fR (a b:Int):j5 a b=decide (a=b):=by rw [E5,mf,decide_eq_true_iff]
theorem cJ (h:b<=a):eB a b=false:=(gO a b).trans (decide_eq_false (EZ.mpr h))
theorem bk (h:a<b):eB a b=true:=dq.mpr h
theorem yO (h:b<a):dk a b=false:=(eZ a b).trans (decide_eq_false (Int.not_le.mpr h))
theorem ax (h:a<=b):dk a b=true:=cA.mpr h
theorem lc {a:Int} {n:Nat} (h1:-(n:Int)<a) (h2:a<n):a.natAbs<n:=by
 cases a with
 |ofNat k=>exact Ez.mp h2
 |negSucc k=>exact Ez.mp (Int.lt_of_neg_lt_neg h1)
theorem o3 {a:Int} {n:Nat} (h:a.natAbs<n):-(n:Int)<a/\a<n:=⟨Int.neg_lt_of_neg_lt (IE (Int.natAbs_neg a▸Int.le_natAbs) (Ez.mpr h)),IE Int.le_natAbs (Ez.mpr h)⟩
theorem nJ {a:Int} (h:eM a=true):D1.Int.intBits a<=64:=by
 have:=fG.mp h
 exact intBits_le_64 (o3 this).1 (o3 this).2
theorem cZ (l:List α):∀n:Nat,(lZ n l).length=n*l.length
 |0=>by simp [Cg,ol]
 |n+1=>by rw [ol,Ds,cZ l n,Nat.succ_mul];lia
theorem i3 (l:List α):∀n:Nat,lZ n l=(Dp n l).flatten
 |0=>rfl
 |n+1=>by rw [ol,Fx,IL,i3 l n]
theorem oD:∀(ls:List (Array α)) (acc:Array α),(ls.foldl (fun x y=>x++y) acc)=(acc.toList++(ls.map (·.toList)).flatten).toArray:=by
 intro x0
 induction x0 with
 |nil=>
  intro acc
  simp
 |cons l ls ihh=>
  intro acc
  rw [Jp,ihh];simp
set_option tactic.hygienic true in
theorem Bx (a:List Nat) (n:Int):Txt.mul (aV a) n=aV (lZ n.toNat a):=by
 unfold Txt.mul
 split
 ·have:n.toNat=0:=by lia
  rw [this];rfl
 ·split
  ·rename_i h1 h2
   rw [Fm,beq_iff_eq,beq_iff_eq] at h2
   rcases h2 with h|h
   ·subst h;simp [Cg,ol]
   ·have:a=[]:=by simpa [aV,Fv] using h
    subst this
    rw [i3];simp
  ·congr 1
   rw [oD,i3]
   simp [aV]
theorem dc.len:∀{l:List CV} {vs:List Dk},dc ρ l vs->l.length=vs.length:=by
 intro x0
 induction x0 with
 |nil=>
  intro y4
  cases y4 with
  |nil=>
   intro _
   exact rfl
  |cons Z1 Z2=>
   intro x
   exact x.elim
 |cons Z1 Z2 ihh=>
  intro y4
  cases y4 with
  |nil=>
   intro x
   exact x.elim
  |cons Z1 Z2=>
   intro x
   simp [ihh x.2]
theorem dc.app:∀{l:List CV} {vs:List Dk},dc ρ l vs->∀{l':List CV} {vs':List Dk},dc ρ l' vs'->dc ρ (l++l') (vs++vs'):=by
 intro x0
 induction x0 with
 |nil=>
  intro y4
  cases y4 with
  |nil=>
   intro _ _ _ h
   exact h
  |cons Z1 Z2=>
   intro x _ _ _
   exact x.elim
 |cons Z1 Z2 ihh=>
  intro y4
  cases y4 with
  |nil=>
   intro x _ _ _
   exact x.elim
  |cons Z1 Z2=>
   intro x _ _ h
   exact ⟨x.1,ihh x.2 h⟩
theorem dc.rep (h:dc ρ l vs):∀n:Nat,dc ρ (lZ n l) (Dp n vs).flatten
 |0=>trivial
 |n+1=>by rw [Fx,IL];exact h.app (dc.rep h n)
theorem eA (h:KBw.bInts b=l):b.size=l.length:=by rw [←h,KBw.ints_length]
theorem dX:KBw.bInts b=b.toList.map fun c=>(c.toNat:Int):=rfl
theorem qQ (f:α->β) (l:List α):∀n:Nat,((Dp n l).flatten).map f=lZ n (l.map f)
 |0=>rfl
 |n+1=>by rw [Fx,IL,Dw,qQ f l n,ol]
structure ni (C:Cx):Prop where
 tv:∀a co,C.T.tv a=some co->∃l vs n,co=.tup l/\C.K.lookup a=some (wl (EO vs) n)/\dc [] l vs
section
variable {ρ:List Du} {loc:aP} {σ:al} {s:Dm} {Q:bu} {Qm:Dk->Dm->Prop} {E:Dk->Dm->Prop}
set_option tactic.hygienic true in
theorem xw (TV:ni C) (H:aZ C n sc S hid m mD ρ loc σ s.heap) (hv:VR ρ c v) (e:qD C.T σ c=some co):
  ∃a o,v=.ref a/\OR C ρ co o/\s.heap.get? a=some o:=by
 unfold qD at e
 split at e
 ·refine ay hv fun a ea zz1=>?_
  clear hv
  subst zz1
  exact ay (H.6.get' e ea) fun o h1 h2=>⟨a,o,rfl,h1,h2⟩
 ·rename_i a
  refine kZ (TV.tv _ _ e) fun l vs k zz4 h1 h2=>?_
  subst zz4
  exact ⟨a,_,hv,⟨vs,k,rfl,h2.mono (Hs)⟩,H.X _ _ h1⟩
 ·cases e
theorem yM (hs:y.natAbs<18446744073709551616):IP x y=false:=by
 unfold IP
 have:¬((if (y==0)=true then 0 else y.natAbs.log2/30+1) > 300):=by
  split
  ·lia
  ·have:=PySem.W.ZRun.log2_lt64 y.natAbs hs
   lia
 simp only [this,decide_false,Bool.false_and]
@[elab_as_elim] theorem ar1_v {G:List Dk->Prop} {as:List CV} {vs:List Dk} {f:CV->Prop} (q:nZ as f) (h:dc ρ as vs) (k:∀c v,VR ρ c v->f c->G [v]):G vs:=by
 cases as with
 |nil=>exact q.elim
 |cons a l=>cases l with
  |cons=>exact q.elim
  |nil=>cases vs with
   |nil=>exact h.elim
   |cons v r=>cases r with
    |nil=>exact k a v h.1 q
    |cons=>exact h.2.elim
@[elab_as_elim] theorem ar2_v {G:List Dk->Prop} {as:List CV} {vs:List Dk} {f:CV->CV->Prop} (q:zV as f) (h:dc ρ as vs) (k:∀c v d w,VR ρ c v->VR ρ d w->f c d->G [v,w]):G vs:=by
 cases as with
 |nil=>exact q.elim
 |cons a l=>cases vs with
  |nil=>exact h.elim
  |cons v r=>exact ar1_v (G:=fun r=>G (v::r)) q h.2 fun d w=>k a v d w h.1
@[elab_as_elim] theorem asI_v {G:Dk->Prop} {c:CV} {v:Dk} {f:Int->Prop} (q:gG c f) (h:VR ρ c v) (k:∀i t,f i->G (.int i t)):G v:=by
 cases c with
 |int i=>obtain ⟨t,rfl⟩:=h;exact k i t q
 |_=>exact q.elim
@[elab_as_elim] theorem asS_v {G:Dk->Prop} {c:CV} {v:Dk} {f:List Nat->Prop} (q:qA c f) (h:VR ρ c v) (k:∀x t,f x->G (.str (aV x) t)):G v:=by
 cases c with
 |str i=>obtain ⟨t,rfl⟩:=h;exact k i t q
 |_=>exact q.elim
@[elab_as_elim] theorem asB_v {G:Dk->Prop} {c:CV} {v:Dk} {f:List Int->Prop} (q:vZ c f) (h:VR ρ c v) (k:∀x a t,KBw.bInts a=x->f x->G (.bytes a t)):G v:=by
 cases c with
 |bytes x=>obtain ⟨a,t,rfl,e⟩:=h;exact k x a t e q
 |_=>exact q.elim
@[elab_as_elim] theorem asO_v {G:Dk->Prop} {c:CV} {v:Dk} {f:Nat->Prop} (q:qo c f) (h:VR ρ c v) (k:∀i a,ρ[i]?=some a->f i->G (.ref a)):G v:=by
 cases c with
 |obj i=>obtain ⟨a,e,rfl⟩:=h;exact k i a e q
 |_=>exact q.elim
theorem vf {G:List Nat->Prop} {x:List Nat} {f:Nat->Prop} (q:Qh x f) (k:∀c,f c->G [c]):G x:=by
 cases x with
 |nil=>exact q.elim
 |cons c l=>cases l with
  |nil=>exact k c q
  |cons=>exact q.elim
theorem iW {G:Prop} {h:DI} {i:Nat} {a:Du} {f:List CV->Prop} (R:aX C S hid m ρ σ h) (ea:ρ[i]?=some a) (q:nx σ i f) (k:∀l vs k1,am σ i=some (.list l)->h.get? a=some (listOf (EO vs) k1)->dc ρ l vs->f l->G):G:=by
 unfold nx at q
 cases e1:am σ i with
 |none=>rw [e1] at q;exact q.elim
 |some o=>cases o with
  |list l=>
   rw [e1] at q
   refine ay (R.get' e1 ea) fun o1 zz6 g1=>?_
   obtain ⟨vs,k1,e,h1⟩:=zz6
   exact k l vs k1 e1 (e▸g1) h1 q
  |_=>rw [e1] at q;exact q.elim
@[elab_as_elim] theorem asBo_v {G:Dk->Prop} {c:CV} {v:Dk} {f:Bool->Prop} (q:OF c f) (h:VR ρ c v) (k:∀i,f i->G (.bool i)):G v:=by
 cases c with
 |bool i=>cases h;exact k i q
 |_=>exact q.elim
@[elab_as_elim] theorem onL_v {G:Dk->Prop} (TV:ni C) (H:aZ C n sc S hid m mD ρ loc σ s.heap) {c:CV} {v:Dk} {f g:List CV->Prop} (hv:VR ρ c v) (q:l7 C.T σ c f g)
  (k1:∀l vs x k,s.heap.get? x=some (listOf (EO vs) k)->dc ρ l vs->f l->G (.ref x)) (k2:∀l vs x k,s.heap.get? x=some (wl (EO vs) k)->dc ρ l vs->g l->G (.ref x)):G v:=by
 unfold l7 at q
 cases e:qD C.T σ c with
 |none=>rw [e] at q;exact q.elim
 |some co=>
  rw [e] at q
  refine cV (xw TV H hv e) fun a o zz9 r g1=>?_
  subst zz9
  cases co with
  |list l=>obtain ⟨vs,k,e,h1⟩:=r;exact k1 l vs a k (e▸g1) h1 q
  |tup l=>obtain ⟨vs,k,e,h1⟩:=r;exact k2 l vs a k (e▸g1) h1 q
  |_=>exact q.elim
theorem OY {G:Prop} {h:DI} {i:Nat} {a:Du} {f g:List CV->Prop} (R:aX C S hid m ρ σ h) (ea:ρ[i]?=some a) (q:Nb σ i f g) (k1:∀l vs k,h.get? a=some (listOf (EO vs) k)->dc ρ l vs->f l->G) (k2:∀l vs k,h.get? a=some (wl (EO vs) k)->dc ρ l vs->g l->G):G:=by
 unfold Nb at q
 cases e1:am σ i with
 |none=>rw [e1] at q;exact q.elim
 |some o=>rw [e1] at q;refine ay (R.get' e1 ea) fun o1 r g1=>?_;cases o with
  |list l=>refine dG r fun vs k e h1=>?_;exact k1 l vs k (e▸g1) h1 q
  |tup l=>refine dG r fun vs k e h1=>?_;exact k2 l vs k (e▸g1) h1 q
  |_=>exact q.elim
theorem ML {G:Prop} {h:DI} {i:Nat} {a:Du} {f:List CV->Prop} (R:aX C S hid m ρ σ h) (ea:ρ[i]?=some a) (q:tW σ i f) (k1:∀l vs k,h.get? a=some (listOf (EO vs) k)->dc ρ l vs->f l->G):G:=by
 unfold tW at q
 cases e1:am σ i with
 |none=>rw [e1] at q;exact q.elim
 |some o=>rw [e1] at q;refine ay (R.get' e1 ea) fun o1 r g1=>?_;cases o with
  |list l=>refine dG r fun vs k e h1=>?_;exact k1 l vs k (e▸g1) h1 q
  |raw l o=>refine aD r fun e0 r=>dG r fun vs k e h1=>?_;exact k1 l vs k (e▸e0▸g1) (h1.mono Hs) q
  |_=>exact q.elim
theorem M7 {G:Prop} {h:DI} {i:Nat} {a:Du} {f:List Int->Prop} (R:aX C S hid m ρ σ h) (ea:ρ[i]?=some a) (q:xE σ i f) (k1:∀l (b:Array UInt8),am σ i=some (.barr l)->KBw.bInts b=l->h.get? a=some (cH b)->f l->G):G:=by
 unfold xE at q
 cases e1:am σ i with
 |none=>rw [e1] at q;exact q.elim
 |some o=>rw [e1] at q;refine ay (R.get' e1 ea) fun o1 r g1=>?_;cases o with
  |barr l=>refine ay r fun b e h1=>?_;exact k1 l b e1 h1 (e▸g1) q
  |_=>exact q.elim
theorem lK {G:Prop} {l:List CV} {f:List (List Nat)->Prop} (q:rZ l f) (k:∀r,fx l=some r->f r->G):G:=gg q k
theorem aX.newN {h':DI} {tk:Nat} {a:Du} {o:Obj} {co:CO} {os:List (Du×Obj)} (nd:((hid++os).map (·.1)).Nodup) (eq:os.map (·.1)=ρ) (O:gR C ρ σ os)
  (F':Fr S.h₀ S.L h' m) (N':HM S.h₀ S.L h' ((a,o)::(hid++os))) (fr:∀p∈hid++os,p.1≠a) (q:Q (.obj σ.length) (σ++[co])) (ho:OR C (ρ++[a]) co o) (K:bQ C S hid m ρ s Q Qm):Qm (.ref a) (aQ s h' tk):=by
 refine K _ _ (ρ++[a]) _ _ _ q ⟨_,?_,rfl⟩ (cq _ _) (aX.push nd eq O F' N' fr ho)
 rw [←O.len' eq];exact gZ _ _
theorem yo (TV:ni C) (H:aZ C n sc S hid m mD ρ loc σ s.heap) {fl:Bool} {o:Aq} {op:L1} (ho:Mr o op=true) {a b:CV} {va vb:Dk} (ha:VR ρ a va) (hb:VR ρ b vb)
  (q:dJ fl C.T σ o a b Q) (K:bQ C S hid m ρ s Q Qm):wpAny (model C.prog C.w) S.A (binaryOp op va vb) Qm E s:=by
 have pr:ρ<+:ρ:=DM ρ
 obtain rfl:=of_decide_eq_true ho
 cases o with
 |add=>
  have both:l7 C.T σ a (fun l=>l7 C.T σ b (fun m=>fL fl (Dn (l.length+m.length) 100000) (Q (.obj σ.length) (σ++[.list (l++m)]))) fun Z0=>False) (fun l=>l7 C.T σ b (fun Z0=>False) fun m=>match l with
   |[]=>False
   |x::l=>match m with
    |[]=>False
    |y::m=>fL fl (Dn (l.length+m.length) 100000) (Q (.obj σ.length) (σ++[.tup ((x::l)++(y::m))])))->wpAny (model C.prog C.w) S.A (binaryOp .Add va vb) Qm E s:=fun q=>by
   refine onL_v TV H ha q (fun l vs x k1 g1 h1 q=>onL_v TV H hb q (fun m ws y k2 g2 h2 q=>?_) fun Z0 Z0 Z0 Z0 Z0 Z0 q=>q.elim) fun l vs x k1 g1 h1 q=>onL_v TV H hb q (fun Z0 Z0 Z0 Z0 Z0 Z0 q=>q.elim) fun m ws y k2 g2 h2 q=>?_
   ·refine aD (aW q) fun g q=>?_
    have g:=aR.mp g
    refine aX.e H.6 fun os F N nd eq O=>?_
    exact PyProof.Rows.add_lists F N ⟨_,g1,rfl,k1,rfl⟩ ⟨_,g2,rfl,k2,rfl⟩ (fun h' F' N'=>aX.newN nd eq O F' N' (d9 N) q ⟨_,0,rfl,(h1.app h2).mono (cq _ _)⟩ K) (by rw [←h1.len,←h2.len];simp [sizeLine];lia)
   ·cases l with
    |nil=>exact q.elim
    |cons c l=>cases m with
     |nil=>exact q.elim
     |cons d m=>
      refine aD (aW q) fun g q=>?_
      have g:=aR.mp g
      refine aX.e H.6 fun os F N nd eq O=>?_
      refine PyProof.Rows.add_tuples F N ⟨_,g1,rfl,k1,rfl⟩ ⟨_,g2,rfl,k2,rfl⟩ (fun e=>?_) (fun Z0 e=>?_) (fun Z0 Z0 h' F' N'=>aX.newN nd eq O F' N' (d9 N) q ⟨_,0,rfl,(h1.app h2).mono (cq _ _)⟩ K) (by rw [←h1.len,←h2.len];simp [sizeLine];lia)
      ·subst e;exact h1.elim
      ·subst e;exact h2.elim
  cases a with
  |int x=>
   refine aG ha fun t zz11=>?_
   clear ha
   subst zz11
   exact asI_v q hb fun y u q=>PyProof.Rows.add_int (K _ _ _ _ _ _ q ⟨_,rfl⟩ pr H.6)
  |str x=>
   refine aG ha fun t zz13=>?_
   clear ha
   subst zz13
   refine asS_v q hb fun y u q=>aD (aW q) fun g q=>?_
   have g:=aR.mp g
   refine PyProof.Rows.add_str (fun t' tk=>?_) (by simp [aV,Fv,sizeLine];lia)
   rw [(by show Str.mk _=Str.mk _;simp [aV]:aV x++aV y=aV (x++y))]
   exact K _ _ _ _ _ _ q ⟨_,rfl⟩ pr H.6
  |bytes x=>
   refine dG ha fun a t zz15 hA=>?_
   clear ha
   subst zz15
   refine asB_v q hb fun y b u hB q=>aD (aW q) fun g q=>?_
   have g:=aR.mp g
   exact KBa.add_K hA hB (by lia) fun t' k hk=>K _ _ _ _ _ _ q ⟨_,_,rfl,hk⟩ pr H.6
  |_=>exact both q
 |sub=>exact asI_v q ha fun x t q=>asI_v q hb fun y u q=>PyProof.Rows.sub_int (K _ _ _ _ _ _ q ⟨_,rfl⟩ pr H.6)
 |mul=>
  cases a with
  |int x=>
   refine aG ha fun t zz18=>?_
   clear ha
   subst zz18
   refine asI_v q hb fun y u q=>aD (aW q) fun g q=>PyProof.Rows.mul_int (K _ _ _ _ _ _ q ⟨_,rfl⟩ pr H.6) ?_
   rcases (Fm _ _).mp g with g|g
   ·exact IntMulOk.of_left (nJ g)
   ·exact IntMulOk.of_right (nJ g)
  |str x=>
   refine aG ha fun t zz20=>?_
   clear ha
   subst zz20
   refine asI_v q hb fun k u q=>aD (aW q) fun g q=>?_
   simp only [Dl,aR,cA] at g
   refine SB.mul (mulOk_of 16 1000 (by simp [aV,Fv];lia) (by lia) (by lia) (by lia) (by lia)) fun t' k=>?_
   rw [Bx]
   exact K _ _ _ _ _ _ q ⟨_,rfl⟩ pr H.6
  |bytes x=>
   refine dG ha fun a t zz22 hA=>?_
   clear ha
   subst zz22
   refine asI_v q hb fun k u q=>aD (aW q) fun g q=>?_
   simp only [Dl,aR,cA,fG] at g
   have hl:=eA hA
   have hq:KBw.bInts ((Dp k.toNat a.toList).flatten).toArray=lZ k.toNat x:=by
    rw [dX,←hA,dX]
    exact qQ _ _ _
   have hne:a.toList≠[]:=by
    intro e
    have:a.size=0:=by rw [←HS,e];rfl
    lia
   have key:=PySem.W.bytes_mul_any (prog:=C.prog) (w:=C.w) (A:=S.A) (E:=E) (s:=s) (b:=a.toList) (n:=k) (t:=t) (u:=u) (Q:=Qm) hne (by lia) (by lia) (by rw [HS];lia) fun t' k'=>K _ _ _ _ _ _ q ⟨_,_,rfl,hq⟩ pr H.6
   show wpAny (model C.prog C.w) S.A (binaryOp .Mult (.bytes a t) (.int k u)) Qm E s
   simpa using key
  |obj i=>
   refine ay ha fun x ea zz25=>?_
   clear ha
   subst zz25
   refine asI_v q hb fun k u q=>iW H.6 ea q fun l vs k1 e1 g1 h1 q=>aD (aW q) fun g q=>?_
   simp only [Dl,aR,cA] at g
   refine aX.e H.6 fun os F N nd eq O=>PyProof.Rows.mul_list F N g1 (by lia) (by lia) ?_ fun h' F' N'=>aX.newN nd eq O F' N' (d9 N) q ⟨(Dp k.toNat vs).flatten,0,?_,(h1.rep _).mono (cq _ _)⟩ K
   ·rw [DJ,←(h1.len)]
    have:l.length*k.toNat<=16*1000:=Nat.mul_le_mul g.1 (by lia)
    lia
   ·congr 2
    rw [oD]
    rw [Fo,Im]
    by_cases hv:vs=[]
    ·subst hv;simp
    ·simp [hv]
  |_=>exact q.elim
 |fdiv=>
  refine asI_v q ha fun x t q=>asI_v q hb fun y u q=>aD (aW q) fun g q=>?_
  simp only [Dl,Ec,fR,decide_eq_false_iff_not] at g
  exact PyProof.Rows.floordiv_int g.2 (K _ _ _ _ _ _ q ⟨_,rfl⟩ pr H.6) (.inl (yM (fG.mp g.1)))
 |mod=>
  refine asI_v q ha fun x t q=>asI_v q hb fun y u q=>aD (aW q) fun g q=>?_
  simp only [Ec,fR,decide_eq_false_iff_not] at g
  exact PyProof.Rows.mod_int g (K _ _ _ _ _ _ q ⟨_,rfl⟩ pr H.6)
 |pow=>
  refine asI_v q ha fun x t q=>asI_v q hb fun y u q=>aD (aW q) fun g q=>?_
  simp only [Dl,cA] at g
  exact PyProof.Rows.pow_int_small g.2.1 (by lia) (fG.mp g.1) (K _ _ _ _ _ _ q ⟨_,rfl⟩ pr H.6)
end
theorem kc:qZ a b=true↔a=b:=mQ fun a b=>by rw [fR,decide_eq_true_iff]
theorem pd:jw a b=true↔a=b:=mQ fun Z0 Z0=>cg
theorem qV (h:a≠b):jw a b=false:=FT.mpr fun q=>h (pd.mp q)
theorem uu (c:Nat):∀l:List Nat,gS c l=decide (c∈l)
 |[]=>rfl
 |x::r=>by
  simp only [kS,kK]
  rw [cG,uu c r]
  by_cases h:x=c
  ·simp [h]
  ·simp [h,FP h]
theorem vn (c:List Nat):∀l:List (List Nat),fm c l=l.any (fun y=>decide (y=c))
 |[]=>rfl
 |x::r=>by
  simp only [xG,zT]
  rw [gp,vn c r]
  by_cases h:x=c<;>simp [h]
theorem AG:∀{a b:List Nat},A5 a b=true↔a<b:=by
 intro x0
 induction x0 with
 |nil=>
  intro y4
  cases y4 with
  |nil=>
   simp [vu,vd,uT,uG]
  |cons Z1 Z2=>
   simp [vu,vd,uT,uG]
 |cons a l ihh=>
  intro y4
  cases y4 with
  |nil=>
   simp [vu,vd,uT,uG]
  |cons b m=>
   simp only [vu,vd,uT,uG]
   rw [List.cons_lt_cons_iff,cG]
   cases h:E1 a b with
   |true=>simp [fG.mp h]
   |false=>
    by_cases q:a=b
    ·simp [q,ihh (b:=m)]
    ·simp [q,(show ¬a<b from fun q=>by rw [fG.mpr q] at h;cases h)]
theorem kA (a b:List Nat):(aV a==aV b)=aF a b:=by
 rw [gp]
 by_cases h:a=b
 ·simp [h]
 ·have:aV a≠aV b:=fun e=>h (e8 e)
  simp [h,this]
theorem gq:∀{l:List CV} {vs:List Dk} {r:List (List Nat)},dc ρ l vs->fx l=some r->StrsAre vs (r.map aV):=by
 intro x0
 induction x0 with
 |nil=>
  intro vs _ x e
  cases vs with
  |nil=>cases e;exact .nil
  |cons Z1 Z2=>exact x.elim
 |cons a l ihh=>
  intro vs r x e
  cases vs with
  |nil=>exact x.elim
  |cons v vs=>
   refine iZ e fun b r e1 e2=>?_
   cases a with
   |str y=>exact aG x.1 fun t hv=>rwT hv (sE e1 (.cons _ t (ihh x.2 e2)))
   |_=>cases e1
theorem StrsAre.at (h:StrsAre vs ys):∀{j:Nat} (h1:j<vs.length),∃(h2:j<ys.length) (t:Tok),vs[j]=.str ys[j] t:=by
 induction h with
 |nil=>intro j h1;exact absurd h1 (Hz _)
 |cons y t Z1 ih=>
  intro j h1
  cases j with
  |zero=>exact ⟨by simp,t,rfl⟩
  |succ j=>
   exact ro (ih (by simpa using h1)) fun a b c=>⟨by simpa using a,b,by simpa using c⟩
theorem StrsAre.len (h:StrsAre vs ys):vs.length=ys.length:=by
 induction h with
 |nil=>rfl
 |cons Z1 Z2 Z3 ih=>simp [ih]
theorem jT (h:l.length=m.length):(F7 l.length).all (fun j=>decide (l[j]?=m[j]?))=jw l m:=by
 rw [E5,pd,D2]
 constructor
 ·intro q
  apply Gu
  intro i
  by_cases hi:i<l.length
  ·simpa using q i (F5.mpr hi)
  ·rw [Ed (by lia),Ed (by lia)]
 ·rintro rfl j _
  simp
section
variable {ρ:List Du} {loc:aP} {σ:al} {s:Dm} {Qm:Dk->Dm->Prop} {E:Dk->Dm->Prop}
theorem jm {A:E3} {vs ws:List Dk} {l r:List (List Nat)} (h1:StrsAre vs (l.map aV)) (h2:StrsAre ws (r.map aV)):
  ∀j (q1:j<vs.toArray.size) (q2:j<ws.toArray.size),JB A s vs.toArray[j] ws.toArray[j] (decide (l[j]?=r[j]?)):=by
 intro j q1 q2
 refine ro (StrsAre.at h1 (by simpa using q1)) fun a1 t e1=>ro (StrsAre.at h2 (by simpa using q2)) fun a2 u e2=>?_
 have b1:j<l.length:=by simpa using a1
 have b2:j<r.length:=by simpa using a2
 have:=JY (A:=A) (s:=s) (aV l[j]) t (aV r[j]) u
 rw [kA,gp] at this
 simp only [List.getElem_toArray,e1,e2,Lu,DA b1,DA b2,Gf]
 exact this
theorem yB (hA:KBw.bInts a=x) (hB:KBw.bInts b=y):(a.toList==b.toList)=qZ x y:=by
 rw [E5,kc,beq_iff_eq,←hA,←hB,dX,dX]
 exact ⟨fun h=>congrArg _ h,fun h=>(KW (fun x y hxy=>Lz.mp (K0 hxy))).mp h⟩
theorem xP (TV:ni C) (H:aZ C n sc S hid m mD ρ loc σ s.heap) {a b:CV} {va vb:Dk} (ha:VR ρ a va) (hb:VR ρ b vb) {Qb:Bool->Prop} (q:dn.eqv C.T σ a b Qb):
  ((∀r tk,Qb r->Qm (.bool r) {s with toks:=tk})->wpAny (model C.prog C.w) S.A (compareOp .Eq va vb) Qm E s)/\
  ((∀r tk,Qb r->Qm (.bool (!r)) {s with toks:=tk})->wpAny (model C.prog C.w) S.A (compareOp .NotEq va vb) Qm E s):=by
 have hu:S.A.units<cLine:=by have:=H.1.9;simp [cLine];lia
 have both:l7 C.T σ a (fun l=>l7 C.T σ b (fun m=>match m with
    |[]=>Qb (match l with|[]=>true|Z1::Z2=>false)
    |x::m=>rZ l fun l=>rZ (x::m) fun m=>Qb (jw l m)) fun Z0=>False) (fun l=>l7 C.T σ b (fun Z0=>False) fun m=>rZ l fun l=>rZ m fun m=>Qb (jw l m))->
   ((∀r tk,Qb r->Qm (.bool r) {s with toks:=tk})->wpAny (model C.prog C.w) S.A (compareOp .Eq va vb) Qm E s)/\
   ((∀r tk,Qb r->Qm (.bool (!r)) {s with toks:=tk})->wpAny (model C.prog C.w) S.A (compareOp .NotEq va vb) Qm E s):=fun q=>by
  refine onL_v TV H ha q (fun l vs x k1 g1 h1 q=>onL_v TV H hb q (fun m ws y k2 g2 h2 q=>?_) fun Z0 Z0 Z0 Z0 Z0 Z0 q=>q.elim) fun l vs x k1 g1 h1 q=>onL_v TV H hb q (fun Z0 Z0 Z0 Z0 Z0 Z0 q=>q.elim) fun m ws y k2 g2 h2 q=>?_
  ·cases m with
   |nil=>
    cases ws with
    |cons=>exact h2.elim
    |nil=>
     cases vs with
     |nil=>
      cases l with
      |cons=>exact h1.elim
      |nil=>exact ⟨fun K=>LA (e:=fun Z0=>true) ⟨_,g1,rfl,k1,rfl⟩ ⟨_,g2,rfl,k2,rfl⟩ rfl hu (fun j h1 Z0=>absurd h1 (Hz _)) (K _ _ q),
        fun K=>JF (e:=fun Z0=>true) ⟨_,g1,rfl,k1,rfl⟩ ⟨_,g2,rfl,k2,rfl⟩ rfl hu (fun j h1 Z0=>absurd h1 (Hz _)) _ _ _ _ (K _ _ q)⟩
     |cons v vs=>
      cases l with
      |nil=>exact h1.elim
      |cons=>exact ⟨fun K=>JW ⟨_,g1,rfl,k1,rfl⟩ ⟨_,g2,rfl,k2,rfl⟩ (rfl) hu (K _ _ q),fun K=>Il ⟨_,g1,rfl,k1,rfl⟩ ⟨_,g2,rfl,k2,rfl⟩ (rfl) hu _ _ _ _ (K _ _ q)⟩
   |cons c m=>
    refine lK q fun l' f1 q=>lK q fun m' f2 q=>?_
    have s1:=gq h1 f1
    have s2:=gq h2 f2
    have z1:=StrsAre.len s1
    have z2:=StrsAre.len s2
    rw [Do] at z1 z2
    by_cases hl:vs.length=ws.length
    ·have e:(F7 vs.toArray.size).all (fun j=>decide (l'[j]?=m'[j]?))=jw l' m':=by rw [DJ,z1,jT (by lia)]
     rw [←e] at q
     exact ⟨fun K=>LA (e:=fun j=>decide (l'[j]?=m'[j]?)) ⟨_,g1,rfl,k1,rfl⟩ ⟨_,g2,rfl,k2,rfl⟩ hl hu (jm s1 s2) (K _ _ q),
      fun K=>JF (e:=fun j=>decide (l'[j]?=m'[j]?)) ⟨_,g1,rfl,k1,rfl⟩ ⟨_,g2,rfl,k2,rfl⟩ hl hu (jm s1 s2) _ _ _ _ (K _ _ q)⟩
    ·rw [qV fun e=>hl (by rw [z1,z2,e])] at q
     have q:=q
     exact ⟨fun K=>JW ⟨_,g1,rfl,k1,rfl⟩ ⟨_,g2,rfl,k2,rfl⟩ (bne_iff_ne.mpr hl) hu (K _ _ q),fun K=>Il ⟨_,g1,rfl,k1,rfl⟩ ⟨_,g2,rfl,k2,rfl⟩ (bne_iff_ne.mpr hl) hu _ _ _ _ (K _ _ q)⟩
  ·refine lK q fun l' f1 q=>lK q fun m' f2 q=>?_
   have s1:=gq h1 f1
   have s2:=gq h2 f2
   have z1:=StrsAre.len s1
   have z2:=StrsAre.len s2
   rw [Do] at z1 z2
   have e:((F7 (min vs.toArray.size ws.toArray.size)).all (fun j=>decide (l'[j]?=m'[j]?))&&vs.toArray.size==ws.toArray.size)=jw l' m':=by
    rw [DJ,DJ,z1,z2]
    by_cases hl:l'.length=m'.length
    ·rw [←hl,Nat.min_self,jT hl,beq_self_eq_true,Bool.and_true]
    ·have:(l'.length==m'.length)=false:=by simpa using hl
     rw [this,JJ,qV fun e=>hl (by rw [e])]
   rw [←e] at q
   exact ⟨fun K=>SeqAt.eq_tupleAt (e:=fun j=>decide (l'[j]?=m'[j]?)) ⟨_,g1,rfl,k1,rfl⟩ ⟨_,g2,rfl,k2,rfl⟩ hu (jm s1 s2) (K _ _ q),
    fun K=>Hj.tuples (e:=fun j=>decide (l'[j]?=m'[j]?)) ⟨_,g1,rfl,k1,rfl⟩ ⟨_,g2,rfl,k2,rfl⟩ hu (jm s1 s2) _ _ _ _ (K _ _ q)⟩
 cases a with
 |int x=>
  refine aG ha fun t zz1=>?_
  clear ha
  subst zz1
  refine asI_v q hb fun y u q=>?_
  rw [←(by rw [fR];simp [BEq.beq]:(x==y)=j5 x y)] at q
  exact ⟨fun K=>PyProof.Rows.eq_int (K _ _ q),fun K=>PyProof.Rows.ne_int (K _ _ q)⟩
 |str x=>
  refine aG ha fun t zz3=>?_
  clear ha
  subst zz3
  refine asS_v q hb fun y u q=>?_
  rw [←kA] at q
  exact ⟨fun K=>PyProof.Rows.eq_str (K _ _ q),fun K=>PyProof.Rows.ne_str (K _ _ q)⟩
 |bytes x=>
  refine dG ha fun a t zz5 hA=>?_
  clear ha
  subst zz5
  refine asB_v q hb fun y b u hB q=>?_
  rw [←yB hA hB] at q
  exact ⟨fun K=>PySem.W.eq_bytes (K _ _ q),fun K=>PySem.W.ne_bytes (K _ _ q)⟩
 |bool x=>
  cases ha
  refine asBo_v q hb fun y q=>?_
  rw [(by cases x<;>cases y<;>rfl:cond x y (!y)=(x==y))] at q
  exact ⟨fun K=>PyProof.Rows.eq_bool (K _ _ q),fun K=>PyProof.Rows.ne_bool (K _ _ q)⟩
 |_=>exact both q
theorem qW:(l.map aV).any (fun y=>y==aV x)=fm x l:=by
 rw [vn,List.any_map]
 congr 1
 funext y
 show (aV y==aV x)=_
 rw [kA,gp]
theorem VR.none_iff (h:VR ρ c v) (hc:c≠.none):v≠.none:=by
 cases c with
 |none=>exact absurd rfl hc
 |bool=>cases h;intro e;cases e
 |int=>obtain ⟨t,rfl⟩:=h;intro e;cases e
 |str=>obtain ⟨t,rfl⟩:=h;intro e;cases e
 |bytes=>obtain ⟨a,t,rfl,_⟩:=h;intro e;cases e
 |obj=>obtain ⟨a,_,rfl⟩:=h;intro e;cases e
 |top=>cases h;intro e;cases e
theorem wT (h:StrsAre ws ys):ws.any (fun v=>match v with|.str y _=>y==aV x|_=>false)=ys.any (fun y=>y==aV x):=by
 induction h with
 |nil=>rfl
 |cons Z1 Z2 Z3 ih=>simp [ih]
theorem xI (TV:ni C) (H:aZ C n sc S hid m mD ρ loc σ s.heap) (ha:VR ρ a va) (hb:VR ρ b vb) (q:dn.mem C.T σ a b Qb):
  ((∀r tk,Qb r->Qm (.bool r) {s with toks:=tk})->wpAny (model C.prog C.w) S.A (compareOp .In va vb) Qm E s)/\
  ((∀r tk,Qb r->Qm (.bool (!r)) {s with toks:=tk})->wpAny (model C.prog C.w) S.A (compareOp .NotIn va vb) Qm E s):=by
 refine asS_v q ha fun x t q=>?_
 have other:l7 C.T σ b (fun l=>rZ l fun l=>Qb (fm x l)) (fun l=>rZ l fun l=>Qb (fm x l))->
   ((∀r tk,Qb r->Qm (.bool r) {s with toks:=tk})->wpAny (model C.prog C.w) S.A (compareOp .In (.str (aV x) t) vb) Qm E s)/\
   ((∀r tk,Qb r->Qm (.bool (!r)) {s with toks:=tk})->wpAny (model C.prog C.w) S.A (compareOp .NotIn (.str (aV x) t) vb) Qm E s):=fun q=>by
  refine onL_v TV H hb q (fun l ws y k2 g2 h2 q=>lK q fun l' f q=>?_) fun l ws y k2 g2 h2 q=>lK q fun l' f q=>?_
  ·have s1:=gq h2 f
   have key:∀v∈ws.toArray,JB S.A.in1 s v (.str (aV x) t) (match v with|.str y _=>y==aV x|_=>false):=by
    intro v hv
    obtain ⟨j,hj,rfl⟩:=KM (List.mem_toArray.mp hv)
    refine ro (StrsAre.at s1 hj) fun a2 u e2=>?_
    rw [e2]
    exact JY _ _ _ _
   have e:ws.toArray.any (fun v=>match v with|.str y _=>y==aV x|_=>false)=fm x l':=by
    rw [List.any_toArray,wT s1,qW]
   rw [←e] at q
   exact ⟨fun K=>SeqAt.in_listAt _ ⟨_,g2,rfl,k2,rfl⟩ key (K _ _ q),fun K=>SeqAt.notIn_listAt _ ⟨_,g2,rfl,k2,rfl⟩ key (K _ _ q)⟩
  ·have s1:StrsAre ws.toArray.toList _:=gq h2 f
   rw [←qW] at q
   have q:=q
   exact ⟨fun K=>in_tuple_strs ⟨_,g2,rfl,k2,rfl⟩ s1 (K _ _ q),fun K=>notin_tuple_strs ⟨_,g2,rfl,k2,rfl⟩ s1 (K _ _ q)⟩
 cases b with
 |str y=>
  refine aG hb fun u zz11=>?_
  clear hb
  subst zz11
  refine vf (G:=fun x=>((∀r tk,Qb r->Qm (.bool r) {s with toks:=tk})->wpAny (model C.prog C.w) S.A (compareOp .In (.str (aV x) t) (.str (aV y) u)) Qm E s)/\
   ((∀r tk,Qb r->Qm (.bool (!r)) {s with toks:=tk})->wpAny (model C.prog C.w) S.A (compareOp .NotIn (.str (aV x) t) (.str (aV y) u)) Qm E s)) q fun x q=>?_
  have e:(!(Jc (aV y) (aV [x]) 0 (aV y).length 1).isEmpty)=gS x y:=by
   rw [uu]
   exact StrLaws.found_one (aV y) x
  rw [←e] at q
  exact ⟨fun K=>PyProof.Rows.in_str (K _ _ q),fun K=>PyProof.Rows.notIn_str (K _ _ q)⟩
 |_=>exact other q
theorem zG (H:aZ C n sc S hid m mD ρ loc σ s.heap) (ha:VR ρ a va) (hb:VR ρ b vb) (h:dn.isn a b p q):vb=.none/\(va=.none/\p\/va≠.none/\q):=by
 cases b with
 |none=>
  refine ⟨hb,?_⟩
  cases a with
  |none=>exact .inl ⟨ha,h⟩
  |_=>exact .inr ⟨VR.none_iff ha nofun,h⟩
 |_=>cases a<;>exact h.elim
theorem mr (TV:ni C) (H:aZ C n sc S hid m mD ρ loc σ s.heap) (ho:wj o op=true) (ha:VR ρ a va) (hb:VR ρ b vb)
  (q:dn fl C.T σ o a b Qb) (K:∀r tk,Qb r->Qm (.bool r) {s with toks:=tk}):wpAny (model C.prog C.w) S.A (compareOp op va vb) Qm E s:=by
 obtain rfl:=of_decide_eq_true ho
 cases o with
 |lt=>exact asI_v q ha fun x t q=>asI_v q hb fun y u q=>PyProof.Rows.lt_int (K _ _ (gO x y▸q))
 |le=>
  cases a with
  |int x=>
   refine aG ha fun t zz13=>?_
   clear ha
   subst zz13
   exact asI_v q hb fun y u q=>PyProof.Rows.le_int (K _ _ (eZ x y▸q))
  |str x=>
   refine aG ha fun t zz15=>?_
   clear ha
   subst zz15
   refine asS_v q hb fun y u q=>PySem.P.le_str ?_
   have e:(decide ((aV y).cps.toList<(aV x).cps.toList))=A5 y x:=by
    rw [E5,decide_eq_true_iff,AG]
    rfl
   rw [e]
   exact K _ _ q
  |_=>exact q.elim
 |gt=>exact asI_v q ha fun x t q=>asI_v q hb fun y u q=>PyProof.Rows.gt_int (K _ _ (gO y x▸q))
 |ge=>exact asI_v q ha fun x t q=>asI_v q hb fun y u q=>PyProof.Rows.ge_int (K _ _ (eZ y x▸q))
 |eq=>exact (xP TV H ha hb q).1 K
 |ne=>exact (xP TV H ha hb (Qb:=fun r=>Qb (!r)) q).2 fun r tk h=>K _ tk h
 |is=>
  refine aD (zG H ha hb q) fun zz17 h=>?_
  subst zz17
  rcases h with ⟨rfl,h⟩|⟨e,h⟩
  ·exact is_none_none (K _ s.toks h)
  ·exact is_none_ne e (K _ s.toks h)
 |isnot=>
  refine aD (zG H ha hb q) fun zz18 h=>?_
  subst zz18
  rcases h with ⟨rfl,h⟩|⟨e,h⟩
  ·exact isnot_none_none (K _ s.toks h)
  ·exact isnot_none_ne e (K _ s.toks h)
 |isin=>exact (xI TV H ha hb q).1 K
 |notin=>exact (xI TV H ha hb (Qb:=fun r=>Qb (!r)) q).2 fun r tk h=>K _ tk h
end
theorem AY:∀{l:List CV} {vs:List Dk} {r:List Int},dc ρ l vs->lx l=some r->IntsAre vs r:=by
 intro x0
 induction x0 with
 |nil=>
  intro vs _ x e
  cases vs with
  |nil=>cases e;exact .nil
  |cons Z1 Z2=>exact x.elim
 |cons a l ihh=>
  intro vs r x e
  cases vs with
  |nil=>exact x.elim
  |cons v vs=>
   refine iZ e fun b r e1 e2=>?_
   cases a with
   |int y=>exact aG x.1 fun t hv=>rwT hv (sE e1 (.cons _ t (ihh x.2 e2)))
   |_=>cases e1
theorem ui:∀l:List Int,sx l=l.sum
 |[]=>rfl
 |a::l=>by rw [C0,ui l,List.sum_cons]
theorem uM:∀l:List Int,BQ l=true↔KBa.In l
 |[]=>by simp [Ck,Cy,KBa.In]
 |a::l=>by
  have:=uM l
  simp only [Ck,Cy,Dl,cA,dq,this,KBa.In,Dv,forall_eq_or_imp]
theorem rt (h:48<=c) (h':c<=57):PySem.intText? (aV [c])=some ((c-48:Nat):Int):=by
 have e:∀k:Nat,k<10->PySem.intText? (aV [48+k])=some ((k:Nat):Int):=by decide+kernel
 have:=e (c-48) (JT h (Ft h':c<48+10))
 rw [Ge h] at this
 exact this
theorem nU (h:10<=n):Km 10 n=Km 10 (n/10)++[Nat.digitChar (n%10)]:=by
 rw [Nat.toDigits_of_base_le (by decide) h]
theorem jy:∀d:Nat,d<10->(Nat.digitChar d).toNat=48+d:=by decide
theorem ye:∀(f k:Nat),k<10^f->f≠0->iL f k=(Km 10 k).map Char.toNat:=by
 intro x0
 induction x0 with
 |zero=>
  intro _ _ h
  exact absurd rfl h
 |succ f ihh=>
  intro k hk _
  simp only [vz,vq]
  by_cases h:k<10
  ·rw [fG.mpr h,Nat.toDigits_of_lt_base h]
   simp [jy k h]
  ·have:E1 k 10=false:=by
    cases q:E1 k 10 with
    |false=>rfl
    |true=>exact absurd (fG.mp q) h
   rw [this,nU (by lia),Dw]
   rw [cond_false]
   rw [ihh (k/10) (by rw [Nat.pow_succ] at hk;lia) (by rintro rfl;simp at hk;lia:f≠0)]
   simp [jy (k%10) (by lia)]
theorem AS {i:Int} (h0:0<=i) (h1:i<10^20):Eu (toString i)=aV (iL 21 i.toNat):=by
 refine aG (Int.eq_ofNat_of_zero_le h0) fun k zz1=>?_
 subst zz1
 have hk:k<10^20:=by
  lia
 have:=PySem.W.KIN.signs_num k
 rw [ye 21 k (by lia) (by decide),←this]
 rfl
structure yK (C:Cx):Prop where
 toB:∀{A:E3} {E:Dk->Dm->Prop} {s:Dm} {a:Du} {b:Array UInt8} {Q:Dk->Dm->Prop},A.handled=none\/True->s.heap.get? a=some (cH b)->b.size<=100000->A.units+20<cLine->
  (∀h' tk t,(∀x o,s.heap.get? x=some o->h'.get? x=some o)->Q (.bytes b t) (aQ s h' tk))->aq (model C.prog C.w) A (call (.type "bytes") [.ref a]) Q E s
 ofB:∀{A:E3} {E:Dk->Dm->Prop} {s:Dm} {b:Array UInt8} {t:Tok} {Q:Dk->Dm->Prop},s.heap.NoLimit->A.depth<990->A.handled=none->b.size<=100000->A.units+20<cLine->
  (∀h' tk a,(∀x o,s.heap.get? x=some o->h'.get? x=some o)->h'.get? a=some (cH b)->s.heap.get? a=none->s.heap.objs.size<=a->Q (.ref a) (aQ s h' tk))->aq (model C.prog C.w) A (call (.type "bytearray") [.bytes b t]) Q E s
 ofN:∀{A:E3} {E:Dk->Dm->Prop} {s:Dm} {Q:Dk->Dm->Prop},s.heap.NoLimit->A.depth<990->A.handled=none->A.units+20<cLine->
  (∀h' tk a,(∀x o,s.heap.get? x=some o->h'.get? x=some o)->h'.get? a=some (cH #[])->s.heap.get? a=none->s.heap.objs.size<=a->Q (.ref a) (aQ s h' tk))->aq (model C.prog C.w) A (call (.type "bytearray") []) Q E s
 ofBB:∀{A:E3} {E:Dk->Dm->Prop} {s:Dm} {b:Array UInt8} {t:Tok} {Q:Dk->Dm->Prop},A.units+20<cLine->
  (∀tk t',Q (.bytes b t') {s with toks:=tk})->aq (model C.prog C.w) A (call (.type "bytes") [.bytes b t]) Q E s
theorem y9 {h h':DI} {L:Du} {h₀:DI} {m:Str->Option Dk} {os:List (Du×Obj)} (F:Fr h₀ L h m) (N:HM h₀ L h (hid++os)) {a:Du} {o:Obj}
  (k:∀x o,h.get? x=some o->h'.get? x=some o) (g:h'.get? a=some o) (e:h.get? a=none):Fr h₀ L h' m/\HM h₀ L h' ((a,o)::(hid++os))/\∀p∈hid++os,p.1≠a:=by
 refine ⟨F.keeps k,fun p hp=>?_,fun p hp q=>?_⟩
 ·rcases Dv.mp hp with rfl|hp
  ·refine ⟨g,fun q=>?_,?_⟩
   ·refine jo F.ns fun o Z0 Z0 ho Z0=>?_
    rw [←q] at ho
    have:h.get? a=some o:=ho
    rw [e] at this;cases this
   ·cases z:h₀.get? a with
    |none=>rfl
    |some o=>have:=F.keep _ _ z;rw [e] at this;cases this
  ·exact ⟨k _ _ (N p hp).1,(N p hp).2⟩
 ·have:=(N p hp).1
  rw [q,e] at this;cases this
theorem BS {G:Prop} {l:List CV} {vs:List Dk} {f:List Int->Prop} (h:dc ρ l vs) (q:QU l f) (k:∀r,IntsAre vs r->f r->G):G:=gg q fun r e q=>k r (AY h e) q
theorem aX.new (R:aX C S hid m ρ σ s.heap) (q:Q (.obj σ.length) (σ++[co])) (hf:o.isFreed=false) (ho:OR C (ρ++[s.heap.objs.size]) co o) (K:bQ C S hid m ρ s Q Qm):Qm (.ref s.heap.objs.size) (aQ s (s.heap.push o) tk):=by
 exact aX.e R fun os F N nd eq O=>aX.newN nd eq O (F.push _) (N.push F _ hf) (d9 N) q ho K
theorem aX.newA (R:aX C S hid m ρ σ s.heap) {tk:Nat} (hk:∀x o,s.heap.get? x=some o->h'.get? x=some o) (ha:h'.get? a=some o) (hn:s.heap.get? a=none) (q:Q (.obj σ.length) (σ++[co])) (ho:OR C (ρ++[a]) co o) (K:bQ C S hid m ρ s Q Qm):Qm (.ref a) (aQ s h' tk):=by
 exact aX.e R fun os F N nd eq O=>eU (y9 F N hk ha hn) fun F' N' fr=>aX.newN nd eq O F' N' fr q ho K
theorem Bo:(if y<x then y else x)=cond (eB y x) y x:=by
 rw [gO]
 by_cases h:y<x<;>simp [h]
theorem zm {G:Prop} {h:DI} {i:Nat} {a:Du} {f:List CV->Prop} {g:List Int->Prop} (R:aX C S hid m ρ σ h) (ea:ρ[i]?=some a) (q:nW σ i f g) (k:∀l vs k1,am σ i=some (.list l)->h.get? a=some (listOf (EO vs) k1)->dc ρ l vs->f l->G) (k2:∀l (b:Array UInt8),am σ i=some (.barr l)->KBw.bInts b=l->h.get? a=some (cH b)->g l->G):G:=by
 unfold nW at q
 cases e1:am σ i with
 |none=>rw [e1] at q;exact q.elim
 |some o=>rw [e1] at q;cases o with
  |list l=>
   refine ay (R.get' e1 ea) fun o1 zz3 g1=>?_
   obtain ⟨vs,k1,e,h1⟩:=zz3
   exact k l vs k1 e1 (e▸g1) h1 q
  |barr l=>
   refine ay (R.get' e1 ea) fun o1 zz6 g1=>?_
   obtain ⟨b,rfl,h1⟩:=zz6
   exact k2 l b e1 h1 g1 q
  |_=>exact q.elim
theorem xJ (BO:yK C) (H:aZ C n sc S hid m mD ρ loc σ s.heap) {fl:Bool} {f:Bf} {as:List CV} {vs:List Dk} (ha:dc ρ as vs)
  (q:cQ fl C.T σ f as Q) (K:bQ C S hid m ρ s Q Qm):aq (model C.prog C.w) S.A (call (B5 f) vs) Qm E s:=by
 have pr:ρ<+:ρ:=DM ρ
 have hu:S.A.units+20<cLine:=by have:=H.1.9;simp only [cLine];lia
 have hd:S.A.depth<990:=by have:=H.1.8;lia
 have hlim:s.heap.NoLimit:=(H.1.3.nolimit).keeps H.6.1.keep
 cases f with
 |len=>
  refine ar1_v q ha fun c v h q=>nn ?_
  cases c with
  |str x=>
   refine aG h fun t zz9=>?_
   clear h
   subst zz9
   refine aD (aW q) fun g q=>?_
   have g:=aR.mp g
   refine PyProof.Rows.len_str (by simp [aV,Fv];lia) ?_
   rw [aV,Fv,DJ]
   exact K _ _ _ _ _ _ q ⟨_,rfl⟩ pr H.6
  |bytes x=>
   refine dG h fun a t zz11 hA=>?_
   clear h
   subst zz11
   refine aD (aW q) fun g q=>?_
   have g:=aR.mp g
   exact KBw.len_K hA (by lia) (K _ _ _ _ _ _ q ⟨_,rfl⟩ pr H.6)
  |obj i=>
   refine ay h fun a ea zz14=>?_
   clear h
   subst zz14
   refine iW H.6 ea q fun l vs k1 e1 g1 hv q=>aD (aW q) fun g q=>?_
   have g:=aR.mp g
   have hl:=hv.len
   refine PyProof.Rows.len_list ⟨_,g1,rfl,k1,rfl⟩ (by rw [DJ];lia) ?_
   rw [DJ,←hl]
   exact K _ _ _ _ _ _ q ⟨_,rfl⟩ pr H.6
  |_=>exact q.elim
 |int=>
  refine ar1_v q ha fun c v h q=>nn ?_
  cases c with
  |int i=>obtain ⟨t,rfl⟩:=h;exact PySem.call_int_int (K _ _ _ _ _ _ q ⟨_,rfl⟩ pr H.6)
  |bool b=>
   obtain rfl:=h
   refine PySem.call_int_bool ?_
   rw [(by cases b<;>rfl:(if b=true then (1:Int) else 0)=cond b 1 0)]
   exact K _ _ _ _ _ _ q ⟨_,rfl⟩ pr H.6
  |str x=>
   refine aG h fun t zz17=>?_
   clear h
   subst zz17
   refine vf (G:=fun x=>wpAny (model C.prog C.w) S.A (call (B5 .int) [.str (aV x) t]) Qm E s) q fun c q=>aD (aW q) fun g q=>?_
   simp only [Dl,aR] at g
   exact PySem.W.KIN.call_text (rt g.1 g.2) (by simp [aV,Fv]) (K _ _ _ _ _ _ q ⟨_,rfl⟩ pr H.6)
  |_=>exact q.elim
 |str=>
  refine ar1_v q ha fun c v h q=>asI_v q h fun i t q=>nn (aD (aW q) fun g q=>?_)
  simp only [Dl,cA,dq] at g
  have g:=g
  refine PySem.P.str_of_int ?_ ?_
  ·by_cases z:i.natAbs=0
   ·rw [z];decide
   ·refine (Nat.log2_lt z).mpr (DZ (m:=2^67) (lc (GU (by decide) g.1) (Int.lt_trans g.2 (by decide))) (EM (n:=2) (i:=67) (j:=1920) (by decide) (by decide)))
  ·rw [AS g.1 g.2]
   exact K _ _ _ _ _ _ q ⟨_,rfl⟩ pr H.6
 |abs=>
  refine ar1_v q ha fun c v h q=>asI_v q h fun i t q=>nn (PyProof.Rows.call_abs_int fun u tk=>?_)
  have e:(if i<0 then -i else i)=cond (eB i 0) (-i) i:=by
   rw [gO]
   by_cases h:i<0<;>simp [h]
  rw [e]
  exact K _ _ _ _ _ _ q ⟨_,rfl⟩ pr H.6
 |sum=>
  refine ar1_v q ha fun c v h q=>asO_v q h fun i a ea q=>nn (iW H.6 ea q fun l vs k1 e1 g1 hv q=>BS hv q fun r hi q=>aD (aW q) fun g q=>aX.e H.6 fun os F N nd eq O=>PySem.W.sumK H.1.7 F N ⟨_,g1,rfl,k1,rfl⟩ hi fun h' tk t' F' N'=>?_)
  rw [←ui]
  exact K _ _ _ _ _ _ q ⟨_,rfl⟩ pr ⟨F',os,N',nd,eq,O⟩
 |min=>
  refine ar2_v q ha fun c v d w h h2 q=>asI_v q h fun x t q=>asI_v q h2 fun y u q=>nn (aX.e H.6 fun os F N nd eq O=>PyProof.Rows.min_two_N H.1.7 F N fun h' tk F' N'=>?_)
  rw [Bo]
  exact K _ _ _ _ _ _ q ⟨_,rfl⟩ pr ⟨F',os,N',nd,eq,O⟩
 |max=>
  refine ar2_v q ha fun c v d w h h2 q=>asI_v q h fun x t q=>asI_v q h2 fun y u q=>nn (aX.e H.6 fun os F N nd eq O=>PyProof.Rows.max_two_N H.1.7 F N fun h' tk F' N'=>?_)
  have e:(if y > x then y else x)=cond (eB x y) y x:=by
   rw [gO]
   by_cases h:x<y<;>simp [h]
  rw [e]
  exact K _ _ _ _ _ _ q ⟨_,rfl⟩ pr ⟨F',os,N',nd,eq,O⟩
 |bytes=>
  refine ar1_v q ha fun c v h q=>?_
  cases c with
  |bytes x=>
   refine dG h fun a t zz19 hA=>?_
   clear h
   subst zz19
   exact BO.ofBB hu fun tk t'=>K _ _ _ _ _ _ q ⟨_,_,rfl,hA⟩ pr H.6
  |obj i=>
   refine ay h fun a ea zz22=>?_
   clear h
   subst zz22
   refine zm H.6 ea q (fun l vs k1 e1 g1 hv q=>BS hv q fun r hi q=>?_) fun l b e1 h1 g1 q=>?_
   ·refine aD (aW q) fun g q=>?_
    simp only [Dl,aR,uM] at g
    refine aX.e H.6 fun os F N nd eq O=>?_
    have hl:=hi.length
    exact nn (KBa.make_K F N H.1.7 ⟨_,g1,rfl,k1,rfl⟩ hi g.1 (by lia) fun h' t' k F' N' hin=>K _ _ _ _ _ _ q ⟨_,_,rfl,KBa.ints_make hin⟩ pr ⟨F',os,N',nd,eq,O⟩)
   ·refine aD (aW q) fun g q=>?_
    have g:=aR.mp g
    have hl:=eA h1
    exact BO.toB (.inr trivial) g1 (by lia) hu fun h' tk t hk=>K _ _ _ _ _ _ q ⟨_,_,rfl,h1⟩ pr (H.6.keeps hk)
  |_=>exact q.elim
 |bytearray=>
  cases as with
  |nil=>cases vs with
   |cons Z1 Z2=>exact ha.elim
   |nil=>exact BO.ofN hlim hd H.1.7 hu fun h' tk a hk ha hn hs=>H.6.newA (co:=.barr []) hk ha hn q ⟨#[],rfl,rfl⟩ K
  |cons c l=>
   have q:nZ (c::l) fun a=>vZ a fun x=>fL fl (Dn x.length 100000) (Q (.obj σ.length) (σ++[.barr x])):=q
   refine ar1_v q ha fun c v h q=>asB_v q h fun x b t hB q=>aD (aW q) fun g q=>?_
   have g:=aR.mp g
   have hl:=eA hB
   exact BO.ofB hlim hd H.1.7 (by lia) hu fun h' tk a hk ha hn hs=>H.6.newA hk ha hn q ⟨b,rfl,hB⟩ K
 |chr=>
  refine ar1_v q ha fun c v h q=>asI_v q h fun i t q=>nn (aD (aW q) fun g q=>?_)
  simp only [Dl,cA,dq] at g
  exact PyProof.Rows.chr_of_range g.1 (by lia) (K _ _ _ _ _ _ q ⟨_,rfl⟩ pr H.6)
 |ord=>
  exact ar1_v q ha fun c v h q=>asS_v q h fun x t q=>nn (vf (G:=fun x=>wpAny (model C.prog C.w) S.A (call (B5 .ord) [.str (aV x) t]) Qm E s) q fun c q=>PyProof.Rows.ord_of_one (x:=aV _) rfl (K _ _ _ _ _ _ q ⟨_,rfl⟩ pr H.6))
 |range=>
  cases as with
  |nil=>exact q.elim
  |cons c l=>cases vs with
   |nil=>exact ha.elim
   |cons v vs=>
    refine asI_v (G:=fun v=>aq (model C.prog C.w) S.A (call (B5 .range) (v::vs)) Qm E s) q ha.1 fun a t q=>?_
    cases l with
    |nil=>cases vs with
     |cons=>exact ha.2.elim
     |nil=>
      exact aD (aW q) fun g q=>nn (PySem.call_range_1 (H.6.new q rfl ⟨_,_,_,rfl⟩ K))
    |cons d l=>cases vs with
     |nil=>exact ha.2.elim
     |cons w vs=>
      refine asI_v (G:=fun w=>aq (model C.prog C.w) S.A (call (B5 .range) (_::w::vs)) Qm E s) q ha.2.1 fun b u q=>?_
      cases l with
      |nil=>cases vs with
       |cons=>exact ha.2.2.elim
       |nil=>
        exact aD (aW q) fun g q=>nn (PySem.call_range_2 (H.6.new q rfl ⟨_,_,_,rfl⟩ K))
      |cons d l=>
       refine ar1_v q ha.2.2 fun c v h q=>asI_v q h fun c r q=>aD (aW q) fun g q=>?_
       simp only [Dl,cA,dq,Ec,fR,decide_eq_false_iff_not] at g
       refine nn (PySem.call_range_3 g.2.2 (H.6.new q rfl ⟨_,_,_,rfl⟩ K) (.inl ?_))
       exact yM (by
        have c1:=g.2.1.1
        have c2:=g.2.1.2
        clear g
        lia)
def Q6:Nat->String
 |1=>"str"|2=>"list"|3=>"dict"|_=>"bytearray"
def OP (m:Mk) (n:Nat):String:=match m with
 |.append=>cond (Dy n 2) "list.append" "bytearray.append"
 |.extend=>"list.extend"|.count=>"list.count"|.index=>"list.index"
 |.split=>"str.split"|.find=>"str.find"|.join=>"str.join"|.get=>"dict.get"
structure ki (C:Cx):Prop where
 pa:PlainAttrs "bytearray"
 slot:Slot "bytearray" "append" "bytearray.append"
 ty:typeOf (.builtin "bytearray.append")=pure (.type "method_descriptor")
 app:∀{A:E3} {E:Dk->Dm->Prop} {s:Dm} {a:Du} {b:Array UInt8} {c:Int} {t:Tok} {Q:Dk->Dm->Prop},s.heap.get? a=some (cH b)->0<=c->c<256->b.size<=100000->
  (∀tk,Q .none (aQ s (s.heap.update a (fun Z0=>cH (b.push c.toNat.toUInt8))) tk))->aq (model C.prog C.w) A (call (.builtin "bytearray.append") [.ref a,.int c t]) Q E s
 cut:∀{A:E3} {E:Dk->Dm->Prop} {s:Dm} {a sl:Du} {b x:Array UInt8} {lo hi:Int} {t u v:Tok} {Q:Unit->Dm->Prop},s.heap.get? a=some (cH b)->
  s.heap.get? sl=some {cls:=.type "slice",data:=.fields #[.int lo t,.int hi u,.none]}->0<=lo->lo<=hi->hi<=b.size->b.size<=1000->x.size<=1000->A.units+20<cLine->
  (∀h' tk,(∀y o,s.heap.get? y=some o->y≠a->h'.get? y=some o)->h'.get? a=some (cH (b.extract 0 lo.toNat++x++b.extract hi.toNat b.size))->Q () (aQ s h' tk))->
  aq (model C.prog C.w) A (setItem (.ref a) (.ref sl) (.bytes x v)) Q E s
theorem fq {T id:String} {n:String} {l:List Nat} (h:Slot T (Eu n) id) (e:Eu n=aV l):Slot T (aV l) id:=e▸h
section
variable {ρ:List Du} {loc:aP} {σ:al} {s:Dm} {Q:bu} {Qm:Dk->Dm->Prop} {E:Dk->Dm->Prop}
theorem QN (H:aZ C n sc S hid m mD ρ loc σ s.heap) (ho:VR ρ o vo) (hk:bz σ o≠0):s.TypeIs vo (Q6 (bz σ o))/\∀a,vo=.ref a->∃ob,s.heap.get? a=some ob/\ob.dict=none:=by
 cases o with
 |str x=>obtain ⟨t,rfl⟩:=ho;exact ⟨rfl,nofun⟩
 |obj i=>
  refine ay ho fun a ea zz1=>?_
  clear ho
  subst zz1
  unfold bz at hk ⊢
  dsimp only at hk ⊢
  cases e1:am σ i with
  |none=>rw [e1] at hk;exact absurd rfl hk
  |some co=>
   rw [e1] at hk
   refine ay (H.6.get' e1 ea) fun ob r g1=>?_
   cases co with
   |list l=>obtain ⟨vs,k1,rfl,h1⟩:=r;exact ⟨⟨_,g1,rfl⟩,fun b e=>by cases e;exact ⟨_,g1,rfl⟩⟩
   |dict l=>obtain ⟨vs,k1,rfl,h1⟩:=r;exact ⟨⟨_,g1,rfl⟩,fun b e=>by cases e;exact ⟨_,g1,rfl⟩⟩
   |barr l=>obtain ⟨vs,rfl,h1⟩:=r;exact ⟨⟨_,g1,rfl⟩,fun b e=>by cases e;exact ⟨_,g1,rfl⟩⟩
   |_=>exact absurd rfl hk
 |_=>exact absurd rfl hk
theorem C3 (BM:ki C) (H:aZ C n sc S hid m mD ρ loc σ s.heap) {k:Mk} {o:CV} {vo:Dk} (ho:VR ρ o vo) (q:jK k (bz σ o)=true) {pl:Sem Bool} {Qg:Dk×List Dk->Dm->Prop}
  (h:Qg (.builtin (OP k (bz σ o)),[vo]) s):wpAny (model C.prog C.w) S.A (getMethod vo (aV (SL k)) pl) Qg E s:=by
 have ty:=QN H ho fun e=>by rw [e] at q;cases k<;>cases q
 generalize bz σ o=kd at q ty h
 cases k with
 |append=>
  rcases (Fm _ _).mp q with q|q<;>obtain rfl:=Dz q
  ·exact E6 ty.1 GW (fq PySem.F.slot_list_append (by decide+kernel)) PySem.F.type_list_append ty.2 h
  ·exact E6 ty.1 BM.pa (fq BM.slot (by decide+kernel)) BM.ty ty.2 h
 |index=>cases q
 |_=>
  obtain rfl:=Dz q
  first
  |exact E6 ty.1 GW (fq Jv (by decide+kernel)) PySem.F.type_list_extend ty.2 h
  |exact E6 ty.1 GW (fq PySem.F.slot_list_count (by decide+kernel)) PySem.F.type_list_count ty.2 h
  |exact E6 ty.1 G9 (fq JN (by decide+kernel)) PySem.F.type_str_split ty.2 h
  |exact E6 ty.1 G9 (fq PySem.F.slot_str_find (by decide+kernel)) PySem.F.type_str_find ty.2 h
  |exact E6 ty.1 G9 (fq PySem.F.slot_str_join (by decide+kernel)) PySem.F.type_str_join ty.2 h
  |exact E6 ty.1 PySem.F.plainAttrs_dict (fq JX (by decide+kernel)) PySem.F.type_dict_get ty.2 h
theorem nB (x a:List Nat):∀l:List (List Nat),jz x (a::l)=a++(l.map (x++·)).flatten
 |[]=>by simp [vg,vp,lX]
 |b::r=>by
  have:=nB x b r
  rw [lX,this]
  simp
theorem r6 (x:List Nat):∀(l:List (List Nat)) (acc:List Nat),(l.map aV).foldl (fun acc p=>acc++(aV x).cps++p.cps) acc.toArray=(acc++(l.map (x++·)).flatten).toArray:=by
 intro x0
 induction x0 with
 |nil=>
  intro acc
  simp
 |cons a l ihh=>
  intro acc
  rw [DB,Jp,(by simp [aV]:acc.toArray++(aV x).cps++(aV a).cps=(acc++x++a).toArray),ihh]
  simp
theorem sK (x:List Nat):∀l:List (List Nat),Txt.join (aV x) (l.map aV)=aV (jz x l):=by
 intro x0
 induction x0 with
 |nil=>
  exact rfl
 |cons a l ihh=>
  rw [nB]
  show Str.mk ((l.map aV).foldl (fun acc p=>acc++(aV x).cps++p.cps) a.toArray)=_
  rw [r6]
  rfl
theorem yb (x:List Nat):∀l:List (List Nat),JZ (.str (aV x)) ((l.map aV).map PyData.str)=nO x l
 |[]=>rfl
 |y::l=>by
  rw [DB,JZ,KV.same,yb x l,zF,kA]
  cases aF y x<;>simp<;>lia
theorem nv:∀(tk:Nat) (l:List Str),dc ρ (l.map fun y=>CV.str y.cps.toList) (strsFrom tk l)
 |Z1,[]=>trivial
 |tk,x::r=>⟨⟨tk,by simp [aV]⟩,nv (tk+1) r⟩
theorem DR.find (w:C.w=C.w):∀{l:List (List Nat×CV)} {es:List EL},DR C ρ l es->∀(x:List Nat),match w8 l x with
  |some v=>∃e,es.find? (fun e=>GZ (aV x) e.key)=some e/\VR ρ v e.val
  |none=>es.find? (fun e=>GZ (aV x) e.key)=none:=by
 intro x0
 induction x0 with
 |nil=>
  intro y4
  cases y4 with
  |nil=>
   intro _ _
   exact rfl
  |cons Z1 Z2=>
   intro h _
   exact h.elim
 |cons p l ihh=>
  intro y4
  cases y4 with
  |nil=>
   intro h _
   exact h.elim
  |cons e es=>
   intro h x
   refine iG h fun zz4 hh hv hr=>?_
   obtain ⟨t,hk⟩:=zz4
   have ih:=ihh hr x
   have hb:GZ (aV x) e.key=aF p.1 x:=by
    rw [hk]
    exact kA _ _
   rw [CG]
   rw [LR,hb]
   cases aF p.1 x with
   |true=>exact ⟨e,rfl,hv⟩
   |false=>exact ih
theorem DR.keys:∀{l:List (List Nat×CV)} {es:List EL},DR C ρ l es->∀e∈es,∃x:Str,(strKind C.prog C.w).is x e.key=true/\e.hash=(strKind C.prog C.w).hash x:=by
 intro x0
 induction x0 with
 |nil=>
  intro y4
  cases y4 with
  |nil=>
   intro _ _ h
   exact nomatch h
  |cons Z1 Z2=>
   intro h _ _
   exact h.elim
 |cons p l ihh=>
  intro y4
  cases y4 with
  |nil=>
   intro h _ _
   exact h.elim
  |cons e es=>
   intro h e' hm
   rcases Dv.mp hm with rfl|hm
   ·refine iG h fun zz8 hh hv hr=>?_
    obtain ⟨t,hk⟩:=zz8
    exact ⟨aV p.1,by rw [hk];exact HZ _ _ _ _,hh⟩
   ·exact ihh h.2.2.2 e' hm
end
section
variable {C:Cx} {n:Nat} {sc:Ef} {S:bT} {hid:List (Du×Obj)} {m mD:Str->Option Dk} {ρ:List Du} {loc:aP} {σ:al} {s:Dm} {Q:bu} {Qm:Dk->Dm->Prop} {E:Dk->Dm->Prop}
theorem aX.set (R:aX C S hid m ρ σ h) (e:am σ i=some co) (ea:ρ[i]?=some a) (hs:Er a h h') (ho':h'.get? a=some o') (hr:OR C ρ co' o'):aX C S hid m ρ (aU σ i co') h':=by
 refine aX.e R fun os F N nd eq O=>ay (O.get e) fun p h1 h2=>?_
 have hp:p.1=a:=by
  rw [←eq,DH,h1] at ea
  injection ea
 have h1':os[i]?=some (a,p.2):=by rw [h1,←hp]
 refine P7 ((tQ (o':=o') nd h1').split) fun pre post e1 e2 c1 c2=>?_
 have N':=N
 rw [e1] at N'
 have N':=N'
 have z:=N' (a,p.2) (DL.mpr (.inr (.head _)))
 refine aX.turn nd eq O h1' (F.change hs z.2.1 z.2.2) ?_ hr
 rw [e2]
 exact news_set N' c1 c2 hs ho'
theorem dc.snoc:∀{l:List CV} {vs:List Dk} {c:CV} {v:Dk},dc ρ l vs->VR ρ c v->dc ρ (l++[c]) (vs++[v]):=by
 intro x0
 induction x0 with
 |nil=>
  intro y4
  cases y4 with
  |nil=>
   intro _ _ _ h
   exact ⟨h,trivial⟩
  |cons Z1 Z2=>
   intro _ _ x _
   exact x.elim
 |cons Z1 Z2 ihh=>
  intro y4
  cases y4 with
  |nil=>
   intro _ _ x _
   exact x.elim
  |cons Z1 Z2=>
   intro _ _ x h
   exact ⟨x.1,ihh x.2 h⟩
theorem mF:findBy (strKind C.prog C.w).is es x=(es.toList.find? (fun e=>GZ x e.key)).map (·.val):=by
 unfold findBy
 rw [←Array.find?_toList]
 rfl
theorem ue (h0:0<=c) (h1:c<256):KBw.bInts (b.push c.toNat.toUInt8)=KBw.bInts b++[c]:=by
 rw [KBw.bInts,Array.toList_push,Dw,DB,FL]
 congr 2
 have:c.toNat.toUInt8.toNat=c.toNat:=by simp;lia
 rw [this]
 lia
theorem w4 {G:Prop} {h:DI} {i:Nat} {a:Du} {f:List (List Nat×CV)->Prop} (R:aX C S hid m ρ σ h) (ea:ρ[i]?=some a) (q:C7 σ i f) (k:∀l es k1,am σ i=some (.dict l)->h.get? a=some (dictOf es k1)->DR C ρ l es->(l.map (·.1)).Nodup->f l->G):G:=by
 unfold C7 at q
 cases e1:am σ i with
 |none=>rw [e1] at q;exact q.elim
 |some o=>rw [e1] at q;refine ay (R.get' e1 ea) fun o1 r g1=>?_;cases o with
  |dict l=>refine cV r fun es k1 e h1 nd=>?_;exact k l es k1 e1 (e▸g1) h1 nd q
  |_=>exact q.elim
theorem A2 (sm:∃o,C.K.lookup sysModules=some o) (H:aZ C n sc S hid m mD ρ loc σ s.heap) {i:Nat} (ea:ρ[i]?=some a):(a==sysModules)=false:=by
 refine aG sm fun o ho=>aX.e H.6 fun os F N nd eq O=>?_
 have h0:=H.1.2 _ _ ho
 rw [←eq,DH] at ea
 have ea:=ea
 cases z:os[i]? with
 |none=>rw [z] at ea;cases ea
 |some p=>
  rw [z] at ea
  injection ea with ea
  have:=(N p (DF _ (DU z))).2.2
  rw [beq_eq_false_iff_ne]
  rintro rfl
  rw [(show p.1=sysModules from ea),h0] at this
  cases this
theorem yQ (BM:ki C) (sm:∃o,C.K.lookup sysModules=some o) (H:aZ C n sc S hid m mD ρ loc σ s.heap) {fl:Bool} {k:Mk} {kd:Nat} {o:CV} {vo:Dk} {as:List CV} {vs:List Dk} (ho:VR ρ o vo) (hk:jK k kd=true) (ha:dc ρ as vs)
  (q:cO fl σ k kd o as Q) (K:bQ C S hid m ρ s Q Qm):aq (model C.prog C.w) S.A (call (.builtin (OP k kd)) (vo::vs)) Qm E s:=by
 have pr:ρ<+:ρ:=DM ρ
 cases k with
 |append=>
  refine asO_v q ho fun i a ea q=>ar1_v q ha fun c v hv q=>zm H.6 ea q (fun l vs k1 e1 g1 h1 q=>?_) fun l b e1 h1 g1 q=>asI_v q hv fun c t q=>?_
  ·refine aD (aW q) fun g z=>?_
   simp only [Dl,aR] at g
   obtain rfl:=Dz g.1
   have hl:=h1.len
   refine nn (append_at (D:=a) g1 (fun h' hs ho'=>K _ _ _ _ _ _ z rfl pr (H.6.set e1 ea hs ho' ⟨vs++[v],k1+1,?_,h1.snoc hv⟩)) (by rw [DJ];simp [sizeLine];lia))
   simp
  ·refine aD (aW q) fun g z=>?_
   simp only [Dl,aR,cA,dq] at g
   obtain rfl:=Dz g.2.1
   have hl:=eA h1
   refine BM.app g1 g.1.1 g.1.2 (by lia) fun tk=>K _ _ _ _ _ _ z rfl pr (H.6.set e1 ea (FQ ..) (o':=cH (b.push c.toNat.toUInt8)) ?_ ⟨_,rfl,?_⟩)
   ·rw [Fc _ g1 rfl]
   ·rw [ue g.1.1 g.1.2,h1]
 |extend=>
  refine asO_v q ho fun i a ea q=>ar1_v q ha fun c v hv q=>asO_v q hv fun j b eb q=>iW H.6 ea q fun l vs k1 e1 g1 h1 q=>iW H.6 eb q fun l2 ws k2 e2 g2 h2 q=>aD (aW q) fun g q=>?_
  simp only [Dl,aR] at g
  have hz:vs.toArray.size+ws.toArray.size<=100000:=by rw [DJ,DJ,←h1.len,←h2.len];exact g.2
  show aq _ _ (call (.builtin "list.extend") [.ref a,.ref b]) _ _ _
  refine nn (call_meets Jv ⟨_,g1,rfl⟩ PySem.F.entry_list_extend (PySem.F.args_list_extend_2 _ _) (PySem.AutoSeq1.list_extend_list_list_0 a vs.toArray k1 b ws.toArray k2 ?_ ?_ ?_) ⟨g1,g2,?_⟩)
  ·simp [D1.List.listTooLong,sizeLine]
   simp at hz
   lia
  ·simp only [sizeLine];lia
  ·simp only [sizeLine];lia
  ·refine K _ _ _ _ _ _ q rfl pr (H.6.set e1 ea (FQ ..) (o':=listOf (vs.toArray++ws.toArray) (if ((vs.toArray++ws.toArray).size==vs.toArray.size)=true then k1 else k1+1)) ?_ ⟨vs++ws,if ((vs.toArray++ws.toArray).size==vs.toArray.size)=true then k1 else k1+1,by simp,h1.app h2⟩)
   rw [Fc _ g1 rfl]
   rfl
 |count=>
  refine asO_v q ho fun i a ea q=>ar1_v q ha fun c v hv q=>asS_v q hv fun x t q=>iW H.6 ea q fun l vs k1 e1 g1 h1 q=>lK q fun r f1 q=>aD (aW q) fun g q=>nn (PyProof.Rows.count_list_strs ⟨_,g1,rfl,k1,rfl⟩ (gq h1 f1) ?_)
  rw [yb]
  exact K _ _ _ _ _ _ q ⟨_,rfl⟩ pr H.6
 |split=>
  refine asS_v q ho fun x u q=>ar1_v q ha fun c v hv q=>asS_v q hv fun p t q=>vf (G:=fun p=>aq (model C.prog C.w) S.A (call (.builtin "str.split") [.str (aV x) u,.str (aV p) t]) Qm E s) q fun c q=>aD (aW q) fun g q=>?_
  simp only [Dl,aR,CF,Ec] at g
  refine nn (call_meets JN (typeIs_str _ _ _) PySem.F.entry_str_split (PySem.F.args_str_split_2 _ _) (meets_str_split_sep (aV _) (aV _) _ _ g.1.1.2.1 rfl g.1.1.2.2 (by simp [aV,Fv,sizeLine];lia) ?_) (H.6.new q rfl ⟨_,0,rfl,?_⟩ K))
  ·have:=g.2
   unfold MO at this
   rw [Do] at this
   exact Dr this (by decide)
  ·have:=nv (ρ:=ρ++[s.heap.objs.size]) s.toks (D1.Str.partsBetween (aV x) (Jc (aV x) (aV [c]) 0 (aV x).length ((aV x).length+1)) 1)
   rw [EJ]
   exact this
 |find=>
  exact asS_v q ho fun x r q=>ar2_v q ha fun c v d w hv hw q=>asS_v q hv fun p t q=>asI_v q hw fun i u q=>aD (aW q) fun g q=>nn (PySem.SC.find3 (K _ _ _ _ _ _ q ⟨_,rfl⟩ pr H.6))
 |join=>
  refine asS_v q ho fun x r q=>ar1_v q ha fun c v hv q=>asO_v q hv fun i a ea q=>iW H.6 ea q fun l vs k1 e1 g1 h1 q=>lK q fun r f1 q=>aD (aW q) fun g q=>?_
  simp only [Dl,aR] at g
  refine nn (PyProof.Rows.join_list ⟨_,g1,rfl,k1,rfl⟩ (gq h1 f1) ?_ fun t' k=>?_)
  ·have:((r.map aV).map (·.length))=r.map (·.length):=by simp [aV,Fv,Function.comp_def]
   rw [this,Do]
   have:=g.2
   rw [aV,Fv,DJ]
   lia
  ·rw [sK]
   exact K _ _ _ _ _ _ q ⟨_,rfl⟩ pr H.6
 |get=>
  refine asO_v q ho fun i a ea q=>ar2_v q ha fun c v d w hv hw q=>asS_v q hv fun x t q=>w4 H.6 ea q fun l es k1 Z0 g1 h1 Z0 q=>aD (aW q) fun g q=>?_
  have hf:=h1.find rfl x
  show aq _ _ (call (.builtin "dict.get") [.ref a,.str (aV x) t,w]) _ _ _
  refine nn (call_meetsIn JX ⟨_,g1,rfl⟩ PySem.F.entry_dict_get (PySem.F.args_dict_get_3 _ _ _) (meets_dict_get_default (strKind C.prog C.w) a (k:=aV x) (HZ _ _ _ _) (A2 sm H ea) w) ⟨findBy (strKind C.prog C.w).is _,⟨_,_,_,g1,⟨rfl,rfl,rfl⟩,rfl,?_,fun Z0=>rfl⟩,?_⟩)
  ·intro e he
   exact h1.keys e (by simpa using he)
  ·rw [mF]
   cases e2:w8 l x with
   |some v=>
    rw [e2] at hf q
    refine ay hf fun e he hv=>?_
    rw [he]
    exact K _ _ _ _ _ _ q hv pr H.6
   |none=>
    rw [e2] at hf q
    rw [hf]
    exact K _ _ _ _ _ _ q hw pr H.6
 |index=>exact q.elim
end
theorem nF (slice:Expr) (o i:Dk):∃ops,subscripted slice false o i=operate ops (getItem o i):=by
 cases slice with
 |Slice Z1 Z2 c=>cases c<;>exact ⟨_,rfl⟩
 |_=>exact ⟨[o,i],GG (operate [o,i] (getItem o i))⟩
theorem wo:∀z:Int,(max 0 z).toNat=z.toNat
 |.ofNat _=>congrArg Int.toNat (Hh (EC _))
 |.negSucc _=>rfl
theorem uk (n:Nat) (i:Int):clipAt n i=cE n i:=by
 refine (wo _).trans ?_
 unfold cE
 by_cases h1:i<0
 ·rw [bk h1,if_pos h1,HA (by have:=KI (I9 h1) (n:Int);rwa [Ht] at this)]
  rfl
 ·rw [cJ (EZ.mp h1),if_neg h1]
  by_cases h2:(n:Int)<i
  ·rw [bk h2,Int.min_eq_right (I9 h2)]
   rfl
  ·rw [cJ (EZ.mp h2),HA (EZ.mp h2)]
   rfl
theorem AB (n:Nat) (i:Int):cE n i<=n:=by
 rw [←uk]
 exact Int.toNat_le.mpr (Int.max_le.mpr ⟨EC n,Int.min_le_right _ _⟩)
theorem rV (e:h-l=n) (k:h<=n) (p:n≠0):l=0/\h=n:=by
 have q:h=n:=Nat.le_antisymm k (e▸Fd h l)
 refine ⟨?_,q⟩
 cases l with
 |zero=>rfl
 |succ l=>exact absurd (q▸e:n-(l+1)=n) (D9 (Nat.sub_lt (Nat.pos_of_ne_zero p) (I8 l)))
theorem m9 (n:Nat):clipAt n=cE n:=funext (uk n)
theorem oO (lo hi:Option Int) (n:Nat):Ik lo hi 1 n=sliceRange ((lo.elim 0 (cE n):Nat):Int) ((hi.elim n (cE n):Nat):Int) 1:=by
 have:=sliceBounds_plain lo hi n
 rw [m9] at this
 have this:=this
 have h1:=congrArg Prod.fst this
 have h2:=congrArg (fun x=>x.2.1) this
 simp only at h1 h2
 rw [←h1,←h2]
 rfl
set_option tactic.hygienic true in
theorem vR (x:List Nat) (lo hi:Option Int):Kd (aV x) lo hi=aV (dF (lo.elim 0 (cE x.length)) (hi.elim x.length (cE x.length)) x):=by
 have hl:(aV x).length=x.length:=by simp [aV,Fv]
 have e2:(Ik lo hi 1 (aV x).length).filterMap ((aV x).cps[·]?)=dF (lo.elim 0 (cE x.length)) (hi.elim x.length (cE x.length)) x:=by
  rw [oO,hl,sliceRange_one,pick_run]
  simp [aV,dF]
 have le:∀i,cE x.length i<=x.length:=AB x.length
 unfold Kd
 split
 ·rename_i h
  simp only [beq_self_eq_true,Bool.true_and,beq_iff_eq] at h
  rw [oO,hl,sliceRange_one] at h
  simp at h
  have h1:hi.elim x.length (cE x.length)<=x.length:=by cases hi<;>simp [le]
  have h2:lo.elim 0 (cE x.length)<=x.length:=by cases lo<;>simp [le]
  congr 1
  unfold dF
  by_cases h3:x.length=0
  ·have:x=[]:=J4.mp h3
   subst this;simp
  ·rw [(rV h h1 h3).1,(rV h h1 h3).2];simp
 ·rw [e2];rfl
theorem fJ (h:r0 i n=true):-(n:Int)<=i/\i<n/\(i<0->cx i n=(i+n).toNat)/\(0<=i->cx i n=i.toNat):=by
 unfold r0 at h
 unfold cx
 by_cases h1:i<0
 ·have e:eB i 0=true:=dq.mpr h1
  rw [e] at h ⊢
  simp only [cond_true,cA] at h
  refine ⟨h,by lia,fun Z0=>rfl,fun z=>absurd h1 (by lia)⟩
 ·have e:eB i 0=false:=by rw [gO];simp [h1]
  rw [e] at h ⊢
  simp only [cond_false,dq] at h
  refine ⟨by lia,h,fun z=>absurd z h1,fun Z0=>rfl⟩
theorem lq (h:r0 i n=true):seqIndex? i n=some (cx i n)/\cx i n<n:=by
 refine iG (fJ h) fun h1 h2 h3 h4=>?_
 unfold seqIndex?
 by_cases z:i<0
 ·have a1:0<=i+(n:Int):=by lia
  rw [h3 z]
  simp [z,a1,(by lia:i+(n:Int)<n)]
 ·have a1:0<=i:=by lia
  rw [h4 a1]
  simp [z,a1,h2]
theorem dc.nth:∀{l:List CV} {vs:List Dk},dc ρ l vs->∀{i:Nat} {c:CV},am l i=some c->∃v,vs[i]?=some v/\VR ρ c v:=by
 intro x0
 induction x0 with
 |nil=>
  intro _ _ _ _ e
  cases e
 |cons Z1 Z2 ihh=>
  intro vs x i c e
  cases vs with
  |nil=>exact x.elim
  |cons v Z1=>
   cases i with
   |zero=>exact sE e ⟨v,rfl,x.1⟩
   |succ i=>exact ihh x.2 e
theorem dc.drop:∀(k:Nat) {l:List CV} {vs:List Dk},dc ρ l vs->dc ρ (l.drop k) (vs.drop k)
 |0,Z1,Z2,x=>x
 |Z1+1,[],[],x=>x
 |k+1,Z1::Z2,Z3::Z4,x=>dc.drop k x.2
 |Z1+1,[],Z2::Z3,x=>x.elim
 |Z1+1,Z2::Z3,[],x=>x.elim
theorem dc.take:∀(k:Nat) {l:List CV} {vs:List Dk},dc ρ l vs->dc ρ (l.take k) (vs.take k)
 |0,Z1,Z2,Z3=>trivial
 |Z1+1,[],[],x=>x
 |k+1,Z1::Z2,Z3::Z4,x=>⟨x.1,dc.take k x.2⟩
 |Z1+1,[],Z2::Z3,x=>x.elim
 |Z1+1,Z2::Z3,[],x=>x.elim
theorem dc.reverse:∀{l:List CV} {vs:List Dk},dc ρ l vs->dc ρ l.reverse vs.reverse:=by
 intro x0
 induction x0 with
 |nil=>
  intro y4
  cases y4 with
  |nil=>
   intro x
   exact x
  |cons Z1 Z2=>
   intro x
   exact x.elim
 |cons Z1 Z2 ihh=>
  intro y4
  cases y4 with
  |nil=>
   intro x
   exact x.elim
  |cons Z1 Z2=>
   intro x
   rw [GX,GX]
   exact (ihh x.2).snoc x.1
section
variable {C:Cx} {n:Nat} {sc:Ef} {S:bT} {hid:List (Du×Obj)} {m mD:Str->Option Dk}
theorem lH {value slice:Expr} {o i:Dk} {T id:String} (hT:s.TypeIs o T) (hl:typeLookup (.type T) "__getitem__"=pure (some (.builtin id))) (hg:wpAny (model C.prog C.w) S.A (getItem o i) Qm E s):wpAny (model C.prog C.w) S.A (subscriptTail value slice o i) Qm E s:=
 (nF slice o i).elim fun Z0 hs=>tail_any hT hl hg hs
theorem AI (H:aZ C n sc S hid m mD ρ loc σ s.heap) (ho:VR ρ o vo) (hi:VR ρ i vi) (q:gQ fl T σ o i Q) (K:bQ C S hid m ρ s Q Qm) (value slice:Expr):
  wpAny (model C.prog C.w) S.A (subscriptTail value slice vo vi) Qm E s:=by
 have pr:ρ<+:ρ:=DM ρ
 cases o with
 |str x=>
  refine aG ho fun t zz1=>?_
  clear ho
  subst zz1
  refine asI_v q hi fun i u q=>aD (aW q) fun g q=>?_
  simp only [Dl,aR] at g
  have g:=g
  refine aD (lq g.1) fun h1 h2=>lH (typeIs_str _ _ _) Jw.lookup (iG (fJ g.1) fun a1 a2 a3 a4=>PySem.P.getItem_str (c:=x[cx i x.length]) ?_ ?_ ?_)
  ·simp;lia
  ·rw [(by simp [aV,Fv]:(aV x).length=x.length),h1]
   simp [aV,(DA h2)]
  ·have e:(x.drop (cx i x.length)).take 1=[x[cx i x.length]]:=by
    rw [JM h2]
    rfl
   rw [e] at q
   exact K _ _ _ _ _ _ q ⟨_,rfl⟩ pr H.6
 |bytes x=>
  refine dG ho fun b t zz5 hB=>?_
  clear ho
  subst zz5
  refine asI_v q hi fun i u q=>aD (aW q) fun g q=>?_
  simp only [Dl,aR] at g
  refine iG (fJ g.1) fun h1 h2 h3 h4=>?_
  have hl:=eA hB
  have hg:∀k:Nat,(b.toList.getD k 0).toNat=x.getD k 0:=fun k=>by
   subst hB
   exact KBw.getD_ints _ _
  refine aD (lq g.1) fun a1 a2=>lH (typeIs_bytes _ _ _) FB.slot_bytes_getitem.lookup (getItem_gives (typeIs_bytes s _ t) (by decide) FB.slot_bytes_getitem FB.entry_bytes_getitem (FB.args_bytes_getitem_2 _ _) (gives_bytes_getitem _ i t u (b.toList.getD (cx i x.length) 0) ?_ ?_) ?_)
  ·simp only [D1.Bytes.fitsIndex,Dl,decide_eq_true_eq];lia
  ·have:b.size=x.length:=by lia
   rw [this,a1]
   simp [(by lia:cx i x.length<b.size)]
  ·rw [hg]
   exact K _ _ _ _ _ _ q ⟨_,rfl⟩ pr H.6
 |obj k=>
  refine ay ho fun a ea zz10=>?_
  clear ho
  subst zz10
  cases i with
  |int i=>
   refine aG hi fun u zz13=>?_
   clear hi
   subst zz13
   refine OY H.6 ea q (fun l vs k1 g1 r1 q=>gg q fun v hv q=>?_) fun l vs k1 g1 r1 q=>gg q fun v hv q=>?_
   ·refine aD (aW q) fun g q=>?_
    simp only [Dl,aR] at g
    refine iG (fJ g.1) fun h1 h2 h3 h4=>ay (r1.nth hv) fun w w1 w2=>?_
    have hl:=r1.len
    refine lH ⟨_,g1,rfl⟩ Jk.lookup ?_
    by_cases hn:i<0
    ·refine wpAny_getItem_list_neg (items:=vs.toArray) ⟨_,g1,rfl,k1,rfl⟩ hn (by rw [DJ];lia) (by lia) (x:=w) ?_ (K _ _ _ _ _ _ q w2 pr H.6)
     rw [DJ,←hl,←h3 hn,Hu]
     exact w1
    ·refine wpAny_getItem_list (items:=vs.toArray) ⟨_,g1,rfl,k1,rfl⟩ (by lia) (by lia) (x:=w) ?_ (K _ _ _ _ _ _ q w2 pr H.6)
     rw [←h4 (by lia),Hu]
     exact w1
   ·refine aD (aW q) fun g q=>?_
    simp only [Dl,aR] at g
    refine iG (fJ g.1) fun h1 h2 h3 h4=>aD (lq g.1) fun a1 a2=>ay (r1.nth hv) fun w w1 w2=>lH ⟨_,g1,rfl⟩ PySem.F.slot_tuple_getitem.lookup (PyProof.Rows.getItem_tuple (items:=vs.toArray) ⟨_,g1,rfl,k1,rfl⟩ (by lia) (by lia) (j:=cx i l.length) ?_ (x:=w) ?_ (K _ _ _ _ _ _ q w2 pr H.6))
    ·rw [DJ,←(r1.len)];exact a1
    ·rw [Hu];exact w1
  |str x=>
   refine aG hi fun u zz24=>?_
   clear hi
   subst zz24
   refine w4 H.6 ea q fun l es k1 e1 g1 h1 Z0 q=>gg q fun v hv q=>?_
   have hf:=h1.find rfl x
   rw [hv] at hf
   refine ay hf fun e he hw=>lH ⟨_,g1,rfl⟩ PySem.F.slot_dict_getitem.lookup (wpAny_getItem_of (knd:=strKind C.prog C.w) (k:=aV x) (f:=findBy (strKind C.prog C.w).is es.toArray) (HZ _ _ _ _) ⟨_,_,_,g1,⟨rfl,rfl,rfl⟩,rfl,?_,fun Z0=>rfl⟩ (v:=e.val) ?_ (K _ _ _ _ _ _ q hw pr H.6))
   ·intro e he
    exact h1.keys e (by simpa using he)
   ·rw [mF]
    simp [he]
  |_=>exact q.elim
 |_=>exact q.elim
theorem nz (H:aZ C n sc S hid m mD ρ loc σ s.heap) {a:Du} {vs:List Dk} {k1:Nat} {va vb vc:Dk} {lo hi st:Option Int} {l:List CV} {value slice:Expr} (g1:s.heap.get? a=some (listOf vs.toArray k1)) (hl:vs.length<=sizeLine)
  (pl:Kr va lo) (pu:Kr vb hi) (pt:Kr vc st) (hst:st≠some 0) (r:∀x,dc (ρ++[x]) l (slicePick vs.toArray lo hi st).toList) (q:Q (.obj σ.length) (σ++[.list l])) (K:bQ C S hid m ρ s Q Qm):
  wpAny (model C.prog C.w) S.A (subscriptTail value slice (.ref a) (.ref s.heap.objs.size)) Qm E {s with heap:=s.heap.push {cls:=.type "slice",data:=.fields #[va,vb,vc]}}:=by
 refine aX.e H.6 fun os F N nd eq O=>lH (T:="list") ⟨_,Dt _ g1,rfl⟩ Jk.lookup ?_
 refine wpAny_getItem_list_slice (items:=vs.toArray) ⟨_,Dt _ g1,rfl,k1,rfl⟩ (Jn _ _ _ _) pl pu pt hst ?_ hl
 exact aX.newN nd eq O ((F.push _).push _) ((N.pushKeep _).push (F.push _) _) (d9 (N.pushKeep _)) q ⟨(slicePick vs.toArray lo hi st).toList,0,by rw [Array.toArray_toList],r _⟩ K
set_option tactic.hygienic true in
theorem zO (H:aZ C n sc S hid m mD ρ loc σ s.heap) {fl:Bool} {o a b c:CV} {vo va vb vc:Dk} (ho:VR ρ o vo) (ha:VR ρ a va) (hb:VR ρ b vb) (hc:VR ρ c vc) (q:bD fl σ o a b c Q) (K:bQ C S hid m ρ s Q Qm) (value slice:Expr):
  wpAny (model C.prog C.w) S.A (subscriptTail value slice vo (.ref s.heap.objs.size)) Qm E {s with heap:=s.heap.push {cls:=.type "slice",data:=.fields #[va,vb,vc]}}:=by
 have pr:ρ<+:ρ:=DM ρ
 have cut:∀{lo hi:Option Int},bD.cut fl σ o Q lo hi->Kr va lo->Kr vb hi->vc=.none->
   wpAny (model C.prog C.w) S.A (subscriptTail value slice vo (.ref s.heap.objs.size)) Qm E {s with heap:=s.heap.push {cls:=.type "slice",data:=.fields #[va,vb,vc]}}:=by
  intro lo hi q pl pu ec
  subst ec
  unfold bD.cut at q
  cases o with
  |str x=>
   refine aG ho fun t zz29=>?_
   clear ho
   subst zz29
   refine aD (aW q) fun g q=>?_
   simp only [Dl,aR] at g
   have hx:(aV x).length<=sizeLine:=by simp [aV,Fv,sizeLine];lia
   have main:∀(l u:Option (Int×Tok)),lo=l.map (·.1)->hi=u.map (·.1)->va=partValue l->vb=partValue u->(sliceMade (aV x) t l u none).post Qm {s with heap:=s.heap.push {cls:=.type "slice",data:=.fields #[va,vb,.none]}}:=by
    intro l u e1 e2 e3 e4
    have key:∀(y:Str) (t':Tok) (k:Nat),y=Kd (aV x) lo hi->Qm (.str y t') {s with heap:=s.heap.push {cls:=.type "slice",data:=.fields #[va,vb,.none]},toks:=k}:=by
     intro y t' k ey
     rw [vR] at ey
     subst ey
     exact K _ _ _ _ _ _ q ⟨_,rfl⟩ pr (H.6.keeps fun Z0 Z0 e=>Dt _ e)
    subst e1 e2
    unfold sliceMade
    split
    ·rename_i h
     exact key _ _ _ (if_pos h).symm
    ·rename_i h
     refine ⟨?_,key _ _ _ (if_neg h).symm⟩
     have:=Txt.slice_le (aV x) (l.map (·.1)) (u.map (·.1))
     rw [(show Kd (aV x) (l.map (·.1)) (u.map (·.1))=_ from if_neg h)] at this
     exact Dr this hx
   refine lH (typeIs_str _ _ _) Jw.lookup ?_
   cases pl with
   |none=>cases pu with
    |none=>exact Gy (l:=none) (u:=none) (st:=none) ⟨_,El _ rfl,rfl,rfl⟩ rfl (main none none rfl rfl rfl rfl)
    |int j v=>exact Gy (l:=none) (u:=some (j,v)) (st:=none) ⟨_,El _ rfl,rfl,rfl⟩ rfl (main none (some (j,v)) rfl rfl rfl rfl)
   |int i w=>cases pu with
    |none=>exact Gy (l:=some (i,w)) (u:=none) (st:=none) ⟨_,El _ rfl,rfl,rfl⟩ rfl (main (some (i,w)) none rfl rfl rfl rfl)
    |int j v=>exact Gy (l:=some (i,w)) (u:=some (j,v)) (st:=none) ⟨_,El _ rfl,rfl,rfl⟩ rfl (main (some (i,w)) (some (j,v)) rfl rfl rfl rfl)
  |bytes x=>
   refine dG ho fun b t zz31 hB=>?_
   clear ho
   subst zz31
   refine aD (aW q) fun g q=>?_
   simp only [Dl,aR] at g
   have hl:=eA hB
   refine lH (typeIs_bytes _ _ _) FB.slot_bytes_getitem.lookup ?_
   refine getItem_meets (typeIs_bytes _ _ _) (by decide) FB.slot_bytes_getitem FB.entry_bytes_getitem (FB.args_bytes_getitem_2 _ _) (KBc.meets_slice2 _ t _ pl pu)
    ⟨Jn _ _ _ _,Dr (KBc.size_picked_le _ lo hi) (by simp only [sizeLine];lia),fun t' k=>?_⟩
   refine K _ _ _ _ _ _ q ⟨_,_,rfl,?_⟩ pr (H.6.keeps fun Z0 Z0 e=>Dt _ e)
   rw [KBc.ints_picked hB,m9]
   rfl
  |obj i=>
   refine ay ho fun a ea zz34=>?_
   clear ho
   subst zz34
   refine ML H.6 ea q fun l vs k1 g1 r1 q=>aD (aW q) fun g q=>?_
   simp only [Dl,aR] at g
   have hl:=r1.len
   refine nz H g1 (by simp only [sizeLine];lia) pl pu .none (by simp) (fun x=>?_) q K
   have z:vs.toArray.size=l.length:=by rw [DJ,hl]
   rw [slicePick_plain,z,m9]
   exact ((r1.mono (cq _ _)).drop _).take _
  |_=>exact q.elim
 cases c with
 |none=>
  have ec:vc=.none:=hc
  cases a with
  |none=>
   cases b with
   |int b=>
    refine aG hb fun u zz49=>?_
    clear hb
    subst zz49
    exact cut q (show Kr va none from (show va=.none from ha)▸.none) (.int _ _) ec
   |_=>exact q.elim
  |int x=>
   refine aG ha fun t zz45=>?_
   clear ha
   subst zz45
   cases b with
   |none=>exact cut q (.int _ _) (show Kr vb none from (show vb=.none from hb)▸.none) ec
   |int y=>
    refine aG hb fun u zz49=>?_
    clear hb
    subst zz49
    exact cut q (.int _ _) (.int _ _) ec
   |_=>exact q.elim
  |_=>exact q.elim
 |int c=>
  refine aG hc fun u zz51=>?_
  clear hc
  subst zz51
  cases a with
  |none=>cases b with
   |none=>
    refine asO_v q ho fun i x ex q=>iW H.6 ex q fun l vs k1 e1 g1 r1 q=>aD (aW q) fun g z=>?_
    simp only [Dl,aR,fR,decide_eq_true_eq] at g
    refine aD g fun g0 g=>?_
    subst g0
    subst (ha) (hb)
    have hl:=r1.len
    refine nz H g1 (by simp only [sizeLine];lia) .none .none (.int _ _) (by simp) (fun x=>?_) z K
    rw [krv_pick]
    exact (r1.mono (cq _ _)).reverse
   |_=>exact q.elim
  |_=>exact q.elim
 |_=>exact q.elim
end
theorem tO {M:Ks} {A:E3} {E E':Dk->Dm->Prop} {s:Dm} {f:List (Code×Pos)->Bool} {Q:Bool->Dm->Prop} (h:∀b,Q b s):wpAny M A stack (fun a s'=>wpAny M A (pure (f a)) Q E s') E' s:=
 wpAny_stack_any fun Z0=>Dx (h _)
theorem wf (b:Array UInt8) (t:Tok):
  Meets (D1.«enumerate.__new__» ⟨[.type "enumerate",.bytes b t],[]⟩) (fun Z0 R s=>
   R (.ok (.ret (.ref (s.heap.push {cls:=.type "bytes_iterator",data:=.fields #[.bytes b t,.int 0 0]}).objs.size)))
    {s with heap:=(s.heap.push {cls:=.type "bytes_iterator",data:=.fields #[.bytes b t,.int 0 0]}).push {cls:=.type "enumerate",data:=.fields #[.none,.bool false,.ref s.heap.objs.size,rawInt 0,.none,.none]}}):=
 .of_wp fun prog w A R s h=>by
  obtain ⟨hp,g,d,tk,os⟩:=s
  have hsub:=sub_enumerate
  wp_walk
  refine tO fun b=>?_
  cases b
  ·wp_walk using PySem.W.KBw.pyIter_bytes
   exact ⟨_,rfl,h⟩
  ·wp_walk using PySem.W.KBw.pyIter_bytes
   exact ⟨_,rfl,h⟩
theorem sS {b:Array UInt8} {t:Tok} {Q:Dk->Dm->Prop}
  (h:∀h',IJ h' (s.heap.objs.size+1) s.heap.objs.size 0 .none->h'.get? s.heap.objs.size=some {cls:=.type "bytes_iterator",data:=.fields #[.bytes b t,.int 0 0]}->
   (∀b o,s.heap.get? b=some o->h'.get? b=some o)->Q (.ref (s.heap.objs.size+1)) {s with heap:=h'}):
  wpAny (model prog w) A (call (.type "enumerate") [.bytes b t]) Q E s:=by
 refine callType_new F.called_enumerate (by decide) (F.typeCall_enumerate_1 _) (F.newCall_enumerate_1 _) (fun obj=>Ie obj _) F.entry_enumerate_new
  (wf b t) ?_
 have hz:(s.heap.push {cls:=.type "bytes_iterator",data:=.fields #[.bytes b t,.int 0 0]}).objs.size=s.heap.objs.size+1:=JI ..
 rw [hz]
 have he:IJ ((s.heap.push {cls:=.type "bytes_iterator",data:=.fields #[.bytes b t,.int 0 0]}).push
   {cls:=.type "enumerate",data:=.fields #[.none,.bool false,.ref s.heap.objs.size,rawInt 0,.none,.none]}) (s.heap.objs.size+1) s.heap.objs.size 0 .none:=by
  have:=El (s.heap.push {cls:=.type "bytes_iterator",data:=.fields #[.bytes b t,.int 0 0]})
   (o:={cls:=.type "enumerate",data:=.fields #[.none,.bool false,.ref s.heap.objs.size,rawInt 0,.none,.none]}) rfl
  rw [hz] at this;exact this
 exact ⟨⟨_,he,rfl⟩,h _ he (Dt _ (El _ rfl)) fun b o y=>Dt _ (Dt _ y)⟩
theorem qz {it:Du} {i:Nat} {b:Array UInt8} {t:Tok} {c:UInt8} {Q:Dk->Dm->Prop} (hit:IsBytesIter s.heap it b t i) (hx:b[i]?=some c)
  (hQ:∀h',IsBytesIter h' it b t (i+1)->Er it s.heap h'->Q (.int (c.toNat:Int) s.toks) (aQ s h' (s.toks+1))):wpAny (model prog w) A (HF (.ref it)) Q E s:=by
 refine iH (id hit) fun o ho hc hd=>?_
 refine Dj (FM (name:=Eu "__next__") (PySem.W.KBw.iter_typeIs hit) PySem.W.KBw.slot_next
  (GJ PySem.W.KBw.slot_next (PySem.W.KBw.iter_typeIs hit) PySem.W.KBw.entry_next ?_ (PySem.W.KBw.args_next _)))
 show wpAny _ _ (field (.ref it) 0 >>=_) _ _ s
 refine Dj (EA ho hd (x:=.bytes b t) rfl ?_)
 rw [if_neg (show ¬((HJ b t==GA)=true) from Dq)]
 refine Dj (EA ho hd (x:=.int i 0) rfl (Dj (D8 (a:=b) rfl ?_)))
 rw [DK,hx]
 refine Dj (Kj ho hd (by simp) (Dj (wpAny_mkInt (Dx ⟨_,rfl,Dx (hQ _ ?_ (FQ ..))⟩))))
 exact ⟨_,Fc _ ho (Obj.isFreed_of_fields (La hd _)),(Obj.cls_mapFields ..).trans hc,by
  rw [La hd];simp [rawInt]⟩
theorem rg {it:Du} {i:Nat} {b:Array UInt8} {t:Tok} {Q:Dk->Dm->Prop} (hh:A.handled=none) (hit:IsBytesIter s.heap it b t i) (hx:b[i]?=none)
  (hE:∀h' e,KE it s.heap h'->(∃o,h'.get? e=some o/\o.cls=.type "StopIteration")->E (.ref e) {s with heap:=h'}):wpAny (model prog w) A (HF (.ref it)) Q E s:=by
 refine iH (id hit) fun o ho hc hd=>?_
 refine Dj (FM (name:=Eu "__next__") (PySem.W.KBw.iter_typeIs hit) PySem.W.KBw.slot_next
  (GJ PySem.W.KBw.slot_next (PySem.W.KBw.iter_typeIs hit) PySem.W.KBw.entry_next ?_ (PySem.W.KBw.args_next _)))
 show wpAny _ _ (field (.ref it) 0 >>=_) _ _ s
 refine Dj (EA ho hd (x:=.bytes b t) rfl ?_)
 rw [if_neg (show ¬((HJ b t==GA)=true) from Dq)]
 refine Dj (EA ho hd (x:=.int i 0) rfl (Dj (D8 (a:=b) rfl ?_)))
 rw [DK,hx]
 refine Dj (Gg (Dj (Kj ho hd (by simp) (Dj ?_))))
 rw [newExc,newTuple]
 refine Dj (Fy ?_ (by size_fits))
 refine Dj (m:=firstArgMember _ _) (D8 (a:=GA) (by first|rfl|(simp only [firstArgMember];rfl)) ?_)
 refine Fy ?_ (by size_fits)
 rw [raiseNew]
 refine Dj (wpAny_handled ?_)
 first|rw [show A.in1.handled=none from hh]|rw [hh]
 refine Dj (Dx (wpAny_throw ?_))
 exact hE _ _ (((FQ ..).extBut.push _).push _) ⟨_,El _ rfl,rfl⟩
theorem gW (x:IsBytesIter h it b t i) (k:KE e h h') (ne:it≠e):IsBytesIter h' it b t i:=let ⟨o,ho,r⟩:=x;⟨o,k _ _ ne ho,r⟩
theorem wz {e it:Du} {i:Nat} {b:Array UInt8} {t:Tok} {c:UInt8} {old:Dk} {Q:Dk->Dm->Prop}
  (he:IJ s.heap e it i old) (hit:IsBytesIter s.heap it b t i) (hx:b[i]?=some c) (hne:e≠it)
  (hQ:∀h' u v tk,K7 h' e it ((i:Int)+1) (.int (c.toNat:Int) u) s.heap.objs.size->IsBytesIter h' it b t (i+1)->
   h'.get? s.heap.objs.size=some {cls:=.type "tuple",data:=.seq #[.int i v,.int (c.toNat:Int) u]}->
   (∀b o,b≠e->b≠it->s.heap.get? b=some o->h'.get? b=some o)->Q (.ref s.heap.objs.size) (aQ s h' tk)):
  wpAny (model prog w) A (D1.«enumerate.__next__» ⟨[.ref e],[]⟩) (fun fin s'=>∃v,fin=.done (.ret v)/\Q v s') E s:=by
 obtain ⟨hp,g,d,tk,os⟩:=s
 show wpAny _ _ (field (.ref e) 2 >>=_) _ _ _
 refine Dj (EA he rfl (x:=.ref it) rfl (Dj (qz hit hx fun h₁ hit₁ hs₁=>?_)))
 replace hs₁:Er it hp h₁:=hs₁
 have he₁:IJ h₁ e it i old:=(hs₁.2 e hne).trans he
 refine Dj (EA he₁ rfl (x:=rawInt i) rfl (Dj (EA he₁ rfl (x:=.none) rfl (Dj (wpAny_mkInt (Dj (Gw he₁ (by simp) fun h₂ he₂ hs₂=>?_)))))))
 replace hs₂:Er e h₁ h₂:=hs₂
 replace he₂:IJ h₂ e it ((i:Int)+1) old:=he₂
 refine Dj (Gw he₂ (by simp) fun h₃ he₃ hs₃=>?_)
 replace hs₃:Er e h₂ h₃:=hs₃
 replace he₃:IJ h₃ e it ((i:Int)+1) old:=he₃
 refine Dj (wpAny_newTuple ?_)
 have he₄:IJ (h₃.push {cls:=.type "tuple",data:=.seq #[.int i (tk+1),.int (c.toNat:Int) tk]}) e it ((i:Int)+1) old:=Dt _ he₃
 generalize hh₄:h₃.push {cls:=.type "tuple",data:=.seq #[.int i (tk+1),.int (c.toNat:Int) tk]}=h₄ at he₄
 have hsz:h₃.objs.size=hp.objs.size:=by rw [hs₃.1,hs₂.1,hs₁.1]
 have hel:e<hp.objs.size:=DT he
 have ht₄:h₄.get? hp.objs.size=some {cls:=.type "tuple",data:=.seq #[.int i (tk+1),.int (c.toNat:Int) tk]}:=by rw [←hh₄,←hsz];exact El _ rfl
 have hk₄:∀b o,b≠e->b≠it->hp.get? b=some o->h₄.get? b=some o:=fun b o hbe hbi hb=>by
  rw [←hh₄];exact Dt _ (hs₃.extBut b o hbe (hs₂.extBut b o hbe (hs₁.extBut b o hbi hb)))
 have hit₄:IsBytesIter h₄ it b t (i+1):=by
  rw [←hh₄];obtain ⟨o,ho,r⟩:=gW (gW hit₁ hs₂.extBut (FP hne)) hs₃.extBut (FP hne);exact ⟨o,Dt _ ho,r⟩
 show wpAny _ _ (Ll (.ref e) >>=_) _ _ ⟨h₄,g,d,tk+1+1,os⟩
 rw [hsz]
 clear hh₄ he₃ hs₃ he₂ hs₂ he₁ hs₁ hit₁ hsz h₃ h₂ h₁
 refine Dj ?_
 ·refine Dj (EA he₄ rfl (x:=.none) rfl (Dx ?_))
  simp only [if_true]
  refine Dj (Gg (Dj (EA he₄ rfl (x:=old) rfl (Dj (Gw he₄ (by simp) fun h₅ he₅ hs₅=>?_)))))
  replace hs₅:Er e h₄ h₅:=hs₅
  replace he₅:IJ h₅ e it ((i:Int)+1) (.int (c.toNat:Int) tk):=he₅
  refine Dj ?_
  ·refine Dj (Gw he₅ (by simp) fun h₆ he₆ hs₆=>?_)
   replace hs₆:Er e h₅ h₆:=hs₆
   replace he₆:K7 h₆ e it ((i:Int)+1) (.int (c.toNat:Int) tk) hp.objs.size:=he₆
   refine Gw he₆ (by simp) fun h₇ he₇ hs₇=>?_
   replace hs₇:Er e h₆ h₇:=hs₇
   replace he₇:K7 h₇ e it ((i:Int)+1) (.int (c.toNat:Int) tk) hp.objs.size:=he₇
   refine Dj (wpAny_letGo (Dx ⟨_,rfl,hQ h₇ tk (tk+1) (tk+1+1) he₇ ?_ ?_ ?_⟩))
   ·exact gW (gW (gW hit₄ hs₅.extBut (FP hne)) hs₆.extBut (FP hne)) hs₇.extBut (FP hne)
   ·exact hs₇.extBut _ _ (Gb hel) (hs₆.extBut _ _ (Gb hel) (hs₅.extBut _ _ (Gb hel) ht₄))
   ·exact fun b o hbe hbi hb=>hs₇.extBut b o hbe (hs₆.extBut b o hbe (hs₅.extBut b o hbe (hk₄ b o hbe hbi hb)))
theorem tc {e it:Du} {i:Nat} {b:Array UInt8} {t:Tok} {c:UInt8} {old:Dk} {Q:Option Dk->Dm->Prop}
  (he:IJ s.heap e it i old) (hit:IsBytesIter s.heap it b t i) (hx:b[i]?=some c) (hne:e≠it)
  (hQ:∀h' u v tk,K7 h' e it ((i:Int)+1) (.int (c.toNat:Int) u) s.heap.objs.size->IsBytesIter h' it b t (i+1)->
   h'.get? s.heap.objs.size=some {cls:=.type "tuple",data:=.seq #[.int i v,.int (c.toNat:Int) u]}->
   (∀b o,b≠e->b≠it->s.heap.get? b=some o->h'.get? b=some o)->Q (some (.ref s.heap.objs.size)) (aQ s h' tk)):
  wpAny (model prog w) A (pyNext (.ref e)) Q E s:=by
 have hT:s.TypeIs (.ref e) "enumerate":=⟨_,he,rfl⟩
 exact Dj (wpAny_attempt (FM (name:=Eu "__next__") hT GE
  (GJ GE hT KG
   (wz he hit hx hne fun h' u v tk a b c d=>Dx (hQ h' u v tk a b c d)) (Kv _))))
theorem wM {e it:Du} {i:Nat} {b:Array UInt8} {t:Tok} {old:Dk} {Q:Option Dk->Dm->Prop} (hh:A.handled=none)
  (he:IJ s.heap e it i old) (hit:IsBytesIter s.heap it b t i) (hx:b[i]?=none)
  (hQ:∀h',KE it s.heap h'->Q none {s with heap:=h'}):wpAny (model prog w) A (pyNext (.ref e)) Q E s:=by
 have hT:s.TypeIs (.ref e) "enumerate":=⟨_,he,rfl⟩
 refine Dj (wpAny_attempt (FM (name:=Eu "__next__") hT GE
  (GJ GE hT KG ?_ (Kv _))))
 show wpAny _ _ (field (.ref e) 2 >>=_) _ _ _
 exact Dj (EA he rfl (x:=.ref it) rfl (Dj (rg hh hit hx fun h' x he' hx'=>ay hx' fun o ho hc=>Dj (Gj (T:="StopIteration") (b:=true) ⟨o,ho,hc⟩ isSubtype_stop (Dx (hQ _ he'))))))
theorem AM (a b c:Int) (h:c≠0):((hV a b c:Nat):Int)=FY a b c:=by
 unfold hV FY
 by_cases h1:c > 0
 ·rw [if_pos h1,show eB 0 c=true from dq.mpr h1,cond_true]
  by_cases h2:a<b
  ·rw [if_pos h2,show eB a b=true from dq.mpr h2,cond_true]
   exact EH (JP (Jy (HR (JU h2)) (I9 h1)) (by decide))
  ·rw [if_neg h2,show eB a b=false from cJ (EZ.mp h2),cond_false];rfl
 ·rw [if_neg h1,show eB 0 c=false from cJ (EZ.mp h1),cond_false]
  by_cases h2:a > b
  ·rw [if_pos h2,show eB b a=true from dq.mpr h2,cond_true]
   exact EH (JP (Jy (HR (JU h2)) (Int.neg_nonneg_of_nonpos (EZ.mp h1))) (by decide))
  ·rw [if_neg h2,show eB b a=false from cJ (EZ.mp h2),cond_false];rfl
theorem sN:∀(n:Nat) (a c:Int) (j:Nat) (v:CV),(cR n a c)[j]?=some v->v=.int (a+j*c):=by
 intro x0
 induction x0 with
 |zero=>
  intro _ _ _ _ h
  simp [gY,fO] at h
 |succ n ihh=>
  intro a c y4
  cases y4 with
  |zero=>
   intro v h
   simp [gY,fO] at h
   rw [←h];simp
  |succ j=>
   intro v h
   simp only [gY,fO,Hb] at h
   have:=ihh (a+c) c j v h
   rw [this]
   congr 1
   push_cast
   rw [Int.add_mul]
   lia
theorem r9:∀(n:Nat) (a c:Int),(cR n a c).length=n:=by
 intro x0
 induction x0 with
 |zero=>
  intro _ _
  exact rfl
 |succ n ihh=>
  intro a c
  simp [gY,fO,ihh]
theorem ru (k:Nat):∀(n:Nat) (a c:Int),CV.obj k∉cR n a c:=by
 intro x0
 induction x0 with
 |zero=>
  intro _ _
  simp [gY,fO]
 |succ n ihh=>
  intro a c
  simp [gY,fO,ihh]
inductive Rq (C:Cx) (ρ:List Du) (l:List CV) (I:Du) (own:List (Du×Obj)):Prop
 |mk (n:Nat) (P:Nat->Dk->Prop) (St:Nat->DI->Prop) (i:Nat) (o:Obj) (e:own=[(I,o)]) (W:∀A:E3,A.handled=none->Walks C.prog C.w A I [I] [I] n P St) (live:∀i h,St i h->∃o,h.get? I=some o)
  (st:∀h:DI,h.get? I=some o->St i h) (hn:i+l.length=n) (ha:∀k,CV.obj k∉l) (hP:∀j c v,l[j]?=some c->P (i+j) v->VR ρ c v)
inductive SV (ρ:List Du) (k i:Nat) (I:Du) (own:List (Du×Obj)):Prop
 |mk (la:Du) (o:Obj) (ek:ρ[k]?=some la) (e:own=[(I,o)]) (hc:o.cls=.type "list_iterator") (hd:o.data=.fields #[.ref la,.int i 0])
inductive Q5 (ρ:List Du) (j k i:Nat) (I:Du) (own:List (Du×Obj)):Prop
 |mk (TI TO i1 i2 l1 l2:Du) (a b:Dk) (o1 o2:Obj) (ej:ρ[j]?=some l1) (ek:ρ[k]?=some l2) (e:own=[(I,{cls:=.type "zip",dict:=none,data:=.fields #[.none,.bool false,.bool false,.ref TI,.ref TO],slots:=#[]}),(TI,{cls:=.type "tuple",data:=.seq #[.ref i1,.ref i2]}),(TO,{cls:=.type "tuple",data:=.seq #[a,b]}),(i1,o1),(i2,o2)])
  (c1:o1.cls=.type "list_iterator") (d1:o1.data=.fields #[.ref l1,.int i 0]) (c2:o2.cls=.type "list_iterator") (d2:o2.data=.fields #[.ref l2,.int i 0])
inductive Tf (l:List CV) (i:Nat) (I:Du) (own:List (Du×Obj)):Prop
 |mk (it:Du) (b:Array UInt8) (t:Tok) (old:Dk) (oi:Obj) (e:own=[(I,{cls:=.type "enumerate",dict:=none,data:=.fields #[.none,.bool false,.ref it,rawInt (i:Int),.none,old],slots:=#[]}),(it,oi)]) (hc:oi.cls=.type "bytes_iterator") (hd:oi.data=.fields #[.bytes b t,.int i 0]) (hl:l=((KBw.bInts b).drop i).map CV.int)
def ee (C:Cx) (ρ:List Du):It->Du->List (Du×Obj)->Prop
 |.seq l,I,own=>Rq C ρ l I own
 |.lst k i,I,own=>SV ρ k i I own
 |.zip j k i,I,own=>Q5 ρ j k i I own
 |.enm l i,I,own=>Tf l i I own
theorem aX.hidTurn (R:aX C S (own++hid) m ρ σ h) (k:∀b o,b∉own.map (·.1)->h.get? b=some o->h'.get? b=some o) (g:∀p∈own',h'.get? p.1=some p.2)
  (e:own'.map (·.1)=own.map (·.1)\/own'=[]):aX C S (own'++hid) m ρ σ h':=by
 refine aX.e R fun os F N nd eq O=>?_
 have hL:S.L∉own.map (·.1):=fun h=>by
  exact ay (DV.mp h) fun p hp e=>(N p (DN _ (DN _ hp))).2.1 e
 have ho:∀b o,S.h₀.get? b=some o->b∉own.map (·.1):=fun b o x h=>by
  refine ay (DV.mp h) fun p hp e=>?_
  have:=(N p (DN _ (DN _ hp))).2.2
  rw [e,x] at this
  cases this
 have nd':=nd
 rw [Di,Dw,D3] at nd'
 have nd':=nd'
 refine ⟨(⟨F.ns.at fun o e=>k _ _ hL e,fun b o e=>k _ _ (ho b o e) (F.keep b o e),F.above⟩),os,fun p hp=>?_,?_,eq,O⟩
 ·rw [Di] at hp
  rcases DL.mp hp with q|q
  ·rcases e with e|e
   ·have:p.1∈own.map (·.1):=e▸DE q
    exact ay (DV.mp this) fun p' hp' e'=>⟨g p q,e'▸(N p' (DN _ (DN _ hp'))).2⟩
   ·rw [e] at q;cases q
  ·have z:=N p (by rw [Di];exact DF _ q)
   exact ⟨k _ _ ((fun p hp h=>nd'.2.2 _ h _ (DE hp) rfl) p q) z.1,z.2⟩
 ·rcases e with e|e
  ·rw [Di,Dw,e,←Dw,←Di]
   exact nd
  ·subst e
   exact nd'.2.1
theorem aX.mem (R:aX C S (own++hid) m ρ σ h) (hp:p∈own):h.get? p.1=some p.2:=by
 obtain ⟨F,os,N,_⟩:=R
 exact (N p (DN _ (DN _ hp))).1
theorem aX.apart (R:aX C S (own++hid) m ρ σ h) {i:Nat} (e:ρ[i]?=some a):∀p∈own,p.1≠a:=by
 refine aX.e R fun os F N nd eq O=>?_
 intro p hp q
 rw [Di,Dw,D3] at nd
 refine nd.2.2 p.1 (DE hp) a ?_ q
 rw [Dw,eq]
 exact DF _ (DU e)
theorem aX.hide (R:aX C S hid m ρ σ h) (k:∀b o,h.get? b=some o->h'.get? b=some o) (g:h'.get? a=some o) (e:h.get? a=none):aX C S ((a,o)::hid) m ρ σ h':=by
 refine aX.e R fun os F N nd eq O=>eU (y9 F N k g e) fun F' N' fr=>⟨F',os,N',?_,eq,O⟩
 rw [DB,D6]
 refine ⟨fun h=>?_,nd⟩
 exact ay (DV.mp h) fun p hp e=>fr p hp e
theorem nw (h:DI):h.get? h.objs.size=none:=by
 cases e:h.get? h.objs.size with
 |none=>rfl
 |some o=>exact absurd (DT e) (EN _)
theorem aX.hideP (R:aX C S hid m ρ σ h) (o:Obj) (hf:o.isFreed=false):aX C S ((h.objs.size,o)::hid) m ρ σ (h.push o):=
 R.hide (fun Z0 Z0 e=>Dt _ e) (El _ hf) (nw h)
theorem uz (h1:(x.map fun c=>CV.str [c])[j]?=some c) (h2:SignAt (aV x) (0+j) v):VR ρ c v:=by
 refine dG h2 fun d u h3 e=>?_
 rw [DH,(by simpa [aV] using h3:x[j]?=some d)] at h1
 cases h1
 exact ⟨u,e⟩
theorem wZ (R:aX C S hid m ρ σ s.heap) (K:∀I own h' tk,ee C ρ (.seq (x.map fun c=>.str [c])) I own->aX C S (own++hid) m ρ σ h'->Qm (.ref I) (aQ s h' tk)):
  wpAny (model C.prog C.w) S.A (pyIter (.str (aV x) t)) Qm E s:=by
 refine wpAny_pyIter_strU (K _ [_] _ _ ?_ (R.hideP _ rfl))
 have e:(aV x).cps.size=x.length:=by simp [aV]
 unfold strIterType
 cases hw:(aV x).cps.all (·<128) with
 |true=>exact ⟨x.length,SignAt (aV x),(fun i h=>h.IsStrIter _ "str_ascii_iterator" (aV x) t i),0,_,rfl,fun A hA=>e▸Walks.strAscii hA _ _ _,fun i h z=>z.imp fun Z0 q=>q.1,fun h z=>⟨_,z,rfl,rfl⟩,by simp,by simp,fun Z0 Z0 Z0=>uz⟩
 |false=>exact ⟨x.length,SignAt (aV x),(fun i h=>h.IsStrIter _ "str_iterator" (aV x) t i),0,_,rfl,fun A hA=>e▸Walks.strWide hA _ _ _,fun i h z=>z.imp fun Z0 q=>q.1,fun h z=>⟨_,z,rfl,rfl⟩,by simp,by simp,fun Z0 Z0 Z0=>uz⟩
theorem Bu (h1:((KBw.bInts b).map CV.int)[j]?=some c) (h2:∃c u,b[0+j]?=some c/\v=.int (c.toNat:Int) u):VR ρ c v:=by
 refine dG h2 fun d u h3 e=>?_
 rw [DH] at h1
 have h1:=h1
 have h3':(KBw.bInts b)[j]?=some (d.toNat:Int):=KBw.ints_get (by simpa using h3)
 rw [h3'] at h1
 cases h1
 exact ⟨u,e⟩
theorem vW (hb:rT x y z=true):Jl x y z=true/\(hV x y z:Int)=FY x y z/\hV x y z<=200000:=by
 simp only [rT,Dl,cA,dq,Ec,fR,decide_eq_false_iff_not] at hb
 have hb:=hb
 have en:=AM x y z (hb.2.2)
 have x1:=hb.1.1.1
 have x2:=hb.1.1.2
 have y1:=hb.1.2.1
 have y2:=hb.1.2.2
 have z1:=hb.2.1.1
 have z2:=hb.2.1.2
 clear hb
 have e0:(hV x y z:Int)<=200000:=by
  rw [en,rangeSize_toNat]
  have:=rangeSize_toNat_le x y z
  rw [←Int.neg_sub y x,Int.toNat_add_toNat_neg_eq_natAbs] at this
  exact EK.mpr (Dr this (EP (lc (n:=200000) (by lia) (by lia))))
 refine ⟨?_,en,EK.mp e0⟩
 have f:∀i:Int,-1000000<=i->i<1000000->H8 i=true:=fun i h1 h2=>by
  unfold H8
  simp only [Dl,decide_eq_true_eq]
  exact ⟨PH h1 rfl,OD h2 rfl⟩
 unfold Jl
 rw [f x (by lia) (by lia),f y (by lia) (by lia),f z (by lia) (by lia),f _ (by rw [←en];lia) (by lia),f _ (by lia) (by lia),f _ (by lia) (by lia),ite_self,GN]
 rfl
theorem zI (hb:rT x y z=true) (g1:IsRange s.heap a x y z t u r) (R:aX C S hid m ρ σ s.heap)
  (K:∀I own h' tk,ee C ρ (.seq (cR (hV x y z) x z)) I own->aX C S (own++hid) m ρ σ h'->Qm (.ref I) (aQ s h' tk)):wpAny (model C.prog C.w) S.A (pyIter (.ref a)) Qm E s:=by
 refine eU (vW hb) fun hs en e0=>wpAny_pyIter_range g1 hs (K _ [_] _ _ ?_ (R.hideP _ rfl))
 refine ⟨hV x y z,_,_,0,_,rfl,fun A hA=>Walks.range hA _ x z _,fun i h z=>⟨_,z⟩,fun h q=>?_,by rw [r9,GP],fun k=>ru k _ _ _,fun j c v h1 h2=>?_⟩
 ·have e1:rawInt (x+((0:Nat):Int)*z)=rawInt x:=by simp
  have e2:rawInt (((hV x y z:Nat):Int)-((0:Nat):Int))=rawInt (FY x y z):=by rw [en];simp
  show _=_
  rw [e1,e2]
  exact q
 ·refine aG h2 fun u zz23=>?_
  rw [zz23,sN _ _ _ _ _ h1,GP]
  exact ⟨u,rfl⟩
theorem uC (H:aZ C n sc S hid m mD ρ loc σ s.heap) (hv:VR ρ cv v) (q:cI σ cv=some it)
  (K:∀I own h' tk,ee C ρ it I own->aX C S (own++hid) m ρ σ h'->Qm (.ref I) (aQ s h' tk)):wpAny (model C.prog C.w) S.A (pyIter v) Qm E s:=by
 revert hv K
 refine it_e q (fun x hv K=>?_) (fun x hv K=>?_) (fun k l e1 hv K=>?_) fun k x y z e1 hb hv K=>?_
 ·refine aG hv fun t zz1=>?_
  rw [zz1]
  exact wZ H.6 K
 ·refine dG hv fun b t zz7 hB=>?_
  rw [zz7]
  refine KBw.pyIter_bytes (K _ [_] _ _ ?_ (H.6.hideP _ rfl))
  subst hB
  exact ⟨b.size,_,(fun i h=>KBw.IsBytesIter h _ b t i),0,_,rfl,fun A hA=>KBw.walks hA _ _ _,fun i h z=>z.imp fun Z0 q=>q.1,fun h z=>⟨_,z,rfl,rfl⟩,by rw [GP,Do,KBw.ints_length],by simp,fun Z0 Z0 Z0=>Bu⟩
 ·refine ay hv fun a ea zz14=>?_
  rw [zz14]
  refine ay (H.6.get' e1 ea) fun o1 zz17 g1=>?_
  obtain ⟨vs,k1,rfl,r1⟩:=zz17
  exact wpAny_pyIter_list (items:=vs.toArray) ⟨_,g1,rfl,k1,rfl⟩ (K _ [_] _ _ ⟨a,_,ea,rfl,rfl,rfl⟩ (H.6.hideP _ rfl))
 ·refine ay hv fun a ea zz14=>?_
  rw [zz14]
  refine ay (H.6.get' e1 ea) fun o1 zz20 g1=>?_
  obtain ⟨t,u,r,rfl⟩:=zz20
  exact zI hb g1 H.6 K
section
variable {C:Cx} {n:Nat} {sc:Ef} {S:bT} {hid own own':List (Du×Obj)} {m mD:Str->Option Dk} {ρ:List Du}
theorem oS {j k:Nat} (R:aX C S ([(I,zo),(TI,x1),(TO,x2),(i1,o1),(i2,o2)]++hid) m ρ σ h) (ej:ρ[j]?=some l1) (ek:ρ[k]?=some l2):ZipApart I TI TO i1 i2 l1 l2:=by
 have nd:(([(I,zo),(TI,x1),(TO,x2),(i1,o1),(i2,o2)]:List (Du×Obj)).map (·.1)).Nodup:=by
  refine aX.e R fun os F N nd eq O=>?_
  rw [Di,Dw,D3] at nd
  exact nd.1
 have ap1:=R.apart ej
 have ap2:=R.apart ek
 simp only [DB,FL,D6,Dv,Eb,or_false,not_or] at nd
 obtain ⟨⟨a1,a2,a3,a4⟩,⟨b1,b2,b3⟩,⟨c1,c2⟩,d1,_⟩:=nd
 have z0:=ap1 _ (.head _)
 have z1:=ap1 _ (.tail _ (.head _))
 have z2:=ap1 _ (.tail _ (.tail _ (.head _)))
 have z3:=ap1 _ (.tail _ (.tail _ (.tail _ (.head _))))
 have z4:=ap1 _ (.tail _ (.tail _ (.tail _ (.tail _ (.head _)))))
 have y0:=ap2 _ (.head _)
 have y1:=ap2 _ (.tail _ (.head _))
 have y2:=ap2 _ (.tail _ (.tail _ (.head _)))
 have y3:=ap2 _ (.tail _ (.tail _ (.tail _ (.head _))))
 have y4:=ap2 _ (.tail _ (.tail _ (.tail _ (.tail _ (.head _)))))
 clear ap1 ap2 R ej ek
 simp only at z0 z1 z2 z3 z4 y0 y1 y2 y3 y4
 constructor<;>(first|assumption|(apply FP;assumption))
theorem oJ (hh:S.A.handled=none) (IR:ee C ρ it I own) (R:aX C S (own++hid) m ρ σ s.heap) (q:cY σ it=.stop) (K:∀h' tk,aX C S hid m ρ σ h'->Qn none (aQ s h' tk)):
  wpAny (model C.prog C.w) S.A (pyNext (.ref I)) Qn E s:=by
 have on:∀{o:Obj},own=[(I,o)]->∀h':DI,(∀b o,b≠I->s.heap.get? b=some o->h'.get? b=some o)->aX C S hid m ρ σ h':=by
  intro o e h' k
  subst e
  have:=R.hidTurn (own':=[]) (h':=h') (fun b o hb e=>k b o (fun h=>hb (by simp [h])) e) (fun p hp=>by cases hp) (.inr rfl)
  exact this
 revert IR
 refine nx_stop q (fun IR=>?_) (fun i IR=>?_) (fun la i l e1 e2 IR=>?_) fun j k i l l' e1 e2 e3 IR=>?_
 ·obtain ⟨n,P,St,i,o,e,W,live,st,hn,ha,hP⟩:=IR
  subst (by simpa using hn:i=n)
  refine (W S.A hh).done s Qn E (st _ (by subst e;exact R.mem (.head _))) fun h' tk k=>K _ _ (on e _ fun b o hb e=>k b o (by simpa using hb) e)
 ·obtain ⟨it,b,t,old,oi,e,hc,hd,hl⟩:=IR
  subst e
  have nd:I≠it:=by
   obtain ⟨_,os,_,nd,_⟩:=R
   simp at nd
   exact nd.1.1
  have hx:b[i]?=none:=by
   have:((KBw.bInts b).drop i)=[]:=by
    cases hh:(KBw.bInts b).drop i with
    |nil=>rfl
    |cons x r=>rw [hh] at hl;cases hl
   rw [Kw,KBw.ints_length] at this
   rw [GO];exact this
  exact wM hh (R.mem (.head _)) ⟨oi,R.mem (.tail _ (.head _)),hc,hd⟩ hx fun h' k=>K h' s.toks (R.hidTurn (own':=[]) (fun b o hb e=>k b o (fun h=>hb (by simp [h])) e) (fun p hp=>by cases hp) (.inr rfl))
 ·obtain ⟨la,o,ek,e,hc,hd⟩:=IR
  ··refine ay (R.get' e1 ek) fun o1 zz1 g1=>?_
    obtain ⟨vs,k1,rfl,r1⟩:=zz1
    refine wpAny_pyNext_list_end hh ⟨o,by subst e;exact R.mem (.head _),hc,hd⟩ (items:=vs.toArray) ⟨_,g1,rfl,k1,rfl⟩ ?_ fun h' k=>K _ _ (on e _ fun b o hb e=>k b o hb e)
    rw [aO] at e2
    have hl:=r1.len
    rw [EU] at e2
    rw [GO,DJ]
    exact hl▸e2
 ·obtain ⟨TI,TO,i1,i2,l1,l2,a,b,o1,o2,ej,ek,e,c1,d1,c2,d2⟩:=IR
  ·refine ay (R.get' e1 ej) fun Z0 zz4 g1=>?_
   obtain ⟨vs,n1,rfl,r1⟩:=zz4
   refine ay (R.get' e2 ek) fun Z0 zz7 g2=>?_
   obtain ⟨ws,n2,rfl,r2⟩:=zz7
   have mem:=fun p hp=>R.mem (p:=p) hp
   have end':ws.toArray[i]?=none\/vs.toArray[i]?=none->wpAny (model C.prog C.w) S.A (pyNext (.ref I)) Qn E s:=by
    intro he
    subst e
    have D:=oS R ej ek
    refine wpAny_pyNext_zip_end hh D (mem _ (.head _)) (mem _ (.tail _ (.head _))) (mem _ (.tail _ (.tail _ (.head _)))) ⟨_,mem _ (.tail _ (.tail _ (.tail _ (.head _)))),c1,d1⟩ ⟨_,mem _ (.tail _ (.tail _ (.tail _ (.tail _ (.head _))))),c2,d2⟩
     (xs:=vs.toArray) ⟨_,g1,rfl,n1,rfl⟩ (ys:=ws.toArray) ⟨_,g2,rfl,n2,rfl⟩ (Or.symm he) fun h' k=>K _ _ ?_
    refine R.hidTurn (own':=[]) (fun b o hb e=>k b o ?_ ?_ ?_ ?_ e) (fun p hp=>by cases hp) (.inr rfl)<;>(intro h;apply hb;simp [h])
   refine end' (.inr ?_)
   rw [aO] at e3
   have hl:=r1.len
   rw [EU] at e3
   rw [GO,DJ]
   exact hl▸e3
theorem uf (h:Q () s):wpAny (model C.prog C.w) A (letOwnedTupleGo (.Name x p) (.ref I) v) Q E s:=Dx h
theorem oh (hh:S.A.handled=none) (IR:ee C ρ it I own) (R:aX C S (own++hid) m ρ σ s.heap) (q:cY σ it=.item cv it')
  (K:∀v own' h' tk,VR ρ cv v->ee C ρ it' I own'->aX C S (own'++hid) m ρ σ h'->
   (∀tg,(∃x p,tg=Gp x p)\/((∃k,cv=.obj k)/\∃es k p,tg=GS es k p)->∀(Q':Unit->Dm->Prop) E',Q' () (aQ s h' tk)->wpAny (model C.prog C.w) S.A (letOwnedTupleGo tg (.ref I) v) Q' E' (aQ s h' tk))->
   Qn (some v) (aQ s h' tk)):
  wpAny (model C.prog C.w) S.A (pyNext (.ref I)) Qn E s:=by
 revert IR K
 refine nx_item q (fun l IR K=>?_) fun k0 i l e1 e2 IR K=>?_
 ·obtain ⟨n,P,St,i,o,e,W,live,st,hn,ha,hP⟩:=IR
  subst e
  simp only [DC] at hn
  refine (W S.A hh).item i s Qn E (by lia) (st _ (R.mem (.head _))) fun v h' tk hp hs k=>aG (live _ _ hs) fun o' ho'=>?_
  refine K v [(I,o')] h' tk (hP 0 _ _ rfl hp) ⟨n,P,St,i+1,o',rfl,W,live,fun h e=>(W S.A hh).frame _ _ _ hs (fun b hb o e'=>?_),by lia,fun k hk=>ha k (.tail _ hk),fun j c v h1 h2=>hP (j+1) c v (by simpa using h1) (by rw [show i+(j+1)=i+1+j by lia];exact h2)⟩
   (R.hidTurn (own':=[(I,o')]) (fun b o hb e=>k b o (by simpa using hb) e) (fun p hp=>by rcases DW.mp hp with rfl;exact ho') (.inl rfl)) ?_
  ·rcases DW.mp hb with rfl
   rw [ho'] at e';cases e';exact e
  ·rintro tg (⟨x,p,rfl⟩|⟨⟨k,rfl⟩,_⟩) Q' E' hQ
   ·exact uf hQ
   ·exact absurd (.head _) (ha k)
 ·obtain ⟨la,o,ek,e,hc,hd⟩:=IR
  subst e
  ··refine ay (R.get' e1 ek) fun o1 zz10 g1=>?_
    obtain ⟨vs,k1,rfl,r1⟩:=zz10
    refine ay (r1.nth e2) fun w w1 w2=>wpAny_pyNext_list_item ⟨o,R.mem (.head _),hc,hd⟩ (items:=vs.toArray) ⟨_,g1,rfl,k1,rfl⟩ (x:=w) (by simpa using w1) fun h' hit k=>iH hit fun o' ho' hc' hd'=>?_
    refine K w [(I,o')] h' _ w2 ⟨la,o',ek,rfl,hc',hd'⟩ (R.hidTurn (own':=[(I,o')]) (fun b o hb e=>k.extBut b o (by simpa using hb) e) (fun p hp=>by rcases DW.mp hp with rfl;exact ho') (.inl rfl)) ?_
    rintro tg (⟨x,p,rfl⟩|⟨⟨k,rfl⟩,es,kk,p,rfl⟩) Q' E' hQ
    ·exact uf hQ
    ·refine ay w2 fun T Z0 zz14=>?_
     clear w2
     subst zz14
     exact wpAny_letOwnedTupleGo_listiter (hit) hQ
theorem oq {ca cb:CV} (hh:S.A.handled=none) (IR:ee C ρ it I own) (R:aX C S (own++hid) m ρ σ s.heap) (q:cY σ it=.pair ca cb it')
  (K:∀T h₁ tk,(∀es k p (Q':Unit->Dm->Prop) E',(∀va vb own' h',VR ρ ca va->VR ρ cb vb->ee C ρ it' I own'->aX C S (own'++hid) m ρ σ h'->h'.get? T=some {cls:=.type "tuple",data:=.seq #[va,vb]}->
    Q' () (aQ s h' tk))->wpAny (model C.prog C.w) S.A (letOwnedTupleGo (.Tuple es k p) (.ref I) (.ref T)) Q' E' (aQ s h₁ tk))->
   Qn (some (.ref T)) (aQ s h₁ tk)):
  wpAny (model C.prog C.w) S.A (pyNext (.ref I)) Qn E s:=by
 revert IR K
 refine nx_pair q (fun l i IR K=>?_) fun j k i l l' e1 e2 e3 e4 IR K=>?_
 ·obtain ⟨it,b,t,old,oi,e,hc,hd,hl⟩:=IR
  subst e
  have nd:I≠it:=by
   obtain ⟨_,os,_,nd,_⟩:=R
   simp at nd
   exact nd.1.1
  cases hh:(KBw.bInts b).drop i with
  |nil=>rw [hh] at hl;cases hl
  |cons x r=>
  rw [hh] at hl
  simp only [DB,KA] at hl
  obtain ⟨rfl,hl⟩:=hl
  have hib:i<b.size:=by
   have:=congrArg Jh hh
   rw [D7,KBw.ints_length] at this
   exact Nat.lt_of_sub_pos (by rw [this];exact I8 _)
  have hx:b[i]?=some b[i]:=JE hib
  have hxe:x=(b[i].toNat:Int):=by
   have:=KBw.ints_get hx
   have h2:(KBw.bInts b)[i]?=some x:=by
    have:=congrArg (·[0]?) hh
    simpa using this
   rw [h2] at this
   exact EF this
  have hr:r=(KBw.bInts b).drop (i+1):=by
   have:=congrArg List.tail hh
   simpa [List.tail_drop] using this.symm
  refine tc (R.mem (.head _)) ⟨oi,R.mem (.tail _ (.head _)),hc,hd⟩ hx nd fun h₁ u v tk a1 a2 a3 a4=>K _ h₁ tk fun es k p Q' E' hQ=>wpAny_letOwnedTupleGo_enum (s:=aQ s h₁ tk) a1 fun h₂ b1 b2=>?_
  obtain ⟨oi',g1,g2,g3⟩:=a2
  refine hQ _ _ [(I,{cls:=.type "enumerate",dict:=none,data:=.fields #[.none,.bool false,.ref it,rawInt ((i+1:Nat):Int),.none,.int (b[i].toNat:Int) u],slots:=#[]}),(it,oi')] h₂ ⟨v,rfl⟩ ⟨u,by rw [hxe]⟩ ⟨it,b,t,_,oi',rfl,g2,by simpa using g3,by rw [hl,hr]⟩ (R.hidTurn ?_ ?_ (.inl rfl)) (b2.extBut _ _ ((D9 (DT (R.mem (.head _)))).symm) a3)
  ·intro b o hb e
   exact b2.extBut _ _ (fun h=>hb (by simp [h])) (a4 _ _ (fun h=>hb (by simp [h])) (fun h=>hb (by simp [h])) e)
  ·intro p hp
   simp only [Dv,Eb,or_false] at hp
   rcases hp with rfl|rfl
   ·have:=b1
    simpa using this
   ·exact b2.extBut _ _ nd.symm g1
 ·obtain ⟨TI,TO,i1,i2,l1,l2,a,b,o1,o2,ej,ek,e,c1,d1,c2,d2⟩:=IR
  ·refine ay (R.get' e1 ej) fun Z0 zz17 g1=>?_
   obtain ⟨vs,n1,rfl,r1⟩:=zz17
   refine ay (R.get' e2 ek) fun Z0 zz20 g2=>?_
   obtain ⟨ws,n2,rfl,r2⟩:=zz20
   have mem:=fun p hp=>R.mem (p:=p) hp
   ··refine ay (r1.nth e3) fun x x1 x2=>ay (r2.nth e4) fun y y1 y2=>?_
     subst e
     have D:=oS R ej ek
     refine wpAny_pyNext_zip_item D (mem _ (.head _)) (mem _ (.tail _ (.head _))) (mem _ (.tail _ (.tail _ (.head _)))) ⟨_,mem _ (.tail _ (.tail _ (.tail _ (.head _)))),c1,d1⟩ ⟨_,mem _ (.tail _ (.tail _ (.tail _ (.tail _ (.head _))))),c2,d2⟩
      (xs:=vs.toArray) ⟨_,g1,rfl,n1,rfl⟩ (ys:=ws.toArray) ⟨_,g2,rfl,n2,rfl⟩ (x:=x) (y:=y) (by simpa using x1) (by simpa using y1) fun h₁ a1 a2 a3 a4 a5 a6 a7=>K _ h₁ s.toks fun es k p Q' E' hQ=>?_
     refine wpAny_letOwnedTupleGo_zip a1 fun h₂ b1 b2=>iH a3 fun o1' p1 p2 p3=>iH a4 fun o2' s1 s2 s3=>?_
     have up:∀c o,c≠I->h₁.get? c=some o->h₂.get? c=some o:=fun c o hc e=>b2.extBut c o hc e
     refine hQ x y [(I,_),(TI,_),(TO,_),(i1,o1'),(i2,o2')] h₂ x2 y2 ⟨TI,TO,i1,i2,l1,l2,x,y,o1',o2',ej,ek,rfl,p2,p3,s2,s3⟩ (R.hidTurn ?_ ?_ (.inl rfl)) (up _ _ ?_ a5)
     ·intro b o hb e
      refine up _ _ (fun h=>hb (by simp [h])) (a7 _ _ ?_ ?_ ?_ ?_ e)<;>(intro h;apply hb;simp [h])
     ·intro p hp
      simp only [Dv,Eb,or_false] at hp
      rcases hp with rfl|rfl|rfl|rfl|rfl
      ·exact b1
      ·exact up _ _ D.TIz (a7 _ _ D.TIz D.TITO D.TIi1 D.TIi2 (mem _ (.tail _ (.head _))))
      ·exact up _ _ D.TOz a2
      ·exact up _ _ D.i1z p1
      ·exact up _ _ D.i2z s1
     ·exact (D9 (DT (mem _ (.head _)))).symm
end
def KR (ρ:List Du):List (List Nat×CV)->List (Str×Dk)->Prop
 |[],[]=>True
 |p::l,q::r=>q.1=aV p.1/\VR ρ p.2 q.2/\KR ρ l r
 |Z1,Z2=>False
theorem KR.of_DR:∀{l:List (List Nat×CV)} {es:List EL},DR C ρ l es->∃kvs,KR ρ l kvs/\Pairs (strKind C.prog C.w) es kvs:=by
 intro x0
 induction x0 with
 |nil=>
  intro y4
  cases y4 with
  |nil=>
   intro _
   exact ⟨[],trivial,.nil⟩
  |cons Z1 Z2=>
   intro h
   exact h.elim
 |cons p l ihh=>
  intro y4
  cases y4 with
  |nil=>
   intro h
   exact h.elim
  |cons e es=>
   rintro ⟨⟨t,hk⟩,hh,hv,hr⟩
   refine ay (ihh hr) fun kvs h1 h2=>?_
   exact ⟨(aV p.1,e.val)::kvs,⟨rfl,hv,h1⟩,.cons (by rw [hk];exact HZ _ _ _ _) rfl h2⟩
theorem KR.to_DR:∀{l:List (List Nat×CV)} {kvs:List (Str×Dk)} {es:List EL},KR ρ l kvs->Pairs (strKind C.prog C.w) es kvs->(∀e∈es,∃k,(strKind C.prog C.w).is k e.key=true/\e.hash=(strKind C.prog C.w).hash k)->DR C ρ l es:=by
 intro l
 induction l with
 |nil=>
  intro kvs es h P _
  cases kvs with
  |nil=>
   cases P
   trivial
  |cons=>exact h.elim
 |cons p l ih=>
  intro kvs es h P hk
  cases kvs with
  |nil=>exact h.elim
  |cons q r=>
   cases P with
   |@cons e _ es _ a b c=>
    obtain ⟨h1,h2,h3⟩:=h
    refine ⟨?_,?_,by rw [b];exact h2,ih h3 c fun e he=>hk e (.tail _ he)⟩
    ·have a':GZ q.1 e.key=true:=a
     exact aG (Dk.isStrOf_shape a') fun t ht=>⟨t,by rw [ht,h1]⟩
    ·refine ay (hk e (.head _)) fun k k1 k2=>?_
     have:k=q.1:=(strKind C.prog C.w).inj _ _ _ k1 a
     rw [k2,this,h1]
     rfl
theorem KR.any:∀{l:List (List Nat×CV)} {kvs:List (Str×Dk)},KR ρ l kvs->∀x:List Nat,kvs.any (fun kv=>decide (kv.1=aV x))=l.any fun p=>aF p.1 x:=by
 intro x0
 induction x0 with
 |nil=>
  intro y4
  cases y4 with
  |nil=>
   intro _ _
   exact rfl
  |cons Z1 Z2=>
   intro h _
   exact h.elim
 |cons p l ihh=>
  intro y4
  cases y4 with
  |nil=>
   intro h _
   exact h.elim
  |cons q r=>
   rintro ⟨h1,h2,h3⟩ x
   rw [EI,EI,ihh h3 x,h1,gp]
   congr 1
   rw [decide_eq_decide]
   exact ⟨e8,fun h=>by rw [h]⟩
theorem zN:∀{l:List (List Nat×CV)} {x:List Nat} {v:CV},(l.any fun p=>aF p.1 x)=false->iV l x v=l++[(x,v)]:=by
 intro x0
 induction x0 with
 |nil=>
  intro _ _ _
  exact rfl
 |cons p l ihh=>
  intro x v h
  simp only [EI,Fp] at h
  have h:=h
  rw [pY,h.1,cond_false,ihh h.2]
  rfl
theorem KR.app:∀{l:List (List Nat×CV)} {kvs:List (Str×Dk)},KR ρ l kvs->∀{x:List Nat} {cv:CV} {v:Dk},VR ρ cv v->KR ρ (l++[(x,cv)]) (kvs++[(aV x,v)]):=by
 intro x0
 induction x0 with
 |nil=>
  intro y4
  cases y4 with
  |nil=>
   intro _ _ _ _ h
   exact ⟨rfl,h,trivial⟩
  |cons Z1 Z2=>
   intro h _ _ _ _
   exact h.elim
 |cons Z1 Z2 ihh=>
  intro y4
  cases y4 with
  |nil=>
   intro h _ _ _ _
   exact h.elim
  |cons Z1 Z2=>
   rintro ⟨h1,h2,h3⟩ _ _ _ h
   exact ⟨h1,h2,ihh h3 h⟩
theorem KR.same:∀{l:List (List Nat×CV)} {kvs:List (Str×Dk)},KR ρ l kvs->∀{x:List Nat} {v:Dk},(l.any fun p=>aF p.1 x)=false->kvs.map (fun kv=>if kv.1=aV x then (kv.1,v) else kv)=kvs:=by
 intro x0
 induction x0 with
 |nil=>
  intro y4
  cases y4 with
  |nil=>
   intro _ _ _ _
   exact rfl
  |cons Z1 Z2=>
   intro h _ _ _
   exact h.elim
 |cons p l ihh=>
  intro y4
  cases y4 with
  |nil=>
   intro h _ _ _
   exact h.elim
  |cons q r=>
   rintro ⟨h1,h2,h3⟩ x v h
   simp only [EI,Fp] at h
   rw [DB,ihh h3 h.2,if_neg]
   intro e
   rw [h1] at e
   have:=e8 e
   rw [gp,this] at h
   simp at h
theorem KR.map:∀{l:List (List Nat×CV)} {kvs:List (Str×Dk)},KR ρ l kvs->(l.map (·.1)).Nodup->∀{x:List Nat} {cv:CV} {v:Dk},VR ρ cv v->(l.any fun p=>aF p.1 x)=true->KR ρ (iV l x cv) (kvs.map (fun kv=>if kv.1=aV x then (kv.1,v) else kv)):=by
 intro x0
 induction x0 with
 |nil=>
  intro y4
  cases y4 with
  |nil=>
   intro _ _ _ _ _ _ h
   simp at h
  |cons Z1 Z2=>
   intro h _ _ _ _ _ _
   exact h.elim
 |cons p l ihh=>
  intro y4
  cases y4 with
  |nil=>
   intro h _ _ _ _ _ _
   exact h.elim
  |cons q r=>
   rintro ⟨h1,h2,h3⟩ nd x cv v hv h
   rw [DB,D6] at nd
   have nd:=nd
   rw [pY,DB]
   cases hb:aF p.1 x with
   |true=>
    have e:=cg.mp hb
    have hno:(l.any fun p=>aF p.1 x)=false:=by
     rw [FT]
     intro hc
     refine ay (FC.mp hc) fun y hy he=>?_
     apply nd.1
     rw [e,←cg.mp he]
     exact DE hy
    rw [KR.same h3 hno,cond_true,if_pos (by rw [h1,e])]
    exact ⟨h1,hv,h3⟩
   |false=>
    have hne:q.1≠aV x:=fun e=>by
     rw [h1] at e
     rw [e8 e,cg.mpr rfl] at hb
     cases hb
    rw [cond_false,if_neg hne]
    rw [EI,hb,Ig] at h
    exact ⟨h1,h2,ihh h3 nd.2 hv h⟩
set_option tactic.hygienic true in
theorem KR.put (K:KR ρ l kvs) (nd:(l.map (·.1)).Nodup) (h:VR ρ cv v):KR ρ (iV l x cv) (stored kvs (aV x) v):=by
 unfold stored
 have e:=K.any x
 split
 ·rename_i h1
  exact K.map nd h (by rw [←e];exact h1)
 ·rename_i h1
  rw [Lv] at h1
  rw [zN (by rw [←e];exact h1)]
  exact K.app h
theorem wq:∀(l:List (List Nat×CV)) (x:List Nat) (v:CV),(iV l x v).map (·.1)=if x∈l.map (·.1) then l.map (·.1) else l.map (·.1)++[x]:=by
 intro x0
 induction x0 with
 |nil=>
  intro x v
  simp [pY,Ms]
 |cons p l ihh=>
  intro x v
  rw [pY]
  cases hb:aF p.1 x with
  |true=>
   simp [(cg.mp hb)]
  |false=>
   rw [cond_false,DB,DB,ihh x v]
   by_cases h:x∈l.map (·.1)
   ·rw [if_pos h,if_pos (.tail _ h)]
   ·rw [if_neg h,if_neg]
    ·rfl
    ·intro h2
     rcases Dv.mp h2 with h2|h2
     ·exact (fun e=>by rw [cg.mpr e] at hb;cases hb) h2.symm
     ·exact h h2
set_option tactic.hygienic true in
theorem ny (nd:(l.map (·.1)).Nodup) (x:List Nat) (v:CV):((iV l x v).map (·.1)).Nodup:=by
 rw [wq]
 split
 ·exact nd
 ·rename_i h
  rw [D3]
  refine ⟨nd,by simp,fun a ha b hb e=>?_⟩
  simp at hb
  subst hb
  exact h (e▸ha)
theorem KR.keys:∀{l:List (List Nat×CV)} {kvs:List (Str×Dk)},KR ρ l kvs->kvs.map (·.1)=l.map fun p=>aV p.1:=by
 intro x0
 induction x0 with
 |nil=>
  intro y4
  cases y4 with
  |nil=>
   intro _
   exact rfl
  |cons Z1 Z2=>
   intro h
   exact h.elim
 |cons Z1 Z2 ihh=>
  intro y4
  cases y4 with
  |nil=>
   intro h
   exact h.elim
  |cons Z1 Z2=>
   rintro ⟨h1,_,h3⟩
   rw [DB,DB,ihh h3,h1]
theorem KR.nodup (K:KR ρ l kvs) (nd:(l.map (·.1)).Nodup):(kvs.map (·.1)).Nodup:=by
 rw [K.keys,show (l.map fun p=>aV p.1)=(l.map (·.1)).map aV by simp,DS,Fq]
 exact FA (fun h e=>h (e8 e)) (DS.mp nd)
theorem KR.len (K:KR ρ l kvs):kvs.length=l.length:=by
 have:=congrArg Jh K.keys
 simpa using this
theorem dc.set:∀{l:List CV} {vs:List Dk},dc ρ l vs->∀(i:Nat) {c:CV} {v:Dk},VR ρ c v->dc ρ (aU l i c) (vs.set i v):=by
 intro x0
 induction x0 with
 |nil=>
  intro y4
  cases y4 with
  |nil=>
   intro _ _ _ _ _
   exact trivial
  |cons Z1 Z2=>
   intro x _ _ _ _
   exact x.elim
 |cons Z1 Z2 ihh=>
  intro y4
  cases y4 with
  |nil=>
   intro x _ _ _ _
   exact x.elim
  |cons Z1 Z2=>
   intro x y6
   cases y6 with
   |zero=>
    intro _ _ h
    exact ⟨h,x.2⟩
   |succ i=>
    intro _ _ h
    exact ⟨x.1,ihh x.2 i h⟩
theorem qS (ho:s.heap.get? l=some (listOf items n)) (h0:k<0) (h1:-(items.size:Int)<=k) (hfit:-(2^63)<=k)
  (hQ:Q () {s with heap:=s.heap.update l (Le (·.setIfInBounds (k+items.size).toNat v))}):wpAny (model prog w) A (setItem (.ref l) (.int k t) v) Q E s:=by
 have hl:s.heap.IsList l items:=PySem.IsL.isList (n:=n) ho
 unfold setItem
 try with_reducible refine Gr ?_
 first|refine Dj (Dx ?_)|skip
 refine Dj (wpAny_sequenceKey hl.typeIs (by decide) ?_)
 refine Dj (FM (name:=Eu "__setitem__") hl.typeIs slot_list_setitem
  (GJ slot_list_setitem hl.typeIs entry_list_setitem ?_ (args_list_setitem _ _ _)))
 show wpAny _ _ (D1.List.listSubscript? (.int k t) >>=_) _ _ s
 refine Dj (wpAny_listSubscript_int (fitsIndex_neg h0 hfit) ?_)
 clear hfit
 have hx:items[(k+items.size).toNat]?=some items[(k+items.size).toNat]:=JE ((Int.toNat_lt (by have:=KI h1 (items.size:Int);rwa [Int.add_left_neg] at this)).mpr (by have:=Int.add_lt_add_right h0 (items.size:Int);rwa [Ht] at this):(k+items.size).toNat<items.size)
 obtain ⟨j,rfl⟩:∃j:Nat,k=Int.negSucc j:=by
  cases k with
  |ofNat n=>exact absurd h0 (EZ.mpr (Int.ofNat_nonneg n))
  |negSucc n=>exact ⟨n,rfl⟩
 refine Dj (Dj (Dj (Kk ho rfl (Dx (Dx ?_)))))
 rw [(seqIndex_neg h0 h1)]
 rw [KY,hx,Fi]
 refine Dj (wpAny_setSeqItemAt ho rfl ?_)
 first
  |exact Dj (Dx (Dx ⟨.none,rfl,Dx hQ⟩))
  |exact Dx ⟨.none,rfl,Dx hQ⟩
theorem MT (H:aZ C n sc S hid m mD ρ loc σ s.heap) (ho:VR ρ o vo) (hi:VR ρ i vi) (hv:VR ρ v vv) (q:oF fl σ o i v Q)
  (K:∀σ' h' tk,Q σ'->aX C S hid m ρ σ' h'->Qm () (aQ s h' tk)):wpAny (model C.prog C.w) S.A (setItem vo vi vv) Qm E s:=by
 refine asO_v q ho fun k a ea q=>?_
 cases i with
 |int i=>
  refine aG hi fun u zz4=>?_
  clear hi
  subst zz4
  refine iW H.6 ea q fun l vs k1 e1 g1 r1 q=>aD (aW q) fun g q=>?_
  simp only [Dl,aR] at g
  refine iG (fJ g.1) fun h1 h2 h3 h4=>?_
  have hl:=r1.len
  have turned:(s.heap.update a (Le (·.setIfInBounds (cx i l.length) vv))).get? a=some (listOf (vs.set (cx i l.length) vv).toArray k1):=by
   rw [Fc _ g1 rfl]
   simp [Le]
  have fin:=K _ _ s.toks q (H.6.set e1 ea (FQ s.heap a _) turned ⟨_,k1,rfl,r1.set _ hv⟩)
  by_cases hn:i<0
  ·refine qS g1 hn (by rw [DJ];lia) (by lia) ?_
   rw [DJ,←hl,←h3 hn]
   exact fin
  ·refine ki_setAt g1 (by lia) (by lia) (by rw [DJ];lia) ?_
   rw [←h4 (by lia)]
   exact fin
 |str x=>
  refine aG hi fun u zz12=>?_
  clear hi
  subst zz12
  refine w4 H.6 ea q fun l es k1 e1 g1 h1 nd q=>aD (aW q) fun g q=>?_
  have g:=aR.mp g
  refine ay (KR.of_DR h1) fun kvs z1 z2=>?_
  refine wpAny_setItem_pairs (knd:=strKind C.prog C.w) (kvs:=kvs) (k:=aV x) (HZ _ _ _ _) ⟨_,es.toArray,k1,g1,⟨rfl,rfl,rfl⟩,rfl,?_,by simpa using z2,z1.nodup nd⟩ ?_ (by rw [z1.len];simp only [sizeLine];lia)
  ·intro e he
   exact h1.keys e (by simpa using he)
  ·rintro h' ⟨o',es',ep,g',⟨c1,c2,c3⟩,c4,ke,pe,nk⟩ hs
   refine K _ _ _ q (H.6.set e1 ea hs g' ⟨es'.toList,ep,?_,(z1.put nd hv).to_DR pe fun e he=>ke e (by simpa using he),ny nd _ _⟩)
   cases o' with
   |mk c d dt sl=>
    simp only at c1 c2 c3 c4
    subst c1 c2 c3 c4
    simp [dictOf]
 |_=>exact q.elim
theorem aX.setE (R:aX C S hid m ρ σ h) (e:am σ i=some co) (ea:ρ[i]?=some a) (k:∀b o,b≠a->h.get? b=some o->h'.get? b=some o) (ho':h'.get? a=some o') (hr:OR C ρ co' o'):aX C S hid m ρ (aU σ i co') h':=by
 refine aX.e R fun os F N nd eq O=>ay (O.get e) fun p h1 h2=>?_
 have hp:p.1=a:=by
  rw [←eq,DH,h1] at ea
  injection ea
 have h1':os[i]?=some (a,p.2):=by rw [h1,←hp]
 refine P7 ((tQ (o':=o') nd h1').split) fun pre post e1 e2 c1 c2=>?_
 have N':=N
 rw [e1] at N'
 have N':=N'
 have z:=N' (a,p.2) (DL.mpr (.inr (.head _)))
 have old:∀b o,S.h₀.get? b=some o->b≠a:=fun b o x e=>by rw [e,z.2.2] at x;cases x
 refine aX.turn nd eq O h1' (⟨F.ns.at fun o e=>k _ _ (fun h=>z.2.1 h.symm) e,fun b o e=>k _ _ (old b o e) (F.keep b o e),F.above⟩) ?_ hr
 rw [e2]
 intro q hq
 rcases DL.mp hq with hq|hq
 ·exact ⟨k _ _ (c1 q hq) (N' q (DN _ hq)).1,(N' q (DN _ hq)).2⟩
 ·rcases Dv.mp hq with rfl|hq
  ·exact ⟨ho',z.2⟩
  ·exact ⟨k _ _ (c2 q hq) (N' q (DF _ (.tail _ hq))).1,(N' q (DF _ (.tail _ hq))).2⟩
theorem Nc (BM:ki C) (H:aZ C n sc S hid m mD ρ loc σ s.heap) (ho:VR ρ o vo) (ha:VR ρ a va) (hb:VR ρ b vb) (hv:VR ρ v vv) (q:mI σ o a b v Q)
  (K:∀σ' h' tk,Q σ'->aX C S hid m ρ σ' h'->Qm () (aQ s h' tk)):
  aq (model C.prog C.w) S.A (setItem vo (.ref s.heap.objs.size) vv) Qm E {s with heap:=s.heap.push {cls:=.type "slice",data:=.fields #[va,vb,.none]}}:=by
 refine asO_v q ho fun k x ex q=>asI_v q ha fun lo t q=>asI_v q hb fun hi u q=>asB_v q hv fun z y w hy q=>M7 H.6 ex q fun l bb e1 h1 g1 q=>aD q fun g q=>?_
 simp only [Dl,aR,cA] at g
 have hl:=eA h1
 have hl2:=eA hy
 have hu:S.A.units<9000:=by have:=H.1.9;lia
 refine BM.cut (Dt _ g1) (El _ rfl) g.1.1.1.1 g.1.1.1.2 (hl▸g.1.1.2) (hl▸g.1.2) (hl2▸g.2) (by simp [cLine];lia) fun h' tk k1 k2=>?_
 refine K _ _ _ q (H.6.setE e1 ex (fun b o hb e=>k1 b o (Dt _ e) hb) k2 ⟨_,rfl,?_⟩)
 subst h1 hy
 simp only [KBw.bInts]
 rw [Ky,Ky,Dw,Dw,Kh,Kh]
 simp only [List.extract,J2,List.map_drop,List.drop_zero,Kn]
 congr 1
 rw [FK]
 simp
structure TabG (C:Cx):Prop where
 tv:ni C
 bo:yK C
 bm:ki C
 sm:∃o,C.K.lookup sysModules=some o
 gv:∀x v,C.T.gv x=some v->∃w,nsIn C.K mainGlobals (C.nS x)=some (some w)/\VR [] v w
 bi:∀x b,C.gk x=some (.bi b)->nsIn C.K mainGlobals (aV x)=some none/\bootBuiltins (aV x)=some (B5 b)/\aV x≠"__name__"
 fn:∀x f,C.gk x=some (.fn f)->nsIn C.K mainGlobals (aV x)=some (some (.ref (C.fa f)))/\keepIn C.K (.ref (C.fa f))=true
 cl:∀x c,C.gk x=some (.cl c)->nsIn C.K mainGlobals (aV x)=some (some (.ref (C.ca c)))/\keepIn C.K (.ref (C.ca c))=true
theorem eo (h:aN nm gk k sc c e=true):qf e=true:=by
 cases k with
 |zero=>exact absurd h Dq
 |succ k=>
  cases c with
  |cst=>exact onCst_e h fun Z0 Z0 Z0 Z0=>rfl
  |loc=>exact onName_e h fun Z0 Z0 Z0=>rfl
  |glb=>exact onName_e h fun Z0 Z0 Z0=>rfl
  |bin=>exact onBin_e h fun Z0 Z0 Z0 Z0 Z0=>rfl
  |neg=>exact onNeg_e h fun Z0 Z0 Z0=>rfl
  |nt=>exact onNot_e h fun Z0 Z0 Z0=>rfl
  |ife=>exact onIfe_e h fun Z0 Z0 Z0 Z0 Z0=>rfl
  |bop=>exact onBop_e h fun Z0 Z0 Z0 Z0=>rfl
  |cmp=>exact onCmp_e h fun Z0 Z0 Z0 Z0 Z0=>rfl
  |lst=>exact onLst_e h fun Z0 Z0 Z0=>rfl
  |tup=>exact onTup_e h fun Z0 Z0 Z0 Z0=>rfl
  |dct=>exact onDct_e h fun Z0 Z0 Z0 Z0=>rfl
  |calF=>exact onCalN_e h fun Z0 Z0 Z0 Z0 Z0=>rfl
  |calC=>exact onCalN_e h fun Z0 Z0 Z0 Z0 Z0=>rfl
  |calB=>exact onCalN_e h fun Z0 Z0 Z0 Z0 Z0=>rfl
  |mth=>exact onCalA_e h fun Z0 Z0 Z0 Z0 Z0 Z0 Z0=>rfl
  |mtB=>exact onCalA_e h fun Z0 Z0 Z0 Z0 Z0 Z0 Z0=>rfl
  |att=>exact onAtt_e h fun Z0 Z0 Z0 Z0=>rfl
  |sub=>exact onSub_e h fun Z0 Z0 Z0 Z0=>rfl
  |slc=>exact onSub_e h fun Z0 Z0 Z0 Z0=>rfl
  |comp=>exact onCmpr_e (kg _ _ h) fun Z0 Z0 Z0 Z0 Z0 Z0 Z0=>rfl
  |bad=>exact h
theorem cX (h:qf e=true) (rest:List Expr) (env:Env):starEach (e::rest) env=(false,eval e env)::starEach rest env:=
 Ho (b:=bif qf e then (false,eval e env)::starEach rest env else starEach (e::rest) env) (by clear h;cases e<;>exact GG _) (by rw [h];rfl)
theorem az (h:bA f (a::l) m=true):∃b r,m=b::r/\f a b=true/\bA f l r=true:=by
 cases m with
 |nil=>cases h
 |cons b r=>exact ⟨b,r,rfl,(Dl _ _▸h).1,(Dl _ _▸h).2⟩
theorem bG (h:bA f [] m=true):m=[]:=by
 cases m with
 |nil=>rfl
 |cons b r=>cases h
theorem VR.of_nil (h:VR [] c v):VR ρ c v:=h.mono (Hs)
section
variable {loc:aP} {σ:al} {s:Dm} {Q:bu} {Qm:Dk->Dm->Prop} {E:Dk->Dm->Prop} {ih:Ih} {k:Nat}
def td (C:Cx) (S:bT) (hid:List (Du×Obj)) (m:Str->Option Dk) (ρ:List Du) (s:Dm) (len:Nat) (Q:List CV->al->Prop) (Qm:List Dk->Dm->Prop):Prop:=
 ∀cvs σ' ρ' vs h' tk,Q cvs σ'->dc ρ' cvs vs->vs.length=len->ρ<+:ρ'->aX C S hid m ρ' σ' h'->Qm vs (aQ s h' tk)
theorem sq (he:SE C n ih):∀{l:List CE} {es:List Expr} {ρ:List Du} {σ:al} {s:Dm} {Q:List CV->al->Prop} {Qm:List Dk->Dm->Prop},bA (aN C.nm C.gk k sc) l es=true->aZ C n sc S hid m mD ρ loc σ s.heap->eC ih l loc σ Q->td C S hid m ρ s l.length Q Qm->
  aq (model C.prog C.w) S.A (spliced (backTo pos (starEach es S.env))) Qm E s:=by
 intro x0
 induction x0 with
 |nil=>
  intro es ρ σ s Q Qm hc H q K
  rw [bG hc]
  exact ju (K [] σ ρ [] _ s.toks q trivial rfl (DM _) H.6)
 |cons c l ihh=>
  intro es ρ σ s Q Qm hc H q K
  refine cV (az hc) fun e r zz1 h1 h2=>?_
  subst zz1
  refine gK (he _ _ _ _ h1 _ _ _ _ _ _ _ _ _ _ _ H q fun cv σ' ρ' v h' tk q' hv p R=>?_) (cX (eo h1) _ _)
  exact ihh h2 (H.go p R) q' fun cvs σ'' ρ'' vs h'' tk' q'' hvs hl p' R'=>K _ _ _ _ _ _ q'' ⟨hv.mono p',hvs⟩ (by simp [hl]) (p.trans p') R'
theorem nG (H:aZ C n sc S hid m mD ρ loc σ s.heap) {x:Str} {k:EW} (h:dN sc x k=true) (hk:k=.local\/k=.globalImplicit\/k=.cell):S.env.kindOf x=some k:=by
 exact (H.2 _ _ (Qw h)).1 hk
theorem pW (h:j4 x=true):(x==("__debug__":Str))=false/\(x==("__classdict__":Str))=false:=by
 unfold j4 at h
 simpa using h
theorem aZ.g (H:aZ C n sc S hid m mD ρ loc σ s.heap) {x:Str} {v:Dk} (e:nsIn C.K mainGlobals x=some (some v)) {Q:Dk->Dm->Prop} (h:Q v s):wpAny (model C.prog C.w) S.A (loadGlobal S.env x) Q E s:=
 loadGlobal_global (by rw [H.1.11];exact H.1.3.g.keeps H.6.1.keep) (mg_of H.1.2 H.1.3.g e) h
theorem aZ.b (H:aZ C n sc S hid m mD ρ loc σ s.heap) {x:Str} {v:Dk} (e:nsIn C.K mainGlobals x=some none) (hv:bootBuiltins x=some v) (hn:x≠"__name__") {Q:Dk->Dm->Prop} (h:Q v s):wpAny (model C.prog C.w) S.A (loadGlobal S.env x) Q E s:=
 loadGlobal_builtin (by rw [H.1.11];exact H.1.3.g.keeps H.6.1.keep) (mg_none_of H.1.2 H.1.3.g e) (by rw [H.1.12];exact H.1.3.b.keeps H.6.1.keep) ((H.1.3.builtins x hn).trans hv) h
theorem Po (H:aZ C n sc S hid m mD ρ loc σ s.heap) (hc:B3 v w=true) (q:Q v σ) (K:bQ C S hid m ρ s Q Qm):aq (model C.prog C.w) S.A (eval (.Constant w a b) S.env) Qm E s:=by
 have pr:ρ<+:ρ:=DM ρ
 refine nn ?_
 cases v with
 |none=>exact kNone_e hc (wpAny_Constant_none (K _ _ _ _ _ _ q rfl pr H.6))
 |bool x=>
  refine kBool_e hc fun y h=>?_
  have:x=y:=by cases x<;>cases y<;>first|rfl|cases h
  subst this
  exact wpAny_Constant_bool (K _ _ _ _ _ _ q rfl pr H.6)
 |int x=>
  refine kInt_e hc fun y h=>?_
  rw [←mf.mp h]
  exact wpAny_Constant_int (K _ _ _ _ _ _ q ⟨_,rfl⟩ pr H.6)
 |str x=>
  refine kStr_e hc fun y h=>?_
  rw [bN (l:=x) h]
  exact Jg (K _ _ _ _ _ _ q ⟨_,rfl⟩ pr H.6)
 |bytes l=>
  refine kByt_e hc fun y h=>?_
  exact Constant_bytes (K _ _ _ _ _ _ q ⟨_,_,rfl,by rw [kc.mp h];rfl⟩ pr H.6)
 |_=>cases hc
theorem PU (H:aZ C n sc S hid m mD ρ loc σ s.heap) {x:Nat} {v:CV} {id:Str} {p:Pos} (hn:dC (C.nm x) id=true) (hf:j4 id=true) (hk:QL sc id=true) (hl:wO loc σ x=some v) (q:Q v σ) (K:bQ C S hid m ρ s Q Qm):
  aq (model C.prog C.w) S.A (eval (.Name id p) S.env) Qm E s:=by
 have pr:ρ<+:ρ:=DM ρ
 refine nn ?_
 have e:=bN hn
 refine aD (pW hf) fun f1 f2=>?_
 have il:oV (S.env.kindOf (C.nS x))=true:=by
  rw [(show C.nS x=id from e.symm)]
  refine onO_e (P:=fun r=>sc.names.lookup id=r->oV (S.env.kindOf id)=true) hk (fun k h e=>?_) rfl
  rcases bO h with h|h
  ·rw [of_decide_eq_true h] at e;rw [(H.2 _ _ e).1 (by simp)];rfl
  ·rcases bO h with h|h<;>rw [of_decide_eq_true h] at e
   ·rw [(H.2 _ _ e).1 (by simp)];rfl
   ·rcases (H.2 _ _ e).2 rfl with h|h<;>rw [h]<;>rfl
 refine wpAny_Name ?_ f1
 rcases RA hl with e1|⟨c,e1,e2⟩
 ·obtain ⟨h1,w,h2,h3⟩:=H.5 _ _ e1 il
  rw [e]
  exact ID H.1.10 h1 H.nd h2 (K _ _ _ _ _ _ q h3 pr H.6)
 ·obtain ⟨h1,a,h2,h3⟩:=H.5 _ _ e1 il
  refine ay (H.6.get' e2 h3) fun o1 zz3 g1=>?_
  obtain ⟨w,r1,r2⟩:=zz3
  rcases h1 with h1|h1
  ·rw [e]
   exact wpAny_loadName_cell H.1.10 h1 h2 ⟨_,g1,r1⟩ (K _ _ _ _ _ _ q r2 pr H.6)
  ·rw [e] at f2 ⊢
   exact wpAny_loadName_free H.1.10 h1 h2 ⟨_,g1,r1⟩ (K _ _ _ _ _ _ q r2 pr H.6) f2
theorem PD (G:TabG C) (H:aZ C n sc S hid m mD ρ loc σ s.heap) {x:Nat} {v:CV} {id:Str} {p:Pos} (hn:dC (C.nm x) id=true) (hk:dN sc id .globalImplicit=true) (hf:j4 id=true) (hl:C.T.gv x=some v) (q:Q v σ) (K:bQ C S hid m ρ s Q Qm):
  aq (model C.prog C.w) S.A (eval (.Name id p) S.env) Qm E s:=by
 refine ay (G.gv _ _ hl) fun w h1 h2=>nn (E:=E) (Fw H.1.10 (nG H hk (by simp)) ?_ (pW hf).1)
 rw [(bN hn)]
 exact H.g h1 (K _ _ _ _ _ _ q h2.of_nil (DM ρ) H.6)
end
theorem eJ:∀{ops:List K9} {es:List Expr},(∀e∈es,fW e=true)->lastMarks ops es=false
 |[],Z1,Z2=>by simp [lastMarks]
 |[Z1],[],Z2=>by simp [lastMarks]
 |[op],[e],h=>by
  have:=h e (.head _)
  cases e<;>first|rfl|cases this
 |[op],Z1::Z2::Z3,Z4=>by simp [lastMarks]
 |Z1::Z2::Z3,[],Z4=>by simp [lastMarks]
 |Z1::o::ops,Z2::es,h=>by
  simp only [lastMarks]
  exact eJ fun e he=>h e (.tail _ he)
theorem fV (h:Q b s):aq M A (truthy (.bool b)) Q E s:=fun Z0 Z0 Z0 Z0 Z0=>h
theorem mS {α β:Type} {f:α->β->Bool} {g:β->Bool} (hg:∀a b,f a b=true->g b=true):∀{l:List α} {m:List β},bA f l m=true->∀b∈m,g b=true:=by
 intro x0
 induction x0 with
 |nil=>
  intro m h b hb
  rw [bG h] at hb;cases hb
 |cons a l ihh=>
  intro m h b hb
  refine cV (az h) fun b' r zz1 h1 h2=>?_
  subst zz1
  rcases Dv.mp hb with rfl|hb
  ·exact hg _ _ h1
  ·exact ihh h2 b hb
theorem Oy (G:TabG C) (he:SE C n ih) (ho:Mr o op=true) (ha:aN C.nm C.gk k sc a l=true) (hb:aN C.nm C.gk k sc b r=true)
  (H:aZ C n sc S hid m mD ρ loc σ s.heap) (q:ih.e a loc σ fun a σ=>ih.e b loc σ fun b σ=>dJ fl C.T σ o a b Q) (K:bQ C S hid m ρ s Q Qm):aq (model C.prog C.w) S.A (eval (.BinOp l op r p) S.env) Qm E s:=by
 refine M4 (he _ _ _ _ ha _ _ _ _ _ _ _ _ _ _ _ H q fun ca σ' ρ' va h' tk q hv p R=>?_)
 have H':=H.go p R
 exact he _ _ _ _ hb _ _ _ _ _ _ _ _ _ _ _ H' q fun cb σ'' ρ'' vb h'' tk' q hw p' R'=>nn (yo G.tv (s:=aQ s h'' tk') (H'.go p' R') ho (hv.mono p') hw q ((K.mono p _ _).mono p' _ _))
theorem QA (he:SE C n ih) (ha:aN C.nm C.gk k sc a x=true) (H:aZ C n sc S hid m mD ρ loc σ s.heap)
  (q:ih.e a loc σ fun a σ=>match a with|.int i=>Q (.int (-i)) σ|_=>False) (K:bQ C S hid m ρ s Q Qm):aq (model C.prog C.w) S.A (eval (.UnaryOp .USub x p) S.env) Qm E s:=by
 refine zH (he _ _ _ _ ha _ _ _ _ _ _ _ _ _ _ _ H q fun ca σ' ρ' va h' tk q hv p R=>?_)
 split at q
 ·refine aG hv fun t zz3=>?_
  clear hv
  subst zz3
  exact nn (PySem.P.neg_int (K _ _ _ _ _ _ q ⟨_,rfl⟩ p R))
 ·cases q
theorem Pg (he:SE C n ih) (ht:ST C n ih) (h1:aN C.nm C.gk k sc t t'=true) (h2:aN C.nm C.gk k sc a a'=true) (h3:aN C.nm C.gk k sc b b'=true) (H:aZ C n sc S hid m mD ρ loc σ s.heap)
  (q:ih.t t loc σ fun r σ=>br fl r (ih.e a loc σ Q) (ih.e b loc σ Q)) (K:bQ C S hid m ρ s Q Qm):aq (model C.prog C.w) S.A (eval (.IfExp t' a' b' p) S.env) Qm E s:=by
 refine Mu (ht _ _ _ _ h1 _ _ _ _ _ _ _ _ _ _ _ H q fun r σ' ρ' h' tk q p R=>aD (jx q) fun q1 q2=>?_)
 cases r with
 |true=>exact he _ _ _ _ h2 _ _ _ _ _ _ _ _ _ _ _ (H.go p R) (q1 rfl) (K.mono p _ _)
 |false=>exact he _ _ _ _ h3 _ _ _ _ _ _ _ _ _ _ _ (H.go p R) (q2 rfl) (K.mono p _ _)
theorem wR {isAnd:Bool} (he:SE C n ih) (ho:yx isAnd op=true):
  ∀{l:List CE} {vs:List Expr} {ρ:List Du} {σ:al} {s:Dm} {Q:bu} {Qm:Dk->Dm->Prop},bA (aN C.nm C.gk k sc) l vs=true->aZ C n sc S hid m mD ρ loc σ s.heap->oZ ih fl isAnd l loc σ Q->bQ C S hid m ρ s Q Qm->aq (model C.prog C.w) S.A (eval (.BoolOp op vs p) S.env) Qm E s
 |[],Z1,Z2,Z3,Z4,Z5,Z6,Z7,Z8,q,Z9=>q.elim
 |[c],es,ρ,σ,s,Q,Qm,hc,H,q,K=>by
  refine cV (az hc) fun e r zz5 h1 h2=>?_
  subst zz5
  rw [bG h2]
  exact lA (he _ _ _ _ h1 _ _ _ _ _ _ _ _ _ _ _ H q K)
 |c::d::l,es,ρ,σ,s,Q,Qm,hc,H,q,K=>by
  refine cV (az hc) fun e r zz7 h1 h2=>?_
  subst zz7
  refine cV (az h2) fun e' r' zz9 h1' h2'=>?_
  subst zz9
  have main:∀{Qv},(∀r σ' ρ' h' tk,(match isAnd with
    |true=>br fl r (oZ ih fl isAnd (d::l) loc σ' Q) (Q (.bool false) σ')
    |false=>br fl r (Q (.bool true) σ') (oZ ih fl isAnd (d::l) loc σ' Q))->ρ<+:ρ'->aX C S hid m ρ' σ' h'->Qv (.bool r) (aQ s h' tk))->aq (model C.prog C.w) S.A (eval e S.env) Qv E s:=by
   intro Qv hq
   refine he _ _ _ _ h1 _ _ _ _ _ _ _ _ _ _ _ H q fun cv σ' ρ' v h' tk q hv p R=>?_
   split at q
   ·have:v=.bool _:=hv
    rw [this]
    exact hq _ _ _ _ _ q p R
   ·cases q
  have ho':=ho
  cases isAnd<;>cases op<;>first|cases ho|skip
  ·refine t6 (main fun r σ' ρ' h' tk q p R=>fV (aD (jx q) fun q1 q2=>?_))
   cases r with
   |true=>exact K _ _ _ _ _ _ (q1 rfl) rfl p R
   |false=>exact wR (fl:=fl) (isAnd:=false) (op:=.Or) he ho' h2 (H.go p R) (q2 rfl) (K.mono p _ _)
  ·refine lI (main fun r σ' ρ' h' tk q p R=>fV (aD (jx q) fun q1 q2=>?_))
   cases r with
   |true=>exact wR (fl:=fl) (isAnd:=true) (op:=.And) he ho' h2 (H.go p R) (q1 rfl) (K.mono p _ _)
   |false=>exact K _ _ _ _ _ _ (q2 rfl) rfl p R
theorem xb {isAnd:Bool} (ht:ST C n ih) (ho:yx isAnd op=true):
  ∀{l:List CE} {vs:List Expr} {ρ:List Du} {σ:al} {s:Dm} {Q:Bool->al->Prop} {Qm:Bool->Dm->Prop},bA (aN C.nm C.gk k sc) l vs=true->aZ C n sc S hid m mD ρ loc σ s.heap->vr ih fl isAnd l loc σ Q->ja C S hid m ρ s Q Qm->aq (model C.prog C.w) S.A (isTrue (.BoolOp op vs p) S.env whole) Qm E s
 |[],es,ρ,σ,s,Q,Qm,hc,H,q,K=>by
  rw [bG hc]
  have ho':=ho
  cases isAnd<;>cases op<;>first|cases ho|skip
  ·exact lF (op:=.Or) (K false σ ρ _ s.toks q (DM _) H.6)
  ·exact lF (op:=.And) (K true σ ρ _ s.toks q (DM _) H.6)
 |c::l,es,ρ,σ,s,Q,Qm,hc,H,q,K=>by
  refine cV (az hc) fun e r zz11 h1 h2=>?_
  subst zz11
  have ho':=ho
  cases isAnd<;>cases op<;>first|cases ho|skip
  ·refine sL (ht _ _ _ _ h1 _ _ _ _ _ _ _ _ _ _ _ H q fun r σ' ρ' h' tk q p R=>aD (jx q) fun q1 q2=>?_)
   cases r with
   |true=>exact K _ _ _ _ _ (q1 rfl) p R
   |false=>exact xb (fl:=fl) (isAnd:=false) (op:=.Or) ht ho' h2 (H.go p R) (q2 rfl) (K.mono p _ _)
  ·refine ra (ht _ _ _ _ h1 _ _ _ _ _ _ _ _ _ _ _ H q fun r σ' ρ' h' tk q p R=>aD (jx q) fun q1 q2=>?_)
   cases r with
   |true=>exact xb (fl:=fl) (isAnd:=true) (op:=.And) ht ho' h2 (H.go p R) (q1 rfl) (K.mono p _ _)
   |false=>exact K _ _ _ _ _ (q2 rfl) p R
theorem BL (G:TabG C) (he:SE C n ih):∀{l:List (pk×CE)} {ops:List K9} {vs:List Expr} {ρ:List Du} {σ:al} {s:Dm} {a:CV} {va:Dk} {Q:Bool->al->Prop} {Qm:Dk->Dm->Prop},bA (fun p o=>wj p.1 o) l ops=true->bA (fun p v=>fW v&&aN C.nm C.gk k sc p.2 v) l vs=true->aZ C n sc S hid m mD ρ loc σ s.heap->VR ρ a va->
  i9 C.T ih fl a l loc σ Q->(∀r σ' ρ' h' tk,Q r σ'->ρ<+:ρ'->aX C S hid m ρ' σ' h'->Qm (.bool r) (aQ s h' tk))->aq (model C.prog C.w) S.A (compareChain p va ops (evalEach vs S.env)) Qm E s:=by
 intro l
 induction l with
 |nil=>
  intro _ _ _ _ _ _ _ _ _ _ _ _ _ q _
  exact q.elim
 |cons x0 l ihh=>
  intro ops vs ρ σ s a va Q Qm h1 h2 H hv q K
  cases x0 with
  |mk o c=>
   cases l with
   |nil=>
    refine cV (az h1) fun op r zz13 c1 c2=>?_
    subst zz13
    refine cV (az h2) fun e r' zz15 d1 d2=>?_
    subst zz15
    rw [bG c2,bG d2]
    rw [Dl] at d1
    exact iN (he _ _ _ _ d1.2 _ _ _ _ _ _ _ _ _ _ _ H q fun cv σ' ρ' v h' tk q hw p R=>nn (mr G.tv (s:=aQ s h' tk) (H.go p R) c1 (hv.mono p) hw q fun r tk' q=>K _ _ _ _ _ q p R))
   |cons d l=>
    refine cV (az h1) fun op r zz17 c1 c2=>?_
    subst zz17
    refine cV (az h2) fun e r' zz19 d1 d2=>?_
    subst zz19
    refine cV (az c2) fun op' r2 zz21 c1' c2'=>?_
    subst zz21
    refine cV (az d2) fun e' r2' zz23 d1' d2'=>?_
    subst zz23
    rw [Dl] at d1
    refine rq (he _ _ _ _ d1.2 _ _ _ _ _ _ _ _ _ _ _ H q fun cv σ' ρ' v h' tk q hw p R=>nn (mr G.tv (s:=aQ s h' tk) (H.go p R) c1 (hv.mono p) hw q fun r tk' q=>fV (aD (jx q) fun q1 q2=>?_)))
    cases r with
    |true=>exact ihh c2 d2 (H.go p R) hw (q1 rfl) fun r σ'' ρ'' h'' tk'' q p' R'=>K _ _ _ _ _ q (p.trans p') R'
    |false=>exact K _ _ _ _ _ (q2 rfl) p R
theorem A8 (G:TabG C) (he:SE C n ih):∀{l:List (pk×CE)} {ops:List K9} {vs:List Expr} {ρ:List Du} {σ:al} {s:Dm} {a:CV} {va:Dk} {Q:Bool->al->Prop} {Qm:Bool->Dm->Prop},bA (fun p o=>wj p.1 o) l ops=true->bA (fun p v=>fW v&&aN C.nm C.gk k sc p.2 v) l vs=true->aZ C n sc S hid m mD ρ loc σ s.heap->VR ρ a va->
  i9 C.T ih fl a l loc σ Q->ja C S hid m ρ s Q Qm->aq (model C.prog C.w) S.A (testChain p va ops (evalEach vs S.env)) Qm E s:=by
 intro l
 induction l with
 |nil=>
  intro _ _ _ _ _ _ _ _ _ _ _ _ _ q _
  exact q.elim
 |cons x0 l ihh=>
  intro ops vs ρ σ s a va Q Qm h1 h2 H hv q K
  cases x0 with
  |mk o c=>
   cases l with
   |nil=>
    refine cV (az h1) fun op r zz25 c1 c2=>?_
    subst zz25
    refine cV (az h2) fun e r' zz27 d1 d2=>?_
    subst zz27
    rw [bG c2,bG d2]
    rw [Dl] at d1
    exact sw (he _ _ _ _ d1.2 _ _ _ _ _ _ _ _ _ _ _ H q fun cv σ' ρ' v h' tk q hw p R=>nn (mr G.tv (s:=aQ s h' tk) (H.go p R) c1 (hv.mono p) hw q fun r tk' q=>fV (K _ _ _ _ _ q p R)))
   |cons d l=>
    refine cV (az h1) fun op r zz29 c1 c2=>?_
    subst zz29
    refine cV (az h2) fun e r' zz31 d1 d2=>?_
    subst zz31
    refine cV (az c2) fun op' r2 zz33 c1' c2'=>?_
    subst zz33
    refine cV (az d2) fun e' r2' zz35 d1' d2'=>?_
    subst zz35
    rw [Dl] at d1
    refine t4 (he _ _ _ _ d1.2 _ _ _ _ _ _ _ _ _ _ _ H q fun cv σ' ρ' v h' tk q hw p R=>nn (mr G.tv (s:=aQ s h' tk) (H.go p R) c1 (hv.mono p) hw q fun r tk' q=>fV (aD (jx q) fun q1 q2=>?_)))
    cases r with
    |true=>exact ihh c2 d2 (H.go p R) hw (q1 rfl) fun r σ'' ρ'' h'' tk'' q p' R'=>K _ _ _ _ _ q (p.trans p') R'
    |false=>exact K _ _ _ _ _ (q2 rfl) p R
theorem OH (G:TabG C) (he:SE C n ih) {fl:Bool} {a:CE} {l:List (pk×CE)} {a':Expr} {ops:List K9} {vs:List Expr} {p:Pos} (h0:aN C.nm C.gk k sc a a'=true) (h1:bA (fun p o=>wj p.1 o) l ops=true) (h2:bA (fun p v=>fW v&&aN C.nm C.gk k sc p.2 v) l vs=true) (H:aZ C n sc S hid m mD ρ loc σ s.heap)
  (q:ih.e a loc σ fun a σ=>i9 C.T ih fl a l loc σ fun r σ=>Q (.bool r) σ) (K:bQ C S hid m ρ s Q Qm):aq (model C.prog C.w) S.A (eval (.Compare a' ops vs p) S.env) Qm E s:=by
 show aq _ _ (eval a' S.env >>=fun x=>compareChain p x ops (markedEach ops vs (evalEach vs S.env))) _ _ _
 rw [GV _ _ _ (eJ (mS (g:=fW) (fun a b h=>(Dl _ _▸h).1) h2))]
 exact aa (he _ _ _ _ h0 _ _ _ _ _ _ _ _ _ _ _ H q fun cv σ' ρ' v h' tk q hv p R=>BL (s:=aQ s h' tk) G he h1 h2 (H.go p R) hv q fun r σ'' ρ'' h'' tk'' q p' R'=>K _ _ _ _ _ _ q rfl (p.trans p') R')
theorem Qj (G:TabG C) (he:SE C n ih) {fl:Bool} {a:CE} {l:List (pk×CE)} {a':Expr} {ops:List K9} {vs:List Expr} {p:Pos} {whole:Sem Dk} {Q:Bool->al->Prop} {Qm:Bool->Dm->Prop} (h0:aN C.nm C.gk k sc a a'=true) (h1:bA (fun p o=>wj p.1 o) l ops=true) (h2:bA (fun p v=>fW v&&aN C.nm C.gk k sc p.2 v) l vs=true) (H:aZ C n sc S hid m mD ρ loc σ s.heap)
  (q:ih.e a loc σ fun a σ=>i9 C.T ih fl a l loc σ Q) (K:ja C S hid m ρ s Q Qm):aq (model C.prog C.w) S.A (isTrue (.Compare a' ops vs p) S.env whole) Qm E s:=by
 show aq _ _ (eval a' S.env >>=fun x=>testChain p x ops (markedEach ops vs (evalEach vs S.env))) _ _ _
 rw [GV _ _ _ (eJ (mS (g:=fW) (fun a b h=>(Dl _ _▸h).1) h2))]
 exact aa (he _ _ _ _ h0 _ _ _ _ _ _ _ _ _ _ _ H q fun cv σ' ρ' v h' tk q hv p R=>A8 (s:=aQ s h' tk) G he h1 h2 (H.go p R) hv q (K.mono p _ _))
theorem o8 {C:Cx} {k:Nat} {sc:Ef} {pos:Pos} {env:Env}:∀{l:List CE} {es:List Expr},bA (aN C.nm C.gk k sc) l es=true->(backTo pos (starEach es env)).any (·.1)=false:=by
 intro x0
 induction x0 with
 |nil=>
  intro es h
  rw [bG h];rfl
 |cons c l ihh=>
  intro es h
  refine cV (az h) fun e r zz1 h1 h2=>?_
  subst zz1
  rw [cX (eo h1)]
  show (false||(backTo pos (starEach r env)).any (·.1))=false
  rw [ihh h2];rfl
theorem sa {C:Cx} {k:Nat} {sc:Ef} {pos:Pos} {env:Env}:∀{l:List CE} {es:List Expr},bA (aN C.nm C.gk k sc) l es=true->(backTo pos (starEach es env)).all (!·.1)=true:=by
 intro x0
 induction x0 with
 |nil=>
  intro es h
  rw [bG h];rfl
 |cons c l ihh=>
  intro es h
  refine cV (az h) fun e r zz3 h1 h2=>?_
  subst zz3
  rw [cX (eo h1)]
  show (true&&(backTo pos (starEach r env)).all (!·.1))=true
  rw [ihh h2];rfl
theorem i4:∀{l:List α} {m:List β},bA f l m=true->m.length=l.length:=by
 intro x0
 induction x0 with
 |nil=>
  intro m h
  rw [bG h];rfl
 |cons a l ihh=>
  intro m h
  refine cV (az h) fun b r zz5 h1 h2=>?_
  subst zz5
  rw [DC,DC,ihh h2]
theorem qt (h:gA o=true) (name:Str) (env:Env) (whole:Sem Dk):attributeBase o name env whole=whole:=by
 refine Ho (b:=bif gA o then whole else attributeBase o name env whole) (by clear h;cases o<;>first|exact GG whole|exact GG _) (by rw [h];rfl)
section
variable {C:Cx} {n:Nat} {sc:Ef} {S:bT} {hid:List (Du×Obj)} {m mD:Str->Option Dk} {ρ:List Du}
theorem oM (hb:gA o=true) (hl:bA (aN C.nm C.gk k sc) l es=true) (h10:l.length<=10) (hp:apos.endLine=pos.line)
  (h:aq (model C.prog C.w) S.A (eval o env) (fun ov s₁=>∀pl,aq (model C.prog C.w) S.A (getMethod ov name pl) (fun fv s₂=>aq (model C.prog C.w) S.A (callWith pos fv.1 fv.2 (backTo pos (starEach es env)) []) Qm E s₂) E s₁) E s):
  aq (model C.prog C.w) S.A (eval (.Call (.Attribute o name apos) es [] pos) env) Qm E s:=by
 rw [arm_eval_Call,qt hb]
 refine aa (aC h (fun ov s₁ h₁=>?_) fun Z0 Z0 e=>e)
 refine aa (ak ?_)
 have hform:methodCallForm (es.length+([]:List Keyword).length) (backTo pos (starEach es env)) (backToKw pos (keywordEach [] env))=true:=by
  unfold methodCallForm
  rw [sa hl]
  have:es.length<30:=by rw [i4 hl];lia
  exact decide_eq_true this
 have hpos:methodCallPos true o env apos pos=pure pos:=by unfold methodCallPos;simp [hp]
 unfold methodCall
 rw [hform]
 unfold calleeOf
 refine aa (af (aC (h₁ _) (fun fv s₂ h₂=>?_) fun Z0 Z0 e=>e))
 exact aa (bW hpos h₂)
def mw (C:Cx) (f:Dk):Prop:=∀(M:Ks) (h:DI),C.K.In h->∃k,(k=Lk.frame\/k=LC\/k=KO)/\Looks M h (keeperOf f) k
theorem mw.of_K (h:keepIn C.K f=true):mw C f:=fun M=>keeps_K h
theorem mw.bi (id:String):mw C (.builtin id):=fun M h Z0=>⟨.machine,.inr (.inl rfl),.now⟩
theorem mw.ty (id:String):mw C (.type id):=fun M h Z0=>⟨.machine,.inr (.inl rfl),.now⟩
theorem mw.biV (b:Bf):mw C (B5 b):=by cases b<;>first|exact .bi _|exact .ty _
theorem pK (he:SE C n ih) {pos:Pos} {f:Dk} (hk:mw C f) {first:List Dk} {l:List CE} {es:List Expr} {Q:List CV->al->Prop} (hc:bA (aN C.nm C.gk k sc) l es=true) (H:aZ C n sc S hid m mD ρ loc σ s.heap) (q:eC ih l loc σ Q)
  (K:td C S hid m ρ s l.length Q fun vs s'=>aq (model C.prog C.w) S.A (call f (first++vs)) Qm E s'):
  aq (model C.prog C.w) S.A (callWith pos f first (backTo pos (starEach es S.env)) []) Qm E s:=by
 have main:=sq (pos:=pos) (E:=E) he hc H q (Qm:=fun vs s'=>C.K.In s'.heap/\aq (model C.prog C.w) S.A (call f (first++vs)) Qm E s') fun cvs σ' ρ' vs h' tk q hv hl p R=>⟨(H.go p R).X,K _ _ _ _ _ _ q hv hl p R⟩
 refine kX (P:=fun h=>C.K.In h) (o8 (pos:=pos) (env:=S.env) hc) (fun h X=>hk _ h X) ?_
 cases l with
 |nil=>
  rw [bG hc] at main ⊢
  exact nY ⟨H.X,K [] σ ρ [] s.heap s.toks q trivial rfl (DM _) H.6⟩
 |cons c l=>
  refine cV (az hc) fun e r zz7 h1 h2=>?_
  subst zz7
  rw [cX (eo h1)] at main ⊢
  exact fy main
theorem PJ (he:SE C n ih) (hc:bA (aN C.nm C.gk k sc) l es=true) (hl:l.length<=1000) (H:aZ C n sc S hid m mD ρ loc σ s.heap)
  (q:eC ih l loc σ fun vs σ=>Q (.obj σ.length) (σ++[.list vs])) (K:bQ C S hid m ρ s Q Qm):aq (model C.prog C.w) S.A (eval (.List es p) S.env) Qm E s:=by
 refine PF (sq he hc H q fun cvs σ' ρ' vs h' tk q hv hn p R=>⟨by rw [hn];simp only [sizeLine];lia,?_⟩)
 refine aX.e R fun os F N nd eq O=>K _ _ (ρ'++[h'.objs.size]) _ _ _ q ⟨_,?_,rfl⟩ (p.trans (cq _ _)) (aX.push nd eq O (F.push _) (N.push F _) (d9 N) ⟨_,0,rfl,hv.mono (cq _ _)⟩)
 rw [←O.len' eq];exact gZ _ _
theorem QO (he:SE C n ih) (hc:bA (aN C.nm C.gk k sc) l es=true) (hl:l.length<=1000) (H:aZ C n sc S hid m mD ρ loc σ s.heap)
  (q:eC ih l loc σ fun vs σ=>Q (.obj σ.length) (σ++[.tup vs])) (K:bQ C S hid m ρ s Q Qm):aq (model C.prog C.w) S.A (eval (.Tuple es kk p) S.env) Qm E s:=by
 refine MR (sq he hc H q fun cvs σ' ρ' vs h' tk q hv hn p R=>⟨by rw [hn];simp only [sizeLine];lia,?_⟩)
 refine aX.e R fun os F N nd eq O=>K _ _ (ρ'++[h'.objs.size]) _ _ _ q ⟨_,?_,rfl⟩ (p.trans (cq _ _)) (aX.push nd eq O (F.push _) (N.push F _) (d9 N) ⟨_,0,rfl,hv.mono (cq _ _)⟩)
 rw [←O.len' eq];exact gZ _ _
theorem eu (he:SE C n ih) {f:Dk} (hk:mw C f) {id:Str} {p pos:Pos} {l:List CE} {es:List Expr} {Q:List CV->al->Prop} (hc:bA (aN C.nm C.gk k sc) l es=true) (hd:dN sc id .globalImplicit=true) (hf:j4 id=true)
  (H:aZ C n sc S hid m mD ρ loc σ s.heap) (hn:∀{Q':Dk->Dm->Prop},Q' f s->wpAny (model C.prog C.w) S.A (loadGlobal S.env id) Q' E s) (q:eC ih l loc σ Q)
  (K:td C S hid m ρ s l.length Q fun vs s'=>aq (model C.prog C.w) S.A (call f vs) Qm E s'):aq (model C.prog C.w) S.A (eval (.Call (.Name id p) es [] pos) S.env) Qm E s:=by
 refine jI (nn (Fw H.1.10 (nG H hd (by simp)) (hn ?_) (pW hf).1))
 exact pK he hk hc H q K
theorem fU (x:Str):aV x.cps.toList=x:=by cases x;simp [aV]
theorem MJ (G:TabG C) (he:SE C n ih) {fl:Bool} {b:Bf} {id:Str} {p pos:Pos} {l:List CE} {es:List Expr} (hc:bA (aN C.nm C.gk k sc) l es=true) (hd:dN sc id .globalImplicit=true) (hf:j4 id=true) (hg:qr C.gk id (.bi b)=true)
  (H:aZ C n sc S hid m mD ρ loc σ s.heap) (q:eC ih l loc σ fun vs σ=>cQ fl C.T σ b vs Q) (K:bQ C S hid m ρ s Q Qm):aq (model C.prog C.w) S.A (eval (.Call (.Name id p) es [] pos) S.env) Qm E s:=by
 refine eU (G.bi _ _ (hO _ hg)) fun h1 h2 h3=>?_
 rw [fU] at h1 h2 h3
 exact eu he (.biV b) hc hd hf H (H.b h1 h2 h3) q fun cvs σ' ρ' vs h' tk q hv hn p R=>xJ G.bo (s:=aQ s h' tk) (H.go p R) hv q (K.mono p _ _)
theorem Qd (G:TabG C) (he:SE C n ih) (hb:gA v=true) (hp:Dy ap.endLine ps.line=true) (ho:aN C.nm C.gk k sc o v=true) (ha:dC (SL mk) a=true) (hc:bA (aN C.nm C.gk k sc) l es=true) (h10:l.length<=10)
  (H:aZ C n sc S hid m mD ρ loc σ s.heap) (q:ih.e o loc σ fun o σ=>cond (jK mk (bz σ o)) (eC ih l loc σ fun vs σ'=>cO fl σ' mk (bz σ o) o vs Q) False) (K:bQ C S hid m ρ s Q Qm):
  aq (model C.prog C.w) S.A (eval (.Call (.Attribute v a ap) es [] ps) S.env) Qm E s:=by
 refine oM hb hc h10 (Dz hp) (he _ _ _ _ ho _ _ _ _ _ _ _ _ _ _ _ H q fun co σ' ρ' vo h' tk q hv p R pl=>?_)
 have H':=H.go p R
 cases hm:jK mk (bz σ' co) with
 |false=>rw [hm] at q;exact q.elim
 |true=>
  rw [hm] at q
  rw [bN ha]
  exact nn (C3 G.bm (s:=aQ s h' tk) H' hv hm (pK (s:=aQ s h' tk) he (.bi _) hc H' q fun cvs σ'' ρ'' vs h'' tk' q hw hn p' R'=>yQ G.bm G.sm (s:=aQ s h'' tk') (H'.go p' R') (hv.mono p') hm hw q ((K.mono p _ _).mono p' _ _)))
theorem PR (he:SE C n ih) (hj:yj j=true) (ho:aN C.nm C.gk k sc o v=true) (hi:aN C.nm C.gk k sc i j=true) (H:aZ C n sc S hid m mD ρ loc σ s.heap)
  (q:ih.e o loc σ fun o σ=>ih.e i loc σ fun i σ=>gQ fl C.T σ o i Q) (K:bQ C S hid m ρ s Q Qm):aq (model C.prog C.w) S.A (eval (.Subscript v j p) S.env) Qm E s:=by
 rw [eval_Subscript]
 exact aa (he _ _ _ _ ho _ _ _ _ _ _ _ _ _ _ _ H q fun co σ' ρ' vo h' tk q hv p R=>aa (af (he _ _ _ _ hi _ _ _ _ _ _ _ _ _ _ _ (H.go p R) q fun ci σ'' ρ'' vi h'' tk' q hw p' R'=>aa (ak (nn (AI (s:=aQ s h'' tk') ((H.go p R).go p' R') (hv.mono p') hw q ((K.mono p _ _).mono p' _ _) v j))))))
end
theorem KR.mono (h:ρ<+:ρ'):∀{l:List (List Nat×CV)} {kvs:List (Str×Dk)},KR ρ l kvs->KR ρ' l kvs:=by
 intro x0
 induction x0 with
 |nil=>
  intro y4
  cases y4 with
  |nil=>
   intro _
   exact trivial
  |cons Z1 Z2=>
   intro x
   exact x.elim
 |cons Z1 Z2 ihh=>
  intro y4
  cases y4 with
  |nil=>
   intro x
   exact x.elim
  |cons Z1 Z2=>
   rintro ⟨h1,h2,h3⟩
   exact ⟨h1,h2.mono h,ihh h3⟩
theorem KR.merged:∀{r:List (List Nat×CV)} {krs:List (Str×Dk)},KR ρ r krs->∀{l:List (List Nat×CV)} {kvs:List (Str×Dk)},KR ρ l kvs->(l.map (·.1)).Nodup->KR ρ (gx l r) (PySem.merged kvs krs)/\((gx l r).map (·.1)).Nodup:=by
 intro x0
 induction x0 with
 |nil=>
  intro y4
  cases y4 with
  |nil=>
   intro _ _ _ h nd
   exact ⟨h,nd⟩
  |cons Z1 Z2=>
   intro x _ _ _ _
   exact x.elim
 |cons w2 r ihh=>
  obtain ⟨k,v⟩:=w2
  intro y4
  cases y4 with
  |nil=>
   intro x _ _ _ _
   exact x.elim
  |cons q krs=>
   rintro ⟨h1,h2,h3⟩ l kvs h nd
   show KR ρ (gx (iV l k v) r) (PySem.merged (stored kvs q.1 q.2) krs)/\_
   rw [h1]
   exact ihh h3 (h.put nd h2) (ny nd _ _)
section
variable {loc:aP} {σ:al} {s:Dm} {Q:bu} {Qm:Dk->Dm->Prop} {E:Dk->Dm->Prop} {ih:Ih} {k:Nat}
theorem aX.show' (R:aX C S ((a,o)::hid) m ρ σ h) (k:∀b ob,b≠a->h.get? b=some ob->h'.get? b=some ob) (g:h'.get? a=some o') (ho:OR C (ρ++[a]) co o'):aX C S hid m (ρ++[a]) (σ++[co]) h':=by
 refine aX.e R fun os F N nd eq O=>?_
 have z:=N (a,o) (.head _)
 rw [EX,DB,D6] at nd
 have nd:=nd
 have fr:∀p∈hid++os,p.1≠a:=fun p hp e=>nd.1 (by
  have:=DE (f:=(·.1)) hp
  simpa [e] using this)
 exact aX.push nd.2 eq O (⟨F.ns.at fun o e=>k _ _ (fun h=>z.2.1 h.symm) e,fun b o e=>k _ _ (fun h=>by rw [h,z.2.2] at e;cases e) (F.keep b o e),F.above⟩) (fun p hp=>by
  rcases Dv.mp hp with rfl|hp
  ·exact ⟨g,z.2⟩
  ·have y:=N p (.tail _ hp)
   exact ⟨k _ _ (fr p hp) y.1,y.2⟩) fr ho
theorem aZ.hide (H:aZ C n sc S hid m mD ρ loc σ s.heap) (R:aX C S ((a,o)::hid) m ρ σ h'):aZ C n sc S ((a,o)::hid) m mD ρ loc σ h':=
 ⟨H.1,H.2,H.3,fun h F hm=>H.4 h F fun p hp=>hm p (.tail _ hp),H.5,R⟩
theorem Ev (he:SE C n ih):∀{l:List (List Nat×CE)} {ks:List (Option Expr)} {vs:List Expr} {ρ:List Du} {σ:al} {s:Dm} {Q:List (List Nat×CV)->al->Prop} {Qm:List (Dk×Dk)->Dm->Prop},
  bA (fun p q=>xj p.1 q) l ks=true->bA (fun p v=>aN C.nm C.gk k sc p.2 v) l vs=true->aZ C n sc S hid m mD ρ loc σ s.heap->Cf ih l loc σ Q->
  (∀r σ' ρ' ps krs h' tk,Q r σ'->KR ρ' r krs->Carries (strKind C.prog C.w) ps krs->ρ<+:ρ'->aX C S hid m ρ' σ' h'->Qm ps (aQ s h' tk))->
  aq (model C.prog C.w) S.A (evalPairs (pairTrees ks vs S.env pos)) Qm E s:=by
 intro x0
 induction x0 with
 |nil=>
  intro ks vs ρ σ s Q Qm h1 h2 H q K
  rw [bG h1,bG h2]
  exact t7 (K [] σ ρ [] [] _ s.toks q trivial trivial (DM _) H.6)
 |cons w2 l ihh=>
  obtain ⟨x,c⟩:=w2
  intro ks vs ρ σ s Q Qm h1 h2 H q K
  refine cV (az h1) fun e r zz1 c1 c2=>?_
  subst zz1
  refine cV (az h2) fun e' r' zz3 d1 d2=>?_
  subst zz3
  refine onO_e c1 fun e c1=>onStr_e c1 fun y a b c1=>?_
  rw [bN c1]
  exact rx (nn (Jg (he _ _ _ _ d1 _ _ _ _ _ _ _ _ _ _ _ H q fun cv σ' ρ' v h' tk q hv p R=>ihh c2 d2 (H.go p R) q fun r σ'' ρ'' ps krs h'' tk' q hk hc p' R'=>K _ _ _ _ ((aV x,v)::krs) _ _ q ⟨rfl,hv.mono p',hk⟩ ⟨HZ _ _ _ _,rfl,hc⟩ (p.trans p') R')))
theorem PE (he:SE C n ih)
  (h1:bA (fun p q=>xj p.1 q) l ks=true) (h2:bA (fun p v=>aN C.nm C.gk k sc p.2 v) l vs=true) (h3:0<l.length) (h4:l.length<=15)
  (H:aZ C n sc S hid m mD ρ loc σ s.heap) (q:Cf ih l loc σ fun vs σ=>Q (.obj σ.length) (σ++[.dict (gx [] vs)])) (K:bQ C S hid m ρ s Q Qm):aq (model C.prog C.w) S.A (eval (.Dict ks vs p) S.env) Qm E s:=by
 have l1:=i4 h1
 refine PC (knd:=strKind C.prog C.w) ?_ (by rw [l1,(i4 h2)]) (fun e=>by rw [e] at l1;simp at l1;lia) (by lia) ?_
 ·refine D2.mpr (mS (g:=fun q:Option Expr=>q.isSome) (fun a b h=>?_) h1)
  cases b with
  |none=>exact h
  |some Z1=>rfl
 ·have R₀:=H.6.hideP ({cls:=.type "dict",data:=.dict #[]}:Obj) rfl
  refine Ev (s:={s with heap:=s.heap.push {cls:=.type "dict",data:=.dict #[]}}) he h1 h2 (H.hide R₀) q fun r σ' ρ' ps krs h' tk q hk hc pp R=>⟨krs,hc,⟨_,#[],0,(R.mem (own:=[(s.heap.objs.size,_)]) (.head _)),⟨rfl,rfl,rfl⟩,rfl,fun e he=>by simp at he,.nil,E9⟩,fun h'' hd hs=>?_⟩
  refine Me hd fun o' es' ep g' zz8 c4 ke pe nk=>?_
  obtain ⟨c1,c2,c3⟩:=zz8
  refine aD (KR.merged hk (l:=[]) (kvs:=[]) trivial E9) fun kr nd=>K _ _ (ρ'++[s.heap.objs.size]) _ _ _ q ⟨_,?_,rfl⟩ (pp.trans (cq _ _)) (R.show' (fun b ob hb e=>hs.extBut b ob hb e) g' ⟨es'.toList,ep,?_,?_,nd⟩)
  ·rw [←R.len];exact gZ _ _
  ·cases o' with
   |mk c d dt sl=>
    simp only at c1 c2 c3 c4
    subst c1 c2 c3 c4
    rfl
  ·exact (kr.mono (cq _ _)).to_DR pe fun e he=>ke e (by simpa using he)
theorem se (he:SE C n ih) (hc:lC (aN C.nm C.gk kk sc) c e=true) (H:aZ C n sc S hid m mD ρ loc σ s.heap) (q:wQ ih c loc σ Q) (K:bQ C S hid m ρ s Q Qm):aq (model C.prog C.w) S.A (evalPart e S.env) Qm E s:=by
 cases c with
 |none=>
  refine isN_e hc ?_
  rw [evalPart_none]
  exact ad (K _ _ _ _ _ s.toks q rfl (DM _) H.6)
 |some c=>
  refine onO_e hc fun e hc=>?_
  rw [KP]
  exact he _ _ _ _ hc _ _ _ _ _ _ _ _ _ _ _ H q K
theorem OU (he:SE C n ih) (ho:aN C.nm C.gk k sc o v=true) (ha:lC (aN C.nm C.gk kk sc) a a'=true) (hb:lC (aN C.nm C.gk kk sc) b b'=true) (hc:lC (aN C.nm C.gk kk sc) c c'=true)
  (H:aZ C n sc S hid m mD ρ loc σ s.heap) (q:ih.e o loc σ fun o σ=>wQ ih a loc σ fun a σ=>wQ ih b loc σ fun b σ=>wQ ih c loc σ fun c σ=>bD fl σ o a b c Q) (K:bQ C S hid m ρ s Q Qm):
  aq (model C.prog C.w) S.A (eval (.Subscript v (.Slice a' b' c' p') p) S.env) Qm E s:=by
 rw [eval_Subscript]
 refine aa (he _ _ _ _ ho _ _ _ _ _ _ _ _ _ _ _ H q fun co σ0 ρ0 vo h0 tk0 q hv p0 R0=>?_)
 have H0:=H.go p0 R0
 refine aa (af (zP (se (s:=aQ s h0 tk0) he ha H0 q fun ca σ1 ρ1 va h1 tk1 q hva p1 R1=>?_)))
 have H1:=H0.go p1 R1
 refine se (s:=aQ s h1 tk1) he hb H1 q fun cb σ2 ρ2 vb h2 tk2 q hvb p2 R2=>?_
 have H2:=H1.go p2 R2
 exact se (s:=aQ s h2 tk2) he hc H2 q fun cc σ3 ρ3 vc h3 tk3 q hvc p3 R3=>aa (ak (nn (zO (s:=aQ s h3 tk3) (H2.go p3 R3) (hv.mono (p1.trans (p2.trans p3))) (hva.mono (p2.trans p3)) (hvb.mono p3) hvc q (K.mono (p0.trans (p1.trans (p2.trans p3))) _ _) v _)))
end
structure Pb (C:Cx) (c:Nat) (k:QM):Prop where
 mks:makesIn C.K (C.ca c)=true
 init:findIn C.K (.ref (C.ca c)) "__init__"=some (some (.ref (C.fa k.init)))
 initF:isFn C.K (.ref (C.fa k.init))=true
 get:∀name,plainGet C.K (C.ca c) name=true
 dict:hasDictIn C.K (C.ca c)=true
 set:findIn C.K (.ref (C.ca c)) "__setattr__"=some (some (.builtin "object.__setattr__"))
 over:plainOver C.K (C.ca c)=true
 ats:∀x,gS x k.ats=true->(∃attr,findIn C.K (.ref (C.ca c)) (C.nS x)=some attr/\noGet C.K attr=true)/\takerIn C.K (C.ca c) (C.nS x)=some none
 mt:∀x f,lk k.mths x=some f->findIn C.K (.ref (C.ca c)) (C.nS x)=some (some (.ref (C.fa f)))/\isFn C.K (.ref (C.fa f))=true/\keepIn C.K (.ref (C.fa f))=true
structure TabC (C:Cx):Prop extends TabG C where
 inj:∀x y,C.nm x=C.nm y->x=y
 cls:∀c k,C.T.cl c=some k->Pb C c k
def bY (C:Cx) (n:Nat) (f:Nat) (P:List CV->al->bu->Prop):Prop:=
 ∀as σ Q S hid m ρ s vs R,S.Ok C n->aX C S hid m ρ σ s.heap->dc ρ as vs->P as σ Q->bQ C S hid m ρ s Q (fun v s'=>R (.ok (.ret v)) s')->bg (model C.prog C.w) S.A (.call (.ref (C.fa f)) ⟨vs,[]⟩) R s
def SC (C:Cx) (n:Nat) (ih:Ih):Prop:=∀f,bY C n f (ih.c f)
def fu (C:Cx) (n:Nat):Prop:=∀f P,C.T.ct f=some P->bY C n f P
section
variable {C:Cx}
theorem qY {x y:Nat} (inj:∀x y,C.nm x=C.nm y->x=y) {t:Tok} {v:Dk} (e:v=.str (C.nS x) t):v.isStr (C.nS y)=Dy x y:=by
 subst e
 rw [cG,E5,beq_iff_eq,decide_eq_true_iff]
 exact ⟨fun h=>inj _ _ (e8 h),fun h=>by rw [h]⟩
theorem AR.noRef:∀{l:List (Nat×CV)} {es:List EL},AR C ρ l es->es.any (·.refKey)=false:=by
 intro x0
 induction x0 with
 |nil=>
  intro y4
  cases y4 with
  |nil=>
   intro _
   exact rfl
  |cons Z1 Z2=>
   intro x
   exact x.elim
 |cons Z1 Z2 ihh=>
  intro y4
  cases y4 with
  |nil=>
   intro x
   exact x.elim
  |cons e Z1=>
   rintro ⟨⟨t,hk⟩,_,h⟩
   rw [EI,ihh h]
   show (Dk.isRef _||false)=false
   rw [hk]
   rfl
theorem AR.get (inj:∀x y,C.nm x=C.nm y->x=y):∀{l:List (Nat×CV)} {es:List EL},AR C ρ l es->∀(x:Nat),match lk l x with
  |some v=>∃e,es.find? (·.key.isStr (C.nS x))=some e/\VR ρ v e.val
  |none=>es.find? (·.key.isStr (C.nS x))=none:=by
 intro x0
 induction x0 with
 |nil=>
  intro y4
  cases y4 with
  |nil=>
   intro _ _
   exact rfl
  |cons Z1 Z2=>
   intro h _
   exact h.elim
 |cons p l ihh=>
  intro y4
  cases y4 with
  |nil=>
   intro h _
   exact h.elim
  |cons e es=>
   rintro ⟨⟨t,hk⟩,hv,hr⟩ x
   have ih:=ihh hr x
   rw [jZ]
   rw [LR,qY inj hk]
   cases Dy p.1 x with
   |true=>exact ⟨e,rfl,hv⟩
   |false=>exact ih
theorem AR.get1 (inj:∀x y,C.nm x=C.nm y->x=y) (h:AR C ρ l es) (e:lk l x=some v):∃w,getL (C.nS x) es=some (some w)/\VR ρ v w:=by
 have:=h.get inj x
 rw [e] at this
 refine ay this fun d h1 h2=>?_
 exact ⟨d.val,by unfold getL;rw [h1],h2⟩
theorem AR.get0 (inj:∀x y,C.nm x=C.nm y->x=y) (h:AR C ρ l es) (e:lk l x=none):getL (C.nS x) es=some none:=by
 have:=h.get inj x
 rw [e] at this
 unfold getL
 rw [this,h.noRef]
 rfl
theorem AR.put (inj:∀x y,C.nm x=C.nm y->x=y) (hw:VR ρ v w):∀{l:List (Nat×CV)} {es:List EL},AR C ρ l es->AR C ρ (Mine.cu l x v) (putL (C.nS x) hs (.str (C.nS x) t) w es):=by
 intro x0
 induction x0 with
 |nil=>
  intro y4
  cases y4 with
  |nil=>
   intro _
   exact ⟨⟨t,rfl⟩,hw,trivial⟩
  |cons Z1 Z2=>
   intro h
   exact h.elim
 |cons p l ihh=>
  intro y4
  cases y4 with
  |nil=>
   intro h
   exact h.elim
  |cons e es=>
   rintro ⟨⟨u,hk⟩,hv,hr⟩
   rw [yD]
   unfold putL
   rw [qY inj hk]
   cases hb:Dy p.1 x with
   |true=>
    have:p.1=x:=Dz hb
    exact ⟨⟨u,by rw [hk,this]⟩,hw,hr⟩
   |false=>exact ⟨⟨u,hk⟩,hv,ihh hr⟩
theorem AR.len:∀{l:List (Nat×CV)} {es:List EL},AR C ρ l es->l.length=es.length:=by
 intro x0
 induction x0 with
 |nil=>
  intro y4
  cases y4 with
  |nil=>
   intro _
   exact rfl
  |cons Z1 Z2=>
   intro h
   exact h.elim
 |cons Z1 Z2 ihh=>
  intro y4
  cases y4 with
  |nil=>
   intro h
   exact h.elim
  |cons Z1 Z2=>
   intro h
   simp [ihh h.2.2]
theorem qR:∀es:List EL,(putL name hs key v es).length<=es.length+1
 |[]=>by simp [putL]
 |e::r=>by
  unfold putL
  split
  ·simp
  ·have:=qR (name:=name) (hs:=hs) (key:=key) (v:=v) r
   simp;lia
end
section
variable {C:Cx} {n:Nat} {sc:Ef} {S:bT} {hid:List (Du×Obj)} {m mD:Str->Option Dk} {ρ:List Du}
theorem Nk (h:VR ρ c v):handedIn v=true:=by
 cases c with
 |none=>rw [show v=.none from h];rfl
 |bool b=>rw [show v=.bool b from h];rfl
 |int i=>obtain ⟨t,rfl⟩:=h;rfl
 |str x=>obtain ⟨t,rfl⟩:=h;rfl
 |bytes b=>obtain ⟨a,t,rfl,_⟩:=h;rfl
 |obj i=>obtain ⟨a,_,rfl⟩:=h;rfl
 |top a=>rw [show v=.ref a from h];rfl
theorem pX (R:aX C S hid m ρ σ h) (hv:VR ρ v vo) (e:aM σ v=some (c,d,l)):
  ∃x dx es nn,vo=.ref x/\ρ[d]?=some dx/\am σ d=some (.attrs l)/\AR C ρ l es/\h.get? dx=some (dictOf es nn)/\PySem.W.InstAt h x (instObj (C.ca c) dx) (C.ca c) (some (dictOf es nn)):=by
 refine iH (w5 e) fun i ei e1 e2=>?_
 subst ei
 refine ay hv fun x ex zz1=>ay (R.get' e1 ex) fun o1 zz4 g1=>?_
 obtain ⟨dx,r1,rfl⟩:=zz4
 refine ay (R.get' e2 r1) fun o2 zz7 g2=>?_
 obtain ⟨es,n9,rfl,r2⟩:=zz7
 exact ⟨x,dx,es,n9,zz1,r1,e2,r2,g2,g1,rfl,rfl,g2⟩
theorem Pp (G:TabC C) (he:SE C n ih) (hb:gA v=true) (ho:aN C.nm C.gk k sc o v=true) (ha:dC (C.nm x) a=true) (H:aZ C n sc S hid m mD ρ loc σ s.heap)
  (q:ih.e o loc σ fun o σ=>r5 σ o fun c0 d0 l0=>hK (lk l0 x) fun v=>cond (io C.T c0 x) (Q v σ) False) (K:bQ C S hid m ρ s Q Qm):
  aq (model C.prog C.w) S.A (eval (.Attribute v a p) S.env) Qm E s:=by
 rw [arm_eval_Attribute,qt hb]
 refine aa (he _ _ _ _ ho _ _ _ _ _ _ _ _ _ _ _ H q fun co σ' ρ' vo h' tk q hv pp R=>xH q fun c d l e1 q=>gg q fun cv e2 q=>pi q fun hat q=>AO (pX R hv e1) fun y dx es n9 zz13 r1 r2 r3 r4 I=>?_)
 subst zz13
 refine ay (r3.get1 G.inj e2) fun w w1 w2=>ay (N9 _ hat) fun kl e3 hm=>?_
 have ok:=G.cls _ _ e3
 refine aD (ok.ats _ hm) fun zz14 Z0=>?_
 obtain ⟨attr,f1,f2⟩:=zz14
 rw [bN ha]
 exact aa (ak (aa (af (nn (get_own (s:=aQ s h' tk) R.1 H.1.2 I (ok.get _) ok.dict f1 f2 w1 (Nk w2) (aa (nn (wpAny_letTemporaryGo (ad (K _ _ _ _ _ _ q w2 pp R))))))))))
set_option tactic.hygienic true in
theorem mT (ct:fu C n) (hc:SC C n ih) (f:Nat):bY C n f (dD C.T ih f):=by
 intro as σ Q S hid m ρ s vs R ok Re hv q K
 unfold dD at q
 split at q
 ·rename_i P e
  exact ct _ _ e _ _ _ _ _ _ _ _ _ _ ok Re hv q K
 ·exact hc _ _ _ _ _ _ _ _ _ _ _ ok Re hv q K
theorem bY.call (h:bY C n f P) (ok:S.Ok C n) (R:aX C S hid m ρ σ s.heap) (hv:dc ρ as vs) (q:P as σ Q) (K:bQ C S hid m ρ s Q Qm):aq (model C.prog C.w) S.A (call (.ref (C.fa f)) vs) Qm E s:=
 dy (h _ _ _ _ _ _ _ _ _ _ ok R hv q K)
theorem Nm (G:TabC C) (ct:fu C n) (hsc:SC C n ih) (he:SE C n ih) {f:Nat} {id:Str} {p pos:Pos} {l:List CE} {es:List Expr} (hc:bA (aN C.nm C.gk k sc) l es=true) (hd:dN sc id .globalImplicit=true) (hf:j4 id=true) (hg:qr C.gk id (.fn f)=true)
  (H:aZ C n sc S hid m mD ρ loc σ s.heap) (q:eC ih l loc σ fun vs σ=>dD C.T ih f vs σ Q) (K:bQ C S hid m ρ s Q Qm):aq (model C.prog C.w) S.A (eval (.Call (.Name id p) es [] pos) S.env) Qm E s:=by
 refine aD (G.toTabG.fn _ _ (hO _ hg)) fun h1 h2=>?_
 rw [fU] at h1
 exact eu he (.of_K h2) hc hd hf H (H.g h1) q fun cvs σ' ρ' vs h' tk q hv hn p R=>(mT ct hsc f).call (s:=aQ s h' tk) H.1 R hv q (K.mono p _ _)
theorem bT.Ok.under (ok:S.Ok C (n+1)) (c:Du) (vs:List Dk) (kw:List (Str×Dk)):({S with A:=S.A.under (.builtin "type.__call__" ⟨.ref c::vs,kw⟩)}:bT).Ok C n:=by
 have e1:(S.A.under (.builtin "type.__call__" ⟨.ref c::vs,kw⟩)).depth=S.A.depth+1:=rfl
 have e2:(S.A.under (.builtin "type.__call__" ⟨.ref c::vs,kw⟩)).units=S.A.units+1:=rfl
 have e3:(S.A.under (.builtin "type.__call__" ⟨.ref c::vs,kw⟩)).handled=S.A.handled:=rfl
 have e4:(S.A.under (.builtin "type.__call__" ⟨.ref c::vs,kw⟩)).frames=some (S.fenv::S.outer):=by
  show pushEnvs [] S.A.frames=_
  rw [ok.4];rfl
 refine ⟨ok.1,ok.2,ok.3,e4,ok.5,ok.6,e3.trans ok.7,?_,?_,ok.10,ok.11,ok.12,ok.13,ok.14,ok.15⟩
 ·have:=ok.8;simp only [e1];lia
 ·have:=ok.9;simp only [e2];lia
theorem AL (G:TabC C) (ct:fu C n) (hsc:SC C n ih) (ok:S.Ok C (n+1)) (R:aX C S hid m ρ σ s.heap) (hv:dc ρ as vs) (q:vX C.T ih c as σ Q) (K:bQ C S hid m ρ s Q Qm):
  aq (model C.prog C.w) S.A (call (.ref (C.ca c)) vs) Qm E s:=by
 refine gg q fun kl e q=>?_
 ·have cok:=G.cls _ _ e
  refine aX.e R fun os F N nd eq O=>xO F ok.2 N cok.mks cok.init cok.initF fun x dx h' F' N' l1 l2=>?_
  have nx2:=N' (dx,_) (.tail _ (.head _))
  have fr2:∀p∈hid++os,p.1≠x:=fun p hp=>D9 (Nat.lt_trans (l1 p hp) l2)
  have R1:aX C S hid m (ρ++[dx]) (σ++[.attrs []]) h':=aX.push nd eq O F' (fun p hp=>N' p (.tail _ hp)) (fun p hp=>D9 (l1 p hp)) ⟨[],0,rfl,trivial⟩
  have R2:aX C S hid m (ρ++[dx]++[x]) (σ++[.attrs []]++[.inst c σ.length]) h':=by
   obtain ⟨F1,os1,N1,nd1,eq1,O1⟩:=R1
   refine aX.push (a:=x) nd1 eq1 O1 F' ?_ ?_ ⟨dx,?_,rfl⟩
   ·intro p hp
    rcases Dv.mp hp with rfl|hp
    ·exact (N' (x,_) (.head _))
    ·exact N1 p hp
   ·intro p hp e
    have hm:p.1∈(hid++os1).map (·.1):=DE hp
    rw [Dw,eq1,←eq] at hm
    rcases DL.mp hm with hm|hm
    ·refine ay (DV.mp hm) fun p' hp' e'=>?_
     exact fr2 p' (DN _ hp') (by rw [←e];exact e')
    ·rcases DL.mp hm with hm|hm
     ·refine ay (DV.mp hm) fun p' hp' e'=>?_
      exact fr2 p' (DF _ hp') (by rw [←e];exact e')
     ·rw [DW] at hm
      rw [hm] at e
      exact D9 l2 e
   ·rw [←O.len' eq]
    rw [Eo (by simp)]
    exact gZ _ _
  have hlen:σ.length=ρ.length:=(O.len' eq).symm
  have q':dD C.T ih kl.init (.obj (σ.length+1)::as) (σ++[.attrs []]++[.inst c σ.length]) fun v σ'=>Sa v (Q (.obj (σ.length+1)) σ'):=by
   rw [Di]
   exact q
  have pr:ρ<+:ρ++[dx]++[x]:=(cq _ _).trans (cq _ _)
  refine mT ct hsc kl.init (.obj (σ.length+1)::as) _ _ {S with A:=S.A.under (.builtin "type.__call__" ⟨.ref (C.ca c)::vs,[]⟩)} hid m _ {s with heap:=h'} (.ref x::vs) _ (ok.under _ _ _) ⟨R2.1,R2.2⟩ ⟨⟨x,?_,rfl⟩,hv.mono pr⟩ q' ?_
  ·rw [hlen]
   simp
  ·intro cv σ' ρ' v h'' tk q hw p R'
   cases cv with
   |none=>
    have:v=.none:=hw
    refine ⟨this,?_⟩
    refine K _ _ _ _ _ _ q ⟨x,e9 p ?_,rfl⟩ (pr.trans p) ⟨R'.1,R'.2⟩
    rw [hlen]
    simp
   |_=>exact q.elim
theorem IN (G:TabC C) (ct:fu C n) (hsc:SC C n ih) (he:SE C n ih) {c:Nat} {id:Str} {p pos:Pos} {l:List CE} {es:List Expr} (hc:bA (aN C.nm C.gk k sc) l es=true) (hd:dN sc id .globalImplicit=true) (hf:j4 id=true) (hg:qr C.gk id (.cl c)=true)
  (H:aZ C (n+1) sc S hid m mD ρ loc σ s.heap) (q:eC ih l loc σ fun vs σ=>vX C.T ih c vs σ Q) (K:bQ C S hid m ρ s Q Qm):aq (model C.prog C.w) S.A (eval (.Call (.Name id p) es [] pos) S.env) Qm E s:=by
 refine aD (G.toTabG.cl _ _ (hO _ hg)) fun h1 h2=>?_
 rw [fU] at h1
 exact eu he (.of_K h2) hc hd hf (H.le (Nat.le_succ _)) (H.g h1) q fun cvs σ' ρ' vs h' tk q hv hn p R=>AL (s:=aQ s h' tk) G ct hsc H.1 R hv q (K.mono p _ _)
theorem O9 (G:TabC C) (ct:fu C n) (hsc:SC C n ih) (he:SE C n ih) (hb:gA v=true) (hp:Dy ap.endLine ps.line=true) (ho:aN C.nm C.gk k sc o v=true) (ha:dC (C.nm x) a=true) (hc:bA (aN C.nm C.gk k sc) l es=true) (h10:l.length<=10)
  (H:aZ C n sc S hid m mD ρ loc σ s.heap) (q:ih.e o loc σ fun o σ=>r5 σ o fun c0 d0 l0=>PM (lk l0 x) (hK (C.T.cl c0) fun k=>hK (lk k.mths x) fun f=>eC ih l loc σ fun vs σ=>dD C.T ih f (o::vs) σ Q)) (K:bQ C S hid m ρ s Q Qm):
  aq (model C.prog C.w) S.A (eval (.Call (.Attribute v a ap) es [] ps) S.env) Qm E s:=by
 refine oM hb hc h10 (Dz hp) (he _ _ _ _ ho _ _ _ _ _ _ _ _ _ _ _ H q fun co σ' ρ' vo h' tk q hv p R pl=>xH q fun c d l' e1 q=>Ps q fun e2 q=>gg q fun kl e3 q=>gg q fun f e4 q=>?_)
 have cok:=G.cls _ _ e3
 refine eU (cok.mt _ _ e4) fun f1 f2 f3=>AO (pX R hv e1) fun y dx es' n9 zz19 r1 r2 r3 r4 I=>?_
 subst zz19
 rw [bN ha]
 exact nn (method_inst (s:=aQ s h' tk) R.1 H.1.2 I (cok.get _) f1 f2 (r3.get0 G.inj e2) (pK (s:=aQ s h' tk) he (.of_K f3) hc (H.go p R) q fun cvs σ'' ρ'' vs h'' tk' q hw hn p' R'=>(mT ct hsc f).call (s:=aQ s h'' tk') H.1 R' (as:=co::cvs) ⟨hv.mono p',hw⟩ q ((K.mono p _ _).mono p' _ _)))
end
theorem ah (x y:Nat) (v:α):∀l:List (Nat×α),lk (cu l x v) y=if x=y then some v else lk l y
 |[]=>by
  simp only [yD,Qf,jZ,wD,cG]
  by_cases h:x=y<;>simp [h]
 |p::l=>by
  rw [yD]
  cases hb:Dy p.1 x with
  |true=>
   have e:p.1=x:=Dz hb
   simp only [cond_true,jZ,wD,cG,e]
   by_cases h:x=y<;>simp [h]
  |false=>
   have e:¬p.1=x:=fun e=>by rw [cG] at hb;simp [e] at hb
   simp only [cond_false,jZ,wD,ah x y v l,cG]
   by_cases h:p.1=y
   ·have:¬x=y:=fun q=>e (h.trans q.symm)
    simp [h,this]
   ·simp [h]
section
variable {C:Cx} {n:Nat} {sc:Ef} {S:bT} {hid:List (Du×Obj)} {m mD:Str->Option Dk} {ρ:List Du}
noncomputable abbrev Vv:=List Du->aP->al->DI->Prop
structure ph (C:Cx) (n:Nat) (S:bT) (sc:Ef) (P:Vv):Prop where
 here:∀{ρ loc σ h},P ρ loc σ h->∃hid m mD,aZ C n sc S hid m mD ρ loc σ h
 keeps:∀{ρ loc σ} {h h':DI},P ρ loc σ h->(∀b o,h.get? b=some o->h'.get? b=some o)->P ρ loc σ h'
 store:∀{ρ loc σ} {s:Dm} {x:Nat} {cv:CV} {v:Dk} {Q:aP->al->Prop} {Qm:Unit->Dm->Prop} {E:Dk->Dm->Prop},P ρ loc σ s.heap->VR ρ cv v->(dN sc (C.nS x) .local=true\/dN sc (C.nS x) .cell=true)->lp loc σ x cv Q->
  (∀loc' σ' h' tk,Q loc' σ'->P ρ loc' σ' h'->Qm () (aQ s h' tk))->wpAny (model C.prog C.w) S.A (storeName S.env (C.nS x) v) Qm E s
theorem ti:∀{xs:List Nat} {es:List Expr} {env:Env},bA (xf C.nm sc) xs es=true->assignEach es env=es.map fun e=>(false,assign e env):=by
 intro x0
 induction x0 with
 |nil=>
  intro es env h
  rw [bG h];rfl
 |cons x xs ihh=>
  intro es env h
  refine cV (az h) fun e r zz1 h1 h2=>?_
  subst zz1
  rw [DB,←ihh h2]
  exact onName_e h1 fun Z0 Z0 Z0=>rfl
theorem wG (PT:ph C n S sc P):∀{xs:List Nat} {es:List Expr} {cvs:List CV} {vs:List Dk} {loc:aP} {σ:al} {s:Dm} {Q:aP->al->Prop} {Qm:Unit->Dm->Prop},bA (xf C.nm sc) xs es=true->P ρ loc σ s.heap->dc ρ cvs vs->fE loc σ xs cvs Q->
  (∀loc' σ' h' tk,Q loc' σ'->P ρ loc' σ' h'->Qm () (aQ s h' tk))->wpAny (model C.prog C.w) S.A (assignInOrder (es.map fun e=>assign e S.env) vs) Qm E s:=by
 intro x0
 induction x0 with
 |nil=>
  intro es y4
  cases y4 with
  |nil=>
   intro vs loc σ s Q Qm h hp hv q K
   rw [bG h]
   exact Dx (K _ _ _ s.toks q hp)
  |cons Z1 Z2=>
   intro _ _ _ _ _ _ _ _ _ q _
   exact q.elim
 |cons x xs ihh=>
  intro es y4
  cases y4 with
  |nil=>
   intro _ _ _ _ _ _ _ _ _ q _
   exact q.elim
  |cons c cvs=>
   intro y6
   cases y6 with
   |nil=>
    intro loc σ s Q Qm h hp hv q K
    exact hv.elim
   |cons v vs=>
    intro loc σ s Q Qm h hp hv q K
    refine cV (az h) fun e r zz3 h1 h2=>?_
    subst zz3
    refine onName_e h1 fun id p h1=>?_
    have e':id=C.nS x:=bN (bL h1)
    subst e'
    rw [DB]
    exact Dj (Gr (Jx (PT.store hp hv.1 (.inl (bR h1)) q fun loc' σ' h' tk q hp'=>ihh (s:=aQ s h' tk) h2 hp' hv.2 q fun loc'' σ'' h'' tk' q hp''=>K _ _ _ _ q hp'')))
theorem No {loc:aP} {σ:al} {x:Nat} {v:CV} {Q:aP->al->Prop} (q:lp loc σ x v Q):∃loc' σ',Q loc' σ':=by
 unfold lp at q
 split at q
 ·split at q
  ·exact ⟨_,_,q⟩
  ·exact q.elim
 ·exact ⟨_,_,q⟩
 ·exact ⟨_,_,q⟩
theorem rI:∀{xs:List Nat} {cvs:List CV} {loc:aP} {σ:al} {Q:aP->al->Prop},fE loc σ xs cvs Q->xs.length=cvs.length:=by
 intro x0
 induction x0 with
 |nil=>
  intro y4
  cases y4 with
  |nil=>
   intro _ _ _ _
   exact rfl
  |cons Z1 Z2=>
   intro _ _ _ q
   exact q.elim
 |cons x xs ihh=>
  intro y4
  cases y4 with
  |nil=>
   intro _ _ _ q
   exact q.elim
  |cons v vs=>
   intro loc σ Q q
   refine ro (No q) fun loc' σ' q'=>?_
   rw [DC,DC,ihh q']
theorem jW (PT:ph C n S sc P) {xs:List Nat} {es:List Expr} {kk:Nat} {p:Pos} {cvs:List CV} {vs:List Dk} {T:Du} {Q:aP->al->Prop} {Qm:Unit->Dm->Prop} (h:bA (xf C.nm sc) xs es=true)
  (hp:P ρ loc σ s.heap) (hT:IsTup s.heap T vs.toArray) (hv:dc ρ cvs vs) (q:fE loc σ xs cvs Q)
  (K:∀loc' σ' h' tk,Q loc' σ'->P ρ loc' σ' h'->Qm () (aQ s h' tk)):wpAny (model C.prog C.w) S.A (assign (.Tuple es kk p) S.env (.ref T)) Qm E s:=by
 refine OE (PT.here hp) fun hid m mD H=>?_
 have e:=ti (C:=C) (sc:=sc) (env:=S.env) h
 have l1:=i4 h
 have l2:=hv.len
 have l3:=rI q
 refine PyProof.Rows.assign_Tuple_tuple H.1.7 hT ?_ ?_ fun h' k=>?_
 ·rw [e,Do,DJ];lia
 ·rw [e]
  rw [List.findIdx?_eq_none_iff]
  intro y hy
  refine ay (DV.mp hy) fun z Z0 zz6=>?_
  subst zz6
  rfl
 ·rw [e,EJ]
  exact wG (s:={s with heap:=h'}) PT h (PT.keeps hp fun b o e=>k b o (D9 (DT e)) e) hv q K
set_option tactic.hygienic true in
theorem uF (PT:ph C n S sc P) {tg:List Nat} {tp:Bool} {e:Expr} {cv:CV} {v:Dk} {Q:aP->al->Prop} {Qm:Unit->Dm->Prop} (h:iR C.nm sc tg tp e=true) (hp:P ρ loc σ s.heap) (hv:VR ρ cv v) (q:gu loc σ tg tp cv Q)
  (K:∀loc' σ' h' tk,Q loc' σ'->P ρ loc' σ' h'->Qm () (aQ s h' tk)):wpAny (model C.prog C.w) S.A (assign e S.env v) Qm E s:=by
 unfold gu at q
 cases tp with
 |true=>
  refine gg q fun l e1 q2=>ay (uQ e1) fun k ek e2=>?_
  clear q
  subst ek
  refine OE (PT.here hp) fun hid m mD H=>ay hv fun T eT zz8=>?_
  clear hv
  subst zz8
  refine ay (H.6.get' e2 eT) fun o1 zz11 g1=>?_
  obtain ⟨vs,k1,rfl,r1⟩:=zz11
  exact onTup_e h fun es a p h=>jW PT h hp ⟨_,g1,rfl,k1,rfl⟩ r1 q2 K
 |false=>
  simp only at q
  split at q
  ·rename_i x
   refine onName_e h fun id p h=>?_
   have e'':id=C.nS x:=bN (bL h)
   subst e''
   exact Jx (PT.store hp hv (.inl (bR h)) q K)
  ·exact q.elim
theorem uP {nm:Nat->List Nat} {tg:List Nat} {tp:Bool} {e:Expr} {cv:CV} {Q:aP->al->Prop} (h:iR nm sc tg tp e=true) (q:gu loc σ tg tp cv Q):(∃x p,e=Gp x p)\/((∃k,cv=.obj k)/\∃es k p,e=GS es k p):=by
 cases tp with
 |false=>exact .inl (on1_e h fun x h=>onName_e h fun x p Z0=>⟨x,p,rfl⟩)
 |true=>
  refine .inr ⟨?_,onTup_e h fun es k p Z0=>⟨es,k,p,rfl⟩⟩
  cases cv<;>first|exact ⟨_,rfl⟩|exact Ij q
inductive FH (C:Cx) (n:Nat) (sc:Ef) (S:bT) (hid:List (Du×Obj)) (ρ:List Du) (loc:aP) (σ:al) (h:DI):Prop where
 |mk (fe:S.env=S.fenv) (el:S.env.locals=S.L) (cv:∀x,S.env.kindOf (C.nS x)=some .cell->∃k,lk loc x=some (.cell k)) (at_:∃m,aZ C n sc S hid m m ρ loc σ h)
theorem BP {env:Env} (hk:env.scope.kind=.function):(env.scope.kind==.class||(env.scope.kind==.module&&env.locals != env.globals))=false:=by
 rw [hk];rfl
theorem ig (inj:∀x y,C.nm x=C.nm y->x=y) (h:C.nS x=C.nS y):x=y:=inj _ _ (e8 h)
theorem tZ.put (inj:∀x y,C.nm x=C.nm y->x=y) (h:tZ C S mD ρ loc) (hk:S.env.kindOf (C.nS x)=some .local) (hv:VR ρ cv v):tZ C S (fun y=>if y=C.nS x then some v else mD y) ρ (Mine.cu loc x (.val cv)):=by
 intro y lv e il
 rw [ah] at e
 by_cases q:x=y
 ·rw [if_pos q] at e
  cases e
  subst q
  exact ⟨hk,v,by simp,hv⟩
 ·rw [if_neg q] at e
  have z:=h y lv e il
  cases lv with
  |val c=>simpa only [if_neg (fun e=>q (ig inj e).symm)] using z
  |cell k=>exact z
set_option tactic.hygienic true in
theorem FH.point (G:TabC C) (n:Nat) (S:bT) (sc:Ef) (hid:List (Du×Obj)):ph C n S sc (FH C n sc S hid) where
 here:=fun h=>let ⟨m,H⟩:=h.4;⟨hid,m,m,H⟩
 keeps:=fun h k=>⟨h.1,h.2,h.3,let ⟨m,H⟩:=h.4;⟨m,H.go (DM _) (H.6.keeps k)⟩⟩
 store:=by
  intro ρ loc σ s x cv v Q Qm E hp hv hk q K
  refine aG hp.4 fun m H=>?_
  have hkind:S.env.kindOf (C.nS x)=some .local\/S.env.kindOf (C.nS x)=some .cell:=by
   rcases hk with h|h
   ·exact .inl (nG H h (by simp))
   ·exact .inr (nG H h (by simp))
  have il:oV (S.env.kindOf (C.nS x))=true:=by rcases hkind with h|h<;>rw [h]<;>rfl
  have loc_store:S.env.kindOf (C.nS x)=some .local->Q (Mine.cu loc x (.val cv)) σ->wpAny (model C.prog C.w) S.A (storeName S.env (C.nS x) v) Qm E s:=by
   intro hl q
   refine Lp hl H.nd (fun h' hn hs=>?_) (BP H.1.10)
   rw [hp.2] at hn hs
   refine aX.e H.6 fun os F N nd eq O=>?_
   refine K _ _ _ _ q ⟨hp.1,hp.2,fun y hy=>?_,_,⟨H.1,H.2,H.3,fun h F Z0=>by rw [hp.2];exact F.ns,H.5.put G.inj hl hv,F.set hn hs,os,N.set hs,nd,eq,O⟩⟩
   refine aG (hp.3 y hy) fun k hk=>⟨k,?_⟩
   rw [ah,if_neg,hk]
   intro e
   subst e
   rw [hl] at hy;cases hy
  unfold lp at q
  split at q
  ·rename_i c e1
   obtain ⟨h1,a,h2,h3⟩:=H.5 _ _ e1 il
   split at q
   ·rename_i w e2
    refine ay (H.6.get' e2 h3) fun o1 ho1 g1=>?_
    have hc:S.env.kindOf (C.nS x)=some .cell:=by
     rcases hkind with h|h
     ·rw [h] at h1;rcases h1 with h1|h1<;>cases h1
     ·exact h
    have hcell:∃w,s.heap.IsCell a w:=by
     cases w with
     |none=>exact ⟨none,o1,g1,ho1.1⟩
     |some w=>obtain ⟨w',q1,_⟩:=ho1;exact ⟨some w',o1,g1,q1⟩
    exact aG hcell fun w' hw'=>wpAny_storeName_cell H.1.10 hc h2 hw' fun h' hv' hs=>ay hv' fun o' g' d'=>K _ _ _ s.toks q ⟨hp.1,hp.2,hp.3,m,H.go (DM _) (H.6.set e2 h3 hs g' (co':=.cell (some cv)) ⟨v,d',hv⟩)⟩
   ·exact q.elim
  ·rename_i c e1
   exact loc_store (H.5 _ _ e1 il).1 q
  ·rename_i e1
   refine loc_store ?_ q
   rcases hkind with h|h
   ·exact h
   ·refine aG (hp.3 _ h) fun k e=>?_
    rw [e1] at e;cases e
structure CH (C:Cx) (n:Nat) (sc:Ef) (S:bT) (hid:List (Du×Obj)) (m:Str->Option Dk) (ρ:List Du) (loc:aP) (σ:al) (h:DI):Prop where
 at_:∃o mD,(∀h:DI,h.get? S.env.locals=some o->h.Ns S.env.locals mD)/\aZ C n sc S ((S.env.locals,o)::hid) m mD ρ loc σ h
set_option tactic.hygienic true in
theorem CH.point (G:TabC C) (n:Nat) (S:bT) (sc:Ef) (hid:List (Du×Obj)) (m:Str->Option Dk) (hloc:∀x,dN sc x .cell=false):ph C n S sc (CH C n sc S hid m) where
 here:=fun h=>let ⟨o,mD,_,H⟩:=h.at_;⟨_,m,mD,H⟩
 keeps:=fun h k=>⟨let ⟨o,mD,z,H⟩:=h.at_;⟨o,mD,z,H.go (DM _) (H.6.keeps k)⟩⟩
 store:=by
  intro ρ loc σ s x cv v Q Qm E hp hv hk q K
  refine dG hp.at_ fun o mD Z0 H=>?_
  have hl:S.env.kindOf (C.nS x)=some .local:=by
   rcases hk with h|h
   ·exact nG H h (by simp)
   ·rw [hloc] at h;cases h
  have il:oV (S.env.kindOf (C.nS x))=true:=by rw [hl];rfl
  have loc_store:Q (Mine.cu loc x (.val cv)) σ->wpAny (model C.prog C.w) S.A (storeName S.env (C.nS x) v) Qm E s:=by
   intro q
   refine Lp hl H.nd (fun h' hn hs=>?_) (BP H.1.10)
   refine jo (id hn) fun o' es ep g' r=>?_
   refine K _ _ _ _ q ⟨o',_,fun h g=>⟨o',es,ep,g,r⟩,⟨H.1,H.2,H.3,fun h F hm=>⟨o',es,ep,hm _ (.head _),r⟩,H.5.put G.inj hl hv,(aX.hidTurn (own:=[(S.env.locals,o)]) (own':=[(S.env.locals,o')]) H.6 (fun b ob hb e=>hs.extBut b ob (by simpa using hb) e) (fun p hp=>by rcases DW.mp hp with rfl;exact g') (.inl rfl))⟩⟩
  unfold lp at q
  split at q
  ·rename_i c e1
   refine aD (H.5 _ _ e1 il) fun h1 Z0=>?_
   rw [hl] at h1
   rcases h1 with h1|h1<;>cases h1
  ·exact loc_store q
  ·exact loc_store q
end
theorem fN (h:fW e=true) (env:Env) (x:Dk):foldedSetIterable e env x=pure x:=
 Ho (b:=bif fW e then pure x else foldedSetIterable e env x) (by clear h;cases e<;>first|exact GG (pure x)|exact GG _) (by rw [h];rfl)
def jb (env:Env):List (Str×EW)->List (Str×Du)->List (Str×Du)
 |[],acc=>acc
 |(n,k)::r,acc=>if k==.free then jb env r ((n,(env.cells.lookup n).getD 0)::acc) else jb env r acc
theorem tP:∀{names:List (Str×EW)} {acc:List (Str×Du)},(∀y∈names,y.2=.free->(env.cells.lookup y.1).isSome=true)->
  (forIn names acc fun (x:Str×EW) (r:List (Str×Du))=>(if (x.2==.free)=true then do let a ←cellOf env x.1;pure (Eh ((x.1,a)::r)) else pure (Eh r):Sem (ForInStep (List (Str×Du)))))=pure (jb env names acc):=by
 intro x0
 induction x0 with
 |nil=>
  intro acc _
  exact rfl
 |cons w2 r ihh=>
  obtain ⟨n,k⟩:=w2
  intro acc h
  rw [LQ]
  unfold jb
  cases hk:k==.free with
  |true=>
   have hs:=h (n,k) (.head _) (by simpa using hk)
   refine aG (Gc.mp hs) fun c hc=>?_
   have hcell:cellOf env n=pure c:=by unfold cellOf;rw [hc]
   simp only [if_true,hcell,hc]
   exact ihh fun y hy=>h y (.tail _ hy)
  |false=>
   simp only [KX,if_false]
   exact ihh fun y hy=>h y (.tail _ hy)
theorem w9:∀{names:List (Str×EW)} {acc:List (Str×Du)},(∀y∈names,y.2=.free->(env.cells.lookup y.1).isSome=true)->(∀p∈acc,env.cells.lookup p.1=some p.2)->
  (∀p∈jb env names acc,env.cells.lookup p.1=some p.2)/\(∀y∈names,y.2=.free->∃a,(y.1,a)∈jb env names acc)/\∀p∈acc,p∈jb env names acc:=by
 intro x0
 induction x0 with
 |nil=>
  intro acc _ h
  exact ⟨h,fun y hy=>by (cases hy),fun p hp=>hp⟩
 |cons w2 r ihh=>
  obtain ⟨n,k⟩:=w2
  intro acc h ha
  unfold jb
  cases hk:k==.free with
  |true=>
   have hs:=h (n,k) (.head _) (by simpa using hk)
   refine aG (Gc.mp hs) fun c hc=>?_
   rw [if_pos rfl]
   obtain ⟨h1,h2,h3⟩:=ihh (acc:=(n,(env.cells.lookup n).getD 0)::acc) (fun y hy=>h y (.tail _ hy)) (fun p hp=>by
    rcases Dv.mp hp with rfl|hp
    ·simp [hc]
    ·exact ha p hp)
   refine ⟨h1,fun y hy hf=>?_,fun p hp=>h3 p (.tail _ hp)⟩
   rcases Dv.mp hy with rfl|hy
   ·exact ⟨_,h3 _ (.head _)⟩
   ·exact h2 y hy hf
  |false=>
   rw [if_neg (by simp)]
   refine eU (ihh (acc:=acc) (fun y hy=>h y (.tail _ hy)) ha) fun h1 h2 h3=>⟨h1,fun y hy hf=>?_,h3⟩
   rcases Dv.mp hy with rfl|hy
   ·exact absurd hf (by simpa using hk)
   ·exact h2 y hy hf
theorem nl {l:List (Str×Du)} {x:Str} {a:Du}:(x,a)∈l->∃b,l.lookup x=some b/\(x,b)∈l:=by
 induction l with
 |nil=>intro h;cases h
 |cons p l ih=>
  intro h
  rw [EE]
  cases hb:x==p.1 with
  |true=>
   exact ⟨p.2,rfl,by rw [(by simpa using hb:x=p.1)];exact .head _⟩
  |false=>
   rcases Dv.mp h with rfl|h
   ·simp at hb
   ·exact ay (ih h) fun b h1 h2=>⟨b,h1,.tail _ h2⟩
theorem eW:∀{l:List (Str×EW)},l.lookup x=some k->(x,k)∈l:=by
 intro x0
 induction x0 with
 |nil=>
  intro h
  simp at h
 |cons p l ihh=>
  intro h
  rw [EE] at h
  cases hb:x==p.1 with
  |true=>
   rw [hb] at h
   injection h with h
   rw [(by simpa using hb:x=p.1),←h]
   exact .head _
  |false=>
   rw [hb] at h
   exact .tail _ (ihh h)
theorem iS {env:Env} {x:Str}:∀{names:List (Str×EW)},
  (names.map fun (n,k)=>if (k==Gx&&env.scope.kind==.function&&env.kindOf n==some .cell) then (n,Ju) else (n,k)).lookup x=
   (names.lookup x).map fun k=>if (k==Gx&&env.scope.kind==.function&&env.kindOf x==some .cell) then .cell else k
 |[]=>rfl
 |(n,k)::r=>by
  have ih:=iS (env:=env) (x:=x) (names:=r)
  rw [DB]
  show G2 x ((if (k==Gx&&env.scope.kind==.function&&env.kindOf n==some .cell)=true then (n,Ju) else (n,k))::_)=_
  rw [EE (a:=x) (k:=n)]
  cases hx:x==n with
  |true=>
   have e:x=n:=by simpa using hx
   subst e
   by_cases hc:(k==Gx&&env.scope.kind==.function&&env.kindOf x==some .cell)=true
   ·rw [if_pos hc]
    simp only [EE,beq_self_eq_true,Fi,hc,if_true]
   ·rw [if_neg hc]
    rw [EE,beq_self_eq_true,Fi,if_neg hc]
  |false=>
   by_cases hc:(k==Gx&&env.scope.kind==.function&&env.kindOf n==some .cell)=true
   ·rw [if_pos hc];simp only [EE,hx];exact ih
   ·rw [if_neg hc];simp only [EE,hx];exact ih
theorem kP (f:Nat->Bool) (x:Nat):∀l:List (Nat×α),lk (l.filter fun p=>f p.1) x=if f x=true then lk l x else none
 |[]=>by simp [jZ,wD]
 |p::l=>by
  rw [Jd]
  by_cases h:f p.1=true
  ·rw [if_pos h]
   simp only [jZ,wD]
   rw [kP f x l,cG]
   by_cases e:p.1=x
   ·subst e;simp [h]
   ·simp [e]
  ·rw [if_neg h,kP f x l]
   conv=>rhs;simp only [jZ,wD]
   rw [cG]
   by_cases e:p.1=x
   ·subst e;simp [h]
   ·simp [e]
theorem aX.perm (R:aX C S hid m ρ σ h) (p:hid.Perm hid'):aX C S hid' m ρ σ h:=by
 refine aX.e R fun os F N nd eq O=>?_
 have pp:(hid++os).Perm (hid'++os):=List.Perm.append_right os p
 exact ⟨F,os,fun q hq=>N q (pp.mem_iff.mpr hq),(pp.map _).nodup_iff.mp nd,eq,O⟩
theorem wr (hh:S.A.handled=none) (IR:ee C ρ it I own) (R:aX C S (own++hid) m ρ σ s.heap) (h:Qm (.ref I) s):wpAny (model C.prog C.w) S.A (pyIter (.ref I)) Qm E s:=by
 cases it with
 |seq l=>
  obtain ⟨n,P,St,i,o,e,W,live,st,_,_,_⟩:=IR
  subst e
  exact (W S.A hh).self i s Qm E (st _ (R.mem (.head _))) h
 |lst k i=>
  obtain ⟨la,o,ek,e,hc,hd⟩:=IR
  subst e
  exact wpAny_pyIter_listiter ⟨o,R.mem (.head _),hc,hd⟩ h
 |zip j k i=>
  obtain ⟨TI,TO,i1,i2,l1,l2,a,b,o1,o2,ej,ek,e,c1,d1,c2,d2⟩:=IR
  subst e
  exact wpAny_pyIter_zip (R.mem (.head _)) h
 |enm l i=>
  obtain ⟨it,b,t,old,oi,e,_,_,_⟩:=IR
  subst e
  exact wpAny_pyIter_enum (R.mem (.head _)) h
theorem ee.mono (h:ee C ρ it I own) (p:ρ<+:ρ'):ee C ρ' it I own:=by
 cases it with
 |seq l=>
  obtain ⟨n,P,St,i,o,e,W,live,st,hn,ha,hP⟩:=h
  exact ⟨n,P,St,i,o,e,W,live,st,hn,ha,fun j c v h1 h2=>(hP j c v h1 h2).mono p⟩
 |lst k i=>
  obtain ⟨la,o,ek,e,hc,hd⟩:=h
  exact ⟨la,o,e9 p ek,e,hc,hd⟩
 |zip j k i=>
  obtain ⟨TI,TO,i1,i2,l1,l2,a,b,o1,o2,ej,ek,e,c1,d1,c2,d2⟩:=h
  exact ⟨TI,TO,i1,i2,l1,l2,a,b,o1,o2,e9 p ej,e9 p ek,e,c1,d1,c2,d2⟩
 |enm l i=>exact h
def jQ (C:Cx) (sl N:Nat):Prop:=∀j,j<N->SE C (j+sl) (aj C.T j)/\ST C (j+sl) (aj C.T j)
theorem zD (ht:ST C n ih) {t:CE} {e:Expr} (hc:aN C.nm C.gk k sc t e=true) (H:aZ C n sc S hid m mD ρ loc σ s.heap) {Q:Bool->al->Prop} {Qm:Bool->Dm->Prop} (q:ih.t t loc σ Q) (K:ja C S hid m ρ s Q Qm):
  aq (model C.prog C.w) S.A (forIn [e] true fun c r=>if r=true then do let ok ←isTrue c S.env (eval c S.env);pure (Eh ok) else pure (Eh r)) Qm E s:=
 sF (ht _ _ _ _ hc _ _ _ _ _ _ _ _ _ _ _ H q K)
theorem ms (T:Tab) (n:Nat):aj T (n+1)=vt T (aj T n):=rfl
inductive CK (C:Cx) (n:Nat) (sc:Ef) (S:bT) (hid:List (Du×Obj)) (m:Str->Option Dk) (I:Du) (s:Dm) (ρ:List Du) (N:Nat) (F:Nat->It->aP->al->Prop) (j:Nat) (s':Dm):Prop where
 |mk (it:It) (own:List (Du×Obj)) (ρ':List Du) (loc:aP) (σ:al) (h':DI) (tk:Nat) (e:s'=(aQ s h' tk)) (IR:ee C ρ' it I own) (H:CH C n sc S (own++hid) m ρ' loc σ h') (p:ρ<+:ρ') (hj:j<=N) (q:F j it loc σ)
def pF (T:Tab) (fl:Bool) (elt:CE) (tg:List Nat) (tp:Bool) (cond:Option CE) (acc:Nat) (P:al->Prop) (j:Nat) (it:It) (loc:aP) (σ:al):Prop:=(aj T j).p fl elt tg tp cond it acc loc σ P
set_option tactic.hygienic true in
theorem t9 (G:TabC C) {sl N:Nat} (B:jQ C sl N) {fl tp:Bool} {elt:CE} {tg:List Nat} {cond:Option CE} {it:It} {acc:Nat} {D I:Du} {elt' tgE iD:Expr} {ifs:List Expr} {pos:Pos} {sc':Ef} {kk:Nat}
  (c1:aN C.nm C.gk kk sc elt elt'=true) (c2:iR C.nm sc tg tp tgE=true) (c3:vA (aN C.nm C.gk kk sc) cond ifs=true) (hcell:∀x,dN sc x .cell=false)
  {P:al->Prop} {R:Lj->Dm->Prop} {fuel:Nat} (hN:fuel<=N) (IR:ee C ρ it I own) (H:CH C (N+sl) sc S (own++hid) m ρ loc σ s.heap) (hD:ρ[acc]?=some D) (q:(aj C.T fuel).p fl elt tg tp cond it acc loc σ P)
  (K:∀ρ' loc' σ' h' tk,P σ'->ρ<+:ρ'->CH C (N+sl) sc S hid m ρ' loc' σ' h'->R (.ok .next) (aQ s h' tk)):
  bg (model C.prog C.w) S.A (.compLoop (.ListComp elt' [⟨tgE,iD,ifs,0⟩] sc' pos) 0 (.ref I) (.ref D) S.env) R s:=by
 refine wg (CK C (N+sl) sc S hid m I s ρ N (pF C.T fl elt tg tp cond acc P)) ?_ fuel
  ⟨it,own,ρ,loc,σ,s.heap,s.toks,rfl,IR,H,DM _,hN,q⟩
 rintro j s' ⟨it,own,ρ',loc,σ,h',tk,rfl,IR,H,p,hj,q⟩
 cases j with
 |zero=>exact q.elim
 |succ j=>
  refine aD (B j (by lia)) fun he ht=>?_
  have q:nj (aj C.T j) fl elt tg tp cond it acc loc σ P:=q
  refine dG H.at_ fun oC mD nsC HC=>?_
  have hh:=HC.1.7
  have R1:aX C S (own++((S.env.locals,oC)::hid)) m ρ' σ h':=HC.6.perm Je.symm
  unfold nj at q
  split at q
  ·rename_i e1
   exact nn (oJ (s:=aQ s h' tk) hh IR R1 e1 fun h'' tk' R2=>K ρ' loc σ h'' tk' q p ⟨oC,mD,nsC,HC.1,HC.2,HC.3,fun h F hm=>nsC h (hm _ (.head _)),HC.5,R2⟩)
  ·rename_i cv it' e1
   refine nn (oh (s:=aQ s h' tk) hh IR R1 e1 fun v own' h'' tk' hv IR' R2 go=>?_)
   have H2:CH C (N+sl) sc S (own'++hid) m ρ' loc σ h'':=⟨oC,mD,nsC,HC.1,HC.2,HC.3,fun h F hm=>nsC h (hm _ (.head _)),HC.5,(R2.perm Je)⟩
   refine nn (go tgE (uP c2 q) _ _ (nn (uF (s:=aQ s h'' tk') (CH.point G (N+sl) S sc (own'++hid) m hcell) c2 H2 hv (q) fun loc' σ' h3 tk3 q H3=>dG H3.at_ fun oC' mD' nsC' HC'=>?_)))
   have HC1:=HC'.le (k:=j+sl) (by lia)
   have on:∀{ρ2:List Du} {σ2:al} {h4:DI} {tk4:Nat} {E2:Dk->Dm->Prop},ρ'<+:ρ2->aX C S ((S.env.locals,oC')::(own'++hid)) m ρ2 σ2 h4->
     ((aj C.T j).e elt loc' σ2 fun v σ=>match am σ acc with
      |some (.list l)=>pB l.length ((aj C.T j).p fl elt tg tp cond it' acc loc' (aU σ acc (.list (l++[v]))) P)
      |_=>False)->
     aq (model C.prog C.w) S.A (eval elt' S.env) (fun x s₄=>aq (model C.prog C.w) S.A (call (.builtin "list.append") [.ref D,x]) (fun Z0 s₅=>∃m',m'<j+1/\CK C (N+sl) sc S hid m I s ρ N (pF C.T fl elt tg tp cond acc P) m' s₅) E2 s₄) E2 (aQ s h4 tk4):=by
    intro ρ2 σ2 h4 tk4 E2 p2 R4 q
    refine he _ _ _ _ c1 _ _ _ _ _ _ _ _ _ _ _ (HC1.go p2 R4) q fun ce σ5 ρ5 ve h5 tk5 q hve p5 R5=>?_
    split at q
    ·rename_i l e5
     unfold pB at q
     cases hb:Dn l.length 100000 with
     |false=>rw [hb] at q;exact q.elim
     |true=>
      rw [hb] at q
      have hb:=aR.mp hb
      have hD5:ρ5[acc]?=some D:=e9 (p.trans (p2.trans p5)) hD
      refine ay (R5.get' e5 hD5) fun o1 zz1 g1=>?_
      obtain ⟨vs,k1,rfl,r1⟩:=zz1
      have hl:=r1.len
      refine nn (append_at (s:=aQ s h5 tk5) (D:=D) g1 (fun h6 hs ho'=>?_) (by rw [DJ];simp only [sizeLine];lia))
      exact ⟨j,by lia,it',own',ρ5,loc',_,h6,tk5,rfl,IR'.mono (p2.trans p5),⟨oC',mD',nsC',HC'.go (p2.trans p5) (R5.set e5 hD5 hs ho' (co':=.list (l++[ce])) ⟨vs++[ve],k1+1,by simp,r1.snoc hve⟩)⟩,p.trans (p2.trans p5),by lia,q⟩
    ·exact q.elim
   cases cond with
   |none=>
    rw [(show ifs=[] from isE_e c3 rfl)]
    refine nn (wpAny_tests_nil ?_)
    rw [if_pos rfl]
    exact on (DM _) HC'.6 q
   |some t=>
    obtain ⟨t',e3,c3⟩:∃t',ifs=[t']/\aN C.nm C.gk kk sc t t'=true:=on1_e c3 fun t' h=>⟨t',rfl,h⟩
    rw [e3]
    refine zD (s:=aQ s h3 tk3) ht c3 HC1 q fun r σ2 ρ2 h4 tk4 q p2 R4=>aD (jx q) fun q1 q2=>?_
    cases r with
    |true=>
     rw [if_pos rfl]
     exact on p2 R4 (q1 rfl)
    |false=>
     rw [if_neg (by simp)]
     exact ⟨j,by lia,it',own',ρ2,loc',σ2,h4,tk4,rfl,IR'.mono p2,⟨oC',mD',nsC',HC'.go p2 R4⟩,p.trans p2,by lia,q2 rfl⟩
  ·exact q.elim
  ·exact q.elim
section
variable {loc:aP} {σ:al} {s:Dm} {Q:bu} {Qm:Dk->Dm->Prop} {E:Dk->Dm->Prop} {ih:Ih} {k:Nat}
set_option tactic.hygienic true in
theorem qL {use:Option (Dk->Sem Unit)} (G:TabC C) (no0:∀x,C.nm x≠[46,48]) {sl N:Nat} (B:jQ C sl (N+1)) {fl tp:Bool} {elt it:CE} {tg:List Nat} {cond:Option CE} {elt' tgE iD:Expr} {ifs:List Expr} {pos:Pos} {sc':Ef} {kk:Nat}
  (c0:aN C.nm C.gk kk sc it iD=true) (c2:iR C.nm sc' tg tp tgE=true) (c1:aN C.nm C.gk kk sc' elt elt'=true) (c3:vA (aN C.nm C.gk kk sc') cond ifs=true) (c4:fW iD=true) (c5:pQ C.nm sc sc' tg=true)
  (H:aZ C (N+sl) sc S hid m mD ρ loc σ s.heap)
  (q:(aj C.T N).e it loc σ fun v σ=>hK (cI σ v) fun i=>(aj C.T N).p fl elt tg tp cond i σ.length (loc.filter fun p=>!(tg.any fun x=>Dy x p.1)) (σ++[.list []]) fun σ'=>Q (.obj σ.length) σ')
  (K:∀cv σ5 ρ5 v h5 tk5 Cc o5 m5,Q cv σ5->VR ρ5 cv v->ρ<+:ρ5->aX C S ((Cc,o5)::hid) m ρ5 σ5 h5->(∀h:DI,h.get? Cc=some o5->h.Ns Cc m5)->kY (model C.prog C.w) S.A E use Qm v Cc (.ok .next) (aQ s h5 tk5)):
  aq (model C.prog C.w) S.A (comprehension (.ListComp elt' [⟨tgE,iD,ifs,0⟩] sc' pos) sc' S.env (firstIterPos [⟨tgE,iD,ifs,0⟩] pos) (newList []) false (eval iD S.env) use) Qm E s:=by
 unfold pQ at c5
 simp only [Dl,decide_eq_true_eq,D2,Fm,Ec,decide_eq_false_iff_not] at c5
 refine aD c5 fun zz1 n5=>?_
 obtain ⟨⟨⟨n1,n2⟩,n3⟩,n4⟩:=zz1
 have hfree:∀y∈sc'.names,y.2=.free->(S.env.cells.lookup y.1).isSome=true/\(S.env.kindOf y.1=some .cell\/S.env.kindOf y.1=some .free):=by
  intro y hy hf
  rcases n5 y hy with h|h
  ·rcases h with h|h
   ·exact absurd hf h
   ·have:=(H.2 _ _ h).1 (by simp)
    exact ⟨H.3 _ (.inl this),.inl this⟩
  ·rcases (H.2 _ _ h).2 rfl with h|h
   ·exact ⟨H.3 _ (.inr h),.inr h⟩
   ·exact ⟨H.3 _ (.inl h),.inl h⟩
 have hclos:closureFor sc' S.env=pure (jb S.env sc'.names []):=by
  have:=tP (env:=S.env) (names:=sc'.names) (acc:=[]) fun y hy hf=>(hfree y hy hf).1
  unfold closureFor
  simp only [bind_pure]
  exact this
 refine eU (w9 (env:=S.env) (names:=sc'.names) (acc:=[]) (fun y hy hf=>(hfree y hy hf).1) (fun p hp=>by cases hp)) fun cl1 cl2 Z0=>mK (use:=use) rfl (fN c4 _) hclos n2 (fun y hy hl=>?_) ?_
 ·rcases n3 y hy with h|h
  ·exact absurd hl h
  ·exact h
 refine aD (B N (En _)) fun he ht=>he _ _ _ _ c0 _ _ _ _ _ _ _ _ _ _ _ H q fun cv σ1 ρ1 xv h1 tk1 q hx p1 R1=>?_
 have H1:=H.go p1 R1
 refine gg q fun i ei q=>?_
 ·refine nn (uC (s:=aQ s h1 tk1) H1 hx ei fun I own h2 tk2 IR R2=>?_)
  refine nn (Fy (nn (wpAny_newFunctionEnv (fun y hy hc=>?_) (by intro y hy;simp at hy) (fun h4 hns hsb=>?_) n2)))
  ·rcases n1 y hy with h|h
   ·rcases h with h|h<;>rw [h] at hc<;>cases hc
   ·rw [h] at hc;cases hc
  have D0:=nw h2
  have R3:aX C S (own++hid) m (ρ1++[h2.objs.size]) (σ1++[.list []]) (h2.push {cls:=.type "list",dict:=none,data:=.seq ([]:List Dk).toArray}):=by
   exact aX.e R2 fun os F N nd eq O=>aX.push nd eq O (F.push _) (N.push F _) (d9 N) ⟨[],0,rfl,trivial⟩
  generalize hH:h2.push {cls:=.type "list",dict:=none,data:=.seq ([]:List Dk).toArray}=H3 at R3 hns hsb
  refine jo (id hns) fun oC esC epC gC rC=>?_
  have R4:aX C S ((H3.objs.size,oC)::(own++hid)) m (ρ1++[h2.objs.size]) (σ1++[.list []]) h4:=R3.hide (fun b o e=>hsb.extBut b o (D9 (DT e)) (Dt _ e)) gC (nw _)
  let S':bT:={S with env:=compEnvC sc' (jb S.env sc'.names []) H3.objs.size S.env}
  have kind':∀x,S'.env.kindOf x=(sc'.names.lookup x).map fun k=>if (k==Gx&&S.env.scope.kind==.function&&S.env.kindOf x==some .cell) then .cell else k:=fun x=>iS
  have nocell:∀x,sc'.names.lookup x=some .cell->False:=fun x e=>by
   rcases n1 _ (eW e) with h|h
   ·rcases h with h|h<;>cases h
   ·cases h
  have freeof:∀x,S'.env.kindOf x=some .cell\/S'.env.kindOf x=some .free->sc'.names.lookup x=some .free:=by
   intro x hk
   rw [kind'] at hk
   cases e:sc'.names.lookup x with
   |none=>rw [e] at hk;rcases hk with h|h<;>cases h
   |some k0=>
    rw [e] at hk
    simp only [Fi,Gf] at hk
    cases k0<;>simp at hk ⊢
    exact nocell x e
  have clook:∀x,sc'.names.lookup x=some .free->∃c,(jb S.env sc'.names []).lookup x=some c/\S.env.cells.lookup x=some c:=by
   intro x e
   exact aG (cl2 _ (eW e) rfl) fun a ha=>ay (nl ha) fun b hb hm=>⟨b,hb,cl1 _ hm⟩
  have HC:CH C (N+sl) sc' S' (own++hid) m (ρ1++[h2.objs.size]) (loc.filter fun p=>!(tg.any fun x=>Dy x p.1)) (σ1++[.list []]) h4:=by
   refine ⟨oC,fun y=>([]:List (Str×Dk)).reverse.lookup y,fun h g=>⟨oC,esC,epC,g,rC⟩,(⟨H.1.1,H.1.2,H.1.3,H.1.4,H.1.5,H.1.6,H.1.7,H.1.8,H.1.9,n2,H.1.11,H.1.12,H.1.13,H.1.14,H.1.15⟩),fun x k0 e=>⟨fun hk=>?_,fun hk=>?_⟩,fun x hk=>?_,fun h F hm=>⟨oC,esC,epC,hm _ (.head _),rC⟩,?_,⟨R4.1,R4.2⟩⟩
   ·rw [kind',e]
    rcases hk with h|h|h<;>subst h
    ·rfl
    ·rfl
    ·exact (nocell x e).elim
   ·subst hk
    rw [kind',e]
    rw [Fi]
    split
    ·exact .inr rfl
    ·exact .inl rfl
   ·refine ay (clook x (freeof x hk)) fun c hc Z0=>?_
    rw [hc];rfl
   ·intro x lv e il
    rw [kP (fun y=>!(tg.any fun x=>Dy x y))] at e
    split at e
    ·rename_i hnot
     have hnot:x∉tg:=by
      intro hm
      rw [Ec,FT] at hnot
      exact hnot (FC.mpr ⟨x,hm,by rw [cG];simp⟩)
     have hf:sc'.names.lookup (C.nS x)=some .free:=by
      rw [kind'] at il
      cases e2:sc'.names.lookup (C.nS x) with
      |none=>rw [e2] at il;cases il
      |some k0=>
       rw [e2] at il
       cases k0 with
       |free=>rfl
       |cell=>exact (nocell _ e2).elim
       |«local»=>
        exfalso
        rcases n4 _ (eW e2) with h|h
        ·exact h rfl
        ·rcases h with h|h
         ·have:=bN h
          exact no0 x (e8 this)
         ·refine ay (FC.mp h) fun y hy hn=>?_
          have:C.nS x=aV (C.nm y):=bN hn
          exact hnot (G.inj _ _ (e8 this)▸hy)
       |_=>cases il
     refine aD (hfree _ (eW hf) rfl) fun Z0 hk=>?_
     have z:=H1.5 x lv e (by rcases hk with h|h<;>rw [show S.env.kindOf (C.nS x)=_ from h]<;>rfl:oV (S.env.kindOf (C.nS x))=true)
     cases lv with
     |val c=>
      exfalso
      have z1:=z.1
      rcases hk with h|h<;>(rw [show S.env.kindOf (C.nS x)=_ from h] at z1;cases z1)
     |cell kx=>
      obtain ⟨_,c,hc,hr⟩:=z
      refine ay (clook _ hf) fun c' hc' hcc=>?_
      rw [hc] at hcc
      cases hcc
      refine ⟨?_,c,hc',e9 (cq _ _) hr⟩
      rw [kind',hf]
      rw [Fi]
      split
      ·exact .inl rfl
      ·exact .inr rfl
    ·cases e
  have hlen:(ρ1++[h2.objs.size])[σ1.length]?=some h2.objs.size:=by rw [←R2.len];exact gZ _ _
  have hcell:∀x,dN sc' x .cell=false:=fun x=>by
   rw [FT]
   intro h
   exact nocell x (Qw h)
  refine dG HC.at_ fun oC0 mD0 Z0 HC0=>?_
  have loop:bg (model C.prog C.w) S.A (.compLoop (.ListComp elt' [⟨tgE,iD,ifs,0⟩] sc' pos) 0 (.ref I) (.ref h2.objs.size) S'.env) (kY (model C.prog C.w) S.A E use Qm (.ref h2.objs.size) H3.objs.size) (aQ s h4 (tk2+([]:List (Str×Dk)).length)):=by
   exact t9 (S:=S') (s:=aQ s h4 (tk2+([]:List (Str×Dk)).length)) G (fun j hj=>B j (by lia)) c1 c2 c3 hcell (N:=N) (sl:=sl) (DQ _) (IR.mono (cq _ _)) HC hlen q fun ρ5 loc5 σ5 h5 tk5 q p5 H5=>dG H5.at_ fun o5 m5 z5 HC5=>K _ _ _ _ h5 _ _ o5 m5 q ⟨_,e9 p5 hlen,rfl⟩ (p1.trans ((cq _ _).trans p5)) ⟨HC5.6.1,HC5.6.2⟩ z5
  exact tx loop (nn (wr (S:=S') (s:=aQ s h4 (tk2+([]:List (Str×Dk)).length)) H.1.7 (IR.mono (cq _ _)) (HC0.6.perm Je.symm) loop))
theorem aX.dropC (R:aX C S ((c,o)::hid) m ρ σ h) (hs:Er c h h'):aX C S hid m ρ σ h':=
 aX.hidTurn (own:=[(c,o)]) (own':=[]) R (fun b ob hb e=>hs.extBut b ob (by simpa using hb) e) (fun p hp=>by cases hp) (.inr rfl)
theorem C1 (G:TabC C) (no0:∀x,C.nm x≠[46,48]) {sl N:Nat} (B:jQ C sl (N+1)) {fl tp:Bool} {elt it:CE} {tg:List Nat} {cond:Option CE} {elt' tgE iD:Expr} {ifs:List Expr} {pos:Pos} {sc':Ef} {kk:Nat}
  (c0:aN C.nm C.gk kk sc it iD=true) (c2:iR C.nm sc' tg tp tgE=true) (c1:aN C.nm C.gk kk sc' elt elt'=true) (c3:vA (aN C.nm C.gk kk sc') cond ifs=true) (c4:fW iD=true) (c5:pQ C.nm sc sc' tg=true)
  (H:aZ C (N+sl) sc S hid m mD ρ loc σ s.heap)
  (q:(aj C.T N).e it loc σ fun v σ=>hK (cI σ v) fun i=>(aj C.T N).p fl elt tg tp cond i σ.length (loc.filter fun p=>!(tg.any fun x=>Dy x p.1)) (σ++[.list []]) fun σ'=>Q (.obj σ.length) σ') (K:bQ C S hid m ρ s Q Qm):aq (model C.prog C.w) S.A (eval (.ListComp elt' [⟨tgE,iD,ifs,0⟩] sc' pos) S.env) Qm E s:=by
 rw [eval_ListComp]
 refine qL (use:=none) G no0 B c0 c2 c1 c3 c4 c5 H q fun cv σ5 ρ5 v h5 tk5 Cc o5 m5 q hv p R z=>⟨m5,z _ (aX.mem (own:=[(Cc,o5)]) R (.head _)),fun h6 hs=>?_⟩
 exact K _ _ _ _ _ _ q hv p (R.dropC hs)
end
structure TabD (C:Cx):Prop extends TabC C where
 no0:∀x,C.nm x≠[46,48]
theorem fu.up (h:fu C a) (hab:a<=b):fu C b:=fun f P e as σ Q S hid m ρ s vs R ok=>h f P e as σ Q S hid m ρ s vs R (ok.le hab)
set_option tactic.hygienic true in
theorem x8 (G:TabD C) (ct:fu C sl) (B:jQ C sl (N+1)) (hsc:SC C (N+sl) (aj C.T N)):SE C (N+1+sl) (aj C.T (N+1)):=by
 have ct':fu C (N+sl):=ct.up (by lia)
 refine aD (B N (En _)) fun he ht=>?_
 intro k sc c e hc S hid m mD ρ loc σ s Q Qm E H q K
 cases k with
 |zero=>exact absurd hc Dq
 |succ k=>
 have Hl:aZ C (N+sl) sc S hid m mD ρ loc σ s.heap:=H.le (by lia)
 cases c with
 |cst=>exact onCst_e hc fun Z0 Z0 Z0 hc=>Po Hl hc q K
 |loc x=>
  exact onName_e hc fun Z0 Z0 hc=>gg q fun v e2 q=>PU Hl (bL (bL hc)) (bR (bL hc)) (bR hc) e2 q K
 |glb x=>
  refine onName_e hc fun Z0 Z0 hc=>?_
  have q:match C.T.gv x with|some v=>Q v σ|none=>False:=q
  split at q
  ·rename_i e2;exact PD G.toTabG Hl (bL (bL hc)) (bR (bL hc)) (bR hc) e2 q K
  ·exact q.elim
 |bin=>exact onBin_e hc fun Z0 Z0 Z0 Z0 hc=>Oy G.toTabG he (bL (bL hc)) (bR (bL hc)) (bR hc) Hl q K
 |neg=>exact onNeg_e hc fun Z0 Z0 hc=>QA he hc Hl q K
 |nt=>exact Ij q
 |ife=>exact onIfe_e hc fun Z0 Z0 Z0 Z0 hc=>Pg he ht (bL (bL hc)) (bR (bL hc)) (bR hc) Hl q K
 |bop=>exact onBop_e hc fun Z0 Z0 Z0 hc=>wR he (bL hc) (bR hc) Hl q K
 |cmp=>exact onCmp_e hc fun Z0 Z0 Z0 Z0 hc=>OH G.toTabG he (bL (bL hc)) (bR (bL hc)) (bR hc) Hl q K
 |lst=>exact onLst_e hc fun Z0 Z0 hc=>PJ he (bL hc) (aR.mp (bR hc)) Hl q K
 |tup=>exact onTup_e hc fun Z0 Z0 Z0 hc=>QO he (bL hc) (aR.mp (bR hc)) Hl q K
 |dct=>exact onDct_e hc fun Z0 Z0 Z0 hc=>PE he (bL (bL (bL hc))) (bR (bL (bL hc))) (fG.mp (bR (bL hc))) (aR.mp (bR hc)) Hl q K
 |calF=>exact onCalN_e hc fun Z0 Z0 Z0 Z0 hc=>Nm G.toTabC ct' hsc he (bR hc) (bL (bL (bL hc))) (bR (bL (bL hc))) (bR (bL hc)) Hl q K
 |calC=>exact onCalN_e hc fun Z0 Z0 Z0 Z0 hc=>IN G.toTabC ct' hsc he (bR hc) (bL (bL (bL hc))) (bR (bL (bL hc))) (bR (bL hc)) (H.le (by lia)) q K
 |calB=>exact onCalN_e hc fun Z0 Z0 Z0 Z0 hc=>MJ G.toTabG he (bR hc) (bL (bL (bL hc))) (bR (bL (bL hc))) (bR (bL hc)) Hl q K
 |mth=>exact onCalA_e hc fun Z0 Z0 Z0 Z0 Z0 hp hc=>O9 G.toTabC ct' hsc he (bL (bL (bL (bL hc)))) hp (bR (bL (bL hc))) (bR (bL (bL (bL hc)))) (bR (bL hc)) (aR.mp (bR hc)) Hl q K
 |mtB=>exact onCalA_e hc fun Z0 Z0 Z0 Z0 Z0 hp hc=>Qd G.toTabG he (bL (bL (bL (bL hc)))) hp (bR (bL (bL hc))) (bR (bL (bL (bL hc)))) (bR (bL hc)) (aR.mp (bR hc)) Hl q K
 |att=>exact onAtt_e hc fun Z0 Z0 Z0 hc=>Pp G.toTabC he (bL (bL hc)) (bR hc) (bR (bL hc)) Hl q K
 |sub=>exact onSub_e hc fun Z0 Z0 Z0 hc=>PR he (bL (bL hc)) (bR (bL hc)) (bR hc) Hl q K
 |slc=>exact onSub_e hc fun v Z0 Z0 hc=>onSlc_e hc fun Z0 Z0 Z0 Z0 hc=>OU he (bL (bL (bL hc))) (bR (bL (bL hc))) (bR (bL hc)) (bR hc) Hl q K
 |comp=>exact onCmpr_e (kg _ _ hc) fun Z0 Z0 Z0 Z0 Z0 Z0 hc=>C1 G.toTabC G.no0 B (bL (bL (bL (bL (bL hc))))) (bR (bL (bL (bL (bL hc))))) (bR (bL (bL (bL hc)))) (bR (bL (bL hc))) (bR (bL hc)) (bR hc) Hl q K
 |bad=>exact Ij q
def Rh (e:Expr):Bool:=Cd 0 e&&(Cd 5 e&&(Cd 15 e&&(Cd 3 e||A7 e fun o Z0=>!Dy o.ctorIdx UnaryOp.Not.ctorIdx)))
theorem Nw (h:Rh e=true):isTrue e env (eval e env)=(do let v ←eval e env;standAt e.pos;holding [v] (truthy v)):=by
 refine Ho (b:=bif Rh e then (do let v ←eval e env;standAt e.pos;holding [v] (truthy v)) else isTrue e env (eval e env)) ?_ (by rw [h];rfl)
 clear h
 cases e with
 |UnaryOp op=>cases op<;>rfl
 |_=>rfl
theorem xB (G:TabD C) (B:jQ C sl (N+1)):ST C (N+1+sl) (aj C.T (N+1)):=by
 refine aD (B N (En _)) fun he ht=>?_
 intro k sc c e hc S hid m mD ρ loc σ s Q Qm E H q K
 have hc0:=hc
 cases k with
 |zero=>exact absurd hc Dq
 |succ k=>
 have Hl:aZ C (N+sl) sc S hid m mD ρ loc σ s.heap:=H.le (by lia)
 have plain:Rh e=true->((aj C.T N).e c loc σ fun v σ=>match v with|.bool r=>Q r σ|_=>False)->aq (model C.prog C.w) S.A (isTrue e S.env (eval e S.env)) Qm E s:=by
  intro hp q
  refine nT (he _ _ _ _ hc _ _ _ _ _ _ _ _ _ _ _ Hl q fun cv σ' ρ' v h' tk q hv p R=>?_) (Nw hp)
  split at q
  ·have:v=.bool _:=hv
   rw [this]
   exact fV (K _ _ _ _ _ q p R)
  ·exact q.elim
 cases c with
 |nt=>exact onNot_e hc fun Z0 Z0 hc=>qT (ht _ _ _ _ hc _ _ _ _ _ _ _ _ _ _ _ Hl q fun r σ' ρ' h' tk q p R=>K _ _ _ _ _ q p R)
 |ife=>exact Ij q
 |bop=>exact onBop_e hc fun Z0 Z0 Z0 hc=>xb ht (bL hc) (bR hc) Hl q K
 |cmp=>exact onCmp_e hc fun Z0 Z0 Z0 Z0 hc=>Qj G.toTabG he (bL (bL hc)) (bR (bL hc)) (bR hc) Hl q K
 |bad=>
  exfalso
  cases N with
  |zero=>exact q
  |succ N=>exact q
 |cst=>exact plain (onCst_e hc fun Z0 Z0 Z0 Z0=>rfl) q
 |loc=>exact plain (onName_e hc fun Z0 Z0 Z0=>rfl) q
 |glb=>exact plain (onName_e hc fun Z0 Z0 Z0=>rfl) q
 |bin=>exact plain (onBin_e hc fun Z0 Z0 Z0 Z0 Z0=>rfl) q
 |neg=>exact plain (onNeg_e hc fun Z0 Z0 Z0=>rfl) q
 |lst=>exact plain (onLst_e hc fun Z0 Z0 Z0=>rfl) q
 |tup=>exact plain (onTup_e hc fun Z0 Z0 Z0 Z0=>rfl) q
 |dct=>exact plain (onDct_e hc fun Z0 Z0 Z0 Z0=>rfl) q
 |calF=>exact plain (onCalN_e hc fun Z0 Z0 Z0 Z0 Z0=>rfl) q
 |calC=>exact plain (onCalN_e hc fun Z0 Z0 Z0 Z0 Z0=>rfl) q
 |calB=>exact plain (onCalN_e hc fun Z0 Z0 Z0 Z0 Z0=>rfl) q
 |mth=>exact plain (onCalA_e hc fun Z0 Z0 Z0 Z0 Z0 Z0 Z0=>rfl) q
 |mtB=>exact plain (onCalA_e hc fun Z0 Z0 Z0 Z0 Z0 Z0 Z0=>rfl) q
 |att=>exact plain (onAtt_e hc fun Z0 Z0 Z0 Z0=>rfl) q
 |sub=>exact plain (onSub_e hc fun Z0 Z0 Z0 Z0=>rfl) q
 |slc=>exact plain (onSub_e hc fun Z0 Z0 Z0 Z0=>rfl) q
 |comp=>exact plain (onCmpr_e (kg _ _ hc) fun Z0 Z0 Z0 Z0 Z0 Z0 Z0=>rfl) q
theorem mC (h:jf value=true) (t:Option Expr) (line:Nat) (env:Env):swapsWith value t line env=pure false:=
 Ho (b:=bif jf value then pure false else swapsWith value t line env) (by clear h;cases value<;>first|exact GG (pure false)|exact GG _) (by rw [h];rfl)
theorem Av (value:Expr) (o:Expr) (a:Str) (p:Pos) (line:Nat) (env:Env):swapsWith value (some (.Attribute o a p)) line env=pure false:=by
 cases value<;>exact GG (pure false)
theorem ua (value:Expr) (o i:Expr) (p:Pos) (line:Nat) (env:Env):swapsWith value (some (.Subscript o i p)) line env=pure false:=by
 cases value<;>exact GG (pure false)
theorem Bk (value o:Expr) (a:Str) (p:Pos) (env:Env):swappedStores [.Attribute o a p] value env=pure none:=by
 cases value<;>exact GG (pure none)
theorem sC (value o i:Expr) (p:Pos) (env:Env):swappedStores [.Subscript o i p] value env=pure none:=by
 cases value<;>exact GG (pure none)
theorem zb (h:aN nm gk k sc c e=true):jf e=true\/c=.bad\/∃fl elt tg tp it cnd elt' tgE iD ifs sc' p,c=.comp fl elt tg tp it cnd/\e=.ListComp elt' [⟨tgE,iD,ifs,0⟩] sc' p:=by
 cases k with
 |zero=>exact absurd h Dq
 |succ k=>
  cases c with
  |bad=>exact .inr (.inl rfl)
  |comp=>exact .inr (.inr (onCmpr_e (kg _ _ h) fun Z0 Z0 Z0 Z0 Z0 Z0 Z0=>⟨_,_,_,_,_,_,_,_,_,_,_,_,rfl,rfl⟩))
  |cst=>exact .inl (onCst_e h fun Z0 Z0 Z0 Z0=>rfl)
  |loc=>exact .inl (onName_e h fun Z0 Z0 Z0=>rfl)
  |glb=>exact .inl (onName_e h fun Z0 Z0 Z0=>rfl)
  |bin=>exact .inl (onBin_e h fun Z0 Z0 Z0 Z0 Z0=>rfl)
  |neg=>exact .inl (onNeg_e h fun Z0 Z0 Z0=>rfl)
  |lst=>exact .inl (onLst_e h fun Z0 Z0 Z0=>rfl)
  |tup=>exact .inl (onTup_e h fun Z0 Z0 Z0 Z0=>rfl)
  |dct=>exact .inl (onDct_e h fun Z0 Z0 Z0 Z0=>rfl)
  |calF=>exact .inl (onCalN_e h fun Z0 Z0 Z0 Z0 Z0=>rfl)
  |calC=>exact .inl (onCalN_e h fun Z0 Z0 Z0 Z0 Z0=>rfl)
  |calB=>exact .inl (onCalN_e h fun Z0 Z0 Z0 Z0 Z0=>rfl)
  |mth=>exact .inl (onCalA_e h fun Z0 Z0 Z0 Z0 Z0 Z0 Z0=>rfl)
  |mtB=>exact .inl (onCalA_e h fun Z0 Z0 Z0 Z0 Z0 Z0 Z0=>rfl)
  |att=>exact .inl (onAtt_e h fun Z0 Z0 Z0 Z0=>rfl)
  |sub=>exact .inl (onSub_e h fun Z0 Z0 Z0 Z0=>rfl)
  |slc=>exact .inl (onSub_e h fun Z0 Z0 Z0 Z0=>rfl)
  |nt=>exact .inl (onNot_e h fun Z0 Z0 Z0=>rfl)
  |ife=>exact .inl (onIfe_e h fun Z0 Z0 Z0 Z0 Z0=>rfl)
  |bop=>exact .inl (onBop_e h fun Z0 Z0 Z0 Z0=>rfl)
  |cmp=>exact .inl (onCmp_e h fun Z0 Z0 Z0 Z0 Z0=>rfl)
def cr (C:Cx) (sc:Ef) (S:bT) (hid:List (Du×Obj)) (ρ:List Du) (s:Dm) (Q:Fl->aP->al->Prop) (Qm:Kt->Dm->Prop):Prop:=
 ∀fl loc' σ' ρ' h' tk,Q fl loc' σ'->ρ<+:ρ'->FH C 0 sc S hid ρ' loc' σ' h'->match fl with
  |.next=>Qm .next (aQ s h' tk)
  |.ret cv=>∀v,VR ρ' cv v->Qm (.ret v) (aQ s h' tk)
theorem cr.mono (x:cr C sc S hid ρ s Q Qm) (h:ρ<+:ρ') (h':DI) (tk:Nat):cr C sc S hid ρ' (aQ s h' tk) Q Qm:=
 fun fl loc' σ' ρ'' h'' tk' q p R=>x fl loc' σ' ρ'' h'' tk' q (h.trans p) R
theorem cr.next (x:cr C sc S hid ρ s Q Qm) (q:Q .next loc' σ') (p:ρ<+:ρ') (F:FH C 0 sc S hid ρ' loc' σ' h'):Qm .next (aQ s h' tk):=x .next loc' σ' ρ' h' tk q p F
theorem FH.le (F:FH C n sc S hid ρ loc σ h) (q:j<=n):FH C j sc S hid ρ loc σ h:=⟨F.1,F.2,F.3,let ⟨m,H⟩:=F.4;⟨m,H.le q⟩⟩
theorem FH.up (F:FH C n sc S hid ρ loc σ h) (ok:S.Ok C j):FH C j sc S hid ρ loc σ h:=⟨F.1,F.2,F.3,let ⟨m,H⟩:=F.4;⟨m,ok,H.2,H.3,H.4,H.5,H.6⟩⟩
theorem FH.ok (F:FH C n sc S hid ρ loc σ h):S.Ok C n:=let ⟨_,H⟩:=F.4;H.1
theorem FH.e (he:SE C n ih) {h:Dm} (F:FH C n sc S hid ρ loc σ h.heap) {c:CE} {e:Expr} (hc:aN C.nm C.gk k sc c e=true) {Q:bu} {Qm:Dk->Dm->Prop} (q:ih.e c loc σ Q)
  (K:∀cv σ' ρ' v h' tk,Q cv σ'->VR ρ' cv v->ρ<+:ρ'->FH C n sc S hid ρ' loc σ' h'->Qm v (aQ h h' tk)):aq (model C.prog C.w) S.A (eval e S.env) Qm E h:=by
 exact aG F.4 fun m H=>he _ _ _ _ hc _ _ _ _ _ _ _ _ _ _ _ H q fun cv σ' ρ' v h' tk q hv p R=>K _ _ _ _ _ _ q hv p ⟨F.1,F.2,F.3,m,H.go p R⟩
theorem FH.t (ht:ST C n ih) {h:Dm} (F:FH C n sc S hid ρ loc σ h.heap) {c:CE} {e:Expr} (hc:aN C.nm C.gk k sc c e=true) {Q:Bool->al->Prop} {Qm:Bool->Dm->Prop} (q:ih.t c loc σ Q)
  (K:∀r σ' ρ' h' tk,Q r σ'->ρ<+:ρ'->FH C n sc S hid ρ' loc σ' h'->Qm r (aQ h h' tk)):aq (model C.prog C.w) S.A (isTrue e S.env (eval e S.env)) Qm E h:=by
 exact aG F.4 fun m H=>ht _ _ _ _ hc _ _ _ _ _ _ _ _ _ _ _ H q fun r σ' ρ' h' tk q p R=>K _ _ _ _ _ q p ⟨F.1,F.2,F.3,m,H.go p R⟩
theorem FH.re (F:FH C n sc S hid ρ loc σ h) (H:aZ C n sc S hid m m ρ loc σ h) (p:ρ<+:ρ') (R:aX C S hid m ρ' σ' h'):FH C n sc S hid ρ' loc σ' h':=⟨F.1,F.2,F.3,m,H.go p R⟩
theorem Db (F:FH C n sc S hid ρ loc σ s.heap) (q:Q (.ret .none) loc σ) (K:cr C sc S hid ρ s Q Qm):aq (model C.prog C.w) S.A (exec (.Return none p) S.env) Qm E s:=by
 rw [arm_exec_Return]
 exact aa (ak (ad (K (.ret .none) loc σ ρ s.heap s.toks q (DM _) (F.le (Ep _)) .none rfl)))
theorem Px (he:SE C n ih) (hc:aN C.nm C.gk k sc e e'=true) (F:FH C n sc S hid ρ loc σ s.heap) (q:ih.e e loc σ fun v σ=>Q (.ret v) loc σ) (K:cr C sc S hid ρ s Q Qm):aq (model C.prog C.w) S.A (exec (.Return (some e') p) S.env) Qm E s:=
 mc (F.e he hc q fun cv σ' ρ' v h' tk q hv p F'=>K (.ret cv) loc σ' ρ' h' tk q p (F'.le (Ep _)) v hv)
theorem jU (h:env.scope.kind=.function):interactive env=false:=by
 unfold interactive
 rw [h];rfl
theorem Qa (he:SE C n ih) (hc:aN C.nm C.gk k sc e e'=true) (hcall:jf e'=true) (F:FH C n sc S hid ρ loc σ s.heap) (q:ih.e e loc σ fun Z0 σ=>Q .next loc σ) (K:cr C sc S hid ρ s Q Qm):aq (model C.prog C.w) S.A (exec (.Expr e' p) S.env) Qm E s:=
 Cm (F.e he hc q fun cv σ' ρ' v h' tk q hv p F'=>K.next q p (F'.le (Ep _))) (jU F.ok.10) (mC hcall _ _ _)
theorem Pv (G:TabD C) {sl N:Nat} (B:jQ C sl (N+1)) {Q:Fl->aP->al->Prop} {Qm:Kt->Dm->Prop} {x:Nat} {e:CE} {e':Expr} {id:Str} {p0 p:Pos} (hn:dC (C.nm x) id=true) (hk:(dN sc id .local||dN sc id .cell)=true) (hc:aN C.nm C.gk k sc e e'=true) (F:FH C (N+sl) sc S hid ρ loc σ s.heap)
  (q:(aj C.T N).e e loc σ fun v σ=>lp loc σ x v fun loc σ=>Q .next loc σ) (K:cr C sc S hid ρ s Q Qm):aq (model C.prog C.w) S.A (exec (.Assign [.Name id p0] e' p) S.env) Qm E s:=by
 have e1:id=C.nS x:=bN hn
 subst e1
 rw [Fm] at hk
 have hk:=hk
 refine aD (B N (En _)) fun he ht=>?_
 have plain:swapsWith e' (some (.Name (C.nS x) p0)) p.line S.env=pure false->aq (model C.prog C.w) S.A (exec (.Assign [.Name (C.nS x) p0] e' p) S.env) Qm E s:=fun hs=>
  py (F.e he hc q fun cv σ' ρ' v h' tk q hv p F'=>nn ((FH.point G.toTabC _ S sc hid).store (s:=aQ s h' tk) F' hv hk q fun loc' σ'' h'' tk' q F''=>K.next q p (F''.le (Ep _)))) hs
 rcases zb hc with h|h|⟨fl,elt,tg,tp,it,cnd,elt',tgE,iD,ifs,sc',pp,rfl,rfl⟩
 ·exact plain (mC h _ _ _)
 ·exfalso
  subst h
  cases N with
  |zero=>exact q
  |succ N=>exact q
 ·have hb:∃b,swapsWith (.ListComp elt' [⟨tgE,iD,ifs,0⟩] sc' pp) (some (.Name (C.nS x) p0)) p.line S.env=pure b:=⟨_,rfl⟩
  refine aG hb fun b hb=>?_
  cases b with
  |false=>exact plain hb
  |true=>
   cases N with
   |zero=>exact q.elim
   |succ N=>
   cases k with
   |zero=>exact absurd hc Dq
   |succ k=>
   have hc:=bR (a:=j5 0 0) hc
   rw [J7]
   refine aa (ak ?_)
   rw [(show swapsWithSole [.Name (C.nS x) p0] (.ListComp elt' [⟨tgE,iD,ifs,0⟩] sc' pp) p.line S.env=pure true from hb)]
   refine aa (ad ?_)
   rw [if_pos rfl]
   refine aG F.4 fun m H=>?_
   rw [ms] at q
   refine aa (aa (qL (sl:=sl) (N:=N) (Q:=fun v σ=>lp loc σ x v fun loc σ=>Q .next loc σ) G.toTabC G.no0 (fun j hj=>B j (by lia)) (bL (bL (bL (bL (bL hc))))) (bR (bL (bL (bL (bL hc))))) (bR (bL (bL (bL hc)))) (bR (bL (bL hc))) (bR (bL hc)) (bR hc) (H.le (by lia)) q fun cv σ5 ρ5 v h5 tk5 Cc o5 m5 q hv p R z=>nn (Jx ?_)))
   refine (FH.point G.toTabC _ S sc ((Cc,o5)::hid)).store (s:=aQ s h5 tk5) (⟨F.1,F.2,F.3,m,H.1,H.2,H.3,fun h Fh Z0=>by rw [F.2];exact Fh.ns,H.5.mono p,R⟩) hv hk q fun loc' σ6 h6 tk6 q F6=>?_
   refine aG F6.4 fun m6 H6=>⟨m5,z _ (aX.mem (own:=[(Cc,o5)]) H6.6 (.head _)),fun h7 hs7=>ad (ad ?_)⟩
   exact K.next q p ⟨F6.1,F6.2,F6.3,m6,H6.1.le (Ep _),H6.2,H6.3,fun h Fh Z0=>by rw [F6.2];exact Fh.ns,H6.5,H6.6.dropC hs7⟩
theorem L5 (G:TabD C) (he:SE C n ih) (ho:aN C.nm C.gk k sc o v=true) (ha:dC (C.nm x) a=true) (hc:aN C.nm C.gk k sc e e'=true) (F:FH C n sc S hid ρ loc σ s.heap)
  (q:ih.e e loc σ fun v σ=>ih.e o loc σ fun o σ=>r5 σ o fun c0 d0 l0=>cond (io C.T c0 x&&Dn l0.length 100) (Q .next loc (aU σ d0 (.attrs (cu l0 x v)))) False) (K:cr C sc S hid ρ s Q Qm):aq (model C.prog C.w) S.A (exec (.Assign [.Attribute v a p0] e' p) S.env) Qm E s:=by
 refine dv ?_ (show swapsWithSole [.Attribute v a p0] e' p.line S.env=pure false from Av e' v a p0 p.line S.env) (Bk e' v a p0 S.env)
 refine F.e he hc q fun cv σ1 ρ1 vv h1 tk1 q hv p1 F1=>?_
 show aq _ _ (assign (.Attribute v a p0) S.env vv) _ _ _
 rw [arm_assign_Attribute]
 refine aa (af (FH.e (h:=aQ s h1 tk1) he F1 ho q fun co σ2 ρ2 vo h2 tk2 q hw p2 F2=>aa (ak (aG F2.4 fun m H=>xH q fun c d l e1 q=>pi q fun hb q=>AO (pX H.6 hw e1) fun y dx es n9 zz4 r1 r2 r3 r4 I=>?_))))
 subst zz4
 rw [Dl] at hb
 refine aD hb fun hb1 hb2=>ay (N9 _ hb1) fun kl e3 hb1=>?_
 have ok:=G.cls _ _ e3
 refine aD (ok.ats _ hb1) fun Z0 ht=>?_
 have hl:=r3.len
 have hb2:=aR.mp hb2
 rw [bN ha]
 obtain ⟨Fr',os,N,nd,eq,O⟩:=id H.6
 refine ay (O.get r2) fun pr g1 g2=>?_
 have hp:pr.1=dx:=by
  have e5:=r1
  rw [←eq,DH,g1] at e5
  injection e5
 have g1':os[d]?=some (dx,dictOf es n9):=by
  have:pr.2=dictOf es n9:=by
   have z:=(N pr (DF _ (DU g1))).1
   rw [hp,r4] at z
   injection z with z
   exact z.symm
  rw [g1,←hp,←this]
 have hsome:(getL (C.nS x) es).isSome=true:=by
  cases e6:lk l x with
  |none=>rw [r3.get0 G.inj e6];rfl
  |some w=>obtain ⟨w',z,_⟩:=r3.get1 G.inj e6;rw [z];rfl
 refine aa (af (nn (set_dict (s:=aQ s h2 tk2) (es':=putL (C.nS x) (HB C.w.params (C.nS x)) (.str (C.nS x) (tk2+1)) vv es) (n':=putN (C.nS x) es n9) Fr' H.1.2 N I rfl ok.set ok.over ht ok.dict hsome rfl (tQ nd g1') ?_ ?_)))
 ·have:=qR (name:=C.nS x) (hs:=HB C.w.params (C.nS x)) (key:=.str (C.nS x) (tk2+1)) (v:=vv) es
  lia
 ·intro h3 F3 N3
  exact nn (Ha (K.next q (p1.trans p2) ((F2.re H (DM _) (show aX C S hid m ρ2 (aU σ2 d (.attrs (cu l x cv))) h3 from aX.turn nd eq O g1' F3 N3 ⟨_,_,rfl,AR.put G.inj (hv.mono p2) r3⟩)).le (Ep _))))
theorem NP (he:SE C n ih) (ho:aN C.nm C.gk k sc o v=true) (hi:aN C.nm C.gk k sc i j=true) (hc:aN C.nm C.gk k sc e e'=true) (F:FH C n sc S hid ρ loc σ s.heap)
  (q:ih.e e loc σ fun v σ=>ih.e o loc σ fun o σ=>ih.e i loc σ fun i σ=>oF fl σ o i v fun σ=>Q .next loc σ) (K:cr C sc S hid ρ s Q Qm):aq (model C.prog C.w) S.A (exec (.Assign [.Subscript v j p0] e' p) S.env) Qm E s:=by
 refine dv ?_ (show swapsWithSole [.Subscript v j p0] e' p.line S.env=pure false from ua e' v j p0 p.line S.env) (sC e' v j p0 S.env)
 refine F.e he hc q fun cv σ1 ρ1 vv h1 tk1 q hv p1 F1=>?_
 show aq _ _ (assign (.Subscript v j p0) S.env vv) _ _ _
 rw [LM]
 exact aa (af (FH.e (h:=aQ s h1 tk1) he F1 ho q fun co σ2 ρ2 vo h2 tk2 q hw p2 F2=>aa (af (FH.e (h:=aQ s h2 tk2) he F2 hi q fun ci σ3 ρ3 vi h3 tk3 q hx p3 F3=>aa (ak (aG F3.4 fun m H=>aa (af (nn (MT (s:=aQ s h3 tk3) H (hw.mono p3) hx (hv.mono (p2.trans p3)) q fun σ4 h4 tk4 q R=>nn (Ha (K.next q (p1.trans (p2.trans p3)) ((F3.re H (DM _) R).le (Ep _)))))))))))))
theorem M0 (G:TabD C) (he:SE C n ih) {Q:Fl->aP->al->Prop} {Qm:Kt->Dm->Prop} {o lo hi e:CE} {v a b e':Expr} {p0 p1 p:Pos} (ho:aN C.nm C.gk k sc o v=true) (ha:aN C.nm C.gk k sc lo a=true) (hb:aN C.nm C.gk k sc hi b=true) (hc:aN C.nm C.gk k sc e e'=true) (F:FH C n sc S hid ρ loc σ s.heap)
  (q:ih.e e loc σ fun v σ=>ih.e o loc σ fun o σ=>ih.e lo loc σ fun a σ=>ih.e hi loc σ fun b σ=>mI σ o a b v fun σ=>Q .next loc σ) (K:cr C sc S hid ρ s Q Qm):aq (model C.prog C.w) S.A (exec (.Assign [.Subscript v (.Slice (some a) (some b) none p1) p0] e' p) S.env) Qm E s:=by
 refine dv ?_ (show swapsWithSole [.Subscript v (.Slice (some a) (some b) none p1) p0] e' p.line S.env=pure false from ua e' v (.Slice (some a) (some b) none p1) p0 p.line S.env) (sC e' v (.Slice (some a) (some b) none p1) p0 S.env)
 refine F.e he hc q fun cv σ1 ρ1 vv h1 tk1 q hv p1 F1=>?_
 show aq _ _ (assign (.Subscript v (.Slice (some a) (some b) none _) p0) S.env vv) _ _ _
 rw [LM]
 refine aa (af (FH.e (h:=aQ s h1 tk1) he F1 ho q fun co σ2 ρ2 vo h2 tk2 q hw p2 F2=>aa (af (zP ?_))))
 rw [KP,KP]
 refine FH.e (h:=aQ s h2 tk2) he F2 ha q fun ca σ3 ρ3 va h3 tk3 q hx p3 F3=>FH.e (h:=aQ s h3 tk3) he F3 hb q fun cb σ4 ρ4 vb h4 tk4 q hy p4 F4=>?_
 rw [evalPart_none]
 exact ad (aa (ak (aG F4.4 fun m H=>aa (af (Nc (s:=aQ s h4 tk4) G.bm H (hw.mono (p3.trans p4)) (hx.mono p4) hy (hv.mono (p2.trans (p3.trans p4))) q fun σ5 h5 tk5 q R=>nn (Ha (K.next q (p1.trans (p2.trans (p3.trans p4))) ((F4.re H (DM _) R).le (Ep _)))))))))
def SB (C:Cx) (n:Nat) (ih:Ih):Prop:=∀k sc l b,eD C.nm C.gk k sc l b=true->∀S hid ρ loc σ s Q Qm E,FH C n sc S hid ρ loc σ s.heap->ih.b l loc σ Q->cr C sc S hid ρ s Q Qm->aq (model C.prog C.w) S.A (execs b S.env) Qm E s
theorem P0 (ht:ST C n ih) (hb:SB C n ih) (h1:aN C.nm C.gk k sc t t'=true) (h2:eD C.nm C.gk k sc a a'=true) (h3:eD C.nm C.gk k sc b b'=true) (F:FH C n sc S hid ρ loc σ s.heap)
  (q:ih.t t loc σ fun r σ=>br fl r (ih.b a loc σ Q) (ih.b b loc σ Q)) (K:cr C sc S hid ρ s Q Qm):aq (model C.prog C.w) S.A (exec (.If t' a' b' p) S.env) Qm E s:=by
 refine Sv (F.t ht h1 q fun r σ1 ρ1 h1 tk1 q p1 F1=>aD (jx q) fun q1 q2=>?_)
 cases r with
 |true=>exact hb _ _ _ _ h2 _ _ _ _ _ _ _ _ _ F1 (q1 rfl) (K.mono p1 _ _)
 |false=>exact hb _ _ _ _ h3 _ _ _ _ _ _ _ _ _ F1 (q2 rfl) (K.mono p1 _ _)
def gz (C:Cx) (sl N:Nat):Prop:=jQ C sl N/\∀j,j<N->SB C (j+sl) (aj C.T j)
inductive Qs (C:Cx) (n:Nat) (sc:Ef) (S:bT) (hid:List (Du×Obj)) (s:Dm) (ρ:List Du) (N:Nat) (F:Nat->aP->al->Prop) (j:Nat) (s':Dm):Prop where
 |mk (ρ':List Du) (loc:aP) (σ:al) (h':DI) (tk:Nat) (e:s'=(aQ s h' tk)) (F0:FH C n sc S hid ρ' loc σ h') (p:ρ<+:ρ') (hj:j<=N) (q:F j loc σ)
def wF (T:Tab) (fl:Bool) (t:CE) (b:List CS) (Q:Fl->aP->al->Prop) (j:Nat) (loc:aP) (σ:al):Prop:=(aj T j).w fl t b loc σ Q
theorem Pq (B:gz C sl (N+1)) (h1:aN C.nm C.gk k sc t t'=true) (h2:eD C.nm C.gk k sc b b'=true) (F:FH C (N+sl) sc S hid ρ loc σ s.heap)
  (q:(aj C.T N).w fl t b loc σ Q) (K:cr C sc S hid ρ s Q Qm):aq (model C.prog C.w) S.A (exec (.While t' b' [] p) S.env) Qm E s:=by
 refine NH (tG (Qs C (N+sl) sc S hid s ρ N (wF C.T fl t b Q)) ?_ N ⟨ρ,loc,σ,s.heap,s.toks,rfl,F,DM _,DQ _,q⟩)
 rintro j s' ⟨ρ',loc,σ,h',tk,rfl,F,p,hj,q⟩
 cases j with
 |zero=>exact q.elim
 |succ j=>
  refine aD (B.1 j (by lia)) fun he ht=>?_
  have q:Cz (aj C.T j) fl t b loc σ Q:=q
  refine FH.t (h:=aQ s h' tk) ht (F.le (by lia)) h1 q fun r σ1 ρ1 h1 tk1 q p1 F1=>aD (jx q) fun q1 q2=>?_
  cases r with
  |false=>
   rw [if_neg (by simp)]
   exact fZ (K.next (q2 rfl) (p.trans p1) (F1.le (Ep _)))
  |true=>
   rw [if_pos rfl]
   refine (B.2 j (by lia)) _ _ _ _ h2 _ _ _ _ _ (aQ s h1 tk1) _ _ _ F1 (q1 rfl) fun fl2 loc2 σ2 ρ2 h2 tk2 q p2 F2=>?_
   cases fl2 with
   |next=>exact ⟨j,by lia,ρ2,loc2,σ2,h2,tk2,rfl,F2.up F.ok,p.trans (p1.trans p2),by lia,q⟩
   |ret cv=>exact fun v hv=>K (.ret cv) _ _ _ _ _ q (p.trans (p1.trans p2)) F2 v hv
theorem iD {α:Type} {P:α->Prop} {c:Prop} {d:Decidable c} {a b:α} (h1:c->P a) (h2:¬c->P b):P (@ite α c d a b):=by
 cases d with
 |isTrue h=>exact h1 h
 |isFalse h=>exact h2 h
def Tr (ts:List Expr) (r:Sem (Option (List Str))):Prop:=r=pure none\/∃(f:Expr->Option Str) (names:List Str),r=pure (some names)/\names=ts.filterMap f/\names.length=ts.length/\∀id p b,f (.Name id p)=some b->id=b
theorem yv (h:(@ite _ c d (some a) none)=some b):a=b:=by
 cases d with
 |isTrue Z1=>exact EF h
 |isFalse Z1=>cases h
theorem nR {k k2:Nat} (h:(!(vs.all (constantsAlone 8))||vs.all (foldedForSure 8))=true):
  Tr ts (swappedStores [.Tuple ts k p] (.Tuple vs k2 p2) env):=
 iD (fun Z0=>.inl rfl) fun Z0=>iD (fun Z0=>.inl rfl) fun Z0=>iD (fun Z0=>.inl rfl) fun hn=>iD (fun Z0=>.inl rfl) fun hf=>iD (fun hc=>absurd ((bO h).resolve_left fun g=>by rw [hc] at g;cases g) hf)
  fun Z0=>.inr ⟨_,_,rfl,rfl,Decidable.byContradiction fun g=>hn (by rw [(bne_iff_ne).mpr g];rfl),fun Z0 Z0 Z0 h=>yv h⟩
theorem O6 (h:Sq e=true):swapsWithSole [.Tuple ts k p] e line env=pure false/\Tr ts (swappedStores [.Tuple ts k p] e env):=
 (bO h).elim (fun h=>onTup_e h fun Z0 Z0 Z0 h=>⟨rfl,nR h⟩) fun h=>(bO h).elim (fun h=>onCal_e h fun Z0 Z0 Z0 Z0 Z0=>⟨rfl,.inl rfl⟩) fun h=>onName_e h fun Z0 Z0 Z0=>⟨rfl,.inl rfl⟩
def mX:aP->List Nat->List CV->aP
 |loc,x::xs,v::vs=>mX (cu loc x (.val v)) xs vs
 |loc,Z1,Z2=>loc
theorem lu {loc:aP} {x:Nat} {xs:List Nat} {v:CV} {vs:List CV}:mX loc (x::xs) (v::vs)=mX (cu loc x (.val v)) xs vs:=rfl
theorem sH {loc:aP} {vs:List CV}:mX loc [] vs=loc:=by cases vs<;>rfl
theorem r7 {loc:aP} {xs:List Nat}:mX loc xs []=loc:=by cases xs<;>rfl
theorem oQ:∀{xs:List Nat} {cvs:List CV} {loc:aP} {σ:al} {Q:aP->al->Prop},(∀x∈xs,∀k,lk loc x≠some (.cell k))->(fE loc σ xs cvs Q↔xs.length=cvs.length/\Q (mX loc xs cvs) σ):=by
 intro x0
 induction x0 with
 |nil=>
  intro y4
  cases y4 with
  |nil=>
   intro _ _ _ _
   exact ⟨fun h=>⟨rfl,h⟩,fun h=>h.2⟩
  |cons Z1 Z2=>
   intro _ _ _ _
   exact ⟨fun h=>h.elim,fun h=>by simp at h⟩
 |cons x xs ihh=>
  intro y4
  cases y4 with
  |nil=>
   intro _ _ _ _
   exact ⟨fun h=>h.elim,fun h=>by simp at h⟩
  |cons v vs=>
   intro loc σ Q hn
   have ih:=ihh (cvs:=vs) (loc:=cu loc x (.val v)) (σ:=σ) (Q:=Q) fun y hy k=>by
    rw [ah]
    split
    ·simp
    ·exact hn y (.tail _ hy) k
   show lp loc σ x v (fun loc σ=>fE loc σ xs vs Q)↔_
   have e:lp loc σ x v (fun loc σ=>fE loc σ xs vs Q)↔fE (cu loc x (.val v)) σ xs vs Q:=by
    unfold lp
    cases hl:lk loc x with
    |none=>rfl
    |some lv=>
     cases lv with
     |val c=>rfl
     |cell k=>exact absurd hl (hn x (.head _) k)
   rw [e,ih]
   simp [lu,sH,r7]
theorem i0:∀{xs:List Nat} {vs:List CV} {loc:aP} {y:Nat},y∉xs->lk (mX loc xs vs) y=lk loc y:=by
 intro x0
 induction x0 with
 |nil=>
  intro _ _ _ _
  simp [lu,sH,r7]
 |cons x xs ihh=>
  intro y4
  cases y4 with
  |nil=>
   intro _ _ _
   simp [lu,sH,r7]
  |cons v vs=>
   intro loc y h
   simp only [Dv,not_or] at h
   have h:=h
   rw [lu,ihh h.2,ah,if_neg (fun e=>h.1 e.symm)]
theorem lG:∀{xs:List Nat} {vs:List CV} {loc:aP} {y:Nat} {v:CV},xs.Nodup->(y,v)∈xs.zip vs->lk (mX loc xs vs) y=some (.val v):=by
 intro x0
 induction x0 with
 |nil=>
  intro _ _ _ _ _ h
  simp at h
 |cons x xs ihh=>
  intro y4
  cases y4 with
  |nil=>
   intro _ _ _ _ h
   simp at h
  |cons w vs=>
   intro loc y v nd h
   rw [D6] at nd
   rw [Io] at h
   rcases Dv.mp h with e|h
   ·cases e
    rw [lu,i0 nd.1,ah,if_pos rfl]
   ·rw [lu]
    exact ihh nd.2 h
theorem sM:∀{l:List Nat},gE l=true->l.Nodup:=by
 intro x0
 induction x0 with
 |nil=>
  intro _
  exact E9
 |cons x l ihh=>
  intro h
  simp only [yn,zM,Dl,Ec] at h
  have h:=h
  rw [D6]
  refine ⟨fun hm=>?_,ihh h.2⟩
  have:∀{l:List Nat},x∈l->gS x l=true:=by
   intro l
   induction l with
   |nil=>intro h;cases h
   |cons y r ih=>
    intro h
    simp only [kS,kK]
    rw [cG]
    rcases Dv.mp h with rfl|h
    ·simp
    ·rw [ih h];cases decide (y=x)<;>rfl
  rw [this hm] at h
  exact absurd h.1 (by simp)
theorem zd (nd:xs.Nodup) (hl:xs.length=vs.length) (y:Nat):lk (mX loc xs.reverse vs.reverse) y=lk (mX loc xs vs) y:=by
 by_cases h:y∈xs
 ·obtain ⟨i,hi,e⟩:=KM h
  have hm:(y,vs[i]'(by lia))∈xs.zip vs:=by
   rw [List.mem_iff_getElem]
   refine ⟨i,by simp;lia,?_⟩
   simp [e]
  rw [lG nd hm]
  refine lG ((List.reverse_perm xs).nodup_iff.mpr nd) ?_
  rw [show xs.reverse.zip vs.reverse=(xs.zip vs).reverse from (List.reverse_zipWith hl).symm]
  exact Hc.mpr hm
 ·rw [i0 h,i0 (by simpa using h)]
section
variable {C:Cx} {n:Nat} {sc:Ef} {S:bT} {hid hid' own own':List (Du×Obj)} {m mD:Str->Option Dk}
theorem FH.like (F:FH C n sc S hid ρ loc σ h) (e:∀x,lk loc' x=lk loc x):FH C n sc S hid ρ loc' σ h:=
 ⟨F.1,F.2,fun x hx=>by rw [e];exact F.3 x hx,let ⟨m,H⟩:=F.4;⟨m,H.1,H.2,H.3,H.4,fun x lv hl=>H.5 x lv (by rw [←e];exact hl),H.6⟩⟩
theorem zv (PT:ph C n S sc P):∀{xs:List Nat} {cvs:List CV} {vs:List Dk} {loc:aP} {σ:al} {s:Dm} {Q:aP->al->Prop} {Qm:Unit->Dm->Prop},(∀x∈xs,dN sc (C.nS x) .local=true)->P ρ loc σ s.heap->dc ρ cvs vs->fE loc σ xs cvs Q->
  (∀loc' σ' h' tk,Q loc' σ'->P ρ loc' σ' h'->Qm () (aQ s h' tk))->wpAny (model C.prog C.w) S.A (assignInOrder (xs.map fun x=>bindName S.env (C.nS x)) vs) Qm E s:=by
 intro x0
 induction x0 with
 |nil=>
  intro y4
  cases y4 with
  |nil=>
   intro vs loc σ s Q Qm h hp hv q K
   exact Dx (K _ _ _ s.toks q hp)
  |cons Z1 Z2=>
   intro _ _ _ _ _ _ _ _ _ q _
   exact q.elim
 |cons x xs ihh=>
  intro y4
  cases y4 with
  |nil=>
   intro _ _ _ _ _ _ _ _ _ q _
   exact q.elim
  |cons c cvs=>
   intro y6
   cases y6 with
   |nil=>
    intro loc σ s Q Qm h hp hv q K
    exact hv.elim
   |cons v vs=>
    intro loc σ s Q Qm h hp hv q K
    rw [DB]
    exact Dj (Gr (wpAny_bindName (PT.store hp hv.1 (.inl (h x (.head _))) q fun loc' σ' h' tk q hp'=>ihh (s:=aQ s h' tk) (fun y hy=>h y (.tail _ hy)) hp' hv.2 q fun loc'' σ'' h'' tk' q hp''=>K _ _ _ _ q hp'')))
theorem xS (hf:∀id p b,f (.Name id p)=some b->id=b):∀{xs:List Nat} {ts:List Expr},bA (xf C.nm sc) xs ts=true->(ts.filterMap f).length=ts.length->ts.filterMap f=xs.map C.nS:=by
 intro xs
 induction xs with
 |nil=>intro ts h _;rw [bG h];rfl
 |cons x xs ih=>
  intro ts h hl
  refine cV (az h) fun a r e h1 h2=>?_
  rw [e] at hl ⊢
  clear h e
  revert hl
  refine onName_e h1 fun id p h1 hl=>?_
  cases hfa:f (.Name id p) with
  |none=>
   rw [List.filterMap_cons_none hfa] at hl
   exact absurd hl (D9 (Ft (List.length_filterMap_le _ _)))
  |some b=>
   rw [List.filterMap_cons_some hfa] at hl ⊢
   rw [ih h2 (Nat.succ.inj hl),(hf _ _ _ hfa).symm.trans (bN (bL h1))]
   rfl
theorem yu:∀{xs:List Nat} {ts:List Expr},bA (xf C.nm sc) xs ts=true->∀x∈xs,dN sc (C.nS x) .local=true:=by
 intro xs
 induction xs with
 |nil=>intro ts h x hx;cases hx
 |cons x xs ih=>
  intro ts h y hy
  refine cV (az h) fun a r e h1 h2=>?_
  rcases Dv.mp hy with rfl|hy
  ·exact onName_e h1 fun id p h1=>by rw [(show C.nS y=id from (bN (bL h1)).symm)];exact bR h1
  ·exact ih h2 y hy
theorem MU (G:TabD C) (he:SE C n ih) (hnd:gE xs=true) (htg:bA (xf C.nm sc) xs ts=true)
  (hv:Sq e'=true) (hc:aN C.nm C.gk k sc e e'=true) (F:FH C n sc S hid ρ loc σ s.heap)
  (q:ih.e e loc σ fun v σ=>hK (da σ v) fun l=>fE loc σ xs l fun loc σ=>Q .next loc σ) (K:cr C sc S hid ρ s Q Qm):aq (model C.prog C.w) S.A (exec (.Assign [.Tuple ts kk p0] e' p) S.env) Qm E s:=by
 have PT:=FH.point G.toTabC n S sc hid
 have hl:=i4 htg
 have hk:=yu htg
 refine aD (O6 (ts:=ts) (env:=S.env) (k:=kk) (p:=p0) (line:=p.line) hv) fun hs hsw=>?_
 have val:∀{Qv:Dk->Dm->Prop},(∀T vs l σ1 ρ1 h1 tk1,fE loc σ1 xs l (fun loc σ=>Q .next loc σ)->dc ρ1 l vs->IsTup h1 T vs.toArray->ρ<+:ρ1->FH C n sc S hid ρ1 loc σ1 h1->Qv (.ref T) (aQ s h1 tk1))->aq (model C.prog C.w) S.A (eval e' S.env) Qv E s:=by
  intro Qv hQ
  refine F.e he hc q fun cv σ1 ρ1 v h1 tk1 q hv p1 F1=>gg q fun l e1 q2=>ay (uQ e1) fun k ek e2=>?_
  clear q
  subst ek
  refine aG F1.4 fun m H=>ay hv fun T eT zz3=>?_
  clear hv
  subst zz3
  refine ay (H.6.get' e2 eT) fun o1 zz6 g1=>?_
  obtain ⟨vs,k1,rfl,r1⟩:=zz6
  exact hQ T vs l σ1 ρ1 h1 tk1 q2 r1 ⟨_,g1,rfl,k1,rfl⟩ p1 F1
 have straight:swappedStores [.Tuple ts kk p0] e' S.env=pure none->aq (model C.prog C.w) S.A (exec (.Assign [.Tuple ts kk p0] e' p) S.env) Qm E s:=by
  intro hw
  refine dv (val fun T vs l σ1 ρ1 h1 tk1 q hvs hT p1 F1=>?_) hs hw
  show aq _ _ (assign (.Tuple ts kk p0) S.env (.ref T)) _ _ _
  exact nn (jW (s:=aQ s h1 tk1) PT htg F1 hT hvs q fun loc' σ' h' tk q F'=>K.next q p1 (F'.le (Ep _)))
 rcases hsw with hw|⟨f,names,hw,hn,hlen,hf⟩
 ·exact straight hw
 ·have en:names=xs.map C.nS:=hn.trans (xS hf htg (hn▸hlen))
  rw [J7]
  refine aa (ak ?_)
  rw [hs]
  refine aa (ad ?_)
  rw [if_neg (by decide)]
  refine aa (val fun T vs l σ1 ρ1 h1 tk1 q hvs hT p1 F1=>?_)
  rw [hw]
  refine aa (ad (aa (nn (Gg ?_))))
  have hlv:=hvs.len
  have hxl:=rI q
  rw [(by rw [en,Do,DJ];lia:names.length=vs.toArray.size)]
  refine aa (nn (PyProof.Rows.unpackItems_tuple F1.ok.7 hT fun h2 k2=>?_))
  have F2:FH C n sc S hid ρ1 loc σ1 h2:=PT.keeps F1 fun b o e=>k2 b o (D9 (DT e)) e
  refine aG F2.4 fun m2 H2=>?_
  have nocell:∀x∈xs,∀c,lk loc x≠some (.cell c):=by
   intro x hx c e
   have hkl:=nG (s:=aQ s h2 tk1) H2 (hk x hx) (by simp)
   have:=(H2.5 x _ e (by rw [hkl];rfl)).1
   rw [hkl] at this
   rcases this with h|h<;>cases h
  have q1:=((oQ nocell).mp q).2
  have nd:=sM hnd
  have em:names.reverse.map (fun n=>bindName S.env n)=xs.reverse.map fun x=>bindName S.env (C.nS x):=by
   rw [en,←He,EJ];rfl
  rw [em]
  refine aa (nn (zv (s:=aQ s h2 tk1) PT (fun x hx=>hk x (by simpa using hx)) F2 (dc.reverse hvs) (show fE loc σ1 xs.reverse l.reverse fun loc' σ'=>loc'=mX loc xs.reverse l.reverse/\σ'=σ1 from (oQ (fun x hx=>nocell x (by simpa using hx))).mpr ⟨by simp [hxl],rfl,rfl⟩) fun loc' σ' h' tk q3 F'=>ad (aD q3 fun zz9 zz10=>?_)))
  clear q3
  subst zz9 zz10
  exact K.next q1 p1 ((F'.like (fun y=>(zd nd hxl y).symm)).le (Ep _))
end
structure TabE (C:Cx):Prop extends TabD C where
 en:nsIn C.K mainGlobals (aV [101,110,117,109,101,114,97,116,101])=some none/\bootBuiltins (aV [101,110,117,109,101,114,97,116,101])=some (.type "enumerate")/\aV [101,110,117,109,101,114,97,116,101]≠"__name__"
 zp:nsIn C.K mainGlobals (aV [122,105,112])=some none/\bootBuiltins (aV [122,105,112])=some (.type "zip")/\aV [122,105,112]≠"__name__"
section
variable {C:Cx} {n:Nat} {sc:Ef} {S:bT} {hid hid' own own':List (Du×Obj)} {m mD:Str->Option Dk}
theorem FH.hids (F:FH C n sc S hid ρ loc σ h) (H:aZ C n sc S hid m m ρ loc σ h) (R:aX C S hid' m ρ σ h'):FH C n sc S hid' ρ loc σ h':=
 ⟨F.1,F.2,F.3,m,H.1,H.2,H.3,fun h Fh Z0=>by rw [F.2];exact Fh.ns,H.5,R⟩
theorem aX.hides (R:aX C S hid m ρ σ h) (k:∀b o,h.get? b=some o->h'.get? b=some o) (g:∀p∈own,h'.get? p.1=some p.2) (e:∀p∈own,h.get? p.1=none) (nd':(own.map (·.1)).Nodup):aX C S (own++hid) m ρ σ h':=by
 refine aX.e R fun os F N nd eq O=>?_
 have hL:∃o,h.get? S.L=some o:=by obtain ⟨o,_,_,ho,_⟩:=F.ns;exact ⟨o,ho⟩
 refine ⟨F.keeps k,os,fun p hp=>?_,?_,eq,O⟩
 ·rw [Di] at hp
  rcases DL.mp hp with q|q
  ·refine ⟨g p q,fun h=>?_,?_⟩
   ·refine aG hL fun o ho=>?_
    rw [←h,e p q] at ho;cases ho
   ·cases z:S.h₀.get? p.1 with
    |none=>rfl
    |some o=>have:=F.keep _ _ z;rw [e p q] at this;cases this
  ·exact ⟨k _ _ (N p q).1,(N p q).2⟩
 ·rw [Di,Dw,D3]
  refine ⟨nd',nd,fun a ha b hb eab=>?_⟩
  refine ay (DV.mp ha) fun p hp zz1=>?_
  subst zz1
  refine ay (DV.mp hb) fun p' hp' zz4=>?_
  subst zz4
  have:=(N p' hp').1
  rw [←eab,e p hp] at this;cases this
theorem oA (h:iR C.nm sc tg true tgE=true):∃es k p,tgE=GS es k p/\bA (xf C.nm sc) tg es=true:=by
 exact onTup_e h fun es k p h=>⟨es,k,p,rfl,h⟩
inductive CL (C:Cx) (n:Nat) (sc:Ef) (S:bT) (hid:List (Du×Obj)) (I:Du) (s:Dm) (ρ:List Du) (N:Nat) (F:Nat->It->aP->al->Prop) (j:Nat) (s':Dm):Prop where
 |mk (it:It) (own:List (Du×Obj)) (ρ':List Du) (loc:aP) (σ:al) (h':DI) (tk:Nat) (e:s'=(aQ s h' tk)) (IR:ee C ρ' it I own) (F0:FH C n sc S (own++hid) ρ' loc σ h') (p:ρ<+:ρ') (hj:j<=N) (q:F j it loc σ)
def fF (T:Tab) (tg:List Nat) (tp:Bool) (b:List CS) (Q:Fl->aP->al->Prop) (j:Nat) (it:It) (loc:aP) (σ:al):Prop:=(aj T j).f tg tp it b loc σ Q
set_option tactic.hygienic true in
theorem pP (G:TabE C) (B:gz C sl (N+1)) (c1:iR C.nm sc tg tp tgE=true) (c2:eD C.nm C.gk k sc b b'=true)
  (IR:ee C ρ it I own) (F:FH C (N+sl) sc S (own++hid) ρ loc σ s.heap) (q:(aj C.T N).f tg tp it b loc σ Q) (K:cr C sc S hid ρ s Q fun f s'=>R (.ok f) s'):
  bg (model C.prog C.w) S.A (.forLoop tgE (.ref I) b' [] S.env) R s:=by
 refine yV (CL C (N+sl) sc S hid I s ρ N (fF C.T tg tp b Q)) ?_ N
  ⟨it,own,ρ,loc,σ,s.heap,s.toks,rfl,IR,F,DM _,DQ _,q⟩
 rintro j s' ⟨it,own,ρ',loc,σ,h',tk,rfl,IR,F,p,hj,q⟩
 cases j with
 |zero=>exact q.elim
 |succ j=>
  have q:iO (aj C.T j) tg tp it b loc σ Q:=q
  refine aG F.4 fun m H=>?_
  have hh:=H.1.7
  have body:∀{own':List (Du×Obj)} {it':It} {loc2:aP} {σ2:al} {h2:DI} {tk2:Nat} {E2:Dk->Dm->Prop},ee C ρ' it' I own'->FH C (N+sl) sc S (own'++hid) ρ' loc2 σ2 h2->
    ((aj C.T j).b b loc2 σ2 fun fl loc σ=>match fl with|.next=>(aj C.T j).f tg tp it' b loc σ Q|.ret v=>Q (.ret v) loc σ)->
    aq (model C.prog C.w) S.A (execs b' S.env) (fun f s₃=>match f with
      |.next|.cont=>∃m',m'<j+1/\CL C (N+sl) sc S hid I s ρ N (fF C.T tg tp b Q) m' s₃
      |.brk=>R (.ok .next) s₃
      |.ret v=>R (.ok (.ret v)) s₃) E2 (aQ s h2 tk2):=by
   intro own' it' loc2 σ2 h2 tk2 E2 IR' F2 q
   refine (B.2 j (by lia)) _ _ _ _ c2 _ _ _ _ _ (aQ s h2 tk2) _ _ _ (F2.le (by lia)) q fun fl2 loc3 σ3 ρ3 h3 tk3 q p3 F3=>?_
   cases fl2 with
   |next=>exact ⟨j,by lia,it',own',ρ3,loc3,σ3,h3,tk3,rfl,IR'.mono p3,F3.up F.ok,p.trans p3,by lia,q⟩
   |ret cv=>
    intro v hv
    exact aG F3.4 fun m3 H3=>K (.ret cv) _ _ _ _ _ q (p.trans p3) (F3.hids H3 (aX.hidTurn (own:=own') (own':=[]) H3.6 (fun b o Z0 e=>e) (fun p hp=>by cases hp) (.inr rfl))) v hv
  unfold iO at q
  split at q
  ·rename_i e1
   exact nn (oJ (s:=aQ s h' tk) hh IR H.6 e1 fun h2 tk2 R2=>K.next q p ((F.hids H R2).le (Ep _)))
  ·rename_i cv it' e1
   exact nn (oh (s:=aQ s h' tk) hh IR H.6 e1 fun v own' h2 tk2 hv IR' R2 go=>nn (go tgE (uP c1 q) _ _ (nn (uF (s:=aQ s h2 tk2) (FH.point G.toTabC (N+sl) S sc (own'++hid)) c1 (F.hids H R2) hv q fun loc2 σ2 h3 tk3 q F3=>body IR' F3 q))))
  ·rename_i ca cb it' e1
   cases tp with
   |false=>exact q.elim
   |true=>
    have tgs:∃es k p,tgE=GS es k p/\bA (xf C.nm sc) tg es=true:=by
     exact oA c1
    refine jo tgs fun es k2 p2 zz7 htg=>?_
    clear tgs
    subst zz7
    exact nn (oq (s:=aQ s h' tk) hh IR H.6 e1 fun T h1 tk1 go=>nn (go es k2 p2 _ _ fun va vb own' h2 hva hvb IR' R2 hT=>nn (jW (s:=aQ s h2 tk1) (FH.point G.toTabC (N+sl) S sc (own'++hid)) htg (F.hids H R2) (cvs:=[ca,cb]) (vs:=[va,vb]) ⟨_,hT,rfl,0,rfl⟩ ⟨hva,hvb,trivial⟩ q fun loc2 σ2 h3 tk3 q F3=>body IR' F3 q)))
  ·exact q.elim
theorem PQ (G:TabE C) {sl N:Nat} (B:gz C sl (N+1)) {Q:Fl->aP->al->Prop} {Qm:Kt->Dm->Prop} {tg:List Nat} {tp:Bool} {it:CE} {b:List CS} {b':List Ek} {tgE iD:Expr} {p:Pos} (c1:iR C.nm sc tg tp tgE=true) (c0:aN C.nm C.gk k sc it iD=true) (c2:eD C.nm C.gk k sc b b'=true) (c3:fW iD=true)
  (F:FH C (N+sl) sc S hid ρ loc σ s.heap) (q:(aj C.T N).e it loc σ fun v σ=>hK (cI σ v) fun i=>(aj C.T N).f tg tp i b loc σ Q) (K:cr C sc S hid ρ s Q Qm):aq (model C.prog C.w) S.A (exec (.For tgE iD b' [] p) S.env) Qm E s:=by
 refine aD (B.1 N (En _)) fun he Z0=>C2 ?_ (fN c3 _)
 refine F.e he c0 q fun cv σ1 ρ1 v h1 tk1 q hv p1 F1=>gg q fun i ei q=>aG F1.4 fun m H=>nn (uC (s:=aQ s h1 tk1) H hv ei fun I own h2 tk2 IR R2=>pP (s:=aQ s h2 tk2) G B c1 c2 IR (F1.hids H R2) q fun fl loc' σ' ρ' h' tk q p F'=>?_)
 have:=K fl loc' σ' ρ' h' tk q (p1.trans p) F'
 cases fl<;>exact this
theorem Mi (G:TabE C) {sl N:Nat} (B:gz C sl (N+1)) {Q:Fl->aP->al->Prop} {Qm:Kt->Dm->Prop} {tg:List Nat} {i j:CE} {b:List CS} {b':List Ek} {tgE i' j':Expr} {id:Str} {p p0 p1:Pos} (c1:iR C.nm sc tg true tgE=true) (cz:dC [122,105,112] id=true) (ck:dN sc id .globalImplicit=true) (ci:aN C.nm C.gk k sc i i'=true) (cj:aN C.nm C.gk k sc j j'=true) (c2:eD C.nm C.gk k sc b b'=true)
  (F:FH C (N+sl) sc S hid ρ loc σ s.heap) (q:(aj C.T N).e i loc σ fun i σ=>(aj C.T N).e j loc σ fun j σ=>qo i fun i=>qo j fun j=>nx σ i fun Z0=>nx σ j fun Z0=>(aj C.T N).f tg true (.zip i j 0) b loc σ Q) (K:cr C sc S hid ρ s Q Qm):aq (model C.prog C.w) S.A (exec (.For tgE (.Call (.Name id p0) [i',j'] [] p1) b' [] p) S.env) Qm E s:=by
 refine aD (B.1 N (En _)) fun he Z0=>C2 ?_ (fN rfl _)
 refine aG F.4 fun m0 H0=>?_
 have e1:id=aV [122,105,112]:=bN cz
 subst e1
 refine eU G.zp fun z1 z2 z3=>?_
 refine eu he (.ty "zip") (l:=[i,j]) (es:=[i',j']) (Q:=fun vs σ=>zV vs fun i j=>qo i fun i=>qo j fun j=>nx σ i fun Z0=>nx σ j fun Z0=>(aj C.T N).f tg true (.zip i j 0) b loc σ Q) (by show (aN C.nm C.gk k sc i i'&&(aN C.nm C.gk k sc j j'&&true))=true;rw [ci,cj];rfl) ck (by decide) H0 (H0.b z1 z2 z3) q fun cvs σ1 ρ1 vs h1 tk1 q hv hn pp R1=>?_
 have F1:FH C (N+sl) sc S hid ρ1 loc σ1 h1:=F.re H0 pp R1
 dsimp only at q ⊢
 refine ar2_v q hv fun ci v1 cj v2 hi hj q=>asO_v q hi fun ia a1 ea1 q=>asO_v q hj fun ib a2 ea2 q=>iW R1 ea1 q fun l1 us k1 e1 g1 r1 q=>iW R1 ea2 q fun l2 ws k2 e2 g2 r2 q=>nn (call_zip_2 (s:=aQ s h1 tk1) (xs:=us.toArray) (ys:=ws.toArray) ⟨_,g1,rfl,k1,rfl⟩ ⟨_,g2,rfl,k2,rfl⟩ fun h2 y1 y2 y3 y4 y5 y6 y7=>nn (wpAny_pyIter_zip y1 (iH y4 fun x1 w1 w2 w3=>iH y5 fun x2 u1 u2 u3=>?_)))
 have none_at:∀j,h1.objs.size<=j->h1.get? j=none:=fun j hj=>by
  cases z:h1.get? j with
  |none=>rfl
  |some o=>exact absurd (DT z) (GD.mpr hj)
 have R2:=R1.hides (own:=[(h1.objs.size+4,{cls:=.type "zip",dict:=none,data:=.fields #[.none,.bool false,.bool false,.ref (h1.objs.size+2),.ref (h1.objs.size+3)],slots:=#[]}),(h1.objs.size+2,{cls:=.type "tuple",data:=.seq #[.ref h1.objs.size,.ref (h1.objs.size+1)]}),(h1.objs.size+3,{cls:=.type "tuple",data:=.seq #[.none,.none]}),(h1.objs.size,x1),(h1.objs.size+1,x2)])
  y7 (fun p hp=>by
   simp only [Dv,Eb,or_false] at hp
   rcases hp with rfl|rfl|rfl|rfl|rfl
   ·exact y1
   ·exact y2
   ·exact y3
   ·exact w1
   ·exact u1)
  (fun p hp=>by
   simp only [Dv,Eb,or_false] at hp
   rcases hp with rfl|rfl|rfl|rfl|rfl<;>exact none_at _ (by simp only;first|exact DQ _|exact Ex _ _))
  (by
    simp only [DB,FL,D6,Dv,Eb,or_false,not_or]
    exact (fun n=>⟨by lia,by lia,by lia,by lia,id,E9⟩) h1.objs.size)
 refine pP (s:=aQ s h2 tk1) G B c1 c2 (it:=.zip ia ib 0) ⟨_,_,_,_,a1,a2,_,_,x1,x2,ea1,ea2,rfl,w2,w3,u2,u3⟩ (F1.hids (H0.go pp R1) R2) q fun fl loc' σ' ρ' h' tk q p F'=>?_
 have:=K fl loc' σ' ρ' h' tk q (pp.trans p) F'
 cases fl<;>exact this
theorem nC (G:TabE C) (he:SE C n ih) {i:CE} {i':Expr} {id:Str} {p0 p1:Pos} {Qm:Dk->Dm->Prop} (cz:dC [101,110,117,109,101,114,97,116,101] id=true) (ck:dN sc id .globalImplicit=true) (ci:aN C.nm C.gk k sc i i'=true) {P:List Int->al->Prop}
  (F:FH C n sc S hid ρ loc σ s.heap) (q:ih.e i loc σ fun v σ=>vZ v fun x=>P x σ)
  (K:∀x σ1 ρ1 I own h' tk,P x σ1->ρ<+:ρ1->ee C ρ1 (.enm (x.map .int) 0) I own->FH C n sc S (own++hid) ρ1 loc σ1 h'->Qm (.ref I) (aQ s h' tk)):
  aq (model C.prog C.w) S.A (eval (.Call (.Name id p0) [i'] [] p1) S.env) (fun x s₁=>aq (model C.prog C.w) S.A (pyIter x) Qm E s₁) E s:=by
 refine aG F.4 fun m0 H0=>?_
 have e1:id=aV [101,110,117,109,101,114,97,116,101]:=bN cz
 subst e1
 refine eU G.en fun z1 z2 z3=>?_
 refine eu he (.ty "enumerate") (l:=[i]) (es:=[i']) (Q:=fun vs σ=>nZ vs fun v=>vZ v fun x=>P x σ) (by show (aN C.nm C.gk k sc i i'&&true)=true;rw [ci];rfl) ck (by decide) H0 (H0.b z1 z2 z3) q fun cvs σ1 ρ1 vs h1 tk1 q hv hn pp R1=>?_
 have F1:FH C n sc S hid ρ1 loc σ1 h1:=F.re H0 pp R1
 dsimp only at q ⊢
 refine ar1_v q hv fun cv v hv q=>asB_v q hv fun x a t hx q=>nn (sS (s:=aQ s h1 tk1) fun h2 y1 y2 y3=>nn (wpAny_pyIter_enum y1 ?_))
 have none_at:∀j,h1.objs.size<=j->h1.get? j=none:=fun j hj=>by
  cases z:h1.get? j with
  |none=>rfl
  |some o=>exact absurd (DT z) (GD.mpr hj)
 have R2:=R1.hides (own:=[(h1.objs.size+1,{cls:=.type "enumerate",dict:=none,data:=.fields #[.none,.bool false,.ref h1.objs.size,rawInt 0,.none,.none],slots:=#[]}),(h1.objs.size,{cls:=.type "bytes_iterator",data:=.fields #[.bytes a t,.int 0 0]})])
  y3 (fun p hp=>by
   simp only [Dv,Eb,or_false] at hp
   rcases hp with rfl|rfl
   ·exact y1
   ·exact y2)
  (fun p hp=>by
   simp only [Dv,Eb,or_false] at hp
   rcases hp with rfl|rfl<;>exact none_at _ (by simp only;first|exact DQ _|exact Ex _ _))
  (by simp)
 exact K x σ1 ρ1 _ _ h2 tk1 q pp ⟨h1.objs.size,a,t,.none,_,rfl,rfl,rfl,by rw [hx];rfl⟩ (F1.hids (H0.go pp R1) R2)
theorem Np (G:TabE C) {sl N:Nat} (B:gz C sl (N+1)) {Q:Fl->aP->al->Prop} {Qm:Kt->Dm->Prop} {tg:List Nat} {i:CE} {b:List CS} {b':List Ek} {tgE i':Expr} {id:Str} {p p0 p1:Pos} (c1:iR C.nm sc tg true tgE=true) (cz:dC [101,110,117,109,101,114,97,116,101] id=true) (ck:dN sc id .globalImplicit=true) (ci:aN C.nm C.gk k sc i i'=true) (c2:eD C.nm C.gk k sc b b'=true)
  (F:FH C (N+sl) sc S hid ρ loc σ s.heap) (q:(aj C.T N).e i loc σ fun v σ=>vZ v fun x=>(aj C.T N).f tg true (.enm (x.map .int) 0) b loc σ Q) (K:cr C sc S hid ρ s Q Qm):aq (model C.prog C.w) S.A (exec (.For tgE (.Call (.Name id p0) [i'] [] p1) b' [] p) S.env) Qm E s:=by
 refine aD (B.1 N (En _)) fun he Z0=>C2 (nC G he cz ck ci (P:=fun x σ=>(aj C.T N).f tg true (.enm (x.map .int) 0) b loc σ Q) F q fun x σ1 ρ1 I own h2 tk1 q pp IR F1=>?_) (fN rfl _)
 refine pP (s:=aQ s h2 tk1) G B c1 c2 IR F1 q fun fl loc' σ' ρ' h' tk q p F'=>?_
 have:=K fl loc' σ' ρ' h' tk q (pp.trans p) F'
 cases fl<;>exact this
end
theorem O2
  (h:aq (model prog w) A (execs body env) (fun f s₁=>match f with|.next=>aq (model prog w) A (execs orelse env) Q E s₁|f=>Q f s₁)
   (fun e s₁=>aq (model prog w) A (noteFrame e env) (fun Z0 s₂=>aq (model prog w) A (setFlight e none) (fun Z0 s₃=>aq (model prog w) A (handleBy e env (h₀::hs)) Q E s₃) E s₂) E s₁) s):
  aq (model prog w) A (exec (.Try body (h₀::hs) orelse [] pos) env) Q E s:=by
 rw [arm_exec_Try]
 refine aa (ak (aa (m:=(execs body env).attempt) (lM (aC h (fun f s₁ h₁=>?_) fun e s₁ h₁=>?_))))
 ·cases f with
  |next=>exact h₁
  |_=>exact ad h₁
 ·exact aa (m:=noteFrame e env) (aC h₁ (fun Z0 Z0 h₂=>aa (m:=setFlight e none) h₂) fun Z0 Z0 x=>x)
theorem P5 (hb:SB C n ih) (hc:eD C.nm C.gk k sc b b'=true) (F:FH C n sc S hid ρ loc σ s.heap)
  (q:ih.b b loc σ Q) (K:cr C sc S hid ρ s Q Qm):aq (model C.prog C.w) S.A (exec (.Try b' (h₀::hs) [] [] p) S.env) Qm E s:=by
 refine O2 (hb _ _ _ _ hc _ _ _ _ _ _ _ _ _ F q fun fl loc' σ' ρ' h' tk q p F'=>?_)
 cases fl with
 |next=>exact fZ (K.next q p F')
 |ret cv=>exact fun v hv=>K (.ret cv) _ _ _ _ _ q p F' v hv
theorem fS (G:TabE C) (ct:fu C sl) {N:Nat} (B:gz C sl (N+1)) {c:CS} {st:Ek} {Q:Fl->aP->al->Prop} {Qm:Kt->Dm->Prop} (hc:iF C.nm C.gk k sc c st=true) (F:FH C (N+1+sl) sc S hid ρ loc σ s.heap)
  (q:cN C.T (aj C.T N) c loc σ Q) (K:cr C sc S hid ρ s Q Qm):aq (model C.prog C.w) S.A (exec st S.env) Qm E s:=by
 cases k with
 |zero=>exact absurd hc Dq
 |succ k=>
 refine aD (B.1 N (En _)) fun he ht=>?_
 have hb:=B.2 N (En _)
 have Fl:FH C (N+sl) sc S hid ρ loc σ s.heap:=F.le (by lia)
 cases c with
 |ret o=>
  refine onRet_e hc fun o' p hc=>?_
  cases o with
  |none=>exact isN_e hc (Db Fl q K)
  |some c=>exact onO_e hc fun e hc=>Px he hc Fl q K
 |xpr=>exact onXpr_e hc fun Z0 Z0 hc=>Qa he (bL hc) (bR hc) Fl q K
 |asg=>exact onAsg_e hc fun Z0 v p hc=>onName_e hc fun Z0 Z0 hc=>Pv G.toTabD B.1 (bL (bL hc)) (bR (bL hc)) (bR hc) Fl q K
 |asgT=>exact onAsg_e hc fun Z0 v p hc=>onTup_e hc fun Z0 Z0 Z0 hc=>MU G.toTabD he (bL (bL (bL hc))) (bR (bL (bL hc))) (bR hc) (bR (bL hc)) Fl q K
 |asgA=>exact onAsg_e hc fun Z0 v p hc=>onAtt_e hc fun Z0 Z0 Z0 hc=>L5 G.toTabD he (bL (bL (bL hc))) (bR (bL hc)) (bR hc) Fl q K
 |asgS=>exact onAsg_e hc fun Z0 v p hc=>onSub_e hc fun Z0 Z0 Z0 hc=>NP he (bL (bL (bL hc))) (bR (bL (bL hc))) (bR (bL hc)) Fl q K
 |asgL=>exact onAsg_e hc fun Z0 v p hc=>onSub_e hc fun u Z0 p1 hc=>onSlc_e hc fun a b c p2 hc=>
         isN_e (bR (bL hc)) (onO_e (bR (bL (bL (bL hc)))) fun a ha=>onO_e (bR (bL (bL hc))) fun b hb=>M0 G.toTabD he (bL (bL (bL (bL hc)))) ha hb (bR hc) Fl q K)
 |ite=>exact onIf_e hc fun Z0 Z0 Z0 Z0 hc=>P0 ht hb (bL (bL hc)) (bR (bL hc)) (bR hc) Fl q K
 |whl=>exact onWhl_e hc fun Z0 Z0 Z0 hc=>Pq B (bL hc) (bR hc) Fl q K
 |«for»=>exact onFor_e hc fun Z0 Z0 Z0 Z0 hc=>PQ G B (bL (bL (bL hc))) (bR (bL (bL hc))) (bR (bL hc)) (bR hc) Fl q K
 |forz=>exact onFor_e hc fun t Z0 b p hc=>onCalN_e hc fun x p0 l p1 hc=>on2_e hc fun Z0 Z0 hc=>
         Mi G B (bL (bL (bL (bL (bL (bL hc)))))) (bR (bL (bL (bL (bL hc))))) (bR (bL (bL (bL hc)))) (bR (bL (bL hc))) (bR (bL hc)) (bR hc) Fl q K
 |fore=>exact onFor_e hc fun t Z0 b p hc=>onCalN_e hc fun x p0 l p1 hc=>on1_e hc fun Z0 hc=>
         Np G B (bL (bL (bL (bL (bL hc))))) (bR (bL (bL (bL hc)))) (bR (bL (bL hc))) (bR (bL hc)) (bR hc) Fl q K
 |tri=>
  refine onTry_e hc fun b l p hc=>?_
  cases l with
  |nil=>exact absurd (bL hc) Dq
  |cons h0 hs=>exact P5 hb (bR hc) Fl q K
 |bad=>exact Ij q
theorem yU (G:TabE C) (ct:fu C sl) (B:gz C sl (N+1)):SB C (N+1+sl) (aj C.T (N+1)):=by
 intro k sc l b hc S hid ρ loc σ s Q Qm E F q K
 rw [ms] at q
 have q:lD C.T (aj C.T N) l loc σ Q:=q
 have main:∀(l:List CS) (b:List Ek) (ρ:List Du) (loc:aP) (σ:al) (s:Dm) (Qm:Kt->Dm->Prop),eD C.nm C.gk k sc l b=true->FH C (N+1+sl) sc S hid ρ loc σ s.heap->lD C.T (aj C.T N) l loc σ Q->cr C sc S hid ρ s Q Qm->aq (model C.prog C.w) S.A (execs b S.env) Qm E s:=by
  intro l
  induction l with
  |nil=>
   intro b ρ loc σ s Qm hc F q K
   rw [bG hc]
   exact fZ (K.next (h':=s.heap) (tk:=s.toks) q (DM _) (F.le (Ep _)))
  |cons c l ih=>
   intro b ρ loc σ s Qm hc F q K
   refine cV (az hc) fun st b' e h1 h2=>?_
   rw [e]
   refine bB (fS G ct B h1 F q fun fl loc' σ' ρ' h' tk q p F'=>?_)
   cases fl with
   |next=>exact ih _ _ _ _ (aQ s h' tk) _ h2 (F'.up F.ok) q (K.mono p _ _)
   |ret cv=>exact fun v hv=>K (.ret cv) _ _ _ _ _ q p F' v hv
 exact main l b ρ loc σ s Qm hc F q K
def BR (C:Cx) (ρ:List Du):aP->List (Str×Dk)->Prop
 |[],[]=>True
 |(x,.val c)::l,b::r=>b.1=C.nS x/\VR ρ c b.2/\BR C ρ l r
 |Z1,Z2=>False
inductive OA (C:Cx) (f:Nat) (fi:wN) (name qual:Str) (params:IM) (body:List Ek) (scope:Ef) (dV kV doc pm:Dk) (an:Option Du) (cdv ct oc:Dk) (od:Option Du) (osl:Array (Option Dk)):Prop where
 |mk (look:C.K.lookup (C.fa f)=some ⟨oc,od,.func (fnX name qual params body scope [] dV kV doc pm an cdv ct),osl⟩) (code:codeIn C.K cdv qual=true) (chk:∃kk,eD C.nm C.gk kk scope fi.body body=true) (kind:scope.kind=.function) (co:scope.isCoroutine=false) (gen:scope.isGenerator=false) (free:∀x,scope.names.lookup x≠some .free) (binds:∀as vs ρ loc (s:Dm),dc ρ as vs->ix fi as=some loc->C.K.In s.heap->∃binds,Li s (fnX name qual params body scope [] dV kV doc pm an cdv ct) ⟨vs,[]⟩ binds/\BR C ρ loc binds) (ps:∀x∈fi.ps,scope.names.lookup (C.nS x)=some .local\/scope.names.lookup (C.nS x)=some .cell) (psN:fi.ps.Nodup) (cells:(cellsFrom 0 scope.names []).map (·.1)=fi.cells.map C.nS) (cellsN:fi.cells.Nodup) (cellIs:∀x,scope.names.lookup x=some .cell->∃y∈fi.cells,C.nS y=x) (cellOf:∀y∈fi.cells,scope.names.lookup (C.nS y)=some .cell)
inductive P6 (C:Cx) (f:Nat) (fi:wN):Prop
 |mk (name qual:Str) (params:IM) (body:List Ek) (scope:Ef) (dV kV doc pm:Dk) (an:Option Du) (cdv ct oc:Dk) (od:Option Du) (osl:Array (Option Dk)) (h:OA C f fi name qual params body scope dV kV doc pm an cdv ct oc od osl)
structure iE (C:Cx):Prop extends TabE C where
 dsn:∀f fi,C.T.fn f=some fi->∀l,C.ds l
 fns:∀f fi,C.T.fn f=some fi->P6 C f fi
theorem nI:∀(names:List (Str×EW)) (n:Nat) (acc:List (Str×Du)),(∀p∈acc,p.2<n)->(acc.map (·.2)).Nodup->((cellsFrom n names acc).map (·.2)).Nodup/\∀p∈cellsFrom n names acc,p∈acc\/n<=p.2:=by
 intro x0
 induction x0 with
 |nil=>
  intro n acc h1 h2
  exact ⟨h2,fun p hp=>.inl hp⟩
 |cons w2 r ihh=>
  obtain ⟨name,kind⟩:=w2
  intro n acc h1 h2
  unfold cellsFrom
  split
  ·obtain ⟨a,b⟩:=ihh (n+1) ((name,n)::acc) (fun p hp=>by
    rcases Dv.mp hp with rfl|hp
    ·exact En n
    ·exact G5 (h1 p hp)) (by
    rw [DB,D6]
    refine ⟨fun hm=>?_,h2⟩
    refine ay (DV.mp hm) fun p hp e=>?_
    have:=h1 p hp
    simp only at e
    rw [e] at this
    exact EN _ this)
   refine ⟨a,fun p hp=>?_⟩
   rcases b p hp with h|h
   ·rcases Dv.mp h with rfl|h
    ·exact .inr (DQ _)
    ·exact .inl h
   ·exact .inr (Lr h)
  ·exact ihh n acc h1 h2
theorem CellsAre.addrs:∀{cf:List (Str×Du)} {cells:List (Du×Obj)},CellsAre cm cf cells->cells.map (·.1)=cf.map (·.2):=by
 intro cf cells h
 induction h with
 |nil=>rfl
 |cons Z1 Z2 ih=>rw [DB,DB,ih]
def gU (loc:aP) (x:Nat):Option CV:=match lk loc x with
 |some (.val v)=>some v
 |_=>none
def mq (loc:aP) (xs:List Nat):al:=xs.map fun x=>CO.cell (gU loc x)
theorem wA (h:x≠y):gU (cu loc x (.cell k)) y=gU loc y:=by
 unfold gU
 rw [ah,if_neg h]
set_option tactic.hygienic true in
theorem rO:∀{xs:List Nat} {loc:aP} {σ:al},xs.Nodup->(Mine.rD xs loc σ).2=σ++mq loc xs/\
  (∀y,y∉xs->lk (Mine.rD xs loc σ).1 y=lk loc y)/\∀i y,xs[i]?=some y->lk (Mine.rD xs loc σ).1 y=some (.cell (σ.length+i)):=by
 intro x0
 induction x0 with
 |nil=>
  intro loc σ _
  exact ⟨by simp [Mine.rD,mq],fun y Z0=>rfl,fun i y h=>by simp at h⟩
 |cons x xs ihh=>
  intro loc σ nd
  rw [D6] at nd
  have nd:=nd
  have step:Mine.rD (x::xs) loc σ=Mine.rD xs (cu loc x (.cell σ.length)) (σ++[.cell (gU loc x)]):=by
   unfold gU
   rw [Mine.rD]
   split
   ·rename_i v e;first|rfl|rw [e]
   ·rename_i e
    first
     |rfl
     |(split
       ·rename_i v e';exact absurd e' (e v)
       ·rfl)
  refine eU (ihh (loc:=cu loc x (.cell σ.length)) (σ:=σ++[.cell (gU loc x)]) nd.2) fun h1 h2 h3=>?_
  rw [step]
  refine ⟨?_,fun y hy=>?_,fun i y hi=>?_⟩
  ·rw [h1,Di]
   congr 1
   unfold mq
   rw [DB]
   show _::_=_::_
   congr 1
   refine GH fun y hy=>?_
   rw [wA (fun e=>nd.1 (by rw [e];exact hy))]
  ·have ne:x≠y:=fun e=>hy (by rw [e];exact .head _)
   rw [h2 y (fun h=>hy (.tail _ h)),ah,if_neg ne]
  ·cases i with
   |zero=>
    simp at hi
    subst hi
    rw [h2 _ nd.1,ah,if_pos rfl];rfl
   |succ i=>
    rw [h3 i y (by simpa using hi)]
    simp;lia
theorem BR.ind {P:aP->List (Str×Dk)->Prop} (h0:P [] []) (hs:∀{y:Nat} {d:CV} {l:aP} {n:Str} {v:Dk} {r:List (Str×Dk)},n=C.nS y->VR ρ d v->BR C ρ l r->P l r->P ((y,.val d)::l) ((n,v)::r)):∀{l:aP} {b:List (Str×Dk)},BR C ρ l b->P l b:=by
 intro l
 induction l with
 |nil=>
  intro b h
  cases b with
  |nil=>exact h0
  |cons=>exact h.elim
 |cons p l ih=>
  intro b h
  cases p with
  |mk y lv=>
   cases lv with
   |val d=>
    cases b with
    |nil=>exact h.elim
    |cons q r=>exact hs h.1 h.2.1 h.2.2 (ih h.2.2)
   |cell=>
    cases b<;>exact h.elim
theorem BR.keys:∀{l:aP} {b:List (Str×Dk)},BR C ρ l b->b.map (·.1)=l.map fun p=>C.nS p.1
 |[],[],Z1=>rfl
 |[],Z1::Z2,x=>x.elim
 |(_,.val _)::_,_::_,⟨h1,h2,h3⟩=>by rw [DB,DB,BR.keys h3,h1]
 |(_,.val _)::_,[],x=>x.elim
 |(_,.cell _)::_,[],x=>x.elim
 |(_,.cell _)::_,_::_,x=>x.elim
theorem vS:∀{b:List (Str×Dk)} {m0:Str->Option Dk},x∉b.map (·.1)->FF kO b m0 x=m0 x:=by
 intro x0
 induction x0 with
 |nil=>
  intro _ _
  exact rfl
 |cons w2 r ihh=>
  obtain ⟨n,v⟩:=w2
  intro m0 h
  simp only [DB,Dv,not_or] at h
  rw [ihh h.2]
  split
  ·simp [h.1]
  ·rfl
theorem oK:∀{b:List (Str×Dk)} {m0:Str->Option Dk},x∉b.map (·.1)->FW kO b m0 x=m0 x:=by
 intro x0
 induction x0 with
 |nil=>
  intro _ _
  exact rfl
 |cons w2 r ihh=>
  obtain ⟨n,v⟩:=w2
  intro m0 h
  simp only [DB,Dv,not_or] at h
  rw [ihh h.2]
  split
  ·rfl
  ·simp [h.1]
theorem BR.at (inj:∀x y,C.nm x=C.nm y->x=y):∀{l:aP} {b:List (Str×Dk)},BR C ρ l b->(l.map (·.1)).Nodup->∀{x:Nat} {c:CV},lk l x=some (.val c)->∃v,VR ρ c v/\
  (kO (C.nS x)=some .local->∀m0,FF kO b m0 (C.nS x)=some v)/\(kO (C.nS x)≠some .local->∀m0,FW kO b m0 (C.nS x)=some v):=by
 refine BR.ind (P:=fun l b=>(l.map (·.1)).Nodup->∀{x:Nat} {c:CV},lk l x=some (.val c)->∃v,VR ρ c v/\(kO (C.nS x)=some .local->∀m0,FF kO b m0 (C.nS x)=some v)/\(kO (C.nS x)≠some .local->∀m0,FW kO b m0 (C.nS x)=some v)) (fun Z0 Z0 Z0 e=>nomatch (e:none=some _)) fun {y d l n v r} h1 h2 h3 ih nd x c e=>?_
 ·rw [DB,D6] at nd
  have nd:=nd
  rw [jZ] at e
  rw [cG] at e
  by_cases q:y=x
  ·subst q
   simp at e
   cases e
   have hno:C.nS y∉r.map (·.1):=by
    rw [BR.keys h3]
    intro hm
    refine ay (DV.mp hm) fun p hp e=>?_
    exact nd.1 (by rw [←(ig inj e)];exact DE (f:=(·.1)) hp)
   refine ⟨v,h2,fun hk m0=>?_,fun hk m0=>?_⟩
   ·unfold FF
    rw [h1,if_pos hk,vS hno]
    simp
   ·unfold FW
    rw [h1,if_neg hk,oK hno]
    simp
  ·simp [q] at e
   obtain ⟨w,w1,w2,w3⟩:=ih nd.2 e
   exact ⟨w,w1,fun hk m0=>by unfold FF;exact w2 hk _,fun hk m0=>by unfold FW;exact w3 hk _⟩
theorem BR.noAt (inj:∀x y,C.nm x=C.nm y->x=y):∀{l:aP} {b:List (Str×Dk)},BR C ρ l b->∀{x:Nat},lk l x=none->C.nS x∉b.map (·.1):=
 BR.ind (P:=fun l b=>∀{x:Nat},lk l x=none->C.nS x∉b.map (·.1)) (fun Z0=>Eb) fun {y d l n v r} h1 _ _ ih x e=>by
  rw [jZ] at e
  rw [cG] at e
  by_cases q:y=x
  ·simp [q] at e
  ·simp [q] at e
   rw [DB,Dv,not_or]
   exact ⟨fun e2=>q (ig inj ((h1).symm.trans e2.symm)),ih e⟩
theorem rW:∀{l:List (Nat×α)},x∉l.map (·.1)->lk l x=none:=by
 intro x0
 induction x0 with
 |nil=>
  intro _
  exact rfl
 |cons p l ihh=>
  intro h
  simp only [DB,Dv,not_or] at h
  have h:=h
  rw [jZ]
  rw [cG,show decide (p.1=x)=false by simp;exact fun e=>h.1 e.symm]
  exact ihh h.2
theorem BR.noCell:∀{l:aP} {b:List (Str×Dk)},BR C ρ l b->∀{x k:Nat},lk l x≠some (.cell k):=
 BR.ind (P:=fun l Z0=>∀{x k:Nat},lk l x≠some (.cell k)) nofun fun {y d l n v r} _ _ _ ih x k=>by
  rw [jZ]
  cases Dy y x with
  |true=>exact Ch
  |false=>exact ih
theorem sQ:∀{ps:List Nat} {vs:List CV},ps.length=vs.length->(ow ps vs).map (·.1)=ps:=by
 intro x0
 induction x0 with
 |nil=>
  intro y4
  cases y4 with
  |nil=>
   intro _
   exact rfl
  |cons Z1 Z2=>
   intro h
   simp at h
 |cons x ps ihh=>
  intro y4
  cases y4 with
  |nil=>
   intro h
   simp at h
  |cons v vs=>
   intro h
   rw [Bh,DB,ihh (by simpa using h)]
theorem hZ (h:ix fi as=some loc):loc.map (·.1)=fi.ps:=by
 unfold ix at h
 simp only at h
 cases hb:Dy (as.length+(fi.df.drop (fi.df.length-(fi.ps.length-as.length))).length) fi.ps.length with
 |false=>rw [hb] at h;cases h
 |true=>
  rw [hb] at h
  cases h
  have:=Dz hb
  exact sQ (by rw [Ds];exact this.symm)
theorem Ao (inj:∀x y,C.nm x=C.nm y->x=y):∀{xs:List Nat} {cf:List (Str×Du)} {cells:List (Du×Obj)},cf.map (·.1)=xs.map C.nS->CellsAre cm cf cells->
  (∀x∈xs,match gU loc x with|some c=>∃v,cm (C.nS x)=some v/\VR ρ c v|none=>cm (C.nS x)=none)->gR C ρ (mq loc xs) cells:=by
 intro xs
 induction xs with
 |nil=>
  intro cf cells h a _
  cases a with
  |nil=>trivial
  |cons=>exact nomatch h
 |cons x xs ih=>
  intro cf cells h a hv
  cases a with
  |nil=>exact nomatch h
  |@cons nn _ o _ _ hd hr=>
    simp only [DB,KA] at h
    have h:=h
    refine ⟨?_,ih h.2 hr fun y hy=>hv y (.tail _ hy)⟩
    have:=hv x (.head _)
    rw [h.1] at hd
    show OR C ρ (.cell (gU loc x)) o
    cases hc:gU loc x with
    |none=>
     rw [hc] at this
     have this:=this
     simp only at this
     rw [this] at hd
     refine ⟨hd,?_⟩
     cases o with
     |mk a b c d=>simp only at hd;subst hd;rfl
    |some c=>
     rw [hc] at this
     refine ay this fun v e r=>?_
     rw [e] at hd
     exact ⟨v,hd,r⟩
theorem dY {l:List (Str×Du)} {x:Str} (h:x∈l.map (·.1)):∃a,l.lookup x=some a:=by
 refine ay (DV.mp h) fun p hp zz1=>?_
 subst zz1
 exact ay (nl (x:=p.1) (a:=p.2) hp) fun b hb Z0=>⟨b,hb⟩
theorem v5 {l:List (Str×Du)}:(l.map (·.1)).Nodup->∀{i:Nat} {p:Str×Du},l[i]?=some p->l.lookup p.1=some p.2:=by
 induction l with
 |nil=>intro _ i p h;cases h
 |cons q l ih=>
  intro nd i p h
  rw [DB,D6] at nd
  rw [EE]
  cases i with
  |zero=>simp at h;subst h;simp
  |succ i=>
   have h':l[i]?=some p:=by simpa using h
   have ne:(p.1==q.1)=false:=by
    rw [beq_eq_false_iff_ne]
    intro e
    exact nd.1 (e▸DE (f:=(·.1)) (DU h'))
   rw [ne]
   exact ih nd.2 h'
noncomputable abbrev fM (A:E3) (base g:DI) (outer:List Env) (env':Env) (L':Du):bT:={A:=A.deeper env',A₀:=A,base:=base,h₀:=g,outer:=outer,fenv:=env',env:=env',L:=L'}
set_option tactic.hygienic true in
theorem mi (G:iE C) {f:Nat} {fi:wN} {name qual:Str} {params:IM} {body:List Ek} {scope:Ef} {dV kV doc pm:Dk} {an:Option Du} {cdv ct oc:Dk} {od:Option Du} {osl:Array (Option Dk)}
  (Fk:OA C f fi name qual params body scope dV kV doc pm an cdv ct oc od osl) {A:E3} {base g h1:DI} {outer:List Env} {L':Du} {cells os:List (Du×Obj)} {as:List CV} {binds:List (Str×Dk)} {loc:aP}
  (ok':(fM A base g outer (envOfC qual scope L' (C.fa f) cdv) L').Ok C n) (Fg':Fr g L' h1 (FF (envOfC qual scope L' (C.fa f) cdv).kindOf binds fun Z0=>none)) (Ng:HM g L' h1 (cells++(hid++os)))
  (CA:CellsAre (FW (envOfC qual scope L' (C.fa f) cdv).kindOf binds fun Z0=>none) (cellsFrom (L'+1) scope.names []) cells) (ln:∀p∈hid++os,p.1<L') (nd:((hid++os).map (·.1)).Nodup) (eq:os.map (·.1)=ρ) (O:gR C ρ σ os)
  (hR:BR C ρ loc binds) (el:ix fi as=some loc):
  FH C n scope (fM A base g outer (envOfC qual scope L' (C.fa f) cdv) L') hid (ρ++cells.map (·.1)) (Mine.rD fi.cells loc σ).1 (Mine.rD fi.cells loc σ).2 h1:=by
 let env':=envOfC qual scope L' (C.fa f) cdv
 let S':bT:=fM A base g outer env' L'
 have hkeys:=hZ el
 have hndl:(loc.map (·.1)).Nodup:=hkeys▸Fk.10
 have kindp:∀x∈loc.map (·.1),scope.names.lookup (C.nS x)=some .local\/scope.names.lookup (C.nS x)=some .cell:=fun x hx=>Fk.9 x (hkeys▸hx)
 have hcf:(cellsFrom (L'+1) scope.names []).map (·.1)=fi.cells.map C.nS:=by rw [FV scope.names (L'+1) 0 [] [] rfl,Fk.11]
 have hndc:((cellsFrom (L'+1) scope.names []).map (·.1)).Nodup:=by
  rw [hcf,DS,Fq]
  exact FA (fun h e=>h (ig G.inj e)) (DS.mp Fk.12)
 refine eU (rO (loc:=loc) (σ:=σ) Fk.12) fun b1 b2 b3=>?_
 have kO:∀x,env'.kindOf x=scope.names.lookup x:=fun x=>rfl
 refine aD (nI scope.names (L'+1) [] (fun p hp=>by cases hp) E9) fun ca1 ca2=>?_
 have cad:=Mine.CellsAre.addrs CA
 have R':aX C S' hid (FF env'.kindOf binds fun Z0=>none) (ρ++cells.map (·.1)) (Mine.rD fi.cells loc σ).2 h1:=by
  refine ⟨Fg',os++cells,fun p hp=>?_,?_,by rw [Dw,eq],?_⟩
  ·refine Ng p ?_
   rcases DL.mp hp with hp|hp
   ·exact DF _ (DN _ hp)
   ·rcases DL.mp hp with hp|hp
    ·exact DF _ (DF _ hp)
    ·exact DN _ hp
  ·rw [←Di,Dw,D3]
   refine ⟨nd,by rw [cad];exact ca1,fun a ha b hb eab=>?_⟩
   refine ay (DV.mp ha) fun p hp zz4=>?_
   subst zz4
   have h1:=ln p hp
   rw [cad] at hb
   refine ay (DV.mp hb) fun p' hp' zz7=>?_
   subst zz7
   rcases ca2 p' hp' with h|h
   ·cases h
   ·rw [eab] at h1
    exact EN _ (DZ h1 (Lr h))
  ·rw [b1]
   refine (O.mono ⟨_,rfl⟩).app (Ao G.inj hcf CA fun x hx=>?_)
   have hkc:env'.kindOf (C.nS x)≠some .local:=by rw [kO,Fk.14 x hx];simp
   cases hc:gU loc x with
   |none=>
    have hl:lk loc x=none:=by
     unfold gU at hc
     cases h:lk loc x with
     |none=>rfl
     |some lv=>
      rw [h] at hc
      cases lv with
      |val c=>cases hc
      |cell k=>exact absurd h (BR.noCell hR)
    exact oK (hR.noAt G.inj hl)
   |some c=>
    have hl:lk loc x=some (.val c):=by
     unfold gU at hc
     split at hc
     ·rename_i e;rw [e];cases hc;rfl
     ·cases hc
    exact iH (hR.at G.inj (kO:=env'.kindOf) hndl hl) fun v v1 v2 v3=>⟨v,v3 hkc _,v1.mono ⟨_,rfl⟩⟩
 have cellAt:∀i y,fi.cells[i]?=some y->∃c,env'.cells.lookup (C.nS y)=some c/\(ρ++cells.map (·.1))[σ.length+i]?=some c:=by
  intro i y hy
  have e1:((cellsFrom (L'+1) scope.names []).map (·.1))[i]?=some (C.nS y):=by rw [hcf,DH,hy];rfl
  rw [DH] at e1
  have e1:=e1
  cases z:(cellsFrom (L'+1) scope.names [])[i]? with
  |none=>rw [z] at e1;cases e1
  |some p=>
   rw [z] at e1
   injection e1 with e1
   refine ⟨p.2,?_,?_⟩
   ·rw [←e1]
    exact v5 hndc z
   ·rw [←(O.len' eq),DO (Ex _ _),FD,cad,DH,z];rfl
 refine ⟨rfl,rfl,fun x hx=>?_,_,ok',fun x k0 e=>⟨fun Z0=>e,fun hk=>?_⟩,fun x hx=>?_,fun h Fh Z0=>Fh.ns,fun x lv e il=>?_,R'⟩
 ·refine ay (Fk.13 _ (kO _▸hx)) fun y hy ey=>?_
  have exy:y=x:=ig G.inj ey
  subst exy
  exact aG (Ey.mp hy) fun i hi=>⟨_,b3 i y hi⟩
 ·subst hk
  exact absurd e (Fk.7 x)
 ·rcases hx with hx|hx
  ·refine ay (Fk.13 _ (kO _▸hx)) fun y hy ey=>aG (Ey.mp hy) fun i hi=>ay (cellAt i y hi) fun c hc Z0=>?_
   rw [←ey,hc];rfl
  ·exact absurd (kO x▸hx) (Fk.7 x)
 ·by_cases hx:x∈fi.cells
  ·refine aG (Ey.mp hx) fun i hi=>?_
   rw [b3 i x hi] at e
   cases e
   refine ay (cellAt i x hi) fun c hc1 hc2=>?_
   exact ⟨.inl (by rw [kO];exact Fk.14 x hx),c,hc1,hc2⟩
  ·rw [b2 x hx] at e
   cases lv with
   |cell c=>exact absurd e (BR.noCell hR)
   |val c=>
    have hloc:env'.kindOf (C.nS x)=some .local:=by
     have hm:x∈loc.map (·.1):=by
      refine Classical.byContradiction fun h=>?_
      rw [rW h] at e
      cases e
     rcases kindp x hm with h|h
     ·exact h
     ·exact ay (Fk.13 _ h) fun y hy ey=>absurd (ig G.inj ey▸hy) hx
    exact iH (hR.at G.inj (kO:=env'.kindOf) hndl e) fun v v1 v2 Z0=>⟨hloc,v,v2 hloc _,v1.mono ⟨_,rfl⟩⟩
set_option tactic.hygienic true in
theorem xY (G:iE C) {sl N:Nat} (hb:SB C (N+sl) (aj C.T N)):SC C (N+1+sl) (aj C.T (N+1)):=by
 intro f as σ Q S hid m ρ s vs R ok Re hv q K
 rw [ms] at q
 have q:nE C.T (aj C.T N) f as σ Q:=q
 unfold nE at q
 split at q
 ·rename_i fi ef
  split at q
  ·rename_i loc el
   obtain ⟨name,qual,params,body,scope,dV,kV,doc,pm,an,cdv,ct,oc,od,osl,Fk⟩:=G.fns f fi ef
   obtain ⟨F,os,N0,nd,eq,O⟩:=id Re
   have X:C.K.In s.heap:=ok.2.keeps F.keep
   refine ay (Fk.8 as vs ρ loc s hv el X) fun binds hB hR=>?_
   have hkeys:=hZ el
   have hndl:(loc.map (·.1)).Nodup:=hkeys▸Fk.10
   refine te (name:=name) (qual:=qual) (params:=params) (body:=body) (scope:=scope) (dV:=dV) (kV:=kV) (doc:=doc) (pm:=pm) (an:=an) (cdv:=cdv) (ct:=ct) (binds:=binds)
    ok.1 F N0 (ok.3.nolimit) ok.4 ok.5 ok.6 (X _ _ Fk.1) rfl (codeRec_of X Fk.2) (by have:=ok.8;simp only [recursionLimit];lia) hB ?_ ?_ ?_ Fk.5 Fk.6 Fk.4
   ·intro n0 y hy
    have hy1:y.1∈binds.map (·.1):=DE hy
    rw [hR.keys] at hy1
    refine ay (DV.mp hy1) fun p hp e=>?_
    have:=(fun x hx=>Fk.9 x (hkeys▸hx)) p.1 (DE hp)
    rw [show C.nS p.1=y.1 from e] at this
    rcases this with h|h
    ·exact .inl h
    ·refine .inr ⟨h,?_⟩
     refine ay (Fk.13 _ h) fun z hz ez=>?_
     have hm:y.1∈(cellsFrom n0 scope.names []).map (·.1):=by
      rw [FV scope.names n0 0 [] [] rfl,Fk.11,←ez]
      exact DE hz
     refine aG (dY hm) fun a ha=>?_
     rw [ha];rfl
   ·rw [Fk.11]
    rw [DS,Fq]
    exact FA (fun h e=>h (ig G.inj e)) (DS.mp Fk.12)
   ·intro g L' h1 tk cells Fg Fg' Ng CA Bg st ln
    let env':=envOfC qual scope L' (C.fa f) cdv
    let S':bT:=fM S.A S.base g (S.fenv::S.outer) env' L'
    have ok':S'.Ok C (N+sl):=by
     refine ⟨Bg,fun a o e=>st a o (ok.2 a o e),ok.3.keeps st,Fj ok.4,rfl,Fk.4,ok.7,?_,?_,Fk.4,rfl,rfl,G.dsn f fi ef _,ok.14,ok.15⟩
     ·have:=ok.8;show S.A.depth+1+(N+sl)<990;lia
     ·have:=ok.9;show S.A.units+3+4*(N+sl)<9000;lia
    refine aG Fk.3 fun kk hchk=>hb kk scope fi.body body hchk S' hid _ _ _ (aQ s h1 tk) _ _ _ (mi G Fk ok' Fg' Ng CA ln nd eq O hR el) q fun fl loc2 σ2 ρ2 h2 tk2 q p F2=>aG F2.4 fun m2 H2=>?_
    obtain ⟨F3,os3,N3,nd3,eq3,O3⟩:=H2.6
    cases fl with
    |next=>exact ⟨L',m2,hid++os3,F3,N3,fun Fr' Nr=>K _ _ _ _ h2 tk2 q rfl ((Gk _ _).trans p) ⟨Fr',os3,Nr,nd3,eq3,O3⟩⟩
    |ret cv=>exact fun v hv=>⟨L',m2,hid++os3,F3,N3,fun Fr' Nr=>K _ _ _ _ h2 tk2 q hv ((Gk _ _).trans p) ⟨Fr',os3,Nr,nd3,eq3,O3⟩⟩
  ·exact q.elim
 ·exact q.elim
theorem cU (G:iE C) (ct:fu C sl):∀N,SE C (N+sl) (aj C.T N)/\ST C (N+sl) (aj C.T N)/\SB C (N+sl) (aj C.T N)/\SC C (N+sl) (aj C.T N):=by
 intro N
 induction N using Nat.strongRecOn with
 |_ N IH=>
  cases N with
  |zero=>
   refine ⟨?_,?_,?_,?_⟩
   ·intro k sc c e hc S hid m mD ρ loc σ s Q Qm E H q K;exact q.elim
   ·intro k sc c e hc S hid m mD ρ loc σ s Q Qm E H q K;exact q.elim
   ·intro k sc l b hc S hid ρ loc σ s Q Qm E F q K;exact q.elim
   ·intro f as σ Q S hid m ρ s vs R ok Re hv q K;exact q.elim
  |succ N=>
   have B:gz C sl (N+1):=⟨fun j hj=>⟨(IH j hj).1,(IH j hj).2.1⟩,fun j hj=>(IH j hj).2.2.1⟩
   exact iG (IH N (En _)) fun Z0 Z0 hb hsc=>⟨x8 G.toTabD ct B.1 hsc,xB G.toTabD B.1,yU G.toTabE ct B,xY G hb⟩
def iy:List Nat->Nat->Option Nat
 |[],Z1=>none
 |x::l,i=>cond (Dy x i) (some 0) ((iy l i).bind fun j=>some (j+1))
theorem A0 {x i:Nat} {l:List Nat}:iy (x::l) i=cond (Dy x i) (some 0) ((iy l i).bind fun j=>some (j+1)):=rfl
def li (f:Nat->Option Nat):CV->Option CV
 |.obj i=>(f i).bind fun j=>some (.obj j)
 |.none=>some .none
 |.bool b=>some (.bool b)
 |.int i=>some (.int i)
 |.str s=>some (.str s)
 |.bytes b=>some (.bytes b)
 |.top a=>some (.top a)
def wE {α:Type} (f:Nat->Option Nat) (p:α×CV):Option (α×CV):=(li f p.2).bind fun w=>some (p.1,w)
def Ax (f:Nat->Option Nat):CO->Option CO
 |.list l=>(fB (li f) l).bind fun r=>some (.list r)
 |.tup l=>(fB (li f) l).bind fun r=>some (.tup r)
 |.attrs l=>(fB (wE f) l).bind fun r=>some (.attrs r)
 |.dict l=>(fB (wE f) l).bind fun r=>some (.dict r)
 |.inst c d=>(f d).bind fun e=>some (.inst c e)
 |.barr b=>some (.barr b)
 |.rng a b c=>some (.rng a b c)
 |.cell none=>some (.cell none)
 |.cell (some v)=>(li f v).bind fun w=>some (.cell (some w))
 |.raw l o=>some (.raw l o)
def jG:List Nat->Bool
 |[]=>true
 |x::l=>!gS x l&&jG l
def MN (n:Nat):List Nat->Bool
 |[]=>true
 |x::l=>Dn n x&&MN n l
theorem Ci {n:Nat}:MN n []=true:=rfl
theorem CM {n x:Nat} {l:List Nat}:MN n (x::l)=(Dn n x&&MN n l):=rfl
def rm:Nat->Nat->List Nat
 |Z1,0=>[]
 |k,n+1=>k::rm (k+1) n
theorem sX {k:Nat}:rm k 0=[]:=rfl
theorem tD {k n:Nat}:rm k (n+1)=k::rm (k+1) n:=rfl
def tE (n:Nat) (keep keep2:List Nat) (j:Nat):Option Nat:=(am keep j).or ((iy keep2 j).bind fun k=>some (n+k))
def q9 (f:Nat->Option Nat) (σ:al) (i:Nat):Option CO:=(am σ i).bind (Ax f)
def vx:al->List Nat->al->al
 |σ,i::keep,o::os=>vx (aU σ i o) keep os
 |σ,Z1,Z2=>σ
def SN (σ:al) (keep keep2:List Nat) (σ':al):Option al:=
 (fB (q9 (tE σ.length keep keep2) σ') (rm 0 keep.length)).bind fun a=>(fB (q9 (tE σ.length keep keep2) σ') keep2).bind fun b=>some (vx σ keep a++b)
def zA (P:List CV->al->bu->Prop) (as:List CV) (σ:al) (Q:bu):Prop:=
 ∃keep as0 σ0,∃X:bu,jG keep=true/\fB (li (iy keep)) as=some as0/\fB (q9 (iy keep) σ) keep=some σ0/\P as0 σ0 X/\
  ∀v σ',X v σ'->∃keep2 v' σ'',(jG keep2&&MN keep.length keep2)=true/\li (tE σ.length keep keep2) v=some v'/\SN σ keep keep2 σ'=some σ''/\Q v' σ''
theorem nD:∀{l:List Nat} {i j:Nat},iy l i=some j->l[j]?=some i:=by
 intro x0
 induction x0 with
 |nil=>
  intro _ _ h
  cases h
 |cons x l ihh=>
  intro i j h
  rw [A0] at h
  cases hb:Dy x i with
  |true=>
   rw [hb] at h
   cases h
   exact congrArg some (Dz hb)
  |false=>
   rw [hb] at h
   exact bE h fun k e h=>sE h (ihh e)
theorem zi:∀{l:List Nat},gS x l=true↔x∈l:=by
 intro x0
 induction x0 with
 |nil=>
  simp [kS,kK]
 |cons y l ihh=>
  simp only [kS,kK]
  rw [cG]
  by_cases h:y=x
  ·simp [h]
  ·simp [h,ihh,FP h]
theorem ng:∀{l:List Nat},jG l=true->l.Nodup:=by
 intro x0
 induction x0 with
 |nil=>
  intro _
  exact E9
 |cons x l ihh=>
  intro h
  unfold jG at h
  rw [Dl] at h
  refine D6.mpr ⟨fun hm=>?_,ihh h.2⟩
  have:=h.1
  rw [zi.mpr hm] at this
  cases this
theorem Ab:∀{l:List Nat},MN n l=true->∀x∈l,n<=x:=by
 intro x0
 induction x0 with
 |nil=>
  intro _ _ h
  cases h
 |cons y l ihh=>
  intro h x hx
  simp only [Ci,CM] at h
  rw [Dl] at h
  rcases Dv.mp hx with rfl|hx
  ·exact D5 h.1
  ·exact ihh h.2 x hx
theorem rU:∀{l:List α} {r:List β},fB f l=some r->∀{i:Nat} {a:α},l[i]?=some a->∃b,r[i]?=some b/\f a=some b:=by
 intro x0
 induction x0 with
 |nil=>
  intro _ _ _ _ e
  cases e
 |cons a l ihh=>
  intro r h i a' e
  refine iZ h fun b r eb er=>?_
  cases i with
  |zero=>exact ⟨b,rfl,sE e eb⟩
  |succ i=>exact ihh er e
theorem VR.ren (hf:∀i j a,f i=some j->ρ[i]?=some a->ρ'[j]?=some a) (e:li f v=some v') (h:VR ρ v w):VR ρ' v' w:=by
 cases v with
 |obj i=>exact bE e fun j ej e=>sE e (ay h fun a ha hw=>⟨a,hf _ _ _ ej ha,hw⟩)
 |_=>cases e;exact h
theorem dc.ren (hf:∀i j a,f i=some j->ρ[i]?=some a->ρ'[j]?=some a):∀{l l':List CV} {ws:List Dk},fB (li f) l=some l'->dc ρ l ws->dc ρ' l' ws:=by
 intro x0
 induction x0 with
 |nil=>
  intro l' ws e h
  cases e;cases ws<;>exact h
 |cons v l ihh=>
  intro l' y4
  cases y4 with
  |nil=>
   intro _ h
   exact h.elim
  |cons w ws=>exact fun e h=>iZ e fun b r eb er=>⟨h.1.ren hf eb,ihh er h.2⟩
theorem AR.ren (hf:∀i j a,f i=some j->ρ[i]?=some a->ρ'[j]?=some a):∀{l l':List (Nat×CV)} {es:List EL},fB (wE f) l=some l'->AR C ρ l es->AR C ρ' l' es:=by
 intro x0
 induction x0 with
 |nil=>
  intro l' es e h
  cases e;cases es<;>exact h
 |cons w2 l ihh=>
  intro l' y4
  cases y4 with
  |nil=>
   intro _ h
   exact h.elim
  |cons w ws=>exact fun e h=>iZ e fun b r eb er=>bE eb fun v' ev eb=>sE eb ⟨h.1,h.2.1.ren hf ev,ihh er h.2.2⟩
theorem DR.ren (hf:∀i j a,f i=some j->ρ[i]?=some a->ρ'[j]?=some a):∀{l l':List (List Nat×CV)} {es:List EL},fB (wE f) l=some l'->DR C ρ l es->DR C ρ' l' es/\l'.map (·.1)=l.map (·.1):=by
 intro x0
 induction x0 with
 |nil=>
  intro l' es e h
  cases e;cases es<;>exact ⟨h,rfl⟩
 |cons w2 l ihh=>
  intro l' y4
  cases y4 with
  |nil=>
   intro _ h
   exact h.elim
  |cons w ws=>exact fun e h=>iZ e fun b r eb er=>bE eb fun v' ev eb=>sE eb (aD (ihh er h.2.2.2) fun x1 x2=>⟨⟨h.1,h.2.1,h.2.2.1.ren hf ev,x1⟩,congrArg (w2.1::·) x2⟩)
theorem OR.ren (hf:∀i j a,f i=some j->ρ[i]?=some a->ρ'[j]?=some a) (e:Ax f co=some co') (h:OR C ρ co o):OR C ρ' co' o:=by
 cases co with
 |list l=>exact bE e fun r er e=>sE e (dG h fun vs n e1 x=>⟨vs,n,e1,x.ren hf er⟩)
 |tup l=>exact bE e fun r er e=>sE e (dG h fun vs n e1 x=>⟨vs,n,e1,x.ren hf er⟩)
 |attrs l=>exact bE e fun r er e=>sE e (dG h fun vs n e1 x=>⟨vs,n,e1,x.ren hf er⟩)
 |dict l=>exact bE e fun r er e=>sE e (cV h fun vs n e1 x nd=>aD (DR.ren (C:=C) hf er x) fun x1 x2=>⟨vs,n,e1,x1,x2▸nd⟩)
 |inst c d=>exact bE e fun r er e=>sE e (ay h fun dx e1 x=>⟨dx,hf _ _ _ er e1,x⟩)
 |cell v=>
  cases v with
  |none=>cases e;exact h
  |some v=>exact bE e fun r er e=>sE e (ay h fun w e1 x=>⟨w,e1,x.ren hf er⟩)
 |_=>cases e;exact h
theorem xe:∀{n k j i:Nat},(rm k n)[j]?=some i->i=k+j/\j<n:=by
 intro x0
 induction x0 with
 |zero=>
  intro _ _ _ h
  cases h
 |succ n ihh=>
  intro k y4
  cases y4 with
  |zero=>
   intro i h
   simp [sX,tD] at h;lia
  |succ j=>
   intro i h
   simp only [sX,tD,Hb] at h
   have:=ihh h
   lia
theorem wS:∀{n k:Nat},(rm k n).length=n:=by
 intro x0
 induction x0 with
 |zero=>
  intro _
  exact rfl
 |succ n ihh=>
  intro k
  simp [sX,tD,ihh (k:=k+1)]
def dI {α:Type}:List α->List Nat->List α->List α
 |σ,i::keep,o::os=>dI (σ.set i o) keep os
 |σ,Z1,Z2=>σ
theorem hU {α:Type} {σ os:List α} {i:Nat} {k:List Nat} {o:α}:dI σ (i::k) (o::os)=dI (σ.set i o) k os:=rfl
theorem iv {α:Type} {σ os:List α}:dI σ [] os=σ:=by cases os<;>rfl
theorem ij {α:Type} {σ:List α} {k:List Nat}:dI σ k []=σ:=by cases k<;>rfl
theorem gR.picks {σ:al} {os:List (Du×Obj)} (O:gR C ρ σ os) (hf:∀i j a,f i=some j->ρ[i]?=some a->ρ'[j]?=some a):∀{keep:List Nat} {σ0:al},fB (q9 f σ) keep=some σ0->
  ∃os0:List (Du×Obj),gR C ρ' σ0 os0/\os0.length=keep.length/\∀(j:Nat) (p:Du×Obj),os0[j]?=some p->∃i,keep[j]?=some i/\os[i]?=some p:=by
 intro x0
 induction x0 with
 |nil=>
  intro σ0 h
  cases h;exact ⟨[],trivial,rfl,fun j p e=>by cases e⟩
 |cons k keep ihh=>
  intro σ0 h
  refine iZ h fun co r e1 e2=>iH (ihh e2) fun os0 O0 l0 g0=>bE e1 fun co0 e3 e1=>ay (O.get e3) fun p h1 h2=>⟨p::os0,⟨h2.ren hf e1,O0⟩,congrArg (·+1) l0,fun j p' e=>?_⟩
  cases j with
  |zero=>exact sE e ⟨k,rfl,h1⟩
  |succ j=>exact g0 j p' e
theorem gR.setMany:∀{keep:List Nat} {a:al} {prs:List (Du×Obj)} {σ:al} {os:List (Du×Obj)},gR C ρ σ os->gR C ρ a prs->gR C ρ (Mine.vx σ keep a) (dI os keep prs):=by
 intro x0
 induction x0 with
 |nil=>
  intro _ _ _ _ O _
  (unfold Mine.vx;simp only [hU,iv,ij]);exact O
 |cons i keep ihh=>
  intro y4
  cases y4 with
  |nil=>
   intro y6
   cases y6 with
   |nil=>
    intro σ os O _
    exact O
   |cons Z1 Z2=>
    intro _ _ _ x
    exact x.elim
  |cons co a=>
   intro y6
   cases y6 with
   |nil=>
    intro _ _ _ x
    exact x.elim
   |cons p prs=>
    intro σ os O x
    exact ihh (O.set x.1) x.2
theorem ql:∀{keep:List Nat} {prs os:List (Du×Obj)} {ρ:List Du},os.map (·.1)=ρ->(∀(j i:Nat) (p:Du×Obj),keep[j]?=some i->prs[j]?=some p->ρ[i]?=some p.1)->(dI os keep prs).map (·.1)=ρ:=by
 intro x0
 induction x0 with
 |nil=>
  intro _ _ _ e _
  simp only [hU,iv,ij];exact e
 |cons i keep ihh=>
  intro y4
  cases y4 with
  |nil=>
   intro _ _ e _
   exact e
  |cons p prs=>
   intro os ρ e h
   refine ihh ?_ fun j i' p' h1 h2=>h (j+1) i' p' (by simpa using h1) (by simpa using h2)
   rw [Kb,e]
   exact PySem.W.X.set_same (h 0 i p rfl rfl)
set_option tactic.hygienic true in
theorem qy:∀{keep:List Nat} {prs os:List (Du×Obj)} {i:Nat} {p:Du×Obj},prs.length=keep.length->(dI os keep prs)[i]?=some p->p∈prs\/(os[i]?=some p/\i∉keep):=by
 intro x0
 induction x0 with
 |nil=>
  intro _ _ _ _ _ h
  simp only [hU,iv,ij] at h;exact .inr ⟨h,by simp⟩
 |cons k keep ihh=>
  intro y4
  cases y4 with
  |nil=>
   intro _ _ _ l _
   cases l
  |cons o prs=>
   intro os i p l h
   simp only [hU,iv,ij] at h
   rcases ihh (by simpa using l) h with q|⟨q,n⟩
   ·exact .inl (FZ _ q)
   ·rw [Gv] at q
    split at q
    ·split at q
     ·cases q;exact .inl (.head _)
     ·cases q
    ·rename_i ne
     exact .inr ⟨q,fun hm=>by
      rcases Dv.mp hm with rfl|hm
      ·exact ne rfl
      ·exact n hm⟩
theorem uN (h:q9 f σ i=some co):i<σ.length:=bE h fun a e Z0=>by
 rw [aO] at e
 exact (Ei.mp e).1
theorem oa {l:List Du} (nd:l.Nodup) {ks:List Nat} (hk:ks.Nodup) (hl:∀k∈ks,k<l.length):(ks.map fun i=>l.getD i 0).Nodup:=by
 rw [DS,Fq]
 refine Gi.imp_of_mem (fun {a b} ha hb ne=>fun e=>ne ?_) (DS.mp hk)
 have h1:=hl a ha
 have h2:=hl b hb
 refine (Ld h1 nd).mp ?_
 rw [DA h1,DA h2]
 simp only [DP,DA h1,DA h2,Option.getD_some] at e
 rw [e]
theorem mh {l:List Du} {i:Nat} {a:Du} (h:l[i]?=some a):l.getD i 0=a:=by simp [DP,h]
theorem je {l:List Du} {ks:List Nat} {j i:Nat} (h:ks[j]?=some i):(ks.map fun i=>l.getD i 0)[j]?=some (l.getD i 0):=by rw [DH,h];rfl
theorem Pe {C:Cx} {n f:Nat} {P:List CV->al->bu->Prop} (h:bY C n f P):bY C n f (zA P):=by
 rintro as σ Q S hid m ρ s vs R ok Re hv ⟨keep,as0,σ0,X,hk,e1,e2,q,hX⟩ K
 have hlen:=Re.len
 refine aX.e Re fun os F N nd eq O=>?_
 have kl:∀k∈keep,k<ρ.length:=fun k hm=>by
  refine aG (Ey.mp hm) fun j hj=>ay (rU e2 hj) fun b Z0 hb=>?_
  rw [hlen]
  exact uN hb
 let ρ0:=keep.map fun i=>ρ.getD i 0
 have hf:∀i j a,iy keep i=some j->ρ[i]?=some a->ρ0[j]?=some a:=fun i j a e1 e2=>by
  rw [je (nD e1),mh e2]
 have hosl:os.length=ρ.length:=by rw [←eq,Do]
 refine iH (O.picks hf e2) fun os0 O0 l0 g0=>?_
 have osρ:∀{i:Nat} {p:Du×Obj},os[i]?=some p->ρ[i]?=some p.1:=fun {i p} e=>by rw [←eq,DH,e];rfl
 have eq0:os0.map (·.1)=ρ0:=by
  refine Gu fun j=>?_
  rw [DH]
  cases hj:os0[j]? with
  |none=>
   have:keep.length<=j:=by
    rw [←l0];exact EU.mp hj
   rw [DH,EU.mpr this];rfl
  |some p=>
   refine ay (g0 j p hj) fun i x1 x2=>?_
   rw [je x1,mh (osρ x2)];rfl
 have ndA:(hid.map (·.1)++ρ).Nodup:=by rw [Dw,eq] at nd;exact nd
 have ndρ:ρ.Nodup:=(D3.mp ndA).2.1
 have nd0:ρ0.Nodup:=oa ndρ (ng hk) kl
 have sub0:∀a∈ρ0,a∈ρ:=fun a ha=>by
  refine ay (DV.mp ha) fun k hk1 zz1=>?_
  subst zz1
  have:=kl k hk1
  rw [DP,DA this]
  exact GB _
 let rest:=os.filter fun p=>!(ρ0.contains p.1)
 have restIn:∀p∈rest,p∈os/\p.1∉ρ0:=fun p hp=>by
  have:=Jo.mp hp
  exact ⟨this.1,by simpa using this.2⟩
 have inRest:∀p∈os,p.1∉ρ0->p∈rest:=fun p hp hn=>Jo.mpr ⟨hp,by simpa using hn⟩
 have R0:aX C S (hid++rest) m ρ0 σ0 s.heap:=by
  refine ⟨F,os0,fun p hp=>?_,?_,eq0,O0⟩
  ·rcases DL.mp hp with hp|hp
   ·rcases DL.mp hp with hp|hp
    ·exact N p (DN _ hp)
    ·exact N p (DF _ (restIn p hp).1)
   ·exact aG (Ey.mp hp) fun j hj=>ay (g0 j p hj) fun i Z0 x2=>N p (DF _ (DU x2))
  ·rw [Dw,eq0,D3]
   refine ⟨?_,nd0,fun a ha b hb eab=>?_⟩
   ·refine List.Nodup.sublist ?_ nd
    rw [Dw,Dw]
    exact Kc.append (Kc.refl _) (Kc.map _ List.filter_sublist)
   ·subst eab
    rw [Dw] at ha
    rcases DL.mp ha with ha|ha
    ·exact (D3.mp ndA).2.2 a ha a (sub0 a hb) rfl
    ·refine ay (DV.mp ha) fun p hp zz4=>?_
     subst zz4
     exact (restIn p hp).2 hb
 refine h as0 σ0 _ S (hid++rest) m ρ0 s vs R ok R0 (hv.ren hf e1) q fun v σ' ρ' w h' tk q hw pp R'=>SY (hX _ _ q) fun keep2 v' σ'' hk2 e3 e4 q=>aG pp fun δ zz7=>?_
 clear pp
 subst zz7
 have hlen':=R'.len
 obtain ⟨F',os',N',nd',eq',O'⟩:=R'
 rw [Dl] at hk2
 have hk2n:=ng hk2.1
 have hk2g:=Ab hk2.2
 refine bE e4 fun a ea e4=>bE e4 fun b eb e4=>?_
 cases e4
 have l00:ρ0.length=keep.length:=Do ..
 have k2l:∀k∈keep2,k<(ρ0++δ).length:=fun k hm=>by
  refine aG (Ey.mp hm) fun j hj=>ay (rU eb hj) fun b Z0 hb=>?_
  rw [hlen']
  exact uN hb
 let ρn:=keep2.map fun j=>(ρ0++δ).getD j 0
 have hf2:∀j i a,tE σ.length keep keep2 j=some i->(ρ0++δ)[j]?=some a->(ρ++ρn)[i]?=some a:=fun j i a e1 e2=>by
  cases ei:am keep j with
  |some i'=>
   unfold tE at e1
   rw [ei] at e1
   have e1:some i'=some i:=e1
   refine sE e1 ?_
   rw [aO] at ei
   rw [Eo (by rw [l00];exact (Ei.mp ei).1:j<ρ0.length)] at e2
   have hi:=kl i' (DU ei)
   rw [Eo hi]
   rw [show ρ0[j]?=some (ρ.getD i' 0) from je ei] at e2
   rw [DA hi]
   rw [DP,DA hi] at e2
   exact e2
  |none=>
   unfold tE at e1
   rw [ei] at e1
   have e1:((iy keep2 j).bind fun k=>some (σ.length+k))=some i:=e1
   refine bE e1 fun k ek e1=>sE e1 ?_
   rw [←hlen,DO (Ex _ _),FD]
   rw [je (nD ek),mh e2]
 refine iH (O'.picks hf2 ea) fun osa Oa la ga=>iH (O'.picks hf2 eb) fun osb Ob lb gb=>?_
 rw [wS] at la
 have osρ':∀{i:Nat} {p:Du×Obj},os'[i]?=some p->(ρ0++δ)[i]?=some p.1:=fun {i p} e=>by rw [←eq',DH,e];rfl
 have eqa:(dI os keep osa).map (·.1)=ρ:=by
  refine ql eq fun j i p h1 h2=>ay (ga j p h2) fun i' x1 x2=>aD (xe x1) fun zz9 hj=>?_
  subst zz9
  have x3:=osρ' x2
  rw [GP] at x3
  rw [Eo (by rw [l00];exact hj:j<ρ0.length),show ρ0[j]?=some (ρ.getD i 0) from je h1] at x3
  have hi:=kl i (DU h1)
  rw [DP,DA hi] at x3
  rw [DA hi]
  exact x3
 have eqb:osb.map (·.1)=ρn:=by
  refine Gu fun j=>?_
  rw [DH]
  cases hj:osb[j]? with
  |none=>
   have:keep2.length<=j:=by
    rw [←lb];exact EU.mp hj
   rw [DH,EU.mpr this];rfl
  |some p=>
   refine ay (gb j p hj) fun i x1 x2=>?_
   rw [je x1,mh (osρ' x2)];rfl
 have ndB:(hid.map (·.1)++rest.map (·.1)++(ρ0++δ)).Nodup:=by
  rw [Dw,Dw,eq'] at nd';exact nd'
 have ndD:(ρ0++δ).Nodup:=(D3.mp ndB).2.1
 have nnd:ρn.Nodup:=oa ndD hk2n k2l
 have inδ:∀x∈ρn,x∈δ:=fun x hx=>by
  refine ay (DV.mp hx) fun k hk1 zz10=>?_
  subst zz10
  have h1:=k2l k hk1
  have h2:=hk2g k hk1
  rw [DP,DO (by rw [l00];exact h2)]
  rw [Ds] at h1
  rw [DA (JT (by rw [l00];exact h2) h1)]
  exact GB _
 refine K v' _ (ρ++ρn) w h' tk q (hw.ren hf2 e3) ⟨ρn,rfl⟩ ⟨F',dI os keep osa++osb,fun p hp=>?_,?_,by rw [Dw,eqa,eqb],((O.mono (Gk ρ ρn)).setMany Oa).app Ob⟩
 ·rcases DL.mp hp with hp|hp
  ·exact N' p (DN _ (DN _ hp))
  ·rcases DL.mp hp with hp|hp
   ·refine aG (Ey.mp hp) fun i hi=>?_
    rcases qy la hi with hq|⟨hq,hn⟩
    ·exact aG (Ey.mp hq) fun j hj=>ay (ga j p hj) fun i' Z0 x2=>N' p (DF _ (DU x2))
    ·refine N' p (DN _ (DF _ (inRest p (DU hq) fun hm=>ay (DV.mp hm) fun k hk1 e5=>?_)))
     have h1:=kl k hk1
     have:k=i:=by
      refine (Ld h1 ndρ).mp ?_
      rw [osρ hq,←e5,DP,DA h1];rfl
     subst this
     exact hn hk1
   ·exact aG (Ey.mp hp) fun j hj=>ay (gb j p hj) fun i' Z0 x2=>N' p (DF _ (DU x2))
 ·rw [Dw,Dw,eqa,eqb,←Di,D3]
  refine ⟨ndA,nnd,fun x hx y hy exy=>?_⟩
  subst exy
  have hd:=inδ x hy
  rcases DL.mp hx with hx|hx
  ·exact (D3.mp ndB).2.2 x (DN _ hx) x (DF _ hd) rfl
  ·by_cases h0:x∈ρ0
   ·exact (D3.mp ndD).2.2 x h0 x hd rfl
   ·rw [←eq] at hx
    refine ay (DV.mp hx) fun p hp zz13=>?_
    subst zz13
    exact (D3.mp ndB).2.2 p.1 (DF _ (DE (inRest p hp h0))) p.1 (DF _ hd) rfl
theorem bY.mono (h:bY C n f P) (k:∀as σ Q,P' as σ Q->P as σ Q):bY C n f P':=
 fun as σ Q S hid m ρ s vs R ok Re hv q K=>h as σ Q S hid m ρ s vs R ok Re hv (k as σ Q q) K
def MD (n:Nat):CV->CV
 |.obj i=>.obj (n+i)
 |.none=>.none
 |.bool b=>.bool b
 |.int i=>.int i
 |.str s=>.str s
 |.bytes b=>.bytes b
 |.top a=>.top a
def NY {α:Type} (n:Nat) (l:List (α×CV)):List (α×CV):=l.map fun p=>(p.1,MD n p.2)
def Oo (n:Nat):CO->CO
 |.list l=>.list (l.map (MD n))
 |.tup l=>.tup (l.map (MD n))
 |.attrs l=>.attrs (NY n l)
 |.dict l=>.dict (NY n l)
 |.inst c d=>.inst c (n+d)
 |.barr b=>.barr b
 |.rng a b c=>.rng a b c
 |.cell none=>.cell none
 |.cell (some v)=>.cell (some (MD n v))
 |.raw l o=>.raw l o
noncomputable abbrev zW (n:Nat) (l:al):al:=l.map (Oo n)
theorem kt {α β:Type} {F G:α->Option β} {t:β->β} (h:∀x y,F x=some y->G x=some (t y)):∀{l:List α} {l':List β},fB F l=some l'->fB G l=some (l'.map t):=by
 intro x0
 induction x0 with
 |nil=>
  intro l' e
  exact sE e rfl
 |cons v l ihh=>exact fun e=>iZ e fun b r eb er=>ta (h _ _ eb) (ihh er)
section
variable {n:Nat} {f g:Nat->Option Nat} (h:∀i j,f i=some j->g i=some (n+j))
include h
theorem j1 (v v':CV) (e:li f v=some v'):li g v=some (MD n v'):=by
 cases v with
 |obj i=>exact bE e fun j ej e=>sE e (bI (h _ _ ej) rfl)
 |_=>exact sE e rfl
theorem uD {α:Type} (p p':α×CV) (e:wE f p=some p'):wE g p=some (p'.1,MD n p'.2):=bE e fun w ew e=>sE e (bI (j1 h _ _ ew) rfl)
theorem Bp (co co':CO) (e:Ax f co=some co'):Ax g co=some (Oo n co'):=by
 cases co with
 |list l=>exact bE e fun r er e=>sE e (bI (kt (j1 h) er) rfl)
 |tup l=>exact bE e fun r er e=>sE e (bI (kt (j1 h) er) rfl)
 |attrs l=>exact bE e fun r er e=>sE e (bI (kt (uD h) er) rfl)
 |dict l=>exact bE e fun r er e=>sE e (bI (kt (uD h) er) rfl)
 |inst c d=>exact bE e fun r er e=>sE e (bI (h _ _ er) rfl)
 |cell v=>
  cases v with
  |none=>exact sE e rfl
  |some v=>exact bE e fun r er e=>sE e (bI (j1 h _ _ er) rfl)
 |_=>exact sE e rfl
theorem xU (k:Nat) (co:CO) (e:q9 f σ k=some co):q9 g σ k=some (Oo n co):=bE e fun c ec e=>bI ec (Bp h _ _ e)
end
def uI:List CV->List Nat
 |[]=>[]
 |.obj i::l=>i::uI l
 |Z1::l=>uI l
def yz:List (Nat×CV)->List Nat
 |[]=>[]
 |(_,.obj i)::l=>i::yz l
 |Z1::l=>yz l
def yL:List (List Nat×CV)->List Nat
 |[]=>[]
 |(_,.obj i)::l=>i::yL l
 |Z1::l=>yL l
def PI:CO->List Nat
 |.list l=>uI l
 |.tup l=>uI l
 |.attrs l=>yz l
 |.dict l=>yL l
 |.inst _ d=>[d]
 |.cell (some (.obj i))=>[i]
 |_=>[]
def xQ (σ:al):Nat->List Nat->List Nat->List Nat
 |0,acc,Z1=>acc
 |Z1+1,acc,[]=>acc
 |n+1,acc,i::todo=>cond (gS i acc) (xQ σ n acc todo) (match am σ i with
  |some co=>xQ σ n (acc++[i]) (PI co++todo)
  |none=>acc)
def lO (σ:al) (v:CV):List Nat:=match v with
 |.obj i=>xQ σ 200 [] [i]
 |_=>[]
def uZ (v:CV) (σ:al):Option (CV×al):=
 (cond (jG (lO σ v)) (li (iy (lO σ v)) v) none).bind fun w=>(fB (q9 (iy (lO σ v)) σ) (lO σ v)).bind fun r=>some (w,r)
def vh:List CV->Bool
 |[]=>true
 |.obj _::_=>false
 |Z1::l=>vh l
def gB (P:List CV->al->bu->Prop) (as:List CV) (σ:al) (Q:bu):Prop:=
 vh as=true/\P as [] fun v σ'=>match uZ v σ' with
  |some (w,r)=>Q (MD σ.length w) (σ++zW σ.length r)
  |none=>False
theorem tV:∀{as:List CV},vh as=true->fB (li f) as=some as:=by
 intro x0
 induction x0 with
 |nil=>
  intro _
  exact rfl
 |cons v l ihh=>
  intro h
  have h2:vh l=true:=by cases v<;>first|cases h|exact h
  have h1:li f v=some v:=by cases v<;>first|cases h|rfl
  exact ta h1 (ihh h2)
theorem wv:∀{l:List Nat},MN 0 l=true:=by
 intro x0
 induction x0 with
 |nil=>
  exact rfl
 |cons x l ihh=>
  simp only [Ci,CM];rw [ihh];cases x<;>rfl
theorem pM (h:gB P as σ Q):zA P as σ Q:=by
 refine aD h fun ha h=>⟨[],as,[],_,rfl,tV ha,rfl,h,fun v σ' q=>?_⟩
 cases e:uZ v σ' with
 |none=>rw [e] at q;exact q.elim
 |some p=>
 rw [e] at q
 refine bE e fun w' e0 e=>bE e fun r' e2 e=>?_
 cases hn:jG (lO σ' v) with
 |false=>rw [hn] at e0;cases e0
 |true=>
  rw [hn] at e0
  cases e
  have hsh:∀i j,iy (lO σ' v) i=some j->tE σ.length [] (lO σ' v) i=some (σ.length+j):=fun i j e=>bI e rfl
  exact ⟨lO σ' v,_,_,by rw [hn,Ew,wv];rfl,j1 hsh _ _ e0,bI rfl (bI (kt (xU hsh) e2) rfl),q⟩
theorem gc (h:bY C n f P):bY C n f (gB P):=(Pe h).mono fun Z0 Z0 Z0=>pM
noncomputable abbrev gX:List Nat:=[112,108,97,105,110]
noncomputable abbrev fz:List Nat:=[115,105,103,110,101,100]
noncomputable abbrev eK:List Nat:=[112,97,99,107,101,100]
noncomputable abbrev dQ:List Nat:=[98,105,110,97,114,121]
noncomputable abbrev qx:List Nat:=[108,101,102,116]
noncomputable abbrev i5:List Nat:=[106,117,115,116,105,102,105,101,100]
noncomputable abbrev gf:List Nat:=[105,110,115,101,114,116,101,100]
noncomputable abbrev lU:List Nat:=[108,101,116,116,101,114,115]
def OX:List (List Nat×Nat)->al
 |[]=>[]
 |(s,c)::l=>.tup [.str s,.int c]::OX l
def pN (cat:List Nat) (size:Nat) (usage:List Nat) (just:Bool) (dig scale:Nat) (sgn:Bool) (text:List Nat) (psize:Nat) (syms:List (List Nat×Nat)):al:=
 [.inst 4 1,.attrs [(11,.str cat),(5,.int size),(63,.obj 2),(85,.str usage),(14,.str [116,114,97,105,108,105,110,103]),(86,.bool false),(87,.bool just),(79,.bool false),(12,.int dig),(2,.int scale),(13,.bool sgn)],
  .inst 0 3,.attrs [(9,.str text),(10,.obj 4),(11,.str cat),(12,.int dig),(2,.int scale),(13,.bool sgn),(5,.int psize)],
  .list ((rm 5 syms.length).map .obj)]++OX syms
def dg (n:Nat):Nat:=48+n
def mj (kind:List Nat) (d s:Nat):List (List Nat×Nat):=
 cond (aF kind sEdi0) [([90],d-1),([57],1)] (cond (aF kind fz) [([83],1)] []++cond (E1 s d) [([57],d-s)] []++cond (E1 0 s) [([86],1),([57],s)] [])
where sEdi0:List Nat:=[101,100,105,116,101,100]
def pU (kind:List Nat) (d s:Nat):List Nat:=
 cond (aF kind [101,100,105,116,101,100]) (Dp (d-1) 90++[57]) (cond (aF kind fz) [83] []++cond (E1 s d) [57,40,dg (d-s),41] []++cond (E1 0 s) [86,57,40,dg s,41] [])
def bK (kind:List Nat) (d:Nat):Nat:=cond (aF kind eK) (d/2+1) (cond (aF kind dQ) (cond (Dn d 4) 2 (cond (Dn d 9) 4 8)) d)
def jF (kind:List Nat) (d s:Nat):al:=
 pN (cond (aF kind [101,100,105,116,101,100]) [101,100,105,116,101,100] [110,117,109,101,114,105,99]) (bK kind d) (cond (aF kind eK) eK (cond (aF kind dQ) dQ [100,105,115,112,108,97,121])) false d s (aF kind fz) (pU kind d s) d (mj kind d s)
section
variable (s:Bool) (T:Tab) (N:Nat) (ih:Ih) (loc:aP) (Q:bu)
noncomputable abbrev B9 (o:Aq) (v:CV):bu:=fun w σ=>dJ s T σ o v w Q
noncomputable abbrev Pn (o:Aq) (b:CE):bu:=fun v σ=>(aj T N).e b loc σ (B9 s T Q o v)
noncomputable abbrev SO (a b:CE):Bool->al->Prop:=fun r σ=>br s r ((aj T N).e a loc σ Q) ((aj T N).e b loc σ Q)
noncomputable abbrev Ql (f:Nat):List CV->al->Prop:=fun vs σ=>dD T (aj T N) f vs σ Q
noncomputable abbrev Og (b:Bf):List CV->al->Prop:=fun vs σ=>cQ s T σ b vs Q
noncomputable abbrev Pt (v:CV):bu:=fun w σ=>gQ s T σ v w Q
noncomputable abbrev OJ (i:CE):bu:=fun v σ=>(aj T N).e i loc σ (Pt s T Q v)
variable (Q:List CV->al->Prop)
noncomputable abbrev Cu (v:CV):List CV->al->Prop:=fun vs σ=>Q (v::vs) σ
noncomputable abbrev R8 (l:List CE):bu:=fun v σ=>eC ih l loc σ (Cu Q v)
variable (Q:Bool->al->Prop)
noncomputable abbrev QV (σ:al):Bool->Prop:=fun r=>Q r σ
noncomputable abbrev Sd:Bool->al->Prop:=fun r σ=>Q (!r) σ
noncomputable abbrev L6:bu:=fun v σ=>match v with|.bool r=>Q r σ|_=>False
noncomputable abbrev CB (o:pk) (v:CV):bu:=fun w σ=>dn s T σ o v w (QV Q σ)
noncomputable abbrev B4 (o:pk) (b:CE):bu:=fun v σ=>(aj T N).e b loc σ (CB s T Q o v)
variable (Q:Fl->aP->al->Prop)
noncomputable abbrev Pj:aP->al->Prop:=fun loc σ=>Q .next loc σ
noncomputable abbrev sR (l:List CS):Fl->aP->al->Prop:=fun fl loc σ=>match fl with|.next=>(aj T N).b l loc σ Q|.ret v=>Q (.ret v) loc σ
noncomputable abbrev Qy (x:Nat):bu:=fun v σ=>lp loc σ x v (Pj Q)
noncomputable abbrev PL:bu:=fun v σ=>Q (.ret v) loc σ
noncomputable abbrev Oz:bu:=fun Z0 σ=>Q .next loc σ
noncomputable abbrev EQ (a b:List CS):Bool->al->Prop:=fun r σ=>br s r (ih.b a loc σ Q) (ih.b b loc σ Q)
end
noncomputable abbrev Sf (Q:bu):Fl->aP->al->Prop:=fun fl Z0 σ=>match fl with|.ret v=>Q v σ|.next=>Q .none σ
noncomputable abbrev TH (Q:bu):Bool->al->Prop:=fun r σ=>Q (.bool r) σ
section
variable {σ:al} {Q:bu} {s:Bool}
theorem bf (h:b=true) (q:k):fL s b k:=by
 cases s with
 |true=>exact ⟨h,q⟩
 |false=>rw [h];exact q
theorem aI (h:b=true) (k:p):br s b p q:=by
 cases s with
 |true=>exact ⟨fun Z0=>k,fun e=>absurd (h.symm.trans e) (by decide)⟩
 |false=>rw [h];exact k
theorem ar (h:b=false) (k:q):br s b p q:=by
 cases s with
 |true=>exact ⟨fun e=>absurd (h.symm.trans e) (by decide),fun Z0=>k⟩
 |false=>rw [h];exact k
theorem si (h1:b=true->p) (h2:b=false->q):br s b p q:=by
 cases b with
 |true=>exact aI rfl (h1 rfl)
 |false=>exact ar rfl (h2 rfl)
theorem ae (h:lk loc x=some (.val v)) (q:Q v σ):(aj T (N+1)).e (.loc x) loc σ Q:=by
 show hK (wO loc σ x) fun v=>Q v σ
 have:wO loc σ x=some v:=by unfold wO;simp only [h]
 rw [this];exact q
theorem eQ (h:lk loc x=some (.cell k)) (h2:am σ k=some (.cell (some v))) (q:Q v σ):(aj T (N+1)).e (.loc x) loc σ Q:=by
 show hK (wO loc σ x) fun v=>Q v σ
 have:wO loc σ x=some v:=by unfold wO;simp only [h,h2]
 rw [this];exact q
theorem fk (h:T.gv x=some v) (q:Q v σ):(aj T (N+1)).e (.glb x) loc σ Q:=by
 show (match T.gv x with|some v=>Q v σ|none=>False)
 rw [h];exact q
theorem ag (q:Q v σ):(aj T (N+1)).e (.cst v) loc σ Q:=q
theorem aH (q:(aj T N).e a loc σ (Pn s T N loc Q o b)):(aj T (N+1)).e (.bin s o a b) loc σ Q:=q
theorem lE (q:(aj T N).e a loc σ fun a σ=>match a with|.int i=>Q (.int (-i)) σ|_=>False):(aj T (N+1)).e (.neg a) loc σ Q:=q
theorem iC (q:(aj T N).t t loc σ (SO s T N loc Q a b)):(aj T (N+1)).e (.ife s t a b) loc σ Q:=q
theorem jC (q:(aj T N).e a loc σ (B4 s T N loc (TH Q) o b)):(aj T (N+1)).e (.cmp s a [(o,b)]) loc σ Q:=q
theorem tn (q:(aj T N).e a loc σ Q):(aj T (N+1)).e (.bop s i [a]) loc σ Q:=q
theorem pn (q:(aj T N).e a loc σ fun v σ=>match v with
  |.bool r=>br s r ((aj T (N+1)).e (.bop s true (b::l)) loc σ Q) (Q (.bool false) σ)
  |_=>False):(aj T (N+1)).e (.bop s true (a::b::l)) loc σ Q:=q
theorem jE (q:(aj T N).e a loc σ fun v σ=>match v with
  |.bool r=>br s r (Q (.bool true) σ) ((aj T (N+1)).e (.bop s false (b::l)) loc σ Q)
  |_=>False):(aj T (N+1)).e (.bop s false (a::b::l)) loc σ Q:=q
theorem fD (q:eC (aj T N) l loc σ fun vs σ=>Q (.obj σ.length) (σ++[.list vs])):(aj T (N+1)).e (.lst l) loc σ Q:=q
theorem fh (q:eC (aj T N) l loc σ fun vs σ=>Q (.obj σ.length) (σ++[.tup vs])):(aj T (N+1)).e (.tup l) loc σ Q:=q
theorem aK (q:eC (aj T N) as loc σ (Ql T N Q f)):(aj T (N+1)).e (.calF f as) loc σ Q:=q
theorem be (q:eC (aj T N) as loc σ (Og s T Q b)):(aj T (N+1)).e (.calB s b as) loc σ Q:=q
theorem iT (q:(aj T N).e o loc σ fun o σ=>cond (jK m (bz σ o)) (eC (aj T N) as loc σ fun vs σ'=>cO s σ' m (bz σ o) o vs Q) False):(aj T (N+1)).e (.mtB s m o as) loc σ Q:=q
theorem Mg (h2:aM σ v=some (c,d,l)) (h3:lk l x=some w) (h4:io T c x=true) (q:Q w σ):r5 σ v fun c0 d0 l0=>hK (lk l0 x) fun v=>cond (io T c0 x) (Q v σ) False:=
 tJ h2 (fA h3 (by rw [h4];exact q))
theorem aw (h1:lk loc y=some (.val v)) (h2:aM σ v=some (c,d,l)) (h3:lk l x=some w) (h4:io T c x=true) (q:Q w σ):(aj T (N+2)).e (.att (.loc y) x) loc σ Q:=
 ae (T:=T) (N:=N) (Q:=fun o σ=>r5 σ o fun c0 d0 l0=>hK (lk l0 x) fun v=>cond (io T c0 x) (Q v σ) False) h1 (Mg h2 h3 h4 q)
theorem eO (q:(aj T N).e o loc σ (OJ s T N loc Q i)):(aj T (N+1)).e (.sub s o i) loc σ Q:=q
theorem eP (q:(aj T N).e o loc σ fun o σ=>wQ (aj T N) a loc σ fun a σ=>wQ (aj T N) b loc σ fun b σ=>wQ (aj T N) c loc σ fun c σ=>bD s σ o a b c Q):(aj T (N+1)).e (.slc s o a b c) loc σ Q:=q
theorem bn (q:Q .none σ):wQ ih none loc σ Q:=q
theorem db (q:ih.e c loc σ Q):wQ ih (some c) loc σ Q:=q
theorem aL {ih:Ih} {Q:List CV->al->Prop} (q:Q [] σ):eC ih [] loc σ Q:=q
theorem ac {ih:Ih} {c:CE} {l:List CE} {Q:List CV->al->Prop} (q:ih.e c loc σ (R8 ih loc Q l)):eC ih (c::l) loc σ Q:=q
theorem f9 {elt it:CE} {tg:List Nat} {tp:Bool} {cond:Option CE} (q:(aj T N).e it loc σ fun v σ=>hK (cI σ v) fun i=>(aj T N).p s elt tg tp cond i σ.length (loc.filter fun p=>!(tg.any fun x=>Dy x p.1)) (σ++[.list []]) fun σ'=>Q (.obj σ.length) σ'):(aj T (N+1)).e (.comp s elt tg tp it cond) loc σ Q:=q
section
variable {Q:Bool->al->Prop}
theorem lT (q:(aj T N).t t loc σ (Sd Q)):(aj T (N+1)).t (.nt t) loc σ Q:=q
theorem aA (q:(aj T N).e a loc σ (B4 s T N loc Q o b)):(aj T (N+1)).t (.cmp s a [(o,b)]) loc σ Q:=q
theorem MI (q:(aj T N).e a loc σ fun a σ=>(aj T N).e b loc σ fun b σ=>dn s T σ o a b fun r=>br s r ((aj T N).e c loc σ fun c σ=>dn s T σ o2 b c fun r=>Q r σ) (Q false σ)):(aj T (N+1)).t (.cmp s a [(o,b),(o2,c)]) loc σ Q:=q
theorem zt (q:Q true σ):(aj T (N+1)).t (.bop s true []) loc σ Q:=q
theorem oR (q:Q false σ):(aj T (N+1)).t (.bop s false []) loc σ Q:=q
theorem gi (q:(aj T N).t a loc σ fun r σ=>br s r ((aj T (N+1)).t (.bop s true l) loc σ Q) (Q false σ)):(aj T (N+1)).t (.bop s true (a::l)) loc σ Q:=q
theorem iJ (q:(aj T N).t a loc σ fun r σ=>br s r (Q true σ) ((aj T (N+1)).t (.bop s false l) loc σ Q)):(aj T (N+1)).t (.bop s false (a::l)) loc σ Q:=q
theorem yw (q:(aj T N).e (.loc x) loc σ (L6 Q)):(aj T (N+1)).t (.loc x) loc σ Q:=q
theorem oG (q:(aj T N).e (.att o x) loc σ (L6 Q)):(aj T (N+1)).t (.att o x) loc σ Q:=q
theorem gM (q:(aj T N).e (.calF f as) loc σ (L6 Q)):(aj T (N+1)).t (.calF f as) loc σ Q:=q
end
section
variable {Q:Fl->aP->al->Prop}
theorem aJ (q:Q .next loc σ):(aj T (N+1)).b [] loc σ Q:=q
theorem ao (q:cN T (aj T N) c loc σ (sR T (N+1) Q l)):(aj T (N+1)).b (c::l) loc σ Q:=q
theorem dj (q:ih.e e loc σ (PL loc Q)):cN T ih (.ret (some e)) loc σ Q:=q
theorem PO (q:ih.e e loc σ (Oz loc Q)):cN T ih (.xpr e) loc σ Q:=q
theorem iB (q:ih.e e loc σ (Qy loc Q x)):cN T ih (.asg x e) loc σ Q:=q
theorem jM (q:ih.e e loc σ fun v σ=>hK (da σ v) fun l=>fE loc σ xs l fun loc σ=>Q .next loc σ):cN T ih (.asgT xs e) loc σ Q:=q
theorem fY {xs:List Nat} {v:CV} {l:List CV} {Q:aP->al->Prop} (h:da σ v=some l) (q:fE loc σ xs l Q):hK (da σ v) fun l=>fE loc σ xs l Q:=fA h q
theorem mP (q:ih.e e loc σ fun v σ=>ih.e o loc σ fun o σ=>ih.e i loc σ fun i σ=>oF s σ o i v fun σ=>Q .next loc σ):cN T ih (.asgS s o i e) loc σ Q:=q
theorem kh (q:ih.t t loc σ (EQ s ih loc Q a b)):cN T ih (.ite s t a b) loc σ Q:=q
theorem jX (q:ih.e it loc σ fun v σ=>hK (cI σ v) fun i=>ih.f tg tp i b loc σ Q):cN T ih (.for tg tp it b) loc σ Q:=q
end
theorem nV {Q:aP->al->Prop} (q:Q loc σ):fE loc σ [] [] Q:=q
theorem gJ {x:Nat} {xs:List Nat} {v:CV} {vs:List CV} {Q:aP->al->Prop} (q:lp loc σ x v fun loc σ=>fE loc σ xs vs Q):fE loc σ (x::xs) (v::vs) Q:=q
theorem aT {x:Nat} {v:CV} {Q:aP->al->Prop} (h:lk loc x=none) (q:Q (cu loc x (.val v)) σ):lp loc σ x v Q:=by
 unfold lp;rw [h];exact q
theorem gH {x:Nat} {v w:CV} {Q:aP->al->Prop} (h:lk loc x=some (.val w)) (q:Q (cu loc x (.val v)) σ):lp loc σ x v Q:=by
 unfold lp;rw [h];exact q
theorem cn (q:Q (.int (a+b)) σ):dJ s T σ .add (.int a) (.int b) Q:=q
theorem dR (h:Dn (a.length+b.length) 100000=true) (q:Q (.bytes (a++b)) σ):dJ s T σ .add (.bytes a) (.bytes b) Q:=bf h q
theorem dA (q:Q (.int (a-b)) σ):dJ s T σ .sub (.int a) (.int b) Q:=q
theorem eV (h:(eM a||eM b)=true) (q:Q (.int (a*b)) σ):dJ s T σ .mul (.int a) (.int b) Q:=bf h q
theorem jO (h:(E1 0 a.length&&Dn a.length 16&&(dk (-1000) n&&dk n 1000))=true) (q:Q (.bytes (lZ n.toNat a)) σ):dJ s T σ .mul (.bytes a) (.int n) Q:=bf h q
theorem iq (h:(eM b&&!j5 b 0)=true) (q:Q (.int (a.fdiv b)) σ):dJ s T σ .fdiv (.int a) (.int b) Q:=bf h q
theorem eN (h:(!j5 b 0)=true) (q:Q (.int (a.fmod b)) σ):dJ s T σ .mod (.int a) (.int b) Q:=bf h q
theorem g8 (h:(eM a&&(dk 0 b&&dk b 1000))=true) (q:Q (.int (a^b.toNat)) σ):dJ s T σ .pow (.int a) (.int b) Q:=bf h q
theorem xc (q:Q (.int (cond (eB i 0) (-i) i)) σ):cQ s T σ .abs [.int i] Q:=q
theorem mU (h:0<=i) (q:Q (.int i) σ):cQ s T σ .abs [.int i] Q:=by
 show Q (.int (cond (eB i 0) (-i) i)) σ
 have:eB i 0=false:=by rw [gO];simpa using h
 rw [this];exact q
theorem iK (q:Q (.int i) σ):cQ s T σ .int [.int i] Q:=q
theorem fw (h:Dn x.length 100000=true) (q:Q (.int x.length) σ):cQ s T σ .len [.bytes x] Q:=bf h q
theorem ir (h0:am σ i=some (.list l)) (h:Dn l.length 100000=true) (q:Q (.int l.length) σ):cQ s T σ .len [.obj i] Q:=gl h0 (bf h q)
theorem dK (h0:am σ i=some (.list l)) (h1:lx l=some r) (h:(BQ r&&Dn r.length 100000)=true) (q:Q (.bytes r) σ):cQ s T σ .bytes [.obj i] Q:=zh h0 (w0 h1 (bf h q))
theorem yH (q:Q (.bytes x) σ):cQ s T σ .bytes [.bytes x] Q:=q
theorem po (h:(dk 0 b&&eB b 100000)=true) (q:Q (.obj σ.length) (σ++[.rng 0 b 1])):cQ s T σ .range [.int b] Q:=bf h q
theorem ya (h:(dk (-1000) a&&eB a 100000&&(dk (-1000) b&&eB b 100000)&&(dk (-1000) c&&eB c 100000&&!j5 c 0))=true) (q:Q (.obj σ.length) (σ++[.rng a b c])):cQ s T σ .range [.int a,.int b,.int c] Q:=bf h q
theorem kC {a b:Int} {Q:Bool->Prop} (q:Q (eB a b)):dn s T σ .lt (.int a) (.int b) Q:=q
theorem oU {a b:Int} {Q:Bool->Prop} (q:Q (dk a b)):dn s T σ .le (.int a) (.int b) Q:=q
theorem jv {a b:Int} {Q:Bool->Prop} (q:Q (eB b a)):dn s T σ .gt (.int a) (.int b) Q:=q
theorem xx {a b:Int} {Q:Bool->Prop} (q:Q (dk b a)):dn s T σ .ge (.int a) (.int b) Q:=q
theorem uR {a b:Int} {Q:Bool->Prop} (q:Q (j5 a b)):dn s T σ .eq (.int a) (.int b) Q:=q
theorem bw {a b:List Nat} {Q:Bool->Prop} (q:Q (aF a b)):dn s T σ .eq (.str a) (.str b) Q:=q
theorem CX {a b:List Nat} {Q:Bool->Prop} (q:Q (!aF a b)):dn s T σ .ne (.str a) (.str b) Q:=q
theorem wX {a b:List Int} {Q:Bool->Prop} (q:Q (qZ a b)):dn s T σ .eq (.bytes a) (.bytes b) Q:=q
theorem mZ (h:(r0 i x.length&&Dn x.length 100000)=true) (q:Q (.int (x.getD (cx i x.length) 0)) σ):gQ s T σ (.bytes x) (.int i) Q:=bf h q
theorem f0 (h0:am σ k=some (.tup l)) (h1:am l (cx i l.length)=some v) (h:(r0 i l.length&&Dn l.length 100000)=true) (q:Q v σ):gQ s T σ (.obj k) (.int i) Q:=P4 h0 (fA h1 (bf h q))
theorem dm (h0:am σ k=some (.list l)) (h1:am l (cx i l.length)=some v) (h:(r0 i l.length&&Dn l.length 100000)=true) (q:Q v σ):gQ s T σ (.obj k) (.int i) Q:=OG h0 (fA h1 (bf h q))
theorem xn (h:am σ i=some (.list l)):bz σ (.obj i)=2:=by unfold bz;dsimp only;rw [h]
theorem za (h:bz σ o=n) (hk:jK m n=true) (q:eC ih as loc σ fun vs σ'=>cO s σ' m n o vs Q):cond (jK m (bz σ o)) (eC ih as loc σ fun vs σ'=>cO s σ' m (bz σ o) o vs Q) False:=by
 subst h
 rw [hk];exact q
theorem l9 (h0:am σ i=some (.list l)) (q:eC ih as loc σ fun vs σ'=>cO s σ' .append 2 (.obj i) vs Q):cond (jK .append (bz σ (.obj i))) (eC ih as loc σ fun vs σ'=>cO s σ' .append (bz σ (.obj i)) (.obj i) vs Q) False:=za (xn h0) rfl q
theorem ut (h0:am σ i=some (.list l)) (h:Dn l.length 100000=true) (q:Q .none (aU σ i (.list (l++[v])))):cO s σ .append 2 (.obj i) [v] Q:=zh h0 (bf h q)
theorem ji (h:am σ i=some co):aU σ i co=σ:=by
 rw [aO] at h
 rw [eH]
 refine Gu fun k=>?_
 rw [Gv]
 by_cases e:i=k
 ·subst e
  rw [if_pos rfl,if_pos (Ei.mp h).1,h]
 ·rw [if_neg e]
theorem cF (h:am σ i=some co):am (aU σ i co') i=some co':=by
 rw [aO] at h ⊢
 rw [eH]
 have:=(Ei.mp h).1
 simp [this]
theorem jl:aU (aU σ i a) i b=aU σ i b:=by rw [eH,eH,eH,List.set_set]
theorem au (h:am σ i=some co):am (σ++τ) i=some co:=by
 rw [aO] at h ⊢
 rw [Eo (Ei.mp h).1];exact h
theorem bx:am (σ++τ) (σ.length+k)=am τ k:=by
 rw [aO,aO,DO (Ex _ _),FD]
theorem aS:am (σ++τ) σ.length=am τ 0:=bx (k:=0)
theorem fj:aU (σ++τ) (σ.length+k) v=σ++aU τ k v:=by
 rw [eH,eH,List.set_append_right _ _ (Ex _ _),FD]
theorem bU:aU (σ++τ) σ.length v=σ++aU τ 0 v:=fj (k:=0)
theorem ai (h:T.ct f=none) (q:(aj T N).c f as σ Q):dD T (aj T N) f as σ Q:=by
 unfold dD;rw [h];exact q
theorem aY (h:T.ct f=some P) (q:P as σ Q):dD T ih f as σ Q:=by
 unfold dD;rw [h];exact q
theorem bZ (h:T.fn f=some fi) (h2:ix fi as=some loc) (h3:fi.cells=[]) (q:(aj T N).b fi.body loc σ (Sf Q)):(aj T (N+1)).c f as σ Q:=by
 show nE T (aj T N) f as σ Q
 unfold nE
 simp only [h,h2,h3]
 exact q
end
def nL (T:Tab) (loc:aP) (c:CE):Option CV:=match c with
 |.cst v=>some v
 |.loc x=>(match lk loc x with|some (.val v)=>some v|_=>none)
 |.glb x=>T.gv x
 |_=>none
def ats (T:Tab) (loc:aP):List CE->Option (List CV)
 |[]=>some []
 |c::l=>(match nL T loc c with
  |some v=>(match ats T loc l with|some vs=>some (v::vs)|none=>none)
  |none=>none)
theorem lf (h:nL T loc c=some v) (q:Q v σ):(aj T (N+1)).e c loc σ Q:=by
 cases c with
 |cst=>cases h;exact q
 |loc x=>
  unfold nL at h
  dsimp only at h
  cases e:lk loc x with
  |none=>rw [e] at h;cases h
  |some lv=>cases lv with
   |val w=>rw [e] at h;cases h;exact ae e q
   |cell=>rw [e] at h;cases h
 |glb=>exact fk h q
 |_=>cases h
theorem av:∀{l:List CE} {vs:List CV} {Q:List CV->al->Prop},ats T loc l=some vs->Q vs σ->eC (aj T (N+1)) l loc σ Q:=by
 intro x0
 induction x0 with
 |nil=>
  intro _ _ h q
  cases h;exact q
 |cons c l ihh=>
  intro _ _ h q
  unfold ats at h
  cases e:nL T loc c with
  |none=>rw [e] at h;cases h
  |some v=>
   rw [e] at h
   cases e2:ats T loc l with
   |none=>rw [e2] at h;cases h
   |some vs=>rw [e2] at h;cases h;exact ac (lf e (ihh e2 q))
theorem dO {c:CE} {l:List CE} {Q:List CV->al->Prop} (h:nL T loc c=some v) (q:eC (aj T (N+1)) l loc σ (Cu Q v)):eC (aj T (N+1)) (c::l) loc σ Q:=ac (lf h q)
theorem dU {o:Aq} (h:nL T loc a=some v) (h2:nL T loc b=some w) (q:dJ s T σ o v w Q):(aj T (N+2)).e (.bin s o a b) loc σ Q:=aH (lf h (lf h2 q))
theorem bX {o:Aq} (h:nL T loc a=some v) (q:(aj T (N+1)).e b loc σ (B9 s T Q o v)):(aj T (N+2)).e (.bin s o a b) loc σ Q:=aH (lf h q)
theorem mN {o:pk} (h:nL T loc a=some v) (h2:nL T loc b=some w) (q:dn s T σ o v w (QV (TH Q) σ)):(aj T (N+2)).e (.cmp s a [(o,b)]) loc σ Q:=jC (lf h (lf h2 q))
theorem bj (h:ats T loc as=some vs) (q:dD T (aj T (N+1)) f vs σ Q):(aj T (N+2)).e (.calF f as) loc σ Q:=aK (av h q)
theorem bh {b:Bf} (h:ats T loc as=some vs) (q:cQ s T σ b vs Q):(aj T (N+2)).e (.calB s b as) loc σ Q:=be (av h q)
theorem di (h:nL T loc o=some v) (h2:nL T loc i=some w) (q:gQ s T σ v w Q):(aj T (N+2)).e (.sub s o i) loc σ Q:=eO (lf h (lf h2 q))
theorem jd {o:pk} {Q:Bool->al->Prop} (h:nL T loc a=some v) (q:(aj T (N+1)).e b loc σ (CB s T Q o v)):(aj T (N+2)).t (.cmp s a [(o,b)]) loc σ Q:=aA (lf h q)
theorem fH {o:pk} {Q:Bool->al->Prop} (h:nL T loc a=some v) (h2:nL T loc b=some w) (q:dn s T σ o v w (QV Q σ)):(aj T (N+2)).t (.cmp s a [(o,b)]) loc σ Q:=aA (lf h (lf h2 q))
theorem bJ (q:(aj T N).t t loc σ (EQ s (aj T N) loc (sR T (N+1) Q l) th el)):(aj T (N+1)).b (.ite s t th el::l) loc σ Q:=q
theorem jB {o:pk} (h:nL T loc x=some v) (h2:nL T loc y=some w) (q:dn s2 T σ o v w (QV (EQ s (aj T (N+2)) loc (sR T (N+3) Q l) th el) σ)):(aj T (N+3)).b (.ite s (.cmp s2 x [(o,y)]) th el::l) loc σ Q:=bJ (fH h h2 q)
theorem TF {v w:List Nat} (h:nL T loc x=some (.str v)) (h2:nL T loc y=some (.str w)) (h3:aF v w=false) (q:(aj T (N+3)).b l loc σ Q):(aj T (N+3)).b (.ite s (.cmp s2 x [(.eq,y)]) th []::l) loc σ Q:=jB h h2 (bw (ar h3 (aJ q)))
theorem wV {v w:List Nat} (h:nL T loc x=some (.str v)) (h2:nL T loc y=some (.str w)) (h3:aF v w=true) (q:(aj T (N+2)).b th loc σ (sR T (N+3) Q l)):(aj T (N+3)).b (.ite s (.cmp s2 x [(.eq,y)]) th el::l) loc σ Q:=jB h h2 (bw (aI h3 q))
theorem dw {x:Nat} (q:(aj T N).e e loc σ (Qy loc (sR T (N+1) Q l) x)):(aj T (N+1)).b (.asg x e::l) loc σ Q:=q
theorem cC (q:(aj T N).e e loc σ (PL loc (sR T (N+1) Q l))):(aj T (N+1)).b (.ret (some e)::l) loc σ Q:=q
theorem B7 (h:nL T loc e=some v) (q:Q (.ret v) loc σ):(aj T (N+2)).b (.ret (some e)::l) loc σ Q:=cC (lf h q)
theorem lV (q:(aj T N).e e loc σ (Oz loc (sR T (N+1) Q l))):(aj T (N+1)).b (.xpr e::l) loc σ Q:=q
noncomputable abbrev dl:List Nat:=[101,100,105,116,101,100]
noncomputable abbrev gV:List Nat:=[103,114,111,117,112]
def gN (k:List Nat) (d s:Nat):al->bu->Prop:=fun σ Q=>(true=true/\Q (.obj σ.length) (σ++zW σ.length (jF k d s)))
noncomputable abbrev f8 (k:List Nat) (d s:Nat):Prop:=gN k d s=gB ((aj TB 150).c 87) [.str k,.int d,.int s]
theorem Qo (h:f8 k d s) (q:gN k d s σ Q):gB ((aj TB 150).c 87) [.str k,.int d,.int s] σ Q:=cast (congrFun (congrFun h σ) Q) q
def pV (k:List Nat) (n:Nat):al:=
 cond (aF k gV) [.inst 4 1,.attrs [(11,.str gV),(5,.int n),(63,.none),(85,.str [100,105,115,112,108,97,121]),(14,.str [116,114,97,105,108,105,110,103]),(86,.bool false),(87,.bool false),(79,.bool false),(12,.int (0:Nat)),(2,.int (0:Nat)),(13,.bool false)]]
  (cond (aF k gf) (pN [97,108,110,117,109,45,101,100,105,116,101,100] n [100,105,115,112,108,97,121] false 0 0 false ([88,66]++Dp (n-2) 88) n [([88],1),([66],1),([88],n-2)])
   (cond (aF k lU) (pN [97,108,112,104,97,98,101,116,105,99] n [100,105,115,112,108,97,121] false 0 0 false [65,40,dg n,41] n [([65],n)])
    (pN [97,108,112,104,97,110,117,109,101,114,105,99] n [100,105,115,112,108,97,121] (aF k i5) 0 0 false [88,40,dg n,41] n [([88],n)])))
def gT (k:List Nat) (n:Nat):al->bu->Prop:=fun σ Q=>(true=true/\Q (.obj σ.length) (σ++zW σ.length (pV k n)))
noncomputable abbrev wP (k:List Nat) (n:Nat):Prop:=gT k n=gB ((aj TB 150).c 86) [.str k,.int n]
theorem Of (h:wP k n) (q:gT k n σ Q):gB ((aj TB 150).c 86) [.str k,.int n] σ Q:=cast (congrFun (congrFun h σ) Q) q
theorem UH {P:Nat->Prop} {s:Nat} (h:s<=2) (p0:P 0) (p1:P 1) (p2:P 2):P s:=by
 rcases (by decide:∀s,s<3->s=0\/s=1\/s=2) s (Ft h) with rfl|rfl|rfl<;>assumption
theorem T3 {P:Nat->Prop} {s:Nat} (h:s<=3) (p0:P 0) (p1:P 1) (p2:P 2) (p3:P 3):P s:=by
 rcases (by decide:∀s,s<4->s=0\/s=1\/s=2\/s=3) s (Ft h) with rfl|rfl|rfl|rfl<;>assumption
theorem NZ {P:Nat->Prop} {s:Nat} (h:s<=4) (p0:P 0) (p1:P 1) (p2:P 2) (p3:P 3) (p4:P 4):P s:=by
 rcases (by decide:∀s,s<5->s=0\/s=1\/s=2\/s=3\/s=4) s (Ft h) with rfl|rfl|rfl|rfl|rfl<;>assumption
theorem Td {P:Nat->Prop} {s:Nat} (h:2<=s) (h':s<=9) (p2:P 2) (p3:P 3) (p4:P 4) (p5:P 5) (p6:P 6) (p7:P 7) (p8:P 8) (p9:P 9):P s:=by
 rcases (by decide:∀s,s<10->2<=s->s=2\/s=3\/s=4\/s=5\/s=6\/s=7\/s=8\/s=9) s (Ft h') h with rfl|rfl|rfl|rfl|rfl|rfl|rfl|rfl<;>assumption
theorem QT {P:Nat->Prop} {s:Nat} (h:3<=s) (h':s<=9) (p3:P 3) (p4:P 4) (p5:P 5) (p6:P 6) (p7:P 7) (p8:P 8) (p9:P 9):P s:=by
 rcases (by decide:∀s,s<10->3<=s->s=3\/s=4\/s=5\/s=6\/s=7\/s=8\/s=9) s (Ft h') h with rfl|rfl|rfl|rfl|rfl|rfl|rfl<;>assumption
theorem BH (h1:2<=d) (h2:d<=9) (h3:s<=4) (h4:s<=d) (a20:f8 k 2 0) (a21:f8 k 2 1) (a22:f8 k 2 2) (a30:f8 k 3 0) (a31:f8 k 3 1) (a32:f8 k 3 2) (a33:f8 k 3 3) (a40:f8 k 4 0) (a41:f8 k 4 1) (a42:f8 k 4 2) (a43:f8 k 4 3) (a44:f8 k 4 4) (a50:f8 k 5 0) (a51:f8 k 5 1) (a52:f8 k 5 2) (a53:f8 k 5 3) (a54:f8 k 5 4) (a60:f8 k 6 0) (a61:f8 k 6 1) (a62:f8 k 6 2) (a63:f8 k 6 3) (a64:f8 k 6 4) (a70:f8 k 7 0) (a71:f8 k 7 1) (a72:f8 k 7 2) (a73:f8 k 7 3) (a74:f8 k 7 4) (a80:f8 k 8 0) (a81:f8 k 8 1) (a82:f8 k 8 2) (a83:f8 k 8 3) (a84:f8 k 8 4) (a90:f8 k 9 0) (a91:f8 k 9 1) (a92:f8 k 9 2) (a93:f8 k 9 3) (a94:f8 k 9 4):f8 k d s:=
 Td (P:=fun d=>s<=4->s<=d->f8 k d s) h1 h2 (fun h h'=>UH h' a20 a21 a22) (fun h h'=>T3 h' a30 a31 a32 a33) (fun h h'=>NZ h a40 a41 a42 a43 a44) (fun h h'=>NZ h a50 a51 a52 a53 a54) (fun h h'=>NZ h a60 a61 a62 a63 a64) (fun h h'=>NZ h a70 a71 a72 a73 a74) (fun h h'=>NZ h a80 a81 a82 a83 a84) (fun h h'=>NZ h a90 a91 a92 a93 a94) h3 h4
theorem na (B:K8 A₀ base outer h₀) (F:Fr h₀ L s.heap m) (N:HM h₀ L s.heap news) (hlim:h₀.NoLimit) (hA:A.frames=some (env::outer)) (hf:env.frame=some L) (hke:env.scope.kind=.function)
  (ho:s.heap.get? f=some fo) (hd:fo.data=.func (fnX name qual params body scope [] dV kV doc pm an cdv ct)) (hcd:s.heap.CodeRec cdv qual) (hroom:A.depth<recursionLimit)
  (hbind:Li s (fnX name qual params body scope [] dV kV doc pm an cdv ct) args binds)
  (hkind:∀n,∀x∈binds,scope.names.lookup x.1=some .local\/(scope.names.lookup x.1=some .cell/\((cellsFrom n scope.names []).lookup x.1).isSome=true))
  (hnd:((cellsFrom 0 scope.names []).map (·.1)).Nodup)
  (h:∀g L' h₁ tk cells,Fr h₀ L g m->Fr g L' h₁ (FF (envOfC qual scope L' f cdv).kindOf binds fun Z0=>none)->HM g L' h₁ (cells++news)->
   CellsAre (FW (envOfC qual scope L' f cdv).kindOf binds fun Z0=>none) (cellsFrom (L'+1) scope.names []) cells->K8 A base (env::outer) g->h₀.StaysIn g->(∀p∈news,p.1<L')->
   aq (model prog w) (A.deeper (envOfC qual scope L' f cdv)) (execs body (envOfC qual scope L' f cdv))
    (fun fl s'=>R (.ok (.ret (match fl with|.ret v=>v|_=>.none))) s')
    (fun e s'=>aq (model prog w) (A.deeper (envOfC qual scope L' f cdv)) (leaving (envOfC qual scope L' f cdv) e) (fun Z0 s''=>R (.error e) s'') (fun e' s''=>R (.error e') s'') s')
    (aQ s h₁ tk))
  (hco:scope.isCoroutine=false:=by rfl) (hgen:scope.isGenerator=false:=by rfl) (hk:scope.kind=.function:=by rfl):bg (model prog w) A (.call (.ref f) args) R s:=by
 refine iG (groundX (R:=R) B F N hA hf hke) fun FG BG st lv=>qb hroom ho hd hco hgen rfl hcd (hbind _ _ _ _ (G7 hk (hkind _) fun env' he s' x=>?_))
 subst he
 refine ⟨(hlim.keeps F.keep).keeps x.toInCall.keep,xr ?_⟩
 refine dG x.done fun h₁ tk zz3 Z0=>?_
 subst zz3
 have hk₁:=x.toInCall.keep
 refine ay (Cl.news (h₀:=s.heap) (DQ _) fun n c hm=>⟨x.cell n c (IS (FV scope.names 0 (s.heap.objs.size+1) [] [] rfl▸hnd) hm),x.above n c hm⟩) fun cells NC Y=>h _ s.heap.objs.size h₁ tk cells FG ⟨x.toInCall.ns,fun b o e=>hk₁ b o (of_hideAll _ e),Eg (hideAll_size _ _)⟩ (fun p hp=>?_) Y BG st (fun p hp=>DT (N p hp).1)
 rcases DL.mp hp with hp|hp
 ·refine ⟨(NC p hp).1,(NC p hp).2.1,?_⟩
  cases q:(hideAll s.heap (news.map (·.1))).get? p.1 with
  |none=>rfl
  |some o=>have:=of_hideAll _ q;rw [(NC p hp).2.2] at this;cases this
 ·exact ⟨hk₁ _ _ (N p hp).1,D9 (DT (N p hp).1),hideAll_none _ (DE hp)⟩
theorem zJ (B:K8 A base outer h₀) (kp:∀b o,h₀.get? b=some o->s.heap.get? b=some o) (hsz:h₀.objs.size<=s.heap.objs.size) (N:∀p∈news,s.heap.get? p.1=some p.2/\h₀.get? p.1=none) (hlim:h₀.NoLimit)
  (ho:s.heap.get? f=some fo) (hd:fo.data=.func (fnX name qual params body scope [] dV kV doc pm an cdv ct)) (hcd:s.heap.CodeRec cdv qual) (hroom:A.depth<recursionLimit)
  (hbind:Li s (fnX name qual params body scope [] dV kV doc pm an cdv ct) args binds)
  (hkind:∀n,∀x∈binds,scope.names.lookup x.1=some .local\/(scope.names.lookup x.1=some .cell/\((cellsFrom n scope.names []).lookup x.1).isSome=true))
  (hnd:((cellsFrom 0 scope.names []).map (·.1)).Nodup)
  (h:∀L' h₁ tk cells,Fr h₀ L' h₁ (FF (envOfC qual scope L' f cdv).kindOf binds fun Z0=>none)->HM h₀ L' h₁ (cells++news)->
   CellsAre (FW (envOfC qual scope L' f cdv).kindOf binds fun Z0=>none) (cellsFrom (L'+1) scope.names []) cells->(∀p∈news,p.1<L')->(∀b o,s.heap.get? b=some o->h₁.get? b=some o)->
   aq (model prog w) (A.deeper (envOfC qual scope L' f cdv)) (execs body (envOfC qual scope L' f cdv))
    (fun fl s'=>R (.ok (.ret (match fl with|.ret v=>v|_=>.none))) s')
    (fun e s'=>aq (model prog w) (A.deeper (envOfC qual scope L' f cdv)) (leaving (envOfC qual scope L' f cdv) e) (fun Z0 s''=>R (.error e) s'') (fun e' s''=>R (.error e') s'') s')
    (aQ s h₁ tk))
  (hco:scope.isCoroutine=false:=by rfl) (hgen:scope.isGenerator=false:=by rfl) (hk:scope.kind=.function:=by rfl):bg (model prog w) A (.call (.ref f) args) R s:=by
 refine qb hroom ho hd hco hgen rfl hcd (hbind _ _ _ _ (G7 hk (hkind _) fun env' he s' x=>?_))
 subst he
 refine ⟨(hlim.keeps kp).keeps x.toInCall.keep,xr ?_⟩
 refine dG x.done fun h₁ tk zz6 Z0=>?_
 subst zz6
 have hk₁:=x.toInCall.keep
 refine ay (Cl.news (h₀:=s.heap) (DQ _) fun n c hm=>⟨x.cell n c (IS (FV scope.names 0 (s.heap.objs.size+1) [] [] rfl▸hnd) hm),x.above n c hm⟩) fun cells NC Y=>h s.heap.objs.size h₁ tk cells ⟨x.toInCall.ns,fun b o e=>hk₁ b o (kp b o e),hsz⟩ (fun p hp=>?_) Y (fun p hp=>DT (N p hp).1) hk₁
 rcases DL.mp hp with hp|hp
 ·refine ⟨(NC p hp).1,(NC p hp).2.1,?_⟩
  cases q:h₀.get? p.1 with
  |none=>rfl
  |some o=>have:=kp _ _ q;rw [(NC p hp).2.2] at this;cases this
 ·exact ⟨hk₁ _ _ (N p hp).1,D9 (DT (N p hp).1),(N p hp).2⟩
section
variable {R:Lj->Dm->Prop} {h:DI} {g:Array GenState} {d:Drawn} {t:Nat} {os:Hp}
variable {sub:List Dk} {ab:Bool} {col:Option Bool} {dd:Option Du} {k0 k1 k2 k3 k5:Option Dk}
theorem AW (T:String) (hT:T="Exception"\/T="BaseException"\/T="object"):(Fz C::o6 P).contains (.type T)=true:=by rcases hT with rfl|rfl|rfl<;>simp
theorem BX (T:String) (h1:T≠"Exception") (h2:T≠"BaseException") (h3:T≠"object"):(Fz C::o6 P).contains (.type T)=false:=by simp [h1,h2,h3]
theorem nX (hC:h.get? C=some (excClassObj nm q C N bs (o6 P) hdct sn sub ab col dd k0 k1 k2 k3 k5 "Exception.__new__"))
  (hq:Q () ⟨h,g,d,t,os⟩):wpAny M A (checkBuiltinCall "Exception.__new__" ⟨.ref C::rest,[]⟩) Q E ⟨h,g,d,t,os⟩:=by
 have Fn:=Fb
 have hstar:=Fn.noStar
 rw [checkBuiltinCall,Fn.newKind,Fn.newSplit,Fn.newRow]
 repeat (first|refine EV hC ?_|(refine Gn hC ?_;rw [(AW (C:=C) (P:=P) "Exception" (.inl rfl))])|refine wpAny_staticBase_exc hC ?_|refine wpAny_madeBy_exc hC ?_|refine eX (by first|rfl|exact bne_self_eq_false _) ?_|wp_step)
 exact hq
theorem Bm (hC:h.get? C=some (excClassObj nm q C N bs (o6 P) hdct sn sub ab col dd k0 k1 k2 k3 k5 "Exception.__new__"))
  (hq:R (.ok (.ret (.ref (h.objs.size+1)))) ⟨(h.push {cls:=.type "tuple",data:=.seq rest.toArray}).push
   {cls:=.ref C,data:=.fields #[.ref h.objs.size,.none,.none,.none,.bool false,.none]},g,d,t,os⟩) (hrest:rest.length<=sizeLine):
  codeAny (model prog w) A (.builtin "Exception.__new__" ⟨.ref C::rest,[]⟩) R ⟨h,g,d,t,os⟩:=by
 have Fn:=Fb
 have hends:=Fn.ends
 refine codeAny_builtinAt Fn.entry (LB (LB (PySem.wpAt_stack fun p below=>Kz ?_)))
 wp_walk
 refine Kz ?_
 rw [Fn.owner]
 repeat (first|with_reducible refine wpAny_madeHere_exc Fn.canon hC ?_|with_reducible refine EV hC ?_|(with_reducible refine Gn hC ?_;first|rw [(AW (C:=C) (P:=P) "Exception" (.inl rfl))]|rw [(BX (C:=C) (P:=P) "AttributeError" (by decide) (by decide) (by decide))]|rw [(BX (C:=C) (P:=P) "NameError" (by decide) (by decide) (by decide))])|wp_step)
 rw [JI]
 exact hq
theorem nN
  (hC:h.get? C=some (excClassObj nm q C N bs (o6 P) hdct sn sub ab col dd k0 k1 k2 k3 k5 "Exception.__new__")) (hi:Looks (model prog w) h (typeLookup (.ref C) "__init__") (some (.ref fI)))
  (hfI:h.get? fI=some oI) (hfc:oI.cls=.type "function")
  (hq:∀h' e,JK h h' e (.ref C) rest->
   wpAny (model prog w) A (call (.ref fI) (.ref e::rest)) (fun r s'=>r=.none/\Q (.done (.ret (.ref e))) s') E ⟨h',g,d,t,os⟩) (hrest:rest.length<=sizeLine):
  wpAny (model prog w) A (D1.«type.__call__» ⟨.ref C::rest,[]⟩) Q E ⟨h,g,d,t,os⟩:=by
 repeat (first|with_reducible refine EV hC ?_|with_reducible refine wpAny_madeBy_exc hC ?_|wp_step)
 refine codeAny_call_builtin_code (GR _ (Fb).quiet) (nX hC (Bm hC ?_ hrest))
 have kp:∀b o,h.get? b=some o->((h.push {cls:=.type "tuple",data:=.seq rest.toArray}).push {cls:=.ref C,data:=.fields #[.ref h.objs.size,.none,.none,.none,.bool false,.none]}).get? b=some o:=fun b o e=>Dt _ (Dt _ e)
 have hfI₁:=kp _ _ hfI
 have hget:((h.push {cls:=.type "tuple",data:=.seq rest.toArray}).push
   {cls:=.ref C,data:=.fields #[.ref h.objs.size,.none,.none,.none,.bool false,.none]}).get? (h.objs.size+1)=some
   {cls:=.ref C,data:=.fields #[.ref h.objs.size,.none,.none,.none,.bool false,.none]}:=by heap_get
 repeat (first|with_reducible refine EV hget ?_|(with_reducible refine Gn (kp _ _ hC) ?_;rw [(by simp:(Fz C::o6 P).contains (.ref C)=true)])|wp_step)
 refine hi _ _ _ _ kp (Gr (Dj (Dj (wpAny_typeOf (T:="function") ⟨_,hfI₁,hfc⟩ ?_))))
 rw [if_pos (by decide)]
 refine Dx (Dj (FU (hq _ (h.objs.size+1) ⟨kp,Kx (Nat.le_succ _),h.objs.size,hget,Kx (DQ _),?_⟩) (fun r s' hr=>?_) fun Z0 Z0 x=>x))
 ·exact Dt _ (DI.get?_push_at rfl rfl)
 ·refine aD hr fun zz1 hQ=>?_
  clear hr
  subst zz1
  wp_walk
  exact hQ
theorem yi
  (hC:h.get? C=some (excClassObj nm q C N bs (o6 P) hdct sn sub ab col dd k0 k1 k2 k3 k5 "Exception.__new__")) (hi:Looks (model prog w) h (typeLookup (.ref C) "__init__") (some (.ref fI)))
  (hfI:h.get? fI=some oI) (hfc:oI.cls=.type "function")
  (hq:∀h' e,JK h h' e (.ref C) rest->
   wpAny (model prog w) (A.under (.builtin "type.__call__" ⟨.ref C::rest,[]⟩)) (call (.ref fI) (.ref e::rest)) (fun r s'=>r=.none/\Q (.ref e) s') E ⟨h',g,d,t,os⟩) (hrest:rest.length<=sizeLine):
  wpAny (model prog w) A (call (.ref C) rest) Q E ⟨h,g,d,t,os⟩:=by
 have f1:=tc_lookup
 have f2:=tc_bind (.ref C)
 have hT:(⟨h,g,d,t,os⟩:Dm).TypeIs (.ref C) "type":=⟨_,hC,rfl⟩
 refine Ji (Ib ?_)
 repeat (any_goals (first|assumption|with_reducible refine EV hC ?_|wp_step))
 refine ⟨rfl,?_⟩
 exact codeAny_call_builtin_at (GR _ (by decide+kernel)) entry_typeCall (wpAny_check_type_call_sub hC (nN hC hi hfI hfc (fun h' e hm=>hq h' e hm) hrest))
end
section
variable {sub:List Dk} {ab:Bool} {col:Option Bool} {dd:Option Du} {k0 k1 k2 k3 k5:Option Dk}
theorem vM (hh:A.handled=none)
  (h:wpAny M A x (fun v s₁=>∃e od vs,v=.ref e/\s₁.heap.get? C=some (excClassObj nm q C N bs (o6 P) hdct sn sub ab col dd k0 k1 k2 k3 k5 "Exception.__new__")/\
   s₁.heap.get? e=some {cls:=.ref C,dict:=od,data:=.fields vs}/\vs[1]?=some .none/\E (.ref e) s₁) E s):
  wpAny M A (raiseStmt env (some x) none) Q E s:=by
 refine Dj (FU h (fun v s₁ h₁=>?_) fun Z0 Z0 x=>x)
 refine Pi h₁ fun e od vs zz1 hC he hv hE=>?_
 clear h₁
 subst zz1
 obtain ⟨hp,g,d,tk,os⟩:=s₁
 repeat (first|with_reducible refine (fun hq=>EA he rfl hv hq) ?_|with_reducible refine EV he ?_|with_reducible refine EV hC ?_|(with_reducible refine Gn hC ?_;rw [(AW (C:=C) (P:=P) "BaseException" (.inr (.inl rfl)))])|wp_step)
 exact wpAny_raiseNew_none hh hE
theorem vQ
  (hh:A.handled=none) (hplain:(backTo cpos (starEach args env)).any (·.1)=false)
  (h:wpAny (model prog w) A (eval (.Name x np) env) (fun f s₁=>f=.ref C/\wpAny (model prog w) A (evalArgs (.ref C) true (backTo cpos (starEach args env)) [])
   (fun a s₂=>a.kw=[]/\a.pos.length<=sizeLine/\s₂.heap.get? C=some (excClassObj nm q C N bs (o6 P) hdct sn sub ab col dd k0 k1 k2 k3 k5 "Exception.__new__")/\Looks (model prog w) s₂.heap (typeLookup (.ref C) "__init__") (some (.ref fI))/\
    s₂.heap.get? fI=some oI/\oI.cls=.type "function"/\
    ∀h' e,JK s₂.heap h' e (.ref C) a.pos->wpAny (model prog w) (A.under (.builtin "type.__call__" ⟨.ref C::a.pos,[]⟩)) (call (.ref fI) (.ref e::a.pos)) (fun r s'=>r=.none/\
     s'.heap.get? C=some (excClassObj nm q C N bs (o6 P) hdct sn sub ab col dd k0 k1 k2 k3 k5 "Exception.__new__")/\∃od vs,s'.heap.get? e=some {cls:=.ref C,dict:=od,data:=.fields vs}/\vs[1]?=some .none/\E (.ref e) s') E {s₂ with heap:=h'}) E s₁) E s):
  wpAny (model prog w) A (exec (.Raise (some (.Call (.Name x np) args [] cpos)) none pos) env) Q E s:=by
 rw [arm_exec_Raise]
 refine Dj (GM (vM (C:=C) (nm:=nm) (q:=q) (N:=N) (bs:=bs) (P:=P) (hdct:=hdct) (sn:=sn) (sub:=sub) (ab:=ab) (col:=col) (dd:=dd) (k0:=k0) (k1:=k1) (k2:=k2) (k3:=k3) (k5:=k5) hh (Dj (FU (wpAny_Call_ofName (FU h (fun f s₁ h₁=>?_) fun Z0 Z0 x=>x)) (fun v s₃ h₃=>Dj (GM (Dx h₃))) fun Z0 Z0 x=>x))))
 obtain ⟨rfl,h₁⟩:=h₁
 refine Dj (Gr (FU h₁ (fun a s₂ h₂=>Dj (GM ?_)) fun Z0 Z0 x=>x))
 obtain ⟨apos,akw⟩:=a
 refine M9 h₂ fun hkw hlen hC hi hfI hfc h₂=>?_
 obtain rfl:akw=[]:=hkw
 obtain ⟨hp,g,d,tk,os⟩:=s₂
 rw [hplain]
 refine Dj (wpAny_keeperOf_exc hC (Dj (yi hC hi hfI hfc (fun h' e hm=>?_) hlen)))
 refine FU (h₂ h' e hm) (fun r s' z=>?_) fun Z0 Z0 z=>z
 obtain ⟨rfl,hC',od,vs,he,hv,hE⟩:=z
 exact ⟨rfl,Dj (Gr (LY (Dx ⟨e,od,vs,rfl,hC',he,hv,hE⟩)))⟩
end
theorem mz {id i:String} {a:Args} (h:nM (.builtin id a)=true) (hi:iY.contains i=true):id≠i:=by
 rintro rfl
 unfold nM at h
 simp only at h
 rw [hi] at h
 cases h
theorem pj (h:Q false s):aq M A (IQ self) Q E s:=by
 intro J p i n o
 rw [Sem.wp_bind,Sem.wp_stack]
 have key:∀x∈(J.code,p)::J.below,nM x.1=true:=by
  intro x hx
  rcases Dv.mp hx with rfl|hx
  ·exact o
  ·exact n x hx
 generalize hl:(J.code,p)::J.below=l at key
 rw [Sem.wp_pure,Sem.wp_pure']
 refine cast (congrArg (fun b=>Q b s) (?_:false=_)) h
 symm
 rw [List.any_eq_false]
 intro x hx
 have k:=key x hx
 rw [Lv]
 obtain ⟨c,p⟩:=x
 cases c with
 |builtin id a=>
  delta Ku
  refine (dif_neg (mz (i:="bytearray.__contains__") k (by decide+kernel))).trans ((dif_neg (mz (i:="bytearray.__mod__") k (by decide+kernel))).trans ((dif_neg (mz (i:="bytearray.__rmod__") k (by decide+kernel))).trans ((dif_neg (mz (i:="_struct.pack_into.held") k (by decide+kernel))).trans ((dif_neg (mz (i:="bytearray.find.held") k (by decide+kernel))).trans ?_))))
  obtain ⟨pos,kw⟩:=a
  cases pos with
  |nil=>rfl
  |cons v r=>
   have:HD.contains id=false:=by
    unfold nM at k
    simp only [Ec] at k
    unfold iY at k
    rw [JV,List.any_append,Fp] at k
    rw [JV]
    exact k.2
   exact (congrArg (D1.Bytes.sameRef v self&&·) this).trans (JJ _)
 |_=>rfl
theorem k9:Slot "bytearray" "append" "bytearray.append":=
 Slot.of (T:="bytearray") (name:="append") (owner:="bytearray") (n:="append") (by rw [Ee,DX];kernel_rfl) (by decide+kernel) (by decide+kernel) (by decide+kernel)
  (.inr (by decide+kernel)) (by rw [FO];kernel_rfl)
theorem tu:entryFor table "bytearray.append"=some D1.«bytearray.append»:=JO (by kernel_rfl)
theorem vV (a b:Dk):argsOk "bytearray.append" ⟨[a,b],[]⟩:=by unfold argsOk;kernel_rfl
theorem km {h:DI} {a:Du} {o:Obj} {f g:Obj->Obj} (ho:h.get? a=some o) (e:f o=g o):h.update a f=h.update a g:=by
 obtain ⟨objs,l⟩:=h
 have ho':objs[a]?=some o:=(DI.get?_some_iff.mp ho).1
 show (⟨objs.modify a f,l⟩:DI)=⟨objs.modify a g,l⟩
 congr 1
 apply Array.ext_getElem?
 intro i
 rw [Hr,Hr]
 by_cases hi:a=i
 ·subst hi
  simp only [if_true,ho',Fi,e]
 ·simp only [if_neg hi]
theorem kn (ho:s.heap.get? a=some (cH b)) (h:Q () s):aq (model prog w) A (D1.Bytes.checkResize (.ref a)) Q E s:=by
 exact aa (aa (pj (aa (nn (Dj (GL ho (Dx (ad (ad h)))))))))
theorem qs {a:Du} {b:Array UInt8} {f:Array UInt8->Array UInt8} {Q:Unit->Dm->Prop} (ho:s.heap.get? a=some (cH b)) (hl:(f b).size<=1000000)
  (h:Q () {s with heap:=s.heap.update a (fun Z0=>cH (f b))}):wpAny (model prog w) A (Jm (.ref a) f) Q E s:=by
 refine Dj (GL ho (Dj (wpAny_update ho ?_)))
 rw [(show s.heap.update a (Obj.mapBytearray f)=s.heap.update a (fun Z0=>cH (f b)) from km ho rfl)]
 exact wpAny_lookBehind (o:=cH (f b)) (Fc (fun Z0=>cH (f b)) ho rfl) (by
  unfold IK.pastItsLine
  simp only
  rw [if_neg]
  have:(f b).size<2^24:=DY hl (by decide)
  show ¬(f b).size > 2^24
  lia) h
theorem Rb (ho:s.heap.get? a=some (cH b)) (h0:0<=c) (h1:c<256) (hl:b.size<=100000)
  (h:∀tk,Q .none (aQ s (s.heap.update a (fun Z0=>cH (b.push c.toNat.toUInt8))) tk)):aq (model prog w) A (call (.builtin "bytearray.append") [.ref a,.int c t]) Q E s:=by
 refine dy (bP (Gs k9.plain _) (by show (!(iY.contains "bytearray.append"))=true;decide+kernel) tu (nn (k9.check _ _ _ _ _ _ _ _ ⟨_,ho,rfl⟩ (vV _ _) ?_)))
 have e:selfAndOne "bytearray.append" {pos:=[Fz a,HQ c t]}=pure (.ref a,.int c t):=rfl
 rw [e]
 refine aa (ad ?_)
 have e2:D1.Bytes.byteValue (.int c t)=pure c.toNat.toUInt8:=by
  show (pure c >>=_)=_
  rw [pure_bind,if_neg (by simp;lia)]
 dsimp only
 rw [e2]
 refine aa (ad (aa (kn ho (aa (nn (qs ho (by simp;lia) (ad (h _))))))))
theorem AP:typeOf (.builtin "bytearray.append")=pure (.type "method_descriptor"):=by show builtinType _=_;rw [builtinType_eq_fast];kernel_rfl
theorem QP:PlainAttrs "bytearray":=
 ⟨⟨"bytearray.__getattribute__",by rw [Ee,DX];kernel_rfl,by decide+kernel⟩,by rw [Ee,DX];kernel_rfl⟩
theorem rQ:typeLookup (.type "bytearray") "__bytes__"=pure none:=by rw [Ee,DX];kernel_rfl
theorem rk:typeLookup (.type "bytearray") "__index__"=pure none:=by rw [Ee,DX];kernel_rfl
theorem ll:typeLookup (.type "bytearray") "__buffer__"=pure (some (.builtin "bytearray.__buffer__")):=by rw [Ee,DX];kernel_rfl
theorem nq:typeLookup (.type "bytearray") "__release_buffer__"=pure (some (.builtin "bytearray.__release_buffer__")):=by rw [Ee,DX];kernel_rfl
theorem yT:isSubtype (.type "bytearray") (.type "bytearray")=pure true:=by rw [FO];kernel_rfl
theorem jN {a:Du} {b:Array UInt8} {name id:String} {Q:Bool->Dm->Prop} (ho:s.heap.get? a=some (cH b)) (hl:typeLookup (.type "bytearray") (Eu name)=pure (some (.builtin id)))
  (he:id.endsWith ("."++name)=true) (hd:id.dropRight (name.length+1)="bytearray") (h:Q true s):wpAny (model prog w) A (D1.Bytes.slotIsOwn (.ref a) name) Q E s:=by
 have hT:s.TypeIs (.ref a) "bytearray":=⟨_,ho,rfl⟩
 refine Dj (D4 hT hl ?_)
 dsimp only
 rw [he,hd]
 exact Gj hT yT h
theorem eX (hc:c=false) (h:wpAny M A b Q E s):wpAny M A (if c=true then a else b) Q E s:=by subst hc;exact h
theorem C4 {a:Du} {b:Array UInt8} {id:String} {fl:Bool} {Q:Option (Array UInt8)->Dm->Prop} (ho:s.heap.get? a=some (cH b)) (h:Q (some b) s):wpAny (model prog w) A (Gh id (.ref a) fl) Q E s:=by
 have hT:s.TypeIs (.ref a) "bytearray":=⟨_,ho,rfl⟩
 refine Dj (D4 hT ll ?_)
 try dsimp only
 refine Dj (jN ho ll (by decide+kernel) (by decide+kernel) (eX rfl (Dj (D4 hT ll ?_))))
 try dsimp only
 exact Dj (Dj (jN ho nq (by decide+kernel) (by decide+kernel) (Dx (eX rfl (Dj (Dj (Dj (GL ho (Dx (Dx (Dx h)))))))))))
theorem z6 (ho:s.heap.get? a=some (cH b)) (hl:b.size<=100000) (hQ:∀t k,Q (.bytes b t) {s with toks:=k}):
  codeAny (model prog w) A (.call (.builtin "bytes.__new__") ⟨[.type "bytes",.ref a],[]⟩) (wants Q E) s:=by
 refine Ib ?_
 show wpAny _ A.in1 (do checkBuiltinCall "bytes.__new__" ⟨[.type "bytes",.ref a],[]⟩;again (.builtin "bytes.__new__" ⟨[.type "bytes",.ref a],[]⟩)) _ _ s
 refine Dj (D8 (F.bm_newCall _) (Dx ⟨Gs F.bm_plain _,codeAny_builtin F.bm_entry ?_⟩))
 rw [Hv F.bm_plain _]
 have hT:s.TypeIs (.ref a) "bytearray":=⟨_,ho,rfl⟩
 refine Dj (D8 (a:=true) rfl (bm_if_false rfl (Dj (D8 F.bm_sub (bm_if_false rfl (Dj (D8 (F.bm_bind _) (Dj (D8 (a:=()) rfl (Dj (D8 (a:=()) rfl (bm_if_false rfl (Dj (D4 hT rQ (Dj (Dj (Dj (GL ho (Dx (Dx (bm_if_false rfl (Dj (D4 hT rk (bm_if_true rfl ?_))))))))))))))))))))))))
 first
  |show wpAny _ _ (Gh "bytes.__new__" (.ref a) true >>=_) _ _ _
  |(refine Dj ?_;show wpAny _ _ (Gh "bytes.__new__" (.ref a) true >>=_) _ _ _)
 refine Dj (C4 ho (Dj (Gg (Dj (wpAny_mkBytes ?_ (Dr hl (by decide)))))))
 first
 |exact Dx (hQ _ _)
 |(refine bm_if_true rfl ?_;exact Dx (hQ _ _))
 |(refine bm_if_true rfl ?_;exact Dj (Dx (Dx (hQ _ _))))
theorem toB (ho:s.heap.get? a=some (cH b)) (hl:b.size<=100000) (hQ:∀t k,Q (.bytes b t) {s with toks:=k}):wpAny (model prog w) A (call (.type "bytes") [.ref a]) Q E s:=by
 refine callType_codes (Q₁:=fun obj s₁=>s₁.TypeIs obj "bytes"/\Q obj s₁) F.bm_called (F.bm_typeCall _) Lq
  (z6 ho hl fun t k=>⟨PySem.W.typeIs_bytes _ _ _,hQ t k⟩) fun obj s₁ h₁=>?_
 exact ⟨h₁.1,Ie obj _,object_init_meets F.bm_called.init.lookup F.bm_called.made (by decide) prog w A.in1 _ s₁ ⟨h₁.1,rfl,h₁.2⟩⟩
theorem yf:typeLookup (.type "bytes") "__bytes__"=pure (some (.builtin "bytes.__bytes__")):=by rw [Ee,DX];kernel_rfl
theorem zx (hQ:Q (.bytes b t) s):
  codeAny (model prog w) A (.call (.builtin "bytes.__new__") ⟨[.type "bytes",.bytes b t],[]⟩) (wants Q E) s:=by
 refine Ib ?_
 show wpAny _ A.in1 (do checkBuiltinCall "bytes.__new__" ⟨[.type "bytes",.bytes b t],[]⟩;again (.builtin "bytes.__new__" ⟨[.type "bytes",.bytes b t],[]⟩)) _ _ s
 refine Dj (D8 (F.bm_newCall _) (Dx ⟨Gs F.bm_plain _,codeAny_builtin F.bm_entry ?_⟩))
 rw [Hv F.bm_plain _]
 exact Dj (D8 (a:=true) rfl (bm_if_false rfl (Dj (D8 F.bm_sub (bm_if_false rfl (Dj (D8 (F.bm_bind _) (Dj (D8 (a:=()) rfl (Dj (D8 (a:=()) rfl (bm_if_false rfl (Dj (D4 (PySem.W.typeIs_bytes _ _ _) yf (Dj (Gg (Dj (D8 (a:=.type "bytes") rfl (bm_if_true rfl (Dx hQ))))))))))))))))))))
theorem ofBB (hQ:Q (.bytes b t) s):wpAny (model prog w) A (call (.type "bytes") [.bytes b t]) Q E s:=by
 refine callType_codes (Q₁:=fun obj s₁=>s₁.TypeIs obj "bytes"/\Q obj s₁) F.bm_called (F.bm_typeCall _) Lq
  (zx ⟨PySem.W.typeIs_bytes _ _ _,hQ⟩) fun obj s₁ h₁=>?_
 exact ⟨h₁.1,Ie obj _,object_init_meets F.bm_called.init.lookup F.bm_called.made (by decide) prog w A.in1 _ s₁ ⟨h₁.1,rfl,h₁.2⟩⟩
theorem yY:mroOf (.type "bytearray")=pure [.type "bytearray",.type "object"]:=by rw [mroOf_type];kernel_rfl
theorem Id:typeLookup (.type "bytearray") "__new__"=pure (some (.builtin "bytearray.__new__")):=by rw [Ee,DX];kernel_rfl
theorem j8:Slot "bytearray" "__init__" "bytearray.__init__":=
 .of (owner:="bytearray") (n:="__init__") (by rw [Ee,DX];kernel_rfl) (by decide+kernel) (by decide+kernel) (by decide+kernel)
  (by first|exact .inl (by decide+kernel)|exact .inr (by decide+kernel)) (by rw [FO];kernel_rfl)
theorem oP:TypeCalled "bytearray" "bytearray.__new__" "bytearray.__init__":=
 ⟨by decide+kernel,by decide+kernel,⟨_,_,yY⟩,madeBy_type yY Id (by decide+kernel),by decide+kernel,by rw [FO];kernel_rfl,j8⟩
theorem qJ (a:Dk):checkTypeCall "bytearray" ⟨[a],[]⟩=pure ():=by kernel_rfl
theorem pL:checkTypeCall "bytearray" ⟨[],[]⟩=pure ():=by kernel_rfl
theorem sk (a:Dk):checkBuiltinCall "bytearray.__new__" ⟨[.type "bytearray",a],[]⟩=pure ():=by kernel_rfl
theorem rY:checkBuiltinCall "bytearray.__new__" ⟨[.type "bytearray"],[]⟩=pure ():=by kernel_rfl
theorem qp:entryFor table "bytearray.__new__"=some D1.«list.__new__»:=
 entryFor_alias (id':="list.__new__") (by rw [fastTable_eq_tree];kernel_rfl) (by decide+kernel) (by decide+kernel) (by rw [fastTable_eq_tree];kernel_rfl)
theorem jt:entryFor table "bytearray.__init__"=some D1.«bytearray.__init__»:=JO (by kernel_rfl)
theorem nP {id:String} {args:Args} {b:D1} (hb:entryFor table id=some b)
  (h:aq (model prog w) (A.under (.builtin id args)) (b args)
   (fun fin s'=>match fin with|.done f=>R (.ok f) s'|.again c'=>c'.quiet=true/\nM c'=true/\bg (model prog w) A c' R s') (fun e s'=>R (.error e) s') s):
  bg (model prog w) A (.builtin id args) R s:=by
 walk_at "j"
 show aq _ _ (match entryFor table id with|some b=>b args|none=>unsupported ((withoutEnding? id "#data").getD id)) _ _ s
 rw [hb];exact h
theorem Fa (a:Args):nM (.builtin "type.__call__" a)=true:=by show (!(iY.contains "type.__call__"))=true;decide+kernel
set_option tactic.hygienic true in
theorem oH {T newId initId:String} {args:List Dk} {Q Q₁:Dk->Dm->Prop} (ft:TypeCalled T newId initId)
  (hct:checkTypeCall T ⟨args,[]⟩=pure ())
  (hnew:codeAny (model prog w) A.in1 (.call (.builtin newId) ⟨.type T::args,[]⟩) (wants Q₁ (fun Z0 Z0=>False)) s)
  (hnext:∀obj s₁,Q₁ obj s₁->s₁.TypeIs obj T/\
   bg (model prog w) A.in1 (.call (.builtin initId) ⟨obj::args,[]⟩) (wants (fun r s₂=>r=.none/\Q obj s₂) (fun Z0 Z0=>False)) s₁):
  aq (model prog w) A (call (.type T) args) Q E s:=by
 refine ro ft.mro fun c tl hmro=>dy (cM (ad ⟨GR _ (by decide+kernel),Fa _,nP F.entry_type_call ?_⟩))
 rw [E3.under_plain (weight_type_call_type T args []) rfl]
 refine cS (c:=Hk T==.type "type") ft.notType (cS (c:=_) ft.canCreate ?_)
 rw [hct]
 refine aa (ad (aa (bW hmro (aa (m:=Bind.madeBy (.type T)) (bW ft.made (aa (ad (aa (af (nn (Ji (codeAny_mono hnew fun r s₁ hr=>?_))))))))))))
 rcases r with e|fl
 ·exact hr.elim
 cases fl<;>first|exact hr.elim|skip
 rename_i obj
 refine aD (hnext obj s₁ hr) fun hT hi=>?_
 try dsimp only
 refine aa (nn (Gj hT ft.sub (aa (af (aa (nn (D4 hT ft.init.lookup (af (aa (bW (ft.init.bind obj) (aa (dy (gh hi fun r s₂ z=>?_)))))))))))))
 rcases r with e|fl
 ·exact z.elim
 cases fl<;>first|exact z.elim|skip
 obtain ⟨rfl,z⟩:=z
 exact ad (ad z)
theorem qh:("bytearray.__new__".splitOn ".__new__").headD ""="bytearray":=by rw [split_bytearray];rfl
theorem ko:plainId "bytearray.__new__"=true:=by decide+kernel
theorem lJ (hc:checkBuiltinCall "bytearray.__new__" ⟨.type "bytearray"::as,[]⟩=pure ())
  (h:Q₁ (.ref s.heap.objs.size) {s with heap:=s.heap.push (cH #[])}):
  codeAny (model prog w) A (.call (.builtin "bytearray.__new__") ⟨.type "bytearray"::as,[]⟩) (wants Q₁ E) s:=by
 refine Ib ?_
 show wpAny _ A.in1 (do checkBuiltinCall "bytearray.__new__" ⟨.type "bytearray"::as,[]⟩;again (.builtin "bytearray.__new__" ⟨.type "bytearray"::as,[]⟩)) _ _ s
 refine Dj (D8 hc (Dx ⟨Gs ko _,codeAny_builtin_stack qp rfl fun p st=>?_⟩))
 rw [Hv ko _]
 have hsub:=yT
 have hown:=qh
 obtain ⟨hp,g,d,tk,os⟩:=s
 simp only [hown]
 wp_walk
 exact h
theorem kL:typeLookup (.type "bytes") "__buffer__"=pure (some (.builtin "bytes.__buffer__")):=by rw [Ee,DX];kernel_rfl
theorem su:typeLookup (.type "bytes") "__release_buffer__"=pure none:=by rw [Ee,DX];kernel_rfl
theorem qE:typeLookup (.type "bytes") "__index__"=pure none:=by rw [Ee,DX];kernel_rfl
theorem M3:isSubtype (.type "bytes") (.type "bytes")=pure true:=by rw [FO];kernel_rfl
theorem sZ (v:Dk):Gz "bytearray.__init__" "bytearray" ["source","encoding","errors"] [v] []=pure [some v,none,none]:=by kernel_rfl
theorem tU:Gz "bytearray.__init__" "bytearray" ["source","encoding","errors"] [] []=pure [none,none,none]:=by kernel_rfl
theorem qK (a b:Dk):argsOk "bytearray.__init__" ⟨[a,b],[]⟩:=by kernel_rfl
theorem pG (a:Dk):argsOk "bytearray.__init__" ⟨[a],[]⟩:=by kernel_rfl
theorem De {b:Array UInt8} {t:Tok} {id:String} {fl:Bool} {Q:Option (Array UInt8)->Dm->Prop} (h:Q (some b) s):wpAny (model prog w) A (Gh id (.bytes b t) fl) Q E s:=by
 have hT:s.TypeIs (.bytes b t) "bytes":=PySem.W.typeIs_bytes _ _ _
 refine Dj (D4 hT kL ?_)
 try dsimp only
 refine Dj (Dj (D4 hT kL ?_))
 dsimp only
 rw [show ("bytes.__buffer__".endsWith ("."++"__buffer__"))=true by decide+kernel,show ("bytes.__buffer__".dropRight ("__buffer__".length+1))="bytes" by decide+kernel]
 refine Gj hT M3 (eX rfl (Dj (D4 hT kL ?_)))
 try dsimp only
 exact Dj (Dj (Dj (D4 hT su (Dx (Dx (eX rfl (Dj (D8 (a:=b) rfl (Dx h)))))))))
theorem ff {h:DI} {a:Du} {o o':Obj} (ho:h.get? a=some o) (e:o'.isFreed=false):(h.update a fun Z0=>o').get? a=some o':=Fc (fun Z0=>o') ho e
theorem ku {a:Du} {b:Array UInt8} {as:List Dk} {src:Option Dk} {Q:Fin->Dm->Prop} (hb:Gz "bytearray.__init__" "bytearray" ["source","encoding","errors"] as []=pure [src,none,none]) (ho:s.heap.get? a=some (cH b)) (hl:b.size<=100000)
  (h:match src with
   |none=>Q (.done (.ret .none)) {s with heap:=s.heap.update a (fun Z0=>cH #[])}
   |some v=>∃x t,v=.bytes x t/\Q (.done (.ret .none)) {s with heap:=(s.heap.update a (fun Z0=>cH #[])).update a (fun Z0=>cH x)}/\x.size<=100000):
  aq (model prog w) A (D1.«bytearray.__init__» ⟨.ref a::as,[]⟩) Q E s:=by
 refine aa (nn (Dj (jN ho nq (by decide+kernel) (by decide+kernel) (Dx (cS rfl ?_)))))
 rw [hb]
 refine aa (ad (aa (bW (a:=()) rfl (aa (bW (a:=()) rfl (aa (aa (pj (aa (nn (Dj (GL ho (Dx (ad (cS (by decide) (aa (nn (qs ho (by simp) ?_))))))))))))))))))
 cases src with
 |none=>
  exact aa (bW (a:=()) rfl (ad h))
 |some v=>
  refine cV h fun x t zz1 hq hx=>?_
  clear h
  subst zz1
  refine aa (bW (a:=none) rfl (cS rfl (aa (bW (a:=()) rfl (aa (nn (D4 (PySem.W.typeIs_bytes _ _ _) qE (cS rfl (aa (nn (De (aa (nn (Gg ?_))))))))))))))
  refine aa (nn (qs (ff ho rfl) (by show x.size<=1000000;lia) ?_))
  exact ad hq
theorem rJ (a:Args):nM (.builtin "bytearray.__init__" a)=true:=by show (!(iY.contains "bytearray.__init__"))=true;decide+kernel
theorem nb {h:DI} {o:Obj} (e:o.isFreed=false):(h.push o).get? h.objs.size=some o:=El _ e
theorem bM {h:DI} {a x:Du} {o:Obj} (hx:x≠a):(h.update a fun Z0=>o).get? x=h.get? x:=DI.get?_update_ne _ _ _ _ hx
theorem ofB (hl:b.size<=100000)
  (h:∀h' a,(∀x o,s.heap.get? x=some o->h'.get? x=some o)->h'.get? a=some (cH b)->s.heap.get? a=none->s.heap.objs.size<=a->Q (.ref a) {s with heap:=h'}):aq (model prog w) A (call (.type "bytearray") [.bytes b t]) Q E s:=by
 have hnew:s.heap.get? s.heap.objs.size=none:=by
  cases e:s.heap.get? s.heap.objs.size with
  |none=>rfl
  |some o=>exact absurd (DT e) (EN _)
 have old:∀x o,s.heap.get? x=some o->x≠s.heap.objs.size:=fun x o e=>D9 (DT e)
 refine oH (Q₁:=fun obj s₁=>obj=.ref s.heap.objs.size/\s₁={s with heap:=s.heap.push (cH #[])}) oP (qJ _) (lJ (sk _) ⟨rfl,rfl⟩) fun obj s₁ h₁=>aD h₁ fun zz1 zz2=>?_
 clear h₁
 subst zz1 zz2
 have ho:(s.heap.push (cH #[])).get? s.heap.objs.size=some (cH #[]):=nb rfl
 have ho2:=ff (o':=cH b) (ff (o':=cH #[]) ho rfl) rfl
 refine ⟨⟨_,ho,rfl⟩,bP (Gs j8.plain _) (rJ _) jt (nn (j8.check _ _ _ _ _ _ _ _ ⟨_,ho,rfl⟩ (qK _ _) ?_))⟩
 refine ku (sZ _) ho (by simp) ⟨b,t,rfl,⟨rfl,h _ _ (fun x o e=>?_) ho2 hnew (DQ _)⟩,hl⟩
 rw [bM (old x o e),bM (old x o e)]
 exact Dt _ e
theorem ofN
  (h:∀h' a,(∀x o,s.heap.get? x=some o->h'.get? x=some o)->h'.get? a=some (cH #[])->s.heap.get? a=none->s.heap.objs.size<=a->Q (.ref a) {s with heap:=h'}):aq (model prog w) A (call (.type "bytearray") []) Q E s:=by
 have hnew:s.heap.get? s.heap.objs.size=none:=by
  cases e:s.heap.get? s.heap.objs.size with
  |none=>rfl
  |some o=>exact absurd (DT e) (EN _)
 refine oH (Q₁:=fun obj s₁=>obj=.ref s.heap.objs.size/\s₁={s with heap:=s.heap.push (cH #[])}) oP pL (lJ rY ⟨rfl,rfl⟩) fun obj s₁ h₁=>aD h₁ fun zz3 zz4=>?_
 clear h₁
 subst zz3 zz4
 have ho:(s.heap.push (cH #[])).get? s.heap.objs.size=some (cH #[]):=nb rfl
 refine ⟨⟨_,ho,rfl⟩,bP (Gs j8.plain _) (rJ _) jt (nn (j8.check _ _ _ _ _ _ _ _ ⟨_,ho,rfl⟩ (pG _) ?_))⟩
 refine ku tU ho (by simp) ⟨rfl,h _ _ (fun x o e=>?_) (ff (o':=cH #[]) ho rfl) hnew (DQ _)⟩
 rw [bM ((fun x o e=>D9 (DT e)) x o e)]
 exact Dt _ e
theorem pC:Slot "bytearray" "__setitem__" "bytearray.__setitem__":=
 .of (owner:="bytearray") (n:="__setitem__") (by rw [Ee,DX];kernel_rfl) (by decide+kernel) (by decide+kernel) (by decide+kernel)
  (by first|exact .inl (by decide+kernel)|exact .inr (by decide+kernel)) (by rw [FO];kernel_rfl)
theorem sW:entryFor table "bytearray.__setitem__"=some D1.«bytearray.__setitem__»:=JO (by kernel_rfl)
theorem wu (a b c:Dk):argsOk "bytearray.__setitem__" ⟨[a,b,c],[]⟩:=by kernel_rfl
theorem A1 (a:Args):nM (.builtin "bytearray.__setitem__" a)=true:=by show (!(iY.contains "bytearray.__setitem__"))=true;decide+kernel
theorem NG:typeLookup (.type "bytes") "__int__"=pure none:=by rw [Ee,DX];kernel_rfl
theorem yE:typeLookup (.type "bytes") "__float__"=pure none:=by rw [Ee,DX];kernel_rfl
theorem BA:isSubtype (.type "bytes") (.type "bytearray")=pure false:=by rw [FO];kernel_rfl
theorem qM:isSubtype (.type "bytes") (.type "complex")=pure false:=by rw [FO];kernel_rfl
theorem AF:(Hk "slice" != Hk "slice")=false:=by decide+kernel
theorem Sr (h:wpAny M A a (fun r s'=>r=false/\wpAny M A b Q E s') E s):wpAny M A (a <||> b) Q E s:=by
 refine Dj (FU h (fun r s' hr=>?_) fun Z0 Z0 z=>z)
 obtain ⟨rfl,hr⟩:=hr
 exact hr
theorem qO (ho:s.heap.get? sl=some o) (hc:o.cls=.type "slice") (h:Q none s):wpAny (model prog w) A (D1.Bytes.subscript? (.ref sl)) Q E s:=by
 exact Dj (D4 ⟨_,ho,hc⟩ slice_no_index (Dx h))
theorem rb {sl:Du} {lo hi:Int} {t u:Tok} {Q:Dk×Dk×Dk->Dm->Prop} (ho:s.heap.get? sl=some {cls:=.type "slice",data:=.fields #[.int lo t,.int hi u,.none]})
  (h:Q (rawInt lo,rawInt hi,.none) s):wpAny (model prog w) A (D1.Bytes.sliceParts (.ref sl)) Q E s:=by
 exact Dj (EA ho rfl (x:=.none) rfl (Dj (D8 (a:=.none) rfl (bm_if_false (by decide+kernel) (Dj (EA ho rfl (x:=.int lo t) rfl (Dj (bm_if_false rfl (Dj (D4 (T:="int") (typeIs_int s lo t) int_index (bm_if_false rfl (Dj (D8 (a:=lo) rfl (Dx (Dj (EA ho rfl (x:=.int hi u) rfl (Dj (bm_if_false rfl (Dj (D4 (T:="int") (typeIs_int s hi u) int_index (bm_if_false rfl (Dj (D8 (a:=hi) rfl (Dx (Dx h)))))))))))))))))))))))))
theorem rz {a sl:Du} {b x:Array UInt8} {lo hi:Int} {t u v:Tok} {Q:Fin->Dm->Prop} (ho:s.heap.get? a=some (cH b))
  (hs:s.heap.get? sl=some {cls:=.type "slice",data:=.fields #[.int lo t,.int hi u,.none]}) (h0:0<=lo) (h1:lo<=hi) (h2:hi<=b.size) (hb:b.size<=1000) (hx:x.size<=1000)
  (h:∀h',(∀y o,s.heap.get? y=some o->y≠a->h'.get? y=some o)->h'.get? a=some (cH (b.extract 0 lo.toNat++x++b.extract hi.toNat b.size))->Q (.done (.ret .none)) {s with heap:=h'}):
  aq (model prog w) A (D1.«bytearray.__setitem__» ⟨[.ref a,.ref sl,.bytes x v],[]⟩) Q E s:=by
 unfold D1.«bytearray.__setitem__»
 refine cS rfl (aa (nn (qO hs rfl (aa (nn (wpAny_typeOf ⟨_,hs,rfl⟩ (cS AF (aa (nn (rb hs (cS rfl ?_)))))))))))
 have hT:s.TypeIs (.bytes x v) "bytes":=PySem.W.typeIs_bytes _ _ _
 refine aa (nn (Gj hT BA (rK rfl (aa (nn (Sr (Dj (D4 hT qE (Dx ⟨rfl,Sr (Dj (D4 hT NG (Dx ⟨rfl,Sr (Dj (D4 hT yE (Dx ⟨rfl,Gj hT qM ?_⟩)))⟩)))⟩)))))))))
 refine aa (bW (a:=none) rfl (cS rfl (aa (nn (Gg (aa (ofB (Dr hx (by decide)) fun h' a2 hk ha2 hn hsz=>?_)))))))
 have ho':=hk _ _ ho
 refine aa (af (nn (rb (s:={s with heap:=h'}) (hk _ _ hs) (aa (aa (nn (Dj (GL ha2 (Dx (ad (aa (aa (nn (Dj (GL ho' (Dx (ad (aa (bW (sliceIndices_raw (some lo) (some hi) none b.size (by simp)) ?_)))))))))))))))))))
 have e1:sliceBounds (some lo) (some hi) none b.size=(lo,hi,1):=by
  unfold sliceBounds
  simp only [Option.getD_none]
  have q1:¬lo<0:=EZ.mpr h0
  have q2:¬hi<0:=EZ.mpr (Ga h0 h1)
  simp only [q1,q2,if_false,if_true,show (1:Int) > 0 by decide]
  congr 1
  ·rw [HA (Ga h1 h2)];exact Hh h0
  ·congr 1;rw [HA h2];exact Hh (Ga h0 h1)
 rw [e1]
 refine rK rfl (aa (nn (Gg ?_)))
 rw [Hh h1]
 have fin:aq (model prog w) A (do
   Jm (Fz a) fun b=>b.extract 0 lo.toNat++x++b.extract hi.toNat b.size
   ret GA) Q E {s with heap:=h'}:=by
  refine aa (nn (qs ho' (by simp;exact Dr (FE (Dr (GC _ _) hb) (FE hx (Dr (Fd _ _) hb))) (et rfl)) (ad ?_)))
  refine h _ (fun y o e ne=>?_) (ff ho' rfl)
  rw [bM ne]
  exact hk _ _ e
 split
 ·exact aa (kn ho' fin)
 ·exact fin
theorem NO {a sl:Du} {b x:Array UInt8} {lo hi:Int} {t u v:Tok} {Q:Unit->Dm->Prop} (ho:s.heap.get? a=some (cH b))
  (hs:s.heap.get? sl=some {cls:=.type "slice",data:=.fields #[.int lo t,.int hi u,.none]}) (h0:0<=lo) (h1:lo<=hi) (h2:hi<=b.size) (hb:b.size<=1000) (hx:x.size<=1000)
  (h:∀h',(∀y o,s.heap.get? y=some o->y≠a->h'.get? y=some o)->h'.get? a=some (cH (b.extract 0 lo.toNat++x++b.extract hi.toNat b.size))->Q () {s with heap:=h'}):
  aq (model prog w) A (setItem (.ref a) (.ref sl) (.bytes x v)) Q E s:=by
 have hT:s.TypeIs (.ref a) "bytearray":=⟨_,ho,rfl⟩
 exact af (aa (nn (wpAny_sequenceKey hT (by decide) (aa (aa (nn (D4 (name:=Eu "__setitem__") hT pC.lookup (af (aa (bW (pC.bind _) (aa (dy (bP (Gs pC.plain _) (A1 _) sW (nn (pC.check _ _ _ _ _ _ _ _ hT (wu _ _ _) (rz ho hs h0 h1 h2 hb hx fun h' k e=>ad (ad (h _ k e))))))))))))))))))
theorem O8 (C:Cx):yK C where
 toB:=fun Z0 ho hl Z0 h=>nn (toB ho hl fun t k=>h _ k t fun Z0 Z0 e=>e)
 ofB:=fun Z0 Z0 Z0 hl Z0 h=>ofB hl fun h' a k1 k2 k3 k4=>h h' _ a k1 k2 k3 k4
 ofN:=fun Z0 Z0 Z0 Z0 h=>ofN fun h' a k1 k2 k3 k4=>h h' _ a k1 k2 k3 k4
 ofBB:=fun Z0 h=>nn (ofBB (h _ _))
theorem Bt (C:Cx):ki C where
 pa:=QP
 slot:=k9
 ty:=AP
 app:=fun ho h0 h1 hl h=>Rb ho h0 h1 hl h
 cut:=fun ho hs h0 h1 h2 hb hx Z0 h=>NO ho hs h0 h1 h2 hb hx fun h' k1 k2=>h h' _ k1 k2
inductive om (k:Nat) (g:DI) (L:Du) (h:DI) (e C:Du):Prop where
 |mk (keeps:∀b o,g.get? b=some o->h.get? b=some o) (new:g.get? e=none) (eL:e≠L) (at_:∃(od:Option Du) (a0:Du),h.get? e=some {cls:=.ref C,dict:=od,data:=.fields #[.ref a0,.none,.none,.none,.bool false,.none]}/\(∀d,od=some d->d≠e/\L<d/\g.get? d=none/\∃es n,h.get? d=some (dictOf es n)/\es.any (·.refKey)=false/\es.length<=k))
theorem tA:∀{es:List EL},es.any (·.refKey)=false->(putL name hsh (.str name t) v es).any (·.refKey)=false:=by
 intro x0
 induction x0 with
 |nil=>
  intro _
  rfl
 |cons e r ihh=>
  intro h
  rw [EI,Fp] at h
  unfold putL
  split
  ·rw [EI,Fp]
   exact ⟨h.1,h.2⟩
  ·rw [EI,Fp]
   exact ⟨h.1,ihh h.2⟩
theorem k8:∀{es:List EL},(putL name hsh k v es).length<=es.length+1
 |[]=>by simp [putL]
 |e::r=>by
  unfold putL
  split
  ·simp
  ·have:=k8 (name:=name) (hsh:=hsh) (k:=k) (v:=v) (es:=r)
   simp only [DC];lia
section
variable {K:Frag} {x C P:Du} {ox:Obj} {od:Option Obj} {name:Str} {v:Dk} {cd:HK}
theorem rN (X:K.In s.heap) (I:InstAt s.heap x ox C od) (hc:clsIn K C=some cd) (hm:cd.mro=.ref C::o6 P) (ht:takerIn K C name=some none)
  (h:∀b,wpAny (model prog w) A.in1 (Lm (.ref x) (.ref C) (.str name tk) name v b)
   (fun fin s'=>match fin with|.done f=>R (.ok f) s'|.again c'=>c'.quiet=true/\codeAny (model prog w) A c' R s') (fun e s'=>R (.error e) s') s):
  codeAny (model prog w) A (.call (.builtin "object.__setattr__") ⟨[.ref x,.str name tk,v],[]⟩) R s:=by
 have SF:=PySem.F.store_Exception
 refine LN SF.slot.plain SF.entry (@check_slot (model prog w) _ _ s "object.__setattr__" "object" "__setattr__" (.ref x) [.str name tk,v] [] _ SF.kind SF.split (I.type.andThen (looks_mroIn X (by unfold mroIn;rw [hc,KY,hm];simp))) (SF.args (.ref x) (.str name tk) v) ?_)
 refine ay (Option.bind_eq_some_iff.mp ht) fun attr ha hr=>?_
 have L3:Looks (model prog w) s.heap (Ln attr) none:=by
  cases attr with
  |none=>exact .now
  |some a=>
   refine ay (Gq.mp hr) fun b hb e=>(looks_takesIn X hb).andThen ?_
   cases b with
   |true=>cases e
   |false=>exact .now
 rw [osa_eq,refuse_eq]
 refine Dj (Dj (I.type.here (Dj ((show Looks (model prog w) s.heap (mroOf (.ref C)) cd.mro from (looks_clsIn X hc).andThen .now).here ?_))))
 rw [hm,refuseLoop_ref,refuseLoop_ref,SF.passes]
 exact Dx (Dj (I.type.here (Dj ((looks_findIn X ha).here (Dj (L3.here (h _)))))))
theorem uA (D:s.heap.get? d=some (dictOf es n)) (hr:es.any (·.refKey)=false) (hl:es.length<=10)
  (h:∀es' n' tk',es'.any (·.refKey)=false->es'.length<=es.length+1->Q (.done (.ret .none)) (aQ s (s.heap.update d (fun Z0=>dictOf es' n')) tk')):
  wpAny (model prog w) A (Lo d (.str name tk) name v) Q E s:=by
 refine Dj (Dx (Dj (Dj (Dj (wpAny_askSetting (Dx (Dj (wpAny_mkText (Dj (Kl D ?_))))))))))
 dsimp only
 have c:(!es.toArray.any (·.key.isStr name)&&es.toArray.any (·.refKey))=false:=by
  have:es.toArray.any (·.refKey)=false:=by simpa using hr
  rw [this,JJ]
 rw [aRefKeyMayBeTheName_at,c]
 refine wpAny_updatePart D ?_
 rw [(show ∀k:Int,s.heap.update d (Obj.putName name k (.str name s.toks) v)=s.heap.update d (fun Z0=>dictOf (putL name k (.str name s.toks) v es) (putN name es n)) from fun k=>km D (putName_dict name k (.str name s.toks) v es n))]
 refine Dj (wpAny_lookBehind (ff D rfl) ?_ ?_)
 ·refine pastItsLine_dict ?_
  have:=k8 (name:=name) (hsh:=(if name.cps.isEmpty=true then 0 else reduceHash ((model prog w).w.params.strHash name.cps))) (k:=.str name s.toks) (v:=v) (es:=es)
  rw [DJ,LZ]
  lia
 ·exact Dx (h _ _ _ (tA hr) k8)
theorem uh (hk:k<=8) (I:om k g L s.heap e C) (hL:∃o,s.heap.get? L=some o) (X:K.In s.heap) (hs:findIn K (.ref C) "__setattr__"=some (some (.builtin "object.__setattr__")))
  (hc:clsIn K C=some cd) (hm:cd.mro=.ref C::o6 P) (hd:cd.hasDict=true) (ht:takerIn K C name=some none)
  (h:∀h' tk,om (k+1) g L h' e C->(∀b o,b≠e->b<=L->s.heap.get? b=some o->h'.get? b=some o)->Q () (aQ s h' tk)):
  wpAny (model prog w) A (setAttr (.ref e) name v) Q E s:=by
 refine dG I.4 fun od a0 he hdd=>?_
 cases od with
 |some d=>
  obtain ⟨de,dL,dg,es,n,hdo,hr,hl⟩:=hdd d rfl
  have II:InstAt s.heap e {cls:=.ref C,dict:=some d,data:=.fields #[.ref a0,.none,.none,.none,.bool false,.none]} C (some (dictOf es n)):=⟨he,rfl,rfl,hdo⟩
  refine set_plain X II hs (rN (s:={s with toks:=s.toks+1}) X II hc hm ht fun b=>Dj (Dx (Dj (Dj (Kl (s:={s with toks:=s.toks+1}) he (Dj (looks_clsIn (M:=model prog w) (h:=s.heap) X hc _ _ _ _ (fun Z0 Z0 z=>z) ?_)))))))
  rw [hd]
  refine Dx (a:=some d) (uA (s:={s with toks:=s.toks+1}) (tk:=s.toks) hdo hr (Dr ‹_› (Dr hk (et rfl))) fun es' n' tk' hr' hl'=>h _ _ ⟨fun b o q=>?_,I.2,I.3,some d,a0,?_,fun d' hd'=>?_⟩ fun b o q q3 q2=>?_)
  ·have:b≠d:=fun e=>by rw [e,dg] at q;cases q
   rw [bM this];exact I.1 _ _ q
  ·rw [bM de.symm];exact he
  ·cases hd'
   exact ⟨de,dL,dg,es',n',ff hdo rfl,hr',Dr hl' (Em ‹_›)⟩
  ·rw [bM (D9 (DY q3 dL))];exact q2
 |none=>
  have II:InstAt s.heap e {cls:=.ref C,dict:=none,data:=.fields #[.ref a0,.none,.none,.none,.bool false,.none]} C none:=⟨he,rfl,rfl,trivial⟩
  refine set_plain X II hs (rN (s:={s with toks:=s.toks+1}) X II hc hm ht fun b=>Dj (Dx (Dj (Dj (Kl (s:={s with toks:=s.toks+1}) he (Dj (looks_clsIn (M:=model prog w) (h:=s.heap) X hc _ _ _ _ (fun Z0 Z0 z=>z) ?_)))))))
  rw [hd]
  have hdn:s.heap.objs.size≠e:=Gb (DT he)
  have he1:=Dt {cls:=.type "dict",data:=.dict #[]} he
  have hd1:(s.heap.push {cls:=.type "dict",data:=.dict #[]}).get? s.heap.objs.size=some (dictOf [] 0):=nb rfl
  have hu:(s.heap.push {cls:=.type "dict",data:=.dict #[]}).update e (fun o=>{cls:=o.cls,dict:=some s.heap.objs.size,data:=o.data,slots:=o.slots})=(s.heap.push {cls:=.type "dict",data:=.dict #[]}).update e (fun Z0=>{cls:=.ref C,dict:=some s.heap.objs.size,data:=.fields #[.ref a0,.none,.none,.none,.bool false,.none]}):=km he1 rfl
  have hd2:((s.heap.push {cls:=.type "dict",data:=.dict #[]}).update e (fun Z0=>({cls:=.ref C,dict:=some s.heap.objs.size,data:=.fields #[.ref a0,.none,.none,.none,.bool false,.none]}:Obj))).get? s.heap.objs.size=some (dictOf [] 0):=by rw [bM hdn];exact hd1
  refine Dj (wpAny_alloc (Dj (wpAny_update (s:={s with toks:=s.toks+1,heap:=s.heap.push {cls:=.type "dict",data:=.dict #[]}}) he1 ?_)))
  rw [hu]
  refine Dx (a:=some s.heap.objs.size) (uA (s:={s with toks:=s.toks+1,heap:=(s.heap.push {cls:=.type "dict",data:=.dict #[]}).update e (fun Z0=>({cls:=.ref C,dict:=some s.heap.objs.size,data:=.fields #[.ref a0,.none,.none,.none,.bool false,.none]}:Obj))}) (tk:=s.toks) hd2 (by simp) (by simp) fun es' n' tk' hr' hl'=>?_)
  have gn:g.get? s.heap.objs.size=none:=by
   cases q:g.get? s.heap.objs.size with
   |none=>rfl
   |some o=>exact absurd (DT (I.1 _ _ q)) (EN _)
  refine aG hL fun oL hL=>h _ _ ⟨fun b o q=>?_,I.2,I.3,some s.heap.objs.size,a0,?_,fun d' hd'=>?_⟩ fun b o q q3 q2=>?_
  ·have n1:b≠s.heap.objs.size:=fun e=>by rw [e,gn] at q;cases q
   rw [bM n1,bM (fun e=>by rw [e,I.2] at q;cases q)]
   exact Dt _ (I.1 _ _ q)
  ·rw [bM hdn.symm];exact (ff (o':=({cls:=.ref C,dict:=some s.heap.objs.size,data:=.fields #[.ref a0,.none,.none,.none,.bool false,.none]}:Obj)) he1 rfl)
  ·cases hd'
   exact ⟨hdn,DT hL,gn,es',n',ff hd2 rfl,hr',by simp at hl';lia⟩
  ·have n1:b≠s.heap.objs.size:=D9 (DT q2)
   rw [bM n1,bM q]
   exact Dt _ q2
end
section
variable {sub:List Dk} {ab:Bool} {col:Option Bool} {dd:Option Du} {k0 k1 k2 k3 k5:Option Dk}
theorem mW {M:Ks} {h:DI} {g:Array GenState} {d:Drawn} {t:Nat} {os:Hp} {e:Du} {oe:Obj} {rest:List Dk} {Q:Unit->Dm->Prop}
  (hC:h.get? C=some (excClassObj nm q C N bs (o6 P) hdct sn sub ab col dd k0 k1 k2 k3 k5 "Exception.__new__")) (he:h.get? e=some oe) (hcls:oe.cls=.ref C) (hq:Q () ⟨h,g,d,t,os⟩):
  wpAny M A (checkBuiltinCall "Exception.__init__" ⟨.ref e::rest,[]⟩) Q E ⟨h,g,d,t,os⟩:=by
 have F:=Fb
 have hshort:=F.noStar
 rw [checkBuiltinCall,F.initKind,F.initSplit,F.initRow]
 repeat (first|(with_reducible refine EV he ?_;rw [hcls])|with_reducible refine EV hC ?_|(with_reducible refine Gn hC ?_;rw [(AW (C:=C) (P:=P) "Exception" (.inl rfl))])|wp_step)
 refine wpAny_onRaise ?_
 rw [show ∀(a b:String) (n:Nat),Bind.check ⟨.positional,"*","Exception",.self,[⟨"args",.varPos,false⟩]⟩ a b n (List.map (fun x=>x.fst) ({pos:=Fz e::rest}:Args).kw)=pure () from
  fun a b n=>check_star_args _ _ _ _ _ _]
 exact Dx hq
theorem yG (I:om k g L s.heap e C)
  (hC:s.heap.get? C=some (excClassObj nm q C N bs (o6 P) hdct sn sub ab col dd k0 k1 k2 k3 k5 "Exception.__new__"))
  (h:∀h',om k g L h' e C->(∀b o,b≠e->s.heap.get? b=some o->h'.get? b=some o)->Q .none {s with heap:=h'}):
  wpAny (model prog w) A (call (.builtin "Exception.__init__") [.ref e,v]) Q E s:=by
 have F:=Fb
 refine dG I.4 fun od a0 he hdd=>?_
 obtain ⟨hp,gs,d,t,os⟩:=s
 refine Ji (LN F.init.plain F.initEntry (mW hC he rfl ?_))
 have he1:=Dt {cls:=.type "tuple",data:=.seq [v].toArray} he
 have hu:(hp.push {cls:=.type "tuple",data:=.seq [v].toArray}).update e (Obj.mapFields (·.setIfInBounds 0 (.ref hp.objs.size)))=(hp.push {cls:=.type "tuple",data:=.seq [v].toArray}).update e (fun Z0=>{cls:=.ref C,dict:=od,data:=.fields #[.ref hp.objs.size,.none,.none,.none,.bool false,.none]}):=km he1 rfl
 wp_walk
 refine cast (congrArg (fun z=>Q .none ⟨z,gs,d,t,os⟩) hu.symm) (h _ ⟨fun b o z=>?_,I.2,I.3,od,_,(ff (o':=({cls:=.ref C,dict:=od,data:=.fields #[.ref hp.objs.size,.none,.none,.none,.bool false,.none]}:Obj)) he1 rfl),fun d' hd'=>?_⟩ fun b o n z=>?_)
 ·have n:b≠e:=fun e=>by rw [e,I.2] at z;cases z
  rw [bM n]
  exact Dt _ (I.1 _ _ z)
 ·obtain ⟨h1,h2,h3,es,n,h4,h5,h6⟩:=hdd d' hd'
  exact ⟨h1,h2,h3,es,n,by rw [bM h1];exact Dt _ h4,h5,h6⟩
 ·rw [bM n]
  exact Dt _ z
end
def iQ (s:List (Str×Dk)) (x:Str×Dk):List (Str×Dk):=if (s.lookup x.1).isNone=true then s++[x] else s
theorem wb:∀{l:List (Str×Dk)} {S:List (Str×Dk)},(∀x∈l,S.lookup x.1=none)->(l.map (·.1)).Nodup->l.foldl iQ S=S++l:=by
 intro x0
 induction x0 with
 |nil=>
  intro S _ _
  simp
 |cons x l ihh=>
  intro S h nd
  rw [DB,D6] at nd
  have nd:=nd
  have e:iQ S x=S++[x]:=by unfold iQ;rw [h x (.head _)];rfl
  rewrite [Jp,e,ihh (fun y hy=>?_) nd.2]
  ·simp
  ·have ne:(y.1==x.1)=false:=by
    rw [beq_eq_false_iff_ne]
    exact fun e=>nd.1 (e▸DE (f:=(·.1)) hy)
   rw [List.lookup_append,h y (.tail _ hy)]
   simp [EE,ne]
   simpa using ne
theorem uw:∀{l:List α} {m:List β} {x:α×β},x∈l.zip m->x.1∈l:=by
 intro x0
 induction x0 with
 |nil=>
  intro _ _ h
  simp at h
 |cons a l ihh=>
  intro y4
  cases y4 with
  |nil=>
   intro _ h
   simp at h
  |cons b m=>
   intro x h
   rw [Io] at h
   rcases Dv.mp h with rfl|h
   ·exact .head _
   ·exact .tail _ (ihh h)
theorem wC:∀{l:List (Str×Dk)},(∀x∈l,(S.lookup x.1).isNone=false)->l.foldl iQ S=S:=by
 intro l
 induction l with
 |nil=>exact fun Z0=>rfl
 |cons x l ih=>
  intro h
  have e:iQ S x=S:=(if_neg (by rw [h x (.head _)];exact Dq))
  exact (congrArg (l.foldl iQ) e).trans (ih fun y hy=>h y (.tail _ hy))
theorem yI:∀{names:List Str} {vs:List Dk},x∈names.take vs.length->((names.zip vs).lookup x).isNone=false:=by
 intro names
 induction names with
 |nil=>
  intro _ h
  rw [List.take_nil] at h
  cases h
 |cons a names ih=>
  intro vs h
  cases vs with
  |nil=>cases h
  |cons v vs=>
   show LW (match x==a with|true=>_|false=>_)=false
   cases e:x==a with
   |true=>rfl
   |false=>
    rcases Dv.mp h with rfl|h
    ·rw [beq_self_eq_true] at e;cases e
    ·exact ih h
theorem Az:∀{names:List Str} {vs:List Dk},names.Nodup->x∈names.drop vs.length->(names.zip vs).lookup x=none:=by
 intro names
 induction names with
 |nil=>exact fun Z0 Z0=>rfl
 |cons a names ih=>
  intro vs nd h
  cases vs with
  |nil=>rfl
  |cons v vs=>
   rw [D6] at nd
   show (match x==a with|true=>_|false=>_)=_
   have ne:(x==a)=false:=beq_eq_false_iff_ne.mpr fun e=>nd.1 (e▸HO h)
   rw [ne]
   exact ih nd.2 h
theorem Aa:∀{l:List α} {vs:List β},l.zip (vs++ws)=l.zip vs++(l.drop vs.length).zip ws:=by
 intro l
 induction l with
 |nil=>
  intro vs
  rw [List.drop_nil]
  rfl
 |cons a l ih=>
  intro vs
  cases vs with
  |nil=>rfl
  |cons v vs=>exact congrArg _ ih
theorem vN {names:List Str} {vs ds:List Dk} (nd:names.Nodup) (h1:ds.length<=names.length) (h2:vs.length<=names.length) (h3:names.length<=vs.length+ds.length):
  ((names.drop (names.length-ds.length)).zip ds).foldl iQ (names.zip vs)=names.zip (vs++ds.drop (ds.length-(names.length-vs.length))):=by
 have e:names.length-ds.length+(ds.length-(names.length-vs.length))=vs.length:=(Nat.add_sub_assoc (Hq.mpr h3) _).symm.trans ((congrArg (·-(names.length-vs.length)) (Et h1)).trans (Hi h2))
 have e2:((names.drop (names.length-ds.length)).zip ds).drop (ds.length-(names.length-vs.length))=(names.drop vs.length).zip (ds.drop (ds.length-(names.length-vs.length))):=by
  refine List.drop_zipWith.trans ?_
  rw [List.drop_drop,e]
  rfl
 rw [←List.take_append_drop (ds.length-(names.length-vs.length)) ((names.drop (names.length-ds.length)).zip ds),List.foldl_append,wC (l:=List.take _ _),e2,wb,←Aa]
 ·exact fun x hx=>Az nd (uw hx)
 ·rw [List.map_fst_zip]
  ·exact nd.sublist (List.drop_sublist _ _)
  ·rw [D7,D7,Hi (Hq.mpr h3)]
   exact DQ _
 ·intro x hx
  refine yI (e▸?_)
  have:=uw (List.take_zipWith (f:=Lh)▸hx:x∈List.zip _ _)
  rw [List.take_drop] at this
  exact HO this
theorem zf {names:List Str} {vs:List Dk} {n:Nat} (h2:names.length<=vs.length+n):((names.take (names.length-n)).filter fun n=>((names.zip vs).lookup n).isNone)=[]:=
 List.filter_eq_nil_iff.mpr fun Z0 hx=>FT.mp (yI (HP (l:=names.take vs.length) (i:=names.length-n) (by rw [List.take_take,ET (Nat.sub_le_iff_le_add.mpr h2)];exact hx)))
theorem zj:∀{l:List α},(∀x∈l,f x=g x)->l.filterMap f=l.filterMap g:=by
 intro x0
 induction x0 with
 |nil=>
  intro _
  exact rfl
 |cons a l ihh=>
  intro h
  rw [H9,H9,h a (.head _),ihh fun x hx=>h x (.tail _ hx)]
theorem uc:∀{names:List Str} {W:List Dk},names.Nodup->names.length=W.length->names.filterMap (fun n=>((names.zip W).lookup n).map fun v=>(n,v))=names.zip W:=by
 intro x0
 induction x0 with
 |nil=>
  intro _ _ _
  exact rfl
 |cons a names ihh=>
  intro y4
  cases y4 with
  |nil=>
   intro _ h
   simp at h
  |cons w W=>
   intro nd h
   rw [D6] at nd
   rw [Io,H9]
   have e1:G2 a ((a,w)::names.zip W)=some w:=by simp
   rw [e1]
   have e2:names.filterMap (fun n=>(G2 n ((a,w)::names.zip W)).map fun v=>(n,v))=names.filterMap (fun n=>((names.zip W).lookup n).map fun v=>(n,v)):=by
    refine zj fun x hx=>?_
    have ne:(x==a)=false:=by
     rw [beq_eq_false_iff_ne]
     exact fun e=>nd.1 (e▸hx)
    rw [EE,ne]
   show (a,w)::_=_
   rw [e2,ihh nd.2 (by simpa using h)]
theorem tC {l S:List (Str×Dk)}:(forIn l S fun (x:Str×Dk) (r:List (Str×Dk))=>if (G2 x.fst r).isNone=true then (pure (Eh (r++[(x.fst,x.snd)])):Sem _) else pure (Eh r))=pure (l.foldl iQ S):=by
 have ef:(fun (x:Str×Dk) (r:List (Str×Dk))=>if (G2 x.fst r).isNone=true then (pure (Eh (r++[(x.fst,x.snd)])):Sem _) else pure (Eh r))=fun x r=>pure (Eh (iQ r x)):=by
  funext x r
  unfold iQ
  split<;>rfl
 rw [ef,List.forIn_pure_yield_eq_foldl]
def Tx (X Y:Option (Array Dk)->Sem (List (Str×Dk))) (names:List Str) (vs:List Dk) (o:Option (Array Dk)):Sem (List (Str×Dk)):=
 if (decide (vs.length > names.length)&&true)=true then X o else if (!List.isEmpty ((names.take (names.length-((o.getD #[]).toList.drop ((o.getD #[]).toList.length-names.length)).length)).filter fun n=>((names.zip vs).lookup n).isNone))=true then Y o else
   (forIn ((names.drop (names.length-((o.getD #[]).toList.drop ((o.getD #[]).toList.length-names.length)).length)).zip ((o.getD #[]).toList.drop ((o.getD #[]).toList.length-names.length))) (names.zip vs) fun (x:Str×Dk) (r:List (Str×Dk))=>if (G2 x.fst r).isNone=true then (pure (Eh (r++[(x.fst,x.snd)])):Sem _) else pure (Eh r)) >>=fun r=>pure ((names++[]).filterMap fun n=>(r.lookup n).map fun v=>(n,v))
theorem xa {P:IM->Prop} {p:IM} (hp:p.posonlyargs=[]) (hv:p.vararg=none) (hk:p.kwonlyargs=[]) (hkw:p.kwarg=none) (h:∀kd df,P ⟨[],p.args,none,[],kd,none,df⟩):P p:=by
 cases p
 cases hp
 cases hv
 cases hk
 cases hkw
 exact h _ _
theorem Pw {fd:HL} {names:List Str} {vs:List Dk} (hp:fd.params.posonlyargs=[]) (hv:fd.params.vararg=none) (hk:fd.params.kwonlyargs=[]) (hkw:fd.params.kwarg=none) (hn:fd.params.args.map (·.arg)=names):
  ∃X Y:Option (Array Dk)->Sem (List (Str×Dk)),bindArgs fd ⟨vs,[]⟩=(seqItems? fd.defaults >>=Tx X Y names vs):=by
 cases hn
 exact xa hp hv hk hkw (P:=fun p=>∃X Y:Option (Array Dk)->Sem (List (Str×Dk)),bindArgs {fd with params:=p} ⟨vs,[]⟩=(seqItems? fd.defaults >>=Tx X Y (p.args.map (·.arg)) vs)) fun Z0 Z0=>⟨_,_,rfl⟩
theorem oE {fd:HL} {names:List Str} {vs ds:List Dk} {s:Dm} (hp:fd.params.posonlyargs=[]) (hv:fd.params.vararg=none) (hk:fd.params.kwonlyargs=[]) (hkw:fd.params.kwarg=none) (hn:fd.params.args.map (·.arg)=names) (nd:names.Nodup)
  (hd:ds.length<=names.length) (h1:vs.length<=names.length) (h2:names.length<=vs.length+ds.length)
  (hs:∃o:Option (Array Dk),(o.getD #[]).toList=ds/\∀(M:Ks) (A:E3) (E:Dk->Dm->Prop) (Q:Option (Array Dk)->Dm->Prop),Q o s->wpAny M A (seqItems? fd.defaults) Q E s):
  Li s fd ⟨vs,[]⟩ (names.zip (vs++ds.drop (ds.length-(names.length-vs.length)))):=by
 refine ay hs fun o ho hw M A E Q hq=>ro (Pw (vs:=vs) hp hv hk hkw hn) fun X Y e=>cast (congrArg (fun m=>wpAny M A m Q E s) e.symm) (Dj (hw _ _ _ _ ?_))
 cases ho
 have e0:(o.getD #[]).toList.drop ((o.getD #[]).toList.length-names.length)=(o.getD #[]).toList:=by rw [Ff hd];rfl
 refine eX (congrArg (·&&true) (decide_eq_false (GD.mpr h1))) (eX (congrArg (fun l=>!List.isEmpty l) (zf (by rw [e0];exact h2))) (Dj (D8 (tC.trans (congrArg pure ((congrArg (fun l=>List.foldl iQ (List.zip names vs) ((names.drop (names.length-l.length)).zip l)) e0).trans (vN nd hd h1 h2)))) (Dx ?_))))
 refine cast (congrArg (fun b=>Q b s) (Eq.symm ?_)) hq
 refine (congrArg (List.filterMap _) (DG _)).trans (uc nd ?_)
 rw [Ds,D7,Hi (Hq.mpr h2),Ge h1]
def SD (fn:Nat->Option wN) (ct:Nat->Option (List CV->al->bu->Prop)):Tab:={fn:=fn,cl:=NL,gv:=QW,tv:=lk Pc,ct:=ct}
def Mv (prog:E4) (w:FX) (K:Frag) (p:E4) (loose:List Str) (mean:JC->Option Dk) (mg mb:Str->Option Dk) (fn:Nat->Option wN) (ct:Nat->Option (List CV->al->bu->Prop)) (ds:List Env->Prop):Cx:=
 {prog:=prog,w:=w,K:=K,p:=p,loose:=loose,mean:=mean,mg:=mg,mb:=mb,nm:=kF,gk:=QZ,T:=SD fn ct,ca:=ON,fa:=nK,ds:=ds}
theorem zU (h:LE c v=true):VR [] c v:=by
 cases c with
 |none=>exact vNone_e h rfl
 |bool a=>exact vBool_e h fun b h=>by cases a<;>cases b<;>first|rfl|cases h
 |int a=>exact vInt_e h fun i t h=>⟨t,by rw [mf.mp h]⟩
 |str l=>exact vStr_e h fun x t h=>⟨t,by rw [bN h]⟩
 |bytes l=>exact vByt_e h fun b t h=>⟨b,t,rfl,(kc.mp h).symm⟩
 |top a=>exact vRef_e h fun b h=>by rw [Dz h];rfl
 |obj=>cases h
theorem vI:∀{l:List CV} {vs:List Dk},bA LE l vs=true->dc [] l vs:=by
 intro x0
 induction x0 with
 |nil=>
  intro y4
  cases y4 with
  |nil=>
   intro _
   exact trivial
  |cons Z1 Z2=>
   intro h
   cases h
 |cons a l ihh=>
  intro y4
  cases y4 with
  |nil=>
   intro h
   cases h
  |cons v vs=>
   intro h
   have h:=Ea.mp h
   exact ⟨zU h.1,ihh h.2⟩
theorem dc.of_nil (h:dc [] l vs):dc ρ l vs:=h.mono Hs
theorem uB:∀{l:List (List Nat×α)} {x:List Nat} {g:α},w8 l x=some g->(x,g)∈l:=by
 intro x0
 induction x0 with
 |nil=>
  intro _ _ h
  cases h
 |cons p l ihh=>
  intro x g h
  rw [CG] at h
  cases e:aF p.1 x with
  |true=>
   rw [e] at h
   cases h
   rw [←cg.mp e]
   exact .head _
  |false=>rw [e] at h;exact .tail _ (ihh h)
theorem tf:∀{l:List (Nat×α)} {x:Nat} {g:α},lk l x=some g->(x,g)∈l:=by
 intro x0
 induction x0 with
 |nil=>
  intro _ _ h
  cases h
 |cons p l ihh=>
  intro x g h
  rw [jZ] at h
  cases e:Dy p.1 x with
  |true=>
   rw [e] at h
   cases h
   rw [←Dz e]
   exact .head _
  |false=>rw [e] at h;exact .tail _ (ihh h)
theorem zS:∀{l:List Nat} {x:Nat},gS x l=true->x∈l:=by
 intro x0
 induction x0 with
 |nil=>
  intro _ h
  cases h
 |cons y l ihh=>
  intro x h
  simp only [kS,kK] at h
  cases e:Dy y x with
  |true=>rw [Dz e];exact .head _
  |false=>rw [e] at h;exact .tail _ (ihh h)
theorem ul:∀{l:List Nat} {x:Nat},x∈l->gS x l=true
 |y::l,x,h=>by
  simp only [kS,kK]
  cases e:Dy y x with
  |true=>rfl
  |false=>
   rcases Dv.mp h with rfl|h
   ·rw [cG] at e;simp at e
   ·exact ul h
theorem oB:∀{l:List Nat},gE l=true->l.Nodup:=by
 intro x0
 induction x0 with
 |nil=>
  intro _
  exact E9
 |cons x l ihh=>
  intro h
  have h:=Ea.mp h
  rw [D6]
  refine ⟨fun hm=>?_,ihh h.2⟩
  have:=h.1
  rw [ul hm] at this
  cases this
theorem gj (h:w6 a b=true):a=some b:=by
 exact onO_e (P:=fun r=>r=some b) h fun x h=>congrArg some (beq_iff_eq.mp h)
theorem sh {K:Frag} {x:List Nat} {v:Dk} (h:Se K x v=true):nsIn K mainGlobals (aV x)=some (some v):=by
 rw [←tF]
 exact onO_e (P:=fun r=>r=some (some v)) h fun x h=>onO_e (P:=fun x=>some x=some (some v)) h fun w h=>by rw [beq_iff_eq.mp h]
theorem qa {K:Frag} {x:List Nat} (h:CU K x=true):nsIn K mainGlobals (aV x)=some none:=by
 rw [←tF]
 exact onO_e (P:=fun r=>r=some none) h fun x h=>congrArg some (ES.mp h)
theorem sG (h:NX x v=true):bootBuiltins (aV x)=some v:=by
 exact onO_e (P:=fun r=>r=some v) h fun x h=>congrArg some (beq_iff_eq.mp h)
theorem yC:∀{l:List α} {i:Nat} {a:α},am l i=some a->i<l.length:=by
 intro l i a h
 rw [aO] at h
 exact (Ei.mp h).1
theorem yg (h:zZ f=some fi):f<92:=Lb (yC h) (by decide+kernel)
theorem Nu (h:NL c=some k):c<5:=Lb (yC h) (by decide+kernel)
def sD:List (List Nat)->Bool
 |[]=>true
 |a::l=>!(l.any fun b=>aF a b)&&sD l
theorem wn:∀{l:List (List Nat)},sD l=true->∀{i j:Nat} {a:List Nat},am l i=some a->am l j=some a->i=j:=by
 intro x0
 induction x0 with
 |nil=>
  intro _ _ _ _ h _
  simp [jY,j0,kb] at h
 |cons b l ihh=>
  intro h i j a hi hj
  have h:=Ea.mp h
  have no:∀{k:Nat},am l k=some b->False:=fun {k} e=>by
   rw [aO] at e
   have:=h.1
   rw [FC.mpr ⟨b,DU e,cg.mpr rfl⟩] at this
   cases this
  cases i with
  |zero=>
   simp only [jY,j0,kb,Gf] at hi
   subst hi
   cases j with
   |zero=>rfl
   |succ j=>simp only [jY,j0,kb] at hj;exact (no hj).elim
  |succ i=>
   simp only [jY,j0,kb] at hi
   cases j with
   |zero=>simp only [jY,j0,kb,Gf] at hj;subst hj;exact (no hi).elim
   |succ j=>simp only [jY,j0,kb] at hj;rw [ihh h.2 hi hj]
theorem xk:sD MH=true:=by decide+kernel
theorem A4:(MH.all fun l=>l.all fun c=>E1 c 2000000)=true:=by decide+kernel
theorem CZ:(MH.all fun l=>!aF l [46,48])=true:=by decide+kernel
theorem lj (x:Nat):(∃l,am MH x=some l/\kF x=l)\/kF x=[2000000+x]:=by
 unfold kF
 cases e:am MH x with
 |some l=>exact .inl ⟨l,rfl,rfl⟩
 |none=>exact .inr rfl
theorem ug (h:am MH x=some [2000000+y]):False:=by
 rw [aO] at h
 have h2:=D2.mp (D2.mp A4 _ (DU h)) _ (.head _)
 have:=DZ (D5 h2) (DQ _)
 lia
theorem vE (x y:Nat) (h:kF x=kF y):x=y:=by
 rcases lj x with ⟨l,hl,e⟩|e<;>rcases lj y with ⟨l',hl',e'⟩|e'
 ·rw [e,e'] at h
  subst h
  exact wn xk hl hl'
 ·rw [e,e'] at h
  subst h
  exact (ug hl).elim
 ·rw [e,e'] at h
  subst h
  exact (ug hl').elim
 ·rw [e,e'] at h
  simpa using h
theorem z9 (x:Nat):kF x≠[46,48]:=by
 rcases lj x with ⟨l,hl,e⟩|e
 ·rw [e]
  intro h
  subst h
  rw [aO] at hl
  have:=D2.mp CZ _ (DU hl)
  exact absurd this (by decide)
 ·rw [e]
  intro h
  simp at h
section
variable {prog:E4} {w:FX} {K:Frag} {p:E4} {loose:List Str}
theorem MW:∀{as:List Arg},bA (fun x (a:Arg)=>dC (kF x) a.arg) ps as=true->as.map (·.arg)=ps.map fun x=>aV (kF x):=by
 induction ps with
 |nil=>intro as h;rw [bG h];rfl
 |cons x ps ih=>
  intro as h
  refine cV (az h) fun a r zz1 h1 h2=>?_
  subst zz1
  rw [DB,DB,ih h2,bN h1]
theorem Ah:∀{as:List (Str×Du)},bA (fun x (n:Str×Du)=>dC (kF x) n.1) ps as=true->as.map (·.1)=ps.map fun x=>aV (kF x):=by
 induction ps with
 |nil=>intro as h;rw [bG h];rfl
 |cons x ps ih=>
  intro as h
  refine cV (az h) fun a r zz3 h1 h2=>?_
  subst zz3
  rw [DB,DB,ih h2,bN h1]
theorem Nd:∀{ps:List Nat} {cs:List CV} {ws:List Dk},dc ρ cs ws->ps.length=cs.length->BR C ρ (ow ps cs) ((ps.map fun x=>C.nS x).zip ws):=by
 intro x0
 induction x0 with
 |nil=>
  intro y4
  cases y4 with
  |nil=>
   intro y6
   cases y6 with
   |nil=>
    intro _ _
    exact trivial
   |cons Z1 Z2=>
    intro h _
    exact h.elim
  |cons Z1 Z2=>
   intro _ _ h
   simp at h
 |cons x ps ihh=>
  intro y4
  cases y4 with
  |nil=>
   intro _ _ h
   simp at h
  |cons c cs=>
   intro y6
   cases y6 with
   |nil=>
    intro h _
    exact h.elim
   |cons v ws=>
    intro h hl
    exact ⟨rfl,h.1,ihh h.2 (by simpa using hl)⟩
theorem rf {ps:List Nat} (h:ps.Nodup):(ps.map fun x=>aV (kF x)).Nodup:=by
 rw [DS,Fq]
 exact FA (fun h e=>h (vE _ _ (e8 e))) (DS.mp h)
theorem Ag (h:CW K defaults df=true) (X:K.In s.heap):∃dvs:List Dk,dc [] df dvs/\∃o:Option (Array Dk),(o.getD #[]).toList=dvs/\∀(M:Ks) (A:E3) (E:Dk->Dm->Prop) (Q:Option (Array Dk)->Dm->Prop),Q o s->wpAny M A (seqItems? defaults) Q E s:=by
 rcases bO h with h|h
 ·rw [E8.mp (bR h)]
  exact vNone_e (bL h) ⟨[],trivial,none,rfl,fun M A E Q hq=>D8 (a:=none) rfl hq⟩
 ·exact vRef_e h fun T h=>(uW h).elim fun Z0 h=>h.elim fun Z0 h=>h.elim fun vs h=>h.elim fun n h=>h.elim fun Z0 h=>⟨vs.toList,vI h.2,some vs,rfl,fun M A E Q hq=>Kk (X _ _ h.1) rfl hq⟩
theorem uy (h:Tb K (nK f) fi=true):
  P6 (Mv prog w K p loose mean mg mb fn ct ds) f fi:=by
 refine Rk (Aj h) fun oc od fd osl ho h=>?_
 obtain ⟨name,qual,params,body',scope,globals,closure,defaults,kwd,doc,pm,an,code,ct',bi⟩:=fd
 revert ho
 refine bStm_e (show At body' _=true from h) fun body h ho=>?_
 simp only [Dl] at h
 refine aD h fun zz5 h9=>?_
 obtain ⟨⟨⟨⟨⟨⟨⟨h1,h2⟩,h3⟩,h4⟩,h5⟩,h6⟩,h7⟩,h8⟩:=zz5
 have e1:=Dz h1
 have e3:=Dz h3
 have e2:closure=[]:=E8.mp h2
 subst e1 e2 e3
 unfold PW at h6
 simp only [Dl,decide_eq_true_eq,Ec] at h6
 refine aD h6 fun zz7 s10=>?_
 obtain ⟨⟨⟨⟨⟨⟨⟨⟨s1,s2⟩,s3⟩,s4⟩,s5⟩,s6⟩,s7⟩,s8⟩,s9⟩:=zz7
 unfold B8 at h7
 simp only [Dl] at h7
 refine aD h7 fun zz9 p5=>?_
 obtain ⟨⟨⟨p1,p2⟩,p3⟩,p4⟩:=zz9
 have nd:=oB s5
 refine ⟨name,qual,params,body,scope,defaults,kwd,doc,pm,an,code,ct',oc,od,osl,ho,h4,⟨60,h5⟩,s1,s2,s3,fun x e=>?_,fun as vs ρ loc s hv hl X=>?_,fun x hx=>?_,nd,Ah s8,oB s6,fun x e=>?_,fun y hy=>?_⟩
 ·have:=D2.mp s4 _ (eW e)
  simp at this
 ·unfold ix at hl
  simp only at hl
  cases hb:Dy (as.length+(fi.df.drop (fi.df.length-(fi.ps.length-as.length))).length) fi.ps.length with
  |false=>rw [hb] at hl;cases hl
  |true=>
   rw [hb] at hl
   cases hl
   have e:=Dz hb
   have hvl:=hv.len
   have hfl:=D5 h9
   rw [D7] at e
   refine ay (Ag h8 X) fun dvs hd hs=>?_
   have hdl:=hd.len
   have B:=oE (fd:=fnX name qual params body scope [] defaults kwd doc pm an code ct') (names:=fi.ps.map fun x=>aV (kF x)) (vs:=vs) (ds:=dvs) (s:=s) (E8.mp p1) (ES.mp p2) (E8.mp p3) (ES.mp p4) (MW p5) (rf nd)
    (by rw [Do];lia) (by rw [Do];exact Dr (Eg hvl.symm) (Dr (Ex _ _) (Eg e))) (by rw [Do];exact Dr (Eg e.symm) (FE (Eg hvl) (Dr (Fd _ _) (Eg hdl)))) hs
   refine ⟨_,B,?_⟩
   rw [(by rw [Do];lia:dvs.length-((fi.ps.map fun x=>aV (kF x)).length-vs.length)=fi.df.length-(fi.ps.length-as.length))]
   exact Nd (C:=Mv prog w K p loose mean mg mb fn ct ds) (hv.app (hd.of_nil.drop _)) (by rw [Ds,D7];lia)
 ·exact onO_e (P:=fun r=>r=some EW.local\/r=some .cell) (D2.mp s7 _ hx) fun k h=>(bO h).elim (fun h=>.inl (congrArg some (of_decide_eq_true h))) fun h=>.inr (congrArg some (of_decide_eq_true h))
 ·have:=D2.mp s9 _ (eW e)
  simp only [decide_true,Bool.not_true,Ig] at this
  exact ay (FC.mp this) fun c hc e2=>⟨c,hc,(bN e2).symm⟩
 ·exact onO_e (P:=fun r=>r=some Ju) (D2.mp s10 _ hy) fun k h=>congrArg some (of_decide_eq_true h)
theorem Aw (h:SR K (ON c) k=true):Pb (Mv prog w K p loose mean mg mb fn ct ds) c k:=by
 unfold SR at h
 simp only [Dl] at h
 refine aD h fun zz11 h9=>?_
 obtain ⟨⟨⟨⟨⟨⟨⟨h1,h2⟩,h3⟩,h4⟩,h5⟩,h6⟩,h7⟩,h8⟩:=zz11
 refine ⟨h1,gj h2,h3,fun Z0=>h4,h5,gj h6,h7,fun x hx=>?_,fun x f e=>?_⟩
 ·have:=D2.mp h8 _ (zS hx)
  have:=Ea.mp this
  refine ⟨?_,gj this.2⟩
  exact onO_e (P:=fun r=>∃at_,r=some at_/\noGet K at_=true) this.1 fun x h=>⟨x,rfl,h⟩
 ·have:=D2.mp h9 _ (tf e)
  simp only [Dl] at this
  exact ⟨gj this.1.1,this.1.2,this.2⟩
theorem md (h:eR K=true) (hfn:∀f fi,fn f=some fi->zZ f=some fi) (hds:∀f fi,fn f=some fi->∀l,ds l):iE (Mv prog w K p loose mean mg mb fn ct ds):=by
 unfold eR at h
 simp only [Dl] at h
 refine aD h fun zz13 h8=>?_
 obtain ⟨⟨⟨⟨⟨⟨⟨⟨h1,h2⟩,h3⟩,h4⟩,h5⟩,h6⟩,h7⟩,h9⟩,h10⟩:=zz13
 have gk:∀{x g},QZ x=some g->_:=fun {x g} e=>D2.mp h2 (x,g) (uB e)
 refine {tv:=⟨fun a co e=>?_⟩,bo:=O8 _,bm:=Bt _,sm:=?_,gv:=fun x v e=>?_,bi:=fun x b e=>?_,fn:=fun x f e=>?_,cl:=fun x c e=>?_,inj:=vE,cls:=fun c k e=>?_,no0:=z9,zp:=⟨qa h6,sG h7,by decide+kernel⟩,en:=⟨qa h9,sG h10,by decide+kernel⟩,dsn:=hds,fns:=fun f fi e=>?_}
 ·have:=D2.mp h3 (a,co) (tf e)
  refine ay (Ml this) fun l e h=>?_
  cases e
  have F:∃vs n,K.lookup a=some (wl (EO vs) n)/\bA LE l vs=true:=onO_e (P:=fun r=>∃vs n,r=some (wl (EO vs) n)/\bA LE l vs=true) h fun o h=>by
   obtain ⟨c,od,d,sl⟩:=o
   refine isTy_e (v:=c) (bL h) (dSeq_e (d:=d) (bR (bR (bR h))) fun vs n k=>⟨vs.toList,n,?_,k⟩)
   cases ES.mp (bL (bR h))
   cases Array.isEmpty_iff.mp (bL (bR (bR h)))
   rfl
  exact dG F fun vs n ho e3=>⟨l,vs,n,rfl,ho,vI e3⟩
 ·exact Gc.mp h8
 ·have:=D2.mp h1 (x,v) (tf e)
  rw [←tF]
  exact onO_e (P:=fun r=>∃w,r=some (some w)/\VR [] v w) this fun x h=>onO_e (P:=fun x=>∃w,some x=some (some w)/\VR [] v w) h fun w h=>⟨w,rfl,zU h⟩
 ·have:=gk e
  simp only [Dl,Ec,beq_eq_false_iff_ne] at this
  exact ⟨qa this.1.1,sG this.1.2,this.2⟩
 ·have:=Ea.mp (gk e)
  exact ⟨sh this.1,this.2⟩
 ·have:=Ea.mp (gk e)
  exact ⟨sh this.1,this.2⟩
 ·have:=D2.mp h5 c (F5.mpr (Nu e))
  rw [show NL c=some k from e] at this
  exact Aw this
 ·have e1:=hfn f fi e
  have:=D2.mp h4 f (F5.mpr (yg e1))
  rw [e1] at this
  rcases KN.mp this with q|q
  ·cases q
  ·exact uy q
end
theorem my:bootBuiltins "Exception"=some (.type "Exception"):=by decide+kernel
theorem n7 {K:Frag}:findCls K (.type "Exception") (.type "type") "__init__"=some (.val (.builtin "Exception.__init__")):=by kernel_rfl
theorem mA:Manifest.isStub "Exception"=false:=by decide+kernel
theorem nh:typeOf (.type "Exception")=pure (.type "type"):=by first|rfl|kernel_rfl
theorem eE (h:og sc x k=true):sc.names.lookup x=some k:=by
 exact onO_e (P:=fun r=>r=some k) h fun j h=>congrArg some (of_decide_eq_true h)
theorem yZ {K:Frag} {defaults:Dk} (h:OT K defaults=true) {s:Dm} (X:K.In s.heap):∃dvs:List Dk,dvs.length=1/\∃o:Option (Array Dk),(o.getD #[]).toList=dvs/\∀(M:Ks) (A:E3) (E:Dk->Dm->Prop) (Q:Option (Array Dk)->Dm->Prop),Q o s->wpAny M A (seqItems? defaults) Q E s:=
 vRef_e h fun T h=>(uW h).elim fun Z0 h=>h.elim fun Z0 h=>h.elim fun vs h=>h.elim fun n h=>h.elim fun Z0 h=>⟨vs.toList,Dz h.2,some vs,rfl,fun M A E Q hq=>Kk (X _ _ h.1) rfl hq⟩
section
variable {news:List (Du×Obj)} {env:Env} {s:Dm} {K:Frag} {p:E4} {loose:List Str} {mg mb:Str->Option Dk} {E:Dk->Dm->Prop}
theorem t3 (F:Fr g L h m) (he:e≠L) (hg:g.get? e=none) (k:∀b o,b≠e->b<=L->h.get? b=some o->h'.get? b=some o):Fr g L h' m:=by
 obtain ⟨⟨o,es,ep,ho,r⟩,kp,ab⟩:=F
 refine ⟨⟨o,es,ep,k _ _ he.symm (DQ _) ho,r⟩,fun b o q=>?_,ab⟩
 have:b≠e:=fun z=>by rw [z,hg] at q;cases q
 exact k _ _ this (EP (DZ (DT q) ab)) (kp _ _ q)
theorem xL (N:HM g L h news) (he:∀q∈news,q.1≠e) (hl:∀q∈news,q.1<L) (k:∀b o,b≠e->b<=L->h.get? b=some o->h'.get? b=some o):HM g L h' news:=
 fun q hq=>⟨k _ _ (he q hq) (EP (hl q hq)) (N q hq).1,(N q hq).2⟩
theorem kI:handedIn (.builtin "Exception.__init__")=true:=by decide+kernel
theorem wa {g:DI} {L' e a:Du} {m1:Str->Option Dk} {v1 v2:Dk} {qual:Str} {scope:Ef} {code:Dk} {body:List Ek} {cd:HK} {nm q:Str} {N':Du} {bs':List Dk} {hdct:Bool} {sn:List Str} {sub:List Dk} {ab:Bool} {col:Option Bool} {dd:Option Du} {k0 k1 k2 k3 k5:Option Dk} {Q:Kt->Dm->Prop}
  (F1:Fr g L' s.heap m1) (h1:m1 "self"=some (.ref e)) (h2:m1 "what"=some v1) (h3:m1 "at"=some v2) (Xg:K.In g) (Tg:TopRead p loose mg mb g) (hx:nsIn K mainGlobals "Exception"=some none) (hb:yF body=true) (hk:scope.kind=.function)
  (hEx:(envX qual scope L' a code []).kindOf "Exception"=some .globalImplicit) (hse:(envX qual scope L' a code []).kindOf "self"=some .local) (hwh:(envX qual scope L' a code []).kindOf "what"=some .local) (hat:(envX qual scope L' a code []).kindOf "at"=some .local)
  (I0:om 0 g L' s.heap e 99) (hC:K.lookup 99=some (excClassObj nm q 99 N' bs' (o6 62) hdct sn sub ab col dd k0 k1 k2 k3 k5 "Exception.__new__")) (hcls:clsIn K 99=some cd) (hmro:cd.mro=.ref 99::o6 62) (hdi:cd.hasDict=true)
  (hset:findIn K (.ref 99) "__setattr__"=some (some (.builtin "object.__setattr__"))) (t1:takerIn K 99 "what"=some none) (t2:takerIn K 99 "at"=some none)
  (h:∀h' tk,Fr g L' h' m1->om 2 g L' h' e 99->(∀b o,b≠e->b<=L'->s.heap.get? b=some o->h'.get? b=some o)->Q .next (aQ s h' tk)):
  wpAny (model prog w) A (execs body (envX qual scope L' a code [])) Q E s:=by
 refine bodyB_e hb fun np ap pa pb pc pe Z0 Z0 Z0 Z0 Z0 Z0 Z0 Z0 hpl=>HG (wpAny_Expr_any ?_ (jU hk) (by rfl))
 rw [arm_eval_Call,qt (by rfl)]
 refine Dj (nameX_B F1 Xg Tg hx my (by decide) ?_ hk hEx)
 refine Dj (GM ?_)
 rw [(by rfl:methodCallForm (([Gp "self" pa,Gp "what" pb]:List Expr).length+([]:List Keyword).length) (backTo pc (starEach [Gp "self" pa,Gp "what" pb] (envX qual scope L' a code []))) (backToKw pc (keywordEach [] (envX qual scope L' a code [])))=true)]
 have gm:∀{pl:Sem Bool} {Q:Dk×List Dk->Dm->Prop},Q (.builtin "Exception.__init__",[]) {s with toks:=s.toks+1}->wpAny (model prog w) A (getMethod (.type "Exception") (Eu "__init__") pl) Q E s:=
  fun h=>method_type (T:="Exception") (name:=Eu "__init__") (v:=.builtin "Exception.__init__") F1 Xg nh mA n7 kI h
 refine Dj (Gr (gm ?_))
 refine Dj (D8 (by unfold methodCallPos;simp [Dz hpl]:methodCallPos true (Gp "Exception" np) (envX qual scope L' a code []) ap pc=pure pc) ?_)
 refine callWith_of (P:=fun Z0=>True) (by rfl) (fun Z0 Z0=>⟨.machine,.inr (.inl rfl),.now⟩) (Ki (FJ (nameX_L (s:={s with toks:=s.toks+1}) F1 h1 (FJ (nameX_L (s:={s with toks:=s.toks+1}) F1 h2 (IF ⟨trivial,?_⟩) hk hwh) ) hk hse)))
 refine yG (s:={s with toks:=s.toks+1}) I0 (F1.keep _ _ (Xg _ _ hC)) fun h' I1 k1'=>?_
 have hL:∃o,h'.get? L'=some o:=by
  exact jo F1.ns fun o Z0 Z0 ho Z0=>⟨o,k1' _ _ I0.3.symm ho⟩
 have F2:=t3 F1 I0.3 I0.2 (fun b o n Z0 q=>k1' b o n q)
 refine HG (JD (nameX_L (s:=aQ s h' (s.toks+1)) F2 h2 (nameX_L (s:=aQ s h' (s.toks+1)) F2 h1 ?_ hk hse) hk hwh) (by rfl))
 refine uh (s:=aQ s h' (s.toks+1)) (by decide) I1 hL (fun b o q=>F2.keep _ _ (Xg _ _ q)) hset hcls hmro hdi t1 fun h'' tk I2 k2'=>?_
 have F3:=t3 F2 I0.3 I0.2 k2'
 refine HG (JD (nameX_L (s:=aQ s h'' tk) F3 h3 (nameX_L (s:=aQ s h'' tk) F3 h1 ?_ hk hse) hk hat) (by rfl))
 refine uh (s:=aQ s h'' tk) (by decide) I2 (let ⟨o,ho⟩:=hL;⟨o,k2' _ _ I0.3.symm (DQ _) ho⟩) (fun b o q=>F3.keep _ _ (Xg _ _ q)) hset hcls hmro hdi t2 fun h3' tk' I3 k3'=>?_
 exact wpAny_execs_nil (h h3' tk' (t3 F3 I0.3 I0.2 k3') I3 fun b o n l q=>k3' _ _ n l (k2' _ _ n l (k1' _ _ n q)))
theorem vO {e:Du} {v1 v2:Dk} {a0:Du} {Q:Dk->Dm->Prop} (B:K8 A₀ base outer h₀) (F:Fr h₀ L s.heap m) (N:HM h₀ L s.heap news) (hlim:h₀.NoLimit) (hA:A.frames=some (env::outer)) (hf:env.frame=some L) (hke:env.scope.kind=.function)
  (hroom:A.depth<recursionLimit) (X:K.In h₀) (T:TopRead p loose mg mb h₀) (hx:kf K=true) (hen:h₀.get? e=none) (heL:e≠L) (hee:∀q∈news,q.1≠e)
  (he:s.heap.get? e=some {cls:=.ref 99,data:=.fields #[.ref a0,.none,.none,.none,.bool false,.none]})
  (h:∀h' tk od a1,Fr h₀ L h' m->HM h₀ L h' news->h'.get? e=some {cls:=.ref 99,dict:=od,data:=.fields #[.ref a1,.none,.none,.none,.bool false,.none]}->Q .none (aQ s h' tk)):
  wpAny (model prog w) A (call (.ref 52) [.ref e,v1,v2]) Q E s:=by
 refine jo (wU (bL (bL (bL (bL (bL (bL (bL hx)))))))) fun od52 fd osl ho y=>?_
 have y1:=bL (bL y)
 have y2:=bR (bL y)
 have y3:=bR y
 have x4:=bR (bL (bL (bL (bL hx))))
 have x5:=bR (bL (bL (bL hx)))
 have x6:=bR (bL (bL hx))
 have x7':nsIn K mainGlobals "Exception"=some none:=gj (bR hx)
 obtain ⟨od99,cd,nm,q,N',bs',hdct,sn,sub,ab,col,k0,k1,k2,k3,k5,hcls,z1,z3,hC⟩:=qd hx
 ··unfold CY at y1
   simp only [Dl,decide_eq_true_eq,Ec,beq_iff_eq] at y1
   refine aD y1 fun b1 zz5=>?_
   obtain ⟨⟨⟨⟨⟨⟨⟨⟨⟨⟨⟨⟨⟨⟨⟨c1,c2⟩,c3⟩,c4⟩,c5⟩,c6⟩,c7⟩,c8⟩,c9⟩,c10⟩,c11⟩,d1⟩,d2⟩,d3⟩,d4⟩,d5⟩:=zz5
   obtain ⟨name,qual,params,body',scope,globals,closure,defaults,kwd,doc,pm,an,code,ct',bi⟩:=fd
   dsimp only at b1 c1 c2 c3 c4 c5 c6 c7 c8 c9 c10 c11 d1 d2 d3 d4 d5 y2 y3
   have e1:=Dz c9
   have e3:=Dz c11
   have e2:closure=[]:=E8.mp c10
   subst e1 e2 e3
   revert ho
   refine bStm_e b1 fun body b1 ho=>ay (yZ y3 fun a o z=>F.keep _ _ (X a o z)) fun dvs hdl hs=>?_
   have BT:=oE (fd:=fnX name qual params body scope [] defaults kwd doc pm an code ct') (names:=(["self","what","at"]:List Str)) (vs:=[.ref e,v1,v2]) (ds:=dvs) (s:=s) (E8.mp d1) (ES.mp d2) (E8.mp d3) (ES.mp d4) d5 (by decide)
    (by rw [hdl];simp) (by simp) (by rw [hdl];simp) hs
   have eb:(["self","what","at"]:List Str).zip ([.ref e,v1,v2]++dvs.drop (dvs.length-((["self","what","at"]:List Str).length-[Fz e,v1,v2].length)))=[((Eu "self"),Fz e),(Eu "what",v1),(Eu "at",v2)]:=by
    have:dvs.drop (dvs.length-((["self","what","at"]:List Str).length-[Fz e,v1,v2].length))=[]:=by
     rw [Kw];simp
    rw [this];rfl
   rw [eb] at BT
   have N1:HM h₀ L s.heap ((e,{cls:=.ref 99,data:=.fields #[.ref a0,.none,.none,.none,.bool false,.none]})::news):=fun q hq=>by
    rcases Dv.mp hq with rfl|hq
    ·exact ⟨he,heL,hen⟩
    ·exact N q hq
   refine Ji (callX_plain B F N1 hlim hA hf hke (F.keep _ _ (X _ _ ho)) rfl (codeRec_of (X.keeps F.keep) y2) hroom BT (fun y hy=>?_) (fun g L' h₁ Fg F1 N2 Bg st hlt=>?_) (fun y hy=>?_) c7 c8 c6)
   ·simp at hy
    rcases hy with rfl|rfl|rfl
    ·exact eE c1
    ·exact eE c2
    ·exact eE c3
   ·have hlt':∀q∈news,q.1<L':=fun q hq=>hlt q (.tail _ hq)
    refine eU (N2 _ (.head _)) fun q1 q2 q3=>?_
    have int:interactive (envX qual scope L' 52 code [])=false:=jU c6
    refine wa F1 rfl rfl rfl (fun a o z=>st a o (X a o z)) (T.keeps st) x7' b1 c6 (eE c4) (eE c1) (eE c2) (eE c3) (⟨F1.keep,q3,q2,none,a0,q1,fun d h=>by cases h⟩) hC hcls z1 z3 (gj x4) (gj x5) (gj x6) fun h' tk F2 I2 kp=>⟨L',_,news++[],F2,?_,fun Fr' Nr=>?_⟩
    ·rw [DG]
     exact xL (fun q hq=>N2 q (.tail _ hq)) (hee) hlt' kp
    ·refine dG I2.4 fun od a1 he' Z0=>?_
     rw [DG] at Nr
     exact h _ _ od a1 Fr' Nr he'
   ·have:=D2.mp c5 y hy
    intro e
    rw [e] at this
    simp at this
end
def kU (l:List Env):List Du:=l.filterMap (·.frame)
inductive i8 (C:Cx) (S:bT) (hid:List (Du×Obj)) (m:Str->Option Dk) (ρ:List Du) (σ:al) (e:Du) (h:DI):Prop
 |mk (B:DI) (a0:Dk) (os:List (Du×Obj)) (δ:List Du) (τ:al) (h1:S.base.StaysIn B) (h2:∀b o,S.h₀.get? b=some o->b∉kU (S.fenv::S.outer)->B.get? b=some o) (h3:∀q∈hid++os,B.get? q.1=some q.2/\q.1≠S.L/\S.h₀.get? q.1=none)
  (h4:((hid++os).map (·.1)).Nodup) (h5:os.map (·.1)=ρ++δ) (h6:gR C (ρ++δ) (σ++τ) os) (h7:DI.FlyingW B (S.fenv::S.outer) e (.ref 99) a0 h) (up:S.h₀.UpToSlots h) (ns:h.Ns S.L m) (above:S.h₀.objs.size<=S.L)
inductive n6 (C:Cx) (S:bT) (hid:List (Du×Obj)) (m:Str->Option Dk) (ρ:List Du) (σ:al) (e:Du) (h:DI):Prop
 |mk (B:DI) (a0:Dk) (os:List (Du×Obj)) (δ:List Du) (τ:al) (h1:S.base.StaysIn B) (h2:∀b o,S.h₀.get? b=some o->b∉kU (S.fenv::S.outer)->B.get? b=some o) (h3:∀q∈hid++os,B.get? q.1=some q.2/\q.1≠S.L/\S.h₀.get? q.1=none)
  (h4:((hid++os).map (·.1)).Nodup) (h5:os.map (·.1)=ρ++δ) (h6:gR C (ρ++δ) (σ++τ) os) (h7:K6 B (S.fenv::S.outer) e (.ref 99) a0 S.L h) (up:S.h₀.UpToSlots h) (ns:h.Ns S.L m) (above:S.h₀.objs.size<=S.L)
theorem n6.weaken (x:n6 C S hid m (ρ++δ) (σ++τ) e h):n6 C S hid m ρ σ e h:=by
 obtain ⟨B,a0,os,δ',τ',h1,h2,h3,h4,h5,h6,h7,u,n,a⟩:=x
 exact ⟨B,a0,os,δ++δ',τ++τ',h1,h2,h3,h4,by rw [h5,Di],by rw [Di,Di] at h6;exact h6,h7,u,n,a⟩
inductive sB (C:Cx) (S:bT) (hid:List (Du×Obj)) (ρ:List Du) (σ:al) (e:Du) (h:DI):Prop
 |mk (m:Str->Option Dk) (os:List (Du×Obj)) (δ:List Du) (τ:al) (od:Option Du) (a1:Du) (h1:Fr S.h₀ S.L h m) (h2:HM S.h₀ S.L h (hid++os)) (h3:((hid++os).map (·.1)).Nodup) (h4:os.map (·.1)=ρ++δ) (h5:gR C (ρ++δ) (σ++τ) os)
  (h6:h.get? e=some {cls:=.ref 99,dict:=od,data:=.fields #[.ref a1,.none,.none,.none,.bool false,.none]}) (h7:S.h₀.get? e=none) (h8:e≠S.L) (h9:∀q∈hid++os,q.1≠e)
theorem i8.weaken (x:i8 C S hid m (ρ++δ) (σ++τ) e h):i8 C S hid m ρ σ e h:=by
 obtain ⟨B,a0,os,δ',τ',h1,h2,h3,h4,h5,h6,h7,u,n,a⟩:=x
 exact ⟨B,a0,os,δ++δ',τ++τ',h1,h2,h3,h4,by rw [h5,Di],by rw [Di,Di] at h6;exact h6,h7,u,n,a⟩
theorem sB.weaken (x:sB C S hid (ρ++δ) (σ++τ) e h):sB C S hid ρ σ e h:=by
 obtain ⟨m,os,δ',τ',od,a1,h1,h2,h3,h4,h5,h6,h7,h8,h9⟩:=x
 exact ⟨m,os,δ++δ',τ++τ',od,a1,h1,h2,h3,by rw [h4,Di],by rw [Di,Di] at h5;exact h5,h6,h7,h8,h9⟩
theorem ip (hm:b∈kU (env::l)):env.frame=some b\/b∈kU l:=by
 refine ay (Gl.mp hm) fun env1 he hf=>?_
 rcases Dv.mp he with rfl|he
 ·exact .inl hf
 ·exact .inr (Gl.mpr ⟨env1,he,hf⟩)
theorem t5 (hf':env'.frame=some L') (hA:S.A.frames=some (S.fenv::S.outer)) (Fg:Fr S.h₀ S.L g m) (st:S.h₀.StaysIn g) (F:i8 C (fM S.A S.base g (S.fenv::S.outer) env' L') hid m' ρ σ e s.heap)
  (hQ:∀h'',i8 C S hid m ρ σ e h''->Q () {s with heap:=h''}):wpAny (model C.prog C.w) (S.A.deeper env') (leaving env' (.ref e)) Q E s:=by
 obtain ⟨B,a0,os,δ,τ,h1,h2,h3,h4,h5,h6,h7,u,n,a⟩:=F
 refine wpAny_leaves_onW (Fj hA) hf' h7 fun h'' x1 x2=>hQ h'' ⟨B,a0,os,δ,τ,h1,fun b o q nm=>?_,fun q hq=>?_,h4,h5,h6,x1,?_,?_,Fg.above⟩
 ·have q':=st _ _ q
  refine h2 b o q' fun hm=>?_
  rcases ip hm with z|z
  ·have:L'=b:=EF (hf'.symm.trans z)
   exact absurd (DZ (DT q') (this▸(a))) (EN _)
  ·exact nm z
 ·refine eU (h3 q hq) fun y1 y2 y3=>jo Fg.ns fun oL Z0 Z0 hoL Z0=>⟨y1,fun z=>?_,?_⟩
  ·have:g.get? q.1=none:=y3
   rw [z,hoL] at this;cases this
  ·cases w:S.h₀.get? q.1 with
   |none=>rfl
   |some o=>have:=st _ _ w;rw [show g.get? q.1=none from y3] at this;cases this
 ·exact (Fe st).trans (ER u x2)
 ·exact (ER u x2).ns Fg.ns
theorem tS (hf':env'.frame=some L') (hk':env'.scope.kind=.function) (hA:S.A.frames=some (S.fenv::S.outer)) (Fg:Fr S.h₀ S.L g m) (st:S.h₀.StaysIn g) (Bg:K8 S.A S.base (S.fenv::S.outer) g) (F:sB C (fM S.A S.base g (S.fenv::S.outer) env' L') hid ρ σ e s.heap)
  (hQ:∀h'',i8 C S hid m ρ σ e h''->Q () {s with heap:=h''}):wpAny (model C.prog C.w) (S.A.deeper env') (leaving env' (.ref e)) Q E s:=by
 obtain ⟨m1,os,δ,τ,od,a1,F1,N1,nd,eq,O,he,hen,heL,hne⟩:=F
 have F1:Fr g L' s.heap m1:=F1
 have hen:g.get? e=none:=hen
 have heL:e≠L':=heL
 have B1:=pushX Bg F1 hf' hk'
 have frL:∀b,b∈kU (env'::S.fenv::S.outer)->b≠e:=fun b hb q=>by
  subst q
  obtain ⟨_,o,ho,hnf⟩:=B1.frames.mem hb
  rw [he] at ho
  cases ho
  exact hnf _ rfl
 have baseE:S.base.get? e=none:=by
  cases q:S.base.get? e with
  |none=>rfl
  |some o=>have:=Bg.stays _ _ q;rw [hen] at this;cases this
 have hB:∀b o,(hideAll s.heap (e::kU (env'::S.fenv::S.outer))).get? b=some o->s.heap.get? b=some o:=fun b o q=>of_hideAll _ q
 have cu:∀b o,s.heap.get? b=some o->b≠e->b∉kU (env'::S.fenv::S.outer)->(hideAll s.heap (e::kU (env'::S.fenv::S.outer))).get? b=some o:=fun b o q n1 n2=>hideAll_get _ q fun hm=>by
  rcases Dv.mp hm with z|z
  ·exact n1 z
  ·exact n2 z
 have hin:∀env∈(env'::S.fenv::S.outer),∀b,env.frame=some b->b∈(e::kU (env'::S.fenv::S.outer)):=fun env hm b hb=>FZ _ (Gl.mpr ⟨env,hm,hb⟩)
 refine wpAny_leaving_firstW (base:=hideAll s.heap (e::kU (env'::S.fenv::S.outer))) (a0:=.ref a1) (Fj hA) (funFrames_hide B1.frames hin) hf' he hB (hideAll_none _ (.head _)) rfl rfl rfl fun h'' L=>hQ h'' (iG L fun k1 zz15 k3 k4=>?_)
 obtain ⟨_,_,k2⟩:=zz15
 have upG:g.UpToSlots h'':=(Fe F1.keep).trans k4
 refine ⟨_,.ref a1,os,δ,τ,fun b o q=>?_,fun b o q nm=>?_,fun q hq=>?_,nd,eq,O,⟨k1,hideAll_none _ (.head _),k2,k3⟩,(Fe st).trans upG,upG.ns Fg.ns,Fg.above⟩
 ·refine cu b o (F1.keep _ _ (Bg.stays _ _ q)) (fun z=>by rw [z,baseE] at q;cases q) fun hm=>?_
  rw [(B1.frames.mem hm).1] at q
  cases q
 ·have q':=st _ _ q
  refine cu b o (F1.keep _ _ q') (fun z=>by rw [z,hen] at q';cases q') fun hm=>?_
  rcases ip hm with z|z
  ·have:L'=b:=EF (hf'.symm.trans z)
   exact absurd (DZ (DT q') (this▸F1.above)) (EN _)
  ·exact nm z
 ·refine eU ((N1) q hq) fun y1 y2 y3=>jo Fg.ns fun oL Z0 Z0 hoL Z0=>⟨cu _ _ y1 (hne q hq) fun hm=>?_,fun z=>?_,?_⟩
  ·rcases ip hm with z|z
   ·exact y2 (EF (hf'.symm.trans z)).symm
   ·refine ay ((Bg.frames.mem z).2) fun o ho Z0=>?_
    rw [y3] at ho;cases ho
  ·rw [z,hoL] at y3;cases y3
  ·cases w:S.h₀.get? q.1 with
   |none=>rfl
   |some o=>have:=st _ _ w;rw [y3] at this;cases this
theorem NQ {h:DI} {a:Du} {o:Obj} {f:Obj->Obj} (ho:h.get? a=some o) (e:f o=o):h.update a f=h:=by
 refine congrArg (DI.mk · h.life) (Array.ext_getElem? fun i=>?_)
 rw [Hr]
 by_cases q:a=i
 ·rw [if_pos q,←q,(DI.get?_some_iff.mp ho).1]
  exact congrArg some e
 ·exact if_neg q
theorem lW (hh:K6 B l e (.ref 99) a0 L s.heap) (hQ:Q () s):wpAny M A (setFlight (.ref e) (some L)) Q E s:=by
 obtain ⟨_,_,_,oe,vs,T,oT,ts,he,_,hd,h1,_,_,hT,hdT,h3⟩:=hh
 refine Dj (EA he hd h1 ?_)
 rw [if_pos (show (Fz T != GA)=true from rfl)]
 refine Kj hT hdT (Array.getElem?_eq_some_iff.mp h3).1 ?_
 refine rwT (P:=fun h=>Q () {s with heap:=h}) (NQ hT ?_) hQ
 obtain ⟨c,d,dt,sl⟩:=oT
 have hdT:dt=.fields ts:=hdT
 subst hdT
 refine congrArg (fun x=>JS c d (.fields x) sl) (Array.ext_getElem? fun i=>?_)
 rw [Array.getElem?_setIfInBounds]
 by_cases q:3=i
 ·subst q
  rw [if_pos rfl,if_pos (Array.getElem?_eq_some_iff.mp h3).1,h3];rfl
 ·exact if_neg q
theorem v9 (ok:S.Ok C n) (hf:S.env=S.fenv) (F:n6 C S hid m ρ σ e s.heap) (hQ:∀h'',n6 C S hid m ρ σ e h''->E (.ref e) {s with heap:=h''}):cameBackBy (model C.prog C.w) S.A S.env E (.ref e) s:=by
 have F0:=F
 obtain ⟨B,a0,os,δ,τ,h1,h2,h3,h4,h5,h6,h7,u,n,a⟩:=F
 have hh:=h7
 obtain ⟨_,_,_,oe,vs,T,_,_,he,_,hd,hv1,_,_,_,_,_⟩:=h7
 refine Dj (EA he hd hv1 ?_)
 rw [if_neg (by simp)]
 rw [hf,ok.5]
 exact lW hh (hQ _ F0)
theorem wI (ok:S.Ok C n) (F:sB C S hid ρ σ e s.heap) (hQ:∀h'' m,n6 C S hid m ρ σ e h''->Q () {s with heap:=h''}):wpAny (model C.prog C.w) S.A (noteFrame (.ref e) S.fenv) Q E s:=by
 obtain ⟨m1,os,δ,τ,od,a1,F1,N1,nd,eq,O,he,hen,heL,hne⟩:=F
 have B1:=pushX ok.1 F1 ok.5 ok.6
 have frL:∀b,b∈kU (S.fenv::S.outer)->b≠e:=fun b hb q=>by
  subst q
  obtain ⟨_,o,ho,hnf⟩:=B1.frames.mem hb
  rw [he] at ho
  cases ho
  exact hnf _ rfl
 have baseE:S.base.get? e=none:=by
  cases q:S.base.get? e with
  |none=>rfl
  |some o=>have:=ok.1.stays _ _ q;rw [hen] at this;cases this
 have hB:∀b o,(hideAll s.heap (e::kU (S.fenv::S.outer))).get? b=some o->s.heap.get? b=some o:=fun b o q=>of_hideAll _ q
 have cu:∀b o,s.heap.get? b=some o->b≠e->b∉kU (S.fenv::S.outer)->(hideAll s.heap (e::kU (S.fenv::S.outer))).get? b=some o:=fun b o q n1 n2=>hideAll_get _ q fun hm=>by
  rcases Dv.mp hm with z|z
  ·exact n1 z
  ·exact n2 z
 have hin:∀env∈(S.fenv::S.outer),∀b,env.frame=some b->b∈(e::kU (S.fenv::S.outer)):=fun env hm b hb=>FZ _ (Gl.mpr ⟨env,hm,hb⟩)
 unfold noteFrame
 simp only [ok.5]
 refine Dj (EA he rfl (i:=1) (x:=.none) rfl ?_)
 rw [if_neg (by decide)]
 refine wpAny_entryW (base:=hideAll s.heap (e::kU (S.fenv::S.outer))) (a0:=.ref a1) ok.4 (funFrames_hide B1.frames hin) ok.5 he hB (hideAll_none _ (.head _)) rfl (by simp) rfl fun h'' L=>hQ h'' m1 (iG L fun k1 k2 k3 k4=>⟨_,.ref a1,os,δ,τ,fun b o q=>?_,fun b o q nm=>?_,fun q hq=>?_,nd,eq,O,⟨k1,hideAll_none _ (.head _),k2,k3⟩,(Fe F1.keep).trans k4,EB.ns k4 F1.ns,F1.above⟩)
 ·refine cu b o (F1.keep _ _ (ok.1.stays _ _ q)) (fun z=>by rw [z,baseE] at q;cases q) fun hm=>?_
  rw [(B1.frames.mem hm).1] at q
  cases q
 ·exact cu b o (F1.keep _ _ q) (fun z=>by rw [z,hen] at q;cases q) nm
 ·refine eU (N1 q hq) fun y1 y2 y3=>⟨cu _ _ y1 (hne q hq) fun hm=>?_,y2,y3⟩
  rcases ip hm with z|z
  ·exact y2 (EF (ok.5.symm.trans z)).symm
  ·refine ay ((ok.1.frames.mem z).2) fun o ho Z0=>?_
   rw [y3] at ho;cases ho
theorem sj (hf':env'.frame=some L') (hA:S.A.frames=some (S.fenv::S.outer)) (Fg:Fr S.h₀ S.L g m) (st:S.h₀.StaysIn g) (F:n6 C (fM S.A S.base g (S.fenv::S.outer) env' L') hid m' ρ σ e s.heap)
  (hQ:∀h'',i8 C S hid m ρ σ e h''->Q () {s with heap:=h''}):wpAny (model C.prog C.w) (S.A.deeper env') (leaving env' (.ref e)) Q E s:=by
 obtain ⟨B,a0,os,δ,τ,h1,h2,h3,h4,h5,h6,h7,u,n,a⟩:=F
 have h7:K6 B (env'::S.fenv::S.outer) e (.ref 99) a0 L' s.heap:=h7
 refine Dj (wpAny_noteFrame_againW hf' h7.2.2.2 (wpAny_landsW h7 fun h'' x1 x2=>hQ h'' (iG x1 fun z1 z2 zz28 z4=>?_)))
 obtain ⟨_,_,z3⟩:=zz28
 refine ⟨B,a0,os,δ,τ,h1,fun b o q nm=>?_,fun q hq=>?_,h4,h5,h6,⟨z1,z2,z3,z4⟩,?_,?_,Fg.above⟩
 ·have q':=st _ _ q
  refine h2 b o q' fun hm=>?_
  rcases ip hm with z|z
  ·have:L'=b:=EF (hf'.symm.trans z)
   exact absurd (DZ (DT q') (this▸(a))) (EN _)
  ·exact nm z
 ·refine eU (h3 q hq) fun y1 y2 y3=>jo Fg.ns fun oL Z0 Z0 hoL Z0=>⟨y1,fun z=>?_,?_⟩
  ·have:g.get? q.1=none:=y3
   rw [z,hoL] at this;cases this
  ·cases w:S.h₀.get? q.1 with
   |none=>rfl
   |some o=>have:=st _ _ w;rw [show g.get? q.1=none from y3] at this;cases this
 ·exact (Fe st).trans (ER u x2)
 ·exact (ER u x2).ns Fg.ns
inductive lP (C:Cx) (S:bT) (hid:List (Du×Obj)) (ρ:List Du) (σ:al) (s:Dm) (e:Dk) (s':Dm):Prop
 |mk (ea:Du) (h':DI) (tk:Nat) (e1:e=.ref ea) (e2:s'=(aQ s h' tk)) (M:(∃m',i8 C S hid m' ρ σ ea h')\/sB C S hid ρ σ ea h'\/∃m',n6 C S hid m' ρ σ ea h')
theorem fT (G:iE C) (ef:C.T.fn f=some fi) (el:ix fi as=some loc) (ok:S.Ok C (n+1)) (Re:aX C S hid m ρ σ s.heap) (hv:dc ρ as vs)
  (hbody:∀kk scope body,eD C.nm C.gk kk scope fi.body body=true->gF C.K (C.fa f)=some (body,scope)->∀S' δ h1 tk,FH C n scope S' hid (ρ++δ) (Mine.rD fi.cells loc σ).1 (Mine.rD fi.cells loc σ).2 h1->S'.base=S.base->
   aq (model C.prog C.w) S'.A (execs body S'.env) (fun Z0 Z0=>False) (lP C S' hid (ρ++δ) (Mine.rD fi.cells loc σ).2 s) (aQ s h1 tk))
  (K:∀e h' tk,i8 C S hid m ρ σ e h'->R (.error (.ref e)) (aQ s h' tk)):bg (model C.prog C.w) S.A (.call (.ref (C.fa f)) ⟨vs,[]⟩) R s:=by
 obtain ⟨name,qual,params,body,scope,dV,kV,doc,pm,an,cdv,ct,oc,od,osl,Fk⟩:=G.fns f fi ef
 obtain ⟨F,os,N0,nd,eq,O⟩:=id Re
 have X:C.K.In s.heap:=ok.2.keeps F.keep
 refine ay (Fk.8 as vs ρ loc s hv el X) fun binds hB hR=>?_
 have kindp:∀x∈loc.map (·.1),scope.names.lookup (C.nS x)=some .local\/scope.names.lookup (C.nS x)=some .cell:=fun x hx=>Fk.9 x ((hZ el)▸hx)
 refine na (name:=name) (qual:=qual) (params:=params) (body:=body) (scope:=scope) (dV:=dV) (kV:=kV) (doc:=doc) (pm:=pm) (an:=an) (cdv:=cdv) (ct:=ct) (binds:=binds)
  ok.1 F N0 (ok.3.nolimit) ok.4 ok.5 ok.6 (X _ _ Fk.1) rfl (codeRec_of X Fk.2) (by have:=ok.8;simp only [recursionLimit];lia) hB ?_ ?_ ?_ Fk.5 Fk.6 Fk.4
 ·intro n0 y hy
  have hy1:y.1∈binds.map (·.1):=DE hy
  rw [hR.keys] at hy1
  refine ay (DV.mp hy1) fun p hp e=>?_
  have:=kindp p.1 (DE hp)
  rw [show C.nS p.1=y.1 from e] at this
  rcases this with h|h
  ·exact .inl h
  ·refine .inr ⟨h,?_⟩
   refine ay (Fk.13 _ h) fun z hz ez=>?_
   have hm:y.1∈(cellsFrom n0 scope.names []).map (·.1):=by
    rw [FV scope.names n0 0 [] [] rfl,Fk.11,←ez]
    exact DE hz
   refine aG (dY hm) fun a ha=>?_
   rw [ha];rfl
 ·rw [Fk.11]
  rw [DS,Fq]
  exact FA (fun h e=>h (ig G.inj e)) (DS.mp Fk.12)
 ·intro g L' h1 tk cells Fg Fg' Ng CA Bg st ln
  let env':=envOfC qual scope L' (C.fa f) cdv
  let S':bT:=fM S.A S.base g (S.fenv::S.outer) env' L'
  have ok':S'.Ok C n:=by
   refine ⟨Bg,fun a o e=>st a o (ok.2 a o e),ok.3.keeps st,Fj ok.4,rfl,Fk.4,ok.7,?_,?_,Fk.4,rfl,rfl,G.dsn f fi ef _,ok.14,ok.15⟩
   ·have:=ok.8;show S.A.depth+1+n<990;lia
   ·have:=ok.9;show S.A.units+3+4*n<9000;lia
  refine eU (rO (loc:=loc) (σ:=σ) Fk.12) fun b1 Z0 Z0=>aG Fk.3 fun kk hchk=>?_
  refine aC (hbody kk scope body hchk (by unfold gF;rw [Fk.1]) S' _ h1 tk (mi G Fk ok' Fg' Ng CA ln nd eq O hR el) rfl) (fun Z0 Z0 q=>q.elim) fun e s' q=>?_
  obtain ⟨ea,h',tk',rfl,rfl,q⟩:=q
  rw [b1] at q
  rcases q with ⟨m',q⟩|q|⟨m',q⟩
  ·exact nn (t5 (s:=aQ s h' tk') rfl ok.4 Fg st q.weaken fun h'' z=>K ea h'' tk' z)
  ·exact nn (tS (s:=aQ s h' tk') rfl Fk.4 ok.4 Fg st Bg q.weaken fun h'' z=>K ea h'' tk' z)
  ·exact nn (sj (s:=aQ s h' tk') rfl ok.4 Fg st q.weaken fun h'' z=>K ea h'' tk' z)
def jg (C:Cx) (n:Nat) (f:Nat) (P:List CV->al->Prop):Prop:=
 ∀as σ S hid m ρ s vs R,S.Ok C n->aX C S hid m ρ σ s.heap->dc ρ as vs->P as σ->(∀e h' tk,i8 C S hid m ρ σ e h'->R (.error (.ref e)) (aQ s h' tk))->bg (model C.prog C.w) S.A (.call (.ref (C.fa f)) ⟨vs,[]⟩) R s
theorem jV (h:aN nm gk k sc (.calF f as) e=true):
  ∃k' id p es pos,e=.Call (.Name id p) es [] pos/\dN sc id .globalImplicit=true/\j4 id=true/\qr gk id (.fn f)=true/\bA (aN nm gk k' sc) as es=true:=by
 cases k with
 |zero=>exact absurd h Dq
 |succ k=>exact onCalN_e h fun Z0 Z0 Z0 Z0 h=>⟨k,_,_,_,_,rfl,bL (bL (bL h)),bR (bL (bL h)),bR (bL h),bR h⟩
section
variable {k:Nat} {sc:Ef} {st:Ek}
theorem um (h:iF nm gk k sc (.ret (some e)) st=true):∃k' e' p,st=.Return (some e') p/\aN nm gk k' sc e e'=true:=by
 cases k with
 |zero=>exact absurd h Dq
 |succ k=>exact onRet_e h fun o p h=>onO_e h fun e' h=>⟨k,e',p,rfl,h⟩
theorem Au (h:iF nm gk k sc (.xpr e) st=true):∃k' e' p,st=.Expr e' p/\aN nm gk k' sc e e'=true/\jf e'=true:=by
 cases k with
 |zero=>exact absurd h Dq
 |succ k=>exact onXpr_e h fun e' p h=>⟨k,e',p,rfl,bL h,bR h⟩
theorem uL (h:iF nm gk k sc (.ite fl t a b) st=true):∃k' t' a' b' p,st=.If t' a' b' p/\aN nm gk k' sc t t'=true/\eD nm gk k' sc a a'=true/\eD nm gk k' sc b b'=true:=by
 cases k with
 |zero=>exact absurd h Dq
 |succ k=>exact onIf_e h fun t' a' b' p h=>⟨k,t',a',b',p,rfl,bL (bL h),bR (bL h),bR h⟩
theorem yR (h:iF nm gk k sc (.asgL o a b e) st=true):∃k' v a' b' e' p0 p1 p,st=.Assign [.Subscript v (.Slice (some a') (some b') none p1) p0] e' p/\aN nm gk k' sc o v=true/\aN nm gk k' sc a a'=true/\aN nm gk k' sc b b'=true/\aN nm gk k' sc e e'=true:=by
 cases k with
 |zero=>exact absurd h Dq
 |succ k=>
 have main:∃v a' b' e' p0 p1 p,st=.Assign [.Subscript v (.Slice (some a') (some b') none p1) p0] e' p/\aN nm gk k sc o v=true/\aN nm gk k sc a a'=true/\aN nm gk k sc b b'=true/\aN nm gk k sc e e'=true:=
  onAsg_e h
   fun t e' p h=>onSub_e h
   fun v j p0 h=>onSlc_e h
   fun a1 b1 c1 p1 h=>by
    obtain ⟨a2,ea,ha⟩:∃a2,a1=some a2/\aN nm gk k sc a a2=true:=onO_e (bR (bL (bL (bL h)))) fun a2 h=>⟨a2,rfl,h⟩
    obtain ⟨b2,eb,hb⟩:∃b2,b1=some b2/\aN nm gk k sc b b2=true:=onO_e (bR (bL (bL h))) fun b2 h=>⟨b2,rfl,h⟩
    exact ⟨v,a2,b2,e',p0,p1,p,by rw [ea,eb,(show c1=none from isN_e (bR (bL h)) rfl)],bL (bL (bL (bL h))),ha,hb,bR h⟩
 exact ⟨k,main⟩
theorem f7 (h:eD nm gk k sc (c::l) b=true):∃k' st b',b=st::b'/\iF nm gk k' sc c st=true/\eD nm gk k' sc l b'=true:=⟨k,az h⟩
end
def yJ (L:aP) (τ:al) (fl:Fl) (loc':aP) (σ':al):Prop:=fl=.next/\loc'=L/\σ'=τ
def CI (L:aP) (τ:al) (fl:Fl) (loc':aP) (σ':al):Prop:=fl=.next/\loc'=L/\τ=σ'
def RX (C:Cx) (n:Nat) (S:bT) (hid:List (Du×Obj)) (ρ₀:List Du) (σ₀:al) (s₀:Dm) (loc:aP) (c:CE) (σ:al):Prop:=
 ∀k sc e,aN C.nm C.gk k sc c e=true->∀m mD δ h tk,aZ C n sc S hid m mD (ρ₀++δ) loc σ h->aq (model C.prog C.w) S.A (eval e S.env) (fun Z0 Z0=>False) (lP C S hid ρ₀ σ₀ s₀) (aQ s₀ h tk)
def RS (C:Cx) (n:Nat) (S:bT) (hid:List (Du×Obj)) (ρ₀:List Du) (σ₀:al) (s₀:Dm) (c:CS) (loc:aP) (σ:al):Prop:=
 ∀k sc st,iF C.nm C.gk k sc c st=true->∀δ h tk,FH C n sc S hid (ρ₀++δ) loc σ h->aq (model C.prog C.w) S.A (exec st S.env) (fun Z0 Z0=>False) (lP C S hid ρ₀ σ₀ s₀) (aQ s₀ h tk)
def RB (C:Cx) (n:Nat) (S:bT) (hid:List (Du×Obj)) (ρ₀:List Du) (σ₀:al) (s₀:Dm) (l:List CS) (loc:aP) (σ:al):Prop:=
 ∀k sc b,eD C.nm C.gk k sc l b=true->∀δ h tk,FH C n sc S hid (ρ₀++δ) loc σ h->aq (model C.prog C.w) S.A (execs b S.env) (fun Z0 Z0=>False) (lP C S hid ρ₀ σ₀ s₀) (aQ s₀ h tk)
theorem lP.shift (F:i8 C S hid m (ρ++δ) (σ++τ) ea h'):lP C S hid ρ σ s₁ (.ref ea) {(aQ s₁ h tk) with heap:=h',toks:=tk'}:=
 ⟨ea,h',tk',rfl,rfl,.inl ⟨m,F.weaken⟩⟩
theorem lY (G:iE C) (he:SE C n ih) (hP:jg C n f P) (q:eC ih as loc σ fun vs σ'=>P vs σ'/\∃τ,σ'=σ₀++τ):RX C n S hid ρ₀ σ₀ s₀ loc (.calF f as) σ:=by
 intro k sc e hc m mD δ h tk H
 refine AE (jV hc) fun k id p es pos zz4 d1 d2 d3 d4=>?_
 subst zz4
 refine aD (G.toTabG.fn _ _ (hO _ d3)) fun h1 h2=>?_
 rw [fU] at h1
 refine eu (s:=aQ s₀ h tk) he (.of_K h2) d4 d1 d2 H (H.g h1) q fun cvs σ' ρ' vs h' tk' q hv hn p R=>?_
 obtain ⟨q,τ,rfl⟩:=q
 refine aG p fun δ' zz8=>?_
 clear p
 subst zz8
 refine dy (hP _ _ S hid m _ (aQ s₀ h' tk') _ _ H.1 R hv q fun ea h'' tk'' F=>?_)
 rw [Di] at F
 exact lP.shift F
theorem n8 (he:SE C n ih):∀{l1:List CE} {es:List Expr} {σ:al} {δ:List Du} {h:DI} {tk:Nat},bA (aN C.nm C.gk k sc) (l1++a::l2) es=true->aZ C n sc S hid m mD (ρ₀++δ) loc σ h->
  (eC ih l1 loc σ fun Z0 σ'=>RX C n S hid ρ₀ σ₀ s₀ loc a σ')->aq (model C.prog C.w) S.A (spliced (backTo pos (starEach es S.env))) Qm (lP C S hid ρ₀ σ₀ s₀) (aQ s₀ h tk)
 |[],es,σ,δ,h,tk,hc,H,q=>by
  refine cV (az hc) fun e r zz10 h1 h2=>?_
  subst zz10
  exact gK (aC (q _ _ _ h1 _ _ _ _ _ H) (fun Z0 Z0 z=>z.elim) fun Z0 Z0 z=>z) (cX (eo h1) _ _)
 |c::l1,es,σ,δ,h,tk,hc,H,q=>by
  refine cV (az hc) fun e r zz12 h1 h2=>?_
  subst zz12
  refine gK (he _ _ _ _ h1 _ _ _ _ _ _ _ (aQ s₀ h tk) _ _ _ H q fun cv σ' ρ' v h' tk q' hv p R=>?_) (cX (eo h1) _ _)
  refine aG p fun δ' zz14=>?_
  clear p
  subst zz14
  have H':=H.go ⟨δ',rfl⟩ R
  rw [Di] at H'
  exact n8 he h2 H' q'
theorem zn (G:iE C) (he:SE C n ih) (q:eC ih l1 loc σ fun Z0 σ'=>RX C n S hid ρ₀ σ₀ s₀ loc a σ'):RX C n S hid ρ₀ σ₀ s₀ loc (.calF f (l1++a::l2)) σ:=by
 intro k sc e hc m mD δ h tk H
 refine AE (jV hc) fun k id p es pos zz19 d1 d2 d3 d4=>?_
 subst zz19
 refine aD (G.toTabG.fn _ _ (hO _ d3)) fun h1 h2=>?_
 rw [fU] at h1
 have h1:=h1
 refine jI (nn (Fw (s:=aQ s₀ h tk) H.1.10 (nG (s:=aQ s₀ h tk) H d1 (by simp)) (H.g (s:=aQ s₀ h tk) h1 ?_) (pW d2).1))
 refine kX (P:=fun h=>C.K.In h) (o8 (pos:=pos) (env:=S.env) d4) (fun h X=>mw.of_K h2 _ h X) ?_
 have main:=n8 (Qm:=fun vs s'=>C.K.In s'.heap/\aq (model C.prog C.w) S.A (call (.ref (C.fa f)) ([]++vs)) (fun Z0 Z0=>False) (lP C S hid ρ₀ σ₀ s₀) s') (pos:=pos) (tk:=tk) he d4 H q
 have ne:∃e r,es=e::r:=by
  cases l1 with
  |nil=>obtain ⟨e,r,rfl,_⟩:=az d4;exact ⟨e,r,rfl⟩
  |cons c l1=>obtain ⟨e,r,rfl,_⟩:=az d4;exact ⟨e,r,rfl⟩
 refine ro ne fun e r zz20=>?_
 clear ne
 subst zz20
 have hst:starEach (e::r) S.env=(false,eval e S.env)::starEach r S.env:=by
  cases l1 with
  |nil=>obtain ⟨e',r',e1,h1,_⟩:=az d4;cases e1;exact cX (eo h1) _ _
  |cons c l1=>obtain ⟨e',r',e1,h1,_⟩:=az d4;cases e1;exact cX (eo h1) _ _
 rw [hst] at main ⊢
 exact fy main
theorem s0 (h:RX C n S hid ρ₀ σ₀ s₀ loc e σ):RS C n S hid ρ₀ σ₀ s₀ (.ret (some e)) loc σ:=by
 intro k sc st hc δ hp tk F
 refine jo (um hc) fun k e' p zz26 d=>?_
 subst zz26
 exact aG F.4 fun m H=>mc (h _ _ _ d _ _ _ _ _ H)
theorem As (h:RX C n S hid ρ₀ σ₀ s₀ loc e σ):RS C n S hid ρ₀ σ₀ s₀ (.asgL o a b e) loc σ:=by
 intro k sc st hc δ hp tk F
 obtain ⟨k,v,a',b',e',p0,p1,p,rfl,d1,d2,d3,d4⟩:=yR hc
 refine aG F.4 fun m H=>dv ?_ (show swapsWithSole [.Subscript v (.Slice (some a') (some b') none p1) p0] e' p.line S.env=pure false from ua e' v (.Slice (some a') (some b') none p1) p0 p.line S.env) (sC e' v (.Slice (some a') (some b') none p1) p0 S.env)
 exact aC (h _ _ _ d4 _ _ _ _ _ H) (fun Z0 Z0 z=>z.elim) fun Z0 Z0 z=>z
theorem zw (ht:ST C n ih) (q:ih.t t loc σ fun r σ'=>(r=true->RB C n S hid ρ₀ σ₀ s₀ a loc σ')/\(r=false->RB C n S hid ρ₀ σ₀ s₀ b loc σ')):RS C n S hid ρ₀ σ₀ s₀ (.ite fl t a b) loc σ:=by
 intro k sc st hc δ hp tk F
 refine QJ (uL hc) fun k t' a' b' p zz35 d1 d2 d3=>?_
 subst zz35
 refine Sv (F.t (h:=aQ s₀ hp tk) ht d1 q fun r σ1 ρ1 h1 tk1 q p1 F1=>aG p1 fun δ' zz37=>?_)
 clear p1
 subst zz37
 rw [Di] at F1
 cases r with
 |true=>exact q.1 rfl _ _ _ d2 _ _ _ F1
 |false=>exact q.2 rfl _ _ _ d3 _ _ _ F1
theorem jh (h:RS C n S hid ρ₀ σ₀ s₀ c loc σ):RB C n S hid ρ₀ σ₀ s₀ (c::l) loc σ:=by
 intro k sc b hc δ hp tk F
 refine kZ (f7 hc) fun k st b' zz39 d1 d2=>?_
 subst zz39
 exact bB (aC (h _ _ _ d1 _ _ _ F) (fun Z0 Z0 z=>z.elim) fun Z0 Z0 z=>z)
theorem kB (G:iE C) (ct:fu C sl) (q:cN C.T (aj C.T N) c loc σ fun fl loc' σ'=>fl=.next/\RB C (N+1+sl) S hid ρ₀ σ₀ s₀ l loc' σ'):RB C (N+1+sl) S hid ρ₀ σ₀ s₀ (c::l) loc σ:=by
 intro k sc b hc δ hp tk F
 refine kZ (f7 hc) fun k st b' zz41 d1 d2=>?_
 subst zz41
 refine bB (fS (s:=aQ s₀ hp tk) G.toTabE ct (⟨fun j Z0=>⟨(cU G ct j).1,(cU G ct j).2.1⟩,fun j Z0=>(cU G ct j).2.2.1⟩) d1 F q fun fl loc' σ' ρ' h' tk' q p F'=>?_)
 obtain ⟨rfl,q⟩:=q
 obtain ⟨δ',rfl⟩:=p
 have F2:=F'.up F.ok
 rw [Di] at F2
 exact aC (q _ _ _ d2 _ _ _ F2) (fun Z0 Z0 z=>z.elim) fun Z0 Z0 z=>z
inductive sv (C:Cx) (S:bT) (hid:List (Du×Obj)) (ρ:List Du) (σ:al) (s:Dm) (e:Dk) (s':Dm):Prop
 |mk (ea:Du) (h':DI) (tk:Nat) (e1:e=.ref ea) (e2:s'=(aQ s h' tk)) (M:sB C S hid ρ σ ea h')
theorem tX (hx:kf C.K=true) (hr:v6 sc r=true) (H:aZ C (n+3) sc S (own++hid) m m (ρ₀++δ) loc (σ₀++τ) h) (hl:lk loc 16=some (.val (.int i))) (h16:C.nS 16="at"):
  aq (model C.prog C.w) S.A (execs r S.env) (fun Z0 Z0=>False) (sv C S hid ρ₀ σ₀ s₀) (aQ s₀ h tk):=by
 refine raiB_e hr fun np wd wk wp z zk zp yp tkk tp cpos rp h1 h2=>?_
 ·have k1:=(H.2 _ _ (eE h1)).1 (by simp)
  have k2:=(H.2 _ _ (eE h2)).1 (by simp)
  refine jo (wU (bL (bL (bL (bL (bL (bL (bL hx)))))))) fun od52 fd osl ho Z0=>?_
  obtain ⟨od99,cd,nm,q,N',bs',hdct,sn,sub,ab,col,k0,k1',k2',k3,k5,_,_,_,hC⟩:=qd hx
  have hfind:findIn C.K (.ref 99) "__init__"=some (some (.ref 52)):=gj (bR (bL (bL (bL (bL (bL hx))))))
  refine aX.e (id H.6) fun os F N nd eq O=>?_
  obtain ⟨_,w,hw,hvr⟩:=H.5 16 _ hl (by rw [h16,k2];rfl)
  rw [h16] at hw
  have okU:=H.1
  refine nn (HG (vQ (C:=99) (P:=62) (fI:=52) (nm:=nm) (q:=q) (N:=N') (bs:=bs') (hdct:=hdct) (sn:=sn) (sub:=sub) (ab:=ab) (col:=col) (dd:=od99) (k0:=k0) (k1:=k1') (k2:=k2') (k3:=k3) (k5:=k5) (oI:=⟨.type "function",od52,.func fd,osl⟩) H.1.7 rfl (Fw (s:=aQ s₀ h tk) H.1.10 k1 (H.g (s:=aQ s₀ h tk) (gj (bR (bL hx))) ⟨rfl,?_⟩) (by rfl))))
  have nameAt:∀{tk':Nat} {Q:Dk->Dm->Prop},Q w (aQ s₀ h tk')->wpAny (model C.prog C.w) S.A (eval (.Name "at" yp) S.env) Q (sv C S hid ρ₀ σ₀ s₀) (aQ s₀ h tk'):=fun hq=>
   wpAny_Name (ID (s:=aQ s₀ h _) H.1.10 k2 H.nd hw hq) (by rfl)
  refine Ki (FJ (Jg (k:=wk) (pos:=wp) (FJ ?_)))
  rw [arm_eval_Tuple]
  refine Dj (GM (Dj (FJ (wpAny_Constant_int (k:=zk) (pos:=zp) (FJ (nameAt (IF ?_)))))))
  refine Fy ?_ (by show sizeOk _;size_fits)
  refine IF ?_
  have kp1:∀b o,h.get? b=some o->(h.push ({cls:=.type "tuple",data:=.seq [HQ z (tk+1),w].toArray}:Obj)).get? b=some o:=fun b o e=>Dt _ e
  have X1:C.K.In (h.push ({cls:=.type "tuple",data:=.seq [HQ z (tk+1),w].toArray}:Obj)):=fun b o e=>kp1 _ _ (H.1.2.keeps F.keep _ _ e)
  refine ⟨rfl,by simp [LZ],X1 _ _ hC,looks_findIn X1 hfind,X1 _ _ ho,rfl,fun h' e hm=>?_⟩
  have kp2:∀b o,h.get? b=some o->h'.get? b=some o:=fun b o q=>hm.keeps _ _ (kp1 _ _ q)
  have hen:h.get? e=none:=by
   cases q:h.get? e with
   |none=>rfl
   |some o=>have:=kp1 _ _ q;rw [hm.new] at this;cases this
  refine iH hm.there fun t he Z0 Z0=>?_
  have ok1:=bT.Ok.under (n:=n+2) okU 99 [J3 wd tk,.ref h.objs.size] []
  have hen0:S.h₀.get? e=none:=by
   cases q:S.h₀.get? e with
   |none=>rfl
   |some o=>have:=F.keep _ _ q;rw [hen] at this;cases this
  have heL:e≠S.L:=fun q=>by
   refine jo F.ns fun o Z0 Z0 hoL Z0=>?_
   rw [←q,hen] at hoL;cases hoL
  have hne:∀p∈own++hid++os,p.1≠e:=fun p hp q=>by
   have:=(N p hp).1
   rw [q,hen] at this;cases this
  refine vO (s:=aQ s₀ h' _) (v1:=_) (v2:=_) (a0:=t) ok1.1 (F.keeps kp2) (N.grown kp2) (okU.3.nolimit) ok1.4 ok1.5 ok1.6 (DZ (DY (Ex _ (n+2)) ok1.8) (by decide)) okU.2 (topRead_of okU.3) (hx) hen0 heL hne he fun h'' tk'' od a1 F2 N2 he2=>⟨rfl,F2.keep _ _ (okU.2 _ _ hC),od,_,he2,rfl,e,h'',tk'',rfl,rfl,⟨m,os,δ,τ,od,a1,F2,fun p hp=>?_,?_,eq,O,he2,hen0,heL,fun p hp=>?_⟩⟩
  ·refine N2 p ?_
   rw [Di]
   exact DF _ hp
  ·rw [Di,Dw,D3] at nd
   exact nd.2.1
  ·refine hne p ?_
   rw [Di]
   exact DF _ hp
theorem Bs (h:aq (model prog w) A m Q (notedBy (model prog w) A env E) s):aq (model prog w) A (m.onRaise fun x=>do noteFrame x env;theTreesLotGoes x) Q E s:=
 d8 (aC h (fun Z0 Z0 q=>q) fun Z0 Z0 hx=>nn (Dj (FU hx (fun Z0 Z0 e=>wpAny_theTreesLotGoes e) fun Z0 Z0 e=>e)))
theorem yX (hc:bg (model prog w) A c (fun r s'=>match r with|.ok f=>Q f s'|.error e=>cameBackBy (model prog w) A env E e s') s) (ok:nM c=true):aq (model prog w) A (runOwn c env) Q E s:=by
 exact d8 (aC (me (E:=fun e s'=>cameBackBy (model prog w) A env E e s') (h:=none) hc ok (by intro x;cases x)) (fun Z0 Z0 q=>q) fun Z0 Z0 q=>nn q)
theorem OS
  (h:aq (model prog w) A (eval iter env) (fun x s₁=>aq (model prog w) A (pyIter x) (fun it s₂=>bg (model prog w) A (.forLoop target it body orelse env) (fun r s'=>match r with|.ok f=>Q f s'|.error e=>cameBackBy (model prog w) A env E e s') s₂) E s₁) E s)
  (hs:∀x,foldedSetIterable iter env x=pure x):aq (model prog w) A (exec (.For target iter body orelse pos) env) Q E s:=by
 rw [exec_For]
 refine aa (ak (aB h fun x s₁ h₁=>aa (bW (hs x) (aa (ak (aB (af h₁) fun it s₂ h₂=>yX h₂ rfl))))))
theorem v4 (I:Nat->Dm->Prop)
  (turn:∀n s,I n s->aq (model prog w) A (pyNext it) (fun r s₁=>match r with
   |none=>R (.ok .next) s₁
   |some v=>aq (model prog w) A (letOwnedTupleGo target it v) (fun Z0 s₁'=>aq (model prog w) A (assign target env v) (fun Z0 s₂=>aq (model prog w) A (execs body env) (fun f s₃=>match f with
      |.next|.cont=>∃m,m<n/\I m s₃
      |.brk=>R (.ok .next) s₃
      |.ret v=>R (.ok (.ret v)) s₃) (notedBy (model prog w) A env fun e s'=>R (.error e) s') s₂) (fun Z0 Z0=>False) s₁') (fun Z0 Z0=>False) s₁) (fun Z0 Z0=>False) s)
  (n:Nat) (h:I n s):bg (model prog w) A (.forLoop target it body [] env) R s:=by
 refine iw rfl rfl I (fun n s hI=>?_) n h
 show aq _ A ((forTurn target it body [] env).onRaise (fun x=>do noteFrame x env;theTreesLotGoes x)) _ _ s
 refine Bs ?_
 rw [forTurn]
 refine aa (ak (aB (ie (turn n s hI)) fun r s₁ h₁=>?_))
 cases r with
 |none=>exact ad (.inr ⟨rfl,rfl,xl (fZ h₁)⟩)
 |some v=>
  refine aa (aC h₁ (fun Z0 s₁' h₁'=>?_) fun Z0 Z0 z=>z.elim)
  refine aa (aC h₁' (fun Z0 s₂ h₂=>?_) fun Z0 Z0 z=>z.elim)
  refine aB h₂ fun f s₃ h₃=>?_
  cases f with
  |next=>exact ad (.inl ⟨rfl,h₃⟩)
  |cont=>exact ad (.inl ⟨rfl,h₃⟩)
  |brk=>exact ad h₃
  |ret v=>exact ad h₃
def bS (c:Int):Bool:=!(dk 48 c&&dk c 57)
def m7:List CS:=[.ite true (.nt (.cmp true (.glb 113) [(.le,.loc 112),(.le,.bin true .add (.glb 113) (.cst (.int 9)))])) [.bad] [],.asg 68 (.bin true .sub (.bin true .add (.bin true .mul (.cst (.int 10)) (.loc 68)) (.loc 112)) (.glb 113))]
theorem qU (h:b=false) (hq:q):br true b p q:=show (_->_)/\(_->_) from ⟨fun e=>absurd (h.symm.trans e) (by decide),fun Z0=>hq⟩
theorem zB:(aj T (N+1)).t (.nt t) loc σ Q=(aj T N).t t loc σ fun r σ=>Q (!r) σ:=rfl
theorem vk:(aj T (N+1)).t (.cmp s a l) loc σ Q=(aj T N).e a loc σ fun a σ=>i9 T (aj T N) s a l loc σ Q:=rfl
theorem pR (h:T.gv x=some v):(aj T (N+1)).e (.glb x) loc σ Q=Q v σ:=by
 show (match T.gv x with|some v=>Q v σ|none=>False)=_
 rw [h]
theorem cW (h:lk loc x=some (.val v)):(aj T (N+1)).e (.loc x) loc σ Q=Q v σ:=by
 show hK (wO loc σ x) (fun v=>Q v σ)=_
 unfold wO
 rw [h]
 rfl
theorem jP:(aj T (N+1)).e (.cst v) loc σ Q=Q v σ:=rfl
theorem jH:(aj T (N+1)).e (.bin s o a b) loc σ Q=(aj T N).e a loc σ fun a σ=>(aj T N).e b loc σ fun b σ=>dJ s T σ o a b Q:=rfl
theorem xq (hg:T.gv 113=some (.int 48)) (hc:lk loc 112=some (.val (.int c))) (h:Q (bS c) σ):(aj T (N+4)).t (.nt (.cmp true (.glb 113) [(.le,(.loc 112)),(.le,(.bin true .add (.glb 113) (.cst (.int 9))))])) loc σ Q:=by
 rw [zB,vk,pR hg]
 rw [vC]
 rw [cW hc]
 refine ⟨fun e=>?_,fun e=>?_⟩
 ·simp only [A9,vC]
  rw [jH,pR hg,jP]
  unfold bS at h
  rw [e] at h
  exact h
 ·unfold bS at h
  rw [e] at h
  exact h
theorem zl:(aj T (N+1)).b (c::l) loc σ Q=cN T (aj T N) c loc σ fun fl loc σ=>match fl with
  |.next=>lD T (aj T N) l loc σ Q
  |.ret v=>Q (.ret v) loc σ:=rfl
theorem yt (hg:T.gv 113=some (.int 48)) (hc:lk loc 112=some (.val (.int c))) (hm:lk loc 68=some (.val (.int m))) (hb:bS c=false) (h:Q .next (cu loc 68 (.val (.int (10*m+c-48)))) σ):(aj T (N+6)).b m7 loc σ Q:=by
 rw [zl]
 refine xq (N:=N+1) hg hc (qU hb ?_)
 show lD T (aj T (N+5)) [.asg 68 (.bin true .sub (.bin true .add (.bin true .mul (.cst (.int 10)) (.loc 68)) (.loc 112)) (.glb 113))] loc σ Q
 unfold lD cN
 dsimp only
 rw [jH,jH,jH,jP,cW hm]
 refine ⟨rfl,?_⟩
 dsimp only
 rw [cW hc]
 show (aj T (N+4)).e (.glb 113) loc σ (fun b σ=>dJ true T σ .sub (.int (10*m+c)) b fun v σ=>lp loc σ 68 v fun loc σ=>lD T (aj T (N+5)) [] loc σ Q)
 rw [pR hg]
 unfold lp
 rw [hm]
 exact h
theorem zE {nm:Nat->List Nat} {gk:List Nat->Option GK} {k:Nat} {sc:Ef} {st:Ek} {tg:List Nat} {i:CE} {b:List CS} (h:iF nm gk k sc (.fore tg i b) st=true):
  ∃k' tgE id p0 i' p1 b' p,st=.For tgE (.Call (.Name id p0) [i'] [] p1) b' [] p/\iR nm sc tg true tgE=true/\dC [101,110,117,109,101,114,97,116,101] id=true/\dN sc id .globalImplicit=true/\aN nm gk k' sc i i'=true/\eD nm gk k' sc b b'=true:=by
 cases k with
 |zero=>exact absurd h Dq
 |succ k=>
  exact onFor_e h
   fun t it b' p h=>onCalN_e h
   fun id p0 l p1 h=>on1_e h
   fun i' h=>⟨k,t,id,p0,i',p1,b',p,rfl,bL (bL (bL (bL (bL h)))),bR (bL (bL (bL h))),bR (bL (bL h)),bR (bL h),bR h⟩
set_option tactic.hygienic true in
theorem bl (h:∀k,lk loc x≠some (.cell k)) (q:Q (cu loc x (.val v)) σ):lp loc σ x v Q:=by
 unfold lp
 split
 ·rename_i k e;exact absurd e (h k)
 ·exact q
 ·exact q
inductive UF (C:Cx) (n:Nat) (sc:Ef) (S:bT) (hid:List (Du×Obj)) (ρ:List Du) (σ:al) (I:Du) (s₀:Dm) (j:Nat) (s':Dm):Prop where
 |mk (l:List Int) (i:Nat) (m:Int) (own:List (Du×Obj)) (loc:aP) (h:DI) (tk:Nat) (hj:l.length=j) (e:s'=(aQ s₀ h tk)) (hbad:l.any bS=true) (IR:ee C ρ (.enm (l.map .int) i) I own) (hm:lk loc 68=some (.val (.int m)))
  (n1:∀k,lk loc 16≠some (.cell k)) (n2:∀k,lk loc 112≠some (.cell k)) (F:FH C n sc S (own++hid) ρ loc σ h)
def VK (σ:al) (i c m:Int) (loc':aP) (σ':al):Prop:=σ'=σ/\lk loc' 16=some (.val (.int i))/\lk loc' 112=some (.val (.int c))/\lk loc' 68=some (.val (.int m))
theorem Ni (G:iE C) (ct:fu C sl) (hg:C.T.gv 113=some (.int 48)) (h16:C.nS 16="at") (hx:kf C.K=true) {k:Nat} {b':List Ek} {tgE:Expr} {I:Du} (hb':∃t r o p rest,b'=.If t r o p::rest/\v6 sc r=true)
  (c1:iR C.nm sc [16,112] true tgE=true) (c2:eD C.nm C.gk k sc m7 b'=true) {l:List Int} (hbad:l.any bS=true) {R:Lj->Dm->Prop}
  (IR:ee C (ρ₀++δ) (.enm (l.map .int) i) I own) (hm:lk loc 68=some (.val (.int m))) (n1:∀k,lk loc 16≠some (.cell k)) (n2:∀k,lk loc 112≠some (.cell k)) (F:FH C (N+8+sl) sc S (own++hid) (ρ₀++δ) loc (σ₀++τ) h)
  (K:∀e s',cameBackBy (model C.prog C.w) S.A S.env (lP C S hid ρ₀ σ₀ s₀) e s'->R (.error e) s'):bg (model C.prog C.w) S.A (.forLoop tgE (.ref I) b' [] S.env) R (aQ s₀ h tk):=by
 refine v4 (UF C (N+8+sl) sc S hid (ρ₀++δ) (σ₀++τ) I s₀) ?_ l.length ⟨l,i,m,own,loc,h,tk,rfl,rfl,hbad,IR,hm,n1,n2,F⟩
 rintro j s' ⟨l,i,m,own,loc,h,tk,hj,rfl,hbad,IR,hm,n1,n2,F⟩
 cases l with
 |nil=>cases hbad
 |cons c l=>
  refine aG F.4 fun mm H=>jo (oA c1) fun es k2 p2 zz1 htg=>?_
  subst zz1
  refine nn (oq (s:=aQ s₀ h tk) (H.1.7) IR H.6 (ca:=.int (i:Int)) (cb:=.int c) (it':=.enm (l.map .int) (i+1)) rfl fun T h1 tk1 go=>nn (go es k2 p2 _ _ fun va vb own' h2 hva hvb IR' R2 hT=>?_))
  refine nn (jW (s:=aQ s₀ h2 tk1) (FH.point G.toTabC (N+8+sl) S sc (own'++hid)) htg (F.hids H R2) (cvs:=[.int (i:Int),.int c]) (vs:=[va,vb]) ⟨_,hT,rfl,0,rfl⟩ ⟨hva,hvb,trivial⟩
   (Q:=VK (σ₀++τ) i c m) ?_ fun loc2 σ2 h3 tk3 q F3=>?_)
  ·refine bl n1 ?_
   refine bl (fun k=>by rw [ah,if_neg (by decide)];exact n2 k) ?_
   refine ⟨rfl,?_,?_,?_⟩
   ·rw [ah,if_neg (by decide),ah,if_pos rfl]
   ·rw [ah,if_pos rfl]
   ·rw [ah,if_neg (by decide),ah,if_neg (by decide)];exact hm
  ·refine iG q fun zz4 q1 q2 q3=>?_
   clear q
   subst zz4
   cases hc:bS c with
   |false=>
    refine aC (((cU G ct (N+8)).2.2.1) _ _ _ _ c2 _ _ _ _ _ (aQ s₀ h3 tk3) (fun fl loc' σ'=>fl=.next/\σ'=σ₀++τ/\loc'=cu loc2 68 (.val (.int (10*m+c-48)))) _ (fun Z0 Z0=>False) F3 (yt (N:=N+2) hg q2 q3 hc ⟨rfl,rfl,rfl⟩) ?_) (fun Z0 Z0 z=>z) fun Z0 Z0 z=>z.elim
    rintro fl loc' σ' ρ' h4 tk4 ⟨rfl,rfl,rfl⟩ p F4
    refine ⟨l.length,by rw [←hj];exact En _,l,i+1,10*m+c-48,own',cu loc2 68 (.val (.int (10*m+c-48))),h4,tk4,rfl,rfl,?_,?_,by rw [ah,if_pos rfl],?_,?_,?_⟩
    ·rw [EI,hc] at hbad;exact hbad
    ·exact IR'
    ·intro k;rw [ah,if_neg (by decide),q1];simp
    ·intro k;rw [ah,if_neg (by decide),q2];simp
    ·have e:ρ'=ρ₀++δ:=by
      exact aG F4.4 fun Z0 H4=>aG F3.4 fun Z0 H3=>(FI p (H3.6.len.trans H4.6.len.symm)).symm
     subst e
     exact F4.up F.ok
   |true=>
    refine SK hb' fun t r o p rest zz5 hr=>?_
    clear hb'
    subst zz5
    refine kZ (f7 (show eD C.nm C.gk k sc (_::_) _=true from c2)) fun k3 st b2 e1 d1 d2=>QJ (uL d1) fun k4 t' a' o' p' e2 d3 d4 d5=>?_
    cases e1
    cases e2
    refine bB (aC (Q:=fun Z0 Z0=>False) (E:=sv C S hid ρ₀ σ₀ s₀) ?_ (fun Z0 Z0 z=>z.elim) fun e s' z=>?_)
    ·refine Sv (F3.t (h:=aQ s₀ h3 tk3) ((cU G ct (N+8)).2.1) d3 (Q:=fun r σ'=>r=true/\σ'=σ₀++τ) (xq (N:=N+4) hg q2 ⟨hc,rfl⟩) fun r1 σ1 ρ1 h4 tk4 q p1 F4=>aD q fun zz8 zz9=>?_)
     clear q
     subst zz8 zz9
     have e:ρ1=ρ₀++δ:=by
      exact aG F4.4 fun Z0 H4=>aG F3.4 fun Z0 H3=>(FI p1 (H3.6.len.trans H4.6.len.symm)).symm
     subst e
     exact aG F4.4 fun m4 H4=>tX hx hr (H4.le (k:=N+5+sl+3) (by lia)) q1 h16
    ·obtain ⟨ea,h',tk',rfl,rfl,z⟩:=z
     have ok:=F.ok
     have fe:=F.1
     rw [fe]
     exact wI (s:=aQ s₀ h' tk') ok z fun h'' m5 HH=>K _ _ (v9 (s:=aQ s₀ h'' tk') ok fe HH fun h6 HH'=>⟨ea,h6,tk',rfl,rfl,.inr (.inr ⟨m5,HH'⟩)⟩)
inductive U4 (C:Cx) (sc:Ef) (body:List Ek):Prop where
 |mk (st0 stF:Ek) (r2:List Ek) (k1 k3:Nat) (tgE i':Expr) (id:Str) (p0 p1:Pos) (b':List Ek) (fp:Pos) (e:body=st0::stF::r2) (d1:iF C.nm C.gk k1 sc (.asg 68 (.cst (.int 0))) st0=true) (eF:stF=.For tgE (.Call (.Name id p0) [i'] [] p1) b' [] fp)
  (hb':∃t r o p rest,b'=.If t r o p::rest/\v6 sc r=true) (c1:iR C.nm sc [16,112] true tgE=true) (c2:dC [101,110,117,109,101,114,97,116,101] id=true) (c3:dN sc id .globalImplicit=true) (c4:aN C.nm C.gk k3 sc (.loc 84) i'=true) (c5:eD C.nm C.gk k3 sc m7 b'=true)
theorem MF (hb:kM C.K a=true) (hbody:gF C.K a=some (body,sc)) (hc:eD C.nm C.gk kk sc QR body=true):U4 C sc body:=by
 obtain ⟨st0,tgE,iD,t,r,o,p,rest,fp,st2,rfl,hb⟩:=Dg hb hbody
 have hc:(iF C.nm C.gk kk sc (.asg 68 (.cst (.int 0))) _&&(iF C.nm C.gk kk sc (.fore [16,112] (.loc 84) m7) _&&_))=true:=hc
 obtain ⟨k3,tgE',id,p0,i',p1,b',p',e1,c1,c2,c3,c4,c5⟩:=zE (bL (bR hc))
 cases e1
 exact ⟨_,_,_,_,_,_,_,_,_,_,_,_,rfl,bL hc,rfl,⟨_,_,_,_,_,rfl,hb⟩,c1,c2,c3,c4,c5⟩
theorem Vi (G:iE C) (ct:fu C sl) (hfn:C.T.fn 68=some ⟨[84],[],[],QR⟩) (hg:C.T.gv 113=some (.int 48)) (h16:C.nS 16="at") (hx:kf C.K=true) (hb:kM C.K (C.fa 68)=true):
  jg C (N+11+sl) 68 fun as Z0=>∃l,as=[.bytes l]/\l.any bS=true:=by
 rintro as σ S hid m ρ s vs R ok Re hv ⟨l,rfl,hl⟩ K
 refine fT (n:=N+10+sl) (loc:=[(84,.val (.bytes l))]) G hfn rfl (ok.le (by lia)) Re hv (fun kk scope body hc hbody S' δ h1 tk F hS=>?_) K
 obtain ⟨st0,stF,r2,k1,k3,tgE,i',id,p0,p1,b',fp,rfl,d1,eF,hb',c1,c2,c3,c4,c5⟩:=MF hb hbody hc
 have F:FH C (N+10+sl) _ S' hid (ρ++δ) [(84,.val (.bytes l))] σ h1:=F
 refine bB (fS (s:=aQ s h1 tk) (N:=N+9) (Q:=yJ [(84,.val (.bytes l)),(68,.val (.int 0))] σ) G.toTabE ct (⟨fun j Z0=>⟨(cU G ct j).1,(cU G ct j).2.1⟩,fun j Z0=>(cU G ct j).2.2.1⟩) d1 F ⟨rfl,rfl,rfl⟩ fun fl loc' σ' ρ' h' tk' q pp F'=>eU q fun zz4 zz5 zz6=>?_)
 clear q
 subst zz4 zz5 zz6
 have F2:=F'.up F.ok
 have e:ρ'=ρ++δ:=by
  exact aG F'.4 fun Z0 H4=>aG F.4 fun Z0 H3=>(FI pp (H3.6.len.trans H4.6.len.symm)).symm
 subst e
 rw [eF]
 refine bB (aC (Q:=fun Z0 Z0=>False) (E:=lP C S' hid (ρ++δ) σ' s) ?_ (fun Z0 Z0 z=>z.elim) fun Z0 Z0 z=>z)
 refine OS ?_ (fN rfl _)
 refine nC (s:=aQ s h' tk') G.toTabE ((cU G ct (N+9)).1) c2 c3 c4 (P:=fun x σ=>x=l/\σ=σ') (F2.le (j:=N+9+sl) (by lia)) ?_ fun x σ1 ρ1 I own h2 tk2 q pp IR F3=>?_
 ·rw [cW (N:=N+8) (v:=.bytes l) rfl]
  exact ⟨rfl,rfl⟩
 ·refine aD q fun zz7 zz8=>?_
  clear q
  subst zz7 zz8
  have e:ρ1=ρ++δ:=by
   exact aG F3.4 fun Z0 H4=>aG F2.4 fun Z0 H3=>(FI pp (H3.6.len.trans H4.6.len.symm)).symm
  subst e
  refine Ni (N:=N) (loc:=[(84,.val (.bytes x)),(68,.val (.int 0))]) (ρ₀:=ρ++δ) (δ:=[]) (σ₀:=σ1) (τ:=[]) (s₀:=s) G ct hg h16 hx hb' c1 c5 hl (m:=0) (by rw [DG];exact IR) rfl (fun k z=>by cases z) (fun k z=>by cases z) (by rw [DG,DG];exact F3.le (by lia)) fun Z0 Z0 z=>z
noncomputable abbrev iU:List Nat:=[110,117,109,101,114,105,99]
noncomputable abbrev jp:List Nat:=[101,100,105,116,101,100]
noncomputable abbrev jn:List Nat:=[97,108,112,104,97,110,117,109,101,114,105,99]
noncomputable abbrev Qq:List Nat:=[97,108,112,104,97,98,101,116,105,99]
noncomputable abbrev z7:List Nat:=[97,108,110,117,109,45,101,100,105,116,101,100]
noncomputable abbrev Ox:List Nat:=[103,114,111,117,112]
noncomputable abbrev vP:List Nat:=[100,105,115,112,108,97,121]
noncomputable abbrev xz:List Nat:=[116,114,97,105,108,105,110,103]
def jq (n:Nat):List (Nat×CV):=[(11,.str jn),(5,.int n),(63,.none),(85,.str vP),(14,.str xz),(86,.bool false),(87,.bool false),(79,.bool false),(12,.int 0),(2,.int 0),(13,.bool false)]
@[elab_as_elim] theorem ar1_c {G:List CV->Prop} {as:List CV} {f:CV->Prop} (q:nZ as f) (k:∀a,f a->G [a]):G as:=match as,q with
 |[Z1],q=>k _ q
@[elab_as_elim] theorem ar2_c {G:List CV->Prop} {as:List CV} {f:CV->CV->Prop} (q:zV as f) (k:∀a b,f a b->G [a,b]):G as:=match as,q with
 |a::Z1,q=>ar1_c (G:=fun l=>G (a::l)) q fun b=>k a b
def TJ (as:List CV) (f:CV->CV->CV->Prop):Prop:=match as with
 |[]=>False
 |a::l=>zV l (f a)
@[elab_as_elim] theorem ar3_c {G:List CV->Prop} {as:List CV} {f:CV->CV->CV->Prop} (q:TJ as f) (k:∀a b c,f a b c->G [a,b,c]):G as:=match as,q with
 |a::Z1,q=>ar2_c (G:=fun l=>G (a::l)) q fun b c=>k a b c
@[elab_as_elim] theorem asB_c {G:CV->Prop} {a:CV} {f:List Int->Prop} (q:vZ a f) (k:∀x,f x->G (.bytes x)):G a:=by
 cases a<;>first|exact k _ q|exact q.elim
@[elab_as_elim] theorem asS_c {G:CV->Prop} {a:CV} {f:List Nat->Prop} (q:qA a f) (k:∀x,f x->G (.str x)):G a:=by
 cases a<;>first|exact k _ q|exact q.elim
@[elab_as_elim] theorem asI_c {G:CV->Prop} {a:CV} {f:Int->Prop} (q:gG a f) (k:∀x,f x->G (.int x)):G a:=by
 cases a<;>first|exact k _ q|exact q.elim
@[elab_as_elim] theorem tab_e {α:Type} {G:Nat->α->Prop} {n f:Nat} {a P:α} {r:Option α} (e:cond (Dy f n) (some a) r=some P) (h1:G n a) (h2:r=some P->G f P):G f P:=by
 cases h:Dy f n with
 |false=>rw [h] at e;exact h2 e
 |true=>rw [h] at e;cases e;cases Dz h;exact h1
def SH (as:List CV) (σ:al) (Q:bu):Prop:=nZ as fun a=>vZ a fun l=>cond (Dn l.length 100) (Q (.obj σ.length) (σ++[.inst 4 (σ.length+1),.attrs (jq l.length)])) False
def ky (g:List Nat):Bool:=aF g iU||aF g jp||aF g jn||aF g Qq||aF g z7||aF g Ox
def Sg (as:List CV) (σ:al) (Q:bu):Prop:=zV as fun a g=>qA a fun a=>qA g fun g=>cond (aF a jn&&ky g) (Q (.bool true) σ) False
structure RT (T:Tab):Prop where
 g113:T.gv 113=some (.int 48)
 g108:T.gv 108=some (.top 720)
 t720:T.tv 720=some (.tup [.str iU,.str jp])
 a11:io T 4 11=true
 a5:io T 4 5=true
 c56:T.ct 56=some SH
 c65:T.ct 65=some Sg
 f68:T.fn 68=some ⟨[84],[],[],QR⟩
 f69:T.fn 69=some ⟨[88,84],[],[],TR⟩
 f73:T.fn 73=some ⟨[110,84,109],[],[],SZ⟩
 f77:T.fn 77=some ⟨[84,88],[],[],QI⟩
 f78:T.fn 78=some ⟨[75,84],[],[],SJ⟩
theorem mE (h1:lk loc y=some (.val v)) (h2:aM σ v=some (c,d,at_)) (h3:lk at_ x=some w) (h4:io T c x=true):(aj T (N+2)).e (.att (.loc y) x) loc σ Q=Q w σ:=by
 show (aj T (N+1)).e (.loc y) loc σ (fun o σ=>r5 σ o fun c0 d0 l0=>hK (lk l0 x) fun v=>cond (io T c0 x) (Q v σ) False)=_
 rw [cW h1]
 unfold r5
 rw [h2]
 show hK (lk at_ x) _=_
 rw [h3]
 show cond (io T c x) _ _=_
 rw [h4]
 rfl
theorem Ol {s:Bool} {o:pk} {a b:CE} {Q:Bool->al->Prop}:(aj T (N+1)).t (.cmp s a [(o,b)]) loc σ Q=(aj T N).e a loc σ fun a σ=>(aj T N).e b loc σ fun b σ=>dn s T σ o a b fun r=>Q r σ:=rfl
theorem Rd {f:Nat} {as:List CE} {Q:Bool->al->Prop}:(aj T (N+1)).t (.calF f as) loc σ Q=(aj T N).e (.calF f as) loc σ fun v σ=>match v with
  |.bool r=>Q r σ
  |_=>False:=rfl
theorem QF:(aj T (N+1)).e (.calF f as) loc σ Q=eC (aj T N) as loc σ fun vs σ=>dD T (aj T N) f vs σ Q:=rfl
theorem bF {ih:Ih} {c:CE} {l:List CE} {Q:List CV->al->Prop}:eC ih (c::l) loc σ Q=ih.e c loc σ fun v σ=>eC ih l loc σ fun vs σ=>Q (v::vs) σ:=rfl
theorem dB {ih:Ih} {Q:List CV->al->Prop}:eC ih [] loc σ Q=Q [] σ:=rfl
theorem Oq {a b:CE} {Q:Bool->al->Prop}:(aj T (N+1)).t (.bop false false [a,b]) loc σ Q=(aj T N).t a loc σ fun r σ=>br false r (Q true σ) ((aj T N).t b loc σ fun r σ=>br false r (Q true σ) (Q false σ)):=rfl
theorem qG (h:T.ct f=some P):dD T ih f as σ Q=P as σ Q:=by unfold dD;rw [h]
theorem M1:(aj T (N+1)).e (.calB s b as) loc σ Q=eC (aj T N) as loc σ fun vs σ=>cQ s T σ b vs Q:=rfl
theorem wc:cQ true T σ .len [.bytes x] Q=(Dn x.length 100000=true/\Q (.int x.length) σ):=rfl
theorem AH:dn s T σ .gt (.int a) (.int b) X=X (eB b a):=rfl
theorem l6 {s:Bool} {x y c d:Nat} {v:CV} {w z:List Nat} {at_:List (Nat×CV)} (h1:lk loc y=some (.val v)) (h2:aM σ v=some (c,d,at_)) (h3:lk at_ x=some (.str w)) (h4:io T c x=true) {Q:Bool->al->Prop}:(aj T (N+3)).t (.cmp s (.att (.loc y) x) [(.eq,.cst (.str z))]) loc σ Q=Q (aF w z) σ:=by
 rw [vk,mE h1 h2 h3 h4]
 rfl
theorem pz {s:Bool} {t:CE} {a:List CS} {Q:Fl->aP->al->Prop} (ht:∀X:Bool->al->Prop,X false σ->(aj T (N+1)).t t loc σ X) (q:Q .next loc σ):cN T (aj T (N+1)) (.ite s t a []) loc σ Q:=by
 refine ht _ ?_
 cases s with
 |false=>exact q
 |true=>exact qU rfl q
theorem pZ (H:RB C n S hid ρ₀ σ₀ s₀ l loc σ) (hc:eD C.nm C.gk k sc l b=true) (F:FH C n sc S hid ρ₀ loc σ h):aq (model C.prog C.w) S.A (execs b S.env) (fun Z0 Z0=>False) (lP C S hid ρ₀ σ₀ s₀) (aQ s₀ h tk):=
 H k sc b hc [] h tk (by rw [DG];exact F)
inductive RR (as:List CV) (σ:al):Prop
 |mk (i:Nat) (d:Nat) (at_:List (Nat×CV)) (l:List Int) (q0:as=[.obj i,.bytes l]) (q1:aM σ (.obj i)=some (4,d,at_)) (q2:lk at_ 11=some (.str jn)) (q3:l.any bS=true)
theorem VH (G:iE C) (ct:fu C sl) (t:RT C.T) (h16:C.nS 16="at") (hx:kf C.K=true) (hb:kM C.K (C.fa 68)=true):jg C (N+12+sl) 69 RR:=by
 rintro as σ S hid m ρ s vs R ok Re hv ⟨i,d,at_,l,rfl,h1,h2,hl⟩ K
 refine fT (n:=N+11+sl) (loc:=[(88,.val (.obj i)),(84,.val (.bytes l))]) G t.f69 rfl (ok.le (by lia)) Re hv (fun kk sc body hc Z0 S' δ h' tk F Z0=>pZ ?_ hc F) K
 refine kB G ct (pz (fun X hX=>?_) ⟨rfl,?_⟩)
 ·rw [l6 (N:=N+7) rfl h1 h2 t.a11];exact hX
 refine kB G ct (pz (fun X hX=>?_) ⟨rfl,?_⟩)
 ·rw [l6 (N:=N+7) rfl h1 h2 t.a11];exact hX
 have he:=(cU G ct (N+11)).1
 refine jh (s0 (zn (l1:=[]) (l2:=[]) G he ?_))
 rw [dB]
 refine lY G he (Vi G ct t.f68 t.g113 h16 hx hb) ?_
 rw [bF,cW (N:=N+10) (v:=.bytes l) rfl,dB]
 exact ⟨⟨l,rfl,hl⟩,[],by simp⟩
inductive SM (as:List CV) (σ:al):Prop
 |mk (i:Nat) (d:Nat) (at_:List (Nat×CV)) (j:Nat) (e:Nat) (bt:List (Nat×CV)) (g:List Nat) (l:List Int) (q0:as=[.obj i,.bytes l,.obj j]) (q1:aM σ (.obj i)=some (4,d,at_)) (q2:lk at_ 11=some (.str jn)) (q3:aM σ (.obj j)=some (4,e,bt)) (q4:lk bt 11=some (.str g)) (q5:(g=iU\/g=jp)) (q6:l.any bS=true)
theorem VU (G:iE C) (ct:fu C sl) (t:RT C.T) (h16:C.nS 16="at") (hx:kf C.K=true) (hb:kM C.K (C.fa 68)=true):jg C (N+13+sl) 73 SM:=by
 rintro as σ S hid m ρ s vs R ok Re hv ⟨i,d,at_,j,e,bt,g,l,rfl,h1,h2,h3,h4,hg,hl⟩ K
 refine fT (n:=N+12+sl) (loc:=[(110,.val (.obj i)),(84,.val (.bytes l)),(109,.val (.obj j))]) G t.f73 rfl (ok.le (by lia)) Re hv (fun kk sc body hc Z0 S' δ h' tk F Z0=>pZ ?_ hc F) K
 show RB C (N+11+1+sl) S' hid (ρ++δ) σ s SZ [(110,.val (.obj i)),(84,.val (.bytes l)),(109,.val (.obj j))] σ
 have hcat:ky g=true:=by rcases hg with rfl|rfl<;>decide
 refine kB G ct (pz (fun X hX=>?_) ⟨rfl,?_⟩)
 ·rw [zB,Rd,QF,bF,mE (N:=N+6) rfl h1 h2 t.a11,bF,mE (N:=N+6) rfl h3 h4 t.a11,dB,qG t.c65]
  show cond (aF jn jn&&ky g) _ False
  rw [hcat]
  exact hX
 refine kB G ct (pz (fun X hX=>?_) ⟨rfl,?_⟩)
 ·rw [Oq,l6 (N:=N+7) rfl h1 h2 t.a11]
  show (aj C.T (N+10)).t (.cmp false (.att (.loc 109) 11) [(.eq,.cst (.str Ox))]) _ σ _
  rw [l6 (N:=N+7) rfl h3 h4 t.a11]
  rcases hg with rfl|rfl<;>exact hX
 have he:=(cU G ct (N+12)).1
 have ht:=(cU G ct (N+12)).2.1
 refine jh (zw ht ?_)
 rw [Ol,mE (N:=N+9) rfl h3 h4 t.a11,pR (N:=N+10) t.g108]
 have hm:∀X:Bool->Prop,X true->dn false C.T σ .isin (.str g) (.top 720) X:=fun X hX=>by
  rcases hg with rfl|rfl
  ·show l7 C.T σ (.top 720) _ _
   unfold l7
   rw [show qD C.T σ (.top 720)=some (.tup [.str iU,.str jp]) from t.t720]
   exact hX
  ·show l7 C.T σ (.top 720) _ _
   unfold l7
   rw [show qD C.T σ (.top 720)=some (.tup [.str iU,.str jp]) from t.t720]
   exact hX
 refine hm _ ⟨fun Z0=>?_,fun e=>by cases e⟩
 refine jh (s0 (zn (l1:=[.loc 109]) (l2:=[]) G he ?_))
 rw [bF,cW (N:=N+11) (v:=.obj j) rfl,dB]
 refine lY G he (VH G ct t h16 hx hb) ?_
 rw [bF,cW (N:=N+11) (v:=.obj i) rfl,bF,cW (N:=N+11) (v:=.bytes l) rfl,dB]
 exact ⟨⟨i,d,at_,l,rfl,h1,h2,hl⟩,[],by simp⟩
theorem pI (h1:am σ i=some (.inst c d)) (h2:am σ d=some (.attrs l)):aM σ (.obj i)=some (c,d,l):=by
 delta aM
 dsimp only
 rw [h1]
 dsimp only
 rw [h2]
theorem rX (h:am σ k=some (.tup l)):da σ (.obj k)=some l:=by
 delta da
 dsimp only
 rw [h]
theorem bv (h:aM σ v=some x):aM (σ++τ) v=some x:=by
 have key:∀{i:Nat} {co:CO},am σ i=some co->am (σ++τ) i=some co:=fun {i co} e=>by
  rw [aO] at e ⊢
  rw [Eo (Ei.mp e).1]
  exact e
 refine iH (w5 h) fun i e h1 h2=>?_
 subst e
 exact pI (key h1) (key h2)
inductive Ro (as:List CV) (σ:al):Prop
 |mk (j:Nat) (e:Nat) (bt:List (Nat×CV)) (g:List Nat) (l:List Int) (q0:as=[.bytes l,.obj j]) (q1:aM σ (.obj j)=some (4,e,bt)) (q2:lk bt 11=some (.str g)) (q3:(g=iU\/g=jp)) (q4:l.any bS=true) (q5:Dn l.length 100=true)
theorem U6 (G:iE C) (ct:fu C sl) (t:RT C.T) (h16:C.nS 16="at") (hx:kf C.K=true) (hb:kM C.K (C.fa 68)=true):jg C (N+14+sl) 77 Ro:=by
 rintro as σ S hid m ρ s vs R ok Re hv ⟨j,e,bt,g,l,rfl,h3,h4,hg,hl,hlen⟩ K
 refine fT (n:=N+13+sl) (loc:=[(84,.val (.bytes l)),(88,.val (.obj j))]) G t.f77 rfl (ok.le (by lia)) Re hv (fun kk sc body hc Z0 S' δ h' tk F Z0=>pZ ?_ hc F) K
 show RB C (N+12+1+sl) S' hid (ρ++δ) σ s QI [(84,.val (.bytes l)),(88,.val (.obj j))] σ
 have he:=(cU G ct (N+13)).1
 have ht:=(cU G ct (N+13)).2.1
 have hpos:eB 0 (l.length:Int)=true:=by
  cases l with
  |nil=>cases hl
  |cons a l=>rw [gO,decide_eq_true_iff,DC];lia
 have h100:=D5 hlen
 refine jh (zw ht ?_)
 rw [Ol,M1,bF,cW (N:=N+10) (v:=.bytes l) rfl,dB,wc]
 refine ⟨Dh (Dr h100 (by decide)),?_⟩
 rw [jP,AH]
 refine ⟨fun Z0=>?_,fun e=>by rw [hpos] at e;cases e⟩
 refine jh (s0 (lY G he (VU G ct t h16 hx hb) ?_))
 rw [bF,QF,bF,cW (N:=N+11) (v:=.bytes l) rfl,dB,qG t.c56]
 show cond (Dn l.length 100) _ False
 rw [hlen,cond_true]
 dsimp only
 rw [bF,cW (N:=N+12) (v:=.bytes l) rfl,bF,cW (N:=N+12) (v:=.obj j) rfl,dB]
 refine ⟨⟨σ.length,σ.length+1,jq l.length,j,e,bt,g,l,rfl,?_,rfl,bv h3,h4,hg,hl⟩,_,rfl⟩
 have e1:am (σ++[.inst 4 (σ.length+1),.attrs (jq l.length)]) (σ.length+1)=some (.attrs (jq l.length)):=by rw [aO,DO (by lia),FD];rfl
 have e2:am (σ++[.inst 4 (σ.length+1),.attrs (jq l.length)]) σ.length=some (.inst 4 (σ.length+1)):=by rw [aO,DO (by lia),E7];rfl
 exact pI e2 e1
inductive Rj (as:List CV) (σ:al):Prop
 |mk (sp:Nat) (mm:Nat) (z:Int) (j:Nat) (e:Nat) (bt:List (Nat×CV)) (g:List Nat) (l:List Int) (q0:as=[.obj sp,.bytes l]) (q1:am σ sp=some (.tup [.obj mm,.int z,.obj j])) (q2:aM σ (.obj j)=some (4,e,bt)) (q3:lk bt 11=some (.str g)) (q4:(g=iU\/g=jp)) (q5:l.any bS=true) (q6:Dn l.length 100=true)
theorem Uo (G:iE C) (ct:fu C sl) (t:RT C.T) (h16:C.nS 16="at") (hx:kf C.K=true) (hb:kM C.K (C.fa 68)=true):jg C (N+15+sl) 78 Rj:=by
 rintro as σ S hid m ρ s vs R ok Re hv ⟨sp,mm,z,j,e,bt,g,l,rfl,h1,h3,h4,hg,hl,hlen⟩ K
 refine fT (n:=N+14+sl) (loc:=[(75,.val (.obj sp)),(84,.val (.bytes l))]) G t.f78 rfl (ok.le (by lia)) Re hv (fun kk sc body hc Z0 S' δ h' tk F Z0=>pZ ?_ hc F) K
 show RB C (N+13+1+sl) S' hid (ρ++δ) σ s SJ [(75,.val (.obj sp)),(84,.val (.bytes l))] σ
 have he:=(cU G ct (N+14)).1
 refine kB G ct (?_:cN C.T (aj C.T (N+13)) (.asgT [115,116,88] (.loc 75)) _ σ _)
 show (aj C.T (N+13)).e (.loc 75) _ σ _
 rw [cW (N:=N+12) (v:=.obj sp) rfl]
 have hi:da σ (.obj sp)=some [.obj mm,.int z,.obj j]:=rX h1
 rw [hi]
 refine ⟨rfl,?_⟩
 refine jh (As (lY G he (U6 G ct t h16 hx hb) ?_))
 rw [bF,cW (N:=N+13) (v:=.bytes l) rfl,bF,cW (N:=N+13) (v:=.obj j) rfl,dB]
 exact ⟨⟨j,e,bt,g,l,rfl,h3,h4,hg,hl,hlen⟩,[],by simp⟩
section
variable {C:Cx} {S:bT} {hid:List (Du×Obj)} {m:Str->Option Dk} {ρ:List Du} {σ:al} {e:Du} {s:Dm} {E:Dk->Dm->Prop} {Q:Unit->Dm->Prop} {n:Nat}
theorem v0 (ok:S.Ok C n) (F:i8 C S hid m ρ σ e s.heap) (hQ:∀h'',n6 C S hid m ρ σ e h''->Q () {s with heap:=h''}):wpAny (model C.prog C.w) S.A (noteFrame (.ref e) S.fenv) Q E s:=by
 obtain ⟨B,a0,os,δ,τ,h1,h2,h3,h4,h5,h6,h7,u,nn',a⟩:=F
 exact wpAny_looks_onW ok.4 ok.5 h7 fun h4' k1 k2=>hQ h4' ⟨B,a0,os,δ,τ,h1,h2,h3,h4,h5,h6,k1,ER u k2,k2.ns nn',a⟩
theorem vK (F:n6 C S hid m ρ σ e s.heap) (hQ:∀h'',i8 C S hid m ρ σ e h''->Q () {s with heap:=h''}):wpAny (model C.prog C.w) A (setFlight (.ref e) none) Q E s:=by
 obtain ⟨B,a0,os,δ,τ,h1,h2,h3,h4,h5,h6,h7,u,nn',a⟩:=F
 exact wpAny_landsW h7 fun h4' k1 k2=>hQ h4' ⟨B,a0,os,δ,τ,h1,h2,h3,h4,h5,h6,k1,ER u k2,k2.ns nn',a⟩
theorem tR (F:i8 C S hid m ρ σ e s.heap) (hQ:∀h'',i8 C S hid m ρ σ e h''->Q () {s with heap:=h''}):wpAny (model C.prog C.w) A (setFlight (.ref e) none) Q E s:=by
 obtain ⟨B,a0,os,δ,τ,h1,h2,h3,h4,h5,h6,h7,u,nn',a⟩:=F
 exact lands_againW h7 fun h4' k1 k2=>hQ h4' ⟨B,a0,os,δ,τ,h1,h2,h3,h4,h5,h6,k1,ER u k2,k2.ns nn',a⟩
def bT.at (S:bT) (g:DI):bT:={S with h₀:=g}
theorem oN (ok:S.Ok C n) (T:KtsTurn (kU S.outer) S.h₀ g):(S.at g).Ok C n:=by
 have st:S.base.StaysIn g:=fun b o q=>T.other b o (ok.1.stays _ _ q) fun hm=>by
  rw [(ok.1.frames.mem hm).1] at q;cases q
 refine ⟨⟨ok.1.stack,st,ok.1.frames.of_keeps fun b o e Z0=>?_⟩,fun a o e=>st a o (ok.14 a o e),ok.15.keeps st,ok.4,ok.5,ok.6,ok.7,ok.8,ok.9,ok.10,ok.11,ok.12,ok.13,ok.14,ok.15⟩
 exact aG (T.up e) fun sl hs=>⟨_,hs,rfl⟩
theorem oW (ok:S.Ok C n) (F:i8 C S hid m ρ σ e s.heap):∃g,KtsTurn (kU S.outer) S.h₀ g/\∃δ τ,aX C (S.at g) hid m (ρ++δ) (σ++τ) s.heap:=by
 obtain ⟨B,a0,os,δ,τ,h1,h2,h3,h4,h5,h6,h7,u,hn,a⟩:=F
 have hB:B.StaysIn s.heap:=h7.1
 obtain ⟨T,k⟩:=kts_turn_at (g:=S.h₀) (h:=s.heap) (fs:=kU S.outer)
  (fun b hb=>by
   obtain ⟨_,o,ho,_⟩:=ok.1.frames.mem hb
   exact ⟨o,ho⟩)
  (fun b o q nm=>hB b o (h2 b o q fun hm=>by
   rcases ip hm with z|z
   ·have:S.L=b:=EF (ok.5.symm.trans z)
    exact absurd (DZ (DT q) (this▸a)) (EN _)
   ·exact nm z))
  (fun b o q hm=>by
   obtain ⟨_,o',ho',hd⟩:=ok.1.frames.mem hm
   rw [q] at ho'
   cases ho'
   exact u b o q hd)
 refine ⟨_,T,δ,τ,⟨hn,k,by show (ktsHeap s.heap (kU S.outer) S.h₀).objs.size<=S.L;rw [T.size];exact a⟩,os,fun q hq=>?_,h4,h5,h6⟩
 exact eU (h3 q hq) fun y1 y2 y3=>⟨hB _ _ y1,y2,T.none_ _ y3⟩
end
theorem qX (hc:bg (model prog w) (A.mark (some e)) c (fun r s'=>match r with|.ok f=>Q f s'|.error _=>False) s) (ok:nM c=true) (hnb:e≠byPass):aq (model prog w) A (runOwn c env (some e)) Q E s:=by
 exact d8 (aC (me (E:=fun Z0 Z0=>False) (h:=some e) hc ok (fun x=>hnb (EF x))) (fun Z0 Z0 q=>q) fun Z0 Z0 q=>q.elim)
theorem NN (h:aq (model prog w) A (setFlight e none) (fun Z0 s₁=>aq (model prog w) A (execs (b₀::body) env) (fun f s₂=>R (.ok f) s₂) (fun Z0 Z0=>False) s₁) (fun Z0 Z0=>False) s):
  bg (model prog w) A (.handlers e [.ExceptHandler none none (b₀::body) pos] env) R s:=by
 walk_at "j"
 show aq _ A (do return Fin.done (←(handleWith e env [.ExceptHandler none none (b₀::body) pos]).onRaise (fun x=>do noteFrame x env;theTreesLotGoes x))) _ _ s
 refine aB (ie ?_) fun f s' h'=>ad h'
 refine aa (ak (aa (aC h (fun Z0 s₁ h₁=>aC h₁ (fun f s₂ h₂=>?_) fun Z0 Z0 x=>x) fun Z0 Z0 x=>x)))
 exact h₂
theorem qI
  (h:bg (model prog w) (A.mark (some e)) (.handlers e [.ExceptHandler (some t) none [] pos] env) (fun r s₁=>match r with
   |.ok .brk=>bg (model prog w) (A.mark (some e)) (.handlers e [.ExceptHandler none none body pos] env) (fun r s₂=>match r with
     |.ok f=>Q f s₂
     |.error _=>False) s₁
   |_=>False) s) (hnb:e≠byPass):
  aq (model prog w) A (handleBy e env (.ExceptHandler (some t) none body pos::rest)) Q E s:=by
 rw [handleBy]
 refine aa (af (qX (gh h (fun r s₁ h₁=>?_)) rfl hnb))
 cases r with
 |error x=>exact h₁
 |ok f=>
  cases f with
  |brk=>
   refine aa (ad ?_)
   simp only [Bool.not_true,KX,if_false]
   refine aa (af (qX (gh h₁ (fun r s₂ h₂=>?_)) rfl hnb))
   cases r with
   |error x=>exact h₂
   |ok f=>exact ad h₂
  |_=>exact h₁.elim
theorem AJ {e C:Du} {nm q:Str} {N P:Du} {bs:List Dk} {hdct:Bool} {sn:List Str} {sub:List Dk} {ab:Bool} {col:Option Bool} {dd:Option Du} {k0 k1 k2 k3 k5:Option Dk} {t:Expr} {b₀:Ek} {suite:List Ek} {pos:Pos} {rest:List Jf} {Q:Kt->Dm->Prop}
  (h:wpAny (model prog w) (A.mark (some (.ref e))) (eval t env) (fun c s₁=>c=.ref C/\s₁.heap.get? C=some (excClassObj nm q C N bs (o6 P) hdct sn sub ab col dd k0 k1 k2 k3 k5 "Exception.__new__")/\(∃oe,s₁.heap.get? e=some oe/\oe.cls=.ref C)/\
   aq (model prog w) (A.mark (some (.ref e))) (setFlight (.ref e) none) (fun Z0 s₂=>aq (model prog w) (A.mark (some (.ref e))) (execs (b₀::suite) env) Q (fun Z0 Z0=>False) s₂) (fun Z0 Z0=>False) s₁) (fun Z0 Z0=>False) s):
  aq (model prog w) A (handleBy (.ref e) env (.ExceptHandler (some t) none (b₀::suite) pos::rest)) Q E s:=by
 refine qI (cM ?_) (by intro q;cases q)
 show aq _ (A.mark (some (.ref e))) (do return Fin.done (←(handleWith (.ref e) env [.ExceptHandler (some t) none [] pos]).onRaise (fun x=>do noteFrame x env;theTreesLotGoes x))) _ _ s
 refine aB (ie (Q:=fun f s'=>f=.brk/\bg (model prog w) (A.mark (some (.ref e))) (.handlers (.ref e) [.ExceptHandler none none (b₀::suite) pos] env) (fun r s₂=>match r with
     |.ok f=>Q f s₂
     |.error _=>False) s') ?_) fun f s' h'=>ad (by obtain ⟨rfl,h'⟩:=h';exact h')
 refine aa (ak (aa (nn (FU h (fun c s₁ h₁=>?_) fun Z0 Z0 z=>z))))
 refine iG h₁ fun zz17 hC zz18 hk=>?_
 clear h₁
 subst zz17
 obtain ⟨oe,he,hcls⟩:=zz18
 obtain ⟨hp,g,d,tk,os⟩:=s₁
 exact aa (ak (aa (nn (wpAny_excMatches_sub_self hC he hcls (rfl) (ad ⟨rfl,NN hk⟩)))))
theorem tY:bootBuiltins "bytes"=some (.type "bytes"):=by decide+kernel
section
variable {C:Cx} {n:Nat} {sc:Ef} {S:bT} {hid:List (Du×Obj)}
theorem AX (hb:zr sc b=true) (hx:nsIn C.K mainGlobals "bytes"=some none) (H:aZ C n sc S hid m mD ρ loc σ s.heap) (n1:C.nS 130="due") (n2:C.nS 115="memory") (n3:C.nS 129="elder")
  (d1:lk loc 130=some (.val .none)) (d2:lk loc 115=some (.val (.obj i))) (d3:lk loc 129=some (.val (.bytes mem))) (hi:am σ i=some (.barr mem)) (hl:mem.length<=100000):
  aq (model C.prog C.w) (S.A.mark (some (.ref e))) (execs b S.env) (fun f s'=>f=.ret (.bool true)/\∃tk,s'={s with toks:=tk}) (fun Z0 Z0=>False) s:=by
 refine suiB_e hb fun dp nk np cp bp mp bc ep ec bo rp l1 l2 l3 l4=>?_
 have k1:=(H.2 _ _ (eE l1)).1 (by simp)
 have k2:=(H.2 _ _ (eE l2)).1 (by simp)
 have k3:=(H.2 _ _ (eE l3)).1 (by simp)
 have k4:=(H.2 _ _ (eE l4)).1 (by simp)
 obtain ⟨_,w1,x1,y1⟩:=H.5 130 _ d1 (by rw [n1,k1];rfl)
 obtain ⟨_,w2,x2,y2⟩:=H.5 115 _ d2 (by rw [n2,k3];rfl)
 obtain ⟨_,w3,x3,y3⟩:=H.5 129 _ d3 (by rw [n3,k4];rfl)
 rw [n1] at x1
 rw [n2] at x2
 rw [n3] at x3
 subst (y1)
 refine ay y2 fun a ea zz1=>?_
 clear y2
 subst zz1
 refine dG y3 fun ba t zz4 hba=>?_
 clear y3
 subst zz4
 refine ay (H.6.get' hi ea) fun o zz7 ho=>?_
 obtain ⟨bo',rfl,hbo⟩:=zz7
 have ld:∀{x:Str} {v:Dk} {pp:Pos} {tk:Nat} {Q:Dk->Dm->Prop},S.env.kindOf x=some .local->mD x=some v->(x==("__debug__":Str))=false->Q v {s with toks:=tk}->aq (model C.prog C.w) (S.A.mark (some (.ref e))) (eval (.Name x pp) S.env) Q (fun Z0 Z0=>False) {s with toks:=tk}:=fun h1 h2 h3 hq=>
  nn (wpAny_Name (ID (s:={s with toks:=_}) H.1.10 h1 H.nd h2 hq) h3)
 refine bB (mc (lI ?_))
 show aq _ _ (eval (.Name "due" dp) S.env >>=fun x=>compareChain cp x [.Is] (markedEach [.Is] [.Constant .none nk np] (evalEach [.Constant .none nk np] S.env))) _ _ _
 rw [GV _ _ _ (eJ (by intro e he;rcases DW.mp he with rfl;rfl))]
 refine aa (ld (tk:=s.toks) k1 x1 (by rfl) (iN (nn (wpAny_Constant_none (nn (is_none_none (fV ?_)))))))
 simp only [if_true]
 refine lA ?_
 show aq _ _ (eval (.Call (.Name "bytes" bp) [.Name "memory" mp] [] bc) S.env >>=fun x=>compareChain ec x [.Eq] (markedEach [.Eq] [.Name "elder" ep] (evalEach [.Name "elder" ep] S.env))) _ _ _
 rw [GV _ _ _ (eJ (by intro e he;rcases DW.mp he with rfl;rfl))]
 refine aa (jI (nn (Fw H.1.10 k2 ?_ (by rfl))))
 refine loadGlobal_builtin (by rw [H.1.11];exact H.1.3.g.keeps H.6.1.keep) (mg_none_of H.1.2 H.1.3.g hx) (by rw [H.1.12];exact H.1.3.b.keeps H.6.1.keep) ((H.1.3.builtins "bytes" (by decide)).trans tY) ?_
 refine kX (P:=fun Z0=>True) (by rfl) (fun Z0 Z0=>⟨.machine,.inr (.inl rfl),.now⟩) (fy (jA (ld (tk:=s.toks) k3 x2 (by rfl) (ju ⟨trivial,?_⟩))))
 refine nn (toB ho (by have:=congrArg Jh hbo;rw [dX,Do] at this;rw [←HS,this];exact hl) fun t' k'=>?_)
 refine iN (ld k4 x3 (by rfl) (nn (PySem.W.eq_bytes ?_)))
 have e:(bo'.toList==ba.toList)=true:=by
  rw [beq_iff_eq]
  have:KBw.bInts bo'=KBw.bInts ba:=hbo.trans hba.symm
  rw [dX,dX] at this
  exact (KW (fun x y hxy=>Lz.mp (K0 hxy))).mp this
 rw [e]
 exact ⟨rfl,k',rfl⟩
theorem v8 (ok:S.Ok C k) (Fg:Fr S.h₀ S.L g m') (st:S.h₀.StaysIn g) (T:KtsTurn (kU (S.fenv::S.outer)) g g')
  (R:aX C ((fM S.A S.base g (S.fenv::S.outer) env' L').at g') hid m'' ρ σ h'):∃g2,KtsTurn (kU S.outer) S.h₀ g2/\aX C (S.at g2) hid m' ρ σ h':=by
 refine aX.e R fun os F N nd eq O=>?_
 have hk:∀b o,g'.get? b=some o->h'.get? b=some o:=F.keep
 obtain ⟨T2,k2⟩:=kts_turn_at (g:=S.h₀) (h:=h') (fs:=kU S.outer)
  (fun b hb=>by
   obtain ⟨_,o,ho,_⟩:=ok.1.frames.mem hb
   exact ⟨o,ho⟩)
  (fun b o q nm=>hk b o (T.other b o (st b o q) fun hm=>by
   rcases ip hm with z|z
   ·have:S.L=b:=EF (ok.5.symm.trans z)
    exact absurd (DZ (DT q) (this▸Fg.above)) (EN _)
   ·exact nm z))
  (fun b o q hm=>by
   refine aG (T.up (st b o q)) fun sl hs=>?_
   exact ⟨sl,hk _ _ hs⟩)
 have up:g.UpToSlots h':=fun b o q Z0=>by
  exact aG (T.up q) fun sl hs=>⟨sl,hk _ _ hs⟩
 refine ⟨_,T2,⟨up.ns Fg.ns,k2,by show (ktsHeap h' (kU S.outer) S.h₀).objs.size<=S.L;rw [T2.size];exact Fg.above⟩,os,fun q hq=>?_,nd,eq,O⟩
 refine eU (N q hq) fun y1 y2 y3=>?_
 have y3:g'.get? q.1=none:=y3
 refine ⟨y1,fun z=>?_,T2.none_ _ ?_⟩
 ·refine jo Fg.ns fun o Z0 Z0 ho Z0=>aG (T.up ho) fun sl hs=>?_
  rw [(show q.1=S.L from z),hs] at y3;cases y3
 ·cases w:S.h₀.get? q.1 with
  |none=>rfl
  |some o=>
   refine aG (T.up (st _ _ w)) fun sl hs=>?_
   rw [y3] at hs;cases hs
def mO (C:Cx) (n:Nat) (f:Nat) (P:List CV->al->Prop):Prop:=
 ∀as σ S hid m ρ s vs R,S.Ok C n->aX C S hid m ρ σ s.heap->dc ρ as vs->P as σ->(∀δ τ h' tk g,KtsTurn (kU S.outer) S.h₀ g->aX C (S.at g) hid m (ρ++δ) (σ++τ) h'->R (.ok (.ret (.bool true))) (aQ s h' tk))->
  bg (model C.prog C.w) S.A (.call (.ref (C.fa f)) ⟨vs,[]⟩) R s
def BI (C:Cx) (S:bT) (hid:List (Du×Obj)) (ρ:List Du) (σ:al) (s:Dm):Kt->Dm->Prop:=
 fun fl s'=>∃δ τ h' tk g m,fl=.ret (.bool true)/\s'=(aQ s h' tk)/\KtsTurn (kU S.outer) S.h₀ g/\aX C (S.at g) hid m (ρ++δ) (σ++τ) h'
theorem oX (G:iE C) (ef:C.T.fn f=some fi) (hc0:fi.cells=[]) (el:ix fi as=some loc) (ok:S.Ok C (n+1)) (Re:aX C S hid m ρ σ s.heap) (hv:dc ρ as vs)
  (hbody:∀kk scope body,eD C.nm C.gk kk scope fi.body body=true->gF C.K (C.fa f)=some (body,scope)->∀S' δ h1 tk,FH C n scope S' hid (ρ++δ) loc σ h1->S'.base=S.base->
   aq (model C.prog C.w) S'.A (execs body S'.env) (BI C S' hid (ρ++δ) σ s) (fun Z0 Z0=>False) (aQ s h1 tk))
  (K:∀δ τ h' tk g,KtsTurn (kU S.outer) S.h₀ g->aX C (S.at g) hid m (ρ++δ) (σ++τ) h'->R (.ok (.ret (.bool true))) (aQ s h' tk)):bg (model C.prog C.w) S.A (.call (.ref (C.fa f)) ⟨vs,[]⟩) R s:=by
 obtain ⟨name,qual,params,body,scope,dV,kV,doc,pm,an,cdv,ct,oc,od,osl,Fk⟩:=G.fns f fi ef
 obtain ⟨F,os,N0,nd,eq,O⟩:=id Re
 have X:C.K.In s.heap:=ok.2.keeps F.keep
 refine ay (Fk.8 as vs ρ loc s hv el X) fun binds hB hR=>?_
 have kindp:∀x∈loc.map (·.1),scope.names.lookup (C.nS x)=some .local\/scope.names.lookup (C.nS x)=some .cell:=fun x hx=>Fk.9 x ((hZ el)▸hx)
 refine na (name:=name) (qual:=qual) (params:=params) (body:=body) (scope:=scope) (dV:=dV) (kV:=kV) (doc:=doc) (pm:=pm) (an:=an) (cdv:=cdv) (ct:=ct) (binds:=binds)
  ok.1 F N0 (ok.3.nolimit) ok.4 ok.5 ok.6 (X _ _ Fk.1) rfl (codeRec_of X Fk.2) (by have:=ok.8;simp only [recursionLimit];lia) hB ?_ ?_ ?_ Fk.5 Fk.6 Fk.4
 ·intro n0 y hy
  have hy1:y.1∈binds.map (·.1):=DE hy
  rw [hR.keys] at hy1
  refine ay (DV.mp hy1) fun p hp e=>?_
  have:=kindp p.1 (DE hp)
  rw [show C.nS p.1=y.1 from e] at this
  rcases this with h|h
  ·exact .inl h
  ·refine ay (Fk.13 _ h) fun z hz ez=>?_
   rw [hc0] at hz;cases hz
 ·rw [Fk.11,hc0]
  exact E9
 ·intro g L' h1 tk cells Fg Fg' Ng CA Bg st ln
  let env':=envOfC qual scope L' (C.fa f) cdv
  let S':bT:=fM S.A S.base g (S.fenv::S.outer) env' L'
  have ok':S'.Ok C n:=by
   refine ⟨Bg,fun a o e=>st a o (ok.2 a o e),ok.3.keeps st,Fj ok.4,rfl,Fk.4,ok.7,?_,?_,Fk.4,rfl,rfl,G.dsn f fi ef _,ok.14,ok.15⟩
   ·have:=ok.8;show S.A.depth+1+n<990;lia
   ·have:=ok.9;show S.A.units+3+4*n<9000;lia
  have F':=mi G Fk ok' Fg' Ng CA ln nd eq O hR el
  rw [hc0] at F'
  refine aG Fk.3 fun kk hchk=>?_
  refine aC (hbody kk scope body hchk (by unfold gF;rw [Fk.1]) S' _ h1 tk F' rfl) (fun fl s' q=>?_) fun Z0 Z0 q=>q.elim
  obtain ⟨δ,τ,h',tk',g',m',rfl,rfl,T,q⟩:=q
  refine ay (v8 ok Fg st T q) fun g2 T2 R2=>?_
  rw [Di] at R2
  exact K _ _ h' tk' g2 T2 R2
end
theorem BN {nm:Nat->List Nat} {gk:List Nat->Option GK} {k:Nat} {sc:Ef} {st:Ek} {b:List CS} (h:iF nm gk k sc (.tri b) st=true):∃k' b' h0 hs p,st=.Try b' (h0::hs) [] [] p/\eD nm gk k' sc b b'=true:=by
 cases k with
 |zero=>exact absurd h Dq
 |succ k=>
  exact onTry_e h fun b' l p h=>by
   cases l with
   |nil=>exact absurd (bL h) Dq
   |cons h0 hs=>exact ⟨k,b',h0,hs,p,rfl,bR h⟩
def cD (sz:Int):List Int:=[60,60]++lZ sz.toNat [35]++[62,62]
theorem kW (sz:Int):(cD sz).length=sz.toNat+4:=by simp [cD,cZ]
inductive Rs (as:List CV) (σ:al):Prop
 |mk (j:Nat) (e:Nat) (bt:List (Nat×CV)) (g:List Nat) (sz:Int) (l:List Int) (q0:as=[.obj j,.bytes l,.none]) (q1:aM σ (.obj j)=some (4,e,bt)) (q2:lk bt 11=some (.str g)) (q3:(g=iU\/g=jp)) (q4:lk bt 5=some (.int sz)) (q5:0<=sz) (q6:sz<=100) (q7:l.any bS=true) (q8:Dn l.length 100=true)
theorem aE:am (σ++[co]) σ.length=some co:=by rw [aO];simp
theorem sf (h:am σ i=some (.barr l)):cQ true T σ .bytes [.obj i] Q=(Dn l.length 100000=true/\Q (.bytes l) σ):=by
 show nW σ i _ _=_
 unfold nW
 rw [h];rfl
theorem Mm:(aj T (N+1)).e (.tup l) loc σ Q=eC (aj T N) l loc σ fun vs σ=>Q (.obj σ.length) (σ++[.tup vs]):=rfl
theorem uY (h:ih.e e loc σ fun v σ=>lp loc σ x v fun loc σ=>Q .next loc σ):cN T ih (.asg x e) loc σ Q:=h
inductive C6 (C:Cx) (S:bT) (hid:List (Du×Obj)) (m:Str->Option Dk) (ρ:List Du) (σ:al) (s:Dm) (e:Dk) (s':Dm):Prop where
 |mk (ea:Du) (h':DI) (tk:Nat) (e1:e=.ref ea) (e2:s'=(aQ s h' tk)) (F:i8 C S hid m ρ σ ea h')
noncomputable abbrev P2:CS:=.asg 115 (.calB true .bytearray [(.bin true .add (.bin true .add (.cst (.bytes [60,60])) (.bin true .mul (.cst (.bytes [35])) (.att (.loc 88) 5))) (.cst (.bytes [62,62])))])
noncomputable abbrev Pr:CS:=.asg 129 (.calB true .bytes [(.loc 115)])
noncomputable abbrev P9:List CS:=[.xpr (.calF 78 [(.tup [(.loc 115),(.cst (.int 2)),(.loc 88)]),(.loc 84)])]
inductive T8 (C:Cx) (sc:Ef) (body:List Ek):Prop where
 |mk (st1 st2:Ek) (tb:List Ek) (xp:Pos) (sb₀:Ek) (sbr:List Ek) (hp tp:Pos) (st3:Ek) (r4:List Ek) (hd:Jf) (k:Nat) (e:body=st1::st2::st3::r4) (e3:st3=.Try tb [hd] [] [] tp) (eh:hd=.ExceptHandler (some (.Name "RunFault" xp)) none (sb₀::sbr) hp)
  (l1:og sc "RunFault" .globalImplicit=true) (l2:zr sc (sb₀::sbr)=true) (d1:iF C.nm C.gk k sc P2 st1=true) (d3:iF C.nm C.gk k sc Pr st2=true) (k2:Nat) (d7:eD C.nm C.gk k2 sc P9 tb=true)
theorem Mt {C:Cx} {sc:Ef} {body:List Ek} {a:Du} {kk:Nat} (hcat:ri C.K a=true) (hbody:gF C.K a=some (body,sc)) (hc:eD C.nm C.gk kk sc Q0 body=true):T8 C sc body:=by
 obtain ⟨st1,st2,tb,hh,tp,st4,rfl,hcat⟩:=Na hcat hbody
 obtain ⟨xp,sb,hp,rfl,l1,l2⟩:=L2 hcat
 cases sb with
 |nil=>exact absurd l2 Dq
 |cons b₀ r=>
  have hc:(iF C.nm C.gk kk sc P2 _&&(iF C.nm C.gk kk sc Pr _&&(iF C.nm C.gk kk sc (.tri P9) _&&_)))=true:=hc
  obtain ⟨k4,tb',h0,hs,tp',e1,d7⟩:=BN (bL (bR (bR hc)))
  cases e1
  exact ⟨_,_,_,_,_,_,_,_,_,_,_,_,rfl,rfl,rfl,l1,l2,bL hc,bL (bR hc),_,d7⟩
theorem VA (G:iE C) (ct:fu C sl) (t:RT C.T) (f88:C.T.fn 88=some ⟨[88,84,130],[],[],Q0⟩) (h16:C.nS 16="at") (n1:C.nS 130="due") (n2:C.nS 115="memory") (n3:C.nS 129="elder")
  (hx:kf C.K=true) (hb:kM C.K (C.fa 68)=true) (hcat:ri C.K (C.fa 88)=true) (hby:nsIn C.K mainGlobals "bytes"=some none):mO C (N+17+sl) 88 Rs:=by
 rintro as σ S hid m ρ s vs R ok Re hv ⟨j,e,bt,g,sz,l,rfl,h1,h2,hg,h3,z1,z2,hl,hlen⟩ K
 refine oX (n:=N+16+sl) (loc:=[(88,.val (.obj j)),(84,.val (.bytes l)),(130,.val .none)]) G f88 rfl rfl (ok.le (by lia)) Re hv (fun kk sc body hc hbody S' δ h' tk F hS=>?_) K
 obtain ⟨st1,st2,tb,xp,sb₀,sbr,hp,tp,st3,r4,hd,k1,rfl,e3,eh,l1,l2,d1,d3,k4,d7⟩:=Mt hcat hbody hc
 have he:=(cU G ct (N+15)).1
 have ht:=(cU G ct (N+15)).2.1
 have B:gz C sl (N+16):=⟨fun j Z0=>⟨(cU G ct j).1,(cU G ct j).2.1⟩,fun j Z0=>(cU G ct j).2.2.1⟩
 have hml:=kW sz
 have hsz:sz.toNat<=100:=by lia
 refine bB (fS (s:=aQ s h' tk) (N:=N+15) (Q:=yJ [(88,.val (.obj j)),(84,.val (.bytes l)),(130,.val .none),(115,.val (.obj σ.length))] (σ++[.barr (cD sz)])) G.toTabE ct B d1 F (uY ?_) fun fl loc' σ' ρ' hp2 tk2 q pp F2=>?_)
 ·rw [M1,bF,jH,jH,jP,jH,jP,mE (N:=N+9) rfl h1 h3 t.a5]
  have r1:=cZ ([35]:List Int) sz.toNat
  refine ⟨by simp only [eZ];simp;lia,?_⟩
  refine ⟨Dh (by rw [r1];simp;lia),?_⟩
  dsimp only
  rw [jP]
  refine ⟨Dh (by rw [Ds,r1];simp;lia),?_⟩
  dsimp only
  rw [dB]
  refine ⟨Dh (by show (cD sz).length<=_;lia),?_⟩
  exact ⟨rfl,rfl,rfl⟩
 refine eU q fun zz11 zz12 zz13=>?_
 clear q
 subst zz11 zz12 zz13
 refine bB (fS (s:=aQ s hp2 tk2) (N:=N+15) (Q:=yJ [(88,.val (.obj j)),(84,.val (.bytes l)),(130,.val .none),(115,.val (.obj σ.length)),(129,.val (.bytes (cD sz)))] (σ++[.barr (cD sz)])) G.toTabE ct B d3 (F2.up F.ok) (uY ?_) fun fl loc' σ' ρ'' h3' tk3 q pp3 F3=>?_)
 ·rw [M1,bF,cW (N:=N+13) (v:=.obj σ.length) rfl,dB]
  rw [sf aE]
  exact ⟨Dh (by lia),rfl,rfl,rfl⟩
 refine eU q fun zz14 zz15 zz16=>?_
 clear q
 subst zz14 zz15 zz16
 have F3:=F3.up F.ok
 refine aG (pp.trans pp3) fun δ2 zz17=>?_
 clear pp pp3
 subst zz17
 refine aG F3.4 fun m1 H=>?_
 have ok':=H.1
 have fe:=F3.1
 obtain ⟨od99,cd,nm,q,N',bs',hdct,sn,sub,ab,col,k0,k1',k2',k3',k5,_,_,_,hC⟩:=qd hx
 rw [e3]
 refine bB (O2 (E:=fun Z0 Z0=>False) (aC (Q:=fun Z0 Z0=>False) (E:=C6 C S' hid m1 (ρ++δ++δ2) (σ++[.barr (cD sz)]) s) ?_ (fun Z0 Z0 z=>z.elim) fun e s' z=>?_))
 ·
  refine kZ (f7 d7) fun k5' st b5 e1 c1 c2=>?_
  cases e1
  refine kZ (Au c1) fun k6 e' p6 zz24 c3 c4=>?_
  subst zz24
  refine AE (jV c3) fun k7 id p7 es pos zz28 c5 c6 c7 c8=>?_
  subst zz28
  refine aD (G.toTabG.fn _ _ (hO _ c7)) fun g1 g2=>?_
  rw [fU] at g1
  refine bB (Cm ?_ (jU H.1.10) (mC c4 _ _ _))
  refine eu (s:=aQ s h3' tk3) he (.of_K g2) c8 c5 c6 (H.le (by lia)) (H.g g1) (Q:=fun vs σ'=>vs=[.obj (σ.length+1),.bytes l]/\σ'=σ++[.barr (cD sz)]++[.tup [.obj σ.length,.int 2,.obj j]]) ?_ fun cvs σ' ρ' vs h4 tk4 q hv hn p R=>?_
  ·rw [bF]
   rw [Mm,bF,cW (N:=N+13) (v:=.obj σ.length) rfl,bF,jP,bF,cW (N:=N+13) (v:=.obj j) rfl,dB]
   rw [bF,cW (N:=N+14) (v:=.bytes l) rfl,dB]
   exact ⟨by rw [Ds];rfl,rfl⟩
  ·refine aD q fun zz29 zz30=>?_
   clear q
   subst zz29 zz30
   refine aG p fun δ4 zz31=>?_
   clear p
   subst zz31
   refine dy (Uo (N:=N) G ct t h16 (hx) hb _ _ S' hid m1 _ (aQ s h4 tk4) _ _ (H.1.le (by lia)) R hv ⟨σ.length+1,σ.length,2,j,e,bt,g,l,rfl,?_,?_,h2,hg,hl,hlen⟩ fun ea h5 tk5 Fl=>⟨ea,h5,tk5,rfl,rfl,?_⟩)
   ·have:=aE (σ:=σ++[.barr (cD sz)]) (co:=.tup [.obj σ.length,.int 2,.obj j])
    rw [Ds] at this
    exact this
   ·exact bv (bv h1)
   ·exact Fl.weaken
 ·obtain ⟨ea,h4,tk4,rfl,rfl,Fl⟩:=z
  rw [fe]
  refine nn (v0 (s:=aQ s h4 tk4) ok' Fl fun h5 Hd=>nn (vK (s:=aQ s h5 tk4) Hd fun h6 Fl6=>?_))
  obtain ⟨g6,T6,δ6,τ6,R6⟩:=oW (s:=aQ s h6 tk4) ok' Fl6
  have ok6:=oN ok' T6
  rw [←fe,eh]
  refine AJ (C:=99) (P:=62) (nm:=nm) (q:=q) (N:=N') (bs:=bs') (hdct:=hdct) (sn:=sn) (sub:=sub) (ab:=ab) (col:=col) (dd:=od99) (k0:=k0) (k1:=k1') (k2:=k2') (k3:=k3') (k5:=k5) (Fw (s:=aQ s h6 tk4) ok'.10 ((H.2 _ _ (eE l1)).1 (by simp)) ?_ (by rfl))
  refine loadGlobal_global (by rw [ok'.11];exact ok6.3.g.keeps R6.1.keep) (mg_of ok6.2 ok6.3.g (gj (bR (bL hx)))) ⟨rfl,R6.1.keep _ _ (ok6.2 _ _ hC),(by obtain ⟨_,_,_,_,_,_,_,_,_,_,_,h7,_,_,_⟩:=Fl6;exact h7.there),?_⟩
  refine nn (tR (s:=aQ s h6 tk4) Fl6 fun h7 Fl7=>?_)
  obtain ⟨g7,T7,δ7,τ7,R7⟩:=oW (s:=aQ s h7 tk4) ok' Fl7
  have H7:aZ C (N+16+sl) _ (S'.at g7) hid m1 m1 (ρ++δ++δ2++δ7) [(88,.val (.obj j)),(84,.val (.bytes l)),(130,.val .none),(115,.val (.obj σ.length)),(129,.val (.bytes (cD sz)))] (σ++[.barr (cD sz)]++τ7) h7:=
   ⟨(oN ok' T7),H.2,H.3,fun h Fh Z0=>by show h.Ns S'.env.locals m1;rw [(F3.2)];exact Fh.ns,H.5.mono (Gk _ _),R7⟩
  have hi:am (σ++[.barr (cD sz)]++τ7) σ.length=some (.barr (cD sz)):=by rw [aO,Di,DO (DQ _),E7];rfl
  refine aC (AX (S:=S'.at g7) (s:=aQ s h7 tk4) (loc:=[(88,.val (.obj j)),(84,.val (.bytes l)),(130,.val .none),(115,.val (.obj σ.length)),(129,.val (.bytes (cD sz)))]) (mem:=cD sz) l2 hby H7 n1 n2 n3 rfl rfl rfl hi (by lia)) (fun f s' z=>?_) fun Z0 Z0 z=>z
  obtain ⟨rfl,tk8,rfl⟩:=z
  refine ⟨δ2++δ7,[.barr (cD sz)]++τ7,h7,tk8,g7,m1,rfl,rfl,T7,?_⟩
  rw [←(by simp [Di]:ρ++δ++δ2++δ7=ρ++δ++(δ2++δ7)),←Di]
  exact R7
def sY (k:List Nat):Bool:=aF k gX||(aF k fz||(aF k eK||(aF k dQ||aF k dl)))
def xR (k:List Nat):Bool:=aF k qx||(aF k i5||(aF k gf||(aF k lU||aF k gV)))
def dz (k:List Nat) (d s:Int):Bool:=sY k&&(dk 2 d&&(dk d 9&&(dk 0 s&&(dk s 4&&(dk s d&&(!aF k dl||j5 s 0))))))
def im (k:List Nat) (n:Int):Bool:=xR k&&(dk 2 n&&(dk n 9&&(aF k gV||dk 3 n)))
def Q1 (as:List CV) (σ:al) (Q:bu):Prop:=TJ as fun k d s=>qA k fun k=>gG d fun d=>gG s fun s=>cond (dz k d s) (Q (.obj σ.length) (σ++zW σ.length (jF k d.toNat s.toNat))) False
def Pz (as:List CV) (σ:al) (Q:bu):Prop:=zV as fun k n=>qA k fun k=>gG n fun n=>cond (im k n) (Q (.obj σ.length) (σ++zW σ.length (pV k n.toNat))) False
def Tw (f:Nat):Option (List CV->al->bu->Prop):=cond (Dy f 56) (some SH) (cond (Dy f 65) (some Sg) (cond (Dy f 86) (some Pz) (cond (Dy f 87) (some Q1) none)))
def bH:Tab:={fn:=zZ,cl:=NL,gv:=QW,tv:=lk Pc,ct:=Tw}
theorem Pf:gB ((aj TB 150).c 56) [.bytes l] σ Q=(true=true/\(Dn l.length 100000=true/\Q (.obj σ.length) (σ++[.inst 4 (σ.length+1),.attrs (jq l.length)]))):=by kernel_rfl
theorem On (h:ky g=true):gB ((aj TB 150).c 65) [.str jn,.str g] σ Q=(true=true/\Q (.bool true) (σ++[])):=by
 unfold ky at h
 simp only [Fm,cg] at h
 rcases h with ((((rfl|rfl)|rfl)|rfl)|rfl)|rfl<;>kernel_rfl
theorem SU:RT bH:=by
 refine {g113:=by rfl,g108:=by rfl,t720:=by rfl,a11:=by kernel_rfl,a5:=by kernel_rfl,c56:=rfl,c65:=rfl,f68:=by rfl,f69:=by rfl,f73:=by rfl,f77:=by rfl,f78:=by rfl}
theorem ka (h1:-18446744073709551616<a) (h2:a<18446744073709551616):eM a=true:=by
 rw [IG];exact lc h1 h2
theorem eG (h:a≠b):j5 a b=false:=by rw [fR];simpa using h
theorem rM:((10:Int)^d)≠0:=by
 have:=F8 (n:=d) (by decide:0<10)
 intro e
 have e:((10^d:Nat):Int)=0:=by rw [ED];exact e
 lia
theorem Vy {M d:Nat} (hM:10<=M) (h:aM σ (.obj g)=some (4,e,bt)) (hd:lk bt 12=some (.int d)) (h2:d<=1000) (q:Q (.int (10^d)) σ):(aj bH M).c 47 [.obj g] σ Q:=by
 refine fuel hM fun N=>bZ (N:=N+9) (loc:=[(88,.val (.obj g))]) rfl rfl rfl (cC (bX rfl (aw rfl ‹_› (by first|rfl|assumption) rfl ?_)))
 refine g8 (by simp [eM,eZ];lia) ?_
 exact q
theorem Ve {M d:Nat} {u:Int} (hM:20<=M) (h:aM σ (.obj g)=some (4,e,bt)) (hd:lk bt 12=some (.int d)) (hs:lk bt 13=some (.bool sg)) (h2:d<=1000) (hu:0<=u) (q:Q (.int (u.fmod (10^d))) σ):(aj bH M).c 57 [.obj g,.int u] σ Q:=by
 refine fuel hM fun N=>bZ (N:=N+19) (loc:=[(88,.val (.obj g)),(3,.val (.int u))]) rfl rfl rfl (dw (aH (bh rfl (mU hu (bj rfl (ai rfl (Vy (by lia) h hd h2 ?_)))))))
 refine eN (by rw [eG rM];rfl) ?_
 exact aT rfl (cC (iC (gi (fH rfl rfl (kC (ar (cJ hu) (ar rfl (ae rfl q))))))))
def gI (b:Int) (u:Int):Nat->List Int
 |0=>[]
 |n+1=>u.fmod b::gI b (u.fdiv b) n
theorem qk {b u:Int}:gI b u 0=[]:=rfl
theorem jJ {b u:Int} {n:Nat}:gI b u (n+1)=u.fmod b::gI b (u.fdiv b) n:=rfl
theorem eI:∀{n:Nat} {u:Int},(gI b u n).length=n:=by
 intro x0
 induction x0 with
 |zero=>
  intro _
  exact rfl
 |succ n ihh=>
  intro _
  simp [qk,jJ,ihh]
theorem cw {loc:aP} {x:Nat} {v:CV} {Q:aP->al->Prop} (q:lp loc σ x v Q):gu loc σ [x] false v Q:=q
theorem kQ {T:Tab} {tg:List Nat} {tp:Bool} {b:List CS} {loc:aP} {Q:Fl->aP->al->Prop} (q:Q .next loc σ):(aj T (N+1)).f tg tp (.seq []) b loc σ Q:=q
theorem fQ {T:Tab} {tg:List Nat} {tp:Bool} {b:List CS} {loc:aP} {v:CV} {l:List CV} {Q:Fl->aP->al->Prop} (q:gu loc σ tg tp v fun loc σ=>(aj T N).b b loc σ fun fl loc σ=>match fl with|.next=>(aj T N).f tg tp (.seq l) b loc σ Q|.ret v=>Q (.ret v) loc σ):(aj T (N+1)).f tg tp (.seq (v::l)) b loc σ Q:=q
def RQ:List CS:=[.xpr (.mtB true .append (.loc 21) [.bin true .mod (.loc 92) (.cst (.int 10))]),.asg 92 (.bin true .fdiv (.loc 92) (.cst (.int 10)))]
theorem Te:∀(n:Nat) {N:Nat} {σ:al} {loc:aP} {fi:Nat} {acc:List Int} {r a:Int} {Q:Fl->aP->al->Prop},am σ fi=some (.list (acc.map .int))->acc.length+n<=1000->lk loc 21=some (.val (.obj fi))->lk loc 92=some (.val (.int r))->(∀k,lk loc 93≠some (.cell k))->
  (∀loc',lk loc' 21=some (.val (.obj fi))->Q .next loc' (aU σ fi (.list ((acc++gI 10 r n).map .int))))->(aj bH (N+n+9)).f [93] false (.seq (cR n a 1)) RQ loc σ Q:=by
 intro n
 induction n with
 |zero=>
  intro N σ loc fi acc r a Q h0 hl h1 h2 h3 q
  refine kQ (N:=N+8) ?_
  have:=q loc h1
  rw [qk,DG] at this
  have e:aU σ fi (.list (acc.map .int))=σ:=by
   exact ji h0
  rwa [e] at this
 |succ n Te=>
  intro N σ loc fi acc r a Q h0 hl h1 h2 h3 q
  refine fQ (N:=N+n+9) (cw (bl h3 ?_))
  have e1:lk (cu loc 93 (.val (.int a))) 21=some (.val (.obj fi)):=by rw [ah,if_neg (by decide)];exact h1
  have e2:lk (cu loc 93 (.val (.int a))) 92=some (.val (.int r)):=by rw [ah,if_neg (by decide)];exact h2
  refine lV (iT (ae ‹_› (l9 h0 (ac (aH (ae ‹_› (ag (eN (by rfl) (av rfl ?_)))))))))
  refine ut h0 (Dh (by rw [Do];lia)) ?_
  refine dw (aH (ae ‹_› (ag (iq (by rfl) (gH e2 (aJ ?_))))))
  refine Te (by rw [cF h0,Dw];rfl:am (aU σ fi (.list (acc.map .int++[.int (r.fmod 10)]))) fi=some (.list ((acc++[r.fmod 10]).map .int))) (by simp;lia) (by rw [ah,if_neg (by decide)];exact e1) (by rw [ah,if_pos rfl]) (fun k=>by rw [ah,if_neg (by decide),ah,if_pos rfl];simp) fun loc' hl'=>?_
  have:=q loc' hl'
  rw [jJ,Lw] at this
  rw [jl]
  exact this
theorem fK:da (σ++[.tup vs]) (.obj σ.length)=some vs:=rX aS
theorem iI {ih:Ih} {tg:List Nat} {tp:Bool} {b:List CS} {v:CV} {i:It} {Q:Fl->aP->al->Prop} (h:cI σ v=some i) (q:ih.f tg tp i b loc σ Q):(hK (cI σ v) fun i=>ih.f tg tp i b loc σ Q):=by rw [h];exact q
theorem fc {ih:Ih} {elt:CE} {tg:List Nat} {tp:Bool} {cond:Option CE} {v:CV} {i:It} {acc:Nat} {Q:al->Prop} (h:cI σ v=some i) (q:ih.p s elt tg tp cond i acc loc (σ++[.list []]) Q):(hK (cI σ v) fun i=>ih.p s elt tg tp cond i acc loc (σ++[.list []]) Q):=by rw [h];exact q
theorem NR {n:Nat}:hV 0 n 1=n:=by
 unfold hV
 rw [bk (by decide),cond_true]
 cases n with
 |zero=>rfl
 |succ n=>rw [bk (by lia),cond_true];simp
theorem ma {n:Nat} (h:n<=1000):cI (σ++[.rng 0 n 1]) (.obj σ.length)=some (.seq (cR n 0 1)):=by
 have:rT 0 n 1=true:=by
  unfold rT
  rw [ax (by lia),bk (by lia),ax (by lia),bk (by lia)]
  rfl
 rw [Cs aS this,NR]
theorem Cn (h0:am σ k=some (.list l)) (h:Dn l.length 100000=true) (q:Q (.obj σ.length) (σ++[.list l.reverse])):bD s σ (.obj k) .none .none (.int (-1)) Q:=gl h0 (bf (by rw [h];rfl) q)
theorem RC {u:Int} {n M:Nat} (hM:n+30<=M) (hn:n<=900) (q:∀τ k,am (σ++τ) k=some (.list ((gI 10 u n).reverse.map .int))->Q (.obj k) (σ++τ)):(aj bH M).c 58 [.int u,.int n] σ Q:=by
 refine fuel2 hM fun N=>bZ (N:=N+n+29) (loc:=[(68,.val (.int u)),(15,.val (.int n))]) rfl rfl rfl (ao (jM (fh (ac (fD (av rfl (av rfl (fY fK (gJ (aT rfl (gJ (aT rfl (nV (ao (jX (bh rfl ?_))))))))))))))))
 refine po (by rw [ax (by lia),bk (by lia)];rfl) ?_
 refine iI (ma (by lia)) ?_
 rw [show N+n+28=N+19+n+9 from by lia]
 refine Te n (N:=N+19) (fi:=σ.length) (acc:=[]) (r:=u) (a:=0) ?_ (by simp;lia) rfl rfl (fun k h=>by cases h) fun loc' hl=>?_
 ·simp only [Di,EX,Fo,aS];rfl
 refine ao (dj (eP (ae hl (bn (bn (db (lE (ag ?_))))))))
 have e:aU (σ++[.list []]++[.tup [.obj σ.length,.int u]]++[.rng 0 n 1]) σ.length (.list (([]++gI 10 u n).map .int))=σ++[.list ((gI 10 u n).map .int),.tup [.obj σ.length,.int u],.rng 0 n 1]:=by
  simp only [Di,EX,Fo,bU];rfl
 rw [e]
 refine Cn (l:=(gI 10 u n).map .int) (by rw [aS];rfl) (Dh (by rw [Do,eI];lia)) ?_
 rw [Di,←He]
 refine q _ _ ?_
 rw [show (σ++[CO.list ((gI 10 u n).map .int),.tup [.obj σ.length,.int u],.rng 0 n 1]).length=σ.length+3 from by simp,bx]
 rfl
theorem tM (hx:∀k,lk loc0 x≠some (.cell k)):∀(l:List CV) {done:List CV} {loc:aP} {σ:al} {Q:al->Prop}
  (_:∀v∈l,∀K loc' σ' Q',(∀y,y≠x->lk loc' y=lk loc0 y)->lk loc' x=some (.val v)->(∀j,j≠acc->am σ' j=am σ0 j)->Q' (g v) σ'->(aj T (K+20)).e elt loc' σ' Q')
  (_:∀y,y≠x->lk loc y=lk loc0 y) (_:∀k,lk loc x≠some (.cell k)) (_:∀j,j≠acc->am σ j=am σ0 j) (_:am σ acc=some (.list done)) (_:done.length+l.length<=1000)
  (_:Q (aU σ acc (.list (done++l.map g)))),(aj T (M+l.length+21)).p s elt [x] false none (.seq l) acc loc σ Q:=by
 intro l0
 induction l0 with
 |nil=>
  intro done loc σ Q he h1 h2 h3 h4 h5 q
  have e:aU σ acc (.list (done++([]:List CV).map g))=σ:=by
   rw [FL,DG]
   exact ji h4
  rw [e] at q
  exact q
 |cons v l tM=>
  intro done loc σ Q he h1 h2 h3 h4 h5 q
  show gu loc σ [x] false v fun loc σ=>(aj T (M+l.length+21)).e elt loc σ fun v σ=>match am σ acc with
   |some (.list l')=>pB l'.length ((aj T (M+l.length+21)).p s elt [x] false none (.seq l) acc loc (aU σ acc (.list (l'++[v]))) Q)
   |_=>False
  refine cw (bl h2 ?_)
  have l1:∀y,y≠x->lk (cu loc x (.val v)) y=lk loc0 y:=fun y hy=>by rw [ah,if_neg (fun e=>hy e.symm)];exact h1 y hy
  have l2:lk (cu loc x (.val v)) x=some (.val v):=by rw [ah,if_pos rfl]
  refine he v (.head _) (M+l.length+1) _ _ _ l1 l2 h3 ?_
  rw [h4]
  show cond (Dn done.length 100000) _ False
  rw [Dh (by lia:done.length<=100000),cond_true]
  have n1:∀j,j≠acc->am (aU σ acc (.list (done++[g v]))) j=am σ0 j:=fun j hj=>by
   rw [←h3 j hj,aO,aO,eH,Gv,if_neg (fun e=>hj e.symm)]
  refine tM (fun w hw=>he w (.tail _ hw)) l1 (fun k h=>by rw [l2] at h;cases h) n1 (cF h4) (by simp only [Ds,DC,Ew] at h5 ⊢;lia) ?_
  rw [jl,Di]
  exact q
theorem tm (hk:k≠acc) (hL:am σ0 k=some (.list L)):∀(l pre:List CV) {done:List CV} {loc:aP} {σ:al} {Q:al->Prop} (_:L=pre++l)
  (_:∀v∈l,∀K loc' σ' Q',(∀y,y≠x->lk loc' y=lk loc0 y)->lk loc' x=some (.val v)->(∀j,j≠acc->am σ' j=am σ0 j)->Q' (g v) σ'->(aj T (K+20)).e elt loc' σ' Q')
  (_:∀y,y≠x->lk loc y=lk loc0 y) (_:∀k,lk loc x≠some (.cell k)) (_:∀j,j≠acc->am σ j=am σ0 j) (_:am σ acc=some (.list done)) (_:done.length+l.length<=1000)
  (_:Q (aU σ acc (.list (done++l.map g)))),(aj T (M+l.length+21)).p s elt [x] false none (.lst k pre.length) acc loc σ Q:=by
 intro l0
 induction l0 with
 |nil=>
  intro pre done loc σ Q e0 he h1 h2 h3 h4 h5 q
  have e:aU σ acc (.list (done++([]:List CV).map g))=σ:=by
   rw [FL,DG]
   exact ji h4
  rw [e] at q
  have hn:cY σ (.lst k pre.length)=.stop:=by
   have e1:am L pre.length=none:=by rw [e0,DG,aO,Ed (DQ _)]
   exact (gy ((h3 k hk).trans hL)).trans (vH e1)
  show (match cY σ (.lst k pre.length) with|.stop=>Q σ|.item v i=>_|.pair _ _ _=>False|.no=>False)
  rw [hn];exact q
 |cons v l tm=>
  intro pre done loc σ Q e0 he h1 h2 h3 h4 h5 q
  have hn:cY σ (.lst k pre.length)=.item v (.lst k (pre++[v]).length):=by
   have e1:am L pre.length=some v:=by rw [e0,aO,DO (DQ _),E7];rfl
   rw [Ds]
   exact (gy ((h3 k hk).trans hL)).trans (rB e1)
  have goal:gu loc σ [x] false v fun loc σ=>(aj T (M+l.length+21)).e elt loc σ fun w σ=>match am σ acc with
   |some (.list l')=>pB l'.length ((aj T (M+l.length+21)).p s elt [x] false none (.lst k (pre++[v]).length) acc loc (aU σ acc (.list (l'++[w]))) Q)
   |_=>False:=by
   refine cw (bl h2 ?_)
   have l1:∀y,y≠x->lk (cu loc x (.val v)) y=lk loc0 y:=fun y hy=>by rw [ah,if_neg (fun e=>hy e.symm)];exact h1 y hy
   have l2:lk (cu loc x (.val v)) x=some (.val v):=by rw [ah,if_pos rfl]
   refine he v (.head _) (M+l.length+1) _ _ _ l1 l2 h3 ?_
   rw [h4]
   show cond (Dn done.length 100000) _ False
   rw [Dh (by lia:done.length<=100000),cond_true]
   have l3:∀k,lk (cu loc x (.val v)) x≠some (.cell k):=fun k h=>by rw [l2] at h;cases h
   have n1:∀j,j≠acc->am (aU σ acc (.list (done++[g v]))) j=am σ0 j:=fun j hj=>by
    rw [←h3 j hj,aO,aO,eH,Gv,if_neg (fun e=>hj e.symm)]
   refine tm (pre++[v]) (by rw [e0,Di];rfl) (fun w hw=>he w (.tail _ hw)) l1 l3 n1 (cF h4) (by simp only [Ds,DC,Ew] at h5 ⊢;lia) ?_
   rw [jl,Di]
   exact q
  have e:(aj T (M+(v::l).length+21)).p s elt [x] false none (.lst k pre.length) acc loc σ Q=(match cY σ (.lst k pre.length) with
   |.stop=>Q σ
   |.item v i=>gu loc σ [x] false v fun loc σ=>(aj T (M+l.length+21)).e elt loc σ fun w σ=>match am σ acc with
    |some (.list l')=>pB l'.length ((aj T (M+l.length+21)).p s elt [x] false none i acc loc (aU σ acc (.list (l'++[w]))) Q)
    |_=>False
   |.pair _ _ _=>False
   |.no=>False):=rfl
  rw [e,hn]
  exact goal
theorem u7 {F x:Nat} {elt:CE} {acc:Nat} {g:CV->CV} {l:List CV} {loc:aP} {σ:al} {Q:al->Prop} (hF:l.length+21<=F) (hx:∀k,lk loc x≠some (.cell k)) (hl:l.length<=1000) (h4:am σ acc=some (.list []))
  (q:Q (aU σ acc (.list (l.map g))))
  (he:∀v∈l,∀K loc' σ' Q',(∀y,y≠x->lk loc' y=lk loc y)->lk loc' x=some (.val v)->(∀j,j≠acc->am σ' j=am σ j)->Q' (g v) σ'->(aj T (K+20)).e elt loc' σ' Q'):(aj T F).p s elt [x] false none (.seq l) acc loc σ Q:=by
 exact fuel2 hF fun M=>tM hx l he (fun Z0 Z0=>rfl) hx (fun Z0 Z0=>rfl) h4 (by simpa using hl) q
theorem Bb {F x k:Nat} {elt:CE} {acc:Nat} {g:CV->CV} {l:List CV} {loc:aP} {σ:al} {Q:al->Prop} (hF:l.length+21<=F) (hx:∀k,lk loc x≠some (.cell k)) (hl:l.length<=1000) (hk:k≠acc) (hL:am σ k=some (.list l)) (h4:am σ acc=some (.list []))
  (q:Q (aU σ acc (.list (l.map g))))
  (he:∀v∈l,∀K loc' σ' Q',(∀y,y≠x->lk loc' y=lk loc y)->lk loc' x=some (.val v)->(∀j,j≠acc->am σ' j=am σ j)->Q' (g v) σ'->(aj T (K+20)).e elt loc' σ' Q'):(aj T F).p s elt [x] false none (.lst k 0) acc loc σ Q:=by
 exact fuel2 hF fun M=>tm hk hL l [] rfl he (fun Z0 Z0=>rfl) hx (fun Z0 Z0=>rfl) h4 (by simpa using hl) q
def RL (g:Int->Int):CV->CV
 |.int x=>.int (g x)
 |v=>v
theorem vw {g:Int->Int} {l:List Int}:(l.map CV.int).map (RL g)=(l.map g).map CV.int:=by
 rw [EJ,EJ];rfl
theorem pA {F x:Nat} {elt:CE} {acc:Nat} (g:Int->Int) {l:List Int} {loc:aP} {σ:al} {Q:al->Prop} (hF:l.length+21<=F) (hx:∀k,lk loc x≠some (.cell k)) (hl:l.length<=1000) (h4:am σ acc=some (.list []))
  (q:Q (aU σ acc (.list ((l.map g).map .int))))
  (he:∀v∈l,∀K loc' σ' Q',(∀y,y≠x->lk loc' y=lk loc y)->lk loc' x=some (.val (.int v))->(∀j,j≠acc->am σ' j=am σ j)->Q' (.int (g v)) σ'->(aj T (K+20)).e elt loc' σ' Q'):(aj T F).p s elt [x] false none (.seq (l.map .int)) acc loc σ Q:=by
 refine u7 (g:=RL g) (by rw [Do];exact hF) hx (by rw [Do];exact hl) h4 (by rw [vw];exact q) fun v hv K loc' σ' Q' h1 h2 h3 q'=>?_
 refine ay (DV.mp hv) fun y hy zz1=>?_
 subst zz1
 exact he y hy K loc' σ' Q' h1 h2 h3 q'
theorem pE {F x k:Nat} {elt:CE} {acc:Nat} (g:Int->Int) {l:List Int} {loc:aP} {σ:al} {Q:al->Prop} (hF:l.length+21<=F) (hx:∀k,lk loc x≠some (.cell k)) (hl:l.length<=1000) (hk:k≠acc) (hL:am σ k=some (.list (l.map .int))) (h4:am σ acc=some (.list []))
  (q:Q (aU σ acc (.list ((l.map g).map .int))))
  (he:∀v∈l,∀K loc' σ' Q',(∀y,y≠x->lk loc' y=lk loc y)->lk loc' x=some (.val (.int v))->(∀j,j≠acc->am σ' j=am σ j)->Q' (.int (g v)) σ'->(aj T (K+20)).e elt loc' σ' Q'):(aj T F).p s elt [x] false none (.lst k 0) acc loc σ Q:=by
 refine Bb (g:=RL g) (by rw [Do];exact hF) hx (by rw [Do];exact hl) hk hL h4 (by rw [vw];exact q) fun v hv K loc' σ' Q' h1 h2 h3 q'=>?_
 refine ay (DV.mp hv) fun y hy zz4=>?_
 subst zz4
 exact he y hy K loc' σ' Q' h1 h2 h3 q'
theorem gw (h:am σ k=some co):k<σ.length:=by rw [aO] at h;exact (Ei.mp h).1
theorem cK {l:List Int}:lx (l.map .int)=some l:=xg (f:=PA) (g:=CV.int) fun Z0=>rfl
theorem fb:∀{l:List Int},(∀x∈l,0<=x/\x<256)->BQ l=true:=by
 intro x0
 induction x0 with
 |nil=>
  intro _
  exact rfl
 |cons a l ihh=>
  intro h
  rw [Dl,Dl,cA,dq]
  exact ⟨h a (.head _),ihh fun x hx=>h x (.tail _ hx)⟩
theorem uE (hb:0<b):∀{n:Nat} {u:Int},∀x∈gI b u n,0<=x/\x<b:=by
 intro x0
 induction x0 with
 |zero=>
  intro _ x h
  cases h
 |succ n ihh=>
  intro u x h
  rcases Dv.mp h with rfl|h
  ·exact ⟨Es _ hb,FN _ hb⟩
  ·exact ihh x h
def fX (u:Int) (d:Nat):List Int:=(gI 10 u d).reverse
theorem dH:(fX u d).length=d:=by rw [fX,GI,eI]
theorem ur:∀x∈fX u d,0<=x/\x<10:=fun x h=>uE (by decide) x (Hc.mp h)
def bq (u:Int) (d:Nat):List Int:=(fX u d).map (48+·)
theorem bV:(bq u d).length=d:=by rw [bq,Do,dH]
theorem mM:∀x∈bq u d,48<=x/\x<58:=fun x h=>by
 refine ay (DV.mp h) fun y hy zz1=>?_
 subst zz1
 have:=ur y hy
 lia
def j7:List Int:=[123,65,66,67,68,69,70,71,72,73]
theorem hW (h:am σ k=some (.list l)):cI σ (.obj k)=some (.lst k 0):=OM h
theorem RE {u:Int} {d M:Nat} (hM:d+60<=M) (h:aM σ (.obj g)=some (4,e,bt)) (hd:lk bt 12=some (.int d)) (hs:lk bt 13=some (.bool false)) (h2:d<=900) (hu:0<=u) (q:∀τ,Q (.bytes (bq u d)) (σ++τ)):(aj bH M).c 59 [.obj g,.int u] σ Q:=by
 refine fuel2 hM fun N=>bZ (N:=N+d+59) (loc:=[(88,.val (.obj g)),(3,.val (.int u))]) rfl rfl rfl (dw (f9 (aK (ac (bh rfl (mU hu (ac (aw rfl ‹_› (by first|rfl|assumption) rfl (av rfl (ai rfl (RC (by lia) h2 fun τ k hk=>fc (hW hk) ?_)))))))))))
 refine pE (48+·) (l:=fX u d) (by rw [dH];lia) (fun k h=>by cases h) (by rw [dH];lia) (D9 (gw hk)) (au hk) (by rw [aS];rfl) ?_ fun x Z0 K loc' σ' Q' hy hx hj q'=>aH (fk rfl (ae hx (cn q')))
 rw [bU]
 have h':=bv (τ:=[.list ((bq u d).map .int)]) (bv (τ:=τ) h)
 refine aT rfl (bJ (lT (oG (aw rfl ‹_› (by first|rfl|assumption) rfl (aI rfl (cC (bh rfl ?_)))))))
 refine dK (by rw [aS];rfl) cK (by rw [Dl];exact ⟨fb fun x hx=>by have:=mM x hx;lia,Dh (by rw [bV];lia)⟩) ?_
 rw [Di]
 exact q _
def j9 (u:Int) (d:Nat):List Int:=(bq u d).set (d-1) (j7.getD (u.fmod 10).toNat 0)
theorem sI (h:1<=d):(bq u d)[d-1]?=some (48+u.fmod 10):=by
 refine fuel h fun n=>?_
 (unfold bq fX;simp only [qk,jJ])
 rw [He,DB,GX,Nat.add_sub_cancel,DO (by simp [eI]),GI,Do,eI,E7]
 rfl
theorem BB:∀x∈j9 u d,0<=x/\x<256:=fun x hx=>by
 rcases List.mem_or_eq_of_mem_set hx with hx|rfl
 ·have:=mM x hx;lia
 ·have hf0:0<=u.fmod 10:=Es _ (by decide)
  have hf1:u.fmod 10<10:=FN _ (by decide)
  have:(u.fmod 10).toNat<10:=by lia
  generalize (u.fmod 10).toNat=z at this
  revert z
  decide
theorem cy {i n:Nat}:cx (i:Int) n=i:=by
 unfold cx
 rw [cJ (by lia)];simp
theorem dM {i n:Nat} (h:i<n):r0 (i:Int) n=true:=by
 unfold r0
 rw [cJ (by lia),cond_false];exact bk (by lia)
theorem qe {k:Nat} {l:List CV} {i:Int} {v:CV} {Q:al->Prop} (h0:am σ k=some (.list l)) (h:(r0 i l.length&&Dn l.length 100000)=true) (q:Q (aU σ k (.list (aU l (cx i l.length) v)))):oF s σ (.obj k) (.int i) v Q:=gl h0 (bf h q)
theorem qv (h1:am σ a=some (.list l)) (h2:am σ b=some (.list m)) (h:Dn (l.length+m.length) 100000=true) (q:Q (.obj σ.length) (σ++[.list (l++m)])):dJ s T σ .add (.obj a) (.obj b) Q:=kz h1 (kz h2 (bf h q))
theorem Tc {u:Int} {d M:Nat} (hM:d+60<=M) (h:aM σ (.obj g)=some (4,e,bt)) (hd:lk bt 12=some (.int d)) (hs:lk bt 13=some (.bool true)) (hp:lk bt 86=some (.bool false)) (ht:lk bt 14=some (.str xz)) (h1:1<=d) (h2:d<=900) (hu:0<=u) (q:∀τ,Q (.bytes (j9 u d)) (σ++τ)):(aj bH M).c 59 [.obj g,.int u] σ Q:=by
 refine fuel2 hM fun N=>?_
 refine bZ (N:=N+d+59) (loc:=[(88,.val (.obj g)),(3,.val (.int u))]) rfl rfl rfl ?_
 walk_at "e"
 refine f9 ?_
 walk_at "gbu"
 refine mU hu ?_
 walk_at "byq"
 refine ai rfl (RC (by lia) h2 fun τ k hk=>?_)
 refine fc (hW hk) ?_
 refine pE (48+·) (l:=fX u d) (by rw [dH];lia) (fun k h=>by cases h) (by rw [dH];lia) (D9 (gw hk)) (au hk) (by rw [aS];rfl) ?_ fun x Z0 K loc' σ' Q' hy hx hj q'=>aH (fk rfl (ae hx (cn q')))
 rw [bU]
 have h':=bv (τ:=[.list ((bq u d).map .int)]) (bv (τ:=τ) h)
 have hL:am (σ++τ++[.list ((bq u d).map .int)]) (σ++τ).length=some (.list ((bq u d).map .int)):=by rw [aS];rfl
 have hlen:((bq u d).map CV.int).length=d:=by rw [Do,bV]
 have hf0:0<=u.fmod 10:=Es _ (by decide)
 have hf1:u.fmod 10<10:=FN _ (by decide)
 walk_at "p"
 refine bJ ?_
 refine lT ?_
 refine oG ?_
 walk_at "ysc"
 refine bJ ?_
 refine oG ?_
 walk_at "ysceklya"
 refine bw ?_
 walk_at "sdu"
 refine ir hL (Dh (by rw [hlen];lia)) ?_
 walk_at "a"
 refine dA ?_
 walk_at "pekvm"
 refine ar (cJ hu) ?_
 refine fk rfl ?_
 walk_at "pf"
 refine mP ?_
 refine eO ?_
 walk_at "rd"
 refine di rfl rfl ?_
 rw [(by rw [hlen];lia:((((bq u d).map CV.int).length:Int)-1)=((d-1:Nat):Int))]
 refine dm hL (by rw [cy];exact (by rw [aO,DH,sI h1];rfl:am ((bq u d).map CV.int) (d-1)=some (.int (48+u.fmod 10)))) (by rw [hlen,dM (by lia),Dh (by lia)];rfl) ?_
 refine fk rfl ?_
 refine dA ?_
 rw [show 48+u.fmod 10-48=((u.fmod 10).toNat:Int) from (congrArg (·-(48:Int)) (Int.add_comm _ _)).trans ((Int.add_sub_cancel _ _).trans (EH (Es u (by decide))).symm)]
 refine mZ (by rw [dM (show _<10 from (Int.toNat_lt (Es u (by decide))).mpr (FN u (by decide)))];rfl) ?_
 walk_at "rr"
 refine qe hL (by rw [hlen,dM (by lia),Dh (by lia)];rfl) ?_
 refine cC ?_
 walk_at "u"
 rw [bU,cy,cy]
 rw [show aU ((bq u d).map CV.int) (d-1) (.int (j7.getD (u.fmod 10).toNat 0))=(j9 u d).map .int from by rw [eH,j9,Kb]]
 refine dK (by rw [aS];rfl) cK (by rw [Dl];exact ⟨fb BB,Dh (by rw [j9,LU,bV];lia)⟩) ?_
 rw [Di]
 exact q _
theorem jL:∀{n:Nat} {a:Int},cR n a c=((F7 n).map fun (i:Nat)=>a+c*i).map .int:=by
 intro x0
 induction x0 with
 |zero=>
  intro _
  exact rfl
 |succ n ihh=>
  intro a
  rw [fO,ihh,List.range_succ_eq_map,DB,DB,EJ,EJ,EJ]
  congr 1
  ·simp
  ·refine GH fun i Z0=>?_
   simp only [HI]
   congr 1
   rw [Int.natCast_succ,Int.mul_add,Int.mul_one];lia
theorem uK (h:rT a b c=true):cI (σ++[.rng a b c]) (.obj σ.length)=some (.seq (cR (hV a b c) a c)):=Cs aS h
def iA (H:List Int) (n:Nat):List Int:=(F7 n).map fun i=>16*H.getD (2*i) 0+H.getD (2*i+1) 0
theorem zz (h:∀x∈H,0<=x/\x<16):∀x∈iA H n,0<=x/\x<256:=fun x hx=>by
 refine ay (DV.mp hx) fun i Z0 zz2=>?_
 subst zz2
 have k:∀j,0<=H.getD j 0/\H.getD j 0<16:=fun j=>by
  rw [DP]
  cases e:H[j]? with
  |none=>simp
  |some y=>exact h y (DU e)
 have h1:=k (2*i)
 have h2:=k (2*i+1)
 exact ⟨JP (JQ (by decide) h1.1) h2.1,(Int.add_lt_add_of_le_of_lt (Int.mul_le_mul_of_nonneg_left (a:=H.getD (2*i) 0) (b:=15) (c:=16) (Int.le_of_lt_add_one h1.2) (by decide:(0:Int)<=16)) h2.2:_<(16*15+16:Int))⟩
theorem NB:∀{n:Nat},1<=n->((((2*n:Nat):Int)-0-1)/2+1).toNat=n
 |m+1,Z1=>by
  rw [Int.sub_zero,(GF (by exact Gm 1 (2*m+1))).symm.trans rfl]
  exact congrArg (·+1) (Nat.mul_add_div (m:=2) (by decide) m 1)
theorem oo {M:Nat} {k:Nat} {H:List Int} {n:Nat} {x hv:Nat} (hM:n+30<=M) (hn:H.length=2*n) (hn1:1<=n) (hn2:n<=400) (hk:am σ k=some (.list (H.map .int))) {c:Nat} (hloc:lk loc hv=some (.cell c)) (hc:am σ c=some (.cell (some (.obj k)))) (hxh:hv≠x) (hx:∀k,lk (loc.filter fun p=>!([x].any fun y=>Dy y p.1)) x≠some (.cell k)) (hloc':lk (loc.filter fun p=>!([x].any fun y=>Dy y p.1)) hv=some (.cell c))
  (q:∀τ,am (σ++τ) (σ.length+1)=some (.list ((iA H n).map .int))->Q (.obj (σ.length+1)) (σ++τ)):
  (aj bH M).e (.comp false (.bin true .add (.bin true .mul (.cst (.int 16)) (.sub true (.loc hv) (.loc x))) (.sub true (.loc hv) (.bin true .add (.loc x) (.cst (.int 1))))) [x] false (.calB true .range [.cst (.int 0),.calB true .len [.loc hv],.cst (.int 2)]) none) loc σ Q:=by
 refine fuel2 hM fun N=>?_
 have hlen:(H.map CV.int).length=2*n:=by rw [Do,hn]
 refine f9 (be (ac (ag (ac (be (ac (eQ hloc hc (aL (ir hk (Dh (by rw [hlen];lia)) (ac (ag (aL ?_))))))))))))
 rw [hlen]
 have okr:rT 0 ((2*n:Nat):Int) 2=true:=by
  unfold rT
  rw [ax (show (-1000:Int)<=((2*n:Nat):Int) from wm rfl),bk (show ((2*n:Nat):Int)<100000 from PS (Nat.mul_le_mul_left 2 hn2) rfl)]
  rfl
 have hrn:hV 0 ((2*n:Nat):Int) 2=n:=by
  unfold hV
  rw [bk (by decide),cond_true,bk (Ez.mpr (Nat.mul_pos (by decide) hn1)),cond_true]
  exact NB hn1
 refine ya (by
  have:=okr
  exact this) (fc (uK okr) ?_)
 rw [hrn,jL]
 refine pA (fun a=>16*H.getD a.toNat 0+H.getD (a.toNat+1) 0) (by simp;lia) hx (by simp;lia) (by rw [aS];rfl) ?_ fun v hv1 K loc' σ' Q' hy hx' hj q'=>?_
 ·rw [bU,Di,show (σ++[CO.rng 0 ((2*n:Nat):Int) 2]).length=σ.length+1 from by simp]
  refine q _ ?_
  rw [bx]
  have e:(((F7 n).map fun (i:Nat)=>(0+2*(i:Int))).map fun a=>16*H.getD a.toNat 0+H.getD (a.toNat+1) 0)=iA H n:=by
   rw [EJ,iA]
   refine GH fun i Z0=>?_
   rw [HI]
   rw [Ht];rfl
  rw [e];rfl
 ·refine ay (DV.mp hv1) fun i hi zz4=>?_
  subst zz4
  have hi:=F5.mp hi
  have e0:(0+2*(i:Int))=((2*i:Nat):Int):=Ht _
  have hv2:lk loc' hv=some (.cell c):=by rw [hy hv hxh];exact hloc'
  have hc2:am σ' c=some (.cell (some (.obj k))):=by
   rw [hj c (by have:=gw hc;simp;lia)]
   exact au (au hc)
  have hk2:am σ' k=some (.list (H.map .int)):=by
   rw [hj k (by have:=gw hk;simp;lia)]
   exact au (au hk)
  have at_:∀j,j<2*n->am (H.map CV.int) j=some (.int (H.getD j 0)):=fun j hj=>by
   rw [aO,DH,DP]
   have:j<H.length:=hn▸hj
   rw [DA this];rfl
  refine aH (aH (ag (eO (eQ hv2 hc2 (ae hx' ?_)))))
  rw [e0]
  refine dm hk2 (by rw [cy];exact at_ _ (by lia)) (by rw [hlen,dM (by lia),Dh (by lia)];rfl) (eV (by rfl) (eO (eQ hv2 hc2 (aH (ae hx' (ag (cn ?_)))))))
  rw [show (0+2*(i:Int))+1=((2*i+1:Nat):Int) from congrArg (·+1) (Ht _)]
  refine dm hk2 (by rw [cy];exact at_ _ (by lia)) (by rw [hlen,dM (by lia),Dh (by lia)];rfl) (cn ?_)
  rw [e0] at q'
  exact q'
def j3 (u:Int) (n:Nat):List Int:=iA (fX u (2*n-1)++[15]) n
theorem rS:∀x∈j3 u n,0<=x/\x<256:=zz fun x hx=>by
 rcases DL.mp hx with hx|hx
 ·have:=ur x hx;lia
 ·rcases DW.mp hx with rfl;decide
theorem vF (h:A=σ.length):am (σ++[x]) A=some x:=by subst h;exact aE
theorem l5 {loc:aP} {x k:Nat} {v:CV} {w:Option CV} {Q:aP->al->Prop} (h:lk loc x=some (.cell k)) (h2:am σ k=some (.cell w)) (q:Q loc (aU σ k (.cell (some v)))):lp loc σ x v Q:=by
 unfold lp
 simp only [h,h2]
 exact q
theorem nc (h:T.fn f=some fi) (h2:ix fi as=some loc) (h3:Mine.rD fi.cells loc σ=(loc',σ')) (q:(aj T N).b fi.body loc' σ' fun fl Z0 σ=>match fl with|.ret v=>Q v σ|.next=>Q .none σ):(aj T (N+1)).c f as σ Q:=by
 show nE T (aj T N) f as σ Q
 unfold nE
 simp only [h,h2,h3]
 exact q
theorem Vr {u:Int} {z M:Nat} (hM:2*z+60<=M) (h:aM σ (.obj g)=some (4,e,bt)) (hs:lk bt 13=some (.bool false)) (hz:lk bt 5=some (.int z)) (h1:1<=z) (h2:z<=400) (hu:0<=u) (q:∀τ,Q (.bytes (j3 u z)) (σ++τ)):(aj bH M).c 60 [.obj g,.int u] σ Q:=by
 refine fuel2 hM fun N=>?_
 refine nc (N:=N+2*z+59) (loc:=[(88,.val (.obj g)),(3,.val (.int u))]) (loc':=[(88,.val (.obj g)),(3,.val (.int u)),(105,.cell σ.length)]) (σ':=σ++[.cell none]) rfl rfl rfl ?_
 have h':=bv (τ:=[.cell none]) h
 walk_at "e"
 refine fk rfl ?_
 walk_at "p"
 refine bJ ?_
 refine oG ?_
 walk_at "yscedgbu"
 refine mU hu ?_
 walk_at "bd"
 refine bX rfl ?_
 walk_at "y"
 refine eV (by rfl) ?_
 walk_at "a"
 refine dA ?_
 walk_at "q"
 rw [show 2*(z:Int)-1=((2*z-1:Nat):Int) from (GF (Dr h1 (Nat.le_mul_of_pos_left z (by decide)))).symm]
 refine ai rfl (RC (FE (Dr (Fd _ _) (Gm _ N)) (et rfl)) (Dr (Fd _ _) (Dr (Nat.mul_le_mul_left 2 h2) (et rfl))) fun τ k hk=>?_)
 refine fD ?_
 walk_at "q"
 refine qv (l:=(fX u (2*z-1)).map .int) (m:=[.int 15]) (au hk) (by rw [aS];rfl) (Dh (by rw [Do,dH];simp;lia)) ?_
 refine l5 (k:=σ.length) (w:=none) rfl (by rw [Di,Di,Di,aS];rfl) ?_
 have hA:(σ++[CO.cell none]++τ++[CO.list [.int 15]]).length=σ.length+1+τ.length+1:=by simp;lia
 generalize (σ++[CO.cell none]++τ++[CO.list [.int 15]]).length=A at hA ⊢
 have eS:aU (σ++[.cell none]++τ++[.list [.int 15]]++[.list ((fX u (2*z-1)).map .int++[.int 15])]) σ.length (.cell (some (.obj A)))=σ++([.cell (some (.obj A))]++τ++[.list [.int 15]])++[.list ((fX u (2*z-1)++[15]).map .int)]:=by
  rw [Di,Di,Di,bU]
  simp [qc,pJ,qj,Dw]
 rw [eS]
 refine ao (dj (be (ac ?_)))
 refine oo (k:=A) (H:=fX u (2*z-1)++[15]) (n:=z) (c:=σ.length) (by lia) (by simp [dH];lia) h1 h2 (vF (by rw [hA];simp;lia)) rfl (by rw [Di,aS];rfl) (by decide) (by intro k h;cases h) (by rfl) fun τ2 hk2=>?_
 refine aL (dK hk2 cK (by rw [Dl];exact ⟨fb rS,Dh (by simp [iA];lia)⟩) ?_)
 rw [Di,Di]
 exact q _
def Ra:List CS:=[.xpr (.mtB true .append (.loc 21) [.bin true .mod (.loc 92) (.cst (.int 256))]),.asg 92 (.bin true .fdiv (.loc 92) (.cst (.int 256)))]
theorem SG:∀(n:Nat) {N:Nat} {σ:al} {loc:aP} {fi:Nat} {acc:List Int} {r a:Int} {Q:Fl->aP->al->Prop},am σ fi=some (.list (acc.map .int))->acc.length+n<=1000->lk loc 21=some (.val (.obj fi))->lk loc 92=some (.val (.int r))->(∀k,lk loc 93≠some (.cell k))->
  (∀loc',lk loc' 21=some (.val (.obj fi))->Q .next loc' (aU σ fi (.list ((acc++gI 256 r n).map .int))))->(aj bH (N+n+9)).f [93] false (.seq (cR n a 1)) Ra loc σ Q:=by
 intro n
 induction n with
 |zero=>
  intro N σ loc fi acc r a Q h0 hl h1 h2 h3 q
  refine kQ (N:=N+8) ?_
  have:=q loc h1
  rw [qk,DG] at this
  have e:aU σ fi (.list (acc.map .int))=σ:=by
   exact ji h0
  rwa [e] at this
 |succ n SG=>
  intro N σ loc fi acc r a Q h0 hl h1 h2 h3 q
  refine fQ (N:=N+n+9) (cw (bl h3 ?_))
  have e1:lk (cu loc 93 (.val (.int a))) 21=some (.val (.obj fi)):=by rw [ah,if_neg (by decide)];exact h1
  have e2:lk (cu loc 93 (.val (.int a))) 92=some (.val (.int r)):=by rw [ah,if_neg (by decide)];exact h2
  refine lV (iT (ae ‹_› (l9 h0 (ac (aH (ae ‹_› (ag (eN (by rfl) (av rfl ?_)))))))))
  refine ut h0 (Dh (by rw [Do];lia)) ?_
  refine dw (aH (ae ‹_› (ag (iq (by rfl) (gH e2 (aJ ?_))))))
  refine SG (by rw [cF h0,Dw];rfl:am (aU σ fi (.list (acc.map .int++[.int (r.fmod 256)]))) fi=some (.list ((acc++[r.fmod 256]).map .int))) (by simp;lia) (by rw [ah,if_neg (by decide)];exact e1) (by rw [ah,if_pos rfl]) (fun k=>by rw [ah,if_neg (by decide),ah,if_pos rfl];simp) fun loc' hl'=>?_
  have:=q loc' hl'
  rw [jJ,Lw] at this
  rw [jl]
  exact this
def lQ (u:Int) (n:Nat):List Int:=(gI 256 u n).reverse
theorem mH:(lQ u n).length=n:=by rw [lQ,GI,eI]
theorem u6:∀x∈lQ u n,0<=x/\x<256:=fun x h=>uE (by decide) x (Hc.mp h)
theorem wy:((256:Int)^d)≠0:=by
 have:=F8 (n:=d) (show 0<256 by decide)
 intro e
 have e:((256^d:Nat):Int)=0:=by rw [ED];exact e
 lia
theorem VM {u:Int} {z M:Nat} (hM:z+60<=M) (h:aM σ (.obj g)=some (4,e,bt)) (hz:lk bt 5=some (.int z)) (h2:z<=400) (q:∀τ,Q (.bytes (lQ (u.fmod (256^z)) z)) (σ++τ)):(aj bH M).c 61 [.obj g,.int u] σ Q:=by
 refine fuel2 hM fun N=>bZ (N:=N+z+59) (loc:=[(88,.val (.obj g)),(3,.val (.int u))]) rfl rfl rfl (ao (jM (fh (ac (bX rfl (bX rfl (aw rfl ‹_› (by first|rfl|assumption) rfl ?_)))))))
 refine g8 (by rw [ax (by lia),ax (by lia)];rfl) ?_
 refine eN (by show (!j5 (256^((z:Int)).toNat) 0)=true;rw [eG wy];rfl) ?_
 refine ac (fD (av rfl (av rfl (fY fK (gJ (aT rfl (gJ (aT rfl (nV ?_)))))))))
 have h'':=bv (τ:=[.tup [.int (u.fmod (256^((z:Int)).toNat)),.obj σ.length]]) (bv (τ:=[.list []]) h)
 refine ao (jX (be (ac (aw rfl ‹_› (by first|rfl|assumption) rfl (av rfl ?_)))))
 refine po (by rw [ax (by lia),bk (by lia)];rfl) ?_
 refine iI (ma (by lia)) ?_
 rw [show N+z+58=N+49+z+9 from by lia]
 refine SG z (N:=N+49) (fi:=σ.length) (acc:=[]) (r:=u.fmod (256^((z:Int)).toNat)) (a:=0) ?_ (by simp;lia) rfl rfl (fun k h=>by cases h) fun loc' hl=>?_
 ·simp only [Di,EX,Fo,aS];rfl
 refine ao (dj (be (ac (eP (ae hl (bn (bn (db (lE (ag ?_))))))))))
 have e:aU (σ++[.list []]++[.tup [.int (u.fmod (256^((z:Int)).toNat)),.obj σ.length]]++[.rng 0 z 1]) σ.length (.list (([]++gI 256 (u.fmod (256^((z:Int)).toNat)) z).map .int))=σ++[.list ((gI 256 (u.fmod (256^z)) z).map .int),.tup [.int (u.fmod (256^z)),.obj σ.length],.rng 0 z 1]:=by
  simp only [Di,EX,Fo,bU];rfl
 rw [e]
 refine Cn (l:=(gI 256 (u.fmod (256^z)) z).map .int) (by rw [aS];rfl) (Dh (by rw [Do,eI];lia)) (aL ?_)
 rw [Di,←He]
 refine dK (r:=lQ (u.fmod (256^z)) z) (by rw [show (σ++[CO.list ((gI 256 (u.fmod (256^z)) z).map .int),.tup [.int (u.fmod (256^z)),.obj σ.length],.rng 0 z 1]).length=σ.length+3 from by simp,bx];rfl) cK (by rw [Dl];exact ⟨fb u6,Dh (by rw [mH];lia)⟩) (q _)
theorem lL (h:z<=18):eM ((10:Int)^z)=true:=by
 have h1:10^z<=10^18:=EM (by decide) h
 rw [(by rw [ED];rfl:((10:Int)^z)=((10^z:Nat):Int))]
 unfold eM
 rw [Lc,IG]
 exact DY h1 (by decide)
theorem c2 {M t:Nat} {n:Int} {z:Nat} (hM:20<=M) (h:am σ t=some (.tup [.int n,.int 0])) (hz:z<=18) (q:Q (.int (n*10^z)) σ):(aj bH M).c 2 [.obj t,.int z,.bool false] σ Q:=by
 refine fuel hM fun N=>bZ (N:=N+19) (loc:=[(4,.val (.obj t)),(2,.val (.int z)),(6,.val (.bool false))]) rfl rfl rfl (bJ (jd rfl (di rfl rfl (f0 h rfl rfl (xx (aI (ax (by lia)) (cC (aH (di rfl rfl (f0 h rfl rfl (bX rfl (bX rfl (di rfl rfl (f0 h rfl rfl (dA ?_)))))))))))))))
 rw [(by lia:((z:Int)-0)=(z:Int))]
 refine g8 (by rw [ax (by lia),ax (by lia)];rfl) ?_
 exact eV (by rw [show ((10:Int)^(z:Int).toNat)=10^z from rfl,lL hz,GN]) q
def mV (k:List Nat) (d z:Nat) (u:Int):List Int:=cond (aF k gX) (bq (u.fmod (10^d)) d) (cond (aF k fz) (j9 (u.fmod (10^d)) d) (cond (aF k eK) (j3 (u.fmod (10^d)) z) (lQ ((u.fmod (10^d)).fmod (256^z)) z)))
inductive vm (bt:List (Nat×CV)) (k:List Nat) (d z s:Nat):Prop where
 |mk (kk:k=gX\/k=fz\/k=eK\/k=dQ) (d1:2<=d) (d2:d<=18) (z1:1<=z) (z2:z<=18) (s2:s<=18) (a11:lk bt 11=some (.str iU)) (a5:lk bt 5=some (.int z)) (a12:lk bt 12=some (.int d)) (a2:lk bt 2=some (.int s)) (a13:lk bt 13=some (.bool (aF k fz))) (a86:lk bt 86=some (.bool false)) (a14:lk bt 14=some (.str xz)) (a85:lk bt 85=some (.str (cond (aF k eK) eK (cond (aF k dQ) dQ vP))))
theorem Uv {M d z sc:Nat} {k:List Nat} {u:Int} (hM:140<=M) (h:aM σ (.obj g)=some (4,e,bt)) (A:vm bt k d z sc) (hu:0<=u) (q:∀τ,Q (.bytes (mV k d z u)) (σ++τ)):(aj bH M).c 62 [.obj g,.int u] σ Q:=by
 refine fuel hM fun N=>?_
 obtain ⟨hk,d1,d2,z1,z2,s2,a11,a5,a12,a2,a13,a86,a14,a85⟩:=A
 have hf:0<=u.fmod (10^d):=Es _ (by
  have:=F8 (n:=d) (show 0<10 by decide)
  rw [(by rw [ED];rfl:((10:Int)^d)=((10^d:Nat):Int))];lia)
 refine bZ (N:=N+139) (loc:=[(88,.val (.obj g)),(3,.val (.int u))]) rfl rfl rfl (dw (bj rfl (ai rfl (Ve (by lia) h a12 a13 (by lia) hu (aT rfl ?_)))))
 rcases hk with rfl|rfl|rfl|rfl
 ·replace a85:lk bt 85=some (.str vP):=a85
  replace a13:lk bt 13=some (.bool false):=a13
  exact bJ (aA (aw rfl ‹_› (by first|rfl|assumption) rfl (ag (bw (aI rfl (cC (bj rfl (ai rfl (RE (by lia) h a12 a13 (by lia) hf fun τ=>q τ)))))))))
 ·replace a85:lk bt 85=some (.str vP):=a85
  replace a13:lk bt 13=some (.bool true):=a13
  exact bJ (aA (aw rfl ‹_› (by first|rfl|assumption) rfl (ag (bw (aI rfl (cC (bj rfl (ai rfl (Tc (by lia) h a12 a13 a86 a14 (by lia) (by lia) hf fun τ=>q τ)))))))))
 ·replace a85:lk bt 85=some (.str eK):=a85
  replace a13:lk bt 13=some (.bool false):=a13
  exact bJ (aA (aw rfl ‹_› (by first|rfl|assumption) rfl (ag (bw (ar rfl (aJ (cC (iC (aA (aw rfl ‹_› (by first|rfl|assumption) rfl (ag (bw (aI rfl (bj rfl (ai rfl (Vr (by lia) h a13 a5 z1 (by lia) hf fun τ=>q τ))))))))))))))))
 ·replace a85:lk bt 85=some (.str dQ):=a85
  replace a13:lk bt 13=some (.bool false):=a13
  exact bJ (aA (aw rfl ‹_› (by first|rfl|assumption) rfl (ag (bw (ar rfl (aJ (cC (iC (aA (aw rfl ‹_› (by first|rfl|assumption) rfl (ag (bw (ar rfl (bj rfl (ai rfl (VM (by lia) h a5 (by lia) fun τ=>q τ))))))))))))))))
theorem Vs {M d z sc t:Nat} {k:List Nat} {n:Int} (hM:160<=M) (h:aM σ (.obj g)=some (4,e,bt)) (A:vm bt k d z sc) (hn:0<=n) (ht:am σ t=some (.tup [.int n,.int 0])) (q:∀τ,Q (.bytes (mV k d z (n*10^sc))) (σ++τ)):(aj bH M).c 63 [.obj g,.obj t] σ Q:=by
 refine fuel hM fun N=>bZ (N:=N+159) (loc:=[(88,.val (.obj g)),(68,.val (.obj t))]) rfl rfl rfl ?_
 have a2:=A.10
 have hp:0<=n*10^sc:=JQ hn (by
  rw [(by rw [ED];rfl:((10:Int)^sc)=((10^sc:Nat):Int))];exact EC _)
 exact cC (aK (dO rfl (ac (aK (dO rfl (ac (aw rfl ‹_› (by first|rfl|assumption) rfl (av rfl (ai rfl (c2 (by lia) ht A.6 (av rfl (ai rfl (Uv (by lia) h A hp fun τ=>q τ)))))))))))))
theorem Rm (hM:180<=M) (h:aM σ (.obj g)=some (4,e,bt)) (A:vm bt k d z sc) (hn:0<=n) (ht:am σ t=some (.tup [.int n,.int 0])) (q:∀τ,Q (.bytes (mV k d z (n*10^sc))) (σ++τ)):(aj bH M).c 72 [.obj g,.obj t] σ Q:=by
 refine fuel hM fun N=>bZ (N:=N+179) (loc:=[(88,.val (.obj g)),(68,.val (.obj t))]) rfl rfl rfl ?_
 have a11:=A.7
 exact bJ (aA (aw rfl ‹_› (by first|rfl|assumption) rfl (ag (bw (ar rfl (aJ (cC (bj rfl (ai rfl (Vs (by lia) h A hn ht fun τ=>q τ))))))))))
def cL:List Int->Int->Int
 |[],m=>m
 |c::l,m=>cL l (10*m+c-48)
theorem wY {m:Int}:cL [] m=m:=rfl
theorem xF {c m:Int} {l:List Int}:cL (c::l) m=cL l (10*m+c-48):=rfl
theorem sV (h:bS c=false):48<=c/\c<=57:=by
 unfold bS at h
 simp only [eZ,Bool.not_eq_false',Dl,decide_eq_true_eq] at h
 exact h
theorem oj:∀{l:List Int} {m:Int},(∀c∈l,bS c=false)->0<=m->0<=cL l m:=by
 intro x0
 induction x0 with
 |nil=>
  intro _ _ h
  exact h
 |cons c l ihh=>
  intro m hl h
  have:=sV (hl c (.head _))
  exact ihh (fun x hx=>hl x (FZ _ hx)) (by lia)
theorem Nz {tg:List Nat} {b:List CS} {i:Nat} {Q:Fl->aP->al->Prop} (q:Q .next loc σ):(aj T (N+1)).f tg true (.enm [] i) b loc σ Q:=q
theorem IO {tg:List Nat} {b:List CS} {v:CV} {l:List CV} {i:Nat} {Q:Fl->aP->al->Prop} (q:fE loc σ tg [.int i,v] fun loc σ=>(aj T N).b b loc σ fun fl loc σ=>match fl with|.next=>(aj T N).f tg true (.enm l (i+1)) b loc σ Q|.ret v=>Q (.ret v) loc σ):(aj T (N+1)).f tg true (.enm (v::l) i) b loc σ Q:=q
theorem MG {tg:List Nat} {i:CE} {b:List CS} {ih:Ih} {Q:Fl->aP->al->Prop} (q:ih.e i loc σ fun v σ=>vZ v fun x=>ih.f tg true (.enm (x.map .int) 0) b loc σ Q):cN T ih (.fore tg i b) loc σ Q:=q
theorem Co {t:CE} {b:List CS} {ih:Ih} {Q:Fl->aP->al->Prop} (q:ih.w s t b loc σ Q):cN T ih (.whl s t b) loc σ Q:=q
theorem tw {t:CE} {b:List CS} {Q:Fl->aP->al->Prop} (q:(aj T N).t t loc σ fun r σ=>br s r ((aj T N).b b loc σ fun fl loc σ=>match fl with
  |.next=>(aj T N).w s t b loc σ Q
  |.ret v=>Q (.ret v) loc σ) (Q .next loc σ)):(aj T (N+1)).w s t b loc σ Q:=q
theorem Sl:∀(l:List Int) {N:Nat} {loc:aP} {m:Int} {i:Nat} {Q:Fl->aP->al->Prop},(∀c∈l,bS c=false)->lk loc 68=some (.val (.int m))->(∀k,lk loc 16≠some (.cell k))->(∀k,lk loc 112≠some (.cell k))->
  (∀loc',lk loc' 68=some (.val (.int (cL l m)))->Q .next loc' σ)->(aj bH (N+l.length+10)).f [16,112] true (.enm (l.map .int) i) m7 loc σ Q:=by
 intro x0
 induction x0 with
 |nil=>
  intro N loc m i Q hb h1 h2 h3 q
  exact Nz (N:=N+9) (q loc h1)
 |cons c l ihh=>
  intro N loc m i Q hb h1 h2 h3 q
  refine IO (N:=N+l.length+10) (gJ (bl h2 (gJ (bl (fun k=>by rw [ah,if_neg (by decide)];exact h3 k) (nV ?_)))))
  refine yt (N:=N+l.length+4) rfl (c:=c) (m:=m) (by rw [ah,if_pos rfl]) (by rw [ah,if_neg (by decide),ah,if_neg (by decide)];exact h1) (hb c (.head _)) ?_
  refine ihh (fun x hx=>hb x (.tail _ hx)) (by rw [ah,if_pos rfl]) (fun k=>by rw [ah,if_neg (by decide),ah,if_neg (by decide),ah,if_pos rfl];simp) (fun k=>by rw [ah,if_neg (by decide),ah,if_pos rfl];simp) q
theorem T4 (hM:l.length+30<=M) (hb:∀c∈l,bS c=false) (q:Q (.int (cL l 0)) σ):(aj bH M).c 68 [.bytes l] σ Q:=by
 refine fuel2 hM fun N=>bZ (N:=N+l.length+29) (loc:=[(84,.val (.bytes l))]) rfl rfl rfl (dw (ag (aT rfl (ao (MG (ae rfl ?_))))))
 rw [show N+l.length+28=N+18+l.length+10 from by lia]
 exact Sl l hb rfl (fun k h=>by cases h) (fun k h=>by cases h) fun loc' hl=>ao (dj (ae hl q))
def QD:List CS:=[.ite true (.nt (.cmp true (.cst (.int 48)) [(.le,.loc 123),(.le,.cst (.int 57))])) [.ret (some (.neg (.cst (.int 1))))] [],.asg 68 (.bin true .sub (.bin true .add (.bin true .mul (.cst (.int 10)) (.loc 68)) (.loc 123)) (.cst (.int 48)))]
def kT (l:List Int):Int:=cond (l.any bS) (-1) (cL l 0)
theorem S0:∀(l:List Int) {N:Nat} {loc:aP} {m:Int} {Q:Fl->aP->al->Prop},lk loc 68=some (.val (.int m))->(∀k,lk loc 123≠some (.cell k))->
  (∀loc',l.any bS=false->lk loc' 68=some (.val (.int (cL l m)))->Q .next loc' σ)->(∀loc',l.any bS=true->Q (.ret (.int (-1))) loc' σ)->(aj bH (N+l.length+10)).f [123] false (.seq (l.map .int)) QD loc σ Q:=by
 intro x0
 induction x0 with
 |nil=>
  intro N loc m Q h1 h2 q q2
  exact kQ (N:=N+9) (q loc rfl h1)
 |cons c l ihh=>
  intro N loc m Q h1 h2 q q2
  refine fQ (N:=N+l.length+10) (cw (bl h2 ?_))
  have e1:lk (cu loc 123 (.val (.int c))) 123=some (.val (.int c)):=by rw [ah,if_pos rfl]
  have e2:lk (cu loc 123 (.val (.int c))) 68=some (.val (.int m)):=by rw [ah,if_neg (by decide)];exact h1
  refine ao (kh (lT (MI (ag (ae e1 (oU ?_))))))
  cases hb:bS c with
  |true=>
   have fin:(aj bH (N+l.length+9)).b [.ret (some (.neg (.cst (.int 1))))] (cu loc 123 (.val (.int c))) σ fun fl loc σ=>match fl with
     |.next=>(aj bH (N+l.length+9+1)).b [.asg 68 (.bin true .sub (.bin true .add (.bin true .mul (.cst (.int 10)) (.loc 68)) (.loc 123)) (.cst (.int 48)))] loc σ fun fl loc σ=>match fl with
      |.next=>(aj bH (N+l.length+10)).f [123] false (.seq (l.map .int)) QD loc σ Q
      |.ret v=>Q (.ret v) loc σ
     |.ret v=>Q (.ret v) loc σ:=ao (dj (lE (ag (q2 _ (by rw [EI,hb];rfl)))))
   unfold bS at hb
   refine si (fun h=>ag (oU ?_)) fun h=>aI rfl fin
   rw [h] at hb
   refine aI hb fin
  |false=>
   have g:=sV hb
   refine aI (ax g.1) (ag (oU (ar (by rw [ax g.2];rfl) (aJ ?_))))
   refine dw (aH (aH (bX rfl (ae ‹_› (eV (by rfl) (ae ‹_› (cn (ag (dA (gH e2 (aJ ?_)))))))))))
   refine ihh (by rw [ah,if_pos rfl]) (fun k=>by rw [ah,if_neg (by decide),ah,if_pos rfl];simp) (fun loc' ha hl=>q loc' (by rw [EI,hb];exact ha) hl) fun loc' ha=>q2 loc' (by rw [EI,ha,GN])
theorem To (hM:l.length+30<=M) (q:Q (.int (kT l)) σ):(aj bH M).c 83 [.bytes l] σ Q:=by
 refine fuel2 hM fun N=>bZ (N:=N+l.length+29) (loc:=[(84,.val (.bytes l))]) rfl rfl rfl (dw (ag (aT rfl (ao (jX (ae rfl ?_))))))
 rw [show N+l.length+28=N+18+l.length+10 from by lia]
 unfold kT at q
 refine S0 l rfl (fun k h=>by cases h) (fun loc' ha hl=>?_) fun loc' ha=>?_
 ·rw [ha] at q
  exact ao (dj (ae hl q))
 ·rw [ha] at q
  exact q
theorem c1 (hM:20<=M) (q:Q (.obj σ.length) (σ++[.tup [.int u,.int 0]])):(aj bH M).c 1 [.int u] σ Q:=by
 exact fuel hM fun N=>bZ (N:=N+19) (loc:=[(3,.val (.int u)),(2,.val (.int 0))]) rfl rfl rfl (jB rfl rfl (kC (ar rfl (aJ (ao (Co (tw (gi (aA (ae rfl (ag (jv (ar rfl (ar rfl (ao (dj (fh (ac (ae rfl (ac (ae rfl (aL q))))))))))))))))))))))
theorem RI (h:ky c=true) (q:Q (.bool true) σ):Sg [.str jn,.str c] σ Q:=by
 show cond (aF jn jn&&ky c) (Q (.bool true) σ) False
 rw [h];exact q
theorem TC (h:Dn l.length 100=true) (q:Q (.obj σ.length) (σ++[.inst 4 (σ.length+1),.attrs (jq l.length)])):SH [.bytes l] σ Q:=by
 show cond (Dn l.length 100) (Q (.obj σ.length) (σ++[.inst 4 (σ.length+1),.attrs (jq l.length)])) False
 rw [h];exact q
theorem vB {c:List Nat} {Q:Bool->Prop} (h:c=iU\/c=jp) (q:Q true):dn false bH σ .isin (.str c) (.top 720) Q:=by
 rcases h with rfl|rfl<;>exact q
theorem pS {c:List Nat} {Q:Bool->Prop} (h:fm c [iU,jp]=false) (h2:∀a,c≠[a]) (q:Q false):dn false bH σ .isin (.str c) (.top 720) Q:=(show Q (fm c [iU,jp]) by rw [h];exact q)
theorem mn {c:List Nat} {k:Nat} {l:List CV} {r:List (List Nat)} {Q:Bool->Prop} (h0:am σ k=some (.tup l)) (h1:fx l=some r) (q:Q (fm c r)):dn s T σ .isin (.str c) (.obj k) Q:=xo h0 (ly h1 q)
theorem Cj {a b:Nat} {l m:List CV} {x y:List (List Nat)} {Q:Bool->Prop} (h1:am σ a=some (.tup l)) (h2:am σ b=some (.tup m)) (h3:fx l=some x) (h4:fx m=some y) (q:Q (jw x y)):dn s T σ .eq (.obj a) (.obj b) Q:=xo h1 (xo h2 (ly h3 (ly h4 q)))
theorem Mw {o lo hi e:CE} {ih:Ih} {Q:Fl->aP->al->Prop} (q:ih.e e loc σ fun v σ=>ih.e o loc σ fun o σ=>ih.e lo loc σ fun a σ=>ih.e hi loc σ fun b σ=>mI σ o a b v fun σ=>Q .next loc σ):cN T ih (.asgL o lo hi e) loc σ Q:=q
theorem PX {b:List CS} {ih:Ih} {Q:Fl->aP->al->Prop} (q:ih.b b loc σ Q):cN T ih (.tri b) loc σ Q:=q
theorem PG {k:Nat} {l x:List Int} {a b:Int} {Q:al->Prop} (h0:am σ k=some (.barr l)) (h:(dk 0 a&&dk a b&&dk b l.length&&Dn l.length 1000&&Dn x.length 1000)=true) (q:Q (aU σ k (.barr (l.take a.toNat++x++l.drop b.toNat)))):mI σ (.obj k) (.int a) (.int b) (.bytes x) Q:=Be h0 ⟨h,q⟩
theorem BE {x:List Int} {Q:Bool->Prop} (q:Q true):dn s T σ .isnot (.bytes x) .none Q:=q
theorem OI (h:Dn x.length 100000=true) (q:Q (.obj σ.length) (σ++[.barr x])):cQ s T σ .bytearray [.bytes x] Q:=bf h q
theorem m8 (h0:am σ i=some (.barr l)) (h:Dn l.length 100000=true) (q:Q (.bytes l) σ):cQ s T σ .bytes [.obj i] Q:=w7 h0 (bf h q)
theorem TU (hM:l.length+60<=M) (hi:aM σ (.obj i)=some (4,d,at_)) (ha:lk at_ 11=some (.str jn)) (hb:∀c∈l,bS c=false) (q:Q (.obj σ.length) (σ++[.tup [.int (cL l 0),.int 0]])):(aj bH M).c 69 [.obj i,.bytes l] σ Q:=by
 exact fuel2 hM fun N=>bZ (N:=N+l.length+59) (loc:=[(88,.val (.obj i)),(84,.val (.bytes l))]) rfl rfl rfl (bJ (aA (aw rfl ‹_› (by first|rfl|assumption) rfl (ag (bw (ar rfl (aJ (bJ (aA (aw rfl ‹_› (by first|rfl|assumption) rfl (ag (bw (ar rfl (aJ (cC (aK (ac (bj rfl (ai rfl (T4 (by lia) hb (av rfl (ai rfl (c1 (by lia) q)))))))))))))))))))))))
inductive rL (g:Nat) (bt:List (Nat×CV)) (St:al->Prop) (F:Int->List Int):Prop where
 |mk (mono:∀σ τ,St σ->St (σ++τ)) (inst:∀σ,St σ->∃e,aM σ (.obj g)=some (4,e,bt)) (cat:∃c,lk bt 11=some (.str c)/\(c=iU\/c=jp)) (nf:∀{M:Nat} {σ:al} {n:Int} {t:Nat} {Q:bu},200<=M->St σ->0<=n->n<10^18->am σ t=some (.tup [.int n,.int 0])->(∀τ,Q (.bytes (F n)) (σ++τ))->(aj bH M).c 72 [.obj g,.obj t] σ Q)
theorem S8 {M i d j:Nat} {at_:List (Nat×CV)} {St:al->Prop} {F:Int->List Int} {l:List Int} (hM:l.length+220<=M) (hi:aM σ (.obj i)=some (4,d,at_)) (ha:lk at_ 11=some (.str jn)) (hb:∀c∈l,bS c=false) (hw:cL l 0<10^18) (G:rL j bt St F) (hs:St σ) (q:∀τ,Q (.bytes (F (cL l 0))) (σ++τ)):(aj bH M).c 73 [.obj i,.bytes l,.obj j] σ Q:=by
 refine fuel2 hM fun N=>aG (G.2 _ hs) fun e hj=>ay G.3 fun c hc hc2=>bZ (N:=N+l.length+219) (loc:=[(110,.val (.obj i)),(84,.val (.bytes l)),(109,.val (.obj j))]) rfl rfl rfl (bJ (lT (gM (aK (ac (aw rfl ‹_› (by first|rfl|assumption) rfl (ac (aw rfl ‹_› (by first|rfl|assumption) rfl (av rfl ?_)))))))))
 refine aY rfl (RI (by rcases hc2 with rfl|rfl<;>decide:ky c=true) ?_)
 refine ar rfl (aJ (bJ (iJ (aA (aw rfl ‹_› (by first|rfl|assumption) rfl (ag (bw (ar rfl (iJ (aA (aw rfl ‹_› (by first|rfl|assumption) rfl (ag (bw ?_)))))))))))))
 refine ar (by rcases hc2 with rfl|rfl<;>rfl) ?_
 refine oR (ar rfl (aJ (bJ (aA (aw rfl ‹_› (by first|rfl|assumption) rfl (fk rfl (vB hc2 (aI rfl (cC (aK (dO rfl (ac (bj rfl (ai rfl (TU (by lia) hi ha hb (av rfl (ai rfl (G.4 (by lia) (G.1 _ _ hs) (oj hb (by lia)) hw aE fun τ=>?_))))))))))))))))))
 rw [Di]
 exact q _
theorem RD {M j o:Nat} {St:al->Prop} {F:Int->List Int} (hM:220<=M) (G:rL j bt St F) (hs:St σ) (ho:am σ o=some (.tup [.str [102,105,103,117,114,101],.str [90,69,82,79]])) (q:∀τ,Q (.bytes (F 0)) (σ++τ)):(aj bH M).c 75 [.obj o,.obj j] σ Q:=by
 refine fuel hM fun N=>bZ (N:=N+219) (loc:=[(114,.val (.obj o)),(88,.val (.obj j))]) rfl rfl rfl (bJ (jd rfl (fh (av rfl (Cj (au ho) aE rfl rfl (aI rfl (cC (aK (dO rfl (ac (bj rfl (ai rfl (c1 (by lia) (av rfl (ai rfl (G.4 (by lia) (G.1 _ _ (G.1 _ _ hs)) (by lia) (by decide) aE fun τ=>?_))))))))))))))))
 rw [Di,Di]
 exact q _
theorem Rn {M j o:Nat} {St:al->Prop} {F:Int->List Int} (hM:235<=M) (G:rL j bt St F) (hs:St σ) (ho:am σ o=some (.tup [.str [102,105,103,117,114,101],.str [90,69,82,79]])) (q:∀τ,Q (.bytes (F 0)) (σ++τ)):(aj bH M).c 76 [.obj o,.obj j] σ Q:=by
 exact fuel hM fun N=>aG (G.2 _ hs) fun e hj=>ay G.3 fun c hc hc2=>bZ (N:=N+234) (loc:=[(114,.val (.obj o)),(88,.val (.obj j))]) rfl rfl rfl (bJ (aA (aw rfl ‹_› (by first|rfl|assumption) rfl (fk rfl (vB hc2 (aI rfl (cC (bj rfl (ai rfl (RD (by lia) G hs ho fun τ=>q τ))))))))))
theorem Ou {M j:Nat} {St:al->Prop} {F:Int->List Int} {l:List Int} (hM:260<=M) (hl:l.length<=20) (hb:∀c∈l,bS c=false) (hw:cL l 0<10^18) (G:rL j bt St F) (hs:St σ) (q:∀τ,Q (.bytes (F (cL l 0))) (σ++τ)):(aj bH M).c 77 [.bytes l,.obj j] σ Q:=by
 refine fuel hM fun N=>aG (G.2 _ hs) fun e hj=>ay G.3 fun c hc hc2=>bZ (N:=N+259) (loc:=[(84,.val (.bytes l)),(88,.val (.obj j))]) rfl rfl rfl ?_
 show (aj bH (N+259)).b QI _ _ _
 cases l with
 |nil=>
  refine bJ (aA (bh rfl (fw rfl (ag (jv (ar rfl (aJ (bJ (aA (aw rfl ‹_› (by first|rfl|assumption) rfl (fh (av rfl (mn aE rfl ?_)))))))))))))
  refine aI (by rcases hc2 with rfl|rfl<;>rfl) ?_
  refine cC (aK (ac (fh (av rfl (av rfl (ai rfl (Rn (by lia) G (G.1 _ _ (G.1 _ _ hs)) aE fun τ=>?_)))))))
  rw [Di,Di]
  exact q _
 |cons a l=>
  refine bJ (aA (bh rfl (fw (Dh (by lia)) (ag (jv (aI (bk (by simp)) (cC (aK (ac (bj rfl (aY rfl (TC (Dh (by lia)) (av rfl (ai rfl (S8 (i:=σ.length) (d:=σ.length+1) (at_:=jq (a::l).length) (by lia) ?_ rfl hb hw G (G.1 _ _ hs) fun τ=>?_)))))))))))))))
  ·have e1:am (σ++[.inst 4 (σ.length+1),.attrs (jq (a::l).length)]) (σ.length+1)=some (.attrs (jq (a::l).length)):=by rw [bx];rfl
   have e2:am (σ++[.inst 4 (σ.length+1),.attrs (jq (a::l).length)]) σ.length=some (.inst 4 (σ.length+1)):=by rw [aS];rfl
   unfold aM
   simp only [e1,e2]
  ·rw [Di]
   exact q _
inductive Tl (g:Nat) (bt:List (Nat×CV)) (St:al->Prop) (l D:List Int) (sz:Nat):Prop where
 |mk (mono:∀σ τ,St σ->St (σ++τ)) (inst:∀σ,St σ->∃e,aM σ (.obj g)=some (4,e,bt)) (size:lk bt 5=some (.int sz)) (sz2:sz<=100) (len:D.length=sz) (call:∀{M:Nat} {σ:al} {Q:bu},270<=M->St σ->(∀τ,Q (.bytes D) (σ++τ))->(aj bH M).c 77 [.bytes l,.obj g] σ Q)
theorem Bc {sz:Nat} {D:List Int}:(cD sz).take 2++D++(cD sz).drop (2+sz)=[60,60]++D++[62,62]:=by
 have h2:(cD sz).drop (2+sz)=[62,62]:=by
  rw [Lx,Hn (by simp [cZ];lia)]
  rw [Ds,cZ]
  rw [show 2+sz-(([60,60]:List Int).length+(sz:Int).toNat*([35]:List Int).length)=0 from by simp]
  rfl
 rw [(show (cD sz).take 2=[60,60] from rfl),h2]
theorem Q9 {M j t sz:Nat} {St:al->Prop} {l D:List Int} {σ0 τ0:al} (hM:290<=M) (G:Tl j bt St l D sz) (hs:St σ0) (ht:am (σ0++.barr (cD sz)::τ0) t=some (.tup [.obj σ0.length,.int 2,.obj j])) (q:∀τ,Q .none (σ0++.barr ([60,60]++D++[62,62])::τ)):
  (aj bH M).c 78 [.obj t,.bytes l] (σ0++.barr (cD sz)::τ0) Q:=by
 refine fuel hM fun N=>?_
 have hsz:=G.3
 have hlen:=G.5
 have hs2:=G.4
 refine bZ (N:=N+289) (loc:=[(75,.val (.obj t)),(84,.val (.bytes l))]) rfl rfl rfl (ao (jM (ae rfl ?_)))
 refine fY (by unfold da;simp only [ht]:da (σ0++.barr (cD sz)::τ0) (.obj t)=some [.obj σ0.length,.int 2,.obj j]) ?_
 refine gJ (aT rfl (gJ (aT rfl (gJ (aT rfl (nV (ao (Mw (bj rfl (ai rfl (G.6 (by lia) (G.1 _ _ hs) fun τ=>aG (G.2 _ (G.1 _ τ (G.1 _ (.barr (cD sz)::τ0) hs))) fun e hj=>ae rfl (ae rfl (bX rfl (aw rfl ‹_› (by first|rfl|assumption) rfl (cn ?_)))))))))))))))
 refine PG (l:=cD sz) (by rw [Di,aS];rfl) (by have:=kW sz;simp only [eZ];simp;lia) ?_
 walk_at "c"
 rw [Di,bU]
 rw [show ((2:Int)+(sz:Int)).toNat=2+sz from by lia,Bc]
 exact q _
theorem lm:qZ l l=true:=kc.mpr rfl
theorem KT {M j sz:Nat} {St:al->Prop} {l D:List Int} (hM:310<=M) (G:Tl j bt St l D sz) (hs:St σ) (q:∀τ,Q (.bool true) (σ++τ)):(aj bH M).c 88 [.obj j,.bytes l,.bytes D] σ Q:=by
 refine fuel hM fun N=>?_
 have hsz:=G.3
 have hlen:=G.5
 have hs2:=G.4
 refine aG (G.2 _ hs) fun e hj=>?_
 have hml:=kW sz
 refine bZ (N:=N+309) (loc:=[(88,.val (.obj j)),(84,.val (.bytes l)),(130,.val (.bytes D))]) rfl rfl rfl (dw (be (ac (aH (bX rfl (bX rfl (aw rfl ‹_› (by first|rfl|assumption) rfl ?_)))))))
 refine jO (by simp only [eZ];simp;lia) ?_
 refine dR (Dh (by rw [cZ];simp;lia)) ?_
 walk_at "a"
 refine dR (Dh (by rw [Ds,cZ];simp;lia)) ?_
 walk_at "q"
 refine OI (Dh (by show (cD sz).length<=_;lia)) ?_
 refine aT rfl (dw (bh rfl ?_))
 refine m8 aE (Dh (by show (cD sz).length<=_;lia)) ?_
 walk_at "p"
 show (aj bH _).b _ [(88,.val (.obj j)),(84,.val (.bytes l)),(130,.val (.bytes D)),(115,.val (.obj σ.length)),(129,.val (.bytes (cD sz)))] (σ++[.barr (cD sz)]) _
 refine ao (PX (lV (aK (ac (fh (av rfl (av rfl ?_)))))))
 rw [Di]
 refine ai rfl (Q9 (by lia) G hs (by rw [Ds,bx];rfl) fun τ=>?_)
 refine aG (G.2 _ (G.1 _ (.barr ([60,60]++D++[62,62])::τ) hs)) fun e2 hj2=>aJ (cC (pn (mN rfl rfl (BE (aI rfl (pn (jC (bh rfl (fw (Dh (by lia)) (aw rfl ‹_› (by first|rfl|assumption) rfl (uR ?_)))))))))))
 refine aI (by rw [hlen,fR];simp) ?_
 refine pn (jC (bh rfl ?_))
 refine m8 (l:=[60,60]++D++[62,62]) (by rw [aS];rfl) (Dh (by simp;lia)) ?_
 refine aH (dU rfl rfl ?_)
 refine dR (Dh (by simp;lia)) ?_
 walk_at "a"
 refine dR (Dh (by simp;lia)) ?_
 refine wX (aI lm (tn (jC (bj rfl (ai rfl (G.6 (by lia) (G.1 _ _ hs) fun τ2=>ae rfl (wX ?_)))))))
 rw [lm,Di]
 exact q _
theorem xV {b:Nat} (hb:0<b):∀{n:Nat} {u:Nat} {i:Nat},i<n->(gI b u n)[i]?=some ((u/b^i%b:Nat):Int):=by
 intro x0
 induction x0 with
 |zero=>
  intro _ _ h
  exact absurd h (Hz _)
 |succ n ihh=>
  intro u y4
  cases y4 with
  |zero=>
   intro _
   rw [jJ,List.getElem?_cons_zero,Nat.pow_zero,Nat.div_one]
   rw [JL _ (EC _)];rfl
  |succ i=>
   intro h
   rw [jJ,Hb]
   rw [(by rw [GT _ (EC _)];rfl:(u:Int).fdiv b=((u/b:Nat):Int)),ihh (by lia),Nat.pow_succ,Nat.mul_comm,←Nat.div_div_eq_div_mul]
def rE (b u d:Nat):List Int:=(F7 d).map fun i=>((u/b^(d-1-i)%b:Nat):Int)
theorem vl {b:Nat} (hb:0<b) {u d:Nat}:(gI b u d).reverse=rE b u d:=by
 refine Gu fun i=>?_
 by_cases h:i<d
 ·rw [List.getElem?_reverse (by rw [eI];exact h),eI,xV hb (DY (Fd _ _) (Nat.sub_one_lt_of_lt h)),rE,DH,List.getElem?_range h]
  rfl
 ·rw [Ed (by rw [GI,eI];lia),Ed (by rw [rE,Do,List.length_range];lia)]
theorem wW {u d:Nat}:fX u d=rE 10 u d:=vl (b:=10) (by decide)
theorem ze {u d:Nat}:lQ u d=rE 256 u d:=vl (b:=256) (by decide)
theorem o9 {b p:Nat} (hb:b=10/\p<=18\/b=256/\p<=7):eM ((b:Int)^p)=true:=by
 have h1:b^p<18446744073709551616:=by
  rcases hb with ⟨rfl,h⟩|⟨rfl,h⟩
  ·exact DY (EM (by decide) h) (by decide+kernel)
  ·exact DY (EM (by decide) h) (by decide+kernel)
 rw [(by rw [ED]:((b:Int)^p)=((b^p:Nat):Int))]
 unfold eM
 rw [Lc,IG]
 exact h1
theorem uq {b p:Nat} (hb:0<b):((b:Int)^p)≠0:=by
 have:=F8 (n:=p) hb
 intro e
 have e:((b^p:Nat):Int)=0:=by rw [ED];exact e
 lia
theorem qP {d i:Nat} (h:i<d):((d:Int)-1+-1*(i:Int))=((d-1-i:Nat):Int):=by
 rw [Int.neg_mul,Int.one_mul,GF (Nat.le_sub_one_of_lt h),GF (DY (Ep i) h)]
 rfl
theorem o4 {M c x d b u k0:Nat} {elt:CE} (hM:d+30<=M) (hd:1<=d) (hd2:b=10/\d<=19\/b=256/\d<=8) (lv:Nat) (hlv:lv=12\/lv=126) (hx:x=81) (hl:lk loc lv=some (.val (.int d))) (hc:lk loc c=some (.cell k0)) (hk:am σ k0=some (.cell (some (.int u)))) (hcx:c≠81) (f:Int->Int)
  (hc':lk (loc.filter fun p=>!([81].any fun y=>Dy y p.1)) c=some (.cell k0)) (hx':∀k,lk (loc.filter fun p=>!([81].any fun y=>Dy y p.1)) 81≠some (.cell k))
  (helt:∀{K:Nat} {loc':aP} {σ':al} {p:Nat} {Q':bu},p<d->lk loc' 81=some (.val (.int p))->lk loc' c=some (.cell k0)->am σ' k0=some (.cell (some (.int u)))->Q' (.int (f ((u/b^p%b:Nat):Int))) σ'->(aj bH (K+20)).e elt loc' σ' Q')
  (q:∀τ,am (σ++τ) (σ.length+1)=some (.list (((rE b u d).map f).map .int))->Q (.obj (σ.length+1)) (σ++τ)):
  (aj bH M).e (.comp false elt [81] false (.calB true .range [.bin true .sub (.loc lv) (.cst (.int 1)),.neg (.cst (.int 1)),.neg (.cst (.int 1))]) none) loc σ Q:=by
 refine fuel2 hM fun N=>?_
 have hd9:d<=19:=by lia
 refine f9 (be (ac (aH (ae hl (ag (dA (ac (lE (ag (ac (lE (ag (aL ?_)))))))))))))
 have okr:rT ((d:Int)-1) (-1) (-1)=true:=by
  unfold rT
  simp only [eZ,gO,fR]
  simp;lia
 have hrn:hV ((d:Int)-1) (-1) (-1)=d:=by
  unfold hV
  rw [cJ (by decide),cond_false,bk (by lia),cond_true,show (-(-1:Int))=1 from rfl,Int.ediv_one]
  lia
 refine ya (by
  have:=okr
  unfold rT at this
  exact this) (fc (uK okr) ?_)
 rw [hrn,jL]
 refine pA (fun a=>f ((u/b^a.toNat%b:Nat):Int)) (by simp;lia) hx' (by simp;lia) (by rw [aS];rfl) ?_ fun v hv1 K loc' σ' Q' hy hx2 hj q'=>?_
 ·rw [bU,Di,show (σ++[CO.rng ((d:Int)-1) (-1) (-1)]).length=σ.length+1 from by simp]
  refine q _ ?_
  rw [bx]
  have e:(((F7 d).map fun (i:Nat)=>((d:Int)-1+-1*(i:Int))).map fun a=>f ((u/b^a.toNat%b:Nat):Int))=(rE b u d).map f:=by
   rw [EJ,rE,EJ]
   refine GH fun i hi=>?_
   have hi:=F5.mp hi
   simp only [HI]
   have e:((d:Int)-1+-1*(i:Int)).toNat=d-1-i:=by rw [qP hi,DK]
   rw [e]
  rw [e];rfl
 ·refine ay (DV.mp hv1) fun i hi zz1=>?_
  subst zz1
  have hi:=F5.mp hi
  have e0:=qP hi
  rw [e0] at hx2 q'
  rw [DK] at q'
  refine helt (by lia) hx2 (by rw [hy c hcx];exact hc') ?_ q'
  rw [hj k0 (by have:=gw hk;simp;lia)]
  exact au (au hk)
theorem nH {a b:Nat}:((a:Int).fdiv b)=((a/b:Nat):Int):=by rw [GT _ (EC _)];rfl
theorem ik {a b:Nat}:((a:Int).fmod b)=((a%b:Nat):Int):=by rw [JL _ (EC _)];rfl
theorem QX {M d u:Nat} (hM:d+60<=M) (hd:1<=d) (hd2:d<=19) (q:∀τ,Q (.bytes (bq u d)) (σ++τ)):(aj bH M).c 82 [.int u,.int d] σ Q:=by
 refine fuel2 hM fun N=>nc (N:=N+d+59) (loc:=[(68,.val (.int u)),(12,.val (.int d))]) (loc':=[(68,.cell σ.length),(12,.val (.int d))]) (σ':=σ++[.cell (some (.int u))]) rfl rfl rfl (ao (dj (be (ac (o4 (b:=10) (u:=u) (d:=d) (c:=68) (k0:=σ.length) (x:=81) (f:=(48+·)) (by lia) hd (.inl ⟨rfl,hd2⟩) 12 (.inl rfl) rfl rfl rfl aE (by decide) rfl (fun k h=>by cases h) (fun {K loc' σ' p Q'} hp h1 h2 h3 q'=>?_) fun τ hk=>?_)))))
 ·refine aH (ag (aH (aH (eQ h2 h3 (aH (ag (ae h1 ?_)))))))
  refine g8 (by rw [ax (by lia),ax (by lia)];rfl) ?_
  refine iq (by rw [(o9 (b:=10) (.inl ⟨rfl,by lia⟩)),eG (uq (b:=10) (by decide))];rfl) (ag (eN (by rfl) (cn ?_)))
  rw [(by rw [DK,ED];rfl:((10:Int)^((p:Int)).toNat)=((10^p:Nat):Int)),nH,show ((10:Int))=((10:Nat):Int) from rfl,ik]
  exact q'
 ·rw [←wW] at hk
  refine aL (dK hk cK (by rw [Dl];exact ⟨fb fun x hx=>by have:=mM x hx;lia,Dh (by rw [Do,dH];lia)⟩) ?_)
  rw [Di]
  exact q _
def dr (m s d:Nat):Nat:=m*10^s%10^d
theorem Ty {p:Nat}:((10:Int)^((p:Int)).toNat)=((10^p:Nat):Int):=by rw [DK,ED];rfl
theorem nu:((10:Int)^p)=((10^p:Nat):Int):=by rw [ED];rfl
theorem O5:((10^p:Nat):Int)≠0:=by
 have:=F8 (n:=p) (show 0<10 by decide)
 lia
theorem tj:dF 0 n l=l.take n:=rfl
theorem xT {u d:Nat} (hd:1<=d):(bq u d).take (d-1)++[j7.getD (u%10) 0]=j9 u d:=by
 unfold j9
 have e:(bq u d).length=d:=bV
 have e2:(u:Int).fmod 10=((u%10:Nat):Int):=ik (b:=10)
 rw [e2,DK]
 rw [List.set_eq_take_append_cons_drop,if_pos (by rw [e];exact Nat.sub_one_lt (Gb hd)),Hn (by rw [e];exact Eg (Et hd).symm)]
theorem pH (h:(dk (-1000000) b&&dk b 1000000&&Dn x.length 100000)=true) (q:Q (.bytes (dF 0 (cE x.length b) x)) σ):bD s σ (.bytes x) .none (.int b) .none Q:=by
 unfold bD bD.cut bD.okB
 exact bf (by simpa using h) q
theorem NE (h:(dk (-1000000) a&&dk a 1000000&&Dn x.length 100000)=true) (q:Q (.bytes (dF (cE x.length a) x.length x)) σ):bD s σ (.bytes x) (.int a) .none .none Q:=by
 unfold bD bD.cut bD.okB
 exact bf (by simpa using h) q
theorem Mc (h:((dk (-1000000) a&&dk a 1000000)&&(dk (-1000000) b&&dk b 1000000)&&Dn x.length 100000)=true) (q:Q (.bytes (dF (cE x.length a) (cE x.length b) x)) σ):bD s σ (.bytes x) (.int a) (.int b) .none Q:=by
 unfold bD bD.cut bD.okB
 exact bf (by simpa using h) q
theorem jj {x:List Int} {n:Nat} (h:n<=1000000) (k:x.length<=100000) (q:Q (.bytes (dF 0 (cE x.length n) x)) σ):bD s σ (.bytes x) .none (.int n) .none Q:=pH (by rw [ax (wm rfl),ax (EK.mpr h),Dh k];rfl) q
theorem ml {x:List Int} {n:Nat} (h:n<=1000000) (k:x.length<=100000) (q:Q (.bytes (dF (cE x.length n) x.length x)) σ):bD s σ (.bytes x) (.int n) .none .none Q:=NE (by rw [ax (wm rfl),ax (EK.mpr h),Dh k];rfl) q
theorem xD {a b:Nat} (ha:a<=1000) (hb:b<=1000):(dk (-1000) ((a:Int)-b)&&dk ((a:Int)-b) 1000)=true:=by rw [ax (by lia),ax (by lia)];rfl
theorem pT {x:List Int} {a b:Nat} (h:(E1 0 x.length&&Dn x.length 16)=true) (ha:a<=1000) (hb:b<=1000) (q:Q (.bytes (lZ ((a:Int)-b).toNat x)) σ):dJ s T σ .mul (.bytes x) (.int ((a:Int)-b)) Q:=jO (by rw [h,xD ha hb]) q
theorem Bi {a b:Nat}:cond (eB ((a:Int)-b) 0) 0 ((a:Int)-b)=((a-b:Nat):Int):=by
 by_cases h:a<b
 ·rw [bk (Int.sub_neg_of_lt (Ez.mpr h)),Ff (EP h)];rfl
 ·rw [cJ (HR (EK.mpr (GD.mp h))),GF (GD.mp h)];rfl
theorem qH {k:List Nat} {m sc d:Nat} {K:Nat} {l:List CS} {Q:Fl->aP->al->Prop} (hs:sc<=18) (hd:d<=18) (q:(aj bH (K+30)).b l [(124,.val (.str k)),(12,.val (.int d)),(2,.val (.int sc)),(68,.val (.int m)),(105,.cell σ.length),(3,.cell (σ.length+1))] (σ++[.cell none,.cell (some (.int (dr m sc d)))]) Q):
  (aj bH (K+30)).b ([.asg 3 (.bin true .mod (.bin true .mul (.loc 68) (.bin true .pow (.cst (.int 10)) (.loc 2))) (.bin true .pow (.cst (.int 10)) (.loc 12)))]++l) [(124,.val (.str k)),(12,.val (.int d)),(2,.val (.int sc)),(68,.val (.int m)),(105,.cell σ.length),(3,.cell (σ.length+1))] (σ++[.cell none,.cell none]) Q:=by
 refine ao (iB (aH (aH (ae rfl (aH (ag (ae rfl (g8 (by rw [ax (by lia),ax (by lia)];rfl) ?_))))))))
 rw [Ty]
 refine eV (by rw [show eM ((10^sc:Nat):Int)=true from by rw [←nu];exact lL hs,GN]) ?_
 refine aH (ag (ae rfl (g8 (by rw [ax (by lia),ax (by lia)];rfl) ?_)))
 rw [Ty]
 refine eN (by rw [eG O5];rfl) ?_
 refine l5 (k:=σ.length+1) (w:=none) rfl (by rw [bx];rfl) ?_
 rw [fj]
 rw [show (m:Int)*((10^sc:Nat):Int)=((m*10^sc:Nat):Int) from by rw [Int.natCast_mul],ik]
 exact q
theorem mL:Mine.rD [105,3] [(124,.val (.str k)),(12,.val (.int d)),(2,.val (.int sc)),(68,.val (.int m))] σ=([(124,.val (.str k)),(12,.val (.int d)),(2,.val (.int sc)),(68,.val (.int m)),(105,.cell σ.length),(3,.cell (σ.length+1))],σ++[.cell none,.cell none]):=by
 show (([(124,.val (.str k)),(12,.val (.int d)),(2,.val (.int sc)),(68,.val (.int m)),(105,.cell σ.length),(3,.cell (σ++[CO.cell none]).length)]:aP),σ++[CO.cell none]++[CO.cell none])=_
 rw [Ds,Di]
 rfl
theorem Rv {M m sc d:Nat} (hM:140<=M) (hs:sc<=18) (hd1:1<=d) (hd:d<=18) (q:∀τ,Q (.bytes (bq (dr m sc d) d)) (σ++τ)):(aj bH M).c 85 [.str gX,.int d,.int sc,.int m] σ Q:=by
 refine fuel hM fun N=>?_
 refine nc (N:=N+139) (loc:=[(124,.val (.str gX)),(12,.val (.int d)),(2,.val (.int sc)),(68,.val (.int m))]) (loc':=[(124,.val (.str gX)),(12,.val (.int d)),(2,.val (.int sc)),(68,.val (.int m)),(105,.cell σ.length),(3,.cell (σ.length+1))]) (σ':=σ++[.cell none,.cell none]) rfl rfl mL ?_
 refine qH (K:=N+109) hs hd ?_
 refine wV rfl rfl rfl ?_
 refine cC ?_
 walk_at "gb"
 refine eQ rfl (by rw [bx];rfl) ?_
 walk_at "q"
 refine ai rfl (QX (by lia) hd1 (by lia) fun τ=>?_)
 rw [Di]
 exact q _
theorem Sw {M m sc d:Nat} (hM:140<=M) (hs:sc<=18) (hd1:1<=d) (hd:d<=18) (q:∀τ,Q (.bytes (j9 (dr m sc d) d)) (σ++τ)):(aj bH M).c 85 [.str fz,.int d,.int sc,.int m] σ Q:=by
 refine fuel hM fun N=>?_
 refine nc (N:=N+139) (loc:=[(124,.val (.str fz)),(12,.val (.int d)),(2,.val (.int sc)),(68,.val (.int m))]) (loc':=[(124,.val (.str fz)),(12,.val (.int d)),(2,.val (.int sc)),(68,.val (.int m)),(105,.cell σ.length),(3,.cell (σ.length+1))]) (σ':=σ++[.cell none,.cell none]) rfl rfl mL ?_
 refine qH (K:=N+109) hs hd ?_
 have hlt:dr m sc d%10<10:=Nat.mod_lt _ (by decide)
 walk_at "w"
 refine wV rfl rfl rfl ?_
 refine cC ?_
 walk_at "d"
 refine eP ?_
 walk_at "gb"
 refine eQ rfl (by rw [bx];rfl) ?_
 walk_at "q"
 refine ai rfl (QX (by lia) hd1 (by lia) fun τ=>?_)
 refine bn ?_
 refine db ?_
 refine lE ?_
 walk_at "a"
 refine bn ?_
 refine pH (by rw [bV,Dh (by lia)];rfl) ?_
 refine eP ?_
 walk_at "a"
 refine db ?_
 walk_at "d"
 refine eQ rfl (by rw [Di,bx];rfl) ?_
 walk_at "a"
 refine eN (by rfl) ?_
 refine db ?_
 walk_at "dd"
 refine eQ rfl (by rw [Di,bx];rfl) ?_
 walk_at "a"
 refine eN (by rfl) ?_
 walk_at "a"
 refine cn ?_
 refine bn ?_
 rw [(ik (b:=10))]
 refine Mc (by rw [ax (wm rfl),ax (Qk (Nat.mod_lt _ (by decide:10 > 0)) rfl),ax (show (-1000000:Int)<=((dr m sc d%10+1:Nat):Int) from wm rfl),ax (show ((dr m sc d%10+1:Nat):Int)<=1000000 from Qi (Nat.mod_lt _ (by decide:10 > 0)) rfl)];rfl) ?_
 refine dR (Dh (by simp only [dF,Ej,D7,bV];exact Dr (FE (Dr (GC _ _) (Dr (Fd _ _) (by assumption:d<=18))) (Dr (GC _ _) (Fd _ _))) (show 18+10<=100000 from et rfl))) ?_
 have e1:dF 0 (cE (bq (dr m sc d) d).length (-1)) (bq (dr m sc d) d)=(bq (dr m sc d) d).take (d-1):=by
  rw [tj,bV]
  congr 1
  unfold cE
  rw [bk (by decide),cond_true,Int.add_comm];exact J8 d 1
 rw [Di]
 refine cast (congrArg (fun z=>Q (.bytes z) _) ?_) (q _)
 rw [←xT hd1,e1]
 congr 1
 exact ((by decide:∀r:Nat,r<10->dF (cE 10 (r:Int)) (cE 10 ((r:Int)+1)) j7=[j7.getD r 0]) _ hlt).symm
theorem sJ:(bq u d).map (fun x=>x-48)=fX u d:=by
 rw [EJ]
 have:((fun x:Int=>x-48)∘fun x=>48+x)=id:=by funext x;simp only [HI,id];lia
 rw [this,KF]
theorem RJ {M m sc d:Nat} (hM:160<=M) (hs:sc<=18) (hd1:1<=d) (hd:d<=18) (q:∀τ,Q (.bytes (j3 (dr m sc d) (d/2+1))) (σ++τ)):(aj bH M).c 85 [.str eK,.int d,.int sc,.int m] σ Q:=by
 refine fuel hM fun N=>?_
 refine nc (N:=N+159) (loc:=[(124,.val (.str eK)),(12,.val (.int d)),(2,.val (.int sc)),(68,.val (.int m))]) (loc':=[(124,.val (.str eK)),(12,.val (.int d)),(2,.val (.int sc)),(68,.val (.int m)),(105,.cell σ.length),(3,.cell (σ.length+1))]) (σ':=σ++[.cell none,.cell none]) rfl rfl mL ?_
 have h9:d/2<=9:=KH hd
 have h19:d/2*2+1<=19:=Em (Nat.mul_le_mul_right 2 h9)
 refine qH (K:=N+129) hs hd ?_
 generalize dr m sc d=u at q ⊢
 walk_at "ww"
 refine wV rfl rfl rfl ?_
 walk_at "ed"
 refine f9 ?_
 walk_at "gb"
 refine eQ rfl (by rw [bx];rfl) ?_
 walk_at "bdd"
 refine dU rfl rfl ?_
 refine iq (by rfl) ?_
 walk_at "a"
 refine eV (by rw [show eM 2=true from rfl,GN]) ?_
 walk_at "a"
 refine cn ?_
 walk_at "q"
 rw [(by rw [show (d:Int).fdiv 2=((d/2:Nat):Int) from nH (b:=2)];rfl:((d:Int).fdiv 2*2+1)=((d/2*2+1:Nat):Int))]
 refine ai rfl (QX (Dr (Fs h19 60) (wi rfl)) (Em (Ep _)) h19 fun τ=>?_)
 refine pA (fun x=>x-48) (by rw [bV];exact Dr (Fs h19 21) (wi rfl)) (fun k h=>by cases h) (by rw [bV];exact lR h19 rfl) aE ?_ fun x Z0 K loc' σ' Q' hy hx hj q'=>aH (ae hx (ag (dA q')))
 rw [sJ,bU]
 refine fD (ac (ag (aL ?_)))
 refine qv (l:=(fX u (d/2*2+1)).map .int) (m:=[.int 15]) (au (by rw [aS];rfl)) aE (Dh (by rw [Do,dH];exact Dr (Em h19) (et rfl))) ?_
 refine l5 (k:=σ.length) (w:=none) rfl (by simp only [Di,aS];rfl) ?_
 have hA:(σ++[CO.cell none,.cell (some (.int u))]++τ++aU [CO.list []] 0 (.list ((fX u (d/2*2+1)).map .int))++[CO.list [.int 15]]).length=σ.length+2+τ.length+2:=by simp [qc,pJ,qj];lia
 generalize (σ++[CO.cell none,.cell (some (.int u))]++τ++aU [CO.list []] 0 (.list ((fX u (d/2*2+1)).map .int))++[CO.list [.int 15]]).length=A at hA ⊢
 have eS:aU (σ++[.cell none,.cell (some (.int u))]++τ++aU [CO.list []] 0 (.list ((fX u (d/2*2+1)).map .int))++[.list [.int 15]]++[.list ((fX u (d/2*2+1)).map .int++[.int 15])]) σ.length (.cell (some (.obj A)))=σ++([.cell (some (.obj A)),.cell (some (.int u))]++τ++[.list ((fX u (d/2*2+1)).map .int),.list [.int 15]])++[.list ((fX u (2*(d/2+1)-1)++[15]).map .int)]:=by
  rw [show 2*(d/2+1)-1=d/2*2+1 from congrArg (·+1) (Nat.mul_comm 2 (d/2))]
  simp only [Di,EX,bU]
  simp [qc,pJ,qj,Dw]
 rw [eS]
 refine ao (dj (be (ac ?_)))
 refine oo (k:=A) (H:=fX u (2*(d/2+1)-1)++[15]) (n:=d/2+1) (c:=σ.length) (Dr (Fs (Em h9) 30) (wi rfl)) (by simp [dH];lia) (Em (Ep _)) (Dr (Em h9) (et rfl)) (vF (by rw [hA];simp;lia)) rfl (by rw [Di,aS];rfl) (by decide) (by intro k h;cases h) (by rfl) fun τ2 hk2=>?_
 refine aL (dK hk2 cK (by rw [Dl];exact ⟨fb rS,Dh (by simp [iA];lia)⟩) ?_)
 rw [Di,Di]
 exact q _
def mR (d:Nat):Nat:=cond (Dn d 4) 2 4
theorem Rl {M m sc d:Nat} (hM:160<=M) (hs:sc<=18) (hd1:1<=d) (hd:d<=9) (q:∀τ,Q (.bytes (lQ (dr m sc d) (mR d))) (σ++τ)):(aj bH M).c 85 [.str dQ,.int d,.int sc,.int m] σ Q:=by
 refine fuel hM fun N=>?_
 refine nc (N:=N+159) (loc:=[(124,.val (.str dQ)),(12,.val (.int d)),(2,.val (.int sc)),(68,.val (.int m))]) (loc':=[(124,.val (.str dQ)),(12,.val (.int d)),(2,.val (.int sc)),(68,.val (.int m)),(105,.cell σ.length),(3,.cell (σ.length+1))]) (σ':=σ++[.cell none,.cell none]) rfl rfl mL ?_
 refine qH (K:=N+129) hs (by lia) ?_
 generalize dr m sc d=u at q ⊢
 have fin:∀{w K:Nat},(w=2\/w=4)->(∀τ,Q (.bytes (lQ u w)) (σ++τ))->(aj bH (K+60)).e (.calB true .bytes [(.comp false (.bin true .mod (.bin true .fdiv (.loc 3) (.bin true .pow (.cst (.int 256)) (.loc 81))) (.cst (.int 256))) [81] false (.calB true .range [(.bin true .sub (.loc 126) (.cst (.int 1))),(.neg (.cst (.int 1))),(.neg (.cst (.int 1)))]) none)]) [(124,.val (.str dQ)),(12,.val (.int d)),(2,.val (.int sc)),(68,.val (.int m)),(105,.cell σ.length),(3,.cell (σ.length+1)),(126,.val (.int w))] (σ++[.cell none,.cell (some (.int u))]) Q:=fun {w K} hw q=>by
  refine be (ac ?_)
  refine o4 (b:=256) (u:=u) (d:=w) (c:=3) (k0:=σ.length+1) (x:=81) (f:=id) (by lia) (by lia) (.inr ⟨rfl,by lia⟩) 126 (.inr rfl) rfl rfl rfl (by rw [bx];rfl) (by decide) rfl (fun k h=>by cases h) (fun {K loc' σ' p Q'} hp h1 h2 h3 q'=>?_) fun τ hk=>?_
  ·refine aH (aH (eQ h2 h3 (aH (ag (ae h1 ?_)))))
   refine g8 (by rw [ax (by lia),ax (by lia)];rfl) ?_
   refine iq (by rw [(o9 (b:=256) (.inr ⟨rfl,by lia⟩)),eG (uq (b:=256) (by decide))];rfl) (ag (eN (by rfl) ?_))
   rw [(by rw [DK,ED];rfl:((256:Int)^((p:Int)).toNat)=((256^p:Nat):Int)),nH,show ((256:Int))=((256:Nat):Int) from rfl,ik]
   exact q'
  ·rw [KF,←ze] at hk
   refine aL (dK hk cK (by rw [Dl];exact ⟨fb u6,Dh (by rw [mH];lia)⟩) ?_)
   rw [Di]
   exact q _
 unfold mR at q
 by_cases h4:d<=4
 ·rw [Dh h4,cond_true] at q
  walk_at "www"
  refine ao (kh (aA (ae rfl (ag (bw (aI rfl ?_))))))
  walk_at "ekv"
  refine oU ?_
  refine aI (ax (by lia)) ?_
  walk_at "ap"
  exact ao (dj (fin (.inl rfl) q))
 ·have hb:Dn d 4=false:=by cases h:Dn d 4 with|false=>rfl|true=>exact absurd (D5 h) h4
  rw [hb,cond_false] at q
  walk_at "www"
  refine ao (kh (aA (ae rfl (ag (bw (aI rfl ?_))))))
  walk_at "ekv"
  refine oU ?_
  refine ar (yO (by lia)) ?_
  walk_at "kv"
  refine oU ?_
  refine aI (ax (by lia)) ?_
  walk_at "ap"
  exact ao (dj (fin (.inr rfl) q))
theorem wK:∀{l:List Int} {m:Int},(∀c∈l,bS c=false)->cL l m<(m+1)*10^l.length:=by
 intro x0
 induction x0 with
 |nil=>
  intro m _
  simp only [wY,xF,Ew,Int.pow_zero];lia
 |cons c l ihh=>
  intro m h
  have h1:=sV (h c (.head _))
  have h3:(m+1)*10^(c::l).length=10*(m+1)*10^l.length:=by
   rw [DC,Int.pow_succ,Int.mul_comm 10 (m+1),Int.mul_assoc,Int.mul_comm (10^l.length) 10]
  rw [h3]
  exact GU (ihh (m:=10*m+c-48) (fun x hx=>h x (FZ _ hx))) (Int.mul_le_mul_of_nonneg_right (by lia) (by rw [nu];exact EC _))
theorem oz (h:∀c∈l,bS c=false) (hl:l.length<=18):cL l 0<10^18:=by
 have h1:=wK (m:=0) h
 have h2:(10:Int)^l.length<=10^18:=by
  rw [nu,nu]
  exact EK.mpr (EM (by decide) hl)
 lia
def wt (n:Nat) (k:List Nat) (d s:Nat):List (Nat×CV):=[(11,.str (cond (aF k dl) dl iU)),(5,.int (bK k d)),(63,.obj (n+2)),(85,.str (cond (aF k eK) eK (cond (aF k dQ) dQ vP))),(14,.str xz),(86,.bool false),(87,.bool false),(79,.bool false),(12,.int d),(2,.int s),(13,.bool (aF k fz))]
def lz (n:Nat) (k:List Nat) (d s:Nat) (σ:al):Prop:=∃σ0 τ,σ0.length=n/\σ=σ0++zW n (jF k d s)++τ
theorem kj:∀σ τ,lz n k d s σ->lz n k d s (σ++τ):=by
 rintro σ τ ⟨σ0,τ0,h1,rfl⟩
 exact ⟨σ0,τ0++τ,h1,by simp [Di]⟩
theorem ii (h:lz n k d s σ) (e:am (jF k d s) i=some co):am σ (n+i)=some (Oo n co):=by
 refine dG h fun σ0 τ zz1 zz2=>?_
 clear h
 subst zz1 zz2
 rw [Di,bx]
 refine au ?_
 rw [aO,DH,←aO,e];rfl
theorem gd:∀σ,lz n k d s σ->∃e,aM σ (.obj n)=some (4,e,wt n k d s):=by
 intro σ h
 refine ⟨n+1,?_⟩
 have h0:am σ n=some (.inst 4 (n+1)):=ii h (i:=0) rfl
 have h1:am σ (n+1)=some (.attrs (wt n k d s)):=ii h (i:=1) rfl
 unfold aM
 simp only [h0,h1]
theorem QC (hk:k=gX\/k=fz\/k=eK\/k=dQ) (h1:2<=d) (h2:d<=9) (h3:sc<=9):vm (wt n k d sc) k d (bK k d) sc:=by
 rcases hk with rfl|rfl|rfl|rfl
 ·exact ⟨by simp,h1,by lia,by show 1<=d;lia,by show d<=18;lia,by lia,rfl,rfl,rfl,rfl,rfl,rfl,rfl,rfl⟩
 ·exact ⟨by simp,h1,by lia,by show 1<=d;lia,by show d<=18;lia,by lia,rfl,rfl,rfl,rfl,rfl,rfl,rfl,rfl⟩
 ·exact ⟨by simp,h1,by lia,by show 1<=d/2+1;lia,by show d/2+1<=18;lia,by lia,rfl,rfl,rfl,rfl,rfl,rfl,rfl,rfl⟩
 ·have e:bK dQ d=mR d:=by
   show cond (Dn d 4) 2 (cond (Dn d 9) 4 8)=cond (Dn d 4) 2 4
   rw [Dh h2];rfl
  have e1:1<=mR d/\mR d<=4:=by unfold mR;cases Dn d 4<;>decide
  exact ⟨by simp,h1,by lia,by rw [e];lia,by rw [e];lia,by lia,rfl,rfl,rfl,rfl,rfl,rfl,rfl,rfl⟩
theorem B2 (hk:k=gX\/k=fz\/k=eK\/k=dQ) (h1:2<=d) (h2:d<=9) (h3:sc<=9):rL n (wt n k d sc) (lz n k d sc) fun m=>mV k d (bK k d) (m*10^sc):=by
 refine ⟨kj,gd,⟨iU,?_,.inl rfl⟩,fun {M σ m t Q} hM hs hm0 _ ht q=>?_⟩
 ·rcases hk with rfl|rfl|rfl|rfl<;>rfl
 ·exact aG (gd _ hs) fun e hi=>Rm (by lia) hi (QC hk h1 h2 h3) hm0 ht q
theorem Am {k:List Nat} {d sc m:Nat} (hk:k=gX\/k=fz\/k=eK\/k=dQ) (h2:d<=9):mV k d (bK k d) ((m:Int)*10^sc)=cond (aF k gX) (bq (dr m sc d) d) (cond (aF k fz) (j9 (dr m sc d) d) (cond (aF k eK) (j3 (dr m sc d) (d/2+1)) (lQ (dr m sc d) (mR d)))):=by
 have e:(((m:Int)*10^sc).fmod (10^d))=((dr m sc d:Nat):Int):=by
  rw [nu,nu,←Int.natCast_mul,ik];rfl
 rcases hk with rfl|rfl|rfl|rfl
 ·show bq _ _=bq _ _;rw [e]
 ·show j9 _ _=j9 _ _;rw [e]
 ·show j3 _ _=j3 _ _;rw [e];rfl
 ·have ez:bK dQ d=mR d:=by
   show cond (Dn d 4) 2 (cond (Dn d 9) 4 8)=cond (Dn d 4) 2 4
   rw [Dh h2];rfl
  show lQ _ (bK dQ d)=lQ _ _
  rw [e,ez]
  congr 1
  have e2:((256:Int)^mR d)=((256^mR d:Nat):Int):=by rw [ED];rfl
  rw [e2,ik,LO]
  have hu:dr m sc d<10^d:=Nat.mod_lt _ (F8 (by decide))
  unfold mR
  by_cases h4:d<=4
  ·rw [Dh h4]
   exact DZ hu (Dr (EM (by decide) h4) (by decide))
  ·have hb:Dn d 4=false:=by cases h:Dn d 4 with|false=>rfl|true=>exact absurd (D5 h) h4
   rw [hb]
   exact DZ hu (Dr (EM (by decide) h2) (by decide+kernel))
theorem pD (hk:k=gX\/k=fz\/k=eK\/k=dQ):(mV k d (bK k d) u).length=bK k d:=by
 rcases hk with rfl|rfl|rfl|rfl
 ·exact bV
 ·show (j9 _ _).length=d;rw [j9,LU,bV]
 ·show (j3 _ _).length=_;simp [j3,iA]
 ·exact mH
theorem QK {M d sc:Nat} {k:List Nat} {l:List Int} {F:Int->List Int} (hM:335<=M) (hv:dz k d sc=true) (hb:∀c∈l,bS c=false) (hl:l.length<=18) (hG:∀n,rL n (wt n k d sc) (lz n k d sc) F) (hlen:∀m:Nat,(F m).length=bK k d) (hsz:bK k d<=100)
  (hdue:∀{M m:Nat} {σ:al} {Q:bu},200<=M->(m:Int)<10^18->(∀τ,Q (.bytes (F m)) (σ++τ))->(aj bH M).c 85 [.str k,.int d,.int sc,.int m] σ Q) (q:∀τ,Q (.bool true) (σ++τ)):(aj bH M).c 89 [.str k,.int d,.int sc,.bytes l] σ Q:=by
 refine fuel hM fun N=>bZ (N:=N+334) (loc:=[(124,.val (.str k)),(12,.val (.int d)),(2,.val (.int sc)),(84,.val (.bytes l))]) rfl rfl rfl ?_
 have hw:=oz hb hl
 have h0:=oj hb (m:=0) (by lia)
 have hany:l.any bS=false:=by
  cases h:l.any bS with
  |false=>rfl
  |true=>
   refine ay (FC.mp h) fun x hx hx2=>?_
   rw [hb x hx] at hx2;cases hx2
 obtain ⟨m,hm⟩:∃m:Nat,cL l 0=m:=⟨(cL l 0).toNat,by lia⟩
 refine dw (bj rfl (ai rfl (To (by lia) ?_)))
 rw [(by unfold kT;rw [hany];rfl:kT l=cL l 0),hm]
 refine aT rfl (dw (iC (fH rfl rfl (kC (ar (cJ (by lia)) (bj rfl (ai rfl (hdue (m:=m) (by lia -abstractProof) (by lia -abstractProof) fun τ=>aT rfl (cC (aK (ac (bj rfl (aY (P:=Q1) rfl (show cond (dz k d sc) _ False from ?_))))))))))))))
 rw [hv,cond_true,DK,DK]
 walk_at "q"
 refine ai rfl (KT (bt:=wt (σ++τ).length k d sc) (St:=lz (σ++τ).length k d sc) (D:=F m) (by lia) ⟨kj,gd,rfl,hsz,hlen m,fun {M σ' Q'} hM' hs q'=>Ou (by lia) (by lia) hb hw (hG _) hs (by rw [hm];exact q')⟩ ⟨σ++τ,[],rfl,by simp⟩ fun τ2=>?_)
 rw [Di,Di]
 exact q _
def bC:List (List Nat×Nat)->List (List Nat)
 |[]=>[]
 |(s,c)::l=>Dp c s++bC l
theorem kJ:bC []=[]:=rfl
theorem lw {s:List Nat} {c:Nat} {l:List (List Nat×Nat)}:bC ((s,c)::l)=Dp c s++bC l:=rfl
theorem ic:∀n,lZ n [a]=Dp n a
 |0=>rfl
 |n+1=>by rw [ol,ic n,Fx];rfl
theorem MY (h0:am σ i=some (.list l)) (h:(Dn l.length 16&&(dk (-1000) n&&dk n 1000))=true) (q:Q (.obj σ.length) (σ++[.list (lZ n.toNat l)])):dJ s T σ .mul (.obj i) (.int n) Q:=gl h0 (bf h q)
theorem BK (h0:am σ i=some (.list l)) (q:eC ih as loc σ fun vs σ'=>cO s σ' .extend 2 (.obj i) vs Q):cond (jK .extend (bz σ (.obj i))) (eC ih as loc σ fun vs σ'=>cO s σ' .extend (bz σ (.obj i)) (.obj i) vs Q) False:=za (xn h0) rfl q
theorem OO (h0:am σ i=some (.list l)) (h1:am σ j=some (.list m)) (h:Dn (l.length+m.length) 100000=true) (q:Q .none (aU σ i (.list (l++m)))):cO s σ .extend 2 (.obj i) [.obj j] Q:=gl h0 (gl h1 (bf h q))
theorem tz {tg:List Nat} {tp:Bool} {b:List CS} {k i:Nat} {L:List CV} {Q:Fl->aP->al->Prop} (h:am σ k=some (.list L)) (h2:am L i=none) (q:Q .next loc σ):(aj T (N+1)).f tg tp (.lst k i) b loc σ Q:=by
 have e:cY σ (.lst k i)=.stop:=(gy h).trans (vH h2)
 show iO (aj T N) tg tp (.lst k i) b loc σ Q
 unfold iO
 rw [e];exact q
theorem tL {tg:List Nat} {tp:Bool} {b:List CS} {k i:Nat} {L:List CV} {v:CV} {Q:Fl->aP->al->Prop} (h:am σ k=some (.list L)) (h2:am L i=some v) (q:gu loc σ tg tp v fun loc σ=>(aj T N).b b loc σ fun fl loc σ=>match fl with|.next=>(aj T N).f tg tp (.lst k (i+1)) b loc σ Q|.ret v=>Q (.ret v) loc σ):(aj T (N+1)).f tg tp (.lst k i) b loc σ Q:=by
 have e:cY σ (.lst k i)=.item v (.lst k (i+1)):=(gy h).trans (rB h2)
 show iO (aj T N) tg tp (.lst k i) b loc σ Q
 unfold iO
 rw [e];exact q
theorem Br {tg:List Nat} {v:CV} {l:List CV} {Q:aP->al->Prop} (h:da σ v=some l) (q:fE loc σ tg l Q):gu loc σ tg true v Q:=by
 exact fA h q
def Ry:List CS:=[.xpr (.mtB false .extend (.loc 21) [.bin false .mul (.lst [.loc 14]) (.loc 15)])]
def lg (σ:al):List (List Nat×Nat)->List CV->Prop
 |[],[]=>True
 |(s,c)::l,.obj k::r=>am σ k=some (.tup [.str s,.int c])/\lg σ l r
 |Z1,Z2=>False
theorem R9 {k:Nat} {L:List CV} (hL:am σ0 k=some (.list L)):∀(l:List (List Nat×Nat)) {pre r:List CV} {N a:Nat} {loc:aP} {τ:al} {done:List (List Nat)} {Q:Fl->aP->al->Prop},L=pre++r->lg σ0 l r->am τ a=some (.list (done.map .str))->lk loc 21=some (.val (.obj (σ0.length+a)))->(∀k,lk loc 14≠some (.cell k))->(∀k,lk loc 15≠some (.cell k))->
  done.length+(bC l).length<=1000->(∀loc' τ',lk loc' 21=some (.val (.obj (σ0.length+a)))->am τ' a=some (.list ((done++bC l).map .str))->Q .next loc' (σ0++τ'))->(aj bH (N+l.length+12)).f [14,15] true (.lst k pre.length) Ry loc (σ0++τ) Q:=by
 intro l0
 induction l0 with
 |nil=>
  intro pre r N a loc τ done Q e hs ht h1 h2 h3 hn q
  cases r with
  |cons Z1 Z2=>exact hs.elim
  |nil=>
   refine tz (N:=N+11) (au hL) (by rw [e,DG,aO,Ed (DQ _)]) (q loc τ h1 ?_)
   rw [ht,kJ,DG]
 |cons x0 l R9=>
  intro pre r N a loc τ done Q e hs ht h1 h2 h3 hn q
  obtain ⟨s,c⟩:=x0
  cases r with
  |nil=>exact hs.elim
  |cons v r=>
   cases v with
   |obj kk=>
    refine aD hs fun hs1 hs2=>?_
    have hc:c<=1000:=by simp only [kJ,lw,Ds,DD] at hn;lia
    refine tL (N:=N+l.length+12) (v:=.obj kk) (au hL) (by rw [e,aO,DO (DQ _),E7];rfl) (Br (l:=[.str s,.int c]) (by unfold da;simp only [au hs1]) (gJ (bl h2 (gJ (bl (fun k=>by rw [ah,if_neg (by decide)];exact h3 k) (nV ?_))))))
    have l1:lk (cu (cu loc 14 (.val (.str s))) 15 (.val (.int c))) 14=some (.val (.str s)):=by rw [ah,if_neg (by decide),ah,if_pos rfl]
    have l2:lk (cu (cu loc 14 (.val (.str s))) 15 (.val (.int c))) 15=some (.val (.int c)):=by rw [ah,if_pos rfl]
    have l3:lk (cu (cu loc 14 (.val (.str s))) 15 (.val (.int c))) 21=some (.val (.obj (σ0.length+a))):=by rw [ah,if_neg (by decide),ah,if_neg (by decide)];exact h1
    have ht1:am (σ0++τ) (σ0.length+a)=some (.list (done.map .str)):=by rw [bx];exact ht
    refine lV (iT (ae ‹_› (BK ht1 (ac (aH (fD (ac (ae ‹_› (av rfl (ae ‹_› ?_))))))))))
    refine MY aE (by rw [ax (by lia),ax (by lia)];rfl) ?_
    walk_at "q"
    refine OO (au (au ht1)) aE (Dh (by rw [cZ];simp only [Do,DC,Ew];lia)) ?_
    walk_at "c"
    rw [DK,ic,Di,Di,fj]
    rw [←(by simp:(pre++[CV.obj kk]).length=pre.length+1)]
    refine R9 (by rw [e,Di];rfl) hs2 (done:=done++Dp c s) ?_ l3 (fun k=>by rw [l1];simp) (fun k=>by rw [l2];simp) (by simp only [kJ,lw,Ds,DD] at hn ⊢;lia) fun loc' τ' hl' ht'=>?_
    ·rw [cF (au ht),Dw,Im]
    ·refine q loc' τ' hl' ?_
     rw [ht',lw,Di]
   |_=>exact hs.elim
theorem Tk (hM:l.length+30<=M) (h:aM σ (.obj pc)=some (0,e2,pt)) (hk:lk pt 10=some (.obj k)) (hL:am σ k=some (.list L)) (hs:lg σ l L) (hn:(bC l).length<=900)
  (q:∀τ j,am (σ++τ) j=some (.list ((bC l).map .str))->σ.length<=j->Q (.obj j) (σ++τ)):(aj bH M).c 31 [.obj pc] σ Q:=by
 refine fuel2 hM fun N=>bZ (N:=N+l.length+29) (loc:=[(63,.val (.obj pc))]) rfl rfl rfl (dw (fD (av rfl (aT rfl (ao (jX (aw rfl (bv (τ:=[.list []]) h) hk rfl (iI (hW (au hL)) ?_))))))))
 rw [show N+l.length+28=N+16+l.length+12 from by lia]
 refine R9 (σ0:=σ) (τ:=[.list []]) (pre:=[]) (done:=[]) (a:=0) hL l rfl hs rfl rfl (fun k h=>by cases h) (fun k h=>by cases h) (by simp;lia) fun loc' τ' hl ht=>?_
 refine ao (dj (ae hl (q _ _ ?_ (by lia))))
 rw [bx];exact ht
theorem zC {elt:CE} {tg:List Nat} {tp:Bool} {cd:Option CE} {k i acc:Nat} {L:List CV} {Q:al->Prop} (h:am σ k=some (.list L)) (h2:am L i=none) (q:Q σ):(aj T (N+1)).p s elt tg tp cd (.lst k i) acc loc σ Q:=by
 have e:cY σ (.lst k i)=.stop:=(gy h).trans (vH h2)
 show nj (aj T N) s elt tg tp cd (.lst k i) acc loc σ Q
 unfold nj
 rw [e];exact q
theorem xC {elt t:CE} {tg:List Nat} {tp:Bool} {k i acc:Nat} {L:List CV} {v:CV} {Q:al->Prop} (h:am σ k=some (.list L)) (h2:am L i=some v) (q:gu loc σ tg tp v fun loc σ=>(aj T N).t t loc σ fun r σ=>br s r ((aj T N).e elt loc σ fun v σ=>match am σ acc with
   |some (.list l)=>pB l.length ((aj T N).p s elt tg tp (some t) (.lst k (i+1)) acc loc (aU σ acc (.list (l++[v]))) Q)
   |_=>False) ((aj T N).p s elt tg tp (some t) (.lst k (i+1)) acc loc σ Q)):(aj T (N+1)).p s elt tg tp (some t) (.lst k i) acc loc σ Q:=by
 have e:cY σ (.lst k i)=.item v (.lst k (i+1)):=(gy h).trans (rB h2)
 show nj (aj T N) s elt tg tp (some t) (.lst k i) acc loc σ Q
 unfold nj
 rw [e];exact q
theorem zQ {acc:Nat} {l:List CV} {ih:Ih} {elt:CE} {tg:List Nat} {tp:Bool} {cd:Option CE} {i:It} {v:CV} {Q:al->Prop} (h:am σ acc=some (.list l)) (h2:l.length<=1000) (q:ih.p s elt tg tp cd i acc loc (aU σ acc (.list (l++[v]))) Q):(match am σ acc with
   |some (.list l)=>pB l.length (ih.p s elt tg tp cd i acc loc (aU σ acc (.list (l++[v]))) Q)
   |_=>False):=by
 rw [h]
 show cond (Dn l.length 100000) _ False
 rw [Dh (by lia)]
 exact q
def eY (s:List Nat):Bool:=fm s [[88],[65],[57]]
theorem Q2 {k:Nat} {L:List CV} (hL:am σ0 k=some (.list L)):∀(l:List (List Nat)) {pre:List CV} {N a:Nat} {loc:aP} {τ:al} {done:List (List Nat)} {Q:al->Prop},L=pre++l.map .str->am τ a=some (.list (done.map .str))->(∀k,lk loc 14≠some (.cell k))->done.length+l.length<=900->
  (∀τ',am τ' a=some (.list ((done++l.filter eY).map .str))->Q (σ0++τ'))->
  (aj bH (N+l.length+12)).p false (.loc 14) [14] false (some (.cmp false (.loc 14) [(.isin,(.tup [(.cst (.str [88])),(.cst (.str [65])),(.cst (.str [57]))]))])) (.lst k pre.length) (σ0.length+a) loc (σ0++τ) Q:=by
 intro l0
 induction l0 with
 |nil=>
  intro pre N a loc τ done Q e ht h2 hn q
  refine zC (N:=N+11) (au hL) (by rw [e,FL,DG,aO,Ed (DQ _)]) (q τ ?_)
  rw [ht,List.filter_nil,DG]
 |cons c l Q2=>
  intro pre N a loc τ done Q e ht h2 hn q
  refine xC (N:=N+l.length+12) (v:=.str c) (au hL) (by rw [e,aO,DO (DQ _),E7];rfl) (cw (bl h2 ?_))
  have l1:lk (cu loc 14 (.val (.str c))) 14=some (.val (.str c)):=by rw [ah,if_pos rfl]
  have hlen:(pre++[CV.str c]).length=pre.length+1:=by simp
  have e':L=(pre++[CV.str c])++l.map .str:=by rw [e,Di];rfl
  simp only [DC] at hn
  refine aA (ae l1 (fh (ac (ag (ac (ag (ac (ag (aL (mn aE rfl ?_))))))))))
  cases hb:fm c [[88],[65],[57]] with
  |true=>
   refine aI rfl (ae l1 (zQ (by rw [Di,bx];exact au ht:am (σ0++τ++[.tup [.str [88],.str [65],.str [57]]]) (σ0.length+a)=some (.list (done.map .str))) (by rw [Do];lia) ?_))
   rw [Di,fj,←hlen]
   refine Q2 e' (done:=done++[c]) (by rw [cF (au ht),Dw];rfl) (fun k=>by rw [l1];simp) (by simp only [Ds,DC,Ew];lia) fun τ' ht'=>q τ' ?_
   rw [ht',J5 (show eY c=true from hb),Di];rfl
  |false=>
   walk_at "s"
   rw [Di,←hlen]
   refine Q2 e' (done:=done) (au ht) (fun k=>by rw [l1];simp) (by lia) fun τ' ht'=>q τ' ?_
   rw [ht',J6 (by rw [show eY c=false from hb];decide)]
theorem UQ {M k:Nat} {l:List (List Nat)} (hM:l.length+40<=M) (hL:am σ k=some (.list (l.map .str))) (hn:l.length<=900) (q:∀τ,Q (.int ((l.filter eY).length:Nat)) (σ++τ)):(aj bH M).c 44 [.obj k] σ Q:=by
 refine fuel2 hM fun N=>bZ (N:=N+l.length+39) (loc:=[(24,.val (.obj k))]) rfl rfl rfl (ao (dj (be (ac (f9 (ae rfl (fc (hW hL) ?_)))))))
 rw [show N+l.length+36=N+24+l.length+12 from by lia]
 refine Q2 (σ0:=σ) (τ:=[.list []]) (pre:=[]) (done:=[]) (a:=0) hL l rfl rfl (fun k h=>by cases h) (by simp;lia) fun τ' ht=>?_
 refine aL (ir (l:=((l.filter eY).map .str)) (by rw [aS];exact ht) (Dh (by rw [Do];have:=Ke eY l;lia)) ?_)
 rw [Do]
 exact q _
theorem yl {a:Nat} {b:List Nat} {Q:Bool->Prop} (q:Q (gS a b)):dn s T σ .isin (.str [a]) (.str b) Q:=q
theorem rc (h0:am σ i=some (.barr l)) (q:eC ih as loc σ fun vs σ'=>cO s σ' .append 4 (.obj i) vs Q):cond (jK .append (bz σ (.obj i))) (eC ih as loc σ fun vs σ'=>cO s σ' .append (bz σ (.obj i)) (.obj i) vs Q) False:=za (by unfold bz;dsimp only;rw [h0]) rfl q
theorem zg (h0:am σ i=some (.barr l)) (hc:0<=c/\c<256) (h:l.length<=1000) (q:Q .none (aU σ i (.barr (l++[c])))):cO s σ .append 4 (.obj i) [.int c] Q:=w7 h0 (bf (by rw [ax hc.1,bk hc.2,Dh (by lia:l.length<=100000)];rfl) q)
theorem C9 (q:Q (.obj σ.length) (σ++[.barr []])):cQ s T σ .bytearray [] Q:=q
theorem BY {c:Nat} (q:Q (.int c) σ):cQ s T σ .ord [.str [c]] Q:=q
theorem Vt (hM:20<=M) (q:Q (.str [32]) σ):(aj bH M).c 37 [.str [66]] σ Q:=by
 exact fuel hM fun N=>bZ (N:=N+19) (loc:=[(14,.val (.str [66]))]) rfl rfl rfl (cC (iC (fH rfl rfl (bw (aI rfl (fk rfl q))))))
def lh:List (List Nat)->List Int->Nat->List Int
 |[],Z1,Z2=>[]
 |s::l,H,j=>cond (aF s [66]) (32::lh l H j) (H.getD j 0::lh l H (j+1))
theorem yk {H:List Int} {j:Nat}:lh [] H j=[]:=rfl
theorem Da {s:List Nat} {l:List (List Nat)} {H:List Int} {j:Nat}:lh (s::l) H j=cond (aF s [66]) (32::lh l H j) (H.getD j 0::lh l H (j+1)):=rfl
def rF:List (List Nat)->Nat
 |[]=>0
 |s::l=>cond (aF s [66]) (rF l) (rF l+1)
def Sy:List CS:=[.ite false (.cmp false (.loc 14) [(.isin,.glb 65)]) [.xpr (.mtB true .append (.loc 21) [.calB true .ord [.calF 37 [.loc 14]]])] [.xpr (.mtB true .append (.loc 21) [.sub true (.loc 83) (.loc 16)]),.asg 16 (.bin true .add (.loc 16) (.cst (.int 1)))]]
theorem QY {k:Nat} {L:List CV} {H:List Int} (hL:am σ0 k=some (.list L)) (hH:∀x∈H,0<=x/\x<256) (hHn:H.length<=1000):∀(l:List (List Nat)) {pre:List CV} {N a j:Nat} {loc:aP} {τ:al} {done:List Int} {Q:Fl->aP->al->Prop},L=pre++l.map .str->(∀s∈l,s=[66]\/s=[88])->j+rF l<=H.length->am τ a=some (.barr done)->lk loc 21=some (.val (.obj (σ0.length+a)))->lk loc 16=some (.val (.int j))->lk loc 83=some (.val (.bytes H))->(∀k,lk loc 14≠some (.cell k))->done.length+l.length<=900->
  (∀loc' τ',lk loc' 21=some (.val (.obj (σ0.length+a)))->am τ' a=some (.barr (done++lh l H j))->Q .next loc' (σ0++τ'))->(aj bH (N+l.length+30)).f [14] false (.lst k pre.length) Sy loc (σ0++τ) Q:=by
 intro l0
 induction l0 with
 |nil=>
  intro pre N a j loc τ done Q e hs hj ht h1 h2 h3 h4 hn q
  refine tz (N:=N+29) (au hL) (by rw [e,FL,DG,aO,Ed (DQ _)]) (q loc τ h1 ?_)
  rw [ht,yk,DG]
 |cons c l QY=>
  intro pre N a j loc τ done Q e hs hj ht h1 h2 h3 h4 hn q
  refine tL (N:=N+l.length+30) (v:=.str c) (au hL) (by rw [e,aO,DO (DQ _),E7];rfl) (cw (bl h4 ?_))
  have g1:lk (cu loc 14 (.val (.str c))) 14=some (.val (.str c)):=by rw [ah,if_pos rfl]
  have g2:lk (cu loc 14 (.val (.str c))) 21=some (.val (.obj (σ0.length+a))):=by rw [ah,if_neg (by decide)];exact h1
  have g3:lk (cu loc 14 (.val (.str c))) 16=some (.val (.int j)):=by rw [ah,if_neg (by decide)];exact h2
  have g4:lk (cu loc 14 (.val (.str c))) 83=some (.val (.bytes H)):=by rw [ah,if_neg (by decide)];exact h3
  have hlen:(pre++[CV.str c]).length=pre.length+1:=by simp
  have e':L=(pre++[CV.str c])++l.map .str:=by rw [e,Di];rfl
  have ht1:am (σ0++τ) (σ0.length+a)=some (.barr done):=by rw [bx];exact ht
  simp only [DC] at hn
  rcases hs c (.head _) with rfl|rfl
  ·refine bJ (aA (ae ‹_› (fk rfl (yl (aI rfl (lV (iT (ae ‹_› (rc ht1 (ac (be (ac (aK (ac (ae ‹_› (av rfl (ai rfl (Vt (by lia) (av rfl (BY (av rfl (zg ht1 (by decide) (by lia) (aJ (aJ ?_))))))))))))))))))))))))
   rw [fj]
   rw [←hlen]
   refine QY e' (fun s h=>hs s (.tail _ h)) hj (cF ht) g2 g3 g4 (fun k=>by rw [g1];simp) (by simp only [Ds,DC,Ew];lia) fun loc' τ' hl' ht'=>q loc' τ' hl' ?_
   rw [ht',Di];rfl
  ·have hj':j+(rF l+1)<=H.length:=hj
   have hin:0<=H.getD j 0/\H.getD j 0<256:=by
    rw [DP,DA (by lia:j<H.length)]
    exact hH _ (GB _)
   refine bJ (aA (ae ‹_› (fk rfl (yl (ar rfl (lV (iT (ae ‹_› (rc ht1 (ac (eO (ae ‹_› (ae ‹_› ?_)))))))))))))
   refine mZ (by rw [dM (by lia),Dh (by lia:H.length<=100000)];rfl) ?_
   rw [cy]
   refine av rfl (zg ht1 hin (by lia) (dw (aH (ae ‹_› (ag (cn (gH g3 (aJ (aJ ?_)))))))))
   rw [fj]
   rw [←hlen]
   refine QY e' (fun s h=>hs s (.tail _ h)) (j:=j+1) (by lia) (cF ht) (by rw [ah,if_neg (by decide)];exact g2) (by rw [ah,if_pos rfl];rfl) (by rw [ah,if_neg (by decide)];exact g4) (fun k=>by rw [ah,if_neg (by decide),g1];simp) (by simp only [Ds,DC,Ew];lia) fun loc' τ' hl' ht'=>q loc' τ' hl' ?_
   rw [ht',Di];rfl
theorem yd:∀{l:List (List Nat)} {H:List Int} {j:Nat},(lh l H j).length=l.length:=by
 intro x0
 induction x0 with
 |nil=>
  intro _ _
  exact rfl
 |cons s l ihh=>
  intro H j
  simp only [yk,Da]
  cases aF s [66] with
  |true=>simp [ihh]
  |false=>simp [ihh]
theorem g9 {n m:Nat}:cE n (m:Int)=min n m:=by
 unfold cE
 rw [cJ (EC m),cond_false]
 by_cases h:n<m
 ·rw [bk (Ez.mpr h),cond_true,ET (EP h)]
 ·rw [cJ (EK.mpr (LP h)),cond_false,DK,F9 (LP h)]
theorem uX (a m:Nat):min (min a m) a=min m a:=by rw [Nat.min_comm a m,Nat.min_assoc,Nat.min_self]
theorem e7 {l:List Int} {m:Nat}:dF 0 (cE l.length (m:Int)) l=l.take m:=by
 rw [tj,g9,Kg]
 exact uX _ _
def cP (l:List Int) (m:Nat):List Int:=l.take m++Dp (m-(l.take m).length) 32
theorem dZ:(cP l m).length=m:=by
 rw [Ds,DD,Ej];exact Ge (Hy _ _)
theorem kN {a b:Nat}:lZ ((a:Int)-(b:Int)).toNat ([32]:List Int)=Dp (a-b) 32:=by
 rw [ic,J8]
theorem TW (hM:sy.length+(bC sy).length+100<=M) (h:aM σ (.obj pc)=some (0,e2,pt)) (hk:lk pt 10=some (.obj k)) (hL:am σ k=some (.list L)) (hs:lg σ sy L) (hn:(bC sy).length<=100)
  (hx:∀s∈bC sy,s=[66]\/s=[88]) (hc:rF (bC sy)<=((bC sy).filter eY).length) (hl:∀x∈l,0<=x/\x<256) (hl2:l.length<=900)
  (q:∀τ,Q (.bytes (lh (bC sy) (cP l ((bC sy).filter eY).length) 0)) (σ++τ)):(aj bH M).c 45 [.obj pc,.bytes l] σ Q:=by
 refine fuel3 hM fun N=>bZ (N:=N+sy.length+(bC sy).length+99) (loc:=[(63,.val (.obj pc)),(84,.val (.bytes l))]) rfl rfl rfl ?_
 have hm:((bC sy).filter eY).length<=100:=Dr (Ke _ _) hn
 generalize hmm:((bC sy).filter eY).length=m at hm hc q ⊢
 have hp:∀x∈cP l m,0<=x/\x<256:=fun x hx=>by
  rcases DL.mp hx with hx|hx
  ·exact hl x (HP hx)
  ·rw [E0 hx];decide
 have ht:(l.take m).length<=100:=by rw [Ej];lia
 refine dw (bj rfl (ai rfl (Tk (by lia) h hk hL hs (by lia) fun τ j hj Z0=>aT rfl (dw (bj rfl (ai rfl (UQ (by lia) hj (by lia) fun τ2=>?_)))))))
 rw [hmm]
 refine aT rfl (dw (aH (be (ac (eP (ae rfl (bn (db (ae rfl (bn ?_))))))))))
 refine jj (by lia) (by lia) ?_
 rw [e7]
 refine av rfl (yH (bX rfl (bX rfl (be (ac (eP (ae rfl (bn (db (ae rfl (bn ?_)))))))))))
 refine jj (by lia) (by lia) ?_
 rw [e7]
 refine av rfl (fw (Dh (by lia)) (dA ?_))
 refine pT rfl (by lia) (by lia) ?_
 rw [kN]
 refine dR (Dh (by rw [DD];lia)) ?_
 refine aT rfl (ao (jM (fh (ac (bh rfl (C9 (av rfl (fY fK (gJ (aT rfl (gJ (aT rfl (nV (ao (jX (ae rfl (iI (hW (au (au (au hj)))) ?_)))))))))))))))))
 rw [show N+sy.length+(bC sy).length+98=N+sy.length+68+(bC sy).length+30 from by lia]
 rw [(by simp [Di]:σ++τ++τ2++[.barr []]++[.tup [.obj (σ++τ++τ2).length,.int 0]]=(σ++τ++τ2)++[.barr [],.tup [.obj (σ++τ++τ2).length,.int 0]])]
 refine QY (σ0:=σ++τ++τ2) (H:=cP l m) (pre:=[]) (done:=[]) (a:=0) (j:=0) (au hj) hp (by rw [dZ];lia) (bC sy) rfl hx (by rw [dZ];lia) rfl rfl rfl rfl (fun k h=>by cases h) (by simp;lia) fun loc' τ' hl3 ht3=>?_
 refine ao (dj (be (ac (ae hl3 (aL (m8 (by rw [bx];exact ht3) (Dh (by rw [Ds,yd];simp;lia)) ?_))))))
 rw [Di,Di]
 exact q _
theorem uj (z a:Nat):min z a+(z-a)=z:=(Ko z a).elim (fun h=>by rw [ET h,Ff h,Kp]) fun h=>by rw [F9 h,Ge h]
theorem uO (z a:Nat):z-a+(a-(a-z))=z:=(Ko z a).elim (fun h=>by rw [Ff h,Hi h,GP]) fun h=>by rw [Ff h,Kn,Et h]
def Cb (l:List Int) (z:Nat):List Int:=l.take z++Dp (z-l.length) 32
def zX (l:List Int) (z:Nat):List Int:=Dp (z-l.length) 32++l.drop (l.length-z)
theorem Bw:(Cb l z).length=z:=by
 rw [Ds,DD,Ej];exact uj _ _
theorem Ak:(zX l z).length=z:=by
 rw [Ds,DD,D7];exact uO _ _
theorem AQ:(l++Dp z 32).take z=Cb l z:=by
 rw [Ly,Ia]
 congr 2
 exact ET (Fd _ _)
theorem Ba:(Dp z (32:Int)++l).drop l.length=zX l z:=by
 unfold zX
 rw [Lx,List.drop_replicate,DD]
theorem AN (m a:Nat):m-min m a=m-a:=(Ko m a).elim (fun h=>by rw [ET h,E7,Ff h]) fun h=>by rw [F9 h]
theorem Bd (h:m<=z):(l++Dp z 32).take m=cP l m:=by
 unfold cP
 rw [Ly,Ia,Ej]
 congr 2
 rw [AN,ET (Dr (Fd _ _) h)]
section
variable {T:Tab} {N:Nat} {σ σ0:al} {Q:bu}
theorem Oe (q:Q (.int (cond (eB a b) b a)) σ):cQ s T σ .max [.int a,.int b] Q:=q
theorem BZ (q:Cf (aj T N) l loc σ fun vs σ=>Q (.obj σ.length) (σ++[.dict (gx [] vs)])):(aj T (N+1)).e (.dct l) loc σ Q:=q
theorem xm {ih:Ih} {Q:List (List Nat×CV)->al->Prop} (q:Q [] σ):Cf ih [] loc σ Q:=q
theorem fP {ih:Ih} {k:List Nat} {c:CE} {l:List (List Nat×CE)} {Q:List (List Nat×CV)->al->Prop} (q:ih.e c loc σ fun v σ=>Cf ih l loc σ fun r σ=>Q ((k,v)::r) σ):Cf ih ((k,c)::l) loc σ Q:=q
theorem Mb (h0:am σ k=some (.dict l)) (h1:w8 l x=some v) (q:Q v σ):gQ s T σ (.obj k) (.str x) Q:=sO h0 (fA h1 q)
theorem Mj (hM:30<=M) (hl:l.length<=500) (hz:z<=500) (as:List CV) (has:as=[]\/as=[.bool false]) (q:Q (.bytes (Cb l z)) σ):(aj bH M).c 66 (.bytes l::.int z::as) σ Q:=by
 refine fuel hM fun N=>?_
 refine bZ (N:=N+29) (loc:=[(84,.val (.bytes l)),(5,.val (.int z)),(87,.val (.bool false))]) (fi:=⟨[84,5,87],[.bool false],[],SW⟩) rfl (by rcases has with rfl|rfl<;>rfl:ix ⟨[84,5,87],[.bool false],[],SW⟩ (.bytes l::.int z::as)=some [(84,.val (.bytes l)),(5,.val (.int z)),(87,.val (.bool false))]) rfl ?_
 refine bJ (yw (ae rfl (ar rfl (aJ (cC (aH (eP (ae rfl (bn (db (ae rfl (bn ?_))))))))))))
 refine jj (by lia) (by lia) ?_
 rw [e7]
 refine bX rfl (bX rfl (bh rfl (fw (Dh (by lia)) (dA ?_))))
 refine pT rfl (by lia) (by lia) ?_
 rw [kN]
 refine dR (Dh (by rw [DD,Ej,uj];lia)) ?_
 exact q
theorem Q8 (hM:30<=M) (hl:l.length<=500) (hz:z<=500) (q:Q (.bytes (zX l z)) σ):(aj bH M).c 66 [.bytes l,.int z,.bool true] σ Q:=by
 refine fuel hM fun N=>bZ (N:=N+29) (loc:=[(84,.val (.bytes l)),(5,.val (.int z)),(87,.val (.bool true))]) rfl rfl rfl ?_
 have em:cond (eB ((l.length:Int)-(z:Int)) 0) 0 ((l.length:Int)-(z:Int))=((l.length-z:Nat):Int):=Bi
 have ed:dF (cE l.length ((l.length-z:Nat):Int)) l.length l=l.drop (l.length-z):=by
  rw [g9,dF,FK (by rw [D7];exact DQ _)]
  congr 1
  exact F9 (Fd _ _)
 refine bJ (yw (ae rfl (aI rfl (cC (aH (bX rfl (bX rfl (bh rfl (fw (Dh (by lia)) (dA ?_))))))))))
 refine pT rfl (by lia) (by lia) ?_
 rw [kN]
 refine eP (ae rfl (db (be (ac (aH (bh rfl (fw (Dh (by lia)) (ae rfl (dA (av rfl (Oe ?_)))))))))))
 rw [em]
 refine bn (bn ?_)
 refine ml (by lia) (by lia) ?_
 rw [ed]
 refine dR (Dh (by rw [DD,D7,uO];lia)) ?_
 exact q
def f6 (k:List Nat) (z:Nat) (l:List Int):List Int:=cond (aF k i5) (zX l z) (cond (aF k gf) ((cP l (z-1)).take 1++[32]++(cP l (z-1)).drop 1) (Cb l z))
theorem Tq (hM:40<=M) (hl:l.length<=500) (hz:z<=500) (hz1:1<=z) (q:Q (.bytes (f6 k z l)) σ):(aj bH M).c 84 [.str k,.int z,.bytes l] σ Q:=by
 refine fuel hM fun N=>bZ (N:=N+39) (loc:=[(124,.val (.str k)),(5,.val (.int z)),(84,.val (.bytes l))]) rfl rfl rfl ?_
 unfold f6 at q
 have hrep:lZ (z:Int).toNat ([32]:List Int)=Dp z 32:=by rw [ic];congr 1
 cases hj:aF k i5 with
 |true=>
  rw [hj,cond_true] at q
  have ed:dF (cE (Dp z (32:Int)++l).length ((l.length:Nat):Int)) (Dp z (32:Int)++l).length (Dp z 32++l)=zX l z:=by
   rw [g9,dF,FK (by rw [D7];exact DQ _),←Ba]
   congr 1
   rw [Ds];lia
  refine jB rfl rfl (bw (aI hj (cC (eP (aH (dU rfl rfl ?_))))))
  refine jO (by simp only [eZ];simp;lia) ?_
  rw [hrep]
  walk_at "r"
  refine dR (Dh (by rw [DD];lia)) ?_
  refine db (bh rfl (fw (Dh (by lia)) (bn (bn ?_))))
  refine ml (by lia) (by rw [Ds,DD];lia) ?_
  rw [ed]
  exact q
 |false=>
  rw [hj,cond_false] at q
  cases hi:aF k gf with
  |true=>
   rw [hi,cond_true] at q
   have ed:dF 0 (cE (l++Dp z (32:Int)).length ((z:Int)-1)) (l++Dp z 32)=cP l (z-1):=by
    rw [show (z:Int)-1=((z-1:Nat):Int) from (GF (by lia)).symm,e7,Bd (by lia)]
   have e1:dF 0 (cE (cP l (z-1)).length 1) (cP l (z-1))=(cP l (z-1)).take 1:=e7 (m:=1)
   have e2:dF (cE (cP l (z-1)).length 1) (cP l (z-1)).length (cP l (z-1))=(cP l (z-1)).drop 1:=by
    rw [show (1:Int)=((1:Nat):Int) from rfl,g9,dF,FK (by rw [D7];exact DQ _)]
    cases hp:cP l (z-1) with
    |nil=>simp
    |cons a r=>
     congr 1
     simp
   refine jB rfl rfl (bw (ar hj (aJ (jB rfl rfl (bw (aI hi (dw (eP (bX rfl (dU rfl rfl ?_))))))))))
   refine jO (by simp only [eZ];simp;lia) ?_
   rw [hrep]
   refine dR (Dh (by rw [DD];lia)) ?_
   refine bn (db (dU rfl rfl (dA (bn ?_))))
   refine pH (by rw [ax (by lia),ax (by lia),Dh (by rw [Ds,DD];lia)];rfl) ?_
   rw [ed]
   refine aT rfl (cC (aH (aH (eP (ae rfl (bn (db (ag (bn ?_)))))))))
   refine jj (by lia) (by rw [dZ];lia) ?_
   walk_at "a"
   refine dR (Dh (by rw [e1,Ej,dZ];simp;lia)) ?_
   refine eP (ae rfl (db (ag (bn (bn ?_)))))
   refine ml (by lia) (by rw [dZ];lia) ?_
   refine dR (Dh (by rw [e1,e2,Ds,Ej,D7,dZ];simp;exact Dr (FE (Em (Hy _ _)) (Dr (Fd _ _) (Dr (Fd _ _) ‹_›))) (et rfl))) ?_
   rw [e1,e2]
   exact q
  |false=>
   rw [hi,cond_false] at q
   refine jB rfl rfl (bw (ar hj (aJ (jB rfl rfl (bw (ar hi (aJ (cC (eP (bX rfl (dU rfl rfl ?_)))))))))))
   refine jO (by simp only [eZ];simp;lia) ?_
   rw [hrep]
   refine dR (Dh (by rw [DD];lia)) ?_
   refine bn (db (ae rfl (bn ?_)))
   refine jj (by lia) (by rw [Ds,DD];lia) ?_
   rw [e7,AQ]
   exact q
theorem Tz (hM:30<=M) (hz:z<=500) (q:Q (.bytes (Dp z 32)) σ):(aj bH M).c 67 [.bytes [32],.int z] σ Q:=by
 refine fuel hM fun N=>bZ (N:=N+29) (loc:=[(84,.val (.bytes [32])),(5,.val (.int z))]) rfl rfl rfl ?_
 have e1:(((z:Int).fdiv ((([32]:List Int).length:Nat):Int))+1)=((z+1:Nat):Int):=by
  rw [nH];simp
 refine jB rfl rfl (wX (ar rfl (aJ (cC (eP (bX rfl (aH (bX rfl (bh rfl (fw rfl (iq (by rfl) (ag (cn ?_)))))))))))))
 rw [e1]
 refine jO (by simp only [eZ];simp;lia) ?_
 refine bn (db (ae rfl (bn ?_)))
 refine jj (by lia) (by rw [cZ];simp;lia) ?_
 rw [DK,ic,e7,Ia,ET (by lia)]
 exact q
noncomputable abbrev NJ:List Nat:=[102,105,103,117,114,101]
noncomputable abbrev QE:List Nat:=[83,80,65,67,69]
theorem Tu (hM:30<=M) (ho:am σ o=some (.tup [.str NJ,.str QE])) (q:∀τ,Q (.bytes [32]) (σ++τ)):(aj bH M).c 74 [.obj o] σ Q:=by
 exact fuel hM fun N=>bZ (N:=N+29) (loc:=[(114,.val (.obj o))]) rfl rfl rfl (bJ (aA (di rfl rfl (f0 ho rfl rfl (ag (bw (ar rfl (aJ (ao (dj (eO (BZ (fP (ag (fP (ag (fP (ag (fP (ag (fP (ag (xm (eO (ae rfl (ag (f0 (au ho) rfl rfl (Mb aE rfl (q _)))))))))))))))))))))))))))))
end
def px (k:List Nat):List Nat:=cond (aF k gV) gV (cond (aF k gf) z7 (cond (aF k lU) Qq jn))
def wH (n:Nat) (k:List Nat) (z:Nat):List (Nat×CV):=[(11,.str (px k)),(5,.int z),(63,cond (aF k gV) .none (.obj (n+2))),(85,.str vP),(14,.str xz),(86,.bool false),(87,.bool (aF k i5)),(79,.bool false),(12,.int (0:Nat)),(2,.int (0:Nat)),(13,.bool false)]
def kR (n:Nat) (k:List Nat) (z:Nat) (σ:al):Prop:=∃σ0 τ,σ0.length=n/\σ=σ0++zW n (pV k z)++τ
noncomputable abbrev nQ (k:List Nat):Prop:=k=qx\/k=i5\/k=gf\/k=lU\/k=gV
theorem jc:∀σ τ,kR n k z σ->kR n k z (σ++τ):=by
 rintro σ τ ⟨σ0,τ0,h1,rfl⟩
 exact ⟨σ0,τ0++τ,h1,by simp [Di]⟩
theorem gr (h:kR n k z σ) (e:am (pV k z) i=some co):am σ (n+i)=some (Oo n co):=by
 refine dG h fun σ0 τ zz1 zz2=>?_
 clear h
 subst zz1 zz2
 rw [Di,bx]
 refine au ?_
 rw [aO,DH,←aO,e];rfl
theorem iM (hk:nQ k):∀σ,kR n k z σ->∃e,aM σ (.obj n)=some (4,e,wH n k z):=by
 intro σ h
 refine ⟨n+1,?_⟩
 have h0:am σ n=some (.inst 4 (n+1)):=by rcases hk with rfl|rfl|rfl|rfl|rfl<;>exact gr h (i:=0) rfl
 have h1:am σ (n+1)=some (.attrs (wH n k z)):=by rcases hk with rfl|rfl|rfl|rfl|rfl<;>exact gr h (i:=1) rfl
 unfold aM
 simp only [h0,h1]
theorem Nn:∀{n j:Nat},j+n=H.length->lh (Dp n [88]) H j=H.drop j:=by
 intro x0
 induction x0 with
 |zero=>
  intro j h
  rw [Hn (by lia)];rfl
 |succ n ihh=>
  intro j h
  rw [Fx]
  show H.getD j 0::lh (Dp n [88]) H (j+1)=_
  rw [ihh (by lia),DP,DA (by lia:j<H.length),JM (by lia:j<H.length)]
  rfl
theorem MM:∀{n:Nat},rF (Dp n [88])=n:=by
 intro x0
 induction x0 with
 |zero=>
  exact rfl
 |succ n ihh=>
  rw [Fx];show rF (Dp n [88])+1=_;rw [ihh]
theorem N8:(Dp n ([88]:List Nat)).filter eY=Dp n [88]:=by
 rw [List.filter_eq_self]
 intro a h
 rw [E0 h];rfl
theorem zc (hM:140<=M) (hs:kR n gf z σ) (h3:3<=z) (h9:z<=20) (hl:∀x∈l,0<=x/\x<256) (hl2:l.length<=500) (q:∀τ,Q (.bytes (f6 gf z l)) (σ++τ)):(aj bH M).c 45 [.obj (n+2),.bytes l] σ Q:=by
 have e1:z-2+1=z-1:=by obtain ⟨w,rfl⟩:=G8 h3;rfl
 have e2:z-2+1+1=z:=by obtain ⟨w,rfl⟩:=G8 h3;rfl
 have h2:am σ (n+2)=some (.inst 0 (n+3)):=gr hs (i:=2) rfl
 have h3':am σ (n+3)=some (.attrs (NY n [(9,.str ([88,66]++Dp (z-2) 88)),(10,.obj 4),(11,.str z7),(12,.int (0:Nat)),(2,.int (0:Nat)),(13,.bool false),(5,.int z)])):=gr hs (i:=3) rfl
 have h4:am σ (n+4)=some (.list [.obj (n+5),.obj (n+6),.obj (n+7)]):=gr hs (i:=4) rfl
 have h5:am σ (n+5)=some (.tup [.str [88],.int (1:Nat)]):=gr hs (i:=5) rfl
 have h6:am σ (n+6)=some (.tup [.str [66],.int (1:Nat)]):=gr hs (i:=6) rfl
 have h7:am σ (n+7)=some (.tup [.str [88],.int ((z-2:Nat):Int)]):=gr hs (i:=7) rfl
 have hi:aM σ (.obj (n+2))=some (0,n+3,NY n [(9,.str ([88,66]++Dp (z-2) 88)),(10,.obj 4),(11,.str z7),(12,.int (0:Nat)),(2,.int (0:Nat)),(13,.bool false),(5,.int z)]):=by
  unfold aM
  simp only [h2,h3']
 have hp:bC [([88],1),([66],1),([88],z-2)]=[88]::[66]::Dp (z-2) [88]:=by
  show Dp 1 [88]++(Dp 1 [66]++(Dp (z-2) [88]++[]))=_
  rw [DG];rfl
 have hf:(bC [([88],1),([66],1),([88],z-2)]).filter eY=[88]::Dp (z-2) [88]:=by
  rw [hp,J5 (by rfl),J6 (by decide),N8]
 have hlen:((bC [([88],1),([66],1),([88],z-2)]).filter eY).length=z-1:=by rw [hf,DC,DD];exact e1
 have hpl:(bC [([88],1),([66],1),([88],z-2)]).length=z:=by rw [hp,DC,DC,DD];exact e2
 refine TW (sy:=[([88],1),([66],1),([88],z-2)]) (by rw [hpl];simp;lia) hi rfl h4 ⟨h5,h6,h7,trivial⟩ (by rw [hpl];lia) (fun s h=>?_) ?_ hl (by lia) fun τ=>?_
 ·rw [hp] at h
  simp only [Dv] at h
  rcases h with rfl|rfl|h
  ·exact .inr rfl
  ·exact .inl rfl
  ·exact .inr (E0 h)
 ·rw [hlen,hp]
  show rF (Dp (z-2) [88])+1<=z-1
  rw [MM];exact Eg e1
 ·rw [hlen,hp]
  have hL:(cP l (z-1)).length=z-1:=dZ
  have e:lh ([88]::[66]::Dp (z-2) [88]) (cP l (z-1)) 0=f6 gf z l:=by
   show (cP l (z-1)).getD 0 0::32::lh (Dp (z-2) [88]) (cP l (z-1)) 1=(cP l (z-1)).take 1++[32]++(cP l (z-1)).drop 1
   rw [Nn (by rw [hL];exact (Nat.add_comm _ _).trans e1)]
   cases hpd:cP l (z-1) with
   |nil=>rw [hpd] at hL;simp at hL;lia
   |cons a r=>rfl
  rw [e]
  exact q τ
theorem Ul (hM:20<=M) (hi:aM σ (.obj i)=some (4,d,at_)) (ha:lk at_ 11=some (.str jn)) (q:Q (.bytes l) σ):(aj bH M).c 70 [.obj i,.bytes l] σ Q:=by
 exact fuel hM fun N=>bZ (N:=N+19) (loc:=[(88,.val (.obj i)),(84,.val (.bytes l))]) rfl rfl rfl (bJ (aA (aw rfl ‹_› (by first|rfl|assumption) rfl (ag (CX (aI rfl (B7 rfl q)))))))
theorem Vn (hM:170<=M) (hk:k=qx\/k=i5\/k=gf\/k=lU) (hs:kR n k z σ) (h3:3<=z) (h9:z<=20) (hl:∀x∈l,0<=x/\x<256) (hl2:l.length<=500) (q:∀τ,Q (.bytes (f6 k z l)) (σ++τ)):(aj bH M).c 71 [.obj n,.bytes l] σ Q:=by
 refine fuel hM fun N=>bZ (N:=N+169) (loc:=[(88,.val (.obj n)),(84,.val (.bytes l))]) rfl rfl rfl ?_
 refine aG (iM (by rcases hk with h|h|h|h<;>simp [nQ,h]) _ hs) fun e hi=>?_
 have a11:lk (wH n k z) 11=some (.str (px k)):=rfl
 have a5:lk (wH n k z) 5=some (.int z):=rfl
 have a87:lk (wH n k z) 87=some (.bool (aF k i5)):=rfl
 rcases hk with rfl|rfl|rfl|rfl
 ·refine bJ (aA (aw rfl ‹_› (by first|rfl|assumption) rfl (ag (bw (ar rfl (aJ (cC (aK (dO rfl (ac (aw rfl ‹_› (by first|rfl|assumption) rfl (ac (aw rfl ‹_› (by first|rfl|assumption) rfl (av rfl (ai rfl (Mj (by lia) hl2 (by lia) [.bool false] (.inr rfl) ?_))))))))))))))))
  have:=q []
  rw [DG] at this
  exact this
 ·refine bJ (aA (aw rfl ‹_› (by first|rfl|assumption) rfl (ag (bw (ar rfl (aJ (cC (aK (dO rfl (ac (aw rfl ‹_› (by first|rfl|assumption) rfl (ac (aw rfl ‹_› (by first|rfl|assumption) rfl (av rfl (ai rfl (Q8 (by lia) hl2 (by lia) ?_))))))))))))))))
  have:=q []
  rw [DG] at this
  exact this
 ·have a63:lk (wH n gf z) 63=some (.obj (n+2)):=rfl
  exact bJ (aA (aw rfl ‹_› (by first|rfl|assumption) rfl (ag (bw (aI rfl (cC (aK (ac (aw rfl ‹_› (by first|rfl|assumption) rfl (av rfl (ai rfl (zc (by lia) hs h3 h9 hl hl2 fun τ=>q τ))))))))))))
 ·refine bJ (aA (aw rfl ‹_› (by first|rfl|assumption) rfl (ag (bw (ar rfl (aJ (cC (aK (dO rfl (ac (aw rfl ‹_› (by first|rfl|assumption) rfl (ac (aw rfl ‹_› (by first|rfl|assumption) rfl (av rfl (ai rfl (Mj (by lia) hl2 (by lia) [.bool false] (.inr rfl) ?_))))))))))))))))
  have:=q []
  rw [DG] at this
  exact this
theorem pv (hk:nQ k):fm (px k) [iU,jp]=false/\(∀a,px k≠[a])/\ky (px k)=true:=by
 rcases hk with rfl|rfl|rfl|rfl|rfl<;>exact ⟨rfl,(fun a h=>by cases h),rfl⟩
theorem Su (hM:200<=M) (hk:nQ k) (hi:aM σ (.obj i)=some (4,d,at_)) (ha:lk at_ 11=some (.str jn)) (hs:kR n k z σ) (h3:k=gV\/3<=z) (h9:z<=20) (hl:∀x∈l,0<=x/\x<256) (hl2:l.length<=500) (q:∀τ,Q (.bytes (f6 k z l)) (σ++τ)):(aj bH M).c 73 [.obj i,.bytes l,.obj n] σ Q:=by
 refine fuel hM fun N=>bZ (N:=N+199) (loc:=[(110,.val (.obj i)),(84,.val (.bytes l)),(109,.val (.obj n))]) rfl rfl rfl (aG (iM hk _ hs) fun e hn=>?_)
 have a11:lk (wH n k z) 11=some (.str (px k)):=rfl
 have a5:lk (wH n k z) 5=some (.int z):=rfl
 refine eU (pv hk) fun m1 m2 m3=>?_
 by_cases hg:k=gV
 ·subst hg
  refine bJ (lT (gM (aK (ac (aw rfl ‹_› (by first|rfl|assumption) rfl (ac (aw rfl ‹_› (by first|rfl|assumption) rfl (av rfl (aY rfl (RI m3 (ar rfl (aJ (bJ (iJ (aA (aw rfl ‹_› (by first|rfl|assumption) rfl (ag (bw (ar rfl (iJ (aA (aw rfl ‹_› (by first|rfl|assumption) rfl (ag (bw (aI rfl (aI rfl (cC (aK (dO rfl (ac (aw rfl ‹_› (by first|rfl|assumption) rfl (av rfl (ai rfl (Mj (by lia) hl2 (by lia) [] (.inl rfl) ?_))))))))))))))))))))))))))))))))))
  have:=q []
  rw [DG] at this
  exact this
 ·have hk4:k=qx\/k=i5\/k=gf\/k=lU:=by
   rcases hk with h|h|h|h|h
   ·exact .inl h
   ·exact .inr (.inl h)
   ·exact .inr (.inr (.inl h))
   ·exact .inr (.inr (.inr h))
   ·exact absurd h hg
  refine bJ (lT (gM (aK (ac (aw rfl ‹_› (by first|rfl|assumption) rfl (ac (aw rfl ‹_› (by first|rfl|assumption) rfl (av rfl (aY rfl (RI m3 (ar rfl (aJ (bJ (iJ (aA (aw rfl ‹_› (by first|rfl|assumption) rfl (ag (bw (ar rfl (iJ (aA (aw rfl ‹_› (by first|rfl|assumption) rfl (ag (bw ?_))))))))))))))))))))))))
  refine ar (by rcases hk4 with rfl|rfl|rfl|rfl<;>rfl) ?_
  refine oR (ar rfl (aJ (bJ (aA (aw rfl ‹_› (by first|rfl|assumption) rfl (fk rfl (pS m1 m2 (ar rfl (aJ (cC (aK (dO rfl (ac (bj rfl (ai rfl (Ul (by lia) hi ha (av rfl ?_)))))))))))))))))
  refine ai rfl (Vn (by lia) hk4 hs (by rcases h3 with h|h;exact absurd h hg;exact h:3<=z) h9 hl hl2 fun τ=>?_)
  exact q τ
theorem Bn:f6 k z (Dp z 32)=f6 k z []:=by
 have e1:Cb (Dp z 32) z=Cb [] z:=by simp [Cb]
 have e2:zX (Dp z 32) z=zX [] z:=by simp [zX]
 have e3:cP (Dp z 32) (z-1)=cP [] (z-1):=by
  unfold cP
  simp
  try (rw [ET (by lia)];simp)
 unfold f6
 rw [e1,e2,e3]
theorem vY (h:k≠gf):f6 k z []=Dp z 32:=by
 unfold f6
 cases aF k i5 with
 |true=>simp [zX]
 |false=>
  have:aF k gf=false:=by
   cases hb:aF k gf with
   |false=>rfl
   |true=>exact absurd (cg.mp hb) h
  rw [this]
  simp [Cb]
theorem SS (hM:200<=M) (hk:nQ k) (hs:kR n k z σ) (h3:k=gV\/3<=z) (h9:z<=20) (ho:am σ o=some (.tup [.str NJ,.str QE])) (q:∀τ,Q (.bytes (f6 k z [])) (σ++τ)):(aj bH M).c 76 [.obj o,.obj n] σ Q:=by
 refine fuel hM fun N=>bZ (N:=N+199) (loc:=[(114,.val (.obj o)),(88,.val (.obj n))]) rfl rfl rfl (aG (iM hk _ hs) fun e hn=>?_)
 have a11:lk (wH n k z) 11=some (.str (px k)):=rfl
 have a5:lk (wH n k z) 5=some (.int z):=rfl
 refine eU (pv hk) fun m1 m2 m3=>?_
 have hin:aF (px k) [105,110,100,101,120]=false:=by rcases hk with rfl|rfl|rfl|rfl|rfl<;>rfl
 have fin:∀{τ:al} {Kf:Nat} {Qe:bu},(∀τ2,Qe (.bytes (f6 k z [])) (σ++τ++τ2))->(aj bH (Kf+170)).e (.ife false (.cmp false (.att (.loc 88) 11) [(.eq,(.cst (.str [97,108,110,117,109,45,101,100,105,116,101,100])))]) (.calF 45 [(.att (.loc 88) 63),(.loc 9)]) (.loc 9)) [(114,.val (.obj o)),(88,.val (.obj n)),(9,.val (.bytes (Dp z 32)))] (σ++τ) Qe:=fun {τ Kf Qe} q=>by
  have hn':=bv (τ:=τ) hn
  by_cases hi:k=gf
  ·subst hi
   have a63:lk (wH n gf z) 63=some (.obj (n+2)):=rfl
   refine iC (aA (aw rfl ‹_› (by first|rfl|assumption) rfl (ag (bw (aI rfl (aK (ac (aw rfl ‹_› (by first|rfl|assumption) rfl (av rfl ?_)))))))))
   refine ai rfl (zc (by lia) (jc _ _ hs) (by rcases h3 with h|h;cases h;exact h:3<=z) h9 (fun x hx=>by rw [E0 hx];decide) (by rw [DD];lia) fun τ2=>?_)
   rw [Bn]
   exact q τ2
  ·rw [vY hi] at q
   refine iC (aA (aw rfl ‹_› (by first|rfl|assumption) rfl (ag (bw ?_))))
   refine ar (by rcases hk with rfl|rfl|rfl|rfl|rfl;rfl;rfl;exact absurd rfl hi;rfl;rfl) ?_
   walk_at "r"
   have:=q []
   rw [DG] at this
   exact this
 by_cases hl:k=lU
 ·subst hl
  refine bJ (aA (aw rfl ‹_› (by first|rfl|assumption) rfl (fk rfl (pS m1 m2 (ar rfl (aJ (bJ (iJ (aA (aw rfl ‹_› (by first|rfl|assumption) rfl (ag (bw (ar hin (iJ (gi (aA (aw rfl ‹_› (by first|rfl|assumption) rfl (ag (bw (aI rfl (gi (jd rfl (fh (av rfl (Cj (au ho) aE rfl rfl (ar rfl (ar rfl (oR (ar rfl (aJ (dw (aK (ac (bj rfl (ai rfl (Tu (by lia) (au ho) fun τ=>?_))))))))))))))))))))))))))))))))))))
  have hn2:=bv (τ:=τ) (bv (τ:=[.tup [.str NJ,.str [90,69,82,79]]]) hn)
  refine ac (aw rfl ‹_› (by first|rfl|assumption) rfl (av rfl (ai rfl (Tz (by lia) (by lia) (aT rfl (ao (dj ?_)))))))
  rw [Di]
  refine fin fun τ2=>?_
  rw [Di]
  exact q _
 ·refine bJ (aA (aw rfl ‹_› (by first|rfl|assumption) rfl (fk rfl (pS m1 m2 (ar rfl (aJ (bJ (iJ (aA (aw rfl ‹_› (by first|rfl|assumption) rfl (ag (bw (ar hin (iJ (gi (aA (aw rfl ‹_› (by first|rfl|assumption) rfl (ag (bw ?_)))))))))))))))))))
  refine ar (by rcases hk with rfl|rfl|rfl|rfl|rfl;rfl;rfl;rfl;exact absurd rfl hl;rfl) ?_
  refine ar rfl (oR (ar rfl (aJ (dw (aK (ac (bj rfl (ai rfl (Tu (by lia) ho fun τ=>?_)))))))))
  have hn2:=bv (τ:=τ) hn
  refine ac (aw rfl ‹_› (by first|rfl|assumption) rfl (av rfl (ai rfl (Tz (by lia) (by lia) (aT rfl (ao (dj (fin fun τ2=>?_))))))))
  rw [Di]
  exact q _
theorem RZ (hM:260<=M) (hk:nQ k) (hs:kR n k z σ) (h3:k=gV\/3<=z) (h9:z<=20) (hl:∀x∈l,0<=x/\x<256) (hl2:l.length<=20) (q:∀τ,Q (.bytes (f6 k z l)) (σ++τ)):(aj bH M).c 77 [.bytes l,.obj n] σ Q:=by
 refine fuel hM fun N=>aG (iM hk _ hs) fun e hj=>?_
 have a11:lk (wH n k z) 11=some (.str (px k)):=rfl
 refine eU (pv hk) fun m1 m2 m3=>bZ (N:=N+259) (loc:=[(84,.val (.bytes l)),(88,.val (.obj n))]) rfl rfl rfl ?_
 show (aj bH (N+259)).b QI _ _ _
 cases l with
 |nil=>
  refine bJ (aA (bh rfl (fw rfl (ag (jv (ar rfl (aJ (bJ (aA (aw rfl ‹_› (by first|rfl|assumption) rfl (fh (av rfl (mn aE rfl (ar m1 (aJ (cC (aK (ac (fh (av rfl (av rfl (ai rfl (SS (by lia) hk (jc _ _ (jc _ _ hs)) h3 h9 aE fun τ=>?_)))))))))))))))))))))))
  rw [Di,Di]
  exact q _
 |cons a l=>
  refine bJ (aA (bh rfl (fw (Dh (by lia)) (ag (jv (aI (bk (by simp)) (cC (aK (ac (bj rfl (aY rfl (TC (Dh (by lia)) (av rfl (ai rfl (Su (i:=σ.length) (d:=σ.length+1) (at_:=jq (a::l).length) (by lia) hk ?_ rfl (jc _ _ hs) h3 h9 hl (by lia) fun τ=>?_)))))))))))))))
  ·have e1:am (σ++[.inst 4 (σ.length+1),.attrs (jq (a::l).length)]) (σ.length+1)=some (.attrs (jq (a::l).length)):=by rw [bx];rfl
   have e2:am (σ++[.inst 4 (σ.length+1),.attrs (jq (a::l).length)]) σ.length=some (.inst 4 (σ.length+1)):=by rw [aS];rfl
   unfold aM
   simp only [e1,e2]
  ·rw [Di]
   exact q _
theorem xi (h:2<=z):(f6 k z l).length=z:=by
 unfold f6
 cases aF k i5 with
 |true=>exact Ak
 |false=>
  cases aF k gf with
  |false=>exact Bw
  |true=>
   have:=dZ (l:=l) (m:=z-1)
   simp only [cond_true,cond_false,Ds,Ej,D7,DC,Ew,this]
   obtain ⟨y,rfl⟩:=G8 h
   show min 1 (y+1)+(0+1)+y=y+2
   rw [ET (Em (Ep y))]
   exact Nat.add_comm 2 y
theorem Qr (hM:310<=M) (hk:nQ k) (hs:kR n k z σ) (h3:k=gV\/3<=z) (h2:2<=z) (h9:z<=20) (hl:∀x∈l,0<=x/\x<256) (hl2:l.length<=20) (q:∀τ,Q (.bool true) (σ++τ)):(aj bH M).c 88 [.obj n,.bytes l,.bytes (f6 k z l)] σ Q:=
 KT (bt:=wH n k z) (St:=kR n k z) (sz:=z) hM ⟨jc,iM hk,rfl,by lia,xi h2,fun {M σ' Q'} hM' hs' q'=>RZ (by lia) hk hs' h3 h9 hl hl2 q'⟩ hs q
noncomputable abbrev gD:List Nat:=[122,101,114,111]
noncomputable abbrev kq:List Nat:=[102,105,103,117,114,101]
def LS (σ:al) (A:List (Nat×CV)) (τ:al):al:=σ++.attrs A::.inst 3 σ.length::τ
def lS (n:Nat) (f:List Nat) (i:Nat) (c b:Bool) (sp:Int):List (Nat×CV):=[(19,.str f),(69,.bool false),(71,.str [32]),(72,.int i),(21,.obj (n+2)),(73,.bool c),(74,.bool b),(75,.int sp)]
theorem L9:am (LS σ A τ) σ.length=some (.attrs A):=by rw [aS];rfl
theorem MV:am (LS σ A τ) (σ.length+1)=some (.inst 3 σ.length):=by rw [bx];rfl
theorem qg:am (LS σ A (co::τ)) (σ.length+2)=some co:=by rw [bx];rfl
theorem jR (h:am σ j=some co):am (LS σ A τ) j=some co:=au h
theorem cB:aM (LS σ A τ) (.obj (σ.length+1))=some (3,σ.length,A):=pI MV L9
theorem ss:LS σ A τ++τ'=LS σ A (τ++τ'):=by unfold LS;simp
theorem dh:aU (LS σ A τ) σ.length (.attrs A')=LS σ A' τ:=by rw [bU];rfl
theorem AV:aU (LS σ A (co::τ)) (σ.length+2) co'=LS σ A (co'::τ):=by rw [fj];rfl
theorem MP:(LS σ A τ).length=σ.length+2+τ.length:=by unfold LS;simp;lia
theorem dW {o e:CE} {x:Nat} {ih:Ih} {Q:Fl->aP->al->Prop} (q:ih.e e loc σ fun v σ=>ih.e o loc σ fun o σ=>r5 σ o fun c0 d0 l0=>cond (io T c0 x&&Dn l0.length 100) (Q .next loc (aU σ d0 (.attrs (cu l0 x v)))) False):cN T ih (.asgA o x e) loc σ Q:=q
theorem dP {x:Nat} {P:Nat->List (Nat×CV)->Prop} (h:(io T 3 x&&Dn A.length 100)=true) (q:P σ.length A):r5 (LS σ A τ) (.obj (σ.length+1)) fun c0 d0 l0=>cond (io T c0 x&&Dn l0.length 100) (P d0 l0) False:=
 tJ cB (by rw [h];exact q)
theorem Ct (q:eC ih as loc (LS σ A (.list F::τ)) fun vs σ'=>cO s σ' .append 2 (.obj (σ.length+2)) vs Q):cond (jK .append (bz (LS σ A (.list F::τ)) (.obj (σ.length+2)))) (eC ih as loc (LS σ A (.list F::τ)) fun vs σ'=>cO s σ' .append (bz (LS σ A (.list F::τ)) (.obj (σ.length+2))) (.obj (σ.length+2)) vs Q) False:=l9 qg q
theorem Cw (h:F.length<=1000) (q:Q .none (LS σ A (.list (F++[v])::τ))):cO s (LS σ A (.list F::τ)) .append 2 (.obj (σ.length+2)) [v] Q:=by
 refine ut qg (Dh (by lia)) ?_
 rw [AV];exact q
theorem uJ (q:(aj T N).e o loc σ fun o σ=>r5 σ o fun c0 d0 l0=>PM (lk l0 x) (hK (T.cl c0) fun k=>hK (lk k.mths x) fun f=>eC (aj T N) as loc σ fun vs σ=>dD T (aj T N) f (o::vs) σ Q)):(aj T (N+1)).e (.mth o x as) loc σ Q:=q
theorem qu (h1:lk A x=none) (h2:T.cl 3=some k) (h3:lk k.mths x=some f) (q:eC ih as loc (LS σ A τ) fun vs σ'=>dD T ih f (.obj (σ.length+1)::vs) σ' Q):
  r5 (LS σ A τ) (.obj (σ.length+1)) fun c0 d0 l0=>PM (lk l0 x) (hK (T.cl c0) fun k=>hK (lk k.mths x) fun f=>eC ih as loc (LS σ A τ) fun vs σ'=>dD T ih f (.obj (σ.length+1)::vs) σ' Q):=
 tJ cB (by rw [h1];exact fA h2 (fA h3 q))
theorem M5 (h:(r0 i x.length&&Dn x.length 100000)=true) (h2:(x.drop (cx i x.length)).take 1=y) (q:Q (.str y) σ):gQ s T σ (.str x) (.int i) Q:=bf h (h2▸q)
theorem sr (h:Dn x.length 100000=true) (q:Q (.int x.length) σ):cQ s T σ .len [.str x] Q:=bf h q
theorem MS (h:Dn (a.length+b.length) 100000=true) (q:Q (.str (a++b)) σ):dJ s T σ .add (.str a) (.str b) Q:=bf h q
theorem tB (h:(Dn a.length 16&&(dk (-1000) n&&dk n 1000))=true) (q:Q (.str (lZ n.toNat a)) σ):dJ s T σ .mul (.str a) (.int n) Q:=bf h q
theorem Ad {x:List Nat} {a b:Nat} (h:Dn x.length 16=true) (ha:a<=1000) (hb:b<=1000) (q:Q (.str (lZ ((a:Int)-b).toNat x)) σ):dJ s T σ .mul (.str x) (.int ((a:Int)-b)) Q:=tB (by rw [h,xD ha hb]) q
theorem Qx (h:(dk 0 i&&eB i (10^20))=true) (q:Q (.str (iL 21 i.toNat)) σ):cQ s T σ .str [.int i] Q:=bf h q
theorem My {k:Nat} {l:List (List Nat×CV)} {x:List Nat} {v:CV} {Q:al->Prop} (h0:am σ k=some (.dict l)) (h:Dn l.length 100=true) (q:Q (aU σ k (.dict (iV l x v)))):oF s σ (.obj k) (.str x) v Q:=sO h0 (bf h q)
theorem Al (h0:am σ i=some (.list l)) (q:eC ih as loc σ fun vs σ'=>cO s σ' .count 2 (.obj i) vs Q):cond (jK .count (bz σ (.obj i))) (eC ih as loc σ fun vs σ'=>cO s σ' .count (bz σ (.obj i)) (.obj i) vs Q) False:=za (xn h0) rfl q
theorem Ot (h0:am σ i=some (.list l)) (h1:fx l=some r) (h:Dn r.length 100000=true) (q:Q (.int (nO x r)) σ):cO s σ .count 2 (.obj i) [.str x] Q:=gl h0 (ly h1 (bf h q))
theorem BF (h0:am σ i=some (.dict l)) (q:eC ih as loc σ fun vs σ'=>cO s σ' .get 3 (.obj i) vs Q):cond (jK .get (bz σ (.obj i))) (eC ih as loc σ fun vs σ'=>cO s σ' .get (bz σ (.obj i)) (.obj i) vs Q) False:=za (by unfold bz;dsimp only;rw [h0]) rfl q
theorem O7 (h0:am σ i=some (.dict l)) (h1:w8 l x=some v) (q:Q v σ):cO s σ .get 3 (.obj i) [.str x,d] Q:=sO h0 (bf rfl (by rw [h1];exact q))
theorem ym (q:eC ih as loc σ fun vs σ'=>cO s σ' .join 1 (.str x) vs Q):cond (jK .join (bz σ (.str x))) (eC ih as loc σ fun vs σ'=>cO s σ' .join (bz σ (.str x)) (.str x) vs Q) False:=q
theorem Dd (h0:am σ i=some (.list l)) (h1:fx l=some r) (h:Dn ((r.map (·.length)).sum+r.length*x.length) 100000=true) (q:Q (.str (jz x r)) σ):cO s σ .join 1 (.str x) [.obj i] Q:=gl h0 (ly h1 (bf h q))
theorem xh {c:List Nat} {k:Nat} {l:List CV} {r:List (List Nat)} {Q:Bool->Prop} (h0:am σ k=some (.list l)) (h1:fx l=some r) (q:Q (fm c r)):dn s T σ .isin (.str c) (.obj k) Q:=kz h0 (ly h1 q)
theorem Nq {c:List Nat} {k:Nat} {l:List CV} {r:List (List Nat)} {Q:Bool->Prop} (h0:am σ k=some (.list l)) (h1:fx l=some r) (q:Q (!fm c r)):dn s T σ .notin (.str c) (.obj k) Q:=xh (s:=s) (Q:=fun r=>Q (!r)) h0 h1 q
theorem f5 {l:List (List Nat)}:fx (l.map .str)=some l:=xg (f:=Py) (g:=CV.str) fun Z0=>rfl
theorem Ma {tg:List Nat} {j k i:Nat} {L R:List CV} {b:List CS} {Q:Fl->aP->al->Prop} (h1:am σ j=some (.list L)) (h2:am σ k=some (.list R)) (h3:am L i=none) (q:Q .next loc σ):(aj T (N+1)).f tg true (.zip j k i) b loc σ Q:=by
 have e:cY σ (.zip j k i)=.stop:=(gy h1).trans ((gy h2).trans (vH h3))
 show iO (aj T N) tg true (.zip j k i) b loc σ Q
 unfold iO
 rw [e];exact q
theorem Nf {tg:List Nat} {j k i:Nat} {L R:List CV} {v w:CV} {b:List CS} {Q:Fl->aP->al->Prop} (h1:am σ j=some (.list L)) (h2:am σ k=some (.list R)) (h3:am L i=some v) (h4:am R i=some w) (q:fE loc σ tg [v,w] fun loc σ=>(aj T N).b b loc σ fun fl loc σ=>match fl with|.next=>(aj T N).f tg true (.zip j k (i+1)) b loc σ Q|.ret v=>Q (.ret v) loc σ):(aj T (N+1)).f tg true (.zip j k i) b loc σ Q:=by
 have e:cY σ (.zip j k i)=.pair v w (.zip j k (i+1)):=(gy h1).trans ((gy h2).trans ((rB h3).trans (rB h4)))
 show iO (aj T N) tg true (.zip j k i) b loc σ Q
 unfold iO
 rw [e];exact q
theorem TK (hM:20<=M) (hz:fm r [gD,[115,116,97,114],[102,108,111,97,116]]=z) (q:∀τ,Q (.bool z) (σ++τ)):(aj bH M).c 34 [.str r] σ Q:=by
 refine fuel hM fun N=>bZ (N:=N+19) (loc:=[(67,.val (.str r))]) rfl rfl rfl (cC (jC (ae rfl (fh (av rfl (mn aE rfl ?_))))))
 rw [hz]
 exact q _
theorem VO {M i:Nat} {f:List Nat} {sp:Int} (hM:20<=M) (hF:F.length<=500) (q:∀sp',Q .none (LS σ (lS σ.length f i c b sp') (.list (F++[.str [32]])::τ))):(aj bH M).c 39 [.obj (σ.length+1)] (LS σ (lS σ.length f i c b sp) (.list F::τ)) Q:=by
 refine fuel hM fun N=>bZ (N:=N+19) (loc:=[(8,.val (.obj (σ.length+1)))]) rfl rfl rfl (ao (dW (be (ac (aw rfl cB rfl rfl (av rfl (ir qg (Dh (by lia)) (ae rfl (dP (by rfl) ?_)))))))))
 rw [dh]
 exact lV (iT (aw rfl cB rfl rfl (Ct (ac (aw rfl cB rfl rfl (av rfl (Cw (by lia) (aJ (q _)))))))))
def hJ (c:Bool) (r:List Nat) (ch:Nat):Bool:=c||(aF r kq||!aF [ch] [48])
def NK (c:Bool) (ch:Nat):CV:=.str (cond c [ch] [32])
theorem TQ (hM:60<=M) (hi:i<f.length) (hf:f[i]?=some ch) (hfl:f.length<=100) (hr:role=gD\/role=kq) (hF:F.length<=400)
  (q:∀b' sp' τ',Q .none (LS σ (lS σ.length f (i+1) (hJ c role ch) b' sp') (.list (F++[NK (hJ c role ch) ch])::τ'))):(aj bH M).c 40 [.obj (σ.length+1),.str role] (LS σ (lS σ.length f i c b sp) (.list F::τ)) Q:=by
 refine fuel hM fun N=>bZ (N:=N+59) (loc:=[(8,.val (.obj (σ.length+1))),(67,.val (.str role))]) rfl rfl rfl ?_
 have hd:(f.drop (cx ((i:Nat):Int) f.length)).take 1=[ch]:=by
  rw [cy,List.take_one,List.head?_drop,hf];rfl
 refine dw (eO (aw rfl cB rfl rfl (aw rfl cB rfl rfl ?_)))
 refine M5 (by rw [dM hi,Dh (by lia)];rfl) hd ?_
 refine aT rfl (ao (dW (aH (aw rfl cB rfl rfl (ag (cn (ae rfl (dP (by rfl) ?_))))))))
 rw [dh]
 have fin:∀(b2:Bool) (τ2:al),(aj bH (N+59)).b [.asgA (.loc 8) 73 (.bop true false [(.att (.loc 8) 73),(.cmp false (.loc 67) [(.eq,(.cst (.str [102,105,103,117,114,101])))]),(.cmp false (.loc 76) [(.ne,(.cst (.str [48])))])]),.ite true (.att (.loc 8) 73) [.xpr (.mtB true .append (.att (.loc 8) 21) [(.loc 76)])] [.xpr (.mth (.loc 8) 77 [])]] [(8,.val (.obj (σ.length+1))),(67,.val (.str role)),(76,.val (.str [ch]))] (LS σ (lS σ.length f (i+1) c b2 sp) (.list F::τ2)) (fun fl x σ=>match fl with|.ret v=>Q v σ|.next=>Q .none σ):=fun b2 τ2=>by
  have set:∀c',c'=hJ c role ch->(aj bH (N+59)).b [.ite true (.att (.loc 8) 73) [.xpr (.mtB true .append (.att (.loc 8) 21) [(.loc 76)])] [.xpr (.mth (.loc 8) 77 [])]] [(8,.val (.obj (σ.length+1))),(67,.val (.str role)),(76,.val (.str [ch]))] (LS σ (lS σ.length f (i+1) c' b2 sp) (.list F::τ2)) (fun fl x σ=>match fl with|.ret v=>Q v σ|.next=>Q .none σ):=fun c' hc=>by
   cases c' with
   |true=>
    refine bJ (oG (aw rfl cB rfl rfl (aI rfl (lV (iT (aw rfl cB rfl rfl (Ct (av rfl (Cw (by lia) (aJ (aJ ?_)))))))))))
    have:=q b2 sp τ2
    rw [←hc] at this
    exact this
   |false=>
    refine bJ (oG (aw rfl cB rfl rfl (ar rfl (lV (uJ (ae rfl (qu rfl rfl rfl (av rfl (ai rfl (VO (by lia) (by lia) fun sp'=>aJ (aJ ?_)))))))))))
    have:=q b2 sp' τ2
    rw [←hc] at this
    exact this
  cases c with
  |true=>
   refine ao (dW (jE (aw rfl cB rfl rfl (aI rfl (ae rfl (dP (by rfl) ?_))))))
   rw [dh]
   exact set true rfl
  |false=>
   rcases hr with rfl|rfl
   ·refine ao (dW (jE (aw rfl cB rfl rfl (ar rfl (jE (mN rfl rfl (bw (ar rfl (tn (mN rfl rfl (CX (ae rfl (dP (by rfl) ?_)))))))))))))
    rw [dh]
    exact set _ rfl
   ·refine ao (dW (jE (aw rfl cB rfl rfl (ar rfl (jE (mN rfl rfl (bw (aI rfl (ae rfl (dP (by rfl) ?_))))))))))
    rw [dh]
    exact set true rfl
 cases b with
 |true=>
  refine ao (dW (jE (aw rfl cB rfl rfl (aI rfl (ae rfl (dP (by rfl) ?_))))))
  rw [dh]
  exact fin true τ
 |false=>
  refine ao (dW (jE (aw rfl cB rfl rfl (ar rfl (tn (bj rfl (ai rfl (TK (by lia) rfl fun τ2=>?_))))))))
  rw [ss]
  refine ae rfl (dP (by rfl) ?_)
  rw [dh]
  exact fin _ (τ++τ2)
theorem Vw (hM:90<=M) (hi:i<f.length) (hf:f[i]?=some ch) (hfl:f.length<=100) (hr:role=gD\/role=kq) (hF:F.length<=400)
  (q:∀b' sp' τ',Q .none (LS σ (lS σ.length f (i+1) (hJ c role ch) b' sp') (.list (F++[NK (hJ c role ch) ch])::τ'))):(aj bH M).c 41 [.obj (σ.length+1),.str role,.str sg] (LS σ (lS σ.length f i c b sp) (.list F::τ)) Q:=by
 refine fuel hM fun N=>bZ (N:=N+89) (loc:=[(8,.val (.obj (σ.length+1))),(67,.val (.str role)),(14,.val (.str sg))]) rfl rfl rfl ?_
 rcases hr with rfl|rfl
 ·refine bJ (iJ (fH rfl rfl (bw (ar rfl (iJ (gM (bj rfl (ai rfl (TK (by lia) rfl fun τ2=>?_)))))))))
  rw [ss,EX]
  exact aI rfl (aI rfl (lV (uJ (ae rfl (qu rfl rfl rfl (av rfl (ai rfl (TQ (by lia) hi hf hfl (.inl rfl) hF fun b' sp' τ'=>aJ (aJ (q _ _ _))))))))))
 ·exact bJ (iJ (fH rfl rfl (bw (aI rfl (aI rfl (lV (uJ (ae rfl (qu rfl rfl rfl (av rfl (ai rfl (TQ (by lia) hi hf hfl (.inr rfl) hF fun b' sp' τ'=>aJ (aJ (q _ _ _))))))))))))))
theorem RU (hM:60<=M) (q:Q (.obj (σ.length+1)) (LS σ (lS σ.length f 0 false false (-1)) [.list []])):vX bH (aj bH M) 3 [.str f,.bool false,.str [32]] σ Q:=by
 refine fuel hM fun N=>BC _ _ rfl (show dD bH (aj bH (N+60)) 38 [.obj (σ.length+1),.str f,.bool false,.str [32]] (LS σ [] []) _ from (ai rfl (bZ (N:=N+59) (loc:=[(8,.val (.obj (σ.length+1))),(19,.val (.str f)),(69,.val (.bool false)),(71,.val (.str [32]))]) rfl rfl rfl (ao (dW (ae rfl (ae rfl (dP (by rfl) ?_))))))))
 rw [dh]
 refine ao (dW (ae rfl (ae rfl (dP (by rfl) ?_))))
 rw [dh]
 refine ao (dW (ae rfl (ae rfl (dP (by rfl) ?_))))
 rw [dh]
 refine ao (dW (ag (ae rfl (dP (by rfl) ?_))))
 rw [dh]
 refine ao (dW (fD (aL (ae rfl ?_))))
 rw [ss,MP]
 refine dP (by rfl) ?_
 rw [dh]
 refine ao (dW (ag (ae rfl (dP (by rfl) ?_))))
 rw [dh]
 refine ao (dW (ag (ae rfl (dP (by rfl) ?_))))
 rw [dh]
 refine ao (dW (lE (ag (ae rfl (dP (by rfl) ?_)))))
 rw [dh]
 exact aJ q
def du:Nat->Nat->List Nat
 |Z1,0=>[]
 |k,d+1=>du (k/10) d++[48+k%10]
theorem Nt {k:Nat}:du k 0=[]:=rfl
theorem qw {k d:Nat}:du k (d+1)=du (k/10) d++[48+k%10]:=rfl
theorem xA:∀{d k:Nat},(du k d).length=d:=by
 intro x0
 induction x0 with
 |zero=>
  intro _
  exact rfl
 |succ d ihh=>
  intro k
  rw [qw,Ds,ihh];rfl
theorem xu:∀{d:Nat},du 0 d=Dp d 48:=by
 intro x0
 induction x0 with
 |zero=>
  exact rfl
 |succ d ihh=>
  rw [qw,Nat.zero_div,ihh,List.replicate_succ']
theorem vT:∀{d k n:Nat},0<k->k<10^d->d<=n->Dp (d-(iL n k).length) 48++iL n k=du k d/\(iL n k).length<=d:=by
 intro x0
 induction x0 with
 |zero=>
  intro k n h0 h1 _
  exact absurd (DZ h0 (G6 h1)) (EN 0)
 |succ d ihh=>
  intro k y4
  cases y4 with
  |zero=>
   intro _ _ h2
   exact absurd h2 (Nat.not_succ_le_zero _)
  |succ n=>
   intro h0 h1 h2
   simp only [vz,vq,Nt,qw]
   by_cases hk:k<10
   ·have hb:E1 k 10=true:=by rw [IG];exact hk
    rw [hb,cond_true,Nat.div_eq_of_lt hk,xu,LO hk]
    simp
   ·have hb:E1 k 10=false:=FT.mpr fun h=>hk (IG.mp h)
    rw [hb,cond_false]
    refine aD (ihh (k:=k/10) (n:=n) (Nat.div_pos (GD.mp hk) (by decide)) (Nat.div_lt_of_lt_mul (Nat.pow_succ'▸h1)) (Nat.le_of_succ_le_succ h2)) fun e1 e2=>?_
    rw [Ds,List.length_singleton,Nat.add_sub_add_right,←Di,e1]
    exact ⟨rfl,by lia⟩
theorem ub:∀{d k:Nat},(du k d).map FS=bq k d:=by
 intro x0
 induction x0 with
 |zero=>
  intro _
  exact rfl
 |succ d ihh=>
  intro k
  have e:bq (k:Int) (d+1)=bq ((k/10:Nat):Int) d++[48+((k%10:Nat):Int)]:=by
   unfold bq fX
   rw [jJ,GX,Dw]
   rw [(nH (b:=10)),(ik (b:=10))];rfl
  rw [qw,Dw,ihh,e]
  rfl
def mY (s:List Nat):List Nat:=cond (aF s [90]) gD kq
def sU:List (List Nat×CV):=[([57],.str kq),([90],.str gD),([42],.str [115,116,97,114]),([46],.str [112,111,105,110,116]),([86],.str [109,97,114,107]),([80],.str [110,111,110,101]),([66],.str [105,110,115,101,114,116]),([48],.str [105,110,115,101,114,116]),([47],.str [105,110,115,101,114,116]),([44],.str [105,110,115,101,114,116])]
theorem Bl:iV (iV (iV (iV (gx [] [([57],.str kq),([90],.str gD),([42],.str [115,116,97,114]),([46],.str [112,111,105,110,116]),([86],.str [109,97,114,107]),([80],.str [110,111,110,101])]) [66] (.str [105,110,115,101,114,116])) [48] (.str [105,110,115,101,114,116])) [47] (.str [105,110,115,101,114,116])) [44] (.str [105,110,115,101,114,116])=sU:=by kernel_rfl
theorem MQ:∀{l:List (List Nat)},(∀s∈l,s≠[c])->nO [c] l=0:=by
 intro x0
 induction x0 with
 |nil=>
  intro _
  exact rfl
 |cons x l ihh=>
  intro h
  have hb:aF x [c]=false:=by rw [gp];simpa using h x (.head _)
  simp only [MX,zF]
  rw [hb,cond_false,ihh fun s hs=>h s (.tail _ hs)]
def Sh:List CS:=[.ite false (.cmp false (.mtB false .count (.loc 24) [.loc 14]) [(.gt,.cst (.int 1))]) [.ret (some (.loc 14))] []]
theorem UD {k:Nat} {l:List (List Nat)} (hL:am σ k=some (.list (l.map .str))) (hl:l.length<=900):∀(xs:List Nat) {N:Nat} {loc:aP} {Q:Fl->aP->al->Prop},(∀c∈xs,∀s∈l,s≠[c])->lk loc 24=some (.val (.obj k))->(∀k,lk loc 14≠some (.cell k))->(∀loc',Q .next loc' σ)->(aj bH (N+xs.length+20)).f [14] false (.seq (xs.map fun c=>.str [c])) Sh loc σ Q:=by
 intro x0
 induction x0 with
 |nil=>
  intro N loc Q h h1 h2 q
  exact kQ (N:=N+19) (q loc)
 |cons c xs ihh=>
  intro N loc Q h h1 h2 q
  refine fQ (N:=N+xs.length+20) (cw (bl h2 ?_))
  have e1:lk (cu loc 14 (.val (.str [c]))) 24=some (.val (.obj k)):=by rw [ah,if_neg (by decide)];exact h1
  have e2:lk (cu loc 14 (.val (.str [c]))) 14=some (.val (.str [c])):=by rw [ah,if_pos rfl]
  refine bJ (aA (iT (ae ‹_› (Al hL (ac (ae ‹_› (av rfl (Ot hL f5 (Dh (by lia)) (ag (jv ?_))))))))))
  refine ar (by rw [MQ (h c (.head _))];rfl) ?_
  refine aJ (aJ ?_)
  exact ihh (fun c hc=>h c (.tail _ hc)) e1 (fun k=>by rw [e2];simp) q
theorem Va {M k:Nat} {l:List (List Nat)} (hM:50<=M) (hL:am σ k=some (.list (l.map .str))) (hl:l.length<=900) (hs:∀s∈l,s=[90]\/s=[57]) (q:Q (.str []) σ):(aj bH M).c 32 [.obj k] σ Q:=by
 refine fuel hM fun N=>bZ (N:=N+49) (loc:=[(24,.val (.obj k))]) rfl rfl rfl (ao (jX (fk (v:=.str [36,43,45]) rfl (iI ((show ∀σ:al,cI σ (.str [36,43,45])=some (.seq (([36,43,45]:List Nat).map fun c=>.str [c])) from fun Z0=>rfl) _) ?_))))
 rw [show N+48=N+25+([36,43,45]:List Nat).length+20 from rfl]
 refine UD (N:=N+25) hL hl [36,43,45] (fun c hc s hs2=>?_) rfl (fun k h=>by cases h) fun loc'=>ao (dj (ag q))
 simp only [Dv,Eb,or_false] at hc
 rcases hc with rfl|rfl|rfl<;>rcases (hs s hs2) with rfl|rfl<;>simp
def Rz:List CS:=[.ite false (.cmp false (.loc 14) [(.eq,.loc 66)]) [.xpr (.mtB false .append (.loc 21) [.ife false (.cmp false (.cst (.str [108,101,97,100])) [(.isin,.loc 21)]) (.cst (.str [102,108,111,97,116])) (.cst (.str [108,101,97,100]))])] [.xpr (.mtB false .append (.loc 21) [.mtB false .get (.loc 58) [.loc 14,.cst (.str [102,105,120,101,100])]])]]
theorem Rx (hL:am σ0 k=some (.list L)) (hD:am σ0 kd=some (.dict sU)):∀(l:List (List Nat)) {pre:List CV} {N a:Nat} {loc:aP} {τ:al} {done:List (List Nat)} {Q:Fl->aP->al->Prop},L=pre++l.map .str->(∀s∈l,s=[90]\/s=[57])->am τ a=some (.list (done.map .str))->lk loc 21=some (.val (.obj (σ0.length+a)))->lk loc 58=some (.val (.obj kd))->lk loc 66=some (.val (.str []))->(∀k,lk loc 14≠some (.cell k))->done.length+l.length<=900->
  (∀loc' τ',lk loc' 21=some (.val (.obj (σ0.length+a)))->am τ' a=some (.list ((done++l.map mY).map .str))->Q .next loc' (σ0++τ'))->(aj bH (N+l.length+30)).f [14] false (.lst k pre.length) Rz loc (σ0++τ) Q:=by
 intro l0
 induction l0 with
 |nil=>
  intro pre N a loc τ done Q e hs ht h1 h2 h3 h4 hn q
  refine tz (N:=N+29) (au hL) (by rw [e,FL,DG,aO,Ed (DQ _)]) (q loc τ h1 ?_)
  rw [ht,FL,DG]
 |cons c l Rx=>
  intro pre N a loc τ done Q e hs ht h1 h2 h3 h4 hn q
  refine tL (N:=N+l.length+30) (v:=.str c) (au hL) (by rw [e,aO,DO (DQ _),E7];rfl) (cw (bl h4 ?_))
  have g1:lk (cu loc 14 (.val (.str c))) 14=some (.val (.str c)):=by rw [ah,if_pos rfl]
  have g2:lk (cu loc 14 (.val (.str c))) 21=some (.val (.obj (σ0.length+a))):=by rw [ah,if_neg (by decide)];exact h1
  have g3:lk (cu loc 14 (.val (.str c))) 58=some (.val (.obj kd)):=by rw [ah,if_neg (by decide)];exact h2
  have g4:lk (cu loc 14 (.val (.str c))) 66=some (.val (.str [])):=by rw [ah,if_neg (by decide)];exact h3
  have ht1:am (σ0++τ) (σ0.length+a)=some (.list (done.map .str)):=by rw [bx];exact ht
  simp only [DC] at hn
  have hc:=hs c (.head _)
  refine bJ (aA (ae ‹_› (ae ‹_› (bw ?_))))
  refine ar (by rcases hc with rfl|rfl<;>rfl:aF c []=false) ?_
  refine lV (iT (ae ‹_› (l9 ht1 (ac (iT (ae ‹_› (BF (au hD) (ac (ae ‹_› (av rfl ?_))))))))))
  refine O7 (au hD) (by rcases hc with rfl|rfl<;>rfl:w8 sU c=some (.str (mY c))) ?_
  walk_at "q"
  refine ut ht1 (Dh (by rw [Do];lia)) ?_
  refine aJ (aJ ?_)
  rw [fj]
  rw [←(by simp:(pre++[CV.str c]).length=pre.length+1)]
  refine Rx (by rw [e,Di];rfl:L=(pre++[CV.str c])++l.map .str) (fun s h=>hs s (.tail _ h)) (done:=done++[mY c]) (by rw [cF ht,Dw];rfl) g2 g3 g4 (fun k=>by rw [g1];simp) (by simp only [Ds,DC,Ew];lia) fun loc' τ' hl' ht'=>q loc' τ' hl' ?_
  rw [ht',Di];rfl
theorem T0 {M k:Nat} {l:List (List Nat)} (hM:l.length+80<=M) (hL:am σ k=some (.list (l.map .str))) (hl:l.length<=900) (hs:∀s∈l,s=[90]\/s=[57]) (q:∀τ j,am (σ++τ) j=some (.list ((l.map mY).map .str))->σ.length<=j->Q (.obj j) (σ++τ)):(aj bH M).c 33 [.obj k] σ Q:=by
 refine fuel2 hM fun N=>bZ (N:=N+l.length+79) (loc:=[(24,.val (.obj k))]) rfl rfl rfl (dw (BZ (fP (ag (fP (ag (fP (ag (fP (ag (fP (ag (fP (ag (xm (aT rfl (ao (jX (fk (v:=.str [66,48,47,44]) rfl (iI ((show ∀σ:al,cI σ (.str [66,48,47,44])=some (.seq (([66,48,47,44]:List Nat).map fun c=>.str [c])) from fun Z0=>rfl) _) ?_))))))))))))))))))))
 have step:∀{K:Nat} {x:List Nat} {D:List (List Nat×CV)} {loc:aP} {Q:Fl->aP->al->Prop},lk loc 14=some (.val (.str x))->lk loc 58=some (.val (.obj σ.length))->D.length<=100->Q .next loc (σ++[.dict (iV D x (.str [105,110,115,101,114,116]))])->(aj bH (K+20)).b [.asgS false (.loc 58) (.loc 14) (.cst (.str [105,110,115,101,114,116]))] loc (σ++[.dict D]) Q:=fun {K x D loc Q} h1 h2 h3 q=>by
  refine ao (mP (ag (ae ‹_› (ae ‹_› (My aE (Dh h3) (aJ ?_))))))
  rw [bU]
  exact q
 refine fQ (N:=N+l.length+77) (cw (aT rfl (step (K:=N+l.length+57) rfl rfl (by decide) (fQ (N:=N+l.length+76) (cw (gH rfl (step (K:=N+l.length+56) rfl rfl (by decide) (fQ (N:=N+l.length+75) (cw (gH rfl (step (K:=N+l.length+55) rfl rfl (by decide) (fQ (N:=N+l.length+74) (cw (gH rfl (step (K:=N+l.length+54) rfl rfl (by decide) (kQ (N:=N+l.length+73) ?_))))))))))))))))
 rw [Bl]
 refine ao (jM (fh (ac (bj rfl (ai rfl (Va (by lia) (au hL) hl hs (ac (fD (av rfl (av rfl (fY fK (gJ (aT rfl (gJ (aT rfl (nV (ao (jX (ae rfl (iI (hW (au (au (au hL)))) ?_))))))))))))))))))))
 rw [show N+l.length+78=N+48+l.length+30 from by lia]
 rw [Di (σ++[CO.dict sU]) [CO.list []]]
 refine Rx (N:=N+48) (loc:=[(24,.val (.obj k)),(58,.val (.obj σ.length)),(14,.val (.str [44])),(66,.val (.str [])),(21,.val (.obj (σ++[CO.dict sU]).length))]) (σ0:=σ++[.dict sU]) (τ:=[.list []]++[.tup [.str [],.obj (σ++[CO.dict sU]).length]]) (pre:=[]) (done:=[]) (a:=0) (kd:=σ.length) (au hL) aE l rfl hs rfl rfl rfl rfl ?_ (by simp;lia) fun loc' τ' hl' ht'=>?_
 ·intro k h;cases h
 refine ao (dj (ae hl' ?_))
 rw [Di]
 refine q _ _ ?_ (by simp)
 rw [←Di,bx]
 exact ht'
theorem T9 {M p t d:Nat} {n:Int} (hM:60<=M) (hp:aM σ (.obj p)=some (0,e,pt)) (a2:lk pt 2=some (.int ((0:Nat):Int))) (a12:lk pt 12=some (.int d)) (hd:d<=18) (hn:0<=n) (ht:am σ t=some (.tup [.int n,.int 0])) (q:Q (.obj σ.length) (σ++[.tup [.str (du (n.fmod (10^d)).toNat d),.bool false]])):(aj bH M).c 35 [.obj p,.obj t] σ Q:=by
 refine fuel hM fun N=>bZ (N:=N+59) (loc:=[(63,.val (.obj p)),(68,.val (.obj t))]) rfl rfl rfl ?_
 obtain ⟨u,hu⟩:∃u:Nat,n.fmod (10^d)=u:=⟨(n.fmod (10^d)).toNat,by
  have:0<=n.fmod (10^d):=by rw [nu];exact Es _ (Ez.mpr (F8 (by decide)))
  exact (EH this).symm⟩
 have hub:u<10^d:=by
  have h:=FN n (b:=((10^d:Nat):Int)) (Ez.mpr (F8 (by decide)))
  rw [←nu,hu,nu] at h
  exact Ez.mp h
 have hub2:u<10^18:=DZ hub (EM (by decide) hd)
 rw [hu,DK] at q
 refine dw (aH (be (ac (aK (dO rfl (ac (aw rfl ‹_› (by first|rfl|assumption) rfl (av rfl (ai rfl (c2 (by lia) ht (by lia) ?_))))))))))
 rw [Int.pow_zero,Int.mul_one]
 refine av rfl (mU hn (bX rfl (aw rfl ‹_› (by first|rfl|assumption) rfl ?_)))
 refine g8 (by rw [ax (by lia),ax (by lia)];rfl) ?_
 refine eN (by rw [DK,eG rM];rfl) ?_
 rw [DK,hu]
 walk_at "p"
 have out:∀x:List Nat,Dp (d-x.length) 48++x=du u d->x.length<=d->(aj bH (N+59)).b [.ret (some (.tup [(.bin true .add (.bin true .mul (.cst (.str [48])) (.bin true .sub (.att (.loc 63) 12) (.calB true .len [(.loc 9)]))) (.loc 9)),(.bop true true [(.cmp false (.sub true (.loc 68) (.cst (.int 0))) [(.lt,(.cst (.int 0)))]),(.cmp true (.loc 3) [(.gt,(.cst (.int 0)))])])]))] [(63,.val (.obj p)),(68,.val (.obj t)),(3,.val (.int u)),(9,.val (.str x))] σ (fun fl x σ=>match fl with|.ret v=>Q v σ|.next=>Q .none σ):=fun x hx hl=>by
  have er:lZ ((d:Int)-(x.length:Int)).toNat ([48]:List Nat)=Dp (d-x.length) 48:=by
   rw [ic,J8]
  refine cC (fh (ac (aH (bX rfl (aH (aw rfl ‹_› (by first|rfl|assumption) rfl (bh rfl (sr (Dh (by lia)) (dA ?_)))))))))
  refine Ad rfl (by lia) (by lia) ?_
  rw [er]
  walk_at "r"
  refine MS (Dh (by rw [DD,Et hl];lia)) ?_
  rw [hx]
  exact ac (pn (jC (di rfl rfl (f0 ht rfl rfl (ag (kC (ar (cJ hn) (av rfl q))))))))
 by_cases h0:0<u
 ·refine aD (vT h0 hub (n:=21) (by lia)) fun z1 z2=>dw (iC (fH rfl rfl (jv (aI (bk (by lia)) (bh rfl ?_)))))
  refine Qx (by rw [ax (by lia),bk (Ez.mpr (DZ hub2 (by decide)))];rfl) ?_
  rw [DK]
  exact aT rfl (out _ z1 z2)
 ·have hu0:u=0:=Nat.eq_zero_of_not_pos h0
  refine dw (iC (fH rfl rfl (jv (ar (cJ (by rw [hu0];exact Int.le_refl 0)) (ag (aT rfl ?_))))))
  exact out [] (by rw [hu0,xu];simp) (by simp)
def dE:List Nat->Bool->List (List Nat)
 |[],Z1=>[]
 |[c],Z1=>[[c]]
 |c::d::l,b=>cond (hJ b gD c) [c] [32]::dE (d::l) (hJ b gD c)
theorem xK {b:Bool}:dE [] b=[]:=rfl
def mJ (f:List Nat):List Nat:=(dE f false).flatten
def rA:List Int->List Int
 |[]=>[]
 |[c]=>[c]
 |c::d::l=>cond (j5 c 48) (32::rA (d::l)) (c::d::l)
theorem ux:∀{f:List Nat},(dE f true).flatten=f
 |[]=>rfl
 |[c]=>rfl
 |c::d::l=>by
  show c::(dE (d::l) true).flatten=_
  rw [ux]
theorem qC:∀{f:List Nat},(mJ f).map FS=rA (f.map FS)
 |[]=>rfl
 |[c]=>rfl
 |c::d::l=>by
  have e:hJ false gD c=!Dy c 48:=by
   unfold hJ
   rw [show aF gD kq=false from rfl,Ig,Ig]
   show (!(cond (Dy c 48) (aF [] []) false))=_
   cases Dy c 48<;>rfl
  have e2:j5 (FS c) 48=Dy c 48:=by
   rw [fR,cG]
   exact decide_eq_decide.mpr (by rw [KJ];lia)
  show (cond (hJ false gD c) [c] [32]++(dE (d::l) (hJ false gD c)).flatten).map _=cond (j5 (FS c) 48) (32::rA ((d::l).map FS)) ((c::d::l).map FS)
  rw [e,e2]
  cases Dy c 48 with
  |true=>
   show (32::(dE (d::l) false).flatten).map _=_
   rw [DB,←qC];rfl
  |false=>
   rw [ux];rfl
theorem l8:∀{l:List Int},(rA l).length=l.length
 |[]=>rfl
 |[c]=>rfl
 |c::d::l=>by
  show (cond (j5 c 48) (32::rA (d::l)) (c::d::l)).length=_
  cases j5 c 48 with
  |true=>rw [cond_true,DC,l8];rfl
  |false=>rfl
def gL (d:Nat):List (List Nat):=Dp (d-1) gD++[kq]
def gP (d:Nat):List (List Nat):=Dp (d-1) [90]++[[57]]
theorem vJ:(gP d).map mY=gL d:=by
 rw [Dw,Im];rfl
theorem vL (h:i+1<d):am ((gL d).map CV.str) i=some (.str gD):=by
 rw [aO,DH,Eo (by rw [DD];exact KL h),List.getElem?_replicate,if_pos (KL h)];rfl
theorem qB (h:i+1=d):am ((gL d).map CV.str) i=some (.str kq):=by
 subst h
 rw [aO,DH,DO (by rw [DD];exact DQ i),DD,show i-(i+1-1)=0 from E7 i];rfl
theorem sA (h:1<=d):am ((gL d).map CV.str) d=none:=by
 unfold gL
 rw [aO,Ed]
 simp;exact Eg (Et h)
theorem v7 (h:i<d):∃s,am ((gP d).map CV.str) i=some (.str s):=by
 rw [aO,DA (by unfold gP;simp;exact DZ h (Nat.le_add_of_sub_le (DQ _)):i<((gP d).map CV.str).length),Lu]
 exact ⟨_,rfl⟩
theorem mx (h1:x≠gD) (h2:x≠kq):fm x (gL d)=false:=by
 have:∀{l:List (List Nat)},(∀y∈l,y≠x)->fm x l=false:=fun {l}=>by
  induction l with
  |nil=>intro _;rfl
  |cons y l ih=>
   intro h
   simp only [xG,zT]
   have:aF y x=false:=by rw [gp];simpa using h y (.head _)
   rw [this,cond_false,ih fun z hz=>h z (.tail _ hz)]
 refine this fun y hy=>?_
 rcases DL.mp hy with hy|hy
 ·rw [E0 hy];exact FP h1
 ·rw [DW.mp hy];exact FP h2
theorem zq:fm kq (gL d)=true:=by
 have:∀{l m:List (List Nat)} {x:List Nat},fm x m=true->fm x (l++m)=true:=fun {l m x} h=>by
  induction l with
  |nil=>exact h
  |cons y l ih=>
   show cond (aF y x) true (fm x (l++m))=true
   rw [ih];cases aF y x<;>rfl
 exact this rfl
def QQ:List CS:=[.xpr (.mth (.loc 80) 81 [.loc 67,.loc 14])]
theorem Mo:hJ c kq ch=true:=by cases c<;>rfl
theorem Sm (hfl:f.length=d) (hd:1<=d) (hd2:d<=100) (hR:am σ jr=some (.list ((gL d).map .str))) (hS:am σ js=some (.list ((gP d).map .str))):∀(rest:List Nat) {N i:Nat} {c b:Bool} {sp:Int} {F:List (List Nat)} {τ:al} {loc:aP} {Q:Fl->aP->al->Prop},f.drop i=rest->i+rest.length=d->lk loc 80=some (.val (.obj (σ.length+1)))->(∀k,lk loc 67≠some (.cell k))->(∀k,lk loc 14≠some (.cell k))->F.length+rest.length<=300->
  (∀loc' A' τ',(∀x,x≠67->x≠14->lk loc' x=lk loc x)->lk A' 21=some (.obj (σ.length+2))->Q .next loc' (LS σ A' (.list ((F++dE rest c).map .str)::τ')))->(aj bH (N+rest.length+110)).f [67,14] true (.zip jr js i) QQ loc (LS σ (lS σ.length f i c b sp) (.list (F.map .str)::τ)) Q:=by
 intro l0
 induction l0 with
 |nil=>
  intro N i c b sp F τ loc Q hr hi h1 h2 h3 hF q
  rw [Ew,Kp] at hi
  refine Ma (N:=N+109) (jR hR) (jR hS) (by rw [hi];exact sA hd) ?_
  have:=q loc (lS σ.length f i c b sp) τ (fun Z0 Z0 Z0=>rfl) rfl
  rw [xK,DG] at this
  exact this
 |cons ch rest Sm=>
  intro N i c b sp F τ loc Q hr hi h1 h2 h3 hF q
  rw [DC] at hi hF
  have hch:f[i]?=some ch:=by
   have:(f.drop i)[0]?=some ch:=by rw [hr];rfl
   rw [List.getElem?_drop] at this
   simpa using this
  refine aG (v7 (d:=d) (i:=i) (by lia)) fun sg hsg=>?_
  have go:∀role,am ((gL d).map CV.str) i=some (.str role)->(role=gD\/role=kq)->(∀c',c'=hJ c role ch->cond c' [ch] [32]::dE rest c'=dE (ch::rest) c)->(aj bH (N+(ch::rest).length+110)).f [67,14] true (.zip jr js i) QQ loc (LS σ (lS σ.length f i c b sp) (.list (F.map .str)::τ)) Q:=fun role hro hrr he=>by
   refine Nf (N:=N+rest.length+110) (jR hR) (jR hS) hro hsg (gJ (bl h2 (gJ (bl (fun k=>by rw [ah,if_neg (by decide)];exact h3 k) (nV ?_)))))
   have g1:lk (cu (cu loc 67 (.val (.str role))) 14 (.val (.str sg))) 67=some (.val (.str role)):=by rw [ah,if_neg (by decide),ah,if_pos rfl]
   have g2:lk (cu (cu loc 67 (.val (.str role))) 14 (.val (.str sg))) 14=some (.val (.str sg)):=by rw [ah,if_pos rfl]
   have g3:lk (cu (cu loc 67 (.val (.str role))) 14 (.val (.str sg))) 80=some (.val (.obj (σ.length+1))):=by rw [ah,if_neg (by decide),ah,if_neg (by decide)];exact h1
   have g4:∀x,x≠67->x≠14->lk (cu (cu loc 67 (.val (.str role))) 14 (.val (.str sg))) x=lk loc x:=fun x a b=>by rw [ah,if_neg (FP b),ah,if_neg (FP a)]
   generalize cu (cu loc 67 (.val (.str role))) 14 (.val (.str sg))=loc2 at g1 g2 g3 g4
   refine ao (PO (uJ (ae g3 (qu rfl rfl rfl (ac (ae g1 (ac (ae g2 (aL (ai rfl ?_))))))))))
   refine Vw (by lia) (by lia:i<f.length) hch (by lia) hrr (by rw [Do];lia) fun b' sp' τ'=>?_
   walk_at "c"
   rw [(by rw [Dw];rfl:F.map CV.str++[NK (hJ c role ch) ch]=(F++[cond (hJ c role ch) [ch] [32]]).map CV.str)]
   refine Sm (F:=F++[cond (hJ c role ch) [ch] [32]]) (by rw [←List.drop_drop,hr];rfl:f.drop (i+1)=rest) (by lia) g3 (fun k=>by rw [g1];simp) (fun k=>by rw [g2];simp) (by simp only [Ds,DC,Ew];lia) fun loc' A' τ' hl' hA'=>?_
   have:=q loc' A' τ' (fun x a b=>(hl' x a b).trans (g4 x a b)) hA'
   rw [←he _ rfl] at this
   rw [Di]
   exact this
  cases rest with
  |nil=>
   refine go kq (qB (by simpa using hi)) (.inr rfl) fun c' hc=>?_
   rw [Mo] at hc
   subst hc
   rfl
  |cons x l=>
   refine go gD (vL (by simp only [DC] at hi;lia)) (.inl rfl) fun c' hc=>?_
   subst hc
   rfl
theorem Dc (q:eC (aj T N) as loc σ fun vs σ=>vX T (aj T N) c vs σ Q):(aj T (N+1)).e (.calC c as) loc σ Q:=q
theorem NM {tg:List Nat} {i j:CE} {b:List CS} {ih:Ih} {Q:Fl->aP->al->Prop} (q:ih.e i loc σ fun i σ=>ih.e j loc σ fun j σ=>qo i fun i=>qo j fun j=>nx σ i fun Z0=>nx σ j fun Z0=>ih.f tg true (.zip i j 0) b loc σ Q):cN T ih (.forz tg i j b) loc σ Q:=q
theorem AA {ih:Ih} {tg:List Nat} {b:List CS} {i j:Nat} {L R:List CV} {Q:Fl->aP->al->Prop} (h1:am σ i=some (.list L)) (h2:am σ j=some (.list R)) (q:ih.f tg true (.zip i j 0) b loc σ Q):nx σ i fun Z0=>nx σ j fun Z0=>ih.f tg true (.zip i j 0) b loc σ Q:=gl h1 (gl h2 q)
theorem mG:∀{l:List (List Nat)},jz [] l=l.flatten
 |[]=>rfl
 |[x]=>by simp [vg,vp,lX]
 |x::y::r=>by rw [lX,mG];simp
theorem wx:∀{l:List (List Nat)} {b:Nat},(∀x∈l,x.length<=1)->(l.map (·.length)).sum<=l.length:=by
 intro x0
 induction x0 with
 |nil=>
  intro _ _
  exact DQ _
 |cons x l ihh=>
  intro b h
  have h1:=h x (.head _)
  have h2:=ihh (b:=b) fun y hy=>h y (.tail _ hy)
  rw [DB,List.sum_cons,DC]
  lia
theorem uU:∀{f:List Nat} {b:Bool},∀x∈dE f b,x.length<=1
 |[],Z1,x,h=>by cases h
 |[c],Z1,x,h=>by
  rw [DW.mp h];exact DQ _
 |c::d::l,b,x,h=>by
  rcases Dv.mp h with rfl|h
  ·cases hJ b gD c<;>exact DQ _
  ·exact uU x h
theorem pg:∀{f:List Nat} {b:Bool},(dE f b).length=f.length
 |[],Z1=>rfl
 |[c],Z1=>rfl
 |c::d::l,b=>by
  show (dE (d::l) _).length+1=_
  rw [pg];rfl
theorem VP {M p t d k:Nat} {n:Int} {L:List CV} (hM:140<=M) (hp:aM σ (.obj p)=some (0,e,pt)) (a10:lk pt 10=some (.obj k)) (hL:am σ k=some (.list L)) (hs:lg σ (mj dl d 0) L) (a2:lk pt 2=some (.int ((0:Nat):Int))) (a12:lk pt 12=some (.int d)) (hd:2<=d) (hd2:d<=9) (hn:0<=n) (ht:am σ t=some (.tup [.int n,.int 0])) (q:∀τ,Q (.str (mJ (du (n.fmod (10^d)).toNat d))) (σ++τ)):(aj bH M).c 42 [.obj p,.obj t,.bool false] σ Q:=by
 refine fuel hM fun N=>bZ (N:=N+139) (loc:=[(63,.val (.obj p)),(68,.val (.obj t)),(79,.val (.bool false))]) rfl rfl rfl ?_
 have epl:bC (mj dl d 0)=gP d:=by
  show Dp (d-1) [90]++(Dp 1 [57]++[])=_
  rw [DG];rfl
 have hsl:(gP d).length=d:=by unfold gP;rw [Ds,DD];exact Et (by lia)
 have hss:∀s∈gP d,s=[90]\/s=[57]:=fun s h=>by
  rcases DL.mp h with h|h
  ·exact .inl (E0 h)
  ·exact .inr (DW.mp h)
 generalize hu:(n.fmod (10^d)).toNat=u at q
 refine dw (bj rfl ?_)
 refine ai rfl (Tk (by show 2+30<=_;lia) hp a10 hL hs (by rw [epl,hsl];lia) fun τ j hj Z0=>?_)
 rw [epl] at hj
 refine aT rfl (dw (bj rfl ?_))
 refine ai rfl (T0 (by rw [hsl];lia) hj (by rw [hsl];lia) hss fun τ2 j2 hj2 Z0=>?_)
 rw [vJ] at hj2
 refine aT rfl (ao (jM (bj rfl (ai rfl (T9 (by lia) (bv (bv hp)) a2 a12 (by lia) hn (au (au ht)) (fY fK (gJ (aT rfl (gJ (aT rfl (nV ?_)))))))))))
 rw [hu]
 have hj3:am (σ++τ++τ2++[.tup [.str (du u d),.bool false]]) j2=some (.list ((gL d).map .str)):=au hj2
 have hj1:am (σ++τ++τ2++[.tup [.str (du u d),.bool false]]) j=some (.list ((gP d).map .str)):=au (au hj)
 have q2:∀τ',Q (.str (mJ (du u d))) (σ++τ++τ2++[.tup [.str (du u d),.bool false]]++τ'):=fun τ'=>by rw [(by simp [Di]:σ++τ++τ2++[.tup [.str (du u d),.bool false]]=σ++(τ++τ2++[.tup [.str (du u d),.bool false]])),Di];exact q _
 generalize σ++τ++τ2++[.tup [.str (du u d),.bool false]]=S at hj3 hj1 q2
 have fl:(du u d).length=d:=xA
 have fin:(aj bH (N+139)).b [.asg 80 (.calC 3 [(.loc 19),(.loc 69),(.ife false (.cmp false (.cst (.str [115,116,97,114])) [(.isin,(.loc 78))]) (.cst (.str [42])) (.glb 70))]),.forz [67,14] (.loc 78) (.loc 24) [.xpr (.mth (.loc 80) 81 [(.loc 67),(.loc 14)])],.ite false (.cmp false (.cst (.str [108,101,97,100])) [(.isin,(.loc 78))]) [.asgS true (.att (.loc 80) 21) (.att (.loc 80) 75) (.calF 36 [(.sub true (.loc 24) (.mtB true .index (.loc 78) [(.cst (.str [108,101,97,100]))])),(.loc 69)])] [],.ret (some (.mtB true .join (.cst (.str [])) [(.att (.loc 80) 21)]))] [(63,.val (.obj p)),(68,.val (.obj t)),(79,.val (.bool false)),(24,.val (.obj j)),(78,.val (.obj j2)),(19,.val (.str (du u d))),(69,.val (.bool false))] S (fun fl x σ=>match fl with|.ret v=>Q v σ|.next=>Q .none σ):=by
  refine dw (Dc (dO rfl (dO rfl (ac (iC (fH rfl rfl (xh hj3 f5 (ar (mx (by decide) (by decide)) (fk rfl (av rfl (RU (by lia) (aT rfl (ao (NM (ae rfl (ae rfl (AA (jR hj3) (jR hj1) ?_)))))))))))))))))
  rw [show N+138=N+28-d+(du u d).length+110 from by rw [fl,Et (Dr (by assumption:d<=9) (wi rfl))]]
  refine Sm (f:=du u d) (F:=[]) (τ:=[]) fl (by lia) (by lia) hj3 hj1 (du u d) rfl (by lia) rfl (fun k h=>by cases h) (fun k h=>by cases h) (by rw [fl];simp;lia) fun loc' A' τ' hl' hA'=>?_
  refine ao (kh (aA (ag (ae (hl' 78 (by decide) (by decide)) (xh (jR hj3) f5 (ar (mx (by decide) (by decide)) (aJ (ao (dj (iT (ag (ym (ac (aw (hl' 80 (by decide) (by decide)) cB hA' rfl (aL (Dd qg f5 (Dh ?_) ?_))))))))))))))))
  ·have:=wx (l:=dE (du u d) false) (b:=0) uU
   have h2:(dE (du u d) false).length=d:=by rw [pg,fl]
   show ((dE (du u d) false).map (·.length)).sum+(dE (du u d) false).length*0<=100000
   lia
  ·rw [Fo,mG]
   have:=q2 (.attrs A'::.inst 3 S.length::.list ((dE (du u d) false).map .str)::τ')
   exact this
 by_cases hb:aF (du u d) (lZ ((du u d).length:Int).toNat [48])=true
 ·refine bJ (jd rfl (bX rfl (bh rfl ?_)))
  refine sr (Dh (by rw [fl];lia)) ?_
  refine tB (by rw [ax (by lia),ax (by lia)];rfl) ?_
  refine bw (aI hb (bJ (yw (ae rfl (ar rfl (aJ (jB rfl rfl (Nq hj3 f5 ?_))))))))
  refine ar (by rw [zq];rfl) ?_
  exact aJ (aJ fin)
 ·refine bJ (jd rfl (bX rfl (bh rfl ?_)))
  refine sr (Dh (by rw [fl];lia)) ?_
  refine tB (by rw [ax (by lia),ax (by lia)];rfl) ?_
  exact bw (ar (by simpa using hb) (aJ fin))
def TA:CV->CV
 |.str [c]=>.int c
 |v=>v
section
variable {T:Tab} {N:Nat} {σ σ0 τ:al} {Q:bu}
theorem NA:cI σ (.str x)=some (.seq (x.map fun c=>.str [c])):=rfl
theorem Ap:∀{d k:Nat},∀x∈du k d,48<=x/\x<58:=by
 intro x0
 induction x0 with
 |zero=>
  intro _ _ h
  cases h
 |succ d ihh=>
  intro k x h
  rcases DL.mp h with h|h
  ·exact ihh x h
  ·rw [DW.mp h];lia
theorem yr (h:∀x∈f,x<256):∀{b:Bool},∀y∈(dE f b).flatten,y<256:=by
 intro b y hy
 have key:∀{f:List Nat} {b:Bool},∀y∈(dE f b).flatten,y=32\/y∈f:=by
  intro f
  induction f with
  |nil=>intro b y hy;cases hy
  |cons c f ih=>
   intro b y hy
   cases f with
   |nil=>exact .inr (by simpa [dE] using hy)
   |cons d l=>
    have hy:y∈cond (hJ b gD c) [c] [32]++(dE (d::l) (hJ b gD c)).flatten:=hy
    rcases DL.mp hy with hy|hy
    ·cases hc:hJ b gD c with
     |true=>rw [hc] at hy;exact .inr (by rw [DW.mp hy];exact .head _)
     |false=>rw [hc] at hy;exact .inl (DW.mp hy)
    ·rcases ih y hy with h|h
     ·exact .inl h
     ·exact .inr (.tail _ h)
 rcases key y hy with rfl|hy
 ·decide
 ·exact h y hy
theorem AC {x:List Nat}:(x.map fun c=>CV.str [c]).map TA=(x.map FS).map .int:=by
 rw [EJ,EJ]
 rfl
theorem Uu {M p t d k:Nat} {n:Int} {L:List CV} (hM:170<=M) (hp:aM σ (.obj p)=some (0,e,pt)) (a10:lk pt 10=some (.obj k)) (hL:am σ k=some (.list L)) (hs:lg σ (mj dl d 0) L) (a2:lk pt 2=some (.int ((0:Nat):Int))) (a12:lk pt 12=some (.int d)) (hd:2<=d) (hd2:d<=9) (hn:0<=n) (ht:am σ t=some (.tup [.int n,.int 0])) (q:∀τ,Q (.bytes (rA (bq (n.fmod (10^d)) d))) (σ++τ)):(aj bH M).c 43 [.obj p,.obj t,.bool false] σ Q:=by
 refine fuel hM fun N=>bZ (N:=N+169) (loc:=[(63,.val (.obj p)),(68,.val (.obj t)),(79,.val (.bool false))]) rfl rfl rfl ?_
 have h0:0<=n.fmod (10^d):=by rw [nu];exact Es _ (by have:=F8 (n:=d) (show 0<10 by decide);lia)
 have ec:rA (bq (n.fmod (10^d)) d)=(mJ (du (n.fmod (10^d)).toNat d)).map FS:=by
  rw [qC,ub]
  congr 2
  exact (EH h0).symm
 rw [ec] at q
 refine ao (dj (be (ac (f9 (aK (ac (ae rfl (ac (ae rfl (ac (ae rfl (aL (ai rfl (VP (by lia) hp a10 hL hs a2 a12 hd hd2 hn ht fun τ=>?_))))))))))))))
 have hlen:(mJ (du (n.fmod (10^d)).toNat d)).length<=9:=by
  have:=congrArg Jh ec
  rw [l8,bV,Do] at this
  lia
 have hin:∀x∈mJ (du (n.fmod (10^d)).toNat d),x<256:=fun x hx=>yr (fun y hy=>by have:=Ap y hy;lia) x hx
 generalize mJ (du (n.fmod (10^d)).toNat d)=X at q hlen hin
 refine fc NA ?_
 refine u7 (g:=TA) (by rw [Do];lia) (fun k h=>by cases h) (by rw [Do];lia) aE ?_ fun v hv K loc' σ' Q' hy hx hj q'=>?_
 ·rw [bU]
  refine aL (dK (by rw [aS];rfl) (r:=X.map FS) (by rw [AC,cK]) (by
   rw [Dl]
   refine ⟨fb fun x hx=>?_,Dh (by rw [Do];lia)⟩
   refine ay (DV.mp hx) fun y hy zz1=>?_
   subst zz1
   have:=hin y hy
   rw [KJ];lia) ?_)
  rw [Di]
  exact q _
 ·refine ay (DV.mp hv) fun c Z0 zz5=>?_
  subst zz5
  exact be (ac (ae hx (aL (BY q'))))
theorem CQ (h1:2<=d) (h2:d<=9):rL n (wt n dl d 0) (lz n dl d 0) fun m=>rA (bq (m.fmod (10^d)) d):=by
 refine ⟨kj,gd,⟨jp,rfl,.inr rfl⟩,fun {M σ m t Q} hM hs hm0 _ ht q=>?_⟩
 refine aG (gd _ hs) fun e hi=>?_
 obtain ⟨N,rfl⟩:∃N,M=N+200:=⟨M-200,(Et ‹_›).symm⟩
 have g2:am σ (n+2)=some (.inst 0 (n+3)):=ii hs (i:=2) rfl
 have g3:am σ (n+3)=some (.attrs (NY n [(9,.str (pU dl d 0)),(10,.obj 4),(11,.str dl),(12,.int d),(2,.int (0:Nat)),(13,.bool false),(5,.int d)])):=ii hs (i:=3) rfl
 have g4:am σ (n+4)=some (.list [.obj (n+5),.obj (n+6)]):=ii hs (i:=4) rfl
 have g5:am σ (n+5)=some (.tup [.str [90],.int ((d-1:Nat):Int)]):=ii hs (i:=5) rfl
 have g6:am σ (n+6)=some (.tup [.str [57],.int (1:Nat)]):=ii hs (i:=6) rfl
 have hp:aM σ (.obj (n+2))=some (0,n+3,NY n [(9,.str (pU dl d 0)),(10,.obj 4),(11,.str dl),(12,.int d),(2,.int (0:Nat)),(13,.bool false),(5,.int d)]):=by
  unfold aM
  simp only [g2,g3]
 refine bZ (N:=N+199) (loc:=[(88,.val (.obj n)),(68,.val (.obj t))]) rfl rfl rfl ?_
 show (aj bH (N+199)).b Tn _ _ _
 have a11:lk (wt n dl d 0) 11=some (.str jp):=rfl
 have a63:lk (wt n dl d 0) 63=some (.obj (n+2)):=rfl
 have a79:lk (wt n dl d 0) 79=some (.bool false):=rfl
 exact bJ (aA (aw rfl ‹_› (by first|rfl|assumption) rfl (ag (bw (aI rfl (cC (aK (ac (aw rfl ‹_› (by first|rfl|assumption) rfl (dO rfl (ac (aw rfl ‹_› (by first|rfl|assumption) rfl (av rfl (ai rfl (Uu (by lia) hp rfl g4 ⟨g5,g6,trivial⟩ rfl rfl h1 h2 hm0 ht fun τ=>q τ)))))))))))))))
theorem vG:∀{l:List Int},0<l.length->∃a,a<l.length/\rA l=Dp a 32++l.drop a/\(∀i,i<a->i+1<l.length/\l[i]?=some 48)/\(a+1<l.length->l[a]?≠some 48)
 |[],h=>absurd h (by decide)
 |[c],Z1=>⟨0,by simp,rfl,fun i h=>absurd h (by lia),fun h=>absurd h (by simp)⟩
 |c::d::l,Z1=>by
  by_cases hc:c=48
  ·subst hc
   refine ME (vG (l:=d::l) (by simp)) fun a h1 h2 h3 h4=>?_
   refine ⟨a+1,by simp only [DC] at h1 ⊢;lia,?_,fun i hi=>?_,fun h=>?_⟩
   ·show 32::rA (d::l)=_
    rw [h2];rfl
   ·cases i with
    |zero=>exact ⟨by simp,rfl⟩
    |succ i=>
     have:=h3 i (by lia)
     exact ⟨by simp only [DC] at this ⊢;lia,by simpa using this.2⟩
   ·have:=h4 (by simp only [DC] at h ⊢;lia)
    simpa using this
  ·refine ⟨0,by simp,?_,fun i h=>absurd h (by lia),fun Z0=>by simpa using hc⟩
   show cond (j5 c 48) _ _=_
   rw [eG hc];rfl
theorem uS {i d:Nat} (h:i+1<d):(i:Int)<(d:Int)-1:=Int.lt_sub_right_of_add_lt (Ez.mpr h)
theorem Vp {d:Nat} {L:List Int} (hL:L.length=d) (hd:d<=100) {a:Nat} (h1:a<d) (h3:∀i,i<a->i+1<d/\L[i]?=some 48) (h4:a+1<d->L[a]?≠some 48):∀(m:Nat) {i N:Nat} {loc:aP} {Q:Fl->aP->al->Prop},i+m=a->lk loc 127=some (.val (.bytes L))->lk loc 128=some (.val (.int i))->lk loc 12=some (.val (.int d))->
  (∀loc',lk loc' 127=some (.val (.bytes L))->lk loc' 128=some (.val (.int a))->Q .next loc' σ)->(aj bH (N+m+20)).w true (.bop true true [(.cmp true (.loc 128) [(.lt,(.bin true .sub (.loc 12) (.cst (.int 1))))]),(.cmp true (.sub true (.loc 127) (.loc 128)) [(.eq,(.cst (.int 48)))])]) [.asg 128 (.bin true .add (.loc 128) (.cst (.int 1)))] loc σ Q:=by
 intro x0
 induction x0 with
 |zero=>
  intro i N loc Q hi e1 e2 e3 q
  rw [Kp] at hi
  subst hi
  refine tw (N:=N+19) ?_
  by_cases hlt:i+1<d
  ·have hil:i<L.length:=hL▸Ls hlt
   refine gi (aA (ae e2 (aH (ae e3 (ag (dA (kC (aI (bk (uS hlt)) (gi (aA (eO (ae e1 (ae e2 ?_)))))))))))))
   refine mZ (by rw [dM hil,Dh (by lia)];rfl) ?_
   rw [cy]
   refine ag (uR (ar (eG ?_) (ar rfl (q loc e1 e2))))
   intro h
   have:=h4 hlt
   rw [DP,DA hil] at h
   rw [DA hil] at this
   exact this (congrArg some h)
  ·exact gi (aA (ae e2 (aH (ae e3 (ag (dA (kC (ar (cJ (Int.sub_right_le_of_le_add (EK.mpr (GD.mp hlt)))) (ar rfl (q loc e1 e2))))))))))
 |succ m ihh=>
  intro i N loc Q hi e1 e2 e3 q
  refine aD (h3 i (by lia)) fun hb h48=>tw (N:=N+m+20) (gi (aA (ae e2 (aH (ae e3 (ag (dA (kC (aI (bk (uS hb)) (gi (aA (eO (ae e1 (ae e2 ?_))))))))))))))
  refine mZ (by rw [dM (hL▸Ls hb:i<L.length),Dh (by lia)];rfl) ?_
  rw [cy,DP,h48]
  refine ag (uR (aI rfl (zt (aI rfl (ao (iB (aH (ae e2 (ag (cn (gH e2 (aJ ?_))))))))))))
  refine ihh (i:=i+1) (by lia) (by rw [ah,if_neg (by decide)];exact e1) (by rw [ah,if_pos rfl];rfl) (by rw [ah,if_neg (by decide)];exact e3) q
theorem RM (hM:160<=M) (hd1:2<=d) (hd:d<=9) (q:∀τ,Q (.bytes (rA (bq (dr m 0 d) d))) (σ++τ)):(aj bH M).c 85 [.str dl,.int d,.int (0:Nat),.int m] σ Q:=by
 refine fuel hM fun N=>?_
 refine nc (N:=N+159) (loc:=[(124,.val (.str dl)),(12,.val (.int d)),(2,.val (.int (0:Nat))),(68,.val (.int m))]) (loc':=[(124,.val (.str dl)),(12,.val (.int d)),(2,.val (.int (0:Nat))),(68,.val (.int m)),(105,.cell σ.length),(3,.cell (σ.length+1))]) (σ':=σ++[.cell none,.cell none]) rfl rfl mL ?_
 refine qH (K:=N+129) (by lia) (by lia) ?_
 generalize dr m 0 d=u at q ⊢
 walk_at "wwwwegb"
 refine eQ rfl (by rw [bx];rfl) ?_
 walk_at "q"
 refine ai rfl (QX (by lia) (by lia) (by lia) fun τ=>?_)
 walk_at "peap"
 have hl:(bq (u:Int) d).length=d:=bV
 refine ME (vG (l:=bq (u:Int) d) (by lia)) fun a h1 h2 h3 h4=>?_
 rw [hl] at h1 h3 h4
 refine ao (Co ?_)
 rw [show N+158=N+138-a+a+20 from by rw [Et (Dr (EP h1) (Dr hd (wi rfl)))]]
 refine Vp hl (by lia) h1 h3 h4 a (i:=0) (by lia) rfl rfl rfl fun loc' e1 e2=>?_
 refine ao (dj (aH (aH (ag (ae e2 ?_)))))
 refine jO (by rw [ax (by lia),ax (by lia)];rfl) ?_
 refine eP (ae e1 (db (ae e2 (bn (bn ?_)))))
 refine ml (by lia) (by lia) ?_
 have ecut:dF (cE (bq (u:Int) d).length (a:Int)) (bq (u:Int) d).length (bq (u:Int) d)=(bq (u:Int) d).drop a:=by
  rw [g9,hl,F9 (EP h1)]
  exact FK (by rw [D7];exact Eg (congrArg (·-a) hl))
 rw [ecut,ic,DK]
 refine dR (Dh (by rw [DD,D7,hl,Ge (EP h1)];lia)) ?_
 rw [←h2,Di]
 exact q _
theorem RV {d m:Nat}:rA (bq (((m:Int)).fmod (10^d)) d)=rA (bq (dr m 0 d) d):=by
 have e:(((m:Int)).fmod (10^d))=((dr m 0 d:Nat):Int):=by
  rw [nu,ik]
  unfold dr
  rw [Nat.pow_zero,Nat.mul_one]
 rw [e]
theorem VF {M d sc:Nat} {k:List Nat} {l:List Int} (hM:335<=M) (hv:dz k d sc=true) (hk:k=gX\/k=fz\/k=eK\/k=dQ\/(k=dl/\sc=0)) (h1:2<=d) (h2:d<=9) (h3:sc<=9) (hb:∀c∈l,bS c=false) (hl:l.length<=18) (q:∀τ,Q (.bool true) (σ++τ)):(aj bH M).c 89 [.str k,.int d,.int sc,.bytes l] σ Q:=by
 by_cases hk4:k=gX\/k=fz\/k=eK\/k=dQ
 ·refine QK (F:=fun m=>mV k d (bK k d) (m*10^sc)) hM hv hb hl (fun n=>B2 hk4 h1 h2 h3) (fun m=>pD hk4) ?_ (fun {M m σ Q} hM' _ q'=>?_) q
  ·have hz:=pD (k:=k) (d:=d) (u:=0) hk4
   rcases hk4 with rfl|rfl|rfl|rfl
   ·show d<=100;lia
   ·show d<=100;lia
   ·show d/2+1<=100;lia
   ·show cond (Dn d 4) 2 (cond (Dn d 9) 4 8)<=100
    cases Dn d 4<;>cases Dn d 9<;>decide
  ·have q':∀τ,Q (.bytes (mV k d (bK k d) ((m:Int)*10^sc))) (σ++τ):=q'
   rw [Am hk4 h2] at q'
   rcases hk4 with rfl|rfl|rfl|rfl
   ·exact Rv (by lia) (by lia) (by lia) (by lia) q'
   ·exact Sw (by lia) (by lia) (by lia) (by lia) q'
   ·exact RJ (by lia) (by lia) (by lia) (by lia) q'
   ·exact Rl (by lia) (by lia) (by lia) h2 q'
 ·obtain ⟨rfl,rfl⟩:k=dl/\sc=0:=by
   rcases hk with h|h|h|h|h
   ·exact absurd (.inl h) hk4
   ·exact absurd (.inr (.inl h)) hk4
   ·exact absurd (.inr (.inr (.inl h))) hk4
   ·exact absurd (.inr (.inr (.inr h))) hk4
   ·exact h
  refine QK (F:=fun m=>rA (bq (m.fmod (10^d)) d)) hM hv hb hl (fun n=>CQ h1 h2) (fun m=>by rw [l8,bV];rfl) (by show d<=100;lia) (fun {M m σ Q} hM' _ q'=>?_) q
  have q':∀τ,Q (.bytes (rA (bq (((m:Int)).fmod (10^d)) d))) (σ++τ):=q'
  rw [RV] at q'
  exact RM (by lia) h1 h2 q'
end
def ot (k:List Nat) (d sc:Nat) (m:Int):List Int:=cond (aF k dl) (rA (bq (m.fmod (10^d)) d)) (mV k d (bK k d) (m*10^sc))
noncomputable abbrev rn (k:List Nat) (sc:Nat):Prop:=k=gX\/k=fz\/k=eK\/k=dQ\/(k=dl/\sc=0)
theorem mu (h:rn k sc):(k=gX\/k=fz\/k=eK\/k=dQ)\/(k=dl/\sc=0):=by
 rcases h with h|h|h|h|h
 ·exact .inl (.inl h)
 ·exact .inl (.inr (.inl h))
 ·exact .inl (.inr (.inr (.inl h)))
 ·exact .inl (.inr (.inr (.inr h)))
 ·exact .inr h
theorem BD (hk:rn k sc) (h1:2<=d) (h2:d<=9) (h3:sc<=9):rL n (wt n k d sc) (lz n k d sc) (ot k d sc):=by
 rcases mu hk with h|⟨rfl,rfl⟩
 ·have e:ot k d sc=fun m=>mV k d (bK k d) (m*10^sc):=by
   rcases h with rfl|rfl|rfl|rfl<;>rfl
  rw [e]
  exact B2 h h1 h2 h3
 ·exact CQ h1 h2
theorem vU (hk:rn k sc):(ot k d sc m).length=bK k d:=by
 rcases mu hk with h|⟨rfl,rfl⟩
 ·have e:ot k d sc m=mV k d (bK k d) (m*10^sc):=by
   rcases h with rfl|rfl|rfl|rfl<;>rfl
  rw [e]
  exact pD h
 ·show (rA (bq _ d)).length=d
  rw [l8,bV]
theorem rR (h2:d<=9):bK k d<=100:=by
 unfold bK
 cases aF k eK with
 |true=>show d/2+1<=100;lia
 |false=>
  cases aF k dQ with
  |false=>show d<=100;lia
  |true=>
   show cond (Dn d 4) 2 (cond (Dn d 9) 4 8)<=100
   cases Dn d 4<;>cases Dn d 9<;>decide
theorem Ri (hM:310<=M) (hk:rn k sc) (h1:2<=d) (h2:d<=9) (h3:sc<=9) (hb:∀c∈l,bS c=false) (hl:l.length<=18) (hs:lz n k d sc σ) (hD:ot k d sc (cL l 0)=D) (q:∀τ,Q (.bool true) (σ++τ)):(aj bH M).c 88 [.obj n,.bytes l,.bytes D] σ Q:=by
 subst hD
 exact KT (bt:=wt n k d sc) (St:=lz n k d sc) hM ⟨kj,gd,rfl,rR h2,vU hk,fun {M σ' Q'} hM' hs' q'=>Ou (by lia) (by lia) hb (oz hb hl) (BD hk h1 h2 h3) hs' q'⟩ hs q
def dS (σ:al):List (List CV)->List CV->Prop
 |[],[]=>True
 |t::l,.obj k::r=>am σ k=some (.tup t)/\dS σ l r
 |Z1,Z2=>False
theorem fC (hL:am σ0 k=some (.list L)) (hd:done.length<=1000):∀(rows:List (List CV)) {pre r:List CV} {N a:Nat} {loc:aP} {τ:al} {Q:al->Prop},L=pre++r->dS σ0 rows r->am τ a=some (.list done)->(∀k,lk loc 98≠some (.cell k))->
  (∀w∈rows,∀(K i:Nat) (loc':aP) (σ':al) (X:Bool->al->Prop),lk loc' 98=some (.val (.obj i))->am σ' i=some (.tup w)->(∀τ,X false (σ'++τ))->(aj T (K+340)).t t loc' σ' X)->
  (∀τ',am τ' a=some (.list done)->Q (σ0++τ'))->(aj T (N+rows.length+345)).p false (.loc 98) [98] false (some t) (.lst k pre.length) (σ0.length+a) loc (σ0++τ) Q:=by
 intro x0
 induction x0 with
 |nil=>
  intro pre r N a loc τ Q e hs ht h1 hc q
  cases r with
  |cons Z1 Z2=>exact hs.elim
  |nil=>exact zC (N:=N+344) (au hL) (by rw [e,DG,aO,Ed (DQ _)]) (q τ ht)
 |cons w rows ihh=>
  intro pre r N a loc τ Q e hs ht h1 hc q
  cases r with
  |nil=>exact hs.elim
  |cons v r=>
   cases v with
   |obj kk=>
    refine aD hs fun hs1 hs2=>?_
    refine xC (N:=N+rows.length+345) (v:=.obj kk) (au hL) (by rw [e,aO,DO (DQ _),E7];rfl) (cw (bl h1 ?_))
    have l1:lk (cu loc 98 (.val (.obj kk))) 98=some (.val (.obj kk)):=by rw [ah,if_pos rfl]
    refine hc w (.head _) (N+rows.length+5) kk _ _ _ l1 (au hs1) fun τ2=>ar rfl ?_
    rw [Di,←(by simp:(pre++[CV.obj kk]).length=pre.length+1)]
    exact ihh (by rw [e,Di];rfl) hs2 (au ht) (fun k=>by rw [l1];simp) (fun w hw=>hc w (.tail _ hw)) q
   |_=>exact hs.elim
def OW:CE:=.bop false false [.cmp false (.calF 84 [.sub false (.loc 98) (.cst (.int 0)),.sub false (.loc 98) (.cst (.int 1)),.sub false (.loc 98) (.cst (.int 2))]) [(.ne,.sub false (.loc 98) (.cst (.int 3)))],.nt (.calF 88 [.calF 86 [.sub false (.loc 98) (.cst (.int 0)),.sub false (.loc 98) (.cst (.int 1))],.sub false (.loc 98) (.cst (.int 2)),.sub false (.loc 98) (.cst (.int 3))])]
def O4:CE:=.nt (.calF 88 [.calF 87 [.sub false (.loc 98) (.cst (.int 0)),.sub false (.loc 98) (.cst (.int 1)),.sub false (.loc 98) (.cst (.int 2))],.sub false (.loc 98) (.cst (.int 3)),.sub false (.loc 98) (.cst (.int 4))])
theorem OB {a b:List Int} {Q:Bool->Prop} (q:Q (!qZ a b)):dn s T σ .ne (.bytes a) (.bytes b) Q:=q
theorem wJ {K i z:Nat} {k:List Nat} {l D:List Int} {X:Bool->al->Prop} (hv:im k z=true) (hk:nQ k) (h3:k=gV\/3<=z) (h2:2<=z) (h9:z<=9) (hl:∀x∈l,0<=x/\x<256) (hl2:l.length<=20) (hD:f6 k z l=D) (h1:lk loc 98=some (.val (.obj i))) (hi:am σ i=some (.tup [.str k,.int z,.bytes l,.bytes D])) (q:∀τ,X false (σ++τ)):(aj bH (K+340)).t OW loc σ X:=by
 subst hD
 have g0:∀{N:Nat} {σ':al} {Q:bu},am σ' i=some (.tup [.str k,.int z,.bytes l,.bytes (f6 k z l)])->Q (.str k) σ'->(aj bH (N+2)).e (.sub false (.loc 98) (.cst (.int 0))) loc σ' Q:=fun h q=>eO (ae h1 (ag (f0 h rfl rfl q)))
 have g1:∀{N:Nat} {σ':al} {Q:bu},am σ' i=some (.tup [.str k,.int z,.bytes l,.bytes (f6 k z l)])->Q (.int z) σ'->(aj bH (N+2)).e (.sub false (.loc 98) (.cst (.int 1))) loc σ' Q:=fun h q=>eO (ae h1 (ag (f0 h rfl rfl q)))
 have g2:∀{N:Nat} {σ':al} {Q:bu},am σ' i=some (.tup [.str k,.int z,.bytes l,.bytes (f6 k z l)])->Q (.bytes l) σ'->(aj bH (N+2)).e (.sub false (.loc 98) (.cst (.int 2))) loc σ' Q:=fun h q=>eO (ae h1 (ag (f0 h rfl rfl q)))
 have g3:∀{N:Nat} {σ':al} {Q:bu},am σ' i=some (.tup [.str k,.int z,.bytes l,.bytes (f6 k z l)])->Q (.bytes (f6 k z l)) σ'->(aj bH (N+2)).e (.sub false (.loc 98) (.cst (.int 3))) loc σ' Q:=fun h q=>eO (ae h1 (ag (f0 h rfl rfl q)))
 refine iJ (aA (aK (ac (g0 hi (ac (g1 hi (ac (g2 hi (aL (ai rfl (Tq (by lia) (by lia) (by lia) (by lia) ?_)))))))))))
 refine g3 hi (OB (ar (by rw [lm];rfl) ?_))
 refine iJ (lT (gM (aK (ac (aK (ac (g0 hi (ac (g1 hi (aL (aY (P:=Pz) rfl (show cond (im k z) _ False from ?_))))))))))))
 rw [hv,cond_true,DK]
 refine ac (g2 (au hi) (ac (g3 (au hi) (aL (ai rfl (Qr (by lia) hk (⟨σ,[],rfl,by simp⟩:kR σ.length k z _) h3 h2 (by lia) hl hl2 fun τ=>ar rfl (oR ?_)))))))
 rw [Di]
 exact q _
theorem qF {K i d sc:Nat} {k:List Nat} {l D:List Int} {X:Bool->al->Prop} (hv:dz k d sc=true) (hk:rn k sc) (h2:2<=d) (h9:d<=9) (h3:sc<=9) (hb:∀c∈l,bS c=false) (hl:l.length<=18) (hD:ot k d sc (cL l 0)=D) (h1:lk loc 98=some (.val (.obj i))) (hi:am σ i=some (.tup [.str k,.int d,.int sc,.bytes l,.bytes D])) (q:∀τ,X false (σ++τ)):(aj bH (K+340)).t O4 loc σ X:=by
 have g:∀{N j:Nat} {v:CV} {σ':al} {Q:bu},am σ' i=some (.tup [.str k,.int d,.int sc,.bytes l,.bytes D])->am [.str k,.int d,.int sc,.bytes l,.bytes D] j=some v->j<5->Q v σ'->(aj bH (N+2)).e (.sub false (.loc 98) (.cst (.int j))) loc σ' Q:=fun {N j v σ' Q} h hj hj5 q=>eO (ae h1 (ag (f0 h (by rw [cy];exact hj) (by rw [dM (by simpa using hj5)];rfl) q)))
 refine lT (gM (aK (ac (aK (ac (g (j:=0) hi rfl (by decide) (ac (g (j:=1) hi rfl (by decide) (ac (g (j:=2) hi rfl (by decide) (aL (aY (P:=Q1) rfl (show cond (dz k d sc) _ False from ?_)))))))))))))
 rw [hv,cond_true,DK,DK]
 refine ac (g (j:=3) (au hi) rfl (by decide) (ac (g (j:=4) (au hi) rfl (by decide) (aL (ai rfl (Ri (by lia) hk h2 h9 h3 hb hl (⟨σ,[],rfl,by simp⟩:lz σ.length k d sc _) hD fun τ=>?_))))))
 rw [Di]
 exact q _
noncomputable abbrev x7:List Int:=[65,66,67,68]
def tT (k:List Nat) (z:Nat) (l D:List Int):List CV:=[.str k,.int z,.bytes l,.bytes D]
def tN (k:List Nat) (d sc:Nat) (l D:List Int):List CV:=[.str k,.int d,.int sc,.bytes l,.bytes D]
def rh (S S':al):Prop:=∀i co,am S i=some co->am S' i=some co
theorem rh.app:rh S (S++τ):=fun Z0 Z0 h=>au h
theorem rh.tr {A B C:al} (h:rh A B) (k:rh B C):rh A C:=fun i co x=>k i co (h i co x)
theorem dS.ext (h:rh S S'):∀{l:List (List CV)} {r:List CV},dS S l r->dS S' l r
 |[],[],Z1=>trivial
 |[],Z1::Z2,x=>x.elim
 |Z1::Z2,[],x=>x.elim
 |t::l,v::r,x=>by
  cases v with
  |obj k=>exact ⟨h _ _ x.1,x.2.ext h⟩
  |_=>exact x.elim
theorem dS.app:∀{l m:List (List CV)} {r w:List CV},dS S l r->dS S m w->dS S (l++m) (r++w)
 |[],Z1,[],Z2,Z3,h=>h
 |[],Z1,Z2::Z3,Z4,x,Z5=>x.elim
 |Z1::Z2,Z3,[],Z4,x,Z5=>x.elim
 |t::l,Z1,v::r,Z2,x,h=>by
  cases v with
  |obj k=>exact ⟨x.1,x.2.app h⟩
  |_=>exact x.elim
theorem dS.len:∀{l:List (List CV)} {r:List CV},dS S l r->r.length=l.length
 |[],[],Z1=>rfl
 |[],Z1::Z2,x=>x.elim
 |Z1::Z2,[],x=>x.elim
 |t::l,v::r,x=>by
  cases v with
  |obj k=>rw [DC,DC,x.2.len]
  |_=>exact x.elim
def wB (vs:List CV):CE:=.tup (vs.map .cst)
theorem uv:∀{vs:List CV} {σ:al} {Q:List CV->al->Prop},Q vs σ->eC (aj T (N+1)) (vs.map .cst) loc σ Q:=by
 intro x0
 induction x0 with
 |nil=>
  intro _ _ q
  exact q
 |cons v vs ihh=>
  intro _ _ q
  exact ac (ag (ihh q))
theorem yP:∀(ts:List (List CV)) {σ:al} {Q:List CV->al->Prop},(∀S' ks,rh σ S'->dS S' ts ks->Q ks S')->eC (aj T (N+2)) (ts.map wB) loc σ Q:=by
 intro x0
 induction x0 with
 |nil=>
  intro σ Q q
  exact q σ [] (fun Z0 Z0 h=>h) trivial
 |cons t ts ihh=>
  intro σ Q q
  exact ac (fh (uv (ihh fun S' ks he ht=>q S' _ (rh.app.tr he) ⟨he _ _ aE,ht⟩)))
theorem qm (ts:List (List CV)) (q:∀S' k ks,rh σ S'->dS S' ts ks->am S' k=some (.list ks)->Q (.obj k) S'):(aj T (N+3)).e (.lst (ts.map wB)) loc σ Q:=
 fD (yP ts fun S' ks he ht=>q _ _ ks (he.tr .app) (ht.ext .app) aE)
def o7:List (List CV):=[tT qx 3 x7 [65,66,67],tT i5 3 x7 [66,67,68],tT i5 3 [65] [32,32,65],tT gV 2 [] [32,32]]
def oy:List (List CV):=[tT gf 4 x7 [65,32,66,67],tT lU 3 [65] [65,32,32]]
def ou:List (List CV):=[tN gX 3 1 [49,50,51] [50,51,48],tN fz 2 0 [55] [48,71],tN eK 3 0 [49,50] [1,47],tN dQ 4 0 [51,48,48] [1,44]]
def o0:List (List CV):=[tN dl 3 0 [] [32,32,48],tN dl 3 0 [49,48,52,53] [32,52,53],tN gX 2 0 [] [48,48],tN fz 3 2 [] [48,48,123]]
theorem Nl (h1:am σ a=some (.list [])) (h2:am σ b=some (.list [])) (q:R true):dn s T σ .eq (.obj a) (.obj b) R:=kz h1 (kz h2 q)
theorem Go (h1:am σ a=some (.list [])) (h2:am σ b=some (.list [])) (q:R false):dn s T σ .ne (.obj a) (.obj b) R:=kz h1 (kz h2 q)
theorem MK:TG=[.asg 107 (.lst (o7.map wB)),.asg 107 (.bin false .add (.loc 107) (.lst (oy.map wB))),.ite false (.cmp false (.comp false (.loc 98) [98] false (.loc 107) (some OW)) [(.ne,.lst [])]) [.ret (some (.cst (.bool false)))] [],.asg 122 (.lst (ou.map wB)),.asg 122 (.bin false .add (.loc 122) (.lst (o0.map wB))),.ret (some (.cmp false (.comp false (.loc 98) [98] false (.loc 122) (some O4)) [(.eq,.lst [])]))]:=by kernel_rfl
theorem UV {M:Nat} (hM:380<=M) {X:bu} (q:∀τ,X (.bool true) τ):(aj bH M).c 90 [] σ X:=by
 refine fuel hM fun N=>bZ (N:=N+379) (loc:=[]) rfl rfl rfl ?_
 rw [MK]
 refine ao (iB (qm o7 fun S1 k1 ks1 Z0 ht1 hk1=>aT rfl (ao (iB (aH (ae rfl (qm oy fun S2 k2 ks2 he2 ht2 hk2=>?_)))))))
 refine qv (he2 _ _ hk1) hk2 (Dh (by rw [(ht1.len),(ht2.len)];decide)) ?_
 walk_at "t"
 have hS:am (S2++[.list (ks1++ks2)]) S2.length=some (.list (ks1++ks2)):=aE
 have hT:dS (S2++[.list (ks1++ks2)]) (o7++oy) (ks1++ks2):=((ht1.ext he2).app ht2).ext .app
 generalize S2++[.list (ks1++ks2)]=S3 at hS hT
 generalize S2.length=k3 at hS
 refine ao (kh (aA (f9 (ae rfl (fc (hW hS) ?_)))))
 have eF:(N+376)=N+25+(o7++oy).length+345:=rfl
 rw [eF]
 refine fC (a:=0) (pre:=[]) (τ:=[.list []]) (done:=[]) hS (by decide) (o7++oy) rfl hT rfl (fun k h=>by cases h) (fun w hw K i loc' σ' X h1 hi q'=>?_) fun τ hτ=>?_
 ·simp only [o7,oy,EX,Fo,Dv,Eb,or_false] at hw
  rcases hw with rfl|rfl|rfl|rfl|rfl|rfl
  ·exact wJ (z:=3) (by kernel_rfl) (.inl rfl) (.inr (by decide)) (by decide) (by decide) (by decide) (by decide) (by kernel_rfl) h1 hi q'
  ·exact wJ (z:=3) (by kernel_rfl) (.inr (.inl rfl)) (.inr (by decide)) (by decide) (by decide) (by decide) (by decide) (by kernel_rfl) h1 hi q'
  ·exact wJ (z:=3) (by kernel_rfl) (.inr (.inl rfl)) (.inr (by decide)) (by decide) (by decide) (by decide) (by decide) (by kernel_rfl) h1 hi q'
  ·exact wJ (z:=2) (by kernel_rfl) (.inr (.inr (.inr (.inr rfl)))) (.inl rfl) (by decide) (by decide) (by decide) (by decide) (by kernel_rfl) h1 hi q'
  ·exact wJ (z:=4) (by kernel_rfl) (.inr (.inr (.inl rfl))) (.inr (by decide)) (by decide) (by decide) (by decide) (by decide) (by kernel_rfl) h1 hi q'
  ·exact wJ (z:=3) (by kernel_rfl) (.inr (.inr (.inr (.inl rfl)))) (.inr (by decide)) (by decide) (by decide) (by decide) (by decide) (by kernel_rfl) h1 hi q'
 refine fD (aL ?_)
 refine Go (au (by rw [aS];exact hτ:am (S3++τ) S3.length=some (.list []))) aE (ar rfl (aJ ?_))
 refine ao (iB (qm ou fun S4 k4 ks4 Z0 ht4 hk4=>aT rfl (ao (iB (aH (ae rfl (qm o0 fun S5 k5 ks5 he5 ht5 hk5=>?_)))))))
 refine qv (he5 _ _ hk4) hk5 (Dh (by rw [(ht4.len),(ht5.len)];decide)) ?_
 walk_at "t"
 have hS6:am (S5++[.list (ks4++ks5)]) S5.length=some (.list (ks4++ks5)):=aE
 have hT6:dS (S5++[.list (ks4++ks5)]) (ou++o0) (ks4++ks5):=((ht4.ext he5).app ht5).ext .app
 generalize S5++[.list (ks4++ks5)]=S6 at hS6 hT6
 generalize S5.length=k6 at hS6
 refine ao (dj (jC (f9 (ae rfl (fc (hW hS6) ?_)))))
 rw [(show (N+376)=N+23+(ou++o0).length+345 from rfl)]
 refine fC (a:=0) (pre:=[]) (τ:=[.list []]) (done:=[]) hS6 (by decide) (ou++o0) rfl hT6 rfl (fun k h=>by cases h) (fun w hw K i loc' σ' X h1 hi q'=>?_) fun τ2 hτ2=>?_
 ·simp only [ou,o0,EX,Fo,Dv,Eb,or_false] at hw
  rcases hw with rfl|rfl|rfl|rfl|rfl|rfl|rfl|rfl
  ·exact qF (d:=3) (sc:=1) (by kernel_rfl) (.inl rfl) (by decide) (by decide) (by decide) (by decide) (by decide) (by kernel_rfl) h1 hi q'
  ·exact qF (d:=2) (sc:=0) (by kernel_rfl) (.inr (.inl rfl)) (by decide) (by decide) (by decide) (by decide) (by decide) (by kernel_rfl) h1 hi q'
  ·exact qF (d:=3) (sc:=0) (by kernel_rfl) (.inr (.inr (.inl rfl))) (by decide) (by decide) (by decide) (by decide) (by decide) (by kernel_rfl) h1 hi q'
  ·exact qF (d:=4) (sc:=0) (by kernel_rfl) (.inr (.inr (.inr (.inl rfl)))) (by decide) (by decide) (by decide) (by decide) (by decide) (by kernel_rfl) h1 hi q'
  ·exact qF (d:=3) (sc:=0) (by kernel_rfl) (.inr (.inr (.inr (.inr ⟨rfl,rfl⟩)))) (by decide) (by decide) (by decide) (by decide) (by decide) (by kernel_rfl) h1 hi q'
  ·exact qF (d:=3) (sc:=0) (by kernel_rfl) (.inr (.inr (.inr (.inr ⟨rfl,rfl⟩)))) (by decide) (by decide) (by decide) (by decide) (by decide) (by kernel_rfl) h1 hi q'
  ·exact qF (d:=2) (sc:=0) (by kernel_rfl) (.inl rfl) (by decide) (by decide) (by decide) (by decide) (by decide) (by kernel_rfl) h1 hi q'
  ·exact qF (d:=3) (sc:=2) (by kernel_rfl) (.inr (.inl rfl)) (by decide) (by decide) (by decide) (by decide) (by decide) (by kernel_rfl) h1 hi q'
 refine fD (aL ?_)
 refine Nl (au (by rw [aS];exact hτ2:am (S6++τ2) S6.length=some (.list []))) aE ?_
 exact q _
def iz (p:Nat) (S S':al):Prop:=∀i co,i≠p->am S i=some co->am S' i=some co
theorem iz.tr (h:iz p A B) (k:iz p B C):iz p A C:=fun i co n x=>k i co n (h i co n x)
theorem rh.keep (h:rh A B):iz p A B:=fun i co Z0 x=>h i co x
theorem cT (h:i≠j):am (aU σ j co) i=am σ i:=by
 rw [aO,aO,eH,Gv]
 rw [if_neg (FP h)]
theorem iz.set:iz p σ (aU σ p co):=fun i c n x=>by rw [cT n];exact x
def r8 (σ:al) (p q T:Nat):Prop:=∃(cells:List Int) (t:Nat) (a:Int),am σ p=some (.list [.obj q,.int t,.int a])/\am σ q=some (.list (cells.map .int))/\q≠p/\t<=T/\0<=a/\cells.length<=48
theorem mB {m:Nat}:dF 0 (cE l.length (m:Int)) l=l.take m:=by
 unfold dF
 rw [g9,List.drop_zero,Kn,Kg]
 exact uX _ _
section
variable {T:Tab} {N:Nat} {σ σ0 τ:al} {Q:bu}
theorem Qz (h0:am σ i=some (.list l)) (h1:lx l=some r) (h:Dn r.length 1000=true) (q:Q (.int (sx r)) σ):cQ s T σ .sum [.obj i] Q:=gl h0 (w0 h1 (bf h q))
theorem Mx (q:Q (.int (cond b 1 0)) σ):cQ s T σ .int [.bool b] Q:=q
theorem Nv (h0:am σ k=some (.list l)) (h:(dk (-1000000) b&&dk b 1000000&&Dn l.length 100000)=true) (q:Q (.obj σ.length) (σ++[.list (dF 0 (cE l.length b) l)])):bD s σ (.obj k) .none (.int b) .none Q:=Mf h0 (bf (by simpa [bD.okB] using h) q)
theorem MA (h0:am σ k=some (.raw l o)) (h:(dk (-1000000) b&&dk b 1000000&&Dn l.length 100000)=true) (q:Q (.obj σ.length) (σ++[.list (dF 0 (cE l.length b) l)])):bD s σ (.obj k) .none (.int b) .none Q:=MB h0 (bf (by simpa [bD.okB] using h) q)
theorem yA (h1:am σ a=some (.list l)) (h2:am σ b=some (.list [])) (q:R (!l.isEmpty)):dn s T σ .ne (.obj a) (.obj b) R:=kz h1 (kz h2 (by
 cases l with
 |nil=>exact q
 |cons Z1 Z2=>exact q))
theorem jk {w:Int} {n:Nat} (h:0<=w/\w<n):w.toNat<n:=by
 have:=h.2
 rw [←EH h.1] at this
 exact Ez.mp this
theorem iu {x:Int} {n:Nat} (h:1<=n):0<=x.fmod n/\x.fmod n<n:=⟨Es _ (by lia),FN _ (by lia)⟩
theorem uV {x:Int} {n:Nat} (h:0<=x):0<=x.fdiv n:=by
 rw [GT _ (by lia)]
 exact Jy h (by lia)
theorem xN {a b x y:Int} (h1:0<=a) (h2:a<=x) (h3:0<=b) (h4:b<=y):0<=a*b/\a*b<=x*y:=⟨JQ h1 h3,Int.mul_le_mul h2 h4 h3 (by lia)⟩
theorem ud {n:Nat} (h:n<=1000):eM (n:Int)=true:=ka (by lia) (by lia)
theorem Oi {M p n t q0:Nat} {x:Int} (hM:40<=M) (hn:1<=n) (ht:t<=500) (q:∀r:Nat,r<n->Q (.int r) σ):
  (aj bH M).b (NW.drop 6) [(119,.val (.obj p)),(82,.val (.int n)),(93,.val (.int t)),(118,.val (.int x))] σ (fun fl Z0 σ=>match fl with|.ret v=>Q v σ|.next=>Q .none σ):=by
 refine fuel hM fun N=>?_
 have f1:=iu (x:=x) (n:=2147483587) (by decide)
 rw [show ((2147483587:Nat):Int)=2147483587 from rfl] at f1
 have tt:=xN (a:=t) (b:=t) (x:=500) (y:=500) (by lia) (by lia) (by lia) (by lia)
 refine dw (aH (be (ac (aH (aH (aH (aH (bh rfl (iK (ag (eN (by rfl) (dU rfl rfl (eV (by rfl) (cn (ag (cn (ag ?_)))))))))))))))))
 refine g8 (by rw [ka (by lia) (by lia)];rfl) ?_
 refine av rfl (iK (ag (eN (by rfl) (aT rfl ?_))))
 generalize hy:((x.fmod 2147483587+26003*(t:Int)+1913)^(5:Int).toNat).fmod 2147483629=y
 have f2:=iu (x:=(x.fmod 2147483587+26003*(t:Int)+1913)^(5:Int).toNat) (n:=2147483629) (by decide)
 rw [show ((2147483629:Nat):Int)=2147483629 from rfl,hy] at f2
 have y1:=f2.1
 have y2:=f2.2
 clear f2 hy
 have yy:=xN (a:=y) (b:=2*(t:Int)+5501) (x:=2147483628) (y:=6501) (by lia) (by lia) (by lia) (by lia)
 have yy1:=yy.1
 have yy2:=yy.2
 clear yy
 refine dw (aH (be (ac (aH (aH (aH (bX rfl (aH (dU rfl rfl (eV (by rfl) (ag (cn ?_))))))))))))
 refine eV (by rw [ka (a:=y) (by lia) (by lia)];rfl) ?_
 refine aH (dU rfl rfl (eV (by rfl) (ae rfl (eV (by rw [ud (n:=t) (Dr ht (et rfl)),GN]) (cn (ag (cn (ag ?_))))))))
 refine g8 (by rw [(by rw [Int.mul_assoc]:26003*(t:Int)*t=26003*((t:Int)*t)),ka (by lia) (by lia)];rfl) ?_
 refine av rfl (iK (ag (eN (by rfl) (gH rfl (cC (aH (be (ac (dU rfl rfl (iq (by rfl) (av rfl (iK (ae rfl ?_)))))))))))))
 refine eN (by rw [eG (by lia)];rfl) ?_
 generalize ((((y*(2*(t:Int)+5501)+26003*(t:Int)*t+41)^(3:Int).toNat).fmod 2147483579).fdiv 32)=w
 have f3:=iu (x:=w) hn
 have:=q (w.fmod n).toNat (jk (iu hn))
 rw [EH f3.1] at this
 exact this
theorem N6 {M p n t q0:Nat} {x:Int} {cells:List Int} (hM:60<=M) (hn:1<=n) (hn2:n<=1000) (ht:t<=500) (hp:am σ p=some (.list [.obj q0,.int ((t+1:Nat):Int),.int 0])) (hq:am σ q0=some (.list (cells.map .int))) (hc:cells.length<=48)
  (q:∀(r:Nat) (a:Int) (σ':al),r<n->0<=a->(σ'=aU σ p (.list [.obj q0,.int ((t+1:Nat):Int),.int a])\/(σ'=σ/\a=0))->Q (.int r) σ'):
  (aj bH M).b (NW.drop 5) [(119,.val (.obj p)),(82,.val (.int n)),(93,.val (.int t)),(118,.val (.int x))] σ (fun fl Z0 σ=>match fl with|.ret v=>Q v σ|.next=>Q .none σ):=by
 refine fuel hM fun N=>?_
 have fin:(aj bH (N+60)).b (NW.drop 6) [(119,.val (.obj p)),(82,.val (.int n)),(93,.val (.int t)),(118,.val (.int x))] σ (fun fl Z0 σ=>match fl with|.ret v=>Q v σ|.next=>Q .none σ):=Oi (q0:=0) (by lia) hn ht fun r hr=>q r 0 σ hr (by lia) (.inr ⟨rfl,rfl⟩)
 by_cases hlt:(t:Int)<cells.length
 ·by_cases hg:10^18<=(cond (eB x 0) (-x) x)
  ·generalize hG:2*(cond (eB x 0) (-x) x-10^18)+cond (eB x 0) (1:Int) 0=G
   have hgen:∀(y:Int) (b:Bool),10^18<=y->0<=2*(y-10^18)+cond b (1:Int) 0:=fun y b h=>by
    cases b
    ·rw [cond_false];lia
    ·rw [cond_true];lia
   refine bJ (gi (jd rfl (be (ac (di rfl rfl (dm hp rfl rfl (av rfl ?_)))))))
   refine ir hq (Dh (by rw [Do];lia)) ?_
   walk_at "m"
   refine aI (bk (by rw [Do];exact hlt)) ?_
   refine gi (aA (bh rfl (xc (dU rfl rfl (g8 (by rfl) (xx (aI (ax hg) (zt (aI rfl (dw (aH (bX rfl (aH (bh rfl (xc (dU rfl rfl (g8 (by rfl) (dA (eV (by rfl) (be (ac (mN rfl rfl (kC (av rfl (Mx (cn ?_))))))))))))))))))))))))))
   rw [show (10:Int)^(18:Int).toNat=10^18 from rfl,hG]
   refine aT rfl (ao (mP (aH (bh rfl (iK (ae rfl ?_))))))
   refine iq (by rw [ud hn2,eG (by lia)];rfl) ?_
   refine ae rfl (ag (qe hp (by rfl) (cC (aH (bh rfl (iK (ae rfl ?_)))))))
   refine eN (by rw [eG (by lia)];rfl) ?_
   have f3:=iu (x:=G) hn
   have:=q (G.fmod n).toNat (G.fdiv n) (aU σ p (.list [.obj q0,.int ((t+1:Nat):Int),.int (G.fdiv n)])) (jk f3) (uV (hG▸hgen _ _ hg)) (.inl rfl)
   rw [EH f3.1] at this
   exact this
  ·refine bJ (gi (jd rfl (be (ac (di rfl rfl (dm hp rfl rfl (av rfl ?_)))))))
   refine ir hq (Dh (by rw [Do];lia)) ?_
   walk_at "m"
   refine aI (bk (by rw [Do];exact hlt)) ?_
   refine gi (aA (bh rfl (xc (dU rfl rfl (g8 (by rfl) (xx ?_))))))
   refine ar (yO (by have:(10:Int)^(18:Int).toNat=10^18:=rfl;rw [this];lia)) ?_
   exact ar rfl (aJ fin)
 ·refine bJ (gi (jd rfl (be (ac (di rfl rfl (dm hp rfl rfl (av rfl ?_)))))))
  refine ir hq (Dh (by rw [Do];lia)) ?_
  walk_at "m"
  refine ar (cJ (by rw [Do];lia)) ?_
  exact ar rfl (aJ fin)
theorem N4 {M p q0 n t0:Nat} (hM:90<=M) (hn:1<=n) (hn2:n<=1000) (h:r8 σ p q0 t0) (ht0:t0<=499) (q:∀(r:Nat) σ',r<n->iz p σ σ'->r8 σ' p q0 (t0+1)->Q (.int r) σ'):(aj bH M).c 80 [.obj p,.int n] σ Q:=by
 refine fuel hM fun N=>Me h fun cells t a hp hq hqp ht ha hc=>bZ (N:=N+89) (loc:=[(119,.val (.obj p)),(82,.val (.int n))]) rfl rfl rfl ?_
 by_cases ha0:0<a
 ·refine bJ (aA (di rfl rfl (dm hp rfl rfl (ag (jv (aI (bk ha0) (dw (aH (be (ac (di rfl rfl (dm hp rfl rfl (av rfl (iK (ae rfl ?_)))))))))))))))
  refine eN (by rw [eG (by lia)];rfl) ?_
  refine aT rfl (ao (mP (aH (be (ac (di rfl rfl (dm hp rfl rfl (av rfl (iK (ae rfl ?_))))))))))
  refine iq (by rw [ud hn2,eG (by lia)];rfl) ?_
  refine ae rfl (ag (qe hp (by rfl) (B7 rfl ?_)))
  have f3:=iu (x:=a) hn
  have:=q (a.fmod n).toNat (aU σ p (.list [.obj q0,.int t,.int (a.fdiv n)])) (jk f3) .set ⟨cells,t,a.fdiv n,cF hp,by rw [cT hqp];exact hq,hqp,by lia,uV ha,hc⟩
  rw [EH f3.1] at this
  exact this
 ·have ha1:a=0:=by lia
  subst ha1
  have hp1:am (aU σ p (.list [.obj q0,.int ((t+1:Nat):Int),.int 0])) p=some (.list [.obj q0,.int ((t+1:Nat):Int),.int 0]):=cF hp
  have hq1:am (aU σ p (.list [.obj q0,.int ((t+1:Nat):Int),.int 0])) q0=some (.list (cells.map .int)):=by rw [cT hqp];exact hq
  have hk1:iz p σ (aU σ p (.list [.obj q0,.int ((t+1:Nat):Int),.int 0])):=.set
  refine bJ (aA (di rfl rfl (dm hp rfl rfl (ag (jv (ar rfl (aJ (dw (di rfl rfl (dm hp rfl rfl (aT rfl (ao (mP (dU rfl rfl (cn (ae rfl (ag (qe hp (by rfl) ?_))))))))))))))))))
  show (aj bH _).b _ [(119,.val (.obj p)),(82,.val (.int n)),(93,.val (.int t))] (aU σ p (.list [.obj q0,.int ((t+1:Nat):Int),.int 0])) _
  generalize aU σ p (.list [.obj q0,.int ((t+1:Nat):Int),.int 0])=σ1 at hp1 hq1 hk1
  have fin:∀(x:Int) (S:al),rh σ1 S->(aj bH (N+89)).b (NW.drop 5) [(119,.val (.obj p)),(82,.val (.int n)),(93,.val (.int t)),(118,.val (.int x))] S (fun fl Z0 σ=>match fl with|.ret v=>Q v σ|.next=>Q .none σ):=fun x S hS=>
   N6 (by lia) hn hn2 (by lia) (hS _ _ hp1) (hS _ _ hq1) hc fun r a' σ' hr ha' hσ=>by
    rcases hσ with rfl|⟨rfl,rfl⟩
    ·exact q r _ hr ((hk1.tr hS.keep).tr .set) ⟨cells,t+1,a',cF (hS _ _ hp1),by rw [cT hqp];exact hS _ _ hq1,hqp,by lia,ha',hc⟩
    ·exact q r _ hr (hk1.tr hS.keep) ⟨cells,t+1,0,hS _ _ hp1,hS _ _ hq1,hqp,by lia,ha',hc⟩
  unfold NW at fin
  have hcl:(cells.map CV.int).length<=48:=by rw [Do];exact hc
  have hcut:dF 0 (cE (cells.map CV.int).length 1) (cells.map CV.int)=(cells.take 1).map CV.int:=by
   rw [show (1:Int)=((1:Nat):Int) from rfl,mB,J2]
  refine dw (aH (aH (dU rfl rfl (eV (by rfl) (ag (cn (aH (be (ac (be (ac (eP (di rfl rfl (dm hp1 rfl rfl (bn (db (ag (bn ?_))))))))))))))))))
  refine Nv hq1 (by rw [ax (by lia),ax (by lia),Dh (by lia)];rfl) ?_
  rw [hcut]
  walk_at "q"
  refine Qz aE cK (Dh (by rw [Ej];lia)) ?_
  refine av rfl (iK (ag (eN (by rfl) (cn (aT rfl ?_)))))
  have e1:rh σ1 (σ1++[.list ((cells.take 1).map CV.int)]):=.app
  generalize σ1++[.list ((cells.take 1).map CV.int)]=S2 at e1
  generalize 26003*(t:Int)+1913+(sx (cells.take 1)).fmod 1000003=x0
  cases hcs:cells with
  |nil=>
   subst hcs
   exact bJ (aA (di rfl rfl (dm (e1 _ _ hp1) rfl rfl (fD (av rfl (yA (au (e1 _ _ hq1)) aE (ar rfl (aJ (fin x0 _ (e1.tr .app))))))))))
  |cons c0 cs=>
   have hlen:0<cells.length:=by rw [hcs];simp
   have f4:=iu (x:=(t:Int)) (n:=cells.length) (by lia)
   have hidx:am (cells.map CV.int) (cx ((t:Int).fmod (cells.length:Int)) (cells.map CV.int).length)=some (.int (cells.getD ((t:Int).fmod (cells.length:Int)).toNat 0)):=by
    have e2:cx ((t:Int).fmod (cells.length:Int)) (cells.map CV.int).length=((t:Int).fmod (cells.length:Int)).toNat:=by
     unfold cx
     rw [cJ f4.1];rfl
    rw [e2,aO,DH,DP,DA (jk f4)];rfl
   refine bJ (aA (di rfl rfl (dm (e1 _ _ hp1) rfl rfl (fD (av rfl (yA (au (e1 _ _ hq1)) aE ?_))))))
   refine aI (by rw [hcs];rfl) ?_
   refine dw (eO (di rfl rfl (dm (au (e1 _ _ hp1)) rfl rfl (aH (bh rfl (iK (be (ac (di rfl rfl (dm (au (e1 _ _ hp1)) rfl rfl (av rfl (ir (au (e1 _ _ hq1)) (Dh (by lia)) ?_))))))))))))
   rw [Do]
   refine eN (by rw [eG (by lia)];rfl) ?_
   refine dm (au (e1 _ _ hq1)) hidx (by unfold r0;rw [cJ f4.1,Do,bk f4.2,Dh (by lia)];rfl) ?_
   exact gH rfl (aJ (fin _ _ (e1.tr .app)))
theorem r8.ext (h:rh S S') (P:r8 S p q t):r8 S' p q t:=by
 exact kZ P fun cells t' a hp hq x=>⟨cells,t',a,h _ _ hp,h _ _ hq,x⟩
theorem OV (hM:110<=M) (hx:1<=x.length) (hx2:x.length<=1000) (h:r8 σ p q0 t0) (ht0:t0<=499) (q:∀(v:Int) σ',v∈x->iz p σ σ'->r8 σ' p q0 (t0+1)->Q (.int v) σ'):(aj bH M).c 81 [.obj p,.bytes x] σ Q:=by
 refine fuel hM fun N=>bZ (N:=N+109) (loc:=[(119,.val (.obj p)),(122,.val (.bytes x))]) rfl rfl rfl (cC (eO (ae rfl (aK (dO rfl (ac (bh rfl (fw (Dh (by lia)) (av rfl (ai rfl (N4 (by lia) hx hx2 h ht0 fun r σ' hr hk hp=>?_)))))))))))
 refine mZ (by rw [dM hr,Dh (by lia)];rfl) ?_
 rw [cy,DP,DA hr]
 exact q _ _ (GB _) hk hp
theorem Sp {M p q0 t0 j:Nat} {L:List (List Nat)} (hM:110<=M) (hx:1<=L.length) (hx2:L.length<=1000) (hj:am σ j=some (.list (L.map .str))) (hjp:j≠p) (h:r8 σ p q0 t0) (ht0:t0<=499) (q:∀(v:List Nat) σ',v∈L->iz p σ σ'->r8 σ' p q0 (t0+1)->Q (.str v) σ'):(aj bH M).c 81 [.obj p,.obj j] σ Q:=by
 refine fuel hM fun N=>bZ (N:=N+109) (loc:=[(119,.val (.obj p)),(122,.val (.obj j))]) rfl rfl rfl (cC (eO (ae rfl (aK (dO rfl (ac (bh rfl ?_)))))))
 refine ir hj (Dh (by rw [Do];lia)) ?_
 rw [Do]
 refine av rfl (ai rfl (N4 (by lia) hx hx2 h ht0 fun r σ' hr hk hp=>?_))
 refine dm (hk _ _ hjp hj) (by rw [cy,aO,DH,DA hr];rfl:am (L.map CV.str) (cx (r:Int) (L.map CV.str).length)=some (.str L[r])) (by rw [Do,dM hr,Dh (by lia)];rfl) ?_
 exact q _ _ (GB _) hk hp
theorem Uc {M k:Nat} {cells:List Int} {o:Obj} (hM:110<=M) (hk:am σ k=some (.raw (cells.map .int) o)) (hc:cells.length<=900) (q:∀σ' p q0,rh σ σ'->r8 σ' p q0 0->σ.length<=p->Q (.obj p) σ'):(aj bH M).c 79 [.obj k] σ Q:=by
 refine fuel hM fun N=>bZ (N:=N+109) (loc:=[(117,.val (.obj k))]) rfl rfl rfl ?_
 have hcut:dF 0 (cE (cells.map CV.int).length 48) (cells.map CV.int)=(cells.take 48).map CV.int:=by
  rw [show (48:Int)=((48:Nat):Int) from rfl,mB,J2]
 refine ao (dj (fD (ac (f9 (eP (ae rfl (bn (db (ag (bn ?_))))))))))
 refine MA hk (by rw [ax (by lia),ax (by lia),Dh (by rw [Do];lia)];rfl) ?_
 rw [hcut]
 refine fc (hW aE) ?_
 refine pE id (l:=cells.take 48) (by rw [Ej];lia) (fun k h=>by cases h) (by rw [Ej];lia) (D9 (by simp)) (au aE) aE ?_ fun x Z0 K loc' σ' Q' hy hx hj q'=>be (ac (ae hx (aL (iK q'))))
 rw [KF,bU]
 refine ac (ag (ac (ag (aL ?_))))
 refine q _ _ (σ++[CO.list ((cells.take 48).map CV.int)]).length (.tr .app (.tr .app .app)) ⟨cells.take 48,0,0,aE,au (by rw [aS];rfl),?_,by lia,by lia,by rw [Ej];lia⟩ ?_
 ·simp [qc,pJ,qj]
 ·simp
end
theorem NT {d s:Nat} (h1:2<=d) (h2:d<=9) (h3:s<=4) (h4:s<=d):f8 gX d s:=by apply BH h1 h2 h3 h4<;>kernel_rfl
theorem Mn {d s:Nat} (h1:2<=d) (h2:d<=9) (h3:s<=4) (h4:s<=d):f8 fz d s:=by apply BH h1 h2 h3 h4<;>kernel_rfl
theorem L8 {d s:Nat} (h1:2<=d) (h2:d<=9) (h3:s<=4) (h4:s<=d):f8 eK d s:=by apply BH h1 h2 h3 h4<;>kernel_rfl
theorem Mp {d s:Nat} (h1:2<=d) (h2:d<=9) (h3:s<=4) (h4:s<=d):f8 dQ d s:=by apply BH h1 h2 h3 h4<;>kernel_rfl
theorem NI {d:Nat} (h1:2<=d) (h2:d<=9):f8 dl d 0:=by apply Td (P:=fun d=>f8 dl d 0) h1 h2<;>kernel_rfl
theorem BJ {z:Nat} (h1:2<=z) (h2:z<=9):wP gV z:=by apply Td (P:=wP gV) h1 h2<;>kernel_rfl
theorem Bz {z:Nat} (h1:3<=z) (h2:z<=9):wP qx z:=by apply QT (P:=wP qx) h1 h2<;>kernel_rfl
theorem Ac {z:Nat} (h1:3<=z) (h2:z<=9):wP i5 z:=by apply QT (P:=wP i5) h1 h2<;>kernel_rfl
theorem AZ {z:Nat} (h1:3<=z) (h2:z<=9):wP lU z:=by apply QT (P:=wP lU) h1 h2<;>kernel_rfl
theorem zY {z:Nat} (h1:3<=z) (h2:z<=9):wP gf z:=by apply QT (P:=wP gf) h1 h2<;>kernel_rfl
inductive Oh (as:List CV) (σ:al):Prop
 |mk (k:List Nat) (d sc:Nat) (l:List Int) (q0:as=[.str k,.int ((d:Nat):Int),.int ((sc:Nat):Int),.bytes l]) (q1:dz k d sc=true) (q2:l.any bS=true) (q3:Dn l.length 100=true)
theorem mo (h:dz k d s=true):(k=gX\/k=fz\/k=eK\/k=dQ\/k=dl)/\2<=d/\d<=9/\0<=s/\s<=4/\s<=d/\(k=dl->s=0):=by
 unfold dz sY at h
 simp only [Dl,Fm,cg,cA,Ec,mf] at h
 refine M9 h fun h1 h2 h3 h4 h5 h6 h7=>⟨h1,h2,h3,h4,h5,h6,fun e=>?_⟩
 rcases h7 with h7|h7
 ·rw [e] at h7;cases h7
 ·exact h7
theorem sd (h:dz k d s=true):bK k d.toNat<=100:=by
 refine iG (mo h) fun Z0 h2 h3 Z0=>?_
 have:d.toNat<=9:=by lia
 unfold bK
 cases aF k eK
 ·cases aF k dQ
  ·show d.toNat<=100;lia
  ·cases Dn d.toNat 4
   ·cases Dn d.toNat 9
    ·exact (by decide:8<=100)
    ·exact (by decide:4<=100)
   ·exact (by decide:2<=100)
 ·show d.toNat/2+1<=100;lia
theorem Vo (G:iE C) (ct:fu C sl) (hT:C.T=bH) (h16:C.nS 16="at") (n1:C.nS 130="due") (n2:C.nS 115="memory") (n3:C.nS 129="elder")
  (hx:kf C.K=true) (hb:kM C.K (C.fa 68)=true) (hcat:ri C.K (C.fa 88)=true) (hby:nsIn C.K mainGlobals "bytes"=some none):mO C (N+200+sl) 89 Oh:=by
 rintro as σ S hid m ρ s vs R ok Re hv ⟨k,d,sc,l,rfl,hv2,hl,hlen⟩ K
 refine oX (n:=N+199+sl) (loc:=[(124,.val (.str k)),(12,.val (.int d)),(2,.val (.int sc)),(84,.val (.bytes l))]) G (by rw [hT];rfl:C.T.fn 89=some ⟨[124,12,2,84],[],[],TM⟩) rfl rfl (ok.le (by lia)) Re hv (fun kk scp body hc hbody S' δ h' tk F hS=>?_) K
 refine kZ (f7 (show eD C.nm C.gk kk _ (_::_) _=true from hc)) fun k1 st b1 zz1 d1 d2=>?_
 subst zz1
 refine kZ (f7 d2) fun k2 st2 b2 zz3 d3 d4=>?_
 subst zz3
 refine kZ (f7 d4) fun k3 st3 b3 zz5 d5 d6=>?_
 subst zz5
 have B:gz C sl (N+199):=⟨fun j Z0=>⟨(cU G ct j).1,(cU G ct j).2.1⟩,fun j Z0=>(cU G ct j).2.2.1⟩
 have hlen':=D5 hlen
 refine bB (fS (s:=aQ s h' tk) (N:=N+198) (Q:=CI [(124,.val (.str k)),(12,.val (.int d)),(2,.val (.int sc)),(84,.val (.bytes l)),(68,.val (.int (-1)))] σ) G.toTabE ct B d1 F ?_ fun fl loc' σ' ρ' hp2 tk2 q pp F2=>?_)
 ·rw [hT]
  refine iB (aK (ac (ae rfl (aL (ai rfl (To (by lia) ?_))))))
  rw [(by unfold kT;rw [hl];rfl:kT l=-1)]
  exact aT rfl ⟨rfl,rfl,rfl⟩
 refine eU q fun zz7 zz8 zz9=>?_
 clear q
 subst zz7 zz8 zz9
 refine bB (fS (s:=aQ s hp2 tk2) (N:=N+198) (Q:=CI [(124,.val (.str k)),(12,.val (.int d)),(2,.val (.int sc)),(84,.val (.bytes l)),(68,.val (.int (-1))),(130,.val .none)] σ) G.toTabE ct B d3 (F2.up F.ok) ?_ fun fl loc' σ' ρ'' h3' tk3 q pp3 F3=>?_)
 ·rw [hT]
  exact iB (iC (aA (ae rfl (ag (kC (aI rfl (ag (aT rfl ⟨rfl,rfl,rfl⟩))))))))
 refine eU q fun zz10 zz11 zz12=>?_
 clear q
 subst zz10 zz11 zz12
 refine aG pp fun δ2 zz13=>?_
 clear pp
 subst zz13
 refine aG pp3 fun δ3 zz15=>?_
 clear pp3
 subst zz15
 refine aG (F3.up F.ok).4 fun m1 H=>?_
 refine jo (um d5) fun k4 e' p4 zz20 c1=>?_
 subst zz20
 refine AE (jV c1) fun k7 id p7 es pos zz24 c5 c6 c7 c8=>?_
 subst zz24
 refine aD (G.toTabG.fn _ _ (hO _ c7)) fun g1 g2=>?_
 rw [fU] at g1
 refine bB (mc (eu (s:=aQ s h3' tk3) ((cU G ct (N+198)).1) (.of_K g2) c8 c5 c6 (H.le (by lia)) (H.g g1) (Q:=fun vs σ'=>vs=[.obj σ.length,.bytes l,.none]/\σ'=σ++zW σ.length (jF k d sc)) ?_ fun cvs σ' ρ' vs h4 tk4 q hv hn p R4=>?_))
 ·rw [hT]
  refine ac (aK (ac (ae rfl (ac (ae rfl (ac (ae rfl (aL (aY (P:=Q1) rfl (show cond (dz k d sc) _ False from ?_))))))))))
  rw [hv2,cond_true,DK,DK]
  exact ac (ae rfl (ac (ae rfl (aL ⟨rfl,rfl⟩))))
 ·refine aD q fun zz25 zz26=>?_
  clear q
  subst zz25 zz26
  refine aG p fun δ4 zz27=>?_
  clear p
  subst zz27
  refine aG (gd _ (⟨σ,[],rfl,by simp⟩:lz σ.length k d sc (σ++zW σ.length (jF k d sc)))) fun e hi=>?_
  have hcase:∃g,lk (wt σ.length k d sc) 11=some (.str g)/\(g=iU\/g=jp):=by
   refine aD (mo hv2) fun hk Z0=>?_
   rcases hk with rfl|rfl|rfl|rfl|rfl
   ·exact ⟨_,rfl,.inl rfl⟩
   ·exact ⟨_,rfl,.inl rfl⟩
   ·exact ⟨_,rfl,.inl rfl⟩
   ·exact ⟨_,rfl,.inl rfl⟩
   ·exact ⟨_,rfl,.inr rfl⟩
  refine ay hcase fun g hg1 hg2=>?_
  have hz:=sd hv2
  rw [DK] at hz
  refine dy (VA (N:=181) (sl:=sl) G ct (by rw [hT];exact SU:RT C.T) (by rw [hT];rfl:C.T.fn 88=some ⟨[88,84,130],[],[],Q0⟩) h16 n1 n2 n3 hx hb hcat hby _ _ S' hid m1 _ (aQ s h4 tk4) _ _ (H.1.le (by lia)) R4 hv ⟨σ.length,e,_,g,((bK k d:Nat):Int),l,rfl,hi,hg1,hg2,rfl,by lia,by lia,hl,hlen⟩ fun δ5 τ5 h5 tk5 g5 T5 R5=>?_)
  refine ⟨δ2++δ3++δ4++δ5,zW σ.length (jF k d sc)++τ5,h5,tk5,g5,m1,rfl,rfl,T5,?_⟩
  rw [Di σ] at R5
  rw [←(by simp [Di]:ρ++δ++δ2++δ3++δ4++δ5=ρ++δ++(δ2++δ3++δ4++δ5))]
  exact R5
theorem RH {k:List Nat} {d s:Nat} (h:dz k d s=true):f8 k d s:=by
 refine M9 (mo h) fun hk h2 h3 h4 h5 h6 h7=>?_
 rcases hk with rfl|rfl|rfl|rfl|rfl
 ·exact NT (by lia) (by lia) (by lia) (by lia)
 ·exact Mn (by lia) (by lia) (by lia) (by lia)
 ·exact L8 (by lia) (by lia) (by lia) (by lia)
 ·exact Mp (by lia) (by lia) (by lia) (by lia)
 ·have:=h7 rfl
  have e:s=0:=by lia
  subst e
  exact NI (by lia) (by lia)
theorem vj {k:List Nat} {n:Int} (h:im k n=true):(k=qx\/k=i5\/k=gf\/k=lU\/k=gV)/\2<=n/\n<=9/\(k=gV\/3<=n):=by
 unfold im xR at h
 simp only [Dl,Fm,cg,cA] at h
 exact h
theorem RG {k:List Nat} {n:Nat} (h:im k n=true):wP k n:=by
 refine iG (vj h) fun hk h2 h3 h4=>?_
 rcases hk with rfl|rfl|rfl|rfl|rfl
 ·exact Bz (by rcases h4 with h4|h4;cases h4;lia) (by lia)
 ·exact Ac (by rcases h4 with h4|h4;cases h4;lia) (by lia)
 ·exact zY (by rcases h4 with h4|h4;cases h4;lia) (by lia)
 ·exact AZ (by rcases h4 with h4|h4;cases h4;lia) (by lia)
 ·exact BJ (by lia) (by lia)
def Cx.re (C:Cx) (T:Tab) (ds:List Env->Prop):Cx:={C with T:=T,ds:=ds}
theorem AR.re:∀{l:List (Nat×CV)} {es:List EL},AR (C.re T ds) ρ l es↔AR C ρ l es:=by
 intro x0
 induction x0 with
 |nil=>
  intro y4
  cases y4 with
  |nil=>
   exact GQ
  |cons Z1 Z2=>
   exact GQ
 |cons p l ihh=>
  intro y4
  cases y4 with
  |nil=>
   exact GQ
  |cons e es=>
   show ((∃t,e.key=.str (C.nS p.1) t)/\VR ρ p.2 e.val/\AR (C.re T ds) ρ l es)↔_
   rw [ihh (es:=es)];rfl
theorem DR.re:∀{l:List (List Nat×CV)} {es:List EL},DR (C.re T ds) ρ l es↔DR C ρ l es:=by
 intro x0
 induction x0 with
 |nil=>
  intro y4
  cases y4 with
  |nil=>
   exact GQ
  |cons Z1 Z2=>
   exact GQ
 |cons p l ihh=>
  intro y4
  cases y4 with
  |nil=>
   exact GQ
  |cons e es=>
   show ((∃t,e.key=.str (aV p.1) t)/\e.hash=HB C.w.params (aV p.1)/\VR ρ p.2 e.val/\DR (C.re T ds) ρ l es)↔_
   rw [ihh (es:=es)];rfl
theorem OR.re:OR (C.re T ds) ρ co o↔OR C ρ co o:=by
 cases co with
 |attrs l=>
  show (∃es n,o=dictOf es n/\AR (C.re T ds) ρ l es)↔(∃es n,o=dictOf es n/\AR C ρ l es)
  simp only [AR.re]
 |dict l=>
  show (∃es n,o=dictOf es n/\DR (C.re T ds) ρ l es/\(l.map (·.1)).Nodup)↔(∃es n,o=dictOf es n/\DR C ρ l es/\(l.map (·.1)).Nodup)
  simp only [DR.re]
 |cell v=>cases v<;>exact GQ
 |_=>exact GQ
theorem gR.re:∀{σ:al} {os:List (Du×Obj)},gR (C.re T ds) ρ σ os↔gR C ρ σ os:=by
 intro x0
 induction x0 with
 |nil=>
  intro y4
  cases y4 with
  |nil=>
   exact GQ
  |cons Z1 Z2=>
   exact GQ
 |cons co σ ihh=>
  intro y4
  cases y4 with
  |nil=>
   exact GQ
  |cons p os=>
   show (OR (C.re T ds) ρ co p.2/\gR (C.re T ds) ρ σ os)↔(OR C ρ co p.2/\gR C ρ σ os)
   rw [OR.re,ihh]
theorem aX.re:aX (C.re T ds) S hid m ρ σ h↔aX C S hid m ρ σ h:=
 ⟨fun ⟨F,os,N,nd,eq,O⟩=>⟨F,os,N,nd,eq,gR.re.mp O⟩,fun ⟨F,os,N,nd,eq,O⟩=>⟨F,os,N,nd,eq,gR.re.mpr O⟩⟩
theorem bT.Ok.re {S:bT} {n:Nat} (ok:S.Ok (C.re T ds) n) (h:∀l,ds l->C.ds l):S.Ok C n:=
 ⟨ok.1,ok.2,ok.3,ok.4,ok.5,ok.6,ok.7,ok.8,ok.9,ok.10,ok.11,ok.12,h _ ok.13,ok.14,ok.15⟩
theorem bY.re {n f:Nat} (h:bY C n f P) (hd:∀l,ds l->C.ds l):bY (C.re T ds) n f P:=
 fun as σ Q S hid m ρ s vs R ok Re hv q k=>h as σ Q S hid m ρ s vs R (ok.re hd) (aX.re.mp Re) hv q fun cv σ' ρ' v h' tk q hv p R'=>k cv σ' ρ' v h' tk q hv p (aX.re.mpr R')
section
variable {prog:E4} {w:FX} {K:Frag}
noncomputable abbrev Tt (prog:E4) (w:FX) (K:Frag) (p:E4) (loose:List Str) (mean:JC->Option Dk) (mg mb:Str->Option Dk):Cx:=Mv prog w K p loose mean mg mb zZ (fun Z0=>none) fun Z0=>True
noncomputable abbrev xy (prog:E4) (w:FX) (K:Frag) (p:E4) (loose:List Str) (mean:JC->Option Dk) (mg mb:Str->Option Dk):Cx:=Mv prog w K p loose mean mg mb zZ Tw fun Z0=>True
theorem uH (hF:eR K=true) (N f:Nat):bY (Tt prog w K p loose mean mg mb) N f ((aj TB N).c f):=
 (cU (md hF (fun Z0 Z0 h=>h) fun Z0 Z0 Z0 Z0=>trivial) (sl:=0) (fun f P e=>by cases e) N).2.2.2 f
theorem u8 (h:bY (Tt prog w K p loose mean mg mb) n f P):bY (xy prog w K p loose mean mg mb) n f P:=
 bY.re (T:=bH) (ds:=fun Z0=>True) h fun Z0 Z0=>trivial
theorem tI (hF:eR K=true):fu (xy prog w K p loose mean mg mb) 150:=by
 intro f P e
 refine tab_e e ?_ fun e=>tab_e e ?_ fun e=>tab_e e ?_ fun e=>tab_e e ?_ fun e=>by cases e
 ·refine u8 ((gc (uH hF 150 56)).mono fun as σ Q q=>ar1_c q fun a q=>asB_c q fun l q=>pi q fun h q=>?_)
  rw [Pf]
  exact ⟨rfl,Dh (Dr (D5 h) (by decide)),q⟩
 ·refine u8 ((gc (uH hF 150 65)).mono fun as σ Q q=>ar2_c q fun a b q=>asS_c q fun a q=>asS_c q fun g q=>pi q fun h q2=>?_)
  clear q
  rw [Dl,cg] at h
  obtain ⟨rfl,h⟩:=h
  rw [On h,DG]
  exact ⟨rfl,q2⟩
 ·refine u8 ((gc (uH hF 150 86)).mono fun as σ Q q=>ar2_c q fun a b q=>asS_c q fun k q=>asI_c q fun n q=>pi q fun h q2=>?_)
  clear q
  obtain ⟨m,rfl⟩:∃m:Nat,n=m:=⟨n.toNat,by have:=(vj h).2.1;lia⟩
  exact Of (RG h) ⟨rfl,q2⟩
 ·refine u8 ((gc (uH hF 150 87)).mono fun as σ Q q=>ar3_c q fun a b c q=>asS_c q fun k q=>asI_c q fun d q=>asI_c q fun s q=>pi q fun h q2=>?_)
  clear q
  refine Od (mo h) fun Z0 h2 Z0 h4 Z0=>?_
  obtain ⟨m,rfl⟩:∃m:Nat,d=m:=⟨d.toNat,by lia⟩
  obtain ⟨z,rfl⟩:∃z:Nat,s=z:=⟨s.toNat,by lia⟩
  exact Qo (RH h) ⟨rfl,q2⟩
theorem jD (hF:eR K=true) (N f:Nat):bY (xy prog w K p loose mean mg mb) (N+150) f ((aj bH N).c f):=
 (cU (md hF (fun Z0 Z0 h=>h) fun Z0 Z0 Z0 Z0=>trivial) (tI hF) N).2.2.2 f
end
def OK (as:List CV) (σ:al) (Q:bu):Prop:=(aj bH 340).c 89 as σ Q\/(Oh as σ/\∀τ,Q (.bool true) (σ++τ))
def Rc (f:Nat):Option (List CV->al->bu->Prop):=cond (Dy f 79) (some ((aj bH 120).c 79)) (cond (Dy f 80) (some ((aj bH 120).c 80)) (cond (Dy f 81) (some ((aj bH 120).c 81)) (cond (Dy f 84) (some ((aj bH 120).c 84))
 (cond (Dy f 86) (some Pz) (cond (Dy f 88) (some ((aj bH 320).c 88)) (cond (Dy f 89) (some OK) (cond (Dy f 90) (some (gB ((aj bH 380).c 90))) none)))))))
def TL:Tab:={fn:=fun Z0=>none,cl:=NL,gv:=QW,tv:=lk Pc,ct:=Rc}
inductive LI (R0:CO) (S:al) (p q0 t:Nat):Prop where
 |mk (c0:am S 0=some R0) (n0:0≠p) (c1:am S 1=some (.cell (some (.obj p)))) (n1:1≠p) (pen:r8 S p q0 t)
theorem LI.ext (h:LI R0 S p q0 t) (e:rh S S'):LI R0 S' p q0 t:=⟨e _ _ h.1,h.2,e _ _ h.3,h.4,h.5.ext e⟩
theorem LI.app (h:LI R0 S p q0 t):LI R0 (S++τ) p q0 t:=h.ext .app
theorem LI.keep (h:LI R0 S p q0 t) (k:iz p S S') (P:r8 S' p q0 t'):LI R0 S' p q0 t':=⟨k _ _ h.2 h.1,h.2,k _ _ h.4 h.3,h.4,P⟩
theorem r8.up (h:r8 S p q0 t) (k:t<=t'):r8 S p q0 t':=by
 exact Pi h fun c u a h1 h2 h3 h4 h5=>⟨c,u,a,h1,h2,h3,by lia,h5⟩
theorem LI.up (h:LI R0 S p q0 t) (k:t<=t'):LI R0 S p q0 t':=⟨h.1,h.2,h.3,h.4,h.5.up k⟩
theorem LI.set (h:LI R0 S p q0 t) (h0:j≠0) (h1:j≠1) (h2:j≠p) (h3:j≠q0):LI R0 (aU S j co) p q0 t:=by
 refine kZ h.5 fun c u a e1 e2 e3=>?_
 exact ⟨by rw [cT (FP h0)];exact h.1,h.2,by rw [cT (FP h1)];exact h.3,h.4,c,u,a,by rw [cT (FP h2)];exact e1,by rw [cT (FP h3)];exact e2,e3⟩
theorem LI.lt (h:LI R0 S p q0 t):1<S.length/\p<S.length/\q0<S.length:=by
 exact kZ h.5 fun c u a e1 e2 e3=>⟨gw h.3,gw e1,gw e2⟩
def kH (loc:aP):Prop:=lk loc 119=some (.cell 1)/\∀x k,x≠119->lk loc x≠some (.cell k)
theorem kH.put (h:kH loc) (hx:x≠119):kH (cu loc x (.val v)):=by
 refine ⟨by rw [ah,if_neg hx];exact h.1,fun y k hy=>?_⟩
 rw [ah]
 by_cases e:x=y
 ·rw [if_pos e];simp
 ·rw [if_neg e];exact h.2 y k hy
theorem LT (h:x≠y):∀{loc:List (Nat×α)},lk (loc.filter fun p=>!([x].any fun z=>Dy z p.1)) y=lk loc y:=by
 intro x0
 induction x0 with
 |nil=>
  exact rfl
 |cons p loc ihh=>
  rw [Jd]
  rw [(by simp:(!([x].any fun z=>Dy z p.1))=!Dy x p.1)]
  cases hb:Dy x p.1 with
  |true=>
   have:p.1=x:=(Dz hb).symm
   show lk (loc.filter _) y=cond (Dy p.1 y) _ (lk loc y)
   rw [ihh,this,show Dy x y=false from by rw [cG];simpa using h];rfl
  |false=>
   exact congrArg (cond (Dy p.1 y) _) ihh
theorem Ae:∀{loc:List (Nat×α)},lk (loc.filter fun p=>!([x].any fun z=>Dy z p.1)) x=none:=by
 intro x0
 induction x0 with
 |nil=>
  exact rfl
 |cons p loc ihh=>
  rw [Jd]
  rw [(by simp:(!([x].any fun z=>Dy z p.1))=!Dy x p.1)]
  cases hb:Dy x p.1 with
  |true=>exact ihh
  |false=>
   refine (congrArg (cond (Dy p.1 x) _) ihh).trans ?_
   rw [show Dy p.1 x=false from by rw [cG] at hb ⊢;simpa [eq_comm] using hb];rfl
theorem MC {elt:CE} {tg:List Nat} {tp:Bool} {cd:Option CE} {acc:Nat} {Q:al->Prop} (q:Q σ):(aj T (N+1)).p s elt tg tp cd (.seq []) acc loc σ Q:=q
theorem C5 {elt:CE} {tg:List Nat} {tp:Bool} {v:CV} {l:List CV} {acc:Nat} {Q:al->Prop} (q:gu loc σ tg tp v fun loc σ=>(aj T N).e elt loc σ fun v σ=>match am σ acc with
  |some (.list l')=>pB l'.length ((aj T N).p s elt tg tp none (.seq l) acc loc (aU σ acc (.list (l'++[v]))) Q)
  |_=>False):(aj T (N+1)).p s elt tg tp none (.seq (v::l)) acc loc σ Q:=q
theorem Uw {x:List Int} (hx:1<=x.length) (hx2:x.length<=1000):∀(vals:List CV) {N acc t:Nat} {S:al} {loc:aP} {done:List Int} {Q:al->Prop},lk loc 119=some (.cell 1)->(∀k,lk loc 82≠some (.cell k))->LI R0 S p q0 t->am S acc=some (.list (done.map .int))->acc≠0->acc≠1->acc≠p->acc≠q0->t+vals.length<=499->done.length+vals.length<=900->
  (∀S' done',LI R0 S' p q0 (t+vals.length)->am S' acc=some (.list ((done++done').map .int))->done'.length=vals.length->(∀v∈done',v∈x)->Q S')->(aj TL (N+vals.length+30)).p false (.calF 81 [.loc 119,.cst (.bytes x)]) [82] false none (.seq vals) acc loc S Q:=by
 intro x0
 induction x0 with
 |nil=>
  intro N acc t S loc done Q h1 h2 hI ha n0 n1 n2 n3 ht hd q
  exact MC (N:=N+29) (q S [] hI (by rw [DG];exact ha) rfl (fun v h=>by cases h))
 |cons w vals ihh=>
  intro N acc t S loc done Q h1 h2 hI ha n0 n1 n2 n3 ht hd q
  rw [DC] at ht hd
  refine C5 (N:=N+vals.length+30) (cw (bl h2 ?_))
  have g1:lk (cu loc 82 (.val w)) 119=some (.cell 1):=by rw [ah,if_neg (by decide)];exact h1
  refine aK (ac (eQ g1 hI.3 (ac (ag (aL (aY rfl (OV (by decide) hx hx2 hI.5 (by lia) fun v S' hv hk hp=>?_)))))))
  have ha':=hk _ _ n2 ha
  refine zQ ha' (by rw [Do];lia) ?_
  refine ihh g1 (fun k=>by rw [ah,if_pos rfl];simp) ((hI.keep hk hp).set (co:=.list (done.map .int++[.int v])) n0 n1 n2 n3) (done:=done++[v]) (by rw [cF ha',Dw];rfl) n0 n1 n2 n3 (NF ht) (by rw [Ds];exact NF hd) fun S2 done' hI2 h2' hl hm=>?_
  refine q S2 (v::done') (by rw [DC,←FR,EY];exact hI2) (by rw [h2',Di];rfl) (by rw [DC,hl];rfl) fun u hu=>?_
  rcases Dv.mp hu with rfl|hu
  ·exact hv
  ·exact hm u hu
noncomputable abbrev zs:List Int:=[48,49,50,51,52,53,54,55,56,57]
noncomputable abbrev C8:List Int:=[65,32,46,45,120]
theorem xW:∀x∈zs,0<=x/\x<256:=by decide
theorem Mq:∀x∈C8,0<=x/\x<256:=by decide
theorem P1 {M:Nat} {Q:Fl->aP->al->Prop} (hM:60<=M) (hl:kH loc) (hI:LI R0 S p q0 t) (ht:t<=400) (q:∀l S',l.length<=11->(∀x∈l,x∈zs)->LI R0 S' p q0 (t+12)->Q .next (cu loc 84 (.val (.bytes l))) S'):
  cN TL (aj TL M) (.asg 84 (.calB true .bytes [.comp false (.calF 81 [.loc 119,.cst (.bytes zs)]) [82] false (.calB true .range [.calF 80 [.loc 119,.cst (.int 12)]]) none])) loc S Q:=by
 refine fuel hM fun N=>iB (be (ac (f9 (be (ac (aK (ac (eQ hl.1 hI.3 (ac (ag (aL (aY rfl (N4 (n:=12) (by decide) (by decide) (by decide) hI.5 (by lia) fun r S1 hr hk hp=>?_)))))))))))))
 have hI1:=hI.keep hk hp
 refine aL (po (by rw [ax (by lia),bk (by lia)];rfl) ?_)
 refine fc (ma (by lia)) ?_
 have hlt:=hI1.lt
 have hlen:(S1++[CO.rng 0 (r:Int) 1]).length=S1.length+1:=by simp
 have hrm:(cR r 0 1).length=r:=by rw [jL];simp
 rw [show N+58=N+28-r+(cR r 0 1).length+30 from by rw [hrm,Et (Dr (EP hr) (Dr (et rfl) (Gm 28 N)))]]
 refine Uw (done:=[]) (by decide) (by decide) (cR r 0 1) (by rw [LT (by decide)];exact hl.1) (fun k h=>by rw [Ae] at h;cases h) (hI1.app.app) aE (by rw [hlen];exact Nat.succ_ne_zero _) (by rw [hlen];exact Gb (G5 hlt.1)) (by rw [hlen];exact Gb (G5 hlt.2.1)) (by rw [hlen];exact Gb (G5 hlt.2.2)) (by rw [hrm];exact Dr (FE (Em ht) (EP hr)) (et rfl)) (by rw [hrm];exact z8 (DY (Eg (GP r)) hr) rfl) fun S' l hI' hl' hll hm=>?_
 rw [hrm] at hll hI'
 have hin:∀x∈l,0<=x/\x<256:=fun x hx=>xW x (hm x hx)
 refine aL (dK hl' cK (by rw [Dl];exact ⟨fb (by simpa using hin),Dh (z8 (DY (Eg hll) hr) rfl)⟩) ?_)
 exact bl (fun k=>hl.2 84 k (by decide)) (q l S' (G6 (DY (Eg hll) hr)) hm (hI'.up (Dr (Eg (EY t 1 r)) (Gd hr t))))
theorem PK {M:Nat} {l:List Int} {Q:Fl->aP->al->Prop} (hM:60<=M) (hl:kH loc) (hI:LI R0 S p q0 t) (ht:t<=450) (h84:lk loc 84=some (.val (.bytes l))) (hll:l.length<=11) (hd:∀x∈l,x∈zs) (q:∀loc' l' S',kH loc'->lk loc' 84=some (.val (.bytes l'))->l'.length<=12->(∀x∈l',0<=x/\x<256)->LI R0 S' p q0 (t+2)->Q .next loc' S'):
  cN TL (aj TL M) (.ite true (.cmp true (.calF 80 [.loc 119,.cst (.int 3)]) [(.eq,.cst (.int 0))]) [.asg 84 (.bin true .add (.loc 84) (.calB true .bytes [.lst [.calF 81 [.loc 119,.cst (.bytes C8)]]]))] []) loc S Q:=by
 refine fuel hM fun N=>?_
 have hin:∀x∈l,0<=x/\x<256:=fun x hx=>xW x (hd x hx)
 refine kh (aA (aK (ac (eQ hl.1 hI.3 (ac (ag (aL (aY rfl (N4 (n:=3) (by decide) (by decide) (by decide) hI.5 (by lia) fun r S1 hr hk hp=>?_)))))))))
 have hI1:=hI.keep hk hp
 refine ag (uR (si (fun Z0=>?_) fun Z0=>aJ (q loc l S1 hl h84 (by lia) hin (hI1.up (by lia)))))
 refine ao (iB (aH (ae h84 (be (ac (fD (ac (aK (ac (eQ hl.1 hI1.3 (ac (ag (aL (aY rfl (OV (by decide) (by decide) (by decide) hI1.5 (by lia) fun v S2 hv hk2 hp2=>?_)))))))))))))))
 have hv2:=Mq v hv
 refine aL (aL (dK (r:=[v]) aE rfl (by rw [fb (by simpa using hv2)];rfl) ?_))
 refine dR (Dh (by simp;lia)) ?_
 refine bl (fun k=>hl.2 84 k (by decide)) (aJ ?_)
 refine q _ (l++[v]) _ (hl.put (by decide)) (by rw [ah,if_pos rfl]) (by simp;lia) (fun x hx=>?_) ((hI1.keep hk2 hp2).app.up (by lia))
 rcases DL.mp hx with hx|hx
 ·exact hin x hx
 ·rw [DW.mp hx];exact hv2
def CN:List (List Nat):=[qx,i5,gV,gf,lU]
def zK:List (List Nat):=[gX,fz,eK,dQ,dl]
theorem CR {M y m:Nat} {b:Int} {L:List (List Nat)} {Q:Fl->aP->al->Prop} (hM:60<=M) (hL1:1<=L.length) (hL2:L.length<=10) (hm:1<=m) (hm2:m<=100) (hy:y≠119) (hl:kH loc) (hI:LI R0 S p q0 t) (ht:t<=450)
  (q:∀k (r:Nat) S',k∈L->r<m->LI R0 S' p q0 (t+2)->Q .next (cu (cu loc 124 (.val (.str k))) y (.val (.int (b+r)))) S'):
  cN TL (aj TL M) (.asgT [124,y] (.tup [.calF 81 [.loc 119,.lst ((L.map CV.str).map .cst)],.bin true .add (.cst (.int b)) (.calF 80 [.loc 119,.cst (.int m)])])) loc S Q:=by
 refine fuel hM fun N=>jM (fh (ac (aK (ac (eQ hl.1 hI.3 (ac (fD (uv (aL ?_)))))))))
 have hI0:LI R0 (S++[.list (L.map .str)]) p q0 t:=hI.app
 have hlt:=hI.lt
 refine aY rfl (Sp (by decide) hL1 (by lia) aE (by lia) hI0.5 (by lia) fun k S1 hk hkp hp=>?_)
 have hI1:=hI0.keep hkp hp
 refine ac (aH (ag (aK (ac (eQ hl.1 hI1.3 (ac (ag (aL (aY rfl (N4 (by decide) hm (by lia) hI1.5 (by lia) fun r S2 hr hk2 hp2=>cn (aL (fY fK (gJ (bl (fun k=>hl.2 124 k (by decide)) (gJ (bl (fun k=>?_) (nV ?_)))))))))))))))))
 ·exact (hl.put (x:=124) (by decide)).2 y k hy
 ·exact q k r _ hk hr (hI1.keep hk2 hp2).app
theorem Pd {M z:Nat} {k:List Nat} {l:List Int} {Q:Fl->aP->al->Prop} (hM:60<=M) (hI:LI R0 S p q0 t) (hk:nQ k) (h3:3<=z) (h9:z<=9) (h124:lk loc 124=some (.val (.str k))) (h5:lk loc 5=some (.val (.int z))) (h84:lk loc 84=some (.val (.bytes l))) (hll:l.length<=12) (hin:∀x∈l,0<=x/\x<256)
  (q:∀S',LI R0 S' p q0 t->Q .next loc S'):
  cN TL (aj TL M) (.ite true (.nt (.calF 88 [.calF 86 [.loc 124,.loc 5],.loc 84,.calF 84 [.loc 124,.loc 5,.loc 84]])) [.ret (some (.cst (.bool false)))] []) loc S Q:=by
 refine fuel hM fun N=>?_
 have hv:im k z=true:=by
  unfold im
  rw [ax (by lia),ax (by lia),ax (by lia)]
  rcases hk with rfl|rfl|rfl|rfl|rfl<;>rfl
 refine kh (lT (gM (aK (ac (aK (ac (ae h124 (ac (ae h5 (aL (aY (P:=Pz) rfl (show cond (im k z) _ False from ?_))))))))))))
 rw [hv,cond_true,DK]
 exact ac (ae h84 (ac (aK (ac (ae h124 (ac (ae h5 (ac (ae h84 (aL (aY rfl (Tq (by decide) (by lia) (by lia) (by lia) (av rfl (aY rfl (Qr (by decide) hk (⟨S,[],rfl,by simp⟩:kR S.length k z _) (.inr h3) (by lia) (by lia) hin (by lia) fun τ=>ar rfl (aJ (q _ hI.app.app)))))))))))))))))
theorem PY {M d:Nat} {k:List Nat} {Q:Fl->aP->al->Prop} (hM:60<=M) (hl:kH loc) (hI:LI R0 S p q0 t) (ht:t<=450) (h124:lk loc 124=some (.val (.str k))) (h12:lk loc 12=some (.val (.int d)))
  (q:∀(sc:Nat) S',sc<=4->sc<=d->(k=dl->sc=0)->LI R0 S' p q0 (t+1)->Q .next (cu loc 2 (.val (.int sc))) S'):
  cN TL (aj TL M) (.asg 2 (.ife false (.cmp false (.loc 124) [(.eq,.cst (.str dl))]) (.cst (.int 0)) (.calF 80 [.loc 119,.bin true .add (.calB true .min [.loc 12,.cst (.int 4)]) (.cst (.int 1))]))) loc S Q:=by
 refine fuel hM fun N=>iB (iC (aA (ae h124 (ag (bw (si (fun Z0=>?_) fun hne=>?_))))))
 ·exact ag (bl (fun k=>hl.2 2 k (by decide)) (q 0 S (by lia) (by lia) (fun Z0=>rfl) (hI.up (by lia))))
 ·have hk:k≠dl:=fun e=>by rw [e] at hne;exact absurd hne (by decide)
  refine aK (ac (eQ hl.1 hI.3 (ac (aH (be (ac (ae h12 (ac (ag (aL ?_))))))))))
  have emin:cond (eB 4 (d:Int)) (4:Int) d+1=((min d 4+1:Nat):Int):=by
   by_cases h:4<(d:Int)
   ·rw [bk h,F9 (EP (Ez.mp h))];rfl
   ·rw [cJ (EZ.mp h),ET (EK.mp (EZ.mp h))];rfl
  refine (show cQ true TL S .min [.int d,.int 4] _ from ((show (fun v σ=>_) (CV.int (cond (eB 4 (d:Int)) (4:Int) d)) S from (ag (cn (aL ?_))))))
  rw [emin]
  exact aY rfl (N4 (by decide) (Em (Ep _)) (Dr (Em (GC d 4)) (et rfl)) hI.5 (by lia) fun r S1 hr hkp hp=>bl (fun k=>hl.2 2 k (by decide)) (q r S1 (Dr (G6 hr) (GC d 4)) (Dr (G6 hr) (Hy d 4)) (fun e=>absurd e hk) (hI.keep hkp hp)))
theorem wh {k:List Nat} {d sc:Nat} (hk:k∈zK) (h1:2<=d) (h2:d<=9) (h3:sc<=4) (h4:sc<=d) (h5:k=dl->sc=0):dz k d sc=true/\rn k sc:=by
 have h0:dz k d sc=(sY k&&(true&&(true&&(true&&(true&&(true&&(!aF k dl||j5 sc 0))))))):=by
  unfold dz
  rw [ax (a:=2) (by lia),ax (b:=9) (by lia),ax (a:=0) (by lia),ax (b:=4) (by lia),ax (a:=(sc:Int)) (b:=d) (by lia)]
 simp only [zK,Dv,Eb,or_false] at hk
 rcases hk with rfl|rfl|rfl|rfl|rfl
 ·exact ⟨by rw [h0];rfl,.inl rfl⟩
 ·exact ⟨by rw [h0];rfl,.inr (.inl rfl)⟩
 ·exact ⟨by rw [h0];rfl,.inr (.inr (.inl rfl))⟩
 ·exact ⟨by rw [h0];rfl,.inr (.inr (.inr (.inl rfl)))⟩
 ·have:=h5 rfl
  subst this
  exact ⟨by rw [h0];rfl,.inr (.inr (.inr (.inr ⟨rfl,rfl⟩)))⟩
theorem TS {d sc:Nat} {k:List Nat} {l:List Int} (hv:dz k d sc=true) (hk:rn k sc) (h1:2<=d) (h2:d<=9) (h3:sc<=9) (hl:l.length<=12) (q:∀τ,Q (.bool true) (S++τ)):OK [.str k,.int d,.int sc,.bytes l] S Q:=by
 by_cases hb:l.any bS=true
 ·exact .inr ⟨⟨k,d,sc,l,rfl,hv,hb,Dh (by lia)⟩,q⟩
 ·refine .inl (VF (by decide) hv hk h1 h2 h3 (fun c hc=>?_) (by lia) q)
  cases h:bS c with
  |false=>rfl
  |true=>exact absurd (FC.mpr ⟨c,hc,h⟩) hb
theorem A6 {l:List Int} {b:Int}:(dF 0 (cE l.length b) l).length<=l.length:=by
 rw [tj,Ej];lia
theorem Ph {M d sc:Nat} {k:List Nat} {l:List Int} {Q:Fl->aP->al->Prop} (hM:60<=M) (hI:LI R0 S p q0 t) (hv:dz k d sc=true) (hk:rn k sc) (h1:2<=d) (h2:d<=9) (h3:sc<=9) (hl:l.length<=12) (h124:lk loc 124=some (.val (.str k))) (h12:lk loc 12=some (.val (.int d))) (h2':lk loc 2=some (.val (.int sc))) (h84:lk loc 84=some (.val (.bytes l)))
  (q:∀S',LI R0 S' p q0 t->Q .next loc S'):
  cN TL (aj TL M) (.ite true (.bop true false [.nt (.calF 89 [.loc 124,.loc 12,.loc 2,.loc 84]),.nt (.calF 89 [.loc 124,.loc 12,.loc 2,.slc true (.loc 84) none (some (.neg (.cst (.int 1)))) none])]) [.ret (some (.cst (.bool false)))] []) loc S Q:=by
 refine fuel hM fun N=>kh (iJ (lT (gM (aK (ac (ae h124 (ac (ae h12 (ac (ae h2' (ac (ae h84 (aL (aY rfl (TS hv hk h1 h2 h3 hl fun τ=>ar rfl (iJ (lT (gM (aK (ac (ae h124 (ac (ae h12 (ac (ae h2' (ac (eP (ae h84 (bn (db (lE (ag (bn ?_)))))))))))))))))))))))))))))))))
 refine pH (by rw [ax (by lia),ax (by lia),Dh (by lia)];rfl) (aL ?_)
 exact aY rfl (TS hv hk h1 h2 h3 (Dr A6 hl) fun τ2=>ar rfl (oR (ar rfl (aJ (q _ hI.app.app)))))
def N7:List CS:=[.asg 84 (.calB true .bytes [.comp false (.calF 81 [.loc 119,.cst (.bytes zs)]) [82] false (.calB true .range [.calF 80 [.loc 119,.cst (.int 12)]]) none]),
 .ite true (.cmp true (.calF 80 [.loc 119,.cst (.int 3)]) [(.eq,.cst (.int 0))]) [.asg 84 (.bin true .add (.loc 84) (.calB true .bytes [.lst [.calF 81 [.loc 119,.cst (.bytes C8)]]]))] [],
 .asgT [124,5] (.tup [.calF 81 [.loc 119,.lst ((CN.map CV.str).map .cst)],.bin true .add (.cst (.int 3)) (.calF 80 [.loc 119,.cst (.int (7:Nat))])]),
 .ite true (.nt (.calF 88 [.calF 86 [.loc 124,.loc 5],.loc 84,.calF 84 [.loc 124,.loc 5,.loc 84]])) [.ret (some (.cst (.bool false)))] [],
 .asgT [124,12] (.tup [.calF 81 [.loc 119,.lst ((zK.map CV.str).map .cst)],.bin true .add (.cst (.int 2)) (.calF 80 [.loc 119,.cst (.int (8:Nat))])]),
 .asg 2 (.ife false (.cmp false (.loc 124) [(.eq,.cst (.str dl))]) (.cst (.int 0)) (.calF 80 [.loc 119,.bin true .add (.calB true .min [.loc 12,.cst (.int 4)]) (.cst (.int 1))])),
 .ite true (.bop true false [.nt (.calF 89 [.loc 124,.loc 12,.loc 2,.loc 84]),.nt (.calF 89 [.loc 124,.loc 12,.loc 2,.slc true (.loc 84) none (some (.neg (.cst (.int 1)))) none])]) [.ret (some (.cst (.bool false)))] []]
theorem M2:NV=[.ite true (.nt (.calF 90 [])) [.ret (some (.cst (.bool false)))] [],.asg 119 (.calF 79 [.loc 117]),.for [93] false (.calB true .range [.cst (.int 3)]) N7,.ret (some (.cst (.bool true)))]:=by kernel_rfl
theorem t8 (h:∀X:bu,(∀τ,X (.bool true) τ)->P [] [] X) (q:Q (.bool true) (S++[])):gB P [] S Q:=by
 refine ⟨rfl,h _ fun τ=>?_⟩
 exact q
theorem RW {M:Nat} {Q:Fl->aP->al->Prop} (hM:70<=M) (hl:kH loc) (hI:LI R0 S p q0 t) (ht:t<=300) (q:∀loc' S',kH loc'->LI R0 S' p q0 (t+20)->Q .next loc' S'):(aj TL M).b N7 loc S Q:=by
 obtain ⟨N,rfl⟩:∃N,M=N+61:=⟨M-61,by lia⟩
 refine ao (P1 (by lia) hl hI (by lia) fun l S1 hll hd hI1=>ao (PK (by lia) (hl.put (by decide)) hI1 (by lia) (by rw [ah,if_pos rfl]) hll hd fun loc2 l S2 hl2 h84 hll hin hI2=>ao (CR (b:=3) (by lia) (by decide) (by decide) (by decide) (by decide) (by decide) hl2 hI2 (by lia) fun k z S3 hk hz hI3=>?_)))
 have hkt:nQ k:=by
  simp only [CN,Dv,Eb,or_false] at hk
  rcases hk with h|h|h|h|h
  ·exact .inl h
  ·exact .inr (.inl h)
  ·exact .inr (.inr (.inr (.inr h)))
  ·exact .inr (.inr (.inl h))
  ·exact .inr (.inr (.inr (.inl h)))
 refine ao (Pd (z:=3+z) (k:=k) (l:=l) (by lia) hI3 hkt (by lia) (by lia) (by rw [ah,if_neg (by decide),ah,if_pos rfl]) (by rw [ah,if_pos rfl,Int.natCast_add];rfl) (by rw [ah,if_neg (by decide),ah,if_neg (by decide)];exact h84) hll hin fun S4 hI4=>?_)
 have hl3:kH (cu (cu loc2 124 (.val (.str k))) 5 (.val (.int (3+(z:Int))))):=(hl2.put (by decide)).put (by decide)
 have h84':lk (cu (cu loc2 124 (.val (.str k))) 5 (.val (.int (3+(z:Int))))) 84=some (.val (.bytes l)):=by rw [ah,if_neg (by decide),ah,if_neg (by decide)];exact h84
 generalize cu (cu loc2 124 (.val (.str k))) 5 (.val (.int (3+(z:Int))))=loc3 at hl3 h84'
 refine ao (CR (b:=2) (by lia) (by decide) (by decide) (by decide) (by decide) (by decide) hl3 hI4 (by lia) fun k2 d S5 hk2 hd2 hI5=>?_)
 have hl5:kH (cu (cu loc3 124 (.val (.str k2))) 12 (.val (.int (2+(d:Int))))):=(hl3.put (by decide)).put (by decide)
 have g124:lk (cu (cu loc3 124 (.val (.str k2))) 12 (.val (.int (2+(d:Int))))) 124=some (.val (.str k2)):=by rw [ah,if_neg (by decide),ah,if_pos rfl]
 have g12:lk (cu (cu loc3 124 (.val (.str k2))) 12 (.val (.int (2+(d:Int))))) 12=some (.val (.int ((2+d:Nat):Int))):=by rw [ah,if_pos rfl,Int.natCast_add];rfl
 have g84:lk (cu (cu loc3 124 (.val (.str k2))) 12 (.val (.int (2+(d:Int))))) 84=some (.val (.bytes l)):=by rw [ah,if_neg (by decide),ah,if_neg (by decide)];exact h84'
 generalize cu (cu loc3 124 (.val (.str k2))) 12 (.val (.int (2+(d:Int))))=loc5 at hl5 g124 g12 g84
 refine ao (PY (by lia) hl5 hI5 (by lia) g124 g12 fun sc S6 hs4 hsd hse hI6=>aD (wh (d:=2+d) hk2 (by lia) (by lia) hs4 hsd hse) fun hv hnk=>?_)
 refine ao (Ph (d:=2+d) (by lia) hI6 hv hnk (by lia) (by lia) (by lia) hll (by rw [ah,if_neg (by decide)];exact g124) (by rw [ah,if_neg (by decide)];exact g12) (by rw [ah,if_pos rfl]) (by rw [ah,if_neg (by decide)];exact g84) fun S7 hI7=>?_)
 exact aJ (q _ S7 (hl5.put (by decide)) (hI7.up (by lia)))
theorem Uq {M:Nat} {cells:List Int} {o:Obj} {Q:Fl->aP->al->Prop} (hM:90<=M) (hc:cells.length<=900) (q:∀loc' S',am S' 0=some (.raw (cells.map .int) o)->Q (.ret (.bool true)) loc' S'):(aj TL M).b NV [(117,.val (.obj 0)),(119,.cell 1)] [.raw (cells.map .int) o,.cell none] Q:=by
 refine fuel hM fun N=>?_
 rw [M2]
 refine ao (kh (lT (gM (aK (aL (aY rfl (t8 (fun X h=>UV (by decide) h) (ar rfl (aJ ?_)))))))))
 rw [DG]
 refine ao (iB (aK (ac (ae rfl (aL (aY rfl (Uc (k:=0) (cells:=cells) (o:=o) (by decide) rfl hc fun S1 p q0 he hp hlen=>?_)))))))
 have hc1:am S1 1=some (.cell none):=he 1 (.cell none) rfl
 refine l5 (k:=1) rfl hc1 ?_
 have hp1:2<=p:=hlen
 refine kZ hp fun cs u a e1 e2 e3=>?_
 have hc0:am S1 0=some (.raw (cells.map .int) o):=he 0 _ rfl
 have hq2:q0≠0:=fun e=>by rw [e,hc0] at e2;cases e2
 have hI:LI (.raw (cells.map .int) o) (aU S1 1 (.cell (some (.obj p)))) p q0 0:=⟨by rw [cT (by decide)];exact hc0,by lia,cF hc1,by lia,cs,u,a,by rw [cT (by lia)];exact e1,by rw [cT (fun e=>by rw [e,hc1] at e2;cases e2)];exact e2,e3⟩
 generalize aU S1 1 (.cell (some (.obj p)))=S2 at hI
 refine ao (jX (be (ac (ag (aL (po (b:=(3:Nat)) (by rfl) (iI (ma (by lia)) ?_)))))))
 have hI2:LI (.raw (cells.map .int) o) (S2++[.rng 0 (3:Nat) 1]) p q0 0:=hI.app
 generalize S2++[.rng 0 ((3:Nat):Int) 1]=S3 at hI2
 have hl0:kH [(117,.val (.obj 0)),(119,.cell 1)]:=⟨rfl,fun x k hx h=>by
  rw [jZ] at h
  cases hb:Dy 117 x with
  |true=>simp only [hb,cond_true] at h;cases h
  |false=>
   simp only [hb,cond_false] at h
   rw [jZ] at h
   rw [show Dy 119 x=false from by rw [cG];simpa [eq_comm] using hx] at h
   cases h⟩
 exact fQ (N:=N+88) (cw (bl (fun k=>hl0.2 93 k (by decide)) (RW (by lia) (hl0.put (by decide)) hI2 (by lia) fun loc1 S4 hl1 hI4=>fQ (N:=N+87) (cw (bl (fun k=>hl1.2 93 k (by decide)) (RW (by lia) (hl1.put (by decide)) hI4 (by lia) fun loc2 S5 hl2 hI5=>fQ (N:=N+86) (cw (bl (fun k=>hl2.2 93 k (by decide)) (RW (by lia) (hl2.put (by decide)) hI5 (by lia) fun loc3 S6 hl3 hI6=>kQ (N:=N+85) (ao (dj (ag (q _ _ hI6.1)))))))))))))
theorem bY.up (h:bY C n f P) (hk:n<=k):bY C k f P:=fun as σ Q S hid m ρ s vs R ok=>h as σ Q S hid m ρ s vs R (ok.le hk)
theorem aX.unturn (T:KtsTurn [] S.h₀ g) (R:aX C (S.at g) hid m ρ σ h):aX C S hid m ρ σ h:=by
 refine aX.e R fun os F N nd eq O=>⟨⟨F.ns,fun b o e=>F.keep b o (T.other b o e (by simp)),?_⟩,os,fun p hp=>⟨(N p hp).1,(N p hp).2.1,?_⟩,nd,eq,O⟩
 ·have:=F.above
  rw [show (S.at g).h₀=g from rfl,T.size] at this
  exact this
 ·cases e:S.h₀.get? p.1 with
  |none=>rfl
  |some o=>
   have:=T.other _ _ e (by simp)
   rw [show g.get? p.1=none from (N p hp).2.2] at this
   cases this
section
variable {prog:E4} {w:FX} {K:Frag}
noncomputable abbrev Ix (prog:E4) (w:FX) (K:Frag) (p:E4) (loose:List Str) (mean:JC->Option Dk) (mg mb:Str->Option Dk):Cx:=(xy prog w K p loose mean mg mb).re TL fun l=>l=[]
theorem CT (h:bY (xy prog w K p loose mean mg mb) n f P) (hn:n<=540):bY (Ix prog w K p loose mean mg mb) 540 f P:=(h.up hn).re fun Z0 Z0=>trivial
theorem Pm (h:mO (xy prog w K p loose mean mg mb) n f P) (hn:n<=540):bY (Ix prog w K p loose mean mg mb) 540 f fun as σ Q=>P as σ/\∀τ,Q (.bool true) (σ++τ):=by
 rintro as σ Q S hid m ρ s vs R ok Re hv ⟨hP,hQ⟩ A
 refine h as σ S hid m ρ s vs R ((ok.re (fun Z0 Z0=>trivial)).le hn) (aX.re.mp Re) hv hP fun δ τ h' tk g T R'=>?_
 rw [(ok.13)] at T
 exact A _ _ _ _ _ _ (hQ τ) rfl (Gk _ _) (aX.re.mpr (R'.unturn T))
theorem KK (hF:eR K=true) (h16:(xy prog w K p loose mean mg mb).nS 16="at") (n1:(xy prog w K p loose mean mg mb).nS 130="due") (n2:(xy prog w K p loose mean mg mb).nS 115="memory") (n3:(xy prog w K p loose mean mg mb).nS 129="elder")
  (hx:kf K=true) (hb:kM K (nK 68)=true) (hcat:ri K (nK 88)=true) (hby:nsIn K mainGlobals "bytes"=some none):fu (Ix prog w K p loose mean mg mb) 540:=by
 intro f P e
 refine tab_e e (CT (jD hF 120 79) (by decide)) fun e=>tab_e e (CT (jD hF 120 80) (by decide)) fun e=>tab_e e (CT (jD hF 120 81) (by decide)) fun e=>tab_e e (CT (jD hF 120 84) (by decide)) fun e=>
  tab_e e (CT (tI hF 86 Pz rfl) (by decide)) fun e=>tab_e e (CT (jD hF 320 88) (by decide)) fun e=>tab_e e ?_ fun e=>tab_e e (CT (gc (jD hF 380 90)) (by decide)) fun e=>by cases e
 intro as σ Q S hid m ρ s vs R ok Re hv q A
 rcases q with q|q
 ·exact (CT (jD (prog:=prog) (w:=w) (p:=p) (loose:=loose) (mean:=mean) (mg:=mg) (mb:=mb) hF 340 89) (by decide)) as σ Q S hid m ρ s vs R ok Re hv q A
 ·exact (Pm (Vo (C:=xy prog w K p loose mean mg mb) (N:=0) (sl:=150) (md hF (fun Z0 Z0 h=>h) fun Z0 Z0 Z0 Z0=>trivial) (tI hF) rfl h16 n1 n2 n3 hx hb hcat hby) (by decide)) as σ Q S hid m ρ s vs R ok Re hv q A
end
theorem AT {K:Frag} (h:eR K=true) {f:Nat} {fi:wN} (e:zZ f=some fi):Tb K (nK f) fi=true:=by
 unfold eR at h
 simp only [Dl] at h
 have:=D2.mp (h.1.1.1.1.1.1.2) _ (F5.mpr (yg e))
 rw [e] at this
 rcases KN.mp this with q|q
 ·cases q
 ·exact q
theorem PB {K:Frag} (h:eR K=true) {x:List Nat} {f:Nat} (e:QZ x=some (.fn f)):nsIn K mainGlobals (aV x)=some (some (.ref (nK f))):=by
 unfold eR at h
 simp only [Dl] at h
 have:=D2.mp (h.1.1.1.1.1.1.1.1.2) (x,.fn f) (uB e)
 exact sh (Ea.mp this).1
section
variable {prog:E4} {w:FX} {K:Frag}
theorem yW (hF:fg K=true) {h₀:DI} {s:Dm} {x:Du} {o:Obj} {cells:List Int} {vs:List Dk} (Tp:Top p loose mean mg mb h₀) (X:K.In h₀) (kp:∀b o,h₀.get? b=some o->s.heap.get? b=some o) (hsz:h₀.objs.size<=s.heap.objs.size)
  (hx0:h₀.get? x=none) (hx1:s.heap.get? x=some o) (ho:o=listOf vs.toArray 0) (hvs:dc [] (cells.map .int) vs) (hc:cells.length<=900) {Qm:Dk->Dm->Prop} {E:Dk->Dm->Prop}
  (q:∀h' tk,(∀b o,h₀.get? b=some o->h'.get? b=some o)->h'.get? x=some o->Qm (.bool true) (aQ s h' tk)):
  aq (model prog w) callerA (JA (.ref (nK 91)) [.ref x]) Qm E s:=by
 unfold fg at hF
 simp only [Dl] at hF
 refine aD hF fun zz1 hby=>?_
 obtain ⟨⟨⟨hF,hx⟩,hb⟩,hcat⟩:=zz1
 have G:iE (Ix prog w K p loose mean mg mb):=md hF (fun Z0 Z0 h=>by cases h) fun Z0 Z0 h=>by cases h
 have ct:fu (Ix prog w K p loose mean mg mb) 540:=KK hF (show aV (kF 16)="at" from by decide+kernel) (show aV (kF 130)="due" from by decide+kernel) (show aV (kF 115)="memory" from by decide+kernel) (show aV (kF 129)="elder" from by decide+kernel) hx hb hcat (qa (x:=[98,121,116,101,115]) hby)
 obtain ⟨name,qual,params,body,scope,dV,kV,doc,pm,an,cdv,ct',oc,od,osl,Fk⟩:=uy (prog:=prog) (w:=w) (p:=p) (loose:=loose) (mean:=mean) (mg:=mg) (mb:=mb) (fn:=fun Z0=>none) (ct:=Rc) (ds:=fun l=>l=[]) (AT hF (show zZ 91=some ⟨[117],[],[119],NV⟩ from rfl))
 have Xs:K.In s.heap:=fun a o h=>kp _ _ (X a o h)
 have el:ix ⟨[117],[],[119],NV⟩ [.obj 0]=some [(117,.val (.obj 0))]:=rfl
 have hv:dc [x] [.obj 0] [.ref x]:=⟨⟨x,rfl,rfl⟩,trivial⟩
 refine ay (Fk.8 [.obj 0] [.ref x] [x] _ s hv el Xs) fun binds hB hR=>dy ?_
 refine zJ (base:=h₀) (h₀:=h₀) (outer:=[]) (news:=[(x,o)]) (name:=name) (qual:=qual) (params:=params) (body:=body) (scope:=scope) (dV:=dV) (kV:=kV) (doc:=doc) (pm:=pm) (an:=an) (cdv:=cdv) (ct:=ct') (binds:=binds)
  (below_caller h₀) kp hsz ?_ Tp.nolimit (Xs _ _ Fk.1) rfl (codeRec_of Xs Fk.2) (by decide) hB ?_ ?_ ?_ Fk.5 Fk.6 Fk.4
 ·intro r hr
  rw [DW.mp hr]
  exact ⟨hx1,hx0⟩
 ·intro n0 y hy
  have hy1:y.1∈binds.map (·.1):=DE hy
  rw [hR.keys] at hy1
  have hy2:y.1=(Mv prog w K p loose mean mg mb (fun Z0=>none) Rc fun l=>l=[]).nS 117:=by simpa using hy1
  rcases Fk.9 117 (.head _) with h|h
  ·exact .inl (by rw [hy2];exact h)
  ·refine .inr ⟨by rw [hy2];exact h,?_⟩
   refine ay (Fk.13 _ h) fun z hz ez=>?_
   have hm:y.1∈(cellsFrom n0 scope.names []).map (·.1):=by
    rw [FV scope.names n0 0 [] [] rfl,Fk.11,hy2,←ez]
    exact DE hz
   refine aG (dY hm) fun a ha=>?_
   rw [ha];rfl
 ·rw [Fk.11]
  rw [DS,Fq]
  exact FA (fun h e=>h (ig G.inj e)) (DS.mp Fk.12)
 ·intro L' h1 tk cls Fg Ng CA ln kk1
  have ok':(fM callerA h₀ h₀ [] (envOfC qual scope L' (nK 91) cdv) L').Ok (Ix prog w K p loose mean mg mb) (100+540):=by
   refine ⟨below_caller h₀,X,Tp,Fj rfl,rfl,Fk.4,rfl,?_,?_,Fk.4,rfl,rfl,rfl,X,Tp⟩
   ·show 1+300+1+(100+540)<990;decide
   ·show 4+3+4*(100+540)<9000;decide
  have F':=mi (hid:=[]) (os:=[(x,o)]) G Fk ok' Fg Ng CA ln (by simp) (rfl:_=[x]) (show gR (Ix prog w K p loose mean mg mb) [x] [.raw (cells.map .int) o] [(x,o)] from ⟨⟨rfl,vs,0,ho,hvs⟩,trivial⟩) hR el
  refine aG Fk.3 fun kk hchk=>((cU G ct 100).2.2.1) kk scope NV body hchk _ _ _ _ _ (aQ s h1 tk) (fun fl Z0 S'=>fl=.ret (.bool true)/\am S' 0=some (.raw (cells.map .int) o)) _ _ F' (Uq (by decide) hc fun loc' S' h0=>⟨rfl,h0⟩) fun fl loc2 σ2 ρ2 h2 tk2 qq pp F2=>aD qq fun zz3 h0=>?_
  clear qq
  subst zz3
  refine aG F2.4 fun m2 H2=>?_
  obtain ⟨F3,os3,N3,nd3,eq3,O3⟩:=H2.6
  intro v hv
  subst (hv)
  refine ay (O3.get h0) fun pr hp1 hp2=>q h2 tk2 (fun b o e=>F3.keep b o e) ?_
  have e0:ρ2[0]?=some x:=by
   refine aG pp fun t zz4=>?_
   clear pp
   subst zz4
   rfl
  have:pr.1=x:=by
   rw [←eq3,DH,hp1] at e0
   simpa using e0
  rw [←this,←(hp2.1)]
  exact (N3 pr (DF _ (DU hp1))).1
end
theorem rH {prog:E4} {w:FX} {t:Sem Fin} {s:Dm} {R:Lj->Dm->Prop} (hreg:s.asleep)
  (h:aq (model prog w) callerA t (fun fin s'=>∃f,fin=.done f/\(R (.ok f) s'/\leftWithCleanup s'.gens=false)) (fun e s'=>R (.error e) s'/\leftWithCleanup s'.gens=false) s):
  ∃n r s' s'',runN (denote table) prog w n s ⟨t,.builtin "claim.caller" {},default,[]⟩=.halted (outcomeOf r) s'/\
   schedN (denote table) prog w n (.single s ⟨t,.builtin "claim.caller" {},default,[]⟩)=.halted (outcomeOf r) s'/\s'.forget=s''.forget/\R r s'':=by
 obtain ⟨n,r,s₁,s₂,hs,hn,hfo,hR⟩:=wp_halts_full (M:=model prog w) (R:=R) hreg (HY _ _ _ (fun fin p' s' h'=>by
  refine ay h' fun f zz1 hf=>?_
  clear h'
  subst zz1
  exact hf) (fun Z0 Z0 Z0 h'=>h') _ _ (h _ default caller_in (fun x hx=>by cases hx) (by decide)))
 exact ⟨n,r,s₂,s₁,hn,hs,hfo,hR⟩
noncomputable abbrev rG (q:E4) (loose:List Str) (XP:(Str->Option Dk)->DI->Prop) (YP:FX->DI->Prop) (r:RowW):Prop:=
 ∀(w:FX) (s₀ s₁:Dm) (mg mb:Str->Option Dk),Ground q loose r.records XP w s₀ mg mb s₀.heap->YP w s₀.heap->
  ∀(args:List WData) (vals:List Dk) (as:List Du),r.claim.pre args=true->Laid r.records w s₀ s₁ args vals as->∀a,mg r.name=some (.ref a)->
   aq (model r.prog w) callerA (JA (.ref a) vals) (fun v s'=>GoodWG r.claim (classAt s₀.heap) (LD s₀.heap) args s₁ (.ok (.ret v)) s')
    (fun e s'=>GoodWG r.claim (classAt s₀.heap) (LD s₀.heap) args s₁ (.error e) s') s₁
def Nh (r:OpenRow) (s:Dm) (args:List WData) (vs:List Dk) (s₁:Dm) (x:Except Dk Kt) (t:Dm):Prop:=
 r.toRowW.claim.Ends s args vs s₁ x t/\t.os=s.os/\(r.writes=true->namesKept r.prog r.keeps s.heap t.heap/\∀x∈r.records,∀a,classAt s.heap x.1=some a->recordClass t.heap a x.1 (x.2.map (·.1))=true)
theorem Sc {α0:Sort u0} {α1:Sort u1} {α2:Sort u2} {α3:Sort u3} {α4:Sort u4} {α5:Sort u5} {A:Prop} {B:α0->α1->α2->α3->α4->α5->Prop} (h:∃a b c d e f,A/\B a b c d e f):A:=
 h.elim fun Z0 h=>h.elim fun Z0 h=>h.elim fun Z0 h=>h.elim fun Z0 h=>h.elim fun Z0 h=>h.elim fun Z0 h=>h.1
theorem Md {r:OpenRow} {q:E4} {loose:List Str} {Xt:Dm->Bool} {XP:(Str->Option Dk)->DI->Prop} {α:Type} {Yf:Dm->α} {Ya:FX->α} {YP:FX->DI->Prop} {d:DefRec} {kwd:List (Str×PySem.Expr)} {N:Nat}
  (left:LeftO r.prog q loose Xt Yf Ya N) (hY:∀w s,Yf s=Ya w->YP w s.heap)
  (hX:∀s,Xt s=true->XP (s.heap.nsMap mainGlobals) s.heap) (hXk:∀mg h h',XP mg h->(∀b o,h.get? b=some o->h'.get? b=some o)->XP mg h')
  (hdef:defOf q r.name=some (d,kwd)) (hp:r.prog.theDef r.name=some (d.params,d.body,d.scope)) (hk:kwWritten? d.params.kwonlyargs d.params.kw_defaults=some kwd) (hRf:∀s,Xt s=true->RecFacts r.records s.heap) (hwr:(!r.writes||r.records.isEmpty)=true)
  (k1:r.wellSaid=true) (ok:(chainsOk q&&opensWell r.prog&&(frees r.toRowW&&r.within.isEmpty))=true) (hb:r.prog.bare) (hw:r.toRowW.promised)
  (call:rG q loose XP YP r.toRowW):r.Holds:=by
 refine ⟨k1,hw,?_⟩
 refine aD (Ea.mp ok) fun ok k5=>aD (Ea.mp ok) fun hch o1=>aD (Ea.mp k5) fun k5 k6=>Od (frees_parts k5) fun hsame hu ha hap hm=>?_
 refine ⟨⟨hb,o1,by show r.toRowW.makers.map _=[];rw [hm];rfl⟩,hw.witness,fun w=>⟨(left.behind hX hch w).1,fun s' hs'=>?_⟩⟩
 refine iH ((left.behind (XP:=fun mg h=>XP mg h/\RecFacts r.records h) (fun s hs=>⟨hX s hs,hRf s hs⟩) hch w).2 s' hs') fun s₀ hf hg0 Z=>Qc Z fun s hT hz hgens hg G00 y=>?_
 clear Z
 have G0:Ground q loose [] XP w s (s.heap.nsMap mainGlobals) (s.heap.nsMap builtinsNs) s.heap:=⟨G00.T,G00.B,G00.D,G00.TE,G00.TD,G00.W,G00.X.1,G00.cls,G00.has,G00.apart,G00.once,G00.K⟩
 have RF:=G00.X.2
 refine ⟨s₀,hf,hg0,s,hT,fun n hn=>?_,RF.1,RF.2.1,?_⟩
 ·obtain rfl:n=r.name:=by split at hn<;>simp_all
  exact pinned_of_view hg G0 hdef hp hk
 have hgens:s.gens=#[]:=Array.eq_empty_of_size_eq_zero (beq_iff_eq.mp hgens)
 have G:Ground q loose r.records XP w s _ _ s.heap:=RF.ground G0
 intro args hpre hlay ord hord
 refine aG (Gc.mp (layAllW_isSome (P:=w.params) (ord:=ord) G.has args r.args s (pre_splitW hpre).1)) fun zz4 hlaid=>?_
 obtain ⟨vs,s₁⟩:=zz4
 have keeps:=layAllW_keeps _ _ _ hlaid
 have hal:=layAllW_rest _ _ _ hlaid
 refine iH (reads_layAllW hord _ _ _ hlaid hlay s₁.heap (fun Z0 Z0 e=>e)) fun as hrd hin hold=>?_
 have L:Laid r.records w s s₁ args vs as:=⟨⟨ord,hord,hlaid⟩,hrd,hin,hold,keeps,hal.1.trans hgens,hal.2.2.1⟩
 have G₁:=G.keeps hXk keeps
 refine (G₁.fn hdef).elim fun a Z=>?_
 have h1:=Sc Z
 clear Z
 have tr:aq (model r.prog w) callerA (do match ←nsGet mainNs r.name with
   |some f=>do ret (←JA f vs)
   |none=>unsupported "claim.caller:no-such-global")
   (fun fin s'=>∃f,fin=.done f/\(Nh r s args vs s₁ (.ok f) s'/\leftWithCleanup s'.gens=false))
   (fun e s'=>Nh r s args vs s₁ (.error e) s'/\leftWithCleanup s'.gens=false) s₁:=by
  refine aa (nn (wpAny_nsGet G₁.T.g ?_))
  rw [h1]
  refine aa (aC (call w s s₁ _ _ G (hY w s y) args vs as hpre L a h1) (fun v s' g=>ad ⟨_,rfl,?_⟩) fun e s' g=>?_)
  all_goals
   have z:=g.laid (c:=r.toRowW.claim) hsame (E8.mp k6) (ident_freeW hu ha hap) L
   exact ⟨⟨z.1,z.2.1,fun q=>⟨namesKept_of (hT) hg r.keeps keeps g.2.1.old,noTable hwr q⟩⟩,leftWithCleanup_false_of_bare z.2.2⟩
 refine AO (rH (prog:=r.prog) (w:=w) (s:=s₁) (R:=Nh r s args vs s₁) (Dm.asleep_of_life hal.2.2.2 hz) tr) fun k x t' t'' hrun hsched hfo hcase hos hkp=>?_
 clear tr
 have eh:=(KZ hfo).1
 rw [←eh] at hkp
 rw [←(KZ hfo).2.2.2.1] at hos
 refine ⟨vs,s₁,hlaid,k,_,t',hsched,?_,(fun Z0 i x hx=>by rw [hgens] at hx;cases hx),hkp,by rw [(runN_life _ _ _ hrun).trans hal.2.2.2],Dm.rest_eq hos⟩
 rcases (hcase.congr eh) with h|h
 ·refine Qc h fun v e d1 d2 d3 d4 d5=>?_
  subst e
  exact .inl ⟨v,rfl,d1,d2,d3,fun b o y Z0=>d4 b o y,d5⟩
 ·refine Me h fun e ob cls ex d1 d2 d3 d4 d5=>?_
  subst ex
  exact .inr ⟨e,ob,cls,rfl,d1,d2,d3,d4,fun b o y Z0=>d5 b o y⟩
theorem zR:∀{l:List (Du×α)} {a:Du} {o:α},l.lookup a=some o->(a,o)∈l:=by
 intro x0
 induction x0 with
 |nil=>
  intro _ _ h
  cases h
 |cons p l ihh=>
  intro a o h
  rw [EE] at h
  by_cases e:a=p.1
  ·subst e
   simp at h
   subst h
   exact .head _
  ·rw [show (a==p.1)=false from by simpa using e] at h
   exact .tail _ (ihh h)
theorem wL (h:DI):(i6 h).In h:=by
 intro a o e
 have hm:(a,o)∈i6 h:=zR e
 refine ay (Gl.mp hm) fun b Z0 hb=>?_
 cases hg:h.get? b with
 |none=>rw [hg] at hb;cases hb
 |some o'=>
  rw [hg] at hb
  cases hb
  exact hg
theorem An:∀{ns:List Int} {vs:List Dk},WellAll P h vs (ns.map .int)->dc [] (ns.map .int) vs:=by
 intro x0
 induction x0 with
 |nil=>
  intro _ x
  cases x;trivial
 |cons n ns ihh=>
  intro vs x
  refine cV (wellAll_cons_inv x) fun v vs' zz1 a b=>?_
  subst zz1
  cases a with
  |int Z1 t=>exact ⟨⟨t,rfl⟩,ihh b⟩
theorem Ai (h:L0 R (.and (.not (.lt (.lit (.int 63)) (.len (.arg 0)))) (.lit (.bool true))) {args:=[.list xs]}=true):xs.length<=63:=by
 have k:∀b:Bool,L0 R (.lit (.bool (!b))) {args:=[.list xs]}=true->b=false:=by
  intro b h
  cases b with
  |false=>rfl
  |true=>exact absurd (Ho h.symm (by kernel_rfl:_=false)) (by decide)
 exact EK.mp (EZ.mp (of_decide_eq_false (k _ (Ho (by kernel_rfl) (holds_andW h).1))))
theorem P8:rG pq kG (XL pq []) (fun Z0 h=>fg (i6 h)=true) rr:=by
 intro w s₀ s₁ mg mb G Y args vals as hpre L a ha
 refine aD (pre_splitW hpre) fun hs hq=>cV (hasAllW_cons (show LX _ args [.list .int]=true from hs)) fun d r zz3 h1 h2=>?_
 subst zz3
 obtain rfl:r=[]:=by
  cases r with
  |nil=>rfl
  |cons Z1 Z2=>simp [LX] at h2
 refine ay (hasW_list h1) fun xs zz5 hi=>?_
 subst zz5
 refine aG (items_int hi) fun ns zz7=>?_
 subst zz7
 have hlen:ns.length<=63:=Dr (Eg (Do _).symm) (Ai hq)
 refine cV (wellAll_cons_inv (L.well)) fun v vs' zz9 W1 W2=>?_
 subst zz9
 cases W2
 cases W1 with
 |@list x vs _ hx hw=>
  have hmem:x∈as:=by
   cases (L.reads) with
   |cons R1 R2=>
    cases R1 with
    |list=>simp
  have k:∀b o,s₀.heap.get? b=some o->(hideAll s₁.heap [x]).get? b=some o:=fun b o e=>hideAll_get _ (L.keeps b o e) (by
   have hlt:b<s₀.heap.objs.size:=DT e
   intro hm
   rw [DW.mp hm] at hlt
   exact absurd ((L.within.2.2 x hmem).1) (Nat.not_le.mpr hlt))
  have X:(i6 s₀.heap).In (hideAll s₁.heap [x]):=fun a o e=>k _ _ (wL _ a o e)
  have G1:=G.keeps XL.keeps k
  have hF:eR (i6 s₀.heap)=true:=by
   unfold fg at Y
   simp only [Dl] at Y
   exact Y.1.1.1.1
  obtain rfl:a=nK 91:=by
   rw [(show mg rr.name=some (.ref (nK 91)) from mg_of X G1.T.g (PB (x:=[108,97,119]) hF (by kernel_rfl)))] at ha
   cases ha
   rfl
  refine yW Y G1.T X (fun b o e=>of_hideAll _ e) (Eg (hideAll_size _ _)) (hideAll_none _ (DW.mpr rfl)) hx rfl (An hw) (by lia) fun h' tk hk hx'=>⟨.inl ⟨_,.bool true,[],rfl,fun Z0=>rfl,.bool true,?_,fun Z0=>⟨E9,fun a h=>by cases h⟩⟩,?_,rfl,.of_eq L.gens⟩
  ·show L0 rr.records (.eq .res (.lit (.bool true))) _=true
   kernel_rfl
  ·refine .of_keep fun b o e=>?_
   by_cases hb:b=x
   ·subst hb
    rw [hx] at e
    cases e
    exact hx'
   ·exact hk b o (hideAll_get _ e (by simpa using hb))
theorem TT:LeftO pw pq kG xt (fun s=>fg (i6 s.heap)) (fun Z0=>true) 12000:=
 tK a1 rfl a3 a4 a5 fun w os=>by
  rw [Ny,PySem.W.Fast.te4187177175401517315]
  exact a8 w os
noncomputable abbrev Bv:Str:=Eu "law"
theorem Tm:(defOf pq Bv).isSome=true:=by decide+kernel
def rj:DefRec×List (Str×PySem.Expr):=(defOf pq Bv).get Tm
theorem V0:defOf pq Bv=some (rj.1,rj.2):=(Option.some_get Tm).symm
theorem VZ:pw.theDef Bv=some (rj.1.params,rj.1.body,rj.1.scope):=by kernel_rfl
theorem VY:kwWritten? rj.1.params.kwonlyargs rj.1.params.kw_defaults=some rj.2:=by kernel_rfl
theorem V3:(chainsOk pq&&opensWell pw&&(frees rr&&rr.within.isEmpty))=true:=by decide+kernel
theorem V2:pw.bare:=⟨rfl,rfl,rfl,rfl,rfl,by decide+kernel⟩
theorem VX:rr.promised:=⟨[.list [.int 3,.int 1]],by decide+kernel,by decide+kernel⟩
end Mine
theorem PySem.Challenge.cw_og0107_01_holds : PySem.Challenge.rw_og0107_01.Holds := by
 exact PySem.W.holds_law Mine.V1 fun said=>Mine.Md (q:=Mine.pq) (loose:=Mine.kG) (Xt:=Mine.xt) (XP:=PySem.W.XL Mine.pq []) (YP:=fun _ h=>Mine.fg (Mine.i6 h)=true) (N:=12000) Mine.TT (fun _ _ h=>h) (fun s e=>PySem.W.xl_of s (Bool.and_eq_true_iff.mp e).1) PySem.W.XL.keeps Mine.V0 Mine.VZ Mine.VY (fun s e=>PySem.W.recFacts_of (Bool.and_eq_true_iff.mp e).2) (by rfl) said Mine.V3 Mine.V2 Mine.VX Mine.P8
