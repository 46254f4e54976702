import PyProof.Rows.All
import Wide.All
import OpenK.AllK
import Wide.FinOn
import PyProof.ExcInit
import PyProof.ExcBaseAll.Exception
import PyProof.ExcArgsOwn
import PyProof.ExcAttrAll.Exception
import KE.KPar
import Lean
import PySem.Challenge.RW_oj0072_01
open PySem renaming wpAny_mono→tt, wpAny_bind→KE, wpAny_pure→Mh, wpAny_holding→Mw, sizeLine_eq→MQ, wpAny_standAt→MW, wpAny_newObj_type→MX, wpAny_truthy_bool→Nn, wpAny_field→Nx, wpAny_loadName_local→Nz, wpAny_Constant_str→Oh, wpAny_items_cons→Ox, Call_method1→OK, wpAny_Constant_int→OO, wpAny_Assign_Name→OV, wpAny_execs_cons→Pi, wpAny_Name→Pm, wpAny_Assign_Subscript→Pn, wpAny_execs_nil→Pp, wpAny_storeName_local→Pr, codeAny_call_builtin→Px, assign→Py, typeIs_str→PR, wpAny_Return_some→Qd, Call_method0→Qj, wpAny_items_nil→Qy, wpAny_setField→QG, wpAny_call→QH, wpAny_getItem_list_slice→QU, wpAny_comprehension_free→QV, evalPart_none→QW, markedBehindIn_of_false→Rc, wpAny_isTrue_Compare1→RA, wpAny_setItem_pairs→RO, list_getitem_lookup→RP, arm_eval_Call_Name'→RS, wpAny_getItem_list→RX, wpAny_Expr→RY, wpAny_loadPart_at→Sh, wpAny_assign_Name→Si, slot_list_getitem→Sj, wpAny_Try_except→Sm, slicePick_plain→SH, wpAny_loadPart→TB, wpAny_bindName→TC, wpAny_Compare1→TD
open List renaming mem_append_right→LZ, mem_map→Ma, append_assoc→Mb, mem_append_left→Mc, mem_cons→Me, length_append→Mf, getElem?_eq_getElem→Mg, mem_append→Mi, size_toArray→Ml, lookup_cons→Mn, all_eq_true→Mo, length_map→Mp, contains_iff_mem→Mq, length_cons→Mr, nodup_cons→Mt, map_cons→Mu, dropWhile_cons→Mv, mem_singleton→My, map_append→Mz, getD_eq_getElem?_getD→MB, cons_append→MD, getElem?_eq_some_iff→ME, replicate→MF, nodup_append→MH, mem_of_getElem?→MK, not_mem_nil→ML, append_nil→MM, length_nil→MN, getElem?_set_ne→MP, eq_nil_of_length_eq_zero→MR, nil_append→MT, length→Nf, getElem?_map→Ng, length_take→No, any_cons→Np, mem_filter→Nu, perm_middle→Nv, map_congr_left→NA, map_map→NE, length_filter_le→NJ, range→NO, nodup_nil→NP, getElem_mem→NR, getD→NS, filter_cons→NU, prefix_iff_eq_take→Oc, length_range→Oe, any_eq_false→Of, dropLast_concat_getLast→Ow, zip_cons_cons→OD, mem_range→OE, isPrefixOf_iff_prefix→OF, drop_zero→OG, getLastD_eq_getLast?→OI, sum_cons→OM, filterMap_cons_some→ON, isEmpty_iff→OR, getElem?_cons_succ→OS, cons_ne_nil→OT, take_of_length_le→OW, range_succ_eq_map→OX, getElem?_set_self→OY, dropWhile_sublist→OZ, filter_map→Pd, getElem?_toArray→Pg, mem_of_mem_take→Pk, all_cons→Ps, findIdx?_cons→Pv, findIdx?_eq_some_iff_getElem→PA, map_id→PW, perm_append_singleton→Qk, filterMap→Ql, getLast?_eq_getElem?→Qo, map_take→Qu, filterMap_cons_none→Qv, eq_of_mem_replicate→Qw, lookup_eq_none_iff→QB, perm_append_comm→QI, length_singleton→QJ, getElem?_eq_none→QK, replicate_succ→QY, length_pos_iff→QZ, getD_cons_zero→Ra, set_cons_succ→Re, mem_cons_self→Rf, filter_append→Rg, map_inj_left→Rq, flatten_cons→Rr, filter_congr→Rt, take_length→RD, map_fst_zip→RF, length_drop→RG, find?_cons→RN, tail_drop→RV, drop_nil→Sb, tail→TG
open Option renaming bind_eq_some_iff→Md, map_eq_some_iff→Ms, isNone_iff_eq_none→Nl, elim→NB, isSome_iff_exists→NY, bind_some→OL, getD_some→PF, getD→PJ, filter_eq_some_iff→Qg, or_eq_some_iff→QA, map→QP, map_some→Rl, map_id'→RB
open Nat renaming le_trans→Mj, le_refl→MC, le_antisymm→MU, lt_of_le_of_lt→MZ, ne_of_lt→Nh, lt_succ_of_lt→Ni, lt_of_lt_of_le→Nw, min_le_right→NC, ne_of_gt→NV, le_add_right→NW, lt_irrefl→NZ, zero_add→Oi, sub_le→Oo, lt_succ_self→Op, le_of_eq→OA, le_of_lt→Pc, succ_pos→PK, lt_trans→PM, le_succ_of_le→PN, and_two_pow_sub_one_eq_mod→PU, not_lt_zero→Qh, not_lt→Qn, le_of_sub_eq_zero→QR, sub_lt→Rm, sub_add_cancel→Rn, pos_of_ne_zero→Ro, not_le→Rp, lt_succ_of_le→RC, log2_le_self→RM, le_add_left→RU, add_le_add→Sa, succ_mul→Sq, sub_zero→Sr, add_zero→Ss, zero_le→Tw
open PySem.Challenge renaming pw_oj0072_01→Mk
open Option.some renaming inj→Mm, injEq→TF
open Or renaming elim→Mx
open Int renaming le_antisymm→MA, natCast_nonneg→Na, ofNat_le→Nc, le_trans→Nd, ofNat_lt→Nj, toNat_of_nonneg→Nk, sub_nonneg_of_le→Nq, le_of_sub_nonneg→Nr, fmod_nonneg_of_pos→NG, add_zero→NX, natCast_add→Ob, fmod_lt_of_pos→Od, lt_trans→Oj, not_lt→Oq, add_le_add_right→Ov, le_of_eq→OB, lt_of_le_of_lt→OH, zero_add→Pe, add_assoc→Pw, lt_of_lt_of_le→PC, add_sub_cancel→PD, toNat_natCast→PO, emod_eq_of_lt→PP, add_comm→PQ, max_eq_right→PZ, le_refl→Qa, not_le→Qq, toNat_sub→QD, ofNat_sub→QE, zero_mul→QL, le_of_lt→QM, lt_succ→Rb, toNat_of_nonpos→Rh, sub_lt_sub_left→Ri, toNat_lt_toNat→Ru, sub_eq_add_neg→Rv, emod_lt_of_pos→Rw, sub_pos_of_lt→RH, add_left_comm→RI, min_eq_left→RW, toNat_lt→Sv, mul_zero→Sw, mul_comm→Sx, lt_or_le→Sy, ediv_one→Sz, mul_one→Tz, mul_add→TA, max_le→TH
open PySem.Builtin.Int renaming intBits→MG
open PySem.Heap renaming lt_size→MI, get?_push_of_some→MJ, dictOf_iff→Oa, SameBut→Og, get?_update_self→Om, get?_none_of_le→Ot, get?_update_ne→Oy, get?_update_other→Pa, get?_push_size→Pq, ExtBut→QS
open Bool renaming and_eq_true→MO, or_eq_false_iff→MS, false_ne_true→MY, eq_iff_iff→Nb, not_eq_true'→NL, and_eq_true_iff→Ou, and_eq_false_iff→Ph, and_false→Pl, false_or→Pu, or_true→PH, or_eq_true→Qc, and_true→Qx, false_eq_true→Rj, eq_false_iff→Ry, not_eq_true→RJ, or_false→Sd, not_true→Se, not_not→Sl
open PySem.Builtin.Str renaming occurrences→MV, strSliceIndices→ND, tooLong→Ol
open Nat.succ renaming inj→Nt
open PySem.Str renaming ofString→Ny, length→Qm
open PySem.Builtin.Slice renaming slicePlaces→NH, sliceAdjust→Os, sliceApplied→Pt, sliceFields→SC
open PySem.Obj renaming mapFields→NI, data_mapFields→Pz, isFreed_of_fields→QQ
open PySem.Builtin.Tuple renaming tupleExact→NK, tupleItemsOf→SA
open Ne renaming symm→NM
open PySem.F renaming excBase_Exception→NN, plainAttrs_str→OQ, type_str_join→Qr, slot_str_join→Qt
open PySem.Txt renaming find→NQ, lower→OU, startswith→Po, isupper→SI, islower→SJ, isalpha→SM
open PySem.Calls renaming evalArgs_plain→On, spliced_cons→OC, spliced_nil→OJ, callWith_builtin→Pj
open PySem.SeqAt renaming EqAt→Oz, RcAt→Qe, RcNeAt→Qz
open PyProof.Rows renaming slot_tuple_getitem→OP, len_list→PT, eq_str→Qf, Subscript_→RZ, sub_int→SZ, rshift_int→Ta, pow_int→Tb, notIn_str→Tc, neg_int→Td, ne_str→Te, mul_int→Tf, mod_int'→Tg, lt_str→Th, lt_int→Ti, lshift_int_small→Tj, len_str→Tk, le_int→Tl, in_str→Tm, gt_int→Tn, ge_int→To, floordiv_int→Tp, eq_int→Tq, eq_bool→Ts, and_int→Tt, add_str→Tu, add_int→Tv, slicePart_none→TE, Attribute_name→TI
open PySem.EntryCells renaming newEntry→Pb
open PySem.Builtin renaming bitAnd→Pf, bitNot→Rx
open List.cons renaming injEq→PB, inj→PY
open PySem.Builtin.Range renaming rangeSize→PG, small→SD, rangeFitsLong→SG
open PySem.Unicode renaming lowerAt→PI
open PySem.Heap.IsSliceOf renaming new→Qb
open List.Perm renaming append_right→Qi
open List.Sublist renaming refl→Qp, map→Ty
open PySem.Heap.DictOf renaming new→QF
open Array renaming mem_toList_iff→QN, length_toList→QT, toList→Sf
open PySem.StrLaws renaming found_one→QO, glued_eq_join→Sn
open PySem.Manifest renaming isStub→QX
open PySem.W renaming looks_findIn→Rk, looks_clsIn→RK, callWith_of→RL
open PySem.Value renaming isStrOf→RT
open PySem.Env renaming blockKind→Sk
open PySem.EqMixed renaming eq_str_int→So, eq_int_str→Sp
open List.Pairwise renaming map→Su
open PySem.SeqAt.RcNeAt renaming tuples→SN, str_str→SO, str_int→SP, none_none→SQ, lists_lengths→SR, lists→SS, int_str→ST, int_int→SV, bool_bool→SW
open PySem.EqNone renaming eq_none_none→SY
open PySem PySem.W PySem.Calls PyProof.Rows PyProof.Rows.TI
set_option Elab.async false
set_option linter.all false
set_option genSizeOf false
set_option genInjectivity false
set_option genCtorIdx false
set_option bootstrap.genMatcherCode false
set_option compiler.extract_closed false
namespace Mine.Internal
abbrev LT:=List Stmt
abbrev LS:=List Expr
abbrev LR:=List Int
abbrev LP:=List Str
abbrev LO:=List Value
abbrev LN:=Str→Option Value
abbrev LM:=Value→Shared→Prop
abbrev LA:=List Nat
def aR:Lean.Syntax:=.node .none `Lean.Parser.Tactic.tacticSeq #[.node .none `Lean.Parser.Tactic.tacticSeq1Indented #[.node .none `null #[.node .none `Lean.Parser.Tactic.tacticRfl #[.atom .none "rfl"]]]]
theorem v03 {P Q R:Prop} (h0:P) (h1:Q) (h2:R):P∧Q∧R:=⟨h0,h1,h2⟩
theorem v04 {P Q R S:Prop} (h0:P) (h1:Q) (h2:R) (h3:S):P∧Q∧R∧S:=⟨h0,h1,h2,h3⟩
theorem v05 {P Q R S T:Prop} (h0:P) (h1:Q) (h2:R) (h3:S) (h4:T):P∧Q∧R∧S∧T:=⟨h0,h1,h2,h3,h4⟩
theorem v06 {P Q R S T U:Prop} (h0:P) (h1:Q) (h2:R) (h3:S) (h4:T) (h5:U):P∧Q∧R∧S∧T∧U:=⟨h0,h1,h2,h3,h4,h5⟩
theorem v07 {P Q R S T U V:Prop} (h0:P) (h1:Q) (h2:R) (h3:S) (h4:T) (h5:U) (h6:V):P∧Q∧R∧S∧T∧U∧V:=⟨h0,h1,h2,h3,h4,h5,h6⟩
theorem v12 {α:Sort _} {P Q:α→Prop} (a:α) (h0:P a) (h1:Q a):∃a,P a∧Q a:=⟨a,h0,h1⟩
theorem v13 {α:Sort _} {P Q R:α→Prop} (a:α) (h0:P a) (h1:Q a) (h2:R a):∃a,P a∧Q a∧R a:=⟨a,h0,h1,h2⟩
theorem v14 {α:Sort _} {P Q R S:α→Prop} (a:α) (h0:P a) (h1:Q a) (h2:R a) (h3:S a):∃a,P a∧Q a∧R a∧S a:=⟨a,h0,h1,h2,h3⟩
theorem v21 {α:Sort _} {β:Sort _} {P:α→β→Prop} (a:α) (b:β) (h0:P a b):∃a b,P a b:=⟨a,b,h0⟩
theorem v22 {α:Sort _} {β:Sort _} {P Q:α→β→Prop} (a:α) (b:β) (h0:P a b) (h1:Q a b):∃a b,P a b∧Q a b:=⟨a,b,h0,h1⟩
theorem v23 {α:Sort _} {β:Sort _} {P Q R:α→β→Prop} (a:α) (b:β) (h0:P a b) (h1:Q a b) (h2:R a b):∃a b,P a b∧Q a b∧R a b:=⟨a,b,h0,h1,h2⟩
theorem v24 {α:Sort _} {β:Sort _} {P Q R S:α→β→Prop} (a:α) (b:β) (h0:P a b) (h1:Q a b) (h2:R a b) (h3:S a b):∃a b,P a b∧Q a b∧R a b∧S a b:=⟨a,b,h0,h1,h2,h3⟩
theorem v26 {α:Sort _} {β:Sort _} {P Q R S T U:α→β→Prop} (a:α) (b:β) (h0:P a b) (h1:Q a b) (h2:R a b) (h3:S a b) (h4:T a b) (h5:U a b):∃a b,P a b∧Q a b∧R a b∧S a b∧T a b∧U a b:=⟨a,b,h0,h1,h2,h3,h4,h5⟩
theorem v31 {α:Sort _} {β:Sort _} {γ:Sort _} {P:α→β→γ→Prop} (a:α) (b:β) (c:γ) (h0:P a b c):∃a b c,P a b c:=⟨a,b,c,h0⟩
theorem v32 {α:Sort _} {β:Sort _} {γ:Sort _} {P Q:α→β→γ→Prop} (a:α) (b:β) (c:γ) (h0:P a b c) (h1:Q a b c):∃a b c,P a b c∧Q a b c:=⟨a,b,c,h0,h1⟩
theorem v33 {α:Sort _} {β:Sort _} {γ:Sort _} {P Q R:α→β→γ→Prop} (a:α) (b:β) (c:γ) (h0:P a b c) (h1:Q a b c) (h2:R a b c):∃a b c,P a b c∧Q a b c∧R a b c:=⟨a,b,c,h0,h1,h2⟩
theorem v34 {α:Sort _} {β:Sort _} {γ:Sort _} {P Q R S:α→β→γ→Prop} (a:α) (b:β) (c:γ) (h0:P a b c) (h1:Q a b c) (h2:R a b c) (h3:S a b c):∃a b c,P a b c∧Q a b c∧R a b c∧S a b c:=⟨a,b,c,h0,h1,h2,h3⟩
theorem v36 {α:Sort _} {β:Sort _} {γ:Sort _} {P Q R S T U:α→β→γ→Prop} (a:α) (b:β) (c:γ) (h0:P a b c) (h1:Q a b c) (h2:R a b c) (h3:S a b c) (h4:T a b c) (h5:U a b c):∃a b c,P a b c∧Q a b c∧R a b c∧S a b c∧T a b c∧U a b c:=⟨a,b,c,h0,h1,h2,h3,h4,h5⟩
theorem u03 {P Q R:Prop} {G:Prop} (h:P∧Q∧R) (k:P→Q→R→G):G:=by obtain ⟨h0,h1,h2⟩:=h;exact k h0 h1 h2
theorem u04 {P Q R S:Prop} {G:Prop} (h:P∧Q∧R∧S) (k:P→Q→R→S→G):G:=by obtain ⟨h0,h1,h2,h3⟩:=h;exact k h0 h1 h2 h3
theorem u12 {α:Sort _} {P Q:α→Prop} {G:Prop} (h:∃a,P a∧Q a) (k:∀a,P a→Q a→G):G:=by obtain ⟨a,h0,h1⟩:=h;exact k a h0 h1
theorem u13 {α:Sort _} {P Q R:α→Prop} {G:Prop} (h:∃a,P a∧Q a∧R a) (k:∀a,P a→Q a→R a→G):G:=by obtain ⟨a,h0,h1,h2⟩:=h;exact k a h0 h1 h2
theorem u14 {α:Sort _} {P Q R S:α→Prop} {G:Prop} (h:∃a,P a∧Q a∧R a∧S a) (k:∀a,P a→Q a→R a→S a→G):G:=by obtain ⟨a,h0,h1,h2,h3⟩:=h;exact k a h0 h1 h2 h3
theorem u21 {α:Sort _} {β:Sort _} {P:α→β→Prop} {G:Prop} (h:∃a b,P a b) (k:∀a b,P a b→G):G:=by obtain ⟨a,b,h0⟩:=h;exact k a b h0
theorem u22 {α:Sort _} {β:Sort _} {P Q:α→β→Prop} {G:Prop} (h:∃a b,P a b∧Q a b) (k:∀a b,P a b→Q a b→G):G:=by obtain ⟨a,b,h0,h1⟩:=h;exact k a b h0 h1
theorem u23 {α:Sort _} {β:Sort _} {P Q R:α→β→Prop} {G:Prop} (h:∃a b,P a b∧Q a b∧R a b) (k:∀a b,P a b→Q a b→R a b→G):G:=by obtain ⟨a,b,h0,h1,h2⟩:=h;exact k a b h0 h1 h2
theorem u24 {α:Sort _} {β:Sort _} {P Q R S:α→β→Prop} {G:Prop} (h:∃a b,P a b∧Q a b∧R a b∧S a b) (k:∀a b,P a b→Q a b→R a b→S a b→G):G:=by obtain ⟨a,b,h0,h1,h2,h3⟩:=h;exact k a b h0 h1 h2 h3
theorem u31 {α:Sort _} {β:Sort _} {γ:Sort _} {P:α→β→γ→Prop} {G:Prop} (h:∃a b c,P a b c) (k:∀a b c,P a b c→G):G:=by obtain ⟨a,b,c,h0⟩:=h;exact k a b c h0
theorem u32 {α:Sort _} {β:Sort _} {γ:Sort _} {P Q:α→β→γ→Prop} {G:Prop} (h:∃a b c,P a b c∧Q a b c) (k:∀a b c,P a b c→Q a b c→G):G:=by obtain ⟨a,b,c,h0,h1⟩:=h;exact k a b c h0 h1
theorem u33 {α:Sort _} {β:Sort _} {γ:Sort _} {P Q R:α→β→γ→Prop} {G:Prop} (h:∃a b c,P a b c∧Q a b c∧R a b c) (k:∀a b c,P a b c→Q a b c→R a b c→G):G:=by obtain ⟨a,b,c,h0,h1,h2⟩:=h;exact k a b c h0 h1 h2
theorem u34 {α:Sort _} {β:Sort _} {γ:Sort _} {P Q R S:α→β→γ→Prop} {G:Prop} (h:∃a b c,P a b c∧Q a b c∧R a b c∧S a b c) (k:∀a b c,P a b c→Q a b c→R a b c→S a b c→G):G:=by obtain ⟨a,b,c,h0,h1,h2,h3⟩:=h;exact k a b c h0 h1 h2 h3
theorem u35 {α:Sort _} {β:Sort _} {γ:Sort _} {P Q R S T:α→β→γ→Prop} {G:Prop} (h:∃a b c,P a b c∧Q a b c∧R a b c∧S a b c∧T a b c) (k:∀a b c,P a b c→Q a b c→R a b c→S a b c→T a b c→G):G:=by obtain ⟨a,b,c,h0,h1,h2,h3,h4⟩:=h;exact k a b c h0 h1 h2 h3 h4
theorem u41 {α:Sort _} {β:Sort _} {γ:Sort _} {δ:Sort _} {P:α→β→γ→δ→Prop} {G:Prop} (h:∃a b c d,P a b c d) (k:∀a b c d,P a b c d→G):G:=by obtain ⟨a,b,c,d,h0⟩:=h;exact k a b c d h0
theorem u42 {α:Sort _} {β:Sort _} {γ:Sort _} {δ:Sort _} {P Q:α→β→γ→δ→Prop} {G:Prop} (h:∃a b c d,P a b c d∧Q a b c d) (k:∀a b c d,P a b c d→Q a b c d→G):G:=by obtain ⟨a,b,c,d,h0,h1⟩:=h;exact k a b c d h0 h1
theorem u44 {α:Sort _} {β:Sort _} {γ:Sort _} {δ:Sort _} {P Q R S:α→β→γ→δ→Prop} {G:Prop} (h:∃a b c d,P a b c d∧Q a b c d∧R a b c d∧S a b c d) (k:∀a b c d,P a b c d→Q a b c d→R a b c d→S a b c d→G):G:=by obtain ⟨a,b,c,d,h0,h1,h2,h3⟩:=h;exact k a b c d h0 h1 h2 h3
theorem u54 {α:Sort _} {β:Sort _} {γ:Sort _} {δ:Sort _} {ε:Sort _} {P Q R S:α→β→γ→δ→ε→Prop} {G:Prop} (h:∃a b c d e,P a b c d e∧Q a b c d e∧R a b c d e∧S a b c d e) (k:∀a b c d e,P a b c d e→Q a b c d e→R a b c d e→S a b c d e→G):G:=by obtain ⟨a,b,c,d,e,h0,h1,h2,h3⟩:=h;exact k a b c d e h0 h1 h2 h3
theorem bx {α:Type} {x r:α} {G:α→Prop} (h:some x=some r) (k:G x):G r:=by injection h with h;exact h▸k
theorem iH {α β:Type} {o:Option α} {f:α→Option β} {r:β} {G:Prop} (h:o.bind f=some r) (k:∀x,o=some x→f x=some r→G):G:=u12 (Md.mp h) k
theorem jh {α β:Type} {o:Option α} {f:α→β} {r:β} {G:β→Prop} (h:o.map f=some r) (k:∀x,o=some x→G (f x)):G r:=by
 refine u12 (Ms.mp h) ?_;rintro x h1 h2;exact h2▸k x h1
theorem Kv {α β:Type} {o:Option α} {f:α→β} {r:β} {G:Prop} (h:o.map f=some r) (k:∀x,o=some x→f x=r→G):G:=u12 (Ms.mp h) k
theorem bG {α:Type} {p:Prop} [Decidable p] {a b:α} (h:(if p then some a else none)=some b):p∧a=b:=by
 by_cases hp:p
 ·rw [if_pos hp] at h;exact ⟨hp,Mm h⟩
 ·replace h:=(if_neg hp)▸h;injection h
theorem bQ {α:Type} {p:Prop} [Decidable p] {x r:α} {G:α→Prop} (h:(if p then some x else none)=some r) (k:p→G x):G r:=(bG h).2▸k (bG h).1
theorem pS {α β:Type} {l:List α} {f:α→β} {y:β} {G:Prop} (h:y∈l.map f) (k:∀x,x∈l→f x=y→G):G:=u12 (Ma.mp h) k
theorem As {α β:Type} {l:List α} {f:α→β} {y:β} {G:β→Prop} (h:y∈l.map f) (k:∀x,x∈l→G (f x)):G y:=pS h fun x h1 h2=>h2▸k x h1
theorem KB {α β:Type} {v:β} {f:α→β} {G:β→Prop} (h:∃t,v=f t) (k:∀t,G (f t)):G v:=by obtain ⟨t,rfl⟩:=h;exact k t
theorem Au {α:Type} {x:α} {l r:List α} {G:Prop} (h:x∈l++r) (k:x∈l→G) (k':x∈r→G):G:=(Mi.mp h).elim k k'
theorem yO {α:Type} {x:α} {a:α} {r:List α} {G:α→Prop} (h:x∈a::r) (k:G a) (k':x∈r→G x):G x:=(Me.mp h).elim (fun e=>e▸k) k'
theorem ap1 {α:Type} {p r:List α} {c:α}:p++c::r=(p++[c])++r:=by simp
theorem ap2 {α:Type} {p r:List α} {a b:α}:p++a::b::r=(p++[a,b])++r:=by simp
theorem ln1 {α:Type} {p:List α} {c:α}:((p++[c]).length:Int)=(p.length:Int)+1:=by simp
theorem sg1 {α:Type} {c d:α} (h:[c]=[d]):c=d:=(PY h).1
theorem Ku {α:Type} {x:α} {p r:List α}:x∈p++x::r:=LZ _ (.head _)
noncomputable def dz (p:LR):LR→Int:=List.rec (motive:=fun _=>LR→Int) (fun _=>0) (fun x _ f e=>List.rec (motive:=fun _=>Int) 0 (fun y e _=>x*y+f e) e) p
noncomputable def za (p:LR):LR→LR:=List.rec (motive:=fun _=>LR→LR) (fun q=>q) (fun x p f q=>List.rec (motive:=fun _=>LR) (x::p) (fun y q _=>(x+y)::f q) q) p
noncomputable def zs (k:Int) (p:LR):LR:=List.rec (motive:=fun _=>LR) [] (fun x _ f=>(k*x)::f) p
noncomputable def nth (e:LA) (i:Nat):Nat:=List.rec (motive:=fun _=>Nat→Nat) (fun _=>0) (fun x _ f i=>Nat.rec x (fun j _=>f j) i) e i
noncomputable def zv (i:Nat):LR:=Nat.rec (motive:=fun _=>LR) [1] (fun _ f=>0::f) i
noncomputable def zc (p:LA):LR:=List.rec (motive:=fun _=>LR) [] (fun x _ f=>Int.ofNat x::f) p
noncomputable def zth (e:LR) (i:Nat):Int:=List.rec (motive:=fun _=>Nat→Int) (fun _=>0) (fun x _ f i=>Nat.rec x (fun j _=>f j) i) e i
noncomputable def zge (p:LR):Bool:=List.rec (motive:=fun _=>Bool) true (fun x _ f=>Int.rec (fun _=>f) (fun _=>false) x) p
noncomputable def zz (p:LR):Bool:=List.rec (motive:=fun _=>Bool) true (fun x _ f=>Int.rec (fun n=>n.beq 0&&f) (fun _=>false) x) p
theorem nc (p q e):dz (za p q) e=dz p e+dz q e:=by
 induction p generalizing q e with
 | nil=>exact (Pe _).symm
 | cons x p ih=>
  cases q with
  | nil=>exact (NX _).symm
  | cons y q=>
   cases e with
   | nil=>rfl
   | cons z e=>
    show (x+y)*z+dz (za p q) e=(x*z+dz p e)+(y*z+dz q e);rw [ih,Int.add_mul,Pw,Pw];exact congrArg (x*z+·) (RI _ _ _)
theorem oS (k p e):dz (zs k p) e=k*dz p e:=by
 induction p generalizing e with
 | nil=>exact (Sw k).symm
 | cons x p ih=>
  cases e with
  | nil=>exact (Sw k).symm
  | cons z e=>show k*x*z+dz (zs k p) e=k*(x*z+dz p e);rw [ih,TA,Int.mul_assoc]
theorem xz (i e):dz (zv i) e=zth e i:=by
 induction i generalizing e with
 | zero=>cases e with
  | nil=>rfl
  | cons x e=>show 1*x+0=x;rw [Int.one_mul,NX]
 | succ i ih=>cases e with
  | nil=>rfl
  | cons x e=>show 0*x+dz (zv i) e=_;rw [ih,QL,Pe];rfl
theorem xD (i e):zth (zc e) i=(nth e i:Int):=by
 induction e generalizing i with
 | nil=>rfl
 | cons x e ih=>cases i with
  | zero=>rfl
  | succ i=>exact ih i
theorem GD {p:LR} (h:zge p=true) (e:LA):0≤dz p (zc e):=by
 induction p generalizing e with
 | nil=>exact Qa _
 | cons x p ih=>
  cases e with
  | nil=>exact Qa _
  | cons z e=>
   cases x with
   | ofNat n=>exact Int.add_nonneg (Na (n*z)) (ih h e)
   | negSucc n=>injection h
theorem GC {p:LR} (h:zz p=true) (e:LR):dz p e=0:=by
 induction p generalizing e with
 | nil=>rfl
 | cons x p ih=>
  cases e with
  | nil=>rfl
  | cons z e=>
   cases x with
   | ofNat n=>
    have h:=Ou.mp h;obtain rfl:=Nat.eq_of_beq_eq_true h.1;show 0*z+dz p e=0;rw [ih h.2,QL];rfl
   | negSucc n=>injection h
structure NT where
 d:LA→Nat
 p:LR
 h:∀e,(d e:Int)=dz p (zc (1::e))
noncomputable def NT.v (i:Nat):NT:=⟨fun e=>nth e i,0::zv i,fun e=>by show _=0*1+dz (zv i) (zc e);rw [xz,xD,QL,Pe]⟩
noncomputable def NT.c (k:Nat):NT:=⟨fun _=>k,[Int.ofNat k],fun _=>by show _=Int.ofNat k*1+0;rw [Tz,NX];rfl⟩
noncomputable def NT.a (x y:NT):NT:=⟨fun e=>x.d e+y.d e,za x.p y.p,fun e=>by rw [nc,←x.h,←y.h];rfl⟩
noncomputable def NT.l (k:Nat) (x:NT):NT:=⟨fun e=>k*x.d e,zs k x.p,fun e=>by rw [oS,←x.h];rfl⟩
noncomputable def NT.r (x:NT) (k:Nat):NT:=⟨fun e=>x.d e*k,zs k x.p,fun e=>by rw [oS,←x.h,Sx];rfl⟩
noncomputable def dd (p q:LR) (e:LA) (f:LR):Int:=dz p (zc (1::e))+dz q f
theorem tq (p q p' q' e f):dd (za p p') (za q q') e f=dd p q e f+dd p' q' e f:=by
 unfold dd;rw [nc,nc,Pw,Pw];exact congrArg (_+·) (RI _ _ _)
theorem oW (k p q e f):dd (zs k p) (zs k q) e f=k*dd p q e f:=by
 unfold dd;rw [oS,oS,TA]
structure ZT where
 d:LA→LR→Int
 p:LR
 q:LR
 h:∀e f,d e f=dd p q e f
noncomputable def ZT.v (i:Nat):ZT:=⟨fun _ f=>zth f i,[],zv i,fun _ f=>((Pe _).trans (xz i f)).symm⟩
noncomputable def ZT.n (t:NT):ZT:=⟨fun e _=>(t.d e:Nat),t.p,[],fun e _=>(t.h e).trans (NX _).symm⟩
noncomputable def ZT.c (k:Nat):ZT:=⟨fun _ _=>Int.ofNat k,[Int.ofNat k],[],fun _ _=>by show _=(Int.ofNat k*1+0)+0;rw [Tz,NX,NX]⟩
noncomputable def ZT.a (x y:ZT):ZT:=⟨fun e f=>x.d e f+y.d e f,za x.p y.p,za x.q y.q,fun e f=>by rw [tq,←x.h,←y.h]⟩
noncomputable def ZT.l (k:Int) (x:ZT):ZT:=⟨fun e f=>k*x.d e f,zs k x.p,zs k x.q,fun e f=>by rw [oW,←x.h]⟩
noncomputable def ZT.r (x:ZT) (k:Int):ZT:=⟨fun e f=>x.d e f*k,zs k x.p,zs k x.q,fun e f=>by rw [oW,←x.h,Sx]⟩
noncomputable def ZT.g (x:ZT):ZT:=⟨fun e f=>-x.d e f,zs (-1) x.p,zs (-1) x.q,fun e f=>by rw [oW,←x.h,Int.neg_one_mul]⟩
noncomputable def ZT.s (x y:ZT):ZT:=⟨fun e f=>x.d e f-y.d e f,(x.a y.g).p,(x.a y.g).q,fun e f=>Rv.trans ((x.a y.g).h e f)⟩
structure ZF where
 P:LA→LR→Prop
 t:ZT
 h:∀{e f},P e f→0≤t.d e f
noncomputable def ZF.le (x y:ZT):ZF:=⟨fun e f=>x.d e f≤y.d e f,y.s x,Nq⟩
noncomputable def ZF.lt (x y:ZT):ZF:=⟨fun e f=>x.d e f<y.d e f,(y.s x).s (.c 1),fun h=>Nq (Int.le_sub_left_of_add_le h)⟩
noncomputable def ZF.eq (x y:ZT):ZF:=⟨fun e f=>x.d e f=y.d e f,y.s x,fun h=>Nq (OB h)⟩
noncomputable def ZF.qe (x y:ZT):ZF:=⟨fun e f=>x.d e f=y.d e f,x.s y,fun h=>Nq (OB h.symm)⟩
noncomputable def ZF.nlt (x y:ZT):ZF:=⟨fun e f=>¬x.d e f<y.d e f,x.s y,fun h=>Nq (Oq.mp h)⟩
noncomputable def ZF.nle (x y:ZT):ZF:=⟨fun e f=>¬x.d e f≤y.d e f,(x.s y).s (.c 1),fun h=>(ZF.lt y x).h (Qq.mp h)⟩
noncomputable def NF.le (x y:NT):ZF:=⟨fun e _=>x.d e≤y.d e,(ZT.n y).s (.n x),fun h=>Nq (Nc.mpr h)⟩
noncomputable def NF.lt (x y:NT):ZF:=⟨fun e _=>x.d e<y.d e,(ZT.n y).s (.n (x.a (.c 1))),(NF.le (x.a (.c 1)) y).h⟩
noncomputable def NF.eq (x y:NT):ZF:=⟨fun e _=>x.d e=y.d e,(ZT.n y).s (.n x),fun h=>(NF.le x y).h (OA h)⟩
noncomputable def NF.qe (x y:NT):ZF:=⟨fun e _=>x.d e=y.d e,(ZT.n x).s (.n y),fun h=>(NF.le y x).h (OA h.symm)⟩
noncomputable def NF.nlt (x y:NT):ZF:=⟨fun e _=>¬x.d e<y.d e,(ZT.n x).s (.n y),fun h=>(NF.le y x).h (Qn.mp h)⟩
noncomputable def NF.nle (x y:NT):ZF:=⟨fun e _=>¬x.d e≤y.d e,(ZT.n x).s (.n (y.a (.c 1))),fun h=>(NF.lt y x).h (Rp.mp h)⟩
def KP (e:LA) (f:LR) (H:List (Nat×ZF)) (P:Prop):Prop:=List.rec P (fun h _ r=>h.2.P e f→r) H
noncomputable def KO (H:List (Nat×ZF)):LR→LR→Bool:=List.rec (fun p q=>zge p&&zz q) (fun h _ r p q=>r (za p (zs (-Int.ofNat h.1) h.2.t.p)) (za q (zs (-Int.ofNat h.1) h.2.t.q))) H
theorem ZF.s {e f H} {P:Prop} {p q:LR} (h:KO H p q=true) (k:0≤dd p q e f→P):KP e f H P:=by
 induction H generalizing p q with
 | nil=>
  have h:=Ou.mp h;refine k ?_;unfold dd;rw [GC h.2,NX];exact GD h.1 _
 | cons a H ih=>
  refine fun hd=>ih h fun hle=>k ?_;rw [tq,oW,←ZT.h,Int.neg_mul] at hle;exact Nd (Int.mul_nonneg (Na a.1) (a.2.h hd)) (Nr (Rv.symm▸hle))
theorem Lk {e f H} {P:Prop} (t:ZT) (h:KO H t.p t.q=true) (k:0≤t.d e f→P):KP e f H P:=ZF.s h fun h=>k (t.h e f▸h)
theorem zle (e f H) (x y:ZT) (h:KO H (y.s x).p (y.s x).q=true):KP e f H (x.d e f≤y.d e f):=Lk (y.s x) h Nr
theorem zlt (e f H) (x y:ZT) (h:KO H (y.s (x.a (.c 1))).p (y.s (x.a (.c 1))).q=true):KP e f H (x.d e f<y.d e f):=zle e f H (x.a (.c 1)) y h
theorem uq (e f H) (x y:ZT) (h:KO H (x.s y).p (x.s y).q=true):KP e f H (¬x.d e f<y.d e f):=Lk (x.s y) h fun h=>Oq.mpr (Nr h)
theorem Av (e f H) (x y:ZT) (h:KO H (x.s (y.a (.c 1))).p (x.s (y.a (.c 1))).q=true):KP e f H (¬x.d e f≤y.d e f):=Lk (x.s (y.a (.c 1))) h fun h=>Qq.mpr (Nr h)
theorem zF (e f H) (h:KO H [-1] []=true):KP e f H False:=ZF.s h fun h=>absurd (show (0:Int)≤-1 from h) (by decide)
theorem nle (e f H) (x y:NT) (h:KO H ((ZT.n y).s (.n x)).p ((ZT.n y).s (.n x)).q=true):KP e f H (x.d e≤y.d e):=Lk ((ZT.n y).s (.n x)) h fun h=>Nc.mp (Nr h)
theorem nlt (e f H) (x y:NT) (h:KO H ((ZT.n y).s (.n (x.a (.c 1)))).p ((ZT.n y).s (.n (x.a (.c 1)))).q=true):KP e f H (x.d e<y.d e):=nle e f H (x.a (.c 1)) y h
theorem vx (e f H) (x y:NT) (h:KO H ((ZT.n x).s (.n y)).p ((ZT.n x).s (.n y)).q=true):KP e f H (¬x.d e<y.d e):=Lk ((ZT.n x).s (.n y)) h fun h=>Qn.mpr (Nc.mp (Nr h))
theorem Ky (e f H) (x y:NT) (h:KO H ((ZT.n x).s (.n (y.a (.c 1)))).p ((ZT.n x).s (.n (y.a (.c 1)))).q=true):KP e f H (¬x.d e≤y.d e):=Lk ((ZT.n x).s (.n (y.a (.c 1)))) h fun h=>Rp.mpr (Nc.mp (Nr h))
noncomputable def vA:NT:=.v 0
noncomputable def vB:NT:=.v 1
noncomputable def vC:NT:=.v 2
noncomputable def vD:NT:=.v 3
noncomputable def vE:NT:=.v 4
noncomputable def vF:NT:=.v 5
noncomputable def zA:ZT:=.v 0
noncomputable def zB:ZT:=.v 1
noncomputable def zC:ZT:=.v 2
section
variable {n0 n1 n2 n3 n4 n5 n6 n7 n8 n9:Nat} {i0 i1 i2 i3 i4:Int}
theorem y_0:(n0:Int)=max 0 (min i0 (n1:Int))→n0≤n1:=fun h=>Nc.mp (Nd (OB h) (TH.mpr ⟨Na _,Int.min_le_right _ _⟩))
theorem y_1:n1-n0=n2→n1≤n2→¬(n2=0)→n0=0:=fun e h z=>Nat.eq_zero_of_not_pos fun p=>absurd h (Rp.mpr (e▸Rm (Ro fun k=>z (by rw [←e,k,Nat.zero_sub])) p))
theorem y_2:min (n0-n1) (n2-n1)≤n2:=by intros;exact Mj (NC _ _) (Oo _ _)
theorem y_3:n1≤1048576→n0≤n1→n0≤16777216:=nle [n0,n1] [] [(1,NF.le vB (.c 1048576)),(1,NF.le vA vB)] vA (.c 16777216) rfl
theorem y_4:n0≤1048576→n0≤16777216:=nle [n0] [] [(1,NF.le vA (.c 1048576))] vA (.c 16777216) rfl
theorem y_5:n0+1=n1→n0<n1:=by intros;exact OA (by assumption)
theorem y_6:0=n0-n1→n0≤n1:=fun h=>QR h.symm
theorem y_7:n2+1=n1-n0→n0<n1:=fun h=>Nat.sub_pos_iff_lt.mp (h▸PK _)
theorem y_8:0<((n0+1:Nat):Int):=zlt [n0] [] [] (.c 0) (.n (.a vA (.c 1))) rfl
theorem y_9:((n0+1:Nat):Int)-1=(n0:Int):=MA (zle [n0] [] [] (.s (.n (.a vA (.c 1))) (.c 1)) (.n vA) rfl) (zle [n0] [] [] (.n vA) (.s (.n (.a vA (.c 1))) (.c 1)) rfl)
theorem Ij:i1<i0→i0-i1-1+1=(((i0-i1).toNat:Nat):Int):=fun h=>by rw [Int.sub_add_cancel,Nk (Nq (QM h))]
theorem Ii:¬(i1<i0)→0=(((i0-i1).toNat:Nat):Int):=fun h=>(congrArg Nat.cast (Rh (Int.sub_nonpos_of_le (Oq.mp h)))).symm
theorem Ih:-1000000≤i0→i1≤1000000→i0≤1000000→-1000000≤i1→(((-9223372036854775808≤i0∧i0<9223372036854775808)∧-9223372036854775808≤i1∧i1<9223372036854775808)∧-9223372036854775808≤max (i1-i0) 0∧max (i1-i0) 0<9223372036854775808)∧(max (i1-i0) 0=0∨-9223372036854775808≤i1∧i1<9223372036854775808):=fun h1 h2 h3 h4=>⟨⟨⟨⟨Nd (by decide) h1,OH h3 (by decide)⟩,Nd (by decide) h4,OH h2 (by decide)⟩,Nd (by decide) (Int.le_max_right _ _),OH (TH.mpr ⟨Int.sub_le_sub h2 h1,by decide⟩) (by decide)⟩,.inr ⟨Nd (by decide) h4,OH h2 (by decide)⟩⟩
theorem Ig:n0≤15→min n0 n1≤15:=fun h=>Mj (Nat.min_le_left _ _) h
theorem Kw:(0:Nat)+1≤16777216+1:=by intros;exact PK _
theorem Ie:n0≤100→n0+1≤16777217:=nle [n0] [] [(1,NF.le vA (.c 100))] (.a vA (.c 1)) (.c 16777217) rfl
theorem xK:n0+(n1+1)<n2→n0+1+n1<n2:=nlt [n0,n1,n2] [] [(1,NF.lt (.a vA (.a vB (.c 1))) vC)] (.a (.a vA (.c 1)) vB) vC rfl
theorem Id:n0+4*(n1+1)+8<n2→n0+1+4*n1+8<n2:=nlt [n0,n1,n2] [] [(1,NF.lt (.a (.a vA (.l 4 (.a vB (.c 1)))) (.c 8)) vC)] (.a (.a (.a vA (.c 1)) (.l 4 vB)) (.c 8)) vC rfl
theorem Ic:n0≤100→n0≤16777216:=nle [n0] [] [(1,NF.le vA (.c 100))] vA (.c 16777216) rfl
theorem xJ:n0+(n1+1)≤100→n0+1+n1≤100:=nle [n0,n1] [] [(1,NF.le (.a vA (.a vB (.c 1))) (.c 100))] (.a (.a vA (.c 1)) vB) (.c 100) rfl
theorem Ib:n0+1+n1≤100→n0≤100:=nle [n0,n1] [] [(1,NF.le (.a (.a vA (.c 1)) vB) (.c 100))] vA (.c 100) rfl
theorem DB:n0=6→0<n0:=nlt [n0] [] [(1,NF.qe vA (.c 6))] (.c 0) vA rfl
theorem Ia:(3:Nat)≤100:=nle [] [] [] (.c 3) (.c 100) rfl
theorem xI:(2:Nat)≤16777216:=nle [] [] [] (.c 2) (.c 16777216) rfl
theorem HZ:(4:Nat)≤16777216:=nle [] [] [] (.c 4) (.c 16777216) rfl
theorem HY:n1≤1000→n0≤100→n0+n1≤16777216:=nle [n0,n1] [] [(1,NF.le vB (.c 1000)),(1,NF.le vA (.c 100))] (.a vA vB) (.c 16777216) rfl
theorem HX:n1≤1000→n0≤100→n2≤100→n0+n1+n2≤16777216:=nle [n0,n1,n2] [] [(1,NF.le vB (.c 1000)),(1,NF.le vA (.c 100)),(1,NF.le vC (.c 100))] (.a (.a vA vB) vC) (.c 16777216) rfl
theorem Cu:n1≤1000→n0=n1→n0≤16777216:=nle [n0,n1] [] [(1,NF.le vB (.c 1000)),(1,NF.eq vA vB)] vA (.c 16777216) rfl
theorem HW:(12:Nat)≤100:=nle [] [] [] (.c 12) (.c 100) rfl
theorem HV:(6:Nat)≤100:=nle [] [] [] (.c 6) (.c 100) rfl
theorem HU:(7:Nat)≤100:=by intros;simp_all
theorem HT:(8:Nat)≤100:=nle [] [] [] (.c 8) (.c 100) rfl
theorem HS:n0=6→1<n0:=by intros;subst_vars;simp
theorem Bl:n1≤1000→n0=n1→n0≤1000:=nle [n0,n1] [] [(1,NF.le vB (.c 1000)),(1,NF.eq vA vB)] vA (.c 1000) rfl
theorem HR:n0+(n1+1)≤1000→n0+n1≤1000:=nle [n0,n1] [] [(1,NF.le (.a vA (.a vB (.c 1))) (.c 1000))] (.a vA vB) (.c 1000) rfl
theorem HQ:n0+(n1+1)≤1000→n0≤16777216:=nle [n0,n1] [] [(1,NF.le (.a vA (.a vB (.c 1))) (.c 1000))] vA (.c 16777216) rfl
theorem HP:n0+(n1+1)≤1000→n0+1+n1≤1000:=nle [n0,n1] [] [(1,NF.le (.a vA (.a vB (.c 1))) (.c 1000))] (.a (.a vA (.c 1)) vB) (.c 1000) rfl
theorem HO:n1=n0→n0≤n1:=by intros;exact OA (Eq.symm (by assumption))
theorem HN:n0≤n0+(n1+1):=nle [n0,n1] [] [] vA (.a vA (.a vB (.c 1))) rfl
theorem HM:n0+4*(n1+1)+8<n2→n0+3+4*n1+8<n2:=nlt [n0,n1,n2] [] [(1,NF.lt (.a (.a vA (.l 4 (.a vB (.c 1)))) (.c 8)) vC)] (.a (.a (.a vA (.c 3)) (.l 4 vB)) (.c 8)) vC rfl
theorem me:n0+4*n2+8<n1→n0+8<n1:=nlt [n0,n1,n2] [] [(1,NF.lt (.a (.a vA (.l 4 vC)) (.c 8)) vB)] (.a vA (.c 8)) vB rfl
theorem HL:∀{i0:Int} {n0:Nat} {n1:Nat},(n1<((2:Nat) ^ (62:Nat)))→(((0:Int)≤(i0+((n1:Nat):Int)))∧((i0+((n1:Nat):Int))<((n1:Nat):Int)))→(((i0+((n1:Nat):Int))).toNat=n0)→(((-((2:Int) ^ (63:Nat)))≤i0)∧((i0<((2:Int) ^ (63:Nat)))∧(n0<n1))):=fun {i0 n0 n1} h a e=>⟨Nd (b:=-(n1:Int)) (Int.neg_le_neg (QM (PC (Nj.mpr h) (by decide)))) (Int.le_of_add_le_add_left (a:=n1) (by rw [Int.add_right_neg,PQ];exact a.1)),Oj (b:=0) (Int.lt_of_add_lt_add_left (a:=n1) (by rw [NX,PQ];exact a.2)) (by decide),e▸(Sv a.1).mpr a.2⟩
theorem HJ:n1<2 ^ 62→0≤i0∧i0<(n1:Int)→i0.toNat=n0→-2 ^ 63≤i0∧i0<2 ^ 63∧n0<n1:=fun h a e=>⟨Nd (by decide) a.1,Oj a.2 (PC (Nj.mpr h) (by decide)),e▸(Sv a.1).mpr a.2⟩
theorem HI:¬((n0:Int)<0):=uq [n0] [] [] (.n vA) (.c 0) rfl
theorem HH:n0<n1→0≤(n0:Int)∧(n0:Int)<(n1:Int):=fun h1=>⟨zle [n0,n1] [] [] (.c 0) (.n vA) rfl,zlt [n0,n1] [] [(1,NF.lt vA vB)] (.n vA) (.n vB) rfl h1⟩
theorem pb:0≤i0→i0<(n0:Int)→i0.toNat<n0:=by intros;simp_all
theorem HG:0≤i0→((i0.toNat:Nat):Int)=i0:=Nk
theorem HE:∀{i0:Int},((-((2:Int) ^ (63:Nat)))≤i0)→(i0<((2:Int) ^ (63:Nat)))→((¬(i0<(-((2:Int) ^ (63:Nat)))))∧(¬(i0≥((2:Int) ^ (63:Nat))))):=by intros;simp_all
theorem HD:i0<2 ^ 62→i0<2 ^ 63:=zlt [] [i0] [(1,ZF.lt zA (.c (4611686018427387904)))] zA (.c (9223372036854775808)) rfl
theorem HC:n0<2 ^ 62→(n0:Int)<9223372036854775808:=zlt [n0] [] [(1,NF.lt vA (.c 4611686018427387904))] (.n vA) (.c 9223372036854775808) rfl
theorem xH:n0<2 ^ 62→(n0:Int)<2 ^ 63:=zlt [n0] [] [(1,NF.lt vA (.c 4611686018427387904))] (.n vA) (.c (9223372036854775808)) rfl
theorem HB:∀{i0:Int},((0:Int)≤i0)→(i0≤(1114111:Int))→((¬(i0<(0:Int)))∧(¬(i0>(1114111:Int)))):=by intros;simp_all
theorem Hz:n0<1048576→n0≤16777216:=nle [n0] [] [(1,NF.lt vA (.c 1048576))] vA (.c 16777216) rfl
theorem Hy:n0+1<1048576→n0<1048576:=nlt [n0] [] [(1,NF.lt (.a vA (.c 1)) (.c 1048576))] vA (.c 1048576) rfl
theorem Hx:1≤n0→0=n0→False:=by intros;subst_vars;lia
theorem Hw:n1≤15→n0=n1→n0≤15:=nle [n0,n1] [] [(1,NF.le vB (.c 15)),(1,NF.eq vA vB)] vA (.c 15) rfl
theorem AD:n0≠0+n1→¬(n0=n1):=by intros;simp_all
theorem AC:n0+(n2+1)<n1→n0<n1:=nlt [n0,n1,n2] [] [(1,NF.lt (.a vA (.a vC (.c 1))) vB)] vA vB rfl
theorem Hv:n0+8<n1→n0+6<n1:=nlt [n0,n1] [] [(1,NF.lt (.a vA (.c 8)) vB)] (.a vA (.c 6)) vB rfl
theorem AB:n0+8<n1→n0<n1:=nlt [n0,n1] [] [(1,NF.lt (.a vA (.c 8)) vB)] vA vB rfl
theorem xG:0≤i0→¬(i0<0):=uq [] [i0] [(1,ZF.le (.c 0) zA)] zA (.c 0) rfl
theorem Hu:n0<2 ^ 62→i0<(n0:Int)→i0<2 ^ 63:=zlt [n0] [i0] [(1,NF.lt vA (.c 4611686018427387904)),(1,ZF.lt zA (.n vA))] zA (.c (9223372036854775808)) rfl
theorem Ht:¬(0≤i0)→i0<0:=zlt [] [i0] [(1,ZF.nle (.c 0) zA)] zA (.c 0) rfl
theorem Hs:0≤i0+(n0:Int)∧i0+(n0:Int)<(n0:Int)→-(n0:Int)≤i0:=fun h1=>zle [n0] [i0] [(1,ZF.le (.c 0) (.a zA (.n vA)))] (.g (.n vA)) zA rfl h1.1
theorem Hr:n0<2 ^ 62→-(n0:Int)≤i0∧n1=(i0+(n0:Int)).toNat→-2 ^ 63≤i0:=fun h1=>fun h2=>zle [n0,n1] [i0] [(1,NF.lt vA (.c 4611686018427387904)),(1,ZF.le (.g (.n vA)) zA)] (.g (.c (9223372036854775808))) zA rfl h1 h2.1
theorem Ho:¬((1:Int)<0):=uq [] [] [] (.c 1) (.c 0) rfl
theorem Hn:-(n0:Int)≤i0→max (i0+(n0:Int)) 0=i0+(n0:Int):=fun h=>Int.max_eq_left (Nd (OB (Int.add_left_neg _).symm) (Ov h _))
theorem Hm:((1:Int)>(0:Int)):=by intros;(repeat' constructor)<;>(first|assumption|omega)
theorem Hl:(i0-0-1+1).toNat=i0.toNat:=by intros;simp_all
theorem Hk:¬(0<i0)→((0:Int)).toNat=i0.toNat:=fun h=>(Rh (Oq.mp h)).symm
theorem Hj:-(n0:Int)≤i0→0≤i0+(n0:Int):=zle [n0] [i0] [(1,ZF.le (.g (.n vA)) zA)] (.c 0) (.a zA (.n vA)) rfl
theorem Hi:((0:Int)+(n0:Int)*1).toNat=0+n0:=by intros;simp_all
theorem Hh:n0≤n1→min (i0+(n0:Int)).toNat n0≤n1:=fun h=>Mj (NC _ _) h
theorem Hg:i0<0→-(n0:Int)≤i0→(i0+(n0:Int)).toNat≠n0:=fun h a e=>zF [n0] [i0] [(1,ZF.lt zA (.c 0)),(1,ZF.eq (.n vA) (.a zA (.n vA)))] rfl h ((congrArg Nat.cast e).symm.trans (Nk (zle [n0] [i0] [(1,ZF.le (.g (.n vA)) zA)] (.c 0) (.a zA (.n vA)) rfl a)))
theorem Hf:(i0+(n0:Int)).toNat=((n0:Int)+i0).toNat:=by intros;lia
theorem Hd:i1≤i0→i0<i1→i0=i1:=fun h1=>fun h2=>MA (zle [] [i0,i1] [(1,ZF.lt zA zB)] zA zB rfl h2) (zle [] [i0,i1] [(1,ZF.le zB zA)] zB zA rfl h1)
theorem AA:i0=i0:=MA (zle [] [i0] [] zA zA rfl) (zle [] [i0] [] zA zA rfl)
theorem Hc:i1≤i0→¬(i1<i0)→i0=i1:=fun h1=>fun h2=>MA (zle [] [i0,i1] [(1,ZF.nlt zB zA)] zA zB rfl h2) (zle [] [i0,i1] [(1,ZF.le zB zA)] zB zA rfl h1)
theorem Az:i0≤i1→i0≤i1:=zle [] [i0,i1] [(1,ZF.le zA zB)] zA zB rfl
theorem Ay:n0≤1000→n0≤16777216:=nle [n0] [] [(1,NF.le vA (.c 1000))] vA (.c 16777216) rfl
theorem Ax:n0+1+n1=n0+(n1+1):=MU (nle [n0,n1] [] [] (.a (.a vA (.c 1)) vB) (.a vA (.a vB (.c 1))) rfl) (nle [n0,n1] [] [] (.a vA (.a vB (.c 1))) (.a (.a vA (.c 1)) vB) rfl)
theorem Hb:n1<n0→n0≠n1:=zF [n0,n1] [] [(1,NF.lt vB vA),(1,NF.eq vA vB)] rfl
theorem Ha:n0<n1→n0<n1+1:=nlt [n0,n1] [] [(1,NF.lt vA vB)] vA (.a vB (.c 1)) rfl
theorem xF:n0<n0+1:=nlt [n0] [] [] vA (.a vA (.c 1)) rfl
theorem GZ:n0≠n0+(n1+1):=zF [n0,n1] [] [(1,NF.qe vA (.a vA (.a vB (.c 1))))] rfl
theorem GY:n0≠n1+1+n2→n0≠n1+(n2+1):=fun h e=>h (MU (nle [n0,n1,n2] [] [(1,NF.eq vA (.a vB (.a vC (.c 1))))] vA (.a (.a vB (.c 1)) vC) rfl e) (nle [n0,n1,n2] [] [(1,NF.qe vA (.a vB (.a vC (.c 1))))] (.a (.a vB (.c 1)) vC) vA rfl e))
theorem Aw:n2<n1+1→n0<n2→n0<n1:=nlt [n0,n1,n2] [] [(1,NF.lt vC (.a vB (.c 1))),(1,NF.lt vA vC)] vA vB rfl
theorem bL:n0≤40→n0<2 ^ 62:=nlt [n0] [] [(1,NF.le vA (.c 40))] vA (.c 4611686018427387904) rfl
theorem GX:n0≤40→n0+1<300:=nlt [n0] [] [(1,NF.le vA (.c 40))] (.a vA (.c 1)) (.c 300) rfl
theorem kG:n1≤40→n1=n2+n0→n0<300:=nlt [n0,n1,n2] [] [(1,NF.le vB (.c 40)),(1,NF.qe vB (.a vC vA))] vA (.c 300) rfl
theorem GW:0<n0+1:=by intros;exact PK _
theorem GV:n2+1≤n1→n0≤n2→n0+1<n1+1:=nlt [n0,n1,n2] [] [(1,NF.le (.a vC (.c 1)) vB),(1,NF.le vA vC)] (.a vA (.c 1)) (.a vB (.c 1)) rfl
theorem GU:n0=n2+(n1+1)→n0-(n1+1)=n2:=by intros;subst_vars;simp
theorem gq:(n0:Int)<(n0:Int)+((n1:Int)+1):=zlt [n0,n1] [] [] (.n vA) (.a (.n vA) (.a (.n vB) (.c 1))) rfl
theorem GT:n0+n1+1=n0+(n1+1):=MU (nle [n0,n1] [] [] (.a (.a vA vB) (.c 1)) (.a vA (.a vB (.c 1))) rfl) (nle [n0,n1] [] [] (.a vA (.a vB (.c 1))) (.a (.a vA vB) (.c 1)) rfl)
theorem uu:n0≤40→n0<300:=nlt [n0] [] [(1,NF.le vA (.c 40))] vA (.c 300) rfl
theorem GS:n0=4∨n0=15∨n0=7→n0≠10:=fun h1=>h1.elim (fun h2=>fun h3=>zF [n0] [] [(1,NF.eq vA (.c 4)),(1,NF.qe vA (.c 10))] rfl h2 h3) (fun h2=>h2.elim (fun h4=>fun h5=>zF [n0] [] [(1,NF.qe vA (.c 15)),(1,NF.eq vA (.c 10))] rfl h4 h5) (fun h4=>fun h6=>zF [n0] [] [(1,NF.eq vA (.c 7)),(1,NF.qe vA (.c 10))] rfl h4 h6))
theorem Fj:n0=9∨n0=6∨n0=17→n0≠10:=fun h1=>h1.elim (fun h2=>fun h3=>zF [n0] [] [(1,NF.eq vA (.c 9)),(1,NF.qe vA (.c 10))] rfl h2 h3) (fun h2=>h2.elim (fun h4=>fun h5=>zF [n0] [] [(1,NF.eq vA (.c 6)),(1,NF.qe vA (.c 10))] rfl h4 h5) (fun h4=>fun h6=>zF [n0] [] [(1,NF.qe vA (.c 17)),(1,NF.eq vA (.c 10))] rfl h4 h6))
theorem Fi:n0=9∨n0=6∨n0=17→¬(n0=4∨n0=15∨n0=7):=fun h1=>h1.elim (fun h2=>fun h3=>h3.elim (fun h4=>zF [n0] [] [(1,NF.qe vA (.c 9)),(1,NF.eq vA (.c 4))] rfl h2 h4) (fun h4=>h4.elim (fun h5=>zF [n0] [] [(1,NF.eq vA (.c 9)),(1,NF.qe vA (.c 15))] rfl h2 h5) (fun h5=>zF [n0] [] [(1,NF.qe vA (.c 9)),(1,NF.eq vA (.c 7))] rfl h2 h5))) (fun h2=>h2.elim (fun h6=>fun h7=>h7.elim (fun h8=>zF [n0] [] [(1,NF.qe vA (.c 6)),(1,NF.eq vA (.c 4))] rfl h6 h8) (fun h8=>h8.elim (fun h9=>zF [n0] [] [(1,NF.eq vA (.c 6)),(1,NF.qe vA (.c 15))] rfl h6 h9) (fun h9=>zF [n0] [] [(1,NF.eq vA (.c 6)),(1,NF.qe vA (.c 7))] rfl h6 h9))) (fun h6=>fun h10=>h10.elim (fun h11=>zF [n0] [] [(1,NF.qe vA (.c 17)),(1,NF.eq vA (.c 4))] rfl h6 h11) (fun h11=>h11.elim (fun h12=>zF [n0] [] [(1,NF.qe vA (.c 17)),(1,NF.eq vA (.c 15))] rfl h6 h12) (fun h12=>zF [n0] [] [(1,NF.qe vA (.c 17)),(1,NF.eq vA (.c 7))] rfl h6 h12))))
theorem qW:0≤(n0:Int):=zle [n0] [] [] (.c 0) (.n vA) rfl
theorem Fh:(n0:Int)≤i0→0≤i0:=zle [n0] [i0] [(1,ZF.le (.n vA) zA)] (.c 0) zA rfl
theorem Fg:i1≤i0→(n0:Int)≤i1→(n0:Int)≤i0:=zle [n0] [i0,i1] [(1,ZF.le zB zA),(1,ZF.le (.n vA) zB)] (.n vA) zA rfl
theorem dw:n0≤40→n0≤1048576:=nle [n0] [] [(1,NF.le vA (.c 40))] vA (.c 1048576) rfl
theorem Ff:i0+2-1=i0+1:=MA (zle [] [i0] [] (.s (.a zA (.c 2)) (.c 1)) (.a zA (.c 1)) rfl) (zle [] [i0] [] (.a zA (.c 1)) (.s (.a zA (.c 2)) (.c 1)) rfl)
theorem xe:i0+2=i0+1+1:=MA (zle [] [i0] [] (.a zA (.c 2)) (.a (.a zA (.c 1)) (.c 1)) rfl) (zle [] [i0] [] (.a (.a zA (.c 1)) (.c 1)) (.a zA (.c 2)) rfl)
theorem Fe:i0+1≤i0+2:=zle [] [i0] [] (.a zA (.c 1)) (.a zA (.c 2)) rfl
theorem Fd:i0+1+1=i0+2:=MA (zle [] [i0] [] (.a (.a zA (.c 1)) (.c 1)) (.a zA (.c 2)) rfl) (zle [] [i0] [] (.a zA (.c 2)) (.a (.a zA (.c 1)) (.c 1)) rfl)
theorem Fc:n0≤n1+(n0+2):=nle [n0,n1] [] [] vA (.a vB (.a vA (.c 2))) rfl
theorem qV:n1≤40→n0≤n1→n0<300:=nlt [n0,n1] [] [(1,NF.le vB (.c 40)),(1,NF.le vA vB)] vA (.c 300) rfl
theorem nW:(n0:Int)≤i0→¬(i0<(n0:Int)):=by intros;simp_all
theorem qU:n0≤n1→n0<n1+1:=by intros;exact RC (by assumption)
theorem xb:1≤n0→0<(n0:Int):=by intros;exact Nj.mpr (by assumption)
theorem qR:n1≤40→n1=n2+(n0+1)→n0<300:=nlt [n0,n1,n2] [] [(1,NF.le vB (.c 40)),(1,NF.qe vB (.a vC (.a vA (.c 1))))] vA (.c 300) rfl
theorem xa:i0+1≤i0+1+1:=zle [] [i0] [] (.a zA (.c 1)) (.a (.a zA (.c 1)) (.c 1)) rfl
theorem nU:n0<n0+2:=nlt [n0] [] [] vA (.a vA (.c 2)) rfl
theorem wZ:1≤n0+1:=by intros;exact PK _
theorem Fb:0<(n0:Int)→(n0:Int)-1=((n0-1:Nat):Int):=fun h=>(QE (Nj.mp h)).symm
theorem Fa:n0=1→n0-1=0:=by intros;subst_vars;(first|rfl|omega)
theorem EZ:0<(n0:Int)→¬(n0=1)→1≤n0-1:=fun h e=>Nat.sub_pos_of_lt (Nat.lt_of_le_of_ne (Nj.mp h) (NM e))
theorem EY:(n0:Int)≤i0→(n0:Int)≤i0:=zle [n0] [i0] [(1,ZF.le (.n vA) zA)] (.n vA) zA rfl
theorem EW:i0<(n0:Int)→¬((n0:Int)≤i0):=Av [n0] [i0] [(1,ZF.lt zA (.n vA))] (.n vA) zA rfl
theorem EV:n2+1≤n1→n0≤n2→n0<n1:=nlt [n0,n1,n2] [] [(1,NF.le (.a vC (.c 1)) vB),(1,NF.le vA vC)] vA vB rfl
theorem EU:n2≤n1→n3+1≤n2→n0≤n3→n0≤n1:=nle [n0,n1,n2,n3] [] [(1,NF.le vC vB),(1,NF.le (.a vD (.c 1)) vC),(1,NF.le vA vD)] vA vB rfl
theorem ET:¬(i0<0∨(n0:Int)≤i0)→0≤i0:=by intros;simp_all
theorem gc:n1≤40→n0≤n1→n0≤1048576:=nle [n0,n1] [] [(1,NF.le vB (.c 40)),(1,NF.le vA vB)] vA (.c 1048576) rfl
theorem ES:n1≤40→n0≤n1→n0≤40:=by intros;exact Mj (by assumption) (by assumption)
theorem ER:n0=2∨n0=8∨n0=10∨n0=16→n0≤16:=fun h1=>h1.elim (fun h2=>nle [n0] [] [(1,NF.eq vA (.c 2))] vA (.c 16) rfl h2) (fun h2=>h2.elim (fun h3=>nle [n0] [] [(1,NF.eq vA (.c 8))] vA (.c 16) rfl h3) (fun h3=>h3.elim (fun h4=>nle [n0] [] [(1,NF.eq vA (.c 10))] vA (.c 16) rfl h4) (fun h4=>nle [n0] [] [(1,NF.eq vA (.c 16))] vA (.c 16) rfl h4)))
theorem EQ:n1≤40→n2≤n1→n0≤n2→n0<2 ^ 62:=nlt [n0,n1,n2] [] [(1,NF.le vB (.c 40)),(1,NF.le vC vB),(1,NF.le vA vC)] vA (.c 4611686018427387904) rfl
theorem EP:n1≤40→n2≤n1→n0≤n2→n0≤1048576:=nle [n0,n1,n2] [] [(1,NF.le vB (.c 40)),(1,NF.le vC vB),(1,NF.le vA vC)] vA (.c 1048576) rfl
theorem EO:2<(n0:Int)+1+1+1:=zlt [n0] [] [] (.c 2) (.a (.a (.a (.n vA) (.c 1)) (.c 1)) (.c 1)) rfl
theorem qQ:n0+1≤n1→n0≤n1:=by intros;exact Mj (NW _ _) (by assumption)
theorem EN:n2=n0→n2≤n1→n0≤n1:=nle [n0,n1,n2] [] [(1,NF.qe vC vA),(1,NF.le vC vB)] vA vB rfl
theorem EM:10≤i0→0≤i0:=zle [] [i0] [(1,ZF.le (.c 10) zA)] (.c 0) zA rfl
theorem nT:1≤n1→n1+n0=1→n0=0:=fun h1=>fun h2=>MU (nle [n0,n1] [] [(1,NF.le (.c 1) vB),(1,NF.eq (.a vB vA) (.c 1))] vA (.c 0) rfl h1 h2) (nle [n0,n1] [] [] (.c 0) vA rfl)
theorem EL:¬(i0<10)→10≤i0:=by intros;simp_all
theorem EJ:n0≤n1→n0≤n1+1:=nle [n0,n1] [] [(1,NF.le vA vB)] vA (.a vB (.c 1)) rfl
theorem EI:n1≤n0→(n0:Int)+1≤(n1:Int)→(n1:Int)=(n0:Int)+1:=fun h1=>fun h2=>MA (zle [n0,n1] [] [(1,NF.le vB vA)] (.n vB) (.a (.n vA) (.c 1)) rfl h1) (zle [n0,n1] [] [(1,ZF.le (.a (.n vA) (.c 1)) (.n vB))] (.a (.n vA) (.c 1)) (.n vB) rfl h2)
theorem EH:n2≤n3+n4+(n5*n1+n1)→n0+n1+n2≤n0+(n3+n4)+(n5*n1+n1+n1):=nle [n0,n1,n2,n3,n4,n5*n1] [] [(1,NF.le vC (.a (.a vD vE) (.a vF vB)))] (.a (.a vA vB) vC) (.a (.a vA (.a vD vE)) (.a (.a vF vB) vB)) rfl
theorem EG:n1≤n2→n0+n1≤n0+n2:=nle [n0,n1,n2] [] [(1,NF.le vB vC)] (.a vA vB) (.a vA vC) rfl
theorem EF:n0≤n1+n2*4→n1+n2≤2000→n2≤40→n0≤5000:=nle [n0,n1,n2] [] [(1,NF.le vA (.a vB (.r vC 4))),(1,NF.le (.a vB vC) (.c 2000)),(3,NF.le vC (.c 40))] vA (.c 5000) rfl
theorem wY:n0≤n0+n1:=nle [n0,n1] [] [] vA (.a vA vB) rfl
theorem wX:n0≤n2→n0≤n1+n2:=nle [n0,n1,n2] [] [(1,NF.le vA vC)] vA (.a vB vC) rfl
theorem EE:n2+n3≤2000→n4≤n2→n1≤n2→n0≤n4+min (n3-1) n3*2→n0+5+n1≤5000:=fun h a b c=>nle [n0,n1,n2,n3,n4,min (n3-1) n3] [] [(2,NF.le (.a vC vD) (.c 2000)),(1,NF.le vE vC),(1,NF.le vB vC),(1,NF.le vA (.a vE (.r vF 2))),(2,NF.le vF vD)] (.a (.a vA (.c 5)) vB) (.c 5000) rfl h a b c (NC _ _)
theorem nR:n1+n0≤2000→n0<2 ^ 62:=nlt [n0,n1] [] [(1,NF.le (.a vB vA) (.c 2000))] vA (.c 4611686018427387904) rfl
theorem wW:n0+n1≤2000→n0+n1≤1048576:=nle [n0,n1] [] [(1,NF.le (.a vA vB) (.c 2000))] (.a vA vB) (.c 1048576) rfl
theorem ED:(n0:Int)<3→n0<3:=by intros;exact Nj.mp (by assumption)
theorem wV:n2+n1≤2000→n0≤n2→n0+min (n1-1) n1≤1048576:=fun h a=>Mj (Sa a (NC _ _)) (Mj h (by decide))
theorem EC:n1+n0≤2000→¬((n0:Int)<3)→n0≤1048576∧-(1:Int)<0∧-(n0:Int)≤-1:=fun h1=>fun h2=>⟨nle [n0,n1] [] [(1,NF.le (.a vB vA) (.c 2000))] vA (.c 1048576) rfl h1,⟨zlt [n0,n1] [] [] (.g (.c 1)) (.c 0) rfl,zle [n0,n1] [] [(1,ZF.nlt (.n vA) (.c 3))] (.g (.n vA)) (.g (.c 1)) rfl h2⟩⟩
theorem EB:∀{n0:Nat},(((((n0:Nat):Int)+(-(1:Int)))).toNat=(n0-(1:Nat))):=fun {n0}=>QD n0 1
theorem wU:n1+n2≤2000→n3≤n1→n0≤n3+min (n2-1) n2*2→n0+5≤16777216:=fun h a c=>nle [n0,n1,n2,n3,min (n2-1) n2] [] [(2,NF.le (.a vB vC) (.c 2000)),(1,NF.le vD vB),(1,NF.le vA (.a vD (.r vE 2))),(2,NF.le vE vC)] (.a vA (.c 5)) (.c 16777216) rfl h a c (NC _ _)
theorem EA:¬((n0:Int)<3)→0≤-1+(n0:Int)∧-1+(n0:Int)<(n0:Int):=fun h1=>⟨zle [n0] [] [(1,ZF.nlt (.n vA) (.c 3))] (.c 0) (.a (.g (.c 1)) (.n vA)) rfl h1,zlt [n0] [] [] (.a (.g (.c 1)) (.n vA)) (.n vA) rfl⟩
theorem wS:∀{n0:Nat},((((-(1:Int))+((n0:Nat):Int))).toNat=(n0-(1:Nat))):=fun {n0}=>(congrArg Int.toNat (PQ _ _)).trans (QD n0 1)
theorem Ez:¬((n0:Int)<3)→n0-1<n0:=fun h=>Rm (Nw (by decide) (Nc (m:=3).mp (Oq.mp h))) (by decide)
theorem Ey:¬((n0:Int)<3)→¬(n0<3):=vx [n0] [] [(1,ZF.nlt (.n vA) (.c 3))] vA (.c 3) rfl
theorem wR:n0+n1+n2≤5000→n0+n1+n2≤16777216:=nle [n0,n1,n2] [] [(1,NF.le (.a (.a vA vB) vC) (.c 5000))] (.a (.a vA vB) vC) (.c 16777216) rfl
theorem Ew:n1≤100→n0≤10→n0+n1≤16777216:=nle [n0,n1] [] [(1,NF.le vB (.c 100)),(1,NF.le vA (.c 10))] (.a vA vB) (.c 16777216) rfl
theorem Eu:n1≤100→n0≤10→n0+n1+2≤16777216:=nle [n0,n1] [] [(1,NF.le vB (.c 100)),(1,NF.le vA (.c 10))] (.a (.a vA vB) (.c 2)) (.c 16777216) rfl
theorem Et:n1≤100→n2≤100→n0≤10→n0+n1+2+n2≤16777216:=nle [n0,n1,n2] [] [(1,NF.le vB (.c 100)),(1,NF.le vC (.c 100)),(1,NF.le vA (.c 10))] (.a (.a (.a vA vB) (.c 2)) vC) (.c 16777216) rfl
theorem Es:n1≤100→n2≤100→n0≤10→n0+n1+2+n2+11≤16777216:=nle [n0,n1,n2] [] [(1,NF.le vB (.c 100)),(1,NF.le vC (.c 100)),(1,NF.le vA (.c 10))] (.a (.a (.a (.a vA vB) (.c 2)) vC) (.c 11)) (.c 16777216) rfl
theorem Er:n1≤100→n2≤100→n0≤10→n3≤5000→n0+n1+2+n2+11+n3≤16777216:=nle [n0,n1,n2,n3] [] [(1,NF.le vB (.c 100)),(1,NF.le vC (.c 100)),(1,NF.le vA (.c 10)),(1,NF.le vD (.c 5000))] (.a (.a (.a (.a (.a vA vB) (.c 2)) vC) (.c 11)) vD) (.c 16777216) rfl
theorem wQ:n1≤40→n0=n2+2→n2+2≤n1→n0<2 ^ 62:=nlt [n0,n1,n2] [] [(1,NF.le vB (.c 40)),(1,NF.eq vA (.a vC (.c 2))),(1,NF.le (.a vC (.c 2)) vB)] vA (.c 4611686018427387904) rfl
theorem Ep:¬(((n0+2:Nat):Int)=1):=zF [n0] [] [(1,ZF.eq (.n (.a vA (.c 2))) (.c 1))] rfl
theorem Eo:0<((n0+2:Nat):Int):=zlt [n0] [] [] (.c 0) (.n (.a vA (.c 2))) rfl
theorem En:n0≤n1→n0≤n1+n2:=nle [n0,n1,n2] [] [(1,NF.le vA vB)] vA (.a vB vC) rfl
theorem Em:n1≤40→n0≤n1→n0<1048576:=nlt [n0,n1] [] [(1,NF.le vB (.c 40)),(1,NF.le vA vB)] vA (.c 1048576) rfl
theorem Ek:i0+1+(n0:Int)=i0+((n0:Int)+1):=MA (zle [n0] [i0] [] (.a (.a zA (.c 1)) (.n vA)) (.a zA (.a (.n vA) (.c 1))) rfl) (zle [n0] [i0] [] (.a zA (.a (.n vA) (.c 1))) (.a (.a zA (.c 1)) (.n vA)) rfl)
theorem Ej:1+(n0:Int)=(n0:Int)+1:=MA (zle [n0] [] [] (.a (.c 1) (.n vA)) (.a (.n vA) (.c 1)) rfl) (zle [n0] [] [] (.a (.n vA) (.c 1)) (.a (.c 1) (.n vA)) rfl)
theorem qP:((1:Int)+(n0:Int)).toNat=n0+1:=Nat.add_comm 1 n0
theorem Ei:((n0:Int)-1).toNat=n0-1:=by intros;simp_all
theorem Eh:n0≤40→(n0:Int)≤1000000:=zle [n0] [] [(1,NF.le vA (.c 40))] (.n vA) (.c 1000000) rfl
theorem Eg:-1000000≤(n0:Int):=zle [n0] [] [] (.g (.c 1000000)) (.n vA) rfl
theorem Ef:n0≤40→n0-1≤1000:=fun h=>Mj (Oo _ _) (Mj h (by decide))
theorem Ee:n1≤40→n0≤n1-1→1+n0≤16777216:=fun h a=>Mj (Nat.add_le_add_left (Mj a (Mj (Oo _ _) h)) 1) (by decide)
theorem Ed:1+(n0:Int)=((n0+1:Nat):Int):=MA (zle [n0] [] [] (.a (.c 1) (.n vA)) (.n (.a vA (.c 1))) rfl) (zle [n0] [] [] (.n (.a vA (.c 1))) (.a (.c 1) (.n vA)) rfl)
theorem Ec:n0<n1-1→n0+1≤n1:=fun h=>Mj h (Oo _ _)
theorem Eb:min (n0+1) n1≤n1:=NC _ _
theorem Ea:((n0:Int)-0).toNat=n0:=by intros;subst_vars;(first|rfl|omega)
theorem DZ:n0≤40→((((n0:Int)-0).toNat:Nat):Int)≤1000000:=fun h=>Nc.mpr (Mj h (by decide))
theorem DY:-1000000≤((((n0:Int)-0).toNat:Nat):Int):=by intros;(repeat' constructor)<;>(first|assumption|omega)
theorem wP:n0≤40→n0≤1000:=nle [n0] [] [(1,NF.le vA (.c 40))] vA (.c 1000) rfl
theorem wO:((0:Int)+(n0:Int)).toNat=n0:=by intros;simp_all
theorem DX:n1≤40→n0≤n1→n0+1≤16777216:=nle [n0,n1] [] [(1,NF.le vB (.c 40)),(1,NF.le vA vB)] (.a vA (.c 1)) (.c 16777216) rfl
theorem DW:n1≤40→n0≤n1→n0+1<2 ^ 62:=nlt [n0,n1] [] [(1,NF.le vB (.c 40)),(1,NF.le vA vB)] (.a vA (.c 1)) (.c 4611686018427387904) rfl
theorem DV:0+(n0:Int)=(n0:Int):=MA (zle [n0] [] [] (.a (.c 0) (.n vA)) (.n vA) rfl) (zle [n0] [] [] (.n vA) (.a (.c 0) (.n vA)) rfl)
theorem DU:n0<n1→(n0:Int)<(n1:Int):=by intros;exact Nj.mpr (by assumption)
theorem DT:n1=n2+n0→n1≤40→n0<300:=nlt [n0,n1,n2] [] [(1,NF.qe vB (.a vC vA)),(1,NF.le vB (.c 40))] vA (.c 300) rfl
theorem wM:(n0:Int)+((n1:Int)+1)-1=(n0:Int)+(n1:Int):=MA (zle [n0,n1] [] [] (.s (.a (.n vA) (.a (.n vB) (.c 1))) (.c 1)) (.a (.n vA) (.n vB)) rfl) (zle [n0,n1] [] [] (.a (.n vA) (.n vB)) (.s (.a (.n vA) (.a (.n vB) (.c 1))) (.c 1)) rfl)
theorem DS:2<((n1+n0:Nat):Int)-(n1:Int)→2<n0:=nlt [n0,n1] [] [(1,ZF.lt (.c 2) (.s (.n (.a vB vA)) (.n vB)))] (.c 2) vA rfl
theorem DR:¬(2<((n1+n0:Nat):Int)-(n1:Int))→¬(2<n0):=vx [n0,n1] [] [(1,ZF.nlt (.c 2) (.s (.n (.a vB vA)) (.n vB)))] (.c 2) vA rfl
theorem DQ:(n0:Int)+((n1:Int)+1+1+1)=(n0:Int)+2+((n1:Int)+1):=MA (zle [n0,n1] [] [] (.a (.n vA) (.a (.a (.a (.n vB) (.c 1)) (.c 1)) (.c 1))) (.a (.a (.n vA) (.c 2)) (.a (.n vB) (.c 1))) rfl) (zle [n0,n1] [] [] (.a (.a (.n vA) (.c 2)) (.a (.n vB) (.c 1))) (.a (.n vA) (.a (.a (.a (.n vB) (.c 1)) (.c 1)) (.c 1))) rfl)
theorem wL:(n0:Int)+((n1:Int)+1)=(n0:Int)+1+(n1:Int):=MA (zle [n0,n1] [] [] (.a (.n vA) (.a (.n vB) (.c 1))) (.a (.a (.n vA) (.c 1)) (.n vB)) rfl) (zle [n0,n1] [] [] (.a (.a (.n vA) (.c 1)) (.n vB)) (.a (.n vA) (.a (.n vB) (.c 1))) rfl)
theorem DP:¬(n1≤n0)→n0≤n1:=nle [n0,n1] [] [(1,NF.nle vB vA)] vA vB rfl
theorem DO:n0≤100→4+n0≤16777216:=nle [n0] [] [(1,NF.le vA (.c 100))] (.a (.c 4) vA) (.c 16777216) rfl
theorem DN:n0≤100→4+n0+2≤16777216:=nle [n0] [] [(1,NF.le vA (.c 100))] (.a (.a (.c 4) vA) (.c 2)) (.c 16777216) rfl
theorem DM:n0≤100→n1≤100→4+n0+2+n1≤16777216:=nle [n0,n1] [] [(1,NF.le vA (.c 100)),(1,NF.le vB (.c 100))] (.a (.a (.a (.c 4) vA) (.c 2)) vB) (.c 16777216) rfl
theorem DL:n0≤100→n1≤100→4+n0+2+n1+11≤16777216:=nle [n0,n1] [] [(1,NF.le vA (.c 100)),(1,NF.le vB (.c 100))] (.a (.a (.a (.a (.c 4) vA) (.c 2)) vB) (.c 11)) (.c 16777216) rfl
theorem DK:n2≤5000→n0≤100→n1≤100→4+n0+2+n1+11+n2≤16777216:=nle [n0,n1,n2] [] [(1,NF.le vC (.c 5000)),(1,NF.le vA (.c 100)),(1,NF.le vB (.c 100))] (.a (.a (.a (.a (.a (.c 4) vA) (.c 2)) vB) (.c 11)) vC) (.c 16777216) rfl
theorem DJ:n0≤100→10+n0≤16777216:=nle [n0] [] [(1,NF.le vA (.c 100))] (.a (.c 10) vA) (.c 16777216) rfl
theorem DI:n0≤100→10+n0+2≤16777216:=nle [n0] [] [(1,NF.le vA (.c 100))] (.a (.a (.c 10) vA) (.c 2)) (.c 16777216) rfl
theorem DH:n0≤100→n1≤100→10+n0+2+n1≤16777216:=nle [n0,n1] [] [(1,NF.le vA (.c 100)),(1,NF.le vB (.c 100))] (.a (.a (.a (.c 10) vA) (.c 2)) vB) (.c 16777216) rfl
theorem DG:n0≤100→n1≤100→10+n0+2+n1+11≤16777216:=nle [n0,n1] [] [(1,NF.le vA (.c 100)),(1,NF.le vB (.c 100))] (.a (.a (.a (.a (.c 10) vA) (.c 2)) vB) (.c 11)) (.c 16777216) rfl
theorem DF:n2≤5000→n0≤100→n1≤100→10+n0+2+n1+11+n2≤16777216:=nle [n0,n1,n2] [] [(1,NF.le vC (.c 5000)),(1,NF.le vA (.c 100)),(1,NF.le vB (.c 100))] (.a (.a (.a (.a (.a (.c 10) vA) (.c 2)) vB) (.c 11)) vC) (.c 16777216) rfl
theorem DE:2≤n0→0<n0:=by intros;exact Mj (RU _ _) (by assumption)
theorem DD:n0≤n1→n2+n1≤2000→n0<2 ^ 62:=nlt [n0,n1,n2] [] [(1,NF.le vA vB),(1,NF.le (.a vC vB) (.c 2000))] vA (.c 4611686018427387904) rfl
theorem DC:(n0:Int)=1→n0=1:=fun h1=>MU (nle [n0] [] [(1,ZF.eq (.n vA) (.c 1))] vA (.c 1) rfl h1) (nle [n0] [] [(1,ZF.qe (.n vA) (.c 1))] (.c 1) vA rfl h1)
theorem DA:(n0:Int)=2→n0<3:=nlt [n0] [] [(1,ZF.eq (.n vA) (.c 2))] vA (.c 3) rfl
theorem Dz:n0≤5000→n0≤5000:=nle [n0] [] [(1,NF.le vA (.c 5000))] vA (.c 5000) rfl
theorem Dy:n1+n0≤2000→n0≤1048576:=nle [n0,n1] [] [(1,NF.le (.a vB vA) (.c 2000))] vA (.c 1048576) rfl
theorem Dx:0<n0→n0=n0-1+1:=fun h=>(Rn h).symm
theorem Dw:0<n0→0≤-1+(n0:Int)∧-1+(n0:Int)<(n0:Int):=fun h1=>⟨zle [n0] [] [(1,NF.lt (.c 0) vA)] (.c 0) (.a (.g (.c 1)) (.n vA)) rfl h1,zlt [n0] [] [] (.a (.g (.c 1)) (.n vA)) (.n vA) rfl⟩
theorem wK:0<n0→n0-1<n0:=fun h=>Rm h Nat.one_pos
theorem Dv:2≤n0→¬((n0:Int)=2)→¬(n0<3):=by intros;lia
theorem wJ:n0≤100→n0<2 ^ 62:=nlt [n0] [] [(1,NF.le vA (.c 100))] vA (.c 4611686018427387904) rfl
theorem Du:n0≤n1→n1+n2≤2000→n0≤1048576:=nle [n0,n1,n2] [] [(1,NF.le vA vB),(1,NF.le (.a vB vC) (.c 2000))] vA (.c 1048576) rfl
theorem Dt:n0≤100→35+n0≤16777216:=nle [n0] [] [(1,NF.le vA (.c 100))] (.a (.c 35) vA) (.c 16777216) rfl
theorem Ds:n0≤100→35+n0+32≤16777216:=nle [n0] [] [(1,NF.le vA (.c 100))] (.a (.a (.c 35) vA) (.c 32)) (.c 16777216) rfl
theorem kJ:-(1:Int)≤-1:=zle [] [] [] (.g (.c 1)) (.g (.c 1)) rfl
theorem kI:-1≤((41:Nat):Int):=zle [] [] [] (.g (.c 1)) (.n (.c 41)) rfl
theorem Dr:-1≤((n0-n1:Nat):Int):=by intros;(repeat' constructor)<;>(first|assumption|omega)
theorem Dq:n0≤40→((n0-n1:Nat):Int)≤((41:Nat):Int):=fun h=>Nc.mpr (Mj (Oo _ _) (Mj h (by decide)))
theorem Dp:-(1:Int)≤0:=zle [] [] [] (.g (.c 1)) (.c 0) rfl
theorem Do:0≤((41:Nat):Int):=zle [] [] [] (.c 0) (.n (.c 41)) rfl
theorem wI:-1≤(n0:Int):=zle [n0] [] [] (.g (.c 1)) (.n vA) rfl
theorem Dm:n1≤40→n0≤n1-1→(n0:Int)≤((41:Nat):Int):=fun h a=>Nc.mpr (Mj a (Mj (Oo _ _) (Mj h (by decide))))
theorem Dl:n1≤40→n0<n1→(n0:Int)≤((41:Nat):Int):=zle [n0,n1] [] [(1,NF.le vB (.c 40)),(1,NF.lt vA vB)] (.n vA) (.n (.c 41)) rfl
theorem Dk:3<(n0:Int)→3<n0:=by intros;exact Nj.mp (by assumption)
theorem Dj:¬(3<(n0:Int))→¬(3<n0):=vx [n0] [] [(1,ZF.nlt (.c 3) (.n vA))] (.c 3) vA rfl
theorem Di:¬(3<(n0:Int))→n0<300:=nlt [n0] [] [(1,ZF.nlt (.c 3) (.n vA))] vA (.c 300) rfl
theorem nQ:¬(3<(n0:Int))→n0<2 ^ 62:=nlt [n0] [] [(1,ZF.nlt (.c 3) (.n vA))] vA (.c 4611686018427387904) rfl
theorem Dh:(n0:Int)<(n1:Int)→n0<n1:=by intros;exact Nj.mp (by assumption)
theorem wH:(n0:Int)+1+1=(n0:Int)+2:=by intros;subst_vars;exact Ob _ _
theorem Dg:(n0:Int)+1=((n0+1:Nat):Int):=by intros;subst_vars;exact Ob _ _
theorem Df:1<(n0:Int)+1+1:=zlt [n0] [] [] (.c 1) (.a (.a (.n vA) (.c 1)) (.c 1)) rfl
theorem De:n0+4=4+n0:=MU (nle [n0] [] [] (.a vA (.c 4)) (.a (.c 4) vA) rfl) (nle [n0] [] [] (.a (.c 4) vA) (.a vA (.c 4)) rfl)
theorem wG:3+n0=n0+3:=MU (nle [n0] [] [] (.a (.c 3) vA) (.a vA (.c 3)) rfl) (nle [n0] [] [] (.a vA (.c 3)) (.a (.c 3) vA) rfl)
theorem qO:n0≤100→4+n0<2 ^ 62:=nlt [n0] [] [(1,NF.le vA (.c 100))] (.a (.c 4) vA) (.c 4611686018427387904) rfl
theorem wE:-1≤i0→i0≤41→i0.natAbs<1920:=fun a b=>by
 cases i0 with
 | ofNat n=>exact MZ (Nc.mp b) (by decide)
 | negSucc n=>exact MZ (Nc.mp (Int.neg_le_neg_iff.mp (show -1≤-((n+1:Nat):Int) from a))) (by decide)
theorem Dd:¬(((4+n0:Nat):Int)<4):=uq [n0] [] [] (.n (.a (.c 4) vA)) (.c 4) rfl
theorem Dc:7<((4+n0:Nat):Int)→3<n0:=nlt [n0] [] [(1,ZF.lt (.c 7) (.n (.a (.c 4) vA)))] (.c 3) vA rfl
theorem Db:¬(7<((4+n0:Nat):Int))→n0≤3:=nle [n0] [] [(1,ZF.nlt (.c 7) (.n (.a (.c 4) vA)))] vA (.c 3) rfl
theorem Da:2<4+n0:=nlt [n0] [] [] (.c 2) (.a (.c 4) vA) rfl
theorem CZ:n0≤3→4+n0<2 ^ 62:=nlt [n0] [] [(1,NF.le vA (.c 3))] (.a (.c 4) vA) (.c 4611686018427387904) rfl
theorem CY:n0≤3→n0<300:=nlt [n0] [] [(1,NF.le vA (.c 3))] vA (.c 300) rfl
theorem CW:4+(n0:Int)-1≤3+(n0:Int):=zle [n0] [] [] (.s (.a (.c 4) (.n vA)) (.c 1)) (.a (.c 3) (.n vA)) rfl
theorem CV:n0+(n1+1)=n0+n1+1:=MU (nle [n0,n1] [] [] (.a vA (.a vB (.c 1))) (.a (.a vA vB) (.c 1)) rfl) (nle [n0,n1] [] [] (.a (.a vA vB) (.c 1)) (.a vA (.a vB (.c 1))) rfl)
theorem CU:n1=n0+n2+1→3+n0<4+n1:=nlt [n0,n1,n2] [] [(1,NF.qe vB (.a (.a vA vC) (.c 1)))] (.a (.c 3) vA) (.a (.c 4) vB) rfl
theorem wD:3+(n0:Int)+1=3+((n0:Int)+1):=by intros;subst_vars;exact Ob _ _
theorem CT:3+(n0:Int)+1<4+((n0:Int)+((n1:Int)+1)+1)-1:=zlt [n0,n1] [] [] (.a (.a (.c 3) (.n vA)) (.c 1)) (.s (.a (.c 4) (.a (.a (.n vA) (.a (.n vB) (.c 1))) (.c 1))) (.c 1)) rfl
theorem CS:n0≤100→10+n0≤16777216:=nle [n0] [] [(1,NF.le vA (.c 100))] (.a (.c 10) vA) (.c 16777216) rfl
theorem CR:n0≤100→n0≤16777175:=nle [n0] [] [(1,NF.le vA (.c 100))] vA (.c 16777175) rfl
theorem CQ:n0≤100→n0≤959:=nle [n0] [] [(1,NF.le vA (.c 100))] vA (.c 959) rfl
theorem CP:4+((n0:Int)+1)-1≤3+(n0:Int)+1:=zle [n0] [] [] (.s (.a (.c 4) (.a (.n vA) (.c 1))) (.c 1)) (.a (.a (.c 3) (.n vA)) (.c 1)) rfl
theorem CO:3+(n0+1)<4+(n0+(n1+1)+1):=nlt [n0,n1] [] [] (.a (.c 3) (.a vA (.c 1))) (.a (.c 4) (.a (.a vA (.a vB (.c 1))) (.c 1))) rfl
theorem CN:3+(n0:Int)+1+1=3+((n0:Int)+2):=by intros;subst_vars;exact Ob _ _
theorem CM:((3+n0:Nat):Int)<((4+(n0+(n1+1)):Nat):Int)-1:=zlt [n0,n1] [] [] (.n (.a (.c 3) vA)) (.s (.n (.a (.c 4) (.a vA (.a vB (.c 1))))) (.c 1)) rfl
theorem CL:((4+n0:Nat):Int)-1=((3+n0:Nat):Int):=MA (zle [n0] [] [] (.s (.n (.a (.c 4) vA)) (.c 1)) (.n (.a (.c 3) vA)) rfl) (zle [n0] [] [] (.n (.a (.c 3) vA)) (.s (.n (.a (.c 4) vA)) (.c 1)) rfl)
theorem wC:3+n0<4+n0:=nlt [n0] [] [] (.a (.c 3) vA) (.a (.c 4) vA) rfl
theorem nP:n0≤3→¬(3<n0):=vx [n0] [] [(1,NF.le vA (.c 3))] (.c 3) vA rfl
theorem CJ:n0≤n0+1:=nle [n0] [] [] vA (.a vA (.c 1)) rfl
theorem CI:n0≤1→n0≤1000:=fun h=>Mj h (by decide)
theorem CH:n1≤1→n0≤n1+1→n0≤1000:=nle [n0,n1] [] [(1,NF.le vB (.c 1)),(1,NF.le vA (.a vB (.c 1)))] vA (.c 1000) rfl
theorem CG:n0≤100→3+n0≤16777216:=nle [n0] [] [(1,NF.le vA (.c 100))] (.a (.c 3) vA) (.c 16777216) rfl
theorem CF:n0≤100→3+n0+1≤16777216:=nle [n0] [] [(1,NF.le vA (.c 100))] (.a (.a (.c 3) vA) (.c 1)) (.c 16777216) rfl
theorem CE:0≤i0→0<i0+1:=zlt [] [i0] [(1,ZF.le (.c 0) zA)] (.c 0) (.a zA (.c 1)) rfl
theorem CD:i0≤40→i0+1<1000:=zlt [] [i0] [(1,ZF.le zA (.c 40))] (.a zA (.c 1)) (.c 1000) rfl
theorem CC:0≤i1→i1<i0+1→i0+1≠0:=zF [] [i0,i1] [(1,ZF.le (.c 0) zB),(1,ZF.lt zB (.a zA (.c 1))),(1,ZF.eq (.a zA (.c 1)) (.c 0))] rfl
theorem wB:0≤i1→i1<i0+1→0<i0+1:=zlt [] [i0,i1] [(1,ZF.le (.c 0) zB),(1,ZF.lt zB (.a zA (.c 1)))] (.c 0) (.a zA (.c 1)) rfl
theorem CB:i1≤40→i0<i1+1→i0≤1000000:=zle [] [i0,i1] [(1,ZF.le zB (.c 40)),(1,ZF.lt zA (.a zB (.c 1)))] zA (.c 1000000) rfl
theorem CA:0≤i0→-1000000≤i0:=zle [] [i0] [(1,ZF.le (.c 0) zA)] (.g (.c 1000000)) zA rfl
theorem Cz:(0:Int)≤0:=zle [] [] [] (.c 0) (.c 0) rfl
theorem Cy:i1≤40→i0<i1+1→0+(i0-0).toNat≤40:=fun h h'=>by rw [Oi,Int.sub_zero];exact Int.toNat_le.mpr (Nd (Int.le_of_lt_add_one h') h)
theorem Cw:n0+n1≤40→n0≤40:=by intros;exact Mj (NW _ _) (by assumption)
theorem qN:n0≤30→n0<2 ^ 62:=nlt [n0] [] [(1,NF.le vA (.c 30))] vA (.c 4611686018427387904) rfl
theorem qM:0<n0→0<(n0:Int):=by intros;exact Nj.mpr (by assumption)
theorem Cv:n0≤30→(n0:Int)<1000:=zlt [n0] [] [(1,NF.le vA (.c 30))] (.n vA) (.c 1000) rfl
theorem wA:0≤i0→i0<(n0:Int)→0<(n0:Int):=zlt [n0] [i0] [(1,ZF.le (.c 0) zA),(1,ZF.lt zA (.n vA))] (.c 0) (.n vA) rfl
theorem Ct:0≤i0→i0<(n0:Int)→(n0:Int)≠0:=zF [n0] [i0] [(1,ZF.le (.c 0) zA),(1,ZF.lt zA (.n vA)),(1,ZF.eq (.n vA) (.c 0))] rfl
theorem Cs:0≤i0→0≤i0+1:=zle [] [i0] [(1,ZF.le (.c 0) zA)] (.c 0) (.a zA (.c 1)) rfl
theorem Cr:n0+(n1+1)≤40→n0+1+n1≤40:=nle [n0,n1] [] [(1,NF.le (.a vA (.a vB (.c 1))) (.c 40))] (.a (.a vA (.c 1)) vB) (.c 40) rfl
theorem Cq:n0+(n1+1)≤40→n0+1≤16777216:=nle [n0,n1] [] [(1,NF.le (.a vA (.a vB (.c 1))) (.c 40))] (.a vA (.c 1)) (.c 16777216) rfl
theorem Cp:¬(n1<n0)→n0≤n1:=nle [n0,n1] [] [(1,NF.nlt vB vA)] vA vB rfl
theorem Co:3≤n0→9≤n0+6:=nle [n0] [] [(1,NF.le (.c 3) vA)] (.c 9) (.a vA (.c 6)) rfl
theorem wz:i0<30→i0.toNat<30:=by intros;simp_all
theorem Cn:0≤i0→i0=((i0.toNat:Nat):Int):=fun h=>(Nk h).symm
theorem Cm:n0≤40→(n0:Int)≤40:=by intros;exact Nc.mpr (by assumption)
theorem Cl:n1<20→n2<20→n3<20→n0=n1∨n0=n2∨n0=n3→n0<20:=fun h1=>fun h2=>fun h3=>fun h4=>h4.elim (fun h5=>nlt [n0,n1,n2,n3] [] [(1,NF.lt vB (.c 20)),(1,NF.eq vA vB)] vA (.c 20) rfl h1 h5) (fun h5=>h5.elim (fun h6=>nlt [n0,n1,n2,n3] [] [(1,NF.lt vC (.c 20)),(1,NF.eq vA vC)] vA (.c 20) rfl h2 h6) (fun h6=>nlt [n0,n1,n2,n3] [] [(1,NF.lt vD (.c 20)),(1,NF.eq vA vD)] vA (.c 20) rfl h3 h6))
theorem Ck:n1<20→n0=n1→n0<20:=nlt [n0,n1] [] [(1,NF.lt vB (.c 20)),(1,NF.eq vA vB)] vA (.c 20) rfl
theorem Cj:n0≤30→n0≤100:=nle [n0] [] [(1,NF.le vA (.c 30))] vA (.c 100) rfl
theorem Ci:n0≤3→n0+1≤16777216:=nle [n0] [] [(1,NF.le vA (.c 3))] (.a vA (.c 1)) (.c 16777216) rfl
theorem Ch:n0≤20→n0<2 ^ 62:=nlt [n0] [] [(1,NF.le vA (.c 20))] vA (.c 4611686018427387904) rfl
theorem Cg:n0≤20→n0≤1048576:=nle [n0] [] [(1,NF.le vA (.c 20))] vA (.c 1048576) rfl
theorem Cf:n0≤20→n0+1≤16777216:=nle [n0] [] [(1,NF.le vA (.c 20))] (.a vA (.c 1)) (.c 16777216) rfl
theorem Ce:n2≤20→min (n0-n1) (n2-n1)≤30:=fun h=>Mj (NC _ _) (Mj (Oo _ _) (Mj h (by decide)))
theorem Cd:n0≤20→n0+1≤30:=nle [n0] [] [(1,NF.le vA (.c 20))] (.a vA (.c 1)) (.c 30) rfl
theorem Cc:n1≤2*n2→n0≤2→n0+n1≤2*(n2+1):=nle [n0,n1,n2] [] [(1,NF.le vB (.l 2 vC)),(1,NF.le vA (.c 2))] (.a vA vB) (.l 2 (.a vC (.c 1))) rfl
theorem Cb:n0≤2*n1→n1≤40→n0≤16777216:=nle [n0,n1] [] [(1,NF.le vA (.l 2 vB)),(2,NF.le vB (.c 40))] vA (.c 16777216) rfl
theorem Ca:-i0-1=-i0-1:=MA (zle [] [i0] [] (.s (.g zA) (.c 1)) (.s (.g zA) (.c 1)) rfl) (zle [] [i0] [] (.s (.g zA) (.c 1)) (.s (.g zA) (.c 1)) rfl)
theorem BZ:0≤i0 % 18446744073709551616:=by intros;lia
theorem BY:i0 % 18446744073709551616<18446744073709551616:=Rw _ (by decide)
theorem BX:i0 / 9223372036854775808=1→9223372036854775808≤i0:=fun h=>Int.mul_le_of_le_ediv (by decide) (OB h.symm)
theorem BW:i0<18446744073709551616→¬(i0 / 9223372036854775808=1)→¬(9223372036854775808≤i0):=fun h n k=>n (MA (Int.lt_add_one_iff.mp (Int.ediv_lt_of_lt_mul (by decide) h)) (Int.le_ediv_of_mul_le (by decide) k))
theorem Fk {m x:Int} (a:0≤x+m) (b:x<0):x % m=x+m:=by
 rw [←Int.add_emod_right];exact PP a (PC (Int.add_lt_add_right b m) (OB (Pe m)))
theorem BV:9223372036854775808≤i0 % 18446744073709551616→(i0 % 18446744073709551616-18446744073709551616=i0↔-9223372036854775808≤i0∧i0<9223372036854775808):=fun h=>
 have h1:i0 % 18446744073709551616<18446744073709551616:=Rw _ (by decide)
 ⟨fun e=>e▸⟨Int.sub_le_sub_right h 18446744073709551616,Oj (Int.sub_neg_of_lt h1) (by decide)⟩,fun ⟨a,b⟩=>(Sy i0 0).elim
  (fun c=>Fk (Nd (by decide) (Ov a 18446744073709551616)) c▸PD _ _)
  fun c=>absurd b (Oq.mpr (PP c (Oj b (by decide:(9223372036854775808:Int)<18446744073709551616))▸h))⟩
theorem BU:¬(9223372036854775808≤i0 % 18446744073709551616)→(i0 % 18446744073709551616=i0↔-9223372036854775808≤i0∧i0<9223372036854775808):=fun h=>
 have h0:0≤i0 % 18446744073709551616:=Int.emod_nonneg _ (by decide)
 ⟨fun e=>⟨Nd (by decide) (e▸h0),e▸Qq.mp h⟩,fun ⟨a,b⟩=>(Sy i0 0).elim
  (fun c=>absurd (Fk (Nd (by decide) (Ov a 18446744073709551616)) c▸Ov a 18446744073709551616) h)
  fun c=>PP c (Oj b (by decide))⟩
theorem BT:n0≤40→n0-1<300:=fun h=>MZ (Oo _ _) (MZ h (by decide))
theorem BR:0<n0→(n0:Int)-1=((n0-1:Nat):Int):=fun h=>(QE h).symm
theorem BQ:n0<n1→n0≤n1:=nle [n0,n1] [] [(1,NF.lt vA vB)] vA vB rfl
theorem BP:min n0 n1≤n1:=by intros;simp only [Nat.min_def,Int.min_def,Int.max_def,Nat.max_def];(repeat' split)<;>omega
theorem BO:0<(n0:Int)→n0=n0-1+1:=fun h=>(Rn (Nj.mp h)).symm
theorem BN:n0+1<n1→n0<n1:=nlt [n0,n1] [] [(1,NF.lt (.a vA (.c 1)) vB)] vA vB rfl
theorem BM:¬(0<(n0:Int))→n0=0:=fun h1=>MU (nle [n0] [] [(1,ZF.nlt (.c 0) (.n vA))] vA (.c 0) rfl h1) (nle [n0] [] [] (.c 0) vA rfl)
theorem BL:48≤n0∧n0≤57∨97≤n0∧n0≤122∨65≤n0∧n0≤90→n0≠32∧n0≠9∧n0≠10∧n0≠92∧n0≠34:=fun h=>have l:48≤_:=h.elim (·.1) (·.elim (fun h=>Mj (by decide) h.1) (fun h=>Mj (by decide) h.1));have g:∀k,k<48→_≠k:=fun k hk=>NV (Nw hk l);⟨g _ (by decide),g _ (by decide),g _ (by decide),h.elim (fun h=>Nh (MZ h.2 (by decide))) (·.elim (fun h=>NV (Nw (by decide) h.1)) (fun h=>Nh (MZ h.2 (by decide)))),g _ (by decide)⟩
theorem BK:n0=32∨n0=9→¬(n0=92):=fun h1=>h1.elim (fun h2=>fun h3=>zF [n0] [] [(1,NF.eq vA (.c 32)),(1,NF.qe vA (.c 92))] rfl h2 h3) (fun h2=>fun h4=>zF [n0] [] [(1,NF.eq vA (.c 9)),(1,NF.qe vA (.c 92))] rfl h2 h4)
theorem BJ:n0=32∨n0=9→¬(n0=34):=fun h1=>h1.elim (fun h2=>fun h3=>zF [n0] [] [(1,NF.eq vA (.c 32)),(1,NF.qe vA (.c 34))] rfl h2 h3) (fun h2=>fun h4=>zF [n0] [] [(1,NF.eq vA (.c 9)),(1,NF.qe vA (.c 34))] rfl h2 h4)
theorem BH:(n0:Int)+((n1:Int)+1)≤(n0:Int)+1+(n1:Int):=zle [n0,n1] [] [] (.a (.n vA) (.a (.n vB) (.c 1))) (.a (.a (.n vA) (.c 1)) (.n vB)) rfl
theorem BG:(n0:Int)+1+(n1:Int)=(n0:Int)+((n1:Int)+1):=MA (zle [n0,n1] [] [] (.a (.a (.n vA) (.c 1)) (.n vB)) (.a (.n vA) (.a (.n vB) (.c 1))) rfl) (zle [n0,n1] [] [] (.a (.n vA) (.a (.n vB) (.c 1))) (.a (.a (.n vA) (.c 1)) (.n vB)) rfl)
theorem BF:0≤i0→¬(i1<0)→0≤i0*16+i1:=zle [] [i0,i1] [(16,ZF.le (.c 0) zA),(1,ZF.nlt zB (.c 0))] (.c 0) (.a (.r zA (16)) zB) rfl
theorem BE:i0≤69631→¬(15<i1)→i0*16+i1≤1114111:=zle [] [i0,i1] [(16,ZF.le zA (.c 69631)),(1,ZF.nlt (.c 15) zB)] (.a (.r zA (16)) zB) (.c 1114111) rfl
theorem wy:¬(i0<0)→0≤i0:=zle [] [i0] [(1,ZF.nlt zA (.c 0))] (.c 0) zA rfl
theorem BD:i0+1+((n0:Int)+1)=i0+1+(n0:Int)+1:=MA (zle [n0] [i0] [] (.a (.a zA (.c 1)) (.a (.n vA) (.c 1))) (.a (.a (.a zA (.c 1)) (.n vA)) (.c 1)) rfl) (zle [n0] [i0] [] (.a (.a (.a zA (.c 1)) (.n vA)) (.c 1)) (.a (.a zA (.c 1)) (.a (.n vA) (.c 1))) rfl)
theorem BC:i0≤1000→i0≤1114111:=zle [] [i0] [(1,ZF.le zA (.c 1000))] zA (.c 1114111) rfl
theorem BB:0≤i0→¬(i1<0)→0≤i0*8+i1:=zle [] [i0,i1] [(8,ZF.le (.c 0) zA),(1,ZF.nlt zB (.c 0))] (.c 0) (.a (.r zA (8)) zB) rfl
theorem BA:i0<32→¬(7<i1)→i0*8+i1≤1000:=zle [] [i0,i1] [(8,ZF.lt zA (.c 32)),(1,ZF.nlt (.c 7) zB)] (.a (.r zA (8)) zB) (.c 1000) rfl
theorem Bz:i0+((n0:Int)+1)=i0+(n0:Int)+1:=MA (zle [n0] [i0] [] (.a zA (.a (.n vA) (.c 1))) (.a (.a zA (.n vA)) (.c 1)) rfl) (zle [n0] [i0] [] (.a (.a zA (.n vA)) (.c 1)) (.a zA (.a (.n vA) (.c 1))) rfl)
theorem By:n1≤40→n1=n2+(n0+2)→n0<300:=nlt [n0,n1,n2] [] [(1,NF.le vB (.c 40)),(1,NF.qe vB (.a vC (.a vA (.c 2))))] vA (.c 300) rfl
theorem Bx:(n0:Int)+((n1:Int)+1+1)=(n0:Int)+1+1+(n1:Int):=MA (zle [n0,n1] [] [] (.a (.n vA) (.a (.a (.n vB) (.c 1)) (.c 1))) (.a (.a (.a (.n vA) (.c 1)) (.c 1)) (.n vB)) rfl) (zle [n0,n1] [] [] (.a (.a (.a (.n vA) (.c 1)) (.c 1)) (.n vB)) (.a (.n vA) (.a (.a (.n vB) (.c 1)) (.c 1))) rfl)
theorem Bw:n0≤n1+n0+1:=nle [n0,n1] [] [] vA (.a (.a vB vA) (.c 1)) rfl
theorem Bv:n0≤100→16+n0≤16777216:=nle [n0] [] [(1,NF.le vA (.c 100))] (.a (.c 16) vA) (.c 16777216) rfl
theorem Bu:n0≤100→n0≤16777186:=nle [n0] [] [(1,NF.le vA (.c 100))] vA (.c 16777186) rfl
theorem Bt:n0≤100→n2≤40→n1≤n2→n0+30+n1≤16777216:=nle [n0,n1,n2] [] [(1,NF.le vA (.c 100)),(1,NF.le vC (.c 40)),(1,NF.le vB vC)] (.a (.a vA (.c 30)) vB) (.c 16777216) rfl
theorem Bs:n0≤100→n2≤40→n1≤n2→n0+(n1+14)≤16777182:=nle [n0,n1,n2] [] [(1,NF.le vA (.c 100)),(1,NF.le vC (.c 40)),(1,NF.le vB vC)] (.a vA (.a vB (.c 14))) (.c 16777182) rfl
theorem Bq:i0=(n2:Int)→n1=n2+n0→n0=((n1:Int)-i0).toNat:=by intros;subst_vars;rw [QD,Nat.add_sub_cancel_left]
theorem Bp:i1<(n0:Int)→i0=i1+1→((n0:Int)-i0).toNat<((n0:Int)-i1).toNat:=fun h e=>(Ru (RH h)).mpr (Ri (e▸Rb _) _)
theorem Bo:i0<(n0:Int)→((n0:Int)-(i0+1+1)).toNat<((n0:Int)-i0).toNat:=fun h=>(Ru (RH h)).mpr (Ri (Oj (Rb _) (Rb _)) _)
theorem Bn:(n0:Int)≤(n0:Int)+1:=zle [n0] [] [] (.n vA) (.a (.n vA) (.c 1)) rfl
theorem Bm:(n0:Int)-1=0→n0=1:=fun h1=>MU (nle [n0] [] [(1,ZF.eq (.s (.n vA) (.c 1)) (.c 0))] vA (.c 1) rfl h1) (nle [n0] [] [(1,ZF.qe (.s (.n vA) (.c 1)) (.c 0))] (.c 1) vA rfl h1)
theorem Bk:¬((n0:Int)-1=0)→¬(n0=1):=by intros;lia
theorem Bj:1≤n0→(n0:Int)-1=((n0-1:Nat):Int):=fun h=>(QE h).symm
theorem Bi:1≤n0→¬((n0:Int)-1=0)→1≤n0-1:=fun h e=>Ro fun z=>e (by refine (MU (QR z) h)▸?_;rfl)
theorem Bh:n1≤n2→n0≤1→n0+n1≤n2+1:=nle [n0,n1,n2] [] [(1,NF.le vB vC),(1,NF.le vA (.c 1))] (.a vA vB) (.a vC (.c 1)) rfl
theorem Bg:n1≤100→n0≤n1→n0+n1≤1048576:=nle [n0,n1] [] [(2,NF.le vB (.c 100)),(1,NF.le vA vB)] (.a vA vB) (.c 1048576) rfl
theorem wx:n1≤40→n1=n2+n0→n0≤100:=nle [n0,n1,n2] [] [(1,NF.le vB (.c 40)),(1,NF.qe vB (.a vC vA))] vA (.c 100) rfl
theorem nO:n0=n1→n1+(n2+1)≤100→n0<1048576:=nlt [n0,n1,n2] [] [(1,NF.eq vA vB),(1,NF.le (.a vB (.a vC (.c 1))) (.c 100))] vA (.c 1048576) rfl
theorem ww:n0+(n2+1)≤100→n1≤n2→n0+1+n1≤100:=nle [n0,n1,n2] [] [(1,NF.le (.a vA (.a vC (.c 1))) (.c 100)),(1,NF.le vB vC)] (.a (.a vA (.c 1)) vB) (.c 100) rfl
theorem wv:n0+n1≤100→n0≤100:=by intros;exact Mj (NW _ _) (by assumption)
theorem Bf:(n1:Int)<(n0:Int)→¬((n0:Int)≤(n1:Int)):=Av [n0,n1] [] [(1,ZF.lt (.n vB) (.n vA))] (.n vA) (.n vB) rfl
theorem Be:¬((n1:Int)<(n0:Int))→(n0:Int)≤(n1:Int):=zle [n0,n1] [] [(1,ZF.nlt (.n vB) (.n vA))] (.n vA) (.n vB) rfl
theorem wu:n2<n1+1→n3<n2→n0≤n3→n0<n1:=nlt [n0,n1,n2,n3] [] [(1,NF.lt vC (.a vB (.c 1))),(1,NF.lt vD vC),(1,NF.le vA vD)] vA vB rfl
theorem Bc:n2<n1→n0≤n2→n0<n1:=nlt [n0,n1,n2] [] [(1,NF.lt vC vB),(1,NF.le vA vC)] vA vB rfl
theorem wt:0<i0→i0≠0:=zF [] [i0] [(1,ZF.lt (.c 0) zA),(1,ZF.eq zA (.c 0))] rfl
theorem Bb:0<i0→i0<1000→i0.natAbs<1073741824:=fun a b=>Nj.mp ((Int.natAbs_of_nonneg (QM a)).symm▸Oj b (by decide))
theorem Ba:n0≤10→n0<2 ^ 62:=nlt [n0] [] [(1,NF.le vA (.c 10))] vA (.c 4611686018427387904) rfl
theorem AZ:n0≤10→(n0:Int)+1≤1000000:=zle [n0] [] [(1,NF.le vA (.c 10))] (.a (.n vA) (.c 1)) (.c 1000000) rfl
theorem AY:-1000000≤(n0:Int)+1:=zle [n0] [] [] (.g (.c 1000000)) (.a (.n vA) (.c 1)) rfl
theorem AX:((n0:Int)+1-1).toNat=n0:=by intros;simp_all
theorem AW:n0≤10→n0≤1000:=nle [n0] [] [(1,NF.le vA (.c 10))] vA (.c 1000) rfl
theorem AV:n0≤10→n0≤1048576:=nle [n0] [] [(1,NF.le vA (.c 10))] vA (.c 1048576) rfl
theorem AU:1+(n0:Int)=((1+n0:Nat):Int):=by intros;subst_vars;exact Ob _ _
theorem Ks:n1≤10→n2+n0≤100→n0+n1≤16777216:=nle [n0,n1,n2] [] [(1,NF.le vB (.c 10)),(1,NF.le (.a vC vA) (.c 100))] (.a vA vB) (.c 16777216) rfl
theorem Kr:n1≤10→n0+n2≤100→n0+n1≤16777216:=nle [n0,n1,n2] [] [(1,NF.le vB (.c 10)),(1,NF.le (.a vA vC) (.c 100))] (.a vA vB) (.c 16777216) rfl
theorem AT:9≤n0→n0=n0-9+9:=by intros;simp_all
theorem AS:n0≤1000→-2 ^ 63≤(n0:Int):=fun h1=>zle [n0] [] [] (.g (.c (9223372036854775808))) (.n vA) rfl
theorem AR:n0≤1000→(n0:Int)<2 ^ 63:=zlt [n0] [] [(1,NF.le vA (.c 1000))] (.n vA) (.c (9223372036854775808)) rfl
theorem AQ:n0<4∨7<n0→¬((n0:Int)<4)→7<(n0:Int):=fun h1=>fun h2=>h1.elim (fun h3=>zlt [n0] [] [(4,NF.lt vA (.c 4)),(5,ZF.nlt (.n vA) (.c 4))] (.c 7) (.n vA) rfl h3 h2) (fun h3=>zlt [n0] [] [(1,NF.lt (.c 7) vA)] (.c 7) (.n vA) rfl h3)
theorem AP:n0≤1000→1048576+n0+1000≤134217728:=nle [n0] [] [(1,NF.le vA (.c 1000))] (.a (.a (.c 1048576) vA) (.c 1000)) (.c 134217728) rfl
theorem AN:n0<14→(n0:Int)<2 ^ 62:=zlt [n0] [] [(1,NF.lt vA (.c 14))] (.n vA) (.c (4611686018427387904)) rfl
theorem AM:n0+(n1+1)=14→n0<14:=nlt [n0,n1] [] [(1,NF.eq (.a vA (.a vB (.c 1))) (.c 14))] vA (.c 14) rfl
theorem AL:n0+(n1+1)=14→n0+1+n1=14:=fun h1=>MU (nle [n0,n1] [] [(1,NF.eq (.a vA (.a vB (.c 1))) (.c 14))] (.a (.a vA (.c 1)) vB) (.c 14) rfl h1) (nle [n0,n1] [] [(1,NF.qe (.a vA (.a vB (.c 1))) (.c 14))] (.c 14) (.a (.a vA (.c 1)) vB) rfl h1)
theorem AK:n0≤100→n0≤1000:=nle [n0] [] [(1,NF.le vA (.c 100))] vA (.c 1000) rfl
theorem AJ:n0≤100→2+n0*1≤16777216:=nle [n0] [] [(1,NF.le vA (.c 100))] (.a (.c 2) (.r vA 1)) (.c 16777216) rfl
theorem AH:n0≤100→2+n0*1≤1000:=nle [n0] [] [(1,NF.le vA (.c 100))] (.a (.c 2) (.r vA 1)) (.c 1000) rfl
theorem AG:n0+n1=n2→n3+n1=n2→n3=n0:=fun h1=>fun h2=>MU (nle [n0,n1,n2,n3] [] [(1,NF.qe (.a vA vB) vC),(1,NF.eq (.a vD vB) vC)] vD vA rfl h1 h2) (nle [n0,n1,n2,n3] [] [(1,NF.eq (.a vA vB) vC),(1,NF.qe (.a vD vB) vC)] vA vD rfl h1 h2)
theorem AI (h:n0<2∨5<n0):2+n0*1<4∨7<2+n0*1:=h.elim (fun h=>.inl (nlt [n0] [] [(1,NF.lt vA (.c 2))] (.a (.c 2) (.r vA 1)) (.c 4) rfl h)) fun h=>.inr (nlt [n0] [] [(1,NF.lt (.c 5) vA)] (.c 7) (.a (.c 2) (.r vA 1)) rfl h)
end
set_option genCtorIdx true in
inductive PV where
 | none|bool (b:Bool)|int (i:Int)|str (s:LA)|tup (l:List PV)|lst (l:List PV)|ref (a:Addr)|range (a b:Int)
abbrev LD:=Option PV
abbrev LB:=List PV
abbrev Hp:=Addr→Obj→Prop
noncomputable abbrev txt (s:LA):Str:=⟨s.toArray⟩
abbrev Led:=List (Addr×Obj)
def KG (o:Obj):Prop:=o.cls=.type "tuple"∨o.cls=.type "list"∨o.cls=.type "range"
inductive AO where
 | list (l:LB)
 | raw (o:Obj)
 | obj (P:Hp→Addr→Led→Prop)
inductive SeqR (H:Hp) (ty:String) (v:Value) (P:LO→Prop):Prop
 | mk (a:Addr) (vs:LO) (n:Nat) (e:v=.ref a) (h:H a { cls:=.type ty,data:=.seq vs.toArray n }) (r:P vs)
inductive ConsR (vs:LO) (P:Value→Prop) (Q:LO→Prop):Prop
 | mk (v:Value) (r:LO) (e:vs=v::r) (h:P v) (t:Q r)
inductive RngR (H:Hp) (a b:Int) (v:Value):Prop
 | mk (r:Addr) (t u w:Tok) (e:v=.ref r) (h:H r { cls:=.type "range",data:=.fields #[.int a t,.int b u,.int 1 w] })
mutual
def Rep (H:Hp):Value→PV→Prop
 | v,.none=>v=.none
 | v,.bool b=>v=.bool b
 | v,.int i=>∃t,v=.int i t
 | v,.str x=>∃t,v=.str (txt x) t
 | v,.tup l=>SeqR H "tuple" v fun vs=>RepL H vs l
 | v,.lst l=>SeqR H "list" v fun vs=>RepL H vs l
 | v,.ref a=>v=.ref a
 | v,.range a b=>RngR H a b v
def RepL (H:Hp):LO→LB→Prop
 | vs,[]=>vs=[]
 | vs,p::ps=>ConsR vs (fun v=>Rep H v p) fun r=>RepL H r ps
end
mutual
theorem Rep.monoT {H H':Hp} (k:∀a o,KG o→H a o→H' a o):∀{p:PV} {v:Value},Rep H v p→Rep H' v p
 | .none,_,h|.bool _,_,h|.int _,_,h|.str _,_,h|.ref _,_,h=>h
 | .tup _,_,⟨a,vs,n,e,ho,hl⟩=>⟨a,vs,n,e,k _ _ (.inl rfl) ho,RepL.monoT k hl⟩
 | .lst _,_,⟨a,vs,n,e,ho,hl⟩=>⟨a,vs,n,e,k _ _ (.inr (.inl rfl)) ho,RepL.monoT k hl⟩
 | .range _ _,_,⟨r,t,u,w,e,ho⟩=>⟨r,t,u,w,e,k _ _ (.inr (.inr rfl)) ho⟩
theorem RepL.monoT {H H':Hp} (k:∀a o,KG o→H a o→H' a o):∀{ps:LB} {vs:LO},RepL H vs ps→RepL H' vs ps
 | [],_,h=>h
 | _::_,_,⟨v,r,e,h1,h2⟩=>⟨v,r,e,Rep.monoT k h1,RepL.monoT k h2⟩
end
theorem Rep.mono {H H':Hp} (k:∀a o,H a o→H' a o) {p:PV} {v:Value} (h:Rep H v p):Rep H' v p:=h.monoT fun a o _=>k a o
theorem RepL.mono {H H':Hp} (k:∀a o,H a o→H' a o) {ps:LB} {vs:LO} (h:RepL H vs ps):RepL H' vs ps:=h.monoT fun a o _=>k a o
theorem RepL.length {H:Hp}:∀{ps:LB} {vs:LO},RepL H vs ps→vs.length=ps.length
 | [],_,h=>by subst h;rfl
 | _::_,_,⟨_,_,e,_,h2⟩=>by refine e▸?_;simp [RepL.length h2]
abbrev Own:=List (Addr×AO)
abbrev LH:=PV→Own→Prop
structure St where
 vars:List (Str×LD)
 own:Own
abbrev LE:=PV→St→Prop
abbrev aS:=List (LA×LA)
noncomputable def dt (b:aS) (k v:LA):aS:=if b.any (·.1==k) then b.map (fun p=>if p.1==k then (k,v) else p) else b++[(k,v)]
structure Gx where
 prog:Program
 w:World
 K:Frag
 p:Program
 loose:LP
 mg:LN
 mb:LN
 base:Heap
 cR:Addr
 host:aS→AO
 os:OsState
structure Cx where
 L:Addr
 cn:Str
 cs:Scope
 a:Addr
 ccd:Value
 outer:List Env
 frs:Led
 cells:List (Str×Addr)
noncomputable abbrev Cx.env (c:Cx):Env:={ envOf c.cn c.cs c.L c.a c.ccd with cells:=c.cells }
noncomputable def Hq (g:Gx) (frz:Led):Hp:=fun a o=>(a,o)∈frz∨g.base.get? a=some o
theorem Hq.mono {g:Gx} {f f':Led} (k:∀p∈f,p∈f'):∀a o,Hq g f a o→Hq g f' a o:=fun _ _ h=>h.imp (k _) id
inductive ListR (H:Hp) (a:Addr) (l:LB) (es:Led):Prop
 | mk (vs:LO) (n:Nat) (e:es=[(a,{ cls:=.type "list",data:=.seq vs.toArray n })]) (r:RepL H vs l)
def AORep (H:Hp) (a:Addr):AO→Led→Prop
 | .list l,es=>ListR H a l es
 | .raw o,es=>es=[(a,o)]
 | .obj P,es=>∀H':Hp,(∀a o,KG o→H a o→H' a o)→P H' a es
theorem AORep.mono {H H':Hp} (k:∀a o,H a o→H' a o) {a:Addr}:∀{o:AO} {es:Led},AORep H a o es→AORep H' a o es
 | .list _,_,⟨vs,n,e,h⟩=>⟨vs,n,e,h.mono k⟩
 | .raw _,_,h=>h
 | .obj _,_,h=>fun H'' k'=>h H'' fun a o hs hh=>k' a o hs (k a o hh)
inductive OwnC (es:Led) (P Q:Led→Prop):Prop
 | mk (e1 e2:Led) (e:es=e1++e2) (h:P e1) (t:Q e2)
def OwnR (H:Hp):Own→Led→Prop
 | [],es=>es=[]
 | (a,o)::r,es=>OwnC es (AORep H a o) (OwnR H r)
theorem OwnR.app {H:Hp}:∀{o₁ o₂:Own} {e₁ e₂:Led},OwnR H o₁ e₁→OwnR H o₂ e₂→OwnR H (o₁++o₂) (e₁++e₂):=by
 intro o₁
 induction o₁ with
 | nil=>intro _ _ _ h h';subst h;exact h'
 | cons p o ih=>
  intro _ _ _ h h';obtain ⟨e1,e2,rfl,h1,h2⟩:=h;exact ⟨e1,e2++_,by rw [Mb],h1,ih h2 h'⟩
theorem OwnR.mono {H H':Hp} (k:∀a o,H a o→H' a o):∀{ow:Own} {es:Led},OwnR H ow es→OwnR H' ow es
 | [],_,h=>h
 | _::_,_,⟨e1,e2,e,h1,h2⟩=>⟨e1,e2,e,h1.mono k,h2.mono k⟩
abbrev aM:=List (Str×LD)
def VarsR (H:Hp) (m:LN) (vs:aM):Prop:=∀x pv,(x,some pv)∈vs→∃v,m x=some v∧Rep H v pv
theorem VarsR.mono {H H':Hp} {m:LN} {vs:aM} (k:∀a o,H a o→H' a o) (h:VarsR H m vs):VarsR H' m vs:=
 fun x pv q=>by obtain ⟨v,a,b⟩:=h x pv q;exact ⟨v,a,b.mono k⟩
inductive Look (x:Str) (pv:PV):aM→Prop
 | here {r:aM}:Look x pv ((x,some pv)::r)
 | there {e:Str×LD} {r:aM}:Look x pv r→Look x pv (e::r)
theorem Look.mem {x:Str} {pv:PV} {vs:aM} (h:Look x pv vs):(x,some pv)∈vs:=by
 induction h with
 | here=>exact .head _
 | there _ ih=>exact .tail _ ih
inductive Put (x:Str) (pv:PV):aM→aM→Prop
 | here {o:LD} {r:aM}:Put x pv ((x,o)::r) ((x,some pv)::r)
 | there {e:Str×LD} {r r':aM}:Put x pv r r'→Put x pv (e::r) (e::r')
theorem Put.keys {x:Str} {pv:PV} {vs vs':aM} (h:Put x pv vs vs'):vs'.map (·.1)=vs.map (·.1):=by
 induction h with
 | here=>rfl
 | there _ ih=>simp [ih]
theorem Put.key {x:Str} {pv:PV} {vs vs':aM} (h:Put x pv vs vs'):x∈vs.map (·.1):=by
 induction h with
 | here=>exact .head _
 | there _ ih=>exact .tail _ ih
theorem Put.old {x:Str} {pv:PV} {vs vs':aM} (h:Put x pv vs vs') (nd:(vs.map (·.1)).Nodup):∀y o,(y,o)∈vs'→(y=x∧o=some pv)∨(y≠x∧(y,o)∈vs):=by
 induction h with
 | here=>
  intro y o hy;rcases Me.mp hy with e|hy2
  ·cases e;exact .inl ⟨rfl,rfl⟩
  ·refine .inr ⟨?_,.tail _ hy2⟩;intro e;subst e;exact (Mt.mp nd).1 (Ma.mpr (v12 _ hy2 rfl))
 | @there e r r' k ih=>
  intro y o hy;rcases Me.mp hy with q|hy
  ·refine .inr ⟨?_,by refine q▸?_;exact .head _⟩;rintro rfl;refine (Mt.mp nd).1 ?_;have:e.1=y:=by exact q▸rfl
   show e.1∈_;refine this▸?_;exact k.key
  ·exact (ih (Mt.mp nd).2 y o hy).imp id fun z=>⟨z.1,.tail _ z.2⟩
structure Core (g:Gx) (c:Cx) (st:St) (frz:Led) (h:Heap) (m:LN) (own frs:Led):Prop where
 F:Fr g.base c.L h m
 N:News g.base c.L h (own++(frz++frs))
 nd:((own++(frz++frs)).map (·.1)).Nodup
 SU:SameUp c.frs frs
 O:OwnR (Hq g frz) st.own own
 V:VarsR (Hq g frz) m st.vars
inductive CoreX (g:Gx) (c:Cx) (st:St) (frz:Led) (h:Heap):Prop
 | mk (m:LN) (own frs:Led) (C:Core g c st frz h m own frs)
abbrev Aq (g:Gx) (c:Cx) (st:St) (s:Shared):Prop:=(∀x∈st.vars.map (·.1),(x,NameKind.local)∈c.cs.names)∧s.os=g.os∧s.gens=#[]
structure S (g:Gx) (c:Cx) (st:St) (frz:Led) (s:Shared):Prop where
 ex:CoreX g c st frz s.heap
 nd:(st.vars.map (·.1)).Nodup
 loc:Aq g c st s
structure Ok (g:Gx) (c:Cx) (A:Around) (d:Nat):Prop where
 frames:A.frames=some (c.env::c.outer)
 fr:Frs c.outer c.frs
 kind:c.cs.kind=.function
 nd:(c.cs.names.map (·.1)).Nodup
 dbg:∀x∈c.cs.names.map (·.1),(x==("__debug__" : Str))=false
 room:A.depth+d<recursionLimit
 units:A.units+4*d+8<cLine
 hand:A.handled=none
 guards:A.guards=some []
structure GOk (g:Gx):Prop where
 X:g.K.In g.base
 T:TopRead g.p g.loose g.mg g.mb g.base
theorem S.toks {g:Gx} {c:Cx} {st:St} {frz:Led} {s:Shared} (x:S g c st frz s) (n:Nat):S g c st frz { s with toks:=n }:=⟨x.ex,x.nd,x.loc⟩
theorem S.push {g:Gx} {c:Cx} {st:St} {frz:Led} {s:Shared} (x:S g c st frz s) (o:Obj) (hfree:o.isFreed=false) :
 S g c st ((s.heap.objs.size,o)::frz) { s with heap:=s.heap.push o }:=by
 obtain ⟨⟨m,own,frs,⟨F,N,nd,SU,O,V⟩⟩,nn,lc⟩:=x;have km:∀a ob,Hq g frz a ob→Hq g ((s.heap.objs.size,o)::frz) a ob:=Hq.mono fun p hp=>.tail _ hp;refine ⟨⟨m,own,frs,⟨F.push o,fun p hp=>(N.push F o hfree) p ?_,?_,SU,O.mono km,V.mono km⟩⟩,nn,lc⟩
 ·refine Mx (Mi.mp hp) (fun hp=>?_) fun hp=>?_
  ·exact .tail _ (Mc _ hp)
  ·refine Mx (Me.mp hp) (fun hz=>?_) fun hp=>?_
   ·obtain rfl:=hz;exact .head _
   ·exact .tail _ (LZ _ hp)
 ·have hn:s.heap.objs.size∉(own++(frz++frs)).map (·.1):=fun hm=>by
   refine u12 (Ma.mp hm) ?_;rintro p hp e;have:=MI (N p hp).1;rw [e] at this;exact absurd this (NZ _)
  have:((own++((s.heap.objs.size,o)::frz++frs)).map (·.1)).Perm (s.heap.objs.size::(own++(frz++frs)).map (·.1)):=by
   simp only [Mz,Mu,MD];exact Nv
  exact (this.nodup_iff).mpr (Mt.mpr ⟨hn,nd⟩)
theorem S.get {g:Gx} {c:Cx} {st:St} {frz:Led} {s:Shared} (x:S g c st frz s) {a:Addr} {o:Obj} (h:Hq g frz a o):s.heap.get? a=some o:=by
 obtain ⟨⟨m,own,frs,⟨F,N,_⟩⟩,_,_⟩:=x;refine Mx h (fun h=>?_) fun h=>?_
 ·exact (N _ (LZ _ (Mc _ h))).1
 ·exact F.keep _ _ h
theorem S.keep {g:Gx} {c:Cx} {st:St} {frz:Led} {s:Shared} (x:S g c st frz s):∀b o,g.base.get? b=some o→s.heap.get? b=some o:=by
 obtain ⟨⟨m,own,frs,⟨F,_⟩⟩,_,_⟩:=x;exact F.keep
structure XC where
 code:Int
 value:LA
 ec:PV
abbrev LI:=XC→Own→Prop
abbrev LG:=XC→St→Prop
inductive XDict (H:Hp) (od:Obj) (x:XC):Prop
 | mk (es:Array DictEntry) (ep:Nat) (d:od.data=.dict es ep) (k:StrKeys es) (c:∃t,nsFind es "code" = some (.int x.code t)) (w:∃t,nsFind es "value" = some (.str (txt x.value) t)) (v:Value) (e:nsFind es "errorcode" = some v) (r:Rep H v x.ec)
theorem XDict.mono {H H':Hp} (k:∀a o,H a o→H' a o) {od:Obj} {x:XC} (h:XDict H od x):XDict H' od x:=
 by obtain ⟨es,ep,a,b,c,d,v,e,f⟩:=h;exact ⟨es,ep,a,b,c,d,v,e,f.mono k⟩
inductive TrI (g:Gx) (c:Cx) (led:Led) (h:Heap) (e:Addr) (vs:Array Value) (fl:Value):Prop
 | mk (T:Addr) (oT:Obj) (ts:Array Value) (h1:vs[1]? = some (.ref T)) (h2:T≠e) (h3:h.get? T=some oT) (h4:oT.data=.fields ts) (h5:ts[3]? = some fl) (h6:g.base.get? T=none) (h7:T≠c.L) (h8:∀p∈led,p.1≠T)
def Tr (g:Gx) (c:Cx) (led:Led) (h:Heap) (e:Addr) (vs:Array Value):Option Value→Prop
 | none=>vs[1]? = some .none
 | some fl=>TrI g c led h e vs fl
inductive FlOb (g:Gx) (c:Cx) (led frz:Led) (h:Heap) (e:Addr) (x:XC) (fl:Option Value):Prop
 | mk (oe:Obj) (vs:Array Value) (dd:Addr) (od:Obj) (h1:h.get? e=some oe) (h2:oe.cls=.ref g.cR) (h3:oe.dict=some dd) (h4:oe.data=.fields vs) (h5:vs.size=6) (h6:Tr g c led h e vs fl) (h7:(dd,od)∈frz) (h8:XDict (Hq g frz) od x)
structure Fl (g:Gx) (c:Cx) (led frz:Led) (h:Heap) (e:Addr) (x:XC) (fl:Option Value):Prop where
 ob:FlOb g c led frz h e x fl
 b:g.base.get? e=none
 l:e≠c.L
 led:∀p∈led,p.1≠e
inductive CoreL (g:Gx) (c:Cx) (st:St) (frz:Led) (h:Heap) (e:Addr) (x:XC) (fl:Option Value):Prop
 | mk (m:LN) (own frs:Led) (C:Core g c st frz h m own frs) (L:Fl g c (own++(frz++frs)) frz h e x fl)
structure SX (g:Gx) (c:Cx) (st:St) (frz:Led) (s:Shared) (e:Addr) (x:XC) (fl:Option Value):Prop where
 ex:CoreL g c st frz s.heap e x fl
 nd:(st.vars.map (·.1)).Nodup
 loc:Aq g c st s
theorem SX.S {g:Gx} {c:Cx} {st:St} {frz:Led} {s:Shared} {e:Addr} {x:XC} {fl:Option Value} (h:SX g c st frz s e x fl):S g c st frz s:=
 by obtain ⟨⟨m,own,frs,a,_⟩,b,c⟩:=h;exact ⟨⟨m,own,frs,a⟩,b,c⟩
inductive Rz (g:Gx) (c:Cx) (R:LG) (frz:Led) (v:Value) (s':Shared):Prop
 | mk (e:Addr) (x:XC) (st':St) (frz':Led) (fl:Option Value) (h1:v=.ref e) (h2:∀p∈frz,p∈frz') (h3:SX g c st' frz' s' e x fl) (h4:fl=none∨fl=some .none∨fl=some (rawInt c.L)) (h5:R x st')
inductive Got (g:Gx) (c:Cx) (frz:Led) (Q:LE) (v:Value) (s':Shared):Prop
 | mk (pv:PV) (st':St) (frz':Led) (a:∀p∈frz,p∈frz') (X:S g c st' frz' s') (r:Rep (Hq g frz') v pv) (q:Q pv st')
inductive GotT (g:Gx) (c:Cx) (frz:Led) (Q:Bool→St→Prop) (b:Bool) (s':Shared):Prop
 | mk (st':St) (frz':Led) (a:∀p∈frz,p∈frz') (X:S g c st' frz' s') (q:Q b st')
inductive GotL (g:Gx) (c:Cx) (frz:Led) (Q:LB→St→Prop) (vs:LO) (s':Shared):Prop
 | mk (ps:LB) (st':St) (frz':Led) (a:∀p∈frz,p∈frz') (X:S g c st' frz' s') (r:RepL (Hq g frz') vs ps) (q:Q ps st')
def Ev (g:Gx) (c:Cx) (A:Around) (t:Sem Value) (st:St) (Q:LE) (R:LG):Prop:=
 ∀frz s,S g c st frz s→wpAny (model g.prog g.w) A t (Got g c frz Q) (Rz g c R frz) s
def Tst (g:Gx) (c:Cx) (A:Around) (t:Sem Bool) (st:St) (Q:Bool→St→Prop) (R:LG):Prop:=
 ∀frz s,S g c st frz s→wpAny (model g.prog g.w) A t (GotT g c frz Q) (Rz g c R frz) s
def Evs (g:Gx) (c:Cx) (A:Around) (t:Sem (LO)) (st:St) (Q:LB→St→Prop) (R:LG):Prop:=
 ∀frz s,S g c st frz s→wpAny (model g.prog g.w) A t (GotL g c frz Q) (Rz g c R frz) s
inductive AF where
 | next|brk|cont|ret (v:PV)
abbrev LK:=AF→St→Prop
def GP (H:Hp):Flow→AF→Prop
 | .next,.next|.brk,.brk|.cont,.cont=>True
 | .ret v,.ret p=>Rep H v p
 | _,_=>False
inductive GotF (g:Gx) (c:Cx) (frz:Led) (Q:LK) (f:Flow) (s':Shared):Prop
 | mk (af:AF) (st':St) (frz':Led) (a:∀p∈frz,p∈frz') (X:S g c st' frz' s') (r:GP (Hq g frz') f af) (q:Q af st')
def Ex (g:Gx) (c:Cx) (A:Around) (t:Sem Flow) (st:St) (Q:LK) (R:LG):Prop:=
 ∀frz s,S g c st frz s→wpAny (model g.prog g.w) A t (GotF g c frz Q) (Rz g c R frz) s
theorem Rz.mono {g:Gx} {c:Cx} {R:LG} {f f':Led} (k:∀p∈f,p∈f') {v:Value} {s:Shared} (h:Rz g c R f' v s):Rz g c R f v s:=
 by obtain ⟨e,x,st',frz',fl,h1,h2,h3,h4,h5⟩:=h;exact ⟨e,x,st',frz',fl,h1,fun p hp=>h2 p (k p hp),h3,h4,h5⟩
section
variable {g:Gx} {c:Cx} {A:Around} {st:St} {R:LG}
theorem Ev.ofPure {t:Sem Value} {pv:PV} {Q:LE} (h:∀frz s,S g c st frz s→∃v n,Rep (Hq g frz) v pv∧∀(Q':LM) E,Q' v { s with toks:=n }→wpAny (model g.prog g.w) A t Q' E s) (q:Q pv st):Ev g c A t st Q R:=fun frz s x=>by
 refine u22 (h frz s x) ?_;rintro v n r k;exact k _ _ ⟨pv,st,frz,fun _ h=>h,x.toks n,r,q⟩
theorem Ev.int {env:Env} {i:Int} {k pos} {Q:LE} (q:Q (.int i) st):Ev g c A (eval (.Constant (.int i) k pos) env) st Q R:=
 .ofPure (pv:=.int i) (fun _ s _=>(v22 (.int i s.toks) (s.toks+1) ⟨_,rfl⟩ (fun _ _ h=>OO h))) q
theorem Ev.str {env:Env} {x:Str} {k pos} {Q:LE} (q:Q (.str x.cps.toList) st):Ev g c A (eval (.Constant (.str x) k pos) env) st Q R:=
 .ofPure (pv:=.str x.cps.toList) (fun _ s _=>(v22 (.str x s.toks) (s.toks+1) ⟨s.toks,by simp [txt]⟩ (fun _ _ h=>Oh h))) q
theorem Ev.bool {env:Env} {b:Bool} {k pos} {Q:LE} (q:Q (.bool b) st):Ev g c A (eval (.Constant (.bool b) k pos) env) st Q R:=
 .ofPure (pv:=.bool b) (fun _ s _=>(v22 (.bool b) s.toks rfl (fun _ _ h=>wpAny_Constant_bool h))) q
theorem Ev.none {env:Env} {k pos} {Q:LE} (q:Q .none st):Ev g c A (eval (.Constant .none k pos) env) st Q R:=
 .ofPure (pv:=.none) (fun _ s _=>(v22 (.none) s.toks rfl (fun _ _ h=>wpAny_Constant_none h))) q
theorem aA {α:Type} {x:Str} {k:α} {l:List (Str×α)} (nd:(l.map (·.1)).Nodup) (h:(x,k)∈l):l.lookup x=some k:=by
 induction l with
 | nil=>cases h
 | cons p r ih=>
  obtain ⟨y,j⟩:=p;rw [Mn];refine Mx (Me.mp h) (fun e=>?_) fun h2=>?_
  ·cases e;rw [beq_self_eq_true]
  ·have hne:(x==y)=false:=beq_eq_false_iff_ne.mpr (by
    intro e;subst e;exact (Mt.mp nd).1 (Ma.mpr (v12 _ h2 rfl)))
   refine hne▸?_;exact ih (Mt.mp nd).2 h2
theorem Ok.isLocal {d:Nat} (ok:Ok g c A d) {x:Str} (h:(x,NameKind.local)∈c.cs.names):c.env.kindOf x=some .local:=aA ok.nd h
theorem Ok.noDbg {d:Nat} (ok:Ok g c A d) {x:Str} {k:NameKind} (h:(x,k)∈c.cs.names):(x==("__debug__" : Str))=false:=ok.dbg x (Ma.mpr (v12 _ h rfl))
theorem Ev.var {d:Nat} (ok:Ok g c A d) {x:Str} {pos:Pos} {pv:PV} {Q:LE} (hv:Look x pv st.vars) (q:Q pv st) :
 Ev g c A (eval (.Name x pos) c.env) st Q R:=fun frz s X=>by
 have X':=X;obtain ⟨⟨m,own,frs,⟨F,N,nd,SU,O,V⟩⟩,nn,lc⟩:=X;refine u12 (V _ _ hv.mem) ?_;rintro v hm r;have hl:=lc.1 x (Ma.mpr (v12 _ hv.mem rfl));exact Pm (Nz ok.kind (ok.isLocal hl) F.ns hm ⟨pv,st,frz,fun _ h=>h,X',r,q⟩) (ok.noDbg hl)
theorem dH {d:Nat} (ok:Ok g c A d) {x:Str} {pv:PV} {v:Value} {vs':aM} {frz:Led} {s:Shared} {Q:Unit→Shared→Prop} {E:LM} (X:S g c st frz s) (hp:Put x pv st.vars vs') (r:Rep (Hq g frz) v pv)
 (h:∀s',S g c { st with vars:=vs' } frz s'→Q () s'):wpAny (model g.prog g.w) A (storeName c.env x v) Q E s:=by
 have hl:=X.loc.1 x hp.key;obtain ⟨⟨m,own,frs,⟨F,N,nd,SU,O,V⟩⟩,nn,lc⟩:=X;refine Pr (m:=m) (ok.isLocal hl) F.ns (fun h' hn hs=>h _ ?_) (by show (c.cs.kind==.class||(c.cs.kind==.module&&c.L != mainGlobals))=false;refine ok.kind▸?_;rfl);refine ⟨⟨_,own,frs,⟨F.set hn hs,N.set hs,nd,SU,O,fun y qv hy=>?_⟩⟩,by show (vs'.map (·.1)).Nodup;refine hp.keys▸?_;exact nn,by show ∀x∈vs'.map (·.1),_;refine hp.keys▸?_;exact lc.1,lc.2⟩;refine Mx (hp.old nn y _ hy) (fun hz=>?_) fun hz=>?_
 ·obtain ⟨e1,e2⟩:=hz;injection e2 with e2;subst e2;exact ⟨v,if_pos e1,r⟩
 ·obtain ⟨e1,e2⟩:=hz;refine u12 (V y qv e2) ?_;rintro u a b;exact ⟨u,(if_neg e1).trans a,b⟩
end
theorem lI {pl:LO} (h:IsPlace pl) (a b c d e:Value):(([a,b,c,d,e]++(if pl.isEmpty then MF 6 Value.none else pl)).toArray)[3]? = some d:=by
 simp
theorem zV {M:Model} {A:Around} {E:LM} {s:Shared} {base:Heap} {env:Env} {outer:List Env} {L e:Addr} {oe:Obj} {vs:Array Value} {head:Value} {hadNext:Bool} {Q:Unit→Shared→Prop}
 (hfr:A.frames=some (env::outer)) (hl:s.heap.FunFrames base (env::outer)) (hf:env.frame=some L)
 (he:s.heap.get? e=some oe) (hd:oe.data=.fields vs) (hsz:1<vs.size)
 (h:∀h₁ o ts,Heap.SlotsOnly ((env::outer).filterMap (·.frame)) s.heap h₁→o.data=.fields ts→ts[3]? = some (rawInt L)→o.isFreed=false→
  Q () { s with heap:=(h₁.push o).update e (NI (·.setIfInBounds 1 (Value.ref h₁.objs.size))) }) :
 wpAny M A (do let a←frameOf env;let pl←entryPlaceOf L hadNext;let b←Pb head a .none (rawInt L) .none pl;setField (.ref e) 1 b) Q E s:=by
 have hene:e∉(env::outer).filterMap (·.frame):=fun hm=>by
  obtain ⟨_,o,ho,hnf⟩:=hl.mem hm;rw [he] at ho;injection ho with ho;subst ho;exact hnf vs hd
 refine KE (wpAny_frameOf_fun hfr hl hf fun h₁ hs₁=>?_);refine KE (wpAny_entryPlaceOf fun pl hpl=>?_);unfold Pb newFields;refine KE (MX ?_ (hpl.sizeOk5 _ _ _ _ _));exact QG (MJ _ ((hs₁.2.1 e hene).trans he)) hd hsz (h h₁ _ _ hs₁ rfl (lI hpl ..) rfl)
section
variable {g:Gx} {c:Cx} {A:Around} {st:St} {d:Nat} {s:Shared} {frz:Led} {e:Addr} {x:XC}
theorem Core.turn {m:LN} {own frs:Led} {h h':Heap} (C:Core g c st frz h m own frs) (fr:Frs c.outer c.frs)
 (keep:∀b o,h.get? b=some o→b∉c.L::frs.map (·.1)→(∀p,p=(b,o)→p∈own++(frz++frs)∨g.base.get? b=some o→h'.get? b=some o))
 (up:∀b o,h.get? b=some o→b∈c.L::frs.map (·.1)→∃sl,h'.get? b=some { o with slots:=sl }) :
 ∃frs',SameUp frs frs'∧Core g c st frz h' m own frs':=by
 obtain ⟨F,N,nd,SU,O,V⟩:=C;refine u12 (sameUp_of (h':=h') fun p hp=>up p.1 p.2 (N p (LZ _ (LZ _ hp))).1 (List.mem_cons_of_mem _ (Ma.mpr (v12 p hp rfl)))) ?_;rintro frs' SU' ht;have keys:frs'.map (·.1)=frs.map (·.1):=by
  clear ht up keep N nd SU
  induction frs generalizing frs' with
  | nil=>cases frs' with
   | nil=>rfl
   | cons _ _=>exact SU'.elim
  | cons p ps ih=>cases frs' with
   | nil=>exact SU'.elim
   | cons q qs=>obtain ⟨a,_,b⟩:=SU';simp only [Mu,a,ih _ b]
 have baseN:∀b o,g.base.get? b=some o→b∉c.L::frs.map (·.1):=fun b o e hm=>by
  refine Mx (Me.mp hm) (fun hz=>?_) fun hm=>?_
  ·obtain rfl:=hz;exact absurd (Nw (MI e) F.above) (NZ _)
  ·refine u12 (Ma.mp hm) ?_;rintro p hp rfl;have h1:=(N p (LZ _ (LZ _ hp))).2.2;replace h1:=e▸h1;injection h1
 refine ⟨frs',SU',⟨?_,fun b o hb=>keep b o (F.keep b o hb) (baseN b o hb) _ rfl (.inr hb),F.above⟩,?_,?_,SU.trans SU',O,V⟩
 ·refine u32 F.ns ?_;rintro o es ep ho r;obtain ⟨sl,hs⟩:=up c.L o ho (.head _);exact (v32 _ es ep hs r)
 ·have ndA:∀p∈own++frz,p.1∉frs.map (·.1):=fun p hp hm=>by
   rw [←Mb,Mz] at nd;exact (MH.mp nd).2.2 p.1 (Ma.mpr ⟨p,hp,rfl⟩) p.1 hm rfl
  have old:∀p∈own++frz,p∈own++(frz++frs):=fun p hp=>by rw [←Mb];exact Mc _ hp
  intro p hp;rw [←Mb] at hp;rcases Mi.mp hp with hp|hp
  ·refine u03 (N p (old p hp)) ?_;rintro a b e;refine (v03 (keep p.1 p.2 a (fun hm=>?_) p rfl (.inl (old p hp))) b e);refine Mx (Me.mp hm) (fun q=>?_) fun hm=>?_
   ·exact b q
   ·exact ndA p hp hm
  ·refine u12 (SU'.fwd p hp) ?_;rintro q hq e;refine u03 (N q (LZ _ (LZ _ hq))) ?_;rintro _ b e';exact (v03 (ht p hp) (by rw [e];exact b) (by rw [e];exact e'))
 ·rw [(show ((own++(frz++frs')).map (·.1))=(own++(frz++frs)).map (·.1) from by simp only [Mz,keys])];exact nd
theorem Core.funFrames {m:LN} {own frs:Led} {h:Heap} (C:Core g c st frz h m own frs) (fr:Frs c.outer c.frs) (hk:c.cs.kind=.function):h.FunFrames g.base (c.env::c.outer):=by
 have hL:g.base.get? c.L=none:=by
  cases hq:g.base.get? c.L with
  | none=>rfl
  | some o=>exact absurd (Nw (MI hq) C.F.above) (NZ _)
 refine .cons (by show c.cs.kind≠.module;refine hk▸?_;decide) rfl C.F.ns hL ((fr.up C.SU).fun fun p hp=>?_);refine u03 (C.N p (LZ _ (LZ _ hp))) ?_;rintro a _ b;exact ⟨a,b⟩
theorem Core.frames {m:LN} {own frs:Led} {h:Heap} (C:Core g c st frz h m own frs) (fr:Frs c.outer c.frs):(c.env::c.outer).filterMap (·.frame)=c.L::frs.map (·.1):=by
 show c.L::c.outer.filterMap (·.frame)=_;exact (fr.up C.SU).addrs▸rfl
theorem oR {M:Model} {E:LM} {fl:Option Value} {head:Value} {hadNext:Bool} {Q:Unit→Shared→Prop} (fr:Frs c.outer c.frs) (hk:c.cs.kind=.function) (hfr:A.frames=some (c.env::c.outer))
 (X:SX g c st frz s e x fl) (h:∀s',SX g c st frz s' e x (some (rawInt c.L))→Q () s') :
 wpAny M A (do let a←frameOf c.env;let pl←entryPlaceOf c.L hadNext;let b←Pb head a .none (rawInt c.L) .none pl;setField (.ref e) 1 b) Q E s:=by
 obtain ⟨⟨m,own,frs,C,L⟩,nn,lc⟩:=X;obtain ⟨⟨oe,vs,dd,od,he,hcl,hdd,hd,hsz,tr,hm,xd⟩,lb,ll,lled⟩:=L;refine zV hfr (C.funFrames fr hk) rfl he hd (HS hsz) fun h₁ o ts hs ho h3 hfree=>h _ ?_;replace hs:=(C.frames fr)▸hs;have hene:e∉c.L::frs.map (·.1):=fun hm=>by
  refine Mx (Me.mp hm) (fun q=>?_) fun hm=>?_
  ·exact ll q
  ·refine u12 (Ma.mp hm) ?_;rintro p hp q;exact lled p (LZ _ (LZ _ hp)) q
 have he₁:h₁.get? e=some oe:=(hs.2.1 e hene).trans he;have hTe:h₁.objs.size≠e:=NV (MI he₁);have get:∀b ob,b≠e→h₁.get? b=some ob→((h₁.push o).update e (NI (·.setIfInBounds 1 (Value.ref h₁.objs.size)))).get? b=some ob:=fun b ob hb hg=>by
  rw [Pa _ _ (NM hb)];exact MJ _ hg
 have neE:∀b o,b∈c.L::frs.map (·.1)∨(b,o)∈own++(frz++frs)∨g.base.get? b=some o→b≠e:=fun b o q=>by
  rcases q with q|q|q
  ·rintro rfl;exact hene q
  ·rintro rfl;exact lled _ q rfl
  ·rintro rfl;replace q:=lb▸q;injection q
 obtain ⟨frs',SU',C'⟩:=C.turn fr (h':=(h₁.push o).update e (NI (·.setIfInBounds 1 (Value.ref h₁.objs.size))))
  (fun b ob hb hn p hp q=>by subst hp;exact get b ob (neE b ob (.inr q)) ((hs.2.1 b hn).trans hb))
  (fun b ob hb hm=>by
   obtain ⟨sl,h1⟩:=hs.2.2 b ob hb;exact ⟨sl,get b _ (neE b ob (.inl hm)) h1⟩)
 have hd₃:=Pz hd (·.setIfInBounds 1 (Value.ref h₁.objs.size));have he₃:=Om (NI (·.setIfInBounds 1 (Value.ref h₁.objs.size))) (MJ (h:=h₁) o he₁) (QQ hd₃);have hT₃:=(Pa (h₁.push o) (NI (·.setIfInBounds 1 (Value.ref h₁.objs.size))) (NM hTe)).trans (Pq h₁ hfree);have keys:∀p∈own++(frz++frs'),∃q∈own++(frz++frs),p.1=q.1:=fun p hp=>by
  refine Mx (Mi.mp hp) (fun hp=>?_) fun hp=>?_
  ·exact (v12 p (Mc _ hp) rfl)
  ·rcases Mi.mp hp with hp|hp
   ·exact (v12 p (LZ _ (Mc _ hp)) rfl)
   ·refine u12 (SU'.fwd p hp) ?_;rintro q hq e;exact (v12 q (LZ _ (LZ _ hq)) e)
 have size1:h₁.objs.size=s.heap.objs.size:=hs.1;refine ⟨⟨m,own,frs',C',⟨⟨_,_,dd,od,he₃,(Obj.cls_mapFields _ _).trans hcl,?_,hd₃,by simp [hsz],?_,hm,xd⟩,lb,ll,fun p hp=>?_⟩⟩,nn,lc⟩
 ·have:∀(f:Array Value→Array Value) (o:Obj),(o.mapFields f).dict=o.dict:=fun f o=>by cases o with|mk a b c' d'=>cases c'<;>rfl
  rw [this];exact hdd
 ·refine ⟨h₁.objs.size,o,ts,by simp [hsz],hTe,hT₃,ho,h3,?_,?_,fun p hp=>?_⟩
  ·cases hq:g.base.get? h₁.objs.size with
   | none=>rfl
   | some ob=>have:=MI (C.F.keep _ _ hq);rw [size1] at this;exact absurd this (NZ _)
  ·refine u32 C.F.ns ?_;rintro oL _ _ hL _;refine size1▸?_;exact NV (MI hL)
  ·refine u12 (keys p hp) ?_;rintro q hq e;rw [e,size1];exact Nh (MI (C.N q hq).1)
 ·refine u12 (keys p hp) ?_;rintro q hq e;rw [e];exact lled q hq
theorem rD {M:Model} {E:LM} {f:Value} {T:Addr} {v:Value} {Q:Unit→Shared→Prop} {oe:Obj} {vs:Array Value} (fr:Frs c.outer c.frs)
 (X:SX g c st frz s e x (some f)) (he:s.heap.get? e=some oe) (hd:oe.data=.fields vs) (h1:vs[1]? = some (.ref T)) (h:∀s',SX g c st frz s' e x (some v)→Q () s') :
 wpAny M A (setField (.ref T) 3 v) Q E s:=by
 obtain ⟨⟨m,own,frs,C,L⟩,nn,lc⟩:=X;obtain ⟨⟨oe',vs',dd,od,he',hcl,hdd,hd',hsz,⟨T',oT,ts,k1,k2,k3,k4,k5,k6,k7,k8⟩,hm,xd⟩,lb,ll,lled⟩:=L;obtain rfl:oe'=oe:=Mm (he'.symm.trans he);obtain rfl:vs'=vs:=by replace hd':=hd▸hd';injection hd' with hd';subst hd';rfl
 obtain rfl:T'=T:=by replace k1:=h1▸k1;cases k1;rfl
 have h3:3<ts.size:=(Array.getElem?_eq_some_iff.mp k5).1;refine QG k3 k4 h3 (h _ ?_);have other:∀b,b≠T'→(s.heap.update T' (NI (·.setIfInBounds 3 v))).get? b=s.heap.get? b:=fun b hb=>Pa _ _ (NM hb);have hTn:T'∉c.L::frs.map (·.1):=fun hm=>by
  refine Mx (Me.mp hm) (fun q=>?_) fun hm=>?_
  ·exact k7 q
  ·refine u12 (Ma.mp hm) ?_;rintro p hp q;exact k8 p (LZ _ (LZ _ hp)) q
 obtain ⟨frs',SU',C'⟩:=C.turn fr (h':=s.heap.update T' (NI (·.setIfInBounds 3 v)))
  (fun b ob hb hn p hp q=>by
   subst hp;refine (other b ?_).trans hb;refine Mx q (fun q=>?_) fun q=>?_
   ·exact k8 _ q
   ·rintro rfl;replace q:=k6▸q;injection q)
  (fun b ob hb hm=>⟨ob.slots,(other b fun q=>hTn (q▸hm)).trans hb⟩)
 have keys:∀p∈own++(frz++frs'),∃q∈own++(frz++frs),p.1=q.1:=fun p hp=>by
  refine Mx (Mi.mp hp) (fun hp=>?_) fun hp=>?_
  ·exact (v12 p (Mc _ hp) rfl)
  ·refine Mx (Mi.mp hp) (fun hp=>?_) fun hp=>?_
   ·exact (v12 p (LZ _ (Mc _ hp)) rfl)
   ·refine u12 (SU'.fwd p hp) ?_;rintro q hq e;exact (v12 q (LZ _ (LZ _ hq)) e)
 refine ⟨⟨m,own,frs',C',⟨⟨oe',vs',dd,od,(other e (NM k2)).trans he,hcl,hdd,hd,hsz,⟨T',_,_,k1,k2,Om _ k3 (QQ (Pz k4 _)),Pz k4 _,by simp [h3],k6,k7,fun p hp=>?_⟩,hm,xd⟩,lb,ll,fun p hp=>?_⟩⟩,nn,lc⟩
 ·refine u12 (keys p hp) ?_;rintro q hq e;refine e▸?_;exact k8 q hq
 ·refine u12 (keys p hp) ?_;rintro q hq e;refine e▸?_;exact lled q hq
theorem my {M:Model} {E:LM} {fl:Option Value} {Q:Unit→Shared→Prop} (fr:Frs c.outer c.frs) (hk:c.cs.kind=.function) (hfr:A.frames=some (c.env::c.outer))
 (X:SX g c st frz s e x fl) (hf:fl=none∨fl=some .none∨fl=some (rawInt c.L)) (h:∀s',SX g c st frz s' e x (some (rawInt c.L))→Q () s') :
 wpAny M A (noteFrame (.ref e) c.env) Q E s:=by
 have X0:=X;obtain ⟨⟨m,own,frs,C,L⟩,nn,lc⟩:=X;obtain ⟨⟨oe,vs,dd,od,he,hcl,hdd,hd,hsz,tr,hm,xd⟩,lb,ll,lled⟩:=L;unfold noteFrame;simp only [show c.env.frame=some c.L from rfl];rcases hf with rfl|rfl|rfl
 ·refine KE (Nx he hd tr ?_);rw [if_neg (by decide)];exact oR fr hk hfr X0 h
 ·obtain ⟨T,oT,ts,k1,k2,k3,k4,k5,k6,k7,k8⟩:=tr;refine KE (Nx he hd k1 ?_);rw [if_pos (show (Value.ref T != Value.none)=true from by simp)];refine KE (Nx k3 k4 k5 ?_);rw [if_neg (show ¬((Value.none==rawInt c.L)=true) from by simp [rawInt])];exact KE (rD fr X0 he hd k1 fun s' X'=>oR fr hk hfr X' h)
 ·obtain ⟨T,oT,ts,k1,k2,k3,k4,k5,k6,k7,k8⟩:=tr;refine KE (Nx he hd k1 ?_);rw [if_pos (show (Value.ref T != Value.none)=true from by simp)];refine KE (Nx k3 k4 k5 ?_);rw [if_pos (show (rawInt c.L==rawInt c.L)=true from by simp)];exact Mh (h s X0)
theorem dP {M:Model} {E:LM} {f:Value} {o:Option Addr} {Q:Unit→Shared→Prop} (fr:Frs c.outer c.frs)
 (X:SX g c st frz s e x (some f)) (h:∀s',SX g c st frz s' e x (some (o.elim .none fun f=>rawInt f))→Q () s'):wpAny M A (setFlight (.ref e) o) Q E s:=by
 have X0:=X;obtain ⟨⟨m,own,frs,C,L⟩,nn,lc⟩:=X;obtain ⟨⟨oe,vs,dd,od,he,hcl,hdd,hd,hsz,⟨T,oT,ts,k1,k2,k3,k4,k5,k6,k7,k8⟩,hm,xd⟩,lb,ll,lled⟩:=L;unfold setFlight;refine KE (Nx he hd k1 ?_);refine (if_pos (show (Value.ref T != Value.none)=true from rfl))▸?_;exact rD fr X0 he hd k1 h
theorem sy {M:Model} {R:LG} {E:LM} {frz₀:Led} {v:Value} (ok:Ok g c A d) (X:Rz g c R frz₀ v s) (h:∀v s',Rz g c R frz₀ v s'→E v s') :
 notedBy M A c.env (fun v s'=>cameBackBy M A c.env E v s') v s:=by
 obtain ⟨e,x,st',frz',fl,rfl,hs,X,hf,r⟩:=X;refine my ok.fr ok.kind ok.frames X hf fun s' X'=>?_;have X0:=X';obtain ⟨⟨m,own,frs,C,L⟩,nn,lc⟩:=X';obtain ⟨⟨oe,vs,dd,od,he,hcl,hdd,hd,hsz,⟨T,oT,ts,k1,k2,k3,k4,k5,k6,k7,k8⟩,hm,xd⟩,lb,ll,lled⟩:=L;unfold cameBackBy;refine KE (Nx he hd k1 ?_);rw [if_neg (by simp)];exact dP ok.fr X0 fun s'' X''=>h _ _ ⟨e,x,st',frz',_,rfl,hs,X'',.inr (.inr rfl),r⟩
end
def Br (b:Bool) (p q:Prop):Prop:=(b=true→p)∧(b=false→q)
theorem Lq {p q:Prop} (h:p):Br true p q:=⟨fun _=>h,fun e=>nomatch e⟩
theorem KT {p q:Prop} (h:q):Br false p q:=⟨fun e=>(nomatch e),fun _=>h⟩
section
variable {g:Gx} {c:Cx} {A:Around} {st:St} {R:LG} {d:Nat}
abbrev Sub (f f':Led):Prop:=∀p∈f,p∈f'
theorem Sub.refl (f:Led):Sub f f:=fun _ h=>h
theorem Sub.trans {a b c:Led} (x:Sub a b) (y:Sub b c):Sub a c:=fun p h=>y p (x p h)
theorem Ex.mono {t:Sem Flow} {Q Q':LK} (h:Ex g c A t st Q R) (k:∀f st',Q f st'→Q' f st'):Ex g c A t st Q' R:=fun frz s X=>
 tt (h frz s X) (fun _ _ hh=>by obtain ⟨af,st',f',a,b,r,q⟩:=hh;exact ⟨af,st',f',a,b,r,k _ _ q⟩) fun _ _ e=>e
theorem Ex.at {b b':LT} {Q:LK} (e:b=b') (h:Ex g c A (execs b' c.env) st Q R):Ex g c A (execs b c.env) st Q R:=by refine e▸?_;exact h
theorem Ex.nil {Q:LK} (q:Q .next st):Ex g c A (execs [] c.env) st Q R:=fun frz s X=>
 Pp ⟨.next,st,frz,Sub.refl _,X,trivial,q⟩
def Ao (g:Gx) (c:Cx) (A:Around) (rest:LT) (Q:LK) (R:LG):LK
 | .next,st=>Ex g c A (execs rest c.env) st Q R
 | f,st=>Q f st
theorem Ex.cons {x:Stmt} {rest:LT} {Q:LK} (h:Ex g c A (exec x c.env) st (Ao g c A rest Q R) R):Ex g c A (execs (x::rest) c.env) st Q R:=fun frz s X=>by
 refine Pi (tt (h frz s X) (fun f s' hh=>?_) fun _ _ e=>e);obtain ⟨af,st',f',a,X',r,q⟩:=hh;cases f with
 | next=>
  cases af with
  | next=>exact tt (q f' s' X') (fun _ _ ⟨af,st'',f'',a',b,r,q⟩=>⟨af,st'',f'',Sub.trans a a',b,r,q⟩) fun _ _ e=>e.mono a
  | _=>exact r.elim
 | brk=>
  cases af with
  | brk=>exact ⟨.brk,st',f',a,X',r,q⟩
  | _=>exact r.elim
 | cont=>
  cases af with
  | cont=>exact ⟨.cont,st',f',a,X',r,q⟩
  | _=>exact r.elim
 | ret v=>
  cases af with
  | ret pv=>exact ⟨.ret pv,st',f',a,X',r,q⟩
  | _=>exact r.elim
theorem Ex.pass {pos} {Q:LK} (q:Q .next st):Ex g c A (exec (.Pass pos) c.env) st Q R:=fun frz s X=>wpAny_Pass ⟨.next,st,frz,Sub.refl _,X,trivial,q⟩
theorem Ex.brk {pos} {Q:LK} (q:Q .brk st):Ex g c A (exec (.Break pos) c.env) st Q R:=fun frz s X=>wpAny_Break ⟨.brk,st,frz,Sub.refl _,X,trivial,q⟩
theorem Ex.ret {e:Expr} {pos} {Q:LK} (h:Ev g c A (eval e c.env) st (fun pv st'=>Q (.ret pv) st') R):Ex g c A (exec (.Return (some e) pos) c.env) st Q R:=fun frz s X=>
 Qd (tt (h frz s X) (fun _ _ hh=>by obtain ⟨pv,st',f',a,X',r,q⟩:=hh;exact ⟨.ret pv,st',f',a,X',r,q⟩) fun _ _ e=>e)
theorem Ex.ite {test:Expr} {body orelse:LT} {pos} {Q:LK}
 (h:Tst g c A (isTrue test c.env (eval test c.env)) st (fun b st'=>Br b (Ex g c A (execs body c.env) st' Q R) (Ex g c A (execs orelse c.env) st' Q R)) R):Ex g c A (exec (.If test body orelse pos) c.env) st Q R:=fun frz s X=>by
 refine wpAny_If (tt (h frz s X) (fun b s' hh=>?_) fun _ _ e=>e);obtain ⟨st',f',a,X',q⟩:=hh;cases b with
 | true=>exact tt (q.1 rfl f' s' X') (fun _ _ ⟨af,st'',f'',a',b,r,q⟩=>⟨af,st'',f'',Sub.trans a a',b,r,q⟩) fun _ _ e=>e.mono a
 | false=>exact tt (q.2 rfl f' s' X') (fun _ _ ⟨af,st'',f'',a',b,r,q⟩=>⟨af,st'',f'',Sub.trans a a',b,r,q⟩) fun _ _ e=>e.mono a
inductive PutQ (x:Str) (pv:PV) (st:St) (Q:St→Prop):Prop
 | intro (vs':aM) (h:Put x pv st.vars vs') (q:Q { st with vars:=vs' })
theorem PutQ.mk {x:Str} {pv:PV} {st:St} {Q:St→Prop} {vs':aM} (h:Put x pv st.vars vs') (q:Q { st with vars:=vs' }):PutQ x pv st Q:=⟨vs',h,q⟩
theorem Ex.assign (ok:Ok g c A d) {x:Str} {p':Pos} {e:Expr} {pos} {Q:LK} (h:Ev g c A (eval e c.env) st (fun pv st'=>PutQ x pv st' (Q .next)) R)
 (hs:autoParam (swapsWith e (some (.Name x p')) pos.line c.env=pure false) aR):Ex g c A (exec (.Assign [.Name x p'] e pos) c.env) st Q R:=fun frz s X=>by
 refine OV (tt (h frz s X) (fun v s' hh=>?_) fun _ _ e=>e) hs;obtain ⟨pv,st',f',a,X',r,vs',hp,q⟩:=hh;exact dH ok X' hp r fun s'' X''=>⟨.next,_,f',a,X'',trivial,q⟩
inductive GotB (g:Gx) (c:Cx) (st:St) (frz:Led) (Q:PV→Prop) (v:Value) (s':Shared):Prop
 | mk (pv:PV) (frz':Led) (a:Sub frz frz') (X:S g c st frz' s') (r:Rep (Hq g frz') v pv) (q:Q pv)
def BinW (g:Gx) (A:Around) (t:Value→Value→Sem Value) (a b:PV) (Q:PV→Prop):Prop:=
 ∀c st frz s v w R,A.handled=none→S g c st frz s→Rep (Hq g frz) v a→Rep (Hq g frz) w b→wpAny (model g.prog g.w) A (t v w) (GotB g c st frz Q) R s
theorem Ex.aug (ok:Ok g c A d) {x:Str} {p':Pos} {op:Operator} {e:Expr} {pos} {pv:PV} {Q:LK} (hv:Look x pv st.vars)
 (h:Ev g c A (eval e c.env) st (fun b st'=>BinW g A (inplaceOp op) pv b fun r=>PutQ x r st' (Q .next)) R):Ex g c A (exec (.AugAssign (.Name x p') op e pos) c.env) st Q R:=fun frz s X=>by
 have X0:=X;obtain ⟨⟨m,own,frs,⟨F,N,nd,SU,O,V⟩⟩,nn,lc⟩:=X0;refine u12 (V _ _ hv.mem) ?_;rintro v hm r;refine wpAny_AugAssign_Name (Nz ok.kind (ok.isLocal (lc.1 x (Ma.mpr (v12 _ hv.mem rfl)))) F.ns hm (tt (h frz s X) (fun w s' hh=>?_) fun _ _ e=>e));obtain ⟨b,st',f',a,X',rb,q⟩:=hh;refine tt (q c st' f' s' v w _ ok.hand X' (r.mono (Hq.mono a)) rb) (fun u s'' hh=>?_) fun _ _ e=>e;obtain ⟨pr,f'',a',X'',ru,vs',hp,q'⟩:=hh;exact dH ok X'' hp ru fun s3 X3=>⟨.next,_,f'',Sub.trans a a',X3,trivial,q'⟩
def xA (Q:LK) (I:St→Prop):LK
 | .next,st|.cont,st=>I st
 | .brk,st=>Q .next st
 | .ret v,st=>Q (.ret v) st
inductive WhJ (g:Gx) (c:Cx) (frz:Led) (I:Nat→St→Prop) (n:Nat) (s:Shared):Prop
 | mk (st':St) (f':Led) (h1:Sub frz f') (h2:S g c st' f' s) (h3:I n st')
theorem Ls (ok:Ok g c A d) {test:Expr} {body:LT} {pos} {Q:LK} (I:Nat→St→Prop)
 (turn:∀n st,I n st→Tst g c A (isTrue test c.env (eval test c.env)) st (fun b st'=>Br b (Ex g c A (execs body c.env) st' (xA Q fun st''=>∃m,m<n∧I m st'') R) (Q .next st')) R) (n:Nat) (h:I n st) :
 Ex g c A (exec (.While test body [] pos) c.env) st Q R:=fun frz s X=>by
 refine wpAny_While ?_;refine codeAny_whileLoop (WhJ g c frz I) (fun n s hI=>?_) n ⟨st,frz,Sub.refl _,X,h⟩;obtain ⟨st',f',a,X',hI⟩:=hI;have noted:∀{f:Led} {v s},Sub frz f→Rz g c R f v s→notedBy (model g.prog g.w) A c.env (fun e s'=>cameBackBy (model g.prog g.w) A c.env (Rz g c R frz) e s') v s:=fun k h=>sy ok (h.mono k) fun _ _ h=>h;refine tt (turn n st' hI f' s X') (fun b s₂ hh=>?_) fun _ _ e=>noted a e;obtain ⟨st₂,f₂,a₂,X₂,q⟩:=hh;cases b with
 | true=>
  refine tt (q.1 rfl f₂ s₂ X₂) (fun f s₃ hh=>?_) fun _ _ e=>noted (Sub.trans a a₂) e;obtain ⟨af,st₃,f₃,a₃,X₃,r,q'⟩:=hh;cases f with
  | next=>
   cases af with
   | next=>obtain ⟨m,hm,hi⟩:=q';exact ⟨m,hm,st₃,f₃,Sub.trans a (Sub.trans a₂ a₃),X₃,hi⟩
   | _=>exact r.elim
  | cont=>
   cases af with
   | cont=>obtain ⟨m,hm,hi⟩:=q';exact ⟨m,hm,st₃,f₃,Sub.trans a (Sub.trans a₂ a₃),X₃,hi⟩
   | _=>exact r.elim
  | brk=>
   cases af with
   | brk=>exact ⟨.next,st₃,f₃,Sub.trans a (Sub.trans a₂ a₃),X₃,trivial,q'⟩
   | _=>exact r.elim
  | ret v=>
   cases af with
   | ret pv=>exact ⟨.ret pv,st₃,f₃,Sub.trans a (Sub.trans a₂ a₃),X₃,r,q'⟩
   | _=>exact r.elim
 | false=>exact Pp ⟨.next,st₂,f₂,Sub.trans a a₂,X₂,trivial,q.2 rfl⟩
end
noncomputable def dG:LP→LB→aM
 | x::xs,p::ps=>(x,some p)::dG xs ps
 | _,_=>[]
theorem iQ:∀{xs:LP} {ps:LB},ps.length=xs.length→(dG xs ps).map (·.1)=xs
 | [],[],_=>rfl
 | [],_::_,h=>by injection h
 | _::_,[],h=>by injection h
 | x::_,_::_,h=>congrArg (x::·) (iQ (Nt h))
noncomputable abbrev bF (l:LP):aM:=l.map fun x=>(x,none)
inductive FnO (g:Gx) (a:Addr) (ps:LP) (ds:LB) (body:LT) (scope:Scope):Prop
 | mk (o:Obj) (fd:FuncData) (h1:g.base.get? a=some o) (h2:o.data=.func fd) (h3:fd.body=.stmts body) (h4:fd.scope=scope) (h5:fd.closure=[]) (h6:fd.globals=mainGlobals) (h7:fd.builtins=builtinsNs)
  (h8:g.base.CodeRec fd.code fd.qualname) (h9:∀s:Shared,(∀b o,g.base.get? b=some o→s.heap.get? b=some o)→∀vs:LO,vs.length+ds.length=ps.length→∃ws,(∀H,RepL H ws ds)∧BindsTo s fd ⟨vs,[]⟩ (ps.zip (vs++ws)))
structure FnA (g:Gx) (a:Addr) (ps:LP) (ds:LB) (body:LT) (scope:Scope):Prop where
 ex:FnO g a ps ds body scope
 co:scope.isCoroutine=false
 gen:scope.isGenerator=false
 kind:scope.kind=.function
 nd:(scope.names.map (·.1)).Nodup
 dbg:∀x∈scope.names.map (·.1),(x==("__debug__" : Str))=false
def gb (g:Gx) (f:Str) (ps:LP) (body:LT) (scope:Scope):Prop:=∃a,g.mg f=some (.ref a)∧FnA g a ps [] body scope
theorem RepL.app {H:Hp}:∀{ps qs:LB} {vs ws:LO},RepL H vs ps→RepL H ws qs→RepL H (vs++ws) (ps++qs)
 | [],_,_,_,h,h'=>by subst h;exact h'
 | _::_,_,_,_,⟨v,r,e,h1,h2⟩,h'=>⟨v,r++_,by refine e▸?_;rfl,h1,h2.app h'⟩
section
variable {g:Gx} {c c':Cx} {A:Around} {st st':St} {d:Nat} {s:Shared} {frz frz':Led} {e:Addr} {x:XC}
theorem gh {α:Type} {y:Str}:∀{l:List (Str×α)},y∉l.map (·.1)→l.lookup y=none
 | [],_=>rfl
 | (z,a)::r,h=>by
  rw [Mn];have hb:(y==z)=false:=beq_eq_false_iff_ne.mpr fun e=>h (e▸.head _);refine hb▸?_;exact gh fun q=>h (.tail _ q)
theorem vz {α:Type} {x p:α} {u v w:List α} (h:p∈u++(v++x::w)):p=x∨p∈u++(v++w):=by
 refine Mx (Mi.mp h) (fun h=>?_) fun h=>?_
 ·exact .inr (Mc _ h)
 ·refine Mx (Mi.mp h) (fun h=>?_) fun h=>?_
  ·exact .inr (LZ _ (Mc _ h))
  ·exact (Me.mp h).imp id fun h=>LZ _ (LZ _ h)
theorem gV {α:Type} {x:α} {u v w:List α}:x∈u++(v++x::w):=LZ _ (LZ _ (.head _))
theorem mD {α:Type} {x p:α} {u v w:List α} (h:p∈u++(v++w)):p∈u++(v++x::w):=by
 refine Mx (Mi.mp h) (fun h=>?_) fun h=>?_
 ·exact Mc _ h
 ·exact LZ _ ((Mi.mp h).elim (Mc _) fun h=>LZ _ (.tail _ h))
theorem mC {α β:Type} {f:α→β} {x:α} {u v w:List α}:((u++(v++x::w)).map f).Nodup↔f x∉(u++(v++w)).map f∧((u++(v++w)).map f).Nodup:=by
 rw [←Mt];refine List.Perm.nodup_iff ?_;rw [←Mb,←Mb,←Mu];exact Nv.map f
theorem Core.back {m m':LN} {own frs own' frs':Led} {h h':Heap} {oL:Obj} (C:Core g c st frz h m own frs) (hL:h.get? c.L=some oL) (C':Core g c' st' frz' h' m' own' frs') (hs:Sub frz frz')
 (hf:c'.frs=(c.L,oL)::frs):∃oL' frs'',frs'=(c.L,oL')::frs''∧Core g c { st with own:=st'.own } frz' h' m own' frs'':=by
 obtain ⟨F',N',nd',SU',O',V'⟩:=C';replace SU':=hf▸SU';cases frs' with
 | nil=>exact SU'.elim
 | cons q frs''=>
  obtain ⟨q1,q2⟩:=q;refine u03 SU' ?_;clear SU';rintro e1 ⟨sl,e2⟩ SU'';dsimp only at e1 e2;subst e1 e2;refine ⟨_,frs'',rfl,⟨?_,F'.keep,C.F.above⟩,fun p hp=>?_,(mC.mp nd').2,C.SU.trans SU'',O',C.V.mono (Hq.mono hs)⟩
  ·refine u33 C.F.ns ?_;rintro o es ep ho hd r;obtain rfl:o=oL:=Mm (ho.symm.trans hL);exact ⟨_,es,ep,(N' _ gV).1,hd,r⟩
  ·refine u03 (N' p (mD hp)) ?_;rintro a _ b;exact ⟨a,fun q=>(mC.mp nd').1 (Ma.mpr ⟨p,hp,q⟩),b⟩
def iL (Q:LH):LK
 | .ret pv,st=>Q pv st.own
 | _,st=>Q .none st.own
inductive GotC (g:Gx) (c:Cx) (vars:aM) (frz:Led) (Q:LH) (v:Value) (s':Shared):Prop
 | mk (pv:PV) (own':Own) (frz':Led) (a:Sub frz frz') (X:S g c ⟨vars,own'⟩ frz' s') (r:Rep (Hq g frz') v pv) (q:Q pv own')
def CallV (g:Gx) (d:Nat) (fv:Value) (args:LB) (own:Own) (Q:LH) (R:LI):Prop:=
 ∀c A st frz s vs,Ok g c A d→st.own=own→S g c st frz s→RepL (Hq g frz) vs args→wpAny (model g.prog g.w) A (call fv vs)
  (GotC g c st.vars frz Q) (Rz g c (fun x st'=>st'.vars=st.vars∧R x st'.own) frz) s
def CallK (g:Gx) (d:Nat) (fv:Value) (args:LB) (own:Own) (Q:LH) (R:LI):Prop:=
 ∀c A st frz s vs,Ok g c A d→st.own=own→S g c st frz s→RepL (Hq g frz) vs args→codeAny (model g.prog g.w) A (.call fv ⟨vs,[]⟩)
  (fun r s'=>match r with
   | .ok (.ret v)=>GotC g c st.vars frz Q v s'
   | .ok _=>False
   | .error e=>Rz g c (fun x st'=>st'.vars=st.vars∧R x st'.own) frz e s') s
theorem CallK.toV {fv:Value} {args:LB} {own:Own} {Q:LH} {R:LI} (h:CallK g d fv args own Q R):CallV g d fv args own Q R:=fun c A st frz s vs ok ho X r=>QH (h c A st frz s vs ok ho X r)
noncomputable def dE (sc:Scope):LP→LB→aM
 | x::xs,p::ps=>if sc.names.contains (x,.local) then (x,some p)::dE sc xs ps else dE sc xs ps
 | _,_=>[]
theorem mK (sc:Scope) (x:Str) (xs:LP) (p:PV) (ps:LB):dE sc (x::xs) (p::ps)=if sc.names.contains (x,.local) then (x,some p)::dE sc xs ps else dE sc xs ps:=rfl
inductive CellR (o:LD) (H:Hp) (a:Addr) (e:Led):Prop
 | mk (ob:Obj) (w:Option Value) (h:e=[(a,ob)]) (d:ob.data=.cell w) (r:∀p,o=some p→∃u,w=some u∧Rep H u p)
noncomputable def bz (o:LD):AO:=.obj (CellR o)
noncomputable def bp (l:List (Str×PV)) (cs:List (Str×Addr)):Own:=cs.map fun p=>(p.2,bz (l.lookup p.1))
theorem lD {sc:Scope} {y:Str} {o:LD}:∀{xs:LP} {ps:LB},(y,o)∈dE sc xs ps→(y,NameKind.local)∈sc.names∧∃p,o=some p∧(y,p)∈xs.zip ps:=by
 intro xs
 induction xs with
 | nil=>intro ps h;cases ps<;>cases h
 | cons x xs ih=>
  intro ps h;cases ps with|nil=>cases h|cons p ps=>?_
  rw [mK] at h;by_cases hx:sc.names.contains (x,.local)=true
  ·rw [if_pos hx] at h;rcases Me.mp h with e|h
   ·cases e;exact ⟨Mq.mp hx,p,rfl,.head _⟩
   ·obtain ⟨h1,q,h2,h3⟩:=ih h;exact ⟨h1,q,h2,.tail _ h3⟩
  ·replace h:=(if_neg hx)▸h;obtain ⟨h1,q,h2,h3⟩:=ih h;exact ⟨h1,q,h2,.tail _ h3⟩
theorem sz {sc:Scope}:∀{xs:LP} {ps:LB},(∀x∈xs,(x,NameKind.local)∈sc.names)→dE sc xs ps=dG xs ps:=by
 intro xs
 induction xs with
 | nil=>intro ps _;cases ps<;>rfl
 | cons x xs ih=>
  intro ps h;cases ps with|nil=>rfl|cons p ps=>?_
  rw [mK,if_pos (Mq.mpr (h x (.head _))),ih fun y hy=>h y (.tail _ hy)];rfl
theorem ut {H:Hp} {y:Str} {pv:PV}:∀{xs:LP} {ps:LB} {vs:LO},RepL H vs ps→(y,pv)∈xs.zip ps→∃v,(y,v)∈xs.zip vs∧Rep H v pv:=by
 intro xs
 induction xs with
 | nil=>intro _ _ _ h;cases h
 | cons x xs ih=>
  intro ps vs hr h;cases ps with|nil=>cases h|cons p ps=>?_
  obtain ⟨v,r,rfl,h1,h2⟩:=hr;refine Mx (Me.mp h) (fun e=>?_) fun h=>?_
  ·cases e;exact ⟨v,.head _,h1⟩
  ·obtain ⟨w,h3,h4⟩:=ih h2 h;exact ⟨w,.tail _ h3,h4⟩
theorem jE {k:Str→Option NameKind} {y:Str}:∀{bs:List (Str×Value)} {m:LN},y∉bs.map (·.1)→bindL k bs m y=m y
 | [],_,_=>rfl
 | (n,v)::r,m,h=>by
  rw [bindL,jE fun q=>h (.tail _ q)]
  split
  ·exact if_neg fun e=>h (by subst e;exact .head _)
  ·rfl
theorem tY {k:Str→Option NameKind} {y:Str} {v:Value} (hk:k y=some .local):∀{bs:List (Str×Value)} {m:LN},(bs.map (·.1)).Nodup→(y,v)∈bs→bindL k bs m y=some v:=by
 intro bs
 induction bs with
 | nil=>exact fun _ h=>nomatch h
 | cons p r ih=>
  intro m nd h;obtain ⟨n,w⟩:=p;have nd:=Mt.mp nd;rcases Me.mp h with e|h
  ·cases e;rw [bindL,jE nd.1,if_pos hk];exact if_pos rfl
  ·rw [bindL];exact ih nd.2 h
theorem jF {k:Str→Option NameKind} {y:Str}:∀{bs:List (Str×Value)} {m:LN},y∉bs.map (·.1)→bindC k bs m y=m y
 | [],_,_=>rfl
 | (n,v)::r,m,h=>by
  rw [bindC,jF fun q=>h (.tail _ q)]
  split
  ·rfl
  ·exact if_neg fun e=>h (by subst e;exact .head _)
theorem tZ {k:Str→Option NameKind} {y:Str} {v:Value} (hk:k y≠some .local):∀{bs:List (Str×Value)} {m:LN},(bs.map (·.1)).Nodup→(y,v)∈bs→bindC k bs m y=some v:=by
 intro bs
 induction bs with
 | nil=>exact fun _ h=>nomatch h
 | cons p r ih=>
  intro m nd h;obtain ⟨n,w⟩:=p;have nd:=Mt.mp nd;rcases Me.mp h with e|h
  ·cases e;rw [bindC,jF nd.1,if_neg hk];exact if_pos rfl
  ·rw [bindC];exact ih nd.2 h
theorem jw {y:Str×Addr}:∀{names:List (Str×NameKind)} {n:Nat} {acc:List (Str×Addr)},y∈cellsFrom n names acc→(y.1,NameKind.cell)∈names∨y∈acc:=by
 intro names
 induction names with
 | nil=>exact fun h=>.inr h
 | cons p r ih=>
  intro n acc h;obtain ⟨x,k⟩:=p;rw [cellsFrom] at h;by_cases hk:(k==NameKind.cell)=true
  ·replace h:=(if_pos hk)▸h;rcases ih h with h|h
   ·exact .inl (.tail _ h)
   ·refine Mx (Me.mp h) (fun e=>?_) fun h=>?_
    ·subst e;cases eq_of_beq hk;exact .inl (.head _)
    ·exact .inr h
  ·rw [if_neg hk] at h;exact (ih h).imp (.tail _) id
theorem iA:∀{names:List (Str×NameKind)} {n:Nat} {acc:List (Str×Addr)},(names.map (·.1)).Nodup→(acc.map (·.1)).Nodup→(∀x∈acc.map (·.1),x∉names.map (·.1))→((cellsFrom n names acc).map (·.1)).Nodup:=by
 intro names
 induction names with
 | nil=>exact fun _ h _=>h
 | cons p r ih=>
  intro n acc nd h hd;obtain ⟨x,k⟩:=p;have nd:=Mt.mp nd;rw [cellsFrom]
  split
  ·exact ih nd.2 (Mt.mpr ⟨fun hx=>hd x hx (.head _),h⟩) fun y hy=>by
    refine Mx (Me.mp hy) (fun e=>?_) fun hy=>?_
    ·subst e;exact nd.1
    ·exact fun q=>hd y hy (.tail _ q)
  ·exact ih nd.2 h fun y hy q=>hd y hy (.tail _ q)
theorem jx {x:Str}:∀{names:List (Str×NameKind)} {n:Nat} {acc:List (Str×Addr)},(x,NameKind.cell)∈names∨x∈acc.map (·.1)→x∈(cellsFrom n names acc).map (·.1):=by
 intro names
 induction names with
 | nil=>exact fun h=>h.elim (fun h=>nomatch h) id
 | cons p r ih=>
  intro n acc h;obtain ⟨y,k⟩:=p;rw [cellsFrom]
  split
  ·refine ih (h.elim (fun h=>?_) fun h=>.inr (.tail _ h));rcases Me.mp h with e|h
   ·injection e with e;subst e;exact .inr (.head _)
   ·exact .inl h
  ·rename_i hk;refine ih (h.imp (fun h=>?_) id);rcases Me.mp h with e|h
   ·cases e;exact absurd rfl hk
   ·exact h
theorem lO {H:Hp} {h:Heap} {l:List (Str×PV)}:∀{cs:List (Str×Addr)},(∀p∈cs,∃ob,∃w:Option Value,h.get? p.2=some ob∧ob.data=.cell w∧∀q,l.lookup p.1=some q→∃u,w=some u∧Rep H u q)→
 ∃es:Led,OwnR H (bp l cs) es∧(∀q∈es,h.get? q.1=some q.2)∧es.map (·.1)=cs.map (·.2):=by
 intro cs
 induction cs with
 | nil=>exact fun _=>⟨[],rfl,(fun q h=>nomatch h),rfl⟩
 | cons p cs ih=>
  intro hp;refine u23 (hp p (.head _)) ?_;rintro ob w h1 h2 h3;refine u13 (ih fun q hq=>hp q (.tail _ hq)) ?_;rintro es h4 h5 h6;exact ⟨(p.2,ob)::es,⟨[(p.2,ob)],es,rfl,fun H' k=>⟨ob,w,rfl,h2,fun q hq=>by obtain ⟨u,a,b⟩:=h3 q hq;exact ⟨u,a,b.monoT k⟩⟩,h4⟩,
   fun q hq=>by
    refine Mx (Me.mp hq) (fun e=>?_) fun hq=>?_
    ·subst e;exact h1
    ·exact h5 q hq,by rw [Mu,Mu,h6]⟩
theorem tu {c c':Cx} {st st':St} {frz ow frs ces:Led} {h h₁:Heap} {m m':LN} {oL:Obj} (C:Core g c st frz h m ow frs) (hL:h.get? c.L=some oL) (hk:∀b ob,h.get? b=some ob→h₁.get? b=some ob)
 (ns:h₁.Ns c'.L m') (bl:g.base.objs.size≤c'.L) (cup:∀p∈ces,c'.L<p.1) (cnd:(ces.map (·.1)).Nodup) (cg:∀p∈ces,h₁.get? p.1=some p.2)
 (O:OwnR (Hq g frz) st'.own (ces++ow)) (V:VarsR (Hq g frz) m' st'.vars) (eL:autoParam (c'.L=h.objs.size) aR) (hf:autoParam (c'.frs=(c.L,oL)::frs) aR):Core g c' st' frz h₁ m' (ces++ow) ((c.L,oL)::frs):=by
 have lt:∀p∈ow++(frz++(c.L,oL)::frs),h.get? p.1=some p.2∧g.base.get? p.1=none:=fun p hp=>by
  refine Mx (vz hp) (fun hz=>?_) fun hp=>?_
  ·obtain rfl:=hz;exact ⟨hL,Ot C.F.above⟩
  ·exact ⟨(C.N p hp).1,(C.N p hp).2.2⟩
 rw [eL] at bl cup;refine ⟨⟨ns,fun b ob q=>hk b ob (C.F.keep b ob q),by rw [eL];exact bl⟩,fun p hp=>?_,?_,by refine hf▸?_;exact SameUp.refl _,O,V⟩
 ·rw [Mb] at hp;rw [eL];refine Mx (Mi.mp hp) (fun hp=>?_) fun hp=>?_
  ·exact ⟨cg p hp,NV (cup p hp),Ot (Mj bl (Pc (cup p hp)))⟩
  ·exact ⟨hk _ _ (lt p hp).1,Nh (MI (lt p hp).1),(lt p hp).2⟩
 ·rw [Mb,Mz];refine MH.mpr ⟨cnd,mC.mpr ⟨fun hm=>?_,C.nd⟩,fun u hu v hv e=>?_⟩
  ·refine u12 (Ma.mp hm) ?_;rintro p hp q;exact (C.N p hp).2.1 q
  ·refine u12 (Ma.mp hu) ?_;rintro p hp rfl;refine u12 (Ma.mp hv) ?_;rintro q hq rfl;exact absurd (MI (lt q hq).1) (Qn.mpr (Pc (e▸cup p hp)))
theorem dU {a:Addr} {ps:LP} {ds:LB} {body:LT} {scope:Scope} {others:LP} {args:LB} {own:Own} {Q:LH} {R:LI} (hg:GOk g) (hf:FnA g a ps ds body scope) (hl:(args++ds).length=ps.length)
 (ndp:ps.Nodup) (hk:∀x∈ps,(x,NameKind.local)∈scope.names∨(x,NameKind.cell)∈scope.names) (hnd:((dE scope ps (args++ds)).map (·.1)++others).Nodup) (hloc:∀x∈others,(x,NameKind.local)∈scope.names)
 (h:∀c A,Ok g c A d→c.cs=scope→c.cells=cellsFrom (c.L+1) scope.names []→Ex g c A (execs body c.env) ⟨dE scope ps (args++ds)++bF others,bp (ps.zip (args++ds)) c.cells++own⟩ (iL Q) (fun x st'=>R x st'.own)):CallK g (d+1) (.ref a) args own Q R:=by
 obtain ⟨⟨o,fd,h2,h3,h4,h5,h6,h7,h8,h9,hb⟩,co,gen,kind,nd,dbg⟩:=hf;subst h5;intro c A st frz s vs₀ ok hown X r₀;refine u12 (hb s X.keep vs₀ (by exact r₀.length▸hl▸Mf▸rfl)) ?_;rintro ws hws hb;have r:=r₀.app (hws _);generalize args++ds=args at *;generalize hvs:vs₀++ws=vs at *;obtain ⟨⟨m,ow,frs,C⟩,nn,lc⟩:=X;have F:=C.F;refine u34 C.F.ns ?_;rintro oL es ep hL hLd hLk hLf;have hvl:vs.length=ps.length:=r.length.trans hl;have keys:(ps.zip vs).map (·.1)=ps:=by rw [RF];exact HO hvl
 have look:∀{x k},(x,k)∈fd.scope.names→fd.scope.names.lookup x=some k:=fun h=>aA nd h;refine codeAny_call_function (MZ (HN) ok.room) (F.keep _ _ h2) h3 co gen h4 (h9.keeps F.keep) (hb _ _ _ _ ?_);refine h6▸?_;refine wpAny_newFunctionEnv_cells kind (fun x hx=>(hk x.1 (by refine keys▸?_;exact Ma.mpr ⟨x,hx,rfl⟩)).imp look fun q=>⟨look q,?_⟩) fun env' he s' x=>?_
 ·refine u12 (Ma.mp (jx (n:=s.heap.objs.size+1) (acc:=[]) (.inl q))) ?_;rintro p hp e;rw [NY];exact ⟨p.2,aA (iA nd NP fun _ h=>nomatch h) (by refine e▸?_;exact hp)⟩
 subst he;refine ⟨(hg.T.nolimit.keeps F.keep).keeps x.toInCall.keep,codeAny_func ?_⟩;refine u22 x.done ?_;rintro h₁ tk rfl hk₁;have envEq:newEnv fd.scope s.heap.objs.size fd.globals (cellsFrom (s.heap.objs.size+1) fd.scope.names []) (fd.qualname ++ ".<locals>.") (some a) fd.code none fd.builtins={ envOf fd.qualname fd.scope s.heap.objs.size a fd.code with cells:=cellsFrom (s.heap.objs.size+1) fd.scope.names [] }:=by
  unfold envOf;refine h7▸h8▸?_;rfl
 rw [envEq] at x⊢
 let c':Cx:=⟨s.heap.objs.size,fd.qualname,fd.scope,a,fd.code,c.env::c.outer,(c.L,oL)::frs,cellsFrom (s.heap.objs.size+1) fd.scope.names []⟩
 have ok':Ok g c' (A.deeper c'.env) d:=⟨by show A.frames.map _=_;rw [ok.frames];rfl,⟨by show c.cs.kind≠.module;refine ok.kind▸?_;decide,rfl,⟨es,ep,hLd⟩,ok.fr.up C.SU⟩,kind,nd,dbg,
  by show A.depth+1+d<_;have:=ok.room;exact xK this,by show A.units+3+4*d+8<_;have:=ok.units;exact HM this,ok.hand,ok.guards⟩
 have baseLt:g.base.objs.size≤s.heap.objs.size:=Mj F.above (Pc (MI hL));have zl:∀{y pv},(y,pv)∈ps.zip args→∃v,(y,v)∈ps.zip vs∧Rep (Hq g frz) v pv:=fun h=>ut r h;obtain ⟨ces,cr,cg,ck⟩:=lO (H:=Hq g frz) (h:=h₁) (l:=ps.zip args) (cs:=c'.cells) fun p hp=>by
  have hcell:(p.1,NameKind.cell)∈fd.scope.names:=(jw hp).elim id fun h=>nomatch h;refine u12 (x.cell p.1 p.2 (aA (iA nd NP fun _ h=>nomatch h) hp)) ?_;rintro ob h1 h2;refine ⟨ob,_,h1,h2,fun q hq=>?_⟩;refine u12 (zl (mem_of_lookup hq)) ?_;rintro v hv rv;exact ⟨v,tZ (by show fd.scope.names.lookup p.1≠_;refine (look hcell)▸?_;decide) (by refine keys.symm▸?_;exact ndp) hv,rv⟩
 have cup:∀p∈ces,s.heap.objs.size<p.1:=fun p hp=>by
  have:p.1∈ces.map (·.1):=Ma.mpr ⟨p,hp,rfl⟩;rw [ck] at this;refine u12 (Ma.mp this) ?_;rintro q hq e;refine e▸?_;exact x.above q.1 q.2 hq
 have cnd:(ces.map (·.1)).Nodup:=by
  rw [ck];exact List.pairwise_map.mpr x.apart
 have C':Core g c' ⟨dE fd.scope ps args++bF others,bp (ps.zip args) c'.cells++st.own⟩ frz h₁ (bindL c'.env.kindOf (ps.zip vs) fun _=>none) (ces++ow) ((c.L,oL)::frs):=by
  refine tu C hL hk₁ x.toInCall.ns baseLt cup cnd cg (cr.app C.O) fun y pv hy=>?_;rcases Mi.mp hy with hy|hy
  ·obtain ⟨h1,q,h2,h3⟩:=lD hy;injection h2 with h2;subst h2;refine u12 (zl h3) ?_;rintro v hv rv;exact ⟨v,tY (look h1) (by refine keys.symm▸?_;exact ndp) hv,rv⟩
  ·refine u12 (Ma.mp hy) ?_;rintro z _ q;cases q
 have keysV:(dE fd.scope ps args++bF others).map (·.1)=(dE fd.scope ps args).map (·.1)++others:=by
  rw [Mz,NE];congr 1;exact PW _
 have X':S g c' ⟨dE fd.scope ps args++bF others,bp (ps.zip args) c'.cells++own⟩ frz { s with heap:=h₁,toks:=tk }:=⟨⟨_,_,_,hown▸C'⟩,by refine keysV▸?_;exact hnd,(fun y hy=>by
  replace hy:=keysV▸hy;rcases Mi.mp hy with hy|hy
  ·refine u12 (Ma.mp hy) ?_;rintro p hp rfl;exact (lD hp).1
  ·exact hloc y hy),lc.2⟩
 refine tt (h c' _ ok' rfl rfl frz _ X') (fun fl s' hh=>?_) fun v s' hh=>?_
 ·obtain ⟨af,st',f',a,⟨⟨m',ow',frs',C2⟩,_,lq⟩,rr,q⟩:=hh;refine u22 (C.back hL C2 a rfl) ?_;rintro oL' frs'' _ C3;have X3:S g c { st with own:=st'.own } f' s':=⟨⟨m,ow',frs'',C3⟩,nn,lc.1,lq.2⟩
  show GotC _ _ _ _ _ _ _;cases fl with
  | ret v=>cases af with
   | ret pv=>exact ⟨pv,st'.own,f',a,X3,rr,q⟩
   | _=>exact rr.elim
  | next=>cases af with
   | next=>exact ⟨.none,st'.own,f',a,X3,rfl,q⟩
   | _=>exact rr.elim
  | brk=>cases af with
   | brk=>exact ⟨.none,st'.own,f',a,X3,rfl,q⟩
   | _=>exact rr.elim
  | cont=>cases af with
   | cont=>exact ⟨.none,st'.own,f',a,X3,rfl,q⟩
   | _=>exact rr.elim
 ·obtain ⟨e,x,st',f',fl,rfl,a,X2,hfl,q⟩:=hh;show wpAny _ _ (leaving c'.env (.ref e)) _ _ _;unfold leaving;refine KE (my ok'.fr ok'.kind ok'.frames X2 hfl fun s2 X3=>dP ok'.fr X3 fun s3 X4=>?_);obtain ⟨⟨m',ow',frs',C2,L⟩,_,lq⟩:=X4;refine u22 (C.back hL C2 a rfl) ?_;rintro oL' frs'' rfl C3;refine ⟨e,x,{ st with own:=st'.own },f',some .none,rfl,a,⟨⟨m,ow',frs'',C3,?_⟩,nn,lc.1,lq.2⟩,.inr (.inl rfl),rfl,q⟩;obtain ⟨⟨oe,ws,dd,od,k1,k2,k3,k4,k5,k6,k7,k8⟩,lb,ll,lled⟩:=L;obtain ⟨T,oT,ts,t1,t2,t3,t4,t5,t6,t7,t8⟩:=k6;exact ⟨⟨oe,ws,dd,od,k1,k2,k3,k4,k5,⟨T,oT,ts,t1,t2,t3,t4,t5,t6,NM (t8 _ gV),fun p hp=>t8 p (mD hp)⟩,k7,k8⟩,lb,NM (lled _ gV),fun p hp=>lled p (mD hp)⟩
theorem eQ {a:Addr} {ps:LP} {ds:LB} {body:LT} {scope:Scope} {others:LP} {args:LB} {own:Own} {Q:LH} {R:LI} (hg:GOk g) (hf:FnA g a ps ds body scope) (hl:(args++ds).length=ps.length)
 (hnd:(ps++others).Nodup) (hloc:∀x∈ps++others,(x,NameKind.local)∈scope.names)
 (h:∀c A,Ok g c A d→c.cs=scope→Ex g c A (execs body c.env) ⟨dG ps (args++ds)++bF others,own⟩ (iL Q) (fun x st'=>R x st'.own)) (hcell:(scope.names.all fun x=>x.2 != .cell)=true:=by decide +kernel):CallK g (d+1) (.ref a) args own Q R:=by
 have e:dE scope ps (args++ds)=dG ps (args++ds):=sz fun x hx=>hloc x (Mc _ hx);refine dU hg hf hl (MH.mp hnd).1 (fun x hx=>.inl (hloc x (Mc _ hx))) (by refine e.symm▸(iQ hl).symm▸?_;exact hnd) (fun x hx=>hloc x (LZ _ hx)) fun c A ok hc hcs=>?_;have hcs:c.cells=[]:=by
  refine hcs▸?_;cases hh:cellsFrom (c.L+1) scope.names [] with
  | nil=>rfl
  | cons p r=>
   refine Mx (jw (hh▸Rf)) (fun h=>?_) fun h=>?_
   ·exact absurd rfl (bne_iff_ne.mp (Mo.mp hcell _ h))
   ·cases h
 refine e▸hcs▸?_;exact h c A ok hc
theorem bt {a:Addr} {ps:LP} {ds:LB} {body:LT} {scope:Scope} {others:LP} {args:LB} {own:Own} {Q:LH} {R:LI} (hg:GOk g) (hf:FnA g a ps ds body scope) (hl:(args++ds).length=ps.length)
 (hnd:(ps++others).Nodup) (hloc:∀x∈ps++others,(x,NameKind.local)∈scope.names)
 (h:∀c A,Ok g c A d→c.cs=scope→Ex g c A (execs body c.env) ⟨dG ps (args++ds)++bF others,own⟩ (iL Q) (fun x st'=>R x st'.own)) (hcell:(scope.names.all fun x=>x.2 != .cell)=true:=by decide +kernel):CallV g (d+1) (.ref a) args own Q R:=(eQ hg hf hl hnd hloc h hcell).toV
end
theorem gP {M:Model} {A:Around} {vs:LO} {m:Sem Value} {Q:LM} {E:LM} {s:Shared} (h:wpAny M A m Q E s):wpAny M A (operate vs m) Q E s:=fun Γ p hΓ=>by
 rw [Sem.wp_operate];exact h Γ p hΓ
def KeepOk (g:Gx) (v:Value):Prop:=∀h:Heap,(∀b o,g.base.get? b=some o→h.get? b=some o)→∃k,(k=Keeper.frame∨k=Keeper.machine∨k=Keeper.boundFrame)∧Looks (model g.prog g.w) h (keeperOf v) k
def bH (g:Gx) (f:Str) (v:Value):Prop:=g.mg f=some v∨(g.mg f=none∧g.mb f=some v)
def CallN (g:Gx) (d:Nat) (f:Str) (args:LB) (own:Own) (Q:LH) (R:LI):Prop:=
 ∃v,bH g f v∧KeepOk g v∧CallV g d v args own Q R
section
variable {g:Gx} {c:Cx} {A:Around} {st:St} {R:LG} {d:Nat}
theorem KeepOk.fn {a:Addr} {o:Obj} {fd:FuncData} (h:g.base.get? a=some o) (hd:o.data=.func fd):KeepOk g (.ref a):=fun hp k=>by
 refine (v12 (.frame) (.inl rfl) ?_);unfold keeperOf;intro A Q E s kk q;refine KE (wpAny_load (kk _ _ (k _ _ h)) ?_);refine hd▸?_;exact Mh q
theorem KeepOk.bi {id:String}:KeepOk g (.builtin id):=fun hp k=>(v12 (.machine) (.inr (.inl rfl)) (fun A Q E s kk q=>by unfold keeperOf;exact Mh q))
theorem KeepOk.ty {id:String}:KeepOk g (.type id):=fun hp k=>(v12 (.machine) (.inr (.inl rfl)) (fun A Q E s kk q=>by unfold keeperOf;exact Mh q))
theorem Evs.nil {env:Env} {pos} {Q:LB→St→Prop} (q:Q [] st):Evs g c A (spliced (backTo pos (starEach [] env))) st Q R:=fun frz s X=>
 Qy ⟨[],st,frz,Sub.refl _,X,rfl,q⟩
theorem Evs.cons {env:Env} {pos} {e:Expr} {rest:LS} {Q:LB→St→Prop} (h:Ev g c A (eval e env) st (fun pv st'=>Evs g c A (spliced (backTo pos (starEach rest env))) st' (fun ps st''=>Q (pv::ps) st'') R) R)
 (he:autoParam (starEach (e::rest) env=(false,eval e env)::starEach rest env) aR):Evs g c A (spliced (backTo pos (starEach (e::rest) env))) st Q R:=fun frz s X=>by
 refine Ox (tt (h frz s X) (fun v s' hh=>?_) fun _ _ e=>e) he;obtain ⟨pv,st',f',a,X',r,q⟩:=hh;refine tt (q f' s' X') (fun vs s'' hh=>?_) fun _ _ e=>e.mono a;obtain ⟨ps,st'',f'',a',X'',r',q'⟩:=hh;exact ⟨pv::ps,st'',f'',Sub.trans a a',X'',⟨v,vs,rfl,r.mono (Hq.mono a'),r'⟩,q'⟩
structure EnvG (env:Env) (f:Str):Prop where
 glob:env.globals=mainGlobals
 bi:env.builtins=builtinsNs
 kind:env.scope.kind=.function
 look:env.kindOf f=some .globalImplicit
 dbg:(f==("__debug__" : Str))=false
theorem Ok.envG (ok:Ok g c A d) {f:Str} (hk:(f,NameKind.globalImplicit)∈c.cs.names):EnvG c.env f:=⟨rfl,rfl,ok.kind,aA ok.nd hk,ok.noDbg hk⟩
theorem cF {env:Env} (hg:GOk g) {f:Str} {pos:Pos} {v:Value} {s:Shared} {frz:Led} (hk:EnvG env f) (hn:bH g f v) (X:S g c st frz s)
 {Q:LM} {E:LM} (q:Q v s):wpAny (model g.prog g.w) A (eval (.Name f pos) env) Q E s:=by
 refine Name_function_global hk.kind hk.look ?_ hk.dbg;refine Mx hn (fun h=>?_) fun hz=>?_
 ·exact loadGlobal_global (env:=env) (by refine hk.glob▸?_;exact hg.T.g.keeps X.keep) h q
 ·obtain ⟨h,h'⟩:=hz;exact loadGlobal_builtin (env:=env) (by refine hk.glob▸?_;exact hg.T.g.keeps X.keep) h (by refine hk.bi▸?_;exact hg.T.b.keeps X.keep) h' q
def md (g:Gx) (d:Nat) (f:Str) (Q:LE) (R:LG) (ps:LB) (st:St):Prop:=
 CallN g d f ps st.own (fun pv own'=>Q pv { st with own:=own' }) fun x own'=>R x { st with own:=own' }
theorem KQ {frz frz':Led} {st':St} {v:Value} {s:Shared} (k:Sub frz frz') (h:Rz g c (fun x st''=>st''.vars=st'.vars∧R x { st' with own:=st''.own }) frz' v s):Rz g c R frz v s:=by
 obtain ⟨e,x,st'',f'',fl,h1,h2,h3,h4,h5,h6⟩:=h;refine ⟨e,x,st'',f'',fl,h1,fun p hp=>h2 p (k p hp),h3,h4,?_⟩;have:st''={ st' with own:=st''.own }:=by cases st'';cases st';simp only at h5;simp [h5]
 refine this▸?_;exact h6
theorem Ev.call {env:Env} (hg:GOk g) (ok:Ok g c A d) {f:Str} {fp pos:Pos} {e:Expr} {rest:LS} {Q:LE} (hk:EnvG env f)
 (h:Evs g c A (spliced (backTo pos (starEach (e::rest) env))) st (md g d f Q R) R) (hn:∃v,bH g f v∧KeepOk g v)
 (he:autoParam (starEach (e::rest) env=(false,eval e env)::starEach rest env) aR) (hplain:autoParam ((backTo pos (starEach rest env)).any (·.1)=false) aR) :
 Ev g c A (eval (.Call (.Name f fp) (e::rest) [] pos) env) st Q R:=fun frz s X=>by
 refine u12 hn ?_;clear hn;rintro v hn hkp;rw [RS];refine KE (cF hg hk hn X ?_);have h':=h frz s X;rw [he] at h'⊢;refine RL (P:=fun h=>∀b o,g.base.get? b=some o→h.get? b=some o) (by show ((false||(backTo pos (starEach rest env)).any (·.1))||false)=false;refine hplain.symm▸?_;rfl) hkp (On (tt h' (fun vs s' hh=>?_) fun _ _ e=>e));obtain ⟨ps,st',f',a,X',r,v',hn',_,q⟩:=hh;have:v'=v:=by
  rcases hn with h1|⟨h1,h2⟩<;>rcases hn' with h3|⟨h3,h4⟩
  ·rw [h1] at h3;exact (Mm h3).symm
  ·replace h3:=h1▸h3;injection h3
  ·replace h3:=h1▸h3;injection h3
  ·rw [h2] at h4;exact (Mm h4).symm
 subst this;refine ⟨X'.keep,tt (q c A st' f' s' vs ok rfl X' r) (fun v s'' hh=>?_) fun _ _ e=>KQ a e⟩;obtain ⟨pv,own',f'',a',X'',r',q'⟩:=hh;exact ⟨pv,_,f'',Sub.trans a a',X'',r',q'⟩
theorem KM {env:Env} (hg:GOk g) (ok:Ok g c A d) {f:Str} {fp pos:Pos} {Q:LE} (hk:EnvG env f)
 (h:md g d f Q R [] st):Ev g c A (eval (.Call (.Name f fp) [] [] pos) env) st Q R:=fun frz s X=>by
 refine u13 h ?_;clear h;rintro v hn hkp q;rw [RS];refine KE (cF hg hk hn X ?_);refine RL (P:=fun h=>∀b o,g.base.get? b=some o→h.get? b=some o) rfl hkp (evalArgs_nil3 ⟨X.keep,?_⟩);refine tt (q c A st frz s [] ok rfl X rfl) (fun v s'' hh=>?_) fun _ _ e=>KQ (Sub.refl _) e;obtain ⟨pv,own',f'',a',X'',r',q'⟩:=hh;exact ⟨pv,_,f'',a',X'',r',q'⟩
theorem Ev.bin {env:Env} (ok:Ok g c A d) {l r:Expr} {op:Operator} {pos:Pos} {Q:LE}
 (h:Ev g c A (eval l env) st (fun a st₁=>Ev g c A (eval r env) st₁ (fun b st₂=>BinW g A (binaryOp op) a b fun r=>Q r st₂) R) R):Ev g c A (eval (.BinOp l op r pos) env) st Q R:=fun frz s X=>by
 refine wpAny_BinOp (tt (h frz s X) (fun v s₁ hh=>?_) fun _ _ e=>e);obtain ⟨a,st₁,f₁,a₁,X₁,r₁,q₁⟩:=hh;refine tt (q₁ f₁ s₁ X₁) (fun w s₂ hh=>?_) fun _ _ e=>e.mono a₁;obtain ⟨b,st₂,f₂,a₂,X₂,r₂,q₂⟩:=hh;refine tt (q₂ c st₂ f₂ s₂ v w _ ok.hand X₂ (r₁.mono (Hq.mono a₂)) r₂) (fun u s₃ hh=>?_) fun _ _ e=>e;obtain ⟨pv,f₃,a₃,X₃,r₃,q₃⟩:=hh;exact ⟨pv,st₂,f₃,Sub.trans a₁ (Sub.trans a₂ a₃),X₃,r₃,q₃⟩
def CmpW (g:Gx) (A:Around) (op:CmpOp) (a b:PV) (Q:Bool→Prop):Prop:=
 ∀c st frz s v w E,A.units+8<cLine→A.handled=none→A.guards=some []→S g c st frz s→Rep (Hq g frz) v a→Rep (Hq g frz) w b→wpAny (model g.prog g.w) A (compareOp op v w) (fun r s'=>∃b frz',Sub frz frz'∧S g c st frz' s'∧r=.bool b∧Q b) E s
theorem Ev.cmp {env:Env} (ok:Ok g c A d) {l r:Expr} {op:CmpOp} {pos:Pos} {Q:LE}
 (h:Ev g c A (eval l env) st (fun a st₁=>Ev g c A (eval r env) st₁ (fun b st₂=>CmpW g A op a b fun r=>Q (.bool r) st₂) R) R) (hm:autoParam (behindInMarks op r=false) aR) :
 Ev g c A (eval (.Compare l [op] [r] pos) env) st Q R:=fun frz s X=>by
 refine TD (tt (h frz s X) (fun v s₁ hh=>?_) fun _ _ e=>e) hm;obtain ⟨a,st₁,f₁,a₁,X₁,r₁,q₁⟩:=hh;refine tt (q₁ f₁ s₁ X₁) (fun w s₂ hh=>?_) fun _ _ e=>e.mono a₁;obtain ⟨b,st₂,f₂,a₂,X₂,r₂,q₂⟩:=hh;refine tt (q₂ c st₂ f₂ s₂ v w _ (by have:=ok.units;exact me this) ok.hand ok.guards X₂ (r₁.mono (Hq.mono a₂)) r₂) (fun u s₃ hh=>?_) fun _ _ e=>e;refine u24 hh ?_;clear hh;rintro b f₃ a₃ X₃ rfl q₃;exact ⟨.bool b,st₂,f₃,Sub.trans a₁ (Sub.trans a₂ a₃),X₃,rfl,q₃⟩
theorem Tst.cmp {env:Env} (ok:Ok g c A d) {l r:Expr} {op:CmpOp} {pos:Pos} {whole:Sem Value} {Q:Bool→St→Prop}
 (h:Ev g c A (eval l env) st (fun a st₁=>Ev g c A (eval r env) st₁ (fun b st₂=>CmpW g A op a b fun r=>Q r st₂) R) R) (hm:autoParam (behindInMarks op r=false) aR) :
 Tst g c A (isTrue (.Compare l [op] [r] pos) env whole) st Q R:=fun frz s X=>by
 refine RA (tt (h frz s X) (fun v s₁ hh=>?_) fun _ _ e=>e) hm;obtain ⟨a,st₁,f₁,a₁,X₁,r₁,q₁⟩:=hh;refine tt (q₁ f₁ s₁ X₁) (fun w s₂ hh=>?_) fun _ _ e=>e.mono a₁;obtain ⟨b,st₂,f₂,a₂,X₂,r₂,q₂⟩:=hh;refine tt (q₂ c st₂ f₂ s₂ v w _ (by have:=ok.units;exact me this) ok.hand ok.guards X₂ (r₁.mono (Hq.mono a₂)) r₂) (fun u s₃ hh=>?_) fun _ _ e=>e;refine u24 hh ?_;clear hh;rintro b f₃ a₃ X₃ rfl q₃;exact Nn ⟨st₂,f₃,Sub.trans a₁ (Sub.trans a₂ a₃),X₃,q₃⟩
theorem Tst.not {env:Env} {x:Expr} {pos:Pos} {whole:Sem Value} {Q:Bool→St→Prop} (h:Tst g c A (isTrue x env (eval x env)) st (fun b st'=>Q (!b) st') R):Tst g c A (isTrue (.UnaryOp .Not x pos) env whole) st Q R:=fun frz s X=>
 wpAny_isTrue_Not (tt (h frz s X) (fun b s₁ hh=>by obtain ⟨st',f',a,X',q⟩:=hh;exact ⟨st',f',a,X',q⟩) fun _ _ e=>e)
theorem Tst.val {env:Env} {e:Expr} {Q:Bool→St→Prop} (h:Ev g c A (eval e env) st (fun pv st'=>∃b,pv=.bool b∧Q b st') R)
 (he:autoParam (isTrue e env (eval e env)=(do let v←eval e env;standAt e.pos;holding [v] (truthy v))) aR):Tst g c A (isTrue e env (eval e env)) st Q R:=fun frz s X=>by
 refine he▸?_;refine KE (tt (h frz s X) (fun v s₁ hh=>?_) fun _ _ e=>e);obtain ⟨pv,st',f',a,X',r,b,rfl,q⟩:=hh;obtain rfl:v=.bool b:=r;exact KE (MW (Mw (Nn ⟨st',f',a,X',q⟩)))
def AllT (g:Gx) (c:Cx) (A:Around) (env:Env) (op:BoolOp) (es:LS) (st:St) (Q:Bool→St→Prop) (R:LG):Prop:=Tst g c A (allTrue op es env) st Q R
theorem Tst.bool {env:Env} {op:BoolOp} {es:LS} {pos:Pos} {whole:Sem Value} {Q:Bool→St→Prop} (h:AllT g c A env op es st Q R):Tst g c A (isTrue (.BoolOp op es pos) env whole) st Q R:=fun frz s X=>wpAny_isTrue_BoolOp (h frz s X)
theorem Lc {env:Env} {Q:Bool→St→Prop} (q:Q true st):AllT g c A env .And [] st Q R:=fun frz s X=>wpAny_allTrue_And_nil ⟨st,frz,Sub.refl _,X,q⟩
theorem Li {env:Env} {Q:Bool→St→Prop} (q:Q false st):AllT g c A env .Or [] st Q R:=fun frz s X=>wpAny_allTrue_Or_nil ⟨st,frz,Sub.refl _,X,q⟩
theorem AllT.and {env:Env} {x:Expr} {rest:LS} {Q:Bool→St→Prop} (h:Tst g c A (isTrue x env (eval x env)) st (fun b st'=>Br b (AllT g c A env .And rest st' Q R) (Q false st')) R):AllT g c A env .And (x::rest) st Q R:=fun frz s X=>by
 refine KE (m:=isTrue x env (eval x env)) (tt (h frz s X) (fun b s₁ hh=>?_) fun _ _ e=>e);obtain ⟨st',f',a,X',q⟩:=hh;cases b with
 | true=>exact tt (q.1 rfl f' s₁ X') (fun _ _ hh=>by obtain ⟨st'',f'',a',X'',q⟩:=hh;exact ⟨st'',f'',Sub.trans a a',X'',q⟩) fun _ _ e=>e.mono a
 | false=>exact Mh ⟨st',f',a,X',q.2 rfl⟩
theorem AllT.or {env:Env} {x:Expr} {rest:LS} {Q:Bool→St→Prop} (h:Tst g c A (isTrue x env (eval x env)) st (fun b st'=>Br b (Q true st') (AllT g c A env .Or rest st' Q R)) R):AllT g c A env .Or (x::rest) st Q R:=fun frz s X=>by
 refine KE (m:=isTrue x env (eval x env)) (tt (h frz s X) (fun b s₁ hh=>?_) fun _ _ e=>e);obtain ⟨st',f',a,X',q⟩:=hh;cases b with
 | false=>exact tt (q.2 rfl f' s₁ X') (fun _ _ ⟨st'',f'',a',X'',q⟩=>⟨st'',f'',Sub.trans a a',X'',q⟩) fun _ _ e=>e.mono a
 | true=>exact Mh ⟨st',f',a,X',q.1 rfl⟩
theorem Ev.ite {env:Env} {t b o:Expr} {pos:Pos} {Q:LE} (h:Tst g c A (isTrue t env (eval t env)) st (fun v st'=>Br v (Ev g c A (eval b env) st' Q R) (Ev g c A (eval o env) st' Q R)) R):Ev g c A (eval (.IfExp t b o pos) env) st Q R:=fun frz s X=>by
 refine KE (m:=isTrue t env (eval t env)) (tt (h frz s X) (fun v s₁ hh=>?_) fun _ _ e=>e);obtain ⟨st',f',a,X',q⟩:=hh;cases v with
 | true=>exact tt (q.1 rfl f' s₁ X') (fun _ _ ⟨pv,st'',f'',a',X'',r,q⟩=>⟨pv,st'',f'',Sub.trans a a',X'',r,q⟩) fun _ _ e=>e.mono a
 | false=>exact tt (q.2 rfl f' s₁ X') (fun _ _ ⟨pv,st'',f'',a',X'',r,q⟩=>⟨pv,st'',f'',Sub.trans a a',X'',r,q⟩) fun _ _ e=>e.mono a
theorem Ev.and {env:Env} {x y:Expr} {rest:LS} {pos:Pos} {Q:LE}
 (h:Ev g c A (eval x env) st (fun v st'=>∃b,v=.bool b∧Br b (Ev g c A (eval (.BoolOp .And (y::rest) pos) env) st' Q R) (Q (.bool false) st')) R):Ev g c A (eval (.BoolOp .And (x::y::rest) pos) env) st Q R:=fun frz s X=>by
 refine KE (m:=eval x env) (tt (h frz s X) (fun v s₁ hh=>?_) fun _ _ e=>e);obtain ⟨pv,st',f',a,X',r,b,rfl,q⟩:=hh;obtain rfl:v=.bool b:=r;refine KE (MW (KE (Mw (Nn ?_))));cases b with
 | true=>exact tt (q.1 rfl f' s₁ X') (fun _ _ ⟨pv,st'',f'',a',X'',r,q⟩=>⟨pv,st'',f'',Sub.trans a a',X'',r,q⟩) fun _ _ e=>e.mono a
 | false=>exact Mh ⟨.bool false,st',f',a,X',rfl,q.2 rfl⟩
theorem Ev.or {env:Env} {x y:Expr} {rest:LS} {pos:Pos} {Q:LE}
 (h:Ev g c A (eval x env) st (fun v st'=>∃b,v=.bool b∧Br b (Q (.bool true) st') (Ev g c A (eval (.BoolOp .Or (y::rest) pos) env) st' Q R)) R):Ev g c A (eval (.BoolOp .Or (x::y::rest) pos) env) st Q R:=fun frz s X=>by
 refine KE (m:=eval x env) (tt (h frz s X) (fun v s₁ hh=>?_) fun _ _ e=>e);obtain ⟨pv,st',f',a,X',r,b,rfl,q⟩:=hh;obtain rfl:v=.bool b:=r;refine KE (MW (KE (Mw (Nn ?_))));cases b with
 | false=>exact tt (q.2 rfl f' s₁ X') (fun _ _ ⟨pv,st'',f'',a',X'',r,q⟩=>⟨pv,st'',f'',Sub.trans a a',X'',r,q⟩) fun _ _ e=>e.mono a
 | true=>exact Mh ⟨.bool true,st',f',a,X',rfl,q.1 rfl⟩
theorem LU {env:Env} {op:BoolOp} {x:Expr} {pos:Pos} {Q:LE} (h:Ev g c A (eval x env) st Q R):Ev g c A (eval (.BoolOp op [x] pos) env) st Q R:=h
theorem Ev.cmp2 {env:Env} (ok:Ok g c A d) {l r r':Expr} {op op':CmpOp} {pos:Pos} {Q:LE}
 (h:Ev g c A (eval l env) st (fun a st₁=>Ev g c A (eval r env) st₁ (fun b st₂=>CmpW g A op a b fun v=>Br v (Ev g c A (eval r' env) st₂ (fun e st₃=>CmpW g A op' b e fun r=>Q (.bool r) st₃) R) (Q (.bool false) st₂)) R) R)
 (hm:autoParam (behindInMarks op' r'=false) aR):Ev g c A (eval (.Compare l [op,op'] [r,r'] pos) env) st Q R:=fun frz s X=>by
 have e0:eval (.Compare l [op,op'] [r,r'] pos) env=(do
  let a←eval l env
  let b←holding [a] (eval r env)
  standAt pos
  let v←holding [a,b] (compareOp op a b)
  release [a,b] [v]
  if←holding [v,b] (truthy v) then (do
   let e←holding [b] (eval r' env)
   standAt pos
   operate [b,e] (compareOp op' b e)) else pure v):=by
  show (do let a←eval l env;compareChain pos a [op,op'] [eval r env,markedBehindIn op' r' (eval r' env)])=_;rw [Rc hm];rfl
 refine e0▸?_;refine KE (tt (h frz s X) (fun v s₁ hh=>?_) fun _ _ e=>e);obtain ⟨a,st₁,f₁,a₁,X₁,r₁,q₁⟩:=hh;refine KE (Mw (tt (q₁ f₁ s₁ X₁) (fun w s₂ hh=>?_) fun _ _ e=>e.mono a₁));obtain ⟨b,st₂,f₂,a₂,X₂,r₂,q₂⟩:=hh;refine KE (MW (KE (Mw (tt (q₂ c st₂ f₂ s₂ v w _ (by have:=ok.units;exact me this) ok.hand ok.guards X₂ (r₁.mono (Hq.mono a₂)) r₂) (fun u s₃ hh=>?_) fun _ _ e=>e))));refine u24 hh ?_;clear hh;rintro u' f₃ a₃ X₃ rfl q₃;refine KE (wpAny_release ?_);refine KE (Mw (Nn ?_));cases u' with
 | false=>exact Mh ⟨.bool false,st₂,f₃,Sub.trans a₁ (Sub.trans a₂ a₃),X₃,rfl,q₃.2 rfl⟩
 | true=>
  refine KE (Mw (tt (q₃.1 rfl f₃ s₃ X₃) (fun z s₄ hh=>?_) fun _ _ e=>e.mono (Sub.trans a₁ (Sub.trans a₂ a₃))));obtain ⟨e,st₄,f₄,a₄,X₄,r₄,q₄⟩:=hh;refine KE (MW (gP (tt (q₄ c st₄ f₄ s₄ w z _ (by have:=ok.units;exact me this) ok.hand ok.guards X₄ (r₂.mono (Hq.mono (Sub.trans a₃ a₄))) r₄) (fun u s₅ hh=>?_) fun _ _ e=>e)));refine u24 hh ?_;clear hh;rintro b' f₅ a₅ X₅ rfl q₅;exact ⟨.bool b',st₄,f₅,Sub.trans a₁ (Sub.trans a₂ (Sub.trans a₃ (Sub.trans a₄ a₅))),X₅,rfl,q₅⟩
theorem Tst.cmp2 {env:Env} (ok:Ok g c A d) {l r r':Expr} {op op':CmpOp} {pos:Pos} {whole:Sem Value} {Q:Bool→St→Prop}
 (h:Ev g c A (eval l env) st (fun a st₁=>Ev g c A (eval r env) st₁ (fun b st₂=>CmpW g A op a b fun v=>Br v (Ev g c A (eval r' env) st₂ (fun e st₃=>CmpW g A op' b e fun r=>Q r st₃) R) (Q false st₂)) R) R)
 (hm:autoParam (behindInMarks op' r'=false) aR):Tst g c A (isTrue (.Compare l [op,op'] [r,r'] pos) env whole) st Q R:=fun frz s X=>by
 have e0:isTrue (.Compare l [op,op'] [r,r'] pos) env whole=(do
  let a←eval l env
  let b←holding [a] (eval r env)
  standAt pos
  let v←holding [a,b] (compareOp op a b)
  release [a,b] [v]
  if←holding [v,b] (truthy v) then (do
   let e←holding [b] (eval r' env)
   standAt pos
   let v←operate [b,e] (compareOp op' b e)
   holding [v] (truthy v)) else pure false):=by
  show (do let a←eval l env;testChain pos a [op,op'] [eval r env,markedBehindIn op' r' (eval r' env)])=_;rw [Rc hm];rfl
 refine e0▸?_;refine KE (tt (h frz s X) (fun v s₁ hh=>?_) fun _ _ e=>e);obtain ⟨a,st₁,f₁,a₁,X₁,r₁,q₁⟩:=hh;refine KE (Mw (tt (q₁ f₁ s₁ X₁) (fun w s₂ hh=>?_) fun _ _ e=>e.mono a₁));obtain ⟨b,st₂,f₂,a₂,X₂,r₂,q₂⟩:=hh;refine KE (MW (KE (Mw (tt (q₂ c st₂ f₂ s₂ v w _ (by have:=ok.units;exact me this) ok.hand ok.guards X₂ (r₁.mono (Hq.mono a₂)) r₂) (fun u s₃ hh=>?_) fun _ _ e=>e))));refine u24 hh ?_;clear hh;rintro u' f₃ a₃ X₃ rfl q₃;refine KE (wpAny_release ?_);refine KE (Mw (Nn ?_));cases u' with
 | false=>exact Mh ⟨st₂,f₃,Sub.trans a₁ (Sub.trans a₂ a₃),X₃,q₃.2 rfl⟩
 | true=>
  refine KE (Mw (tt (q₃.1 rfl f₃ s₃ X₃) (fun z s₄ hh=>?_) fun _ _ e=>e.mono (Sub.trans a₁ (Sub.trans a₂ a₃))));obtain ⟨e,st₄,f₄,a₄,X₄,r₄,q₄⟩:=hh;refine KE (MW (KE (gP (tt (q₄ c st₄ f₄ s₄ w z _ (by have:=ok.units;exact me this) ok.hand ok.guards X₄ (r₂.mono (Hq.mono (Sub.trans a₃ a₄))) r₄) (fun u s₅ hh=>?_) fun _ _ e=>e))));refine u24 hh ?_;clear hh;rintro b' f₅ a₅ X₅ rfl q₅;exact Mw (Nn ⟨st₄,f₅,Sub.trans a₁ (Sub.trans a₂ (Sub.trans a₃ (Sub.trans a₄ a₅))),X₅,q₅⟩)
theorem Rep.tupAt {frz:Led} {s:Shared} {v:Value} {l:LB} (X:S g c st frz s) (r:Rep (Hq g frz) v (.tup l)):∃a vs,v=.ref a∧IsTup s.heap a vs.toArray∧RepL (Hq g frz) vs l:=by
 obtain ⟨a,vs,n,e,h,hl⟩:=r;exact (v23 a vs e ⟨_,X.get h,rfl,n,rfl⟩ hl)
theorem Rep.lstAt {frz:Led} {s:Shared} {v:Value} {l:LB} (X:S g c st frz s) (r:Rep (Hq g frz) v (.lst l)):∃a vs,v=.ref a∧s.heap.IsList a vs.toArray∧RepL (Hq g frz) vs l:=by
 obtain ⟨a,vs,n,e,h,hl⟩:=r;exact ⟨a,vs,e,⟨_,X.get h,rfl,n,rfl⟩,hl⟩
theorem RepL.at {H:Hp}:∀{ps:LB} {vs:LO} {i:Nat} {p:PV},RepL H vs ps→ps[i]? = some p→∃v,vs[i]? = some v∧Rep H v p:=by
 intro ps
 induction ps with
 | nil=>intro _ i _ _ h;simp at h
 | cons p ps ih=>
  intro vs i q hr h;obtain ⟨v,r,e,h1,h2⟩:=hr;cases i with|zero=>simp at h;subst h e;exact ⟨v,rfl,h1⟩|succ i=>?_
  simp only [OS] at h;refine u12 (ih h2 h) ?_;rintro u a b;exact ⟨u,by rw [e];simpa using a,b⟩
theorem Ev.tup {env:Env} {elts:LS} {k:Nat} {pos:Pos} {Q:LE} (h:Evs g c A (spliced (backTo pos (starEach elts env))) st (fun ps st'=>ps.length≤sizeLine∧Q (.tup ps) st') R):Ev g c A (eval (.Tuple elts k pos) env) st Q R:=fun frz s X=>by
 refine Tuple_ (tt (h frz s X) (fun vs s' hh=>?_) fun _ _ e=>e);obtain ⟨ps,st',f',a,X',r,hl,q⟩:=hh;refine MX ?_ (by show vs.toArray.size≤sizeLine;rw [Ml];exact (show vs.length≤sizeLine from by rw [r.length];exact hl));exact ⟨.tup ps,st',_,fun p hp=>.tail _ (a p hp),X'.push _ rfl,⟨_,vs,0,rfl,.inl (.head _),r.mono (Hq.mono fun p hp=>.tail _ hp)⟩,q⟩
theorem Ev.list {env:Env} {elts:LS} {pos:Pos} {Q:LE} (h:Evs g c A (spliced (backTo pos (starEach elts env))) st (fun ps st'=>ps.length≤sizeLine∧Q (.lst ps) st') R):Ev g c A (eval (.List elts pos) env) st Q R:=fun frz s X=>by
 refine List_ (tt (h frz s X) (fun vs s' hh=>?_) fun _ _ e=>e);obtain ⟨ps,st',f',a,X',r,hl,q⟩:=hh;refine MX ?_ (by show vs.toArray.size≤sizeLine;rw [Ml];exact (show vs.length≤sizeLine from by rw [r.length];exact hl));exact ⟨.lst ps,st',_,fun p hp=>.tail _ (a p hp),X'.push _ rfl,⟨_,vs,0,rfl,.inl (.head _),r.mono (Hq.mono fun p hp=>.tail _ hp)⟩,q⟩
def ma (g:Gx) (A:Around) (o i:PV) (own:Own) (Q:PV→Prop):Prop:=
 ∀c st frz s v w E,A.units+8<cLine→A.handled=none→A.guards=some []→st.own=own→S g c st frz s→Rep (Hq g frz) v o→Rep (Hq g frz) w i→(∃T id,s.TypeIs v T∧typeLookup (.type T) "__getitem__" = pure (some (.builtin id)))∧
  wpAny (model g.prog g.w) A (getItem v w) (GotB g c st frz Q) E s
theorem ri {M:Model} {E:LM} {s:Shared} {value slice:Expr} {o i:Value} {T id:String} {Q:LM} {prog:Program} {w:World} (hT:s.TypeIs o T)
 (hl:typeLookup (.type T) "__getitem__" = pure (some (.builtin id))) (h:wpAny (model prog w) A (getItem o i) Q E s)
 (hs:subscripted slice false o i=operate [o,i] (getItem o i)∨subscripted slice false o i=operate [i,o] (getItem o i)):wpAny (model prog w) A (subscriptTail value slice o i) Q E s:=by
 unfold subscriptTail;refine KE ?_;refine (getitemInPython_of_ne hT.not_modules)▸?_;refine KE (wpAny_specialOf hT hl ?_);have fin:wpAny (model prog w) A (subscripted slice false o i) (fun r s₃=>wpAny (model prog w) A (letTemporaryGo value o r >>= fun _=>pure r) Q E s₃) E s:=by
  rcases hs with hs|hs<;>rw [hs]<;>exact gP (tt h (fun r s₃ h₃=>KE (wpAny_letTemporaryGo (Mh h₃))) fun _ _ x=>x)
 first
  | exact Mh (KE fin)
  | exact KE (Mh (KE fin))
  | exact KE fin
theorem Ev.sub {env:Env} (ok:Ok g c A d) {value slice:Expr} {pos:Pos} {Q:LE}
 (h:Ev g c A (eval value env) st (fun o st₁=>Ev g c A (eval slice env) st₁ (fun i st₂=>ma g A o i st₂.own fun r=>Q r st₂) R) R)
 (hs:∀o i,subscripted slice false o i=operate [o,i] (getItem o i):=by intro _ _;rfl):Ev g c A (eval (.Subscript value slice pos) env) st Q R:=fun frz s X=>by
 refine RZ (tt (h frz s X) (fun v s₁ hh=>?_) fun _ _ e=>e);obtain ⟨a,st₁,f₁,a₁,X₁,r₁,q₁⟩:=hh;refine tt (q₁ f₁ s₁ X₁) (fun w s₂ hh=>?_) fun _ _ e=>e.mono a₁;obtain ⟨b,st₂,f₂,a₂,X₂,r₂,q₂⟩:=hh;obtain ⟨⟨T,id,hT,hl⟩,q₃⟩:=q₂ c st₂ f₂ s₂ v w (Rz g c R frz) (by have:=ok.units;exact me this) ok.hand ok.guards rfl X₂ (r₁.mono (Hq.mono a₂)) r₂;refine ri (M:=model g.prog g.w) hT hl (tt q₃ (fun u s₃ hh=>?_) fun _ _ e=>e) (.inl (hs v w));obtain ⟨pv,f₃,a₃,X₃,r₃,q₄⟩:=hh;exact ⟨pv,st₂,f₃,Sub.trans a₁ (Sub.trans a₂ a₃),X₃,r₃,q₄⟩
theorem ge {k:Int} {n j:Nat} (h:seqIndex? k n=some j) (hn:n<2 ^ 62):-(2 ^ 63)≤k∧k<2 ^ 63∧j<n:=by
 unfold seqIndex? at h;by_cases hk:k<0
 ·simp only [hk,if_true] at h;by_cases hc:(decide (0≤k+(n:Int))&&decide (k+(n:Int)<(n:Int)))=true
  ·rw [if_pos hc] at h;simp only [MO,decide_eq_true_eq] at hc;exact HL hn hc (Mm h)
  ·replace h:=(if_neg hc)▸h;injection h
 ·simp only [hk,if_false] at h;by_cases hc:(decide (0≤k)&&decide (k<(n:Int)))=true
  ·rw [if_pos hc] at h;simp only [MO,decide_eq_true_eq] at hc;exact HJ hn hc (Mm h)
  ·replace h:=(if_neg hc)▸h;injection h
theorem az {k n:Nat} (h:k<n):seqIndex? (k:Int) n=some k:=by
 unfold seqIndex?;simp only [(show ¬((k:Int)<0) from by exact HI),if_false];rw [if_pos (by simp only [MO,decide_eq_true_eq];exact HH h)];simp
theorem dk {k:Int} {n:Nat} (h0:0≤k) (h:k<n):seqIndex? k n=some k.toNat:=by
 have:=az (k:=k.toNat) (n:=n) (pb h0 h)
 rwa [show ((k.toNat:Nat):Int)=k by exact HG h0] at this
theorem vL {x:LA} {k:Int} {j:Nat} {own:Own} {Q:PV→Prop} (hj:seqIndex? k x.length=some j) (hn:x.length<2 ^ 62) (q:Q (.str [x.getD j 0])):ma g A (.str x) (.int k) own Q:=fun c st frz s v w E _ hA _ ho X r r'=>by
 obtain ⟨t,rfl⟩:=r;obtain ⟨u,rfl⟩:=r';refine u03 (ge hj hn) ?_;rintro h1 h2 h3;refine ⟨(v22 ("str") _ (PR s _ t) slot_str_getitem.lookup),?_⟩;refine getItem_str (c:=x.getD j 0) (by simp only [MS,decide_eq_false_iff_not];exact HE h1 h2) ?_ ⟨.str [x.getD j 0],frz,Sub.refl _,X.toks _,⟨_,rfl⟩,q⟩;show (seqIndex? k x.toArray.size).bind _=_;rw [Ml,hj];simp [h3,NS]
theorem vK {l:LB} {k:Int} {j:Nat} {p:PV} {own:Own} {Q:PV→Prop} (hj:seqIndex? k l.length=some j) (hn:l.length<2 ^ 62) (hp:l[j]? = some p) (q:Q p):ma g A (.tup l) (.int k) own Q:=fun c st frz s v w E _ hA _ ho X r r'=>by
 obtain ⟨u,rfl⟩:=r';refine u23 (r.tupAt X) ?_;rintro a vs rfl ht rl;refine u03 (ge hj hn) ?_;rintro h1 h2 h3;refine u12 (rl.at hp) ?_;rintro v hv rv;refine ⟨(v22 ("tuple") _ ht.typeIs OP.lookup),getItem_tuple (x:=v) ht h1 h2 (by rw [Ml,rl.length];exact hj) (by simpa using hv) ⟨p,frz,Sub.refl _,X,rv,q⟩⟩
theorem vN {l:LB} {k:Int} {p:PV} {own:Own} {Q:PV→Prop} (h0:0≤k) (hn:k<2 ^ 62) (hp:l[k.toNat]? = some p) (q:Q p):ma g A (.lst l) (.int k) own Q:=fun c st frz s v w E _ hA _ ho X r r'=>by
 obtain ⟨u,rfl⟩:=r';refine u23 (r.lstAt X) ?_;rintro a vs rfl ht rl;refine u12 (rl.at hp) ?_;rintro v hv rv;refine ⟨(v22 ("list") _ ht.typeIs Sj.lookup),RX (x:=v) ht h0 (HD hn) (by simpa using hv) ⟨p,frz,Sub.refl _,X,rv,q⟩⟩
theorem CmpW.of {op:CmpOp} {a b:PV} {r:Bool} {Q:Bool→Prop} (q:Q r)
 (h:∀c st frz s v w,A.units+8<cLine→A.handled=none→A.guards=some []→S g c st frz s→Rep (Hq g frz) v a→Rep (Hq g frz) w b→∀(Q':LM) E,(∀n,Q' (.bool r) { s with toks:=n })→wpAny (model g.prog g.w) A (compareOp op v w) Q' E s) :
 CmpW g A op a b Q:=fun c st frz s v w E hu hA hg X r1 r2=>
 h c st frz s v w hu hA hg X r1 r2 _ E fun n=>(v24 r frz (Sub.refl _) (X.toks n) rfl q)
theorem eS (x y:LA):(txt x==txt y)=decide (x=y):=by
 by_cases h:x=y
 ·subst h;simp
 ·simp [h,(show txt x≠txt y from fun e=>h (by have:=congrArg (fun z:Str=>z.cps.toList) e;simpa [txt] using this))]
theorem vZ {x y:Int} {Q:Bool→Prop} (q:Q (decide (x<y))):CmpW g A .Lt (.int x) (.int y) Q:=.of q (by
 rintro c st frz s _ _ _ _ _ X ⟨t,rfl⟩ ⟨u,rfl⟩ Q' E h;exact Ti (h s.toks))
theorem wb {x y:Int} {Q:Bool→Prop} (q:Q (decide (x≤y))):CmpW g A .LtE (.int x) (.int y) Q:=.of q (by
 rintro c st frz s _ _ _ _ _ X ⟨t,rfl⟩ ⟨u,rfl⟩ Q' E h;exact Tl (h s.toks))
theorem wf {x y:Int} {Q:Bool→Prop} (q:Q (decide (y<x))):CmpW g A .Gt (.int x) (.int y) Q:=.of q (by
 rintro c st frz s _ _ _ _ _ X ⟨t,rfl⟩ ⟨u,rfl⟩ Q' E h;exact Tn (h s.toks))
theorem wh {x y:Int} {Q:Bool→Prop} (q:Q (decide (y≤x))):CmpW g A .GtE (.int x) (.int y) Q:=.of q (by
 rintro c st frz s _ _ _ _ _ X ⟨t,rfl⟩ ⟨u,rfl⟩ Q' E h;exact To (h s.toks))
theorem wi {x y:LA} {Q:Bool→Prop} (q:Q (decide (x=y))):CmpW g A .Eq (.str x) (.str y) Q:=.of q (by
 rintro c st frz s _ _ _ _ _ X ⟨t,rfl⟩ ⟨u,rfl⟩ Q' E h;exact Qf (by rw [eS];exact h s.toks))
theorem vX {x y:LA} {Q:Bool→Prop} (q:Q (!decide (x=y))):CmpW g A .NotEq (.str x) (.str y) Q:=.of q (by
 rintro c st frz s _ _ _ _ _ X ⟨t,rfl⟩ ⟨u,rfl⟩ Q' E h;exact Te (by rw [bne,eS];exact h s.toks))
theorem vY {x y:LA} {Q:Bool→Prop} (q:Q (decide (x<y))):CmpW g A .Lt (.str x) (.str y) Q:=.of q (by
 rintro c st frz s _ _ _ _ _ X ⟨t,rfl⟩ ⟨u,rfl⟩ Q' E h;exact Th (by simpa [txt] using h s.toks))
theorem we {x y:LA} {Q:Bool→Prop} (q:Q (decide (y<x))):CmpW g A .Gt (.str x) (.str y) Q:=.of q (by
 rintro c st frz s _ _ _ _ _ X ⟨t,rfl⟩ ⟨u,rfl⟩ Q' E h;exact PySem.P.gt_str (by simpa [txt] using h s.toks))
theorem wa {x y:LA} {Q:Bool→Prop} (q:Q (!decide (y<x))):CmpW g A .LtE (.str x) (.str y) Q:=.of q (by
 rintro c st frz s _ _ _ _ _ X ⟨t,rfl⟩ ⟨u,rfl⟩ Q' E h;exact PySem.P.le_str (by simpa [txt] using h s.toks))
theorem wg {x y:LA} {Q:Bool→Prop} (q:Q (!decide (x<y))):CmpW g A .GtE (.str x) (.str y) Q:=.of q (by
 rintro c st frz s _ _ _ _ _ X ⟨t,rfl⟩ ⟨u,rfl⟩ Q' E h;exact PySem.P.ge_str (by simpa [txt] using h s.toks))
noncomputable def PV.isNone:PV→Bool
 | .none=>true
 | _=>false
theorem Rep.isNone {H:Hp} {p:PV} {v:Value} (h:Rep H v p):(v==.none)=p.isNone:=by
 cases p with
 | none=>obtain rfl:v=.none:=h;rfl
 | bool b=>obtain rfl:v=.bool b:=h;rfl
 | int i=>obtain ⟨t,rfl⟩:=h;rfl
 | str i=>obtain ⟨t,rfl⟩:=h;rfl
 | tup l=>obtain ⟨_,_,_,rfl,_⟩:=h;rfl
 | lst l=>obtain ⟨_,_,_,rfl,_⟩:=h;rfl
 | ref a=>obtain rfl:v=.ref a:=h;rfl
 | range a b=>obtain ⟨_,_,_,_,rfl,_⟩:=h;rfl
theorem Ac {p:PV} {Q:Bool→Prop} (q:Q p.isNone):CmpW g A .Is p .none Q:=.of q (by
 rintro c st frz s v _ _ _ _ X r rfl Q' E h;exact is_none (by refine r.isNone▸?_;exact h s.toks))
theorem ql {p:PV} {Q:Bool→Prop} (q:Q (!p.isNone)):CmpW g A .IsNot p .none Q:=.of q (by
 rintro c st frz s v _ _ _ _ X r rfl Q' E h;exact isNot_none (by refine r.isNone▸?_;exact h s.toks))
theorem BinW.of {t:Value→Value→Sem Value} {a b p:PV} {Q:PV→Prop} (q:Q p)
 (h:∀c st frz s v w,A.handled=none→S g c st frz s→Rep (Hq g frz) v a→Rep (Hq g frz) w b→∀(Q':LM) E,(∀u n,Rep (Hq g frz) u p→Q' u { s with toks:=n })→wpAny (model g.prog g.w) A (t v w) Q' E s):BinW g A t a b Q:=
 fun c st frz s v w E hA X r1 r2=>h c st frz s v w hA X r1 r2 _ E fun u n r=>⟨p,frz,Sub.refl _,X.toks n,r,q⟩
theorem lW {x y:Int} {Q:PV→Prop} (q:Q (.int (x+y))):BinW g A (binaryOp .Add) (.int x) (.int y) Q:=.of q (by
 rintro c st frz s _ _ _ X ⟨t,rfl⟩ ⟨u,rfl⟩ Q' E h;exact Tv (h _ _ ⟨_,rfl⟩))
theorem jG {x y:Int} {Q:PV→Prop} (q:Q (.int (x+y))):BinW g A (inplaceOp .Add) (.int x) (.int y) Q:=.of q (by
 rintro c st frz s _ _ _ X ⟨t,rfl⟩ ⟨u,rfl⟩ Q' E h;exact wpAny_iadd_int (h _ _ ⟨_,rfl⟩))
theorem ua {x y:Int} {Q:PV→Prop} (q:Q (.int (x-y))):BinW g A (binaryOp .Sub) (.int x) (.int y) Q:=.of q (by
 rintro c st frz s _ _ _ X ⟨t,rfl⟩ ⟨u,rfl⟩ Q' E h;exact SZ (h _ _ ⟨_,rfl⟩))
theorem qy {x y:Int} {Q:PV→Prop} (q:Q (.int (x-y))):BinW g A (inplaceOp .Sub) (.int x) (.int y) Q:=.of q (by
 rintro c st frz s _ _ _ X ⟨t,rfl⟩ ⟨u,rfl⟩ Q' E h;exact PySem.P.isub_int (h _ _ ⟨_,rfl⟩))
theorem lU {x y:Int} {Q:PV→Prop} (hm:IntMulOk x y) (q:Q (.int (x*y))):BinW g A (binaryOp .Mult) (.int x) (.int y) Q:=.of q (by
 rintro c st frz s _ _ _ X ⟨t,rfl⟩ ⟨u,rfl⟩ Q' E h;exact Tf (h _ _ ⟨_,rfl⟩) hm)
theorem qz {x y:Int} {Q:PV→Prop} (hy:y≠0) (hp:y.natAbs<1073741824) (q:Q (.int (x.fdiv y))):BinW g A (binaryOp .FloorDiv) (.int x) (.int y) Q:=.of q (by
 rintro c st frz s _ _ _ X ⟨t,rfl⟩ ⟨u,rfl⟩ Q' E h;exact Tp hy (h _ _ ⟨_,rfl⟩) (.inl (PyProof.noPylong_small hp)))
theorem uc {x y:Int} {Q:PV→Prop} (hy:y≠0) (q:Q (.int (x.fmod y))):BinW g A (binaryOp .Mod) (.int x) (.int y) Q:=.of q (by
 rintro c st frz s _ _ _ X ⟨t,rfl⟩ ⟨u,rfl⟩ Q' E h;exact Tg hy (h _ _ ⟨_,rfl⟩))
theorem eH (x y:LA):txt x++txt y=txt (x++y):=by
 show Str.mk (x.toArray++y.toArray)=_;rw [List.append_toArray]
theorem iI {x y:LA} {Q:PV→Prop} (hs:x.length+y.length≤16777216) (q:Q (.str (x++y))):BinW g A (binaryOp .Add) (.str x) (.str y) Q:=.of q (by
 rintro c st frz s _ _ _ X ⟨t,rfl⟩ ⟨u,rfl⟩ Q' E h;exact Tu (fun t' tk=>h _ _ ⟨t',by rw [eH]⟩) (by show x.toArray.size+y.toArray.size≤sizeLine;refine Ml▸Ml▸?_;exact Mj hs (OA MQ.symm)))
theorem Ev.neg {env:Env} {x:Expr} {pos:Pos} {Q:LE} (h:Ev g c A (eval x env) st (fun v st'=>∃i,v=.int i∧Q (.int (-i)) st') R):Ev g c A (eval (.UnaryOp .USub x pos) env) st Q R:=fun frz s X=>by
 refine wpAny_UnaryOp (tt (h frz s X) (fun v s₁ hh=>?_) fun _ _ e=>e);obtain ⟨pv,st',f',a,X',r,i,rfl,q⟩:=hh;obtain ⟨t,rfl⟩:=r;exact Td ⟨.int (-i),st',f',a,X'.toks _,⟨_,rfl⟩,q⟩
theorem Ev.not {env:Env} {x:Expr} {pos:Pos} {Q:LE} (h:Ev g c A (eval x env) st (fun v st'=>∃b,v=.bool b∧Q (.bool !b) st') R):Ev g c A (eval (.UnaryOp .Not x pos) env) st Q R:=fun frz s X=>by
 refine wpAny_UnaryOp (tt (h frz s X) (fun v s₁ hh=>?_) fun _ _ e=>e);obtain ⟨pv,st',f',a,X',r,b,rfl,q⟩:=hh;obtain rfl:v=.bool b:=r;exact not_of (Nn ⟨.bool !b,st',f',a,X',rfl,q⟩)
theorem CallV.of {fv:Value} {args:LB} {own:Own} {p:PV} {Q:LH} {R:LI} (q:Q p own)
 (h:∀c A st frz s vs,Ok g c A d→S g c st frz s→RepL (Hq g frz) vs args→∀(Q':LM) E,(∀u n,Rep (Hq g frz) u p→Q' u { s with toks:=n })→wpAny (model g.prog g.w) A (call fv vs) Q' E s):CallV g d fv args own Q R:=
 fun c A st frz s vs ok ho X r=>h c A st frz s vs ok X r _ _ fun u n ru=>⟨p,own,frz,Sub.refl _,ho▸X.toks n,ru,q⟩
def Kp (g:Gx) (f:Str) (v:Value):Prop:=bH g f v
theorem bY {f:Str} {id:String} {args:LB} {own:Own} {Q:LH} {R:LI} (hb:Kp g f (.builtin id)) (h:CallV g d (.builtin id) args own Q R):CallN g d f args own Q R:=(v13 _ hb KeepOk.bi h)
theorem nA {x:LA} {own:Own} {Q:LH} {R:LI} (hl:x.length<2 ^ 62) (q:Q (.int x.length) own):CallV g d (.builtin "len") [.str x] own Q R:=.of q (by
 rintro c A st frz s _ ok X ⟨v,r,rfl,⟨t,rfl⟩,rfl⟩ Q' E h;exact Tk (by show ¬((x.toArray.size:Nat):Int)≥2 ^ 63;simp;exact HC hl) (by simpa [txt,Qm] using h (.int x.length (s.toks+1)) (s.toks+1+1) ⟨_,rfl⟩))
theorem nz {x:LB} {own:Own} {Q:LH} {R:LI} (hl:x.length<2 ^ 62) (q:Q (.int x.length) own):CallV g d (.builtin "len") [.tup x] own Q R:=.of q (by
 rintro c A st frz s _ ok X ⟨v,r,rfl,rv,rfl⟩ Q' E h;refine u23 (rv.tupAt X) ?_;rintro a vs rfl ht rl;exact len_tuple ht (by rw [Ml,rl.length];exact xH hl) (by refine Ml▸rl.length▸?_;exact h (.int x.length (s.toks+1)) (s.toks+1+1) ⟨_,rfl⟩))
theorem iE {x:LB} {own:Own} {Q:LH} {R:LI} (hl:x.length<2 ^ 62) (q:Q (.int x.length) own):CallV g d (.builtin "len") [.lst x] own Q R:=.of q (by
 rintro c A st frz s _ ok X ⟨v,r,rfl,rv,rfl⟩ Q' E h;refine u23 (rv.lstAt X) ?_;rintro a vs rfl ht rl;exact PT ht (by rw [Ml,rl.length];exact xH hl) (by refine Ml▸rl.length▸?_;exact h (.int x.length (s.toks+1)) (s.toks+1+1) ⟨_,rfl⟩))
theorem qt {n:Nat} {own:Own} {Q:LH} {R:LI} (q:Q (.int n) own):CallV g d (.builtin "ord") [.str [n]] own Q R:=.of q (by
 rintro c A st frz s _ ok X ⟨v,r,rfl,⟨t,rfl⟩,rfl⟩ Q' E h;exact ord_of_one (by rfl) (by simpa [txt] using h (.int n s.toks) (s.toks+1) ⟨_,rfl⟩))
theorem qw {n:Int} {own:Own} {Q:LH} {R:LI} (h0:0≤n) (h1:n≤0x10FFFF) (q:Q (.str [n.toNat]) own):CallV g d (.builtin "chr") [.int n] own Q R:=.of q (by
 rintro c A st frz s _ ok X ⟨v,r,rfl,⟨t,rfl⟩,rfl⟩ Q' E h;exact PySem.P.chr_of_int (by simp only [MS,decide_eq_false_iff_not];exact HB h0 h1) (h (.str ⟨#[n.toNat]⟩ s.toks) (s.toks+1) ⟨s.toks,by simp [txt]⟩))
def Fns (g:Gx):Prop:=∀(i:Nat) (name:Str) (args:Arguments) (body:LT) (scope:Scope) (bind:Str) (pos:Pos),
 Mk.main.body[i]? = some (.FunctionDef name args body [] none [] scope none bind pos)→gb g name (args.args.map (·.arg)) body scope
structure Al (g:Gx):Prop where
 ok:GOk g
 fns:Fns g
 bi:∀(f:Str) (v:Value),f∈([("len" : Str),"ord","chr","str","range","sum","max","tuple"]:LP)→bootBuiltins f=some v→bH g f v
def GL (c:Cx) (l:LP):Prop:=∀x∈l,(x,NameKind.globalImplicit)∈c.cs.names
theorem cv {f:Str} {ps:LP} {body:LT} {scope:Scope} (others:LP) {args:LB} {own:Own} {Q:LH} {R:LI} (hg:GOk g) (hf:gb g f ps body scope) (hl:args.length=ps.length)
 (hnd:(ps++others).Nodup) (hloc:∀x∈ps++others,(x,NameKind.local)∈scope.names)
 (h:∀c A,Ok g c A d→c.cs=scope→Ex g c A (execs body c.env) ⟨dG ps args++bF others,own⟩ (iL Q) (fun x st'=>R x st'.own)) (hcell:(scope.names.all fun x=>x.2 != .cell)=true:=by decide +kernel):CallN g (d+1) f args own Q R:=by
 refine u12 hf ?_;clear hf;rintro a h1 hf;obtain ⟨o,fd,h2,h3,_⟩:=hf.ex;exact (v13 (.ref a) (.inl h1) (KeepOk.fn h2 h3) (bt hg hf (by rw [MM];exact hl) hnd hloc (by rw [MM];exact h) hcell))
theorem iF {f:Str} {ps:LP} {body:LT} {scope:Scope} (others:LP) {args:LB} {own:Own} {Q:LH} {R:LI} (al:Al g) (hf:gb g f ps body scope) (hl:args.length=ps.length)
 (hnd:(ps++others).Nodup) (hloc:∀x∈ps++others,(x,NameKind.local)∈scope.names)
 (h:∀c A,Ok g c A d→c.cs=scope→Ex g c A (execs body c.env) ⟨dG ps args++bF others,own⟩ (iL Q) (fun x st'=>R x st'.own)) (hcell:(scope.names.all fun x=>x.2 != .cell)=true:=by decide +kernel):CallN g (d+1) f args own Q R:=cv others al.ok hf hl hnd hloc h hcell
theorem tT:bootBuiltins "len" = some (.builtin "len"):=by decide +kernel
theorem tR:bootBuiltins "ord" = some (.builtin "ord"):=by decide +kernel
theorem tU:bootBuiltins "chr" = some (.builtin "chr"):=by decide +kernel
theorem gS (al:Al g):bH g "len" (.builtin "len"):=al.bi _ _ (by simp) tT
theorem xn (al:Al g):bH g "ord" (.builtin "ord"):=al.bi _ _ (by simp) tR
theorem xo (al:Al g):bH g "chr" (.builtin "chr"):=al.bi _ _ (by simp) tU
theorem sF (al:Al g):∃v,bH g "len" v∧KeepOk g v:=(v12 _ (gS al) KeepOk.bi)
theorem rN (al:Al g) {x:LB} {Q:LE} (hl:x.length<2 ^ 62) (q:Q (.int x.length) st):md g d "len" Q R [.lst x] st:=bY (gS al) (iE hl q)
end
inductive OwnUpd (a:Addr) (o o':AO):Own→Own→Prop
 | here {r:Own}:OwnUpd a o o' ((a,o)::r) ((a,o')::r)
 | there {e:Addr×AO} {r r':Own}:OwnUpd a o o' r r'→OwnUpd a o o' (e::r) (e::r')
inductive SplitO (H:Hp) (a:Addr) (o o':AO) (ow':Own) (es:Led):Prop
 | mk (e1 e2 e3:Led) (e:es=e1++(e2++e3)) (h:AORep H a o e2) (k:∀e2',AORep H a o' e2'→OwnR H ow' (e1++(e2'++e3)))
theorem OwnUpd.split {a:Addr} {o o':AO} {H:Hp} {ow ow':Own} (u:OwnUpd a o o' ow ow'):∀{es:Led},OwnR H ow es→SplitO H a o o' ow' es:=by
 induction u with
 | here=>
  rintro es ⟨e1,e2,rfl,h1,h2⟩;exact ⟨[],e1,e2,rfl,h1,fun e2' h=>⟨e2',e2,rfl,h,h2⟩⟩
 | there _ ih=>
  rintro es ⟨e1,e2,rfl,h1,h2⟩;obtain ⟨f1,f2,f3,rfl,h3,h4⟩:=ih h2;exact ⟨e1++f1,f2,f3,by rw [Mb],h3,fun e2' h=>⟨e1,f1++(e2'++f3),by rw [Mb],h1,h4 e2' h⟩⟩
section
variable {g:Gx} {c:Cx} {A:Around} {st:St} {R:LG} {d:Nat}
noncomputable abbrev fg (vs:LO) (n:Nat):Obj:={ cls:=.type "list",data:=.seq vs.toArray n }
theorem S.ownList {a:Addr} {l:LB} {o':AO} {ow':Own} {frz:Led} {s:Shared} (X:S g c st frz s) (u:OwnUpd a (.list l) o' st.own ow'):∃vs n,s.heap.get? a=some (fg vs n)∧RepL (Hq g frz) vs l:=by
 obtain ⟨⟨m,own,frs,C⟩,_,_⟩:=X;obtain ⟨e1,e2,e3,rfl,⟨vs,n,rfl,r⟩,_⟩:=u.split C.O;exact (v22 vs n ((C.N _ (Mc _ (LZ _ (Mc _ (.head _))))).1) r)
inductive ChgE (H:Hp) (a:Addr) (o':AO) (e:Led) (h h':Heap):Prop
 | mk (e':Led) (r:AORep H a o' e') (nd:(e'.map (·.1)).Nodup) (hn:∀p∈e',h'.get? p.1=some p.2∧(p.1∈e.map (·.1)∨h.get? p.1=none)) (ho:∀b ob,b∉e.map (·.1)→h.get? b=some ob→h'.get? b=some ob)
theorem S.chg {a:Addr} {o o':AO} {ow':Own} {frz:Led} {s:Shared} {h':Heap} {tk:Nat} (X:S g c st frz s) (u:OwnUpd a o o' st.own ow')
 (k:∀e,AORep (Hq g frz) a o e→(∀p∈e,s.heap.get? p.1=some p.2)→(e.map (·.1)).Nodup→ChgE (Hq g frz) a o' e s.heap h'):S g c { st with own:=ow' } frz { s with heap:=h',toks:=tk }:=by
 obtain ⟨⟨m,own,frs,C⟩,nn,lc⟩:=X;obtain ⟨F,N,nd,SU,O,V⟩:=C;obtain ⟨e1,e2,e3,rfl,q,kk⟩:=u.split O;have perm:∀e2:Led,(((e1++(e2++e3))++(frz++frs)).map (·.1)).Perm (e2.map (·.1)++((e1++e3)++(frz++frs)).map (·.1)):=fun e2=>by
  rw [←Mz,←Mb e2];refine List.Perm.map _ (Qi _ ?_);rw [←Mb,←Mb];exact Qi _ QI
 have hnd:=MH.mp ((perm e2).nodup_iff.mp nd);have sub:∀p,p∈e2→p∈(e1++(e2++e3))++(frz++frs):=fun p hp=>Mc _ (LZ _ (Mc _ hp));have sub':∀p,p∈(e1++e3)++(frz++frs)→p∈(e1++(e2++e3))++(frz++frs):=fun p hp=>by
  simp only [Mi] at hp⊢;rcases hp with (hp|hp)|hp
  ·exact .inl (.inl hp)
  ·exact .inl (.inr (.inr hp))
  ·exact .inr hp
 obtain ⟨e2',r',nd',hn,ho⟩:=k e2 q (fun p hp=>(N p (sub p hp)).1) hnd.1;refine u32 F.ns ?_;rintro oL es ep hL hLr;have baseNo:∀b ob,g.base.get? b=some ob→b∉e2.map (·.1):=fun b ob hb hm=>by
  refine u12 (Ma.mp hm) ?_;rintro p hp rfl;replace hb:=((N p (sub p hp)).2.2)▸hb;injection hb
 have LNo:c.L∉e2.map (·.1):=fun hm=>by
  refine u12 (Ma.mp hm) ?_;rintro p hp e;exact (N p (sub p hp)).2.1 e
 refine ⟨⟨m,e1++(e2'++e3),frs,⟨⟨(v32 oL es ep (ho _ _ LNo hL) hLr),fun b ob hb=>ho b ob (baseNo b ob hb) (F.keep b ob hb),F.above⟩,fun p hp=>?_,(perm e2').nodup_iff.mpr (MH.mpr ⟨nd',hnd.2.1,fun x hx y hy e=>?_⟩),SU,kk _ r',V⟩⟩,nn,lc⟩
 ·by_cases hp':p∈(e1++e3)++(frz++frs)
  ·refine u03 (N p (sub' p hp')) ?_;rintro x1 x2 x3;exact ⟨ho _ _ (fun hm=>hnd.2.2 p.1 hm p.1 (Ma.mpr (v12 p hp' rfl)) rfl) x1,x2,x3⟩
  ·have:p∈e2':=by
    simp only [Mi] at hp hp';rcases hp with (hp|hp|hp)|hp
    ·exact absurd (.inl (.inl hp)) hp'
    ·exact hp
    ·exact absurd (.inl (.inr hp)) hp'
    ·exact absurd (.inr hp) hp'
   obtain ⟨x1,x2⟩:=hn p this;refine ⟨x1,?_⟩;refine Mx x2 (fun x2=>?_) fun x2=>?_
   ·refine u12 (Ma.mp x2) ?_;rintro r hr e;have:=N r (sub r hr);rw [e] at this;exact this.2
   ·refine ⟨fun e=>?_,?_⟩
    ·rw [e,hL] at x2;injection x2
    ·cases hb:g.base.get? p.1 with
     | none=>rfl
     | some ob=>replace x2:=(F.keep _ _ hb)▸x2;injection x2
 ·subst e;refine u12 (Ma.mp hx) ?_;rintro p hp rfl;refine Mx ((hn p hp).2) (fun x2=>?_) fun x2=>?_
  ·exact hnd.2.2 p.1 x2 p.1 hy rfl
  ·refine u12 (Ma.mp hy) ?_;rintro r hr e;have:=(N r (sub' r hr)).1;rw [e,x2] at this;injection this
theorem Lp {a:Addr} {o o':AO} {ow':Own} {frz:Led} {s:Shared} {h':Heap} {tk:Nat} (X:S g c st frz s) (u:OwnUpd a o o' st.own ow') (h1:∀e,AORep (Hq g frz) a o e→∃ob,e=[(a,ob)]) (k:QS a s.heap h')
 (h2:AORep (Hq g frz) a o' []∨∃ob',h'.get? a=some ob'∧AORep (Hq g frz) a o' [(a,ob')]):S g c { st with own:=ow' } frz { s with heap:=h',toks:=tk }:=
 X.chg u fun e r hs nd=>by
  obtain ⟨ob,rfl⟩:=h1 e r;have keep:∀b ob',b∉[(a,ob)].map (·.1)→s.heap.get? b=some ob'→h'.get? b=some ob':=fun b ob' hb e=>k b ob' (fun q=>hb (q▸.head _)) e;refine Mx h2 (fun h2=>?_) fun hz=>?_
  ·exact ⟨[],h2,NP,(fun p hp=>nomatch hp),keep⟩
  ·obtain ⟨ob',hg,h2⟩:=hz;exact ⟨_,h2,nd,fun p hp=>by cases My.mp hp;exact ⟨hg,.inl (.head _)⟩,keep⟩
theorem S.setOne {a:Addr} {o o':AO} {ow':Own} {frz:Led} {s:Shared} {h':Heap} {ob':Obj} {tk:Nat} (X:S g c st frz s) (u:OwnUpd a o o' st.own ow') (h1:∀H e,AORep H a o e→∃ob,e=[(a,ob)])
 (hs:Og a s.heap h') (ho:h'.get? a=some ob') (r':AORep (Hq g frz) a o' [(a,ob')]):S g c { st with own:=ow' } frz { s with heap:=h',toks:=tk }:=Lp X u (h1 _) hs.extBut (.inr (v12 ob' ho r'))
theorem S.setList {a:Addr} {l l':LB} {ow':Own} {frz:Led} {s:Shared} {h':Heap} {vs':LO} {n' tk:Nat} (X:S g c st frz s) (u:OwnUpd a (.list l) (.list l') st.own ow')
 (hs:Og a s.heap h') (ho:h'.get? a=some (fg vs' n')) (r':RepL (Hq g frz) vs' l'):S g c { st with own:=ow' } frz { s with heap:=h',toks:=tk }:=X.setOne u (fun _ _ hh=>by obtain ⟨_,_,e,_⟩:=hh;exact ⟨_,e⟩) hs ho ⟨vs',n',rfl,r'⟩
theorem S.pushOwn {frz:Led} {s:Shared} (X:S g c st frz s) (o:Obj) (ao:AO) (hfree:o.isFreed=false) (hr:AORep (Hq g frz) s.heap.objs.size ao [(s.heap.objs.size,o)]) :
 S g c { st with own:=(s.heap.objs.size,ao)::st.own } frz { s with heap:=s.heap.push o }:=by
 obtain ⟨⟨m,own,frs,F,N,nd,SU,O,V⟩,nn,lc⟩:=X;refine ⟨⟨m,(s.heap.objs.size,o)::own,frs,⟨F.push o,(N.push F o hfree),?_,SU,⟨_,own,rfl,hr,O⟩,V⟩⟩,nn,lc⟩;refine Mt.mpr ⟨fun hm=>?_,nd⟩;refine u12 (Ma.mp hm) ?_;rintro p hp e;have:=MI (N p hp).1;rw [show p.1=s.heap.objs.size from e] at this;exact absurd this (NZ _)
theorem Ex.newList (ok:Ok g c A d) {x:Str} {p' lp:Pos} {pos} {Q:LK} (h:∀a,PutQ x (.ref a) { st with own:=(a,.list [])::st.own } (Q .next))
 (hs:autoParam (swapsWith (.List [] lp) (some (.Name x p')) pos.line c.env=pure false) aR):Ex g c A (exec (.Assign [.Name x p'] (.List [] lp) pos) c.env) st Q R:=fun frz s X=>by
 refine OV ?_ hs;refine List_ (Qy ?_);refine MX ?_ (by show ([]:LO).toArray.size≤sizeLine;decide);obtain ⟨vs',hp,q⟩:=h s.heap.objs.size;exact dH ok (X.pushOwn (fg [] 0) (.list []) rfl ⟨[],0,rfl,rfl⟩) hp rfl fun s'' X''=>⟨.next,_,frz,Sub.refl _,X'',trivial,q⟩
theorem Ev.lower {env:Env} {o:Expr} {apos pos:Pos} {Q:LE} (h:Ev g c A (eval o env) st (fun v st'=>∃x,v=.str x∧Ol (OU (txt x)).length=false∧Q (.str (OU (txt x)).cps.toList) st') R)
 (hbase:autoParam (attributeBase o "lower" env (eval o env)=eval o env) aR) (hline:autoParam ((apos.endLine==pos.line)=true) aR):Ev g c A (eval (.Call (.Attribute o "lower" apos) [] [] pos) env) st Q R:=fun frz s X=>by
 refine Qj hbase hline (tt (h frz s X) (fun v s' hh=>?_) fun _ _ e=>e);obtain ⟨pv,st',f',a,X',r,x,rfl,hx,q⟩:=hh;obtain ⟨t,rfl⟩:=r;exact SB.lower hx ⟨.str _,st',f',a,X'.toks _,⟨s'.toks,by simp [txt]⟩,q⟩
theorem Ev.isalpha {env:Env} {o:Expr} {apos pos:Pos} {Q:LE} (h:Ev g c A (eval o env) st (fun v st'=>∃x,v=.str x∧Q (.bool (SM (txt x))) st') R)
 (hbase:autoParam (attributeBase o "isalpha" env (eval o env)=eval o env) aR) (hline:autoParam ((apos.endLine==pos.line)=true) aR):Ev g c A (eval (.Call (.Attribute o "isalpha" apos) [] [] pos) env) st Q R:=fun frz s X=>by
 refine Qj hbase hline (tt (h frz s X) (fun v s' hh=>?_) fun _ _ e=>e);obtain ⟨pv,st',f',a,X',r,x,rfl,q⟩:=hh;obtain ⟨t,rfl⟩:=r;exact SB.isalpha ⟨.bool _,st',f',a,X',rfl,q⟩
theorem Ev.islower {env:Env} {o:Expr} {apos pos:Pos} {Q:LE} (h:Ev g c A (eval o env) st (fun v st'=>∃x,v=.str x∧Q (.bool (SJ (txt x))) st') R)
 (hbase:autoParam (attributeBase o "islower" env (eval o env)=eval o env) aR) (hline:autoParam ((apos.endLine==pos.line)=true) aR):Ev g c A (eval (.Call (.Attribute o "islower" apos) [] [] pos) env) st Q R:=fun frz s X=>by
 refine Qj hbase hline (tt (h frz s X) (fun v s' hh=>?_) fun _ _ e=>e);obtain ⟨pv,st',f',a,X',r,x,rfl,q⟩:=hh;obtain ⟨t,rfl⟩:=r;exact SB.islower ⟨.bool _,st',f',a,X',rfl,q⟩
theorem Ev.isupper {env:Env} {o:Expr} {apos pos:Pos} {Q:LE} (h:Ev g c A (eval o env) st (fun v st'=>∃x,v=.str x∧Q (.bool (SI (txt x))) st') R)
 (hbase:autoParam (attributeBase o "isupper" env (eval o env)=eval o env) aR) (hline:autoParam ((apos.endLine==pos.line)=true) aR):Ev g c A (eval (.Call (.Attribute o "isupper" apos) [] [] pos) env) st Q R:=fun frz s X=>by
 refine Qj hbase hline (tt (h frz s X) (fun v s' hh=>?_) fun _ _ e=>e);obtain ⟨pv,st',f',a,X',r,x,rfl,q⟩:=hh;obtain ⟨t,rfl⟩:=r;exact SB.isupper ⟨.bool _,st',f',a,X',rfl,q⟩
theorem Ev.startswith {env:Env} {o e:Expr} {apos pos:Pos} {Q:LE} (h:Ev g c A (eval o env) st (fun v st₁=>∃x,v=.str x∧Ev g c A (eval e env) st₁ (fun w st₂=>∃y,w=.str y∧Q (.bool (Po (txt x) (txt y))) st₂) R) R)
 (hbase:autoParam (attributeBase o "startswith" env (eval o env)=eval o env) aR) (hs:autoParam (starEach [e] env=[(false,eval e env)]) aR) (hline:autoParam ((apos.endLine==pos.line)=true) aR):Ev g c A (eval (.Call (.Attribute o "startswith" apos) [e] [] pos) env) st Q R:=fun frz s X=>by
 refine OK hbase hs hline (tt (h frz s X) (fun v s₁ hh=>?_) fun _ _ e=>e);obtain ⟨pv,st₁,f₁,a₁,X₁,r₁,x,rfl,q₁⟩:=hh;obtain ⟨t,rfl⟩:=r₁;refine SB.startswith (tt (q₁ f₁ s₁ X₁) (fun w s₂ hh=>?_) fun _ _ e=>e.mono a₁);obtain ⟨pw,st₂,f₂,a₂,X₂,r₂,y,rfl,q₂⟩:=hh;obtain ⟨u,rfl⟩:=r₂;exact ⟨txt y,u,rfl,.bool _,st₂,f₂,Sub.trans a₁ a₂,X₂,rfl,q₂⟩
theorem Ev.find {env:Env} {o e:Expr} {apos pos:Pos} {Q:LE} (h:Ev g c A (eval o env) st (fun v st₁=>∃x,v=.str x∧Ev g c A (eval e env) st₁ (fun w st₂=>∃y,w=.str y∧Q (.int (NQ (txt x) (txt y))) st₂) R) R)
 (hbase:autoParam (attributeBase o "find" env (eval o env)=eval o env) aR) (hs:autoParam (starEach [e] env=[(false,eval e env)]) aR) (hline:autoParam ((apos.endLine==pos.line)=true) aR):Ev g c A (eval (.Call (.Attribute o "find" apos) [e] [] pos) env) st Q R:=fun frz s X=>by
 refine OK hbase hs hline (tt (h frz s X) (fun v s₁ hh=>?_) fun _ _ e=>e);obtain ⟨pv,st₁,f₁,a₁,X₁,r₁,x,rfl,q₁⟩:=hh;obtain ⟨t,rfl⟩:=r₁;refine SB.find (tt (q₁ f₁ s₁ X₁) (fun w s₂ hh=>?_) fun _ _ e=>e.mono a₁);obtain ⟨pw,st₂,f₂,a₂,X₂,r₂,y,rfl,q₂⟩:=hh;obtain ⟨u,rfl⟩:=r₂;exact ⟨txt y,u,rfl,.int _,st₂,f₂,Sub.trans a₁ a₂,X₂.toks _,⟨_,rfl⟩,q₂⟩
theorem Ev.index {env:Env} {o e:Expr} {apos pos:Pos} {Q:LE} (ok:Ok g c A d) (h:Ev g c A (eval o env) st (fun v st₁=>∃x,v=.str x∧Ev g c A (eval e env) st₁ (fun w st₂=>∃y,w=.str y∧0≤NQ (txt x) (txt y)∧Q (.int (NQ (txt x) (txt y))) st₂) R) R)
 (hbase:autoParam (attributeBase o "index" env (eval o env)=eval o env) aR) (hs:autoParam (starEach [e] env=[(false,eval e env)]) aR) (hline:autoParam ((apos.endLine==pos.line)=true) aR):Ev g c A (eval (.Call (.Attribute o "index" apos) [e] [] pos) env) st Q R:=fun frz s X=>by
 refine OK hbase hs hline (tt (h frz s X) (fun v s₁ hh=>?_) fun _ _ e=>e);obtain ⟨pv,st₁,f₁,a₁,X₁,r₁,x,rfl,q₁⟩:=hh;obtain ⟨t,rfl⟩:=r₁;refine (v26 ("str") _ OQ PySem.F.slot_str_index PySem.F.type_str_index (PR _ _ _) (fun _ e=>nomatch e) (Pj rfl (On (OC (tt (q₁ f₁ s₁ X₁) (fun w s₂ hh=>OJ ?_) fun _ _ e=>e.mono a₁)))));obtain ⟨pw,st₂,f₂,a₂,X₂,r₂,y,rfl,h0,q₂⟩:=hh;obtain ⟨u,rfl⟩:=r₂;exact index_or ok.hand (fun e=>by rw [e] at h0;exact absurd h0 (by decide)) fun _ _=>⟨.int _,st₂,f₂,Sub.trans a₁ a₂,X₂.toks _,⟨_,rfl⟩,q₂⟩
theorem Ex.append (ok:Ok g c A d) {x:Str} {np apos pos sp:Pos} {e:Expr} {a:Addr} {l₀:LB} {o₀:AO} {ow₀:Own} {Q:LK} (hv:Look x (.ref a) st.vars) (hu:OwnUpd a (.list l₀) o₀ st.own ow₀)
 (h:Ev g c A (eval e c.env) st (fun v st₁=>∃l ow',OwnUpd a (.list l) (.list (l++[v])) st₁.own ow'∧l.length<1048576∧Q .next { st₁ with own:=ow' }) R)
 (hline:autoParam ((apos.endLine==pos.line)=true) aR) (hs:autoParam (starEach [e] c.env=[(false,eval e c.env)]) aR) (hw:autoParam (swapsWith (.Call (.Attribute (.Name x np) "append" apos) [e] [] pos) none sp.line c.env=pure false) aR)
 (hbase:autoParam (attributeBase (.Name x np) "append" c.env (eval (.Name x np) c.env)=eval (.Name x np) c.env) aR) :
 Ex g c A (exec (.Expr (.Call (.Attribute (.Name x np) "append" apos) [e] [] pos) sp) c.env) st Q R:=fun frz s X=>by
 have hi:interactive c.env=false:=by unfold interactive;show (c.cs.kind==ScopeKind.module&&_)=false;refine ok.kind▸?_;rfl
 refine RY ?_ hi hw;refine OK hbase hs hline (tt (Ev.var ok (pos:=np) (R:=R) hv (Q:=fun pv st'=>pv=.ref a∧st'=st) ⟨rfl,rfl⟩ frz s X) (fun v s₁ hh=>?_) fun _ _ e=>e);obtain ⟨pv,st₁,f₁,a₁,X₁,r₁,rfl,rfl⟩:=hh;obtain rfl:v=.ref a:=r₁;refine u22 (X₁.ownList hu) ?_;rintro vs₀ n₀ ho _;refine (v26 ("list") _ PySem.F.plainAttrs_list PySem.F.slot_list_append PySem.F.type_list_append (v12 _ ho rfl) (fun _ e=>by injection e with e;subst e;exact (v12 _ ho rfl)) (Pj rfl (On (OC (tt (h f₁ s₁ X₁) (fun w s₂ hh=>OJ ?_) fun _ _ e=>e.mono a₁)))));obtain ⟨pw,st₂,f₂,a₂,X₂,r₂,l,ow',hu',hl,q₂⟩:=hh;refine u22 (X₂.ownList hu') ?_;rintro vs n ho₂ rl;refine append_at ho₂ (fun h' hs' ho'=>?_) (by refine Ml▸rl.length▸MQ▸?_;exact Hz hl);refine ⟨.next,_,f₂,Sub.trans a₁ a₂,X₂.setList (vs':=vs++[w]) (n':=n+1) hu' hs' (by rw [ho'];simp [fg]) ?_,trivial,q₂⟩;clear hu' q₂ ho₂ ho'
 induction l generalizing vs with
 | nil=>subst rl;exact ⟨w,[],rfl,r₂,rfl⟩
 | cons p ps ih=>
  obtain ⟨v0,r0,rfl,h1,h2⟩:=rl;exact ⟨v0,r0++[w],rfl,h1,ih (by simp at hl;exact Hy hl) r0 h2⟩
end
noncomputable def slc {α:Type} (l:List α) (lo hi:Option Int):List α:=(l.drop (lo.elim 0 (clipAt l.length))).take (hi.elim l.length (clipAt l.length)-lo.elim 0 (clipAt l.length))
theorem el {n k:Nat} {a:Int} (ha:a=k) (h:k≤n):clipAt n a=k:=by
 subst ha;unfold clipAt;refine (if_neg (Oq.mpr (Na k))).symm▸(RW (Nc.mpr h)).symm▸(PZ (Na k)).symm▸?_;rfl
theorem lN {n:Nat} {a:Int} (h:(n:Int)≤a):clipAt n a=n:=by
 unfold clipAt;refine (if_neg (Oq.mpr (Nd (Na n) h))).symm▸(Int.min_eq_right h).symm▸(PZ (Na n)).symm▸?_;rfl
theorem qm (n:Nat) (i:Int):clipAt n i≤n:=by
 exact y_0 (clipAt_cast n i)
theorem rn (lo hi:Option Int) (n:Nat):ND lo hi 1 n=(NO (hi.elim n (clipAt n)-lo.elim 0 (clipAt n))).map ((lo.elim 0 (clipAt n))+·):=by
 have h:ND lo hi 1 n=sliceRange (sliceBounds lo hi none n).1 (sliceBounds lo hi none n).2.1 (sliceBounds lo hi none n).2.2:=by
  cases lo<;>cases hi<;>rfl
 rw [h,sliceBounds_plain];exact sliceRange_one _ _
theorem oa (x:LA) (lo hi:Option Int):(ND lo hi 1 x.length).filterMap ((txt x).cps[·]?)=slc x lo hi:=by
 rw [rn,pick_run];rfl
theorem pB (x:LA) (lo hi:Option Int) (h:((ND lo hi 1 x.length).length==x.length)=true):slc x lo hi=x:=by
 rw [rn] at h;simp only [Mp,Oe,beq_iff_eq] at h;unfold slc;by_cases h0:x.length=0
 ·have:x=[]:=MR h0;subst this;simp
 ·have h2:lo.elim 0 (clipAt x.length)=0:=by exact y_1 h (show hi.elim x.length (clipAt x.length)≤x.length from by cases hi;exact MC _;exact qm ..) h0
  rw [h2] at h⊢;simp only [OG,Sr] at h⊢;refine h.symm▸?_;exact RD
theorem cQ {α:Type} (x:List α) (lo hi:Option Int):(slc x lo hi).length≤x.length:=by
 unfold slc;simp only [No,RG];exact y_2
section
variable {g:Gx} {c:Cx} {A:Around} {st:St} {R:LG} {d:Nat}
theorem Lx {env:Env} {Q:LE} (q:Q .none st):Ev g c A (evalPart Option.none env) st Q R:=fun frz s X=>Mh ⟨.none,st,frz,Sub.refl _,X,rfl,q⟩
theorem Lw {env:Env} {e:Expr} {Q:LE} (h:Ev g c A (eval e env) st Q R):Ev g c A (evalPart (some e) env) st Q R:=h
inductive Bd:PV→Option Int→Prop
 | none:Bd .none Option.none
 | int (i:Int):Bd (.int i) (some i)
def um (g:Gx) (A:Around) (o l u:PV) (Q:PV→Prop):Prop:=
 ∀c st frz s v vl vu E,A.handled=none→A.guards=some []→S g c st frz s→Rep (Hq g frz) v o→Rep (Hq g frz) vl l→Rep (Hq g frz) vu u→∀a,s.heap.IsSliceOf a vl vu .none→(∃T id,s.TypeIs v T∧typeLookup (.type T) "__getitem__" = pure (some (.builtin id)))∧
  wpAny (model g.prog g.w) A (getItem v (.ref a)) (GotB g c st frz Q) E s
theorem Lv {env:Env} (ok:Ok g c A d) {value:Expr} {lower upper:Option Expr} {p pos:Pos} {Q:LE}
 (h:Ev g c A (eval value env) st (fun o st₁=>Ev g c A (evalPart lower env) st₁ (fun l st₂=>Ev g c A (evalPart upper env) st₂ (fun u st₃=>um g A o l u fun r=>Q r st₃) R) R) R) :
 Ev g c A (eval (.Subscript value (.Slice lower upper Option.none p) pos) env) st Q R:=fun frz s X=>by
 refine RZ (tt (h frz s X) (fun v s₁ hh=>?_) fun _ _ e=>e);obtain ⟨o,st₁,f₁,a₁,X₁,r₁,q₁⟩:=hh;refine wpAny_Slice (tt (q₁ f₁ s₁ X₁) (fun vl s₂ hh=>?_) fun _ _ e=>e.mono a₁);obtain ⟨l,st₂,f₂,a₂,X₂,r₂,q₂⟩:=hh;refine tt (q₂ f₂ s₂ X₂) (fun vu s₃ hh=>?_) fun _ _ e=>e.mono (Sub.trans a₁ a₂);obtain ⟨u,st₃,f₃,a₃,X₃,r₃,q₃⟩:=hh;rw [QW];refine Mh ?_;have k:Sub f₃ ((s₃.heap.objs.size,({ cls:=.type "slice",data:=.fields #[vl,vu,.none] }:Obj))::f₃):=fun p hp=>.tail _ hp;obtain ⟨⟨T,id,hT,hl⟩,q₄⟩:=q₃ c st₃ _ _ v vl vu (Rz g c R frz) ok.hand ok.guards (X₃.push { cls:=.type "slice",data:=.fields #[vl,vu,.none] } rfl) (r₁.mono (Hq.mono (Sub.trans a₂ (Sub.trans a₃ k)))) (r₂.mono (Hq.mono (Sub.trans a₃ k))) (r₃.mono (Hq.mono k)) _ (Qb ..);refine ri (M:=model g.prog g.w) hT hl (tt q₄ (fun w s₅ hh=>?_) fun _ _ e=>e) (.inr rfl);obtain ⟨pv,f₅,a₅,X₅,r₅,q₅⟩:=hh;exact ⟨pv,st₃,f₅,Sub.trans a₁ (Sub.trans a₂ (Sub.trans a₃ (Sub.trans k a₅))),X₅,r₅,q₅⟩
theorem Bd.part {l:PV} {lo:Option Int} (h:Bd l lo) {H:Hp} {v:Value} (r:Rep H v l):IsPart v lo∧∃p:Option (Int×Tok),v=partValue p∧p.map (·.1)=lo:=by
 cases h with
 | none=>subst r;exact ⟨.none,Option.none,rfl,rfl⟩
 | int i=>obtain ⟨t,rfl⟩:=r;exact ⟨.int i t,some (i,t),rfl,rfl⟩
theorem rq {x:LA} {l u:PV} {lo hi:Option Int} {Q:PV→Prop} (bl:Bd l lo) (bu:Bd u hi) (hx:x.length≤1048576) (q:Q (.str (slc x lo hi))):um g A (.str x) l u Q:=fun c st frz s v vl vu E hA hG X r rl ru a ha=>by
 obtain ⟨t,rfl⟩:=r;obtain ⟨_,pl,rfl,rfl⟩:=bl.part rl;obtain ⟨_,pu,rfl,rfl⟩:=bu.part ru;refine ⟨(v22 ("str") _ (PR s _ t) PySem.F.slot_str_getitem.lookup),wpAny_getItem_str_slice (l:=pl) (u:=pu) (st:=Option.none) ha rfl ?_⟩;have hl:(txt x).length=x.length:=by simp [txt,Qm]
 unfold sliceMade slicePicked;refine hl▸?_
 split
 ·rename_i hw;refine ⟨.str _,frz,Sub.refl _,X,⟨t,?_⟩,q⟩;rw [pB x _ _ (by simpa using hw)]
 ·refine ⟨?_,.str _,frz,Sub.refl _,X.toks _,⟨s.toks,?_⟩,q⟩
  ·show (List.toArray _).size≤sizeLine;rw [Ml,show PJ (QP (fun x=>x.fst) (Option.none:Option (Int×Tok))) 1=1 from rfl,oa,MQ];exact y_3 hx (cQ x (pl.map (·.1)) (pu.map (·.1)))
  ·rw [show PJ (QP (fun x=>x.fst) (Option.none:Option (Int×Tok))) 1=1 from rfl,oa]
theorem RepL.take {H:Hp}:∀{n:Nat} {ps:LB} {vs:LO},RepL H vs ps→RepL H (vs.take n) (ps.take n)
 | 0,_,_,_=>rfl
 | n+1,[],_,h=>by subst h;rfl
 | n+1,p::ps,_,⟨v,r,e,h1,h2⟩=>by refine e▸?_;exact ⟨v,_,rfl,h1,h2.take⟩
theorem RepL.drop {H:Hp}:∀{n:Nat} {ps:LB} {vs:LO},RepL H vs ps→RepL H (vs.drop n) (ps.drop n)
 | 0,_,_,h=>h
 | n+1,[],_,h=>by subst h;rfl
 | n+1,p::ps,_,⟨v,r,e,h1,h2⟩=>by refine e▸?_;exact h2.drop
theorem RepL.slc {H:Hp} {ps:LB} {vs:LO} {lo hi:Option Int} (h:RepL H vs ps):RepL H (slc vs lo hi) (slc ps lo hi):=by
 unfold Mine.Internal.slc;refine h.length▸?_;exact h.drop.take
theorem rz {x:LB} {l u:PV} {lo hi:Option Int} {Q:PV→Prop} (bl:Bd l lo) (bu:Bd u hi) (hx:x.length≤1048576) (q:Q (.lst (slc x lo hi))):um g A (.lst x) l u Q:=fun c st frz s v vl vu E hA hG X r rl ru a ha=>by
 refine u23 (r.lstAt X) ?_;rintro b vs rfl ht rv;have hvl:vs.length=x.length:=rv.length;refine ⟨(v22 ("list") _ ht.typeIs RP),QU ht ha (bl.part rl).1 (bu.part ru).1 .none (by simp) ?_ (by refine Ml▸hvl▸MQ▸?_;exact y_4 hx)⟩;have X':=X.push { cls:=.type "list",data:=.seq (slicePick vs.toArray lo hi Option.none) } rfl;have k:Sub frz ((s.heap.objs.size,({ cls:=.type "list",data:=.seq (slicePick vs.toArray lo hi Option.none) }:Obj))::frz):=fun p hp=>.tail _ hp;have e:slicePick vs.toArray lo hi Option.none=(slc vs lo hi).toArray:=by rw [SH];rfl
 refine ⟨.lst _,_,k,X',⟨_,slc vs lo hi,0,rfl,.inl ?_,(rv.mono (Hq.mono k)).slc⟩,q⟩;rw [←e];exact .head _
theorem S.ext {frz:Led} {s:Shared} {h':Heap} {tk:Nat} (X:S g c st frz s) (k:∀b o,s.heap.get? b=some o→h'.get? b=some o):S g c st frz { s with heap:=h',toks:=tk }:=by
 obtain ⟨⟨m,own,frs,F,N,nd,SU,O,V⟩,nn,lc⟩:=X;exact ⟨⟨m,own,frs,⟨F.ns.keeps k,fun b o e=>k b o (F.keep b o e),F.above⟩,fun p hp=>⟨k _ _ (N p hp).1,(N p hp).2⟩,nd,SU,O,V⟩,nn,lc⟩
theorem gv {frz:Led} {s:Shared} {v:Value} {l:LB} {n:Nat} {Q:LO→Shared→Prop} {E:LM} (ok:Ok g c A d) (X:S g c st frz s) (r:Rep (Hq g frz) v (.tup l)) (hn:n=l.length)
 (h:∀vs h',RepL (Hq g frz) vs l→S g c st frz { s with heap:=h' }→Q vs { s with heap:=h' }):wpAny (model g.prog g.w) A (unpackItems v n none) Q E s:=by
 refine u23 (r.tupAt X) ?_;rintro a vs rfl ht rl;refine (show n=vs.toArray.size from by rw [hn,Ml,rl.length])▸?_;refine unpackItems_tuple ok.hand ht fun h' he=>?_;exact h vs h' rl ((X.ext (tk:=s.toks) fun b o e=>he b o (Nh (MI e)) e))
theorem dI (ok:Ok g c A d) {x:Str} {pv:PV} {v:Value} {frz:Led} {s:Shared} {Q:Unit→Shared→Prop} {E:LM} {Qs:St→Prop} (X:S g c st frz s) (r:Rep (Hq g frz) v pv) (q:PutQ x pv st Qs)
 (h:∀st' s',S g c st' frz s'→Qs st'→Q () s'):wpAny (model g.prog g.w) A (storeName c.env x v) Q E s:=by
 obtain ⟨vs',hp,q⟩:=q;exact dH ok X hp r fun s' X'=>h _ s' X' q
theorem Ex.tup2 (ok:Ok g c A d) {x y:Str} {px py tp:Pos} {k:Nat} {e:Expr} {pos} {Q:LK} (h:Ev g c A (eval e c.env) st (fun v st₁=>∃a b,v=.tup [a,b]∧PutQ x a st₁ (fun st₂=>PutQ y b st₂ (Q .next))) R)
 (hs:autoParam (swapsWithSole [.Tuple [.Name x px,.Name y py] k tp] e pos.line c.env=pure false) aR) (hw:swappedStores [.Tuple [.Name x px,.Name y py] k tp] e c.env=pure none) :
 Ex g c A (exec (.Assign [.Tuple [.Name x px,.Name y py] k tp] e pos) c.env) st Q R:=fun frz s X=>by
 refine Assign_Tuple (tt (h frz s X) (fun v s₁ hh=>?_) fun _ _ e=>e) hs hw;obtain ⟨pv,st₁,f₁,a₁,X₁,r₁,a,b,rfl,q⟩:=hh;refine KE (MW ?_);refine KE (Mw (gv ok X₁ r₁ rfl fun vs h' rl X₂=>?_));obtain ⟨v1,r,rfl,r1,v2,r',rfl,r2,rfl⟩:=rl;refine KE (Mw (assign_Name (dI ok X₂ r1 q fun st₃ s₃ X₃ q₃=>?_)));refine KE (Mw (assign_Name (dI ok X₃ r2 q₃ fun st₄ s₄ X₄ q₄=>?_)));exact Mh ⟨.next,st₄,f₁,a₁,X₄,trivial,q₄⟩
theorem Ex.tup3 (ok:Ok g c A d) {x y z:Str} {px py pz tp:Pos} {k:Nat} {e:Expr} {pos} {Q:LK} (h:Ev g c A (eval e c.env) st (fun v st₁=>∃a b d,v=.tup [a,b,d]∧PutQ x a st₁ (fun st₂=>PutQ y b st₂ (fun st₃=>PutQ z d st₃ (Q .next)))) R)
 (hs:autoParam (swapsWithSole [.Tuple [.Name x px,.Name y py,.Name z pz] k tp] e pos.line c.env=pure false) aR) (hw:swappedStores [.Tuple [.Name x px,.Name y py,.Name z pz] k tp] e c.env=pure none) :
 Ex g c A (exec (.Assign [.Tuple [.Name x px,.Name y py,.Name z pz] k tp] e pos) c.env) st Q R:=fun frz s X=>by
 refine Assign_Tuple (tt (h frz s X) (fun v s₁ hh=>?_) fun _ _ e=>e) hs hw;obtain ⟨pv,st₁,f₁,a₁,X₁,r₁,a,b,d',rfl,q⟩:=hh;refine KE (MW ?_);refine KE (Mw (gv ok X₁ r₁ rfl fun vs h' rl X₂=>?_));obtain ⟨v1,r,rfl,r1,v2,r',rfl,r2,v3,r'',rfl,r3,rfl⟩:=rl;refine KE (Mw (assign_Name (dI ok X₂ r1 q fun st₃ s₃ X₃ q₃=>?_)));refine KE (Mw (assign_Name (dI ok X₃ r2 q₃ fun st₄ s₄ X₄ q₄=>?_)));refine KE (Mw (assign_Name (dI ok X₄ r3 q₄ fun st₅ s₅ X₅ q₅=>?_)));exact Mh ⟨.next,st₅,f₁,a₁,X₅,trivial,q₅⟩
theorem Lu (ok:Ok g c A d) {x y:Str} {px py tp:Pos} {k:Nat} {e:Expr} {pos} {Q:LK} (h:Ev g c A (eval e c.env) st (fun v st₁=>∃a b,v=.tup [a,b]∧PutQ y b st₁ (fun st₂=>PutQ x a st₂ (Q .next))) R)
 (hs:autoParam (swapsWithSole [.Tuple [.Name x px,.Name y py] k tp] e pos.line c.env=pure false) aR) (hw:swappedStores [.Tuple [.Name x px,.Name y py] k tp] e c.env=pure (some [x,y])) :
 Ex g c A (exec (.Assign [.Tuple [.Name x px,.Name y py] k tp] e pos) c.env) st Q R:=fun frz s X=>by
 refine Assign_Tuple_swapped (tt (h frz s X) (fun v s₁ hh=>?_) fun _ _ e=>e) hs hw;obtain ⟨pv,st₁,f₁,a₁,X₁,r₁,a,b,rfl,q⟩:=hh;refine gv ok X₁ r₁ rfl fun vs h' rl X₂=>?_;obtain ⟨v1,r,rfl,r1,v2,r',rfl,r2,rfl⟩:=rl;refine KE (Mw (TC (dI ok X₂ r2 q fun st₃ s₃ X₃ q₃=>?_)));refine KE (Mw (TC (dI ok X₃ r1 q₃ fun st₄ s₄ X₄ q₄=>?_)));exact Mh ⟨.next,st₄,f₁,a₁,X₄,trivial,q₄⟩
theorem Ok.block (ok:Ok g c A d):c.env.blockKind=.function:=by
 unfold Sk;show (if c.cs.kind.isAnnotationScope=true then ScopeKind.function else c.cs.kind)=_;refine ok.kind.symm▸?_;rfl
theorem cU {α:Type} {c:Prop} [Decidable c] {a b x:α} (h:¬c) (e:b=x):ite c a b=x:=(if_neg h).trans e
theorem fj {α:Type} {c:Prop} [Decidable c] {b x:α} (e:b=x):ite c x b=x:=by refine e.symm▸?_;exact ite_self x
theorem pf {x y:Str} {p q:Bool} (h:p=true) (h':q=true):Ql id [if p=true then some x else none,if q=true then some y else none]=[x,y]:=by refine h.symm▸h'.symm▸?_;rfl
theorem rk (ok:Ok g c A d) {x y:Str} {px py tp vp:Pos} {k k':Nat} {e₁ e₂:Expr} (hx:(x,NameKind.local)∈c.cs.names) (hy:(y,NameKind.local)∈c.cs.names) (hne:(x==y)=false) (hl:(px.line==py.line)=true)
 (h1:autoParam (([e₁,e₂].any fun|.Starred ..=>true|_=>false)=false) aR) (h2:autoParam ([e₁,e₂].all (foldedForSure 8)=false) aR) (h3:autoParam ([e₁,e₂].all (constantsAlone 8)=false) aR) :
 swappedStores [.Tuple [.Name x px,.Name y py] k tp] (.Tuple [e₁,e₂] k' vp) c.env=pure (some [x,y]):=by
 refine cU (by refine ok.block.symm▸?_;exact MY) (cU (fun h=>MY (h1.symm.trans h)) ?_);show @ite _ _ _ _ _=_;generalize hn:Ql (β:=Str) _ [Expr.Name x px,Expr.Name y py]=ns;obtain rfl:[x,y]=ns:=(pf (show (c.env.kindOf x==some .local&&px.line==px.line)=true from by rw [ok.isLocal hx];exact beq_self_eq_true px.line) (show (c.env.kindOf y==some .local&&py.line==px.line)=true from by rw [ok.isLocal hy,beq_iff_eq.mp hl];exact beq_self_eq_true py.line)).symm.trans hn;refine cU (fun h=>?_) (cU (fun h=>MY (h2.symm.trans h)) (cU (fun h=>MY (h3.symm.trans h)) rfl));rw [(show List.eraseDups [x,y]=[x,y] from by simp [List.eraseDups_cons,(beq_eq_false_iff_ne.mpr (NM (beq_eq_false_iff_ne.mp hne)))])] at h;exact MY h
theorem iU (ok:Ok g c A d) {x y:Str} {px py tp vp:Pos} {k k':Nat} {e₁ e₂:Expr} (h2:autoParam ([e₁,e₂].all (foldedForSure 8)=true) aR) :
 swappedStores [.Tuple [.Name x px,.Name y py] k tp] (.Tuple [e₁,e₂] k' vp) c.env=pure none:=by
 exact cU (by refine ok.block.symm▸?_;exact MY) (fj (fj (if_pos h2)))
theorem pj (ok:Ok g c A d) {x y z:Str} {px py pz tp vp:Pos} {k k':Nat} {e₁ e₂ e₃:Expr} (h2:autoParam ([e₁,e₂,e₃].all (foldedForSure 8)=true) aR) :
 swappedStores [.Tuple [.Name x px,.Name y py,.Name z pz] k tp] (.Tuple [e₁,e₂,e₃] k' vp) c.env=pure none:=by
 exact cU (by refine ok.block.symm▸?_;exact MY) (fj (fj (if_pos h2)))
end
theorem AORep.monoT {H H':Hp} (k:∀a o,KG o→H a o→H' a o) {a:Addr}:∀{o:AO} {es:Led},AORep H a o es→AORep H' a o es
 | .list _,_,⟨vs,n,e,h⟩=>⟨vs,n,e,h.monoT k⟩
 | .raw _,_,h=>h
 | .obj _,_,h=>fun H'' k'=>h H'' fun a o hs hh=>k' a o hs (k a o hs hh)
theorem OwnR.monoT {H H':Hp} (k:∀a o,KG o→H a o→H' a o):∀{ow:Own} {es:Led},OwnR H ow es→OwnR H' ow es
 | [],_,h=>h
 | _::_,_,⟨e1,e2,e,h1,h2⟩=>⟨e1,e2,e,h1.monoT k,h2.monoT k⟩
theorem VarsR.monoT {H H':Hp} {m:LN} {vs:aM} (k:∀a o,KG o→H a o→H' a o) (h:VarsR H m vs):VarsR H' m vs:=
 fun x pv q=>by obtain ⟨v,a,b⟩:=h x pv q;exact ⟨v,a,b.monoT k⟩
theorem lB {α β:Type} {a:α} {x y:β}:∀{l:List (α×β)},(l.map (·.1)).Nodup→(a,x)∈l→(a,y)∈l→x=y:=by
 intro l
 induction l with
 | nil=>exact fun _ h _=>nomatch h
 | cons p r ih=>
  intro nd h1 h2;rcases Me.mp h1 with e1|h1'<;>rcases Me.mp h2 with e2|h2'
  ·replace e2:=e1▸e2;cases e2;rfl
  ·exact absurd (show p.1∈r.map (·.1) by rw [←e1];exact Ma.mpr ⟨_,h2',rfl⟩) (Mt.mp nd).1
  ·exact absurd (show p.1∈r.map (·.1) by rw [←e2];exact Ma.mpr ⟨_,h1',rfl⟩) (Mt.mp nd).1
  ·exact ih (Mt.mp nd).2 h1' h2'
section
variable {g:Gx} {c:Cx} {A:Around} {st:St} {R:LG} {d:Nat}
noncomputable abbrev less (frz:Led) (it:Addr):Led:=frz.filter fun p=>decide (p.1≠it)
theorem S.iter {frz:Led} {s:Shared} {it:Addr} {o:Obj} {h':Heap} {tk:Nat} (X:S g c st frz s) (hm:(it,o)∈frz) (ho:¬KG o) (k:QS it s.heap h') :
 S g c st (less frz it) { s with heap:=h',toks:=tk }∧∀o',h'.get? it=some o'→S g c st ((it,o')::less frz it) { s with heap:=h',toks:=tk }:=by
 obtain ⟨⟨m,own,frs,F,N,nd,SU,O,V⟩,nn,lc⟩:=X;have hin:(it,o)∈own++(frz++frs):=LZ _ (Mc _ hm);have sub:∀p,p∈own++(less frz it++frs)→p∈own++(frz++frs):=fun p hp=>by
  simp only [Mi,Nu] at hp⊢;rcases hp with hp|hp|hp
  ·exact .inl hp
  ·exact .inr (.inl hp.1)
  ·exact .inr (.inr hp)
 have subl:((own++(less frz it++frs)).map (·.1)).Sublist ((own++(frz++frs)).map (·.1)):=
  Ty _ ((Qp _).append (List.filter_sublist.append (Qp _)))
 have nit:it∉(own++(less frz it++frs)).map (·.1):=fun hx=>by
  refine u12 (Ma.mp hx) ?_;rintro p hp e;have e':p.1=it:=e;have nd':=nd;simp only [Mz] at nd';refine u03 (MH.mp nd') ?_;rintro _ nd2 nd3;refine u03 (MH.mp nd2) ?_;rintro _ _ nd5;have hi:it∈frz.map (·.1):=Ma.mpr (v12 _ hm rfl);simp only [Mi,Nu,decide_eq_true_eq] at hp;rcases hp with hp|hp|hp
  ·exact nd3 _ (Ma.mpr (v12 p hp e')) it (Mc _ hi) rfl
  ·exact hp.2 e'
  ·exact nd5 it hi it (Ma.mpr (v12 p hp e')) rfl
 have kT:∀a ob,KG ob→Hq g frz a ob→Hq g (less frz it) a ob:=fun a ob hq hh=>by
  refine Mx hh (fun hh=>?_) fun hh=>?_
  ·refine .inl (Nu.mpr ⟨hh,?_⟩);simp only [decide_eq_true_eq];intro e;have e':a=it:=e;subst e';have ndf:(frz.map (·.1)).Nodup:=by
    have nd':=nd;simp only [Mz] at nd';exact (MH.mp (MH.mp nd').2.1).1
   have:=lB ndf hm hh;exact ho (this▸hq)
  ·exact .inr hh
 have nL:it≠c.L:=(N _ hin).2.1;have F':Fr g.base c.L h' m:=⟨F.ns.extBut k nL.symm,fun b ob e=>k b ob (fun q=>by replace e:=q▸e;replace e:=((N _ hin).2.2)▸e;injection e) (F.keep b ob e),F.above⟩
 have N':News g.base c.L h' (own++(less frz it++frs)):=fun p hp=>by
  refine u03 (N p (sub p hp)) ?_;rintro a1 a2 a3;exact (v03 (k _ _ (fun q=>nit (Ma.mpr (v12 p hp q))) a1) a2 a3)
 refine ⟨⟨⟨m,own,frs,F',N',nd.sublist subl,SU,O.monoT kT,V.monoT kT⟩,nn,lc⟩,fun o' ho'=>?_⟩;have kM:∀a ob,Hq g (less frz it) a ob→Hq g ((it,o')::less frz it) a ob:=Hq.mono fun p hp=>.tail _ hp;refine ⟨⟨m,own,frs,F',fun p hp=>?_,?_,SU,(O.monoT kT).mono kM,VarsR.mono kM (V.monoT kT)⟩,nn,lc⟩
 ·have hp':p=(it,o')∨p∈own++(less frz it++frs):=by
   refine Mx (Mi.mp hp) (fun hp=>?_) fun hp=>?_
   ·exact .inr (Mc _ hp)
   ·refine Mx (Me.mp hp) (fun hp=>?_) fun hp=>?_
    ·exact .inl hp
    ·exact .inr (LZ _ hp)
  rcases hp' with rfl|hp'
  ·exact (v03 ho' nL ((N _ hin).2.2))
  ·exact N' p hp'
 ·have perm:((own++((it,o')::less frz it++frs)).map (·.1)).Perm (it::(own++(less frz it++frs)).map (·.1)):=by
   simp only [Mz,Mu,MD];exact Nv
  exact perm.nodup_iff.mpr (Mt.mpr ⟨nit,nd.sublist subl⟩)
def IsIt (o:Obj):Prop:=∃n∈["tuple_iterator","list_iterator","str_ascii_iterator","str_iterator","range_iterator"],o.cls=.type n
theorem IsIt.noSeq {o:Obj} (h:IsIt o):¬KG o:=by
 refine u12 h ?_;clear h;rintro n hn hc;unfold KG;refine hc▸?_;intro h;simp only [Me,ML,or_false] at hn;rcases h with h|h|h<;>injection h with h<;>subst h<;>revert hn<;>decide
theorem IsIt.go {target:Expr} {it:Addr} {o:Obj} {v:Value} {s:Shared} {Q:Unit→Shared→Prop} {E:LM} (h:IsIt o) (ho:s.heap.get? it=some o) (q:Q () s):wpAny (model g.prog g.w) A (letOwnedTupleGo target (.ref it) v) Q E s:=by
 refine u12 h ?_;clear h;rintro n hn hc;have key:["enumerate","zip","dict_itemiterator","dict_reverseitemiterator","odict_iterator","itertools.zip_longest","itertools.pairwise"].contains n=false:=by
  simp only [Me,ML,or_false] at hn;rcases hn with rfl|rfl|rfl|rfl|rfl<;>decide
 have tup:wpAny (model g.prog g.w) A (match (Value.ref it,v) with
  | (.ref r,.ref a)=>(do
   let o←load r
   match o.cls,o.data with
   | .type n,.fields vs=>
    if ["enumerate","zip","dict_itemiterator","dict_reverseitemiterator","odict_iterator","itertools.zip_longest","itertools.pairwise"].contains n&&vs[0]?==some (rawInt a) then
     rule "for.unpacks-the-owned-tuple"
     updateField r 0 .none
   | _,_=>pure ():Sem Unit)
  | _=>pure ()) Q E s:=by
  cases v<;>first|exact Mh q|skip
  refine KE (wpAny_load ho ?_);refine hc▸?_;cases o.data<;>first|exact Mh q|skip
  dsimp only;refine key▸?_;exact Mh q
 cases target<;>first|exact Mh q|exact tup
def Nxt (g:Gx) (A:Around) (it:Addr):LB→Led→Obj→Prop
 | [],f₀,o=>IsIt o∧∀c st f s (Q:Option Value→Shared→Prop) E,Sub f₀ f→S g c st f s→s.heap.get? it=some o→(∀h',QS it s.heap h'→Q none { s with heap:=h' })→wpAny (model g.prog g.w) A (pyNext (.ref it)) Q E s
 | p::ps,f₀,o=>IsIt o∧∀c st f s (Q:Option Value→Shared→Prop) E,Sub f₀ f→S g c st f s→s.heap.get? it=some o→
  (∀v o' h' tk,Rep (Hq g f₀) v p→Nxt g A it ps f₀ o'→Og it s.heap h'→h'.get? it=some o'→Q (some v) { s with heap:=h',toks:=tk })→wpAny (model g.prog g.w) A (pyNext (.ref it)) Q E s
theorem Nxt.seq {it:Addr}:∀{l:LB} {f₀:Led} {o:Obj},Nxt g A it l f₀ o→IsIt o
 | [],_,_,h=>h.1
 | _::_,_,_,h=>h.1
def dC (g:Gx) (A:Around) (pv:PV) (items:LB):Prop:=
 ∀c st f s v (Q:LM) E,S g c st f s→Rep (Hq g f) v pv→(∀o,o.isFreed=false→Nxt g A s.heap.objs.size items f o→Q (.ref s.heap.objs.size) { s with heap:=s.heap.push o })→wpAny (model g.prog g.w) A (pyIter v) Q E s
def qI (T:PV→St→(St→Prop)→Prop) (g:Gx) (c:Cx) (A:Around) (body:LT) (Q:LK) (R:LG):LB→St→Prop
 | [],st=>Q .next st
 | p::ps,st=>T p st fun st'=>Ex g c A (execs body c.env) st' (xA Q (qI T g c A body Q R ps)) R
abbrev wq (g:Gx) (c:Cx) (A:Around) (x:Str) (body:LT) (Q:LK) (R:LG):LB→St→Prop:=qI (PutQ x) g c A body Q R
def xB (g:Gx) (c:Cx) (A:Around) (target:Expr) (T:PV→St→(St→Prop)→Prop):Prop:=∀{frz s st p v K Q E},S g c st frz s→Rep (Hq g frz) v p→T p st K→(∀st' s',S g c st' frz s'→K st'→Q () s')→wpAny (model g.prog g.w) A (assign target c.env v) Q E s
inductive ForI (g:Gx) (c:Cx) (A:Around) (it:Addr) (f₁:Led) (P:LB→St→Prop) (n:Nat) (s:Shared):Prop
 | mk (ps:LB) (o:Obj) (st':St) (f':Led) (h1:ps.length=n) (h2:Sub f₁ f') (h3:(it,o)∈f') (h4:Nxt g A it ps f₁ o) (h5:S g c st' f' s) (h6:P ps st')
theorem Lj (ok:Ok g c A d) {T:PV→St→(St→Prop)→Prop} {target iter:Expr} {body:LT} {pos} {Q:LK} (ht:xB g c A target T) (h:Ev g c A (eval iter c.env) st (fun pv st₁=>∃items,dC g A pv items∧qI T g c A body Q R items st₁) R)
 (hs:∀v,foldedSetIterable iter c.env v=pure v):Ex g c A (exec (.For target iter body [] pos) c.env) st Q R:=fun frz s X=>by
 refine wpAny_For (tt (h frz s X) (fun v s₁ hh=>?_) fun _ _ e=>e) hs;obtain ⟨pv,st₁,f₁,a₁,X₁,r₁,items,hi,q₁⟩:=hh;refine hi c st₁ f₁ s₁ v _ _ X₁ r₁ fun o hfree hn=>?_;have X₂:=X₁.push o hfree;have fresh:∀p∈f₁,p.1≠s₁.heap.objs.size:=fun p hp=>Nh (MI (X₁.get (.inl hp)));generalize hit:s₁.heap.objs.size=it at *;refine codeAny_forLoop_any (ForI g c A it f₁ (qI T g c A body Q R)) (fun n s hI=>?_) items.length
  ⟨items,o,st₁,_,rfl,fun p hp=>.tail _ hp,.head _,hn,X₂,q₁⟩
 obtain ⟨ps,o,st',f',hlen,hsub,hm,hn,X',q'⟩:=hI;have lessSub:∀{f:Led},Sub f₁ f→Sub f₁ (less f it):=fun k p hp=>Nu.mpr ⟨k p hp,by simpa using fresh p hp⟩;cases ps with
 | nil=>
  refine hn.2 c st' f' s _ _ hsub X' (X'.get (.inl hm)) fun h' k=>?_;exact Pp ⟨.next,st',_,Sub.trans a₁ (lessSub hsub),((X'.iter (tk:=s.toks) hm hn.1.noSeq k).1),trivial,q'⟩
 | cons p ps=>
  refine hn.2 c st' f' s _ _ hsub X' (X'.get (.inl hm)) fun v o' h' tk rv hn' hs' ho'=>?_;have sub₃:Sub f₁ ((it,o')::less f' it):=fun p hp=>.tail _ (lessSub hsub p hp);refine hn'.seq.go ho' ?_;refine ht ((X'.iter (tk:=tk) hm hn.1.noSeq hs'.extBut).2 o' ho') (rv.mono (Hq.mono sub₃)) q' fun st₄ s₄ X₄ q₄=>?_;refine tt (q₄ _ s₄ X₄) (fun f s₅ hh=>?_) fun _ _ e=>(fun k h=>sy ok ((h.mono k).mono a₁) fun _ _ h=>h) sub₃ e;obtain ⟨af,st₅,f₅,a₅,X₅,r₅,q₅⟩:=hh;have sub₅:Sub f₁ f₅:=Sub.trans sub₃ a₅;have m₅:(it,o')∈f₅:=a₅ _ (.head _);cases f with
  | next=>
   cases af with
   | next=>exact ⟨ps.length,by simp at hlen;exact y_5 hlen,ps,o',st₅,f₅,rfl,sub₅,m₅,hn',X₅,q₅⟩
   | _=>exact r₅.elim
  | cont=>
   cases af with
   | cont=>exact ⟨ps.length,by simp at hlen;exact y_5 hlen,ps,o',st₅,f₅,rfl,sub₅,m₅,hn',X₅,q₅⟩
   | _=>exact r₅.elim
  | brk=>
   cases af with
   | brk=>exact ⟨.next,st₅,f₅,Sub.trans a₁ sub₅,X₅,trivial,q₅⟩
   | _=>exact r₅.elim
  | ret v=>
   cases af with
   | ret pv=>exact ⟨.ret pv,st₅,f₅,Sub.trans a₁ sub₅,X₅,r₅,q₅⟩
   | _=>exact r₅.elim
theorem Ld (ok:Ok g c A d) {x:Str} {px:Pos} {iter:Expr} {body:LT} {pos} {Q:LK} (h:Ev g c A (eval iter c.env) st (fun pv st₁=>∃items,dC g A pv items∧wq g c A x body Q R items st₁) R)
 (hs:∀v,foldedSetIterable iter c.env v=pure v:=by intro _;rfl):Ex g c A (exec (.For (.Name x px) iter body [] pos) c.env) st Q R:=
 Lj ok (fun X r q k=>assign_Name (dI ok X r q k)) h hs
theorem vv (hA:A.handled=none) {f:Led} {t:Addr} {vs:LO} {n:Nat} {l:LB} (ht:Hq g f t { cls:=.type "tuple",data:=.seq vs.toArray n }) (rl:RepL (Hq g f) vs l) (it:Addr) :
 ∀(ps:LB) (i:Nat) (o:Obj),ps=l.drop i→o.cls=.type "tuple_iterator"→o.data=.fields #[.ref t,.int i 0]→Nxt g A it ps f o:=by
 intro ps
 induction ps with
 | nil=>
  intro i o hp hc hd;refine ⟨⟨_,by decide,hc⟩,fun c st f' s Q E hs X ho h=>?_⟩;have hl:l.length≤i:=by
   have:=congrArg Nf hp;simp at this;exact y_6 this
  exact wpAny_pyNext_tuple_end hA ⟨o,ho,hc,hd⟩ ⟨_,X.get (Hq.mono hs _ _ ht),rfl,n,rfl⟩ (by simp [rl.length,hl]) h
 | cons p ps ih=>
  intro i o hp hc hd;refine ⟨⟨_,by decide,hc⟩,fun c st f' s Q E hs X ho h=>?_⟩;have hi:l[i]? = some p:=by
   have:=congrArg (fun z:LB=>z[0]?) hp;simpa using this.symm
  refine u12 (rl.at hi) ?_;rintro v hv rv;refine wpAny_pyNext_tuple_item (x:=v) (v13 o ho hc hd) ⟨_,X.get (Hq.mono hs _ _ ht),rfl,n,rfl⟩ (by simpa using hv) fun h' hit hs'=>?_;refine u13 hit ?_;clear hit;rintro o' ho' hc' hd';refine h v o' h' s.toks rv (ih (i+1) o' ?_ hc' hd') hs' ho';have:=congrArg TG hp;simpa [RV] using this
theorem vw (hA:A.handled=none) {f:Led} {t:Addr} {vs:LO} {n:Nat} {l:LB} (ht:Hq g f t { cls:=.type "list",data:=.seq vs.toArray n }) (rl:RepL (Hq g f) vs l) (it:Addr) :
 ∀(ps:LB) (i:Nat) (o:Obj),ps=l.drop i→o.cls=.type "list_iterator"→o.data=.fields #[.ref t,.int i 0]→Nxt g A it ps f o:=by
 intro ps
 induction ps with
 | nil=>
  intro i o hp hc hd;refine ⟨⟨_,by decide,hc⟩,fun c st f' s Q E hs X ho h=>?_⟩;have hl:l.length≤i:=by
   have:=congrArg Nf hp;simp at this;exact y_6 this
  exact wpAny_pyNext_list_end hA ⟨o,ho,hc,hd⟩ ⟨_,X.get (Hq.mono hs _ _ ht),rfl,n,rfl⟩ (by simp [rl.length,hl]) h
 | cons p ps ih=>
  intro i o hp hc hd;refine ⟨⟨_,by decide,hc⟩,fun c st f' s Q E hs X ho h=>?_⟩;have hi:l[i]? = some p:=by
   have:=congrArg (fun z:LB=>z[0]?) hp;simpa using this.symm
  refine u12 (rl.at hi) ?_;rintro v hv rv;refine wpAny_pyNext_list_item (x:=v) (v13 o ho hc hd) ⟨_,X.get (Hq.mono hs _ _ ht),rfl,n,rfl⟩ (by simpa using hv) fun h' hit hs'=>?_;refine u13 hit ?_;clear hit;rintro o' ho' hc' hd';refine h v o' h' s.toks rv (ih (i+1) o' ?_ hc' hd') hs' ho';have:=congrArg TG hp;simpa [RV] using this
theorem sH (hA:A.handled=none) {l:LB}:dC g A (.tup l) l:=fun c st f s v Q E X r h=>by
 obtain ⟨t,vs,n,rfl,ht,rl⟩:=r;exact wpAny_pyIter_tuple ⟨_,X.get ht,rfl,n,rfl⟩ (h _ rfl (vv hA ht rl _ l 0 _ rfl rfl rfl))
def uo (g:Gx) (A:Around) (it:Addr) (o:Obj):Prop:=∀s (Q:LM) E,s.heap.get? it=some o→Q (.ref it) s→wpAny (model g.prog g.w) A (pyIter (.ref it)) Q E s
def IterS (g:Gx) (A:Around) (pv:PV) (items:LB):Prop:=
 ∀c st f s v (Q:LM) E,S g c st f s→Rep (Hq g f) v pv→(∀o,o.isFreed=false→uo g A s.heap.objs.size o→Nxt g A s.heap.objs.size items f o→Q (.ref s.heap.objs.size) { s with heap:=s.heap.push o })→wpAny (model g.prog g.w) A (pyIter v) Q E s
theorem jl (hA:A.handled=none) {l:LB}:IterS g A (.lst l) l:=fun c st f s v Q E X r h=>by
 obtain ⟨t,vs,n,rfl,ht,rl⟩:=r;exact wpAny_pyIter_list ⟨_,X.get ht,rfl,n,rfl⟩ (h _ rfl (fun s Q E h q=>wpAny_pyIter_listiter (v13 _ h rfl rfl) q) (vw hA ht rl _ l 0 _ rfl rfl rfl))
theorem IterS.w {pv:PV} {l:LB} (h:IterS g A pv l):dC g A pv l:=fun c st f s v Q E X r k=>h c st f s v Q E X r fun o h1 _ h2=>k o h1 h2
theorem hV (hA:A.handled=none) {l:LB}:dC g A (.lst l) l:=(jl hA).w
noncomputable def eB (x:LA):LB:=x.map fun n=>.str [n]
theorem oo (hA:A.handled=none) {f:Led} {x:LA} {t:Tok} {ty:String} (hty:ty = "str_ascii_iterator"∨ty = "str_iterator") (it:Addr) :
 ∀(ps:LB) (i:Nat) (o:Obj),ps=eB (x.drop i)→o.cls=.type ty→o.data=.fields #[.str (txt x) t,.int i 0]→Nxt g A it ps f o:=by
 intro ps
 induction ps with
 | nil=>
  intro i o hp hc hd;refine ⟨⟨_,by rcases hty with rfl|rfl<;>decide,hc⟩,fun c st f' s Q E hs X ho h=>?_⟩;have hl:x.length≤i:=by
   have:=congrArg Nf hp;simp [eB] at this;exact y_6 this
  have hx:(txt x).cps[i]? = none:=by simp [hl]
  refine Mx hty (fun hz=>?_) fun hz=>?_
  ·obtain rfl:=hz;exact wpAny_pyNext_ascii_end hA ⟨o,ho,hc,hd⟩ hx h
  ·obtain rfl:=hz;exact wpAny_pyNext_wide_end hA ⟨o,ho,hc,hd⟩ hx h
 | cons p ps ih=>
  intro i o hp hc hd;refine ⟨⟨_,by rcases hty with rfl|rfl<;>decide,hc⟩,fun c st f' s Q E hs X ho h=>?_⟩;have hi:i<x.length:=by
   have:=congrArg Nf hp;simp [eB] at this;exact y_7 this
  rw [(show x.drop i=x[i]::x.drop (i+1) from List.drop_eq_getElem_cons hi)] at hp;simp only [eB,Mu,PB] at hp;have hx:(txt x).cps[i]? = some x[i]:=by simp [hi]
  rcases hty with rfl|rfl
  ·refine wpAny_pyNext_ascii_item (v13 o ho hc hd) hx fun h' hit hs'=>?_;refine u13 hit ?_;clear hit;rintro o' ho' hc' hd';exact h _ o' h' (s.toks+1) (by rw [hp.1];exact ⟨s.toks,rfl⟩) (ih (i+1) o' hp.2 hc' hd') hs' ho'
  ·refine wpAny_pyNext_wide_item ⟨o,ho,hc,hd⟩ hx fun h' hit hs'=>?_;refine u13 hit ?_;clear hit;rintro o' ho' hc' hd';exact h _ o' h' (s.toks+1) (by rw [hp.1];exact ⟨s.toks,rfl⟩) (ih (i+1) o' hp.2 hc' hd') hs' ho'
theorem sJ (hA:A.handled=none) {x:LA}:dC g A (.str x) (eB x):=fun c st f s v Q E X r h=>by
 obtain ⟨t,rfl⟩:=r;cases ha:(txt x).cps.all (·<128) with
 | true=>exact wpAny_pyIter_ascii ha (h _ rfl (oo hA (.inl rfl) _ _ 0 _ rfl rfl rfl))
 | false=>exact wpAny_pyIter_wide ha (h _ rfl (oo hA (.inr rfl) _ _ 0 _ rfl rfl rfl))
noncomputable def bh (a:Int):Nat→LB
 | 0=>[]
 | n+1=>.int a::bh (a+1) n
theorem rc (a:Int) (n:Nat):bh a (n+1)=.int a::bh (a+1) n:=rfl
theorem pP (hA:A.handled=none) {f:Led} (it:Addr):∀(n:Nat) (a:Int),Nxt g A it (bh a n) f { cls:=.type "range_iterator",dict:=none,data:=.fields #[rawInt a,rawInt n,rawInt 1],slots:=#[] }:=by
 intro n
 induction n with
 | zero=>exact fun a=>⟨⟨_,by decide,rfl⟩,fun c st f' s Q E hs X ho h=>wpAny_pyNext_range_end hA ho (by simp) h⟩
 | succ n ih=>
  refine fun a=>⟨⟨_,by decide,rfl⟩,fun c st f' s Q E hs X ho h=>?_⟩
  refine wpAny_pyNext_range_item ho (y_8) fun h' hit hs'=>?_;have e:((n+1:Nat):Int)-1=n:=by exact y_9
  unfold IsRangeIter at hit;rw [e] at hit;exact h _ _ h' (s.toks+1) ⟨_,rfl⟩ (ih (a+1)) hs' hit
theorem gi (hA:A.handled=none) {a b:Int} (h0:-1000000≤a) (h1:b≤1000000) (h2:a≤1000000) (h3:-1000000≤b):IterS g A (.range a b) (bh a (b-a).toNat):=fun c st f s v Q E X r h=>by
 obtain ⟨r,t,u,w,rfl,hr⟩:=r;have hz:PG a b 1=((b-a).toNat:Int):=by
  unfold PG;simp only [show (1:Int)>0 by decide,if_true,Sz]
  split<;>(first|exact Ij (by assumption)|exact Ii (by assumption))
 refine wpAny_pyIter_range (X.get hr) ?_ (h _ rfl (fun s Q E h q=>wpAny_pyIter_rangeiter h q) ?_)
 ·unfold SD SG;refine hz▸?_;simp;exact Ih h0 h1 h2 h3
 ·refine hz▸?_;exact pP hA _ _ _
theorem hU (hA:A.handled=none) {a b:Int} (h0:-1000000≤a) (h1:b≤1000000) (h2:a≤1000000) (h3:-1000000≤b):dC g A (.range a b) (bh a (b-a).toNat):=(gi hA h0 h1 h2 h3).w
theorem fx {n:Int} {own:Own} {Q:LH} {R:LI} (q:Q (.range 0 n) own):CallV g d (.type "range") [.int n] own Q R:=fun c A st frz s vs ok ho X r=>by
 obtain ⟨v,r',rfl,⟨t,rfl⟩,rfl⟩:=r;refine call_range_1 ?_;exact ⟨.range 0 n,own,_,fun p hp=>.tail _ hp,by cases st;subst ho;exact ((X.push { cls:=.type "range",data:=.fields #[.int 0 s.toks,.int n t,.int 1 (s.toks+1)] } rfl).toks (s.toks+1+1)),⟨_,_,_,_,rfl,.inl (.head _)⟩,q⟩
theorem kE {a n:Int} {own:Own} {Q:LH} {R:LI} (q:Q (.range a n) own):CallV g d (.type "range") [.int a,.int n] own Q R:=fun c A st frz s vs ok ho X r=>by
 obtain ⟨v,r',rfl,⟨t,rfl⟩,v2,r2,rfl,⟨t2,rfl⟩,rfl⟩:=r;refine call_range_2 ?_;exact ⟨.range a n,own,_,fun p hp=>.tail _ hp,by cases st;subst ho;exact ((X.push { cls:=.type "range",data:=.fields #[.int a t,.int n t2,.int 1 s.toks] } rfl).toks (s.toks+1)),⟨_,_,_,_,rfl,.inl (.head _)⟩,q⟩
end
inductive AllS:LB→List (LA)→Prop
 | nil:AllS [] []
 | cons {y:LA} {l:LB} {ys:List (LA)}:AllS l ys→AllS (.str y::l) (y::ys)
theorem AllS.are {H:Hp} {l:LB} {ys:List (LA)} (k:AllS l ys):∀{vs:LO},RepL H vs l→StrsAre vs (ys.map txt):=by
 induction k with
 | nil=>intro vs h;subst h;exact .nil
 | cons _ ih=>intro vs h;obtain ⟨v,r,rfl,⟨t,rfl⟩,h2⟩:=h;exact .cons _ t (ih h2)
theorem gC (ys:List (LA)) (x:LA):(ys.map txt).any (·==txt x)=decide (x∈ys):=by
 induction ys with
 | nil=>simp
 | cons y r ih=>
  rw [Mu,Np,ih,eS];by_cases h:y=x
  ·subst h;simp
  ·simp [h,(show ¬x=y from fun e=>h e.symm)]
section
variable {g:Gx} {c:Cx} {A:Around} {st:St} {R:LG} {d:Nat}
theorem wc {x:LA} {l:LB} {ys:List (LA)} {Q:Bool→Prop} (hl:AllS l ys) (q:Q (decide (x∈ys))):CmpW g A .In (.str x) (.tup l) Q:=.of q (by
 rintro c st frz s _ w _ _ _ X ⟨t,rfl⟩ r Q' E h;refine u23 (r.tupAt X) ?_;rintro a vs rfl ht rl;exact in_tuple_strs ht (hl.are rl) (by rw [gC];exact h s.toks))
theorem tB {x:LA} {l:LB} {ys:List (LA)} {Q:Bool→Prop} (hl:AllS l ys) (q:Q (!decide (x∈ys))):CmpW g A .NotIn (.str x) (.tup l) Q:=.of q (by
 rintro c st frz s _ w _ _ _ X ⟨t,rfl⟩ r Q' E h;refine u23 (r.tupAt X) ?_;rintro a vs rfl ht rl;exact notin_tuple_strs ht (hl.are rl) (by rw [gC];exact h s.toks))
theorem wd {x:LA} {l:LB} {ys:List (LA)} {Q:Bool→Prop} (hl:AllS l ys) (q:Q (decide (x∈ys))):CmpW g A .In (.str x) (.lst l) Q:=.of q (by
 rintro c st frz s _ w _ _ _ X ⟨t,rfl⟩ r Q' E h;refine u23 (r.lstAt X) ?_;rintro a vs rfl ht rl;exact in_list_strs ht (hl.are rl) (by rw [gC];exact h s.toks))
theorem tC {x:LA} {l:LB} {ys:List (LA)} {Q:Bool→Prop} (hl:AllS l ys) (q:Q (!decide (x∈ys))):CmpW g A .NotIn (.str x) (.lst l) Q:=.of q (by
 rintro c st frz s _ w _ _ _ X ⟨t,rfl⟩ r Q' E h;refine u23 (r.lstAt X) ?_;rintro a vs rfl ht rl;exact notin_list_strs ht (hl.are rl) (by rw [gC];exact h s.toks))
theorem KV {frz:Led} {s:Shared} {m:LN} {own frs:Led} {o:Obj} {h':Heap} {tk:Nat} (C:Core g c st frz s.heap m own frs) (nn:(st.vars.map (·.1)).Nodup) (lc:Aq g c st s)
 (F:Fr g.base c.L h' m) (N:News g.base c.L h' ((s.heap.objs.size,o)::(own++(frz++frs)))):S g c st ((s.heap.objs.size,o)::frz) { s with heap:=h',toks:=tk }:=by
 obtain ⟨F₀,N₀,nd,SU,O,V⟩:=C;have km:∀a ob,Hq g frz a ob→Hq g ((s.heap.objs.size,o)::frz) a ob:=Hq.mono fun p hp=>.tail _ hp;refine ⟨⟨m,own,frs,⟨F,fun p hp=>N p ?_,?_,SU,O.mono km,V.mono km⟩⟩,nn,lc⟩
 ·refine Mx (Mi.mp hp) (fun hp=>?_) fun hp=>?_
  ·exact .tail _ (Mc _ hp)
  ·refine Mx (Me.mp hp) (fun hz=>?_) fun hp=>?_
   ·obtain rfl:=hz;exact .head _
   ·exact .tail _ (LZ _ hp)
 ·have hn:s.heap.objs.size∉(own++(frz++frs)).map (·.1):=fun hm=>by
   obtain ⟨p,hp,e⟩:=Ma.mp hm;have:=MI (N₀ p hp).1;rw [e] at this;exact absurd this (NZ _)
  have:((own++((s.heap.objs.size,o)::frz++frs)).map (·.1)).Perm (s.heap.objs.size::(own++(frz++frs)).map (·.1)):=by
   simp only [Mz,Mu,MD];exact Nv
  exact (this.nodup_iff).mpr (Mt.mpr ⟨hn,nd⟩)
theorem RepL.append {H:Hp}:∀{ps qs:LB} {vs ws:LO},RepL H vs ps→RepL H ws qs→RepL H (vs++ws) (ps++qs)
 | [],_,_,_,h,k=>by subst h;exact k
 | p::ps,_,_,_,⟨v,r,e,h1,h2⟩,k=>by subst e;exact ⟨v,_,rfl,h1,h2.append k⟩
theorem lV {x y:LB} {Q:PV→Prop} (hs:x.length+y.length≤16777216) (q:Q (.lst (x++y))):BinW g A (binaryOp .Add) (.lst x) (.lst y) Q:=fun c st frz s v w E hA X r1 r2=>by
 refine u23 (r1.lstAt X) ?_;rintro a vs rfl ht rl;refine u23 (r2.lstAt X) ?_;rintro b ws rfl hb rb;obtain ⟨⟨m,own,frs,C⟩,nn,lc⟩:=X;refine add_arrays C.F C.N ht hb (fun h' F' N'=>?_) (by rw [Ml,Ml,rl.length,rb.length,MQ];exact hs);have k:Sub frz ((s.heap.objs.size,({ cls:=.type "list",data:=.seq (vs.toArray.toList++ws.toArray.toList).toArray }:Obj))::frz):=fun p hp=>.tail _ hp;exact ⟨.lst (x++y),_,k,(KV (tk:=s.toks) C nn lc F' N'),⟨_,vs++ws,0,rfl,.inl (.head _),(rl.mono (Hq.mono k)).append (rb.mono (Hq.mono k))⟩,q⟩
theorem oY {x y:Int} {Q:PV→Prop} (hy:0≤y) (hm:(MG x:Int)*y≤2 ^ 27) (q:Q (.int (x ^ y.toNat))):BinW g A (binaryOp .Pow) (.int x) (.int y) Q:=.of q (by
 rintro c st frz s _ _ _ X ⟨t,rfl⟩ ⟨u,rfl⟩ Q' E h;exact Tb hy hm (h _ _ ⟨_,rfl⟩))
theorem wm {x y:Int} {Q:PV→Prop} (hy:0≤y) (h2:y≤1000000) (hx:x.natAbs<2 ^ 64) (q:Q (.int (x*2 ^ y.toNat))):BinW g A (binaryOp .LShift) (.int x) (.int y) Q:=.of q (by
 rintro c st frz s _ _ _ X ⟨t,rfl⟩ ⟨u,rfl⟩ Q' E h;exact Tj hy h2 hx (h _ _ ⟨_,rfl⟩))
theorem wl {x y:Int} {Q:PV→Prop} (hy:0≤y) (q:Q (.int (x.fdiv (2 ^ y.toNat)))):BinW g A (binaryOp .RShift) (.int x) (.int y) Q:=.of q (by
 rintro c st frz s _ _ _ X ⟨t,rfl⟩ ⟨u,rfl⟩ Q' E h;exact Ta hy (h _ _ ⟨_,rfl⟩))
theorem wn {x y:Int} {Q:PV→Prop} (q:Q (.int (Pf x y))):BinW g A (binaryOp .BitAnd) (.int x) (.int y) Q:=.of q (by
 rintro c st frz s _ _ _ X ⟨t,rfl⟩ ⟨u,rfl⟩ Q' E h;exact Tt (h _ _ ⟨_,rfl⟩))
theorem nw {n:Int} {own:Own} {Q:LH} {R:LI} (hn:n.natAbs.log2<1920) (q:Q (.str (Ny (toString n)).cps.toList) own):CallV g d (.type "str") [.int n] own Q R:=.of q (by
 rintro c A st frz s _ ok X ⟨v,r,rfl,⟨t,rfl⟩,rfl⟩ Q' E h;exact PySem.P.str_of_int hn (h (.str (Ny (toString n)) s.toks) (s.toks+1) ⟨s.toks,by simp [txt]⟩))
theorem S.ownAt {a:Addr} {o o':AO} {ow':Own} {frz:Led} {s:Shared} (X:S g c st frz s) (u:OwnUpd a o o' st.own ow'):∃e,AORep (Hq g frz) a o e∧∀p∈e,s.heap.get? p.1=some p.2:=by
 obtain ⟨⟨m,own,frs,C⟩,_,_⟩:=X;obtain ⟨e1,e2,e3,rfl,q,_⟩:=u.split C.O;exact (v12 e2 q (fun p hp=>(C.N _ (Mc _ (LZ _ (Mc _ hp)))).1))
noncomputable abbrev SK (g:Gx):=strKind g.prog g.w
theorem jn {x:Str} {t:Tok}:(SK g).is x (.str x t)=true:=by
 show RT x (.str x t)=true;simp [RT]
inductive DicR (pr:Program) (w:World) (es:List (LA×PV)) (H:Hp) (a:Addr) (e:Led):Prop
 | mk (hs:(a==sysModules)=false) (o:Obj) (kvs:List (Str×Value)) (h:e=[(a,o)]) (d:o.IsDictOf (strKind pr w) kvs) (k:kvs.map (·.1)=es.map (fun p=>txt p.1)) (v:RepL H (kvs.map (·.2)) (es.map (·.2)))
noncomputable def aq (g:Gx) (es:List (LA×PV)):AO:=.obj (DicR g.prog g.w es)
theorem dh {es:List (LA×PV)} {H:Hp} {a:Addr} {o:Obj} {kvs:List (Str×Value)} (hs:(a==sysModules)=false) (ho:o.IsDictOf (SK g) kvs) (hk:kvs.map (·.1)=es.map (fun p=>txt p.1)) (hv:RepL H (kvs.map (·.2)) (es.map (·.2))):AORep H a (aq g es) [(a,o)]:=
 fun H' k=>⟨hs,o,kvs,rfl,ho,hk,hv.monoT k⟩
inductive DicH (g:Gx) (es:List (LA×PV)) (H:Hp) (a:Addr) (h:Heap):Prop
 | mk (hs:(a==sysModules)=false) (kvs:List (Str×Value)) (d:h.DictOf (SK g) a kvs) (k:kvs.map (·.1)=es.map (fun p=>txt p.1)) (v:RepL H (kvs.map (·.2)) (es.map (·.2)))
theorem S.ownDic {a:Addr} {es:List (LA×PV)} {o':AO} {ow':Own} {frz:Led} {s:Shared} (X:S g c st frz s) (u:OwnUpd a (aq g es) o' st.own ow') :
 DicH g es (Hq g frz) a s.heap:=by
 refine u12 (X.ownAt u) ?_;rintro e q h;obtain ⟨hs,o,kvs,rfl,ho,hk,hv⟩:=q (Hq g frz) fun _ _ _ h=>h;exact ⟨hs,kvs,Oa.mpr (v12 o (h _ (.head _)) ho),hk,hv⟩
theorem nh {H:Hp}:∀{kvs:List (Str×Value)} {es:List (LA×PV)} {x:LA},kvs.map (·.1)=es.map (fun p=>txt p.1)→RepL H (kvs.map (·.2)) (es.map (·.2))→
 ((valueAt kvs (txt x)).isSome=(es.lookup x).isSome)∧∀p,es.lookup x=some p→∃v,valueAt kvs (txt x)=some v∧Rep H v p:=by
 intro kvs
 induction kvs with
 | nil=>intro es x h _;cases es with|nil=>exact ⟨rfl,fun _ h=>by injection h⟩|cons _ _=>injection h
 | cons a kvs ih=>
  intro es x hk hv;cases es with|nil=>injection hk|cons b es=>?_
  obtain ⟨k,v⟩:=a;obtain ⟨y,p⟩:=b;simp only [Mu,PB] at hk;obtain ⟨rfl,hk⟩:=hk;obtain ⟨v',r,e,h1,h2⟩:=hv;simp only [Mu,PB] at e;obtain ⟨rfl,rfl⟩:=e;obtain ⟨i1,i2⟩:=ih (x:=x) hk h2;by_cases hx:y=x
  ·subst hx;have e1:valueAt ((txt y,v)::kvs) (txt y)=some v:=by simp [valueAt]
   rw [e1,Mn,beq_self_eq_true];exact ⟨rfl,fun q hq=>by injection hq with hq;subst hq;exact (v12 v rfl h1)⟩
  ·have hne:¬txt y=txt x:=fun e=>hx (by have:=congrArg (fun z:Str=>z.cps.toList) e;simpa [txt] using this);have e1:valueAt ((txt y,v)::kvs) (txt x)=valueAt kvs (txt x):=by
    unfold valueAt;rw [RN];simp only [hne,decide_false]
   have hb:(x==y)=false:=beq_eq_false_iff_ne.mpr (NM hx);rw [e1,Mn,hb];exact ⟨i1,i2⟩
def wr (g:Gx) (A:Around) (op:CmpOp) (a b:PV) (own:Own) (Q:Bool→Prop):Prop:=
 ∀c st frz s v w E,st.own=own→S g c st frz s→Rep (Hq g frz) v a→Rep (Hq g frz) w b→wpAny (model g.prog g.w) A (compareOp op v w) (fun r s'=>∃b frz',Sub frz frz'∧S g c st frz' s'∧r=.bool b∧Q b) E s
theorem Ev.cmpO {env:Env} {l r:Expr} {op:CmpOp} {pos:Pos} {Q:LE}
 (h:Ev g c A (eval l env) st (fun a st₁=>Ev g c A (eval r env) st₁ (fun b st₂=>wr g A op a b st₂.own fun r=>Q (.bool r) st₂) R) R) (hm:behindInMarks op r=false) :
 Ev g c A (eval (.Compare l [op] [r] pos) env) st Q R:=fun frz s X=>by
 refine TD (tt (h frz s X) (fun v s₁ hh=>?_) fun _ _ e=>e) hm;obtain ⟨a,st₁,f₁,a₁,X₁,r₁,q₁⟩:=hh;refine tt (q₁ f₁ s₁ X₁) (fun w s₂ hh=>?_) fun _ _ e=>e.mono a₁;obtain ⟨b,st₂,f₂,a₂,X₂,r₂,q₂⟩:=hh;refine tt (q₂ c st₂ f₂ s₂ v w _ rfl X₂ (r₁.mono (Hq.mono a₂)) r₂) (fun u s₃ hh=>?_) fun _ _ e=>e;refine u24 hh ?_;clear hh;rintro b f₃ a₃ X₃ rfl q₃;exact ⟨.bool b,st₂,f₃,Sub.trans a₁ (Sub.trans a₂ a₃),X₃,rfl,q₃⟩
theorem Tst.cmpO {env:Env} {l r:Expr} {op:CmpOp} {pos:Pos} {whole:Sem Value} {Q:Bool→St→Prop}
 (h:Ev g c A (eval l env) st (fun a st₁=>Ev g c A (eval r env) st₁ (fun b st₂=>wr g A op a b st₂.own fun r=>Q r st₂) R) R) (hm:behindInMarks op r=false) :
 Tst g c A (isTrue (.Compare l [op] [r] pos) env whole) st Q R:=fun frz s X=>by
 refine RA (tt (h frz s X) (fun v s₁ hh=>?_) fun _ _ e=>e) hm;obtain ⟨a,st₁,f₁,a₁,X₁,r₁,q₁⟩:=hh;refine tt (q₁ f₁ s₁ X₁) (fun w s₂ hh=>?_) fun _ _ e=>e.mono a₁;obtain ⟨b,st₂,f₂,a₂,X₂,r₂,q₂⟩:=hh;refine tt (q₂ c st₂ f₂ s₂ v w _ rfl X₂ (r₁.mono (Hq.mono a₂)) r₂) (fun u s₃ hh=>?_) fun _ _ e=>e;refine u24 hh ?_;clear hh;rintro b f₃ a₃ X₃ rfl q₃;exact Nn ⟨st₂,f₃,Sub.trans a₁ (Sub.trans a₂ a₃),X₃,q₃⟩
theorem ky {a:Addr} {es:List (LA×PV)} {x:LA} {o':AO} {own ow':Own} {Q:Bool→Prop} (hu:OwnUpd a (aq g es) o' own ow') (q:Q (es.lookup x).isSome):wr g A .In (.str x) (.ref a) own Q:=by
 intro c st frz s v w E ho X r₁ r₂;subst ho;obtain rfl:w=.ref a:=r₂;obtain ⟨t,rfl⟩:=r₁;obtain ⟨hs,kvs,hd,hk,hv⟩:=X.ownDic hu;refine wpAny_in_of (knd:=SK g) (k:=txt x) jn hs hd.mapOf ?_;exact (v24 _ frz (Sub.refl _) (X.toks _) rfl (by refine ((nh hk hv).1)▸?_;exact q))
theorem kh {a:Addr} {es:List (LA×PV)} {x:LA} {p:PV} {o':AO} {own ow':Own} {Q:PV→Prop} (hu:OwnUpd a (aq g es) o' own ow') (h:es.lookup x=some p) (q:Q p):ma g A (.ref a) (.str x) own Q:=by
 intro c st frz s v w E hu' hA hG ho X r r';subst ho;obtain rfl:v=.ref a:=r;obtain ⟨t,rfl⟩:=r';obtain ⟨hs,kvs,hd,hk,hv⟩:=X.ownDic hu;refine u12 ((nh hk hv).2 p h) ?_;rintro v e rv;exact ⟨(v22 ("dict") _ hd.typeIs slot_dict_getitem.lookup),wpAny_getItem_of (knd:=SK g) (k:=txt x) jn hd.mapOf e ⟨p,frz,Sub.refl _,X.toks _,rv,q⟩⟩
end
set_option backward.match.sparseCases false
section
variable {g:Gx} {c:Cx} {A:Around} {st:St} {R:LG} {d:Nat}
inductive KA:List (LA)→List (Value×Value)→Prop
 | nil:KA [] []
 | cons {k:LA} {t:Tok} {v:Value} {ks:List (LA)} {vs:List (Value×Value)}:KA ks vs→KA (k::ks) ((.str (txt k) t,v)::vs)
inductive GotK (g:Gx) (c:Cx) (frz:Led) (ks:List (LA)) (Q:LB→St→Prop) (vs:List (Value×Value)) (s':Shared):Prop
 | mk (ps:LB) (st':St) (frz':Led) (a:∀p∈frz,p∈frz') (X:S g c st' frz' s') (k:KA ks vs) (r:RepL (Hq g frz') (vs.map (·.2)) ps) (q:Q ps st')
def EvP (g:Gx) (c:Cx) (A:Around) (t:Sem (List (Value×Value))) (st:St) (ks:List (LA)) (Q:LB→St→Prop) (R:LG):Prop:=
 ∀frz s,S g c st frz s→wpAny (model g.prog g.w) A t (GotK g c frz ks Q) (Rz g c R frz) s
theorem EvP.nil {Q:LB→St→Prop} (q:Q [] st):EvP g c A (evalPairs []) st [] Q R:=fun frz s X=>by
 rw [evalPairs];exact Mh ⟨[],st,frz,Sub.refl _,X,.nil,rfl,q⟩
theorem EvP.cons {env:Env} {k:Str} {kk:Nat} {kp pos:Pos} {v:Expr} {rest:List (Sem Value×Sem Value)} {ks:List (LA)} {Q:LB→St→Prop} (h:Ev g c A (eval v env) st (fun pv st₁=>EvP g c A (evalPairs rest) st₁ ks (fun ps st₂=>Q (pv::ps) st₂) R) R) :
 EvP g c A (evalPairs ((eval (.Constant (.str k) kk kp) env,do let x←eval v env;standAt pos;pure x)::rest)) st (k.cps.toList::ks) Q R:=fun frz s X=>by
 refine evalPairs_cons (Oh (KE (tt (h frz _ (X.toks _)) (fun w s₁ hh=>?_) fun _ _ e=>e)));obtain ⟨pv,st₁,f₁,a₁,X₁,r₁,q₁⟩:=hh;refine KE (MW (Mh (tt (q₁ f₁ s₁ X₁) (fun vs s₂ hh=>?_) fun _ _ e=>e.mono a₁)));obtain ⟨ps,st₂,f₂,a₂,X₂,hk,r₂,q₂⟩:=hh;refine ⟨pv::ps,st₂,f₂,Sub.trans a₁ a₂,X₂,?_,⟨w,_,rfl,r₁.mono (Hq.mono a₂),r₂⟩,q₂⟩;refine (show k=txt k.cps.toList from by simp [txt])▸?_;simpa using KA.cons (k:=k.cps.toList) hk
noncomputable def Iu:Expr→Option Str
 | .Constant (.str k) _ _=>some k
 | _=>none
noncomputable abbrev rV (env:Env) (pos:Pos) (p:Expr×Expr):Sem Value×Sem Value:=(eval p.1 env,do let x←eval p.2 env;standAt pos;pure x)
theorem gN {env:Env} {pos:Pos}:∀{ks vs:LS},ks.length=vs.length→(evalEachOpt (ks.map some) env).zip ((evalEach vs env).map fun v=>do let x←v;standAt pos;pure x)=((ks.zip vs).map (rV env pos)).map fun p=>(some p.1,p.2)
 | [],[],_=>rfl
 | k::ks,v::vs,h=>by
  exact congrArg (_::·) (gN (env:=env) (pos:=pos) (Nt h))
 | [],_::_,h=>by injection h
 | _::_,[],h=>by injection h
theorem mO {ks:List (LA)} {vs:List (Value×Value)} (k:KA ks vs):∃kvs,Carries (SK g) vs kvs∧kvs.map (·.1)=ks.map txt∧kvs.map (·.2)=vs.map (·.2):=by
 induction k with
 | nil=>exact (v13 [] trivial rfl rfl)
 | cons _ ih=>
  refine u13 ih ?_;rintro kvs h1 h2 h3;exact (v13 ((txt _,_)::kvs) ⟨jn,rfl,h1⟩ (congrArg (_::·) h2) (congrArg (_::·) h3))
theorem KA.length {ks:List (LA)} {vs:List (Value×Value)} (k:KA ks vs):ks.length=vs.length:=by
 induction k with
 | nil=>rfl
 | cons _ ih=>exact congrArg (·+1) ih
theorem nN {α β:Type}:∀{l:List α} {m:List β},l.length=m.length→(l.zip m).map (·.1)=l
 | [],[],_=>rfl
 | a::l,b::m,h=>by simp [nN (Nt h)]
 | [],_::_,h=>by injection h
 | _::_,[],h=>by injection h
theorem nM {α β:Type}:∀{l:List α} {m:List β},l.length=m.length→(l.zip m).map (·.2)=m
 | [],[],_=>rfl
 | a::l,b::m,h=>by simp [nM (Nt h)]
 | [],_::_,h=>by injection h
 | _::_,[],h=>by injection h
theorem ur {m:LB} {l:List (LA)} (h:l.length=m.length):l.map txt=(l.zip m).map (fun p=>txt p.1):=by
 conv=>lhs;rw [←(nN h)]
 refine NE.symm▸?_;rfl
theorem Lg (ok:Ok g c A d) (hsys:sysModules<g.base.objs.size) {x:Str} {p' dp pos:Pos} {keys values:LS} {ks:List (LA)} {Q:LK} (hl:keys.length=values.length) (h0:keys≠[]) (h15:keys.length≤15) (hn:ks.Nodup)
 (h:∀a,EvP g c A (evalPairs ((keys.zip values).map (rV c.env dp))) { st with own:=(a,aq g [])::st.own } ks (fun ps st₂=>∃ow₂,st₂.own=(a,aq g [])::ow₂∧PutQ x (.ref a) { st₂ with own:=(a,aq g (ks.zip ps))::ow₂ } (Q .next)) R) :
 Ex g c A (exec (.Assign [.Name x p'] (.Dict (keys.map some) values dp) pos) c.env) st Q R:=fun frz s X=>by
 refine OV ?_ rfl;have X0:=X;obtain ⟨⟨m,own,frs,C⟩,_,_⟩:=X0;refine u32 C.F.ns ?_;rintro oL _ _ hL _;refine u12 (Oa.mp (QF (knd:=SK g) s.heap)) ?_;rintro o ho hd;have eo:o={ cls:=.type "dict",data:=.dict #[] }:=Mm (ho.symm.trans (Pq _ rfl));subst eo;have X1:=X.pushOwn { cls:=.type "dict",data:=.dict #[] } (aq g []) rfl (dh (beq_eq_false_iff_ne.mpr (NV (PM (Nw hsys C.F.above) (MI hL)))) hd rfl rfl);refine wpAny_Dict_pairs (knd:=SK g) (gN hl) (by
  intro e;cases keys with
  | nil=>exact h0 rfl
  | cons k keys=>cases values with
   | nil=>injection hl
   | cons v values=>simp at e) (by simp;exact Ig h15) ?_
 refine tt (h s.heap.objs.size frz _ X1) (fun vs s₁ hh=>?_) fun _ _ e=>e;obtain ⟨ps,st₂,f₂,a₂,X₂,hk,r₂,ow₂,ho₂,vs',hp,q⟩:=hh;refine u13 (mO (g:=g) hk) ?_;rintro kvs hc e1 e2;have hu:OwnUpd s.heap.objs.size (aq g []) (aq g (ks.zip ps)) st₂.own ((s.heap.objs.size,aq g (ks.zip ps))::ow₂):=by rw [ho₂];exact .here
 obtain ⟨hs,kvs0,hd0,hk0,_⟩:=X₂.ownDic hu;have:kvs0=[]:=by simpa using hk0
 subst this;have hlen:ks.length=ps.length:=by rw [hk.length,←r₂.length,Mp]
 refine (v13 kvs hc hd0 (fun h' hm hsb=>?_));have hnd:(kvs.map (·.1)).Nodup:=by
  rw [e1];exact Su txt (fun a b hab e=>hab (by have:=congrArg (fun z:Str=>z.cps.toList) e;simpa [txt] using this)) hn
 rw [merged_nil_of_nodup _ hnd] at hm;refine u12 (Oa.mp hm) ?_;rintro o' ho' hd';have X3:=X₂.setOne (tk:=s₁.toks+vs.length) hu (fun H e q=>by obtain ⟨_,o,_,rfl,_⟩:=q H fun _ _ _ h=>h;exact ⟨o,rfl⟩) hsb ho' (dh hs hd' (by refine e1▸?_;exact ur hlen) (by refine e2.symm▸(nM hlen).symm▸?_;exact r₂));exact dH ok X3 hp rfl fun s'' X''=>⟨.next,_,f₂,a₂,X'',trivial,q⟩
end
set_option backward.match.sparseCases true
open Builtin Builtin.ObjectAttr
structure CX (K:Frag) (C:Addr):Prop where
 sa:findIn K (.ref C) "__setattr__" = some (some (.builtin "object.__setattr__"))
 noga:findIn K (.ref C) "__getattr__" = some none
 dict:hasDictIn K C=true
 over:∃cd,clsIn K C=some cd∧cd.mro.isEmpty=false∧cd.mro.contains (.type "object")=true∧∀self,refuseLoop self "__setattr__" cd.mro=pure ()
structure CK (K:Frag) (C:Addr):Prop extends CX K C where
 ga:findIn K (.ref C) "__getattribute__" = some (some (.builtin "object.__getattribute__"))
theorem fK {od:Obj} {es:Array DictEntry} {ep:Nat} (name:Str) (hd:od.data=.dict es ep) (hk:StrKeys es):lookIn name od=some (nsFind es name):=by
 unfold lookIn;refine hd▸?_;dsimp only;unfold nsFind findBy;refine (Array.find?_toList)▸?_;cases hf:es.toList.find? (fun e=>e.key.isStr name) with
 | some e=>rfl
 | none=>
  have:es.toList.any (·.refKey)=false:=by
   rw [Of];intro e he;refine u21 (hk e (QN.mp he)) ?_;rintro n t k;simp [DictEntry.refKey,k]
  rw [if_neg (by refine this▸?_;decide)];rfl
inductive InstD (h:Heap) (x:Addr) (mA:LN) (o:Obj) (od:Option Obj):Prop
 | inl (h1:o.dict=none) (h2:od=none) (h3:∀n,mA n=none)
 | inr (d:Addr) (ob:Obj) (h1:o.dict=some d) (h2:od=some ob) (h3:d≠x) (h4:h.Ns1 d mA) (h5:h.get? d=some ob)
inductive InstO (h:Heap) (x C:Addr) (mA:LN):Prop
 | mk (o:Obj) (od:Option Obj) (I:InstAt h x o C od) (hx:h.get? x=some o) (hc:o.cls=.ref C) (hn:∀c,o.data≠.cls c) (hd:InstD h x mA o od)
theorem fN {h:Heap} {x C:Addr} {mA:LN} (I:h.Inst x C mA):InstO h x C mA:=by
 refine u14 I ?_;clear I;rintro o hx hc hn hd;have no:notCls o=true:=by unfold notCls;split<;>first|rfl|(rename_i c q;exact absurd q (hn c))
 refine Mx hd (fun hz=>?_) fun hz=>?_
 ·obtain ⟨h1,h2⟩:=hz;exact ⟨o,none,⟨hx,hc,no,by refine h1▸?_;trivial⟩,hx,hc,hn,.inl h1 rfl h2⟩
 ·obtain ⟨d,h1,h2,h3⟩:=hz;refine u32 (id h3) ?_;rintro ob es ep e r;exact ⟨o,some ob,⟨hx,hc,no,by refine h1▸?_;exact e⟩,hx,hc,hn,.inr d ob h1 rfl h2 h3 e⟩
section
variable {prog:Program} {w:World} {A:Around} {E:LM} {h:Heap} {g:Array GenState} {d:Drawn} {t:Nat} {os:OsState} {K:Frag} {C x:Addr} {mA:LN} {name:Str} {v:Value}
inductive SameO (h h':Heap) (x:Addr) (o₀:Obj):Prop
 | mk (o₁:Obj) (h1:h'.get? x=some o₁) (h2:o₁.cls=o₀.cls) (h3:o₁.data=o₀.data) (h4:o₁.slots=o₀.slots) (h5:∀dx,o₀.dict=some dx→o₁.dict=some dx) (h6:o₀.dict=none→∃dx,o₁.dict=some dx∧h.get? dx=none)
inductive MadeD (h:Heap) (x C:Addr) (da:Data) (sl:Array (Option Value)) (h₂:Heap) (mA:LN):Prop
 | mk (ne:h.objs.size≠x) (ns:h₂.Ns1 h.objs.size mA) (gx:h₂.get? x=some { cls:=.ref C,dict:=some h.objs.size,data:=da,slots:=sl }) (keep:∀b ob,b≠x→h.get? b=some ob→h₂.get? b=some ob)
theorem FU {da:Data} {sl:Array (Option Value)} (hx:h.get? x=some { cls:=.ref C,dict:=none,data:=da,slots:=sl }) (hm:∀y,mA y=none) :
 MadeD h x C da sl ((h.push { cls:=.type "dict",data:=.dict #[] }).update x fun o=>{ cls:=o.cls,dict:=some h.objs.size,data:=o.data,slots:=o.slots }) mA:=by
 obtain rfl:mA=fun _=>none:=funext hm;have hxs:x≠h.objs.size:=Nh (MI hx);refine ⟨hxs.symm,Heap.Ns1.of_empty (v34 _ (#[]) _ ((Oy _ _ _ _ hxs.symm).trans (Heap.get?_push_at rfl rfl)) rfl (fun e he=>absurd he (by simp)) (fun _=>rfl)),Om _ (MJ _ hx) ?_,fun b ob hb h=>(Oy _ _ _ _ hb).trans (MJ _ h)⟩;have hfr:=(Heap.get?_some_iff.mp hx).2;cases da<;>first|rfl|exact hfr
theorem lh {Q:PySem.Fin→Shared→Prop} {ns:LP} {h₂:Heap} {dx:Addr} {da:Data} {sl:Array (Option Value)} {t₂:Nat} (hx:h₂.get? x=some { cls:=.ref C,dict:=some dx,data:=da,slots:=sl }) (hnc:∀c,da≠.cls c) (hne:dx≠x) (hns:h₂.Ns1 dx mA) (hw:Within mA ns) (hsz:ns.length≤100)
 (hq:∀h' tk',h'.Inst x C (fun y=>if y=name then some v else mA y)→h'.get? x=some { cls:=.ref C,dict:=some dx,data:=da,slots:=sl }→(∀b o,b≠dx→h₂.get? b=some o→h'.get? b=some o)→Q (.done (.ret .none)) ⟨h',g,d,tk',os⟩) :
 wpAny (model prog w) A (storeInDict dx (.str name t) name v) Q E ⟨h₂,g,d,t₂,os⟩:=by
 unfold storeInDict newKeyGuard;refine KE (Mh (KE (wpAny_nsSet1 hns fun h' hn' hs=>?_)));refine u33 (hn'.count (Within.cons name v hw)) ?_;rintro oD esD epD hoD hdD hcD;refine KE (wpAny_lookBehind hoD (by rw [hdD];exact pastItsLine_dict (Mj hcD (by rw [Mr,MQ];exact Ie hsz))) (Mh ?_));have hx':=(hs.2 x hne.symm).trans hx;exact hq h' _ (v14 _ hx' rfl hnc (.inr (v13 dx rfl hne hn'))) hx' fun b ob hb h=>(hs.2 b hb).trans h
theorem pD {Q:Unit→Shared→Prop} {ns:LP} (X:K.In h) (k:CX K C) (hn:findIn K (.ref C) name=some none) (I:h.Inst x C mA) (hw:Within mA ns) (hsz:ns.length≤100)
 (hq:∀h' tk',h'.Inst x C (fun y=>if y=name then some v else mA y)→
  (∀b o,b≠x→(∀o₀ dx,h.get? x=some o₀→o₀.dict=some dx→b≠dx)→h.get? b=some o→h'.get? b=some o)→
  (∀o₀,h.get? x=some o₀→SameO h h' x o₀)→Q () ⟨h',g,d,tk',os⟩) :
 wpAny (model prog w) A (setAttr (.ref x) name v) Q E ⟨h,g,d,t,os⟩:=by
 obtain ⟨o,od,IA,hx,hc,hnc,hd⟩:=fN I;refine u14 k.over ?_;rintro cd hcd hne hob hpass;have SF:=PySem.F.store_object;refine set_plain X IA k.sa (Px SF.slot.plain SF.entry (@check_slot (model prog w) _ _ _ "object.__setattr__" "object" "__setattr__" (.ref x) [.str name t,v] [] _ SF.kind SF.split (IA.type.andThen (looks_mroIn X (by unfold mroIn;rw [hcd,OL,if_neg (by rw [hne];decide),hob]))) (SF.args (.ref x) (.str name t) v) ?_));rw [osa_eq,refuse_eq];refine KE (KE (IA.type.here (KE ((show Looks (model prog w) h (mroOf (.ref C)) cd.mro from (RK X hcd).andThen .now).here ?_))));rw [hpass];refine Mh (KE (IA.type.here (KE ((Rk X hn).here (KE (Mh ?_))))));refine u12 (any_some k.dict) ?_;rintro cd' hcd' hhd;obtain rfl:cd=cd':=Mm (hcd.symm.trans hcd');show wpAny _ _ (storeInOwnDict (.ref x) (.ref C) (.str name t) name v _) _ _ _;obtain ⟨hdn,_,hmA⟩|⟨dx,ob,hdx,_,hne,hns,_⟩:=hd
 ·obtain ⟨oc,odt,oda,osl⟩:=o;dsimp only at hdn hc hnc;subst hdn hc;refine KE (Mh (KE (KE (TB hx (KE ((RK X hcd).here ?_))))));rw [hhd,if_neg (by decide)];dsimp only;rw [if_neg (by simp [typeHasDict])]
  split
  ·rename_i c;exact absurd rfl (hnc c)
  refine KE (wpAny_alloc' (KE (wpAny_update' (MJ _ hx) (Mh ?_))));obtain ⟨n1,n2,n3,n4⟩:=FU hx hmA;exact lh n3 hnc n1 n2 hw hsz fun h' tk' I e k=>hq h' tk' I (fun b ob hbx _ hb=>k b ob (Nh (MI hb)) (n4 b ob hbx hb))
   fun o₀ h₀=>by obtain rfl:=Mm (hx.symm.trans h₀);exact ⟨_,e,rfl,rfl,rfl,(fun dx e=>by injection e),fun _=>(v12 _ rfl (Ot (MC _)))⟩
 ·obtain ⟨oc,odt,oda,osl⟩:=o;dsimp only at hdx hc hnc;subst hdx hc;refine KE (Mh (KE (KE (TB hx (KE ((RK X hcd).here ?_))))));refine hhd.symm▸?_;refine Mh (a:=some dx) ?_;exact lh hx hnc hne hns hw hsz fun h' tk' I e k=>hq h' tk' I (fun b ob _ hbd hb=>k b ob (hbd _ dx hx rfl) hb)
   fun o₀ h₀=>by obtain rfl:=Mm (hx.symm.trans h₀);exact ⟨_,e,rfl,rfl,rfl,(fun _ e=>e),fun e=>by injection e⟩
end
set_option backward.match.sparseCases false
open Builtin Builtin.ObjectAttr
def FV (H:Hp):Option Value→LD→Prop
 | some v,some p=>Rep H v p
 | none,none=>True
 | _,_=>False
inductive Fld (H:Hp) (od:Obj) (fs:List (Str×PV)):Prop
 | mk (es:Array DictEntry) (ep:Nat) (h1:od.data=.dict es ep) (h2:StrKeys es) (h3:UniqKeys es) (h4:∀y,FV H (nsFind es y) (fs.lookup y))
inductive Kd where
 | plain|exc (u:Unit:=())
def Kd.ok:Kd→Data→Prop
 | .plain,da=>da=.plain
 | .exc,da=>∃vs,da=.fields vs∧vs.size=6∧vs[1]? = some .none
theorem KY {kd:Kd} {da:Data} (h:kd.ok da):∀c,da≠.cls c:=fun c e=>by
 cases kd with
 | plain=>rw [show da=.plain from h] at e;injection e
 | exc=>obtain ⟨vs,rfl,_⟩:=h;injection e
inductive ObjE (C:Addr) (fs:List (Str×PV)) (H:Hp) (a:Addr) (e:Led) (da:Data) (sl:Array (Option Value)):Prop
 | inl (h1:fs=[]) (h2:e=[(a,⟨.ref C,none,da,sl⟩)])
 | inr (dd:Addr) (od:Obj) (h1:e=[(a,⟨.ref C,some dd,da,sl⟩),(dd,od)]) (h2:Fld H od fs)
inductive ObjR (C:Addr) (kd:Kd) (fs:List (Str×PV)) (H:Hp) (a:Addr) (e:Led):Prop
 | mk (da:Data) (sl:Array (Option Value)) (hk:kd.ok da) (hq:ObjE C fs H a e da sl)
noncomputable def an (C:Addr) (kd:Kd) (fs:List (Str×PV)):AO:=.obj (ObjR C kd fs)
theorem FV.mono {H H':Hp} (k:∀a o,KG o→H a o→H' a o) {v:Option Value} {p:LD} (h:FV H v p):FV H' v p:=by
 cases v<;>cases p<;>first|exact h|exact Rep.monoT k h
section
variable {g:Gx} {c:Cx} {A:Around} {st:St} {R:LG} {d:Nat}
inductive ObjH (H:Hp) (C:Addr) (fs:List (Str×PV)) (a:Addr) (h:Heap):Prop
 | mk (mA:LN) (I:h.Inst a C mA) (f:∀y,FV H (mA y) (fs.lookup y)) (w:Within mA (fs.map (·.1)))
theorem S.ownObj {a C:Addr} {kd:Kd} {fs:List (Str×PV)} {o':AO} {ow':Own} {frz:Led} {s:Shared} (X:S g c st frz s) (u:OwnUpd a (an C kd fs) o' st.own ow') :
 ObjH (Hq g frz) C fs a s.heap:=by
 obtain ⟨⟨m,own,frs,C'⟩,nn,lc⟩:=X;obtain ⟨e1,e2,e3,rfl,q,kk⟩:=u.split C'.O;obtain ⟨da,sl,hk,hq⟩:=q (Hq g frz) fun _ _ _ h=>h;have nd:(e2.map (·.1)).Nodup:=by
  have:=C'.nd;simp only [Mz,Mb] at this;exact (MH.mp (MH.mp this).2.1).1
 have here:∀p∈e2,s.heap.get? p.1=some p.2:=fun p hp=>(C'.N p (Mc _ (LZ _ (Mc _ hp)))).1;rcases hq with ⟨rfl,rfl⟩|⟨dd,od,rfl,es,ep,h1,h2,h3,h4⟩
 ·exact ⟨fun _=>none,(v14 _ (here _ (.head _)) rfl (KY hk) (.inl ⟨rfl,fun _=>rfl⟩)),fun _=>trivial,Within.nil⟩
 ·refine ⟨nsFind es,(v14 _ (here _ (.head _)) rfl (KY hk) (.inr ⟨dd,rfl,fun e=>?_,od,es,ep,here _ (.tail _ (.head _)),h1,h2,h3,fun _=>rfl⟩)),h4,fun y hy=>?_⟩
  ·simp [e] at nd
  ·have:=h4 y;cases hf:nsFind es y with
   | none=>exact absurd hf hy
   | some v=>
    rw [hf] at this;cases hl:fs.lookup y with
    | none=>rw [hl] at this;exact this.elim
    | some p=>
     refine u22 (List.lookup_eq_some_iff.mp hl) ?_;rintro l1 l2 e _;refine e▸?_;simp
theorem kZ {a C:Addr} {kd:Kd} {fs:List (Str×PV)} {ow':Own} {frz:Led} {s:Shared} {name:Str} {v:Value} {p:PV} {Q:Unit→Shared→Prop} {E:LM} (hg:GOk g) (k:CX g.K C) (hn:findIn g.K (.ref C) name=some none)
 (X:S g c st frz s) (u:OwnUpd a (an C kd fs) (an C kd ((name,p)::fs)) st.own ow') (hsz:fs.length≤100) (r:Rep (Hq g frz) v p) (q:∀s',S g c { st with own:=ow' } frz s'→Q () s') :
 wpAny (model g.prog g.w) A (setAttr (.ref a) name v) Q E s:=by
 obtain ⟨mA,I,hf,hw⟩:=X.ownObj u;obtain ⟨hh₀,g₀,d₀,t₀,os₀⟩:=s;refine pD (hg.X.keeps X.keep) k hn I hw (by simpa using hsz) fun h' tk' I' keep same=>q _ (X.chg u fun e he hh nd=>?_);obtain ⟨da,sl,hk,hq⟩:=he (Hq g frz) fun _ _ _ h=>h;have upd:∀H',(∀a o,KG o→Hq g frz a o→H' a o)→∀y,FV H' (if y=name then some v else mA y) (((name,p)::fs).lookup y):=fun H' kH y=>by
  rw [Mn];by_cases e:y=name
  ·subst e;rw [if_pos rfl,beq_self_eq_true];exact Rep.monoT kH r
  ·refine (if_neg e)▸(beq_eq_false_iff_ne.mpr e)▸?_;exact (hf y).mono kH
 refine u14 I' ?_;clear I';rintro o' hx' hc' hnc' hd';rcases hq with ⟨rfl,rfl⟩|⟨dd,od,rfl,_⟩
 ·have h0:=hh _ (.head _);obtain ⟨o₁,g1,g2,g3,g4,_,g6⟩:=same _ h0;obtain rfl:=Mm (hx'.symm.trans g1);refine u12 (g6 rfl) ?_;rintro dx g7 g8;rcases hd' with ⟨hd',_⟩|⟨d',hd',hne,ob,es,ep,e1,e2,e3,e4,e5⟩
  ·replace hd':=g7▸hd';injection hd'
  ·obtain rfl:=Mm (g7.symm.trans hd');refine ⟨[(a,o'),(dx,ob)],fun H' kH=>⟨da,sl,hk,.inr dx ob ?_ ⟨es,ep,e2,e3,e4,fun y=>?_⟩⟩,?_,?_,?_⟩
   ·obtain ⟨oc,odt,oda,osl⟩:=o';dsimp only at g2 g3 g4 g7;rw [g2,g3,g4,g7]
   ·rw [e5 y];exact upd H' kH y
   ·simp [NM hne]
   ·intro p hp;refine Mx (Me.mp hp) (fun hz=>?_) fun hp=>?_
    ·obtain rfl:=hz;exact ⟨hx',.inl (by simp)⟩
    ·rcases Me.mp hp with rfl|hp
     ·exact ⟨e1,.inr g8⟩
     ·cases hp
   ·intro b ob' hb hg';refine keep b ob' (fun e=>hb (by simp [e])) (fun o₀ dx h1 h2=>?_) hg';rw [←(Mm (h0.symm.trans h1))] at h2;injection h2
 ·have h0:=hh _ (.head _);obtain ⟨o₁,g1,g2,g3,g4,g5,_⟩:=same _ h0;obtain rfl:=Mm (hx'.symm.trans g1);have g7:=g5 dd rfl;rcases hd' with ⟨hd',_⟩|⟨d',hd',hne,ob,es,ep,e1,e2,e3,e4,e5⟩
  ·replace hd':=g7▸hd';injection hd'
  ·obtain rfl:=Mm (g7.symm.trans hd');refine ⟨[(a,o'),(dd,ob)],fun H' kH=>⟨da,sl,hk,.inr dd ob ?_ ⟨es,ep,e2,e3,e4,fun y=>?_⟩⟩,?_,?_,?_⟩
   ·obtain ⟨oc,odt,oda,osl⟩:=o';dsimp only at g2 g3 g4 g7;rw [g2,g3,g4,g7]
   ·rw [e5 y];exact upd H' kH y
   ·simp [NM hne]
   ·intro p hp;refine Mx (Me.mp hp) (fun hz=>?_) fun hp=>?_
    ·obtain rfl:=hz;exact ⟨hx',.inl (by simp)⟩
    ·rcases Me.mp hp with rfl|hp
     ·exact ⟨e1,.inl (by simp)⟩
     ·cases hp
   ·intro b ob' hb hg';refine keep b ob' (fun e=>hb (by simp [e])) (fun o₀ dx h1 h2=>?_) hg';replace h2:=(Mm (h0.symm.trans h1))▸h2;injection h2 with h2;subst h2;exact fun e=>hb (by simp [e])
theorem gj {H:Hp} {v:Value} {p:PV} (r:Rep H v p):handedIn v=true:=by
 cases p<;>first
  | (have r:v=_:=r;subst r;rfl)
  | (obtain ⟨_,rfl⟩:=r;rfl)
  | (obtain ⟨_,_,_,rfl,_⟩:=r;rfl)
  | (obtain ⟨_,_,_,_,rfl,_⟩:=r;rfl)
theorem ik {a C:Addr} {kd:Kd} {fs:List (Str×PV)} {ow':Own} {o':AO} {frz:Led} {s:Shared} {name:Str} {p:PV} {expr:Bool} {Q:LM} {E:LM} (hg:GOk g) (k:CK g.K C) (hn:findIn g.K (.ref C) name=some none)
 (X:S g c st frz s) (u:OwnUpd a (an C kd fs) o' st.own ow') (hp:fs.lookup name=some p) (q:∀v s',S g c st frz s'→Rep (Hq g frz) v p→Q v s'):wpAny (model g.prog g.w) A (getAttr (.ref a) name expr) Q E s:=by
 obtain ⟨mA,I,hf,_⟩:=X.ownObj u;have:=hf name;replace this:=hp▸this;cases hv:mA name with
 | none=>replace this:=hv▸this;exact this.elim
 | some v=>
  rw [hv] at this;obtain ⟨o,od,IA,hx,hc,hnc,hd⟩:=fN I;rcases hd with ⟨_,_,hm⟩|⟨dx,ob,hdx,rfl,hne,⟨ob',es,ep,e1,e2,e3,e4,e5⟩,hob⟩
  ·rw [hm] at hv;injection hv
  ·obtain rfl:=Mm (e1.symm.trans hob);exact get_value (hg.X.keeps X.keep) IA k.ga (findObj_own k.dict hn rfl (by rw [fK name e2 e3,e5,hv])) (gj this) (q v _ (X.toks _) this)
end
set_option backward.match.sparseCases true
open Builtin Builtin.ObjectAttr
noncomputable abbrev bmX:LO:=[.type "Exception",.type "BaseException",.type "object"]
inductive XObj (g:Gx) (fI:Addr):Prop
 | mk (nm q N bs sn sub ab col dd k0 k1 k2 k3 k5 mN) (h1:g.base.get? g.cR=some (excClassObj nm q g.cR N bs bmX true sn sub ab col dd k0 k1 k2 k3 k5 "Exception.__new__")) (h2:g.base.Ns N mN) (h3:mN "__init__" = some (.ref fI))
structure XK (g:Gx) (fI:Addr):Prop where
 ck:CX g.K g.cR
 keep:keepIn g.K (.ref g.cR)=true
 name:g.mg "Raised" = some (.ref g.cR)
 fn:∃oI,g.base.get? fI=some oI∧oI.cls=.type "function"
 obj:XObj g fI
section
variable {g:Gx} {c:Cx} {A:Around} {st:St} {R:LG} {d:Nat}
theorem S.add {a:Addr} {o:AO} {frz:Led} {s:Shared} {h':Heap} {tk:Nat} {es:Led} (X:S g c st frz s) (keep:∀b ob,s.heap.get? b=some ob→h'.get? b=some ob) (nd:(es.map (·.1)).Nodup) (hn:∀p∈es,s.heap.get? p.1=none∧h'.get? p.1=some p.2)
 (r:AORep (Hq g frz) a o es):S g c { st with own:=(a,o)::st.own } frz { s with heap:=h',toks:=tk }:=by
 obtain ⟨⟨m,own,frs,C⟩,nn,lc⟩:=X;obtain ⟨F,N,nd',SU,O,V⟩:=C;refine u32 F.ns ?_;rintro oL es' ep hL hLr;refine ⟨⟨m,es++own,frs,⟨⟨(v32 oL es' ep (keep _ _ hL) hLr),fun b ob hb=>keep _ _ (F.keep b ob hb),F.above⟩,fun p hp=>?_,?_,SU,⟨es,own,rfl,r,O⟩,V⟩⟩,nn,lc⟩
 ·rw [Mb] at hp;rcases Mi.mp hp with hp|hp
  ·obtain ⟨h1,h2⟩:=hn p hp;refine (v03 h2 (fun e=>?_) ?_)
   ·rw [e,hL] at h1;injection h1
   ·cases hb:g.base.get? p.1 with
    | none=>rfl
    | some ob=>replace h1:=(F.keep _ _ hb)▸h1;injection h1
  ·exact ⟨keep _ _ (N p hp).1,(N p hp).2⟩
 ·rw [Mb,Mz];refine MH.mpr (v03 nd nd' (fun x hx y hy e=>?_));subst e;refine u12 (Ma.mp hx) ?_;rintro p hp rfl;refine u12 (Ma.mp hy) ?_;rintro q hq e;have:=(N q hq).1;rw [e,(hn p hp).1] at this;injection this
theorem Ok.under {C:Addr} {vs:LO} (ok:Ok g c A (d+1)):Ok g c (A.under (.builtin "type.__call__" ⟨.ref C::vs,[]⟩)) d:=by
 obtain ⟨a,b,c,d1,e,f,u,h,i⟩:=ok;exact ⟨a,b,c,d1,e,by show A.depth+1+d<_;exact xK f,by show A.units+1+4*d+8<_;exact Id u,h,by simp only [Around.under,(show (Code.builtin "type.__call__" ⟨Value.ref C::vs,[]⟩).guards=[] from rfl)];exact i⟩
theorem qu {fI:Addr} (xk:XK g fI) {args:LB} {own:Own} {Q:LH} {R:LI} (hl:args.length≤100)
 (h:∀e,CallV g d (.ref fI) (.ref e::args) ((e,an g.cR .exc [])::own) (fun v o=>v=.none∧Q (.ref e) o) R):CallV g (d+1) (.ref g.cR) args own Q R:=by
 intro c A st frz s vs ok hown X r;obtain ⟨nm,q,N,bs,sn,sub,ab,col,dd,k0,k1,k2,k3,k5,mN,hC,hN,hi⟩:=xk.obj;refine u12 xk.fn ?_;rintro oI hfI hfc;have X0:=X;obtain ⟨hh,gg,dr,tk,os⟩:=s;refine wpAny_call_exc_init NN (X.keep _ _ hC) (hN.keeps X.keep) hi (X.keep _ _ hfI) hfc (fun h' e hm=>?_) (by refine r.length▸MQ▸?_;exact Ic hl);refine u13 hm.there ?_;rintro t ht htn htt;have X':S g c { st with own:=(e,an g.cR .exc [])::st.own } frz ⟨h',gg,dr,tk,os⟩:=X.add (h':=h') (tk:=tk) hm.keeps (es:=[(e,_)]) (by simp) (fun p hp=>by cases My.mp hp;exact ⟨hm.new,ht⟩)
  fun H' _=>⟨_,_,(v13 _ rfl rfl rfl),.inl rfl rfl⟩
 refine tt (h e c _ _ frz _ (.ref e::vs) ok.under (by exact hown▸rfl) X' ⟨_,_,rfl,rfl,r⟩) (fun v s' hh=>?_) fun v s' hh=>?_
 ·obtain ⟨pv,own',f',a,X2,r2,rfl,q⟩:=hh;exact ⟨r2,.ref e,own',f',a,X2,rfl,q⟩
 ·exact hh
inductive SetQ (x:Str) (a C:Addr) (name:Str) (Q:LK) (v:PV) (st:St):Prop
 | mk (h1:Look x (.ref a) st.vars) (kd:Kd) (fs:List (Str×PV)) (ow:Own) (h2:OwnUpd a (an C kd fs) (an C kd ((name,v)::fs)) st.own ow) (h3:fs.length≤100) (h4:Q .next { st with own:=ow })
inductive GetQ (a C:Addr) (name:Str) (Q:LE) (v:PV) (st:St):Prop
 | mk (h1:v=.ref a) (kd:Kd) (fs:List (Str×PV)) (o:AO) (ow:Own) (p:PV) (h2:OwnUpd a (an C kd fs) o st.own ow) (h3:fs.lookup name=Option.some p) (h4:Q p st)
theorem KD {x:Str} {np ap pos:Pos} {e:Expr} {name:Str} {a C:Addr} {Q:LK} (hg:GOk g) (ok:Ok g c A d) (k:CX g.K C) (hn:findIn g.K (.ref C) name=Option.some Option.none) (hs:swapsWith e (some (.Attribute (.Name x np) name ap)) pos.line c.env=pure false)
 (h:Ev g c A (eval e c.env) st (SetQ x a C name Q) R) :
 Ex g c A (exec (.Assign [.Attribute (.Name x np) name ap] e pos) c.env) st Q R:=fun frz s X=>by
 refine plainObj_wpAny_Assign_Attribute (tt (h frz s X) (fun v s₁ hh=>?_) fun _ _ e=>e) hs;obtain ⟨pv,st',f',a',X',r,hx,kd,fs,ow',u,hl,q⟩:=hh;refine tt (Ev.var (R:=R) ok hx (Q:=fun pv st''=>pv=.ref a∧st''=st') ⟨rfl,rfl⟩ f' s₁ X') (fun v' s₂ hh=>?_) fun _ _ e=>e.mono a';obtain ⟨pv',st'',f'',a'',X'',r',rfl,rfl⟩:=hh;obtain rfl:v'=.ref a:=r';exact kZ hg k hn X'' u hl (r.mono (Hq.mono a'')) fun s' X3=>⟨.next,_,f'',Sub.trans a' a'',X3,trivial,q⟩
theorem KK {env:Env} {x:Str} {np pos:Pos} {name:Str} {a C:Addr} {Q:LE} (hg:GOk g) (k:CK g.K C) (hn:findIn g.K (.ref C) name=Option.some Option.none)
 (h:Ev g c A (eval (.Name x np) env) st (GetQ a C name Q) R) :
 Ev g c A (eval (.Attribute (.Name x np) name pos) env) st Q R:=fun frz s X=>by
 refine TI (tt (h frz s X) (fun v s₁ hh=>?_) fun _ _ e=>e);obtain ⟨pv,st',f',a',X',r,rfl,kd,fs,o',ow',p,u,hl,q⟩:=hh;obtain rfl:v=.ref a:=r;exact ik hg k hn X' u hl fun v s' X2 r2=>⟨p,st',f',a',X2,r2,q⟩
theorem im {A:Around} {st:St} {frz:Led} {s:Shared} {name:Str} {C a f:Addr} {kd fs o' ow' pl} {Q':Value×LO→Shared→Prop} {E} (hg:GOk g) (k:CK g.K C) (hf:findIn g.K (.ref C) name=Option.some (Option.some (.ref f))) (ht:typeIn g.K (.ref f)=Option.some (.type "function"))
 (X:S g c st frz s) (u:OwnUpd a (an C kd fs) o' st.own ow') (hl:fs.lookup name=Option.none) (hq:Q' (.ref f,[.ref a]) { s with toks:=s.toks }):wpAny (model g.prog g.w) A (getMethod (.ref a) name pl) Q' E s:=by
 obtain ⟨mA,I,hv,_⟩:=X.ownObj u;have hno:mA name=Option.none:=by
  have:=hv name;rw [hl] at this;cases hm:mA name with
  | none=>rfl
  | some v=>rw [hm] at this;exact this.elim
 obtain ⟨o,od,IA,hx,hc,hnc,hd⟩:=fN I;refine method_fn (hg.X.keeps X.keep) IA k.ga k.noga hf ht ?_ hq;rcases hd with ⟨_,rfl,_⟩|⟨dx,ob,hdx,rfl,hne,⟨ob',es,ep,e1,e2,e3,e4,e5⟩,hob⟩
 ·rfl
 ·obtain rfl:=Mm (e1.symm.trans hob);show (lookIn name _).map _=_;rw [fK name e2 e3,e5,hno];rfl
inductive GotM (g:Gx) (c:Cx) (A:Around) (name:Str) (frz:Led) (Q:Value→LB→St→Prop) (v:Value) (s':Shared):Prop
 | mk (st':St) (frz':Led) (h1:Sub frz frz') (h2:S g c st' frz' s') (f:Value) (first:LB) (h3:∀pl E (Q':Value×LO→Shared→Prop),(∀fs n,RepL (Hq g frz') fs first→Q' (f,fs) { s' with toks:=n })→wpAny (model g.prog g.w) A (getMethod v name pl) Q' E s') (h4:KeepOk g f) (h5:Q f first st')
def MethE (g:Gx) (c:Cx) (A:Around) (t:Sem Value) (name:Str) (st:St) (Q:Value→LB→St→Prop) (R:LG):Prop:=
 ∀frz s,S g c st frz s→wpAny (model g.prog g.w) A t (GotM g c A name frz Q) (Rz g c R frz) s
inductive MiQ (C:Addr) (name:Str) (f:Addr) (Q:Value→LB→St→Prop) (v:PV) (st:St):Prop
 | mk (a:Addr) (h1:v=.ref a) (kd:Kd) (fs:List (Str×PV)) (o:AO) (ow:Own) (h2:OwnUpd a (an C kd fs) o st.own ow) (h3:fs.lookup name=Option.none) (h4:Q (.ref f) [.ref a] st)
theorem KR {t:Sem Value} {name:Str} {C:Addr} {Q:Value→LB→St→Prop} {f:Addr} (hg:GOk g) (k:CK g.K C) (hf:findIn g.K (.ref C) name=Option.some (Option.some (.ref f))) (ht:typeIn g.K (.ref f)=Option.some (.type "function")) (hk:KeepOk g (.ref f))
 (h:Ev g c A t st (MiQ C name f Q) R):MethE g c A t name st Q R:=fun frz s X=>by
 refine tt (h frz s X) (fun v s' hh=>?_) fun _ _ e=>e;obtain ⟨pv,st',f',a',X',r,a,rfl,kd,fs,o',ow',u,hl,q⟩:=hh;obtain rfl:v=.ref a:=r;exact ⟨st',f',a',X',.ref f,[.ref a],fun pl E Q' hq=>im hg k hf ht X' u hl (hq [.ref a] s'.toks ⟨_,_,rfl,rfl,rfl⟩),hk,q⟩
theorem MethE.glob {env:Env} {x name:Str} {pos:Pos} {v f:Value} {Q:Value→LB→St→Prop} (hg:GOk g) (hk:EnvG env x) (hn:bH g x v) (hk':KeepOk g f)
 (hm:∀frz s,S g c st frz s→∀pl E (Q':Value×LO→Shared→Prop),(∀n,Q' (f,[]) { s with toks:=n })→wpAny (model g.prog g.w) A (getMethod v name pl) Q' E s) (q:Q f [] st):MethE g c A (eval (.Name x pos) env) name st Q R:=fun frz s X=>
 cF hg hk hn X ⟨st,frz,Sub.refl _,X,f,[],fun pl E Q' hq=>hm frz s X pl E Q' fun n=>hq [] n rfl,hk',q⟩
theorem Ev.meth {env:Env} {o:Expr} {apos pos:Pos} {name:Str} {e:Expr} {rest:LS} {Q:LE} (ok:Ok g c A d) (hbase:attributeBase o name env (eval o env)=eval o env)
 (hfew:methodCallForm ((e::rest).length+0) (backTo pos (starEach (e::rest) env)) []=true) (hline:(apos.endLine==pos.line)=true) (he:starEach (e::rest) env=(false,eval e env)::starEach rest env) (hplain:(backTo pos (starEach rest env)).any (·.1)=false)
 (h:MethE g c A (eval o env) name st (fun f first st'=>Evs g c A (spliced (backTo pos (starEach (e::rest) env))) st' (fun ps st''=>CallV g d f (first++ps) st''.own (fun pv own'=>Q pv { st'' with own:=own' }) fun x own'=>R x { st'' with own:=own' }) R) R) :
 Ev g c A (eval (.Call (.Attribute o name apos) (e::rest) [] pos) env) st Q R:=fun frz s X=>by
 rw [arm_eval_Call,hbase];refine KE (tt (h frz s X) (fun v s₁ hh=>?_) fun _ _ e=>e);obtain ⟨st',f',a',X',f,first,hm,hk,h2⟩:=hh;refine KE (MW ?_);unfold methodCall;refine (show methodCallForm ((e::rest).length+([]:List Keyword).length) (backTo pos (starEach (e::rest) env)) (backToKw pos (keywordEach [] env))=true from hfew)▸?_;refine KE (Mw (hm _ _ _ fun fs n hfs=>?_));refine KE (wpAny_of_eq (show methodCallPos true o env apos pos=pure pos from by unfold methodCallPos;simp [hline]) ?_);have h3:=h2 f' _ (X'.toks n);rw [he] at h3⊢;refine RL (P:=fun h=>∀b o,g.base.get? b=some o→h.get? b=some o) (by show ((false||(backTo pos (starEach rest env)).any (·.1))||false)=false;refine hplain.symm▸?_;rfl) hk (On (tt h3 (fun vs s₂ hh=>?_) fun _ _ e=>Rz.mono a' e));obtain ⟨ps,st'',f'',a'',X'',r'',q⟩:=hh;refine ⟨X''.keep,tt (q c A st'' f'' s₂ (fs++vs) ok rfl X'' (RepL.app (hfs.mono (Hq.mono a'')) r'')) (fun v s3 hh=>?_) fun _ _ e=>KQ (Sub.trans a' a'') e⟩;obtain ⟨pv,own',f3,a3,X3,r3,q3⟩:=hh;exact ⟨pv,_,f3,Sub.trans a' (Sub.trans a'' a3),X3,r3,q3⟩
end
open Builtin Builtin.ObjectAttr
inductive Src where
 | arg (y:Str)|con (p:PV)|lst|dct
inductive SrcE:Expr→Src→Prop
 | arg {y:Str} {p:Pos}:SrcE (.Name y p) (.arg y)
 | int {i:Int} {k:Nat} {p:Pos}:SrcE (.Constant (.int i) k p) (.con (.int i))
 | str {s:Str} {k:Nat} {p:Pos}:SrcE (.Constant (.str s) k p) (.con (.str s.cps.toList))
 | bool {b:Bool} {k:Nat} {p:Pos}:SrcE (.Constant (.bool b) k p) (.con (.bool b))
 | none {k:Nat} {p:Pos}:SrcE (.Constant .none k p) (.con .none)
 | lst {p:Pos}:SrcE (.List [] p) .lst
 | dct {p:Pos}:SrcE (.Dict [] [] p) .dct
inductive InitL:LT→List (Str×Src)→Prop
 | nil:InitL [] []
 | cons {x:Str} {p1 p2 p3:Pos} {v:Expr} {s:Src} {r:LT} {l:List (Str×Src)} (h:SrcE v s) (t:InitL r l):InitL (.Assign [.Attribute (.Name "self" p1) x p2] v p3::r) ((x,s)::l)
def jI (g:Gx) (vars:aM) (K:List (Str×PV)→Own→Prop):List (Str×Src)→List (Str×PV)→Own→Prop
 | [],fs,z=>K fs z
 | (x,.arg y)::l,fs,z=>∃v,Look y v vars∧jI g vars K l ((x,v)::fs) z
 | (x,.con p)::l,fs,z=>jI g vars K l ((x,p)::fs) z
 | (x,.lst)::l,fs,z=>jI g vars K l ((x,.lst [])::fs) z
 | (x,.dct)::l,fs,z=>∀a,jI g vars K l ((x,.ref a)::fs) ((a,aq g [])::z)
section
variable {g:Gx} {c:Cx} {A:Around} {st:St} {R:LG} {d:Nat}
theorem Lz {env:Env} {pos:Pos} {Q:LE} (hsys:sysModules<g.base.objs.size) (q:∀a,Q (.ref a) { st with own:=(a,aq g [])::st.own }):Ev g c A (eval (.Dict [] [] pos) env) st Q R:=fun frz s X=>by
 have X0:=X;obtain ⟨⟨m,own,frs,C⟩,_,_⟩:=X0;refine u32 C.F.ns ?_;rintro oL _ _ hL _;refine u12 (Oa.mp (QF (knd:=SK g) s.heap)) ?_;rintro o ho hd;have eo:o={ cls:=.type "dict",data:=.dict #[] }:=Mm (ho.symm.trans (Pq _ rfl));subst eo;exact wpAny_Dict_empty ⟨.ref s.heap.objs.size,_,frz,Sub.refl _,X.pushOwn { cls:=.type "dict",data:=.dict #[] } (aq g []) rfl (dh (beq_eq_false_iff_ne.mpr (NV (PM (Nw hsys C.F.above) (MI hL)))) hd rfl rfl),rfl,q _⟩
theorem KC {a:Addr} {o o':AO} (z pre:Own):OwnUpd a o o' (z++(a,o)::pre) (z++(a,o')::pre):=by
 induction z with
 | nil=>exact .here
 | cons p z ih=>exact .there ih
theorem fq (hg:GOk g) (hsys:sysModules<g.base.objs.size) (ok:Ok g c A d) {vars:aM} {a C:Addr} {kd:Kd} (k:CX g.K C) (hself:Look "self" (.ref a) vars) {pre:Own} {K:List (Str×PV)→Own→Prop} {ss:LT} {l:List (Str×Src)} (h:InitL ss l) :
 ∀{fs:List (Str×PV)} {z:Own},(∀p∈l,findIn g.K (.ref C) p.1=some none)→fs.length+l.length≤100→jI g vars K l fs z→
  Ex g c A (execs ss c.env) ⟨vars,z++(a,an C kd fs)::pre⟩ (fun af st'=>af=.next∧∃fs' z',st'=⟨vars,z'++(a,an C kd fs')::pre⟩∧K fs' z') R:=by
 induction h with
 | nil=>exact fun _ _ q=>Ex.nil ⟨rfl,_,_,rfl,q⟩
 | @cons x _ _ _ v sr ss l h _ ih=>
  intro fs z hn hl q;have hl':(fs.length+1)+l.length≤100:=by rw [Mr] at hl;exact xJ hl
  have hx:=hn _ (.head _);have step:∀(p:PV) (z':Own),jI g vars K l ((x,p)::fs) z'→SetQ "self" a C x (Ao g c A ss _ R) p ⟨vars,z'++(a,an C kd fs)::pre⟩:=
   fun p z' q=>⟨hself,kd,fs,_,KC z' pre,by exact Ib hl',ih (fun p hp=>hn p (.tail _ hp)) hl' q⟩
  refine Ex.cons ?_;cases h with
  | arg=>obtain ⟨w,hw,q⟩:=q;exact KD hg ok k hx rfl (Ev.var ok hw (step w z q))
  | int=>exact KD hg ok k hx rfl (Ev.int (step _ z q))
  | str=>exact KD hg ok k hx rfl (Ev.str (step _ z q))
  | bool=>exact KD hg ok k hx rfl (Ev.bool (step _ z q))
  | none=>exact KD hg ok k hx rfl (Ev.none (step _ z q))
  | lst=>exact KD hg ok k hx rfl (Ev.list (Evs.nil ⟨Tw _,step _ z q⟩))
  | dct=>exact KD hg ok k hx rfl (Lz hsys fun b=>step _ ((b,aq g [])::z) (q b))
inductive ExcF (g:Gx) (frz:Led) (a:Addr) (e:Led):Prop
 | mk (ws:Array Value) (odt:Option Addr) (sl:Array (Option Value)) (r:Led) (h1:e=(a,⟨.ref g.cR,odt,.fields ws,sl⟩)::r) (h2:ws.size=6) (h3:ws[1]? = some .none)
  (h4:∀ws':Array Value,ws'.size=6→ws'[1]? = some .none→AORep (Hq g frz) a (an g.cR .exc []) ((a,⟨.ref g.cR,odt,.fields ws',sl⟩)::r))
theorem xw {a:Addr} {frz e:Led} (he:AORep (Hq g frz) a (an g.cR .exc []) e):ExcF g frz a e:=by
 obtain ⟨da,sl,⟨ws,rfl,h2,h3⟩,hq⟩:=he (Hq g frz) fun _ _ _ h=>h;obtain ⟨_,rfl⟩|⟨dd',od,rfl,es,ep,h4,h5,h6,h7⟩:=hq
 ·exact ⟨ws,_,sl,_,rfl,h2,h3,fun ws' z1 z2 H' k=>⟨_,sl,⟨ws',rfl,z1,z2⟩,.inl rfl rfl⟩⟩
 ·exact ⟨ws,_,sl,_,rfl,h2,h3,fun ws' z1 z2 H' k=>⟨_,sl,⟨ws',rfl,z1,z2⟩,.inr dd' od rfl ⟨es,ep,h4,h5,h6,fun y=>(h7 y).mono k⟩⟩⟩
theorem vS {a:Addr} {T:Obj} {w:Value} {tk:Nat} {frz:Led} {s:Shared} (X:S g c st frz s) (u:OwnUpd a (an g.cR .exc []) (an g.cR .exc []) st.own st.own):S g c st frz { s with heap:=(s.heap.push T).update a (NI (·.setIfInBounds 0 w)),toks:=tk }:=X.chg u fun e he hh' nd=>by
 obtain ⟨ws,odt,sl,rest',rfl,hws,hw1,hn⟩:=xw he;have hne:∀p∈rest',p.1≠a:=fun p hp q=>(Mt.mp nd).1 (q▸Ma.mpr (v12 p hp rfl));refine ⟨_,hn (ws.setIfInBounds 0 w) (by simpa using hws) (by simpa using hw1),by simpa using nd,fun p hp=>?_,fun b ob hb hg=>?_⟩
 ·rcases Me.mp hp with rfl|hp'
  ·exact ⟨Om _ (MJ T (hh' _ (.head _))) rfl,.inl (.head _)⟩
  ·exact ⟨(Oy _ _ _ _ (hne p hp')).trans (MJ _ (hh' p (.tail _ hp'))),.inl (.tail _ (Ma.mpr (v12 p hp' rfl)))⟩
 ·exact (Oy _ _ _ _ fun q=>hb (by simp [q])).trans (MJ _ hg)
theorem iP {fI:Addr} (hg:GOk g) (xk:XK g fI) {a:Addr} {v:PV} {own:Own} {Q:LH} {R:LI} (u:OwnUpd a (an g.cR .exc []) (an g.cR .exc []) own own) (q:Q .none own) :
 CallV g d (.builtin "Exception.__init__") [.ref a,v] own Q R:=by
 rintro c A st frz s _ ok rfl X ⟨_,_,rfl,rfl,w,_,rfl,r,rfl⟩;obtain ⟨nm,qn,N,bs,sn,sub,ab,col,dd,k0,k1,k2,k3,k5,mN,hC,hN,hi⟩:=xk.obj;refine u12 (X.ownAt u) ?_;rintro e he hget;obtain ⟨ws,odt,sl,rest,rfl,hws,hw1,_⟩:=xw he;have ha:=hget _ (.head _);have F:=NN;obtain ⟨hh,gg,dr,tk,os⟩:=s;refine QH (Px F.init.plain F.initEntry (wpAny_check_init_sub F (X.keep _ _ hC) ha rfl ?_));obtain ⟨w0,hw0⟩:∃w0,ws[0]? = some w0:=⟨ws[0]'(DB hws),Array.getElem?_eq_getElem _⟩
 unfold Builtin.«BaseException.__init__»;show wpAny _ _ (newTuple [w] >>= fun t=>BaseException.bexcPut (.ref a) 0 t >>= fun _=>ret .none) _ _ _;have ha':=MJ { cls:=.type "tuple",data:=.seq [w].toArray } ha;refine KE (wpAny_newTuple (KE ?_));unfold BaseException.bexcPut;refine KE (Nx ha' rfl hw0 (KE (QG ha' rfl (DB hws) ?_)));have fin:GotC g c st.vars frz Q .none ⟨_,gg,dr,tk,os⟩:=⟨.none,_,frz,Sub.refl _,(vS (T:={ cls:=.type "tuple",data:=.seq [w].toArray }) (w:=.ref hh.objs.size) (tk:=tk) X u),rfl,q⟩
 cases w0<;>first|exact wpAny_letGo (Mh fin)|exact Mh (Mh fin)
end
set_option backward.match.sparseCases false
open Builtin Builtin.ObjectAttr
noncomputable def am (i j:Nat):LT×Scope:=match Mk.main.body[i]? with
 | some (.ClassDef _ _ _ body ..)=>match body[j]? with
  | some (.FunctionDef _ _ b _ _ _ sc ..)=>(b,sc)
  | _=>([],default)
 | _=>([],default)
noncomputable def jW:List (Str×Src):=[("code",.arg "code"),("value",.arg "value"),("errorcode",.arg "errorcode"),("level",.arg "level"),("ret",.arg "ret"),("info",.con (.str [])),("is_noted",.con (.bool false)),("line",.con (.int 0)),("extra",.lst)]
theorem rL:InitL (am 5 0).1.tail jW:=.cons .arg (.cons .arg (.cons .arg (.cons .arg (.cons .arg (.cons .str (.cons .bool (.cons .int (.cons .lst .nil))))))))
theorem gf:(("Exception" : Str),NameKind.globalImplicit)∈(am 5 0).2.names∧∀x∈(["self","code","value","errorcode","level","ret"]:LP),(x,NameKind.local)∈(am 5 0).2.names:=by decide +kernel
noncomputable def aj (i:Nat):LT×Scope:=match Mk.main.body[i]? with
 | some (.FunctionDef _ _ b _ _ _ sc ..)=>(b,sc)
 | _=>([],default)
theorem jt:(("Raised" : Str),NameKind.globalImplicit)∈(aj 8).2.names∧∀x∈(["text","errorcode"]:LP),(x,NameKind.local)∈(aj 8).2.names:=by decide +kernel
structure XR (g:Gx) (fI:Addr):Prop extends XK g fI where
 init:FnA g fI ["self","code","value","errorcode","level","ret"] [.int 0,.int 0] (am 5 0).1 (am 5 0).2
 flds:∀p∈jW,findIn g.K (.ref g.cR) p.1=some none
 exc:∃T,bH g "Exception" (.type T)∧typeOf (.type T)=pure (.type "type")∧QX T=false∧findCls g.K (.type T) (.type "type") "__init__" = some (.val (.builtin "Exception.__init__"))
 sysm:sysModules<g.base.objs.size
 ga:findIn g.K (.ref g.cR) "__getattribute__" = some (some (.builtin "BaseException.__getattribute__"))
 err:gb g "error" ["text","errorcode"] (aj 8).1 (aj 8).2
def XF (fs:List (Str×PV)) (x:XC):Prop:=fs.lookup ("code" : Str)=some (.int x.code)∧fs.lookup ("value" : Str)=some (.str x.value)∧fs.lookup ("errorcode" : Str)=some x.ec
def ta (g:Gx) (own:Own) (x:XC) (v:PV) (o:Own):Prop:=∃e fs,v=.ref e∧o=(e,an g.cR .exc fs)::own∧XF fs x
theorem fP:handedIn (.builtin "Exception.__init__")=true:=by decide +kernel
section
variable {g:Gx} {c:Cx} {A:Around} {st:St} {R:LG} {d:Nat}
theorem Ex.eff (ok:Ok g c A d) {e:Expr} {pos} {st:St} {Q:LK} {R:LG} (hw:swapsWith e none pos.line c.env=pure false) (h:Ev g c A (eval e c.env) st (fun v st'=>v=.none∧Q .next st') R):Ex g c A (exec (.Expr e pos) c.env) st Q R:=fun frz s X=>by
 refine RY (tt (h frz s X) (fun v s₁ hh=>?_) fun _ _ e=>e) (show interactive c.env=false from by unfold interactive;show (c.cs.kind==ScopeKind.module&&_)=false;refine ok.kind▸?_;rfl) hw;obtain ⟨pv,st',f',a,X',r,rfl,q⟩:=hh;obtain rfl:v=.none:=r;exact ⟨.next,st',f',a,X',trivial,q⟩
theorem S.fr {frz:Led} {s:Shared} (X:S g c st frz s):∃m,Fr g.base c.L s.heap m:=by obtain ⟨⟨m,_,_,C⟩,_,_⟩:=X;exact ⟨m,C.F⟩
theorem vG {T:String} (hg:GOk g) (e1:typeOf (.type T)=pure (.type "type")) (e2:QX T=false) (e:findCls g.K (.type T) (.type "type") "__init__" = some (.val (.builtin "Exception.__init__"))) (frz:Led) (s:Shared) (X:S g c st frz s) (pl:Sem Bool) (E:LM)
 (Q':Value×LO→Shared→Prop) (hq:∀n,Q' (.builtin "Exception.__init__",[]) { s with toks:=n }):wpAny (model g.prog g.w) A (getMethod (.type T) "__init__" pl) Q' E s:=by
 obtain ⟨m,F⟩:=X.fr;exact method_type F hg.X e1 e2 e fP (hq _)
theorem nC {fI:Addr} (hg:GOk g) (xr:XR g fI) {own:Own} {e:Addr} {i:Int} {s:LA} {ec:PV} {R:LI} :
 CallV g (d+1) (.ref fI) [.ref e,.int i,.str s,ec] ((e,an g.cR .exc [])::own) (fun v o=>v=.none∧ta g own ⟨i,s,ec⟩ (.ref e) o) R:=by
 refine bt (others:=[]) hg xr.init rfl (by decide) gf.2 fun c A ok hc=>?_;refine Ex.at (b':=.Expr (.Call (.Attribute (.Name "Exception" _) "__init__" _) [.Name "self" _,.Name "value" _] [] _) _::(am 5 0).1.tail) rfl ?_;refine u14 xr.exc ?_;rintro T x1 x2 x3 x4;have env:EnvG c.env "Exception":=ok.envG (by refine hc▸?_;exact gf.1);refine Ex.cons (Ex.eff ok rfl (Ev.meth ok rfl rfl rfl rfl rfl (MethE.glob hg env x1 KeepOk.bi (vG hg x2 x3 x4) (Evs.cons (Ev.var ok .here (Evs.cons (Ev.var ok (.there (.there .here)) (Evs.nil (iP hg xr.toXK .here ⟨rfl,?_⟩))) rfl)) rfl))));refine Ex.mono (fq (kd:=.exc) (z:=[]) hg xr.sysm ok xr.ck .here rL xr.flds (by decide) (K:=fun fs z=>z=[]∧XF fs ⟨i,s,ec⟩) ?_) fun f st' hh=>?_
 ·exact ⟨_,.there .here,_,.there (.there .here),_,.there (.there (.there .here)),_,.there (.there (.there (.there .here))),_,.there (.there (.there (.there (.there .here)))),rfl,rfl,rfl,rfl⟩
 ·obtain ⟨hf,fs,z,hst,hz,hx⟩:=hh;subst hf hst hz;exact ⟨rfl,e,fs,rfl,rfl,hx⟩
theorem KeepOk.cls {C:Addr} (hg:GOk g) (h:keepIn g.K (.ref C)=true):KeepOk g (.ref C):=fun hp k=>keeps_K h hp (hg.X.keeps k)
theorem iC {fI:Addr} (hg:GOk g) (xr:XR g fI) {own:Own} {s:LA} {ec:PV} {R:LI}:CallN g (d+3) "error" [.str s,ec] own (ta g own ⟨1,s,ec⟩) R:=by
 refine cv [] hg xr.err rfl (by decide) jt.2 fun c A ok hc=>?_;refine Ex.at (b':=[.Return (some (.Call (.Name "Raised" _) [.Constant (.int 1) _ _,.Name "text" _,.Name "errorcode" _] [] _)) _]) rfl ?_;refine Ex.cons (Ex.ret (Ev.call hg ok (ok.envG (by refine hc▸?_;exact jt.1)) (Evs.cons (Ev.int (Evs.cons (Ev.var ok .here (Evs.cons (Ev.var ok (.there .here) (Evs.nil ?_)) rfl)) rfl)) rfl) (v12 _ (.inl xr.name) (KeepOk.cls hg xr.keep))));exact (v13 _ (.inl xr.name) (KeepOk.cls hg xr.keep) (qu xr.toXK (by show 3≤100;exact Ia) fun e=>nC hg xr))
end
set_option backward.match.sparseCases true
open Builtin Builtin.ObjectAttr
theorem Fld.xdict {H:Hp} {od:Obj} {fs:List (Str×PV)} {x:XC} (h:Fld H od fs) (k:XF fs x):XDict H od x:=by
 obtain ⟨es,ep,h1,h2,h3,h4⟩:=h;have get:∀(n:Str) p,fs.lookup n=some p→∃v,nsFind es n=some v∧Rep H v p:=fun n p hp=>by
  have:=h4 n;replace this:=hp▸this;cases hv:nsFind es n with
  | none=>replace this:=hv▸this;exact this.elim
  | some v=>rw [hv] at this;exact (v12 v rfl this)
 obtain ⟨_,a1,t1,rfl⟩:=get _ _ k.1;obtain ⟨_,b1,t2,rfl⟩:=get _ _ k.2.1;refine u12 (get _ _ k.2.2) ?_;rintro v c1 c2;exact ⟨es,ep,h1,h2,⟨t1,a1⟩,⟨t2,b1⟩,v,c1,c2⟩
section
variable {g:Gx} {c:Cx} {A:Around} {st:St} {R:LG} {d:Nat}
theorem S.toSX {vars:aM} {own:Own} {e:Addr} {fs:List (Str×PV)} {x:XC} {frz:Led} {s:Shared} (X:S g c ⟨vars,(e,an g.cR .exc fs)::own⟩ frz s) (k:XF fs x):∃frz',Sub frz frz'∧SX g c ⟨vars,own⟩ frz' s e x none:=by
 obtain ⟨⟨m,led,frs,C⟩,nn,lc⟩:=X;obtain ⟨F,N,nd,SU,⟨e1,e2,rfl,h1,h2⟩,V⟩:=C;obtain ⟨da,sl,⟨vs,rfl,hs,hv⟩,hq⟩:=h1 (Hq g frz) fun _ _ _ h=>h;rcases hq with ⟨rfl,_⟩|⟨dd,od,rfl,hf⟩
 ·exact absurd k.1 (by simp)
 ·have km:∀a ob,Hq g frz a ob→Hq g ((dd,od)::frz) a ob:=Hq.mono fun p hp=>.tail _ hp;have perm:((([(e,(⟨.ref g.cR,some dd,.fields vs,sl⟩:Obj)),(dd,od)]++e2)++(frz++frs)).map (·.1)).Perm (e::(e2++((dd,od)::frz++frs)).map (·.1)):=by
   simp only [MD,MT,Mu,Mz];exact List.Perm.cons _ Nv.symm
  have nd':=Mt.mp (perm.nodup_iff.mp nd);have sub:∀p,p∈e2++((dd,od)::frz++frs)→p∈([(e,(⟨.ref g.cR,some dd,.fields vs,sl⟩:Obj)),(dd,od)]++e2)++(frz++frs):=fun p hp=>by
   simp only [Mi,Me,ML,or_false] at hp⊢;rcases hp with hp|(hp|hp)|hp
   ·exact .inl (.inr hp)
   ·exact .inl (.inl (.inr hp))
   ·exact .inr (.inl hp)
   ·exact .inr (.inr hp)
  have He:=N (e,(⟨.ref g.cR,some dd,.fields vs,sl⟩:Obj)) (Mc _ (Mc _ (.head _)));refine (v12 ((dd,od)::frz) (fun p hp=>.tail _ hp) ⟨⟨m,e2,frs,⟨F,fun p hp=>N p (sub p hp),nd'.2,SU,h2.mono km,V.mono km⟩,⟨⟨_,vs,dd,od,He.1,rfl,rfl,rfl,hs,hv,.head _,(hf.xdict k).mono km⟩,He.2.2,He.2.1,fun p hp q=>?_⟩⟩,nn,lc⟩);exact nd'.1 (Ma.mpr (v12 p hp q))
inductive RaP (g:Gx) (E:LM) (v:Value) (s:Shared):Prop
 | mk (e:Addr) (oe:Obj) (vs:Array Value) (h1:v=.ref e) (h2:∀b o,g.base.get? b=some o→s.heap.get? b=some o) (h3:s.heap.get? e=some oe) (h4:oe.cls=.ref g.cR) (h5:oe.data=.fields vs) (h6:vs[1]? = some .none) (h7:E (.ref e) s)
inductive RsQ (g:Gx) (R:LG) (v:PV) (st:St):Prop
 | mk (x:XC) (own:Own) (h1:ta g own x v st.own) (h2:R x { st with own:=own })
theorem yd {x:Sem Value} {env:Env} {Q:Flow→Shared→Prop} {E:LM} {fI:Addr} {s:Shared} (xk:XK g fI) (hh:A.handled=none)
 (h:wpAny (model g.prog g.w) A x (RaP g E) E s) :
 wpAny (model g.prog g.w) A (raiseStmt env (some x) none) Q E s:=by
 obtain ⟨nm,q,N,bs,sn,sub,ab,col,dd,k0,k1,k2,k3,k5,mN,hC,hN,hi⟩:=xk.obj;unfold raiseStmt;refine KE (tt h (fun v s₁ h₁=>?_) fun _ _ x=>x);obtain ⟨e,⟨oc,odt,oda,osl⟩,vs,rfl,hk,he,hcls,hdat,hv,hE⟩:=h₁;dsimp only at hcls hdat;subst hcls hdat;have hC':=hk _ _ hC;obtain ⟨hp,g',d,tk,os⟩:=s₁
 repeat (first|with_reducible refine Sh he ?_|with_reducible refine Sh hC' ?_|(with_reducible refine wpAny_isSubtype_exc hC' ?_;refine (show (Value.ref g.cR::bmX).contains (.type "BaseException")=true from by rw [List.contains_cons,NN.hasBase,PH]).symm▸?_)|with_reducible refine Nx he rfl hv ?_|wp_step)
 exact wpAny_raiseNew_none hh hE
theorem KZ {call:Expr} {pos:Pos} {fI:Addr} {Q:LK} (xk:XK g fI) (ok:Ok g c A d) (h:Ev g c A (eval call c.env) st (RsQ g R) R) :
 Ex g c A (exec (.Raise (some call) none pos) c.env) st Q R:=fun frz s X=>by
 rw [arm_exec_Raise];refine KE (MW (yd xk ok.hand ?_));refine KE (tt (h frz s X) (fun v s₁ hh=>KE (MW (Mh ?_))) fun _ _ e=>e);obtain ⟨pv,⟨vars,_⟩,f',a',X',r,x,own,⟨e,fs,rfl,rfl,k⟩,q⟩:=hh;obtain rfl:v=.ref e:=r;refine u12 (X'.toSX k) ?_;rintro f'' a'' Y;obtain ⟨⟨m,led,frs,C,L⟩,_,_⟩:=id Y;obtain ⟨oe,vs,dd,od,he,hcl,hdd,hd,hsz,tr,_⟩:=L.ob;exact ⟨e,oe,vs,rfl,Y.S.keep,he,hcl,hd,tr,e,x,⟨vars,own⟩,f'',Option.none,rfl,Sub.trans a' a'',Y,.inl rfl,q⟩
theorem ef {f:Str} {ps:LP} {body:LT} {scope:Scope} (hf:gb g f ps body scope):∃v,bH g f v∧KeepOk g v:=
 by obtain ⟨a,h1,hf⟩:=hf;exact by obtain ⟨_,_,h2,h3,_,_,_,_,_,_,_⟩:=hf.ex;exact ⟨.ref a,.inl h1,KeepOk.fn h2 h3⟩
theorem CallV.mono {fv:Value} {args:LB} {own:Own} {Q Q':LH} {R:LI} (h:CallV g d fv args own Q R) (k:∀v o,Q v o→Q' v o):CallV g d fv args own Q' R:=fun c A st frz s vs ok ho X r=>
 tt (h c A st frz s vs ok ho X r) (fun _ _ hh=>by obtain ⟨pv,own',f',a,X',r',q⟩:=hh;exact ⟨pv,own',f',a,X',r',k _ _ q⟩) fun _ _ e=>e
def cc (e:Expr) (env:Env):Prop:=∀rest,starEach (e::rest) env=(false,eval e env)::starEach rest env
theorem Ex.raiseE {fI:Addr} (hg:GOk g) (xr:XR g fI) {a b:Expr} {fp p pos:Pos} {Q:LK} (ok:Ok g c A (d+3)) (hk:EnvG c.env "error") (ha:cc a c.env) (hb:cc b c.env)
 (h:Ev g c A (eval a c.env) st (fun v st₁=>∃s,v=.str s∧Ev g c A (eval b c.env) st₁ (fun w st₂=>R ⟨1,s,w⟩ st₂) R) R):Ex g c A (exec (.Raise (some (.Call (.Name "error" fp) [a,b] [] p)) Option.none pos) c.env) st Q R:=by
 refine KZ xr.toXK ok (Ev.call hg ok hk (Evs.cons (fun frz s X=>?_) (ha _)) (ef xr.err) (ha _) (by rw [hb];rfl));refine tt (h frz s X) (fun v s₁ hh=>?_) fun _ _ e=>e;obtain ⟨pv,st₁,f₁,a₁,X₁,r₁,x,rfl,h2⟩:=hh;refine ⟨_,st₁,f₁,a₁,X₁,r₁,Evs.cons (fun frz s X=>?_) (hb _)⟩;refine tt (h2 frz s X) (fun v s₁ hh=>?_) fun _ _ e=>e;obtain ⟨pv,st₂,f₂,a₂,X₂,r₂,q⟩:=hh;refine ⟨pv,st₂,f₂,a₂,X₂,r₂,Evs.nil ?_⟩;obtain ⟨v,n1,n2,n3⟩:=iC (own:=st₂.own) (R:=fun x own'=>R x { st₂ with own:=own' }) (s:=x) (ec:=pv) hg xr;exact (v13 v n1 n2 (n3.mono (fun v o k=>⟨_,_,k,q⟩)))
end
open Builtin Builtin.ObjectAttr
section
variable {g:Gx} {c:Cx} {A:Around} {st:St} {R:LG} {d:Nat}
theorem tI {fI:Addr} (hg:GOk g) (xk:XK g fI) (ok:Ok g c A d) (hk:EnvG c.env "Raised") {e:Addr} {x:XC} {fl:Option Value} {frz:Led} {s:Shared} {name:Option Str} {b₀:Stmt} {suite:LT} {yp pos:Pos} {rest:List ExceptHandler} {Q:Flow→Shared→Prop} {E:LM}
 (X:SX g c st frz s e x fl) (hfl:fl=none∨fl=some .none∨fl=some (rawInt c.L))
 (k:∀s',SX g c st frz s' e x (some .none)→codeAny (model g.prog g.w) (A.mark (some (.ref e))) (.handlers (.ref e) [.ExceptHandler none name (b₀::suite) pos] c.env) (fun r s₂=>match r with
  | .ok f=>(match name with
   | none=>Q f s₂
   | some n=>wpAny (model g.prog g.w) A (do bindName c.env n .none;unbindBehindTheSuite c.env n pos) (fun _ s₃=>Q f s₃) E s₂)
  | .error x=>cameBackBy (model g.prog g.w) A c.env E x s₂) s') :
 wpAny (model g.prog g.w) A (noteFrame (.ref e) c.env) (fun _ s₂=>wpAny (model g.prog g.w) A (setFlight (.ref e) none) (fun _ s₃=>wpAny (model g.prog g.w) A (handleBy (.ref e) c.env (.ExceptHandler (some (.Name "Raised" yp)) name (b₀::suite) pos::rest)) Q E s₃) E s₂) E s:=by
 refine my ok.fr ok.kind ok.frames X hfl fun s₁ X₁=>dP ok.fr X₁ fun s₂ X₂=>?_;refine wpAny_handleBy_cons (codeAny_handlers_test (cF hg hk (.inl xk.name) X₂.S ?_)) (by intro q;injection q);obtain ⟨nm,q,N,bs,sn,sub,ab,col,dd,k0,k1,k2,k3,k5,mN,hC,hN,hi⟩:=xk.obj;obtain ⟨⟨m,led,frs,C,L⟩,_,_⟩:=id X₂;obtain ⟨oe,vs,dd',od,he,hcl,_⟩:=L.ob;obtain ⟨hh,gg,dr,tk,os⟩:=s₂;exact wpAny_excMatches_sub_self (X₂.S.keep _ _ hC) he hcl NN.hasBase (k _ X₂)
theorem LY (hkind:c.cs.kind=.function) (hnd:(c.cs.names.map (·.1)).Nodup) (hdbg:∀x∈c.cs.names.map (·.1),(x==("__debug__" : Str))=false) {x:Str} {pos:Pos} {pv:PV} {Q:LE} (hv:Look x pv st.vars) (q:Q pv st) :
 Ev g c A (eval (.Name x pos) c.env) st Q R:=fun frz s X=>by
 have X':=X;obtain ⟨⟨m,own,frs,⟨F,N,nd,SU,O,V⟩⟩,nn,lc⟩:=X;refine u12 (V _ _ hv.mem) ?_;rintro v hm r;have hl:=lc.1 x (Ma.mpr (v12 _ hv.mem rfl));exact Pm (Nz hkind (aA hnd hl) F.ns hm ⟨pv,st,frz,fun _ h=>h,X',r,q⟩) (hdbg x (Ma.mpr (v12 _ hl rfl)))
theorem LW {fI:Addr} (hg:GOk g) (xk:XK g fI) (ok:Ok g c A d) (hk:EnvG c.env "Raised") {Q:LK} {s:Stmt} {b:Bool} {yp k1 p1 p2 k2 p3 p4 p5 pos} {z:Str} (h:Ex g c A (exec s c.env) st Q (fun x st'=>∃v,Look z v st'.vars∧Q (.ret (.tup [.bool b,v])) st')) :
 Ex g c A (exec (.Try [s] [.ExceptHandler (some (.Name "Raised" yp)) Option.none [.Return (some (.Tuple [.Constant (.bool b) k1 p1,.Name z p2] k2 p3)) p4] p5] [] [] pos) c.env) st Q R:=fun frz s₀ X=>by
 refine Sm (tt (Ex.cons (rest:=[]) (Q:=Q) (Ex.mono h fun f st' q=>?_) frz s₀ X) (fun f s₁ hh=>?_) fun v s₁ hh=>?_)
 ·cases f with
  | next=>exact Ex.nil q
  | _=>exact q
 ·cases f with
  | next=>exact Pp hh
  | _=>exact hh
 ·obtain ⟨e,x,st',f',fl,rfl,a',X',hfl,v,hv,q⟩:=hh;have hE:Ev g c (A.mark (some (.ref e))) (eval (.Tuple [.Constant (.bool b) k1 p1,.Name z p2] k2 p3) c.env) st' (fun p st=>Q (.ret p) st) (fun _ _=>False):=
   Ev.tup (Evs.cons (Ev.bool (Evs.cons (LY ok.kind ok.nd ok.dbg hv (Evs.nil ⟨by refine MQ▸?_;show 2≤_;exact xI,q⟩)) rfl)) rfl)
  refine tI hg xk ok hk X' hfl fun s₂ X₂=>codeAny_handlers_suite (dP ok.fr X₂ fun s₃ X₃=>?_);refine Pi (Qd (tt (hE f' s₃ X₃.S) (fun w s₄ hh=>?_) fun w s₄ hh=>?_))
  ·obtain ⟨pv,st₂,f₂,a₂,X₄,r₂,q₂⟩:=hh;exact ⟨.ret pv,st₂,f₂,Sub.trans a' a₂,X₄,r₂,q₂⟩
  ·obtain ⟨_,_,_,_,_,_,_,_,_,h⟩:=hh;exact h.elim
end
open Builtin Builtin.ObjectAttr
section
variable {g:Gx} {c:Cx} {A:Around} {st:St} {R:LG} {d:Nat}
theorem SX.toks {frz:Led} {s:Shared} {e:Addr} {x:XC} {fl:Option Value} (X:SX g c st frz s e x fl) (n:Nat):SX g c st frz { s with toks:=n } e x fl:=⟨X.ex,X.nd,X.loc⟩
theorem xW {x:Str} {pv:PV} {v:Value} {vs':aM} {frz:Led} {s:Shared} {e:Addr} {xc:XC} {fl:Option Value} {Q:Unit→Shared→Prop} {E:LM} (hkind:c.cs.kind=.function) (hnd:(c.cs.names.map (·.1)).Nodup) (X:SX g c st frz s e xc fl) (hp:Put x pv st.vars vs') (r:Rep (Hq g frz) v pv)
 (h:∀s',SX g c { st with vars:=vs' } frz s' e xc fl→Q () s'):wpAny (model g.prog g.w) A (storeName c.env x v) Q E s:=by
 have hl:=X.loc.1 x hp.key;obtain ⟨⟨m,own,frs,⟨F,N,nd,SU,O,V⟩,L⟩,nn,lc⟩:=X;refine Pr (m:=m) (aA hnd hl) F.ns (fun h' hn hs=>h _ ?_) (by show (c.cs.kind==.class||(c.cs.kind==.module&&c.L != mainGlobals))=false;refine hkind▸?_;rfl);refine ⟨⟨_,own,frs,⟨F.set hn hs,N.set hs,nd,SU,O,fun y qv hy=>?_⟩,?_⟩,by show (vs'.map (·.1)).Nodup;refine hp.keys▸?_;exact nn,by show ∀x∈vs'.map (·.1),_;refine hp.keys▸?_;exact lc.1,lc.2⟩
 ·refine Mx (hp.old nn y _ hy) (fun hz=>?_) fun hz=>?_
  ·obtain ⟨e1,e2⟩:=hz;injection e2 with e2;subst e2;exact ⟨v,if_pos e1,r⟩
  ·obtain ⟨e1,e2⟩:=hz;refine u12 (V y qv e2) ?_;rintro u a b;exact ⟨u,(if_neg e1).trans a,b⟩
 ·obtain ⟨⟨oe,vs,dd,od,k1,k2,k3,k4,k5,k6,k7,k8⟩,lb,ll,lled⟩:=L;refine ⟨⟨oe,vs,dd,od,(hs.2 e ll).trans k1,k2,k3,k4,k5,?_,k7,k8⟩,lb,ll,lled⟩;cases fl with
  | none=>exact k6
  | some fl=>
   obtain ⟨T,oT,ts,t1,t2,t3,t4,t5,t6,t7,t8⟩:=k6;exact ⟨T,oT,ts,t1,t2,(hs.2 T t7).trans t3,t4,t5,t6,t7,t8⟩
theorem vP {K:Frag} {h:Heap} {gs:Array GenState} {dr:Drawn} {tk:Nat} {os:OsState} {x C N:Addr} {ox:Obj} {od:Option Obj} {name nm q:Str} {expr:Bool} {v:Value} {prog:Program} {w:World} {bs:LO} {hdct:Bool} {sn:LP} {sub:LO} {ab:Bool} {col:Option Bool} {dd:Option Addr} {k0 k1 k2 k3 k5:Option Value} {newId:String}
 {Q:LM} {E:LM} (X:K.In h) (I:InstAt h x ox C od) (hga:findIn K (.ref C) "__getattribute__" = some (some (.builtin "BaseException.__getattribute__"))) (hno:findIn K (.ref C) "__getattr__" = some none)
 (hC:h.get? C=some (excClassObj nm q C N bs bmX hdct sn sub ab col dd k0 k1 k2 k3 k5 newId)) (hf:findObj K C od name=some (.value v)) (hh:handedIn v=true) (hq:Q v ⟨h,gs,dr,tk+1,os⟩):wpAny (model prog w) A (getAttr (.ref x) name expr) Q E ⟨h,gs,dr,tk,os⟩:=by
 have L0:=I.type (M:=model prog w);have L1:=Rk (M:=model prog w) X hga;have L3:=looks_find (M:=model prog w) X I hf;have FB:=F.attrBase_Exception;unfold getAttr getAttrBy;refine KE (wpAny_mkText (Mw (KE (L0.at (KE (L1.at ?_))))));have hx2:(Value.builtin "BaseException.__getattribute__" == Value.builtin "object.__getattribute__")=false:=by decide +kernel
 dsimp only;rw [if_neg (fun h=>by rw [hx2,Pl] at h;injection h)];unfold getAttrByItsOwn;show wpAny _ _ (typeLookup (.ref C) "__getattr__" >>= _) _ _ _;refine KE ((Rk (M:=model prog w) X hno).at (KE (wpAny_attempt (Mw ?_))));unfold callGetattribute;rw [if_neg (by cases expr<;>decide)];unfold boundAndCalled;refine (FB.ga.bind (.ref x))▸?_;refine KE (Mh (QH (Px FB.ga.plain F.entry_bexc_ga (wpAny_check_ga_own FB hC .base I.at_ I.cls ?_))));refine KE (wpAny_of_eq (show slotArgs "__getattribute__" 1 ⟨[Value.ref x]++[Value.str name tk],[]⟩=pure (.ref x,[.str name tk]) from rfl) ?_);refine KE (Mh (KE (L0.at (KE (L3.at (Mh ?_))))));show wpAny _ _ (handedOut v) _ _ _;rw [handedOut_of hh];exact Mh hq
def GO (x:XC) (n:Str) (p:PV):Prop:=(n = "code"∧p=.int x.code)∨(n = "value"∧p=.str x.value)∨(n = "errorcode"∧p=x.ec)
theorem sP {fI:Addr} (hg:GOk g) (xr:XR g fI) {frz:Led} {s:Shared} {e:Addr} {x:XC} {fl:Option Value} {n:Str} {p:PV} {expr:Bool} {Q:LM} {E:LM} (X:SX g c st frz s e x fl) (hf:GO x n p)
 (q:∀v n,Rep (Hq g frz) v p→Q v { s with toks:=n }):wpAny (model g.prog g.w) A (getAttr (.ref e) n expr) Q E s:=by
 obtain ⟨⟨m,led,frs,C,L⟩,_,_⟩:=id X;obtain ⟨⟨oc,odt,oda,osl⟩,vs,dd,od,k1,k2,k3,k4,k5,k6,k7,es,ep,x1,x2,⟨t1,x3⟩,⟨t2,x4⟩,v,x5,x6⟩:=L.ob;dsimp only at k2 k3 k4;subst k2 k3 k4;have IA:InstAt s.heap e ⟨.ref g.cR,some dd,.fields vs,osl⟩ g.cR (some od):=⟨k1,rfl,rfl,(X.S.get (.inl k7))⟩
 obtain ⟨nm,qn,N,bs,sn,sub,ab,col,d',k0,k1,k2,k3,k5,mN,hC,_,_⟩:=xr.obj;have go:∀u,nsFind es n=some u→Rep (Hq g frz) u p→findIn g.K (.ref g.cR) n=some none→wpAny (model g.prog g.w) A (getAttr (.ref e) n expr) Q E s:=fun u hu hr hn=>
  vP (hg.X.keeps X.S.keep) IA xr.ga xr.ck.noga (X.S.keep _ _ hC) (findObj_own xr.ck.dict hn rfl (by exact (fK n x1 x2)▸hu▸rfl)) (gj hr) (q u _ hr)
 rcases hf with ⟨rfl,rfl⟩|⟨rfl,rfl⟩|⟨rfl,rfl⟩
 ·exact go _ x3 ⟨_,rfl⟩ (xr.flds (_,_) (.head _))
 ·exact go _ x4 ⟨_,rfl⟩ (xr.flds (_,_) (.tail _ (.head _)))
 ·exact go _ x5 x6 (xr.flds (_,_) (.tail _ (.tail _ (.head _))))
theorem cK:(("string_is" : Str),NameKind.globalImplicit)∈(aj 78).2.names∧(("Raised" : Str),NameKind.globalImplicit)∈(aj 78).2.names∧∀x∈(["host","words","fault"]:LP),(x,NameKind.local)∈(aj 78).2.names:=by decide +kernel
theorem su {x:Str} {pos:Pos} {frz:Led} {s:Shared} {Q:Unit→Shared→Prop} {E:LM} (ok:Ok g c A d) (hx:(x,NameKind.local)∈c.cs.names) (X:S g c st frz s) (h:∀s',S g c ⟨[],st.own⟩ frz s'→Q () s') :
 wpAny (model g.prog g.w) A (do bindName c.env x .none;unbindBehindTheSuite c.env x pos) Q E s:=by
 obtain ⟨⟨m,own,frs,⟨F,N,nd,SU,O,V⟩⟩,nn,lc⟩:=X;exact wpAny_nameGoes (ok.isLocal hx) F.ns (by show (c.cs.kind==.class||(c.cs.kind==.module&&c.L != mainGlobals))=false;refine ok.kind▸?_;rfl) fun h' m' hn hs=>
  h _ ⟨⟨m',own,frs,⟨F.set hn hs,N.set hs,nd,SU,O,fun y qv hy=>nomatch hy⟩⟩,NP,(fun y hy=>nomatch hy),lc.2⟩
theorem uj {fI:Addr} (hg:GOk g) (xr:XR g fI) (hkind:c.cs.kind=.function) (hnd:(c.cs.names.map (·.1)).Nodup) (hdbg:∀x∈c.cs.names.map (·.1),(x==("__debug__" : Str))=false) {frz:Led} {s:Shared} {e:Addr} {x:XC} {fl:Option Value} (X:SX g c st frz s e x fl) {y n:Str} {p1 p2:Pos} {p:PV}
 (hy:Look y (.ref e) st.vars) (hf:GO x n p) {Q:LM} {E:LM} (q:∀v n,Rep (Hq g frz) v p→Q v { s with toks:=n }):wpAny (model g.prog g.w) A (eval (.Attribute (.Name y p1) n p2) c.env) Q E s:=by
 have hl:=X.loc.1 y (Ma.mpr (v12 _ hy.mem rfl));obtain ⟨⟨m,own,frs,⟨F,N,nd,SU,O,V⟩,L⟩,nn,lc⟩:=id X;refine u12 (V _ _ hy.mem) ?_;rintro v hm r;obtain rfl:v=.ref e:=r;exact TI (Pm (Nz hkind (aA hnd hl) F.ns hm (sP hg xr X hf q)) (hdbg y (Ma.mpr (v12 _ hl rfl))))
theorem qh {p1 p2 p3 p4 p5 p6 p7:Pos} {k1 k2:Nat} (hg:GOk g) (ok:Ok g c A d) (hgv:EnvG c.env "string_is") {own:Own} {host words:PV} {Qs:LH} {Rs:LI} (hn:∃v,bH g "string_is" v∧KeepOk g v) (hs:CallN g d "string_is" [host,words] own Qs Rs)
 (hv:st.vars=([("host",some host),("words",some words),("fault",none)]:aM)) (ho:st.own=own):Ex g c A (execs [.Return (some (.Tuple [.Constant (.str "gave") k1 p1,.Call (.Name "string_is" p2) [.Name "host" p3,.Name "words" p4] [] p5] k2 p6)) p7] c.env) st
  (fun f st'=>∃u,f=.ret (.tup [.str ("gave" : Str).cps.toList,u])∧Qs u st'.own) (fun x st'=>st'.vars=st.vars∧Rs x st'.own):=by
 refine Ex.cons (rest:=[]) (Ex.ret (Ev.tup (Evs.cons (Ev.str (Evs.cons (Ev.call hg ok hgv (Evs.cons (Ev.var ok (by rw [hv];exact .here) (Evs.cons (Ev.var ok (by rw [hv];exact .there .here) (Evs.nil ?_)) rfl)) rfl) hn) rfl)) rfl)));refine u13 hs ?_;clear hs;rintro v n1 n2 n3;refine (v13 v n1 n2 (fun c A st' frz s vs ok hw X r=>tt (n3 c A st' frz s vs ok (hw.trans ho) X r) (fun _ _ hh=>by obtain ⟨pv,own',f',a,X',r',q⟩:=hh;exact ⟨pv,own',f',a,X',r',Evs.nil ⟨by rw [MQ];show 2≤_;exact xI,_,rfl,q⟩⟩) fun _ _ hh=>?_));obtain ⟨e,x,st',f',fl,h1,h2,h3,h4,h5,h6⟩:=hh;exact ⟨e,x,st',f',fl,h1,h2,h3,h4,h5,rfl,h6⟩
theorem nu {fI:Addr} (hg:GOk g) (xr:XR g fI) (hf:gb g "_law_heard" ["host","words"] (aj 78).1 (aj 78).2) {own:Own} {host words:PV} {Qs:LH} {Rs R:LI} (hn:∃v,bH g "string_is" v∧KeepOk g v)
 (hs:CallN g d "string_is" [host,words] own Qs Rs):CallN g (d+1) "_law_heard" [host,words] own (fun v o=>(∃u,v=.tup [.str ("gave" : Str).cps.toList,u]∧Qs u o)∨∃x,v=.tup [.str ("raised" : Str).cps.toList,.int x.code,.str x.value,x.ec]∧Rs x o) R:=by
 refine cv ["fault"] hg hf rfl (by decide) cK.2.2 fun c A ok hc=>?_;refine Ex.at (b':=[.Try [.Return (some (.Tuple [.Constant (.str "gave") _ _,.Call (.Name "string_is" _) [.Name "host" _,.Name "words" _] [] _] _ _)) _]
  [.ExceptHandler (some (.Name "Raised" _)) (some "fault") [.Return (some (.Tuple [.Constant (.str "raised") _ _,.Attribute (.Name "fault" _) "code" _,.Attribute (.Name "fault" _) "value" _,.Attribute (.Name "fault" _) "errorcode" _] _ _)) _] _] [] [] _]) rfl ?_
 refine Ex.cons (rest:=[]) fun frz s₀ X=>?_;generalize hst:(⟨dG ["host","words"] [host,words]++bF ["fault"],own⟩:St)=st at X;refine Sm (tt (qh (st:=st) hg ok (ok.envG (by rw [hc];exact cK.1)) hn hs (congrArg St.vars hst.symm) (congrArg St.own hst.symm) frz s₀ X) (fun f s₁ hh=>?_) fun v s₁ hh=>?_)
 ·obtain ⟨af,st',f',a',X',r,u,rfl,q⟩:=hh;cases f<;>first|exact r.elim|exact ⟨_,st',f',a',X',r,.inl (v12 u rfl q)⟩
 ·obtain ⟨e,x,⟨vars',own'⟩,f',fl,rfl,a',X',hfl,hv,q⟩:=hh;dsimp only at hv q;subst hv hst;refine tI (name:=some "fault") hg xr.toXK ok (ok.envG (by rw [hc];exact cK.2.1)) X' hfl fun s₂ X₂=>codeAny_handlers_suite_as (dP ok.fr X₂ fun s₃ X₃=>?_);refine xW (pv:=.ref e) ok.kind ok.nd X₃ (.there (.there .here)) rfl fun s₄ X₄=>?_;have hfa:Look ("fault" : Str) (.ref e) [("host",some host),("words",some words),("fault",some (.ref e))]:=.there (.there .here);refine Pi (Qd (Tuple_ (Ox (Oh ?_) rfl)));refine Ox (uj hg xr ok.kind ok.nd ok.dbg (X₄.toks _) hfa (.inl ⟨rfl,rfl⟩) fun v1 n1 r1=>?_) rfl;refine Ox (uj hg xr ok.kind ok.nd ok.dbg (X₄.toks _) hfa (.inr (.inl ⟨rfl,rfl⟩)) fun v2 n2 r2=>?_) rfl;refine Ox (uj hg xr ok.kind ok.nd ok.dbg (X₄.toks _) hfa (.inr (.inr ⟨rfl,rfl⟩)) fun v3 n3 r3=>?_) rfl;refine Qy (MX ?_ (by show 4≤sizeLine;refine MQ▸?_;exact HZ));have X₅:=(X₄.toks n3).S.push { cls:=.type "tuple",data:=.seq [.str "raised" s₄.toks,v1,v2,v3].toArray } rfl;refine su ok (by rw [hc];exact cK.2.2 _ (by decide)) X₅ fun s' X₆=>?_;refine ⟨.ret (.tup [.str ("raised" : Str).cps.toList,.int x.code,.str x.value,x.ec]),_,_,fun p hp=>.tail _ (a' p hp),X₆,⟨_,_,0,rfl,.inl (.head _),?_⟩,.inr (v12 x rfl q)⟩;have km:∀a ob,Hq g f' a ob→Hq g ((s₄.heap.objs.size,({ cls:=.type "tuple",data:=.seq [.str "raised" s₄.toks,v1,v2,v3].toArray }:Obj))::f') a ob:=Hq.mono fun p hp=>.tail _ hp;exact ⟨_,_,rfl,⟨s₄.toks,by simp [txt]⟩,_,_,rfl,r1.mono km,_,_,rfl,r2.mono km,_,_,rfl,r3.mono km,rfl⟩
end
open Builtin Builtin.ObjectAttr
theorem gd:(("error" : Str),NameKind.globalImplicit)∈(aj 9).2.names∧∀x∈(["usage"]:LP),(x,NameKind.local)∈(aj 9).2.names:=by decide +kernel
theorem gE:("wrong # args: should be \"" : Str).cps.toList.length≤100∧("\"" : Str).cps.toList.length≤100:=by decide +kernel
section
variable {g:Gx} {c:Cx} {A:Around} {st:St} {R:LG} {d:Nat}
noncomputable abbrev eF (u:LA):XC:=⟨1,("wrong # args: should be \"" : Str).cps.toList++u++("\"" : Str).cps.toList,.tup [.str ("TCL" : Str).cps.toList,.str ("WRONGARGS" : Str).cps.toList]⟩
theorem nl {fI:Addr} (hg:GOk g) (xr:XR g fI) (hf:gb g "wrong_args" ["usage"] (aj 9).1 (aj 9).2) {own:Own} {u:LA} {R:LI} (hl:u.length≤1000):CallN g (d+4) "wrong_args" [.str u] own (ta g own (eF u)) R:=by
 refine cv [] hg hf rfl (by decide) gd.2 fun c A ok hc=>?_;refine Ex.at (b':=[.Return (some (.Call (.Name "error" _) [.BinOp (.BinOp (.Constant (.str "wrong # args: should be \"") _ _) .Add (.Name "usage" _) _) .Add (.Constant (.str "\"") _ _) _,.Tuple [.Constant (.str "TCL") _ _,.Constant (.str "WRONGARGS") _ _] _ _] [] _)) _]) rfl ?_;have hT:∀st:St,md g (d+3) "error" (fun pv st'=>Ao g c A [] (iL (ta g own (eF u))) (fun x st'=>R x st'.own) (.ret pv) st') (fun x st'=>R x st'.own) [.str (eF u).value,(eF u).ec] { st with own:=own }:=fun st=>by
  refine u13 (iC (d:=d) (own:=own) (R:=R) (s:=(eF u).value) (ec:=(eF u).ec) hg xr) ?_;rintro v n1 n2 n3;exact (v13 v n1 n2 n3)
 have h1:=gE.1;have h2:=gE.2;refine Ex.cons (Ex.ret (Ev.call hg ok (ok.envG (by refine hc▸?_;exact gd.1)) (Evs.cons (Ev.bin ok (Ev.bin ok (Ev.str (Ev.var ok .here (iI (HY hl h1) (Ev.str (iI (by refine Mf.symm▸?_;exact HX hl h1 h2) ?_))))))) rfl) (ef xr.err) rfl));exact Evs.cons (Ev.tup (Evs.cons (Ev.str (Evs.cons (Ev.str (Evs.nil ⟨by refine MQ▸?_;show 2≤_;exact xI,Evs.nil (hT ⟨_,own⟩)⟩)) rfl)) rfl)) rfl
theorem Ex.raiseW {fI:Addr} (hg:GOk g) (xr:XR g fI) (hf:gb g "wrong_args" ["usage"] (aj 9).1 (aj 9).2) {a:Expr} {fp p pos:Pos} {Q:LK} (ok:Ok g c A (d+4)) (hk:EnvG c.env "wrong_args") (ha:cc a c.env)
 (h:Ev g c A (eval a c.env) st (fun v st₁=>∃s,v=.str s∧s.length≤1000∧R (eF s) st₁) R):Ex g c A (exec (.Raise (some (.Call (.Name "wrong_args" fp) [a] [] p)) Option.none pos) c.env) st Q R:=by
 refine KZ xr.toXK ok (Ev.call hg ok hk (Evs.cons (fun frz s X=>?_) (ha _)) (ef hf) (ha _) rfl);refine tt (h frz s X) (fun v s₁ hh=>?_) fun _ _ e=>e;obtain ⟨pv,st₁,f₁,a₁,X₁,r₁,x,rfl,hl,q⟩:=hh;refine ⟨_,st₁,f₁,a₁,X₁,r₁,Evs.nil ?_⟩;refine u13 (nl (d:=d) (own:=st₁.own) (R:=fun x own'=>R x { st₁ with own:=own' }) (u:=x) hg xr hf hl) ?_;rintro v n1 n2 n3;exact (v13 v n1 n2 (n3.mono (fun v o k=>⟨_,_,k,q⟩)))
end
open Builtin Builtin.ObjectAttr
section
variable {g:Gx} {c:Cx} {A:Around} {st:St} {R:LG} {d:Nat}
theorem LX (ok:Ok g c A d) {e:Expr} {pos} {Q:LK} (hw:swapsWith e Option.none pos.line c.env=pure false) (h:Ev g c A (eval e c.env) st (fun v st'=>(∃x,v=.str x)∧Q .next st') R):Ex g c A (exec (.Expr e pos) c.env) st Q R:=fun frz s X=>by
 refine RY (tt (h frz s X) (fun v s₁ hh=>?_) fun _ _ e=>e) (show interactive c.env=false from by unfold interactive;show (c.cs.kind==ScopeKind.module&&_)=false;refine ok.kind▸?_;rfl) hw;obtain ⟨pv,st',f',a,X',r,⟨x,rfl⟩,q⟩:=hh;obtain ⟨t,rfl⟩:=r;exact ⟨.next,st',f',a,X',trivial,q⟩
inductive AttQ (C:Addr) (name:Str) (Q:LE) (v:PV) (st:St):Prop
 | mk (a:Addr) (h1:v=.ref a) (kd:Kd) (fs:List (Str×PV)) (o:AO) (ow:Own) (p:PV) (h2:OwnUpd a (an C kd fs) o st.own ow) (h3:fs.lookup name=Option.some p) (h4:Q p st)
theorem LV {env:Env} {o:Expr} {pos:Pos} {name:Str} {C:Addr} {Q:LE} (hg:GOk g) (k:CK g.K C) (hn:findIn g.K (.ref C) name=Option.some Option.none)
 (h:Ev g c A (eval o env) st (AttQ C name Q) R)
 (he:eval (.Attribute o name pos) env=(do
  let x←eval o env
  standAt pos.atName
  let r←holding [x] (getAttr x name true)
  letTemporaryGo o x r
  pure r)) :
 Ev g c A (eval (.Attribute o name pos) env) st Q R:=fun frz s X=>by
 refine Attribute_any_ (tt (h frz s X) (fun v s₁ hh=>?_) fun _ _ e=>e) he;obtain ⟨pv,st',f',a',X',r,a,rfl,kd,fs,o',ow',p,u,hl,q⟩:=hh;obtain rfl:v=.ref a:=r;exact ik hg k hn X' u hl fun v s' X2 r2=>⟨p,st',f',a',X2,r2,q⟩
theorem nj {a:Addr} {es:List (LA×PV)} {x:LA} {o':AO} {own ow':Own} {Q:Bool→Prop} (hu:OwnUpd a (aq g es) o' own ow') (q:Q (!(es.lookup x).isSome)):wr g A .NotIn (.str x) (.ref a) own Q:=by
 intro c st frz s v w E ho X r₁ r₂;subst ho;obtain rfl:w=.ref a:=r₂;obtain ⟨t,rfl⟩:=r₁;obtain ⟨hs,kvs,hd,hk,hv⟩:=X.ownDic hu;refine wpAny_notIn_of (knd:=SK g) (k:=txt x) jn hs hd.mapOf ?_;exact (v24 _ frz (Sub.refl _) (X.toks _) rfl (by refine ((nh hk hv).1)▸?_;exact q))
inductive ItQ (g:Gx) (x y:Str) (a:Addr) (n:LA) (Q:LK) (v:PV) (st:St):Prop
 | mk (h1:Look x (.ref a) st.vars) (h2:Look y (.str n) st.vars) (es:List (LA×PV)) (ow:Own) (h3:OwnUpd a (aq g es) (aq g (es++[(n,v)])) st.own ow) (h4:es.lookup n=Option.none) (h5:es.length≤1000) (h6:Q .next { st with own:=ow })
theorem Lf (ok:Ok g c A d) {x y:Str} {np yp sp pos:Pos} {e:Expr} {a:Addr} {n:LA} {Q:LK} (hs:swapsWith e (some (.Subscript (.Name x np) (.Name y yp) sp)) pos.line c.env=pure false)
 (h:Ev g c A (eval e c.env) st (ItQ g x y a n Q) R) :
 Ex g c A (exec (.Assign [.Subscript (.Name x np) (.Name y yp) sp] e pos) c.env) st Q R:=fun frz s X=>by
 refine Pn (tt (h frz s X) (fun v s₁ hh=>?_) fun _ _ e=>e) hs;obtain ⟨pv,st',f',a',X',r,hx,hy,es,ow',u,hl,hz,q⟩:=hh;refine tt (Ev.var (R:=R) ok hx (Q:=fun pv st''=>pv=.ref a∧st''=st') ⟨rfl,rfl⟩ f' s₁ X') (fun v' s₂ hh=>?_) fun _ _ e=>e.mono a';obtain ⟨pv',st'',f'',a'',X'',r',rfl,rfl⟩:=hh;obtain rfl:v'=.ref a:=r';refine tt (Ev.var (R:=R) ok hy (Q:=fun pv st3=>pv=.str n∧st3=st'') ⟨rfl,rfl⟩ f'' s₂ X'') (fun v' s₃ hh=>?_) fun _ _ e=>e.mono (Sub.trans a' a'');obtain ⟨pv',st3,f3,a3,X3,r3,rfl,rfl⟩:=hh;obtain ⟨t,rfl⟩:=r3;obtain ⟨hs,kvs,hd,hk,hv⟩:=X3.ownDic u;have hno:kvs.any (fun kv=>kv.1=txt n)=false:=by
  rw [Of];intro p hp;have hm:p.1∈kvs.map (·.1):=Ma.mpr (v12 p hp rfl);rw [hk] at hm;refine u12 (Ma.mp hm) ?_;rintro q hq e;refine e▸?_;simp only [decide_eq_true_eq];intro e';have e2:q.1=n:=by have:=congrArg (fun z:Str=>z.cps.toList) e';simpa [txt] using this
  rw [QB] at hl;exact absurd (hl q hq) (by simp [e2])
 refine RO (knd:=SK g) (k:=txt n) jn hd (fun h' hd' hsb=>?_) (by refine MQ▸?_;exact Cu hz (show kvs.length=es.length from by have:=congrArg Nf hk;simpa using this));rw [(show stored kvs (txt n) v=kvs++[(txt n,v)] from by unfold stored;rw [if_neg (by refine hno▸?_;decide)])] at hd';refine u12 (Oa.mp hd') ?_;rintro o' ho' hd'';refine ⟨.next,_,f3,Sub.trans a' (Sub.trans a'' a3),X3.setOne u (fun H e q=>by obtain ⟨_,o,_,rfl,_⟩:=q H fun _ _ _ h=>h;exact ⟨o,rfl⟩) hsb ho' (dh hs hd'' (by simp [hk]) ?_),trivial,q⟩;rw [Mz,Mz];exact hv.app ⟨v,[],rfl,r.mono (Hq.mono (Sub.trans a'' a3)),rfl⟩
theorem Lh {x:Str} {np tp vp pos:Pos} {k1:Nat} {name:Str} {a C:Addr} {kd:Kd} {fs:List (Str×PV)} {ow':Own} {i j:Int} {Q:LK} (hg:GOk g) (ok:Ok g c A d) (k:CK g.K C) (hn:findIn g.K (.ref C) name=Option.some Option.none) (hx:Look x (.ref a) st.vars)
 (u:OwnUpd a (an C kd fs) (an C kd ((name,.int (i+j))::fs)) st.own ow') (hl:fs.lookup name=Option.some (.int i)) (hz:fs.length≤100) (q:Q .next { st with own:=ow' }) :
 Ex g c A (exec (.AugAssign (.Attribute (.Name x np) name tp) .Add (.Constant (.int j) k1 vp) pos) c.env) st Q R:=fun frz s X=>by
 refine wpAny_AugAssign_AttributeAny (tt (Ev.var (R:=R) ok hx (Q:=fun pv st''=>pv=.ref a∧st''=st) ⟨rfl,rfl⟩ frz s X) (fun v' s₁ hh=>?_) fun _ _ e=>e);obtain ⟨pv',st'',f₁,a₁,X₁,r',rfl,rfl⟩:=hh;obtain rfl:v'=.ref a:=r';refine ik hg k hn X₁ u hl fun v s₂ X₂ r₂=>OO ?_;refine tt (jG (g:=g) (A:=A) (Q:=fun p=>p=.int (i+j)) rfl c st'' f₁ _ v (.int j s₂.toks) _ ok.hand (X₂.toks (s₂.toks+1)) r₂ ⟨_,rfl⟩) (fun u' s₃ hh=>?_) fun _ _ e=>e;obtain ⟨p,f₃,a₃,X₃,r₃,rfl⟩:=hh;exact kZ hg k.toCX hn X₃ u hz r₃ fun s₄ X₄=>⟨.next,_,f₃,Sub.trans a₁ a₃,X₄,trivial,q⟩
theorem jz {C fI:Addr} (hg:GOk g) (mk:makesIn g.K C=true) (hi:findIn g.K (.ref C) "__init__" = some (some (.ref fI))) (hf:typeIn g.K (.ref fI)=some (.type "function")) {args:LB} {own:Own} {Q:LH} {R:LI}
 (h:∀x,CallK g d (.ref fI) (.ref x::args) ((x,an C .plain [])::own) (fun v o=>v=.none∧Q (.ref x) o) R):CallV g (d+1) (.ref C) args own Q R:=by
 intro c A st frz s vs ok hown X r;obtain ⟨⟨m,ow,frs,C'⟩,nn,lc⟩:=id X;refine QH (make_K C'.F C'.N (hg.X.keeps X.keep) mk hi hf fun x dx h' F' N' hlt hdx=>?_);have hx:∀p∈ow++(frz++frs),p.1≠x∧p.1≠dx:=fun p hp=>⟨Nh (PM (hlt p hp) hdx),Nh (hlt p hp)⟩
 have nd':(((x,instObj C dx)::(dx,emptyDict)::(ow++(frz++frs))).map (·.1)).Nodup:=by
  simp only [Mu];refine Mt.mpr ⟨fun hm=>?_,Mt.mpr ⟨fun hm=>?_,C'.nd⟩⟩
  ·refine Mx (Me.mp hm) (fun e=>?_) fun hm=>?_
   ·exact absurd e (NV hdx)
   ·refine u12 (Ma.mp hm) ?_;rintro p hp e;exact (hx p hp).1 e
  ·refine u12 (Ma.mp hm) ?_;rintro p hp e;exact (hx p hp).2 e
 have X':S g c { st with own:=(x,an C .plain [])::st.own } frz { s with heap:=h' }:=
  ⟨⟨m,[(x,instObj C dx),(dx,emptyDict)]++ow,frs,⟨F',N',nd',C'.SU,⟨[(x,instObj C dx),(dx,emptyDict)],ow,rfl,fun H' _=>⟨.plain,#[],rfl,.inr dx emptyDict rfl ⟨#[],0,rfl,fun e he=>absurd he (by simp),List.Pairwise.nil,fun _=>trivial⟩⟩,C'.O⟩,C'.V⟩⟩,nn,lc⟩
 refine codeAny_mono (h x c _ _ frz _ (.ref x::vs) ok.under (by exact hown▸rfl) X' ⟨_,_,rfl,rfl,r⟩) fun r' s' hh=>?_;cases r' with
 | error e=>exact hh
 | ok v=>cases v with
  | ret v=>
   obtain ⟨pv,own',f',a,X2,r2,rfl,q⟩:=hh;exact ⟨r2,.ref x,own',f',a,X2,rfl,q⟩
  | _=>exact hh.elim
theorem MethE.cls {env:Env} {x name:Str} {pos:Pos} {C:Addr} {mc:Value} {f:Addr} {Q:Value→LB→St→Prop} (hg:GOk g) (hk:EnvG env x) (hn:g.mg x=Option.some (.ref C)) (h1:specialIn g.K (.ref C) "__getattribute__" = Option.some (Option.some (.builtin "type.__getattribute__")))
 (h2:typeIn g.K (.ref C)=Option.some mc) (h3:readsIn g.K C mc=true) (h4:findCls g.K (.ref C) mc name=Option.some (.val (.ref f))) (hk':KeepOk g (.ref f)) (q:Q (.ref f) [] st):MethE g c A (eval (.Name x pos) env) name st Q R:=
 MethE.glob hg hk (.inl hn) hk' (fun frz s X pl E Q' hq=>by
  obtain ⟨m,F⟩:=X.fr;exact method_of_cls F hg.X h1 (cls_val F hg.X h2 h3 h4 rfl (hq _))) q
end
open Builtin Builtin.ObjectAttr
theorem OwnR.perm {H:Hp} {o o':Own} (p:o.Perm o'):∀{es:Led},OwnR H o es→∃es',OwnR H o' es'∧es.Perm es':=by
 induction p with
 | nil=>exact fun h=>(v12 _ h (.refl _))
 | cons x _ ih=>
  rintro es ⟨e1,e2,rfl,h1,h2⟩;refine u12 (ih h2) ?_;rintro e2' h3 p;exact (v12 (e1++e2') ⟨e1,e2',rfl,h1,h3⟩ (p.append_left _))
 | swap x y l=>
  rintro es ⟨e1,_,rfl,h1,e2,e3,rfl,h2,h3⟩;refine (v12 (e2++(e1++e3)) ⟨e2,_,rfl,h2,e1,e3,rfl,h1,h3⟩ ?_);rw [←Mb,←Mb];exact QI.append_right _
 | trans _ _ ih1 ih2=>
  intro es h;refine u12 (ih1 h) ?_;rintro e1 h1 p1;refine u12 (ih2 h1) ?_;rintro e2 h2 p2;exact (v12 e2 h2 (p1.trans p2))
theorem OwnR.unapp {H:Hp}:∀{o₁ o₂:Own} {es:Led},OwnR H (o₁++o₂) es→∃e₁ e₂,es=e₁++e₂∧OwnR H o₁ e₁∧OwnR H o₂ e₂:=by
 intro o₁
 induction o₁ with
 | nil=>exact fun h=>⟨[],_,rfl,rfl,h⟩
 | cons p o ih=>
  intro _ _ h;obtain ⟨e1,e2,rfl,h1,h2⟩:=h;refine u23 (ih h2) ?_;rintro f1 f2 rfl h3 h4;exact ⟨e1++f1,f2,by rw [Mb],⟨e1,f1,rfl,h1,h3⟩,h4⟩
def Less (o o':Own):Prop:=∀H es,OwnR H o es→∃z es',OwnR H o' es'∧es.Perm (z++es')
theorem Less.of {o o':Own} (h:∀H es,OwnR H o es→OwnR H o' es):Less o o':=fun H es k=>(v22 [] es (h H es k) (.refl _))
theorem Less.refl (o:Own):Less o o:=.of fun _ _ h=>h
theorem Less.trans {a b c:Own} (h:Less a b) (k:Less b c):Less a c:=fun H es x=>by
 refine u22 (h H es x) ?_;rintro z e1 h1 p1;refine u22 (k H e1 h1) ?_;rintro y e2 h2 p2;exact ⟨z++y,e2,h2,p1.trans (by rw [Mb];exact p2.append_left z)⟩
theorem Less.perm {o o':Own} (p:o.Perm o'):Less o o':=fun H es h=>by obtain ⟨e,h1,p1⟩:=h.perm p;exact ⟨[],e,h1,p1⟩
theorem Less.drop (z o:Own):Less (z++o) o:=fun H es h=>by obtain ⟨e1,e2,e,_,h2⟩:=h.unapp;exact ⟨e1,e2,h2,e▸.refl _⟩
theorem Less.obj {a:Addr} {o o':AO} (z r:Own) (k:∀H e,AORep H a o e→AORep H a o' e):Less (z++(a,o)::r) (z++(a,o')::r):=.of fun H es h=>by
 obtain ⟨e1,_,rfl,h1,e2,e3,rfl,h2,h3⟩:=h.unapp;exact h1.app ⟨e2,e3,rfl,k _ _ h2,h3⟩
section
variable {g:Gx} {c:Cx} {A:Around} {st:St} {R:LG} {d:Nat}
theorem Core.less {vars:aM} {o o':Own} {frz:Led} {h:Heap} {m:LN} {own frs:Led} (C:Core g c ⟨vars,o⟩ frz h m own frs) (l:Less o o'):∃e,(∀p∈e,p∈own)∧Core g c ⟨vars,o'⟩ frz h m e frs:=by
 obtain ⟨F,N,nd,SU,O,V⟩:=C;refine u22 (l _ _ O) ?_;rintro z e O' p;have sub:∀q∈e,q∈own:=fun q hq=>p.mem_iff.mpr (LZ _ hq);refine ⟨e,sub,F,fun q hq=>N q ?_,?_,SU,O',V⟩
 ·rcases Mi.mp hq with hq|hq
  ·exact Mc _ (sub q hq)
  ·exact LZ _ hq
 ·have:=((p.append_right (frz++frs)).map (·.1)).nodup_iff.mp nd;rw [Mb,Mz] at this;exact (MH.mp this).2.1
theorem S.less {vars:aM} {o o':Own} {frz:Led} {s:Shared} (X:S g c ⟨vars,o⟩ frz s) (l:Less o o'):S g c ⟨vars,o'⟩ frz s:=by
 obtain ⟨⟨m,own,frs,C⟩,nn,lc⟩:=X;refine u12 (C.less l) ?_;rintro e _ C';exact ⟨⟨m,e,frs,C'⟩,nn,lc⟩
theorem SX.less {vars:aM} {o o':Own} {frz:Led} {s:Shared} {e:Addr} {x:XC} {fl:Option Value} (X:SX g c ⟨vars,o⟩ frz s e x fl) (l:Less o o'):SX g c ⟨vars,o'⟩ frz s e x fl:=by
 obtain ⟨⟨m,own,frs,C,L⟩,nn,lc⟩:=X;refine u12 (C.less l) ?_;rintro e₂ hs C';have sub:∀p,p∈e₂++(frz++frs)→p∈own++(frz++frs):=fun p hp=>by
  refine Mx (Mi.mp hp) (fun hp=>?_) fun hp=>?_
  ·exact Mc _ (hs p hp)
  ·exact LZ _ hp
 obtain ⟨⟨oe,vs,dd,od,k1,k2,k3,k4,k5,k6,k7,k8⟩,lb,ll,lled⟩:=L;refine ⟨⟨m,e₂,frs,C',⟨⟨oe,vs,dd,od,k1,k2,k3,k4,k5,?_,k7,k8⟩,lb,ll,fun p hp=>lled p (sub p hp)⟩⟩,nn,lc⟩;cases fl with
 | none=>exact k6
 | some fl=>
  obtain ⟨T,oT,ts,t1,t2,t3,t4,t5,t6,t7,t8⟩:=k6;exact ⟨T,oT,ts,t1,t2,t3,t4,t5,t6,t7,fun p hp=>t8 p (sub p hp)⟩
theorem CallV.less {fv:Value} {args:LB} {own:Own} {Q Q':LH} {R R':LI} (h:CallV g d fv args own Q R) (k:∀v o,Q v o→∃o',Less o o'∧Q' v o') (k':∀x o,R x o→∃o',Less o o'∧R' x o'):CallV g d fv args own Q' R':=
 fun c A st frz s vs ok ho X r=>tt (h c A st frz s vs ok ho X r) (fun v s' hh=>by
  obtain ⟨pv,own',frz',a,X',r',q⟩:=hh;refine u12 (k _ _ q) ?_;rintro o' l q';exact ⟨pv,o',frz',a,X'.less l,r',q'⟩) fun v s' hh=>by
  obtain ⟨e,x,st',f',fl,h1,h2,h3,h4,h5,h6⟩:=hh;obtain ⟨vars',own'⟩:=st';refine u12 (k' _ _ h6) ?_;rintro o' l q';exact ⟨e,x,⟨vars',o'⟩,f',fl,h1,h2,SX.less h3 l,h4,h5,q'⟩
noncomputable def jA (P:Addr→Own→Prop):AO:=.obj fun H a e=>∃ow,P a ow∧OwnR H ow e
theorem S.open {vars:aM} {z r:Own} {a:Addr} {P:Addr→Own→Prop} {frz:Led} {s:Shared} (X:S g c ⟨vars,z++(a,jA P)::r⟩ frz s):∃ow,P a ow∧S g c ⟨vars,z++(ow++r)⟩ frz s:=by
 obtain ⟨⟨m,own,frs,F,N,nd,SU,O,V⟩,nn,lc⟩:=X;obtain ⟨e1,_,rfl,h1,e2,e3,rfl,h2,h3⟩:=O.unapp;refine u12 (h2 _ fun _ _ _ h=>h) ?_;rintro ow hp h4;exact ⟨ow,hp,⟨m,_,frs,F,N,nd,SU,h1.app (h4.app h3),V⟩,nn,lc⟩
theorem KN {z r ow:Own} {a:Addr} {P:Addr→Own→Prop} (hp:P a ow):Less (z++(ow++r)) (z++(a,jA P)::r):=.of fun H es h=>by
 refine u23 h.unapp ?_;rintro e1 _ rfl h1 h2;refine u23 h2.unapp ?_;rintro e2 e3 rfl h3 h4;exact h1.app ⟨e2,e3,rfl,fun H' k=>(v12 ow hp (h3.monoT k)),h4⟩
theorem KU {fv:Value} {args:LB} {z r:Own} {a:Addr} {P:Addr→Own→Prop} {Q:LH} {R:LI} (h:∀ow,P a ow→CallV g d fv args (z++(ow++r)) Q R):CallV g d fv args (z++(a,jA P)::r) Q R:=
 fun c A st frz s vs ok ho X rr=>by
  obtain ⟨vars,own⟩:=st;dsimp only at ho;subst ho;refine u12 X.open ?_;rintro ow hp X';exact h ow hp c A ⟨vars,z++(ow++r)⟩ frz s vs ok rfl X' rr
theorem OwnUpd.at {a:Addr} {o o':AO} {x y:Own} (h:OwnUpd a o o' x y):∃z r,x=z++(a,o)::r∧y=z++(a,o')::r:=by
 induction h with
 | here=>exact (v22 [] _ rfl rfl)
 | there _ ih=>obtain ⟨z,r,h1,h2⟩:=ih;exact (v22 (_::z) r (by rw [h1];rfl) (by rw [h2];rfl))
end
open Builtin Builtin.ObjectAttr
structure HA where
 cS:Addr
 cH:Addr
 cV:Addr
 fSI:Addr
 fHI:Addr
 fVI:Addr
 fHas:Addr
 fPl:Addr
 fRV:Addr
 fWV:Addr
 fR:Addr
 fW:Addr
noncomputable def ki:List (Str×Src):=[("tools",.dct),("inline",.dct),("limit",.arg "limit"),("fuel",.arg "fuel"),("depth",.con (.int 0)),("spent",.con (.int 0)),("epoch",.con (.int 0)),("frame",.con .none),("coroutine",.con .none)]
noncomputable def jU:List (Str×Src):=[("vars",.dct),("commands",.dct),("firsts",.dct)]
noncomputable def jO:List (Str×Src):=[("kind",.con (.str ("none" : Str).cps.toList)),("value",.con (.str [])),("traces",.lst),("is_busy",.con (.bool false)),("is_element",.con (.bool false)),("writes",.con (.int 0))]
theorem sO:InitL (am 51 0).1 ki:=.cons .dct (.cons .dct (.cons .arg (.cons .arg (.cons .int (.cons .int (.cons .int (.cons .none (.cons .none .nil))))))))
theorem qZ:InitL (am 49 0).1 jO:=.cons .str (.cons .str (.cons .lst (.cons .bool (.cons .bool (.cons .int .nil)))))
def locs (f:LT×Scope) (l:LP):Prop:=∀x∈l,(x,NameKind.local)∈f.2.names
theorem gw:locs (am 51 0) ["self","limit","fuel"]∧locs (am 49 0) ["self"]∧locs (am 57 0) ["self","limit","fuel"]∧(("Host" : Str),NameKind.globalImplicit)∈(am 57 0).2.names:=by unfold locs;decide +kernel
theorem dY:locs (am 57 1) ["self","name"]∧locs (am 57 2) ["self","name"]∧locs (am 57 3) ["self","var","name"]∧locs (am 57 4) ["self","var","name","value"]∧locs (am 57 5) ["self","name"]∧locs (am 57 6) ["self","name","value"]:=by unfold locs;decide +kernel
theorem lf:locs (aj 53) ["book","name"]∧locs (aj 54) ["var","kind","value"]∧(("Var" : Str),NameKind.globalImplicit)∈(aj 53).2.names∧(("var_in" : Str),NameKind.globalImplicit)∈(am 57 2).2.names∧(("put_value" : Str),NameKind.globalImplicit)∈(am 57 4).2.names:=by unfold locs;decide +kernel
noncomputable def aN (k t:LA) (i:Int):List (Str×PV):=[("writes",.int i),("is_element",.bool false),("is_busy",.bool false),("traces",.lst []),("value",.str t),("kind",.str k)]
noncomputable abbrev je:LA:=("none" : Str).cps.toList
noncomputable abbrev bm:LA:=("scalar" : Str).cps.toList
inductive VarsP (h:HA):List (LA×PV)→aS→Own→Prop
 | nil:VarsP h [] [] []
 | cons {n t:LA} {v:Addr} {i:Int} {es:List (LA×PV)} {bk:aS} {vs:Own}:VarsP h es bk vs→VarsP h ((n,.ref v)::es) ((n,t)::bk) ((v,an h.cV .plain (aN bm t i))::vs)
def HF (fs:List (Str×PV)) (dv:Addr):Prop:=fs.lookup ("vars" : Str)=some (.ref dv)∧∀m∈(["has","place","read_var","write_var","read","write"]:LP),fs.lookup m=none
def jJ (g:Gx) (h:HA) (bk:aS) (x:Addr) (ow:Own):Prop:=∃fs dv es vs,ow=(x,an h.cS .plain fs)::(dv,aq g es)::vs∧HF fs dv∧VarsP h es bk vs∧(es.map (·.1)).Nodup
structure HK (g:Gx) (a:HA):Prop where
 host:∀bk,g.host bk=jA (jJ g a bk)
 sysm:sysModules<g.base.objs.size
 kS:CK g.K a.cS
 kV:CK g.K a.cV
 keepS:keepIn g.K (.ref a.cS)=true
 keepV:keepIn g.K (.ref a.cV)=true
 nS:g.mg "SmallHost" = some (.ref a.cS)
 nH:g.mg "Host" = some (.ref a.cH)
 nV:g.mg "Var" = some (.ref a.cV)
 mkS:makesIn g.K a.cS=true
 mkV:makesIn g.K a.cV=true
 iS:findIn g.K (.ref a.cS) "__init__" = some (some (.ref a.fSI))
 iV:findIn g.K (.ref a.cV) "__init__" = some (some (.ref a.fVI))
 tS:typeIn g.K (.ref a.fSI)=some (.type "function")
 tV:typeIn g.K (.ref a.fVI)=some (.type "function")
 hI:specialIn g.K (.ref a.cH) "__getattribute__" = some (some (.builtin "type.__getattribute__"))∧∃mc,typeIn g.K (.ref a.cH)=some mc∧readsIn g.K a.cH mc=true∧findCls g.K (.ref a.cH) mc "__init__" = some (.val (.ref a.fHI))
 aSI:FnA g a.fSI ["self","limit","fuel"] [.int 40,.none] (am 57 0).1 (am 57 0).2
 aHI:FnA g a.fHI ["self","limit","fuel"] [] (am 51 0).1 (am 51 0).2
 aVI:FnA g a.fVI ["self"] [] (am 49 0).1 (am 49 0).2
 aHas:FnA g a.fHas ["self","name"] [] (am 57 1).1 (am 57 1).2
 aPl:FnA g a.fPl ["self","name"] [] (am 57 2).1 (am 57 2).2
 aRV:FnA g a.fRV ["self","var","name"] [] (am 57 3).1 (am 57 3).2
 aWV:FnA g a.fWV ["self","var","name","value"] [] (am 57 4).1 (am 57 4).2
 aR:FnA g a.fR ["self","name"] [] (am 57 5).1 (am 57 5).2
 aW:FnA g a.fW ["self","name","value"] [] (am 57 6).1 (am 57 6).2
 meth:∀p∈[(("has" : Str),a.fHas),("place",a.fPl),("read_var",a.fRV),("write_var",a.fWV),("read",a.fR),("write",a.fW)],findIn g.K (.ref a.cS) p.1=some (some (.ref p.2))∧typeIn g.K (.ref p.2)=some (.type "function")
 fldS:∀p∈ki++jU,findIn g.K (.ref a.cS) p.1=some none
 fldV:∀p∈jO,findIn g.K (.ref a.cV) p.1=some none
 varIn:gb g "var_in" ["book","name"] (aj 53).1 (aj 53).2
 put:gb g "put_value" ["var","kind","value"] (aj 54).1 (aj 54).2
noncomputable def mV (l f:PV) (b1 b2:Addr):List (Str×PV):=[("coroutine",.none),("frame",.none),("epoch",.int 0),("spent",.int 0),("depth",.int 0),("fuel",f),("limit",l),("inline",.ref b2),("tools",.ref b1)]
noncomputable def jR (b1 b2 b3 b4 b5:Addr):List (Str×PV):=("firsts",.ref b5)::("commands",.ref b4)::("vars",.ref b3)::mV (.int 40) .none b1 b2
theorem mo:∀m∈(["has","place","read_var","write_var","read","write"]:LP),m∉(["firsts","commands","vars","coroutine","frame","epoch","spent","depth","fuel","limit","inline","tools"]:LP):=by decide +kernel
section
variable {g:Gx} {c:Cx} {A:Around} {st:St} {R:LG} {d:Nat} {h:HA}
theorem KH {a:Addr} {ps:LP} {ds:LB} {body:LT} {scope:Scope} (hf:FnA g a ps ds body scope):KeepOk g (.ref a):=by obtain ⟨_,_,h2,h3,_,_,_,_,_,_,_⟩:=hf.ex;exact KeepOk.fn h2 h3
theorem tL (hg:GOk g) (k:HK g h) {own:Own} {Q:LH} {R:LI} (q:∀v,Q (.ref v) ((v,an h.cV .plain (aN je [] 0))::own)):CallN g (d+2) "Var" [] own Q R:=
 ⟨_,.inl k.nV,KeepOk.cls hg k.keepV,jz hg k.mkV k.iV k.tV fun v=>eQ (others:=[]) hg k.aVI rfl (by decide) gw.2.1 fun c A ok hc=>
  Ex.mono (fq (kd:=.plain) (z:=[]) hg k.sysm ok k.kV.toCX .here qZ k.fldV (by decide) (K:=fun fs z=>z=[]∧fs=aN je [] 0) ⟨rfl,rfl⟩) fun f st' hh=>by
   obtain ⟨hf,fs,z,hst,hz,hx⟩:=hh;subst hf hst hz hx;exact ⟨rfl,q v⟩⟩
theorem iO (hg:GOk g) (k:HK g h) {own:Own} {x:Addr} {l f:PV} {R:LI}:CallV g (d+1) (.ref h.fHI) [.ref x,l,f] ((x,an h.cS .plain [])::own)
 (fun v o=>v=.none∧∃b1 b2,o=[(b2,aq g []),(b1,aq g [])]++(x,an h.cS .plain (mV l f b1 b2))::own) R:=
 bt (others:=[]) hg k.aHI rfl (by decide) gw.1 fun c A ok hc=>
  Ex.mono (fq (kd:=.plain) (z:=[]) hg k.sysm ok k.kS.toCX .here sO (fun p hp=>k.fldS p (Mc _ hp)) (by decide)
   (K:=fun fs z=>∃b1 b2,z=[(b2,aq g []),(b1,aq g [])]∧fs=mV l f b1 b2)
   fun b1 b2=>⟨_,.there .here,_,.there (.there .here),b1,b2,rfl,rfl⟩) fun f st' hh=>by
   obtain ⟨hf,fs,z,hst,b1,b2,hz,hx⟩:=hh;subst hf hst hz hx;exact ⟨rfl,b1,b2,rfl⟩
inductive SmQ (g:Gx) (h:HA) (own:Own) (v:PV) (o:Own):Prop
 | mk (x b1 b2 b3 b4 b5:Addr) (h1:v=.ref x) (h2:o=[(b5,aq g []),(b4,aq g []),(b3,aq g []),(b2,aq g []),(b1,aq g [])]++(x,an h.cS .plain (jR b1 b2 b3 b4 b5))::own)
inductive SmK (g:Gx) (b1 b2:Addr) (fs:List (Str×PV)) (z:Own):Prop
 | mk (b3 b4 b5:Addr) (h1:z=[(b5,aq g []),(b4,aq g []),(b3,aq g []),(b2,aq g []),(b1,aq g [])]) (h2:fs=jR b1 b2 b3 b4 b5)
theorem iD (hg:GOk g) (k:HK g h) {own:Own} {R:LI}:CallN g (d+3) "SmallHost" [] own (fun v o=>∃x,v=.ref x∧o=(x,g.host [])::own) R:=by
 refine ⟨_,.inl k.nS,KeepOk.cls hg k.keepS,CallV.less (Q:=SmQ g h own) (R:=R) ?_ (fun v o hh=>?_) fun x o hh=>⟨o,.refl _,hh⟩⟩
 ·refine jz hg k.mkS k.iS k.tS fun x=>eQ (others:=[]) hg k.aSI rfl (by decide) gw.2.2.1 fun c A ok hc=>?_;refine Ex.at (b':=.Expr (.Call (.Attribute (.Name "Host" _) "__init__" _) [.Name "self" _,.Name "limit" _,.Name "fuel" _] [] _) _::(am 57 0).1.tail) rfl ?_;obtain ⟨h1,mc,h2,h3,h4⟩:=k.hI;refine Ex.cons (Ex.eff ok rfl (Ev.meth ok rfl rfl rfl rfl rfl (MethE.cls hg (ok.envG (by refine hc▸?_;exact gw.2.2.2)) k.nH h1 h2 h3 h4 (KH k.aHI)
   (Evs.cons (Ev.var ok .here (Evs.cons (Ev.var ok (.there .here) (Evs.cons (Ev.var ok (.there (.there .here)) (Evs.nil ((iO hg k).mono fun v o hh=>?_))) rfl)) rfl)) rfl))))
  obtain ⟨hv,b1,b2,rfl⟩:=hh;refine ⟨hv,?_⟩;refine Ex.mono (fq (kd:=.plain) (z:=[(b2,aq g []),(b1,aq g [])]) hg k.sysm ok k.kS.toCX .here (show InitL (am 57 0).1.tail jU from .cons .dct (.cons .dct (.cons .dct .nil))) (fun p hp=>k.fldS p (LZ _ hp)) (by show 12≤100;exact HW)
   (K:=SmK g b1 b2) fun b3 b4 b5=>⟨b3,b4,b5,rfl,rfl⟩) fun f st' hh=>?_
  obtain ⟨rfl,fs,z,rfl,b3,b4,b5,rfl,rfl⟩:=hh;exact ⟨rfl,x,b1,b2,b3,b4,b5,rfl,rfl⟩
 ·obtain ⟨x,b1,b2,b3,b4,b5,rfl,rfl⟩:=hh;refine ⟨_,Less.trans (Less.perm (o':=[(b5,aq g []),(b4,aq g []),(b2,aq g []),(b1,aq g [])]++([]++([(x,an h.cS .plain (jR b1 b2 b3 b4 b5)),(b3,aq g [])]++own))) ?_) (Less.trans (Less.drop _ _) (KN (a:=x) (P:=jJ g h []) ?_)),x,rfl,by rw [k.host];rfl⟩
  ·simp only [MD,MT];refine .cons _ (.cons _ ?_);exact (Nv (l₁:=[(b2,aq g []),(b1,aq g []),(x,_)]) (l₂:=own)).symm
  ·exact ⟨_,b3,[],[],rfl,⟨rfl,fun m hm=>gh (mo m hm)⟩,.nil,NP⟩
end
open Builtin Builtin.ObjectAttr
section
variable {g:Gx} {c:Cx} {A:Around} {st:St} {R:LG} {d:Nat} {h:HA}
inductive PlaceQ (g:Gx) (h:HA) (es:List (LA×PV)) (n:LA) (own:List (LA×PV)→Own) (v:PV) (o:Own):Prop
 | old (q:es.lookup n=some v) (ho:o=own es)
 | new (q:es.lookup n=none) (x:Addr) (hv:v=.ref x) (ho:o=(x,an h.cV .plain (aN je [] 0))::own (es++[(n,.ref x)]))
theorem lC {es:List (LA×PV)} {n:LA} {p:PV} (hl:es.lookup n=none):(es++[(n,p)]).lookup n=some p:=by
 rw [List.lookup_append,hl];simp
theorem nr (hg:GOk g) (k:HK g h) {z rest:Own} {dv:Addr} {n:LA} {es:List (LA×PV)} {R:LI} (hz:es.length≤1000) :
 CallN g (d+3) "var_in" [.ref dv,.str n] (z++(dv,aq g es)::rest) (PlaceQ g h es n fun es=>z++(dv,aq g es)::rest) R:=by
 refine cv [] hg k.varIn rfl (by decide) lf.1 fun c A ok hc=>?_;refine Ex.at (b':=[.If (.Compare (.Name "name" _) [.NotIn] [.Name "book" _] _) [.Assign [.Subscript (.Name "book" _) (.Name "name" _) _] (.Call (.Name "Var" _) [] [] _) _] [] _,.Return (some (.Subscript (.Name "book" _) (.Name "name" _) _)) _]) rfl ?_;have last:∀{p11 p12 p13 p14:Pos} (es':List (LA×PV)) (y:Own) (q:PV),es'.lookup n=some q→PlaceQ g h es n (fun es=>z++(dv,aq g es)::rest) q (y++(z++(dv,aq g es')::rest))→
  Ex g c A (execs [.Return (some (.Subscript (.Name "book" p11) (.Name "name" p12) p13)) p14] c.env) ⟨dG ["book","name"] [.ref dv,.str n]++bF [],y++(z++(dv,aq g es')::rest)⟩ (iL (PlaceQ g h es n fun es=>z++(dv,aq g es)::rest)) (fun x st'=>R x st'.own):=fun es' y q hq hQ=>by
  have u:=KC (o:=aq g es') (o':=aq g es') (a:=dv) (y++z) rest;simp only [Mb] at u;exact Ex.cons (rest:=[]) (Ex.ret (Ev.sub ok (Ev.var ok .here (Ev.var ok (.there .here) (kh u hq hQ)))))
 refine Ex.cons (Ex.ite (Tst.cmpO (Ev.var ok (.there .here) (Ev.var ok .here (nj (KC (o:=aq g es) (o':=aq g es) (a:=dv) z rest) ?_))) rfl));cases hl:es.lookup n with
 | some q=>exact KT (Ex.nil (last es [] q hl (.old hl rfl)))
 | none=>
  refine Lq (Ex.cons (rest:=[]) (Lf (a:=dv) (n:=n) ok rfl (KM hg ok (ok.envG (by refine hc▸?_;exact lf.2.2.1)) ?_)));exact tL hg k fun x=>⟨.here,.there .here,es,_,.there (KC z rest),hl,hz,Ex.nil (last _ [(x,an h.cV .plain (aN je [] 0))] _ (lC hl) (.new hl x rfl rfl))⟩
theorem sh (a:Addr) (o:AO) (z r:Own):OwnUpd a o o (z++(a,o)::r) (z++(a,o)::r):=KC z r
theorem HF.none_of {fs:List (Str×PV)} {dv:Addr} {m:Str} (hf:HF fs dv) (hm:m∈(["has","place","read_var","write_var","read","write"]:LP)):fs.lookup m=none:=hf.2 m hm
theorem iB (hg:GOk g) (k:HK g h) {z rest:Own} {x dv:Addr} {fs:List (Str×PV)} {n:LA} {es:List (LA×PV)} {R:LI} (hf:HF fs dv) (hz:es.length≤1000) :
 CallV g (d+4) (.ref h.fPl) [.ref x,.str n] (z++(x,an h.cS .plain fs)::(dv,aq g es)::rest) (PlaceQ g h es n fun es=>z++(x,an h.cS .plain fs)::(dv,aq g es)::rest) R:=by
 refine bt (others:=[]) hg k.aPl rfl (by decide) dY.2.1 fun c A ok hc=>?_;refine Ex.at (b':=[.Return (some (.Call (.Name "var_in" _) [.Attribute (.Name "self" _) "vars" _,.Name "name" _] [] _)) _]) rfl ?_;refine Ex.cons (rest:=[]) (Ex.ret (Ev.call hg ok (ok.envG (by refine hc▸?_;exact lf.2.2.2.1)) (Evs.cons (KK hg k.kS (k.fldS ("vars",.dct) (LZ _ (.head _))) (Ev.var ok .here ⟨rfl,.plain,fs,_,_,_,sh x _ z _,hf.1,Evs.cons (Ev.var ok (.there .here) (Evs.nil ?_)) rfl⟩)) rfl) (ef k.varIn)));have:=nr (d:=d) (z:=z++[(x,an h.cS .plain fs)]) (rest:=rest) (dv:=dv) (n:=n) (es:=es) (R:=R) hg k hz;simp only [Mb,MD,MT] at this;exact this
theorem pe (k t k0 t0:LA) (i:Int) (y:Str):(("writes",.int (i+1))::("value",.str t)::("kind",.str k)::aN k0 t0 i:List (Str×PV)).lookup y=(aN k t (i+1)).lookup y:=by
 unfold aN;by_cases h1:y = "writes"
 ·subst h1;rfl
 by_cases h2:y = "value"
 ·subst h2;rfl
 by_cases h3:y = "kind"
 ·subst h3;rfl
 simp only [Mn,beq_eq_false_iff_ne.mpr h1,beq_eq_false_iff_ne.mpr h2,beq_eq_false_iff_ne.mpr h3]
theorem pO {C:Addr} {kd:Kd} {fs fs':List (Str×PV)} (h0:fs≠[]) (he:∀y,fs.lookup y=fs'.lookup y) (H:Hp) (a:Addr) (e:Led) (h:AORep H a (an C kd fs) e):AORep H a (an C kd fs') e:=fun H' k=>by
 obtain ⟨da,sl,h1,h2⟩:=h H' k;rcases h2 with ⟨h2,_⟩|⟨dd,od,h2,es,ep,h3,h4,h5,h6⟩
 ·exact absurd h2 h0
 ·exact ⟨da,sl,h1,.inr dd od h2 ⟨es,ep,h3,h4,h5,fun y=>he y▸h6 y⟩⟩
theorem tJ (hg:GOk g) (k:HK g h) {z rest:Own} {x:Addr} {kd t k0 t0:LA} {i:Int} {Q:LH} {R:LI} (q:Q (.str t) (z++(x,an h.cV .plain (aN kd t (i+1)))::rest)) (kr:∀x o,R x o→∃o',Less o o'∧R x o') :
 CallN g (d+1) "put_value" [.ref x,.str kd,.str t] (z++(x,an h.cV .plain (aN k0 t0 i))::rest) Q R:=by
 obtain ⟨v,n1,n2,n3⟩:=cv (d:=d) (own:=z++(x,an h.cV .plain (aN k0 t0 i))::rest) (args:=[.ref x,.str kd,.str t]) (Q:=fun v o=>v=.str t∧o=z++(x,an h.cV .plain (("writes",.int (i+1))::("value",.str t)::("kind",.str kd)::aN k0 t0 i))::rest) (R:=R) [] hg k.put rfl (by decide) lf.2.1 fun c A ok hc=>by
  refine Ex.at (b':=[.Assign [.Attribute (.Name "var" _) "kind" _] (.Name "kind" _) _,.Assign [.Attribute (.Name "var" _) "value" _] (.Name "value" _) _,.AugAssign (.Attribute (.Name "var" _) "writes" _) .Add (.Constant (.int 1) _ _) _,.Return (some (.Name "value" _)) _]) rfl ?_;refine Ex.cons (KD hg ok k.kV.toCX (k.fldV (("kind",.con (.str ("none" : Str).cps.toList))) (.head _)) rfl (Ev.var ok (.there .here) ⟨.here,.plain,_,_,KC z rest,(by show 6≤100;exact HV),?_⟩));refine Ex.cons (KD hg ok k.kV.toCX (k.fldV (("value",.con (.str []))) (.tail _ (.head _))) rfl (Ev.var ok (.there (.there .here)) ⟨.here,.plain,_,_,KC z rest,(by show 7≤100;exact HU),?_⟩));refine Ex.cons (Lh hg ok k.kV (k.fldV (("writes",.con (.int 0))) (.tail _ (.tail _ (.tail _ (.tail _ (.tail _ (.head _))))))) .here (KC z rest) rfl (by show 8≤100;exact HT) ?_);exact Ex.cons (rest:=[]) (Ex.ret (Ev.var ok (.there (.there .here)) ⟨rfl,rfl⟩))
 exact (v13 v n1 n2 (n3.less (fun v o hh=>by obtain ⟨h1,h2⟩:=hh;exact (v12 _ (h2▸Less.obj z rest (fun H e=>pO (by simp) (pe kd t k0 t0 i) H x e)) (h1▸q))) kr))
end
open Builtin Builtin.ObjectAttr
theorem sv {bk:aS} {n t':LA} (h:bk.any (·.1==n)=false):bk.map (fun p=>if p.1==n then (n,t') else p)=bk:=by
 induction bk with
 | nil=>rfl
 | cons p bk ih=>
  rw [Np,MS] at h;rw [Mu,ih h.2,h.1];rfl
theorem VarsP.none {h:HA} {n:LA} {es:List (LA×PV)} {bk:aS} {vs:Own} (v:VarsP h es bk vs) (hl:es.lookup n=none):bk.lookup n=none∧bk.any (·.1==n)=false:=by
 induction v with
 | nil=>exact ⟨rfl,rfl⟩
 | @cons m _ _ _ _ _ _ _ ih=>
  rw [Mn] at hl;cases hb:n==m with
  | true=>replace hl:=hb▸hl;injection hl
  | false=>
   replace hl:=hb▸hl;have h1:=ih hl;exact ⟨by rw [Mn,hb];exact h1.1,by rw [Np,(show (m==n)=false from by rw [beq_eq_false_iff_ne] at hb⊢;exact hb.symm),h1.2];rfl⟩
theorem VarsP.keys {h:HA} {es:List (LA×PV)} {bk:aS} {vs:Own} (v:VarsP h es bk vs):es.map (·.1)=bk.map (·.1):=by
 induction v with
 | nil=>rfl
 | cons _ ih=>rw [Mu,Mu,ih]
inductive SomeV (h:HA) (n:LA) (q:PV) (es:List (LA×PV)) (bk:aS) (vs:Own):Prop
 | mk (v:Addr) (t:LA) (i:Int) (vs1 vs2:Own) (h1:q=.ref v) (h2:bk.lookup n=some t) (h3:bk.any (·.1==n)=true) (h4:vs=vs1++(v,an h.cV .plain (aN bm t i))::vs2)
  (h5:∀t' i',VarsP h es (bk.map fun p=>if p.1==n then (n,t') else p) (vs1++(v,an h.cV .plain (aN bm t' i'))::vs2))
theorem VarsP.some {h:HA} {n:LA} {q:PV} {es:List (LA×PV)} {bk:aS} {vs:Own} (p:VarsP h es bk vs) (nd:(es.map (·.1)).Nodup) (hl:es.lookup n=some q):SomeV h n q es bk vs:=by
 induction p with
 | nil=>injection hl
 | @cons m t v i es bk vs p ih=>
  rw [Mn] at hl;have nd':=Mt.mp nd;cases hb:n==m with
  | true=>
   replace hl:=hb▸hl;injection hl with hl;subst hl;obtain rfl:=beq_iff_eq.mp hb;have hno:bk.any (·.1==n)=false:=Of.mpr fun x hx e=>nd'.1 (p.keys▸Ma.mpr (v12 x hx (beq_iff_eq.mp e)));refine ⟨v,t,i,[],vs,rfl,by rw [Mn,beq_self_eq_true],by rw [Np,beq_self_eq_true];rfl,rfl,fun t' i'=>?_⟩;rw [Mu,sv hno,beq_self_eq_true];exact .cons p
  | false=>
   rw [hb] at hl;obtain ⟨w,t0,i0,vs1,vs2,h1,h2,h3,rfl,h4⟩:=ih nd'.2 hl;have hb':(m==n)=false:=by rw [beq_eq_false_iff_ne] at hb⊢;exact hb.symm
   refine ⟨w,t0,i0,(v,_)::vs1,vs2,h1,by rw [Mn,hb];exact h2,by rw [Np,h3,PH],rfl,fun t' i'=>?_⟩;rw [Mu,hb'];exact .cons (h4 t' i')
theorem VarsP.snoc {h:HA} {n t:LA} {v:Addr} {i:Int} {es:List (LA×PV)} {bk:aS} {vs:Own} (p:VarsP h es bk vs):VarsP h (es++[(n,.ref v)]) (bk++[(n,t)]) (vs++[(v,an h.cV .plain (aN bm t i))]):=by
 induction p with
 | nil=>exact .cons .nil
 | cons _ ih=>exact .cons ih
section
variable {g:Gx} {c:Cx} {A:Around} {st:St} {R:LG} {d:Nat} {h:HA}
theorem eC (hg:GOk g) (k:HK g h) {z rest:Own} {s x:Addr} {n t k0 t0:LA} {i:Int} {Q:LH} {R:LI} (q:Q (.str t) (z++(x,an h.cV .plain (aN bm t (i+1)))::rest)) (kr:∀x o,R x o→∃o',Less o o'∧R x o') :
 CallV g (d+2) (.ref h.fWV) [.ref s,.ref x,.str n,.str t] (z++(x,an h.cV .plain (aN k0 t0 i))::rest) Q R:=by
 refine bt (others:=[]) hg k.aWV rfl (by decide) dY.2.2.2.1 fun c A ok hc=>?_;refine Ex.at (b':=[.Return (some (.Call (.Name "put_value" _) [.Name "var" _,.Constant (.str "scalar") _ _,.Name "value" _] [] _)) _]) rfl ?_;exact Ex.cons (rest:=[]) (Ex.ret (Ev.call hg ok (ok.envG (by refine hc▸?_;exact lf.2.2.2.2)) (Evs.cons (Ev.var ok (.there .here) (Evs.cons (Ev.str (Evs.cons (Ev.var ok (.there (.there (.there .here))) (Evs.nil (tJ hg k q kr))) rfl)) rfl)) rfl) (ef k.put)))
inductive WrQ (g:Gx) (h:HA) (es:List (LA×PV)) (n t:LA) (bk:aS) (z:Own) (x:Addr) (fs:List (Str×PV)) (dv:Addr) (vs r o:Own):Prop
 | inl (vs1:Own) (v:Addr) (i:Int) (vs2:Own) (h1:VarsP h es (dt bk n t) (vs1++(v,an h.cV .plain (aN bm t i))::vs2)) (h2:o=(z++(x,an h.cS .plain fs)::(dv,aq g es)::vs1)++(v,an h.cV .plain (aN bm t i))::(vs2++r))
 | inr (h1:es.lookup n=none) (v:Addr) (i:Int) (h2:o=(v,an h.cV .plain (aN bm t i))::(z++(x,an h.cS .plain fs)::(dv,aq g (es++[(n,.ref v)]))::(vs++r)))
theorem nq (hg:GOk g) (k:HK g h) {z r:Own} {x:Addr} {bk:aS} {n t:LA} {R:LI} (hz:bk.length≤1000) :
 CallV g (d+5) (.ref h.fW) [.ref x,.str n,.str t] (z++(x,g.host bk)::r) (fun v o=>v=.str t∧o=z++(x,g.host (dt bk n t))::r) R:=by
 simp only [k.host];refine KU fun ow hp=>?_;refine u44 hp ?_;clear hp;rintro fs dv es vs rfl hf hv hnd;have hlen:es.length≤1000:=by
  have:=congrArg Nf hv.keys;simp only [Mp] at this;exact Bl hz this
 have mW:=k.meth ("write_var",h.fWV) (.tail _ (.tail _ (.tail _ (.head _))));have mP:=k.meth ("place",h.fPl) (.tail _ (.head _));refine CallV.less (Q:=fun v o=>v=.str t∧WrQ g h es n t bk z x fs dv vs r o) (R:=fun _ _=>False) ?_ (fun v o hh=>?_) fun _ _ hh=>hh.elim
 ·refine bt (others:=[]) hg k.aW rfl (by decide) dY.2.2.2.2.2 fun c A ok hc=>?_;refine Ex.at (b':=[.Return (some (.Call (.Attribute (.Name "self" _) "write_var" _) [.Call (.Attribute (.Name "self" _) "place" _) [.Name "name" _] [] _,.Name "name" _,.Name "value" _] [] _)) _]) rfl ?_;have self:∀(m:Str) f (Q:Value→LB→St→Prop) (rest:Own),m∈(["has","place","read_var","write_var","read","write"]:LP)→findIn g.K (.ref h.cS) m=some (some (.ref f))→typeIn g.K (.ref f)=some (.type "function")→KeepOk g (.ref f)→
   Q (.ref f) [.ref x] ⟨dG ["self","name","value"] [.ref x,.str n,.str t]++bF [],z++(x,an h.cS .plain fs)::rest⟩→∀pos R,MethE g c A (eval (.Name "self" pos) c.env) m ⟨dG ["self","name","value"] [.ref x,.str n,.str t]++bF [],z++(x,an h.cS .plain fs)::rest⟩ Q R:=
   fun m f Q rest hm m1 m2 hk q pos R=>KR hg k.kS m1 m2 hk (Ev.var ok .here ⟨x,rfl,.plain,fs,_,_,sh x _ z _,hf.none_of hm,q⟩)
  refine Ex.cons (rest:=[]) (Ex.ret (Ev.meth ok rfl rfl rfl rfl rfl (self "write_var" _ _ _ (by simp) mW.1 mW.2 (KH k.aWV) (Evs.cons (Ev.meth ok rfl rfl rfl rfl rfl (self "place" _ _ _ (by simp) mP.1 mP.2 (KH k.aPl)
   (Evs.cons (Ev.var ok (.there .here) (Evs.nil ((iB hg k hf hlen).mono fun v o hP=>?_))) rfl) _ _)) rfl) _ _)))
  rcases hP with ⟨hq,rfl⟩|⟨hl,w,rfl,rfl⟩
  ·obtain ⟨w,t0,i,vs1,vs2,rfl,h2,h3,rfl,h4⟩:=hv.some hnd hq;have hb:dt bk n t=bk.map fun p=>if p.1==n then (n,t) else p:=by unfold dt;refine h3.symm▸?_;rfl
   refine Evs.cons (Ev.var ok (.there .here) (Evs.cons (Ev.var ok (.there (.there .here)) (Evs.nil ?_)) rfl)) rfl;have:=eC (d:=d+2) (z:=z++(x,an h.cS .plain fs)::(dv,aq g es)::vs1) (rest:=vs2++r) (s:=x) (x:=w) (n:=n) (t:=t) (k0:=bm) (t0:=t0) (i:=i) (R:=fun _ _=>False)
    (Q:=fun v o=>v=.str t∧WrQ g h es n t bk z x fs dv (vs1++(w,an h.cV .plain (aN bm t0 i))::vs2) r o)
    hg k ⟨rfl,.inl vs1 w (i+1) vs2 (hb▸h4 t (i+1)) rfl⟩ fun _ _ h=>h.elim
   simp only [List.append_eq,Mb,MD,MT] at this⊢;exact this
  ·refine Evs.cons (Ev.var ok (.there .here) (Evs.cons (Ev.var ok (.there (.there .here)) (Evs.nil ?_)) rfl)) rfl;exact eC (d:=d+2) (z:=[]) (R:=fun _ _=>False) hg k ⟨rfl,.inr hl w 1 rfl⟩ fun _ _ h=>h.elim
 ·obtain ⟨rfl,⟨vs1,v,i,vs2,hv',rfl⟩|⟨hl,v,i,rfl⟩⟩:=hh
  ·refine (v13 _ ?_ rfl rfl);have:=KN (z:=z) (r:=r) (a:=x) (P:=jJ g h (dt bk n t)) (ow:=(x,an h.cS .plain fs)::(dv,aq g es)::(vs1++(v,an h.cV .plain (aN bm t i))::vs2)) ⟨fs,dv,es,_,rfl,hf,hv',hnd⟩;simpa using this
  ·refine (v13 _ (Less.trans (Less.perm ?_) (KN (z:=z) (r:=r) (a:=x) (P:=jJ g h (dt bk n t)) (ow:=(x,an h.cS .plain fs)::(dv,aq g (es++[(n,.ref v)]))::(vs++[(v,an h.cV .plain (aN bm t i))])) ⟨fs,dv,_,_,rfl,hf,?_,?_⟩)) rfl rfl)
   ·simpa only [MD,Mb,MT] using ((Nv (a:=(v,an h.cV .plain (aN bm t i))) (l₁:=z++(x,an h.cS .plain fs)::(dv,aq g (es++[(n,.ref v)]))::vs) (l₂:=r)).symm)
   ·refine (show dt bk n t=bk++[(n,t)] from by unfold dt;refine ((hv.none hl).2)▸?_;rfl)▸?_;exact hv.snoc
   ·rw [Mz];refine MH.mpr (v03 hnd (by simp) (fun a ha b hb e=>?_));obtain rfl:b=n:=by simpa using hb
    subst e;refine u12 (Ma.mp ha) ?_;rintro p hp e;rw [QB] at hl;exact absurd (hl p hp) (by simp [e])
end
open Builtin Builtin.ObjectAttr
section
variable {g:Gx} {c:Cx} {A:Around} {st:St} {R:LG} {d:Nat} {h:HA}
theorem oi:decide (bm=je)=false:=by decide +kernel
abbrev Res (p:PV) (O:Own):LH:=fun v o=>v=p∧o=O
theorem CallV.look (k:HK g h) {fv:Value} {args:LB} {z r:Own} {x:Addr} {bk:aS} {p:PV} {R:LI} (H:∀fs dv es vs,HF fs dv→VarsP h es bk vs→(es.map (·.1)).Nodup→
 CallV g d fv args (z++(x,an h.cS .plain fs)::(dv,aq g es)::(vs++r)) (Res p (z++(x,an h.cS .plain fs)::(dv,aq g es)::(vs++r))) (fun _ _=>False)) :
 CallV g d fv args (z++(x,g.host bk)::r) (fun v o=>v=p∧o=z++(x,g.host bk)::r) R:=by
 rw [k.host];refine KU fun ow hp=>?_;refine u44 (id hp) ?_;rintro fs dv es vs rfl hf hv hnd;refine CallV.less (H fs dv es vs hf hv hnd) (fun v o hh=>?_) fun _ _ hh=>hh.elim;obtain ⟨rfl,rfl⟩:=hh;exact (v13 _ (KN (z:=z) (r:=r) (ow:=(x,an h.cS .plain fs)::(dv,aq g es)::vs) hp) rfl rfl)
theorem tK (hg:GOk g) (k:HK g h) {z r:Own} {x:Addr} {bk:aS} {n:LA} {R:LI}:CallV g (d+1) (.ref h.fHas) [.ref x,.str n] (z++(x,g.host bk)::r) (fun v o=>v=.bool (bk.lookup n).isSome∧o=z++(x,g.host bk)::r) R:=
 CallV.look k fun fs dv es vs hf hv hnd=>by
  refine bt (others:=[]) hg k.aHas rfl (by decide) dY.1 fun c A ok hc=>?_;refine Ex.at (b':=[.Return (some (.BoolOp .And [.Compare (.Name "name" _) [.In] [.Attribute (.Name "self" _) "vars" _] _,.Compare (.Attribute (.Subscript (.Attribute (.Name "self" _) "vars" _) (.Name "name" _) _) "kind" _) [.NotEq] [.Constant (.str "none") _ _] _] _)) _]) rfl ?_;have fv:=k.fldS ("vars",.dct) (LZ _ (.head _));have uX:=sh x (an h.cS .plain fs) z ((dv,aq g es)::(vs++r));have uD:=KC (o:=aq g es) (o':=aq g es) (a:=dv) (z++[(x,an h.cS .plain fs)]) (vs++r);simp only [Mb,MD,MT] at uD;have uV:∀w t i vs1 vs2,vs=vs1++(w,an h.cV .plain (aN bm t i))::vs2→OwnUpd w (an h.cV .plain (aN bm t i)) (an h.cV .plain (aN bm t i)) (z++(x,an h.cS .plain fs)::(dv,aq g es)::(vs++r)) (z++(x,an h.cS .plain fs)::(dv,aq g es)::(vs++r)):=by
   rintro w t i vs1 vs2 rfl;simpa only [Mb,MD,MT] using (KC (o:=an h.cV .plain (aN bm t i)) (o':=an h.cV .plain (aN bm t i)) (a:=w) (z++(x,an h.cS .plain fs)::(dv,aq g es)::vs1) (vs2++r))
  generalize z++(x,an h.cS .plain fs)::(dv,aq g es)::(vs++r)=O at uX uD uV⊢;refine Ex.cons (rest:=[]) (Ex.ret (Ev.and (Ev.cmpO (Ev.var ok (.there .here) (KK hg k.kS fv (Ev.var ok .here ⟨rfl,.plain,fs,_,_,_,uX,hf.1,ky uD ?_⟩))) rfl)));cases hl:es.lookup n with
  | none=>exact (v12 false rfl (KT ⟨by rw [(hv.none hl).1];rfl,rfl⟩))
  | some q=>
   obtain ⟨w,t,i,vs1,vs2,rfl,h2,h3,h4,_⟩:=hv.some hnd hl;have uV:=uV _ _ _ _ _ h4;refine (v12 true rfl (Lq (Ev.cmp ok (LV hg k.kV (k.fldV ("kind",_) (.head _)) (Ev.sub ok (KK hg k.kS fv (Ev.var ok .here ⟨rfl,.plain,fs,_,_,_,uX,hf.1,Ev.var ok (.there .here) (kh uD hl ⟨w,rfl,.plain,_,_,_,_,uV,rfl,Ev.str (vX ?_)⟩)⟩))) (by with_unfolding_all rfl)) rfl)));refine h2▸?_;exact ⟨by refine oi▸?_;rfl,rfl⟩
theorem qp (hg:GOk g) (k:HK g h) {z r:Own} {x:Addr} {bk:aS} {n t:LA} {R:LI} (hb:bk.lookup n=some t) (hz:bk.length≤1000):CallV g (d+5) (.ref h.fR) [.ref x,.str n] (z++(x,g.host bk)::r) (fun v o=>v=.str t∧o=z++(x,g.host bk)::r) R:=
 CallV.look k fun fs dv es vs hf hv hnd=>by
  have hlen:es.length≤1000:=by
   have:=congrArg Nf hv.keys;simp only [Mp] at this;exact Bl hz this
  have mR:=k.meth ("read_var",h.fRV) (.tail _ (.tail _ (.head _)));have mP:=k.meth ("place",h.fPl) (.tail _ (.head _));refine bt (others:=[]) hg k.aR rfl (by decide) dY.2.2.2.2.1 fun c A ok hc=>?_;refine Ex.at (b':=[.Return (some (.Call (.Attribute (.Name "self" _) "read_var" _) [.Call (.Attribute (.Name "self" _) "place" _) [.Name "name" _] [] _,.Name "name" _] [] _)) _]) rfl ?_;have self:∀(m:Str) f (Q:Value→LB→St→Prop) (rest:Own),m∈(["has","place","read_var","write_var","read","write"]:LP)→findIn g.K (.ref h.cS) m=some (some (.ref f))→typeIn g.K (.ref f)=some (.type "function")→KeepOk g (.ref f)→
   Q (.ref f) [.ref x] ⟨dG ["self","name"] [.ref x,.str n]++bF [],z++(x,an h.cS .plain fs)::rest⟩→∀pos R,MethE g c A (eval (.Name "self" pos) c.env) m ⟨dG ["self","name"] [.ref x,.str n]++bF [],z++(x,an h.cS .plain fs)::rest⟩ Q R:=
   fun m f Q rest hm m1 m2 hk q pos R=>KR hg k.kS m1 m2 hk (Ev.var ok .here ⟨x,rfl,.plain,fs,_,_,sh x _ z _,hf.none_of hm,q⟩)
  refine Ex.cons (rest:=[]) (Ex.ret (Ev.meth ok rfl rfl rfl rfl rfl (self "read_var" _ _ _ (by simp) mR.1 mR.2 (KH k.aRV) (Evs.cons (Ev.meth ok rfl rfl rfl rfl rfl (self "place" _ _ _ (by simp) mP.1 mP.2 (KH k.aPl)
   (Evs.cons (Ev.var ok (.there .here) (Evs.nil ((iB hg k hf hlen).mono fun v o hP=>?_))) rfl) _ _)) rfl) _ _)))
  rcases hP with ⟨hq,rfl⟩|⟨hl,_⟩
  ·obtain ⟨w,t0,i,vs1,vs2,rfl,h2,h3,rfl,h4⟩:=hv.some hnd hq;obtain rfl:t0=t:=Mm (h2.symm.trans hb);have uV:=KC (o:=an h.cV .plain (aN bm t0 i)) (o':=an h.cV .plain (aN bm t0 i)) (a:=w) (z++(x,an h.cS .plain fs)::(dv,aq g es)::vs1) (vs2++r);simp only [Mb,MD,MT] at uV;have uW:OwnUpd w (an h.cV .plain (aN bm t0 i)) (an h.cV .plain (aN bm t0 i)) (z++(x,an h.cS .plain fs)::(dv,aq g es)::(vs1++(w,an h.cV .plain (aN bm t0 i))::vs2++r)) (z++(x,an h.cS .plain fs)::(dv,aq g es)::(vs1++(w,an h.cV .plain (aN bm t0 i))::vs2++r)):=by
    simpa only [Mb,MD,MT] using uV
   refine Evs.cons (Ev.var ok (.there .here) (Evs.nil ?_)) rfl;refine bt (others:=[]) hg k.aRV rfl (by decide) dY.2.2.1 fun c A ok hc=>?_;refine Ex.at (b':=[.If (.Compare (.Attribute (.Name "var" _) "kind" _) [.Eq] [.Constant (.str "none") _ _] _) [.Raise (some (.Call (.Name "no_variable" _) [.Constant (.str "read") _ _,.Name "name" _] [] _)) none _] [] _,.Return (some (.Attribute (.Name "var" _) "value" _)) _]) rfl ?_;refine Ex.cons (Ex.ite (Tst.cmp ok (KK hg k.kV (k.fldV ("kind",_) (.head _)) (Ev.var ok (.there .here) ⟨rfl,.plain,aN bm t0 i,_,_,_,uW,rfl,Ev.str (wi ?_)⟩)) rfl));have hne:=oi;simp only [bm,je] at hne;refine hne▸?_;refine KT (Ex.nil (Ex.cons (rest:=[]) (Ex.ret (KK hg k.kV (k.fldV ("value",_) (.tail _ (.head _))) (Ev.var ok (.there .here) ⟨rfl,.plain,aN bm t0 i,_,_,_,uW,rfl,rfl,rfl⟩)))))
  ·replace hb:=((hv.none hl).1)▸hb;injection hb
end
open Builtin Builtin.ObjectAttr
section
variable {g:Gx} {c:Cx} {A:Around} {st:St} {R:LG} {d:Nat} {h:HA}
theorem Ev.mono {t:Sem Value} {Q Q':LE} (h:Ev g c A t st Q R) (k:∀v st',Q v st'→Q' v st'):Ev g c A t st Q' R:=fun frz s X=>
 tt (h frz s X) (fun _ _ hh=>by obtain ⟨pv,st',f',a,X',r',q⟩:=hh;exact ⟨pv,st',f',a,X',r',k _ _ q⟩) fun _ _ e=>e
inductive MhQ (g:Gx) (x f:Addr) (Q:Value→LB→St→Prop) (v:PV) (st:St):Prop
 | mk (h1:v=.ref x) (bk:aS) (o:AO) (ow:Own) (h2:OwnUpd x (g.host bk) o st.own ow) (h3:Q (.ref f) [.ref x] st)
theorem MethE.host {t:Sem Value} {m:Str} {f x:Addr} {Q:Value→LB→St→Prop} (hg:GOk g) (k:HK g h) (hm:(m,f)∈[(("has" : Str),h.fHas),("place",h.fPl),("read_var",h.fRV),("write_var",h.fWV),("read",h.fR),("write",h.fW)]) (hk:KeepOk g (.ref f))
 (hw:Ev g c A t st (MhQ g x f Q) R):MethE g c A t m st Q R:=fun frz s X=>by
 refine tt (hw frz s X) (fun v s' hh=>?_) fun _ _ e=>e;obtain ⟨pv,st',f',a',X',r,rfl,bk,o',ow',u,q⟩:=hh;obtain rfl:v=.ref x:=r;refine ⟨st',f',a',X',.ref f,[.ref x],fun pl E Q' hq=>?_,hk,q⟩;obtain ⟨m1,m2⟩:=k.meth _ hm;refine u22 u.at ?_;rintro z r e _;obtain ⟨vars,own⟩:=st';dsimp only at e;subst e;rw [k.host] at X';refine u12 X'.open ?_;rintro ow ⟨fs,dv,es,vs,rfl,hf,_⟩ X2;refine im hg k.kS m1 m2 X2 (sh x _ z _) (hf.none_of ?_) (hq [.ref x] s'.toks ⟨_,_,rfl,rfl,rfl⟩);have:∀p∈[(("has" : Str),h.fHas),("place",h.fPl),("read_var",h.fRV),("write_var",h.fWV),("read",h.fR),("write",h.fW)],p.1∈(["has","place","read_var","write_var","read","write"]:LP):=by
  intro p hp;simp only [Me,ML,or_false] at hp⊢;rcases hp with rfl|rfl|rfl|rfl|rfl|rfl<;>simp
 exact this _ hm
inductive HwV (g:Gx) (a:Addr) (n:LA) (Q:LK) (v:PV) (st:St):Prop
 | mk (t:LA) (bk:aS) (ow:Own) (h1:v=.str t) (h2:bk.length≤1000) (h3:OwnUpd a (g.host bk) (g.host (dt bk n t)) st.own ow) (h4:Q .next { st with own:=ow })
inductive HwU (g:Gx) (c:Cx) (A:Around) (e:Sem Value) (a:Addr) (Q:LK) (R:LG) (u:PV) (st:St):Prop
 | mk (n:LA) (h1:u=.str n) (h2:Ev g c A e st (HwV g a n Q) R)
inductive HgV (g:Gx) (a:Addr) (rd:Bool) (Q:LE) (v:PV) (st:St):Prop
 | mk (n:LA) (bk:aS) (o:AO) (ow:Own) (h1:v=.str n) (h2:bk.length≤1000) (h3:OwnUpd a (g.host bk) o st.own ow) (h4:if rd then ∃u,bk.lookup n=some u∧Q (.str u) st else Q (.bool (bk.lookup n).isSome) st)
theorem yW (hg:GOk g) (k:HK g h) {Q:LK} {x:Str} {np ap pos sp:Pos} {e₁ e₂:Expr} {a:Addr} {bk:aS} {o':AO} (ok:Ok g c A (d+5)) (hl:(ap.endLine==pos.line)=true) (h1:cc e₁ c.env) (h2:cc e₂ c.env)
 (hx:∀(Q':LE) R,Q' (.ref a) st→Ev g c A (eval (.Name x np) c.env) st Q' R) (hu:∃ow',OwnUpd a (g.host bk) o' st.own ow')
 (hw:Ev g c A (eval e₁ c.env) st (HwU g c A (eval e₂ c.env) a Q R) R) :
 Ex g c A (exec (.Expr (.Call (.Attribute (.Name x np) "write" ap) [e₁,e₂] [] pos) sp) c.env) st Q R:=by
 have h0:starEach [e₂] c.env=[(false,eval e₂ c.env)]:=h2 [];obtain ⟨ow',hu⟩:=hu;refine LX ok rfl (Ev.meth ok rfl (by rw [h1,h0];rfl) hl (h1 _) (by rw [h0];rfl) (MethE.host hg k (f:=h.fW) (x:=a) (by simp) (KH k.aW) (hx _ _ ⟨rfl,_,_,_,hu,?_⟩)))
 ·refine Evs.cons (hw.mono fun u st₁ hh=>?_) (h1 _);obtain ⟨n,rfl,hh⟩:=hh;refine Evs.cons (hh.mono fun v st₂ hh=>Evs.nil ?_) h0;obtain ⟨vars,own⟩:=st₂;obtain ⟨t,bk',ow',rfl,hz,hu,q⟩:=hh;refine u22 hu.at ?_;rintro z r e e';dsimp only at e e';subst e e';exact (nq hg k hz).mono fun v o hh=>by
   obtain ⟨hv,ho⟩:=hh;subst hv ho;exact ⟨⟨t,rfl⟩,q⟩
theorem oH (hg:GOk g) (k:HK g h) {env:Env} {Q:LE} {x:Str} {np ap pos:Pos} {e:Expr} {rd:Bool} {a:Addr} {bk:aS} {o':AO} (ok:Ok g c A (d+5)) (hl:(ap.endLine==pos.line)=true) (h1:cc e env)
 (hb:attributeBase (.Name x np) (if rd then "read" else "has") env (eval (.Name x np) env)=eval (.Name x np) env)
 (hx:∀(Q':LE) R,Q' (.ref a) st→Ev g c A (eval (.Name x np) env) st Q' R) (hu:∃ow',OwnUpd a (g.host bk) o' st.own ow')
 (hw:Ev g c A (eval e env) st (HgV g a rd Q) R) :
 Ev g c A (eval (.Call (.Attribute (.Name x np) (if rd then "read" else "has") ap) [e] [] pos) env) st Q R:=by
 have h0:starEach [e] env=[(false,eval e env)]:=h1 [];have key:∀(m:Str) f,m=(if rd then ("read" : Str) else "has")→(m,f)∈[(("has" : Str),h.fHas),("place",h.fPl),("read_var",h.fRV),("write_var",h.fWV),("read",h.fR),("write",h.fW)]→KeepOk g (.ref f)→
  (∀z bk' r n own',own'=z++(a,g.host bk')::r→bk'.length≤1000→∀(Q':LH) R,(if rd then ∃u,bk'.lookup n=some u∧Q' (.str u) own' else Q' (.bool (bk'.lookup n).isSome) own')→CallV g (d+5) (.ref f) ([.ref a]++[.str n]) own' Q' R)→
  Ev g c A (eval (.Call (.Attribute (.Name x np) (if rd then "read" else "has") ap) [e] [] pos) env) st Q R:=by
  intro m f em hm hk hc;subst em;obtain ⟨ow',hu⟩:=hu;refine Ev.meth ok hb (by refine h0▸?_;rfl) hl h0 rfl (MethE.host hg k (f:=f) (x:=a) hm hk (hx _ _ ⟨rfl,_,_,_,hu,?_⟩))
  ·refine Evs.cons (hw.mono fun v st₁ hh=>Evs.nil ?_) h0;obtain ⟨n,bk',o'',ow',hv,hz,hu,q⟩:=hh;subst hv;obtain ⟨vars,own⟩:=st₁;refine u22 hu.at ?_;rintro z r e e';dsimp only at e e';subst e e';exact hc z bk' r n _ rfl hz _ _ q
 cases rd with
 | true=>
  refine key "read" h.fR rfl (by simp) (KH k.aR) fun z bk' r n own' e hz Q' R q=>?_;subst e;refine u12 q ?_;clear q;rintro u hu q;exact (qp hg k hu hz).mono fun v o hh=>by obtain ⟨hv,ho⟩:=hh;subst hv ho;exact q
 | false=>
  refine key "has" h.fHas rfl (by simp) (KH k.aHas) fun z bk' r n own' e hz Q' R q=>?_;subst e;exact (tK (d:=d+4) hg k).mono fun v o hh=>by obtain ⟨hv,ho⟩:=hh;subst hv ho;exact q
end
open Builtin Builtin.ObjectAttr
section
variable {g:Gx} {c:Cx} {A:Around} {st:St} {R:LG} {d:Nat}
theorem Ev.cell {env:Env} {x:Str} {pos:Pos} {a:Addr} {v:PV} {o':AO} {ow':Own} {Q:LE} (hk:env.scope.kind=.function) (hl:env.kindOf x=some .cell) (hc:env.cells.lookup x=some a) (hd:(x==("__debug__" : Str))=false)
 (u:OwnUpd a (bz (some v)) o' st.own ow') (q:Q v st):Ev g c A (eval (.Name x pos) env) st Q R:=fun frz s X=>by
 refine u12 (X.ownAt u) ?_;rintro e r h;obtain ⟨ob,w,rfl,hd',rw0⟩:=r (Hq g frz) fun _ _ _ h=>h;refine u12 (rw0 v rfl) ?_;rintro u rfl rw;exact Pm (wpAny_loadName_cell hk hl hc (v12 ob (h _ (.head _)) hd') ⟨v,st,frz,Sub.refl _,X,rw,q⟩) hd
inductive NsR (x:Str) (o:LD) (H:Hp) (a:Addr) (e:Led):Prop
 | mk (ob:Obj) (es:Array DictEntry) (ep:Nat) (m:LN) (h:e=[(a,ob)]) (d:ob.data=.dict es ep) (k:StrKeys es) (f:∀y,nsFind es y=m y) (r:∀p,o=some p→∃v,m x=some v∧Rep H v p)
noncomputable def dD (x:Str) (o:LD):AO:=.obj (NsR x o)
theorem S.ownNs {a:Addr} {x:Str} {o:LD} {o':AO} {ow':Own} {frz:Led} {s:Shared} (X:S g c st frz s) (u:OwnUpd a (dD x o) o' st.own ow'):∃m,s.heap.Ns a m∧∀p,o=some p→∃v,m x=some v∧Rep (Hq g frz) v p:=by
 refine u12 (X.ownAt u) ?_;rintro e r h;obtain ⟨ob,es,ep,m,rfl,h1,h2,h3,h4⟩:=r (Hq g frz) fun _ _ _ h=>h;exact (v12 m (v34 ob es ep (h _ (.head _)) h1 h2 h3) h4)
theorem Ev.tv {env:Env} {x:Str} {pos:Pos} {a:Addr} {v:PV} {o':AO} {ow':Own} {Q:LE} (hk:env.scope.kind=.function) (hl:env.kindOf x=some .local) (hc:env.locals=a) (hd:(x==("__debug__" : Str))=false)
 (u:OwnUpd a (dD x (some v)) o' st.own ow') (q:Q v st):Ev g c A (eval (.Name x pos) env) st Q R:=fun frz s X=>by
 subst hc;refine u12 (X.ownNs u) ?_;rintro m hn h;refine u12 (h v rfl) ?_;rintro w hm r;exact Pm (Nz hk hl hn hm ⟨v,st,frz,Sub.refl _,X,r,q⟩) hd
theorem si {a:Addr} {x:Str} {o:LD} {H:Hp}:∀e,AORep H a (dD x o) e→∃ob,e=[(a,ob)]:=fun e r=>by
 obtain ⟨ob,es,ep,m,rfl,_⟩:=r H fun _ _ _ h=>h;exact ⟨ob,rfl⟩
noncomputable def pQ:AO:=.obj fun _ _ e=>e=[]
theorem S.dropNs {a:Addr} {x:Str} {o:LD} {vars:aM} {own:Own} {frz:Led} {s:Shared} {h':Heap} (X:S g c ⟨vars,(a,dD x o)::own⟩ frz s) (k:Og a s.heap h'):S g c ⟨vars,own⟩ frz { s with heap:=h' }:=
 S.less (o:=(a,pQ)::own) (Lp (tk:=s.toks) X .here si k.extBut (.inl fun _ _=>rfl)) (Less.drop [(a,pQ)] own)
theorem S.setNs {a:Addr} {x:Str} {o:LD} {vars:aM} {own:Own} {frz:Led} {s:Shared} {h':Heap} {tk:Nat} {m:LN} {p:PV} {v:Value} (X:S g c ⟨vars,(a,dD x o)::own⟩ frz s) (hn:h'.Ns a m) (hm:m x=some v) (r:Rep (Hq g frz) v p) (k:Og a s.heap h') :
 S g c ⟨vars,(a,dD x (some p))::own⟩ frz { s with heap:=h',toks:=tk }:=by
 refine u34 hn ?_;clear hn;rintro ob es ep h1 h2 h3 h4;exact Lp (tk:=tk) X .here si k.extBut (.inr (v12 ob h1 (fun H' k=>⟨ob,es,ep,m,rfl,h2,h3,h4,fun q e=>by injection e with e;subst e;exact (v12 v hm (r.monoT k))⟩)))
theorem S.freeze {a:Addr} {l:LB} {vars:aM} {own:Own} {frz:Led} {s:Shared} (X:S g c ⟨vars,(a,.list l)::own⟩ frz s):∃o,S g c ⟨vars,own⟩ ((a,o)::frz) s∧Rep (Hq g ((a,o)::frz)) (.ref a) (.lst l):=by
 obtain ⟨⟨m,_,frs,F,N,nd,SU,⟨_,e2,rfl,⟨vs,n,rfl,r⟩,O⟩,V⟩,nn,lc⟩:=X;have k:Sub frz ((a,({ cls:=.type "list",data:=.seq vs.toArray n }:Obj))::frz):=fun p hp=>.tail _ hp;have perm:([(a,({ cls:=.type "list",data:=.seq vs.toArray n }:Obj))]++e2++(frz++frs)).Perm (e2++((a,{ cls:=.type "list",data:=.seq vs.toArray n })::frz++frs)):=by
  simp only [MD,MT];exact (Nv (l₁:=e2) (l₂:=frz++frs)).symm
 exact ⟨_,⟨⟨m,e2,frs,F,fun p hp=>N p (perm.mem_iff.mpr hp),(perm.map (·.1)).nodup_iff.mp nd,SU,O.mono (Hq.mono k),V.mono (Hq.mono k)⟩,nn,lc⟩,a,vs,n,rfl,.inl (.head _),r.mono (Hq.mono k)⟩
end
open Builtin Builtin.ObjectAttr
noncomputable def kC (env:Env):List (Str×NameKind)→List (Str×Addr)→List (Str×Addr)
 | [],acc=>acc
 | (n,k)::r,acc=>kC env r (if k==.free then (n,(env.cells.lookup n).getD 0)::acc else acc)
theorem kA (env:Env) (n:Str) (k:NameKind) (r:List (Str×NameKind)) (acc:List (Str×Addr)):kC env ((n,k)::r) acc=kC env r (if k==.free then (n,(env.cells.lookup n).getD 0)::acc else acc):=rfl
theorem wj {env:Env} (f:Str×NameKind→List (Str×Addr)→Sem (ForInStep (List (Str×Addr)))) (hf:∀n k acc,f (n,k) acc=if k==.free then (do let a←cellOf env n;pure (.yield ((n,a)::acc))) else pure (.yield acc)) :
 ∀(names:List (Str×NameKind)) (acc:List (Str×Addr)),(∀y∈names,y.2=.free→∃a,env.cells.lookup y.1=some a)→forIn names acc f=pure (kC env names acc):=by
 intro names
 induction names with
 | nil=>exact fun acc _=>rfl
 | cons p r ih=>
  intro acc h;obtain ⟨n,k⟩:=p;rw [List.forIn_cons,hf];by_cases hk:k=.free
  ·subst hk;obtain ⟨a,ha⟩:=h _ (.head _) rfl;simp only [beq_self_eq_true,if_true,(show cellOf env n=pure a from by unfold cellOf;exact ha▸rfl),pure_bind,(ih ((n,a)::acc) fun y hy=>h y (.tail _ hy)),kA,ha,PF]
  ·have hb:(k==NameKind.free)=false:=beq_eq_false_iff_ne.mpr hk;have:=ih acc fun y hy=>h y (.tail _ hy);simp only [hb,Rj,if_false,pure_bind,this,kA]
theorem oX {env:Env} {sc:Scope} (h:∀y∈sc.names,y.2=.free→∃a,env.cells.lookup y.1=some a):closureFor sc env=pure (kC env sc.names []):=by
 simp only [closureFor];rw [wj _ (fun n k acc=>?_) sc.names [] h]
 ·rfl
 ·cases hb:(k==NameKind.free)<;>simp [hb]
theorem tG {env:Env} {y:Str} {a:Addr}:∀{names:List (Str×NameKind)} {acc:List (Str×Addr)},y∉names.map (·.1)→acc.lookup y=some a→(kC env names acc).lookup y=some a:=by
 intro names
 induction names with
 | nil=>exact fun _ h=>h
 | cons p r ih=>
  intro acc hn h;obtain ⟨n,k⟩:=p;rw [kA];refine ih (fun q=>hn (.tail _ q)) ?_;by_cases hk:(k==NameKind.free)=true
  ·rw [if_pos hk,Mn,beq_eq_false_iff_ne.mpr fun e=>hn (by subst e;exact .head _)];exact h
  ·rw [if_neg hk];exact h
theorem qo {env:Env} {y:Str} {a:Addr} (ha:env.cells.lookup y=some a):∀{names:List (Str×NameKind)} {acc:List (Str×Addr)},(names.map (·.1)).Nodup→(y,.free)∈names→(kC env names acc).lookup y=some a:=by
 intro names
 induction names with
 | nil=>exact fun _ h=>nomatch h
 | cons p r ih=>
  intro acc nd h;obtain ⟨n,k⟩:=p;rw [kA];have nd:=Mt.mp nd;rcases Me.mp h with e|h
  ·cases e;refine tG nd.1 ?_;rw [beq_self_eq_true,if_pos rfl,Mn,beq_self_eq_true,ha];rfl
  ·exact ih nd.2 h
structure CompOk (c:Cx) (x:Str) (sc:Scope):Prop where
 kind:sc.kind=.function
 nd:(sc.names.map (·.1)).Nodup
 cell:∀y∈sc.names,y.2≠.cell
 x:(x,NameKind.local)∈sc.names
 free:∀y∈sc.names,y.2=.free→∃a,c.cells.lookup y.1=some a
noncomputable abbrev fV (c:Cx) (sc:Scope) (C:Addr):Env:=compEnvC sc (kC c.env sc.names []) C c.env
section
variable {g:Gx} {c:Cx} {A:Around} {st:St} {R:LG} {d:Nat}
theorem bP {env:Env} {x:Str} {k:NameKind}:∀{names:List (Str×NameKind)},(names.map (·.1)).Nodup→(x,k)∈names→
 (names.map fun (n,k)=>if (k==NameKind.free&&env.scope.kind==.function&&env.kindOf n==some .cell) then (n,NameKind.cell) else (n,k)).lookup x=some (if (k==NameKind.free&&env.scope.kind==.function&&env.kindOf x==some .cell) then NameKind.cell else k):=by
 intro names nd h;have hm:(x,if (k==NameKind.free&&env.scope.kind==.function&&env.kindOf x==some .cell)=true then NameKind.cell else k)∈names.map fun (n,k)=>if (k==NameKind.free&&env.scope.kind==.function&&env.kindOf n==some .cell) then (n,NameKind.cell) else (n,k):=by
  refine Ma.mpr ⟨_,h,?_⟩;dsimp only
  split<;>rfl
 refine aA ?_ hm;have e:((fun x:Str×NameKind=>x.1)∘fun (x:Str×NameKind)=>match x with|(n,k)=>if (k==NameKind.free&&env.scope.kind==.function&&env.kindOf n==some .cell)=true then (n,NameKind.cell) else (n,k))=fun x=>x.1:=by
  funext p;obtain ⟨n,k⟩:=p;dsimp only [Function.comp]
  split<;>rfl
 rw [NE,e];exact nd
def NoX:LG:=fun _ _=>False
noncomputable def xR (ifs:LS) (env:Env):Sem Bool:=forIn ifs true fun c r=>if r=true then do let ok←isTrue c env (eval c env);pure (ForInStep.yield ok) else pure (ForInStep.yield r)
def dW (g:Gx) (c:Cx) (A:Around) (env:Env) (x:Str) (elt:Expr) (ifs:LS) (C D:Addr) (Q:LB→St→Prop):LB→LB→St→Prop
 | [],acc,st=>Q acc st
 | p::ps,acc,st=>Tst g c A (xR ifs env) ⟨st.vars,(C,dD x (some p))::(D,.list acc)::st.own⟩ (fun b st'=>if b then
  Ev g c A (eval elt env) st' (fun v st''=>∃vars own,st''=⟨vars,(C,dD x (some p))::(D,.list acc)::own⟩∧dW g c A env x elt ifs C D Q ps (acc++[v]) ⟨vars,own⟩) NoX
  else ∃vars own,st'=⟨vars,(C,dD x (some p))::(D,.list acc)::own⟩∧dW g c A env x elt ifs C D Q ps acc ⟨vars,own⟩) NoX
theorem Rz.noX {f:Led} {v:Value} {s:Shared} {P:Prop} (h:Rz g c NoX f v s):P:=by obtain ⟨_,_,_,_,_,_,_,_,_,h⟩:=h;exact h.elim
theorem RepL.snoc {H:Hp} {ps:LB} {vs:LO} {p:PV} {v:Value} (h:RepL H vs ps) (r:Rep H v p):RepL H (vs++[v]) (ps++[p]):=h.app ⟨v,[],rfl,r,rfl⟩
noncomputable def CompI (g:Gx) (c:Cx) (A:Around) (env:Env) (x:Str) (elt:Expr) (ifs:LS) (C D:Addr) (Q:LB→St→Prop) (it:Addr) (f₁:Led) (n:Nat) (s:Shared):Prop:=∀zG:Prop,(∀(ps acc:LB) (o:Obj) (st:St) (f:Led) (p0:LD) (h1:ps.length=n) (h2:Sub f₁ f) (h3:(it,o)∈f) (h4:Nxt g A it ps f₁ o) (h5:acc.length+ps.length≤1000) (h6:S g c ⟨st.vars,(C,dD x p0)::(D,.list acc)::st.own⟩ f s) (h7:dW g c A env x elt ifs C D Q ps acc st),zG)→zG
theorem CompI.mk {g:Gx} {c:Cx} {A:Around} {env:Env} {x:Str} {elt:Expr} {ifs:LS} {C D:Addr} {Q:LB→St→Prop} {it:Addr} {f₁:Led} {n:Nat} {s:Shared} (ps acc:LB) (o:Obj) (st:St) (f:Led) (p0:LD) (h1:ps.length=n) (h2:Sub f₁ f) (h3:(it,o)∈f) (h4:Nxt g A it ps f₁ o) (h5:acc.length+ps.length≤1000) (h6:S g c ⟨st.vars,(C,dD x p0)::(D,.list acc)::st.own⟩ f s) (h7:dW g c A env x elt ifs C D Q ps acc st):CompI g c A env x elt ifs C D Q it f₁ n s:=fun _ zk=>zk ps acc o st f p0 h1 h2 h3 h4 h5 h6 h7
theorem jv (ok:Ok g c A d) {elt iter:Expr} {x:Str} {px pos:Pos} {ifs:LS} {sc:Scope} (k:CompOk c x sc) {it:Addr} {o:Obj} {items:LB} {f₁ f₂:Led} {s₂:Shared} {E:LM} {Q:LB→St→Prop}
 (X:S g c st f₂ s₂) (hsub:Sub f₁ f₂) (hm:(it,o)∈f₂) (hself:uo g A it o) (hn:Nxt g A it items f₁ o) (fresh:∀p∈f₁,p.1≠it) (hlen:items.length≤1000) (hq:∀C D,dW g c A (fV c sc C) x elt ifs C D Q items [] st)
 {RR:Value→Addr→Result→Shared→Prop} (hR:∀C D l p st' f s',Sub f₁ f→S g c ⟨st'.vars,(C,dD x p)::(D,.list l)::st'.own⟩ f s'→Q l st'→RR (.ref D) C (.ok .next) s') :
 wpAny (model g.prog g.w) A (newList []) (fun acc s₃=>wpAny (model g.prog g.w) A (newFunctionEnv sc c.env.globals (kC c.env sc.names []) [] c.env.qual none .none (some c.env)) (fun cenv s₄=>
  codeAny (model g.prog g.w) A (.compStart (.ListComp elt [⟨.Name x px,iter,ifs,0⟩] sc pos) 0 (.ref it) acc { cenv with scope:=relabel sc c.env }) (RR acc cenv.locals) s₄) E s₃) E s₂:=by
 refine MX (wpAny_newFunctionEnv k.cell (by intro y hy;simp at hy) (fun h₁ hns₁ hsb₁=>?_) k.kind);dsimp only at hns₁ hsb₁⊢;have X1:=X.pushOwn (fg [] 0) (.list []) rfl ⟨[],0,rfl,rfl⟩;have hX:s₂.heap.push { cls:=.type "list",dict:=none,data:=.seq ([]:LO).toArray }=s₂.heap.push (fg [] 0):=rfl;rw [hX] at hns₁ hsb₁⊢;generalize hD:s₂.heap.objs.size=D at *;generalize hH:s₂.heap.push (fg [] 0)=H2 at *;refine u34 (id hns₁) ?_;rintro ob es ep hob hd hk hf;have X2:S g c ⟨st.vars,(H2.objs.size,dD x none)::(D,.list [])::st.own⟩ f₂ { s₂ with heap:=h₁,toks:=s₂.toks+([]:List (Str×Value)).length }:=
  X1.add (tk:=s₂.toks+([]:List (Str×Value)).length) (h':=h₁) (es:=[(H2.objs.size,ob)]) (fun b ob' e=>hsb₁.extBut b ob' (Nh (MI e)) (MJ _ e)) (by simp)
   (fun p hp=>by cases My.mp hp;exact ⟨Ot (MC _),hob⟩) fun H' _=>⟨ob,es,ep,_,rfl,hd,hk,hf,fun p e=>nomatch e⟩
 generalize H2.objs.size=C at *;have loop:codeAny (model g.prog g.w) A (.compLoop (.ListComp elt [⟨.Name x px,iter,ifs,0⟩] sc pos) 0 (.ref it) (.ref D) (fV c sc C)) (RR (.ref D) C) { s₂ with heap:=h₁,toks:=s₂.toks+([]:List (Str×Value)).length }:=by
  refine codeAny_compLoop_tests (CompI g c A (fV c sc C) x elt ifs C D Q it f₁) (fun n s hI=>?_) items.length
   (CompI.mk items [] o st f₂ none rfl hsub hm hn (by simpa using hlen) X2 (hq C D))
  refine hI _ ?_;clear hI;rintro ps acc o st' f' p0 hl hsub hm hn hlen X' q';have lessSub:∀{f:Led},Sub f₁ f→Sub f₁ (less f it):=fun k p hp=>Nu.mpr ⟨k p hp,by simpa using fresh p hp⟩;cases ps with
  | nil=>
   refine hn.2 c _ f' s _ _ hsub X' (X'.get (.inl hm)) fun h' k=>?_;exact hR C D acc p0 st' _ _ (lessSub hsub) (X'.iter (tk:=s.toks) hm hn.1.noSeq k).1 q'
  | cons p ps=>
   refine hn.2 c _ f' s _ _ hsub X' (X'.get (.inl hm)) fun v o' h' tk rv hn' hs' ho'=>?_;have X₃:=(X'.iter (tk:=tk) hm hn.1.noSeq hs'.extBut).2 o' ho';have sub₃:Sub f₁ ((it,o')::less f' it):=fun p hp=>.tail _ (lessSub hsub p hp);refine u12 (X₃.ownNs (o':=pQ) .here) ?_;rintro m hns _;refine Si (Pr (m:=m) (bP k.nd k.x) hns (fun h₂ hn₂ hs₂=>?_) (by show ((relabel sc c.env).kind==.class||((relabel sc c.env).kind==.module&&_))=false;refine k.kind▸?_;rfl));have X₄:=X₃.setNs (tk:=tk+1) hn₂ (if_pos rfl) (rv.mono (Hq.mono sub₃)) hs₂;refine tt (q' _ _ X₄) (fun b s₅ hh=>?_) fun _ _ e=>e.noX;obtain ⟨st₅,f₅,a₅,X₅,q₅⟩:=hh;have sub₅:Sub f₁ f₅:=Sub.trans sub₃ a₅;cases b with
   | false=>
    refine u22 q₅ ?_;clear q₅;rintro vars own rfl q₅;exact ⟨ps.length,by simp at hl;exact y_5 hl,CompI.mk ps acc o' ⟨vars,own⟩ f₅ (some p) rfl sub₅ (a₅ _ (.head _)) hn' (by simp at hlen;exact HR hlen) X₅ q₅⟩
   | true=>
    refine tt (q₅ f₅ s₅ X₅) (fun w s₆ hh=>?_) fun _ _ e=>e.noX;obtain ⟨pv,st₆,f₆,a₆,X₆,r₆,vars,own,rfl,q₆⟩:=hh;refine u22 (X₆.ownList (o':=.list (acc++[pv])) (.there .here)) ?_;rintro vs n' ho rl;refine append_at ho (fun h₇ hs₇ ho₇=>?_) (by refine Ml▸rl.length▸MQ▸?_;simp at hlen;exact HQ hlen);refine ⟨ps.length,by simp at hl;exact y_5 hl,CompI.mk ps (acc++[pv]) o' ⟨vars,own⟩ f₆ (some p) rfl (Sub.trans sub₅ a₆) (a₆ _ (a₅ _ (.head _))) hn' (by simp at hlen⊢;exact HP hlen) ?_ q₆⟩;exact X₆.setList (vs':=vs++[w]) (n':=n'+1) (.there .here) hs₇ (by rw [ho₇];simp [fg]) (rl.snoc r₆)
 exact codeAny_compStart_list loop (hself _ _ _ (X2.get (.inl hm)) loop)
theorem tw {x:Str} {C D:Addr} {l:LB} {p:LD} {f:Led} {s:Shared} {h':Heap} (X:S g c ⟨st.vars,(C,dD x p)::(D,.list l)::st.own⟩ f s) (k:Og C s.heap h'):∃o,S g c st ((D,o)::f) { s with heap:=h' }∧Rep (Hq g ((D,o)::f)) (.ref D) (.lst l):=
 (X.dropNs k).freeze
theorem Ev.comp (ok:Ok g c A d) {elt iter:Expr} {x:Str} {px pos:Pos} {ifs:LS} {sc:Scope} (k:CompOk c x sc) {Q:LE} (hs:∀v,foldedSetIterable iter c.env v=pure v)
 (h:Ev g c A (eval iter c.env) st (fun v st₁=>∃items,IterS g A v items∧items.length≤1000∧∀C D,dW g c A (fV c sc C) x elt ifs C D (fun l st₂=>Q (.lst l) st₂) items [] st₁) R) :
 Ev g c A (eval (.ListComp elt [⟨.Name x px,iter,ifs,0⟩] sc pos) c.env) st Q R:=fun frz s X=>by
 rw [eval_ListComp];refine QV (e:=.ListComp elt [⟨.Name x px,iter,ifs,0⟩] sc pos) (g:=⟨.Name x px,iter,ifs,0⟩) (gs:=[]) (use:=Option.none) rfl hs (oX (env:=c.env) k.free) k.kind (fun y hy hl=>by
  obtain ⟨y,kd⟩:=y;subst hl;exact aA k.nd hy) (tt (h frz s X) (fun v s₁ hh=>?_) fun _ _ e=>e)
 obtain ⟨pv,st₁,f₁,a₁,X₁,r₁,items,hi,hlen,q⟩:=hh;refine hi c st₁ f₁ s₁ v _ _ X₁ r₁ fun o hfree hself hn=>?_;refine jv ok k (X₁.push o hfree) (fun p hp=>.tail _ hp) (.head _) hself hn (fun p hp=>Nh (MI (X₁.get (.inl hp)))) hlen q fun C D l p st' f s' hsub X' q'=>?_;refine u12 (X'.ownNs (o':=pQ) .here) ?_;rintro m hns _;refine (v12 m hns (fun h' hs'=>?_));refine u12 (tw X' hs') ?_;rintro o X2 r;exact ⟨.lst l,st',_,Sub.trans a₁ (fun p hp=>.tail _ (hsub p hp)),X2,r,q'⟩
theorem KS (ok:Ok g c A d) {elt iter:Expr} {x y:Str} {px py pos spos:Pos} {ifs:LS} {sc:Scope} (k:CompOk c x sc) {Q:LK} (hs:∀v,foldedSetIterable iter c.env v=pure v) (hy:(y,NameKind.local)∈c.cs.names) (hl:(py.line==pos.line)=true) (hne:(sc.names.any fun x=>x.1==y&&(x.2==.local||x.2==.cell))=false)
 (h:Ev g c A (eval iter c.env) st (fun v st₁=>∃items,IterS g A v items∧items.length≤1000∧∀C D,dW g c A (fV c sc C) x elt ifs C D (fun l st₂=>PutQ y (.lst l) st₂ (Q .next)) items [] st₁) R) :
 Ex g c A (exec (.Assign [.Name y py] (.ListComp elt [⟨.Name x px,iter,ifs,0⟩] sc pos) spos) c.env) st Q R:=fun frz s X=>by
 have hsw:swapsWith (.ListComp elt [⟨.Name x px,iter,ifs,0⟩] sc pos) (some (.Name y py)) spos.line c.env=pure true:=by
  unfold swapsWith;simp only [pure_bind];refine (show c.env.kindOf y=some .local from ok.isLocal hy).symm▸?_;have hb:c.env.blockKind=.function:=by
   unfold Sk;show (if c.cs.kind.isAnnotationScope then _ else c.cs.kind)=_;refine ok.kind.symm▸?_;rfl
  refine hb.symm▸?_;refine hl.symm▸hne.symm▸?_;rfl
 refine (exec_Assign_Name_used _ _ _ _ hsw)▸?_;refine KE (MW (KE ?_));show wpAny _ A (do let _←comprehension (.ListComp elt [⟨.Name x px,iter,ifs,0⟩] sc pos) sc c.env _ (PySem.newList []) false (eval iter c.env) (some (Py (.Name y py) c.env))) _ _ s;refine KE (tt (QV (e:=.ListComp elt [⟨.Name x px,iter,ifs,0⟩] sc pos) (g:=⟨.Name x px,iter,ifs,0⟩) (gs:=[]) (use:=some (Py (.Name y py) c.env)) (Q:=fun _ s'=>GotF g c frz Q Flow.next s') rfl hs (oX (env:=c.env) k.free) k.kind (fun y hy hl=>by
  obtain ⟨y,kd⟩:=y;subst hl;exact aA k.nd hy) (tt (h frz s X) (fun v s₁ hh=>?_) fun _ _ e=>e)) (fun _ s' hq=>Mh (Mh hq)) fun _ _ e=>e)
 obtain ⟨pv,st₁,f₁,a₁,X₁,r₁,items,hi,hlen,q⟩:=hh;refine hi c st₁ f₁ s₁ v _ _ X₁ r₁ fun o hfree hself hn=>?_;refine jv ok k (X₁.push o hfree) (fun p hp=>.tail _ hp) (.head _) hself hn (fun p hp=>Nh (MI (X₁.get (.inl hp)))) hlen q
  (RR:=fun acc C=>compPost (model g.prog g.w) A (Rz g c R frz) (some (Py (.Name y py) c.env)) (fun _ s'=>GotF g c frz Q Flow.next s') acc C) fun C D l p st' f s' hsub X' q'=>?_
 show wpAny _ A (Py (.Name y py) c.env (.ref D)) _ _ s';refine u12 (X'.less (Less.perm (List.Perm.swap _ _ _))).freeze ?_;rintro o X3 r;obtain ⟨vs',hp,q'⟩:=q';refine Si (dH ok X3 hp r fun s'' X4=>?_);refine u12 (X4.ownNs (o':=pQ) .here) ?_;rintro m hns _;refine (v12 m hns (fun h' hs'=>⟨.next,_,_,Sub.trans a₁ (fun p hp=>.tail _ (hsub p hp)),X4.dropNs hs',trivial,q'⟩))
end
set_option backward.match.sparseCases false
inductive BI where
 | len|ord|chr|str|range|max (u:Unit:=())
inductive M0 where
 | lower|isalpha|islower|isupper (u:Unit:=())
inductive M1 where
 | startswith|find (u:Unit:=())|index
inductive IE where
 | int (i:Int)|str (s:LA)|bool (b:Bool)|none
 | var (k:Nat)|cvar (k:Nat)|tvar
 | nil|cons (e r:IE)
 | call (f:Nat) (as:IE)|bi (b:BI) (as:IE)
 | bin (o:Operator) (a b:IE)|cmp (o:CmpOp) (a b:IE)|cmp2 (o o':CmpOp) (a b c:IE)
 | neg (a:IE)|not (a:IE)|bop (o:BoolOp) (a r:IE)|ite (t a b:IE)
 | tup (as:IE)|lst (as:IE)
 | sub (a i:IE)|slc (a lo hi:IE)|nopart
 | m0 (m:M0) (o:IE)|m1 (m:M1) (o e:IE)|join (s:LA) (e:IE)
 | olen (k:Nat)|oidx (k:Nat) (i:IE)|ojoin (s:LA) (k:Nat)
 | din (e:IE) (k:Nat)|dget (k:Nat) (e:IE)|hget (rd:Bool) (k:Nat) (e:IE)
inductive Slot where
 | un|val (v:PV)|own (l:LB)|dic (es:List (LA×PV))
abbrev LC:=List Slot
structure Wd where
 pen:Option (Addr×Int)
 host:Option (Addr×aS)
abbrev LL:=PV→Wd→Prop
abbrev LJ:=XC→Wd→Prop
inductive Rs (α:Type) where
 | ok (a:α) (w:Wd)|exc (x:XC) (w:Wd)|fail
noncomputable def Rs.bind {α β:Type}:Rs α→(α→Wd→Rs β)→Rs β
 | .ok a w,f=>f a w
 | .exc x w,_=>.exc x w
 | .fail,_=>.fail
noncomputable def Rs.noExc {α:Type}:Rs α→Rs α
 | .exc _ _=>.fail
 | r=>r
noncomputable def Rs.tryB {α β:Type}:Rs α→(α→Wd→Rs β)→(Wd→Rs β)→Rs β
 | .ok a w,f,_=>f a w
 | .exc _ w,_,g=>g w
 | .fail,_,_=>.fail
noncomputable def Rs.of {α:Type} (o:Option α) (w:Wd):Rs α:=match o with
 | some a=>.ok a w
 | none=>.fail
noncomputable def aV:LB→Option (List (LA))
 | []=>some []
 | .str s::r=>(aV r).map (s::·)
 | _=>none
noncomputable def dV:LB→Option (LR)
 | []=>some []
 | .int s::r=>(dV r).map (s::·)
 | _=>none
theorem lY (s:Int) (r:LB):dV (.int s::r)=(dV r).map (s::·):=rfl
noncomputable def eqs (f:PV→PV→Option Bool):LB→LB→Option Bool
 | [],[]=>some true
 | a::r,b::r'=>(f a b).bind fun x=>(eqs f r r').map (x&&·)
 | _,_=>some false
noncomputable def PV.int?:PV→Option Int
 | .int i=>some i
 | _=>Option.none
noncomputable def PV.str?:PV→Option (LA)
 | .str i=>some i
 | _=>Option.none
noncomputable def PV.seq?:PV→Option (LB)
 | .tup l|.lst l=>some l
 | _=>Option.none
theorem KJ {v:PV} {i:Int} (h:v.int? = some i):v=.int i:=by cases v<;>first|(injection h with h;exact congrArg _ h)|injection h
theorem KI {v:PV} {i:LA} (h:v.str? = some i):v=.str i:=by cases v<;>first|(injection h with h;exact congrArg _ h)|injection h
noncomputable def PV.bool?:PV→Option Bool
 | .bool i=>some i
 | _=>Option.none
noncomputable def PV.tup?:PV→Option (LB)
 | .tup l=>some l
 | _=>Option.none
noncomputable def PV.lst?:PV→Option (LB)
 | .lst l=>some l
 | _=>Option.none
theorem Lm {v:PV} {i:Bool} (h:v.bool? = some i):v=.bool i:=by cases v<;>first|(injection h with h;exact congrArg _ h)|injection h
theorem Lr {v:PV} {i:LB} (h:v.tup? = some i):v=.tup i:=by cases v<;>first|(injection h with h;exact congrArg _ h)|injection h
theorem KW {v:PV} {i:LB} (h:v.lst? = some i):v=.lst i:=by cases v<;>first|(injection h with h;exact congrArg _ h)|injection h
noncomputable def eqw (f:LB→LB→Option Bool) (a b:PV):Option Bool:=match a with
 | .none=>if b.isNone then some true else none
 | .bool x=>b.bool?.map (x==·)
 | .int x=>(b.int?.map fun y=>decide (x=y)).or (b.str?.map fun _=>false)
 | .str x=>(b.str?.map fun y=>decide (x=y)).or (b.int?.map fun _=>false)
 | .tup l=>b.tup?.bind (f l)
 | .lst l=>b.lst?.bind (f l)
 | _=>none
noncomputable def eqv:Nat→PV→PV→Option Bool
 | 0=>eqw fun _ _=>none
 | d+1=>eqw (eqs (eqv d))
noncomputable def ii {α:Type} (a b:PV) (f:Int→Int→Option α):Option α:=a.int?.bind fun i=>b.int?.bind fun j=>f i j
theorem Kz {α:Type} {a b:PV} {f:Int→Int→Option α} {r:α} (h:ii a b f=some r):∃i j,a=.int i∧b=.int j∧f i j=some r:=
 let ⟨i,h1,h⟩:=Md.mp h
 let ⟨j,h2,h⟩:=Md.mp h
 (v23 i j (KJ h1) (KJ h2) h)
theorem jp {α:Type} {a:PV} {f:Int→Option α} {r:α} {G:PV→Prop} (h:a.int?.bind f=some r) (k:∀i,f i=some r→G (.int i)):G a:=by
 refine u12 (Md.mp h) ?_;rintro i h1 h2;exact KJ h1▸k i h2
theorem rm {α:Type} {a:PV} {f:LA→Option α} {r:α} {G:PV→Prop} (h:a.str?.bind f=some r) (k:∀i,f i=some r→G (.str i)):G a:=by
 refine u12 (Md.mp h) ?_;rintro i h1 h2;exact KI h1▸k i h2
theorem FW {α:Type} {a:PV} {f:LB→Option α} {r:α} {G:PV→Prop} (h:a.lst?.bind f=some r) (k:∀i,f i=some r→G (.lst i)):G a:=by
 refine u12 (Md.mp h) ?_;rintro i h1 h2;exact KW h1▸k i h2
theorem ig {α:Type} {a b:PV} {f:Int→Int→Option α} {r:α} {G:PV→PV→Prop} (h:ii a b f=some r) (k:∀i j,f i j=some r→G (.int i) (.int j)):G a b:=
 jp (G:=fun a=>G a b) h fun i h=>jp (G:=fun b=>G (.int i) b) h fun j h=>k i j h
noncomputable def ss {α:Type} (a b:PV) (f:LA→LA→Option α):Option α:=a.str?.bind fun i=>b.str?.bind fun j=>f i j
theorem Il {α:Type} {a b:PV} {f:LA→LA→Option α} {r:α} (h:ss a b f=some r):∃i j,a=.str i∧b=.str j∧f i j=some r:=
 let ⟨i,h1,h⟩:=Md.mp h
 let ⟨j,h2,h⟩:=Md.mp h
 (v23 i j (KI h1) (KI h2) h)
noncomputable def mw {α:Type} (a b:PV) (f:Int→Int→Option α) (g:LA→LA→Option α):Option α:=match a with
 | .int i=>b.int?.bind (f i)
 | .str i=>b.str?.bind (g i)
 | _=>none
theorem gO {α:Type} {a b:PV} {f:Int→Int→Option α} {g:LA→LA→Option α} {r:α} {G:PV→PV→Prop} (h:mw a b f g=some r) (k:∀i j,f i j=some r→G (.int i) (.int j)) (k':∀i j,g i j=some r→G (.str i) (.str j)):G a b:=by
 cases a<;>first|(injection h;done)|skip
 ·exact jp (G:=fun b=>G _ b) h fun j h=>k _ j h
 ·exact rm (G:=fun b=>G _ b) h fun j h=>k' _ j h
noncomputable def inV (a b:PV) (g f:Bool→Bool):Option Bool:=a.str?.bind fun x=>match b with
 | .str y=>some (g (MV (txt y) (txt x) 0 (txt y).length 1).isEmpty)
 | v=>v.seq?.bind fun l=>(aV l).map fun ys=>f (decide (x∈ys))
noncomputable def dq:CmpOp→PV→PV→Option Bool
 | .Eq,a,b=>eqv 6 a b
 | .NotEq,a,b=>(eqv 6 a b).map (!·)
 | .Lt,a,b=>mw a b (fun a b=>some (decide (a<b))) fun a b=>some (decide (a<b))
 | .LtE,a,b=>mw a b (fun a b=>some (decide (a≤b))) fun a b=>some (!decide (b<a))
 | .Gt,a,b=>mw a b (fun a b=>some (decide (b<a))) fun a b=>some (decide (b<a))
 | .GtE,a,b=>mw a b (fun a b=>some (decide (b≤a))) fun a b=>some (!decide (a<b))
 | .Is,a,b=>if b.isNone then some a.isNone else none
 | .IsNot,a,b=>if b.isNone then some (!a.isNone) else none
 | .In,a,b=>inV a b (!·) id
 | .NotIn,a,b=>inV a b id (!·)
noncomputable def nG:Operator→PV→PV→LD
 | .Add,a,b=>match a with
  | .lst a=>(match b with
   | .lst b=>if a.length+b.length≤16777216 then some (.lst (a++b)) else none
   | _=>none)
  | a=>mw a b (fun a b=>some (.int (a+b))) fun a b=>if a.length+b.length≤16777216 then some (.str (a++b)) else none
 | .Sub,a,b=>ii a b fun a b=>some (.int (a-b))
 | .Mult,a,b=>ii a b fun a b=>if MG a≤64∨MG b≤64 then some (.int (a*b)) else none
 | .FloorDiv,a,b=>ii a b fun a b=>if b≠0∧b.natAbs<1073741824 then some (.int (a.fdiv b)) else none
 | .Mod,a,b=>ii a b fun a b=>if b≠0 then some (.int (a.fmod b)) else none
 | .Pow,a,b=>ii a b fun a b=>if 0≤b∧(MG a:Int)*b≤2 ^ 27 then some (.int (a ^ b.toNat)) else none
 | .LShift,a,b=>ii a b fun a b=>if 0≤b∧b≤1000000∧a.natAbs<2 ^ 64 then some (.int (a*2 ^ b.toNat)) else none
 | .RShift,a,b=>ii a b fun a b=>if 0≤b then some (.int (a.fdiv (2 ^ b.toNat))) else none
 | .BitAnd,a,b=>ii a b fun a b=>some (.int (Pf a b))
 | _,_,_=>none
noncomputable def Aj:Operator→PV→PV→LD
 | .Add,a,b=>ii a b fun a b=>some (.int (a+b))
 | .Sub,a,b=>ii a b fun a b=>some (.int (a-b))
 | _,_,_=>none
noncomputable def sM (a b:PV):LD:=b.int?.bind fun k=>match a with
 | .str x=>if x.length<2 ^ 62 then (seqIndex? k x.length).map fun j=>.str [x.getD j 0] else none
 | v=>v.seq?.bind fun l=>if l.length<2 ^ 62 then (seqIndex? k l.length).bind fun j=>l[j]? else none
noncomputable def gM:PV→Option (Option Int)
 | .none=>some none
 | .int i=>some (some i)
 | _=>none
noncomputable def uI (o l u:PV):LD:=match o with
 | .str x=>(gM l).bind fun lo=>(gM u).bind fun hi=>if x.length≤1048576 then some (.str (slc x lo hi)) else none
 | .lst x=>(gM l).bind fun lo=>(gM u).bind fun hi=>if x.length≤1048576 then some (.lst (slc x lo hi)) else none
 | .tup x=>if l.isNone then u.int?.bind fun b=>if x.length≤1048576∧b<0∧-(x.length:Int)≤b then some (.tup (x.take ((x.length:Int)+b).toNat)) else none else none
 | _=>none
noncomputable def pU:LR→Option Int
 | []=>none
 | a::r=>some (r.foldl (fun m x=>if m<x then x else m) a)
noncomputable def on1 {α:Type} (l:LB) (f:PV→Option α):Option α:=match l with
 | [a]=>f a
 | _=>none
theorem lw {α:Type} {l:LB} {f:PV→Option α} {r:α} {G:LB→Prop} (h:on1 l f=some r) (k:∀a,f a=some r→G [a]):G l:=by
 cases l with
 | nil=>injection h
 | cons a l=>cases l with
  | nil=>exact k a h
  | cons=>injection h
theorem Kt {α:Type} {l:LB} {f:PV→Option α} {r:α} (h:on1 l f=some r):∃a,l=[a]∧f a=some r:=match l,h with
 | [a],h=>(v12 a rfl h)
noncomputable def FL:LA→Option Nat
 | [n]=>some n
 | _=>none
theorem FK {l:LA} {n:Nat} (h:FL l=some n):l=[n]:=match l,h with
 | [_],h=>by injection h with h;subst h;rfl
noncomputable def Ir (v:PV):LD:=match v with
 | .str x=>if x.length<2 ^ 62 then some (.int x.length) else none
 | v=>v.seq?.bind fun x=>if x.length<2 ^ 62 then some (.int x.length) else none
noncomputable def yc:LB→LD
 | [a]=>a.int?.map fun n=>.range 0 n
 | [a,b]=>ii a b fun a n=>some (.range a n)
 | _=>none
noncomputable def biV:BI→LB→LD
 | .len,l=>on1 l Ir
 | .ord,l=>on1 l fun v=>v.str?.bind fun x=>(FL x).map fun (n:Nat)=>PV.int (n:Int)
 | .chr,l=>on1 l fun v=>v.int?.bind fun n=>if 0≤n∧n≤0x10FFFF then some (.str [n.toNat]) else none
 | .str,l=>on1 l fun v=>v.int?.bind fun n=>if n.natAbs.log2<1920 then some (.str (Ny (toString n)).cps.toList) else none
 | .range,l=>yc l
 | .max,l=>on1 l fun v=>v.lst?.bind fun l=>(dV l).bind fun is=>(pU is).map .int
noncomputable def m0V (m:M0) (v:PV):LD:=v.str?.bind fun x=>match m with
 | .lower=>if Ol (OU (txt x)).length=false then some (.str (OU (txt x)).cps.toList) else none
 | .isalpha=>some (.bool (SM (txt x)))
 | .islower=>some (.bool (SJ (txt x)))
 | .isupper=>some (.bool (SI (txt x)))
noncomputable def m1V (m:M1) (a b:PV):LD:=ss a b fun x y=>match m with
 | .startswith=>some (.bool (Po (txt x) (txt y)))
 | .find=>some (.int (NQ (txt x) (txt y)))
 | .index=>if 0≤NQ (txt x) (txt y) then some (.int (NQ (txt x) (txt y))) else none
noncomputable def cq (sep:LA):List (LA)→LA
 | []=>[]
 | [a]=>a
 | a::b::r=>a++sep++cq sep (b::r)
noncomputable def dN (sep:LA) (l:LB):LD:=
 (aV l).bind fun ys=>if sep.length≤16∧(ys.map (·.length)).sum+ys.length≤1048576 then some (.str (cq sep ys)) else none
noncomputable def xY:PV→Option (LB)
 | .tup l|.lst l=>some l
 | _=>none
noncomputable def mQ:PV→Option (LB)
 | .tup l|.lst l=>some l
 | .str x=>some (eB x)
 | .range a b=>if -1000000≤a∧b≤1000000∧a≤1000000∧-1000000≤b then some (bh a (b-a).toNat) else none
 | _=>none
noncomputable def hY:PV→Option (LB)
 | .lst l=>some l
 | .range a b=>if -1000000≤a∧b≤1000000∧a≤1000000∧-1000000≤b then some (bh a (b-a).toNat) else none
 | _=>none
structure Fv where
 vs:LC
 cs:List (LD)
 tv:LD
noncomputable def Fv.var (F:Fv) (k:Nat):LD:=match F.vs[k]? with
 | some (.val v)=>some v
 | _=>none
noncomputable def Fv.own (F:Fv) (k:Nat):Option (LB):=match F.vs[k]? with
 | some (.own l)=>some l
 | _=>none
noncomputable def Fv.dic (F:Fv) (k:Nat):Option (List (LA×PV)):=match F.vs[k]? with
 | some (.dic l)=>some l
 | _=>none
noncomputable def Fv.cvar (F:Fv) (k:Nat):LD:=match F.cs[k]? with
 | some (some v)=>some v
 | _=>none
abbrev ax:=Nat→LB→Wd→Rs PV
noncomputable def bK:PV→Wd→Rs Bool
 | .bool b,w=>.ok b w
 | _,_=>.fail
noncomputable def fA:PV→Wd→Rs (LB)
 | .tup l,w=>.ok l w
 | _,_=>.fail
noncomputable def cY {α:Type} (v:PV) (f:LA→Rs α):Rs α:=match v with
 | .str s=>f s
 | _=>.fail
noncomputable def on {α:Type} (v:PV) (f:Int→Rs α):Rs α:=match v with
 | .int s=>f s
 | _=>.fail
noncomputable def FN {α:Type} (v:PV) (f:PV→PV→Rs α):Rs α:=match v with
 | .tup [a,b]=>f a b
 | _=>.fail
noncomputable def FM {α:Type} (v:PV) (f:PV→PV→PV→Rs α):Rs α:=match v with
 | .tup [a,b,c]=>f a b c
 | _=>.fail
noncomputable def eO (x:PV) (w:Wd):Rs Addr:=match x,w.host with
 | .ref a,some (a',_)=>if a=a' then .ok a w else .fail
 | _,_=>.fail
noncomputable def eN {α:Type} (v:PV) (w:Wd) (a:Addr) (f:LA→aS→Rs α):Rs α:=match v,w.host with
 | .str n,some p=>if a=p.1∧p.2.length≤1000 then f n p.2 else .fail
 | _,_=>.fail
noncomputable def evE (call:ax) (F:Fv):IE→Wd→Rs PV
 | .int i,w=>.ok (.int i) w
 | .str s,w=>.ok (.str s) w
 | .bool b,w=>.ok (.bool b) w
 | .none,w=>.ok .none w
 | .nopart,w=>.ok .none w
 | .var k,w=>.of (F.var k) w
 | .cvar k,w=>.of (F.cvar k) w
 | .tvar,w=>.of F.tv w
 | .nil,w=>.ok (.tup []) w
 | .cons e r,w=>(evE call F e w).bind fun v w=>(evE call F r w).bind fun vs w=>(fA vs w).bind fun l w=>.ok (.tup (v::l)) w
 | .call f as,w=>(evE call F as w).bind fun vs w=>(fA vs w).bind fun l w=>call f l w
 | .bi b as,w=>(evE call F as w).bind fun vs w=>(fA vs w).bind fun l w=>.of (biV b l) w
 | .bin o a b,w=>(evE call F a w).bind fun x w=>(evE call F b w).bind fun y w=>.of (nG o x y) w
 | .cmp o a b,w=>(evE call F a w).bind fun x w=>(evE call F b w).bind fun y w=>.of ((dq o x y).map .bool) w
 | .cmp2 o o' a b c,w=>(evE call F a w).bind fun x w=>(evE call F b w).bind fun y w=>(Rs.of (dq o x y) w).bind fun r w=>
  if r then (evE call F c w).bind fun z w=>.of ((dq o' y z).map .bool) w else .ok (.bool false) w
 | .neg a,w=>(evE call F a w).bind fun v w=>on v fun i=>.ok (.int (-i)) w
 | .not a,w=>(evE call F a w).bind fun v w=>(bK v w).bind fun b w=>.ok (.bool !b) w
 | .bop o a r,w=>(evE call F a w).bind fun v w=>(bK v w).bind fun b w=>if b==(o==.And) then evE call F r w else .ok (.bool b) w
 | .ite t a b,w=>(evE call F t w).bind fun v w=>(bK v w).bind fun c w=>if c then evE call F a w else evE call F b w
 | .tup as,w=>(evE call F as w).bind fun vs w=>(fA vs w).bind fun l w=>if l.length≤1000 then .ok (.tup l) w else .fail
 | .lst as,w=>(evE call F as w).bind fun vs w=>(fA vs w).bind fun l w=>if l.length≤1000 then .ok (.lst l) w else .fail
 | .sub a i,w=>(evE call F a w).bind fun x w=>(evE call F i w).bind fun y w=>.of (sM x y) w
 | .slc a lo hi,w=>(evE call F a w).bind fun x w=>(evE call F lo w).bind fun l w=>(evE call F hi w).bind fun u w=>.of (uI x l u) w
 | .m0 m o,w=>(evE call F o w).bind fun x w=>.of (m0V m x) w
 | .m1 m o e,w=>(evE call F o w).bind fun x w=>cY x fun s=>(evE call F e w).bind fun y w=>.of (m1V m (.str s) y) w
 | .join s e,w=>(evE call F e w).bind fun v w=>.of ((xY v).bind (dN s)) w
 | .olen k,w=>.of ((F.own k).bind fun l=>if l.length<2 ^ 62 then some (.int l.length) else none) w
 | .oidx k i,w=>(Rs.of (F.own k) w).bind fun l w=>(evE call F i w).bind fun v w=>.of (sM (.lst l) v) w
 | .ojoin s k,w=>.of ((F.own k).bind (dN s)) w
 | .din e k,w=>(Rs.of (F.dic k) w).bind fun es w=>(evE call F e w).bind fun v w=>cY v fun x=>.ok (.bool (es.lookup x).isSome) w
 | .dget k e,w=>(Rs.of (F.dic k) w).bind fun es w=>(evE call F e w).bind fun v w=>cY v fun x=>.of (es.lookup x) w
 | .hget rd k e,w=>(Rs.of (F.var k) w).bind fun x w=>(eO x w).bind fun a w=>(evE call F e w).bind fun v w=>eN v w a fun n b=>if rd then .of ((b.lookup n).map .str) w else .ok (.bool (b.lookup n).isSome) w
inductive IC where
 | nil|cons (s r:IC)
 | assign (k:Nat) (e:IE)|aug (k:Nat) (o:Operator) (e:IE)
 | ite (t:IE) (a b:IC)|whl (t:IE) (b:IC)|for_ (k:Nat) (e:IE) (b:IC)
 | ret (e:IE)|retN|brk|pass
 | raiseE (a b:IE)|raiseW (a:IE)|eff (e:IE)
 | tup2 (j k:Nat) (e:IE)|tup3 (i j k:Nat) (e:IE)
 | onew (k:Nat)|oapp (k:Nat) (e:IE)
 | dnew (k:Nat) (ks:List (LA)) (vs:IE)|hwrite (k:Nat) (a b:IE)
 | tryR (k:Nat) (e:IE) (b:Bool) (j:Nat)
 | lcomp (k:Nat) (it t elt:IE)
structure IS where
 vs:LC
 cs:List (LD)
noncomputable abbrev IS.F (is:IS):Fv:=⟨is.vs,is.cs,none⟩
noncomputable def Slot.free:Slot→Bool
 | .own _|.dic _=>false
 | _=>true
noncomputable def li:LC→Nat→PV→Option (LC)
 | [],_,_=>none
 | s::r,0,v=>if s.free then some (.val v::r) else none
 | s::r,k+1,v=>(li r k v).map (s::·)
theorem rP (s:Slot) (r:LC) (v:PV):li (s::r) 0 v=if s.free then some (.val v::r) else none:=rfl
theorem mu (s:Slot) (r:LC) (k:Nat) (v:PV):li (s::r) (k+1) v=(li r k v).map (s::·):=rfl
noncomputable def IS.put (is:IS) (k:Nat) (v:PV):Option IS:=(li is.vs k v).map fun vs=>⟨vs,is.cs⟩
noncomputable def Ll:Slot→Bool
 | .un=>true
 | _=>false
noncomputable def yH {α:Type} (is:IS) (k:Nat) (r:Rs α):Rs α:=if (is.vs[k]?).any Ll then r else .fail
noncomputable def eA (test:IS→Wd→Rs Bool) (body:IS→Wd→Rs (AF×IS)):Nat→IS→Wd→Rs (AF×IS)
 | 0,_,_=>.fail
 | n+1,is,w=>(test is w).bind fun b w=>if b then (body is w).bind fun p w=>match p.1 with
  | .next|.cont=>eA test body n p.2 w
  | .brk=>.ok (.next,p.2) w
  | .ret v=>.ok (.ret v,p.2) w
  else .ok (.next,is) w
theorem oB (test:IS→Wd→Rs Bool) (body:IS→Wd→Rs (AF×IS)) (n:Nat) (is:IS) (w:Wd):eA test body (n+1) is w=(test is w).bind fun b w=>if b then (body is w).bind fun p w=>match p.1 with
 | .next|.cont=>eA test body n p.2 w
 | .brk=>.ok (.next,p.2) w
 | .ret v=>.ok (.ret v,p.2) w
 else .ok (.next,is) w:=rfl
noncomputable def dA (k:Nat) (body:IS→Wd→Rs (AF×IS)):LB→IS→Wd→Rs (AF×IS)
 | [],is,w=>.ok (.next,is) w
 | p::ps,is,w=>(Rs.of (is.put k p) w).bind fun is w=>(body is w).bind fun p w=>match p.1 with
  | .next|.cont=>dA k body ps p.2 w
  | .brk=>.ok (.next,p.2) w
  | .ret v=>.ok (.ret v,p.2) w
theorem kc (k:Nat) (body:IS→Wd→Rs (AF×IS)) (p:PV) (ps:LB) (is:IS) (w:Wd):dA k body (p::ps) is w=(Rs.of (is.put k p) w).bind fun is w=>(body is w).bind fun p w=>match p.1 with
 | .next|.cont=>dA k body ps p.2 w
 | .brk=>.ok (.next,p.2) w
 | .ret v=>.ok (.ret v,p.2) w:=rfl
noncomputable def fD:LA:=(Ny "wrong # args: should be \"").cps.toList
noncomputable def aO (usage:LA):XC:=⟨1,fD++usage++[34],.tup [.str (Ny "TCL").cps.toList,.str (Ny "WRONGARGS").cps.toList]⟩
noncomputable def ip:Nat:=300
noncomputable def dS (call:ax) (cs:List (LD)) (t elt:IE):LB→Wd→Rs (LB)
 | [],w=>.ok [] w
 | p::ps,w=>(evE call ⟨[],cs,some p⟩ t w).noExc.bind fun b w=>(bK b w).bind fun b w=>if b then (evE call ⟨[],cs,some p⟩ elt w).noExc.bind fun v w=>(dS call cs t elt ps w).bind fun l w=>.ok (v::l) w
  else dS call cs t elt ps w
theorem vV (call:ax) (cs:List (LD)) (t elt:IE) (p:PV) (ps:LB) (w:Wd):dS call cs t elt (p::ps) w=(evE call ⟨[],cs,some p⟩ t w).noExc.bind fun b w=>(bK b w).bind fun b w=>if b then (evE call ⟨[],cs,some p⟩ elt w).noExc.bind fun v w=>(dS call cs t elt ps w).bind fun l w=>.ok (v::l) w
 else dS call cs t elt ps w:=rfl
noncomputable def exC (call:ax):IC→IS→Wd→Rs (AF×IS)
 | .nil,is,w=>.ok (.next,is) w
 | .cons s r,is,w=>(exC call s is w).bind fun p w=>match p.1 with
  | .next=>exC call r p.2 w
  | f=>.ok (f,p.2) w
 | .assign k e,is,w=>(evE call is.F e w).bind fun v w=>(Rs.of (is.put k v) w).bind fun is w=>.ok (.next,is) w
 | .aug k o e,is,w=>(Rs.of (is.F.var k) w).bind fun x w=>(evE call is.F e w).bind fun y w=>(Rs.of (Aj o x y) w).bind fun v w=>(Rs.of (is.put k v) w).bind fun is w=>.ok (.next,is) w
 | .ite t a b,is,w=>(evE call is.F t w).bind fun v w=>(bK v w).bind fun c w=>if c then exC call a is w else exC call b is w
 | .whl t b,is,w=>eA (fun is w=>(evE call is.F t w).bind bK) (exC call b) ip is w
 | .for_ k e b,is,w=>(evE call is.F e w).bind fun v w=>(Rs.of (mQ v) w).bind fun l w=>dA k (exC call b) l is w
 | .ret e,is,w=>(evE call is.F e w).bind fun v w=>.ok (.ret v,is) w
 | .retN,is,w=>.ok (.ret .none,is) w
 | .brk,is,w=>.ok (.brk,is) w
 | .pass,is,w=>.ok (.next,is) w
 | .raiseE a b,is,w=>(evE call is.F a w).bind fun x w=>cY x fun s=>(evE call is.F b w).bind fun y w=>.exc ⟨1,s,y⟩ w
 | .raiseW a,is,w=>(evE call is.F a w).bind fun x w=>cY x fun s=>if s.length≤1000 then .exc (aO s) w else .fail
 | .eff e,is,w=>(evE call is.F e w).bind fun v w=>if v.isNone then .ok (.next,is) w else .fail
 | .tup2 j k e,is,w=>(evE call is.F e w).bind fun v w=>FN v fun a b=>(Rs.of (is.put j a) w).bind fun is w=>(Rs.of (is.put k b) w).bind fun is w=>.ok (.next,is) w
 | .tup3 i j k e,is,w=>(evE call is.F e w).bind fun v w=>FM v fun a b c=>(Rs.of (is.put i a) w).bind fun is w=>(Rs.of (is.put j b) w).bind fun is w=>(Rs.of (is.put k c) w).bind fun is w=>.ok (.next,is) w
 | .onew k,is,w=>yH is k (.ok (.next,{ is with vs:=is.vs.set k (.own []) }) w)
 | .oapp k e,is,w=>(Rs.of (is.F.own k) w).bind fun l w=>(evE call is.F e w).bind fun v w=>if l.length<1048576 then .ok (.next,{ is with vs:=is.vs.set k (.own (l++[v])) }) w else .fail
 | .dnew k ks vs,is,w=>yH is k ((evE call is.F vs w).noExc.bind fun v w=>(fA v w).bind fun l w=>.ok (.next,{ is with vs:=is.vs.set k (.dic (ks.zip l)) }) w)
 | .hwrite k a b,is,w=>(Rs.of (is.F.var k) w).bind fun x w=>(eO x w).bind fun d w=>(evE call is.F a w).bind fun u w=>cY u fun n=>(evE call is.F b w).bind fun v w=>eN v w d fun t bk=>.ok (.next,is) { w with host:=some (d,dt bk n t) }
 | .tryR k e b j,is,w=>(evE call is.F e w).tryB (fun v w=>(Rs.of (is.put k v) w).bind fun is w=>.ok (.next,is) w) fun w=>(Rs.of (is.F.var j) w).bind fun v w=>.ok (.ret (.tup [.bool b,v]),is) w
 | .lcomp k it t elt,is,w=>(evE call is.F it w).bind fun v w=>(Rs.of (hY v) w).bind fun l w=>if l.length≤1000 then (dS call is.cs t elt l w).bind fun l w=>(Rs.of (is.put k (.lst l)) w).bind fun is w=>.ok (.next,is) w else .fail
structure Nm where
 ns:LP
 own:LA
 dic:LA
 cn:LP
 tn:Option Str
 gl:LP
noncomputable def lk (l:LP) (x:Str):Option Nat:=l.findIdx? (·==x)
noncomputable def dm:List (Str×Nat):=([("error",8),("wrong_args",9),("listing",10),("pick",11),("is_blank",17),("digit",18),("digits_value",19),("base_of",20),("whole_of",21),("bool_of",22),("text_of",23),("wide",24),
 ("hex_sign",26),("octal_sign",27),("backslash",28),("check_behind",30),("braced_element",31),("quoted_element",32),("bare_element",33),("find_element",34),("default_trim",36),("class_names",37),
 ("is_letter",38),("is_word_sign",39),("is_space",40),("is_control",41),("is_punct",42),("sign_fits",43),("truth_class",44),("whole_class",45),("list_class",46),("is_class",47),("string_is",59),
 ("_law_names",61),("_law_signs",62),("_law_rows",63),("_law_options",64),("_law_draw",65),("_law_turned",66),("_law_member",67),("_law_whole",68),("_law_number",69),("_law_truth",70),("_law_behind",71),("_law_element",72),
 ("_law_list",73),("_law_is",74),("_law_meant",75),("_law_usage",76),("_law_due",77),("_law_heard",78),("_law_command_right",79),("_law_row_right",80)]:List (String×Nat)).map fun p=>(Ny p.1,p.2)
noncomputable def BI.nm:BI→Str
 | .len=>"len" | .ord=>"ord" | .chr=>"chr" | .str=>"str" | .range=>"range" | .max=>"max"
noncomputable def M0.nm:M0→Str
 | .lower=>"lower" | .isalpha=>"isalpha" | .islower=>"islower" | .isupper=>"isupper"
noncomputable def M1.nm:M1→Str
 | .startswith=>"startswith" | .find=>"find" | .index=>"index"
noncomputable def yF (n:Nm) (x:Str):Option Nat:=(lk n.ns x).bind fun k=>if n.own.contains k then some k else none
noncomputable def vU (n:Nm) (x:Str):Option Nat:=(lk n.ns x).bind fun k=>if n.dic.contains k then some k else none
noncomputable def uw (n:Nm) (x:Str):Option Nat:=(lk n.ns x).bind fun k=>if n.own.contains k||n.dic.contains k then none else some k
noncomputable def pt:Expr→Nat×Str×List (Option Expr)×Scope
 | .Constant _ k _=>(k,default,[],default)
 | .Tuple _ k _=>(k,default,[],default)
 | .Name x _=>(0,x,[],default)
 | .Dict ks _ _=>(0,default,ks,default)
 | .ListComp _ _ sc _=>(0,default,[],sc)
 | _=>(0,default,[],default)
noncomputable def num (e:Expr):Nat:=(pt e).1
noncomputable def vO (e:Expr):Str:=(pt e).2.1
noncomputable def GE (e:Expr):List (Option Expr):=(pt e).2.2.1
noncomputable def lsc (e:Expr):Scope:=(pt e).2.2.2
noncomputable def sk (f:Expr):Bool:=vO f != "super"
noncomputable def cj:Expr→Bool
 | .Constant ..=>true|.Name ..=>true|.BinOp ..=>true|.Compare ..=>true|.UnaryOp ..=>true|.BoolOp ..=>true|.IfExp ..=>true|.Tuple ..=>true|.List ..=>true|.Subscript ..=>true
 | .Call f _ _ _=>sk f
 | _=>false
noncomputable def cz:Expr:=.Starred (.Name default default) default
noncomputable def et:Expr→LS
 | .Call f es _ _=>f::es
 | .Attribute o _ _=>[o]
 | .BinOp l _ r _=>[l,r]
 | .Compare l _ rs _=>l::rs
 | .UnaryOp _ x _=>[x]
 | .BoolOp _ es _=>es
 | .IfExp t a b _=>[t,a,b]
 | .Tuple es _ _=>es
 | .List es _=>es
 | .Subscript x y _=>[x,y]
 | .Slice l u _ _=>[l.getD cz,u.getD cz]
 | .ListComp e gs _ _=>e::gs.flatMap fun c=>c.target::c.iter::c.ifs
 | .Dict _ vs _=>vs
 | _=>[]
noncomputable def kid (x:Expr) (i:Nat):Expr:=(et x).getD i cz
noncomputable abbrev obj (x:Expr):Expr:=kid (kid x 0) 0
noncomputable def nmd (l:LP) (k:Nat):Str:=l.getD k default
noncomputable def oK (f:Nat):Str:=((dm.find? fun p=>p.2==f).map (·.1)).getD default
structure TrE where
 e:Expr→Expr
 es:LS→LS
 ok:Expr→Bool
 oks:LS→Bool
noncomputable abbrev xT (e:Expr→Expr) (ok:Expr→Bool):TrE:=⟨e,fun _=>[],ok,fun _=>false⟩
noncomputable abbrev lP (x:Expr) (f:Str) (es:LS):Expr:=.Call (.Name f (kid x 0).pos) es [] x.pos
noncomputable abbrev gW (x o:Expr) (a:Str) (es:LS):Expr:=.Call (.Attribute o a (kid x 0).pos) es [] x.pos
noncomputable def eM (x:Expr):Bool:=(kid x 0).pos.endLine==x.pos.line
noncomputable abbrev bw (x:Expr) (l:LP) (k:Nat):Expr:=.Name (nmd l k) x.pos
noncomputable abbrev uC (x:Expr) (s:LA):Expr:=.Constant (.str (txt s)) (num x) x.pos
noncomputable def cI (n:Nm) (k:Nat):Bool:=uw n (nmd n.ns k)==some k
noncomputable def lH (n:Nm) (k:Nat):Bool:=yF n (nmd n.ns k)==some k
noncomputable def sL (n:Nm) (k:Nat):Bool:=vU n (nmd n.ns k)==some k
noncomputable def IE.isNopart:IE→Bool
 | .nopart=>true
 | _=>false
noncomputable def IE.isBop (o:BoolOp):IE→Bool
 | .bop o' _ _=>o'==o
 | _=>false
noncomputable def po (ie:IE) (T:TrE) (y:Expr):Option Expr:=if ie.isNopart then none else some (T.e y)
noncomputable def pk (ie:IE) (T:TrE) (y:Expr):Bool:=ie.isNopart||T.ok y
noncomputable def GG (o:BoolOp) (x:Expr):Expr:=.BoolOp o (et x).tail x.pos
noncomputable def Ag (o:BoolOp) (x:Expr) (T:TrE):LS:=if 2<(et x).length then et (T.e (GG o x)) else [T.e (kid x 1)]
noncomputable def Ah (o:BoolOp) (x:Expr) (r:IE) (T:TrE):Bool:=if 2<(et x).length then r.isBop o&&T.ok (GG o x) else T.ok (kid x 1)
noncomputable def tr (n:Nm):IE→TrE
 | .int i=>xT (fun x=>.Constant (.int i) (num x) x.pos) fun _=>true
 | .str s=>xT (fun x=>uC x s) fun _=>true
 | .bool b=>xT (fun x=>.Constant (.bool b) (num x) x.pos) fun _=>true
 | .none=>xT (fun x=>.Constant .none (num x) x.pos) fun _=>true
 | .nopart=>xT (fun _=>cz) fun _=>false
 | .var k=>xT (fun x=>bw x n.ns k) fun _=>cI n k
 | .cvar k=>xT (fun x=>bw x n.cn k) fun _=>(lk n.ns (nmd n.cn k)).isNone&&lk n.cn (nmd n.cn k)==some k
 | .tvar=>xT (fun x=>.Name (n.tn.getD default) x.pos) fun _=>(lk n.ns (n.tn.getD default)).isNone&&(lk n.cn (n.tn.getD default)).isNone&&n.tn==some (n.tn.getD default)
 | .nil=>⟨fun _=>cz,fun _=>[],fun _=>false,fun _=>true⟩
 | .cons a r=>⟨fun _=>cz,fun xs=>(tr n a).e (xs.headD cz)::(tr n r).es xs.tail,fun _=>false,fun xs=>(tr n a).ok (xs.headD cz)&&(tr n r).oks xs.tail⟩
 | .call f as=>xT (fun x=>lP x (oK f) ((tr n as).es (et x).tail)) fun x=>oK f != "super" && dm.lookup (oK f)==some f&&n.gl.contains (oK f)&&(tr n as).oks (et x).tail
 | .bi b as=>xT (fun x=>lP x b.nm ((tr n as).es (et x).tail)) fun x=>n.gl.contains b.nm&&(tr n as).oks (et x).tail
 | .bin o a b=>xT (fun x=>.BinOp ((tr n a).e (kid x 0)) o ((tr n b).e (kid x 1)) x.pos) fun x=>(tr n a).ok (kid x 0)&&(tr n b).ok (kid x 1)
 | .cmp o a b=>xT (fun x=>.Compare ((tr n a).e (kid x 0)) [o] [(tr n b).e (kid x 1)] x.pos) fun x=>(tr n a).ok (kid x 0)&&(tr n b).ok (kid x 1)
 | .cmp2 o o' a b c=>xT (fun x=>.Compare ((tr n a).e (kid x 0)) [o,o'] [(tr n b).e (kid x 1),(tr n c).e (kid x 2)] x.pos) fun x=>(tr n a).ok (kid x 0)&&(tr n b).ok (kid x 1)&&(tr n c).ok (kid x 2)
 | .neg a=>xT (fun x=>.UnaryOp .USub ((tr n a).e (kid x 0)) x.pos) fun x=>(tr n a).ok (kid x 0)
 | .not a=>xT (fun x=>.UnaryOp .Not ((tr n a).e (kid x 0)) x.pos) fun x=>(tr n a).ok (kid x 0)
 | .bop o a r=>xT (fun x=>.BoolOp o ((tr n a).e (kid x 0)::Ag o x (tr n r)) x.pos) fun x=>(tr n a).ok (kid x 0)&&Ah o x r (tr n r)
 | .ite t a b=>xT (fun x=>.IfExp ((tr n t).e (kid x 0)) ((tr n a).e (kid x 1)) ((tr n b).e (kid x 2)) x.pos) fun x=>(tr n t).ok (kid x 0)&&(tr n a).ok (kid x 1)&&(tr n b).ok (kid x 2)
 | .tup as=>xT (fun x=>.Tuple ((tr n as).es (et x)) (num x) x.pos) fun x=>(tr n as).oks (et x)
 | .lst as=>xT (fun x=>.List ((tr n as).es (et x)) x.pos) fun x=>(tr n as).oks (et x)
 | .sub a i=>xT (fun x=>.Subscript ((tr n a).e (kid x 0)) ((tr n i).e (kid x 1)) x.pos) fun x=>(tr n a).ok (kid x 0)&&(tr n i).ok (kid x 1)
 | .slc a l u=>xT (fun x=>.Subscript ((tr n a).e (kid x 0)) (.Slice (po l (tr n l) (kid (kid x 1) 0)) (po u (tr n u) (kid (kid x 1) 1)) none (kid x 1).pos) x.pos) fun x=>(tr n a).ok (kid x 0)&&pk l (tr n l) (kid (kid x 1) 0)&&pk u (tr n u) (kid (kid x 1) 1)
 | .m0 m o=>xT (fun x=>gW x ((tr n o).e (obj x)) m.nm []) fun x=>eM x&&(tr n o).ok (obj x)
 | .m1 m o a=>xT (fun x=>gW x ((tr n o).e (obj x)) m.nm [(tr n a).e (kid x 1)]) fun x=>eM x&&(tr n o).ok (obj x)&&(tr n a).ok (kid x 1)
 | .join s a=>xT (fun x=>gW x (uC (obj x) s) "join" [(tr n a).e (kid x 1)]) fun x=>eM x&&(tr n a).ok (kid x 1)
 | .olen k=>xT (fun x=>lP x "len" [bw (kid x 1) n.ns k]) fun x=>n.gl.contains "len" && lH n k
 | .oidx k i=>xT (fun x=>.Subscript (bw (kid x 0) n.ns k) ((tr n i).e (kid x 1)) x.pos) fun x=>lH n k&&(tr n i).ok (kid x 1)
 | .ojoin s k=>xT (fun x=>gW x (uC (obj x) s) "join" [bw (kid x 1) n.ns k]) fun x=>eM x&&lH n k
 | .din a k=>xT (fun x=>.Compare ((tr n a).e (kid x 0)) [.In] [bw (kid x 1) n.ns k] x.pos) fun x=>(tr n a).ok (kid x 0)&&sL n k
 | .dget k i=>xT (fun x=>.Subscript (bw (kid x 0) n.ns k) ((tr n i).e (kid x 1)) x.pos) fun x=>sL n k&&(tr n i).ok (kid x 1)
 | .hget rd k a=>xT (fun x=>gW x (bw (obj x) n.ns k) (if rd then "read" else "has") [(tr n a).e (kid x 1)]) fun x=>eM x&&cI n k&&(tr n a).ok (kid x 1)
theorem ff {p:Prop} (h:false=true):p:=nomatch h
inductive IsL1:IE→Prop
 | nil:IsL1 .nil
 | cons (a r:IE):IsL1 (.cons a r)
theorem se {n:Nm} {ie:IE} {xs:LS} (h:(tr n ie).oks xs=true):IsL1 ie:=by cases ie<;>first|exact ff h|exact .nil|exact .cons _ _
theorem vJ {o:BoolOp} {r:IE} (h:r.isBop o=true):∃a b,r=.bop o a b:=by
 cases r<;>first|exact ff h|exact (v21 _ _ (by rw [eq_of_beq h]))
theorem mS {r:IE} (h:r.isNopart=true):r=.nopart:=by cases r<;>first|exact ff h|rfl
noncomputable abbrev kx (o:Option Expr):Expr:=o.getD cz
noncomputable def sE:List (LA)→List (Option Expr)→LS
 | [],_=>[]
 | s::ks,os=>uC (kx (os.headD none)) s::sE ks os.tail
noncomputable def uy (f g:Expr→Bool):LS→Bool
 | [e,e']=>f e&&g e'
 | _=>false
noncomputable def rI:LS→Bool
 | [a,b]=>a.pos.line==b.pos.line
 | _=>false
noncomputable def rW (v:Expr) (ts:LS):Bool:=match v with
 | .Tuple es _ _=>uy (fun a=>foldedForSure 8 a) (fun b=>foldedForSure 8 b) es||(rI ts&&uy cj cj es&&!uy (fun a=>constantsAlone 8 a) (fun b=>constantsAlone 8 b) es)
 | _=>true
noncomputable def Ft (f g h:Expr→Bool):LS→Bool
 | [e,e',e'']=>f e&&g e'&&h e''
 | _=>false
noncomputable def kR (v:Expr):Bool:=match v with
 | .Tuple es _ _=>Ft (fun a=>foldedForSure 8 a) (fun a=>foldedForSure 8 a) (fun a=>foldedForSure 8 a) es
 | _=>true
noncomputable def sp:Stmt→LS×List (LT)×Expr×Pos
 | .Assign ts v _=>([ts.headD cz,v],[],cz,default)
 | .AugAssign t _ v _=>([t,v],[],cz,default)
 | .If t a b _=>([t],[a,b],cz,default)
 | .While t b _ _=>([t],[b],cz,default)
 | .For x e b _ _=>([x,e],[b],cz,default)
 | .Return e _=>([e.getD cz],[],cz,default)
 | .Expr e _=>([e],[],cz,default)
 | .Raise e _ _=>([e.getD cz],[],cz,default)
 | .Try a hs _ _ _=>([],a::hs.map fun h=>h.3,(hs.head?.bind fun h=>h.1).getD cz,(hs.head?.map fun h=>h.4).getD default)
 | _=>([],[],cz,default)
noncomputable def Fy (x:Stmt):LS:=(sp x).1
noncomputable def aB (x:Stmt) (i:Nat):Expr:=(Fy x).getD i cz
noncomputable def qD:Stmt:=.Pass default
noncomputable def Kk (x:Stmt):List (LT):=(sp x).2.1
noncomputable def blk (x:Stmt) (i:Nat):LT:=(Kk x).getD i []
noncomputable def hnd (x:Stmt):Expr×Pos:=(sp x).2.2
noncomputable def eu (n:Nm) (x:Str) (sc:Scope):Nm:=⟨[],[],[],n.cn,some x,(sc.names.filter fun y=>y.2==.globalImplicit).map (·.1)⟩
noncomputable def mq (n:Nm) (x:Str) (sc:Scope):Bool:=sc.kind==.function&&decide (sc.names.map (·.1)).Nodup&&sc.names.all (fun y=>(y.2==.local||y.2==.free&&n.cn.contains y.1||y.2==.globalImplicit)&&y.1 != "__debug__")&&sc.names.contains (x,.local)&&n.cn.all fun y=>sc.names.contains (y,.free)
noncomputable def FS (y:Str) (sc:Scope):Bool:=!sc.names.any fun x=>x.1==y&&(x.2==.local||x.2==.cell)
structure TrS where
 s:Stmt→Stmt
 ss:LT→LT
 ok:Stmt→Bool
 oks:LT→Bool
noncomputable abbrev sT (s:Stmt→Stmt) (ok:Stmt→Bool):TrS:=⟨s,fun _=>[],ok,fun _=>false⟩
noncomputable abbrev iZ (x:Stmt):Stmt:=(blk x 1).headD qD
noncomputable abbrev oh (x:Stmt):Stmt:=(blk x 0).headD qD
noncomputable abbrev cNm (n:Nm) (v:Expr):Nm:=eu n (vO (kid v 1)) (lsc v)
noncomputable def trS (n:Nm):IC→TrS
 | .nil=>⟨fun _=>qD,fun _=>[],fun _=>false,fun _=>true⟩
 | .cons a r=>⟨fun _=>qD,fun xs=>(trS n a).s (xs.headD qD)::(trS n r).ss xs.tail,fun _=>false,fun xs=>(trS n a).ok (xs.headD qD)&&(trS n r).oks xs.tail⟩
 | .assign k e=>sT (fun x=>.Assign [bw (aB x 0) n.ns k] ((tr n e).e (aB x 1)) x.pos) fun x=>cI n k&&(tr n e).ok (aB x 1)
 | .aug k o e=>sT (fun x=>.AugAssign (bw (aB x 0) n.ns k) o ((tr n e).e (aB x 1)) x.pos) fun x=>cI n k&&(tr n e).ok (aB x 1)
 | .ite t a b=>sT (fun x=>.If ((tr n t).e (aB x 0)) ((trS n a).ss (blk x 0)) ((trS n b).ss (blk x 1)) x.pos) fun x=>(tr n t).ok (aB x 0)&&(trS n a).oks (blk x 0)&&(trS n b).oks (blk x 1)
 | .whl t b=>sT (fun x=>.While ((tr n t).e (aB x 0)) ((trS n b).ss (blk x 0)) [] x.pos) fun x=>(tr n t).ok (aB x 0)&&(trS n b).oks (blk x 0)
 | .for_ k e b=>sT (fun x=>.For (bw (aB x 0) n.ns k) ((tr n e).e (aB x 1)) ((trS n b).ss (blk x 0)) [] x.pos) fun x=>cI n k&&(tr n e).ok (aB x 1)&&(trS n b).oks (blk x 0)
 | .ret e=>sT (fun x=>.Return (some ((tr n e).e (aB x 0))) x.pos) fun x=>(tr n e).ok (aB x 0)
 | .retN=>sT (fun x=>.Return none x.pos) fun _=>true
 | .brk=>sT (fun x=>.Break x.pos) fun _=>true
 | .pass=>sT (fun x=>.Pass x.pos) fun _=>true
 | .raiseE a b=>sT (fun x=>.Raise (some (lP (aB x 0) "error" [(tr n a).e (kid (aB x 0) 1),(tr n b).e (kid (aB x 0) 2)])) none x.pos) fun x=>n.gl.contains "error" && (tr n a).ok (kid (aB x 0) 1)&&(tr n b).ok (kid (aB x 0) 2)
 | .raiseW a=>sT (fun x=>.Raise (some (lP (aB x 0) "wrong_args" [(tr n a).e (kid (aB x 0) 1)])) none x.pos) fun x=>n.gl.contains "wrong_args" && (tr n a).ok (kid (aB x 0) 1)
 | .eff e=>sT (fun x=>.Expr ((tr n e).e (aB x 0)) x.pos) fun x=>(tr n e).ok (aB x 0)
 | .tup2 j k e=>sT (fun x=>.Assign [.Tuple [bw (kid (aB x 0) 0) n.ns j,bw (kid (aB x 0) 1) n.ns k] (num (aB x 0)) (aB x 0).pos] ((tr n e).e (aB x 1)) x.pos) fun x=>rW ((tr n e).e (aB x 1)) [bw (kid (aB x 0) 0) n.ns j,bw (kid (aB x 0) 1) n.ns k]&&cI n j&&cI n k&&nmd n.ns j != nmd n.ns k&&(tr n e).ok (aB x 1)
 | .tup3 i j k e=>sT (fun x=>.Assign [.Tuple [bw (kid (aB x 0) 0) n.ns i,bw (kid (aB x 0) 1) n.ns j,bw (kid (aB x 0) 2) n.ns k] (num (aB x 0)) (aB x 0).pos] ((tr n e).e (aB x 1)) x.pos) fun x=>kR ((tr n e).e (aB x 1))&&cI n i&&cI n j&&cI n k&&(tr n e).ok (aB x 1)
 | .onew k=>sT (fun x=>.Assign [bw (aB x 0) n.ns k] (.List [] (aB x 1).pos) x.pos) fun _=>lH n k
 | .oapp k e=>sT (fun x=>.Expr (gW (aB x 0) (bw (obj (aB x 0)) n.ns k) "append" [(tr n e).e (kid (aB x 0) 1)]) x.pos) fun x=>eM (aB x 0)&&lH n k&&(tr n e).ok (kid (aB x 0) 1)
 | .dnew k ks vs=>sT (fun x=>.Assign [bw (aB x 0) n.ns k] (.Dict ((sE ks (GE (aB x 1))).map some) ((tr n vs).es (et (aB x 1))) (aB x 1).pos) x.pos) fun x=>sL n k&&decide (ks.length=((tr n vs).es (et (aB x 1))).length∧1≤ks.length∧ks.length≤15∧ks.Nodup)&&(tr n vs).oks (et (aB x 1))
 | .hwrite k a b=>sT (fun x=>.Expr (gW (aB x 0) (bw (obj (aB x 0)) n.ns k) "write" [(tr n a).e (kid (aB x 0) 1),(tr n b).e (kid (aB x 0) 2)]) x.pos) fun x=>eM (aB x 0)&&cI n k&&(tr n a).ok (kid (aB x 0) 1)&&(tr n b).ok (kid (aB x 0) 2)
 | .tryR k e b j=>sT (fun x=>.Try [.Assign [bw (aB (oh x) 0) n.ns k] ((tr n e).e (aB (oh x) 1)) (oh x).pos]
  [.ExceptHandler (some (.Name "Raised" (hnd x).1.pos)) none [.Return (some (.Tuple [.Constant (.bool b) (num (kid (aB (iZ x) 0) 0)) (kid (aB (iZ x) 0) 0).pos,bw (kid (aB (iZ x) 0) 1) n.ns j] (num (aB (iZ x) 0)) (aB (iZ x) 0).pos)) (iZ x).pos] (hnd x).2] [] [] x.pos)
  fun x=>n.gl.contains "Raised" && cI n k&&cI n j&&(tr n e).ok (aB (oh x) 1)
 | .lcomp k it t elt=>sT (fun x=>.Assign [bw (aB x 0) n.ns k] (.ListComp ((tr (cNm n (aB x 1)) elt).e (kid (aB x 1) 0)) [⟨.Name (vO (kid (aB x 1) 1)) (kid (aB x 1) 1).pos,(tr n it).e (kid (aB x 1) 2),[(tr (cNm n (aB x 1)) t).e (kid (aB x 1) 3)],0⟩] (lsc (aB x 1)) (aB x 1).pos) x.pos)
  fun x=>cI n k&&(aB x 0).pos.line==(aB x 1).pos.line&&FS (nmd n.ns k) (lsc (aB x 1))&&mq n (vO (kid (aB x 1) 1)) (lsc (aB x 1))&&(tr n it).ok (kid (aB x 1) 2)&&(tr (cNm n (aB x 1)) t).ok (kid (aB x 1) 3)&&(tr (cNm n (aB x 1)) elt).ok (kid (aB x 1) 0)
section
variable {g:Gx} {c:Cx} {A:Around} {st:St} {R:LG} {d:Nat}
theorem iw {f:PV→PV→Option Bool}:∀{l l':LB} {r:Bool},eqs f l l'=some r→
 (∀(j:Nat) (a b:PV),l[j]? = some a→l'[j]? = some b→f a b=some ((f a b).getD false))∧
 r=((NO (min l.length l'.length)).all (fun j=>(f (l.getD j .none) (l'.getD j .none)).getD false)&&l.length==l'.length):=by
 intro l
 induction l with
 | nil=>
  intro l' r h;cases l'<;>(injection h with h;subst h;exact ⟨fun j a b h=>(by simp at h),rfl⟩)
 | cons a l ih=>
  intro l' r h;cases l' with|nil=>(injection h with h;subst h;exact ⟨fun j a b _ h=>(by simp at h),rfl⟩)|cons b l'=>?_
  refine u12 (Md.mp h) ?_;clear h;rintro x h1 h;refine u12 (Ms.mp h) ?_;clear h;rintro y h2 rfl;obtain ⟨i1,i2⟩:=ih h2;refine ⟨fun j p q hp hq=>?_,?_⟩
  ·cases j with
   | zero=>simp at hp hq;subst hp hq;refine h1▸?_;rfl
   | succ j=>exact i1 j p q (by simpa using hp) (by simpa using hq)
  ·rw [i2];simp only [Mr,Nat.succ_min_succ,OX,Ps,List.all_map];simp only [Ra,h1,PF,Bool.and_assoc];congr 1;have:((l.length+1==l'.length+1):Bool)=(l.length==l'.length):=by
    rw [Nb];simp
   refine this▸?_;rfl
theorem ux {x y:LA} (h:txt x=txt y):x=y:=by
 simpa [txt] using (congrArg (fun z:Str=>z.cps.toList) h)
theorem dO {v:PV} (h:v.isNone=true):v=.none:=by cases v<;>injection h;rfl
theorem ite_i {α:Type} {p:Prop} [Decidable p] {a b:α} (h:(if p then some a else none)=some b):p∧a=b:=by
 by_cases hp:p
 ·rw [if_pos hp] at h;exact ⟨hp,Mm h⟩
 ·replace h:=(if_neg hp)▸h;injection h
inductive EqA:PV→PV→Bool→Prop
 | none:EqA .none .none true
 | bool (x y:Bool):EqA (.bool x) (.bool y) (x==y)
 | int (x y:Int):EqA (.int x) (.int y) (decide (x=y))
 | intS (x:Int) (y:LA):EqA (.int x) (.str y) false
 | strI (x:LA) (y:Int):EqA (.str x) (.int y) false
 | str (x y:LA):EqA (.str x) (.str y) (decide (x=y))
inductive EqC (f:LB→LB→Option Bool):PV→PV→Bool→Prop
 | atom {a b:PV} {r:Bool} (h:EqA a b r):EqC f a b r
 | tup {l l':LB} {r:Bool} (h:f l l'=some r):EqC f (.tup l) (.tup l') r
 | lst {l l':LB} {r:Bool} (h:f l l'=some r):EqC f (.lst l) (.lst l') r
theorem oP {f:LB→LB→Option Bool} {a b:PV} {r:Bool} (h:eqw f a b=some r):EqC f a b r:=by
 cases a with
 | none=>
  obtain ⟨h1,rfl⟩:=(ite_i h:_∧true=r)
  cases dO h1;exact .atom .none
 | bool x=>obtain ⟨y,h1,rfl⟩:=Ms.mp h;cases Lm h1;exact .atom (.bool _ _)
 | int x=>
  rcases QA.mp h with h|⟨_,h⟩<;>obtain ⟨y,h1,rfl⟩:=Ms.mp h
  ·cases KJ h1;exact .atom (.int _ _)
  ·cases KI h1;exact .atom (.intS _ _)
 | str x=>
  rcases QA.mp h with h|⟨_,h⟩<;>obtain ⟨y,h1,rfl⟩:=Ms.mp h
  ·cases KI h1;exact .atom (.str _ _)
  ·cases KJ h1;exact .atom (.strI _ _)
 | tup l=>obtain ⟨y,h1,h⟩:=Md.mp h;cases Lr h1;exact .tup h
 | lst l=>obtain ⟨y,h1,h⟩:=Md.mp h;cases KW h1;exact .lst h
 | ref _=>injection h
 | range _ _=>injection h
theorem ld {H:Hp} (hf:∀a o o',H a o→H a o'→o=o') {a:Addr} {T:Value} {vs vs':LO} {k k':Nat} (h:H a { cls:=T,data:=.seq vs.toArray k }) (h':H a { cls:=T,data:=.seq vs'.toArray k' }):vs=vs':=by
 have:=hf _ _ _ h h';simp only [Obj.mk.injEq,Data.seq.injEq,true_and,and_true] at this;simpa using congrArg Sf this.1
theorem tc {H:Hp} {a b:PV} {v:Value} {r:Bool} (h:EqA a b r) (ra:Rep H v a) (rb:Rep H v b):r=true:=by
 cases h with
 | none=>rfl
 | bool x y=>subst ra;injection rb with rb;subst rb;exact beq_self_eq_true _
 | int x y=>obtain ⟨t,rfl⟩:=ra;obtain ⟨u,e⟩:=rb;injection e with e;subst e;exact decide_eq_true rfl
 | intS x y=>obtain ⟨t,rfl⟩:=ra;obtain ⟨u,e⟩:=rb;injection e
 | strI x y=>obtain ⟨t,rfl⟩:=ra;obtain ⟨u,e⟩:=rb;injection e
 | str x y=>obtain ⟨t,rfl⟩:=ra;obtain ⟨u,e⟩:=rb;exact decide_eq_true (ux (Value.str.inj e).1)
theorem pV {H:Hp} {f:PV→PV→Option Bool} (ih:∀{a b:PV} {v:Value} {r:Bool},f a b=some r→Rep H v a→Rep H v b→r=true):∀{l l':LB} {vs:LO} {r:Bool},eqs f l l'=some r→RepL H vs l→RepL H vs l'→r=true:=by
 intro l
 induction l with
 | nil=>
  intro l' vs r h rl rl';cases l' with
  | nil=>exact (Mm h).symm
  | cons _ _=>obtain ⟨_,_,e,_,_⟩:=rl';replace rl:=e▸rl;injection rl
 | cons p ps ihl=>
  intro l' vs r h rl rl';obtain ⟨v,rr,rfl,h1,h2⟩:=rl;cases l' with|nil=>injection rl'|cons q qs=>?_
  obtain ⟨v',rr',e',k1,k2⟩:=rl';cases e';refine u12 (Md.mp h) ?_;rintro x e1 h;refine u12 (Ms.mp h) ?_;rintro y e2 rfl;refine (ih e1 h1 k1).symm▸(ihl e2 h2 k2).symm▸?_;rfl
theorem xf {H:Hp} (hf:∀a o o',H a o→H a o'→o=o') {f:LB→LB→Option Bool} (ih:∀{l l':LB} {vs:LO} {r:Bool},f l l'=some r→RepL H vs l→RepL H vs l'→r=true) {a b:PV} {v:Value} {r:Bool} (h:eqw f a b=some r) (ra:Rep H v a) (rb:Rep H v b):r=true:=by
 cases oP h with
 | atom h=>exact tc h ra rb
 | tup he=>
  obtain ⟨t,vs,k,rfl,ho,hl⟩:=ra;obtain ⟨t',vs',k',e,ho',hl'⟩:=rb;cases e;cases ld hf ho ho';exact ih he hl hl'
 | lst he=>
  obtain ⟨t,vs,k,rfl,ho,hl⟩:=ra;obtain ⟨t',vs',k',e,ho',hl'⟩:=rb;cases e;cases ld hf ho ho';exact ih he hl hl'
theorem lg {H:Hp} (hf:∀a o o',H a o→H a o'→o=o'):∀(n:Nat) {a b:PV} {v:Value} {r:Bool},eqv n a b=some r→Rep H v a→Rep H v b→r=true
 | 0=>xf hf fun h=>by injection h
 | n+1=>xf hf (pV (lg hf n))
theorem lr {n:Nat} {P:Value→Value→Bool→Prop} {H:Hp} (ih:∀{a b:PV} {v w:Value} {r:Bool},eqv n a b=some r→Rep H v a→Rep H w b→P v w r) {l l':LB} {vs vs':LO} {r:Bool} (h:eqs (eqv n) l l'=some r) (hl:RepL H vs l) (hl':RepL H vs' l') :
 ∀j (h1:j<vs.toArray.size) (h2:j<vs'.toArray.size),P vs.toArray[j] vs'.toArray[j] ((eqv n (l.getD j .none) (l'.getD j .none)).getD false):=by
 intro j j1 j2;obtain ⟨h1,h2⟩:=iw h;have i1:j<l.length:=hl.length▸j1;have i2:j<l'.length:=hl'.length▸j2;refine u12 (hl.at (Mg i1)) ?_;rintro x hx rx;refine u12 (hl'.at (Mg i2)) ?_;rintro y hy ry;obtain rfl:vs.toArray[j]=x:=Mm ((Mg j1).symm.trans hx);obtain rfl:vs'.toArray[j]=y:=Mm ((Mg j2).symm.trans hy);refine (show l.getD j .none=l[j] from (MB).trans (by rw [Mg i1];rfl))▸(show l'.getD j .none=l'[j] from (MB).trans (by rw [Mg i2];rfl))▸?_;exact ih (h1 j _ _ (Mg i1) (Mg i2)) rx ry
theorem td {s:Shared} {H:Hp} {A:Around} {a b:PV} {v w:Value} {r:Bool} (h:EqA a b r) (ra:Rep H v a) (rb:Rep H w b):Oz A s v w r:=by
 cases h with
 | none=>subst ra;subst rb;exact .same _
 | bool x y=>subst ra;subst rb;exact SeqAt.EqAt.bool_bool _ _
 | int x y=>obtain ⟨t,rfl⟩:=ra;obtain ⟨u,rfl⟩:=rb;exact SeqAt.EqAt.int_int _ _ _ _
 | intS x y=>obtain ⟨t,rfl⟩:=ra;obtain ⟨u,rfl⟩:=rb;exact SeqAt.EqAt.int_str _ _ _ _
 | strI x y=>obtain ⟨t,rfl⟩:=ra;obtain ⟨u,rfl⟩:=rb;exact SeqAt.EqAt.str_int _ _ _ _
 | str x y=>obtain ⟨t,rfl⟩:=ra;obtain ⟨u,rfl⟩:=rb;rw [←eS];exact SeqAt.EqAt.str_str _ _ _ _
theorem rJ {s:Shared} {H:Hp} (hH:∀a o,H a o→s.heap.get? a=some o) {A:Around} {n:Nat} (hu:A.units<cLine) (i':∀{a b:PV} {v w:Value} {r:Bool},eqv n a b=some r→Rep H v a→Rep H w b→Oz A.in1 s v w r)
 {l l':LB} {r:Bool} {v w:Value} (he:eqs (eqv n) l l'=some r) (ra:Rep H v (.tup l)) (rb:Rep H w (.tup l')):Qe A s v w r∧Qz A s v w (!r):=by
 obtain ⟨t,vs,k,rfl,ho,hl⟩:=ra;obtain ⟨t',vs',k',rfl,ho',hl'⟩:=rb;have hp:=lr i' he hl hl';refine ((iw he).2)▸hl.length▸hl'.length▸?_;exact ⟨SeqAt.RcAt.tuples ⟨_,hH _ _ ho,rfl,_,rfl⟩ ⟨_,hH _ _ ho',rfl,_,rfl⟩ hu hp,SN ⟨_,hH _ _ ho,rfl,_,rfl⟩ ⟨_,hH _ _ ho',rfl,_,rfl⟩ hu hp⟩
theorem rK {s:Shared} {H:Hp} (hH:∀a o,H a o→s.heap.get? a=some o) {A:Around} {n:Nat} (hu:A.units<cLine) (i':∀{a b:PV} {v w:Value} {r:Bool},eqv n a b=some r→Rep H v a→Rep H w b→Oz A.in1 s v w r)
 {l l':LB} {r:Bool} {v w:Value} (he:eqs (eqv n) l l'=some r) (ra:Rep H v (.lst l)) (rb:Rep H w (.lst l')):Qe A s v w r∧Qz A s v w (!r):=by
 obtain ⟨t,vs,k,rfl,ho,hl⟩:=ra;obtain ⟨t',vs',k',rfl,ho',hl'⟩:=rb;have hp:=lr i' he hl hl';refine ((iw he).2)▸hl.length▸hl'.length▸?_;by_cases hs:vs.length=vs'.length
 ·rw [beq_iff_eq.mpr hs,Qx,←hs,Nat.min_self];exact ⟨SeqAt.RcAt.lists ⟨_,hH _ _ ho,rfl,_,rfl⟩ ⟨_,hH _ _ ho',rfl,_,rfl⟩ hs hu hp,SS ⟨_,hH _ _ ho,rfl,_,rfl⟩ ⟨_,hH _ _ ho',rfl,_,rfl⟩ hs hu hp⟩
 ·rw [beq_eq_false_iff_ne.mpr hs,Pl];exact ⟨SeqAt.RcAt.lists_lengths ⟨_,hH _ _ ho,rfl,_,rfl⟩ ⟨_,hH _ _ ho',rfl,_,rfl⟩ (bne_iff_ne.mpr hs) hu,SR ⟨_,hH _ _ ho,rfl,_,rfl⟩ ⟨_,hH _ _ ho',rfl,_,rfl⟩ (bne_iff_ne.mpr hs) hu⟩
theorem xg {A:Around} {s:Shared} {t t':Addr} {r:Bool} (same:Value.ref t=.ref t'→r=true) (h:Qe A s (.ref t) (.ref t') r):Oz A s (.ref t) (.ref t') r:=by
 by_cases e:t=t'
 ·subst e;cases same rfl;exact .same _
 ·exact .of_refs e h
theorem JX {s:Shared} {H:Hp} (hH:∀a o,H a o→s.heap.get? a=some o) (hf:∀a o o',H a o→H a o'→o=o'):∀(n:Nat) {A:Around} {a b:PV} {v w:Value} {r:Bool},A.units+n<cLine→eqv n a b=some r→Rep H v a→Rep H w b→Oz A s v w r:=by
 intro n
 induction n with
 | zero=>
  intro A a b v w r _ h ra rb;cases oP h with
  | atom h=>exact td h ra rb
  | tup he=>injection he
  | lst he=>injection he
 | succ n ih=>
  intro A a b v w r hu h ra rb;have i':∀{a b:PV} {v w:Value} {r:Bool},eqv n a b=some r→Rep H v a→Rep H w b→Oz A.in1 s v w r:=ih (by show A.units+1+n<cLine;exact xK hu);have same:=lg hf (n+1) (v:=v) h ra;cases oP h with
  | atom h=>exact td h ra rb
  | tup he=>
   obtain ⟨t,_,_,rfl,_⟩:=id ra;obtain ⟨t',_,_,rfl,_⟩:=id rb;exact xg (fun e=>same (e▸rb)) (rJ hH (AC hu) i' he ra rb).1
  | lst he=>
   obtain ⟨t,_,_,rfl,_⟩:=id ra;obtain ⟨t',_,_,rfl,_⟩:=id rb;exact xg (fun e=>same (e▸rb)) (rK hH (AC hu) i' he ra rb).1
theorem FC {s:Shared} {H:Hp} (hH:∀a o,H a o→s.heap.get? a=some o) {A:Around} {a b:PV} {v w:Value} {r:Bool} (hu:A.units+8<cLine) (h:eqv 6 a b=some r) (ra:Rep H v a) (rb:Rep H w b) :
 Qe A s v w r∧Qz A s v w (!r):=by
 have i':∀{a b:PV} {v w:Value} {r:Bool},eqv 5 a b=some r→Rep H v a→Rep H w b→Oz A.in1 s v w r:=JX hH (fun a o o' h h'=>Mm ((hH _ _ h).symm.trans (hH _ _ h'))) 5 (by show A.units+1+5<cLine;exact Hv hu);cases oP h with
 | tup he=>exact rJ hH (AB hu) i' he ra rb
 | lst he=>exact rK hH (AB hu) i' he ra rb
 | atom h=>cases h with
  | none=>subst ra;subst rb;exact ⟨fun prog w E Q h=>SY h,SQ⟩
  | bool x y=>subst ra;subst rb;exact ⟨fun prog w E Q h=>Ts h,SW _ _⟩
  | int x y=>obtain ⟨t,rfl⟩:=ra;obtain ⟨u,rfl⟩:=rb;exact ⟨fun prog w E Q h=>Tq h,SV _ _ _ _⟩
  | intS x y=>obtain ⟨t,rfl⟩:=ra;obtain ⟨u,rfl⟩:=rb;exact ⟨fun prog w E Q h=>Sp h,ST _ _ _ _⟩
  | strI x y=>obtain ⟨t,rfl⟩:=ra;obtain ⟨u,rfl⟩:=rb;exact ⟨fun prog w E Q h=>So h,SP _ _ _ _⟩
  | str x y=>
   obtain ⟨t,rfl⟩:=ra;obtain ⟨u,rfl⟩:=rb;rw [←eS];exact ⟨fun prog w E Q h=>Qf h,SO _ _ _ _⟩
theorem cB:∀{l:LB} {ys:List (LA)},aV l=some ys→AllS l ys:=by
 intro l
 induction l with
 | nil=>intro _ h;injection h with h;subst h;exact .nil
 | cons v r ih=>
  intro _ h;cases v<;>try (injection h;done)
  refine u12 (Ms.mp h) ?_;rintro ys h2 rfl;exact .cons (ih h2)
theorem cJ {α:Type} {b:Prop} [Decidable b] {o:Option α} {a:α} (h:(if b then o else none)=some a):b∧o=some a:=by
 by_cases hb:b
 ·rw [if_pos hb] at h;exact ⟨hb,h⟩
 ·replace h:=(if_neg hb)▸h;injection h
theorem xt {a b:PV} {g f:Bool→Bool} {r:Bool} {G:PV→PV→Bool→Prop} (h:inV a b g f=some r) (k1:∀x y,G (.str x) (.str y) (g (MV (txt y) (txt x) 0 (txt y).length 1).isEmpty))
 (k2:∀x l ys,AllS l ys→G (.str x) (.tup l) (f (decide (x∈ys)))) (k3:∀x l ys,AllS l ys→G (.str x) (.lst l) (f (decide (x∈ys)))):G a b r:=by
 refine rm (G:=fun a=>G a b r) h fun x h=>?_;cases b<;>first|(injection h;done)|exact bx (G:=fun r=>G _ _ r) h (k1 _ _)|skip
 ·exact jh (G:=fun r=>G _ _ r) h fun ys h2=>k2 _ _ ys (cB h2)
 ·exact jh (G:=fun r=>G _ _ r) h fun ys h2=>k3 _ _ ys (cB h2)
theorem dT {op:CmpOp} {a b:PV} {r:Bool} (h:dq op a b=some r) {Q:Bool→Prop} (q:Q r):CmpW g A op a b Q:=by
 revert q;cases op
 case Eq=>exact fun q=>CmpW.of q fun c st frz s v w hu hA hG X ra rb Q' E k=>(FC (fun a o hh=>X.get hh) hu h ra rb).1 _ _ _ _ (k s.toks)
 case NotEq=>
  apply jh h;exact fun r h2 q=>CmpW.of q fun c st frz s v w hu hA hG X ra rb Q' E k=>(FC (fun a o hh=>X.get hh) hu h2 ra rb).2 _ _ _ _ (k s.toks)
 case Lt=>
  apply gO h
  ·intro i j h;apply bx h;exact vZ
  ·intro i j h;apply bx h;exact vY
 case LtE=>
  apply gO h
  ·intro i j h;apply bx h;exact wb
  ·intro i j h;apply bx h;exact wa
 case Gt=>
  apply gO h
  ·intro i j h;apply bx h;exact wf
  ·intro i j h;apply bx h;exact we
 case GtE=>
  apply gO h
  ·intro i j h;apply bx h;exact wh
  ·intro i j h;apply bx h;exact wg
 case Is=>
  apply bQ h;exact fun h2=>(dO h2).symm▸Ac
 case IsNot=>
  apply bQ h;exact fun h2=>(dO h2).symm▸ql
 case In=>
  apply xt h
  rotate_left
  ·exact fun x l ys h2=>wc h2
  ·exact fun x l ys h2=>wd h2
  exact (fun x y q=>CmpW.of q (by
   rintro c st frz s _ _ _ _ _ X ⟨t,rfl⟩ ⟨u,rfl⟩ Q' E k;exact Tm (k s.toks)))
 case NotIn=>
  apply xt h
  rotate_left
  ·exact fun x l ys h2=>tB h2
  ·exact fun x l ys h2=>tC h2
  exact (fun x y q=>CmpW.of q (by
   rintro c st frz s _ _ _ _ _ X ⟨t,rfl⟩ ⟨u,rfl⟩ Q' E k;exact Tc (by rw [Sl];exact k s.toks)))
theorem kF {op:Operator} {a b r:PV} (h:nG op a b=some r) {Q:PV→Prop} (q:Q r):BinW g A (binaryOp op) a b Q:=by
 revert q;cases op<;>first|(injection h;done)|skip
 case Add=>
  have other:mw a b (fun a b=>some (.int (a+b))) (fun a b=>if a.length+b.length≤16777216 then some (.str (a++b)) else none)=some r→Q r→BinW g A (binaryOp .Add) a b Q:=fun h=>by
   apply gO h
   ·intro i j h;apply bx h;exact lW
   ·intro i j h;apply bQ h;exact iI
  cases a<;>try exact other h
  cases b<;>first|(injection h;done)|skip
  apply bQ h;exact lV
 case Sub=>
  apply ig h;intro i j h;apply bx h;exact ua
 case BitAnd=>
  apply ig h;intro i j h;apply bx h;exact wn
 case Mult=>
  apply ig h;intro i j h;apply bQ h;exact fun h1=>lU (h1.elim .of_left .of_right)
 case Mod=>
  apply ig h;intro i j h;apply bQ h;exact uc
 case Pow=>
  apply ig h;intro i j h;apply bQ h;exact fun h1=>oY h1.1 h1.2
 case LShift=>
  apply ig h;intro i j h;apply bQ h;exact fun h1=>wm h1.1 h1.2.1 h1.2.2
 case RShift=>
  apply ig h;intro i j h;apply bQ h;exact wl
 case FloorDiv=>
  apply ig h;intro i j h;apply bQ h;exact fun h1=>qz h1.1 h1.2
theorem Ai {op:Operator} {a b r:PV} (h:Aj op a b=some r) {Q:PV→Prop} (q:Q r):BinW g A (inplaceOp op) a b Q:=by
 revert q;cases op<;>first|(injection h;done)|skip
 ·apply ig h;intro i j h;apply bx h;exact jG
 ·apply ig h;intro i j h;apply bx h;exact qy
theorem fL {s:Shared} {a:Addr} {vs:LO} {k:Int} {u:Tok} {j:Nat} {x:Value} {Q:LM} {E:LM} (ht:s.heap.IsList a vs.toArray) (hj:seqIndex? k vs.length=some j) (hn:vs.length<2 ^ 62) (hv:vs[j]? = some x) (h:Q x s) :
 (∃T id,s.TypeIs (.ref a) T∧typeLookup (.type T) (Ny "__getitem__")=pure (some (.builtin id)))∧wpAny (model g.prog g.w) A (getItem (.ref a) (.int k u)) Q E s:=by
 refine ⟨(v22 ("list") _ ht.typeIs Sj.lookup),?_⟩;by_cases h0:0≤k
 ·have hk:k<vs.length:=by
   have h1:¬k<0:=by exact xG h0
   unfold seqIndex? at hj;rw [if_neg h1] at hj;obtain ⟨h2,h3⟩:=bG hj;rw [MO,decide_eq_true_eq,decide_eq_true_eq] at h2;exact h2.2
  cases (dk h0 hk).symm.trans hj;exact RX (x:=x) ht h0 (Hu hn hk) ((Pg ..).trans hv) h
 ·have h1:k<0:=by exact Ht h0
  have h2:-(vs.length:Int)≤k∧j=(k+vs.length).toNat:=by
   unfold seqIndex? at hj;rw [if_pos h1] at hj;obtain ⟨h2,h3⟩:=bG hj;rw [MO,decide_eq_true_eq,decide_eq_true_eq] at h2;exact ⟨by exact Hs h2,h3.symm⟩
  exact wpAny_getItem_list_neg (x:=x) ht h1 h2.1 (Hr hn h2) ((Pg ..).trans (h2.2▸hv)) h
theorem yU {a i r:PV} {own:Own} (h:sM a i=some r) {Q:PV→Prop} (q:Q r):ma g A a i own Q:=by
 refine u12 (Md.mp h) ?_;rintro k hk h2;cases KJ hk;clear h;cases a<;>first|(injection h2;done)|skip
 ·obtain ⟨hn,h3⟩:=cJ h2;refine u12 (Ms.mp h3) ?_;rintro j hj rfl;exact vL hj hn q
 ·obtain ⟨hn,h3⟩:=cJ h2;refine u12 (Md.mp h3) ?_;rintro j hj hp;exact vK hj hn hp q
 ·obtain ⟨hn,h3⟩:=cJ h2;refine u12 (Md.mp h3) ?_;rintro j hj hp;intro c st frz s v w E _ hA _ ho X r r';obtain ⟨u,rfl⟩:=r';refine u23 (r.lstAt X) ?_;rintro a vs rfl ht rl;refine u12 (rl.at hp) ?_;rintro v hv rv;exact fL ht (rl.length.symm▸hj) (rl.length.symm▸hn) hv ⟨_,frz,Sub.refl _,X,rv,q⟩
end
section
variable {prog:Program} {w:World} {A:Around} {E:LM} {s:Shared}
theorem qE (n:Nat) (b:Int) (h:b<0) (hn:-(n:Int)≤b):Os none (some b) 1 (n:Int)=(0,b+n):=by
 unfold Os;simp only [(show ¬((1:Int)<0) from by exact Ho),h,if_false,if_true];congr 1;exact Hn hn
theorem pL (k:Int) (h:0≤k):NH 0 k 1=k.toNat:=by
 unfold NH;simp only [(show (1:Int)>0 from by exact Hm),if_true,Sz]
 split<;>(first|exact Hl|exact Hk (by assumption))
theorem gr {sl:Addr} {n:Nat} {b:Int} {u:Tok} {Q:Int×Int×Nat→Shared→Prop} (hs:s.heap.IsSliceOf sl .none (.int b u) .none) (hb:b<0) (hn:-(n:Int)≤b) (h:Q (0,1,(b+n).toNat) s) :
 wpAny (model prog w) A (Pt (.ref sl) (pure (n:Int))) Q E s:=by
 refine u13 (id hs) ?_;rintro os hos hcs hds;unfold Pt SC;refine KE (KE (Nx hos hds (x:=.none) rfl (KE (Nx hos hds (x:=.int b u) rfl (KE (Nx hos hds (x:=.none) rfl (Mh ?_)))))));refine KE (TE ?_);show wpAny _ _ (if ((1:Int)==0)=true then _ else _) _ _ s;rw [if_neg (by decide)];refine KE (TE (KE (slicePart_int (KE (Mh ?_)))));show wpAny _ _ (match Os none (some b) 1 (n:Int) with|(lo,hi)=>pure (lo,(1:Int),NH lo hi 1)) _ _ s;refine (qE n b hb hn)▸?_;show wpAny _ _ (pure ((0:Int),(1:Int),NH 0 (b+n) 1)) _ _ s;refine (pL _ (Hj hn))▸?_;exact Mh h
theorem va (xs:Array Value) (k:Nat):((NO k).filterMap fun (j:Nat)=>xs[((0:Int)+(j:Int)*1).toNat]?).toArray=(xs.toList.take k).toArray:=by
 have e:(fun (j:Nat)=>xs[((0:Int)+(j:Int)*1).toNat]?)=fun j=>xs[0+j]?:=by
  funext j;exact (show ((0:Int)+(j:Int)*1).toNat=0+j from by exact Hi)▸rfl
 refine e▸?_;have:=pick_run xs 0 k;rw [List.filterMap_map] at this;rw [(show ((fun x=>xs[x]?)∘fun x=>0+x)=fun j=>xs[0+j]? from rfl)] at this;rw [this,OG]
theorem fQ {t sl:Addr} {items:Array Value} {b:Int} {u:Tok} {Q:LM} (ht:IsTup s.heap t items) (hs:s.heap.IsSliceOf sl .none (.int b u) .none) (hb:b<0) (hn:-(items.size:Int)≤b)
 (h:Q (.ref s.heap.objs.size) { s with heap:=s.heap.push { cls:=.type "tuple",data:=.seq (items.toList.take (b+items.size).toNat).toArray } })
 (hsz:items.size≤sizeLine):wpAny (model prog w) A (getItem (.ref t) (.ref sl)) Q E s:=by
 have htake:sizeOk (.seq (items.toList.take (b+items.size).toNat).toArray):=by
  show (items.toList.take _).toArray.size≤sizeLine;rw [Ml,No,QT];exact Hh hsz
 refine u13 (id hs) ?_;rintro os hos hcs hds;unfold getItem
 try with_reducible refine Mw ?_
 first|refine KE (Mh ?_)|skip
 refine KE (wpAny_sequenceKey ht.typeIs (by decide) ?_);refine KE (wpAny_callSpecial?_slot (name:=Ny "__getitem__") ht.typeIs OP
  (wpAny_call_entry OP ht.typeIs entry_tuple_getitem ?_ (args_tuple_getitem _ _)))
 show wpAny _ _ (SA (.ref t) >>= _) _ _ s;refine KE (tupleItemsOf_ ht ?_);refine KE (wpAny_typeOf ((v12 os hos hcs)) ?_);rw [if_pos (by decide)];refine KE (gr hs hb hn ?_);have hno:¬(((0:Int)==0&&(1:Int)==1&&((b+items.size).toNat==items.size))=true):=by
  have:((b+items.size).toNat==items.size)=false:=by rw [beq_eq_false_iff_ne];exact Hg hb hn
  refine this▸?_;simp
 show wpAny _ _ (if ((0:Int)==0&&(1:Int)==1&&((b+items.size).toNat==items.size))=true then _ else _) _ _ s;rw [if_neg hno,va items]
 first
  | exact KE (m:=NK _) (MX (Mh (v12 _ rfl (Mh h))) htake)
  | exact KE (m:=NK _) (MX (KE (Mh (Mh ⟨_,rfl,Mh h⟩))) htake)
  | exact KE (KE (m:=NK _) (MX (Mh (Mh ⟨_,rfl,Mh h⟩)) htake))
  | exact KE (KE (m:=NK _) (MX (Mh ⟨_,rfl,Mh h⟩) htake))
end
section
variable {g:Gx} {c:Cx} {A:Around} {st:St} {R:LG} {d:Nat}
theorem eY {l:PV} {lo:Option Int} (h:gM l=some lo):Bd l lo:=by
 cases l<;>first|(injection h;done)|(injection h with h;subst h;constructor)
theorem ro {x:LB} {b:Int} (k1:x.length≤1048576) (k2:b<0) (k3:-(x.length:Int)≤b) {Q:PV→Prop} (q:Q (.tup (x.take ((x.length:Int)+b).toNat))):um g A (.tup x) .none (.int b) Q:=by
 intro c st frz s v vl vu E hA hG X r rl ru a ha;refine u23 (r.tupAt X) ?_;rintro t vs rfl ht rv;subst rl;obtain ⟨tk,rfl⟩:=ru;have hvl:vs.length=x.length:=rv.length;refine ⟨(v22 ("tuple") _ ht.typeIs OP.lookup),fQ ht ha k2 (by refine Ml▸hvl▸?_;exact k3) ?_ (by refine Ml▸hvl▸MQ▸?_;exact y_4 k1)⟩;have X':=X.push { cls:=.type "tuple",data:=.seq ((vs.toArray.toList.take (b+vs.toArray.size).toNat).toArray) } rfl;have k:Sub frz ((s.heap.objs.size,({ cls:=.type "tuple",data:=.seq ((vs.toArray.toList.take (b+vs.toArray.size).toNat).toArray) }:Obj))::frz):=fun p hp=>.tail _ hp;have e:(b+(vs.toArray.size:Int)).toNat=((x.length:Int)+b).toNat:=by refine Ml.symm▸hvl.symm▸?_;exact Hf
 refine ⟨.tup (x.take ((x.length:Int)+b).toNat),_,k,X',⟨_,vs.take ((x.length:Int)+b).toNat,0,rfl,.inl ?_,(rv.mono (Hq.mono k)).take⟩,q⟩;refine e.symm▸?_;exact .head _
theorem xX {o l u r:PV} (h:uI o l u=some r) {Q:PV→Prop} (q:Q r):um g A o l u Q:=by
 revert q;cases o<;>first|(injection h;done)|skip
 ·refine iH h fun lo hl h2=>iH h2 fun hi hu h3=>?_;apply bQ h3;exact rq (eY hl) (eY hu)
 ·obtain ⟨h1,h2⟩:=cJ h;obtain rfl:=dO h1;apply jp h2;intro b h3;apply bQ h3;exact fun k q=>ro k.1 k.2.1 k.2.2 q
 ·refine iH h fun lo hl h2=>iH h2 fun hi hu h3=>?_;apply bQ h3;exact rz (eY hl) (eY hu)
theorem sK (hA:A.handled=none) {v:PV} {l:LB} (h:mQ v=some l):dC g A v l:=by
 cases v<;>first|(injection h;done)|skip
 ·exact bx (G:=fun l=>dC g A _ l) h (sJ hA)
 ·exact bx (G:=fun l=>dC g A _ l) h (sH hA)
 ·exact bx (G:=fun l=>dC g A _ l) h (hV hA)
 ·exact bQ (G:=fun l=>dC g A _ l) h fun k=>hU hA k.1 k.2.1 k.2.2.1 k.2.2.2
theorem nK {H:Hp}:∀{l:LB} {is:LR} {vs:LO},dV l=some is→RepL H vs l→IntsAre vs is:=by
 intro l
 induction l with
 | nil=>intro _ _ h r;injection h with h;subst h;subst r;exact .nil
 | cons p l ih=>
  intro _ _ h hr;obtain ⟨v,r,e,h1,h2⟩:=hr;cases p<;>first|(injection h;done)|skip
  refine u12 (Ms.mp h) ?_;rintro ys h3 rfl;obtain ⟨t,e2⟩:=h1;subst e e2;exact .cons _ t (ih h3 h2)
theorem pT:∀{l:LR} {m:Int},pU l=some m→∀M,M∈l→(∀a,a∈l→a≤M)→M=m:=by
 intro l m h M hM hall;cases l with
 | nil=>injection h
 | cons a r=>
  simp only [pU,TF] at h;subst h;have key:∀(r:LR) (a M:Int),(M=a∨M∈r)→a≤M→(∀x∈r,x≤M)→M=r.foldl (fun m x=>if m<x then x else m) a:=by
   intro r
   induction r with
   | nil=>intro a M h _ _;rcases h with h|h;exact h;cases h
   | cons x r ih=>
    intro a M h h1 h2;simp only [List.foldl_cons];apply ih
    ·rcases h with rfl|h
     ·left;split<;>(first|exact Hd (h2 x (.head _)) (by assumption)|exact AA)
     ·refine Mx (Me.mp h) (fun hz=>?_) fun h=>?_
      ·obtain rfl:=hz;left;split<;>(first|exact AA|exact Hc h1 (by assumption))
      ·exact .inr h
    ·have:=h2 x (.head _);split<;>(first|exact Az this|exact Az h1)
    ·exact fun y hy=>h2 y (.tail _ hy)
  exact key r a M (by simpa using hM) (hall a (.head _)) fun x hx=>hall x (.tail _ hx)
theorem lF (sep:LA):∀ys:List (LA),Str.join (txt sep) (ys.map txt)=txt (cq sep ys)
 | []=>rfl
 | [a]=>rfl
 | a::b::r=>by
  show (txt a++txt sep++Str.join (txt sep) ((b::r).map txt))=_;rw [(lF sep (b::r)),eH,eH];rfl
theorem lG (sep:LA) (ys:List (LA)):Txt.join (txt sep) (ys.map txt)=txt (cq sep ys):=by
 rw [←lF];exact Sn _ _
theorem lS:bootBuiltins "str" = some (.type "str"):=by decide +kernel
theorem du:bootBuiltins "range" = some (.type "range"):=by decide +kernel
theorem jB:bootBuiltins "max" = some (.builtin "max"):=by decide +kernel
def Kq (g:Gx) (b:BI) (v:Value):Prop:=bH g b.nm v∧KeepOk g v
theorem GK (al:Al g) (b:BI):∃v,Kq g b v:=by
 cases b
 ·exact (v12 _ (gS al) (.bi))
 ·exact (v12 _ (xn al) (.bi))
 ·exact (v12 _ (xo al) (.bi))
 ·exact (v12 _ (al.bi _ _ (by simp [BI.nm]) lS) (.ty))
 ·exact (v12 _ (al.bi _ _ (by simp [BI.nm]) du) (.ty))
 ·exact (v12 _ (al.bi _ _ (by simp [BI.nm]) jB) (.bi))
theorem ny {l:LB} {is:LR} {m:Int} (h1:dV l=some is) (h6:pU is=some m) {own:Own} {Q:LH} {R:LI} (q:Q (.int m) own):CallV g d (.builtin "max") [.lst l] own Q R:=fun c A st frz s vs ok ho X r=>by
 obtain ⟨v,r',rfl,rv,rfl⟩:=r;refine u23 (rv.lstAt X) ?_;rintro a ws rfl ht rl;obtain ⟨⟨mm,ow,frs,C⟩,nn,lc⟩:=X;have hne:0<is.length:=by
  cases is with
  | nil=>injection h6
  | cons _ _=>simp
 refine max_list_N ok.hand C.F C.N ht (nK h1 rl) hne fun h' M t tk F' N' hM hall=>?_;have e:=pT h6 M hM hall;subst e;obtain ⟨F₀,N₀,nd,SU,O,V⟩:=C;exact ⟨.int M,st.own,frz,Sub.refl _,⟨⟨mm,ow,frs,F',N',nd,SU,O,V⟩,nn,lc⟩,⟨t,rfl⟩,ho▸q⟩
theorem GJ (al:Al g) {b:BI} {l:LB} {v:PV} (h:biV b l=some v) {own:Own} {Q:LH} {R:LI} (q:Q v own):CallN g d b.nm l own Q R:=by
 revert q;cases b
 ·apply lw h;intro x h;cases x<;>first|(injection h;done)|skip
  ·apply bQ h;exact fun h1 q=>bY (gS al) (nA h1 q)
  ·apply bQ h;exact fun h1 q=>bY (gS al) (nz h1 q)
  ·apply bQ h;exact fun h1 q=>bY (gS al) (iE h1 q)
 ·apply lw h;intro x h;apply rm h;intro s h;apply jh h;intro n h5 q;obtain rfl:=FK h5;exact bY (xn al) (qt q)
 ·apply lw h;intro x h;apply jp h;intro n h;apply bQ h;exact fun k q=>bY (xo al) (qw k.1 k.2 q)
 ·apply lw h;intro x h;apply jp h;intro n h;apply bQ h;exact fun h1 q=>(v13 _ (al.bi _ _ (by simp [BI.nm]) lS) (.ty) (nw h1 q))
 ·cases l with
  | nil=>injection h
  | cons x l=>
   cases l with
   | nil=>
    apply jh h;intro n h3 q;obtain rfl:=KJ h3;exact (v13 _ (al.bi _ _ (by simp [BI.nm]) du) (.ty) (fx q))
   | cons y l=>
    cases l with
    | nil=>
     apply ig h;intro i j h;apply bx h;exact fun q=>(v13 _ (al.bi _ _ (by simp [BI.nm]) du) (.ty) (kE q))
    | cons=>injection h
 ·apply lw h;intro x h;apply FW h;intro l h;refine iH h fun is h1 h5=>?_;apply jh h5;exact fun m h6 q=>(v13 _ (al.bi _ _ (by simp [BI.nm]) jB) (.bi) (ny h1 h6 q))
theorem nB {a:Addr} {l:LB} {o':AO} {own ow':Own} {Q:LH} {R:LI} (hu:OwnUpd a (.list l) o' own ow') (hl:l.length<2 ^ 62) (q:Q (.int l.length) own):CallV g d (.builtin "len") [.ref a] own Q R:=by
 rintro c A st frz s _ ok rfl X ⟨v,r,rfl,rfl,rfl⟩;refine u22 (X.ownList hu) ?_;rintro vs n ho rl;refine PT (items:=vs.toArray) ⟨_,ho,rfl,n,rfl⟩ (by rw [Ml,rl.length];exact xH hl) ?_;rw [Ml,rl.length];exact ⟨.int l.length,st.own,frz,Sub.refl _,X.toks _,⟨_,rfl⟩,q⟩
theorem vM {a:Addr} {l:LB} {o':AO} {own ow':Own} {k:PV} {v:PV} {Q:PV→Prop} (hu:OwnUpd a (.list l) o' own ow') (h:sM (.lst l) k=some v) (q:Q v):ma g A (.ref a) k own Q:=by
 intro c st frz s v w E hu' hA hG ho X r r';subst ho;obtain rfl:v=.ref a:=r;refine u22 (X.ownList hu) ?_;rintro vs n ho rl;refine u12 (Md.mp h) ?_;rintro k hk h2;cases KJ hk;obtain ⟨hn,h3⟩:=cJ h2;refine u12 (Md.mp h3) ?_;rintro j hj hp;obtain ⟨u,rfl⟩:=r';refine u12 (rl.at hp) ?_;rintro x hv rv;exact fL ⟨_,ho,rfl,n,rfl⟩ (rl.length.symm▸hj) (rl.length.symm▸hn) hv ⟨_,frz,Sub.refl _,X,rv,q⟩
theorem jk {sep:LA} {ys:List (LA)} (h:sep.length≤16∧(ys.map (·.length)).sum+ys.length≤1048576):(txt sep).length≤16∧((ys.map txt).map (·.length)).sum+(ys.map txt).length≤1048576:=by
 have e:((ys.map txt).map (·.length))=ys.map (·.length):=by
  rw [NE];congr 1
 rw [e,Mp];exact ⟨by simpa [txt,Qm] using h.1,h.2⟩
theorem Ev.join {env:Env} {x:Str} {kk:Nat} {cp:Pos} {e:Expr} {apos pos:Pos} {Q:LE} (h:Ev g c A (eval e env) st (fun v st₁=>∃r,(xY v).bind (dN x.cps.toList)=some r∧Q r st₁) R)
 (hs:starEach [e] env=[(false,eval e env)]) (hline:(apos.endLine==pos.line)=true):Ev g c A (eval (.Call (.Attribute (.Constant (.str x) kk cp) "join" apos) [e] [] pos) env) st Q R:=fun frz s X=>by
 refine OK (by rfl) hs hline (Oh ?_);refine (v26 ("str") _ OQ Qt Qr (PR _ _ _) (fun _ e=>nomatch e) (Pj rfl (On (OC (tt (h frz _ (X.toks _)) (fun w s₂ hh=>OJ ?_) fun _ _ e=>e)))));obtain ⟨pv,st₁,f₁,a₁,X₁,r₁,r,hr,q⟩:=hh;refine u12 (Md.mp hr) ?_;rintro l hl hr2;refine u12 (Md.mp hr2) ?_;rintro ys hy hr3;obtain ⟨hf,rfl⟩:=bG hr3;obtain ⟨f1,f2⟩:=jk hf;have fin:∀(k:Nat) (t':Tok),Got g c frz Q (.str (Txt.join x (ys.map txt)) t') { s₂ with toks:=k }:=fun k t'=>⟨.str (cq x.cps.toList ys),st₁,f₁,a₁,X₁.toks k,⟨t',congrArg (fun z=>Value.str z t') (lG _ _)⟩,q⟩
 cases pv<;>first|(injection hl;done)|skip
 ·cases hl;refine u23 (r₁.tupAt X₁) ?_;rintro a vs rfl ht rl;exact join_tupleW (ys:=ys.map txt) ht ((cB hy).are rl) f1 f2 fun t' k=>fin k t'
 ·cases hl;refine u23 (r₁.lstAt X₁) ?_;rintro a vs rfl ht rl;exact join_listW (ys:=ys.map txt) ht ((cB hy).are rl) f1 f2 fun t' k=>fin k t'
theorem Ly {env:Env} {x:Str} {kk:Nat} {cp:Pos} {e:Expr} {apos pos:Pos} {Q:LE} (h:Ev g c A (eval e env) st (fun v st₁=>∃a l o' ow' r,v=.ref a∧OwnUpd a (.list l) o' st₁.own ow'∧dN x.cps.toList l=some r∧Q r st₁) R)
 (hs:starEach [e] env=[(false,eval e env)]) (hline:(apos.endLine==pos.line)=true):Ev g c A (eval (.Call (.Attribute (.Constant (.str x) kk cp) "join" apos) [e] [] pos) env) st Q R:=fun frz s X=>by
 refine OK (by rfl) hs hline (Oh ?_);refine (v26 ("str") _ OQ Qt Qr (PR _ _ _) (fun _ e=>nomatch e) (Pj rfl (On (OC (tt (h frz _ (X.toks _)) (fun w s₂ hh=>OJ ?_) fun _ _ e=>e)))));obtain ⟨pv,st₁,f₁,a₁,X₁,r₁,a,l,o',ow',r,rfl,hu,hr,q⟩:=hh;obtain rfl:w=.ref a:=r₁;refine u12 (Md.mp hr) ?_;rintro ys hy hr3;obtain ⟨hf,rfl⟩:=bG hr3;refine u22 (X₁.ownList hu) ?_;rintro vs n ho rl;obtain ⟨f1,f2⟩:=jk hf;exact join_listW (ys:=ys.map txt) (items:=vs.toArray) ⟨_,ho,rfl,n,rfl⟩ ((cB hy).are rl) f1 f2 fun t' k=>⟨.str (cq x.cps.toList ys),st₁,f₁,a₁,X₁.toks k,⟨t',congrArg (fun z=>Value.str z t') (lG _ _)⟩,q⟩
theorem Tst.ite {env:Env} {t b o:Expr} {pos:Pos} {whole:Sem Value} {Q:Bool→St→Prop} (h:Tst g c A (isTrue t env (eval t env)) st (fun v st'=>Br v (Tst g c A (isTrue b env (eval b env)) st' Q R) (Tst g c A (isTrue o env (eval o env)) st' Q R)) R):Tst g c A (isTrue (.IfExp t b o pos) env whole) st Q R:=fun frz s X=>by
 rw [arm_isTrue_IfExp];refine KE (tt (h frz s X) (fun b s₁ hh=>?_) fun _ _ e=>e);obtain ⟨st',f',a,X',q⟩:=hh;cases b with
 | true=>exact tt (q.1 rfl f' s₁ X') (fun _ _ ⟨st'',f'',a',X'',q⟩=>⟨st'',f'',Sub.trans a a',X'',q⟩) fun _ _ e=>e.mono a
 | false=>exact tt (q.2 rfl f' s₁ X') (fun _ _ ⟨st'',f'',a',X'',q⟩=>⟨st'',f'',Sub.trans a a',X'',q⟩) fun _ _ e=>e.mono a
end
def sat {α:Type}:Rs α→(α→Wd→Prop)→(LJ)→Prop
 | .ok a w,Q,_=>Q a w
 | .exc x w,_,R=>R x w
 | .fail,_,_=>False
theorem ah {α β:Type} {r:Rs α} {f:α→Wd→Rs β} {Q:β→Wd→Prop} {R:LJ} (h:sat (r.bind f) Q R):sat r (fun a w=>sat (f a w) Q R) R:=by
 cases r<;>exact h
theorem uK {α β:Type} {r:Rs α} {f:α→Wd→Rs β} {g:Wd→Rs β} {Q:β→Wd→Prop} {R:LJ} (h:sat (r.tryB f g) Q R):sat r (fun a w=>sat (f a w) Q R) (fun _ w=>sat (g w) Q R):=by
 cases r<;>exact h
theorem ai {α:Type} {r:Rs α} {Q Q':α→Wd→Prop} {R R':LJ} (h:sat r Q R) (k:∀a w,Q a w→Q' a w) (k':∀x w,R x w→R' x w):sat r Q' R':=by
 cases r
 ·exact k _ _ h
 ·exact k' _ _ h
 ·exact h
theorem ay {α:Type} {o:Option α} {w:Wd} {Q:α→Wd→Prop} {R:LJ} (h:sat (Rs.of o w) Q R):∃a,o=some a∧Q a w:=by
 cases o
 ·exact h.elim
 ·exact (v12 _ rfl h)
theorem bv {v:PV} {w:Wd} {Q:Bool→Wd→Prop} {R:LJ} (h:sat (bK v w) Q R):∃b,v=.bool b∧Q b w:=by
 cases v<;>first|exact h.elim|exact (v12 _ rfl h)
theorem cD {v:PV} {w:Wd} {Q:LB→Wd→Prop} {R:LJ} (h:sat (fA v w) Q R):∃b,v=.tup b∧Q b w:=by
 cases v<;>first|exact h.elim|exact (v12 _ rfl h)
theorem gy {α:Type} {p:Prop} [Decidable p] {a:α} {w:Wd} {Q:α→Wd→Prop} {R:LJ} (h:sat (if p then .ok a w else .fail) Q R):p∧Q a w:=by
 by_cases hp:p
 ·rw [if_pos hp] at h;exact ⟨hp,h⟩
 ·rw [if_neg hp] at h;exact h.elim
theorem GQ {α:Type} {o:Option α} {w:Wd} {Q:α→Wd→Prop} {R:LJ} {G:Prop} (h:sat (Rs.of o w) Q R) (k:∀a,o=some a→Q a w→G):G:=u12 (ay h) k
theorem GR {α β:Type} {o:Option α} {w:Wd} {f:α→Wd→Rs β} {Q:β→Wd→Prop} {R:LJ} {G:Prop} (h:sat ((Rs.of o w).bind f) Q R) (k:∀a,o=some a→sat (f a w) Q R→G):G:=u12 (ay (ah h)) k
theorem Ar {β:Type} {v:PV} {w:Wd} {f:Bool→Wd→Rs β} {Q:β→Wd→Prop} {R:LJ} {G:PV→Prop} (h:sat ((bK v w).bind f) Q R) (k:∀b,sat (f b w) Q R→G (.bool b)):G v:=by
 refine u12 (bv (ah h)) ?_;rintro b rfl h;exact k b h
theorem FA {β:Type} {v:PV} {w:Wd} {f:LB→Wd→Rs β} {Q:β→Wd→Prop} {R:LJ} {G:PV→Prop} (h:sat ((fA v w).bind f) Q R) (k:∀b,sat (f b w) Q R→G (.tup b)):G v:=by
 refine u12 (cD (ah h)) ?_;rintro b rfl h;exact k b h
theorem ij {x:PV} {w:Wd} {Q:Addr→Wd→Prop} {R:LJ} (h:sat (eO x w) Q R):∃a b,x=.ref a∧w.host=some (a,b)∧Q a w:=by
 unfold eO at h;cases x with
 | ref a=>
  cases e:w.host with
  | none=>rw [e] at h;exact h.elim
  | some p=>
   rw [e] at h;obtain ⟨a',b⟩:=p;replace h:sat (if a=a' then Rs.ok a w else Rs.fail) Q R:=h;by_cases ha:a=a'
   ·rw [if_pos ha] at h;subst ha;exact (v23 a b rfl rfl h)
   ·rw [if_neg ha] at h;exact h.elim
 | _=>exact h.elim
theorem lJ {α:Type} {v:PV} {w:Wd} {a:Addr} {f:LA→aS→Rs α} {Q:α→Wd→Prop} {R:LJ} (h:sat (eN v w a f) Q R):∃n b,v=.str n∧w.host=some (a,b)∧b.length≤1000∧sat (f n b) Q R:=by
 unfold eN at h;cases hw:w.host with
 | none=>replace h:=hw▸h;cases v<;>exact h.elim
 | some p=>
  rw [hw] at h;cases v<;>first|exact h.elim|skip
  by_cases ha:a=p.1∧p.2.length≤1000
  ·have h:sat (if a=p.1∧p.2.length≤1000 then _ else _) Q R:=h;rw [if_pos ha] at h;exact (v24 _ p.2 rfl (by exact ha.1▸rfl) ha.2 h)
  ·have h:sat (if a=p.1∧p.2.length≤1000 then _ else _) Q R:=h;rw [if_neg ha] at h;exact h.elim
theorem aT {α:Type} {v:PV} {f:LA→Rs α} {Q:α→Wd→Prop} {R:LJ} (h:sat (cY v f) Q R):∃s,v=.str s∧sat (f s) Q R:=by
 cases v<;>first|exact h.elim|exact (v12 _ rfl h)
theorem Io {α:Type} {v:PV} {f:LA→Rs α} {Q:α→Wd→Prop} {R:LJ} {G:PV→Prop} (h:sat (cY v f) Q R) (k:∀s,sat (f s) Q R→G (.str s)):G v:=by
 refine u12 (aT h) ?_;rintro b rfl h;exact k b h
theorem jd {α:Type} {v:PV} {f:Int→Rs α} {Q:α→Wd→Prop} {R:LJ} (h:sat (on v f) Q R):∃s,v=.int s∧sat (f s) Q R:=by
 cases v<;>first|exact h.elim|exact (v12 _ rfl h)
theorem lv {α:Type} {v:PV} {f:PV→PV→Rs α} {Q:α→Wd→Prop} {R:LJ} (h:sat (FN v f) Q R):∃a b,v=.tup [a,b]∧sat (f a b) Q R:=by
 cases v<;>first|exact h.elim|skip
 rename_i l
 match l,h with
 | [a,b],h=>exact (v22 a b rfl h)
theorem sb {α:Type} {v:PV} {f:PV→PV→PV→Rs α} {Q:α→Wd→Prop} {R:LJ} (h:sat (FM v f) Q R):∃a b c,v=.tup [a,b,c]∧sat (f a b c) Q R:=by
 cases v<;>first|exact h.elim|skip
 rename_i l
 match l,h with
 | [a,b,c],h=>exact (v32 a b c rfl h)
theorem dK {α:Type} {p:Prop} [Decidable p] {r:Rs α} {Q:α→Wd→Prop} {R:LJ} (h:sat (if p then r else .fail) Q R):p∧sat r Q R:=by
 by_cases hp:p
 ·rw [if_pos hp] at h;exact ⟨hp,h⟩
 ·rw [if_neg hp] at h;exact h.elim
theorem fG {α:Type} {r:Rs α} {Q:α→Wd→Prop} {R:LJ} (h:sat r.noExc Q R):sat r Q fun _ _=>False:=by
 cases r<;>first|exact h|exact h.elim
theorem lu {α:Type} {is:IS} {k:Nat} {r:Rs α} {Q:α→Wd→Prop} {R:LJ} (h:sat (yH is k r) Q R):is.vs[k]? = some .un∧sat r Q R:=by
 obtain ⟨h1,h⟩:=dK h;refine ⟨?_,h⟩;cases hs:is.vs[k]? with
 | none=>replace h1:=hs▸h1;injection h1
 | some s=>replace h1:=hs▸h1;cases s<;>first|rfl|injection h1
inductive PenR (i:Int) (a:Addr) (e:Led):Prop
 | mk (ob:Obj) (n:Nat) (t:Tok) (h:e=[(a,ob)]) (c:ob.cls=.type "list") (d:ob.data=.seq #[.int i t] n)
noncomputable def dy (i:Int):AO:=.obj fun _=>PenR i
noncomputable def aQ (g:Gx) (w:Wd):Own:=(match w.pen with|some (a,i)=>[(a,dy i)]|none=>[])++(match w.host with|some (a,b)=>[(a,g.host b)]|none=>[])
inductive OwQ {α:Type} (g:Gx) (pre:Own) (Q:α→Wd→Prop) (v:α) (o:Own):Prop
 | mk (w':Wd) (h1:o=pre++aQ g w') (h2:Q v w')
inductive OwZ {α:Type} (g:Gx) (pre:Own) (Q:α→Wd→Prop) (v:α) (o:Own):Prop
 | mk (z:Own) (w':Wd) (h1:o=(z++pre)++aQ g w') (h2:Q v w')
structure Calls (g:Gx) (d:Nat) (call:ax):Prop where
 named:∀x f,dm.lookup x=some f→∃v,bH g x v∧KeepOk g v
 hget:∀{c A env st} {x:Str} {np ap pos:Pos} {e:Expr} {rd:Bool} {a:Addr} {bk:aS} {o':AO} {Q:LE} {R:LG},Ok g c A d→(ap.endLine==pos.line)=true→cc e env→
  (∀(Q':LE) R,Q' (.ref a) st→Ev g c A (eval (.Name x np) env) st Q' R)→(∃ow',OwnUpd a (g.host bk) o' st.own ow')→
  Ev g c A (eval e env) st (HgV g a rd Q) R→
  Ev g c A (eval (.Call (.Attribute (.Name x np) (if rd then "read" else "has") ap) [e] [] pos) env) st Q R
 act:∀x f args w Q R pre,dm.lookup x=some f→sat (call f args w) Q R→
  CallN g d x args (pre++aQ g w) (OwQ g pre Q) (OwQ g pre R)
theorem ea {g:Gx} {w:Wd} {a:Addr} {b b':aS} {pre:Own} (h:w.host=some (a,b)):OwnUpd a (g.host b) (g.host b') (pre++aQ g w) (pre++aQ g { w with host:=some (a,b') }):=by
 have left:∀(z x y:Own),OwnUpd a (g.host b) (g.host b') x y→OwnUpd a (g.host b) (g.host b') (z++x) (z++y):=by
  intro z x y h
  induction z with
  | nil=>exact h
  | cons p z ih=>exact .there ih
 refine left pre _ _ ?_;unfold aQ;refine h▸?_;exact left _ _ _ .here
noncomputable abbrev stw (g:Gx) (vars:aM) (pre:Own) (w:Wd):St:=⟨vars,pre++aQ g w⟩
structure Rd (g:Gx) (c:Cx) (A:Around) (env:Env) (n:Nm) (F:Fv) (vars:aM) (pre:Own):Prop where
 var:∀x k v,uw n x=some k→F.var k=some v→∀w pos (Q:LE) R,Q v (stw g vars pre w)→Ev g c A (eval (.Name x pos) env) (stw g vars pre w) Q R
 cell:∀x k v,lk n.ns x=none→lk n.cn x=some k→F.cvar k=some v→∀w pos (Q:LE) R,Q v (stw g vars pre w)→Ev g c A (eval (.Name x pos) env) (stw g vars pre w) Q R
 tv:∀x v,lk n.ns x=none→lk n.cn x=none→n.tn=some x→F.tv=some v→∀w pos (Q:LE) R,Q v (stw g vars pre w)→Ev g c A (eval (.Name x pos) env) (stw g vars pre w) Q R
 own:∀x k l,yF n x=some k→F.own k=some l→∃a,(∀w pos (Q:LE) R,Q (.ref a) (stw g vars pre w)→Ev g c A (eval (.Name x pos) env) (stw g vars pre w) Q R)∧
  ∀w,∃ow',OwnUpd a (.list l) (.list l) (pre++aQ g w) ow'
 dic:∀x k l,vU n x=some k→F.dic k=some l→∃a,(∀w pos (Q:LE) R,Q (.ref a) (stw g vars pre w)→Ev g c A (eval (.Name x pos) env) (stw g vars pre w) Q R)∧
  ∀w,∃ow',OwnUpd a (aq g l) (aq g l) (pre++aQ g w) ow'
 glob:∀x∈n.gl,EnvG env x
abbrev qS (g:Gx) (vars:aM) (pre:Own) (Q:LE):LL:=fun v w=>Q v (stw g vars pre w)
abbrev rS (g:Gx) (vars:aM) (pre:Own) (R:LG):LJ:=fun x w=>R x (stw g vars pre w)
abbrev qB (g:Gx) (vars:aM) (pre:Own) (Q:Bool→St→Prop):LL:=fun v w=>∃b,v=.bool b∧Q b (stw g vars pre w)
abbrev qT (g:Gx) (vars:aM) (pre:Own) (Q:LB→St→Prop):LL:=fun v w=>∃l,v=.tup l∧Q l (stw g vars pre w)
def SE (g:Gx) (c:Cx) (A:Around) (vars:aM) (pre:Own) (t:Sem Value) (r:Rs PV) (w:Wd):Prop:=
 ∀(Q:LE) (R:LG),sat r (qS g vars pre Q) (rS g vars pre R)→Ev g c A t (stw g vars pre w) Q R
def STs (g:Gx) (c:Cx) (A:Around) (vars:aM) (pre:Own) (t:Sem Bool) (r:Rs PV) (w:Wd):Prop:=
 ∀(Q:Bool→St→Prop) (R:LG),sat r (qB g vars pre Q) (rS g vars pre R)→Tst g c A t (stw g vars pre w) Q R
def SL (g:Gx) (c:Cx) (A:Around) (vars:aM) (pre:Own) (t:Sem (LO)) (r:Rs PV) (w:Wd):Prop:=
 ∀(Q:LB→St→Prop) (R:LG),sat r (qT g vars pre Q) (rS g vars pre R)→Evs g c A t (stw g vars pre w) Q R
theorem aa {a b:Bool} (h:(a&&b)=true):a=true:=(Ou.mp h).1
theorem ag {a b:Bool} (h:(a&&b)=true):b=true:=(Ou.mp h).2
theorem aU {e:Expr} (h:cj e=true) (env:Env) (rest:LS):starEach (e::rest) env=(false,eval e env)::starEach rest env:=by
 cases e<;>first|rfl|injection h
theorem ch {e:Expr} (h:cj e=true) (op:CmpOp):behindInMarks op e=false:=by
 cases e<;>first|rfl|injection h
theorem iJ {e:Expr} (h:cj e=true) (attr:Str) (env:Env):attributeBase e attr env (eval e env)=eval e env:=by
 cases e<;>first|rfl|skip
 rename_i f es ks pos;cases f<;>first|rfl|skip
 rename_i id p;cases es<;>first|rfl|skip
 cases ks<;>first|rfl|skip
 refine if_pos ?_;refine (show (id != ("super" : Str))=true from h).symm▸?_;rfl
theorem fE {e:Expr} (h:cj e=true) (o i:Value):subscripted e false o i=operate [o,i] (getItem o i):=by
 cases e<;>first|rfl|injection h
theorem aC {n:Nm} {ie:IE} {x:Expr} (h:(tr n ie).ok x=true):cj ((tr n ie).e x)=true:=by
 cases ie<;>first|rfl|(injection h;done)|skip
 ·exact aa (aa (aa h))
 ·rename_i b _;cases b<;>rfl
theorem rg {n:Nm} {env:Env} {pos:Pos} {ie:IE}:∀{xs:LS},(tr n ie).oks xs=true→(backTo pos (starEach ((tr n ie).es xs) env)).any (·.1)=false:=by
 induction ie with
 | nil=>exact fun _=>rfl
 | cons a r _ ih=>exact fun {xs} h=>(congrArg (fun l=>(backTo pos l).any (·.1)) (aU (aC (aa h)) env _)).trans (ih (ag h))
 | _=>exact fun h=>nomatch h
theorem jr {n:Nm} {x:Str} (h:n.gl.contains x=true):x∈n.gl:=Mq.mp h
section
variable {g:Gx} {c:Cx} {A:Around} {d:Nat} {env:Env} {n:Nm} {call:ax} {F:Fv} {vars:aM} {pre:Own}
def PE (g:Gx) (c:Cx) (A:Around) (env:Env) (n:Nm) (call:ax) (F:Fv) (vars:aM) (pre:Own) (ie:IE):Prop:=
 ∀x,(tr n ie).ok x=true→∀w,SE g c A vars pre (eval ((tr n ie).e x) env) (evE call F ie w) w∧STs g c A vars pre (isTrue ((tr n ie).e x) env (eval ((tr n ie).e x) env)) (evE call F ie w) w
def PL (g:Gx) (c:Cx) (A:Around) (env:Env) (n:Nm) (call:ax) (F:Fv) (vars:aM) (pre:Own) (ie:IE):Prop:=
 ∀xs,(tr n ie).oks xs=true→∀w pos,SL g c A vars pre (spliced (backTo pos (starEach ((tr n ie).es xs) env))) (evE call F ie w) w
theorem PE.ev {ie:IE} (hx:PE g c A env n call F vars pre ie) {x:Expr} {w:Wd} {β:Type} {f:PV→Wd→Rs β} {Q':β→Wd→Prop} {R':LJ} {Q:LE} {R:LG} (h:(tr n ie).ok x=true) (hs:sat ((evE call F ie w).bind f) Q' R')
 (k:∀v w,sat (f v w) Q' R'→Q v (stw g vars pre w)) (k':∀x w,R' x w→R x (stw g vars pre w)):Ev g c A (eval ((tr n ie).e x) env) (stw g vars pre w) Q R:=(hx x h w).1 _ _ (ai (ah hs) k k')
theorem PE.ts {ie:IE} (hx:PE g c A env n call F vars pre ie) {x:Expr} {w:Wd} {β:Type} {f:PV→Wd→Rs β} {Q':β→Wd→Prop} {R':LJ} {Q:Bool→St→Prop} {R:LG} (h:(tr n ie).ok x=true) (hs:sat ((evE call F ie w).bind f) Q' R')
 (k:∀v w,sat (f v w) Q' R'→∃b,v=.bool b∧Q b (stw g vars pre w)) (k':∀x w,R' x w→R x (stw g vars pre w)):Tst g c A (isTrue ((tr n ie).e x) env (eval ((tr n ie).e x) env)) (stw g vars pre w) Q R:=(hx x h w).2 _ _ (ai (ah hs) k k')
theorem aE {R':LJ} (x:XC) (w:Wd) (h:R' x w):R' x w:=h
theorem cy {e:Expr} {r:Rs PV} {w:Wd} (he:isTrue e env (eval e env)=(do let v←eval e env;standAt e.pos;holding [v] (truthy v))) (h:SE g c A vars pre (eval e env) r w):SE g c A vars pre (eval e env) r w∧STs g c A vars pre (isTrue e env (eval e env)) r w:=
 ⟨h,fun Q R hs=>Tst.val (h _ _ (ai hs (fun v w h=>h) fun x w h=>h)) he⟩
theorem yA {i:Int}:PE g c A env n call F vars pre (.int i):=fun x _ w=>cy rfl fun Q R hs=>Ev.int hs
theorem yu {i:LA}:PE g c A env n call F vars pre (.str i):=fun x _ w=>cy rfl fun Q R hs=>Ev.str hs
theorem vq {i:Bool}:PE g c A env n call F vars pre (.bool i):=fun x _ w=>cy rfl fun Q R hs=>Ev.bool hs
theorem vh:PE g c A env n call F vars pre .none:=fun x _ w=>cy rfl fun Q R hs=>Ev.none hs
theorem yq (rd:Rd g c A env n F vars pre) {k:Nat}:PE g c A env n call F vars pre (.var k):=fun x h w=>cy rfl fun Q R hs=>
 by obtain ⟨v,hv,q⟩:=ay (o:=F.var k) hs;exact rd.var _ k v (eq_of_beq h) hv w x.pos Q R q
theorem vm (rd:Rd g c A env n F vars pre) {k:Nat}:PE g c A env n call F vars pre (.cvar k):=fun x h w=>cy rfl fun Q R hs=>
 by obtain ⟨v,hv,q⟩:=ay (o:=F.cvar k) hs;exact rd.cell _ k v (Nl.mp (aa h)) (eq_of_beq (ag h)) hv w x.pos Q R q
theorem ve (rd:Rd g c A env n F vars pre):PE g c A env n call F vars pre .tvar:=fun x h w=>cy rfl fun Q R hs=>
 by obtain ⟨v,hv,q⟩:=ay (o:=F.tv) hs;exact rd.tv _ v (Nl.mp (aa (aa h))) (Nl.mp (ag (aa h))) (eq_of_beq (ag h)) hv w x.pos Q R q
theorem yE (ok:Ok g c A d) {o:Operator} {a b:IE} (hl:PE g c A env n call F vars pre a) (hr:PE g c A env n call F vars pre b):PE g c A env n call F vars pre (.bin o a b):=fun x h w=>cy rfl fun Q R hs=>
 Ev.bin ok (hl.ev (aa h) hs (fun v w h2=>hr.ev (ag h) h2 (fun v' w h3=>by obtain ⟨v,hv,q⟩:=ay h3;exact kF hv q) aE) aE)
theorem Br.mk {b:Bool} {p q:Prop} (h:if b then p else q):Br b p q:=by
 cases b
 ·exact KT h
 ·exact Lq h
theorem fw {o:CmpOp} {a b:PV} {w:Wd} {Q:LL} {R:LJ} (h:sat (Rs.of ((dq o a b).map .bool) w) Q R):∃r,dq o a b=some r∧Q (.bool r) w:=by
 refine u12 (ay h) ?_;rintro v hv q;refine u12 (Ms.mp hv) ?_;rintro r hv2 rfl;exact (v12 r hv2 q)
theorem mj {b:Bool} {Q:Bool→Prop} (h:∃b',PV.bool b=.bool b'∧Q b'):Q b:=by
 obtain ⟨b',e,q⟩:=h;injection e with e;subst e;exact q
theorem yC (ok:Ok g c A d) {o:CmpOp} {a b:IE} (hl:PE g c A env n call F vars pre a) (hr:PE g c A env n call F vars pre b):PE g c A env n call F vars pre (.cmp o a b):=fun x h w=>
 ⟨fun Q R hs=>Ev.cmp ok (hl.ev (aa h) hs (fun v w h2=>hr.ev (ag h) h2 (fun v' w h3=>by obtain ⟨r,hv,q⟩:=fw h3;exact dT hv q) aE) aE) (ch (aC (ag h)) o),
  fun Q R hs=>Tst.cmp ok (hl.ev (aa h) hs (fun v w h2=>hr.ev (ag h) h2 (fun v' w h3=>by obtain ⟨r,hv,q⟩:=fw h3;exact dT hv (mj q)) aE) aE) (ch (aC (ag h)) o)⟩
theorem yB (ok:Ok g c A d) (rd:Rd g c A env n F vars pre) {k:Nat} {a:IE} (hl:PE g c A env n call F vars pre a):PE g c A env n call F vars pre (.din a k):=fun x h w=>by
 refine ⟨fun Q R hs=>?_,fun Q R hs=>?_⟩
 ·refine u12 (ay (ah hs)) ?_;rintro es he hs;refine u12 (rd.dic _ k es (eq_of_beq (ag h)) he) ?_;rintro b hrd hu;refine Ev.cmpO (hl.ev (aa h) hs (fun v w h2=>?_) aE) rfl;refine u12 (aT h2) ?_;rintro s rfl h3;obtain ⟨ow',hu⟩:=hu w;exact hrd w _ _ _ (ky hu h3)
 ·refine u12 (ay (ah hs)) ?_;rintro es he hs;refine u12 (rd.dic _ k es (eq_of_beq (ag h)) he) ?_;rintro b hrd hu;refine Tst.cmpO (hl.ev (aa h) hs (fun v w h2=>?_) aE) rfl;refine u12 (aT h2) ?_;rintro s rfl q;obtain ⟨ow',hu⟩:=hu w;exact hrd w _ _ _ (ky hu (mj q))
theorem vn (ok:Ok g c A d) {o o':CmpOp} {a b z:IE} (hl:PE g c A env n call F vars pre a) (hr:PE g c A env n call F vars pre b) (hr':PE g c A env n call F vars pre z):PE g c A env n call F vars pre (.cmp2 o o' a b z):=fun x h w=>by
 have h1:=aa (aa h);have h2:=ag (aa h);refine ⟨fun Q R hs=>?_,fun Q R hs=>?_⟩
 ·refine Ev.cmp2 ok (hl.ev h1 hs (fun v w h3=>hr.ev h2 h3 (fun v' w h4=>?_) aE) aE) (ch (aC (ag h)) o');refine u12 (ay (ah h4)) ?_;rintro v hv q;refine dT hv (Br.mk ?_);cases v with
  | false=>exact q
  | true=>exact hr'.ev (ag h) q (fun v w h5=>by obtain ⟨r,hv,q⟩:=fw h5;exact dT hv q) aE
 ·refine Tst.cmp2 ok (hl.ev h1 hs (fun v w h3=>hr.ev h2 h3 (fun v' w h4=>?_) aE) aE) (ch (aC (ag h)) o');refine u12 (ay (ah h4)) ?_;rintro v hv q;refine dT hv (Br.mk ?_);cases v with
  | false=>exact mj q
  | true=>exact hr'.ev (ag h) q (fun v w h5=>by obtain ⟨r,hv,q⟩:=fw h5;exact dT hv (mj q)) aE
theorem yx {a:IE} (hx:PE g c A env n call F vars pre a):PE g c A env n call F vars pre (.neg a):=fun x h w=>
 cy rfl fun Q R hs=>Ev.neg (hx.ev h hs (fun v w h=>jd h) aE)
theorem yw {a:IE} (hx:PE g c A env n call F vars pre a):PE g c A env n call F vars pre (.not a):=fun x h w=>
 ⟨fun Q R hs=>Ev.not (hx.ev h hs (fun v w h=>bv (ah h)) aE),fun Q R hs=>Tst.not (hx.ts h hs (fun v w h=>by obtain ⟨b,e,q⟩:=bv (ah h);exact ⟨b,e,mj (b:=!b) q⟩) aE)⟩
theorem yz {t a b:IE} (ht:PE g c A env n call F vars pre t) (hx:PE g c A env n call F vars pre a) (hy:PE g c A env n call F vars pre b):PE g c A env n call F vars pre (.ite t a b):=fun x h w=>by
 have h1:=aa (aa h);refine ⟨fun Q R hs=>Ev.ite (ht.ts h1 hs (fun v w h2=>?_) aE),fun Q R hs=>Tst.ite (ht.ts h1 hs (fun v w h2=>?_) aE)⟩
 ·refine u12 (bv (ah h2)) ?_;rintro b' rfl q;refine (v12 b' rfl (Br.mk ?_));cases b' with
  | true=>exact (hx _ (ag (aa h)) w).1 _ _ q
  | false=>exact (hy _ (ag h) w).1 _ _ q
 ·refine u12 (bv (ah h2)) ?_;rintro b' rfl q;refine (v12 b' rfl (Br.mk ?_));cases b' with
  | true=>exact (hx _ (ag (aa h)) w).2 _ _ q
  | false=>exact (hy _ (ag h) w).2 _ _ q
theorem Le {op:BoolOp} {es:LS} {pos:Pos} {whole:Sem Value} {st:St} {Q:Bool→St→Prop} {R:LG} (h:Tst g c A (isTrue (.BoolOp op es pos) env whole) st Q R):AllT g c A env op es st Q R:=fun frz s X=>by
 have:=h frz s X
 rwa [arm_isTrue_BoolOp] at this
theorem yt (ok:Ok g c A d) {a i:IE} (hx:PE g c A env n call F vars pre a) (hy:PE g c A env n call F vars pre i):PE g c A env n call F vars pre (.sub a i):=fun x h w=>cy rfl fun Q R hs=>
 Ev.sub ok (hx.ev (aa h) hs (fun v w h2=>hy.ev (ag h) h2 (fun v' w h3=>by obtain ⟨v,hv,q⟩:=ay h3;exact yU hv q) aE) aE) (fE (aC (ag h)))
theorem vg (ok:Ok g c A d) (rd:Rd g c A env n F vars pre) {k:Nat} {i:IE} (hy:PE g c A env n call F vars pre i):PE g c A env n call F vars pre (.oidx k i):=fun x h w=>cy rfl fun Q R hs=>by
 refine u12 (ay (ah hs)) ?_;rintro l hl hs;refine u12 (rd.own _ k l (eq_of_beq (aa h)) hl) ?_;rintro a hr hu;refine Ev.sub ok (hr w _ _ _ (hy.ev (ag h) hs (fun v' w h2=>?_) aE)) (fE (aC (ag h)));refine u12 (ay h2) ?_;rintro v hv q;obtain ⟨ow',hu⟩:=hu w;exact vM hu hv q
theorem vk (ok:Ok g c A d) (rd:Rd g c A env n F vars pre) {k:Nat} {i:IE} (hy:PE g c A env n call F vars pre i):PE g c A env n call F vars pre (.dget k i):=fun x h w=>cy rfl fun Q R hs=>by
 refine u12 (ay (ah hs)) ?_;rintro l hl hs;refine u12 (rd.dic _ k l (eq_of_beq (aa h)) hl) ?_;rintro a hr hu;refine Ev.sub ok (hr w _ _ _ (hy.ev (ag h) hs (fun v' w h2=>?_) aE)) (fE (aC (ag h)));refine u12 (aT h2) ?_;rintro s rfl h3;refine u12 (ay h3) ?_;rintro v hv q;obtain ⟨ow',hu⟩:=hu w;exact kh hu hv q
theorem pp (ie:IE) (hx:PE g c A env n call F vars pre ie) {y:Expr} (h:pk ie (tr n ie) y=true) (w:Wd):SE g c A vars pre (evalPart (po ie (tr n ie) y) env) (evE call F ie w) w:=by
 cases hn:ie.isNopart with
 | true=>
  cases mS hn;exact fun Q R hs=>Lx hs
 | false=>
  have h:(ie.isNopart||(tr n ie).ok y)=true:=h;rw [hn] at h;refine (show po ie (tr n ie) y=some ((tr n ie).e y) from if_neg (by refine hn▸?_;decide))▸?_;exact fun Q R hs=>Lw ((hx y h w).1 _ _ hs)
theorem yv (ok:Ok g c A d) {a l u:IE} (hx:PE g c A env n call F vars pre a) (hl:PE g c A env n call F vars pre l) (hu:PE g c A env n call F vars pre u):PE g c A env n call F vars pre (.slc a l u):=fun x h w=>cy rfl fun Q R hs=>
 Lv ok (hx.ev (aa (aa h)) hs (fun v w h1=>pp l hl (ag (aa h)) w _ _ (ai (ah h1) (fun v' w h2=>pp u hu (ag h) w _ _ (ai (ah h2) (fun v' w h3=>by obtain ⟨v,hv,q⟩:=ay h3;exact xX hv q) aE)) aE)) aE)
theorem yo:PL g c A env n call F vars pre .nil:=fun xs _ w pos Q R hh=>by obtain ⟨l,e,q⟩:=hh;injection e with e;subst e;exact Evs.nil q
theorem uZ {a r:IE} (hx:PE g c A env n call F vars pre a) (hl:PL g c A env n call F vars pre r):PL g c A env n call F vars pre (.cons a r):=fun xs h w pos Q R hs=>by
 refine Evs.cons (hx.ev (aa h) hs (fun v w h2=>?_) aE) (aU (aC (aa h)) env _);refine hl _ (ag h) w pos _ _ (ai (ah h2) (fun v' w h=>?_) aE);obtain ⟨l,rfl,l',e,q⟩:=cD (ah h);injection e with e;subst e;exact (v12 l rfl q)
theorem yr {as:IE} (hl:PL g c A env n call F vars pre as):PE g c A env n call F vars pre (.tup as):=fun x h w=>cy rfl fun Q R hs=>Ev.tup (hl _ h w _ _ _ (ai (ah hs) (fun v w h=>by
 refine u12 (cD (ah h)) ?_;rintro l rfl q;obtain ⟨h1,q⟩:=gy q;exact (v13 l rfl (by refine MQ▸?_;exact Ay h1) q)) aE))
theorem yy {as:IE} (hl:PL g c A env n call F vars pre as):PE g c A env n call F vars pre (.lst as):=fun x h w=>cy rfl fun Q R hs=>Ev.list (hl _ h w _ _ _ (ai (ah hs) (fun v w h=>by
 refine u12 (cD (ah h)) ?_;rintro l rfl q;obtain ⟨h1,q⟩:=gy q;exact (v13 l rfl (by refine MQ▸?_;exact Ay h1) q)) aE))
def xC (g:Gx) (c:Cx) (A:Around) (env:Env) (vars:aM) (pre:Own) (o:BoolOp) (es:LS) (p:Pos) (r:Wd→Rs PV):Prop:=
 (∃y t,es=y::t)∧∀w,SE g c A vars pre (eval (.BoolOp o es p) env) (r w) w∧STs g c A vars pre (allTrue o es env) (r w) w
theorem uL {o:BoolOp} {r:IE} (hr:PE g c A env n call F vars pre r) {x:Expr} (h:Ah o x r (tr n r)=true):xC g c A env vars pre o (Ag o x (tr n r)) x.pos (evE call F r):=by
 unfold Ah at h;unfold Ag
 split at h
 ·rename_i hx;rw [if_pos hx];refine u21 (vJ (aa h)) ?_;rintro a b rfl;exact ⟨(v21 _ _ rfl),fun w=>⟨(hr _ (ag h) w).1,fun Q R hs=>Le ((hr _ (ag h) w).2 Q R hs)⟩⟩
 ·rename_i hx;rw [if_neg hx];refine ⟨(v21 _ [] rfl),fun w=>⟨fun Q R hs=>LU ((hr _ h w).1 _ _ hs),fun Q R hs=>?_⟩⟩;cases o with
  | And=>
   refine AllT.and ((hr _ h w).2 _ _ (ai hs (fun v w h=>?_) aE));refine u12 h ?_;clear h;rintro b rfl q;refine ⟨b,rfl,Br.mk ?_⟩;cases b with
   | true=>exact Lc q
   | false=>exact q
  | Or=>
   refine AllT.or ((hr _ h w).2 _ _ (ai hs (fun v w h=>?_) aE));refine u12 h ?_;clear h;rintro b rfl q;refine (v12 b rfl (Br.mk ?_));cases b with
   | true=>exact q
   | false=>exact Li q
theorem Af {o:BoolOp} {a r:IE} (ha:PE g c A env n call F vars pre a) {x:Expr} {es:LS} {p:Pos} (h:(tr n a).ok x=true) (hb:xC g c A env vars pre o es p (evE call F r)) (w:Wd) :
 SE g c A vars pre (eval (.BoolOp o ((tr n a).e x::es) p) env) (evE call F (.bop o a r) w) w∧STs g c A vars pre (isTrue (.BoolOp o ((tr n a).e x::es) p) env (eval (.BoolOp o ((tr n a).e x::es) p) env)) (evE call F (.bop o a r) w) w:=by
 obtain ⟨⟨y,t,rfl⟩,hb⟩:=hb;cases o with
 | And=>
  refine ⟨fun Q R hs=>Ev.and (ha.ev h hs (fun v w h=>?_) aE),fun Q R hs=>Tst.bool (AllT.and (ha.ts h hs (fun v w h=>?_) aE))⟩
  ·refine u12 (bv (ah h)) ?_;rintro b' rfl q;refine (v12 b' rfl (Br.mk ?_));cases b' with
   | true=>exact (hb w).1 _ _ q
   | false=>exact q
  ·refine u12 (bv (ah h)) ?_;rintro b' rfl q;refine (v12 b' rfl (Br.mk ?_));cases b' with
   | true=>exact (hb w).2 _ _ q
   | false=>exact mj q
 | Or=>
  refine ⟨fun Q R hs=>Ev.or (ha.ev h hs (fun v w h=>?_) aE),fun Q R hs=>Tst.bool (AllT.or (ha.ts h hs (fun v w h=>?_) aE))⟩
  ·refine u12 (bv (ah h)) ?_;rintro b' rfl q;refine (v12 b' rfl (Br.mk ?_));cases b' with
   | true=>exact q
   | false=>exact (hb w).1 _ _ q
  ·refine u12 (bv (ah h)) ?_;rintro b' rfl q;refine (v12 b' rfl (Br.mk ?_));cases b' with
   | true=>exact mj q
   | false=>exact (hb w).2 _ _ q
theorem yD {o:BoolOp} {a r:IE} (ha:PE g c A env n call F vars pre a) (hr:PE g c A env n call F vars pre r):PE g c A env n call F vars pre (.bop o a r):=fun x h w=>Af ha (aa h) (uL hr (ag h)) w
theorem FF {m:M0} {o:IE} (ho:PE g c A env n call F vars pre o):PE g c A env n call F vars pre (.m0 m o):=fun x h w=>by
 have hb:=iJ (aC (ag h));refine cy rfl fun Q R hs=>?_;cases m
 ·refine Ev.lower (ho.ev (ag h) hs (fun v w h=>?_) aE) (hb _ _) (aa h);refine u12 (ay h) ?_;rintro r hr q;refine u12 (Md.mp hr) ?_;rintro x hx hr;obtain ⟨h1,rfl⟩:=bG hr;exact (v13 x (KI hx) h1 q)
 ·refine Ev.isalpha (ho.ev (ag h) hs (fun v w h=>?_) aE) (hb _ _) (aa h);refine u12 (ay h) ?_;rintro r hr q;refine u12 (Md.mp hr) ?_;rintro x hx hr;injection hr with hr;subst hr;exact (v12 x (KI hx) q)
 ·refine Ev.islower (ho.ev (ag h) hs (fun v w h=>?_) aE) (hb _ _) (aa h);refine u12 (ay h) ?_;rintro r hr q;refine u12 (Md.mp hr) ?_;rintro x hx hr;injection hr with hr;subst hr;exact (v12 x (KI hx) q)
 ·refine Ev.isupper (ho.ev (ag h) hs (fun v w h=>?_) aE) (hb _ _) (aa h);refine u12 (ay h) ?_;rintro r hr q;refine u12 (Md.mp hr) ?_;rintro x hx hr;injection hr with hr;subst hr;exact (v12 x (KI hx) q)
theorem mF {m:M1} {a:IE} (he:PE g c A env n call F vars pre a) {x:Expr} (h2:(tr n a).ok x=true) {s:LA} {w:Wd} {Q Q':LE} {R:LG} (hs:sat ((evE call F a w).bind fun y w=>.of (m1V m (.str s) y) w) (qS g vars pre Q) (rS g vars pre R))
 (k:∀st' y r,m1V m (.str s) (.str y)=some r→Q r st'→Q' (.str y) st'):Ev g c A (eval ((tr n a).e x) env) (stw g vars pre w) Q' R:=he.ev h2 hs (fun v w h=>by
 refine u12 (ay h) ?_;rintro r hr q;refine u23 (Il hr) ?_;rintro i j e rfl h3;exact k _ _ _ hr q) aE
theorem FE (ok:Ok g c A d) {m:M1} {o a:IE} (ho:PE g c A env n call F vars pre o) (he:PE g c A env n call F vars pre a):PE g c A env n call F vars pre (.m1 m o a):=fun x h w=>by
 have ho':=ag (aa h);have hb:=iJ (aC ho');have hst:=aU (aC (ag h)) env [];refine cy rfl fun Q R hs=>?_;cases m
 ·refine Ev.startswith (ho.ev ho' hs (fun v w h1=>?_) aE) (hb _ _) hst (aa (aa h));refine u12 (aT h1) ?_;rintro s rfl h2;exact (v12 _ rfl (mF he (ag h) h2 fun st' y r hr q=>by injection hr with hr;subst hr;exact (v12 y rfl q)))
 ·refine Ev.find (ho.ev ho' hs (fun v w h1=>?_) aE) (hb _ _) hst (aa (aa h));refine u12 (aT h1) ?_;rintro s rfl h2;exact (v12 _ rfl (mF he (ag h) h2 fun st' y r hr q=>by injection hr with hr;subst hr;exact (v12 y rfl q)))
 ·refine Ev.index ok (ho.ev ho' hs (fun v w h1=>?_) aE) (hb _ _) hst (aa (aa h));refine u12 (aT h1) ?_;rintro s rfl h2;exact (v12 _ rfl (mF he (ag h) h2 fun st' y r hr q=>by obtain ⟨h1,rfl⟩:=bG hr;exact (v13 y rfl h1 q)))
theorem pA {x:Str} {p:Pos}:starEach [.Name x p] env=[(false,eval (.Name x p) env)]:=rfl
theorem vi {s:LA} {a:IE} (he:PE g c A env n call F vars pre a):PE g c A env n call F vars pre (.join s a):=fun x h w=>cy rfl fun Q R hs=>
 Ev.join (he.ev (ag h) hs (fun v w h=>ay h) aE) (aU (aC (ag h)) env []) (aa h)
set_option maxRecDepth 100000 in
theorem rU (rd:Rd g c A env n F vars pre) {s:LA} {k:Nat}:PE g c A env n call F vars pre (.ojoin s k):=fun x h w=>cy rfl fun Q R hs=>by
 refine u12 (ay hs) ?_;rintro r hr hs;refine u12 (Md.mp hr) ?_;rintro l hl hr;refine u12 (rd.own _ _ l (eq_of_beq (ag h)) hl) ?_;rintro b hrd hu;obtain ⟨ow',hu⟩:=hu w;exact Ly (hrd w (kid x 1).pos (fun v st₁=>∃a l o' ow' r,v=.ref a∧OwnUpd a (.list l) o' st₁.own ow'∧dN s l=some r∧Q r st₁) R ⟨b,l,_,ow',r,rfl,hu,hr,hs⟩) pA (aa h)
set_option maxRecDepth 100000 in
theorem vj (cs:Calls g d call) (ok:Ok g c A d) (rd:Rd g c A env n F vars pre) {r:Bool} {k:Nat} {a:IE} (he:PE g c A env n call F vars pre a):PE g c A env n call F vars pre (.hget r k a):=fun x h w=>cy rfl fun Q R hs=>by
 refine u12 (ay (ah hs)) ?_;rintro u hu hs;refine u23 (ij (ah hs)) ?_;rintro b bk rfl hw hs;refine cs.hget ok (aa (aa h)) (aU (aC (ag h)) env) (fun Q' R q=>rd.var _ k (.ref b) (eq_of_beq (ag (aa h))) hu w _ Q' R q) ⟨_,ea (b':=bk) hw⟩ (he.ev (ag h) hs (fun v w h=>?_) aE);refine u24 (lJ h) ?_;rintro m bk' rfl e hlen h;refine ⟨_,bk',_,_,rfl,hlen,ea (b':=bk') e,?_⟩;cases r with
 | true=>
  refine u12 (ay h) ?_;rintro r hr q;refine u12 (Ms.mp hr) ?_;rintro u hu rfl;exact (v12 u hu q)
 | false=>exact h
theorem jy (al:Al g) (ok:Ok g c A d) (rd:Rd g c A env n F vars pre) {x:Str} {xs:LS} {fp pos:Pos} {as:IE} {w:Wd} {Q:LE} {R:LG} (hgl:x∈n.gl) (hl:PL g c A env n call F vars pre as) (ha:(tr n as).oks xs=true)
 (hn:∃v,bH g x v∧KeepOk g v) (hK:sat (evE call F as w) (qT g vars pre (md g d x Q R)) (rS g vars pre R)):Ev g c A (eval (.Call (.Name x fp) ((tr n as).es xs) [] pos) env) (stw g vars pre w) Q R:=by
 cases se ha with
 | nil=>
  refine u12 hK ?_;clear hK;rintro l e k;injection e with e;subst e;exact KM al.ok ok (rd.glob _ hgl) k
 | cons=>exact Ev.call al.ok ok (rd.glob _ hgl) (hl xs ha w pos _ R hK) hn (aU (aC (aa ha)) env _) (rg (ag ha))
theorem FG (al:Al g) (ok:Ok g c A d) (rd:Rd g c A env n F vars pre) {b:BI} {as:IE} (hl:PL g c A env n call F vars pre as):PE g c A env n call F vars pre (.bi b as):=fun x h w=>cy rfl fun Q R hs=>by
 obtain ⟨v,hv⟩:=GK al b;refine jy al ok rd (jr (aa h)) hl (ag h) ⟨v,hv⟩ (ai (ah hs) (fun v w' h=>?_) aE);refine u12 (cD (ah h)) ?_;rintro l rfl q;refine u12 (ay q) ?_;rintro r hr q;exact (v12 l rfl (GJ al hr q))
theorem vo (al:Al g) (cs:Calls g d call) (ok:Ok g c A d) (rd:Rd g c A env n F vars pre) {f:Nat} {as:IE} (hl:PL g c A env n call F vars pre as):PE g c A env n call F vars pre (.call f as):=fun x h w=>cy rfl fun Q R hs=>by
 have hf:=eq_of_beq (ag (aa (aa h)));refine jy al ok rd (jr (ag (aa h))) hl (ag h) (cs.named _ f hf) (ai (ah hs) (fun v w' h=>?_) aE);refine u12 (cD (ah h)) ?_;rintro l rfl q;refine u13 (cs.act _ f l w' _ _ pre hf q) ?_;rintro v hn hk hc;refine ⟨l,rfl,v,hn,hk,fun c A st frz s vs ok ho X r=>tt (hc c A st frz s vs ok ho X r) (fun v s' hh=>?_) fun v s' hh=>?_⟩
 ·obtain ⟨pv,own',frz',a,X',r',w',rfl,q⟩:=hh;exact ⟨pv,_,frz',a,X',r',q⟩
 ·obtain ⟨e,xx,st',f',fl,h1,h2,h3,h4,h5,w',h6,h7⟩:=hh;refine ⟨e,xx,st',f',fl,h1,h2,h3,h4,h5,?_⟩;rw [h6];exact h7
theorem vf (al:Al g) (ok:Ok g c A d) (rd:Rd g c A env n F vars pre) {k:Nat}:PE g c A env n call F vars pre (.olen k):=fun x h w=>cy rfl fun Q R hs=>by
 refine u12 (ay hs) ?_;rintro v hv q;refine u12 (Md.mp hv) ?_;rintro l hl' hv;obtain ⟨h1,rfl⟩:=bG hv;refine u12 (rd.own _ k l (eq_of_beq (ag h)) hl') ?_;rintro a hr hu;obtain ⟨ow',hu⟩:=hu w;exact Ev.call al.ok ok (rd.glob _ (jr (aa h))) (Evs.cons (hr w _ _ _ (Evs.nil (bY (gS al) (nB hu h1 q)))) (by rfl)) (sF al) (by rfl) (by rfl)
theorem noL {ie:IE} (h:∀xs,(tr n ie).oks xs=false):PL g c A env n call F vars pre ie:=fun xs h2=>by replace h2:=(h xs)▸h2;injection h2
theorem nZ (al:Al g) (cs:Calls g d call) (ok:Ok g c A d) (rd:Rd g c A env n F vars pre):∀ie:IE,PE g c A env n call F vars pre ie∧PL g c A env n call F vars pre ie:=by
 intro ie
 induction ie with
 | nil=>exact ⟨fun _ h=>(nomatch h),yo⟩
 | cons a r ia ir=>exact ⟨fun _ h=>(nomatch h),uZ ia.1 ir.2⟩
 | int=>exact ⟨yA,noL fun _=>rfl⟩
 | str=>exact ⟨yu,noL fun _=>rfl⟩
 | bool=>exact ⟨vq,noL fun _=>rfl⟩
 | none=>exact ⟨vh,noL fun _=>rfl⟩
 | nopart=>exact ⟨fun _ h=>(nomatch h),noL fun _=>rfl⟩
 | var=>exact ⟨yq rd,noL fun _=>rfl⟩
 | cvar=>exact ⟨vm rd,noL fun _=>rfl⟩
 | tvar=>exact ⟨ve rd,noL fun _=>rfl⟩
 | call f as ia=>exact ⟨vo al cs ok rd ia.2,noL fun _=>rfl⟩
 | bi f as ia=>exact ⟨FG al ok rd ia.2,noL fun _=>rfl⟩
 | bin o a b ia ib=>exact ⟨yE ok ia.1 ib.1,noL fun _=>rfl⟩
 | cmp o a b ia ib=>exact ⟨yC ok ia.1 ib.1,noL fun _=>rfl⟩
 | cmp2 o o' a b z ia ib iz=>exact ⟨vn ok ia.1 ib.1 iz.1,noL fun _=>rfl⟩
 | neg a ia=>exact ⟨yx ia.1,noL fun _=>rfl⟩
 | not a ia=>exact ⟨yw ia.1,noL fun _=>rfl⟩
 | bop o a r ia ir=>exact ⟨yD ia.1 ir.1,noL fun _=>rfl⟩
 | ite t a b it ia ib=>exact ⟨yz it.1 ia.1 ib.1,noL fun _=>rfl⟩
 | tup as ia=>exact ⟨yr ia.2,noL fun _=>rfl⟩
 | lst as ia=>exact ⟨yy ia.2,noL fun _=>rfl⟩
 | sub a i ia ii=>exact ⟨yt ok ia.1 ii.1,noL fun _=>rfl⟩
 | slc a l u ia il iu=>exact ⟨yv ok ia.1 il.1 iu.1,noL fun _=>rfl⟩
 | m0 m o io=>exact ⟨FF io.1,noL fun _=>rfl⟩
 | m1 m o a io ia=>exact ⟨FE ok io.1 ia.1,noL fun _=>rfl⟩
 | join s a ia=>exact ⟨vi ia.1,noL fun _=>rfl⟩
 | olen k=>exact ⟨vf al ok rd,noL fun _=>rfl⟩
 | oidx k i ii=>exact ⟨vg ok rd ii.1,noL fun _=>rfl⟩
 | ojoin s k=>exact ⟨rU rd,noL fun _=>rfl⟩
 | din a k ia=>exact ⟨yB ok rd ia.1,noL fun _=>rfl⟩
 | dget k i ii=>exact ⟨vk ok rd ii.1,noL fun _=>rfl⟩
 | hget r k a ia=>exact ⟨vj cs ok rd ia.1,noL fun _=>rfl⟩
end
noncomputable def ad (lo:List (Nat×Addr)) (k:Nat):Addr:=(lo.lookup k).getD 0
noncomputable def Slot.pv (a:Addr):Slot→LD
 | .un=>none
 | .val v=>some v
 | .own _=>some (.ref a)
 | .dic _=>some (.ref a)
noncomputable def Slot.ao (g:Gx):Slot→AO
 | .own l=>.list l
 | .dic es=>aq g es
 | _=>.list []
noncomputable def mkV (lo:List (Nat×Addr)):Nat→LP→LC→aM
 | i,x::xs,s::ss=>(x,s.pv (ad lo i))::mkV lo (i+1) xs ss
 | _,_,_=>[]
noncomputable def aI (g:Gx) (lo:List (Nat×Addr)) (vs:LC):Own:=lo.map fun p=>(p.2,(vs.getD p.1 .un).ao g)
structure Inv (n:Nm) (lo:List (Nat×Addr)) (is:IS):Prop where
 nd:(lo.map (·.1)).Nodup
 iff:∀k,(∃s,is.vs[k]? = some s∧s.free=false)↔k∈lo.map (·.1)
noncomputable abbrev stf (g:Gx) (n:Nm) (pre:Own) (lo:List (Nat×Addr)) (is:IS) (w:Wd):St:=stw g (mkV lo 0 n.ns is.vs) (aI g lo is.vs++pre) w
abbrev qF (g:Gx) (n:Nm) (pre:Own) (cs:List (LD)) (Q:LK):AF×IS→Wd→Prop:=fun p w=>p.2.cs=cs→∀lo,Inv n lo p.2→Q p.1 (stf g n pre lo p.2 w)
abbrev rF (g:Gx) (n:Nm) (pre:Own) (R:LG):LJ:=fun x w=>∀lo is,R x (stf g n pre lo is w)
theorem gU (lo:List (Nat×Addr)) (i:Nat) (x:Str) (xs:LP) (s:Slot) (ss:LC):mkV lo i (x::xs) (s::ss)=(x,s.pv (ad lo i))::mkV lo (i+1) xs ss:=rfl
theorem fe {lo:List (Nat×Addr)} {x:Str}:∀{xs:LP} {ss:LC} {i k:Nat} {s:Slot} {v:PV},xs[k]? = some x→ss[k]? = some s→s.pv (ad lo (i+k))=some v→Look x v (mkV lo i xs ss):=by
 intro xs
 induction xs with
 | nil=>intro _ _ _ _ _ h _ _;simp at h
 | cons y xs ih=>
  intro ss i k s' v h1 h2 h3;cases ss with|nil=>simp at h2|cons s ss=>?_
  cases k with
  | zero=>
   simp at h1 h2;subst h1 h2;simp only [Ss] at h3;rw [gU,h3];exact .here
  | succ k=>
   simp only [OS] at h1 h2;exact .there (ih h1 h2 (by refine (show i+1+k=i+(k+1) by exact Ax)▸?_;exact h3))
theorem kb {lo lo':List (Nat×Addr)} {x:Str} {s':Slot} {v:PV}:∀{xs:LP} {ss:LC} {i k:Nat},xs[k]? = some x→k<ss.length→s'.pv (ad lo' (i+k))=some v→(∀j,j≠i+k→ad lo' j=ad lo j)→Put x v (mkV lo i xs ss) (mkV lo' i xs (ss.set k s')):=by
 intro xs
 induction xs with
 | nil=>intro _ _ _ h _ _ _;simp at h
 | cons y xs ih=>
  intro ss i k h1 h2 h3 h4;cases ss with|nil=>simp at h2|cons s ss=>?_
  cases k with
  | zero=>
   simp at h1;subst h1;simp only [Ss] at h3 h4;rw [List.set_cons_zero,gU,gU,h3];have:mkV lo' (i+1) xs ss=mkV lo (i+1) xs ss:=by
    have:∀(xs:LP) (ss:LC) (m:Nat),i<m→mkV lo' m xs ss=mkV lo m xs ss:=by
     intro xs
     induction xs with
     | nil=>intro ss m _;cases ss<;>rfl
     | cons a as ih=>
      intro ss m hm;cases ss with
      | nil=>rfl
      | cons b bs=>simp only [gU];exact (h4 m (Hb hm))▸(ih bs (m+1) (Ha hm))▸rfl
    exact this xs ss (i+1) (xF)
   rw [this];exact .here
  | succ k=>
   simp only [OS] at h1;rw [Re,gU,gU,h4 i (GZ)];exact .there (ih h1 (by simpa using h2) (by refine (show i+1+k=i+(k+1) by exact Ax)▸?_;exact h3) fun j hj=>h4 j (GY hj))
theorem bn {l:LP} {x:Str} {k:Nat} (h:lk l x=some k):l[k]? = some x:=by
 unfold lk at h;refine u12 (PA.mp h) ?_;rintro h1 h2 _;rw [Mg h1];simpa using h2
theorem ee {g:Gx} {lo:List (Nat×Addr)} {vs:LC} {k:Nat} {s s':Slot} {pre:Own} (hn:(lo.map (·.1)).Nodup) (hk:k∈lo.map (·.1)) (hv:vs[k]? = some s) :
 OwnUpd (ad lo k) (s.ao g) (s'.ao g) (aI g lo vs++pre) (aI g lo (vs.set k s')++pre):=by
 induction lo with
 | nil=>cases hk
 | cons p lo ih=>
  obtain ⟨j,a⟩:=p;by_cases e:j=k
  ·subst e;have nin:=(Mt.mp hn).1;have h1:aI g lo (vs.set j s')=aI g lo vs:=by
    unfold aI;apply NA;intro q hq;simp [NS,MP (NM (fun e=>nin (Ma.mpr (v12 q hq e))))]
   have h2:vs.getD j .un=s:=by simp [NS,hv]
   have h3:(vs.set j s').getD j .un=s':=by simp [NS,((ME.mp hv).1)]
   rw [(show ad ((j,a)::lo) j=a from by simp [ad])];show OwnUpd a _ _ ((a,(vs.getD j .un).ao g)::aI g lo vs++pre) ((a,((vs.set j s').getD j .un).ao g)::aI g lo (vs.set j s')++pre);refine h1.symm▸h2.symm▸h3.symm▸?_;exact .here
  ·have hk':k∈lo.map (·.1):=by
    refine Mx (Me.mp hk) (fun q=>?_) fun q=>?_
    ·exact absurd q.symm e
    ·exact q
   have h4:ad ((j,a)::lo) k=ad lo k:=by
    simp [ad,Mn,(show (k==j)=false from by simp [NM e])]
   have h2:((vs.set k s').getD j .un)=vs.getD j .un:=by simp [NS,MP (NM e)]
   refine h4▸?_;show OwnUpd _ _ _ ((a,(vs.getD j .un).ao g)::aI g lo vs++pre) ((a,((vs.set k s').getD j .un).ao g)::aI g lo (vs.set k s')++pre);refine h2▸?_;exact .there (ih (Mt.mp hn).2 hk')
theorem OwnUpd.right {a:Addr} {o o':AO} {x y z:Own} (h:OwnUpd a o o' x y):OwnUpd a o o' (x++z) (y++z):=by
 induction h with
 | here=>exact .here
 | there _ ih=>exact .there ih
theorem KL {a:Addr} {o o':AO} (z:Own) {x y:Own} (h:OwnUpd a o o' x y):OwnUpd a o o' (z++x) (z++y):=by
 induction z with
 | nil=>exact h
 | cons p z ih=>exact .there ih
structure Fo (g:Gx) (c:Cx) (A:Around) (d:Nat) (n:Nm) (pre:Own) (cs:List (LD)):Prop where
 ok:Ok g c A d
 gl:∀x∈n.gl,(x,NameKind.globalImplicit)∈c.cs.names
 loc:∀x∈n.ns,(x,NameKind.local)∈c.cs.names
 tn:n.tn=none
 cn:∀x∈n.cn,(x,NameKind.cell)∈c.cs.names∧∃a,c.cells.lookup x=some a
 cell:∀k x v,lk n.cn x=some k→(⟨[],cs,none⟩:Fv).cvar k=some v→∀a,c.cells.lookup x=some a→∀own1 w,∃ow',OwnUpd a (bz (some v)) (bz (some v)) ((own1++pre)++aQ g w) ow'
section
variable {g:Gx} {c:Cx} {A:Around} {d:Nat} {n:Nm} {call:ax} {pre:Own}
theorem qY {F:Fv} {k:Nat} {v:PV} (h:F.var k=some v):F.vs[k]? = some (.val v):=by
 unfold Fv.var at h;cases e:F.vs[k]? with
 | none=>rw [e] at h;injection h
 | some s=>rw [e] at h;cases s<;>first|(injection h;done)|(injection h with h;rw [h])
theorem ls {F:Fv} {k:Nat} {v:LB} (h:F.own k=some v):F.vs[k]? = some (.own v):=by
 unfold Fv.own at h;cases e:F.vs[k]? with
 | none=>rw [e] at h;injection h
 | some s=>rw [e] at h;cases s<;>first|(injection h;done)|(injection h with h;rw [h])
theorem tm {F:Fv} {k:Nat} {v:List (LA×PV)} (h:F.dic k=some v):F.vs[k]? = some (.dic v):=by
 unfold Fv.dic at h;cases e:F.vs[k]? with
 | none=>rw [e] at h;injection h
 | some s=>rw [e] at h;cases s<;>first|(injection h;done)|(injection h with h;rw [h])
theorem oU {x:Str} {k:Nat} (h:vU n x=some k):lk n.ns x=some k:=by
 refine u12 (Md.mp h) ?_;rintro j h1 h2;cases (cJ h2).2;exact h1
theorem la {vs:LC} {k:Nat} {s:Slot} (hs:vs[k]? = some s):vs.set k s=vs:=by
 apply List.ext_getElem?;intro j;by_cases e:k=j
 ·subst e;exact (OY ((ME.mp hs).1))▸hs▸rfl
 ·rw [MP e]
theorem Fo.look {lo:List (Nat×Addr)} {is:IS} {x:Str} {k:Nat} {v:PV} (hk:lk n.ns x=some k) (h:is.F.var k=some v):Look x v (mkV lo 0 n.ns is.vs):=
 fe (bn hk) (qY h) rfl
theorem jX {x:Str} {k:Nat} (h:yF n x=some k):lk n.ns x=some k:=by
 refine u12 (Md.mp h) ?_;rintro j h1 h2;cases (cJ h2).2;exact h1
theorem bA {x:Str} {k:Nat} (h:uw n x=some k):lk n.ns x=some k:=by
 refine u12 (Md.mp h) ?_;rintro j h1 h2;by_cases hc:(n.own.contains j||n.dic.contains j)=true
 ·replace h2:=(if_pos hc)▸h2;injection h2
 ·replace h2:=(if_neg hc)▸h2;injection h2 with h2;subst h2;exact h1
theorem Fo.rd (z:Own) {lo:List (Nat×Addr)} {is:IS} (fo:Fo g c A d n pre is.cs) (inv:Inv n lo is):Rd g c A c.env n is.F (mkV lo 0 n.ns is.vs) ((z++aI g lo is.vs)++pre) where
 var x k v h hv w pos Q R q:=Ev.var fo.ok (Fo.look (bA h) hv) q
 cell x k v _ h hv w pos Q R q:=by
  obtain ⟨h1,a,ha⟩:=fo.cn x (MK (bn h));obtain ⟨ow',u⟩:=fo.cell k x v h hv a ha (z++aI g lo is.vs) w;exact Ev.cell fo.ok.kind (aA fo.ok.nd h1) ha (fo.ok.noDbg h1) u q
 tv x v _ _ h _ _ _ _ _ _:=by replace h:=fo.tn▸h;injection h
 own x k l h hl:=by
  have hs:=ls hl;have hk:=jX h;refine (v12 (ad lo k) (fun w pos Q R q=>Ev.var fo.ok (fe (bn hk) hs (by rw [Oi];rfl)) q) (fun w=>?_));have:=ee (g:=g) (pre:=[]) (s':=.own l) inv.nd ((inv.iff k).mp (v12 _ hs rfl)) hs;rw [la hs,MM] at this;exact ⟨_,((KL z this).right (z:=pre)).right⟩
 dic x k l h hl:=by
  have hs:=tm hl;have hk:=oU h;refine (v12 (ad lo k) (fun w pos Q R q=>Ev.var fo.ok (fe (bn hk) hs (by rw [Oi];rfl)) q) (fun w=>?_));have:=ee (g:=g) (pre:=[]) (s':=.dic l) inv.nd ((inv.iff k).mp (v12 _ hs rfl)) hs;rw [la hs,MM] at this;exact ⟨_,((KL z this).right (z:=pre)).right⟩
 glob x hx:=fo.ok.envG (fo.gl x hx)
theorem pF {v:PV}:∀{vs:LC} {k:Nat} {vs':LC},li vs k v=some vs'→(vs[k]? = some .un∨∃u,vs[k]? = some (.val u))∧vs'=vs.set k (.val v):=by
 intro vs
 induction vs with
 | nil=>intro _ _ h;injection h
 | cons s r ih=>
  intro k vs' h;cases k with
  | zero=>
   rw [rP] at h;obtain ⟨hf,h⟩:=cJ h;injection h with h;subst h;cases s with
   | un=>exact ⟨.inl rfl,rfl⟩
   | val u=>exact ⟨.inr ⟨u,rfl⟩,rfl⟩
   | own l=>injection hf
   | dic l=>injection hf
  | succ k=>
   rw [mu,Ms] at h;refine u12 h ?_;clear h;rintro vs' h rfl;obtain ⟨h1,rfl⟩:=ih h;exact ⟨by simpa using h1,rfl⟩
theorem uO {v:PV}:∀{vs:LC} {k:Nat},(vs[k]? = some .un∨∃u,vs[k]? = some (.val u))→li vs k v=some (vs.set k (.val v)):=by
 intro vs
 induction vs with
 | nil=>intro _ h;simp at h
 | cons s r ih=>
  intro k h;cases k with
  | zero=>
   rw [rP,if_pos]
   ·rfl
   ·rcases h with h|⟨u,h⟩<;>(simp at h;subst h;rfl)
  | succ k=>
   rw [mu,ih (by simpa using h)];rfl
theorem bN {is is':IS} {k:Nat} {v:PV} (h:is.put k v=some is'):(is.vs[k]? = some .un∨∃u,is.vs[k]? = some (.val u))∧is'={ is with vs:=is.vs.set k (.val v) }:=by
 unfold IS.put at h;rw [Ms] at h;refine u12 h ?_;clear h;rintro vs h rfl;obtain ⟨h1,rfl⟩:=pF h;exact ⟨h1,rfl⟩
theorem rO {is:IS} {k:Nat} {v:PV} (h:is.vs[k]? = some .un∨∃u,is.vs[k]? = some (.val u)):is.put k v=some { is with vs:=is.vs.set k (.val v) }:=by
 unfold IS.put;rw [uO h];rfl
theorem Inv.put {lo:List (Nat×Addr)} {is is':IS} {k:Nat} {v:PV} (inv:Inv n lo is) (h:is.put k v=some is'):Inv n lo is':=by
 obtain ⟨h1,rfl⟩:=bN h;refine ⟨inv.nd,fun j=>?_⟩;rw [←inv.iff j];by_cases e:k=j
 ·subst e;have hlt:k<is.vs.length:=by rcases h1 with h1|⟨_,h1⟩<;>exact (ME.mp h1).1
  simp only [OY hlt];constructor
  ·rintro ⟨s,h,hf⟩;injection h with h;subst h;injection hf
  ·rintro ⟨s,h,hf⟩;rcases h1 with h1|⟨_,h1⟩<;>rw [h1] at h<;>cases h<;>injection hf
 ·simp only [MP e]
theorem uN {lo:List (Nat×Addr)} {is is':IS} {k:Nat} {v:PV} (inv:Inv n lo is) (h:is.put k v=some is'):aI g lo is'.vs=aI g lo is.vs:=by
 obtain ⟨h1,rfl⟩:=bN h;unfold aI;apply NA;intro q hq;have hne:k≠q.1:=by
  rintro rfl;obtain ⟨l,hl,hf⟩:=(inv.iff q.1).mpr (Ma.mpr (v12 q hq rfl));rcases h1 with h1|⟨_,h1⟩<;>rw [h1] at hl<;>cases hl<;>injection hf
 simp [NS,MP hne]
theorem fH {lo:List (Nat×Addr)} {is is':IS} {k:Nat} {v:PV} {x:Str} {w:Wd} {Q:St→Prop} (inv:Inv n lo is) (hk:lk n.ns x=some k) (h:is.put k v=some is') (q:Q (stf g n pre lo is' w)):PutQ x v (stf g n pre lo is w) Q:=by
 obtain ⟨h1,rfl⟩:=bN h;have hlt:k<is.vs.length:=by rcases h1 with h1|⟨_,h1⟩<;>exact (ME.mp h1).1
 refine ⟨_,kb (lo':=lo) (s':=.val v) (bn hk) hlt rfl fun _ _=>rfl,?_⟩;show Q ⟨_,(aI g lo is.vs++pre)++aQ g w⟩;refine (uN (g:=g) inv h)▸?_;exact q
end
def HWr (g:Gx) (d:Nat):Prop:=∀{c A st} {Q:LK} {R:LG} {x:Str} {np ap pos sp:Pos} {e₁ e₂:Expr} {a:Addr} {bk:aS} {o':AO},Ok g c A d→(ap.endLine==pos.line)=true→cc e₁ c.env→cc e₂ c.env→
 (∀(Q':LE) R,Q' (.ref a) st→Ev g c A (eval (.Name x np) c.env) st Q' R)→(∃ow',OwnUpd a (g.host bk) o' st.own ow')→
 Ev g c A (eval e₁ c.env) st (HwU g c A (eval e₂ c.env) a Q R) R→
 Ex g c A (exec (.Expr (.Call (.Attribute (.Name x np) "write" ap) [e₁,e₂] [] pos) sp) c.env) st Q R
structure Rse (g:Gx) (d:Nat):Prop where
 sysm:sysModules<g.base.objs.size
 hwr:HWr g d
 exE:∀{c A st} {Q:LK} {R:LG} {a b fp p pos},Ok g c A d→EnvG c.env "error"→cc a c.env→cc b c.env→
  Ev g c A (eval a c.env) st (fun v st₁=>∃s,v=.str s∧Ev g c A (eval b c.env) st₁ (fun w st₂=>R ⟨1,s,w⟩ st₂) R) R→Ex g c A (exec (.Raise (some (.Call (.Name "error" fp) [a,b] [] p)) none pos) c.env) st Q R
 exW:∀{c A st} {Q:LK} {R:LG} {a fp p pos},Ok g c A d→EnvG c.env "wrong_args"→cc a c.env→
  Ev g c A (eval a c.env) st (fun v st₁=>∃s,v=.str s∧s.length≤1000∧R (aO s) st₁) R→Ex g c A (exec (.Raise (some (.Call (.Name "wrong_args" fp) [a] [] p)) none pos) c.env) st Q R
 tryE:∀{c A st} {Q:LK} {R:LG} {s:Stmt} {b yp k1 p1 z p2 k2 p3 p4 p5 pos},Ok g c A d→EnvG c.env "Raised"→Ex g c A (exec s c.env) st Q (fun x st'=>∃v,Look z v st'.vars∧Q (.ret (.tup [.bool b,v])) st')→
  Ex g c A (exec (.Try [s] [.ExceptHandler (some (.Name "Raised" yp)) none [.Return (some (.Tuple [.Constant (.bool b) k1 p1,.Name z p2] k2 p3)) p4] p5] [] [] pos) c.env) st Q R
theorem bU {e:Expr} (h:cj e=true) (t:Option Expr) (l:Nat) (env:Env):swapsWith e t l env=pure false:=by
 cases e<;>first|rfl|injection h
theorem dl {e:Expr} (h:cj e=true) (env:Env) (v:Value):foldedSetIterable e env v=pure v:=by
 cases e<;>first|rfl|injection h
set_option backward.match.sparseCases true in
theorem eZ {e:Expr} (h:cj e=true):(fun x:Expr=>match x with|.Starred ..=>true|_=>false) e=false:=by
 cases e<;>first|rfl|injection h
section
variable {g:Gx} {c:Cx} {A:Around} {d:Nat} {n:Nm} {call:ax} {pre:Own} {cs:List (LD)}
def PX (g:Gx) (c:Cx) (A:Around) (n:Nm) (call:ax) (pre:Own) (cs:List (LD)) (t:Sem Flow) (ic:IC):Prop:=
 ∀(is:IS) (w:Wd) (lo:List (Nat×Addr)),is.cs=cs→Inv n lo is→∀(Q:LK) (R:LG),
  sat (exC call ic is w) (qF g n pre cs Q) (rF g n pre R)→Ex g c A t (stf g n pre lo is w) Q R
def PS (g:Gx) (c:Cx) (A:Around) (n:Nm) (call:ax) (pre:Own) (cs:List (LD)) (ic:IC):Prop:=
 ∀x,(trS n ic).ok x=true→PX g c A n call pre cs (exec ((trS n ic).s x) c.env) ic
def PSL (g:Gx) (c:Cx) (A:Around) (n:Nm) (call:ax) (pre:Own) (cs:List (LD)) (ic:IC):Prop:=
 ∀xs,(trS n ic).oks xs=true→PX g c A n call pre cs (execs ((trS n ic).ss xs) c.env) ic
def AE (g:Gx) (c:Cx) (A:Around) (n:Nm) (call:ax) (pre:Own) (cs:List (LD)):Prop:=
 ∀(z:Own) (is:IS) (lo:List (Nat×Addr)),is.cs=cs→Inv n lo is→∀ie,PE g c A c.env n call is.F (mkV lo 0 n.ns is.vs) ((z++aI g lo is.vs)++pre) ie∧PL g c A c.env n call is.F (mkV lo 0 n.ns is.vs) ((z++aI g lo is.vs)++pre) ie
theorem ae (al:Al g) (cl:Calls g d call) (fo:Fo g c A d n pre cs):AE g c A n call pre cs:=fun z is lo hc inv ie=>by
 subst hc;exact nZ al cl fo.ok (fo.rd z inv) ie
theorem AE.ev (E:AE g c A n call pre cs) {is:IS} {lo:List (Nat×Addr)} (hc:is.cs=cs) (inv:Inv n lo is) {e:IE} {x:Expr} {w:Wd} {β:Type} {f:PV→Wd→Rs β} {Q':β→Wd→Prop} {Q:LE} {R:LG} (h:(tr n e).ok x=true) (hs:sat ((evE call is.F e w).bind f) Q' (rF g n pre R))
 (k:∀v w,sat (f v w) Q' (rF g n pre R)→Q v (stf g n pre lo is w)):Ev g c A (eval ((tr n e).e x) c.env) (stf g n pre lo is w) Q R:=(E [] is lo hc inv e).1.ev h hs k fun x w h=>h lo is
theorem eI {is is':IS} {k:Nat} {v:PV} (hc:is.cs=cs) (h:is.put k v=some is'):is'.cs=cs:=by rw [(bN h).2];exact hc
theorem pJ (fo:Fo g c A d n pre cs) (E:AE g c A n call pre cs) {k:Nat} {e:IE}:PS g c A n call pre cs (.assign k e):=fun x h is w lo hc inv Q R hs=>
 Ex.assign fo.ok (E.ev hc inv (ag h) hs fun v w h2=>by obtain ⟨is',hp,q⟩:=ay (ah h2);exact fH inv (bA (eq_of_beq (aa h))) hp (q (eI hc hp) lo (inv.put hp))) (bU (aC (ag h)) _ _ _)
theorem ym (fo:Fo g c A d n pre cs) (E:AE g c A n call pre cs) {o:Operator} {k:Nat} {e:IE}:PS g c A n call pre cs (.aug k o e):=fun x h is w lo hc inv Q R hs=>by
 refine u12 (ay (ah hs)) ?_;rintro u hu hs;refine Ex.aug fo.ok (Fo.look (bA (eq_of_beq (aa h))) hu) (E.ev hc inv (ag h) hs fun v w h2=>?_);refine u12 (ay (ah h2)) ?_;rintro r hr h3;refine u12 (ay (ah h3)) ?_;rintro is' hp q;exact Ai hr (fH inv (bA (eq_of_beq (aa h))) hp (q (eI hc hp) lo (inv.put hp)))
theorem Inv.newOwn {lo:List (Nat×Addr)} {is:IS} {k:Nat} {a:Addr} {s':Slot} (inv:Inv n lo is) (hlt:k<is.vs.length) (hnk:k∉lo.map (·.1)) (hs:s'.free=false):Inv n ((k,a)::lo) { is with vs:=is.vs.set k s' }:=by
 refine ⟨Mt.mpr ⟨hnk,inv.nd⟩,fun j=>?_⟩;by_cases e:k=j
 ·subst e;simp [hlt,hs]
 ·rw [(show (∃s,(is.vs.set k s')[j]? = some s∧s.free=false)↔∃s,is.vs[j]? = some s∧s.free=false from by simp only [MP e]),inv.iff j];simp [NM e]
theorem Inv.sameOwn {lo:List (Nat×Addr)} {is:IS} {k:Nat} {s s':Slot} (inv:Inv n lo is) (h:is.vs[k]? = some s) (h1:s.free=false) (h2:s'.free=false):Inv n lo { is with vs:=is.vs.set k s' }:=by
 refine ⟨inv.nd,fun j=>?_⟩;rw [←inv.iff j];by_cases e:k=j
 ·subst e;simp only [OY ((ME.mp h).1),h];exact ⟨fun _=>(v12 s rfl h1),fun _=>(v12 s' rfl h2)⟩
 ·simp only [MP e]
theorem yh (fo:Fo g c A d n pre cs) {k:Nat}:PS g c A n call pre cs (.onew k):=fun x h is w lo hc inv Q R hs=>by
 obtain ⟨hun,hs⟩:=lu hs
 ·have hlt:k<is.vs.length:=(ME.mp hun).1;have hnk:k∉lo.map (·.1):=fun hm=>by
   refine u12 ((inv.iff k).mpr hm) ?_;rintro l hl hf;replace hl:=hun▸hl;injection hl with hl;subst hl;injection hf
  refine Ex.newList fo.ok (fun a=>?_) (by rfl);have hadj:∀j,j≠0+k→ad ((k,a)::lo) j=ad lo j:=fun j hj=>by
   simp [ad,Mn,(show (j==k)=false from by simp;exact AD hj)]
  refine ⟨_,kb (lo':=(k,a)::lo) (s':=.own []) (v:=.ref a) (bn (jX (eq_of_beq h))) hlt (by rw [Oi,(show ad ((k,a)::lo) k=a from by simp [ad])];rfl) hadj,?_⟩;have e:aI g lo (is.vs.set k (.own []))=aI g lo is.vs:=by
   unfold aI;apply NA;intro q hq;simp [NS,MP (show k≠q.1 from by rintro rfl;exact hnk (Ma.mpr (v12 q hq rfl)))]
  have e2:(a,AO.list [])::((aI g lo is.vs++pre)++aQ g w)=(aI g ((k,a)::lo) (is.vs.set k (.own []))++pre)++aQ g w:=by
   show _=((a,((is.vs.set k (.own [])).getD k .un).ao g)::aI g lo (is.vs.set k (.own []))++pre)++aQ g w;rw [e];simp [NS,hlt,Slot.ao]
  show Q .next ⟨_,(a,AO.list [])::((aI g lo is.vs++pre)++aQ g w)⟩;rw [e2];refine hs hc ((k,a)::lo) (inv.newOwn hlt hnk rfl)
theorem yn (fo:Fo g c A d n pre cs) (E:AE g c A n call pre cs) {k:Nat} {e:IE}:PS g c A n call pre cs (.oapp k e):=fun x h is w lo hc inv Q R hs=>by
 refine u12 (ay (ah hs)) ?_;rintro l hl hs;have hl:=ls hl
 ·have hu:=fun v w=>(ee (g:=g) (pre:=pre) (s':=.own (l++[v])) inv.nd ((inv.iff k).mp (v12 _ hl rfl)) hl).right (z:=aQ g w);refine Ex.append fo.ok (fe (bn (jX (eq_of_beq (ag (aa h))))) hl (by rw [Oi];rfl)) (hu .none w) (E.ev hc inv (ag h) hs fun v w h=>?_) (aa (aa h)) (aU (aC (ag h)) _ []) (by rfl) (by rfl);obtain ⟨h1,h⟩:=gy h;refine (v23 l _ (hu v w) h1 ?_);have hlt:k<is.vs.length:=(ME.mp hl).1;have e3:mkV lo 0 n.ns (is.vs.set k (.own (l++[v])))=mkV lo 0 n.ns is.vs:=by
   have:∀(xs:LP) (ss:LC) (i m:Nat) (l':LB),ss[m]? = some (.own l')→mkV lo i xs (ss.set m (.own (l++[v])))=mkV lo i xs ss:=by
    intro xs
    induction xs with
    | nil=>intro ss i m l' h;cases ss<;>cases m<;>rfl
    | cons a as ih=>
     intro ss i m l' h;cases ss with
     | nil=>rfl
     | cons b bs=>
      cases m with
      | zero=>simp at h;subst h;rfl
      | succ m=>simp only [Re,gU];rw [ih bs (i+1) m l' (by simpa using h)]
   exact this _ _ _ _ _ hl
  have h:=h hc lo (inv.sameOwn hl rfl rfl);show Q .next ⟨mkV lo 0 n.ns is.vs,_⟩;rw [←e3];exact h
theorem Ex.retN {pos} {st:St} {Q:LK} {R:LG} (q:Q (.ret .none) st):Ex g c A (exec (.Return none pos) c.env) st Q R:=fun frz s X=>
 wpAny_Return_none ⟨.ret .none,st,frz,Sub.refl _,X,rfl,q⟩
theorem yf (E:AE g c A n call pre cs) {e:IE}:PS g c A n call pre cs (.ret e):=fun x h is w lo hc inv Q R hs=>Ex.ret (E.ev hc inv h hs fun v w h=>h hc lo inv)
theorem uR:PS g c A n call pre cs .retN:=fun x _ is w lo hc inv Q R hs=>Ex.retN (hs hc lo inv)
theorem yl:PS g c A n call pre cs .brk:=fun x _ is w lo hc inv Q R hs=>Ex.brk (hs hc lo inv)
theorem uS:PS g c A n call pre cs .pass:=fun x _ is w lo hc inv Q R hs=>Ex.pass (hs hc lo inv)
theorem yk (fo:Fo g c A d n pre cs) (E:AE g c A n call pre cs) {e:IE}:PS g c A n call pre cs (.eff e):=fun x h is w lo hc inv Q R hs=>
 Ex.eff fo.ok (bU (aC h) _ _ _) (E.ev hc inv h hs fun v w h=>let ⟨h1,h⟩:=dK h;⟨dO h1,h hc lo inv⟩)
theorem pH (fo:Fo g c A d n pre cs) (rs:Rse g d) (E:AE g c A n call pre cs) {a b:IE}:PS g c A n call pre cs (.raiseE a b):=fun x h is w lo hc inv Q R hs=>
 rs.exE fo.ok (fo.ok.envG (fo.gl _ (jr (aa (aa h))))) (aU (aC (ag (aa h))) _) (aU (aC (ag h)) _) (E.ev hc inv (ag (aa h)) hs fun x w h1=>
  let ⟨s,e,h2⟩:=aT h1
  (v12 s e (E.ev hc inv (ag h) h2 fun y w h3=>h3 lo is)))
theorem pG (fo:Fo g c A d n pre cs) (rs:Rse g d) (E:AE g c A n call pre cs) {a:IE}:PS g c A n call pre cs (.raiseW a):=fun x h is w lo hc inv Q R hs=>
 rs.exW fo.ok (fo.ok.envG (fo.gl _ (jr (aa h)))) (aU (aC (ag h)) _) (E.ev hc inv (ag h) hs fun x w h1=>
  let ⟨s,e,h2⟩:=aT h1
  let ⟨hl,h3⟩:=dK h2
  (v13 s e hl (h3 lo is)))
theorem ye (fo:Fo g c A d n pre cs) (rs:Rse g d) (E:AE g c A n call pre cs) {k j:Nat} {e:IE} {b:Bool}:PS g c A n call pre cs (.tryR k e b j):=fun x h is w lo hc inv Q R hs=>by
 have h1:=aa h;refine rs.tryE fo.ok (fo.ok.envG (fo.gl _ (jr (aa (aa h1))))) ?_;refine Ex.assign fo.ok (((E [] is lo hc inv e).1 _ (ag h) w).1 _ _ (ai (uK hs) (fun u w h2=>?_) fun x w h2=>?_)) (bU (aC (ag h)) _ _ _)
 ·refine u12 (ay (ah h2)) ?_;rintro is' hp q;exact fH inv (bA (eq_of_beq (ag (aa h1)))) hp (q (eI hc hp) lo (inv.put hp))
 ·refine u12 (ay (ah h2)) ?_;rintro u hu q;exact (v12 u (Fo.look (bA (eq_of_beq (ag h1))) hu) (q hc lo inv))
theorem Im {lo:List (Nat×Addr)} {is:IS} {j k:Nat} {a b:PV} {x y:Str} {w:Wd} {Q:LK} {R:LJ} (hc:is.cs=cs) (inv:Inv n lo is) (hj:lk n.ns x=some j) (hk:lk n.ns y=some k)
 (h:sat ((Rs.of (is.put j a) w).bind fun is w=>(Rs.of (is.put k b) w).bind fun is w=>Rs.ok (AF.next,is) w) (qF g n pre cs Q) R) :
 PutQ x a (stf g n pre lo is w) fun st=>PutQ y b st (Q .next):=by
 refine u12 (ay (ah h)) ?_;rintro is1 h1 h;refine u12 (ay (ah h)) ?_;rintro is2 h2 h;have c2:is2.cs=cs:=by rw [(bN h2).2];exact (show is1.cs=cs from by rw [(bN h1).2];exact hc)
 exact fH inv hj h1 (fH (inv.put h1) hk h2 (h c2 lo ((inv.put h1).put h2)))
theorem FD {lo:List (Nat×Addr)} {is:IS} {j k:Nat} {a b:PV} {x y:Str} {w:Wd} {Q:LK} {R:LJ} (hne:x≠y) (hc:is.cs=cs) (inv:Inv n lo is) (hj:lk n.ns x=some j) (hk:lk n.ns y=some k)
 (h:sat ((Rs.of (is.put j a) w).bind fun is w=>(Rs.of (is.put k b) w).bind fun is w=>Rs.ok (AF.next,is) w) (qF g n pre cs Q) R) :
 PutQ y b (stf g n pre lo is w) fun st=>PutQ x a st (Q .next):=by
 refine u12 (ay (ah h)) ?_;rintro is1 h1 h;refine u12 (ay (ah h)) ?_;rintro is2 h2 h;have hjk:j≠k:=by
  rintro rfl;exact hne (Mm ((bn hj).symm.trans (bn hk)))
 obtain ⟨e1,rfl⟩:=bN h1;obtain ⟨e2,rfl⟩:=bN h2;simp only [MP hjk] at e2;have i1:is.put k b=some { is with vs:=is.vs.set k (.val b) }:=rO e2;have i2:({ is with vs:=is.vs.set k (.val b) }:IS).put j a=some { is with vs:=(is.vs.set j (.val a)).set k (.val b) }:=by
  rw [rO (by simpa only [MP (NM hjk)] using e1)];simp only [List.set_comm _ _ hjk]
 exact fH inv hk i1 (fH (inv.put i1) hj i2 (h hc lo ((inv.put i1).put i2)))
theorem jP {x y:Str} {px py tp:Pos} {k:Nat} {v:Expr} {env:Env} (hv:∀es k p,v≠.Tuple es k p):swappedStores [.Tuple [.Name x px,.Name y py] k tp] v env=pure none:=by
 cases v<;>first|rfl|(exact absurd rfl (hv _ _ _))
theorem iN {x y z:Str} {px py pz tp:Pos} {k:Nat} {v:Expr} {env:Env} (hv:∀es k p,v≠.Tuple es k p):swappedStores [.Tuple [.Name x px,.Name y py,.Name z pz] k tp] v env=pure none:=by
 cases v<;>first|rfl|(exact absurd rfl (hv _ _ _))
theorem re {f f':Expr→Bool} {es:LS} (h:uy f f' es=true):∃e e',es=[e,e']∧f e=true∧f' e'=true:=match es,h with
 | [e,e'],h=>(v23 e e' rfl (aa h) (ag h))
theorem uA (fo:Fo g c A d n pre cs) {x y:Str} {px py tp pos:Pos} {kk:Nat} {v:Expr} {Q:LK} {R:LG} {st:St} (hp:rW v [.Name x px,.Name y py]=true) (hne:x≠y) (hx:(x,NameKind.local)∈c.cs.names) (hy:(y,NameKind.local)∈c.cs.names) (hsw:swapsWith v (some (.Tuple [.Name x px,.Name y py] kk tp)) pos.line c.env=pure false)
 (fwd:Ev g c A (eval v c.env) st (fun v st₁=>∃a b,v=.tup [a,b]∧PutQ x a st₁ (fun st₂=>PutQ y b st₂ (Q .next))) R) (bwd:Ev g c A (eval v c.env) st (fun v st₁=>∃a b,v=.tup [a,b]∧PutQ y b st₁ (fun st₂=>PutQ x a st₂ (Q .next))) R) :
 Ex g c A (exec (.Assign [.Tuple [.Name x px,.Name y py] kk tp] v pos) c.env) st Q R:=by
 by_cases hT:∃es k p,v=.Tuple es k p
 ·refine u31 hT ?_;clear hT;rintro es k' p rfl;rcases Bool.or_eq_true_iff.mp hp with hp|hp
  ·refine u23 (re hp) ?_;rintro a b rfl h1 h2;exact Ex.tup2 fo.ok fwd hsw (iU fo.ok (by simp [h1,h2]))
  ·have h0:=aa hp;refine u23 (re (ag h0)) ?_;rintro a b rfl ha hb;by_cases hf:foldedForSure 8 a=true∧foldedForSure 8 b=true
   ·exact Ex.tup2 fo.ok fwd hsw (iU fo.ok (by simp [hf.1,hf.2]))
   ·refine Lu fo.ok bwd hsw (rk fo.ok hx hy (by simp [hne]) (aa h0) ?_ ?_ ?_)
    ·exact MS.mpr ⟨eZ ha,MS.mpr ⟨eZ hb,rfl⟩⟩
    ·refine Ry.mpr fun hh=>hf ⟨aa hh,aa (ag hh)⟩
    ·simp only [Ps,List.all_nil,Qx];exact NL _▸ag hp
 ·exact Ex.tup2 fo.ok fwd hsw (jP fun es k p e=>hT (v31 es k p e))
theorem uQ (fo:Fo g c A d n pre cs) (E:AE g c A n call pre cs) {j k:Nat} {e:IE}:PS g c A n call pre cs (.tup2 j k e):=fun x h is w lo hc inv Q R hs=>by
 have h1:=aa (aa h);have hj:=bA (eq_of_beq (ag (aa h1)));have hk:=bA (eq_of_beq (ag h1));have hne:=bne_iff_ne.mp (ag (aa h));refine uA fo (aa (aa h1)) hne (fo.loc _ (MK (bn hj))) (fo.loc _ (MK (bn hk))) (bU (aC (ag h)) _ _ _) (E.ev hc inv (ag h) hs fun u w h2=>?_) (E.ev hc inv (ag h) hs fun u w h2=>?_)
 ·refine u22 (lv h2) ?_;rintro a b rfl h3;exact (v22 _ _ rfl (Im hc inv hj hk h3))
 ·refine u22 (lv h2) ?_;rintro a b rfl h3;exact (v22 _ _ rfl (FD hne hc inv hj hk h3))
theorem xQ {f f' f'':Expr→Bool} {es:LS} (h:Ft f f' f'' es=true):∃e e' e'',es=[e,e',e'']∧f e=true∧f' e'=true∧f'' e''=true:=match es,h with
 | [e,e',e''],h=>(v34 e e' e'' rfl (aa (aa h)) (ag (aa h)) (ag h))
theorem uz (fo:Fo g c A d n pre cs) {x y z:Str} {px py pz tp pos:Pos} {kk:Nat} {v:Expr} {Q:LK} {R:LG} {st:St} (hp:kR v=true) (hsw:swapsWith v (some (.Tuple [.Name x px,.Name y py,.Name z pz] kk tp)) pos.line c.env=pure false)
 (fwd:Ev g c A (eval v c.env) st (fun v st₁=>∃a b d,v=.tup [a,b,d]∧PutQ x a st₁ (fun st₂=>PutQ y b st₂ (fun st₃=>PutQ z d st₃ (Q .next)))) R) :
 Ex g c A (exec (.Assign [.Tuple [.Name x px,.Name y py,.Name z pz] kk tp] v pos) c.env) st Q R:=by
 by_cases hT:∃es k p,v=.Tuple es k p
 ·refine u31 hT ?_;clear hT;rintro es k' p rfl;refine u34 (xQ hp) ?_;rintro a b e' rfl h1 h2 h3;exact Ex.tup3 fo.ok fwd hsw (pj fo.ok (by simp [h1,h2,h3]))
 ·exact Ex.tup3 fo.ok fwd hsw (iN fun es k p e=>hT (v31 es k p e))
theorem uP (fo:Fo g c A d n pre cs) (E:AE g c A n call pre cs) {i j k:Nat} {e:IE}:PS g c A n call pre cs (.tup3 i j k e):=fun x h is w lo hc inv Q R hs=>by
 have h1:=aa h;refine uz fo (aa (aa (aa h1))) (bU (aC (ag h)) _ _ _) (E.ev hc inv (ag h) hs fun u w h2=>?_);refine u32 (sb h2) ?_;rintro a b d rfl h3;refine (v32 _ _ _ rfl ?_);refine u12 (ay (ah h3)) ?_;rintro is1 p1 h4;refine u12 (ay (ah h4)) ?_;rintro is2 p2 h5;refine u12 (ay (ah h5)) ?_;rintro is3 p3 h6;have i1:=inv.put p1;have i2:=i1.put p2;exact fH inv (bA (eq_of_beq (ag (aa (aa h1))))) p1 (fH i1 (bA (eq_of_beq (ag (aa h1)))) p2 (fH i2 (bA (eq_of_beq (ag h1))) p3 (h6 (eI (eI (eI hc p1) p2) p3) lo (i2.put p3))))
theorem hS:∀{ks:List (LA)} {os:List (Option Expr)},(sE ks os).length=ks.length:=by
 intro ks
 induction ks with
 | nil=>exact rfl
 | cons k ks ih=>exact congrArg (·+1) ih
theorem qi {F:Fv} {vars:aM} {pre:Own} {env:Env} {dp:Pos} (E:∀e,PE g c A env n call F vars pre e):∀{ks:List (LA)} {os:List (Option Expr)} {xs:LS} {ie:IE},ks.length=((tr n ie).es xs).length→(tr n ie).oks xs=true→
 ∀(w:Wd) (Q:LB→St→Prop) (R:LG),sat (evE call F ie w) (qT g vars pre Q) (rS g vars pre R)→EvP g c A (evalPairs (((sE ks os).zip ((tr n ie).es xs)).map (rV env dp))) (stw g vars pre w) ks Q R:=by
 intro ks
 induction ks with
 | nil=>
  intro os xs ie hl ho w Q R hs;cases se ho with
  | nil=>obtain ⟨l,e,q⟩:=hs;injection e with e;subst e;exact EvP.nil q
  | cons=>injection hl
 | cons k ks ih=>
  intro os xs ie hl ho w Q R hs;cases se ho with
  | nil=>injection hl
  | cons=>
   refine EvP.cons ((E _).ev (aa ho) hs (fun u w h=>?_) aE);refine ih (Nt hl) (ag ho) w _ _ (ai (ah h) (fun v' w h=>?_) aE);obtain ⟨l,rfl,q⟩:=cD (ah h);obtain ⟨l',e,q⟩:=q;injection e with e;subst e;exact (v12 l rfl q)
theorem vT (fo:Fo g c A d n pre cs) (rs:Rse g d) (E:AE g c A n call pre cs) {x:Str} {p dp pos:Pos} {os:List (Option Expr)} {xs:LS} {ks:List (LA)} {k:Nat} {e:IE} (hk:vU n x=some k) (hl:ks.length=((tr n e).es xs).length) (h1:1≤ks.length) (h15:ks.length≤15) (hn:ks.Nodup) (hv:(tr n e).oks xs=true) :
 PX g c A n call pre cs (exec (.Assign [.Name x p] (.Dict ((sE ks os).map some) ((tr n e).es xs) dp) pos) c.env) (.dnew k ks e):=fun is w lo hc inv Q R hs=>by
 obtain ⟨hun,hs⟩:=lu hs
 ·have hlt:k<is.vs.length:=(ME.mp hun).1;have hnk:k∉lo.map (·.1):=fun hm=>by
   refine u12 ((inv.iff k).mpr hm) ?_;rintro l hl hf;replace hl:=hun▸hl;injection hl with hl;subst hl;injection hf
  refine Lg fo.ok rs.sysm (hS.trans hl) (fun e=>by have:=hS (ks:=ks) (os:=os);rw [e] at this;exact Hx h1 this) (Hw h15 hS) hn fun a=>?_;refine qi (fun e=>(E [(a,aq g [])] is lo hc inv e).1) hl hv w _ _ (ai (fG (ah hs)) (fun v w h=>?_) fun x w h=>h.elim);refine u12 (cD (ah h)) ?_;rintro l rfl h2;refine ⟨l,rfl,(aI g lo is.vs++pre)++aQ g w,rfl,?_⟩;have hadj:∀j,j≠0+k→ad ((k,a)::lo) j=ad lo j:=fun j hj=>by
   simp [ad,Mn,(show (j==k)=false from by simp;exact AD hj)]
  refine ⟨_,kb (lo':=(k,a)::lo) (s':=.dic (ks.zip l)) (v:=.ref a) (bn (oU hk)) hlt (by rw [Oi,(show ad ((k,a)::lo) k=a from by simp [ad])];rfl) hadj,?_⟩;have e:aI g lo (is.vs.set k (.dic (ks.zip l)))=aI g lo is.vs:=by
   unfold aI;apply NA;intro q hq;have hne:k≠q.1:=by rintro rfl;exact hnk (Ma.mpr (v12 q hq rfl))
   simp [NS,MP hne]
  have e2:(a,aq g (ks.zip l))::((aI g lo is.vs++pre)++aQ g w)=(aI g ((k,a)::lo) (is.vs.set k (.dic (ks.zip l)))++pre)++aQ g w:=by
   show _=((a,((is.vs.set k (.dic (ks.zip l))).getD k .un).ao g)::aI g lo (is.vs.set k (.dic (ks.zip l)))++pre)++aQ g w;rw [e];simp [NS,hlt,Slot.ao]
  show Q .next ⟨_,(a,aq g (ks.zip l))::((aI g lo is.vs++pre)++aQ g w)⟩;rw [e2];exact h2 hc ((k,a)::lo) (inv.newOwn hlt hnk rfl)
theorem uT (fo:Fo g c A d n pre cs) (rs:Rse g d) (E:AE g c A n call pre cs) {k:Nat} {ks:List (LA)} {e:IE}:PS g c A n call pre cs (.dnew k ks e):=fun x h=>
 let ⟨d1,d2,d3,d4⟩:=of_decide_eq_true (ag (aa h))
 vT fo rs E (eq_of_beq (aa (aa h))) d1 d2 d3 d4 (ag h)
theorem pI (fo:Fo g c A d n pre cs) (rs:Rse g d) (E:AE g c A n call pre cs) {k:Nat} {a b:IE}:PS g c A n call pre cs (.hwrite k a b):=fun x h is w lo hc inv Q R hs=>by
 have h1:=aa h;refine u12 (ay (ah hs)) ?_;rintro y hy hs;refine u23 (ij (ah hs)) ?_;rintro ha bk rfl hw hs;refine rs.hwr fo.ok (aa (aa h1)) (aU (aC (ag h1)) _) (aU (aC (ag h)) _) (fun Q' R q=>Ev.var fo.ok (Fo.look (bA (eq_of_beq (ag (aa h1)))) hy) q) ⟨_,ea (b':=bk) hw⟩ (E.ev hc inv (ag h1) hs fun y w h2=>?_);refine u12 (aT h2) ?_;rintro s rfl h3;refine ⟨_,rfl,E.ev hc inv (ag h) h3 fun y w h4=>?_⟩;refine u24 (lJ h4) ?_;rintro t bk' rfl hw' hl h5;exact ⟨t,bk',_,rfl,hl,ea hw',h5 hc lo inv⟩
theorem yg:PSL g c A n call pre cs .nil:=fun xs _ is w lo hc inv Q R hs=>Ex.nil (hs hc lo inv)
theorem uU {a b:IC} (ha:PS g c A n call pre cs a) (hb:PSL g c A n call pre cs b):PSL g c A n call pre cs (.cons a b):=fun xs h is w lo hc inv Q R hs=>by
 refine Ex.cons (ha _ (aa h) is w lo hc inv _ _ (ai (ah hs) (fun p w h1 hc lo' inv'=>?_) aE));obtain ⟨f,is'⟩:=p;cases f with
 | next=>exact hb _ (ag h) is' w lo' hc inv' _ _ h1
 | brk=>exact h1 hc lo' inv'
 | cont=>exact h1 hc lo' inv'
 | ret v=>exact h1 hc lo' inv'
theorem AE.ts (E:AE g c A n call pre cs) {is:IS} {lo:List (Nat×Addr)} (hc:is.cs=cs) (inv:Inv n lo is) {e:IE} {x:Expr} {w:Wd} {β:Type} {f:PV→Wd→Rs β} {Q':β→Wd→Prop} {Q:Bool→St→Prop} {R:LG} (h:(tr n e).ok x=true) (hs:sat ((evE call is.F e w).bind f) Q' (rF g n pre R))
 (k:∀v w,sat (f v w) Q' (rF g n pre R)→∃b,v=.bool b∧Q b (stf g n pre lo is w)):Tst g c A (isTrue ((tr n e).e x) c.env (eval ((tr n e).e x) c.env)) (stf g n pre lo is w) Q R:=(E [] is lo hc inv e).1.ts h hs k fun x w h=>h lo is
theorem yi (E:AE g c A n call pre cs) {t:IE} {a b:IC} (ha:PSL g c A n call pre cs a) (hb:PSL g c A n call pre cs b):PS g c A n call pre cs (.ite t a b):=fun x h is w lo hc inv Q R hs=>by
 refine Ex.ite (E.ts hc inv (aa (aa h)) hs fun v w h2=>?_);refine u12 (bv (ah h2)) ?_;rintro b' rfl q;refine (v12 b' rfl (Br.mk ?_));cases b' with
 | true=>exact ha _ (ag (aa h)) is w lo hc inv _ _ q
 | false=>exact hb _ (ag h) is w lo hc inv _ _ q
def WhI (g:Gx) (n:Nm) (call:ax) (pre:Own) (cs:List (LD)) (t:IE) (a:IC) (Q:LK) (R:LG) (m:Nat) (st:St):Prop:=
 ∃is w lo,is.cs=cs∧Inv n lo is∧st=stf g n pre lo is w∧sat (eA (fun is w=>(evE call is.F t w).bind bK) (exC call a) m is w) (qF g n pre cs Q) (rF g n pre R)
theorem rQ (fo:Fo g c A d n pre cs) (E:AE g c A n call pre cs) {t:IE} {a:IC} (ha:PSL g c A n call pre cs a):PS g c A n call pre cs (.whl t a):=fun x h is w lo hc inv Q R hs=>by
 refine Ls fo.ok (WhI g n call pre cs t a Q R) (fun m st hI=>?_) ip (v34 is w lo hc inv rfl hs);clear hs inv hc;refine u34 hI ?_;clear hI;rintro is w lo hc inv rfl hs;cases m with
 | zero=>exact hs.elim
 | succ m=>
  rw [oB] at hs;refine E.ts hc inv (aa h) (ah hs) fun v w h2=>?_;refine u12 (bv h2) ?_;rintro b' rfl q;refine ⟨b',rfl,Br.mk ?_⟩;cases b' with
  | false=>exact q hc lo inv
  | true=>
   refine ha _ (ag h) is w lo hc inv _ _ (ai (ah q) (fun p w h hc lo' inv'=>?_) aE);obtain ⟨f,is'⟩:=p;cases f with
   | next=>exact ⟨m,Op m,is',w,lo',hc,inv',rfl,h⟩
   | cont=>exact ⟨m,Op m,is',w,lo',hc,inv',rfl,h⟩
   | brk=>exact h hc lo' inv'
   | ret v=>exact h hc lo' inv'
theorem Jb (fo:Fo g c A d n pre cs) {xs:LT} {k:Nat} {a:IC} {Q:LK} {R:LG} (hk:uw n (nmd n.ns k)=some k) (ha:PX g c A n call pre cs (execs xs c.env) a) :
 ∀(l:LB) (is:IS) (w:Wd) (lo:List (Nat×Addr)),is.cs=cs→Inv n lo is→sat (dA k (exC call a) l is w) (qF g n pre cs Q) (rF g n pre R)→wq g c A (nmd n.ns k) xs Q R l (stf g n pre lo is w):=by
 intro l
 induction l with
 | nil=>exact fun is w lo hc inv h=>h hc lo inv
 | cons p ps ih=>
  intro is w lo hc inv h;rw [kc] at h;refine u12 (ay (ah h)) ?_;rintro is' hp h;refine fH inv (bA hk) hp (ha is' w lo (eI hc hp) (inv.put hp) _ _ (ai (ah h) (fun q w h hc lo' inv'=>?_) aE));obtain ⟨f,is2⟩:=q;cases f with
  | next=>exact ih is2 w lo' hc inv' h
  | cont=>exact ih is2 w lo' hc inv' h
  | brk=>exact h hc lo' inv'
  | ret v=>exact h hc lo' inv'
theorem yj (fo:Fo g c A d n pre cs) (E:AE g c A n call pre cs) {k:Nat} {e:IE} {a:IC} (ha:PSL g c A n call pre cs a):PS g c A n call pre cs (.for_ k e a):=fun x h is w lo hc inv Q R hs=>
 Ld fo.ok (E.ev hc inv (ag (aa h)) hs fun v w h2=>
  by obtain ⟨l,hl,h3⟩:=ay (ah h2);exact ⟨l,sK fo.ok.hand hl,Jb fo (eq_of_beq (aa (aa h))) (ha _ (ag h)) l is w lo hc inv h3⟩) (dl (aC (ag (aa h))) _)
theorem jm (hA:A.handled=none) {v:PV} {l:LB} (h:hY v=some l):IterS g A v l:=by
 cases v<;>first|(injection h;done)|skip
 ·injection h with h;subst h;exact jl hA
 ·obtain ⟨⟨h1,h2,h3,h4⟩,rfl⟩:=bG h;exact gi hA h1 h2 h3 h4
theorem ni (fo:Fo g c A d n pre cs) {x:Str} {sc:Scope} (h:mq n x sc=true):CompOk c x sc:=by
 have h1:=aa (aa h);refine ⟨eq_of_beq (aa (aa h1)),of_decide_eq_true (ag (aa h1)),fun y hy e=>?_,Mq.mp (ag (aa h)),fun y hy e=>?_⟩
 ·have:=aa (Mo.mp (ag h1) y hy);replace this:=e▸this;injection this
 ·have:=aa (Mo.mp (ag h1) y hy);replace this:=e▸this;exact (fo.cn y.1 (Mq.mp (by simpa using this))).2
theorem kt (fo:Fo g c A d n pre cs) {x:Str} {sc:Scope} (h:mq n x sc=true) {C D:Addr} {p:PV} {acc:LB} {vars:aM} (z:Own) :
 Rd g c A (fV c sc C) (eu n x sc) ⟨[],cs,some p⟩ vars ((C,dD x (some p))::(D,.list acc)::(z++pre)):=by
 have k:=ni fo h;have dbg:∀y∈sc.names,(y.1==("__debug__" : Str))=false:=fun y hy=>by
  exact NL _▸(ag (Mo.mp (ag (aa (aa h))) y hy))
 refine ⟨fun y j v hj=>(by injection hj),fun y j v _ hj hv w pos Q R q=>?_,fun y v _ _ hy hv w pos Q R q=>?_,fun y j v hj=>(by injection hj),fun y j v hj=>(by injection hj),fun y hy=>?_⟩
 ·have hm:=MK (bn hj);obtain ⟨h1,a,ha⟩:=fo.cn y hm;have hf:(y,NameKind.free)∈sc.names:=Mq.mp (Mo.mp (ag h) y hm);obtain ⟨ow',u⟩:=fo.cell j y v hj hv a ha z w;refine Ev.cell k.kind ((bP k.nd hf).trans ?_) (qo ha k.nd hf) (dbg _ hf) (.there (.there u)) q;refine (show c.env.kindOf y=some .cell from aA fo.ok.nd h1).symm▸(show c.env.scope.kind=.function from fo.ok.kind).symm▸?_;rfl
 ·injection hy with hy;subst hy;injection hv with hv;subst hv;exact Ev.tv (o':=pQ) k.kind (bP k.nd k.x) rfl (dbg _ k.x) .here q
 ·refine u12 (Ma.mp hy) ?_;rintro ⟨y',kd⟩ hy1 e;obtain ⟨hy2,hk⟩:=Nu.mp hy1;subst e;obtain rfl:kd=.globalImplicit:=eq_of_beq hk;exact ⟨rfl,rfl,k.kind,bP k.nd hy2,dbg (y',.globalImplicit) hy2⟩
theorem tz (al:Al g) (cl:Calls g d call) (fo:Fo g c A d n pre cs) {x:Str} {sc:Scope} (h:mq n x sc=true) {C D:Addr} {cx ex:Expr} {t e:IE} (ht:(tr (eu n x sc) t).ok cx=true) (he:(tr (eu n x sc) e).ok ex=true) {vars:aM} (z:Own) {Q:LB→St→Prop} {R:LJ} (l acc:LB) (w:Wd) (hs:sat (dS call cs t e l w) (fun l' w'=>Q (acc++l') (stw g vars (z++pre) w')) R):dW g c A (fV c sc C) x ((tr (eu n x sc) e).e ex) [(tr (eu n x sc) t).e cx] C D Q l acc (stw g vars (z++pre) w):=by
 induction l generalizing acc w with
 | nil=>
  have:Q (acc++[]) _:=hs;rw [MM] at this;exact this
 | cons p ps ih=>
  have rd:=kt (C:=C) (D:=D) (p:=p) (acc:=acc) (vars:=vars) fo h z;have El:=fun w=>((nZ al cl fo.ok rd e).1 ex he w).1;have key:Tst g c A (isTrue ((tr (eu n x sc) t).e cx) (fV c sc C) (eval ((tr (eu n x sc) t).e cx) (fV c sc C))) (stw g vars ((C,dD x (some p))::(D,.list acc)::(z++pre)) w) (fun b st'=>if b then
   Ev g c A (eval ((tr (eu n x sc) e).e ex) (fV c sc C)) st' (fun v st''=>∃vars own,st''=⟨vars,(C,dD x (some p))::(D,.list acc)::own⟩∧dW g c A (fV c sc C) x ((tr (eu n x sc) e).e ex) [(tr (eu n x sc) t).e cx] C D Q ps (acc++[v]) ⟨vars,own⟩) NoX
   else ∃vars own,st'=⟨vars,(C,dD x (some p))::(D,.list acc)::own⟩∧dW g c A (fV c sc C) x ((tr (eu n x sc) e).e ex) [(tr (eu n x sc) t).e cx] C D Q ps acc ⟨vars,own⟩) NoX:=by
   refine (((nZ al cl fo.ok rd t).1 cx ht w).2) _ _ (ai (fG (ah hs)) (fun v w h2=>?_) fun _ _ h=>h);obtain ⟨b,rfl,h2⟩:=bv (ah h2);refine (v12 b rfl ?_);cases b with
   | false=>exact ⟨_,_,rfl,ih acc w h2⟩
   | true=>
    refine El w _ _ (ai (fG (ah h2)) (fun v w h3=>⟨_,_,rfl,ih (acc++[v]) w (ai (ah h3) (fun l w h=>?_) fun _ _ h=>h)⟩) fun _ _ h=>h);rw [Mb];exact h
  exact fun frz s X=>wpAny_tests_one (key frz s X)
theorem rR (al:Al g) (cl:Calls g d call) (fo:Fo g c A d n pre cs) (E:AE g c A n call pre cs) {k:Nat} {it t e:IE}:PS g c A n call pre cs (.lcomp k it t e):=fun x h is w lo hc inv Q R hs=>by
 have h1:=aa (aa h);have h2:=aa (aa h1);have hk:=bA (eq_of_beq (aa (aa h2)));refine KS fo.ok (ni fo (ag (aa h1))) (dl (aC (ag h1)) _) (fo.loc _ (MK (bn hk))) (ag (aa h2)) (NL _▸ag h2) (E.ev hc inv (ag h1) hs fun v w h3=>?_);refine u12 (ay (ah h3)) ?_;rintro l hl h4;obtain ⟨hlen,h5⟩:=dK h4;refine (v13 l (jm fo.ok.hand hl) hlen (fun C D=>?_));subst hc;refine tz al cl fo (ag (aa h1)) (ag (aa h)) (ag h) (aI g lo is.vs) l [] w (ai (ah h5) (fun l w h6=>?_) aE);refine u12 (ay (ah h6)) ?_;rintro is' hp q;exact fH inv hk hp (q (by rw [(bN hp).2]) lo (inv.put hp))
theorem noS {ic:IC} (h:∀x,(trS n ic).ok x=false):PS g c A n call pre cs ic:=fun x h2=>by replace h2:=(h x)▸h2;injection h2
theorem cZ {ic:IC} (h:∀xs,(trS n ic).oks xs=false):PSL g c A n call pre cs ic:=fun x h2=>by replace h2:=(h x)▸h2;injection h2
theorem gK (al:Al g) (cl:Calls g d call) (fo:Fo g c A d n pre cs) (rs:Rse g d):∀ic,PS g c A n call pre cs ic∧PSL g c A n call pre cs ic:=by
 intro ic;have E:=ae al cl fo
 induction ic with
 | nil=>exact ⟨noS fun _=>rfl,yg⟩
 | cons a r ia ir=>exact ⟨noS fun _=>rfl,uU ia.1 ir.2⟩
 | assign k e=>exact ⟨pJ fo E,cZ fun _=>rfl⟩
 | aug k o e=>exact ⟨ym fo E,cZ fun _=>rfl⟩
 | ite t a b ia ib=>exact ⟨yi E ia.2 ib.2,cZ fun _=>rfl⟩
 | whl t b ib=>exact ⟨rQ fo E ib.2,cZ fun _=>rfl⟩
 | for_ k e b ib=>exact ⟨yj fo E ib.2,cZ fun _=>rfl⟩
 | ret e=>exact ⟨yf E,cZ fun _=>rfl⟩
 | retN=>exact ⟨uR,cZ fun _=>rfl⟩
 | brk=>exact ⟨yl,cZ fun _=>rfl⟩
 | pass=>exact ⟨uS,cZ fun _=>rfl⟩
 | raiseE a b=>exact ⟨pH fo rs E,cZ fun _=>rfl⟩
 | raiseW a=>exact ⟨pG fo rs E,cZ fun _=>rfl⟩
 | eff e=>exact ⟨yk fo E,cZ fun _=>rfl⟩
 | tup2 j k e=>exact ⟨uQ fo E,cZ fun _=>rfl⟩
 | tup3 i j k e=>exact ⟨uP fo E,cZ fun _=>rfl⟩
 | onew k=>exact ⟨yh fo,cZ fun _=>rfl⟩
 | oapp k e=>exact ⟨yn fo E,cZ fun _=>rfl⟩
 | dnew k ks e=>exact ⟨uT fo rs E,cZ fun _=>rfl⟩
 | hwrite k a b=>exact ⟨pI fo rs E,cZ fun _=>rfl⟩
 | tryR k e b j=>exact ⟨ye fo rs E,cZ fun _=>rfl⟩
 | lcomp k it t e=>exact ⟨rR al cl fo E,cZ fun _=>rfl⟩
def IsE (n:Nm) (ie:IE) (e:Expr):Prop:=(tr n ie).e e=e∧(tr n ie).ok e=true
def IsS (n:Nm) (ic:IC) (s:Stmt):Prop:=(trS n ic).s s=s∧(trS n ic).ok s=true
def IsL (n:Nm) (ic:IC) (ss:LT):Prop:=(trS n ic).ss ss=ss∧(trS n ic).oks ss=true
theorem PE.at {env:Env} {F:Fv} {vars:aM} {ie:IE} {e:Expr} (hx:PE g c A env n call F vars pre ie) (h:IsE n ie e) (w:Wd):SE g c A vars pre (eval e env) (evE call F ie w) w∧STs g c A vars pre (isTrue e env (eval e env)) (evE call F ie w) w:=by
 have:=hx e h.2 w;rwa [h.1] at this
theorem IsE.plain {ie:IE} {e:Expr} (h:IsE n ie e):cj e=true:=by have:=aC h.2;rwa [h.1] at this
theorem PS.at {ic:IC} {s:Stmt} (hx:PS g c A n call pre cs ic) (h:IsS n ic s):PX g c A n call pre cs (exec s c.env) ic:=by have:=hx s h.2;rwa [h.1] at this
theorem PSL.at {ic:IC} {ss:LT} (hx:PSL g c A n call pre cs ic) (h:IsL n ic ss):PX g c A n call pre cs (execs ss c.env) ic:=by have:=hx ss h.2;rwa [h.1] at this
end
theorem OwnR.drop {H:Hp}:∀{o₁ o₂:Own} {es:Led},OwnR H (o₁++o₂) es→∃e₁ e₂,es=e₁++e₂∧OwnR H o₂ e₂:=by
 intro o₁
 induction o₁ with
 | nil=>exact fun h=>⟨[],_,rfl,h⟩
 | cons p o₁ ih=>
  intro o₂ es h;obtain ⟨e1,e2,e,h1,h2⟩:=h;refine u22 (ih h2) ?_;rintro f1 f2 rfl h;exact ⟨e1++f1,f2,by rw [e,Mb],h⟩
section
variable {g:Gx} {c:Cx} {A:Around} {d:Nat}
theorem Core.drop {vars:aM} {o₁ o₂:Own} {frz:Led} {h:Heap} {m:LN} {own frs:Led} (C:Core g c ⟨vars,o₁++o₂⟩ frz h m own frs):∃e₁ e₂,own=e₁++e₂∧Core g c ⟨vars,o₂⟩ frz h m e₂ frs:=by
 obtain ⟨F,N,nd,SU,O,V⟩:=C;refine u22 O.drop ?_;rintro e₁ e₂ rfl O';refine ⟨e₁,e₂,rfl,F,fun p hp=>N p ?_,?_,SU,O',V⟩
 ·rw [Mb];exact LZ _ hp
 ·rw [Mb,Mz] at nd;exact (MH.mp nd).2.1
theorem S.drop {vars:aM} {o₁ o₂:Own} {frz:Led} {s:Shared} (X:S g c ⟨vars,o₁++o₂⟩ frz s):S g c ⟨vars,o₂⟩ frz s:=by
 obtain ⟨⟨m,own,frs,C⟩,nn,lc⟩:=X;refine u22 C.drop ?_;rintro e₁ e₂ rfl C';exact ⟨⟨m,e₂,frs,C'⟩,nn,lc⟩
theorem SX.drop {vars:aM} {o₁ o₂:Own} {frz:Led} {s:Shared} {e:Addr} {x:XC} {fl:Option Value} (X:SX g c ⟨vars,o₁++o₂⟩ frz s e x fl):SX g c ⟨vars,o₂⟩ frz s e x fl:=by
 obtain ⟨⟨m,own,frs,C,L⟩,nn,lc⟩:=X;refine u22 C.drop ?_;rintro e₁ e₂ rfl C';have sub:∀p,p∈e₂++(frz++frs)→p∈(e₁++e₂)++(frz++frs):=fun p hp=>by rw [Mb];exact LZ _ hp
 obtain ⟨⟨oe,vs,dd,od,k1,k2,k3,k4,k5,k6,k7,k8⟩,lb,ll,lled⟩:=L;refine ⟨⟨m,e₂,frs,C',⟨⟨oe,vs,dd,od,k1,k2,k3,k4,k5,?_,k7,k8⟩,lb,ll,fun p hp=>lled p (sub p hp)⟩⟩,nn,lc⟩;cases fl with
 | none=>exact k6
 | some fl=>
  obtain ⟨T,oT,ts,t1,t2,t3,t4,t5,t6,t7,t8⟩:=k6;exact ⟨T,oT,ts,t1,t2,t3,t4,t5,t6,t7,fun p hp=>t8 p (sub p hp)⟩
theorem CallV.drop {fv:Value} {args:LB} {own:Own} {Q Q':LH} {R R':LI} (h:CallV g d fv args own Q R) (k:∀v o,Q v o→∃o₁ o₂,o=o₁++o₂∧Q' v o₂) (k':∀x o,R x o→∃o₁ o₂,o=o₁++o₂∧R' x o₂):CallV g d fv args own Q' R':=
 fun c A st frz s vs ok ho X r=>tt (h c A st frz s vs ok ho X r) (fun v s' hh=>by
  obtain ⟨pv,own',frz',a,X',r',q⟩:=hh;refine u22 (k _ _ q) ?_;rintro o₁ o₂ rfl q';exact ⟨pv,o₂,frz',a,S.drop X',r',q'⟩) fun v s' hh=>by
  obtain ⟨e,x,st',f',fl,h1,h2,h3,h4,h5,h6⟩:=hh;obtain ⟨vars',own'⟩:=st';refine u22 (k' _ _ h6) ?_;rintro o₁ o₂ rfl q';exact ⟨e,x,⟨vars',o₂⟩,f',fl,h1,h2,SX.drop h3,h4,h5,q'⟩
theorem CallN.drop {f:Str} {args:LB} {own:Own} {Q Q':LH} {R R':LI} (h:CallN g d f args own Q R) (k:∀v o,Q v o→∃o₁ o₂,o=o₁++o₂∧Q' v o₂) (k':∀x o,R x o→∃o₁ o₂,o=o₁++o₂∧R' x o₂):CallN g d f args own Q' R':=
 by obtain ⟨v,a,b,c⟩:=h;exact ⟨v,a,b,c.drop k k'⟩
structure FI where
 nm:Nm
 ps:LP
 os:LP
 body:IC
noncomputable def FI.start (fi:FI) (args:LB):IS:=⟨args.map .val++MF fi.os.length .un,[]⟩
noncomputable def FI.run (fi:FI) (call:ax) (args:LB) (w:Wd):Rs PV:=
 if args.length=fi.ps.length then (exC call fi.body (fi.start args) w).bind fun p w=>match p.1 with
  | .ret v=>.ok v w
  | .next=>.ok .none w
  | _=>.fail
 else .fail
noncomputable def FI.fits (fi:FI) (scope:Scope):Bool:=
 decide (fi.ps++fi.os).Nodup&&(fi.ps++fi.os).all (fun x=>scope.names.contains (x,NameKind.local))&&fi.nm.gl.all (fun x=>scope.names.contains (x,NameKind.globalImplicit))&&fi.nm.ns==fi.ps++fi.os&&fi.nm.cn==[]&&fi.nm.tn==none&&scope.names.all fun x=>x.2 != .cell
structure FnIR (f:Nat) (x:Str) (fi:FI):Prop where
 ex:∃args body scope bind pos,Mk.main.body[f]? = some (.FunctionDef x args body [] none [] scope none bind pos)∧args.args.map (·.arg)=fi.ps∧((trS fi.nm fi.body).ss body=body∧(trS fi.nm fi.body).oks body=true)∧fi.fits scope=true
theorem gT:∀(i:Nat) (os:LP),mkV [] i os (MF os.length .un)=bF os
 | _,[]=>rfl
 | i,x::os=>by
  show (x,Slot.pv _ .un)::mkV [] (i+1) os (MF os.length .un)=_;rw [gT];rfl
theorem ov:∀(i:Nat) (ps os:LP) (args:LB),args.length=ps.length→mkV [] i (ps++os) (args.map .val++MF os.length .un)=dG ps args++bF os
 | i,[],os,[],_=>gT i os
 | i,x::ps,os,v::args,h=>by
  show (x,some v)::mkV [] (i+1) (ps++os) (args.map .val++MF os.length .un)=(x,some v)::(dG ps args++bF os);rw [ov (i+1) ps os args (Nt h)]
 | _,[],_,_::_,h=>by injection h
 | _,_::_,_,[],h=>by injection h
theorem OwZ.drop {α:Type} {pre:Own} {Q:α→Wd→Prop} (v:α) (o:Own) (hh:OwZ g pre Q v o):∃z o',o=z++o'∧OwQ g pre Q v o':=by
 obtain ⟨z,w',e,q⟩:=hh;exact ⟨z,_,by rw [e,Mb],w',rfl,q⟩
theorem tM (al:Al g) (rs:Rse g d) {call:ax} (cl:Calls g d call) {f:Nat} {x:Str} {fi:FI} (h:FnIR f x fi) (args:LB) (w:Wd) (Q:LL) (R:LJ) (pre:Own) (hs:sat (fi.run call args w) Q R) :
 CallN g (d+1) x args (pre++aQ g w) (OwQ g pre Q) (OwQ g pre R):=by
 refine u54 h.ex ?_;rintro ar body scope bind pos h1 h2 h3 h4;unfold FI.run at hs;by_cases hl:args.length=fi.ps.length
 ·rw [if_pos hl] at hs;have h8:=ag h4;replace h4:=aa h4;simp only [MO,beq_iff_eq] at h4;obtain ⟨⟨⟨⟨⟨h4,hloc⟩,hgl⟩,h5⟩,h6⟩,h7⟩:=h4;simp only [decide_eq_true_eq] at h4;simp only [Mo,Mq] at hloc hgl;have hf:=al.fns f x ar body scope bind pos h1;rw [h2] at hf;refine CallN.drop (Q:=OwZ g pre Q) (R:=OwZ g pre R)
   (iF fi.os al hf hl h4 hloc (fun c A ok hsc=>?_) h8)
   OwZ.drop OwZ.drop
  have:=(gK al cl (show Fo g c A d fi.nm pre [] from ⟨ok,by rw [hsc];exact hgl,by refine h5▸hsc▸?_;exact hloc,h7,fun x hx=>(by replace hx:=h6▸hx;cases hx),fun k y v hk=>by replace hk:=h6▸hk;injection hk⟩) rs fi.body).2 body h3.2 (fi.start args) w [] rfl ⟨by simp,fun k=>⟨fun ⟨l,hl,hf⟩=>?_,fun h=>by cases h⟩⟩ (iL (OwZ g pre Q)) (fun v st'=>OwZ g pre R v st'.own)
   (ai (ah hs) (fun p w' h hc lo' inv'=>?_) fun x w' h lo' is'=>⟨aI g lo' is'.vs,w',rfl,h⟩)
  ·have e:stf g fi.nm pre [] (fi.start args) w=⟨dG fi.ps args++bF fi.os,pre++aQ g w⟩:=by
    show (⟨mkV [] 0 fi.nm.ns (args.map .val++MF fi.os.length .un),(aI g [] _++pre)++aQ g w⟩:St)=_;rw [h5,ov 0 fi.ps fi.os args hl];rfl
   rw [←e];rw [h3.1] at this;exact this
  ·exfalso;unfold FI.start at hl;refine Mx (Mi.mp (MK hl)) (fun hm=>?_) fun hm=>?_
   ·obtain ⟨v,_,e⟩:=Ma.mp hm;replace hf:=e▸hf;injection hf
   ·have:=Qw hm;replace hf:=this▸hf;injection hf
  ·obtain ⟨af,is'⟩:=p;cases af with
   | ret v=>exact ⟨_,w',rfl,h⟩
   | next=>exact ⟨_,w',rfl,h⟩
   | brk=>exact h.elim
   | cont=>exact h.elim
 ·rw [if_neg hl] at hs;exact hs.elim
noncomputable def FI.locs (fi:FI) (args:LB):List (Str×PV):=(fi.ps.zip args).filter fun p=>!fi.nm.cn.contains p.1
noncomputable def FI.startC (fi:FI) (args:LB):IS:=⟨(fi.locs args).map (fun p=>Slot.val p.2)++MF fi.os.length .un,fi.nm.cn.map fun x=>(fi.ps.zip args).lookup x⟩
noncomputable def FI.runC (fi:FI) (call:ax) (args:LB) (w:Wd):Rs PV:=
 if args.length=fi.ps.length then (exC call fi.body (fi.startC args) w).bind fun p w=>match p.1 with
  | .ret v=>.ok v w
  | .next=>.ok .none w
  | _=>.fail
 else .fail
noncomputable def FI.fitsC (fi:FI) (scope:Scope):Bool:=
 decide fi.ps.Nodup&&decide fi.nm.ns.Nodup&&fi.nm.ns==(fi.ps.filter fun x=>!fi.nm.cn.contains x)++fi.os&&fi.nm.ns.all (fun x=>scope.names.contains (x,NameKind.local))&&fi.nm.gl.all (fun x=>scope.names.contains (x,NameKind.globalImplicit)) &&
  fi.nm.cn.all (fun x=>scope.names.contains (x,NameKind.cell)&&!scope.names.contains (x,NameKind.local))&&fi.nm.tn==none
structure FnIRC (f:Nat) (x:Str) (fi:FI):Prop where
 ex:∃args body scope bind pos,Mk.main.body[f]? = some (.FunctionDef x args body [] none [] scope none bind pos)∧args.args.map (·.arg)=fi.ps∧((trS fi.nm fi.body).ss body=body∧(trS fi.nm fi.body).oks body=true)∧fi.fitsC scope=true
theorem ly:∀(i:Nat) (l:List (Str×PV)) (os:LP),mkV [] i (l.map (·.1)++os) (l.map (fun p=>Slot.val p.2)++MF os.length .un)=l.map (fun p=>(p.1,some p.2))++bF os
 | i,[],os=>gT i os
 | i,p::l,os=>by
  show (p.1,some p.2)::mkV [] (i+1) (l.map (·.1)++os) (l.map (fun p=>Slot.val p.2)++MF os.length .un)=_;refine (ly (i+1) l os)▸?_;rfl
theorem jj {sc:Scope} {cn:LP}:∀{ps:LP} {args:LB},(∀x∈ps,sc.names.contains (x,NameKind.local)=!cn.contains x)→dE sc ps args=((ps.zip args).filter fun p=>!cn.contains p.1).map fun p=>(p.1,some p.2):=by
 intro ps
 induction ps with
 | nil=>intro args _;cases args<;>rfl
 | cons x ps ih=>
  intro args h;cases args with|nil=>rfl|cons p args=>?_
  rw [mK,h x (.head _),ih fun y hy=>h y (.tail _ hy),OD,NU];cases cn.contains x<;>rfl
theorem qK {ps:LP} {args:LB} (f:Str→Bool) (h:args.length=ps.length):((ps.zip args).filter fun p=>f p.1).map (·.1)=ps.filter f:=by
 induction ps generalizing args with
 | nil=>rfl
 | cons x ps ih=>
  cases args with
  | nil=>injection h
  | cons a args=>
   rw [OD,NU,NU];cases f x
   ·exact ih (Nt h)
   ·exact congrArg (x::·) (ih (Nt h))
theorem tH {l:List (Str×PV)} {x:Str} {v:PV} (hl:l.lookup x=some v):∀{cs:List (Str×Addr)} {a:Addr} {r:Own},cs.lookup x=some a→∃ow',OwnUpd a (bz (some v)) (bz (some v)) (bp l cs++r) ow':=by
 intro cs
 induction cs with
 | nil=>intro a r h;injection h
 | cons p cs ih=>
  intro a r h;obtain ⟨y,b⟩:=p;rw [Mn] at h;by_cases e:(x==y)=true
  ·replace h:=e▸h;injection h with h;subst h;cases eq_of_beq e;refine ⟨(b,bz (some v))::(bp l cs++r),?_⟩;show OwnUpd _ _ _ ((b,bz (l.lookup x))::(bp l cs++r)) _;refine hl▸?_;exact .here
  ·rw [RJ] at e;replace h:=e▸h;obtain ⟨ow',u⟩:=ih (r:=r) h;exact ⟨_,.there u⟩
theorem qx (al:Al g) (rs:Rse g d) {call:ax} (cl:Calls g d call) {f:Nat} {x:Str} {fi:FI} (h:FnIRC f x fi) (args:LB) (w:Wd) (Q:LL) (R:LJ) (pre:Own) (hs:sat (fi.runC call args w) Q R) :
 CallN g (d+1) x args (pre++aQ g w) (OwQ g pre Q) (OwQ g pre R):=by
 refine u54 h.ex ?_;rintro ar body scope bind pos h1 h2 h3 h4;obtain ⟨hl,hs⟩:=dK hs;have hcn:=ag (aa h4);have hgl:=ag (aa (aa h4));have hloc:=ag (aa (aa (aa h4)));have h5:=aa (aa (aa (aa h4)));have hns:=eq_of_beq (ag h5);simp only [Mo,Mq] at hloc hgl;refine u12 (al.fns f x ar body scope bind pos h1) ?_;rintro a hn hf;replace hf:=h2▸hf;obtain ⟨o,fd,hget,hdata,_⟩:=hf.ex;have isLoc:∀y∈fi.ps,scope.names.contains (y,NameKind.local)=!fi.nm.cn.contains y:=fun y hy=>by
  cases hc:fi.nm.cn.contains y with
  | true=>exact NL _▸ag (Mo.mp hcn y (Mq.mp hc))
  | false=>exact Mq.mpr (hloc y (by refine hns▸?_;exact Mc _ (Nu.mpr ⟨hy,by rw [hc];rfl⟩)))
 have eV:dE scope fi.ps (args++[])=(fi.locs args).map fun p=>(p.1,some p.2):=by rw [MM];exact jj isLoc
 have eK:(fi.locs args).map (·.1)=fi.ps.filter fun y=>!fi.nm.cn.contains y:=qK (fun y=>!fi.nm.cn.contains y) hl;refine CallN.drop (Q:=OwZ g pre Q) (R:=OwZ g pre R)
  (v13 (.ref a) (.inl hn) (KeepOk.fn hget hdata) ((dU (others:=fi.os) al.ok hf (by rw [MM];exact hl) (of_decide_eq_true (aa (aa h5))) (fun y hy=>?_) ?_ (fun y hy=>hloc y (by rw [hns];exact LZ _ hy)) fun c A ok hsc hcs=>?_).toV))
  OwZ.drop OwZ.drop
 ·cases hc:fi.nm.cn.contains y with
  | true=>exact .inr (Mq.mp (aa (Mo.mp hcn y (Mq.mp hc))))
  | false=>exact .inl (Mq.mp ((isLoc y hy).trans (by rw [hc];rfl)))
 ·rw [eV,NE,show ((fun p:Str×LD=>p.1)∘fun p:Str×PV=>(p.1,some p.2))=fun p=>p.1 from rfl,eK,←hns];exact (of_decide_eq_true (ag (aa h5)))
 ·have cl0:∀y∈fi.nm.cn,(y,NameKind.cell)∈c.cs.names∧∃a,c.cells.lookup y=some a:=fun y hy=>by
   have hy:=Mq.mp (aa (Mo.mp hcn y hy));refine ⟨by rw [hsc];exact hy,?_⟩;rw [hcs];refine u12 (Ma.mp (jx (n:=c.L+1) (acc:=[]) (.inl hy))) ?_;rintro p hp e;exact ⟨p.2,aA (iA hf.nd NP fun _ h=>nomatch h) (by refine e▸?_;exact hp)⟩
  have fo:Fo g c A d fi.nm (bp (fi.ps.zip (args++[])) c.cells++pre) (fi.startC args).cs:=⟨ok,by rw [hsc];exact hgl,by rw [hsc];exact hloc,(eq_of_beq (ag h4)),cl0,fun k y v hk hv a ha own1 w=>by
   have hv:(fi.ps.zip args).lookup y=some v:=by
    unfold FI.startC Fv.cvar at hv;simp only [Ng,(bn hk),Rl] at hv
    split at hv
    ·rename_i e;injection hv with hv;subst hv;exact Mm e
    ·injection hv
   obtain ⟨ow',u⟩:=tH (l:=fi.ps.zip (args++[])) (by rw [MM];exact hv) (r:=pre) ha;exact ⟨_,(KL own1 u).right⟩⟩
  have:=(gK al cl fo rs fi.body).2 body h3.2 (fi.startC args) w [] rfl ⟨by simp,fun k=>⟨fun ⟨l,hl,hf⟩=>?_,fun h=>by cases h⟩⟩ (iL (OwZ g pre Q)) (fun v st'=>OwZ g pre R v st'.own)
   (ai (ah hs) (fun p w' h hc lo' inv'=>?_) fun x w' h lo' is'=>⟨aI g lo' is'.vs++bp (fi.ps.zip (args++[])) c.cells,w',congrArg (·++aQ g w') (Mb _ _ _).symm,h⟩)
  ·have e:stf g fi.nm (bp (fi.ps.zip (args++[])) c.cells++pre) [] (fi.startC args) w=⟨dE scope fi.ps (args++[])++bF fi.os,bp (fi.ps.zip (args++[])) c.cells++(pre++aQ g w)⟩:=by
    show (⟨mkV [] 0 fi.nm.ns ((fi.locs args).map (fun p=>Slot.val p.2)++MF fi.os.length .un),(aI g [] _++(bp _ _++pre))++aQ g w⟩:St)=_;rw [eV,hns,←eK,ly];show (⟨_,(bp _ _++pre)++aQ g w⟩:St)=_;rw [Mb]
   rw [←e];rw [h3.1] at this;exact this
  ·exfalso;refine Mx (Mi.mp (MK hl)) (fun hm=>?_) fun hm=>?_
   ·obtain ⟨v,_,e⟩:=Ma.mp hm;replace hf:=e▸hf;injection hf
   ·have:=Qw hm;replace hf:=this▸hf;injection hf
  ·obtain ⟨af,is'⟩:=p;have e:(aI g lo' is'.vs++(bp (fi.ps.zip (args++[])) c.cells++pre))++aQ g w'=((aI g lo' is'.vs++bp (fi.ps.zip (args++[])) c.cells)++pre)++aQ g w':=congrArg (·++aQ g w') (Mb _ _ _).symm;cases af with
   | ret v=>exact ⟨_,w',e,h⟩
   | next=>exact ⟨_,w',e,h⟩
   | brk=>exact h.elim
   | cont=>exact h.elim
end
noncomputable def fat (f:Nat):Arguments×LT×Scope×Str×Pos:=match Mk.main.body[f]? with
 | some (.FunctionDef _ a b _ _ _ sc _ bd p)=>(a,b,sc,bd,p)
 | _=>(⟨[],[],none,[],[],none,[]⟩,[],default,default,default)
def Ko (f:Nat) (x:Str):Prop:=Mk.main.body[f]? = some (.FunctionDef x (fat f).1 (fat f).2.1 [] none [] (fat f).2.2.1 none (fat f).2.2.2.1 (fat f).2.2.2.2)
theorem GB:dm.map (fun p=>Mk.main.body[p.2]?)=dm.map (fun p=>some (.FunctionDef p.1 (fat p.2).1 (fat p.2).2.1 [] none [] (fat p.2).2.2.1 none (fat p.2).2.2.2.1 (fat p.2).2.2.2.2)):=by kernel_rfl
theorem vR {x:Str} {f:Nat} (h:(x,f)∈dm):Ko f x:=Rq.mp GB _ h
noncomputable def okF (f:Nat) (fi:FI):Bool:=(fat f).1.args.map (·.arg)==fi.ps&&fi.fits (fat f).2.2.1&&(trS fi.nm fi.body).oks (fat f).2.1
noncomputable def Iq (f:Nat) (fi:FI):Bool:=(fat f).1.args.map (·.arg)==fi.ps&&fi.fitsC (fat f).2.2.1&&(trS fi.nm fi.body).oks (fat f).2.1
theorem FnIRC.of {f:Nat} {x:Str} {fi:FI} (h0:Mk.main.body[f]? = some (.FunctionDef x (fat f).1 (fat f).2.1 [] none [] (fat f).2.2.1 none (fat f).2.2.2.1 (fat f).2.2.2.2)) (h1:Iq f fi=true) (h2:(trS fi.nm fi.body).ss (fat f).2.1=(fat f).2.1):FnIRC f x fi:=
 ⟨⟨_,_,_,_,_,h0,eq_of_beq (aa (aa h1)),⟨h2,ag h1⟩,ag (aa h1)⟩⟩
theorem FnIR.of {f:Nat} {x:Str} {fi:FI} (h0:Mk.main.body[f]? = some (.FunctionDef x (fat f).1 (fat f).2.1 [] none [] (fat f).2.2.1 none (fat f).2.2.2.1 (fat f).2.2.2.2)) (h1:okF f fi=true) (h2:(trS fi.nm fi.body).ss (fat f).2.1=(fat f).2.1):FnIR f x fi:=
 ⟨⟨_,_,_,_,_,h0,eq_of_beq (aa (aa h1)),⟨h2,ag h1⟩,ag (aa h1)⟩⟩
noncomputable def zU:FI:=⟨⟨["names"],[],[],[],none,["len"]⟩,["names"],[],
 (.cons (.ite (.cmp .Lt (.bi .len (.cons (.var 0) .nil)) (.int 3)) (.cons (.ret (.join [32,111,114,32] (.var 0)))
 .nil) .nil)
 (.cons (.ret (.bin .Add (.bin .Add (.join [44,32] (.slc (.var 0) .nopart (.neg (.int 1)))) (.str [44,32,111,114,32])) (.sub (.var 0) (.neg (.int 1)))))
 .nil))⟩
noncomputable def zT:FI:=⟨⟨["what","got","names","begun","name","sort"],[3],[],[],none,["len","error","listing"]⟩,["what","got","names"],["begun","name","sort"],
 (.cons (.onew 3)
 (.cons (.for_ 4 (.var 2) (.cons (.ite (.cmp .Eq (.var 4) (.var 1)) (.cons (.ret (.var 4))
 .nil) .nil)
 (.cons (.ite (.bop .And (.cmp .NotEq (.var 1) (.str [])) (.m1 .startswith (.var 4) (.var 1))) (.cons (.oapp 3 (.var 4))
 .nil) .nil)
 .nil)))
 (.cons (.ite (.cmp .Eq (.olen 3) (.int 1)) (.cons (.ret (.oidx 3 (.int 0)))
 .nil) .nil)
 (.cons (.assign 5 (.ite (.cmp .Gt (.olen 3) (.int 0)) (.str [97,109,98,105,103,117,111,117,115,32]) (.str [98,97,100,32])))
 (.cons (.raiseE (.bin .Add (.bin .Add (.bin .Add (.bin .Add (.bin .Add (.var 5) (.var 0)) (.str [32,34])) (.var 1)) (.str [34,58,32,109,117,115,116,32,98,101,32])) (.call 10 (.cons (.var 2) .nil))) (.tup (.cons (.str [84,67,76]) (.cons (.str [76,79,79,75,85,80]) (.cons (.str [73,78,68,69,88]) (.cons (.var 0) (.cons (.var 1) .nil)))))))
 .nil)))))⟩
noncomputable def GA:FI:=⟨⟨["c"],[],[],[],none,[]⟩,["c"],[],
 (.cons (.ret (.cmp .In (.var 0) (.tup (.cons (.str [32]) (.cons (.str [9]) (.cons (.str [10]) (.cons (.str [11]) (.cons (.str [12]) (.cons (.str [13]) .nil)))))))))
 .nil)⟩
noncomputable def Gz:FI:=⟨⟨["c","n"],[],[],[],none,["len","ord"]⟩,["c"],["n"],
 (.cons (.ite (.cmp .NotEq (.bi .len (.cons (.var 0) .nil)) (.int 1)) (.cons (.ret (.neg (.int 1)))
 .nil) .nil)
 (.cons (.assign 1 (.bi .ord (.cons (.var 0) .nil)))
 (.cons (.ite (.cmp2 .LtE .LtE (.int 48) (.var 1) (.int 57)) (.cons (.ret (.bin .Sub (.var 1) (.int 48)))
 .nil) .nil)
 (.cons (.ite (.cmp2 .LtE .LtE (.int 97) (.var 1) (.int 122)) (.cons (.ret (.bin .Sub (.var 1) (.int 87)))
 .nil) .nil)
 (.cons (.ite (.cmp2 .LtE .LtE (.int 65) (.var 1) (.int 90)) (.cons (.ret (.bin .Sub (.var 1) (.int 55)))
 .nil) .nil)
 (.cons (.ret (.neg (.int 1)))
 .nil))))))⟩
noncomputable def zS:FI:=⟨⟨["text","base","value","c","n"],[],[],[],none,["digit"]⟩,["text","base"],["value","c","n"],
 (.cons (.ite (.cmp .Eq (.var 0) (.str [])) (.cons (.ret .none)
 .nil) .nil)
 (.cons (.assign 2 (.int 0))
 (.cons (.for_ 3 (.var 0) (.cons (.assign 4 (.call 18 (.cons (.var 3) .nil)))
 (.cons (.ite (.bop .Or (.cmp .Lt (.var 4) (.int 0)) (.cmp .GtE (.var 4) (.var 1))) (.cons (.ret .none)
 .nil) .nil)
 (.cons (.assign 2 (.bin .Add (.bin .Mult (.var 2) (.var 1)) (.var 4)))
 .nil))))
 (.cons (.ret (.var 2))
 .nil))))⟩
noncomputable def Gy:FI:=⟨⟨["mark"],[],[],[],none,[]⟩,["mark"],[],
 (.cons (.ite (.cmp .In (.var 0) (.tup (.cons (.str [120]) (.cons (.str [88]) .nil)))) (.cons (.ret (.int 16))
 .nil) .nil)
 (.cons (.ite (.cmp .In (.var 0) (.tup (.cons (.str [111]) (.cons (.str [79]) .nil)))) (.cons (.ret (.int 8))
 .nil) .nil)
 (.cons (.ite (.cmp .In (.var 0) (.tup (.cons (.str [98]) (.cons (.str [66]) .nil)))) (.cons (.ret (.int 2))
 .nil) .nil)
 (.cons (.ite (.cmp .In (.var 0) (.tup (.cons (.str [100]) (.cons (.str [68]) .nil)))) (.cons (.ret (.int 10))
 .nil) .nil)
 (.cons (.ret (.int 0))
 .nil)))))⟩
noncomputable def zR:FI:=⟨⟨["text","first","behind","is_minus","base","value"],[],[],[],none,["len","is_blank","base_of","digits_value"]⟩,["text"],["first","behind","is_minus","base","value"],
 (.cons (.tup2 1 2 (.tup (.cons (.int 0) (.cons (.bi .len (.cons (.var 0) .nil)) .nil))))
 (.cons (.whl (.bop .And (.cmp .Lt (.var 1) (.var 2)) (.call 17 (.cons (.sub (.var 0) (.var 1)) .nil))) (.cons (.aug 1 .Add (.int 1))
 .nil))
 (.cons (.whl (.bop .And (.cmp .Lt (.var 1) (.var 2)) (.call 17 (.cons (.sub (.var 0) (.bin .Sub (.var 2) (.int 1))) .nil))) (.cons (.aug 2 .Sub (.int 1))
 .nil))
 (.cons (.assign 3 (.bool false))
 (.cons (.ite (.bop .And (.cmp .Lt (.var 1) (.var 2)) (.cmp .In (.sub (.var 0) (.var 1)) (.tup (.cons (.str [43]) (.cons (.str [45]) .nil))))) (.cons (.assign 3 (.cmp .Eq (.sub (.var 0) (.var 1)) (.str [45])))
 (.cons (.aug 1 .Add (.int 1))
 .nil)) .nil)
 (.cons (.assign 4 (.int 0))
 (.cons (.ite (.bop .And (.cmp .Gt (.bin .Sub (.var 2) (.var 1)) (.int 2)) (.cmp .Eq (.sub (.var 0) (.var 1)) (.str [48]))) (.cons (.assign 4 (.call 20 (.cons (.sub (.var 0) (.bin .Add (.var 1) (.int 1))) .nil)))
 .nil) .nil)
 (.cons (.ite (.cmp .Gt (.var 4) (.int 0)) (.cons (.assign 5 (.call 19 (.cons (.slc (.var 0) (.bin .Add (.var 1) (.int 2)) (.var 2)) (.cons (.var 4) .nil))))
 .nil) (.cons (.assign 5 (.call 19 (.cons (.slc (.var 0) (.var 1) (.var 2)) (.cons (.int 10) .nil))))
 .nil))
 (.cons (.ite (.cmp .Is (.var 5) .none) (.cons (.ret .none)
 .nil) .nil)
 (.cons (.ret (.ite (.var 3) (.neg (.var 5)) (.var 5)))
 .nil))))))))))⟩
noncomputable def zQ:FI:=⟨⟨["text","value","low","word"],[],[],[],none,["whole_of"]⟩,["text"],["value","low","word"],
 (.cons (.assign 1 (.call 21 (.cons (.var 0) .nil)))
 (.cons (.ite (.cmp .IsNot (.var 1) .none) (.cons (.ret (.cmp .NotEq (.var 1) (.int 0)))
 .nil) .nil)
 (.cons (.assign 2 (.m0 .lower (.var 0)))
 (.cons (.ite (.cmp .In (.var 2) (.tup (.cons (.str []) (.cons (.str [111]) .nil)))) (.cons (.ret .none)
 .nil) .nil)
 (.cons (.for_ 3 (.tup (.cons (.str [116,114,117,101]) (.cons (.str [121,101,115]) (.cons (.str [111,110]) .nil)))) (.cons (.ite (.m1 .startswith (.var 3) (.var 2)) (.cons (.ret (.bool true))
 .nil) .nil)
 .nil))
 (.cons (.for_ 3 (.tup (.cons (.str [102,97,108,115,101]) (.cons (.str [110,111]) (.cons (.str [111,102,102]) .nil)))) (.cons (.ite (.m1 .startswith (.var 3) (.var 2)) (.cons (.ret (.bool false))
 .nil) .nil)
 .nil))
 (.cons (.ret .none)
 .nil)))))))⟩
noncomputable def zP:FI:=⟨⟨["is_so"],[],[],[],none,[]⟩,["is_so"],[],
 (.cons (.ret (.ite (.var 0) (.str [49]) (.str [48])))
 .nil)⟩
noncomputable def zO:FI:=⟨⟨["n","low"],[],[],[],none,[]⟩,["n"],["low"],
 (.cons (.assign 1 (.bin .BitAnd (.var 0) (.bin .Sub (.bin .LShift (.int 1) (.int 64)) (.int 1))))
 (.cons (.ite (.cmp .Eq (.bin .RShift (.var 1) (.int 63)) (.int 1)) (.cons (.ret (.bin .Sub (.var 1) (.bin .LShift (.int 1) (.int 64))))
 .nil) .nil)
 (.cons (.ret (.var 1))
 .nil)))⟩
noncomputable def zN:FI:=⟨⟨["text","at","most","place","value","step"],[],[],[],none,["len","digit","chr"]⟩,["text","at"],["most","place","value","step"],
 (.cons (.assign 2 (.bin .Add (.var 1) (.int 3)))
 (.cons (.ite (.cmp .Eq (.sub (.var 0) (.var 1)) (.str [117])) (.cons (.assign 2 (.bin .Add (.var 1) (.int 5)))
 .nil) (.cons (.ite (.cmp .Eq (.sub (.var 0) (.var 1)) (.str [85])) (.cons (.assign 2 (.bin .Add (.var 1) (.int 9)))
 .nil) .nil)
 .nil))
 (.cons (.assign 3 (.bin .Add (.var 1) (.int 1)))
 (.cons (.assign 4 (.int 0))
 (.cons (.whl (.bop .And (.cmp .Lt (.var 3) (.var 2)) (.bop .And (.cmp .Lt (.var 3) (.bi .len (.cons (.var 0) .nil))) (.cmp .LtE (.var 4) (.int 69631)))) (.cons (.assign 5 (.call 18 (.cons (.sub (.var 0) (.var 3)) .nil)))
 (.cons (.ite (.bop .Or (.cmp .Lt (.var 5) (.int 0)) (.cmp .Gt (.var 5) (.int 15))) (.cons .brk
 .nil) .nil)
 (.cons (.assign 4 (.bin .Add (.bin .Mult (.var 4) (.int 16)) (.var 5)))
 (.cons (.aug 3 .Add (.int 1))
 .nil)))))
 (.cons (.ite (.cmp .Eq (.var 3) (.bin .Add (.var 1) (.int 1))) (.cons (.ret (.tup (.cons (.sub (.var 0) (.var 1)) (.cons (.var 3) .nil))))
 .nil) .nil)
 (.cons (.ret (.tup (.cons (.bi .chr (.cons (.var 4) .nil)) (.cons (.var 3) .nil))))
 .nil)))))))⟩
noncomputable def zM:FI:=⟨⟨["text","at","place","value","step"],[],[],[],none,["len","digit","chr"]⟩,["text","at"],["place","value","step"],
 (.cons (.assign 2 (.var 1))
 (.cons (.assign 3 (.int 0))
 (.cons (.whl (.bop .And (.cmp .Lt (.var 2) (.bin .Add (.var 1) (.int 3))) (.bop .And (.cmp .Lt (.var 2) (.bi .len (.cons (.var 0) .nil))) (.cmp .Lt (.var 3) (.int 32)))) (.cons (.assign 4 (.call 18 (.cons (.sub (.var 0) (.var 2)) .nil)))
 (.cons (.ite (.bop .Or (.cmp .Lt (.var 4) (.int 0)) (.cmp .Gt (.var 4) (.int 7))) (.cons .brk
 .nil) .nil)
 (.cons (.assign 3 (.bin .Add (.bin .Mult (.var 3) (.int 8)) (.var 4)))
 (.cons (.aug 2 .Add (.int 1))
 .nil)))))
 (.cons (.ret (.tup (.cons (.bi .chr (.cons (.var 3) .nil)) (.cons (.var 2) .nil))))
 .nil))))⟩
noncomputable def zL:FI:=⟨⟨["text","at","sign","known","behind"],[],[],[],none,["hex_sign","octal_sign"]⟩,["text","at"],["sign","known","behind"],
 (.cons (.assign 2 (.slc (.var 0) (.bin .Add (.var 1) (.int 1)) (.bin .Add (.var 1) (.int 2))))
 (.cons (.ite (.cmp .Eq (.var 2) (.str [])) (.cons (.ret (.tup (.cons (.str [92]) (.cons (.bin .Add (.var 1) (.int 1)) .nil))))
 .nil) .nil)
 (.cons (.assign 3 (.m1 .find (.str [97,98,102,110,114,116,118]) (.var 2)))
 (.cons (.ite (.cmp .GtE (.var 3) (.int 0)) (.cons (.ret (.tup (.cons (.sub (.str [7,8,12,10,13,9,11]) (.var 3)) (.cons (.bin .Add (.var 1) (.int 2)) .nil))))
 .nil) .nil)
 (.cons (.ite (.cmp .Eq (.var 2) (.str [10])) (.cons (.assign 4 (.bin .Add (.var 1) (.int 2)))
 (.cons (.whl (.cmp .In (.slc (.var 0) (.var 4) (.bin .Add (.var 4) (.int 1))) (.tup (.cons (.str [32]) (.cons (.str [9]) .nil)))) (.cons (.aug 4 .Add (.int 1))
 .nil))
 (.cons (.ret (.tup (.cons (.str [32]) (.cons (.var 4) .nil))))
 .nil))) .nil)
 (.cons (.ite (.cmp .In (.var 2) (.tup (.cons (.str [120]) (.cons (.str [117]) (.cons (.str [85]) .nil))))) (.cons (.ret (.call 26 (.cons (.var 0) (.cons (.bin .Add (.var 1) (.int 1)) .nil))))
 .nil) .nil)
 (.cons (.ite (.cmp .In (.var 2) (.tup (.cons (.str [48]) (.cons (.str [49]) (.cons (.str [50]) (.cons (.str [51]) (.cons (.str [52]) (.cons (.str [53]) (.cons (.str [54]) (.cons (.str [55]) .nil)))))))))) (.cons (.ret (.call 27 (.cons (.var 0) (.cons (.bin .Add (.var 1) (.int 1)) .nil))))
 .nil) .nil)
 (.cons (.ret (.tup (.cons (.var 2) (.cons (.bin .Add (.var 1) (.int 2)) .nil))))
 .nil))))))))⟩
noncomputable def zK:FI:=⟨⟨["text","at","what","end"],[],[],[],none,["len","is_blank","error"]⟩,["text","at","what"],["end"],
 (.cons (.ite (.bop .Or (.cmp .GtE (.var 1) (.bi .len (.cons (.var 0) .nil))) (.call 17 (.cons (.sub (.var 0) (.var 1)) .nil))) (.cons .retN
 .nil) .nil)
 (.cons (.assign 3 (.var 1))
 (.cons (.whl (.bop .And (.cmp .Lt (.var 3) (.bi .len (.cons (.var 0) .nil))) (.bop .And (.cmp .Lt (.var 3) (.bin .Add (.var 1) (.int 20))) (.not (.call 17 (.cons (.sub (.var 0) (.var 3)) .nil))))) (.cons (.aug 3 .Add (.int 1))
 .nil))
 (.cons (.raiseE (.bin .Add (.bin .Add (.bin .Add (.bin .Add (.str [108,105,115,116,32,101,108,101,109,101,110,116,32,105,110,32]) (.var 2)) (.str [32,102,111,108,108,111,119,101,100,32,98,121,32,34])) (.slc (.var 0) (.var 1) (.var 3))) (.str [34,32,105,110,115,116,101,97,100,32,111,102,32,115,112,97,99,101])) (.tup (.cons (.str [84,67,76]) (.cons (.str [86,65,76,85,69]) (.cons (.str [76,73,83,84]) (.cons (.str [74,85,78,75]) .nil))))))
 .nil))))⟩
noncomputable def zJ:FI:=⟨⟨["text","first","depth","at","c"],[],[],[],none,["len","check_behind","error"]⟩,["text","first"],["depth","at","c"],
 (.cons (.tup2 2 3 (.tup (.cons (.int 1) (.cons (.var 1) .nil))))
 (.cons (.whl (.cmp .Lt (.var 3) (.bi .len (.cons (.var 0) .nil))) (.cons (.assign 4 (.sub (.var 0) (.var 3)))
 (.cons (.ite (.cmp .Eq (.var 4) (.str [92])) (.cons (.aug 3 .Add (.int 1))
 .nil) (.cons (.ite (.cmp .Eq (.var 4) (.str [123])) (.cons (.aug 2 .Add (.int 1))
 .nil) (.cons (.ite (.cmp .Eq (.var 4) (.str [125])) (.cons (.aug 2 .Sub (.int 1))
 (.cons (.ite (.cmp .Eq (.var 2) (.int 0)) (.cons (.eff (.call 30 (.cons (.var 0) (.cons (.bin .Add (.var 3) (.int 1)) (.cons (.str [98,114,97,99,101,115]) .nil)))))
 (.cons (.ret (.tup (.cons (.slc (.var 0) (.var 1) (.var 3)) (.cons (.bin .Add (.var 3) (.int 1)) .nil))))
 .nil)) .nil)
 .nil)) .nil)
 .nil))
 .nil))
 (.cons (.aug 3 .Add (.int 1))
 .nil))))
 (.cons (.raiseE (.str [117,110,109,97,116,99,104,101,100,32,111,112,101,110,32,98,114,97,99,101,32,105,110,32,108,105,115,116]) (.tup (.cons (.str [84,67,76]) (.cons (.str [86,65,76,85,69]) (.cons (.str [76,73,83,84]) (.cons (.str [66,82,65,67,69]) .nil))))))
 .nil)))⟩
noncomputable def zI:FI:=⟨⟨["text","at","out","c"],[2],[],[],none,["len","backslash","check_behind","error"]⟩,["text","at"],["out","c"],
 (.cons (.onew 2)
 (.cons (.whl (.cmp .Lt (.var 1) (.bi .len (.cons (.var 0) .nil))) (.cons (.assign 3 (.sub (.var 0) (.var 1)))
 (.cons (.ite (.cmp .Eq (.var 3) (.str [92])) (.cons (.tup2 3 1 (.call 28 (.cons (.var 0) (.cons (.var 1) .nil))))
 .nil) (.cons (.ite (.cmp .Eq (.var 3) (.str [34])) (.cons (.eff (.call 30 (.cons (.var 0) (.cons (.bin .Add (.var 1) (.int 1)) (.cons (.str [113,117,111,116,101,115]) .nil)))))
 (.cons (.ret (.tup (.cons (.ojoin [] 2) (.cons (.bin .Add (.var 1) (.int 1)) .nil))))
 .nil)) (.cons (.aug 1 .Add (.int 1))
 .nil))
 .nil))
 (.cons (.oapp 2 (.var 3))
 .nil))))
 (.cons (.raiseE (.str [117,110,109,97,116,99,104,101,100,32,111,112,101,110,32,113,117,111,116,101,32,105,110,32,108,105,115,116]) (.tup (.cons (.str [84,67,76]) (.cons (.str [86,65,76,85,69]) (.cons (.str [76,73,83,84]) (.cons (.str [81,85,79,84,69]) .nil))))))
 .nil)))⟩
noncomputable def zH:FI:=⟨⟨["text","at","out","c"],[2],[],[],none,["len","is_blank","backslash"]⟩,["text","at"],["out","c"],
 (.cons (.onew 2)
 (.cons (.whl (.bop .And (.cmp .Lt (.var 1) (.bi .len (.cons (.var 0) .nil))) (.not (.call 17 (.cons (.sub (.var 0) (.var 1)) .nil)))) (.cons (.assign 3 (.sub (.var 0) (.var 1)))
 (.cons (.ite (.cmp .Eq (.var 3) (.str [92])) (.cons (.tup2 3 1 (.call 28 (.cons (.var 0) (.cons (.var 1) .nil))))
 .nil) (.cons (.aug 1 .Add (.int 1))
 .nil))
 (.cons (.oapp 2 (.var 3))
 .nil))))
 (.cons (.ret (.tup (.cons (.ojoin [] 2) (.cons (.var 1) .nil))))
 .nil)))⟩
noncomputable def zE:FI:=⟨⟨["text","at"],[],[],[],none,["len","is_blank","braced_element","quoted_element","bare_element"]⟩,["text","at"],[],
 (.cons (.whl (.bop .And (.cmp .Lt (.var 1) (.bi .len (.cons (.var 0) .nil))) (.call 17 (.cons (.sub (.var 0) (.var 1)) .nil))) (.cons (.aug 1 .Add (.int 1))
 .nil))
 (.cons (.ite (.cmp .GtE (.var 1) (.bi .len (.cons (.var 0) .nil))) (.cons (.ret .none)
 .nil) .nil)
 (.cons (.ite (.cmp .Eq (.sub (.var 0) (.var 1)) (.str [123])) (.cons (.ret (.call 31 (.cons (.var 0) (.cons (.bin .Add (.var 1) (.int 1)) .nil))))
 .nil) .nil)
 (.cons (.ite (.cmp .Eq (.sub (.var 0) (.var 1)) (.str [34])) (.cons (.ret (.call 32 (.cons (.var 0) (.cons (.bin .Add (.var 1) (.int 1)) .nil))))
 .nil) .nil)
 (.cons (.ret (.call 33 (.cons (.var 0) (.cons (.var 1) .nil))))
 .nil)))))⟩
noncomputable def Gw:FI:=⟨⟨[],[],[],[],none,[]⟩,[],[],
 (.cons (.ret (.str [9,10,11,12,13,32,0,133,160,5760,6158,8192,8193,8194,8195,8196,8197,8198,8199,8200,8201,8202,8203,8232,8233,8239,8287,8288,12288,65279]))
 .nil)⟩
noncomputable def zD:FI:=⟨⟨[],[],[],[],none,[]⟩,[],[],
 (.cons (.ret (.tup (.cons (.str [97,108,110,117,109]) (.cons (.str [97,108,112,104,97]) (.cons (.str [97,115,99,105,105]) (.cons (.str [99,111,110,116,114,111,108]) (.cons (.str [98,111,111,108,101,97,110]) (.cons (.str [100,105,103,105,116]) (.cons (.str [101,110,116,105,101,114]) (.cons (.str [102,97,108,115,101]) (.cons (.str [103,114,97,112,104]) (.cons (.str [105,110,116,101,103,101,114]) (.cons (.str [108,105,115,116]) (.cons (.str [108,111,119,101,114]) (.cons (.str [112,114,105,110,116]) (.cons (.str [112,117,110,99,116]) (.cons (.str [115,112,97,99,101]) (.cons (.str [116,114,117,101]) (.cons (.str [117,112,112,101,114]) (.cons (.str [119,105,100,101,105,110,116,101,103,101,114]) (.cons (.str [119,111,114,100,99,104,97,114]) (.cons (.str [120,100,105,103,105,116]) .nil))))))))))))))))))))))
 .nil)⟩
noncomputable def Gv:FI:=⟨⟨["c"],[],[],[],none,["digit"]⟩,["c"],[],
 (.cons (.ret (.bop .Or (.cmp .GtE (.call 18 (.cons (.var 0) .nil)) (.int 10)) (.bop .And (.cmp .Gt (.var 0) (.str [127])) (.m0 .isalpha (.var 0)))))
 .nil)⟩
noncomputable def Gu:FI:=⟨⟨["c"],[],[],[],none,["digit","is_letter"]⟩,["c"],[],
 (.cons (.ret (.bop .Or (.cmp .GtE (.call 18 (.cons (.var 0) .nil)) (.int 0)) (.bop .Or (.call 38 (.cons (.var 0) .nil)) (.cmp .In (.var 0) (.str [95,8255,8256,8276])))))
 .nil)⟩
noncomputable def Gs:FI:=⟨⟨["c"],[],[],[],none,["default_trim"]⟩,["c"],[],
 (.cons (.ret (.bop .And (.cmp .NotEq (.var 0) (.str [0])) (.cmp .In (.var 0) (.call 36 .nil))))
 .nil)⟩
noncomputable def Gr:FI:=⟨⟨["c"],[],[],[],none,["ord"]⟩,["c"],[],
 (.cons (.ite (.cmp .Lt (.var 0) (.str [128])) (.cons (.ret (.bop .Or (.cmp .Lt (.var 0) (.str [32])) (.cmp .Eq (.var 0) (.str [127]))))
 .nil) .nil)
 (.cons (.ret (.bop .Or (.cmp .LtE (.var 0) (.str [159])) (.bop .Or (.cmp .In (.var 0) (.str [173,1564,6158,65279])) (.bop .Or (.cmp2 .LtE .LtE (.str [8203]) (.var 0) (.str [8207])) (.bop .Or (.cmp2 .LtE .LtE (.str [8234]) (.var 0) (.str [8238])) (.bop .Or (.cmp2 .LtE .LtE (.str [8288]) (.var 0) (.str [8303])) (.bop .Or (.cmp2 .LtE .LtE (.str [57344]) (.var 0) (.str [63743])) (.bop .And (.cmp .GtE (.var 0) (.str [983040])) (.cmp .Lt (.bin .Mod (.bi .ord (.cons (.var 0) .nil)) (.int 65536)) (.int 65534))))))))))
 .nil))⟩
noncomputable def Gq:FI:=⟨⟨["c"],[],[],[],none,[]⟩,["c"],[],
 (.cons (.ite (.cmp .Lt (.var 0) (.str [128])) (.cons (.ret (.cmp .In (.var 0) (.str [33,34,35,37,38,39,40,41,42,44,45,46,47,58,59,63,64,91,92,93,95,123,125])))
 .nil) .nil)
 (.cons (.ret (.bop .Or (.cmp .In (.var 0) (.str [161,167,171,182,183,187,191])) (.bop .Or (.cmp2 .LtE .LtE (.str [8208]) (.var 0) (.str [8231])) (.bop .And (.cmp2 .LtE .LtE (.str [8240]) (.var 0) (.str [8286])) (.cmp .NotIn (.var 0) (.str [8260,8274]))))))
 .nil))⟩
noncomputable def Gp:FI:=⟨⟨["name","c"],[],[],[],none,["is_letter","digit","is_word_sign","is_space","is_punct","is_control"]⟩,["name","c"],[],
 (.cons (.ite (.cmp .Eq (.var 0) (.str [97,108,112,104,97])) (.cons (.ret (.call 38 (.cons (.var 1) .nil)))
 .nil) .nil)
 (.cons (.ite (.cmp .Eq (.var 0) (.str [100,105,103,105,116])) (.cons (.ret (.cmp2 .LtE .LtE (.int 0) (.call 18 (.cons (.var 1) .nil)) (.int 9)))
 .nil) .nil)
 (.cons (.ite (.cmp .Eq (.var 0) (.str [97,108,110,117,109])) (.cons (.ret (.bop .Or (.cmp .GtE (.call 18 (.cons (.var 1) .nil)) (.int 0)) (.call 38 (.cons (.var 1) .nil))))
 .nil) .nil)
 (.cons (.ite (.cmp .Eq (.var 0) (.str [120,100,105,103,105,116])) (.cons (.ret (.cmp2 .LtE .LtE (.int 0) (.call 18 (.cons (.var 1) .nil)) (.int 15)))
 .nil) .nil)
 (.cons (.ite (.cmp .Eq (.var 0) (.str [119,111,114,100,99,104,97,114])) (.cons (.ret (.call 39 (.cons (.var 1) .nil)))
 .nil) .nil)
 (.cons (.ite (.cmp .Eq (.var 0) (.str [108,111,119,101,114])) (.cons (.ret (.m0 .islower (.var 1)))
 .nil) .nil)
 (.cons (.ite (.cmp .Eq (.var 0) (.str [117,112,112,101,114])) (.cons (.ret (.m0 .isupper (.var 1)))
 .nil) .nil)
 (.cons (.ite (.cmp .Eq (.var 0) (.str [97,115,99,105,105])) (.cons (.ret (.cmp .Lt (.var 1) (.str [128])))
 .nil) .nil)
 (.cons (.ite (.cmp .Eq (.var 0) (.str [115,112,97,99,101])) (.cons (.ret (.call 40 (.cons (.var 1) .nil)))
 .nil) .nil)
 (.cons (.ite (.cmp .Eq (.var 0) (.str [112,117,110,99,116])) (.cons (.ret (.call 42 (.cons (.var 1) .nil)))
 .nil) .nil)
 (.cons (.ite (.cmp .Eq (.var 0) (.str [99,111,110,116,114,111,108])) (.cons (.ret (.call 41 (.cons (.var 1) .nil)))
 .nil) .nil)
 (.cons (.ite (.bop .And (.cmp .Eq (.var 0) (.str [103,114,97,112,104])) (.call 40 (.cons (.var 1) .nil))) (.cons (.ret (.bool false))
 .nil) .nil)
 (.cons (.ret (.not (.call 41 (.cons (.var 1) .nil))))
 .nil)))))))))))))⟩
noncomputable def zy:FI:=⟨⟨["name","text","truth"],[],[],[],none,["bool_of","whole_of"]⟩,["name","text"],["truth"],
 (.cons (.assign 2 (.call 22 (.cons (.var 1) .nil)))
 (.cons (.ite (.bop .Or (.cmp .Is (.var 2) .none) (.bop .And (.cmp .IsNot (.call 21 (.cons (.var 1) .nil)) .none) (.bop .And (.cmp .NotEq (.var 1) (.str [48])) (.cmp .NotEq (.var 1) (.str [49]))))) (.cons (.ret (.tup (.cons (.bool false) (.cons (.int 0) .nil))))
 .nil) .nil)
 (.cons (.ite (.bop .Or (.bop .And (.cmp .Eq (.var 0) (.str [116,114,117,101])) (.not (.var 2))) (.bop .And (.cmp .Eq (.var 0) (.str [102,97,108,115,101])) (.var 2))) (.cons (.ret (.tup (.cons (.bool false) (.cons (.int 0) .nil))))
 .nil) .nil)
 (.cons (.ret (.tup (.cons (.bool true) (.cons (.neg (.int 1)) .nil))))
 .nil))))⟩
noncomputable def zx:FI:=⟨⟨["name","text","n","at"],[],[],[],none,["whole_of","wide","len"]⟩,["name","text"],["n","at"],
 (.cons (.assign 2 (.call 21 (.cons (.var 1) .nil)))
 (.cons (.ite (.cmp .IsNot (.var 2) .none) (.cons (.ret (.tup (.cons (.bop .Or (.cmp .NotEq (.var 0) (.str [119,105,100,101,105,110,116,101,103,101,114])) (.cmp .Eq (.call 24 (.cons (.var 2) .nil)) (.var 2))) (.cons (.neg (.int 1)) .nil))))
 .nil) .nil)
 (.cons (.assign 3 (.bin .Sub (.bi .len (.cons (.var 1) .nil)) (.int 1)))
 (.cons (.whl (.bop .And (.cmp .Gt (.var 3) (.int 0)) (.cmp .Is (.call 21 (.cons (.slc (.var 1) .nopart (.var 3)) .nil)) .none)) (.cons (.aug 3 .Sub (.int 1))
 .nil))
 (.cons (.ret (.tup (.cons (.bool false) (.cons (.var 3) .nil))))
 .nil)))))⟩
noncomputable def zw:FI:=⟨⟨["text","found","at"],[],[],[],none,["len","is_blank","find_element","Raised"]⟩,["text"],["found","at"],
 (.cons (.assign 1 (.tup (.cons (.str []) (.cons (.int 0) .nil))))
 (.cons (.whl (.cmp .IsNot (.var 1) .none) (.cons (.assign 2 (.sub (.var 1) (.int 1)))
 (.cons (.whl (.bop .And (.cmp .Lt (.var 2) (.bi .len (.cons (.var 0) .nil))) (.call 17 (.cons (.sub (.var 0) (.var 2)) .nil))) (.cons (.aug 2 .Add (.int 1))
 .nil))
 (.cons (.tryR 1 (.call 34 (.cons (.var 0) (.cons (.var 2) .nil))) false 2)
 .nil))))
 (.cons (.ret (.tup (.cons (.bool true) (.cons (.neg (.int 1)) .nil))))
 .nil)))⟩
noncomputable def zu:FI:=⟨⟨["name","text","at"],[],[],[],none,["list_class","truth_class","whole_class","len","sign_fits"]⟩,["name","text"],["at"],
 (.cons (.ite (.cmp .Eq (.var 0) (.str [108,105,115,116])) (.cons (.ret (.call 46 (.cons (.var 1) .nil)))
 .nil) .nil)
 (.cons (.ite (.cmp .Eq (.var 1) (.str [])) (.cons (.ret (.tup (.cons (.bool true) (.cons (.neg (.int 1)) .nil))))
 .nil) .nil)
 (.cons (.ite (.cmp .In (.var 0) (.tup (.cons (.str [98,111,111,108,101,97,110]) (.cons (.str [116,114,117,101]) (.cons (.str [102,97,108,115,101]) .nil))))) (.cons (.ret (.call 44 (.cons (.var 0) (.cons (.var 1) .nil))))
 .nil) .nil)
 (.cons (.ite (.cmp .In (.var 0) (.tup (.cons (.str [105,110,116,101,103,101,114]) (.cons (.str [101,110,116,105,101,114]) (.cons (.str [119,105,100,101,105,110,116,101,103,101,114]) .nil))))) (.cons (.ret (.call 45 (.cons (.var 0) (.cons (.var 1) .nil))))
 .nil) .nil)
 (.cons (.assign 2 (.int 0))
 (.cons (.whl (.cmp .Lt (.var 2) (.bi .len (.cons (.var 1) .nil))) (.cons (.ite (.not (.call 43 (.cons (.var 0) (.cons (.sub (.var 1) (.var 2)) .nil)))) (.cons (.ret (.tup (.cons (.bool false) (.cons (.var 2) .nil))))
 .nil) .nil)
 (.cons (.aug 2 .Add (.int 1))
 .nil)))
 (.cons (.ret (.tup (.cons (.bool true) (.cons (.neg (.int 1)) .nil))))
 .nil)))))))⟩
noncomputable def vQ:FI:=⟨⟨["host","words","options","name","is_strict","place","last","at","is_so","index"],[],[],[],none,["len","wrong_args","pick","class_names","is_class","str","text_of"]⟩,["host","words"],["options","name","is_strict","place","last","at","is_so","index"],
 (.cons (.assign 2 (.str [32,63,45,115,116,114,105,99,116,63,32,63,45,102,97,105,108,105,110,100,101,120,32,118,97,114,63,32,115,116,114]))
 (.cons (.ite (.bop .Or (.cmp .Lt (.bi .len (.cons (.var 1) .nil)) (.int 4)) (.cmp .Gt (.bi .len (.cons (.var 1) .nil)) (.int 7))) (.cons (.raiseW (.bin .Add (.str [115,116,114,105,110,103,32,105,115,32,99,108,97,115,115]) (.var 2)))
 .nil) .nil)
 (.cons (.assign 3 (.call 11 (.cons (.str [99,108,97,115,115]) (.cons (.sub (.var 1) (.int 2)) (.cons (.call 37 .nil) .nil)))))
 (.cons (.assign 4 (.bool false))
 (.cons (.assign 5 .none)
 (.cons (.assign 6 (.bin .Sub (.bi .len (.cons (.var 1) .nil)) (.int 1)))
 (.cons (.assign 7 (.int 3))
 (.cons (.whl (.cmp .Lt (.var 7) (.var 6)) (.cons (.ite (.cmp .Eq (.call 11 (.cons (.str [111,112,116,105,111,110]) (.cons (.sub (.var 1) (.var 7)) (.cons (.tup (.cons (.str [45,115,116,114,105,99,116]) (.cons (.str [45,102,97,105,108,105,110,100,101,120]) .nil))) .nil)))) (.str [45,115,116,114,105,99,116])) (.cons (.assign 4 (.bool true))
 .nil) (.cons (.ite (.cmp .GtE (.bin .Add (.var 7) (.int 1)) (.var 6)) (.cons (.raiseW (.bin .Add (.bin .Add (.str [115,116,114,105,110,103,32,105,115,32]) (.var 3)) (.var 2)))
 .nil) (.cons (.aug 7 .Add (.int 1))
 (.cons (.assign 5 (.sub (.var 1) (.var 7)))
 .nil)))
 .nil))
 (.cons (.aug 7 .Add (.int 1))
 .nil)))
 (.cons (.tup2 8 9 (.call 47 (.cons (.var 3) (.cons (.sub (.var 1) (.var 6)) .nil))))
 (.cons (.ite (.bop .And (.var 4) (.bop .And (.cmp .Eq (.sub (.var 1) (.var 6)) (.str [])) (.cmp .NotEq (.var 3) (.str [108,105,115,116])))) (.cons (.assign 8 (.bool false))
 (.cons (.assign 9 (.int 0))
 .nil)) .nil)
 (.cons (.ite (.bop .And (.cmp .IsNot (.var 5) .none) (.not (.var 8))) (.cons (.hwrite 0 (.var 5) (.bi .str (.cons (.var 9) .nil)))
 .nil) .nil)
 (.cons (.ret (.call 23 (.cons (.var 8) .nil)))
 .nil))))))))))))⟩
noncomputable def zt:FI:=⟨⟨[],[],[],[],none,[]⟩,[],[],
 (.cons (.ret (.lst (.cons (.str [97,108,110,117,109]) (.cons (.str [97,108,112,104,97]) (.cons (.str [97,115,99,105,105]) (.cons (.str [99,111,110,116,114,111,108]) (.cons (.str [98,111,111,108,101,97,110]) (.cons (.str [100,105,103,105,116]) (.cons (.str [101,110,116,105,101,114]) (.cons (.str [102,97,108,115,101]) (.cons (.str [103,114,97,112,104]) (.cons (.str [105,110,116,101,103,101,114]) (.cons (.str [108,105,115,116]) (.cons (.str [108,111,119,101,114]) (.cons (.str [112,114,105,110,116]) (.cons (.str [112,117,110,99,116]) (.cons (.str [115,112,97,99,101]) (.cons (.str [116,114,117,101]) (.cons (.str [117,112,112,101,114]) (.cons (.str [119,105,100,101,105,110,116,101,103,101,114]) (.cons (.str [119,111,114,100,99,104,97,114]) (.cons (.str [120,100,105,103,105,116]) .nil))))))))))))))))))))))
 .nil)⟩
noncomputable def zr:FI:=⟨⟨["sort"],[],[],[],none,[]⟩,["sort"],[],
 (.cons (.ret (.sub (.lst (.cons (.str [97,55,32,95,71,122,70,9,0,127,36,45,123,125,34,92,43,10,233,304,20013,178,160,8203,173,8212,8255,8364,57344,983040]) (.cons (.str [48,49,55,57,120,88,111,98,66,100,97,70,43,45,32,10]) (.cons (.str [116,114,117,101,102,97,108,115,121,111,110,84,79,48,49,32]) (.cons (.str [97,98,123,125,34,92,32,10,49]) .nil))))) (.var 0)))
 .nil)⟩
noncomputable def zq:FI:=⟨⟨[],[],[],[],none,[]⟩,[],[],
 (.cons (.ret (.lst (.cons (.tup (.cons (.int 0) (.cons (.str [97,71,233,20013,36]) (.cons (.int 1) (.cons (.int 0) (.cons (.int 2) (.cons (.int 0) .nil))))))) (.cons (.tup (.cons (.int 0) (.cons (.str [70,55,95,8255,45]) (.cons (.int 18) (.cons (.int 0) (.cons (.int 3) (.cons (.int 1) .nil))))))) (.cons (.tup (.cons (.int 0) (.cons (.str [32,9,160,8203,0]) (.cons (.int 14) (.cons (.int 0) (.cons (.int 4) (.cons (.int 0) .nil))))))) (.cons (.tup (.cons (.int 0) (.cons (.str [97,0]) (.cons (.int 12) (.cons (.int 4) (.cons (.int 2) (.cons (.int 1) .nil))))))) (.cons (.tup (.cons (.int 0) (.cons (.str []) (.cons (.int 16) (.cons (.int 0) (.cons (.int 3) (.cons (.int 0) .nil))))))) (.cons (.tup (.cons (.int 1) (.cons (.str [32,45,48,120,49,70,32,10]) (.cons (.int 6) (.cons (.int 2) (.cons (.int 2) (.cons (.int 0) .nil))))))) (.cons (.tup (.cons (.int 1) (.cons (.str [49,57,32,120]) (.cons (.int 9) (.cons (.int 0) (.cons (.int 2) (.cons (.int 1) .nil))))))) (.cons (.tup (.cons (.int 1) (.cons (.str [45,48,120,70,48,48,48,48,48,48,48,48,48,48,48,48,48,48,48]) (.cons (.int 17) (.cons (.int 3) (.cons (.int 2) (.cons (.int 0) .nil))))))) (.cons (.tup (.cons (.int 2) (.cons (.str [84,114,117]) (.cons (.int 4) (.cons (.int 0) (.cons (.int 0) (.cons (.int 0) .nil))))))) (.cons (.tup (.cons (.int 2) (.cons (.str [111]) (.cons (.int 15) (.cons (.int 1) (.cons (.int 5) (.cons (.int 0) .nil))))))) (.cons (.tup (.cons (.int 3) (.cons (.str [97,32,123,98,125,49]) (.cons (.int 10) (.cons (.int 0) (.cons (.int 2) (.cons (.int 0) .nil))))))) (.cons (.tup (.cons (.int 3) (.cons (.str [34,97,92,34,32,10,32,98]) (.cons (.int 10) (.cons (.int 2) (.cons (.int 2) (.cons (.int 1) .nil))))))) (.cons (.tup (.cons (.int 3) (.cons (.str []) (.cons (.int 10) (.cons (.int 0) (.cons (.int 3) (.cons (.int 0) .nil))))))) (.cons (.tup (.cons (.int 1) (.cons (.str [45,55,70]) (.cons (.int 19) (.cons (.int 0) (.cons (.int 9) (.cons (.int 1) .nil))))))) .nil))))))))))))))))
 .nil)⟩
noncomputable def zp:FI:=⟨⟨["shape"],[],[],[],none,[]⟩,["shape"],[],
 (.cons (.ret (.sub (.lst (.cons (.lst .nil) (.cons (.lst (.cons (.str [45,115,116,114,105,99,116]) .nil)) (.cons (.lst (.cons (.str [45,102,97,105,108,105,110,100,101,120]) (.cons (.str [118]) .nil))) (.cons (.lst (.cons (.str [45,115,116,114,105,99,116]) (.cons (.str [45,102,97,105,108,105,110,100,101,120]) (.cons (.str [118]) .nil)))) (.cons (.lst (.cons (.str [45,102,97,105,108,105,110,100,101,120]) (.cons (.str [118]) (.cons (.str [45,115,116,114,105,99,116]) .nil)))) (.cons (.lst (.cons (.str [45,115]) (.cons (.str [45,115,116,114,105,99,116]) .nil))) (.cons (.lst (.cons (.str [45,102,97,105,108]) .nil)) (.cons (.lst (.cons (.str [45,120]) .nil)) (.cons (.lst (.cons (.str [45]) .nil)) (.cons (.lst (.cons (.str []) (.cons (.str [45,115,116,114,105,99,116]) .nil))) (.cons (.lst (.cons (.str [45,102]) (.cons (.str [118]) (.cons (.str [45,102,97,105,108,105,110,100,101,120]) .nil)))) (.cons (.lst (.cons (.str [45,102,97,105,108,105,110,100,101,120]) (.cons (.str [45,115,116,114,105,99,116]) .nil))) (.cons (.lst (.cons (.str [45,115,116,114,105,99,116,101,114]) (.cons (.str [45,102]) (.cons (.str [118]) .nil)))) (.cons (.lst (.cons (.str [45,115,116,114,105,99,116]) (.cons (.str [45,115,116,114,105,99,116]) (.cons (.str [45,115,116,114,105,99,116]) (.cons (.str [45,115,116,114,105,99,116]) .nil))))) .nil))))))))))))))) (.var 0)))
 .nil)⟩
noncomputable def zo:FI:=⟨⟨["text","most","signs","pen","size","made","at","old"],[],[],[],none,["len","_law_draw","range"]⟩,["text","most","signs","pen"],["size","made","at","old"],
 (.cons (.assign 4 (.bin .Mod (.bin .Add (.bi .len (.cons (.var 0) .nil)) (.call 65 (.cons (.var 3) (.cons (.bin .Add (.var 1) (.int 1)) .nil)))) (.bin .Add (.var 1) (.int 1))))
 (.cons (.assign 5 (.str []))
 (.cons (.for_ 6 (.bi .range (.cons (.var 4) .nil)) (.cons (.assign 7 (.ite (.bop .And (.cmp .Lt (.var 6) (.bi .len (.cons (.var 0) .nil))) (.cmp .In (.sub (.var 0) (.var 6)) (.var 2))) (.m1 .index (.var 2) (.sub (.var 0) (.var 6))) (.int 0)))
 (.cons (.assign 5 (.bin .Add (.var 5) (.sub (.var 2) (.bin .Mod (.bin .Add (.var 7) (.call 65 (.cons (.var 3) (.cons (.bi .len (.cons (.var 2) .nil)) .nil)))) (.bi .len (.cons (.var 2) .nil))))))
 .nil)))
 (.cons (.ret (.var 5))
 .nil))))⟩
noncomputable def zn:FI:=⟨⟨["name","c","beyond","low","digits","high","own"],[],[2,6],[],none,[]⟩,["name","c"],["beyond","low","digits","high","own"],
 (.cons (.dnew 2 [[233],[20013],[304],[178],[8364],[160],[8203],[173],[57344],[983040],[8212],[8255]] (.cons (.lst (.cons (.str [97,108,110,117,109]) (.cons (.str [97,108,112,104,97]) (.cons (.str [103,114,97,112,104]) (.cons (.str [108,111,119,101,114]) (.cons (.str [112,114,105,110,116]) (.cons (.str [119,111,114,100,99,104,97,114]) .nil))))))) (.cons (.lst (.cons (.str [97,108,110,117,109]) (.cons (.str [97,108,112,104,97]) (.cons (.str [103,114,97,112,104]) (.cons (.str [112,114,105,110,116]) (.cons (.str [119,111,114,100,99,104,97,114]) .nil)))))) (.cons (.lst (.cons (.str [97,108,110,117,109]) (.cons (.str [97,108,112,104,97]) (.cons (.str [103,114,97,112,104]) (.cons (.str [117,112,112,101,114]) (.cons (.str [112,114,105,110,116]) (.cons (.str [119,111,114,100,99,104,97,114]) .nil))))))) (.cons (.lst (.cons (.str [103,114,97,112,104]) (.cons (.str [112,114,105,110,116]) .nil))) (.cons (.lst (.cons (.str [103,114,97,112,104]) (.cons (.str [112,114,105,110,116]) .nil))) (.cons (.lst (.cons (.str [112,114,105,110,116]) (.cons (.str [115,112,97,99,101]) .nil))) (.cons (.lst (.cons (.str [99,111,110,116,114,111,108]) (.cons (.str [115,112,97,99,101]) .nil))) (.cons (.lst (.cons (.str [99,111,110,116,114,111,108]) .nil)) (.cons (.lst (.cons (.str [99,111,110,116,114,111,108]) .nil)) (.cons (.lst (.cons (.str [99,111,110,116,114,111,108]) .nil)) (.cons (.lst (.cons (.str [103,114,97,112,104]) (.cons (.str [112,114,105,110,116]) (.cons (.str [112,117,110,99,116]) .nil)))) (.cons (.lst (.cons (.str [103,114,97,112,104]) (.cons (.str [112,114,105,110,116]) (.cons (.str [112,117,110,99,116]) (.cons (.str [119,111,114,100,99,104,97,114]) .nil))))) .nil)))))))))))))
 (.cons (.ite (.din (.var 1) 2) (.cons (.ret (.cmp .In (.var 0) (.dget 2 (.var 1))))
 .nil) .nil)
 (.cons (.tup2 3 4 (.tup (.cons (.str [97,98,99,100,101,102,103,104,105,106,107,108,109,110,111,112,113,114,115,116,117,118,119,120,121,122]) (.cons (.str [48,49,50,51,52,53,54,55,56,57]) .nil))))
 (.cons (.assign 5 (.str [65,66,67,68,69,70,71,72,73,74,75,76,77,78,79,80,81,82,83,84,85,86,87,88,89,90]))
 (.cons (.dnew 6 [[100,105,103,105,116],[108,111,119,101,114],[117,112,112,101,114],[97,108,112,104,97],[97,108,110,117,109],[120,100,105,103,105,116],[119,111,114,100,99,104,97,114],[115,112,97,99,101],[99,111,110,116,114,111,108],[112,117,110,99,116]] (.cons (.var 4) (.cons (.var 3) (.cons (.var 5) (.cons (.bin .Add (.var 3) (.var 5)) (.cons (.bin .Add (.bin .Add (.var 3) (.var 5)) (.var 4)) (.cons (.bin .Add (.var 4) (.str [97,98,99,100,101,102,65,66,67,68,69,70])) (.cons (.bin .Add (.bin .Add (.bin .Add (.var 3) (.var 5)) (.var 4)) (.str [95])) (.cons (.str [32,9,10]) (.cons (.str [9,10,0,127]) (.cons (.str [95,45,123,125,34,92]) .nil)))))))))))
 (.cons (.ite (.din (.var 0) 6) (.cons (.ret (.cmp .In (.var 1) (.dget 6 (.var 0))))
 .nil) .nil)
 (.cons (.ret (.bop .Or (.cmp .Eq (.var 0) (.str [97,115,99,105,105])) (.bop .And (.cmp .NotIn (.var 1) (.dget 6 (.str [99,111,110,116,114,111,108]))) (.bop .Or (.cmp .Eq (.var 0) (.str [112,114,105,110,116])) (.cmp .NotEq (.var 1) (.str [32]))))))
 .nil)))))))⟩
noncomputable def zm:FI:=⟨⟨["text","blanks","body","bases","base","value","weights","c"],[],[3],[],none,["len"]⟩,["text"],["blanks","body","bases","base","value","weights","c"],
 (.cons (.assign 1 (.str [32,9,10,11,12,13]))
 (.cons (.whl (.bop .And (.cmp .NotEq (.slc (.var 0) .nopart (.int 1)) (.str [])) (.cmp .In (.slc (.var 0) .nopart (.int 1)) (.var 1))) (.cons (.assign 0 (.slc (.var 0) (.int 1) .nopart))
 .nil))
 (.cons (.whl (.bop .And (.cmp .NotEq (.slc (.var 0) (.neg (.int 1)) .nopart) (.str [])) (.cmp .In (.slc (.var 0) (.neg (.int 1)) .nopart) (.var 1))) (.cons (.assign 0 (.slc (.var 0) .nopart (.neg (.int 1))))
 .nil))
 (.cons (.assign 2 (.ite (.cmp .In (.slc (.var 0) .nopart (.int 1)) (.lst (.cons (.str [43]) (.cons (.str [45]) .nil)))) (.slc (.var 0) (.int 1) .nopart) (.var 0)))
 (.cons (.dnew 3 [[120],[111],[98],[100]] (.cons (.int 16) (.cons (.int 8) (.cons (.int 2) (.cons (.int 10) .nil)))))
 (.cons (.assign 4 (.int 10))
 (.cons (.ite (.bop .And (.cmp .Gt (.bi .len (.cons (.var 2) .nil)) (.int 2)) (.bop .And (.cmp .Eq (.sub (.var 2) (.int 0)) (.str [48])) (.din (.m0 .lower (.sub (.var 2) (.int 1))) 3))) (.cons (.assign 4 (.dget 3 (.m0 .lower (.sub (.var 2) (.int 1)))))
 (.cons (.assign 2 (.slc (.var 2) (.int 2) .nopart))
 .nil)) .nil)
 (.cons (.tup2 5 6 (.tup (.cons (.int 0) (.cons (.slc (.str [48,49,50,51,52,53,54,55,56,57,97,98,99,100,101,102]) .nopart (.var 4)) .nil))))
 (.cons (.for_ 7 (.var 2) (.cons (.ite (.cmp .NotIn (.m0 .lower (.var 7)) (.var 6)) (.cons (.ret .none)
 .nil) .nil)
 (.cons (.assign 5 (.bin .Add (.bin .Mult (.var 5) (.var 4)) (.m1 .index (.var 6) (.m0 .lower (.var 7)))))
 .nil)))
 (.cons (.ite (.cmp .Eq (.var 2) (.str [])) (.cons (.ret .none)
 .nil) .nil)
 (.cons (.ret (.ite (.cmp .Eq (.sub (.var 0) (.int 0)) (.str [45])) (.neg (.var 5)) (.var 5)))
 .nil)))))))))))⟩
noncomputable def zi:FI:=⟨⟨["text","at"],[],[],[],none,[]⟩,["text","at"],[],
 (.cons (.aug 1 .Add (.int 2))
 (.cons (.ite (.cmp .Eq (.slc (.var 0) (.bin .Sub (.var 1) (.int 1)) (.var 1)) (.str [10])) (.cons (.whl (.cmp .In (.slc (.var 0) (.var 1) (.bin .Add (.var 1) (.int 1))) (.lst (.cons (.str [32]) (.cons (.str [9]) .nil)))) (.cons (.aug 1 .Add (.int 1))
 .nil))
 .nil) .nil)
 (.cons (.ret (.var 1))
 .nil)))⟩
noncomputable def sW:FI:=⟨⟨["text","at","opened","depth"],[],[],[],none,["len","_law_behind"]⟩,["text","at"],["opened","depth"],
 (.cons (.assign 2 (.sub (.var 0) (.var 1)))
 (.cons (.ite (.bop .And (.cmp .NotEq (.var 2) (.str [123])) (.cmp .NotEq (.var 2) (.str [34]))) (.cons (.whl (.bop .And (.cmp .Lt (.var 1) (.bi .len (.cons (.var 0) .nil))) (.cmp .NotIn (.sub (.var 0) (.var 1)) (.str [32,9,10]))) (.cons (.assign 1 (.ite (.cmp .Eq (.sub (.var 0) (.var 1)) (.str [92])) (.call 71 (.cons (.var 0) (.cons (.var 1) .nil))) (.bin .Add (.var 1) (.int 1))))
 .nil))
 (.cons (.ret (.var 1))
 .nil)) .nil)
 (.cons (.assign 3 (.int 1))
 (.cons (.aug 1 .Add (.int 1))
 (.cons (.whl (.bop .And (.cmp .Lt (.var 1) (.bi .len (.cons (.var 0) .nil))) (.cmp .Gt (.var 3) (.int 0))) (.cons (.ite (.cmp .Eq (.sub (.var 0) (.var 1)) (.str [92])) (.cons (.aug 1 .Add (.int 1))
 .nil) (.cons (.ite (.bop .And (.cmp .Eq (.var 2) (.str [123])) (.cmp .Eq (.sub (.var 0) (.var 1)) (.str [123]))) (.cons (.aug 3 .Add (.int 1))
 .nil) (.cons (.ite (.cmp .Eq (.sub (.var 0) (.var 1)) (.ite (.cmp .Eq (.var 2) (.str [123])) (.str [125]) (.str [34]))) (.cons (.aug 3 .Sub (.int 1))
 .nil) .nil)
 .nil))
 .nil))
 (.cons (.aug 1 .Add (.int 1))
 .nil)))
 (.cons (.ite (.bop .Or (.cmp .Gt (.var 3) (.int 0)) (.cmp .NotIn (.slc (.var 0) (.var 1) (.bin .Add (.var 1) (.int 1))) (.lst (.cons (.str []) (.cons (.str [32]) (.cons (.str [9]) (.cons (.str [10]) .nil))))))) (.cons (.ret (.neg (.int 1)))
 .nil) .nil)
 (.cons (.ret (.var 1))
 .nil)))))))⟩
noncomputable def zg:FI:=⟨⟨["text","at","behind"],[],[],[],none,["len","_law_element"]⟩,["text"],["at","behind"],
 (.cons (.assign 1 (.int 0))
 (.cons (.whl (.bool true) (.cons (.whl (.cmp .In (.slc (.var 0) (.var 1) (.bin .Add (.var 1) (.int 1))) (.lst (.cons (.str [32]) (.cons (.str [9]) (.cons (.str [10]) .nil))))) (.cons (.aug 1 .Add (.int 1))
 .nil))
 (.cons (.ite (.cmp .GtE (.var 1) (.bi .len (.cons (.var 0) .nil))) (.cons (.ret (.tup (.cons (.bool true) (.cons (.neg (.int 1)) .nil))))
 .nil) .nil)
 (.cons (.assign 2 (.call 72 (.cons (.var 0) (.cons (.var 1) .nil))))
 (.cons (.ite (.cmp .Lt (.var 2) (.int 0)) (.cons (.ret (.tup (.cons (.bool false) (.cons (.var 1) .nil))))
 .nil) .nil)
 (.cons (.assign 1 (.var 2))
 .nil))))))
 .nil))⟩
noncomputable def zd:FI:=⟨⟨["name","why"],[],[],[],none,[]⟩,["name"],["why"],
 (.cons (.assign 1 (.bin .Add (.bin .Add (.str [119,114,111,110,103,32,35,32,97,114,103,115,58,32,115,104,111,117,108,100,32,98,101,32,34,115,116,114,105,110,103,32,105,115,32]) (.var 0)) (.str [32,63,45,115,116,114,105,99,116,63,32,63,45,102,97,105,108,105,110,100,101,120,32,118,97,114,63,32,115,116,114,34])))
 (.cons (.ret (.tup (.cons (.str [114,97,105,115,101,100]) (.cons (.int 1) (.cons (.var 1) (.cons (.tup (.cons (.str [84,67,76]) (.cons (.str [87,82,79,78,71,65,82,71,83]) .nil))) .nil))))))
 .nil))⟩
noncomputable def zb:FI:=⟨⟨["got","options","text","name","fault","is_strict","place","at","option","is_so","index"],[],[],[],none,["len","_law_usage","_law_meant","_law_names","_law_is"]⟩,["got","options","text"],["name","fault","is_strict","place","at","option","is_so","index"],
 (.cons (.ite (.cmp .Gt (.bi .len (.cons (.var 1) .nil)) (.int 3)) (.cons (.ret (.tup (.cons (.call 76 (.cons (.str [99,108,97,115,115]) .nil)) (.cons (.str []) (.cons (.neg (.int 1)) .nil)))))
 .nil) .nil)
 (.cons (.tup2 3 4 (.call 75 (.cons (.str [99,108,97,115,115]) (.cons (.var 0) (.cons (.call 61 .nil) .nil)))))
 (.cons (.tup3 5 6 7 (.tup (.cons (.bool false) (.cons (.str []) (.cons (.int 0) .nil)))))
 (.cons (.whl (.bop .And (.cmp .Eq (.var 4) (.tup .nil)) (.cmp .Lt (.var 7) (.bi .len (.cons (.var 1) .nil)))) (.cons (.tup2 8 4 (.call 75 (.cons (.str [111,112,116,105,111,110]) (.cons (.sub (.var 1) (.var 7)) (.cons (.lst (.cons (.str [45,115,116,114,105,99,116]) (.cons (.str [45,102,97,105,108,105,110,100,101,120]) .nil))) .nil)))))
 (.cons (.ite (.cmp .Eq (.var 8) (.str [45,115,116,114,105,99,116])) (.cons (.assign 5 (.bool true))
 .nil) (.cons (.ite (.cmp .Eq (.var 8) (.str [45,102,97,105,108,105,110,100,101,120])) (.cons (.aug 7 .Add (.int 1))
 (.cons (.ite (.cmp .Lt (.var 7) (.bi .len (.cons (.var 1) .nil))) (.cons (.assign 6 (.sub (.var 1) (.var 7)))
 .nil) (.cons (.assign 4 (.call 76 (.cons (.var 3) .nil)))
 .nil))
 .nil)) .nil)
 .nil))
 (.cons (.aug 7 .Add (.int 1))
 .nil))))
 (.cons (.ite (.cmp .NotEq (.var 4) (.tup .nil)) (.cons (.ret (.tup (.cons (.var 4) (.cons (.str []) (.cons (.neg (.int 1)) .nil)))))
 .nil) .nil)
 (.cons (.tup2 9 10 (.call 74 (.cons (.var 3) (.cons (.var 2) .nil))))
 (.cons (.ite (.bop .And (.var 5) (.bop .And (.cmp .Eq (.var 2) (.str [])) (.cmp .NotEq (.var 3) (.str [108,105,115,116])))) (.cons (.tup2 9 10 (.tup (.cons (.bool false) (.cons (.int 0) .nil))))
 .nil) .nil)
 (.cons (.ret (.tup (.cons (.tup (.cons (.str [103,97,118,101]) (.cons (.ite (.var 9) (.str [49]) (.str [48])) .nil))) (.cons (.ite (.var 9) (.str []) (.var 6)) (.cons (.var 10) .nil)))))
 .nil))))))))⟩
noncomputable def nb:FI:=⟨⟨["row","first","pen","sort","text","number","name","lost","got","options","stands","asked","other","signs","place","c"],[],[],[],none,["_law_turned","_law_signs","_law_draw","_law_names","len","_law_options","is_class","_law_is","sign_fits","_law_member","_law_command_right"]⟩,["row","first","pen"],["sort","text","number","name","lost","got","options","stands","asked","other","signs","place","c"],
 (.cons (.assign 3 (.sub (.var 0) (.int 0)))
 (.cons (.assign 4 (.call 66 (.cons (.sub (.var 0) (.int 1)) (.cons (.sub (.lst (.cons (.int 6) (.cons (.int 20) (.cons (.int 5) (.cons (.int 9) .nil))))) (.var 3)) (.cons (.call 62 (.cons (.var 3) .nil)) (.cons (.var 2) .nil))))))
 (.cons (.assign 5 (.bin .Mod (.bin .Add (.sub (.var 0) (.int 2)) (.call 65 (.cons (.var 2) (.cons (.int 20) .nil)))) (.int 20)))
 (.cons (.assign 6 (.sub (.call 61 .nil) (.var 5)))
 (.cons (.assign 7 (.bin .Mod (.bin .Add (.sub (.var 0) (.int 3)) (.call 65 (.cons (.var 2) (.cons (.int 8) .nil)))) (.int 8)))
 (.cons (.assign 8 (.ite (.cmp .Lt (.var 7) (.int 7)) (.slc (.var 6) .nopart (.bin .Sub (.bi .len (.cons (.var 6) .nil)) (.var 7))) (.bin .Add (.var 6) (.str [115]))))
 (.cons (.assign 9 (.call 64 (.cons (.bin .Mod (.bin .Add (.sub (.var 0) (.int 4)) (.call 65 (.cons (.var 2) (.cons (.int 14) .nil)))) (.int 14)) .nil)))
 (.cons (.assign 10 (.cmp .Eq (.bin .Mod (.bin .Add (.sub (.var 0) (.int 5)) (.call 65 (.cons (.var 2) (.cons (.int 2) .nil)))) (.int 2)) (.int 1)))
 (.cons (.assign 11 (.bin .Add (.sub (.lst (.cons (.lst (.cons (.bin .Mod (.bin .Add (.var 5) (.int 3)) (.int 20)) (.cons (.bin .Mod (.bin .Add (.var 5) (.int 7)) (.int 20)) (.cons (.bin .Mod (.bin .Add (.var 5) (.int 13)) (.int 20)) .nil)))) (.cons (.lst (.cons (.int 9) (.cons (.int 17) (.cons (.int 5) .nil)))) (.cons (.lst (.cons (.int 4) (.cons (.int 7) (.cons (.int 15) .nil)))) (.cons (.lst (.cons (.int 10) (.cons (.int 13) .nil))) .nil))))) (.var 3)) (.lst (.cons (.var 5) .nil))))
 (.cons (.for_ 12 (.var 11) (.cons (.ite (.cmp .NotEq (.call 47 (.cons (.sub (.call 61 .nil) (.var 12)) (.cons (.var 4) .nil))) (.call 74 (.cons (.sub (.call 61 .nil) (.var 12)) (.cons (.var 4) .nil)))) (.cons (.ret (.bool false))
 .nil) .nil)
 .nil))
 (.cons (.assign 13 (.call 62 (.cons (.int 0) .nil)))
 (.cons (.for_ 14 (.lst (.cons (.var 1) (.cons (.bin .Add (.var 1) (.int 14)) (.cons (.bin .Add (.var 1) (.int 28)) .nil)))) (.cons (.assign 15 (.sub (.var 13) (.bin .Mod (.bin .Add (.var 14) (.call 65 (.cons (.var 2) (.cons (.int 30) .nil)))) (.int 30))))
 (.cons (.for_ 12 (.lst (.cons (.int 0) (.cons (.int 1) (.cons (.int 2) (.cons (.int 3) (.cons (.int 5) (.cons (.int 8) (.cons (.int 11) (.cons (.int 12) (.cons (.int 13) (.cons (.int 14) (.cons (.int 16) (.cons (.int 18) (.cons (.int 19) .nil)))))))))))))) (.cons (.ite (.cmp .NotEq (.call 43 (.cons (.sub (.call 61 .nil) (.var 12)) (.cons (.var 15) .nil))) (.call 67 (.cons (.sub (.call 61 .nil) (.var 12)) (.cons (.var 15) .nil)))) (.cons (.ret (.bool false))
 .nil) .nil)
 .nil))
 .nil)))
 (.cons (.ret (.call 79 (.cons (.var 8) (.cons (.var 9) (.cons (.var 4) (.cons (.var 10) .nil))))))
 .nil)))))))))))))⟩
theorem JW:FnIR 10 "listing" zU:=.of (by kernel_rfl) (by decide +kernel) (by kernel_rfl)
theorem JV:FnIR 11 "pick" zT:=.of (by kernel_rfl) (by decide +kernel) (by kernel_rfl)
theorem JU:FnIR 17 "is_blank" GA:=.of (by kernel_rfl) (by decide +kernel) (by kernel_rfl)
theorem JT:FnIR 18 "digit" Gz:=.of (by kernel_rfl) (by decide +kernel) (by kernel_rfl)
theorem JS:FnIR 19 "digits_value" zS:=.of (by kernel_rfl) (by decide +kernel) (by kernel_rfl)
theorem JR:FnIR 20 "base_of" Gy:=.of (by kernel_rfl) (by decide +kernel) (by kernel_rfl)
theorem JQ:FnIR 21 "whole_of" zR:=.of (by kernel_rfl) (by decide +kernel) (by kernel_rfl)
theorem JP:FnIR 22 "bool_of" zQ:=.of (by kernel_rfl) (by decide +kernel) (by kernel_rfl)
theorem JO:FnIR 23 "text_of" zP:=.of (by kernel_rfl) (by decide +kernel) (by kernel_rfl)
theorem JN:FnIR 24 "wide" zO:=.of (by kernel_rfl) (by decide +kernel) (by kernel_rfl)
theorem JM:FnIR 26 "hex_sign" zN:=.of (by kernel_rfl) (by decide +kernel) (by kernel_rfl)
theorem JL:FnIR 27 "octal_sign" zM:=.of (by kernel_rfl) (by decide +kernel) (by kernel_rfl)
theorem JK:FnIR 28 "backslash" zL:=.of (by kernel_rfl) (by decide +kernel) (by kernel_rfl)
theorem JJ:FnIR 30 "check_behind" zK:=.of (by kernel_rfl) (by decide +kernel) (by kernel_rfl)
theorem JI:FnIR 31 "braced_element" zJ:=.of (by kernel_rfl) (by decide +kernel) (by kernel_rfl)
theorem JH:FnIR 32 "quoted_element" zI:=.of (by kernel_rfl) (by decide +kernel) (by kernel_rfl)
theorem JG:FnIR 33 "bare_element" zH:=.of (by kernel_rfl) (by decide +kernel) (by kernel_rfl)
theorem JF:FnIR 34 "find_element" zE:=.of (by kernel_rfl) (by decide +kernel) (by kernel_rfl)
theorem JE:FnIR 36 "default_trim" Gw:=.of (by kernel_rfl) (by decide +kernel) (by kernel_rfl)
theorem JD:FnIR 37 "class_names" zD:=.of (by kernel_rfl) (by decide +kernel) (by kernel_rfl)
theorem JC:FnIR 38 "is_letter" Gv:=.of (by kernel_rfl) (by decide +kernel) (by kernel_rfl)
theorem JB:FnIR 39 "is_word_sign" Gu:=.of (by kernel_rfl) (by decide +kernel) (by kernel_rfl)
theorem JA:FnIR 40 "is_space" Gs:=.of (by kernel_rfl) (by decide +kernel) (by kernel_rfl)
theorem Jz:FnIR 41 "is_control" Gr:=.of (by kernel_rfl) (by decide +kernel) (by kernel_rfl)
theorem Jy:FnIR 42 "is_punct" Gq:=.of (by kernel_rfl) (by decide +kernel) (by kernel_rfl)
theorem Jx:FnIR 43 "sign_fits" Gp:=.of (by kernel_rfl) (by decide +kernel) (by kernel_rfl)
theorem Jw:FnIR 44 "truth_class" zy:=.of (by kernel_rfl) (by decide +kernel) (by kernel_rfl)
theorem Jv:FnIR 45 "whole_class" zx:=.of (by kernel_rfl) (by decide +kernel) (by kernel_rfl)
theorem Ju:FnIR 46 "list_class" zw:=.of (by kernel_rfl) (by decide +kernel) (by kernel_rfl)
theorem Jt:FnIR 47 "is_class" zu:=.of (by kernel_rfl) (by decide +kernel) (by kernel_rfl)
theorem Js:FnIR 59 "string_is" vQ:=.of (by kernel_rfl) (by decide +kernel) (by kernel_rfl)
theorem Jr:FnIR 61 "_law_names" zt:=.of (by kernel_rfl) (by decide +kernel) (by kernel_rfl)
theorem Jq:FnIR 62 "_law_signs" zr:=.of (by kernel_rfl) (by decide +kernel) (by kernel_rfl)
theorem Jp:FnIR 63 "_law_rows" zq:=.of (by kernel_rfl) (by decide +kernel) (by kernel_rfl)
theorem Jo:FnIR 64 "_law_options" zp:=.of (by kernel_rfl) (by decide +kernel) (by kernel_rfl)
theorem Jn:FnIR 66 "_law_turned" zo:=.of (by kernel_rfl) (by decide +kernel) (by kernel_rfl)
theorem Jm:FnIR 67 "_law_member" zn:=.of (by kernel_rfl) (by decide +kernel) (by kernel_rfl)
theorem Jl:FnIR 68 "_law_whole" zm:=.of (by kernel_rfl) (by decide +kernel) (by kernel_rfl)
theorem Jj:FnIR 71 "_law_behind" zi:=.of (by kernel_rfl) (by decide +kernel) (by kernel_rfl)
theorem Ji:FnIR 72 "_law_element" sW:=.of (by kernel_rfl) (by decide +kernel) (by kernel_rfl)
theorem Jh:FnIR 73 "_law_list" zg:=.of (by kernel_rfl) (by decide +kernel) (by kernel_rfl)
theorem Je:FnIR 76 "_law_usage" zd:=.of (by kernel_rfl) (by decide +kernel) (by kernel_rfl)
theorem Jd:FnIR 77 "_law_due" zb:=.of (by kernel_rfl) (by decide +kernel) (by kernel_rfl)
theorem Jc:FnIR 80 "_law_row_right" nb:=.of (by kernel_rfl) (by decide +kernel) (by kernel_rfl)
noncomputable def zj:FI:=⟨⟨["name","value","far"],[],[],["text"],none,["_law_whole","range","len","max"]⟩,["name","text"],["value","far"],
 (.cons (.assign 1 (.call 68 (.cons (.cvar 0) .nil)))
 (.cons (.ite (.cmp .IsNot (.var 1) .none) (.cons (.ret (.tup (.cons (.bop .Or (.cmp .NotEq (.var 0) (.str [119,105,100,101,105,110,116,101,103,101,114])) (.cmp2 .LtE .Lt (.neg (.bin .Pow (.int 2) (.int 63))) (.var 1) (.bin .Pow (.int 2) (.int 63)))) (.cons (.neg (.int 1)) .nil))))
 .nil) .nil)
 (.cons (.lcomp 2 (.bi .range (.cons (.int 1) (.cons (.bi .len (.cons (.cvar 0) .nil)) .nil))) (.cmp .IsNot (.call 68 (.cons (.slc (.cvar 0) .nopart .tvar) .nil)) .none) .tvar)
 (.cons (.ret (.tup (.cons (.bool false) (.cons (.bi .max (.cons (.bin .Add (.lst (.cons (.int 0) .nil)) (.var 2)) .nil)) .nil))))
 .nil))))⟩
theorem Jk:FnIRC 69 "_law_number" zj:=.of (by kernel_rfl) (by decide +kernel) (by kernel_rfl)
noncomputable def zf:FI:=⟨⟨["wrong"],[],[],["name","text"],none,["_law_list","_law_truth","_law_number","range","len"]⟩,["name","text"],["wrong"],
 (.cons (.ite (.cmp .Eq (.cvar 0) (.str [108,105,115,116])) (.cons (.ret (.call 73 (.cons (.cvar 1) .nil)))
 .nil) .nil)
 (.cons (.ite (.cmp .Eq (.cvar 1) (.str [])) (.cons (.ret (.tup (.cons (.bool true) (.cons (.neg (.int 1)) .nil))))
 .nil) .nil)
 (.cons (.ite (.cmp .In (.cvar 0) (.lst (.cons (.str [98,111,111,108,101,97,110]) (.cons (.str [116,114,117,101]) (.cons (.str [102,97,108,115,101]) .nil))))) (.cons (.ret (.call 70 (.cons (.cvar 0) (.cons (.cvar 1) .nil))))
 .nil) .nil)
 (.cons (.ite (.cmp .In (.cvar 0) (.lst (.cons (.str [101,110,116,105,101,114]) (.cons (.str [105,110,116,101,103,101,114]) (.cons (.str [119,105,100,101,105,110,116,101,103,101,114]) .nil))))) (.cons (.ret (.call 69 (.cons (.cvar 0) (.cons (.cvar 1) .nil))))
 .nil) .nil)
 (.cons (.lcomp 0 (.bi .range (.cons (.bi .len (.cons (.cvar 1) .nil)) .nil)) (.not (.call 67 (.cons (.cvar 0) (.cons (.sub (.cvar 1) .tvar) .nil)))) .tvar)
 (.cons (.ret (.tup (.cons (.cmp .Eq (.var 0) (.lst .nil)) (.cons (.sub (.bin .Add (.var 0) (.lst (.cons (.neg (.int 1)) .nil))) (.int 0)) .nil))))
 .nil))))))⟩
theorem Jg:FnIRC 74 "_law_is" zf:=.of (by kernel_rfl) (by decide +kernel) (by kernel_rfl)
noncomputable def ze:FI:=⟨⟨["what","names","begun","every","why"],[],[],["got"],none,["len"]⟩,["what","got","names"],["begun","every","why"],
 (.cons (.lcomp 2 (.var 1) (.bop .And (.cmp .NotEq (.cvar 0) (.str [])) (.cmp .Eq (.slc .tvar .nopart (.bi .len (.cons (.cvar 0) .nil))) (.cvar 0))) .tvar)
 (.cons (.ite (.bop .Or (.cmp .In (.cvar 0) (.var 1)) (.cmp .Eq (.bi .len (.cons (.var 2) .nil)) (.int 1))) (.cons (.ret (.tup (.cons (.ite (.cmp .In (.cvar 0) (.var 1)) (.cvar 0) (.sub (.var 2) (.int 0))) (.cons (.tup .nil) .nil))))
 .nil) .nil)
 (.cons (.assign 3 (.ite (.cmp .Eq (.bi .len (.cons (.var 1) .nil)) (.int 2)) (.join [32,111,114,32] (.var 1)) (.bin .Add (.bin .Add (.join [44,32] (.slc (.var 1) .nopart (.neg (.int 1)))) (.str [44,32,111,114,32])) (.sub (.var 1) (.neg (.int 1))))))
 (.cons (.assign 4 (.bin .Add (.bin .Add (.bin .Add (.bin .Add (.bin .Add (.ite (.cmp .Eq (.var 2) (.lst .nil)) (.str [98,97,100,32]) (.str [97,109,98,105,103,117,111,117,115,32])) (.var 0)) (.str [32,34])) (.cvar 0)) (.str [34,58,32,109,117,115,116,32,98,101,32])) (.var 3)))
 (.cons (.ret (.tup (.cons (.str []) (.cons (.tup (.cons (.str [114,97,105,115,101,100]) (.cons (.int 1) (.cons (.var 4) (.cons (.tup (.cons (.str [84,67,76]) (.cons (.str [76,79,79,75,85,80]) (.cons (.str [73,78,68,69,88]) (.cons (.var 0) (.cons (.cvar 0) .nil)))))) .nil))))) .nil))))
 .nil)))))⟩
theorem Jf:FnIRC 75 "_law_meant" ze:=.of (by kernel_rfl) (by decide +kernel) (by kernel_rfl)
noncomputable def Sg:LA:=[0,9,10,32,34,36,43,45,48,49,55,57,66,70,71,79,84,88,92,95,97,98,100,101,102,108,110,111,114,115,116,117,120,121,122,123,125,127,160,173,178,233,304,8203,8212,8255,8364,20013,57344,983040]
noncomputable def nms:List (LA):=[[97,108,110,117,109],[97,108,112,104,97],[97,115,99,105,105],[99,111,110,116,114,111,108],[98,111,111,108,101,97,110],[100,105,103,105,116],[101,110,116,105,101,114],[102,97,108,115,101],[103,114,97,112,104],[105,110,116,101,103,101,114],[108,105,115,116],[108,111,119,101,114],[112,114,105,110,116],[112,117,110,99,116],[115,112,97,99,101],[116,114,117,101],[117,112,112,101,114],[119,105,100,101,105,110,116,101,103,101,114],[119,111,114,100,99,104,97,114],[120,100,105,103,105,116]]
noncomputable def nm (i:Nat):LA:=nms.getD i []
structure Tx (t:LA):Prop where
 sg:∀c∈t,c∈Sg
 len:t.length≤40
noncomputable def cm (n:Nat):LA:=if 65≤n∧n≤90 then [n+32] else if n=304 then [105,775] else [n]
noncomputable def bb (t:LA):LA:=t.flatMap cm
noncomputable def aJ (b:Bool) (i:Int):PV:=.tup [.bool b,.int i]
noncomputable def WT:List (LA):=[[49],[111,110],[116],[116,114],[116,114,117],[116,114,117,101],[121],[121,101],[121,101,115]]
noncomputable def WF:List (LA):=[[48],[111,102],[111,102,102],[102],[102,97],[102,97,108],[102,97,108,115],[102,97,108,115,101],[110],[110,111]]
noncomputable def cG (name t:LA):PV:=if (bb t∈WT∧name≠nm 7)∨(bb t∈WF∧name≠nm 15) then aJ true (-1) else aJ false 0
noncomputable def on2 {α:Type} (l:LB) (f:PV→PV→Rs α):Rs α:=match l with
 | [a,b]=>f a b
 | _=>.fail
noncomputable def on4 {α:Type} (l:LB) (f:PV→PV→PV→PV→Rs α):Rs α:=match l with
 | [a,b,c,d]=>f a b c d
 | _=>.fail
noncomputable def xi {α:Type} (v:PV) (f:Addr→Rs α):Rs α:=match v with
 | .ref a=>f a
 | _=>.fail
noncomputable def sd {α:Type} (v:PV) (f:List (LA)→Rs α):Rs α:=match v with
 | .lst l=>(aV l).elim .fail f
 | _=>.fail
noncomputable def onB {α:Type} (v:PV) (r:Rs α):Rs α:=match v with
 | .bool _=>r
 | _=>.fail
theorem jZ {α:Type} {l:LB} {f:PV→PV→Rs α} {Q:α→Wd→Prop} {R:LJ} (h:sat (on2 l f) Q R):∃a b,l=[a,b]∧sat (f a b) Q R:=by
 cases l with
 | nil=>exact h.elim
 | cons a l=>cases l with
  | nil=>exact h.elim
  | cons b l=>cases l with
   | nil=>exact (v22 a b rfl h)
   | cons=>exact h.elim
theorem vt {α:Type} {l:LB} {f:PV→PV→PV→PV→Rs α} {Q:α→Wd→Prop} {R:LJ} (h:sat (on4 l f) Q R):∃a b c d,l=[a,b,c,d]∧sat (f a b c d) Q R:=by
 cases l with
 | nil=>exact h.elim
 | cons a l=>cases l with
  | nil=>exact h.elim
  | cons b l=>cases l with
   | nil=>exact h.elim
   | cons c l=>cases l with
    | nil=>exact h.elim
    | cons d l=>cases l with
     | nil=>exact ⟨a,b,c,d,rfl,h⟩
     | cons=>exact h.elim
theorem pN {α:Type} {v:PV} {f:Addr→Rs α} {Q:α→Wd→Prop} {R:LJ} (h:sat (xi v f) Q R):∃a,v=.ref a∧sat (f a) Q R:=by
 cases v<;>first|exact h.elim|exact (v12 _ rfl h)
theorem vr {α:Type} {v:PV} {r:Rs α} {Q:α→Wd→Prop} {R:LJ} (h:sat (onB v r) Q R):∃b,v=.bool b∧sat r Q R:=by
 cases v<;>first|exact h.elim|exact (v12 _ rfl h)
theorem uh:∀{os:LB} {opts:List (LA)},aV os=some opts→os=opts.map .str:=by
 intro os
 induction os with
 | nil=>intro opts h;injection h with h;subst h;rfl
 | cons v os ih=>
  intro opts ho;cases v<;>first|(injection ho;done)|skip
  refine u12 (Ms.mp ho) ?_;rintro r hr e;subst e;exact Mu▸(ih hr)▸rfl
theorem mx {α:Type} {v:PV} {f:List (LA)→Rs α} {Q:α→Wd→Prop} {R:LJ} (h:sat (sd v f) Q R):∃l,v=.lst (l.map .str)∧sat (f l) Q R:=by
 cases v<;>first|exact h.elim|skip
 rename_i l;have h:sat ((aV l).elim .fail f) Q R:=h;cases e:aV l with
 | none=>replace h:=e▸h;exact h.elim
 | some ys=>replace h:=e▸h;exact (v12 ys (congrArg _ (uh e)) h)
noncomputable def tl:LB→Wd→Rs PV:=fun args w=>on2 args fun x y=>xi x fun a=>on y fun m=>match w.pen with
 | some (b,i)=>if a=b∧0<m∧m<1000 then .ok (.int (i.fmod m)) { w with pen:=some (b,i.fdiv m) } else .fail
 | none=>.fail
open Classical in
noncomputable def ml:LB→Wd→Rs PV:=fun args w=>on2 args fun x y=>cY x fun n=>cY y fun t=>if Tx t then .ok (cG n t) w else .fail
noncomputable def bE (x:XC):PV:=.tup [.str [114,97,105,115,101,100],.int x.code,.str x.value,x.ec]
noncomputable def sR (v:PV):PV:=.tup [.str [103,97,118,101],v]
noncomputable def mZ:Rs PV→Rs PV
 | .ok v w=>.ok (sR v) w
 | .exc x w=>.ok (bE x) w
 | .fail=>.fail
noncomputable def mY (call:ax):LB→Wd→Rs PV:=fun args w=>on2 args fun h ws=>mZ (call 59 [h,ws] w)
structure Cmd (got:LA) (opts:List (LA)) (t:LA):Prop where
 hg:got.length≤100
 ho:opts.length≤100
 hs:∀o∈opts,o.length≤100
 tx:Tx t
open Classical in
noncomputable def tF (got:LA) (opts:List (LA)) (t:LA) (w:Wd):Rs PV:=if Cmd got opts t∧w.host=none then .ok (.bool true) w else .fail
theorem tD {got:LA} {opts:List (LA)} {t:LA} {w:Wd} (h:Cmd got opts t) (hw:w.host=none):tF got opts t w=.ok (.bool true) w:=if_pos ⟨h,hw⟩
theorem tE {got:LA} {opts:List (LA)} {t:LA} {w:Wd} {Q:LL} {R:LJ} (h:sat (tF got opts t w) Q R):(Cmd got opts t∧w.host=none)∧Q (.bool true) w:=by classical exact gy h
noncomputable def fu:LB→Wd→Rs PV:=fun args w=>on4 args fun a b c e=>cY a fun got=>sd b fun opts=>cY c fun t=>onB e (tF got opts t w)
inductive Fun where
 | ir (fi:FI)|irc (fi:FI)|prim (sem:ax→LB→Wd→Rs PV)|deep (sem:LB→Wd→Rs PV)|no
noncomputable def tab (n:Nat):Fun:=List.foldr (fun (p:Nat×Fun) r=>bif p.1.beq n then p.2 else r) .no [(10,.ir zU),(11,.ir zT),(17,.ir GA),(18,.ir Gz),(19,.ir zS),(20,.ir Gy),(21,.ir zR),(22,.ir zQ),(23,.ir zP),(24,.ir zO),(26,.ir zN),(27,.ir zM),(28,.ir zL),(30,.ir zK),(31,.ir zJ),(32,.ir zI),(33,.ir zH),(34,.ir zE),(36,.ir Gw),(37,.ir zD),(38,.ir Gv),(39,.ir Gu),(40,.ir Gs),(41,.ir Gr),(42,.ir Gq),(43,.ir Gp),(44,.ir zy),(45,.ir zx),(46,.ir zw),(47,.ir zu),(59,.ir vQ),(67,.ir zn),(68,.ir zm),(61,.ir zt),(62,.ir zr),(63,.ir zq),(64,.ir zp),(66,.ir zo),(71,.ir zi),(72,.ir sW),(73,.ir zg),(76,.ir zd),(77,.ir zb),(80,.ir nb),(69,.irc zj),(74,.irc zf),(75,.irc ze),(65,.prim fun _=>tl),(70,.prim fun _=>ml),(78,.prim mY),(79,.deep fu)]
noncomputable def ak:Nat→ax
 | 0,_,_,_=>.fail
 | d+1,f,args,w=>match tab f with
  | .ir fi=>fi.run (ak d) args w
  | .irc fi=>fi.runC (ak d) args w
  | .prim s=>s (ak d) args w
  | .deep s=>if 9≤d then s args w else .fail
  | .no=>.fail
theorem tN {d f:Nat} {args:LB} {w:Wd} {fi:FI} (h:tab f=.ir fi) (hl:args.length=fi.ps.length):ak (d+1) f args w=(exC (ak d) fi.body (fi.start args) w).bind fun p w=>match p.1 with
 | .ret v=>.ok v w
 | .next=>.ok .none w
 | _=>.fail:=by
 show (match tab f with|.ir fi=>fi.run (ak d) args w|.irc fi=>fi.runC (ak d) args w|.prim s=>s (ak d) args w|.deep s=>if 9≤d then s args w else .fail|.no=>.fail)=_;refine h▸?_;exact if_pos hl
theorem bV {α β:Type} (r:Rs α) (f:α→Wd→Rs β) (Q:β→Wd→Prop) (R:LJ):sat (r.bind f) Q R=sat r (fun a w=>sat (f a w) Q R) R:=by cases r<;>rfl
theorem df {α:Type} {r:Rs α} {X:α} {w:Wd} (h:sat r (fun v w'=>v=X∧w'=w) (fun _ _=>False)):r=.ok X w:=by
 cases r
 ·obtain ⟨rfl,rfl⟩:=h;rfl
 ·exact h.elim
 ·exact h.elim
theorem pW {test:IS→Wd→Rs Bool} {body:IS→Wd→Rs (AF×IS)} {Q:AF×IS→Wd→Prop} {R:LJ} (I:Nat→IS→Wd→Prop)
 (step:∀m is w,I m is w→sat (test is w) (fun b w=>if b then sat (body is w) (fun p w'=>match p.1 with
  | .next|.cont=>∃m',m'<m∧I m' p.2 w'
  | .brk=>Q (.next,p.2) w'
  | .ret v=>Q (.ret v,p.2) w') R else Q (.next,is) w) R):∀fuel m is w,m<fuel→I m is w→sat (eA test body fuel is w) Q R:=by
 intro fuel
 induction fuel with
 | zero=>exact fun _ _ _ h _=>absurd h (Qh _)
 | succ fuel ih=>
  intro m is w h hI;rw [oB,bV];refine ai (step m is w hI) (fun b w h'=>?_) fun _ _ h=>h;cases b with
  | false=>exact h'
  | true=>
   simp only [if_true] at h'⊢;rw [bV];refine ai h' (fun p w h''=>?_) fun _ _ h=>h;obtain ⟨f,is'⟩:=p;cases f with
   | next=>obtain ⟨m',hm,hI'⟩:=h'';exact ih m' is' w (Aw h hm) hI'
   | cont=>obtain ⟨m',hm,hI'⟩:=h'';exact ih m' is' w (Aw h hm) hI'
   | brk=>exact h''
   | ret v=>exact h''
theorem pX {k:Nat} {body:IS→Wd→Rs (AF×IS)} {Q:AF×IS→Wd→Prop} {R:LJ} (I:LB→IS→Wd→Prop)
 (nil:∀is w,I [] is w→Q (.next,is) w)
 (step:∀v l is w,I (v::l) is w→sat (Rs.of (is.put k v) w) (fun is' w=>sat (body is' w) (fun p w'=>match p.1 with
  | .next|.cont=>I l p.2 w'
  | .brk=>Q (.next,p.2) w'
  | .ret v=>Q (.ret v,p.2) w') R) R):∀l is w,I l is w→sat (dA k body l is w) Q R:=by
 intro l
 induction l with
 | nil=>exact nil
 | cons v l ih=>
  intro is w h;rw [kc,bV];refine ai (step v l is w h) (fun is' w hb=>?_) fun _ _ h=>h;rw [bV];refine ai hb (fun p w h''=>?_) fun _ _ h=>h;obtain ⟨f,is'⟩:=p;cases f with
  | next=>exact ih is' w h''
  | cont=>exact ih is' w h''
  | brk=>exact h''
  | ret v=>exact h''
inductive OpP {α:Type} (o:Option α) (K:α→Prop):Prop where
 | mk (v:α) (h:o=some v) (k:K v)
theorem OpP.ex {α:Type} {o:Option α} {K:α→Prop} (h:OpP o K):∃v,o=some v∧K v:=by cases h with|mk v h k=>exact (v12 v h k)
abbrev EK:=LL
abbrev EX:=LJ
abbrev kAt (Q:EK) (w:Wd) (v:PV):Prop:=Q v w
abbrev kB (Q:EK) (w:Wd) (b:Bool):Prop:=Q (.bool b) w
def iiP (a b:PV) (f:Int→Int→Prop):Prop:=match a with
 | .int i=>(match b with
  | .int j=>f i j
  | _=>False)
 | _=>False
def ssP (a b:PV) (f:LA→LA→Prop):Prop:=match a with
 | .str i=>(match b with
  | .str j=>f i j
  | _=>False)
 | _=>False
theorem Go {a b:PV} {f:Int→Int→Prop} (h:iiP a b f):∃i j,a=.int i∧b=.int j∧f i j:=by
 cases a<;>first|exact h.elim|skip
 cases b<;>first|exact h.elim|exact (v23 _ _ rfl rfl h)
def Kn (a b:PV) (K:PV→Prop):Prop:=match a with
 | .int i=>iiP (.int i) b fun a b=>K (.int (a+b))
 | .str i=>ssP (.str i) b fun a b=>a.length+b.length≤16777216∧K (.str (a++b))
 | .lst a=>(match b with
  | .lst b=>a.length+b.length≤16777216∧K (.lst (a++b))
  | _=>False)
 | _=>False
def GH (o:Operator) (a b:PV) (K:PV→Prop):Prop:=match o with
 | .Add=>Kn a b K
 | .Sub=>iiP a b fun a b=>K (.int (a-b))
 | .Mult=>iiP a b fun a b=>(MG a≤64∨MG b≤64)∧K (.int (a*b))
 | .FloorDiv=>iiP a b fun a b=>(b≠0∧b.natAbs<1073741824)∧K (.int (a.fdiv b))
 | .Mod=>iiP a b fun a b=>b≠0∧K (.int (a.fmod b))
 | o=>OpP (nG o a b) K
theorem qA {o:Operator} {a b:PV} {K:PV→Prop} (h:GH o a b K):∃v,nG o a b=some v∧K v:=by
 cases o<;>first|exact OpP.ex h|skip
 ·cases a<;>first|exact h.elim|skip
  ·cases b<;>first|exact h.elim|exact (v12 _ rfl h)
  ·cases b<;>first|exact h.elim|exact (v12 _ (if_pos h.1) h.2)
  ·cases b<;>first|exact h.elim|exact (v12 _ (if_pos h.1) h.2)
 all_goals obtain ⟨i,j,rfl,rfl,h⟩:=Go h
 ·exact (v12 _ rfl h)
 all_goals exact (v12 _ (if_pos h.1) h.2)
def boP (o:Option Bool) (K:Bool→Prop):Prop:=match o with
 | some r=>K r
 | none=>False
def ez (o:CmpOp) (a b:PV) (K:Bool→Prop):Prop:=boP (dq o a b) K
theorem fU {o:CmpOp} {a b:PV} {K:Bool→Prop} (h:ez o a b K):∃v,dq o a b=some v∧K v:=by
 unfold ez at h;cases e:dq o a b with
 | none=>rw [e] at h;exact h.elim
 | some r=>rw [e] at h;exact (v12 r rfl h)
inductive seqIP (l:LB) (k:Int) (K:PV→Prop):Prop where
 | mk (hl:l.length<2 ^ 62) (j:Nat) (v:PV) (hj:seqIndex? k l.length=some j) (hv:l[j]? = some v) (hk:K v)
inductive strIP (x:LA) (k:Int) (K:PV→Prop):Prop where
 | mk (hl:x.length<2 ^ 62) (j:Nat) (hj:seqIndex? k x.length=some j) (hk:K (.str [x.getD j 0]))
theorem bS {x:LA} {k:Int} {c:Nat} {K:PV→Prop} (hl:x.length<2 ^ 62) (h:∃j,seqIndex? k x.length=some j∧x.getD j 0=c) (hk:K (.str [c])):strIP x k K:=by
 obtain ⟨j,h,rfl⟩:=h;exact ⟨hl,j,h,hk⟩
def sN (a i:PV) (K:PV→Prop):Prop:=match i with
 | .int k=>(match a with
  | .str x=>strIP x k K
  | .tup l=>seqIP l k K
  | .lst l=>seqIP l k K
  | _=>False)
 | _=>False
theorem uJ {l:LB} {k:Int} {K:PV→Prop} (h:seqIP l k K):∃v,(if l.length<2 ^ 62 then (seqIndex? k l.length).bind fun j=>l[j]? else none)=some v∧K v:=by
 obtain ⟨h1,j,v,h2,h3,h4⟩:=h;exact (v12 v (by refine (if_pos h1)▸h2▸?_;exact h3) h4)
theorem jq {a i:PV} {K:PV→Prop} (h:sN a i K):∃v,sM a i=some v∧K v:=by
 cases i<;>first|exact h.elim|skip
 cases a<;>first|exact h.elim|exact uJ h|skip
 obtain ⟨h1,j,h2,h3⟩:=h;exact (v12 _ ((if_pos h1).trans (congrArg _ h2)) h3)
def It (v:PV) (K:PV→Prop):Prop:=match v with
 | .str x=>x.length<2 ^ 62∧K (.int x.length)
 | .tup x=>x.length<2 ^ 62∧K (.int x.length)
 | .lst x=>x.length<2 ^ 62∧K (.int x.length)
 | _=>False
def Ip (l:LB) (K:PV→Prop):Prop:=match l with
 | [v]=>K v
 | _=>False
def biP (b:BI) (l:LB) (K:PV→Prop):Prop:=match b with
 | .len=>Ip l fun v=>It v K
 | b=>OpP (biV b l) K
theorem ue {b:BI} {l:LB} {K:PV→Prop} (h:biP b l K):∃v,biV b l=some v∧K v:=by
 cases b<;>first|exact OpP.ex h|skip
 match l,h with
 | [v],h=>cases v<;>first|exact h.elim|exact (v12 _ (if_pos h.1) h.2)
def gp (v:PV) (K:Bool→Prop):Prop:=match v with
 | .bool b=>K b
 | _=>False
def kP (v:PV) (K:LB→Prop):Prop:=match v with
 | .tup b=>K b
 | _=>False
def gH (v:PV) (K:LA→Prop):Prop:=match v with
 | .str b=>K b
 | _=>False
def Gn (v:PV) (K:Int→Prop):Prop:=match v with
 | .int b=>K b
 | _=>False
def t2P (v:PV) (K:PV→PV→Prop):Prop:=match v with
 | .tup [a,b]=>K a b
 | _=>False
def t3P (v:PV) (K:PV→PV→PV→Prop):Prop:=match v with
 | .tup [a,b,c]=>K a b c
 | _=>False
def iX (s:Option Slot) (K:PV→Prop):Prop:=match s with
 | some (.val v)=>K v
 | _=>False
def rY (s:Option Slot) (K:LB→Prop):Prop:=match s with
 | some (.own v)=>K v
 | _=>False
def zZ (s:Option Slot) (K:List (LA×PV)→Prop):Prop:=match s with
 | some (.dic v)=>K v
 | _=>False
def fB (x:PV) (w:Wd) (K:Addr→Prop):Prop:=match x,w.host with
 | .ref a,some (a',_)=>a=a'∧K a
 | _,_=>False
def fC (a:Addr) (w:Wd) (K:aS→Prop):Prop:=match w.host with
 | some (a',b)=>a=a'∧b.length≤1000∧K b
 | none=>False
structure CallP (r:Rs PV) (Q:LL) (R:LJ):Prop where
 h:sat r Q R
structure CompP (r:Rs (LB)) (Q:LB→Wd→Prop) (R:LJ):Prop where
 h:sat r Q R
structure LoopP (cs:List (LD)) (r:Rs (AF×IS)) (Q:AF→LC→Wd→Prop) (R:LJ):Prop where
 h:sat r (fun p w=>p.2.cs=cs∧Q p.1 p.2.vs w) R
def ln (v:PV) (K:Option Int→Prop):Prop:=match v with
 | .none=>K none
 | .int i=>K (some i)
 | _=>False
theorem om {v:PV} {K:Option Int→Prop} (h:ln v K):∃o,gM v=some o∧K o:=by
 cases v<;>first|exact h.elim|exact (v12 _ rfl h)
def Fx (o l u:PV) (K:PV→Prop):Prop:=match o with
 | .str x=>ln l fun lo=>ln u fun hi=>x.length≤1048576∧K (.str (slc x lo hi))
 | o=>OpP (uI o l u) K
theorem pC {o l u:PV} {K:PV→Prop} (h:Fx o l u K):∃v,uI o l u=some v∧K v:=by
 cases o<;>first|exact OpP.ex h|skip
 rename_i x;have h:ln l (fun lo=>ln u fun hi=>x.length≤1048576∧K (.str (slc x lo hi))):=h;refine u12 (om h) ?_;rintro lo h1 h;refine u12 (om h) ?_;rintro hi h2 h;exact (v12 _ (by show (gM l).bind _=_;rw [h1,OL,h2,OL];exact if_pos h.1) h.2)
abbrev WE:=Wd→EK→EX→Prop
abbrev yR (v:PV) (Q:EK) (w:Wd) (l:LB):Prop:=Q (.tup (v::l)) w
noncomputable abbrev yS (v:PV) (Q:EK):EK:=fun vs w=>kP vs (yR v Q w)
noncomputable abbrev Gi (W:WE) (Q:EK) (R:EX):EK:=fun v w=>W w (yS v Q) R
noncomputable abbrev Gk (call:ax) (f:Nat) (Q:EK) (R:EX):EK:=fun vs w=>kP vs fun l=>CallP (call f l w) Q R
noncomputable abbrev kBi (b:BI) (Q:EK):EK:=fun vs w=>kP vs fun l=>biP b l (kAt Q w)
noncomputable abbrev Gl (o:Operator) (x:PV) (Q:EK):EK:=fun y w=>GH o x y (kAt Q w)
noncomputable abbrev IV (o:Operator) (W:WE) (Q:EK) (R:EX):EK:=fun x w=>W w (Gl o x Q) R
noncomputable abbrev xq (o:CmpOp) (x:PV) (Q:EK):EK:=fun y w=>ez o x y (kB Q w)
noncomputable abbrev IU (o:CmpOp) (W:WE) (Q:EK) (R:EX):EK:=fun x w=>W w (xq o x Q) R
noncomputable abbrev Gj (o o':CmpOp) (W W':WE) (Q:EK) (R:EX):EK:=fun x w=>W w (fun y w=>ez o x y fun r=>(r=true→W' w (xq o' y Q) R)∧(r=false→Q (.bool false) w)) R
noncomputable abbrev IH (Q:EK):EK:=fun v w=>Gn v fun i=>Q (.int (-i)) w
noncomputable abbrev IG (Q:EK):EK:=fun v w=>gp v fun b=>Q (.bool !b) w
noncomputable abbrev IX (W:WE) (Q:EK) (R:EX):EK:=fun v w=>gp v fun b=>(b=true→W w Q R)∧(b=false→Q (.bool false) w)
noncomputable abbrev kOr (W:WE) (Q:EK) (R:EX):EK:=fun v w=>gp v fun b=>(b=false→W w Q R)∧(b=true→Q (.bool true) w)
noncomputable abbrev kIf (W W':WE) (Q:EK) (R:EX):EK:=fun v w=>gp v fun c=>(c=true→W w Q R)∧(c=false→W' w Q R)
noncomputable abbrev Iv (Q:EK):EK:=fun vs w=>kP vs fun l=>l.length≤1000∧Q (.tup l) w
noncomputable abbrev IJ (Q:EK):EK:=fun vs w=>kP vs fun l=>l.length≤1000∧Q (.lst l) w
noncomputable abbrev FY (x:PV) (Q:EK):EK:=fun y w=>sN x y (kAt Q w)
noncomputable abbrev Ix (W:WE) (Q:EK) (R:EX):EK:=fun x w=>W w (FY x Q) R
noncomputable abbrev FZ (x l:PV) (Q:EK):EK:=fun u w=>Fx x l u (kAt Q w)
noncomputable abbrev Ga (x:PV) (W:WE) (Q:EK) (R:EX):EK:=fun l w=>W w (FZ x l Q) R
noncomputable abbrev Iy (W W':WE) (Q:EK) (R:EX):EK:=fun x w=>W w (Ga x W' Q R) R
noncomputable abbrev kM0 (m:M0) (Q:EK):EK:=fun x w=>OpP (m0V m x) (kAt Q w)
noncomputable abbrev II (m:M1) (s:LA) (Q:EK):EK:=fun y w=>OpP (m1V m (.str s) y) (kAt Q w)
noncomputable abbrev kM1 (m:M1) (W:WE) (Q:EK) (R:EX):EK:=fun x w=>gH x fun s=>W w (II m s Q) R
noncomputable abbrev Gd (s:LA) (Q:EK):EK:=fun v w=>OpP ((xY v).bind (dN s)) (kAt Q w)
noncomputable abbrev Gb (l:LB) (Q:EK):EK:=fun v w=>sN (.lst l) v (kAt Q w)
noncomputable abbrev IT (es:List (LA×PV)) (Q:EK):EK:=fun v w=>gH v fun x=>Q (.bool (es.lookup x).isSome) w
noncomputable abbrev Gh (es:List (LA×PV)) (Q:EK):EK:=fun v w=>gH v fun x=>OpP (es.lookup x) (kAt Q w)
abbrev sG (rd:Bool) (n:LA) (Q:EK) (w:Wd) (b:aS):Prop:=match rd with
 | true=>OpP (b.lookup n) fun u=>Q (.str u) w
 | false=>Q (.bool (b.lookup n).isSome) w
noncomputable abbrev yQ (rd:Bool) (a:Addr) (Q:EK):EK:=fun v w=>gH v fun n=>fC a w (sG rd n Q w)
abbrev Ge (rd:Bool) (W:WE) (w:Wd) (Q:EK) (R:EX) (a:Addr):Prop:=W w (yQ rd a Q) R
def wpE (call:ax) (F:Fv):IE→Wd→EK→EX→Prop
 | .int i,w,Q,R=>Q (.int i) w
 | .str s,w,Q,R=>Q (.str s) w
 | .bool b,w,Q,R=>Q (.bool b) w
 | .none,w,Q,R=>Q .none w
 | .nopart,w,Q,R=>Q .none w
 | .var k,w,Q,R=>iX F.vs[k]? (kAt Q w)
 | .cvar k,w,Q,R=>OpP (F.cvar k) (kAt Q w)
 | .tvar,w,Q,R=>OpP F.tv (kAt Q w)
 | .nil,w,Q,R=>Q (.tup []) w
 | .cons e r,w,Q,R=>wpE call F e w (Gi (wpE call F r) Q R) R
 | .call f as,w,Q,R=>wpE call F as w (Gk call f Q R) R
 | .bi b as,w,Q,R=>wpE call F as w (kBi b Q) R
 | .bin o a b,w,Q,R=>wpE call F a w (IV o (wpE call F b) Q R) R
 | .cmp o a b,w,Q,R=>wpE call F a w (IU o (wpE call F b) Q R) R
 | .cmp2 o o' a b c,w,Q,R=>wpE call F a w (Gj o o' (wpE call F b) (wpE call F c) Q R) R
 | .neg a,w,Q,R=>wpE call F a w (IH Q) R
 | .not a,w,Q,R=>wpE call F a w (IG Q) R
 | .bop .And a r,w,Q,R=>wpE call F a w (IX (wpE call F r) Q R) R
 | .bop .Or a r,w,Q,R=>wpE call F a w (kOr (wpE call F r) Q R) R
 | .ite t a b,w,Q,R=>wpE call F t w (kIf (wpE call F a) (wpE call F b) Q R) R
 | .tup as,w,Q,R=>wpE call F as w (Iv Q) R
 | .lst as,w,Q,R=>wpE call F as w (IJ Q) R
 | .sub a i,w,Q,R=>wpE call F a w (Ix (wpE call F i) Q R) R
 | .slc a lo hi,w,Q,R=>wpE call F a w (Iy (wpE call F lo) (wpE call F hi) Q R) R
 | .m0 m o,w,Q,R=>wpE call F o w (kM0 m Q) R
 | .m1 m o e,w,Q,R=>wpE call F o w (kM1 m (wpE call F e) Q R) R
 | .join s e,w,Q,R=>wpE call F e w (Gd s Q) R
 | .olen k,w,Q,R=>rY F.vs[k]? fun l=>l.length<2 ^ 62∧Q (.int l.length) w
 | .oidx k i,w,Q,R=>rY F.vs[k]? fun l=>wpE call F i w (Gb l Q) R
 | .ojoin s k,w,Q,R=>rY F.vs[k]? fun l=>OpP (dN s l) (kAt Q w)
 | .din e k,w,Q,R=>zZ F.vs[k]? fun es=>wpE call F e w (IT es Q) R
 | .dget k e,w,Q,R=>zZ F.vs[k]? fun es=>wpE call F e w (Gh es Q) R
 | .hget rd k e,w,Q,R=>iX F.vs[k]? fun x=>fB x w (Ge rd (wpE call F e) w Q R)
theorem ci {F:Fv} {k:Nat} {K:PV→Prop} (h:iX F.vs[k]? K):∃v,F.var k=some v∧K v:=by
 unfold Fv.var;cases e:F.vs[k]? with
 | none=>rw [e] at h;exact h.elim
 | some s=>replace h:=e▸h;cases s<;>first|exact h.elim|exact (v12 _ rfl h)
theorem ed {F:Fv} {k:Nat} {K:LB→Prop} (h:rY F.vs[k]? K):∃v,F.own k=some v∧K v:=by
 unfold Fv.own;cases e:F.vs[k]? with
 | none=>rw [e] at h;exact h.elim
 | some s=>replace h:=e▸h;cases s<;>first|exact h.elim|exact (v12 _ rfl h)
theorem ju {F:Fv} {k:Nat} {K:List (LA×PV)→Prop} (h:zZ F.vs[k]? K):∃v,F.dic k=some v∧K v:=by
 unfold Fv.dic;cases e:F.vs[k]? with
 | none=>rw [e] at h;exact h.elim
 | some s=>replace h:=e▸h;cases s<;>first|exact h.elim|exact (v12 _ rfl h)
theorem mU {x:PV} {w:Wd} {K:Addr→Prop} (h:fB x w K):∃a,eO x w=.ok a w∧K a:=by
 unfold fB at h;cases x with
 | ref a=>
  cases e:w.host with
  | none=>rw [e] at h;exact h.elim
  | some p=>
   rw [e] at h;obtain ⟨rfl,h⟩:=h;exact (v12 _ (by unfold eO;refine e▸?_;exact if_pos rfl) h)
 | _=>exact h.elim
theorem nE {a:Addr} {w:Wd} {K:aS→Prop} (h:fC a w K):∃b,w.host=some (a,b)∧b.length≤1000∧K b:=by
 unfold fC at h
 split at h
 ·rename_i e;refine u03 h ?_;clear h;rintro rfl hl h;exact (v13 _ e hl h)
 ·exact h.elim
theorem iG {v:PV} {K:Bool→Prop} (h:gp v K):∃b,v=.bool b∧K b:=by
 cases v<;>first|exact h.elim|exact (v12 _ rfl h)
theorem pg {v:PV} {K:LB→Prop} (h:kP v K):∃b,v=.tup b∧K b:=by
 cases v<;>first|exact h.elim|exact (v12 _ rfl h)
theorem pn {v:PV} {K:LA→Prop} (h:gH v K):∃b,v=.str b∧K b:=by
 cases v<;>first|exact h.elim|exact (v12 _ rfl h)
theorem bI {α:Type} {o:Option α} {w:Wd} {Q:α→Wd→Prop} {R:LJ} (h:∃v,o=some v∧Q v w):sat (Rs.of o w) Q R:=by
 obtain ⟨v,rfl,h⟩:=h;exact h
theorem dZ {α:Type} {o:Option α} {w:Wd} {Q:α→Wd→Prop} {R:LJ} (h:OpP o fun v=>Q v w):sat (Rs.of o w) Q R:=by
 obtain ⟨v,rfl,h⟩:=h;exact h
theorem br {α β:Type} {r:Rs α} {f:α→Wd→Rs β} {Q:β→Wd→Prop} {R:LJ} (h:sat r (fun a w=>sat (f a w) Q R) R):sat (r.bind f) Q R:=by rw [bV];exact h
theorem qg {α:Type} {n:LA} {w:Wd} {a:Addr} {b:aS} {f:LA→aS→Rs α} {Q:α→Wd→Prop} {R:LJ} (h:w.host=some (a,b)) (hl:b.length≤1000) (k:sat (f n b) Q R):sat (eN (.str n) w a f) Q R:=by
 unfold eN;refine h▸?_;show sat (if a=a∧b.length≤1000 then _ else _) Q R;rw [if_pos ⟨rfl,hl⟩];exact k
theorem ce {α:Type} {p:Prop} [Decidable p] {r:Rs α} {Q:α→Wd→Prop} {R:LJ} (h:p) (k:sat r Q R):sat (if p then r else .fail) Q R:=by refine (if_pos h)▸?_;exact k
theorem mr {α:Type} {r:Rs α} {Q:α→Wd→Prop} {R:LJ} (h:sat r Q fun _ _=>False):sat r.noExc Q R:=by
 cases r<;>first|exact h|exact h.elim
theorem rH {α β:Type} {r:Rs α} {f:α→Wd→Rs β} {g:Wd→Rs β} {Q:β→Wd→Prop} {R:LJ} (h:sat r (fun a w=>sat (f a w) Q R) (fun _ w=>sat (g w) Q R)):sat (r.tryB f g) Q R:=by
 cases r<;>exact h
theorem aw {α β:Type} {r:Rs α} {f:α→Wd→Rs β} {Q':α→Wd→Prop} {Q:β→Wd→Prop} {R:LJ} (h:sat r Q' R) (k:∀v w,Q' v w→sat (f v w) Q R):sat (r.bind f) Q R:=br (ai h k fun _ _ h=>h)
theorem gQ {α β:Type} {o:Option α} {w:Wd} {f:α→Wd→Rs β} {K:α→Prop} {Q:β→Wd→Prop} {R:LJ} (h:∃v,o=some v∧K v) (k:∀v,K v→sat (f v w) Q R):sat ((Rs.of o w).bind f) Q R:=by
 obtain ⟨v,rfl,h⟩:=h;exact br (k v h)
theorem yI {α β:Type} {o:Option α} {f:α→β} {w:Wd} {Q:β→Wd→Prop} {R:LJ} (h:∃v,o=some v∧Q (f v) w):sat (Rs.of (o.map f) w) Q R:=by
 obtain ⟨v,rfl,h⟩:=h;exact h
theorem ph {β:Type} {v:PV} {w:Wd} {f:LB→Wd→Rs β} {K:LB→Prop} {Q:β→Wd→Prop} {R:LJ} (h:kP v K) (k:∀l,K l→sat (f l w) Q R):sat ((fA v w).bind f) Q R:=by
 refine u12 (pg h) ?_;rintro l rfl h;exact k l h
theorem lT {β:Type} {v:PV} {w:Wd} {f:Bool→Wd→Rs β} {K:Bool→Prop} {Q:β→Wd→Prop} {R:LJ} (h:gp v K) (k:∀l,K l→sat (f l w) Q R):sat ((bK v w).bind f) Q R:=by
 refine u12 (iG h) ?_;rintro l rfl h;exact k l h
theorem pq {β:Type} {v:PV} {f:LA→Rs β} {K:LA→Prop} {Q:β→Wd→Prop} {R:LJ} (h:gH v K) (k:∀l,K l→sat (f l) Q R):sat (cY v f) Q R:=by
 refine u12 (pn h) ?_;rintro l rfl h;exact k l h
theorem IY {β:Type} {v:PV} {f:Int→Rs β} {K:Int→Prop} {Q:β→Wd→Prop} {R:LJ} (h:Gn v K) (k:∀l,K l→sat (f l) Q R):sat (on v f) Q R:=by cases v<;>first|exact h.elim|exact k _ h
theorem hgC {β:Type} {v:PV} {w:Wd} {a:Addr} {f:LA→aS→Rs β} {K:LA→aS→Prop} {Q:β→Wd→Prop} {R:LJ} (h:gH v fun n=>fC a w (K n)) (k:∀n b,K n b→sat (f n b) Q R):sat (eN v w a f) Q R:=by
 cases v<;>first|exact h.elim|skip
 refine u13 (nE h) ?_;rintro b hb hl h;exact qg hb hl (k _ _ h)
theorem xu {β:Type} {x:PV} {w:Wd} {f:Addr→Wd→Rs β} {K:Addr→Prop} {Q:β→Wd→Prop} {R:LJ} (h:fB x w K) (k:∀a,K a→sat (f a w) Q R):sat ((eO x w).bind f) Q R:=by
 refine u12 (mU h) ?_;rintro a ha h;refine ha▸?_;exact br (r:=.ok a w) (k a h)
theorem cnd {β:Type} {b:Bool} {P P':Prop} {r r':Rs β} {Q:β→Wd→Prop} {R:LJ} (h:(b=true→P)∧(b=false→P')) (k:P→sat r Q R) (k':P'→sat r' Q R):sat (if b then r else r') Q R:=by
 cases b
 ·exact k' (h.2 rfl)
 ·exact k (h.1 rfl)
theorem aZ {call:ax} {F:Fv}:∀(e:IE) (w:Wd) (Q:LL) (R:LJ),wpE call F e w Q R→sat (evE call F e w) Q R:=by
 intro e
 induction e with
 | int i=>exact fun w Q R h=>h
 | str i=>exact fun w Q R h=>h
 | bool i=>exact fun w Q R h=>h
 | none=>exact fun w Q R h=>h
 | nopart=>exact fun w Q R h=>h
 | nil=>exact fun w Q R h=>h
 | var k=>exact fun w Q R h=>bI (ci h)
 | cvar k=>exact fun w Q R h=>dZ h
 | tvar=>exact fun w Q R h=>dZ h
 | cons e r ih ih'=>exact fun w Q R h=>aw (ih _ _ _ h) fun v w h=>aw (ih' _ _ _ h) fun v' w h=>ph h fun l h=>h
 | call f as ih=>exact fun w Q R h=>aw (ih _ _ _ h) fun v w h=>ph h fun l h=>h.h
 | bi b as ih=>exact fun w Q R h=>aw (ih _ _ _ h) fun v w h=>ph h fun l h=>bI (ue h)
 | bin o a b ih ih'=>exact fun w Q R h=>aw (ih _ _ _ h) fun v w h=>aw (ih' _ _ _ h) fun v' w h=>bI (qA h)
 | cmp o a b ih ih'=>exact fun w Q R h=>aw (ih _ _ _ h) fun v w h=>aw (ih' _ _ _ h) fun v' w h=>yI (fU h)
 | cmp2 o o' a b c ih ih' ih''=>exact fun w Q R h=>aw (ih _ _ _ h) fun v w h=>aw (ih' _ _ _ h) fun v' w h=>gQ (fU h) fun r h=>cnd h (fun h=>aw (ih'' _ _ _ h) fun v w h=>yI (fU h)) fun h=>h
 | neg a ih=>exact fun w Q R h=>aw (ih _ _ _ h) fun v w h=>IY h fun l h=>h
 | not a ih=>exact fun w Q R h=>aw (ih _ _ _ h) fun v w h=>lT h fun l h=>h
 | bop o a r ih ih'=>
  intro w Q R h;cases o with
  | And=>
   refine aw (ih _ _ _ h) fun v w h=>lT h fun l h=>?_;cases l
   ·exact h.2 rfl
   ·exact ih' _ _ _ (h.1 rfl)
  | Or=>
   refine aw (ih _ _ _ h) fun v w h=>lT h fun l h=>?_;cases l
   ·exact ih' _ _ _ (h.1 rfl)
   ·exact h.2 rfl
 | ite t a b ih ih' ih''=>exact fun w Q R h=>aw (ih _ _ _ h) fun v w h=>lT h fun l h=>cnd h (ih' _ _ _) (ih'' _ _ _)
 | tup as ih=>exact fun w Q R h=>aw (ih _ _ _ h) fun v w h=>ph h fun l h=>ce h.1 (show sat (.ok _ w) Q R from h.2)
 | lst as ih=>exact fun w Q R h=>aw (ih _ _ _ h) fun v w h=>ph h fun l h=>ce h.1 (show sat (.ok _ w) Q R from h.2)
 | sub a i ih ih'=>exact fun w Q R h=>aw (ih _ _ _ h) fun v w h=>aw (ih' _ _ _ h) fun v' w h=>bI (jq h)
 | slc a lo hi ih ih' ih''=>exact fun w Q R h=>aw (ih _ _ _ h) fun v w h=>aw (ih' _ _ _ h) fun v' w h=>aw (ih'' _ _ _ h) fun v'' w h=>bI (pC h)
 | m0 m o ih=>exact fun w Q R h=>aw (ih _ _ _ h) fun v w h=>dZ h
 | m1 m o e ih ih'=>exact fun w Q R h=>aw (ih _ _ _ h) fun v w h=>pq h fun l h=>aw (ih' _ _ _ h) fun v w h=>dZ h
 | join s e ih=>exact fun w Q R h=>aw (ih _ _ _ h) fun v w h=>dZ h
 | olen k=>
  intro w Q R h;refine u13 (ed h) ?_;rintro l e h1 h;exact bI (v12 _ (by rw [e];exact if_pos h1) h)
 | oidx k i ih=>exact fun w Q R h=>gQ (ed h) fun l h=>aw (ih _ _ _ h) fun v w h=>bI (jq h)
 | ojoin s k=>
  intro w Q R h;obtain ⟨l,e,v,hv,h⟩:=ed h;exact bI (v12 _ (by rw [e];exact hv) h)
 | din e k ih=>exact fun w Q R h=>gQ (ju h) fun l h=>aw (ih _ _ _ h) fun v w h=>pq h fun x h=>h
 | dget k e ih=>exact fun w Q R h=>gQ (ju h) fun l h=>aw (ih _ _ _ h) fun v w h=>pq h fun x h=>dZ h
 | hget rd k e ih=>
  refine fun w Q R h=>gQ (ci h) fun x h=>xu h fun a h=>aw (ih _ _ _ h) fun v w h=>hgC h fun n b h=>?_;cases rd with
  | true=>exact yI (OpP.ex h)
  | false=>exact h
def eJ:LC→Nat→PV→(LC→Prop)→Prop
 | [],_,_,_=>False
 | s::r,0,v,K=>s.free=true∧K (.val v::r)
 | s::r,k+1,v,K=>eJ r k v fun r=>K (s::r)
theorem fJ {v:PV}:∀{vs:LC} {k:Nat} {K:LC→Prop},eJ vs k v K→∃vs',li vs k v=some vs'∧K vs'
 | [],_,_,h=>h.elim
 | s::r,0,_,h=>(v12 _ (if_pos h.1) h.2)
 | s::r,k+1,_,h=>by
  refine u12 (fJ (vs:=r) h) ?_;rintro vs' e h;exact (v12 _ (by rw [mu,e];rfl) h)
abbrev QC:=AF→LC→Wd→Prop
abbrev WC:=LC→Wd→QC→EX→Prop
noncomputable def xZ (W:WC) (Q:QC) (R:EX):QC:=fun f vs w=>match f with
 | .next=>W vs w Q R
 | .brk=>Q .brk vs w
 | .cont=>Q .cont vs w
 | .ret v=>Q (.ret v) vs w
noncomputable def lA (n:LC→Wd→Prop) (Q:QC):QC:=fun f vs w=>match f with
 | .next=>n vs w
 | .cont=>n vs w
 | .brk=>Q .next vs w
 | .ret v=>Q (.ret v) vs w
abbrev kNx (Q:QC) (w:Wd) (vs:LC):Prop:=Q .next vs w
abbrev IF (k:Nat) (vs:LC) (Q:QC) (w:Wd) (v:PV):Prop:=eJ vs k v (kNx Q w)
noncomputable abbrev Gm (k:Nat) (vs:LC) (Q:QC):EK:=fun v w=>eJ vs k v (kNx Q w)
noncomputable abbrev IW (k:Nat) (o:Operator) (x:PV) (vs:LC) (Q:QC):EK:=fun y w=>OpP (Aj o x y) (IF k vs Q w)
noncomputable abbrev IM (A B:WC) (vs:LC) (Q:QC) (R:EX):EK:=fun v w=>gp v fun c=>(c=true→A vs w Q R)∧(c=false→B vs w Q R)
abbrev Gf (call:ax) (cs:List (LD)) (k:Nat) (b:IC) (vs:LC) (Q:QC) (R:EX) (w:Wd) (l:LB):Prop:=LoopP cs (dA k (exC call b) l ⟨vs,cs⟩ w) Q R
noncomputable abbrev IQ (call:ax) (cs:List (LD)) (k:Nat) (b:IC) (vs:LC) (Q:QC) (R:EX):EK:=fun v w=>OpP (mQ v) (Gf call cs k b vs Q R w)
noncomputable abbrev ID (vs:LC) (Q:QC):EK:=fun v w=>Q (.ret v) vs w
noncomputable abbrev Iz (s:LA) (R:EX):EK:=fun y w=>R ⟨1,s,y⟩ w
noncomputable abbrev kRs (W:WE) (R:EX):EK:=fun x w=>gH x fun s=>W w (Iz s R) R
noncomputable abbrev kRw (R:EX):EK:=fun x w=>gH x fun s=>s.length≤1000∧R (aO s) w
noncomputable abbrev IR (vs:LC) (Q:QC):EK:=fun v w=>v=.none∧Q .next vs w
noncomputable abbrev kT2 (j k:Nat) (vs:LC) (Q:QC):EK:=fun v w=>t2P v fun a b=>eJ vs j a fun vs=>eJ vs k b (kNx Q w)
noncomputable abbrev kT3 (i j k:Nat) (vs:LC) (Q:QC):EK:=fun v w=>t3P v fun a b c=>eJ vs i a fun vs=>eJ vs j b fun vs=>eJ vs k c (kNx Q w)
noncomputable abbrev Gc (k:Nat) (l:LB) (vs:LC) (Q:QC):EK:=fun v w=>l.length<1048576∧Q .next (vs.set k (.own (l++[v]))) w
noncomputable abbrev Gg (k:Nat) (ks:List (LA)) (vs:LC) (Q:QC):EK:=fun v w=>kP v fun l=>Q .next (vs.set k (.dic (ks.zip l))) w
abbrev IN (d:Addr) (n t:LA) (vs:LC) (Q:QC) (w:Wd) (bk:aS):Prop:=Q .next vs { w with host:=some (d,dt bk n t) }
noncomputable abbrev IO (d:Addr) (n:LA) (vs:LC) (Q:QC):EK:=fun v w=>gH v fun t=>fC d w (IN d n t vs Q w)
noncomputable abbrev IP (d:Addr) (W:WE) (vs:LC) (Q:QC) (R:EX):EK:=fun u w=>gH u fun n=>W w (IO d n vs Q) R
abbrev kHw (W W':WE) (w:Wd) (vs:LC) (Q:QC) (R:EX) (d:Addr):Prop:=W w (IP d W' vs Q R) R
abbrev IK (k:Nat) (vs:LC) (Q:QC):LB→Wd→Prop:=fun l w=>eJ vs k (.lst l) (kNx Q w)
abbrev IL (call:ax) (cs:List (LD)) (k:Nat) (t e:IE) (vs:LC) (Q:QC) (R:EX) (w:Wd) (l:LB):Prop:=l.length≤1000∧CompP (dS call cs t e l w) (IK k vs Q) R
noncomputable abbrev kLc (call:ax) (cs:List (LD)) (k:Nat) (t e:IE) (vs:LC) (Q:QC) (R:EX):EK:=fun v w=>OpP (hY v) (IL call cs k t e vs Q R w)
noncomputable abbrev Iw (b:Bool) (j:Nat) (vs:LC) (Q:QC):EX:=fun _ w=>iX vs[j]? fun v=>Q (.ret (.tup [.bool b,v])) vs w
def iM (call:ax) (cs:List (LD)):IC→LC→Wd→QC→EX→Prop
 | .nil,vs,w,Q,R=>Q .next vs w
 | .cons s r,vs,w,Q,R=>iM call cs s vs w (xZ (iM call cs r) Q R) R
 | .assign k e,vs,w,Q,R=>wpE call ⟨vs,cs,none⟩ e w (Gm k vs Q) R
 | .aug k o e,vs,w,Q,R=>iX vs[k]? fun x=>wpE call ⟨vs,cs,none⟩ e w (IW k o x vs Q) R
 | .ite t a b,vs,w,Q,R=>wpE call ⟨vs,cs,none⟩ t w (IM (iM call cs a) (iM call cs b) vs Q R) R
 | .whl t b,vs,w,Q,R=>LoopP cs (eA (fun is w=>(evE call is.F t w).bind bK) (exC call b) ip ⟨vs,cs⟩ w) Q R
 | .for_ k e b,vs,w,Q,R=>wpE call ⟨vs,cs,none⟩ e w (IQ call cs k b vs Q R) R
 | .ret e,vs,w,Q,R=>wpE call ⟨vs,cs,none⟩ e w (ID vs Q) R
 | .retN,vs,w,Q,R=>Q (.ret .none) vs w
 | .brk,vs,w,Q,R=>Q .brk vs w
 | .pass,vs,w,Q,R=>Q .next vs w
 | .raiseE a b,vs,w,Q,R=>wpE call ⟨vs,cs,none⟩ a w (kRs (wpE call ⟨vs,cs,none⟩ b) R) R
 | .raiseW a,vs,w,Q,R=>wpE call ⟨vs,cs,none⟩ a w (kRw R) R
 | .eff e,vs,w,Q,R=>wpE call ⟨vs,cs,none⟩ e w (IR vs Q) R
 | .tup2 j k e,vs,w,Q,R=>wpE call ⟨vs,cs,none⟩ e w (kT2 j k vs Q) R
 | .tup3 i j k e,vs,w,Q,R=>wpE call ⟨vs,cs,none⟩ e w (kT3 i j k vs Q) R
 | .onew k,vs,w,Q,R=>vs[k]? = some .un∧Q .next (vs.set k (.own [])) w
 | .oapp k e,vs,w,Q,R=>rY vs[k]? fun l=>wpE call ⟨vs,cs,none⟩ e w (Gc k l vs Q) R
 | .dnew k ks e,vs,w,Q,R=>vs[k]? = some .un∧wpE call ⟨vs,cs,none⟩ e w (Gg k ks vs Q) (fun _ _=>False)
 | .hwrite k a b,vs,w,Q,R=>iX vs[k]? fun x=>fB x w (kHw (wpE call ⟨vs,cs,none⟩ a) (wpE call ⟨vs,cs,none⟩ b) w vs Q R)
 | .lcomp k it t e,vs,w,Q,R=>wpE call ⟨vs,cs,none⟩ it w (kLc call cs k t e vs Q R) R
 | .tryR k e b j,vs,w,Q,R=>wpE call ⟨vs,cs,none⟩ e w (Gm k vs Q) (Iw b j vs Q)
theorem Fw {v:PV} {K:PV→PV→Prop} (h:t2P v K):∃a b,v=.tup [a,b]∧K a b:=by
 cases v<;>first|exact h.elim|skip
 rename_i l
 match l,h with
 | [a,b],h=>exact (v22 a b rfl h)
theorem Fu {v:PV} {K:PV→PV→PV→Prop} (h:t3P v K):∃a b c,v=.tup [a,b,c]∧K a b c:=by
 cases v<;>first|exact h.elim|skip
 rename_i l
 match l,h with
 | [a,b,c],h=>exact (v32 a b c rfl h)
theorem ol {cs:List (LD)} {vs:LC} {k:Nat} {v:PV} {w:Wd} {K:LC→Prop} (h:eJ vs k v K):∃vs',(⟨vs,cs⟩:IS).put k v=some ⟨vs',cs⟩∧K vs':=by
 refine u12 (fJ h) ?_;rintro vs' e h;exact (v12 vs' (by unfold IS.put;refine e▸?_;rfl) h)
abbrev wpC (call:ax):=iM call []
theorem eW {α:Type} {cs:List (LD)} {vs:LC} {k:Nat} {v:PV} {K:LC→Prop} {w:Wd} {f:IS→Wd→Rs α} {Q:α→Wd→Prop} {R:LJ} (h:eJ vs k v K) (g:∀vs,K vs→sat (f ⟨vs,cs⟩ w) Q R):sat ((Rs.of ((⟨vs,cs⟩:IS).put k v) w).bind f) Q R:=by
 refine u12 (fJ h) ?_;rintro vs' e h;exact br (bI (v12 ⟨vs',cs⟩ (by unfold IS.put;rw [e];rfl) (g _ h)))
theorem cC {call:ax} {cs:List (LD)}:∀(ic:IC) (vs:LC) (w:Wd) (Q:QC) (R:LJ),iM call cs ic vs w Q R→sat (exC call ic ⟨vs,cs⟩ w) (fun p w=>p.2.cs=cs∧Q p.1 p.2.vs w) R:=by
 intro ic
 induction ic with
 | nil=>exact fun vs w Q R h=>⟨rfl,h⟩
 | cons s r ih ih'=>
  intro vs w Q R h;refine br (ai (ih _ _ _ _ h) (fun p w h=>?_) fun _ _ h=>h);obtain ⟨f,vs',cs'⟩:=p;obtain ⟨e,h⟩:=h;subst e;cases f with
  | next=>exact ih' _ _ _ _ h
  | brk=>exact ⟨rfl,h⟩
  | cont=>exact ⟨rfl,h⟩
  | ret v=>exact ⟨rfl,h⟩
 | assign k e=>exact fun vs w Q R h=>aw (aZ _ _ _ _ h) fun v w h=>eW h fun vs h=>⟨rfl,h⟩
 | aug k o e=>exact fun vs w Q R h=>gQ (ci (F:=⟨vs,cs,none⟩) h) fun x h=>aw (aZ _ _ _ _ h) fun v w h=>gQ (OpP.ex h) fun r h=>eW h fun vs h=>⟨rfl,h⟩
 | ite t a b ih ih'=>exact fun vs w Q R h=>aw (aZ _ _ _ _ h) fun v w h=>lT h fun l h=>cnd h (ih _ _ _ _) (ih' _ _ _ _)
 | whl t b ih=>exact fun vs w Q R h=>h.h
 | for_ k e b ih=>exact fun vs w Q R h=>aw (aZ _ _ _ _ h) fun v w h=>gQ (OpP.ex h) fun l h=>h.h
 | ret e=>exact fun vs w Q R h=>aw (aZ _ _ _ _ h) fun v w h=>⟨rfl,h⟩
 | retN=>exact fun vs w Q R h=>⟨rfl,h⟩
 | brk=>exact fun vs w Q R h=>⟨rfl,h⟩
 | pass=>exact fun vs w Q R h=>⟨rfl,h⟩
 | raiseE a b=>exact fun vs w Q R h=>aw (aZ _ _ _ _ h) fun v w h=>pq h fun l h=>aw (aZ _ _ _ _ h) fun v w h=>h
 | raiseW a=>exact fun vs w Q R h=>aw (aZ _ _ _ _ h) fun v w h=>pq h fun l h=>ce h.1 h.2
 | eff e=>exact fun vs w Q R h=>aw (aZ _ _ _ _ h) fun v w h=>ce (h.1▸rfl) ⟨rfl,h.2⟩
 | tup2 j k e=>
  refine fun vs w Q R h=>aw (aZ _ _ _ _ h) fun v w h=>?_;refine u22 (Fw h) ?_;rintro a b rfl h;exact eW h fun vs h=>eW h fun vs h=>⟨rfl,h⟩
 | tup3 i j k e=>
  refine fun vs w Q R h=>aw (aZ _ _ _ _ h) fun v w h=>?_;refine u32 (Fu h) ?_;rintro a b c rfl h;exact eW h fun vs h=>eW h fun vs h=>eW h fun vs h=>⟨rfl,h⟩
 | onew k=>
  intro vs w Q R h;exact ce (by rw [h.1];rfl) ⟨rfl,h.2⟩
 | oapp k e=>exact fun vs w Q R h=>gQ (ed (F:=⟨vs,cs,none⟩) h) fun l h=>aw (aZ _ _ _ _ h) fun v w h=>ce h.1 ⟨rfl,h.2⟩
 | dnew k ks e=>exact fun vs w Q R h=>ce (by rw [h.1];rfl) (aw (mr (ai (aZ _ _ _ _ h.2) (fun v w h=>h) fun _ _ h=>h)) fun v w h=>ph h fun l h=>⟨rfl,h⟩)
 | lcomp k it t e=>
  refine fun vs w Q R h=>aw (aZ _ _ _ _ h) fun v w h=>?_;obtain ⟨l,hl,h1,h⟩:=h;exact br (bI (v12 l hl (ce h1 (aw h.h fun l w h=>eW h fun vs h=>⟨rfl,h⟩))))
 | hwrite k a b=>
  exact fun vs w Q R h=>gQ (ci (F:=⟨vs,cs,none⟩) h) fun x h=>xu h fun d h=>aw (aZ _ _ _ _ h) fun u w h=>pq h fun n h=>aw (aZ _ _ _ _ h) fun v w h=>hgC (K:=fun _ _=>_) h fun t bk h=>⟨rfl,h⟩
 | tryR k e b j=>
  exact fun vs w Q R h=>rH (ai (aZ _ _ _ _ h) (fun v w h=>eW h fun vs h=>⟨rfl,h⟩) fun x w h=>gQ (ci (F:=⟨vs,cs,none⟩) h) fun u h=>⟨rfl,h⟩)
inductive Dn (I:Nat→LC→Wd→Prop) (m:Nat) (vs:LC) (w:Wd):Prop
 | mk (m':Nat) (h1:m'<m) (h2:I m' vs w)
theorem aX {call:ax} {t:IE} {b:IC} {Q:QC} {R:LJ} (I:Nat→LC→Wd→Prop)
 (step:∀m vs w,I m vs w→wpE call ⟨vs,[],none⟩ t w (fun v w=>gp v fun c=>(c=true→wpC call b vs w (lA (Dn I m) Q) R)∧(c=false→Q .next vs w)) R) (m:Nat) (vs:LC) (w:Wd) (hm:m<300) (h:I m vs w):LoopP [] (eA (fun is w=>(evE call is.F t w).bind bK) (exC call b) ip ⟨vs,[]⟩ w) Q R:=by
 refine ⟨?_⟩;refine pW (fun m is w=>is.cs=[]∧I m is.vs w) (fun m is w hI=>?_) ip m ⟨vs,[]⟩ w hm ⟨rfl,h⟩;obtain ⟨vs,cs⟩:=is;obtain ⟨rfl,hI⟩:=hI;refine br (ai (aZ _ _ _ _ (step m vs w hI)) (fun v w h=>?_) fun _ _ h=>h);refine u12 (iG h) ?_;rintro c rfl h;cases c with
 | false=>exact ⟨rfl,h.2 rfl⟩
 | true=>
  show sat (exC call b ⟨vs,[]⟩ w) _ R;refine ai (cC _ _ _ _ _ (h.1 rfl)) (fun p w h=>?_) fun _ _ h=>h;obtain ⟨f,vs',cs⟩:=p;obtain ⟨rfl,h⟩:=h;cases f with
  | next=>obtain ⟨m',h1,h2⟩:=h;exact (v13 m' h1 rfl h2)
  | cont=>obtain ⟨m',h1,h2⟩:=h;exact (v13 m' h1 rfl h2)
  | brk=>exact ⟨rfl,h⟩
  | ret v=>exact ⟨rfl,h⟩
theorem eG {call:ax} {k:Nat} {b:IC} {Q:QC} {R:LJ} (I:LB→LC→Wd→Prop) (nil:∀vs w,I [] vs w→Q .next vs w)
 (step:∀v l vs w,I (v::l) vs w→eJ vs k v fun vs=>wpC call b vs w (lA (I l) Q) R) (l:LB) (vs:LC) (w:Wd) (h:I l vs w):LoopP [] (dA k (exC call b) l ⟨vs,[]⟩ w) Q R:=by
 refine ⟨?_⟩;refine pX (fun l is w=>is.cs=[]∧I l is.vs w) (fun is w hI=>⟨hI.1,nil _ _ hI.2⟩) (fun v l is w hI=>?_) l ⟨vs,[]⟩ w ⟨rfl,h⟩;obtain ⟨vs,cs⟩:=is;obtain ⟨rfl,hI⟩:=hI;obtain ⟨vs1,e1,h⟩:=ol (w:=w) (step v l vs w hI);refine bI (v12 _ e1 ?_);refine ai (cC _ _ _ _ _ h) (fun p w h=>?_) fun _ _ h=>h;obtain ⟨f,vs',cs⟩:=p;obtain ⟨rfl,h⟩:=h;cases f with
 | next=>exact ⟨rfl,h⟩
 | cont=>exact ⟨rfl,h⟩
 | brk=>exact ⟨rfl,h⟩
 | ret v=>exact ⟨rfl,h⟩
noncomputable def RQ (Q:LL):QC:=fun f _ w=>match f with
 | .ret v=>Q v w
 | .next=>Q .none w
 | _=>False
theorem aY {d f:Nat} {args:LB} {w:Wd} {fi:FI} {Q:LL} {R:LJ} (h:tab f=.ir fi) (hl:args.length=fi.ps.length) (hb:wpC (ak d) fi.body (args.map .val++MF fi.os.length .un) w (RQ Q) R):sat (ak (d+1) f args w) Q R:=by
 rw [tN h hl];refine br (ai (cC _ _ _ _ _ hb) (fun p w h=>?_) fun _ _ h=>h);obtain ⟨f,vs',cs⟩:=p;cases f<;>exact h.2
theorem gF {d f:Nat} {args:LB} {w:Wd} {fi:FI} {Q:LL} {R:LJ} (h:tab f=.irc fi) (hl:args.length=fi.ps.length) (hb:iM (ak d) (fi.startC args).cs fi.body (fi.startC args).vs w (RQ Q) R):sat (ak (d+1) f args w) Q R:=by
 show sat (match tab f with|.ir fi=>fi.run (ak d) args w|.irc fi=>fi.runC (ak d) args w|.prim s=>s (ak d) args w|.deep s=>if 9≤d then s args w else .fail|.no=>.fail) Q R;refine h▸?_;refine ce hl (br (ai (cC _ _ _ _ _ hb) (fun p w h=>?_) fun _ _ h=>h));obtain ⟨f,vs',cs⟩:=p;cases f<;>exact h.2
theorem ku {call:ax} {cs:List (LD)} {t e:IE} {w:Wd} {f:PV→Bool} {g:PV→PV}:∀{l:LB},(∀p∈l,evE call ⟨[],cs,some p⟩ t w=.ok (.bool (f p)) w)→(∀p∈l,f p=true→evE call ⟨[],cs,some p⟩ e w=.ok (g p) w)→dS call cs t e l w=.ok ((l.filter f).map g) w:=by
 intro l
 induction l with
 | nil=>exact fun _ _=>rfl
 | cons p l ih=>
  intro h1 h2;have ih:=ih (fun q hq=>h1 q (.tail _ hq)) (fun q hq=>h2 q (.tail _ hq));rw [vV,h1 p (.head _),NU];cases hf:f p with
  | false=>exact ih
  | true=>
   show ((evE call ⟨[],cs,some p⟩ e w).noExc.bind fun v w=>(dS call cs t e l w).bind fun l w=>.ok (v::l) w)=_;rw [(h2 p (.head _) hf)];show ((dS call cs t e l w).bind fun l w=>.ok (g p::l) w)=_;rw [ih];rfl
theorem lK {call:ax} {F:Fv} {e:IE} {w:Wd} {v:PV} (h:wpE call F e w (fun x w'=>x=v∧w'=w) fun _ _=>False):evE call F e w=.ok v w:=df (aZ _ _ _ _ h)
noncomputable abbrev RE (X:PV) (w:Wd):QC:=RQ fun v w'=>v=X∧w'=w
theorem ba {d f:Nat} {args:LB} {w:Wd} {fi:FI} {X:PV} (h:tab f=.ir fi) (hl:args.length=fi.ps.length) (hb:wpC (ak d) fi.body (args.map .val++MF fi.os.length .un) w (RE X w) (fun _ _=>False)):ak (d+1) f args w=.ok X w:=
 df (aY h hl hb)
theorem av {r:Rs PV} {X:PV} {w:Wd} {Q:LL} {R:LJ} (h:r=.ok X w) (q:Q X w):CallP r Q R:=⟨by refine h▸?_;exact q⟩
theorem ac {p:Prop} [Decidable p] {a b:Prop} (h:p→a) (h':¬p→b):(decide p=true→a)∧(decide p=false→b):=⟨fun e=>h (of_decide_eq_true e),fun e=>h' (of_decide_eq_false e)⟩
theorem bq {p:Prop} [Decidable p] {a b:Prop} (h:¬p→a) (h':p→b):((!decide p)=true→a)∧((!decide p)=false→b):=⟨fun e=>h (by simpa using e),fun e=>h' (by simpa using e)⟩
theorem cM {p:Prop} [Decidable p] {a b:Prop} (h:p→a) (h':¬p→b):(decide p=false→b)∧(decide p=true→a):=⟨fun e=>h' (of_decide_eq_false e),fun e=>h (of_decide_eq_true e)⟩
theorem lR {p:Prop} [Decidable p] {a b:Prop} (h:¬p→a) (h':p→b):((!decide p)=false→b)∧((!decide p)=true→a):=⟨fun e=>h' (by simpa using e),fun e=>h (by simpa using e)⟩
theorem cw {c:Bool} {a b:Prop} (h:c=true→a) (h':c=false→b):(c=true→a)∧(c=false→b):=⟨h,h'⟩
theorem be {a b:Prop} (h:a):(true=true→a)∧(true=false→b):=⟨fun _=>h,(fun e=>nomatch e)⟩
theorem aD {a b:Prop} (h:b):(false=true→a)∧(false=false→b):=⟨(fun e=>nomatch e),fun _=>h⟩
theorem lQ {a b:Prop} (h:a):(true=false→b)∧(true=true→a):=⟨(fun e=>nomatch e),fun _=>h⟩
theorem gm {a b:Prop} (h:b):(false=false→b)∧(false=true→a):=⟨fun _=>h,(fun e=>nomatch e)⟩
theorem mh {call:ax} {k:Nat} {b:IC} {Q:QC} {R:LJ} {vs:LC} {w:Wd} (h:Q .next vs w):LoopP [] (dA k (exC call b) [] ⟨vs,[]⟩ w) Q R:=⟨⟨rfl,h⟩⟩
theorem kK {call:ax} {k:Nat} {b:IC} {Q:QC} {R:LJ} {v:PV} {l:LB} {vs:LC} {w:Wd} (h:eJ vs k v fun vs=>wpC call b vs w (lA (fun vs w=>LoopP [] (dA k (exC call b) l ⟨vs,[]⟩ w) Q R) Q) R):LoopP [] (dA k (exC call b) (v::l) ⟨vs,[]⟩ w) Q R:=by
 refine ⟨?_⟩;rw [kc];obtain ⟨vs1,e1,h⟩:=ol (w:=w) h;refine br (bI (v12 _ e1 (br (ai (cC _ _ _ _ _ h) (fun p w h=>?_) fun _ _ h=>h))));obtain ⟨f,vs',cs⟩:=p;obtain ⟨rfl,h⟩:=h;cases f with
 | next=>exact h.h
 | cont=>exact h.h
 | brk=>exact ⟨rfl,h⟩
 | ret v=>exact ⟨rfl,h⟩
theorem bO {α β:Type} {l:List α} {f g:α→β} (h:l.map f=l.map g):∀a∈l,f a=g a:=by
 induction l with
 | nil=>exact fun _ h=>nomatch h
 | cons x r ih=>
  injection h with h1 h2;intro a ha;rcases Me.mp ha with rfl|ha
  ·exact h1
  ·exact ih h2 a ha
noncomputable def au (n:Nat):Bool:=n==32||n==9||n==10
noncomputable def aP (n:Nat):Int:=if 48≤n∧n≤57 then (n:Int)-48 else if 97≤n∧n≤122 then (n:Int)-87 else if 65≤n∧n≤90 then (n:Int)-55 else -1
theorem e17 (d:Nat) (w:Wd):∀n∈Sg,ak (d+1) 17 [.str [n]] w=.ok (.bool (au n)) w:=bO (by kernel_rfl)
theorem e18 (d:Nat) (w:Wd):∀n∈Sg,ak (d+1) 18 [.str [n]] w=.ok (.int (aP n)) w:=bO (by kernel_rfl)
noncomputable def baseN (n:Nat):Int:=if n=120∨n=88 then 16 else if n=111∨n=79 then 8 else if n=98∨n=66 then 2 else if n=100∨n=68 then 10 else 0
theorem e20 (d:Nat) (w:Wd):∀n∈Sg,ak (d+1) 20 [.str [n]] w=.ok (.int (baseN n)) w:=bO (by kernel_rfl)
noncomputable def fy:List (Nat×LA):=[(233,[0,1,8,11,12,18]),(20013,[0,1,8,12,18]),(304,[0,1,8,16,12,18]),(178,[8,12]),(8364,[8,12]),(160,[12,14]),(8203,[3,14]),(173,[3]),(57344,[3]),(983040,[3]),(8212,[8,12,13]),(8255,[8,12,13,18])]
noncomputable def rX:List (Nat×LA):=[(5,[48,49,50,51,52,53,54,55,56,57]),(11,[97,98,99,100,101,102,103,104,105,106,107,108,109,110,111,112,113,114,115,116,117,118,119,120,121,122]),(16,[65,66,67,68,69,70,71,72,73,74,75,76,77,78,79,80,81,82,83,84,85,86,87,88,89,90]),(1,[97,98,99,100,101,102,103,104,105,106,107,108,109,110,111,112,113,114,115,116,117,118,119,120,121,122,65,66,67,68,69,70,71,72,73,74,75,76,77,78,79,80,81,82,83,84,85,86,87,88,89,90]),(0,[97,98,99,100,101,102,103,104,105,106,107,108,109,110,111,112,113,114,115,116,117,118,119,120,121,122,65,66,67,68,69,70,71,72,73,74,75,76,77,78,79,80,81,82,83,84,85,86,87,88,89,90,48,49,50,51,52,53,54,55,56,57]),(19,[48,49,50,51,52,53,54,55,56,57,97,98,99,100,101,102,65,66,67,68,69,70]),(18,[97,98,99,100,101,102,103,104,105,106,107,108,109,110,111,112,113,114,115,116,117,118,119,120,121,122,65,66,67,68,69,70,71,72,73,74,75,76,77,78,79,80,81,82,83,84,85,86,87,88,89,90,48,49,50,51,52,53,54,55,56,57,95]),(14,[32,9,10]),(3,[9,10,0,127]),(13,[95,45,123,125,34,92])]
noncomputable def cf (i c:Nat):Bool:=match fy.lookup c with
 | some l=>l.contains i
 | none=>match rX.lookup i with
  | some l=>l.contains c
  | none=>i==2||(!([9,10,0,127]:LA).contains c&&(i==12||c != 32))
noncomputable def sc:LA:=[0,1,2,3,5,8,11,12,13,14,16,18,19]
theorem Kf (d:Nat) (w:Wd) (i:Nat) (h:sc.contains i=true):(Sg.map fun n=>ak (d+4) 43 [.str (nm i),.str [n]] w)=Sg.map fun n=>.ok (.bool (cf i n)) w:=by
 have h:i∈sc:=Mq.mp h;revert h;simp only [sc,Me,ML,or_false];rintro (rfl|rfl|rfl|rfl|rfl|rfl|rfl|rfl|rfl|rfl|rfl|rfl|rfl)<;>kernel_rfl
theorem e43 (d:Nat) (w:Wd) (i:Nat) (h:sc.contains i=true):∀n∈Sg,ak (d+4) 43 [.str (nm i),.str [n]] w=.ok (.bool (cf i n)) w:=bO (Kf d w i h)
theorem Tx.sub {t u:LA} (h:Tx t) (k:∀c∈u,c∈t) (l:u.length≤t.length):Tx u:=⟨fun c hc=>h.sg c (k c hc),Mj l h.len⟩
theorem sQ {α:Type} (p:List α) (c d:α) (r:List α):(p++c::r).getD p.length d=c:=by simp [NS]
theorem oG (p:LA) (c:Nat) (r:LA):∃j,seqIndex? (p.length:Int) (p++c::r).length=some j∧(p++c::r).getD j 0=c:=
 (v12 p.length (az (by simp)) (sQ p c 0 r))
noncomputable def fT (base:Int):Int→LA→Option Int
 | v,[]=>some v
 | v,c::r=>if aP c<0∨base≤aP c then none else fT base (v*base+aP c) r
theorem kq (base v:Int) (c:Nat) (r:LA):fT base v (c::r)=if aP c<0∨base≤aP c then none else fT base (v*base+aP c) r:=rfl
theorem kU {α:Type} {s:List α} (h:2<s.length):∃a c x r,s=a::c::x::r:=by
 cases s with|nil=>cases h|cons a s=>?_
 cases s with|nil=>exact absurd h (show ¬2<1 by decide)|cons c s=>?_
 cases s with|nil=>exact absurd h (show ¬2<2 by decide)|cons x r=>exact ⟨_,_,_,_,rfl⟩
noncomputable def bo (t:LA) (base:Int):Option Int:=if t=[] then none else fT base 0 t
noncomputable def gt:Option Int→PV
 | none=>.none
 | some i=>.int i
noncomputable def I19 (t:LA) (base:Int) (w:Wd) (l:LB) (vs:LC) (w':Wd):Prop:=∀zG:Prop,(∀(h1:w'=w) (r v s3 s4:_) (h2:l=eB r) (h3:vs=[.val (.str t),.val (.int base),.val (.int v),s3,s4]) (h4:s3.free=true) (h5:s4.free=true) (h6:fT base v r=fT base 0 t) (h7:∀c∈r,c∈Sg),zG)→zG
theorem I19.mk {t:LA} {base:Int} {w:Wd} {l:LB} {vs:LC} {w':Wd} (h1:w'=w) (r v s3 s4:_) (h2:l=eB r) (h3:vs=[.val (.str t),.val (.int base),.val (.int v),s3,s4]) (h4:s3.free=true) (h5:s4.free=true) (h6:fT base v r=fT base 0 t) (h7:∀c∈r,c∈Sg):I19 t base w l vs w':=fun _ zk=>zk h1 r v s3 s4 h2 h3 h4 h5 h6 h7
theorem e19 (d:Nat) (t:LA) (ht:∀c∈t,c∈Sg) (base:Int) (hb:MG base≤64) (w:Wd):ak (d+2) 19 [.str t,.int base] w=.ok (gt (bo t base)) w:=by
 refine ba (fi:=zS) rfl rfl ?_;refine ac (fun h=>?_) (fun h=>?_)
 ·exact ⟨by rw [bo,if_pos h];rfl,rfl⟩
 ·have hX:bo t base=fT base 0 t:=if_neg h;refine ⟨rfl,⟨_,rfl,?_⟩⟩;refine eG (I19 t base w) ?_ ?_ _ _ _ (I19.mk rfl t 0 (.un) (.un) rfl rfl rfl rfl rfl ht)
  ·rintro vs w' zh;refine zh _ ?_;clear zh;rintro rfl r v s3 s4 hl rfl h3 h4 e hr;cases r with
   | nil=>exact ⟨by refine hX▸e▸?_;rfl,rfl⟩
   | cons _ _=>injection hl
  ·rintro x l vs w' zh;refine zh _ ?_;clear zh;rintro rfl r v s3 s4 hl rfl h3 h4 e hr;cases r with
   | nil=>injection hl
   | cons c r=>
    cases hl;rw [←e,kq] at hX;rw [kq] at e;refine ⟨h3,av (e18 d w' c (hr c (.head _))) ⟨h4,?_⟩⟩;refine cM (fun h1=>?_) (fun h1=>?_)
    ·exact be ⟨by rw [hX,if_pos (.inl h1)];rfl,rfl⟩
    ·refine ac (fun h2=>?_) (fun h2=>?_)
     ·exact ⟨by rw [hX,if_pos (.inr h2)];rfl,rfl⟩
     ·rw [if_neg (fun x=>x.elim h1 h2)] at e;exact ⟨.inr hb,rfl,I19.mk rfl r _ _ _ rfl rfl rfl rfl e (fun c hc=>hr c (.tail _ hc))⟩
noncomputable def eT (s:LA):LA:=(s.reverse.dropWhile au).reverse
noncomputable def gu (t:LA):LA:=eT (t.dropWhile au)
theorem dj (s:LA) (c:Nat):eT (s++[c])=if au c then eT s else s++[c]:=by
 unfold eT;rw [List.reverse_append,List.reverse_cons,List.reverse_nil,MT,List.singleton_append,Mv];cases au c<;>simp
noncomputable def aL (body:LA):Option Int:=
 match body with
 | 48::c::d::r=>if 0<baseN c then bo (d::r) (baseN c) else bo body 10
 | _=>bo body 10
noncomputable def cO:LA→Option Int
 | 45::body=>(aL body).map fun v=>-v
 | 43::body=>aL body
 | body=>aL body
noncomputable def aH (t:LA):Option Int:=cO (gu t)
noncomputable abbrev kO (t:LA) (i j:Nat):LC:=[.val (.str t),.val (.int i),.val (.int j),.un,.un,.un]
inductive IA (t:LA) (w:Wd) (m:Nat) (vs:LC) (w':Wd):Prop
 | mk (h1:w'=w) (p r) (h2:t=p++r) (h3:r.dropWhile au=t.dropWhile au) (h4:m=r.length) (h5:vs=kO t p.length t.length)
noncomputable def IB (t:LA) (p:LA) (w:Wd) (m:Nat) (vs:LC) (w':Wd):Prop:=∀zG:Prop,(∀(h1:w'=w) (s q:_) (h2:t=p++(s++q)) (h3:eT s=gu t) (h4:m=s.length) (h5:vs=kO t p.length (p.length+s.length)),zG)→zG
theorem IB.mk {t:LA} {p:LA} {w:Wd} {m:Nat} {vs:LC} {w':Wd} (h1:w'=w) (s q:_) (h2:t=p++(s++q)) (h3:eT s=gu t) (h4:m=s.length) (h5:vs=kO t p.length (p.length+s.length)):IB t p w m vs w':=fun _ zk=>zk h1 s q h2 h3 h4 h5
theorem Ki {d:Nat} {t:LA} (ht:Tx t) {w:Wd} {Q:QC} {R:LJ} {b:IC} (hb:b=.cons (.aug 1 .Add (.int 1)) .nil)
 (h:∀p r,t=p++r→r=t.dropWhile au→Q .next (kO t p.length t.length) w) :
 LoopP [] (eA (fun is w=>(evE (ak (d+2)) is.F (.bop .And (.cmp .Lt (.var 1) (.var 2)) (.call 17 (.cons (.sub (.var 0) (.var 1)) .nil))) w).bind bK) (exC (ak (d+2)) b) ip ⟨kO t 0 t.length,[]⟩ w) Q R:=by
 subst hb;refine aX (IA t w) (fun m vs w' hI=>?_) t.length _ _ (by have:=ht.len;exact uu this) ⟨rfl,[],t,rfl,rfl,rfl,rfl⟩;obtain ⟨rfl,p,r,rfl,hr,rfl,rfl⟩:=hI;refine ac (fun h1=>?_) (fun h1=>?_)
 ·cases r with
  | nil=>simp at h1
  | cons c r=>
   refine bS (by have:=ht.len;exact bL this) (oG p c r) ?_;refine av (e17 (d+1) w' c (ht.sg c (by simp))) ?_;refine cw (fun hb=>?_) (fun hb=>?_)
   ·refine ⟨_,rfl,rfl,r.length,by simp,rfl,p++[c],r,by simp,?_,rfl,?_⟩
    ·rw [←hr,Mv,if_pos hb]
    ·simp [kO]
   ·refine h p _ rfl ?_;rw [←hr,Mv,if_neg (by simp [hb])]
 ·have:r=[]:=by cases r with|nil=>rfl|cons c r=>exact absurd (by simp;exact gq) h1
  subst this;exact aD (h p [] rfl (by refine hr▸?_;rfl))
theorem aK {k:Int} {t p:LA} {c:Nat} {r:LA} (ht:t=p++c::r) (hk:k=p.length):∃j,seqIndex? k t.length=some j∧t.getD j 0=c:=by
 subst ht hk;exact oG p c r
theorem Kh {d:Nat} {t:LA} (ht:Tx t) {w:Wd} {Q:QC} {R:LJ} {b:IC} (hb:b=.cons (.aug 2 .Sub (.int 1)) .nil) {p r:LA} (hp:t=p++r) (hr:r=t.dropWhile au)
 (h:∀q,t=p++(gu t++q)→Q .next (kO t p.length (p.length+(gu t).length)) w) :
 LoopP [] (eA (fun is w=>(evE (ak (d+2)) is.F (.bop .And (.cmp .Lt (.var 1) (.var 2)) (.call 17 (.cons (.sub (.var 0) (.bin .Sub (.var 2) (.int 1))) .nil))) w).bind bK) (exC (ak (d+2)) b) ip ⟨kO t p.length t.length,[]⟩ w) Q R:=by
 subst hb;have hlen:t.length=p.length+r.length:=by exact hp▸Mf▸rfl
 refine aX (IB t p w) (fun m vs w' hI=>?_) r.length _ _ (by have:=ht.len;exact DT hlen this) (IB.mk rfl r [] (by rw [MM];exact hp) (by refine hr▸?_;rfl) rfl (by exact hlen▸rfl));refine hI _ ?_;clear hI;rintro rfl s q htq hm rfl rfl;refine ac (fun h1=>?_) (fun h1=>?_)
 ·obtain ⟨s',c,rfl⟩:∃s' c,s=s'++[c]:=(v21 s.dropLast (s.getLast (by rintro rfl;simp at h1)) ((Ow _).symm))
  have hI:=aK (k:=((p.length+(s'++[c]).length:Nat):Int)-1) (t:=t) (p:=p++s') (c:=c) (r:=q) (by refine htq▸?_;simp) (by simp;exact wM);refine bS (by have:=ht.len;exact bL this) hI ?_;refine av (e17 (d+1) w' c (ht.sg c (by refine htq▸?_;simp))) ?_;rw [dj] at hm;refine cw (fun hb=>?_) (fun hb=>?_)
  ·refine ⟨_,rfl,rfl,s'.length,by simp,IB.mk rfl s' (c::q) (by rw [htq];simp) ?_ rfl ?_⟩
   ·rw [if_pos hb] at hm;exact hm
   ·have:((p.length+(s'++[c]).length:Nat):Int)-1=((p.length+s'.length:Nat):Int):=by simp;exact wM
    exact this▸rfl
  ·rw [if_neg (by simp [hb])] at hm;rw [hm] at htq⊢;exact h q htq
 ·have:s=[]:=by cases s with|nil=>rfl|cons c r=>exact absurd (by simp;exact gq) h1
  subst this;refine aD ?_;have hm:[]=gu t:=hm;have:=h q (by refine hm▸?_;exact htq);replace this:=hm▸this;exact this
theorem og {t p s q:LA} {a b:Int} (ht:t=p++(s++q)) (ha:a=p.length) (hb:b=p.length+s.length):slc t (some a) (some b)=s:=by
 subst ht ha hb;unfold slc;simp only [NB];rw [el rfl (by simp),el (Ob _ _).symm (by simp)];simp
theorem nI (c:Nat):MG (baseN c)≤64:=by
 unfold baseN
 repeat' split
 all_goals decide
theorem Kg {d:Nat} {t p s q:LA} (ht:Tx t) (h:t=p++(s++q)) {w:Wd} {Q:LL} {R:LJ} (neg:Bool) {X:PV} (hX:X=gt ((aL s).map fun v=>if neg then -v else v)) (hQ:Q X w) :
 wpC (ak (d+2)) (.cons (.assign 4 (.int 0))
  (.cons (.ite (.bop .And (.cmp .Gt (.bin .Sub (.var 2) (.var 1)) (.int 2)) (.cmp .Eq (.sub (.var 0) (.var 1)) (.str [48]))) (.cons (.assign 4 (.call 20 (.cons (.sub (.var 0) (.bin .Add (.var 1) (.int 1))) .nil))) .nil) .nil)
  (.cons (.ite (.cmp .Gt (.var 4) (.int 0)) (.cons (.assign 5 (.call 19 (.cons (.slc (.var 0) (.bin .Add (.var 1) (.int 2)) (.var 2)) (.cons (.var 4) .nil)))) .nil) (.cons (.assign 5 (.call 19 (.cons (.slc (.var 0) (.var 1) (.var 2)) (.cons (.int 10) .nil)))) .nil))
  (.cons (.ite (.cmp .Is (.var 5) .none) (.cons (.ret .none) .nil) .nil) (.cons (.ret (.ite (.var 3) (.neg (.var 5)) (.var 5))) .nil)))))
  [.val (.str t),.val (.int p.length),.val (.int ((p.length+s.length:Nat):Int)),.val (.bool neg),.un,.un] w (RQ Q) R:=by
 have tail:∀(v:Option Int) (b:Int),aL s=v→wpC (ak (d+2)) (.cons (.ite (.cmp .Is (.var 5) .none) (.cons (.ret .none) .nil) .nil) (.cons (.ret (.ite (.var 3) (.neg (.var 5)) (.var 5))) .nil))
  [.val (.str t),.val (.int p.length),.val (.int ((p.length+s.length:Nat):Int)),.val (.bool neg),.val (.int b),.val (gt v)] w (RQ Q) R:=by
  intro v b hv;rw [hv] at hX;subst hX;cases v with
  | none=>exact be hQ
  | some v=>
   refine aD ?_;cases neg with
   | true=>exact be hQ
   | false=>exact aD hQ
 have len:=ht.len;have sgs:∀c∈s,c∈Sg:=fun c hc=>ht.sg c (by rw [h];simp [hc]);have dig:∀(u p' q':LA) (b a e:Int),t=p'++(u++q')→a=p'.length→e=p'.length+u.length→(∀c∈u,c∈Sg)→MG b≤64→aL s=bo u b→∀b',CallP (ak (d+2) 19 [.str (slc t (some a) (some e)),.int b] w) (fun v w=>eJ [.val (.str t),.val (.int p.length),.val (.int ((p.length+s.length:Nat):Int)),.val (.bool neg),.val (.int b'),.un] 5 v fun vs=>
  wpC (ak (d+2)) (.cons (.ite (.cmp .Is (.var 5) .none) (.cons (.ret .none) .nil) .nil) (.cons (.ret (.ite (.var 3) (.neg (.var 5)) (.var 5))) .nil)) vs w (RQ Q) R) R:=by
  intro u p' q' b a e h1 h2 h3 h4 h5 h6 b';rw [og h1 h2 h3];exact av (e19 d u h4 b h5 w) ⟨rfl,tail _ b' h6⟩
 have plain:∀b',aL s=bo s 10→¬(0:Int)<b'→wpC (ak (d+2)) (.cons (.ite (.cmp .Gt (.var 4) (.int 0)) (.cons (.assign 5 (.call 19 (.cons (.slc (.var 0) (.bin .Add (.var 1) (.int 2)) (.var 2)) (.cons (.var 4) .nil)))) .nil) (.cons (.assign 5 (.call 19 (.cons (.slc (.var 0) (.var 1) (.var 2)) (.cons (.int 10) .nil)))) .nil))
  (.cons (.ite (.cmp .Is (.var 5) .none) (.cons (.ret .none) .nil) .nil) (.cons (.ret (.ite (.var 3) (.neg (.var 5)) (.var 5))) .nil)))
  [.val (.str t),.val (.int p.length),.val (.int ((p.length+s.length:Nat):Int)),.val (.bool neg),.val (.int b'),.un] w (RQ Q) R:=by
  intro b' hw hb';refine ac (fun h1=>absurd h1 hb') (fun _=>?_);refine ⟨by exact dw len,dig s p q 10 _ _ h rfl (rfl) sgs (by decide) hw b'⟩
 have gt2:∀(K K':Prop),(2<s.length→K)→(¬2<s.length→K')→(decide ((2:Int)<((p.length+s.length:Nat):Int)-(p.length:Int))=true→K)∧(decide ((2:Int)<((p.length+s.length:Nat):Int)-(p.length:Int))=false→K'):=
  fun K K' h1 h2=>ac (fun h=>h1 (DS h)) (fun h=>h2 (DR h))
 refine ⟨rfl,gt2 _ _ (fun h2=>?_) (fun h2=>?_)⟩
 ·refine u41 (kU h2) ?_;rintro a c x r hs
  ·have h:=hs▸h;refine bS (bL len) (aK (k:=(p.length:Int)) (t:=t) (p:=p) (c:=a) (r:=c::x::r++q) h rfl) ?_;refine ac (fun h3=>?_) (fun h3=>?_)
   ·injection h3 with h3;subst h3;refine bS (bL len) (aK (k:=(p.length:Int)+1) (t:=t) (p:=p++[48]) (c:=c) (r:=x::r++q) (by rw [h];simp) (by simp)) ?_;refine av (e20 (d+1) w c (sgs c (by refine hs▸?_;simp))) ⟨rfl,?_⟩;by_cases hb:0<baseN c
    ·refine ac (fun _=>?_) (fun h1=>absurd hb h1);refine ⟨by exact dw len,dig (x::r) (p++[48,c]) q (baseN c) _ _ (by rw [h];simp) (by simp) (by rw [hs];simp;exact DQ) (fun c hc=>sgs c (by rw [hs];exact .tail _ (.tail _ hc))) (nI c) (by rw [hs,aL,if_pos hb]) _⟩
    ·exact plain _ (by rw [hs,aL,if_neg hb]) hb
   ·refine plain 0 ?_ (by decide);have:a≠48:=fun e=>h3 (by exact e▸rfl);refine hs▸?_;unfold aL
    split
    ·rename_i e;injection e with e;subst e;exact absurd rfl this
    ·rfl
 ·refine aD (plain 0 ?_ (by decide));unfold aL
  split
  ·exact absurd (by simp) h2
  ·rfl
theorem e21 (d:Nat) (t:LA) (ht:Tx t) (w:Wd):ak (d+3) 21 [.str t] w=.ok (gt (aH t)) w:=by
 refine ba (fi:=zR) rfl rfl ?_;have len:=ht.len;refine (v05 (bL len) (by decide:(2:Nat)≤1000) rfl rfl ?_);refine Ki ht rfl fun p r hp hr=>?_;refine Kh ht rfl hp hr fun q hq=>?_;refine ⟨rfl,?_⟩;generalize hm:gu t=mid at hq;have fin:=fun (neg:Bool) (p s q:LA) (h:t=p++(s++q)) (e:cO mid=(aL s).map fun v=>if neg then -v else v)=>
  Kg (d:=d) (w:=w) (Q:=fun v w'=>v=gt (aH t)∧w'=w) (R:=fun _ _=>False) ht h neg rfl (by rw [(show aH t=cO mid from by refine hm▸?_;rfl),e];exact ⟨rfl,rfl⟩)
 cases mid with
 | nil=>
  refine ac (fun h=>absurd h (by simp)) (fun _=>?_);exact aD (fin false p [] q hq (by show aL []=(aL []).map fun v=>v;simp))
 | cons a body=>
  refine ac (fun _=>?_) (fun h=>absurd h (by simp;exact gq));have hI:=aK (k:=(p.length:Int)) (t:=t) (p:=p) (c:=a) (r:=body++q) hq rfl;refine bS (bL len) hI ⟨by decide,?_⟩;refine ac (fun hs=>?_) (fun hs=>?_)
  ·refine bS (bL len) hI ?_;refine ⟨rfl,_,rfl,rfl,?_⟩;have h':t=(p++[a])++(body++q):=by rw [hq];simp
   refine (show ((p.length:Int)+1)=((p++[a]).length:Nat) from by simp)▸(show ((p.length+(a::body).length:Nat):Int)=(((p++[a]).length+body.length:Nat):Int) from by simp;exact wL)▸?_;refine fin (decide ([a]=[45])) (p++[a]) body q h' ?_;have:a=43∨a=45:=by simpa using hs
   rcases this with rfl|rfl
   ·show aL body=(aL body).map fun v=>v;simp
   ·rfl
  ·refine fin false p (a::body) q hq ?_;have hs:¬(a=43∨a=45):=by simpa using hs
   show cO (a::body)=(aL (a::body)).map fun v=>v;rw [RB];unfold cO
   split
   ·rename_i e;injection e with e;subst e;exact absurd (.inr rfl) hs
   ·rename_i e;injection e with e;subst e;exact absurd (.inl rfl) hs
   ·rfl
theorem mG:∀n∈Sg,Unicode.lowerOf n=cm n:=bO (by kernel_rfl)
theorem dM (n:Nat):1≤(cm n).length∧(cm n).length≤2:=by
 unfold cm
 repeat' split
 all_goals exact ⟨by simp,by simp⟩
theorem sm:∀n∈Sg,(n==0x3A3)=false:=bO (by kernel_rfl)
theorem sw {t:LA} (ht:∀c∈t,c∈Sg):(OU (txt t)).cps.toList=bb t:=by
 show ((t.toArray.mapIdx fun i c=>(PI t.toArray i).toArray).flatten).toList=_;refine Array.toList_flatten▸?_;have e:(t.toArray.mapIdx fun i c=>(PI t.toArray i).toArray).toList.map Sf=t.map cm:=by
  apply List.ext_getElem
  ·simp
  ·intro i h1 h2;simp only [Mp,QT,Array.size_mapIdx,Ml] at h1;simp only [List.getElem_map,Array.getElem_toList,Array.getElem_mapIdx];unfold PI;have hm:=NR h1;simp [h1,sm _ (ht _ hm),mG _ (ht _ hm)]
 refine e▸?_;rfl
theorem sx (t:LA):(bb t).length≤2*t.length:=by
 induction t with
 | nil=>simp [bb]
 | cons c r ih=>
  simp only [bb,List.flatMap_cons,Mf,Mr] at ih⊢;exact Cc ih ((dM c).2)
theorem gY {t:LA} (ht:Tx t):m0V .lower (.str t)=some (.str (bb t)):=by
 have e:=sw ht.sg;have h:Ol (OU (txt t)).length=false:=by
  unfold Ol;refine (show (OU (txt t)).length=(bb t).length from by refine e▸?_;simp [Qm])▸MQ▸?_;simp;exact Cb (sx t) ht.len
 show (if _ then _ else _)=_;exact (if_pos h)▸e▸rfl
theorem iW (x y:LA):Po (txt x) (txt y)=y.isPrefixOf x:=by
 unfold Po;rw [StrLaws.subAt_eq];show (decide (0+y.toArray.size≤x.toArray.size)&&((x.toArray.toList.drop 0).take y.toArray.size==y.toArray.toList))=_;rw [Nb];simp only [Ml,Oi,OG,MO,decide_eq_true_eq,beq_iff_eq,OF];constructor
 ·rintro ⟨_,h⟩;exact Oc.mpr h.symm
 ·intro h;exact ⟨h.length_le,(Oc.mp h).symm⟩
noncomputable def FJ:Option Bool→PV
 | none=>.none
 | some b=>.bool b
noncomputable def wT:List (LA):=[[116,114,117,101],[121,101,115],[111,110]]
noncomputable def wF:List (LA):=[[102,97,108,115,101],[110,111],[111,102,102]]
noncomputable def eD (y:LA):Option Bool:=
 if y∈[[],[111]] then none else if wT.any (fun x=>y.isPrefixOf x) then some true else if wF.any (fun x=>y.isPrefixOf x) then some false else none
noncomputable def gn (t:LA):Option Bool:=match aH t with
 | some v=>some (!decide (v=0))
 | none=>eD (bb t)
theorem gJ {d:Nat} {t y:LA} {w:Wd} {Q:QC} {R:LJ} (b:Bool):∀(ws:List (LA)) (s:Slot),s.free=true→
 (ws.any (fun x=>y.isPrefixOf x)=true→∀s,Q (.ret (.bool b)) [.val (.str t),.val .none,.val (.str y),s] w)→(ws.any (fun x=>y.isPrefixOf x)=false→∀s,s.free=true→Q .next [.val (.str t),.val .none,.val (.str y),s] w)→
 LoopP [] (dA 3 (exC (ak d) (.cons (.ite (.m1 .startswith (.var 3) (.var 2)) (.cons (.ret (.bool b)) .nil) .nil) .nil)) (ws.map .str) ⟨[.val (.str t),.val .none,.val (.str y),s],[]⟩ w) Q R:=by
 intro ws
 induction ws with
 | nil=>exact fun s hs h1 h2=>mh (h2 rfl s hs)
 | cons x ws ih=>
  intro s hs h1 h2;refine kK ⟨hs,_,congrArg some (congrArg PV.bool (iW x y)),?_⟩;refine cw (fun h=>h1 (by refine Np.symm▸h.symm▸?_;rfl) _) (fun h=>?_);exact ih _ rfl (fun h'=>h1 (by rw [Np,h',PH])) (fun h'=>h2 (by refine Np.symm▸h.symm▸h'.symm▸?_;rfl))
theorem e22 (d:Nat) (t:LA) (ht:Tx t) (w:Wd):ak (d+4) 22 [.str t] w=.ok (FJ (gn t)) w:=by
 refine ba (fi:=zQ) rfl rfl ?_;refine av (e21 d t ht w) ⟨rfl,?_⟩;unfold gn;cases aH t with
 | some v=>exact be ⟨rfl,rfl⟩
 | none=>
  refine aD ⟨_,gY ht,rfl,(by decide:(2:Nat)≤1000),?_⟩;generalize bb t=y;show (decide (y∈[[],[111]])=true→_)∧(decide (y∈[[],[111]])=false→_);refine ac (fun h=>?_) (fun h=>?_)
  ·exact ⟨by show PV.none=FJ (eD y);rw [eD,if_pos h];rfl,rfl⟩
  ·have e1:eD y=if wT.any (fun x=>y.isPrefixOf x) then some true else if wF.any (fun x=>y.isPrefixOf x) then some false else none:=by rw [eD,if_neg h]
   refine ⟨(by decide:(3:Nat)≤1000),_,rfl,?_⟩;refine gJ true wT _ rfl (fun h' s=>?_) (fun h' s hs=>?_)
   ·exact ⟨by refine e1▸(if_pos h')▸?_;rfl,rfl⟩
   ·refine ⟨(by decide:(3:Nat)≤1000),_,rfl,?_⟩;refine gJ false wF _ hs (fun h'' s=>?_) (fun h'' s hs=>?_)
    ·exact ⟨by refine e1.symm▸h'.symm▸h''.symm▸?_;rfl,rfl⟩
    ·exact ⟨by refine e1.symm▸h'.symm▸h''.symm▸?_;rfl,rfl⟩
noncomputable def cP (t:LA):Option Bool:=match gn t with
 | none=>none
 | some b=>if aH t≠none∧t≠[48]∧t≠[49] then none else some b
noncomputable def eh (name:LA) (v:Option Bool):Bool:=match v with
 | none=>false
 | some b=>if b then name≠nm 7 else name≠nm 15
noncomputable def di (name t:LA):PV:=if eh name (cP t) then aJ true (-1) else aJ false 0
theorem e44 (d:Nat) (name t:LA) (ht:Tx t) (w:Wd):ak (d+5) 44 [.str name,.str t] w=.ok (di name t) w:=by
 refine ba (fi:=zy) rfl rfl ?_;refine av (e22 d t ht w) ⟨rfl,?_⟩;have no:cP t=none→∀(w:Wd),(2:Nat)≤1000∧(aJ false 0=di name t∧w=w):=fun h w=>(v03 (by decide) (by rw [di,h];rfl) rfl)
 cases hb:gn t with
 | none=>exact lQ (be (no (by rw [cP,hb]) w))
 | some b=>
  refine gm ?_;refine av (e21 (d+1) t ht w) ?_;have hv:cP t=if aH t≠none∧t≠[48]∧t≠[49] then none else some b:=by rw [cP,hb]
  have yes:cP t=some b→wpC (ak (d+4)) (.cons (.ite (.bop .Or (.bop .And (.cmp .Eq (.var 0) (.str [116,114,117,101])) (.not (.var 2))) (.bop .And (.cmp .Eq (.var 0) (.str [102,97,108,115,101])) (.var 2))) (.cons (.ret (.tup (.cons (.bool false) (.cons (.int 0) .nil)))) .nil) .nil)
   (.cons (.ret (.tup (.cons (.bool true) (.cons (.neg (.int 1)) .nil)))) .nil)) [.val (.str name),.val (.str t),.val (.bool b)] w (RQ fun v w'=>v=di name t∧w'=w) (fun _ _=>False):=by
   intro hv;have hr:∀c,eh name (some b)=c→di name t=if c then aJ true (-1) else aJ false 0:=fun c e=>by rw [di,hv,e]
   refine ac (fun h=>?_) (fun h=>?_)
   ·cases b with
    | true=>
     refine gm ?_;refine ac (fun h'=>absurd (h.symm.trans h') (by decide)) (fun _=>aD ?_);exact ⟨by decide,by rw [hr true (by refine h▸?_;rfl)];rfl,rfl⟩
    | false=>
     refine lQ (be ?_);exact (v03 (by decide) (by rw [hr false (by refine h▸?_;rfl)];rfl) rfl)
   ·refine gm ?_;refine ac (fun h'=>?_) (fun h'=>?_)
    ·cases b with
     | true=>exact be (v03 (by decide) (by rw [hr false (by refine h'▸?_;rfl)];rfl) rfl)
     | false=>exact aD (v03 (by decide) (by rw [hr true (by refine h'▸?_;rfl)];rfl) rfl)
    ·refine aD (v03 (by decide) ?_ rfl);rw [hr true (by unfold eh;refine (show nm 7=[102,97,108,115,101] from rfl)▸(show nm 15=[116,114,117,101] from rfl)▸?_;cases b<;>simp [h,h'])];rfl
  cases hw:aH t with
  | none=>exact aD (aD (yes (by rw [hv,hw];exact if_neg fun h=>h.1 rfl)))
  | some v=>
   refine be (bq (fun h48=>bq (fun h49=>?_) (fun h49=>?_)) (fun h48=>?_))
   ·exact no (by rw [hv,hw];exact if_pos ⟨by simp,h48,h49⟩) w
   ·exact yes (by rw [hv];exact if_neg fun h=>h.2.2 h49)
   ·exact aD (yes (by refine hv▸?_;exact if_neg fun h=>h.2.1 h48))
theorem An (n:Nat):(((n:Int).toNat % 2 ^ 64:Nat):Int)=(n:Int) % 18446744073709551616:=rfl
theorem uB (N k:Nat):Int.subNatNat N (k+1)=(N:Int)-1-k:=by
 rw [Int.subNatNat_eq_coe,Int.sub_sub,PQ 1];rfl
theorem Ak (n:Nat):(-(Int.negSucc n)-1).toNat=n:=congrArg Int.toNat (PD (n:Int) 1)
theorem Am (n N:Nat):(N:Int)-1-(((-(Int.negSucc n)-1).toNat % N:Nat):Int)=Int.negSucc n % N:=by rw [Ak];exact (uB N (n % N)).symm
theorem GM (x:Int):Pf x 18446744073709551615=x % 18446744073709551616:=by
 cases x with
 | ofNat n=>
  rw [bitAnd_pp (x:=Int.ofNat n) (Na n) (by decide)];rw [show (Int.ofNat n).toNat &&& (18446744073709551615:Int).toNat=n % 2 ^ 64 from PU n 64];exact An n
 | negSucc n=>
  rw [bitAnd_np (Qq.mpr (Int.negSucc_lt_zero n)) (by decide)];rw [(show Rx (Int.negSucc n)=-(Int.negSucc n)-1 from by unfold Rx;exact Ca),show (18446744073709551615:Int).toNat &&& (-(Int.negSucc n)-1).toNat=(-(Int.negSucc n)-1).toNat % 2 ^ 64 from (Nat.and_comm _ _).trans (PU _ 64)];exact Am n 18446744073709551616
noncomputable def kL (n:Int):Int:=if 9223372036854775808≤n % 18446744073709551616 then n % 18446744073709551616-18446744073709551616 else n % 18446744073709551616
theorem e24 (d:Nat) (n:Int) (w:Wd):ak (d+1) 24 [.int n] w=.ok (.int (kL n)) w:=by
 refine ba (fi:=zO) rfl rfl ?_;refine ⟨.int 18446744073709551616,rfl,?_⟩;refine ⟨.int (Pf n 18446744073709551615),rfl,rfl,?_⟩;rw [GM];have h0:0≤n % 18446744073709551616:=by exact BZ
 have h1:n % 18446744073709551616<18446744073709551616:=by exact BY
 have hw:kL n=if 9223372036854775808≤n % 18446744073709551616 then n % 18446744073709551616-18446744073709551616 else n % 18446744073709551616:=rfl
 generalize n % 18446744073709551616=m at h0 h1 hw;refine ⟨.int (m.fdiv (2 ^ 63)),rfl,?_⟩;rw [(Int.fdiv_eq_ediv_of_nonneg _ (by decide))];refine ac (fun h=>?_) (fun h=>?_)
 ·refine ⟨.int 18446744073709551616,rfl,?_,rfl⟩;rw [hw,if_pos (BX h)]
 ·refine ⟨?_,rfl⟩;rw [hw,if_neg (BW h1 h)]
noncomputable def farV (t:LA):Nat→Nat
 | 0=>0
 | k+1=>if aH (t.take (k+1))=none then farV t k else k+1
theorem sZ (t:LA) (k:Nat):farV t (k+1)=if aH (t.take (k+1))=none then farV t k else k+1:=rfl
noncomputable def fm (name:LA) (v:Int):Bool:=!decide (name=nm 17)||decide (-9223372036854775808≤v∧v<9223372036854775808)
noncomputable def ka (name t:LA):PV:=match aH t with
 | some v=>aJ (fm name v) (-1)
 | none=>aJ false (farV t (t.length-1))
theorem dJ {t:LA} {k:Nat} (h:k≤t.length):slc t none (some (k:Int))=t.take k:=by
 unfold slc;simp only [NB];refine (el rfl h).symm▸?_;rfl
theorem uv (v:Int):decide (kL v=v)=decide (-9223372036854775808≤v∧v<9223372036854775808):=by
 rw [decide_eq_decide];unfold kL
 split<;>(first|exact BV (by assumption)|exact BU (by assumption))
noncomputable def I45 (name t:LA) (w:Wd) (m:Nat) (vs:LC) (w':Wd):Prop:=∀zG:Prop,(∀(h1:w'=w) (h2:m<t.length) (h3:vs=[.val (.str name),.val (.str t),.val .none,.val (.int m)]) (h4:farV t m=farV t (t.length-1)),zG)→zG
theorem I45.mk {name t:LA} {w:Wd} {m:Nat} {vs:LC} {w':Wd} (h1:w'=w) (h2:m<t.length) (h3:vs=[.val (.str name),.val (.str t),.val .none,.val (.int m)]) (h4:farV t m=farV t (t.length-1)):I45 name t w m vs w':=fun _ zk=>zk h1 h2 h3 h4
theorem e45 (d:Nat) (name t:LA) (ht:Tx t) (h0:t≠[]) (w:Wd):ak (d+4) 45 [.str name,.str t] w=.ok (ka name t) w:=by
 refine ba (fi:=zx) rfl rfl ?_;have len:=ht.len;refine av (e21 d t ht w) ⟨rfl,?_⟩;cases hw:aH t with
 | some v=>
  refine be ?_;have hr:∀b,fm name v=b→PV.tup [.bool b,.int (-1)]=ka name t:=fun b e=>by rw [ka,hw,←e];rfl
  refine lR (fun h=>(v03 (by decide:(2:Nat)≤1000) (hr true ?_) rfl)) (fun h=>?_)
  ·unfold fm;rw [show decide (name=nm 17)=false from decide_eq_false h];rfl
  ·refine av (e24 (d+2) v w) (v03 (by decide:(2:Nat)≤1000) (hr _ ?_) rfl);unfold fm;show _=decide (kL v=v);rw [show decide (name=nm 17)=true from decide_eq_true h,uv];rfl
 | none=>
  refine aD (v03 (bL len) rfl ?_);have hr:PV.tup [.bool false,.int (farV t (t.length-1))]=ka name t:=by rw [ka,hw];rfl
  have hl:0<t.length:=QZ.mpr h0;refine aX (I45 name t w) (fun m vs w' hI=>?_) (t.length-1) _ _ (BT len) (I45.mk rfl (wK hl) (by refine (show ((t.length:Int)-1)=((t.length-1:Nat):Int) by exact BR hl)▸?_;rfl) rfl);refine hI _ ?_;clear hI;rintro rfl hm rfl hf;refine ac (fun h1=>?_) (fun h1=>?_)
  ·refine ⟨by exact dw len,?_⟩;rw [dJ (BQ hm)];refine av (e21 d (t.take m) (ht.sub (fun c hc=>Pk hc) (by simp;exact BP)) w') ?_;obtain ⟨k,rfl⟩:∃k,m=k+1:=⟨m-1,by exact BO h1⟩
   rw [sZ] at hf;cases hk:aH (t.take (k+1)) with
   | none=>
    replace hf:=(if_pos hk)▸hf;refine be ⟨_,rfl,rfl,k,by exact xF,I45.mk rfl (BN hm) ?_ hf⟩;exact (show (((k+1:Nat):Int)-1)=(k:Int) by exact y_9)▸rfl
   | some v=>
    rw [if_neg (by rw [hk];simp)] at hf;refine aD (v03 (by decide:(2:Nat)≤1000) ?_ rfl);replace hr:=hf▸hr;exact hr
  ·refine aD (v03 (by decide:(2:Nat)≤1000) ?_ rfl);have:m=0:=by exact BM h1
   subst this;replace hr:=hf▸hr;exact hr
inductive BS where
 | n|e|s (u:Unit:=())
noncomputable def aG:BS→LA→LA
 | _,[]=>[]
 | .n,c::r=>if au c then c::r else if c=92 then aG .e r else aG .n r
 | .e,c::r=>if c=10 then aG .s r else aG .n r
 | .s,c::r=>if c=32∨c=9 then aG .s r else if au c then c::r else if c=92 then aG .e r else aG .n r
theorem en (c:Nat) (r:LA):aG .n (c::r)=if au c then c::r else if c=92 then aG .e r else aG .n r:=rfl
theorem oZ (c:Nat) (r:LA):aG .e (c::r)=if c=10 then aG .s r else aG .n r:=rfl
theorem wo (c:Nat) (r:LA):aG .s (c::r)=if c=32∨c=9 then aG .s r else if au c then c::r else if c=92 then aG .e r else aG .n r:=rfl
noncomputable def bJ:Bool→LA→Option (LA)
 | _,[]=>none
 | false,c::r=>if c=92 then bJ true r else if c=34 then some r else bJ false r
 | true,_::r=>bJ false r
theorem mt (c:Nat) (r:LA):bJ false (c::r)=if c=92 then bJ true r else if c=34 then some r else bJ false r:=rfl
noncomputable def brL:Nat→Bool→LA→Option (LA)
 | _,_,[]=>none
 | d,false,c::r=>if c=92 then brL d true r else if c=123 then brL (d+1) false r else if c=125 then (if d=1 then some r else brL (d-1) false r) else brL d false r
 | d,true,_::r=>brL d false r
theorem tP (d:Nat) (c:Nat) (r:LA):brL d false (c::r)=if c=92 then brL d true r else if c=123 then brL (d+1) false r else if c=125 then (if d=1 then some r else brL (d-1) false r) else brL d false r:=rfl
noncomputable def bW:LA→Bool
 | []=>true
 | c::_=>au c
noncomputable def ct:LA→Option (LA)
 | 123::r=>(brL 1 false r).filter bW
 | 34::r=>(bJ false r).filter bW
 | r=>some (aG .n r)
noncomputable def hO:Nat→LA→Option Nat
 | 0,_=>none
 | k+1,r=>match r.dropWhile au with
  | []=>none
  | c::s=>match ct (c::s) with
   | none=>some (s.length+1)
   | some r'=>hO k r'
theorem ke (k:Nat) (r:LA):hO (k+1) r=match r.dropWhile au with
 | []=>none
 | c::s=>match ct (c::s) with
  | none=>some (s.length+1)
  | some r'=>hO k r':=rfl
noncomputable def hJ (t:LA):PV:=match hO (t.length+1) t with
 | none=>aJ true (-1)
 | some n=>aJ false ((t.length-n:Nat):Int)
def dg (x:Nat):Prop:=0≤aP x
theorem ix {x:Nat} (h:dg x):au x=false∧x≠92∧x≠34∧x≠10:=by
 have key:(48≤x∧x≤57)∨(97≤x∧x≤122)∨(65≤x∧x≤90):=by
  unfold dg aP at h
  split at h
  ·exact .inl ‹_›
  ·split at h
   ·exact .inr (.inl ‹_›)
   ·split at h
    ·exact .inr (.inr ‹_›)
    ·exact absurd h (by decide)
 have h1:x≠32∧x≠9∧x≠10∧x≠92∧x≠34:=by exact BL key
 exact (v04 (by simp [au,h1.1,h1.2.1,h1.2.2.1]) h1.2.2.2.1 h1.2.2.2.2 h1.2.2.1)
theorem fz {r:LA}:∀{h:LA},(∀x∈h,dg x)→aG .n (h++r)=aG .n r
 | [],_=>rfl
 | x::h,hh=>by
  refine u03 (ix (hh x (.head _))) ?_;rintro h1 h2 _;show (if au x then _ else if x=92 then _ else aG .n (h++r))=_;rw [if_neg (by simp [h1]),if_neg h2,fz fun y hy=>hh y (.tail _ hy)]
theorem gz {r:LA}:∀{h:LA},(∀x∈h,dg x)→bJ false (h++r)=bJ false r
 | [],_=>rfl
 | x::h,hh=>by
  refine u04 (ix (hh x (.head _))) ?_;rintro _ h2 h3 _;show (if x=92 then _ else if x=34 then _ else bJ false (h++r))=_;rw [if_neg h2,if_neg h3,gz fun y hy=>hh y (.tail _ hy)]
noncomputable def spB (c:Nat):Bool:=decide (c=32∨c=9)
theorem lX:∀r:LA,aG .s r=aG .n (r.dropWhile spB):=by
 intro r
 induction r with
 | nil=>rfl
 | cons c r ih=>
  by_cases h:c=32∨c=9
  ·show (if c=32∨c=9 then aG .s r else _)=_;rw [if_pos h,Mv,if_pos (by simp [spB,h]),ih]
  ·have e:(c::r).dropWhile spB=c::r:=by rw [Mv,if_neg (by simpa [spB] using h)]
   rw [e];show (if c=32∨c=9 then _ else _)=_;rw [if_neg h];rfl
theorem oj:∀r:LA,bJ false r=bJ false (r.dropWhile spB)
 | []=>rfl
 | c::r=>by
  by_cases h:c=32∨c=9
  ·rw [Mv,if_pos (by simp [spB,h]),←oj r];show (if c=92 then _ else if c=34 then _ else bJ false r)=_;rw [if_neg (BK h),if_neg (BJ h)]
  ·rw [Mv,if_neg (by simpa [spB] using h)]
theorem jS {t p r:LA} {a b:Int} (ht:t=p++r) (ha:a=p.length) (hb:b=a+1):slc t (some a) (some b)=r.take 1:=by
 subst hb;cases r with
 | nil=>
  subst ht ha;unfold slc;simp only [NB];rw [el rfl (by simp)];simp
 | cons c r=>exact og (s:=[c]) (q:=r) ht ha (by refine ha▸?_;rfl)
noncomputable abbrev IZ:IC:=.cons (.assign 5 (.call 18 (.cons (.sub (.var 0) (.var 3)) .nil))) (.cons (.ite (.bop .Or (.cmp .Lt (.var 5) (.int 0)) (.cmp .Gt (.var 5) (.int 15))) (.cons .brk .nil) .nil)
 (.cons (.assign 4 (.bin .Add (.bin .Mult (.var 4) (.int 16)) (.var 5))) (.cons (.aug 3 .Add (.int 1)) .nil)))
noncomputable def I26 (t:LA) (a m:Int) (p r:LA) (w:Wd) (k:Nat) (vs:LC) (w':Wd):Prop:=∀zG:Prop,(∀(h1:w'=w) (h r' v s:_) (h2:r=h++r') (h3:(∀x∈h,dg x)) (h4:k=r'.length) (h5:0≤v) (h6:v≤1114111) (h7:s.free=true) (h8:vs=[.val (.str t),.val (.int a),.val (.int m),.val (.int (a+1+h.length)),.val (.int v),s]),zG)→zG
theorem I26.mk {t:LA} {a m:Int} {p r:LA} {w:Wd} {k:Nat} {vs:LC} {w':Wd} (h1:w'=w) (h r' v s:_) (h2:r=h++r') (h3:(∀x∈h,dg x)) (h4:k=r'.length) (h5:0≤v) (h6:v≤1114111) (h7:s.free=true) (h8:vs=[.val (.str t),.val (.int a),.val (.int m),.val (.int (a+1+h.length)),.val (.int v),s]):I26 t a m p r w k vs w':=fun _ zk=>zk h1 h r' v s h2 h3 h4 h5 h6 h7 h8
inductive DgQ (r:LA) (b:Int) (w:Wd) (v:PV) (w':Wd):Prop
 | mk (h1:w'=w) (s:Nat) (h r':LA) (h2:r=h++r') (h3:∀x∈h,dg x) (h4:v=.tup [.str [s],.int (b+h.length)])
theorem e26 (d:Nat) (t p r:LA) (c:Nat) (a:Int) (ht:Tx t) (hp:t=p++c::r) (ha:a=p.length) (w:Wd) :
 sat (ak (d+2) 26 [.str t,.int a] w) (DgQ r (a+1) w) (fun _ _=>False):=by
 refine aY (fi:=zN) rfl rfl ?_;have len:=ht.len;refine u12 (aK (t:=t) (p:=p) (c:=c) (r:=r) hp ha) ?_;rintro j hj hc;have hL:t.length<2 ^ 62:=by exact bL len
 have main:∀m:Int,wpC (ak (d+1)) (.cons (.assign 3 (.bin .Add (.var 1) (.int 1))) (.cons (.assign 4 (.int 0)) (.cons (.whl (.bop .And (.cmp .Lt (.var 3) (.var 2)) (.bop .And (.cmp .Lt (.var 3) (.bi .len (.cons (.var 0) .nil))) (.cmp .LtE (.var 4) (.int 69631)))) IZ)
  (.cons (.ite (.cmp .Eq (.var 3) (.bin .Add (.var 1) (.int 1))) (.cons (.ret (.tup (.cons (.sub (.var 0) (.var 1)) (.cons (.var 3) .nil)))) .nil) .nil)
  (.cons (.ret (.tup (.cons (.bi .chr (.cons (.var 4) .nil)) (.cons (.var 3) .nil)))) .nil)))))
  [.val (.str t),.val (.int a),.val (.int m),.un,.un,.un] w (RQ (DgQ r (a+1) w)) (fun _ _=>False):=by
  intro m;refine (v03 rfl rfl ?_);have fin:∀h r' v s,r=h++r'→(∀x∈h,dg x)→0≤v→v≤1114111→wpC (ak (d+1)) (.cons (.ite (.cmp .Eq (.var 3) (.bin .Add (.var 1) (.int 1))) (.cons (.ret (.tup (.cons (.sub (.var 0) (.var 1)) (.cons (.var 3) .nil)))) .nil) .nil)
   (.cons (.ret (.tup (.cons (.bi .chr (.cons (.var 4) .nil)) (.cons (.var 3) .nil)))) .nil)) [.val (.str t),.val (.int a),.val (.int m),.val (.int (a+1+(h.length:Nat))),.val (.int v),s] w (RQ (DgQ r (a+1) w)) (fun _ _=>False):=by
   intro h r' v s hr hd h0 h1;refine ac (fun _=>?_) (fun _=>?_)
   ·exact ⟨hL,j,hj,(by decide:(2:Nat)≤1000),rfl,_,h,r',hr,hd,rfl⟩
   ·exact ⟨_,if_pos ⟨h0,h1⟩,(by decide:(2:Nat)≤1000),rfl,_,h,r',hr,hd,rfl⟩
  refine aX (I26 t a m p r w) (fun k vs w' hI=>?_) r.length _ _ (by have:t.length=p.length+(r.length+1):=(by rw [hp];simp);exact qR len this) (I26.mk rfl [] r 0 (.un) rfl (fun _ h=>nomatch h) rfl (by decide) (by decide) rfl (by simp));refine hI _ ?_;clear hI;rintro rfl h r' v s hr hd rfl h0 h1 hs rfl;refine ac (fun _=>?_) (fun _=>aD (fin h r' v s hr hd h0 h1));refine ⟨hL,ac (fun hlt=>?_) (fun _=>aD (fin h r' v s hr hd h0 h1))⟩;refine ac (fun hv=>?_) (fun _=>fin h r' v s hr hd h0 h1);cases r' with
  | nil=>exact absurd hlt (by rw [hp,hr,ha];simp;exact BH)
  | cons x r'=>
   refine u12 (aK (k:=a+1+(h.length:Nat)) (t:=t) (p:=p++c::h) (c:=x) (r:=r') (by rw [hp,hr];simp) (by rw [ha];simp;exact BG)) ?_;rintro j' hj' hx;refine ⟨hL,j',hj',?_⟩;refine hx.symm▸?_;refine av (e18 d w' x (ht.sg x (by rw [hp,hr];simp))) ⟨hs,?_⟩;refine cM (fun hlt=>be (fin h _ v _ hr hd h0 h1)) (fun hge=>?_);refine ac (fun _=>fin h _ v _ hr hd h0 h1) (fun hle=>?_);refine ⟨.inr (by decide),rfl,_,rfl,rfl,r'.length,by simp,I26.mk rfl (h++[x]) r' (v*16+aP x) (.val (.int (aP x))) (by rw [hr];simp) (fun y hy=>?_) rfl (BF h0 hge) (BE hv hle) rfl ?_⟩
   ·refine Mx (Mi.mp hy) (fun hy=>?_) fun hy=>?_
    ·exact hd y hy
    ·obtain rfl:=My.mp hy;unfold dg;exact wy hge
   ·rw [show a+1+((h++[x]).length:Nat)=a+1+(h.length:Nat)+1 by simp;exact BD]
 refine ⟨rfl,hL,j,hj,?_⟩;refine ac (fun _=>⟨rfl,main _⟩) (fun _=>?_);refine ⟨hL,j,hj,?_⟩;exact ac (fun _=>⟨rfl,main _⟩) (fun _=>main _)
noncomputable abbrev Kx:IC:=.cons (.assign 4 (.call 18 (.cons (.sub (.var 0) (.var 2)) .nil))) (.cons (.ite (.bop .Or (.cmp .Lt (.var 4) (.int 0)) (.cmp .Gt (.var 4) (.int 7))) (.cons .brk .nil) .nil)
 (.cons (.assign 3 (.bin .Add (.bin .Mult (.var 3) (.int 8)) (.var 4))) (.cons (.aug 2 .Add (.int 1)) .nil)))
noncomputable def I27 (t:LA) (a:Int) (r:LA) (w:Wd) (k:Nat) (vs:LC) (w':Wd):Prop:=∀zG:Prop,(∀(h1:w'=w) (h r' v s:_) (h2:r=h++r') (h3:(∀x∈h,dg x)) (h4:k=r'.length) (h5:0≤v) (h6:v≤1000) (h7:s.free=true) (h8:vs=[.val (.str t),.val (.int a),.val (.int (a+h.length)),.val (.int v),s]),zG)→zG
theorem I27.mk {t:LA} {a:Int} {r:LA} {w:Wd} {k:Nat} {vs:LC} {w':Wd} (h1:w'=w) (h r' v s:_) (h2:r=h++r') (h3:(∀x∈h,dg x)) (h4:k=r'.length) (h5:0≤v) (h6:v≤1000) (h7:s.free=true) (h8:vs=[.val (.str t),.val (.int a),.val (.int (a+h.length)),.val (.int v),s]):I27 t a r w k vs w':=fun _ zk=>zk h1 h r' v s h2 h3 h4 h5 h6 h7 h8
theorem e27 (d:Nat) (t p r:LA) (a:Int) (ht:Tx t) (hp:t=p++r) (ha:a=p.length) (w:Wd) :
 sat (ak (d+2) 27 [.str t,.int a] w) (DgQ r a w) (fun _ _=>False):=by
 refine aY (fi:=zM) rfl rfl ?_;have len:=ht.len;have hL:t.length<2 ^ 62:=by exact bL len
 have hl:t.length=p.length+r.length:=by rw [hp,Mf]
 have fin:∀h r' v s,r=h++r'→(∀x∈h,dg x)→0≤v→v≤1000→wpC (ak (d+1)) (.cons (.ret (.tup (.cons (.bi .chr (.cons (.var 3) .nil)) (.cons (.var 2) .nil)))) .nil) [.val (.str t),.val (.int a),.val (.int (a+(h.length:Nat))),.val (.int v),s] w
  (RQ (DgQ r a w)) (fun _ _=>False):=fun h r' v s hr hd h0 h1=>
  ⟨_,if_pos ⟨h0,by exact BC h1⟩,(by decide:(2:Nat)≤1000),rfl,_,h,r',hr,hd,rfl⟩
 refine (v03 rfl rfl ?_);refine aX (I27 t a r w) (fun k vs w' hI=>?_) r.length _ _ (kG len hl) (I27.mk rfl [] r 0 (.un) rfl (fun _ h=>nomatch h) rfl (by decide) (by decide) rfl (by simp));refine hI _ ?_;clear hI;rintro rfl h r' v s hr hd rfl h0 h1 hs rfl;refine ac (fun _=>?_) (fun _=>aD (fin h r' v s hr hd h0 h1));refine ⟨hL,ac (fun hlt=>?_) (fun _=>aD (fin h r' v s hr hd h0 h1))⟩;refine ac (fun hv=>?_) (fun _=>fin h r' v s hr hd h0 h1);cases r' with
 | nil=>exact absurd hlt (by rw [hl,hr,ha];simp)
 | cons x r'=>
  obtain ⟨j',hj',hx⟩:=aK (k:=a+(h.length:Nat)) (t:=t) (p:=p++h) (c:=x) (r:=r') (by rw [hp,hr];simp) (by rw [ha];simp);refine ⟨hL,j',hj',?_⟩;rw [hx];refine av (e18 d w' x (ht.sg x (by rw [hp,hr];simp))) ⟨hs,?_⟩;refine cM (fun hlt=>be (fin h _ v _ hr hd h0 h1)) (fun hge=>?_);refine ac (fun _=>fin h _ v _ hr hd h0 h1) (fun hle=>?_);refine ⟨.inr (by decide),rfl,_,rfl,rfl,r'.length,by simp,I27.mk rfl (h++[x]) r' (v*8+aP x) (.val (.int (aP x))) (by rw [hr];simp) (fun y hy=>?_) rfl (BB h0 hge) (BA hv hle) rfl ?_⟩
  ·rcases Mi.mp hy with hy|hy
   ·exact hd y hy
   ·obtain rfl:=My.mp hy;unfold dg;exact wy hge
  ·rw [show a+((h++[x]).length:Nat)=a+(h.length:Nat)+1 by simp;exact Bz]
noncomputable def oM (x:Nat):Int:=NQ (txt [97,98,102,110,114,116,118]) (txt [x])
theorem sV:Sg.all (fun x=>decide (oM x<0)||(seqIndex? (oM x) 7).isSome)=true:=by decide +kernel
theorem yJ:([[48],[49],[50],[51],[52],[53],[54],[55]]:List (LA)).all (fun l=>decide (0≤aP (l.headD 0)))=true:=by decide
structure Esc (r r':LA):Prop where
 b:aG .e r=aG .n r'
 q:bJ true r=bJ false r'
 l:r'.length≤r.length
inductive EscQ (t r:LA) (w:Wd) (v:PV) (w':Wd):Prop
 | mk (h1:w'=w) (s p' r') (h2:t=p'++r') (h3:s.length≤1) (h4:v=.tup [.str s,.int p'.length]) (h5:Esc r r')
noncomputable def I28 (t:LA) (a:Int) (r1:LA) (w:Wd) (k:Nat) (vs:LC) (w':Wd):Prop:=∀zG:Prop,(∀(h1:w'=w) (p' r':_) (h2:t=p'++r') (h3:r'.dropWhile spB=r1.dropWhile spB) (h4:r'.length≤r1.length) (h5:k=r'.length) (s3:PV) (h6:vs=[.val (.str t),.val (.int a),.val (.str [10]),.val s3,.val (.int p'.length)]),zG)→zG
theorem I28.mk {t:LA} {a:Int} {r1:LA} {w:Wd} {k:Nat} {vs:LC} {w':Wd} (h1:w'=w) (p' r':_) (h2:t=p'++r') (h3:r'.dropWhile spB=r1.dropWhile spB) (h4:r'.length≤r1.length) (h5:k=r'.length) (s3:PV) (h6:vs=[.val (.str t),.val (.int a),.val (.str [10]),.val s3,.val (.int p'.length)]):I28 t a r1 w k vs w':=fun _ zk=>zk h1 p' r' h2 h3 h4 h5 s3 h6
theorem e28 (d:Nat) (t p r:LA) (a:Int) (ht:Tx t) (hp:t=p++92::r) (ha:a=p.length) (w:Wd) :
 sat (ak (d+3) 28 [.str t,.int a] w) (EscQ t r w) (fun _ _=>False):=by
 refine aY (fi:=zL) rfl rfl ?_;have len:=ht.len;have hL:t.length<2 ^ 62:=by exact bL len
 refine ⟨by exact dw len,?_⟩;rw [jS (show t=(p++[92])++r from by rw [hp];simp) (by rw [ha];simp) (xe)];cases r with
 | nil=>
  refine ⟨rfl,be ?_⟩;refine ⟨(by decide:(2:Nat)≤1000),EscQ.mk rfl [92] t [] (by simp) (by decide) ?_ ⟨rfl,rfl,MC _⟩⟩;rw [ha,hp];simp
 | cons x r=>
  have e2:a+2=((p++[92,x]).length:Nat):=by rw [ha];simp
  refine ⟨rfl,aD ⟨_,rfl,rfl,?_⟩⟩;show (decide (0≤oM x)=true→_)∧(decide (0≤oM x)=false→_);have hf:=Mo.mp sV x (ht.sg x (by rw [hp];simp));have plain:x≠10→Esc (x::r) r:=fun h=>⟨by show (if x=10 then _ else aG .n r)=_;rw [if_neg h],rfl,by simp⟩
  refine ac (fun h0=>?_) (fun h0=>?_)
  ·simp only [Qc,decide_eq_true_eq,NY] at hf;obtain ⟨j,hj⟩:=hf.resolve_left (xG h0);refine ⟨by decide,j,hj,(by decide:(2:Nat)≤1000),EscQ.mk rfl [([7,8,12,10,13,9,11]:LA).getD j 0] (p++[92,x]) r (by rw [hp];simp) (MC 1) (by rw [e2]) (plain ?_)⟩;rintro rfl;exact absurd h0 (by decide +kernel)
  ·refine ac (fun h10=>?_) (fun h10=>?_)
   ·have h10:x=10:=by simpa using h10
    subst h10;refine ⟨rfl,?_⟩;have fin:∀p' r',t=p'++r'→r'=r.dropWhile spB→r'.length≤r.length→Esc (10::r) r':=fun p' r' h1 h2 h3=>⟨by
     show aG .s r=_;rw [lX,h2],by
     show bJ false r=_;rw [oj,h2],PN h3⟩
    refine aX (I28 t a r w) (fun k vs w' hI=>?_) r.length _ _ (by have:t.length=p.length+(r.length+2):=(by rw [hp];simp);exact By len this) (I28.mk rfl (p++[92,10]) r (by rw [hp];simp) rfl (MC _) rfl _ (by rw [e2];rfl));refine hI _ ?_;clear hI;rintro rfl p' r' h1 h2 h3 rfl s3 rfl;refine (v03 (dw len) (by decide:(2:Nat)≤1000) ?_);rw [jS h1 rfl rfl];cases r' with
    | nil=>exact aD ⟨(by decide:(2:Nat)≤1000),EscQ.mk rfl _ p' [] h1 (by decide) rfl (fin p' [] h1 h2 (by simp))⟩
    | cons y r'=>
     have ey:decide ([y]∈[[32],[9]])=spB y:=by unfold spB;rw [decide_eq_decide];simp
     show (decide ([y]∈[[32],[9]])=true→_)∧(decide ([y]∈[[32],[9]])=false→_);rw [ey];rw [Mv] at h2;refine cw (fun hb=>?_) (fun hb=>?_)
     ·rw [if_pos hb] at h2;exact ⟨_,rfl,rfl,r'.length,by simp,I28.mk rfl (p'++[y]) r' (by rw [h1];simp) h2 (by simp at h3;exact qQ h3) rfl s3 (by simp)⟩
     ·rw [if_neg (by simp [hb])] at h2;exact ⟨(by decide:(2:Nat)≤1000),EscQ.mk rfl _ p' (y::r') h1 (by decide) rfl (fin p' _ h1 h2 h3)⟩
   ·have h10:x≠10:=fun h=>h10 (by rw [h];rfl);refine ⟨(by decide:(3:Nat)≤1000),ac (fun _=>?_) (fun _=>?_)⟩
    ·refine ⟨ai (e26 d t (p++[92]) r x (a+1) ht (by rw [hp];simp) (by rw [ha];simp) w) (fun v w' hh=>?_) fun _ _ h=>h⟩;obtain ⟨rfl,s,h,r',hr,hd,rfl⟩:=hh;refine (EscQ.mk rfl [s] (p++92::x::h) r' (by rw [hp,hr];simp) (MC 1) (by rw [show ((p++92::x::h).length:Int)=a+1+1+(h.length:Nat) by rw [ha];simp;exact Bx]) ?_);have:=plain h10;refine ⟨this.b.trans (by rw [hr,fz hd]),this.q.trans (by rw [hr,gz hd]),by rw [hr];simp;exact Bw⟩
    ·refine ⟨(by decide:(8:Nat)≤1000),ac (fun ho=>?_) (fun _=>?_)⟩
     ·refine ⟨ai (e27 d t (p++[92]) (x::r) (a+1) ht (by rw [hp];simp) (by rw [ha];simp) w) (fun v w' hh=>?_) fun _ _ h=>h⟩;obtain ⟨rfl,s,h,r',hr,hd,rfl⟩:=hh;refine (EscQ.mk rfl [s] (p++92::h) r' (by rw [hp,hr];simp) (MC 1) (by rw [show ((p++92::h).length:Int)=a+1+(h.length:Nat) by rw [ha];simp;exact wL]) ?_);have hdx:dg x:=(of_decide_eq_true (Mo.mp yJ _ ho):0≤aP x)
      have:=plain h10;refine ⟨this.b.trans (by rw [←(show aG .n (x::r)=aG .n r from fz (h:=[x]) fun y hy=>by rw [My.mp hy];exact hdx),hr,fz hd]),this.q.trans (by rw [←(show bJ false (x::r)=bJ false r from gz (h:=[x]) fun y hy=>by rw [My.mp hy];exact hdx),hr,gz hd]),by rw [hr];simp⟩
     ·exact ⟨(by decide:(2:Nat)≤1000),EscQ.mk rfl [x] (p++[92,x]) r (by rw [hp];simp) (MC 1) (by rw [e2];rfl) (plain h10)⟩
noncomputable def I30 (t what:LA) (a:Int) (w:Wd) (k:Nat) (vs:LC) (w':Wd):Prop:=∀zG:Prop,(∀(h1:w'=w) (p r:_) (h2:t=p++r) (h3:k=r.length) (h4:vs=[.val (.str t),.val (.int a),.val (.str what),.val (.int p.length)]),zG)→zG
theorem I30.mk {t what:LA} {a:Int} {w:Wd} {k:Nat} {vs:LC} {w':Wd} (h1:w'=w) (p r:_) (h2:t=p++r) (h3:k=r.length) (h4:vs=[.val (.str t),.val (.int a),.val (.str what),.val (.int p.length)]):I30 t what a w k vs w':=fun _ zk=>zk h1 p r h2 h3 h4
theorem uH (t:LA) (lo hi:Option Int):(slc t lo hi).length≤t.length:=cQ t lo hi
theorem e30 (d:Nat) (t p r what:LA) (a:Int) (ht:Tx t) (hp:t=p++r) (ha:a=p.length) (hw:what.length≤100) (w:Wd) :
 sat (ak (d+2) 30 [.str t,.int a,.str what] w) (fun v w'=>w'=w∧v=.none∧bW r=true) (fun _ w'=>w'=w∧bW r=false):=by
 refine aY (fi:=zK) rfl rfl ?_;have len:=ht.len;have hL:t.length<2 ^ 62:=by exact bL len
 have hl:t.length=p.length+r.length:=by exact hp▸Mf▸rfl
 refine ⟨hL,cM (fun h=>?_) (fun h=>?_)⟩
 ·cases r with
  | nil=>exact be (v03 rfl rfl rfl)
  | cons c r=>exact absurd h (by rw [hl,ha];simp;exact gq)
 ·cases r with
  | nil=>exact absurd (by refine hl▸ha▸?_;simp) h
  | cons c r=>
   have hI:=aK (k:=a) hp ha;refine bS hL hI ?_;refine av (e17 d w c (ht.sg c (by rw [hp];simp))) (cw (fun hb=>(v03 rfl rfl hb)) (fun hb=>?_));refine ⟨rfl,?_⟩;have fin:∀e:Int,wpC (ak (d+1)) (.cons (.raiseE (.bin .Add (.bin .Add (.bin .Add (.bin .Add (.str [108,105,115,116,32,101,108,101,109,101,110,116,32,105,110,32]) (.var 2)) (.str [32,102,111,108,108,111,119,101,100,32,98,121,32,34])) (.slc (.var 0) (.var 1) (.var 3))) (.str [34,32,105,110,115,116,101,97,100,32,111,102,32,115,112,97,99,101]))
    (.tup (.cons (.str [84,67,76]) (.cons (.str [86,65,76,85,69]) (.cons (.str [76,73,83,84]) (.cons (.str [74,85,78,75]) .nil)))))) .nil) [.val (.str t),.val (.int a),.val (.str what),.val (.int e)] w (RQ fun v w'=>w'=w∧v=.none∧bW (c::r)=true) (fun _ w'=>w'=w∧bW (c::r)=false):=by
    intro e;have h1:=uH t (some a) (some e);exact ⟨by simp;exact Bv hw,by simp;exact Bu hw,by exact dw len,by simp;exact Bt hw len h1,by simp;exact Bs hw len h1,(by decide:(4:Nat)≤1000),rfl,hb⟩
   refine aX (I30 t what a w) (fun k vs w' hI=>?_) (c::r).length _ _ (kG len hl) (I30.mk rfl p (c::r) hp rfl (by refine ha▸?_;rfl));refine hI _ ?_;clear hI;rintro rfl p' r' h1 rfl rfl;refine ⟨hL,ac (fun h2=>?_) (fun _=>aD (fin _))⟩;refine ac (fun _=>?_) (fun _=>aD (fin _));cases r' with
   | nil=>exact absurd h2 (by refine h1▸?_;simp)
   | cons x r'=>
    refine u12 (aK (k:=(p'.length:Int)) h1 rfl) ?_;rintro j hj hx;refine ⟨hL,j,hj,?_⟩;refine hx.symm▸?_;refine av (e17 d w' x (ht.sg x (by refine h1▸?_;simp))) (cw (fun _=>?_) (fun _=>fin _));exact ⟨_,rfl,rfl,r'.length,by simp,I30.mk rfl (p'++[x]) r' (by rw [h1];simp) rfl (by simp)⟩
inductive ElQ (t:LA) (o:Option (LA)) (w:Wd) (v:PV) (w':Wd):Prop
 | mk (h1:w'=w) (s p' r') (h2:t=p'++r') (h3:v=.tup [.str s,.int p'.length]) (h4:o=some r')
inductive ElR (o:Option (LA)) (w:Wd) (x_:XC) (w':Wd):Prop
 | mk (h1:w'=w) (h2:o=none)
inductive B31 (t r:LA) (dp:Nat) (a:Int):Prop
 | inl (p' r':LA) (h1:t=p'++r') (h2:a=p'.length) (h3:brL dp false r'=brL 1 false r)
 | inr (h1:(t.length:Int)≤a) (h2:brL 1 false r=none)
noncomputable def I31 (t:LA) (f:Int) (r:LA) (w:Wd) (k:Nat) (vs:LC) (w':Wd):Prop:=∀zG:Prop,(∀(h1:w'=w) (dp:Nat) (at_:Int) (s:Slot) (h2:s.free=true) (h3:k=(t.length-at_).toNat) (h4:1≤dp) (h5:B31 t r dp at_) (h6:vs=[.val (.str t),.val (.int f),.val (.int dp),.val (.int at_),s]),zG)→zG
theorem I31.mk {t:LA} {f:Int} {r:LA} {w:Wd} {k:Nat} {vs:LC} {w':Wd} (h1:w'=w) (dp:Nat) (at_:Int) (s:Slot) (h2:s.free=true) (h3:k=(t.length-at_).toNat) (h4:1≤dp) (h5:B31 t r dp at_) (h6:vs=[.val (.str t),.val (.int f),.val (.int dp),.val (.int at_),s]):I31 t f r w k vs w':=fun _ zk=>zk h1 dp at_ s h2 h3 h4 h5 h6
theorem e31 (d:Nat) (t p r:LA) (f:Int) (ht:Tx t) (hp:t=p++r) (hf:f=p.length) (w:Wd) :
 sat (ak (d+3) 31 [.str t,.int f] w) (ElQ t ((brL 1 false r).filter bW) w) (ElR ((brL 1 false r).filter bW) w):=by
 refine aY (fi:=zJ) rfl rfl ?_;have len:=ht.len;have hL:t.length<2 ^ 62:=by exact bL len
 have hl:t.length=p.length+r.length:=by rw [hp,Mf]
 refine (v04 (by decide:(2:Nat)≤1000) rfl rfl ?_);refine aX (I31 t f r w) (fun k vs w' hI=>?_) r.length _ _ (kG len hl) (I31.mk rfl 1 f (.un) rfl (Bq hf hl) (by decide) (.inl p r hp hf rfl) rfl);refine hI _ ?_;clear hI;rintro rfl dp a s hs rfl hdp hb rfl;refine ⟨hL,ac (fun h1=>?_) (fun h1=>?_)⟩
 ·rcases hb with ⟨p',r',h2,h3,h4⟩|⟨h2,_⟩
  ·cases r' with
   | nil=>exact absurd h1 (by rw [h2,h3];simp)
   | cons c r'=>
    refine bS hL (aK (k:=a) h2 h3) ⟨hs,?_⟩;have stp:∀(dp':Nat) (s':Slot) (x:Int),s'.free=true→1≤dp'→x=a+1→brL dp' false r'=brL 1 false r→Dn (I31 t f r w') ((t.length:Int)-a).toNat [.val (.str t),.val (.int f),.val (.int dp'),.val (.int x),s'] w':=fun dp' s' x h5 h6 hx h7=>
     ⟨_,by exact Bp h1 hx,I31.mk rfl dp' x s' h5 rfl h6 (.inl (p'++[c]) r' (by rw [h2];simp) (by rw [hx,h3];simp) h7) rfl⟩
    refine ac (fun h5=>?_) (fun h5=>?_)
    ·have h5:c=92:=by simpa using h5
     subst h5;have h4:brL dp true r'=brL 1 false r:=h4;refine ⟨_,rfl,rfl,_,rfl,rfl,((t.length:Int)-(a+1+1)).toNat,by exact Bo h1,I31.mk rfl dp (a+1+1) _ rfl rfl hdp ?_ rfl⟩;cases r' with
     | nil=>exact .inr (by rw [h2,h3];simp;exact Bn) h4.symm
     | cons x r'=>exact .inl (p'++[92,x]) r' (by rw [h2];simp) (by rw [h3];simp;exact wH) h4
    ·rw [tP,if_neg (fun e=>h5 (by rw [e]))] at h4;refine ac (fun h6=>?_) (fun h6=>?_)
     ·have h6:c=123:=by simpa using h6
      rw [if_pos h6] at h4;exact ⟨_,rfl,rfl,_,rfl,rfl,stp (dp+1) _ _ rfl (wZ) rfl h4⟩
     ·have h6:c≠123:=fun e=>h6 (by rw [e]);rw [if_neg h6] at h4;refine ac (fun h7=>?_) (fun h7=>?_)
      ·have h7:c=125:=by simpa using h7
       rw [if_pos h7] at h4;refine ⟨_,rfl,rfl,?_⟩;refine ac (fun h8=>?_) (fun h8=>?_)
       ·rw [if_pos (Bm h8)] at h4;refine ⟨ai (e30 d t (p'++[c]) r' _ (a+1) ht (by rw [h2];simp) (by rw [h3];simp) (by decide) w') (fun v w hh=>?_) (fun x w hh=>?_)⟩
        ·refine u03 hh ?_;clear hh;rintro rfl rfl hok;refine ⟨rfl,by exact dw len,(by decide:(2:Nat)≤1000),rfl,slc t (some f) (some a),p'++[c],r',by rw [h2];simp,?_,by rw [←h4];simp [hok]⟩;rw [show ((p'++[c]).length:Int)=a+1 by rw [h3];simp]
        ·obtain ⟨rfl,hok⟩:=hh;exact ⟨rfl,by rw [←h4];simp [hok]⟩
       ·rw [if_neg (Bk h8)] at h4;rw [show ((dp:Int)-1)=((dp-1:Nat):Int) by exact Bj hdp];exact ⟨_,rfl,rfl,stp (dp-1) _ _ rfl (Bi hdp h8) rfl h4⟩
      ·have h7:c≠125:=fun e=>h7 (by rw [e]);rw [if_neg h7] at h4;exact ⟨_,rfl,rfl,stp dp _ _ rfl hdp rfl h4⟩
  ·exact absurd h1 (nW h2)
 ·refine ⟨(by decide:(4:Nat)≤1000),rfl,?_⟩;obtain ⟨p',r',h2,h3,h4⟩|⟨_,h2⟩:=hb
  ·have:r'=[]:=by cases r' with|nil=>rfl|cons x r'=>exact absurd (by rw [h2,h3];simp;exact gq) h1
   subst this;rw [←h4];rfl
  ·rw [h2];rfl
noncomputable def I32 (t:LA) (r:LA) (w:Wd) (k:Nat) (vs:LC) (w':Wd):Prop:=∀zG:Prop,(∀(h1:w'=w) (p' r':LA) (out:LB) (s:Slot) (ys:List (LA)) (h2:s.free=true) (h3:k=r'.length) (h4:t=p'++r') (h5:bJ false r'=bJ false r) (h6:aV out=some ys) (h7:(∀y∈ys,y.length≤1)) (h8:ys.length+r'.length≤100) (h9:vs=[.val (.str t),.val (.int p'.length),.own out,s]),zG)→zG
theorem I32.mk {t:LA} {r:LA} {w:Wd} {k:Nat} {vs:LC} {w':Wd} (h1:w'=w) (p' r':LA) (out:LB) (s:Slot) (ys:List (LA)) (h2:s.free=true) (h3:k=r'.length) (h4:t=p'++r') (h5:bJ false r'=bJ false r) (h6:aV out=some ys) (h7:(∀y∈ys,y.length≤1)) (h8:ys.length+r'.length≤100) (h9:vs=[.val (.str t),.val (.int p'.length),.own out,s]):I32 t r w k vs w':=fun _ zk=>zk h1 p' r' out s ys h2 h3 h4 h5 h6 h7 h8 h9
theorem cN {y:LA}:∀{l:LB} {ys:List (LA)},aV l=some ys→aV (l++[.str y])=some (ys++[y]):=by
 intro l
 induction l with
 | nil=>intro ys h;cases h;rfl
 | cons p l ih=>
  intro ys h;cases p<;>try (cases h;done)
  refine u12 (Ms.mp h) ?_;clear h;rintro zs h rfl;show (aV (l++[.str y])).map _=_;rw [ih h];rfl
theorem iK:∀{l:LB} {ys:List (LA)},aV l=some ys→l.length=ys.length:=by
 intro l
 induction l with
 | nil=>intro ys h;cases h;rfl
 | cons p l ih=>
  intro ys h;cases p<;>try (cases h;done)
  refine u12 (Ms.mp h) ?_;clear h;rintro zs h rfl;simp [ih h]
theorem nY:∀{ys:List (LA)},(∀y∈ys,y.length≤1)→(ys.map (·.length)).sum≤ys.length
 | [],_=>MC _
 | y::ys,h=>by
  have:=nY fun y hy=>h y (.tail _ hy);simp;exact Bh (by assumption) (h y (.head _))
theorem oC {out:LB} {ys:List (LA)} (h1:aV out=some ys) (h2:∀y∈ys,y.length≤1) (h3:ys.length≤100):∃s,dN [] out=some (.str s):=by
 exact ⟨cq [] ys,by unfold dN;rw [h1];exact if_pos ⟨by decide,by exact Bg h3 (nY h2)⟩⟩
theorem e32 (d:Nat) (t p r:LA) (f:Int) (ht:Tx t) (hp:t=p++r) (hf:f=p.length) (w:Wd) :
 sat (ak (d+4) 32 [.str t,.int f] w) (ElQ t ((bJ false r).filter bW) w) (ElR ((bJ false r).filter bW) w):=by
 refine aY (fi:=zI) rfl rfl ?_;have len:=ht.len;have hL:t.length<2 ^ 62:=by exact bL len
 have hl:t.length=p.length+r.length:=by rw [hp,Mf]
 refine ⟨rfl,?_⟩;refine aX (I32 t r w) (fun k vs w' hI=>?_) r.length _ _ (kG len hl) (I32.mk rfl p r [] (.un) [] rfl rfl hp rfl rfl (fun _ h=>nomatch h) (by simp;exact wx len hl) (by rw [hf];rfl));refine hI _ ?_;clear hI;rintro rfl p' r' out s ys hs rfl h2 h4 ho hy hn rfl;have hol:=iK ho;refine ⟨hL,ac (fun h1=>?_) (fun h1=>?_)⟩
 ·cases r' with
  | nil=>exact absurd h1 (by rw [h2];simp)
  | cons c r'=>
   have hI:=aK (k:=(p'.length:Int)) h2 rfl;refine bS hL hI ⟨hs,?_⟩;refine ac (fun h5=>?_) (fun h5=>?_)
   ·have h5:c=92:=by simpa using h5
    subst h5;refine ⟨ai (e28 d t p' r' p'.length ht h2 rfl w') (fun v w hh=>?_) fun _ _ h=>h.elim⟩;obtain ⟨rfl,s',p2,r2,h6,h7,rfl,hE⟩:=hh;refine ⟨rfl,rfl,by simp at hn;exact nO hol hn,r2.length,by have:=hE.l;simp;exact qU this,I32.mk rfl p2 r2 (out++[.str s']) (.val (.str s')) (ys++[s']) rfl rfl h6 ?_ (cN ho) (fun y hy'=>?_) (by have:=hE.l;simp at hn⊢;exact ww hn this) rfl⟩
    ·rw [←hE.q];exact h4
    ·rcases Mi.mp hy' with hy'|hy'
     ·exact hy y hy'
     ·rw [My.mp hy'];exact h7
   ·have h5:c≠92:=fun e=>h5 (by rw [e]);rw [mt,if_neg h5] at h4;refine ac (fun h6=>?_) (fun h6=>?_)
    ·have h6:c=34:=by simpa using h6
     rw [if_pos h6] at h4;refine ⟨ai (e30 (d+1) t (p'++[c]) r' _ (p'.length+1) ht (by rw [h2];simp) (by simp) (by decide) w') (fun v w hh=>?_) (fun x w hh=>?_)⟩
     ·refine u03 hh ?_;clear hh;rintro rfl rfl hok;obtain ⟨z,hz⟩:=oC ho hy (wv hn);refine ⟨rfl,_,hz,(by decide:(2:Nat)≤1000),rfl,z,p'++[c],r',by rw [h2];simp,by simp,by rw [←h4];simp [hok]⟩
     ·obtain ⟨rfl,hok⟩:=hh;exact ⟨rfl,by rw [←h4];simp [hok]⟩
    ·have h6:c≠34:=fun e=>h6 (by rw [e]);rw [if_neg h6] at h4;refine ⟨_,rfl,rfl,by simp at hn;exact nO hol hn,r'.length,by simp,I32.mk rfl (p'++[c]) r' (out++[.str [c]]) (.val (.str [c])) (ys++[[c]]) rfl rfl (by rw [h2];simp) h4 (cN ho) (fun y hy'=>?_) (by simp at hn⊢;exact xJ hn) (by simp)⟩;rcases Mi.mp hy' with hy'|hy'
     ·exact hy y hy'
     ·rw [My.mp hy'];exact MC _
 ·refine ⟨(by decide:(4:Nat)≤1000),rfl,?_⟩;have:r'=[]:=by cases r' with|nil=>rfl|cons x r'=>exact absurd (by rw [h2];simp;exact gq) h1
  subst this;rw [←h4];rfl
noncomputable def I33 (t:LA) (r:LA) (w:Wd) (k:Nat) (vs:LC) (w':Wd):Prop:=∀zG:Prop,(∀(h1:w'=w) (p' r':LA) (out:LB) (s:Slot) (ys:List (LA)) (h2:s.free=true) (h3:k=r'.length) (h4:t=p'++r') (h5:aG .n r'=aG .n r) (h6:aV out=some ys) (h7:(∀y∈ys,y.length≤1)) (h8:ys.length+r'.length≤100) (h9:vs=[.val (.str t),.val (.int p'.length),.own out,s]),zG)→zG
theorem I33.mk {t:LA} {r:LA} {w:Wd} {k:Nat} {vs:LC} {w':Wd} (h1:w'=w) (p' r':LA) (out:LB) (s:Slot) (ys:List (LA)) (h2:s.free=true) (h3:k=r'.length) (h4:t=p'++r') (h5:aG .n r'=aG .n r) (h6:aV out=some ys) (h7:(∀y∈ys,y.length≤1)) (h8:ys.length+r'.length≤100) (h9:vs=[.val (.str t),.val (.int p'.length),.own out,s]):I33 t r w k vs w':=fun _ zk=>zk h1 p' r' out s ys h2 h3 h4 h5 h6 h7 h8 h9
theorem e33 (d:Nat) (t p r:LA) (f:Int) (ht:Tx t) (hp:t=p++r) (hf:f=p.length) (w:Wd) :
 sat (ak (d+4) 33 [.str t,.int f] w) (ElQ t (some (aG .n r)) w) (fun _ _=>False):=by
 refine aY (fi:=zH) rfl rfl ?_;have len:=ht.len;have hL:t.length<2 ^ 62:=by exact bL len
 have hl:t.length=p.length+r.length:=by exact hp▸Mf▸rfl
 refine ⟨rfl,?_⟩;refine aX (I33 t r w) (fun k vs w' hI=>?_) r.length _ _ (kG len hl) (I33.mk rfl p r [] (.un) [] rfl rfl hp rfl rfl (fun _ h=>nomatch h) (by simp;exact wx len hl) (by refine hf▸?_;rfl));refine hI _ ?_;clear hI;rintro rfl p' r' out s ys hs rfl h2 h4 ho hy hn rfl;have hol:=iK ho;have fin:aG .n r'=r'→wpC (ak (d+3)) (.cons (.ret (.tup (.cons (.ojoin [] 2) (.cons (.var 1) .nil)))) .nil) [.val (.str t),.val (.int p'.length),.own out,s] w' (RQ (ElQ t (some (aG .n r)) w')) (fun _ _=>False):=by
  intro h;obtain ⟨z,hz⟩:=oC ho hy (wv hn);exact ⟨_,hz,(by decide:(2:Nat)≤1000),rfl,z,p',r',h2,rfl,by rw [←h4,h]⟩
 refine ⟨hL,ac (fun h1=>?_) (fun h1=>?_)⟩
 ·cases r' with
  | nil=>exact absurd h1 (by rw [h2];simp)
  | cons c r'=>
   have hI:=aK (k:=(p'.length:Int)) h2 rfl;refine bS hL hI ?_;refine av (e17 (d+2) w' c (ht.sg c (by rw [h2];simp))) ?_;cases hb:au c with
   | true=>exact aD (fin (by rw [en,if_pos hb]))
   | false=>
    rw [en,if_neg (by simp [hb])] at h4;refine be (bS hL hI ⟨hs,?_⟩);refine ac (fun h5=>?_) (fun h5=>?_)
    ·have h5:c=92:=by simpa using h5
     subst h5;replace h4:=(if_pos rfl)▸h4;refine ⟨ai (e28 d t p' r' p'.length ht h2 rfl w') (fun v w hh=>?_) fun _ _ h=>h.elim⟩;obtain ⟨rfl,s',p2,r2,h6,h7,rfl,hE⟩:=hh;refine ⟨rfl,rfl,by simp at hn;exact nO hol hn,r2.length,by have:=hE.l;simp;exact qU this,I33.mk rfl p2 r2 (out++[.str s']) (.val (.str s')) (ys++[s']) rfl rfl h6 (by refine hE.b▸?_;exact h4) (cN ho) (fun y hy'=>?_) (by have:=hE.l;simp at hn⊢;exact ww hn this) rfl⟩;refine Mx (Mi.mp hy') (fun hy'=>?_) fun hy'=>?_
     ·exact hy y hy'
     ·rw [My.mp hy'];exact h7
    ·have h5:c≠92:=fun e=>h5 (by exact e▸rfl);rw [if_neg h5] at h4;refine ⟨_,rfl,rfl,by simp at hn;exact nO hol hn,r'.length,by simp,I33.mk rfl (p'++[c]) r' (out++[.str [c]]) (.val (.str [c])) (ys++[[c]]) rfl rfl (by rw [h2];simp) h4 (cN ho) (fun y hy'=>?_) (by simp at hn⊢;exact xJ hn) (by simp)⟩;refine Mx (Mi.mp hy') (fun hy'=>?_) fun hy'=>?_
     ·exact hy y hy'
     ·rw [My.mp hy'];exact MC _
 ·have:r'=[]:=by cases r' with|nil=>rfl|cons x r'=>exact absurd (by rw [h2];simp;exact gq) h1
  subst this;exact aD (fin rfl)
inductive ISk (t:LA) (mk:Int→LC) (r:LA) (w:Wd) (k:Nat) (vs:LC) (w':Wd):Prop
 | mk (h1:w'=w) (p' r') (h2:k=r'.length) (h3:t=p'++r') (h4:r'.dropWhile au=r.dropWhile au) (h5:vs=mk p'.length)
def FQ (t r:LA) (w:Wd):LL:=fun v w'=>match r.dropWhile au with
 | []=>v=.none∧w'=w
 | c::s=>ElQ t (ct (c::s)) w v w'
def FR (r:LA) (w:Wd):LJ:=fun x w'=>match r.dropWhile au with
 | []=>False
 | c::s=>ElR (ct (c::s)) w x w'
theorem e34 (d:Nat) (t p r:LA) (f:Int) (ht:Tx t) (hp:t=p++r) (hf:f=p.length) (w:Wd) :
 sat (ak (d+5) 34 [.str t,.int f] w) (FQ t r w) (FR r w):=by
 refine aY (fi:=zE) rfl rfl ?_;have len:=ht.len;have hL:t.length<2 ^ 62:=by exact bL len
 have hl:t.length=p.length+r.length:=by exact hp▸Mf▸rfl
 refine aX (ISk t (fun a=>[.val (.str t),.val (.int a)]) r w) (fun k vs w' hI=>?_) r.length _ _ (kG len hl) ⟨rfl,p,r,rfl,hp,rfl,by refine hf▸?_;rfl⟩;obtain ⟨rfl,p',r',rfl,h2,h3,rfl⟩:=hI;refine ⟨hL,ac (fun h1=>?_) (fun h1=>?_)⟩
 ·cases r' with
  | nil=>exact absurd h1 (by rw [h2];simp)
  | cons c r'=>
   have hI:=aK (k:=(p'.length:Int)) h2 rfl;refine bS hL hI ?_;refine av (e17 (d+3) w' c (ht.sg c (by refine h2▸?_;simp))) (cw (fun hb=>?_) (fun hb=>?_))
   ·rw [Mv,if_pos hb] at h3;exact ⟨_,rfl,rfl,r'.length,by simp,rfl,p'++[c],r',rfl,by rw [h2];simp,h3,by simp⟩
   ·rw [Mv,if_neg (by simp [hb])] at h3;refine (show FQ t r w'=ElQ t (ct (c::r')) w' from by unfold FQ;exact h3▸rfl)▸(show FR r w'=ElR (ct (c::r')) w' from by unfold FR;exact h3▸rfl)▸?_;refine ⟨hL,ac (fun h=>absurd h (Bf h1)) (fun _=>?_)⟩;refine bS hL hI ?_;refine ac (fun h5=>?_) (fun h5=>?_)
    ·have h5:c=123:=by simpa using h5
     subst h5;exact ⟨ai (e31 (d+1) t (p'++[123]) r' _ ht (by rw [h2];simp) (by simp) w') (fun v w h=>h) fun x w h=>h⟩
    ·refine bS hL hI ?_;refine ac (fun h6=>?_) (fun h6=>?_)
     ·have h6:c=34:=by simpa using h6
      subst h6;exact ⟨ai (e32 d t (p'++[34]) r' _ ht (by rw [h2];simp) (by simp) w') (fun v w h=>h) fun x w h=>h⟩
     ·have h5:c≠123:=fun e=>h5 (by exact e▸rfl);have h6:c≠34:=fun e=>h6 (by exact e▸rfl);have e:ct (c::r')=some (aG .n (c::r')):=by
       unfold ct
       split
       ·rename_i e;injection e with e;subst e;exact absurd rfl h5
       ·rename_i e;injection e with e;subst e;exact absurd rfl h6
       ·rfl
      refine e▸?_;exact ⟨ai (e33 d t p' (c::r') _ ht h2 rfl w') (fun v w h=>h) fun x w h=>h.elim⟩
 ·have:r'=[]:=by cases r' with|nil=>rfl|cons x r'=>exact absurd (by rw [h2];simp;exact gq) h1
  subst this;refine aD ⟨hL,ac (fun _=>?_) (fun h=>absurd (Be h1) h)⟩;show FQ t r w' .none w';unfold FQ;refine h3▸?_;exact ⟨rfl,rfl⟩
theorem wk:∀{r:LA} {dp:Nat} {e:Bool} {r':LA},brL dp e r=some r'→r'.length<r.length:=by
 intro r
 induction r with
 | nil=>intro _ e _ h;cases e<;>injection h
 | cons c r ih=>
  intro dp e r' h;cases e with|true=>exact Ni (ih h)|false=>?_
  rw [tP] at h
  split at h
  ·exact Ni (ih h)
  ·split at h
   ·exact Ni (ih h)
   ·split at h
    ·split at h
     ·injection h with h;subst h;exact Op _
     ·exact Ni (ih h)
    ·exact Ni (ih h)
theorem rM:∀{r:LA} {e:Bool} {r':LA},bJ e r=some r'→r'.length<r.length:=by
 intro r
 induction r with
 | nil=>intro e _ h;cases e<;>injection h
 | cons c r ih=>
  intro e r' h;cases e with|true=>exact Ni (ih h)|false=>?_
  rw [mt] at h
  split at h
  ·exact Ni (ih h)
  ·split at h
   ·injection h with h;subst h;exact Op _
   ·exact Ni (ih h)
theorem qC:∀(r:LA) (s:BS),(aG s r).length≤r.length:=by
 intro r
 induction r with
 | nil=>intro s;cases s<;>exact MC _
 | cons c r ih=>
  intro s;have h:=fun s=>PN (ih s);cases s<;>first|rw [en]|rw [oZ]|rw [wo]
  ·split
   ·exact MC _
   ·split<;>exact h _
  ·split<;>exact h _
  ·split
   ·exact h _
   ·split
    ·exact MC _
    ·split<;>exact h _
theorem ei {c:Nat} {s r':LA} (hc:au c=false) (h:ct (c::s)=some r'):r'.length≤s.length:=by
 unfold ct at h
 split at h
 ·rename_i e;cases e;simp only [Qg] at h;exact Pc (wk h.1)
 ·rename_i e;cases e;simp only [Qg] at h;exact Pc (rM h.1)
 ·injection h with h;subst h;rw [en,if_neg (by simp [hc])]
  split<;>exact qC _ _
theorem cu {r:LA} {c:Nat} {s:LA} (h:r.dropWhile au=c::s):au c=false∧s.length<r.length:=by
 induction r with
 | nil=>injection h
 | cons x r ih=>
  replace h:=Mv▸h
  split at h
  ·have:=ih h;exact ⟨this.1,Ni this.2⟩
  ·rename_i hb;cases h;exact ⟨by simpa using hb,Op _⟩
theorem mL:∀{k k':Nat} {r:LA},r.length<k→r.length<k'→hO k r=hO k' r:=by
 intro k
 induction k with
 | zero=>exact fun h _=>absurd h (Qh _)
 | succ k ih=>
  intro k' r h h';cases k' with|zero=>exact absurd h' (Qh _)|succ k'=>?_
  rw [ke,ke];cases hd:r.dropWhile au with
  | nil=>rfl
  | cons c s=>
   obtain ⟨h1,h2⟩:=cu hd;dsimp only;cases he:ct (c::s) with
   | none=>rfl
   | some r'=>
    have:=ei h1 he;exact ih (wu h h2 this) (wu h' h2 this)
noncomputable def dB (r:LA):Option Nat:=hO (r.length+1) r
theorem fh (r:LA):dB r=match r.dropWhile au with
 | []=>none
 | c::s=>match ct (c::s) with
  | none=>some (s.length+1)
  | some r'=>dB r':=by
 unfold dB;rw [ke];cases hd:r.dropWhile au with
 | nil=>rfl
 | cons c s=>
  obtain ⟨h1,h2⟩:=cu hd;dsimp only;cases he:ct (c::s) with
  | none=>rfl
  | some r'=>
   exact mL (Bc h2 (ei h1 he)) (xF)
inductive I46 (t:LA) (w:Wd) (k:Nat) (vs:LC) (w':Wd):Prop
 | inl (h1:w'=w) (s:Slot) (h2:s.free=true) (z p r) (h3:k=r.length+1) (h4:t=p++r) (h5:dB r=dB t) (h6:vs=[.val (.str t),.val (.tup [.str z,.int p.length]),s])
 | inr (h1:w'=w) (s:Slot) (h2:s.free=true) (h3:k=0) (h4:dB t=none) (h5:vs=[.val (.str t),.val .none,s])
theorem e46 (d:Nat) (t:LA) (ht:Tx t) (w:Wd):ak (d+6) 46 [.str t] w=.ok (hJ t) w:=by
 refine ba (fi:=zw) rfl rfl ?_;have len:=ht.len;have hL:t.length<2 ^ 62:=by exact bL len
 have hr:hJ t=match dB t with
  | none=>aJ true (-1)
  | some n=>aJ false ((t.length-n:Nat):Int):=rfl
 refine (v03 (by decide:(2:Nat)≤1000) rfl ?_);refine aX (I46 t w) (fun k vs w' hI=>?_) (t.length+1) _ _ (GX len) (.inl rfl .un rfl [] [] t rfl rfl rfl rfl);obtain ⟨rfl,s,hs,z,p,r,rfl,hp,hN,rfl⟩|⟨rfl,s,hs,rfl,hN,rfl⟩:=hI
 ·refine be ⟨(by decide:(2:Nat)<2 ^ 62),1,.int p.length,rfl,rfl,hs,?_⟩;refine aX (ISk t (fun a=>[.val (.str t),.val (.tup [.str z,.int p.length]),.val (.int a)]) r w') (fun k vs w hI=>?_) r.length _ _ (kG len (show t.length=p.length+r.length from by rw [hp,Mf])) ⟨rfl,p,r,rfl,hp,rfl,rfl⟩;obtain ⟨rfl,p',r',rfl,h2,h3,rfl⟩:=hI;have hl':t.length=p'.length+r'.length:=by rw [h2,Mf]
  -- the element is read
  have fin:r'=r.dropWhile au→wpC (ak (d+5)) (.cons (.tryR 1 (.call 34 (.cons (.var 0) (.cons (.var 2) .nil))) false 2) .nil) [.val (.str t),.val (.tup [.str z,.int p.length]),.val (.int p'.length)] w (lA (Dn (I46 t w) (r.length+1)) (xZ (wpC (ak (d+5)) (.cons (.ret (.tup (.cons (.bool true) (.cons (.neg (.int 1)) .nil)))) .nil)) (RQ fun v w''=>v=hJ t∧w''=w) (fun _ _=>False))) (fun _ _=>False):=by
   intro e;have h4:r'.dropWhile au=r':=by exact h3▸e▸rfl
   have hle:=(show r.dropWhile au=r'→r'.length≤r.length from fun e=>by refine e▸?_;exact (OZ _).length_le) e.symm;refine ⟨ai (e34 d t p' r' p'.length ht h2 rfl w) (fun v w' hh=>?_) (fun x w' hh=>?_)⟩
   ·unfold FQ at hh;rw [h4] at hh;rw [fh,←h3,h4] at hN;cases r' with
    | nil=>
     obtain ⟨rfl,rfl⟩:=hh;exact ⟨rfl,0,by exact GW,.inr rfl _ rfl rfl hN.symm rfl⟩
    | cons c s'=>
     obtain ⟨rfl,z',p2,r2,h5,rfl,h6⟩:=hh;dsimp only at hN;rw [h6] at hN;simp only [Mr] at hle;exact ⟨rfl,r2.length+1,by exact GV hle (ei (cu h4).1 h6),.inl rfl _ rfl z' p2 r2 rfl h5 hN rfl⟩
   ·unfold FR at hh;rw [h4] at hh;rw [fh,←h3,h4] at hN;cases r' with
    | nil=>exact hh.elim
    | cons c s'=>
     obtain ⟨rfl,h6⟩:=hh;dsimp only at hN;rw [h6] at hN;refine ⟨?_,rfl⟩;rw [hr,←hN];simp only [Mr] at hl';show PV.tup [.bool false,.int p'.length]=PV.tup [.bool false,.int ((t.length-(s'.length+1):Nat):Int)];rw [show t.length-(s'.length+1)=p'.length by exact GU hl']
  refine ⟨hL,ac (fun h1=>?_) (fun h1=>?_)⟩
  ·cases r' with
   | nil=>exact absurd h1 (by rw [h2];simp)
   | cons c r'=>
    have hI:=aK (k:=(p'.length:Int)) h2 rfl;refine bS hL hI ?_;refine av (e17 (d+4) w c (ht.sg c (by refine h2▸?_;simp))) (cw (fun hb=>?_) (fun hb=>?_))
    ·rw [Mv,if_pos hb] at h3;exact ⟨_,rfl,rfl,r'.length,by simp,rfl,p'++[c],r',rfl,by rw [h2];simp,h3,by simp⟩
    ·exact fin (by rw [←h3,Mv,if_neg (by simp [hb])])
  ·have:r'=[]:=by cases r' with|nil=>rfl|cons x r'=>exact absurd (by rw [h2];simp;exact gq) h1
   subst this;exact aD (fin h3)
 ·refine aD (v03 (by decide:(2:Nat)≤1000) ?_ rfl);rw [hr,hN];rfl
noncomputable def gL (i:Nat) (t:LA):PV:=match t.findIdx? (fun c=>!cf i c) with
 | none=>aJ true (-1)
 | some k=>aJ false (k:Nat)
noncomputable def bc (i:Nat) (t:LA):PV:=
 if i=10 then hJ t else if t=[] then aJ true (-1) else if i=4∨i=15∨i=7 then di (nm i) t else if i=9∨i=6∨i=17 then ka (nm i) t else gL i t
noncomputable def I47 (i:Nat) (t:LA) (w:Wd) (k:Nat) (vs:LC) (w':Wd):Prop:=∀zG:Prop,(∀(h1:w'=w) (p r:_) (h2:k=r.length) (h3:t=p++r) (h4:(∀c∈p,cf i c=true)) (h5:vs=[.val (.str (nm i)),.val (.str t),.val (.int p.length)]),zG)→zG
theorem I47.mk {i:Nat} {t:LA} {w:Wd} {k:Nat} {vs:LC} {w':Wd} (h1:w'=w) (p r:_) (h2:k=r.length) (h3:t=p++r) (h4:(∀c∈p,cf i c=true)) (h5:vs=[.val (.str (nm i)),.val (.str t),.val (.int p.length)]):I47 i t w k vs w':=fun _ zk=>zk h1 p r h2 h3 h4 h5
theorem gk {p r:LA} {f:Nat→Bool} (hp:∀c∈p,f c=false):(p++r).findIdx? f=(r.findIdx? f).map (·+p.length):=by
 induction p with
 | nil=>simp
 | cons x p ih=>
  rw [MD,Pv,if_neg (by simp [hp x (.head _)]),ih fun c hc=>hp c (.tail _ hc)];cases r.findIdx? f<;>simp;exact GT
theorem rG:sc.all (fun i=>decide (nm i≠[108,105,115,116])&&decide (nm i∉([[98,111,111,108,101,97,110],[116,114,117,101],[102,97,108,115,101]]:List (LA)))&&decide (nm i∉([[105,110,116,101,103,101,114],[101,110,116,105,101,114],[119,105,100,101,105,110,116,101,103,101,114]]:List (LA))) &&
 decide (¬(i=10∨i=4∨i=15∨i=7∨i=9∨i=6∨i=17)))=true:=by decide
theorem e47 (d:Nat) (i:Nat) (hi:i<20) (t:LA) (ht:Tx t) (w:Wd):ak (d+7) 47 [.str (nm i),.str t] w=.ok (bc i t) w:=by
 refine ba (fi:=zu) rfl rfl ?_;have len:=ht.len;have hL:t.length<2 ^ 62:=by exact bL len
 by_cases hc:sc.contains i=true
 ·have hf:=Mo.mp rG i (Mq.mp hc);simp only [MO,decide_eq_true_eq] at hf;obtain ⟨⟨⟨h1,h2⟩,h3⟩,h4⟩:=hf;have hR:bc i t=if t=[] then aJ true (-1) else gL i t:=by
   unfold bc;exact (if_neg (fun e=>h4 (.inl e)))▸(if_neg (fun e:i=4∨i=15∨i=7=>h4 (e.elim (fun e=>.inr (.inl e)) fun e=>e.elim (fun e=>.inr (.inr (.inl e))) fun e=>.inr (.inr (.inr (.inl e))))))▸(if_neg (fun e:i=9∨i=6∨i=17=>h4 (e.elim (fun e=>.inr (.inr (.inr (.inr (.inl e))))) fun e=>e.elim (fun e=>.inr (.inr (.inr (.inr (.inr (.inl e)))))) fun e=>.inr (.inr (.inr (.inr (.inr (.inr e))))))))▸rfl
  refine ac (fun h=>absurd h h1) (fun _=>ac (fun h=>?_) (fun h=>?_))
  ·exact ⟨(by decide:(2:Nat)≤1000),by rw [hR,if_pos h];rfl,rfl⟩
  ·rw [if_neg h] at hR;refine ⟨(by decide:(3:Nat)≤1000),ac (fun h=>absurd h h2) (fun _=>⟨(by decide:(3:Nat)≤1000),ac (fun h=>absurd h h3) (fun _=>⟨rfl,?_⟩)⟩)⟩;refine aX (I47 i t w) (fun k vs w' hI=>?_) t.length _ _ (uu len) (I47.mk rfl [] t rfl rfl (fun _ h=>nomatch h) rfl);refine hI _ ?_;clear hI;rintro rfl p r rfl h5 h6 rfl;have h6':∀c∈p,(!cf i c)=false:=fun c hc=>by rw [h6 c hc];rfl
   refine ⟨hL,ac (fun h7=>?_) (fun h7=>?_)⟩
   ·cases r with
    | nil=>exact absurd h7 (by rw [h5];simp)
    | cons c r=>
     refine u12 (aK (k:=(p.length:Int)) h5 rfl) ?_;rintro j hj hx;refine ⟨hL,j,hj,?_⟩;refine hx.symm▸?_;refine av (e43 (d+2) w' i hc c (ht.sg c (by rw [h5];simp))) ?_;cases hm:cf i c with
     | true=>exact aD ⟨_,rfl,rfl,r.length,by simp,I47.mk rfl (p++[c]) r rfl (by rw [h5];simp) (fun x hx=>(Mi.mp hx).elim (h6 x) fun h=>by refine (My.mp h)▸?_;exact hm) (by simp)⟩
     | false=>
      refine be (v03 (by decide:(2:Nat)≤1000) ?_ rfl);rw [hR,gL,h5,gk h6',Pv,hm];simp [aJ]
   ·have:r=[]:=by cases r with|nil=>rfl|cons x r'=>exact absurd (by rw [h5];simp;exact gq) h7
    subst this;refine (v03 (by decide:(2:Nat)≤1000) ?_ rfl);rw [hR,gL,h5,gk h6'];rfl
 ·have hc':i=10∨(i=4∨i=15∨i=7)∨(i=9∨i=6∨i=17):=by
   have key:∀j:Fin 20,sc.contains j.val=true∨(j.val=10∨(j.val=4∨j.val=15∨j.val=7)∨(j.val=9∨j.val=6∨j.val=17)):=by decide
   exact (key ⟨i,hi⟩).resolve_left hc
  rcases hc' with rfl|hc'|hc'
  ·exact be (av (e46 d t ht w) ⟨rfl,rfl⟩)
  ·have hl:nm i≠[108,105,115,116]:=by rcases hc' with rfl|rfl|rfl<;>decide
   have hm:nm i∈([[98,111,111,108,101,97,110],[116,114,117,101],[102,97,108,115,101]]:List (LA)):=by rcases hc' with rfl|rfl|rfl<;>decide
   have h10:i≠10:=by exact GS hc'
   refine ac (fun h=>absurd h hl) (fun _=>ac (fun h=>?_) (fun h=>?_))
   ·exact (v03 (by decide:(2:Nat)≤1000) (by rw [bc,if_neg h10,if_pos h];rfl) rfl)
   ·refine ⟨(by decide:(3:Nat)≤1000),ac (fun _=>?_) (fun h=>absurd hm h)⟩;exact av (e44 (d+1) _ t ht w) ⟨by rw [bc,if_neg h10,if_neg h,if_pos hc'],rfl⟩
  ·have hl:nm i≠[108,105,115,116]:=by rcases hc' with rfl|rfl|rfl<;>decide
   have hm1:nm i∉([[98,111,111,108,101,97,110],[116,114,117,101],[102,97,108,115,101]]:List (LA)):=by rcases hc' with rfl|rfl|rfl<;>decide
   have hm:nm i∈([[105,110,116,101,103,101,114],[101,110,116,105,101,114],[119,105,100,101,105,110,116,101,103,101,114]]:List (LA)):=by rcases hc' with rfl|rfl|rfl<;>decide
   have h10:i≠10:=by exact Fj hc'
   have h4:¬(i=4∨i=15∨i=7):=by exact Fi hc'
   refine ac (fun h=>absurd h hl) (fun _=>ac (fun h=>?_) (fun h=>?_))
   ·exact ⟨(by decide:(2:Nat)≤1000),by rw [bc,if_neg h10,if_pos h];rfl,rfl⟩
   ·refine ⟨(by decide:(3:Nat)≤1000),ac (fun h=>absurd h hm1) (fun _=>⟨(by decide:(3:Nat)≤1000),ac (fun _=>?_) (fun h=>absurd hm h)⟩)⟩;exact av (e45 (d+2) _ t ht h w) ⟨by rw [bc,if_neg h10,if_neg h,if_neg h4,if_pos hc'],rfl⟩
theorem rt {t:LA} {a:Int} {hi:Option Int} (h:(t.length:Int)≤a):slc t (some a) hi=[]:=by
 unfold slc;simp only [NB];refine (lN h).symm▸?_;simp
def At (t:LA) (x:Int) (r:LA):Prop:=(∃p,t=p++r∧x=p.length)∨(r=[]∧(t.length:Int)≤x)
theorem At.le {t:LA} {x:Int} {r:LA} (h:At t x r):0≤x:=by
 rcases h with ⟨p,_,rfl⟩|⟨_,h⟩<;>(first|exact qW|exact Fh h)
theorem At.nil {t:LA} {x:Int} (h:At t x []):(t.length:Int)≤x:=by
 rcases h with ⟨p,h,rfl⟩|⟨_,h⟩
 ·refine h▸?_;simp
 ·exact h
theorem At.cons {t:LA} {x:Int} {c:Nat} {r:LA} (h:At t x (c::r)):∃p,t=p++c::r∧x=p.length∧x<t.length:=by
 rcases h with ⟨p,h,rfl⟩|⟨h,_⟩
 ·exact (v13 p h rfl (by rw [h];simp;exact gq))
 ·injection h
theorem At.slc {t:LA} {x y:Int} {r:LA} (h:At t x r) (hy:y=x+1):slc t (some x) (some y)=r.take 1:=by
 rcases h with ⟨p,h,hx⟩|⟨rfl,h⟩
 ·exact jS h hx hy
 ·refine (rt h).symm▸?_;rfl
theorem At.next {t:LA} {x y:Int} {c:Nat} {r:LA} (h:At t x (c::r)) (hy:y=x+1):At t y r:=by
 refine u13 h.cons ?_;rintro p h hx _;exact .inl ⟨p++[c],by rw [h];simp,by rw [hy,hx];simp⟩
theorem At.over {t:LA} {x y:Int} (h:At t x []) (hy:x≤y):At t y []:=.inr ⟨rfl,by have:=h.nil;exact Fg hy this⟩
noncomputable def I71 (t:LA) (r:LA) (w:Wd) (k:Nat) (vs:LC) (w':Wd):Prop:=∀zG:Prop,(∀(h1:w'=w) (a r':_) (h2:k=r'.length) (h3:At t a r') (h4:r'.dropWhile spB=r.dropWhile spB) (h5:vs=[.val (.str t),.val (.int a)]),zG)→zG
theorem I71.mk {t:LA} {r:LA} {w:Wd} {k:Nat} {vs:LC} {w':Wd} (h1:w'=w) (a r':_) (h2:k=r'.length) (h3:At t a r') (h4:r'.dropWhile spB=r.dropWhile spB) (h5:vs=[.val (.str t),.val (.int a)]):I71 t r w k vs w':=fun _ zk=>zk h1 a r' h2 h3 h4 h5
theorem e71 (d:Nat) (t r:LA) (a:Int) (ht:Tx t) (ha:At t a (92::r)) (w:Wd) :
 sat (ak (d+1) 71 [.str t,.int a] w) (fun v w'=>w'=w∧∃x r',v=.int x∧At t x r'∧r'.length≤r.length∧aG .e r=aG .n r') (fun _ _=>False):=by
 refine aY (fi:=zi) rfl rfl ?_;have len:=ht.len;have h1:=ha.next rfl;refine ⟨_,rfl,rfl,?_⟩;refine ⟨by exact dw len,?_⟩;refine (h1.slc (x:=a+1) (xe) |> fun h=>(by refine (show a+2-1=a+1 by exact Ff)▸?_;exact h:Mine.Internal.slc t (some (a+2-1)) (some (a+2))=r.take 1))▸?_;cases r with
 | nil=>exact aD ⟨rfl,a+2,[],rfl,h1.over (Fe),MC _,rfl⟩
 | cons x r=>
  have h2:=h1.next rfl;replace h2:=(show a+1+1=a+2 by exact Fd)▸h2;have hl:r.length≤t.length:=by
   refine u12 ha.cons ?_;rintro p h _;rw [h];simp;exact Fc
  refine ac (fun h10=>?_) (fun h10=>?_)
  ·have h10:x=10:=by simpa using h10
   subst h10;refine aX (I71 t r w) (fun k vs w' hI=>?_) r.length _ _ (qV len hl) (I71.mk rfl (a+2) r rfl h2 rfl rfl);refine hI _ ?_;clear hI;rintro rfl b r' rfl h3 h4 rfl;refine ⟨by exact dw len,?_⟩;rw [h3.slc rfl];have fin:r'=r.dropWhile spB→r'.length≤r.length+1∧aG .e (10::r)=aG .n r':=fun e=>⟨by rw [e];exact PN (OZ _).length_le,by
    show aG .s r=_;rw [lX,e]⟩
   cases r' with
   | nil=>exact ⟨(by decide:(2:Nat)≤1000),aD ⟨rfl,b,[],rfl,h3,(fin h4).1,(fin h4).2⟩⟩
   | cons y r'=>
    have ey:decide ([y]∈[[32],[9]])=spB y:=by unfold spB;rw [decide_eq_decide];simp
    rw [Mv] at h4;refine ⟨(by decide:(2:Nat)≤1000),cw (fun hb=>?_) (fun hb=>?_)⟩
    ·rw [if_pos (ey.symm.trans hb)] at h4;exact ⟨_,rfl,rfl,r'.length,by simp,I71.mk rfl (b+1) r' rfl (h3.next rfl) h4 rfl⟩
    ·rw [if_neg (by simp [(ey.symm.trans hb)])] at h4;exact ⟨rfl,b,_,rfl,h3,(fin h4).1,(fin h4).2⟩
  ·have h10:x≠10:=fun h=>h10 (by refine h▸?_;rfl);exact ⟨rfl,a+2,r,rfl,h2,by simp,by rw [oZ,if_neg h10]⟩
theorem sj (c:Nat):(MV (txt [32,9,10]) (txt [c]) 0 (txt [32,9,10]).length 1).isEmpty=!au c:=by
 show (MV (txt [32,9,10]) ⟨#[c]⟩ 0 (txt [32,9,10]).length 1).isEmpty=_;rw [(show (MV (txt [32,9,10]) ⟨#[c]⟩ 0 (txt [32,9,10]).length 1).isEmpty=!decide (c∈(txt [32,9,10]).cps.toList) from by rw [←(QO (txt [32,9,10]) c)];simp)];congr 1;unfold au;rw [Nb];simp [or_assoc]
def LQ (t:LA) (o:Option (LA)) (w:Wd):LL:=fun v w'=>w'=w∧((o=none∧v=.int (-1))∨∃x r',o=some r'∧v=.int x∧At t x r')
noncomputable def I72 (t:LA) (c:Nat) (s:LA) (w:Wd) (k:Nat) (vs:LC) (w':Wd):Prop:=∀zG:Prop,(∀(h1:w'=w) (a r:_) (h2:k=r.length) (h3:At t a r) (h4:aG .n r=aG .n (c::s)) (h5:vs=[.val (.str t),.val (.int a),.val (.str [c]),.un]),zG)→zG
theorem I72.mk {t:LA} {c:Nat} {s:LA} {w:Wd} {k:Nat} {vs:LC} {w':Wd} (h1:w'=w) (a r:_) (h2:k=r.length) (h3:At t a r) (h4:aG .n r=aG .n (c::s)) (h5:vs=[.val (.str t),.val (.int a),.val (.str [c]),.un]):I72 t c s w k vs w':=fun _ zk=>zk h1 a r h2 h3 h4 h5
theorem Kb (d:Nat) (t s:LA) (c:Nat) (a:Int) (ht:Tx t) (ha:At t a (c::s)) (h123:c≠123) (h34:c≠34) (w:Wd) :
 sat (ak (d+2) 72 [.str t,.int a] w) (LQ t (some (aG .n (c::s))) w) (fun _ _=>False):=by
 refine aY (fi:=sW) rfl rfl ?_;have len:=ht.len;have hL:t.length<2 ^ 62:=by exact bL len
 refine u13 ha.cons ?_;rintro p hp hx hlt;have hI:=aK hp hx;refine bS hL hI ⟨rfl,?_⟩;refine bq (fun _=>bq (fun _=>?_) (fun h=>absurd (by simpa using h) h34)) (fun h=>absurd (by simpa using h) h123);have fin:∀b r,At t b r→aG .n r=r→aG .n r=aG .n (c::s)→LQ t (some (aG .n (c::s))) w (.int b) w:=fun b r h1 h2 h3=>⟨rfl,.inr (v23 b r (by rw [←h3,h2]) rfl h1)⟩
 refine aX (I72 t c s w) (fun k vs w' hI=>?_) (c::s).length _ _ (by have:t.length=p.length+(c::s).length:=(by rw [hp];simp);exact kG len this) (I72.mk rfl a (c::s) rfl ha rfl rfl);refine hI _ ?_;clear hI;rintro rfl b r rfl h1 h2 rfl;cases r with
 | nil=>exact ⟨hL,ac (fun h=>absurd h (by have:=h1.nil;exact nW this)) (fun _=>aD (fin b [] h1 rfl h2))⟩
 | cons x r=>
  refine u13 h1.cons ?_;rintro q hq hb hlt';refine u12 (aK hq hb) ?_;rintro j hj hy;refine ⟨hL,ac (fun _=>?_) (fun h=>absurd hlt' h)⟩;refine ⟨hL,j,hj,?_⟩;refine hy.symm▸?_;have hn:=sj x;refine cw (fun hb'=>?_) (fun hb'=>?_)
  ·have hbl:au x=false:=by have:=hn.symm.trans hb';simpa using this
   refine ⟨hL,j,hj,?_⟩;rw [hy];rw [en,if_neg (by simp [hbl])] at h2;refine ac (fun h5=>?_) (fun h5=>?_)
   ·have h5:x=92:=by simpa using h5
    subst h5;replace h2:=(if_pos rfl)▸h2;refine ⟨ai (e71 d t r b ht h1 w') (fun v w hh=>?_) fun _ _ h=>h⟩;obtain ⟨rfl,y,r',rfl,h6,h7,h8⟩:=hh;exact ⟨rfl,r'.length,by simp;exact qU h7,I72.mk rfl y r' rfl h6 (by refine h8▸?_;exact h2) rfl⟩
   ·have h5:x≠92:=fun e=>h5 (by exact e▸rfl);rw [if_neg h5] at h2;exact ⟨rfl,r.length,by simp,I72.mk rfl (b+1) r rfl (h1.next rfl) h2 rfl⟩
  ·have hbl:au x=true:=by have:=hn.symm.trans hb';simpa using this
   exact fin b _ h1 (by rw [en,if_pos hbl]) h2
noncomputable abbrev jN (t:LA) (c:Nat) (a:Int) (dp:Int):LC:=[.val (.str t),.val (.int a),.val (.str [c]),.val (.int dp)]
noncomputable abbrev xy:IC:=.cons (.ite (.bop .Or (.cmp .Gt (.var 3) (.int 0)) (.cmp .NotIn (.slc (.var 0) (.var 1) (.bin .Add (.var 1) (.int 1))) (.lst (.cons (.str []) (.cons (.str [32]) (.cons (.str [9]) (.cons (.str [10]) .nil))))))) (.cons (.ret (.neg (.int 1))) .nil) .nil) (.cons (.ret (.var 1)) .nil)
theorem sf (r:LA):decide (r.take 1∈([[],[32],[9],[10]]:List (LA)))=bW r:=by
 cases r with
 | nil=>rfl
 | cons c r=>
  show decide ([c]∈_)=au c;unfold au;rw [Nb];simp [or_assoc]
theorem kl {d:Nat} {t:LA} {c:Nat} {a:Int} {r:LA} {o:Option (LA)} {w:Wd} (ht:Tx t) (h:At t a r) (ho:o=some r):wpC (ak (d+1)) xy (jN t c a 0) w (RQ (LQ t (o.filter bW) w)) (fun _ _=>False):=by
 refine gm ⟨by exact dw ht.len,?_⟩;rw [h.slc rfl];have e:=sf r;refine ⟨(by decide:(4:Nat)≤1000),bq (fun hn=>?_) (fun hy=>?_)⟩
 ·have:bW r=false:=by rw [←e];exact decide_eq_false hn
  exact ⟨rfl,.inl ⟨by rw [ho];simp [this],rfl⟩⟩
 ·have:bW r=true:=by rw [←e];exact decide_eq_true hy
  exact ⟨rfl,.inr (v23 a r (by rw [ho];simp [this]) rfl h)⟩
theorem te {d:Nat} {t:LA} {c:Nat} {a:Int} {dp:Nat} {o:Option (LA)} {w:Wd} (hd:1≤dp) (ho:o=none):wpC (ak (d+1)) xy (jN t c a dp) w (RQ (LQ t (o.filter bW) w)) (fun _ _=>False):=by
 refine cM (fun _=>be ⟨rfl,.inl ⟨by rw [ho];rfl,rfl⟩⟩) (fun h=>absurd (xb hd) h)
inductive B72 (s:LA) (dp:Nat) (r:LA):Prop
 | inl (h1:1≤dp) (h2:brL dp false r=brL 1 false s)
 | inr (h1:dp=0) (h2:brL 1 false s=some r)
noncomputable def I72b (t s:LA) (w:Wd) (k:Nat) (vs:LC) (w':Wd):Prop:=∀zG:Prop,(∀(h1:w'=w) (a:Int) (dp:Nat) (r:LA) (h2:k=r.length) (h3:At t a r) (h4:B72 s dp r) (h5:vs=jN t 123 a dp),zG)→zG
theorem I72b.mk {t s:LA} {w:Wd} {k:Nat} {vs:LC} {w':Wd} (h1:w'=w) (a:Int) (dp:Nat) (r:LA) (h2:k=r.length) (h3:At t a r) (h4:B72 s dp r) (h5:vs=jN t 123 a dp):I72b t s w k vs w':=fun _ zk=>zk h1 a dp r h2 h3 h4 h5
theorem Ka (d:Nat) (t s:LA) (a:Int) (ht:Tx t) (ha:At t a (123::s)) (w:Wd) :
 sat (ak (d+2) 72 [.str t,.int a] w) (LQ t ((brL 1 false s).filter bW) w) (fun _ _=>False):=by
 refine aY (fi:=sW) rfl rfl ?_;have len:=ht.len;have hL:t.length<2 ^ 62:=by exact bL len
 refine u13 ha.cons ?_;rintro p hp hx hlt;have hI:=aK hp hx;refine bS hL hI ⟨rfl,?_⟩;refine aD (aD ⟨rfl,_,rfl,rfl,?_⟩);refine aX (I72b t s w) (fun k vs w' hI=>?_) s.length _ _ (by have:t.length=p.length+(s.length+1):=(by rw [hp];simp);exact qR len this) (I72b.mk rfl (a+1) 1 s rfl (ha.next rfl) (.inl (MC _) rfl) rfl);refine hI _ ?_;clear hI;rintro rfl b dp r rfl h1 h2 rfl;cases r with
 | nil=>
  refine ⟨hL,ac (fun h=>absurd h (by have:=h1.nil;exact nW this)) (fun _=>aD ?_)⟩;rcases h2 with ⟨h3,h4⟩|⟨rfl,h4⟩
  ·exact te h3 (by rw [←h4];rfl)
  ·exact kl ht h1 h4
 | cons x r=>
  refine u13 h1.cons ?_;rintro q hq hb hlt';refine u12 (aK hq hb) ?_;rintro j hj hy;refine ⟨hL,ac (fun _=>?_) (fun h=>absurd hlt' h)⟩;rcases h2 with ⟨h3,h4⟩|⟨rfl,h4⟩
  ·refine ac (fun _=>?_) (fun h=>absurd (xb h3) h);refine ⟨hL,j,hj,?_⟩;rw [hy];have stp:∀dp':Nat,B72 s dp' r→Dn (I72b t s w') (x::r).length (jN t 123 (b+1) dp') w':=fun dp' h=>⟨r.length,by simp,I72b.mk rfl (b+1) dp' r rfl (h1.next rfl) h rfl⟩
   refine ac (fun h5=>?_) (fun h5=>?_)
   ·have h5:x=92:=by simpa using h5
    subst h5;have h4:brL dp true r=brL 1 false s:=h4;refine ⟨_,rfl,rfl,_,rfl,rfl,?_⟩;cases r with
    | nil=>exact ⟨0,by simp,I72b.mk rfl (b+1+1) dp [] rfl ((h1.next rfl).over (xa)) (.inl h3 (by rw [←h4];rfl)) rfl⟩
    | cons y r=>exact ⟨r.length,by simp;exact nU,I72b.mk rfl (b+1+1) dp r rfl ((h1.next rfl).next rfl) (.inl h3 h4) rfl⟩
   ·have h5:x≠92:=fun e=>h5 (by rw [e]);rw [tP,if_neg h5] at h4;refine be ⟨hL,j,hj,?_⟩;rw [hy];refine ac (fun h6=>?_) (fun h6=>?_)
    ·have h6:x=123:=by simpa using h6
     rw [if_pos h6] at h4;exact ⟨_,rfl,rfl,_,rfl,rfl,stp (dp+1) (.inl (wZ) h4)⟩
    ·have h6:x≠123:=fun e=>h6 (by rw [e]);rw [if_neg h6] at h4;refine ⟨hL,j,hj,be ?_⟩;rw [hy];refine ac (fun h7=>?_) (fun h7=>?_)
     ·rw [if_pos (show x=125 from by simpa using h7)] at h4;rw [show jN t 123 b dp=[.val (.str t),.val (.int b),.val (.str [123]),.val (.int ((dp:Nat):Int))] from rfl];refine ⟨_,rfl,rfl,_,rfl,rfl,?_⟩;rw [show ((dp:Int)-1)=((dp-1:Nat):Int) by exact Fb (by assumption)];refine stp (dp-1) ?_;by_cases h8:dp=1
      ·rw [if_pos h8] at h4;exact .inr (Fa h8) h4.symm
      ·rw [if_neg h8] at h4;exact .inl (EZ (by assumption) h8) h4
     ·have h7:x≠125:=fun e=>h7 (by rw [e]);rw [if_neg h7] at h4;exact ⟨_,rfl,rfl,stp dp (.inl h3 h4)⟩
  ·exact aD (kl ht h1 h4)
inductive Q72 (s:LA) (dp:Nat) (r:LA):Prop
 | inl (h1:dp=1) (h2:bJ false r=bJ false s)
 | inr (h1:dp=0) (h2:bJ false s=some r)
noncomputable def I72q (t s:LA) (w:Wd) (k:Nat) (vs:LC) (w':Wd):Prop:=∀zG:Prop,(∀(h1:w'=w) (a:Int) (dp:Nat) (r:LA) (h2:k=r.length) (h3:At t a r) (h4:Q72 s dp r) (h5:vs=jN t 34 a dp),zG)→zG
theorem I72q.mk {t s:LA} {w:Wd} {k:Nat} {vs:LC} {w':Wd} (h1:w'=w) (a:Int) (dp:Nat) (r:LA) (h2:k=r.length) (h3:At t a r) (h4:Q72 s dp r) (h5:vs=jN t 34 a dp):I72q t s w k vs w':=fun _ zk=>zk h1 a dp r h2 h3 h4 h5
theorem JZ (d:Nat) (t s:LA) (a:Int) (ht:Tx t) (ha:At t a (34::s)) (w:Wd) :
 sat (ak (d+2) 72 [.str t,.int a] w) (LQ t ((bJ false s).filter bW) w) (fun _ _=>False):=by
 refine aY (fi:=sW) rfl rfl ?_;have len:=ht.len;have hL:t.length<2 ^ 62:=by exact bL len
 refine u13 ha.cons ?_;rintro p hp hx hlt;have hI:=aK hp hx;refine bS hL hI ⟨rfl,?_⟩;refine be (aD ⟨rfl,_,rfl,rfl,?_⟩);refine aX (I72q t s w) (fun k vs w' hI=>?_) s.length _ _ (by have:t.length=p.length+(s.length+1):=(by rw [hp];simp);exact qR len this) (I72q.mk rfl (a+1) 1 s rfl (ha.next rfl) (.inl rfl rfl) rfl);refine hI _ ?_;clear hI;rintro rfl b dp r rfl h1 h2 rfl;cases r with
 | nil=>
  refine ⟨hL,ac (fun h=>absurd h (by have:=h1.nil;exact nW this)) (fun _=>aD ?_)⟩;rcases h2 with ⟨rfl,h4⟩|⟨rfl,h4⟩
  ·exact te (dp:=1) (MC _) (by rw [←h4];rfl)
  ·exact kl ht h1 h4
 | cons x r=>
  refine u13 h1.cons ?_;rintro q hq hb hlt';refine u12 (aK hq hb) ?_;rintro j hj hy;refine ⟨hL,ac (fun _=>?_) (fun h=>absurd hlt' h)⟩;rcases h2 with ⟨rfl,h4⟩|⟨rfl,h4⟩
  ·refine be ?_;refine ⟨hL,j,hj,?_⟩;rw [hy];have stp:∀dp':Nat,Q72 s dp' r→Dn (I72q t s w') (x::r).length (jN t 34 (b+1) dp') w':=fun dp' h=>⟨r.length,by simp,I72q.mk rfl (b+1) dp' r rfl (h1.next rfl) h rfl⟩
   refine ac (fun h5=>?_) (fun h5=>?_)
   ·have h5:x=92:=by simpa using h5
    subst h5;have h4:bJ true r=bJ false s:=h4;refine ⟨_,rfl,rfl,_,rfl,rfl,?_⟩;cases r with
    | nil=>exact ⟨0,by simp,I72q.mk rfl (b+1+1) 1 [] rfl ((h1.next rfl).over (xa)) (.inl rfl (by rw [←h4];rfl)) rfl⟩
    | cons y r=>exact ⟨r.length,by simp;exact nU,I72q.mk rfl (b+1+1) 1 r rfl ((h1.next rfl).next rfl) (.inl rfl h4) rfl⟩
   ·rw [mt,if_neg (fun e=>h5 (by rw [e]))] at h4;refine aD (aD ⟨hL,j,hj,aD ?_⟩);rw [hy];refine ac (fun h7=>?_) (fun h7=>?_)
    ·have h7:x=34:=by simpa using h7
     rw [if_pos h7] at h4;exact ⟨_,rfl,rfl,_,rfl,rfl,stp 0 (.inr rfl h4.symm)⟩
    ·have h7:x≠34:=fun e=>h7 (by rw [e]);rw [if_neg h7] at h4;exact ⟨_,rfl,rfl,stp 1 (.inl rfl h4)⟩
  ·exact aD (kl ht h1 h4)
theorem e72 (d:Nat) (t s:LA) (c:Nat) (a:Int) (ht:Tx t) (ha:At t a (c::s)) (w:Wd):sat (ak (d+2) 72 [.str t,.int a] w) (LQ t (ct (c::s)) w) (fun _ _=>False):=by
 unfold ct
 split
 ·rename_i e;cases e;exact Ka d t _ a ht ha w
 ·rename_i e;cases e;exact JZ d t _ a ht ha w
 ·rename_i h1 h2;exact Kb d t s c a ht ha (fun e=>h1 s (by rw [e])) (fun e=>h2 s (by rw [e])) w
theorem tX (r:LA):decide (r.take 1∈([[32],[9],[10]]:List (LA)))=(match r with|[]=>false|c::_=>au c):=by
 cases r with
 | nil=>rfl
 | cons c r=>
  show decide ([c]∈_)=au c;unfold au;rw [Nb];simp [or_assoc]
noncomputable def IK2 (t r:LA) (s:Slot) (w:Wd) (k:Nat) (vs:LC) (w':Wd):Prop:=∀zG:Prop,(∀(h1:w'=w) (a r':_) (h2:k=r'.length) (h3:At t a r') (h4:r'.dropWhile au=r.dropWhile au) (h5:vs=[.val (.str t),.val (.int a),s]),zG)→zG
theorem IK2.mk {t r:LA} {s:Slot} {w:Wd} {k:Nat} {vs:LC} {w':Wd} (h1:w'=w) (a r':_) (h2:k=r'.length) (h3:At t a r') (h4:r'.dropWhile au=r.dropWhile au) (h5:vs=[.val (.str t),.val (.int a),s]):IK2 t r s w k vs w':=fun _ zk=>zk h1 a r' h2 h3 h4 h5
noncomputable def I73 (t:LA) (w:Wd) (k:Nat) (vs:LC) (w':Wd):Prop:=∀zG:Prop,(∀(h1:w'=w) (a r s:_) (h2:k=r.length) (h3:At t a r) (h4:s.free=true) (h5:dB r=dB t) (h6:r.length≤t.length) (h7:vs=[.val (.str t),.val (.int a),s]),zG)→zG
theorem I73.mk {t:LA} {w:Wd} {k:Nat} {vs:LC} {w':Wd} (h1:w'=w) (a r s:_) (h2:k=r.length) (h3:At t a r) (h4:s.free=true) (h5:dB r=dB t) (h6:r.length≤t.length) (h7:vs=[.val (.str t),.val (.int a),s]):I73 t w k vs w':=fun _ zk=>zk h1 a r s h2 h3 h4 h5 h6 h7
theorem e73 (d:Nat) (t:LA) (ht:Tx t) (w:Wd):ak (d+3) 73 [.str t] w=.ok (hJ t) w:=by
 refine ba (fi:=zg) rfl rfl ?_;have len:=ht.len;have hL:t.length<2 ^ 62:=by exact bL len
 have hr:hJ t=match dB t with
  | none=>aJ true (-1)
  | some n=>aJ false ((t.length-n:Nat):Int):=rfl
 refine ⟨rfl,?_⟩;refine aX (I73 t w) (fun k vs w' hI=>?_) t.length _ _ (uu len) (I73.mk rfl 0 t (.un) rfl (.inl (v12 [] rfl rfl)) rfl rfl (MC _) rfl);refine hI _ ?_;clear hI;rintro rfl a r s rfl ha hs hN hl rfl;refine be ?_;refine aX (IK2 t r s w') (fun k vs w hI=>?_) r.length _ _ (qV len hl) (IK2.mk rfl a r rfl ha rfl rfl);refine hI _ ?_;clear hI;rintro rfl b r' rfl hb h3 rfl;refine ⟨by exact dw len,?_⟩;rw [hb.slc rfl];have e:=tX r';refine ⟨(by decide:(3:Nat)≤1000),cw (fun hy=>?_) (fun hn=>?_)⟩
 ·cases r' with
  | nil=>exact absurd (e.symm.trans hy) (by decide)
  | cons c r'=>
   rw [Mv,if_pos (e.symm.trans hy)] at h3;exact ⟨_,rfl,rfl,r'.length,by simp,IK2.mk rfl (b+1) r' rfl (hb.next rfl) h3 rfl⟩
 ·cases r' with
  | nil=>
   rw [fh,←h3] at hN;refine ⟨hL,ac (fun _=>?_) (fun h=>absurd (by have:=hb.nil;exact EY this) h)⟩;exact (v03 (by decide:(2:Nat)≤1000) (by rw [hr,←hN];rfl) rfl)
  | cons c s'=>
   have hc:au c=false:=e.symm.trans hn;have h4:(c::s').dropWhile au=c::s':=by rw [Mv,if_neg (by simp [hc])]
   have hle:(c::s').length≤r.length:=by refine h4▸h3▸?_;exact (OZ _).length_le
   simp only [Mr] at hle;rw [fh,←h3,h4] at hN;dsimp only at hN;refine u13 hb.cons ?_;rintro p hp hx hlt;refine ⟨hL,ac (fun h=>absurd h (EW hlt)) (fun _=>?_)⟩;refine ⟨ai (e72 d t s' c b ht hb w) (fun v w' hh=>?_) fun _ _ h=>h⟩;obtain ⟨rfl,⟨ho,rfl⟩|⟨x,r2,ho,rfl,h5⟩⟩:=hh
   ·refine ⟨hs,be (v03 (by decide:(2:Nat)≤1000) ?_ rfl)⟩;rw [ho] at hN;rw [hr,←hN];show PV.tup [.bool false,.int b]=PV.tup [.bool false,.int ((t.length-(s'.length+1):Nat):Int)];rw [show ((t.length-(s'.length+1):Nat):Int)=b by rw [hx,hp];simp]
   ·have h6:=ei hc ho;rw [ho] at hN;refine ⟨hs,ac (fun h=>absurd h (by have:=h5.le;exact xG this)) (fun _=>?_)⟩;exact ⟨rfl,r2.length,by exact EV hle h6,I73.mk rfl x r2 _ rfl h5 rfl hN (EU hl hle h6) rfl⟩
theorem yM:∀i j:Fin 20,nm i.val=nm j.val→i=j:=by decide +kernel
theorem ot {i j:Nat} (hi:i<20) (hj:j<20) (h:nm i=nm j):i=j:=congrArg Fin.val (yM ⟨i,hi⟩ ⟨j,hj⟩ h)
theorem mI {β γ:Type} (f:β→γ) (c:Nat):∀l:List (Nat×β),(l.map fun p=>([p.1],f p.2)).lookup [c]=(l.lookup c).map f:=by
 intro l
 induction l with
 | nil=>rfl
 | cons p l ih=>
  obtain ⟨k,v⟩:=p;rw [Mu,Mn,Mn,ih];by_cases h:c=k
  ·subst h;simp
  ·have h1:(([c]:LA)==[k])=false:=by simp [h]
   have h2:(c==k)=false:=by simp [h]
   rw [h1,h2]
theorem pY {β γ:Type} (f:β→γ) {i:Nat} (hi:i<20):∀l:List (Nat×β),l.all (fun p=>decide (p.1<20))=true→(l.map fun p=>(nm p.1,f p.2)).lookup (nm i)=(l.lookup i).map f:=by
 intro l
 induction l with
 | nil=>exact fun _=>rfl
 | cons p l ih=>
  intro hl;obtain ⟨k,v⟩:=p;rw [Ps,MO,decide_eq_true_eq] at hl;rw [Mu,Mn,Mn,ih hl.2];by_cases h:i=k
  ·subst h;simp
  ·rw [(beq_eq_false_iff_ne.mpr fun e=>h (ot hi hl.1 e)),(show (i==k)=false from by simp [h])]
theorem yN {i:Nat} (hi:i<20) {l:LA} (hl:l.all (fun j=>decide (j<20))=true):decide (nm i∈l.map nm)=l.contains i:=by
 rw [Nb,decide_eq_true_eq,Mq,Ma];constructor
 ·rintro ⟨j,hj,e⟩;exact (ot (of_decide_eq_true (Mo.mp hl j hj)) hi e)▸hj
 ·intro h;exact (v12 i h rfl)
theorem jH:∀l:LA,aV (l.map fun i=>.str (nm i))=some (l.map nm)
 | []=>rfl
 | i::l=>by
  show (aV (l.map fun i=>.str (nm i))).map _=_;refine (jH l)▸?_;rfl
theorem jY (c:Nat) (l:LA):(!(MV (txt l) (txt [c]) 0 (txt l).length 1).isEmpty)=l.contains c:=by
 refine (show (txt [c])=⟨#[c]⟩ from rfl)▸(QO (txt l) c)▸?_;rw [Nb,decide_eq_true_eq,Mq]
noncomputable abbrev bT:List (LA×PV):=fy.map fun p=>([p.1],.lst (p.2.map fun i=>.str (nm i)))
noncomputable abbrev oT:List (LA×PV):=rX.map fun p=>(nm p.1,.str p.2)
theorem mJ {β:Type} {p:β→Bool} {c:Nat} {v:β}:∀{l:List (Nat×β)},l.all (fun q=>p q.2)=true→l.lookup c=some v→p v=true:=by
 intro l
 induction l with
 | nil=>intro _ e;cases e
 | cons q l ih=>
  intro h e;obtain ⟨k,u⟩:=q;rw [Ps,MO] at h;rw [Mn] at e;cases hb:c==k with
  | true=>rw [hb] at e;injection e with e;subst e;exact h.1
  | false=>rw [hb] at e;exact ih h.2 e
local macro_rules | `(tactic| walk_at "grd") => `(tactic| (refine And.intro (by decide) ?_))
theorem e67 (d:Nat) (w:Wd) (i:Nat) (hi:i<20) (n:Nat):ak (d+1) 67 [.str (nm i),.str [n]] w=.ok (.bool (cf i n)) w:=by
 refine ba (fi:=zn) rfl rfl ?_;have hb:bT.lookup [n]=(fy.lookup n).map fun l=>.lst (l.map fun i=>.str (nm i)):=mI (fun l=>PV.lst (l.map fun i=>.str (nm i))) n fy;have ho:oT.lookup (nm i)=(rX.lookup i).map .str:=pY PV.str hi rX (by decide);refine ⟨rfl,?_⟩
 repeat walk_at "grd"
 show ((bT.lookup [n]).isSome=true→_)∧((bT.lookup [n]).isSome=false→_);cases hl:fy.lookup n with
 | some l=>
  replace hb:=hl▸hb;refine cw (fun _=>?_) (fun h=>by rw [hb] at h;injection h);refine ⟨_,hb,?_⟩;have hl20:l.all (fun j=>decide (j<20))=true:=mJ (p:=fun l=>l.all fun j=>decide (j<20)) (by decide) hl;have hm:cf i n=l.contains i:=by unfold cf;rw [hl]
  have hc:dq .In (.str (nm i)) (.lst (l.map fun i=>.str (nm i)))=some (cf i n):=by
   rw [hm,←yN hi hl20];show (aV _).map _=_;rw [jH];rfl
  show ez .In (.str (nm i)) (.lst (l.map fun i=>.str (nm i))) _;unfold ez;refine hc▸?_;exact ⟨rfl,rfl⟩
 | none=>
  replace hb:=hl▸hb;refine cw (fun h=>by rw [hb] at h;injection h) (fun _=>?_);refine (v06 (by decide) rfl rfl rfl rfl ?_)
  repeat walk_at "grd"
  show ((oT.lookup (nm i)).isSome=true→_)∧((oT.lookup (nm i)).isSome=false→_);cases hl2:rX.lookup i with
  | some l=>
   replace ho:=hl2▸ho;refine cw (fun _=>?_) (fun h=>by replace h:=ho▸h;injection h);refine ⟨_,ho,?_⟩;have hc:dq .In (.str [n]) (.str l)=some (cf i n):=by
    rw [(show cf i n=l.contains n from by unfold cf;exact hl▸hl2▸rfl),←jY];rfl
   show ez .In (.str [n]) (.str l) _;unfold ez;rw [hc];exact ⟨rfl,rfl⟩
  | none=>
   replace ho:=hl2▸ho;refine cw (fun h=>by replace h:=ho▸h;injection h) (fun _=>?_);have e2:decide (nm i=nm 2)=(i==2):=by
    rw [Nb,decide_eq_true_eq,beq_iff_eq];exact ⟨fun e=>ot hi (by decide) e,fun e=>by exact e▸rfl⟩
   have e12:decide (nm i=nm 12)=(i==12):=by
    rw [Nb,decide_eq_true_eq,beq_iff_eq];exact ⟨fun e=>ot hi (by decide) e,fun e=>by exact e▸rfl⟩
   have e32:(!decide (([n]:LA)=[32]))=(n != 32):=by
    rw [Nb];simp
   refine (show cf i n=(i==2||(!([9,10,0,127]:LA).contains n&&(i==12||n != 32))) from by unfold cf;rw [hl,hl2])▸?_;show (decide (nm i=nm 2)=false→_)∧(decide (nm i=nm 2)=true→_);refine e2.symm▸?_;cases i==2 with
   | true=>exact lQ ⟨rfl,rfl⟩
   | false=>
    refine gm ⟨.str [9,10,0,127],rfl,?_⟩;have hc:dq .NotIn (.str [n]) (.str [9,10,0,127])=some (!([9,10,0,127]:LA).contains n):=by
     rw [←jY,Sl];rfl
    show ez .NotIn (.str [n]) (.str [9,10,0,127]) _;unfold ez;refine hc▸?_;cases ([9,10,0,127]:LA).contains n with
    | true=>exact aD ⟨rfl,rfl⟩
    | false=>
     refine be ?_;show (decide (nm i=nm 12)=false→_)∧(decide (nm i=nm 12)=true→_);refine e12.symm▸?_;cases i==12 with
     | true=>exact lQ ⟨rfl,rfl⟩
     | false=>exact gm ⟨congrArg PV.bool e32,rfl⟩
theorem iy {n:Nat}:clipAt (n+1) (-1)=n:=by
 refine Int.ofNat_inj.mp ((clipAt_cast _ _).trans ?_);show max 0 (min ((n:Int)+1-1) ((n:Int)+1))=n;rw [PD,RW (Int.le_add_one (Qa _)),PZ (Na n)]
theorem fF (r:LA):slc r none (some 1)=r.take 1:=by
 cases r with
 | nil=>rfl
 | cons c r=>exact dJ (k:=1) (by simp)
theorem kX {α:Type} (r:List α):slc r (some 1) none=r.drop 1:=by
 cases r with
 | nil=>rfl
 | cons c r=>
  unfold slc;simp only [NB];refine (show clipAt (c::r).length 1=1 from el rfl (by simp)).symm▸?_;simp
theorem uE (c d:Nat) (r:LA):slc (c::d::r) (some 2) none=r:=by
 unfold slc;simp only [NB];refine (show clipAt (c::d::r).length 2=2 from el rfl (by simp))▸?_;simp
theorem kY (s:LA) (c:Nat):slc (s++[c]) (some (-1)) none=[c]:=by
 unfold slc;simp only [NB,Mf,QJ];rw [iy];simp
theorem rA (s:LA) (c:Nat):slc (s++[c]) none (some (-1))=s:=by
 unfold slc;simp only [NB,Mf,QJ];rw [iy];simp
theorem jD (c:Nat) (hc:c∈Sg):(!(MV (txt [32,9,10,11,12,13]) (txt [c]) 0 (txt [32,9,10,11,12,13]).length 1).isEmpty)=au c:=by
 rw [jY];exact bO (l:=Sg) (f:=fun c=>([32,9,10,11,12,13]:LA).contains c) (g:=au) (by kernel_rfl) c hc
noncomputable def bsT:List (LA×PV):=[([120],.int 16),([111],.int 8),([98],.int 2),([100],.int 10)]
theorem uf:∀c∈Sg,bsT.lookup (bb [c])=if 0<baseN c then some (.int (baseN c)) else none:=bO (by kernel_rfl)
noncomputable def wts:LA:=[48,49,50,51,52,53,54,55,56,57,97,98,99,100,101,102]
noncomputable def bsL:LA:=[2,8,10,16]
noncomputable def ug (b:Nat) (c:Nat):Bool:=decide (aP c<0∨(b:Int)≤aP c)
theorem xM:∀b∈bsL,(Sg.map fun c=>(MV (txt (wts.take b)) (txt (bb [c])) 0 (txt (wts.take b)).length 1).isEmpty)=Sg.map (ug b):=by
 intro b hb;simp only [bsL,Me,ML,or_false] at hb;rcases hb with rfl|rfl|rfl|rfl<;>kernel_rfl
theorem xL:∀b∈bsL,(Sg.map fun c=>if ug b c then 0 else NQ (txt (wts.take b)) (txt (bb [c])))=Sg.map fun c=>if ug b c then 0 else aP c:=by
 intro b hb;simp only [bsL,Me,ML,or_false] at hb;rcases hb with rfl|rfl|rfl|rfl<;>kernel_rfl
theorem gA {c:Nat} (hc:c∈Sg):m0V .lower (.str [c])=some (.str (bb [c])):=gY ⟨fun x hx=>by refine (My.mp hx)▸?_;exact hc,by simp⟩
theorem Ae (c:Nat) (h:0<baseN c):∃b∈bsL,baseN c=(b:Int):=by
 unfold baseN at h⊢
 split
 ·exact (v12 16 (by decide) rfl)
 ·split
  ·exact (v12 8 (by decide) rfl)
  ·split
   ·exact (v12 2 (by decide) rfl)
   ·split
    ·exact (v12 10 (by decide) rfl)
    ·rename_i h1 h2 h3 h4;rw [if_neg h1,if_neg h2,if_neg h3,if_neg h4] at h;exact absurd h (by decide)
noncomputable abbrev xP (t m body:LA) (b v:Int) (s7:Slot):LC:=[.val (.str m),.val (.str [32,9,10,11,12,13]),.val (.str body),.dic bsT,.val (.int b),.val (.int v),.val (.str t),s7]
noncomputable def I68 (m body:LA) (b:Nat) (w:Wd) (l:LB) (vs:LC) (w':Wd):Prop:=∀zG:Prop,(∀(h1:w'=w) (r v s:_) (h2:l=eB r) (h3:s.free=true) (h4:fT b v r=fT b 0 body) (h5:(∀c∈r,c∈Sg)) (h6:vs=xP (wts.take b) m body b v s),zG)→zG
theorem I68.mk {m body:LA} {b:Nat} {w:Wd} {l:LB} {vs:LC} {w':Wd} (h1:w'=w) (r v s:_) (h2:l=eB r) (h3:s.free=true) (h4:fT b v r=fT b 0 body) (h5:(∀c∈r,c∈Sg)) (h6:vs=xP (wts.take b) m body b v s):I68 m body b w l vs w':=fun _ zk=>zk h1 r v s h2 h3 h4 h5 h6
theorem Kc {d:Nat} {m body:LA} {b:Nat} (hb:b∈bsL) (hm:Tx m) (hs:∀c∈body,c∈Sg) {w:Wd} {X:PV} (hX:X=gt ((bo body b).map fun v=>if m.head? = some 45 then -v else v)) (hn:body≠[]→m≠[]) :
 wpC (ak d) (.cons (.for_ 7 (.var 2) (.cons (.ite (.cmp .NotIn (.m0 .lower (.var 7)) (.var 6)) (.cons (.ret .none) .nil) .nil) (.cons (.assign 5 (.bin .Add (.bin .Mult (.var 5) (.var 4)) (.m1 .index (.var 6) (.m0 .lower (.var 7))))) .nil)))
  (.cons (.ite (.cmp .Eq (.var 2) (.str [])) (.cons (.ret .none) .nil) .nil) (.cons (.ret (.ite (.cmp .Eq (.sub (.var 0) (.int 0)) (.str [45])) (.neg (.var 5)) (.var 5))) .nil)))
  (xP (wts.take b) m body b 0 .un) w (RQ fun v w'=>v=X∧w'=w) (fun _ _=>False):=by
 have hbits:MG (b:Int)≤64:=by
  simp only [bsL,Me,ML,or_false] at hb;rcases hb with rfl|rfl|rfl|rfl<;>decide
 refine ⟨_,rfl,?_⟩;refine eG (I68 m body b w) ?_ ?_ _ _ _ (I68.mk rfl body 0 (.un) rfl rfl rfl hs rfl)
 ·rintro vs w' zh;refine zh _ ?_;clear zh;rintro rfl r v s hl hf e hr rfl;have hr0:r=[]:=by cases r with|nil=>rfl|cons _ _=>injection hl
  subst hr0;by_cases h0:body=[]
  ·refine ac (fun _=>⟨?_,rfl⟩) (fun h=>absurd h0 h);rw [hX,bo,if_pos h0];rfl
  ·refine ac (fun h=>absurd h h0) (fun _=>?_);have hv:bo body b=some v:=by rw [bo,if_neg h0];exact e.symm
   replace hX:=hv▸hX;cases m with
   | nil=>exact absurd rfl (hn h0)
   | cons a m=>
    refine ⟨by exact bL hm.len,0,az (k:=0) (by simp),ac (fun h=>⟨?_,rfl⟩) (fun h=>⟨?_,rfl⟩)⟩
    ·rw [hX];have:a=45:=by simpa using h
     subst this;rfl
    ·rw [hX];show PV.int v=.int (if (some a:Option Nat)=some 45 then -v else v);rw [if_neg (by simpa using (fun e=>h (by refine e▸?_;rfl)))]
 ·rintro x l vs w' zh;refine zh _ ?_;clear zh;rintro rfl r v s hl hf e hr rfl;cases r with
  | nil=>injection hl
  | cons c r=>
   cases hl;have hc:=hr c (.head _);refine ⟨hf,_,gA hc,?_⟩;have h1:=bO (xM b hb) c hc;have h2:=bO (xL b hb) c hc;rw [kq] at e;refine cw (fun h=>?_) (fun h=>?_)
   ·have hbad:ug b c=true:=h1.symm.trans h;have hbad:aP c<0∨(b:Int)≤aP c:=of_decide_eq_true hbad;rw [if_pos hbad] at e;refine ⟨?_,rfl⟩;have:bo body b=none:=by
     unfold bo
     split
     ·rfl
     ·exact e.symm
    rw [hX,this];rfl
   ·have hbad:ug b c=false:=h1.symm.trans h;rw [hbad] at h2;have h2:NQ (txt (wts.take b)) (txt (bb [c]))=aP c:=h2;have hnb:¬(aP c<0∨(b:Int)≤aP c):=of_decide_eq_false hbad;rw [if_neg hnb] at e;refine ⟨.inr hbits,_,gA hc,.int (aP c),?_,rfl,I68.mk rfl r _ _ rfl rfl e (fun c hc=>hr c (.tail _ hc)) rfl⟩;show (if 0≤NQ (txt (wts.take b)) (txt (bb [c])) then some (PV.int (NQ (txt (wts.take b)) (txt (bb [c])))) else none)=_;rw [h2,if_pos (ET hnb)]
noncomputable abbrev pc (m:LA):LC:=[.val (.str m),.val (.str [32,9,10,11,12,13]),.un,.un,.un,.un,.un,.un]
noncomputable def IA68 (t:LA) (w:Wd) (k:Nat) (vs:LC) (w':Wd):Prop:=∀zG:Prop,(∀(h1:w'=w) (r:_) (h2:k=r.length) (h3:r.length≤t.length) (h4:(∀c∈r,c∈Sg)) (h5:r.dropWhile au=t.dropWhile au) (h6:vs=pc r),zG)→zG
theorem IA68.mk {t:LA} {w:Wd} {k:Nat} {vs:LC} {w':Wd} (h1:w'=w) (r:_) (h2:k=r.length) (h3:r.length≤t.length) (h4:(∀c∈r,c∈Sg)) (h5:r.dropWhile au=t.dropWhile au) (h6:vs=pc r):IA68 t w k vs w':=fun _ zk=>zk h1 r h2 h3 h4 h5 h6
noncomputable def IB68 (t:LA) (w:Wd) (k:Nat) (vs:LC) (w':Wd):Prop:=∀zG:Prop,(∀(h1:w'=w) (r:_) (h2:k=r.length) (h3:r.length≤t.length) (h4:(∀c∈r,c∈Sg)) (h5:eT r=gu t) (h6:vs=pc r),zG)→zG
theorem IB68.mk {t:LA} {w:Wd} {k:Nat} {vs:LC} {w':Wd} (h1:w'=w) (r:_) (h2:k=r.length) (h3:r.length≤t.length) (h4:(∀c∈r,c∈Sg)) (h5:eT r=gu t) (h6:vs=pc r):IB68 t w k vs w':=fun _ zk=>zk h1 r h2 h3 h4 h5 h6
theorem e68 (d:Nat) (t:LA) (ht:Tx t) (w:Wd):ak (d+1) 68 [.str t] w=.ok (gt (aH t)) w:=by
 refine ba (fi:=zm) rfl rfl ?_;have len:=ht.len;refine ⟨rfl,?_⟩;refine aX (IA68 t w) (fun k vs w' hI=>?_) t.length _ _ (uu len) (IA68.mk rfl t rfl (MC _) ht.sg rfl rfl);refine hI _ ?_;clear hI;rintro rfl r rfl hl hr hd rfl;refine ⟨by exact gc len hl,?_⟩;rw [fF]
 -- the blanks at the end
 have fin:r=t.dropWhile au→wpC (ak d) (.cons (.whl (.bop .And (.cmp .NotEq (.slc (.var 0) (.neg (.int 1)) .nopart) (.str [])) (.cmp .In (.slc (.var 0) (.neg (.int 1)) .nopart) (.var 1))) (.cons (.assign 0 (.slc (.var 0) .nopart (.neg (.int 1)))) .nil))
  (.cons (.assign 2 (.ite (.cmp .In (.slc (.var 0) .nopart (.int 1)) (.lst (.cons (.str [43]) (.cons (.str [45]) .nil)))) (.slc (.var 0) (.int 1) .nopart) (.var 0)))
  (.cons (.dnew 3 [[120],[111],[98],[100]] (.cons (.int 16) (.cons (.int 8) (.cons (.int 2) (.cons (.int 10) .nil)))))
  (.cons (.assign 4 (.int 10))
  (.cons (.ite (.bop .And (.cmp .Gt (.bi .len (.cons (.var 2) .nil)) (.int 2)) (.bop .And (.cmp .Eq (.sub (.var 2) (.int 0)) (.str [48])) (.din (.m0 .lower (.sub (.var 2) (.int 1))) 3))) (.cons (.assign 4 (.dget 3 (.m0 .lower (.sub (.var 2) (.int 1))))) (.cons (.assign 2 (.slc (.var 2) (.int 2) .nopart)) .nil)) .nil)
  (.cons (.tup2 5 6 (.tup (.cons (.int 0) (.cons (.slc (.str [48,49,50,51,52,53,54,55,56,57,97,98,99,100,101,102]) .nopart (.var 4)) .nil))))
  (.cons (.for_ 7 (.var 2) (.cons (.ite (.cmp .NotIn (.m0 .lower (.var 7)) (.var 6)) (.cons (.ret .none) .nil) .nil) (.cons (.assign 5 (.bin .Add (.bin .Mult (.var 5) (.var 4)) (.m1 .index (.var 6) (.m0 .lower (.var 7))))) .nil)))
  (.cons (.ite (.cmp .Eq (.var 2) (.str [])) (.cons (.ret .none) .nil) .nil) (.cons (.ret (.ite (.cmp .Eq (.sub (.var 0) (.int 0)) (.str [45])) (.neg (.var 5)) (.var 5))) .nil)))))))))
  (pc r) w' (RQ fun v w''=>v=gt (aH t)∧w''=w') (fun _ _=>False):=by
  intro e;refine aX (IB68 t w') (fun k vs w hI=>?_) r.length _ _ (qV len hl) (IB68.mk rfl r rfl hl hr (by refine e▸?_;rfl) rfl);refine hI _ ?_;clear hI;rintro rfl m rfl hl hm hd rfl;refine ⟨by exact gc len hl,?_⟩
  -- behind the blanks
  have body:m=gu t→wpC (ak d) (.cons (.assign 2 (.ite (.cmp .In (.slc (.var 0) .nopart (.int 1)) (.lst (.cons (.str [43]) (.cons (.str [45]) .nil)))) (.slc (.var 0) (.int 1) .nopart) (.var 0)))
   (.cons (.dnew 3 [[120],[111],[98],[100]] (.cons (.int 16) (.cons (.int 8) (.cons (.int 2) (.cons (.int 10) .nil)))))
   (.cons (.assign 4 (.int 10))
   (.cons (.ite (.bop .And (.cmp .Gt (.bi .len (.cons (.var 2) .nil)) (.int 2)) (.bop .And (.cmp .Eq (.sub (.var 2) (.int 0)) (.str [48])) (.din (.m0 .lower (.sub (.var 2) (.int 1))) 3))) (.cons (.assign 4 (.dget 3 (.m0 .lower (.sub (.var 2) (.int 1))))) (.cons (.assign 2 (.slc (.var 2) (.int 2) .nopart)) .nil)) .nil)
   (.cons (.tup2 5 6 (.tup (.cons (.int 0) (.cons (.slc (.str [48,49,50,51,52,53,54,55,56,57,97,98,99,100,101,102]) .nopart (.var 4)) .nil))))
   (.cons (.for_ 7 (.var 2) (.cons (.ite (.cmp .NotIn (.m0 .lower (.var 7)) (.var 6)) (.cons (.ret .none) .nil) .nil) (.cons (.assign 5 (.bin .Add (.bin .Mult (.var 5) (.var 4)) (.m1 .index (.var 6) (.m0 .lower (.var 7))))) .nil)))
   (.cons (.ite (.cmp .Eq (.var 2) (.str [])) (.cons (.ret .none) .nil) .nil) (.cons (.ret (.ite (.cmp .Eq (.sub (.var 0) (.int 0)) (.str [45])) (.neg (.var 5)) (.var 5))) .nil))))))))
   (pc m) w (RQ fun v w''=>v=gt (aH t)∧w''=w) (fun _ _=>False):=by
   intro e
   -- the body stands in its place
   have go:∀bd:LA,bd.length≤m.length→(∀c∈bd,c∈Sg)→(cO m=(aL bd).map fun v=>if m.head? = some 45 then -v else v)→wpC (ak d) (.cons (.dnew 3 [[120],[111],[98],[100]] (.cons (.int 16) (.cons (.int 8) (.cons (.int 2) (.cons (.int 10) .nil)))))
    (.cons (.assign 4 (.int 10))
    (.cons (.ite (.bop .And (.cmp .Gt (.bi .len (.cons (.var 2) .nil)) (.int 2)) (.bop .And (.cmp .Eq (.sub (.var 2) (.int 0)) (.str [48])) (.din (.m0 .lower (.sub (.var 2) (.int 1))) 3))) (.cons (.assign 4 (.dget 3 (.m0 .lower (.sub (.var 2) (.int 1))))) (.cons (.assign 2 (.slc (.var 2) (.int 2) .nopart)) .nil)) .nil)
    (.cons (.tup2 5 6 (.tup (.cons (.int 0) (.cons (.slc (.str [48,49,50,51,52,53,54,55,56,57,97,98,99,100,101,102]) .nopart (.var 4)) .nil))))
    (.cons (.for_ 7 (.var 2) (.cons (.ite (.cmp .NotIn (.m0 .lower (.var 7)) (.var 6)) (.cons (.ret .none) .nil) .nil) (.cons (.assign 5 (.bin .Add (.bin .Mult (.var 5) (.var 4)) (.m1 .index (.var 6) (.m0 .lower (.var 7))))) .nil)))
    (.cons (.ite (.cmp .Eq (.var 2) (.str [])) (.cons (.ret .none) .nil) .nil) (.cons (.ret (.ite (.cmp .Eq (.sub (.var 0) (.int 0)) (.str [45])) (.neg (.var 5)) (.var 5))) .nil)))))))
    [.val (.str m),.val (.str [32,9,10,11,12,13]),.val (.str bd),.un,.un,.un,.un,.un] w (RQ fun v w''=>v=gt (aH t)∧w''=w) (fun _ _=>False):=by
    intro bd hbl hbs hw;have hmn:bd≠[]→m≠[]:=fun h e=>h (by have:bd.length=0:=(by rw [e] at hbl;simpa using hbl);exact MR this);refine (v03 rfl rfl ?_);have tail:∀(b:Nat) (bd':LA),b∈bsL→(∀c∈bd',c∈Sg)→(bd'≠[]→m≠[])→aL bd=bo bd' b→wpC (ak d) (.cons (.tup2 5 6 (.tup (.cons (.int 0) (.cons (.slc (.str [48,49,50,51,52,53,54,55,56,57,97,98,99,100,101,102]) .nopart (.var 4)) .nil))))
     (.cons (.for_ 7 (.var 2) (.cons (.ite (.cmp .NotIn (.m0 .lower (.var 7)) (.var 6)) (.cons (.ret .none) .nil) .nil) (.cons (.assign 5 (.bin .Add (.bin .Mult (.var 5) (.var 4)) (.m1 .index (.var 6) (.m0 .lower (.var 7))))) .nil)))
     (.cons (.ite (.cmp .Eq (.var 2) (.str [])) (.cons (.ret .none) .nil) .nil) (.cons (.ret (.ite (.cmp .Eq (.sub (.var 0) (.int 0)) (.str [45])) (.neg (.var 5)) (.var 5))) .nil))))
     [.val (.str m),.val (.str [32,9,10,11,12,13]),.val (.str bd'),.dic bsT,.val (.int b),.un,.un,.un] w (RQ fun v w''=>v=gt (aH t)∧w''=w) (fun _ _=>False):=by
     intro b bd' hb hs' hn' hw';have hb16:b≤16:=by
      simp only [bsL,Me,ML,or_false] at hb;exact ER hb
     refine (v05 (by decide:(16:Nat)≤1048576) (by decide:(2:Nat)≤1000) rfl rfl ?_);refine (show slc [48,49,50,51,52,53,54,55,56,57,97,98,99,100,101,102] none (some (b:Int))=wts.take b from dJ (t:=wts) (by show b≤16;exact hb16))▸?_;exact (Kc (d:=d) (w:=w) hb (⟨hm,by exact ES len hl⟩) hs' (X:=gt (aH t)) (by rw [(show aH t=cO m from by refine e▸?_;rfl),hw,hw']) hn')
    have plain:=fun h=>tail 10 bd (by decide) hbs hmn h;have lb:bd.length<2 ^ 62:=by exact EQ len hl hbl
    refine ⟨lb,ac (fun h2=>?_) (fun h2=>?_)⟩
    ·obtain ⟨a,c,x,r',rfl⟩:=kU (Nj.mp h2)
     ·skip
      have hc:c∈Sg:=hbs c (.tail _ (.head _));refine ⟨lb,0,az (k:=0) (by simp),ac (fun h3=>?_) (fun h3=>?_)⟩
      ·have h3:a=48:=by simpa using h3
       subst h3;refine ⟨lb,1,az (k:=1) (by simp),_,gA hc,?_⟩;show ((bsT.lookup (bb [c])).isSome=true→_)∧((bsT.lookup (bb [c])).isSome=false→_);have hb:=uf c hc;by_cases h0:0<baseN c
       ·rw [if_pos h0] at hb;refine cw (fun _=>?_) (fun h=>by replace h:=hb▸h;injection h);refine ⟨lb,1,az (k:=1) (by simp),_,gA hc,_,hb,rfl,?_⟩;refine (v03 (EP len hl hbl) rfl ?_)
        ·rw [uE];refine u12 (Ae c h0) ?_;rintro b hbm hbe;have:=tail b (x::r') hbm (fun y hy=>hbs y (.tail _ (.tail _ hy))) (fun _=>hmn (OT _ _)) (by rw [aL,if_pos h0,hbe]);replace this:=hbe▸this;exact this
       ·replace hb:=(if_neg h0)▸hb;refine cw (fun h=>by replace h:=hb▸h;injection h) (fun _=>plain (by rw [aL,if_neg h0];rfl))
      ·refine aD (plain ?_);have:a≠48:=fun e=>h3 (by refine e▸?_;rfl);unfold aL
       split
       ·rename_i e;injection e with e;subst e;exact absurd rfl this
       ·rfl
    ·refine aD (plain ?_);unfold aL
     split
     ·exact absurd (by simp;exact EO) h2
     ·rfl
   refine ⟨by exact gc len hl,?_⟩;rw [fF];cases m with
   | nil=>
    refine ⟨(by decide:(2:Nat)≤1000),aD ⟨rfl,?_⟩⟩;exact go [] (MC _) (fun _ h=>nomatch h) (by show aL []=(aL []).map fun v=>v;simp)
   | cons a m=>
    refine ⟨(by decide:(2:Nat)≤1000),?_⟩;show (decide ([a]∈[[43],[45]])=true→_)∧(decide ([a]∈[[43],[45]])=false→_);refine ac (fun h=>?_) (fun h=>?_)
    ·refine (v03 (gc len hl) rfl ?_)
     ·rw [kX];refine go m (by simp) (fun c hc=>hm c (.tail _ hc)) ?_;have:a=43∨a=45:=by simpa using h
      refine Mx this (fun hz=>?_) fun hz=>?_
      ·obtain rfl:=hz;show aL m=(aL m).map fun v=>v;simp
      ·obtain rfl:=hz;rfl
    ·refine ⟨rfl,go (a::m) (MC _) hm ?_⟩;have hs:¬(a=43∨a=45):=by simpa using h
     show cO (a::m)=(aL (a::m)).map fun v=>if (some a:Option Nat)=some 45 then -v else v
     simp only [if_neg (fun e=>hs (.inr (Mm e)))];rw [RB];unfold cO
     split
     ·rename_i e;injection e with e;subst e;exact absurd (.inr rfl) hs
     ·rename_i e;injection e with e;subst e;exact absurd (.inl rfl) hs
     ·rfl
  by_cases h0:m=[]
  ·subst h0;exact aD (aD (body hd))
  ·obtain ⟨s,c,rfl⟩:∃s c,m=s++[c]:=(v21 m.dropLast (m.getLast h0) ((Ow _).symm))
   rw [kY];refine bq (fun _=>?_) (fun h=>absurd h (by simp));refine ⟨by exact gc len hl,?_⟩;rw [kY];have hb:=jD c (hm c (by simp));rw [dj] at hd;refine cw (fun h=>?_) (fun h=>?_)
   ·have hbl:au c=true:=hb.symm.trans h;rw [if_pos hbl] at hd;refine ⟨by exact gc len hl,?_⟩;rw [rA];exact ⟨rfl,s.length,by simp,IB68.mk rfl s rfl (by simp at hl;exact qQ hl) (fun c hc=>hm c (by simp [hc])) hd rfl⟩
   ·have hbl:au c=false:=hb.symm.trans h;rw [if_neg (by simp [hbl])] at hd;exact body hd
 cases r with
 | nil=>exact aD (aD (fin hd))
 | cons c r=>
  refine bq (fun _=>?_) (fun h=>absurd h (by simp));refine ⟨by exact gc len hl,?_⟩;rw [fF];have hb:=jD c (hr c (.head _));refine cw (fun h=>?_) (fun h=>?_)
  ·have hbl:au c=true:=hb.symm.trans h;rw [Mv,if_pos hbl] at hd;exact ⟨by exact gc len hl,rfl,r.length,by simp,IA68.mk rfl r rfl (by simp at hl;exact qQ hl) (fun x hx=>hr x (.tail _ hx)) hd (by rw [kX];rfl)⟩
  ·have hbl:au c=false:=hb.symm.trans h;rw [Mv,if_neg (by simp [hbl])] at hd;exact fin hd
noncomputable def qd (y:LA):Option Bool:=if y∈WT then some true else if y∈WF then some false else none
noncomputable def xh (x:LA):List (LA):=(NO (x.length+1)).map (x.take ·)
theorem uY {x y:LA} (h:y.isPrefixOf x=true):y∈xh x:=by
 have h:=OF.mp h;refine Ma.mpr (v12 y.length (OE.mpr (RC h.length_le)) ?_);exact (Oc.mp h).symm
noncomputable def GN:List (LA):=(wT++wF).flatMap xh++(WT++WF)
theorem wp:GN.all (fun y=>decide (y=[]∨y=[48]∨y=[49])||decide (eD y=qd y))=true:=by decide +kernel
theorem tW {y:LA} (h0:y≠[]) (h1:y≠[48]) (h2:y≠[49]):eD y=qd y:=by
 by_cases h:y∈GN
 ·have:=Mo.mp wp y h;simp only [Qc,decide_eq_true_eq] at this;exact this.resolve_left (by rintro (h|h|h);exact h0 h;exact h1 h;exact h2 h)
 ·have hp:∀x∈wT++wF,y.isPrefixOf x=false:=fun x hx=>by
   rw [Ry];intro e;exact h (Mc _ (List.mem_flatMap.mpr (v12 x hx (uY e))))
  have hT:wT.any (fun x=>y.isPrefixOf x)=false:=by
   rw [Of];exact fun x hx=>by rw [hp x (Mc _ hx)];simp
  have hF:wF.any (fun x=>y.isPrefixOf x)=false:=by
   rw [Of];exact fun x hx=>by rw [hp x (LZ _ hx)];simp
  rw [eD,if_neg (by simp [h0,(show y≠[111] from fun e=>h (by rw [e];decide))]),hT,hF,qd,if_neg (show y∉WT from fun e=>h (LZ _ (Mc _ e))),if_neg (show y∉WF from fun e=>h (LZ _ (LZ _ e)))];rfl
theorem mn {c:Nat} (hc:au c=false):∀(n:Nat) (r:LA),r.length≤n→∃r',eT (c::r)=c::r':=by
 intro n
 induction n with
 | zero=>?_
 | succ n ih=>?_
 all_goals
  intro r h;cases r with
  | nil=>
   refine ⟨[],?_⟩;have:=dj [] c;rw [if_neg (by simp [hc])] at this;exact this
  | cons x r=>?_
 ·simp at h
 ·skip
  obtain ⟨s,y,e⟩:∃s y,x::r=s++[y]:=⟨(x::r).dropLast,(x::r).getLast (OT _ _),(Ow _).symm⟩
  refine e▸?_;have:=dj (c::s) y;refine MD▸this▸?_
  split
  ·refine ih s ?_;have h2:=congrArg Nf e;simp at h2 h;exact EN h2 h
  ·exact ⟨s++[y],rfl⟩
theorem jK {c:Nat} {r:LA} (h:10≤aP c):aH (c::r)=none:=by
 refine u04 (ix (x:=c) (by unfold dg;exact EM h)) ?_;rintro hb h92 h34 h10;have h1:c≠45:=by rintro rfl;exact absurd h (by decide)
 have h2:c≠43:=by rintro rfl;exact absurd h (by decide)
 have h3:c≠48:=by rintro rfl;exact absurd h (by decide)
 obtain ⟨r',hr⟩:=mn hb r.length r (MC _);have hm:gu (c::r)=c::r':=by
  unfold gu;rw [Mv,if_neg (by simp [hb]),hr]
 unfold aH;refine hm▸?_;have hB:aL (c::r')=none:=by
  unfold aL
  split
  ·rename_i e;injection e with e;subst e;exact absurd rfl h3
  ·rw [bo,if_neg (OT _ _),kq,if_pos (.inr h)]
 unfold cO
 split
 ·rename_i e;injection e with e;subst e;exact absurd rfl h1
 ·rename_i e;injection e with e;subst e;exact absurd rfl h2
 ·exact hB
theorem gZ:∀c∈Sg,((([116,121,111,102,110]:LA).contains ((cm c).headD 0)&&decide (aP c<10))||((cm c).headD 0==49&&c != 49)||((cm c).headD 0==48&&c != 48)||((cm c)==[]))=false:=bO (g:=fun _=>false) (by kernel_rfl)
theorem mi:(WT++WF).all (fun w=>decide (w=[49])||decide (w=[48])||([116,121,111,102,110]:LA).contains (w.headD 0))=true:=by decide
theorem dL {r:LA} (hr:∀c∈r,c∈Sg) (h:bb r=[]):r=[]:=by
 cases r with
 | nil=>rfl
 | cons c r=>
  have:=(dM c).1;have h2:(cm c++bb r).length=0:=congrArg Nf h;rw [Mf] at h2;omega
theorem gG {t:LA} (ht:Tx t) (h0:t≠[]) (hw:bb t∈WT++WF):t=[49]∨t=[48]∨aH t=none:=by
 cases t with
 | nil=>exact absurd rfl h0
 | cons c r=>
  have hc:=gZ c (ht.sg c (.head _));have hl:bb (c::r)=cm c++bb r:=rfl;have hlen:=(dM c).1;obtain ⟨x,s,hs⟩:∃x s,cm c=x::s:=by
   cases h:cm c with
   | nil=>rw [h] at hlen;simp at hlen
   | cons x s=>exact (v21 x s rfl)
  have hh:(bb (c::r)).headD 0=(cm c).headD 0:=by refine hl▸hs▸?_;rfl
  have hW:=Mo.mp mi _ hw;simp only [Qc,decide_eq_true_eq] at hW;rw [hh] at hW;simp only [MS,Ph] at hc;obtain ⟨⟨⟨c1,c2⟩,c3⟩,c4⟩:=hc;rcases hW with (hW|hW)|hW
  ·left;have hx:(cm c).headD 0=49:=by rw [←hh,hW];rfl
   have hc49:c=49:=by
    refine Mx c2 (fun c2=>?_) fun c2=>?_
    ·rw [hx] at c2;exact absurd c2 (by decide)
    ·simpa using c2
   subst hc49;have:bb r=[]:=by
    rw [hl] at hW;have h:=congrArg Nf hW;simp at h;exact MR (nT hlen h)
   exact (dL (fun c hc=>ht.sg c (.tail _ hc)) this)▸rfl
  ·right;left;have hx:(cm c).headD 0=48:=by rw [←hh,hW];rfl
   have hc48:c=48:=by
    refine Mx c3 (fun c3=>?_) fun c3=>?_
    ·rw [hx] at c3;exact absurd c3 (by decide)
    ·simpa using c3
   subst hc48;have:bb r=[]:=by
    rw [hl] at hW;have h:=congrArg Nf hW;simp at h;exact MR (nT hlen h)
   exact (dL (fun c hc=>ht.sg c (.tail _ hc)) this)▸rfl
  ·right;right;refine jK ?_;refine Mx c1 (fun c1=>?_) fun c1=>?_
   ·replace c1:=hW▸c1;injection c1
   ·have:=of_decide_eq_false c1;exact EL this
theorem pi {t:LA} (ht:Tx t) (h0:t≠[]):cP t=qd (bb t):=by
 by_cases h1:t=[49]
 ·subst h1;decide
 ·by_cases h2:t=[48]
  ·subst h2;decide
  ·cases hv:aH t with
   | some v=>
    have:cP t=none:=by
     rw [cP,(show gn t=some (!decide (v=0)) from by rw [gn,hv]),hv];exact if_pos ⟨by simp,h2,h1⟩
    refine this▸?_;have hno:bb t∉WT++WF:=fun hw=>by
     rcases gG ht h0 hw with h|h|h
     ·exact h1 h
     ·exact h2 h
     ·replace h:=hv▸h;injection h
    rw [qd,if_neg (fun h=>hno (Mc _ h)),if_neg (fun h=>hno (LZ _ h))]
   | none=>
    have h48:bb t≠[48]:=fun h=>by
     rcases gG ht h0 (by rw [h];decide) with h|h|h'
     ·exact h1 h
     ·exact h2 h
     ·cases t with
      | nil=>exact h0 rfl
      | cons c r=>
       have hl:bb (c::r)=cm c++bb r:=rfl;have hlen:=(dM c).1;rw [hl] at h;have hc:=gZ c (ht.sg c (.head _));simp only [MS,Ph] at hc;obtain ⟨⟨⟨c1,c2⟩,c3⟩,c4⟩:=hc;have hx:(cm c).headD 0=48:=by
        cases hs:cm c with
        | nil=>rw [hs] at hlen;simp at hlen
        | cons x s=>rw [hs] at h;injection h with e _
       have hc48:c=48:=by
        refine Mx c3 (fun c3=>?_) fun c3=>?_
        ·rw [hx] at c3;exact absurd c3 (by decide)
        ·simpa using c3
       subst hc48;have:bb r=[]:=by
        have h:=congrArg Nf h;simp at h;exact MR (nT hlen h)
       exact h2 (by exact (dL (fun c hc=>ht.sg c (.tail _ hc)) this)▸rfl)
    have h49:bb t≠[49]:=fun h=>by
     cases t with
     | nil=>exact h0 rfl
     | cons c r=>
      have hl:bb (c::r)=cm c++bb r:=rfl;have hlen:=(dM c).1;rw [hl] at h;have hc:=gZ c (ht.sg c (.head _));simp only [MS,Ph] at hc;obtain ⟨⟨⟨c1,c2⟩,c3⟩,c4⟩:=hc;have hx:(cm c).headD 0=49:=by
       cases hs:cm c with
       | nil=>rw [hs] at hlen;simp at hlen
       | cons x s=>rw [hs] at h;injection h with e _
      have hc49:c=49:=by
       refine Mx c2 (fun c2=>?_) fun c2=>?_
       ·rw [hx] at c2;exact absurd c2 (by decide)
       ·simpa using c2
      subst hc49;have:bb r=[]:=by
       have h:=congrArg Nf h;simp at h;exact MR (nT hlen h)
      exact h1 (by exact (dL (fun c hc=>ht.sg c (.tail _ hc)) this)▸rfl)
    rw [←tW (fun h=>h0 (dL ht.sg h)) h48 h49,cP,(show gn t=eD (bb t) from by rw [gn,hv]),hv];cases eD (bb t) with
    | none=>rfl
    | some b=>exact if_neg fun h=>h.1 rfl
theorem WTF:WT.all (fun y=>decide (y∉WF))=true:=by decide
theorem iT {t:LA} (ht:Tx t) (h0:t≠[]) (name:LA):di name t=cG name t:=by
 unfold di cG;rw [pi ht h0];unfold qd;by_cases hT:bb t∈WT
 ·have hF:bb t∉WF:=of_decide_eq_true (Mo.mp WTF _ hT);rw [if_pos hT];unfold eh;simp [hT,hF]
 ·by_cases hF:bb t∈WF
  ·rw [if_neg hT,if_pos hF];unfold eh;simp [hT,hF]
  ·rw [if_neg hT,if_neg hF];unfold eh;simp [hT,hF]
noncomputable def kj (t:LA) (k:Nat):LA:=((NO k).map (·+1)).filter fun j=>(aH (t.take j)).isSome
theorem oO (t:LA):∀k:Nat,farV t k≤k∧((kj t k).map fun j:Nat=>(j:Int)).foldl (fun m x=>if m<x then x else m) 0=(farV t k:Int):=by
 intro k
 induction k with
 | zero=>exact ⟨MC _,rfl⟩
 | succ k ih=>
  obtain ⟨h1,h2⟩:=ih;have e:kj t (k+1)=kj t k++(if (aH (t.take (k+1))).isSome then [k+1] else []):=by
   unfold kj;rw [List.range_succ,Mz,Rg];simp [NU]
  rw [e,Mz,List.foldl_append,h2,sZ];cases aH (t.take (k+1)) with
  | none=>exact ⟨by simp;exact EJ h1,rfl⟩
  | some v=>
   refine ⟨by simp,?_⟩;simp;exact EI h1
theorem sX (t:LA) (k:Nat):pU (0::(kj t k).map fun j:Nat=>(j:Int))=some (farV t k:Int):=congrArg some (oO t k).2
noncomputable def bZ (i:Nat) (t:LA):LA:=(NO t.length).filter fun k=>!cf i (t.getD k 0)
theorem na (f:Nat→Bool):∀t:LA,(NO t.length).find? (fun k=>f (t.getD k 0))=t.findIdx? f:=by
 intro t
 induction t with
 | nil=>rfl
 | cons c t ih=>
  rw [Mr,OX,RN,Pv];simp only [Ra];cases f c with
  | true=>rfl
  | false=>
   simp only [List.find?_map];rw [←ih];rfl
theorem mf (i:Nat) (t:LA):aJ (decide (bZ i t=[])) (((bZ i t).map (fun j:Nat=>(j:Int))++[-1]).headD 0)=gL i t:=by
 have h:(bZ i t).head? = t.findIdx? fun c=>!cf i c:=by
  unfold bZ;rw [List.head?_filter];exact na (fun c=>!cf i c) t
 unfold gL;refine h▸?_;cases bZ i t with
 | nil=>rfl
 | cons k l=>simp [aJ]
noncomputable def bD (got n:LA):Bool:=!decide (got=[])&&got.isPrefixOf n
noncomputable def bR (got:LA) (names:List (LA)):Option (LA):=if got∈names then some got else match names.filter (bD got) with
 | [n]=>some n
 | _=>none
noncomputable def ca (names:List (LA)):LA:=if names.length<3 then cq [32,111,114,32] names else cq [44,32] (names.take (names.length-1))++[44,32,111,114,32]++names.getLastD []
noncomputable def pd (what got:LA) (names:List (LA)):LA:=
 (if names.filter (bD got)=[] then [98,97,100,32] else [97,109,98,105,103,117,111,117,115,32])++what++[32,34]++got++[34,58,32,109,117,115,116,32,98,101,32]++ca names
noncomputable def lM (what got:LA):PV:=.tup [.str [84,67,76],.str [76,79,79,75,85,80],.str [73,78,68,69,88],.str what,.str got]
theorem cA:∀l:List (LA),aV (l.map .str)=some l
 | []=>rfl
 | y::l=>by
  show (aV (l.map .str)).map _=_;refine (cA l)▸?_;rfl
structure Nms (names:List (LA)):Prop where
 ne:names≠[]
 len:names.length≤40
 each:(names.map (·.length)).sum+names.length≤2000
theorem dc (sep:LA):∀l:List (LA),(cq sep l).length≤(l.map (·.length)).sum+l.length*sep.length
 | []=>Tw _
 | [a]=>Mj (NW a.length 0) (NW _ _)
 | a::b::r=>by
  have:=dc sep (b::r);show (a++sep++cq sep (b::r)).length≤_;simp only [Mf,Mu,OM,Mr] at this⊢;rw [Sq] at this⊢;rw [Sq];exact EH this
theorem eg {sep:LA} {l:List (LA)} (h1:sep.length≤16) (h2:(l.map (·.length)).sum+l.length≤1048576):dN sep (l.map .str)=some (.str (cq sep l)):=by
 unfold dN;rw [cA];exact if_pos ⟨h1,h2⟩
theorem eU:∀(l:List (LA)) (k:Nat),((l.take k).map (·.length)).sum≤(l.map (·.length)).sum
 | [],k=>by simp
 | a::l,0=>by simp
 | a::l,k+1=>by
  simp only [List.take_succ_cons,Mu,OM];exact EG (eU l k)
theorem fS {names:List (LA)} (h:Nms names):(ca names).length≤5000:=by
 unfold ca
 split
 ·have:=dc [32,111,114,32] names;have h1:=h.each;simp only [Mr,MN] at this;exact EF this h1 h.len
 ·have:=dc [44,32] (names.take (names.length-1));have h1:=h.each;have h2:=h.len;have h3:=eU names (names.length-1);have h4:(names.getLastD []).length≤(names.map (·.length)).sum:=by
   have hm:names.getLastD []∈names:=by
    rw [OI,List.getLast?_eq_some_getLast h.ne];exact List.getLast_mem h.ne
   generalize names.getLastD []=x at hm;clear this h1 h2 h3 h;rename_i hh;clear hh
   induction names with
   | nil=>cases hm
   | cons y l ih=>
    simp only [Mu,OM];refine Mx (Me.mp hm) (fun hz=>?_) fun hm=>?_
    ·obtain rfl:=hz;exact wY
    ·have:=ih hm;exact wX this
  simp only [Mf,Mr,MN,No] at this⊢;exact EE h1 h3 h4 this
theorem e10 (d:Nat) (names:List (LA)) (h:Nms names) (w:Wd):ak (d+1) 10 [.tup (names.map .str)] w=.ok (.str (ca names)) w:=by
 refine ba (fi:=zU) rfl rfl ?_;have hl:=h.len;have he:=h.each;have hll:(names.map PV.str).length=names.length:=Mp _;have hpos:0<names.length:=QZ.mpr h.ne;refine ⟨by rw [hll];exact nR he,ac (fun h3=>?_) (fun h3=>?_)⟩
 ·replace h3:=hll▸h3;refine ⟨_,eg (by decide) (wW he),?_,rfl⟩;rw [ca,if_pos (ED h3)]
 ·replace h3:=hll▸h3;have hs:=eU names (names.length-1);refine ⟨.tup ((names.take (names.length-1)).map .str),?_,_,eg (by decide) (by refine No▸?_;exact wV he hs),?_⟩
  ·show (if _ then some (PV.tup _) else none)=_;rw [if_pos (by refine hll▸?_;exact EC he h3)];congr 2;refine hll▸Qu▸?_;congr 2;exact EB
  ·have h5:=dc [44,32] (names.take (names.length-1));simp only [No,Mr,MN] at h5;refine ⟨by simp only [Mr,MN];exact wU he hs h5,by rw [hll];exact nR he,names.length-1,.str (names.getLastD []),?_,?_,?_⟩
   ·rw [hll];unfold seqIndex?;simp only [show ((-1:Int)<0) from by decide,if_true];rw [if_pos (by simp only [MO,decide_eq_true_eq];exact EA h3)];congr 1;exact wS
   ·rw [Ng,OI,Qo];rw [Mg (Ez h3)];rfl
   ·have h6:=fS h;rw [ca,if_neg (Ey h3)] at h6⊢;simp only [Mf] at h6;exact (v03 (by simp only [Mf];exact wR h6) rfl rfl)
noncomputable def I11 (what got:LA) (names:List (LA)) (w:Wd) (l:LB) (vs:LC) (w':Wd):Prop:=∀zG:Prop,(∀(h1:w'=w) (p r s:_) (h2:names=p++r) (h3:l=r.map .str) (h4:got∉p) (h5:s.free=true) (h6:vs=[.val (.str what),.val (.str got),.val (.tup (names.map .str)),.own ((p.filter (bD got)).map .str),s,.un]),zG)→zG
theorem I11.mk {what got:LA} {names:List (LA)} {w:Wd} {l:LB} {vs:LC} {w':Wd} (h1:w'=w) (p r s:_) (h2:names=p++r) (h3:l=r.map .str) (h4:got∉p) (h5:s.free=true) (h6:vs=[.val (.str what),.val (.str got),.val (.tup (names.map .str)),.own ((p.filter (bD got)).map .str),s,.un]):I11 what got names w l vs w':=fun _ zk=>zk h1 p r s h2 h3 h4 h5 h6
inductive PickQ (got:LA) (names:List (LA)) (w:Wd) (v:PV) (w':Wd):Prop
 | mk (h1:w'=w) (n) (h2:bR got names=some n) (h3:v=.str n)
inductive PickR (what got:LA) (names:List (LA)) (w:Wd) (x:XC) (w':Wd):Prop
 | mk (h1:w'=w) (h2:bR got names=none) (h3:x=⟨1,pd what got names,lM what got⟩)
theorem e11 (d:Nat) (what got:LA) (names:List (LA)) (hn:Nms names) (hw:what.length≤100) (hg:got.length≤100) (w:Wd) :
 sat (ak (d+2) 11 [.str what,.str got,.tup (names.map .str)] w) (PickQ got names w) (PickR what got names w):=by
 refine aY (fi:=zT) rfl rfl ?_;have hl:=hn.len;refine ⟨rfl,_,rfl,?_⟩;refine eG (I11 what got names w) ?_ ?_ _ _ _ (I11.mk rfl [] names (.un) rfl rfl (by simp) rfl rfl)
 ·rintro vs w' zh;refine zh _ ?_;clear zh;rintro rfl p r s hp hr hg' hs rfl;have:r=[]:=by cases r with|nil=>rfl|cons _ _=>injection hr
  subst this;rw [MM] at hp;subst hp;have hfl:(names.filter (bD got)).length≤names.length:=NJ _ _;have hol:((names.filter (bD got)).map PV.str).length=(names.filter (bD got)).length:=Mp _;have hP:bR got names=match names.filter (bD got) with
   | [n]=>some n
   | _=>none:=by unfold bR;rw [if_neg hg']<;>rfl
  have hW:pd what got names=(if names.filter (bD got)=[] then [98,97,100,32] else [97,109,98,105,103,117,111,117,115,32])++what++[32,34]++got++[34,58,32,109,117,115,116,32,98,101,32]++ca names:=rfl;generalize names.filter (bD got)=bg at hfl hol hP hW;have fin:∀sort:LA,bR got names=none→sort=(if bg=[] then [98,97,100,32] else [97,109,98,105,103,117,111,117,115,32])→wpC (ak (d+1)) (.cons (.raiseE (.bin .Add (.bin .Add (.bin .Add (.bin .Add (.bin .Add (.var 5) (.var 0)) (.str [32,34])) (.var 1)) (.str [34,58,32,109,117,115,116,32,98,101,32])) (.call 10 (.cons (.var 2) .nil)))
   (.tup (.cons (.str [84,67,76]) (.cons (.str [76,79,79,75,85,80]) (.cons (.str [73,78,68,69,88]) (.cons (.var 0) (.cons (.var 1) .nil))))))) .nil) [.val (.str what),.val (.str got),.val (.tup (names.map .str)),.own (bg.map .str),s,.val (.str sort)] w' (RQ (PickQ got names w')) (PickR what got names w'):=by
   intro sort h1 h2;have hsl:sort.length≤10:=by refine h2▸?_;split<;>decide
   refine (v05 (Ew hw hsl) (by simp only [Mf,Mr,MN];exact Eu hw hsl) (by simp only [Mf,Mr,MN];exact Et hw hg hsl) (by simp only [Mf,Mr,MN];exact Es hw hg hsl) ?_);refine av (e10 d names hn w') ⟨by simp only [Mf,Mr,MN];exact Er hw hg hsl (fS hn),(by decide:(5:Nat)≤1000),PickR.mk rfl h1 ?_⟩;rw [hW,←h2];rfl
  rcases bg with _|⟨n,_|⟨b,bg⟩⟩
  ·exact ⟨by decide,aD ⟨by decide,aD ⟨rfl,fin _ hP (by exact (if_pos rfl)▸rfl)⟩⟩⟩
  ·exact ⟨(by decide:(1:Nat)<2 ^ 62),be ⟨(by decide:(1:Nat)<2 ^ 62),0,_,rfl,rfl,PickQ.mk rfl n hP rfl⟩⟩
  ·simp only [Mr] at hol hfl;refine ⟨by exact wQ hl hol hfl,ac (fun h=>absurd h (by refine hol▸?_;exact Ep)) (fun _=>?_)⟩;refine ⟨by exact wQ hl hol hfl,ac (fun _=>?_) (fun h=>absurd (by rw [hol];exact Eo) h)⟩;exact ⟨rfl,fin _ hP (by exact (if_neg (OT _ _))▸rfl)⟩
 ·rintro x l vs w' zh;refine zh _ ?_;clear zh;rintro rfl p r s hp hr hg' hs rfl;cases r with
  | nil=>injection hr
  | cons n r=>
   cases hr;refine ⟨hs,ac (fun h=>?_) (fun h=>?_)⟩
   ·refine (PickQ.mk rfl n ?_ rfl);unfold bR;exact (if_pos (show got∈names from by refine hp▸h▸?_;simp))▸h▸rfl
   ·have hnx:got∉p++[n]:=fun hm=>(Mi.mp hm).elim hg' fun hm=>h (My.mp hm).symm;have hol:((p.filter (bD got)).map PV.str).length≤names.length:=by
     rw [Mp];refine hp▸Mf▸?_;exact En (NJ (bD got) p)
    have hfe:∀b,bD got n=b→((p++[n]).filter (bD got))=p.filter (bD got)++(if b then [n] else []):=fun b hb=>by
     rw [Rg,NU,hb,List.filter_nil]
    have skip:bD got n=false→I11 what got names w' (r.map .str) [.val (.str what),.val (.str got),.val (.tup (names.map .str)),.own ((p.filter (bD got)).map .str),.val (.str n),.un] w':=fun hb=>
     (I11.mk rfl (p++[n]) r (.val (.str n)) (by rw [hp];simp) rfl hnx rfl (by rw [hfe false hb];simp))
    refine bq (fun h0=>⟨_,congrArg some (congrArg PV.bool (iW n got)),cw (fun hb=>?_) (fun hb=>?_)⟩) (fun h0=>aD ?_)
    ·have hb:bD got n=true:=by unfold bD;rw [hb,decide_eq_false h0];rfl
     refine ⟨by exact Em hl hol,I11.mk rfl (p++[n]) r (.val (.str n)) (by rw [hp];simp) rfl hnx rfl ?_⟩;refine (hfe true hb)▸?_;simp
    ·exact skip (by unfold bD;rw [hb,Pl])
    ·exact skip (by unfold bD;refine (decide_eq_true h0)▸?_;rfl)
noncomputable def jV (why:LA) (code:PV):PV:=.tup [.str [114,97,105,115,101,100],.int 1,.str why,code]
noncomputable def cT (what got:LA) (names:List (LA)):PV:=match bR got names with
 | some n=>.tup [.str n,.tup []]
 | none=>.tup [.str [],jV (pd what got names) (lM what got)]
theorem bj:∀(n:Nat) (a:Int),bh a n=(NO n).map fun j:Nat=>PV.int (a+j)
 | 0,_=>rfl
 | n+1,a=>by
  rw [rc,bj n (a+1),OX,Mu,NE];refine congr (congrArg _ (by simp)) (NA fun j _=>congrArg PV.int ?_);simp;exact Ek
theorem nJ (l:LA):dV (l.map fun j:Nat=>PV.int j)=some (l.map fun j:Nat=>(j:Int)):=by
 induction l with
 | nil=>rfl
 | cons a l ih=>rw [Mu,lY,ih];rfl
theorem sY (t:LA):((bh 1 (t.length-1)).filter fun p=>match p with|.int i=>(aH (t.take i.toNat)).isSome|_=>false)=(kj t (t.length-1)).map fun j:Nat=>PV.int j:=by
 rw [bj,Pd,kj,Pd,NE];refine congr (congrArg _ (funext fun j=>congrArg PV.int ?_)) (Rt fun j _=>?_)
 ·simp;exact Ej
 ·show (aH (t.take ((1:Int)+(j:Nat)).toNat)).isSome=(aH (t.take (j+1))).isSome;exact (show ((1:Int)+(j:Nat)).toNat=j+1 by exact qP)▸rfl
theorem FO {p:Prop} [Decidable p] (e:(!decide p)=false):p:=by simpa using e
theorem FT {p:Prop} [Decidable p] (e:(!decide p)=true):¬p:=by simpa using e
theorem le2:(2:Nat)≤1000:=by decide
theorem e69 (d:Nat) (name t:LA) (ht:Tx t) (w:Wd):ak (d+2) 69 [.str name,.str t] w=.ok (ka name t) w:=by
 refine df (gF (fi:=zj) rfl rfl ?_);have len:=ht.len;refine ⟨.str t,rfl,av (e68 d t ht w) ⟨rfl,?_⟩⟩;unfold ka;cases hv:aH t with
 | some v=>
  have fin:∀b,b=fm name v→(.tup [.bool b,.int (-1)]:PV)=aJ (fm name v) (-1):=fun b e=>by refine e▸?_;rfl
  refine be ⟨fun e=>?_,fun e=>(v03 le2 (fin _ ?_) rfl)⟩
  ·have hn:name=nm 17:=FO e;refine ⟨.int (2 ^ 63),rfl,ac (fun h1=>⟨.int (2 ^ 63),rfl,le2,fin _ ?_,rfl⟩) (fun h1=>(v03 le2 (fin _ ?_) rfl))⟩
   ·unfold fm;rw [decide_eq_true hn,Se,Pu];exact (decide_eq_decide.mpr ⟨fun h=>⟨h1,h⟩,fun h=>h.2⟩)
   ·unfold fm;rw [decide_eq_true hn,Se,Pu];exact (decide_eq_false fun h=>h1 h.1).symm
  ·unfold fm;refine (decide_eq_false (FT e))▸?_;rfl
 | none=>
  refine aD ⟨.str t,rfl,by exact bL len,.range 1 t.length,rfl,bh 1 (t.length-1),?_,?_,⟨?_⟩⟩
  ·refine (show ((t.length:Int)-1).toNat=t.length-1 from by exact Ei)▸?_;exact if_pos (v04 (by decide) (Eh len) (by decide) (Eg))
  ·rw [bj,Mp,Oe];exact Ef len
  ·rw [ku (f:=fun p=>match p with|.int i=>(aH (t.take i.toNat)).isSome|_=>false) (g:=id) (fun p hp=>?_) fun p hp _=>rfl]
   ·rw [sY,PW];refine ⟨rfl,(by decide:(1:Nat)≤1000),?_,.int (farV t (t.length-1)),?_,le2,rfl,rfl⟩
    ·show 1+((kj t (t.length-1)).map fun j:Nat=>PV.int j).length≤16777216;rw [Mp];exact Ee len (Mj (NJ _ _) (by simp))
    ·show ((dV (PV.int 0::(kj t (t.length-1)).map fun j:Nat=>PV.int j)).bind fun is=>(pU is).map PV.int)=some (PV.int (farV t (t.length-1)));rw [lY,nJ,Rl,OL,sX];rfl
   ·rw [bj] at hp;refine u12 (Ma.mp hp) ?_;rintro j hj rfl;have hj:=OE.mp hj;refine lK ?_;have e:slc t none (some ((1:Int)+(j:Nat)))=t.take (j+1):=by
     refine (show (1:Int)+(j:Nat)=((j+1:Nat):Int) by exact Ed)▸?_;exact dJ (Ec hj)
    refine ⟨.str t,rfl,.int (1+j),rfl,by exact dw len,?_⟩;rw [e];refine av (e68 d _ (ht.sub (fun c hc=>Pk hc) (by rw [No];exact Eb)) w) ?_;dsimp only;refine (show ((1:Int)+(j:Nat)).toNat=j+1 from by exact qP).symm▸?_;cases aH (t.take (j+1))<;>exact ⟨rfl,rfl⟩
theorem qf:∀j:Fin 20,(nm j.val=[108,105,115,116]↔j.val=10)∧(nm j.val∈([[98,111,111,108,101,97,110],[116,114,117,101],[102,97,108,115,101]]:List (LA))↔(j.val=4∨j.val=15∨j.val=7))∧
 (nm j.val∈([[101,110,116,105,101,114],[105,110,116,101,103,101,114],[119,105,100,101,105,110,116,101,103,101,114]]:List (LA))↔(j.val=9∨j.val=6∨j.val=17)):=by decide +kernel
theorem oA (l:LB):eqv 6 (.lst l) (.lst [])=some (decide (l=[])):=by
 cases l<;>rfl
theorem e74 (d:Nat) (i:Nat) (hi:i<20) (t:LA) (ht:Tx t) (w:Wd):ak (d+4) 74 [.str (nm i),.str t] w=.ok (bc i t) w:=by
 refine df (gF (fi:=zf) rfl rfl ?_);refine u03 (qf ⟨i,hi⟩) ?_;rintro k1 k2 k3;have len:=ht.len;unfold bc;refine ⟨.str (nm i),rfl,ac (fun h=>?_) (fun h=>?_)⟩
 ·rw [if_pos (k1.mp h)];exact ⟨.str t,rfl,av (e73 d t ht w) ⟨rfl,rfl⟩⟩
 rw [if_neg fun e=>h (k1.mpr e)];refine ⟨.str t,rfl,ac (fun h0=>?_) (fun h0=>?_)⟩
 ·rw [if_pos h0];exact (v03 le2 rfl rfl)
 rw [if_neg h0];refine ⟨.str (nm i),rfl,(by decide:(3:Nat)≤1000),ac (fun h1=>?_) (fun h1=>?_)⟩
 ·rw [if_pos (k2.mp h1),iT ht h0];refine ⟨.str (nm i),rfl,.str t,rfl,av (X:=cG (nm i) t) ?_ ⟨rfl,rfl⟩⟩;exact if_pos ht
 rw [if_neg fun e=>h1 (k2.mpr e)];refine ⟨.str (nm i),rfl,(by decide:(3:Nat)≤1000),ac (fun h2=>?_) (fun h2=>?_)⟩
 ·rw [if_pos (k3.mp h2)];exact ⟨.str (nm i),rfl,.str t,rfl,av (e69 (d+1) _ t ht w) ⟨rfl,rfl⟩⟩
 rw [if_neg fun e=>h2 (k3.mpr e)];refine ⟨.str t,rfl,by exact bL len,.range 0 t.length,rfl,bh 0 t.length,?_,?_,⟨?_⟩⟩
 ·refine (show ((t.length:Int)-0).toNat=t.length from by exact Ea)▸?_;exact if_pos (v04 (by decide) (DZ len) (by decide) (DY))
 ·rw [bj,Mp,Oe];exact wP len
 rw [ku (f:=fun p=>match p with|.int k=>!cf i (t.getD k.toNat 0)|_=>false) (g:=id) (fun p hp=>?_) fun p hp _=>rfl]
 ·have e:((bh 0 t.length).filter fun p=>match p with|.int k=>!cf i (t.getD k.toNat 0)|_=>false)=(bZ i t).map fun j:Nat=>PV.int j:=by
   rw [bj,Pd,bZ];refine congr (congrArg _ (funext fun j=>congrArg PV.int (by simp))) (Rt fun j _=>?_);show (!cf i (t.getD ((0:Int)+(j:Nat)).toNat 0))=_;rw [show ((0:Int)+(j:Nat)).toNat=j by exact wO]
  have hwl:(bZ i t).length≤t.length:=Mj (NJ _ _) (by simp);rw [e,PW];refine (v03 rfl (by decide:(0:Nat)≤1000) ?_);show boP (eqv 6 (.lst _) (.lst [])) _;rw [oA];refine (v03 (by decide:(1:Nat)≤1000) ?_ ?_)
  ·rw [Mp];show _+1≤_;exact DX len hwl
  refine ⟨(show (((bZ i t).map fun j:Nat=>PV.int j)++[PV.int (-1)]).length<2 ^ 62 from by rw [Mf,Mp];show _+1<_;exact DW len hwl),0,PV.int (((bZ i t).map (fun j:Nat=>(j:Int))++[-1]).headD 0),dk (Qa 0) (by rw [Mf];show (0:Int)<((_+1:Nat):Int);exact y_8),by cases bZ i t<;>rfl,le2,?_,rfl⟩;rw [←mf];cases bZ i t<;>rfl
 ·rw [bj] at hp;refine u12 (Ma.mp hp) ?_;rintro j hj rfl;refine lK ?_;have hx:seqIndex? ((0:Int)+(j:Nat)) t.length=some j:=by
   rw [show (0:Int)+(j:Nat)=(j:Int) by exact DV];refine (dk (k:=(j:Int)) (n:=t.length) (qW) (DU (OE.mp hj)))▸?_;simp
  refine ⟨.str (nm i),rfl,.str t,rfl,.int (0+j),rfl,by exact bL len,j,hx,av (e67 (d+2) w i hi _) ⟨?_,rfl⟩⟩;show PV.bool (!cf i _)=PV.bool (!cf i (t.getD ((0:Int)+(j:Nat)).toNat 0));rw [show ((0:Int)+(j:Nat)).toNat=j by exact wO]
theorem iY (t:LA) (k:Nat):slc t none (some (k:Int))=t.take k:=by
 by_cases h:k≤t.length
 ·exact dJ h
 ·unfold slc;simp only [NB];refine (lN (Nc.mpr (Nat.le_of_not_le h))).symm▸?_;show (t.drop 0).take (t.length-0)=_;rw [OG,Sr,OW (MC _),OW (DP h)]
theorem rh (got n:LA):decide (n.take got.length=got)=got.isPrefixOf n:=by
 rw [Nb,decide_eq_true_eq,OF,Oc,eq_comm]
theorem hZ (got:LA) (names:List (LA)):dq .In (.str got) (.lst (names.map .str))=some (decide (got∈names)):=by
 show (aV (names.map .str)).map _=_;rw [cA];rfl
theorem cW {o:CmpOp} {a b:PV} {r:Bool} {K:Bool→Prop} (h:dq o a b=some r) (k:K r):ez o a b K:=by unfold ez;refine h▸?_;exact k
theorem oz {n:LA}:∀{names:List (LA)},n∈names→n.length≤(names.map (·.length)).sum
 | m::names,h=>by
  rw [Mu,OM];refine Mx (Me.mp h) (fun hz=>?_) fun h=>?_
  ·obtain rfl:=hz;exact wY
  ·have:=oz h;exact wX this
noncomputable def xp (got:LA):PV→Bool
 | .str n=>bD got n
 | _=>false
theorem jg {d:Nat} {what got ev W:LA} {names bg:List (LA)} {w:Wd} (hW:W=(if bg=[] then [98,97,100,32] else [97,109,98,105,103,117,111,117,115,32])++what++[32,34]++got++[34,58,32,109,117,115,116,32,98,101,32]++ev) (he:ev.length≤5000) (hw:what.length≤100) (hg:got.length≤100) :
 iM (ak d) [some (.str got)] (.cons (.assign 4 (.bin .Add (.bin .Add (.bin .Add (.bin .Add (.bin .Add (.ite (.cmp .Eq (.var 2) (.lst .nil)) (.str [98,97,100,32]) (.str [97,109,98,105,103,117,111,117,115,32])) (.var 0)) (.str [32,34])) (.cvar 0)) (.str [34,58,32,109,117,115,116,32,98,101,32])) (.var 3)))
  (.cons (.ret (.tup (.cons (.str []) (.cons (.tup (.cons (.str [114,97,105,115,101,100]) (.cons (.int 1) (.cons (.var 4) (.cons (.tup (.cons (.str [84,67,76]) (.cons (.str [76,79,79,75,85,80]) (.cons (.str [73,78,68,69,88]) (.cons (.var 0) (.cons (.cvar 0) .nil)))))) .nil))))) .nil)))) .nil))
  [.val (.str what),.val (.lst (names.map .str)),.val (.lst (bg.map .str)),.val (.str ev),.un] w (RQ fun v w'=>v=.tup [.str [],jV W (lM what got)]∧w'=w) fun _ _=>False:=by
 have e0:decide (bg.map PV.str=[])=decide (bg=[]):=by cases bg<;>rfl
 refine ⟨(by decide:(0:Nat)≤1000),cW ((oA _).trans (congrArg some e0)) ?_⟩;refine ac (fun h=>?_) (fun h=>?_)
 ·rw [if_pos h] at hW;refine ⟨?_,?_,.str got,rfl,?_,?_,?_,rfl,.str got,rfl,(by decide:(5:Nat)≤1000),(by decide:(4:Nat)≤1000),le2,by rw [hW];rfl,rfl⟩
  all_goals simp only [Mf,Mr,MN];(first|exact DO hw|exact DN hw|exact DM hw hg|exact DL hw hg|exact DK he hw hg)
 ·rw [if_neg h] at hW;refine ⟨?_,?_,.str got,rfl,?_,?_,?_,rfl,.str got,rfl,(by decide:(5:Nat)≤1000),(by decide:(4:Nat)≤1000),le2,by rw [hW];rfl,rfl⟩
  all_goals simp only [Mf,Mr,MN];(first|exact DJ hw|exact DI hw|exact DH hw hg|exact DG hw hg|exact DF he hw hg)
theorem e75 (d:Nat) (what got:LA) (names:List (LA)) (hn:Nms names) (h2:2≤names.length) (hw:what.length≤100) (hg:got.length≤100) (w:Wd):ak (d+1) 75 [.str what,.str got,.lst (names.map .str)] w=.ok (cT what got names) w:=by
 refine df (gF (fi:=ze) rfl rfl ?_);refine ⟨names.map .str,rfl,by rw [Mp];exact wP hn.len,⟨?_⟩⟩;rw [ku (f:=xp got) (g:=id) (fun p hp=>?_) fun p hp _=>rfl]
 ·rw [PW,Pd,show xp got∘PV.str=bD got from rfl];have hfl:(names.filter (bD got)).length≤names.length:=NJ _ _;have hlen:((names.filter (bD got)).map PV.str).length=(names.filter (bD got)).length:=Mp _;have hW:pd what got names=(if names.filter (bD got)=[] then [98,97,100,32] else [97,109,98,105,103,117,111,117,115,32])++what++[32,34]++got++[34,58,32,109,117,115,116,32,98,101,32]++ca names:=rfl;have hP:got∉names→bR got names=match names.filter (bD got) with
   | [n]=>some n
   | _=>none:=fun h=>by unfold bR;rw [if_neg h]<;>rfl
  refine ⟨rfl,.str got,rfl,cW (hZ got names) ?_⟩;refine cM (fun hm=>?_) (fun hm=>?_)
  ·refine be ?_;refine ⟨.str got,rfl,cW (hZ got names) ?_⟩;refine ac (fun _=>⟨.str got,rfl,(by decide:(0:Nat)≤1000),le2,?_,rfl⟩) fun h=>absurd hm h;unfold cT bR;exact (if_pos hm)▸rfl
  ·have hP:=hP hm;generalize names.filter (bD got)=bg at *;have hll:(names.map PV.str).length=names.length:=Mp _;have he:=hn.each;have hpos:0<names.length:=by exact DE h2
   refine ⟨by rw [hlen];exact DD hfl he,?_⟩;refine ac (fun h1=>?_) (fun h1=>?_)
   ·obtain ⟨n,rfl⟩:∃n,bg=[n]:=List.length_eq_one_iff.mp (by rw [hlen] at h1;exact DC h1);refine ⟨.str got,rfl,cW (hZ got names) ?_⟩;refine ac (fun h=>absurd h hm) fun _=>⟨(by decide:(1:Nat)<2 ^ 62),0,PV.str n,rfl,rfl,(by decide:(0:Nat)≤1000),le2,?_,rfl⟩
    unfold cT;exact hP▸rfl
   ·have hP:bR got names=none:=by
     rw [hP];rcases bg with _|⟨_,_|⟨_,_⟩⟩
     ·rfl
     ·exact absurd rfl h1
     ·rfl
    have h6:=fS hn;refine (show cT what got names=.tup [.str [],jV (pd what got names) (lM what got)] from by unfold cT;exact hP▸rfl)▸?_;refine ⟨by rw [hll];exact nR he,ac (fun h3=>?_) (fun h3=>?_)⟩
    ·replace h3:=hll▸h3;refine ⟨.str (cq [32,111,114,32] names),eg (by decide) (wW he),rfl,?_⟩;have eE:ca names=cq [32,111,114,32] names:=by rw [ca,if_pos (DA h3)]
     rw [eE] at hW h6;exact jg hW (Dz h6) hw hg
    ·rw [hll] at h3;have hs:=eU names (names.length-1);refine ⟨.lst ((names.take (names.length-1)).map .str),?_,_,eg (by decide) (by refine No▸?_;exact wV he hs),?_⟩
     ·show (if _ then some (PV.lst _) else none)=_;rw [if_pos (by refine hll▸?_;exact Dy he)];congr 2;unfold slc;simp only [NB,hll];obtain ⟨k,hk⟩:∃k,names.length=k+1:=⟨names.length-1,by exact Dx hpos⟩
      refine hk▸iy▸?_;show ((names.map PV.str).drop 0).take (k-0)=_;refine OG▸Qu▸?_;rfl
     ·have h5:=dc [44,32] (names.take (names.length-1));simp only [No,Mr,MN] at h5;refine ⟨by simp only [Mr,MN];exact wU he hs h5,by rw [hll];exact nR he,names.length-1,.str (names.getLastD []),?_,?_,?_⟩
      ·rw [hll];unfold seqIndex?;simp only [show ((-1:Int)<0) from by decide,if_true];rw [if_pos (by simp only [MO,decide_eq_true_eq];exact Dw hpos)];congr 1;exact wS
      ·rw [Ng,OI,Qo];rw [Mg (wK hpos)];rfl
      ·rw [(show ca names=cq [44,32] (names.take (names.length-1))++[44,32,111,114,32]++names.getLastD [] from by rw [ca,if_neg (Dv h2 h3)])] at hW h6;refine (v03 (by simp only [Mf] at h6⊢;exact wR h6) rfl ?_);exact jg hW h6 hw hg
 ·refine u12 (Ma.mp hp) ?_;rintro n hm rfl;refine lK ?_;have h3:=oz hm;have h4:=hn.each;refine ⟨.str got,rfl,bq (fun h0=>?_) (fun h0=>?_)⟩
  ·refine ⟨.str n,rfl,.str got,rfl,by exact wJ hg,by exact Du h3 h4,.str got,rfl,?_,rfl⟩;show PV.bool (decide (slc n none (some (got.length:Int))=got))=PV.bool (bD got n);rw [iY,rh,bD,decide_eq_false h0];rfl
  ·exact ⟨congrArg PV.bool (show false=bD got n by unfold bD;rw [decide_eq_true h0];rfl),rfl⟩
noncomputable def rZ:LA:=[32,63,45,115,116,114,105,99,116,63,32,63,45,102,97,105,108,105,110,100,101,120,32,118,97,114,63,32,115,116,114]
noncomputable def bf (name:LA):LA:=[115,116,114,105,110,103,32,105,115,32]++name++rZ
noncomputable def stN:LA:=[45,115,116,114,105,99,116]
noncomputable def faN:LA:=[45,102,97,105,108,105,110,100,101,120]
noncomputable def oN:List (LA):=[stN,faN]
noncomputable def lm (what got:LA) (names:List (LA)):XC:=⟨1,pd what got names,lM what got⟩
theorem gD:fD=[119,114,111,110,103,32,35,32,97,114,103,115,58,32,115,104,111,117,108,100,32,98,101,32,34]∧aO []=⟨1,fD++[34],.tup [.str [84,67,76],.str [87,82,79,78,71,65,82,71,83]]⟩:=⟨by kernel_rfl,by kernel_rfl⟩
theorem iR (u:LA):aO u=⟨1,[119,114,111,110,103,32,35,32,97,114,103,115,58,32,115,104,111,117,108,100,32,98,101,32,34]++u++[34],.tup [.str [84,67,76],.str [87,82,79,78,71,65,82,71,83]]⟩:=by
 have h:=congrArg XC.ec gD.2;unfold aO at h⊢;refine gD.1▸?_;exact congrArg _ h
theorem e76 (d:Nat) (name:LA) (h:name.length≤100) (w:Wd):ak (d+1) 76 [.str name] w=.ok (bE (aO (bf name))) w:=by
 refine ba (fi:=zd) rfl rfl ?_;refine (v07 (by simp only [Mf,Mr,MN];exact Dt h) (by simp only [Mf,Mr,MN];exact Ds h) rfl le2 (by decide:(4:Nat)≤1000) ?_ rfl);rw [iR];unfold bE bf rZ;simp only [Mb,MD,MT]
theorem e61 (d:Nat) (w:Wd):ak (d+1) 61 [] w=.ok (.lst (nms.map .str)) w:=ba (fi:=zt) rfl rfl (v03 (by decide:(20:Nat)≤1000) rfl rfl)
theorem e37 (d:Nat) (w:Wd):ak (d+1) 37 [] w=.ok (.tup (nms.map .str)) w:=ba (fi:=zD) rfl rfl (v03 (by decide:(20:Nat)≤1000) rfl rfl)
theorem sq:Nms nms:=⟨by decide,by decide,by decide +kernel⟩
theorem xj:Nms oN:=⟨by decide,by decide,by decide +kernel⟩
noncomputable def er (u:XC):List (LA)→Bool→Option (LA)→Except XC (Bool×Option (LA))
 | [],s,p=>.ok (s,p)
 | o::r,s,p=>match bR o oN with
  | none=>.error (lm [111,112,116,105,111,110] o oN)
  | some n=>if n=stN then er u r true p else match r with
   | []=>.error u
   | q::r=>er u r s (some q)
theorem eX {o n:LA} {names:List (LA)} (h:bR o names=some n):n∈names:=by
 unfold bR at h;by_cases hm:o∈names
 ·replace h:=(if_pos hm)▸h;injection h with h;subst h;exact hm
 ·replace h:=(if_neg hm)▸h;cases hf:names.filter (bD o) with
  | nil=>replace h:=hf▸h;injection h
  | cons a l=>
   replace h:=hf▸h;cases l with
   | nil=>injection h with h;subst h;exact (Nu.mp (by rw [hf];exact Rf)).1
   | cons _ _=>injection h
noncomputable def bM:PV→Bool×Int
 | .tup [.bool b,.int k]=>(b,k)
 | _=>(false,0)
def ul (n:Nat) (v:PV):Prop:=v=aJ (bM v).1 (bM v).2∧-1≤(bM v).2∧(bM v).2≤n
theorem bC {n:Nat} {b:Bool} {k:Int} (h1:-1≤k) (h2:k≤n):ul n (aJ b k):=(v03 rfl h1 h2)
theorem cL {i:Nat} {t:LA} (ht:Tx t) (h:i<20):ul 41 (bc i t):=by
 have hl:=ht.len;unfold bc
 split
 ·unfold hJ
  split
  ·exact bC (kJ) (kI)
  ·exact bC (Dr) (Dq hl)
 split
 ·exact bC (kJ) (kI)
 rename_i h0
 split
 ·rw [iT ht h0];unfold cG
  split
  ·exact bC (kJ) (kI)
  ·exact bC (Dp) (Do)
 split
 ·unfold ka
  split
  ·exact bC (kJ) (kI)
  ·exact bC (wI) (Dm hl ((oO t (t.length-1)).1))
 ·unfold gL
  split
  ·exact bC (kJ) (kI)
  ·rename_i k hk;exact bC (wI) (Dl hl ((PA.mp hk).1))
theorem dX (u:XC) (o:LA) (r:List (LA)) (s:Bool) (p:Option (LA)):er u (o::r) s p=match bR o oN with
 | none=>.error (lm [111,112,116,105,111,110] o oN)
 | some n=>if n=stN then er u r true p else match r with
  | []=>.error u
  | q::r=>er u r s (some q):=by rw [er.eq_def]<;>rfl
noncomputable def Kj (n t:LA):Bool×Int:=bM (bc (nms.idxOf n) t)
noncomputable def eP (n t:LA) (s:Bool):Bool×Int:=if s=true∧t=[]∧n≠[108,105,115,116] then (false,0) else Kj n t
noncomputable def dF (got:LA) (opts:List (LA)):Except XC (LA×Bool×Option (LA)):=match bR got nms with
 | none=>.error (lm [99,108,97,115,115] got nms)
 | some n=>(er (aO (bf n)) opts false none).map fun q=>(n,q)
noncomputable def xV (b:Bool):LA:=if b then [49] else [48]
noncomputable def dR (got:LA) (opts:List (LA)) (t:LA):PV×LA×Int:=
 if 3<opts.length then (bE (aO (bf [99,108,97,115,115])),[],-1) else match dF got opts with
 | .error x=>(bE x,[],-1)
 | .ok (n,s,p)=>(sR (.str (xV (eP n t s).1)),if (eP n t s).1 then [] else p.getD [],(eP n t s).2)
theorem mz {n:LA} (h:n∈nms):nms.idxOf n<20∧nm (nms.idxOf n)=n:=by
 have h1:=List.idxOf_lt_length_iff.mpr h;refine ⟨h1,?_⟩;unfold nm;refine (MB)▸(Mg h1)▸PF▸?_;exact List.getElem_idxOf h1
noncomputable def Fm (got t n:LA) (opts:List (LA)) (fault:PV) (s:Bool) (p:LA) (a:Int) (o:Slot):LC:=
 [.val (.str got),.val (.lst (opts.map .str)),.val (.str t),.val (.str n),.val fault,.val (.bool s),.val (.str p),.val (.int a),o,.un,.un]
inductive J77 (got:LA) (opts:List (LA)) (fault:PV) (n:LA) (s:Bool) (p:Option (LA)) (a:Int) (m:Nat):Prop
 | inl (h1:fault=.tup []) (h2:n∈nms) (pre r:List (LA)) (h3:opts=pre++r) (h4:a=pre.length) (h5:m=r.length) (h6:dF got opts=(er (aO (bf n)) r s p).map fun q=>(n,q))
 | inr (x:XC) (h1:fault=bE x) (h2:dF got opts=.error x)
noncomputable def M77 (got:LA) (opts:List (LA)):Prop:=∀zG:Prop,(∀(n:LA) (fault:PV) (h1:cT [99,108,97,115,115] got nms=.tup [.str n,fault]) (h2:J77 got opts fault n false none 0 opts.length),zG)→zG
theorem M77.mk {got:LA} {opts:List (LA)} (n:LA) (fault:PV) (h1:cT [99,108,97,115,115] got nms=.tup [.str n,fault]) (h2:J77 got opts fault n false none 0 opts.length):M77 got opts:=fun _ zk=>zk n fault h1 h2
theorem m77 (got:LA) (opts:List (LA)):M77 got opts:=by
 cases hp:bR got nms with
 | none=>exact (M77.mk _ (bE (lm [99,108,97,115,115] got nms)) (by unfold cT;rw [hp];rfl) (.inr _ rfl (by unfold dF;rw [hp])))
 | some n=>exact (M77.mk _ _ (by unfold cT;exact hp▸rfl) (.inl rfl (eX hp) [] opts rfl rfl rfl (by unfold dF;exact hp▸rfl)))
noncomputable def I77 (got t:LA) (opts:List (LA)) (w:Wd) (m:Nat) (vs:LC) (w':Wd):Prop:=∀zG:Prop,(∀(h1:w'=w) (n fault s p a o:_) (h2:o.free=true) (h3:vs=Fm got t n opts fault s (PJ p []) a o) (h4:J77 got opts fault n s p a m),zG)→zG
theorem I77.mk {got t:LA} {opts:List (LA)} {w:Wd} {m:Nat} {vs:LC} {w':Wd} (h1:w'=w) (n fault s p a o:_) (h2:o.free=true) (h3:vs=Fm got t n opts fault s (PJ p []) a o) (h4:J77 got opts fault n s p a m):I77 got t opts w m vs w':=fun _ zk=>zk h1 n fault s p a o h2 h3 h4
theorem oq {n:LA} (h:n∈nms):n.length≤100:=by
 exact of_decide_eq_true (Mo.mp (show nms.all (fun n=>decide (n.length≤100))=true from by decide +kernel) n h)
theorem e77 (d:Nat) (got t:LA) (opts:List (LA)) (h:Cmd got opts t) (w:Wd):ak (d+5) 77 [.str got,.lst (opts.map .str),.str t] w=.ok (.tup [(dR got opts t).1,.str (dR got opts t).2.1,.int (dR got opts t).2.2]) w:=by
 refine ba (fi:=zb) rfl rfl ?_;have hll:(opts.map PV.str).length=opts.length:=Mp _;generalize hD:dR got opts t=D;unfold dR at hD;refine ⟨by rw [hll];exact wJ h.ho,ac (fun h3=>?_) (fun h3=>?_)⟩
 ·rw [hll] at h3;rw [if_pos (Dk h3)] at hD;subst hD;exact av (e76 (d+3) _ (by decide) w) (v03 (by decide:(3:Nat)≤1000) rfl rfl)
 replace h3:=hll▸h3;rw [if_neg (Dj h3)] at hD;refine (m77 got opts) _ ?_;rintro n0 f0 he hI0;refine av (e61 (d+3) w) (av (e75 (d+3) _ _ _ sq (by decide) (by decide) h.hg w) ?_);rw [he];refine (v07 rfl rfl (by decide:(3:Nat)≤1000) rfl rfl rfl ?_);refine aX (I77 got t opts w) (fun m vs w' hI=>?_) opts.length _ _ (Di h3) (I77.mk rfl n0 f0 false none 0 (.un) rfl rfl hI0);refine hI _ ?_;clear hI;rintro rfl n fault s p a o ho rfl hI;rcases hI with ⟨rfl,hn,pre,r,hop,rfl,rfl,hx⟩|⟨x,rfl,hx⟩
 ·refine ⟨(by decide:(0:Nat)≤1000),be ?_⟩;refine ⟨by rw [hll];exact nQ h3,ac (fun h1=>?_) (fun h1=>?_)⟩
  ·rw [hll] at h1;cases r with
   | nil=>exact absurd h1 (by rw [hop];simp)
   | cons o0 r=>
    have hget:(opts.map PV.str)[pre.length]? = some (.str o0):=by rw [hop];simp
    rw [dX] at hx;refine ⟨by rw [hll];exact nQ h3,pre.length,.str o0,az (by refine hll▸?_;exact Dh h1),hget,le2,av (e75 (d+3) _ o0 oN xj (by decide) (by decide) (h.hs _ (show o0∈opts from by rw [hop];simp)) w') ?_⟩;unfold cT;cases hp:bR o0 oN with
    | none=>
     replace hx:=hp▸hx;refine (v03 ho rfl (ac (fun h=>absurd h (by decide)) (fun _=>ac (fun h=>absurd h (by decide)) (fun _=>⟨.int (pre.length+1),rfl,rfl,r.length,by simp,I77.mk rfl n _ s p _ (.val (.str [])) rfl rfl (.inr (lm [111,112,116,105,111,110] o0 oN) rfl hx)⟩))))
    | some n1=>
     replace hx:=hp▸hx;refine (v03 ho rfl (ac (fun h1=>?_) (fun h1=>?_)))
     ·refine ⟨rfl,.int (pre.length+1),rfl,rfl,r.length,by simp,I77.mk rfl n _ true p _ (.val (.str n1)) rfl rfl (.inl rfl hn (pre++[o0]) r (show opts=(pre++[o0])++r from by rw [hop];simp) (by simp) rfl ?_)⟩;rw [hx];exact congrArg _ (if_pos h1)
     ·have hx:dF got opts=(match r with|[]=>Except.error (aO (bf n))|q::r=>er (aO (bf n)) r s (some q)).map fun q=>(n,q):=by
       rw [hx];exact congrArg _ (if_neg h1)
      refine ac (fun h2=>?_) (fun h2=>absurd ((show n1=stN∨n1=faN from by simpa [oN] using (eX hp)).resolve_left h1) h2);refine ⟨.int (pre.length+1),rfl,rfl,by rw [hll];exact nQ h3,ac (fun h3=>?_) (fun h3=>?_)⟩
      ·cases r with
       | nil=>exact absurd h3 (by refine hll▸hop▸?_;simp)
       | cons q r=>
        refine ⟨by rw [hll];exact nQ (by assumption),pre.length+1,.str q,?_,(show (opts.map PV.str)[pre.length+1]? = some (.str q) from by rw [hop];simp [List.getElem?_append_right]),rfl,.int (pre.length+1+1),rfl,rfl,r.length,by simp;exact nU,I77.mk rfl n _ s (some q) _ (.val (.str n1)) rfl rfl (.inl rfl hn (pre++[o0,q]) r (by rw [hop];simp) (by simp;exact wH) rfl hx)⟩;refine hll▸(show ((pre.length:Int)+1)=((pre.length+1:Nat):Int) by exact Dg)▸?_;exact az (show pre.length+1<opts.length from by refine hop▸?_;simp)
      ·cases r with
       | cons q r=>exact absurd (show (pre.length:Int)+1<((opts.map PV.str).length:Nat) by refine hll▸hop▸?_;simp;exact Df) h3
       | nil=>
        have hnl:n.length≤100:=oq hn;refine av (e76 (d+3) n hnl w') ⟨rfl,.int (pre.length+1+1),rfl,rfl,0,by simp,I77.mk rfl n _ s p _ (.val (.str n1)) rfl rfl (.inr _ rfl hx)⟩
  ·rw [hll] at h1;have hr:r=[]:=by
    cases r with
    | nil=>rfl
    | cons o0 r=>exact absurd (show ((pre.length:Nat):Int)<opts.length by rw [hop];simp;exact gq) h1
   subst hr;rw [hx] at hD;refine ⟨(by decide:(0:Nat)≤1000),aD ?_⟩;obtain ⟨hi,hni⟩:=mz hn;have h74:=e74 d (nms.idxOf n) hi t h.tx w';rw [hni] at h74;refine av h74 ?_;rw [((cL (i:=nms.idxOf n) h.tx hi).1)];have hfin:eP n t s=if s=true∧t=[]∧n≠[108,105,115,116] then (false,0) else bM (bc (nms.idxOf n) t):=rfl
   show t2P _ _;rw [show (Except.map (fun q=>(n,q)) (er (aO (bf n)) [] s p))=Except.ok (n,s,p) from rfl] at hD;dsimp only at hD;subst hD;generalize bM (bc (nms.idxOf n) t)=bk at hfin⊢;obtain ⟨b,k⟩:=bk;generalize eP n t s=fk at hfin⊢;refine (v03 rfl rfl (cw (fun hs=>ac (fun ht=>bq (fun hl=>?_) (fun hl=>?_)) (fun ht=>aD ?_)) (fun hs=>aD ?_)))
   ·rw [if_pos ⟨hs,ht,hl⟩] at hfin;subst hfin;exact (v04 (by decide:(2:Nat)≤1000) rfl rfl (aD ⟨(by decide:(2:Nat)≤1000),aD (v03 (by decide:(3:Nat)≤1000) rfl rfl)⟩))
   ·rw [if_neg (fun h=>h.2.2 hl)] at hfin;subst hfin;cases b
    ·exact aD ⟨(by decide:(2:Nat)≤1000),aD (v03 (by decide:(3:Nat)≤1000) rfl rfl)⟩
    ·exact be ⟨(by decide:(2:Nat)≤1000),be (v03 (by decide:(3:Nat)≤1000) rfl rfl)⟩
   ·rw [if_neg (fun h=>ht h.2.1)] at hfin;subst hfin;cases b
    ·exact aD ⟨(by decide:(2:Nat)≤1000),aD (v03 (by decide:(3:Nat)≤1000) rfl rfl)⟩
    ·exact be ⟨(by decide:(2:Nat)≤1000),be (v03 (by decide:(3:Nat)≤1000) rfl rfl)⟩
   ·rw [if_neg (fun h=>by rw [hs] at h;exact absurd h.1 (by decide))] at hfin;subst hfin;cases b
    ·exact aD ⟨(by decide:(2:Nat)≤1000),aD (v03 (by decide:(3:Nat)≤1000) rfl rfl)⟩
    ·exact be ⟨(by decide:(2:Nat)≤1000),be (v03 (by decide:(3:Nat)≤1000) rfl rfl)⟩
 ·refine ⟨(by decide:(0:Nat)≤1000),aD ?_⟩;refine aD ?_;refine ⟨(by decide:(0:Nat)≤1000),be ?_⟩;rw [hx] at hD;subst hD;exact (v03 (by decide:(3:Nat)≤1000) rfl rfl)
theorem e23 (d:Nat) (b:Bool) (w:Wd):ak (d+1) 23 [.bool b] w=.ok (.str (xV b)) w:=by
 refine ba (fi:=zP) rfl rfl ?_;cases b
 ·exact aD ⟨rfl,rfl⟩
 ·exact be ⟨rfl,rfl⟩
noncomputable def strI (k:Int):LA:=(Ny (toString k)).cps.toList
noncomputable def wds (got:LA) (opts:List (LA)) (t:LA):LB:=.str [115,116,114,105,110,103]::.str [105,115]::.str got::(opts.map .str++[.str t])
theorem jL (got t:LA) (opts:List (LA)):(wds got opts t).length=4+opts.length:=by
 unfold wds;simp only [Mr,Mf,Mp,MN];exact De
noncomputable def tg (w:Wd) (a:Addr) (bk:aS) (f:Bool×Int) (p:Option (LA)):Wd:=if f.1 then w else match p with
 | some q=>{ w with host:=some (a,dt bk q (strI f.2)) }
 | none=>w
noncomputable def FH (p:Option (LA)):PV:=match p with
 | some q=>.str q
 | none=>.none
structure SiQ (a:Addr) (bk:aS) (got t:LA) (opts:List (LA)) (w:Wd) (v:PV) (w':Wd):Prop where
 h:opts.length≤3∧∃n s p,dF got opts=.ok (n,s,p)∧v=.str (xV (eP n t s).1)∧w'=tg w a bk (eP n t s) p
structure SiR (got:LA) (opts:List (LA)) (w:Wd) (x:XC) (w':Wd):Prop where
 e:w'=w
 h:3<opts.length∧x=aO (bf [99,108,97,115,115])∨opts.length≤3∧dF got opts=.error x
noncomputable def Fn (h:PV) (l:LB) (n:LA) (s:Bool) (p:Option (LA)) (last a:Int):LC:=
 [.val h,.val (.lst l),.val (.str rZ),.val (.str n),.val (.bool s),.val (FH p),.val (.int last),.val (.int a),.un,.un]
noncomputable def I59 (h:PV) (got t:LA) (opts:List (LA)) (n:LA) (w:Wd) (m:Nat) (vs:LC) (w':Wd):Prop:=∀zG:Prop,(∀(h1:w'=w) (s p pre r a:_) (h2:opts=pre++r) (h3:m=r.length) (h4:a=((3+pre.length:Nat):Int)) (h5:vs=Fn h (wds got opts t) n s p ((wds got opts t).length-1) a) (h6:dF got opts=(er (aO (bf n)) r s p).map fun q=>(n,q)),zG)→zG
theorem I59.mk {h:PV} {got t:LA} {opts:List (LA)} {n:LA} {w:Wd} {m:Nat} {vs:LC} {w':Wd} (h1:w'=w) (s p pre r a:_) (h2:opts=pre++r) (h3:m=r.length) (h4:a=((3+pre.length:Nat):Int)) (h5:vs=Fn h (wds got opts t) n s p ((wds got opts t).length-1) a) (h6:dF got opts=(er (aO (bf n)) r s p).map fun q=>(n,q)):I59 h got t opts n w m vs w':=fun _ zk=>zk h1 s p pre r a h2 h3 h4 h5 h6
theorem nX {got t o:LA} {opts pre r:List (LA)} (h:opts=pre++o::r):(wds got opts t)[3+pre.length]? = some (.str o):=by
 rw [show 3+pre.length=pre.length+1+1+1 by exact wG];unfold wds;simp [h]
theorem kN {got t:LA} {opts:List (LA)}:(wds got opts t)[3+opts.length]? = some (.str t):=by
 rw [show 3+opts.length=opts.length+1+1+1 by exact wG];unfold wds;simp
theorem eR {got t:LA} {opts:List (LA)} (ho:opts.length≤100) {k:Nat} {i:Int} {v:PV} (hi:i=(k:Nat)) (hk:k<4+opts.length) (hg:(wds got opts t)[k]? = some v) {K:PV→Prop} (hK:K v):sN (.lst (wds got opts t)) (.int i) K:=by
 subst hi;exact ⟨by rw [jL];exact qO ho,k,v,by rw [jL];exact az hk,hg,hK⟩
theorem xS (d:Nat) (got t:LA) (opts:List (LA)) (n:LA) (s:Bool) (p:Option (LA)) (a:Addr) (bk:aS) (w:Wd) (hw:w.host=some (a,bk)) (hb:bk.length≤1000) (b:Bool) (k last at0:Int) (e:eP n t s=(b,k)) (h1:-1≤k) (h2:k≤41) (h3:opts.length≤3) (hx:dF got opts=.ok (n,s,p)) :
 wpC (ak (d+7)) (.cons (.ite (.bop .And (.cmp .IsNot (.var 5) .none) (.not (.var 8))) (.cons (.hwrite 0 (.var 5) (.bi .str (.cons (.var 9) .nil))) .nil) .nil) (.cons (.ret (.call 23 (.cons (.var 8) .nil))) .nil))
  [.val (.ref a),.val (.lst (wds got opts t)),.val (.str rZ),.val (.str n),.val (.bool s),.val (FH p),.val (.int last),.val (.int at0),.val (.bool b),.val (.int k)] w (RQ (SiQ a bk got t opts w)) (SiR got opts w):=by
 cases p with
 | none=>exact aD (aD (av (e23 (d+6) b w) ⟨h3,n,s,none,hx,by rw [e],by unfold tg;cases (eP n t s).1<;>rfl⟩))
 | some q=>
  refine be ?_;cases b with
  | true=>exact aD (av (e23 (d+6) true w) ⟨h3,n,s,some q,hx,by rw [e],by unfold tg;refine e▸?_;rfl⟩)
  | false=>
   refine be ?_;show fB (.ref a) w _;unfold fB;refine hw▸?_;refine ⟨rfl,_,if_pos (MZ (RM _) (wE h1 h2)),?_⟩;show fC _ w _;unfold fC;refine hw▸?_;refine (v03 rfl hb ?_);exact av (e23 (d+6) false _) ⟨h3,n,s,some q,hx,by rw [e],by unfold tg;refine e▸?_;rfl⟩
theorem e59 (d:Nat) (got t:LA) (opts:List (LA)) (h:Cmd got opts t) (a:Addr) (bk:aS) (w:Wd) (hw:w.host=some (a,bk)) (hb:bk.length≤1000):sat (ak (d+8) 59 [.ref a,.lst (wds got opts t)] w) (SiQ a bk got t opts w) (SiR got opts w):=by
 refine aY (fi:=vQ) rfl rfl ?_;have hol:=h.ho;have hll:=jL got t opts;refine (v03 rfl (by rw [hll];exact qO hol) (cM (fun h1=>absurd h1 (by refine hll▸?_;exact Dd)) (fun _=>⟨by refine hll▸?_;exact qO hol,ac (fun h2=>?_) (fun h2=>?_)⟩)))
 ·rw [hll] at h2;exact ⟨(by decide:(15:Nat)+31≤16777216),(by decide:(46:Nat)≤1000),rfl,.inl ⟨by exact Dc h2,rfl⟩⟩
 rw [hll] at h2;have h3:opts.length≤3:=by exact Db h2
 refine eR hol (k:=2) rfl (Da) rfl (av (e37 (d+6) w) ?_);refine ⟨ai (e11 (d+5) [99,108,97,115,115] got nms sq (by decide) h.hg w) (fun v w' hv=>?_) (fun x w' hx=>?_)⟩
 rotate_left
 ·obtain ⟨rfl,hp,rfl⟩:=hx;refine ⟨rfl,.inr ⟨h3,?_⟩⟩;unfold dF;refine hp.symm▸?_;rfl
 obtain ⟨rfl,n,hp,rfl⟩:=hv;have hn:=eX hp;have hnl:n.length≤100:=oq hn;refine (v07 rfl rfl rfl (by rw [hll];exact CZ h3) rfl rfl ?_);refine aX (I59 (.ref a) got t opts n w') (fun m vs w'' hI=>?_) opts.length _ _ (CY h3) (I59.mk rfl false none [] opts 3 rfl rfl rfl rfl ?_)
 ·refine hI _ ?_;clear hI;rintro rfl s p pre r at0 hop rfl rfl rfl hx;refine ac (fun h1=>?_) (fun h1=>?_)
  ·have hl2:opts.length=pre.length+r.length:=by rw [hop];simp
   cases r with
   | nil=>exact absurd h1 (by rw [hll,hl2];simp;exact CW)
   | cons o r=>
    rw [dX] at hx;have hl3:opts.length=pre.length+r.length+1:=by refine hl2.symm▸Mr.symm▸?_;exact CV
    refine eR hol (k:=3+pre.length) rfl (CU hl3) (nX hop) ⟨le2,?_⟩;refine ⟨ai (e11 (d+5) [111,112,116,105,111,110] o oN xj (by decide) (h.hs _ (show o∈opts from by rw [hop];simp)) w'') (fun v w3 hv=>?_) (fun x w3 hv=>?_)⟩
    rotate_left
    ·obtain ⟨rfl,hp',rfl⟩:=hv;rw [hp'] at hx;exact ⟨rfl,.inr ⟨h3,hx⟩⟩
    obtain ⟨rfl,n1,hp',rfl⟩:=hv;replace hx:=hp'▸hx;refine ac (fun h4=>?_) (fun h4=>?_)
    ·refine ⟨rfl,.int ((3+pre.length:Nat)+1),rfl,rfl,r.length,by simp,I59.mk rfl true p (pre++[o]) r _ (by rw [hop];simp) rfl ?_ rfl ?_⟩
     ·simp;exact wD
     ·rw [hx];exact congrArg _ (if_pos h4)
    ·have hx:dF got opts=(match r with|[]=>Except.error (aO (bf n))|q::r=>er (aO (bf n)) r s (some q)).map fun q=>(n,q):=by
      rw [hx];exact congrArg _ (if_neg h4)
     refine ac (fun h5=>?_) (fun h5=>?_)
     ·rw [hll] at h5;cases r with
      | cons q r=>exact absurd h5 (by rw [hl3];simp;exact CT)
      | nil=>exact ⟨by show 10+n.length≤16777216;exact CS hnl,by show (_++n).length+31≤16777216;simp;exact CR hnl,by show (_++_:LA).length≤1000;simp [rZ];exact CQ hnl,rfl,.inr ⟨h3,by rw [hx];rfl⟩⟩
     ·rw [hll] at h5;cases r with
      | nil=>exact absurd (show ((3+pre.length:Nat):Int)+1≥((4+opts.length:Nat):Int)-1 by rw [hl3];simp;exact CP) h5
      | cons q r=>
       refine ⟨.int ((3+pre.length:Nat)+1),rfl,rfl,?_⟩;refine eR hol (k:=3+(pre++[o]).length) (by simp;exact wD) (by rw [hl3];simp;exact CO) (nX (show opts=(pre++[o])++q::r from by rw [hop];simp)) ?_;refine ⟨rfl,.int ((3+pre.length:Nat)+1+1),rfl,rfl,r.length,by simp;exact nU,I59.mk rfl s (some q) (pre++[o,q]) r _ (by rw [hop];simp) rfl ?_ rfl hx⟩;simp;exact CN
  ·have hl2:opts.length=pre.length+r.length:=by rw [hop];simp
   rw [hll] at h1;cases r with
   | cons o r=>exact absurd (show ((3+pre.length:Nat):Int)<((4+opts.length:Nat):Int)-1 by refine hl2▸Mr▸?_;exact CM) h1
   | nil=>
    have hlast:((wds got opts t).length:Int)-1=(3+opts.length:Nat):=by rw [hll];exact CL
    refine eR hol hlast (wC) kN ?_;obtain ⟨hi,hni⟩:=mz hn;have h47:=e47 d (nms.idxOf n) hi t h.tx w'';rw [hni] at h47;have hsm:=cL (i:=nms.idxOf n) h.tx hi;refine av h47 ?_;rw [hsm.1];have hfin:eP n t s=if s=true∧t=[]∧n≠[108,105,115,116] then (false,0) else bM (bc (nms.idxOf n) t):=rfl
    have hk:=hsm.2;generalize bM (bc (nms.idxOf n) t)=fb at hfin hk⊢;obtain ⟨b,k⟩:=fb;have hend:=fun b k e h1 h2=>xS d got t opts n s p a bk w'' hw hb b k ((wds got opts t).length-1) ((3+pre.length:Nat):Int) e h1 h2 h3 hx;refine (v03 rfl rfl (cw (fun hs=>?_) (fun hs=>aD ?_)))
    ·refine eR hol hlast (wC) kN (ac (fun ht=>bq (fun hl=>?_) (fun hl=>?_)) (fun ht=>aD ?_))
     ·rw [if_pos ⟨hs,ht,hl⟩] at hfin;exact (v03 rfl rfl (hend false 0 hfin (by decide) (by decide)))
     ·rw [if_neg (fun h=>h.2.2 hl)] at hfin;exact hend b k hfin hk.1 hk.2
     ·rw [if_neg (fun h=>ht h.2.1)] at hfin;exact hend b k hfin hk.1 hk.2
    ·rw [if_neg (fun h=>by rw [hs] at h;exact absurd h.1 (by decide))] at hfin;exact hend b k hfin hk.1 hk.2
 ·unfold dF;exact hp▸rfl
noncomputable def kn (got:LA) (opts:List (LA)) (t:LA):Option (LA×Int):=if 3<opts.length then none else match dF got opts with
 | .error _=>none
 | .ok (n,s,p)=>if (eP n t s).1 then none else p.map fun q=>(q,(eP n t s).2)
noncomputable def jC (bk:aS) (o:Option (LA×Int)):aS:=match o with
 | some (q,k)=>dt bk q (strI k)
 | none=>bk
theorem e78 (d:Nat) (got t:LA) (opts:List (LA)) (h:Cmd got opts t) (a:Addr) (bk:aS) (w:Wd) (hw:w.host=some (a,bk)) (hb:bk.length≤1000):ak (d+9) 78 [.ref a,.lst (wds got opts t)] w=.ok (dR got opts t).1 { w with host:=some (a,jC bk (kn got opts t)) }:=by
 have hs:=e59 d got t opts h a bk w hw hb;have ew:({ w with host:=some (a,bk) }:Wd)=w:=by exact hw▸rfl
 show mZ (ak (d+8) 59 [.ref a,.lst (wds got opts t)] w)=_;cases hc:ak (d+8) 59 [.ref a,.lst (wds got opts t)] w with
 | fail=>replace hs:=hc▸hs;exact hs.elim
 | ok v w'=>
  rw [hc] at hs;obtain ⟨h3,n,s,p,hx,rfl,rfl⟩:=hs.h;unfold dR kn;rw [if_neg (nP h3),if_neg (nP h3),hx];unfold tg;dsimp only;cases (eP n t s).1 with
  | true=>show Rs.ok _ w=Rs.ok _ { w with host:=some (a,bk) };rw [ew]
  | false=>cases p with
   | none=>show Rs.ok _ w=Rs.ok _ { w with host:=some (a,bk) };rw [ew]
   | some q=>rfl
 | exc x w'=>
  rw [hc] at hs;obtain ⟨rfl,hs⟩:=hs;unfold dR kn;rcases hs with ⟨h3,rfl⟩|⟨h3,hx⟩
  ·rw [if_pos h3,if_pos h3];show Rs.ok _ w'=Rs.ok _ { w' with host:=some (a,bk) };rw [ew]
  ·refine (if_neg (nP h3))▸(if_neg (nP h3))▸hx▸?_;show Rs.ok _ w'=Rs.ok _ { w' with host:=some (a,bk) };exact ew▸rfl
theorem zX {got t:LA} {opts:List (LA)}:(dR got opts t).2.1=((kn got opts t).map (·.1)).getD []∧∀q k,kn got opts t=some (q,k)→(dR got opts t).2.2=k:=by
 unfold dR kn;by_cases h3:3<opts.length
 ·rw [if_pos h3,if_pos h3];exact ⟨rfl,fun _ _ h=>by injection h⟩
 ·refine (if_neg h3)▸(if_neg h3)▸?_;cases dF got opts with
  | error x=>exact ⟨rfl,fun _ _ h=>by injection h⟩
  | ok q=>
   obtain ⟨n,s,p⟩:=q;dsimp only;cases (eP n t s).1 with
   | true=>exact ⟨rfl,fun _ _ h=>by injection h⟩
   | false=>cases p with
    | none=>exact ⟨rfl,fun _ _ h=>by injection h⟩
    | some q=>exact ⟨rfl,fun _ _ h=>by cases h;rfl⟩
theorem dQ {f:PV→PV→Option Bool}:∀{l:LB},(∀v∈l,f v v=some true)→eqs f l l=some true
 | [],_=>rfl
 | v::l,h=>by show (f v v).bind (fun x=>(eqs f l l).map (x&&·))=_;rw [h v (.head _),dQ fun u hu=>h u (.tail _ hu)];rfl
theorem gB (n:Nat) (s:LA):eqv n (.str s) (.str s)=some true:=by cases n<;>exact congrArg some (decide_eq_true rfl)
theorem oQ (n:Nat) (s:Int):eqv n (.int s) (.int s)=some true:=by cases n<;>exact congrArg some (decide_eq_true rfl)
theorem tb (n:Nat) (l:List (LA)):eqv (n+1) (.tup (l.map .str)) (.tup (l.map .str))=some true:=
 dQ fun v hv=>by obtain ⟨s,_,rfl⟩:=Ma.mp hv;exact gB n s
theorem lL {x:XC} (h:∃l:List (LA),x.ec=.tup (l.map .str)):eqv 6 (bE x) (bE x)=some true:=by
 obtain ⟨l,e⟩:=h;unfold bE;refine e▸?_;refine dQ fun v hv=>?_;simp only [Me,ML,or_false] at hv;rcases hv with rfl|rfl|rfl|rfl
 ·exact gB 5 _
 ·exact oQ 5 _
 ·exact gB 5 _
 ·exact tb 4 l
theorem jT {u:XC} (hu:∃l:List (LA),u.ec=.tup (l.map .str)):∀{r:List (LA)} {s:Bool} {p:Option (LA)} {x:XC},er u r s p=.error x→∃l:List (LA),x.ec=.tup (l.map .str)
 | [],s,p,x,h=>by injection h
 | [o],s,p,x,h=>by
  rw [dX] at h
  split at h
  ·injection h with h;subst h;exact ⟨[_,_,_,_,_],rfl⟩
  ·split at h
   ·injection h
   ·injection h with h;subst h;exact hu
 | o::q::r,s,p,x,h=>by
  rw [dX] at h
  split at h
  ·injection h with h;subst h;exact ⟨[_,_,_,_,_],rfl⟩
  ·split at h
   ·exact jT hu h
   ·exact jT hu h
theorem qj (got t:LA) (opts:List (LA)):eqv 6 (dR got opts t).1 (dR got opts t).1=some true:=by
 have hw:∀n,∃l:List (LA),(aO (bf n)).ec=.tup (l.map .str):=fun n=>⟨[_,_],by rw [iR];rfl⟩
 unfold dR
 split
 ·exact lL (hw _)
 split
 ·rename_i x hx;refine lL ?_;unfold dF at hx
  split at hx
  ·injection hx with hx;subst hx;exact ⟨[_,_,_,_,_],rfl⟩
  ·rename_i n _;cases hs:er (aO (bf n)) opts false none with
   | ok v=>rw [hs] at hx;injection hx
   | error y=>replace hx:=hs▸hx;injection hx with hx;subst hx;exact jT (hw n) hs
 ·exact dQ fun v hv=>by
   simp only [Me,ML,or_false] at hv;rcases hv with rfl|rfl<;>exact gB 5 _
noncomputable def mT:IC:=
 (.cons (.ite (.var 3) (.cons (.hwrite 4 (.str [118]) (.str [111,108,100])) .nil) .nil)
 (.cons (.tup3 5 6 7 (.call 77 (.cons (.var 0) (.cons (.var 1) (.cons (.var 2) .nil)))))
 (.cons (.ite (.cmp .NotEq (.call 78 (.cons (.var 4) (.cons (.bin .Add (.bin .Add (.lst (.cons (.str [115,116,114,105,110,103]) (.cons (.str [105,115]) (.cons (.var 0) .nil)))) (.var 1)) (.lst (.cons (.var 2) .nil))) .nil))) (.var 5)) (.cons (.ret (.bool false)) .nil) .nil)
 (.cons (.ite (.bop .And (.cmp .NotEq (.var 6) (.str [])) (.cmp .NotEq (.hget true 4 (.var 6)) (.bi .str (.cons (.var 7) .nil)))) (.cons (.ret (.bool false)) .nil) .nil)
 (.cons (.ite (.bop .And (.cmp .NotEq (.var 6) (.str [118])) (.bop .And (.var 3) (.cmp .NotEq (.hget true 4 (.str [118])) (.str [111,108,100])))) (.cons (.ret (.bool false)) .nil) .nil)
 (.cons (.ret (.bop .And (.cmp .Eq (.hget false 4 (.str [118])) (.bop .Or (.var 3) (.cmp .Eq (.var 6) (.str [118])))) (.cmp .Eq (.hget false 4 (.str [45,115,116,114,105,99,116])) (.cmp .Eq (.var 6) (.str [45,115,116,114,105,99,116])))))
 .nil))))))
noncomputable def vy:Nm:=⟨["got","options","text","stands","host","due","place","index"],[],[],[],none,["_law_due","_law_heard","str"]⟩
theorem mH {k v:LA} (j:LA) {b:aS}:(b.map (fun p=>if p.1==k then (k,v) else p)).lookup j=if j=k∧b.any (·.1==k) then some v else b.lookup j:=by
 induction b with
 | nil=>simp
 | cons p b ih=>
  obtain ⟨a,u⟩:=p;refine Mu▸Np▸?_;by_cases e:a=k
  ·subst e;by_cases ej:j=a
   ·subst ej;simp
   ·have h1:(j==a)=false:=by simpa using ej
    simp only [beq_self_eq_true,if_true,Mn,h1];rw [ih,if_neg (fun h=>ej h.1),if_neg (fun h=>ej h.1)]
  ·simp only [(show (a==k)=false from by simpa using e),Rj,if_false,Pu,Mn];by_cases ej:j=a
   ·subst ej;simp [e]
   ·have h2:(j==a)=false:=by simpa using ej
    simp only [h2];exact ih
theorem fX (b:aS) (k v j:LA):(dt b k v).lookup j=if j=k then some v else b.lookup j:=by
 unfold dt;cases h:b.any (·.1==k) with
 | true=>
  rw [if_pos rfl,mH,h];simp
 | false=>
  rw [if_neg (by decide)];by_cases e:j=k
  ·subst e;refine (if_pos rfl)▸?_
   induction b with
   | nil=>simp
   | cons p b ih=>
    obtain ⟨a,u⟩:=p;rw [Np,MS] at h;rw [MD,Mn,(show (j==a)=false from by have:=h.1;simp only [beq_eq_false_iff_ne] at this⊢;exact fun e=>this e.symm)];exact ih h.2
  ·refine (if_neg e)▸?_
   induction b with
   | nil=>simp [(show (j==k)=false from by simpa using e)]
   | cons p b ih=>
    obtain ⟨a,u⟩:=p;rw [Np,MS] at h;rw [MD,Mn,Mn,ih h.2]
theorem tO (b:aS) (k v:LA):(dt b k v).length≤b.length+1:=by
 unfold dt
 split
 ·rw [Mp];exact CJ
 ·rw [Mf];exact MC _
noncomputable def bk0 (b:Bool):aS:=if b then [([118],[111,108,100])] else []
theorem nf {got t:LA} {opts:List (LA)} (ht:Tx t) {q:LA} {k:Int} (h:kn got opts t=some (q,k)):-1≤k∧k≤41:=by
 unfold kn at h
 split at h
 ·injection h
 split at h
 ·injection h
 ·rename_i n s p hx;have hn:n∈nms:=by
   unfold dF at hx
   split at hx
   ·injection hx
   ·rename_i n' hp;cases hs:er (aO (bf n')) opts false none with
    | ok v=>replace hx:=hs▸hx;cases hx;exact eX hp
    | error y=>replace hx:=hs▸hx;injection hx
  split at h
  ·injection h
  ·refine u12 (Ms.mp h) ?_;rintro q' _ e;cases e;unfold eP
   split
   ·exact ⟨by decide,by decide⟩
   ·exact (cL (i:=nms.idxOf n) ht (mz hn).1).2
theorem xv (b:Bool) (o:Option (LA×Int)) (z:LA) (hz:z≠[]):((jC (bk0 b) o).lookup z).isSome=((b&&decide (z=[118]))||decide ((o.map (·.1)).getD []=z)):=by
 have h0:((bk0 b).lookup z).isSome=(b&&decide (z=[118])):=by
  cases b with
  | false=>rfl
  | true=>
   unfold bk0;rw [if_pos rfl,Mn];by_cases e:z=[118]
   ·subst e;rfl
   ·refine (show (z==[118])=false from by simpa using e)▸?_;simp [e]
 cases o with
 | none=>
  show ((bk0 b).lookup z).isSome=(_||decide (([]:LA)=z));rw [h0,decide_eq_false (p:=([]:LA)=z) (fun e=>hz e.symm),Sd]
 | some p=>
  obtain ⟨q,k⟩:=p;show ((dt (bk0 b) q (strI k)).lookup z).isSome=(_||decide (q=z));rw [fX];by_cases e:z=q
  ·subst e;rw [if_pos rfl,decide_eq_true rfl,PH];rfl
  ·rw [if_neg e,h0,decide_eq_false (p:=q=z) (fun e'=>e e'.symm),Sd]
theorem fZ (b:Bool) (o:Option (LA×Int)):(jC (bk0 b) o).length≤1000:=by
 have h0:(bk0 b).length≤1:=by cases b<;>decide
 cases o with
 | none=>show (bk0 b).length≤1000;exact CI h0
 | some p=>have:=tO (bk0 b) p.1 (strI p.2);show (dt _ _ _).length≤1000;exact CH h0 this
structure Q79 (x:Addr) (w:Wd) (v:PV) (w':Wd):Prop where
 v:v=.bool true
 pen:w'.pen=w.pen
 host:∃bk,w'.host=some (x,bk)
theorem fO {x:Addr} {w:Wd} {bk:aS} (hw:w.host=some (x,bk)) {K:Addr→Prop} (k:K x):fB (.ref x) w K:=by unfold fB;refine hw▸?_;exact ⟨rfl,k⟩
theorem fY {x:Addr} {w:Wd} {bk:aS} (hw:w.host=some (x,bk)) (hl:bk.length≤1000) {K:aS→Prop} (k:K bk):fC x w K:=by unfold fC;refine hw▸?_;exact (v03 rfl hl k)
noncomputable def dn:Nat→IC→IC
 | n+1,.cons _ r=>dn n r
 | _,r=>r
noncomputable def xO (got t:LA) (opts:List (LA)) (b:Bool) (x:Addr) (due:PV) (pl:LA) (idx:Int):LC:=
 [.val (.str got),.val (.lst (opts.map .str)),.val (.str t),.val (.bool b),.val (.ref x),.val due,.val (.str pl),.val (.int idx)]
theorem mX {n:LA} {Q:EK} {w:Wd} {bk:aS} {r:Bool} (h:(bk.lookup n).isSome=r) (q:Q (.bool r) w):sG false n Q w bk:=by subst h;exact q
theorem rE {y:Bool} {K:Bool→Prop} (k:K true):ez .Eq (.bool y) (.bool y) K:=by cases y<;>exact k
section
variable {call:ax} {got t:LA} {opts:List (LA)} {b:Bool} {x:Addr} {due:PV} {o:Option (LA×Int)} {idx:Int} {w:Wd} {Q:LL} {R:LJ}
theorem r5 (hw:w.host=some (x,jC (bk0 b) o)) (q:Q (.bool true) w):wpC call (dn 5 mT) (xO got t opts b x due ((o.map (·.1)).getD []) idx) w (RQ Q) R:=by
 have hlen:=fZ b o;have h1:=xv b o [118] (by decide);have h2:=xv b o [45,115,116,114,105,99,116] (by decide);rw [decide_eq_false (p:=([45,115,116,114,105,99,116]:LA)=[118]) (by decide),Pl,Pu] at h2;rw [decide_eq_true (p:=([118]:LA)=[118]) rfl,Qx] at h1;have key:∀(z:LA) (K:Bool→Prop),K true→ez .Eq (.str ((o.map (·.1)).getD [])) (.str z) (fun r=>ez .Eq (.bool (decide ((o.map (·.1)).getD []=z))) (.bool r) K):=fun z K k=>cW rfl (rE k);refine fO hw (fY hw hlen (mX h1 ?_));cases b with
 | true=>
  refine lQ (rE (be (fO hw (fY hw hlen (mX h2 ?_)))));exact key [45,115,116,114,105,99,116] (fun r=>Q (.bool r) w) q
 | false=>
  refine gm (key [118] (fun r=>(r=true→_)∧(r=false→_)) (be (fO hw (fY hw hlen (mX h2 ?_)))));exact key [45,115,116,114,105,99,116] (fun r=>Q (.bool r) w) q
theorem r4 (hw:w.host=some (x,jC (bk0 b) o)) (q:Q (.bool true) w):wpC call (dn 4 mT) (xO got t opts b x due ((o.map (·.1)).getD []) idx) w (RQ Q) R:=by
 have hlen:=fZ b o;refine bq (fun hne=>?_) (fun _=>aD (r5 hw q));cases b with
 | false=>exact aD (aD (r5 hw q))
 | true=>
  refine be (fO hw (fY hw hlen ⟨[111,108,100],?_,bq (fun h=>absurd rfl h) (fun _=>r5 hw q)⟩));cases o with
  | none=>rfl
  | some p=>exact (fX _ _ _ _).trans (if_neg fun e=>hne e.symm)
theorem r3 (hw:w.host=some (x,jC (bk0 b) o)) (hk:∀q k,o=some (q,k)→idx=k∧-1≤k∧k≤41) (q:Q (.bool true) w):wpC call (dn 3 mT) (xO got t opts b x due ((o.map (·.1)).getD []) idx) w (RQ Q) R:=by
 have hlen:=fZ b o;refine bq (fun hne=>?_) (fun _=>aD (r4 hw q));cases o with
 | none=>exact absurd rfl hne
 | some p=>
  obtain ⟨n,k⟩:=p;refine u03 (hk n k rfl) ?_;rintro rfl h1 h2;refine fO hw (fY hw hlen ⟨strI idx,?_,_,if_pos (MZ (RM _) (wE h1 h2)),bq (fun h=>absurd rfl h) (fun _=>r4 hw q)⟩);exact (fX _ _ _ _).trans (if_pos rfl)
end
theorem rj (d:Nat) (got t:LA) (opts:List (LA)) (h:Cmd got opts t) (b:Bool) (x:Addr) (w w0:Wd) (hw:w.host=some (x,bk0 b)) (hp:w.pen=w0.pen) :
 wpC (ak (d+9)) (dn 1 mT) [.val (.str got),.val (.lst (opts.map .str)),.val (.str t),.val (.bool b),.val (.ref x),.un,.un,.un] w (RQ (Q79 x w0)) fun _ _=>False:=by
 have hol:=h.ho;refine av (e77 (d+4) got t opts h w) (v04 rfl rfl rfl ?_);refine (v05 (by decide:(3:Nat)≤1000) (by rw [Mp];show 3+opts.length≤16777216;exact CG hol) (by decide:(1:Nat)≤1000) (by rw [Mf,Mp];show 3+opts.length+1≤16777216;exact CF hol) ?_);refine av (e78 d got t opts h x (bk0 b) w hw (by cases b<;>decide)) ?_;refine cW (r:=false) (by show (eqv 6 _ _).map _=_;rw [qj];rfl) (aD ?_);obtain ⟨h1,h2⟩:=zX (got:=got) (t:=t) (opts:=opts);have hsm:=fun q k=>nf (got:=got) (opts:=opts) h.tx (q:=q) (k:=k);generalize (dR got opts t).2.2=idx at h2⊢;generalize (dR got opts t).2.1=pl at h1⊢;generalize (dR got opts t).1=due;generalize kn got opts t=o at h1 h2 hsm⊢;subst h1;refine r3 rfl (fun q k e=>⟨h2 q k e,hsm q k e⟩) ⟨rfl,hp,_,rfl⟩
theorem w79 (d:Nat) (got t:LA) (opts:List (LA)) (h:Cmd got opts t) (b:Bool) (x:Addr) (w:Wd) (hw:w.host=some (x,[])) :
 wpC (ak (d+9)) mT [.val (.str got),.val (.lst (opts.map .str)),.val (.str t),.val (.bool b),.val (.ref x),.un,.un,.un] w (RQ (Q79 x w)) fun _ _=>False:=by
 cases b with
 | false=>exact aD (rj d got t opts h false x w w hw rfl)
 | true=>
  refine be (fO hw (fY hw (by decide) ?_));exact rj d got t opts h true x { w with host:=some (x,bk0 true) } w rfl rfl
structure PenW (a:Addr) (w:Wd):Prop where
 host:w.host=none
 pen:∃i,w.pen=some (a,i)
structure DrawQ (a:Addr) (m:Int) (v:PV) (w:Wd):Prop where
 h:∃k:Int,v=.int k∧0≤k∧k<m
 w:PenW a w
theorem e65 (d:Nat) (a:Addr) (m:Int) (w:Wd) (hw:PenW a w) (h0:0<m) (h1:m<1000) {Q:LL} {R:LJ} (k:∀(k:Int) (w':Wd),0≤k→k<m→PenW a w'→Q (.int k) w'):CallP (ak (d+1) 65 [.ref a,.int m] w) Q R:=by
 obtain ⟨hh,i,hp⟩:=hw;refine ⟨?_⟩;show sat (match w.pen with
  | some (b,i)=>if a=b∧0<m∧m<1000 then Rs.ok (.int (i.fmod m)) { w with pen:=some (b,i.fdiv m) } else .fail
  | none=>.fail) Q R
 refine hp▸?_;dsimp only;rw [if_pos (v03 rfl h0 h1)];exact k _ _ (NG _ h0) (Od _ h0) ⟨hh,_,rfl⟩
noncomputable def cX:List (LA):=[[97,55,32,95,71,122,70,9,0,127,36,45,123,125,34,92,43,10,233,304,20013,178,160,8203,173,8212,8255,8364,57344,983040],[48,49,55,57,120,88,111,98,66,100,97,70,43,45,32,10],[116,114,117,101,102,97,108,115,121,111,110,84,79,48,49,32],[97,98,123,125,34,92,32,10,49]]
theorem rB:∀s∈cX,s.length≤30∧0<s.length∧∀c∈s,c∈Sg:=by
 have h:cX.all (fun s=>decide (s.length≤30)&&decide (0<s.length)&&s.all fun c=>Sg.contains c)=true:=by decide +kernel
 intro s hs;have h:=Mo.mp h s hs;simp only [MO,decide_eq_true_eq,Mo,Mq] at h;exact (v03 h.1.1 h.1.2 h.2)
theorem rC:∀s∈cX,∀c∈s,0≤NQ (txt s) (txt [c]):=by
 have h:cX.all (fun s=>s.all fun c=>decide (0≤NQ (txt s) (txt [c])))=true:=by decide +kernel
 intro s hs c hc;exact of_decide_eq_true (Mo.mp (Mo.mp h s hs) c hc)
structure TxQ (a:Addr) (v:PV) (w:Wd):Prop where
 h:∃t,v=.str t∧Tx t
 w:PenW a w
noncomputable def I66 (t s:LA) (m:Int) (a:Addr) (size:Int) (l:LB) (vs:LC) (w:Wd):Prop:=∀zG:Prop,(∀(h1:PenW a w) (made s6 s7 j n:_) (h2:l=bh j n) (h3:0≤j) (h4:made.length+n≤40) (h5:(∀c∈made,c∈Sg)) (h6:s6.free=true) (h7:s7.free=true) (h8:vs=[.val (.str t),.val (.int m),.val (.str s),.val (.ref a),.val (.int size),.val (.str made),s6,s7]),zG)→zG
theorem I66.mk {t s:LA} {m:Int} {a:Addr} {size:Int} {l:LB} {vs:LC} {w:Wd} (h1:PenW a w) (made s6 s7 j n:_) (h2:l=bh j n) (h3:0≤j) (h4:made.length+n≤40) (h5:(∀c∈made,c∈Sg)) (h6:s6.free=true) (h7:s7.free=true) (h8:vs=[.val (.str t),.val (.int m),.val (.str s),.val (.ref a),.val (.int size),.val (.str made),s6,s7]):I66 t s m a size l vs w:=fun _ zk=>zk h1 made s6 s7 j n h2 h3 h4 h5 h6 h7 h8
theorem e66 (d:Nat) (t:LA) (ht:t.length≤40) (m:Int) (hm0:0≤m) (hm:m≤40) (s:LA) (hs:s∈cX) (a:Addr) (w:Wd) (hw:PenW a w):sat (ak (d+2) 66 [.str t,.int m,.str s,.ref a] w) (TxQ a) fun _ _=>False:=by
 refine aY (fi:=zo) rfl rfl ?_;refine u03 (rB s hs) ?_;rintro hs1 hs2 hs3;refine ⟨by exact bL ht,e65 d a (m+1) w hw (CE hm0) (CD hm) fun k w1 k0 k1 hw1=>?_⟩;refine (v04 (CC k0 k1) rfl rfl ?_);have z0:=NG ((t.length:Int)+k) (show 0<m+1 by exact wB k0 k1);have z1:=Od ((t.length:Int)+k) (show 0<m+1 by exact wB k0 k1);generalize ((t.length:Int)+k).fmod (m+1)=size at z0 z1⊢;refine ⟨.range 0 size,rfl,bh 0 (size-0).toNat,if_pos (v04 (by decide) (CB hm z1) (by decide) (CA z0)),?_⟩;refine eG (I66 t s m a size) (fun vs w hI=>?_) (fun v l vs w hI=>?_) _ _ _ (I66.mk hw1 [] (.un) (.un) 0 _ rfl (Cz) (by show 0+(size-0).toNat≤40;exact Cy hm z1) (fun _ h=>nomatch h) rfl rfl rfl)
 ·refine hI _ ?_;clear hI;rintro hw made s6 s7 j n hl hj hn hmade _ _ rfl;exact ⟨⟨made,rfl,hmade,by exact Cw hn⟩,hw⟩
 ·refine hI _ ?_;clear hI;rintro hw made s6 s7 j n hl hj hn hmade h6 h7 rfl;cases n with
  | zero=>injection hl
  | succ n=>
   cases hl;refine ⟨h6,?_⟩;have hend:∀x:Int,0≤x→wpC (ak (d+1)) (.cons (.assign 5 (.bin .Add (.var 5) (.sub (.var 2) (.bin .Mod (.bin .Add (.var 7) (.call 65 (.cons (.var 3) (.cons (.bi .len (.cons (.var 2) .nil)) .nil)))) (.bi .len (.cons (.var 2) .nil)))))) .nil)
    [.val (.str t),.val (.int m),.val (.str s),.val (.ref a),.val (.int size),.val (.str made),.val (.int j),.val (.int x)] w
    (lA (I66 t s m a size (bh (j+1) n)) (xZ (iM (ak (d+1)) [] (.cons (.ret (.var 5)) .nil)) (RQ (TxQ a)) fun _ _=>False)) fun _ _=>False:=fun x hx=>by
    refine ⟨by exact qN hs1,e65 d a _ w hw (qM hs2) (Cv hs1) fun k w2 k0 k1 hw2=>?_⟩;have y0:=NG (x+k) (show (0:Int)<s.length by exact wA k0 k1);have y1:=Od (x+k) (show (0:Int)<s.length by exact wA k0 k1);refine ⟨by exact qN hs1,by exact Ct y0 y1,by exact qN hs1,((x+k).fmod s.length).toNat,?_,?_,rfl,I66.mk hw2 (made++[s.getD ((x+k).fmod s.length).toNat 0]) _ _ (j+1) n rfl (Cs hj) (by simp;exact Cr hn) ?_ rfl rfl rfl⟩
    ·have:=az (k:=((x+k).fmod s.length).toNat) (n:=s.length) (pb y0 y1)
     rwa [Nk y0] at this
    ·show made.length+1≤16777216;exact Cq hn
    ·intro c hc;refine Mx (Mi.mp hc) (fun hc=>?_) fun hc=>?_
     ·exact hmade c hc
     ·rw [My] at hc;subst hc;have hlt:((x+k).fmod s.length).toNat<s.length:=by exact pb y0 y1
      rw [MB,Mg hlt];exact hs3 _ (NR hlt)
   refine ⟨by exact bL ht,ac (fun h1=>?_) (fun _=>aD ⟨h7,hend 0 (by decide)⟩)⟩;have hjn:j.toNat<t.length:=by exact pb hj h1
   have hsj:seqIndex? j t.length=some j.toNat:=by
    have:=az (k:=j.toNat) (n:=t.length) hjn
    rwa [Nk hj] at this
   have hin:dq .In (.str [t.getD j.toNat 0]) (.str s)=some (s.contains (t.getD j.toNat 0)):=congrArg some (jY (t.getD j.toNat 0) s);refine ⟨by exact bL ht,j.toNat,hsj,cW (K:=fun r=>(r=true→_)∧(r=false→_)) hin ?_⟩;cases hc:s.contains (t.getD j.toNat 0) with
   | false=>exact aD ⟨h7,hend 0 (by decide)⟩
   | true=>
    have hf:=rC s hs _ (Mq.mp hc);exact be ⟨by exact bL ht,j.toNat,hsj,_,if_pos hf,h7,hend _ hf⟩
theorem e62 (d:Nat) (i:Nat) (hi:i<4) (w:Wd):ak (d+1) 62 [.int i] w=.ok (.str (cX.getD i [])) w:=by
 have hL:(cX.map PV.str)[i]? = some (.str (cX.getD i [])):=by
  rw [Ng,Mg hi,MB,Mg hi];rfl
 exact ba (fi:=zr) rfl rfl ⟨(by decide:(4:Nat)≤1000),by decide,i,_,az hi,hL,rfl,rfl⟩
noncomputable def opL:List (List (LA)):=[[],[stN],[faN,[118]],[stN,faN,[118]],[faN,[118],stN],[[45,115],stN],[[45,102,97,105,108]],[[45,120]],[[45]],[[],stN],[[45,102],[118],faN],[faN,stN],[[45,115,116,114,105,99,116,101,114],[45,102],[118]],[stN,stN,stN,stN]]
theorem e64 (d:Nat) (i:Nat) (hi:i<14) (w:Wd):ak (d+1) 64 [.int i] w=.ok (.lst ((opL.getD i []).map .str)) w:=by
 have hL:(opL.map fun l=>PV.lst (l.map .str))[i]? = some (.lst ((opL.getD i []).map .str)):=by
  rw [Ng,Mg hi,MB,Mg hi];rfl
 refine ba (fi:=zp) rfl rfl ?_
 repeat refine And.intro (by decide) ?_
 exact ⟨by decide,i,_,az hi,hL,rfl,rfl⟩
theorem yG (i:Nat):(opL.getD i []).length≤100∧∀o∈opL.getD i [],o.length≤100:=by
 have h:∀l∈opL,l.length≤100∧∀o∈l,o.length≤100:=by
  have:opL.all (fun l=>decide (l.length≤100)&&l.all fun o=>decide (o.length≤100))=true:=by decide +kernel
  intro l hl;have h:=Mo.mp this l hl;simp only [MO,decide_eq_true_eq,Mo] at h;exact h
 by_cases hi:i<opL.length
 ·rw [MB,Mg hi];exact h _ (NR hi)
 ·rw [MB,QK (Cp hi)];exact ⟨by decide,fun _ h=>nomatch h⟩
structure TrueQ (a:Addr) (v:PV) (w:Wd):Prop where
 h:v=.bool true
 w:PenW a w
def jf:LJ:=fun _ _=>False
theorem fc {K:PV→Prop} (i:Nat) (hi:i<20) (k:K (.str (nm i))):sN (.lst (nms.map .str)) (.int i) K:=by
 refine ⟨by decide,i,.str (nm i),az hi,?_,k⟩;have hi:i<nms.length:=hi;rw [Ng,Mg hi];unfold nm;refine (MB).symm▸(Mg hi).symm▸?_;rfl
noncomputable def jM (row:PV) (k:Int) (a:Addr) (x3:Slot) (t:LA) (x5 x6 x7:Slot) (got:LA) (opts:List (LA)) (b:Bool) (x11 x12 x13 x14 x15:Slot):LC:=
 [.val row,.val (.int k),.val (.ref a),x3,.val (.str t),x5,x6,x7,.val (.str got),.val (.lst (opts.map .str)),.val (.bool b),x11,x12,x13,x14,x15]
section
variable {d:Nat} {row:PV} {k:Int} {a:Addr} {x3 x5 x6 x7 x11 x12 x13 x14 x15:Slot} {t got:LA} {opts:List (LA)} {b:Bool} {w:Wd}
theorem g13 (hd:3≤d) (h:Cmd got opts t) (hw:PenW a w):wpC (ak (d+7)) (dn 12 nb.body) (jM row k a x3 t x5 x6 x7 got opts b x11 x12 x13 x14 x15) w (RQ (TrueQ a)) jf:=by
 refine ⟨?_⟩;show sat (if 9≤d+6 then fu [.str got,.lst (opts.map .str),.str t,.bool b] w else .fail) _ _;rw [if_pos (Co hd)];show sat ((aV (opts.map .str)).elim .fail fun opts=>tF got opts t w) _ _;rw [cA];show sat (tF got opts t w) _ _;rw [tD h hw.host];exact ⟨rfl,hw⟩
theorem pR {K:Bool→Prop} (x:Bool) (k:K false):ez .NotEq (.bool x) (.bool x) K:=by cases x<;>exact k
theorem nk {i:Nat} (ht:Tx t) (hi:i<20):dq .NotEq (bc i t) (bc i t)=some false:=by
 rw [(cL ht hi).1];unfold aJ;have h:eqv 6 (.tup [.bool (bM (bc i t)).1,.int (bM (bc i t)).2]) (.tup [.bool (bM (bc i t)).1,.int (bM (bc i t)).2])=some true:=by
  refine dQ fun v hv=>?_;simp only [Me,ML,or_false] at hv;rcases hv with rfl|rfl
  ·cases (bM (bc i t)).1<;>rfl
  ·exact oQ 5 _
 exact congrArg (QP (!·)) h
theorem jo {v:PV} {l:LB} {as:LA} (h:v::l=as.map fun i:Nat=>PV.int i):∃i r,as=i::r∧v=.int (i:Nat)∧l=r.map fun i:Nat=>PV.int i:=by
 cases as with
 | nil=>injection h
 | cons i r=>cases h;exact (v23 i r rfl rfl rfl)
theorem Fz:∀i∈sc,i<20:=by decide
noncomputable def J12 (row:PV) (k:Int) (a:Addr) (x3:Slot) (t:LA) (x5 x6 x7:Slot) (got:LA) (opts:List (LA)) (b:Bool) (x11:Slot) (p:Int) (c:Nat) (l:LB) (vs:LC) (w:Wd):Prop:=∀zG:Prop,(∀(h1:PenW a w) (is:LA) (x12:Slot) (h2:l=is.map (fun i:Nat=>PV.int i)) (h3:∀i∈is,i∈sc) (h4:x12.free=true) (h5:vs=jM row k a x3 t x5 x6 x7 got opts b x11 x12 (.val (.str (cX.getD 0 []))) (.val (.int p)) (.val (.str [c]))),zG)→zG
theorem J12.mk {row:PV} {k:Int} {a:Addr} {x3:Slot} {t:LA} {x5 x6 x7:Slot} {got:LA} {opts:List (LA)} {b:Bool} {x11:Slot} {p:Int} {c:Nat} {l:LB} {vs:LC} {w:Wd} (h1:PenW a w) (is:LA) (x12:Slot) (h2:l=is.map (fun i:Nat=>PV.int i)) (h3:∀i∈is,i∈sc) (h4:x12.free=true) (h5:vs=jM row k a x3 t x5 x6 x7 got opts b x11 x12 (.val (.str (cX.getD 0 []))) (.val (.int p)) (.val (.str [c]))):J12 row k a x3 t x5 x6 x7 got opts b x11 p c l vs w:=fun _ zk=>zk h1 is x12 h2 h3 h4 h5
noncomputable def J14 (row:PV) (k:Int) (a:Addr) (x3:Slot) (t:LA) (x5 x6 x7:Slot) (got:LA) (opts:List (LA)) (b:Bool) (x11:Slot) (l:LB) (vs:LC) (w:Wd):Prop:=∀zG:Prop,(∀(h1:PenW a w) (ps:LR) (x12 x14 x15:Slot) (h2:l=ps.map PV.int) (h3:x12.free=true) (h4:x14.free=true) (h5:x15.free=true) (h6:vs=jM row k a x3 t x5 x6 x7 got opts b x11 x12 (.val (.str (cX.getD 0 []))) x14 x15),zG)→zG
theorem J14.mk {row:PV} {k:Int} {a:Addr} {x3:Slot} {t:LA} {x5 x6 x7:Slot} {got:LA} {opts:List (LA)} {b:Bool} {x11:Slot} {l:LB} {vs:LC} {w:Wd} (h1:PenW a w) (ps:LR) (x12 x14 x15:Slot) (h2:l=ps.map PV.int) (h3:x12.free=true) (h4:x14.free=true) (h5:x15.free=true) (h6:vs=jM row k a x3 t x5 x6 x7 got opts b x11 x12 (.val (.str (cX.getD 0 []))) x14 x15):J14 row k a x3 t x5 x6 x7 got opts b x11 l vs w:=fun _ zk=>zk h1 ps x12 x14 x15 h2 h3 h4 h5 h6
theorem g11 (hd:3≤d) (h:Cmd got opts t) (hw:PenW a w) (h12:x12.free=true) (h14:x14.free=true) (h15:x15.free=true):wpC (ak (d+7)) (dn 11 nb.body) (jM row k a x3 t x5 x6 x7 got opts b x11 x12 (.val (.str (cX.getD 0 []))) x14 x15) w (RQ (TrueQ a)) jf:=by
 refine ⟨(by decide:(3:Nat)≤1000),_,rfl,?_⟩;refine eG (J14 row k a x3 t x5 x6 x7 got opts b x11) (fun vs w hI=>?_) (fun v l vs w hI=>?_) _ _ _ (J14.mk hw [k,k+14,k+28] _ _ _ rfl h12 h14 h15 rfl)
 ·refine hI _ ?_;clear hI;rintro hw ps x12 x14 x15 _ _ _ _ rfl;exact g13 hd h hw
 refine hI _ ?_;clear hI;rintro hw ps x12 x14 x15 hl h12 h14 h15 rfl;cases ps with
 | nil=>injection hl
 | cons p ps=>
  cases hl;refine ⟨h14,e65 (d+6) a 30 w hw (by decide) (by decide) fun q w2 q0 q1 hw2=>?_⟩;have y0:=NG (p+q) (show (0:Int)<30 by decide);have y1:=Od (p+q) (show (0:Int)<30 by decide);generalize hy:(p+q).fmod 30=y at y0 y1;have hsj:seqIndex? y 30=some y.toNat:=by
   have:=az (k:=y.toNat) (n:=30) (wz y1)
   rwa [Nk y0] at this
  refine ⟨by decide,by decide,y.toNat,by rw [hy];exact hsj,h15,?_⟩;have hc:(cX.getD 0 []).getD y.toNat 0∈Sg:=by
   have hlt:y.toNat<(cX.getD 0 []).length:=by show _<30;exact wz y1
   rw [MB,Mg hlt];exact (rB (cX.getD 0 []) (by decide)).2.2 _ (NR hlt)
  generalize (cX.getD 0 []).getD y.toNat 0=c at hc;refine ⟨(by decide:(13:Nat)≤1000),_,rfl,?_⟩;refine eG (J12 row k a x3 t x5 x6 x7 got opts b x11 p c) (fun vs w hI=>?_) (fun v l vs w hI=>?_) _ _ _ (J12.mk hw2 sc x12 rfl (fun _ h=>h) h12 rfl)
  ·refine hI _ ?_;clear hI;rintro hw is x12 _ _ h12 rfl;exact (J14.mk hw ps _ _ _ rfl h12 rfl rfl rfl)
  ·refine hI _ ?_;clear hI;rintro hw is x12 hl his h12 rfl;refine u23 (jo hl) ?_;rintro i r rfl rfl rfl;have hi:=Fz i (his i (.head _));refine ⟨h12,av (e61 (d+6) w) (fc i hi (av (e43 (d+3) w i (Mq.mpr (his i (.head _))) c hc) (av (e61 (d+6) w) (fc i hi (av (e67 (d+6) w i hi c) (pR _ (aD ?_)))))))⟩;exact (J12.mk hw r _ rfl (fun j hj=>his j (.tail _ hj)) rfl rfl)
noncomputable def J9 (row:PV) (k:Int) (a:Addr) (x3:Slot) (t:LA) (x5 x6 x7:Slot) (got:LA) (opts:List (LA)) (b:Bool) (x11:Slot) (l:LB) (vs:LC) (w:Wd):Prop:=∀zG:Prop,(∀(h1:PenW a w) (is:LA) (x12:Slot) (h2:l=is.map (fun i:Nat=>PV.int i)) (h3:∀i∈is,i<20) (h4:x12.free=true) (h5:vs=jM row k a x3 t x5 x6 x7 got opts b x11 x12 .un .un .un),zG)→zG
theorem J9.mk {row:PV} {k:Int} {a:Addr} {x3:Slot} {t:LA} {x5 x6 x7:Slot} {got:LA} {opts:List (LA)} {b:Bool} {x11:Slot} {l:LB} {vs:LC} {w:Wd} (h1:PenW a w) (is:LA) (x12:Slot) (h2:l=is.map (fun i:Nat=>PV.int i)) (h3:∀i∈is,i<20) (h4:x12.free=true) (h5:vs=jM row k a x3 t x5 x6 x7 got opts b x11 x12 .un .un .un):J9 row k a x3 t x5 x6 x7 got opts b x11 l vs w:=fun _ zk=>zk h1 is x12 h2 h3 h4 h5
theorem g9 (hd:3≤d) (h:Cmd got opts t) (hw:PenW a w) {as:LA} (has:∀i∈as,i<20):wpC (ak (d+7)) (dn 9 nb.body) (jM row k a x3 t x5 x6 x7 got opts b (.val (.lst (as.map fun i:Nat=>PV.int i))) .un .un .un .un) w (RQ (TrueQ a)) jf:=by
 refine ⟨_,rfl,?_⟩;refine eG (J9 row k a x3 t x5 x6 x7 got opts b (.val (.lst (as.map fun i:Nat=>PV.int i)))) (fun vs w hI=>?_) (fun v l vs w hI=>?_) _ _ _ (J9.mk hw as _ rfl has rfl rfl)
 ·refine hI _ ?_;clear hI;rintro hw is x12 _ _ h12 rfl;exact av (e62 (d+6) 0 (by decide) w) ⟨rfl,g11 hd h hw h12 rfl rfl⟩
 ·refine hI _ ?_;clear hI;rintro hw is x12 hl his h12 rfl;refine u23 (jo hl) ?_;rintro i r rfl rfl rfl;have hi:=his i (.head _);refine ⟨h12,av (e61 (d+6) w) (fc i hi (av (e47 d i hi t h.tx w) (av (e61 (d+6) w) (fc i hi (av (e74 (d+3) i hi t h.tx w) ?_)))))⟩;refine cW (K:=fun r=>(r=true→_)∧(r=false→_)) (nk h.tx hi) (aD ?_);exact (J9.mk hw r _ rfl (fun j hj=>his j (.tail _ hj)) rfl rfl)
end
theorem de (x:Int) {m:Nat} (h:0<m):∃k:Nat,x.fmod m=k∧k<m:=by
 have h0:=NG x (show (0:Int)<m by exact qM h);exact (v12 ((x.fmod m).toNat) (Cn h0) (pb h0 (Od x (show (0:Int)<m by exact qM h))))
noncomputable def Kl (s n:Nat):LA:=([[(n+3) % 20,(n+7) % 20,(n+13) % 20],[9,17,5],[4,7,15],[10,13]].getD s [])++[n]
noncomputable def lx:LA:=[6,20,5,9]
theorem Km {a1 a2 a3 s:Nat} (h1:a1<20) (h2:a2<20) (h3:a3<20) (hs:s<4) :
 ∃as:LA,as.length≤3∧(∀i∈as,i<20)∧([.lst [.int a1,.int a2,.int a3],.lst [.int 9,.int 17,.int 5],.lst [.int 4,.int 7,.int 15],.lst [.int 10,.int 13]]:LB)[s]? = some (.lst (as.map fun i:Nat=>PV.int i)):=by
 rcases s with _|_|_|_|s
 ·exact (v13 [a1,a2,a3] (MC 3) (fun i hi=>by simp only [Me,ML,or_false] at hi;exact Cl h1 h2 h3 hi) rfl)
 ·exact (v13 [9,17,5] (by decide) (by decide) rfl)
 ·exact (v13 [4,7,15] (by decide) (by decide) rfl)
 ·exact (v13 [10,13] (by decide) (by decide) rfl)
 ·exact absurd hs (Qn.mpr (RU 4 s))
theorem e80 (d:Nat) (hd:3≤d) (s:Nat) (hs:s<4) (txt0:LA) (ht:txt0.length≤40) (n2 n3 n4 n5 k:Int) (a:Addr) (w:Wd) (hw:PenW a w) :
 sat (ak (d+8) 80 [.tup [.int s,.str txt0,.int n2,.int n3,.int n4,.int n5],.int k,.ref a] w) (TrueQ a) jf:=by
 refine aY (fi:=nb) rfl rfl ?_;have hrow:∀(j:Nat) (v:PV),([.int s,.str txt0,.int n2,.int n3,.int n4,.int n5]:LB)[j]? = some v→∀{K:PV→Prop},K v→seqIP [.int s,.str txt0,.int n2,.int n3,.int n4,.int n5] (j:Nat) K:=fun j v hv K hK=>by
  exact ⟨by show 6<_;decide,j,v,az ((ME.mp hv).1),hv,hK⟩
 refine hrow 0 _ rfl ⟨rfl,?_⟩;have hm:(lx.map fun i:Nat=>PV.int i)[s]? = some (.int (lx.getD s 0:Nat)):=by
  have hs:s<lx.length:=hs;rw [Ng,Mg hs,MB,Mg hs];rfl
 have hm40:lx.getD s 0≤40:=by
  have:∀s:Fin 4,lx.getD s.val 0≤40:=by decide
  exact this ⟨s,hs⟩
 have hsg:cX.getD s []∈cX:=by
  have hs:s<cX.length:=hs;refine (MB)▸(Mg hs)▸?_;exact NR hs
 refine hrow 1 _ rfl ⟨(by decide:(4:Nat)≤1000),by decide,s,_,az hs,hm,av (e62 (d+6) s hs w) ⟨ai (e66 (d+5) txt0 ht _ (qW) (Cm hm40) _ hsg a w hw) (fun v w hv=>?_) fun _ _ h=>h.elim⟩⟩;obtain ⟨⟨t,rfl,ht⟩,hw⟩:=hv;refine ⟨rfl,hrow 2 _ rfl (e65 (d+6) a 20 w hw (by decide) (by decide) fun q w q0 q1 hw=>(v03 (by decide) rfl ?_))⟩;refine u12 (de (n2+q) (m:=20) (by decide)) ?_;rintro n hn n20;replace hn:(n2+q).fmod 20=n:=hn;refine hn▸?_;refine av (e61 (d+6) w) (fc n n20 ⟨rfl,hrow 3 _ rfl (e65 (d+6) a 8 w hw (by decide) (by decide) fun q w q0 q1 hw=>(v03 (by decide) rfl ?_))⟩);refine u12 (de (n3+q) (m:=8) (by decide)) ?_;rintro m hm m8;replace hm:(n3+q).fmod 8=m:=hm;refine hm▸?_;have nml:(nm n).length≤20:=by
  have:∀n:Fin 20,(nm n.val).length≤20:=by decide +kernel
  exact this ⟨n,n20⟩
 have key:∀got:LA,got.length≤30→wpC (ak (d+7)) (dn 6 nb.body) [.val (.tup [.int s,.str txt0,.int n2,.int n3,.int n4,.int n5]),.val (.int k),.val (.ref a),.val (.int s),.val (.str t),.val (.int n),.val (.str (nm n)),.val (.int m),.val (.str got),.un,.un,.un,.un,.un,.un,.un] w (RQ (TrueQ a)) jf:=fun got hg=>by
  refine hrow 4 _ rfl (e65 (d+6) a 14 w hw (by decide) (by decide) fun q w q0 q1 hw=>⟨by decide,?_⟩);refine u12 (de (n4+q) (m:=14) (by decide)) ?_;rintro j hj j14;replace hj:(n4+q).fmod 14=j:=hj;refine hj▸?_;refine av (e64 (d+6) j j14 w) ⟨rfl,?_⟩;refine hrow 5 _ rfl (e65 (d+6) a 2 w hw (by decide) (by decide) fun q w q0 q1 hw=>⟨by decide,rfl,by decide,by decide,by decide,(by decide:(3:Nat)≤1000),(by decide:(3:Nat)≤1000),(by decide:(3:Nat)≤1000),(by decide:(2:Nat)≤1000),(by decide:(4:Nat)≤1000),?_⟩);refine u12 (de ((n:Int)+3) (m:=20) (by decide)) ?_;rintro a1 e1 h1;refine u12 (de ((n:Int)+7) (m:=20) (by decide)) ?_;rintro a2 e2 h2;refine u12 (de ((n:Int)+13) (m:=20) (by decide)) ?_;rintro a3 e3 h3;replace e1:((n:Int)+3).fmod 20=a1:=e1;replace e2:((n:Int)+7).fmod 20=a2:=e2;replace e3:((n:Int)+13).fmod 20=a3:=e3;refine e1▸e2▸e3▸?_;have hok:=yG j;refine u13 (Km h1 h2 h3 hs) ?_;rintro as hal ha20 hL;have has:∀i∈as++[n],i<20:=fun i hi=>by
   refine Mx (Mi.mp hi) (fun hi=>?_) fun hi=>?_
   ·exact ha20 i hi
   ·rw [My] at hi;exact Ck n20 hi
  have h9:=fun b w hw=>g9 (d:=d) (row:=.tup [.int s,.str txt0,.int n2,.int n3,.int n4,.int n5]) (k:=k) (a:=a) (x3:=.val (.int s)) (x5:=.val (.int n)) (x6:=.val (.str (nm n))) (x7:=.val (.int m)) (got:=got) (b:=b) (w:=w) hd ⟨by exact Cj hg,hok.1,hok.2,ht⟩ hw has;replace h9:=Mz▸h9;exact ⟨by show 4<_;decide,s,_,az hs,hL,(by decide:(1:Nat)≤1000),by rw [Mp];show as.length+1≤16777216;exact Ci hal,rfl,h9 _ _ hw⟩
 refine ac (fun h7=>(v04 (Ch nml) (Cg nml) rfl (key _ ?_))) (fun h7=>(v03 (by show (nm n).length+1≤16777216;exact Cf nml) rfl (key _ ?_)))
 ·unfold slc;rw [No,RG];exact Ce nml
 ·show (nm n++[115]).length≤30;rw [Mf];show _+1≤_;exact Cd nml
section
variable {g:Gx} {c:Cx} {A:Around} {st:St} {R:LG} {d:Nat}
theorem ja {i:Int} {H:Hp} {a:Addr} {ob:Obj} (h:ob.cls=.type "list") {n:Nat} {t:Tok} (hd:ob.data=.seq #[.int i t] n):AORep H a (dy i) [(a,ob)]:=fun _ _=>⟨ob,n,t,rfl,h,hd⟩
theorem S.ownPen {a:Addr} {i:Int} {o':AO} {ow':Own} {frz:Led} {s:Shared} (X:S g c st frz s) (u:OwnUpd a (dy i) o' st.own ow'):∃t,s.heap.IsList a #[.int i t]:=by
 refine u12 (X.ownAt u) ?_;rintro e q h;obtain ⟨ob,n,t,rfl,hc,hd⟩:=q (Hq g frz) fun _ _ _ h=>h;exact ⟨t,ob,h _ (.head _),hc,n,hd⟩
theorem vd {a:Addr} {i:Int} {H:Hp}:∀e,AORep H a (dy i) e→∃ob,e=[(a,ob)]:=fun e r=>by
 obtain ⟨ob,n,t,rfl,_⟩:=r H fun _ _ _ h=>h;exact ⟨ob,rfl⟩
theorem oF {a:Addr} {i:Int} {o':AO} {own ow':Own} {Q:PV→Prop} (hu:OwnUpd a (dy i) o' own ow') (q:Q (.int i)):ma g A (.ref a) (.int 0) own Q:=by
 intro c st frz s v w E hu' hA hG ho X r r';subst ho;obtain rfl:v=.ref a:=r;obtain ⟨u,rfl⟩:=r';obtain ⟨t,hl⟩:=X.ownPen hu;obtain ⟨o,ho,hc,n,hd⟩:=id hl;exact fL ⟨o,ho,hc,n,hd⟩ (show seqIndex? 0 1=some 0 from rfl) (show 1<2 ^ 62 by decide) rfl ⟨.int i,frz,Sub.refl _,X,⟨t,rfl⟩,q⟩
theorem Ln (ok:Ok g c A d) {x:Str} {np kp sp pos:Pos} {k1:Nat} {e:Expr} {a:Addr} {Q:LK} (hs:swapsWith e (some (.Subscript (.Name x np) (.Constant (.int 0) k1 kp) sp)) pos.line c.env=pure false)
 (h:Ev g c A (eval e c.env) st (fun v st'=>Look x (.ref a) st'.vars∧∃i j ow',v=.int j∧OwnUpd a (dy i) (dy j) st'.own ow'∧Q .next { st' with own:=ow' }) R) :
 Ex g c A (exec (.Assign [.Subscript (.Name x np) (.Constant (.int 0) k1 kp) sp] e pos) c.env) st Q R:=fun frz s X=>by
 refine Pn (tt (h frz s X) (fun v s₁ hh=>?_) fun _ _ e=>e) hs;obtain ⟨pv,st',f',a',X',r,hx,i,j,ow',rfl,u,q⟩:=hh;obtain ⟨tj,rfl⟩:=r;refine tt (Ev.var (R:=R) ok hx (Q:=fun pv st''=>pv=.ref a∧st''=st') ⟨rfl,rfl⟩ f' s₁ X') (fun v' s₂ hh=>?_) fun _ _ e=>e.mono a';obtain ⟨pv',st'',f'',a'',X'',r',rfl,rfl⟩:=hh;obtain rfl:v'=.ref a:=r';refine OO ?_;obtain ⟨t,hl⟩:=(X''.toks (s₂.toks+1)).ownPen u;refine wpAny_setItem_list hl (by decide) (by decide) (show (0:Int)<(1:Nat) by decide) fun h' hl' hsb=>?_;obtain ⟨o,ho,hc,n,hd⟩:=hl';exact ⟨.next,_,f'',Sub.trans a' a'',X''.setOne u (fun H e q=>vd e q) hsb ho (ja hc hd),trivial,q⟩
end
theorem yZ {g:Gx} (h:Fns g):gb g "_law_draw" ["pen","many"] (aj 65).1 (aj 65).2:=h 65 _ _ _ _ _ _ rfl
theorem ng:∀x∈(["pen","many"]:LP)++(["drawn"]:LP),(x,NameKind.local)∈(aj 65).2.names:=by decide +kernel
theorem qq {g:Gx} {d:Nat} (al:Al g) {a:Addr} {i m:Int} {own own':Own} {Q:LH} {R:LI} (h0:0<m) (h1:m<1000) (u:OwnUpd a (dy i) (dy (i.fdiv m)) own own') (q:Q (.int (i.fmod m)) own'):CallN g (d+1) "_law_draw" [.ref a,.int m] own Q R:=by
 refine cv ["drawn"] al.ok (yZ al.fns) rfl (by decide) ng fun c A ok hc=>?_;refine Ex.at (b':=[ .Assign [.Name "drawn" _] (.BinOp (.Subscript (.Name "pen" _) (.Constant (.int 0) _ _) _) .Mod (.Name "many" _) _) _,.Assign [.Subscript (.Name "pen" _) (.Constant (.int 0) _ _) _] (.BinOp (.Subscript (.Name "pen" _) (.Constant (.int 0) _ _) _) .FloorDiv (.Name "many" _) _) _,.Return (some (.Name "drawn" _)) _]) rfl ?_;refine Ex.cons (Ex.assign ok (Ev.bin ok (Ev.sub ok (Ev.var ok .here (Ev.int (oF u ?_))))) (by rfl));refine Ev.var ok (.there .here) (kF (show nG .Mod (.int i) (.int m)=some (.int (i.fmod m)) from if_pos (wt h0)) ⟨_,.there (.there .here),?_⟩);refine Ex.cons (Ln (a:=a) ok (by rfl) (Ev.bin ok (Ev.sub ok (Ev.var ok .here (Ev.int (oF u ?_))))));refine Ev.var ok (.there .here) (kF (show nG .FloorDiv (.int i) (.int m)=some (.int (i.fdiv m)) from if_pos ⟨by exact wt h0,by exact Bb h0 h1⟩) ⟨.here,i,_,_,rfl,u,?_⟩);exact Ex.cons (rest:=[]) (Ex.ret (Ev.var ok (.there (.there .here)) q))
theorem Ad:IsL vy mT (aj 79).1.tail:=⟨by kernel_rfl,by decide +kernel⟩
theorem ek:(∀x∈vy.ns,(x,NameKind.local)∈(aj 79).2.names)∧∀x∈("SmallHost" : Str)::vy.gl,(x,NameKind.globalImplicit)∈(aj 79).2.names:=by decide +kernel
theorem yY {g:Gx} (h:Fns g):gb g "_law_command_right" ["got","options","text","stands"] (aj 79).1 (aj 79).2:=h 79 _ _ _ _ _ _ rfl
theorem Ex.less {g:Gx} {c:Cx} {A:Around} {t:Sem Flow} {vars:aM} {o o':Own} {Q:LK} {R:LG} (l:Less o o') (h:Ex g c A t ⟨vars,o'⟩ Q R):Ex g c A t ⟨vars,o⟩ Q R:=fun frz s X=>h frz s (X.less l)
theorem jc {g:Gx} {w:Wd} (h:w.host=none) (x:Addr) (bk:aS) (w':Wd) (hp:w'.pen=w.pen) (hh:w'.host=some (x,bk)):aQ g w'=aQ g w++[(x,g.host bk)]:=by
 unfold aQ;rw [hp,hh,h,MM]
theorem kD {g:Gx} {h:HA} {d D:Nat} (al:Al g) (k:HK g h) (rs:Rse g (D+3)) (cl:Calls g (D+3) (ak (d+9))) {got t:LA} {opts:List (LA)} {b:Bool} (hc:Cmd got opts t) {w:Wd} (hw:w.host=none) (pre:Own) {Q:LH} {R:LI} (q:Q (.bool true) (pre++aQ g w)) :
 CallN g (D+3+1) "_law_command_right" [.str got,.lst (opts.map .str),.str t,.bool b] (pre++aQ g w) Q R:=by
 have hb:CallN g (D+3+1) "_law_command_right" [.str got,.lst (opts.map .str),.str t,.bool b] (pre++aQ g w) (fun v o=>v=.bool true∧∃z x bk,o=(z++pre)++(aQ g w++[(x,g.host bk)])) (fun _ _=>False):=by
  refine iF ["host","due","place","index"] al (yY al.fns) rfl (by decide) ek.1 fun c A ok hsc=>?_;refine Ex.at (b':=.Assign [.Name "host" _] (.Call (.Name "SmallHost" _) [] [] _) _::(aj 79).1.tail) rfl ?_;refine Ex.cons (Ex.assign ok (KM al.ok ok (ok.envG (by refine hsc▸?_;exact ek.2 _ (.head _))) ?_) (by rfl));refine u13 (iD (d:=D) (R:=fun _ _=>False) al.ok k (own:=pre++aQ g w)) ?_;rintro v n1 n2 n3;refine ⟨v,n1,n2,n3.mono fun v o hh=>?_⟩;obtain ⟨x,hv,ho⟩:=hh;subst hv ho;refine ⟨_,.there (.there (.there (.there .here))),?_⟩;have hh:({ w with host:=some (x,[]) }:Wd).host=some (x,[]):=rfl;refine Ex.less (o':=pre++aQ g { w with host:=some (x,[]) }) (by rw [(jc (g:=g) hw x [] { w with host:=some (x,[]) } rfl rfl),←Mb];exact Less.perm (Qk _ _).symm) ?_;refine (gK al cl (show Fo g c A (D+3) vy pre [] from ⟨ok,fun x hx=>by rw [hsc];exact ek.2 x (.tail _ hx),by refine hsc▸?_;exact ek.1,rfl,(fun x hx=>nomatch hx),fun k y v hk=>nomatch hk⟩) rs mT).2.at Ad ⟨[.val (.str got),.val (.lst (opts.map .str)),.val (.str t),.val (.bool b),.val (.ref x),.un,.un,.un],[]⟩ { w with host:=some (x,[]) } [] rfl ⟨by simp,fun k=>⟨fun ⟨l,hl,hf⟩=>?_,fun h=>by cases h⟩⟩ _ _ (ai (cC _ _ _ _ _ (w79 d got t opts hc b x { w with host:=some (x,[]) } hh)) (fun p w' h _ lo inv=>?_) fun _ _ h=>h.elim)
  ·have hm:=MK hl;simp only [Me,ML,or_false] at hm;rcases hm with rfl|rfl|rfl|rfl|rfl|rfl|rfl|rfl<;>injection hf
  ·obtain ⟨_,h⟩:=h;obtain ⟨af,is⟩:=p;cases af with
   | ret v=>
    obtain ⟨rfl,h2,bk,h3⟩:=h;refine ⟨rfl,aI g lo is.vs,x,bk,?_⟩;show (aI g lo is.vs++pre)++aQ g w'=_;exact (jc hw x bk w' h2 h3)▸rfl
   | next=>exact nomatch h.v
   | brk=>exact h.elim
   | cont=>exact h.elim
 refine u13 hb ?_;clear hb;rintro v n1 n2 n3;refine ⟨v,n1,n2,n3.less (fun v o hh=>?_) fun _ _ h=>h.elim⟩;obtain ⟨hv,z,x,bk,ho⟩:=hh;subst hv ho;refine (v12 _ (Less.trans (Less.perm (o':=(z++[(x,g.host bk)])++(pre++aQ g w)) ?_) (Less.drop _ _)) q);rw [Mb,Mb];refine List.Perm.append_left z ?_;rw [←Mb];exact Qk _ _
noncomputable abbrev nmT:LA:=[116,114,117,101]
noncomputable abbrev nmF:LA:=[102,97,108,115,101]
noncomputable def db:Nm:=⟨["name","text","words","sort"],[],[2],["full"],none,["range","len"]⟩
noncomputable def zY:IC:=.dnew 2 [nmT,nmF] (.cons (.lst (.cons (.str [49]) (.cons (.str [111,110]) .nil))) (.cons (.lst (.cons (.str [48]) (.cons (.str [111,102]) (.cons (.str [111,102,102]) .nil)))) .nil))
noncomputable def yT:IE:=.lst (.cons (.tup (.cons (.str nmT) (.cons (.str nmT) .nil))) (.cons (.tup (.cons (.str nmT) (.cons (.str [121,101,115]) .nil))) (.cons (.tup (.cons (.str nmF) (.cons (.str nmF) .nil))) (.cons (.tup (.cons (.str nmF) (.cons (.str [110,111]) .nil))) .nil))))
noncomputable def yb:IE:=.bi .range (.cons (.int 1) (.cons (.bin .Add (.bi .len (.cons (.cvar 0) .nil)) (.int 1)) .nil))
noncomputable def zW:IE:=.slc (.cvar 0) .nopart .tvar
noncomputable def yV:IC:=(.cons (.ite (.bop .Or (.bop .And (.cmp .In (.m0 .lower (.var 1)) (.dget 2 (.str nmT))) (.cmp .NotEq (.var 0) (.str nmF))) (.bop .And (.cmp .In (.m0 .lower (.var 1)) (.dget 2 (.str nmF))) (.cmp .NotEq (.var 0) (.str nmT))))
 (.cons (.ret (.tup (.cons (.bool true) (.cons (.neg (.int 1)) .nil)))) .nil) .nil) (.cons (.ret (.tup (.cons (.bool false) (.cons (.int 0) .nil)))) .nil))
inductive TruE:Prop
 | mk (s1 it e1 elt iter sc rest p1 p2 p3 p4 p5 p6 p7 p8 p9 p10 p11 k) (eb:(aj 70).1=s1::.For (.Tuple [.Name "sort" p1,.Name "full" p2] k p3) it
  [.Assign [.Subscript (.Name "words" p4) (.Name "sort" p5) p6] (.BinOp e1 .Add (.ListComp elt [⟨.Name "size" p7,iter,[],0⟩] sc p8) p9) p10] [] p11::rest)
  (h1:IsS db zY s1) (h2:IsE db yT it) (h3:IsE db (.dget 2 (.var 3)) e1) (h4:IsE db yb iter) (h5:mq db "size" sc=true) (h6:IsE (eu db "size" sc) zW elt) (h7:IsL db yV rest)
theorem rf:TruE:=
 ⟨_,_,_,_,_,_,_,_,_,_,_,_,_,_,_,_,_,_,_,rfl,⟨by kernel_rfl,by decide +kernel⟩,⟨by kernel_rfl,by decide +kernel⟩,⟨by kernel_rfl,by decide +kernel⟩,⟨by kernel_rfl,by decide +kernel⟩,by decide +kernel,⟨by kernel_rfl,by decide +kernel⟩,⟨by kernel_rfl,by decide +kernel⟩⟩
theorem bB:(∀x∈db.ns,(x,NameKind.local)∈(aj 70).2.names)∧(∀x∈db.gl,(x,NameKind.globalImplicit)∈(aj 70).2.names)∧(("full" : Str),NameKind.cell)∈(aj 70).2.names∧∀n,cellsFrom n (aj 70).2.names []=[(("full" : Str),n)]:=(v04 (by decide +kernel) (by decide +kernel) (by decide +kernel) (fun n=>rfl))
section
variable {g:Gx} {c:Cx} {A:Around} {st:St} {R:LG} {d:Nat} {n:Nm} {call:ax} {pre:Own} {cs:List (LD)}
noncomputable def qk (es:List (LA×PV)) (n:LA) (v:PV):List (LA×PV):=es.map fun p=>if p.1=n then (p.1,v) else p
theorem th {H:Hp} {n:LA} {v:Value} {p:PV} (r:Rep H v p):∀{es:List (LA×PV)} {kvs:List (Str×Value)},kvs.map (·.1)=es.map (fun p=>txt p.1)→RepL H (kvs.map (·.2)) (es.map (·.2))→
 (kvs.map fun kv=>if kv.1=txt n then (kv.1,v) else kv).map (·.1)=(qk es n p).map (fun p=>txt p.1)∧RepL H ((kvs.map fun kv=>if kv.1=txt n then (kv.1,v) else kv).map (·.2)) ((qk es n p).map (·.2)):=by
 intro es
 induction es with
 | nil=>intro kvs h0 h;cases kvs with|nil=>exact ⟨rfl,h⟩|cons _ _=>cases h0
 | cons p es ih=>
  intro kvs h1 h2;cases kvs with|nil=>cases h1|cons p' kvs=>?_
  obtain ⟨k,q⟩:=p;obtain ⟨k',u⟩:=p';injection h1 with e1 h1;have e1:k'=txt k:=e1;subst e1;obtain ⟨v1,r1,e,ru,rr⟩:=h2;injection e with e2 e3;subst e2 e3;obtain ⟨i1,i2⟩:=ih h1 rr;by_cases hk:k=n
  ·subst hk;unfold qk;simp only [Mu,if_true];exact ⟨congrArg _ i1,_,_,rfl,r,i2⟩
  ·have hk':txt k≠txt n:=fun e=>hk (by have:=congrArg (fun z:Str=>z.cps.toList) e;simpa [txt] using this);unfold qk;simp only [Mu,if_neg hk,if_neg hk'];exact ⟨congrArg _ i1,_,_,rfl,ru,i2⟩
theorem Lb (ok:Ok g c A d) {x y:Str} {np yp sp pos:Pos} {e:Expr} {a:Addr} {n:LA} {Q:LK} (hs:swapsWith e (some (.Subscript (.Name x np) (.Name y yp) sp)) pos.line c.env=pure false)
 (h:Ev g c A (eval e c.env) st (fun v st'=>Look x (.ref a) st'.vars∧Look y (.str n) st'.vars∧∃es ow',OwnUpd a (aq g es) (aq g (qk es n v)) st'.own ow'∧n∈es.map (·.1)∧es.length≤1000∧Q .next { st' with own:=ow' }) R) :
 Ex g c A (exec (.Assign [.Subscript (.Name x np) (.Name y yp) sp] e pos) c.env) st Q R:=fun frz s X=>by
 refine Pn (tt (h frz s X) (fun v s₁ hh=>?_) fun _ _ e=>e) hs;obtain ⟨pv,st',f',a',X',r,hx,hy,es,ow',u,hl,hz,q⟩:=hh;refine tt (Ev.var (R:=R) ok hx (Q:=fun pv st''=>pv=.ref a∧st''=st') ⟨rfl,rfl⟩ f' s₁ X') (fun v' s₂ hh=>?_) fun _ _ e=>e.mono a';obtain ⟨pv',st'',f'',a'',X'',r',rfl,rfl⟩:=hh;obtain rfl:v'=.ref a:=r';refine tt (Ev.var (R:=R) ok hy (Q:=fun pv st3=>pv=.str n∧st3=st'') ⟨rfl,rfl⟩ f'' s₂ X'') (fun v' s₃ hh=>?_) fun _ _ e=>e.mono (Sub.trans a' a'');obtain ⟨pv',st3,f3,a3,X3,r3,rfl,rfl⟩:=hh;obtain ⟨t,rfl⟩:=r3;obtain ⟨hs,kvs,hd,hk,hv⟩:=X3.ownDic u;have hyes:kvs.any (fun kv=>kv.1=txt n)=true:=by
  refine u12 (Ma.mp hl) ?_;rintro p hp e;have hm:txt n∈kvs.map (·.1):=by rw [hk,←e];exact Ma.mpr (v12 p hp rfl)
  refine u12 (Ma.mp hm) ?_;rintro kv hkv e2;exact List.any_eq_true.mpr (v12 kv hkv (decide_eq_true e2))
 refine RO (knd:=SK g) (k:=txt n) jn hd (fun h' hd' hsb=>?_) (by rw [MQ];exact Cu hz (show kvs.length=es.length from by have:=congrArg Nf hk;simpa using this));have est:stored kvs (txt n) v=kvs.map fun kv=>if kv.1=txt n then (kv.1,v) else kv:=by unfold stored;rw [if_pos hyes]
 rw [est] at hd';refine u12 (Oa.mp hd') ?_;rintro o' ho' hd'';obtain ⟨i1,i2⟩:=th (n:=n) (r.mono (Hq.mono (Sub.trans a'' a3))) hk hv;exact ⟨.next,_,f3,Sub.trans a' (Sub.trans a'' a3),X3.setOne u (fun H e q=>by obtain ⟨_,o,_,rfl,_⟩:=q H fun _ _ _ h=>h;exact ⟨o,rfl⟩) hsb ho' (dh hs hd'' i1 i2),trivial,q⟩
def Ap (x:Str) (a:Addr) (p:PV) (st:St) (K:St→Prop):Prop:=∃u v o ow',p=.tup [u,v]∧PutQ x u st fun st1=>OwnUpd a (bz o) (bz (some v)) st1.own ow'∧K { st1 with own:=ow' }
theorem S.setCell {a:Addr} {o:LD} {ow':Own} {frz:Led} {s:Shared} {h':Heap} {v:Value} {p:PV} (X:S g c st frz s) (u:OwnUpd a (bz o) (bz (some p)) st.own ow') (hs:Og a s.heap h') (hc:h'.IsCell a (some v)) (r:Rep (Hq g frz) v p):S g c { st with own:=ow' } frz { s with heap:=h' }:=by
 refine u12 hc ?_;clear hc;rintro ob ho hd;exact X.setOne (tk:=s.toks) u (fun H e q=>by obtain ⟨ob,w,rfl,_⟩:=q H fun _ _ _ h=>h;exact ⟨ob,rfl⟩) hs ho fun H' k=>⟨ob,some v,rfl,hd,fun q e=>by cases e;exact (v12 v rfl (r.monoT k))⟩
theorem Ik (ok:Ok g c A d) {x y:Str} {p1 p2 p3:Pos} {k:Nat} {a:Addr} (hy:(y,NameKind.cell)∈c.cs.names) (ha:c.cells.lookup y=some a):xB g c A (.Tuple [.Name x p1,.Name y p2] k p3) (Ap x a):=fun {frz s st p v K Q E} X r q h=>by
 obtain ⟨pu,pv,o,ow',rfl,vs',hp,u,q⟩:=q;rw [assign_Tuple];refine KE (MW ?_);refine KE (Mw (gv ok X r rfl fun vs h' rl X₂=>?_));obtain ⟨v1,r,rfl,r1,v2,r',rfl,r2,rfl⟩:=rl;refine KE (Mw (assign_Name (dH ok X₂ hp r1 fun s₃ X₃=>?_)));refine KE (Mw (assign_Name ?_));refine u12 (X₃.ownAt u) ?_;rintro e hr hg;obtain ⟨ob,w,rfl,hd,_⟩:=hr (Hq g frz) fun _ _ _ h=>h;refine wpAny_storeName_cell ok.kind (aA ok.nd hy) ha (v12 ob (hg _ (.head _)) hd) fun h2 hc hs=>?_;exact Mh (h _ _ (X₃.setCell u hs hc r2) q)
theorem Ab (al:Al g) (cl:Calls g d call) (fo:Fo g c A d n pre cs) {x:Str} {sc:Scope} (h:mq n x sc=true) {C D:Addr} {elt:Expr} {e:IE} (he:IsE (eu n x sc) e elt) {vars:aM} (z:Own) {f:PV→PV} (w:Wd) {Q:LB→St→Prop} :
 ∀(l acc:LB),(∀p∈l,evE call ⟨[],cs,some p⟩ e w=.ok (f p) w)→Q (acc++l.map f) (stw g vars (z++pre) w)→dW g c A (fV c sc C) x elt [] C D Q l acc (stw g vars (z++pre) w):=by
 intro l
 induction l with
 | nil=>intro acc _ q;rw [List.map_nil,MM] at q;exact q
 | cons p ps ih=>
  intro acc hf q;have rd:=kt (C:=C) (D:=D) (p:=p) (acc:=acc) (vars:=vars) fo h z;intro frz s X;refine Mh ⟨_,frz,Sub.refl _,X,?_⟩;refine ((nZ al cl fo.ok (kt (C:=C) (D:=D) (p:=p) (acc:=acc) (vars:=vars) fo h z) e).1.at he w).1 _ _ ?_;rw [hf p (.head _)];exact ⟨_,_,rfl,ih (acc++[f p]) (fun q hq=>hf q (.tail _ hq)) (by rw [Mb];exact q)⟩
end
noncomputable def iv (a b:List (LA)):List (LA×PV):=[(nmT,.lst (a.map .str)),(nmF,.lst (b.map .str))]
noncomputable def pfx (full:LA):List (LA):=(NO full.length).map fun j=>full.take (j+1)
noncomputable def srt (s:Bool):LA:=if s then nmT else nmF
noncomputable def fM (n t:LA) (a b:List (LA)) (x3:Slot) (o:LD):IS:=⟨[.val (.str n),.val (.str t),.dic (iv a b),x3],[o]⟩
theorem yX {g:Gx} {c:Cx} {A:Around} {d:Nat} (ok:Ok g c A d) (hsc:c.cs=(aj 70).2) {aF:Addr} (hcs:c.cells=[(("full" : Str),aF)]) (pre:Own) (o:LD):Fo g c A d db ((aF,bz o)::pre) [o]:=by
 refine ⟨ok,by rw [hsc];exact bB.2.1,by rw [hsc];exact bB.1,rfl,fun x hx=>?_,fun k x v hk hv a ha own1 w=>?_⟩
 ·obtain rfl:x = "full":=My.mp hx;exact ⟨by rw [hsc];exact bB.2.2.1,aF,by rw [hcs];rfl⟩
 ·have h1:=bn hk;obtain rfl:x = "full":=My.mp (MK h1);rw [hcs] at ha;cases ha;have hk0:k=0:=by
   exact Nat.lt_one_iff.mp ((ME.mp h1).1)
  subst hk0;cases o with
  | none=>cases hv
  | some u=>cases hv;exact ⟨_,(KC own1 pre).right⟩
theorem kg {a b:Int} (h1:-1000000≤a) (h2:b≤1000000) (h3:a≤1000000) (h4:-1000000≤b):hY (.range a b)=some (bh a (b-a).toNat):=if_pos (v04 h1 h2 h3 h4)
theorem vc (f:LA):(pfx f).length=f.length:=by unfold pfx;rw [Mp,Oe]
theorem GI {full:LA} {ab:List (LA)} (hf:full.length≤10) (hab:ab.length≤100):nG .Add (.lst (ab.map .str)) (.lst ([]++(bh 1 full.length).map fun p=>match p with|.int j=>.str (full.take j.toNat)|_=>.none))=some (.lst ((ab++pfx full).map .str)):=by
 have e:(([]++(bh 1 full.length).map fun p=>match p with|.int j=>PV.str (full.take j.toNat)|_=>.none):LB)=(pfx full).map .str:=by
  rw [bj,MT,NE];unfold pfx;rw [NE];refine NA fun j _=>?_;show PV.str (full.take ((1:Int)+(j:Nat)).toNat)=PV.str (full.take (j+1));rw [show ((1:Int)+(j:Nat)).toNat=j+1 by exact qP]
 rw [e,Mz];refine if_pos ?_;rw [Mp,Mp,vc];exact Mj (Sa hab hf) (by decide)
section
variable {g:Gx} {c:Cx} {A:Around} {D:Nat} {call:ax} {aF:Addr} {w:Wd} {pre:Own} {n t:LA} {iter e1 elt:Expr} {sc:Scope} {p4 p5 p6 p7 p8 p9 p10:Pos}
theorem jQ (al:Al g) (cl:Calls g D call) (ok:Ok g c A D) (hsc:c.cs=(aj 70).2) (hcs:c.cells=[(("full" : Str),aF)])
 (h1:IsE db (.dget 2 (.var 3)) e1) (h2:IsE db yb iter) (h3:mq db "size" sc=true) (h4:IsE (eu db "size" sc) zW elt)
 {Q:LK} {R:LG} (k ab full) (hf:full.length≤10) (a b a' b':List (LA)) (hab:ab.length≤100) (hlk:(iv a b).lookup k=some (.lst (ab.map .str))) (hd:qk (iv a b) k (.lst ((ab++pfx full).map .str))=iv a' b') (hm:k∈(iv a b).map (·.1))
 (x3:Slot) (hx3:x3.free=true) (o:LD) (lo:List (Nat×Addr)) (inv:Inv db lo (fM n t a b x3 o)) (rest:LB)
 (next:∀lo',Inv db lo' (fM n t a' b' (.val (.str k)) (some (.str full)))→
  qI (Ap "sort" aF) g c A [.Assign [.Subscript (.Name "words" p4) (.Name "sort" p5) p6] (.BinOp e1 .Add (.ListComp elt [⟨.Name "size" p7,iter,[],0⟩] sc p8) p9) p10] Q R rest
   (stf g db ((aF,bz (some (.str full)))::pre) lo' (fM n t a' b' (.val (.str k)) (some (.str full))) w)) :
 qI (Ap "sort" aF) g c A [.Assign [.Subscript (.Name "words" p4) (.Name "sort" p5) p6] (.BinOp e1 .Add (.ListComp elt [⟨.Name "size" p7,iter,[],0⟩] sc p8) p9) p10] Q R (.tup [.str k,.str full]::rest) (stf g db ((aF,bz o)::pre) lo (fM n t a b x3 o) w):=by
 have hput:(fM n t a b x3 o).put 3 (.str k)=some (fM n t a b (.val (.str k)) o):=by cases x3<;>first|rfl|cases hx3
 have inv':Inv db lo (fM n t a b (.val (.str k)) (some (.str full))):=⟨(inv.put hput).nd,(inv.put hput).iff⟩
 have fo:=yX ok hsc hcs pre (some (.str full));refine ⟨.str k,.str full,o,_,rfl,fH inv rfl hput ⟨(KC _ pre).right,?_⟩⟩;have u:=ee (g:=g) (pre:=(aF,bz (some (.str full)))::pre) (s':=.dic (iv a' b')) inv'.nd ((inv'.iff 2).mp (v12 _ rfl rfl)) (vs:=(fM n t a b (.val (.str k)) (some (.str full))).vs) rfl;have nx:=next lo (inv'.sameOwn (k:=2) (s:=.dic (iv a b)) (s':=.dic (iv a' b')) rfl rfl rfl);have e3v:∀j<full.length,evE call ⟨(fM n t a b (.val (.str k)) (some (.str full))).vs,[some (.str full)],some (.int (1+j))⟩ zW w=.ok (.str (full.take (1+(j:Int)).toNat)) w:=fun j hj=>by
  refine lK ⟨.str full,rfl,.int (1+j),rfl,by exact AV hf,?_,rfl⟩;have e:(1:Int)+(j:Nat)=((1+j:Nat):Int):=by exact AU
  rw [e];exact congrArg PV.str (iY full (1+j))
 have E:=ae al cl fo [] (fM n t a b (.val (.str k)) (some (.str full))) lo rfl inv';refine Ex.cons (Lb (a:=ad lo 2) (n:=k) ok (by rfl) (Ev.bin ok (((E _).1.at h1 w).1 _ _ ((show evE call (fM n t a b (.val (.str k)) (some (.str full))).F (.dget 2 (.var 3)) w=.ok (.lst (ab.map .str)) w from by show Rs.of ((iv a b).lookup k) w=_;rw [hlk];rfl)▸?_))));refine Ev.comp ok (ni fo h3) (dl h2.plain _) (((E _).1.at h2 w).1 _ _ ((show evE call (fM n t a b (.val (.str k)) (some (.str full))).F yb w=.ok (.range 1 (full.length+1)) w from lK ⟨.str full,rfl,by exact Ba hf,.range 1 (full.length+1),rfl,rfl,rfl⟩)▸?_));have hl:hY (.range 1 (full.length+1))=some (bh 1 ((full.length:Int)+1-1).toNat):=kg (by decide) (by exact AZ hf) (by decide) (by exact AY);rw [AX] at hl;refine ⟨_,jm ok.hand hl,by rw [bj,Mp,Oe];exact AW hf,fun C D=>?_⟩;refine Ab (f:=fun p=>match p with|.int j=>.str (full.take j.toNat)|_=>.none) al cl fo h3 h4 (aI g lo _) w _ [] (fun p hp=>?_) ?_
 ·rw [bj] at hp;refine u12 (Ma.mp hp) ?_;rintro j hj rfl;exact e3v j (OE.mp hj)
 ·exact kF (GI hf hab) ⟨.there (.there .here),.there (.there (.there .here)),iv a b,_,by rw [hd];exact u.right,hm,(by decide:(2:Nat)≤1000),Ex.nil nx⟩
end
theorem kQ:∀x∈(["name","text"]:LP),(aj 70).2.names.contains (x,NameKind.local)=!(["full"]:LP).contains x:=by decide +kernel
noncomputable def xN:List (LA):=[[49],[111,110]]
noncomputable def qX:List (LA):=[[48],[111,102],[111,102,102]]
theorem oE (x:LA) (ys:List (LA)):dq .In (.str x) (.lst (ys.map .str))=some (decide (x∈ys)):=by
 show (aV (ys.map .str)).map _=_;rw [cA];rfl
theorem w70 {call:ax} {cs:List (LD)} {n t:LA} (ht:Tx t) {x3:Slot} {w:Wd} {R:LJ}:iM call cs yV [.val (.str n),.val (.str t),.dic (iv WT WF),x3] w (RQ fun v w'=>v=cG n t∧w'=w) R:=by
 have hlow:=gY ht;have yes:(bb t∈WT∧n≠nm 7)∨(bb t∈WF∧n≠nm 15)→PV.tup [.bool true,.int (-1)]=cG n t:=fun h=>by unfold cG;rw [if_pos h];rfl
 have no:¬((bb t∈WT∧n≠nm 7)∨(bb t∈WF∧n≠nm 15))→PV.tup [.bool false,.int 0]=cG n t:=fun h=>by unfold cG;rw [if_neg h];rfl
 refine ⟨_,hlow,_,rfl,cW (K:=fun r=>(r=true→_)∧(r=false→_)) (oE _ WT) (ac (fun h1=>lR (fun h2=>be (v03 le2 (yes (.inl ⟨h1,h2⟩)) rfl)) (fun h2=>?_)) (fun h1=>gm ?_))⟩
 all_goals
  have h0:¬(bb t∈WT∧n≠nm 7):=by first|exact fun h=>h.2 h2|exact fun h=>h1 h.1
  refine ⟨_,hlow,_,rfl,cW (K:=fun r=>(r=true→_)∧(r=false→_)) (oE _ WF) (ac (fun h3=>bq (fun h4=>(v03 le2 (yes (.inr ⟨h3,h4⟩)) rfl)) (fun h4=>(v03 le2 (no fun h=>h.elim h0 fun h=>h.2 h4) rfl))) (fun h3=>aD (v03 le2 (no fun h=>h.elim h0 fun h=>h3 h.1) rfl)))⟩
theorem yL {vs:LC} (h:vs.all Slot.free=true) {k:Nat} {s:Slot} (hl:vs[k]? = some s) (hf:s.free=false):False:=by
 have:=Mo.mp h s (MK hl);rw [hf] at this;cases this
set_option maxHeartbeats 2000000 in
theorem nt {g:Gx} {D:Nat} {call:ax} (al:Al g) (rs:Rse g D) (cl:Calls g D call) {n t:LA} (ht:Tx t) {w:Wd} (pre:Own) {Q:LH} {R:LI} (q:Q (cG n t) (pre++aQ g w)):CallN g (D+1) "_law_truth" [.str n,.str t] (pre++aQ g w) Q R:=by
 obtain ⟨s1,it,e1,elt,iter,sc,rest,p1,p2,p3,p4,p5,p6,p7,p8,p9,p10,p11,k,eb,h1,h2,h3,h4,h5,h6,h7⟩:=rf;obtain ⟨a,hn,hf⟩:gb g "_law_truth" ["name","text"] (aj 70).1 (aj 70).2:=al.fns 70 _ _ _ _ _ _ rfl;obtain ⟨o,fd,hget,hdata,_⟩:=hf.ex;have eV:dE (aj 70).2 ["name","text"] ([.str n,.str t]++[])=[(("name" : Str),some (PV.str n)),(("text" : Str),some (PV.str t))]:=by rw [MM,jj kQ];rfl
 have hb:CallV g (D+1) (.ref a) [.str n,.str t] (pre++aQ g w) (fun v o=>v=cG n t∧∃z,o=(z++pre)++aQ g w) (fun _ _=>False):=by
  refine (dU (others:=["words","sort"]) al.ok hf rfl (by decide) (fun x hx=>.inl ?_) ?_ (fun x hx=>bB.1 x (.tail _ (.tail _ hx))) fun c A ok hsc hcs=>?_).toV
  ·exact bB.1 x (by rcases Me.mp hx with rfl|hx;exact .head _;rw [My.mp hx];exact .tail _ (.head _))
  ·rw [eV];show (["name","text","words","sort"]:LP).Nodup;decide
  rw [bB.2.2.2] at hcs;rw [eb,eV];have fo:=yX ok hsc hcs pre none;rw [(show (⟨[(("name" : Str),some (PV.str n)),(("text" : Str),some (PV.str t))]++bF ["words","sort"],bp ((["name","text"]:LP).zip ([.str n,.str t]++[])) c.cells++(pre++aQ g w)⟩:St)=stf g db ((c.L+1,bz none)::pre) [] ⟨[.val (.str n),.val (.str t),.un,.un],[none]⟩ w from by rw [hcs];rfl)];refine Ex.cons ((gK al cl fo rs zY).1.at h1 _ w [] rfl ⟨by simp,fun k=>⟨fun ⟨l,hl,hf⟩=>(yL rfl hl hf).elim,fun h=>by cases h⟩⟩ _ _ (ai (cC zY [.val (.str n),.val (.str t),.un,.un] w (fun f vs w'=>f=.next∧vs=(fM n t xN qX .un none).vs∧w'=w) (fun _ _=>False) (v06 rfl (by decide:(2:Nat)≤1000) (by decide:(3:Nat)≤1000) rfl rfl rfl)) (fun p w' h hc lo inv=>?_) fun _ _ h=>h.elim));obtain ⟨af,vs,cs⟩:=p;refine u04 h ?_;clear h;rintro rfl rfl rfl rfl;refine Ex.cons (Lj ok (Ik ok (by rw [hsc];exact bB.2.2.1) (by rw [hcs];rfl)) (((ae al cl fo [] _ lo rfl inv yT).1.at h2 w').1 _ _ ?_) (dl h2.plain _));rw [(show ∀F,evE call F yT w'=.ok (.lst [.tup [.str nmT,.str nmT],.tup [.str nmT,.str [121,101,115]],.tup [.str nmF,.str nmF],.tup [.str nmF,.str [110,111]]]) w' from fun F=>rfl)];refine (v12 _ (hV ok.hand) ?_);refine jQ al cl ok hsc hcs h3 h4 h5 h6 nmT xN nmT (by decide) xN qX _ qX (by decide) rfl rfl (.head _) .un rfl none lo inv _ fun lo inv=>?_;refine jQ al cl ok hsc hcs h3 h4 h5 h6 nmT _ [121,101,115] (by decide) _ _ _ qX (by decide) rfl rfl (.head _) _ rfl _ lo inv _ fun lo inv=>?_;refine jQ al cl ok hsc hcs h3 h4 h5 h6 nmF qX nmF (by decide) _ _ _ _ (by decide) rfl rfl (.tail _ (.head _)) _ rfl _ lo inv _ fun lo inv=>?_;refine jQ al cl ok hsc hcs h3 h4 h5 h6 nmF _ [110,111] (by decide) _ _ _ _ (by decide) rfl rfl (.tail _ (.head _)) _ rfl _ lo inv _ fun lo inv=>?_;refine (gK al cl (yX ok hsc hcs pre (some (.str [110,111]))) rs yV).2.at h7 _ w' lo rfl inv _ _ (ai (Q:=fun p w2=>p.2.cs=[some (.str [110,111])]∧RQ (fun v w=>v=cG n t∧w=w') p.1 p.2.vs w2) (R:=fun _ _=>False) (cC _ _ _ _ _ ?_) (fun p w2 h _ lo inv=>?_) fun _ _ h=>h.elim)
  ·exact w70 ht
  ·obtain ⟨_,h⟩:=h;obtain ⟨af,is⟩:=p;cases af with
   | ret v=>
    obtain ⟨rfl,rfl⟩:=h;exact ⟨rfl,aI g lo is.vs++[(c.L+1,bz (some (.str [110,111])))],by simp [Mb]⟩
   | next=>exact absurd h.1 (by unfold cG;split<;>exact fun e=>nomatch e)
   | brk=>exact h.elim
   | cont=>exact h.elim
 refine ⟨.ref a,.inl hn,KeepOk.fn hget hdata,hb.less (fun v o hh=>?_) fun _ _ h=>h.elim⟩;obtain ⟨hv,z,ho⟩:=hh;subst hv ho;refine (v12 _ ?_ q);rw [Mb];exact Less.drop _ _
theorem CallN.mono {g:Gx} {d:Nat} {f:Str} {args:LB} {own:Own} {Q Q':LH} {R:LI} (h:CallN g d f args own Q R) (k:∀v o,Q v o→Q' v o):CallN g d f args own Q' R:=
 by obtain ⟨v,a,b,c⟩:=h;exact ⟨v,a,b,c.mono k⟩
theorem rse {g:Gx} {h:HA} {fI:Addr} (al:Al g) (k:HK g h) (xr:XR g fI) (d:Nat):Rse g (d+5) where
 sysm:=k.sysm
 hwr:=fun ok hl h1 h2 hx hu hw=>yW al.ok k ok hl h1 h2 hx hu hw
 exE:=fun ok hk ha hb h=>Ex.raiseE (d:=d+2) al.ok xr ok hk ha hb h
 exW:=fun ok hk ha h=>Ex.raiseW (d:=d+1) al.ok xr (al.fns 9 _ _ _ _ _ _ rfl) ok hk ha h
 tryE:=fun ok hk h=>LW al.ok xr.toXK ok hk h
theorem ji {α:Type} {x:Str} {f:α}:∀{l:List (Str×α)},l.lookup x=some f→(x,f)∈l:=by
 intro l
 induction l with
 | nil=>intro h;cases h
 | cons q l ih=>
  intro h;obtain ⟨y,v⟩:=q;rw [Mn] at h;cases e:x==y with
  | true=>rw [e] at h;injection h with h;subst h;cases eq_of_beq e;exact .head _
  | false=>rw [e] at h;exact .tail _ (ih h)
theorem gR {g:Gx} (al:Al g) (x:Str) (f:Nat) (h:dm.lookup x=some f):∃v,bH g x v∧KeepOk g v:=ef (al.fns f _ _ _ _ _ _ (vR (ji h)))
def uk (x:Str) (f:Nat):Fun→Prop
 | .ir fi=>FnIR f x fi
 | .irc fi=>FnIRC f x fi
 | .prim s=>(x = "_law_draw"∧s=fun _=>tl)∨(x = "_law_truth"∧s=fun _=>ml)∨(x = "_law_heard"∧s=mY)
 | .deep s=>x = "_law_command_right"∧s=fu
 | .no=>True
def AllOk:List (Str×Nat)→Prop
 | []=>True
 | p::r=>uk p.1 p.2 (tab p.2)∧AllOk r
theorem AllOk.mem {l:List (Str×Nat)} {p:Str×Nat} (h:AllOk l) (m:p∈l):uk p.1 p.2 (tab p.2):=by
 induction l with
 | nil=>cases m
 | cons q r ih=>
  refine Mx (Me.mp m) (fun hz=>?_) fun m=>?_
  ·obtain rfl:=hz;exact h.1
  ·exact ih h.2 m
theorem xU:AllOk dm:=⟨trivial,trivial,JW,JV,JU,JT,JS,JR,JQ,JP,JO,JN,JM,JL,JK,JJ,JI,JH,JG,JF,JE,JD,JC,JB,JA,Jz,Jy,Jx,Jw,Jv,Ju,Jt,Js,
 Jr,Jq,Jp,Jo,.inl ⟨rfl,rfl⟩,Jn,Jm,Jl,Jk,.inr (.inl ⟨rfl,rfl⟩),Jj,Ji,Jh,Jg,Jf,Je,Jd,.inr (.inr ⟨rfl,rfl⟩),⟨rfl,rfl⟩,Jc,trivial⟩
theorem ui {g:Gx} {d:Nat} (al:Al g) {args:LB} {w:Wd} {Q:LL} {R:LJ} (pre:Own) (hs:sat (tl args w) Q R) :
 CallN g (d+1) "_law_draw" args (pre++aQ g w) (OwQ g pre Q) (OwQ g pre R):=by
 refine u22 (jZ hs) ?_;rintro _ _ rfl h1;refine u12 (pN h1) ?_;rintro a rfl h2;refine u12 (jd h2) ?_;rintro m rfl h3;clear hs h1 h2;obtain ⟨pen,host⟩:=w;cases pen with
 | none=>exact h3.elim
 | some p=>
  obtain ⟨b,i⟩:=p;obtain ⟨⟨rfl,h0,h1⟩,hs⟩:=dK h3;exact qq al h0 h1 (KL pre .here) ⟨_,rfl,hs⟩
open Classical in
theorem qG {g:Gx} {D:Nat} {call:ax} (al:Al g) (rs:Rse g D) (cl:Calls g D call) {args:LB} {w:Wd} {Q:LL} {R:LJ} (pre:Own) (hs:sat (ml args w) Q R) :
 CallN g (D+1) "_law_truth" args (pre++aQ g w) (OwQ g pre Q) (OwQ g pre R):=by
 refine u22 (jZ hs) ?_;rintro _ _ rfl h1;refine u12 (aT h1) ?_;rintro n rfl h2;refine u12 (aT h2) ?_;rintro t rfl h3;obtain ⟨ht,hs⟩:=dK h3;exact nt al rs cl ht pre ⟨w,rfl,hs⟩
theorem lZ {g:Gx} {h:HA} {d:Nat} (al:Al g) (k:HK g h) (rs:Rse g (d+5)) (cl:Calls g (d+5) (ak d)) (hd:9≤d) {args:LB} {w:Wd} {Q:LL} {R:LJ} (pre:Own) (hs:sat (fu args w) Q R) :
 CallN g (d+5+1) "_law_command_right" args (pre++aQ g w) (OwQ g pre Q) (OwQ g pre R):=by
 obtain ⟨d,rfl⟩:∃e,d=e+9:=⟨d-9,by exact AT hd⟩
 refine u42 (vt hs) ?_;rintro _ _ _ _ rfl h1;refine u12 (aT h1) ?_;rintro got rfl h2;refine u12 (mx h2) ?_;rintro opts rfl h3;refine u12 (aT h3) ?_;rintro t rfl h4;refine u12 (vr h4) ?_;rintro b rfl h5;obtain ⟨hc,hs⟩:=tE h5;exact kD (D:=d+11) al k rs cl hc.1 hc.2 pre ⟨w,rfl,hs⟩
theorem oJ:("gave" : Str).cps.toList=[103,97,118,101]∧("raised" : Str).cps.toList=[114,97,105,115,101,100]:=⟨by kernel_rfl,by kernel_rfl⟩
theorem qH {g:Gx} {fI:Addr} {d:Nat} {call:ax} (al:Al g) (xr:XR g fI) (cl:Calls g d call) {args:LB} {w:Wd} {Q:LL} {R:LJ} (pre:Own) (hs:sat (mY call args w) Q R) :
 CallN g (d+1) "_law_heard" args (pre++aQ g w) (OwQ g pre Q) (OwQ g pre R):=by
 refine u22 (jZ hs) ?_;rintro h ws rfl h1;clear hs;have h59:=cl.act "string_is" 59 [h,ws] w (fun v w'=>Q (sR v) w') (fun x w'=>Q (bE x) w') pre (by decide +kernel) (by cases hc:call 59 [h,ws] w<;>(rw [hc] at h1;exact h1));refine (nu al.ok xr (al.fns 78 _ _ _ _ _ _ rfl) (gR al "string_is" 59 (by decide +kernel)) h59).mono fun v o hv=>?_;rcases hv with ⟨u,rfl,w',rfl,hq⟩|⟨x,rfl,w',rfl,hq⟩
 ·rw [oJ.1];exact ⟨w',rfl,hq⟩
 ·rw [oJ.2];exact ⟨w',rfl,hq⟩
theorem GF {g:Gx} {h:HA} {fI:Addr} (al:Al g) (k:HK g h) (xr:XR g fI):∀d,Calls g (d+5) (ak d):=by
 intro d
 induction d with
 | zero=>exact ⟨gR al,fun ok hl h1 hx hu hw=>oH al.ok k ok hl h1 (by split<;>rfl) hx hu hw,fun x f args w Q R pre hl hs=>hs.elim⟩
 | succ d cl=>
  have rs:=rse al k xr d;refine ⟨gR al,fun ok hl h1 hx hu hw=>oH (d:=d+1) al.ok k ok hl h1 (by split<;>rfl) hx hu hw,fun x f args w Q R pre hl hs=>?_⟩;have hm:=xU.mem (ji hl);have hm:uk x f (tab f):=hm;change sat (match tab f with|.ir fi=>fi.run (ak d) args w|.irc fi=>fi.runC (ak d) args w|.prim s=>s (ak d) args w|.deep s=>if 9≤d then s args w else .fail|.no=>.fail) Q R at hs;cases ht:tab f with
  | ir fi=>rw [ht] at hs hm;exact tM al rs cl hm args w Q R pre hs
  | irc fi=>rw [ht] at hs hm;exact qx al rs cl hm args w Q R pre hs
  | prim s=>
   rw [ht] at hs hm;rcases hm with ⟨rfl,rfl⟩|⟨rfl,rfl⟩|⟨rfl,rfl⟩
   ·exact ui al pre hs
   ·exact qG al rs cl pre hs
   ·exact qH al xr cl pre hs
  | deep s=>
   rw [ht] at hs hm;obtain ⟨rfl,rfl⟩:=hm;obtain ⟨hd,hs⟩:=dK hs;exact lZ al k rs cl hd pre hs
  | no=>replace hs:=ht▸hs;exact hs.elim
section
variable {g:Gx} {c:Cx} {A:Around} {st:St} {R:LG} {d:Nat}
theorem Ev.pen {env:Env} {elts:LS} {pos:Pos} {Q:LE} (h:Evs g c A (spliced (backTo pos (starEach elts env))) st (fun ps st'=>∃i,ps=[.int i]∧∀a,Q (.ref a) { st' with own:=(a,dy i)::st'.own }) R) :
 Ev g c A (eval (.List elts pos) env) st Q R:=fun frz s X=>by
 refine List_ (tt (h frz s X) (fun vs s' hh=>?_) fun _ _ e=>e);obtain ⟨ps,st',f',a,X',r,i,rfl,q⟩:=hh;obtain ⟨v,_,rfl,⟨t,rfl⟩,rfl⟩:=r;exact MX ⟨.ref s'.heap.objs.size,_,f',a,X'.pushOwn (fg [.int i t] 0) (dy i) rfl (ja rfl rfl),rfl,q _⟩ (by show (1:Nat)≤sizeLine;decide)
theorem RepL.pick {H:Hp} {ps:LB} {vs:LO} (h:RepL H vs ps):∀is:LA,RepL H (is.filterMap (vs[·]?)) (is.filterMap (ps[·]?)):=by
 intro is
 induction is with
 | nil=>rfl
 | cons i is ih=>
  cases e:ps[i]? with
  | none=>
   have e':vs[i]? = none:=QK (by rw [h.length];exact List.getElem?_eq_none_iff.mp e);rw [Qv e,Qv e'];exact ih
  | some p=>
   refine u12 (h.at e) ?_;rintro v e' r;rw [ON e,ON e'];exact ⟨v,_,rfl,r,ih⟩
theorem vb (vs:LO) (a b c:Option Int):∃is:LA,slicePick vs.toArray a b c=(is.filterMap (vs[·]?)).toArray∧(is.filterMap (vs[·]?)).length≤vs.length:=by
 have h:=slicePick_size_le vs.toArray a b c;unfold slicePick at h⊢;simp only [Pg] at h⊢;exact ⟨_,rfl,by simpa using h⟩
theorem Lo {env:Env} (ok:Ok g c A d) {value lower step:Expr} {p pos:Pos} {Q:LE}
 (h:Ev g c A (eval value env) st (fun o st₁=>Ev g c A (eval lower env) st₁ (fun l st₂=>Ev g c A (eval step env) st₂ (fun u st₃=>∃xs i k,o=.lst xs∧l=.int i∧u=.int k∧k≠0∧xs.length≤1000∧∀is:LA,(is.filterMap (xs[·]?)).length≤xs.length→Q (.lst (is.filterMap (xs[·]?))) st₃) R) R) R) :
 Ev g c A (eval (.Subscript value (.Slice (some lower) Option.none (some step) p) pos) env) st Q R:=fun frz s X=>by
 refine RZ (tt (h frz s X) (fun v s₁ hh=>?_) fun _ _ e=>e);obtain ⟨o,st₁,f₁,a₁,X₁,r₁,q₁⟩:=hh;refine wpAny_Slice (tt (q₁ f₁ s₁ X₁) (fun vl s₂ hh=>?_) fun _ _ e=>e.mono a₁);obtain ⟨l,st₂,f₂,a₂,X₂,r₂,q₂⟩:=hh;rw [QW];refine Mh (tt (q₂ f₂ s₂ X₂) (fun vu s₃ hh=>?_) fun _ _ e=>e.mono (Sub.trans a₁ a₂));obtain ⟨u,st₃,f₃,a₃,X₃,r₃,xs,i,k,rfl,rfl,rfl,hk,hx,q⟩:=hh;obtain ⟨ti,rfl⟩:=r₂;obtain ⟨tk,rfl⟩:=r₃;have X₄:=X₃.push { cls:=.type "slice",data:=.fields #[.int i ti,.none,.int k tk] } rfl;have k₄:Sub f₃ ((s₃.heap.objs.size,({ cls:=.type "slice",data:=.fields #[.int i ti,.none,.int k tk] }:Obj))::f₃):=fun p hp=>.tail _ hp;refine u23 ((r₁.mono (Hq.mono (Sub.trans a₂ (Sub.trans a₃ k₄)))).lstAt X₄) ?_;rintro b vs rfl ht rv;refine ri (M:=model g.prog g.w) ht.typeIs RP (QU (lo:=some i) (hi:=Option.none) (st:=some k) ht (Qb ..) (.int i ti) .none (.int k tk) (by simpa using hk) ?_ (by refine Ml▸rv.length▸MQ▸?_;exact Mj hx (by decide))) (.inl rfl);refine u12 (vb vs (some i) Option.none (some k)) ?_;rintro is e hil;refine e▸?_;have X₅:=X₄.push { cls:=.type "list",data:=.seq (is.filterMap (vs[·]?)).toArray } rfl;have rp:=rv.pick is;exact ⟨.lst _,st₃,_,Sub.trans a₁ (Sub.trans a₂ (Sub.trans a₃ (Sub.trans k₄ fun p hp=>.tail _ hp))),X₅,⟨_,is.filterMap (vs[·]?),0,rfl,.inl (.head _),rp.mono (Hq.mono fun p hp=>.tail _ hp)⟩,q is (by refine rp.length▸rv.length▸?_;exact hil)⟩
theorem RepL.ints {H:Hp}:∀{ns:LR} {vs:LO},RepL H vs (ns.map .int)→IntsAre vs ns
 | [],_,h=>by subst h;exact .nil
 | n::ns,_,⟨v,r,e,⟨t,hv⟩,h2⟩=>by subst e hv;exact .cons n t (RepL.ints h2)
theorem qr {ns:LR} {own:Own} {Q:LH} {R:LI} (q:Q (.int ns.sum) own):CallV g d (.builtin "sum") [.lst (ns.map .int)] own Q R:=fun c A st frz s vs ok ho X r=>by
 obtain ⟨v,r',rfl,rv,rfl⟩:=r;refine u23 (rv.lstAt X) ?_;rintro a us rfl hl rl;obtain ⟨xs,hx⟩:=rl.ints.allInts.items;have hn:numsOf us.toArray.toList=ns:=rl.ints.numsOf;rw [hx] at hl hn;rw [nums_intItems] at hn;refine sum_intListG ok.hand hl fun h' tk t' hk=>⟨.int ns.sum,own,frz,Sub.refl _,by cases st;subst ho;exact X.ext hk,⟨t',?_⟩,q⟩
 rw [preSum_eq,OW (by simp),hn]
theorem RepL.flat {H:Hp} {ps:LB} {vs:LO} (h:RepL H vs ps):∀n:Nat,RepL H (MF n vs).flatten (MF n ps).flatten
 | 0=>rfl
 | n+1=>by rw [QY,QY,Rr,Rr];exact h.app (RepL.flat h n)
theorem ub {x:LB} {n:Nat} {Q:PV→Prop} (h1:n≤1000) (hx:x.length≤1000) (q:Q (.lst (MF n x).flatten)):BinW g A (binaryOp .Mult) (.lst x) (.int n) Q:=fun c st frz s v w E hA X r1 r2=>by
 obtain ⟨a,vs,k,rfl,hb,rl⟩:=r1;obtain ⟨t,rfl⟩:=r2;have hs:vs.toArray.size*(n:Int).toNat≤2 ^ 24:=by
  rw [Ml,rl.length,PO];exact Mj (Nat.mul_le_mul hx h1) (by decide)
 have hg:=X.get hb;obtain ⟨⟨m,own,frs,C⟩,nn,lc⟩:=X;refine mul_list C.F C.N hg (by exact AS (by assumption)) (by exact AR (by assumption)) hs fun h' F' N'=>?_;have X':=KV (tk:=s.toks) C nn lc F' N';have k:Sub frz ((s.heap.objs.size,({ cls:=.type "list",data:=.seq (List.foldl (fun x1 x2=>x1++x2) #[] (MF (if vs.toArray.isEmpty=true then 0 else (n:Int).toNat) vs.toArray)) }:Obj))::frz):=fun p hp=>.tail _ hp;refine ⟨.lst _,_,k,X',⟨_,(MF n vs).flatten,0,rfl,.inl ?_,(rl.mono (Hq.mono k)).flat n⟩,q⟩;rw [listMul_foldl_if,PO];exact .head _
theorem nv {l:LB} {own:Own} {Q:LH} {R:LI} (hl:l.length≤1000) (q:Q (.tup l) own):CallV g d (.type "tuple") [.lst l] own Q R:=fun c A st frz s vs ok ho X r=>by
 obtain ⟨v,r',rfl,rv,rfl⟩:=r;refine u23 (rv.lstAt X) ?_;rintro a us rfl ht rl;refine call_tuple_list ht (fun h' hk=>?_) (by refine Ml▸rl.length▸MQ▸?_;exact Mj hl (by decide));have X₁:=(S.ext (tk:=s.toks) X hk).push { cls:=.type "tuple",data:=.seq us.toArray } rfl;exact ⟨.tup l,own,_,(fun p hp=>.tail _ hp),by cases st;subst ho;exact X₁,⟨_,us,0,rfl,.inl (.head _),rl.mono (Hq.mono fun p hp=>.tail _ hp)⟩,q⟩
end
theorem tQ:bootBuiltins "sum" = some (.builtin "sum"):=by decide +kernel
theorem nD:bootBuiltins "tuple" = some (.type "tuple"):=by decide +kernel
section
variable {g:Gx} {c:Cx} {A:Around} {st:St} {R:LG}
theorem CallN.fin {d:Nat} {f:Str} {args:LB} {own:Own} {Q Q':LH} {R R':LI} (h:CallN g d f args own Q R) (k:∀v o,Q v o→Q' v o) (k':∀x o,R x o→R' x o):CallN g d f args own Q' R':=
 h.drop (fun v o q=>⟨[],o,rfl,k v o q⟩) fun x o q=>⟨[],o,rfl,k' x o q⟩
noncomputable def sD:LP:=["_law_rows","range","len","_law_row_right","sum","_law_usage","_law_heard","class_names","tuple","_law_names"]
structure LF (g:Gx) (c:Cx) (A:Around):Prop where
 al:Al g
 ok:Ok g c A 25
 gl:∀x∈sD,(x,NameKind.globalImplicit)∈c.cs.names
 cl:Calls g 25 (ak 20)
theorem LF.env (h:LF g c A) {f:Str} (hf:f∈sD):EnvG c.env f:=h.ok.envG (h.gl f hf)
theorem xm (al:Al g):bH g "sum" (.builtin "sum"):=al.bi _ _ (by simp) tQ
theorem xl (al:Al g):bH g "tuple" (.type "tuple"):=al.bi _ _ (by simp) nD
theorem ou (al:Al g):bH g "range" (.type "range"):=al.bi _ _ (by simp) du
noncomputable def wN:Wd:=⟨none,none⟩
inductive RowP (v:PV):Prop
 | mk (s:Nat) (t:LA) (n2 n3 n4 n5:Int) (h1:v=.tup [.int s,.str t,.int n2,.int n3,.int n4,.int n5]) (h2:s<4) (h3:t.length≤40)
inductive Rows:LB→Prop
 | nil:Rows []
 | cons {s:Int} {t:LA} {n2 n3 n4 n5:Int} {r:LB} (h:(decide (0≤s∧s<4)&&decide (t.length≤40))=true) (k:Rows r):Rows (.tup [.int s,.str t,.int n2,.int n3,.int n4,.int n5]::r)
theorem Rows.mem {l:LB} (h:Rows l):∀v∈l,RowP v:=by
 induction h with
 | nil=>exact fun _ h=>nomatch h
 | @cons s _ _ _ _ _ _ h _ ih=>
  intro v hv;refine Mx (Me.mp hv) (fun hz=>?_) fun hv=>?_
  ·obtain rfl:=hz;have h1:=of_decide_eq_true (aa h);exact ⟨s.toNat,_,_,_,_,_,by rw [Nk h1.1],by exact pb h1.1 h1.2,of_decide_eq_true (ag h)⟩
  ·exact ih v hv
theorem e63:sat (ak 20 63 [] wN) (fun v w'=>w'=wN∧∃l,v=.lst l∧l.length=14∧Rows l) (fun _ _=>False):=by
 refine aY (fi:=zq) rfl rfl ?_
 repeat (first|refine ⟨rfl,_,rfl,rfl,?_⟩|refine ⟨by decide,?_⟩)
 repeat (first|exact .nil|refine .cons rfl ?_)
theorem Ke (d:Nat) (ws:LB) (hl:ws.length<4∨7<ws.length) (h2:ws.length≤1000) (w:Wd) :
 sat (ak (d+1) 59 [.none,.lst ws] w) (fun _ _=>False) (fun x w'=>x=aO (bf [99,108,97,115,115])∧w'=w):=by
 refine aY (fi:=vQ) rfl rfl ?_;have h3:ws.length<2 ^ 62:=MZ h2 (by decide);refine ⟨rfl,h3,cM (fun h1=>be ?_) (fun h1=>⟨h3,ac (fun h2=>?_) (fun h2=>?_)⟩)⟩
 ·exact ⟨(by decide:(15:Nat)+31≤16777216),(by decide:(46:Nat)≤1000),rfl,rfl⟩
 ·exact ⟨(by decide:(15:Nat)+31≤16777216),(by decide:(46:Nat)≤1000),rfl,rfl⟩
 ·exact absurd (AQ (by assumption) (by assumption)) (by assumption)
theorem JY (ws:LB) (hl:ws.length<4∨7<ws.length) (h2:ws.length≤1000) :
 sat (ak 20 78 [.none,.lst ws] wN) (fun v w'=>v=bE (aO (bf [99,108,97,115,115]))∧w'=wN) (fun _ _=>False):=by
 have h:=Ke 18 ws hl h2 wN;show sat (mZ (ak 19 59 [.none,.lst ws] wN)) _ _;cases e:ak 19 59 [.none,.lst ws] wN with
 | ok v w=>rw [e] at h;exact h.elim
 | exc x w=>rw [e] at h;obtain ⟨rfl,rfl⟩:=h;exact ⟨rfl,rfl⟩
 | fail=>rw [e] at h;exact h.elim
noncomputable def bX (s r k z u:LD):aM:=[("script",s),("rows",r),("k",k),("size",z),("due",u)]
noncomputable abbrev FX:LP:=["script","rows","k","size","due"]
structure Sc (ns:LR):Prop where
 len:ns.length≤1000
 bits:∀n∈ns,MG n≤1048576
theorem kW:∀{ns:LR},(∀n∈ns,MG n≤1048576)→MG ns.sum≤1048576+ns.length
 | [],_=>by decide
 | n::ns,h=>by
  have h1:=intBits_add_le (h n (.head _)) (kW fun m hm=>h m (.tail _ hm));rw [OM];refine Mj h1 ?_;rw [Mr];exact Nat.succ_le_succ (Nat.max_le.mpr ⟨NW _ _,MC _⟩)
theorem pM {ns:LR} (is:LA):∃ms:LR,is.filterMap ((ns.map PV.int)[·]?)=ms.map .int∧∀m∈ms,m∈ns:=by
 refine ⟨is.filterMap (ns[·]?),?_,fun m hm=>?_⟩
 ·rw [List.map_filterMap];exact congrArg (fun f=>Ql f is) (funext fun i=>by exact (Ng)▸rfl)
 ·refine u12 (List.mem_filterMap.mp hm) ?_;rintro i _ h;exact MK h
theorem ud:MG ((10:Int) ^ 30+57)≤1000:=by decide +kernel
theorem vH {p1 p2 p3 p4 p5 p6 p7 p8 p9 p10 p11 p12 p13 p14 p15 p16:Pos} {k1 k2 k3:Nat} {Q:LE} (h:LF g c A) {ns:LR} (hs:Sc ns) {r:LB} (hr:r.length=14) {k:Nat} {z u:LD} (q:∀a i,Q (.ref a) ⟨bX (some (.lst (ns.map .int))) (some (.lst r)) (some (.int k)) z u,[(a,dy i)]⟩) :
 Ev g c A (eval (.List [.BinOp (.Call (.Name "sum" p1) [.Subscript (.Name "script" p2) (.Slice (some (.Name "k" p3)) Option.none (some (.Call (.Name "len" p4) [.Name "rows" p5] [] p6)) p7) p8] [] p9) .Mult (.BinOp (.BinOp (.Constant (.int 10) k1 p10) .Pow (.Constant (.int 30) k2 p11) p12) .Add (.Constant (.int 57) k3 p13) p14) p15] p16) c.env) ⟨bX (some (.lst (ns.map .int))) (some (.lst r)) (some (.int k)) z u,[]⟩ Q R:=by
 have ok:=h.ok;refine Ev.pen (Evs.cons (Ev.bin ok (Ev.call h.al.ok ok (h.env (by decide)) (Evs.cons (Lo ok (Ev.var ok .here (Ev.var ok (.there (.there .here)) (Ev.call h.al.ok ok (h.env (by decide)) (Evs.cons (Ev.var ok (.there .here) (Evs.nil (rN h.al (by rw [hr];decide) ?_)))) (sF h.al)))))) ⟨_,xm h.al,KeepOk.bi⟩)));refine ⟨_,_,_,rfl,rfl,rfl,by rw [hr];decide,by rw [Mp];exact hs.len,fun is hil=>?_⟩;refine u12 (pM (ns:=ns) is) ?_;rintro ms e hm;rw [e,Mp,Mp] at hil;refine e▸?_;refine Evs.nil (bY (xm h.al) (qr ?_));refine Ev.bin ok (Ev.bin ok (Ev.int (Ev.int (oY (by decide) (by decide +kernel) (Ev.int (lW (lU ?_ (Evs.nil ⟨_,rfl,fun a=>q a _⟩))))))));have hl:=Mj hil hs.len;exact IntMulOk.of_le (kW fun m hmm=>hs.bits m (hm m hmm)) ud (by exact AP (by assumption))
theorem qa {p1 p2 p3 p4 p5 p6 p7 p8 p9 p10 p11 p12 p13 p14 p15 p16 p17 p18 p19 p20 p21 p22:Pos} {k1 k2 k3:Nat} {Q:LE} (h:LF g c A) {ns:LR} (hs:Sc ns) {r:LB} (hr:r.length=14) (hb:Rows r) {k:Nat} (hk:k<14) {z u:LD} (q:∀o,Q (.bool true) ⟨bX (some (.lst (ns.map .int))) (some (.lst r)) (some (.int k)) z u,o⟩) :
 Ev g c A (eval (.Call (.Name "_law_row_right" p1) [.Subscript (.Name "rows" p2) (.Name "k" p3) p4,.Name "k" p5,.List [.BinOp (.Call (.Name "sum" p6) [.Subscript (.Name "script" p7) (.Slice (some (.Name "k" p8)) Option.none (some (.Call (.Name "len" p9) [.Name "rows" p10] [] p11)) p12) p13] [] p14) .Mult (.BinOp (.BinOp (.Constant (.int 10) k1 p15) .Pow (.Constant (.int 30) k2 p16) p17) .Add (.Constant (.int 57) k3 p18) p19) p20] p21] [] p22) c.env) ⟨bX (some (.lst (ns.map .int))) (some (.lst r)) (some (.int k)) z u,[]⟩ Q R:=by
 have ok:=h.ok;have hk':k<r.length:=by rw [hr];exact hk
 have hv:r[((k:Nat):Int).toNat]? = some r[k]:=by rw [PO];exact Mg hk'
 obtain ⟨s,t,n2,n3,n4,n5,e,hs4,ht⟩:=hb.mem _ (NR hk');refine Ev.call h.al.ok ok (h.env (by decide)) (Evs.cons (Ev.sub ok (Ev.var ok (.there .here) (Ev.var ok (.there (.there .here)) (vN (by exact Na _) (by exact AN (by assumption)) hv (Evs.cons (Ev.var ok (.there (.there .here)) (Evs.cons (vH h hs hr fun a i=>Evs.nil ?_))))))))) (h.cl.named _ 80 (by decide +kernel));refine e▸?_;have:=h.cl.act "_law_row_right" 80 [.tup [.int s,.str t,.int n2,.int n3,.int n4,.int n5],.int k,.ref a] ⟨some (a,i),none⟩ (TrueQ a) jf [] (by decide +kernel) (e80 12 (by decide) s hs4 t ht n2 n3 n4 n5 k a ⟨some (a,i),none⟩ ⟨rfl,i,rfl⟩);exact this.fin (fun v o hh=>by obtain ⟨w',eo,hq⟩:=hh;refine hq.h▸?_;exact q o) fun x o hh=>by obtain ⟨w',eo,hr⟩:=hh;exact hr.elim
theorem Less.all (o:Own):Less o []:=by
 have:=Less.drop o []
 rwa [MM] at this
theorem qc {p1 p2 p3 p4 p5 p6 p7 p8 p9 p10 p11 p12 p13 p14 p15 p16 p17 p18 p19 p20 p21 p22 p23 p24 p25 p26:Pos} {k1 k2 k3 k4:Nat} {Q:LK} (h:LF g c A) {ns:LR} (hs:Sc ns) {r:LB} (hr:r.length=14) (hb:Rows r) {z u:LD} (q:∀k,Q .next ⟨bX (some (.lst (ns.map .int))) (some (.lst r)) k z u,[]⟩) :
 ∀(n j:Nat) (k:LD),j+n=14→wq g c A "k" [.If (.UnaryOp .Not (.Call (.Name "_law_row_right" p1) [.Subscript (.Name "rows" p2) (.Name "k" p3) p4,.Name "k" p5,.List [.BinOp (.Call (.Name "sum" p6) [.Subscript (.Name "script" p7) (.Slice (some (.Name "k" p8)) Option.none (some (.Call (.Name "len" p9) [.Name "rows" p10] [] p11)) p12) p13] [] p14) .Mult (.BinOp (.BinOp (.Constant (.int 10) k1 p15) .Pow (.Constant (.int 30) k2 p16) p17) .Add (.Constant (.int 57) k3 p18) p19) p20] p21] [] p22) p23) [.Return (some (.Constant (.bool false) k4 p24)) p25] [] p26] Q R (bh j n) ⟨bX (some (.lst (ns.map .int))) (some (.lst r)) k z u,[]⟩:=by
 intro n
 induction n with
 | zero=>exact fun _ k _=>q k
 | succ n ih=>
  intro j k hj;refine PutQ.mk (vs':=bX _ _ (some (.int j)) z u) (.there (.there .here)) (Ex.cons (Ex.ite (Tst.not (Tst.val (qa h hs hr hb (k:=j) (by exact AM hj) fun o=>⟨true,rfl,KT (Ex.less (Less.all o) (Ex.nil ?_))⟩)))));exact Ex.nil (ih (j+1) _ (by exact AL hj))
theorem sB {p1 p2 p3 p4 p5 p6 p7 p8 p9 p10 p11 p12 p13 p14 p15 p16 p17 p18 p19 p20 p21 p22 p23 p24 p25 p26 p27 p28 p29 p30 p31 p32 p33:Pos} {k1 k2 k3 k4:Nat} {Q:LK} (h:LF g c A) {ns:LR} (hs:Sc ns) {r:LB} (hr:r.length=14) (hb:Rows r) {k z u:LD} (q:∀k,Q .next ⟨bX (some (.lst (ns.map .int))) (some (.lst r)) k z u,[]⟩) :
 Ex g c A (exec (.For (.Name "k" p1) (.Call (.Name "range" p2) [.Call (.Name "len" p3) [.Name "rows" p4] [] p5] [] p6) [.If (.UnaryOp .Not (.Call (.Name "_law_row_right" p7) [.Subscript (.Name "rows" p8) (.Name "k" p9) p10,.Name "k" p11,.List [.BinOp (.Call (.Name "sum" p12) [.Subscript (.Name "script" p13) (.Slice (some (.Name "k" p14)) Option.none (some (.Call (.Name "len" p15) [.Name "rows" p16] [] p17)) p18) p19] [] p20) .Mult (.BinOp (.BinOp (.Constant (.int 10) k1 p21) .Pow (.Constant (.int 30) k2 p22) p23) .Add (.Constant (.int 57) k3 p24) p25) p26] p27] [] p28) p29) [.Return (some (.Constant (.bool false) k4 p30)) p31] [] p32] [] p33) c.env) ⟨bX (some (.lst (ns.map .int))) (some (.lst r)) k z u,[]⟩ Q R:=by
 have ok:=h.ok;refine Ld ok (Ev.call h.al.ok ok (h.env (by decide)) (Evs.cons (Ev.call h.al.ok ok (h.env (by decide)) (Evs.cons (Ev.var ok (.there .here) (Evs.nil (rN h.al (by rw [hr];decide) (Evs.nil ⟨_,ou h.al,KeepOk.ty,fx ?_⟩))))) (sF h.al))) ⟨_,ou h.al,KeepOk.ty⟩);refine hr▸?_;exact ⟨_,hU ok.hand (by decide) (by decide) (by decide) (by decide),qc h hs hr hb q 14 0 k rfl⟩
theorem pm:("class" : Str).cps.toList=[99,108,97,115,115]:=by kernel_rfl
theorem iq {α:Type} (n:Nat) (l:List α):(MF n l).flatten.length=n*l.length:=by simp
theorem tf:dq .NotEq (bE (aO (bf [99,108,97,115,115]))) (bE (aO (bf [99,108,97,115,115])))=some false:=by kernel_rfl
theorem pZ {p1 p2 p3 p4 p5 p6 p7 p8 p9 p10 p11 p12 p13 p14 p15 p16 p17 p18 p19 p20 p21:Pos} {k1 k2 k3 k4 k5 k6:Nat} {Q:LK} (h:LF g c A) {s r k u:LD} {n:Nat} (hn:n<2∨5<n) (h1:n≤100) (q:∀u,Q .next ⟨bX s r k (some (.int n)) u,[]⟩) :
 Ex g c A (execs [.Assign [.Name "due" p1] (.Call (.Name "_law_usage" p2) [.Constant (.str "class") k1 p3] [] p4) p5,.If (.Compare (.Call (.Name "_law_heard" p6) [.Constant .none k2 p7,.BinOp (.List [.Constant (.str "string") k3 p8,.Constant (.str "is") k4 p9] p10) .Add (.BinOp (.List [.Constant (.str "list") k5 p11] p12) .Mult (.Name "size" p13) p14) p15] [] p16) [.NotEq] [.Name "due" p17] p18) [.Return (some (.Constant (.bool false) k6 p19)) p20] [] p21] c.env) ⟨bX s r k (some (.int n)) u,[]⟩ Q R:=by
 have ok:=h.ok;have c1:=h.cl.act "_law_usage" 76 [.str [99,108,97,115,115]] wN (fun v w'=>v=bE (aO (bf [99,108,97,115,115]))∧w'=wN) (fun _ _=>False) [] (by decide +kernel) (by rw [e76 19 _ (by decide)];exact ⟨rfl,rfl⟩);refine Ex.cons (Ex.assign ok (Ev.call h.al.ok ok (h.env (by decide)) (Evs.cons (Ev.str (Evs.nil ?_))) (h.cl.named _ 76 (by decide +kernel))) (by rfl));refine pm▸?_;refine c1.fin (fun v o hh=>?_) fun _ _ hh=>by obtain ⟨_,_,hr⟩:=hh;exact hr.elim
 obtain ⟨w',eo,hv,hw⟩:=hh;subst hw eo hv;refine PutQ.mk (vs':=bX s r k (some (.int n)) (some _)) (.there (.there (.there (.there .here)))) (Ex.cons (Ex.ite (Tst.cmp ok (Ev.call h.al.ok ok (h.env (by decide)) (Evs.cons (Ev.none (Evs.cons (Ev.bin ok (Ev.list (Evs.cons (Ev.str (Evs.cons (Ev.str (Evs.nil ⟨by decide,Ev.bin ok (Ev.list (Evs.cons (Ev.str (Evs.nil ⟨by decide,Ev.var ok (.there (.there (.there .here))) (ub (by exact AK h1) (by decide) (lV ?_ (Evs.nil ?_)))⟩))))⟩)))))))))) (h.cl.named _ 78 (by decide +kernel))))))
 ·rw [iq];show 2+n*1≤_;exact AJ h1
 ·have c2:=h.cl.act "_law_heard" 78 [.none,.lst ([.str ("string" : Str).cps.toList,.str ("is" : Str).cps.toList]++(MF n [PV.str ("list" : Str).cps.toList]).flatten)] wN (fun v w'=>v=bE (aO (bf [99,108,97,115,115]))∧w'=wN) (fun _ _=>False) [] (by decide +kernel) (JY _ (by rw [Mf,iq];show 2+n*1<4∨7<2+n*1;exact AI hn) (by rw [Mf,iq];show 2+n*1≤_;exact AH h1));refine c2.fin (fun v o hh=>?_) fun _ _ hh=>by obtain ⟨_,_,hr⟩:=hh;exact hr.elim
  obtain ⟨w',eo,hv,hw⟩:=hh;subst hw eo hv;exact Ev.var ok (.there (.there (.there (.there .here)))) (dT (r:=false) tf (KT (Ex.nil (Ex.nil (q _)))))
theorem qb {p1 p2 p3 p4 p5 p6 p7 p8 p9 p10 p11 p12 p13 p14 p15 p16 p17 p18 p19 p20 p21:Pos} {k1 k2 k3 k4 k5 k6:Nat} {Q:LK} (h:LF g c A) {s r k:LD} (q:∀z u,Q .next ⟨bX s r k z u,[]⟩):∀(l:LA) (z u:LD),(∀n∈l,(n<2∨5<n)∧n≤100)→wq g c A "size" [.Assign [.Name "due" p1] (.Call (.Name "_law_usage" p2) [.Constant (.str "class") k1 p3] [] p4) p5,.If (.Compare (.Call (.Name "_law_heard" p6) [.Constant .none k2 p7,.BinOp (.List [.Constant (.str "string") k3 p8,.Constant (.str "is") k4 p9] p10) .Add (.BinOp (.List [.Constant (.str "list") k5 p11] p12) .Mult (.Name "size" p13) p14) p15] [] p16) [.NotEq] [.Name "due" p17] p18) [.Return (some (.Constant (.bool false) k6 p19)) p20] [] p21] Q R (l.map fun n:Nat=>PV.int n) ⟨bX s r k z u,[]⟩:=by
 intro l
 induction l with
 | nil=>exact fun z u _=>q z u
 | cons n l ih=>exact fun z u hl=>PutQ.mk (vs':=bX s r k (some (.int n)) u) (.there (.there (.there .here))) (pZ h (hl n (.head _)).1 (hl n (.head _)).2 fun u=>ih _ u fun m hm=>hl m (.tail _ hm))
theorem sA {p1 p2 p3 p4 p5 p6 p7 p8 p9 p10 p11 p12 p13 p14 p15 p16 p17 p18 p19 p20 p21 p22 p23 p24 p25 p26 p27:Pos} {k1 k2 k3 k4 k5 k6 k7 k8 k9:Nat} {Q:LK} (h:LF g c A) {s r k z u:LD} (q:∀z u,Q .next ⟨bX s r k z u,[]⟩) :
 Ex g c A (exec (.For (.Name "size" p1) (.List [.Constant (.int 0) k1 p2,.Constant (.int 1) k2 p3,.Constant (.int 6) k3 p4] p5) [.Assign [.Name "due" p6] (.Call (.Name "_law_usage" p7) [.Constant (.str "class") k4 p8] [] p9) p10,.If (.Compare (.Call (.Name "_law_heard" p11) [.Constant .none k5 p12,.BinOp (.List [.Constant (.str "string") k6 p13,.Constant (.str "is") k7 p14] p15) .Add (.BinOp (.List [.Constant (.str "list") k8 p16] p17) .Mult (.Name "size" p18) p19) p20] [] p21) [.NotEq] [.Name "due" p22] p23) [.Return (some (.Constant (.bool false) k9 p24)) p25] [] p26] [] p27) c.env) ⟨bX s r k z u,[]⟩ Q R:=by
 have ok:=h.ok;refine Ld ok (Ev.list (Evs.cons (Ev.int (Evs.cons (Ev.int (Evs.cons (Ev.int (Evs.nil ⟨by decide,_,hV ok.hand,?_⟩))))))));exact qb h q [0,1,6] z u (by decide)
theorem so:dq .Eq (.tup (nms.map .str)) (.tup (nms.map .str))=some true:=by kernel_rfl
theorem vI {p1 p2 p3 p4 p5 p6 p7 p8:Pos} {Q:LK} (h:LF g c A) {vs:aM} (q:Q (.ret (.bool true)) ⟨vs,[]⟩):Ex g c A (exec (.Return (some (.Compare (.Call (.Name "class_names" p1) [] [] p2) [.Eq] [.Call (.Name "tuple" p3) [.Call (.Name "_law_names" p4) [] [] p5] [] p6] p7)) p8) c.env) ⟨vs,[]⟩ Q R:=by
 have ok:=h.ok;have c1:=h.cl.act "class_names" 37 [] wN (fun v w'=>v=.tup (nms.map .str)∧w'=wN) (fun _ _=>False) [] (by decide +kernel) (by rw [e37 19];exact ⟨rfl,rfl⟩);have c2:=h.cl.act "_law_names" 61 [] wN (fun v w'=>v=.lst (nms.map .str)∧w'=wN) (fun _ _=>False) [] (by decide +kernel) (by rw [e61 19];exact ⟨rfl,rfl⟩);refine Ex.ret (Ev.cmp ok (KM h.al.ok ok (h.env (by decide)) (c1.fin (fun v o hh=>?_) fun _ _ hh=>by obtain ⟨_,_,hr⟩:=hh;exact hr.elim)));obtain ⟨w',eo,hv,hw⟩:=hh;subst hw eo hv;refine Ev.call h.al.ok ok (h.env (by decide)) (Evs.cons (KM h.al.ok ok (h.env (by decide)) (c2.fin (fun v o hh=>?_) fun _ _ hh=>by obtain ⟨_,_,hr⟩:=hh;exact hr.elim))) ⟨_,xl h.al,KeepOk.ty⟩;obtain ⟨w',eo,hv,hw⟩:=hh;subst hw eo hv;exact Evs.nil ⟨_,xl h.al,KeepOk.ty,nv (by decide) (dT so q)⟩
theorem yP {p1 p2 p3 p4:Pos} {Q:LK} (h:LF g c A) {s r k z u:LD} (q:∀l,l.length=14→Rows l→Q .next ⟨bX s (some (.lst l)) k z u,[]⟩):Ex g c A (exec (.Assign [.Name "rows" p1] (.Call (.Name "_law_rows" p2) [] [] p3) p4) c.env) ⟨bX s r k z u,[]⟩ Q R:=by
 have ok:=h.ok;have c1:=h.cl.act "_law_rows" 63 [] wN _ (fun _ _=>False) [] (by decide +kernel) e63;refine Ex.assign ok (KM h.al.ok ok (h.env (by decide)) (c1.fin (fun v o hh=>?_) fun _ _ hh=>by obtain ⟨_,_,hr⟩:=hh;exact hr.elim)) (by rfl);obtain ⟨w',eo,hw,l,hv,h1,h2⟩:=hh;subst hw eo hv;exact PutQ.mk (vs':=bX s (some _) k z u) (.there .here) (q l h1 h2)
theorem La {H:Hp} {vs:LO} {ns:LR} (h:IntsAre vs ns):RepL H vs (ns.map .int):=by
 induction h with
 | nil=>exact rfl
 | cons n t _ ih=>exact ⟨_,_,rfl,⟨t,rfl⟩,ih⟩
theorem uG {α β:Type} (f:α→β) (l:List α) (a b:Option Int):slc (l.map f) a b=(slc l a b).map f:=by
 unfold slc;rw [Mp,Qu,List.map_drop]
theorem uF {α:Type} {l:List α} {a b:Option Int} {x:α} (h:x∈slc l a b):x∈l:=List.mem_of_mem_drop (Pk h)
theorem sC (h:LF g c A) (hsc:c.cs=(aj 81).2) {s:Shared} {m:LN} {a:Addr} {vs:LO} {ns:LR} (C:Core g c ⟨bX none none none none none,[]⟩ [] s.heap m [] []) (hm:m "script" = some (.ref a))
 (hl:g.base.IsList a vs.toArray) (hi:IntsAre vs ns) (hs:Sc ns) (hq:s.os=g.os∧s.gens=#[]):wpAny (model g.prog g.w) A (execs (aj 81).1 c.env) (GotF g c [] (iL fun v _=>v=.bool true)) (Rz g c (fun _ _=>False) []) s:=by
 have ok:=h.ok;have hloc:∀x∈FX,(x,NameKind.local)∈c.cs.names:=by refine hsc▸?_;decide +kernel
 have X:S g c ⟨bX none none none none none,[]⟩ [] s:=⟨⟨m,[],[],C⟩,by show FX.Nodup;decide,hloc,hq⟩
 show wpAny _ _ (execs (_::_) c.env) _ _ s;refine Pi (tt (Q:=GotF g c [] fun f st=>f=.next∧∃ms,Sc ms∧st=⟨bX (some (.lst (ms.map .int))) none none none none,[]⟩) (E:=Rz g c (fun _ _=>False) []) ?_ (fun f s' hh=>?_) fun _ _ e=>e)
 ·refine OV (wpAny_Subscript_list_slice (Pm (Nz ok.kind (ok.isLocal (hloc _ (.head _))) C.F.ns hm ?_) (ok.noDbg (hloc _ (.head _))))) (by rfl);rw [QW,evalPart_some];refine Mh (OO ⟨a,vs.toArray,none,some 63,rfl,(by obtain ⟨o,h1,h2⟩:=hl;exact ⟨o,C.F.keep _ _ h1,h2⟩),by refine Ml▸hi.length▸MQ▸?_;exact Mj hs.len (by decide),.none,.int _ _,?_⟩);have rv:=La (H:=Hq g ((s.heap.objs.size+1,({ cls:=.type "list",data:=.seq (slicePick vs.toArray none (some 63) none) }:Obj))::(s.heap.objs.size,({ cls:=.type "slice",data:=.fields #[.none,.int 63 s.toks,.none] }:Obj))::[])) hi;have X₂:=((X.toks (s.toks+1)).push { cls:=.type "slice",data:=.fields #[.none,.int 63 s.toks,.none] } rfl).push { cls:=.type "list",data:=.seq (slicePick vs.toArray none (some 63) none) } rfl;rw [show (({ s with toks:=s.toks+1 }:Shared).heap.push { cls:=.type "slice",data:=.fields #[.none,.int 63 s.toks,.none] }).objs.size=s.heap.objs.size+1 from Heap.size_push ..] at X₂;refine dH ok X₂ (vs':=bX (some (.lst ((slc ns none (some 63)).map .int))) none none none none) .here (pv:=.lst ((slc ns none (some 63)).map .int)) ⟨_,slc vs none (some 63),0,rfl,.inl ?_,?_⟩ fun s' X'=>⟨.next,_,_,(fun _ h=>nomatch h),X',trivial,rfl,_,⟨Mj (cQ ns _ _) hs.len,fun n hn=>hs.bits n (uF hn)⟩,rfl⟩
  ·rw [SH];exact .head _
  ·rw [←uG];exact rv.slc
 ·obtain ⟨af,st',f',a',X',r,rfl,ms,hms,rfl⟩:=hh;have rest:Ex g c A (execs (aj 81).1.tail c.env) ⟨bX (some (.lst (ms.map .int))) none none none none,[]⟩ (iL fun v _=>v=.bool true) (fun _ _=>False):=Ex.cons (yP h fun l h1 h2=>Ex.cons (sB h hms h1 h2 fun k=>Ex.cons (sA h fun z u=>Ex.cons (rest:=[]) (vI h rfl))));cases f with
  | next=>
   refine tt (rest f' s' X') (fun _ _ hh=>?_) fun _ _ e=>e.mono a';obtain ⟨af,st'',f'',a'',X'',r'',q⟩:=hh;exact ⟨af,st'',f'',Sub.trans a' a'',X'',r'',q⟩
  | _=>exact r.elim
end
theorem qJ {x:Str}:∀{ps:LP} {vs:LO},vs.length=ps.length→x∈ps→((ps.zip vs).lookup x).isSome=true:=by
 intro ps
 induction ps with
 | nil=>intro _ _ h;cases h
 | cons p ps ih=>
  intro vs hl h;cases vs with|nil=>injection hl|cons v vs=>?_
  rw [OD,Mn];by_cases e:(x==p)=true
  ·rw [e];rfl
  ·rw [RJ] at e;rw [e];refine ih (Nt hl) ?_;refine Mx (Me.mp h) (fun hz=>?_) fun h=>?_
   ·obtain rfl:=hz;rw [beq_self_eq_true] at e;injection e
   ·exact h
theorem xE:∀{ps:LP} {vs:LO},vs.length=ps.length→ps.Nodup→ps.filterMap (fun n=>((ps.zip vs).lookup n).map (n,·))=ps.zip vs:=by
 have key:∀{ps:LP} {vs:LO} {l:List (Str×Value)},vs.length=ps.length→(∀q∈ps.zip vs,l.lookup q.1=some q.2)→ps.filterMap (fun n=>(l.lookup n).map (n,·))=ps.zip vs:=by
  intro ps
  induction ps with
  | nil=>intro vs l _ _;rfl
  | cons p ps ih=>
   intro vs l hl h;cases vs with
   | nil=>injection hl
   | cons v vs=>
    rw [OD] at h⊢;rw [ON (b:=(p,v)) (by refine (h (p,v) (.head _))▸?_;rfl),ih (Nt hl) fun q hq=>h q (.tail _ hq)]
 intro ps vs hl nd;refine key hl fun q hq=>aA (by refine (RF (OA hl.symm)).symm▸?_;exact nd) hq
theorem Aa {α:Type} {v:Value} {k:Option (Array Value)→Sem α} {x:Sem α} (h:v=.none) (e:k none=x):(seqItems? v >>= k)=x:=by subst h;exact e
theorem sS {α β σ:Type} {l:List β} {s:σ} {f:β→σ→Sem (ForInStep σ)} {k:σ→Sem α} {x:Sem α} (h:l=[]) (e:k s=x):(forIn l s f >>= k)=x:=by subst h;exact e
theorem qL {α β:Type} {l:List α} {m:List β} {n:Nat} (h:m=[]):l.zip (m.drop n)=[]:=by rw [h,Sb,List.zip_nil_right]
theorem yK {α:Type} {l:List α} (h:l=[]):¬(!l.isEmpty)=true:=by refine h▸?_;exact MY
theorem nF {fd:FuncData} {as:List Arg} {ds:LS} (hp:fd.params=⟨[],as,none,[],[],none,ds⟩) (hd:fd.defaults=.none) {vs:LO} (hl:vs.length=(as.map (·.arg)).length) (nd:(as.map (·.arg)).Nodup) :
 bindArgs fd ⟨vs,[]⟩=pure ((as.map (·.arg)).zip vs):=by
 have h2:∀{l},l=as.map (·.arg)→l.filter (fun n=>(((as.map (·.arg)).zip vs).lookup n).isNone)=[]:=by
  rintro _ rfl;rw [List.filter_eq_nil_iff];intro x hx;rw [Nl];intro h;have:=qJ hl hx;replace this:=h▸this;injection this
 have e1:fd.params.posonlyargs.map (·.arg)++fd.params.args.map (·.arg)=as.map (·.arg):=by rw [hp];rfl
 refine Aa hd (cU ?_ (cU ?_ (sS (qL rfl) (sS (by refine hp▸?_;rfl) (cU (fun h=>MY h) ?_)))))
 ·refine e1▸(decide_eq_false (p:=Nf vs>_) (by rw [hl];exact NZ _))▸?_;exact MY
 ·refine e1▸?_;refine yK (h2 ?_);show List.take (_-(List.drop _ []).length) _=_;refine Sb.symm▸?_;exact RD
 ·refine e1▸hp▸?_;exact congrArg pure ((MM (as.map (·.arg))).symm▸xE hl nd)
noncomputable def ya (sc:Scope):Bool:=!sc.isCoroutine&&!sc.isGenerator&&sc.kind==.function&&decide (sc.names.map (·.1)).Nodup&&sc.names.all fun x=>x.1 != ("__debug__" : Str)
noncomputable def tA (K:Frag) (v:Value) (q:Str):Bool:=match v with
 | .ref c=>(match K.lookup c with
  | some o=>(match o.data with
   | .fields vs=>(match (vs[1]?:Option Value) with
    | some (.str x _)=>x==q
    | _=>false)
   | _=>false)
  | none=>false)
 | _=>false
noncomputable def fnB (K:Frag) (fd:FuncData):Bool:=fd.closure.isEmpty&&fd.globals==mainGlobals&&fd.builtins==builtinsNs&&tA K fd.code fd.qualname&&ya fd.scope
structure FnD where
 body:LT
 scope:Scope
 params:Arguments
 dflt:Value
 ok:Bool
noncomputable def fnK (K:Frag) (a:Addr):Option FnD:=match K.lookup a with
 | some o=>(match o.data with
  | .func fd=>(match fd.body with
   | .stmts b=>some ⟨b,fd.scope,fd.params,fd.defaults,fnB K fd⟩
   | _=>none)
  | _=>none)
 | none=>none
theorem vW {K:Frag} {h:Heap} (X:K.In h) {v:Value} {q:Str} (e:tA K v q=true):h.CodeRec v q:=by
 cases v with
 | ref c=>
  unfold tA at e;dsimp only at e;cases ho:K.lookup c with
  | none=>replace e:=ho▸e;injection e
  | some o=>
   replace e:=ho▸e;dsimp only at e;cases hd:o.data with
   | fields vs=>
    rw [hd] at e;dsimp only at e;cases hv:(vs[1]?:Option Value) with
    | none=>rw [hv] at e;injection e
    | some w=>
     rw [hv] at e;cases w with
     | str x t=>
      obtain rfl:=eq_of_beq e;exact ⟨c,o,vs,t,rfl,X _ _ ho,hd,hv⟩
     | _=>injection e
   | _=>rw [hd] at e;injection e
 | _=>injection e
theorem sU {g:Gx} (X:g.K.In g.base) {a:Addr} {b:LT} {sc:Scope} {pa:Arguments} {dv:Value} (e:fnK g.K a=some ⟨b,sc,pa,dv,true⟩) (ps:LP) (ds:LB)
 (hb:∀(o:Obj) (fd:FuncData),g.K.lookup a=some o→o.data=.func fd→fd.params=pa→fd.defaults=dv→∀s:Shared,(∀b o,g.base.get? b=some o→s.heap.get? b=some o)→∀vs:LO,vs.length+ds.length=ps.length→∃ws,(∀H,RepL H ws ds)∧BindsTo s fd ⟨vs,[]⟩ (ps.zip (vs++ws))):FnA g a ps ds b sc:=by
 unfold fnK at e;cases ho:g.K.lookup a with
 | none=>rw [ho] at e;injection e
 | some o=>
  rw [ho] at e;dsimp only at e;cases hd:o.data with
  | func fd=>
   rw [hd] at e;dsimp only at e;cases hbody:fd.body with
   | stmts b'=>
    rw [hbody] at e;have e:=Mm e;have hf:fnB g.K fd=true:=congrArg FnD.ok e;obtain rfl:b'=b:=congrArg FnD.body e;obtain rfl:fd.scope=sc:=congrArg FnD.scope e;have hs:=ag hf;have h3:=aa (aa hf);refine ⟨⟨o,fd,X _ _ ho,hd,hbody,rfl,OR.mp (aa (aa h3)),eq_of_beq (ag (aa h3)),eq_of_beq (ag h3),vW X (ag (aa hf)),hb o fd ho hd (congrArg FnD.params e) (congrArg FnD.dflt e)⟩,
     NL _▸aa (aa (aa (aa hs))),NL _▸ag (aa (aa (aa hs))),eq_of_beq (ag (aa (aa hs))),of_decide_eq_true (ag (aa hs)),fun x hx=>?_⟩
    refine u12 (Ma.mp hx) ?_;rintro p hp rfl;exact beq_eq_false_iff_ne.mpr (bne_iff_ne.mp (Mo.mp (ag hs) p hp))
   | _=>rw [hbody] at e;injection e
  | _=>rw [hd] at e;injection e
theorem js {g:Gx} (X:g.K.In g.base) {a:Addr} {b:LT} {sc:Scope} {as:List Arg} {ds:LS} (e:fnK g.K a=some ⟨b,sc,⟨[],as,none,[],[],none,ds⟩,.none,true⟩) (nd:(as.map (·.arg)).Nodup):FnA g a (as.map (·.arg)) [] b sc:=
 sU X e _ _ fun _ fd _ _ h1 h2 s _ vs hl=>(v12 [] (fun _=>rfl) (by rw [MM];exact .of_eq (nF h1 h2 hl nd)))
noncomputable def mgK (K:Frag) (x:Str):Option Value:=match K.lookup mainGlobals with
 | some o=>(match o.data with
  | .dict es _=>nsFind es x
  | _=>none)
 | none=>none
theorem lz {g:Gx} (hg:GOk g) {x:Str} {v:Option Value} (h:(g.K.lookup mainGlobals).isSome=true) (e:mgK g.K x=v):g.mg x=v:=by
 refine u34 hg.T.g ?_;rintro o es ep h1 h2 _ h3;obtain ⟨o',ho⟩:=NY.mp h;obtain rfl:o'=o:=Mm ((hg.X _ _ ho).symm.trans h1);unfold mgK at e;rw [ho] at e;simp only [h2] at e;rw [←h3,e]
noncomputable def mv (a:Arguments):Bool:=a.posonlyargs.isEmpty&&a.vararg.isNone&&a.kwonlyargs.isEmpty&&a.kw_defaults.isEmpty&&a.kwarg.isNone&&decide (a.args.map (·.arg)).Nodup
noncomputable def Fq (K:Frag) (i:Nat):Option FnD:=match Mk.main.body[i]? with
 | some (.FunctionDef name args body [] none [] scope none bind pos)=>(match mgK K name with
  | some (.ref a)=>fnK K a
  | _=>none)
 | _=>none
noncomputable def Fp (i:Nat):Option FnD:=match Mk.main.body[i]? with
 | some (.FunctionDef name args body [] none [] scope none bind pos)=>some ⟨body,scope,args,.none,true⟩
 | _=>none
noncomputable def oV:LA:=(NO 82).filter (· != 8)
noncomputable def rT (i:Nat):Bool:=match Mk.main.body[i]? with
 | some (.FunctionDef _ args _ _ _ _ _ _ _ _)=>mv args
 | _=>true
theorem pK:oV.all rT=true:=by kernel_rfl
theorem lj {a:Arguments} (h:mv a=true):∃as ds,a=⟨[],as,none,[],[],none,ds⟩∧(as.map (·.arg)).Nodup:=by
 obtain ⟨p,as,v,ko,kd,kw,ds⟩:=a;have h1:=aa h;have h2:=aa h1;have h3:=aa h2;have h4:=aa h3;obtain rfl:p=[]:=OR.mp (aa h4);obtain rfl:v=none:=Nl.mp (ag h4);obtain rfl:ko=[]:=OR.mp (ag h3);obtain rfl:kd=[]:=OR.mp (ag h2);obtain rfl:kw=none:=Nl.mp (ag h1);exact (v22 _ _ rfl (of_decide_eq_true (ag h)))
noncomputable def jb (K:Frag) (a:Addr) (S:Setting) (vs:LO):Option (List (Str×Value)):=match K.lookup a with
 | some o=>(match o.data with
  | .func fd=>peek K S (bindArgs fd ⟨vs,[]⟩)
  | _=>none)
 | none=>none
noncomputable def dfl (K:Frag) (a:Addr):LO:=match K.lookup a with
 | some o=>(match o.data with
  | .func fd=>(match fd.defaults with
   | .ref T=>(match K.lookup T with
    | some ⟨_,_,.seq is _,_⟩=>is.toList
    | _=>[])
   | _=>[])
  | _=>[])
 | none=>[]
noncomputable def pE:Value→LD
 | .none=>some .none
 | .int i _=>some (.int i)
 | _=>none
theorem uM {H:Hp}:∀{vs:LO} {ps:LB},vs.map pE=ps.map some→RepL H vs ps:=by
 intro vs
 induction vs with
 | nil=>intro ps h;cases ps with|nil=>rfl|cons _ _=>injection h
 | cons v vs ih=>
  intro ps h;cases ps with|nil=>injection h|cons p ps=>?_
  have h1:=(PY h).1;refine ⟨v,vs,rfl,?_,ih (PY h).2⟩;cases v<;>first|(injection h1;done)|(injection h1 with h1;subst h1;exact rfl)|(injection h1 with h1;subst h1;exact ⟨_,rfl⟩)
theorem ft {g:Gx} (X:g.K.In g.base) {a:Addr} {b:LT} {sc:Scope} {ps:LP} {ds:LB} {n k:Nat} (e:(fnK g.K a).map (fun f=>(f.body,f.scope,f.ok))=some (b,sc,true)) (hn:n+ds.length=ps.length)
 (hb:∀S vs,vs.length=n→jb g.K a S vs=some (ps.zip (vs++(dfl g.K a).drop k))) (hp:((dfl g.K a).drop k).map pE=ds.map some):FnA g a ps ds b sc:=by
 refine u12 (Ms.mp e) ?_;rintro ⟨b',sc',pa,dv,ok⟩ e1 e2;cases e2;refine sU X e1 _ _ fun o fd ho hd _ _ s hk vs hl=>(v12 ((dfl g.K a).drop k) (fun H=>uM hp) ?_)
 refine kp_binds (X.keeps hk) fun S=>?_;have h:=hb S vs (by exact AG hn hl);unfold jb at h;rw [ho] at h;simp only [hd] at h;exact h
noncomputable def kz (i j:Nat):Arguments:=match Mk.main.body[i]? with
 | some (.ClassDef _ _ _ body ..)=>(match body[j]? with
  | some (.FunctionDef _ args _ _ _ _ _ _ _ _)=>args
  | _=>⟨[],[],none,[],[],none,[]⟩)
 | _=>⟨[],[],none,[],[],none,[]⟩
noncomputable def Fs (p:Nat×Nat×Nat):FnD:=⟨(am p.2.1 p.2.2).1,(am p.2.1 p.2.2).2,kz p.2.1 p.2.2,.none,true⟩
noncomputable def oy:List (Nat×Nat×Nat):=[(398,49,0),(547,57,1),(554,57,2),(561,57,3),(568,57,4),(575,57,5),(582,57,6)]
theorem mE:oy.all (fun p=>mv (kz p.2.1 p.2.2))=true:=by kernel_rfl
noncomputable def mB:List (Str×Addr):=[("Raised",84),("SmallHost",642),("Host",486),("Var",401),("error",139)]
noncomputable def ha:HA:=⟨642,486,401,540,420,398,547,554,561,568,575,582⟩
noncomputable def gI (K:Frag) (a:Addr):Bool:=match K.lookup a with
 | some ⟨_,_,.dict es _,_⟩=>es.toList.all fun e=>match e.key with
  | .str _ _=>true
  | _=>false
 | _=>false
noncomputable def nsK (K:Frag) (a:Addr) (x:Str):Option Value:=match K.lookup a with
 | some ⟨_,_,.dict es _,_⟩=>nsFind es x
 | _=>none
theorem FP {K:Frag} {h:Heap} (X:K.In h) {a:Addr} (e:gI K a=true):h.Ns a (nsK K a):=by
 unfold gI at e;cases ho:K.lookup a with
 | none=>rw [ho] at e;injection e
 | some o=>
  rw [ho] at e;obtain ⟨c,d,da,sl⟩:=o;cases da with
  | dict es ep=>
   refine (v34 _ es ep (X _ _ ho) rfl (fun e' he=>?_) (fun n=>by unfold nsK;exact ho▸rfl));have:=Mo.mp e e' (QN.mpr he);revert this;cases e'.key<;>intro h<;>first|(injection h;done)|exact ⟨_,_,rfl⟩
  | _=>injection e
inductive KObj (K:Frag):Prop
 | mk (nm q N bs sn sub ab col dd k0 k1 k2 k3 k5) (h1:K.lookup 84=some (excClassObj nm q 84 N bs bmX true sn sub ab col dd k0 k1 k2 k3 k5 "Exception.__new__")) (h2:gI K N=true) (h3:nsK K N "__init__" = some (.ref 81))
structure KF (K:Frag):Prop where
 glob:(K.lookup mainGlobals).isSome=true
 defs:oV.map (Fq K)=oV.map Fp
 err:(fnK K 139).map (fun f=>(f.body,f.scope,f.ok))=some ((aj 8).1,(aj 8).2,true)
 errB:∀S a b,jb K 139 S [a,b]=some ((["text","errorcode"]:LP).zip ([a,b]++(dfl K 139).drop 1))
 errD:((dfl K 139).drop 1).map pE=[]
 ini:(fnK K 81).map (fun f=>(f.body,f.scope,f.ok))=some ((am 5 0).1,(am 5 0).2,true)
 iniB:∀S a b c d,jb K 81 S [a,b,c,d]=some ((["self","code","value","errorcode","level","ret"]:LP).zip ([a,b,c,d]++(dfl K 81).drop 1))
 iniD:((dfl K 81).drop 1).map pE=[some (.int 0),some (.int 0)]
 sI:(fnK K 540).map (fun f=>(f.body,f.scope,f.ok))=some ((am 57 0).1,(am 57 0).2,true)
 sIB:∀S a,jb K 540 S [a]=some ((["self","limit","fuel"]:LP).zip ([a]++(dfl K 540).drop 0))
 sID:((dfl K 540).drop 0).map pE=[some (.int 40),some .none]
 hI:(fnK K 420).map (fun f=>(f.body,f.scope,f.ok))=some ((am 51 0).1,(am 51 0).2,true)
 hIB:∀S a b c,jb K 420 S [a,b,c]=some ((["self","limit","fuel"]:LP).zip ([a,b,c]++(dfl K 420).drop 2))
 hID:((dfl K 420).drop 2).map pE=[]
 meth:oy.map (fun p=>fnK K p.1)=oy.map fun p=>some (Fs p)
 names:mB.map (fun p=>mgK K p.1)=mB.map fun p=>some (.ref p.2)
 noEx:mgK K "Exception" = none
 noBi:(["len","ord","chr","str","range","sum","max","tuple"]:LP).map (mgK K)=[none,none,none,none,none,none,none,none]
 ckR:CX K 84
 gaR:findIn K (.ref 84) "__getattribute__" = some (some (.builtin "BaseException.__getattribute__"))
 ckS:CK K 642
 ckV:CK K 401
 keeps:[84,642,401].map (fun a=>keepIn K (.ref a))=[true,true,true]
 fnI:∃oI,K.lookup 81=some oI∧oI.cls=.type "function"
 objR:KObj K
 fldR:jW.map (fun p=>findIn K (.ref 84) p.1)=jW.map fun _=>some none
 excI:findCls K (.type "Exception") (.type "type") "__init__" = some (.val (.builtin "Exception.__init__"))
 mks:[642,401].map (makesIn K)=[true,true]
 iniF:[(642,540),(401,398)].map (fun p:Addr×Addr=>findIn K (.ref p.1) "__init__")=[some (some (.ref 540)),some (some (.ref 398))]
 tyF:[540,398,547,554,561,568,575,582].map (fun a=>typeIn K (.ref a))=[540,398,547,554,561,568,575,582].map fun _=>some (.type "function")
 hostI:specialIn K (.ref 486) "__getattribute__" = some (some (.builtin "type.__getattribute__"))∧∃mc,typeIn K (.ref 486)=some mc∧readsIn K 486 mc=true∧findCls K (.ref 486) mc "__init__" = some (.val (.ref 420))
 methF:([("has",547),("place",554),("read_var",561),("write_var",568),("read",575),("write",582)]:List (Str×Addr)).map (fun p=>findIn K (.ref 642) p.1)=([("has",547),("place",554),("read_var",561),("write_var",568),("read",575),("write",582)]:List (Str×Addr)).map fun p=>some (some (.ref p.2))
 fldS:(ki++jU).map (fun p=>findIn K (.ref 642) p.1)=(ki++jU).map fun _=>some none
 fldV:jO.map (fun p=>findIn K (.ref 401) p.1)=jO.map fun _=>some none
 last:(K.lookup 790).isSome=true
theorem lv0 {P:LO→Prop} (h:P []) (vs:LO) (e:vs.length=0):P vs:=by cases MR e;exact h
theorem lv1 {P:LO→Prop} {n:Nat} (h:∀a vs,vs.length=n→P (a::vs)) (vs:LO) (e:vs.length=n+1):P vs:=by
 cases vs with
 | nil=>injection e
 | cons a vs=>exact h a vs (Nt e)
theorem cE {α:Type} {l:List α} {a:α} (i:Nat) (h:l[i]? = some a):a∈l:=MK h
theorem gX {α β:Type} {f:α→β} {l:List α} {l':List β} (h:l.map f=l') (i:Nat) {a:α} {b:β} (e:l[i]? = some a) (e':l'[i]? = some b):f a=b:=by
 subst h;rw [Ng,e] at e';exact Mm e'
theorem cb {α β:Type} {f f':α→β} {l:List α} (h:l.map f=l.map f') {a:α} (m:a∈l):f a=f' a:=Rq.mp h a m
section
variable {g:Gx}
theorem KF.fns (k:KF g.K) (hg:GOk g):Fns g:=fun i name args body scope bind pos h=>by
 by_cases h8:i=8
 ·subst h8;have e:Mk.main.body[8]? = some (.FunctionDef "error" (fat 8).1 (aj 8).1 [] none [] (aj 8).2 none (fat 8).2.2.2.1 (fat 8).2.2.2.2)∧(fat 8).1.args.map (·.arg)=(["text","errorcode"]:LP):=⟨rfl,rfl⟩
  replace h:=e.1▸h;cases h;refine e.2▸?_;exact (v12 139 (lz hg k.glob (cb k.names (a:=(("error" : Str),139)) (cE 4 rfl))) (ft (n:=2) (k:=1) hg.X k.err rfl (fun S=>lv1 fun a=>lv1 fun b=>lv0 (k.errB S a b)) k.errD))
 ·have hm:i∈oV:=Nu.mpr ⟨OE.mpr ((ME.mp h).1),by simpa using h8⟩;have e:=cb k.defs hm;unfold Fq Fp at e;rw [h] at e;simp only at e
  split at e
  ·rename_i a ha;have hp:=Mo.mp pK i hm;unfold rT at hp;replace hp:=h▸hp;refine u22 (lj hp) ?_;rintro as ds rfl nd;exact (v12 a (lz hg k.glob ha) (js hg.X e nd))
  ·injection e
theorem KF.al (k:KF g.K) (hg:GOk g):Al g where
 ok:=hg
 fns:=k.fns hg
 bi:=fun f v hf hv=>by
  refine .inr ⟨lz hg k.glob ?_,?_⟩
  ·exact cb (show (["len","ord","chr","str","range","sum","max","tuple"]:LP).map (mgK g.K)=(["len","ord","chr","str","range","sum","max","tuple"]:LP).map fun _=>none from k.noBi) hf
  ·refine (hg.T.builtins f (by rintro rfl;revert hf;decide +kernel))▸?_;exact hv
theorem KF.name (k:KF g.K) (hg:GOk g) {x:Str} {a:Addr} (h:(x,a)∈mB):g.mg x=some (.ref a):=lz hg k.glob (cb k.names h)
theorem KF.sysm (k:KF g.K) (hg:GOk g):sysModules<g.base.objs.size:=by
 obtain ⟨o,ho⟩:=NY.mp k.last;exact PM (by decide) (MI (hg.X _ _ ho))
theorem KF.met (k:KF g.K) (hg:GOk g) {p:Nat×Nat×Nat} (h:p∈oy):FnA g p.1 ((kz p.2.1 p.2.2).args.map (·.arg)) [] (am p.2.1 p.2.2).1 (am p.2.1 p.2.2).2:=by
 have e:=cb k.meth h;refine u22 (lj (Mo.mp mE p h)) ?_;rintro as ds ha nd;unfold Fs at e;rw [ha] at e⊢;exact js hg.X e nd
theorem KF.xr (k:KF g.K) (hg:GOk g) (hR:g.cR=84):XR g 81 where
 ck:=hR▸k.ckR
 keep:=by refine hR▸?_;exact gX k.keeps 0 rfl rfl
 name:=by refine hR▸?_;exact k.name hg (cE 0 rfl)
 fn:=let ⟨o,h1,h2⟩:=k.fnI;(v12 o (hg.X _ _ h1) h2)
 obj:=by
  obtain ⟨nm,q,N,bs,sn,sub,ab,col,dd,k0,k1,k2,k3,k5,h1,h2,h3⟩:=k.objR;exact ⟨nm,q,N,bs,sn,sub,ab,col,dd,k0,k1,k2,k3,k5,nsK g.K N,by rw [hR];exact hg.X _ _ h1,FP hg.X h2,h3⟩
 init:=ft (n:=4) (k:=1) hg.X k.ini rfl (fun S=>lv1 fun a=>lv1 fun b=>lv1 fun c=>lv1 fun d=>lv0 (k.iniB S a b c d)) k.iniD
 flds:=fun p hp=>by refine hR▸?_;exact cb k.fldR hp
 exc:=(v14 ("Exception") (.inr ⟨lz hg k.glob k.noEx,by rw [hg.T.builtins _ (by decide +kernel)];exact by decide +kernel⟩) (by kernel_rfl) (by decide +kernel) k.excI)
 sysm:=k.sysm hg
 ga:=by refine hR▸?_;exact k.gaR
 err:=(k.fns hg) 8 _ _ _ _ _ _ rfl
theorem KF.hk (k:KF g.K) (hg:GOk g) (hh:∀bk,g.host bk=jA (jJ g ha bk)):HK g ha where
 host:=hh
 sysm:=k.sysm hg
 kS:=k.ckS
 kV:=k.ckV
 keepS:=gX k.keeps 1 rfl rfl
 keepV:=gX k.keeps 2 rfl rfl
 nS:=k.name hg (cE 1 rfl)
 nH:=k.name hg (cE 2 rfl)
 nV:=k.name hg (cE 3 rfl)
 mkS:=gX k.mks 0 rfl rfl
 mkV:=gX k.mks 1 rfl rfl
 iS:=gX k.iniF 0 rfl rfl
 iV:=gX k.iniF 1 rfl rfl
 tS:=cb k.tyF (a:=540) (cE 0 rfl)
 tV:=cb k.tyF (a:=398) (cE 1 rfl)
 hI:=k.hostI
 aSI:=ft (n:=1) (k:=0) hg.X k.sI rfl (fun S=>lv1 fun a=>lv0 (k.sIB S a)) k.sID
 aHI:=ft (n:=3) (k:=2) hg.X k.hI rfl (fun S=>lv1 fun a=>lv1 fun b=>lv1 fun c=>lv0 (k.hIB S a b c)) k.hID
 aVI:=k.met hg (p:=(398,49,0)) (cE 0 rfl)
 aHas:=k.met hg (p:=(547,57,1)) (cE 1 rfl)
 aPl:=k.met hg (p:=(554,57,2)) (cE 2 rfl)
 aRV:=k.met hg (p:=(561,57,3)) (cE 3 rfl)
 aWV:=k.met hg (p:=(568,57,4)) (cE 4 rfl)
 aR:=k.met hg (p:=(575,57,5)) (cE 5 rfl)
 aW:=k.met hg (p:=(582,57,6)) (cE 6 rfl)
 meth:=fun p hp=>⟨cb k.methF hp,cb k.tyF (a:=p.2) (.tail _ (.tail _ (List.mem_map_of_mem (f:=(·.2)) hp)))⟩
 fldS:=fun p hp=>cb k.fldS hp
 fldV:=fun p hp=>cb k.fldV hp
 varIn:=(k.fns hg) 53 _ _ _ _ _ _ rfl
 put:=(k.fns hg) 54 _ _ _ _ _ _ rfl
end
noncomputable def gx0 (w:World) (K:Frag) (p:Program) (loose:LP) (mg mb:LN) (s:Shared):Gx:=⟨Mk,w,K,p,loose,mg,mb,s.heap,84,fun _=>.list [],s.os⟩
noncomputable def gx1 (w:World) (K:Frag) (p:Program) (loose:LP) (mg mb:LN) (s:Shared):Gx:={ gx0 w K p loose mg mb s with host:=fun bk=>jA (jJ (gx0 w K p loose mg mb s) ha bk) }
inductive LawEnd (s₁:Shared) (f:Flow) (s':Shared):Prop
 | mk (h:f=.ret (.bool true)) {m:LN} (F:Fr s₁.heap s₁.heap.objs.size s'.heap m) (os:s'.os=s₁.os) (gens:s'.gens=#[])
theorem mM:((aj 81).2.names.map (·.1)).Nodup∧(∀x∈(aj 81).2.names.map (·.1),(x==("__debug__" : Str))=false)∧∀x∈sD,(x,NameKind.globalImplicit)∈(aj 81).2.names:=by decide +kernel
theorem lE:callerA.depth+1+25<recursionLimit∧callerA.units+3+4*25+8<cLine:=by decide +kernel
theorem Ja {w:World} {K:Frag} {p:Program} {loose:LP} {mg mb:LN} {s₁:Shared} (kf:KF K) (KX:K.In s₁.heap) (T:TopRead p loose mg mb s₁.heap) (hgen:s₁.gens=#[]) {fa a:Addr} {cd:Value} {m:LN} {h₁:Heap} {tk:Nat} {vs:LO} {ns:LR}
 (F:Fr s₁.heap s₁.heap.objs.size h₁ m) (hm:m "script" = some (.ref a)) (hl:s₁.heap.IsList a vs.toArray) (hi:IntsAre vs ns) (hlen:ns.length≤63) (hlay:PyData.layable0 (.list (ns.map .int))=true) :
 wpAny (model Mk w) (callerA.deeper (envOf "law" (aj 81).2 s₁.heap.objs.size fa cd)) (execs (aj 81).1 (envOf "law" (aj 81).2 s₁.heap.objs.size fa cd)) (LawEnd s₁) (fun _ _=>False) { s₁ with heap:=h₁,toks:=tk }:=by
 have hg:GOk (gx1 w K p loose mg mb s₁):=⟨KX,T⟩
 have kf:KF (gx1 w K p loose mg mb s₁).K:=kf;have al:=kf.al hg
 let c:Cx:=⟨s₁.heap.objs.size,"law",(aj 81).2,fa,cd,[],[],[]⟩
 refine tt (sC (show LF (gx1 w K p loose mg mb s₁) c (callerA.deeper c.env) from ⟨al,(⟨rfl,trivial,rfl,mM.1,mM.2.1,lE.1,lE.2,rfl,rfl⟩),mM.2.2,GF al (kf.hk hg fun bk=>rfl) (kf.xr hg rfl) 20⟩) rfl (m:=m) ⟨F,(fun _ h=>nomatch h),NP,trivial,rfl,fun x pv h=>?_⟩ hm hl hi ⟨Mj hlen (by decide),fun n hn=>intBits_le_of_item hn hlay⟩ ⟨rfl,hgen⟩) (fun f s' hh=>?_) fun e s' hh=>?_
 ·simp only [bX,Me,Prod.mk.injEq,ML,or_false] at h;rcases h with ⟨_,h⟩|⟨_,h⟩|⟨_,h⟩|⟨_,h⟩|⟨_,h⟩<;>injection h
 ·obtain ⟨af,st',f',a',X',r,q⟩:=hh;obtain ⟨m',F'⟩:=X'.fr;refine ⟨?_,F',X'.loc.2.1,X'.loc.2.2⟩;cases f with
  | ret v=>cases af with
   | ret pv=>obtain rfl:pv=.bool true:=q;obtain rfl:v=.bool true:=r;rfl
   | _=>exact r.elim
  | next=>cases af with
   | next=>injection q
   | _=>exact r.elim
  | brk=>cases af with
   | brk=>injection q
   | _=>exact r.elim
  | cont=>cases af with
   | cont=>injection q
   | _=>exact r.elim
 ·obtain ⟨_,_,_,_,_,_,_,_,_,h⟩:=hh;exact h
set_option backward.match.sparseCases true
namespace fin
theorem tw11147104352605176246:True:=⟨⟩
theorem tw10267596559628353703:True:=⟨⟩
theorem tw15531149616129793500:True:=⟨⟩
theorem tw2963180019789787694:True:=⟨⟩
theorem tw4877679556194548931:True:=⟨⟩
theorem tw12820697431815641191:True:=⟨⟩
theorem tw12796345101495157850:True:=⟨⟩
theorem tw4999180592315057586:True:=⟨⟩
theorem tw8733322892695049441:True:=⟨⟩
theorem tw15149492923286276889:True:=⟨⟩
theorem tw13525609394274209440:True:=⟨⟩
theorem tw14565501986912263314:True:=⟨⟩
theorem tw7004120974693217831:True:=⟨⟩
theorem tw16035885508308169001:True:=⟨⟩
theorem tw12778409855523228992:True:=⟨⟩
theorem tw8183316633706742254:True:=⟨⟩
theorem tw16116908886674303068:True:=⟨⟩
theorem tw6597765723380698694:True:=⟨⟩
theorem tw15361320378313827095:True:=⟨⟩
theorem tw1351076061194523108:True:=⟨⟩
theorem tw13720633154407322968:True:=⟨⟩
theorem tw6344912474746092972:True:=⟨⟩
theorem tw15643546296344553781:True:=⟨⟩
theorem tw12792066570381711349:True:=⟨⟩
theorem tw12507070432060689525:True:=⟨⟩
theorem tw11614913229907391319:True:=⟨⟩
theorem tw6520026652463609938:True:=⟨⟩
theorem tw9335449920586020240:True:=⟨⟩
theorem tw3909904448631920841:True:=⟨⟩
theorem tw2298163705763171154:True:=⟨⟩
theorem tw17922981419489515989:True:=⟨⟩
theorem tw6880872616855327646:True:=⟨⟩
theorem tw9051597434526388526:True:=⟨⟩
theorem tw10101490488506916722:True:=⟨⟩
theorem tw416560658415368682:True:=⟨⟩
theorem tw2222017554332485892:True:=⟨⟩
theorem tw15798487055628986731:True:=⟨⟩
theorem tw17534138148631043654:True:=⟨⟩
theorem tw4049152472424960902:True:=⟨⟩
theorem tw6976080587702433404:True:=⟨⟩
theorem tw17059034935818090122:True:=⟨⟩
theorem tw1305876745347171626:True:=⟨⟩
theorem tw7445278223985301343:True:=⟨⟩
theorem tw679490402939611082:True:=⟨⟩
theorem tw10105998490350094281:True:=⟨⟩
theorem tw16441759903321071884:True:=⟨⟩
theorem tw15160262501168034891:True:=⟨⟩
theorem tw1782557653385649133:True:=⟨⟩
theorem tw17091010244851112628:True:=⟨⟩
theorem tw17494052193680148033:True:=⟨⟩
theorem tw1298628698680383041:True:=⟨⟩
theorem tw18326093330134404023:True:=⟨⟩
theorem tw17698079205237533764:True:=⟨⟩
theorem tw2668735139902573553:True:=⟨⟩
theorem tw16491595787973568826:True:=⟨⟩
theorem tw8804304307337916655:True:=⟨⟩
theorem tw3468532265838103333:True:=⟨⟩
theorem tw18267276709976249006:True:=⟨⟩
theorem tw5470977795555585184:True:=⟨⟩
theorem tw10732134479138160057:True:=⟨⟩
theorem tw5413328997934045858:True:=⟨⟩
theorem tw2089052528771044259:True:=⟨⟩
theorem tw11295128543848225239:True:=⟨⟩
theorem tw1924884993864368095:True:=⟨⟩
theorem tw12801079811122468228:True:=⟨⟩
theorem tw17382426677952977115:True:=⟨⟩
theorem tw14665029315207304980:True:=⟨⟩
theorem tw17085421395825597802:True:=⟨⟩
theorem tw11111581451734826948:True:=⟨⟩
theorem tw3369329008053875776:True:=⟨⟩
theorem tw11960508981271007352:True:=⟨⟩
theorem tw9954220922458054611:True:=⟨⟩
theorem tw1133573164667390875:True:=⟨⟩
theorem tw11349293107220882217:True:=⟨⟩
theorem tw1141325480001554146:True:=⟨⟩
theorem tw447841059652388836:True:=⟨⟩
theorem tw18095230527899641565:True:=⟨⟩
theorem tw907388788208265544:True:=⟨⟩
theorem tw10293282587370518145:True:=⟨⟩
theorem tw5568108987121820612:True:=⟨⟩
theorem tw11566253163613101468:True:=⟨⟩
theorem tw6739858509444001464:True:=⟨⟩
theorem tw3081635913348293676:True:=⟨⟩
theorem tw6194906951247924608:True:=⟨⟩
theorem tw8056830162132315983:True:=⟨⟩
theorem tw11797687170994982347:True:=⟨⟩
theorem tw18444756443682697516:True:=⟨⟩
theorem tw3591346508330991105:True:=⟨⟩
theorem tw4527288944889797592:True:=⟨⟩
theorem tw445165168673797614:True:=⟨⟩
theorem tw6039387213588814639:True:=⟨⟩
theorem tw15000533820965031710:True:=⟨⟩
theorem tw11239389037862720633:True:=⟨⟩
theorem tw13571647802517675041:True:=⟨⟩
theorem tw16951405512337198204:True:=⟨⟩
theorem tw3154711487539058386:True:=⟨⟩
theorem tw2856315753373611966:True:=⟨⟩
theorem tw16389932788297587636:True:=⟨⟩
theorem tw48109761597808258:True:=⟨⟩
theorem tw18383884582153891543:True:=⟨⟩
theorem tw14153608438176759433:True:=⟨⟩
theorem tw7822125192139378144:True:=⟨⟩
theorem tw11961879638816577216:True:=⟨⟩
theorem tw14915061341540661651:True:=⟨⟩
theorem tw6200460903420403362:True:=⟨⟩
theorem tw11353252044198500518:True:=⟨⟩
theorem tw13390995298314857607:True:=⟨⟩
theorem tw1629048070482340020:True:=⟨⟩
theorem tw8032901708519964898:True:=⟨⟩
theorem tw7068328756223772477:True:=⟨⟩
theorem tw4559856864138708893:True:=⟨⟩
theorem tw1774487488348230048:True:=⟨⟩
theorem tw12470053387133831662:True:=⟨⟩
theorem tw13724752375492188813:True:=⟨⟩
theorem tw13008528339739614272:True:=⟨⟩
theorem tw4090755718833978795:True:=⟨⟩
theorem tw5817424916554255205:True:=⟨⟩
theorem tw13340128867176268900:True:=⟨⟩
theorem tw17367712702651697676:True:=⟨⟩
theorem tw15265027780411263113:True:=⟨⟩
theorem tw16392450417558093223:True:=⟨⟩
theorem tw15851108825866765299:True:=⟨⟩
theorem tw3648045012165232011:True:=⟨⟩
theorem tw8589040953962883458:True:=⟨⟩
theorem tw3166350428417588487:True:=⟨⟩
theorem tw8567726079024374493:True:=⟨⟩
theorem tw16302612610725633399:True:=⟨⟩
theorem tw2942396688315045822:True:=⟨⟩
theorem tw8231032384633352218:True:=⟨⟩
theorem tw2807679961543509410:True:=⟨⟩
theorem tw3002800920775208419:True:=⟨⟩
theorem tw2225830740656305014:True:=⟨⟩
theorem tw12911334536544405255:True:=⟨⟩
theorem tw7917885641187607297:True:=⟨⟩
theorem tw9332456304682044547:True:=⟨⟩
theorem tw13239606823939676884:True:=⟨⟩
theorem tw5800964654066253318:True:=⟨⟩
theorem tw11194734386271248668:True:=⟨⟩
theorem tw4863721077874431849:True:=⟨⟩
theorem tw2987068438024194688:True:=⟨⟩
theorem tw12239015439246429748:True:=⟨⟩
theorem tw15574801094973861942:True:=⟨⟩
theorem tw12237992171808580705:True:=⟨⟩
theorem tw16192032955791761262:True:=⟨⟩
theorem tw5464735818220816181:True:=⟨⟩
theorem tw14860765532634025764:True:=⟨⟩
theorem tw10912961070715832607:True:=⟨⟩
theorem tw3687109342592677051:True:=⟨⟩
theorem tw6198213510180708509:True:=⟨⟩
theorem tw6723273689009812427:True:=⟨⟩
theorem tw8940343232516219084:True:=⟨⟩
theorem tw11374227789210111906:True:=⟨⟩
theorem tw14041069347673988474:True:=⟨⟩
theorem tw2213084894126322501:True:=⟨⟩
theorem tw588993787668713538:True:=⟨⟩
theorem tw14328472770798757777:True:=⟨⟩
theorem tw12310287955626512409:True:=⟨⟩
theorem tw5557842271988409019:True:=⟨⟩
theorem tw14883289720457925636:True:=⟨⟩
theorem tw2271205192808257058:True:=⟨⟩
theorem tw7995135186367100539:True:=⟨⟩
theorem tw13952892097359526463:True:=⟨⟩
theorem tw2065042110328980653:True:=⟨⟩
theorem tw3147055506402010477:True:=⟨⟩
theorem tw18304199374698367457:True:=⟨⟩
theorem tw6197660616995260486:True:=⟨⟩
theorem tw15799074499384265573:True:=⟨⟩
theorem tw12017921828190240546:True:=⟨⟩
theorem tw13658825025987743643:True:=⟨⟩
theorem tw13055829498245001383:True:=⟨⟩
theorem tw8865939996980233508:True:=⟨⟩
theorem tw4329951066838320684:True:=⟨⟩
theorem tw17497384044653587550:True:=⟨⟩
theorem tw14939594680171747965:True:=⟨⟩
theorem tw3524825468607569554:True:=⟨⟩
theorem tw3075823457290342121:True:=⟨⟩
theorem tw3143306293639535589:True:=⟨⟩
theorem tw10545880230675361294:True:=⟨⟩
theorem tw6601393754165579995:True:=⟨⟩
theorem tw10650760199713648968:True:=⟨⟩
theorem tw5163466266295717726:True:=⟨⟩
theorem tw12455835498276287761:True:=⟨⟩
theorem tw4316555686772091667:True:=⟨⟩
theorem tw13061259202157581181:True:=⟨⟩
theorem tw9280377803897316635:True:=⟨⟩
theorem tw9075086464145078051:True:=⟨⟩
theorem tw14332562081609563248:True:=⟨⟩
theorem tw4819352081238163109:True:=⟨⟩
theorem tw6882469653776878749:True:=⟨⟩
theorem tw12595489510096018543:True:=⟨⟩
theorem tw14117478836190910693:True:=⟨⟩
theorem tw15885225976727544930:True:=⟨⟩
theorem tw3063454141765650985:True:=⟨⟩
theorem tw14609777808758671327:True:=⟨⟩
theorem tw7932232492360369566:True:=⟨⟩
theorem tw12101702456154623484:True:=⟨⟩
theorem tw3241309143330311071:True:=⟨⟩
theorem tw6379260412597233438:True:=⟨⟩
theorem tw1363021327180449552:True:=⟨⟩
theorem tw7492944063583664102:True:=⟨⟩
theorem tw6834825097376060275:True:=⟨⟩
theorem tw4136109767003768620:True:=⟨⟩
theorem tw9149671380129158344:True:=⟨⟩
theorem tw1950042658437101994:True:=⟨⟩
theorem tw9853652781523703998:True:=⟨⟩
theorem tw655758171401687013:True:=⟨⟩
theorem tw11930426372126199300:True:=⟨⟩
theorem tw16281550903064857946:True:=⟨⟩
theorem tw36355025208946619:True:=⟨⟩
theorem tw2233685986097318484:True:=⟨⟩
theorem tw658571319481225882:True:=⟨⟩
theorem tw1503508723232645471:True:=⟨⟩
theorem tw12624803667846855160:True:=⟨⟩
theorem tw12966842009436865205:True:=⟨⟩
theorem tw9150613346496913270:True:=⟨⟩
theorem tw8138211742489734316:True:=⟨⟩
theorem tw9957523579439319190:True:=⟨⟩
theorem tw6848054704864564044:True:=⟨⟩
theorem tw8246133333111583036:True:=⟨⟩
theorem tw208478069386834848:True:=⟨⟩
theorem tw2067356009581370615:True:=⟨⟩
theorem tw2013573499538432456:True:=⟨⟩
theorem tw5394761356567239667:True:=⟨⟩
theorem tw9540101305013350399:True:=⟨⟩
theorem tw5910005405101859996:True:=⟨⟩
theorem tw9865347159734819181:True:=⟨⟩
theorem tw4733382143756190017:True:=⟨⟩
theorem tw13573744438921304190:True:=⟨⟩
theorem tw6033368249412965571:True:=⟨⟩
theorem tw7346827464360200879:True:=⟨⟩
theorem tw7553186599624231059:True:=⟨⟩
theorem tw16846778108711060729:True:=⟨⟩
theorem tw14539759953273356423:True:=⟨⟩
theorem tw11505652142412690681:True:=⟨⟩
theorem tw9265188618447326497:True:=⟨⟩
theorem tw14710791172244239818:True:=⟨⟩
theorem tw10825427708972491895:True:=⟨⟩
theorem tw70036627400174149:True:=⟨⟩
theorem tw1224772823539795004:True:=⟨⟩
theorem tw1154845219758702077:True:=⟨⟩
theorem tw6006452360055512145:True:=⟨⟩
theorem tw6472053419148647914:True:=⟨⟩
theorem tw8168997480859770548:True:=⟨⟩
theorem tw18006191658503540052:True:=⟨⟩
theorem tw4781409195050689665:True:=⟨⟩
theorem tw9688150110434263646:True:=⟨⟩
theorem tw7498381355412603487:True:=⟨⟩
theorem tw16997665632902048752:True:=⟨⟩
theorem tw6506546250151085686:True:=⟨⟩
theorem tw1365833600108757868:True:=⟨⟩
theorem tw3362020581697521731:True:=⟨⟩
theorem tw7367103763958869275:True:=⟨⟩
theorem tw5948373610072077788:True:=⟨⟩
theorem tw10798924375295496562:True:=⟨⟩
theorem tw17448791866355624118:True:=⟨⟩
theorem tw11392214452562153442:True:=⟨⟩
theorem tw6089319508953462050:True:=⟨⟩
theorem tw11071532715248767649:True:=⟨⟩
theorem tw10123968677928051802:True:=⟨⟩
theorem tw8739037796400882192:True:=⟨⟩
theorem tw12661902120264583396:True:=⟨⟩
theorem tw5851801125183531796:True:=⟨⟩
theorem tw339179083405492265:True:=⟨⟩
theorem tw18359831639790005598:True:=⟨⟩
theorem tw13007594783443622940:True:=⟨⟩
theorem tw14388343316566068529:True:=⟨⟩
theorem tw9569315250098670603:True:=⟨⟩
theorem tw3893833047011844286:True:=⟨⟩
theorem tw6623253831264262639:True:=⟨⟩
theorem tw5951060018038355847:True:=⟨⟩
theorem tw9458444929576854168:True:=⟨⟩
theorem tw12366797792384966918:True:=⟨⟩
theorem tw15240908891056920309:True:=⟨⟩
theorem tw14866728756705650848:True:=⟨⟩
theorem tw15353159728804961487:True:=⟨⟩
theorem tw7719885589845137264:True:=⟨⟩
theorem tw17634851271557442346:True:=⟨⟩
theorem tw14866510762940726991:True:=⟨⟩
theorem tw15401975030235108584:True:=⟨⟩
theorem tw8699997868502821763:True:=⟨⟩
theorem tw17160753423370284780:True:=⟨⟩
theorem tw13060565531289800327:True:=⟨⟩
theorem tw6214865759962552216:True:=⟨⟩
theorem tw5715935512102088938:True:=⟨⟩
theorem tw2075807722822569211:True:=⟨⟩
theorem tw755680075625081758:True:=⟨⟩
theorem tw654694583751057514:True:=⟨⟩
theorem tw14915809093477394193:True:=⟨⟩
theorem tw2053319275241251331:True:=⟨⟩
theorem tw8334960639682471478:True:=⟨⟩
theorem tw12769166507654521589:True:=⟨⟩
theorem tw14820765687774610683:True:=⟨⟩
theorem tw15193551363700926362:True:=⟨⟩
theorem tw14061964066483013425:True:=⟨⟩
theorem tw5639334478726127942:True:=⟨⟩
theorem tw17231065854994603144:True:=⟨⟩
theorem tw5105862072034755161:True:=⟨⟩
theorem tw11071885167217917561:True:=⟨⟩
theorem tw8922421796085924833:True:=⟨⟩
theorem tw1285103265667138118:True:=⟨⟩
theorem tw7627679699511057764:True:=⟨⟩
theorem tw4571393863272343729:True:=⟨⟩
theorem tw17801176237502626530:True:=⟨⟩
theorem tw4709110760975780755:True:=⟨⟩
theorem tw2222367348276846189:True:=⟨⟩
theorem tw15265327471687389039:True:=⟨⟩
theorem tw17894094282328589780:True:=⟨⟩
theorem tw2256047105022409874:True:=⟨⟩
theorem tw17113566079157436309:True:=⟨⟩
theorem tw16321975058907048175:True:=⟨⟩
theorem tw15557774540311675574:True:=⟨⟩
theorem tw709266261138062935:True:=⟨⟩
theorem tw449736948181837924:True:=⟨⟩
theorem tw18355525926938224701:True:=⟨⟩
theorem tw13264550348663985200:True:=⟨⟩
theorem tw3044688556573329881:True:=⟨⟩
theorem tw5321512144154391405:True:=⟨⟩
theorem tw2832719285758901520:True:=⟨⟩
theorem tw1307895029255432033:True:=⟨⟩
theorem tw15014544461211952260:True:=⟨⟩
theorem tw12011553718004277731:True:=⟨⟩
theorem tw7682953259073406861:True:=⟨⟩
theorem tw832579932590360409:True:=⟨⟩
theorem tw7939402830262687936:True:=⟨⟩
theorem tw3830065186380081198:True:=⟨⟩
theorem tw9329607820722939047:True:=⟨⟩
theorem tw17317397143997949921:True:=⟨⟩
theorem tw9180882038326388761:True:=⟨⟩
theorem tw3979295173802091153:True:=⟨⟩
theorem tw16778370275792819700:True:=⟨⟩
theorem tw5275625837429805113:True:=⟨⟩
theorem tw660790319719121240:True:=⟨⟩
theorem tw7198837435271597961:True:=⟨⟩
theorem tw989344214434648422:True:=⟨⟩
theorem tw2319665210841938596:True:=⟨⟩
theorem tw13746326238772527162:True:=⟨⟩
theorem tw10214742223541494991:True:=⟨⟩
theorem tw10372168367530659151:True:=⟨⟩
theorem tw2835549257034426799:True:=⟨⟩
theorem tw8405628064388312081:True:=⟨⟩
theorem tw9534573459992170715:True:=⟨⟩
theorem tw16023712374525188745:True:=⟨⟩
theorem tw6436322892450656229:True:=⟨⟩
theorem tw302031357825173135:True:=⟨⟩
theorem tw5215572957122747553:True:=⟨⟩
theorem tw1611459797058366642:True:=⟨⟩
theorem tw13911047928371424606:True:=⟨⟩
theorem tw16604260596619533884:True:=⟨⟩
theorem tw13610608015737904514:True:=⟨⟩
theorem tw9370526994402293959:True:=⟨⟩
theorem tw12738992003262741883:True:=⟨⟩
theorem tw5137461089886351155:True:=⟨⟩
theorem tw12495652020141799563:True:=⟨⟩
theorem tw15827917963218829382:True:=⟨⟩
theorem tw4345008417907258536:True:=⟨⟩
theorem tw7698032952268289214:True:=⟨⟩
theorem tw16838157672737301897:True:=⟨⟩
theorem tw14087494348329539905:True:=⟨⟩
theorem tw8365743793711880192:True:=⟨⟩
theorem tw13247637036668170788:True:=⟨⟩
theorem tw9883144646872038054:True:=⟨⟩
theorem tw11307813337805977000:True:=⟨⟩
theorem tw12973318590980137679:True:=⟨⟩
theorem tw11099496986799534865:True:=⟨⟩
theorem tw8463468478498468227:True:=⟨⟩
theorem tw2922205389567996247:True:=⟨⟩
theorem tw13129487762761546903:True:=⟨⟩
theorem tw15135577336314763024:True:=⟨⟩
theorem tw7149954119306332543:True:=⟨⟩
theorem tw5777426015007977494:True:=⟨⟩
theorem tw3551214526446049719:True:=⟨⟩
theorem tw10521623200425411407:True:=⟨⟩
theorem tw14464440864516277016:True:=⟨⟩
theorem tw800726734921596282:True:=⟨⟩
theorem tw17463587148789314990:True:=⟨⟩
theorem tw6269356686186816898:True:=⟨⟩
theorem tw5322406110930780960:True:=⟨⟩
theorem tw11877764617632734049:True:=⟨⟩
theorem tw7318966087582507233:True:=⟨⟩
theorem tw17115724040222024928:True:=⟨⟩
theorem tw17185103256161032954:True:=⟨⟩
theorem tw16640057102570843524:True:=⟨⟩
theorem tw6839065364955725034:True:=⟨⟩
theorem tw1162837958614489709:True:=⟨⟩
theorem tw10229355548858121996:True:=⟨⟩
theorem tw6890366539653969594:True:=⟨⟩
theorem tw13758743032729322367:True:=⟨⟩
theorem tw11252427615396647603:True:=⟨⟩
theorem tw14752972205833155019:True:=⟨⟩
theorem tw860139973019069040:True:=⟨⟩
theorem tw5841978512441811291:True:=⟨⟩
theorem tw15443175795919792451:True:=⟨⟩
theorem tw13057654503985464132:True:=⟨⟩
theorem tw4080692684032420285:True:=⟨⟩
theorem tw16430537285588358765:True:=⟨⟩
theorem tw11106444311465693002:True:=⟨⟩
theorem tw3978874957356813289:True:=⟨⟩
theorem tw12238118793411104752:True:=⟨⟩
theorem tw11154126528663975493:True:=⟨⟩
theorem tw6742435785040872628:True:=⟨⟩
theorem tw10922886366570880915:True:=⟨⟩
theorem tw16408049737135900905:True:=⟨⟩
theorem tw14834411714642155541:True:=⟨⟩
theorem tw10723429903143799343:True:=⟨⟩
theorem tw6945844652797410072:True:=⟨⟩
theorem tw18031108209989096091:True:=⟨⟩
theorem tw5504213739807773925:True:=⟨⟩
theorem tw2111008424523219699:True:=⟨⟩
theorem tw7392033830427383353:True:=⟨⟩
theorem tw12729674422467859285:True:=⟨⟩
theorem tw1236496036888747617:True:=⟨⟩
theorem tw12692666750711880614:True:=⟨⟩
theorem tw10788309051002490768:True:=⟨⟩
theorem tw1005422156065106442:True:=⟨⟩
theorem tw16918330971023265759:True:=⟨⟩
theorem tw4440660885432104164:True:=⟨⟩
theorem tw24293499761970475:True:=⟨⟩
theorem tw1147176709748742994:True:=⟨⟩
theorem tw15800163601140928585:True:=⟨⟩
theorem tw11960471888351719401:True:=⟨⟩
theorem tw4718225689526625029:True:=⟨⟩
theorem tw15973157177614956551:True:=⟨⟩
theorem tw3414994339316412772:True:=⟨⟩
theorem tw6160278318746985381:True:=⟨⟩
theorem tw1133772979632593500:True:=⟨⟩
theorem tw17808712238215149565:True:=⟨⟩
theorem tw11220281960019044751:True:=⟨⟩
theorem tw5680944864302163793:True:=⟨⟩
theorem tw17507780133604036630:True:=⟨⟩
theorem tw7933777482406889168:True:=⟨⟩
theorem tw6237677071740283602:True:=⟨⟩
theorem tw15479284828457854670:True:=⟨⟩
theorem tw6245523371627125000:True:=⟨⟩
theorem tw11233464361083758497:True:=⟨⟩
theorem tw16708931136307432212:True:=⟨⟩
theorem tw1307177927032115210:True:=⟨⟩
theorem tw13209526354777866365:True:=⟨⟩
theorem tw2001100723397088071:True:=⟨⟩
theorem tw11890194797150808124:True:=⟨⟩
theorem tw12271225376293204978:True:=⟨⟩
theorem tw11780801932481462029:True:=⟨⟩
theorem tw7387922061788324291:True:=⟨⟩
theorem tw4368442217961896312:True:=⟨⟩
theorem tw12092219072765720337:True:=⟨⟩
theorem tw8716440906006691212:True:=⟨⟩
theorem tw11543742928061484197:True:=⟨⟩
theorem tw480477086555996327:True:=⟨⟩
theorem tw13749589417044471915:True:=⟨⟩
theorem tw4772652040318747397:True:=⟨⟩
theorem tw9941704543893565174:True:=⟨⟩
theorem tw10639854211497870252:True:=⟨⟩
theorem tw13241460816815639576:True:=⟨⟩
theorem tw15536887994283210034:True:=⟨⟩
theorem tw15101849749170484435:True:=⟨⟩
theorem tw12232127123749113246:True:=⟨⟩
theorem tw4149170312656590410:True:=⟨⟩
theorem tw17828331019493305567:True:=⟨⟩
theorem tw4785405829257281127:True:=⟨⟩
theorem tw12252229258716299433:True:=⟨⟩
theorem tw14122740417089075017:True:=⟨⟩
theorem tw1592332469624304231:True:=⟨⟩
theorem tw17050617325425463486:True:=⟨⟩
theorem tw9002696411583656333:True:=⟨⟩
theorem tw5710630268834052445:True:=⟨⟩
theorem tw1862943259287692802:True:=⟨⟩
theorem tw7162970974606879018:True:=⟨⟩
theorem tw17676370108497383191:True:=⟨⟩
theorem tw12063301643352831665:True:=⟨⟩
theorem tw12154618163640666275:True:=⟨⟩
theorem tw12289145424587949516:True:=⟨⟩
theorem tw10068614229917681054:True:=⟨⟩
theorem tw1241290964446249857:True:=⟨⟩
theorem tw7056639348074376976:True:=⟨⟩
theorem tw10691362535288729317:True:=⟨⟩
theorem tw12409447350087201441:True:=⟨⟩
theorem tw10121686602324430211:True:=⟨⟩
theorem tw8017590708753446035:True:=⟨⟩
theorem tw10666779673806245421:True:=⟨⟩
theorem tw17073784211241882456:True:=⟨⟩
theorem tw1600553872688196179:True:=⟨⟩
theorem tw8532471432323197128:True:=⟨⟩
theorem tw7413661472406123637:True:=⟨⟩
theorem tw9254884390393402049:True:=⟨⟩
theorem tw4233887875564768234:True:=⟨⟩
theorem tw16115503439188816733:True:=⟨⟩
theorem tw6488782624720127966:True:=⟨⟩
theorem tw9127046115403884935:True:=⟨⟩
theorem tw4865439984457669208:True:=⟨⟩
theorem tw8884666341287808908:True:=⟨⟩
theorem tw3371474539580429107:True:=⟨⟩
theorem tw11667179120957083916:True:=⟨⟩
theorem tw18258702739699397937:True:=⟨⟩
theorem tw1992282939886999841:True:=⟨⟩
theorem tw7966889126744722362:True:=⟨⟩
theorem tw14476830212626299339:True:=⟨⟩
theorem tw4233510188106793170:True:=⟨⟩
theorem tw17707612339954570508:True:=⟨⟩
theorem tw14165119515375417745:True:=⟨⟩
end fin
set_option Elab.async true in
set_option maxRecDepth 100000 in
set_option maxHeartbeats 8000000 in
theorem fin:PySem.Challenge.rw_oj0072_01.Holds:=by
 w_on
 o_law
 k_head
 (case hw=>w_witness2)
 k_go0
 refine tt (Ja (K:=_) ?kf (by assumption) (topRead_of (by assumption)) (by assumption) (by assumption) rfl (by assumption) (by assumption) (by omega) (by assumption)) (fun f s' hh=>?_) (fun _ _ h=>h.elim)
 case kf=>
  exact ⟨by kernel_rfl,by kernel_rfl,by kernel_rfl,fun _ _ _=>by kernel_rfl,by kernel_rfl,by kernel_rfl,fun _ _ _ _ _=>by kernel_rfl,by kernel_rfl,by kernel_rfl,fun _ _=>by kernel_rfl,by kernel_rfl,by kernel_rfl,fun _ _ _ _=>by kernel_rfl,by kernel_rfl,by kernel_rfl,by kernel_rfl,by kernel_rfl,by kernel_rfl,⟨by kernel_rfl,by kernel_rfl,by kernel_rfl,⟨_,rfl,rfl,rfl,fun self=>rfl⟩⟩,by kernel_rfl,⟨⟨by kernel_rfl,by kernel_rfl,by kernel_rfl,⟨_,rfl,rfl,rfl,fun self=>rfl⟩⟩,by kernel_rfl⟩,⟨⟨by kernel_rfl,by kernel_rfl,by kernel_rfl,⟨_,rfl,rfl,rfl,fun self=>rfl⟩⟩,by kernel_rfl⟩,by kernel_rfl,⟨_,rfl,rfl⟩,⟨_,_,_,_,_,_,_,_,_,_,_,_,_,_,rfl,by kernel_rfl,by kernel_rfl⟩,by kernel_rfl,by kernel_rfl,by kernel_rfl,by kernel_rfl,by kernel_rfl,⟨by kernel_rfl,.type "type",by kernel_rfl,by kernel_rfl,by kernel_rfl⟩,by kernel_rfl,by kernel_rfl,by kernel_rfl,by kernel_rfl⟩
 obtain ⟨rfl,F',os,gens⟩:=hh;exact goodW_bool F' gens (by intro cls;rfl) (by wrow_post) os
end Mine.Internal
theorem PySem.Challenge.cw_oj0072_01_holds : PySem.Challenge.rw_oj0072_01.Holds :=
  Mine.Internal.fin
