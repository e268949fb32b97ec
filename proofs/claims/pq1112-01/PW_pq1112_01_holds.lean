import PyProof.Rows.All
import PySem.Syntax
import PyProof.TableCode
import PyProof.RulesTry
import PyProof.Ends
import PyProof.CompFree
import PyProof.NsMap
import PyProof.ExcArgsOwn
import PyProof.ExcAttrAll.Exception
import PyProof.ExcClass3
import PyProof.WalksMore
import PyProof.RangeFor
import PyProof.InstStore
import PyProof.InstLoad
import PyProof.InstStoreFacts
import PyProof.LetGo
import PyProof.RulesAs
import Open.Line
import OpenK.KMore
import Open.Boot
import Open.Tree
import Open.FastT9
import KE.BytesMake
import KE.BytesMulAny
import KE.KBytesWalk
import KE.KBytesCut
import KE.KDictOf
import KE.KEqDict
import ObjForm.MakeTop
import Wide.FinOn
import OpenK.AllK
import Wide.All
import PySem.Challenge.RW_pq1112_01
set_option Elab.async false
set_option maxRecDepth 100000
set_option exponentiation.threshold 500
set_option tactic.hygienic false
set_option genSizeOf false
set_option genInjectivity false
set_option genCtorIdx false
set_option linter.all false
set_option maxHeartbeats 0
open PyProof.Rows renaming subscriptTail → OB, tail_any → OC, Subscript_ → Ug
open PySem renaming wpAny_ite → ky, Program → Ob, World → Oc, Value → Od, sysModules → Oe, intKind → Of, Shared → Og, valueAt → Oh, mainGlobals → Oi, builtinsNs → Oj, Around → Ol, sizeLine → Om, wpAny → Oo, binaryOp → Os, Operator → Ot, cLine → Ou, wpAny_holding → Ov, wpAny_bind → Ow, wpAny_pure → Ox, wpAny_truthy_bool → Oy, recursionLimit → Oz, compareOp → OA, typeLookup → OD, checkBuiltinCall → OE, wpAny_of_eq → OF, bm_if_false → OG, wpAny_specialOf → OH, wpAny_field → OI, rawInt → OJ, sliceBounds → OK, wpAny_mono → OL, wpAny_getItem_list_slice → OM, excClassObj → ON, Scope → OO, NameKind → OP, compEnvC → OQ, wpAny_assign_Name → OR, wpAny_storeName_local → OS, wpAny_newObj_type → OT, foldedSetIterable → OU, wpAny_comprehension_free → OV, wpAny_Constant_int → OW, wpAny_loadName_local → OX, wpAny_Name → OY, standAt → OZ, holding → O3, Comprehension → O5, ExceptHandler → O6, Model → O7, spliced → O8, starEach → O9, backTo → Uc, evalPairs → Ud, pairTrees → Ue, wpAny_standAt → Uf, wpAny_Slice → Uh, wpAny_letTemporaryGo → Ui, wpAny_Call_NameR → Uj, wpAny_call → Uk, wpAny_Return_some → Ul, execs → Um, wpAny_execs_nil → Un, wpAny_execs_cons → Uo, assignEach → Up, wpAny_passesOwn → Uq, FuncData → Ur, wpAny_setField → Us, GenState → Ut, OsState → Uu, wpAny_loadPart_at → Uv, wpAny_isSubtype_exc → Uw, DictEntry → Ux, FuncBody → Uy, Arguments → Uz, treeTable → UB
open PySem.Calls renaming spliced_cons → L0, spliced_nil → Oa
open PySem.W renaming SharedT → UA, boot_heap → UC
open Array renaming getElem?_eq_some_iff → NA, toList_inj → Rc, replicate → Ri, getElem?_mapIdx → RH, mk → SC
open Bool renaming and_eq_true_iff → MT, and_eq_true → MY, false_ne_true → Np, or_eq_true_iff → NQ, eq_iff_iff → PF, true_and → Qv, and_true → Qw, or_eq_true → QH, or_false → RD, false_eq_true → SM, not_eq_true' → S9, eq_false_iff → Ta
open ForInStep renaming yield → Sj
open Int renaming natCast_nonneg → M9, le_trans → N8, ofNat_le → PH, ofNat_inj → PS, natCast_pos → Qd, ofNat_lt → Qi, fmod_nonneg_of_pos → QB, toNat_of_nonneg → QV, toNat_natCast → Rb, natCast_pow → Rt, fdiv_eq_ediv_of_nonneg → Rx, ofNat_sub → RE, eq_ofNat_of_zero_le → RF, toNat_lt → RW, toNat_le → RX, sub_zero → RY, ne_of_gt → RZ, le_of_lt → R8, lt_of_lt_of_le → SY, fmod_lt_of_pos → SZ
open List renaming length_append → MH, length_map → MN, append_assoc → MR, not_mem_nil → MS, mem_cons → MW, getElem?_eq_getElem → MX, length_cons → M0, size_toArray → M1, append_nil → M3, getElem?_eq_some_iff → M4, mem_append → M5, mem_of_getElem? → M6, all_eq_true → M8, length → Nb, getElem?_append_left → Nc, mem_map → Nd, lookup_cons → Ng, getElem?_append_right → Nh, map_cons → Nl, map_append → Nm, mem_singleton → No, getElem?_set_ne → Nq, getElem?_eq_none_iff → Nt, length_range' → Nx, getElem?_map → Ny, contains_cons → Nz, replicate → NB, length_set → ND, foldl_cons → NE, getD_eq_getElem?_getD → NG, isEmpty_iff → NH, nodup_cons → NI, length_eq_zero_iff → NJ, map_map → NL, length_take → NM, length_nil → NN, take_append_drop → NP, length_drop → NT, toArray → NX, length_filter_le → N5, drop → N6, map → Pa, take_length → Pb, filter_cons_of_neg → Pc, range → Pi, contains_iff_mem → Pj, range' → Pl, drop_eq_nil_iff → Pp, reverse_cons → Pr, head?_drop → Ps, foldl_append → Pt, length_reverse → Pw, filter_cons_of_pos → Px, getElem_mem → PA, drop_drop → PB, take_of_length_le → PC, set_append_right → PE, any_eq_true → PI, map_nil → PL, mem_filterMap → PP, getElem?_set_self → PU, take_sublist → PW, mem_reverse → P6, map_congr_left → Qb, zip_cons_cons → Qf, pairwise_cons → Qg, nodup_append → Qo, map_take → Qs, getElem?_cons_zero → Qt, getElem?_cons_succ → Qu, getElem_map → Qx, drop_length → Qy, cons_append → Qz, nil_append → QC, mem_filter → QD, getElem?_toArray → QE, forIn_cons → QF, mem_range → QP, lookup → QQ, map_replicate → QX, all_cons → QY, length_range → Q5, take_append_of_le_length → Rf, map_fst_zip → Rg, zip_append → Rj, filter_nil → Rk, drop_eq_getElem_cons → Rw, eq_of_mem_replicate → Rz, map_drop → RB, any_cons → RC, set_getElem_self → RJ, mem_append_right → RK, getElem?_eq_none → RL, set_append_left → RP, range_eq_range' → RQ, mem_of_mem_drop → RS, mem_append_left → RT, length_take_le' → RU, forall_mem_cons → RV, take_succ_cons → Su, getElem_range' → Sv, getElem_of_mem → Sw, flatMap_append → Sx, filter_sublist → Sy, findIdx?_cons → SJ, take_add_one → SV, flatMap_cons → SW, drop_sublist → SX, map_reverse → Ti, getElem_inj → Tj, ext_getElem → Tk, any_toArray → Tm
open List.cons renaming injEq → Q2
open Nat renaming lt_of_le_of_lt → MM, le_trans → MO, exists_eq_succ_of_ne_zero → MP, lt_of_lt_of_le → MQ, le_of_ble_eq_true → MU, le_add_right → MV, le_refl → MZ, mul_le_mul_left → M7, add_le_add_left → Na, le_of_lt → Nk, add_le_add_right → Nr, ne_of_gt → Nv, le_succ_of_le → NC, succ_le_succ → NR, le_add_left → NS, lt_succ_self → NU, add_le_add → NZ, sub_le → N1, pow_pos → N2, add_assoc → N3, zero_add → N7, ne_of_lt → Pe, sub_self → Pk, zero_le → Pm, pow_lt_pow_right → Pq, add_sub_cancel_left → Pz, add_right_comm → PD, add_comm → PG, add_sub_cancel' → PK, lt_or_ge → PN, sub_add_cancel → PQ, blt → PR, one_mul → PX, not_lt → PY, le_of_lt_succ → PZ, mul_comm → P5, sub_sub_self → P7, sub_le_of_le_add → P9, add_lt_add → Qm, mod_eq_of_lt → QA, succ_add → QK, le_of_eq → QL, mod_lt → QM, pow_le_pow_right → QO, le_succ → QT, casesOn → QU, le_of_succ_le → Q9, ble → Ra, and_two_pow_sub_one_eq_mod → Re, min_eq_left → Rs, pow_succ → RN, eq_of_beq_eq_true → RO, add_lt_add_right → Ss, lt_of_lt_of_eq → SR, eq_zero_or_pos → SU, sub_lt → Tf, lt_succ_of_lt → Tg, lt_succ_of_le → Th
open Nat.succ renaming inj → Qr
open Ne renaming symm → Ni
open Option renaming isNone_iff_eq_none → NK, map_eq_some_iff → NW, isSome_iff_exists → Po, bind_eq_some_iff → Pv, map_some → PM, none → P8, getD_some → Q3, bind_some → Q4, map → Sq
open Option.some renaming inj → MI, injEq → N9
open Or renaming elim → N0
open Prod renaming ext → SI
open Prod.mk renaming injEq → QN, inj → Q8
open PyProof.Rows renaming neg_int → Qn
open PySem renaming Str → MJ, Expr → ML, Env → Nf, Builtin → Ph, setAttr → QS, call → Q0, callWith_type → RM, typeIs_int → SO, wpAny_ite → Tb
open PySem.Around renaming frames_deeper → QI
open PySem.Builtin.Bytes renaming sliced → Q6, subscript? → S7, sliceParts → S8, fitsIndex → Tq
open PySem.Builtin.Str renaming strSliceIndices → P1
open PySem.Calls renaming spliced_cons → Qa, spliced_nil → Q7
open PySem.Challenge renaming rw_pq1112_01 → Pn
open PySem.Code renaming quiet_builtin → SL
open PySem.Data.dict renaming inj → SK
open PySem.Env renaming kindOf → NV
open PySem.Expr.Attribute renaming elim → Sp
open PySem.Expr.BoolOp renaming elim → Te
open PySem.Expr.Compare renaming elim → SQ
open PySem.Expr.Constant renaming elim → SH
open PySem.Expr.ListComp renaming elim → SG
open PySem.Expr.Subscript renaming elim → Sn
open PySem.Expr.UnaryOp renaming elim → SP
open PySem.F renaming excBase_Exception → PO, attrBase_Exception → Qc, args_tuple_add_2 → Qe, plainAttrs_list → Qk, entry_tuple_add → Ql, slot_tuple_add → Qq, store_Exception → Rh, plainAttrs_dict → Rq, args_dict_get_2 → Rr, slot_int_index → Rv, excCall_Exception → Tn, bm_called → Tp
open PySem.Heap renaming get?_push_of_some → Nj, get?_push_size → NF, lt_size → NY, get?_update_other → Pf, get?_update_self → P3, update_setField_same → Qj, SameBut → QG, size_push → Ry, get?_none_of_le → Sg, get?_update_ne → SA, get?_push_at → S6
open PySem.Heap.DictOf renaming new → RG
open PySem.Heap.IsSliceOf renaming new → P0
open PySem.NameKind renaming free → N4, cell → PJ
open PySem.Obj renaming mapFields → Py, isFreed_of_fields → P4, data_mapFields → Qh, mapSeq → RA
open PySem.Stmt.Assign renaming elim → Td
open PySem.Stmt.AugAssign renaming elim → Sm
open PySem.Stmt.Continue renaming elim → SE
open PySem.Stmt.Return renaming elim → Tc
open PySem.UnaryOp renaming USub → QW
open PySem.Value renaming ref → NO, none → Pg, builtin → Qp, type → SD
open PySem.Value.ref renaming inj → QJ
open PySem.W renaming typeIs_bytes → P2, eq_bytes → Sl
open PySem.W.FB renaming slot_bytes_getitem → PT
open PySem.W.Fast renaming tw14364793385576792824 → Rl, tw11892475500146522536 → Rn, tw10156331382660048174 → Rp, tw6613529449190102663 → Ru
open PySem.W.KBy renaming ite_no → Pu
open PySem.W.WData renaming bool → QZ
open PySem.W.WShape renaming hasItems → SN
open PySem.Within renaming cons → RI, nil → Sk
open UInt8 renaming ofNat → Nu, toNat_ofNat' → QR
section
open PySem PySem.W PyProof.Rows
namespace Internal
theorem UD{p:Prop}[Decidable p](h:decide p=true):p:=of_decide_eq_true h
theorem UE{p:Prop}[Decidable p](h:p):decide p=true:=decide_eq_true h
theorem UF{p:Prop}[Decidable p](h:¬p):decide p=false:=decide_eq_false h
theorem jw{P R:Prop}(a:P)(b:R):P/\R:=⟨a,b⟩
theorem ny{A:Sort _}{P:A->Prop}(x:A)(a:P x):∃x,P x:=⟨x,a⟩
theorem bj{P R:Prop}{Q:Prop}(h:P/\R)(k:P->R->Q):Q:=h.elim λa b=>k a b
theorem bx{A:Sort _}{P:A->Prop}{Q:Prop}(h:∃x,P x)(k:∀x,P x->Q):Q:=h.elim λx a=>k x a
theorem dq{P R S:Prop}(a:P)(b:R)(c:S):P/\R/\S:=⟨a,b,c⟩
theorem gQ{A:Sort _}{B:Sort _}{P:A->B->Prop}(x:A)(y:B)(a:P x y):∃x,∃y,P x y:=⟨x,y,a⟩
theorem fE{P R S:Prop}{Q:Prop}(h:P/\R/\S)(k:P->R->S->Q):Q:=h.elim λa h=>h.elim λb c=>k a b c
theorem fx{A:Sort _}{B:Sort _}{P:A->B->Prop}{Q:Prop}(h:∃x,∃y,P x y)(k:∀x y,P x y->Q):Q:=h.elim λx h=>h.elim λy a=>k x y a
theorem eK{P R S T:Prop}(a:P)(b:R)(c:S)(d:T):P/\R/\S/\T:=⟨a,b,c,d⟩
theorem ik{A:Sort _}{B:Sort _}{C:Sort _}{P:A->B->C->Prop}(x:A)(y:B)(z:C)(a:P x y z):∃x,∃y,∃z,P x y z:=⟨x,y,z,a⟩
theorem fg{P R S T:Prop}{Q:Prop}(h:P/\R/\S/\T)(k:P->R->S->T->Q):Q:=h.elim λa h=>h.elim λb h=>h.elim λc d=>k a b c d
theorem gy{A:Sort _}{B:Sort _}{C:Sort _}{P:A->B->C->Prop}{Q:Prop}(h:∃x,∃y,∃z,P x y z)(k:∀x y z,P x y z->Q):Q:=h.elim λx h=>h.elim λy h=>h.elim λz a=>k x y z a
theorem bT{P R S T U:Prop}(a:P)(b:R)(c:S)(d:T)(e:U):P/\R/\S/\T/\U:=⟨a,b,c,d,e⟩
theorem eM{A:Sort _}{B:Sort _}{C:Sort _}{D:Sort _}{P:A->B->C->D->Prop}(x:A)(y:B)(z:C)(w:D)(a:P x y z w):∃x,∃y,∃z,∃w,P x y z w:=⟨x,y,z,w,a⟩
theorem bh{P R S T U:Prop}{Q:Prop}(h:P/\R/\S/\T/\U)(k:P->R->S->T->U->Q):Q:=h.elim λa h=>h.elim λb h=>h.elim λc h=>h.elim λd e=>k a b c d e
theorem bD{A:Sort _}{B:Sort _}{C:Sort _}{D:Sort _}{P:A->B->C->D->Prop}{Q:Prop}(h:∃x,∃y,∃z,∃w,P x y z w)(k:∀x y z w,P x y z w->Q):Q:=h.elim λx h=>h.elim λy h=>h.elim λz h=>h.elim λw a=>k x y z w a
theorem aE{A:Sort _}{P R:A->Prop}(x:A)(a:P x)(b:R x):∃x,P x/\R x:=ny x (jw a b)
theorem vi{A:Sort _}{P:Prop}{R:A->Prop}{Q:Prop}(h:P/\∃x,R x)(k:P->∀x,R x->Q):Q:=bj h λa h=>bx h λx b=>k a x b
theorem aA{A:Sort _}{P R:A->Prop}{Q:Prop}(h:∃x,P x/\R x)(k:∀x,P x->R x->Q):Q:=bx h λx h=>bj h λa b=>k x a b
theorem fw{A:Sort _}{P R S:A->Prop}(x:A)(a:P x)(b:R x)(c:S x):∃x,P x/\R x/\S x:=ny x (dq a b c)
theorem pK{A:Sort _}{B:Sort _}{P R:A->B->Prop}(x:A)(y:B)(a:P x y)(b:R x y):∃x,∃y,P x y/\R x y:=gQ x y (jw a b)
theorem qV{A:Sort _}{P:Prop}{R S:A->Prop}{Q:Prop}(h:P/\∃x,R x/\S x)(k:P->∀x,R x->S x->Q):Q:=bj h λa h=>bx h λx h=>bj h λb c=>k a x b c
theorem cF{A:Sort _}{P R S:A->Prop}{Q:Prop}(h:∃x,P x/\R x/\S x)(k:∀x,P x->R x->S x->Q):Q:=bx h λx h=>fE h λa b c=>k x a b c
theorem K8{A:Sort _}{B:Sort _}{P R:A->B->Prop}{Q:Prop}(h:∃x,∃y,P x y/\R x y)(k:∀x y,P x y->R x y->Q):Q:=fx h λx y h=>bj h λa b=>k x y a b
theorem dY{A:Sort _}{P R:Prop}{S T:A->Prop}(a:P)(b:R)(x:A)(c:S x)(d:T x):P/\R/\∃x,S x/\T x:=dq a b (ny x (jw c d))
theorem d0{A:Sort _}{P R S T:A->Prop}(x:A)(a:P x)(b:R x)(c:S x)(d:T x):∃x,P x/\R x/\S x/\T x:=ny x (eK a b c d)
theorem ki{A:Sort _}{B:Sort _}{P R:A->Prop}{S:A->B->Prop}(x:A)(a:P x)(b:R x)(y:B)(c:S x y):∃x,P x/\R x/\∃y,S x y:=ny x (dq a b (ny y c))
theorem fM{A:Sort _}{B:Sort _}{P R S:A->B->Prop}(x:A)(y:B)(a:P x y)(b:R x y)(c:S x y):∃x,∃y,P x y/\R x y/\S x y:=gQ x y (dq a b c)
theorem iJ{A:Sort _}{B:Sort _}{C:Sort _}{P R:A->B->C->Prop}(x:A)(y:B)(z:C)(a:P x y z)(b:R x y z):∃x,∃y,∃z,P x y z/\R x y z:=ik x y z (jw a b)
theorem nj{A:Sort _}{P R:Prop}{S T:A->Prop}{Q:Prop}(h:P/\R/\∃x,S x/\T x)(k:P->R->∀x,S x->T x->Q):Q:=fE h λa b h=>bx h λx h=>bj h λc d=>k a b x c d
theorem Il{A:Sort _}{B:Sort _}{P:Prop}{R S:A->B->Prop}{Q:Prop}(h:P/\∃x,∃y,R x y/\S x y)(k:P->∀x y,R x y->S x y->Q):Q:=bj h λa h=>fx h λx y h=>bj h λb c=>k a x y b c
theorem eB{A:Sort _}{P R S T:A->Prop}{Q:Prop}(h:∃x,P x/\R x/\S x/\T x)(k:∀x,P x->R x->S x->T x->Q):Q:=bx h λx h=>fg h λa b c d=>k x a b c d
theorem mX{A:Sort _}{B:Sort _}{P R:A->Prop}{S:A->B->Prop}{Q:Prop}(h:∃x,P x/\R x/\∃y,S x y)(k:∀x,P x->R x->∀y,S x y->Q):Q:=bx h λx h=>fE h λa b h=>bx h λy c=>k x a b y c
theorem fk{A:Sort _}{B:Sort _}{P R S:A->B->Prop}{Q:Prop}(h:∃x,∃y,P x y/\R x y/\S x y)(k:∀x y,P x y->R x y->S x y->Q):Q:=fx h λx y h=>fE h λa b c=>k x y a b c
theorem dZ{A:Sort _}{B:Sort _}{C:Sort _}{P R:A->B->C->Prop}{Q:Prop}(h:∃x,∃y,∃z,P x y z/\R x y z)(k:∀x y z,P x y z->R x y z->Q):Q:=gy h λx y z h=>bj h λa b=>k x y z a b
theorem lX{P R S T U Vq0:Prop}(a:P)(b:R)(c:S)(d:T)(e:U)(f:Vq0):P/\R/\S/\T/\U/\Vq0:=bT a b c d (jw e f)
theorem jg{A:Sort _}{B:Sort _}{P R S T:A->B->Prop}(x:A)(y:B)(a:P x y)(b:R x y)(c:S x y)(d:T x y):∃x,∃y,P x y/\R x y/\S x y/\T x y:=gQ x y (eK a b c d)
theorem lZ{A:Sort _}{B:Sort _}{C:Sort _}{P R S:A->B->C->Prop}(x:A)(y:B)(z:C)(a:P x y z)(b:R x y z)(c:S x y z):∃x,∃y,∃z,P x y z/\R x y z/\S x y z:=ik x y z (dq a b c)
theorem fb{A:Sort _}{B:Sort _}{P R S T:A->B->Prop}{Q:Prop}(h:∃x,∃y,P x y/\R x y/\S x y/\T x y)(k:∀x y,P x y->R x y->S x y->T x y->Q):Q:=fx h λx y h=>fg h λa b c d=>k x y a b c d
theorem fF{A:Sort _}{B:Sort _}{C:Sort _}{P R S:A->B->C->Prop}{Q:Prop}(h:∃x,∃y,∃z,P x y z/\R x y z/\S x y z)(k:∀x y z,P x y z->R x y z->S x y z->Q):Q:=gy h λx y z h=>fE h λa b c=>k x y z a b c
theorem cY{A:Sort _}{B:Sort _}{C:Sort _}{P:Prop}{R S T:A->B->C->Prop}(a:P)(x:A)(y:B)(z:C)(b:R x y z)(c:S x y z)(d:T x y z):P/\∃x,∃y,∃z,R x y z/\S x y z/\T x y z:=jw a (ik x y z (dq b c d))
theorem hR{A:Sort _}{B:Sort _}{C:Sort _}{P R S T:A->B->C->Prop}(x:A)(y:B)(z:C)(a:P x y z)(b:R x y z)(c:S x y z)(d:T x y z):∃x,∃y,∃z,P x y z/\R x y z/\S x y z/\T x y z:=ik x y z (eK a b c d)
theorem cU{A:Sort _}{B:Sort _}{C:Sort _}{P R S T:A->B->C->Prop}{Q:Prop}(h:∃x,∃y,∃z,P x y z/\R x y z/\S x y z/\T x y z)(k:∀x y z,P x y z->R x y z->S x y z->T x y z->Q):Q:=gy h λx y z h=>fg h λa b c d=>k x y z a b c d
theorem CQ{A:Sort _}{B:Sort _}{C:Sort _}{D:Sort _}{P R S:A->B->C->D->Prop}{Q:Prop}(h:∃x,∃y,∃z,∃w,P x y z w/\R x y z w/\S x y z w)(k:∀x y z w,P x y z w->R x y z w->S x y z w->Q):Q:=bD h λx y z w h=>fE h λa b c=>k x y z w a b c
theorem gS{A:Sort _}{B:Sort _}{P:Prop}{R S T U Vq0:A->B->Prop}(a:P)(x:A)(y:B)(b:R x y)(c:S x y)(d:T x y)(e:U x y)(f:Vq0 x y):P/\∃x,∃y,R x y/\S x y/\T x y/\U x y/\Vq0 x y:=jw a (gQ x y (bT b c d e f))
theorem AX{A:Sort _}{B:Sort _}{P R:Prop}{S T U Vq0:A->B->Prop}{Q:Prop}(h:P/\R/\∃x,∃y,S x y/\T x y/\U x y/\Vq0 x y)(k:P->R->∀x y,S x y->T x y->U x y->Vq0 x y->Q):Q:=fE h λa b h=>fx h λx y h=>fg h λc d e f=>k a b x y c d e f
theorem dX{A:Sort _}{B:Sort _}{P:Prop}{R S T U Vq0:A->B->Prop}{Q:Prop}(h:P/\∃x,∃y,R x y/\S x y/\T x y/\U x y/\Vq0 x y)(k:P->∀x y,R x y->S x y->T x y->U x y->Vq0 x y->Q):Q:=bj h λa h=>fx h λx y h=>bh h λb c d e f=>k a x y b c d e f
theorem gH{A:Sort _}{B:Sort _}{C:Sort _}{P R S T U Vq0:A->B->C->Prop}{Q:Prop}(h:∃x,∃y,∃z,P x y z/\R x y z/\S x y z/\T x y z/\U x y z/\Vq0 x y z)(k:∀x y z,P x y z->R x y z->S x y z->T x y z->U x y z->Vq0 x y z->Q):Q:=gy h λx y z h=>bh h λa b c d h=>bj h λe f=>k x y z a b c d e f
theorem law_said:Pn.wellSaid=true:=by
 rw[PySem.W.Fast.te9446332074065402090]
 kernel_rfl
end Internal
end
section
namespace Internal
section
theorem cps{P:Prop}(h:∀Gz:Prop,(P->Gz)->Gz):P:=h P id
theorem MF{A:Sort _}{p0:A->Prop}(h:∀Gz:Prop,(∀x,p0 x->Gz)->Gz):∃x,p0 x:=h _ λx a=>⟨x,a⟩
theorem Js{p0:Prop}{p1:Prop}{p2:Prop}(h:∀Gz:Prop,(p0->p1->p2->Gz)->Gz):p0/\p1/\p2:=h _ λa b c=>⟨a,b,c⟩
theorem Gm{A:Sort _}{p0:A->Prop}{p1:A->Prop}(h:∀Gz:Prop,(∀x,p0 x->p1 x->Gz)->Gz):∃x,p0 x/\p1 x:=h _ λx a b=>⟨x,a,b⟩
theorem Lg{A:Sort _}{p0:A->Prop}{p1:A->Prop}{p2:A->Prop}(h:∀Gz:Prop,(∀x,p0 x->p1 x->p2 x->Gz)->Gz):∃x,p0 x/\p1 x/\p2 x:=h _ λx a b c=>⟨x,a,b,c⟩
theorem Ew{A:Sort _}{B:Sort _}{C:Sort _}{D:Sort _}{p0:A->B->C->D->Prop}{p1:A->B->C->D->Prop}{p2:A->B->C->D->Prop}(h:∀Gz:Prop,(∀x y z w,p0 x y z w->p1 x y z w->p2 x y z w->Gz)->Gz):∃x,∃y,∃z,∃w,p0 x y z w/\p1 x y z w/\p2 x y z w:=h _ λx y z w a b c=>⟨x,y,z,w,a,b,c⟩
theorem xu{A:Sort _}{B:Sort _}{C:Sort _}{p0:A->B->C->Prop}{p1:A->B->C->Prop}{p2:A->B->C->Prop}{p3:A->B->C->Prop}{p4:A->B->C->Prop}{p5:A->B->C->Prop}{p6:A->B->C->Prop}(h:∀Gz:Prop,(∀x y z,p0 x y z->p1 x y z->p2 x y z->p3 x y z->p4 x y z->p5 x y z->p6 x y z->Gz)->Gz):∃x,∃y,∃z,p0 x y z/\p1 x y z/\p2 x y z/\p3 x y z/\p4 x y z/\p5 x y z/\p6 x y z:=h _ λx y z a b c d e f g=>⟨x,y,z,a,b,c,d,e,f,g⟩
theorem xC{A:Sort _}{B:Sort _}{C:Sort _}{D:Sort _}{E:Sort _}{F:Sort _}{p0:A->B->C->D->E->F->Prop}{p1:A->B->C->D->E->F->Prop}{p2:A->B->C->D->E->F->Prop}{p3:A->B->C->D->E->F->Prop}(h:∀Gz:Prop,(∀x y z w u v,p0 x y z w u v->p1 x y z w u v->p2 x y z w u v->p3 x y z w u v->Gz)->Gz):∃x,∃y,∃z,∃w,∃u,∃v,p0 x y z w u v/\p1 x y z w u v/\p2 x y z w u v/\p3 x y z w u v:=h _ λx y z w u v a b c d=>⟨x,y,z,w,u,v,a,b,c,d⟩
section
variable{a b c d k m n p:Nat}
theorem q1(h:a+(b+1)<n)(e:n<=m):a+1+b<m:=MQ (QK a b▸h) e
theorem q2(h:a+(b+1)<n)(e:n<=m):a+b<m:=MQ (Nat.lt_of_succ_lt h) e
theorem q4(h:a+b<n)(e:n<=m):a<m:=MM (MV a b) (MQ h e)
theorem q3(h:a+(b+1)<n)(e:n<=m):a+1<m:=MM (NR (MV a b)) (MQ h e)
theorem q7(h:a+b<=n)(e:n<m):b<m:=MM (MO (NS b a) h) e
theorem q8(h:a+k*(b+1)<n)(e:n<=m):a+k<m:=MM (Na (NS k (k*b)) a) (MQ h e)
theorem q9(h:a+k*(b+1)<n)(e:n<=m):a+k*b<m:=MM (Na (MV (k*b) k) a) (MQ h e)
theorem q11(h:a+(b+1)=n):a+1+b=n:=(QK a b).trans h
theorem q12(h:a+(b+1)=n):a<n:=h▸Th (MV a b)
theorem q13(h:a<=b)(h2:c+b<n)(e:n<=m):c+a<m:=MM (Na h c) (MQ h2 e)
theorem q15(h:a<n)(h2:b<m)(e:n+m<=p):a+b<p:=MQ (Qm h h2) e
theorem q18(h:a=b)(h2:b<=n)(e:n<=m):a<=m:=h▸MO h2 e
theorem q22(h:a+(b+1)<n)(h2:c<=a+1)(e:n<=m):c+b<m:=MM (Nr h2 b) (q1 h e)
theorem q24(h:a<=n)(h2:b<a)(e:n<=m):a - 1 - b<=m:=MO (N1 _ _) (MO (N1 _ _) (MO h e))
theorem q25(h:b<a):b<=a - 1:=Nat.le_sub_one_of_lt h
theorem q27(h:a+b<=c):a+(b+1)<=c+2:=NC (NR h)
theorem q28(h:2*(a+1)<=b):2*a<=b:=MO (MV (2*a) 2) h
theorem q29(h:a<0+(b+1)):a<=b:=PZ (SR h (N7 (b+1)))
theorem q32(h:a<b):a<b+c:=Nat.lt_add_right c h
theorem q34(h:0<a):0<(a:Int):=Qd.mpr h
theorem q37(h:a<=8*b)(h2:b<=n)(e:8*n<=m):a<=m:=MO h (MO (M7 8 h2) e)
theorem q38(h:a<=8*b)(h2:b<=n)(e:8*n+k<m):a+k<m:=MM (Nr (MO h (M7 8 h2)) k) e
theorem q40(h:a<=k*b):a<=k*(b+1):=MO h (MV _ _)
theorem q41(h:a<=k*b)(e:c<=k):a+c<=k*(b+1):=NZ h e
theorem q42(h:a<=b+c)(e:b<=d+1):a<=d+(c+1):=MO h (MO (Nr e c) (QL (QK d c)))
theorem q44(h:0<a):1<=1*a:=(PX a).symm▸h
theorem q46(h:0<a):a - 1<a:=Tf h Nat.one_pos
theorem q48(h:a<b+1+c):a<b+(c+1):=SR h (QK b c)
theorem q49(h:a<=b)(e:c+1<=a):c<=b:=Q9 (MO e h)
theorem q50(h:a+1<=b):a<=b:=Q9 h
theorem q51(h:a<b)(e:b+c<=m):a+c<m:=MQ (Ss h c) e
theorem q52(h:a<=b)(e:b+c<m):a+c<m:=MM (Nr h c) e
theorem q53(h:a<=b)(e:k*b<m):k*a<m:=MM (M7 k h) e
theorem q54(h:a<=b)(e:k*b<=m):k*a<=m:=MO (M7 k h) e
theorem q55(h:a<b)(e:b<=c):c≠a:=Nv (MQ h e)
theorem q56(h:a<b)(e:b<=c):a≠c:=Pe (MQ h e)
theorem q57(h:a=b):(a:Int)=b:=congrArg Nat.cast h
theorem q60(h:a+b+c=8*m):8*(o+m) - (0+c) - b=8*o+a:=by rw[Nat.mul_add, <-h,N7, <-N3,Nat.add_sub_cancel, <-N3,Nat.add_sub_cancel]
theorem q61(h:b<=8*m - d):b<=8*(o+m) - d:=MO h (Nat.sub_le_sub_right (M7 8 (NS m o)) d)
theorem q62{f b:Nat}(hf:f<8)(h:0<b/\b<=200):f+b<=8*((f+b+7) / 8)/\0<(f+b+7) / 8/\(f+b+7) / 8<=30:=
 ⟨PZ (Nat.lt_of_add_lt_add_right (n:=7) (Nat.lt_mul_div_succ (f+b+7) (b:=8) (by decide))),Nat.div_pos (Nr (MO h.1 (NS b f)) 7) (by decide),
  PZ (Nat.div_lt_of_lt_mul (MQ (Ss (Nat.add_lt_add_of_lt_of_le hf h.2) 7) (by decide)))⟩
theorem q63(h:0<b/\b<=200):f % 8+b<=8*((f % 8+b+7) / 8)/\0<(f % 8+b+7) / 8/\(f % 8+b+7) / 8<=30:=q62 (QM f (by decide)) h
theorem q64(h:0<b/\b<=200):0<(f % 8+b+7) / 8/\(f % 8+b+7) / 8<=40:=⟨(q63 h).2.1,MO (q63 h).2.2 (by decide)⟩
theorem q65(h:0<b/\b<=200):0<(0+b+7) / 8/\(0+b+7) / 8<=40:=q64 (f:=0) h
theorem q66:8*(o+m) - 0 - 8*m=8*o:=(Nat.mul_add 8 o m).symm▸Nat.add_sub_cancel (8*o) (8*m)
theorem q67{n:Nat}(h:a+b+c=n):n - a - b=c:=by rw[<-h,N3,Pz,Pz]
theorem q68{n:Nat}(h:a+b<=n):b+(n - a - b)<=n:=MO (Nr (NS b a) _) (QL (by rw[Nat.sub_sub];exact PK h))
theorem q69(h:m<=30)(e:8*m - a - b=c):c<=1000:=e▸MO (N1 _ _) (MO (N1 _ _) (MO (M7 8 h) (by decide)))
theorem q70{n:Nat}(h:f+b+c=n):f<=n:=h▸MO (MV f b) (MV _ c)
theorem q71{n:Nat}(h:f+b+c=n):b<=n:=h▸MO (NS b f) (MV _ c)
theorem q72{n:Nat}(h:f+b+c=n):b<=n - f:=Nat.le_sub_of_add_le (h▸PG f b▸MV (f+b) c)
theorem q73{f b c m:Nat}(h:f+b+c=8*m)(e:0<f\/0<c):¬((m*8:Nat):Int)=(b:Int):=λz=>
 e.elim (λk=>Nv (MQ (Nat.lt_add_of_pos_left k) (MV _ c)) (h.trans ((P5 8 m).trans (PS.mp z))))
  λk=>Nv (MM (NS b f) (Nat.lt_add_of_pos_right k)) (h.trans ((P5 8 m).trans (PS.mp z)))
theorem q75(h:m<=20)(e:b<=8*m - d):b<=1000:=MO e (MO (N1 _ _) (MO (M7 8 h) (by decide)))
theorem q76(h:m<=20):8*m - d<200:=MM (N1 _ _) (MM (M7 8 h) (by decide))
theorem q77(h:a+b+0=8*m):8*(o+m) - 0 - (b+0)=8*o+a:=by rw[Nat.mul_add, <-h];show 8*o+(a+b) - b=_;rw[<-N3,Nat.add_sub_cancel]
theorem q78{n:Nat}(h:a+b<=n):b<=n - a:=Nat.le_sub_of_add_le (PG a b▸h)
theorem q79(h:m<=20)(e:f+b+c=8*m):b<=1000:=MO (q71 e) (MO (M7 8 h) (by decide))
theorem q80{a b:Nat}(h:¬(0<a\/0<b)):¬0<b:=λz=>h (.inr z)
theorem q81{a:Nat}(h:¬0<a):¬0<(a:Int):=λz=>h (Qd.mp z)
theorem q82(h:¬(a=0/\c=0)):0<a\/0<c:=(SU a).elim (λe=> .inr (Nat.pos_of_ne_zero λz=>h ⟨e,z⟩)) .inl
theorem q83{n i a:Nat}(h:2*n<=a+1)(hi:i<n):(a:Int)+1 - (2*n:Nat)+(2*i:Nat)=((a+1 - 2*(n - i):Nat):Int):=by
 rw[RE (MO (M7 2 (N1 n i)) h),show 2*n=2*(n - i)+2*i by rw[<-Nat.mul_add,PQ (Nk hi)],Int.natCast_add, <-Int.sub_sub,Int.sub_add_cancel];rfl
theorem q84{n a q:Nat}(h:2*(n+1)<=a)(e:a+1<=q+2*n/\P):a+1 - 2*(n+1)<q:=Nat.sub_lt_left_of_lt_add (NC h) (MM e.1 (PG q (2*(n+1))▸Nat.add_lt_add_left (Nat.lt_add_of_pos_right (by decide:0<2)) q))
theorem q85(h:2*(n+1)<=a):a+1 - 2*(n+1)+1<=a:=by rw[<-Nat.sub_add_comm (NC h)];exact P9 (Na (NS 2 (2*n)) a)
theorem q86(h:k<=a):a+1<=a+1 - k+k:=QL (PQ (NC h)).symm
theorem q87(h:2*n<=a):2*(n - m)<=a+1:=NC (MO (M7 2 (N1 n m)) h)
theorem q88(h:i+(k+1)=n+1)(e:¬i=n)(z:0=n - i):False:=e (Nat.le_antisymm (Qr h▸MV i k) (Nat.le_of_sub_eq_zero z.symm))
theorem q89{m H F K G T A:Nat}(hm:m<=H)(h1:F<=K+G)(h2:G=H - m)(h3:T=m)(h4:K+H<=A):F+T<=A:=by
 subst h2 h3;exact MO (Nr h1 _) (by rw[N3,PQ hm];exact h4)
theorem q90{m H F K G T A S B:Nat}(hm:m<=H)(h1:F<=K+G)(h2:G=H - m)(h3:T=m)(h4:K+H<=A)(h5:S+H<=A)(h6:B+H<=A)(h:A+1<=80):F+T<90/\S+T<800/\B+(H - m)+T<800:=
 ⟨MM (q89 hm h1 h2 h3 h4) (MQ h (by decide)),MM (MO (Na (h3▸hm) S) h5) (MQ h (by decide)),
  MM (q89 hm (MZ (B+(H - m))) rfl h3 h6) (MQ h (by decide))⟩
theorem q92{B H A a L m:Nat}(h1:L=B+(H - m))(h2:B+H<=A)(h:A<=a):L+0<=a+1:=h1▸NC (MO (Na (N1 H m) B) (MO h2 h))
theorem q93{S H A a L m:Nat}(h1:L=S+m+1)(hm:m<=H)(h2:S+H<=A)(h:A<=a):L+0<=a+1:=h1▸NR (MO (Na hm S) (MO h2 h))
theorem q94{K H A S B:Nat}(h4:K+H<=A)(h5:S+H<=A)(h6:B+H<=A)(h:A<80):K+H<90/\S+H<800/\B+H<800:=⟨MM h4 (MQ h (by decide)),MM h5 (MQ h (by decide)),MM h6 (MQ h (by decide))⟩
theorem q95{X Yq0 l s L r:Nat}(h:X<=2*l/\Yq0<=s+l)(hs:s<=L+1)(hr:r=2):r+X<=2*(l+1)/\Yq0<=L+(l+1):=⟨by rw[hr,PG];exact Nr h.1 2,MO h.2 (MO (Nr hs l) (QL (QK L l)))⟩
theorem q96{X Yq0 l L:Nat}(h:X<=2*l/\Yq0<=L+l):X<=2*(l+1)/\Yq0<=L+(l+1):=⟨MO h.1 (MV _ 2),NC h.2⟩
theorem q97{A W m:Nat}(h:A<100)(e:W<100):W - m+A<4000:=MM (Nr (N1 _ _) _) (MQ (Qm e h) (by decide))
theorem q98{X B m W:Nat}(h:X<=B+min m W)(e:B<100)(f:W<100):X<4000:=MM (MO h (Na (Nat.min_le_right _ _) _)) (MQ (Qm e f) (by decide))
theorem q99{n q a b c d e:Nat}(h:n<=q)(ha:a<n)(hb:b<n)(hc:c<n)(hd:d<n)(he:e<n):¬q=a/\¬q=b/\¬q=c/\¬q=d/\¬q=e:=⟨q55 ha h,q55 hb h,q55 hc h,q55 hd h,q55 he h⟩
theorem q100{m k:Nat}(h:k<m):m+1 - 1 - k=m - 1 - k+1:=by rw[Nat.sub_right_comm m 1 k,PQ (Nat.sub_pos_of_lt h)];rfl
theorem q101{n j x:Nat}(h:x+n<c):n+min j x<c:=MM (Na (Nat.min_le_right _ _) n) (PG x n▸h)
theorem q102{n a b:Nat}(h:a≠b):¬n+a=n+b:=λz=>h (Nat.add_left_cancel z)
theorem q103{n b a:Nat}(h:b<n):¬n+a=b:=Nv (MQ h (MV n a))
theorem q104{n c:Nat}(h:c≠n+2/\c≠n+3):¬n+4=n+5/\¬n+4=n+6/\¬n+5=n+6/\¬n+2=n+3/\¬c=n+2/\¬c=n+3/\¬n+7=n+2/\¬n+7=n+3:=
 ⟨q102 (by decide),q102 (by decide),q102 (by decide),q102 (by decide),h.1,h.2,q102 (by decide),q102 (by decide)⟩
theorem q105{n b:Nat}(h:b<n):¬n+3=n+7/\¬n+3=b/\¬n+4=n+7/\¬n+4=b/\¬n+7=b:=⟨q102 (by decide),q103 h,q102 (by decide),q103 h,q103 h⟩
theorem q106{n b:Nat}(h:b<n):¬n+2=n+3/\¬n+2=n+4/\¬n+2=n+7/\¬n+2=b/\¬n+3=n+4:=⟨q102 (by decide),q102 (by decide),q102 (by decide),q103 h,q102 (by decide)⟩
theorem q107{n:Nat}:n<=n/\n<=n+2/\n<=n+3/\n<=n+4/\n<=n+5/\n<=n+6:=⟨MZ n,MV n 2,MV n 3,MV n 4,MV n 5,MV n 6⟩
theorem q108{m n:Nat}(h:n<a)(e:a<=c):min m n<c:=MM (Nat.min_le_right m n) (MQ h e)
theorem q109{d m w:Nat}(h:d+w<a)(e:a<=c):d+min m w<c:=MM (Na (Nat.min_le_right m w) d) (MQ h e)
theorem q110{d m w:Nat}(h:d+w<=c):d+min m w+1+0<=c+1:=NR (MO (Na (Nat.min_le_right m w) d) h)
theorem q111{d m w:Nat}(h:d+w<=a)(e:a<c):d+min m w<c:=MM (Na (Nat.min_le_right m w) d) (MM h e)
theorem q112{K m p:Nat}(h:m<=p)(hp:p<a)(hk:K<b)(e:b+a<=c):K+m<c:=MQ (Qm hk (MM h hp)) e
theorem q113{p m:Nat}(h:p<a)(e:a<=c):p - m<c:=MM (N1 p m) (MQ h e)
theorem q114{m j:Nat}(h:m<=a)(e:a<c):m - 1 - j<c:=MM (MO (N1 _ _) (N1 m 1)) (MM h e)
theorem q115{x:Nat}(h:x<c):1*x - 1<c:=MM (N1 _ _) ((PX x).symm▸h)
theorem q116{i n:Nat}(h:i<n):n - 1 - i<n:=MM (N1 _ _) (Tf (MM (Pm i) h) Nat.one_pos)
theorem q117{i n:Nat}(h:i+1<=n):n - 1 - i<n:=q116 h
theorem q118{j n:Nat}(h:j<=n):n+1 - (j+1)<n+1 - j:=by rw[Nat.succ_sub h];exact Nat.succ_sub_succ n j▸NU _
theorem q119{j n:Nat}(h:0<j)(e:j<=n):¬n - j=n:=Pe (Tf (MQ h e) h)
theorem q120{i n:Nat}(h:i≥n)(e:i - n=0):i=n:=Nat.le_antisymm (Nat.le_of_sub_eq_zero e) h
theorem q121(h:(n*256+c) / 256=n):(n*256+c) % 256=c:=Nat.add_left_cancel ((P5 n 256).symm▸(congrArg (256* · +(n*256+c) % 256) h).symm.trans (Nat.div_add_mod (n*256+c) 256))
theorem q122(h:c<256):(n*256+c) / 256=n:=by rw[P5,Nat.mul_add_div (by decide),Nat.div_eq_of_lt h];rfl
theorem q123{x y:Nat}(h:x<256)(e:y<256)(z:x % 2^8=y % 2^8):x=y:=(QA h).symm.trans (z.trans (QA e))
theorem q124{x:Nat}(h:x<256):((x % 2^8:Nat):Int)=x:=congrArg Nat.cast (QA h)
theorem q125{n p:Nat}(h:n<p*256):n / 256<p:=Nat.div_lt_of_lt_mul (P5 p 256▸h)
theorem q126{a k:Nat}(h:a=k+1):a - 1=k:=h▸rfl
theorem q127{x g p:Nat}(h:g<256)(e:x<p):x*256+g<p*256:=MQ (Nat.add_lt_add_left h _) (Nat.succ_mul x 256▸Nat.mul_le_mul_right 256 e)
theorem q128{f k:Nat}(h:k+1<=f+1):k / 256<=f:=MO (Nat.div_le_self k 256) (Nat.le_of_succ_le_succ h)
theorem q129{m:Nat}(h:m<256):4294967295+(m:Int) - 2*m=((4294967295 - m:Nat):Int):=by
 rw[RE (MO (Nk h) (by decide)),Int.two_mul,Int.add_sub_add_right];rfl
theorem q130{p:Nat}(h:256<p+1):0<((p - 1:Nat):Int):=Qd.mpr (Nat.sub_pos_of_lt (MQ (by decide) (PZ h)))
theorem q131{i:Int}{x:Nat}(h:x<=8000)(e:A/\B/\i<x/\D):i<2^63:=Int.lt_trans e.2.2.1 (Int.lt_of_le_of_lt (PH.mpr h) (by decide))
theorem q132{i:Int}{n:Nat}(h:0<=i)(e:i<n):i.toNat<n:=(RW h).mpr e
theorem q133{i:Int}{a b:Nat}(h:a=b)(e:A/\ -(b:Int)<=i/\D): -(a:Int)<=i:=h▸e.2.1
theorem q134{i:Int}{x:Nat}(h:x<=4000)(e:A/\ -(x:Int)<=i/\D): -2^63<=i:=N8 (N8 (b:= -(4000:Int)) (by decide) (Int.neg_le_neg (PH.mpr h))) e.2.1
theorem q135{i:Int}{x:Nat}(h:i<=x)(e:x<=4000):i<2^63:=Int.lt_of_le_of_lt h (Int.lt_of_le_of_lt (PH.mpr e) (by decide))
theorem q136{i:Int}{k:Nat}(h:i<=64)(e:(64:Int)<=k):i.toNat<=k:=RX.mpr (N8 h e)
theorem q137{n:Int}(h:0<=n)(e:n<=64): -2^63<=n/\n<2^63:=⟨N8 (by decide) h,Int.lt_of_le_of_lt e (by decide)⟩
theorem q138{n:Int}(h:0<n):n - 0=n.toNat:=(RY n).trans (QV (R8 h)).symm
theorem q139{i:Int}{n:Nat}(h:i<=n):min i.toNat n=i.toNat:=Rs (RX.mpr h)
theorem q140{b:Int}{k:Nat}(h:b<=1000)(e:k<=400):k+b<=2^27:=N8 (Int.add_le_add (PH.mpr e) h) (by decide)
theorem q141{M N:Nat}(h:M<=N):M+(N - M)=N:=PK h
theorem q142{x:Nat}(h:x+a<n)(e:b<=a):x+b<n:=MM (Na e x) h
theorem q143{x y:Nat}(h:x+y+a<n):x<n:=MM (MO (MV x y) (MV _ a)) h
theorem q144{x d e:Nat}(h:d<=e)(g:x+k*e+a<n):x+k*d+a<n:=MM (Nr (Na (M7 k h) x) a) g
theorem q145{a b c d e:Nat}(h:a=b)(g:c=d)(k:(A/\e<=b+d)/\B):e<=a+c:=h▸g▸k.1.2
theorem q146{w a:Nat}(h:w+2*(a+1)<n):w+2+2*a<n:=(PD w 2 (2*a)).symm▸h
theorem q148{x n:Nat}(h:x<a)(g:n<b)(e:a+2*b<=c+2):x+2*n<c:=Nat.lt_of_add_lt_add_right (n:=2) (MQ (show x+2*(n+1)<a+2*b from Nat.add_lt_add_of_lt_of_le h (M7 2 g)) e)
theorem q149{j k:Nat}(h:j<k*n):j / k<n:=Nat.div_lt_of_lt_mul h
theorem q150{k v:Nat}(h:k<=a)(e:a<=c):min k v<=c:=MO (Nat.min_le_left k v) (MO h e)
theorem q151{a k:Nat}(h:a+4<80)(g:k<=3):a+k+1<80:=MM (NR (Na g a)) h
theorem q152{w a f:Nat}(h:w<=200)(g:a<10)(k:f<=4):w+2*a+f<900:=MM (NZ (NZ h (M7 2 (Nk g))) k) (by decide)
theorem q153{w a f c:Nat}(h:w<=8*c)(g:a<=2)(k:f<=4):w+2*a+f<=8*(c+1):=N3 w (2*a) f▸NZ h (NZ (M7 2 g) k)
theorem q154{w a c:Nat}(e:8*c+8<80)(h:w<=8*c)(g:a<=2):0+(w+2*a)+4<80:=by rw[N7];exact MM (Nr (NZ h (M7 2 g)) 4) e
theorem q155{s r k l t:Nat}(h:l+100*(s+1)<n)(g:r<=t/\k<=l+100):k+100*s<n:=MM (Nr g.2 _) (PD l 100 (100*s)▸h)
theorem q156{x r k l n c:Nat}(hx:x<2500)(hn:n<100)(h:r<=2*n/\k<=l+n)(g:c<=2):x+(r+(c+1))<2900:=MQ (Nat.add_lt_add_of_lt_of_le hx (NZ (MO h.1 (M7 2 (Nk hn))) (NR g))) (by decide)
theorem q157{x r k l n:Nat}(hx:x<2500)(hn:n<100)(h:r<=2*n/\k<=l+n):x+r+1<2900:=MQ (Nat.succ_lt_succ (Nat.add_lt_add_of_lt_of_le hx (MO h.1 (M7 2 (Nk hn))))) (by decide)
theorem q158{r k l n:Nat}(hl:l<2500)(hn:n<100)(h:r<=2*n/\k<=l+n):k<2900:=MM h.2 (MQ (Qm hl hn) (by decide))
theorem q159{r k l n s:Nat}(hn:n<100)(h:r<=2*n/\k<=l+n)(g:s<=k+1):s<=l+100:=MO g (MO (NR h.2) (Na hn l))
theorem q160{r k l n c:Nat}(hn:n<100)(h:r<=2*n/\k<=l+n)(g:c<=2):r+(c+1)+1<=204:=MO (NR (NZ (MO h.1 (M7 2 (Nk hn))) (NR g))) (by decide)
theorem q161{r k l n:Nat}(hn:n<100)(h:r<=2*n/\k<=l+n):k<=l+100:=MO h.2 (Na (Nk hn) l)
theorem q162{k p:Nat}(h:k+p<a/\B)(e:a<=c):k+p<c:=MQ h.1 e
theorem q163{k p:Nat}(h:k+p<90/\B):p+1<100:=MM (NR (MO (NS p k) (Nk h.1))) (by decide)
theorem q164{a d:Nat}(h:a+20*(d+1)+200<c):a+3+20*d+210<c:=MM (by rw[PD a 3,N3 (a+20*d)];show a+20*d+213<=a+(20*d+20)+200;rw[<-N3 a];exact Na (by decide:213<=220) _) h
theorem q165{q:Nat}(h:q<65536):q*65537<256^4:=MM (Nat.mul_le_mul_right 65537 (PZ h)) (by decide)
theorem q166{a d:Nat}(h:a+k*d+x<c)(e:1+y<=x):a+1+k*d+y<c:=MM (by rw[PD a 1,N3 _ 1];exact Na e _) h
theorem q167: -1<((n:Nat):Int):=SY (by decide) (M9 n)
theorem q168{x l:Nat}(h:x+2*(l+1)<n)(e:n<=m):x+1<m:=MM (Na (MO (by decide:1<=2) (NS 2 (2*l))) x) (MQ h e)
theorem q169:k % 256<256:=QM k (by decide)
theorem q170:k / 256*256+k % 256+1=k+1:=congrArg (· +1) (Nat.div_add_mod' k 256)
theorem q171{i:Int}(h:i<256):i.toNat<256:=(Int.toNat_lt' (by decide)).mpr h
theorem q172{w k s c:Nat}(h:s<=w+k)(g:k<=2)(e:w<=3*c):s<=3*(c+1):=MO h (NZ e (NC g))
theorem q173{w c:Nat}(h:8*c+2<80)(e:w<=8*c):0+w+2<80:=MM ((N7 w).symm▸Nr e 2) h
theorem q174{a b:Nat}(h:0<a\/0<b)(e:¬0<a):0<(b:Int):=Qd.mpr (h.resolve_left e)
theorem q175{b:Int}(h:b<=1000):b<=1000000:=N8 h (by decide)
theorem q176{b:Int}(h:0<b):b.natAbs≠0:=λe=>RZ h (Int.natAbs_eq_zero.mp e)
theorem q177{i n:Nat}(h:n - i=0):n<=i:=Nat.le_of_sub_eq_zero h
theorem q179{n:Int}{p:Bool}(h:(p&&decide (n<4000))=true):n<2^62:=Int.lt_trans (UD ((MY _ _).mp h).2) (by decide)
theorem q180{m H F E K G T A a:Nat}(h5:E<=F+T)(h1:F<=K+G)(h2:G=H - m)(h3:T=m)(hm:m<=H)(h4:K+H<=A)(h:A<=a):E+0<=a+1:=NC (MO h5 (MO (q89 hm h1 h2 h3 h4) h))
theorem q181{b m d:Nat}(h:b<=8*m - d)(e:m<=n)(k:8*n<c):b<c:=MM (MO h (N1 _ _)) (MM (M7 8 e) k)
theorem q182{f b c m:Nat}(h:f+b+c=8*m)(e:¬(0<f\/0<c)):¬ ¬((m*8:Nat):Int)=(b:Int):=λz=>z (by rw[show f=0 from Nat.eq_zero_of_not_pos λz=>e (.inl z),show c=0 from Nat.eq_zero_of_not_pos λz=>e (.inr z),N7] at h;exact congrArg Nat.cast ((P5 m 8).trans h.symm))
theorem q183{b:Int}(h:0<b)(e:b<2^400):b.natAbs<2^400:=Int.natAbs_lt_natAbs_of_nonneg_of_lt (R8 h) e
theorem q184{f b c m:Nat}(e:f+b+c=8*m)(h:m<=n)(k:8*n<x):b<x:=MM (q71 e) (MM (M7 8 h) k)
theorem q185{i:Int}{x:Nat}(h:x<=4000)(e:A/\B/\i<x/\D):i<2^63:=q131 (MO h (by decide)) e
theorem q186{x r k l n:Nat}(hx:x<2500)(hn:n<100)(h:r<=2*n/\k<=l+n):x+r+1<3000:=Nat.lt_trans (q157 hx hn h) (by decide)
theorem q187{x s r:Nat}(h:x+204*(s+1)<n)(g:r<=204/\P):x+r+204*s<n:=MM (N3 x r _▸Na (PG r _▸Na g.1 (204*s)) x) h
theorem q188{k p:Nat}(h:A/\B/\k+p<a)(e:a<=c):k+p<c:=MQ h.2.2 e
theorem q190{w a c:Nat}(e:8*c+8<80)(h:w<=8*c)(g:a<=2):0+w+2*a<80:=MM (NZ ((N7 w).symm▸h) (MO (M7 2 g) (by decide))) e
theorem q191{n:Nat}:n<=n/\n<=n+2/\n<=n+3/\n<=n+4/\n<=n+5/\n<=n+6/\n<=n+7:=⟨MZ n,MV n 2,MV n 3,MV n 4,MV n 5,MV n 6,MV n 7⟩
theorem q192{a d:Nat}(h:a+d+200<c):a+30+1<c:=MM (show a+31<=a+d+200 from NZ (MV a d) (by decide)) h
theorem q193{a b c:Nat}(g:c<=a+1)(h:a+(b+1)<n)(e:n<=m):c+b<m:=q22 h g e
theorem q194{k p:Nat}(h:k+p<a/\B)(e:a<=c):p<c:=MM (NS p k) (MQ h.1 e)
theorem q195{a d:Nat}(h:a+3*(d+1)+3<c):a+1+3*d+5<c:=by rw[PD a 1];exact h
theorem q196{i:Int}{x:Nat}(h:x<=8000)(e:A/\ -(x:Int)<=i/\D): -2^63<=i:=N8 (N8 (b:= -(8000:Int)) (by decide) (Int.neg_le_neg (PH.mpr h))) e.2.1
theorem q197{i k n m:Nat}(h:i+(k+1)=n)(e:n<=m):i<m:=MQ (q12 h) e
theorem q198{a b:Nat}(h:¬(0<a\/0<b)):¬0<(b:Int):=λz=>h (.inr (Qd.mp z))
theorem q199{x y z:Nat}(h:x<=400)(e:y<=400)(g:(x:Int)+y>z)(k:(z:Int)=134217728):False:=absurd (N8 (Int.add_le_add (PH.mpr h) (PH.mpr e)) (by decide:(400:Int)+400<=134217728)) (Int.not_le.mpr (k▸g))
theorem q201{x y:Nat}(h:x+y+a<n)(e:b<=a):x+b<n:=MM (NZ (MV x y) e) h
theorem q202{n:Int}{p:Bool}(h:(decide (0<=n)&&p)=true): -2^62<=n:=N8 (by decide) (UD ((MY _ _).mp h).1)
theorem q203{w a:Nat}(h:w<=k)(g:a<l)(e:k+l<=c):w+a<c:=MQ (Nat.add_lt_add_of_le_of_lt h g) e
theorem q204:n / 256*256+n % 256=n:=Nat.div_add_mod' n 256
theorem q205{m n:Nat}(h:m<0+(n+1)/\P):m<=n:=q29 h.1
theorem q206{k:Nat}(h:¬k<8):¬(k:Int)<5:=λz=>h (MQ (Qi.mp z) (by decide))
theorem q207{a m:Nat}(g:a<l)(h:m<=n)(e:l+n<=c):a+m<c:=MQ (Nat.add_lt_add_of_lt_of_le g h) e
theorem q208{a b c:Nat}(h:a=b)(g:(b<=c/\A)/\B):a<=c:=h▸g.1.1
theorem q209{s:Nat}(h:s<=n)(e:k*n<c):0+k*s<c:=(N7 (k*s)).symm▸MM (M7 k h) e
theorem q210{m i k:Nat}(h:m<i+1+k/\P):m<i+(k+1):=q48 h.1
theorem q211{e x A a:Nat}(g:e+x<=A)(h:A<=a):e+0<=a+1:=NC (MO (MV e x) (MO g h))
theorem q212{w a:Nat}(h:w<=k)(g:a<l)(e:k+2*l+1<=c):w+2*a<c:=MQ (Th (NZ h (M7 2 (Nk g)))) e
theorem q213{a b y:Nat}(h:y<a)(e:¬y<b):¬a<b:=λz=>e (Nat.lt_trans h z)
theorem q214{a:Nat}(h:a<n)(e:n<=m):a<=m:=MO (Nk h) e
theorem q215{s l:Nat}(g:s<=l+1)(h:l<n)(e:n+1<=m):s<m:=MM g (MQ (Nat.succ_lt_succ h) e)
theorem q216{s l:Nat}(g:s<=l+1)(h:l<=n)(e:n+1<m):s<m:=MM g (MM (NR h) e)
theorem q217{e q x A:Nat}(h:e+x<=A)(g:A+1<=q+x):e<=q:=Nat.le_of_add_le_add_right (MO h (Q9 g))
theorem q218{y q x A:Nat}(g:A+1<=q+x)(h:y+x<=A):y<q:=Nat.lt_of_add_lt_add_right (MM h g)
theorem q219{a t g l:Nat}(h:a<=t):a<=t+g+l:=MO h (MO (MV t g) (MV _ l))
theorem q220{j:Nat}:j<4*(j / 4)+4:=Nat.lt_mul_div_succ j (b:=4) (by decide)
theorem q221{i k n:Nat}(h:i+(k+1)=n+1):i<=n:=Qr h▸MV i k
theorem q222{x:Nat}(h:¬x=0):¬(x:Int)=0:=λz=>h (Int.ofNat_eq_zero.mp z)
theorem q223{s k a:Nat}(g:s<=k+1)(h:k+(a+1)<n)(e:n<=m):s<m:=MM (MO g (Na (NS 1 a) k)) (MQ h e)
end
set_option genCtorIdx true in
inductive PV where
 | none
 | bool (b:Bool)
 | int (i:Int)
 | str (s:Nat)
 | bytes (l:List Nat)
 | tup (xs:List PV)
 | ref (n:Nat)
 | fn (n:Nat)
 | fd (kvs:List (Nat×PV))
set_option genCtorIdx true in
inductive aC where
 | list (xs:List PV)
 | dictS (kvs:List (Nat×PV))
 | dictI (kvs:List (Int×PV))
 | inst (c:Nat) (fs:List (Nat×PV))
noncomputable abbrev aR:=List aC
set_option genCtorIdx true in
inductive iR(α:Type) where
 | ok (a:α) (s:aR)
 | exn (m:PV) (s:aR)
 | bad
noncomputable def M(α:Type):=aR->iR α
noncomputable def ret{α:Type}(a:α):M α:=λs=> .ok a s
noncomputable def fX{α:Type}:M α:=λX=> .bad
noncomputable def Mp{α:Type}(m:PV):M α:=λs=> .exn m s
noncomputable def M.bnd{α β:Type}(m:M α)(f:α->M β):M β:=λs=>match m s with
 | .ok a s'=>f a s'
 | .exn e s'=> .exn e s'
 | .bad=> .bad
noncomputable def dB(o:aC):M PV:=λs=> .ok (.ref s.length) (s++[o])
noncomputable def mE(p:PV)(kvs:List (Nat×PV)):M PV:=λs=>match p with
 | .ref n=>match s[n]? with
   | some (.dictS [])=> .ok (.ref n) (s.set n (.dictS kvs))
   | _=> .bad
 | _=> .bad
noncomputable def cO(n:Nat):M aC:=λs=>match s[n]? with
 | some o=> .ok o s
 | none=> .bad
noncomputable def tT(n:Nat)(o:aC):M Unit:=λs=> .ok () (s.set n o)
noncomputable def aZ{α:Type}:Option α->M α
 | some a=>ret a
 | none=>fX
noncomputable def o4:Nat->Nat->List Nat->List Nat
 | 0,_,acc=>acc
 | f+1,n,acc=>match n with
   | 0=>acc
   | k+1=>o4 f (k / 256) ((k % 256)::acc)
noncomputable def gf(n:Nat):List Nat:=o4 n n []
noncomputable def HY(l:List Nat):Nat:=l.foldl (λa c=>a*256+c+1) 0
noncomputable def AI(a b:Nat):Nat:=HY (gf a++gf b)
mutual
noncomputable def PV.eqb:PV->PV->Bool
 | .none, .none=>true
 | .bool a, .bool b=>a==b
 | .int a, .int b=>a==b
 | .str a, .str b=>a==b
 | .bytes a, .bytes b=>a==b
 | .tup a, .tup b=>PV.eqbs a b
 | .ref a, .ref b=>a==b
 | .fn a, .fn b=>a==b
 | _,_=>false
noncomputable def PV.eqbs:List PV->List PV->Bool
 | [],[]=>true
 | a::as,b::bs=>PV.eqb a b&&PV.eqbs as bs
 | _,_=>false
end
mutual
noncomputable def PV.data:PV->Bool
 | .none=>true
 | .int _=>true
 | .str _=>true
 | .bytes _=>true
 | .tup xs=>PV.datas xs
 | _=>false
noncomputable def PV.datas:List PV->Bool
 | []=>true
 | a::as=>PV.data a&&PV.datas as
end
noncomputable def Eb:PV->Option Bool
 | .none=>some true
 | .int _=>some false
 | .str _=>some false
 | .tup _=>some false
 | _=>P8
noncomputable def Hw(a:Int):PV->Option Bool
 | .int b=>some (a==b)
 | .none=>some false
 | .str _=>some false
 | .tup _=>some false
 | _=>P8
noncomputable def H0(a:Nat):PV->Option Bool
 | .str b=>some (a==b)
 | .none=>some false
 | .int _=>some false
 | .tup _=>some false
 | _=>P8
noncomputable def zV(a:List Nat):PV->Option Bool
 | .bytes b=>some (a==b)
 | _=>P8
noncomputable def HQ(f:List PV->Option Bool):PV->Option Bool
 | .tup b=>f b
 | .none=>some false
 | .int _=>some false
 | .str _=>some false
 | _=>P8
mutual
noncomputable def PV.eq3:PV->PV->Nat->Option Bool
 | .none,y,_=>Eb y
 | .int a,y,_=>Hw a y
 | .str a,y,_=>H0 a y
 | .bytes a,y,_=>zV a y
 | .tup a,y,n=>HQ (λb=>match n with | 0=>P8 | n+1=>PV.eqs3 a b n) y
 | _,_,_=>P8
noncomputable def PV.eqs3:List PV->List PV->Nat->Option Bool
 | [],ys,_=>some ys.isEmpty
 | a::as,ys,n=>match ys with
   | []=>some false
   | b::bs=>(PV.eq3 a b n).bind λx=>(PV.eqs3 as bs n).map λy=>x&&y
end
noncomputable def jx(v:PV):Option {_x:Unit // v= .none}:=match v with | .none=>some ⟨(),rfl⟩ | _=>none
noncomputable def fU(v:PV):Option {i:Int // v= .int i}:=match v with | .int i=>some ⟨i,rfl⟩ | _=>none
noncomputable def sP(v:PV):Option {i:Nat // v= .str i}:=match v with | .str i=>some ⟨i,rfl⟩ | _=>none
noncomputable def qI(v:PV):Option {i:List Nat // v= .bytes i}:=match v with | .bytes i=>some ⟨i,rfl⟩ | _=>none
noncomputable def qo(v:PV):Option {i:List PV // v= .tup i}:=match v with | .tup i=>some ⟨i,rfl⟩ | _=>none
noncomputable def gG(v:PV):Option {i:Nat // v= .ref i}:=match v with | .ref i=>some ⟨i,rfl⟩ | _=>none
noncomputable def Kw(v:PV):Option {i:Bool // v= .bool i}:=match v with | .bool i=>some ⟨i,rfl⟩ | _=>none
noncomputable def My(v:PV):Option {i:Nat // v= .fn i}:=match v with | .fn i=>some ⟨i,rfl⟩ | _=>none
noncomputable def Mf(v:PV):Option {i:List (Nat×PV) // v= .fd i}:=match v with | .fd i=>some ⟨i,rfl⟩ | _=>none
noncomputable def At(o:aC):Option {xs:List PV // o= .list xs}:=match o with | .list xs=>some ⟨xs,rfl⟩ | _=>none
noncomputable def mZ(o:aC):Option {xs:List (Nat×PV) // o= .dictS xs}:=match o with | .dictS xs=>some ⟨xs,rfl⟩ | _=>none
noncomputable def uF(o:aC):Option {xs:List (Int×PV) // o= .dictI xs}:=match o with | .dictI xs=>some ⟨xs,rfl⟩ | _=>none
noncomputable def HA(o:aC):Option {x:Nat×List (Nat×PV) // o= .inst x.1 x.2}:=match o with | .inst c fs=>some ⟨(c,fs),rfl⟩ | _=>none
noncomputable def need{α β:Type}{p:α->Prop}(o:Option {a:α // p a})(f:α->M β):M β:=match o with
 | some a=>f a.1
 | none=>fX
noncomputable def oF{α β:Type}{p:α->Prop}(o:Option {a:α // p a})(f:α->M β)(g:M β):M β:=match o with
 | some a=>f a.1
 | none=>g
noncomputable def kN{β:Type}(b:Bool)(m:M β):M β:=if b then m else fX
noncomputable def mu{β:Type}(n:Nat)(f:List PV->M β):M β:=(cO n).bnd λo=>need (At o) f
noncomputable def AT{β:Type}(n:Nat)(f:List (Nat×PV)->M β):M β:=(cO n).bnd λo=>need (mZ o) f
noncomputable def iu(n:Nat):Bool:=decide (n<4000)
set_option genCtorIdx true in
inductive Op where
 | add | sub | mul | fdiv | mod | pow | shl | shr | band | bor | bxor
set_option genCtorIdx true in
inductive Cp where
 | eq | ne | lt | gt | is_ | isnt | in_ | nin
set_option genCtorIdx true in
inductive E where
 | none | tt | ff
 | int (i:Int)
 | str (n:Nat)
 | bytes (l:List Nat)
 | loc (i:Nat)
 | fnc (i:Nat)
 | glo (i:Nat)
 | neg (a:E)
 | not_ (a:E)
 | bin (op:Op) (a b:E)
 | cmp (op:Cp) (a b:E)
 | and_ (es:List E)
 | or_ (es:List E)
 | ifx (c a b:E)
 | tup (es:List E)
 | lst (es:List E)
 | dct (ks:List Nat) (es:List E)
 | call (f:Nat) (es:List E)
 | callv (f:E) (es:List E)
 | new (c:Nat) (es:List E)
 | len (a:E)
 | mkbytes (a:E)
 | mktup (a:E)
 | mkdict (a:E)
 | append (o a:E)
 | extend (o a:E)
 | insert (o i a:E)
 | get (o k:E)
 | update (o a:E)
 | attr (o:E) (a:Nat)
 | idx (o i:E)
 | slcTo (o i:E)
 | slcFrom (o i:E)
 | slcRev (o:E)
 | comp (elt:E) (isR:Bool) (src:E) (cond:Option E)
inductive Kk where
 | one (i:Nat)
 | many (is:List Nat)
set_option genCtorIdx true in
inductive S where
 | asg (i:Nat) (e:E)
 | unp (is:List Nat) (e:E)
 | satt (o:E) (a:Nat) (e:E)
 | sidx (o k e:E)
 | unpI (os ks:List E) (e:E)
 | aug (i:Nat) (op:Op) (e:E)
 | augA (i:Nat) (a:Nat) (op:Op) (e:E)
 | ifs (c:E) (th el:List S)
 | whl (c:E) (b:List S)
 | fors (t:Kk) (isR:Bool) (src:E) (b:List S)
 | ret (e:E)
 | ex (e:E)
 | raise (e:E)
 | cont
 | cpy (i:Nat) (g:E) (b:Nat)
 | tryRet (b:List S) (i:Nat) (h:List S)
noncomputable abbrev Env:=List (Option PV)
set_option genCtorIdx true in
inductive Fl where
 | nxt | cnt
 | ret (v:PV)
structure Fn where
 arity:Nat
 dflts:List PV
 slots:Nat
 body:List S
inductive It where
 | tup (xs:List PV)
 | lst (n i:Nat)
 | rng (i n:Nat)
 | fdk (kvs:List (Nat×PV)) (i:Nat)
noncomputable def small(a:Int):Bool:=a.natAbs<2^400
noncomputable def Mc:Op->Int->Int->Option Int
 | .add,a,b=>some (a+b)
 | .sub,a,b=>some (a - b)
 | .mul,a,b=>if small a&&small b then some (a*b) else none
 | .fdiv,a,b=>if 0<b&&decide (b<2^400) then some (a.fdiv b) else none
 | .mod,a,b=>if 0<b&&decide (b<2^400) then some (a.fmod b) else none
 | .pow,a,b=>if decide (0<=b)&&decide (b<=1000)&&decide (a.natAbs<2^64) then some (a^b.toNat) else none
 | .shl,a,b=>if decide (0<=b)&&decide (b<=1000)&&small a then some (a*2^b.toNat) else none
 | .shr,a,b=>if decide (0<=b) then some (a.fdiv (2^b.toNat)) else none
 | .band,a,b=>if decide (0<=a)&&decide (0<=b) then some ((a.toNat&&& b.toNat:Nat):Int) else none
 | .bor,a,b=>if decide (0<=a)&&decide (0<=b) then some (a+b - ((a.toNat&&& b.toNat:Nat):Int)) else none
 | .bxor,a,b=>if decide (0<=a)&&decide (0<=b) then some (a+b - 2*((a.toNat&&& b.toNat:Nat):Int)) else none
noncomputable def Op.isAdd:Op->Bool
 | .add=>true
 | _=>false
noncomputable def Op.isMul:Op->Bool
 | .mul=>true
 | _=>false
noncomputable def bS(op:Op)(a b:PV):M PV:=
 oF (fU a) (λi=>need (fU b) λj=>aZ ((Mc op i j).map .int))<|
 oF (sP a) (λm=>need (sP b) λn=>kN (op.isAdd&&iu ((gf m).length+(gf n).length)) (ret (.str (AI m n))))<|
 oF (qo a) (λxs=>need (qo b) λys=>kN (op.isAdd&&iu (xs.length+ys.length)) (ret (.tup (xs++ys))))<|
 oF (qI a) (λl=>need (fU b) λk=>kN (op.isMul&&decide (0<=k)&&decide (k<=64)&&decide (l.length<=16)&& !l.isEmpty) (ret (.bytes (NB k.toNat l).flatten)))<|
 need (gG a) λm=>need (gG b) λn=>kN op.isAdd (mu m λxs=>mu n λys=>kN (iu (xs.length+ys.length)) (dB (.list (xs++ys))))
noncomputable def q6(a b:PV):M Bool:=oF (gG a) (λm=>need (gG b) λn=>(cO m).bnd λo=>
 oF (At o) (λxs=>mu n λys=>if xs.length==ys.length then aZ (PV.eqs3 xs ys 29) else ret false)<|
 need (mZ o) λxs=>AT n λys=>kN (xs.isEmpty&&ys.isEmpty) (ret true))
 (aZ (PV.eq3 a b 30))
noncomputable def Mg(kvs:List (Int×PV))(k:Int):Bool:=(kvs.lookup k).isSome
noncomputable def KO(kvs:List (Nat×PV))(k:Nat):Bool:=(kvs.lookup k).isSome
noncomputable def AC:List PV->Nat->Option Bool
 | [],_=>some false
 | x::xs,n=>(sP x).bind λm=>(AC xs n).map λq=>(m.1==n)||q
noncomputable def Md{β:Type}(n:Nat)(k:PV)(f:List (Nat×PV)->Nat->M β)(g:List (Int×PV)->Int->M β):M β:=(cO n).bnd λo=>
 oF (sP k) (λk=>need (mZ o) λkvs=>f kvs k)<|need (fU k) λk=>
 oF (uF o) (λkvs=>g kvs k)<|need (mZ o) λkvs=>kN kvs.isEmpty (g [] k)
noncomputable def Fa(a b:PV):M Bool:=
 oF (qo b) (λxs=>need (sP a) λn=>aZ (AC xs n))<|
 oF (Mf b) (λkvs=>need (sP a) λk=>ret (KO kvs k))<|
 need (gG b) λn=>Md n a (λkvs k=>ret (KO kvs k)) λkvs k=>ret (Mg kvs k)
noncomputable def b8(op:Cp)(a b:PV):M PV:=match op with
 | .eq=>(q6 a b).bnd λt=>ret (.bool t)
 | .ne=>(q6 a b).bnd λt=>ret (.bool (!t))
 | .lt=>need (fU a) λa=>need (fU b) λb=>ret (.bool (decide (a<b)))
 | .gt=>need (fU a) λa=>need (fU b) λb=>ret (.bool (decide (b<a)))
 | .is_=>need (jx b) λX=>ret (.bool (jx a).isSome)
 | .isnt=>need (jx b) λX=>ret (.bool !(jx a).isSome)
 | .in_=>(Fa a b).bnd λt=>ret (.bool t)
 | .nin=>(Fa a b).bnd λt=>ret (.bool (!t))
noncomputable def bW(v:PV):M Bool:=need (Kw v) ret
noncomputable def k7(i:Int)(n:Nat):Option Nat:=
 if decide (0<=i)&&decide (i<n) then some i.toNat
 else if decide (i<0)&&decide (0<=i+n) then some (i+n).toNat else none
noncomputable def dk(o i:PV):M PV:=
 oF (Mf o) (λkvs=>need (sP i) λk=>aZ (kvs.lookup k))<|
 oF (qo o) (λxs=>need (fU i) λi=>aZ ((k7 i xs.length).bind (xs[·]?)))<|
 oF (qI o) (λl=>need (fU i) λi=>kN (decide (0<=i)&&decide (i<l.length)) (ret (.int (l.getD i.toNat 0:Nat))))<|
 need (gG o) λn=>(cO n).bnd λo=>
  oF (At o) (λxs=>need (fU i) λi=>aZ ((k7 i xs.length).bind (xs[·]?)))<|
  oF (mZ o) (λkvs=>need (sP i) λk=>aZ (kvs.lookup k))<|
  need (uF o) λkvs=>need (fU i) λk=>aZ (kvs.lookup k)
noncomputable def bK{K:Type}[BEq K]:List (K×PV)->K->PV->List (K×PV)
 | [],k,v=>[(k,v)]
 | (a,b)::r,k,v=>if a==k then(a,v)::r else(a,b)::bK r k v
noncomputable def dA(o k v:PV):M Unit:=need (gG o) λn=>(cO n).bnd λo=>
 oF (At o) (λxs=>need (fU k) λi=>kN (decide (0<=i)&&decide (i<xs.length)) (tT n (.list (xs.set i.toNat v))))<|
 oF (uF o) (λkvs=>need (fU k) λk=>kN (iu kvs.length) (tT n (.dictI (bK kvs k v))))<|
 need (mZ o) λkvs=>oF (sP k) (λk=>kN (iu kvs.length) (tT n (.dictS (bK kvs k v))))<|
  need (fU k) λk=>kN kvs.isEmpty (tT n (.dictI [(k,v)]))
noncomputable def dz(i:Int)(n:Nat):Nat:=if 0<=i then min i.toNat n else(i+n).toNat
noncomputable def EH(o i:PV):M PV:=need (gG o) λn=>need (fU i) λi=>mu n λxs=>dB (.list (xs.take (dz i xs.length)))
noncomputable def rY(o i:PV):M PV:=need (fU i) λi=>oF (sP o) (λs=>kN (decide (0<i)&&decide (i<=(gf s).length)) (ret (.str (HY ((gf s).drop i.toNat)))))<|
 need (gG o) λn=>mu n λxs=>dB (.list (xs.drop (dz i xs.length)))
noncomputable def Ac(o:PV):M PV:=need (qI o) λl=>ret (.bytes l.reverse)
noncomputable def Ld{β:Type}(n:Nat)(f:Nat×List (Nat×PV)->M β):M β:=(cO n).bnd λo=>need (HA o) f
noncomputable def eL(o:PV)(a:Nat):M PV:=need (gG o) λn=>Ld n λx=>aZ (x.2.lookup a)
noncomputable def setAttr(o:PV)(a:Nat)(v:PV):M Unit:=need (gG o) λn=>Ld n λx=>kN (iu x.2.length) (tT n (.inst x.1 (bK x.2 a v)))
noncomputable def lx(v:PV):M PV:=oF (qo v) (λxs=>ret (.int xs.length))<|oF (qI v) (λl=>ret (.int l.length))<|need (gG v) λn=>mu n λxs=>ret (.int xs.length)
noncomputable def BE:List PV->Option (List Nat)
 | []=>some []
 | x::r=>(fU x).bind λi=>if decide (0<=i.1)&&decide (i.1<256) then(BE r).map (i.1.toNat:: ·) else none
noncomputable def mkBytes(v:PV):M PV:=oF (fU v) (λn=>kN (decide (0<=n)&&decide (n<=64)) (ret (.bytes (NB n.toNat 0))))<|need (gG v) λn=>mu n λxs=>aZ ((BE xs).map .bytes)
noncomputable def nW(v:PV):M PV:=oF (qo v) (λxs=>ret (.tup xs))<|need (gG v) λn=>mu n λxs=>ret (.tup xs)
noncomputable def sf(v:PV):M PV:=need (gG v) λn=>AT n λkvs=>dB (.dictS kvs)
noncomputable def oq(o:PV):M Unit:=need (gG o) λn=>mu n λX=>ret ()
noncomputable def ye(o:PV):M Unit:=need (gG o) λn=>(cO n).bnd λo=>oF (mZ o) (λX=>ret ())<|need (uF o) λX=>ret ()
noncomputable def kZ(o v:PV):M PV:=need (gG o) λn=>mu n λxs=>kN (iu xs.length) ((tT n (.list (xs++[v]))).bnd λX=>ret .none)
noncomputable def ly(o v:PV):M PV:=need (gG o) λn=>need (gG v) λm=>mu n λxs=>mu m λys=>kN (!(n==m)&&iu (xs.length+ys.length)) ((tT n (.list (xs++ys))).bnd λX=>ret .none)
noncomputable def lu(o i v:PV):M PV:=need (gG o) λn=>need (fU i) λi=>mu n λxs=>kN (decide (0<=i)&&decide (i<=xs.length)&&iu xs.length) ((tT n (.list (xs.take i.toNat++v::xs.drop i.toNat))).bnd λX=>ret .none)
noncomputable def un(o k:PV):M PV:=need (gG o) λn=>Md n k (λkvs k=>ret ((kvs.lookup k).getD .none)) λkvs k=>ret ((kvs.lookup k).getD .none)
noncomputable def cn:List (Nat×PV)->List (Nat×PV)->List (Nat×PV)
 | kvs,[]=>kvs
 | kvs,(k,v)::r=>cn (bK kvs k v) r
noncomputable def nP(o v:PV):M PV:=need (gG o) λn=>need (gG v) λm=>AT n λxs=>AT m λys=>kN (!(n==m)&&iu (xs.length+ys.length)) ((tT n (.dictS (cn xs ys))).bnd λX=>ret .none)
noncomputable def Kt(v:PV):M (It×Nat):=oF (qo v) (λxs=>ret (.tup xs,xs.length))<|oF (Mf v) (λkvs=>ret (.fdk kvs 0,kvs.length))<|
 oF (qI v) (λl=>ret (.tup (l.map λc=>PV.int (c:Nat)),l.length))<|need (gG v) λn=>mu n λxs=>ret (.lst n 0,xs.length)
noncomputable def dg:It->M (Option (PV×It))
 | .tup []=>ret none
 | .tup (x::xs)=>ret (some (x, .tup xs))
 | .lst n i=>mu n λxs=>match xs[i]? with
   | some x=>ret (some (x, .lst n (i+1)))
   | none=>ret none
 | .rng i n=>if i<n then ret (some (.int i, .rng (i+1) n)) else ret none
 | .fdk kvs i=>match kvs[i]? with
   | some kv=>ret (some (.str kv.1, .fdk kvs (i+1)))
   | none=>ret none
noncomputable def Ah(g b:PV):M (Option PV):=need (gG g) λn=>need (gG b) λm=>AT n λxs=>AT m λys=>
 kN (!(n==m)&&iu (xs.length+ys.length)&&xs.all (λkv=>iu (gf kv.1).length)) ((tT m (.dictS (cn ys xs))).bnd λX=>ret ((xs.getLast?).map λkv=> .str kv.1))
noncomputable def gj:Kk->PV->Env->M Env
 | .one i,v,r=>ret (r.set i (some v))
 | .many is,v,r=>need (qo v) λxs=>kN (is.length==xs.length) (ret ((is.zip xs).foldl (λr p=>r.set p.1 (some p.2)) r))
noncomputable def fW(t:Kk)(body:Env->M (Fl×Env)):Nat->It->Env->M (Fl×Env)
 | 0,_,_=>fX
 | f+1,it,r=>(dg it).bnd λx=>match x with
   | none=>ret (.nxt,r)
   | some (x,it')=>(gj t x r).bnd λr=>(body r).bnd λp=>match p.1 with
     | .ret v=>ret (.ret v,p.2)
     | _=>fW t body f it' p.2
noncomputable def tL(test:Env->M Bool)(body:Env->M (Fl×Env)):Nat->Env->M (Fl×Env)
 | 0,_=>fX
 | f+1,r=>(test r).bnd λb=>match b with
   | false=>ret (.nxt,r)
   | true=>(body r).bnd λp=>match p.1 with
     | .ret v=>ret (.ret v,p.2)
     | _=>tL test body f p.2
noncomputable def jG(elt:PV->M PV)(cond:PV->M Bool):Nat->It->List PV->M (List PV)
 | 0,_,_=>fX
 | f+1,it,acc=>(dg it).bnd λx=>match x with
   | none=>ret acc
   | some (x,it')=>(cond x).bnd λb=>match b with
     | false=>jG elt cond f it' acc
     | true=>(elt x).bnd λv=>if iu acc.length then jG elt cond f it' (acc++[v]) else fX
noncomputable def tA{α:Type}(m:M α):M α:=λs=>match m s with
 | .ok a s'=> .ok a s'
 | _=> .bad
noncomputable def uC(v:PV):M Nat:=need (fU v) λn=>kN (decide (0<=n)&&decide (n<4000)) (ret n.toNat)
noncomputable def pc:Bool->PV->M (It×Nat)
 | true,v=>(uC v).bnd λn=>ret (.rng 0 n,n)
 | false,v=>Kt v
noncomputable def yM(op:Op)(x y:PV):M PV:=need (fU x) λi=>need (fU y) λj=>bS op (.int i) (.int j)
noncomputable abbrev db:=Nat->List PV->M PV
section
variable(call:db)(glo:Nat->PV)(init:Nat->Nat)
mutual
noncomputable def af:E->Env->M PV
 | .none,_=>ret .none
 | .tt,_=>ret (.bool true)
 | .ff,_=>ret (.bool false)
 | .int i,_=>ret (.int i)
 | .str n,_=>ret (.str n)
 | .bytes l,_=>ret (.bytes l)
 | .loc i,r=>aZ ((r[i]?).join)
 | .fnc i,_=>ret (.fn i)
 | .glo i,_=>ret (glo i)
 | .neg a,r=>(af a r).bnd λv=>need (fU v) λi=>ret (.int (-i))
 | .not_ a,r=>(af a r).bnd λv=>(bW v).bnd λb=>ret (.bool (!b))
 | .bin op a b,r=>(af a r).bnd λx=>(af b r).bnd λy=>bS op x y
 | .cmp op a b,r=>(af a r).bnd λx=>(af b r).bnd λy=>b8 op x y
 | .and_ es,r=>(d7 es r).bnd λb=>ret (.bool b)
 | .or_ es,r=>(fH es r).bnd λb=>ret (.bool b)
 | .ifx c a b,r=>(af c r).bnd λv=>(bW v).bnd λt=>match t with
   | true=>af a r
   | false=>af b r
 | .tup es,r=>(bE es r).bnd λvs=>ret (.tup vs)
 | .lst es,r=>(bE es r).bnd λvs=>dB (.list vs)
 | .dct ks es,r=>if ks.isEmpty then dB (.dictS []) else(dB (.dictS [])).bnd λp=>(bE es r).bnd λvs=>if ks.length==vs.length then mE p (ks.zip vs) else fX
 | .call f es,r=>(bE es r).bnd λvs=>call f vs
 | .callv f es,r=>(af f r).bnd λg=>need (My g) λf=>(bE es r).bnd λvs=>call f vs
 | .new c es,r=>(bE es r).bnd λvs=>(dB (.inst c [])).bnd λo=>(call (init c) (o::vs)).bnd λq=>need (jx q) λX=>ret o
 | .len a,r=>(af a r).bnd λv=>lx v
 | .mkbytes a,r=>(af a r).bnd λv=>mkBytes v
 | .mktup a,r=>(af a r).bnd λv=>nW v
 | .mkdict a,r=>(af a r).bnd λv=>sf v
 | .append o a,r=>(af o r).bnd λo=>(oq o).bnd λX=>(af a r).bnd λv=>kZ o v
 | .extend o a,r=>(af o r).bnd λo=>(oq o).bnd λX=>(af a r).bnd λv=>ly o v
 | .insert o i a,r=>(af o r).bnd λo=>(oq o).bnd λX=>(af i r).bnd λi=>(af a r).bnd λv=>lu o i v
 | .get o k,r=>(af o r).bnd λo=>(ye o).bnd λX=>(af k r).bnd λk=>un o k
 | .update o a,r=>(af o r).bnd λo=>(ye o).bnd λX=>(af a r).bnd λv=>nP o v
 | .attr o a,r=>(af o r).bnd λo=>eL o a
 | .idx o i,r=>(af o r).bnd λo=>(af i r).bnd λi=>dk o i
 | .slcTo o i,r=>(af o r).bnd λo=>(af i r).bnd λi=>EH o i
 | .slcFrom o i,r=>(af o r).bnd λo=>(af i r).bnd λi=>rY o i
 | .slcRev o,r=>(af o r).bnd λo=>Ac o
 | .comp elt isR src cond,r=>(af src r).bnd λv=>(pc isR v).bnd λp=>
    (jG (λx=>tA (af elt (some x::r))) (λx=>tA (wg cond (some x::r))) (p.2+1) p.1 []).bnd λxs=>dB (.list xs)
noncomputable def wg:Option E->Env->M Bool
 | none,_=>ret true
 | some c,r=>(af c r).bnd λv=>bW v
noncomputable def bE:List E->Env->M (List PV)
 | [],_=>ret []
 | e::es,r=>(af e r).bnd λv=>(bE es r).bnd λvs=>ret (v::vs)
noncomputable def d7:List E->Env->M Bool
 | [],_=>ret true
 | e::es,r=>(af e r).bnd λv=>(bW v).bnd λb=>match b with
   | true=>d7 es r
   | false=>ret false
noncomputable def fH:List E->Env->M Bool
 | [],_=>ret false
 | e::es,r=>(af e r).bnd λv=>(bW v).bnd λb=>match b with
   | true=>ret true
   | false=>fH es r
end
noncomputable def jf(c:E)(r:Env):M Bool:=(af call glo init c r).bnd λv=>bW v
noncomputable def Gg:List Nat->List PV->Env->Env
 | i::is,v::vs,r=>Gg is vs (r.set i (some v))
 | _,_,r=>r
noncomputable def unpI:List E->List E->List PV->Env->M Unit
 | o::os,k::ks,v::vs,r=>(af call glo init o r).bnd λo=>(af call glo init k r).bnd λk=>(dA o k v).bnd λX=>unpI os ks vs r
 | [],[],[],_=>ret ()
 | _,_,_,_=>fX
mutual
noncomputable def bc:S->Env->M (Fl×Env)
 | .asg i e,r=>(af call glo init e r).bnd λv=>ret (.nxt,r.set i (some v))
 | .unp is e,r=>(af call glo init e r).bnd λv=>(gj (.many is) v r).bnd λr=>ret (.nxt,r)
 | .satt o a e,r=>(af call glo init e r).bnd λv=>(af call glo init o r).bnd λo=>(setAttr o a v).bnd λX=>ret (.nxt,r)
 | .sidx o k e,r=>(af call glo init e r).bnd λv=>(af call glo init o r).bnd λo=>(af call glo init k r).bnd λk=>(dA o k v).bnd λX=>ret (.nxt,r)
 | .unpI os ks e,r=>(af call glo init e r).bnd λv=>need (qo v) λvs=>kN (vs.length==os.length) ((unpI call glo init os ks vs r).bnd λX=>ret (.nxt,r))
 | .aug i op e,r=>(aZ ((r[i]?).join)).bnd λx=>(af call glo init e r).bnd λy=>(yM op x y).bnd λv=>ret (.nxt,r.set i (some v))
 | .augA i a op e,r=>(aZ ((r[i]?).join)).bnd λo=>(eL o a).bnd λx=>(af call glo init e r).bnd λy=>(yM op x y).bnd λv=>(setAttr o a v).bnd λX=>ret (.nxt,r)
 | .ifs c th el,r=>(jf call glo init c r).bnd λb=>match b with
   | true=>ax th r
   | false=>ax el r
 | .whl c b,r=>tL (jf call glo init c) (λr=>ax b r) 200 r
 | .fors t isR src b,r=>(af call glo init src r).bnd λv=>(pc isR v).bnd λp=>fW t (λr=>ax b r) (p.2+1) p.1 r
 | .ret e,r=>(af call glo init e r).bnd λv=>ret (.ret v,r)
 | .ex e,r=>(af call glo init e r).bnd λX=>ret (.nxt,r)
 | .raise e,r=>(af call glo init e r).bnd λv=>Mp v
 | .cont,r=>ret (.cnt,r)
 | .cpy i g b,r=>if decide (i<r.length) then(af call glo init g r).bnd λg=>(aZ ((r[b]?).join)).bnd λb=>(Ah g b).bnd λk=>ret (.nxt,match k with | some k=>r.set i (some k) | none=>r) else fX
 | .tryRet b i h,r=>λs=>match ax b r s with
   | .ok p s'=> .ok p s'
   | .exn m s'=>match ax h (r.set i (some m)) s' with
     | .ok p s''=> .ok (p.1,[]) s''
     | .exn m s''=> .exn m s''
     | .bad=> .bad
   | .bad=> .bad
noncomputable def ax:List S->Env->M (Fl×Env)
 | [],r=>ret (.nxt,r)
 | s::ss,r=>(bc s r).bnd λp=>match p.1 with
   | .nxt=>ax ss p.2
   | f=>ret (f,p.2)
end
end
structure J2 where
 fns:List Fn
 glo:Nat->PV
 init:Nat->Nat
noncomputable def fZ(f:Fn)(vs:List PV):Option (List PV):=
 if vs.length<=f.arity&&f.arity<=vs.length+f.dflts.length&&decide (f.arity<1000) then some (vs++f.dflts.drop (f.dflts.length - (f.arity - vs.length))) else none
noncomputable def jc:Fl->PV
 | .ret v=>v
 | _=> .none
noncomputable def ac(P:J2):Nat->db
 | 0,_,_=>fX
 | d+1,f,vs=>match P.fns[f]? with
   | some fn=>match fZ fn vs with
     | some ws=>(ax (ac P d) P.glo P.init fn.body (ws.map some++NB (fn.slots - ws.length) none)).bnd λp=>ret (jc p.1)
     | none=>fX
   | none=>fX
end
end Internal
end
open Internal.E renaming loc → Tr, int → Ts, str → Tt, tup → Tu, idx → Tv, bin → Tw, call → Tx, cmp → Tz, attr → TE, lst → TG, dct → TI, len → TM, append → TO, fnc → TP, and_ → TR, ifx → TS, none → TW, mkbytes → TX, comp → TZ, or_ → T1, get → T4, slcFrom → T5, update → T7, mktup → T9
open Internal.S renaming asg → TA, ex → TB, ret → TC, ifs → TD, satt → TJ, unp → TK, fors → TQ, sidx → TU, raise → TV, aug → T2, cont → T8, whl → Ua, unpI → Ub
open Internal.PV renaming int → TF, ref → TH, bool → TL, str → TN, tup → TY, fd → T0, none → T6
open Internal renaming Env → UG
local macro_rules
 | `(tactic| lia)=>do
   let h <- `(by assumption)
   let k <- `(by decide)
   let g (s:String) (t:Array (Lean.TSyntax `term)):Lean.MacroM (Array (Lean.TSyntax `tactic)):=(s.splitOn " ").toArray.mapM λx=> `(tactic| exact $(Lean.mkIdent (if x.contains '.' then x else "Internal."++x).toName) $t*)
   let c <-("Nat.lt_succ_self Nat.zero_add Nat.le_succ Nat.le_add_right Nat.sub_le q66 q107 q167 q169 q170 q191 q204 q220".splitOn " ").toArray.mapM λx=> `(tactic| exact $(Lean.mkIdent (if x.contains '.' then x else "Internal."++x).toName) ..)
   let x0 <-g "Nat.lt_of_lt_of_le Nat.lt_of_le_of_lt Nat.le_trans q51 q52 q53 q54 q1 q2 q3 q4 q7 q8 q9 q41 q108 q109 q111 q113 q102 q114 q136 q142 q150 q162 q166 q168 q188 q194 q201 q209 q214" #[h,k]
   let x1 <-g "Nat.lt_of_succ_lt_succ Nat.le_of_lt Nat.ne_of_lt Nat.ne_of_gt Nat.succ_le_succ q11 q12 q25 q27 q28 q29 q32 q34 q40 q44 q46 q48 q50 q57 Int.ofNat_lt_ofNat_of_lt Int.ofNat_le_ofNat_of_le q60 q61 q63 q64 q65 q67 q68 q70 q71 q72 q76 q77 q78 q80 q81 q82 q85 q86 q87 q96 q100 q101 q103 q104 q105 q106 q110 q115 q116 q117 q118 q121 q122 q124 q125 q126 q128 q129 q130 q138 q139 q141 q143 q146 q149 q163 q164 q165 q171 q175 q176 q177 q179 q192 q195 q198 q202 q205 q206 q210 q219 q221 q222 Nat.pos_of_ne_zero" #[h]
   let x2 <-g "Nat.lt_of_lt_of_le Nat.lt_of_le_of_lt Nat.le_trans q41 q42 q49 q55 q56 q69 q73 q75 q79 q83 q84 q97 q119 q120 q127 q131 q132 q133 q134 q135 q137 q140 q144 q151 q155 q161 q173 q174 q182 q183 q185 q187 q196 q197 q208 q211 q213 q217 q218 Nat.lt_trans" #[h,h]
   let x3 <-g "q13 q15 q18 q22 q24 q37 q38 q148 q181 q184 q193 q203 q207 q212 q215 q216 q223" #[h,h,k]
   let x4 <-g "q88 q92 q95 q98 q123 q145 q152 q153 q154 q157 q158 q159 q160 q172 q186 q190" #[h,h,h]
   let x5 <-g "q112" #[h,h,h,k]
   let x6 <-g "q93 q94 q156 q199" #[h,h,h,h]
   let x7 <-g "q99" #[h,h,h,h,h,h]
   let x9 <-g "q90" #[h,h,h,h,h,h,h,h]
   let y <-g "q180" #[h,h,h,h,h,h,h]
   `(tactic| first | with_reducible (first $[| $(x0++c++x1++x2++x3++x4++x5++x6++x7++x9++y):tactic]*) | cutsat)
local macro_rules |`(%[$xs,*|$k])=>do
  if xs.getElems.isEmpty then return<-match k.raw.isNatLit?.getD 0 with|0=>`(by lia)|1=>`(by decide)|_=>`(by kernel_rfl)
  let a<-xs.getElems.mapM fun x=>`(some $x)
  match k with
  |`($n:num)=>`([$(a++Array.replicate n.getNat (<-`(none))),*])|`([$ys,*])=>`([$(a++ys.getElems),*])|_=>Lean.Macro.throwUnsupported
local macro_rules |`(tactic|erw [$r,*] $[$l]?)=>do
  let a<-r.getElems.mapM fun r=>match r with
    |`(Lean.Parser.Tactic.rwRule|<-$t:term)=>`(Lean.Parser.Tactic.simpLemma|<-$t:term)|`(Lean.Parser.Tactic.rwRule|$t:term)=>`(Lean.Parser.Tactic.simpLemma|$t:term)|_=>Lean.Macro.throwUnsupported
  `(tactic|simp only[$a,*] $[$l]?)
local macro_rules |`(tactic|exists $es,*)=>do
  if es.getElems[0]!.raw.isOfKind ``Lean.Parser.Term.hole then return<-`(tactic|contradiction)
  let mut b:=#[]
  let mut s:=#[]
  for x in es.getElems[1:] do
    if x.raw.getId==`rfl then
      let t:=Lean.mkIdent (.mkSimple s!"t'{s.size}")
      b:=b.push t
      s:=s.push (<-`(tactic|obtain $(Lean.mkIdent `rfl):ident:=$t))
    else b:=b.push ⟨x⟩
  let f<-`(fun $b* =>?_)
  let r<-match es.getElems[0]! with
    |`($g $a*)=>`(tactic|refine $g $(a.push f)*)|e=>`(tactic|refine $e $f)
  if s.isEmpty then return r else let q:=#[r]++s;`(tactic|($[$q];*))
local macro_rules |`($n:name)=>let s:=match n.getName with|.str _ s=>s|_=>""
  return Lean.Syntax.mkNumLit (toString (s.foldl (fun a c=>a*256+c.toNat+1) 0))
section
namespace Internal
noncomputable def qr:List S:=[TA 3 (TI [] []),
 (TQ (.many [4,5,6,7]) false (Tr 2) [TU (Tr 3) (Tw .add (Tw .add (Tr 0) (Tt 33)) (Tr 4)) (Tu [Tt `payload,Tr 7,Tr 6,Tt `big,Tu [Tr 0,Tr 1,Tr 5]])]),
 (TC (Tr 3))]
noncomputable def tR:List S:=[TA 0 (Tx 0 [Tt `ether,Tt `link,Tu [Tu [Tt `daddr,Ts 0,Ts 48,Tt `ether_addr],Tu [Tt `saddr,Ts 48,Ts 48,Tt `ether_addr],Tu [Tt `«type»,Ts 96,Ts 16,Tt `ether_type]]]),
 (TB (T7 (Tr 0) (Tx 0 [Tt `vlan,Tt `link,Tu [Tu [Tt `pcp,Ts 112,Ts 3,Tt `integer],Tu [Tt `dei,Ts 115,Ts 1,Tt `integer],Tu [Tt `id,Ts 116,Ts 12,Tt `integer],Tu [Tt `«type»,Ts 128,Ts 16,Tt `ether_type]]]))),
 (TB (T7 (Tr 0) (Tx 0 [Tt `arp,Tt `network,Tu [Tu [Tt `htype,Ts 0,Ts 16,Tt `integer],Tu [Tt `ptype,Ts 16,Ts 16,Tt `ether_type],Tu [Tt `hlen,Ts 32,Ts 8,Tt `integer],Tu [Tt `plen,Ts 40,Ts 8,Tt `integer],Tu [Tt `operation,Ts 48,Ts 16,Tt `arp_op],Tu [Tt `«saddr ether»,Ts 64,Ts 48,Tt `ether_addr],Tu [Tt `«saddr ip»,Ts 112,Ts 32,Tt `ipv4_addr],Tu [Tt `«daddr ether»,Ts 144,Ts 48,Tt `ether_addr],Tu [Tt `«daddr ip»,Ts 192,Ts 32,Tt `ipv4_addr]]]))),
 (TC (Tr 0))]
noncomputable def yv:List S:=[TC (Tx 0 [Tt `ip,Tt `network,Tu [Tu [Tt `version,Ts 0,Ts 4,Tt `integer],Tu [Tt `hdrlength,Ts 4,Ts 4,Tt `integer],Tu [Tt `dscp,Ts 8,Ts 6,Tt `dscp],Tu [Tt `ecn,Ts 14,Ts 2,Tt `ecn],Tu [Tt `length,Ts 16,Ts 16,Tt `integer],Tu [Tt `id,Ts 32,Ts 16,Tt `integer],Tu [Tt 7454410007823542119,Ts 48,Ts 16,Tt `integer],Tu [Tt `ttl,Ts 64,Ts 8,Tt `integer],Tu [Tt `protocol,Ts 72,Ts 8,Tt `inet_proto],Tu [Tt `checksum,Ts 80,Ts 16,Tt `integer],Tu [Tt `saddr,Ts 96,Ts 32,Tt `ipv4_addr],Tu [Tt `daddr,Ts 128,Ts 32,Tt `ipv4_addr]]])]
noncomputable def vV:List S:=[TC (Tx 0 [Tt `ip6,Tt `network,Tu [Tu [Tt `version,Ts 0,Ts 4,Tt `integer],Tu [Tt `dscp,Ts 4,Ts 6,Tt `dscp],Tu [Tt `ecn,Ts 10,Ts 2,Tt `ecn],Tu [Tt `flowlabel,Ts 12,Ts 20,Tt `integer],Tu [Tt `length,Ts 32,Ts 16,Tt `integer],Tu [Tt `nexthdr,Ts 48,Ts 8,Tt `inet_proto],Tu [Tt `hoplimit,Ts 56,Ts 8,Tt `integer],Tu [Tt `saddr,Ts 64,Ts 128,Tt `ipv6_addr],Tu [Tt `daddr,Ts 192,Ts 128,Tt `ipv6_addr]]])]
noncomputable def vS:List S:=[TC (Tx 0 [Tt `tcp,Tt `transport,Tu [Tu [Tt `sport,Ts 0,Ts 16,Tt `inet_service],Tu [Tt `dport,Ts 16,Ts 16,Tt `inet_service],Tu [Tt `sequence,Ts 32,Ts 32,Tt `integer],Tu [Tt `ackseq,Ts 64,Ts 32,Tt `integer],Tu [Tt `doff,Ts 96,Ts 4,Tt `integer],Tu [Tt `reserved,Ts 100,Ts 4,Tt `integer],Tu [Tt `flags,Ts 104,Ts 8,Tt `tcp_flag],Tu [Tt `window,Ts 112,Ts 16,Tt `integer],Tu [Tt `checksum,Ts 128,Ts 16,Tt `integer],Tu [Tt `urgptr,Ts 144,Ts 16,Tt `integer]]])]
noncomputable def vk:List S:=[TC (Tx 0 [Tt `udp,Tt `transport,Tu [Tu [Tt `sport,Ts 0,Ts 16,Tt `inet_service],Tu [Tt `dport,Ts 16,Ts 16,Tt `inet_service],Tu [Tt `length,Ts 32,Ts 16,Tt `integer],Tu [Tt `checksum,Ts 48,Ts 16,Tt `integer]]])]
noncomputable def tc:List S:=[TA 0 (Tx 0 [Tt `icmp,Tt `transport,Tu [Tu [Tt `«type»,Ts 0,Ts 8,Tt `icmp_type],Tu [Tt `code,Ts 8,Ts 8,Tt `icmp_code],Tu [Tt `checksum,Ts 16,Ts 16,Tt `integer],Tu [Tt `id,Ts 32,Ts 16,Tt `integer],Tu [Tt `sequence,Ts 48,Ts 16,Tt `integer],Tu [Tt `gateway,Ts 32,Ts 32,Tt `ipv4_addr],Tu [Tt `mtu,Ts 48,Ts 16,Tt `integer]]]),
 (TB (T7 (Tr 0) (Tx 0 [Tt `icmpv6,Tt `transport,Tu [Tu [Tt `«type»,Ts 0,Ts 8,Tt `icmpv6_type],Tu [Tt `code,Ts 8,Ts 8,Tt `icmpv6_code],Tu [Tt `checksum,Ts 16,Ts 16,Tt `integer],Tu [Tt `id,Ts 32,Ts 16,Tt `integer],Tu [Tt `sequence,Ts 48,Ts 16,Tt `integer],Tu [Tt `mtu,Ts 32,Ts 32,Tt `integer]]]))),
 (TC (Tr 0))]
noncomputable def tU:List S:=[TA 0 (Tu [Tu [Tt `length,Ts 32,Tt `host,Tt `integer],Tu [Tt `protocol,Ts 16,Tt `big,Tt `ether_type],Tu [Tt `nfproto,Ts 8,Tt `big,Tt `nf_proto],Tu [Tt `l4proto,Ts 8,Tt `big,Tt `inet_proto],Tu [Tt `mark,Ts 32,Tt `host,Tt `mark],Tu [Tt `priority,Ts 32,Tt `host,Tt `integer],Tu [Tt `iif,Ts 32,Tt `host,Tt `iface_index],Tu [Tt `oif,Ts 32,Tt `host,Tt `iface_index],Tu [Tt `iifname,Ts 128,Tt `big,Tt `ifname],Tu [Tt `oifname,Ts 128,Tt `big,Tt `ifname],Tu [Tt `iiftype,Ts 16,Tt `host,Tt `integer],Tu [Tt `oiftype,Ts 16,Tt `host,Tt `integer],Tu [Tt `pkttype,Ts 8,Tt `big,Tt `pkt_type]]),
 (TA 1 (TI [] [])),
 (TQ (.many [2,3,4,5]) false (Tr 0) [TU (Tr 1) (Tw .add (Tt `«meta ») (Tr 2)) (Tu [Tt `meta,Tr 5,Tr 3,Tr 4,Tr 2])]),
 (TC (Tr 1))]
noncomputable def zk:List S:=[TA 1 (TI [`ether,`th,`vlan,`arp,`ip,`ip6,`tcp,`udp,`icmp,`icmpv6] [Tu [],Tu [],Tu [Tu [Tt `«ether type»,Ts 33024]],Tu [Tu [Tt `«meta protocol»,Ts 2054]],Tu [Tu [Tt `«meta nfproto»,Ts 2]],Tu [Tu [Tt `«meta nfproto»,Ts 10]],Tu [Tu [Tt `«meta l4proto»,Ts 6]],Tu [Tu [Tt `«meta l4proto»,Ts 17]],Tu [Tu [Tt `«meta nfproto»,Ts 2],Tu [Tt `«meta l4proto»,Ts 1]],Tu [Tu [Tt `«meta nfproto»,Ts 10],Tu [Tt `«meta l4proto»,Ts 58]]]),
 (TD (Tz .nin (Tr 0) (Tr 1)) [TV (Tw .add (Tw .add (Tt 10317165217925600990403293016989519573754152) (Tr 0)) (Tt 40))] []),
 (TC (Tv (Tr 1) (Tr 0)))]
noncomputable def yR:List S:=[TA 2 (TG []),
 (TQ (.one 3) false (Tx 8 [Tr 1]) [TD (TR [Tz .eq (Tr 0) (Tt `ip),Tz .eq (Tr 3) (Tu [Tt `«meta nfproto»,Ts 2])]) [T8] [],
 (TD (TR [Tz .eq (Tr 0) (Tt `ip6),Tz .eq (Tr 3) (Tu [Tt `«meta nfproto»,Ts 10])]) [T8] []),
 (TB (TO (Tr 2) (Tr 3)))]),
 (TC (T9 (Tr 2)))]
noncomputable def tw:List S:=[TD (Tz .nin (Tr 1) (Tr 0)) [TV (Tw .add (Tw .add (Tt 614950967903471052071803963698389288) (Tr 1)) (Tt 40))] [],
 (TC (Tv (Tr 0) (Tr 1)))]
noncomputable def xp:List S:=[TC (Tz .in_ (Tv (Tr 0) (Ts 0)) (Tu [Tt `mask,Tt `or,Tt `xor,Tt `shl,Tt `shr]))]
noncomputable def sW:List S:=[Ua (Tx 11 [Tr 1]) [TA 1 (Tv (Tr 1) (Ts 1))],
 (TD (Tz .eq (Tv (Tr 1) (Ts 0)) (Tt `hash)) [TC TW] []),
 (TD (Tz .ne (Tv (Tr 1) (Ts 0)) (Tt `field)) [TV (Tw .add (Tw .add (Tw .add (Tt 7303201) (Tr 2)) (Tt 2649316361232046327967301712673)) (Tv (Tr 1) (Ts 0)))] []),
 (TC (Tx 10 [Tr 0,Tv (Tr 1) (Ts 1)]))]
noncomputable def AU:List S:=[TA 2 (Tx 12 [Tr 0,Tr 1,Tt `size]),
 (TD (Tz .is_ (Tr 2) TW) [TC (Ts 4)] []),
 (TA 3 (TS (Tz .eq (Tv (Tr 2) (Ts 0)) (Tt `payload)) (Tw .mod (Tv (Tv (Tr 2) (Ts 4)) (Ts 2)) (Ts 8)) (Ts 0))),
 (TC (Tw .fdiv (Tw .add (Tw .add (Tr 3) (Tv (Tr 2) (Ts 2))) (Ts 7)) (Ts 8)))]
noncomputable def ym:List S:=[Ua (Tz .in_ (Tv (Tr 1) (Ts 0)) (Tu [Tt `mask,Tt `shr])) [TA 1 (Tv (Tr 1) (Ts 1))],
 (TD (Tx 11 [Tr 1]) [TC (Tw .mul (Ts 8) (Tx 13 [Tr 0,Tr 1]))] []),
 (TA 2 (Tx 12 [Tr 0,Tr 1,Tt `bits])),
 (TC (TS (Tz .is_ (Tr 2) TW) (Ts 32) (Tv (Tr 2) (Ts 2))))]
noncomputable def zy:List S:=[TA 2 (Tx 12 [Tr 0,Tr 1,Tt `order]),
 (TC (TS (Tz .is_ (Tr 2) TW) (Tt `host) (Tv (Tr 2) (Ts 3))))]
noncomputable def BJ:List S:=[TA 2 (Tx 12 [Tr 0,Tr 1,Tt `«type»]),
 (TC (TS (Tz .is_ (Tr 2) TW) (Tt `mark) (Tv (Tr 2) (Ts 1))))]
noncomputable def xd:List S:=[TA 1 (Ts 0),
 (TQ (.one 2) false (Tr 0) [TA 1 (Tw .bor (Tw .shl (Tr 1) (Ts 8)) (Tr 2))]),
 (TC (Tr 1))]
noncomputable def yi:List S:=[TD (T1 [Tz .lt (Tr 0) (Ts 0),Tz .ne (Tw .shr (Tr 0) (Tw .mul (Ts 8) (Tr 1))) (Ts 0)]) [TV (Tt `«the number does not fit its octets»)] [],
 (TC (TX (TZ (Tw .band (Tw .shr (Tr 1) (Tw .mul (Ts 8) (Tw .sub (Tw .sub (Tr 2) (Ts 1)) (Tr 0)))) (Ts 255)) true (Tr 1) none)))]
noncomputable def DN:List S:=[TA 1 (Tw .sub (TM (Tr 0)) (Ts 1)),
 (TC (TX (TZ (Tv (Tr 1) (Tw .sub (Tr 2) (Tr 0))) true (Tw .add (Tr 1) (Ts 1)) none)))]
noncomputable def tS:List S:=[TD (Tz .eq (Tr 2) (Tt `big)) [TC (Tx 20 [Tr 0,Tr 1])] [],
 (TD (Tz .eq (Tr 2) (Tt `little)) [TC (Tx 21 [Tx 20 [Tr 0,Tr 1]])] []),
 (TV (Tw .add (Tt 699507728982989332467559429494619193741666153963113172712225) (Tr 2)))]
noncomputable def tG:List S:=[TD (Tz .eq (Tr 1) (Tt `big)) [TC (Tx 19 [Tr 0])] [],
 (TD (Tz .eq (Tr 1) (Tt `little)) [TC (Tx 19 [Tx 21 [Tr 0]])] []),
 (TV (Tw .add (Tt 699507728982989332467559429494619193741666153963113172712225) (Tr 1)))]
noncomputable def u7:List S:=[TC (TS (Tz .eq (Tr 0) (Tt `host)) (Tr 1) (Tr 0))]
noncomputable def yD:List S:=[TC (Tw .fdiv (Tw .add (Tr 0) (Ts 3)) (Ts 4))]
noncomputable def Fx:List S:=[TC (Tx 22 [Tr 1,Tr 2,Tx 24 [Tr 3,TE (Tr 0) `order]])]
noncomputable def xe:List S:=[TK [3,4,5,6,7] (Tx 10 [TE (Tr 0) `fields,Tr 2]),
 (TA 8 (Tx 13 [TE (Tr 0) `fields,Tu [Tt `field,Tr 2]])),
 (TD (Tz .eq (Tr 3) (Tt `meta)) [TB (TO (TE (Tr 0) `rows) (Tu [Tt `meta,Tr 1,Tr 7,Tr 8,Tr 6]))] [TD (Tz .eq (Tr 3) (Tt `ct)) [TB (TO (TE (Tr 0) `rows) (Tu [Tt `ct,Tr 1,Tv (Tr 7) (Ts 0),Tv (Tr 7) (Ts 1),Tr 8,Tr 6]))] [TB (TO (TE (Tr 0) `rows) (Tu [Tt `payload,Tr 1,Tv (Tr 7) (Ts 1),Tw .fdiv (Tv (Tr 7) (Ts 2)) (Ts 8),Tr 8]))]]),
 (TC (Tr 8))]
noncomputable def lG:List S:=[(TQ (.many [3,4]) false (Tx 9 [TE (Tr 0) `family,Tr 2]) [TD (Tz .eq (T4 (TE (Tr 0) `known) (Tr 3)) (Tr 4)) [T8] [],
 (TA 5 (Tx 28 [Tr 0,Tr 1,Tr 3])),
 (TA 6 (Tx 15 [TE (Tr 0) `fields,Tu [Tt `field,Tr 3]])),
 (TB (TO (TE (Tr 0) `rows) (Tu [Tt `cmp,Tt 15934,Tr 1,Tx 26 [Tr 0,Tr 4,Tr 5,Tr 6]]))),
 (TU (TE (Tr 0) `known) (Tr 3) (Tr 4))])]
noncomputable def BQ:List S:=[TA 5 (Tw .sub (Tw .sub (Tw .mul (Ts 8) (Tr 2)) (Tr 3)) (Tr 4)),
 (TD (T1 [Tz .gt (Tr 3) (Ts 0),Tz .gt (Tr 5) (Ts 0)]) [TA 6 (Tw .shl (Tw .sub (Tw .shl (Ts 1) (Tr 4)) (Ts 1)) (Tr 5)),
 (TB (TO (TE (Tr 0) `rows) (Tu [Tt `bitwise,Tr 1,Tr 1,Tx 26 [Tr 0,Tr 6,Tr 2,Tt `big],Tx 26 [Tr 0,Ts 0,Tr 2,Tt `big]])))] []),
 (TD (Tz .gt (Tr 5) (Ts 0)) [TB (TO (TE (Tr 0) `rows) (Tu [Tt `shift,Tr 1,Tr 1,Tr 2,Tt `right,Tr 5]))] [])]
noncomputable def vF:List S:=[TK [3,4,5,6,7] (Tx 10 [TE (Tr 0) `fields,Tr 2]),
 (TD (Tz .eq (Tr 3) (Tt `payload)) [TB (Tx 29 [Tr 0,Tr 1,Tv (Tr 7) (Ts 0)])] []),
 (TA 8 (Tx 28 [Tr 0,Tr 1,Tr 2])),
 (TD (Tz .eq (Tr 3) (Tt `payload)) [TB (Tx 30 [Tr 0,Tr 1,Tr 8,Tw .mod (Tv (Tr 7) (Ts 2)) (Ts 8),Tr 5])] [])]
noncomputable def yV:List S:=[TA 5 (Tx 13 [TE (Tr 0) `fields,Tr 2]),
 (TA 6 (Tx 15 [TE (Tr 0) `fields,Tr 2])),
 (TA 7 (Tw .sub (Tw .shl (Ts 1) (Tw .mul (Ts 8) (Tr 5))) (Ts 1))),
 (TA 8 (Tw .band (Tr 4) (Tr 7))),
 (TA 9 (Tr 7)),
 (TD (Tz .eq (Tr 3) (Tt `mask)) [TA 9 (Tr 8),
 (TA 8 (Ts 0))] [TD (Tz .eq (Tr 3) (Tt `or)) [TA 9 (Tw .bxor (Tr 7) (Tr 8))] []]),
 (TB (TO (TE (Tr 0) `rows) (Tu [Tt `bitwise,Tr 1,Tr 1,Tx 26 [Tr 0,Tr 9,Tr 5,Tr 6],Tx 26 [Tr 0,Tr 8,Tr 5,Tr 6]])))]
noncomputable def Im:List S:=[TA 3 (Tv (Tr 2) (Ts 0)),
 (TD (Tz .eq (Tr 3) (Tt `field)) [TB (Tx 31 [Tr 0,Tr 1,Tv (Tr 2) (Ts 1)])] [(TD (Tz .in_ (Tr 3) (Tu [Tt `mask,Tt `or,Tt `xor])) [TB (Tx 34 [Tr 0,Tr 1,Tv (Tr 2) (Ts 1)]),
 (TB (Tx 32 [Tr 0,Tr 1,Tr 2,Tr 3,Tv (Tr 2) (Ts 2)]))] [(TD (Tz .in_ (Tr 3) (Tu [Tt `shl,Tt `shr])) [TB (Tx 34 [Tr 0,Tr 1,Tv (Tr 2) (Ts 1)]),
 (TB (Tx 33 [Tr 0,Tr 1,Tr 2]))] [TD (Tz .eq (Tr 3) (Tt `hash)) [TB (Tx 35 [Tr 0,Tr 1,Tr 2])] [TV (Tw .add (Tt `«no rows for ») (Tr 3))]])])])]
noncomputable def A6:List S:=[TA 3 (TM (Tr 0)),
 (Ua (TR [Tz .gt (Tr 3) (Ts 0),Tz .gt (Tv (Tv (Tr 0) (Tw .sub (Tr 3) (Ts 1))) (Ts 0)) (Tr 1)]) [T2 3 .sub (Ts 1)]),
 (TB (E.insert (Tr 0) (Tr 3) (Tu [Tr 1,Tr 2])))]
noncomputable def IT:List S:=[TD (T1 [Tz .nin (Tr 1) (Tr 0),Tz .lt (Tv (Tv (Tr 0) (Tr 1)) (Ts 0)) (Tr 3)]) [TU (Tr 0) (Tr 1) (Tu [Tr 3,Tr 2])] []]
noncomputable def uR:List S:=[TC (Tu [Tt `«match»,Tu [Tt `field,Tv (Tr 0) (Ts 0)],Tt 15934,Tu [Tt `num,Tv (Tr 0) (Ts 1)]])]
noncomputable def vC:List S:=[(TQ (.one 1) false (TE (Tr 0) `pending) [TD (Tz .ne (Tv (Tr 1) (Ts 2)) (Ts 0)) [TV (Tt `«a need that no field asked for»)] [],
 (TB (Tx 38 [TE (Tr 0) `known,Tv (Tr 1) (Ts 0),Tv (Tr 1) (Ts 1),Tv (Tr 1) (Ts 3)])),
 (TB (Tx 37 [TE (Tr 0) `statements,Tv (Tr 1) (Ts 3),Tx 39 [Tr 1]]))]),
 (TJ (Tr 0) `pending (TG []))]
noncomputable def Ig:List S:=[TB (Tx 40 [Tr 0]),
 (TB (Tx 37 [TE (Tr 0) `statements,TE (Tr 0) 25205,Tr 1]))]
noncomputable def BB:List S:=[TB (Tx 40 [Tr 0]),
 (TQ (.many [2,3]) false (TE (Tr 0) `dropped) [TD (Tz .lt (TM (TE (Tr 0) `statements)) (Tr 1)) [TB (Tx 37 [TE (Tr 0) `statements,Tr 2,Tr 3])] []]),
 (TJ (Tr 0) `dropped (TG []))]
noncomputable def kj:List S:=[TA 2 (TI [] []),
 (S.cpy 3 (TE (Tr 0) `known) 2),
 (TQ (.one 4) true (Tr 1) [TA 5 (Tv (TE (Tr 0) `pending) (Tr 4)),
 (TB (Tx 38 [Tr 2,Tv (Tr 5) (Ts 0),Tv (Tr 5) (Ts 1),Tv (Tr 5) (Ts 3)]))]),
 (TC (Tr 2))]
noncomputable def j0:List S:=[TA 2 (TG []),
 (TQ (.many [3,4]) false (Tr 1) [TD (T1 [Tz .nin (Tr 3) (Tr 0),Tz .ne (Tv (Tv (Tr 0) (Tr 3)) (Ts 1)) (Tr 4)]) [TB (TO (Tr 2) (Tu [Tr 3,Tr 4]))] []]),
 (TC (Tr 2))]
noncomputable def iQ:List S:=[TA 4 (Tx 9 [TE (Tr 0) `family,Tr 1]),
 (TQ (.one 5) true (Tw .add (TM (TE (Tr 0) `pending)) (Ts 1)) [TA 6 (Tx 44 [Tx 43 [Tr 0,Tr 5],Tr 4]),
 (TA 7 (Tw .sub (Tw .add (Tr 3) (Ts 1)) (Tw .mul (Ts 2) (TM (Tr 6))))),
 (TD (Tz .eq (TZ (Tu [Tv (Tv (Tr 7) (Tr 0)) (Ts 0),Tv (Tv (Tr 7) (Tr 0)) (Ts 1),Tr 3,Tw .add (Tr 8) (Tw .mul (Ts 2) (Tr 0))]) true (TM (Tr 6)) none) (T5 (TE (Tr 0) `pending) (Tr 5))) [TC (Tr 5)] [])]),
 (TC TW)]
noncomputable def de:List S:=[TK [6,7] (Tu [TW,(E.neg (Ts 1))]),
 (TQ (.one 8) false (TE (Tr 0) `fields) [TK [9,10,11,12,13] (Tv (TE (Tr 0) `fields) (Tr 8)),
 (TD (TR [Tz .eq (Tr 9) (Tt `payload),Tz .eq (Tr 11) (Tr 3),Tz .eq (Tv (Tr 13) (Ts 1)) (Tr 1),Tz .eq (Tv (Tr 13) (Ts 2)) (Tr 2)]) [TA 14 (Tx 45 [Tr 0,Tv (Tr 13) (Ts 0),Tr 4,Tr 5]),
 (TD (Tz .isnt (Tr 14) TW) [TA 15 (Tw .add (Tw .mul (Ts 3) (Tw .sub (TM (TE (Tr 0) `pending)) (Tr 14))) (TM (Tx 9 [TE (Tr 0) `family,Tv (Tr 13) (Ts 0)]))),
 (TD (Tz .gt (Tr 15) (Tr 7)) [TK [6,7] (Tu [Tu [Tr 8,Tr 14],Tr 15])] [])] [])] [])]),
 (TC (Tr 6))]
noncomputable def rp:List S:=[(TQ (.one 2) false (T5 (TE (Tr 0) `pending) (Tr 1)) [TB (Tx 38 [TE (Tr 0) `known,Tv (Tr 2) (Ts 0),Tv (Tr 2) (Ts 1),Tv (Tr 2) (Ts 3)]),
 (TD (Tz .eq (Tv (Tr 2) (Ts 2)) (Ts 0)) [TB (Tx 37 [TE (Tr 0) `dropped,Tv (Tr 2) (Ts 3),Tx 39 [Tr 2]])] [])]),
 (TJ (Tr 0) `pending (E.slcTo (TE (Tr 0) `pending) (Tr 1)))]
noncomputable def qM:List S:=[TK [4,5,6,7,8,9,10] (Tr 2),
 (TA 11 (Tw .sub (Tw .mul (Ts 8) (Tr 3)) (Tr 8))),
 (Ua (TR [Tz .gt (Tr 11) (Ts 0),Tz .eq (Tw .shr (Tr 7) (Tw .sub (Tw .add (Tr 8) (Tr 11)) (Ts 1))) (Ts 0)]) [T2 11 .sub (Ts 1)]),
 (TA 12 TW),
 (TD (TR [Tz .gt (Tr 11) (Ts 0),Tz .eq (Tr 7) (Tw .shl (Tw .sub (Tw .shl (Ts 1) (Tr 11)) (Ts 1)) (Tr 8))]) [TA 12 (Tx 46 [Tr 0,Tr 5,Tw .sub (Tw .sub (Tw .mul (Ts 8) (Tw .add (Tr 6) (Tr 3))) (Tr 8)) (Tr 11),Tr 11,Tr 10,Tr 9])] []),
 (TD (Tz .is_ (Tr 12) TW) [TU (TE (Tr 0) `slots) (Tr 1) (Tu [Tr 2,Tt `big,Tr 3])] [TB (Tx 47 [Tr 0,Tv (Tr 12) (Ts 1)]),
 (TU (TE (Tr 0) `slots) (Tr 1) (Tu [Tu [Tt `field,Tv (Tr 12) (Ts 0)],Tt `big,Tr 3]))])]
noncomputable def A0:List S:=[TD (Tz .nin (Tr 1) (TE (Tr 0) `slots)) [TV (Tt `«a register that nothing was put into»)] [],
 (TC (Tv (TE (Tr 0) `slots) (Tr 1)))]
noncomputable def IV:List S:=[TA 2 (Tx 49 [Tr 0,Tr 1]),
 (TD (Tz .eq (Tv (Tv (Tr 2) (Ts 0)) (Ts 0)) (Tt `half)) [TV (Tt `«octets that are no field»)] []),
 (TC (Tr 2))]
noncomputable def w8:List S:=[TC (Tx 23 [Tr 1,Tx 24 [Tr 2,TE (Tr 0) `order]])]
noncomputable def qP:List S:=[TA 2 (Tu [Tt `half,Tv (Tr 1) (Ts 2),Tv (Tr 1) (Ts 3),Tw .sub (Tw .shl (Ts 1) (Tw .mul (Ts 8) (Tv (Tr 1) (Ts 4)))) (Ts 1),Ts 0,TE (Tr 0) 25205,Tv (Tr 1) (Ts 1)]),
 (TB (Tx 48 [Tr 0,Tv (Tr 1) (Ts 1),Tr 2,Tv (Tr 1) (Ts 4)]))]
noncomputable def xW:List S:=[TU (TE (Tr 0) `slots) (Tv (Tr 1) (Ts 1)) (Tu [Tu [Tt `field,Tw .add (Tt `«meta ») (Tv (Tr 1) (Ts 2))],Tv (Tr 1) (Ts 4),Tv (Tr 1) (Ts 3)])]
noncomputable def pF:List S:=[TU (TE (Tr 0) `slots) (Tv (Tr 1) (Ts 1)) (Tu [Tu [Tt `raw,Tv (Tr 1) (Ts 2)],Tt `big,TM (Tv (Tr 1) (Ts 2))])]
noncomputable def qK:List S:=[TK [2,3,4] (Tx 49 [Tr 0,Tv (Tr 1) (Ts 2)]),
 (TK [5,6] (Tu [Tx 51 [Tr 0,Tv (Tr 1) (Ts 3),Tr 3],Tx 51 [Tr 0,Tv (Tr 1) (Ts 4),Tr 3]])),
 (TA 7 (Tw .sub (Tw .shl (Ts 1) (Tw .mul (Ts 8) (Tr 4))) (Ts 1))),
 (TD (Tz .eq (Tv (Tr 2) (Ts 0)) (Tt `half)) [TD (Tz .ne (Tr 6) (Ts 0)) [TV (Tt `«octets that are no field»)] [],
 (TK [8,9,10,11,12,13,14] (Tr 2)),
 (TB (Tx 48 [Tr 0,Tv (Tr 1) (Ts 1),Tu [Tr 8,Tr 9,Tr 10,Tw .band (Tr 11) (Tw .shl (Tr 5) (Tr 12)),Tr 12,Tr 13,Tr 14],Tr 4]))] [TD (Tz .eq (Tr 6) (Ts 0)) [TU (TE (Tr 0) `slots) (Tv (Tr 1) (Ts 1)) (Tu [Tu [Tt `mask,Tr 2,Tr 5],Tr 3,Tr 4])] [TD (Tz .eq (Tr 5) (Tr 7)) [TU (TE (Tr 0) `slots) (Tv (Tr 1) (Ts 1)) (Tu [Tu [Tt `xor,Tr 2,Tr 6],Tr 3,Tr 4])] [TD (Tz .eq (Tr 5) (Tw .bxor (Tr 7) (Tr 6))) [TU (TE (Tr 0) `slots) (Tv (Tr 1) (Ts 1)) (Tu [Tu [Tt `or,Tr 2,Tr 6],Tr 3,Tr 4])] [TV (Tt `«bits that no expression makes»)]]]])]
noncomputable def uM:List S:=[TK [2,3,4] (Tx 49 [Tr 0,Tv (Tr 1) (Ts 2)]),
 (TD (Tz .eq (Tv (Tr 2) (Ts 0)) (Tt `half)) [TD (Tz .ne (Tv (Tr 1) (Ts 4)) (Tt `right)) [TV (Tt `«octets that are no field»)] [],
 (TK [5,6,7,8,9,10,11] (Tr 2)),
 (T2 9 .add (Tv (Tr 1) (Ts 5))),
 (TB (Tx 48 [Tr 0,Tv (Tr 1) (Ts 1),Tu [Tr 5,Tr 6,Tr 7,Tw .shl (Tw .shr (Tr 8) (Tr 9)) (Tr 9),Tr 9,Tr 10,Tr 11],Tr 4]))] [TU (TE (Tr 0) `slots) (Tv (Tr 1) (Ts 1)) (Tu [Tu [TS (Tz .eq (Tv (Tr 1) (Ts 4)) (Tt `left)) (Tt `shl) (Tt `shr),Tr 2,Tv (Tr 1) (Ts 5)],Tr 3,Tr 4])])]
noncomputable def y5:List S:=[(TD (TR [Tz .eq (Tv (Tr 1) (Ts 0)) (Tt `mask),Tz .in_ (Tr 2) (Tu [Tt 15934,Tt 8766])]) [TD (TR [Tz .eq (Tr 3) (Ts 0),Tz .in_ (Tx 16 [TE (Tr 0) `fields,Tv (Tr 1) (Ts 1)]) (Tu [Tt `ct_state,Tt `ct_status,Tt `tcp_flag])]) [TC (Tu [Tt `«match»,Tv (Tr 1) (Ts 1),TS (Tz .eq (Tr 2) (Tt 15934)) (Tt `«none») (Tt `any),Tu [Tt `num,Tv (Tr 1) (Ts 2)]])] [],
 (TA 4 (Tw .sub (Tw .sub (Tw .shl (Ts 1) (Tx 14 [TE (Tr 0) `fields,Tv (Tr 1) (Ts 1)])) (Ts 1)) (Tv (Tr 1) (Ts 2)))),
 (TD (TR [Tz .gt (Tv (Tr 1) (Ts 2)) (Ts 0),Tz .gt (Tr 4) (Ts 0),Tz .eq (Tw .band (Tr 4) (Tw .add (Tr 4) (Ts 1))) (Ts 0),Tz .eq (Tw .band (Tr 3) (Tv (Tr 1) (Ts 2))) (Tr 3)]) [TC (Tu [Tt `«match»,Tv (Tr 1) (Ts 1),Tr 2,Tu [Tt `span,Tr 3,Tw .add (Tr 3) (Tr 4)]])] [])] []),
 (TC (Tu [Tt `«match»,Tr 1,Tr 2,Tu [Tt `num,Tr 3]]))]
noncomputable def fJ:List S:=[TK [2,3,4] (Tx 50 [Tr 0,Tv (Tr 1) (Ts 2)]),
 (TA 5 (Tx 51 [Tr 0,Tv (Tr 1) (Ts 3),Tr 3])),
 (TA 6 (Tu [Tt `«meta nfproto»,Tt `«meta l4proto»,Tt `«meta protocol»,Tt `«ether type»])),
 (TD (TR [Tz .eq (Tv (Tr 1) (Ts 1)) (Tt 15934),Tz .eq (Tv (Tr 2) (Ts 0)) (Tt `field),Tz .in_ (Tv (Tr 2) (Ts 1)) (Tr 6)]) [TB (TO (TE (Tr 0) `pending) (Tu [Tv (Tr 2) (Ts 1),Tr 5,Tv (Tr 1) (Ts 2),TE (Tr 0) 25205]))] [TB (Tx 41 [Tr 0,Tx 65 [Tr 0,Tr 2,Tv (Tr 1) (Ts 1),Tr 5]])])]
noncomputable def xT:List S:=[TB (Tx 41 [Tr 0,Tr 1])]
noncomputable def xq:List S:=[TA 0 (TI [`payload,`meta,`ct,`immediate] [TP 56,TP 57,TP 59,TP 60]),
 (Ub [Tr 0,Tr 0,Tr 0] [Tt `bitwise,Tt `shift,Tt `byteorder] (Tu [TP 61,TP 62,TP 63])),
 (Ub [Tr 0,Tr 0,Tr 0] [Tt `hash,Tt `cmp,Tt `range] (Tu [TP 64,TP 66,TP 67])),
 (Ub [Tr 0,Tr 0,Tr 0,Tr 0] [Tt `lookup,Tt `map,Tt `vmap,Tt `verdict] (Tu [TP 68,TP 69,TP 70,TP 71])),
 (TC (Tr 0))]
noncomputable def vU:List S:=[TB (Tx 42 [Tr 0,Tv (Tr 1) (Ts 1)]),
 (TA 2 (T4 (TE (Tr 0) `cells) (Tv (Tr 1) (Ts 1)))),
 (TA 3 (TS (Tz .is_ (Tr 2) TW) (Tu [Tt `counter,Ts 0,Ts 0]) (Tx 18 [Tr 2]))),
 (TD (Tz .ne (Tv (Tr 3) (Ts 0)) (Tv (Tr 1) (Ts 0))) [TV (Tt `«no cell of this kind and place was told»)] []),
 (TB (Tx 41 [Tr 0,Tr 3]))]
noncomputable def tD:List S:=[TA 0 (TI [`counter,`quota,`limit] [TP 73,TP 73,TP 73]),
 (Ub [Tr 0,Tr 0] [Tt `object,Tt `dynset] (Tu [TP 71,TP 74])),
 (TC (Tr 0))]
noncomputable def aO:List S:=[TA 7 (E.new 1 [Tr 0,Tr 1,Tr 3]),
 (TJ (Tr 7) `order (Tr 4)),
 (TD (Tz .isnt (Tr 5) TW) [TJ (Tr 7) `cells (Tr 5)] []),
 (TA 8 (Tx 72 [])),
 (TQ (.one 9) false (Tw .add (Tu [Tx 75 []]) (T9 (Tr 6))) [(S.cpy 10 (Tr 9) 8)]),
 (TQ (.one 11) false (Tr 2) [TD (Tz .nin (Tv (Tr 11) (Ts 0)) (Tr 8)) [TV (Tw .add (Tt 8829028804713842567975930444577) (Tv (Tr 11) (Ts 0)))] [],
 (TA 12 (Tv (Tr 8) (Tv (Tr 11) (Ts 0)))),
 (TB (E.callv (Tr 12) [Tr 7,Tr 11])),
 (S.augA 7 25205 .add (Ts 1))]),
 (TB (Tx 40 [Tr 7])),
 (TC (T9 (TZ (Tv (Tr 0) (Ts 1)) false (TE (Tr 7) `statements) none)))]
noncomputable def yF:List S:=[TB (TO (TE (Tr 0) `rows) (Tr 1))]
noncomputable def zC:List S:=[TD (Tz .nin (Tr 1) (TE (Tr 0) `makers)) [TV (Tw .add (Tt `«no maker for ») (Tr 1))] [],
 (TC (Tv (TE (Tr 0) `makers) (Tr 1)))]
noncomputable def sr:List S:=[TA 4 (Tx 13 [TE (Tr 0) `fields,Tr 1]),
 (TA 5 (Tx 15 [TE (Tr 0) `fields,Tr 1])),
 (TD (Tz .in_ (Tr 2) (Tu [Tt 15934,Tt 8766])) [TB (TO (TE (Tr 0) `rows) (Tu [Tt `cmp,Tr 2,Ts 0,Tx 26 [Tr 0,Tr 3,Tr 4,Tr 5]])),
 (TD (TR [Tz .eq (Tr 2) (Tt 15934),Tz .eq (Tv (Tr 1) (Ts 0)) (Tt `field)]) [TU (TE (Tr 0) `known) (Tv (Tr 1) (Ts 1)) (Tr 3)] [])] [(TD (Tz .in_ (Tr 2) (Tu [Tt `any,Tt `«none»])) [TB (Tx 32 [Tr 0,Ts 0,Tr 1,Tt `mask,Tr 3]),
 (TB (TO (TE (Tr 0) `rows) (Tu [Tt `cmp,TS (Tz .eq (Tr 2) (Tt `any)) (Tt 8766) (Tt 15934),Ts 0,Tx 26 [Tr 0,Ts 0,Tr 4,Tr 5]])))] [TD (Tz .eq (Tr 5) (Tt `host)) [TB (Tx 27 [Tr 0,Ts 0,Tr 4])] [],
 (TB (TO (TE (Tr 0) `rows) (Tu [Tt `cmp,Tr 2,Ts 0,Tx 26 [Tr 0,Tr 3,Tr 4,Tt `big]])))])])]
noncomputable def vK:List S:=[TK [3,4,5,6] (Tr 1),
 (TD (Tz .in_ (Tv (Tr 6) (Ts 0)) (Tu [Tt 7628405,Tt `ref])) [TA 7 (Tx 80 [Tr 0,Tt `«match in»]),
 (TB (E.callv (Tr 7) [Tr 0,Tr 1,Tr 2])),
 (TC TW)] []),
 (TB (Tx 34 [Tr 0,Ts 0,Tr 4])),
 (TD (Tz .eq (Tv (Tr 6) (Ts 0)) (Tt `span)) [TB (Tx 82 [Tr 0,Tr 4,Tr 5,Tv (Tr 6) (Ts 1),Tv (Tr 6) (Ts 2)])] [TB (Tx 81 [Tr 0,Tr 4,Tr 5,Tv (Tr 6) (Ts 1)])])]
noncomputable def tE:List S:=[TC (TI [`«match»,`verdict] [TP 83,TP 79])]
noncomputable def lY:List S:=[TA 7 (E.new 0 [Tr 0,Tr 2,Tr 4,Tr 5]),
 (TJ (Tr 7) `makers (Tr 1)),
 (TD (Tz .isnt (Tr 6) TW) [TJ (Tr 7) `flags (Tr 6)] []),
 (TA 8 (Ts 0)),
 (TQ (.one 9) false (Tr 3) [TA 10 (Tx 80 [Tr 7,Tv (Tr 9) (Ts 0)]),
 (TB (E.callv (Tr 10) [Tr 7,Tr 9,Tr 8])),
 (T2 8 .add (Ts 1))]),
 (TC (Tu [TE (Tr 7) `rows,TE (Tr 7) `sets]))]
noncomputable def uX:List S:=[TA 2 (Tw .mod (Tv (Tr 0) (Ts 0)) (Tr 1)),
 (TU (Tr 0) (Ts 0) (Tw .fdiv (Tv (Tr 0) (Ts 0)) (Tr 1))),
 (TC (Tr 2))]
noncomputable def u0:List S:=[TC (TI [`ether,`vlan,`arp,`ip,`ip6,`icmp,`icmpv6,`tcp,`udp] [Tu [Tt `link,Tu [],Tu [Tu [Tt `daddr,Ts 0,Ts 48],Tu [Tt `saddr,Ts 48,Ts 48]]],Tu [Tt `link,Tu [Tu [Tt `«ether type»,Ts 33024]],Tu [Tu [Tt `pcp,Ts 112,Ts 3],Tu [Tt `dei,Ts 115,Ts 1],Tu [Tt `id,Ts 116,Ts 12],Tu [Tt `«type»,Ts 128,Ts 16]]],Tu [Tt `network,Tu [Tu [Tt `«meta protocol»,Ts 2054]],Tu [Tu [Tt `htype,Ts 0,Ts 16],Tu [Tt `hlen,Ts 32,Ts 8],Tu [Tt `operation,Ts 48,Ts 16],Tu [Tt `«saddr ip»,Ts 112,Ts 32],Tu [Tt `«daddr ether»,Ts 144,Ts 48]]],Tu [Tt `network,Tu [Tu [Tt `«meta nfproto»,Ts 2]],Tu [Tu [Tt `version,Ts 0,Ts 4],Tu [Tt `dscp,Ts 8,Ts 6],Tu [Tt `ecn,Ts 14,Ts 2],Tu [Tt `id,Ts 32,Ts 16],Tu [Tt `ttl,Ts 64,Ts 8],Tu [Tt `daddr,Ts 128,Ts 32]]],Tu [Tt `network,Tu [Tu [Tt `«meta nfproto»,Ts 10]],Tu [Tu [Tt `version,Ts 0,Ts 4],Tu [Tt `dscp,Ts 4,Ts 6],Tu [Tt `ecn,Ts 10,Ts 2],Tu [Tt `flowlabel,Ts 12,Ts 20],Tu [Tt `nexthdr,Ts 48,Ts 8],Tu [Tt `saddr,Ts 64,Ts 128]]],Tu [Tt `transport,Tu [Tu [Tt `«meta nfproto»,Ts 2],Tu [Tt `«meta l4proto»,Ts 1]],Tu [Tu [Tt `«type»,Ts 0,Ts 8],Tu [Tt `code,Ts 8,Ts 8],Tu [Tt `checksum,Ts 16,Ts 16],Tu [Tt `id,Ts 32,Ts 16]]],Tu [Tt `transport,Tu [Tu [Tt `«meta nfproto»,Ts 10],Tu [Tt `«meta l4proto»,Ts 58]],Tu [Tu [Tt `«type»,Ts 0,Ts 8],Tu [Tt `checksum,Ts 16,Ts 16],Tu [Tt `mtu,Ts 32,Ts 32],Tu [Tt `sequence,Ts 48,Ts 16]]],Tu [Tt `transport,Tu [Tu [Tt `«meta l4proto»,Ts 6]],Tu [Tu [Tt `dport,Ts 16,Ts 16],Tu [Tt `doff,Ts 96,Ts 4],Tu [Tt `flags,Ts 104,Ts 8]]],Tu [Tt `transport,Tu [Tu [Tt `«meta l4proto»,Ts 17]],Tu [Tu [Tt `sport,Ts 0,Ts 16],Tu [Tt `length,Ts 32,Ts 16]]]])]
noncomputable def xk:List S:=[(TD (Tz .eq (Tr 0) (Ts 0)) [TA 2 (Tu [Tu [Tt `«ether type»,Ts 33024],Tu [Tt `«meta protocol»,Ts 2054],Tu [Tt `«ether type»,Ts 2054],Tu [Tt `«meta protocol»,Ts 2048]]),
 (TC (Tu [Tu [Tt `bridge,Tt `netdev,Tt `arp],Tu [Tt `ether,Tt `vlan,Tt `arp,Tt `arp],Tr 2]))] []),
 (TA 2 (Tu [Tu [Tt `«meta l4proto»,Ts 6],Tu [Tt `«meta l4proto»,Ts 17],Tu [Tt `«ether type»,Ts 33024],Tu [Tt `«ether type»,Ts 2048]])),
 (TD (Tz .eq (Tr 0) (Ts 1)) [TA 2 (Tw .add (Tr 2) (Tu [Tu [Tt `«meta nfproto»,Ts 2],Tu [Tt `«meta l4proto»,Ts 1],Tu [Tt `«meta protocol»,Ts 2048]])),
 (TC (Tu [Tu [Tt `inet,Tt `bridge,Tt `ip],Tu [Tt `vlan,Tt `ip,Tv (Tu [Tt `icmp,Tt `tcp,Tt `udp]) (Tr 1),Tt `icmp],Tr 2]))] []),
 (TA 2 (Tw .add (Tr 2) (Tu [Tu [Tt `«meta nfproto»,Ts 10],Tu [Tt `«meta l4proto»,Ts 58],Tu [Tt `«meta protocol»,Ts 34525]]))),
 (TC (Tu [Tu [Tt `inet,Tt `netdev,Tt `ip6],Tu [Tt `vlan,Tt `ip6,Tv (Tu [Tt `icmpv6,Tt `tcp,Tt `udp]) (Tr 1),Tt `icmpv6],Tr 2]))]
noncomputable def sO:List S:=[TA 3 (TX (TZ (Tw .mod (Tw .fdiv (Tr 1) (Tw .pow (Ts 256) (Tw .sub (Tw .sub (Tr 2) (Ts 1)) (Tr 0)))) (Ts 256)) true (Tr 1) none)),
 (TC (TS (Tz .eq (Tr 2) (Tt `little)) (E.slcRev (Tr 3)) (Tr 3)))]
noncomputable def oX:List S:=[TD (Tz .eq (Tr 0) (Tt `«ether type»)) [TC (TG [Tu [Tt `payload,Ts 0,Tt `link,Ts 12,Ts 2],Tu [Tt `cmp,Tr 2,Ts 0,Tx 89 [Tr 1,Ts 2,Tt `big]]])] [],
 (TA 3 (TS (Tz .eq (Tr 0) (Tt `«meta protocol»)) (Ts 2) (Ts 1))),
 (TC (TG [Tu [Tt `meta,Ts 0,T5 (Tr 0) (Ts 5),Tr 3,Tt `big],Tu [Tt `cmp,Tr 2,Ts 0,Tx 89 [Tr 1,Tr 3,Tt `big]]]))]
noncomputable def cB:List S:=[TA 5 (Tw .fdiv (Tw .add (Tw .add (Tw .mod (Tr 1) (Ts 8)) (Tr 2)) (Ts 7)) (Ts 8)),
 (TA 6 (Tw .sub (Tw .sub (Tw .mul (Ts 8) (Tr 5)) (Tw .mod (Tr 1) (Ts 8))) (Tr 2))),
 (TA 7 (TG [Tu [Tt `payload,Ts 0,Tr 0,Tw .fdiv (Tr 1) (Ts 8),Tr 5]])),
 (TD (Tz .ne (Tw .mul (Tr 5) (Ts 8)) (Tr 2)) [TA 8 (Tx 89 [Tw .mul (Tw .sub (Tw .pow (Ts 2) (Tr 2)) (Ts 1)) (Tw .pow (Ts 2) (Tr 6)),Tr 5,Tt `big]),
 (TB (TO (Tr 7) (Tu [Tt `bitwise,Ts 0,Ts 0,Tr 8,TX (Tr 5)])))] []),
 (TD (Tz .gt (Tr 6) (Ts 0)) [TB (TO (Tr 7) (Tu [Tt `shift,Ts 0,Ts 0,Tr 5,Tt `right,Tr 6]))] []),
 (TC (Tw .add (Tr 7) (TG [Tu [Tt `cmp,Tr 3,Ts 0,Tx 89 [Tr 4,Tr 5,Tt `big]]])))]
noncomputable def sV:List S:=[TC (TZ (Tr 0) false (Tr 1) (some (Tz .ne (T4 (Tr 1) (Tv (Tr 0) (Ts 0))) (Tv (Tr 0) (Ts 1)))))]
noncomputable def za:List S:=[TC (Tu [Tt `«match»,Tu [Tt `field,Tv (Tr 0) (Ts 0)],Tt 15934,Tu [Tt `num,Tv (Tr 0) (Ts 1)]])]
noncomputable def xr:List S:=[TB (E.extend (Tv (Tr 0) (Tt `due)) (TZ (Tx 93 [Tr 0]) false (E.slcTo (Tv (Tr 0) (Tt `held)) (Tr 1)) none)),
 (Ub [Tr 0,Tr 0] [Tt `held,Tt `base] (Tu [TG [],(E.mkdict (Tv (Tr 0) (Tt `known)))]))]
noncomputable def zi:List S:=[TB (TO (Tv (Tr 0) (Tt `statements)) (Tr 1)),
 (TB (TO (Tv (Tr 0) (Tt `due)) (Tr 1))),
 (TB (E.extend (Tv (Tr 0) (Tt `rows)) (Tr 2)))]
noncomputable def rL:List S:=[TB (TO (Tv (Tr 0) (Tt `statements)) (Tx 93 [Tr 1])),
 (TB (E.extend (Tv (Tr 0) (Tt `rows)) (Tx 90 [Tv (Tr 1) (Ts 0),Tv (Tr 1) (Ts 1),Tt 15934]))),
 (TB (TO (Tv (Tr 0) (Tt `held)) (Tr 1))),
 (TU (Tv (Tr 0) (Tt `known)) (Tv (Tr 1) (Ts 0)) (Tv (Tr 1) (Ts 1)))]
noncomputable def jD:List S:=[TK [3,4,5] (Tv (Tx 87 []) (Tr 1)),
 (TA 6 (T4 (TI [`ip,`ip6] [Tu [Tt `«meta nfproto»,Ts 2],Tu [Tt `«meta nfproto»,Ts 10]]) (Tv (Tr 0) (Tt `family)))),
 (TA 4 (TZ (Tr 0) false (Tr 4) (some (Tz .ne (Tr 0) (Tr 7))))),
 (TK [7,8,9] (Tv (Tr 5) (Tw .mod (Tx 86 [Tr 2,Ts 12]) (TM (Tr 5))))),
 (TA 10 (Tv (Tu [Tt 15934,Tt 8766,Tt 61]) (Tx 86 [Tr 2,Ts 3]))),
 (TA 11 (Tw .mod (Tw .mul (Tx 86 [Tr 2,Ts 65536]) (Ts 5192376087906286159508272029171713)) (Tw .pow (Ts 2) (Tr 9)))),
 (TK [12,13,14] (Tu [Tx 92 [Tv (Tr 0) (Tt `known),Tr 4],Ts 0,(E.mkdict (Tv (Tr 0) (Tt `base)))])),
 (Ua (Tz .ne (Tx 92 [Tr 14,Tr 4]) (Tw .add (T5 (Tv (Tr 0) (Tt `held)) (Tr 13)) (Tr 12))) [TU (Tr 14) (Tv (Tv (Tv (Tr 0) (Tt `held)) (Tr 13)) (Ts 0)) (Tv (Tv (Tv (Tr 0) (Tt `held)) (Tr 13)) (Ts 1)),
 (T2 13 .add (Ts 1))]),
 (TQ (.many [15,16]) false (Tr 12) [TB (E.extend (Tv (Tr 0) (Tt `rows)) (Tx 90 [Tr 15,Tr 16,Tt 15934])),
 (TU (Tv (Tr 0) (Tt `known)) (Tr 15) (Tr 16))]),
 (TB (Tx 94 [Tr 0,Tr 13])),
 (TA 17 (Tu [Tt `«match»,Tu [Tt `field,Tw .add (Tw .add (Tr 1) (Tt 33)) (Tr 7)],Tr 10,Tu [Tt `num,Tr 11]])),
 (TB (Tx 95 [Tr 0,Tr 17,Tx 91 [Tr 3,Tr 8,Tr 9,Tr 10,Tr 11]]))]
noncomputable def rq:List S:=[TB (Tx 94 [Tr 0,TM (Tv (Tr 0) (Tt `held))]),
 (TA 3 (Tx 90 [Tv (Tr 1) (Ts 0),Tv (Tr 1) (Ts 1),TS (Tr 2) (Tt 15934) (Tt 8766)])),
 (TD (E.not_ (Tr 2)) [TB (Tx 95 [Tr 0,Tu [Tt `«match»,Tu [Tt `field,Tv (Tr 1) (Ts 0)],Tt 8766,Tu [Tt `num,Tv (Tr 1) (Ts 1)]],Tr 3]),
 (TC TW)] []),
 (TA 4 (TS (Tz .in_ (Tv (Tr 1) (Ts 0)) (Tu [Tt `«ether type»,Tt `«meta protocol»])) (Ts 2) (Ts 1))),
 (TB (E.insert (Tr 3) (Ts 1) (Tu [Tt `bitwise,Ts 0,Ts 0,Tw .mul (E.bytes [255]) (Tr 4),TX (Tr 4)]))),
 (TB (Tx 95 [Tr 0,Tu [Tt `«match»,Tu [Tt `mask,Tu [Tt `field,Tv (Tr 1) (Ts 0)],Tw .sub (Tw .pow (Ts 256) (Tr 4)) (Ts 1)],Tt 15934,Tu [Tt `num,Tv (Tr 1) (Ts 1)]],Tr 3]))]
noncomputable def qu:List S:=[TB (Tx 94 [Tr 0,TM (Tv (Tr 0) (Tt `held))]),
 (TA 3 (TG [Tu [Tt `meta,Ts 0,Tt `mark,Ts 4,Tt `host],Tu [Tt `cmp,Tr 1,Ts 0,Tx 89 [Tr 2,Ts 4,Tv (Tr 0) (Tt `order)]]])),
 (TB (Tx 95 [Tr 0,Tu [Tt `«match»,Tu [Tt `field,Tt `«meta mark»],Tr 1,Tu [Tt `num,Tr 2]],Tr 3]))]
noncomputable def dH:List S:=[TK [2,3,4] (Tx 88 [Tr 0,Tx 86 [Tr 1,Ts 3]]),
 (TA 5 (TI [`family,`order] [Tv (Tr 2) (Tx 86 [Tr 1,Ts 3]),Tv (Tu [Tt `little,Tt `big]) (Tx 86 [Tr 1,Ts 2])])),
 (TB (T7 (Tr 5) (TI [`statements,`rows,`due,`known,`base,`held] [TG [],TG [],TG [],TI [] [],TI [] [],TG []]))),
 (TQ (.one 6) true (Ts 6) [TA 7 (Tx 86 [Tr 1,Ts 10]),
 (TD (Tz .lt (Tr 7) (Ts 5)) [TB (Tx 97 [Tr 5,Tv (Tr 3) (Tx 86 [Tr 1,Ts 4]),Tr 1])] [TD (Tz .lt (Tr 7) (Ts 8)) [TB (Tx 96 [Tr 5,Tv (Tr 4) (Tw .mod (Tx 86 [Tr 1,Ts 28]) (TM (Tr 4)))])] [TD (Tz .eq (Tr 7) (Ts 8)) [TB (Tx 98 [Tr 5,Tv (Tr 4) (Tw .mod (Tx 86 [Tr 1,Ts 28]) (TM (Tr 4))),Tz .eq (Tx 86 [Tr 1,Ts 2]) (Ts 1)])] [TB (Tx 99 [Tr 5,Tv (Tu [Tt 15934,Tt 8766]) (Tx 86 [Tr 1,Ts 2]),Tw .mul (Tx 86 [Tr 1,Ts 65536]) (Ts 65537)])]]])]),
 (TB (Tx 94 [Tr 5,TM (Tv (Tr 5) (Tt `held))])),
 (TB (Tx 95 [Tr 5,Tu [Tt `verdict,Tu [Tt `accept,Tt 0]],TG [Tu [Tt `verdict,Tu [Tt `accept,Tt 0]]]])),
 (TC (Tr 5))]
noncomputable def dS:List S:=[TA 2 (Tx 84 []),
 (TK [3,4] (Tx 85 [Tr 0,Tr 2,Tv (Tr 1) (Tt `family),Tv (Tr 1) (Tt `statements),Tv (Tr 1) (Tt `order)])),
 (TD (T1 [Tz .ne (Tr 3) (Tv (Tr 1) (Tt `rows)),Tz .ne (Tr 4) (TI [] [])]) [TC E.ff] []),
 (TA 5 (Tx 76 [Tr 0,Tv (Tr 1) (Tt `family),Tr 3,Tr 4,Tv (Tr 1) (Tt `order),TI [] [],Tu []])),
 (TD (T1 [Tz .ne (Tr 5) (T9 (Tv (Tr 1) (Tt `due))),Tz .ne (Tv (Tx 85 [Tr 0,Tr 2,Tv (Tr 1) (Tt `family),Tr 5,Tv (Tr 1) (Tt `order)]) (Ts 0)) (Tr 3)]) [TC E.ff] []),
 (TC (T1 [Tz .eq (Tv (Tr 1) (Tt `order)) (Tt `big),Tz .eq (Tx 76 [Tr 0,Tv (Tr 1) (Tt `family),Tr 3,TI [] []]) (Tr 5)]))]
noncomputable def eF:List S:=[TA 2 (Tu [Tt `meta,Ts 0,Tt `mark,Ts 4,Tt `host]),
 (TC (TG [Tu [TG [Tu [Tt `cmp,Tt 15934,Tr 0,TX (TG [Tr 1])]],Tt `«a register that nothing was put into»],Tu [TG [Tu [Tt `payload,Ts 0,Tt `network,Ts 3,Ts 3],Tu [Tt `cmp,Tt 15934,Ts 0,TX (Ts 3)]],Tt `«octets that are no field»],Tu [TG [Tu [Tt `payload,Ts 0,Tt `network,Ts 0,Ts 1],Tu [Tt `shift,Ts 0,Ts 0,Ts 1,Tt `left,Ts 4]],Tt `«octets that are no field»],Tu [TG [Tu [Tt `payload,Ts 0,Tt `network,Ts 0,Ts 1],Tu [Tt `bitwise,Ts 0,Ts 0,(E.bytes [240]),TX (TG [Tr 1])]],Tt `«octets that are no field»],Tu [TG [Tr 2,Tu [Tt `bitwise,Ts 0,Ts 0,TX (TG [Tr 1,Ts 0,Ts 0,Ts 0]),TX (TG [Tr 1,Ts 0,Ts 0,Ts 0])]],Tt `«bits that no expression makes»],Tu [TG [Tu [Tt `quota,Tr 0]],Tt `«no cell of this kind and place was told»],Tu [TG [Tu [Tt `limit,Tr 0]],Tt `«no cell of this kind and place was told»],Tu [TG [Tu [Tt `immediate,Ts 0,TX (Ts 2)],Tu [Tt `payload_set,Ts 0,Tt `link,Ts 12,Ts 2]],Tt 2732452066339802079955376510493825727460633408888680769141],Tu [TG [Tu [Tt `what,Tr 0]],Tt 37920389971687924467949278174630975726197],Tu [TG [Tu [Tt `meta,Tr 0,Tt `l4proto,Ts 1,Tt `big],Tu [Tt `cmp,Tt 15934,Tr 0,TX (TG [Tr 1])]],Tt `«a need that no field asked for»],Tu [TG [Tu [Tt `meta,Tr 0,Tt `l4proto,Ts 1,Tt `big],Tu [Tt `cmp,Tt 8766,Tr 0,TX (TG [Tr 1])]],Tu [Tu [Tt `«match»,Tu [Tt `field,Tt `«meta l4proto»],Tt 8766,Tu [Tt `num,Tr 1]]]],Tu [TG [Tu [Tt `counter,Tr 0]],Tu [Tu [Tt `counter,Ts 0,Ts 0]]]]))]
noncomputable def v6:List S:=[(S.tryRet [TC (Tx 76 [Tr 0,Tt `inet,Tr 1,TI [] []])] 2 [TC (Tr 2)])]
noncomputable def sQ:List S:=[TA 0 (Tx 1 []),
 (TQ (.one 1) false (Tu [Tx 2 [],Tx 3 [],Tx 4 [],Tx 5 [],Tx 6 [],Tx 7 []]) [TB (T7 (Tr 0) (Tr 1))]),
 (TC (Tr 0))]
noncomputable def kE:List S:=[TA 0 (E.slcTo (Tr 0) (Ts 63)),
 (TK [1,2] (Tu [Tx 104 [],TZ (TS (Tz .lt (Tr 0) (TM (Tr 1))) (Tv (Tr 1) (Tr 0)) (Ts 0)) true (Ts 5) none])),
 (TQ (.one 3) true (Ts 3) [TD (E.not_ (Tx 101 [Tr 1,Tx 100 [Tr 3,TG [Tw .add (Tv (E.glo 0) (Tr 3)) (Tv (Tr 2) (Tr 3))]]])) [TC E.ff] []]),
 (TQ (.many [4,5]) false (Tx 102 [Tw .add (Ts 1) (Tw .mod (Tw .add (Tv (Tr 2) (Ts 3)) (Ts 3)) (Ts 15)),Tw .add (Ts 1) (Tw .mod (Tw .add (Tv (Tr 2) (Ts 4)) (Ts 6)) (Ts 255))]) [TD (Tz .ne (Tx 103 [Tr 1,Tr 4]) (Tr 5)) [TC E.ff] []]),
 (TC E.tt)]
noncomputable def te:List S:=[TJ (Tr 0) `fields (Tr 1),
 (TJ (Tr 0) `family (Tr 2)),
 (TJ (Tr 0) `order (Tr 3)),
 (TJ (Tr 0) `«prefix» (Tr 4)),
 (TJ (Tr 0) `rows (TG [])),
 (TJ (Tr 0) `sets (TI [] [])),
 (TJ (Tr 0) `known (TI [] [])),
 (TJ (Tr 0) `makers (TI [] [])),
 (TJ (Tr 0) `flags (TI [] []))]
noncomputable def rJ:List S:=[TJ (Tr 0) `fields (Tr 1),
 (TJ (Tr 0) `family (Tr 2)),
 (TJ (Tr 0) `sets (Tr 3)),
 (TJ (Tr 0) `order (Tt `little)),
 (TJ (Tr 0) `cells (TI [] [])),
 (TJ (Tr 0) 25205 (Ts 0)),
 (TJ (Tr 0) `slots (TI [] [])),
 (TJ (Tr 0) `known (TI [] [])),
 (TJ (Tr 0) `pending (TG [])),
 (TJ (Tr 0) `dropped (TG [])),
 (TJ (Tr 0) `statements (TG []))]
noncomputable def P:J2 where
 fns:=[⟨3,[],8,qr⟩,
  ⟨0,[],1,tR⟩,
  ⟨0,[],0,yv⟩,
  ⟨0,[],0,vV⟩,
  ⟨0,[],0,vS⟩,
  ⟨0,[],0,vk⟩,
  ⟨0,[],1,tc⟩,
  ⟨0,[],6,tU⟩,
  ⟨1,[],2,zk⟩,
  ⟨2,[],4,yR⟩,
  ⟨2,[],2,tw⟩,
  ⟨1,[],1,xp⟩,
  ⟨3,[],3,sW⟩,
  ⟨2,[],4,AU⟩,
  ⟨2,[],3,ym⟩,
  ⟨2,[],3,zy⟩,
  ⟨2,[],3,BJ⟩,
  ⟨1000,[],0,[]⟩,
  ⟨1000,[],0,[]⟩,
  ⟨1,[],3,xd⟩,
  ⟨2,[],2,yi⟩,
  ⟨1,[],2,DN⟩,
  ⟨3,[],3,tS⟩,
  ⟨2,[],2,tG⟩,
  ⟨2,[],2,u7⟩,
  ⟨1,[],1,yD⟩,
  ⟨4,[],4,Fx⟩,
  ⟨1000,[],0,[]⟩,
  ⟨3,[],9,xe⟩,
  ⟨3,[],7,lG⟩,
  ⟨5,[],7,BQ⟩,
  ⟨3,[],9,vF⟩,
  ⟨5,[],10,yV⟩,
  ⟨1000,[],0,[]⟩,
  ⟨3,[],4,Im⟩,
  ⟨1000,[],0,[]⟩,
  ⟨1000,[],0,[]⟩,
  ⟨3,[],4,A6⟩,
  ⟨4,[],4,IT⟩,
  ⟨1,[],1,uR⟩,
  ⟨1,[],2,vC⟩,
  ⟨2,[],2,Ig⟩,
  ⟨2,[],4,BB⟩,
  ⟨2,[],6,kj⟩,
  ⟨2,[],5,j0⟩,
  ⟨4,[],8,iQ⟩,
  ⟨6,[],16,de⟩,
  ⟨2,[],3,rp⟩,
  ⟨4,[],13,qM⟩,
  ⟨2,[],2,A0⟩,
  ⟨2,[],3,IV⟩,
  ⟨3,[],3,w8⟩,
  ⟨1000,[],0,[]⟩,
  ⟨1000,[],0,[]⟩,
  ⟨1000,[],0,[]⟩,
  ⟨1000,[],0,[]⟩,
  ⟨2,[],3,qP⟩,
  ⟨2,[],2,xW⟩,
  ⟨1000,[],0,[]⟩,
  ⟨1000,[],0,[]⟩,
  ⟨2,[],2,pF⟩,
  ⟨2,[],15,qK⟩,
  ⟨2,[],12,uM⟩,
  ⟨1000,[],0,[]⟩,
  ⟨1000,[],0,[]⟩,
  ⟨4,[],5,y5⟩,
  ⟨2,[],7,fJ⟩,
  ⟨1000,[],0,[]⟩,
  ⟨1000,[],0,[]⟩,
  ⟨1000,[],0,[]⟩,
  ⟨1000,[],0,[]⟩,
  ⟨2,[],2,xT⟩,
  ⟨0,[],1,xq⟩,
  ⟨2,[],4,vU⟩,
  ⟨1000,[],0,[]⟩,
  ⟨0,[],1,tD⟩,
  ⟨7,[.str `little, .none, .tup []],13,aO⟩,
  ⟨1000,[],0,[]⟩,
  ⟨1000,[],0,[]⟩,
  ⟨3,[],3,yF⟩,
  ⟨2,[],2,zC⟩,
  ⟨4,[],6,sr⟩,
  ⟨1000,[],0,[]⟩,
  ⟨3,[],8,vK⟩,
  ⟨0,[],0,tE⟩,
  ⟨7,[.str `little, .str `__set, .none],11,lY⟩,
  ⟨2,[],3,uX⟩,
  ⟨0,[],0,u0⟩,
  ⟨2,[],3,xk⟩,
  ⟨3,[],4,sO⟩,
  ⟨3,[],4,oX⟩,
  ⟨5,[],9,cB⟩,
  ⟨2,[],2,sV⟩,
  ⟨1,[],1,za⟩,
  ⟨2,[],2,xr⟩,
  ⟨3,[],3,zi⟩,
  ⟨2,[],2,rL⟩,
  ⟨3,[],18,jD⟩,
  ⟨3,[],5,rq⟩,
  ⟨3,[],4,qu⟩,
  ⟨2,[],8,dH⟩,
  ⟨2,[],6,dS⟩,
  ⟨2,[],3,eF⟩,
  ⟨2,[],3,v6⟩,
  ⟨0,[],2,sQ⟩,
  ⟨1,[],6,kE⟩,
  ⟨1000,[],0,[]⟩,
  ⟨1000,[],0,[]⟩,
  ⟨1000,[],0,[]⟩,
  ⟨5,[],5,te⟩,
  ⟨4,[],4,rJ⟩]
 glo:=λX=> .tup [.int 99940295732785542995714176547628090, .int 649865414667185241539016338289, .int 276040859311145118406291482907409145578467]
 init:=λc=>match c with | 0=>109 | _=>110
noncomputable def qA:List Nat:=[`payload_group,`link_fields,`ip_fields,`ip6_fields,`tcp_fields,`udp_fields,`icmp_fields,`meta_fields,`needs_of,`needs_in,`field_named,`is_worked,`field_under,`size_of,`bits_of_e,`order_of,`type_of,`parts_of,`cell_statement,`number_of,`octets_of,`turned,`host_octets,`host_number,`host_order,`slots_of,`const,`turn_row,`field_row,`put_needs,`cut_row,`load_field,`bits_row,`shift_rows,`load,`load_hash,`load_key,`put_row,`note,`need_match,`flush,`emit,`restore,`known_with,`asked_of,`split_at,`field_at,`settle,`cut,`slot_of,`held,`number_in,`joined,`key_at,`elements_told,`where_of,`back_payload,`back_meta,`ct_name,`back_ct,`back_immediate,`back_bitwise,`back_shift,`back_byteorder,`back_hash,`match_of,`back_cmp,`back_range,`back_lookup,`back_map,`back_vmap,`back_same,`back_core,`back_meter,`back_dynset,`back_meters,`statements_of,`mask_of,`span_prefix,`put_same,`maker_of,`match_number,`match_span,`make_match,`core_makers,`rows_of,`_law_digit,`_law_heads,`_law_sort,`_law_octets,`_law_need_rows,`_law_field_rows,`_law_lacked,`_law_own,`_law_told,`_law_put,`_law_add_own,`_law_add_field,`_law_add_odd,`_law_add_mark,`_law_rule,`_law_is_right,`_law_strange,`_law_heard,`_law_fields,`law]
noncomputable def slotNames:List (List Nat):=[[`proto,`base,`rows,`group,`word,`first,`bits,`type_name],
 [`group],
 [],
 [],
 [],
 [],
 [`group],
 [`rows,`group,`key,`bits,`order,`type_name],
 [`proto,`needs],
 [`family,`proto,`left,`need],
 [`fields,`name],
 [102],
 [`fields,102,`what],
 [`fields,102,`field,`above],
 [`fields,102,`field],
 [`fields,102,`field],
 [`fields,102,`field],
 [],
 [],
 [`octets,`number,`octet],
 [`number,`size],
 [`octets,`last],
 [`number,`size,`order],
 [`octets,`order],
 [`order,`host],
 [`size],
 [`rowing,111,`size,`order],
 [],
 [`rowing,`reg,`name,`kind,`type_name,`bits,`order,`about,`many],
 [`rowing,`reg,`proto,`name,`number,`many,`order],
 [`rowing,`reg,`many,`above,`bits,`below,`mask],
 [`rowing,`reg,`name,`kind,`type_name,`bits,`order,`about,`many],
 [`rowing,`reg,102,`tag,111,`size,`order,`full,`turn,`keep],
 [],
 [`rowing,`reg,102,`tag],
 [],
 [],
 [`rows,25205,`statement,`place],
 [`known,`name,`number,25205],
 [`need],
 [`reading,`need],
 [`reading,`statement],
 [`reading,`place,25205,`statement],
 [`reading,`many,`known,`name,`place,`need],
 [`known,`needs,`asked,`name,`number],
 [`reading,`proto,`reg,25205,`needs,`split,`asked,`first],
 [`reading,`base,`first,`bits,`reg,25205,`best,`most,`name,`kind,`type_name,`size,`order,`about,`split,`many],
 [`reading,`split,`need],
 [`reading,`to,`half,`many,`tag,`base,25205,`mask,`down,`row_at,`reg,`bits,`found],
 [`reading,`reg],
 [`reading,`reg,`slot],
 [`reading,`octets,`order],
 [],
 [],
 [],
 [],
 [`reading,`row,`half],
 [`reading,`row],
 [],
 [],
 [`reading,`row],
 [`reading,`row,102,`order,`size,`mask,`turn,`full,`tag,`base,25205,`left,`down,`row_at,`reg],
 [`reading,`row,102,`order,`size,`tag,`base,25205,`left,`down,`row_at,`reg],
 [],
 [],
 [`reading,102,`op,111,`rest],
 [`reading,`row,102,`order,`size,111,`needed],
 [],
 [],
 [],
 [],
 [`reading,`row],
 [`backs],
 [`reading,`row,`cell,`statement],
 [],
 [`backs],
 [`fields,`family,`rows,`sets,`order,`cells,`groups,`reading,`backs,`group,`op,`row,`back_one],
 [],
 [],
 [`rowing,`statement,`place],
 [`rowing,`kind],
 [`rowing,102,`op,111,`size,`order],
 [],
 [`rowing,`statement,`place,`tag,102,`op,`right,`make_in],
 [],
 [`fields,`makers,`family,`statements,`order,`«prefix»,`flags,`rowing,`place,`statement,`maker],
 [`bag,`many,`found],
 [],
 [`which,`third,`owns],
 [`number,`size,`order,`made],
 [`name,`number,`op,`size],
 [`base,`first,`bits,`op,`number,`size,`below,`rows,`mask],
 [`known,`needs],
 [`need],
 [`world,`many],
 [`world,`statement,`rows],
 [`world,`need],
 [`world,`head,`bag,`base,`needs,`fields,`met,`word,`first,`bits,`op,`number,`asked,`many,`known,`name,`one,`statement],
 [`world,`need,`is_masked,`rows,`size],
 [`world,`op,`number,`rows],
 [`which,`bag,`families,`heads,`owns,`world,`turn,`way],
 [`fields,`world,`makers,`rows,`sets,`told],
 [`reg,`more,`mark],
 [`fields,`rows,`fault],
 [`fields,`group],
 [`script,`fields,`numbers,`which,`rows,`due],
 [],
 [],
 [],
 [`self,`fields,`family,`order,`«prefix»],
 [`self,`fields,`family,`sets]]
noncomputable def xj:List Nat:=[`Rowing,`Reading]
noncomputable def n7:List Nat:=[`_law_base]
theorem ag{m:M α}(h:m s= .ok a s'):(m.bnd f) s=f a s':=by
 unfold M.bnd;rw[h]
theorem u8{m:M α}(h:m s= .exn e s'):(m.bnd f) s= .exn e s':=by
 unfold M.bnd;rw[h]
theorem a8(h:Y[n]? =some o):cO n Y= .ok o Y:=by
 unfold cO;rw[h]
theorem fj(h:b=true):kN b m=m:=by subst h;rfl
theorem dP(h:Y[n]? =some (.list xs)):mu n f Y=f xs Y:=ag (a8 h)
theorem sB(h:Y[n]? =some (.dictS xs)):AT n f Y=f xs Y:=ag (a8 h)
theorem Jd(h:Y[n]? =some (.inst c xs)):Ld n f Y=f (c,xs) Y:=ag (a8 h)
theorem Gc{n m:Nat}(h:n≠m):(!(n==m))=true:=by rw[beq_eq_false_iff_ne.mpr h];rfl
theorem jC(ha:a=true)(hb:b=true):(a&&b)=true:=by rw[ha,hb];rfl
theorem yO(h:m s= .ok a s'):tA m s= .ok a s':=by
 unfold tA;rw[h]
theorem eW(h:n<4000):iu n=true:=by exact UE h
section
variable{call:db}{glo:Nat->PV}{init:Nat->Nat}{r r' r'':UG}{Y s s' s'' t:aR}
theorem IA:af call glo init .none r Y= .ok .none Y:=rfl
theorem bX:af call glo init (.int i) r Y= .ok (.int i) Y:=rfl
theorem bC:af call glo init (.str n) r Y= .ok (.str n) Y:=rfl
theorem GN:af call glo init (.bytes l) r Y= .ok (.bytes l) Y:=rfl
theorem av(h:r[i]?.join=some v):af call glo init (.loc i) r Y= .ok v Y:=by
 show aZ (r[i]?.join) Y=_
 rw[h];rfl
theorem fA(h1:af call glo init a r Y= .ok x s)(h2:af call glo init b r s= .ok y s')(h3:bS op x y s'= .ok z s''):af call glo init (.bin op a b) r Y= .ok z s'':=by
 show((af call glo init a r).bnd λx=>(af call glo init b r).bnd λy=>bS op x y) Y=_
 rw[ag h1,ag h2];exact h3
theorem hZ(h1:af call glo init a r Y= .ok x s)(h2:af call glo init b r s= .ok y s')(h3:b8 op x y s'= .ok z s''):af call glo init (.cmp op a b) r Y= .ok z s'':=by
 show((af call glo init a r).bnd λx=>(af call glo init b r).bnd λy=>b8 op x y) Y=_
 rw[ag h1,ag h2];exact h3
theorem D3:d7 call glo init [] r Y= .ok true Y:=rfl
theorem tJ(h:af call glo init e r Y= .ok (.bool true) s)(h2:d7 call glo init es r s= .ok b s'):d7 call glo init (e::es) r Y= .ok b s':=by
 show((af call glo init e r).bnd _) Y=_
 rw[ag h];exact h2
theorem yx(h:af call glo init e r Y= .ok (.bool false) s):d7 call glo init (e::es) r Y= .ok false s:=by
 show((af call glo init e r).bnd _) Y=_
 rw[ag h];rfl
theorem yA:fH call glo init [] r Y= .ok false Y:=rfl
theorem xL(h:af call glo init e r Y= .ok (.bool false) s)(h2:fH call glo init es r s= .ok b s'):fH call glo init (e::es) r Y= .ok b s':=by
 show((af call glo init e r).bnd _) Y=_
 rw[ag h];exact h2
theorem Dy(h:af call glo init e r Y= .ok (.bool true) s):fH call glo init (e::es) r Y= .ok true s:=by
 show((af call glo init e r).bnd _) Y=_
 rw[ag h];rfl
theorem pU(h:d7 call glo init es r Y= .ok b s):af call glo init (.and_ es) r Y= .ok (.bool b) s:=by
 show((d7 call glo init es r).bnd _) Y=_
 rw[ag h];rfl
theorem AM(h:fH call glo init es r Y= .ok b s):af call glo init (.or_ es) r Y= .ok (.bool b) s:=by
 show((fH call glo init es r).bnd _) Y=_
 rw[ag h];rfl
theorem DF(h:af call glo init c r Y= .ok (.bool true) s)(h2:af call glo init a r s= .ok v s'):af call glo init (.ifx c a b) r Y= .ok v s':=by
 show((af call glo init c r).bnd _) Y=_
 rw[ag h];exact h2
theorem Ec(h:af call glo init c r Y= .ok (.bool false) s)(h2:af call glo init b r s= .ok v s'):af call glo init (.ifx c a b) r Y= .ok v s':=by
 show((af call glo init c r).bnd _) Y=_
 rw[ag h];exact h2
theorem bA:bE call glo init [] r Y= .ok [] Y:=rfl
theorem ai(h:af call glo init e r Y= .ok v s)(h2:bE call glo init es r s= .ok vs s'):bE call glo init (e::es) r Y= .ok (v::vs) s':=by
 show((af call glo init e r).bnd λv=>(bE call glo init es r).bnd λvs=>ret (v::vs)) Y=_
 rw[ag h,ag h2];rfl
theorem iG(h:bE call glo init es r Y= .ok vs s):af call glo init (.tup es) r Y= .ok (.tup vs) s:=by
 show((bE call glo init es r).bnd _) Y=_
 rw[ag h];rfl
theorem mv(h:bE call glo init es r Y= .ok vs s):af call glo init (.lst es) r Y= .ok (.ref s.length) (s++[.list vs]):=by
 show((bE call glo init es r).bnd _) Y=_
 rw[ag h];rfl
theorem vQ:af call glo init (.dct [] []) r Y= .ok (.ref Y.length) (Y++[.dictS []]):=rfl
theorem Dx(h:bE call glo init es r (Y++[.dictS []])= .ok vs s)(h2:s[Y.length]? =some (.dictS []))(hl:((k::ks).length==vs.length)=true):
 af call glo init (.dct (k::ks) es) r Y= .ok (.ref Y.length) (s.set Y.length (.dictS ((k::ks).zip vs))):=by
 show((dB (.dictS [])).bnd λp=>(bE call glo init es r).bnd λvs=>if (k::ks).length==vs.length then mE p ((k::ks).zip vs) else fX) Y=_
 rw[ag (show dB (.dictS []) Y= .ok (.ref Y.length) (Y++[.dictS []]) from rfl),ag h,if_pos hl];unfold mE;dsimp only;rw[h2]
theorem bu(h:bE call glo init es r Y= .ok vs s)(h2:call f vs s= .ok v s'):af call glo init (.call f es) r Y= .ok v s':=by
 show((bE call glo init es r).bnd λvs=>call f vs) Y=_
 rw[ag h];exact h2
theorem Lj(h:bE call glo init es r Y= .ok vs s)(h2:call (init c) (.ref s.length::vs) (s++[.inst c []])= .ok .none s'):af call glo init (.new c es) r Y= .ok (.ref s.length) s':=by
 show((bE call glo init es r).bnd _) Y=_
 rw[ag h];show((call (init c) (.ref s.length::vs)).bnd _) (s++[.inst c []])=_;rw[ag h2];rfl
theorem t6(h:af call glo init a r Y= .ok x s)(h2:lx x s= .ok v s'):af call glo init (.len a) r Y= .ok v s':=by
 show((af call glo init a r).bnd λv=>lx v) Y=_
 rw[ag h];exact h2
theorem l7(h:af call glo init a r Y= .ok x s)(h2:mkBytes x s= .ok v s'):af call glo init (.mkbytes a) r Y= .ok v s':=by
 show((af call glo init a r).bnd λv=>mkBytes v) Y=_
 rw[ag h];exact h2
theorem Gs(h:af call glo init a r Y= .ok x s)(h2:nW x s= .ok v s'):af call glo init (.mktup a) r Y= .ok v s':=by
 show((af call glo init a r).bnd λv=>nW v) Y=_
 rw[ag h];exact h2
theorem fy(h:af call glo init o r Y= .ok (.ref n) s)(h1:s[n]? =some (.list x0))(h2:af call glo init a r s= .ok v s')(h3:s'[n]? =some (.list xs))(hf:xs.length<4000):
 af call glo init (.append o a) r Y= .ok .none (s'.set n (.list (xs++[v]))):=by
 show((af call glo init o r).bnd λo=>(oq o).bnd λX=>(af call glo init a r).bnd λv=>kZ o v) Y=_
 rw[ag h,ag (show oq (.ref n) s= .ok () s from dP h1),ag h2];show mu n _ s'=_;rw[dP h3,fj (eW hf)];rfl
theorem xK{o a:E}(h:af call glo init o r Y= .ok (.ref n) s)(h1:s[n]? =some (.list x0))(h2:af call glo init a r s= .ok (.ref m) s')(h3:s'[n]? =some (.list xs))(h4:s'[m]? =some (.list ys))(hn:n≠m)(hf:xs.length+ys.length<4000):
 af call glo init (.extend o a) r Y= .ok .none (s'.set n (.list (xs++ys))):=by
 show((af call glo init o r).bnd λo=>(oq o).bnd λX=>(af call glo init a r).bnd λv=>ly o v) Y=_
 rw[ag h,ag (show oq (.ref n) s= .ok () s from dP h1),ag h2];show mu n (λX=>mu m _) s'=_;rw[dP h3,dP h4,fj (jC (Gc hn) (eW hf))];rfl
theorem Eg(h:af call glo init o r Y= .ok (.ref n) s)(h1:s[n]? =some (.list x0))(hi:af call glo init i r s= .ok (.int k) s')(h2:af call glo init a r s'= .ok v s'')(h3:s''[n]? =some (.list xs))(h0:0<=k)(hk:k<=xs.length)(hf:xs.length<4000):
 af call glo init (.insert o i a) r Y= .ok .none (s''.set n (.list (xs.take k.toNat++v::xs.drop k.toNat))):=by
 show((af call glo init o r).bnd λo=>(oq o).bnd λX=>(af call glo init i r).bnd λi=>(af call glo init a r).bnd λv=>lu o i v) Y=_
 rw[ag h,ag (show oq (.ref n) s= .ok () s from dP h1),ag hi,ag h2];show mu n _ s''=_;rw[dP h3,fj (jC (jC (UE h0) (UE hk)) (eW hf))];rfl
theorem lS(h:s[n]? =some (.dictS kvs)):ye (.ref n) s= .ok () s:=by
 show((cO n).bnd _) s=_;rw[ag (a8 h)];rfl
theorem Lo(h:af call glo init o r Y= .ok (.ref n) s)(h1:s[n]? =some (.dictS k0))(h2:af call glo init k r s= .ok (.str c) s')(h3:s'[n]? =some (.dictS kvs)):
 af call glo init (.get o k) r Y= .ok ((kvs.lookup c).getD .none) s':=by
 show((af call glo init o r).bnd λo=>(ye o).bnd λX=>(af call glo init k r).bnd λk=>un o k) Y=_
 rw[ag h,ag (lS h1),ag h2];show((cO n).bnd _) s'=_;rw[ag (a8 h3)];rfl
theorem Et{o a:E}(h:af call glo init o r Y= .ok (.ref n) s)(h1:s[n]? =some (.dictS k0))(h2:af call glo init a r s= .ok (.ref m) s')(h3:s'[n]? =some (.dictS xs))(h4:s'[m]? =some (.dictS ys))(hn:n≠m)(hf:xs.length+ys.length<4000):
 af call glo init (.update o a) r Y= .ok .none (s'.set n (.dictS (cn xs ys))):=by
 show((af call glo init o r).bnd λo=>(ye o).bnd λX=>(af call glo init a r).bnd λv=>nP o v) Y=_
 rw[ag h,ag (lS h1),ag h2];show AT n (λX=>AT m _) s'=_;rw[sB h3,sB h4,fj (jC (Gc hn) (eW hf))];rfl
theorem aJ(h1:s[n]? =some (.inst c fs))(h2:fs.lookup a=some v):eL (.ref n) a s= .ok v s:=by
 show((cO n).bnd _) s=_
 rw[ag (a8 h1)];show aZ (fs.lookup a) s=_;rw[h2];rfl
theorem cQ(h:af call glo init o r Y= .ok (.ref n) s)(h1:s[n]? =some (.inst c fs))(h2:fs.lookup a=some v):af call glo init (.attr o a) r Y= .ok v s:=by
 show((af call glo init o r).bnd λo=>eL o a) Y=_
 rw[ag h];exact aJ h1 h2
theorem cW(h1:af call glo init o r Y= .ok x s)(h2:af call glo init i r s= .ok y s')(h3:dk x y s'= .ok v s''):af call glo init (.idx o i) r Y= .ok v s'':=by
 show((af call glo init o r).bnd λo=>(af call glo init i r).bnd λi=>dk o i) Y=_
 rw[ag h1,ag h2];exact h3
theorem z9(h1:af call glo init o r Y= .ok (.ref n) s)(h2:af call glo init i r s= .ok (.int k) s')(h3:s'[n]? =some (.list xs)):af call glo init (.slcTo o i) r Y= .ok (.ref s'.length) (s'++[.list (xs.take (dz k xs.length))]):=by
 show((af call glo init o r).bnd λo=>(af call glo init i r).bnd λi=>EH o i) Y=_
 rw[ag h1,ag h2];show((cO n).bnd _) s'=_;rw[ag (a8 h3)];rfl
theorem pb(h1:af call glo init o r Y= .ok (.ref n) s)(h2:af call glo init i r s= .ok (.int k) s')(h3:s'[n]? =some (.list xs)):af call glo init (.slcFrom o i) r Y= .ok (.ref s'.length) (s'++[.list (xs.drop (dz k xs.length))]):=by
 show((af call glo init o r).bnd λo=>(af call glo init i r).bnd λi=>rY o i) Y=_
 rw[ag h1,ag h2];show((cO n).bnd _) s'=_;rw[ag (a8 h3)];rfl
theorem El(h:af call glo init c r Y= .ok (.bool b) s):jf call glo init c r Y= .ok b s:=by
 show((af call glo init c r).bnd λv=>bW v) Y=_
 rw[ag h];rfl
theorem cT(h:af call glo init e r Y= .ok v s):bc call glo init (.asg i e) r Y= .ok (.nxt,r.set i (some v)) s:=by
 show((af call glo init e r).bnd _) Y=_
 rw[ag h];rfl
theorem k9(h:af call glo init e r Y= .ok (.tup vs) s)(hl:(is.length==vs.length)=true):bc call glo init (.unp is e) r Y= .ok (.nxt,(is.zip vs).foldl (λr p=>r.set p.1 (some p.2)) r) s:=by
 show((af call glo init e r).bnd λv=>(gj (.many is) v r).bnd λr=>ret (Fl.nxt,r)) Y=_
 rw[ag h,ag (show gj (.many is) (.tup vs) r s= .ok ((is.zip vs).foldl (λr p=>r.set p.1 (some p.2)) r) s by show kN _ _ s=_;rw[fj hl];rfl)];rfl
theorem u5(h:af call glo init e r Y= .ok (.tup vs) s)(hl:(is.length==vs.length)=true)(hr:(is.zip vs).foldl (λr p=>r.set p.1 (some p.2)) r=r'):bc call glo init (.unp is e) r Y= .ok (.nxt,r') s:=by
 subst hr;exact k9 h hl
theorem gM(h1:s[n]? =some (.inst c fs))(hf:fs.length<4000):setAttr (.ref n) a v s= .ok () (s.set n (.inst c (bK fs a v))):=by
 show Ld n _ s=_
 rw[Jd h1,fj (eW hf)];rfl
theorem uD(h:af call glo init e r Y= .ok v s)(h2:af call glo init o r s= .ok (.ref n) s')(h3:s'[n]? =some (.inst c fs))(hf:fs.length<4000):
 bc call glo init (.satt o a e) r Y= .ok (.nxt,r) (s'.set n (.inst c (bK fs a v))):=by
 show((af call glo init e r).bnd λv=>(af call glo init o r).bnd λo=>(setAttr o a v).bnd λX=>ret (Fl.nxt,r)) Y=_
 rw[ag h,ag h2,ag (gM h3 hf)];rfl
theorem Ju(h:af call glo init e r Y= .ok v s)(h2:af call glo init o r s= .ok x s')(h3:af call glo init k r s'= .ok y s'')(h4:dA x y v s''= .ok () t):bc call glo init (.sidx o k e) r Y= .ok (.nxt,r) t:=by
 show((af call glo init e r).bnd λv=>(af call glo init o r).bnd λo=>(af call glo init k r).bnd λk=>(dA o k v).bnd λX=>ret (Fl.nxt,r)) Y=_
 rw[ag h,ag h2,ag h3,ag h4];rfl
theorem im(h:s[n]? =some (.dictS kvs))(hf:kvs.length<4000):dA (.ref n) (.str k) v s= .ok () (s.set n (.dictS (bK kvs k v))):=by
 show((cO n).bnd _) s=_
 rw[ag (a8 h)];show kN _ _ s=_;rw[fj (eW hf)];rfl
theorem Ep(h:s[n]? =some (.dictS [])):dA (.ref n) (.int k) v s= .ok () (s.set n (.dictI [(k,v)])):=by
 show((cO n).bnd _) s=_
 rw[ag (a8 h)];rfl
theorem GE(h:s[n]? =some (.dictI kvs))(hf:kvs.length<4000):dA (.ref n) (.int k) v s= .ok () (s.set n (.dictI (bK kvs k v))):=by
 show((cO n).bnd _) s=_
 rw[ag (a8 h)];show kN _ _ s=_;rw[fj (eW hf)];rfl
theorem GH{xs:List PV}(h:s[n]? =some (.list xs))(hk:k<xs.length):dA (.ref n) (.int k) v s= .ok () (s.set n (.list (xs.set k v))):=by
 show((cO n).bnd _) s=_
 rw[ag (a8 h)];show kN _ _ s=_;rw[fj (jC (UE (M9 k)) (UE (Qi.mpr hk)))];rfl
theorem An:unpI call glo init [] [] [] r Y= .ok () Y:=rfl
theorem Kd(h2:af call glo init o r Y= .ok x s)(h3:af call glo init k r s= .ok y s')(h4:dA x y v s'= .ok () s'')(h5:unpI call glo init os ks vs r s''= .ok () t):unpI call glo init (o::os) (k::ks) (v::vs) r Y= .ok () t:=by
 show((af call glo init o r).bnd λo=>(af call glo init k r).bnd λk=>(dA o k v).bnd λX=>unpI call glo init os ks vs r) Y=_
 rw[ag h2,ag h3,ag h4];exact h5
theorem vz(h:af call glo init e r Y= .ok (.tup vs) s)(hl:(vs.length==os.length)=true)(h2:unpI call glo init os ks vs r s= .ok () s'):bc call glo init (.unpI os ks e) r Y= .ok (.nxt,r) s':=by
 show((af call glo init e r).bnd _) Y=_
 rw[ag h];show kN _ _ s=_;rw[fj hl,ag h2];rfl
theorem KY(h1:r[i]?.join=some (.int a))(h2:af call glo init e r Y= .ok (.int b) s)(h3:bS op (.int a) (.int b) s= .ok v s'):bc call glo init (.aug i op e) r Y= .ok (.nxt,r.set i (some v)) s':=by
 show((aZ (r[i]?.join)).bnd _) Y=_
 rw[h1,ag (show aZ (some (TF a)) Y= .ok (.int a) Y from rfl)];show((af call glo init e r).bnd _) Y=_;rw[ag h2];show((bS op (.int a) (.int b)).bnd _) s=_;rw[ag h3];rfl
theorem Ji(h1:r[i]?.join=some (.ref n))(h2:Y[n]? =some (.inst c fs))(h3:fs.lookup at_=some (.int a))(h4:af call glo init e r Y= .ok (.int b) s)(h5:bS op (.int a) (.int b) s= .ok v s')(h6:s'[n]? =some (.inst c fs))(hf:fs.length<4000):
 bc call glo init (.augA i at_ op e) r Y= .ok (.nxt,r) (s'.set n (.inst c (bK fs at_ v))):=by
 show((aZ (r[i]?.join)).bnd _) Y=_
 rw[h1,ag (show aZ (some (TH n)) Y= .ok (.ref n) Y from rfl)];show((eL (.ref n) at_).bnd _) Y=_;rw[ag (aJ h2 h3)];show((af call glo init e r).bnd _) Y=_;rw[ag h4];show((bS op (.int a) (.int b)).bnd _) s=_;rw[ag h5,ag (gM h6 hf)];rfl
theorem qb(h:af call glo init c r Y= .ok (.bool true) s)(h2:ax call glo init th r s=o):bc call glo init (.ifs c th el) r Y=o:=by
 show((jf call glo init c r).bnd _) Y=_
 rw[ag (El h)];exact h2
theorem mq(h:af call glo init c r Y= .ok (.bool false) s)(h2:ax call glo init el r s=o):bc call glo init (.ifs c th el) r Y=o:=by
 show((jf call glo init c r).bnd _) Y=_
 rw[ag (El h)];exact h2
theorem wj(h:af call glo init e r Y= .ok v s):bc call glo init (.ret e) r Y= .ok (.ret v,r) s:=by
 show((af call glo init e r).bnd _) Y=_
 rw[ag h];rfl
theorem qw(h:af call glo init e r Y= .ok v s):bc call glo init (.ex e) r Y= .ok (.nxt,r) s:=by
 show((af call glo init e r).bnd _) Y=_
 rw[ag h];rfl
theorem J1:bc call glo init .cont r Y= .ok (.cnt,r) Y:=rfl
theorem cM:ax call glo init [] r Y= .ok (.nxt,r) Y:=rfl
theorem aD(h:bc call glo init x r Y= .ok (.nxt,r') s)(h2:ax call glo init ss r' s=o):ax call glo init (x::ss) r Y=o:=by
 show((bc call glo init x r).bnd _) Y=_
 rw[ag h];exact h2
theorem nb(h:bc call glo init x r Y= .ok (.ret v,r') s):ax call glo init (x::ss) r Y= .ok (.ret v,r') s:=by
 show((bc call glo init x r).bnd _) Y=_
 rw[ag h];rfl
theorem EQ(h:bc call glo init x r Y= .ok (.cnt,r') s):ax call glo init (x::ss) r Y= .ok (.cnt,r') s:=by
 show((bc call glo init x r).bnd _) Y=_
 rw[ag h];rfl
theorem IZ(h:bc call glo init x r Y= .exn v s):ax call glo init (x::ss) r Y= .exn v s:=by
 show((bc call glo init x r).bnd _) Y=_
 rw[u8 h]
theorem uO(h1:af call glo init src r Y= .ok v s)(h2:pc isR v s= .ok (it,n) s')
 (h:fW tg (λr=>ax call glo init b r) (n+1) it r s'=o):bc call glo init (.fors tg isR src b) r Y=o:=by
 show((af call glo init src r).bnd λv=>(pc isR v).bnd λp=>fW tg (λr=>ax call glo init b r) (p.2+1) p.1 r) Y=_
 rw[ag h1,ag h2];exact h
theorem yk(h:tL (jf call glo init c) (λr=>ax call glo init b r) 200 r Y=o):bc call glo init (.whl c b) r Y=o:=h
theorem tP(h:af call glo init c r Y= .ok (.bool false) s):tL (jf call glo init c) b (f+1) r Y= .ok (.nxt,r) s:=by
 show((jf call glo init c r).bnd _) Y=_
 rw[ag (El h)];rfl
theorem Jg(h:af call glo init c r Y= .ok (.bool true) s)(h2:ax call glo init b r s= .ok (.nxt,r') s')(h3:tL (jf call glo init c) (λr=>ax call glo init b r) f r' s'=o):tL (jf call glo init c) (λr=>ax call glo init b r) (f+1) r Y=o:=by
 show((jf call glo init c r).bnd _) Y=_
 rw[ag (El h)];show((ax call glo init b r).bnd _) s=_;rw[ag h2];exact h3
theorem gz(h:dg it Y= .ok none Y):fW tg body (f+1) it r Y= .ok (.nxt,r) Y:=by
 show((dg it).bnd _) Y=_
 rw[ag h];rfl
theorem iU(h:dg it Y= .ok (some (x,it')) Y)(h1:gj tg x r Y= .ok r' Y)(h2:ax call glo init b r' Y= .ok (fl,r'') s)(hg:(match fl with | .ret _=>false | _=>true)=true)
 (h3:fW tg (λr=>ax call glo init b r) f it' r'' s=o):fW tg (λr=>ax call glo init b r) (f+1) it r Y=o:=by
 show((dg it).bnd _) Y=_
 rw[ag h];show((gj tg x r).bnd _) Y=_;rw[ag h1];show((ax call glo init b r').bnd _) Y=_;rw[ag h2];cases fl<;>first | exact h3 | cases hg
theorem LF(h:dg it Y= .ok (some (x,it')) Y)(h1:gj tg x r Y= .ok r' Y)(h2:ax call glo init b r' Y= .ok (.ret v,r'') s):fW tg (λr=>ax call glo init b r) (f+1) it r Y= .ok (.ret v,r'') s:=by
 show((dg it).bnd _) Y=_
 rw[ag h];show((gj tg x r).bnd _) Y=_;rw[ag h1];show((ax call glo init b r').bnd _) Y=_;rw[ag h2];rfl
theorem H3(h:dg it Y= .ok (some (x,it')) Y)(h1:gj tg x r Y= .ok r' Y)(h2:ax call glo init b r' Y= .exn v s):fW tg (λr=>ax call glo init b r) (f+1) it r Y= .exn v s:=by
 show((dg it).bnd _) Y=_
 rw[ag h];show((gj tg x r).bnd _) Y=_;rw[ag h1];show((ax call glo init b r').bnd _) Y=_;rw[u8 h2]
theorem pH(h:Y[n]? =some (.list xs))(h2:xs[i]? =some x):dg (.lst n i) Y= .ok (some (x, .lst n (i+1))) Y:=by
 show mu n _ Y=_
 rw[dP h,h2];rfl
theorem mY(h:Y[n]? =some (.list xs))(h2:xs[i]? =none):dg (.lst n i) Y= .ok none Y:=by
 show mu n _ Y=_
 rw[dP h,h2];rfl
theorem ey(h:Y[n]? =some (.list xs)):pc false (.ref n) Y= .ok (.lst n 0,xs.length) Y:=by
 show((cO n).bnd _) Y=_
 rw[ag (a8 h)];rfl
end
section
variable{d f ar sl:Nat}{df:List PV}{body:List S}{vs ws:List PV}{r r':UG}{Y s:aR}{v:PV}
theorem eC(h1:P.fns[f]? =some ⟨ar,df,sl,body⟩)(h2:fZ ⟨ar,df,sl,body⟩ vs=some ws)(hr:ws.map some++NB (sl - ws.length) none=r)
 (h:ax (ac P d) P.glo P.init body r Y= .ok (.ret v,r') s):ac P (d+1) f vs Y= .ok v s:=by
 subst hr;unfold ac;rw[h1];dsimp only;rw[h2];dsimp only;rw[ag h];rfl
theorem jL(h1:P.fns[f]? =some ⟨ar,df,sl,body⟩)(h2:fZ ⟨ar,df,sl,body⟩ vs=some ws)(hr:ws.map some++NB (sl - ws.length) none=r)
 (h:ax (ac P d) P.glo P.init body r Y= .ok (.nxt,r') s):ac P (d+1) f vs Y= .ok .none s:=by
 subst hr;unfold ac;rw[h1];dsimp only;rw[h2];dsimp only;rw[ag h];rfl
end
noncomputable abbrev Ko(α:Type):=iR α->Prop
def bY{α:Type}(m:M α)(s:aR)(k:Ko α):Prop:=∀{o:iR α},m s=o->k o
noncomputable def aN{α β:Type}(k:Ko β)(f:α->aR->Prop):Ko α
 | .ok a s=>f a s|.exn m s=>k (.exn m s)|.bad=>k .bad
def wB(v:PV)(k:Prop)(f:Bool->Prop):Prop:=match v with
 | .bool b=>f b|_=>k
def wO(o:Option PV)(k:Prop)(f:PV->Prop):Prop:=match o with
 | some x=>f x|none=>k
section
variable(call:db)
mutual
def wE:E->Env->aR->Ko PV->Prop
 | .none,_,s,k=>k (.ok .none s)|.tt,_,s,k=>k (.ok (.bool true) s)|.ff,_,s,k=>k (.ok (.bool false) s)|.int i,_,s,k=>k (.ok (.int i) s)|.str n,_,s,k=>k (.ok (.str n) s)|.bytes l,_,s,k=>k (.ok (.bytes l) s)|.loc i,r,s,k=>k (aZ ((r[i]?).join) s)|.fnc i,_,s,k=>k (.ok (.fn i) s)|.glo i,_,s,k=>k (.ok (P.glo i) s)|.neg a,r,s,k=>wE a r s (aN k λv s=>k (need (fU v) (λi=>ret (.int (-i))) s))|.not_ a,r,s,k=>wE a r s (aN k λv s=>k ((bW v).bnd (λb=>ret (.bool (!b))) s))|.bin op a b,r,s,k=>wE a r s (aN k λx s=>wE b r s (aN k λy s=>bY (bS op x y) s k))|.cmp op a b,r,s,k=>wE a r s (aN k λx s=>wE b r s (aN k λy s=>bY (b8 op x y) s k))|.and_ es,r,s,k=>Jx es r s (aN k λb s=>k (.ok (.bool b) s))|.or_ es,r,s,k=>Mn es r s (aN k λb s=>k (.ok (.bool b) s))
 | .ifx c a b,r,s,k=>wE c r s (aN k λv s=>wB v (k .bad) λt=>match t with
   | true=>wE a r s k
   | false=>wE b r s k)
 | .tup es,r,s,k=>HZ es r s (aN k λvs s=>k (.ok (.tup vs) s))|.lst es,r,s,k=>HZ es r s (aN k λvs s=>k (dB (.list vs) s))|.dct ks es,r,s,k=>match ks.isEmpty with
   | true=>k (dB (.dictS []) s)|false=>HZ es r (s++[.dictS []]) (aN k λvs t=>bY (if ks.length==vs.length then mE (.ref s.length) (ks.zip vs) else fX) t k)
 | .call f es,r,s,k=>HZ es r s (aN k λvs s=>bY (call f vs) s k)
 | .callv f es,r,s,k=>wE f r s (aN k λg s=>match g with
   | .fn f=>HZ es r s (aN k λvs s=>bY (call f vs) s k)
   | _=>k .bad)
 | .new c es,r,s,k=>HZ es r s (aN k λvs s=>bY (call (P.init c) (.ref s.length::vs)) (s++[.inst c []]) (aN k λq t=>k (need (jx q) (λX=>ret (.ref s.length)) t)))|.len a,r,s,k=>wE a r s (aN k λv s=>bY (lx v) s k)|.mkbytes a,r,s,k=>wE a r s (aN k λv s=>bY (mkBytes v) s k)|.mktup a,r,s,k=>wE a r s (aN k λv s=>bY (nW v) s k)|.mkdict a,r,s,k=>wE a r s (aN k λv s=>bY (sf v) s k)|.append o a,r,s,k=>wE o r s (aN k λo s=>bY (oq o) s (aN k λX s=>wE a r s (aN k λv s=>bY (kZ o v) s k)))|.extend o a,r,s,k=>wE o r s (aN k λo s=>bY (oq o) s (aN k λX s=>wE a r s (aN k λv s=>bY (ly o v) s k)))|.insert o i a,r,s,k=>wE o r s (aN k λo s=>bY (oq o) s (aN k λX s=>wE i r s (aN k λi s=>wE a r s (aN k λv s=>bY (lu o i v) s k))))|.get o i,r,s,k=>wE o r s (aN k λo s=>bY (ye o) s (aN k λX s=>wE i r s (aN k λi s=>bY (un o i) s k)))|.update o a,r,s,k=>wE o r s (aN k λo s=>bY (ye o) s (aN k λX s=>wE a r s (aN k λv s=>bY (nP o v) s k)))|.attr o a,r,s,k=>wE o r s (aN k λo s=>bY (eL o a) s k)|.idx o i,r,s,k=>wE o r s (aN k λo s=>wE i r s (aN k λi s=>bY (dk o i) s k))|.slcTo o i,r,s,k=>wE o r s (aN k λo s=>wE i r s (aN k λi s=>bY (EH o i) s k))|.slcFrom o i,r,s,k=>wE o r s (aN k λo s=>wE i r s (aN k λi s=>bY (rY o i) s k))|.slcRev o,r,s,k=>wE o r s (aN k λo s=>bY (Ac o) s k)|.comp e t a c,r,s,k=>bY (af call P.glo P.init (.comp e t a c) r) s k
def HZ:List E->Env->aR->Ko (List PV)->Prop
 | [],_,s,k=>k (.ok [] s)|e::es,r,s,k=>wE e r s (aN k λv s=>HZ es r s (aN k λvs s=>k (.ok (v::vs) s)))
def Jx:List E->Env->aR->Ko Bool->Prop
 | [],_,s,k=>k (.ok true s)
 | e::es,r,s,k=>wE e r s (aN k λv s=>wB v (k .bad) λb=>match b with
   | true=>Jx es r s k
   | false=>k (.ok false s))
def Mn:List E->Env->aR->Ko Bool->Prop
 | [],_,s,k=>k (.ok false s)
 | e::es,r,s,k=>wE e r s (aN k λv s=>wB v (k .bad) λb=>match b with
   | true=>k (.ok true s)
   | false=>Mn es r s k)
end
end
def Sd{α:Type}(W:Ko α->Prop)(m:M α)(s:aR):Prop:=∀k,k (m s)->W k
theorem Sd.bnd{W2:α->aR->Ko β->Prop}(h:Sd W m s)(h2:∀a t,Sd (W2 a t) (f a) t):Sd (λk'=>W (aN k' λa t=>W2 a t k')) (m.bnd f) s:=λk hk=>h _ (by
 unfold M.bnd at hk;revert hk
 cases m s with
 | ok a t=>exact h2 a t k|exn m t=>exact id
 | bad=>exact id)
theorem cu:Sd (bY m s) m s:=λk h X e=>e▸h
theorem ii:Sd (λk=>k (m s)) m s:=λX h=>h
theorem Ix(h:Sd W (f (.ref s.length)) (s++[o])):Sd W ((dB o).bnd f) s:=h
theorem Cw{W:Bool->Ko β->Prop}(h:∀b,Sd (W b) (f b) s):Sd (λk=>wB v (k .bad) λb=>W b k) ((bW v).bnd f) s:=by
 intro k hk;cases v<;>first | exact hk | exact h _ k hk
section
variable{call:db}
mutual
theorem sE:∀(e:E) (r:Env) (s:aR),Sd (wE call e r s) (af call P.glo P.init e r) s
 | .none,_,_=>λX h=>h|.tt,_,_=>λX h=>h|.ff,_,_=>λX h=>h|.int _,_,_=>λX h=>h|.str _,_,_=>λX h=>h|.bytes _,_,_=>λX h=>h|.loc _,_,_=>λX h=>h|.fnc _,_,_=>λX h=>h|.glo _,_,_=>λX h=>h|.neg a,r,s=>(sE a r s).bnd λX X=>ii|.not_ a,r,s=>(sE a r s).bnd λX X=>ii|.bin _ a b,r,s=>(sE a r s).bnd λX t=>(sE b r t).bnd λX X=>cu|.cmp _ a b,r,s=>(sE a r s).bnd λX t=>(sE b r t).bnd λX X=>cu|.and_ es,r,s=>(Ln es r s).bnd λX X=>ii|.or_ es,r,s=>(Mw es r s).bnd λX X=>ii|.ifx c a b,r,s=>(sE c r s).bnd λX t=>Cw λq=>match q with
   | true=>sE a r t|false=>sE b r t
 | .tup es,r,s=>(I5 es r s).bnd λX X=>ii|.lst es,r,s=>(I5 es r s).bnd λX X=>ii|.dct ks es,r,s=>match ks with
   | []=>ii|a::ks=>by
     have h:=(I5 es r (s++[.dictS []])).bnd (f:=λvs=>if (a::ks).length==vs.length then mE (.ref s.length) ((a::ks).zip vs) else fX) λX X=>cu;exact h
 | .call _ es,r,s=>(I5 es r s).bnd λX X=>cu|.callv f es,r,s=>(sE f r s).bnd λg t k h=>by
   cases g<;>first | exact h | exact(I5 es r t).bnd (f:=λvs=>call _ vs) (λX X=>cu) k h
 | .new _ es,r,s=>(I5 es r s).bnd λX X=>Ix (cu.bnd λX X=>ii)|.len a,r,s=>(sE a r s).bnd λX X=>cu|.mkbytes a,r,s=>(sE a r s).bnd λX X=>cu|.mktup a,r,s=>(sE a r s).bnd λX X=>cu|.mkdict a,r,s=>(sE a r s).bnd λX X=>cu|.append o a,r,s=>(sE o r s).bnd λX X=>cu.bnd λX t=>(sE a r t).bnd λX X=>cu|.extend o a,r,s=>(sE o r s).bnd λX X=>cu.bnd λX t=>(sE a r t).bnd λX X=>cu|.insert o i a,r,s=>(sE o r s).bnd λX X=>cu.bnd λX t=>(sE i r t).bnd λX t=>(sE a r t).bnd λX X=>cu|.get o i,r,s=>(sE o r s).bnd λX X=>cu.bnd λX t=>(sE i r t).bnd λX X=>cu|.update o a,r,s=>(sE o r s).bnd λX X=>cu.bnd λX t=>(sE a r t).bnd λX X=>cu|.attr o _,r,s=>(sE o r s).bnd λX X=>cu|.idx o i,r,s=>(sE o r s).bnd λX t=>(sE i r t).bnd λX X=>cu|.slcTo o i,r,s=>(sE o r s).bnd λX t=>(sE i r t).bnd λX X=>cu|.slcFrom o i,r,s=>(sE o r s).bnd λX t=>(sE i r t).bnd λX X=>cu|.slcRev o,r,s=>(sE o r s).bnd λX X=>cu|.comp _ _ _ _,_,_=>cu
theorem I5:∀(es:List E) (r:Env) (s:aR),Sd (HZ call es r s) (bE call P.glo P.init es r) s
 | [],_,_=>λX h=>h|e::es,r,s=>(sE e r s).bnd λX t=>(I5 es r t).bnd λX X=>ii
theorem Ln:∀(es:List E) (r:Env) (s:aR),Sd (Jx call es r s) (d7 call P.glo P.init es r) s
 | [],_,_=>λX h=>h|e::es,r,s=>(sE e r s).bnd λX t=>Cw λq=>match q with
   | true=>Ln es r t|false=>ii
theorem Mw:∀(es:List E) (r:Env) (s:aR),Sd (Mn call es r s) (fH call P.glo P.init es r) s
 | [],_,_=>λX h=>h|e::es,r,s=>(sE e r s).bnd λX t=>Cw λq=>match q with
   | true=>ii|false=>Mw es r t
end
end
section
variable(call:db)
def wR(m:List Nat)(e:E)(r:Env)(s:aR)(k:Ko PV):Prop:=cond (m.headD 0==1) (bY (af call P.glo P.init e r) s k) (wE call e r s k)
def wU:List E->List E->List PV->Env->aR->Ko Unit->Prop
 | o::os,i::is,v::vs,r,s,k=>wE call o r s (aN k λo s=>wE call i r s (aN k λi s=>bY (dA o i v) s (aN k λX s=>wU os is vs r s k)))|os,is,vs,r,s,k=>k (unpI call P.glo P.init os is vs r s)
mutual
def wS:S->Env->aR->List Nat->(List Nat->Ko (Fl×Env))->Prop
 | .asg i e,r,s,m,k=>wR call m e r s (aN (k m.tail) λv s=>k m.tail (.ok (.nxt,r.set i (some v)) s))|.unp is e,r,s,m,k=>wR call m e r s (aN (k m.tail) λv s=>k m.tail ((gj (.many is) v r).bnd (λr=>ret (.nxt,r)) s))|.satt o a e,r,s,m,k=>wR call m e r s (aN (k m.tail) λv s=>wE call o r s (aN (k m.tail) λo s=>bY (setAttr o a v) s (aN (k m.tail) λX s=>k m.tail (.ok (.nxt,r) s))))|.sidx o i e,r,s,m,k=>wR call m e r s (aN (k m.tail) λv s=>wE call o r s (aN (k m.tail) λo s=>wE call i r s (aN (k m.tail) λi s=>bY (dA o i v) s (aN (k m.tail) λX s=>k m.tail (.ok (.nxt,r) s)))))
 | .unpI os is e,r,s,m,k=>wR call m e r s (aN (k m.tail) λv s=>match v with
   | .tup vs=>match vs.length==os.length with
     | true=>wU call os is vs r s (aN (k m.tail) λX s=>k m.tail (.ok (.nxt,r) s))|false=>k m.tail .bad
   | _=>k m.tail .bad)
 | .aug i op e,r,s,m,k=>wO ((r[i]?).join) (k m.tail .bad) λx=>wR call m e r s (aN (k m.tail) λy s=>bY (yM op x y) s (aN (k m.tail) λv s=>k m.tail (.ok (.nxt,r.set i (some v)) s)))|.augA i a op e,r,s,m,k=>wO ((r[i]?).join) (k m.tail .bad) λo=>bY (eL o a) s (aN (k m.tail) λx s=>wR call m e r s (aN (k m.tail) λy s=>bY (yM op x y) s (aN (k m.tail) λv s=>bY (setAttr o a v) s (aN (k m.tail) λX s=>k m.tail (.ok (.nxt,r) s)))))
 | .ifs c th el,r,s,m,k=>wR call m c r s (aN (k m.tail) λv s=>wB v (k m.tail .bad) λb=>match b with
   | true=>Hj th r s m.tail k
   | false=>Hj el r s m.tail k)
 | .fors t q e b,r,s,m,k=>wR call m e r s (aN (k m.tail) λv s=>bY (pc q v) s (aN (k m.tail) λp s=>bY (fW t (λr=>ax call P.glo P.init b r) (p.2+1) p.1 r) s (k m.tail)))|.ret e,r,s,m,k=>wR call m e r s (aN (k m.tail) λv s=>k m.tail (.ok (.ret v,r) s))|.ex e,r,s,m,k=>wR call m e r s (aN (k m.tail) λX s=>k m.tail (.ok (.nxt,r) s))|.raise e,r,s,m,k=>wR call m e r s (aN (k m.tail) λv s=>k m.tail (.exn v s))|.cont,r,s,m,k=>k m (.ok (.cnt,r) s)|x,r,s,m,k=>bY (bc call P.glo P.init x r) s (k m)
def Hj:List S->Env->aR->List Nat->(List Nat->Ko (Fl×Env))->Prop
 | [],r,s,m,k=>k m (.ok (.nxt,r) s)
 | x::ss,r,s,m,k=>cond (m.headD 0==3) (bY (ax call P.glo P.init (x::ss) r) s (k m.tail)) (cond (m.headD 0==2) (λc=>bY (bc call P.glo P.init x r) s (c m.tail)) (wS x r s m) λm=>aN (k m) λp s=>match p.1 with
   | .nxt=>Hj ss p.2 s m k
   | f=>k m (.ok (f,p.2) s))
end
end
theorem Sd.go{x:M α}(h:Sd W x s){k:ι->Ko β}(hk:∀i,k i ((x.bnd f) s))(h2:∀a t,(∀i,k i (f a t))->G a t):W (aN (k i) G):=h _ (by
 unfold M.bnd at hk;revert hk
 cases x s with
 | ok a t=>exact h2 a t|exn m t=>exactλh=>h i
 | bad=>exactλh=>h i)
theorem sw{x:M α}{s:aR}{k:ι->Ko β}{i:ι}(hk:∀i,k i ((x.bnd f) s))(h2:∀a t,(∀i,k i (f a t))->G a t)(e:x s=o):aN (k i) G o:=cu.go hk h2 e
section
variable{call:db}
theorem sR:Sd (wR call m e r s) (af call P.glo P.init e r) s:=by
 unfold wR
 cases m.headD 0==1 with
 | true=>exact cu|false=>exact sE e r s
theorem sU:∀{os is:List E} {vs:List PV} {s:aR},Sd (wU call os is vs r s) (unpI call P.glo P.init os is vs r) s
 | o::_,i::_,_::_,s=>(sE o r s).bnd λX t=>(sE i r t).bnd λX X=>cu.bnd λX X=>sU|[],[],[],_=>ii|[],[],_::_,_=>ii|[],_::_,_,_=>ii|_::_,[],_,_=>ii|_::_,_::_,[],_=>ii
theorem Lr{k:ι->Ko β}(hk:∀i,k i (((aZ x).bnd f) s))(h:∀v,(∀i,k i (f v s))->G v):wO x (k i .bad) G:=by
 cases x with
 | none=>exact hk i|some v=>exact h v hk
mutual
theorem sS:∀(x:S) {r:Env} {s:aR} {m:List Nat} {k:List Nat->Ko (Fl×Env)},(∀i,k i (bc call P.glo P.init x r s))->wS call x r s m k
 | .asg _ _,_,_,_,_,hk=>sR.go hk λX X h=>h _|.unp _ _,_,_,_,_,hk=>sR.go hk λX X h=>h _|.satt o _ _,r,_,_,_,hk=>sR.go hk λX t h=>(sE o r t).go h λX X h=>sw h λX X h=>h _|.sidx o i _,r,_,_,_,hk=>sR.go hk λX t h=>(sE o r t).go h λX t h=>(sE i r t).go h λX X h=>sw h λX X h=>h _|.unpI os is _,r,_,m,k,hk=>sR.go hk λv t h=>by
   cases v<;>first | exact h _ | skip
   revert h
   show(∀i,k i (kN (xs.length==os.length) _ t))->(match xs.length==os.length with | true=>wU call os is xs r t (aN (k m.tail) λX s=>k m.tail (.ok (.nxt,r) s)) | false=>k m.tail .bad)
   cases (xs.length==os.length) with
   | true=>exactλh=>sU.go h λX X h=>h _|false=>exactλh=>h _
 | .aug _ _ _,_,_,_,_,hk=>Lr hk λX h=>sR.go h λX X h=>sw h λX X h=>h _|.augA _ _ _ _,_,_,_,_,hk=>Lr hk λX h=>sw h λX X h=>sR.go h λX X h=>@λX e=>sw h (λX X h=>@λX e=>sw h (λX X h=>h _) e) e
 | .ifs c th el,r,s,m,k,hk=>sR.go (f:=λv=>(bW v).bnd λb=>match b with
   | true=>ax call P.glo P.init th r|false=>ax call P.glo P.init el r) (λi=>by
     have:=hk i;revert this;show k i (((af call P.glo P.init c r).bnd _).bnd _ s)->_;unfold M.bnd
     cases af call P.glo P.init c r s with
     | ok v t=>cases v<;>exact id
     | exn=>exact id
     | bad=>exact id) λv t h=>by
   cases v<;>first | exact h _ | skip
   cases b with
   | true=>exact Li th h|false=>exact Li el h
 | .fors _ _ _ _,_,_,_,k,hk=>sR.go hk λX X h=>sw h λX X h=>@cu _ _ _ (k _) (h _)|.ret _,_,_,_,_,hk=>sR.go hk λX X h=>h _|.ex _,_,_,_,_,hk=>sR.go hk λX X h=>h _|.raise _,_,_,_,_,hk=>sR.go hk λX X h=>h _|.cont,_,_,_,_,hk=>hk _|.whl _ _,_,_,_,_,hk=>cu _ (hk _)|.cpy _ _ _,_,_,_,_,hk=>cu _ (hk _)|.tryRet _ _ _,_,_,_,_,hk=>cu _ (hk _)
theorem Li:∀(ss:List S) {r:Env} {s:aR} {m:List Nat} {k:List Nat->Ko (Fl×Env)},(∀i,k i (ax call P.glo P.init ss r s))->Hj call ss r s m k
 | [],_,_,_,_,hk=>hk _|x::ss,r,s,m,k,hk=>by
   unfold Hj
   cases m.headD 0==3 with
   | true=>exact@cu _ _ _ (k m.tail) (hk _)|false=>
     have step:∀i,aN (k i) (λp s=>match p.1 with
      | .nxt=>Hj call ss p.2 s i k
      | f=>k i (.ok (f,p.2) s)) (bc call P.glo P.init x r s):=λi=>by
      have:=hk;revert this;show(∀i,k i ((bc call P.glo P.init x r).bnd _ s))->_;unfold M.bnd
      cases bc call P.glo P.init x r s with
      | exn m t=>exactλh=>h i|bad=>exactλh=>h i|ok p t=>
        obtain⟨f,q⟩:=p
        cases f with
        | nxt=>exactλh=>Li ss h|cnt=>exactλh=>h i|ret v=>exactλh=>h i
     cases m.headD 0==2 with
     | true=>exact@cu _ _ _ _ (step _)|false=>exact sS x step
end
theorem Mi:wE call e r s (λo=>af call P.glo P.init e r s=o):=sE e r s _ rfl
theorem cE(b:List S)(r:Env)(s:aR)(m:List Nat):Hj call b r s m (λX o=>ax call P.glo P.init b r s=o):=Li b λX=>rfl
end
theorem dn{call:db}{e:E}{r:Env}{s:aR}{o:iR PV}(h:wE call e r s (λo=>af call P.glo P.init e r s=o)->af call P.glo P.init e r s=o):af call P.glo P.init e r s=o:=h Mi
theorem tQ{call:db}{b:List S}{r:Env}{s:aR}(m:List Nat){o:iR (Fl×Env)}(h:Hj call b r s m (λX o=>ax call P.glo P.init b r s=o)->ax call P.glo P.init b r s=o):ax call P.glo P.init b r s=o:=h (cE b r s m)
theorem wy{call:db}{x:S}{r:Env}{s:aR}(m:List Nat){o:iR (Fl×Env)}(h:wS call x r s m (λX o=>bc call P.glo P.init x r s=o)->bc call P.glo P.init x r s=o):bc call P.glo P.init x r s=o:=h (sS x λX=>rfl)
def wC(d f:Nat)(vs:List PV)(s:aR)(m:List Nat)(k:Ko PV):Prop:=match P.fns[f]? with
 | some fn=>match fZ fn vs with
   | some ws=>Hj (ac P d) fn.body (ws.map some++NB (fn.slots - ws.length) none) s m λX=>aN k λp s=>k (.ok (jc p.1) s)|none=>True
 | none=>True
theorem aG(f:Nat)(vs:List PV)(s:aR)(m:List Nat):wC d f vs s m (λo=>ac P (d+1) f vs s=o):=by
 unfold wC ac
 cases P.fns[f]? with
 | none=>trivial|some fn=>
   dsimp only
   cases fZ fn vs with
   | none=>trivial|some ws=>
     have key:∀(x:M (Fl×Env)),aN (λo=>(x.bnd λp=>ret (jc p.1)) s=o) (λp t=>(x.bnd λp=>ret (jc p.1)) s= .ok (jc p.1) t) (x s):=λx=>by unfold M.bnd;cases x s<;>rfl
     exact Li _ λX=>key _
section
variable{s:aR}{n m:Nat}{v:PV}
theorem eT(h:s[n]? =some (.list xs)):oq (.ref n) s= .ok () s:=dP h
theorem jl(h:s[n]? =some (.list xs))(hf:xs.length<4000):kZ (.ref n) v s= .ok .none (s.set n (.list (xs++[v]))):=by
 show mu n _ s=_
 rw[dP h,fj (eW hf)];rfl
theorem Cs(h:s[n]? =some (.list xs))(h4:s[m]? =some (.list ys))(hn:n≠m)(hf:xs.length+ys.length<4000):ly (.ref n) (.ref m) s= .ok .none (s.set n (.list (xs++ys))):=by
 show mu n (λX=>mu m _) s=_
 rw[dP h,dP h4,fj (jC (Gc hn) (eW hf))];rfl
theorem J6{k:Int}(h:s[n]? =some (.list xs))(h0:0<=k)(hk:k<=xs.length)(hf:xs.length<4000):lu (.ref n) (.int k) v s= .ok .none (s.set n (.list (xs.take k.toNat++v::xs.drop k.toNat))):=by
 show mu n _ s=_
 rw[dP h,fj (jC (jC (UE h0) (UE hk)) (eW hf))];rfl
theorem Dz(h:s[n]? =some (.dictS kvs)):un (.ref n) (.str c) s= .ok ((kvs.lookup c).getD .none) s:=by
 show((cO n).bnd _) s=_
 rw[ag (a8 h)];rfl
theorem Ae(h:s[n]? =some (.dictS [])):un (.ref n) (.int c) s= .ok .none s:=by
 show((cO n).bnd _) s=_
 rw[ag (a8 h)];rfl
theorem Gh(h:s[n]? =some (.dictS []))(hl:((a::ks).length==vs.length)=true):(if (a::ks).length==vs.length then mE (.ref n) ((a::ks).zip vs) else fX) s= .ok (.ref n) (s.set n (.dictS ((a::ks).zip vs))):=by
 rw[if_pos hl];unfold mE;dsimp only;rw[h]
end
end Internal
end
section
open PySem
namespace Internal
variable{Gz:Prop}
noncomputable abbrev my(a c:Nat):Nat:=a*256+c+1
theorem FP(l:List Nat):HY l=l.foldl my 0:=rfl
theorem sv:∀(f n:Nat) (acc:List Nat),n<=f->(o4 f n acc).foldl my 0=acc.foldl my n
 | 0,n,acc,h=>by
   haveI:n=0:=by lia
   subst this;rfl
 | f+1,0,acc,_=>rfl|f+1,k+1,acc,h=>by
   show(o4 f (k / 256) ((k % 256)::acc)).foldl my 0=_
   rw[sv f (k / 256) _ %[|0]];show acc.foldl my (k / 256*256+k % 256+1)=_
   congr 1;lia
theorem Al(n:Nat):HY (gf n)=n:=sv n n [] (MZ _)
theorem G9(h:gf a=gf b):a=b:=by rw[<-Al a, <-Al b,h]
theorem zQ:∀(f n:Nat) (acc:List Nat),(∀x∈acc,x<256)->∀x∈o4 f n acc,x<256
 | 0,_,_,h=>h|_+1,0,_,h=>h
 | f+1,k+1,acc,h=>zQ f (k / 256) _ (by
    intro x hx
    cases hx with
    | head=>lia
    | tail _ hx=>exact h x hx)
theorem zm(n:Nat):∀x∈gf n,x<256:=zQ n n [] (by intro x hx;exists _)
theorem rC:∀(f n:Nat) (acc:List Nat),o4 f n acc=o4 f n []++acc
 | 0,_,_=>rfl|_+1,0,_=>rfl|f+1,k+1,acc=>by
   show o4 f (k / 256) ((k % 256)::acc)=o4 f (k / 256) [k % 256]++acc
   erw[rC f (k / 256) ((k % 256)::acc),rC f (k / 256) [k % 256],MR];rfl
theorem ux:∀(f g n:Nat) (acc:List Nat),n<=f->n<=g->o4 f n acc=o4 g n acc
 | f,g,0,acc,_,_=>by cases f<;>cases g<;>rfl
 | f+1,g+1,k+1,acc,hf,hg=>by
   exact ux f g _ _ %[|0] %[|0]
theorem A7(f k:Nat)(acc:List Nat):o4 (f+1) (k+1) acc=o4 f (k / 256) ((k % 256)::acc):=rfl
theorem Fv(n c:Nat)(hc:c<256):gf (my n c)=gf n++[c]:=by
 haveI e1:(n*256+c) / 256=n:=by lia
 haveI e2:(n*256+c) % 256=c:=by lia
 unfold gf my;rw[A7,e1,e2,rC,ux (n*256+c) n n [] %[|0] (MZ _)]
theorem oR:∀(l:List Nat) (n:Nat),(∀x∈l,x<256)->gf (l.foldl my n)=gf n++l:=by
 intro l
 induction l with
 | nil=>
   intro n _;simp
 | cons c l oR=>
   intro n h;show gf (l.foldl my (my n c))=_;erw[oR _ λx hx=>h x (.tail _ hx),Fv n c (h c (.head _)),MR];rfl
theorem Ad(l:List Nat)(h:∀x∈l,x<256):gf (HY l)=l:=by
 erw[FP,oR l 0 h];rfl
theorem Ar(a b:Nat):gf (AI a b)=gf a++gf b:=
 Ad _ λx hx=>by
  exists N0 (M5.mp hx) (λh=>?_),h
  . exact zm a x h
  . exact zm b x h
noncomputable def ch(n:Nat):MJ:=⟨(gf n).toArray⟩
theorem lV(h:ch a=ch b):a=b:=by
 apply G9;have:=congrArg Str.cps h;exact Rc.mpr this |> λq=>by simpa[ch] using q
theorem E9(a b:Nat):ch (AI a b)=ch a++ch b:=by
 show Str.mk _=_
 rw[Ar];apply PySem.Str.ext';simp [ch,PySem.Str.cps_append]
theorem gX(n:Nat):(ch n).length=(gf n).length:=by simp [ch,Str.length]
noncomputable def ct(prog:Ob)(w:Oc):KeyKind prog w Nat where
 is:=λn v=>(strKind prog w).is (ch n) v
 hash:=λn=>(strKind prog w).hash (ch n)
 inj:=λv a b ha hb=>lV ((strKind prog w).inj v _ _ ha hb)
 byValue:=λk v h=>(strKind prog w).byValue (ch k) v h
 pyHash:=λhv h=>(strKind prog w).pyHash hv h
 eqBool:=λ{_ _ _ a b _ _ _} hu hv h=>(strKind prog w).eqBool hu hv (by
  have e:decide (ch a=ch b)=decide (a=b):=by
   by_cases q:a=b
   . subst q;simp
   . rw[UF q,UF λz=>q (lV z)]
  rw[e];exact h)
 «strs»:=λk x t v h=>(strKind prog w).strs (ch k) x t v h
theorem c9(prog:Ob)(w:Oc)(n:Nat)(t:Tok):(ct prog w).is n (.str (ch n) t)=true:=by
 exact PySem.strKind_is prog w (ch n) t
structure Cx where
 prog:Ob
 w:Oc
 h0:Heap
 fa:Nat->Addr
 ca:Nat->Addr
 mis:Addr
noncomputable abbrev cV:=List (Addr×Addr)
mutual
inductive aB(C:Cx)(V:cV)(h:Heap):Od->PV->Prop where
 | none:aB C V h .none .none|bool (b:Bool):aB C V h (.bool b) (.bool b)|int (i:Int) (t:Tok):aB C V h (.int i t) (.int i)|str (n:Nat) (t:Tok):(gf n).length<=4000->aB C V h (.str (ch n) t) (.str n)|bytes (l:List Nat) (t:Tok):(∀x∈l,x<256)->l.length<=8000->aB C V h (.bytes (l.map Nu).toArray t) (.bytes l)|tup {a:Addr} {vs:List Od} {xs:List PV}:h.IsTuple a vs.toArray->aK C V h vs xs->xs.length<=8000->aB C V h (.ref a) (.tup xs)|ref {n:Nat} {a d:Addr}:V[n]? =some (a,d)->aB C V h (.ref a) (.ref n)|fn (i:Nat):aB C V h (.ref (C.fa i)) (.fn i)|fd {a:Addr} {ws:List (Nat×Od)} {kvs:List (Nat×PV)} {ep:Nat} {vs:List Od} {xs:List PV}:C.h0.DictAt (ct C.prog C.w) a ws ep->(a==Oe)=false->ws=(kvs.map (·.1)).zip vs->xs=kvs.map (·.2)->aK C V h vs xs->kvs.length<=4000->(∀kv∈kvs,(gf kv.1).length<=4000)->aB C V h (.ref a) (.fd kvs)
inductive aK(C:Cx)(V:cV)(h:Heap):List Od->List PV->Prop where
 | nil:aK C V h [] []|cons {v:Od} {x:PV} {vs:List Od} {xs:List PV}:aB C V h v x->aK C V h vs xs->aK C V h (v::vs) (x::xs)
end
def bo(h h':Heap):Prop:=∀a its,h.IsTuple a its->h'.IsTuple a its
theorem bo.refl(h:Heap):bo h h:=λX X x=>x
theorem bo.trans(x:bo a b)(y:bo b c):bo a c:=λp q z=>y p q (x p q z)
theorem bo.of_keep(k:∀b o,h.get? b=some o->h'.get? b=some o):bo h h':=λa _ ⟨o,ho,r⟩=>⟨o,k a o ho,r⟩
def d2(V V':cV):Prop:=∀(n:Nat) (p:Addr×Addr),V[n]? =some p->V'[n]? =some p
theorem d2.refl(V:cV):d2 V V:=λX X e=>e
theorem d2.trans(x:d2 a b)(y:d2 b c):d2 a c:=λn p e=>y n p (x n p e)
theorem d2.append(V ψ:cV):d2 V (V++ψ):=λn p e=>by
 exists bx (M4.mp e),hl,he;refine(Nc hl)▸?_;exact e
section
variable{C:Cx}{V V':cV}{h h':Heap}
theorem aK.ind{P:List Od->List PV->Prop}(h0:P [] [])(h1:∀{v x vs xs},aB C V h v x->aK C V h vs xs->P vs xs->P (v::vs) (x::xs))(r:aK C V h vs xs):P vs xs:=
 aK.rec (motive_1:=λX X X=>True) (motive_2:=λvs xs X=>P vs xs) trivial (λX=>trivial) (λX X=>trivial) (λX X X=>trivial) (λX X X X=>trivial) (λX X X X=>trivial) (λX=>trivial) (λX=>trivial) (λX X X X X X X X=>trivial) h0 (λa b X ih=>h1 a b ih) r
section
variable(p:d2 V V')(t:bo h h')
include p t
theorem aB.mono(r:aB C V h v x):aB C V' h' v x:=
 aB.rec (motive_1:=λv x X=>aB C V' h' v x) (motive_2:=λvs xs X=>aK C V' h' vs xs) .none .bool .int .str .bytes (λa X c b=> .tup (t _ _ a) b c) (λe=> .ref (p _ _ e)) .fn (λa b c d X f g hr=> .fd a b c d hr f g) .nil (λX X a b=> .cons a b) r
theorem aK.mono(r:aK C V h vs xs):aK C V' h' vs xs:=aK.ind .nil (λa X ih=> .cons (a.mono p t) ih) r
end
theorem aK.length{vs:List Od}(r:aK C V h vs xs):vs.length=xs.length:=aK.ind (P:=λvs xs=>vs.length=xs.length) rfl (λX X ih=>congrArg (· +1) ih) r
theorem aK.append{vs ws:List Od}(r:aK C V h vs xs)(b:aK C V h ws ys):aK C V h (vs++ws) (xs++ys):=aK.ind (P:=λvs xs=>aK C V h (vs++ws) (xs++ys)) b (λa X ih=> .cons a ih) r
theorem aK.get{vs:List Od}{i:Nat}(r:aK C V h vs xs)(e:xs[i]? =some x):∃v,vs[i]? =some v/\aB C V h v x:=
 aK.ind (P:=λvs xs=>∀i,xs[i]? =some x->∃v,vs[i]? =some v/\aB C V h v x) (λi e=>by cases i<;>exists _) (λ{v _ _ _} a _ ih i=>QU i (λe=>(aE v rfl (MI e▸a))) λi e=>ih i e) r i e
theorem aK.take{vs:List Od}(i:Nat)(r:aK C V h vs xs):aK C V h (vs.take i) (xs.take i):=
 aK.ind (P:=λvs xs=>∀i,aK C V h (vs.take i) (xs.take i)) (λi=>by cases i<;>exact .nil) (λa X ih i=>QU i .nil λi=> .cons a (ih i)) r i
theorem aK.drop{vs:List Od}(i:Nat)(r:aK C V h vs xs):aK C V h (vs.drop i) (xs.drop i):=
 aK.ind (P:=λvs xs=>∀i,aK C V h (vs.drop i) (xs.drop i)) (λi=>by cases i<;>exact .nil) (λa b ih i=>QU i (.cons a b) ih) r i
theorem aK.set{vs:List Od}(i:Nat)(r:aK C V h vs xs)(q:aB C V h v x):aK C V h (vs.set i v) (xs.set i x):=
 aK.ind (P:=λvs xs=>∀i,aK C V h (vs.set i v) (xs.set i x)) (λX=> .nil) (λa b ih i=>QU i (.cons q b) λi=> .cons a (ih i)) r i
end
inductive bP(C:Cx)(V:cV)(h:Heap){K:Type}:List (K×Od)->List (K×PV)->Prop where
 | nil:bP C V h [] []|cons {k:K} {v:Od} {x:PV} {vs:List (K×Od)} {xs:List (K×PV)}:aB C V h v x->bP C V h vs xs->bP C V h ((k,v)::vs) ((k,x)::xs)
def ot(C:Cx)(V:cV)(h:Heap)(mA:MJ->Option Od)(fs:List (Nat×PV)):Prop:=
 (∀a x,fs.lookup a=some x->∃v,mA (ch a)=some v/\aB C V h v x)/\(∀y,mA y≠none->∃a,(fs.lookup a).isSome=true/\y=ch a)
def pG(C:Cx)(V:cV)(h:Heap)(p:Addr×Addr):aC->Prop
 | .list xs=>p.2=p.1/\xs.length<=4000/\∃vs n,h.get? p.1=some {cls:= .type "list",dict:=none,data:= .seq (NX vs) n,slots:= #[]}/\aK C V h vs xs
 | .dictS kvs=>p.2=p.1/\kvs.length<=4000/\∃ws,h.DictOf (ct C.prog C.w) p.1 ws/\bP C V h ws kvs|.dictI kvs=>p.2=p.1/\kvs.length<=4000/\∃ws,h.DictOf (Of C.prog C.w) p.1 ws/\bP C V h ws kvs|.inst c fs=>p.2≠p.1/\fs.length<=4000/\∃mA o,h.Inst p.1 (C.ca c) mA/\h.get? p.1=some o/\o.dict=some p.2/\ot C V h mA fs
def hP(V:cV)(b:Addr):Prop:=∀p∈V,b≠p.1/\b≠p.2
def wV(p q:Addr×Addr):Prop:=p.1≠q.1/\p.1≠q.2/\p.2≠q.1/\p.2≠q.2
structure cD(C:Cx)(V:cV)(Y:aR)(h:Heap):Prop where
 len:V.length=Y.length
 obj:∀(n:Nat) (o:aC),Y[n]? =some o->∃p,V[n]? =some p/\pG C V h p o
 apart:∀(i j:Nat) (p q:Addr×Addr),V[i]? =some p->V[j]? =some q->i≠j->wV p q
 old:∀p∈V,C.h0.get? p.1=none/\C.h0.get? p.2=none
 there:∀p∈V,(∃o,h.get? p.1=some o)/\∃o,h.get? p.2=some o
 keep:∀b o,C.h0.get? b=some o->h.get? b=some o
def nQ(h':Heap)(b:Addr)(o:Obj):Prop:=∃sl,h'.get? b=some {o with slots:=sl}/\(sl=o.slots\/∃es ep,o.data= .dict es ep)
theorem nQ.of(e:h'.get? b=some o):nQ h' b o:=(aE o.slots e (.inl rfl))
theorem nQ.trans(x:nQ h' b o)(y:∀o',h'.get? b=some o'->nQ h'' b o'):nQ h'' b o:=by
 exists aA x,sl,e,r;exists aA (y _ e),sl',e',r';refine(aE sl' e' ?_);rcases r with r | r
 . subst r;exact r'
 . exact .inr r
theorem nQ.same(x:nQ h' b o)(n:∀es ep,o.data≠ .dict es ep):h'.get? b=some o:=by
 (refine aA x λsl e t'1=>?_;obtain r | ⟨es,ep,r⟩:=t'1)
 . subst r;exact e
 . exact(n _ _ r).elim
structure kD(V V':cV)(h h':Heap):Prop where
 le:d2 V V'
 stay:∀b o,h.get? b=some o->hP V b->nQ h' b o
 new:∀p∈V',p∈V\/(h.get? p.1=none/\h.get? p.2=none)
 tup:bo h h'
 there:∀b o,h.get? b=some o->∃o',h'.get? b=some o'
theorem kD.refl(V:cV)(h:Heap):kD V V h h:=⟨.refl V,λX X e X=> .of e,λX hp=> .inl hp, .refl h,λX o e=>⟨o,e⟩⟩
theorem kD.off(x:kD V V' h h')(e:h.get? b=some o)(f:hP V b):hP V' b:=λp hp=>by
 rcases x.new p hp with q | ⟨q1,q2⟩
 . exact f p q
 . constructor
   . rintro rfl;rw[e] at q1;exists _
   . rintro rfl;rw[e] at q2;cases q2
theorem kD.trans(x:kD V V' h h')(y:kD V' V'' h' h''):kD V V'' h h'' where
 le:=x.le.trans y.le
 stay:=λb o e f=>(x.stay b o e f).trans λo' e'=>y.stay b o' e' (x.off e f)
 new:=λp hp=>by
  rcases y.new p hp with q | ⟨q1,q2⟩
  . exact x.new p q
  . right
    constructor
    . cases e:h.get? p.1 with
      | none=>rfl|some o=>exists bx (x.there _ _ e),o',e';rw[e'] at q1;exists _
    . cases e:h.get? p.2 with
      | none=>rfl|some o=>exists bx (x.there _ _ e),o',e';rw[e'] at q2;exists _
 tup:=x.tup.trans y.tup
 there:=λb o e=>let ⟨_,e'⟩:=x.there b o e;y.there b _ e'
theorem kD.of_keep(k:∀b o,h.get? b=some o->h'.get? b=some o):kD V V h h':=
 ⟨.refl V,λb o e X=> .of (k b o e),λX hp=> .inl hp, .of_keep k,λb o e=>⟨o,k b o e⟩⟩
structure Sh(s s':Og):Prop where
 gens:s'.gens=s.gens
 drawn:s'.drawn=s.drawn
 os:s'.os=s.os
theorem Sh.refl(s:Og):Sh s s:=⟨rfl,rfl,rfl⟩
theorem Sh.trans(x:Sh a b)(y:Sh b c):Sh a c:=⟨y.gens.trans x.gens,y.drawn.trans x.drawn,y.os.trans x.os⟩
section
variable{C:Cx}{V V':cV}{h h':Heap}
theorem bP.mono(p:d2 V V')(t:bo h h')(r:bP C V h vs xs):bP C V' h' vs xs:=by
 induction r with
 | nil=>exact .nil|cons a _ ih=>exact .cons (a.mono p t) ih
theorem bP.length(r:bP C V h vs xs):vs.length=xs.length:=by
 induction r with
 | nil=>rfl|cons _ _ ih=>exact congrArg (· +1) ih
theorem bP.keys{xs:List (K×PV)}(r:bP C V h vs xs):vs.map (·.1)=xs.map (·.1):=by
 induction r with
 | nil=>rfl|cons _ _ ih=>exact congrArg (_:: ·) ih
theorem vR[DecidableEq K](k k':K)(v:Od)(vs:List (K×Od)):Oh ((k',v)::vs) k=if k'=k then some v else Oh vs k:=by
 unfold Oh;erw[List.find?_cons]
 by_cases e:k'=k
 . rw[if_pos e,UE e];rfl
 . rw[if_neg e,UF e]
theorem bP.at[DecidableEq K](k:K)(r:bP C V h vs xs):
 (∀x,xs.lookup k=some x->∃v,Oh vs k=some v/\aB C V h v x)/\(xs.lookup k=none->Oh vs k=none):=by
 induction r with
 | nil=>exact⟨λX e=>(by exists _),λX=>rfl⟩
 | @cons k' v x _ _ a _ ih=>
   rw[vR,Ng]
   by_cases e:k=k'
   . rw[e,beq_self_eq_true,if_pos rfl]
     exact⟨λy hy=>(aE v rfl (MI hy▸a)),λhy=>nomatch hy⟩
   . rw[beq_eq_false_iff_ne.mpr e,if_neg (Ni e)]
     exact ih
theorem bP.get{i:Nat}(r:bP C V h vs xs)(e:xs[i]? =some kv):∃v,vs[i]? =some (kv.1,v)/\aB C V h v kv.2:=by
 induction r generalizing i with
 | nil=>cases i<;>exists _
 | cons a _ ih=>
   cases i with
   | zero=>obtain rfl:=MI e;exact(aE _ rfl a)|succ i=>exact ih e
theorem ot.mono(p:d2 V V')(t:bo h h')(x:ot C V h mA fs):ot C V' h' mA fs:=
 ⟨λa v e=>let ⟨u,e',r⟩:=x.1 a v e;⟨u,e',r.mono p t⟩,x.2⟩
theorem pG.mono(le:d2 V V')(t:bo h h')(k1:∀o,h.get? p.1=some o->h'.get? p.1=some o)(k2:∀o,h.get? p.2=some o->h'.get? p.2=some o)
 (x:pG C V h p o):pG C V' h' p o:=by
 cases o with
 | list xs=>refine fE x λe hl z'0=>fx z'0 λvs n z'1=>bj z'1 λg r=>?_;exact(dq e hl (gQ vs n (jw (k1 _ g) (r.mono le t))))|dictS kvs=>(refine nj x λe hl ws t'2 r=>?_;exists dZ t'2,o,es,ep,g,d);exact dY e hl ws (iJ o es ep (k1 _ g) d) (r.mono le t)
 | dictI kvs=>(refine nj x λe hl ws t'3 r=>?_;exists dZ t'3,o,es,ep,g,d);exact dY e hl ws (iJ o es ep (k1 _ g) d) (r.mono le t)
 | inst c fs=>
   (refine fE x λe hl z'0=>fx z'0 λmA o z'1=>fg z'1 λt'4 g gd r=>?_;exists eB t'4,o',g',hc,hnc,hd)
   obtain rfl:o'=o:=MI (g'.symm.trans g);refine⟨e,hl,mA,o',(d0 o' (k1 _ g') hc hnc ?_),k1 _ g,gd,r.mono le t⟩;rcases hd with ⟨hd,hn⟩ | ⟨d,hd,ne,ns⟩
   . rw[gd] at hd;exists _
   . obtain rfl:p.2=d:=MI (gd.symm.trans hd)
     exact .inr (fw _ hd ne (ns.at k2))
end
structure cc(C:Cx)(V:cV)(h:Heap)(env:Nf)(names:List MJ)(O:Env):Prop where
 kind:env.scope.kind= .function
 globals:env.globals=Oi
 builtins:env.builtins=Oj
 nd:names.Nodup
 ns:∃m,h.Ns env.locals m/\∀(i:Nat) (x:MJ) (v:PV),names[i]? =some x->O[i]? =some (some v)->env.kindOf x=some .local->∃u,m x=some u/\aB C V h u v
 cell:∀(i:Nat) (x:MJ),names[i]? =some x->(env.kindOf x=some .cell\/env.kindOf x=some .free)->
  ∃c ov,env.cells.lookup x=some c/\h.IsCell c ov/\∀v,O[i]? =some (some v)->∃u,ov=some u/\aB C V h u v
 off:hP V env.locals/\∀c∈env.cells,hP V c.2
 there:∀c∈env.cells,∃o,h.get? c.2=some o
 apart:(∀c∈env.cells,c.2≠env.locals)/\∀a b,env.cells.lookup a=some b->∀a',env.cells.lookup a'=some b->a=a'
 old:C.h0.get? env.locals=none/\∀c∈env.cells,C.h0.get? c.2=none
theorem bg{α:Type}{l:List (MJ×α)}{c:α}(e:l.lookup n=some c):(n,c)∈l:=PySem.mem_of_lookup e
section
variable{C:Cx}{V V':cV}{h h':Heap}{env:Nf}{names:List MJ}{O:Env}
theorem cc.step(F:cc C V h env names O)(x:kD V V' h h'):cc C V' h' env names O where
 kind:=F.kind
 globals:=F.globals
 builtins:=F.builtins
 nd:=F.nd
 ns:=by
  (refine aA F.ns λm t'5 hv=>?_;exists dZ t'5,o,es,ep,g,r)
  exists aA (x.stay _ _ g F.off.1),sl,g',X;exact⟨m,⟨_,es,ep,g',r⟩,λi n v e1 e2 e3=>let ⟨u,e,q⟩:=hv i n v e1 e2 e3;⟨u,e,q.mono x.le x.tup⟩⟩
 cell:=λi n e1 e2=>by
  (refine fk (F.cell i n e1 e2) λc ov e t'6 q=>?_;exists aA t'6,o,g,d)
  exists aA (x.stay _ _ g (F.off.2 _ (bg e))),sl,g',X;exact⟨c,ov,e,⟨_,g',d⟩,λv e=>let ⟨u,e',z⟩:=q v e;⟨u,e',z.mono x.le x.tup⟩⟩
 off:=by
  (refine aA F.ns λm t'7 hv=>?_;exists dZ t'7,o,es,ep,g,r)
  exact⟨x.off g F.off.1,λc hm=>let ⟨o,g⟩:=F.there c hm;x.off g (F.off.2 c hm)⟩
 there:=λc hm=>let ⟨o,g⟩:=F.there c hm;x.there _ _ g
 apart:=F.apart
 old:=F.old
end
def aw{α:Type}(o:iR α)(K:α->aR->Prop)(X:PV->aR->Prop):Prop:=match o with
 | .ok a Y=>K a Y|.exn m Y=>X m Y|.bad=>False
theorem aw.mono(x:aw o K X)(hK:∀a Y,K a Y->K' a Y)(hX:∀a Y,X a Y->X' a Y):aw o K' X':=by
 cases o with
 | ok a Y=>exact hK _ _ x|exn m Y=>exact hX _ _ x|bad=>exact x
theorem ay{m:M α}(x:aw ((m.bnd f) Y) K X):aw (m Y) (λa Y'=>aw (f a Y') K X) X:=by
 unfold M.bnd at x
 cases e:m Y with
 | ok a Y'=>rw[e] at x;exact x|exn q Y'=>rw[e] at x;exact x|bad=>rw[e] at x;exact x
theorem bp(x:aw (aZ o Y) K X)(Kz:∀a,o=some a->K a Y->Gz):Gz:=by
 cases o with
 | none=>exact x.elim|some a=>exact Kz a rfl x
theorem c8(x:aw (cO n Y) K X)(Kz:∀o,Y[n]? =some o->K o Y->Gz):Gz:=aA (show∃o,Y[n]? =some o/\K o Y from by
 unfold cO at x
 cases e:Y[n]? with
 | none=>rw[e] at x;exact x.elim
 | some o=>rw[e] at x;exact(aE o rfl x)) Kz
section
variable{α β:Type}{p:α->Prop}{o:Option {a:α // p a}}{f:α->M β}{g m:M β}{Y:aR}{K:β->aR->Prop}{X:PV->aR->Prop}{n:Nat}{b:Bool}
theorem ak(x:aw (need o f Y) K X)(Kz:∀a,p a->aw (f a Y) K X->Gz):Gz:=by
 cases o with
 | none=>exact x.elim|some a=>exact Kz a.1 a.2 x
theorem bI(x:aw (oF o f g Y) K X):(∃a,p a/\aw (f a Y) K X)\/aw (g Y) K X:=by
 cases o with
 | none=>exact .inr x|some a=>exact .inl (aE a.1 a.2 x)
theorem bf(x:aw (kN b m Y) K X):b=true/\aw (m Y) K X:=by
 cases b with
 | false=>exact x.elim|true=>exact⟨rfl,x⟩
theorem ck{f:List PV->M β}(x:aw (mu n f Y) K X)(Kz:∀xs,Y[n]? =some (.list xs)->aw (f xs Y) K X->Gz):Gz:=
 c8 (ay x) λB e x=>ak x λxs e' x=>Kz xs (e'▸e) x
theorem iz{f:List (Nat×PV)->M β}(x:aw (AT n f Y) K X)(Kz:∀xs,Y[n]? =some (.dictS xs)->aw (f xs Y) K X->Gz):Gz:=
 c8 (ay x) λB e x=>ak x λxs e' x=>Kz xs (e'▸e) x
theorem pp{f:Nat×List (Nat×PV)->M β}(x:aw (Ld n f Y) K X)(Kz:∀c fs,Y[n]? =some (.inst c fs)->aw (f (c,fs) Y) K X->Gz):Gz:=
 c8 (ay x) λB e x=>ak x λy e' x=>Kz y.1 y.2 (e'▸e) x
def Mu(Y:aR)(n:Nat)(kvs:List (Int×PV)):Prop:=Y[n]? =some (.dictI kvs)\/(Y[n]? =some (.dictS [])/\kvs=[])
theorem zJ{f:List (Nat×PV)->Nat->M β}{g:List (Int×PV)->Int->M β}(x:aw (Md n k f g Y) K X):
 (∃kvs c,k= .str c/\Y[n]? =some (.dictS kvs)/\aw (f kvs c Y) K X)\/∃kvs c,k= .int c/\Mu Y n kvs/\aw (g kvs c Y) K X:=by
 exists c8 (ay x),o,e,x;rcases bI x with ⟨c,ek,x⟩ | x
 . exists ak x,kvs,rfl,x
   exact .inl (fM kvs c ek e x)
 . exists ak x,c,ek,x
   rcases bI x with ⟨kvs,rfl,x⟩ | x
   . exact .inr (fM kvs c ek (.inl e) x)
   . exists ak x,kvs,rfl,x
     exists cps,Gz,Kz;exists bj (bf x),h,x;obtain rfl:=NH.mp h;exact Kz (.inr (fM ([]) c ek (.inr ⟨e,rfl⟩) x))
theorem aa(h:(a&&b)=true):a=true:=(MT.mp h).1
theorem ae(h:(a&&b)=true):b=true:=(MT.mp h).2
theorem dI(h:(!a)=true):a=false:=by cases a;rfl;cases h
end
structure St(C:Cx)(V V':cV)(s s':Og)(Y':aR):Prop where
 step:kD V V' s.heap s'.heap
 rel:cD C V' Y' s'.heap
 sh:Sh s s'
section
variable{C:Cx}{V V' V'':cV}{h h':Heap}{s s' s'':Og}{Y Y' Y'':aR}
theorem St.refl(r:cD C V Y s.heap):St C V V s s Y:=⟨.refl ..,r, .refl s⟩
theorem St.trans(x:St C V V' s s' Y')(y:St C V' V'' s' s'' Y''):St C V V'' s s'' Y'':=⟨x.step.trans y.step,y.rel,x.sh.trans y.sh⟩
theorem pG.notTup(x:pG C V h p o):(∀its,¬h.IsTuple p.1 its)/\∀its,¬h.IsTuple p.2 its:=by
 cases o with
 | list xs=>
   refine fE x λe X z'0=>fx z'0 λvs n z'1=>bj z'1 λg X=>?_;haveI q:∀its,¬h.IsTuple p.1 its:=λits x'=>by
    exists cF x',o,g',hc,X;rw[g] at g';obtain rfl:=MI g';simp at hc
   exact⟨q,e▸q⟩
 | dictS kvs=>
   (refine nj x λe X ws t'1 X=>?_;exists cU t'1,o,es,ep,g,hc,hd,X)
   haveI q:∀its,¬h.IsTuple p.1 its:=λits x'=>by
    refine cF x' λo' g' X y'=>bx y' λn hd'=>?_;rw[g] at g';obtain rfl:=MI g';rw[hd] at hd';exists _
   exact⟨q,e▸q⟩
 | dictI kvs=>
   (refine nj x λe X ws t'2 X=>?_;exists cU t'2,o,es,ep,g,hc,hd,X)
   haveI q:∀its,¬h.IsTuple p.1 its:=λits x'=>by
    refine cF x' λo' g' X y'=>bx y' λn hd'=>?_;rw[g] at g';obtain rfl:=MI g';rw[hd] at hd';exists _
   exact⟨q,e▸q⟩
 | inst c fs=>
   (refine fE x λe X z'0=>fx z'0 λmA o z'1=>fg z'1 λt'3 g gd X=>?_;exists eB t'3,o',g',hc,hnc,hd)
   obtain rfl:o'=o:=MI (g'.symm.trans g);refine⟨λits ⟨o2,g2,hc2,_⟩=>(by rw[g] at g2;obtain rfl:=MI g2;rw[hc] at hc2;exists _),λits ⟨o2,g2,hc2,n,hd2⟩=>?_⟩;rcases hd with ⟨hd,hn⟩ | ⟨d,hd,ne,o3,es,ep,g3,hd3,_⟩
   . rw[gd] at hd;exists _
   . obtain rfl:p.2=d:=MI (gd.symm.trans hd)
     rw[g3] at g2;obtain rfl:=MI g2;rw[hd3] at hd2;exists _
theorem zu(R:cD C V Y h){n:Nat}(e:V[n]? =some p)(hq:q∈V)(ne:q≠p):wV p q:=by
 obtain⟨m,hm,em⟩:=Sw hq;have em':V[m]? =some q:=by erw[MX hm,em]
 exists R.apart n m p q e em',z;subst z;rw[e] at em';exact ne (MI em').symm
theorem cD.change(R:cD C V Y h){n:Nat}(e:V[n]? =some p)(eo:Y[n]? =some o)(hs:∀b ob,b≠p.1->b≠p.2->h.get? b=some ob->h'.get? b=some ob)
 (t1:∃o,h'.get? p.1=some o) (t2:∃o,h'.get? p.2=some o) (ho':bo h h'->pG C V h' p o'):cD C V (Y.set n o') h'/\kD V V h h':=by
 have hp:p∈V:=M6 e;exists aA (R.obj n o eo),p',ep',hOq0;obtain rfl:p=p':=MI (e.symm.trans ep');have nt:=hOq0.notTup;have tup:bo h h':=λa its x=>by
  have h1:a≠p.1:=λz=>nt.1 its (z▸x);have h2:a≠p.2:=λz=>nt.2 its (z▸x);exists aA x,o,g,r;exact aE o (hs a _ h1 h2 g) r
 have hln:n<Y.length:=(M4.mp eo).1;refine⟨⟨by erw[ND];exact R.len,λm om em=>?_,R.apart,R.old,λq hq=>?_,λb ob eb=>?_⟩,
  ⟨.refl V,λb ob eb f=> .of (hs b _ (f p hp).1 (f p hp).2 eb),λX hq=> .inl hq,tup,λb ob eb=>?_⟩⟩
 . by_cases hm:m=n
   . subst hm
     rw[PU hln] at em;obtain rfl:=MI em;exact aE p e (ho' tup)
   . rw[Nq (Ni hm)] at em
     exists aA (R.obj m om em),q,eq,r;have ap:=R.apart n m p q e eq (Ni hm);exact aE q eq (r.mono (.refl V) tup (λo g=>hs _ _ (Ni ap.1) (Ni ap.2.2.1) g) (λo g=>hs _ _ (Ni ap.2.1) (Ni ap.2.2.2) g))
 . by_cases z:q=p
   . subst z;exact⟨t1,t2⟩
   . have ap:=zu R e hq z
     (refine vi (R.there q hq) λt'4 o2 g2=>?_;exists bx t'4,o1,g1)
     exact jw (⟨o1,hs _ _ (Ni ap.1) (Ni ap.2.2.1) g1⟩) (ny o2 (hs _ _ (Ni ap.2.1) (Ni ap.2.2.2) g2))
 . have ol:=R.old p hp
   have h1:b≠p.1:=λz=>by rw[z,ol.1] at eb;exists _
   have h2:b≠p.2:=λz=>by erw[z,ol.2] at eb;exists _
   exact hs b _ h1 h2 (R.keep b ob eb)
 . by_cases h1:b=p.1
   . subst h1;exact t1
   . by_cases h2:b=p.2
     . subst h2;exact t2
     . exact⟨ob,hs b _ h1 h2 eb⟩
theorem cD.keeps(R:cD C V Y h)(k:∀b o,h.get? b=some o->h'.get? b=some o):cD C V Y h' where
 len:=R.len
 obj:=λn o e=>let ⟨p,ep,r⟩:=R.obj n o e;⟨p,ep,r.mono (.refl V) (.of_keep k) (k _) (k _)⟩
 apart:=R.apart
 old:=R.old
 there:=λp hp=>let ⟨⟨o1,g1⟩,o2,g2⟩:=R.there p hp;⟨⟨o1,k _ _ g1⟩,o2,k _ _ g2⟩
 keep:=λb o e=>k b o (R.keep b o e)
theorem St.keeps(R:cD C V Y s.heap)(k:∀b o,s.heap.get? b=some o->h'.get? b=some o):St C V V s {s with heap:=h',toks:=t} Y:=
 ⟨.of_keep k,R.keeps k,rfl,rfl,rfl⟩
theorem St.toks(R:cD C V Y s.heap)(t:Nat):St C V V s {s with toks:=t} Y:=⟨.refl ..,R,rfl,rfl,rfl⟩
theorem cD.enter(R:cD C V Y h)(k:∀b o,h.get? b=some o->h'.get? b=some o)(n1:h.get? p.1=none)(n2:h.get? p.2=none)
 (t1:∃o,h'.get? p.1=some o) (t2:∃o,h'.get? p.2=some o) (ho:pG C (V++[p]) h' p o):cD C (V++[p]) (Y++[o]) h'/\kD V (V++[p]) h h':=by
 have le:=d2.append V [p];have fresh:∀q∈V,wV q p:=λq hq=>by
  (refine vi (R.there q hq) λt'5 o2 g2=>?_;exists bx t'5,o1,g1)
  refine(eK (λz=>?_) (λz=>?_) (λz=>?_) (λz=>?_))
  . rw[z,n1] at g1;exists _
  . rw[z,n2] at g1;exists _
  . rw[z,n1] at g2;exists _
  . rw[z,n2] at g2;exists _
 refine⟨⟨by simp [R.len],λm om em=>?_,λi j a b ei ej ne=>?_,λq hq=>?_,λq hq=>?_,λb ob eb=>k b ob (R.keep b ob eb)⟩,
  ⟨le,λb ob eb X=> .of (k b ob eb),λq hq=>?_, .of_keep k,λb ob eb=>⟨ob,k b ob eb⟩⟩⟩
 . rcases PN m Y.length with hm | hm
   . rw[Nc hm] at em
     exists aA (R.obj m om em),q,eq,r;exact aE q (le m q eq) (r.mono le (.of_keep k) (k _) (k _))
   . rw[Nh hm] at em
     have hm':m=Y.length:=by
      have:=(M4.mp em).1;simp at this;lia
     subst hm';simp at em;subst em;refine(aE p ?_ ho);erw[Nh (by rw[R.len];exact MZ _),R.len,Pk];rfl
 . have hin:∀{i:Nat} {a:Addr×Addr},(V++[p])[i]? =some a->V[i]? =some a\/(i=V.length/\a=p):=λ{i a} e=>by
    exists N0 (PN i V.length) (λhi=>?_),hi
    . rw[Nc hi] at e;exact .inl e
    . rw[Nh hi] at e
      have:=(M4.mp e).1;have hi':i=V.length:=by simp at this;lia
      subst hi';simp at e;exact .inr ⟨rfl,e.symm⟩
   rcases hin ei with h1 | ⟨h1,rfl⟩<;>rcases hin ej with h2 | ⟨h2,rfl⟩
   . exact R.apart i j a b h1 h2 ne
   . exact fresh a (M6 h1)
   . have f:=fresh b (M6 h2)
     exact eK (Ni f.1) (Ni f.2.2.1) (Ni f.2.1) (Ni f.2.2.2)
   . lia
 . exists N0 (M5.mp hq) (λhq=>?_),hq
   . exact R.old q hq
   . rw[No] at hq
     subst hq;refine⟨?_,?_⟩
     . cases e:C.h0.get? q.1 with
       | none=>rfl|some o=>rw[R.keep _ _ e] at n1;exists _
     . cases e:C.h0.get? q.2 with
       | none=>rfl|some o=>rw[R.keep _ _ e] at n2;exists _
 . rcases M5.mp hq with hq | hq
   . (refine vi (R.there q hq) λt'6 o2 g2=>?_;exists bx t'6,o1,g1)
     exact jw (⟨o1,k _ _ g1⟩) (ny o2 (k _ _ g2))
   . rw[No] at hq
     subst hq;exact⟨t1,t2⟩
 . rcases M5.mp hq with hq | hq
   . exact .inl hq
   . rw[No] at hq
     subst hq;exact .inr ⟨n1,n2⟩
theorem bq(h:Heap):h.get? h.objs.size=none:=by
 cases e:h.get? h.objs.size with
 | none=>rfl|some o=>exact absurd (NY e) (Nat.lt_irrefl _)
theorem bM(h:Heap)(o:Obj):∀b ob,h.get? b=some ob->(h.push o).get? b=some ob:=λX X e=>Nj o e
theorem cD.pushed(R:cD C V Y h)(hf:ob.isFreed=false)
 (ho:(∀b o,h.get? b=some o->(h.push ob).get? b=some o)->(h.push ob).get? h.objs.size=some ob->pG C (V++[(h.objs.size,h.objs.size)]) (h.push ob) (h.objs.size,h.objs.size) o):
 cD C (V++[(h.objs.size,h.objs.size)]) (Y++[o]) (h.push ob)/\kD V (V++[(h.objs.size,h.objs.size)]) h (h.push ob):=by
 haveI k:=bM h ob;haveI g:=NF h hf;exact R.enter k (bq h) (bq h) ⟨_,g⟩ ⟨_,g⟩ (ho k g)
theorem iP(R:cD C V Y h)(p:Addr×Addr):(V++[p])[Y.length]? =some p:=by
 erw[<-R.len,Nh (MZ _),Pk];rfl
end
def KV(C:Cx)(V:cV)(s:Og)(Q:Od->Og->Prop)(v:PV)(Y':aR):Prop:=∀v' s' V',St C V V' s s' Y'->aB C V' s'.heap v' v->Q v' s'
theorem KV.trans(x:St C V V' s s' Y')(k:KV C V s Q v Y''):KV C V' s' Q v Y'':=
 λv' s'' V'' y r=>k v' s'' V'' (x.trans y) r
section
variable{C:Cx}{V:cV}{s:Og}{Y:aR}{A:Ol}{E:Od->Og->Prop}{Q:Od->Og->Prop}
theorem KV.list(R:cD C V Y s.heap)(r:aK C V s.heap vs xs)(hl:xs.length<=4000)(k:KV C V s Q (.ref Y.length) (Y++[.list xs])):
 Q (.ref s.heap.objs.size) {s with heap:=s.heap.push {cls:= .type "list",data:= .seq vs.toArray},toks:=t}:=by
 refine bj (R.pushed (ob:={cls:= .type "list",data:= .seq vs.toArray}) (o:= .list xs) rfl λkk g=>(dq rfl hl (gQ vs 0 (jw g (r.mono (d2.append _ _) (.of_keep kk)))))) λR' S'=>?_;exact k _ _ _ ⟨S',R',rfl,rfl,rfl⟩ (.ref (iP R _))
theorem KV.tuple(R:cD C V Y s.heap)(r:aK C V s.heap vs xs)(hl:xs.length<=8000)(k:KV C V s Q (.tup xs) Y):
 Q (.ref s.heap.objs.size) {s with heap:=s.heap.push {cls:= .type "tuple",data:= .seq vs.toArray},toks:=t}:=by
 haveI kk:=bM s.heap {cls:= .type "tuple",data:= .seq vs.toArray};refine k _ _ V (St.keeps R kk) (.tup (ki _ (NF _ rfl) rfl 0 rfl) (r.mono (.refl V) (.of_keep kk)) hl)
theorem KV.toks(R:cD C V Y s.heap)(r:aB C V s.heap v x)(k:KV C V s Q x Y):Q v {s with toks:=t}:=k _ _ V (St.toks R t) r
theorem KV.same(R:cD C V Y s.heap)(r:aB C V s.heap v x)(k:KV C V s Q x Y):Q v s:=k _ _ V (St.refl R) r
end
end Internal
end
section
open PySem PySem.Calls PyProof.Rows
namespace Internal
variable{Gz:Prop}
section
variable{C:Cx}{V:cV}{s:Og}{Y:aR}{A:Ol}{E Q:Od->Og->Prop}{X:PV->aR->Prop}
theorem b5(h:n<=8000):n<=sizeLine:=by erw[sizeLine_eq];lia
theorem eX(h:iu n=true):n<4000:=UD h
theorem AL{vs ws:List Od}(ha:s.heap.IsList a vs.toArray)(hb:s.heap.IsList b ws.toArray)
 (h:Q (.ref s.heap.objs.size) {s with heap:=s.heap.push {cls:= .type "list",data:= .seq (vs++ws).toArray}}) (hsz:vs.length+ws.length<=8000):
 Oo (model C.prog C.w) A (Os .Add (.ref a) (.ref b)) Q E s:=by
 exists cps,Gz,Kz
 (refine mX (id ha) λt'1 ho hc n hd=>?_;obtain⟨cls,dd,data,sl⟩:=t'1)
 (refine mX (id hb) λt'2 ho2 hc2 n2 hd2=>?_;obtain⟨cls2,dd2,data2,sl2⟩:=t'2)
 refine Kz ?_;simp only at hc hd hc2 hd2;subst hc hd hc2 hd2;haveI e:vs.toArray++ws.toArray=(vs++ws).toArray:=by simp
 refine concat_meets (aE _ ho rfl) (aE _ ho2 rfl) noFill_list_add seq_list_add PySem.F.slot_list_add PySem.F.entry_list_add (PySem.F.args_list_add_2 _ _)
  (list_addW a b vs.toArray ws.toArray n n2 dd dd2 sl sl2 (by simpa using b5 hsz)) (dq ho ho2 ?_)
 refine e▸?_;exact h
theorem DK(R:cD C V Y s.heap)(ha:s.heap.IsTuple a vs.toArray)(hb:s.heap.IsTuple b ws.toArray)
 (ra:aK C V s.heap vs xs) (rb:aK C V s.heap ws ys) (hsz:xs.length+ys.length<=8000) (k:KV C V s Q (.tup (xs++ys)) Y):
 Oo (model C.prog C.w) A (Os .Add (.ref a) (.ref b)) Q E s:=by
 haveI la:=ra.length;haveI lb:=rb.length;exists cps,Gz,Kz
 (refine mX (id ha) λt'3 ho hc n hd=>?_;obtain⟨cls,dd,data,sl⟩:=t'3)
 (refine mX (id hb) λt'4 ho2 hc2 n2 hd2=>?_;obtain⟨cls2,dd2,data2,sl2⟩:=t'4)
 refine Kz ?_;simp only at hc hd hc2 hd2;subst hc hd hc2 hd2;haveI e:vs.toArray++ws.toArray=(vs++ws).toArray:=by simp
 by_cases hv:vs=[]
 . subst hv
   cases ra
   exact concat_meets (aE _ ho rfl) (aE _ ho2 rfl) noFill_tuple_add seq_tuple_add Qq Ql (Qe _ _)
    (tuple_addW0 a b _ ws.toArray n n2 dd dd2 sl sl2 (by simp)) (dq ho ho2 (KV.same R (.tup hb rb %[|0]) k))
 . by_cases hw:ws=[]
   . subst hw
     cases rb
     rw[M3] at k;exact concat_meets (aE _ ho rfl) (aE _ ho2 rfl) noFill_tuple_add seq_tuple_add Qq Ql (Qe _ _)
      (tuple_addW1 a b vs.toArray _ n n2 dd dd2 sl sl2 (by simpa using hv) (by simp)) (dq ho ho2 (KV.same R (.tup ha ra (by omega)) k))
   . refine concat_meets (aE _ ho rfl) (aE _ ho2 rfl) noFill_tuple_add seq_tuple_add Qq Ql (Qe _ _)
      (tuple_addW2 a b vs.toArray ws.toArray n n2 dd dd2 sl sl2 (by simpa using hv) (by simpa using hw) (by erw[M1,M1,la,lb];exact b5 hsz)) (dq ho ho2 ?_)
     refine e▸?_;exact KV.tuple R (ra.append rb) (by simpa using hsz) k
theorem mQ(h:small a=true):Builtin.Int.intBits a<=400:=PyProof.Rows.intBits_le (UD h)
theorem wM(ha:small a=true)(hb:small b=true):IntMulOk a b:=by
 haveI h1:=mQ ha;haveI h2:=mQ hb;intro h;haveI h3:=(MT.mp h).2;haveI h4:=UD h3;haveI:(bitsLine:Int)=134217728:=by decide
 lia
theorem Mo(h0:0<b)(hb:b<2^400):Builtin.divisionGoesByPylong a b=false:=by
 refine PyProof.noPylong_of_log2 ?_;haveI h:b.natAbs<2^400:=by omega
 haveI:b.natAbs.log2<400:=(Nat.log2_lt %[|0]).mpr h;lia
noncomputable def j5:Op->Ot
 | .add=> .Add | .sub=> .Sub | .mul=> .Mult | .fdiv=> .FloorDiv | .mod=> .Mod | .pow=> .Pow | .shl=> .LShift | .shr=> .RShift | .band=> .BitAnd | .bor=> .BitOr | .bxor=> .BitXor
theorem iy{x y:Int}(h:(if b=true then some x else none)=some y):b=true/\x=y:=by
 cases b with
 | true=>exact⟨rfl,MI h⟩|false=>cases h
theorem AQ(R:cD C V Y s.heap)(e:Mc op a b=some c)(k:KV C V s Q (.int c) Y):Oo (model C.prog C.w) A (Os (j5 op) (.int a t) (.int b u)) Q E s:=by
 haveI fin:Q (.int c s.toks) {s with toks:=s.toks+1}:=KV.toks R (.int c s.toks) k;clear k
 cases op with
 | add=>exact add_int (MI e▸fin)|sub=>exact PyProof.Rows.sub_int (MI e▸fin)|mul=>exact bj (iy e) λh ec=>PyProof.Rows.mul_int (ec▸fin) (wM (aa h) (ae h))|fdiv=>exact bj (iy e) λh ec=>haveI h1:=UD (aa h);floordiv_int (RZ h1) (ec▸fin) (.inl (Mo h1 (UD (ae h))))|mod=>exact bj (iy e) λh ec=>mod_int' (RZ (UD (aa h))) (ec▸fin)|pow=>exact bj (iy e) λh ec=>pow_int_small (UD (aa (aa h))) (by have:=UD (ae (aa h));lia) (UD (ae h)) (ec▸fin)
 | shl=>exact bj (iy e) λh ec=>lshift_int (UD (aa (aa h))) (by have:=UD (ae (aa h));have:=mQ (ae h);lia) (ec▸fin)
 | shr=>exact bj (iy e) λh ec=>rshift_int (UD h) (ec▸fin)|band=>exact bj (iy e) λh ec=>and_int ((bitAnd_pp (UD (aa h)) (UD (ae h))).symm▸ec.symm▸fin)|bor=>
   refine bj (iy e) λh ec=>or_int ?_;erw[bitOr_and,bitAnd_pp (UD (aa h)) (UD (ae h)),ec];exact fin
 | bxor=>
   refine bj (iy e) λh ec=>xor_int ?_;erw[bitXor_and,bitAnd_pp (UD (aa h)) (UD (ae h)),ec];exact fin
def Mr(C:Cx)(V:cV)(h:Heap)(v:Od):PV->Prop
 | .none=>v= .none|.bool b=>v= .bool b|.int i=>∃t,v= .int i t|.str n=>∃t,v= .str (ch n) t/\(gf n).length<=4000|.bytes l=>∃t,v= .bytes (l.map Nu).toArray t/\(∀x∈l,x<256)/\l.length<=8000|.tup xs=>∃a vs,v= .ref a/\h.IsTuple a (NX vs)/\aK C V h vs xs/\xs.length<=8000|.ref n=>∃a d,v= .ref a/\V[n]? =some (a,d)|.fn i=>v= .ref (C.fa i)|.fd kvs=>∃a ws ep vs,v= .ref a/\C.h0.DictAt (ct C.prog C.w) a ws ep/\(a==Oe)=false/\ws=(kvs.map (·.1)).zip vs/\aK C V h vs (kvs.map (·.2))/\kvs.length<=4000/\∀kv∈kvs,(gf kv.1).length<=4000
theorem aB.inv(r:aB C V h v x):Mr C V h v x:=by
 cases r with
 | none=>rfl|bool=>rfl|int i t=>exact⟨t,rfl⟩|str n t a=>exact(aE t rfl a)|bytes l t a b=>exact(fw t rfl a b)|tup a b c=>exact(jg _ _ rfl a b c)|ref a=>exact(pK _ _ rfl a)|fn=>rfl|fd a b c d e f g=>exact⟨_,_,_,_,rfl,a,b,c,d▸e,f,g⟩
section
variable{h:Heap}{v:Od}
theorem fB(r:aB C V h v .none):v= .none:=r.inv
theorem bF(r:aB C V h v (.int i))(Kz:∀t,v= .int i t->Gz):Gz:=bx r.inv Kz
theorem qF(r:aB C V h v (.int i)):∃t,v= .int i t:=MF λX Kz=>bF r Kz
theorem cX(r:aB C V h v (.str n))(Kz:∀t,v= .str (ch n) t->Gz):Gz:=by exists aA r.inv,t,e,X;exact Kz t e
theorem jb(r:aB C V h v (.bytes l))(Kz:∀t,v= .bytes (l.map Nu).toArray t->(∀x∈l,x<256)->Gz):Gz:=by exists cF r.inv,t,e,a,X;exact Kz t e a
theorem jM(r:aB C V h v (.tup xs))(Kz:∀a vs,v= .ref a->h.IsTuple a (NX vs)->aK C V h vs xs->Gz):Gz:=by exists fb r.inv,a,vs,e,b,c,X;exact Kz a vs e b c
theorem a7(r:aB C V h v (.ref n))(Kz:∀a d,v= .ref a->V[n]? =some (a,d)->Gz):Gz:=K8 r.inv Kz
@[elab_as_elim] theorem vInt {p:Od->Prop} {i:Int} (r:aB C V h v (.int i)) (k:∀t,p (.int i t)):p v:=bF r λt e=>e▸k t
@[elab_as_elim] theorem vStr {p:Od->Prop} {n:Nat} (r:aB C V h v (.str n)) (k:∀t,p (.str (ch n) t)):p v:=cX r λt e=>e▸k t
@[elab_as_elim] theorem vBytes {p:Od->Prop} {l:List Nat} (r:aB C V h v (.bytes l)) (k:∀t,(∀x∈l,x<256)->p (.bytes (l.map Nu).toArray t)):p v:=jb r λt e q=>e▸k t q
@[elab_as_elim] theorem vTup {p:Od->Prop} {xs:List PV} (r:aB C V h v (.tup xs)) (k:∀a vs,h.IsTuple a (NX vs)->aK C V h vs xs->p (.ref a)):p v:=jM r λa vs e q s=>e▸k a vs q s
@[elab_as_elim] theorem vRef {p:Od->Prop} {n:Nat} (r:aB C V h v (.ref n)) (k:∀a d,V[n]? =some (a,d)->p (.ref a)):p v:=a7 r λa d e q=>e▸k a d q
@[elab_as_elim] theorem vNil {p:List Od->Prop} {vs:List Od} (r:aK C V h vs []) (k:p []):p vs:=by cases r;exact k
@[elab_as_elim] theorem vCons {p:List Od->Prop} {vs:List Od} {x:PV} {xs:List PV} (r:aK C V h vs (x::xs)) (k:∀v ws,aB C V h v x->aK C V h ws xs->p (v::ws)):p vs:=by cases r with | cons a b=>exact k _ _ a b
end
theorem j7(R:cD C V Y s.heap){n:Nat}(ep:V[n]? =some (a,d))(e:Y[n]? =some o):pG C V s.heap (a,d) o:=by
 exists aA (R.obj n _ e),p,ep',h;obtain rfl:=MI (ep.symm.trans ep');exact h
theorem bR(R:cD C V Y s.heap){n:Nat}(ep:V[n]? =some (a,d))(e:Y[n]? =some (.list xs))(Kz:(xs.length<=4000->∀vs m,s.heap.get? a=some {cls:= .type "list",dict:=none,data:= .seq (NX vs) m,slots:= #[]}->aK C V s.heap vs xs->Gz)):Gz:=Il ((j7 R ep e).2) Kz
theorem td(R:cD C V Y s.heap){n:Nat}(hv:aB C V s.heap (.ref a) (.ref n))(e:Y[n]? =some (.list xs))(Kz:(xs.length<=4000->∀vs m,s.heap.get? a=some {cls:= .type "list",dict:=none,data:= .seq (NX vs) m,slots:= #[]}->aK C V s.heap vs xs->Gz)):Gz:=by
 exists a7 hv,a',d,e',ep;obtain rfl:=QJ e';exact bR R ep e Kz
theorem bQ{h:Heap}(e:h.get? a=some {cls:= .type "list",dict:=none,data:= .seq (NX vs) m,slots:= #[]}):h.IsList a vs.toArray:=(ki _ e rfl m rfl)
theorem sq:∀{op:Op},op.isAdd=true->op= .add
 | .add,_=>rfl
theorem CE:∀{op:Op},op.isMul=true->op= .mul
 | .mul,_=>rfl
section
variable{op:Op}{a b:Od}(R:cD C V Y s.heap)
include R
theorem Hs(ha:aB C V s.heap a (.int i))(hb:aB C V s.heap b (.int j))(e:Mc op i j=some c)(k:KV C V s Q (.int c) Y):Oo (model C.prog C.w) A (Os (j5 op) a b) Q E s:=by
 exists bF ha,t,rfl;exists bF hb,u,rfl;exact AQ R e k
theorem Gw(ha:aB C V s.heap a (.str m))(hb:aB C V s.heap b (.str n))(h:(op.isAdd&&iu ((gf m).length+(gf n).length))=true)(k:KV C V s Q (.str (AI m n)) Y):Oo (model C.prog C.w) A (Os (j5 op) a b) Q E s:=by
 obtain rfl:=sq (aa h);exists cX ha,t,rfl;exists cX hb,u,rfl;haveI hf:=eX (ae h);refine PyProof.Rows.add_str (λt' tk=>?_) (by erw[gX,gX];exact b5 %[|0]);rw[<-E9];exact KV.toks R (.str _ _ (by erw[Ar,MH];exact Nk hf)) k
theorem A3(ha:aB C V s.heap a (.bytes l))(hb:aB C V s.heap b (.int c))(h:(op.isMul&&decide (0<=c)&&decide (c<=64)&&decide (l.length<=16)&& !l.isEmpty)=true)(k:KV C V s Q (.bytes (NB c.toNat l).flatten) Y):Oo (model C.prog C.w) A (Os (j5 op) a b) Q E s:=by
 obtain rfl:=CE (aa (aa (aa (aa h))));exists jb ha,t,rfl,hl;exists bF hb,u,rfl;haveI h0:=UD (ae (aa (aa (aa h))));haveI h1:=UD (ae (aa (aa h)));haveI h2:=UD (ae (aa h));haveI hne:l.map Nu≠[]:=λz=>by
  obtain rfl:=List.map_eq_nil_iff.mp z;cases ae h
 clear h ha hb;refine PySem.W.bytes_mul_any hne (N8 %[|1] h0) (N8 h1 %[|1]) (by rw[MN];exact h2) (λt' tk=>?_);haveI em:(NB c.toNat (l.map Nu)).flatten=((NB c.toNat l).flatten).map Nu:=by erw[List.map_flatten,QX]
 refine em▸?_;refine KV.toks R (.bytes _ _ (λx hx=>?_) ?_) k
 . exists aA (List.mem_flatten.mp hx),l',hl',hx'
   rw[List.mem_replicate] at hl';exact hl x (hl'.2▸hx')
 . erw[List.length_flatten,QX,List.sum_replicate_nat]
   exact MO (Nat.mul_le_mul (RX.mpr h1:c.toNat<=64) h2) %[|1]
theorem GU(ha:aB C V s.heap a (.tup xs))(hb:aB C V s.heap b (.tup ys))(h:(op.isAdd&&iu (xs.length+ys.length))=true)(k:KV C V s Q (.tup (xs++ys)) Y):Oo (model C.prog C.w) A (Os (j5 op) a b) Q E s:=by
 obtain rfl:=sq (aa h);exists jM ha,a,vs,rfl,ht,rs;exists jM hb,b,ws,rfl,hu,ru;exact DK R ht hu rs ru (MO (Nk (eX (ae h))) %[|1]) k
theorem Do{m n:Nat}{xs ys:List PV}(ha:aB C V s.heap a (.ref m))(hb:aB C V s.heap b (.ref n))(h:op.isAdd=true)(ea:Y[m]? =some (.list xs))(eb:Y[n]? =some (.list ys))(hf:iu (xs.length+ys.length)=true)(k:aw (dB (.list (xs++ys)) Y) (KV C V s Q) X):Oo (model C.prog C.w) A (Os (j5 op) a b) Q E s:=by
 obtain rfl:=sq h;exists a7 ha,a,B,rfl,en;exists a7 hb,b,B,rfl,em;haveI hf:=Nk (eX hf);exists bR R en ea,B,vs,p,g,r;exists bR R em eb,B,ws,q,g',r';exact AL (bQ g) (bQ g') (KV.list R (r.append r') (by rw[MH];exact hf) k) (by erw[r.length,r'.length];exact MO hf %[|1])
theorem xJ(ha:aB C V s.heap a x)(hb:aB C V s.heap b y)(k:aw (bS op x y Y) (KV C V s Q) X):
 Oo (model C.prog C.w) A (Os (j5 op) a b) Q E s:=by
 rcases bI k with ⟨i,e1,k⟩ | k
 . exists ak k,j,e2,k
   exists bp k,c,e,k;exists aA (NW.mp e),i,ei,e;exact Hs R (e1▸ha) (e2▸hb) ei (e▸k)
 rcases bI k with ⟨i,e1,k⟩ | k
 . exists ak k,j,e2,k
   exact Gw R (e1▸ha) (e2▸hb) (bf k).1 (bf k).2
 rcases bI k with ⟨i,e1,k⟩ | k
 . exists ak k,j,e2,k
   exact GU R (e1▸ha) (e2▸hb) (bf k).1 (bf k).2
 rcases bI k with ⟨i,e1,k⟩ | k
 . exists ak k,j,e2,k
   exact A3 R (e1▸ha) (e2▸hb) (bf k).1 (bf k).2
 exists ak k,i,e1,k;exists ak k,j,e2,k;exists ck (bf k).2,xs,ea,k1;exists ck k1,ys,eb,k2;exact Do R (e1▸ha) (e2▸hb) (bf k).1 ea eb (bf k2).1 (bf k2).2
end
end
end Internal
end
section
open PySem PySem.Calls PyProof.Rows PySem.SeqAt
namespace Internal
variable{Gz:Prop}
section
variable{C:Cx}{V:cV}{s:Og}{Y:aR}{E Q:Od->Og->Prop}{X:PV->aR->Prop}{h:Heap}
theorem ofNat_inj{l m:List Nat}(hl:∀x∈l,x<256)(hm:∀x∈m,x<256)(e:l.map Nu=m.map Nu):l=m:=by
 induction l generalizing m with
 | nil=>cases m with
   | nil=>rfl|cons _ _=>exists _
 | cons x l ih=>cases m with
   | nil=>exists _|cons y m=>
     erw[Nl,Q2] at e;haveI hx:=hl x (.head _);haveI hy:=hm y (.head _);haveI:x=y:=by
      haveI q:=congrArg UInt8.toNat e.1;erw[QR] at q;lia
     erw[this,ih (λz hz=>hl z (.tail _ hz)) (λz hz=>hm z (.tail _ hz)) e.2]
theorem pi{l m:List Nat}(hl:∀x∈l,x<256)(hm:∀x∈m,x<256):((l.map Nu).toArray.toList==(m.map Nu).toArray.toList)=(l==m):=by
 rw[PF,beq_iff_eq,beq_iff_eq];exact⟨λe=>ofNat_inj hl hm e,λe=>by rw[e]⟩
theorem qC(n m:Nat):(ch n==ch m)=(n==m):=by
 rw[PF,beq_iff_eq,beq_iff_eq];exact⟨λe=>lV e,λe=>by rw[e]⟩
theorem BZ{vs ws:List Od}(x:h.IsTuple a vs.toArray)(y:h.IsTuple a ws.toArray):vs=ws:=by
 exists mX x,o,g,X,n,d;exists mX y,o',g',X,n',d';rw[g] at g';obtain rfl:=MI g';rw[d] at d';cases d';rfl
structure CI(A:Ol)(s:Og)(a b:Od)(k:Bool):Prop where
 eq:EqAt A s a b k
 rc:RcAt A s a b k
 ne:RcNeAt A s a b (!k)
 same:a=b->k=true
theorem CI.to(x:CI A s a b k)(e:some k=some k'):CI A s a b k':=MI e▸x
section
variable{A:Ol}{a b:Od}{k:Bool}{y:PV}
theorem vO(hu:A.units<Ou)(hb:aB C V s.heap b y)(e:Eb y=some k):CI A s .none b k:=by
 cases y with
 | none=>obtain rfl:=fB hb;exact .to ⟨.same _, .none_none, .none_none,λX=>rfl⟩ e|int=>exists vInt hb,t;exact .to ⟨.none_int _ _, .none_int _ _, .none_int _ _,λz=>nomatch z⟩ e
 | str=>exists vStr hb,t;exact .to ⟨.none_str _ _, .none_str _ _, .none_str _ _,λz=>nomatch z⟩ e
 | tup=>exists vTup hb,X,X,ht,X;exact .to ⟨.none_tuple ht hu, .none_tuple ht hu, .none_tuple ht hu,λz=>nomatch z⟩ e
 | _=>cases e
theorem xS(hu:A.units<Ou)(hb:aB C V s.heap b y)(e:Hw i y=some k):CI A s (.int i t) b k:=by
 cases y with
 | none=>obtain rfl:=fB hb;exact .to ⟨.int_none _ _, .int_none _ _, .int_none _ _,λz=>nomatch z⟩ e|int=>exists vInt hb,u;exact .to ⟨.int_int _ _ _ _, .int_int _ _ _ _, .int_int _ _ _ _,λz=>beq_iff_eq.mpr (Value.int.inj z).1⟩ e
 | str=>exists vStr hb,u;exact .to ⟨.int_str _ _ _ _, .int_str _ _ _ _, .int_str _ _ _ _,λz=>nomatch z⟩ e
 | tup=>exists vTup hb,X,X,ht,X;exact .to ⟨.int_tuple _ _ ht hu, .int_tuple _ _ ht hu, .int_tuple _ _ ht hu,λz=>nomatch z⟩ e
 | _=>cases e
theorem yd(hu:A.units<Ou)(hb:aB C V s.heap b y)(e:H0 n y=some k):CI A s (.str (ch n) t) b k:=by
 cases y with
 | none=>obtain rfl:=fB hb;exact .to ⟨.str_none _ _, .str_none _ _, .str_none _ _,λz=>nomatch z⟩ e|int=>exists vInt hb,u;exact .to ⟨.str_int _ _ _ _, .str_int _ _ _ _, .str_int _ _ _ _,λz=>nomatch z⟩ e
 | str m=>exists vStr hb,u;exact .to ⟨qC n m▸ .str_str _ _ _ _,qC n m▸ .str_str _ _ _ _,qC n m▸ .str_str _ _ _ _,λz=>beq_iff_eq.mpr (lV (Value.str.inj z).1)⟩ e
 | tup=>exists vTup hb,X,X,ht,X;exact .to ⟨.str_tuple _ _ ht hu, .str_tuple _ _ ht hu, .str_tuple _ _ ht hu,λz=>nomatch z⟩ e
 | _=>cases e
theorem sN{l:List Nat}(hl:∀x∈l,x<256)(hb:aB C V s.heap b y)(e:zV l y=some k):CI A s (.bytes (l.map Nu).toArray t) b k:=by
 cases y with
 | bytes m=>
   exists vBytes hb,u,hm;have same:Value.bytes (l.map Nu).toArray t= .bytes (m.map Nu).toArray u->(l==m)=true:=λz=>beq_iff_eq.mpr (ofNat_inj hl hm (congrArg Array.toList (Value.bytes.inj z).1));refine .to ⟨λprog w E Q hq=>?_,λprog w E Q hq=>Sl ?_,λprog w E Q hq=>PySem.W.ne_bytes ?_,same⟩ e
   . refine Ov (wpAny_ite_split (λhab=>?_) (λX=>?_))
     . exact Ow (wpAny_rule (Ox (same (eq_of_beq hab)▸hq)))
     . exact Ow (Sl (Oy (pi hl hm▸hq)))
   . exact pi hl hm▸hq
   . erw[bne,pi hl hm];exact hq
 | _=>cases e
theorem wt{vs:List Od}(hu:A.units<Ou)(hc:s.heap.IsTuple c vs.toArray)(hb:aB C V s.heap b y)(e:HQ f y=some k)
 (ht:∀ys c' ws,f ys=some k->s.heap.IsTuple c' (NX ws)->aK C V s.heap ws ys->CI A s (.ref c) (.ref c') k):CI A s (.ref c) b k:=by
 cases y with
 | none=>obtain rfl:=fB hb;exact .to ⟨.tuple_none hc hu, .tuple_none hc hu, .tuple_none hc hu,λz=>nomatch z⟩ e|int=>exists vInt hb,u;exact .to ⟨.tuple_int _ _ hc hu, .tuple_int _ _ hc hu, .tuple_int _ _ hc hu,λz=>nomatch z⟩ e
 | str=>exists vStr hb,u;exact .to ⟨.tuple_str _ _ hc hu, .tuple_str _ _ hc hu, .tuple_str _ _ hc hu,λz=>nomatch z⟩ e
 | tup ys=>exists vTup hb,X,X,h1,h2;exact ht ys _ _ e h1 h2
 | _=>cases e
end
def HI(A:Ol)(s:Og)(vs ws:List Od)(k:Bool):Prop:=∃e:Nat->Bool,(∀j v w,vs[j]? =some v->ws[j]? =some w->EqAt A s v w (e j)/\(v=w->e j=true))/\k=((Pi (min vs.length ws.length)).all e&&vs.length==ws.length)
theorem HI.none(h:vs=[]\/ws=[]):HI A s vs ws (vs.length==ws.length):=
 (aE (λX=>true) (λj v w h1 h2=>by rcases h with rfl | rfl<;>exists _) (by rcases h with rfl | rfl<;>simp))
theorem HI.cons(h:EqAt A s v w p)(hs:v=w->p=true)(r:HI A s vs ws q):HI A s (v::vs) (w::ws) (p&&q):=by
 exists aA r,f,h2,rfl;refine(aE (λj=>QU j p f) (λj=>?_) ?_)
 . cases j with
   | zero=>exactλv w e1 e2=>MI e1▸MI e2▸⟨h,hs⟩|succ j=>exact h2 j
 . erw[M0,M0,Nat.add_min_add_right,List.range_succ_eq_map,QY,List.all_map,Bool.and_assoc]
   congr 2
   rw[PF,beq_iff_eq,beq_iff_eq,Nat.succ_inj]
theorem HI.tuples(hu:A.units<Ou)(r:HI A.in1 s vs ws k)(ta:s.heap.IsTuple c vs.toArray)(tb:s.heap.IsTuple c' ws.toArray):CI A s (.ref c) (.ref c') k:=by
 exists aA r,f,h1,rfl;have at':∀j (h1:j<vs.toArray.size) (h2:j<ws.toArray.size),EqAt A.in1 s vs.toArray[j] ws.toArray[j] (f j):=λj a b=>(h1 j _ _ (MX a) (MX b)).1;have same:NO c= .ref c'->((Pi (min vs.length ws.length)).all f&&vs.length==ws.length)=true:=λz=>by
  obtain rfl:=QJ z;obtain rfl:=BZ ta tb;rw[beq_self_eq_true,Qw,M8];intro j hj;have hj:=QP.mp hj;erw[Nat.min_self] at hj;exact(h1 j _ _ (MX hj) (MX hj)).2 rfl
 have rc:=RcAt.tuples (e:=f) ta tb hu λj a b=>at' j a b;have ne:=RcNeAt.tuples (e:=f) ta tb hu λj a b=>at' j a b;rw[M1,M1] at rc ne;refine⟨?_,rc,ne,same⟩
 by_cases hab:c=c'
 . erw[same (congrArg _ hab),hab];exact .same _
 . exact .of_refs hab rc
mutual
theorem um:∀(x y:PV) {A:Ol} {a b:Od} {n:Nat} {k:Bool},aB C V s.heap a x->aB C V s.heap b y->PV.eq3 x y n=some k->A.units+n+1<Ou->CI A s a b k
 | .none,_,_,_,_,_,_,ha,hb,e,hu=>fB ha▸vO (MM (MV _ (_+1)) hu) hb e|.int _,_,_,_,_,_,_,ha,hb,e,hu=>bF ha λX h=>h▸xS (MM (MV _ (_+1)) hu) hb e|.str _,_,_,_,_,_,_,ha,hb,e,hu=>cX ha λX h=>h▸yd (MM (MV _ (_+1)) hu) hb e|.bytes _,_,_,_,_,_,_,ha,hb,e,_=>jb ha λX h h1=>h▸sN h1 hb e|.tup xs,_,A,_,_,n,k,ha,hb,e,hu=>by
   have hu':A.units<cLine:=MM (MV _ (n+1)) hu;exists vTup ha,c,vs,ta,ra;exists wt hu' ta hb e,ys,c',ws,e,tb,rb
   cases n with
   | zero=>exists _|succ n=>exact(oJ xs ys ra rb e (show A.units+1+n+1<Ou by rw[N3 A.units,PG 1 n];exact hu)).tuples hu' ta tb
 | .bool _,_,_,_,_,_,_,_,_,e,_=>nomatch e|.ref _,_,_,_,_,_,_,_,_,e,_=>nomatch e|.fn _,_,_,_,_,_,_,_,_,e,_=>nomatch e|.fd _,_,_,_,_,_,_,_,_,e,_=>nomatch e
theorem oJ:∀(xs ys:List PV) {A:Ol} {vs ws:List Od} {n:Nat} {k:Bool},aK C V s.heap vs xs->aK C V s.heap ws ys->PV.eqs3 xs ys n=some k->A.units+n+1<Ou->HI A s vs ws k
 | [],ys,_,vs,ws,_,k,hx,hy,e,_=>by
   refine vNil hx ?_
   cases ys with
   | nil=>exact vNil hy (MI e▸ .none (.inl rfl))|cons y ys=>exact vCons hy λX X X X=>MI e▸ .none (.inl rfl)
 | x::xs,ys,A,vs,ws,n,k,hx,hy,e,hu=>by
   exists vCons hx,v,vs,a,b
   cases ys with
   | nil=>exact vNil hy (MI e▸ .none (.inr rfl))|cons y ys=>
     exists vCons hy,w,ws,c,d;exists aA (Pv.mp e),p,e1,e;exists aA (NW.mp e),q,e2,e;haveI z:=um x y a c e1 hu;exact e▸(oJ xs ys b d e2 hu).cons z.eq z.same
end
end
structure qh(A:Ol)(d:Nat):Prop where
 handled:A.handled=none
 depth:A.depth+3*d+3<Oz
 units:A.units+20*d+200<Ou
section
variable{C:Cx}{V:cV}{s:Og}{Y:aR}{E Q:Od->Og->Prop}{X:PV->aR->Prop}{A:Ol}{d:Nat}
theorem iD(prog:Ob)(w:Oc)(k:Int)(t:Tok):(Of prog w).is k (.int k t)=true:=by simp [Of,Value.isInt]
theorem cj(R:cD C V Y s.heap){n:Nat}(ep:V[n]? =some (a,d))(e:Y[n]? =some (.dictS kvs))(Kz:(kvs.length<=4000->∀ws,s.heap.DictOf (ct C.prog C.w) a ws->bP C V s.heap ws kvs->Gz)):Gz:=qV ((j7 R ep e).2) Kz
theorem nl(R:cD C V Y s.heap){n:Nat}(ep:V[n]? =some (a,d))(e:Y[n]? =some (.dictI kvs))(Kz:(kvs.length<=4000->∀ws,s.heap.DictOf (Of C.prog C.w) a ws->bP C V s.heap ws kvs->Gz)):Gz:=qV ((j7 R ep e).2) Kz
theorem ic(hs:∃o,C.h0.get? Oe=some o)(R:cD C V Y s.heap){n:Nat}{a d:Addr}(ep:V[n]? =some (a,d)):(a==Oe)=false:=
 let ⟨_,ho⟩:=hs
 beq_eq_false_iff_ne.mpr λz=>Option.some_ne_none _ (ho.symm.trans (z▸(R.old _ (M6 ep)).1))
theorem lB{h:Heap}(x:h.DictOf (ct C.prog C.w) a []):h.DictOf (Of C.prog C.w) a []:=by
 exists gH x,o,es,ep,g,hc,hd,hk,hp,hn;haveI:es= #[]:=by
  haveI e:es.toList=[]:=by
   generalize hl:es.toList=l at hp;cases hp;rfl
  exact Array.toList_eq_nil_iff.mp e
 subst this;exact ik o (#[]) ep (bT g hc hd (λe he=>by simp at he) (jw Pairs.nil List.nodup_nil))
theorem yl(R:cD C V Y s.heap){n:Nat}(ep:V[n]? =some (a,d))(h:Mu Y n kvs)(Kz:(kvs.length<=4000->∀ws,s.heap.DictOf (Of C.prog C.w) a ws->bP C V s.heap ws kvs->Gz)):Gz:=by
 rcases h with e | ⟨e,rfl⟩
 . exact nl R ep e Kz
 . exists cj R ep e,X,ws,g,r
   cases r
   exact Kz (Pm _) _ (lB g) .nil
def Kf(C:Cx)(A:Ol)(s:Og)(a b:Od)(t:Bool):Prop:=(∀(E Q:Od->Og->Prop),Q (.bool t) s->Oo (model C.prog C.w) A (OA .Eq a b) Q E s)/\∀(E Q:Od->Og->Prop),Q (.bool (!t)) s->Oo (model C.prog C.w) A (OA .NotEq a b) Q E s
section
variable{a b:Od}
theorem GM(R:qh A d)(ha:aB C V s.heap a x)(hb:aB C V s.heap b y)(e:PV.eq3 x y 30=some k):Kf C A s a b k:=
 haveI z:=um x y ha hb e (show A.units+30+1<Ou by have:=R.units;lia)
 ⟨λX X h=>z.rc _ _ _ _ h,λX X h=>z.ne _ _ _ _ h⟩
theorem m8(R:qh A d):A.units<cLine:=by have:=R.units;lia
theorem E7{K:Bool->aR->Prop}(Rm:qh A d)(R:cD C V Y s.heap)(ha:aB C V s.heap a (.ref m))(hb:aB C V s.heap b (.ref n))(ea:Y[m]? =some (.list xs))(eb:Y[n]? =some (.list ys))
 (k:aw ((if xs.length==ys.length then aZ (PV.eqs3 xs ys 29) else ret false:M Bool) Y) K X):∃t,K t Y/\Kf C A s a b t:=by
 exists vRef ha,a,B,en;exists vRef hb,b,B,em;exists bR R en ea,B,vs,B,g,r;exists bR R em eb,B,ws,B,g',r';haveI ga:=bQ g;haveI gb:=bQ g';haveI hu':=m8 Rm;haveI l1:=r.length;haveI l2:=r'.length;clear ha hb g g' ea eb
 by_cases hl:xs.length=ys.length
 . rw[if_pos (beq_iff_eq.mpr hl)] at k
   exists bp k,t,e,k;exists aA (oJ xs ys (A:=A.in1) r r' e (show A.units+1+29+1<Ou by have:=Rm.units;lia)),f,h1,rfl;haveI h1':∀j (h1:j<vs.toArray.size) (h2:j<ws.toArray.size),EqAt A.in1 s vs.toArray[j] ws.toArray[j] (f j):=λj a b=>(h1 j _ _ (MX a) (MX b)).1;haveI hl2:vs.length=ws.length:=l1.trans (hl.trans l2.symm);haveI hk:(Pi (min vs.length ws.length)).all f=((Pi (min vs.length ws.length)).all f&&vs.length==ws.length):=by rw[hl2,beq_self_eq_true,Qw]
   rw[<-hk] at k;haveI hm:min vs.length ws.length=vs.toArray.size:=by erw[hl2,Nat.min_self,M1,hl2]
   rw[hm] at k;exact fw _ k (λE Q h=>RcAt.lists (e:=f) ga gb hl2 hu' h1' _ _ _ _ h) (λE Q h=>RcNeAt.lists (e:=f) ga gb hl2 hu' h1' _ _ _ _ h)
 . rw[if_neg (λz=>hl (beq_iff_eq.mp z))] at k
   haveI hz:=bne_iff_ne.mpr λz=>hl (l1.symm.trans (Eq.trans z l2));exact fw false k (λE Q h=>RcAt.lists_lengths ga gb hz hu' _ _ _ _ h) (λE Q h=>RcNeAt.lists_lengths ga gb hz hu' _ _ _ _ h)
theorem En{m n:Nat}(hs:∃o,C.h0.get? Oe=some o)(Rm:qh A d)(R:cD C V Y s.heap)(ha:aB C V s.heap a (.ref m))(hb:aB C V s.heap b (.ref n))(ea:Y[m]? =some (.dictS []))(eb:Y[n]? =some (.dictS [])):Kf C A s a b true:=by
 exists vRef ha,a,X,en;exists vRef hb,b,X,em;exists cj R en ea,X,ws,g,r;exists cj R em eb,X,us,g',r';cases r;cases r';exact⟨λE Q h=>PySem.W.keq_eq (ic hs R en) (ic hs R em) g g' (m8 Rm) (λX=> .nil) h,λE Q h=>PySem.W.keq_ne (ic hs R en) (ic hs R em) g g' (m8 Rm) (λX=> .nil) h⟩
theorem vH(hs:∃o,C.h0.get? Oe=some o)(Rm:qh A d)(R:cD C V Y s.heap)(ha:aB C V s.heap a x)(hb:aB C V s.heap b y){K:Bool->aR->Prop}(k:aw (q6 x y Y) K X)(Kz:∀t,K t Y->Kf C A s a b t->Gz):Gz:=aA (show∃t,K t Y/\Kf C A s a b t from by
 rcases bI k with ⟨m,e1,k⟩ | k
 . exists ak k,n,e2,k
   exists c8 (ay k),o,eo,k;rcases bI k with ⟨xs,e3,k⟩ | k
   . exists ck k,ys,e4,k
     exact E7 Rm R (e1▸ha) (e2▸hb) (e3▸eo) e4 k
   . exists ak k,xs,e3,k
     exists iz k,ys,e4,k;exists bj (bf k),h,k;exact aE true k (En hs Rm R (e1▸ha) (e2▸hb) (NH.mp (aa h)▸e3▸eo) (NH.mp (ae h)▸e4))
 . exists bp k,t,e,k
   exact(aE t k (GM Rm ha hb e))) Kz
theorem qN(hs:∃o,C.h0.get? Oe=some o)(Rm:qh A d)(R:cD C V Y s.heap)(ha:aB C V s.heap a x)(hb:aB C V s.heap b y){K:Bool->aR->Prop}(k:aw (q6 x y Y) K X):∃t,K t Y/\Kf C A s a b t:=Gm λB Kz=>vH hs Rm R ha hb k Kz
end
theorem qR{K:Type}:∀(kvs:List (K×PV)) {vs:List Od} {xs:List PV},xs=kvs.map (·.2)->aK C V h vs xs->bP C V h ((kvs.map (·.1)).zip vs) kvs:=by
 intro kvs
 induction kvs with
 | nil=>
   intro _ _ e r;subst e;cases r;exact .nil
 | cons x'9 kvs qR=>
   obtain⟨k,x⟩:=x'9;intro _ _ e r;subst e;exact vCons r λX X a b=> .cons a (qR rfl b)
theorem Ai{kvs:List (Nat×PV)}(R:cD C V Y s.heap)(hv:aB C V s.heap v (.fd kvs))(Kz:∀a ws ep,v= .ref a->C.h0.DictAt (ct C.prog C.w) a ws ep->s.heap.DictAt (ct C.prog C.w) a ws ep->(a==Oe)=false->bP C V s.heap ws kvs->kvs.length<=4000->(∀kv∈kvs,(gf kv.1).length<=4000)->Gz):Gz:=by
 refine bD hv.inv λa ws ep X z'0=>bh z'0 λe ha hs e1 z'1=>fE z'1 λhr hl hk=>?_;exact Kz a ws ep e ha (ha.keep R.keep) hs (e1▸qR _ rfl hr) hl hk
theorem HS{kvs:List (Nat×PV)}(R:cD C V Y s.heap)(hv:aB C V s.heap v (.fd kvs)):∃a ws ep,v= .ref a/\C.h0.DictAt (ct C.prog C.w) a ws ep/\s.heap.DictAt (ct C.prog C.w) a ws ep/\(a==Oe)=false/\bP C V s.heap ws kvs/\kvs.length<=4000/\∀kv∈kvs,(gf kv.1).length<=4000:=xu λX Kz=>Ai R hv Kz
theorem bP.has{K:Type}[DecidableEq K]{ws:List (K×Od)}{kvs:List (K×PV)}(r:bP C V h ws kvs)(n:K):(Oh ws n).isSome=(kvs.lookup n).isSome:=by
 haveI q:=r.at n
 cases e:kvs.lookup n with
 | none=>refine(q.2 e)▸?_;rfl|some x=>exists aA (q.1 x e),v,hv,X;refine hv▸?_;rfl
noncomputable def yu(n:Nat):Od->Bool
 | .str y _=>y==ch n|_=>false
theorem pZ:∀(xs:List PV) {vs:List Od} {k:Bool},aK C V s.heap vs xs->AC xs n=some k->
 (∀y,y∈vs->EqAt A.in1 s y (.str (ch n) t) (yu n y))/\vs.any (yu n)=k
 | [],_,_,r,e=>by refine vNil r ?_;exact MI e▸⟨λy h=>absurd h MS,rfl⟩
 | x::xs,_,k,r,e=>by
   exists vCons r,v,vs,hv,hr;exists aA (Pv.mp e),m,X,e;exists aA (NW.mp e),q,eq,rfl;exists bj (pZ (t:=t) xs hr eq),h1,h2;obtain⟨m,rfl⟩:=m;exists vStr hv,u;refine⟨λy hy=>?_,?_⟩
   . rcases MW.mp hy with rfl | hy
     . exact EqAt.str_str _ _ _ _
     . exact h1 y hy
   . erw[RC,h2]
     show(ch m==ch n||q)=_
     rw[qC]
def LU(C:Cx)(A:Ol)(s:Og)(a b:Od)(t:Bool):Prop:=(∀(E Q:Od->Og->Prop),(∀tk,Q (.bool t) {s with toks:=tk})->Oo (model C.prog C.w) A (OA .In a b) Q E s)/\∀(E Q:Od->Og->Prop),(∀tk,Q (.bool (!t)) {s with toks:=tk})->Oo (model C.prog C.w) A (OA .NotIn a b) Q E s
section
variable{a b:Od}
theorem uW{K:Type}[DecidableEq K]{knd:KeyKind C.prog C.w K}{ws:List (K×Od)}{n:K}(hk:knd.is n a=true)(hc:(c==Oe)=false)(g:s.heap.DictOf knd c ws)(e:(Oh ws n).isSome=t):LU C A s a (.ref c) t:=
 ⟨λE Q h=>wpAny_in_of hk hc g.mapOf (e▸h _),λE Q h=>wpAny_notIn_of hk hc g.mapOf (e▸h _)⟩
theorem Kb(ha:aB C V s.heap a (.str n))(hb:aB C V s.heap b (.tup xs))(e:AC xs n=some q):LU C A s a b q:=by
 exists vStr ha,t;exists vTup hb,b,vs,ht,r;exists bj (pZ (A:=A) (t:=t) xs r e),h1,rfl;haveI h2:∀y,y∈vs.toArray->EqAt A.in1 s y (.str (ch n) t) (yu n y):=λy hy=>h1 y (List.mem_toArray.mp hy);exact⟨λE Q h=>in_tupleAt (yu n) ht h2 (by rw[Tm];exact h s.toks),λE Q h=>notIn_tupleAt (yu n) ht h2 (by rw[Tm];exact h s.toks)⟩
theorem vE{x y:PV}(hs:∃o,C.h0.get? Oe=some o)(R:cD C V Y s.heap)(ha:aB C V s.heap a x)(hb:aB C V s.heap b y){K:Bool->aR->Prop}(k:aw (Fa x y Y) K X)(Kz:∀t,K t Y->LU C A s a b t->Gz):Gz:=by
 rcases bI k with ⟨xs,e1,k⟩ | k
 . exists ak k,n,e2,k
   exists bp k,q,e,k;exact Kz q k (Kb (e2▸ha) (e1▸hb) e)
 rcases bI k with ⟨kvs,e1,k⟩ | k
 . exists ak k,n,e2,k
   exists gH (HS R (e1▸hb)),c,ws,ep,e3,B,g,lo,q,B;exists cX (e2▸ha),t,e4;exact Kz _ k (e3▸uW (e4▸c9 _ _ _ _) lo g.dictOf (q.has n))
 exists ak k,n,e1,k;exists a7 (e1▸hb),c,B,e3,ep;rcases zJ k with ⟨kvs,m,e2,e,k⟩ | ⟨kvs,m,e2,e,k⟩
 . exists cj R ep e,B,ws,g,r
   exists cX (e2▸ha),t,e4;exact Kz _ k (e3▸uW (e4▸c9 _ _ _ _) (ic hs R ep) g (r.has m))
 . exists yl R ep e,B,ws,g,r
   exists bF (e2▸ha),t,e4;exact Kz _ k (e3▸uW (e4▸iD _ _ _ _) (ic hs R ep) g (r.has m))
theorem rT{x y:PV}(hs:∃o,C.h0.get? Oe=some o)(R:cD C V Y s.heap)(ha:aB C V s.heap a x)(hb:aB C V s.heap b y){K:Bool->aR->Prop}(k:aw (Fa x y Y) K X):∃t,K t Y/\LU C A s a b t:=Gm λB Kz=>vE hs R ha hb k Kz
theorem wY(r:aB C V h a x):(jx x).isSome=(a== .none):=by
 cases x with
 | none=>rw[fB r];rfl|bool b=>exact(show a= .bool b from r.inv)▸rfl
 | int=>exact vInt r λX=>rfl|str=>exact vStr r λX=>rfl|bytes=>exact vBytes r λX X=>rfl|tup=>exact vTup r λX X X X=>rfl|ref=>exact vRef r λX X X=>rfl|fn i=>exact(show a= .ref (C.fa i) from r.inv)▸rfl
 | fd=>exact bD r.inv λX X X X z'0=>bj z'0 λe X=>e▸rfl
end
end
noncomputable def tf:Cp->CmpOp
 | .eq=> .Eq | .ne=> .NotEq | .lt=> .Lt | .gt=> .Gt | .is_=> .Is | .isnt=> .IsNot | .in_=> .In | .nin=> .NotIn
section
variable{C:Cx}{V:cV}{s:Og}{Y:aR}{E Q:Od->Og->Prop}{X:PV->aR->Prop}{A:Ol}{d:Nat}
theorem pL{x y:PV}(hs:∃o,C.h0.get? Oe=some o)(Rm:qh A d)(R:cD C V Y s.heap)(ha:aB C V s.heap a x)(hb:aB C V s.heap b y)(k:aw (b8 op x y Y) (KV C V s Q) X):
 Oo (model C.prog C.w) A (OA (tf op) a b) Q E s:=by
 cases op with
 | eq=>
   exists aA (qN hs Rm R ha hb (ay k)),t,k,h;exact h.1 _ _ (KV.same R (.bool t) k)
 | ne=>
   exists aA (qN hs Rm R ha hb (ay k)),t,k,h;exact h.2 _ _ (KV.same R (.bool _) k)
 | lt=>
   replace k:aw ((need (fU x) λa=>need (fU y) λb=>ret (.bool (decide (a<b)))) Y) (KV C V s Q) X:=k
   exists ak k,i,e1,k;exists ak k,j,e2,k;exists bx (qF (e1▸ha)),t,rfl;exists bx (qF (e2▸hb)),u,rfl;exact PyProof.Rows.lt_int (KV.same R (.bool _) k)
 | gt=>
   replace k:aw ((need (fU x) λa=>need (fU y) λb=>ret (.bool (decide (b<a)))) Y) (KV C V s Q) X:=k
   exists ak k,i,e1,k;exists ak k,j,e2,k;exists bx (qF (e1▸ha)),t,rfl;exists bx (qF (e2▸hb)),u,rfl;exact PyProof.Rows.gt_int (KV.same R (.bool _) k)
 | is_=>
   replace k:aw ((need (jx y) λB=>ret (.bool (jx x).isSome)) Y) (KV C V s Q) X:=k
   exists ak k,B,e,k;exact fB (e▸hb)▸PyProof.Rows.is_none_gen (wY ha▸KV.same R (.bool _) k)
 | isnt=>
   replace k:aw ((need (jx y) λB=>ret (.bool !(jx x).isSome)) Y) (KV C V s Q) X:=k
   exists ak k,B,e,k;exact fB (e▸hb)▸PyProof.Rows.isnot_none_gen (wY ha▸KV.same R (.bool _) k)
 | in_=>
   obtain⟨t,k,h⟩:=rT hs R ha hb (ay k);exact h.1 _ _ λtk=>KV.toks R (.bool t) k
 | nin=>
   obtain⟨t,k,h⟩:=rT hs R ha hb (ay k);exact h.2 _ _ λtk=>KV.toks R (.bool _) k
end
theorem Ct(e:k7 i n=some j):seqIndex? i n=some j:=by
 unfold k7 at e;unfold seqIndex?;split at e
 . rename_i h
   erw[MY,decide_eq_true_eq] at h;obtain rfl:=MI e;have h1:¬i<0:=by omega
   simp [h1,h.1,h.2]
 . split at e
   . rename_i h
     erw[MY,decide_eq_true_eq] at h;obtain rfl:=MI e;have h1:i+(n:Int)<n:=by omega
     simp [h.1,h.2,h1]
   . cases e
theorem Aj(e:k7 i n=some j):j<n/\ -(n:Int)<=i/\i<n/\((0<=i/\j=i.toNat)\/(i<0/\j=(i+n).toNat)):=by
 unfold k7 at e;split at e
 . rename_i h
   haveI h1:=UD (aa h);haveI h2:=UD (ae h);exact MI e▸⟨(RW h1).mpr h2,N8 (Int.neg_nonpos_of_nonneg (M9 n)) h1,h2, .inl ⟨h1,rfl⟩⟩
 . split at e
   . rename_i h
     haveI h1:=UD (aa h);haveI h2:=UD (ae h);exact MI e▸⟨(RW h2).mpr (by omega),by omega,SY h1 (M9 n), .inr ⟨h1,rfl⟩⟩
   . exists _
section
variable{C:Cx}{V:cV}{s:Og}{Y:aR}{E Q:Od->Og->Prop}{X:PV->aR->Prop}{A:Ol}
noncomputable def nS(slice:ML):Bool:=slice.ctorIdx != 26
theorem c6(h:nS slice=true)(o i:Od):subscripted slice false o i=operate [o,i] (getItem o i):=by
 cases slice<;>first | rfl | exists _
section
variable{value slice:ML}{a b:Od}(hp:nS slice=true)(R:cD C V Y s.heap)
include hp R
theorem sk{K:Type}[DecidableEq K]{knd:KeyKind C.prog C.w K}{ws:List (K×Od)}{kvs:List (K×PV)}{n:K}(hk:knd.is n b=true)(g:s.heap.DictOf knd c ws)(r:bP C V s.heap ws kvs)(e:kvs.lookup n=some v)(k:KV C V s Q v Y):
 Oo (model C.prog C.w) A (OB value slice (.ref c) b) Q E s:=
 let ⟨_,ev,rv⟩:=(r.at n).1 v e
 OC g.typeIs slot_dict_getitem.lookup (wpAny_getItem_of hk g.mapOf ev (KV.toks R rv k)) (c6 hp _ _)
theorem Fj(ha:aB C V s.heap a (.tup xs))(hb:aB C V s.heap b (.int i))(e:(k7 i xs.length).bind (xs[·]?)=some v)(k:KV C V s Q v Y):Oo (model C.prog C.w) A (OB value slice a b) Q E s:=by
 exists fb ha.inv,a,vs,rfl,ht,r,hl;exists vInt hb,u;exists aA (Pv.mp e),j,ej,ev;exists aA (r.get ev),v',ev',rv;haveI hj:=Aj ej;haveI hlen:=r.length;clear e ev;refine OC ht.typeIs slot_tuple_getitem.lookup (PyProof.Rows.getItem_tuple (j:=j) ht %[|0] %[|0] ?_ (QE.trans ev') (KV.same R rv k)) (c6 hp _ _);erw[M1,hlen];exact Ct ej
theorem D5(ha:aB C V s.heap a (.ref n))(hb:aB C V s.heap b (.int i))(eo:Y[n]? =some (.list xs))(e:(k7 i xs.length).bind (xs[·]?)=some v)(k:KV C V s Q v Y):Oo (model C.prog C.w) A (OB value slice a b) Q E s:=by
 exists vRef ha,a,X,ep;exists vInt hb,u;exists aA (Pv.mp e),j,ej,ev;exists bR R ep eo,hl,vs,m,g,r;exists aA (r.get ev),v',ev',rv;haveI hj:=Aj ej;haveI hlen:=r.length;haveI gl:=bQ g;clear e ev eo g;refine OC gl.typeIs slot_list_getitem.lookup ?_ (c6 hp _ _);rcases hj.2.2.2 with ⟨h0,rfl⟩ | ⟨h0,rfl⟩
 . exact wpAny_getItem_list gl h0 %[|0] (QE.trans ev') (KV.same R rv k)
 . refine wpAny_getItem_list_neg gl h0 (by refine M1▸?_;lia) %[|0] ?_ (KV.same R rv k)
   erw[M1,hlen];exact QE.trans ev'
theorem B8(ha:aB C V s.heap a (.bytes l))(hb:aB C V s.heap b (.int i))(h:(decide (0<=i)&&decide (i<l.length))=true)(k:KV C V s Q (.int (l.getD i.toNat 0:Nat)) Y):Oo (model C.prog C.w) A (OB value slice a b) Q E s:=by
 exists cF ha.inv,t,rfl,hl,hn;exists vInt hb,u;have h0:=UD (aa h);have h1:=UD (ae h);have hlt:i.toNat<l.length:=by lia
 clear h ha hb;refine OC (P2 _ _ _) PT.lookup (PySem.W.getItem_bytes (by simp;lia) h0 (by simpa using h1) ?_) (c6 hp _ _);have e:(((l.map Nu).getD i.toNat 0).toNat:Int)=((l.getD i.toNat 0:Nat):Int):=by
  erw[NG,NG,Ny,MX hlt];have:=hl _ (PA hlt);erw[PM,Q3,QR];lia
 erw[e];exact KV.toks R (.int _ _) k
theorem x8{x y:PV}(ha:aB C V s.heap a x)(hb:aB C V s.heap b y)(k:aw (dk x y Y) (KV C V s Q) X):
 Oo (model C.prog C.w) A (OB value slice a b) Q E s:=by
 rcases bI k with ⟨kvs,e1,k⟩ | k
 . exists ak k,n,e2,k
   exists bp k,v,e,k;exists gH (HS R (e1▸ha)),B,ws,B,rfl,B,g,B,r,B;exists cX (e2▸hb),B,rfl;exact sk hp R (c9 _ _ _ _) g.dictOf r e k
 rcases bI k with ⟨xs,e1,k⟩ | k
 . exists ak k,n,e2,k
   exists bp k,v,e,k;exact Fj hp R (e1▸ha) (e2▸hb) e k
 rcases bI k with ⟨xs,e1,k⟩ | k
 . exists ak k,n,e2,k
   exact B8 hp R (e1▸ha) (e2▸hb) (bf k).1 (bf k).2
 exists ak k,n,e1,k;exists c8 (ay k),o,eo,k;rcases bI k with ⟨xs,e3,k⟩ | k
 . exists ak k,i,e2,k
   exists bp k,v,e,k;exact D5 hp R (e1▸ha) (e2▸hb) (e3▸eo) e k
 exists a7 (e1▸ha),B,B,rfl,ep;rcases bI k with ⟨kvs,e3,k⟩ | k
 . exists ak k,i,e2,k
   exists bp k,v,e,k;exists cj R ep (e3▸eo),B,ws,g,r;exists cX (e2▸hb),B,rfl;exact sk hp R (c9 _ _ _ _) g r e k
 . exists ak k,kvs,e3,k
   exists ak k,i,e2,k;exists bp k,v,e,k;exists nl R ep (e3▸eo),B,ws,g,r;exists bF (e2▸hb),B,rfl;exact sk hp R (iD _ _ _ _) g r e k
end
theorem lK(R:cD C V Y s.heap)(ep:V[n]? =some (a,d))(e:Y[n]? =some (.list xs))
 (g:s.heap.get? a=some {cls:= .type "list",dict:=none,data:= .seq (NX vs) m,slots:= #[]}) (hf:f vs.toArray=ws.toArray)
 (r:aK C V s.heap ws ys) (hl:ys.length<=4000):St C V V s {s with heap:=s.heap.update a (RA f)} (Y.set n (.list ys)):=by
 haveI gi:IsL (s.heap.update a (RA f)) a (f vs.toArray) _:=IsL.update (l:=a) (n:=m) g f;rw[hf] at gi;haveI hd:d=a:=(j7 R ep e).1;subst hd;haveI z:=R.change (h':=s.heap.update d (RA f)) (o':= .list ys) ep e (λb ob h1 X eb=>(Pf s.heap _ (Ni h1)).trans eb) ⟨_,gi⟩ ⟨_,gi⟩ λt=>(dq rfl hl (gQ ws _ (jw gi (r.mono (.refl V) t))));exact⟨z.2,z.1,rfl,rfl,rfl⟩
theorem tm{k:Int}{Q:Unit->Og->Prop}(g:s.heap.get? l=some {cls:= .type "list",dict:=none,data:= .seq (NX vs) m,slots:= #[]})
 (h0:0<=k) (hfit:k<2^63) (hn:k<vs.length) (hQ:Q () {s with heap:=s.heap.update l (RA (·.setIfInBounds k.toNat v))}):
 Oo (model C.prog C.w) A (setItem (.ref l) (.int k t) v) Q E s:=by
 haveI hl:=bQ g;unfold setItem
 try with_reducible refine Ov ?_
 first | refine Ow (Ox ?_) | skip
 refine Ow (wpAny_sequenceKey hl.typeIs %[|1] ?_);refine Ow (wpAny_callSpecial?_slot (name:=Str.ofString "__setitem__") hl.typeIs slot_list_setitem
  (wpAny_call_entry slot_list_setitem hl.typeIs entry_list_setitem ?_ (args_list_setitem _ _ _)))
 show Oo _ _ (Builtin.List.listSubscript? (.int k t) >>= _) _ _ s
 refine Ow (wpAny_listSubscript_int (fitsIndex_of h0 hfit) ?_);clear hfit;exists bx (RF h0),j,rfl;haveI hj:j<vs.toArray.size:=by erw[M1];lia
 haveI hx':vs.toArray[j]? =some vs.toArray[j]:=Array.getElem?_eq_getElem hj;refine Ow (Ow (wpAny_seqItemAt g rfl (Ox ?_)));refine hx'▸?_;refine Ow (wpAny_setSeqItemAt g rfl ?_)
 first
  | exact Ow (Ox (Ox (aE .none rfl (Ox hQ))))|exact Ox ⟨.none,rfl,Ox hQ⟩
theorem bP.lookup_none{K:Type}[DecidableEq K]{ws:List (K×Od)}{kvs:List (K×PV)}(r:bP C V s.heap ws kvs)(k:K):(ws.any λkv=>kv.1=k)=(kvs.any λkv=>kv.1=k):=by
 haveI:∀{α:Type} (l:List (K×α)),(l.any λkv=>decide (kv.1=k))=(l.map (·.1)).any λx=>decide (x=k):=λl=>by simp [List.any_map,Function.comp_def]
 erw[this,this,r.keys]
theorem rx{K:Type}[DecidableEq K]:∀(kvs:List (K×PV)) (k:K) (v:PV),(kvs.map (·.1)).Nodup->bK kvs k v=if kvs.any (λkv=>kv.1=k) then kvs.map (λkv=>if kv.1=k then(kv.1,v) else kv) else kvs++[(k,v)]:=by
 intro kvs
 induction kvs with
 | nil=>
   intro k v _;exact rfl
 | cons x'9 r rx=>
   obtain⟨a,b⟩:=x'9;intro k v hn;haveI hn':=NI.mp hn
   by_cases e:a=k
   . subst e
     haveI h1:∀kv∈r,¬kv.1=a:=λkv hk e=>hn'.1 (Nd.mpr (aE kv hk e));haveI:r.map (λkv=>if kv.1=a then(kv.1,v) else kv)=r:=by
      rw[show r=r.map id from(List.map_id r).symm,NL];exists Qb,kv,hk;simp [h1 kv (by simpa using hk)]
     simp [bK,this]
   . haveI ih:=rx k v hn'.2
     erw[bK,(show(a==k)=false from beq_eq_false_iff_ne.mpr e),ih,RC,Nl,e,if_false,SM];split
     . rename_i h;rw[h];simp
     . rename_i h;rw[Ta.mpr h];simp
theorem bP.stored{K:Type}[DecidableEq K]{ws:List (K×Od)}{kvs:List (K×PV)}(r:bP C V s.heap ws kvs)(hn:(ws.map (·.1)).Nodup){k:K}(rv:aB C V s.heap v x):
 bP C V s.heap (stored ws k v) (bK kvs k x):=by
 erw[rx kvs k x (r.keys▸hn)];unfold PySem.stored;rw[r.lookup_none k];split
 . rename_i h
   clear h hn
   induction r with
   | nil=>exact .nil|@cons k' v' x' ws kvs a r ih=>
     by_cases e:k'=k
     . erw[Nl,e,if_true];exact .cons rv ih
     . erw[Nl,e,if_false];exact .cons a ih
 . rename_i h
   clear h hn
   induction r with
   | nil=>exact .cons rv .nil|cons a r ih=>exact .cons a ih
theorem eV{K:Type}[BEq K]:∀(kvs:List (K×PV)) (k:K) (v:PV),(bK kvs k v).length<=kvs.length+1:=by
 intro kvs
 induction kvs with
 | nil=>
   intro _ _;simp [bK]
 | cons x'9 r eV=>
   obtain⟨a,b⟩:=x'9;intro k v;have:=eV k v;unfold bK;split
   . simp
   . simp;omega
theorem mV{K:Type}[DecidableEq K]{knd:KeyKind C.prog C.w K}{h:Heap}{ws:List (K×Od)}(g:h.DictOf knd a ws):(ws.map (·.1)).Nodup:=by
 exists gH g,o,es,ep,X,X,X,X,X,hn;exact hn
theorem lD(R:cD C V Y s.heap)(ep:V[n]? =some (a,d))(e:Y[n]? =some o)(hda:d=a)(hs:QG a s.heap h')
 (ho:∃ob,h'.get? a=some ob) (hOq0:bo s.heap h'->pG C V h' (a,d) o'):St C V V s {s with heap:=h',toks:=t} (Y.set n o'):=by
 subst hda;haveI z:=R.change (h':=h') (o':=o') ep e (λb ob h1 X eb=>(hs.2 b h1).trans eb) ho ho hOq0;exact⟨z.2,z.1,rfl,rfl,rfl⟩
section
variable{a b v:Od}{z:PV}(R:cD C V Y s.heap)(hv:aB C V s.heap v z){Q:Unit->Og->Prop}
include R hv
theorem Er(ha:aB C V s.heap a (.ref n))(hb:aB C V s.heap b (.int i))(eo:Y[n]? =some (.list xs))(h:(decide (0<=i)&&decide (i<xs.length))=true)(k:∀s',St C V V s s' (Y.set n (.list (xs.set i.toNat z)))->Q () s'):Oo (model C.prog C.w) A (setItem a b v) Q E s:=by
 exists vRef ha,a,X,ep;exists vInt hb,u;exists bR R ep eo,hl,vs,m,g,r;refine tm g (UD (aa h)) (by clear k hv;lia) (by refine r.length▸?_;exact(UD (ae h))) (k _ ?_);exact lK R ep eo g (List.setIfInBounds_toArray ..) (r.set i.toNat hv) (by rw[ND];exact hl)
theorem rI{K:Type}[DecidableEq K]{knd:KeyKind C.prog C.w K}{ws:List (K×Od)}{kvs:List (K×PV)}{n:Nat}{y:K}(ep:V[n]? =some (c,d))(eo:Y[n]? =some o)(hda:d=c)(hk:knd.is y b=true)(g:s.heap.DictOf knd c ws)(r:bP C V s.heap ws kvs)(hf:kvs.length<4000)
 (ho:∀h ws,h.DictOf knd c ws->bP C V h ws (bK kvs y z)->(bK kvs y z).length<=4000->pG C V h (c,d) o') (k:∀s',St C V V s s' (Y.set n o')->Q () s'):Oo (model C.prog C.w) A (setItem (.ref c) b v) Q E s:=by
 haveI hlen:=r.length;refine wpAny_setItem_pairs hk g (λh' hd hs=>k _ ?_) (b5 (by clear ho k hv;lia));exact lD R ep eo hda hs (let ⟨o,_,_,g,_⟩:=hd;⟨o,g⟩) λt=>ho _ _ hd ((r.stored (mV g) hv).mono (.refl V) t) (MO (eV kvs y z) hf)
theorem pX{x y:PV}(ha:aB C V s.heap a x)(hb:aB C V s.heap b y)(k:aw (dA x y z Y) (λB Y'=>∀s',St C V V s s' Y'->Q () s') X):
 Oo (model C.prog C.w) A (setItem a b v) Q E s:=by
 exists ak k,n,e1,k;exists c8 (ay k),o,eo,k;rcases bI k with ⟨xs,e3,k⟩ | k
 . exists ak k,i,e2,k
   exact Er R hv (e1▸ha) (e2▸hb) (e3▸eo) (bf k).1 (bf k).2
 exists a7 (e1▸ha),B,B,rfl,ep;rcases bI k with ⟨kvs,e3,k⟩ | k
 . exists ak k,i,e2,k
   have hOq0:=j7 R ep (e3▸eo);exists qV hOq0.2,B,ws,g,r;exists bF (e2▸hb),B,rfl;exact rI (o':= .dictI (bK kvs i z)) R hv ep eo hOq0.1 (iD _ _ _ _) g r (eX (bf k).1) (λh ws a b c=>(dY hOq0.1 c ws a b)) (bf k).2
 exists ak k,kvs,e3,k;have hOq0:=j7 R ep (e3▸eo);exists qV hOq0.2,B,ws,g,r;rcases bI k with ⟨i,e2,k⟩ | k
 . exists cX (e2▸hb),B,rfl
   exact rI (o':= .dictS (bK kvs i z)) R hv ep eo hOq0.1 (c9 _ _ _ _) g r (eX (bf k).1) (λh ws a b c=>(dY hOq0.1 c ws a b)) (bf k).2
 . exists ak k,i,e2,k
   exists bF (e2▸hb),B,rfl;have e4:=NH.mp (bf k).1;erw[e4] at r;cases r;exact rI (kvs:=[]) (o':= .dictI [(i,z)]) R hv ep eo hOq0.1 (iD _ _ _ _) (lB g) .nil %[|1] (λh ws a b c=>(dY hOq0.1 c ws a b)) (bf k).2
end
end
namespace By
theorem v8:OD (.type "int") "__bytes__"=pure none:=by rw[typeLookup_type,builtinLookup_eq_fast];kernel_rfl
section
variable{prog:Ob}{w:Oc}{A:Ol}{E:Od->Og->Prop}{s:Og}
open Builtin
theorem sX{n:Int}{t:Tok}{Q:Od->Og->Prop}(h0:0<=n)(h1:n<=64)
 (hQ:∀t k,Q (.bytes (Ri n.toNat 0) t) {s with toks:=k}):
 codeAny (model prog w) A (.call (.builtin "bytes.__new__") ⟨[.type "bytes", .int n t],[]⟩) (wants Q E) s:=by
 refine codeAny_of_tree ?_;show Oo _ A.in1 (do OE "bytes.__new__" ⟨[.type "bytes", .int n t],[]⟩;again (.builtin "bytes.__new__" ⟨[.type "bytes", .int n t],[]⟩)) _ _ s;refine Ow (OF (F.bm_newCall _) (Ox ⟨plainId_quiet F.bm_plain _,codeAny_builtin F.bm_entry ?_⟩));rw[Around.under_plainId F.bm_plain _];have hT:s.TypeIs (.int n t) "int":=SO s n t;unfold Builtin.«bytes.__new__»;refine Ow (OF (a:=true) rfl ?_);refine OG rfl ?_;refine Ow (OF F.bm_sub ?_);refine OG rfl ?_;refine Ow (OF (F.bm_bind _) ?_);refine Ow (OF (a:=()) rfl ?_);refine Ow (OF (a:=()) rfl ?_);refine OG rfl ?_;refine Ow (OH hT v8 ?_);refine Ow (OF (a:=false) rfl ?_);refine OG rfl ?_;refine Ow (OH hT Rv.lookup ?_);refine OG rfl ?_;refine Ow (OF (a:= .ok n) rfl ?_);show Oo _ _ (if (!Tq n)=true then _ else _) _ _ _;refine OG (by erw[Tq,Bool.not_eq_false',MY,decide_eq_true_eq];lia) ?_;refine Tb (Pu %[|0] ?_);refine Tb (Pu %[|0] ?_);refine OG (PySem.W.KBy.tooLong_not %[|0]) ?_;refine Ow (wpAny_rule ?_);refine Ow (wpAny_mkBytes ?_ (by rw[Array.size_replicate,sizeLine_eq];lia));show Oo _ _ (if (SD "bytes"==SD "bytes")=true then _ else _) _ _ _;refine bm_if_true %[|1] ?_
 first
  | exact Ox (hQ _ _)|exact Ow (Ox (Ox (hQ _ _)))
theorem call_bytes_int{n:Int}{t:Tok}{Q:Od->Og->Prop}(h0:0<=n)(h1:n<=64)
 (hQ:∀t k,Q (.bytes (Ri n.toNat 0) t) {s with toks:=k}):Oo (model prog w) A (call (.type "bytes") [.int n t]) Q E s:=by
 refine callType_codes (Q₁:=λobj s₁=>s₁.TypeIs obj "bytes"/\Q obj s₁) Tp (F.bm_typeCall _) F.entry_object_init
  (sX h0 h1 λt k=>⟨P2 _ _ _,hQ t k⟩) λobj s₁ h₁=>?_
 exact dq (h₁.1) (F.args_object_init_2 obj _) (object_init_meets Tp.init.lookup Tp.made %[|1] prog w A.in1 _ s₁ (dq (h₁.1) rfl (h₁.2)))
theorem Ey(b:Array UInt8):Q6 b ((b.size:Int) - 1) (-1) (-1)=b.toList.reverse.toArray:=by
 unfold Q6;have e:sliceRange ((b.size:Int) - 1) (-1) (-1)=(Pi b.size).map λk=>b.size - 1 - k:=by
  have h:=PyProof.Rows.picked_rev b.size
  simpa[Str.strSliceIndices] using h
 rw[e]
 congr 1
 exists List.ext_getElem?,i;rw[List.filterMap_map];have:(λx=>b[x]?)∘(λk=>b.size - 1 - k)=λk=>b[b.size - 1 - k]? :=rfl;rw[this];have:∀n≤b.size,(Pi n).filterMap (λk=>b[b.size - 1 - k]?)=b.toList.reverse.take n:=by
  intro n hn
  induction n with
  | zero=>simp|succ n ih=>
    rw[List.range_succ,List.filterMap_append,ih %[|0],SV]
    congr 1
    have h1:b.size - 1 - n<b.size:=by lia
    have h2:n<b.toList.reverse.length:=by simp;lia
    rw[MX h2];simp [h1]
 rw[this b.size (MZ _),PC (by simp)]
theorem meets_rev(b:Array UInt8)(t u:Tok)(a:Addr)(hsz:b.size<=Om):
 Meets («bytes.__getitem__» ⟨[.bytes b t, .ref a],[]⟩) (λX R s=>s.heap.IsSliceOf a .none .none (.int (-1) u)/\∀t' k,R (.ok (.ret (.bytes b.toList.reverse.toArray t'))) {s with toks:=k}):=by
 exists .of_wp,prog,w,A,R,s,hS
 (refine bj hS λt'1 h=>?_;exists cF t'1,o,ho,hc,hd)
 have hT:s.TypeIs (.ref a) "slice":=(aE o ho hc);show Oo _ _ (Bytes.payload (.bytes b t) >>= λr=>_) _ _ s;refine Ow (OF (a:=b) rfl ?_);show Oo _ _ (S7 (.ref a) >>= λr=>_) _ _ s;refine Ow ?_;unfold S7;refine Ow (OH hT slice_no_index (Ox ?_));refine Ow (wpAny_typeOf hT ?_);show Oo _ _ (S8 (.ref a) >>= λr=>_) _ _ s;refine Ow ?_;unfold S8;refine Ow (OI (x:= .int (-1) u) ho hd rfl ?_);refine Ow (ky (Pu (show¬((Value.int _ _==Pg)=true) from Np) ?_));refine Ow (OH (T:="int") (SO _ _ _) Rv.lookup ?_);refine ky (Pu (show¬(Option.isNone (some _)=true) from Np) ?_);refine Ow (OF rfl (Ox ?_));refine ky (Pu (show¬((OJ (-1)==OJ 0)=true) by decide) ?_);refine Ow (OI (x:= .none) ho hd rfl ?_);refine Ow (OF (a:=Pg) rfl ?_);refine Ow (OI (x:= .none) ho hd rfl ?_);refine Ow (OF (a:=Pg) rfl ?_);refine Ox ?_;have go:Oo (model prog w) A.in1 (sliceIndices (rawPart none) (rawPart none) (rawPart (some (-1))) b.size) (λr s'=>r=OK none none (some (-1)) b.size/\s'=s) (λX X=>False) s:=
  OF (sliceIndices_raw none none (some (-1)) b.size (by simp)) ⟨rfl,rfl⟩
 refine Ow (OL go (λr s' hr=>?_) λX X e=>e.elim);exists bj hr,hr1,hr2;subst hr1 hr2;refine ky (Pu ?_ ?_)
 . simp [OK]
 have e:Q6 b (OK none none (some (-1)) b.size).1 (OK none none (some (-1)) b.size).2.1 (OK none none (some (-1)) b.size).2.2=b.toList.reverse.toArray:=Ey b;show Oo _ _ (PySem.mkBytes (Q6 b (OK none none (some (-1)) b.size).1 (OK none none (some (-1)) b.size).2.1 (OK none none (some (-1)) b.size).2.2) >>= λr=>_) _ _ _;rw[e];exact Ow (wpAny_mkBytes (Ox (aE _ rfl (h _ _))) (by simpa using hsz))
end
end By
section
variable{C:Cx}{V:cV}{s:Og}{Y:aR}{E Q:Od->Og->Prop}{X:PV->aR->Prop}{A:Ol}
theorem qT(i:Int)(n:Nat):clipAt n i=dz i n:=match i with
 | .ofNat a=>(clipAt_nat n a).trans (if_pos (M9 a)).symm|.negSucc k=>(clipAt_neg n (k+1) (NS 1 k)).trans ((if_neg (Int.not_le.mpr (Int.negSucc_lt_zero k))).trans (by rw[Int.add_comm];exact Int.toNat_sub n (k+1))).symm
theorem KV.slice(R:cD C V Y s.heap)(k:KV C V s Q v Y'):KV C V {s with heap:=s.heap.push {cls:= .type "slice",data:= .fields #[x,y,z]}} Q v Y':=
 k.trans (V':=V) (St.keeps (t:=s.toks) R (bM _ _))
section
variable{value e:ML}{p:Pos}{a b:Od}(R:cD C V Y s.heap)
include R
theorem zd(ha:aB C V s.heap a x)(hb:aB C V s.heap b y)(k:aw (EH x y Y) (KV C V s Q) X):
 Oo (model C.prog C.w) A (OB value (.Slice none (some e) none p) a (.ref s.heap.objs.size)) Q E {s with heap:=s.heap.push {cls:= .type "slice",data:= .fields #[.none,b, .none]}}:=by
 exists ak k,n,e1,k;exists ak k,i,e2,k;exists ck k,xs,eo,k;exists a7 (e1▸ha),a,B,rfl,ep;exists bF (e2▸hb),u,rfl;exists bR R ep eo,hl,vs,m,g,r;haveI kk:=bM s.heap {cls:= .type "slice",data:= .fields #[.none, .int i u, .none]};haveI gl:=bQ (kk _ _ g);haveI hlen:=r.length;clear ha hb e1 e2 eo g;refine OC (ops:=[.ref s.heap.objs.size, .ref a]) gl.typeIs slot_list_getitem.lookup ?_ rfl;refine OM gl (P0 ..) .none (.int i u) .none (by simp) ?_ (by erw[M1,hlen];exact b5 (MO hl %[|1]));haveI e:slicePick vs.toArray none (some i) none=(vs.take (dz i xs.length)).toArray:=by
  erw[slicePick_plain];simp [qT,hlen]
 rw[e];exact KV.list (R.keeps kk) ((r.take _).mono (.refl V) (.of_keep kk)) (MO (RU ..) hl) (KV.slice R k)
theorem wF(ha:aB C V s.heap a (.ref n))(hb:aB C V s.heap b (.int i))(eo:Y[n]? =some (.list xs))(k:aw (dB (.list (xs.drop (dz i xs.length))) Y) (KV C V s Q) X):
 Oo (model C.prog C.w) A (OB value (.Slice (some e) none none p) a (.ref s.heap.objs.size)) Q E {s with heap:=s.heap.push {cls:= .type "slice",data:= .fields #[b, .none, .none]}}:=by
 exists vRef ha,a,B,ep;exists vInt hb,u;exists bR R ep eo,hl,vs,m,g,r;haveI kk:=bM s.heap {cls:= .type "slice",data:= .fields #[.int i u, .none, .none]};haveI gl:=bQ (kk _ _ g);haveI hlen:=r.length;clear ha hb eo g;refine OC (ops:=[.ref s.heap.objs.size, .ref a]) gl.typeIs slot_list_getitem.lookup ?_ rfl;refine OM gl (P0 ..) (.int i u) .none .none (by simp) ?_ (by erw[M1,hlen];exact b5 (MO hl %[|1]));haveI e:slicePick vs.toArray (some i) none none=(vs.drop (dz i xs.length)).toArray:=by
  rw[slicePick_plain];erw[Option.elim,qT,M1,hlen];rw[PC (by simp [hlen])]
 rw[e];exact KV.list (R.keeps kk) ((r.drop _).mono (.refl V) (.of_keep kk)) (by rw[NT];exact MO (N1 ..) hl) (KV.slice R k)
omit R in
theorem D4(h0:0<j)(h1:j<=(gf n).length):slicePicked (ch n) (some ((j:Int),u)) none none=(Pi ((ch n).length - j)).map (λk=>j+k):=by
 have:=PySem.StrLaws.strSliceIndices_plain (a:=j) (b:=(ch n).length) (len:=(ch n).length) (by erw[gX];exact h1) (MZ _);erw[<-this];show P1 (some (j:Int)) none 1 _=P1 (some (j:Int)) (some ((ch n).length:Int)) 1 _;erw[P1];simp [(show¬(((ch n).length:Int)<0) from Int.not_lt.mpr (M9 _))]
theorem yz(hl:(gf n).length<=4000)(h0:0<j)(h1:j<=(gf n).length)(k:KV C V s Q (.str (HY ((gf n).drop j))) Y):
 Oo (model C.prog C.w) A (OB value (.Slice (some e) none none p) (.str (ch n) t) (.ref s.heap.objs.size)) Q E {s with heap:=s.heap.push {cls:= .type "slice",data:= .fields #[.int j u, .none, .none]}}:=by
 haveI kk:=bM s.heap {cls:= .type "slice",data:= .fields #[.int (j:Int) u, .none, .none]};refine OC (ops:=[.ref s.heap.objs.size, .str (ch n) t]) (typeIs_str _ _ _) PySem.F.slot_str_getitem.lookup ?_ rfl;refine wpAny_getItem_str_slice (l:=some ((j:Int),u)) (u:=none) (st:=none) (fw _ (NF _ rfl) rfl rfl) rfl ?_;haveI hp:=D4 (u:=u) h0 h1;haveI hlen:(slicePicked (ch n) (some ((j:Int),u)) none none).length≠(ch n).length:=by
  erw[hp,MN,Q5,gX];clear k hp kk;lia
 unfold sliceMade;rw[if_neg (by erw[Option.map_none,Option.getD_none,MY,beq_iff_eq];intro z;exact hlen z.2)];haveI ed:((slicePicked (ch n) (some ((j:Int),u)) none none).filterMap ((ch n).cps[·]?)).toArray=((gf n).drop j).toArray:=by
  erw[hp,pick_run]
  congr 1
  show((gf n).toArray.toList.drop j).take _=_
  rw[PC (by simp [gX])]
 haveI ede:=Ad ((gf n).drop j) λx hx=>zm n x (RS hx);erw[ed,show(⟨((gf n).drop j).toArray⟩:MJ)=ch (HY ((gf n).drop j)) by unfold ch;rw[ede]];haveI hle:(gf (HY ((gf n).drop j))).length<=4000:=by erw[ede,NT];exact MO (N1 ..) hl
 exact⟨by rw[gX];exact b5 (MO hle %[|1]),KV.toks (Q:=Q) (t:=s.toks+1) (R.keeps kk) (.str _ s.toks hle) (KV.slice R k)⟩
theorem uN(ha:aB C V s.heap a x)(hb:aB C V s.heap b y)(k:aw (rY x y Y) (KV C V s Q) X):
 Oo (model C.prog C.w) A (OB value (.Slice (some e) none none p) a (.ref s.heap.objs.size)) Q E {s with heap:=s.heap.push {cls:= .type "slice",data:= .fields #[b, .none, .none]}}:=by
 exists ak k,i,e2,k;rcases bI k with ⟨n,e1,k⟩ | k
 . exists bj (bf k),h,k
   (refine aA ((show aB C V s.heap a (.str n) from e1▸ha).inv) λt t'6 hl=>?_;obtain rfl:=t'6)
   exists bF (e2▸hb),u,rfl;have h0:=UD (aa h);have h1:=UD (ae h);exists bx (RF (R8 h0)),j,rfl;exact yz R hl (Qi.mp h0) (PH.mp h1) k
 . exists ak k,n,e1,k
   exists ck k,xs,eo,k;exact wF R (e1▸ha) (e2▸hb) eo k
theorem xt(ha:aB C V s.heap a x)(k:aw (Ac x Y) (KV C V s Q) X):
 Oo (model C.prog C.w) A (OB value (.Slice none none (some e) p) a (.ref s.heap.objs.size)) Q E {s with heap:=s.heap.push {cls:= .type "slice",data:= .fields #[.none, .none, .int (-1) u]}}:=by
 exists ak k,l,e1,k
 (refine cF ((show aB C V s.heap a (.bytes l) from e1▸ha).inv) λt t'9 hl hn=>?_;obtain rfl:=t'9)
 haveI kk:=bM s.heap {cls:= .type "slice",data:= .fields #[.none, .none, .int (-1) u]};refine OC (ops:=[.bytes (l.map Nu).toArray t, .ref s.heap.objs.size]) (P2 _ _ _) PT.lookup ?_ rfl;refine getItem_meets (P2 _ _ _) %[|1] PT PySem.W.FB.entry_bytes_getitem (PySem.W.FB.args_bytes_getitem_2 _ _) (By.meets_rev _ t u _ (by erw[M1,MN];exact b5 hn)) ⟨P0 ..,λt' k'=>?_⟩;haveI e:(l.map Nu).toArray.toList.reverse.toArray=(l.reverse.map Nu).toArray:=by simp
 erw[e];exact KV.toks (R.keeps kk) (.bytes _ _ (λx hx=>hl x (P6.mp hx)) (by rw[Pw];exact hn)) (KV.slice R k)
end
end
section
variable{C:Cx}{V:cV}{s:Og}{Y:aR}{E Q:Od->Og->Prop}{X:PV->aR->Prop}{A:Ol}
theorem wW(R:cD C V Y s.heap)(ha:aB C V s.heap a x)(k:aw (lx x Y) (KV C V s Q) X):
 Oo (model C.prog C.w) A (call (.builtin "len") [a]) Q E s:=by
 rcases bI k with ⟨xs,e,k⟩ | k
 . (refine fb ((show aB C V s.heap a (.tup xs) from e▸ha).inv) λa vs t'1 ht r hl=>?_;obtain rfl:=t'1)
   haveI hlen:=r.length;refine PyProof.Rows.len_tuple ht (by erw[M1,hlen];clear k;lia) ?_;erw[M1,hlen];exact KV.toks R (.int _ _) k
 rcases bI k with ⟨l,e,k⟩ | k
 . (refine cF ((show aB C V s.heap a (.bytes l) from e▸ha).inv) λt t'2 hl hn=>?_;obtain rfl:=t'2)
   haveI e:(l.map Nu).toArray.size=l.length:=by simp
   refine PySem.W.len_bytes (by rw[e];clear k;lia) ?_;rw[e];exact KV.toks R (.int _ _) k
 exists ak k,n,e,k;exists ck k,xs,eo,k;exists a7 (e▸ha),a,B,rfl,ep;exists bR R ep eo,hl,vs,m,g,r;haveI hlen:=r.length;refine Calls.call_len_list (bQ g) (by erw[M1,hlen];clear k;lia) ?_;erw[M1,hlen];exact KV.toks R (.int _ _) k
theorem oP:∀{xs:List PV} {vs:List Od} {l:List Nat},aK C V h vs xs->BE xs=some l->
 ∃ns,IntsAre vs ns/\(∀n∈ns,0<=n/\n<256)/\byteArr ns=(l.map Nu).toArray/\(∀x∈l,x<256)/\l.length=xs.length:=by
 intro xs
 induction xs with
 | nil=>
   intro _ _ r e;refine vNil r ?_;exact MI e▸ny [] (bT .nil (λX h=>absurd h MS) rfl (λX h=>absurd h MS) rfl)
 | cons x xs oP=>
   intro _ l r e;exists vCons r,v,vs,hv,hr
   (refine aA (Pv.mp e) λt'4 X e=>?_;obtain⟨i,rfl⟩:=t'4)
   dsimp only at e;split at e
   . rename_i h
     haveI h1:=UD (ae h);exists aA (NW.mp e),l',el,rfl;refine bx (oP hr el) λns z'0=>bh z'0 λg1 g2 g3 g4 g5=>?_;exists vInt hv,t;refine(ny (i::ns) (bT (.cons i t g1) (RV.mpr ⟨⟨(UD (aa h)),h1⟩,g2⟩) ?_ (RV.mpr ⟨by clear g1 g2 g3 g4 g5 e hv hr;lia,g4⟩) (congrArg (· +1) g5)));erw[Nl,Nl];exact congrArg (λz=>(_::z).toArray) (congrArg Array.toList g3)
   . exists _
theorem tF(hh:A.handled=none)(R:cD C V Y s.heap)(ha:aB C V s.heap a x)(k:aw (mkBytes x Y) (KV C V s Q) X):
 Oo (model C.prog C.w) A (call (.type "bytes") [a]) Q E s:=by
 rcases bI k with ⟨n,e,k⟩ | k
 . exists bj (bf k),h,k
   exists bF (e▸ha),t,rfl;haveI h1:=UD (ae h);exists By.call_bytes_int (UD (aa h)) h1,t',tk;haveI e:(Ri n.toNat (0:UInt8))=((NB n.toNat 0).map Nu).toArray:=by
    rw[QX];exact Rc.mp (by simp)
   refine e▸?_;exact KV.toks R (.bytes _ _ (λx hx=>by refine(Rz hx)▸?_;decide) (by refine List.length_replicate▸?_;clear k;lia)) k
 exists ak k,n,e,k;exists ck k,xs,eo,k;exists a7 (e▸ha),a,B,rfl,ep;exists bp k,b,e,k;exists aA (NW.mp e),l,el,rfl;exists bR R ep eo,hl,vs,m,g,r;haveI hlen:=r.length;refine bx (oP r el) λns z'0=>bh z'0 λh1 h2 h3 h4 h5=>?_;exists call_bytes_ints (bQ g) h1 h2 (b5 (by clear k;lia)) hh,h',t',tk,kk;refine h3▸?_;exact k _ _ V (St.keeps R kk) (.bytes l t' h4 (h5▸MO hl %[|1]))
theorem xb(R:cD C V Y s.heap)(ha:aB C V s.heap a x)(k:aw (nW x Y) (KV C V s Q) X):
 Oo (model C.prog C.w) A (call (.type "tuple") [a]) Q E s:=by
 rcases bI k with ⟨xs,e,k⟩ | k
 . (refine fb ((show aB C V s.heap a (.tup xs) from e▸ha).inv) λa vs t'10 ht r hl=>?_;obtain rfl:=t'10)
   exact call_tuple_same ht (KV.same R (.tup ht r hl) k)
 exists ak k,n,e,k;exists ck k,xs,eo,k;exists a7 (e▸ha),a,B,rfl,ep;exists bR R ep eo,hl,vs,m,g,r;refine call_tuple_list (bQ g) (λh' kk=>?_) (by erw[M1,r.length];exact b5 (MO hl %[|1]));haveI kk3:∀b o,s.heap.get? b=some o->(h'.push {cls:= .type "tuple",data:= .seq vs.toArray}).get? b=some o:=λb o e=>(bM h' {cls:= .type "tuple",data:= .seq vs.toArray}) b o (kk b o e);exact k _ _ V (St.keeps (t:=s.toks) R kk3) (.tup (ki _ (NF _ rfl) rfl 0 rfl) (r.mono (.refl V) (.of_keep kk3)) (MO hl %[|1]))
theorem uQ(hs:∃o,C.h0.get? Oe=some o)(R:cD C V Y s.heap)(ha:aB C V s.heap a x)(k:aw (sf x Y) (KV C V s Q) X):
 Oo (model C.prog C.w) A (call (.type "dict") [a]) Q E s:=by
 exists ak k,n,e,k;exists iz k,kvs,eo,k;exists a7 (e▸ha),a,B,rfl,ep;exists cj R ep eo,hl,ws,g,r;exists kt_call_dict (ic hs R ep) g (b5 (r.length▸MO hl %[|1])),h',hd,hsb;haveI kk:∀b o,s.heap.get? b=some o->h'.get? b=some o:=λb o e=>by
  haveI hne:b≠s.heap.objs.size:=λz=>by subst z;rw[bq] at e;exists _
  exact(hsb.2 b hne).trans (bM _ _ b o e)
 exists dZ (id hd),ob,es,epo,go,B;exists bj (R.enter (p:=(s.heap.objs.size,s.heap.objs.size)) (o:= .dictS kvs) kk (bq _) (bq _) ⟨_,go⟩ ⟨_,go⟩ (dY rfl hl ws hd (r.mono (d2.append _ _) (.of_keep kk)))),R',S';exact k _ _ _ ⟨S',R',rfl,rfl,rfl⟩ (.ref (iP R _))
def pY(C:Cx)(A:Ol)(id T:String)(B:Builtin)(self:Od)(args:List Od)(Q E:Od->Og->Prop)(s:Og):Prop:=
 s.TypeIs self T/\argsOk id ⟨self::args,[]⟩/\∃S,MeetsIn C.prog C.w (B ⟨self::args,[]⟩) S/\S A (wants Q E) s
theorem rj(R:cD C V Y s.heap)(ha:aB C V s.heap a x)(hb:aB C V s.heap b y)(k:aw (kZ x y Y) (KV C V s Q) X):
 pY C A "list.append" "list" Builtin.«list.append» a [b] Q E s:=by
 exists ak k,n,e,k;exists ck k,xs,eo,k;exists bj (bf k),hf,k;exists a7 (e▸ha),a,B,rfl,ep;exists bR R ep eo,hl,vs,m,g,r;haveI tl:=lK R ep eo g (f:=λz=>z.push b) (ws:=vs++[b]) (by simp) (r.append (.cons hb .nil)) (by rw[MH];exact eX hf);exact dY ((bQ g).typeIs) (PySem.F.args_list_append_2 _ _) _ (list_append a vs.toArray m b (by erw[M1,r.length];exact b5 (by clear k tl;lia)) C.prog C.w) ⟨g,KV.same tl.rel .none (KV.trans tl k)⟩
theorem Ev{n m:Nat}(h:(!(n==m))=true):n≠m:=λz=>by rw[z,beq_self_eq_true] at h;cases h
theorem rQ(R:cD C V Y s.heap)(ha:aB C V s.heap a x)(hb:aB C V s.heap b y)(k:aw (ly x y Y) (KV C V s Q) X):
 pY C A "list.extend" "list" Builtin.«list.extend» a [b] Q E s:=by
 exists ak k,n,e1,k;exists ak k,m,e2,k;exists ck k,xs,eo,k;exists ck k,ys,eo',k;exists bj (bf k),h,k;exists a7 (e1▸ha),a,B,rfl,ep;exists a7 (e2▸hb),b,B,rfl,ep';haveI hf:=eX (ae h);exists bR R ep eo,hl,vs,p,g,r;exists bR R ep' eo',hl',ws,q,g',r';haveI h9:vs.length+ws.length<4000:=by erw[r.length,r'.length];exact hf
 haveI h8:vs.length<=4000:=r.length▸hl;haveI tl:=lK R ep eo g (f:=λz=>z++ws.toArray) (ws:=vs++ws) (by simp) (r.append r') (by refine MH▸?_;exact Nk hf);clear h ha hb e1 e2 eo eo';refine(dY ((bQ g).typeIs) (PySem.F.args_list_extend_2 _ _) _ (AutoSeq1.list_extend_list_list_0 a vs.toArray p b ws.toArray q ?_ (by refine M1▸?_;exact b5 (MO h8 %[|1])) ?_ C.prog C.w) ⟨g,g',KV.same tl.rel .none (KV.trans tl k)⟩)
 . erw[M1,M1]
   intro z;haveI z:=UD (show decide _=true from ae z);haveI h9:=b5 (n:=vs.length+ws.length) (MO (Nk h9) %[|1]);clear k tl;lia
 . erw[M1,M1]
   exact NC (b5 (MO (Nk h9) %[|1]))
theorem Gy{vs:List Od}{i:Int}(h0:0<=i)(h1:i<=vs.length):(haveI k:=if i<0 then(i+(vs.toArray.size:Int)).toNat else min i.toNat vs.toArray.size;(vs.toArray.extract 0 k).push c++vs.toArray.extract k)=(vs.take i.toNat++c::vs.drop i.toNat).toArray:=by
 haveI hm:min i.toNat vs.length=i.toNat:=by lia
 haveI hi:¬i<0:=by lia
 erw[hi,if_false,M1,hm];apply Rc.mp;erw[Array.toList_append,Array.toList_push,List.extract_toArray,List.extract_eq_take_drop,List.drop_zero,Nat.sub_zero,MR,List.singleton_append];rw[PC (l:=N6 i.toNat vs) (by simp)]
theorem sF(R:cD C V Y s.heap)(ha:aB C V s.heap a x)(hb:aB C V s.heap b y)(hc:aB C V s.heap c z)(k:aw (lu x y z Y) (KV C V s Q) X):
 pY C A "list.insert" "list" Builtin.«list.insert» a [b,c] Q E s:=by
 exists ak k,n,e1,k;exists ak k,i,e2,k;exists ck k,xs,eo,k;exists bj (bf k),h,k;exists a7 (e1▸ha),a,B,rfl,ep;exists bF (e2▸hb),u,rfl;haveI h0:=UD (aa (aa h));haveI h1:=UD (ae (aa h));exists bR R ep eo,hl,vs,p,g,r;haveI hlen:=r.length;haveI tl:=lK R ep eo g (f:=λxs=>haveI k:=if i<0 then(i+(xs.size:Int)).toNat else min i.toNat xs.size;(xs.extract 0 k).push c++xs.extract k) (ws:=vs.take i.toNat++c::vs.drop i.toNat) (Gy h0 (hlen▸h1)) ((r.take i.toNat).append (.cons hc (r.drop i.toNat)))
  (by rw[MH,M0, <-N3, <-MH,NP];exact(eX (ae h)))
 refine(dY ((bQ g).typeIs) (PySem.F.args_list_insert_3 _ _ _) _ (AutoSeq1.list_insert_list_int_val_1 a vs.toArray p i u c ?_ (by erw[M1,hlen];exact b5 (MO hl %[|1])) C.prog C.w) ⟨g,KV.same tl.rel .none (KV.trans tl k)⟩);haveI:Builtin.List.listFitsIndex i=true:=PySem.fitsIndex_of h0 (by clear k tl;lia);rw[this];decide
theorem bP.get_at{K:Type}[DecidableEq K]{ws:List (K×Od)}{kvs:List (K×PV)}(r:bP C V h ws kvs)(n:K):aB C V h ((Oh ws n).getD .none) ((kvs.lookup n).getD .none):=by
 haveI q:=r.at n
 cases e:kvs.lookup n with
 | none=>refine(q.2 e)▸?_;exact .none|some x=>exists aA (q.1 x e),v,hv,rv;refine hv▸?_;exact rv
theorem xE{x y:PV}(hs:∃o,C.h0.get? Oe=some o)(R:cD C V Y s.heap)(ha:aB C V s.heap a x)(hb:aB C V s.heap b y)(k:aw (un x y Y) (KV C V s Q) X):
 pY C A "dict.get" "dict" Builtin.«dict.get» a [b] Q E s:=by
 exists ak k,n,e1,k;exists a7 (e1▸ha),a,B,rfl,ep;rcases zJ k with ⟨kvs,m,e2,e,k⟩ | ⟨kvs,m,e2,e,k⟩
 . exists cj R ep e,B,ws,g,r
   exists cX (e2▸hb),t,rfl;exact dY g.typeIs (Rr _ _) _ (meets_dict_get (ct C.prog C.w) a (c9 _ _ _ _) (ic hs R ep)) ⟨_,g.mapOf,KV.toks R (r.get_at m) k⟩
 . exists yl R ep e,B,ws,g,r
   exists bF (e2▸hb),t,rfl;exact dY g.typeIs (Rr _ _) _ (meets_dict_get (Of C.prog C.w) a (iD _ _ _ _) (ic hs R ep)) ⟨_,g.mapOf,KV.toks R (r.get_at m) k⟩
theorem bP.merged{K:Type}[DecidableEq K]{us:List (K×Od)}{ys:List (K×PV)}{f:List (K×PV)->List (K×PV)->List (K×PV)}(e0:∀a,f a []=a)(e1:∀a k v r,f a ((k,v)::r)=f (bK a k v) r)
 (sn:∀(l:List (K×Od)) k v,(l.map (·.1)).Nodup->((PySem.stored l k v).map (·.1)).Nodup) (ru:bP C V s.heap us ys):∀{ws:List (K×Od)} {xs:List (K×PV)},(ws.map (·.1)).Nodup->bP C V s.heap ws xs->bP C V s.heap (PySem.merged ws us) (f xs ys):=by
 induction ru with
 | nil=>exactλX r=>e0 _▸r|cons a _ ih=>exactλhn r=>e1 _ _ _ _▸ih (sn _ _ _ hn) (r.stored hn a)
theorem uJ{K:Type}[DecidableEq K](l:List (K×Od))(k:K)(v:Od)(hn:(l.map (·.1)).Nodup):((stored l k v).map (·.1)).Nodup:=by
 unfold stored;split
 . haveI e:(l.map (λkv=>if kv.1=k then(kv.1,v) else kv)).map (·.1)=l.map (·.1):=by
    rw[NL];exists Qb,kv,X;erw[Function.comp];split<;>rfl
   erw[e];exact hn
 . rename_i h
   rw[Nm,Qo];refine(dq hn (by simp) ?_);intro a ha b hb;erw[Nl,PL,No] at hb;subst hb;rintro rfl;exists aA (Nd.mp ha),kv,hkv,rfl;exact h (PI.mpr (aE kv hkv (by simp)))
theorem g9:∀(ys xs:List (Nat×PV)),(cn xs ys).length<=xs.length+ys.length:=by
 intro ys
 induction ys with
 | nil=>
   intro _;simp [cn]
 | cons x'9 ys g9=>
   obtain⟨k,v⟩:=x'9;intro xs;haveI h1:=g9 (bK xs k v);haveI h2:=eV xs k v;erw[cn,M0];lia
theorem sJ{x y:PV}{a b:Od}(hs:∃o,C.h0.get? Oe=some o)(R:cD C V Y s.heap)(ha:aB C V s.heap a x)(hb:aB C V s.heap b y)(k:aw (nP x y Y) (KV C V s Q) X):
 pY C A "dict.update" "dict" Builtin.«dict.update» a [b] Q E s:=by
 exists ak k,n,e1,k;exists ak k,m,e2,k;exists iz k,xs,eo,k;exists iz k,ys,eo',k;exists bj (bf k),h,k;exists a7 (e1▸ha),a,B,rfl,ep;exists a7 (e2▸hb),b,B,rfl,ep';haveI hf:=eX (ae h);haveI hOq0:=j7 R ep eo;exists qV hOq0.2,B,ws,g,r;exists cj R ep' eo',B,us,g',r';refine(dY g.typeIs (PySem.F.args_dict_update_2 _ _) _ (meets_dict_update (ct C.prog C.w) a b (R.apart n m _ _ ep ep' (Ev (aa h))).1 (ic hs R ep')) ⟨ws,us,g,g',b5 (by erw[r.length,r'.length];exact MO (Nk hf) %[|1]),λh' hd B hsb=>?_⟩)
 haveI tl:St C V V s {s with heap:=h'} (Y.set n (.dictS (cn xs ys))):=
  lD (t:=s.toks) R ep eo hOq0.1 hsb (let ⟨o,_,_,g,_⟩:=hd;⟨o,g⟩) λt=>⟨hOq0.1,MO (g9 ys xs) (Nk hf),_,hd,(bP.merged (f:=cn) (λB=>rfl) (λB B B B=>rfl) uJ r' (mV g) r).mono (.refl V) t⟩
 exact KV.same tl.rel .none (KV.trans tl k)
end
noncomputable def cg:List Nat:=[25205,`rows,`sets,`cells,`flags,`known,`order,`slots,`family,`fields,`makers,`«prefix»,`dropped,`pending,`statements]
structure CR where
 nm:MJ
 q:MJ
 bs:List Od
 sn:List MJ
 sub:List Od
 col:Option Bool
 dd:Option Addr
 k0:Option Od
 k1:Option Od
 k2:Option Od
 k3:Option Od
 k5:Option Od
noncomputable abbrev CR.obj(r:CR)(C N:Addr)(bm:List Od)(id:String)(ab:Bool):Obj:=ON r.nm r.q C N r.bs bm true r.sn r.sub ab r.col r.dd r.k0 r.k1 r.k2 r.k3 r.k5 id
theorem kX(X:ClsAt h C N mN)(Kz:∀r:CR,h.get? C=some (r.obj C N [.type "object"] "object.__new__" false)->Gz):Gz:=by
 refine bD X.obj λnm q bs sn z'0=>bD z'0 λsub col dd k0 z'1=>bD z'1 λk1 k2 k3 k5 hC=>?_;exact Kz ⟨nm,q,bs,sn,sub,col,dd,k0,k1,k2,k3,k5⟩ hC
structure zW(C:Cx)(c:Nat)(fI:Addr):Prop where
 cls:∃N mN,ClsAt C.h0 (C.ca c) N mN/\mN "__getattribute__"=none/\mN "__setattr__"=none/\mN "__init__"=some (.ref fI)/\∀a∈cg,mN (ch a)=none
theorem lw:∀a∈cg,OD (.type "object") (ch a)=pure none:=by
 intro a ha;erw[cg,MW,MS,or_false] at ha;rcases ha with rfl | rfl | rfl | rfl | rfl | rfl | rfl | rfl | rfl | rfl | rfl | rfl | rfl | rfl | rfl<;>(erw[typeLookup_type,builtinLookup_eq_fast];kernel_rfl)
section
variable{C:Cx}{V:cV}{s:Og}{Y:aR}{E Q:Od->Og->Prop}{X:PV->aR->Prop}{A:Ol}
theorem oS(R:cD C V Y s.heap){n c:Nat}(ep:V[n]? =some (a,d))(e:Y[n]? =some (.inst c fs))(Kz:(d≠a->fs.length<=4000->∀mA o,s.heap.Inst a (C.ca c) mA->s.heap.get? a=some o->o.dict=some d->ot C V s.heap mA fs->Gz)):Gz:=AX (j7 R ep e) Kz
theorem qW(r:aB C V h v x):handedOut v=pure v:=by cases r<;>rfl
theorem nF{x:PV}{code:Nat}(ho:∀c,∃fI,zW C c fI)(hc:code∈cg)(R:cD C V Y s.heap)(ha:aB C V s.heap a x)(k:aw (eL x code Y) (KV C V s Q) X):
 Oo (model C.prog C.w) A (getAttr a (ch code) ex) Q E s:=by
 exists ak k,n,e1,k;exists pp k,c,fs,eo,k;exists bp k,v,ev,k;exists a7 (e1▸ha),a,d,rfl,ep
 (refine bx (ho c) λfI t'2=>?_;obtain⟨N,mN,X,g1,g2,g3,g4⟩:=t'2)
 exists oS R ep eo,B,B,mA,o,I,B,B,hat;exists aA (hat.1 code v ev),u,eu,ru;have X':=X.keeps R.keep;exists kX X',cr,hC;obtain⟨hh,g,dr,t,os⟩:=s;exact load_attr hC X'.ns g1 (g4 code hc) (lw code hc) I eu (qW ru) (KV.toks (s:=⟨hh,g,dr,t,os⟩) (t:=t+1) R ru k)
theorem lE:∀{fs:List (Nat×PV)} {a:Nat} {w:PV},fs.lookup a=some w->(a,w)∈fs:=by
 intro fs
 induction fs with
 | nil=>
   intro _ _ e;exact by exists _
 | cons x'9 r lE=>
   obtain⟨b,v⟩:=x'9;intro a w e;erw[Ng] at e
   by_cases h:a=b
   . subst h;rw[beq_self_eq_true] at e;obtain rfl:=MI e;exact .head _
   . rw[show(a==b)=false from beq_eq_false_iff_ne.mpr h] at e
     exact .tail _ (lE e)
theorem f8:∀(fs:List (Nat×PV)) (k:Nat) (v:PV) (a:Nat),(bK fs k v).lookup a=if a=k then some v else fs.lookup a:=by
 intro fs
 induction fs with
 | nil=>
   intro k v a;erw[bK,Ng,List.lookup_nil]
   by_cases e:a=k
   . simp [e]
   . haveI:(a==k)=false:=beq_eq_false_iff_ne.mpr e
     simp [e,this]
 | cons x'9 r f8=>
   obtain⟨b,w⟩:=x'9;intro k v a;unfold bK
   by_cases e:b=k
   . subst e
     erw[beq_self_eq_true,if_true,Ng]
     by_cases h:a=b
     . subst h;simp
     . haveI:(a==b)=false:=beq_eq_false_iff_ne.mpr h
       simp [h,this]
   . haveI e':(b==k)=false:=beq_eq_false_iff_ne.mpr e
     erw[e',SM,if_false,Ng,f8 k v a]
     by_cases h:a=b
     . subst h
       haveI:¬a=k:=e;simp [this]
     . haveI h':(a==b)=false:=beq_eq_false_iff_ne.mpr h
       erw[h']
theorem mz{x y:PV}{code:Nat}{Q:Unit->Og->Prop}(ho:∀c,∃fI,zW C c fI)(hc:code∈cg)(R:cD C V Y s.heap)(ha:aB C V s.heap a x)(hb:aB C V s.heap b y)
 (k:aw (Internal.setAttr x code y Y) (λB Y'=>∀s',St C V V s s' Y'->Q () s') X):
 Oo (model C.prog C.w) A (QS a (ch code) b) Q E s:=by
 exists ak k,n,e1,k;exists pp k,c,fs,eo,k';exists bj (bf k'),hf,k';exists a7 (e1▸ha),a,d,rfl,ep
 (refine bx (ho c) λfI t'4=>?_;obtain⟨N,mN,X,g1,g2,g3,g4⟩:=t'4)
 exists oS R ep eo,hda,hl,mA,o,I,go,gd,hat;haveI X':=X.keeps R.keep;exists kX X',cr,hC;haveI hxC:a≠C.ca c:=by
  intro z;haveI h1:=(R.old _ (M6 ep)).1;exists kX X,B,hC0;erw[z,hC0] at h1;exists _
 haveI hw:Within mA (fs.map λf=>ch f.1):=λy hy=>by
  exists aA (hat.2 y hy),a',ha',rfl;exists bx (Po.mp ha'),w,ew;refine Nd.mpr (aE (a',w) ?_ rfl);exact lE ew
 obtain⟨hh,g,dr,t,os⟩:=s;refine store_attr F.store_object hC X'.ns g2 (g4 code hc) (lw code hc) hxC I (λh' tk' I' kb ks=>k' _ ?_) hw (by rw[MN];exact b5 %[|0]);refine bx (ks o go) λo₁ z'0=>bh z'0 λgo₁ ec B B ed=>?_;haveI hsame:∀b ob,b≠a->b≠d->hh.get? b=some ob->h'.get? b=some ob:=λb ob h1 h2 hb=>kb b ob h1 (λo₀ dx e0 e1=>by
  haveI e0':hh.get? a=some o:=go;rw[e0'] at e0;obtain rfl:=MI e0
  rw[gd] at e1;obtain rfl:=MI e1;exact h2) hb
 haveI gd':=ed d gd;haveI I2:=I';exists eB I2,o₂,go₂,B,B,hd2;obtain rfl:o₁=o₂:=MI (go₁.symm.trans go₂);haveI hdict:∃ob,h'.get? d=some ob:=by
  rcases hd2 with ⟨hd2,_⟩ | ⟨dx,hd2,_,ns⟩
  . rw[gd'] at hd2;exists _
  . rw[gd'] at hd2;obtain rfl:=MI hd2
    exists dZ ns,oD,B,B,gD,B;exact⟨oD,gD⟩
 haveI z:=R.change (h':=h') (o':= .inst c (bK fs code y)) ep eo hsame ⟨_,go₁⟩ hdict λtt=>by
  refine(dq hda (MO (eV fs code y) (show fs.length<4000 from eX hf)) (gQ _ o₁ (bT I' go₁ gd' (λb' x' e'=>?_) (λy' hy'=>?_))))
  . rw[f8] at e'
    by_cases e2:b'=code
    . subst e2
      rw[if_pos rfl] at e';obtain rfl:=MI e';exact aE b (by simp) (hb.mono (.refl V) tt)
    . rw[if_neg e2] at e'
      exists aA (hat.1 b' x' e'),u,eu,ru;exact aE u (by show(if ch b'=ch code then some b else mA (ch b'))=_;refine(if_neg λq=>e2 (lV q))▸?_;exact eu) (ru.mono (.refl V) tt)
  . by_cases e2:y'=ch code
    . exact aE code (by rw[f8];simp) e2
    . replace hy':(if y'=ch code then some b else mA y')≠none:=hy'
      rw[if_neg e2] at hy';exists aA (hat.2 y' hy'),a',ha',rfl;refine(aE a' ?_ rfl);rw[f8,if_neg λq=>e2 (by rw[q])];exact ha'
 exact⟨z.2,z.1,rfl,rfl,rfl⟩
end
end Internal
end
section
open PySem PySem.Calls PyProof.Rows
namespace Internal
variable{Gz:Prop}
structure ER(A:Ol)(d:Nat):Prop where
 handled:A.handled=none
 depth:A.depth+3*d+5<Oz
 units:A.units+20*d+210<Ou
theorem ER.room(r:ER A d):qh A d:=⟨r.handled,by have:=r.depth;lia,by have:=r.units;lia⟩
def FF(C:Cx)(A:Ol)(V:cV)(h:Heap):Prop:=
 ∃outer,A.frames=some outer/\∀e∈outer,e.scope.kind≠ .module/\∃L o,e.frame=some L/\C.h0.get? L=none/\h.get? L=some o/\(∃es ep,o.data= .dict es ep)/\hP V L
noncomputable def qx(A:Ol):List Addr:=(A.frames.getD []).filterMap (·.frame)
theorem FF.step(f:FF C A V h)(x:kD V V' h h'):FF C A V' h':=by
 exists aA f,outer,e,k;refine(aE outer e (λenv he=>?_));exists dX (k env he),h1,L,o,h2,h3,h4,h5,h6;exists aA (x.stay _ _ h4 h6),sl,g,X;exact gS h1 L _ h2 h3 g h5 (x.off h4 h6)
structure Ok(C:Cx)(A:Ol)(d:Nat)(V:cV)(Y:aR)(s:Og):Prop where
 room:ER A d
 rel:cD C V Y s.heap
 ff:FF C A V s.heap
theorem Ok.step(o:Ok C A d V Y s)(x:St C V V' s s' Y'):Ok C A d V' Y' s':=⟨o.room,x.rel,o.ff.step x.step⟩
def EL(C:Cx)(V:cV)(h:Heap)(e:Od)(m:PV):Prop:=
 ∃a d mA oe vs w,e= .ref a/\C.h0.get? a=none/\hP V a/\h.get? a=some oe/\oe.cls= .ref C.mis/\oe.dict=some d/\oe.data= .fields vs/\h.Ns1 d mA/\C.h0.get? d=none/\hP V d/\d≠a/\
  mA "why"=some w/\aB C V h w m/\
  (vs[1]? =some .none\/∃T oT ts,vs[1]? =some (.ref T)/\C.h0.get? T=none/\hP V T/\T≠a/\T≠d/\h.get? T=some oT/\oT.data= .fields ts/\ts[3]? =some .none)
structure tW(F:List Addr)(V V':cV)(h h':Heap):Prop where
 le:d2 V V'
 stay:∀b o,h.get? b=some o->hP V b->nQ h' b o
 new:∀p∈V',p∈V\/(h.get? p.1=none/\h.get? p.2=none)
 tup:bo h h'
 there:∀b o,h.get? b=some o->∃o',h'.get? b=some o'
theorem tW.of(x:kD V V' h h'):tW F V V' h h':=
 ⟨x.le,x.stay,x.new,x.tup,x.there⟩
theorem tW.after(x:kD V V' h h')(y:tW F V' V'' h' h''):tW F V V'' h h'' where
 le:=x.le.trans y.le
 stay:=λb o e f=>(x.stay b o e f).trans λo' e'=>y.stay b o' e' (x.off e f)
 new:=λp hp=>by
  rcases y.new p hp with q | ⟨q1,q2⟩
  . exact x.new p q
  . right
    constructor
    . cases e:h.get? p.1 with
      | none=>rfl|some o=>exists bx (x.there _ _ e),o',e';rw[e'] at q1;exists _
    . cases e:h.get? p.2 with
      | none=>rfl|some o=>exists bx (x.there _ _ e),o',e';rw[e'] at q2;exists _
 tup:=x.tup.trans y.tup
 there:=λb o e=>let ⟨_,e'⟩:=x.there b o e;y.there b _ e'
structure Mz(C:Cx)(A:Ol)(V V':cV)(s s':Og)(Y':aR):Prop where
 step:tW (qx A) V V' s.heap s'.heap
 rel:cD C V' Y' s'.heap
 sh:Sh s s'
def uq(h h':Heap)(e:Od):Prop:=∀a,e= .ref a->h.get? a=none/\∀o d,h'.get? a=some o->o.dict=some d->h.get? d=none
theorem uq.back(t:∀b o,h.get? b=some o->∃o',h'.get? b=some o')(n:uq h' h'' e):uq h h'' e:=λa ea=>by
 have q:∀b,h'.get? b=none->h.get? b=none:=λb hb=>by
  cases q:h.get? b with
  | none=>rfl|some o=>exists bx (t _ _ q),o',q';rw[hb] at q';exists _
 exact⟨q _ (n a ea).1,λo d g hd=>q _ ((n a ea).2 o d g hd)⟩
def XK(C:Cx)(A:Ol)(V:cV)(s:Og)(E:Od->Og->Prop)(m:PV)(Y':aR):Prop:=∀e s' V',Mz C A V V' s s' Y'->EL C V' s'.heap e m->uq s.heap s'.heap e->E e s'
theorem XK.trans{E:Od->Og->Prop}(x:St C V V' s s' Y')(k:XK C A V s E m Y''):XK C A V' s' E m Y'':=
 λe s'' V'' y r n=>k e s'' V'' ⟨.after x.step y.step,y.rel,x.sh.trans y.sh⟩ r (n.back x.step.there)
def KG{α β:Type}(C:Cx)(V:cV)(s:Og)(rep:cV->Heap->α->β->Prop)(Q:α->Og->Prop)(b:β)(Y':aR):Prop:=∀a s' V',St C V V' s s' Y'->rep V' s'.heap a b->Q a s'
theorem KG.trans(x:St C V V' s s' Y')(k:KG C V s rep Q b Y''):KG C V' s' rep Q b Y'':=
 λa s'' V'' y r=>k a s'' V'' (x.trans y) r
def gk:cV->Heap->Bool->Bool->Prop:=λX X a b=>a=b
def aW(C:Cx):cV->Heap->Od->PV->Prop:=aB C
def ij(C:Cx):cV->Heap->List Od->List PV->Prop:=aK C
structure Ck where
 scope:OO
 names:List MJ
def br{α β:Type}(C:Cx)(d:Nat)(K:Ck)(rep:cV->Heap->α->β->Prop)(m:UG->M β)(t:Nf->Sem α):Prop:=
 ∀(V:cV) (s:Og) (Y:aR) (O:UG) (env:Nf) (A:Ol) (Q:α->Og->Prop) (E:Od->Og->Prop),Ok C A d V Y s->cc C V s.heap env K.names O->env.scope=K.scope->
  aw (m O Y) (KG C V s rep Q) (XK C A V s E)->Oo (model C.prog C.w) A (t env) Q E s
section
variable{C:Cx}{d:Nat}{K:Ck}{α β γ δ:Type}{rep:cV->Heap->α->β->Prop}{rep2:cV->Heap->γ->δ->Prop}{m:UG->M β}{t:Nf->Sem α}
theorem br.seq(S:br C d K rep m t){Q:γ->Og->Prop}{E:Od->Og->Prop}{f:β->M δ}(ok:Ok C A d V Y s)(F:cc C V s.heap env K.names O)
 (he:env.scope=K.scope) (k:aw (((m O).bnd f) Y) (KG C V s rep2 Q) (XK C A V s E)) {Q1:α->Og->Prop}
 (next:∀(b:β) (a:α) (s':Og) (V':cV) (Y':aR),Ok C A d V' Y' s'->cc C V' s'.heap env K.names O->rep V' s'.heap a b->St C V V' s s' Y'->aw (f b Y') (KG C V' s' rep2 Q) (XK C A V' s' E)->Q1 a s'):
 Oo (model C.prog C.w) A (t env) Q1 E s:=
 S V s Y O env A Q1 E ok F he (aw.mono (ay k) (λb Y' kk a s' V' st r=>next b a s' V' Y' (ok.step st) (F.step st.step) r st (aw.mono kk (λX X x=>x.trans st) (λX X x=>x.trans st))) λX X x=>x)
end
theorem eH{s:Og}{K:Bool->aR->Prop}(r:aB C V s.heap v x)(k:aw (bW x Y) K X)(Kz:∀b,x= .bool b->v= .bool b->K b Y->Gz):Gz:=by
 exists ak k,b,rfl,k;exact Kz b rfl r.inv k
inductive d8(C:Cx)(V:cV)(h:Heap)(I:Addr):It->Prop
 | tup {a:Addr} {vs:List Od} {xs:List PV} {i:Nat}:h.IsTupleIter I a i->h.IsTuple a vs.toArray->aK C V h (vs.drop i) xs->d8 C V h I (.tup xs)
 | bytes {l:List Nat} {t:Tok} {i:Nat} {xs:List PV}:PySem.W.KBw.IsBytesIter h I (l.map Nu).toArray t i->(∀x∈l,x<256)->xs=(l.drop i).map (λc=>TF (c:Nat))->d8 C V h I (.tup xs)
 | lst {l:Addr} {n i:Nat}:h.IsListIter I l i->aB C V h (.ref l) (.ref n)->d8 C V h I (.lst n i)|rng {i n:Nat}:IsRangeIter h I (i:Int) ((n:Int) - i) 1->d8 C V h I (.rng i n)|fdk {a:Addr} {ws:List (Nat×Od)} {kvs:List (Nat×PV)} {ep i:Nat}:h.IsKeyIter I a i ws.length ep->C.h0.DictAt (ct C.prog C.w) a ws ep->bP C V h ws kvs->(a==Oe)=false->(∀kv∈kvs,(gf kv.1).length<=4000)->d8 C V h I (.fdk kvs i)
theorem mG(h:(ct prog w).is n v=true)(Kz:∀t,v= .str (ch n) t->Gz):Gz:=by
 haveI h:Value.isStrOf (ch n) v=true:=h;unfold Value.isStrOf at h;split at h
 . exact Kz _ (by rw[beq_iff_eq.mp h])
 . exists _
section
variable{C:Cx}{V V':cV}{s:Og}{Y:aR}{X:PV->aR->Prop}{A:Ol}{h h':Heap}{I:Addr}
theorem d8.mono(r:d8 C V h I it)(p:d2 V V')(t:bo h h')(k:∀o,h.get? I=some o->nQ h' I o):d8 C V' h' I it:=by
 cases r with
 | tup a b c=>exists aA a,o,g,r;exists aA (k o g),sl,g',X;exact .tup (aE _ g' r) (t _ _ b) (c.mono p t)
 | bytes a b c=>exists aA a,o,g,r;exists aA (k o g),sl,g',X;exact .bytes (aE _ g' r) b c
 | lst a b=>exists aA a,o,g,r;exists aA (k o g),sl,g',X;exact .lst (aE _ g' r) (b.mono p t)
 | rng a=>exact .rng ((k _ a).same (λes ep z=>by exists _))
 | fdk a b c d e=>exists aA a,o,g,r;exists aA (k o g),sl,g',X;exact .fdk (aE _ g' r) b (c.mono p t) d e
theorem Bh(x:h.PlainList D vs)(k:∀o,h.get? D=some o->nQ h' D o):h'.PlainList D vs:=let ⟨n,e⟩:=x;⟨n,(k _ e).same λes ep z=>by exists _⟩
theorem d8.there(r:d8 C V h I it):∃o,h.get? I=some o/\∀its,¬h.IsTuple I its:=by
 have no:∀(o:Obj) (T:String),h.get? I=some o->o.cls= .type T->T≠"tuple"->∃o,h.get? I=some o/\∀its,¬h.IsTuple I its:=λo T g hc hne=>⟨o,g,λits ⟨o',g',hc',_⟩=>by
  rw[g] at g';obtain rfl:=MI g';rw[hc] at hc';cases hc';exact hne rfl⟩
 cases r with
 | tup a _ _=>exists cF a,o,g,hc,X;exact no o _ g hc %[|1]
 | bytes a _ _=>exists cF a,o,g,hc,X;exact no o _ g hc %[|1]
 | lst a _=>exists cF a,o,g,hc,X;exact no o _ g hc %[|1]
 | rng a=>exact no _ "range_iterator" a rfl %[|1]
 | fdk a _ _ _ _=>exists cF a,o,g,hc,X;exact no o _ g hc %[|1]
theorem cy(hn:∀its,¬h.IsTuple I its)(k:∀b o,b≠I->h.get? b=some o->h'.get? b=some o):bo h h':=λa its x=>by
 exists aA x,o,g,r;exact aE o (k a o (show a≠I fromλe=>hn its (e▸x)) g) r
set_option tactic.hygienic true in
theorem sH{K:Option (PV×It)->aR->Prop}(hh:A.handled=none)(R:cD C V Y s.heap)(r:d8 C V s.heap I it)(k:aw (dg it Y) K X):
 (∃x it',K (some (x,it')) Y/\∀(E:Od->Og->Prop) (Q:Option Od->Og->Prop),(∀v h' tk,aB C V h' v x->d8 C V h' I it'->Heap.ExtBut I s.heap h'->Q (some v) {s with heap:=h',toks:=tk})->Oo (model C.prog C.w) A (pyNext (.ref I)) Q E s)\/
 (K none Y/\∀(E:Od->Og->Prop) (Q:Option Od->Og->Prop),(∀h',Heap.ExtBut I s.heap h'->Q none {s with heap:=h'})->Oo (model C.prog C.w) A (pyNext (.ref I)) Q E s):=by
 haveI hno:=r.there;exists aA hno,o,go,hno
 cases r with
 | tup a b c=>
   rename_i a' vs xs i
   cases xs with
   | nil=>
     right
     refine⟨k,λE Q hQ=>wpAny_pyNext_tuple_end hh a b ?_ hQ⟩;have:=c.length;erw[NT,NN] at this;simp;lia
   | cons x xs=>
     left
     refine(pK x (.tup xs) k (λE Q hQ=>?_));haveI hd:∃v,vs[i]? =some v/\aB C V s.heap v x/\aK C V s.heap (vs.drop (i+1)) xs:=by
      generalize hv:vs.drop i=ws at c
      cases c with
      | cons c1 c2=>
        rename_i v ws;haveI e1:vs[i]? =some v:=by
         have:=congrArg (λl=>l[0]?) hv
         simpa using this
        haveI e2:vs.drop (i+1)=ws:=by rw[<-List.tail_drop,hv];rfl
        exact fw v e1 c1 (e2▸c2)
     exists cF hd,v,e1,c1,c2;exists wpAny_pyNext_tuple_item a b (by simpa using e1),h',jt,hs;haveI t:=cy hno λb o hne e=>hs.extBut b o hne e;exact hQ v h' s.toks (c1.mono (.refl V) t) (.tup jt (t _ _ b) (c2.mono (.refl V) t)) hs.extBut
 | bytes a b c=>
   rename_i l t i xs
   cases hl:l[i]? with
   | none=>
     right
     haveI e:xs=[]:=by
      erw[c,List.drop_eq_nil_of_le (by rw[Nt] at hl;exact hl)];rfl
     subst e;exact⟨k,λE Q hQ=>PySem.W.KBw.next_end hh a (by simp at hl ⊢;exact hl) hQ⟩
   | some c0=>
     left
     exists cps,Gz,Kz;exists bx (M4.mp hl),hlt,hv;haveI e:xs= .int (c0:Nat)::(l.drop (i+1)).map (λc=>TF (c:Nat)):=by
      erw[c,Rw hlt,Nl,hv]
     subst e;refine Kz ?_;refine(pK _ _ k (λE Q hQ=>PySem.W.KBw.next_item (c:=Nu c0) a (by simp [hl]) λh' jt hs=>?_));haveI hc0:=b c0 (hv▸PA hlt);haveI t':=cy hno λb o hne e=>hs.extBut b o hne e;haveI en:((Nu c0).toNat:Int)=(c0:Int):=by erw[QR];lia
     refine en▸?_;exact hQ _ h' _ (.int _ _) (.bytes jt b rfl) hs.extBut
 | lst a b=>
   rename_i l n i;exists ck k,xs,eo,k';exists td R b eo,hl,vs,m,g,rr
   cases hx:xs[i]? with
   | none=>
     rw[hx] at k'
     right
     refine⟨k',λE Q hQ=>wpAny_pyNext_list_end hh a (bQ g) ?_ hQ⟩;have:=rr.length;rw[Nt] at hx;simp;lia
   | some x=>
     rw[hx] at k'
     left
     exists aA (rr.get hx),v,ev,rv;refine(pK _ _ k' (λE Q hQ=>wpAny_pyNext_list_item a (bQ g) (by simpa using ev) λh' jt hs=>?_));haveI t:=cy hno λb o hne e=>hs.extBut b o hne e;exact hQ v h' s.toks (rv.mono (.refl V) t) (.lst jt (b.mono (.refl V) t)) hs.extBut
 | rng a=>
   rename_i i n;erw[dg] at k;split at k
   . rename_i hlt
     left
     refine(pK _ _ k (λE Q hQ=>wpAny_pyNext_range_item a %[|0] λh' jt hs=>?_));refine hQ _ h' _ (.int _ _) (.rng ?_) hs.extBut;haveI e1:(i:Int)+1=((i+1:Nat):Int):=by lia
     haveI e2:(n:Int) - i - 1=(n:Int) - ((i+1:Nat):Int):=by lia
     erw[e1,e2] at jt;exact jt
   . right
     exact⟨k,λE Q hQ=>wpAny_pyNext_range_end hh a %[|0] hQ⟩
 | fdk a b c d e=>
   rename_i a' ws kvs ep i;haveI g:=b.keep R.keep;erw[dg] at k
   cases hx:kvs[i]? with
   | none=>
     rw[hx] at k
     right
     refine⟨k,λE Q hQ=>wpAny_pyNext_dict_end hh a g ?_ hQ⟩;have:=c.length;rw[Nt] at hx ⊢;lia
   | some kv=>
     rw[hx] at k
     left
     exists aA (c.get hx),v,ev,rv;refine(pK _ _ k (λE Q hQ=>wpAny_pyNext_dict_item a g ev λky h' hk jt hs=>?_));haveI t:=cy hno λb o hne e=>hs.extBut b o hne e;exists mG hk,tk,rfl;exact hQ _ h' s.toks (.str _ _ (e kv (M6 hx))) (.fdk jt b (c.mono (.refl V) t) d e) hs.extBut
end
section
variable{C:Cx}{V V1:cV}{s s1:Og}{Y Y1:aR}{X:PV->aR->Prop}{A:Ol}
theorem yJ{E Q:Od->Og->Prop}(r:d8 C V s.heap I it)(h:Q (.ref I) s):Oo (model C.prog C.w) A (pyIter (.ref I)) Q E s:=by
 cases r with
 | tup a _ _=>exact wpAny_pyIter_tupleiter a h|bytes a _ _=>exact PySem.W.KBw.pyIter_self a h|lst a _=>exact wpAny_pyIter_listiter a h|rng a=>exact wpAny_pyIter_rangeiter a h|fdk a _ _ _ _=>exact wpAny_pyIter_keyiter a h
theorem vj{K:It×Nat->aR->Prop}(R:cD C V Y s.heap)(r:aB C V s.heap v x)(k:aw (Kt x Y) K X)(Kz:(∀it n,K (it,n) Y->(∀(E Q:Od->Og->Prop),(∀I h' tk,(∀b o,s.heap.get? b=some o->h'.get? b=some o)->s.heap.get? I=none->d8 C V h' I it->Q (.ref I) {s with heap:=h',toks:=tk})->Oo (model C.prog C.w) A (pyIter v) Q E s)->Gz)):Gz:=by
 rcases bI k with ⟨xs,e,k⟩ | k
 . exists jM (e▸r),a,vs,rfl,ht,hr
   refine(Kz (.tup xs) xs.length k (λE Q hQ=>wpAny_pyIter_tuple ht ?_));haveI kk:=bM s.heap {cls:= .type "tuple_iterator",data:= .fields #[.ref a, .int 0 0]};exact hQ _ _ s.toks kk (bq _) (.tup (i:=0) (fw _ (NF _ rfl) rfl rfl) (bo.of_keep kk _ _ ht) (hr.mono (.refl V) (.of_keep kk)))
 rcases bI k with ⟨kvs,e,k⟩ | k
 . exists Ai R (e▸r),a,ws,ep,rfl,ha,g,hs,kr,B,hk
   refine(Kz _ _ k (λE Q hQ=>wpAny_pyIter_dict hs g ?_));haveI kk:=bM s.heap {cls:= .type "dict_keyiterator",data:= .fields #[.ref a, .int 0 0, .int ws.length 0, .int ep 0]};exact hQ _ _ s.toks kk (bq _) (.fdk (i:=0) (fw _ (NF _ rfl) rfl rfl) ha (kr.mono (.refl V) (.of_keep kk)) hs hk)
 rcases bI k with ⟨l,e,k⟩ | k
 . exists jb (e▸r),t,rfl,hl
   refine(Kz _ _ k (λE Q hQ=>PySem.W.KBw.pyIter_bytes ?_));exact hQ _ _ s.toks (bM s.heap {cls:= .type "bytes_iterator",data:= .fields #[.bytes (l.map Nu).toArray t, .int 0 0]}) (bq _) (.bytes (i:=0) (fw _ (NF _ rfl) rfl rfl) hl rfl)
 exists ak k,n,e,k;exists ck k,xs,eo,k;exists a7 (e▸r),a,B,rfl,ep;exists bR R ep eo,hl,vs,m,g,rr;refine(Kz _ _ k (λE Q hQ=>wpAny_pyIter_list (bQ g) ?_));exact hQ _ _ s.toks (bM s.heap {cls:= .type "list_iterator",data:= .fields #[.ref a, .int 0 0]}) (bq _) (.lst (i:=0) (fw _ (NF _ rfl) rfl rfl) (.ref ep))
theorem tz{K:Nat->aR->Prop}(r:aB C V s.heap v x)(k:aw (uC x Y) K X)(Kz:(∀n,K n Y->(∀(E Q:Od->Og->Prop),(∀I h' tk,(∀b o,s.heap.get? b=some o->h'.get? b=some o)->s.heap.get? I=none->d8 C V h' I (.rng 0 n)->Q (.ref I) {s with heap:=h',toks:=tk})->
 Oo (model C.prog C.w) A (call (.type "range") [v]) (λxv s₁=>Oo (model C.prog C.w) A (pyIter xv) Q E s₁) E s)->Gz)):Gz:=by
 exists ak k,N,e,k;exists bj (bf k),h,k;exists bF (e▸r),tN,rfl;refine(Kz _ k (λE Q hQ=>call_range_1 ?_));refine wpAny_pyIter_range (IsRange.new ..) (small_one %[|1] %[|1] %[|0] %[|0]) ?_;haveI hsz:Builtin.Range.rangeSize 0 N 1=(N.toNat:Int):=by rw[rangeSize_one];split<;>lia
 rw[hsz];refine hQ _ _ _ (λb o e=>Nj _ (Nj _ e)) ?_ (.rng ?_)
 . haveI gen:∀n,s.heap.objs.size<=n->s.heap.get? n=none:=λn hn=>by
    cases e:s.heap.get? n with
    | none=>rfl|some o=>exact absurd (NY e) (PY.mpr hn)
   exact gen _ (by erw[Ry];lia)
 . haveI e1:(((0:Nat):Int))=0:=rfl
   erw[e1,RY];exact NF _ rfl
theorem cD.off(R:cD C V Y h)(S:Addr->Prop)(hS:∀b,S b->hP V b/\C.h0.get? b=none/\∀its,¬h.IsTuple b its)(k:∀b o,¬S b->h.get? b=some o->h'.get? b=some o):cD C V Y h':=by
 have t:bo h h':=λa its x=>by
  have hn:¬S a:=λe=>(hS a e).2.2 its x;exists aA x,o,g,r;exact aE o (k a o hn g) r
 have n1:∀p∈V,¬S p.1/\¬S p.2:=λp hp=>⟨λe=>((hS _ e).1 p hp).1 rfl,λe=>((hS _ e).1 p hp).2 rfl⟩;refine⟨R.len,λn o e=>?_,R.apart,R.old,λp hp=>?_,λb o e=>k b o (λz=>?_) (R.keep b o e)⟩
 . exists aA (R.obj n o e),p,ep,r
   have:=n1 p (M6 ep);exact aE p ep (r.mono (.refl V) t (λo g=>k _ o this.1 g) (λo g=>k _ o this.2 g))
 . have:=n1 p hp
   (refine vi (R.there p hp) λt'6 o2 g2=>?_;exists bx t'6,o1,g1)
   exact jw (⟨o1,k _ _ this.1 g1⟩) (ny o2 (k _ _ this.2 g2))
 . rw[(hS b z).2.1] at e;cases e
theorem St.off(x:St C V V1 s s1 Y1)(S:Addr->Prop)(hS:∀b,S b->s.heap.get? b=none/\hP V1 b/\C.h0.get? b=none/\∀its,¬s1.heap.IsTuple b its)(k:∀b o,¬S b->s1.heap.get? b=some o->h'.get? b=some o):
 St C V V1 s {s1 with heap:=h',toks:=t} Y1:=by
 have hn:∀b o,s.heap.get? b=some o->¬S b:=λb o e z=>by rw[(hS b z).1] at e;exists _
 refine⟨⟨x.step.le,λb o e f=>(x.step.stay b o e f).trans λo' e'=> .of (k b o' (hn b o e) e'),x.step.new,λa its y=>?_,λb o e=>?_⟩,x.rel.off S (λb z=>(hS b z).2) k,⟨x.sh.gens,x.sh.drawn,x.sh.os⟩⟩
 . exists aA (id y),o,g,X
   exists aA (x.step.tup a its y),o',g',r;exact aE o' (k a o' (hn a o g) g') r
 . exists bx (x.step.there b o e),o',g
   exact⟨o',k b o' (hn b o e) g⟩
theorem FF.other(f:FF C A V h)(k:∀b o,h.get? b=some o->hP V b->(∃e∈A.frames.getD [],e.frame=some b)->∃o',h'.get? b=some o'/\o'.data=o.data):FF C A V h':=by
 exists aA f,outer,e,kk;refine(aE outer e (λenv he=>?_));exists dX (kk env he),h1,L,o,h2,h3,h4,h5,h6;exists aA (k L o h4 h6 (aE env (by refine e▸?_;exact he) h2)),o',g,d;exact gS h1 L o' h2 h3 g (d▸h5) h6
end
noncomputable def qU(sc:OO)(K:Ck):Scope:=
 {sc with names:=sc.names.map λ(n,k)=>if (k== .free&&K.scope.kind== .function&&K.scope.names.lookup n==some .cell) then(n, .cell) else(n,k)}
noncomputable def eQ(K:Ck)(sc:OO)(t:MJ):Bool:=
 sc.kind== .function&&sc.names.all (λy=>y.2 != .cell)&&sc.names.all (λy=>y.2 != .local||sc.names.lookup y.1==some .local)&&sc.names.lookup t==some .local&&
 K.names.all (λn=>sc.names.lookup n != some .local)&&sc.names.all (λy=>y.2 != .free||(K.names.contains y.1&&(K.scope.names.lookup y.1==some .cell||K.scope.names.lookup y.1==some .free)))
noncomputable def Ck.comp(K:Ck)(sc:OO)(t:MJ):Ck:=⟨qU sc K,t::K.names⟩
theorem pW{K:Ck}(he:env.scope=K.scope)(sc:OO):relabel sc env=qU sc K:=by
 unfold relabel qU NV;rw[he]
theorem yU{g:MJ->OP->OP}:∀(l:List (MJ×OP)) (n:MJ),(l.map λp=>(p.1,g p.1 p.2)).lookup n=(l.lookup n).map (g n):=by
 intro l
 induction l with
 | nil=>
   intro n;exact rfl
 | cons p l ih=>
   intro n;show(match n==p.1 with | true=>some (g p.1 p.2) | false=>QQ n (l.map λp=>(p.1,g p.1 p.2)))=(match n==p.1 with | true=>some p.2 | false=>l.lookup n).map (g n)
   cases hx:n==p.1 with
   | true=>exact beq_iff_eq.mp hx▸rfl|false=>exact ih n
theorem qp(K:Ck):∀(names:List (MJ×OP)) (n:MJ),
 (names.map λ(n,k)=>if (k==N4&&K.scope.kind== .function&&K.scope.names.lookup n==some .cell) then(n,PJ) else(n,k)).lookup n=
   (names.lookup n).map λk=>if (k==N4&&K.scope.kind== .function&&K.scope.names.lookup n==some .cell) then PJ else k:=by
 intro names n;refine Eq.trans (congrArg (QQ n) (Qb λp X=>?_)) (yU (g:=λa k=>if (k==N4&&K.scope.kind== .function&&K.scope.names.lookup a==some .cell) then PJ else k) names n);show(if (p.2==N4&&K.scope.kind== .function&&K.scope.names.lookup p.1==some .cell)=true then(p.1,PJ) else(p.1,p.2))=(p.1,if (p.2==N4&&K.scope.kind== .function&&K.scope.names.lookup p.1==some .cell) then PJ else p.2);split<;>rfl
theorem jW:∀(names:List (MJ×OP)) (acc:List (MJ×Addr)) (f:MJ×OP->List (MJ×Addr)->Sem (ForInStep (List (MJ×Addr)))),
 (∀name kind cs,f (name,kind) cs=if kind== .free then(do let c <-cellOf env name;pure (.yield ((name,c)::cs))) else pure (.yield cs))->
 (∀y∈names,y.2= .free->∃c,env.cells.lookup y.1=some c)->(∀e∈acc,env.cells.lookup e.1=some e.2)->
 ∃cl,(forIn names acc f:Sem _)=pure cl/\(∀e∈cl,env.cells.lookup e.1=some e.2)/\(∀n,(n,N4)∈names->∃c,cl.lookup n=some c)/\∀n,(∃c,acc.lookup n=some c)->∃c,cl.lookup n=some c:=by
 intro names
 induction names with
 | nil=>
   intro acc f _ _ ha;exact d0 acc (by erw[List.forIn_nil]) ha (by simp) (λX h=>h)
 | cons x'9 r jW=>
   obtain⟨name,kind⟩:=x'9;intro acc f hf hy ha
   cases hk:kind==N4 with
   | true=>
     have hk':kind= .free:=by simpa using hk
     exists bx (hy (name,kind) (.head _) hk'),c,hc;refine eB (jW ((name,c)::acc) f hf (λy h=>hy y (.tail _ h)) (λe he=>by
      rcases MW.mp he with rfl | he
      . exact hc
      . exact ha e he)) λcl h1 h2 h3 h4=>?_
     refine(d0 cl ?_ h2 (λn hn=>?_) (λn hn=>h4 n ?_))
     . rw[QF,hf,hk,if_pos rfl]
       have:(cellOf env name:Sem Addr)=pure c:=by unfold cellOf;rw[hc]
       refine this▸?_;erw[pure_bind];exact h1
     . rcases MW.mp hn with e | hn
       . exists bj (Q8 e),rfl,X
         exact h4 n ⟨c,by simp⟩
       . exact h3 n hn
     . exists bx hn,c',hc'
       by_cases e:n=name
       . subst e;exact⟨c,by simp⟩
       . exact⟨c',by erw[Ng,show(n==name)=false from beq_eq_false_iff_ne.mpr e];exact hc'⟩
   | false=>
     exists eB (jW acc f hf (λy h=>hy y (.tail _ h)) ha),cl,h1,h2,h3,h4;refine(d0 cl ?_ h2 (λn hn=>?_) h4)
     . rw[QF,hf,hk,if_neg Np]
       erw[pure_bind];exact h1
     . rcases MW.mp hn with e | hn
       . cases e;exists _
       . exact h3 n hn
section
variable{C:Cx}{V:cV}{h:Heap}{env:Nf}{K:Ck}{O:UG}
theorem jy(ok:eQ K sc t=true)(F:cc C V h env K.names O)(he:env.scope=K.scope)(Kz:∀cl,closureFor sc env=pure cl->((∀e∈cl,env.cells.lookup e.1=some e.2))->(∀n,(n,N4)∈sc.names->∃c,cl.lookup n=some c)->Gz):Gz:=by
 erw[eQ,MY,M8] at ok
 (refine bj ok λt'2 h6=>?_;exists bj t'2,t'3,h5;exists bj t'3,t'4,h4;exists bj t'4,t'5,h3;exists bj t'5,h1,h2)
 obtain⟨cl,e1,e2,e3,_⟩:=jW (env:=env) sc.names [] (λ(x:MJ×OP) cs=>if x.2== .free then(do let c <-cellOf env x.1;pure (.yield ((x.1,c)::cs))) else pure (.yield cs)) (λX X X=>rfl) (λy hy hf=>by
  haveI q:=h6 y hy;rw[hf] at q;erw[bne_self_eq_false,Bool.false_or,MY,QH] at q;haveI hm:y.1∈K.names:=by simpa using q.1
  obtain⟨i,hi,ei⟩:=Sw hm;haveI ei':K.names[i]? =some y.1:=by erw[MX hi,ei]
  refine fx (F.cell i y.1 ei' (by
   unfold NV;refine he▸?_;rcases q.2 with q | q
   . exact .inl (beq_iff_eq.mp q)
   . exact .inr (beq_iff_eq.mp q))) λc X z'0=>bj z'0 λec X=>?_
  exact⟨c,ec⟩) (by simp)
 refine(Kz cl ?_ e2 e3);erw[<-e1];unfold closureFor;erw[bind_pure]
theorem cc.comp{sc:OO}(ok:eQ K sc t=true)(F:cc C V h env K.names O)(he:env.scope=K.scope)
 (hcl:∀e∈cl,env.cells.lookup e.1=some e.2) (hfr:∀n,(n,N4)∈sc.names->∃c,cl.lookup n=some c) (hns:h.Ns D m) (hm:m t=some u) (hu:aB C V h u x) (hoff:hP V D) (h0:C.h0.get? D=none)
 (hD:∀c∈env.cells,c.2≠D):cc C V h (OQ sc cl D env) (K.comp sc t).names (some x::O):=by
 erw[eQ,MY,M8] at ok
 (refine bj ok λt'6 h6=>?_;exists bj t'6,t'7,h5;exists bj t'7,t'8,h4;exists bj t'8,t'9,h3;exists bj t'9,h1,h2)
 have h4:=beq_iff_eq.mp h4;have kof:∀n,(OQ sc cl D env).kindOf n=(sc.names.lookup n).map λk=>if (k==N4&&K.scope.kind== .function&&K.scope.names.lookup n==some .cell) then PJ else k:=λn=>by
  show(relabel sc env).names.lookup n=_
  erw[pW he];exact qp K sc.names n
 have clm:∀e∈cl,e∈env.cells:=λe hm=>bg (hcl e hm);have tn:t∉K.names:=λhm=>by
  have q:=h5 t hm;rw[h4] at q;simp at q
 refine⟨by have:=beq_iff_eq.mp h1;exact this,F.globals,F.builtins,NI.mpr ⟨tn,F.nd⟩,(aE m hns (λi n v e1 e2 e3=>?_)),λi n e1 e2=>?_,⟨hoff,λc hc=>F.off.2 c (clm c hc)⟩,λc hc=>F.there c (clm c hc),
  ⟨λc hc=>hD c (clm c hc),λa b ha a' ha'=>F.apart.2 a b (hcl (a,b) (bg ha)) a' (hcl (a',b) (bg ha'))⟩,⟨h0,λc hc=>F.old.2 c (clm c hc)⟩⟩
 . cases i with
   | zero=>
     erw[Ck.comp,Qt,N9] at e1 e2;subst e1 e2;exact aE u hm hu
   | succ i=>
     erw[Ck.comp,Qu] at e1;have q:=h5 n (M6 e1);rw[kof n] at e3;exists aA (NW.mp e3),k,ek,e3;rw[ek] at q;split at e3
     . exists _
     . subst e3;simp at q
 . cases i with
   | zero=>
     erw[Ck.comp,Qt,N9] at e1;subst e1;erw[kof t,h4] at e2;simp at e2
   | succ i=>
     erw[Ck.comp,Qu] at e1;rw[kof n] at e2;have fr:sc.names.lookup n=some .free:=by
      cases hl:sc.names.lookup n with
      | none=>erw[hl] at e2;simp at e2|some k=>
        have hk:=h2 (n,k) (bg hl);rw[hl] at e2;cases k<;>simp_all
     exists cps,Gz,Kz;exists bx (hfr n (bg fr)),c,ec;have ec':=hcl (n,c) (bg ec);have q:=h6 (n, .free) (bg fr);erw[bne_self_eq_false,Bool.false_or,MY,QH] at q;refine fk (F.cell i n e1 (by
      unfold NV;refine he▸?_;rcases q.2 with q | q
      . exact .inl (beq_iff_eq.mp q)
      . exact .inr (beq_iff_eq.mp q))) λc' ov ec2 hcell hv=>?_
     have ec':env.cells.lookup n=some c:=ec';rw[ec'] at ec2;obtain rfl:=MI ec2;exact Kz (fM c ov ec hcell (λv e=>hv v (by simpa using e)))
end
theorem ue{K:α->aR->Prop}(k:aw (tA m Y) K X):aw (m Y) K X':=by
 unfold tA at k
 cases e:m Y with
 | ok a Y'=>rw[e] at k;exact k|exn q Y'=>rw[e] at k;exact k.elim|bad=>rw[e] at k;exact k.elim
noncomputable def jO(ifs:List ML)(env:Nf):Sem Bool:=
 forIn ifs true λc r=>if r=true then do let ok <-isTrue c env (eval c env);pure (Sj ok) else pure (Sj r)
section
variable{C:Cx}{d:Nat}{K:Ck}{A:Ol}
structure CO(C:Cx)(s:Og)(I D Cad:Addr):Prop where
 hI:s.heap.get? I=none
 hD:s.heap.get? D=none
 hC:s.heap.get? Cad=none
 ID:I≠D
 IC:I≠Cad
 DC:D≠Cad
 oI:C.h0.get? I=none
 oD:C.h0.get? D=none
 oC:C.h0.get? Cad=none
structure CS(C:Cx)(V:cV)(s:Og)(I D Cad:Addr)(V':cV)(s':Og)(Y':aR)(it:It)(acc:List PV)(vs:List Od):Prop where
 st:St C V V' s s' Y'
 it:d8 C V' s'.heap I it
 pl:s'.heap.PlainList D (NX vs)
 vr:aK C V' s'.heap vs acc
 ns:∃m,s'.heap.Ns Cad m
 fI:hP V' I
 fD:hP V' D
 fC:hP V' Cad
section
variable{V V' V2:cV}{s s' s2:Og}{Y' Y2:aR}{I D Cad:Addr}{it it':It}{acc acc':List PV}{vs vs':List Od}{h'':Heap}
theorem CS.step(x:CS C V s I D Cad V' s' Y' it acc vs)(y:St C V' V2 s' s2 Y2):CS C V s I D Cad V2 s2 Y2 it acc vs:=by
 exists cps,Gz,Kz;exists aA x.it.there,oI,gI,X;exists bx (id x.pl),nD,gD;refine bD (id x.ns) λm oC es ep z'0=>bj z'0 λgC r=>?_;exists aA (y.step.stay Cad oC gC x.fC),sl,gC',X;exact Kz (⟨x.st.trans y,x.it.mono y.step.le y.step.tup λo g=>y.step.stay I o g x.fI,Bh x.pl λo g=>y.step.stay D o g x.fD,x.vr.mono y.step.le y.step.tup,(eM m _ es ep (jw gC' r)),y.step.off gI x.fI,y.step.off gD x.fD,y.step.off gC x.fC⟩)
theorem CS.noTup(x:CS C V s I D Cad V' s' Y' it acc vs):∀b,b=I\/b=D\/b=Cad->∀its,¬s'.heap.IsTuple b its:=by
 rintro b (rfl | rfl | rfl) its ⟨o,g,hc,n,hd⟩
 . exists aA x.it.there,X,X,no
   exact no its (ki o g hc n hd)
 . exists bx x.pl,n,e
   obtain rfl:=MI (e.symm.trans g);exact absurd (Value.type.inj hc) %[|1]
 . refine bD x.ns λX o' es ep z'0=>fE z'0 λg' hd' X=>?_
   obtain rfl:=MI (g'.symm.trans g);cases hd'.symm.trans hd
def lR(I D Cad:Addr)(h h'':Heap):Prop:=∀b o,¬(b=I\/b=D\/b=Cad)->h.get? b=some o->h''.get? b=some o
theorem CS.tup(x:CS C V s I D Cad V' s' Y' it acc vs)(kb:lR I D Cad s'.heap h''):bo s'.heap h'':=λa its ⟨o,g,r⟩=>⟨o,kb a o (λz=>x.noTup a z its ⟨o,g,r⟩) g,r⟩
theorem CS.off(x:CS C V s I D Cad V' s' Y' it acc vs)(o:CO C s I D Cad)(kb:lR I D Cad s'.heap h''):St C V V' s {s' with heap:=h'',toks:=t} Y':=
 x.st.off (λb=>b=I\/b=D\/b=Cad) (λb hb=>(eK (by rcases hb with rfl | rfl | rfl<;>first | exact o.hI | exact o.hD | exact o.hC) (by rcases hb with rfl | rfl | rfl<;>first | exact x.fI | exact x.fD | exact x.fC) (by rcases hb with rfl | rfl | rfl<;>first | exact o.oI | exact o.oD | exact o.oC) (x.noTup b hb))) kb
theorem CS.turn(x:CS C V s I D Cad V' s' Y' it acc vs)(o:CO C s I D Cad)(kb:lR I D Cad s'.heap h'')(jt:d8 C V' h'' I it')(hpl:h''.PlainList D (NX vs'))(hns:∃m,h''.Ns Cad m)(hvr:aK C V' s'.heap vs' acc'):
 CS C V s I D Cad V' {s' with heap:=h'',toks:=t} Y' it' acc' vs':=⟨x.off o kb,jt,hpl,hvr.mono (.refl V') (x.tup kb),hns,x.fI,x.fD,x.fC⟩
end
def HJ(C:Cx)(V:cV)(s:Og)(I D Cad:Addr)(O:UG)(me:UG->M PV)(mc:UG->M Bool)(KK:List PV->aR->Prop)(X:PV->aR->Prop)(n:Nat)(s':Og):Prop:=
 ∃V' Y' it acc vs,CS C V s I D Cad V' s' Y' it acc vs/\acc.length<=4000/\aw (jG (λx=>tA (me (some x::O))) (λx=>tA (mc (some x::O))) n it acc Y') KK X
theorem Bm{eltX iter:ML}
 (Se:br C d (K.comp sc t) (aW C) me (eval eltX)) (Sc:br C d (K.comp sc t) gk mc (jO ifs)) (okc:eQ K sc t=true) (ok:Ok C A d V Y₀ s) (F:cc C V s.heap env K.names O) (he:env.scope=K.scope)
 (hcl:∀e∈cl,env.cells.lookup e.1=some e.2) (hfr:∀n,(n,N4)∈sc.names->∃c,cl.lookup n=some c) (Oq0:CO C s I D Cad)
 {KK:List PV->aR->Prop} (fin:∀s' V' Y' vs xs m,St C V V' s s' Y'->s'.heap.PlainList D (NX vs)->aK C V' s'.heap vs xs->xs.length<=4000->s'.heap.Ns Cad m->hP V' D->hP V' Cad->KK xs Y'->R (.ok .next) s') (n:Nat) (s1:Og) (k:HJ C V s I D Cad O me mc KK X n s1):
 codeAny (model C.prog C.w) A (.compLoop (.ListComp eltX [⟨.Name t px,iter,ifs,0⟩] sc pos) 0 (.ref I) (.ref D) (OQ sc cl Cad env)) R s1:=by
 have k4:sc.names.lookup t=some .local:=by
  have:=okc;erw[eQ,MY] at this;exact beq_iff_eq.mp this.1.1.2
 have k1:(OQ sc cl Cad env).scope.kind= .function:=by
  have:=okc;erw[eQ,MY] at this;exact beq_iff_eq.mp this.1.1.1.1.1
 have hpp:((OQ sc cl Cad env).scope.kind== .class||((OQ sc cl Cad env).scope.kind== .module&&(OQ sc cl Cad env).locals != (OQ sc cl Cad env).globals))=false:=by refine k1▸?_;rfl
 have hcells:∀c∈env.cells,c.2≠Cad:=λc hc e=>by
  exists bx (F.there c hc),o,g;erw[e,Oq0.hC] at g;exists _
 have he2:(OQ sc cl Cad env).scope=(K.comp sc t).scope:=pW he sc;refine codeAny_compLoop_tests (HJ C V s I D Cad O me mc KK X) ?_ n k;clear k;rintro n s' ⟨V',Y',it,acc,vs,x,h5,k⟩
 cases n with
 | zero=>exact k.elim|succ f=>
 rcases sH ok.room.handled x.st.rel x.it (ay k) with ⟨y,it',kx,hnext⟩ | ⟨kx,hnext⟩
 . clear k
   exists hnext _ _,v,h',tk,rv,jt,eb;exists bx x.ns,m,hm;have h6':h'.Ns Cad m:=by exists dZ hm,o,es,ep,g,r;exact iJ o es ep (eb Cad o (Ni Oq0.IC) g) r
   refine OR (OS (show(OQ sc cl Cad env).kindOf t=some .local from lookup_relabel_local k4) h6' (λh'' hns hsb=>?_) hpp);have kb:lR I D Cad s'.heap h'':=λb o hb e=>(hsb.2 b λz=>hb (.inr (.inr z))).trans (eb b o (λz=>hb (.inl z)) e);have t3:bo h' h'':=cy (I:=Cad) (λits ⟨o,g,_,n,hd⟩=>by
    exists fF h6',o',es,ep,g',hd',B;obtain rfl:=MI (g'.symm.trans g)
    cases hd'.symm.trans hd) λb o hb e=>(hsb.2 b hb).trans e
   have x2:=x.turn (t:=tk+1) Oq0 kb (jt.mono (.refl V') t3 λo g=> .of ((hsb.2 I Oq0.IC).trans g)) (x.pl.at λo g=>(hsb.2 D Oq0.DC).trans (eb D o (Ni Oq0.ID) g)) ⟨_,hns⟩ x.vr;have ok2:=ok.step x2.st;have F2:cc C V' h'' (OQ sc cl Cad env) (K.comp sc t).names (some y::O):=cc.comp okc (F.step x2.st.step) he hcl hfr hns (if_pos rfl) (rv.mono (.refl V') t3) x.fC Oq0.oC hcells;refine Sc V' _ Y' (some y::O) (OQ sc cl Cad env) A _ _ ok2 F2 he2 (aw.mono (ue (X':=λB B=>False) (ay kx)) (λb Y3 kb3=>?_) λB B z=>z.elim);rintro b' s3 V3 S3 rfl;have x3:=x2.step S3
   cases b' with
   | false=>exact(ny f (jw (NU f) (eM V3 Y3 it' acc (ny vs (dq x3 h5 kb3)))))|true=>
     refine Se V3 _ Y3 (some y::O) (OQ sc cl Cad env) A _ _ (ok2.step S3) (F2.step S3.step) he2 (aw.mono (ue (X':=λB B=>False) (ay kb3)) (λy Y4 kb4=>?_) λB B z=>z.elim);intro v4 s4 V4 S4 r4;have x4:=x3.step S4;split at kb4
     case isFalse=>exact kb4.elim
     rename_i hf;refine wpAny_list_append_plain x4.pl (λh5' hl5 hs5=>?_) (by erw[M1,x4.vr.length];exact b5 (MO h5 %[|1]));have kb5:lR I D Cad s4.heap h5':=λb o hb e=>(hs5.2 b λz=>hb (.inr (.inl z))).trans e;refine bD x4.ns λm4 o es ep z'0=>bj z'0 λg r=>?_;exact(ny f (jw (NU f) (eM V4 Y4 it' (acc++[y]) (ny (vs++[v4]) (dq (x4.turn (t:=s4.toks) Oq0 kb5 (x4.it.mono (.refl V4) (x4.tup kb5) λo g=> .of ((hs5.2 I Oq0.ID).trans g)) (by rw[<-List.push_toArray];exact hl5) (eM m4 o es ep (jw ((hs5.2 Cad (Ni Oq0.DC)).trans g) r)) (x4.vr.append (.cons r4 .nil))) (by rw[MH];exact(eX hf)) kb4)))))
 . exists hnext _ _,h',eb
   have kb:lR I D Cad s'.heap h':=λb o hb e=>eb b o (λz=>hb (.inl z)) e;refine bD (id x.ns) λm o es ep z'0=>bj z'0 λg r=>?_;exact fin _ V' Y' vs acc m (x.off (t:=s'.toks) Oq0 kb) (x.pl.at λo g=>eb D o (Ni Oq0.ID) g) (x.vr.mono (.refl V') (x.tup kb)) h5 (iJ o es ep (eb Cad o (Ni Oq0.IC) g) r) x.fD x.fC kx
end
def KI(C:Cx)(V:cV)(s:Og)(Q:Od->Og->Prop)(p:It×Nat)(Y':aR):Prop:=
 ∀s1 V1 I h' tk,St C V V1 s s1 Y'->(∀b o,s1.heap.get? b=some o->h'.get? b=some o)->s1.heap.get? I=none->d8 C V1 h' I p.1->Q (.ref I) {s1 with heap:=h',toks:=tk}
def nN(C:Cx)(d:Nat)(K:Ck)(m:UG->M (It×Nat))(iterX:ML):Prop:=
 ∀(V:cV) (s:Og) (Y:aR) (O:UG) (env:Nf) (A:Ol) (Q E:Od->Og->Prop),Ok C A d V Y s->cc C V s.heap env K.names O->env.scope=K.scope->
  aw (m O Y) (KI C V s Q) (XK C A V s E)->Oo (model C.prog C.w) A (eval iterX env) (λx s'=>Oo (model C.prog C.w) A (pyIter x) Q E s') E s
section
variable{C:Cx}{d:Nat}{K:Ck}{A:Ol}
theorem St.enterAt(x:St C V V1 s s1 Y1)(hD:s.heap.get? D=none)(off:hP V1 D)(oD:C.h0.get? D=none)(there:∃ob,s1.heap.get? D=some ob)
 (ho:pG C (V1++[(D,D)]) s1.heap (D,D) o):St C V (V1++[(D,D)]) s s1 (Y1++[o]):=by
 have R:=x.rel;have le:=d2.append V1 [(D,D)];have fresh:∀q∈V1,wV q (D,D):=λq hq=>(eK (λz=>(off q hq).1 z.symm) (λz=>(off q hq).1 z.symm) (λz=>(off q hq).2 z.symm) (λz=>(off q hq).2 z.symm));refine⟨⟨x.step.le.trans le,x.step.stay,λp hp=>?_,x.step.tup,x.step.there⟩,⟨by simp [R.len],λm om em=>?_,λi j a b ei ej ne=>?_,λq hq=>?_,λq hq=>?_,R.keep⟩,x.sh⟩
 . rcases M5.mp hp with h | h
   . exact x.step.new p h
   . rw[No] at h;subst h;exact .inr ⟨hD,hD⟩
 . rcases PN m Y1.length with hm | hm
   . rw[Nc hm] at em
     exists aA (R.obj m om em),q,eq,r;exact aE q (le m q eq) (r.mono le (.refl _) (λX e=>e) λX e=>e)
   . rw[Nh hm] at em
     have hm':m=Y1.length:=by
      have:=(M4.mp em).1;simp at this;lia
     subst hm';simp at em;subst em;refine(aE (D,D) ?_ ho);erw[Nh (by rw[R.len];exact MZ _),R.len,Pk];rfl
 . have hin:∀{i:Nat} {a:Addr×Addr},(V1++[(D,D)])[i]? =some a->V1[i]? =some a\/(i=V1.length/\a=(D,D)):=λ{i a} e=>by
    exists N0 (PN i V1.length) (λhi=>?_),hi
    . rw[Nc hi] at e;exact .inl e
    . rw[Nh hi] at e
      have:=(M4.mp e).1;have hi':i=V1.length:=by simp at this;lia
      subst hi';simp at e;exact .inr ⟨rfl,e.symm⟩
   rcases hin ei with h1 | ⟨h1,rfl⟩<;>rcases hin ej with h2 | ⟨h2,rfl⟩
   . exact R.apart i j a b h1 h2 ne
   . exact fresh a (M6 h1)
   . have f:=fresh b (M6 h2)
     exact eK (Ni f.1) (Ni f.2.2.1) (Ni f.2.1) (Ni f.2.2.2)
   . lia
 . rcases M5.mp hq with hq | hq
   . exact R.old q hq
   . rw[No] at hq;subst hq;exact⟨oD,oD⟩
 . rcases M5.mp hq with hq | hq
   . exact R.there q hq
   . rw[No] at hq;subst hq;exact⟨there,there⟩
theorem dC(R:cD C V Y h)(hb:h.get? b=none):hP V b/\C.h0.get? b=none:=by
 refine⟨λp hp=>?_,?_⟩
 . (refine vi (R.there p hp) λt'1 o2 g2=>?_;exists bx t'1,o1,g1)
   exact⟨λe=>(by rw[e,g1] at hb;exists _),λe=>(by rw[e,g2] at hb;exists _)⟩
 . cases e:C.h0.get? b with
   | none=>rfl|some o=>rw[R.keep _ _ e] at hb;cases hb
theorem St.fresh(x:St C V V1 s s1 Y1)(hb:s1.heap.get? b=none):s.heap.get? b=none:=by
 cases e:s.heap.get? b with
 | none=>rfl|some o=>exists bx (x.step.there b o e),o',g;rw[hb] at g;exists _
theorem wG
 (Si:nN C d K mi iterX) (Se:br C d (K.comp sc t) (aW C) me (eval eltX)) (Sc:br C d (K.comp sc t) gk mc (jO ifs)) (okc:eQ K sc t=true) (ok:Ok C A d V Y₀ s) (F:cc C V s.heap env K.names O)
 (he:env.scope=K.scope) (hcl:∀e∈cl,env.cells.lookup e.1=some e.2) (hfr:∀n,(n,N4)∈sc.names->∃c,cl.lookup n=some c)
 {RR:Od->Addr->Result->Og->Prop} {KK:List PV->aR->Prop} {E:Od->Og->Prop}
 (fin:∀s' V' Y' D Cad vs xs m,St C V V' s s' Y'->s.heap.get? D=none->s.heap.get? Cad=none->D≠Cad->C.h0.get? D=none->C.h0.get? Cad=none->s'.heap.PlainList D (NX vs)->aK C V' s'.heap vs xs->xs.length<=4000->s'.heap.Ns Cad m->
   hP V' D->hP V' Cad->KK xs Y'->RR (.ref D) Cad (.ok .next) s')
 (k:aw (((mi O).bnd λp=>jG (λx=>tA (me (some x::O))) (λx=>tA (mc (some x::O))) (p.2+1) p.1 []) Y₀) KK (XK C A V s E)):
 Oo (model C.prog C.w) A (eval iterX env) (λx s₁=>Oo (model C.prog C.w) A (pyIter x) (λit s₂=>Oo (model C.prog C.w) A (newList []) (λacc s₃=>
  Oo (model C.prog C.w) A (newFunctionEnv sc env.globals cl [] env.qual none .none (some env)) (λcenv s₄=>
   codeAny (model C.prog C.w) A (.compStart (.ListComp eltX [⟨.Name t px,iterX,ifs,0⟩] sc pos) 0 it acc {cenv with scope:=relabel sc env}) (RR acc cenv.locals) s₄) E s₃) E s₂) E s₁) E s:=by
 have okc':=okc;erw[eQ,MY,M8] at okc'
 (refine bj okc' λt'2 k6=>?_;exists bj t'2,t'3,k5;exists bj t'3,t'4,k4;exists bj t'4,t'5,k3;exists bj t'5,k1,k2)
 refine Si V s Y₀ O env A _ E ok F he (aw.mono (ay k) (λp Y1 kk=>?_) λB B z=>z);intro s1 V1 I h1 tk S1 kI hI itr;refine OT (wpAny_newFunctionEnv (λy hy=>by simpa using k2 y hy) (by intro y hy;simp at hy) (λh2 hns hsb=>?_) (beq_iff_eq.mp k1));dsimp only at hns hsb ⊢;generalize hH:h1.push {cls:= .type "list",dict:=none,data:= .seq ([]:List Od).toArray}=H at hns hsb ⊢;have hCsz:H.objs.size=h1.objs.size+1:=by erw[<-hH,Ry]
 have none1:∀b,h1.objs.size<=b->s1.heap.get? b=none:=λb hb=>by
  cases e:s1.heap.get? b with
  | none=>rfl|some o=>exact absurd (NY (kI b o e)) (PY.mpr hb)
 have hD1:=none1 h1.objs.size (MZ _);have hC1:=none1 H.objs.size (by erw[hCsz];exact QT _);have ltI:I<h1.objs.size:=by exists aA itr.there,o,g,B;exact NY g
 have hID:I≠h1.objs.size:=Pe ltI;have hIC:I≠H.objs.size:=by erw[hCsz];exact Pe (Tg ltI)
 have hDC:h1.objs.size≠H.objs.size:=by erw[hCsz];exact Pe (NU _)
 have old:∀b o,h1.get? b=some o->h2.get? b=some o:=λb o e=>hsb.extBut b o (by have:=NY e;erw[hCsz];exact Pe (Tg this)) (Nj _ (hH▸Nj _ e));have hacc:h2.PlainList h1.objs.size #[]:=⟨_,hsb.extBut _ _ hDC (Nj _ (hH▸NF _ rfl))⟩;have S2:St C V1 V1 s1 {s1 with heap:=h2,toks:=tk+([]:List (MJ×Od)).length} Y1:=St.keeps S1.rel λb o e=>old b o (kI b o e);have itr2:d8 C V1 h2 I p.1:=itr.mono (.refl V1) (.of_keep old) (λo g=> .of (old I o g));have loop:codeAny (model C.prog C.w) A (.compLoop (.ListComp eltX [⟨.Name t px,iterX,ifs,0⟩] sc pos) 0 (.ref I) (.ref h1.objs.size) (OQ sc cl H.objs.size env)) (RR (.ref h1.objs.size) H.objs.size)
  {s1 with heap:=h2,toks:=tk+([]:List (MJ×Od)).length}:=by
  refine Bm Se Sc okc (show Ok C A d V1 Y1 s1 from ok.step S1) (F.step S1.step) he hcl hfr ⟨hI,hD1,hC1,hID,hIC,hDC,(dC S1.rel hI).2,(dC S1.rel hD1).2,(dC S1.rel hC1).2⟩ (R:=RR (.ref h1.objs.size) H.objs.size) (KK:=KK) (X:=XK C A V s E) ?_ (p.2+1) _
   (eM V1 Y1 p.1 ([]) (ny ([]) (dq (⟨S2,itr2,hacc, .nil,⟨_,hns⟩,(dC S1.rel hI).1,(dC S1.rel hD1).1,(dC S1.rel hC1).1⟩) (Pm _) kk)))
  intro s' V' Y' vs xs m h1' h2' h3' h4' h5' h6' h7' h8';exact fin s' V' Y' _ _ vs xs m (S1.trans h1') (S1.fresh hD1) (S1.fresh hC1) hDC (dC S1.rel hD1).2 (dC S1.rel hC1).2 h2' h3' h4' h5' h6' h7' h8'
 refine codeAny_compStart_list loop ?_;exact yJ (C:=C) (V:=V1) (s:={s1 with heap:=h2,toks:=tk+([]:List (MJ×Od)).length}) itr2 loop
theorem yY
 (Si:nN C d K mi iterX) (Se:br C d (K.comp sc t) (aW C) me (eval eltX)) (Sc:br C d (K.comp sc t) gk mc (jO ifs)) (okc:eQ K sc t=true)
 (hfs:∀env x,OU iterX env x=pure x):
 br C d K (aW C) (λO=>((mi O).bnd λp=>jG (λx=>tA (me (some x::O))) (λx=>tA (mc (some x::O))) (p.2+1) p.1 []).bnd λxs=>dB (.list xs)) (eval (.ListComp eltX [⟨.Name t px,iterX,ifs,0⟩] sc pos)):=by
 intro V s Y O env A Q E ok F he k;have okc':=okc;erw[eQ,MY,M8] at okc'
 (refine bj okc' λt'6 k6=>?_;exists bj t'6,t'7,k5;exists bj t'7,t'8,k4;exists bj t'8,t'9,k3;exists bj t'9,k1,k2)
 exists jy okc F he,cl,ecl,hcl,hfr;erw[eval_ListComp];refine OV (use:=none) rfl (hfs env) ecl (beq_iff_eq.mp k1) (λx hx hl=>by
  have:=k3 x hx;rw[hl] at this
  simpa using this) ?_
 refine wG (RR:=λacc C'=>compPost (model C.prog C.w) A E none Q acc C') Si Se Sc okc ok F he hcl hfr ?_ (ay k);intro s' V' Y' D Cad vs xs m h1 hD hC hDC oD oC h2 h3 h4 h5 h6 h7 h8;refine(aE m h5 (λh'' hs=>?_));have noC:∀its,¬s'.heap.IsTuple Cad its:=λits ⟨o,g,_,n,hd⟩=>by
  exists fF h5,o',es,ep,g',hd',X;rw[g'] at g;obtain rfl:=MI g;rw[hd'] at hd;exists _
 have kb:∀b o,¬b=Cad->s'.heap.get? b=some o->h''.get? b=some o:=λb o hb e=>(hs.2 b hb).trans e;have S2:St C V V' s {s' with heap:=h'',toks:=s'.toks} Y':=h1.off (λb=>b=Cad) (λb hb=>by subst hb;exact(eK hC h7 oC noC)) kb;exists bx h2,n,gD;have gD2:=kb D _ hDC gD;have S3:=S2.enterAt (o:= .list xs) hD h6 oD ⟨_,gD2⟩ (dq rfl h4 (gQ vs n (jw gD2 (h3.mono (d2.append _ _) (cy noC kb)))));exact h8 (.ref D) _ _ S3 (.ref (iP S2.rel _))
end
structure uE where
 fn:List Nat
 cls:List Nat
 glo:List Nat
noncomputable def TT:uE:=⟨qA,xj,n7⟩
structure lW(C:Cx)(P:J2)(TT:uE):Prop where
 lim:C.h0.NoLimit
 sys:∃o,C.h0.get? Oe=some o
 gl:∃mg,C.h0.Ns Oi mg/\(∀i n,TT.fn[i]? =some n->mg (ch n)=some (.ref (C.fa i)))/\(∀i n,TT.cls[i]? =some n->mg (ch n)=some (.ref (C.ca i)))/\
  (∀i n,TT.glo[i]? =some n->∃v,mg (ch n)=some v/\aB C [] C.h0 v (P.glo i))/\mg "len"=none/\mg "range"=none/\mg "bytes"=none/\mg "tuple"=none/\mg "dict"=none
 bl:∃mb,C.h0.Ns Oj mb/\mb "len"=some (.builtin "len")/\mb "range"=some (.type "range")/\mb "bytes"=some (.type "bytes")/\mb "tuple"=some (.type "tuple")/\mb "dict"=some (.type "dict")
 cls:∀c,zW C c (C.fa (P.init c))
 fns:∀i,∃o fd,C.h0.get? (C.fa i)=some o/\o.data= .func fd/\o.cls= .type "function"
def d5(C:Cx)(call:db)(d:Nat):Prop:=
 ∀(V:cV) (s:Og) (Y:aR) (A:Ol) (Q E:Od->Og->Prop) (f:Nat) (xs:List PV) (vs:List Od),qh A d->cD C V Y s.heap->FF C A V s.heap->aK C V s.heap vs xs->
  aw (call f xs Y) (KV C V s Q) (XK C A V s E)->Oo (model C.prog C.w) A (Q0 (.ref (C.fa f)) vs) Q E s
section
variable{C:Cx}{d:Nat}{K:Ck}
theorem Dg:br C d K (aW C) (λX=>ret T6) (eval (.Constant .none k pos)):=λX X X X X X X X ok X X k=>wpAny_Constant_none (KV.same ok.rel .none k)
theorem wx:br C d K (aW C) (λX=>ret (TL b)) (eval (.Constant (.bool b) k pos)):=λX X X X X X X X ok X X k=>wpAny_Constant_bool (KV.same ok.rel (.bool b) k)
theorem GK:br C d K (aW C) (λX=>ret (TF i)) (eval (.Constant (.int i) k pos)):=λX X X X X X X X ok X X k=>OW (KV.toks ok.rel (.int i _) k)
theorem GI(hn:(gf n).length<=4000):br C d K (aW C) (λX=>ret (TN n)) (eval (.Constant (.str (ch n)) k pos)):=λX X X X X X X X ok X X k=>wpAny_Constant_str (KV.toks ok.rel (.str n _ hn) k)
theorem Bb(h1:∀x∈l,x<256)(h2:l.length<=8000):br C d K (aW C) (λX=>ret (PV.bytes l)) (eval (.Constant (.bytes (l.map Nu)) k pos)):=
 λX X X X X X X X ok X X k=>PySem.W.Constant_bytes (KV.toks ok.rel (.bytes l _ h1 h2) k)
noncomputable def bz(K:Ck)(n:MJ):Bool:=match K.scope.names.lookup n with
 | some .local=>true|some .cell=>true|some .free=> !(n==("__classdict__":MJ))
 | _=>false
theorem lQ{O:UG}{i:Nat}(h:(O[i]?).join=some v):O[i]? =some (some v):=by
 cases e:O[i]? with
 | none=>rw[e] at h;exists _|some o=>rw[e] at h;exact congrArg some h
theorem on{i:Nat}{id:MJ}(hi:K.names[i]? =some id)(hk:bz K id=true)(F:cc C V s.heap env K.names O)(he:env.scope=K.scope)(hv:O[i]? =some (some v))(Kz:∀u,aB C V s.heap u v->(∀(Q E:Od->Og->Prop),Q u s->Oo (model C.prog C.w) A (loadName env id) Q E s)->Gz):Gz:=by
 have hkof:env.kindOf id=K.scope.names.lookup id:=by unfold NV;rw[he]
 unfold bz at hk;split at hk
 . rename_i e
   exists aA F.ns,m,hns,hm;exists aA (hm i id v hi hv (hkof.trans e)),u,hu,ru;exact Kz u ru (λQ E hQ=>OX F.kind (hkof.trans e) hns hu hQ)
 . rename_i e
   exists fk (F.cell i id hi (.inl (hkof.trans e))),c,ov,ec,hc,hm;exists aA (hm v hv),u,rfl,ru;exact Kz u ru (λQ E hQ=>wpAny_loadName_cell F.kind (hkof.trans e) ec hc hQ)
 . rename_i e
   exists fk (F.cell i id hi (.inr (hkof.trans e))),c,ov,ec,hc,hm;exists aA (hm v hv),u,rfl,ru;exact Kz u ru (λQ E hQ=>wpAny_loadName_free F.kind (hkof.trans e) ec hc hQ (by simpa using hk))
 . cases hk
theorem xz{i:Nat}{id:MJ}(hi:K.names[i]? =some id)(hk:bz K id=true):
 br C d K (aW C) (λO=>aZ ((O[i]?).join)) (λenv=>loadName env id):=by
 intro V s Y O env A Q E ok F he k;exists bp k,v,ev,k;exists on (A:=A) hi hk F he (lQ ev),u,ru,h;exact h _ _ (KV.same ok.rel ru k)
theorem eZ{j:Nat}{id:MJ}(hi:K.names[j]? =some id)(hk:bz K id=true)(hd:(id==("__debug__":MJ))=false)(F:cc C V s.heap env K.names O)(he:env.scope=K.scope)
 (hv:O[j]? =some (some v))  (Kz:(∀u,aB C V s.heap u v->(∀(Q E:Od->Og->Prop),Q u s->Oo (model C.prog C.w) A (eval (.Name id p) env) Q E s)->Gz)):Gz:=
 on (A:=A) hi hk F he hv λu ru h=>Kz u ru λQ E hQ=>OY (h Q E hQ) hd
theorem zU{i:Nat}{id:MJ}(hi:K.names[i]? =some id)(hk:bz K id=true)(hd:(id==("__debug__":MJ))=false):
 br C d K (aW C) (λO=>aZ ((O[i]?).join)) (eval (.Name id pos)):=λV s Y O env A Q E ok F he k=>OY (xz hi hk V s Y O env A Q E ok F he k) hd
noncomputable def bb(K:Ck)(n:MJ):Bool:=K.scope.names.lookup n==some .globalImplicit&& !(n==("__debug__":MJ))
theorem iA{id:MJ}{Q E:Od->Og->Prop}(hk:bb K id=true)(R:cD C V Y s.heap)(F:cc C V s.heap env K.names O)
 (he:env.scope=K.scope) (hg:C.h0.Ns Oi mg) (hv:mg id=some v) (h:Q v s):Oo (model C.prog C.w) A (eval (.Name id pos) env) Q E s:=by
 erw[bb,MY] at hk;refine Name_function_global F.kind (by unfold NV;refine he▸?_;exact(beq_iff_eq.mp hk.1)) (loadGlobal_global (mg:=mg) ?_ hv h) (by simpa using hk.2);refine F.globals▸?_;exact hg.keeps R.keep
theorem kA{id:MJ}{Q E:Od->Og->Prop}(hk:bb K id=true)(R:cD C V Y s.heap)(F:cc C V s.heap env K.names O)
 (he:env.scope=K.scope) (hg:C.h0.Ns Oi mg) (hmiss:mg id=none) (hb:C.h0.Ns Oj mb) (hv:mb id=some v) (h:Q v s):Oo (model C.prog C.w) A (eval (.Name id pos) env) Q E s:=by
 erw[bb,MY] at hk;refine Name_function_global F.kind (by unfold NV;refine he▸?_;exact(beq_iff_eq.mp hk.1)) (loadGlobal_builtin (mg:=mg) (mb:=mb) ?_ hmiss ?_ hv h) (by simpa using hk.2)
 . refine F.globals▸?_;exact hg.keeps R.keep
 . refine F.builtins▸?_;exact hb.keeps R.keep
theorem Hg(G:lW C P TT)(hn:TT.fn[i]? =some n)(hk:bb K (ch n)=true):br C d K (aW C) (λX=>ret (PV.fn i)) (eval (.Name (ch n) pos)):=by
 intro V s Y O env A Q E ok F he k;exists cF G.gl,mg,hg,h1,X;exact iA hk ok.rel F he hg (h1 i n hn) (KV.same ok.rel (.fn i) k)
theorem GX(G:lW C P TT)(hn:TT.glo[i]? =some n)(hk:bb K (ch n)=true):br C d K (aW C) (λX=>ret (P.glo i)) (eval (.Name (ch n) pos)):=by
 intro V s Y O env A Q E ok F he k;refine bx G.gl λmg z'0=>bh z'0 λhg X X h1 X=>?_;exists aA (h1 i n hn),v,hv,rv;exact iA hk ok.rel F he hg hv (KV.same ok.rel (rv.mono (λn p e=>by exists _) (.of_keep ok.rel.keep)) k)
theorem GQ(Sa:br C d K (aW C) ma (eval x)):
 br C d K (aW C) (λO=>(ma O).bnd λv=>need (fU v) λi=>ret (.int (-i))) (eval (.UnaryOp .USub x pos)):=by
 intro V s Y O env A Q E ok F he k;refine UnaryOp_ (Sa.seq ok F he k λv a s1 V1 Y1 ok1 F1 ra st1 k1=>?_);exists ak k1,i,e,k1;exists bF (e▸ra),t,rfl;exact Qn (KV.toks ok1.rel (.int _ _) k1)
theorem Fi(Sa:br C d K (aW C) ma (eval x)):
 br C d K (aW C) (λO=>(ma O).bnd λv=>(bW v).bnd λb=>ret (.bool (!b))) (eval (.UnaryOp .Not x pos)):=by
 intro V s Y O env A Q E ok F he k;refine UnaryOp_ (Sa.seq ok F he k λv a s1 V1 Y1 ok1 F1 ra st1 k1=>?_);exists eH ra (ay k1),b,rfl,rfl,k2;exact not_of (Oy (KV.same ok1.rel (.bool _) k2))
theorem Gx(Sa:br C d K (aW C) ma (eval l))(Sb:br C d K (aW C) mb (eval r)):
 br C d K (aW C) (λO=>(ma O).bnd λx=>(mb O).bnd λy=>bS op x y) (eval (.BinOp l (j5 op) r pos)):=by
 intro V s Y O env A Q E ok F he k;exact wpAny_BinOp (Sa.seq ok F he k λx a s1 V1 Y1 ok1 F1 ra st1 k1=>Sb.seq ok1 F1 he k1 λy b s2 V2 Y2 ok2 F2 rb st2 k2=>xJ ok2.rel (ra.mono st2.step.le st2.step.tup) rb k2)
theorem Ge(hs:∃o,C.h0.get? Oe=some o)(Sa:br C d K (aW C) ma (eval l))(Sb:br C d K (aW C) mb (eval r))(hm:behindInMarks (tf op) r=false):
 br C d K (aW C) (λO=>(ma O).bnd λx=>(mb O).bnd λy=>b8 op x y) (eval (.Compare l [tf op] [r] pos)):=by
 intro V s Y O env A Q E ok F he k;exact wpAny_Compare1 (Sa.seq ok F he k λx a s1 V1 Y1 ok1 F1 ra st1 k1=>Sb.seq ok1 F1 he k1 λy b s2 V2 Y2 ok2 F2 rb st2 k2=>pL hs ok2.room.room ok2.rel (ra.mono st2.step.le st2.step.tup) rb k2) hm
theorem y9(Sa:br C d K (aW C) ma (eval x))(hx:∀env,isTrue x env (eval x env)=(do let v <-eval x env;OZ x.pos;O3 [v] (truthy v))):
 br C d K gk (λO=>(ma O).bnd λv=>bW v) (λenv=>isTrue x env (eval x env)):=by
 intro V s Y O env A Q E ok F he k;refine isTrue_plain (Sa.seq ok F he k λv a s1 V1 Y1 ok1 F1 ra st1 k1=>?_) (hx env);exists eH ra k1,b,rfl,rfl,k2;exact Oy (k2 b _ V1 (St.refl ok1.rel) rfl)
theorem EA(hs:∃o,C.h0.get? Oe=some o)(Sa:br C d K (aW C) ma (eval l))(Sb:br C d K (aW C) mb (eval r))(hm:behindInMarks (tf op) r=false):
 br C d K gk (λO=>((ma O).bnd λx=>(mb O).bnd λy=>b8 op x y).bnd λv=>bW v) (λenv=>isTrue (.Compare l [tf op] [r] pos) env (eval (.Compare l [tf op] [r] pos) env)):=by
 intro V s Y O env A Q E ok F he k;haveI k':aw (((ma O).bnd λx=>(mb O).bnd λy=>(b8 op x y).bnd λv=>bW v) Y) (KG C V s gk Q) (XK C A V s E):=by
  haveI e:(((ma O).bnd λx=>(mb O).bnd λy=>b8 op x y).bnd λv=>bW v)=((ma O).bnd λx=>(mb O).bnd λy=>(b8 op x y).bnd λv=>bW v):=by
   funext Y
   unfold M.bnd
   cases ma O Y with
   | ok x Y=>dsimp only;cases mb O Y<;>rfl
   | exn=>rfl|bad=>rfl
  refine e▸?_;exact k
 refine wpAny_isTrue_Compare1 (Sa.seq ok F he k' λx a s1 V1 Y1 ok1 F1 ra st1 k1=>Sb.seq ok1 F1 he k1 λy b s2 V2 Y2 ok2 F2 rb st2 k2=>?_) hm;refine pL (X:=XK C A V2 s2 E) hs ok2.room.room ok2.rel (ra.mono st2.step.le st2.step.tup) rb (aw.mono (ay k2) (λv Y3 k3 v' s3 V3 st3 r3=>?_) λB B z=>z);exists eH r3 k3,b,rfl,rfl,k4;exact Oy (k4 b _ V3 st3 rfl)
theorem Db{ma:UG->M PV}(Sa:br C d K gk (λO=>(ma O).bnd λv=>bW v) (λenv=>isTrue x env (eval x env))):
 br C d K gk (λO=>((ma O).bnd λv=>(bW v).bnd λb=>ret (.bool (!b))).bnd λv=>bW v) (λenv=>isTrue (.UnaryOp .Not x pos) env (eval (.UnaryOp .Not x pos) env)):=by
 intro V s Y O env A Q E ok F he k;haveI e:(((ma O).bnd λv=>(bW v).bnd λb=>ret (.bool (!b))).bnd λv=>bW v)=(((ma O).bnd λv=>bW v).bnd λb=>ret (!b)):=by
  funext Y
  unfold M.bnd
  cases ma O Y with
  | ok x Y=>cases x<;>rfl
  | exn=>rfl|bad=>rfl
 dsimp only at k;rw[e] at k;exact isTrue_not (Sa.seq ok F he k λb a s1 V1 Y1 ok1 F1 ra st1 k1=>k1 _ _ V1 (St.refl ok1.rel) (by subst ra;rfl))
theorem zL{mc:UG->M PV}{t:Nf->Sem α}(Sc:br C d K gk (λO=>(mc O).bnd λv=>bW v) (λenv=>isTrue x env (eval x env)))
 (Sa:br C d K rep ma ta) (Sb:br C d K rep mb tb)
 (ht:∀(env:Nf) (A:Ol) (Q:α->Og->Prop) (E:Od->Og->Prop) (s:Og),Oo (model C.prog C.w) A (isTrue x env (eval x env)) (λc s₂=>if c then Oo (model C.prog C.w) A (ta env) Q E s₂ else Oo (model C.prog C.w) A (tb env) Q E s₂) E s->Oo (model C.prog C.w) A (t env) Q E s):
 br C d K rep (λO=>(mc O).bnd λv=>(bW v).bnd λt=>match t with | true=>ma O | false=>mb O) t:=by
 intro V s Y O env A Q E ok F he k;haveI e:((mc O).bnd λv=>(bW v).bnd λt=>match t with | true=>ma O | false=>mb O)=(((mc O).bnd λv=>bW v).bnd λt=>match t with | true=>ma O | false=>mb O):=by
  funext Y
  unfold M.bnd;cases mc O Y<;>rfl
 dsimp only at k;rw[e] at k;refine ht env A Q E s (Sc.seq ok F he k λb a s1 V1 Y1 ok1 F1 ra st1 k1=>?_);cases ra
 cases b with
 | true=>rw[if_pos rfl];exact Sa _ _ _ _ _ _ _ _ ok1 F1 he k1|false=>rw[if_neg Np];exact Sb _ _ _ _ _ _ _ _ ok1 F1 he k1
end
end Internal
end
section
open PySem
namespace Internal
theorem eJ:∀{o:Option α},o.any f=true->∃x,f x=true
 | some x,h=>⟨x,h⟩
noncomputable def EP(s:ML):Option {x:BoolOp×List ML×Pos // s= .BoolOp x.1 x.2.1 x.2.2}:=if h:s.ctorIdx=0 then Te (motive_1:=λs=>Option {x:BoolOp×List ML×Pos // s= .BoolOp x.1 x.2.1 x.2.2}) s h (λa0 a1 a2=>some ⟨(a0,a1,a2),rfl⟩) else none
noncomputable def LL(s:ML):Option {x:ML×Ot×ML×Pos // s= .BinOp x.1 x.2.1 x.2.2.1 x.2.2.2}:=if h:s.ctorIdx=2 then PySem.Expr.BinOp.elim (motive_1:=λs=>Option {x:ML×Ot×ML×Pos // s= .BinOp x.1 x.2.1 x.2.2.1 x.2.2.2}) s h (λa0 a1 a2 a3=>some ⟨(a0,a1,a2,a3),rfl⟩) else none
noncomputable def Gf(s:ML):Option {x:UnaryOp×ML×Pos // s= .UnaryOp x.1 x.2.1 x.2.2}:=if h:s.ctorIdx=3 then SP (motive_1:=λs=>Option {x:UnaryOp×ML×Pos // s= .UnaryOp x.1 x.2.1 x.2.2}) s h (λa0 a1 a2=>some ⟨(a0,a1,a2),rfl⟩) else none
noncomputable def Mj(s:ML):Option {x:ML×ML×ML×Pos // s= .IfExp x.1 x.2.1 x.2.2.1 x.2.2.2}:=if h:s.ctorIdx=5 then PySem.Expr.IfExp.elim (motive_1:=λs=>Option {x:ML×ML×ML×Pos // s= .IfExp x.1 x.2.1 x.2.2.1 x.2.2.2}) s h (λa0 a1 a2 a3=>some ⟨(a0,a1,a2,a3),rfl⟩) else none
noncomputable def Jb(s:ML):Option {x:List (Option ML)×List ML×Pos // s= .Dict x.1 x.2.1 x.2.2}:=if h:s.ctorIdx=6 then PySem.Expr.Dict.elim (motive_1:=λs=>Option {x:List (Option ML)×List ML×Pos // s= .Dict x.1 x.2.1 x.2.2}) s h (λa0 a1 a2=>some ⟨(a0,a1,a2),rfl⟩) else none
noncomputable def Lv(s:ML):Option {x:ML×List O5×OO×Pos // s= .ListComp x.1 x.2.1 x.2.2.1 x.2.2.2}:=if h:s.ctorIdx=8 then SG (motive_1:=λs=>Option {x:ML×List O5×OO×Pos // s= .ListComp x.1 x.2.1 x.2.2.1 x.2.2.2}) s h (λa0 a1 a2 a3=>some ⟨(a0,a1,a2,a3),rfl⟩) else none
noncomputable def La(s:ML):Option {x:ML×List CmpOp×List ML×Pos // s= .Compare x.1 x.2.1 x.2.2.1 x.2.2.2}:=if h:s.ctorIdx=15 then SQ (motive_1:=λs=>Option {x:ML×List CmpOp×List ML×Pos // s= .Compare x.1 x.2.1 x.2.2.1 x.2.2.2}) s h (λa0 a1 a2 a3=>some ⟨(a0,a1,a2,a3),rfl⟩) else none
noncomputable def IF(s:ML):Option {x:ML×List ML×List Keyword×Pos // s= .Call x.1 x.2.1 x.2.2.1 x.2.2.2}:=if h:s.ctorIdx=16 then PySem.Expr.Call.elim (motive_1:=λs=>Option {x:ML×List ML×List Keyword×Pos // s= .Call x.1 x.2.1 x.2.2.1 x.2.2.2}) s h (λa0 a1 a2 a3=>some ⟨(a0,a1,a2,a3),rfl⟩) else none
noncomputable def ir(s:ML):Option {x:Const×Nat×Pos // s= .Constant x.1 x.2.1 x.2.2}:=if h:s.ctorIdx=19 then SH (motive_1:=λs=>Option {x:Const×Nat×Pos // s= .Constant x.1 x.2.1 x.2.2}) s h (λa0 a1 a2=>some ⟨(a0,a1,a2),rfl⟩) else none
noncomputable def jQ(s:ML):Option {x:ML×MJ×Pos // s= .Attribute x.1 x.2.1 x.2.2}:=if h:s.ctorIdx=20 then Sp (motive_1:=λs=>Option {x:ML×MJ×Pos // s= .Attribute x.1 x.2.1 x.2.2}) s h (λa0 a1 a2=>some ⟨(a0,a1,a2),rfl⟩) else none
noncomputable def pR(s:ML):Option {x:ML×ML×Pos // s= .Subscript x.1 x.2.1 x.2.2}:=if h:s.ctorIdx=21 then Sn (motive_1:=λs=>Option {x:ML×ML×Pos // s= .Subscript x.1 x.2.1 x.2.2}) s h (λa0 a1 a2=>some ⟨(a0,a1,a2),rfl⟩) else none
noncomputable def cR(s:ML):Option {x:MJ×Pos // s= .Name x.1 x.2}:=if h:s.ctorIdx=23 then PySem.Expr.Name.elim (motive_1:=λs=>Option {x:MJ×Pos // s= .Name x.1 x.2}) s h (λa0 a1=>some ⟨(a0,a1),rfl⟩) else none
noncomputable def Ll(s:ML):Option {x:List ML×Pos // s= .List x.1 x.2}:=if h:s.ctorIdx=24 then PySem.Expr.List.elim (motive_1:=λs=>Option {x:List ML×Pos // s= .List x.1 x.2}) s h (λa0 a1=>some ⟨(a0,a1),rfl⟩) else none
noncomputable def rN(s:ML):Option {x:List ML×Nat×Pos // s= .Tuple x.1 x.2.1 x.2.2}:=if h:s.ctorIdx=25 then PySem.Expr.Tuple.elim (motive_1:=λs=>Option {x:List ML×Nat×Pos // s= .Tuple x.1 x.2.1 x.2.2}) s h (λa0 a1 a2=>some ⟨(a0,a1,a2),rfl⟩) else none
noncomputable def uG(s:ML):Option {x:Option ML×Option ML×Option ML×Pos // s= .Slice x.1 x.2.1 x.2.2.1 x.2.2.2}:=if h:s.ctorIdx=26 then PySem.Expr.Slice.elim (motive_1:=λs=>Option {x:Option ML×Option ML×Option ML×Pos // s= .Slice x.1 x.2.1 x.2.2.1 x.2.2.2}) s h (λa0 a1 a2 a3=>some ⟨(a0,a1,a2,a3),rfl⟩) else none
noncomputable def HB(s:Const):Option {x:Bool // s= .bool x}:=match s with
 | .bool a0=>some ⟨a0,rfl⟩|_=>none
noncomputable def Jz(s:Const):Option {x:Int // s= .int x}:=match s with
 | .int a0=>some ⟨a0,rfl⟩|_=>none
noncomputable def Lh(s:Const):Option {x:MJ // s= .str x}:=match s with
 | .str a0=>some ⟨a0,rfl⟩|_=>none
noncomputable def Je(s:Const):Option {x:List UInt8 // s= .bytes x}:=match s with
 | .bytes a0=>some ⟨a0,rfl⟩|_=>none
noncomputable def Dv(s:Stmt):Option {x:ML×Pos // s= .Expr x.1 x.2}:=if h:s.ctorIdx=24 then PySem.Stmt.Expr.elim (motive_2:=λs=>Option {x:ML×Pos // s= .Expr x.1 x.2}) s h (λa0 a1=>some ⟨(a0,a1),rfl⟩) else none
noncomputable def LD(s:Stmt):Option {x:List ML×ML×Pos // s= .Assign x.1 x.2.1 x.2.2}:=if h:s.ctorIdx=5 then Td (motive_2:=λs=>Option {x:List ML×ML×Pos // s= .Assign x.1 x.2.1 x.2.2}) s h (λa0 a1 a2=>some ⟨(a0,a1,a2),rfl⟩) else none
noncomputable def HD(s:Stmt):Option {x:ML×Ot×ML×Pos // s= .AugAssign x.1 x.2.1 x.2.2.1 x.2.2.2}:=if h:s.ctorIdx=7 then Sm (motive_2:=λs=>Option {x:ML×Ot×ML×Pos // s= .AugAssign x.1 x.2.1 x.2.2.1 x.2.2.2}) s h (λa0 a1 a2 a3=>some ⟨(a0,a1,a2,a3),rfl⟩) else none
noncomputable def K3(s:Stmt):Option {x:ML×List Stmt×List Stmt×Pos // s= .If x.1 x.2.1 x.2.2.1 x.2.2.2}:=if h:s.ctorIdx=12 then PySem.Stmt.If.elim (motive_2:=λs=>Option {x:ML×List Stmt×List Stmt×Pos // s= .If x.1 x.2.1 x.2.2.1 x.2.2.2}) s h (λa0 a1 a2 a3=>some ⟨(a0,a1,a2,a3),rfl⟩) else none
noncomputable def sZ{α:Type}(l:List α):Option {x:α // l=[x]}:=match l with
 | [x]=>some ⟨x,rfl⟩|_=>none
noncomputable def Mv{α:Type}(l:List α):Option {x:α×α // l=[x.1,x.2]}:=match l with
 | [x,y]=>some ⟨(x,y),rfl⟩|_=>none
noncomputable def kh{α:Type}(l:List α):Option {x:α×List α // l=x.1::x.2}:=match l with
 | x::y=>some ⟨(x,y),rfl⟩|[]=>none
noncomputable def dy(s:ML):Option {x:ML×List ML×Pos // s= .Call x.1 x.2.1 [] x.2.2}:=match IF s with
 | some ⟨(f,xs,ks,p),h⟩=>match ks,h with
   | [],h=>some ⟨(f,xs,p),h⟩|_::_,_=>none
 | none=>none
noncomputable def Ka(s:ML):Option {x:ML×Pos // s= .Slice none (some x.1) none x.2}:=match uG s with
 | some ⟨(none,some e,none,p),h⟩=>some ⟨(e,p),h⟩|_=>none
noncomputable def Dk(s:ML):Option {x:ML×Pos // s= .Slice (some x.1) none none x.2}:=match uG s with
 | some ⟨(some e,none,none,p),h⟩=>some ⟨(e,p),h⟩|_=>none
noncomputable def IW(s:ML):Option {x:ML×Pos // s= .Slice none none (some x.1) x.2}:=match uG s with
 | some ⟨(none,none,some e,p),h⟩=>some ⟨(e,p),h⟩|_=>none
noncomputable def Gu(c:Const):Option {_x:Unit // c= .none}:=match c with
 | .none=>some ⟨(),rfl⟩|_=>none
theorem dG{x:ML}{id w:MJ}(e:x= .Name id q)(h:(id==w)=true):x= .Name w q:=beq_iff_eq.mp h▸e
theorem MC{x y:ML}{id w:MJ}(e:x= .Attribute y id q)(h:(id==w)=true):x= .Attribute y w q:=beq_iff_eq.mp h▸e
noncomputable def iO(w:MJ)(s:ML):Option {p:Pos // s= .Name w p}:=(cR s).bind λx=>if h:(x.1.1==w)=true then some ⟨x.1.2,dG x.2 h⟩ else none
noncomputable def wb(w:MJ)(s:ML):Option {x:ML×Pos // s= .Attribute x.1 w x.2}:=(jQ s).bind λx=>if h:(x.1.2.1==w)=true then some ⟨(x.1.1,x.1.2.2),MC x.2 h⟩ else none
noncomputable def MD{α:Type}(l:List α):Option {x:α×α×α // l=[x.1,x.2.1,x.2.2]}:=match l with
 | [x,y,z]=>some ⟨(x,y,z),rfl⟩|_=>none
theorem az{o:Option α}{G:Prop}(h:o.any f=true)(k:∀y,f y=true->G):G:=let ⟨y,hy⟩:=eJ h;k y hy
theorem aP{α:Type}{p:α->Prop}{o:Option {x:α // p x}}{f:{x:α // p x}->Bool}{G:Prop}(h:o.any f=true)(k:∀y (e:p y),f ⟨y,e⟩=true->G):G:=let ⟨y,hy⟩:=eJ h;k y.1 y.2 hy
noncomputable def wz(s:Stmt):Option {x:Option ML×Pos // s= .Return x.1 x.2}:=if h:s.ctorIdx=3 then Tc (motive_2:=λs=>Option {x:Option ML×Pos // s= .Return x.1 x.2}) s h (λe p=>some ⟨(e,p),rfl⟩) else none
noncomputable def yB(s:Stmt):Option {x:ML×Pos // s= .Return (some x.1) x.2}:=match wz s with
 | some ⟨(some e,p),h⟩=>some ⟨(e,p),h⟩|_=>none
noncomputable def IK(s:Stmt):Option {p:Pos // s= .Return none p}:=match wz s with
 | some ⟨(none,p),h⟩=>some ⟨p,h⟩|_=>none
noncomputable def E4(s:Stmt):Option {x:Option ML×Option ML×Pos // s= .Raise x.1 x.2.1 x.2.2}:=if h:s.ctorIdx=16 then PySem.Stmt.Raise.elim (motive_2:=λs=>Option {x:Option ML×Option ML×Pos // s= .Raise x.1 x.2.1 x.2.2}) s h (λe c p=>some ⟨(e,c,p),rfl⟩) else none
noncomputable def Hm(s:Stmt):Option {x:ML×Pos // s= .Raise (some x.1) none x.2}:=match E4 s with
 | some ⟨(some e,none,p),h⟩=>some ⟨(e,p),h⟩|_=>none
noncomputable def J9(s:Stmt):Option {p:Pos // s= .Continue p}:=if h:s.ctorIdx=27 then SE (motive_2:=λs=>Option {p:Pos // s= .Continue p}) s h (λp=>some ⟨p,rfl⟩) else none
noncomputable def Jv(s:Stmt):Option {x:List Stmt×List O6×List Stmt×List Stmt×Pos // s= .Try x.1 x.2.1 x.2.2.1 x.2.2.2.1 x.2.2.2.2}:=if h:s.ctorIdx=17 then PySem.Stmt.Try.elim (motive_2:=λs=>Option {x:List Stmt×List O6×List Stmt×List Stmt×Pos // s= .Try x.1 x.2.1 x.2.2.1 x.2.2.2.1 x.2.2.2.2}) s h (λb hs o f p=>some ⟨(b,hs,o,f,p),rfl⟩) else none
noncomputable def Lb(s:Stmt):Option {x:List Stmt×List O6×Pos // s= .Try x.1 x.2.1 [] [] x.2.2}:=match Jv s with
 | some ⟨(b,hs,[],[],p),h⟩=>some ⟨(b,hs,p),h⟩|_=>none
noncomputable def I8(s:O6):Option {x:ML×MJ×List Stmt×Pos // s= .ExceptHandler (some x.1) (some x.2.1) x.2.2.1 x.2.2.2}:=match s with
 | .ExceptHandler t n b p=>match t,n with
   | some t,some n=>some ⟨(t,n,b,p),rfl⟩|_,_=>none
noncomputable def H9(s:Stmt):Option {x:ML×ML×List Stmt×List Stmt×Pos // s= .For x.1 x.2.1 x.2.2.1 x.2.2.2.1 x.2.2.2.2}:=if h:s.ctorIdx=9 then PySem.Stmt.For.elim (motive_2:=λs=>Option {x:ML×ML×List Stmt×List Stmt×Pos // s= .For x.1 x.2.1 x.2.2.1 x.2.2.2.1 x.2.2.2.2}) s h (λt i b o p=>some ⟨(t,i,b,o,p),rfl⟩) else none
noncomputable def HO(s:Stmt):Option {x:ML×ML×List Stmt×Pos // s= .For x.1 x.2.1 x.2.2.1 [] x.2.2.2}:=match H9 s with
 | some ⟨(t,i,b,[],p),h⟩=>some ⟨(t,i,b,p),h⟩|_=>none
noncomputable def CP(s:Stmt):Option {x:ML×List Stmt×List Stmt×Pos // s= .While x.1 x.2.1 x.2.2.1 x.2.2.2}:=if h:s.ctorIdx=11 then PySem.Stmt.While.elim (motive_2:=λs=>Option {x:ML×List Stmt×List Stmt×Pos // s= .While x.1 x.2.1 x.2.2.1 x.2.2.2}) s h (λt b o p=>some ⟨(t,b,o,p),rfl⟩) else none
noncomputable def GA(s:Stmt):Option {x:ML×List Stmt×Pos // s= .While x.1 x.2.1 [] x.2.2}:=match CP s with
 | some ⟨(t,b,[],p),h⟩=>some ⟨(t,b,p),h⟩|_=>none
noncomputable def lv(s:Stmt):Option {x:ML×ML×Pos // s= .Assign [x.1] x.2.1 x.2.2}:=match LD s with
 | some ⟨([t],e,p),h⟩=>some ⟨(t,e,p),h⟩|_=>none
noncomputable def K4(s:S):Option {e:E // s= .ret e}:=if h:s.ctorIdx=10 then Internal.S.ret.elim (motive_1:=λs=>Option {e:E // s= .ret e}) s h (λe=>some ⟨e,rfl⟩) else none
noncomputable def JF(e:E):Option {i:Nat // e= .loc i}:=if h:e.ctorIdx=6 then Internal.E.loc.elim (motive_1:=λe=>Option {i:Nat // e= .loc i}) e h (λi=>some ⟨i,rfl⟩) else none
noncomputable def KT(e:E):Option {x:E×Nat // e= .attr x.1 x.2}:=if h:e.ctorIdx=31 then Internal.E.attr.elim (motive_1:=λe=>Option {x:E×Nat // e= .attr x.1 x.2}) e h (λa b=>some ⟨(a,b),rfl⟩) else none
noncomputable def Ky(e:E):Option {x:E×Bool×E×Option E // e= .comp x.1 x.2.1 x.2.2.1 x.2.2.2}:=if h:e.ctorIdx=36 then Internal.E.comp.elim (motive_1:=λe=>Option {x:E×Bool×E×Option E // e= .comp x.1 x.2.1 x.2.2.1 x.2.2.2}) e h (λa b c d=>some ⟨(a,b,c,d),rfl⟩) else none
noncomputable def KN(e:E):Option {_x:Unit // e= .none}:=if h:e.ctorIdx=0 then Internal.E.none.elim (motive_1:=λe=>Option {_x:Unit // e= .none}) e h (some ⟨(),rfl⟩) else none
end Internal
end
section
open PySem PySem.Calls PyProof.Rows
namespace Internal
variable{Gz:Prop}
section
variable{M:O7}{A:Ol}{E:Od->Og->Prop}{s:Og}
theorem dQ(hplain:trees.any (·.1)=false)(h:Oo M A (O8 trees) (λvs s'=>Q ⟨vs,[]⟩ s') E s):Oo M A (evalArgs f true trees []) Q E s:=by
 cases trees with
 | nil=>
   refine Ow (OL h (λvs s' h'=>?_) λX X x=>x);refine Ov ?_;exact Ow (Ox (Ow (Ox (Ox h'))))
 | cons x rest=>
   obtain⟨b,x⟩:=x;erw[RC,Bool.or_eq_false_iff] at hplain;exists bj hplain,rfl,X;exact evalArgs_plain h
end
noncomputable def cA(e:ML):Bool:=e.ctorIdx != 22
theorem cp(h:cA e=true):O9 (e::rest) env=(false,eval e env)::O9 rest env:=by
 cases e<;>first | rfl | cases h
theorem cN:∀{xs:List ML},xs.all cA=true->(Uc pos (O9 xs env)).any (·.1)=false:=by
 intro xs
 induction xs with
 | nil=>
   intro _;exact rfl
 | cons x xs cN=>
   intro h;erw[QY,MY] at h;rw[cp h.1];show(false||(Uc pos (O9 xs env)).any (·.1))=false;rw[cN h.2];rfl
section
variable{C:Cx}{d:Nat}{K:Ck}
theorem ow:br C d K (ij C) (λX=>ret []) (λenv=>O8 (Uc pos (O9 [] env))):=
 λX X X X X X X X ok X X k=>Oa (k [] _ _ (St.refl ok.rel) .nil)
theorem jj(hx:cA x=true)(Sa:br C d K (aW C) ma (eval x))(Sr:br C d K (ij C) mr (λenv=>O8 (Uc pos (O9 xs env)))):
 br C d K (ij C) (λO=>(ma O).bnd λv=>(mr O).bnd λvs=>ret (v::vs)) (λenv=>O8 (Uc pos (O9 (x::xs) env))):=by
 intro V s Y O env A Q E ok F he k;dsimp only;refine(cp hx)▸?_;refine L0 (Sa.seq ok F he k λv a s1 V1 Y1 ok1 F1 ra st1 k1=>?_);exact Sr.seq ok1 F1 he k1 λvs as s2 V2 Y2 ok2 F2 ras st2 k2=>k2 (a::as) s2 V2 (St.refl ok2.rel) (.cons (ra.mono st2.step.le st2.step.tup) ras)
theorem G7(hn:n<=4000)(hl:∀O Y vs Y',mr O Y= .ok vs Y'->vs.length=n)(Sr:br C d K (ij C) mr (λenv=>O8 (Uc pos (O9 xs env)))):
 br C d K (aW C) (λO=>(mr O).bnd λvs=>ret (.tup vs)) (eval (.Tuple xs kk pos)):=by
 intro V s Y O env A Q E ok F he k;haveI k':aw ((mr O).bnd (λvs=>if vs.length<=4000 then ret (TY vs) else fX) Y) (KV C V s Q) (XK C A V s E):=by
  haveI e:(mr O).bnd (λvs=>if vs.length<=4000 then ret (TY vs) else fX) Y=(mr O).bnd (λvs=>ret (TY vs)) Y:=by
   unfold M.bnd
   cases h:mr O Y with
   | ok vs Y'=>dsimp only;rw[if_pos (by rw[hl O Y vs Y' h];exact hn)]
   | exn=>rfl|bad=>rfl
  erw[e];exact k
 refine wpAny_Tuple (Sr.seq ok F he k' λvs as s2 V2 Y2 ok2 F2 ras st2 k2=>?_);haveI hlen:=ras.length;split at k2
 . rename_i h
   exact⟨b5 %[|0],KV.tuple (t:=s2.toks) ok2.rel ras %[|0] k2⟩
 . exact k2.elim
theorem Hd(hn:n<=4000)(hl:∀O Y vs Y',mr O Y= .ok vs Y'->vs.length=n)(Sr:br C d K (ij C) mr (λenv=>O8 (Uc pos (O9 xs env)))):
 br C d K (aW C) (λO=>(mr O).bnd λvs=>dB (.list vs)) (eval (.List xs pos)):=by
 intro V s Y O env A Q E ok F he k;haveI k':aw ((mr O).bnd (λvs=>if vs.length<=4000 then dB (.list vs) else fX) Y) (KV C V s Q) (XK C A V s E):=by
  haveI e:(mr O).bnd (λvs=>if vs.length<=4000 then dB (.list vs) else fX) Y=(mr O).bnd (λvs=>dB (.list vs)) Y:=by
   unfold M.bnd
   cases h:mr O Y with
   | ok vs Y'=>dsimp only;rw[if_pos (by rw[hl O Y vs Y' h];exact hn)]
   | exn=>rfl|bad=>rfl
  erw[e];exact k
 refine wpAny_List (Sr.seq ok F he k' λvs as s2 V2 Y2 ok2 F2 ras st2 k2=>?_);haveI hlen:=ras.length;split at k2
 . rename_i h
   exact⟨b5 %[|0],KV.list (t:=s2.toks) ok2.rel ras (by omega) k2⟩
 . exact k2.elim
def BK(C:Cx)(ks:List Nat):cV->Heap->List (Od×Od)->List PV->Prop:=λV h ps xs=>∃vs,Carries (ct C.prog C.w) ps (ks.zip vs)/\aK C V h vs xs/\vs.length=ks.length
noncomputable def Jm(e:Option ML):Option {x:MJ×Nat×Pos // e=some (.Constant (.str x.1) x.2.1 x.2.2)}:=match e with
 | none=>none|some e=>(ir e).bind λx=>(Lh x.1.1).map λs=>⟨(s.1,x.1.2.1,x.1.2.2),congrArg some (x.2.trans (congrArg (λc=>PySem.Expr.Constant c x.1.2.1 x.1.2.2) s.2))⟩
noncomputable def jP:List Nat->List (Option ML)->Bool
 | [],[]=>true|k::ks,x::xs=>(Jm x).any (λy=>y.1.1==ch k)&&jP ks xs|_,_=>false
theorem mB:∀{keys:List (Option ML)},jP (k::ks) keys=true->(∀c p keys',keys=some (.Constant (.str (ch k)) c p)::keys'->jP ks keys'=true->Gz)->Gz:=by
 intro keys
 induction keys with
 | nil=>(try intros);exists _|cons x xs _=>
   intro h Kz;exists bj (MT.mp h),h1,h2
   (refine bx (eJ h1) λt'2 h1=>?_;obtain⟨⟨y,c,p⟩,e⟩:=t'2)
   obtain rfl:y=ch k:=beq_iff_eq.mp h1;exact Kz c p xs (by erw[e]) h2
theorem tK:br C d K (BK C []) (λX=>ret []) (λenv=>Ud (Ue [] [] env pos)):=
 λX X X X X X X X ok X X k=>evalPairs_nil (k [] _ _ (St.refl ok.rel) (fw ([]) trivial .nil rfl))
theorem rf(Sa:br C d K (aW C) ma (eval x))
 (Sr:br C d K (BK C ks) mr (λenv=>Ud (Ue keys xs env pos))):
 br C d K (BK C (k::ks)) (λO=>(ma O).bnd λv=>(mr O).bnd λvs=>ret (v::vs)) (λenv=>Ud (Ue (some (.Constant (.str (ch k)) c p)::keys) (x::xs) env pos)):=by
 intro V s Y O env A Q E ok F he kk;refine evalPairs_cons (wpAny_Constant_str ?_);haveI S0:St C V V s {s with toks:=s.toks+1} Y:=St.toks ok.rel _;haveI ok0:=ok.step S0;refine Ow ?_;exists Sa.seq ok0 (F.step S0.step) he (aw.mono kk (λX X z=>z.trans S0) (λX X z=>z.trans S0)),v,a,s1,V1,Y1,ok1,F1,ra,st1,k1;refine Ow (Uf (Ox ?_));exact Sr.seq ok1 F1 he k1 λvs ps s2 V2 Y2 ok2 F2 ⟨us,h1,h2,h3⟩ st2 k2=>k2 _ s2 V2 (St.refl ok2.rel) ⟨a::us,⟨c9 _ _ _ _,rfl,h1⟩, .cons (ra.mono st2.step.le st2.step.tup) h2,by simp [h3]⟩
theorem j3:∀{ks:List Nat} {keys:List (Option ML)},jP ks keys=true->keys.all (·.isSome)=true/\keys.length=ks.length
 | [],[],_=>⟨rfl,rfl⟩|k::ks,keys,h=>by
   exists mB h,c,p,keys',rfl,h2;have:=j3 h2;exact⟨this.1,congrArg (· +1) this.2⟩
theorem Bx{ks:List Nat}(r:aK C V h vs xs):bP C V h (ks.zip vs) (ks.zip xs):=
 aK.ind (P:=λvs xs=>∀ks:List Nat,bP C V h (ks.zip vs) (ks.zip xs)) (λks=>by cases ks<;>exact .nil) (λa X ih ks=>by cases ks with | nil=>exact .nil | cons k ks=>exact .cons a (ih ks)) r ks
theorem yg:∀{ks:List Nat} {vs:List Od},vs.length=ks.length->(ks.zip vs).map (·.1)=ks
 | [],_,_=>rfl|k::ks,[],h=>by exists _
 | k::ks,v::vs,h=>by erw[Qf,Nl];rw[yg (by simpa using h)]
theorem FC{mr:UG->M (List PV)}(hk:jP ks keys=true)(hl:keys.length=xs.length)(h0:ks≠[])(h15:ks.length<=15)(hnd:ks.Nodup)
 (Sr:br C d K (BK C ks) mr (λenv=>Ud (Ue keys xs env pos))):
 br C d K (aW C) (λO=>(dB (.dictS [])).bnd λp=>(mr O).bnd λvs=>if ks.length==vs.length then mE p (ks.zip vs) else fX) (eval (.Dict keys xs pos)):=by
 intro V s Y O env A Q E ok F he k;exists bj (j3 hk),ha,hlk;have hpl:=pairTrees_length keys xs env pos ha hl;refine wpAny_Dict_pairs (knd:=ct C.prog C.w) (pairs:=Ue keys xs env pos) (zip_pairTrees keys xs env pos ha hl) (λe=>h0 (by rw[e] at hpl;exact NJ.mp (by erw[<-hlk, <-hpl];rfl))) (by erw[hpl,hlk];exact h15) ?_;have S0:St C V V s {s with heap:=s.heap.push {cls:= .type "dict",data:= .dict #[]},toks:=s.toks} Y:=St.keeps ok.rel (bM s.heap {cls:= .type "dict",data:= .dict #[]});have hD:s.heap.get? s.heap.objs.size=none:=bq _;have fD:=dC ok.rel hD;have S1:=S0.enterAt (o:= .dictS []) hD fD.1 fD.2 ⟨_,NF s.heap (o:={cls:= .type "dict",data:= .dict #[]}) rfl⟩ (dY rfl (Pm _) ([]) (RG s.heap) .nil)
 replace k:aw (((mr O).bnd λvs=>if ks.length==vs.length then mE (.ref Y.length) (ks.zip vs) else fX) (Y++[.dictS []])) (KG C V s (aW C) Q) (XK C A V s E):=k
 refine Sr _ _ _ O env A _ E (ok.step S1) (F.step S1.step) he (aw.mono (ay k) (λvs Y2 k2=>?_) (λX X z=>z.trans S1));rintro ps s2 V2 st2 ⟨us,h1,h2,h3⟩;have hlen:=h2.length;rw[if_pos (by rw[beq_iff_eq];lia)] at k2;unfold mE at k2;dsimp only at k2;split at k2
 case h_2=>exact(show False from k2).elim
 rename_i hY;have eD:=st2.step.le _ _ (iP ok.rel _);exists aA (st2.rel.obj _ _ hY),p,ep,horep;obtain rfl:p=(s.heap.objs.size,s.heap.objs.size):=MI (ep.symm.trans eD);exists nj horep,X,X,ws,hdo,hkr;cases hkr;refine(fw (ks.zip us) h1 hdo (λh' hd hsb=>?_));erw[merged_nil_of_nodup _ (by rw[yg h3];exact hnd)] at hd;have kb:∀b o,¬b=s.heap.objs.size->s2.heap.get? b=some o->h'.get? b=some o:=λb o hb e=>(hsb.2 b hb).trans e;exists dZ (id hd),ob,es,ep',go,rest;exists bj (st2.rel.change (o':= .dictS (ks.zip vs)) eD hY (λb ob h1 X g=>kb b ob h1 g) ⟨_,go⟩ ⟨_,go⟩ λt=>(dY rfl (by rw[List.length_zip];lia) (ks.zip us) hd ((Bx h2).mono (.refl _) t))),R3,T3;have S4:St C V V2 s {s2 with heap:=h',toks:=s2.toks+ps.length} (Y2.set Y.length (.dictS (ks.zip vs))):=(S1.trans st2).trans ⟨T3,R3,rfl,rfl,rfl⟩;exact k2 (.ref s.heap.objs.size) _ _ S4 (.ref eD)
end
section
variable{C:Cx}{d:Nat}{K:Ck}
theorem xI(Sa:br C d K (aW C) ma (eval x)):
 br C d K (aW C) (λO=>((ma O).bnd λv=>(bW v).bnd λb=>match b with | true=>ret true | false=>ret false).bnd λb=>ret (.bool b)) (eval (.BoolOp .And [x] pos)):=by
 intro V s Y O env A Q E ok F he k;refine BoolOp_one (Sa V s Y O env A Q E ok F he (aw.mono (ay (ay k)) (λv Y1 k1 a s1 V1 st1 ra=>?_) λX X z=>z));exists eH ra (ay k1),b,rfl,rfl,k2;cases b<;>exact k2 _ s1 V1 st1 (.bool _)
theorem yW(Sa:br C d K (aW C) ma (eval x)):
 br C d K (aW C) (λO=>((ma O).bnd λv=>(bW v).bnd λb=>match b with | true=>ret true | false=>ret false).bnd λb=>ret (.bool b)) (eval (.BoolOp .Or [x] pos)):=by
 intro V s Y O env A Q E ok F he k;refine BoolOp_one (Sa V s Y O env A Q E ok F he (aw.mono (ay (ay k)) (λv Y1 k1 a s1 V1 st1 ra=>?_) λX X z=>z));exists eH ra (ay k1),b,rfl,rfl,k2;cases b<;>exact k2 _ s1 V1 st1 (.bool _)
theorem cf(m:M α)(f:α->M β)(g:β->M γ):(m.bnd f).bnd g=m.bnd λa=>(f a).bnd g:=by
 funext Y
 unfold M.bnd;cases m Y<;>rfl
theorem vY{mr:UG->M Bool}(Sa:br C d K (aW C) ma (eval x))(Sr:br C d K (aW C) (λO=>(mr O).bnd λb=>ret (.bool b)) (eval (.BoolOp .And (y::ys) pos))):
 br C d K (aW C) (λO=>((ma O).bnd λv=>(bW v).bnd λb=>match b with | true=>mr O | false=>ret false).bnd λb=>ret (.bool b)) (eval (.BoolOp .And (x::y::ys) pos)):=by
 intro V s Y O env A Q E ok F he k;dsimp only at k;rw[cf] at k;refine BoolOp_and (Sa.seq ok F he k λv a s1 V1 Y1 ok1 F1 ra st1 k1=>?_);rw[cf] at k1;exists eH ra (ay k1),b,rfl,rfl,k2;refine Oy ?_
 cases b with
 | true=>rw[if_pos rfl];exact Sr _ _ _ _ _ _ _ _ ok1 F1 he k2|false=>rw[if_neg Np];exact KV.same ok1.rel (.bool false) k2
theorem wK{mr:UG->M Bool}(Sa:br C d K (aW C) ma (eval x))(Sr:br C d K (aW C) (λO=>(mr O).bnd λb=>ret (.bool b)) (eval (.BoolOp .Or (y::ys) pos))):
 br C d K (aW C) (λO=>((ma O).bnd λv=>(bW v).bnd λb=>match b with | true=>ret true | false=>mr O).bnd λb=>ret (.bool b)) (eval (.BoolOp .Or (x::y::ys) pos)):=by
 intro V s Y O env A Q E ok F he k;dsimp only at k;rw[cf] at k;refine BoolOp_or (Sa.seq ok F he k λv a s1 V1 Y1 ok1 F1 ra st1 k1=>?_);rw[cf] at k1;exists eH ra (ay k1),b,rfl,rfl,k2;refine Oy ?_
 cases b with
 | true=>rw[if_pos rfl];exact KV.same ok1.rel (.bool true) k2|false=>rw[if_neg Np];exact Sr _ _ _ _ _ _ _ _ ok1 F1 he k2
theorem vN{whole:Nf->Sem Od}:br C d K gk (λX=>ret true) (λenv=>isTrue (.BoolOp .And [] pos) env (whole env)):=
 λX X X X X X X X ok X X k=>isTrue_and_nil (k _ _ _ (St.refl ok.rel) rfl)
theorem yo{whole:Nf->Sem Od}:br C d K gk (λX=>ret false) (λenv=>isTrue (.BoolOp .Or [] pos) env (whole env)):=
 λX X X X X X X X ok X X k=>isTrue_or_nil (k _ _ _ (St.refl ok.rel) rfl)
theorem tr{ma:UG->M PV}{whole:Nf->Sem Od}(Sa:br C d K gk (λO=>(ma O).bnd λv=>bW v) (λenv=>isTrue x env (eval x env)))
 (Sr:br C d K gk mr (λenv=>isTrue (.BoolOp .And ys pos) env (whole env))):
 br C d K gk (λO=>(ma O).bnd λv=>(bW v).bnd λb=>match b with | true=>mr O | false=>ret false) (λenv=>isTrue (.BoolOp .And (x::ys) pos) env (whole env)):=by
 intro V s Y O env A Q E ok F he k;dsimp only at k;rw[<-cf] at k;refine isTrue_and (Sa.seq ok F he k λb a s1 V1 Y1 ok1 F1 ra st1 k1=>?_);cases ra
 cases b with
 | true=>rw[if_pos rfl];exact Sr _ _ _ _ _ _ _ _ ok1 F1 he k1|false=>rw[if_neg Np];exact k1 _ _ _ (St.refl ok1.rel) rfl
theorem vw{ma:UG->M PV}{whole:Nf->Sem Od}(Sa:br C d K gk (λO=>(ma O).bnd λv=>bW v) (λenv=>isTrue x env (eval x env)))
 (Sr:br C d K gk mr (λenv=>isTrue (.BoolOp .Or ys pos) env (whole env))):
 br C d K gk (λO=>(ma O).bnd λv=>(bW v).bnd λb=>match b with | true=>ret true | false=>mr O) (λenv=>isTrue (.BoolOp .Or (x::ys) pos) env (whole env)):=by
 intro V s Y O env A Q E ok F he k;dsimp only at k;rw[<-cf] at k;refine isTrue_or (Sa.seq ok F he k λb a s1 V1 Y1 ok1 F1 ra st1 k1=>?_);cases ra
 cases b with
 | true=>rw[if_pos rfl];exact k1 _ _ _ (St.refl ok1.rel) rfl|false=>rw[if_neg Np];exact Sr _ _ _ _ _ _ _ _ ok1 F1 he k1
theorem Au(S:br C d K gk m t):br C d K gk (λO=>((m O).bnd λb=>ret (TL b)).bnd λv=>bW v) t:=by
 intro V s Y O env A Q E ok F he k;haveI e:(((m O).bnd λb=>ret (TL b)).bnd λv=>bW v)=m O:=by
  funext Y
  unfold M.bnd;cases m O Y<;>rfl
 dsimp only at k;rw[e] at k;exact S V s Y O env A Q E ok F he k
theorem Fu(Sa:br C d K (aW C) ma (eval v))(Sb:br C d K (aW C) mb (eval sl))(hp:nS sl=true):
 br C d K (aW C) (λO=>(ma O).bnd λo=>(mb O).bnd λi=>dk o i) (eval (.Subscript v sl pos)):=by
 intro V s Y O env A Q E ok F he k;exact Ug (Sa.seq ok F he k λx a s1 V1 Y1 ok1 F1 ra st1 k1=>Sb.seq ok1 F1 he k1 λy b s2 V2 Y2 ok2 F2 rb st2 k2=>x8 hp ok2.rel (ra.mono st2.step.le st2.step.tup) rb k2)
theorem BU(Sa:br C d K (aW C) ma (eval v))(Sb:br C d K (aW C) mb (eval e)):
 br C d K (aW C) (λO=>(ma O).bnd λo=>(mb O).bnd λi=>EH o i) (eval (.Subscript v (.Slice none (some e) none p) pos)):=by
 intro V s Y O env A Q E ok F he k;refine Ug (Sa.seq ok F he k λx a s1 V1 Y1 ok1 F1 ra st1 k1=>Uh ?_);erw[evalPart_none,evalPart_some];refine Ox (Sb.seq ok1 F1 he k1 λy b s2 V2 Y2 ok2 F2 rb st2 k2=>?_);exact Ox (zd ok2.rel (ra.mono st2.step.le st2.step.tup) rb k2)
theorem wq(Sa:br C d K (aW C) ma (eval v))(Sb:br C d K (aW C) mb (eval e)):
 br C d K (aW C) (λO=>(ma O).bnd λo=>(mb O).bnd λi=>rY o i) (eval (.Subscript v (.Slice (some e) none none p) pos)):=by
 intro V s Y O env A Q E ok F he k;refine Ug (Sa.seq ok F he k λx a s1 V1 Y1 ok1 F1 ra st1 k1=>Uh ?_);erw[evalPart_none,evalPart_some];refine Sb.seq ok1 F1 he k1 λy b s2 V2 Y2 ok2 F2 rb st2 k2=>Ox ?_;exact Ox (uN ok2.rel (ra.mono st2.step.le st2.step.tup) rb k2)
theorem zb(Sa:br C d K (aW C) ma (eval v)):
 br C d K (aW C) (λO=>(ma O).bnd λo=>Ac o) (eval (.Subscript v (.Slice none none (some (.UnaryOp .USub (.Constant (.int 1) kd p1) p2)) p) pos)):=by
 intro V s Y O env A Q E ok F he k;refine Ug (Sa.seq ok F he k λx a s1 V1 Y1 ok1 F1 ra st1 k1=>Uh ?_);erw[evalPart_none,evalPart_some];refine Ox (Ox (UnaryOp_ (OW (Qn ?_))));haveI S0:St C V1 V1 s1 {s1 with toks:=s1.toks+1+1} Y1:=St.toks ok1.rel _;exact xt (s:={s1 with toks:=s1.toks+1+1}) ok1.rel ra (aw.mono k1 (λX X z=>KV.trans S0 z) λX X z=>z)
noncomputable def dN(o:ML):Bool:=o.ctorIdx != 16
theorem zN(h:dN o=true)(attr:MJ)(env:Nf)(whole:Sem Od):attributeBase o attr env whole=whole:=by
 cases o<;>first | rfl | cases h
theorem DA(G:lW C P TT){code:Nat}(Sa:br C d K (aW C) ma (eval v))(hb:dN v=true)(hc:code∈cg):
 br C d K (aW C) (λO=>(ma O).bnd λo=>eL o code) (eval (.Attribute v (ch code) pos)):=by
 intro V s Y O env A Q E ok F he k;haveI e:eval (.Attribute v (ch code) pos) env=(do
  let o <-attributeBase v (ch code) env (eval v env)
  OZ pos.atName
  let r <-O3 [o] (getAttr o (ch code) true)
  letTemporaryGo v o r
  pure r):=rfl
 erw[e,zN hb];refine Ow (Sa.seq ok F he k λx a s1 V1 Y1 ok1 F1 ra st1 k1=>?_);refine Ow (Uf (Ow (Ov ?_)));refine nF (X:=XK C A V1 s1 E) (λc=>⟨_,G.cls c⟩) hc ok1.rel ra (aw.mono k1 (λy Y2 k2 b s2 V2 st2 rb=>?_) λB B z=>z);exact Ow (Ui (Ox (k2 b s2 V2 st2 rb)))
theorem uB(G:lW C P TT){id:MJ}(hk:bb K id=true)(hg:∀mg,C.h0.Ns Oi mg->mg id=none)
 (hb:∃mb,C.h0.Ns Oj mb/\mb id=some (.builtin bid)) (hx:cA x=true) (Sa:br C d K (aW C) ma (eval x))
 (hf:∀(V:cV) (s:Og) (Y:aR) (A:Ol) (Q E:Od->Og->Prop) (y:PV) (b:Od) (X:PV->aR->Prop),A.handled=none->cD C V Y s.heap->aB C V s.heap b y->aw (f y Y) (KV C V s Q) X->Oo (model C.prog C.w) A (call (.builtin bid) [b]) Q E s):
 br C d K (aW C) (λO=>(ma O).bnd f) (eval (.Call (.Name id p) [x] [] pos)):=by
 intro V s Y O env A Q E ok F he k;exists aA G.gl,mg,hmg,B;exists aA hb,mb,hmb,eb;refine Uj (kA hk ok.rel F he hmg (hg mg hmg) hmb eb ?_);haveI hpl:(Uc pos (O9 [x] env)).any (·.1)=false:=cN (by simpa using hx);refine Calls.callWith_builtin hpl (dQ hpl ?_);refine(cp hx)▸?_;exact L0 (Sa.seq ok F he k λy b s1 V1 Y1 ok1 F1 rb st1 k1=>Oa (hf V1 s1 Y1 A Q E y b _ ok1.room.handled ok1.rel rb k1))
theorem oU(G:lW C P TT){id:MJ}(hk:bb K id=true)(hg:∀mg,C.h0.Ns Oi mg->mg id=none)
 (hb:∃mb,C.h0.Ns Oj mb/\mb id=some (.type bid)) (hx:cA x=true) (Sa:br C d K (aW C) ma (eval x))
 (hf:∀(V:cV) (s:Og) (Y:aR) (A:Ol) (Q E:Od->Og->Prop) (y:PV) (b:Od) (X:PV->aR->Prop),A.handled=none->cD C V Y s.heap->aB C V s.heap b y->aw (f y Y) (KV C V s Q) X->Oo (model C.prog C.w) A (call (.type bid) [b]) Q E s):
 br C d K (aW C) (λO=>(ma O).bnd f) (eval (.Call (.Name id p) [x] [] pos)):=by
 intro V s Y O env A Q E ok F he k;exists aA G.gl,mg,hmg,B;exists aA hb,mb,hmb,eb;refine Uj (kA hk ok.rel F he hmg (hg mg hmg) hmb eb ?_);haveI hpl:(Uc pos (O9 [x] env)).any (·.1)=false:=cN (by simpa using hx);refine RM hpl (dQ hpl ?_);refine(cp hx)▸?_;exact L0 (Sa.seq ok F he k λy b s1 V1 Y1 ok1 F1 rb st1 k1=>Oa (hf V1 s1 Y1 A Q E y b _ ok1.room.handled ok1.rel rb k1))
theorem zT(G:lW C P TT){call:db}(HC:d5 C call d)(hx:xs.all cA=true)(Sr:br C d K (ij C) mr (λenv=>O8 (Uc pos (O9 xs env))))
 {Q E:Od->Og->Prop} (ok:Ok C A d V Y s) (F:cc C V s.heap env K.names O) (he:env.scope=K.scope) (k:aw (((mr O).bnd λvs=>call i vs) Y) (KV C V s Q) (XK C A V s E)):
 Oo (model C.prog C.w) A (callWith pos (.ref (C.fa i)) [] (Uc pos (O9 xs env)) []) Q E s:=by
 exists fk (G.fns i),o,fd,ho,hd,X;refine Calls.callWith_function (o:=o) (fd:=fd) (dQ (cN hx) (Sr.seq ok F he k λvs as s1 V1 Y1 ok1 F1 ras st1 k1=>?_));exact⟨⟨ok1.rel.keep _ _ ho,hd⟩,HC V1 s1 Y1 A Q E i vs as ok1.room.room ok1.rel ok1.ff ras k1⟩
theorem Dm(G:lW C P TT){call:db}(HC:d5 C call d)(hn:TT.fn[i]? =some n)(hk:bb K (ch n)=true)(hx:xs.all cA=true)(Sr:∀pos,br C d K (ij C) mr (λenv=>O8 (Uc pos (O9 xs env)))):
 br C d K (aW C) (λO=>(mr O).bnd λvs=>call i vs) (eval (.Call (.Name (ch n) p) xs [] pos)):=by
 intro V s Y O env A Q E ok F he k;exists cF G.gl,mg,hg,h1,X;exact Uj (iA hk ok.rel F he hg (h1 i n hn) (zT G HC hx (Sr pos) ok F he k))
theorem Bl(G:lW C P TT){call:db}(HC:d5 C call d){id:MJ}(hx:xs.all cA=true)(Sf:br C d K (aW C) mf (eval (.Name id p)))
 (Sr:∀pos,br C d K (ij C) mr (λenv=>O8 (Uc pos (O9 xs env)))):
 br C d K (aW C) (λO=>(mf O).bnd λg=>need (My g) λf=>(mr O).bnd λvs=>call f vs) (eval (.Call (.Name id p) xs [] pos)):=by
 intro V s Y O env A Q E ok F he k;refine Uj (Sf.seq ok F he k λv a s1 V1 Y1 ok1 F1 ra st1 k1=>?_);exists ak k1,i,e,k1;obtain rfl:a= .ref (C.fa i):=(show aB C V1 s1.heap a (.fn i) from e▸ra).inv;exact zT G HC hx (Sr pos) ok1 F1 he k1
theorem FL(G:lW C P TT){call:db}(HC:d5 C call d)(hn:TT.cls[c]? =some n)(hk:bb K (ch n)=true)(hx:(x::xs).all cA=true)
 (Sr:∀pos,br C d K (ij C) mr (λenv=>O8 (Uc pos (O9 (x::xs) env)))):
 br C d K (aW C) (λO=>(mr O).bnd λvs=>(dB (.inst c [])).bnd λo=>(call (P.init c) (o::vs)).bnd λq=>need (jx q) λB=>ret o) (eval (.Call (.Name (ch n) p) (x::xs) [] pos)):=by
 intro V s Y O env A Q E ok F he k;exists cps,Gz,Kz;exists eB G.gl,mg,hg,B,h1,B;refine fx ((G.cls c).cls) λN mN z'0=>bh z'0 λX g1 g2 g3 g4=>?_;exists fk (G.fns (P.init c)),oI,fdI,hoI,B,hcI;haveI hx':=hx;erw[QY,MY] at hx';refine Kz ?_;refine Uj (iA hk ok.rel F he hg (h1 c n hn) ?_);refine callWith_cls X ?_ (cp hx'.1) (cN hx'.2);refine(Sr pos).seq ok F he k λvs as s1 V1 Y1 ok1 F1 ras st1 k1=>⟨ok1.rel.keep,?_⟩;haveI X1:=X.keeps ok1.rel.keep;obtain⟨hh,g,dr,t,os⟩:=s1;exists kX X1,cr,hC;refine Uk (codeAny_call_obj_init PySem.F.objNew hC X1.ns g3 (ok1.rel.keep _ _ hoI) hcI λh' x' dx Mk=>?_);exists eB Mk.inst,ox,gx,hcx,hncx,hdx;haveI hd:=Mk.dict ox gx;haveI hI:h'.Inst x' (C.ca c) λB=>none:=(d0 ox gx hcx hncx (by
  rcases hdx with ⟨a,b⟩ | ⟨d',e1,e2,e3,_⟩
  . exact .inl ⟨a,b⟩
  . exact .inr (fw d' e1 e2 e3)))
 haveI hdx':dx≠x'/\∃ob,h'.get? dx=some ob:=by
  rcases hdx with ⟨a,b⟩ | ⟨d',e1,e2,⟨od,_,_,e3,_⟩,_⟩
  . rw[hd] at a;exists _
  . obtain rfl:=MI (e1.symm.trans hd)
    exact jw e2 (ny _ e3)
 exists bj (ok1.rel.enter (p:=(x',dx)) (o:= .inst c []) Mk.keeps Mk.newX Mk.newD ⟨_,gx⟩ hdx'.2 (dq hdx'.1 (by simp) (gQ _ ox (bT hI gx hd (λa y e=>by exists _) (λy e=>absurd rfl e))))),R',S';haveI S2:St C V1 (V1++[(x',dx)]) ⟨hh,g,dr,t,os⟩ ⟨h',g,dr,t,os⟩ (Y1++[.inst c []]):=⟨S',R',rfl,rfl,rfl⟩;haveI ok2:=ok1.step S2;haveI hph:=iP ok1.rel (x',dx);refine HC (V1++[(x',dx)]) ⟨h',g,dr,t,os⟩ (Y1++[.inst c []]) _ _ _ (P.init c) (.ref Y1.length::vs) (.ref x'::as) ⟨ok1.room.handled,?_,?_⟩ ok2.rel ok2.ff (.cons (.ref hph) (aK.mono (d2.append _ _) S'.tup ras))
  (aw.mono (ay (show aw ((call (P.init c) (.ref Y1.length::vs)).bnd (λq=>need (jx q) λB=>ret (TH Y1.length)) (Y1++[.inst c []])) (KG C V1 ⟨hh,g,dr,t,os⟩ (aW C) Q) (XK C A V1 ⟨hh,g,dr,t,os⟩ E) from k1)) (λr Y3 k3 v3 s3 V3 st3 r3=>?_) λm Y3 k3 e s3 V3 st3 ex en=>?_)
 . have:=ok1.room.depth
   show A.depth+1+3*d+3<Oz
   lia
 . have:=ok1.room.units
   show A.units+1+20*d+200<Ou
   lia
 . exists ak k3,B,e,k3
   exact⟨fB (e▸r3),k3 (.ref x') s3 V3 (S2.trans st3) (.ref (st3.step.le _ _ hph))⟩
 . exact k3 e s3 V3 ⟨.after S2.step st3.step,st3.rel,S2.sh.trans st3.sh⟩ ex (en.back S2.step.there)
theorem sd{chk:PV->M Unit}{f:PV->List PV->M PV}{Ty id:String}(hb:dN y=true)(hline:(apos.endLine==pos.line)=true)(hx:xs.all cA=true)(hfew:xs.length<30)
 (pa:PlainAttrs Ty) (slot:Slot Ty name id) (hty:typeOf (.builtin id)=pure (.type "method_descriptor")) (entry:entryFor table id=some B)
 (hchk:∀(V:cV) (s:Og) (Y:aR) (x:PV) (a:Od) (Kc:Unit->aR->Prop) (X:PV->aR->Prop),cD C V Y s.heap->aB C V s.heap a x->aw (chk x Y) Kc X->s.TypeIs a Ty/\(∀b,a= .ref b->∃ob,s.heap.get? b=some ob/\ob.dict=none)/\Kc () Y)
 (hf:∀(V:cV) (s:Og) (Y:aR) (A:Ol) (Q E:Od->Og->Prop) (x:PV) (a:Od) (ys:List PV) (bs:List Od) (X:PV->aR->Prop),cD C V Y s.heap->aB C V s.heap a x->aK C V s.heap bs ys->aw (f x ys Y) (KV C V s Q) X->pY C A id Ty B a bs Q E s)
 (So:br C d K (aW C) mo (eval y)) (Sr:∀pos,br C d K (ij C) mr (λenv=>O8 (Uc pos (O9 xs env)))):
 br C d K (aW C) (λO=>(mo O).bnd λo=>(chk o).bnd λu=>(mr O).bnd λvs=>f o vs) (eval (.Call (.Attribute y name apos) xs [] pos)):=by
 intro V s Y O env A Q E ok F he k;haveI hpl:∀pos,(Uc pos (O9 xs env)).any (·.1)=false:=λpos=>cN hx;refine wpAny_Call_method (zN hb name env _) ?_ hline pa slot hty (So.seq ok F he k λv a s1 V1 Y1 ok1 F1 ra st1 k1=>?_)
 . haveI e1:((Uc pos (O9 xs env)).all λx=> !x.1)=true:=by
    have:=hpl pos;rw[List.any_eq_false] at this;rw[M8];intro z hz
    simpa using this z hz
   erw[e1,show backToKw pos (keywordEach [] env)=[] from rfl]
   simpa using hfew
 . exists fE (hchk V1 s1 Y1 v a _ _ ok1.rel ra (ay k1)),h1,h2,k2
   refine(dq h1 h2 (method_meetsIn slot entry (hpl pos) (dQ (hpl pos) ((Sr pos).seq ok1 F1 he k2 λvs as s2 V2 Y2 ok2 F2 ras st2 k3=>?_))));exact⟨rfl,hf V2 s2 Y2 A Q E v a vs as _ ok2.rel (ra.mono st2.step.le st2.step.tup) ras k3⟩
theorem np{s:Og}(R:cD C V Y s.heap)(r:aB C V s.heap a x)(k:aw (oq x Y) Kc X):s.TypeIs a "list"/\(∀b,a= .ref b->∃ob,s.heap.get? b=some ob/\ob.dict=none)/\Kc () Y:=by
 exists Js,Gz,Kz;exists ak k,n,e,k;exists ck k,xs,eo,k;exists a7 (e▸r),b,d,rfl,ep;exists bR R ep eo,B,B,B,g,B;exact Kz ((bQ g).typeIs) (λb' e=>QJ e▸(aE _ g rfl)) k
theorem rU{s:Og}(R:cD C V Y s.heap)(r:aB C V s.heap a x)(k:aw (ye x Y) Kc X):s.TypeIs a "dict"/\(∀b,a= .ref b->∃ob,s.heap.get? b=some ob/\ob.dict=none)/\Kc () Y:=by
 exists Js,Gz,Kz;exists ak k,n,e,k;exists c8 (ay k),o,eo,k;exists a7 (e▸r),b,d,rfl,ep;rcases bI k with ⟨kvs,e,k⟩ | k
 . exists cj R ep (e▸eo),B,ws,g,B
   exact Kz g.typeIs g.mapOf.noDict k
 . exists ak k,kvs,e,k
   exists nl R ep (e▸eo),B,ws,g,B;exact Kz g.typeIs g.mapOf.noDict k
end
theorem br.congr{K:Ck}(S:br C d K rep m t)(h:∀O,m' O=m O):br C d K rep m' t:=by
 haveI:m'=m:=funext h;erw[this];exact S
section
variable{C:Cx}{d:Nat}{K:Ck}
theorem xi(Sa:br C d K (aW C) ms (eval iter)):nN C d K (λO=>(ms O).bnd λv=>pc false v) iter:=by
 intro V s Y O env A Q E ok F he k;refine Sa V s Y O env A _ E ok F he (aw.mono (ay k) (λv Y1 k1 a s1 V1 st1 ra=>?_) λX X z=>z);exists vj (C:=C) (A:=A) st1.rel ra k1,it,n,kI,jt;exact jt E Q λI h' tk keep fresh itr=>kI s1 V1 I h' tk st1 keep fresh itr
theorem ED(G:lW C P TT)(hk:bb K "range"=true)(hz:cA z=true)(Sa:br C d K (aW C) ms (eval z)):nN C d K (λO=>(ms O).bnd λv=>pc true v) (.Call (.Name "range" p) [z] [] pos):=by
 intro V s Y O env A Q E ok F he k;refine bx G.gl λmg z'0=>bh z'0 λhmg X X X z'1=>fE z'1 λX hr X=>?_;exists eB G.bl,mb,hmb,X,er,X;refine Uj (kA hk ok.rel F he hmg hr hmb er ?_);haveI hpl:(Uc pos (O9 [z] env)).any (·.1)=false:=cN (by simpa using hz);refine RM hpl (dQ hpl ?_);refine(cp hz)▸?_;refine L0 (Sa V s Y O env A _ E ok F he (aw.mono (ay k) (λv Y1 k1 a s1 V1 st1 ra=>Oa ?_) λX X z=>z));exists tz (C:=C) (A:=A) ra (ay k1),n,k2,jt;exact jt E Q λI h' tk keep fresh itr=>k2 s1 V1 I h' tk st1 keep fresh itr
end
noncomputable def jk(TT:List Nat)(K:Ck)(i:Nat)(id:MJ):Bool:=match TT[i]? with
 | some n=>id==ch n&&bb K id|none=>false
mutual
noncomputable def cC(TT:uE):E->Ck->ML->Bool
 | .none,_,x=>(ir x).any λc=>(Gu c.1.1).any λX=>true|.tt,_,x=>(ir x).any λc=>(HB c.1.1).any λb=>b.1|.ff,_,x=>(ir x).any λc=>(HB c.1.1).any λb=> !b.1|.int i,_,x=>(ir x).any λc=>(Jz c.1.1).any λj=>i==j.1|.str n,_,x=>(ir x).any λc=>(Lh c.1.1).any λy=>y.1==ch n&&decide ((gf n).length<=4000)|.bytes l,_,x=>(ir x).any λc=>(Je c.1.1).any λb=>b.1==l.map Nu&&l.all (λc=>decide (c<256))&&decide (l.length<=8000)|.loc i,K,x=>(cR x).any λy=>K.names[i]? ==some y.1.1&&bz K y.1.1&& !(y.1.1==("__debug__":MJ))
 | .fnc i,K,x=>(cR x).any λy=>jk TT.fn K i y.1.1|.glo i,K,x=>(cR x).any λy=>jk TT.glo K i y.1.1|.neg a,K,x=>(Gf x).any λy=>y.1.1==QW&&cC TT a K y.1.2.1|.not_ a,K,x=>(Gf x).any λy=>y.1.1==UnaryOp.Not&&cC TT a K y.1.2.1|.bin op a b,K,x=>(LL x).any λy=>y.1.2.1==j5 op&&cC TT a K y.1.1&&cC TT b K y.1.2.2.1|.cmp op a b,K,x=>(La x).any λy=>(sZ y.1.2.1).any λo=>(sZ y.1.2.2.1).any λr=>o.1==tf op&& !behindInMarks (tf op) r.1&&cC TT a K y.1.1&&cC TT b K r.1|.and_ es,K,x=>(EP x).any λy=>y.1.1==BoolOp.And&& !y.1.2.1.isEmpty&&cZ TT es K y.1.2.1|.or_ es,K,x=>(EP x).any λy=>y.1.1==BoolOp.Or&& !y.1.2.1.isEmpty&&cZ TT es K y.1.2.1|.ifx c a b,K,x=>(Mj x).any λy=>cC TT c K y.1.1&&cC TT a K y.1.2.1&&cC TT b K y.1.2.2.1|.tup es,K,x=>(rN x).any λy=>cZ TT es K y.1.1&&decide (es.length<=4000)|.lst es,K,x=>(Ll x).any λy=>cZ TT es K y.1.1&&decide (es.length<=4000)|.dct ks es,K,x=>(Jb x).any λy=>jP ks y.1.1&&cZ TT es K y.1.2.1&&decide (ks.length<=15)&&decide ks.Nodup&&decide (es.length=ks.length)|.call f es,K,x=>(dy x).any λy=>(cR y.1.1).any λn=>jk TT.fn K f n.1.1&&cZ TT es K y.1.2.1|.callv f es,K,x=>(dy x).any λy=>(cR y.1.1).any λn=>cC TT f K (.Name n.1.1 n.1.2)&&cZ TT es K y.1.2.1|.new c es,K,x=>(dy x).any λy=>(cR y.1.1).any λn=>(kh y.1.2.1).any λl=>jk TT.cls K c n.1.1&&cZ TT es K (l.1.1::l.1.2)|.len a,K,x=>(dy x).any λy=>(cR y.1.1).any λn=>(sZ y.1.2.1).any λz=>n.1.1==("len":MJ)&&bb K n.1.1&&cC TT a K z.1
 | .mkbytes a,K,x=>(dy x).any λy=>(cR y.1.1).any λn=>(sZ y.1.2.1).any λz=>n.1.1==("bytes":MJ)&&bb K n.1.1&&cC TT a K z.1
 | .mktup a,K,x=>(dy x).any λy=>(cR y.1.1).any λn=>(sZ y.1.2.1).any λz=>n.1.1==("tuple":MJ)&&bb K n.1.1&&cC TT a K z.1
 | .mkdict a,K,x=>(dy x).any λy=>(cR y.1.1).any λn=>(sZ y.1.2.1).any λz=>n.1.1==("dict":MJ)&&bb K n.1.1&&cC TT a K z.1
 | .append o a,K,x=>(dy x).any λy=>(jQ y.1.1).any λt=>(sZ y.1.2.1).any λz=>t.1.2.1==("append":MJ)&&dN t.1.1&&t.1.2.2.endLine==y.1.2.2.line&&cC TT o K t.1.1&&cC TT a K z.1
 | .extend o a,K,x=>(dy x).any λy=>(jQ y.1.1).any λt=>(sZ y.1.2.1).any λz=>t.1.2.1==("extend":MJ)&&dN t.1.1&&t.1.2.2.endLine==y.1.2.2.line&&cC TT o K t.1.1&&cC TT a K z.1
 | .get o a,K,x=>(dy x).any λy=>(jQ y.1.1).any λt=>(sZ y.1.2.1).any λz=>t.1.2.1==("get":MJ)&&dN t.1.1&&t.1.2.2.endLine==y.1.2.2.line&&cC TT o K t.1.1&&cC TT a K z.1
 | .update o a,K,x=>(dy x).any λy=>(jQ y.1.1).any λt=>(sZ y.1.2.1).any λz=>t.1.2.1==("update":MJ)&&dN t.1.1&&t.1.2.2.endLine==y.1.2.2.line&&cC TT o K t.1.1&&cC TT a K z.1
 | .insert o i a,K,x=>(dy x).any λy=>(jQ y.1.1).any λt=>(Mv y.1.2.1).any λz=>t.1.2.1==("insert":MJ)&&dN t.1.1&&t.1.2.2.endLine==y.1.2.2.line&&cC TT o K t.1.1&&cC TT i K z.1.1&&cC TT a K z.1.2
 | .attr o a,K,x=>(jQ x).any λy=>y.1.2.1==ch a&&cg.contains a&&dN y.1.1&&cC TT o K y.1.1|.idx o i,K,x=>(pR x).any λy=>nS y.1.2.1&&cC TT o K y.1.1&&cC TT i K y.1.2.1|.slcTo o i,K,x=>(pR x).any λy=>(Ka y.1.2.1).any λe=>cC TT o K y.1.1&&cC TT i K e.1.1|.slcFrom o i,K,x=>(pR x).any λy=>(Dk y.1.2.1).any λe=>cC TT o K y.1.1&&cC TT i K e.1.1|.slcRev o,K,x=>(pR x).any λy=>(IW y.1.2.1).any λe=>(Gf e.1.1).any λu=>(ir u.1.2.1).any λc=>(Jz c.1.1).any λj=>u.1.1==QW&&j.1==1&&cC TT o K y.1.1|.comp elt isR src cond,K,x=>(Lv x).any λy=>(sZ y.1.2.1).any λg=>(cR g.1.target).any λt=>g.1.is_async==0&&eQ K y.1.2.2.1 t.1.1&&cC TT elt (K.comp y.1.2.2.1 t.1.1) y.1.1&&Ki TT cond (K.comp y.1.2.2.1 t.1.1) g.1.ifs&&
    (match isR with
    | true=>(dy g.1.iter).any λz=>(cR z.1.1).any λn=>(sZ z.1.2.1).any λw=>n.1.1==("range":MJ)&&bb K n.1.1&&cC TT src K w.1
    | false=>cC TT src K g.1.iter)
noncomputable def cZ(TT:uE):List E->Ck->List ML->Bool
 | [],_,xs=>match xs with | []=>true | _=>false
 | e::es,K,xs=>match xs with | x::xs=>cC TT e K x&&cZ TT es K xs | _=>false
noncomputable def Ki(TT:uE):Option E->Ck->List ML->Bool
 | none,_,xs=>match xs with | []=>true | _=>false
 | some e,K,xs=>match xs with | [x]=>cC TT e K x | _=>false
end
theorem CX(TT:uE)(K:Ck)(v:ML)(p:Pos):∀e,cC TT e K (.Starred v p)=false:=by
 intro e;cases e<;>rfl
theorem Fo(TT:uE)(K:Ck)(v:List ML)(k:Nat)(p:Pos):∀e,cC TT e K (.Set v k p)=false:=by
 intro e;cases e<;>rfl
theorem bN{K:Ck}(h:cC TT e K x=true):cA x=true:=by
 cases x<;>first | rfl | (rw[CX] at h;exists _)
theorem iw{K:Ck}:∀{es:List E} {xs:List ML},cZ TT es K xs=true->xs.all cA=true
 | [],[],_=>rfl|[],_::_,h=>by simp [cZ] at h
 | _::_,[],h=>by simp [cZ] at h
 | e::es,x::xs,h=>by
   erw[cZ,MY] at h;simp [bN h.1,iw h.2]
theorem i9{K:Ck}:∀{es:List E} {xs:List ML},cZ TT es K xs=true->xs.length=es.length
 | [],[],_=>rfl|[],_::_,h=>by simp [cZ] at h
 | _::_,[],h=>by simp [cZ] at h
 | e::es,x::xs,h=>by
   erw[cZ,MY] at h;simp [i9 h.2]
theorem nu{K:Ck}(h:cC TT e K x=true)(env:Nf)(v:Od):OU x env v=pure v:=by
 cases x<;>first | rfl | (rw[Fo] at h;exists _)
theorem gZ{call:db}:∀(es:List E) (O:UG) (Y:aR) (vs:List PV) (Y':aR),bE call glo init es O Y= .ok vs Y'->vs.length=es.length:=by
 intro es
 induction es with
 | nil=>
   intro _ _ _ _ h;cases h;rfl
 | cons e es gZ=>
   intro O Y vs Y' h;haveI h:((af call glo init e O).bnd λv=>(bE call glo init es O).bnd λvs=>ret (v::vs)) Y= .ok vs Y':=h;unfold M.bnd at h
   cases h1:af call glo init e O Y with
   | exn=>rw[h1] at h;exists _|bad=>rw[h1] at h;exists _|ok v Y1=>
     rw[h1] at h;dsimp only at h
     cases h2:bE call glo init es O Y1 with
     | exn=>erw[h2] at h;exists _|bad=>rw[h2] at h;exists _|ok us Y2=>
       erw[h2] at h;cases h;simp [gZ O Y1 us _ h2]
section
section
variable{C:Cx}{d:Nat}{call:db}
theorem vl{h:Heap}(x:h.Ns a m)(y:h.Ns a m'):m'=m:=by
 exists cps,Gz,Kz;exists cU x,o,es,ep,g,d,X,f;exists cU y,o',es',ep',g',d',X,f';rw[g] at g';obtain rfl:=MI g';rw[d] at d';cases d';refine Kz ?_
 funext n
 erw[<-f n, <-f' n]
set_option tactic.hygienic true in
theorem i5{K:Ck}{id:MJ}(h:jk Tl K i id=true)(Kz:∀n,Tl[i]? =some n->id=ch n->bb K (ch n)=true->Gz):Gz:=by
 unfold jk at h;split at h
 . rename_i n e
   erw[MY] at h;haveI h1:=beq_iff_eq.mp h.1;exact Kz n e h1 (h1▸h.2)
 . exists _
theorem uv{K:Ck}(hx:cA x=true)(Sa:br C d K (aW C) ma (eval x))(pos:Pos):
 br C d K (ij C) (λO=>(ma O).bnd λv=>(ret []).bnd λvs=>ret (v::vs)) (λenv=>O8 (Uc pos (O9 [x] env))):=jj hx Sa ow
theorem BH{K:Ck}(hx:cA x=true)(hy:cA y=true)(Sa:br C d K (aW C) ma (eval x))(Sb:br C d K (aW C) mb (eval y))(pos:Pos):
 br C d K (ij C) (λO=>(ma O).bnd λv=>((mb O).bnd λw=>(ret []).bnd λvs=>ret (w::vs)).bnd λvs=>ret (v::vs)) (λenv=>O8 (Uc pos (O9 [x,y] env))):=jj hx Sa (uv hy Sb pos)
noncomputable def KR(f:PV->PV->M PV)(o:PV):List PV->M PV
 | [v]=>f o v|_=>fX
noncomputable def K6(f:PV->PV->PV->M PV)(o:PV):List PV->M PV
 | [v,w]=>f o v w|_=>fX
theorem FD{ma:M PV}{mo:M PV}{chk:PV->M Unit}:(mo.bnd λo=>(chk o).bnd λX=>ma.bnd λv=>g o v)=mo.bnd λo=>(chk o).bnd λX=>(ma.bnd λv=>(ret []).bnd λvs=>ret (v::vs)).bnd λvs=>KR g o vs:=by
 funext Y
 unfold M.bnd
 cases mo Y with
 | ok o Y1=>
   dsimp only
   cases chk o Y1 with
   | ok u Y2=>dsimp only;cases ma Y2<;>rfl
   | exn=>rfl|bad=>rfl
 | exn=>rfl|bad=>rfl
theorem G5{ma mb:M PV}{mo:M PV}{chk:PV->M Unit}:(mo.bnd λo=>(chk o).bnd λX=>ma.bnd λv=>mb.bnd λw=>g o v w)=
 mo.bnd λo=>(chk o).bnd λX=>(ma.bnd λv=>(mb.bnd λw=>(ret []).bnd λvs=>ret (w::vs)).bnd λvs=>ret (v::vs)).bnd λvs=>K6 g o vs:=by
 funext Y
 unfold M.bnd
 cases mo Y with
 | ok o Y1=>
   dsimp only
   cases chk o Y1 with
   | ok u Y2=>
     dsimp only
     cases ma Y2 with
     | ok v Y3=>dsimp only;cases mb Y3<;>rfl
     | exn=>rfl|bad=>rfl
   | exn=>rfl|bad=>rfl
 | exn=>rfl|bad=>rfl
theorem kK{K:Ck}{mo ma:UG->M PV}{chk:PV->M Unit}{g:PV->PV->M PV}{y z:ML}{name:MJ}{apos pos:Pos}{Ty id:String}{B:Builtin}(hb:dN y=true)(hline:(apos.endLine==pos.line)=true)(hz:cA z=true)
 (pa:PlainAttrs Ty) (slot:Slot Ty name id) (hty:typeOf (.builtin id)=pure (.type "method_descriptor")) (entry:entryFor table id=some B)
 (hchk:∀(V:cV) (s:Og) (Y:aR) (x:PV) (a:Od) (Kc:Unit->aR->Prop) (X:PV->aR->Prop),cD C V Y s.heap->aB C V s.heap a x->aw (chk x Y) Kc X->s.TypeIs a Ty/\(∀b,a= .ref b->∃ob,s.heap.get? b=some ob/\ob.dict=none)/\Kc () Y)
 (hf:∀(V:cV) (s:Og) (Y:aR) (A:Ol) (Q E:Od->Og->Prop) (x y:PV) (a b:Od) (X:PV->aR->Prop),cD C V Y s.heap->aB C V s.heap a x->aB C V s.heap b y->aw (g x y Y) (KV C V s Q) X->pY C A id Ty B a [b] Q E s)
 (So:br C d K (aW C) mo (eval y)) (Sa:br C d K (aW C) ma (eval z)):
 br C d K (aW C) (λO=>(mo O).bnd λo=>(chk o).bnd λu=>(ma O).bnd λv=>g o v) (eval (.Call (.Attribute y name apos) [z] [] pos)):=
 (sd hb hline (by simpa using hz) (by simp) pa slot hty entry hchk (f:=λo vs=>KR g o vs) (λV s Y A Q E x a ys bs X R ra ras k=>by
   cases ras with
   | nil=>exact(show False from k).elim
   | cons rb rr=>cases rr with
     | nil=>exact hf V s Y A Q E _ _ _ _ X R ra rb k
     | cons _ _=>exact(show False from k).elim) So (uv hz Sa)).congr λO=>FD
theorem m2{K:Ck}{mo ma mb:UG->M PV}{chk:PV->M Unit}{g:PV->PV->PV->M PV}{Ty id:String}(hb:dN y=true)(hline:(apos.endLine==pos.line)=true)(hz:cA z=true)(hw:cA w=true)
 (pa:PlainAttrs Ty) (slot:Slot Ty name id) (hty:typeOf (.builtin id)=pure (.type "method_descriptor")) (entry:entryFor table id=some B)
 (hchk:∀(V:cV) (s:Og) (Y:aR) (x:PV) (a:Od) (Kc:Unit->aR->Prop) (X:PV->aR->Prop),cD C V Y s.heap->aB C V s.heap a x->aw (chk x Y) Kc X->s.TypeIs a Ty/\(∀b,a= .ref b->∃ob,s.heap.get? b=some ob/\ob.dict=none)/\Kc () Y)
 (hf:∀(V:cV) (s:Og) (Y:aR) (A:Ol) (Q E:Od->Og->Prop) (x y z:PV) (a b c:Od) (X:PV->aR->Prop),cD C V Y s.heap->aB C V s.heap a x->aB C V s.heap b y->aB C V s.heap c z->aw (g x y z Y) (KV C V s Q) X->pY C A id Ty B a [b,c] Q E s)
 (So:br C d K (aW C) mo (eval y)) (Sa:br C d K (aW C) ma (eval z)) (Sb:br C d K (aW C) mb (eval w)):
 br C d K (aW C) (λO=>(mo O).bnd λo=>(chk o).bnd λq=>(ma O).bnd λv=>(mb O).bnd λu=>g o v u) (eval (.Call (.Attribute y name apos) [z,w] [] pos)):=
 (sd hb hline (by simp [hz,hw]) (by simp) pa slot hty entry hchk (f:=λo vs=>K6 g o vs) (λV s Y A Q E x a ys bs X R ra ras k=>by
   cases ras with
   | nil=>exact(show False from k).elim
   | cons rb rr=>cases rr with
     | nil=>exact(show False from k).elim
     | cons rc rr=>cases rr with
       | nil=>exact hf V s Y A Q E _ _ _ _ _ _ X R ra rb rc k
       | cons _ _=>exact(show False from k).elim) So (BH hz hw Sa Sb)).congr λO=>G5
def EB(C:Cx)(d:Nat)(P:J2)(call:db)(e:E)(K:Ck)(x:ML):Prop:=br C d K (aW C) (af call P.glo P.init e) (eval x)/\br C d K gk (λO=>(af call P.glo P.init e O).bnd λv=>bW v) (λenv=>isTrue x env (eval x env))
def Lz(x:ML):Prop:=∀env,isTrue x env (eval x env)=(do let v <-eval x env;OZ x.pos;O3 [v] (truthy v))
theorem EB.of{K:Ck}(S:br C d K (aW C) (af call P.glo P.init e) (eval x))(hx:Lz x):EB C d P call e K x:=⟨S,y9 S hx⟩
theorem EB.at{K:Ck}(h:x=x')(S:EB C d P call e K x'):EB C d P call e K x:=h▸S
section
variable{K:Ck}{x y z:ML}{a b o i:E}{es:List E}{k n:Nat}{p q:Pos}
theorem JG(e:c= .none):EB C d P call .none K (.Constant c k p):=e▸ .of Dg λX=>rfl
theorem LX{b:Bool}(e:c= .bool b)(h:b=true):EB C d P call .tt K (.Constant c k p):=by subst e h;exact .of wx λX=>rfl
theorem LZ{b:Bool}(e:c= .bool b)(h:(!b)=true):EB C d P call .ff K (.Constant c k p):=by obtain rfl:=dI h;subst e;exact .of wx λX=>rfl
theorem Hx{i j:Int}(e:c= .int j)(h:(i==j)=true):EB C d P call (.int i) K (.Constant c k p):=by obtain rfl:=beq_iff_eq.mp h;subst e;exact .of GK λX=>rfl
theorem KQ{s:MJ}(e:c= .str s)(h:(s==ch n&&decide ((gf n).length<=4000))=true):EB C d P call (.str n) K (.Constant c k p):=by
 obtain rfl:=beq_iff_eq.mp (aa h);subst e;exact .of (GI (UD (ae h))) λX=>rfl
theorem G2{s:List UInt8}(e:c= .bytes s)(h:(s==l.map Nu&&l.all (λc=>decide (c<256))&&decide (l.length<=8000))=true):EB C d P call (.bytes l) K (.Constant c k p):=by
 obtain rfl:=beq_iff_eq.mp (aa (aa h));subst e;exact .of (Bb (λc hc=>UD (M8.mp (ae (aa h)) c hc)) (UD (ae h))) λX=>rfl
theorem HW{id:MJ}(h:(K.names[n]? ==some id&&bz K id&& !(id==("__debug__":MJ)))=true):EB C d P call (.loc n) K (.Name id p):= .of (zU (beq_iff_eq.mp (aa (aa h))) (ae (aa h)) (dI (ae h))) λX=>rfl
theorem LM(G:lW C P TT){id:MJ}(h:jk TT.fn K n id=true):EB C d P call (.fnc n) K (.Name id p):=by
 exists i5 h,n,h1,rfl,h3;exact .of (Hg G h1 h3) λX=>rfl
theorem Lw(G:lW C P TT){id:MJ}(h:jk TT.glo K n id=true):EB C d P call (.glo n) K (.Name id p):=by
 exists i5 h,n,h1,rfl,h3;exact .of (GX G h1 h3) λX=>rfl
theorem K2(h:(op==QW)=true)(S:EB C d P call a K x):EB C d P call (.neg a) K (.UnaryOp op x p):=by
 obtain rfl:=beq_iff_eq.mp h;exact .of (GQ S.1) λX=>rfl
theorem LN(h:(op==UnaryOp.Not)=true)(S:EB C d P call a K x):EB C d P call (.not_ a) K (.UnaryOp op x p):=by
 obtain rfl:=beq_iff_eq.mp h;exact⟨Fi S.1,Db S.2⟩
theorem Lk{o:Ot}(h:(o==j5 op)=true)(S:EB C d P call a K x)(S2:EB C d P call b K y):EB C d P call (.bin op a b) K (.BinOp x o y p):=by
 obtain rfl:=beq_iff_eq.mp h;exact .of (Gx S.1 S2.1) λX=>rfl
theorem LG(G:lW C P TT){o:CmpOp}{os:List CmpOp}(e1:os=[o])(e2:ys=[y])(h:(o==tf op&& !behindInMarks (tf op) y)=true)(S:EB C d P call a K x)(S2:EB C d P call b K y):EB C d P call (.cmp op a b) K (.Compare x os ys p):=by
 obtain rfl:=beq_iff_eq.mp (aa h);subst e1 e2;exact⟨Ge G.sys S.1 S2.1 (dI (ae h)),EA G.sys S.1 S2.1 (dI (ae h))⟩
theorem Kr(h:(op==BoolOp.And)=true)(h0:(!xs.isEmpty)=true)(S:xs≠[]->br C d K (aW C) (λO=>(d7 call P.glo P.init es O).bnd λb=>ret (.bool b)) (eval (.BoolOp .And xs p)))(S2:br C d K gk (d7 call P.glo P.init es) (λenv=>isTrue (.BoolOp .And xs p) env (eval (.BoolOp .And xs p) env))):EB C d P call (.and_ es) K (.BoolOp op xs p):=by
 obtain rfl:=beq_iff_eq.mp h;exact⟨S (λe=>by rw[e] at h0;exists _),Au S2⟩
theorem Mq(h:(op==BoolOp.Or)=true)(h0:(!xs.isEmpty)=true)(S:xs≠[]->br C d K (aW C) (λO=>(fH call P.glo P.init es O).bnd λb=>ret (.bool b)) (eval (.BoolOp .Or xs p)))(S2:br C d K gk (fH call P.glo P.init es) (λenv=>isTrue (.BoolOp .Or xs p) env (eval (.BoolOp .Or xs p) env))):EB C d P call (.or_ es) K (.BoolOp op xs p):=by
 obtain rfl:=beq_iff_eq.mp h;exact⟨S (λe=>by rw[e] at h0;exists _),Au S2⟩
theorem KW(Sc:EB C d P call c K z)(Sa:EB C d P call a K x)(Sb:EB C d P call b K y):EB C d P call (.ifx c a b) K (.IfExp z x y p):=by
 refine⟨zL Sc.2 Sa.1 Sb.1 λenv A Q E s k=>IfExp_ k,?_⟩;refine(zL Sc.2 Sa.2 Sb.2 λenv A Q E s k=>isTrue_IfExp k).congr λO=>?_;show(((af call P.glo P.init c O).bnd λv=>(bW v).bnd λt=>match t with | true=>af call P.glo P.init a O | false=>af call P.glo P.init b O).bnd λv=>bW v)=_;rw[cf]
 congr 1
 funext v
 rw[cf]
 congr 1
 funext t
 cases t<;>rfl
theorem Ku(h:(jP ks keys&&cZ TT es K xs&&decide (ks.length<=15)&&decide ks.Nodup&&decide (es.length=ks.length))=true)
 (S:jP ks keys=true->cZ TT es K xs=true->es.length=ks.length->∀pos,br C d K (BK C ks) (bE call P.glo P.init es) (λenv=>Ud (Ue keys xs env pos))):EB C d P call (.dct ks es) K (.Dict keys xs p):=by
 haveI h5:=UD (ae h);haveI h4:=UD (ae (aa h));haveI h3:=UD (ae (aa (aa h)));haveI h2:=ae (aa (aa (aa h)));haveI h1:=aa (aa (aa (aa h)));clear h;haveI hl:=(j3 h1).2;haveI hx:=i9 h2;haveI S:=S h1 h2 h5;refine .of ?_ (λX=>rfl)
 cases ks with
 | nil=>
   obtain rfl:keys=[]:=NJ.mp hl;obtain rfl:es=[]:=NJ.mp h5;obtain rfl:xs=[]:=NJ.mp hx;clear S h1 h2 h3 h4 h5 hl hx;intro V s Y O env A Q E ok F he k;refine wpAny_Dict_empty ?_;refine bj (ok.rel.pushed (ob:={cls:= .type "dict",data:= .dict #[]}) (o:= .dictS []) rfl λkk g=>(dY rfl (by simp) ([]) (RG s.heap) .nil)) λR' S'=>?_;exact k (.ref s.heap.objs.size) _ _ ⟨S',R',rfl,rfl,rfl⟩ (.ref (iP ok.rel _))
 | cons k0 ks=>exact FC h1 (by erw[hl,hx,h5]) (List.cons_ne_nil _ _) h3 h4 (S _)
theorem Iv(G:lW C P TT)(HC:d5 C call d){id:MJ}(e:x= .Name id q)(h:jk TT.fn K n id=true)(h2:cZ TT es K xs=true)(S:∀pos,br C d K (ij C) (bE call P.glo P.init es) (λenv=>O8 (Uc pos (O9 xs env)))):EB C d P call (.call n es) K (.Call x xs [] p):=by
 exists i5 h,n,h1,rfl,h3;subst e;exact .of (Dm G HC h1 h3 (iw h2) S) λX=>rfl
theorem Gn(G:lW C P TT)(HC:d5 C call d){id:MJ}{xs:List ML}(e:x= .Name id q)(h2:cZ TT es K xs=true)(S0:EB C d P call a K (.Name id q))(S:∀pos,br C d K (ij C) (bE call P.glo P.init es) (λenv=>O8 (Uc pos (O9 xs env)))):EB C d P call (.callv a es) K (.Call x xs [] p):=by
 subst e;exact .of (Bl G HC (iw h2) S0.1 S) λX=>rfl
theorem LH(G:lW C P TT)(HC:d5 C call d){id:MJ}(e:x= .Name id q)(e2:xs=y::ys)(h:jk TT.cls K n id=true)(h2:cZ TT es K (y::ys)=true)(S:∀pos,br C d K (ij C) (bE call P.glo P.init es) (λenv=>O8 (Uc pos (O9 (y::ys) env)))):EB C d P call (.new n es) K (.Call x xs [] p):=by
 exists i5 h,n,h1,rfl,h3;subst e e2;exact .of (FL G HC h1 h3 (iw h2) S) λX=>rfl
theorem K1(G:lW C P TT){id:MJ}{xs:List ML}(e:x= .Name id q)(e2:xs=[y])(h:(id==("len":MJ)&&bb K id)=true)(h2:cC TT a K y=true)(S:EB C d P call a K y):EB C d P call (.len a) K (.Call x xs [] p):=by
 obtain rfl:=beq_iff_eq.mp (aa h);subst e e2;refine bx G.gl λmg z'0=>bh z'0 λhmg B B B z'1=>bj z'1 λhr B=>?_;exists cF G.bl,mb,hmb,er,B;exact .of (uB G (ae h) (λmg' h'=>vl h' hmg▸hr) (aE mb hmb er) (bN h2) S.1 λV s Y A Q E y b X B R rb k=>wW R rb k) λB=>rfl
theorem Bk(G:lW C P TT){id:MJ}{xs:List ML}(e:x= .Name id q)(e2:xs=[y])(h:(id==("bytes":MJ)&&bb K id)=true)(h2:cC TT a K y=true)(S:EB C d P call a K y):EB C d P call (.mkbytes a) K (.Call x xs [] p):=by
 obtain rfl:=beq_iff_eq.mp (aa h);subst e e2;refine bx G.gl λmg z'0=>bh z'0 λhmg B B B z'1=>fg z'1 λB B hr B=>?_;refine bx G.bl λmb z'0=>bh z'0 λhmb B B er B=>?_;exact .of (oU G (ae h) (λmg' h'=>vl h' hmg▸hr) (aE mb hmb er) (bN h2) S.1 λV s Y A Q E y b X hh R rb k=>tF hh R rb k) λB=>rfl
theorem Gd(G:lW C P TT){id:MJ}{xs:List ML}(e:x= .Name id q)(e2:xs=[y])(h:(id==("tuple":MJ)&&bb K id)=true)(h2:cC TT a K y=true)(S:EB C d P call a K y):EB C d P call (.mktup a) K (.Call x xs [] p):=by
 obtain rfl:=beq_iff_eq.mp (aa h);subst e e2;refine bx G.gl λmg z'0=>bh z'0 λhmg B B B z'1=>bh z'1 λB B B hr B=>?_;refine bx G.bl λmb z'0=>bh z'0 λhmb B B B z'1=>bj z'1 λer B=>?_;exact .of (oU G (ae h) (λmg' h'=>vl h' hmg▸hr) (aE mb hmb er) (bN h2) S.1 λV s Y A Q E y b X B R rb k=>xb R rb k) λB=>rfl
theorem Dc(G:lW C P TT){id:MJ}{xs:List ML}(e:x= .Name id q)(e2:xs=[y])(h:(id==("dict":MJ)&&bb K id)=true)(h2:cC TT a K y=true)(S:EB C d P call a K y):EB C d P call (.mkdict a) K (.Call x xs [] p):=by
 obtain rfl:=beq_iff_eq.mp (aa h);subst e e2;refine bx G.gl λmg z'0=>bh z'0 λhmg B B B z'1=>bh z'1 λB B B B hr=>?_;refine bx G.bl λmb z'0=>bh z'0 λhmb B B B z'1=>bj z'1 λB er=>?_;exact .of (oU G (ae h) (λmg' h'=>vl h' hmg▸hr) (aE mb hmb er) (bN h2) S.1 λV s Y A Q E y b X B R rb k=>uQ G.sys R rb k) λB=>rfl
theorem mt{id w:MJ}(e:x= .Attribute y0 id ap)(h:(id==w&&dN y0&&ap.endLine==p.line&&cC TT o K y0)=true):x= .Attribute y0 w ap/\dN y0=true/\(ap.endLine==p.line)=true/\cC TT o K y0=true:=
 (eK (beq_iff_eq.mp (aa (aa (aa h)))▸e) (ae (aa (aa h))) (ae (aa h)) (ae h))
theorem Em(h:x= .Attribute y "append" ap/\dN y=true/\(ap.endLine==p.line)=true/\cC TT o K y=true)(e2:xs=[z])(h2:cC TT a K z=true)(So:EB C d P call o K y)(Sa:EB C d P call a K z):EB C d P call (.append o a) K (.Call x xs [] p):=by
 exists fg h,rfl,h3,h4,B;subst e2;exact .of (kK h3 h4 (bN h2) Qk PySem.F.slot_list_append PySem.F.type_list_append PySem.F.entry_list_append (λV s Y x a Kc X R r k=>np R r k) (λV s Y A Q E x y a b X R ra rb k=>rj R ra rb k) So.1 Sa.1) λB=>rfl
theorem DZ(h:x= .Attribute y "extend" ap/\dN y=true/\(ap.endLine==p.line)=true/\cC TT o K y=true)(e2:xs=[z])(h2:cC TT a K z=true)(So:EB C d P call o K y)(Sa:EB C d P call a K z):EB C d P call (.extend o a) K (.Call x xs [] p):=by
 exists fg h,rfl,h3,h4,B;subst e2;exact .of (kK h3 h4 (bN h2) Qk PySem.F.slot_list_extend PySem.F.type_list_extend PySem.F.entry_list_extend (λV s Y x a Kc X R r k=>np R r k) (λV s Y A Q E x y a b X R ra rb k=>rQ R ra rb k) So.1 Sa.1) λB=>rfl
theorem KB(G:lW C P TT)(h:x= .Attribute y "get" ap/\dN y=true/\(ap.endLine==p.line)=true/\cC TT o K y=true)(e2:xs=[z])(h2:cC TT a K z=true)(So:EB C d P call o K y)(Sa:EB C d P call a K z):EB C d P call (.get o a) K (.Call x xs [] p):=by
 exists fg h,rfl,h3,h4,B;subst e2;exact .of (kK h3 h4 (bN h2) Rq PySem.F.slot_dict_get PySem.F.type_dict_get PySem.F.entry_dict_get (λV s Y x a Kc X R r k=>rU R r k) (λV s Y A Q E x y a b X R ra rb k=>xE G.sys R ra rb k) So.1 Sa.1) λB=>rfl
theorem C4(G:lW C P TT)(h:x= .Attribute y "update" ap/\dN y=true/\(ap.endLine==p.line)=true/\cC TT o K y=true)(e2:xs=[z])(h2:cC TT a K z=true)(So:EB C d P call o K y)(Sa:EB C d P call a K z):EB C d P call (.update o a) K (.Call x xs [] p):=by
 exists fg h,rfl,h3,h4,B;subst e2;exact .of (kK h3 h4 (bN h2) Rq PySem.F.slot_dict_update PySem.F.type_dict_update PySem.F.entry_dict_update (λV s Y x a Kc X R r k=>rU R r k) (λV s Y A Q E x y a b X R ra rb k=>sJ G.sys R ra rb k) So.1 Sa.1) λB=>rfl
theorem Ek(h:x= .Attribute y "insert" ap/\dN y=true/\(ap.endLine==p.line)=true/\cC TT o K y=true)(e2:xs=[z,w])(h1:cC TT i K z=true)(h2:cC TT a K w=true)(So:EB C d P call o K y)(Si:EB C d P call i K z)(Sa:EB C d P call a K w):EB C d P call (.insert o i a) K (.Call x xs [] p):=by
 exists fg h,rfl,h3,h4,B;subst e2;exact .of (m2 h3 h4 (bN h1) (bN h2) Qk PySem.F.slot_list_insert PySem.F.type_list_insert PySem.F.entry_list_insert (λV s Y x a Kc X R r k=>np R r k) (λV s Y A Q E x y z a b c X R ra rb rc k=>sF R ra rb rc k) So.1 Si.1 Sa.1) λB=>rfl
theorem J7(G:lW C P TT){id:MJ}(h:(id==ch n&&cg.contains n&&dN x)=true)(S:EB C d P call o K x):EB C d P call (.attr o n) K (.Attribute x id p):=by
 obtain rfl:=beq_iff_eq.mp (aa (aa h));exact .of (DA G S.1 (ae h) (Pj.mp (ae (aa h)))) λX=>rfl
theorem FU(e:y= .Slice none (some z) none q)(So:EB C d P call o K x)(Si:EB C d P call i K z):EB C d P call (.slcTo o i) K (.Subscript x y p):=e▸ .of (BU So.1 Si.1) λX=>rfl
theorem Bg(e:y= .Slice (some z) none none q)(So:EB C d P call o K x)(Si:EB C d P call i K z):EB C d P call (.slcFrom o i) K (.Subscript x y p):=e▸ .of (wq So.1 Si.1) λX=>rfl
theorem CM(e:y= .Slice none none (some z) q)(e1:z= .UnaryOp op w p1)(e2:w= .Constant c k p2)(e3:c= .int j)(h:(op==QW&&j==1)=true)(So:EB C d P call o K x):EB C d P call (.slcRev o) K (.Subscript x y p):=by
 obtain rfl:=beq_iff_eq.mp (aa h);obtain rfl:=beq_iff_eq.mp (ae h);subst e e1 e2 e3;exact .of (zb So.1) λX=>rfl
theorem C2{g:O5}{id:MJ}(e1:gs=[g])(e2:g.target= .Name id q)(h:(g.is_async==0)=true)(h2:eQ K sc id=true)(Sa:EB C d P call a (K.comp sc id) x)(Sc:br C d (K.comp sc id) gk (wg call P.glo P.init c) (jO g.ifs))
 (Si:nN C d K (λO=>(af call P.glo P.init o O).bnd λv=>pc r v) g.iter) (hf:∀env v,OU g.iter env v=pure v):EB C d P call (.comp a r o c) K (.ListComp x gs sc p):=by
 obtain⟨tg,iter,ifs,as⟩:=g;dsimp only at e2;obtain rfl:as=0:=beq_iff_eq.mp h;subst e1 e2;refine .of ((yY Si Sa.1 Sc h2 hf).congr λO=>?_) λX=>rfl;show((af call P.glo P.init o O).bnd λv=>_)=_;erw[cf,cf]
theorem Aw(G:lW C P TT){id:MJ}(e:x= .Call y xs [] p)(e1:y= .Name id q)(e2:xs=[z])(h:(id==("range":MJ)&&bb K id)=true)(h2:cC TT a K z=true)(S:EB C d P call a K z):nN C d K (λO=>(af call P.glo P.init a O).bnd λv=>pc true v) x/\∀env v,OU x env v=pure v:=by
 obtain rfl:=beq_iff_eq.mp (aa h);subst e e1 e2;exact⟨ED G (ae h) (bN h2) S.1,λX X=>rfl⟩
end
variable(G:lW C P TT)(HC:d5 C call d)
include G HC
mutual
theorem aY:∀(e:E) (K:Ck) (x:ML),cC TT e K x=true->EB C d P call e K x
 | .none,K,x,h=>az h λy hy=>az hy λz X=> .at y.2 (JG z.2)|.tt,K,x,h=>az h λy hy=>az hy λz hz=> .at y.2 (LX z.2 hz)|.ff,K,x,h=>az h λy hy=>az hy λz hz=> .at y.2 (LZ z.2 hz)|.int i,K,x,h=>az h λy hy=>az hy λz hz=> .at y.2 (Hx z.2 hz)|.str n,K,x,h=>az h λy hy=>az hy λz hz=> .at y.2 (KQ z.2 hz)|.bytes l,K,x,h=>az h λy hy=>az hy λz hz=> .at y.2 (G2 z.2 hz)|.loc i,K,x,h=>az h λy hy=> .at y.2 (HW hy)|.fnc i,K,x,h=>az h λy hy=> .at y.2 (LM G hy)|.glo i,K,x,h=>az h λy hy=> .at y.2 (Lw G hy)|.neg a,K,x,h=>az h λy hy=> .at y.2 (K2 (aa hy) (aY a K _ (ae hy)))|.not_ a,K,x,h=>az h λy hy=> .at y.2 (LN (aa hy) (aY a K _ (ae hy)))|.bin op a b,K,x,h=>az h λy hy=> .at y.2 (Lk (aa (aa hy)) (aY a K _ (ae (aa hy))) (aY b K _ (ae hy)))|.cmp op a b,K,x,h=>az h λy hy=>az hy λz hz=>az hz λw hw=> .at y.2 (LG G z.2 w.2 (aa (aa hw)) (aY a K _ (ae (aa hw))) (aY b K _ (ae hw)))|.and_ es,K,x,h=>az h λy hy=> .at y.2 (Kr (aa (aa hy)) (ae (aa hy)) (λh0=>DO es K _ _ h0 (ae hy)) (zF es K _ _ _ (ae hy)))|.or_ es,K,x,h=>az h λy hy=> .at y.2 (Mq (aa (aa hy)) (ae (aa hy)) (λh0=>HV es K _ _ h0 (ae hy)) (Du es K _ _ _ (ae hy)))|.ifx c a b,K,x,h=>az h λy hy=> .at y.2 (KW (aY c K _ (aa (aa hy))) (aY a K _ (ae (aa hy))) (aY b K _ (ae hy)))|.tup es,K,x,h=>az h λy hy=> .at y.2 (.of (G7 (UD (ae hy)) (gZ es) (uo es K _ (aa hy) _)) λX=>rfl)|.lst es,K,x,h=>az h λy hy=> .at y.2 (.of (Hd (UD (ae hy)) (gZ es) (uo es K _ (aa hy) _)) λX=>rfl)|.dct ks es,K,x,h=>az h λy hy=> .at y.2 (Ku hy λh1 h2 h3 pos=>Hv es K ks _ _ h1 h2 h3 pos)|.call f es,K,x,h=>az h λy hy=>az hy λz hz=> .at y.2 (Iv G HC z.2 (aa hz) (ae hz) λpos=>uo es K _ (ae hz) pos)|.callv f es,K,x,h=>az h λy hy=>az hy λz hz=> .at y.2 (Gn G HC z.2 (ae hz) (aY f K _ (aa hz)) λpos=>uo es K _ (ae hz) pos)|.new c es,K,x,h=>az h λy hy=>az hy λz hz=>az hz λw hw=> .at y.2 (LH G HC z.2 w.2 (aa hw) (ae hw) λpos=>uo es K _ (ae hw) pos)|.len a,K,x,h=>az h λy hy=>az hy λz hz=>az hz λw hw=> .at y.2 (K1 G z.2 w.2 (aa hw) (ae hw) (aY a K _ (ae hw)))|.mkbytes a,K,x,h=>az h λy hy=>az hy λz hz=>az hz λw hw=> .at y.2 (Bk G z.2 w.2 (aa hw) (ae hw) (aY a K _ (ae hw)))|.mktup a,K,x,h=>az h λy hy=>az hy λz hz=>az hz λw hw=> .at y.2 (Gd G z.2 w.2 (aa hw) (ae hw) (aY a K _ (ae hw)))|.mkdict a,K,x,h=>az h λy hy=>az hy λz hz=>az hz λw hw=> .at y.2 (Dc G z.2 w.2 (aa hw) (ae hw) (aY a K _ (ae hw)))|.append o a,K,x,h=>az h λy hy=>az hy λz hz=>az hz λw hw=> .at y.2 (Em (mt z.2 (aa hw)) w.2 (ae hw) (aY o K _ (ae (aa hw))) (aY a K _ (ae hw)))|.extend o a,K,x,h=>az h λy hy=>az hy λz hz=>az hz λw hw=> .at y.2 (DZ (mt z.2 (aa hw)) w.2 (ae hw) (aY o K _ (ae (aa hw))) (aY a K _ (ae hw)))|.get o a,K,x,h=>az h λy hy=>az hy λz hz=>az hz λw hw=> .at y.2 (KB G (mt z.2 (aa hw)) w.2 (ae hw) (aY o K _ (ae (aa hw))) (aY a K _ (ae hw)))|.update o a,K,x,h=>az h λy hy=>az hy λz hz=>az hz λw hw=> .at y.2 (C4 G (mt z.2 (aa hw)) w.2 (ae hw) (aY o K _ (ae (aa hw))) (aY a K _ (ae hw)))|.insert o i a,K,x,h=>az h λy hy=>az hy λz hz=>az hz λw hw=> .at y.2 (Ek (mt z.2 (aa (aa hw))) w.2 (ae (aa hw)) (ae hw) (aY o K _ (ae (aa (aa hw)))) (aY i K _ (ae (aa hw))) (aY a K _ (ae hw)))|.attr o a,K,x,h=>az h λy hy=> .at y.2 (J7 G (aa hy) (aY o K _ (ae hy)))|.idx o i,K,x,h=>az h λy hy=> .at y.2 (.of (Fu (aY o K _ (ae (aa hy))).1 (aY i K _ (ae hy)).1 (aa (aa hy))) λX=>rfl)|.slcTo o i,K,x,h=>az h λy hy=>az hy λz hz=> .at y.2 (FU z.2 (aY o K _ (aa hz)) (aY i K _ (ae hz)))|.slcFrom o i,K,x,h=>az h λy hy=>az hy λz hz=> .at y.2 (Bg z.2 (aY o K _ (aa hz)) (aY i K _ (ae hz)))|.slcRev o,K,x,h=>az h λy hy=>az hy λz hz=>az hz λu hu=>az hu λc hc=>az hc λj hj=> .at y.2 (CM z.2 u.2 c.2 j.2 (aa hj) (aY o K _ (ae hj)))|.comp elt false src cond,K,x,h=>az h λy hy=>az hy λg hg=>az hg λt ht=> .at y.2 (C2 g.2 t.2 (aa (aa (aa (aa ht)))) (ae (aa (aa (aa ht)))) (aY elt _ _ (ae (aa (aa ht)))) (JE cond _ _ (ae (aa ht))) (xi (aY src K _ (ae ht)).1) (nu (ae ht)))|.comp elt true src cond,K,x,h=>az h λy hy=>az hy λg hg=>az hg λt ht=>az (ae ht) λz hz=>az hz λn hn=>az hn λw hw=>
   haveI I:=Aw G z.2 n.2 w.2 (aa hw) (ae hw) (aY src K _ (ae hw))
   .at y.2 (C2 g.2 t.2 (aa (aa (aa (aa ht)))) (ae (aa (aa (aa ht)))) (aY elt _ _ (ae (aa (aa ht)))) (JE cond _ _ (ae (aa ht))) I.1 I.2)
theorem uo:∀(es:List E) (K:Ck) (xs:List ML),cZ TT es K xs=true->∀pos,br C d K (ij C) (bE call P.glo P.init es) (λenv=>O8 (Uc pos (O9 xs env)))
 | [],K,xs,h,pos=>by
   cases xs with
   | nil=>exact ow|cons _ _=>simp [cZ] at h
 | e::es,K,xs,h,pos=>by
   cases xs with
   | nil=>simp [cZ] at h|cons x xs=>
     erw[cZ,MY] at h;exact jj (bN h.1) (aY e K x h.1).1 (uo es K xs h.2 pos)
theorem Hv:∀(es:List E) (K:Ck) (ks:List Nat) (keys:List (Option ML)) (xs:List ML),jP ks keys=true->cZ TT es K xs=true->es.length=ks.length->∀pos,br C d K (BK C ks) (bE call P.glo P.init es) (λenv=>Ud (Ue keys xs env pos))
 | [],K,ks,keys,xs,hk,h,hl,pos=>by
   cases xs with
   | nil=>
     haveI e1:ks=[]:=NJ.mp hl.symm;subst e1;haveI e2:keys=[]:=NJ.mp (j3 hk).2;subst e2;exact tK
   | cons _ _=>simp [cZ] at h
 | e::es,K,ks,keys,xs,hk,h,hl,pos=>by
   cases xs with
   | nil=>simp [cZ] at h|cons x xs=>
     erw[cZ,MY] at h
     cases ks with
     | nil=>exists _|cons k ks=>
       exists mB hk,c,p,keys',rfl,hk';exact rf (aY e K x h.1).1 (Hv es K ks _ xs hk' h.2 (by simpa using hl) pos)
theorem JE:∀(c:Option E) (K:Ck) (xs:List ML),Ki TT c K xs=true->br C d K gk (wg call P.glo P.init c) (jO xs)
 | none,K,xs,h=>by
   cases xs with
   | nil=>exactλX X X X X X X X ok X X k=>wpAny_tests_nil (k _ _ _ (St.refl ok.rel) rfl)|cons _ _=>simp [Ki] at h
 | some e,K,xs,h=>by
   erw[Ki] at h;split at h
   . exactλV s Y O env A Q E ok F he k=>wpAny_tests_one ((aY e K _ h).2 V s Y O env A Q E ok F he k)
   . cases h
theorem DO:∀(es:List E) (K:Ck) (xs:List ML) (pos:Pos),xs≠[]->cZ TT es K xs=true->br C d K (aW C) (λO=>(d7 call P.glo P.init es O).bnd λb=>ret (.bool b)) (eval (.BoolOp .And xs pos))
 | [],K,xs,pos,h0,h=>by
   cases xs with
   | nil=>exact absurd rfl h0|cons _ _=>simp [cZ] at h
 | e::es,K,xs,pos,h0,h=>by
   cases xs with
   | nil=>exact absurd rfl h0|cons x xs=>
     erw[cZ,MY] at h
     cases xs with
     | nil=>
       have e1:es=[]:=NJ.mp (i9 h.2).symm;subst e1;exact xI (aY e K x h.1).1
     | cons y ys=>exact vY (aY e K x h.1).1 (DO es K (y::ys) pos (by simp) h.2)
theorem HV:∀(es:List E) (K:Ck) (xs:List ML) (pos:Pos),xs≠[]->cZ TT es K xs=true->br C d K (aW C) (λO=>(fH call P.glo P.init es O).bnd λb=>ret (.bool b)) (eval (.BoolOp .Or xs pos))
 | [],K,xs,pos,h0,h=>by
   cases xs with
   | nil=>exact absurd rfl h0|cons _ _=>simp [cZ] at h
 | e::es,K,xs,pos,h0,h=>by
   cases xs with
   | nil=>exact absurd rfl h0|cons x xs=>
     erw[cZ,MY] at h
     cases xs with
     | nil=>
       have e1:es=[]:=NJ.mp (i9 h.2).symm;subst e1;exact yW (aY e K x h.1).1
     | cons y ys=>exact wK (aY e K x h.1).1 (HV es K (y::ys) pos (by simp) h.2)
theorem zF:∀(es:List E) (K:Ck) (xs:List ML) (pos:Pos) (whole:Nf->Sem Od),cZ TT es K xs=true->br C d K gk (d7 call P.glo P.init es) (λenv=>isTrue (.BoolOp .And xs pos) env (whole env))
 | [],K,xs,pos,whole,h=>by
   cases xs with
   | nil=>exact vN|cons _ _=>simp [cZ] at h
 | e::es,K,xs,pos,whole,h=>by
   cases xs with
   | nil=>simp [cZ] at h|cons x xs=>
     erw[cZ,MY] at h;exact tr (aY e K x h.1).2 (zF es K xs pos whole h.2)
theorem Du:∀(es:List E) (K:Ck) (xs:List ML) (pos:Pos) (whole:Nf->Sem Od),cZ TT es K xs=true->br C d K gk (fH call P.glo P.init es) (λenv=>isTrue (.BoolOp .Or xs pos) env (whole env))
 | [],K,xs,pos,whole,h=>by
   cases xs with
   | nil=>exact yo|cons _ _=>simp [cZ] at h
 | e::es,K,xs,pos,whole,h=>by
   cases xs with
   | nil=>simp [cZ] at h|cons x xs=>
     erw[cZ,MY] at h;exact vw (aY e K x h.1).2 (Du es K xs pos whole h.2)
end
end
end
def HH(env:Nf)(b:Addr):Prop:=b=env.locals\/∃c∈env.cells,b=c.2
structure q0(env:Nf)(V V':cV)(h h':Heap):Prop where
 le:d2 V V'
 stay:∀b o,h.get? b=some o->hP V b->¬HH env b->nQ h' b o
 new:∀p∈V',p∈V\/(h.get? p.1=none/\h.get? p.2=none)
 tup:bo h h'
 there:∀b o,h.get? b=some o->∃o',h'.get? b=some o'
theorem q0.of(x:kD V V' h h'):q0 env V V' h h':=⟨x.le,λb o e f X=>x.stay b o e f,x.new,x.tup,x.there⟩
theorem o8{V V' V'':cV}{h h':Heap}(t:∀b o,h.get? b=some o->∃o',h'.get? b=some o')(x:∀p∈V',p∈V\/(h.get? p.1=none/\h.get? p.2=none))(y:∀p∈V'',p∈V'\/(h'.get? p.1=none/\h'.get? p.2=none)):
 ∀p∈V'',p∈V\/(h.get? p.1=none/\h.get? p.2=none):=λp hp=>by
 rcases y p hp with q | ⟨q1,q2⟩
 . exact x p q
 . right
   constructor
   . cases e:h.get? p.1 with
     | none=>rfl|some o=>exists bx (t _ _ e),o',e';rw[e'] at q1;exists _
   . cases e:h.get? p.2 with
     | none=>rfl|some o=>exists bx (t _ _ e),o',e';rw[e'] at q2;cases q2
theorem l9{h:Heap}(x:∀p∈V',p∈V\/(h.get? p.1=none/\h.get? p.2=none))(e:h.get? b=some o)(f:hP V b):hP V' b:=λp hp=>by
 rcases x p hp with q | ⟨q1,q2⟩
 . exact f p q
 . constructor
   . rintro rfl;rw[e] at q1;exists _
   . rintro rfl;rw[e] at q2;cases q2
theorem q0.trans{env:Nf}{V V' V'':cV}(x:q0 env V V' h h')(y:q0 env V' V'' h' h''):q0 env V V'' h h'':=
 ⟨x.le.trans y.le,λb o e f n=>(x.stay b o e f n).trans λo' e'=>y.stay b o' e' (l9 x.new e f) n,o8 x.there x.new y.new,x.tup.trans y.tup,λb o e=>let ⟨_,e'⟩:=x.there b o e;y.there b _ e'⟩
structure jB(C:Cx)(env:Nf)(V V':cV)(s s':Og)(Y':aR):Prop where
 step:q0 env V V' s.heap s'.heap
 rel:cD C V' Y' s'.heap
 sh:Sh s s'
section
variable{C:Cx}{env:Nf}{V V' V'':cV}{s s' s'':Og}{Y Y' Y'':aR}
theorem jB.of(x:St C V V' s s' Y'):jB C env V V' s s' Y':=⟨.of x.step,x.rel,x.sh⟩
theorem jB.refl(r:cD C V Y s.heap):jB C env V V s s Y:= .of (St.refl r)
theorem jB.trans(x:jB C env V V' s s' Y')(y:jB C env V' V'' s' s'' Y''):jB C env V V'' s s'' Y'':=⟨x.step.trans y.step,y.rel,x.sh.trans y.sh⟩
end
structure Jo(env:Nf)(F:List Addr)(V V':cV)(h h':Heap):Prop where
 le:d2 V V'
 stay:∀b o,h.get? b=some o->hP V b->¬HH env b->nQ h' b o
 new:∀p∈V',p∈V\/(h.get? p.1=none/\h.get? p.2=none)
 tup:bo h h'
 there:∀b o,h.get? b=some o->∃o',h'.get? b=some o'
 own:∃o,h'.get? env.locals=some o/\∃es ep,o.data= .dict es ep
structure Lq(C:Cx)(A:Ol)(env:Nf)(V V':cV)(s s':Og)(Y':aR):Prop where
 step:Jo env (qx A) V V' s.heap s'.heap
 rel:cD C V' Y' s'.heap
 sh:Sh s s'
def ut(C:Cx)(A:Ol)(env:Nf)(V:cV)(s:Og)(E:Od->Og->Prop)(m:PV)(Y':aR):Prop:=∀e s' V',Lq C A env V V' s s' Y'->EL C V' s'.heap e m->uq s.heap s'.heap e->E e s'
theorem ut.trans{C:Cx}{A:Ol}{E:Od->Og->Prop}(x:jB C env V V' s s' Y')(k:ut C A env V s E m Y''):ut C A env V' s' E m Y'':=λe s'' V'' y r n=>
 k e s'' V'' ⟨⟨x.step.le.trans y.step.le,λb o e f n=>(x.step.stay b o e f n).trans λo' e'=>y.step.stay b o' e' (l9 x.step.new e f) n,o8 x.step.there x.step.new y.step.new,
  x.step.tup.trans y.step.tup,λb o e=>let ⟨_,e'⟩:=x.step.there b o e;y.step.there b _ e',y.step.own⟩,y.rel,x.sh.trans y.sh⟩ r (n.back x.step.there)
theorem ut.expr{E:Od->Og->Prop}(F:cc C V s.heap env names O)(k:ut C A env V s E m Y'):XK C A V s E m Y':=λe s' V' y r n=>by
 (refine aA F.ns λmL t'1 X=>?_;exists fF t'1,o,es,ep,g,hd,X)
 exists aA (y.step.stay _ _ g F.off.1),sl,g',X;exact k e s' V' ⟨⟨y.step.le,λb o e f X=>y.step.stay b o e f,y.step.new,y.step.tup,y.step.there,(ny _ (jw g' (gQ _ _ hd)))⟩,y.rel,y.sh⟩ r n
def Lu(C:Cx)(V:cV)(h:Heap):Flow->Fl->Prop
 | .next, .nxt=>True|.cont, .cnt=>True|.ret v, .ret x=>aB C V h v x|_,_=>False
def KS(C:Cx)(A:Ol)(d:Nat)(env:Nf)(names:List MJ)(V:cV)(s:Og)(Q:Flow->Og->Prop)(p:Fl×UG)(Y':aR):Prop:=
 ∀f s' V',jB C env V V' s s' Y'->Ok C A d V' Y' s'->cc C V' s'.heap env names p.2->Lu C V' s'.heap f p.1->Q f s'
theorem KS.trans(x:jB C env V V' s s' Y')(k:KS C A d env names V s Q p Y''):KS C A d env names V' s' Q p Y'':=
 λf s'' V'' y o F r=>k f s'' V'' (x.trans y) o F r
structure LJ(C:Cx)(A:Ol)(env:Nf)(E:Od->Og->Prop):Prop where
 po:PassesOwn (model C.prog C.w) A env E
 top:∃outer,A.frames=some (env::outer)
 fr:env.frame=some env.locals
def f9(C:Cx)(d:Nat)(K:Ck)(m:UG->M (Fl×UG))(t:Nf->Sem Flow):Prop:=
 ∀(V:cV) (s:Og) (Y:aR) (O:UG) (env:Nf) (A:Ol) (Q:Flow->Og->Prop) (E:Od->Og->Prop),Ok C A d V Y s->cc C V s.heap env K.names O->env.scope=K.scope->LJ C A env E->
  aw (m O Y) (KS C A d env K.names V s Q) (ut C A env V s E)->Oo (model C.prog C.w) A (t env) Q E s
section
variable{C:Cx}{d:Nat}{K:Ck}{A:Ol}{E:Od->Og->Prop}
theorem br.stm{m:UG->M β}{t:Nf->Sem α}(S:br C d K rep m t){O:UG}{env:Nf}{Q:Flow->Og->Prop}{f:β->M (Fl×UG)}(ok:Ok C A d V Y s)
 (F:cc C V s.heap env K.names O) (he:env.scope=K.scope) (k:aw (((m O).bnd f) Y) (KS C A d env K.names V s Q) (ut C A env V s E)) {Q1:α->Og->Prop}
 (next:∀(b:β) (a:α) (s':Og) (V':cV) (Y':aR),Ok C A d V' Y' s'->cc C V' s'.heap env K.names O->rep V' s'.heap a b->St C V V' s s' Y'->aw (f b Y') (KS C A d env K.names V' s' Q) (ut C A env V' s' E)->Q1 a s'):
 Oo (model C.prog C.w) A (t env) Q1 E s:=
 S V s Y O env A Q1 E ok F he (aw.mono (ay k) (λb Y' kk a s' V' st r=>next b a s' V' Y' (ok.step st) (F.step st.step) r st (aw.mono kk (λX X x=>x.trans (.of st)) (λX X x=>x.trans (.of st)))) λX X x=>x.expr F)
theorem gN{h:Heap}(x:h.Ns a m):∀its,¬h.IsTuple a its:=λits ⟨o,g,_,n,hd⟩=>by
 exists fF x,o',es,ep,g',hd',X;rw[g'] at g;obtain rfl:=MI g;rw[hd'] at hd;cases hd
theorem lI{h:Heap}(x:h.IsCell a v):∀its,¬h.IsTuple a its:=λits ⟨o,g,_,n,hd⟩=>by
 exists aA x,o',g',hd';rw[g'] at g;obtain rfl:=MI g;rw[hd'] at hd;cases hd
theorem FF.chg(f:FF C A V h)(a:Addr)(k:∀b o,¬b=a->h.get? b=some o->h'.get? b=some o)(ha:∀o,h.get? a=some o->(∃es ep,o.data= .dict es ep)->∃o,h'.get? a=some o/\∃es ep,o.data= .dict es ep):FF C A V h':=by
 exists aA f,outer,e,kk;refine(aE outer e (λenv he=>?_));exists cps,Gz,Kz;exists dX (kk env he),h1,L,o,h2,h3,h4,h5,h6
 by_cases hL:L=a
 . subst hL
   exists aA (ha o h4 h5),o',g,d;exact Kz (gS h1 L o' h2 h3 g d h6)
 . exact Kz (gS h1 L o h2 h3 (k L o hL h4) h5 h6)
theorem cD.own(R:cD C V Y h)(h1:hP V a)(h2:C.h0.get? a=none)(h3:∀its,¬h.IsTuple a its)(k:∀b o,¬b=a->h.get? b=some o->h'.get? b=some o):cD C V Y h':=
 R.off (λb=>b=a) (λb hb=>by subst hb;exact(dq h1 h2 h3)) k
theorem jB.own(R:cD C V Y s.heap)(hOq0:HH env a)(h1:hP V a)(h2:C.h0.get? a=none)(h3:∀its,¬s.heap.IsTuple a its)(k:∀b o,¬b=a->s.heap.get? b=some o->h'.get? b=some o)
 (th:∃o,h'.get? a=some o):jB C env V V s {s with heap:=h',toks:=t} Y:=
 ⟨⟨.refl V,λb o e f n=> .of (k b o (λz=>n (z▸hOq0)) e),λp hp=> .inl hp,cy h3 k,λb o e=>by
  by_cases z:b=a
  . subst z;exact th
  . exact⟨o,k b o z e⟩⟩,R.own h1 h2 h3 k,rfl,rfl,rfl⟩
noncomputable def bt(K:Ck)(n:MJ):Bool:=match K.scope.names.lookup n with
 | some .local=>true|some .cell=>true|_=>false
theorem nV{O:UG}(h:(O.set i (some x))[j]? =some (some v)):(i=j/\v=x)\/(i≠j/\O[j]? =some (some v)):=by
 rw[List.getElem?_set] at h;split at h
 . rename_i e
   left
   split at h
   . erw[N9] at h;exact⟨e,h.symm⟩
   . exists _
 . rename_i e;exact .inr ⟨e,h⟩
theorem ou{env:Nf}{id:MJ}(ok:Ok C A d V Y s)(F:cc C V s.heap env K.names O)(he:env.scope=K.scope)(hi:K.names[i]? =some id)(hk:bt K id=true)
 (rv:aB C V s.heap v x) (h:∀s',jB C env V V s s' Y->Ok C A d V Y s'->cc C V s'.heap env K.names (O.set i (some x))->(∀b o,¬HH env b->s.heap.get? b=some o->s'.heap.get? b=some o)->Q () s'):Oo (model C.prog C.w) A (storeName env id v) Q E s:=by
 have hkof:env.kindOf id=K.scope.names.lookup id:=by unfold NV;rw[he]
 unfold bt at hk;exists aA F.ns,m,hns,hv;split at hk
 . rename_i e
   have hpp:(env.scope.kind== .class||(env.scope.kind== .module&&env.locals != env.globals))=false:=by refine F.kind▸?_;rfl
   refine OS (hkof.trans e) hns (λh' hns' hsb=>?_) hpp;have kb:∀b o,¬b=env.locals->s.heap.get? b=some o->h'.get? b=some o:=λb o hb e=>(hsb.2 b hb).trans e;have hL:∃o,h'.get? env.locals=some o/\∃es ep,o.data= .dict es ep:=by
    exists fF hns',o,es,ep,g,hd,X;exact ny o (jw g (gQ es ep hd))
   have t:=cy (gN hns) kb;refine h _ (jB.own ok.rel (.inl rfl) F.off.1 F.old.1 (gN hns) kb (let ⟨o,g,_⟩:=hL;⟨o,g⟩)) ⟨ok.room,ok.rel.own F.off.1 F.old.1 (gN hns) kb,ok.ff.chg _ kb λX X X=>hL⟩ ?_ (λb o n e=>kb b o (λz=>n (.inl z)) e);refine⟨F.kind,F.globals,F.builtins,F.nd,(aE _ hns' (λj n w e1 e2 e3=>?_)),λj n e1 e2=>?_,F.off,λc hc=>?_,F.apart,F.old⟩
   . rcases nV e2 with ⟨e4,e5⟩ | ⟨e4,e5⟩
     . subst e4 e5
       rw[hi] at e1;obtain rfl:=MI e1;exact aE v (by simp) (rv.mono (.refl V) t)
     . have hne:n≠id:=λz=>by
        subst z;have h1:=(M4.mp hi);have h2:=(M4.mp e1);exists bx h1,l1,g1;exists bx h2,l2,g2;exact e4 ((Tj F.nd).mp (g1.trans g2.symm))
       exists aA (hv j n w e1 e5 e3),u,eu,ru;exact aE u (by simp [hne,eu]) (ru.mono (.refl V) t)
   . exists fk (F.cell j n e1 e2),c,ov,ec,hc,hq
     have hcl:c≠env.locals:=F.apart.1 _ (bg ec);refine(fM c ov ec (by exists aA hc,o,g,r;exact(aE o (kb c o hcl g) r)) (λw ew=>?_));rcases nV ew with ⟨e4,e5⟩ | ⟨e4,e5⟩
     . subst e4
       rw[hi] at e1;obtain rfl:=MI e1;rcases e2 with e2 | e2<;>(rw[hkof.trans e] at e2;exists _)
     . exists aA (hq w e5),u,eu,ru
       exact aE u eu (ru.mono (.refl V) t)
   . exists bx (F.there c hc),o,g
     exact⟨o,kb _ o (F.apart.1 c hc) g⟩
 . rename_i e
   exists fk (F.cell i id hi (.inl (hkof.trans e))),c,ov,ec,hc,hq;have hcm:=bg ec;exists wpAny_storeName_cell F.kind (hkof.trans e) ec hc,h',hc',hsb;have kb:∀b o,¬b=c->s.heap.get? b=some o->h'.get? b=some o:=λb o hb e=>(hsb.2 b hb).trans e;have hL:∃o,h'.get? c=some o/\∀vs,o.data≠ .fields vs:=by
    exists aA hc',o,g,hd;exact aE o g (λvs z=>by rw[hd] at z;exists _)
   have t:=cy (lI hc) kb;have hcl:env.locals≠c:=Ni (F.apart.1 _ hcm);refine h _ (jB.own (t:=s.toks) ok.rel (.inr ⟨_,hcm,rfl⟩) (F.off.2 _ hcm) (F.old.2 _ hcm) (lI hc) kb (let ⟨o,g,_⟩:=hL;⟨o,g⟩)) ⟨ok.room,ok.rel.own (F.off.2 _ hcm) (F.old.2 _ hcm) (lI hc) kb,ok.ff.chg _ kb λo g ⟨es,ep,dd⟩=>by exists aA hc,o',g',d';rw[g'] at g;obtain rfl:=MI g;rw[d'] at dd;exists _⟩ ?_ (λb o n e=>kb b o (λz=>n (.inr ⟨_,hcm,z⟩)) e);refine⟨F.kind,F.globals,F.builtins,F.nd,(aE m (by exists dZ hns,o,es,ep,g,r;exact(iJ o es ep (kb _ o hcl g) r)) (λj n w e1 e2 e3=>?_)),λj n e1 e2=>?_,F.off,λc2 hc2=>?_,F.apart,F.old⟩
   . rcases nV e2 with ⟨e4,e5⟩ | ⟨e4,e5⟩
     . subst e4
       rw[hi] at e1;obtain rfl:=MI e1;rw[hkof.trans e] at e3;exists _
     . exists aA (hv j n w e1 e5 e3),u,eu,ru
       exact aE u eu (ru.mono (.refl V) t)
   . exists fk (F.cell j n e1 e2),c',ov',ec',hcc,hq'
     by_cases hcc':c'=c
     . subst hcc'
       have hn:n=id:=F.apart.2 n c' ec' id ec;subst hn;have h2:=(M4.mp e1);exists bx ((M4.mp hi)),l1,g1;exists bx h2,l2,g2;have hij:i=j:=(Tj F.nd).mp (g1.trans g2.symm);subst hij;refine(fM c' (some v) ec hc' (λw ew=>?_));rcases nV ew with ⟨_,e5⟩ | ⟨e4,_⟩
       . subst e5;exact aE v rfl (rv.mono (.refl V) t)
       . exact absurd rfl e4
     . refine(fM c' ov' ec' (by exists aA hcc,o,g,r;exact(aE o (kb c' o hcc' g) r)) (λw ew=>?_))
       rcases nV ew with ⟨e4,e5⟩ | ⟨e4,e5⟩
       . subst e4
         rw[hi] at e1;obtain rfl:=MI e1;rw[ec] at ec';obtain rfl:=MI ec';exact absurd rfl hcc'
       . exists aA (hq' w e5),u,eu,ru
         exact aE u eu (ru.mono (.refl V) t)
   . by_cases z:c2.2=c
     . refine z▸?_;exists aA hL,o,g,X;exact⟨o,g⟩
     . exists bx (F.there c2 hc2),o,g
       exact⟨o,kb _ o z g⟩
 . cases hk
theorem fP{id:MJ}(ok:Ok C A d V Y s)(F:cc C V s.heap env K.names O)(he:env.scope=K.scope)(hi:K.names[i]? =some id)(hk:bt K id=true)
 (rv:aB C V s.heap v x) (h:∀s',jB C env V V s s' Y->Ok C A d V Y s'->cc C V s'.heap env K.names (O.set i (some x))->Q () s'):Oo (model C.prog C.w) A (storeName env id v) Q E s:=
 ou ok F he hi hk rv λs' a b c X=>h s' a b c
end
section
variable{C:Cx}{d:Nat}{K:Ck}
noncomputable def dc(e:ML):Bool:=let i:=e.ctorIdx;i==8||i==9||i==10
theorem iH(h:dc value=false):swapsWith value tg line env=pure false:=by
 cases value<;>first | rfl | cases h
theorem Cv{id:MJ}(hi:K.names[i]? =some id)(hk:bt K id=true)(hc:dc value=false)(S:br C d K (aW C) m (eval value)):
 f9 C d K (λO=>(m O).bnd λv=>ret (.nxt,O.set i (some v))) (exec (.Assign [.Name id p] value pos)):=by
 intro V s Y O env A Q E ok F he hE k;refine wpAny_Assign_Name (S.stm ok F he k λx v s1 V1 Y1 ok1 F1 rv st1 k1=>?_) (iH hc);exact fP ok1 F1 he hi hk rv λs2 st2 ok2 F2=>k1 .next s2 V1 st2 ok2 F2 trivial
theorem Ca(G:lW C P TT){code:Nat}(hc:code∈cg)(hcomp:dc value=false)(S:br C d K (aW C) m (eval value))(So:br C d K (aW C) mo (eval o)):
 f9 C d K (λO=>(m O).bnd λv=>(mo O).bnd λo=>(Internal.setAttr o code v).bnd λB=>ret (.nxt,O)) (exec (.Assign [.Attribute o (ch code) p] value pos)):=by
 intro V s Y O env A Q E ok F he hE k;refine plainObj_wpAny_Assign_Attribute (S.stm ok F he k λx v s1 V1 Y1 ok1 F1 rv st1 k1=>So.stm ok1 F1 he k1 λy ov s2 V2 Y2 ok2 F2 ro st2 k2=>?_) (iH hcomp);refine mz (X:=ut C A env V2 s2 E) (λc=>⟨_,G.cls c⟩) hc ok2.rel ro (rv.mono st2.step.le st2.step.tup) (aw.mono (ay k2) (λB Y3 k3 s3 st3=>?_) λB B z=>z);exact k3 .next s3 V2 (.of st3) (ok2.step st3) (F2.step st3.step) trivial
theorem Bp(hcomp:dc value=false)(S:br C d K (aW C) m (eval value))(So:br C d K (aW C) mo (eval o))(Si:br C d K (aW C) mk (eval i)):
 f9 C d K (λO=>(m O).bnd λv=>(mo O).bnd λo=>(mk O).bnd λk=>(dA o k v).bnd λB=>ret (.nxt,O)) (exec (.Assign [.Subscript o i p] value pos)):=by
 intro V s Y O env A Q E ok F he hE k;refine wpAny_Assign_Subscript (S.stm ok F he k λx v s1 V1 Y1 ok1 F1 rv st1 k1=>So.stm ok1 F1 he k1 λy ov s2 V2 Y2 ok2 F2 ro st2 k2=>Si.stm ok2 F2 he k2 λz iv s3 V3 Y3 ok3 F3 ri st3 k3=>?_) (iH hcomp);refine pX (X:=ut C A env V3 s3 E) ok3.rel ((aB.mono st2.step.le st2.step.tup rv).mono st3.step.le st3.step.tup) (ro.mono st3.step.le st3.step.tup) ri (aw.mono (ay k3) (λB Y4 k4 s4 st4=>?_) λB B z=>z);exact k4 .next s4 V3 (.of st4) (ok3.step st4) (F3.step st4.step) trivial
theorem Dw(hop:op= .add\/op= .sub){Q E:Od->Og->Prop}(R:cD C V Y s.heap)(ra:aB C V s.heap a x)(rb:aB C V s.heap b y)
 (k:aw (yM op x y Y) (KV C V s Q) X):Oo (model C.prog C.w) A (inplaceOp (j5 op) a b) Q E s:=by
 exists ak k,i,e1,k;exists ak k,j,e2,k;exists bF (e1▸ra),t,rfl;exists bF (e2▸rb),u,rfl;rcases hop with rfl | rfl
 . exact PySem.AutoIntOps.iadd_0 (KV.toks R (.int _ _) k)
 . exact PySem.AutoIntOps.isub_0 (KV.toks R (.int _ _) k)
theorem CD(hop:op= .add\/op= .sub){id:MJ}(hi:K.names[i]? =some id)(hk:bt K id=true)(hl:bz K id=true)
 (S:br C d K (aW C) m (eval value)):
 f9 C d K (λO=>(aZ ((O[i]?).join)).bnd λx=>(m O).bnd λy=>(yM op x y).bnd λv=>ret (.nxt,O.set i (some v))) (exec (.AugAssign (.Name id p) (j5 op) value pos)):=by
 intro V s Y O env A Q E ok F he hE k;refine wpAny_AugAssign_Name ?_;refine(xz (C:=C) (d:=d) hi hl).stm ok F he k λx a s1 V1 Y1 ok1 F1 ra st1 k1=>S.stm ok1 F1 he k1 λy b s2 V2 Y2 ok2 F2 rb st2 k2=>?_;refine Dw (X:=ut C A env V2 s2 E) hop ok2.rel (ra.mono st2.step.le st2.step.tup) rb (aw.mono (ay k2) (λv Y3 k3 v' s3 V3 st3 r3=>?_) λB B z=>z);exact fP (ok2.step st3) (F2.step st3.step) he hi hk r3 λs4 st4 ok4 F4=>k3 .next s4 V3 ((jB.of st3).trans st4) ok4 F4 trivial
theorem BI(G:lW C P TT)(hop:op= .add\/op= .sub){i:Nat}{id:MJ}{code:Nat}(hi:K.names[i]? =some id)(hl:bz K id=true)(hd:(id==("__debug__":MJ))=false)(hc:code∈cg)
 (S:br C d K (aW C) m (eval value)):
 f9 C d K (λO=>(aZ ((O[i]?).join)).bnd λo=>(eL o code).bnd λx=>(m O).bnd λy=>(yM op x y).bnd λv=>(Internal.setAttr o code v).bnd λB=>ret (.nxt,O))
  (exec (.AugAssign (.Attribute (.Name id p1) (ch code) p) (j5 op) value pos)):=by
 intro V s Y O env A Q E ok F he hE k;haveI e:exec (.AugAssign (.Attribute (.Name id p1) (ch code) p) (j5 op) value pos) env=(do
  OZ pos
  let ov <-eval (.Name id p1) env
  let new <-O3 [ov] do
   OZ p.atName
   let old <-getAttr ov (ch code) true
   let v <-O3 [old] (eval value env)
   OZ pos
   operate [old,v] (inplaceOp (j5 op) old v)
  OZ p.atName
  O3 [new,ov] (QS ov (ch code) new)
  release [new,ov] []
  pure .next):=rfl
 refine e▸?_;refine Ow (Uf (Ow ((zU (C:=C) (d:=d) (pos:=p1) hi hl hd).stm ok F he k λx a s1 V1 Y1 ok1 F1 ra st1 k1=>?_)));refine Ow (Ov (Ow (Uf (Ow ?_))));refine nF (X:=ut C A env V1 s1 E) (λc=>⟨_,G.cls c⟩) hc ok1.rel ra (aw.mono (ay k1) (λy Y2 k2 b s2 V2 st2 rb=>?_) λB B z=>z);refine Ow (Ov (S.stm (ok1.step st2) (F1.step st2.step) he (aw.mono k2 (λB B z=>z.trans (.of st2)) λB B z=>z.trans (.of st2)) λz c s3 V3 Y3 ok3 F3 rc st3 k3=>?_));refine Ow (Uf (wpAny_operating ?_));refine Dw (X:=ut C A env V3 s3 E) hop ok3.rel (rb.mono st3.step.le st3.step.tup) rc (aw.mono (ay k3) (λv Y4 k4 v' s4 V4 st4 r4=>?_) λB B z=>z);haveI ok4:=ok3.step st4;haveI F4:=F3.step st4.step;refine Ow (Uf (Ow (Ov ?_)));refine mz (X:=ut C A env V3 s3 E) (λc=>⟨_,G.cls c⟩) hc ok4.rel ((((aB.mono st2.step.le st2.step.tup ra).mono st3.step.le st3.step.tup).mono st4.step.le st4.step.tup)) r4 (aw.mono (ay k4) (λB Y5 k5 s5 st5=>?_) λB B z=>z);exact Ow (wpAny_releaseD (Ox (k5 .next s5 V4 ((jB.of st4).trans (.of st5)) (ok4.step st5) (F4.step st5.step) trivial)))
theorem EJ(S:br C d K (aW C) m (eval value)):f9 C d K (λO=>(m O).bnd λv=>ret (.ret v,O)) (exec (.Return (some value) pos)):=by
 intro V s Y O env A Q E ok F he hE k;exact Ul (S.stm ok F he k λx v s1 V1 Y1 ok1 F1 rv st1 k1=>k1 (.ret v) s1 V1 (jB.refl ok1.rel) ok1 F1 rv)
theorem BR:f9 C d K (λO=>(ret T6).bnd λv=>ret (.ret v,O)) (exec (.Return none pos)):=by
 intro V s Y O env A Q E ok F he hE k;refine(show exec (.Return none pos) env=(do OZ pos;return .ret .none) from rfl)▸?_;exact Ow (Uf (Ox (k (.ret .none) s V (jB.refl ok.rel) ok F .none)))
theorem AR:f9 C d K (λO=>ret (.cnt,O)) (exec (.Continue pos)):=by
 intro V s Y O env A Q E ok F he hE k;refine(show exec (.Continue pos) env=(do OZ pos;pure .cont) from rfl)▸?_;exact Ow (Uf (Ox (k .cont s V (jB.refl ok.rel) ok F trivial)))
theorem Gv(hc:dc value=false)(S:br C d K (aW C) m (eval value)):f9 C d K (λO=>(m O).bnd λX=>ret (.nxt,O)) (exec (.Expr value pos)):=by
 intro V s Y O env A Q E ok F he hE k;refine wpAny_Expr_any (S.stm ok F he k λx v s1 V1 Y1 ok1 F1 rv st1 k1=>k1 .next s1 V1 (jB.refl ok1.rel) ok1 F1 trivial) ?_ (iH hc);unfold interactive;refine F.kind▸?_;rfl
theorem Fb{mt me:UG->M (Fl×UG)}(Sc:br C d K gk mc (λenv=>isTrue test env (eval test env)))(St:f9 C d K mt (Um body))(Se:f9 C d K me (Um orelse)):
 f9 C d K (λO=>(mc O).bnd λb=>match b with | true=>mt O | false=>me O) (exec (.If test body orelse pos)):=by
 intro V s Y O env A Q E ok F he hE k;refine wpAny_If (Sc.stm ok F he k λb a s1 V1 Y1 ok1 F1 ra st1 k1=>?_);cases ra
 cases b with
 | true=>rw[if_pos rfl];exact St _ _ _ _ _ _ _ _ ok1 F1 he hE k1|false=>rw[if_neg Np];exact Se _ _ _ _ _ _ _ _ ok1 F1 he hE k1
theorem Dt:f9 C d K (λO=>ret (.nxt,O)) (Um []):=λV s Y O env A Q E ok F he hE k=>Un (k .next s V (jB.refl ok.rel) ok F trivial)
theorem BO{st:Stmt}(S:f9 C d K m (exec st))(Sr:f9 C d K mr (Um rest)):
 f9 C d K (λO=>(m O).bnd λp=>match p.1 with | .nxt=>mr p.2 | f=>ret (f,p.2)) (Um (st::rest)):=by
 intro V s Y O env A Q E ok F he hE k;refine Uo (S V s Y O env A _ E ok F he hE (aw.mono (ay k) (λp Y1 k1 f s1 V1 st1 ok1 F1 r1=>?_) λX X z=>z));obtain⟨fl,O1⟩:=p;cases f<;>cases fl<;>(try exact(show False from r1).elim)
 . exact Sr V1 s1 Y1 O1 env A Q E ok1 F1 he hE (aw.mono k1 (λX X z=>z.trans st1) λX X z=>z.trans st1)
 . exact k1 .cont s1 V1 st1 ok1 F1 trivial
 . exact k1 (.ret _) s1 V1 st1 ok1 F1 r1
end
section
variable{C:Cx}{d:Nat}{K:Ck}{A:Ol}{E:Od->Og->Prop}
theorem wu(ok0:Ok C A d V Y s)(F0:cc C V s.heap env names O0)(x:jB C env V V1 s s1 Y1)(ok1:Ok C A d V1 Y1 s1)(F1:cc C V1 s1.heap env names O)
 (hI:s.heap.get? I=none) (fI:hP V1 I) (oI:C.h0.get? I=none) (noI:∀its,¬s1.heap.IsTuple I its) (k:∀b o,¬b=I->s1.heap.get? b=some o->h'.get? b=some o):
 jB C env V V1 s {s1 with heap:=h',toks:=t} Y1/\Ok C A d V1 Y1 {s1 with heap:=h',toks:=t}/\cc C V1 h' env names O:=by
 exists Js,Gz,Kz;have hn:∀b o,s.heap.get? b=some o->¬b=I:=λb o e z=>by erw[z,hI] at e;exists _
 have R':cD C V1 Y1 h':=ok1.rel.own fI oI noI k;have tt:=cy noI k
 (refine aA F0.ns λmL0 t'1 X=>?_;exists dZ t'1,oL,X,X,gL,X)
 have hC:∀c∈env.cells,¬c.2=I:=λc hc=>let ⟨o,g⟩:=F0.there c hc;hn _ _ g;refine(Kz (⟨⟨x.step.le,λb o e f n=>(x.step.stay b o e f n).trans λo' e'=> .of (k b o' (hn b o e) e'),x.step.new,λa its y=>?_,λb o e=>?_⟩,R',x.sh.gens,x.sh.drawn,x.sh.os⟩) (⟨ok1.room,R',?_⟩) ?_)
 . exists cps,Gz1,Kz1
   exists aA (id y),o,g,X;exists aA (x.step.tup a its y),o',g',r;exact Kz1 (aE o' (k a o' (hn a o g) g') r)
 . exists bx (x.step.there b o e),o',g
   exact⟨o',k b o' (hn b o e) g⟩
 . exists aA ok1.ff,outer,e,kk
   exists aA ok0.ff,outer0,e0,kk0;rw[e] at e0;obtain rfl:=MI e0;refine(aE outer e (λenv' he'=>?_));exists cps,Gz2,Kz2;exists dX (kk env' he'),h1,L,o,h2,h3,h4,h5,h6;refine bj (kk0 env' he') λX z'0=>fx z'0 λL0 o0 z'1=>fg z'1 λg2 X g4 X=>?_;rw[h2] at g2;obtain rfl:=MI g2;exact Kz2 (gS h1 L o h2 h3 (k L o (hn _ _ g4) h4) h5 h6)
 . exists aA F1.ns,m,hns,hv
   refine⟨F1.kind,F1.globals,F1.builtins,F1.nd,(aE m (by exists dZ hns,o,es,ep,g,r;exact(iJ o es ep (k _ o (show¬env.locals=I from hn _ _ gL) g) r)) (λi n v e1 e2 e3=>?_)),λi n e1 e2=>?_,F1.off,λc hc=>?_,F1.apart,F1.old⟩
   . exists aA (hv i n v e1 e2 e3),u,eu,ru
     exact aE u eu (ru.mono (.refl V1) tt)
   . exists fk (F1.cell i n e1 e2),c,ov,ec,hc,hq
     refine(fM c ov ec (by exists aA hc,o,g,r;exact(aE o (k c o (hC _ (bg ec)) g) r)) (λv ev=>?_));exists aA (hq v ev),u,eu,ru;exact aE u eu (ru.mono (.refl V1) tt)
   . exists bx (F1.there c hc),o,g
     exact⟨o,k _ o (hC c hc) g⟩
def uS(C:Cx)(env:Nf)(f:Od->Sem Unit)(id:MJ):Prop:=∀(A:Ol) (v:Od) (Q:Unit->Og->Prop) (E:Od->Og->Prop) (s:Og),Oo (model C.prog C.w) A (storeName env id v) Q E s->Oo (model C.prog C.w) A (f v) Q E s
inductive gF(C:Cx)(K:Ck)(env:Nf):List Nat->List (Od->Sem Unit)->Prop
 | nil:gF C K env [] []|cons {i:Nat} {id:MJ} {f:Od->Sem Unit} {is:List Nat} {fs:List (Od->Sem Unit)}:K.names[i]? =some id->bt K id=true->uS C env f id->gF C K env is fs->gF C K env (i::is) (f::fs)
noncomputable def dK(O:UG)(l:List (Nat×PV)):UG:=l.foldl (λr p=>r.set p.1 (some p.2)) O
theorem nR(he:env.scope=K.scope)(r:gF C K env is fs):∀{vs:List Od} {xs:List PV} {V:cV} {s:Og} {Y:aR} {O:UG} {Q:Unit->Og->Prop},aK C V s.heap vs xs->is.length=xs.length->
 Ok C A d V Y s->cc C V s.heap env K.names O->(∀s',jB C env V V s s' Y->Ok C A d V Y s'->cc C V s'.heap env K.names (dK O (is.zip xs))->Q () s')->Oo (model C.prog C.w) A (assignInOrder fs vs) Q E s:=by
 induction r with
 | nil=>
   intro vs xs V s Y O Q rs hl ok F h
   cases rs with
   | nil=>exact Ox (h s (jB.refl ok.rel) ok F)|cons=>exists _
 | cons h1 h2 h3 _ ih=>
   intro vs xs V s Y O Q rs hl ok F h
   cases rs with
   | nil=>exists _|cons rv rs=>
     refine Ow (Ov (h3 A _ _ E s (fP ok F he h1 h2 rv λs1 st1 ok1 F1=>?_)));exact ih (rs.mono (.refl V) st1.step.tup) (Qr hl) ok1 F1 λs2 st2 ok2 F2=>h s2 (st1.trans st2) ok2 F2
theorem gF.append(r:gF C K env is fs)(h:gF C K env js gs):gF C K env (is++js) (fs++gs):=by
 induction r with
 | nil=>exact h|cons a b c _ ih=>exact .cons a b c ih
theorem gF.reverse(r:gF C K env is fs):gF C K env is.reverse fs.reverse:=by
 induction r with
 | nil=>exact .nil|cons a b c _ ih=>
   erw[Pr,Pr];exact ih.append (.cons a b c .nil)
theorem aK.reverse(r:aK C V h vs xs):aK C V h vs.reverse xs.reverse:=
 aK.ind (P:=λvs xs=>aK C V h vs.reverse xs.reverse) .nil (λa X ih=>by erw[Pr,Pr];exact ih.append (.cons a .nil)) r
theorem set_comm(O:UG)(h:i≠j)(x y:Option PV):(O.set i x).set j y=(O.set j y).set i x:=List.set_comm _ _ h
theorem yj(l:List (Nat×PV))(O:UG)(i:Nat)(x:PV)(h:∀p∈l,p.1≠i):dK (O.set i (some x)) l=(dK O l).set i (some x):=by
 induction l generalizing O with
 | nil=>rfl|cons p l ih=>
   show dK ((O.set i (some x)).set p.1 (some p.2)) l=(dK (O.set p.1 (some p.2)) l).set i (some x)
   erw[set_comm O (Ni (h p (.head _))),ih _ λq hq=>h q (.tail _ hq)]
theorem ia:∀(l:List (Nat×PV)) (O:UG),(l.map (·.1)).Nodup->dK O l.reverse=dK O l:=by
 intro l
 induction l with
 | nil=>
   intro _ _;exact rfl
 | cons p l ia=>
   intro O h;erw[Nl,NI] at h;refine Pr▸?_;haveI e:dK O (l.reverse++[p])=(dK O l.reverse).set p.1 (some p.2):=by simp [dK,Pt]
   erw[e,ia O h.2];show _=dK (O.set p.1 (some p.2)) l;erw[yj l O p.1 p.2 λq hq z=>h.1 (z▸Nd.mpr (aE q hq rfl))]
noncomputable def j2(K:Ck):List Nat->List ML->Bool
 | [],xs=>xs.isEmpty|i::is,xs=>(kh xs).any λx=>(cR x.1.1).any λn=>K.names[i]? ==some n.1.1&&bt K n.1.1&&j2 K is x.1.2
theorem vL{id:MJ}:uS C env (assign (.Name id p) env) id:=λX X X X X h=>OR h
theorem uU{id:MJ}:uS C env (bindName env id) id:=λX X X X X h=>wpAny_bindName h
noncomputable def nE(xs:List ML):List MJ:=xs.filterMap λs=>(cR s).map λx=>x.1.1
theorem jq:∀{is:List Nat} {xs:List ML},j2 K is xs=true->gF C K env is ((Up xs env).map (·.2))/\(Up xs env).length=is.length/\(Up xs env).findIdx? (·.1)=none/\gF C K env is ((nE xs).map λn=>bindName env n)/\(nE xs).length=is.length
 | [],xs,h=>by
   obtain rfl:=NH.mp h;exact bT .nil rfl rfl .nil rfl
 | i::is,xs,h=>by
   exists cps,Gz,Kz
   (refine bx (eJ h) λt'2 h=>?_;obtain⟨⟨x,xs'⟩,rfl⟩:=t'2)
   (refine bx (eJ h) λt'3 h=>?_;obtain⟨⟨id,p⟩,e⟩:=t'3)
   obtain rfl:x= .Name id p:=e;haveI g1:=beq_iff_eq.mp (aa (aa h));haveI g2:=ae (aa h);exists bh (jq (env:=env) (ae h)),h1,h2,h3,h4,h5;refine Kz ?_;refine(show Up (.Name id p::xs') env=(false,assign (.Name id p) env)::Up xs' env from rfl)▸?_;refine(bT (.cons g1 g2 vL h1) (congrArg (· +1) h2) ?_ (.cons g1 g2 uU h4) (congrArg (· +1) h5));erw[SJ,h3];rfl
theorem nT(k:aw (gj (.many is) x O Y) K' X)(Kz:∀ys,x= .tup ys->is.length=ys.length->K' (dK O (is.zip ys)) Y->Gz):Gz:=
 ak (show aw (need (qo x) (λxs=>kN (is.length==xs.length) (ret (dK O (is.zip xs)))) Y) K' X from k) λys e k=>Kz ys e (beq_iff_eq.mp (bf k).1) (bf k).2
theorem mP(k:aw (gj (.many is) x O Y) K' X):∃ys,x= .tup ys/\is.length=ys.length/\K' (dK O (is.zip ys)) Y:=Lg λB Kz=>nT k Kz
theorem wn(k:aw (gj t x O Y) K' X)(Kz:∀O',gj t x O Y= .ok O' Y->K' O' Y->Gz):Gz:=by
 cases t with
 | one i=>exact(Kz _ rfl k)|many is=>
   obtain⟨ys,rfl,h,k⟩:=mP k;refine(Kz _ ?_ k);show kN (is.length==ys.length) _ Y=_;erw[h,beq_self_eq_true];rfl
theorem cc.notOwn(F:cc C V h env names O)(hI:h.get? I=none):¬HH env I:=λhOq0=>by
 rcases hOq0 with e | ⟨c,hc,e⟩
 . (refine aA F.ns λmL t'4 X=>?_;exists dZ t'4,oL,X,X,gL,X)
   erw[<-e,hI] at gL;exists _
 . exists bx (F.there c hc),o,g
   erw[<-e,hI] at g;cases g
theorem EV(h:is.length=ys.length):gj (.many is) (.tup ys) O Y= .ok (dK O (is.zip ys)) Y:=by
 show kN (is.length==ys.length) _ Y=_
 erw[h,beq_self_eq_true];rfl
def ve(C:Cx)(d:Nat)(K:Ck)(t:Kk)(target:ML):Prop:=
 ∀(V:cV) (s:Og) (Y:aR) (O O':UG) (env:Nf) (A:Ol) (Q:Unit->Og->Prop) (E:Od->Og->Prop) (v:Od) (x:PV),Ok C A d V Y s->cc C V s.heap env K.names O->env.scope=K.scope->aB C V s.heap v x->gj t x O Y= .ok O' Y->
  (∀s',jB C env V V s s' Y->Ok C A d V Y s'->cc C V s'.heap env K.names O'->Q () s')->Oo (model C.prog C.w) A (assign target env v) Q E s
theorem Fh{id:MJ}(hi:K.names[i]? =some id)(hk:bt K id=true):ve C d K (.one i) (.Name id p):=by
 intro V s Y O O' env A Q E v x ok F he rv hb h;cases hb;exact OR (fP ok F he hi hk rv h)
theorem xZ(hn:j2 K is xs=true):ve C d K (.many is) (.Tuple xs kk p):=by
 intro V s Y O O' env A Q E v x ok F he rv hb h;obtain⟨ys,rfl,hl,hb⟩:=mP (X:=λB B=>False) (K':=λr B=>r=O') (show aw (gj (.many is) x O Y) _ _ from hb▸rfl);exists vTup rv,a,vs,ht,rs;subst hb;exists fg (jq (C:=C) (env:=env) hn),h1,h2,h3,B;have hlen:=rs.length;exists wpAny_assign_Tuple ok.room.handled ht (by erw[h2,M1];lia) h3,h',eb;have kk:∀b o,s.heap.get? b=some o->h'.get? b=some o:=λb o e=>eb b o (Pe (NY e)) e;have S0:St C V V s {s with heap:=h',toks:=s.toks} Y:=St.keeps ok.rel kk;exact nR he h1 (rs.mono (.refl V) (.of_keep kk)) (by omega) (ok.step S0) (F.step S0.step) λs2 st2 ok2 F2=>h s2 ((jB.of S0).trans st2) ok2 F2
end
noncomputable def DE:ML->Bool
 | .Starred .. =>true|_=>false
noncomputable def iC(K:Ck)(ts:List ML):List MJ:=
 ts.filterMap λ
  | .Name id pos=>if K.scope.names.lookup id==some .local&&pos.line==(ts.head?.map (·.pos.line)).getD 0 then some id else none|_=>none
noncomputable def Hu(c1 c2 c3 c4 c5:Bool)(n:List MJ):Option (Option (List MJ)):=if c1 then some none else if c2 then some none else if c3 then some none else if c4 then some none else if c5 then none else some (some n)
noncomputable def mD(K:Ck)(ts:List ML)(value:ML):Option (Option (List MJ)):=match rN value with
 | none=>some none|some v=>Hu (!(ts.length==2||ts.length==3)||v.1.1.length != ts.length) (v.1.1.any DE) ((iC K ts).length != ts.length||(iC K ts).eraseDups.length != (iC K ts).length) (v.1.1.all (foldedForSure 8)) (v.1.1.all (constantsAlone 8)) (iC K ts)
theorem wr(h:Hu c1 c2 c3 c4 c5 n=some r):(if c1=true then pure none else if c2=true then pure none else if c3=true then pure none else if c4=true then pure none else if c5=true then u else pure (some n):Sem (Option (List MJ)))=pure r:=by
 cases c1
 . cases c2
   . cases c3
     . cases c4
       . cases c5
         . exact MI h▸rfl
         . exists _
       . exact MI h▸rfl
     . exact MI h▸rfl
   . exact MI h▸rfl
 . exact MI h▸rfl
theorem zr(h:rN value=none):swappedStores [.Tuple ts kk p] value env=pure none:=by
 cases value<;>first | rfl | cases h
theorem qf{K:Ck}(he:env.scope=K.scope)(hk:env.scope.kind= .function)(h:mD K ts value=some r):swappedStores [.Tuple ts kk p] value env=pure r:=by
 unfold mD at h
 cases e:rN value with
 | none=>
   rw[e] at h;exact MI h▸zr e
 | some v=>
   rw[e] at h;haveI hb:(env.blockKind != .function)=false:=by unfold Env.blockKind;rw[hk];rfl
   haveI hn:(ts.filterMap λ| .Name id pos=>if env.kindOf id==some .local&&pos.line==(ts.head?.map (·.pos.line)).getD 0 then some id else none | _=>none)=iC K ts:=by
    unfold NV iC;rw[he]
   rw[v.2]
   show(if (!(ts.length==2||ts.length==3)||v.1.1.length != ts.length||env.blockKind != .function)=true then pure none else if v.1.1.any DE=true then pure none else
    if ((ts.filterMap λ| .Name id pos=>if env.kindOf id==some .local&&pos.line==(ts.head?.map (·.pos.line)).getD 0 then some id else none | _=>none).length != ts.length||(ts.filterMap λ| .Name id pos=>if env.kindOf id==some .local&&pos.line==(ts.head?.map (·.pos.line)).getD 0 then some id else none | _=>none).eraseDups.length != (ts.filterMap λ| .Name id pos=>if env.kindOf id==some .local&&pos.line==(ts.head?.map (·.pos.line)).getD 0 then some id else none | _=>none).length)=true then pure none else
    if v.1.1.all (foldedForSure 8)=true then pure none else if v.1.1.all (constantsAlone 8)=true then _ else pure (some (ts.filterMap λ| .Name id pos=>if env.kindOf id==some .local&&pos.line==(ts.head?.map (·.pos.line)).getD 0 then some id else none | _=>none)):Sem (Option (List MJ)))=pure r
   rw[hn,hb,RD];exact wr h
theorem qg{α β:Type}:∀{a c:List α} {b d:List β},a.length=b.length->(a++c).zip (b++d)=a.zip b++c.zip d
 | [],_,[],_,_=>rfl|x::a,c,y::b,d,h=>by
   erw[Qz,Qf];erw[qg (by simpa using h)]
theorem zP{α β:Type}:∀{a:List α} {b:List β},a.length=b.length->a.reverse.zip b.reverse=(a.zip b).reverse
 | [],[],_=>rfl|x::a,y::b,h=>by
   haveI h':a.length=b.length:=by simpa using h
   rw[Pr,Pr,qg (by simp [h']),zP h'];simp
section
variable{C:Cx}{d:Nat}{K:Ck}
theorem EK(hn:j2 K is ts=true)(hc:dc value=false)(hw:mD K ts value=some r)(hr:r=none\/(r=some (nE ts)/\is.Nodup))
 (S:br C d K (aW C) m (eval value)):
 f9 C d K (λO=>(m O).bnd λv=>(gj (.many is) v O).bnd λO=>ret (.nxt,O)) (exec (.Assign [.Tuple ts kk tp] value pos)):=by
 intro V s Y O env A Q E ok F he hE k;haveI hsw:=iH (tg:=some (.Tuple ts kk tp)) (line:=pos.line) (env:=env) hc;haveI hst:=qf (kk:=kk) (p:=tp) he F.kind hw;rcases hr with rfl | ⟨rfl,hnd⟩
 . refine Assign_Tuple (S.stm ok F he k λx v s1 V1 Y1 ok1 F1 rv st1 k1=>?_) hsw hst
   obtain⟨ys,rfl,hl,k1⟩:=mP (ay k1);exact xZ hn V1 s1 Y1 O _ env A _ E v _ ok1 F1 he rv (EV hl) λs2 st2 ok2 F2=>k1 .next s2 V1 st2 ok2 F2 trivial
 . refine Assign_Tuple_swapped (S.stm ok F he k λx v s1 V1 Y1 ok1 F1 rv st1 k1=>?_) hsw hst
   exists nT (ay k1),ys,rfl,hl,h2;exists vTup rv,a,vs,ht,rs;exists bh (jq (C:=C) (env:=env) hn),X,X,X,g1,g2;haveI hlen:=rs.length;haveI esz:(nE ts).length=vs.toArray.size:=by erw[g2,M1];lia
   erw[esz];exists wpAny_unpackItems_tuple ok1.room.handled ht,h',eb;haveI kk2:∀b o,s1.heap.get? b=some o->h'.get? b=some o:=λb o e=>eb b o (Pe (NY e)) e;haveI S0:St C V1 V1 s1 {s1 with heap:=h',toks:=s1.toks} Y1:=St.keeps ok1.rel kk2;haveI er:(nE ts).reverse.map (λn=>bindName env n)=((nE ts).map λn=>bindName env n).reverse:=by rw[Ti]
   refine er▸?_;exists nR he g1.reverse ((rs.mono (.refl V1) (.of_keep kk2)).reverse) (by erw[Pw,Pw];omega) (ok1.step S0) (F1.step S0.step),s2,st2,ok2,F2;haveI ez:(is.reverse.zip ys.reverse)=(is.zip ys).reverse:=by
    exact zP hl
   erw[ez,ia _ _ (by
    haveI:(is.zip ys).map (·.1)=is:=by rw[Rg %[|0]]
    rw[this];exact hnd)] at F2
   exact h2 .next s2 V1 ((jB.of S0).trans st2) ok2 F2 trivial
end
section
variable{C:Cx}{d:Nat}{K:Ck}
def D8(x:ML):Prop:=(∃a b,x= .Name a b)\/∃a b c,x= .Tuple a b c
theorem E0(r:d8 C V h I it)(Kz:∀o n vs,h.get? I=some o->o.cls= .type n->o.data= .fields vs->(["enumerate","zip","dict_itemiterator","dict_reverseitemiterator","odict_iterator","itertools.zip_longest","itertools.pairwise"].contains n)=false->Gz):Gz:=by
 cases r with
 | tup a _ _=>exists cF a,o,g,hc,hd;exact Kz o _ _ g hc hd %[|1]
 | bytes a _ _=>exists cF a,o,g,hc,hd;exact Kz o _ _ g hc hd %[|1]
 | lst a _=>exists cF a,o,g,hc,hd;exact Kz o _ _ g hc hd %[|1]
 | rng a=>exact Kz _ _ _ a rfl rfl %[|1]
 | fdk a _ _ _ _=>exists cF a,o,g,hc,hd;exact Kz o _ _ g hc hd %[|1]
theorem w0{E:Od->Og->Prop}(ht:D8 target)(r:d8 C V s.heap I it)(h:Q () s):Oo (model C.prog C.w) A (letOwnedTupleGo target (.ref I) v) Q E s:=by
 rcases ht with ⟨a,b,rfl⟩ | ⟨a,b,c,rfl⟩
 . exact Ox h
 . exists E0 r,o,n,vs,g,hc,hd,hn
   cases v with
   | ref a=>
     refine Ow (wpAny_load g ?_);rw[hc,hd];dsimp only;refine hn▸?_;exact Ox h
   | _=>exact Ox h
def L9(C:Cx)(d:Nat)(K:Ck)(A:Ol)(env:Nf)(V1:cV)(s1:Og)(Q:Flow->Og->Prop)(E:Od->Og->Prop)(t:Kk)(mb:UG->M (Fl×UG))(I:Addr)(n:Nat)(s':Og):Prop:=
 ∃V' Y' it O',jB C env V1 V' s1 s' Y'/\Ok C A d V' Y' s'/\cc C V' s'.heap env K.names O'/\d8 C V' s'.heap I it/\hP V' I/\aw (fW t mb n it O' Y') (KS C A d env K.names V1 s1 Q) (ut C A env V1 s1 E)
theorem DM(hf:∀env x,OU iter env x=pure x)(Si:nN C d K mi iter)(St':ve C d K t target)(nt:D8 target)
 (Sb:f9 C d K mb (Um body)):f9 C d K (λO=>(mi O).bnd λp=>fW t mb (p.2+1) p.1 O) (exec (.For target iter body [] pos)):=by
 intro V s Y O env A Q E ok F he hE k;refine wpAny_For ?_ (hf env);refine Si V s Y O env A _ E ok F he (aw.mono (ay k) (λp Y1 kk=>?_) λX X z=>z.expr F);intro s1 V1 I h1 tk S1 kI hI itr;have ok1:=ok.step S1;have F1:=F.step S1.step;have S2:St C V1 V1 s1 {s1 with heap:=h1,toks:=tk} Y1:=St.keeps S1.rel kI;have fI:=dC S1.rel hI;have kk1:aw (fW t mb (p.2+1) p.1 O Y1) (KS C A d env K.names V1 s1 Q) (ut C A env V1 s1 E):=aw.mono kk (λX X z=>z.trans (.of S1)) (λX X z=>z.trans (.of S1));clear kk;have nO:=F1.notOwn hI;refine codeAny_forLoop_any (L9 C d K A env V1 s1 Q E t mb I) ?_ (p.2+1)
  (eM V1 Y1 p.1 O (bT (.of S2) (ok1.step S2) (F1.step S2.step) itr (jw fI.1 kk1)))
 rintro n s' ⟨V',Y',it,O',g1,g2,g3,g4,g5,k⟩
 cases n with
 | zero=>exact k.elim|succ f=>
 exists aA g4.there,oI',gI',noI;rcases sH g2.room.handled g2.rel g4 (ay k) with ⟨x,it',kx,hnext⟩ | ⟨kx,hnext⟩
 . exists hnext _ _,v,h',tk',rv,jt,eb
   dsimp only at kx;exists fE (wu (t:=tk') ok1 F1 g1 g2 g3 hI g5 fI.2 noI (λb o hb e=>eb b o hb e)),kK,m2,m3;refine w0 (V:=V') (s:={s' with heap:=h',toks:=tk'}) nt jt ?_;exists wn (ay kx),O2,hb,kb;exists St' V' _ Y' O' O2 env A _ _ v x m2 m3 he rv hb,s3,st3,ok3,F3;have L3:=kK.trans st3;have it3:d8 C V' s3.heap I it':=jt.mono (.refl V') st3.step.tup λo g=>st3.step.stay I o g g5 nO;refine Uq hE.po (Sb V' s3 Y' O2 env A _ E ok3 F3 he hE (aw.mono (ay kb) (λq Y4 k4 fl s4 V4 st4 ok4 F4 r4=>?_) λX X z=>z.trans L3));have L4:=L3.trans st4;exists aA it3.there,o3,gI3,X;have it4:d8 C V4 s4.heap I it':=it3.mono st4.step.le st4.step.tup λo g=>st4.step.stay I o g g5 nO;have off4:hP V4 I:=l9 st4.step.new gI3 g5;obtain⟨fq,Oq⟩:=q;cases fl<;>cases fq<;>(try exact(show False from r4).elim)
   . exact(ny f (jw (NU f) (eM V4 Y4 it' Oq (bT L4 ok4 F4 it4 (jw off4 k4)))))
   . exact(ny f (jw (NU f) (eM V4 Y4 it' Oq (bT L4 ok4 F4 it4 (jw off4 k4)))))
   . exact k4 (.ret _) s4 V4 L4 ok4 F4 r4
 . exists hnext _ _,h',eb
   exists fE (wu (t:=s'.toks) ok1 F1 g1 g2 g3 hI g5 fI.2 noI (λb o hb e=>eb b o hb e)),kK,m2,m3;exact Un (kx .next _ V' kK m2 m3 trivial)
theorem zc(Sc:br C d K gk mc (λenv=>isTrue test env (eval test env)))(Sb:f9 C d K mb (Um body)):
 f9 C d K (λO=>tL mc mb n O) (exec (.While test body [] pos)):=by
 intro V s Y O env A Q E ok F he hE k;refine wpAny_While ?_;refine codeAny_whileLoop (λn s'=>∃V' Y' O',jB C env V V' s s' Y'/\Ok C A d V' Y' s'/\cc C V' s'.heap env K.names O'/\aw (tL mc mb n O' Y') (KS C A d env K.names V s Q) (ut C A env V s E)) ?_ n (hR V Y O (jB.refl ok.rel) ok F k);rintro n s' ⟨V',Y',O',g1,g2,g3,k⟩
 cases n with
 | zero=>exact k.elim|succ f=>
 refine Uq hE.po (Sc V' s' Y' O' env A _ E g2 g3 he (aw.mono (ay k) (λb Y1 k1 a s1 V1 st1 r1=>?_) λX X z=>(z.trans g1).expr g3));cases r1;haveI ok1:=g2.step st1;haveI F1:=g3.step st1.step;haveI L1:=g1.trans (.of st1)
 cases b with
 | false=>
   refine(if_neg Np)▸?_;exact Un (k1 .next s1 V1 L1 ok1 F1 trivial)
 | true=>
   erw[if_pos rfl];refine Uq hE.po (Sb V1 s1 Y1 O' env A _ E ok1 F1 he hE (aw.mono (ay k1) (λq Y4 k4 fl s4 V4 st4 ok4 F4 r4=>?_) λX X z=>z.trans L1));haveI L4:=L1.trans st4;obtain⟨fq,Oq⟩:=q;cases fl<;>cases fq<;>(try exact(show False from r4).elim)
   . exact ny f (jw (NU f) (ik V4 Y4 Oq (eK L4 ok4 F4 k4)))
   . exact ny f (jw (NU f) (ik V4 Y4 Oq (eK L4 ok4 F4 k4)))
   . exact k4 (.ret _) s4 V4 L4 ok4 F4 r4
end
section
variable{C:Cx}{d:Nat}{K:Ck}
theorem Bz{id:MJ}
 (hi:K.names[i]? =some id) (hloc:K.scope.names.lookup id=some .local) (hline:(p.line==vpos.line)=true) (hnn:(sc.names.any λ(n,k)=>n==id&&(k== .local||k== .cell))=false)
 (Si:nN C d K mi iterX) (Se:br C d (K.comp sc t) (aW C) me (eval eltX)) (Sc:br C d (K.comp sc t) gk mc (jO ifs)) (okc:eQ K sc t=true) (hfs:∀env x,OU iterX env x=pure x):
 f9 C d K (λO=>(((mi O).bnd λp=>jG (λx=>tA (me (some x::O))) (λx=>tA (mc (some x::O))) (p.2+1) p.1 []).bnd λxs=>dB (.list xs)).bnd λv=>ret (.nxt,O.set i (some v)))
  (exec (.Assign [.Name id p] (.ListComp eltX [⟨.Name t px,iterX,ifs,0⟩] sc vpos) pos)):=by
 intro V s Y O env A Q E ok F he hE k;have okc':=okc;erw[eQ,MY,M8] at okc'
 (refine bj okc' λt'1 k6=>?_;exists bj t'1,t'2,k5;exists bj t'2,t'3,k4;exists bj t'3,t'4,k3;exists bj t'4,k1,k2)
 exists jy okc F he,cl,ecl,hcl,hfr;have hkof:env.kindOf id=some .local:=by unfold NV;refine he▸?_;exact hloc
 have hb:env.blockKind= .function:=by unfold Env.blockKind;rw[F.kind];rfl
 have hsw:swapsWith (.ListComp eltX [⟨.Name t px,iterX,ifs,0⟩] sc vpos) (some (.Name id p)) pos.line env=pure true:=by
  show(pure (env.blockKind== .function&&env.kindOf id==some .local&&p.line==vpos.line&& !(sc.names.any λ(n,k)=>n==id&&(k== .local||k== .cell))):Sem Bool)=_
  erw[hb,hkof,hline,hnn];rfl
 refine(exec_Assign_Name_used _ _ _ _ hsw)▸?_;refine Ow (Uf (Ow ?_));refine Ow (OL (OV (use:=some (assign (.Name id p) env)) (Q:=λX s'=>Q .next s') rfl (hfs env) ecl (beq_iff_eq.mp k1) (λx hx hl=>by
  have:=k3 x hx;rw[hl] at this
  simpa using this) ?_) (λX s' hq=>Ox (Ox hq)) λX X e=>e)
 have kx:aw (((mi O).bnd λp=>jG (λx=>tA (me (some x::O))) (λx=>tA (mc (some x::O))) (p.2+1) p.1 []) Y) (λxs Y1=>aw (((dB (.list xs)).bnd λv=>ret (Fl.nxt,O.set i (some v))) Y1) (KS C A d env K.names V s Q) (ut C A env V s E)) (XK C A V s E):=by
  have:=k;dsimp only at this;rw[cf] at this;exact aw.mono (ay this) (λX X z=>z) λX X z=>z.expr F
 refine wG (RR:=λacc C'=>compPost (model C.prog C.w) A E (some (assign (.Name id p) env)) (λX s'=>Q .next s') acc C') Si Se Sc okc ok F he hcl hfr ?_ kx;intro s' V' Y' D Cad vs xs m h1 hD hC hDC oD oC h2 h3 h4 h5 h6 h7 h8;exists bx h2,n,gD;have S3:=h1.enterAt (o:= .list xs) hD h6 oD ⟨_,gD⟩ (dq rfl h4 (gQ vs n (jw gD (h3.mono (d2.append _ _) (.refl _)))));have ok3:=ok.step S3;have hk:bt K id=true:=by unfold bt;rw[hloc]
 have nO:¬HH env Cad:=λhOq0=>by
  rcases hOq0 with e | ⟨c,hc,e⟩
  . (refine aA F.ns λmL t'5 X=>?_;exists dZ t'5,oL,X,X,gL,X)
    erw[<-e,hC] at gL;exists _
  . exists bx (F.there c hc),o,g
    erw[<-e,hC] at g;exists _
 have fC:hP (V'++[(D,D)]) Cad:=λq hq=>by
  exists N0 (M5.mp hq) (λhq=>?_),hq
  . exact h7 q hq
  . rw[No] at hq;subst hq;exact⟨Ni hDC,Ni hDC⟩
 refine OR (fP ok3 (F.step S3.step) he hi hk (.ref (iP h1.rel _)) λs4 st4 ok4 F4=>?_);have h5':s4.heap.Ns Cad m:=by
  exists dZ h5,o,es,ep,g,r;exists aA (st4.step.stay _ o g fC nO),sl,g',X;exact iJ _ es ep g' r
 refine(aE m h5' (λh'' hs=>?_));exists fE (wu (t:=s4.toks) ok F ((jB.of S3).trans st4) ok4 F4 hC fC oC (gN h5') (λb o hb e=>(hs.2 b hb).trans e)),kK,m2,m3;exact h8 .next _ _ kK m2 m3 trivial
theorem A5(So:br C d K (aW C) mo (eval o))(Si:br C d K (aW C) mk (eval i)){E:Od->Og->Prop}
 (ok:Ok C A d V Y s) (F:cc C V s.heap env K.names O) (he:env.scope=K.scope) (rv:aB C V s.heap v x)
 (k:aw (((mo O).bnd λo=>(mk O).bnd λk=>dA o k x) Y) Kx (XK C A V s E)) (hK:∀Y' s' V',St C V V' s s' Y'->Kx () Y'->Q () s'):Oo (model C.prog C.w) A (assign (.Subscript o i p) env v) Q E s:=by
 erw[assign_Subscript];refine Ow (Ov (So V s Y O env A _ E ok F he (aw.mono (ay k) (λy Y1 k1 a s1 V1 st1 ra=>?_) λB B z=>z)));haveI ok1:=ok.step st1;haveI F1:=F.step st1.step;refine Ow (Ov (Si V1 s1 Y1 O env A _ E ok1 F1 he (aw.mono (ay k1) (λz Y2 k2 b s2 V2 st2 rb=>?_) λB B z=>z.trans st1)));refine Ow (Uf (Ow (Ov ?_)));refine pX (X:=XK C A V s E) (ok1.step st2).rel ((rv.mono st1.step.le st1.step.tup).mono st2.step.le st2.step.tup) (aB.mono st2.step.le st2.step.tup ra) rb (aw.mono k2 (λB Y3 k3 s3 st3=>?_) λB B z=>z);exact wpAny_releaseD (hK Y3 s3 V2 ((st1.trans st2).trans st3) k3)
end
noncomputable def xQ(i:Nat)(g:E):Bool:=((JF g).any λj=> !(j.1==i))||((KT g).any λx=>(JF x.1.1).any λj=> !(j.1==i))
def sg(i:Nat)(g:E)(O:UG)(Y:aR)(v:PV):Prop:=(∃j,g= .loc j/\j≠i/\O[j]? =some (some v))\/
 ∃j a n c fs,g= .attr (.loc j) a/\j≠i/\O[j]? =some (some (.ref n))/\Y[n]? =some (.inst c fs)/\fs.lookup a=some v
section
variable{C:Cx}{d:Nat}{K:Ck}{call:db}
theorem Ay(x:Option PV)(Y:aR):aZ x Y= .bad\/∃v,x=some v:=by
 cases x with
 | none=>exact .inl rfl|some v=>exact .inr ⟨v,rfl⟩
theorem CJ(v:PV)(a:Nat)(Y:aR):eL v a Y= .bad\/∃n c fs w,v= .ref n/\Y[n]? =some (.inst c fs)/\fs.lookup a=some w:=by
 haveI k:eL v a Y= .bad\/aw (eL v a Y) (λX X=>True) (λX X=>True):=by cases eL v a Y<;>first | exact .inl rfl | exact .inr trivial
 exists k.imp id,k;exists ak k,n,e,k;exists pp k,c,fs,eo,k;exists bp k,w,ew,X;exact eM n c fs w (dq e eo ew)
theorem BY(h:sg i g O Y v):af call P.glo P.init g O Y= .ok v Y:=by
 rcases h with ⟨j,rfl,_,h⟩ | ⟨j,a,n,c,fs,rfl,_,h,ho,hf⟩
 . show aZ ((O[j]?).join) Y=_
   refine h▸?_;rfl
 . show((aZ ((O[j]?).join)).bnd λo=>eL o a) Y=_
   refine h▸?_;show((cO n).bnd λo=>need (HA o) λx=>aZ (x.2.lookup a)) Y=_;unfold M.bnd cO;refine ho▸?_;show aZ (fs.lookup a) Y=_;refine hf▸?_;rfl
theorem CN(hl:xQ i g=true)(O:UG)(Y:aR):af call P.glo P.init g O Y= .bad\/∃v,sg i g O Y v:=by
 rcases NQ.mp hl with h | h
 . exists aP h,j,e,h
   subst e;exact(Ay ((O[j]?).join) Y).imp id λ⟨v,e⟩=>⟨v, .inl (fw j rfl (show j≠i from beq_eq_false_iff_ne.mp (dI h)) (lQ e))⟩
 . refine aP h λx e h=>aP h λj e2 h=>?_
   obtain⟨o,a⟩:=x;obtain rfl:o= .loc j:=e2;subst e;rcases Ay ((O[j]?).join) Y with h | ⟨o,e⟩
   . left
     show((aZ ((O[j]?).join)).bnd λo=>eL o a) Y=_
     unfold M.bnd;rw[h]
   . rcases CJ o a Y with h | ⟨n,c,fs,w,rfl,ho,hf⟩
     . left
       show((aZ ((O[j]?).join)).bnd λo=>eL o a) Y=_
       refine e▸?_;exact h
     . exact .inr ⟨w, .inr (eM j a n c (ny fs (bT rfl (show j≠i from beq_eq_false_iff_ne.mp (dI h)) (lQ e) ho hf)))⟩
theorem Br(h:sg i g O Y v)(hO:∀j,j≠i->O'[j]? =O[j]?)(hY:∀(n c:Nat) (fs:List (Nat×PV)),Y[n]? =some (aC.inst c fs)->Y'[n]? =some (aC.inst c fs)):sg i g O' Y' v:=by
 rcases h with ⟨j,e,hj,h⟩ | ⟨j,a,n,c,fs,e,hj,h,ho,hf⟩
 . exact .inl (fw j e hj ((hO j hj).trans h))
 . exact .inr (eM j a n c (ny fs (bT e hj ((hO j hj).trans h) (hY _ _ _ ho) hf)))
theorem nX(G:lW C P TT)(hg:cC TT g K x=true)(ok:Ok C A d V Y s)(F:cc C V s.heap env K.names O)(he:env.scope=K.scope)
 (h:sg i g O Y (.ref n))  (Kz:(∀a e,V[n]? =some (a,e)->(∀(Q E:Od->Og->Prop),(∀tk,Q (.ref a) {s with toks:=tk})->Oo (model C.prog C.w) A (eval x env) Q E s)->Gz)):Gz:=by
 rcases h with ⟨j,rfl,_,h⟩ | ⟨j,code,nn,c,fs,rfl,_,h,ho,hf⟩
 . exists az hg,y,hy
   exists eZ (p:=y.1.2) (A:=A) (beq_iff_eq.mp (aa (aa hy))) (ae (aa hy)) (dI (ae hy)) F he h,u,ru,hu;exists a7 ru,a,e,rfl,ep;exact Kz a e ep (λQ E hQ=>y.2▸hu Q E (hQ s.toks))
 . refine aP hg λy e hy=>aP (ae hy) λz e2 hz=>?_
   obtain⟨y,name,p⟩:=y;obtain rfl:y= .Name z.1 z.2:=e2;obtain rfl:name=ch code:=beq_iff_eq.mp (aa (aa (aa hy)));have hc:code∈cg:=Pj.mp (ae (aa (aa hy)));exists eZ (p:=z.2) (A:=A) (beq_iff_eq.mp (aa (aa hz))) (ae (aa hz)) (dI (ae hz)) F he h,u,ru,hu;clear hy hz hg;exists a7 ru,o,B,rfl,epo;exists oS ok.rel epo ho,B,B,mA,oo,I,B,B,hat;exists aA (hat.1 code _ hf),w,ew,rw';exists a7 rw',a,e',rfl,ep;refine(Kz a e' ep (λQ E hQ=>?_));refine fx ((G.cls c).cls) λN mN z'0=>bh z'0 λX c1 B B c4=>?_;have X':=X.keeps ok.rel.keep;exists kX X',B,hC;subst e
   show Oo _ A (do
    let o <-attributeBase (.Name z.1 z.2) (ch code) env (eval (.Name z.1 z.2) env)
    OZ p.atName
    let r <-O3 [o] (getAttr o (ch code) true)
    letTemporaryGo (.Name z.1 z.2) o r
    pure r) Q E s
   refine Ow (hu _ _ (Ow (Uf (Ow (Ov ?_)))));obtain⟨hh,gg,dr,t,os⟩:=s;exact load_attr hC X'.ns c1 (c4 code hc) (lw code hc) I ew rfl (Ow (Ui (Ox (hQ (t+1)))))
end
section
variable{C:Cx}{d:Nat}{K:Ck}{call:db}
theorem kS:∀(xs ys:List (Nat×PV)) (k:Nat) (v:PV),cn ys (xs++[(k,v)])=bK (cn ys xs) k v:=by
 intro xs
 induction xs with
 | nil=>
   intro _ _ _;exact rfl
 | cons x'9 xs kS=>
   obtain⟨a,b⟩:=x'9;intro ys k v;exact kS (bK ys a b) k v
noncomputable def jh(i:Nat)(O:UG)(xs:List (Nat×PV)):UG:=match xs.getLast? with
 | some kv=>O.set i (some (.str kv.1))|none=>O
theorem ya(i:Nat)(O:UG)(xs:List (Nat×PV))(k:Option PV):(jh i O xs).set i k=O.set i k:=by
 unfold jh;split
 . rw[List.set_set]
 . rfl
theorem wd{O:UG}(h:i<O.length)(x:Option PV):(O.set i x)[i]? =some x:=by simp [h]
theorem jK:∀{xs:List (Nat×PV)} {j:Nat} {k:Nat} {v:PV},(xs.map (·.1)).Nodup->xs[j]? =some (k,v)->xs.lookup k=some v
 | [],_,_,_,_,h=>by exists _
 | (a,b)::xs,0,k,v,_,h=>by
   erw[Qt,N9] at h;cases h;simp
 | (a,b)::xs,j+1,k,v,hn,h=>by
   erw[Qu] at h;erw[Nl,NI] at hn;have hm:k∈xs.map (·.1):=Nd.mpr (aE (k,v) (M6 h) rfl);have hne:k≠a:=λe=>hn.1 (e▸hm);erw[Ng,show(k==a)=false from beq_eq_false_iff_ne.mpr hne];exact jK hn.2 h
theorem AS(hl:xQ i g=true)(k:aw (bc call P.glo P.init (.cpy i g b) O Y) K' X)(Kz:(∀n m xs ys,i<O.length->sg i g O Y (.ref n)->O[b]? =some (some (.ref m))->Y[n]? =some (.dictS xs)->Y[m]? =some (.dictS ys)->n≠m->xs.length+ys.length<4000->((∀kv∈xs,(gf kv.1).length<4000))->K' (.nxt,jh i O xs) (Y.set m (.dictS (cn ys xs)))->Gz)):Gz:=by
 replace k:aw ((if decide (i<O.length) then(af call P.glo P.init g O).bnd λg=>(aZ ((O[b]?).join)).bnd λb=>(Ah g b).bnd λk=>ret (.nxt,match k with | some k=>O.set i (some k) | none=>O) else fX:M (Fl×UG)) Y) K' X:=k
 by_cases hil:i<O.length
 case neg=>rw[if_neg (λz=>hil (UD z))] at k;exact k.elim
 rw[if_pos (UE hil)] at k
 replace k:=ay k
 rcases CN (call:=call) hl O Y with eg | ⟨gv,h⟩
 . rw[eg] at k;exact k.elim
 rw[BY h] at k;exists bp (ay k),bv,eb,k;exists ak (ay k),n,rfl,k1;exists ak k1,m,rfl,k2;exists iz k2,xs,en,k3;exists iz k3,ys,em,k4;exists bj (bf k4),hc,k5;clear k k1 k2 k3 k4;haveI ee:(match (xs.getLast?).map λkv=>TN kv.1 with | some k=>O.set i (some k) | none=>O)=jh i O xs:=by
  unfold jh;cases xs.getLast?<;>rfl
 exact Kz n m xs ys hil h (lQ eb) en em (λz=>(by rw[z,beq_self_eq_true] at hc;exists _)) (eX (ae (aa hc))) (λkv hk=>eX (M8.mp (ae hc) kv hk)) (ee▸k5)
section
variable(G:lW C P TT){i b n m:Nat}{g:E}{x bn:MJ}{src src2:ML}{px p1 p2 p3 p4 p5 apos pos:Pos}{V:cV}{env:Nf}{A:Ol}{a a' d' e':Addr}{k0:Nat}{v0:PV}{xs zs:List (Nat×PV)}
 (hg2:cC TT g K src2=true) (hx:K.names[i]? =some x) (hlx:bz K x=true) (hdx:(x==("__debug__":MJ))=false) (hb:K.names[b]? =some bn) (hlb:bz K bn=true) (hdb:(bn==("__debug__":MJ))=false)
include G hg2 hx hlx hdx hb hlb hdb
theorem CL(ok:Ok C A d V Y s)(F:cc C V s.heap env K.names O)(he:env.scope=K.scope)(hl:sg i g O Y (.ref n))(hxi:O[i]? =some (some (.str k0)))(hbi:O[b]? =some (some (.ref m)))(en:Y[n]? =some (.dictS xs))(em:Y[m]? =some (.dictS zs))
 (hz:zs.length<4000) (hv:xs.lookup k0=some v0) (epm:V[m]? =some (a',d')) {E:Od->Og->Prop}
 (next:∀s5,St C V V s s5 (Y.set m (.dictS (bK zs k0 v0)))->(∀b,b≠a'->s5.heap.get? b=s.heap.get? b)->Q .next s5):
 Oo (model C.prog C.w) A (Um [.Assign [.Subscript (.Name bn p1) (.Name x p2) p3] (.Subscript src2 (.Name x p4) p5) apos] env) Q E s:=by
 exists nX (A:=A) G hg2 ok F he hl,a,X,epn,look;refine Uo (wpAny_Assign_Subscript (Ug (look _ _ λtk=>?_)) (iH rfl));exists cj ok.rel epn en,X,ws,gd,rr;exists aA ((rr.at k0).1 v0 hv),v1,ev1,rv1;exists eZ (s:={s with toks:=tk}) (p:=p4) (A:=A) hx hlx hdx F he hxi,u,ru,hu;exists cX ru,tu,rfl;refine hu _ _ (OC (s:={s with toks:=tk}) gd.typeIs slot_dict_getitem.lookup (wpAny_getItem_of (c9 _ _ _ _) gd.mapOf ev1 ?_) (c6 rfl _ _));exists eZ (s:={s with toks:=tk+1}) (p:=p1) (A:=A) hb hlb hdb F he hbi,ub,rub,hub;exists a7 rub,X,X,rfl,epm';exists bj (Q8 (MI (epm.symm.trans epm'))),rfl,rfl;exists eZ (s:={s with toks:=tk+1}) (p:=p2) (A:=A) hx hlx hdx F he hxi,u2,ru2,hu2;exists cX ru2,tu2,rfl;refine hub _ _ (hu2 _ _ ?_);haveI S4:St C V V s {s with toks:=tk+1} Y:=St.toks ok.rel _;haveI hOq0:=j7 S4.rel epm em;exists qV hOq0.2,X,wm,gm,rm;refine wpAny_setItem_pairs (c9 _ _ _ _) gm (λh6 hd6 hs6=>?_) (b5 (rm.length▸MO (Nk hz) %[|1]))
 haveI S5:=lD (s:={s with toks:=tk+1}) (t:=tk+1+1) (o':= .dictS (bK zs k0 v0)) S4.rel epm em hOq0.1 hs6 (let ⟨o,_,_,g,_⟩:=hd6;⟨o,g⟩) λt=>
  (dY hOq0.1 (MO (eV zs k0 v0) hz) _ hd6 ((rm.stored (mV gm) rv1).mono (.refl V) t))
 exact Un (next _ (S4.trans S5) hs6.2)
end
def Mh(C:Cx)(d:Nat)(K:Ck)(A:Ol)(env:Nf)(V:cV)(s:Og)(i m:Nat)(O:UG)(Y:aR)(I a:Addr)(oa:Obj)(wl ep:Nat)(xs ys:List (Nat×PV))(c:Nat)(s':Og):Prop:=
 ∃j,j<=xs.length/\c=xs.length+1 - j/\jB C env V V s s' (Y.set m (.dictS (cn ys (xs.take j))))/\Ok C A d V (Y.set m (.dictS (cn ys (xs.take j)))) s'/\cc C V s'.heap env K.names (jh i O (xs.take j))/\s'.heap.IsKeyIter I a j wl ep/\s'.heap.get? a=some oa
theorem Da{Y:aR}(h:Y[m]? =some o):Y.set m o=Y:=by
 exists bx (M4.mp h),hm,rfl;exact RJ hm
theorem EO{xs:List α}(h:xs.length+n<4000):n+(xs.take j).length<4000:=by rw[NM];lia
theorem E6(G:lW C P TT){i b:Nat}{x bn:MJ}{src src2:ML}(hl:xQ i g=true)(hg:cC TT g K src=true)(hg2:cC TT g K src2=true)(hx:K.names[i]? =some x)(hsx:bt K x=true)(hlx:bz K x=true)(hdx:(x==("__debug__":MJ))=false)
 (hb:K.names[b]? =some bn) (hlb:bz K bn=true) (hdb:(bn==("__debug__":MJ))=false) (hbi:b≠i):
 f9 C d K (bc call P.glo P.init (.cpy i g b)) (exec (.For (.Name x px) src [.Assign [.Subscript (.Name bn p1) (.Name x p2) p3] (.Subscript src2 (.Name x p4) p5) apos] [] pos)):=by
 intro V s Y O env A Q E ok F he hE k;exists AS hl k,n,m,xs,ys,hil,hlk,hbv,eo,eo',hne,hfit,hkeys,kf;clear k;exists nX (A:=A) G hg ok F he hlk,a,e',epn,look;exists cj ok.rel epn eo,X,ws,gd,rr;exists gH gd.dictAt,ep,oa,es,ga,hex,hda,hko,hpa,hnd;exists eZ (p:=p1) (A:=A) hb hlb hdb F he hbv,X,rbu,X;exists vRef rbu,a',d',epm;have hxnd:(xs.map (·.1)).Nodup:=rr.keys▸hnd;refine wpAny_For (look _ _ λtk=>wpAny_pyIter_dict (ic G.sys ok.rel epn) ⟨oa,es,ga,hex,hda,hko,hpa,hnd⟩ ?_) λv=>nu hg env v;have kk:=bM s.heap {cls:= .type "dict_keyiterator",data:= .fields #[.ref a, .int 0 0, .int ws.length 0, .int ep 0]};have hI:s.heap.get? s.heap.objs.size=none:=bq _;have fI:=dC ok.rel hI;have S0:St C V V s {s with heap:=s.heap.push {cls:= .type "dict_keyiterator",data:= .fields #[.ref a, .int 0 0, .int ws.length 0, .int ep 0]},toks:=tk} Y:=St.keeps ok.rel kk;have Y0:=Da eo';have nOI:=F.notOwn hI;have aI:a≠s.heap.objs.size:=λe=>by erw[e,hI] at ga;exists _
 have aat:=(ok.rel.apart n m _ _ epn epm hne).1;have Iat:=(fI.1 _ (M6 epm)).1;have nOa:¬HH env a:=λhOq0=>by
  rcases hOq0 with e | ⟨c,hc,e⟩
  . exact(F.off.1 _ (M6 epn)).1 e.symm
  . exact(F.off.2 c hc _ (M6 epn)).1 e.symm
 refine codeAny_forLoop (Mh C d K A env V s i m O Y s.heap.objs.size a oa ws.length ep xs ys) ?_ (xs.length+1) ⟨0,Pm _,rfl,Y0.symm▸ .of S0,Y0.symm▸ok.step S0,F.step S0.step,(fw _ (NF _ rfl) rfl rfl),kk _ _ ga⟩;rintro c s' ⟨j,hjl,rfl,g1,g2,g3,g4,g5⟩;have en:(Y.set m (.dictS (cn ys (xs.take j))))[n]? =some (.dictS xs):=(Nq (Ni hne)).trans eo;have em:(Y.set m (.dictS (cn ys (xs.take j))))[m]? =some (.dictS (cn ys (xs.take j))):=PU (M4.mp eo').1;have noI:∀its,¬s'.heap.IsTuple s.heap.objs.size its:=λits ⟨o,g,hc,_⟩=>by
  exists cF g4,o2,q1,q2,X;obtain rfl:=MI (q1.symm.trans g);exact absurd (q2.symm.trans hc) %[|1]
 exists cj g2.rel epn en,X,ws1,gd1,rr1;have at1:s'.heap.DictAt (ct C.prog C.w) a ws1 ep:=by
  exists cU gd1.dictAt,ep1,oa1,es1,ga1,hex1,hda1,r;obtain rfl:=MI (g5.symm.trans ga1);exists bj (SK (hda.symm.trans hda1)),rfl,rfl;exact jg _ _ g5 hex1 hda r
 have ewl:ws1.length=ws.length:=rr1.length.trans rr.length.symm;erw[<-ewl] at g4
 cases hxj:xs[j]? with
 | none=>
   have hxl:=Nt.mp hxj;exists wpAny_pyNext_dict_end g2.room.handled g4 at1 (Nt.mpr (rr1.length▸hxl)),h',eb;exists fE (wu (t:=s'.toks) ok F g1 g2 g3 hI fI.1 fI.2 noI (λb o hb e=>eb b o hb e)),kK,m2,m3;erw[PC hxl] at kK m2 m3;exact Un (kf .next _ V kK m2 m3 trivial)
 | some kv=>
   exists cps,Gz,Kz;obtain⟨k0,v0⟩:=kv;exists aA (rr1.get hxj),vv,evv,rvv;refine Kz ?_;exists wpAny_pyNext_dict_item g4 at1 evv,key,h',hkey,jt,hsb;exists mG hkey,tk0,rfl;exists fE (wu (t:=s'.toks) ok F g1 g2 g3 hI fI.1 fI.2 noI (λb o hb e=>hsb.extBut b o hb e)),kK,m2,m3;refine OR (ou m2 m3 he hx hsx (.str k0 tk0 (Nk (hkeys _ (M6 hxj)))) λs3 st3 ok3 F3 keep3=>?_);erw[ya] at F3;exists cF jt,oI,q1,q2,q3;refine CL (p1:=p1) (p2:=p2) (p3:=p3) (p4:=p4) (p5:=p5) (apos:=apos) G hg2 hx hlx hdx hb hlb hdb ok3 F3 he (Br hlk (λq hq=>Nq (Ni hq)) λq c fs h=>?_) (wd hil _) ((Nq (Ni hbi)).trans hbv) en em
    (MM (g9 (xs.take j) ys) (EO hfit)) (jK hxnd hxj) epm λs5 st5 keep5=>?_
   . have hq:q≠m:=λz=>by erw[z,eo'] at h;cases h
     exact(Nq (Ni hq)).trans h
   have etake:xs.take (j+1)=xs.take j++[(k0,v0)]:=by erw[SV,hxj];rfl
   have eY:(Y.set m (.dictS (cn ys (xs.take j)))).set m (.dictS (bK (cn ys (xs.take j)) k0 v0))=Y.set m (.dictS (cn ys (xs.take (j+1)))):=by erw[List.set_set,etake,kS]
   erw[eY] at st5;have eO:jh i O (xs.take (j+1))=O.set i (some (.str k0)):=by
    unfold jh;erw[etake,List.getLast?_concat]
   exact⟨xs.length+1 - (j+1),by clear kf;lia,j+1,(show j<xs.length from(M4.mp hxj).1),rfl,(kK.trans st3).trans (.of st5),ok3.step st5,eO▸F3.step st5.step,(fw oI ((keep5 _ Iat).trans (keep3 _ _ nOI q1)) q2 (ewl▸q3)),(keep5 a aat).trans (show s3.heap.get? a=some oa from keep3 a oa nOa (hsb.extBut a oa aI g5))⟩
end
section
noncomputable def DW(TT:uE)(K:Ck)(isR:Bool)(src:E)(iter:ML):Bool:=match isR with
 | true=>(dy iter).any λz=>(cR z.1.1).any λn=>(sZ z.1.2.1).any λw=>n.1.1==("range":MJ)&&bb K n.1.1&&cC TT src K w.1
 | false=>cC TT src K iter
noncomputable def vn(TT:uE)(K:Ck)(e:E)(id:MJ)(p:Pos)(value:ML):Bool:=(Ky e).any λc=>(Lv value).any λv=>(sZ v.1.2.1).any λg=>(cR g.1.target).any λt=>
 g.1.is_async==0&&eQ K v.1.2.2.1 t.1.1&&cC TT c.1.1 (K.comp v.1.2.2.1 t.1.1) v.1.1&&Ki TT c.1.2.2.2 (K.comp v.1.2.2.1 t.1.1) g.1.ifs&&DW TT K c.1.2.1 c.1.2.2.1 g.1.iter&&K.scope.names.lookup id==some .local&&p.line==v.1.2.2.2.line&&
  !(v.1.2.2.1.names.any λ(n,k)=>n==id&&(k== .local||k== .cell))
noncomputable def uk(TT:uE)(K:Ck):List E->List E->List ML->Bool
 | [],ks,ts=>ks.isEmpty&&ts.isEmpty|o::os,ks,ts=>(kh ks).any λk=>(kh ts).any λt=>(pR t.1.1).any λy=>cC TT o K y.1.1&&cC TT k.1.1 K y.1.2.1&&uk TT K os k.1.2 t.1.2
noncomputable def re:Op->Bool
 | .add=>true|.sub=>true|_=>false
theorem uf:∀{op:Op},re op=true->op= .add\/op= .sub
 | .add,_=> .inl rfl|.sub,_=> .inr rfl
noncomputable def LS(K:Ck):Kk->ML->Bool
 | .one i,x=>(cR x).any λy=>K.names[i]? ==some y.1.1&&bt K y.1.1|.many is,x=>(rN x).any λy=>j2 K is y.1.1
noncomputable def uV(K:Ck)(is:List Nat)(ts:List ML)(value:ML):Bool:=match mD K ts value with
 | none=>false|some r=>match r with
   | none=>true|some ns=>ns==nE ts&&decide is.Nodup
theorem ww{K:Ck}(h:uV K is ts value=true)(Kz:(∀r,mD K ts value=some r->((r=none\/(r=some (nE ts)/\is.Nodup)))->Gz)):Gz:=aA (show∃r,mD K ts value=some r/\(r=none\/(r=some (nE ts)/\is.Nodup)) from by
 unfold uV at h;generalize mD K ts value=q at h
 cases q with
 | none=>exists _|some r=>cases r with
   | none=>exact aE _ rfl (.inl rfl)
   | some ns=>exact(aE _ rfl (.inr ⟨congrArg some (beq_iff_eq.mp (aa h)),UD (ae h)⟩))) Kz
noncomputable def EG(TT:uE)(K:Ck)(b:List S)(ts:List Stmt):Bool:=(sZ ts).any λr=>(yB r.1).any λv=>(sZ b).any λsb=>(K4 sb.1).any λeb=>cC TT eb.1 K v.1.1
noncomputable def E5(K:Ck)(i:Nat)(dG:MJ)(bd:List Stmt):Bool:=(sZ bd).any λr=>(yB r.1).any λw=>(wb "why" w.1.1).any λa=>(iO dG a.1.1).any λX=>K.names[i]? ==some dG&&K.scope.names.lookup dG==some .local&& !(dG==("__debug__":MJ))
noncomputable def Cj(K:Ck)(i:Nat)(hs:List O6):Bool:=(sZ hs).any λhd=>(I8 hd.1).any λe=>(iO "Misused" e.1.1).any λX=>E5 K i e.1.2.1 e.1.2.2.1
noncomputable def Dq(i:Nat)(h:List S):Bool:=(sZ h).any λsh=>(K4 sh.1).any λeh=>(JF eh.1).any λj=>j.1==i
noncomputable def DI(TT:uE)(K:Ck)(b:List S)(i:Nat)(h:List S)(x:Stmt):Bool:=(Lb x).any λt=>EG TT K b t.1.1&&Cj K i t.1.2.1&&Dq i h&&bb K "Misused"
theorem BN{K:Ck}(h:EG TT K b ts=true)(Kz:∀v p6 e,ts=[.Return (some v) p6]->b=[.ret e]->cC TT e K v=true->Gz):Gz:=
 aP h λr e1 h=>aP h λv e2 h=>aP h λsb e3 h=>aP h λeb e4 h=>(Kz v.1 v.2 eb (by erw[show ts=_ from e1,show r=_ from e2]) (by erw[show b=_ from e3,show sb=_ from e4]) h)
def JS(K:Ck)(i:Nat)(dG:MJ):Prop:=K.names[i]? =some dG/\K.scope.names.lookup dG=some .local/\(dG==("__debug__":MJ))=false
theorem GV{K:Ck}{dG:MJ}(h:E5 K i dG bd=true):∃p2 p3 p4,bd=[.Return (some (.Attribute (.Name dG p2) "why" p3)) p4]/\JS K i dG:=
 aP h λr e1 h=>aP h λw e2 h=>aP h λa e3 h=>aP h λn e4 h=>(hR n a.2 w.2 (by erw[show bd=_ from e1,show r=_ from e2,show w.1=_ from e3,show a.1=_ from e4]) (beq_iff_eq.mp (aa (aa h))) (beq_iff_eq.mp (ae (aa h))) (dI (ae h)))
theorem AV{K:Ck}(h:Cj K i hs=true)(Kz:(∀p1 dG p2 p3 p4 p5,hs=[.ExceptHandler (some (.Name "Misused" p1)) (some dG) [.Return (some (.Attribute (.Name dG p2) "why" p3)) p4] p5]->JS K i dG->Gz)):Gz:=
 aP h λhd e1 h=>aP h λe e2 h=>aP h λm e3 h=>by
 exists dZ (GV h),p2,p3,p4,e4,hn;exact Kz m e.2.1 p2 p3 p4 e.2.2.2 (by erw[show hs=_ from e1,show hd=_ from e2,show e.1=_ from e3,show e.2.2.1=_ from e4]) hn
theorem GW(hh:Dq i h=true):h=[.ret (.loc i)]:=
 aP hh λsh e1 h=>aP h λeh e2 h=>aP h λj e3 h=>by erw[show _=[sh] from e1,show sh=_ from e2,show eh=_ from e3,show j=i from beq_iff_eq.mp h]
theorem J0{K:Ck}(hh:DI TT K b i h x=true):∃v dG e p1 p2 p3 p4 p5 p6 p7,
 x= .Try [.Return (some v) p6] [.ExceptHandler (some (.Name "Misused" p1)) (some dG) [.Return (some (.Attribute (.Name dG p2) "why" p3)) p4] p5] [] [] p7/\b=[.ret e]/\h=[.ret (.loc i)]/\cC TT e K v=true/\bb K "Misused"=true/\JS K i dG:=
 aP hh λt e1 h=>by
 exists BN (aa (aa (aa h))),v,p6,e,e2,e3,h1;exists AV (ae (aa (aa h))),p1,dG,p2,p3,p4,p5,e4,h2;exact⟨v,dG,e,p1,p2,p3,p4,p5,p6,t.2.2,by erw[show x=_ from e1,show t.1=_ from e2,show t.2.1=_ from e4],e3,GW (ae (aa h)),h1,ae h,h2⟩
noncomputable def yP(TT:uE)(K:Ck)(g:E)(x:MJ)(b:Nat)(bd:List Stmt):Bool:=(sZ bd).any λs=>(lv s.1).any λa=>(pR a.1.1).any λs1=>(cR s1.1.1).any λbn=>(iO x s1.1.2.1).any λX=>(pR a.1.2.1).any λs2=>(iO x s2.1.2.1).any λX=>
 cC TT g K s2.1.1&&K.names[b]? ==some bn.1.1&&bz K bn.1.1&& !(bn.1.1==("__debug__":MJ))
theorem GJ{K:Ck}(h:yP TT K g x b bd=true):∃bn src2 p1 p2 p3 p4 p5 ap,bd=[.Assign [.Subscript (.Name bn p1) (.Name x p2) p3] (.Subscript src2 (.Name x p4) p5) ap]/\cC TT g K src2=true/\K.names[b]? =some bn/\bz K bn=true/\(bn==("__debug__":MJ))=false:=
 aP h λs e1 h=>aP h λa e2 h=>aP h λs1 e3 h=>aP h λbn e4 h=>aP h λi1 e5 h=>aP h λs2 e6 h=>aP h λi2 e7 h=>
 ⟨bn.1,s2.1,bn.2,i1,s1.2.2,i2,s2.2.2,a.2.2,by erw[show bd=_ from e1,show s=_ from e2,show a.1=_ from e3,show s1.1=_ from e4,show s1.2.1=_ from e5,show a.2.1=_ from e6,show s2.2.1=_ from e7],aa (aa (aa h)),beq_iff_eq.mp (ae (aa (aa h))),ae (aa h),dI (ae h)⟩
mutual
noncomputable def KL(TT:uE):S->Ck->Stmt->Bool
 | .asg i e,K,x=>(lv x).any λa=>(cR a.1.1).any λn=>K.names[i]? ==some n.1.1&&((!dc a.1.2.1&&bt K n.1.1&&cC TT e K a.1.2.1)||vn TT K e n.1.1 n.1.2 a.1.2.1)|.unp is e,K,x=>(lv x).any λa=>(rN a.1.1).any λt=>j2 K is t.1.1&& !dc a.1.2.1&&uV K is t.1.1 a.1.2.1&&cC TT e K a.1.2.1|.satt o a e,K,x=>(lv x).any λz=>(jQ z.1.1).any λy=>y.1.2.1==ch a&&cg.contains a&& !dc z.1.2.1&&cC TT e K z.1.2.1&&cC TT o K y.1.1|.sidx o k e,K,x=>(lv x).any λz=>(pR z.1.1).any λy=> !dc z.1.2.1&&cC TT e K z.1.2.1&&cC TT o K y.1.1&&cC TT k K y.1.2.1|.unpI os ks e,K,x=>(lv x).any λz=>(rN z.1.1).any λt=>uk TT K os ks t.1.1&& !dc z.1.2.1&&mD K t.1.1 z.1.2.1==some none&&cC TT e K z.1.2.1|.aug i op e,K,x=>(HD x).any λz=>(cR z.1.1).any λn=>re op&&z.1.2.1==j5 op&&K.names[i]? ==some n.1.1&&bt K n.1.1&&bz K n.1.1&&cC TT e K z.1.2.2.1|.augA i a op e,K,x=>(HD x).any λz=>(jQ z.1.1).any λy=>(cR y.1.1).any λn=>re op&&z.1.2.1==j5 op&&K.names[i]? ==some n.1.1&&bz K n.1.1&& !(n.1.1==("__debug__":MJ))&&y.1.2.1==ch a&&cg.contains a&&cC TT e K z.1.2.2.1
 | .ifs c th el,K,x=>(K3 x).any λz=>cC TT c K z.1.1&&qs TT th K z.1.2.1&&qs TT el K z.1.2.2.1|.whl c b,K,x=>(GA x).any λz=>cC TT c K z.1.1&&qs TT b K z.1.2.1|.fors t isR src b,K,x=>(HO x).any λz=>LS K t z.1.1&&DW TT K isR src z.1.2.1&&qs TT b K z.1.2.2.1|.ret e,K,x=>((yB x).any λz=>cC TT e K z.1.1)||((IK x).any λX=>(KN e).any λX=>true)|.ex e,K,x=>(Dv x).any λz=> !dc z.1.1&&cC TT e K z.1.1|.raise e,K,x=>(Hm x).any λz=>(dy z.1.1).any λc=>(iO "Misused" c.1.1).any λX=>(sZ c.1.2.1).any λy=>bb K "Misused"&&cC TT e K y.1
 | .cont,_,x=>(J9 x).any λX=>true|.cpy i g b,K,x=>(HO x).any λf=>(cR f.1.1).any λn=>yP TT K g n.1.1 b f.1.2.2.1&&(xQ i g&&cC TT g K f.1.2.1&&K.names[i]? ==some n.1.1&&bt K n.1.1&&bz K n.1.1&& !(n.1.1==("__debug__":MJ))&& !(b==i))
 | .tryRet b i h,K,x=>DI TT K b i h x
noncomputable def qs(TT:uE):List S->Ck->List Stmt->Bool
 | [],_,xs=>xs.isEmpty|s::ss,K,xs=>(kh xs).any λx=>KL TT s K x.1.1&&qs TT ss K x.1.2
end
section
variable{C:Cx}{d:Nat}{call:db}
def rz(C:Cx)(d:Nat)(P:J2)(TT:uE)(call:db):Prop:=
 ∀(K:Ck) (e:E) (y:ML) (p q r:Pos),bb K "Misused"=true->cA y=true->br C d K (aW C) (af call P.glo P.init e) (eval y)->
  f9 C d K (λO=>(af call P.glo P.init e O).bnd λv=>Mp v) (exec (.Raise (some (.Call (.Name "Misused" p) [y] [] q)) none r))
def zo(C:Cx)(d:Nat)(P:J2)(TT:uE)(call:db):Prop:=
 ∀(K:Ck) (b:List S) (i:Nat) (h:List S) (x:Stmt),DI TT K b i h x=true->
  f9 C d K (λO=>λs=>match ax call P.glo P.init b O s with | .ok p s'=> .ok p s' | .exn m s'=>(match ax call P.glo P.init h (O.set i (some m)) s' with | .ok p s''=> .ok (p.1,[]) s'' | .exn m s''=> .exn m s'' | .bad=> .bad) | .bad=> .bad) (exec x)
variable(G:lW C P TT)(HC:d5 C call d)
include G HC
theorem xY{K:Ck}(h:DW TT K isR src iter=true):nN C d K (λO=>(af call P.glo P.init src O).bnd λv=>pc isR v) iter/\∀env x,OU iter env x=pure x:=by
 cases isR with
 | false=>exact⟨xi (aY G HC src K _ h).1,nu h⟩|true=>exact az h λz h=>az h λn h=>az h λw h=>Aw G z.2 n.2 w.2 (aa h) (ae h) (aY G HC src K _ (ae h))
set_option tactic.hygienic true in
theorem pj{K:Ck}:∀{os ks:List Internal.E} {ts:List ML},uk TT K os ks ts=true->∀{V:cV} {s:Og} {Y:aR} {O:UG} {env:Nf} {A:Ol} {Q:Unit->Og->Prop} {E:Od->Og->Prop} {vs:List Od} {xs:List PV} {Kx:Unit->aR->Prop},
 Ok C A d V Y s->cc C V s.heap env K.names O->env.scope=K.scope->aK C V s.heap vs xs->aw (unpI call P.glo P.init os ks xs O Y) Kx (XK C A V s E)->(∀Y' s' V',St C V V' s s' Y'->Kx () Y'->Q () s')->
 Oo (model C.prog C.w) A (assignInOrder ((Up ts env).map (·.2)) vs) Q E s:=by
 intro os
 induction os with
 | nil=>
   intro ks ts h V s Y O env A Q E vs xs Kx ok F he rs k hK;obtain rfl:=NH.mp (aa h);obtain rfl:=NH.mp (ae h)
   cases rs with
   | nil=>exact Ox (hK Y s V (St.refl ok.rel) k)|cons _ _=>exact(show False from k).elim
 | cons o os pj=>
   intro ks ts h V s Y O env A Q E vs xs Kx ok F he rs k hK;exists cps,Gz,Kz
   (refine bx (eJ h) λt'1 h=>?_;obtain⟨⟨kk,ks⟩,e0⟩:=t'1)
   (refine bx (eJ h) λt'2 h=>?_;obtain⟨⟨t,ts'⟩,e1⟩:=t'2)
   (refine bx (eJ h) λt'3 h=>?_;obtain⟨⟨y,z,p⟩,e2⟩:=t'3)
   dsimp only at e0 e1 e2 h;subst e0 e1 e2;haveI h1:=aa (aa h);haveI h2:=ae (aa h);refine Kz ?_
   cases rs with
   | nil=>exact(show False from k).elim
   | cons rv rr=>
     rename_i v x vs xs;rw[(show Up (.Subscript y z p::ts') env=(false,assign (.Subscript y z p) env)::Up ts' env from rfl)];show Oo _ A (do O3 vs (assign (.Subscript y z p) env v);assignInOrder ((Up ts' env).map (·.2)) vs) Q E s;haveI k2:aw ((((af call P.glo P.init o O).bnd λo=>(af call P.glo P.init kk O).bnd λk=>dA o k x).bnd λX=>unpI call P.glo P.init os ks xs O) Y) Kx (XK C A V s E):=by
      rw[cf];haveI:(λa=>((af call P.glo P.init kk O).bnd λk=>dA a k x).bnd λX=>unpI call P.glo P.init os ks xs O)=λa=>(af call P.glo P.init kk O).bnd λk=>(dA a k x).bnd λX=>unpI call P.glo P.init os ks xs O:=by
       funext a
       erw[cf]
      refine this▸?_;exact k
     refine Ow (Ov (A5 (aY G HC o K y h1).1 (aY G HC kk K z h2).1 ok F he rv (ay k2) λY1 s1 V1 st1 k3=>?_));exact pj (ae h) (ok.step st1) (F.step st1.step) he (rr.mono st1.step.le st1.step.tup) (aw.mono k3 (λX X z=>z) λX X z=>z.trans st1) λY2 s2 V2 st2 k4=>hK Y2 s2 V2 (st1.trans st2) k4
theorem Bu{K:Ck}{os ks:List E}(h:uk TT K os ks ts=true)(hc:dc value=false)(he':cC TT e K value=true)(hw:mD K ts value=some none)(hn:∀env,(Up ts env).length=os.length/\(Up ts env).findIdx? (·.1)=none):
 f9 C d K (λO=>(af call P.glo P.init e O).bnd λv=>need (qo v) λvs=>kN (vs.length==os.length) ((unpI call P.glo P.init os ks vs O).bnd λX=>ret (.nxt,O))) (exec (.Assign [.Tuple ts kk tp] value pos)):=by
 intro V s Y O env A Q E ok F he hE k;refine Assign_Tuple ((aY G HC e K value he').1.stm ok F he k λx v s1 V1 Y1 ok1 F1 rv st1 k1=>?_) (show swapsWithSole [.Tuple ts kk tp] value pos.line env=pure false from iH (tg:=some (.Tuple ts kk tp)) (line:=pos.line) (env:=env) hc) (qf (kk:=kk) (p:=tp) he F.kind hw);exists ak k1,xs,e,k1;exists bj (bf k1),hl,k1;exists jM (e▸rv),a,vs,rfl,ht,rs;have hlen:=rs.length;have hl:=beq_iff_eq.mp hl;exists bj (hn env),hn1,hn2;exists wpAny_assign_Tuple ok1.room.handled ht (by erw[hn1,M1];lia) hn2,h',eb;have kk2:∀b o,s1.heap.get? b=some o->h'.get? b=some o:=λb o e=>eb b o (Pe (NY e)) e;have S0:St C V1 V1 s1 {s1 with heap:=h',toks:=s1.toks} Y1:=St.keeps ok1.rel kk2;have ok2:=ok1.step S0;have F2:=F1.step S0.step;exists pj G HC h ok2 F2 he (rs.mono (.refl V1) (.of_keep kk2)) (aw.mono (ay k1) (λX X z=>z) λX X z=>(z.trans (.of S0)).expr F2),Y2,s2,V2,st2,k3;exact k3 .next s2 V2 (.of (S0.trans st2)) (ok2.step st2) (F2.step st2.step) trivial
theorem o9{K:Ck}:∀{os ks:List E} {ts:List ML},uk TT K os ks ts=true->∀env,(Up ts env).length=os.length/\(Up ts env).findIdx? (·.1)=none:=by
 intro os
 induction os with
 | nil=>
   intro ks ts h env;obtain rfl:=NH.mp (ae h);exact⟨rfl,rfl⟩
 | cons o os o9=>
   intro ks ts h env;exists cps,Gz,Kz
   (refine bx (eJ h) λt'5 h=>?_;obtain⟨⟨kk,ks⟩,e0⟩:=t'5)
   (refine bx (eJ h) λt'6 h=>?_;obtain⟨⟨t,ts'⟩,e1⟩:=t'6)
   (refine bx (eJ h) λt'7 h=>?_;obtain⟨⟨y,z,p⟩,e2⟩:=t'7)
   dsimp only at e0 e1 e2 h;subst e0 e1 e2;refine Kz ?_;refine(show Up (.Subscript y z p::ts') env=(false,assign (.Subscript y z p) env)::Up ts' env from rfl)▸?_;exists bj (o9 (ae h) env),h1,h2;exact⟨by simp [h1],by simp [SJ,h2]⟩
def SB(C:Cx)(d:Nat)(P:J2)(call:db)(st:S)(K:Ck)(x:Stmt):Prop:=f9 C d K (bc call P.glo P.init st) (exec x)
omit G HC in
theorem SB.at{st:S}{K:Ck}(h:x=x')(H:SB C d P call st K x'):SB C d P call st K x:=h▸H
section
variable{K:Ck}{x y z v:ML}{e o kx:E}{i:Nat}{n m:MJ}{p q:Pos}
omit G HC in
theorem Kq(hx:x= .Name n q)(h:(K.names[i]? ==some n)=true)(h2:(!dc v&&bt K n&&cC TT e K v)=true)(H:EB C d P call e K v):SB C d P call (.asg i e) K (.Assign [x] v p):=by
 subst hx;exact Cv (beq_iff_eq.mp h) (ae (aa h2)) (dI (aa (aa h2))) H.1
theorem Gb{isR:Bool}{cond:Option E}{y iter:ML}{ifs:List ML}{as:Int}{tn:MJ}{sc:OO}{tp vp:Pos}(h:K.names[i]? =some n)
 (h2:(as==0&&eQ K sc tn&&cC TT elt (K.comp sc tn) y&&Ki TT cond (K.comp sc tn) ifs&&DW TT K isR src iter&&K.scope.names.lookup n==some .local&&q.line==vp.line&& !(sc.names.any λ(z,k)=>z==n&&(k== .local||k== .cell)))=true):
 SB C d P call (.asg i (.comp elt isR src cond)) K (.Assign [.Name n q] (.ListComp y [⟨.Name tn tp,iter,ifs,as⟩] sc vp) p):=by
 haveI h3:=aa (aa (aa h2));haveI h4:=aa (aa h3);obtain rfl:=beq_iff_eq.mp (aa (aa h4));haveI I:=xY G HC (ae h3);intro V s Y O env A Q E ok F he hE k;refine Bz h (beq_iff_eq.mp (ae (aa (aa h2)))) (ae (aa h2)) (dI (ae h2)) I.1 (aY G HC elt _ _ (ae h4)).1 (JE G HC cond _ _ (ae (aa h3))) (ae (aa h4)) I.2 V s Y O env A Q E ok F he hE ?_;dsimp only;rw[cf ((af call P.glo P.init src O).bnd _),cf (af call P.glo P.init src O)];exact k
theorem JX(hx:x= .Name n q)(h:(K.names[i]? ==some n)=true)(h2:vn TT K e n q v=true):SB C d P call (.asg i e) K (.Assign [x] v p):=
 aP h2 λc e0 h2=>aP h2 λl e1 h2=>aP h2 λg e2 h2=>aP h2 λt e3 h2=>by
  obtain⟨tg,iter,ifs,as⟩:=g;obtain rfl:tg= .Name t.1 t.2:=e3;erw[hx,show e=_ from e0,show v=_ from e1,show l.2.1=_ from e2];exact Gb (elt:=c.1) (isR:=c.2.1) (src:=c.2.2.1) (cond:=c.2.2.2) (y:=l.1) (iter:=iter) (ifs:=ifs) (as:=as) (tn:=t.1) (sc:=l.2.2.1) (q:=q) (p:=p) (tp:=t.2) (vp:=l.2.2.2) G HC (beq_iff_eq.mp h) h2
omit G HC in
theorem Kp(hx:x= .Tuple ts k q)(h:(j2 K is ts&& !dc v&&uV K is ts v)=true)(H:EB C d P call e K v):SB C d P call (.unp is e) K (.Assign [x] v p):=by
 exists ww (ae h),r,h1,h2;subst hx;exact EK (aa (aa h)) (dI (ae (aa h))) h1 h2 H.1
omit HC in
theorem J5(hx:x= .Attribute y n q)(h:(n==ch a&&cg.contains a&& !dc v)=true)(H:EB C d P call e K v)(Ho:EB C d P call o K y):SB C d P call (.satt o a e) K (.Assign [x] v p):=by
 obtain rfl:=beq_iff_eq.mp (aa (aa h));subst hx;exact Ca G (Pj.mp (ae (aa h))) (dI (ae h)) H.1 Ho.1
omit G HC in
theorem IU(hx:x= .Subscript y z q)(h:(!dc v)=true)(H:EB C d P call e K v)(Ho:EB C d P call o K y)(Hk:EB C d P call kx K z):SB C d P call (.sidx o kx e) K (.Assign [x] v p):=by
 subst hx;exact Bp (dI h) H.1 Ho.1 Hk.1
theorem Jt{os ks:List E}{k:Nat}(hx:x= .Tuple ts k q)(h:(uk TT K os ks ts&& !dc v&&mD K ts v==some none)=true)(he:cC TT e K v=true):SB C d P call (.unpI os ks e) K (.Assign [x] v p):=by
 subst hx;haveI h1:=aa (aa h);exact Bu G HC h1 (dI (ae (aa h))) he (beq_iff_eq.mp (ae h)) (o9 G HC h1)
omit G HC in
theorem K7(hx:x= .Name n q)(h:(re op&&oo==j5 op&&K.names[i]? ==some n&&bt K n&&bz K n)=true)(H:EB C d P call e K v):SB C d P call (.aug i op e) K (.AugAssign x oo v p):=by
 haveI h1:=aa (aa h);obtain rfl:=beq_iff_eq.mp (ae (aa h1));subst hx;exact CD (uf (aa (aa h1))) (beq_iff_eq.mp (ae h1)) (ae (aa h)) (ae h) H.1
omit HC in
theorem Jw(hx:x= .Attribute y m q)(hy:y= .Name n p)(h:(re op&&oo==j5 op&&K.names[i]? ==some n&&bz K n&& !(n==("__debug__":MJ))&&m==ch a&&cg.contains a)=true)(H:EB C d P call e K v):SB C d P call (.augA i a op e) K (.AugAssign x oo v pos):=by
 haveI h1:=aa (aa (aa h));haveI h2:=aa h1;obtain rfl:=beq_iff_eq.mp (ae (aa h2));obtain rfl:=beq_iff_eq.mp (ae (aa h));subst hx hy;exact BI G (uf (aa (aa h2))) (beq_iff_eq.mp (ae h2)) (ae h1) (dI (ae (aa (aa h)))) (Pj.mp (ae h)) H.1
omit G HC in
theorem JH(h:LS K t x=true):ve C d K t x:=by
 cases t with
 | one j=>exact az h λy h=>y.2▸Fh (beq_iff_eq.mp (aa h)) (ae h)|many js=>exact az h λy h=>y.2▸xZ h
omit G HC in
theorem JT(h:LS K t x=true):D8 x:=by
 cases t with
 | one j=>exact az h λy X=> .inl (gQ _ _ y.2)|many js=>exact az h λy X=> .inr (ik _ _ _ y.2)
theorem Ic(h:(LS K t x&&DW TT K isR e y)=true)(Hb:f9 C d K (ax call P.glo P.init b) (Um bs)):SB C d P call (.fors t isR e b) K (.For x y bs [] p):=by
 exists bj (xY G HC (ae h)),Si,hfs;intro V s Y O env A Q E ok F he hE k;refine DM hfs Si (JH (aa h)) (JT (aa h)) Hb V s Y O env A Q E ok F he hE ?_;erw[cf];exact k
end
variable(HR:rz C d P TT call)(HT:zo C d P TT call)
include HR HT
omit G HC HT in
theorem FO{K:Ck}(hx:x= .Call y xs [] q)(hy:y= .Name "Misused" p)(hz:xs=[z])(h:bb K "Misused"=true)(h2:cC TT e K z=true)(H:EB C d P call e K z):SB C d P call (.raise e) K (.Raise (some x) none r):=by
 subst hx hy hz;exact HR K e _ _ _ _ h (bN h2) H.1
omit HC HR HT in
theorem KH{K:Ck}(hx:x= .Name n q)(h:yP TT K g n b bd=true)(h2:(xQ i g&&cC TT g K src&&K.names[i]? ==some n&&bt K n&&bz K n&& !(n==("__debug__":MJ))&& !(b==i))=true):SB C d P call (.cpy i g b) K (.For x src bd [] p):=by
 (refine bD (GJ h) λbn src2 p1 p2 z'0=>bD z'0 λp3 p4 p5 ap z'1=>bh z'1 λt'8 a1 a2 a3 a4=>?_;obtain rfl:=t'8)
 subst hx;haveI h3:=aa (aa (aa h2));exact E6 G (aa (aa (aa h3))) (ae (aa (aa h3))) a1 (beq_iff_eq.mp (ae (aa h3))) (ae h3) (ae (aa (aa h2))) (dI (ae (aa h2))) a2 a3 a4 (beq_eq_false_iff_ne.mp (dI (ae h2)))
mutual
theorem Hy:∀(st:S) (K:Ck) (x:Stmt),KL TT st K x=true->SB C d P call st K x
 | .asg i e,K,x,h=>az h λa h=>az h λn h=> .at a.2 ((NQ.mp (ae h)).elim (λg=>Kq n.2 (aa h) g (aY G HC e K _ (ae g))) (λg=>JX G HC n.2 (aa h) g))|.unp is e,K,x,h=>az h λa h=>az h λt h=> .at a.2 (Kp t.2 (aa h) (aY G HC e K _ (ae h)))|.satt o a e,K,x,h=>az h λz h=>az h λy h=> .at z.2 (J5 G y.2 (aa (aa h)) (aY G HC e K _ (ae (aa h))) (aY G HC o K _ (ae h)))|.sidx o k e,K,x,h=>az h λz h=>az h λy h=> .at z.2 (IU y.2 (aa (aa (aa h))) (aY G HC e K _ (ae (aa (aa h)))) (aY G HC o K _ (ae (aa h))) (aY G HC k K _ (ae h)))|.unpI os ks e,K,x,h=>az h λz h=>az h λt h=> .at z.2 (Jt G HC t.2 (aa h) (ae h))|.aug i op e,K,x,h=>az h λz h=>az h λn h=> .at z.2 (K7 n.2 (aa h) (aY G HC e K _ (ae h)))|.augA i a op e,K,x,h=>az h λz h=>az h λy h=>az h λn h=> .at z.2 (Jw G y.2 n.2 (aa h) (aY G HC e K _ (ae h)))|.ifs c th el,K,x,h=>az h λz h=> .at z.2 (Fb (aY G HC c K _ (aa (aa h))).2 (sj th K _ (ae (aa h))) (sj el K _ (ae h)))|.whl c b,K,x,h=>az h λz h=> .at z.2 (zc (aY G HC c K _ (aa h)).2 (sj b K _ (ae h)))|.fors t isR src b,K,x,h=>az h λz h=> .at z.2 (Ic G HC (aa h) (sj b K _ (ae h)))|.ret e,K,x,h=>(NQ.mp h).elim (λh=>az h λz h=> .at z.2 (EJ (aY G HC e K _ h).1)) (λh=>az h λz h=>az h λn X=> .at z.2 (n.2▸BR))|.ex e,K,x,h=>az h λz h=> .at z.2 (Gv (dI (aa h)) (aY G HC e K _ (ae h)).1)|.raise e,K,x,h=>az h λz h=>az h λc h=>az h λn h=>az h λy h=> .at z.2 (FO HR c.2 n.2 y.2 (aa h) (ae h) (aY G HC e K _ (ae h)))|.cont,K,x,h=>az h λz X=> .at z.2 AR|.cpy i g b,K,x,h=>az h λf h=>az h λn h=> .at f.2 (KH G n.2 (aa h) (ae h))|.tryRet b i hh,K,x,h=>HT K b i hh x h
theorem sj:∀(ss:List S) (K:Ck) (xs:List Stmt),qs TT ss K xs=true->f9 C d K (ax call P.glo P.init ss) (Um xs)
 | [],K,xs,h=>NH.mp h▸Dt|s::ss,K,xs,h=>az h λx h=>x.2▸BO (Hy s K x.1.1 (aa h)) (sj ss K x.1.2 (ae h))
end
end
end
theorem mH:(seqItems? Pg:Sem (Option (Array Od)))=pure none:=rfl
theorem so{ns:List MJ}:∀{vals:List Od} {n:MJ},n∈ns.take vals.length->((ns.zip vals).lookup n).isNone=false:=by
 induction ns with
 | nil=>intro vals n h;simp at h|cons a ns ih=>
   intro vals n h
   cases vals with
   | nil=>simp at h|cons v vals=>
     erw[M0,Su,MW] at h;erw[Qf,Ng]
     by_cases e:n=a
     . subst e;simp
     . rw[show(n==a)=false from beq_eq_false_iff_ne.mpr e]
       exact ih (h.resolve_left e)
theorem tC{l:List (MJ×Od)}(h:n∉l.map (·.1)):l.lookup n=none:=by
 induction l with
 | nil=>rfl|cons p l ih=>
   obtain⟨a,v⟩:=p;erw[Nl,MW,not_or] at h;erw[Ng,show(n==a)=false from beq_eq_false_iff_ne.mpr h.1];exact ih h.2
theorem pD(f:MJ×Od->List (MJ×Od)->Sem (ForInStep (List (MJ×Od))))(hf:∀n d sl,f (n,d) sl=if (sl.lookup n).isNone then pure (.yield (sl++[(n,d)])) else pure (.yield sl))(l':List (MJ×Od)):
 ∀(l sl:List (MJ×Od)),(∀p∈l,(sl.lookup p.1).isNone=false)->(forIn (l++l') sl f:Sem _)=forIn l' sl f:=by
 intro l
 induction l with
 | nil=>
   intro sl _;erw[QC]
 | cons x'9 l pD=>
   obtain⟨n,d⟩:=x'9;intro sl h;erw[Qz,QF,hf,h (n,d) (.head _),if_neg Np];erw[pure_bind];exact pD sl λp hp=>h p (.tail _ hp)
theorem sA(f:MJ×Od->List (MJ×Od)->Sem (ForInStep (List (MJ×Od))))(hf:∀n d sl,f (n,d) sl=if (sl.lookup n).isNone then pure (.yield (sl++[(n,d)])) else pure (.yield sl)):
 ∀(l sl:List (MJ×Od)),((sl++l).map (·.1)).Nodup->(forIn l sl f:Sem _)=pure (sl++l):=by
 intro l
 induction l with
 | nil=>
   intro sl _;erw[List.forIn_nil,M3]
 | cons x'9 l sA=>
   obtain⟨n,d⟩:=x'9;intro sl h;haveI hn:n∉sl.map (·.1):=by
    rw[Nm,Qo] at h;intro hm;exact h.2.2 n hm n (by simp) rfl
   erw[QF,hf,tC hn];erw[Option.isNone_none,if_true,pure_bind];erw[sA (sl++[(n,d)]) (by rw[MR];exact h),MR];rfl
theorem kT:∀{ns:List MJ} {W:List Od},ns.Nodup->W.length=ns.length->∀(pre:List (MJ×Od)),(∀n∈ns,n∉pre.map (·.1))->(ns.filterMap λn=>((pre++ns.zip W).lookup n).map (n, ·))=ns.zip W
 | [],_,_,_,_,_=>rfl|n::ns,[],_,h,_,_=>by exists _
 | n::ns,w::W,hn,hl,pre,hp=>by
   haveI hn':=NI.mp hn;haveI h1:(pre++(n,w)::ns.zip W).lookup n=some w:=by
    induction pre with
    | nil=>simp|cons p pre ih=>
      obtain⟨a,v⟩:=p;erw[Qz,Ng,show(n==a)=false from beq_eq_false_iff_ne.mpr (show n≠a fromλe=>hp n (.head _) (by simp [e]))];exact ih λm hm hx=>hp m hm (by erw[Nl,MW];exact .inr hx)
   erw[Qf,List.filterMap_cons,h1];erw[PM]
   congr 1
   have:=kT (ns:=ns) (W:=W) hn'.2 (by simpa using hl) (pre++[(n,w)]) (λm hm=>by
    rw[Nm,M5];rintro (q | q)
    . exact hp m (.tail _ hm) q
    . erw[Nl,PL,No] at q
      exact hn'.1 (q▸hm))
   rw[MR] at this;exact this
structure hJ(fd:Ur)(ns:List MJ):Prop where
 pos:fd.params.posonlyargs=[]
 va:fd.params.vararg.isNone=true
 ko:fd.params.kwonlyargs=[]
 kw:fd.params.kwarg.isNone=true
 args:fd.params.args.map (·.arg)=ns
 nd:ns.Nodup
theorem uc(ns:List MJ)(vals W:List Od)(h1:vals.length<=ns.length):ns.zip (vals++W)=ns.zip vals++(ns.drop vals.length).zip W:=by
 conv=>lhs;rw[<-NP vals.length ns]
 rw[Rj (by rw[NM];lia)]
 congr 1
 have:=Rj (l₁:=ns.take vals.length) (l₂:=vals) (r₁:=ns.drop vals.length) (r₂:=([]:List Od)) (by rw[NM];lia);erw[NP,M3,List.zip_nil_right,M3] at this;exact this.symm
theorem EC(f:MJ×Od->List (MJ×Od)->Sem (ForInStep (List (MJ×Od))))(hf:∀n d sl,f (n,d) sl=if (sl.lookup n).isNone then pure (.yield (sl++[(n,d)])) else pure (.yield sl))
 {ns:List MJ} (hnd:ns.Nodup) (h1:vals.length<=ns.length) (h2:ns.length<=vals.length+D.length) (h3:D.length<=ns.length):
 (forIn ((ns.drop (ns.length - D.length)).zip D) (ns.zip vals) f:Sem _)=pure (ns.zip (vals++D.drop (D.length - (ns.length - vals.length)))):=by
 haveI hb:ns.length - vals.length<=D.length:=P9 (PG D.length _▸h2);haveI hv:ns.length - D.length+(D.length - (ns.length - vals.length))=vals.length:=(Nat.sub_add_sub_cancel h3 hb).trans (P7 h1);haveI eA:ns.drop (ns.length - D.length)=(ns.drop (ns.length - D.length)).take (D.length - (ns.length - vals.length))++ns.drop vals.length:=by
  conv=>lhs;rw[<-NP (D.length - (ns.length - vals.length)) (ns.drop (ns.length - D.length))]
  erw[PB,hv]
 haveI e1:(ns.drop (ns.length - D.length)).zip D=((ns.drop (ns.length - D.length)).take (D.length - (ns.length - vals.length))).zip (D.take (D.length - (ns.length - vals.length)))++(ns.drop vals.length).zip (D.drop (D.length - (ns.length - vals.length))):=by
  rw[<-Rj (by erw[NM,NT,NM,P7 h3]), <-eA,NP]
 rw[e1,pD f hf _ _ _ (λp hp=>?_),sA f hf _ _ ?_,uc _ _ _ h1]
 . rw[<-uc _ _ _ h1,Rg]
   . exact hnd
   . erw[MH,NT,P7 hb,PK h1];exact MZ _
 . refine so ?_
   have:=(List.of_mem_zip (show(p.1,p.2)∈_ from hp)).1;erw[List.take_drop,hv] at this;exact RS this
noncomputable def Ks(x:MJ×Od)(sl:List (MJ×Od)):Sem (ForInStep (List (MJ×Od))):=if (sl.lookup x.1).isNone then pure (.yield (sl++[(x.1,x.2)])) else pure (.yield sl)
noncomputable def CV(ns:List MJ)(vals:List Od)(A B:Sem (List (MJ×Od)))(D:List Od):Sem (List (MJ×Od)):=
 if (decide (vals.length>ns.length)&&true)=true then A else
 if (!((ns.take (ns.length - (D.drop (D.length - ns.length)).length)).filter λn=>((ns.zip vals).lookup n).isNone).isEmpty)=true then B else
 forIn ((ns.drop (ns.length - (D.drop (D.length - ns.length)).length)).zip (D.drop (D.length - ns.length))) (ns.zip vals) Ks >>= λslots=>pure ((ns++[]).filterMap λn=>(slots.lookup n).map (n, ·))
theorem xF(p:hJ fd ns)(vals:List Od)(Kz:∀A:Option (Array Od)->Sem (List (MJ×Od)),∀B:Option (Array Od)->Sem (List (MJ×Od)),(bindArgs fd ⟨vals,[]⟩=seqItems? fd.defaults >>= λd=>CV ns vals (A d) (B d) (d.getD #[]).toList)->Gz):Gz:=by
 obtain⟨q1,q2,q3,q4,q5,_⟩:=p;obtain⟨_,_,⟨po,ar,va,ko,kd,kw,df⟩,_,_,_,_,_,_,_,_,_,_,_,_⟩:=fd;dsimp only at q1 q2 q3 q4 q5;subst q1 q3 q5
 cases va with
 | some _=>exists _|none=>cases kw with
   | some _=>exists _|none=>exact Kz _ _ rfl
theorem qd{fd:Ur}(p:hJ fd ns)(h1:vals.length<=ns.length)(h2:ns.length<=vals.length+D.length)(h3:D.length<=ns.length)(Kz:(∀k,bindArgs fd ⟨vals,[]⟩=seqItems? fd.defaults >>= k->k (some D.toArray)=pure (ns.zip (vals++D.drop (D.length - (ns.length - vals.length))))->((D=[]->k none=pure (ns.zip (vals++D.drop (D.length - (ns.length - vals.length))))))->Gz)):Gz:=by
 exists xF p vals,A,B,e;have key:∀a b,CV ns vals a b D=pure (ns.zip (vals++D.drop (D.length - (ns.length - vals.length)))):=λa b=>by
  have hd0:D.length - ns.length=0:=Nat.sub_eq_zero_of_le h3;have hmis:List.filter (λn=>(QQ n (ns.zip vals)).isNone) (ns.take (ns.length - D.length))=[]:=by
   exists List.filter_eq_nil_iff.mpr,n,hn;rw[so (List.mem_of_mem_take (i:=ns.length - D.length) (by erw[List.take_take,Rs (P9 h2)];exact hn))];exact Np
  unfold CV;rw[hd0,List.drop_zero,hmis,if_neg (by rw[Qw,decide_eq_true_eq];exact PY.mpr h1),if_neg (show¬((!([]:List MJ).isEmpty)=true) from Np),EC _ (λX X X=>rfl) p.nd h1 h2 h3,pure_bind,M3];exact congrArg pure (kT p.nd (W:=vals++D.drop (D.length - (ns.length - vals.length))) (by erw[MH,NT,P7 (P9 (PG D.length _▸h2)),PK h1]) [] (λX X h=>nomatch h))
 exact Kz _ e (key _ _) (λz=>by subst z;exact key _ _)
def yc(Fs:List Addr)(e:Addr)(oe:Obj)(vs:Array Od)(h h':Heap):Prop:=
 (∃T oT ts,h.get? T=none/\h'.get? e=some {oe with data:= .fields (vs.setIfInBounds 1 (.ref T))}/\h'.get? T=some oT/\oT.data= .fields ts/\ts[3]? =some .none)/\
   (∀b o,b≠e->b∉Fs->h.get? b=some o->h'.get? b=some o)/\∀b o,b≠e->h.get? b=some o->∃sl,h'.get? b=some {o with slots:=sl}
section
variable{M:O7}{A:Ol}{E:Od->Og->Prop}{s:Og}
theorem nJ(hd:o.data= .fields vs)(f:Array Od->Array Od):Py f o={o with data:= .fields (f vs)}:=by
 obtain⟨c,d,dt,sl⟩:=o;obtain rfl:dt= .fields vs:=hd;rfl
theorem ip
 (hfr:A.frames=some (env::outer)) (hl:s.heap.FunFrames base (env::outer)) (hf:env.frame=some L) (he:s.heap.get? e=some oe) (hd:oe.data= .fields vs) (hsz:1<vs.size)
 (h:∀h',yc ((env::outer).filterMap (·.frame)) e oe vs s.heap h'->Q () {s with heap:=h'}):
 Oo M A (do let a <-frameOf env;let pl <-entryPlaceOf L hadNext;let b <-EntryCells.newEntry head a .none (OJ L) .none pl;setField (.ref e) 1 b) (λX s'=>Oo M A (setFlight (.ref e) none) Q E s') E s:=by
 haveI hene:e∉(env::outer).filterMap (·.frame):=λhm=>by
  exists qV (hl.mem hm),X,o,ho,hnf;rw[he] at ho;obtain rfl:=MI ho;exact hnf vs hd
 refine Ow (wpAny_frameOf_fun hfr hl hf λh₁ hs₁=>Ow (wpAny_entryPlaceOf λpl hpl=>?_));refine Ow (OT ?_ (hpl.sizeOk5 _ _ _ _ _));haveI he₁:h₁.get? e=some oe:=(hs₁.2.1 e hene).trans he;dsimp only;generalize hob:({cls:=SD "traceback",dict:=none,data:= .fields ([head, .ref L, .none,OJ L, .none]++(if pl.isEmpty then NB 6 Pg else pl)).toArray}:Obj)=ob;haveI hobd:ob.data= .fields ([head, .ref L, .none,OJ L, .none]++(if pl.isEmpty then NB 6 Pg else pl)).toArray:=hob▸rfl;haveI hobf:ob.isFreed=false:=P4 hobd;haveI he₂:=Nj (h:=h₁) ob he₁;refine Us he₂ hd hsz ?_;haveI hTe:h₁.objs.size≠e:=Nv (NY he₁);haveI hd₃:=Qh hd (·.setIfInBounds 1 (NO h₁.objs.size));haveI he₃:=P3 (Py (·.setIfInBounds 1 (NO h₁.objs.size))) he₂ (P4 hd₃);haveI hT₃:=(Pf (h₁.push ob) (Py (·.setIfInBounds 1 (NO h₁.objs.size))) (Ni hTe)).trans (NF h₁ hobf);refine Ow (OI he₃ hd₃ (x:= .ref h₁.objs.size) (by simp [hsz]) ?_);erw[if_pos (show(NO h₁.objs.size != Pg)=true from by simp)];refine Us hT₃ hobd (by erw[M1,MH,M0,NN];lia) (h _ ?_);haveI keep:∀b o,b≠e->h₁.get? b=some o->(((h₁.push ob).update e (Py (·.setIfInBounds 1 (NO h₁.objs.size)))).update h₁.objs.size (Py (·.setIfInBounds 3 ((none:Option Addr).elim Pg λf=>OJ f)))).get? b=some o:=λb o hbe hb=>by
  rw[Pf _ _ (Nv (NY hb)),Pf _ _ (Ni hbe)];exact Nj _ hb
 refine(dq (ik (h₁.objs.size) _ _ (bT ?_ ?_ (P3 _ hT₃ (P4 (Qh hobd _))) (Qh hobd _) ?_)) (λb o hbe hF hb=>keep b o hbe ((hs₁.2.1 b hF).trans hb)) (λb o hbe hb=>?_))
 . refine hs₁.1▸?_;exact bq s.heap
 . erw[Pf _ _ hTe,he₃,nJ hd]
 . first
    | (simp;done)|(rcases hpl with rfl | ⟨_,_,_,_,_,_,_,rfl⟩<;>simp)
 . exists bx (hs₁.2.2 b o hb),sl,hs
   exact⟨sl,keep b _ hbe hs⟩
theorem AW
 (hfr:A.frames=some (env::outer)) (hl:s.heap.FunFrames base (env::outer)) (hf:env.frame=some L) (he:s.heap.get? e=some oe) (hd:oe.data= .fields vs)
 (h1:vs[1]? =some .none\/∃T oT ts,vs[1]? =some (.ref T)/\s.heap.get? T=some oT/\oT.data= .fields ts/\ts[3]? =some .none)
 (h:∀h',yc ((env::outer).filterMap (·.frame)) e oe vs s.heap h'->Q () {s with heap:=h'}):Oo M A (leaving env (.ref e)) Q E s:=by
 unfold leaving noteFrame;erw[hf];rcases h1 with h1 | ⟨T,oT,ts,h1,hT,hdT,h3⟩
 . refine Ow (Ow (OI he hd h1 ?_))
   rw[if_neg %[|1]];exact ip hfr hl hf he hd (NA.mp h1).1 h
 . refine Ow (Ow (OI he hd h1 ?_))
   rw[if_pos (show(NO T != Pg)=true from by simp)];refine Ow (OI hT hdT h3 ?_);refine(if_neg (show¬((Pg==OJ L)=true) from by simp [OJ]))▸?_;refine Ow (Us hT hdT (NA.mp h3).1 ?_);rw[Qj s.heap T oT ts 3 .none hT hdT h3];exact ip hfr hl hf he hd (NA.mp h1).1 h
end
theorem lg:∀{r:List (MJ×Od)} {m:MJ->Option Od},x∉r.map (·.1)->bindL kf r m x=m x:=by
 intro r
 induction r with
 | nil=>
   intro _ _;exact rfl
 | cons x'9 r lg=>
   obtain⟨n,v⟩:=x'9;intro m h;erw[Nl,MW,not_or] at h;refine(lg h.2)▸?_;split
   . erw[if_neg h.1]
   . rfl
theorem lj:∀{r:List (MJ×Od)} {m:MJ->Option Od},x∉r.map (·.1)->bindC kf r m x=m x:=by
 intro r
 induction r with
 | nil=>
   intro _ _;exact rfl
 | cons x'9 r lj=>
   obtain⟨n,v⟩:=x'9;intro m h;erw[Nl,MW,not_or] at h;refine(lj h.2)▸?_;split
   . rfl
   . erw[if_neg h.1]
theorem py(hk:kf x=some .local):∀{r:List (MJ×Od)} {m:MJ->Option Od},(r.map (·.1)).Nodup->(x,u)∈r->bindL kf r m x=some u:=by
 intro r
 induction r with
 | nil=>(try intros);exists _|cons x'9 r py=>
   obtain⟨n,v⟩:=x'9;intro m h hm;have h':=NI.mp h;unfold bindL;exists N0 (MW.mp hm) (λe=>?_),hm
   . cases e
     rw[lg h'.1,if_pos hk,if_pos rfl]
   . exact py h'.2 hm
theorem pg(hk:kf x≠some .local):∀{r:List (MJ×Od)} {m:MJ->Option Od},(r.map (·.1)).Nodup->(x,u)∈r->bindC kf r m x=some u:=by
 intro r
 induction r with
 | nil=>(try intros);exists _|cons x'9 r pg=>
   obtain⟨n,v⟩:=x'9;intro m h hm;have h':=NI.mp h;unfold bindC;exists N0 (MW.mp hm) (λe=>?_),hm
   . cases e
     rw[lj h'.1,if_neg hk,if_pos rfl]
   . exact pg h'.2 hm
theorem eR:∀{r:List (MJ×α)},(r.map (·.1)).Nodup->(x,u)∈r->r.lookup x=some u:=by
 intro r
 induction r with
 | nil=>(try intros);exists _|cons x'9 r eR=>
   obtain⟨n,v⟩:=x'9;intro h hm;haveI h':=NI.mp h;erw[Ng];exists N0 (MW.mp hm) (λe=>?_),hm
   . cases e;simp
   . haveI:x≠n:=λe=>h'.1 (e▸Nd.mpr (aE _ hm rfl))
     refine(show(x==n)=false from beq_eq_false_iff_ne.mpr this)▸?_;exact eR h'.2 hm
theorem Gj{r:List (MJ×Od)}(h:(r.map (·.1)).Nodup)(hm:(x,u)∈r):r.reverse.lookup x=some u:=
 eR (by erw[Ti];exact List.pairwise_reverse.mpr (h.imp Ni)) (P6.mpr hm)
theorem fz:∀{names:List (MJ×OP)} {n:Nat} {acc:List (MJ×Addr)},((x,PJ)∈names\/∃c,(x,c)∈acc)->∃c,(x,c)∈cellsFrom n names acc:=by
 intro names
 induction names with
 | nil=>
   intro n acc h;exists N0 h (λh=>?_),h
   . exists _
   . exact h
 | cons x'9 r fz=>
   obtain⟨m,k⟩:=x'9;intro n acc h;unfold cellsFrom;split
   . rename_i hk
     refine fz ?_;rcases h with h | ⟨c,h⟩
     . rcases MW.mp h with e | h
       . cases e;exact .inr ⟨n, .head _⟩
       . exact .inl h
     . exact .inr ⟨c, .tail _ h⟩
   . rename_i hk
     refine fz ?_;rcases h with h | h
     . rcases MW.mp h with e | h
       . cases e;exact absurd rfl hk
       . exact .inl h
     . exact .inr h
theorem eP:∀{names:List (MJ×OP)} {n:Nat} {acc:List (MJ×Addr)},(names.map (·.1)).Nodup->(acc.map (·.1)).Nodup->(∀x∈names.map (·.1),x∉acc.map (·.1))->((cellsFrom n names acc).map (·.1)).Nodup:=by
 intro names
 induction names with
 | nil=>
   intro n acc _ h _;exact h
 | cons x'9 r eP=>
   obtain⟨m,k⟩:=x'9;intro n acc h1 h2 h3;have h':=NI.mp h1;unfold cellsFrom;split
   . exists eP h'.2 (NI.mpr ⟨h3 m (.head _),h2⟩),x,hx
     erw[Nl,MW,not_or];exact⟨λe=>h'.1 (e▸hx),h3 x (.tail _ hx)⟩
   . exact eP h'.2 h2 λx hx=>h3 x (.tail _ hx)
structure Kl(C:Cx)(TT:uE)(f:Nat)(fn:Fn)(o:Obj)(fd:Ur)(body:List Stmt)(names:List MJ)(D:List Od):Prop where
 obj:C.h0.get? (C.fa f)=some o
 data:o.data= .func fd
 code:C.h0.CodeRec fd.code fd.qualname
 bod:fd.body= .stmts body
 clo:fd.closure=[]
 glo:fd.globals=Oi
 bui:fd.builtins=Oj
 kind:fd.scope.kind= .function
 co:fd.scope.isCoroutine=false
 gen:fd.scope.isGenerator=false
 par:hJ fd (names.take fn.arity)
 ar:fn.arity<=names.length
 nd:names.Nodup
 len:names.length=fn.slots
 ok:qs TT fn.body ⟨fd.scope,names⟩ body=true
 keys:(fd.scope.names.map (·.1)).Nodup
 free:∀x∈fd.scope.names,x.2≠ .free
 pk:∀n∈names.take fn.arity,fd.scope.names.lookup n=some .local\/fd.scope.names.lookup n=some .cell
 dv:aK C [] C.h0 D fn.dflts
 dl:D.length<=fn.arity
 dd:(D=[]/\fd.defaults= .none)\/((∃To oT n,fd.defaults= .ref To/\C.h0.get? To=some oT/\oT.data= .seq D.toArray n)/\∀x∈fd.scope.names,x.2≠ .cell)
section
variable{C:Cx}{f:Nat}{fn:Fn}{o:Obj}{fd:Ur}{body:List Stmt}{names:List MJ}{D:List Od}
theorem Ga{ws:List PV}{k i:Nat}(h:(ws.map some++NB k none)[i]? =some (some v)):ws[i]? =some v:=by
 exists N0 (PN i ws.length) (λhi=>?_),hi
 . rw[Nc (by simpa using hi),Ny] at h
   cases e:ws[i]? with
   | none=>rw[e] at h;exists _|some x=>rw[e] at h;erw[PM,N9] at h;rw[h]
 . rw[Nh (by simpa using hi),List.getElem?_replicate] at h
   split at h<;>cases h
theorem ry(F:Kl C TT f fn o fd body names D){V:cV}{Y:aR}{mL cm:MJ->Option Od}(R:cD C V Y h)(keep:∀b o,h.get? b=some o->h1.get? b=some o)
 (hs:env.scope=fd.scope) (hg:env.globals=fd.globals) (hb:env.builtins=fd.builtins) (hL:env.locals=h.objs.size) (rW:aK C V h W ws) (hlen:ws.length=fn.arity)
 (ns:h1.Ns env.locals mL) (mLg:∀x u,(x,u)∈(names.take fn.arity).zip W->env.kindOf x=some .local->mL x=some u) (cmg:∀x u,(x,u)∈(names.take fn.arity).zip W->env.kindOf x=some .cell->cm x=some u)
 (cell:∀n c,env.cells.lookup n=some c->h1.IsCell c (cm n)) (apart:env.cells.Pairwise λx y=>x.2≠y.2) (above:∀n c,(n,c)∈env.cells->env.locals<c) (keys:(env.cells.map (·.1)).Nodup) (hcell:∀x,env.kindOf x=some .cell->∃c,(x,c)∈env.cells):
 cc C V h1 env names (ws.map some++NB (fn.slots - ws.length) none):=by
 have zmem:∀{i:Nat} {x:MJ} {v:PV},names[i]? =some x->(ws.map some++NB (fn.slots - ws.length) none)[i]? =some (some v)->∃u,(x,u)∈(names.take fn.arity).zip W/\aB C V h u v:=λ{i x v} e1 e2=>by
  have e3:=Ga e2;exists aA (rW.get e3),u,eu,ru;refine(aE u ?_ ru);have hi:i<fn.arity:=by erw[<-hlen];exact(M4.mp e3).1
  refine M6 (i:=i) ?_;rw[List.getElem?_zip_eq_some];exact⟨by rw[List.getElem?_take_of_lt hi];exact e1,eu⟩
 have tk:bo h h1:= .of_keep keep;have hfresh:∀b,h.objs.size<=b->hP V b:=λb hb p hp=>by
  (refine vi (R.there p hp) λt'1 o2 g2=>?_;exists bx t'1,o1,g1)
  exact⟨λz=>PY.mpr hb (z▸(NY g1)),λz=>PY.mpr hb (z▸(NY g2))⟩
 have hold:∀b,h.objs.size<=b->C.h0.get? b=none:=λb hb=>by
  cases e:C.h0.get? b with
  | none=>rfl|some o=>exact absurd (NY (R.keep _ _ e)) (PY.mpr hb)
 refine⟨by refine hs▸?_;exact F.kind,by refine hg▸?_;exact F.glo,by refine hb▸?_;exact F.bui,F.nd,(aE mL ns (λi x v e1 e2 e3=>?_)),λi x e1 e2=>?_,⟨hfresh _ (by rw[hL];exact MZ _),λc hc=>hfresh _ ?_⟩,λc hc=>?_,⟨λc hc=>?_,λa b e a' e'=>?_⟩,⟨hold _ (by rw[hL];exact MZ _),λc hc=>hold _ ?_⟩⟩
 . exists aA (zmem e1 e2),u,hm,ru
   exact aE u (mLg x u hm e3) (ru.mono (.refl V) tk)
 . rcases e2 with e2 | e2
   . exists bx (hcell x e2),c,hc
     have hl:=eR keys hc;refine(fM c (cm x) hl (cell x c hl) (λv ev=>?_));exists aA (zmem e1 ev),u,hm,ru;exact aE u (cmg x u hm e2) (ru.mono (.refl V) tk)
   . exfalso
     unfold NV at e2;rw[hs] at e2;exact F.free _ (bg e2) rfl
 . exact hL▸Nk (above c.1 c.2 hc)
 . obtain⟨n,c⟩:=c
   exists aA (cell n c (eR keys hc)),o,g,X;exact⟨o,g⟩
 . exact Nv (above c.1 c.2 hc)
 . exact PySem.name_of_addr apart (bg e) (bg e')
 . exact hL▸Nk (above c.1 c.2 hc)
end
section
variable{C:Cx}{V:cV}{Y:aR}{h h':Heap}
theorem cD.offT(R:cD C V Y h)(S:Addr->Prop)(hS:∀b,S b->hP V b/\C.h0.get? b=none)(t:bo h h')(k:∀b o,¬S b->h.get? b=some o->h'.get? b=some o):cD C V Y h':=by
 have n1:∀p∈V,¬S p.1/\¬S p.2:=λp hp=>⟨λe=>((hS _ e).1 p hp).1 rfl,λe=>((hS _ e).1 p hp).2 rfl⟩;refine⟨R.len,λn o e=>?_,R.apart,R.old,λp hp=>?_,λb o e=>k b o (λz=>?_) (R.keep b o e)⟩
 . exists aA (R.obj n o e),p,ep,r
   have:=n1 p (M6 ep);exact aE p ep (r.mono (.refl V) t (λo g=>k _ o this.1 g) (λo g=>k _ o this.2 g))
 . have:=n1 p hp
   (refine vi (R.there p hp) λt'1 o2 g2=>?_;exists bx t'1,o1,g1)
   exact jw (⟨o1,k _ _ this.1 g1⟩) (ny o2 (k _ _ this.2 g2))
 . rw[(hS b z).2] at e;cases e
end
section
variable{C:Cx}{V V':cV}{Y Y':aR}{A:Ol}{s s1 s':Og}{env:Nf}
theorem iq{base h:Heap}:∀{l:List Nf},(∀e∈l,e.scope.kind≠ .module/\∃L o,e.frame=some L/\base.get? L=none/\h.get? L=some o/\∀vs,o.data≠ .fields vs)->h.FunFrames base l:=by
 intro l
 induction l with
 | nil=>
   intro _;exact trivial
 | cons e l iq=>
   intro k;exact dq ((k e (.head _)).1) ((k e (.head _)).2) (iq λx hx=>k x (.tail _ hx))
theorem xw{E:Od->Og->Prop}{Q1:Od->Od->Og->Prop}(ff:FF C A V s1.heap)(keep:∀b o,s.heap.get? b=some o->s1.heap.get? b=some o)(hsh:Sh s s1)
 (hL:s.heap.get? env.locals=none) (hc:∀c∈env.cells,s.heap.get? c.2=none) (hf:env.frame=some env.locals) (hk:env.scope.kind= .function) (h0L:C.h0.get? env.locals=none) (offL:hP V env.locals) (L1:∃o,s1.heap.get? env.locals=some o) (ffs:FF C A V s.heap)
 (x:Lq C (A.deeper env) env V V' s1 s' Y') (ex:EL C V' s'.heap e m) (en:uq s1.heap s'.heap e) (k:XK C A V s E m Y')
 (hQ:∀s'',E e s''->Q1 e e s''):Oo (model C.prog C.w) (A.deeper env) (leaving env e) (λX s''=>Q1 e e s'') E1 s':=by
 (refine bD ex λa d mA oe z'0=>fx z'0 λvs w z'1=>bh z'1 λt'2 hna offa ge z'2=>bh z'2 λecls edict edata ens z'3=>bh z'3 λhnd offd dne ew z'4=>bj z'4 λrw' etr=>?_;obtain rfl:=t'2)
 exists aA ff,outer,hfr,hout;exists bx L1,oL1,gL1;have hnotOwn:∀b o,s.heap.get? b=some o->¬HH env b:=λb o g z=>by
  rcases z with z | ⟨c,hm,z⟩
  . rw[z,hL] at g;exists _
  . rw[z,hc c hm] at g;exists _
 have houts:∀e∈outer,e.scope.kind≠ .module/\∃L o,e.frame=some L/\C.h0.get? L=none/\s.heap.get? L=some o/\(∃es ep,o.data= .dict es ep)/\hP V L:=by
  exists aA ffs,outer',hfr2,hout';obtain rfl:outer=outer':=MI (hfr.symm.trans hfr2);exact hout'
 have hFF:s'.heap.FunFrames C.h0 (env::outer):=iq λe he=>by
  rcases MW.mp he with q | he
  . refine bx x.step.own λo z'0=>bj z'0 λg z'1=>fx z'1 λes ep hd=>?_
    refine q▸?_;exact jw (by refine hk▸?_;decide) (gQ env.locals o (eK hf h0L g (λvs z=>by rw[hd] at z;exists _)))
  . exists cps,Gz,Kz
    exists dX (houts e he),h1,L,o,h2,h3,h4,h5,h6;exists aA (x.step.stay L o (keep _ _ h4) h6 (hnotOwn L o h4)),sl,g,X;exists fx h5,es,ep,hd;refine Kz ?_;exact(jw h1 (gQ L _ (eK h2 h3 g (λvs z=>by erw[show({o with slots:=sl}:Obj).data=o.data from rfl,hd] at z;exists _))))
 refine AW (QI (env:=env) hfr) hFF hf ge edata ?_ λh' lf=>hQ _ ?_
 . rcases etr with q | ⟨T,oT,ts,q1,_,_,_,_,q2,q3,q4⟩
   . exact .inl q
   . exact .inr (hR T oT ts q1 q2 q3 q4)
 (refine fE lf λt'3 stay slots=>?_;refine gy t'3 λT oT ts z'0=>bh z'0 λgT ge' gT' dT t3=>?_)
 have hfl:(env::outer).filterMap (·.frame)=env.locals::qx A:=by
  unfold qx;refine hfr▸?_;simp [hf]
 rw[hfl] at stay;have hmemF:∀b∈qx A,∃o,s.heap.get? b=some o/\(∃es ep,o.data= .dict es ep)/\hP V b/\C.h0.get? b=none:=λb hb=>by
  unfold qx at hb;rw[hfr] at hb;erw[Q3,PP] at hb;exists aA hb,e,he,hb;exists dX (houts e he),h1,L,o,h2,h3,h4,h5,h6;obtain rfl:L=b:=MI (h2.symm.trans hb);exact d0 o h4 h5 h6 h3
 have na:s.heap.get? a=none:=(en.back (λb o g=>⟨o,keep b o g⟩) a rfl).1;have tup':bo s'.heap h':=λb its ⟨o,g,hcl,n,hd⟩=>by
  have hb:b≠a:=λz=>by rw[z,ge] at g;obtain rfl:=MI g;rw[edata] at hd;exists _
  exists bx (slots b o hb g),sl,g';exact ki _ g' hcl n hd
 have hT0:C.h0.get? T=none:=by
  cases q:C.h0.get? T with
  | none=>rfl|some o=>rw[x.rel.keep _ _ q] at gT;exists _
 have rel':cD C V' Y' h':=x.rel.offT (λb=>b=a\/b=env.locals\/b∈qx A) (λb hb=>by
  rcases hb with rfl | rfl | hb
  . exact⟨offa,hna⟩
  . exact⟨(show hP V' env.locals from l9 x.step.new gL1 offL),h0L⟩
  . exists eB (hmemF b hb),o,g,X,h5,h6
    exact⟨l9 x.step.new (keep _ _ g) h5,h6⟩) tup' λb o hb g=>stay b o (λz=>hb (.inl z)) (λz=>by
  rcases MW.mp z with z | z
  . exact hb (.inr (.inl z))
  . exact hb (.inr (.inr z))) g
 have aS:∀b o,s.heap.get? b=some o->b≠a:=λb o g z=>by rw[z,na] at g;exists _
 have bL:∀b o,s.heap.get? b=some o->b≠env.locals:=λb o g z=>by rw[z,hL] at g;exists _
 refine k (.ref a) _ V' ⟨⟨x.step.le,λb o g f=>?_,λp hp=>?_,λb its z=>?_,λb o g=>?_⟩,rel',⟨x.sh.gens.trans hsh.gens,x.sh.drawn.trans hsh.drawn,x.sh.os.trans hsh.os⟩⟩ ?_ ?_
 . exists cps,Gz1,Kz1
   exists aA (x.step.stay b o (keep b o g) f (hnotOwn b o g)),sl,g2,r
   by_cases hF:b∈qx A
   . refine Kz1 ?_
     (refine cF (hmemF b hF) λox gx t'4 X=>?_;exists fx t'4,es,ep,hd)
     obtain rfl:=MI (g.symm.trans gx);exists bx (slots b _ (aS b o g) g2),sl',g3;exact aE sl' g3 (.inr (gQ es ep hd))
   . refine Kz1 ?_
     exact aE sl (stay b _ (aS b o g) (by erw[MW,not_or];exact⟨bL b o g,hF⟩) g2) r
 . rcases x.step.new p hp with q | ⟨q1,q2⟩
   . exact .inl q
   . right
     constructor
     . cases e:s.heap.get? p.1 with
       | none=>rfl|some o=>rw[keep _ _ e] at q1;exists _
     . cases e:s.heap.get? p.2 with
       | none=>rfl|some o=>rw[keep _ _ e] at q2;exists _
 . exact tup' b its (x.step.tup b its (bo.of_keep keep b its z))
 . exists bx (x.step.there b o (keep b o g)),o',g'
   by_cases hb:b=a
   . subst hb;exact⟨_,ge'⟩
   . exists bx (slots b o' hb g'),sl,g2
     exact⟨_,g2⟩
 . refine gy ens λod es ep z'0=>bh z'0 λgd hdd r1 r2 r3=>?_
   exists bx (slots d od dne gd),sl,gd';have hTd:T≠d:=λz=>by rw[z,gd] at gT;exists _
   refine(eM a d mA _ (gQ _ w (bT rfl hna offa ge' (bT ecls edict rfl (ik _ es ep (bT gd' hdd r1 r2 r3)) (bT hnd offd dne ew (jw (rw'.mono (.refl V') tup') (.inr ⟨T,oT,ts,?_,hT0,λp hp=>?_,λz=>?_,hTd,gT',dT,t3⟩)))))))
   . have:1<vs.size:=by
      rcases etr with q | ⟨_,_,_,q,_⟩<;>exact(NA.mp q).1
     simp [this]
   . (refine vi (x.rel.there p hp) λt'5 o2 g2=>?_;exists bx t'5,o1,g1)
     exact⟨λz=>(by rw[z,g1] at gT;exists _),λz=>(by rw[z,g2] at gT;exists _)⟩
   . rw[z,ge] at gT;exists _
 . exactλb hb=>by
    cases hb
    refine⟨na,λo' d' g' hd'=>?_⟩;rw[ge'] at g';obtain rfl:=MI g';exact(en.back (λb o g=>⟨o,keep b o g⟩) a rfl).2 _ d' ge hd'
end
section
variable{C:Cx}{f:Nat}{fn:Fn}{o:Obj}{fd:Ur}{body:List Stmt}{names:List MJ}{D:List Od}{d:Nat}
def yC(C:Cx)(d:Nat)(K:Ck)(V:cV)(Y:aR)(O:UG)(m:M (Fl×UG))(t:Nf->Sem Flow):Prop:=
 ∀(s:Og) (env:Nf) (A:Ol) (Q:Flow->Og->Prop) (E:Od->Og->Prop),Ok C A d V Y s->cc C V s.heap env K.names O->env.scope=K.scope->LJ C A env E->
  aw (m Y) (KS C A d env K.names V s Q) (ut C A env V s E)->Oo (model C.prog C.w) A (t env) Q E s
theorem qO{Q E:Od->Og->Prop}(SS:yC C d ⟨fd.scope,names⟩ V Y O m (Um body))
 (rm:qh A (d+1)) (R:cD C V Y s.heap) (ff:FF C A V s.heap) (keep:∀b o,s.heap.get? b=some o->s1.heap.get? b=some o) (hsh:Sh s s1) (hs:env.scope=fd.scope) (hL:env.locals=s.heap.objs.size) (hf:env.frame=some env.locals) (above:∀n c,(n,c)∈env.cells->env.locals<c)
 (FR:cc C V s1.heap env names O) (k:aw ((m.bnd λp=>ret (jc p.1)) Y) (KV C V s Q) (XK C A V s E)) {R2:Result->Og->Prop} (hR1:∀v s',Q v s'->R2 (.ok (.ret v)) s') (hR2:∀e s',E e s'->R2 (.error e) s'):
 Oo (model C.prog C.w) (A.deeper env) (Um body env) (λf s'=>R2 (.ok (.ret (match f with | .ret v=>v | _=> .none))) s')
  (λe s'=>Oo (model C.prog C.w) (A.deeper env) (leaving env e) (λX s''=>R2 (.error e) s'') (λe' s''=>R2 (.error e') s'') s') s1:=by
 have nL:s.heap.get? env.locals=none:=by refine hL▸?_;exact bq _
 have nge:∀b,s.heap.objs.size<=b->s.heap.get? b=none:=λb hb=>by
  cases e:s.heap.get? b with
  | none=>rfl|some o=>exact absurd (NY e) (PY.mpr hb)
 have nC:∀c∈env.cells,s.heap.get? c.2=none:=λc hc=>nge _ (Nk (hL▸above c.1 c.2 hc));have St1:St C V V s s1 Y:=⟨.of_keep keep,R.keeps keep,hsh⟩;have ff1:FF C A V s1.heap:=ff.step St1.step;exists aA (id FR.ns),mL,hns,X;exists fF (id hns),oL,es,ep,gL,dL,X;have ok:Ok C (A.deeper env) d V Y s1:=⟨⟨rm.handled,by
  have:=rm.depth;show A.depth+1+3*d+5<Oz
  lia,by
  have:=rm.units;show A.units+3+20*d+210<Ou
  lia⟩,St1.rel,by
  exists aA ff1,outer,e,kk;refine(aE (env::outer) (QI e) (λx hx=>?_));exists N0 (MW.mp hx) (λq=>?_),hx
  . refine q▸?_
    exact gS (by refine FR.kind▸?_;decide) env.locals oL hf FR.old.1 gL (gQ es ep dL) FR.off.1
  . exact kk x hx⟩
 refine SS s1 env (A.deeper env) _ _ ok FR hs ⟨PassesOwn.leaving,(let ⟨outer,e,_⟩:=ff;⟨outer,QI e⟩),hf⟩ (aw.mono (ay k) (λp Y' kk fl s' V' st X X fr=>?_) λm Y' kk e s' V' x ex en=>?_)
 . have stt:St C V V' s s' Y':=by
    refine⟨⟨st.step.le,λb o g h=>st.step.stay b o (keep b o g) h ?_,λp hp=>?_,(bo.of_keep keep).trans st.step.tup,λb o g=>st.step.there b o (keep b o g)⟩,st.rel,hsh.trans st.sh⟩
    . rintro (z | ⟨c,hc,z⟩)
      . erw[z,nL] at g;exists _
      . erw[z,nC c hc] at g;exists _
    . exact o8 (λb o g=>⟨o,keep b o g⟩) (λp hp=> .inl hp) st.step.new p hp
   have k3:KV C V s Q (jc p.1) Y':=kk;obtain⟨pf,pe⟩:=p
   cases fl with
   | next=>cases pf<;>first | exact hR1 _ _ (k3 .none s' V' stt .none) | exact(show False from fr).elim
   | cont=>cases pf<;>first | exact hR1 _ _ (k3 .none s' V' stt .none) | exact(show False from fr).elim
   | ret v=>cases pf<;>first | exact hR1 _ _ (k3 v s' V' stt fr) | exact(show False from fr).elim
   | _=>cases pf<;>exact(show False from fr).elim
 . exact xw (s:=s) (Q1:=λe s''=>R2 (.error e)) ff1 keep hsh nL nC hf FR.kind FR.old.1 FR.off.1 ⟨oL,gL⟩ ff x ex en kk λs''=>hR2 _ _
end
section
variable{C:Cx}{f:Nat}{fn:Fn}{o:Obj}{fd:Ur}{body:List Stmt}{names:List MJ}{D:List Od}{d:Nat}
theorem C1{a b c:Nat}(h1:a<=c)(h2:c<=a+b):a+(b - (b - (c - a)))=c:=by erw[P7 (Nat.sub_le_iff_le_add'.mpr h2),PK h1]
theorem Fp{ns:List MJ}{W:List Od}(h:W.length=ns.length):(ns.zip W).map (·.1)=ns:=Rg %[|0]
theorem xN(hlim:C.h0.NoLimit)(F:Kl C TT f fn o fd body names D){V:cV}{Y:aR}{Q E:Od->Og->Prop}(SS:yC C d ⟨fd.scope,names⟩ V Y (ws.map some++NB (fn.slots - ws.length) none) m (Um body))
 (rm:qh A (d+1)) (R:cD C V Y s.heap) (ff:FF C A V s.heap) (rs:aK C V s.heap vs xs) (hw:fZ fn xs=some ws)
 (k:aw ((m.bnd λp=>ret (jc p.1)) Y) (KV C V s Q) (XK C A V s E)):
 Oo (model C.prog C.w) A (Q0 (.ref (C.fa f)) vs) Q E s:=by
 have hlen:=rs.length;have hdl:=F.dv.length;unfold fZ at hw;split at hw
 case isFalse=>exists _
 rename_i hc;erw[MY,decide_eq_true_eq] at hc
 (refine bj hc λt'1 X=>?_;exists bj t'1,c1,c2)
 obtain rfl:=MI hw;have hnl:(names.take fn.arity).length=fn.arity:=by rw[NM];have:=F.ar;lia
 exists qd F.par (vals:=vs) (D:=D) (by erw[hnl];lia) (by rw[hnl];lia) (by erw[hnl];exact F.dl),kk,b1,b2,b3;rw[hnl] at b2 b3;have rD:aK C V s.heap D fn.dflts:=F.dv.mono (λn p e=>by exists _) (.of_keep R.keep);have hix:D.length - (fn.arity - vs.length)=fn.dflts.length - (fn.arity - xs.length):=by erw[hlen,hdl]
 have rW:aK C V s.heap (vs++D.drop (D.length - (fn.arity - vs.length))) (xs++fn.dflts.drop (fn.dflts.length - (fn.arity - xs.length))):=rs.append (hix▸rD.drop _);have hwl:(xs++fn.dflts.drop (fn.dflts.length - (fn.arity - xs.length))).length=fn.arity:=by erw[MH,NT];exact C1 (by omega) (by omega)
 have hWl:(vs++D.drop (D.length - (fn.arity - vs.length))).length=(names.take fn.arity).length:=by erw[hnl,rW.length,hwl]
 generalize hW:vs++D.drop (D.length - (fn.arity - vs.length))=W at*;generalize hws:xs++fn.dflts.drop (fn.dflts.length - (fn.arity - xs.length))=ws at*;have hkeys:(((names.take fn.arity).zip W).map (·.1)).Nodup:=by erw[Fp hWl];exact F.par.nd
 have hmem:∀x∈(names.take fn.arity).zip W,x.1∈names.take fn.arity:=λx hx=>(List.of_mem_zip (a:=x.1) (b:=x.2) hx).1;have hroom:A.depth<recursionLimit:=by have:=rm.depth;lia
 have hcd:s.heap.CodeRec fd.code fd.qualname:=by
  refine bD F.code λc oc vc t z'0=>fg z'0 λe1 e2 e3 e4=>?_;exact eM c oc vc t (eK e1 (R.keep _ _ e2) e3 e4)
 have cells:bindArgs fd ⟨vs,[]⟩=pure ((names.take fn.arity).zip W)->Oo (model C.prog C.w) A (Q0 (.ref (C.fa f)) vs) Q E s:=λhb=>by
  refine Uk (codeAny_call_cells hroom (R.keep _ _ F.obj) F.data (hlim.keeps R.keep) hcd F.bod hb F.clo (λx hx=>?_) (λs₁ I=>?_) F.co F.gen F.kind)
  . rcases F.pk _ (hmem x hx) with q | q
    . exact .inl q
    . refine .inr ⟨q,?_⟩
      exists bx (fz (n:=s.heap.objs.size+1) (acc:=[]) (.inl (bg q))),c,hc;refine(eR (eP (acc:=[]) F.keys .nil (by simp)) hc)▸?_;rfl
  . have hck:=eP (n:=s.heap.objs.size+1) (acc:=[]) F.keys .nil (by simp)
    refine qO SS rm R ff I.toInCall.keep ?_ rfl rfl rfl (λn c hm=>I.above n c hm) (ry F R I.toInCall.keep rfl rfl rfl rfl rW hwl I.toInCall.ns (λx u hm hk=>py hk hkeys hm) (λx u hm hk=>pg (by refine hk▸?_;decide) hkeys hm) I.cell I.apart I.above hck
     (λx hx=>fz (.inl (bg (show fd.scope.names.lookup x=some .cell from hx))))) k (R2:=λr s'=>match r with | .ok (.ret v)=>Q v s' | .ok _=>False | .error e=>E e s') (λv s' h=>h) (λe s' h=>h)
    exists fx I.toInCall.same,h1,tk,e1;erw[e1];exact⟨rfl,rfl,rfl⟩
 rcases F.dd with ⟨hD,hdf⟩ | ⟨⟨To,oT,n,hdf,gT,dT⟩,hnc⟩
 . refine cells ?_
   erw[b1,hdf,mH,pure_bind];exact b3 hD
 . refine Uk (codeAny_call_def hroom (R.keep _ _ F.obj) F.data (hlim.keeps R.keep) hcd F.bod (BindsTo.of_defaults hdf (R.keep _ _ gT) dT b1 b2) hnc (λx hx=>?_) (λh₀ ns keep=>?_) F.co F.gen F.kind)
   . exists N0 (F.pk _ (hmem x hx)) (λq=>?_),q
     . exact q
     . exact absurd rfl (hnc _ (bg q))
   . have hce:(callEnv fd s.heap.objs.size (C.fa f)).cells=[]:=F.clo
     refine qO (s1:={s with heap:=h₀,toks:=s.toks+((names.take fn.arity).zip W).length}) SS rm R ff keep ⟨rfl,rfl,rfl⟩ rfl rfl rfl (λn c hm=>?_) (ry (env:=callEnv fd s.heap.objs.size (C.fa f)) (cm:=λX=>none) F R keep rfl rfl rfl rfl rW hwl ns (λx u hm hk=>Gj hkeys hm) (λx u hm hk=>?_) (λn c hl=>?_) (by erw[hce];exact .nil) (λn c hm=>?_) (by refine hce▸?_;exact List.nodup_nil)
      (λx hx=>absurd rfl (hnc _ (bg (show fd.scope.names.lookup x=some .cell from hx))))) k (R2:=λr s'=>match r with | .ok (.ret v)=>Q v s' | .ok _=>False | .error e=>E e s') (λv s' h=>h) (λe s' h=>h)
     . rw[hce] at hm;cases hm
     . exact absurd rfl (hnc _ (bg (show fd.scope.names.lookup x=some .cell from hk)))
     . rw[hce] at hl;exists _
     . rw[hce] at hm;cases hm
theorem pV(G:lW C P TT)(HF:∀f fn,P.fns[f]? =some fn->fn.arity<1000->∃o fd body names D,Kl C TT f fn o fd body names D)(HR:∀d,d5 C (ac P d) d->rz C d P TT (ac P d))(HT:∀d,d5 C (ac P d) d->zo C d P TT (ac P d)):
 ∀d,d5 C (ac P d) d
 | 0=>λV s Y A Q E f xs vs X X X X k=>(show False from k).elim
 | d+1=>λV s Y A Q E f xs vs rm R ff rs k=>by
   haveI ih:=pV G HF HR HT d
   cases hfn:P.fns[f]? with
   | none=>erw[ac,hfn] at k;exact(show False from k).elim
   | some fn=>
   cases hws:fZ fn xs with
   | none=>erw[ac,hfn,hws] at k;exact(show False from k).elim
   | some ws=>
   erw[ac,hfn,hws] at k;haveI har:fn.arity<1000:=by
    unfold fZ at hws;split at hws
    . rename_i hc;erw[MY,decide_eq_true_eq] at hc;exact hc.2
    . exists _
   refine bD (HF f fn hfn har) λo fd body names z'0=>bx z'0 λD F=>?_;exact xN G.lim F (m:=ax (ac P d) P.glo P.init fn.body (ws.map some++NB (fn.slots - ws.length) none)) (λs env A Q E ok Fr he pass k=>sj G ih (HR d ih) (HT d ih) fn.body _ body F.ok V s Y _ env A Q E ok Fr he pass k) rm R ff rs hws k
end
end Internal
end
section
open PySem PySem.Calls
namespace Internal
noncomputable def cJ:List Value:=[.type "Exception", .type "BaseException", .type "object"]
section
variable{M:O7}{A:Ol}{E:Od->Og->Prop}{h:Heap}{g:Array Ut}{d:Drawn}{t:Nat}{os:Uu}
variable{dG q:MJ}{C N W:Addr}{bs bm:List Od}{hdct:Bool}{sn:List MJ}{sub:List Od}{ab:Bool}{col:Option Bool}{dd:Option Addr}{k0 k1 k2 k3 k5:Option Od}{newId:String}
theorem jN
 (hC:h.get? C=some (ON dG q C N bs (.ref W::cJ) hdct sn sub ab col dd k0 k1 k2 k3 k5 newId)) (hn:h.Ns N mN) (hW:h.get? W=some {cls:=c0,dict:=ddW,data:= .cls cd,slots:=sl}) (hnW:h.Ns cd.ns mW)
 (hB:OD (.type "Exception") name=pure y) (hq:Q (match mN name with | some v=>some v | none=>match mW name with | some v=>some v | none=>y) ⟨h,g,d,t,os⟩):Oo M A (OD (.ref C) name) Q E ⟨h,g,d,t,os⟩:=by
 haveI hrest:lookupAlong cJ name=pure y:=by
  have:=PO.mroIs;erw[typeLookup_eq,this] at hB;exact hB
 erw[typeLookup_eq];refine Ow (wpAny_mroOf_exc hC ?_);rw[lookupAlong_cons];refine Ow (wpAny_classOwn_exc hC hn ?_)
 cases hv:mN name with
 | some v=>rw[hv] at hq;exact Ox hq|none=>
   rw[hv] at hq;dsimp only at hq ⊢;rw[lookupAlong_cons];refine Ow (wpAny_classOwn_cls hW hnW ?_)
   cases hw:mW name with
   | some v=>rw[hw] at hq;exact Ox hq|none=>rw[hw] at hq;rw[hrest];exact Ox hq
end
section
variable{prog:Ob}{w:Oc}{A:Ol}{E:Od->Og->Prop}{R:Result->Og->Prop}{h:Heap}{g:Array Ut}{d:Drawn}{t:Nat}{os:Uu}
variable{dG q:MJ}{C N W:Addr}{bs bm:List Od}{hdct:Bool}{sn:List MJ}{sub:List Od}{ab:Bool}{col:Option Bool}{dd:Option Addr}{k0 k1 k2 k3 k5:Option Od}{newId:String}
theorem zt{M:O7}(hcont:(NO C::bm).contains (.type "Exception")=true)(hC:h.get? C=some (ON dG q C N bs bm hdct sn sub ab col dd k0 k1 k2 k3 k5 "Exception.__new__"))
 (hq:Q () ⟨h,g,d,t,os⟩):Oo M A (OE "Exception.__new__" ⟨.ref C::rest,[]⟩) Q E ⟨h,g,d,t,os⟩:=
 wpAny_check_new_subU PO (show bm.contains (.type "Exception")=true from hcont) .base hC hq
theorem BD(hcB:(NO C::bm).contains (.type "Exception")=true)(hcA:(NO C::bm).contains (.type "AttributeError")=false)(hcN:(NO C::bm).contains (.type "NameError")=false)
 (hC:h.get? C=some (ON dG q C N bs bm hdct sn sub ab col dd k0 k1 k2 k3 k5 "Exception.__new__"))
 (hq:R (.ok (.ret (.ref (h.objs.size+1)))) ⟨(h.push {cls:= .type "tuple",data:= .seq rest.toArray}).push {cls:= .ref C,data:= .fields #[.ref h.objs.size, .none, .none, .none, .bool false, .none]},g,d,t,os⟩) (hrest:rest.length<=Om):
 codeAny (model prog w) A (.builtin "Exception.__new__" ⟨.ref C::rest,[]⟩) R ⟨h,g,d,t,os⟩:=by
 haveI Fe:=PO;haveI hends:=Fe.ends;refine codeAny_builtinAt Fe.entry ?_;refine wpAt_bind ?_;show wpAt _ _ _ (stack >>= _) _ _ _;refine wpAt_bind (wpAt_stack λp below=>wpAt_of_wpAny ?_)
 wp_walk
 refine wpAt_of_wpAny ?_;rw[Fe.owner]
 repeat (first | with_reducible refine wpAny_madeHere_exc Fe.canon hC ?_ | with_reducible refine Uv hC ?_ | (with_reducible refine Uw hC ?_;first | rw[hcB] | rw[hcA] | rw[hcN]) | wp_step)
 show R _ _
 rw[Ry];exact hq
end
section
variable{prog:Ob}{w:Oc}{A:Ol}{E:Od->Og->Prop}{R:Result->Og->Prop}{h:Heap}{g:Array Ut}{d:Drawn}{t:Nat}{os:Uu}
variable{dG q:MJ}{C N W:Addr}{bs:List Od}{hdct:Bool}{sn:List MJ}{sub:List Od}{ab:Bool}{col:Option Bool}{dd:Option Addr}{k0 k1 k2 k3 k5:Option Od}
theorem zB
 (hC:h.get? C=some (ON dG q C N bs (.ref W::cJ) hdct sn sub ab col dd k0 k1 k2 k3 k5 "Exception.__new__")) (hn:h.Ns N mN) (hni:mN "__init__"=none) (hW:h.get? W=some {cls:=c0,dict:=ddW,data:= .cls cd,slots:=sl}) (hnW:h.Ns cd.ns mW)
 (hi:mW "__init__"=some (.ref fI)) (hfI:h.get? fI=some oI) (hfc:oI.cls= .type "function")
 (hq:∀h' e,Heap.MadeExcOf h h' e (.ref C) rest->Oo (model prog w) A (call (.ref fI) (.ref e::rest)) (λr s'=>r= .none/\Q (.done (.ret (.ref e))) s') E ⟨h',g,d,t,os⟩) (hrest:rest.length<=Om):
 Oo (model prog w) A (Builtin.«type.__call__» ⟨.ref C::rest,[]⟩) Q E ⟨h,g,d,t,os⟩:=by
 haveI Fe:=PO;haveI hcB:(NO C:: .ref W::cJ).contains (.type "Exception")=true:=by erw[Nz,Nz,show cJ.contains (.type "Exception")=true from Fe.hasB];simp
 haveI hcA:(NO C:: .ref W::cJ).contains (.type "AttributeError")=false:=by erw[Nz,Nz,show cJ.contains (.type "AttributeError")=false from Fe.noAttr];rfl
 haveI hcN:(NO C:: .ref W::cJ).contains (.type "NameError")=false:=by erw[Nz,Nz,show cJ.contains (.type "NameError")=false from Fe.noName];rfl
 repeat (first | with_reducible refine Uv hC ?_ | with_reducible refine wpAny_madeBy_exc hC ?_ | wp_step)
 refine codeAny_call_builtin_code (SL _ Fe.quiet) (zt hcB hC ?_);refine BD hcB hcA hcN hC ?_ hrest;haveI kp:∀b o,h.get? b=some o->((h.push {cls:= .type "tuple",data:= .seq rest.toArray}).push {cls:= .ref C,data:= .fields #[.ref h.objs.size, .none, .none, .none, .bool false, .none]}).get? b=some o:=λb o e=>Nj _ (Nj _ e)
 haveI hget:((h.push {cls:= .type "tuple",data:= .seq rest.toArray}).push {cls:= .ref C,data:= .fields #[.ref h.objs.size, .none, .none, .none, .bool false, .none]}).get? (h.objs.size+1)=some
  {cls:= .ref C,data:= .fields #[.ref h.objs.size, .none, .none, .none, .bool false, .none]}:=by heap_get
 haveI hcC:(NO C:: .ref W::cJ).contains (.ref C)=true:=by simp
 repeat (first | with_reducible refine Uv hget ?_ | (with_reducible refine Uw (kp _ _ hC) ?_;rw[hcC]) | wp_step)
 refine jN (kp _ _ hC) (hn.keeps kp) (kp _ _ hW) (hnW.keeps kp) Fe.init.lookup ?_;rw[hni,hi];refine Ov (Ow ?_);refine Ow (wpAny_typeOf (T:="function") (aE _ (kp _ _ hfI) hfc) ?_);rw[if_pos %[|1]];refine Ox (Ow (OL (hq _ (h.objs.size+1) ⟨kp,Sg (QT _),h.objs.size,hget,Sg (MZ _),?_⟩) (λr s' hr=>?_) λX X x=>x))
 . exact Nj _ (S6 rfl rfl)
 . exists bj hr,rfl,hQ
   wp_walk
   exact hQ
theorem Be
 (hC:h.get? C=some (ON dG q C N bs (.ref W::cJ) hdct sn sub ab col dd k0 k1 k2 k3 k5 "Exception.__new__")) (hn:h.Ns N mN) (hni:mN "__init__"=none) (hW:h.get? W=some {cls:=c0,dict:=ddW,data:= .cls cd,slots:=sl}) (hnW:h.Ns cd.ns mW)
 (hi:mW "__init__"=some (.ref fI)) (hfI:h.get? fI=some oI) (hfc:oI.cls= .type "function")
 (hq:∀h' e,Heap.MadeExcOf h h' e (.ref C) rest->Oo (model prog w) (A.under (.builtin "type.__call__" ⟨.ref C::rest,[]⟩)) (call (.ref fI) (.ref e::rest)) (λr s'=>r= .none/\Q (.ref e) s') E ⟨h',g,d,t,os⟩) (hrest:rest.length<=Om):
 Oo (model prog w) A (call (.ref C) rest) Q E ⟨h,g,d,t,os⟩:=by
 haveI f1:=tc_lookup;haveI f2:=tc_bind (.ref C);haveI hT:(⟨h,g,d,t,os⟩:Og).TypeIs (.ref C) "type":=(aE _ hC rfl);refine Uk (codeAny_of_tree ?_);show Oo _ _ (callAny (.ref C) _) _ _ _
 repeat (any_goals (first | assumption | with_reducible refine Uv hC ?_ | wp_step))
 refine⟨rfl,?_⟩;refine codeAny_call_builtin_at (SL _ (by decide+kernel)) entry_typeCall (wpAny_check_type_call_sub hC (zB hC hn hni hW hnW hi hfI hfc (λh' e hm=>?_) hrest));exact hq h' e hm
end
section
open PySem.Builtin PySem.Builtin.ObjectAttr
structure jV(h:Heap)(C W:Addr)(mN mW:MJ->Option Od):Prop where
 c:∃(r:CR) (N:Addr) (ab:Bool),h.get? C=some (r.obj C N (.ref W::cJ) "Exception.__new__" ab)/\h.Ns N mN
 w:∃(o:Obj) (cd:ClassData),h.get? W=some {cls:=o.cls,dict:=o.dict,data:= .cls cd,slots:=o.slots}/\h.Ns cd.ns mW
theorem jV.keeps(x:jV h C W mN mW)(k:∀b o,h.get? b=some o->h'.get? b=some o):jV h' C W mN mW:=by
 obtain⟨⟨cr,N,ab,e,n⟩,oW,cd,e2,n2⟩:=x;exact⟨(iJ cr N ab (k _ _ e) (n.keeps k)),oW,cd,k _ _ e2,n2.keeps k⟩
section
variable{prog:Ob}{w:Oc}{A:Ol}{E:Od->Og->Prop}{h:Heap}{g:Array Ut}{d:Drawn}{t:Nat}{os:Uu}{C W x:Addr}{mN mW mA:MJ->Option Od}{name:MJ}{v:Od}
theorem qk(X:jV h C W mN mW)(hna:mN name=none)(hwa:mW name=none)(hB:OD (.type "Exception") name=pure none)(I:h.Inst x C mA)
 (hq:∀h' tk',h'.Inst x C (λy=>if y=name then some v else mA y)->
   (∀b o,b≠x->(∀o₀ dx,h.get? x=some o₀->o₀.dict=some dx->b≠dx)->h.get? b=some o->h'.get? b=some o)->
   (∀o₀,h.get? x=some o₀->∃o₁,h'.get? x=some o₁/\o₁.cls=o₀.cls/\o₁.data=o₀.data/\o₁.slots=o₀.slots/\(∀dx,o₀.dict=some dx->o₁.dict=some dx)/\∀dx,o₁.dict=some dx->o₀.dict=some dx\/h.get? dx=none)->Q (.done (.ret .none)) ⟨h',g,d,tk',os⟩) (hw:Within mA ns) (hsz:ns.length+1<=Om):
 Oo (model prog w) A (Builtin.«object.__setattr__» ⟨[.ref x, .str name tk,v],[]⟩) Q E ⟨h,g,d,t,os⟩:=by
 exists cps,Gz,Kz;obtain⟨⟨cr,N,ab,hC,hn⟩,oW,cd,hW,hnW⟩:=X;exists eB I,o,hx,hc,hnc,hd;have hpass:refuseLoop (.ref x) "__setattr__" (.ref W::cJ)=pure ():=by rw[refuseLoop_ref];exact Rh.passes (.ref x)
 refine Kz ?_;unfold Builtin.«object.__setattr__»
 repeat (first | rw[refuse_eq] | (rw[refuseLoop_ref,hpass]) | (with_reducible refine Uv hx ?_;rw[hc]) | with_reducible refine wpAny_mroOf_exc hC ?_ | (with_reducible refine jN hC hn hW hnW hB ?_;rw[hna,hwa]) | wp_step)
 rcases hd with ⟨hdn,hmA⟩ | ⟨dx,hdx,hne,hns⟩
 . rw[hdn,if_neg (by simp [typeHasDict])]
   split
   . rename_i hcd
     exists _
   split
   . rename_i c hcd
     exact absurd hcd (hnc c)
   . have hx₁:(h.push {cls:= .type "dict",data:= .dict #[]}).get? x=some o:=Nj _ hx
     have hxs:x≠h.objs.size:=Pe (NY hx);refine Ow (wpAny_alloc' (Ow (wpAny_update' hx₁ (Ox ?_))))
     have hgd:((h.push {cls:= .type "dict",data:= .dict #[]}).update x λo=>{cls:=o.cls,dict:=some h.objs.size,data:=o.data,slots:=o.slots}).get? h.objs.size
      =some {cls:= .type "dict",data:= .dict #[]}:=
      (SA _ _ _ _ hxs.symm).trans (S6 rfl rfl)
     have hnd:((h.push {cls:= .type "dict",data:= .dict #[]}).update x λo=>{cls:=o.cls,dict:=some h.objs.size,data:=o.data,slots:=o.slots}).Ns h.objs.size (λB=>none):=
      (hR _ (#[]) _ hgd rfl (λe he=>absurd he (by simp)) (λB=>rfl))
     show Oo _ _ (storeInDict h.objs.size (.str name tk) name v) _ _ _
     refine Ow (Ox (Ow (wpAny_nsSet1 (Heap.Ns1.of_empty hnd) λh' hn' hs=>?_)));exists fF (hn'.count (RI name v Sk)),oD,esD,epD,hoD,hdD,hcD;refine Ow (wpAny_lookBehind hoD (by rw[hdD];exact pastItsLine_dict (MO hcD (by erw[M0,NN,sizeLine_eq];lia))) ?_)
     wp_walk
     have hx':h'.get? x=some {cls:=o.cls,dict:=some h.objs.size,data:=o.data,slots:=o.slots}:=by
      refine(hs.2 x hxs).trans (P3 _ hx₁ ?_);obtain⟨oc,od,odt,osl⟩:=o;cases odt<;>first | rfl | exact (Heap.get?_some_iff.mp hx).2
     refine hq h' _ (d0 ({cls:=o.cls,dict:=some h.objs.size,data:=o.data,slots:=o.slots}) hx' hc hnc (.inr (fw h.objs.size rfl hxs.symm ?_))) (λb ob hbx B hb=>?_)
      (λo₀ h₀=>by obtain rfl:o=o₀:=MI (hx.symm.trans h₀);exact(ny _ (bT hx' rfl rfl rfl (jw (λdx e=>by rw[hdn] at e;exists _) (λdx e=> .inr (by obtain rfl:=MI e;exact bq h))))))
     . refine gy hn' λo' es ep z'0=>bh z'0 λe1 e2 e3 eu e4=>?_
       exact ik o' es ep (bT e1 e2 e3 eu (λy=>by erw[e4 y];by_cases hy:y=name<;>simp [hy,hmA]))
     . exact(hs.2 b (Pe (NY hb))).trans ((SA _ _ _ _ hbx).trans (Nj _ hb))
 . refine hdx▸?_
   refine Ox ?_;show Oo _ _ (storeInDict dx (.str name tk) name v) _ _ _;refine Ow (Ox (Ow (wpAny_nsSet1 hns λh' hn' hs=>?_)));exists fF (hn'.count (RI name v hw)),oD,esD,epD,hoD,hdD,hcD;refine Ow (wpAny_lookBehind hoD (by rw[hdD];exact pastItsLine_dict (MO hcD (by erw[M0];lia))) ?_)
   wp_walk
   exact hq h' _ (d0 o ((hs.2 x hne.symm).trans hx) hc hnc (.inr (fw dx hdx hne hn'))) (λb ob B hbd hb=>(hs.2 b (hbd o dx hx hdx)).trans hb) (λo₀ h₀=>(ny o₀ (bT ((hs.2 x hne.symm).trans h₀) rfl rfl rfl (jw (λB e=>e) (λB e=> .inl e)))))
end
end
section
open PySem.Builtin PySem.Builtin.ObjectAttr
section
variable{prog:Ob}{w:Oc}{A:Ol}{E:Od->Og->Prop}{h:Heap}{g:Array Ut}{d:Drawn}{t:Nat}{os:Uu}{C W x:Addr}{mN mW mA:MJ->Option Od}{name:MJ}{v:Od}
theorem vB{M:O7}(X:jV h C W mN mW)(hx:h.get? x=some o)(hc:o.cls= .ref C)(hq:Q () ⟨h,g,d,t,os⟩):
 Oo M A (OE "object.__setattr__" ⟨[.ref x,nameV,v],[]⟩) Q E ⟨h,g,d,t,os⟩:=by
 obtain⟨⟨cr,N,ab,hC,hn⟩,_⟩:=X;haveI SF:=Rh;haveI hcB:(NO C:: .ref W::cJ).contains (.type "object")=true:=by erw[Nz,Nz,show cJ.contains (.type "object")=true from SF.hasOwner];simp
 erw[OE,SF.kind,SF.split];refine Ow ?_;unfold isInstance
 repeat (first | (with_reducible refine Uv hx ?_;erw[hc]) | (with_reducible refine Uw hC ?_;refine hcB▸?_) | wp_step)
 all_goals first
  | exact hq
  | (cases hsig:Manifest.signature? "object.__setattr__" with
    | none=>exact hq
    | some sig=>exact hq)
theorem pO{Q:Unit->Og->Prop}(X:jV h C W mN mW)(hns:mN "__setattr__"=none)(hws:mW "__setattr__"=none)(hna:mN name=none)(hwa:mW name=none)(hB:OD (.type "Exception") name=pure none)(I:h.Inst x C mA)
 (hq:∀h' tk',h'.Inst x C (λy=>if y=name then some v else mA y)->
   (∀b o,b≠x->(∀o₀ dx,h.get? x=some o₀->o₀.dict=some dx->b≠dx)->h.get? b=some o->h'.get? b=some o)->
   (∀o₀,h.get? x=some o₀->∃o₁,h'.get? x=some o₁/\o₁.cls=o₀.cls/\o₁.data=o₀.data/\o₁.slots=o₀.slots/\(∀dx,o₀.dict=some dx->o₁.dict=some dx)/\∀dx,o₁.dict=some dx->o₀.dict=some dx\/h.get? dx=none)->Q () ⟨h',g,d,tk',os⟩) (hw:Within mA ns) (hsz:ns.length+1<=Om):
 Oo (model prog w) A (QS (.ref x) name v) Q E ⟨h,g,d,t,os⟩:=by
 haveI X0:=X;exists cps,Gz,Kz;obtain⟨⟨cr,N,ab,hC,hn⟩,oW,cd,hW,hnW⟩:=X;exists cF (id I),o,hx,hc,B;haveI SF:=Rh;haveI f3:=SF.slot.bind (.ref x);refine Kz ?_;unfold QS callSpecial? specialOf
 repeat (any_goals (first | assumption | (with_reducible refine Uv hx ?_;refine hc▸?_) | (with_reducible refine jN hC hn hW hnW SF.slot.lookup ?_;erw[hns,hws]) | wp_step))
 refine codeAny_call_builtin SF.slot.plain SF.entry (vB X0 hx hc (qk X0 hna hwa hB I (λh' tk' I' hk hsame=>?_) hw hsz))
 repeat (any_goals (first | assumption | wp_step))
 exact hq h' tk' I' hk hsame
end
end
section
open PySem.Builtin PySem.Builtin.ObjectAttr
theorem Av:OD (.type "Exception") "why"=pure none:=by erw[typeLookup_type,builtinLookup_eq_fast];kernel_rfl
theorem Jr:OD (.type "Exception") "at"=pure none:=by erw[typeLookup_type,builtinLookup_eq_fast];kernel_rfl
section
variable{prog:Ob}{w:Oc}{A:Ol}{E:Od->Og->Prop}{h:Heap}{g:Array Ut}{d:Drawn}{t:Nat}{os:Uu}{C W x:Addr}{mN mW mA:MJ->Option Od}{name:MJ}{v:Od}
set_option tactic.hygienic true in
theorem qH(X:jV h C W mN mW)(hna:mN name=none)(hwa:mW name=none)(hB:OD (.type "Exception") name=pure none)(I:h.Inst x C mA)(hv:mA name=some v)
 (hq:Q (.done (.ret v)) ⟨h,g,d,t,os⟩):Oo (model prog w) A (Builtin.«object.__getattribute__» ⟨[.ref x, .str name tk],[]⟩) Q E ⟨h,g,d,t,os⟩:=by
 exists cps,Gz,Kz;obtain⟨⟨cr,N,ab,hC,hn⟩,oW,cd,hW,hnW⟩:=X;exists eB I,o,hx,hc,hnc,hd;refine Kz ?_;rcases hd with ⟨_,hmA⟩ | ⟨dx,hdx,hne,hns⟩
 . rw[hmA name] at hv;exists _
 unfold Builtin.«object.__getattribute__»
 repeat (first | (with_reducible refine Uv hx ?_;rw[hc]) | (with_reducible refine jN hC hn hW hnW hB ?_;rw[hna,hwa]) | wp_step)
 split
 . rename_i c hcd
   exact absurd hcd (hnc c)
 unfold instanceDict
 repeat (first | (with_reducible refine Uv hx ?_;rw[hc]) | with_reducible refine Uv hC ?_ | wp_step)
 refine hdx▸?_
 repeat (first | (with_reducible refine wpAny_nsGet hns.ns ?_;refine hv▸?_) | wp_step)
 exact hq
theorem u9{M:O7}(X:jV h C W mN mW)(hx:h.get? x=some o)(hc:o.cls= .ref C)(hq:Q () ⟨h,g,d,t,os⟩):
 Oo M A (OE "BaseException.__getattribute__" ⟨[.ref x,nameV],[]⟩) Q E ⟨h,g,d,t,os⟩:=by
 obtain⟨⟨cr,N,ab,hC,hn⟩,_⟩:=X;haveI hk:builtinKind "BaseException.__getattribute__"=some .slot:=by decide+kernel
 haveI hsplit:splitId "BaseException.__getattribute__"=some ("BaseException","__getattribute__"):=by decide+kernel
 haveI hcB:(NO C:: .ref W::cJ).contains (.type "BaseException")=true:=by erw[Nz,Nz,show cJ.contains (.type "BaseException")=true from Qc.hasBase];simp
 erw[OE,hk,hsplit];refine Ow ?_
 . unfold isInstance
   repeat (first | (with_reducible refine Uv hx ?_;erw[hc]) | (with_reducible refine Uw hC ?_;refine hcB▸?_) | wp_step)
   exact hq
theorem wh{expr:Bool}(X:jV h C W mN mW)(hng:mN "__getattribute__"=none)(hwg:mW "__getattribute__"=none)(hnh:mN "__getattr__"=none)(hwh:mW "__getattr__"=none)
 (hna:mN name=none) (hwa:mW name=none) (hB:OD (.type "Exception") name=pure none) (I:h.Inst x C mA) (hv:mA name=some v) (hh:handedOut v=pure v) (hq:Q v ⟨h,g,d,t+1,os⟩):
 Oo (model prog w) A (PySem.getAttr (.ref x) name expr) Q E ⟨h,g,d,t,os⟩:=by
 haveI X0:=X;haveI FB:=Qc;exists cps,Gz,Kz;obtain⟨⟨cr,N,ab,hC,hn⟩,oW,cd,hW,hnW⟩:=X;exists cF (id I),o,hx,hc,B;haveI f3:=FB.ga.bind (.ref x);haveI hx0:(expr&&onTheHeap (Qp "BaseException.__getattribute__"))=false:=by cases expr<;>rfl
 haveI hx2:(Qp "BaseException.__getattribute__"==Qp "object.__getattribute__")=false:=by decide+kernel
 haveI hx1:(onTheHeap (NO C)&&Qp "BaseException.__getattribute__"==Qp "object.__getattribute__")=false:=by refine hx2▸?_;rfl
 refine Kz ?_
 repeat (any_goals (first | assumption | (with_reducible refine Uv hx ?_;erw[hc]) | (with_reducible refine jN hC hn hW hnW FB.ga.lookup ?_;erw[hng,hwg]) | (with_reducible refine jN hC hn hW hnW FB.noGetattr ?_;rw[hnh,hwh]) | wp_step))
 refine codeAny_call_builtin FB.ga.plain F.entry_bexc_ga (u9 X0 hx hc (qH X0 hna hwa hB I hv ?_))
 repeat (any_goals (first | assumption | rw[hh] | wp_step))
end
end
section
open PySem.Builtin PySem.Builtin.ObjectAttr
theorem JD{s e:ML}(h1:s= .UnaryOp o e p)(h2:e= .Constant c k q)(h3:c= .int i)(h:o= .USub/\i=1):s= .UnaryOp .USub (.Constant (.int 1) k q) p:=by
 erw[h1,h2,h3,h.1,h.2]
noncomputable def Jl(s:ML):Option {x:Nat×Pos×Pos // s= .UnaryOp .USub (.Constant (.int 1) x.1 x.2.1) x.2.2}:=(Gf s).bind λu=>(ir u.1.2.1).bind λc=>(Jz c.1.1).bind λj=>if h:u.1.1= .USub/\j.1=1 then some ⟨(c.1.2.1,c.1.2.2,u.1.2.2),JD u.2 c.2 j.2 h⟩ else none
noncomputable def ul(s:Stmt):Bool:=(Dv s).any λx=>(dy x.1.1).any λc=>(wb "__init__" c.1.1).any λa=>(iO "Exception" a.1.1).any λX=>(Mv c.1.2.1).any λu=>(iO "self" u.1.1).any λX=>(iO "why" u.1.2).any λX=>a.1.2.endLine==c.1.2.2.line
noncomputable def uh(s:Stmt):Bool:=(lv s).any λx=>(wb "why" x.1.1).any λa=>(iO "self" a.1.1).any λX=>(iO "why" x.1.2.1).any λX=>true
noncomputable def ur(s:Stmt):Bool:=(lv s).any λx=>(wb "at" x.1.1).any λa=>(iO "self" a.1.1).any λX=>(Jl x.1.2.1).any λX=>true
noncomputable def qY(b:List Stmt):Bool:=(MD b).any λs=>ul s.1.1&&uh s.1.2.1&&ur s.1.2.2
def ET(b:List Stmt)(p0 p1 p2 p3 q1 q2 p4 p5 p6 p7 p8 p9 p10 p11 p12:Pos)(k:Nat):Prop:=
 (p1.endLine==q1.line)=true/\b=[.Expr (.Call (.Attribute (.Name "Exception" p0) "__init__" p1) [.Name "self" p2, .Name "why" p3] [] q1) q2,
   .Assign [.Attribute (.Name "self" p4) "why" p5] (.Name "why" p6) p7, .Assign [.Attribute (.Name "self" p8) "at" p9] (.UnaryOp .USub (.Constant (.int 1) k p10) p11) p12]
theorem Cm(h:ul s=true){Gz:Prop}(Kz:(∀p0 p1 p2 p3 q1 q2,(p1.endLine==q1.line)=true->s= .Expr (.Call (.Attribute (.Name "Exception" p0) "__init__" p1) [.Name "self" p2, .Name "why" p3] [] q1) q2->Gz)):Gz:=
 aP h λx e1 h=>aP h λc e2 h=>aP h λa e3 h=>aP h λi e4 h=>aP h λu e5 h=>aP h λj e6 h=>aP h λk e7 h=>(Kz i a.2 j k c.2.2 x.2 h (by erw[show s=_ from e1,show x.1=_ from e2,show c.1=_ from e3,show a.1=_ from e4,show c.2.1=_ from e5,show u.1=_ from e6,show u.2=_ from e7]))
theorem CG(h:uh s=true){Gz:Prop}(Kz:∀p4 p5 p6 p7,s= .Assign [.Attribute (.Name "self" p4) "why" p5] (.Name "why" p6) p7->Gz):Gz:=
 aP h λx e1 h=>aP h λa e2 h=>aP h λi e3 h=>aP h λj e4 X=>(Kz i a.2 j x.2.2 (by erw[show s=_ from e1,show x.1=_ from e2,show a.1=_ from e3,show x.2.1=_ from e4]))
theorem JN(h:ur s=true):∃p8 p9 p10 p11 p12 k,s= .Assign [.Attribute (.Name "self" p8) "at" p9] (.UnaryOp .USub (.Constant (.int 1) k p10) p11) p12:=
 aP h λx e1 h=>aP h λa e2 h=>aP h λi e3 h=>aP h λj e4 X=>⟨i,a.2,j.2.1,j.2.2,x.2.2,j.1,by erw[show s=_ from e1,show x.1=_ from e2,show a.1=_ from e3,show x.2.1=_ from e4]⟩
theorem He(h:qY b=true):∃p0 p1 p2 p3 q1 q2 p4 p5 p6 p7 p8 p9 p10 p11 p12 k,ET b p0 p1 p2 p3 q1 q2 p4 p5 p6 p7 p8 p9 p10 p11 p12 k:=aP h λs e0 h=>by
 exists Cm (aa (aa h)),p0,p1,p2,p3,q1,q2,hl,e1;exists CG (ae (aa h)),p4,p5,p6,p7,e2;refine bD (JN (ae h)) λp8 p9 p10 p11 z'0=>fx z'0 λp12 k e3=>?_;exact⟨p0,p1,p2,p3,q1,q2,p4,p5,p6,p7,p8,p9,p10,p11,p12,k,hl,by erw[show b=_ from e0,show s.1=_ from e1,show s.2.1=_ from e2,show s.2.2=_ from e3]⟩
structure yE(mN mW:MJ->Option Od):Prop where
 sa:mN "__setattr__"=none/\mW "__setattr__"=none
 ga:mN "__getattribute__"=none/\mW "__getattribute__"=none
 gt:mN "__getattr__"=none/\mW "__getattr__"=none
 why:mN "why"=none/\mW "why"=none
 at':mN "at"=none/\mW "at"=none
section
variable{prog:Ob}{w:Oc}{A:Ol}{E:Od->Og->Prop}{h:Heap}{g:Array Ut}{d:Drawn}{t:Nat}{os:Uu}{C W x:Addr}{mN mW mA:MJ->Option Od}{name:MJ}{v:Od}
theorem rF{M:O7}(X:jV h C W mN mW)(hx:h.get? x=some o)(hc:o.cls= .ref C)(hq:Q () ⟨h,g,d,t,os⟩):
 Oo M A (OE "Exception.__init__" ⟨.ref x::rest,[]⟩) Q E ⟨h,g,d,t,os⟩:=by
 haveI Fe:=Tn;obtain⟨⟨cr,N,ab,hC,hn⟩,_⟩:=X;haveI hcB:(NO C:: .ref W::cJ).contains (.type "Exception")=true:=by erw[Nz,Nz,show cJ.contains (.type "Exception")=true from PO.hasB];simp
 erw[OE,Fe.initKind,Fe.initSplit,Fe.initRow];refine Ow ?_;unfold isInstance
 repeat (first | (with_reducible refine Uv hx ?_;refine hc▸?_) | (with_reducible refine Uw hC ?_;refine hcB▸?_) | (with_reducible refine wpAny_staticBase_exc hC ?_) | wp_step)
 all_goals first
  | exact hq
  | (refine wpAny_onRaise ?_
     rw[show∀(a b:String) (n:Nat),Bind.check ⟨.positional,"*","Exception", .self,[⟨"args", .varPos,false⟩]⟩ a b n (Pa (λx=>x.fst) ({pos:= .ref x::rest}:Args).kw)=pure () from
      λa b n=>check_star_args _ _ _ _ _ _]
     exact Ox hq)
theorem tM{o:Obj}(X:jV h C W mN mW)(hx:h.get? x=some o)(hc:o.cls= .ref C)(hd:o.data= .fields vs)(h0:vs[0]? =some (.ref t0))
 (hq:Q .none ⟨(h.push {cls:= .type "tuple",data:= .seq rest.toArray}).update x (Py (·.setIfInBounds 0 (.ref h.objs.size))),g,d,t,os⟩) (hrest:rest.length<=Om):
 Oo (model prog w) A (call (.builtin "Exception.__init__") (.ref x::rest)) Q E ⟨h,g,d,t,os⟩:=by
 haveI Fe:=Tn;refine Uk (codeAny_call_builtin Fe.init.plain Fe.initEntry (rF X hx hc ?_));unfold Builtin.«BaseException.__init__»;dsimp only;rw[if_neg (by simp)];haveI he₁:=Nj (h:=h) {cls:= .type "tuple",data:= .seq rest.toArray} hx;refine Ow (OT (Ow (Ow (OI he₁ hd h0 (Ow (Us he₁ hd (show 0<vs.size from(NA.mp h0).1) ?_))))) (by show rest.toArray.size<=Om;refine M1▸?_;exact hrest));exact wpAny_letGo (Ox hq)
end
end
section
open PySem.Builtin PySem.Builtin.ObjectAttr
def pA(h h':Heap):Prop:=∀b o,h.get? b=some o->(∀vs,o.data≠ .fields vs)->h'.get? b=some o
theorem pA.ns(k:pA h h')(n:h.Ns a m):h'.Ns a m:=by
 exists fF n,o,es,ep,e,hd,r;exact lZ o es ep (k _ _ e (λvs z=>by rw[hd] at z;exists _)) hd r
theorem pA.excC(k:pA h h')(x:jV h C W mN mW):jV h' C W mN mW:=by
 obtain⟨⟨cr,N,ab,e,n⟩,oW,cd,e2,n2⟩:=x;exact⟨(iJ cr N ab (k _ _ e (λvs z=>by exists _)) (k.ns n)),oW,cd,k _ _ e2 (λvs z=>by exists _),k.ns n2⟩
section
variable{prog:Ob}{w:Oc}{A:Ol}{E:Od->Og->Prop}{h:Heap}{g:Array Ut}{d:Drawn}{t:Nat}{os:Uu}{C W x:Addr}{mN mW mA:MJ->Option Od}{name:MJ}{v:Od}
theorem sY:PySem.W.findCls [] (.type "Exception") (.type "type") "__init__"=some (.val (.builtin "Exception.__init__")):=%[|2]
theorem uw(id:MJ)(p:Pos)(attr:MJ)(env:Nf)(whole:Sem Od):attributeBase (.Name id p) attr env whole=whole:=rfl
theorem Hi:typeOf (.type "Exception")=pure (.type "type"):=%[|2]
theorem G6:Manifest.isStub "Exception"=false:=by decide+kernel
theorem wJ(hL:h.Ns L mL)(hq:Q (.builtin "Exception.__init__",[]) ⟨h,g,d,t+1,os⟩):
 Oo (model prog w) A (getMethod (.type "Exception") "__init__" pl) Q E ⟨h,g,d,t,os⟩:=by
 haveI Fr0:PyProof.Rows.Fr ({}:Heap) L (Shared.mk h g d t os).heap mL:=⟨hL,λb o e=>by simp [Heap.get?] at e,Pm _⟩;exact PySem.W.method_type (K:=[]) (T:="Exception") (name:="__init__") (v:= .builtin "Exception.__init__") Fr0 (λa o e=>by exists _) Hi G6 sY rfl hq
theorem BL{p0 p1 p2 p3 q1:Pos}(hline:(p1.endLine==q1.line)=true)(hk:env.scope.kind= .function)(k1:env.kindOf "self"=some .local)(k2:env.kindOf "why"=some .local)(k3:env.kindOf "Exception"=some .globalImplicit)
 (hg:h.Ns env.globals mg) (hmiss:mg "Exception"=none) (hbi:h.Ns env.builtins mb) (hbv:mb "Exception"=some (.type "Exception")) (hL:h.Ns env.locals mL) (l1:mL "self"=some (.ref x)) (l2:mL "why"=some v)
 (X:jV h C W mN mW) (hx:h.get? x=some o) (hc:o.cls= .ref C) (hd:o.data= .fields vs) (h0:vs[0]? =some (.ref t0))
 (hq:∀tk,Q .none ⟨(h.push {cls:= .type "tuple",data:= .seq [v].toArray}).update x (Py (·.setIfInBounds 0 (.ref h.objs.size))),g,d,tk,os⟩):
 Oo (model prog w) A (eval (.Call (.Attribute (.Name "Exception" p0) "__init__" p1) [.Name "self" p2, .Name "why" p3] [] q1) env) Q E ⟨h,g,d,t,os⟩:=by
 erw[arm_eval_Call,uw];refine Ow (PySem.Calls.Name_function_global hk k3 (PySem.Calls.loadGlobal_builtin hg hmiss hbi hbv (Ow (Uf ?_))));haveI hpos:methodCallPos true (.Name "Exception" p0) env p1 q1=pure q1:=by unfold methodCallPos;simp [hline]
 unfold methodCall;rw[(show methodCallForm (([Expr.Name "self" p2, .Name "why" p3]:List Expr).length+([]:List Keyword).length) (Uc q1 (O9 [.Name "self" p2, .Name "why" p3] env)) (backToKw q1 (keywordEach [] env))=true from rfl)];refine Ow (Ov ?_);unfold calleeOf;rw[if_pos rfl];refine wJ hL ?_;refine Ow (OF hpos ?_);refine PySem.Calls.callWith_builtin rfl (dQ rfl ?_);refine Qa (x:=eval (.Name "self" p2) env) (rest:=Uc q1 (O9 [.Name "why" p3] env)) (OY (OX hk k1 hL l1 ?_) %[|1]);refine Qa (x:=eval (.Name "why" p3) env) (rest:=[]) (OY (OX hk k2 hL l2 (Q7 ?_)) %[|1]);exact tM X hx hc hd h0 (hq _) (by show 1<=Om;decide)
theorem AY{p0 p1 p2 p3 q1 q2 p4 p5 p6 p7 p8 p9 p10 p11 p12:Pos}{o:Obj}(hb:ET body p0 p1 p2 p3 q1 q2 p4 p5 p6 p7 p8 p9 p10 p11 p12 kk)(hk:env.scope.kind= .function)(k1:env.kindOf "self"=some .local)(k2:env.kindOf "why"=some .local)(k3:env.kindOf "Exception"=some .globalImplicit)
 (hg:h.Ns env.globals mg) (hmiss:mg "Exception"=none) (hbi:h.Ns env.builtins mb) (hbv:mb "Exception"=some (.type "Exception")) (hL:h.Ns env.locals mL) (l1:mL "self"=some (.ref x)) (l2:mL "why"=some v)
 (X:jV h C W mN mW) (N:yE mN mW) (hx:h.get? x=some o) (hc:o.cls= .ref C) (hdict:o.dict=none) (hd:o.data= .fields vs) (h0:vs[0]? =some (.ref t0))
 (hq:∀h' tk' o' dx mA,(∀b ob,b≠x->h.get? b=some ob->h'.get? b=some ob)->h'.get? x=some o'->o'.cls= .ref C->(∃y,o'.data= .fields (vs.setIfInBounds 0 y))->o'.dict=some dx->h.get? dx=none->dx≠x->h'.Ns1 dx mA->mA "why"=some v->Q .next ⟨h',g,d,tk',os⟩):
 Oo (model prog w) A (Um body env) Q E ⟨h,g,d,t,os⟩:=by
 rw[hb.2];have ePush:∀b ob,h.get? b=some ob->(h.push {cls:= .type "tuple",data:= .seq [v].toArray}).get? b=some ob:=λb ob e=>Nj _ e;refine Uo (wpAny_Expr_any (BL hb.1 hk k1 k2 k3 hg hmiss hbi hbv hL l1 l2 X hx hc hd h0 λtk1=>?_) (by unfold interactive;rw[hk];rfl) rfl);generalize e1:((h.push {cls:= .type "tuple",data:= .seq [v].toArray}).update x (Py (·.setIfInBounds 0 (.ref h.objs.size))))=h1;have hd1:=Qh hd (·.setIfInBounds 0 (NO h.objs.size))
 have g1x:h1.get? x=some {o with data:= .fields (vs.setIfInBounds 0 (NO h.objs.size))}:=by
  erw[<-e1,P3 _ (ePush _ _ hx) (P4 hd1),nJ hd]
 have g1:∀b ob,b≠x->h.get? b=some ob->h1.get? b=some ob:=λb ob hb e=>by
  rw[<-e1,Pf _ _ (Ni hb)];exact ePush _ _ e
 have nf:∀{b ob},h.get? b=some ob->(∀vs,ob.data≠ .fields vs)->b≠x:=λ{b ob} e hn z=>by
  rw[z,hx] at e;obtain rfl:=MI e;exact hn _ hd
 have kn1:pA h h1:=λb ob e hn=>g1 b ob (nf e hn) e;have I1:h1.Inst x C (λB=>none):=(d0 _ g1x hc (λc z=>by exists _) (.inl ⟨hdict,λB=>rfl⟩));refine Uo (plainObj_wpAny_Assign_Attribute (OY (OX hk k2 (kn1.ns hL) l2 (OY (OX hk k1 (kn1.ns hL) l1 ?_) %[|1])) %[|1]) rfl);refine pO (kn1.excC X) N.sa.1 N.sa.2 N.why.1 N.why.2 Av I1 (λh2 tk2 I2 keep2 o2=>?_) (ns:=[]) Sk %[|1];refine bx (o2 _ g1x) λo2 z'0=>bh z'0 λg2x c2 dt2 sl2 z'1=>bj z'1 λB new2=>?_;have g2:∀b ob,b≠x->h.get? b=some ob->h2.get? b=some ob:=λb ob hb e=>keep2 b ob hb (λo₀ dx e0 ed=>by rw[g1x] at e0;obtain rfl:=MI e0;exact absurd ed (by show o.dict≠_;rw[hdict];exactλz=>by exists _)) (g1 b ob hb e);have kn2:pA h h2:=λb ob e hn=>g2 b ob (nf e hn) e;refine Uo (plainObj_wpAny_Assign_Attribute (PyProof.Rows.UnaryOp_ (OW (Qn (OY (OX hk k1 (kn2.ns hL) l1 ?_) %[|1])))) rfl);refine pO (kn2.excC X) N.sa.1 N.sa.2 N.at'.1 N.at'.2 Jr I2 (λh3 tk3 I3 keep3 o3=>?_) (ns:=["why"]) (RI _ _ Sk) %[|1];refine bx (o3 _ g2x) λo3 z'0=>bh z'0 λg3x c3 dt3 sl3 z'1=>bj z'1 λold3 B=>?_;exists eB I2,o2',g2x',B,B,hd2;rw[g2x] at g2x';obtain rfl:=MI g2x';rcases hd2 with ⟨_,hn⟩ | ⟨dx,hdx,hne,hns⟩
 . have:=hn "why"
   exists _
 have e3d:=old3 dx hdx;have hnone:h.get? dx=none:=by
  rcases new2 dx hdx with z | z
  . exact absurd z (by show o.dict≠_;rw[hdict];exactλz=>by exists _)
  . cases e:h.get? dx with
    | none=>rfl|some ob=>rw[g1 dx ob hne e] at z;exists _
 exists eB I3,o3',g3x',B,B,hd3;rw[g3x] at g3x';obtain rfl:=MI g3x';rcases hd3 with ⟨z,_⟩ | ⟨dx',hdx',hne',hns'⟩
 . rw[e3d] at z;exists _
 rw[e3d] at hdx';obtain rfl:=MI hdx';refine Un (hq h3 _ o3 dx _ (λb ob hb e=>keep3 b ob hb (λo₀ dx' e0 ed=>?_) (g2 b ob hb e)) g3x (c3.trans (c2.trans hc)) ⟨_,dt3.trans dt2⟩ e3d hnone hne hns' ?_)
 . rw[g2x] at e0
   obtain rfl:=MI e0;rw[hdx] at ed;obtain rfl:=MI ed;intro z;erw[z,hnone] at e;exists _
 . rw[if_neg %[|1],if_pos rfl]
end
end
structure L8(C:Cx)(W:Addr)(mN mW:MJ->Option Od)(fI:Addr)(oI:Obj)(fd:Ur)(body:List Stmt):Prop where
 X:jV C.h0 C.mis W mN mW
 N:yE mN mW
 ni:mN "__init__"=none
 i:mW "__init__"=some (.ref fI)
 g:C.h0.get? fI=some oI
 fc:oI.cls= .type "function"
 dat:oI.data= .func fd
 cd:C.h0.CodeRec fd.code fd.qualname
 bd:fd.body= .stmts body
 ib:qY body=true
 par:hJ fd ["self","why"]
 def':fd.defaults= .none
 clo:fd.closure=[]
 glo:fd.globals=Oi
 bui:fd.builtins=Oj
 kind:fd.scope.kind= .function
 co:fd.scope.isCoroutine=false
 gen:fd.scope.isGenerator=false
 cell:∀x∈fd.scope.names,x.2≠ .cell
 self:fd.scope.names.lookup ("self":MJ)=some .local
 why:fd.scope.names.lookup ("why":MJ)=some .local
 exc:fd.scope.names.lookup ("Exception":MJ)=some .globalImplicit
structure xO(C:Cx):Prop where
 ex:∃W mN mW fI oI fd body,L8 C W mN mW fI oI fd body
 gl:∃mg mb,C.h0.Ns Oi mg/\C.h0.Ns Oj mb/\mg "Misused"=some (.ref C.mis)/\mg "Exception"=none/\mb "Exception"=some (.type "Exception")
 lim:C.h0.NoLimit
section
variable{C:Cx}{V:cV}{Y:aR}{s:Og}{A:Ol}{E Q:Od->Og->Prop}{v:Od}
theorem vI(K:xO C)(R:cD C V Y s.heap)(hroom:A.depth+1<Oz)
 (hq:∀h' tk' e o' dx mA,(∀b ob,s.heap.get? b=some ob->h'.get? b=some ob)->s.heap.get? e=none->h'.get? e=some o'->o'.cls= .ref C.mis->(∃vs,o'.data= .fields vs/\vs[1]? =some .none)->o'.dict=some dx->s.heap.get? dx=none->dx≠e->h'.Ns1 dx mA->mA "why"=some v->
   Q (.ref e) {s with heap:=h',toks:=tk'}):
 Oo (model C.prog C.w) A (Q0 (.ref C.mis) [v]) Q E s:=by
 exists cps,Gz,Kz;refine bD K.ex λW mN mW fI z'0=>gy z'0 λoI fd body Z=>?_;haveI X:=Z.X;refine fx K.gl λmg mb z'0=>bh z'0 λhg hb B hmiss hbv=>?_;obtain⟨⟨cr,Nn,ab,hC,hn⟩,oW,cd,hW,hnW⟩:=((X.keeps R.keep));obtain⟨h,g,d,t,os⟩:=s;refine Kz ?_;refine Be hC hn Z.ni hW hnW Z.i (R.keep _ _ Z.g) Z.fc (λh1 e M=>?_) (by show 1<=Om;decide);obtain⟨keep1,hnew,t0,ge,_,_⟩:=M;haveI hcd1:h1.CodeRec fd.code fd.qualname:=by
  refine bD Z.cd λc oc vc t z'0=>fg z'0 λe1 e2 e3 e4=>?_;exact eM c oc vc t (eK e1 (keep1 _ _ (R.keep _ _ e2)) e3 e4)
 exists qd Z.par (vals:=[.ref e,v]) (D:=[]) (by show 2<=2;decide) (by show 2<=2;decide) %[|1],kk,b1,b2,b3;haveI hbind:bindArgs fd ⟨[.ref e,v],[]⟩=pure [(("self":MJ),NO e),(("why":MJ),v)]:=by
  erw[b1,Z.def',mH,pure_bind];exact b3 rfl
 refine Uk (codeAny_call_def (s:=⟨h1,g,d,t,os⟩) hroom (keep1 _ _ (R.keep _ _ Z.g)) Z.dat (K.lim.keeps λb o e=>keep1 _ _ (R.keep _ _ e)) hcd1 Z.bd (BindsTo.of_eq hbind) Z.cell (λx hx=>?_) (λh2 ns2 keep2=>?_) Z.co Z.gen Z.kind)
 . erw[MW,MS,or_false] at hx
   rcases hx with rfl | rfl
   . exact Z.self
   . exact Z.why
 . haveI k12:∀b o,C.h0.get? b=some o->h2.get? b=some o:=λb o e=>keep2 _ _ (keep1 _ _ (R.keep _ _ e))
   refine bD (He Z.ib) λB B B B z'0=>bD z'0 λB B B B z'1=>bD z'1 λB B B B z'2=>bD z'2 λB B B B hib=>?_;refine AY (env:=callEnv fd h1.objs.size fI) (mg:=mg) (mb:=mb) (v:=v) hib Z.kind Z.self Z.why Z.exc (by show h2.Ns fd.globals mg;refine Z.glo▸?_;exact hg.keeps k12) hmiss (by show h2.Ns fd.builtins mb;refine Z.bui▸?_;exact hb.keeps k12) hbv ns2 (by rfl) (by rfl) (X.keeps k12) Z.N (keep2 _ _ ge) rfl rfl rfl (by rfl) ?_;intro h3 tk3 o3 dx mA keep3 g3 c3 d3 dt3 nd3 ne3 n3 w3;refine⟨rfl,hq h3 tk3 e o3 dx mA (λb ob eb=>keep3 b ob (λz=>by erw[z,hnew] at eb;exists _) (keep2 _ _ (keep1 _ _ eb))) hnew g3 c3 ?_ dt3 ?_ ne3 n3 w3⟩
   . exists bx d3,y,hy
     exact aE _ hy rfl
   . cases q:h.get? dx with
     | none=>rfl|some ob=>rw[keep2 _ _ (keep1 _ _ q)] at nd3;cases nd3
end
end Internal
namespace Internal
section
variable{C:Cx}{V:cV}{Y:aR}{s:Og}{A:Ol}{E Q:Od->Og->Prop}{v:Od}
theorem qi{M:O7}{Q:Flow->Og->Prop}(hh:A.handled=none)
 (h:Oo M A x (λv s₁=>∃e o vs,v= .ref e/\jV s₁.heap Cc W mN mW/\s₁.heap.get? e=some o/\o.cls= .ref Cc/\o.data= .fields vs/\vs[1]? =some .none/\E (.ref e) s₁) E s):
 Oo M A (raiseStmt env (some x) none) Q E s:=by
 haveI hcB:(NO Cc:: .ref W::cJ).contains (.type "BaseException")=true:=by erw[Nz,Nz,show cJ.contains (.type "BaseException")=true from Qc.hasBase];simp
 refine Ow (OL h (λv s₁ h₁=>?_) λB B x=>x);exists cps,Gz,Kz
 (refine gy h₁ λe o vs z'0=>bh z'0 λt'1 X he hc z'1=>fE z'1 λhd h1 hE=>?_;obtain rfl:=t'1)
 obtain⟨⟨cr,N,ab,hC,hn⟩,_⟩:=X;obtain⟨oc,od,odt,osl⟩:=o;obtain rfl:oc=_:=hc;obtain rfl:odt=_:=hd;obtain⟨hp,g,d,tk,os⟩:=s₁;refine Kz ?_
 repeat (first | with_reducible refine Uv he ?_ | with_reducible refine Uv hC ?_ | (with_reducible refine Uw hC ?_;rw[hcB]) | wp_step)
 erw[h1];refine Ox ?_;rw[if_neg %[|1]];exact Ox (wpAny_raiseNew_none hh hE)
theorem oK{call:db}(MK:xO C):rz C d P TT call:=by
 intro K e y p q r hk hy S V s Y O env A Q E ok F he hE k;refine bD MK.ex λW mN mW B z'0=>gy z'0 λB B B Z=>?_;haveI X:=Z.X;clear Z;refine fx MK.gl λmg mb z'0=>bh z'0 λhg hb hmis hmiss hbv=>?_;erw[arm_exec_Raise];refine Ow (Uf (qi (W:=W) (mN:=mN) (mW:=mW) (Cc:=C.mis) ok.room.handled (Ow (OL (wpAny_Call_ofName (iA hk ok.rel F he hg hmis ?_)) (λv s₃ h₃=>Ow (Uf (Ox h₃))) λB B x=>x))));refine Ow (Ov (dQ (cN (by simpa using hy)) ?_));refine(cp hy)▸?_;refine Qa (x:=eval y env) (rest:=[]) (S.stm (Q:=Q) (f:=λv=>Mp v) ok F he k λm a s1 V1 Y1 ok1 F1 ra st1 k1=>?_);refine Q7 (Ow (Uf ?_));haveI hplain:(Uc q (O9 [y] env)).any (·.1)=false:=cN (by simpa using hy);haveI X1:=X.keeps ok1.rel.keep;haveI X1':=X1;exists cps,Gz,Kz;obtain⟨⟨cr,Nn,ab,hC,hn⟩,_⟩:=X1';obtain⟨h1,g1,d1,t1,os1⟩:=s1;rw[cp hy] at hplain;refine Kz ?_;erw[hplain];refine Ow (wpAny_keeperOf_exc hC ?_);refine Ow (vI MK ok1.rel (by have:=ok1.room.room.depth;lia) λh' tk' e o' dx mA keep ne ge gc gd gdt ndx dxe gns gw=>?_);exists aA gd,vs,gd,gv;refine Ow (Ov (wpAny_point (Ox (ik e o' vs (bT rfl (X1.keeps keep) ge gc (dq gd gv ?_))))));haveI St1:=St.keeps (t:=tk') ok1.rel keep;haveI hold:∀b,h1.get? b=none->C.h0.get? b=none:=λb hb=>by
  cases e:C.h0.get? b with
  | none=>rfl|some o=>rw[ok1.rel.keep _ _ e] at hb;exists _
 haveI hoff:∀b,h1.get? b=none->hP V1 b:=λb hb p hp=>by
  (refine vi (ok1.rel.there p hp) λt'2 o2 g2=>?_;exists bx t'2,o1,g1)
  exact⟨λz=>(by rw[<-z] at g1;rw[hb] at g1;exists _),λz=>(by rw[<-z] at g2;rw[hb] at g2;exists _)⟩
 refine(ut.expr F1 k1) (.ref e) _ V1 ⟨.of St1.step,St1.rel,St1.sh⟩ ?_ ?_
 . exact(eM e dx mA o' (gQ vs a (bT rfl (hold e ne) (hoff e ne) ge (bT gc gdt gd gns (bT (hold dx ndx) (hoff dx ndx) dxe gw (jw (ra.mono (.refl V1) (.of_keep keep)) (.inl gv)))))))
 . intro a ea
   cases ea
   refine⟨ne,λo d g hd=>?_⟩;rw[ge] at g;obtain rfl:=MI g;rw[gdt] at hd;obtain rfl:=MI hd;exact ndx
end
section
variable{M:O7}{A:Ol}{E:Od->Og->Prop}{s:Og}
theorem qj{a TT:Addr}(ge:s.heap.get? a=some oe)(hd:oe.data= .fields vs)(h1:vs[1]? =some (.ref TT))(gT:s.heap.get? TT=some oT)(dT:oT.data= .fields ts)(t3:ts[3]? =some .none)
 (h:Q () s):Oo M A (setFlight (.ref a) none) Q E s:=by
 refine Ow (OI ge hd h1 ?_);refine(if_pos (show(NO TT != Pg)=true from by simp))▸?_;refine Us gT dT (NA.mp t3).1 ?_;rw[(show s.heap.update TT (Py (·.setIfInBounds 3 ((none:Option Addr).elim Pg λf=>OJ f)))=s.heap from Qj s.heap TT oT ts 3 .none gT dT t3)];exact h
theorem EZ
 (hfr:A.frames=some (env::outer)) (hl:s.heap.FunFrames base (env::outer)) (hf:env.frame=some L) (he:s.heap.get? e=some oe) (hd:oe.data= .fields vs)
 (h1:vs[1]? =some .none\/∃TT oT ts,vs[1]? =some (.ref TT)/\s.heap.get? TT=some oT/\oT.data= .fields ts/\ts[3]? =some .none)
 (h:∀h',yc ((env::outer).filterMap (·.frame)) e oe vs s.heap h'->Q () {s with heap:=h'}):Oo M A (noteFrame (.ref e) env) (λX s'=>Oo M A (setFlight (.ref e) none) Q E s') E s:=by
 unfold noteFrame;erw[hf];rcases h1 with h1 | ⟨TT,oT,ts,h1,hT,hdT,h3⟩
 . refine Ow (OI he hd h1 ?_)
   rw[if_neg %[|1]];exact ip hfr hl hf he hd (NA.mp h1).1 h
 . refine Ow (OI he hd h1 ?_)
   rw[if_pos (show(NO TT != Pg)=true from by simp)];refine Ow (OI hT hdT h3 ?_);refine(if_neg (show¬((Pg==OJ L)=true) from by simp [OJ]))▸?_;refine Ow (Us hT hdT (NA.mp h3).1 ?_);rw[Qj s.heap TT oT ts 3 .none hT hdT h3];exact ip hfr hl hf he hd (NA.mp h1).1 h
end
section
variable{C:Cx}{V V':cV}{Y Y':aR}{A:Ol}{s s':Og}
theorem A2(ff:FF C A V s.heap)(x:Mz C A V V' s s' Y')(ge:s'.heap.get? a=some oe)(edata:oe.data= .fields vs)(offa:hP V' a)(hna:C.h0.get? a=none)(en:s.heap.get? a=none)
 (l:yc (qx A) a oe vs s'.heap h'):St C V V' s {s' with heap:=h'} Y':=by
 exists aA ff,outer,hfr,houts
 (refine fE l λt'1 stay slots=>?_;refine gy t'1 λTT oT ts z'0=>bh z'0 λgT ge' gT' dT t3=>?_)
 have hmemF:∀b∈qx A,∃o,s.heap.get? b=some o/\(∃es ep,o.data= .dict es ep)/\hP V b/\C.h0.get? b=none:=λb hb=>by
  unfold qx at hb;rw[hfr] at hb;erw[Q3,PP] at hb;exists aA hb,e,he,hb;exists dX (houts e he),h1,L,o,h2,h3,h4,h5,h6;obtain rfl:L=b:=MI (h2.symm.trans hb);exact d0 o h4 h5 h6 h3
 have tup':bo s'.heap h':=λb its ⟨o,g,hcl,n,hd⟩=>by
  have hb:b≠a:=λz=>by erw[z,ge] at g;obtain rfl:=MI g;rw[edata] at hd;exists _
  exists bx (slots b o hb g),sl,g';exact ki _ g' hcl n hd
 have rel':cD C V' Y' h':=x.rel.offT (λb=>b=a\/b∈qx A) (λb hb=>by
  rcases hb with rfl | hb
  . exact⟨offa,hna⟩
  . exists eB (hmemF b hb),o,g,X,h5,h6
    exact⟨l9 x.step.new g h5,h6⟩) tup' λb o hb g=>stay b o (λz=>hb (.inl z)) (λz=>hb (.inr z)) g
 have aS:∀b o,s.heap.get? b=some o->b≠a:=λb o g z=>by erw[z,en] at g;exists _
 refine⟨⟨x.step.le,λb o g f=>?_,x.step.new,λb its z=>tup' b its (x.step.tup b its z),λb o g=>?_⟩,rel',⟨x.sh.gens,x.sh.drawn,x.sh.os⟩⟩
 . exists aA (x.step.stay b o g f),sl,g2,r
   by_cases hF:b∈qx A
   . (refine cF (hmemF b hF) λox gx t'2 X=>?_;exists fx t'2,es,ep,hd)
     obtain rfl:=MI (g.symm.trans gx);exists bx (slots b _ (aS b o g) g2),sl',g3;exact aE sl' g3 (.inr (gQ es ep hd))
   . exact aE sl (stay b _ (aS b o g) hF g2) r
 . exists bx (x.step.there b o g),o',g'
   by_cases hb:b=a
   . subst hb;exact⟨_,ge'⟩
   . exists bx (slots b o' hb g'),sl,g2
     exact⟨_,g2⟩
theorem ES(F:cc C V h env names O)(hns:h'.Ns env.locals m')(hsb:QG env.locals h h'):cc C V h' env names [] where
 kind:=F.kind
 globals:=F.globals
 builtins:=F.builtins
 nd:=F.nd
 ns:=(aE m' hns (λi x v X e=>by exists _))
 cell:=λi x e1 e2=>by
  (refine fk (F.cell i x e1 e2) λc ov e t'3 X=>?_;exists aA t'3,o,g,d)
  exact(fM c ov e (aE o ((hsb.2 c (F.apart.1 _ (bg e))).trans g) d) (λv e=>by exists _))
 off:=F.off
 there:=λc hc=>let ⟨o,g⟩:=F.there c hc;⟨o,(hsb.2 c.2 (F.apart.1 _ hc)).trans g⟩
 apart:=F.apart
 old:=F.old
theorem Hr(l:yc F a oe vs h h')(hd:h.Ns1 dx mA)(ne:dx≠a):h'.Ns1 dx mA:=by
 exists dZ hd,od,es,ep,gd,r;exists bx (l.2.2 dx od ne gd),sl,g;exact iJ _ es ep g r
theorem uL{prog:Ob}{E:Od->Og->Prop}{Cc W a TT dx:Addr}{id dG:MJ}
 {os:Uu}
 (ev:∀(Q':Od->Og->Prop) (E':Od->Og->Prop),Q' (.ref Cc) ⟨h,g,d,t,os⟩->Oo (model prog w) (A.mark (some (.ref a))) (eval (.Name id p1) env) Q' E' ⟨h,g,d,t,os⟩)
 (X:jV h Cc W mN mW) (N:yE mN mW) (ge:h.get? a=some oe) (hc:oe.cls= .ref Cc) (hdt:oe.dict=some dx) (hd:oe.data= .fields vs) (h1:vs[1]? =some (.ref TT)) (gT:h.get? TT=some oT) (dT:oT.data= .fields ts) (t3:ts[3]? =some .none)
 (nA:h.Ns1 dx mA) (hw:mA "why"=some u) (hh:handedOut u=pure u) (ne:dx≠a) (hk:env.scope.kind= .function) (kn:env.kindOf dG=some .local) (hnd:(dG==("__debug__":MJ))=false) (hL:h.Ns env.locals m) (nLa:env.locals≠a) (nLd:env.locals≠dx)
 (XL:∀h',QG env.locals h h'->jV h' Cc W mN mW)
 (hq:∀h' m' t',h'.Ns env.locals m'->QG env.locals h h'->Q (.ret u) ⟨h',g,d,t',os⟩):
 Oo (model prog w) A (handleBy (.ref a) env [.ExceptHandler (some (.Name id p1)) (some dG) [.Return (some (.Attribute (.Name dG p2) "why" p3)) p4] p5]) Q E ⟨h,g,d,t,os⟩:=by
 haveI hpp:(env.scope.kind== .class||(env.scope.kind== .module&&env.locals != env.globals))=false:=by refine hk▸?_;rfl
 refine wpAny_handleBy_cons (codeAny_handlers_test (ev _ _ ?_)) (by intro q;exists _);obtain⟨⟨cr,Nn,ab,hC,hn⟩,_⟩:=X;haveI hbase:(NO W::cJ).contains (.type "BaseException")=true:=by erw[Nz,show cJ.contains (.type "BaseException")=true from Qc.hasBase];simp
 refine wpAny_excMatches_sub_self hC ge hc hbase (codeAny_handlers_suite_as ?_);refine qj (s:=⟨h,g,d,t,os⟩) ge hd h1 gT dT t3 ?_;refine OS kn hL (λh2 hn2 hs2=>?_) hpp;haveI nA2:h2.Ns1 dx mA:=nA.sameBut hs2 (Ni nLd);refine Uo (Ul ?_);erw[arm_eval_Attribute,uw];refine Ow (OY (OX (v:= .ref a) hk kn hn2 (by simp) ?_) hnd);refine Ow (Uf (Ow (Ov (wh (XL h2 hs2) N.ga.1 N.ga.2 N.gt.1 N.gt.2 N.why.1 N.why.2 Av (d0 oe (show h2.get? a=some oe from(hs2.2 a (Ni nLa)).trans ge) hc (λc z=>(by rw[hd] at z;exists _)) (.inr (fw dx hdt ne nA2))) hw hh ?_))));refine Ow (Ui (Ox ?_));exists wpAny_nameGoes kn hn2 hpp,h3,m3,hn3,hs3;exact hq h3 m3 _ hn3 (hs2.trans hs3)
theorem uY{call:db}(G:lW C P TT)(HC:d5 C call d)(MK:xO C):zo C d P TT call:=by
 intro K b i hh x hok V s Y O env A Q E ok F he hE k
 (refine bD (J0 hok) λv dG e p1 z'0=>bD z'0 λp2 p3 p4 p5 z'1=>fx z'1 λp6 p7 z'2=>bh z'2 λt'4 t'5 t'6 hb z'3=>fg z'3 λhg a4 a5 a6=>?_;obtain rfl:=t'4;obtain rfl:=t'5;obtain rfl:=t'6)
 have kn:env.kindOf dG=some .local:=by unfold NV;refine he▸?_;exact a5
 refine wpAny_Try_except (Uo (Ul ?_));refine((aY G HC e K v hb).1) V s Y O env A _ _ ok F he ?_;dsimp only at k
 cases hev:af call P.glo P.init e O Y with
 | bad=>
   have e1:ax call P.glo P.init [.ret e] O Y= .bad:=by
    show M.bnd (M.bnd _ _) _ Y=_
    unfold M.bnd;erw[hev]
   erw[e1] at k;exact(show False from k).elim
 | ok a Y1=>
   erw[show ax call P.glo P.init [.ret e] O Y=_ from nb (ag hev)] at k;intro u s' V' st r;exact(show KS C A d env K.names V s Q (.ret a,O) Y1 from k) (.ret u) s' V' (jB.of st) (ok.step st) (F.step st.step) r
 | exn m Y1=>
   rw[show ax call P.glo P.init [.ret e] O Y=_ from IZ (u8 hev)] at k;dsimp only at k;intro ee s1 V1 stx ex nw;exists cps,Gz,Kz
   (refine bD ex λa dx mA oe z'0=>fx z'0 λvs w z'1=>bh z'1 λt'7 hna offa ge z'2=>bh z'2 λecls edict edata ens z'3=>bh z'3 λhnd offd dne ew z'4=>bj z'4 λrw' etr=>?_;obtain rfl:=t'7)
   exists bx hE.top,outer,hfr;have en:=(nw a rfl).1;exists aA (id ok.ff),outer',hfr',hout;obtain rfl:env::outer=outer':=MI (hfr.symm.trans hfr');have hFF:s1.heap.FunFrames C.h0 (env::outer):=iq λx hx=>by
    exists cps,Gz2,Kz2;exists dX (hout x hx),h1,L,o,h2,h3,h4,h5,h6;exists aA (stx.step.stay L o h4 h6),sl,g,B;exists fx h5,es,ep,hd;refine Kz2 ?_;exact(jw h1 (gQ L _ (eK h2 h3 g (λvs z=>by erw[show({o with slots:=sl}:Obj).data=o.data from rfl,hd] at z;exists _))))
   refine Kz ?_;exists EZ hfr hFF hE.fr ge edata ?_,h',l
   . rcases etr with q | ⟨TT,oT,ts,q1,_,_,_,_,q2,q3,q4⟩
     . exact .inl q
     . exact .inr (hR TT oT ts q1 q2 q3 q4)
   have hfl:(env::outer).filterMap (·.frame)=qx A:=by unfold qx;refine hfr▸?_;rfl
   rw[hfl] at l;have St1:=A2 ok.ff stx ge edata offa hna en l;have nA:=Hr l ens dne;exists cps,Gz1,Kz1;refine gy l.1 λTT oT ts z'0=>bh z'0 λgT ge' gT' dT t3=>?_;have ok1:=ok.step St1;have F1:=F.step St1.step;refine bD MK.ex λW mN mW B z'0=>gy z'0 λB B B Z=>?_;have X:=Z.X;have N:=Z.N;clear Z;refine fx MK.gl λmg mb z'0=>bh z'0 λhgl B hmis B B=>?_;exists aA (id F1.ns),mL,hL,B;have gL0:s.heap.get? env.locals≠none:=by
    (refine aA F.ns λB t'8 B=>?_;exists dZ t'8,o,es,ep,g,B)
    refine g▸?_;exactλz=>by exists _
   have nLa:env.locals≠a:=λz=>gL0 (z▸en);have nLd:env.locals≠dx:=λz=>gL0 (z▸(nw a rfl).2 _ _ ge edict);have h1:(vs.setIfInBounds 1 (NO TT))[1]? =some (.ref TT):=by
    have:1<vs.size:=by
     rcases etr with q | ⟨_,_,_,q,_⟩<;>exact(NA.mp q).1
    simp [this]
   have keepL:∀h2,QG env.locals h' h2->∀b o,C.h0.get? b=some o->h2.get? b=some o:=λh2 hs b o g=>by
    have hb:b≠env.locals:=λz=>by erw[z,F.old.1] at g;exists _
    exact(hs.2 b hb).trans (St1.rel.keep b o g)
   refine Kz1 ?_;refine uL (Cc:=C.mis) (W:=W) (mN:=mN) (mW:=mW) (mA:=mA) (dx:=dx) (TT:=TT) (oT:=oT) (ts:=ts) (vs:=vs.setIfInBounds 1 (NO TT)) (u:=w) (m:=mL) (λQ' E' hq=>iA hg St1.rel F1 he hgl hmis hq)
    (X.keeps St1.rel.keep) N ge' ecls edict rfl h1 gT' dT t3 nA ew (qW rw') dne F.kind kn a6 hL nLa nLd (λh2 hs=>X.keeps (keepL h2 hs)) λh2 m2 t2 hL2 hs2=>?_
   have k2:KS C A d env K.names V s Q (.ret m,[]) Y1:=by
    exists N0 (PN i O.length) (λz=>?_),z
    . rw[show ax call P.glo P.init [.ret (.loc i)] (O.set i (some m)) Y1=_ from nb (ag (av (by rw[PU z];rfl)))] at k
      exact k
    . have e1:ax call P.glo P.init [.ret (.loc i)] (O.set i (some m)) Y1= .bad:=by
       show M.bnd (M.bnd (aZ ((O.set i (some m))[i]?.join)) _) _ Y1=_
       rw[RL (by rwa [ND])];rfl
      rw[e1] at k;exact(show False from k).elim
   have kb:∀b o,¬b=env.locals->h'.get? b=some o->h2.get? b=some o:=λb o hb e=>(hs2.2 b hb).trans e;exists fF (id hL2),oL,es,ep,gL2,dL,B;refine k2 (.ret w) _ V1 ((jB.of St1).trans (jB.own (t:=t2) St1.rel (.inl rfl) F1.off.1 F1.old.1 (gN hL) kb ⟨oL,gL2⟩)) ⟨ok1.room,ok1.rel.own F1.off.1 F1.old.1 (gN hL) kb,ok1.ff.chg _ kb λB B B=>(ny oL (jw gL2 (gQ es ep dL)))⟩ (ES F1 hL2 hs2) ?_;exact(rw'.mono (.refl V1) (bo.trans (λb its ⟨o,g,hcl,n,hd⟩=>by
    have hb:b≠a:=λz=>by erw[z,ge] at g;obtain rfl:=MI g;rw[edata] at hd;exists _
    exists bx (l.2.2 b o hb g),sl,g'
    exact(ki _ g' hcl n hd)) (cy (gN hL) kb)))
end
end Internal
end
section
namespace Internal
noncomputable def Ml:List Nat:=[65,72,79,86,93,100,107,114,121,128,135,142,149,156,163,170,177,184,235,242,247,252,259,266,273,301,308,315,322,329,336,343,350,357,364,371,378,406,413,420,427,434,441,448,455,460,467,474,481,488,495,502,509,516,523,530,537,544,551,558,565,572,579,586,593,600,607,614,621,628,635,642,649,656,663,670,677,684,691,698,705,712,719,726,733,741,749,756,763,768,775,782,787,794,799,806,813,818,825,832,839,846,853,860,867,872,28,199,221,287,392]
noncomputable def Mx:List Nat:=[290,395]
noncomputable def F9:Nat:=44
noncomputable def HE:Nat:=31
noncomputable def dU:List Nat:=[`__name__,`__doc__,`__package__,`__loader__,`__spec__,`__annotations__,`__builtins__,`__file__,`__cached__,`WallFault,`Misused,`LeftOut,`payload_group,`link_fields,`ip_fields,`ip6_fields,`tcp_fields,`udp_fields,`icmp_fields,`meta_fields,`needs_of,`needs_in,`field_named,`is_worked,`field_under,`size_of,`bits_of_e,`order_of,`type_of,`parts_of,`Counter,`Quota,`cell_statement,`number_of,`octets_of,`turned,`host_octets,`host_number,`host_order,`Rowing,`slots_of,`const,`turn_row,`field_row,`put_needs,`cut_row,`load_field,`bits_row,`shift_rows,`load,`load_hash,`load_key,`Reading,`put_row,`note,`need_match,`flush,`emit,`restore,`known_with,`asked_of,`split_at,`field_at,`settle,`cut,`slot_of,`held,`number_in,`joined,`key_at,`elements_told,`where_of,`back_payload,`back_meta,`ct_name,`back_ct,`back_immediate,`back_bitwise,`back_shift,`back_byteorder,`back_hash,`match_of,`back_cmp,`back_range,`back_lookup,`back_map,`back_vmap,`back_same,`back_core,`back_meter,`back_dynset,`back_meters,`statements_of,`mask_of,`span_prefix,`put_same,`maker_of,`match_number,`match_span,`make_match,`core_makers,`rows_of,`_law_base,`_law_digit,`_law_heads,`_law_sort,`_law_octets,`_law_need_rows,`_law_field_rows,`_law_lacked,`_law_own,`_law_told,`_law_put,`_law_add_own,`_law_add_field,`_law_add_odd,`_law_add_mark,`_law_rule,`_law_is_right,`_law_strange,`_law_heard,`_law_fields,`law]
noncomputable def HX:List (Nat×Nat):=[(5,0),(6,0),(7,0),(8,0),(9,0),(10,0),(11,0),(12,0),(13,0),(14,0),(15,0),(16,0),(17,0),(18,0),(19,0),(20,0),(21,0),(22,0),(26,0),(28,0),(29,0),(30,0),(31,0),(32,0),(33,0),(36,0),(37,0),(38,0),(39,0),(40,0),(41,0),(42,0),(43,0),(44,0),(45,0),(46,0),(47,0),(50,0),(51,0),(52,0),(53,0),(54,0),(55,0),(56,0),(57,0),(58,0),(59,0),(60,0),(61,0),(62,0),(63,0),(64,0),(65,0),(66,0),(67,0),(68,0),(69,0),(70,0),(71,0),(72,0),(73,0),(74,0),(75,0),(76,0),(77,0),(78,0),(79,0),(80,0),(81,0),(82,0),(83,0),(84,0),(85,0),(86,0),(87,0),(88,0),(89,0),(91,0),(92,0),(94,0),(95,0),(96,0),(97,0),(98,0),(99,0),(100,0),(103,0),(104,0),(105,0),(106,0),(107,0),(108,0),(109,0),(110,0),(111,0),(112,0),(113,0),(114,0),(115,0),(116,0),(117,0),(118,0),(119,0),(120,0),(121,0),(122,0),(1,1),(24,1),(25,1),(35,1),(49,1)]
end Internal
end
section
open PySem PySem.Calls PyProof.Rows
namespace Internal
variable{Gz:Prop}
def j8(lk:Nat->Option Obj)(h:Heap):Prop:=∀a o,lk a=some o->h.get? a=some o
noncomputable def we{α:Type}(o:Option α):Option {x:α // o=some x}:=match o with | some x=>some ⟨x,rfl⟩ | none=>none
noncomputable def HN(v:Od):Option {_x:Unit // v= .none}:=match v with | .none=>some ⟨(),rfl⟩ | _=>none
noncomputable def Lm(v:Od):Option {x:Bool // v= .bool x}:=match v with | .bool x=>some ⟨x,rfl⟩ | _=>none
noncomputable def Me(v:Od):Option {x:Int×Tok // v= .int x.1 x.2}:=match v with | .int x t=>some ⟨(x,t),rfl⟩ | _=>none
noncomputable def GG(v:Od):Option {x:MJ×Tok // v= .str x.1 x.2}:=match v with | .str x t=>some ⟨(x,t),rfl⟩ | _=>none
noncomputable def Bn(v:Od):Option {x:Addr // v= .ref x}:=match v with | .ref x=>some ⟨x,rfl⟩ | _=>none
noncomputable def Ms(v:Od):Option {x:String // v= .builtin x}:=match v with | .builtin x=>some ⟨x,rfl⟩ | _=>none
noncomputable def Ef(d:Data):Option {x:Array Ux×Nat // d= .dict x.1 x.2}:=match d with | .dict x n=>some ⟨(x,n),rfl⟩ | _=>none
noncomputable def LQ(d:Data):Option {x:Array Od×Nat // d= .seq x.1 x.2}:=match d with | .seq x n=>some ⟨(x,n),rfl⟩ | _=>none
noncomputable def KC(d:Data):Option {x:Array Od // d= .fields x}:=match d with | .fields x=>some ⟨x,rfl⟩ | _=>none
noncomputable def zK(d:Data):Option {x:Ur // d= .func x}:=match d with | .func x=>some ⟨x,rfl⟩ | _=>none
noncomputable def Lf(d:Data):Option {x:ClassData // d= .cls x}:=match d with | .cls x=>some ⟨x,rfl⟩ | _=>none
noncomputable def zn(b:Uy):Option {x:List Stmt // b= .stmts x}:=match b with | .stmts x=>some ⟨x,rfl⟩ | _=>none
noncomputable def MG{α:Type}(l:List α):Option {x:α×α×α×α×α×α // l=[x.1,x.2.1,x.2.2.1,x.2.2.2.1,x.2.2.2.2.1,x.2.2.2.2.2]}:=match l with
 | [a,b,c,d,e,f]=>some ⟨(a,b,c,d,e,f),rfl⟩|_=>none
noncomputable def mJ(lk:Nat->Option Obj)(a:Addr)(name:MJ):Option Value:=(lk a).bind λo=>(Ef o.data).bind λd=>nsFind d.1.1 name
noncomputable def Kg(lk:Nat->Option Obj)(a:Addr):Bool:=(we (lk a)).any λo=>(Ef o.1.data).any λd=>d.1.1.all λe=>(GG e.key).isSome
theorem ng(G:j8 lk h)(x:Kg lk a=true):h.Ns a (mJ lk a):=
 az x λo x=>aP x λd e x=>by
  refine(hR o.1 d.1 d.2 (G _ _ o.2) e (λy hy=>?_) (λname=>?_))
  . exists bx (Po.mp (Array.all_eq_true_iff_forall_mem.mp x y hy)),z,hz
    exact gQ _ _ z.2
  . unfold mJ
    rw[o.2,Q4,show o.1.data= .dict d.1 d.2 from e];rfl
noncomputable def EN:List Ux->List Nat->Bool
 | [],cs=>cs.isEmpty|e::es,cs=>(kh cs).any λc=>(GG e.key).any (λs=>decide (s.1.1=ch c.1.1))&&EN es c.1.2
noncomputable def oM:List Ux->List Nat->Nat->Option Od
 | [],_,_=>none|e::es,cs,c=>(kh cs).bind λd=>bif Nat.beq d.1.1 c then some e.val else oM es d.1.2 c
theorem ui:∀{es:List Ux} {cs:List Nat},EN es cs=true->(∀e∈es,∃n t,e.key= .str n t)/\∀c,(es.find? λe=>e.key.isStr (ch c)).map (·.val)=oM es cs c
 | [],_,_=>⟨λX x=>absurd x MS,λX=>rfl⟩|e::es,_,h=>az h λc h=>aP (aa h) λs e1 e2=>by
   exists bj (ui (ae h)),h1,h2;have e3:e.key= .str (ch c.1.1) s.2:=e1.trans (congrArg (λz=>Value.str z s.2) (UD e2));refine⟨λx hx=>(MW.mp hx).elim (λz=>(gQ _ _ (z▸e3))) (h1 x),λn=>?_⟩;rw[c.2,oM,List.find?_cons,e3];show _=cond (Nat.beq c.1.1 n) _ _
   by_cases q:c.1.1=n
   . subst q
     rw[Nat.beq_refl,show Value.isStr (.str (ch c.1.1) s.2) (ch c.1.1)=true from beq_self_eq_true _];rfl
   . rw[show Nat.beq c.1.1 n=false from Ta.mpr λz=>q (RO z),show Value.isStr (.str (ch c.1.1) s.2) (ch n)=false from beq_eq_false_iff_ne.mpr λz=>q (lV z)]
     exact h2 n
noncomputable def KJ(lk:Nat->Option Obj)(a:Addr)(cs:List Nat)(f:List Ux->Bool):Bool:=(we (lk a)).any λo=>(Ef o.1.data).any λd=>EN d.1.1.toList cs&&f d.1.1.toList
theorem uP(G:j8 lk h)(x:KJ lk a cs f=true)(Kz:(∀es,h.Ns a (mJ lk a)->((∀c,mJ lk a (ch c)=oM es cs c))->f es=true->Gz)):Gz:=
 az x λo x=>aP x λd e x=>by
  exists bj (ui (aa x)),h1,h2;haveI hg:∀name,mJ lk a name=nsFind d.1 name:=λname=>by
   unfold mJ;rw[o.2,Q4,show o.1.data= .dict d.1 d.2 from e];rfl
  refine(Kz d.1.toList (hR o.1 d.1 d.2 (G _ _ o.2) e (λy hy=>h1 y (Array.mem_toList_iff.mpr hy)) (λname=>(hg name).symm)) (λc=>(hg _).trans ?_) (ae x));show(d.1.find? _).map _=_;rw[<-h2 c, <-Array.find?_toList]
noncomputable def DL(fa:Nat->Addr)(v:Od):PV->Bool
 | .none=>(HN v).isSome|.bool c=>(Lm v).any λb=>b.1==c|.int j=>(Me v).any λi=>decide (i.1.1=j)|.str n=>(GG v).any λs=>decide (s.1.1=ch n)&&decide ((gf n).length<=4000)|.fn i=>(Bn v).any λa=>a.1==fa i|_=>false
noncomputable def ze(fa:Nat->Addr):List Od->List PV->Bool
 | [],xs=>xs.isEmpty|v::vs,xs=>(kh xs).any λx=>DL fa v x.1.1&&ze fa vs x.1.2
noncomputable def CF(lk:Nat->Option Obj)(a:Addr)(f:List Od->Bool):Bool:=(we (lk a)).any λo=>(LQ o.1.data).any λd=>decide (o.1.cls= .type "tuple")&&f d.1.1.toList
noncomputable def yf(fa:Nat->Addr)(lk:Nat->Option Obj)(v:Od)(x:PV):Bool:=DL fa v x||(qo x).any λxs=>(Bn v).any λa=>CF lk a.1 λvs=>ze fa vs xs.1&&decide (xs.1.length<=8000)
noncomputable def y8(fa:Nat->Addr)(lk:Nat->Option Obj):List Od->List PV->Bool
 | [],xs=>xs.isEmpty|v::vs,xs=>(kh xs).any λx=>yf fa lk v x.1.1&&y8 fa lk vs x.1.2
section
variable{C:Cx}
theorem qc(e:DL C.fa v x=true):aB C V h v x:=by
 cases x with
 | none=>exists bx (Po.mp e),z,X;exact z.2▸ .none
 | bool=>exact az e λz e=>z.2▸beq_iff_eq.mp e▸ .bool _|int=>exact az e λz e=>z.2▸UD e▸ .int _ _|str n=>exact az e λz e=>z.2▸(show z.1.1=ch n from UD (aa e)).symm▸ .str n _ (UD (ae e))
 | fn i=>exact az e λz e=>z.2▸(show z.1=C.fa i from beq_iff_eq.mp e).symm▸ .fn i
 | _=>cases e
theorem j1:∀{vs:List Od} {xs:List PV},ze C.fa vs xs=true->aK C V h vs xs:=by
 intro vs
 induction vs with
 | nil=>
   intro _ e;exact NH.mp e▸ .nil
 | cons _ _ j1=>
   intro _ e;exact az e λx e=>x.2▸ .cons (qc (aa e)) (j1 (ae e))
theorem vy(G:j8 lk h)(e:CF lk a f=true):∃vs,h.IsTuple a (NX vs)/\f vs=true:=
 az e λo e=>aP e λd e1 e=>(aE d.1.toList (ki o.1 (G _ _ o.2) (UD (aa e)) d.2 e1) (ae e))
theorem pP(G:j8 lk h)(e:yf C.fa lk v x=true):aB C V h v x:=
 (NQ.mp e).elim qc λe=>az e λxs e=>az e λa e=>
   let ⟨_,ht,e⟩:=vy G e
   xs.2▸a.2▸ .tup ht (j1 (aa e)) (UD (ae e))
theorem kC(G:j8 lk h):∀{vs:List Od} {xs:List PV},y8 C.fa lk vs xs=true->aK C V h vs xs:=by
 intro vs
 induction vs with
 | nil=>
   intro _ e;exact NH.mp e▸ .nil
 | cons _ _ kC=>
   intro _ e;exact az e λx e=>x.2▸ .cons (pP G (aa e)) (kC (ae e))
end
noncomputable def rn(lk:Nat->Option Obj)(cd:Od)(q:MJ):Bool:=(Bn cd).any λc=>(we (lk c.1)).any λo=>(KC o.1.data).any λvs=>(we vs.1[1]?).any λx=>(GG x.1).any λs=>decide (s.1.1=q)
theorem kY(G:j8 lk h)(e:rn lk cd q=true):h.CodeRec cd q:=
 aP e λc e1 e=>aP e λo e2 e=>aP e λvs e3 e=>aP e λx e4 e=>aP e λs e5 e=>
  (eM c o vs s.2 (eK e1 (G _ _ e2) e3 (e4.trans (congrArg some (e5.trans (congrArg (λz=>Value.str z s.2) (UD e)))))))
noncomputable def Dr(ps:Uz)(ns:List MJ):Bool:=ps.posonlyargs.isEmpty&&ps.vararg.isNone&&ps.kwonlyargs.isEmpty&&ps.kwarg.isNone&&decide (ps.args.map (·.arg)=ns)&&decide ns.Nodup
theorem n9(e:Dr fd.params ns=true):hJ fd ns:=
 haveI e2:=aa (aa e)
 ⟨NH.mp (aa (aa (aa e2))),ae (aa (aa e2)),NH.mp (ae (aa e2)),ae e2,UD (ae (aa e)),UD (ae e)⟩
noncomputable def D6(lk:Nat->Option Obj)(fd:Ur):Bool:=
 rn lk fd.code fd.qualname&&fd.closure.isEmpty&&decide (fd.globals=Oi)&&decide (fd.builtins=Oj)&&decide (fd.scope.kind= .function)&& !fd.scope.isCoroutine&& !fd.scope.isGenerator
structure GR(h:Heap)(fd:Ur):Prop where
 code:h.CodeRec fd.code fd.qualname
 clo:fd.closure=[]
 glo:fd.globals=Oi
 bui:fd.builtins=Oj
 kind:fd.scope.kind= .function
 co:fd.scope.isCoroutine=false
 gen:fd.scope.isGenerator=false
theorem uH(G:j8 lk h)(e:D6 lk fd=true):GR h fd:=
 haveI e2:=aa (aa (aa e))
 ⟨kY G (aa (aa (aa e2))),NH.mp (ae (aa (aa e2))),UD (ae (aa e2)),UD (ae e2),UD (ae (aa (aa e))),dI (ae (aa e)),dI (ae e)⟩
noncomputable def Mt(lk:Nat->Option Obj)(fd:Ur)(f:List Od->Bool):Bool:=((HN fd.defaults).isSome&&f [])||((Bn fd.defaults).any λa=>(we (lk a.1)).any λo=>(LQ o.1.data).any λd=>fd.scope.names.all (λx=>decide (x.2≠ .cell))&&f d.1.1.toList)
theorem wo(G:j8 lk h)(e:Mt lk fd f=true)(Kz:(∀D,f D=true->(((D=[]/\fd.defaults= .none)\/((∃To oT n,fd.defaults= .ref To/\h.get? To=some oT/\oT.data= .seq (NX D) n)/\∀x∈fd.scope.names,x.2≠ .cell)))->Gz)):Gz:=
 (NQ.mp e).elim (λe=>let ⟨z,_⟩:=Po.mp (aa e);(Kz ([]) (ae e) (.inl ⟨rfl,z.2⟩))) λe=>
   aP e λa e1 e=>aP e λo e2 e=>aP e λd e3 e=>(Kz d.1.toList (ae e) (.inr ⟨(lZ a o d.2 e1 (G _ _ e2) e3),λx hx=>UD (M8.mp (aa e) x hx)⟩))
noncomputable def KP(k:Option OP):Bool:=decide (k=some .local)||decide (k=some .cell)
noncomputable def JC(TT:uE)(fn:Fn)(names:List MJ)(ps:Uz)(body:List Stmt)(sc:OO):Bool:=
 qs TT fn.body ⟨sc,names⟩ body&&decide (fn.arity<=names.length)&&decide names.Nodup&&decide (names.length=fn.slots)&&decide (sc.names.map (·.1)).Nodup&&sc.names.all (λx=>decide (x.2≠ .free))&&(names.take fn.arity).all (λn=>KP (sc.names.lookup n))&&
  decide (sc.kind= .function)&& !sc.isCoroutine&& !sc.isGenerator&&Dr ps (names.take fn.arity)
noncomputable def Mm(fa:Nat->Addr)(lk:Nat->Option Obj)(fn:Fn)(fd:Ur)(D:List Od):Bool:=rn lk fd.code fd.qualname&&fd.closure.isEmpty&&fd.globals==Oi&&fd.builtins==Oj&&y8 fa lk D fn.dflts&&decide (D.length<=fn.arity)
noncomputable def IJ(fa:Nat->Addr)(lk:Nat->Option Obj)(f:Nat)(fn:Fn):Bool:=(we (lk (fa f))).any λo=>(zK o.1.data).any λfd=>(zn fd.1.body).any λ_b=>Mt lk fd.1 λD=>Mm fa lk fn fd.1 D
noncomputable def oQ(lk:Nat->Option Obj)(a:Addr):Option (Uz×Uy×OO):=(lk a).bind λo=>(zK o.data).map λfd=>(fd.1.params,fd.1.body,fd.1.scope)
theorem xB(G:j8 lk C.h0)(e:IJ C.fa lk f fn=true)
 (hk:∀ps body sc,oQ lk (C.fa f)=some (ps, .stmts body,sc)->JC TT fn names ps body sc=true)  (Kz:∀o fd body D,Kl C TT f fn o fd body names D->Gz):Gz:=
 aP e λo e1 e=>aP e λfd e2 e=>aP e λbody e3 e=>by
  exists wo G e,D,e,hd;haveI e2:=e2;haveI s0:=hk fd.params body fd.scope (by unfold oQ;rw[e1,Q4,e2];exact congrArg (λz=>some (fd.params,z,fd.scope)) e3);haveI s1:=aa s0;haveI s2:=aa s1;haveI s3:=aa s2;haveI s4:=aa s3;haveI s5:=aa s4;haveI s6:=aa s5;haveI s7:=aa s6;haveI s8:=aa s7;haveI s9:=aa s8;haveI g1:=aa e;haveI g2:=aa g1;haveI g3:=aa g2;haveI g4:=aa g3;exact(Kz o fd body D ({obj:=G _ _ e1,data:=e2,code:=kY G (aa g4),bod:=e3,clo:=NH.mp (ae g4),glo:=beq_iff_eq.mp (ae g3),bui:=beq_iff_eq.mp (ae g2),kind:=UD (ae s3),co:=dI (ae s2),gen:=dI (ae s1),par:=n9 (ae s0),ar:=UD (ae s9),nd:=UD (ae s8),len:=UD (ae s7),ok:=aa s9,keys:=UD (ae s6),free:=λx hx=>UD (M8.mp (ae s5) x hx),pk:=λn hn=>(NQ.mp (M8.mp (ae s4) n hn)).imp UD UD,dv:=kC G (ae g1),dl:=UD (ae e),dd:=hd}))
noncomputable def JK(lk:Nat->Option Obj)(Cc:Addr)(bm:List Od)(ab:Bool)(newId:String)(f:Addr->Bool):Bool:=(we (lk Cc)).any λo=>(Lf o.1.data).any λcd=>(MG o.1.slots.toList).any λsl=>(we sl.1.2.2.2.2.1).any λv=>(Ms v.1).any λid=>
 decide (o.1.cls= .type "type")&&decide (cd.1.mro= .ref Cc::bm)&&cd.1.hasDict&&(!cd.1.abstract||ab)&& !cd.1.hasDel&&decide (id.1=newId)&&Kg lk cd.1.ns&&f cd.1.ns
theorem Fq(h1:o.data= .cls cd)(h2:o.slots.toList=[k0,k1,k2,k3,k4,k5])(h3:o.cls= .type "type")(h4:cd.mro= .ref Cc::bm)(h5:cd.hasDict=true)(h6:cd.hasDel=false)(h7:k4=some (.builtin newId)):
 o=CR.obj ⟨cd.name,cd.qualname,cd.bases,cd.slotNames,cd.subclasses,cd.collection,o.dict,k0,k1,k2,k3,k5⟩ Cc cd.ns bm newId cd.abstract:=by
 obtain⟨oc,od,odt,⟨osl⟩⟩:=o;obtain⟨dG,bs,mro,ns,q,hasDict,sn,sub,abs,col,hasDel⟩:=cd;dsimp only at h1 h2 h3 h4 h5 h6;subst h1 h2 h3 h4 h5 h6 h7;rfl
def Mb(lk:Nat->Option Obj)(h:Heap)(Cc N:Addr)(bm:List Od)(ab:Bool)(newId:String):Prop:=(∃(r:CR) (a:Bool),h.get? Cc=some (r.obj Cc N bm newId a)/\(ab=false->a=false))/\h.Ns N (mJ lk N)
theorem oz(G:j8 lk h)(e:JK lk Cc bm ab newId f=true)(Kz:∀N,Mb lk h Cc N bm ab newId->f N=true->Gz):Gz:=
 aP e λo e1 e=>aP e λcd e2 e=>aP e λsl e3 e=>aP e λv e4 e=>aP e λid e5 e=>by
  haveI g4:=aa (aa (aa e));haveI g6:=aa (aa g4);refine(Kz cd.ns (⟨(pK _ _ ((G _ _ e1).trans (congrArg some (Fq (show o.data= .cls cd from e2) (show o.slots.toList=_ from e3) (UD (aa (aa g6))) (UD (ae (aa g6))) (ae g6) (dI (ae g4)) (show sl.2.2.2.2.1=some (.builtin newId) from e4.trans (congrArg some (e5.trans (congrArg _ (UD (ae (aa (aa e))))))))))) (λha=>?_)),ng G (ae (aa e))⟩) (ae e));have:=ae (aa g4);erw[ha,RD] at this;exact dI this
noncomputable def yL(lk:Nat->Option Obj)(Cc fI:Addr):Bool:=JK lk Cc [.type "object"] false "object.__new__" λN=>(mJ lk N "__getattribute__").isNone&&(mJ lk N "__setattr__").isNone&&decide (mJ lk N "__init__"=some (.ref fI))&&cg.all (λa=>(mJ lk N (ch a)).isNone)
theorem nM(G:j8 lk C.h0)(e:yL lk (C.ca c) fI=true):zW C c fI:=by
 (refine oz G e λN t'1 e=>?_;exists bj t'1,t'2,hn;refine fx t'2 λcr a z'0=>bj z'0 λg ha=>?_)
 obtain rfl:=ha rfl;haveI g2:=aa (aa e);exact⟨N,_,⟨⟨_,_,_,_,_,_,_,_,_,_,_,_,g⟩,hn⟩,NK.mp (aa g2),NK.mp (ae g2),UD (ae (aa e)),λa ha=>NK.mp (M8.mp (ae e) a ha)⟩
noncomputable def HL(lk:Nat->Option Obj)(W:Addr)(f:Addr->Bool):Bool:=(we (lk W)).any λo=>(Lf o.1.data).any λcd=>Kg lk cd.1.ns&&f cd.1.ns
theorem tB(G:j8 lk h)(e:HL lk W f=true)(Kz:∀o:Obj,∀cd:ClassData,h.get? W=some {cls:=o.cls,dict:=o.dict,data:= .cls cd,slots:=o.slots}->h.Ns cd.ns (mJ lk cd.ns)->f cd.ns=true->Gz):Gz:=
 aP e λo e1 e=>aP e λcd e2 e=>(Kz o cd ((show Data.cls cd=o.data from e2.symm)▸G _ _ e1) (ng G (aa e)) (ae e))
noncomputable def Hz(lk:Nat->Option Obj)(fd:Ur)(body:List Stmt):Bool:=D6 lk fd&&qY body&&Dr fd.params ["self","why"]&&decide (fd.defaults= .none)&&fd.scope.names.all (λx=>decide (x.2≠ .cell))&&
 decide (fd.scope.names.lookup ("self":MJ)=some .local)&&decide (fd.scope.names.lookup ("why":MJ)=some .local)&&decide (fd.scope.names.lookup ("Exception":MJ)=some .globalImplicit)
noncomputable def HK(lk:Nat->Option Obj)(v:Option Od):Bool:=(we v).any λv=>(Bn v.1).any λfI=>(we (lk fI.1)).any λo=>(zK o.1.data).any λfd=>(zn fd.1.body).any λb=>decide (o.1.cls= .type "function")&&Hz lk fd.1 b.1
theorem ti(G:j8 lk h)(e:HK lk v=true)(Kz:∀fI oI fd body,v=some (.ref fI)->h.get? fI=some oI->oI.cls= .type "function"->oI.data= .func fd->fd.body= .stmts body->Hz lk fd body=true->Gz):Gz:=
 aP e λv e1 e=>aP e λfI e2 e=>aP e λo e3 e=>aP e λfd e4 e=>aP e λb e5 e=>(Kz fI o fd b (e1.trans (congrArg some e2)) (G _ _ e3) (UD (aa e)) e4 e5 (ae e))
noncomputable def Ab:List MJ:=["__setattr__","__getattribute__","__getattr__","why","at"]
noncomputable def KZ(lk:Nat->Option Obj)(mis W:Addr):Bool:=JK lk mis (.ref W::cJ) true "Exception.__new__" λN=>HL lk W λNw=>Ab.all (λn=>(mJ lk N n).isNone&&(mJ lk Nw n).isNone)&&(mJ lk N "__init__").isNone&&HK lk (mJ lk Nw "__init__")
noncomputable def Ht(lk:Nat->Option Obj):Bool:=Kg lk Oi&&Kg lk Oj&&Kg lk cStatics&&(mJ lk cStatics "sys.recursionlimit").isNone&&(lk Oe).isSome
theorem yZ(G:j8 lk C.h0)(b:Ht lk=true)(e:KZ lk C.mis W=true)(g1:mJ lk Oi "Misused"=some (.ref C.mis))(g2:mJ lk Oi "Exception"=none)(g3:mJ lk Oj "Exception"=some (.type "Exception")):xO C:=by
 haveI b3:=aa (aa b);refine⟨?_,⟨_,_,ng G (aa (aa b3)),ng G (ae (aa b3)),g1,g2,g3⟩,(aE _ (ng G (ae b3)) (NK.mp (ae (aa b))))⟩;clear b b3 g1 g2 g3
 (refine oz G e λN t'3 e=>?_;exists bj t'3,t'4,hn;refine fx t'4 λcr ab z'0=>bj z'0 λg X=>?_)
 exists tB G e,oW,cd,gW,hW,e;exists ti G (ae e),fI,oI,fd,body,hI,gI,hcl,hfd,hb,a;haveI hno:∀n∈Ab,mJ lk N n=none/\mJ lk cd.ns n=none:=λn hn=>
  haveI h:=M8.mp (aa (aa e)) n hn
  ⟨NK.mp (aa h),NK.mp (ae h)⟩
 haveI a5:=aa (aa (aa a));haveI a3:=aa (aa a5);haveI F:=uH G (aa (aa a3));exact⟨W,_,_,fI,oI,fd,body,⟨(iJ cr N ab g hn),oW,cd,gW,hW⟩,
  ⟨hno _ (.head _),hno _ (.tail _ (.head _)),hno _ (.tail _ (.tail _ (.head _))),hno _ (.tail _ (.tail _ (.tail _ (.head _)))),hno _ (.tail _ (.tail _ (.tail _ (.tail _ (.head _)))))⟩,NK.mp (ae (aa e)),hI,gI,hcl,hfd,F.code,hb,ae (aa a3),n9 (ae a3),UD (ae (aa a5)),F.clo,F.glo,F.bui,F.kind,F.co,F.gen,
  λx hx=>UD (M8.mp (ae a5) x hx),UD (ae (aa (aa a))),UD (ae (aa a)),UD (ae a)⟩
noncomputable def jr(i:Nat):Addr:=Ml.getD i 872
noncomputable def CA(c:Nat):Addr:=match c with | 0=>Mx.getD 0 0 | _=>Mx.getD 1 0
noncomputable def cx(prog:Ob)(w:Oc)(h:Heap):Cx:={prog:=prog,w:=w,h0:=h,fa:=jr,ca:=CA,mis:=F9}
noncomputable def Jc:List Nat:=[`len,`range,`bytes,`tuple,`dict,`Exception]
theorem DP:Jc.map ch=(["len","range","bytes","tuple","dict","Exception"]:List MJ):=by decide+kernel
noncomputable def Ja:Nat:=`Misused
theorem DX:ch Ja="Misused":=by decide+kernel
noncomputable def uy(v:Option Od)(a:Addr):Bool:=(we v).any λv=>(Bn v.1).any λb=>Nat.beq b.1 a
theorem zz(h:uy v a=true):v=some (.ref a):=aP h λv e1 h=>aP h λb e2 h=>e1.trans (congrArg some (e2.trans (congrArg _ (RO h))))
noncomputable def ME(lk:Nat->Option Obj)(es:List Ux):Bool:=
 (Pi 106).all (λi=>uy (oM es dU (qA.getD i 0)) (jr i))&&(Pi 2).all (λi=>uy (oM es dU (xj.getD i 0)) (CA i))&&
 (Pi 1).all (λi=>(we (oM es dU (n7.getD i 0))).any λv=>yf jr lk v.1 (P.glo i))&&Jc.all (λn=>(oM es dU n).isNone)&&uy (oM es dU Ja) F9
noncomputable def MA(lk:Nat->Option Obj):Bool:=
 decide (mJ lk Oj "len"=some (.builtin "len"))&&decide (mJ lk Oj "range"=some (.type "range"))&&decide (mJ lk Oj "bytes"=some (.type "bytes"))&&decide (mJ lk Oj "tuple"=some (.type "tuple"))&&
 decide (mJ lk Oj "dict"=some (.type "dict"))&&decide (mJ lk Oj "Exception"=some (.type "Exception"))
noncomputable def Eo(lk:Nat->Option Obj)(a:Addr):Bool:=(we (lk a)).any λo=>(zK o.1.data).any λX=>decide (o.1.cls= .type "function")
noncomputable def IG(lk:Nat->Option Obj):List Fn->Nat->Bool
 | [],_=>true|fn::l,i=>(Ra 1000 fn.arity||IJ jr lk i fn)&&IG lk l (i+1)
noncomputable def zG(lk:Nat->Option Obj):Bool:=Ht lk&&KZ lk F9 HE&&KJ lk Oi dU (ME lk)&&MA lk&&yL lk (CA 0) (jr (P.init 0))&&yL lk (CA 1) (jr (P.init 1))&&Ml.all (Eo lk)&&Eo lk 872&&IG lk P.fns 0
section
variable{prog:Ob}{w:Oc}{h:Heap}
theorem A1{n:Nat}{p:Nat->Bool}(e:(Pi n).all p=true){i:Nat}(hi:i<n):p i=true:=M8.mp e i (QP.mpr hi)
theorem qS:∀{l:List Fn} {i:Nat},IG lk l i=true->∀(j:Nat) (fn:Fn),l[j]? =some fn->fn.arity<1000->IJ jr lk (i+j) fn=true
 | g::l,i,h,0,fn,e,hf=>(NQ.mp (aa h)).elim (λz=>absurd (MU z) (Nat.not_le.mpr (MI e▸hf))) λz=>MI e▸z|g::l,i,h,j+1,fn,e,hf=>by
   haveI q:=qS (ae h) j fn e hf;rwa [PD] at q
structure lH(prog:Ob)(w:Oc)(h:Heap):Prop where
 glo:lW (cx prog w h) P TT
 fns:∀f fn,P.fns[f]? =some fn->fn.arity<1000->∃o fd body names D,Kl (cx prog w h) TT f fn o fd body names D
 mis:xO (cx prog w h)
theorem Ha{l:List Nat}{i n d:Nat}(e:l[i]? =some n):i<l.length/\l.getD i d=n:=by
 exists bx (M4.mp e),hi,q;exact⟨hi,by erw[NG,e];rfl⟩
theorem zZ(G:j8 lk h)(e:Eo lk a=true):∃o fd,h.get? a=some o/\o.data= .func fd/\o.cls= .type "function":=
 aP e λo e1 e=>aP e λfd e2 e=>(fM o fd (G _ _ e1) e2 (UD e))
theorem qX{l:List Nat}{i n d k:Nat}{p:Nat->Nat->Bool}(e:l[i]? =some n)(hk:l.length=k)(h:(Pi k).all (λi=>p i (l.getD i d))=true):p i n=true:=by
 exists bj (Ha (d:=d) e),hi,q;exact q▸A1 h (hk▸hi)
theorem AZ:qA.length=106:=by decide+kernel
theorem xm{lk:Nat->Option Obj}(G:j8 lk h)(e:zG lk=true)
 (K:∀f fn,P.fns[f]? =some fn->fn.arity<1000->∀ps body sc,oQ lk (jr f)=some (ps, .stmts body,sc)->JC TT fn ((slotNames.getD f []).map ch) ps body sc=true):lH prog w h:=by
 haveI e8:=aa e;haveI e7:=aa e8;haveI e6:=aa e7;haveI e5:=aa e6;haveI e4:=aa e5;haveI e3:=aa e4;haveI e2:=aa e3;exists uP G (ae e3),es,hns,hg,g;haveI b:=aa e2;haveI b1:=aa b;haveI b2:=aa b1;haveI g4:=aa g;haveI g3:=aa g4;haveI g2:=aa g3;haveI hab:∀n∈Jc.map ch,mJ lk Oi n=none:=λn hn=>by
  exists aA (Nd.mp hn),c,hc,rfl;exact(hg c).trans (NK.mp (M8.mp (ae g4) c hc))
 rw[DP] at hab;haveI l6:=ae e4;haveI l5:=aa l6;haveI l4:=aa l5;haveI l3:=aa l4;haveI l2:=aa l3;haveI hmis:mJ lk Oi "Misused"=some (.ref F9):=DX▸(hg Ja).trans (zz (ae g))
 haveI hgl:∀{i n:Nat},n7[i]? =some n->n7.length=1->∃v,mJ lk Oi (ch n)=some v/\aB (cx prog w h) [] h v (P.glo i):=λ{i n} e hl=>
  haveI q:((we (oM es dU n)).any λv=>yf jr lk v.1 (P.glo i))=true:=qX (p:=λi n=>(we (oM es dU n)).any λv=>yf jr lk v.1 (P.glo i)) e hl (ae g3)
  aP q λv hv r=>(aE v ((hg n).trans hv) (pP (C:=cx prog w h) G r))
 refine⟨⟨(aE _ (ng G (ae b2)) (NK.mp (ae (aa b)))),(Po.mp (ae b)).imp λX q=>G _ _ q,⟨_,hns,λi n e=>(hg n).trans (zz (qX (p:=λi n=>uy (oM es dU n) (jr i)) e AZ (aa g2))),λi n e=>(hg n).trans (zz (qX (p:=λi n=>uy (oM es dU n) (CA i)) e rfl (ae g2))),
  λi n e=>hgl e rfl,
  hab _ (.head _),hab _ (.tail _ (.head _)),hab _ (.tail _ (.tail _ (.head _))),hab _ (.tail _ (.tail _ (.tail _ (.head _)))),hab _ (.tail _ (.tail _ (.tail _ (.tail _ (.head _)))))⟩,
  (ny _ (bT (ng G (ae (aa b2))) (UD (aa l2)) (UD (ae l2)) (UD (ae l3)) (jw (UD (ae l4)) (UD (ae l5))))),λc=>?_,λi=>?_⟩,λf fn e' hf=>?_,?_⟩
 . match c with
   | 0=>exact nM (C:=cx prog w h) G (ae e5)|c+1=>exact nM (C:=cx prog w h) (c:=c+1) G (ae e6)
 . show∃o fd,h.get? (jr i)=some o/\_
   unfold jr;refine(NG)▸?_
   cases q:Ml[i]? with
   | none=>exact zZ G (ae e8)|some a=>exact zZ G (M8.mp (ae e7) a (M6 q))
 . haveI q:=qS (ae e) f fn e' hf
   rw[N7] at q;exists xB (C:=cx prog w h) G q (K f fn e' hf),o,fd,body,D,F;exact⟨o,fd,body,_,D,F⟩
 . exact yZ (C:=cx prog w h) (W:=HE) G b (ae e2) hmis (hab _ (.tail _ (.tail _ (.tail _ (.tail _ (.tail _ (.head _))))))) (UD (ae l6))
theorem qa(H:lH prog w h):∀d,d5 (cx prog w h) (ac P d) d:=
 pV H.glo H.fns (λX X=>oK H.mis) (λX ih=>uY H.glo ih H.mis)
end
end Internal
end
section
open PySem PySem.W PyProof.Rows
namespace Internal
noncomputable abbrev pw:Program:=PySem.Challenge.pw_pq1112_01
noncomputable def jS(stp:UA->Thread->Option (UA×Thread))(ok:Thread->Bool):Nat->UA->Thread->Option UA
 | 0,_,_=>none|n+1,s,t=>match through t with
   | true=>some s|false=>match ok t with
     | false=>none|true=>match stp s t with
       | some (s',t')=>jS stp ok n s' t'|none=>none
theorem o5:∀{n:Nat} {s s':UA} {t:Thread},jS (stepT (denote tb) p w) (stepOk n₀ ann) n s t=some s'->topRun tb p w n₀ ann n s.abs t=some s'.abs:=by
 intro n
 induction n with
 | zero=>
   intro _ _ _ h;cases h
 | succ n o5=>
   intro s s' t h;unfold jS at h;unfold topRun
   cases ht:through t with
   | true=>rw[ht] at h;cases h;rfl
   | false=>
     rw[ht] at h
     cases hk:stepOk n₀ ann t with
     | false=>rw[hk] at h;cases h
     | true=>
       rw[hk] at h
       cases hs:stepT (denote tb) p w s t with
       | none=>rw[hs] at h;cases h
       | some r=>obtain⟨s₂,t₂⟩:=r;rw[hs] at h;dsimp only at h ⊢;rw[stepT_spec hs];exact o5 h
theorem yy(w:Oc):stepT (denote UB) pw w=Rp (Rn Rl) pw w:=by
 rw[Fast.te10156331382660048174,Fast.te11892475500146522536,Fast.te14364793385576792824]
theorem Cq(n:Nat)(a:Option Od):stepOk n a=Ru n a:=by
 rw[Fast.te6613529449190102663]
noncomputable def zv(p q:Ob)(loose:List Str)(Xt:Og->Bool){α:Type}(Yf:Og->α)(H₀:Heap)(s:Og):=
 ((staticsOk (importedModules p.main.body) H₀ s.heap&&namesBound p s.heap&&gensDone s&&laidKept H₀ s.heap),openSeen q loose (importedModules p.main.body) Xt true s,Yf s)
theorem u4{T₀:Params->BT}{M:Nat}{H₀:Params->Heap}
 (open_:∀w:Oc,(fencedOpening UB p w N).map (λs=>(s.heap,s.gens,s.drawn,s.toks))=some (H₀ w.params,gs₀,d₀,k₀))
 (abs:∀P,absHeap (T₀ P) n0 life=H₀ P)
 (size:∀w:Oc,((H₀ w.params).isNs Oi&&gs₀.size==0,(H₀ w.params).objs.size,(H₀ w.params).nsMap Oi "__annotations__")=(true,n0,ann))
 (run:∀(w:Oc) (os:Uu),(jS (stepT (denote UB) p w) (stepOk n0 ann) M ⟨T₀ w.params,n0,life,gs₀,d₀,k₀,os⟩ (topStub p)).map (λs=>zv p q loose Xt (λX=>()) (H₀ w.params) s.abs)=some (true,openGood q loose,()))
 (run2:∀(w:Oc) (os:Uu),(jS (stepT (denote UB) p w) (stepOk n0 ann) M ⟨T₀ w.params,n0,life,gs₀,d₀,k₀,os⟩ (topStub p)).map Yt=some yt)
 (hYq0:∀s:UA,Yt s=yt->Yp s.abs)
 (le:Ra M N=true):LeftO p q loose Xt Yp (λX=>True) N:=λw=>by
 exists cps,Gz,Kz
 (refine aA (NW.mp (open_ w)) λt'1 e e'=>?_;obtain⟨h,gs,d,k,os⟩:=t'1)
 obtain⟨rfl,rfl,rfl,rfl⟩:h=H₀ w.params/\gs=gs₀/\d=d₀/\k=k₀:=by simpa using e'
 obtain⟨z1,z2,z3⟩:_/\_/\_:=by simpa only[QN] using size w
 exists aA (NW.mp (run w os)),s',r,l;obtain⟨l1,l2,_⟩:_/\_/\_:=by simpa only[zv,QN] using l
 haveI r2:Yt s'=yt:=by
  haveI q:=run2 w os;rw[r] at q;exact MI q
 haveI r:=topRun_mono (N - M) _ _ _ _ (o5 r);rw[show M+(N - M)=N by have:=MU le;lia] at r;haveI e0:(⟨T₀ w.params,n0,life,gs,d,k,os⟩:UA).abs=⟨H₀ w.params,gs,d,k,os⟩:=by
  show(⟨absHeap (T₀ w.params) n0 life,gs,d,k,os⟩:Og)=_
  rw[abs]
 rw[e0] at r;haveI t:topFrom UB p w N ⟨H₀ w.params,gs,d,k,os⟩=some s'.abs:=by
  unfold topFrom;dsimp only;rw[z1,z2,z3,r];show(match staticsOk (importedModules p.main.body) (H₀ w.params) s'.abs.heap&&namesBound p s'.abs.heap&&gensDone s'.abs&&laidKept (H₀ w.params) s'.abs.heap with | true=>_ | false=>_)=_;rw[l1]
 refine Kz ?_;unfold openEnds;rw[e];show(topFrom UB p w N _).map _=_;rw[t];exact congrArg some (SI l2 (propext ⟨λX=>True.intro,λX=>hYq0 s' r2⟩))
noncomputable def DD:List Obj->Nat->BT->BT
 | [],_,t=>t|o::l,i,t=>DD l (i+1) (t.ins i o)
noncomputable def rV(P:Params):BT:=DD (UC P).objs.toList 0 .nil
theorem FV:∀w:Oc,(fencedOpening UB pw w 10300).map (λs=>(s.heap,s.gens,s.drawn,s.toks))=some (UC w.params,SC [],boot_drawn,boot_toks):=
 boot_open (p:=pw) (N:=10300) (%[|2]) rfl (λs=>%[|2])
section
noncomputable def pq:Program:=view pw [122]
noncomputable def Le:List MJ:=(pw.main.scope.names.map (·.1)).filter λn=>n != ("law":MJ)&&n != ("__name__":MJ)
theorem Ib(P:Params):absHeap (rV P) 11 {}=UC P:=%[|2]
theorem GF:∀w:Oc,((UC w.params).isNs Oi&&(SC []:Array Ut).size==0,(UC w.params).objs.size,(UC w.params).nsMap Oi "__annotations__")=(true,11,some (.ref 6)):=λw=>%[|2]
noncomputable def Dl(s:UA)(a:Nat):Option Obj:=match PR a s.n with
 | true=>(match s.tree.get a with | some o=>alive o | none=>none)
 | false=>none
set_option tactic.hygienic true in
theorem BC(s:UA):j8 (Dl s) s.abs.heap:=λa o e=>by
 unfold Dl at e;split at e
 case h_2=>cases e
 rename_i hb;split at e
 case h_2=>cases e
 rename_i o' g;rw[show s.abs.heap=absHeap s.tree s.n s.life from rfl,abs_get (Nat.ble_eq.mp hb) g];exact e
noncomputable def Ma(s:Stmt):Option (Uz×Uy×OO):=if h:s.ctorIdx=0 then PySem.Stmt.FunctionDef.elim (motive_2:=λX=>Option (Uz×Uy×OO)) s h (λX ps body X X X sc X X X=>some (ps, .stmts body,sc)) else none
noncomputable def Go(s:Stmt):List Stmt:=if h:s.ctorIdx=2 then PySem.Stmt.ClassDef.elim (motive_2:=λX=>List Stmt) s h (λX X X body X X X X X X X=>body) else[]
noncomputable def LW(k j:Nat):Option Stmt:=match j with
 | 0=>pw.main.body[k]?|j+1=>pw.main.body[k]?.bind λs=>(Go s)[j]?
noncomputable def zR(i:Nat):Option (Uz×Uy×OO):=(LW (HX.getD i (0,0)).1 (HX.getD i (0,0)).2).bind Ma
noncomputable def zY(i:Nat):Bool:=P.fns[i]?.any λfn=>Ra 1000 fn.arity||(we (zR i)).any λz=>(zn z.1.2.1).any λb=>JC TT fn ((slotNames.getD i []).map ch) z.1.1 b.1 z.1.2.2
noncomputable def a9(i k:Nat):Bool:=(Pl i k).all zY
theorem KM:a9 0 4=true:=%[|2]
theorem KA:a9 4 4=true:=%[|2]
theorem K5:a9 8 4=true:=%[|2]
theorem KX:a9 12 4=true:=%[|2]
theorem Ls:a9 16 4=true:=%[|2]
theorem K9:a9 20 4=true:=%[|2]
theorem Lc:a9 24 4=true:=%[|2]
theorem LK:a9 28 4=true:=%[|2]
theorem Kv:a9 32 4=true:=%[|2]
theorem K0:a9 36 4=true:=%[|2]
theorem Ii:a9 40 4=true:=%[|2]
theorem Iz:a9 44 4=true:=%[|2]
theorem Iu:a9 48 4=true:=%[|2]
theorem JW:a9 52 4=true:=%[|2]
theorem J3:a9 56 4=true:=%[|2]
theorem IL:a9 60 4=true:=%[|2]
theorem Ip:a9 64 4=true:=%[|2]
theorem Ia:a9 68 4=true:=%[|2]
theorem I6:a9 72 4=true:=%[|2]
theorem H5:a9 76 4=true:=%[|2]
theorem JJ:a9 80 4=true:=%[|2]
theorem H7:a9 84 4=true:=%[|2]
theorem IR:a9 88 4=true:=%[|2]
theorem I4:a9 92 4=true:=%[|2]
theorem IX:a9 96 4=true:=%[|2]
theorem J4:a9 100 4=true:=%[|2]
theorem I7:a9 104 4=true:=%[|2]
theorem Jq:a9 108 3=true:=%[|2]
theorem zD(h:a9 i k=true)(h1:i<=j)(h2:j<i+k):zY j=true:=M8.mp h j (by rw[List.mem_range'_1];exact⟨h1,h2⟩)
theorem Hh:∀q,q<27->a9 (4*q) 4=true
 | 0,_=>KM|1,_=>KA|2,_=>K5|3,_=>KX|4,_=>Ls|5,_=>K9|6,_=>Lc|7,_=>LK|8,_=>Kv|9,_=>K0|10,_=>Ii|11,_=>Iz|12,_=>Iu|13,_=>JW|14,_=>J3|15,_=>IL|16,_=>Ip|17,_=>Ia|18,_=>I6|19,_=>H5|20,_=>JJ|21,_=>H7|22,_=>IR|23,_=>I4|24,_=>IX|25,_=>J4|26,_=>I7|_+27,h=>absurd h %[|0]
theorem JL(h:j<111):zY j=true:=by
 by_cases h2:j<108
 . exact zD (Hh (j / 4) %[|0]) %[|0] %[|0]
 . exact zD Jq %[|0] %[|0]
noncomputable def Jf:List Nat:=(Pi 111).filter λi=>P.fns[i]?.any λfn=>PR fn.arity 1000
theorem GT:P.fns.length=111:=by decide+kernel
theorem GS(G:j8 lk h)(e:zG lk=true)(b:Jf.map (λi=>oQ lk (jr i))=Jf.map zR):lH prog w h:=by
 exists xm G e,f,fn,hf,ha,ps,body,sc,hb;haveI hl:f<111:=GT▸(M4.mp hf).1;haveI hm:f∈Jf:=QD.mpr ⟨QP.mpr hl,by rw[hf];exact Nat.ble_eq_true_of_le ha⟩;haveI q:=JL hl;unfold zY at q;rw[hf] at q;haveI q2:=(NQ.mp q).elim (λz=>absurd (MU z) (Nat.not_le.mpr ha)) id;haveI b1:=List.map_inj_left.mp b f hm;rw[hb] at b1;exact aP q2 λz e1 q2=>aP q2 λy e2 q2=>by
  obtain rfl:=MI (b1.trans e1);obtain rfl:=FuncBody.stmts.inj e2;exact q2
noncomputable def G4(s:UA):Bool×List (Option (Uz×Uy×OO)):=(zG (Dl s),Jf.map λi=>oQ (Dl s) (jr i))
noncomputable abbrev JY(w:Oc)(os:Uu):Option SharedT:=jS (Rp (Rn Rl) pw w) (Ru 11 (some (.ref 6))) 10300 ⟨rV w.params,11,{},SC [],boot_drawn,boot_toks,os⟩ (topStub pw)
end
theorem FN:∀(w:Oc) (os:Uu),(JY w os).map (λs=>zv pw pq Le (λs=>xlAt pq [] s&&recOk Pn.row.records s) (λX=>()) (UC w.params) s.abs)=some (true,openGood pq Le,()):=λw os=>%[|2]
theorem GZ:∀(w:Oc) (os:Uu),(JY w os).map G4=some (true,Jf.map zR):=λw os=>%[|2]
end Internal
end
section
namespace Internal
variable{Gz:Prop}
def Ys(Y:aR):It->List PV->Prop
 | it,[]=>dg it Y= .ok none Y|it,x::xs=>∃it',dg it Y= .ok (some (x,it')) Y/\Ys Y it' xs
theorem zl:∀{xs:List PV},Ys Y (.tup xs) xs:=by
 intro xs
 induction xs with
 | nil=>
   exact rfl
 | cons _ _ zl=>
   exact aE _ rfl zl
theorem nk(h:Y[n]? =some (.list all)):∀{xs:List PV} {i:Nat},all.drop i=xs->Ys Y (.lst n i) xs:=by
 intro xs
 induction xs with
 | nil=>
   intro i e;exact mY h (by rw[Nt];exact Pp.mp e)
 | cons x xs nk=>
   intro i e;exact aE (.lst n (i+1)) (pH h (by rw[<-Ps,e];rfl)) (nk (by rw[<-PB,e];rfl))
theorem mS:∀{k i:Nat},i+k=n->Ys Y (.rng i n) ((Pl i k).map λj=> .int (j:Nat)):=by
 intro k
 induction k with
 | zero=>
   intro i e;show(if i<n then _ else _:M _) Y=_;rw[if_neg %[|0]];rfl
 | succ k mS=>
   intro i e
   exact(aE (.rng (i+1) n) (by
   show(if i<n then _ else _:M _) Y=_
   rw[if_pos %[|0]];rfl) (mS %[|0]))
theorem kO{cond:PV->M Bool}:∀{xs:List PV} {it:It},Ys Y it xs->∀(f:Nat) (acc:List PV),xs.length<f->acc.length+xs.length<4000->
 (∀x∈xs,cond x Y= .ok (c x) Y/\(c x=true->elt x Y= .ok (g x) Y))->jG elt cond f it acc Y= .ok (acc++(xs.filter c).map g) Y:=by
 intro xs
 induction xs with
 | nil=>
   intro it y f acc hf _ _;exists bx (MP (Nv hf)),f,rfl;unfold jG;erw[ag y,Rk,PL,M3];rfl
 | cons x xs kO=>
   rintro it ⟨it',y,ys⟩ f acc hf hl h;exists bx (MP (show f≠0 by lia)),f,rfl;exists bj (h x (.head _)),hc,he;erw[M0] at hf hl;unfold jG;rw[ag y];dsimp only;rw[ag hc]
   cases hcx:c x with
   | false=>
     rw[Pc (by refine hcx▸?_;decide)];exact kO ys f acc %[|0] %[|0] λx hx=>h x (.tail _ hx)
   | true=>
     rw[Px hcx];dsimp only;rw[ag (he hcx),if_pos (eW %[|0]),kO ys f (acc++[g x]) %[|0] (by rw[MH];exact(by show acc.length+1+xs.length<4000;lia)) λx hx=>h x (.tail _ hx),MR];rfl
section
variable{call:db}{glo:Nat->PV}{init:Nat->Nat}{r:UG}{Y s:aR}
theorem kP{isR:Bool}(g:PV->PV)(h1:af call glo init src r Y= .ok v s)(h2:pc isR v s= .ok (it,n) s)(hn:xs.length=n)(y:Ys s it xs)(hl:xs.length<4000)
 (h:∀x∈xs,af call glo init elt (some x::r) s= .ok (g x) s):af call glo init (.comp elt isR src none) r Y= .ok (.ref s.length) (s++[.list (xs.map g)]):=by
 subst hn;show((af call glo init src r).bnd λv=>(pc isR v).bnd λp=>(jG (λx=>tA (af call glo init elt (some x::r))) (λx=>tA (wg call glo init none (some x::r))) (p.2+1) p.1 []).bnd λxs=>dB (.list xs)) Y=_;rw[ag h1,ag h2,ag (kO (cond:=λx=>tA (wg call glo init none (some x::r))) (g:=g) (c:=λX=>true) y _ [] (NU _) (by erw[NN];lia) λx hx=>⟨rfl,λX=>yO (h x hx)⟩),List.filter_eq_self.mpr λX X=>rfl];rfl
theorem zS{isR:Bool}(g:PV->PV)(p:PV->Bool)(h1:af call glo init src r Y= .ok v s)(h2:pc isR v s= .ok (it,n) s)(hn:xs.length=n)(y:Ys s it xs)(hl:xs.length<4000)
 (h:∀x∈xs,af call glo init c (some x::r) s= .ok (.bool (p x)) s/\af call glo init elt (some x::r) s= .ok (g x) s):af call glo init (.comp elt isR src (some c)) r Y= .ok (.ref s.length) (s++[.list ((xs.filter p).map g)]):=by
 subst hn;show((af call glo init src r).bnd λv=>(pc isR v).bnd λq=>(jG (λx=>tA (af call glo init elt (some x::r))) (λx=>tA (jf call glo init c (some x::r))) (q.2+1) q.1 []).bnd λxs=>dB (.list xs)) Y=_;rw[ag h1,ag h2,ag (kO (g:=g) (c:=p) y _ [] (NU _) (by erw[NN];lia) λx hx=>⟨yO (El (h x hx).1),λX=>yO (h x hx).2⟩)];rfl
theorem ke{n:Nat}(h:n<4000):pc true (.int n) Y= .ok (.rng 0 n,n) Y:=by
 show((uC (.int n)).bnd _) Y=_
 rw[ag (show uC (.int n) Y= .ok n Y by
  show(if decide ((0:Int)<=n)&&decide ((n:Int)<4000) then ret (Int.toNat n) else fX:M Nat) Y=_
  rw[if_pos (by rw[UE (M9 n),UE %[|0]];rfl)];rfl)]
 rfl
end
section
variable{Y:aR}
theorem iK{a b:Nat}:bS .add (.int a) (.int b) Y= .ok (.int ((a+b:Nat):Int)) Y:=rfl
theorem d6{a b:Nat}(h:b<=a):bS .sub (.int a) (.int b) Y= .ok (.int ((a - b:Nat):Int)) Y:=by
 show iR.ok (TF ((a:Int) - b)) Y=_
 rw[<-RE h]
theorem qZ{a:Nat}(h:a<2^400):small a=true:=by
 exact UE h
theorem gp{a b:Nat}(ha:a<2^400)(hb:b<2^400):bS .mul (.int a) (.int b) Y= .ok (.int ((a*b:Nat):Int)) Y:=by
 show aZ ((if small a&&small b then some ((a:Int)*b) else none:Option Int).map TF) Y=_
 erw[qZ ha,qZ hb];rfl
theorem rS{b:Nat}(h0:0<b)(h:b<2^400):(decide (0<(b:Int))&&decide ((b:Int)<2^400))=true:=by
 erw[UE (show(0:Int)<b by lia),UE (show(b:Int)<2^400 by exact_mod_cast h)];rfl
theorem pu{a b:Nat}(h0:0<b)(h:b<2^400):bS .fdiv (.int a) (.int b) Y= .ok (.int ((a / b:Nat):Int)) Y:=by
 show aZ ((if decide (0<(b:Int))&&decide ((b:Int)<2^400) then some ((a:Int).fdiv b) else none:Option Int).map TF) Y=_
 erw[rS h0 h,if_pos rfl,Rx _ (M9 b)];rfl
theorem mC{a b:Nat}(h0:0<b)(h:b<2^400):bS .mod (.int a) (.int b) Y= .ok (.int ((a % b:Nat):Int)) Y:=by
 show aZ ((if decide (0<(b:Int))&&decide ((b:Int)<2^400) then some ((a:Int).fmod b) else none:Option Int).map TF) Y=_
 erw[rS h0 h,if_pos rfl,Int.fmod_eq_emod_of_nonneg _ (M9 b)];rfl
theorem xo{a b:Nat}(hb:b<=1000)(ha:a<2^64):bS .pow (.int a) (.int b) Y= .ok (.int ((a^b:Nat):Int)) Y:=by
 show aZ ((if decide ((0:Int)<=b)&&decide ((b:Int)<=1000)&&decide ((a:Int).natAbs<2^64) then some ((a:Int)^(b:Int).toNat) else none:Option Int).map TF) Y=_
 erw[UE (M9 b),UE (show(b:Int)<=1000 by lia),UE (show(a:Int).natAbs<2^64 from ha)];show iR.ok (TF ((a:Int)^b)) Y=_;erw[Rt]
theorem ja{a b:Nat}(hb:b<=1000)(ha:a<2^400):bS .shl (.int a) (.int b) Y= .ok (.int ((a*2^b:Nat):Int)) Y:=by
 show aZ ((if decide ((0:Int)<=b)&&decide ((b:Int)<=1000)&&small a then some ((a:Int)*2^(b:Int).toNat) else none:Option Int).map TF) Y=_
 erw[UE (M9 b),UE (show(b:Int)<=1000 by lia),qZ ha];erw[Int.natCast_mul,Rt];rfl
theorem zE{a b:Nat}:bS .shr (.int a) (.int b) Y= .ok (.int ((a / 2^b:Nat):Int)) Y:=by
 show aZ ((if decide ((0:Int)<=b) then some ((a:Int).fdiv (2^(b:Int).toNat)) else none:Option Int).map TF) Y=_
 rw[UE (M9 b)];show iR.ok (TF ((a:Int).fdiv (2^b))) Y=_;have e2:((2:Int)^b)=((2^b:Nat):Int):=by erw[Rt];rfl
 erw[e2,Rx _ (M9 _)];rfl
theorem zj{a b:Nat}:bS .band (.int a) (.int b) Y= .ok (.int ((a&&& b:Nat):Int)) Y:=by
 show aZ ((if decide ((0:Int)<=a)&&decide ((0:Int)<=b) then some ((((a:Int).toNat&&& (b:Int).toNat:Nat)):Int) else none:Option Int).map TF) Y=_
 erw[UE (M9 a),UE (M9 b)];rfl
theorem Km{a b:Nat}(h:a&&& b=0):bS .bor (.int a) (.int b) Y= .ok (.int ((a+b:Nat):Int)) Y:=by
 show aZ ((if decide ((0:Int)<=a)&&decide ((0:Int)<=b) then some ((a:Int)+b - (((a:Int).toNat&&& (b:Int).toNat:Nat):Int)) else none:Option Int).map TF) Y=_
 erw[UE (M9 a),UE (M9 b)];show iR.ok (TF ((a:Int)+b - ((a&&& b:Nat):Int))) Y=_;rw[h];show iR.ok (TF ((a:Int)+b - 0)) Y=_;rw[RY];rfl
theorem nZ(h:decide (a<b)=t):b8 .lt (.int a) (.int b) Y= .ok (.bool t) Y:=by subst h;rfl
theorem iS(h:decide (b<a)=t):b8 .gt (.int a) (.int b) Y= .ok (.bool t) Y:=by subst h;rfl
theorem fT(h:decide (a=b)=t):b8 .eq (.int a) (.int b) Y= .ok (.bool t) Y:=by subst h;rfl
theorem pT(h:decide (a≠b)=t):b8 .ne (.int a) (.int b) Y= .ok (.bool t) Y:=by
 subst h;show iR.ok (TL (!decide (a=b))) Y=_;rw[<-decide_not]
theorem cH(h:decide (a=b)=t):b8 .eq (.str a) (.str b) Y= .ok (.bool t) Y:=by subst h;rfl
end
theorem v7:∀{l:List Nat},(∀x∈l,x<256)->BE (l.map λx=> .int (x:Nat))=some l:=by
 intro l
 induction l with
 | nil=>
   intro _;exact rfl
 | cons x l v7=>
   intro h;show(if decide ((0:Int)<=(x:Nat))&&decide (((x:Nat):Int)<256) then(BE (l.map λx=> .int (x:Nat))).map (x:: ·) else none)=_;rw[if_pos (jC (UE (M9 x)) (UE (show((x:Nat):Int)<256 from Qi.mpr (h x (.head _))))),v7 λy hy=>h y (.tail _ hy)];rfl
theorem lq(h:Y[n]? =some (.list (l.map λx=> .int (x:Nat))))(hl:∀x∈l,x<256):mkBytes (.ref n) Y= .ok (.bytes l) Y:=by
 show((cO n).bnd _) Y=_
 rw[ag (a8 h)];show aZ ((BE _).map PV.bytes) Y=_;refine(v7 hl)▸?_;rfl
theorem aM{o:aC}:(Y++[o])[Y.length]? =some o:=by
 rw[Nh (MZ _),Pk];rfl
noncomputable def aX(n m:Nat):List Nat:=(Pi m).map λk=>n / 256^(m - 1 - k) % 256
noncomputable def bH(l:List Nat):Nat:=l.foldl (λa c=>a*256+c) 0
theorem nY:∀x∈aX n m,x<256:=λx hx=>by
 exists aA (Nd.mp hx),k,X,rfl;exact QM _ %[|0]
theorem jH:(aX n m).length=m:=by unfold aX;erw[MN,Q5]
theorem AE:aX n (m+1)=aX (n / 256) m++[n % 256]:=by
 unfold aX;erw[List.range_succ,Nm]
 congr 1
 . exists Qb,k,hk
   have hk:=QP.mp hk;erw[show m+1 - 1 - k=(m - 1 - k)+1 by lia,RN,P5,Nat.div_div_eq_div_mul]
 . erw[Nl,show m+1 - 1 - m=0 by lia,Nat.pow_zero,Nat.div_one];rfl
theorem o7:bH (l++[c])=bH l*256+c:=by unfold bH;erw[Pt];rfl
theorem pt:∀{m n:Nat},n<256^m->bH (aX n m)=n:=by
 intro m
 induction m with
 | zero=>
   intro n h;obtain rfl:n=0:=by simpa using h
   rfl
 | succ m pt=>
   intro n h;rw[AE,o7,pt (by erw[RN] at h;lia)];lia
theorem qB:∀{k:Nat} {l:List Nat},l.length=k->(∀x∈l,x<256)->bH l<256^k:=by
 intro k
 induction k with
 | zero=>
   intro l hk _;obtain rfl:=NJ.mp hk;decide
 | succ k qB=>
   intro l hk h;have hne:l≠[]:=λe=>by rw[e] at hk;exists _
   rw[<-List.dropLast_concat_getLast hne,o7];have h1:=h _ (List.getLast_mem hne);have h2:=qB (l:=l.dropLast) (by refine List.length_dropLast▸?_;lia) (λx hx=>h x (List.dropLast_subset _ hx));erw[RN];lia
theorem zg(h:b<256):a*2^8&&& b=0:=by
 apply Nat.eq_of_testBit_eq;intro i;erw[Nat.testBit_and,Nat.zero_testBit]
 by_cases hi:i<8
 . erw[Nat.testBit_mul_two_pow,UF (show¬8<=i by lia)];rfl
 . erw[Nat.testBit_lt_two_pow (x:=b) (MQ h (by have:=QO (n:=2) %[|0] (show 8<=i by lia);exact this)),Bool.and_false]
theorem Jy:a&&& 255=a % 256:=Re a 8
theorem AD:2^(8*k)=256^k:=by rw[Nat.pow_mul]
theorem zw(h:k<=40):256^k<2^400:=by
 refine AD▸?_;exact Pq %[|0] %[|0]
section
variable{d:Nat}{Y:aR}
theorem tx{n m:Nat}(hn:n<256^m)(hm:m<=40)(Kz:∀o,ac P (d+1) 20 [.int n, .int m] Y= .ok (.bytes (aX n m)) (Y++[o])->Gz):Gz:=by
 refine Kz _ (aG 20 [.int ↑n, .int ↑m] Y [] (nZ (UF %[|0])) (gp (a:=8) (b:=m) %[|1] %[|0]) (zE (a:=n) (b:=8*m)) (pT (UF λq=>q ?_)) (kP (n:=m) (xs:=(Pl 0 m).map λj=> .int (j:Nat)) (λx=>match x with | .int j=> .int ((n / 256^(m - 1 - j.toNat) % 256:Nat):Int) | _=> .none) rfl (ke %[|0]) (by erw[MN,Nx]) (mS %[|0]) (by erw[MN,Nx];lia) λx hx=>?_) (lq (l:=aX n m) ?_ nY))
 . erw[AD,Nat.div_eq_of_lt hn];rfl
 . exists aA (Nd.mp hx),j,hj,rfl
   have hj:j<m:=by simpa using hj
   refine dn λw=>w (d6 (a:=m) (b:=1) %[|0]) (d6 (a:=m - 1) (b:=j) %[|0]) (gp (a:=8) (b:=m - 1 - j) %[|1] %[|0]) (zE (a:=n) (b:=8*(m - 1 - j))) ?_;rw[AD];show bS .band _ (.int ((255:Nat):Int)) Y=_;rw[zj,Jy];rfl
 . rw[aM]
   unfold aX;rw[RQ,NL,NL];rfl
theorem jo{l0:List Nat}:∀{l done:List Nat} {z:Option PV} {f:Nat},done.length+l.length<=40->(∀x∈done++l,x<256)->l.length<f->
 (∀z',(fW (.one 2) (λr=>ax (ac P d) P.glo P.init [TA 1 (Tw .bor (Tw .shl (Tr 1) (Ts 8)) (Tr 2))] r) f (.tup (l.map λc=> .int (c:Nat))) %[.bytes l0,.int (bH done)|[z]] Y= .ok (.nxt,%[.bytes l0,.int (bH (done++l))|[z']]) Y)->Gz)->Gz:=by
 intro l
 induction l with
 | nil=>
   intro done z f _ _ hf Kz;exists bx (MP (Nv hf)),f,rfl;exact Kz z (by rw[M3];exact gz rfl)
 | cons c l jo=>
   intro done z f h1 h2 hf Kz;erw[M0] at h1 hf;exists bx (MP (show f≠0 by lia)),f,rfl;exists jo (done:=done++[c]) (z:=some (.int c)) (f:=f) (by rw[MH];show done.length+1+l.length<=40;lia) (by rwa [MR]) %[|0],z',k;rw[MR] at k;have hd:=qB (l:=done) rfl λx hx=>h2 x (RT _ hx);have hp:=zw (k:=done.length) %[|0];refine Kz z' (iU rfl rfl (cE [TA 1 (Tw Op.bor (Tw Op.shl (Tr 1) (Ts 8)) (Tr 2))] %[.bytes l0,.int ↑(bH done),.int ↑c|0] Y [] (ja (b:=8) %[|0] %[|0]) (Km (zg (h2 c (by simp))))) rfl ?_);rw[show bH done*2^8+c=bH (done++[c]) from o7.symm];exact k
theorem pN(hl:l.length<=40)(h:∀x∈l,x<256):ac P (d+1) 19 [.bytes l] Y= .ok (.int (bH l)) Y:=by
 exists jo (d:=d) (Y:=Y) (l0:=l) (l:=l) (done:=[]) (z:=none) (f:=l.length+1) (by erw[NN];lia) h %[|0],z',k;exact aG 19 [.bytes l] Y [] rfl k
end
noncomputable def bZ(o:Nat)(l:List Nat):List Nat:=if o=`little then l.reverse else l
noncomputable def f5(od ho:Nat):Nat:=if od=`host then ho else od
theorem G8(h:∀x∈l,x<256):∀x∈bZ o l,x<256:=λx hx=>by
 unfold bZ at hx;split at hx
 . exact h x (P6.mp hx)
 . exact h x hx
theorem wN:(bZ o l).length=l.length:=by
 unfold bZ;split
 . exact Pw
 . rfl
theorem AG:bZ o (bZ o l)=l:=by
 unfold bZ;split
 . exact List.reverse_reverse l
 . rfl
section
variable{d:Nat}{Y:aR}
theorem qL(h0:0<l.length)(hl:l.length<=40)(h:∀x∈l,x<256)(Kz:∀o,ac P (d+1) 21 [.bytes l] Y= .ok (.bytes l.reverse) (Y++[o])->Gz):Gz:=by
 refine Kz _ (aG 21 [.bytes l] Y [] rfl (d6 (a:=l.length) (b:=1) h0) (kP (n:=l.length) (xs:=(Pl 0 l.length).map λj=> .int (j:Nat)) (λx=>match x with | .int j=> .int ((l.getD (l.length - 1 - j.toNat) 0:Nat):Int) | _=> .none) (v:= .int l.length) (fA (av rfl) bX ?_) (ke %[|0]) (by erw[MN,Nx]) (mS %[|0]) (by erw[MN,Nx];lia) λx hx=>?_) (lq (l:=l.reverse) ?_ λx hx=>h x (P6.mp hx)))
 . have:=iK (Y:=Y) (a:=l.length - 1) (b:=1)
   rw[PQ h0] at this;exact this
 . exists aA (Nd.mp hx),j,hj,rfl
   have hj:j<l.length:=by simpa using hj
   refine cW (av rfl) (fA (av rfl) (av rfl) (d6 (a:=l.length - 1) (b:=j) %[|0])) ?_;show kN (decide ((0:Int)<=((l.length - 1 - j:Nat):Int))&&decide (((l.length - 1 - j:Nat):Int)<(l.length:Int))) _ Y=_;rw[fj (jC (UE (M9 _)) (UE (by omega)))];rfl
 . rw[aM]
   refine congrArg (λz=>some (aC.list z)) ?_;rw[NL];exists Tk (by erw[MN,MN,Nx,Pw]),i,h1,h2;have hi:i<l.length:=by erw[MN,Nx] at h1;exact h1
   erw[Qx,Qx,Sv,List.getElem_reverse];show TF ((l.getD (l.length - 1 - (((0+1*i:Nat):Int)).toNat) 0:Nat):Int)=_;erw[PX,N7,Rb,NG,MX (show l.length - 1 - i<l.length by lia)];rfl
theorem ql{n m o:Nat}(ho:o=`big\/o=`little)(hn:n<256^m)(h0:0<m)(hm:m<=40)(Kz:(∀g,ac P (d+2) 22 [.int n, .int m, .str o] Y= .ok (.bytes (bZ o (aX n m))) (Y++g)->Gz)):Gz:=by
 exists tx (d:=d) (Y:=Y) hn hm,o1,k1;rcases ho with rfl | rfl
 . exact Kz _ (aG 22 [.int ↑n, .int ↑m, .str `big] Y [] (cH (t:=true) %[|1]) k1)
 . exists qL (d:=d) (Y:=Y++[o1]) (l:=aX n m) (by erw[jH];exact h0) (by refine jH▸?_;exact hm) nY,o2,k2
   erw[MR] at k2;exact Kz _ (aG 22 [.int ↑n, .int ↑m, .str `little] Y [] (cH (t:=false) %[|1]) (cH (t:=true) %[|1]) k1 k2)
theorem qm(ho:o=`big\/o=`little)(h0:0<l.length)(hl:l.length<=40)(h:∀x∈l,x<256)(Kz:(∀g,ac P (d+2) 23 [.bytes l, .str o] Y= .ok (.int (bH (bZ o l))) (Y++g)->Gz)):Gz:=by
 rcases ho with rfl | rfl
 . refine Kz ([]) ?_
   erw[M3];exact aG 23 [.bytes l, .str `big] Y [] (cH (t:=true) %[|1]) (pN hl h)
 . exists qL (d:=d) (Y:=Y) h0 hl h,o2,k2
   exact Kz _ (aG 23 [.bytes l, .str `little] Y [] (cH (t:=false) %[|1]) (cH (t:=true) %[|1]) k2 (pN (by rw[Pw];exact hl) λx hx=>h x (P6.mp hx)))
theorem oj:ac P (d+1) 24 [.str a, .str b] Y= .ok (.str (f5 a b)) Y:=by
 unfold f5
 by_cases h:a=`host
 . rw[if_pos h]
   exact aG 24 [.str a, .str b] Y [] (cH (UE h))
 . rw[if_neg h]
   exact aG 24 [.str a, .str b] Y [] (cH (UF h))
theorem gO{p c n m od ho:Nat}(h1:Y[p]? =some (.inst c fs))(h2:fs.lookup `order=some (.str ho))(h:f5 od ho=`big\/f5 od ho=`little)(hn:n<256^m)(h0:0<m)(hm:m<=40)(Kz:(∀g,ac P (d+3) 26 [.ref p, .int n, .int m, .str od] Y= .ok (.bytes (bZ (f5 od ho) (aX n m))) (Y++g)->Gz)):Gz:=by
 exists ql (d:=d) (Y:=Y) h hn h0 hm,g,k;exact Kz g (aG 26 [.ref p, .int ↑n, .int ↑m, .str od] Y [] (aJ h1 h2) oj k)
theorem jm(h1:Y[p]? =some (.inst c fs))(h2:fs.lookup `order=some (.str ho))(h:f5 od ho=`big\/f5 od ho=`little)(h0:0<l.length)(hl:l.length<=40)(hb:∀x∈l,x<256)(Kz:(∀g,ac P (d+3) 51 [.ref p, .bytes l, .str od] Y= .ok (.int (bH (bZ (f5 od ho) l))) (Y++g)->Gz)):Gz:=by
 exists qm (d:=d) (Y:=Y) h h0 hl hb,g,k;exact Kz g (aG 51 [.ref p, .bytes l, .str od] Y [] (aJ h1 h2) oj k)
theorem cP{n m o:Nat}(hm:m<=40)(Kz:(∀g,ac P (d+1) 89 [.int n, .int m, .str o] Y= .ok (.bytes (bZ o (aX n m))) (Y++g)->Gz)):Gz:=bx (show∃g,ac P (d+1) 89 [.int n, .int m, .str o] Y= .ok (.bytes (bZ o (aX n m))) (Y++g) from by
 have hc:af (ac P d) P.glo P.init (.mkbytes (TZ (Tw .mod (Tw .fdiv (Tr 1) (Tw .pow (Ts 256) (Tw .sub (Tw .sub (Tr 2) (Ts 1)) (Tr 0)))) (Ts 256)) true (Tr 1) none)) %[.int n,.int m,.str o|1] Y= .ok (.bytes (aX n m)) (Y++[.list ((aX n m).map λx=> .int (x:Nat))]):=by
  have e1:((Pl 0 m).map λj=>TF (j:Nat)).map (λx:PV=>match x with | .int j=>TF ((n / 256^(m - 1 - j.toNat) % 256:Nat):Int) | _=>T6)=(aX n m).map λx=>TF (x:Nat):=by
   unfold aX;erw[RQ,NL,NL];rfl
  have:=kP (call:=ac P d) (glo:=P.glo) (init:=P.init) (Y:=Y) (r:=%[.int n,.int m,.str o|1]) (elt:=Tw .mod (Tw .fdiv (Tr 1) (Tw .pow (Ts 256) (Tw .sub (Tw .sub (Tr 2) (Ts 1)) (Tr 0)))) (Ts 256)) (isR:=true) (src:= .loc 1) (n:=m) (xs:=(Pl 0 m).map λj=> .int (j:Nat)) (λx=>match x with | .int j=> .int ((n / 256^(m - 1 - j.toNat) % 256:Nat):Int) | _=> .none) rfl (ke %[|0]) (by erw[MN,Nx]) (mS %[|0]) (by erw[MN,Nx];lia) λx hx=>by
   exists aA (Nd.mp hx),j,hj,rfl;have hj:j<m:=by simpa using hj
   exact dn λw=>w (d6 (a:=m) (b:=1) %[|0]) (d6 (a:=m - 1) (b:=j) %[|0]) (xo (a:=256) (b:=m - 1 - j) %[|0] %[|1]) (pu (a:=n) (b:=256^(m - 1 - j)) (N2 %[|1]) (zw %[|0])) (mC (a:=n / 256^(m - 1 - j)) (b:=256) %[|1] %[|1])
  rw[e1] at this;exact l7 this (lq aM nY)
 unfold bZ
 by_cases h:o=`little
 . rw[if_pos h]
   exact⟨_,aG 89 [.int ↑n, .int ↑m, .str o] Y [1] hc (cH (UE h)) rfl⟩
 . rw[if_neg h]
   exact⟨_,aG 89 [.int ↑n, .int ↑m, .str o] Y [1] hc (cH (UF h))⟩) Kz
end
def Fr(M:List Nat)(Y s:aR):Prop:=Y.length<=s.length/\∀i,i<Y.length->i∉M->s[i]? =Y[i]?
section
variable{M:List Nat}{Y s t:aR}{n:Nat}{o:aC}
theorem Fr.refl:Fr M Y Y:=⟨MZ _,λX X X=>rfl⟩
theorem Fr.trans(a:Fr M Y s)(b:Fr M s t):Fr M Y t:=⟨MO a.1 b.1,λi hi hm=>(b.2 i (MQ hi a.1) hm).trans (a.2 i hi hm)⟩
theorem Fr.app:Fr M Y (Y++g):=⟨by erw[MH];lia,λi hi X=>Nc hi⟩
theorem Fr.set(h:n∈M):Fr M Y (Y.set n o):=⟨by erw[ND];exact MZ _,λi X hm=>Nq λ(e:n=i)=>hm (e▸h)⟩
theorem Fr.mono(a:Fr M Y s)(h:∀i∈M,i<Y.length->i∈M'):Fr M' Y s:=⟨a.1,λi hi hm=>a.2 i hi λz=>hm (h i z hi)⟩
theorem bw(h:Y[n]? =some o):n<Y.length:=(M4.mp h).1
theorem Fr.get(a:Fr M Y s)(h:Y[n]? =some o)(hm:n∉M):s[n]? =some o:=(a.2 n (bw h) hm).trans h
theorem aU(h:Y[n]? =some o):(Y++g)[n]? =some o:=(Nc (bw h)).trans h
theorem bJ(h:Y[n]? =some o'):(Y.set n o)[n]? =some o:=PU (bw h)
theorem au(h:Y[m]? =some o')(hn:n≠m):(Y.set n o)[m]? =some o':=(Nq hn).trans h
end
theorem am{Y:aR}{n m:Nat}(h:Y[n]? =some o)(h':Y[m]? =some o')(k:o≠o'):n≠m:=λe=>by
 subst e;rw[h] at h';exact k (MI h')
noncomputable def ah(n:Nat×Nat):PV:= .tup [.str n.1, .int n.2]
noncomputable def mw(tn bits proto base first:Nat):PV:= .tup [.str `payload, .str tn, .int bits, .str `big, .tup [.str proto, .str base, .int first]]
noncomputable def jY(tn bits od key:Nat):PV:= .tup [.str `meta, .str tn, .int bits, .str od, .str key]
noncomputable def aH(nm:Nat):PV:= .tup [.str `field, .str nm]
noncomputable def dm(nm n:Nat):PV:= .tup [.str `mask,aH nm, .int n]
section
variable{d:Nat}{Y:aR}{K:List (Nat×PV)}{nm:Nat}{v:PV}
theorem fu(h:K.lookup nm=some v):ac P (d+1) 10 [.fd K, .str nm] Y= .ok v Y:=by
 have h1:b8 .nin (.str nm) (.fd K) Y= .ok (.bool false) Y:=by
  show iR.ok (TL (!(K.lookup nm).isSome)) Y=_
  refine h▸?_;rfl
 have h2:dk (.fd K) (.str nm) Y= .ok v Y:=by
  show aZ (K.lookup nm) Y=_
  refine h▸?_;rfl
 exact aG 10 [.fd K, .str nm] Y [] h1 h2
theorem gP:ac P (d+1) 11 [aH nm] Y= .ok (.bool false) Y:=aG 11 [aH nm] Y [] rfl rfl
theorem yT:ac P (d+1) 11 [dm nm n] Y= .ok (.bool true) Y:=aG 11 [dm nm n] Y [] rfl rfl
theorem sy(h:K.lookup nm=some v):ax (ac P (d+1)) P.glo P.init [TD (Tz .eq (Tv (Tr 1) (Ts 0)) (Tt `hash)) [TC TW] [],
 (TD (Tz .ne (Tv (Tr 1) (Ts 0)) (Tt `field)) [TV (Tw .add (Tw .add (Tw .add (Tt 7303201) (Tr 2)) (Tt 2649316361232046327967301712673)) (Tv (Tr 1) (Ts 0)))] []),
 (TC (Tx 10 [Tr 0,Tv (Tr 1) (Ts 1)]))] %[.fd K,aH nm,w|0] Y= .ok (.ret v,%[.fd K,aH nm,w|0]) Y:=
 tQ [] λw=>w rfl rfl rfl rfl rfl (fu h)
theorem jv(h:K.lookup nm=some v):ac P (d+2) 12 [.fd K,aH nm,w] Y= .ok v Y:=
 eC (r:=%[.fd K,aH nm,w|0]) rfl rfl rfl (aD (yk (tP (bu rfl gP))) (sy h))
theorem Ba(h:K.lookup nm=some v):ac P (d+2) 12 [.fd K,dm nm n,w] Y= .ok v Y:=
 eC (r:=%[.fd K,dm nm n,w|0]) rfl rfl rfl (aD (yk (Jg (bu rfl yT) (aD (cT rfl) cM) (tP (bu rfl gP)))) (sy h))
def On(K:List (Nat×PV))(e v:PV):Prop:=∀d Y w,ac P (d+2) 12 [.fd K,e,w] Y= .ok v Y
theorem nU(h:K.lookup nm=some v):On K (aH nm) v:=λX X X=>jv h
theorem Fg(h:K.lookup nm=some v):On K (dm nm n) v:=λX X X=>Ba h
variable{e:PV}{tn bits proto base first od key:Nat}
noncomputable def bG(above bits:Nat):Nat:=(above+bits+7) / 8
theorem rX(h:On K e (mw tn bits proto base first)):ac P (d+3) 13 [.fd K,e] Y= .ok (.int (bG (first % 8) bits)) Y:=
 aG 13 [.fd K,e] Y [] (h _ _ _) rfl rfl rfl rfl rfl (mC (a:=first) (b:=8) %[|1] %[|1]) rfl (iK (a:=first % 8) (b:=bits)) (iK (b:=7)) (pu (a:=first % 8+bits+7) (b:=8) %[|1] %[|1])
theorem lA(h:On K e (jY tn bits od key)):ac P (d+3) 13 [.fd K,e] Y= .ok (.int (bG 0 bits)) Y:=
 aG 13 [.fd K,e] Y [] (h _ _ _) rfl rfl rfl rfl (iK (a:=0) (b:=bits)) (iK (b:=7)) (pu (a:=0+bits+7) (b:=8) %[|1] %[|1])
theorem oN(h:On K e (mw tn bits proto base first)):ac P (d+3) 15 [.fd K,e] Y= .ok (.str `big) Y:=
 aG 15 [.fd K,e] Y [] (h _ _ _) rfl rfl
theorem gK(h:On K e (jY tn bits od key)):ac P (d+3) 15 [.fd K,e] Y= .ok (.str od) Y:=
 aG 15 [.fd K,e] Y [] (h _ _ _) rfl rfl
theorem EY(h:On K e (mw tn bits proto base first)):ac P (d+3) 16 [.fd K,e] Y= .ok (.str tn) Y:=
 aG 16 [.fd K,e] Y [] (h _ _ _) rfl rfl
theorem sC(h:On K e (jY tn bits od key)):ac P (d+3) 16 [.fd K,e] Y= .ok (.str tn) Y:=
 aG 16 [.fd K,e] Y [] (h _ _ _) rfl rfl
end
noncomputable def iM:List (Nat×List (Nat×Nat)):=[(`ether,[]),(`th,[]),(`vlan,[(`«ether type»,33024)]),(`arp,[(`«meta protocol»,2054)]),(`ip,[(`«meta nfproto»,2)]),(`ip6,[(`«meta nfproto»,10)]),(`tcp,[(`«meta l4proto»,6)]),(`udp,[(`«meta l4proto»,17)]),
 (`icmp,[(`«meta nfproto»,2),(`«meta l4proto»,1)]),(`icmpv6,[(`«meta nfproto»,10),(`«meta l4proto»,58)])]
noncomputable def fK:List (Nat×PV):=iM.map λx=>(x.1, .tup (x.2.map ah))
theorem gE{α β:Type}(f:α->β)(k:Nat):∀l:List (Nat×α),(l.map λx=>(x.1,f x.2)).lookup k=(l.lookup k).map f:=by
 intro l
 induction l with
 | nil=>
   exact rfl
 | cons x'9 l gE=>
   obtain⟨a,b⟩:=x'9;erw[Nl,Ng,Ng];cases k==a
   . exact gE
   . rfl
noncomputable def cS(fam:Nat)(n:Nat×Nat):Bool:= !(fam==`ip&&n==(`«meta nfproto»,2))&& !(fam==`ip6&&n==(`«meta nfproto»,10))
section
variable{d:Nat}{Y:aR}{fam proto:Nat}{l:List (Nat×Nat)}
theorem wc(h:iM.lookup proto=some l)(Kz:∀g,ac P (d+1) 8 [.str proto] Y= .ok (.tup (l.map ah)) (Y++[g])->Gz):Gz:=by
 have hs:((Y++[aC.dictS []]).set Y.length (.dictS fK))[Y.length]? =some (.dictS fK):=bJ aM;have hl:fK.lookup proto=some (.tup (l.map ah)):=by
  unfold fK;erw[gE (λx:List (Nat×Nat)=>TY (x.map ah)),h];rfl
 have e1:af (ac P d) P.glo P.init (TI [`ether,`th,`vlan,`arp,`ip,`ip6,`tcp,`udp,`icmp,`icmpv6] [Tu [],Tu [],Tu [Tu [Tt `«ether type»,Ts 33024]],Tu [Tu [Tt `«meta protocol»,Ts 2054]],Tu [Tu [Tt `«meta nfproto»,Ts 2]],Tu [Tu [Tt `«meta nfproto»,Ts 10]],Tu [Tu [Tt `«meta l4proto»,Ts 6]],Tu [Tu [Tt `«meta l4proto»,Ts 17]],Tu [Tu [Tt `«meta nfproto»,Ts 2],Tu [Tt `«meta l4proto»,Ts 1]],Tu [Tu [Tt `«meta nfproto»,Ts 10],Tu [Tt `«meta l4proto»,Ts 58]]]) %[.str proto|1] Y= .ok (.ref Y.length) ((Y++[aC.dictS []]).set Y.length (.dictS fK)):=
  dn λw=>w (Gh aM rfl)
 have hg:(Y++[aC.dictS []]).set Y.length (.dictS fK)=Y++[.dictS fK]:=by
  rw[PE _ _ (MZ _),Pk];rfl
 rw[hg] at e1 hs;have h1:b8 .nin (.str proto) (.ref Y.length) (Y++[.dictS fK])= .ok (.bool false) (Y++[.dictS fK]):=by
  show((((cO Y.length).bnd _).bnd _):M PV) (Y++[.dictS fK])=_
  rw[ag (a:=true) (s':=Y++[.dictS fK]) (by
   rw[ag (a8 hs)];show iR.ok ((fK.lookup proto).isSome) _=_
   refine hl▸?_;rfl)]
  rfl
 have h2:dk (.ref Y.length) (.str proto) (Y++[.dictS fK])= .ok (.tup (l.map ah)) (Y++[.dictS fK]):=by
  show((cO Y.length).bnd _) _=_
  rw[ag (a8 hs)];show aZ (fK.lookup proto) _=_;refine hl▸?_;rfl
 exact Kz _ (aG 8 [.str proto] Y [1] e1 h1 h2)
theorem lM{b:Nat}:b8 .eq (ah n) (.tup [.str a, .int b]) Y= .ok (.bool (n==(a,b))) Y:=by
 obtain⟨n1,n2⟩:=n;have e:(((n2:Int)==(b:Int))&&true)=(n2==b):=by
  rw[Qw,PF,beq_iff_eq,beq_iff_eq];exact PS
 show iR.ok (TL ((n1==a)&&(((n2:Int)==(b:Int))&&true))) Y=_
 refine e▸?_;rfl
theorem gq:∀{l:List (Nat×Nat)} {acc:List PV} {z:Option PV} {f:Nat} {o:aC},q=Y0.length->l.length<f->acc.length+l.length<4000->
 (∀z',(fW (.one 3) (λr=>ax (ac P d) P.glo P.init [TD (TR [Tz .eq (Tr 0) (Tt `ip),Tz .eq (Tr 3) (Tu [Tt `«meta nfproto»,Ts 2])]) [T8] [],
 (TD (TR [Tz .eq (Tr 0) (Tt `ip6),Tz .eq (Tr 3) (Tu [Tt `«meta nfproto»,Ts 10])]) [T8] []),
 (TB (TO (Tr 2) (Tr 3)))] r) f (.tup (l.map ah)) %[.str fam,.str proto,.ref q|[z]] (Y0++[.list acc,o])= .ok (.nxt,%[.str fam,.str proto,.ref q|[z']]) (Y0++[.list (acc++(l.filter (cS fam)).map ah),o]))->Gz)->Gz:=by
 intro l
 induction l with
 | nil=>
   intro acc z f o _ hf _ Kz;exists bx (MP (Nv hf)),f,rfl;exact Kz z (by erw[Rk,PL,M3];exact gz rfl)
 | cons n l gq=>
   intro acc z f o hq hf hl Kz;erw[M0] at hf hl;exists bx (MP (show f≠0 by lia)),f,rfl;have hk:cS fam n=(!(fam==`ip&&n==(`«meta nfproto»,2))&& !(fam==`ip6&&n==(`«meta nfproto»,10))):=rfl
   cases hk1:(fam==`ip&&n==(`«meta nfproto»,2)) with
   | true=>
     exists bj (MT.mp hk1),a,b;exists gq (acc:=acc) (z:=some (ah n)) (f:=f) (o:=o) hq %[|0] %[|0],z',k;rw[Pc (by erw[hk,hk1];exactλz=>Np z)] at Kz;exact Kz z' (iU rfl rfl (tQ [] λw=>w (show _= .ok (TL true) (Y0++[aC.list acc,o]) from(cH (UE (beq_iff_eq.mp a)))) (show _= .ok (TL true) (Y0++[aC.list acc,o]) from((lM (b:=2)).trans (b▸rfl)))) rfl k)
   | false=>
     have c1:∀s:aR,af (ac P d) P.glo P.init (TR [Tz .eq (Tr 0) (Tt `ip),Tz .eq (Tr 3) (Tu [Tt `«meta nfproto»,Ts 2])]) %[.str fam,.str proto,.ref q,ah n|0] s= .ok (.bool false) s:=λs=>by
      cases a:(fam==`ip) with
      | false=>exact dn λw=>w (show _= .ok (TL false) s from(cH (UF (by simpa using a))))
      | true=>
        rw[a,Qv] at hk1;exact dn λw=>w (show _= .ok (TL true) s from(cH (UE (beq_iff_eq.mp a)))) (show _= .ok (TL false) s from((lM (b:=2)).trans (by rw[hk1])))
     cases hk2:(fam==`ip6&&n==(`«meta nfproto»,10)) with
     | true=>
       exists bj (MT.mp hk2),a,b;exists gq (acc:=acc) (z:=some (ah n)) (f:=f) (o:=o) hq %[|0] %[|0],z',k;rw[Pc (by erw[hk,hk1,hk2];decide)] at Kz;exact Kz z' (iU rfl rfl (tQ [1] λw=>w (show _= .ok (TL false) (Y0++[aC.list acc,o]) from(c1 _)) (show _= .ok (TL true) (Y0++[aC.list acc,o]) from(cH (UE (beq_iff_eq.mp a)))) (show _= .ok (TL true) (Y0++[aC.list acc,o]) from((lM (b:=10)).trans (b▸rfl)))) rfl k)
     | false=>
       have c2:∀s:aR,af (ac P d) P.glo P.init (TR [Tz .eq (Tr 0) (Tt `ip6),Tz .eq (Tr 3) (Tu [Tt `«meta nfproto»,Ts 10])]) %[.str fam,.str proto,.ref q,ah n|0] s= .ok (.bool false) s:=λs=>by
        cases a:(fam==`ip6) with
        | false=>exact dn λw=>w (show _= .ok (TL false) s from(cH (UF (by simpa using a))))
        | true=>
          rw[a,Qv] at hk2;exact dn λw=>w (show _= .ok (TL true) s from(cH (UE (beq_iff_eq.mp a)))) (show _= .ok (TL false) s from((lM (b:=10)).trans (by rw[hk2])))
       exists gq (acc:=acc++[ah n]) (z:=some (ah n)) (f:=f) (o:=o) hq %[|0] (by rw[MH];show acc.length+1+l.length<4000;lia),z',k;rw[Px (by erw[hk,hk1,hk2];rfl),Nl] at Kz;rw[MR] at k;have hs:(Y0++[.list acc,o])[q]? =some (.list acc):=by erw[hq,Nh (MZ _),Pk];rfl
       have ht:(Y0++[.list acc,o]).set q (.list (acc++[ah n]))=Y0++[.list (acc++[ah n]),o]:=by rw[hq,PE _ _ (MZ _),Pk];rfl
       exact Kz z' (iU rfl rfl (tQ [1,1] λw=>w (show _= .ok (TL false) (Y0++[aC.list acc,o]) from(c1 _)) (show _= .ok (TL false) (Y0++[aC.list acc,o]) from(c2 _)) (eT hs) (jl hs %[|0])) rfl (by rw[ht];exact k))
noncomputable def an(fam proto:Nat):List (Nat×Nat):=((iM.lookup proto).getD []).filter (cS fam)
theorem km(h:iM.lookup proto=some l)(hl:l.length<100)(Kz:(∀g,ac P (d+2) 9 [.str fam, .str proto] Y= .ok (.tup ((an fam proto).map ah)) (Y++g)->Gz)):Gz:=by
 exists wc (d:=d) (Y:=Y++[.list []]) h,o,k1;erw[MR] at k1;exists gq (d:=d+1) (fam:=fam) (proto:=proto) (Y0:=Y) (l:=l) (acc:=[]) (z:=none) (f:=(l.map ah).length+1) (o:=o) rfl (by rw[MN];lia) (by erw[NN];lia),z',k2;have hm:nW (.ref Y.length) (Y++[.list ([]++(l.filter (cS fam)).map ah),o])= .ok (.tup ((an fam proto).map ah)) (Y++[.list ([]++(l.filter (cS fam)).map ah),o]):=by
  show((cO Y.length).bnd _) _=_
  rw[ag (a8 (o:= .list ([]++(l.filter (cS fam)).map ah)) (by rw[Nh (MZ _),Pk];rfl))];unfold an;refine h▸?_;rfl
 exact Kz _ (aG 9 [.str fam, .str proto] Y [] k1 rfl k2 hm)
end
noncomputable def eE(L:List (Nat×Nat)):List (Nat×PV):=L.map λx=>(x.1, .int x.2)
noncomputable def cG{α:Type}:List (Nat×α)->Nat->α->List (Nat×α)
 | [],k,v=>[(k,v)]|(a,b)::r,k,v=>if a==k then(a,v)::r else(a,b)::cG r k v
theorem mh(f:α->PV)(k:Nat)(v:α):∀L:List (Nat×α),bK (L.map λx=>(x.1,f x.2)) k (f v)=(cG L k v).map λx=>(x.1,f x.2):=by
 intro L
 induction L with
 | nil=>
   exact rfl
 | cons x'9 L mh=>
   obtain⟨a,b⟩:=x'9;refine Nl▸?_;unfold bK cG
   cases a==k with
   | true=>rfl|false=>
     rw[if_neg Np,if_neg Np,Nl, <-mh]
theorem rM(L:List (Nat×Nat))(k v:Nat):bK (eE L) k (.int v)=eE (cG L k v):=mh (λn:Nat=>TF n) k v L
theorem JR(L:List (Nat×Nat))(k:Nat):(eE L).lookup k=(L.lookup k).map λn:Nat=>TF n:=gE (λn:Nat=>TF n) k L
theorem rE(L:List (Nat×Nat)):(eE L).length=L.length:=MN ..
theorem c7(k:Nat)(v:α):∀L:List (Nat×α),(cG L k v).length<=L.length+1:=by
 intro L
 induction L with
 | nil=>
   exact MZ _
 | cons x'9 L c7=>
   obtain⟨a,b⟩:=x'9;unfold cG
   cases a==k with
   | true=>exact QT _|false=>exact NR c7
theorem sx(k j:Nat)(v:α):∀L:List (Nat×α),(cG L k v).lookup j=if j=k then some v else L.lookup j:=by
 intro L
 induction L with
 | nil=>
   unfold cG;erw[Ng]
   by_cases h:j=k
   . rw[if_pos h,beq_iff_eq.mpr h]
   . rw[if_neg h,beq_eq_false_iff_ne.mpr h]
 | cons x'9 L sx=>
   obtain⟨a,b⟩:=x'9;unfold cG
   by_cases e:a=k
   . rw[if_pos (beq_iff_eq.mpr e),Ng,Ng]
     by_cases h:j=k
     . rw[if_pos h,beq_iff_eq.mpr (h.trans e.symm)]
     . rw[if_neg h,beq_eq_false_iff_ne.mpr λq=>h (q.trans e)]
   . rw[if_neg (λq=>e (beq_iff_eq.mp q)),Ng,Ng]
     cases q:j==a with
     | true=>rw[if_neg λz=>e ((beq_iff_eq.mp q).symm.trans z)]|false=>exact sx
structure Fz where
 p:Nat
 a:Nat
 b:Nat
 k:Nat
 m:Nat
 g:Nat
 fam:Nat
 ord:Nat
noncomputable def JZ(K:List (Nat×PV))(I:Fz):List (Nat×PV):=[(`fields, .fd K),(`family, .str I.fam),(`order, .str I.ord),(`«prefix», .str `__set),(`rows, .ref I.a),(`sets, .ref I.b),(`known, .ref I.k),(`makers, .ref I.m),(`flags, .ref I.g)]
structure Ro(K:List (Nat×PV))(I:Fz)(Y:aR)(xs:List PV)(L:List (Nat×Nat)):Prop where
 obj:Y[I.p]? =some (.inst 0 (JZ K I))
 rows:Y[I.a]? =some (.list xs)
 known:Y[I.k]? =some (.dictS (eE L))
 small:xs.length<3000/\L.length<3000
section
variable{K:List (Nat×PV)}{I:Fz}{Y s:aR}{xs ys:List PV}{L L':List (Nat×Nat)}
theorem Ro.app(R:Ro K I Y xs L):Ro K I (Y++g) xs L:=⟨aU R.obj,aU R.rows,aU R.known,R.small⟩
theorem Ro.setRows(R:Ro K I Y xs L)(h:ys.length<3000):Ro K I (Y.set I.a (.list ys)) ys L:=
 ⟨au R.obj (am R.rows R.obj (λz=>aC.noConfusion z)),bJ R.rows,au R.known (am R.rows R.known (λz=>aC.noConfusion z)),h,R.small.2⟩
theorem Ro.setKnown(R:Ro K I Y xs L)(h:L'.length<3000):Ro K I (Y.set I.k (.dictS (eE L'))) xs L':=
 ⟨au R.obj (am R.known R.obj (λz=>aC.noConfusion z)),au R.rows (am R.known R.rows (λz=>aC.noConfusion z)),bJ R.known,R.small.1,h⟩
def mm(K:List (Nat×PV))(I:Fz)(Y:aR)(xs:List PV)(L':List (Nat×Nat))(o:iR PV)(v:PV):Prop:=∃s,o= .ok v s/\Ro K I s xs L'/\Fr [I.a,I.k] Y s
theorem BP{L':List (Nat×Nat)}{o:iR PV}{v:PV}(s:aR)(h1:o= .ok v s)(h2:Ro K I s xs L')(h3:Fr [I.a,I.k] Y s):mm K I Y xs L' o v:=fw s h1 h2 h3
theorem Kh{L':List (Nat×Nat)}{o:iR PV}{v:PV}(h:mm K I Y xs L' o v)(k:∀s,o= .ok v s->Ro K I s xs L'->Fr [I.a,I.k] Y s->Gz):Gz:=cF h k
noncomputable def kQ(base first many:Nat):PV:= .tup [.str `payload, .int 0, .str base, .int (first / 8:Nat), .int many]
noncomputable def rG(key many od:Nat):PV:= .tup [.str `meta, .int 0, .str key, .int many, .str od]
noncomputable def eU(op:Nat)(l:List Nat):PV:= .tup [.str `cmp, .str op, .int 0, .bytes l]
noncomputable def rR(l m:List Nat):PV:= .tup [.str `bitwise, .int 0, .int 0, .bytes l, .bytes m]
noncomputable def Bc(many below:Nat):PV:= .tup [.str `shift, .int 0, .int 0, .int many, .str `right, .int below]
variable{d nm tn bits proto base first od key:Nat}
theorem mI(R:Ro K I Y xs L)(h:K.lookup nm=some (mw tn bits proto base first)):ac P (d+4) 28 [.ref I.p, .int 0, .str nm] Y= .ok (.int (bG (first % 8) bits)) (Y.set I.a (.list (xs++[kQ base first (bG (first % 8) bits)]))):=
 eC (r:=%[.ref I.p,.int 0,.str nm|6]) rfl rfl rfl (aD (k9 (bu (ai (cQ (av rfl) R.obj rfl) rfl) (fu h)) rfl)
  (aD (cT (bu (ai (cQ (av rfl) R.obj rfl) rfl) (rX (nU h))))
  (aD (mq rfl (aD (mq rfl (aD (qw (fy (cQ (av rfl) R.obj rfl) R.rows (iG (ai bC (ai (av rfl) (ai rfl (ai (fA rfl bX (pu (a:=first) (b:=8) %[|1] %[|1])) rfl))))) R.rows (by have:=R.small.1;lia))) cM)) cM))
  (nb (wj (av rfl))))))
theorem hG(R:Ro K I Y xs L)(h:K.lookup nm=some (jY tn bits od key)):ac P (d+4) 28 [.ref I.p, .int 0, .str nm] Y= .ok (.int (bG 0 bits)) (Y.set I.a (.list (xs++[rG key (bG 0 bits) od]))):=
 eC (r:=%[.ref I.p,.int 0,.str nm|6]) rfl rfl rfl (aD (k9 (bu (ai (cQ (av rfl) R.obj rfl) rfl) (fu h)) rfl)
  (aD (cT (bu (ai (cQ (av rfl) R.obj rfl) rfl) (lA (nU h))))
  (aD (qb rfl (aD (qw (fy (cQ (av rfl) R.obj rfl) R.rows rfl R.rows (by have:=R.small.1;lia))) cM))
  (nb (wj (av rfl))))))
noncomputable def dw(many above bits:Nat):List PV:=
 (if 0<above\/0<8*many - above - bits then[rR (aX ((2^bits - 1)*2^(8*many - above - bits)) many) (aX 0 many)] else[])++(if 0<8*many - above - bits then[Bc many (8*many - above - bits)] else[])
theorem Fc(h:above+bits<=8*many):(2^bits - 1)*2^(8*many - above - bits)<256^many:=by
 have h1:0<2^bits:=N2 %[|1];have h2:0<2^(8*many - above - bits):=N2 %[|1];have h3:(2^bits - 1)*2^(8*many - above - bits)<2^bits*2^(8*many - above - bits):=Nat.mul_lt_mul_of_pos_right %[|0] h2;rw[<-Nat.pow_add] at h3;refine MQ h3 ?_;refine AD▸?_;exact QO %[|1] %[|0]
theorem BM{many above bits:Nat}(R:Ro K I Y xs L)(ho:I.ord=`big\/I.ord=`little)(h:above+bits<=8*many)(h0:0<many)(hm:many<=30)(hx:xs.length<2900):
 mm K I Y (xs++dw many above bits) L (ac P (d+4) 30 [.ref I.p, .int 0, .int many, .int above, .int bits] Y) .none:=by
 have hb2:bS .sub (.int ((8*many - above:Nat):Int)) (.int bits) Y= .ok (.int ((8*many - above - bits:Nat):Int)) Y:=d6 %[|0];unfold dw;generalize hw:8*many - above - bits=below at*;have hbelow:af (ac P (d+3)) P.glo P.init (Tw .sub (Tw .sub (Tw .mul (Ts 8) (Tr 2)) (Tr 3)) (Tr 4)) %[.ref I.p,.int 0,.int many,.int above,.int bits|2] Y= .ok (.int below) Y:=
  dn λw=>w (gp (a:=8) (b:=many) %[|1] %[|0]) (show bS .sub (.int (8*many:Nat)) (.int above) Y= .ok (.int ((8*many - above:Nat):Int)) Y from d6 %[|0]) hb2
 by_cases c1:0<above\/0<below
 . have hml:=Fc h
   rw[hw] at hml;have hm1:0<2^bits:=N2 %[|1];have hm2:2^bits<2^400:=Pq %[|1] %[|0];exists gO (d:=d) (p:=I.p) (n:=(2^bits - 1)*2^below) (m:=many) (od:=`big) R.obj rfl (.inl rfl) hml h0 %[|0],g1,k1;exists gO (d:=d) (p:=I.p) (n:=0) (m:=many) (od:=`big) (R.app (g:=g1)).obj rfl (.inl rfl) (N2 %[|1]) h0 %[|0],g2,k2;have R2:=(R.app (g:=g1)).app (g:=g2);have hc:af (ac P (d+3)) P.glo P.init (T1 [Tz .gt (Tr 3) (Ts 0),Tz .gt (Tr 5) (Ts 0)]) %[.ref I.p,.int 0,.int many,.int above,.int bits,.int below|1] Y= .ok (.bool true) Y:=by
    by_cases z:0<above
    . exact AM (Dy (hZ (av rfl) bX (iS (UE %[|0]))))
    . exact dn λw=>w (iS (UF %[|0])) (iS (UE %[|0]))
   have hmask:af (ac P (d+3)) P.glo P.init (Tw .shl (Tw .sub (Tw .shl (Ts 1) (Tr 4)) (Ts 1)) (Tr 5)) %[.ref I.p,.int 0,.int many,.int above,.int bits,.int below|1] Y= .ok (.int ((2^bits - 1)*2^below:Nat)) Y:=by
    refine dn λw=>w (ja (a:=1) (b:=bits) %[|0] %[|1]) (d6 (a:=1*2^bits) (b:=1) %[|0]) ?_;rw[PX];exact ja %[|0] %[|0]
   refine(if_pos c1)▸?_;have ha:=fy (call:=ac P (d+3)) (glo:=P.glo) (init:=P.init) (r:=%[.ref I.p,.int 0,.int many,.int above,.int bits,.int below,.int ((2^bits - 1)*2^below:Nat)|0]) (cQ (o:= .loc 0) (a:=`rows) (av rfl) R.obj rfl) R.rows
    (iG (ai (bC (n:=`bitwise)) (ai (av (i:=1) rfl) (ai (av (i:=1) rfl) (ai (bu (ai (av (i:=0) rfl) (ai (av (i:=6) rfl) (ai (av (i:=2) rfl) (ai bC bA)))) k1) (ai (bu (ai (av (i:=0) rfl) (ai (bX (i:=0)) (ai (av (i:=2) rfl) (ai bC bA)))) k2) bA)))))) R2.rows (by have:=R.small.1;lia)
   have R3:=R2.setRows (ys:=xs++[rR (aX ((2^bits - 1)*2^below) many) (aX 0 many)]) (by rw[MH];show xs.length+1<3000;lia);have F3:Fr [I.a,I.k] Y (((Y++g1)++g2).set I.a (.list (xs++[rR (aX ((2^bits - 1)*2^below) many) (aX 0 many)]))):=(Fr.app.trans Fr.app).trans (.set (.head _))
   by_cases c2:0<below
   . rw[if_pos c2, <-MR]
     exact BP _ (aG 30 [.ref I.p, .int 0, .int ↑many, .int ↑above, .int ↑bits] Y [1,1,1,1] hbelow hc hmask ha (iS (UE %[|0])) (aJ R3.obj rfl) (eT R3.rows) (jl R3.rows (by have:=R3.small.1;lia))) (R3.setRows (by erw[MH,MH];show xs.length+1+1<3000;lia)) (F3.trans (.set (.head _)))
   . rw[if_neg c2,M3]
     exact BP _ (aG 30 [.ref I.p, .int 0, .int ↑many, .int ↑above, .int ↑bits] Y [1,1,1,1] hbelow hc hmask ha (iS (UF %[|0]))) R3 F3
 . rw[if_neg c1,if_neg %[|0],M3,M3]
   exact BP _ (aG 30 [.ref I.p, .int 0, .int ↑many, .int ↑above, .int ↑bits] Y [1] hbelow (iS (UF %[|0])) (iS (UF %[|0])) (iS (UF %[|0]))) R .refl
end
noncomputable def aQ(l:List S)(i:Nat):List S:=match l[i]? with
 | some (.fors _ _ _ b)=>b|_=>[]
structure sM(K:List (Nat×PV)):Prop where
 et:K.lookup `«ether type»=some (mw `ether_type 16 `ether `link 96)
 mp:K.lookup `«meta protocol»=some (jY `ether_type 16 `big `protocol)
 nf:K.lookup `«meta nfproto»=some (jY `nf_proto 8 `big `nfproto)
 l4:K.lookup `«meta l4proto»=some (jY `inet_proto 8 `big `l4proto)
def aV(nm:Nat):Prop:=nm=`«ether type»\/nm=`«meta protocol»\/nm=`«meta nfproto»\/nm=`«meta l4proto»
noncomputable def aj(nm:Nat):Nat:=if nm=`«ether type» then 2 else if nm=`«meta protocol» then 2 else 1
noncomputable def bU(nm:Nat):PV:=if nm=`«ether type» then kQ `link 96 2 else if nm=`«meta protocol» then rG `protocol 2 `big else if nm=`«meta nfproto» then rG `nfproto 1 `big else rG `l4proto 1 `big
noncomputable def bB(n:Nat×Nat):List PV:=[bU n.1,eU 15934 (aX n.2 (aj n.1))]
def cI(n:Nat×Nat):Prop:=aV n.1/\n.2<256^aj n.1
noncomputable def dO(L:List (Nat×Nat)):List (Nat×Nat)->List PV
 | []=>[]|n::ns=>if L.lookup n.1=some n.2 then dO L ns else bB n++dO (cG L n.1 n.2) ns
noncomputable def mn(L:List (Nat×Nat)):List (Nat×Nat)->List (Nat×Nat)
 | []=>L|n::ns=>if L.lookup n.1=some n.2 then mn L ns else mn (cG L n.1 n.2) ns
theorem fO:∀{l L:List (Nat×Nat)},(dO L l).length<=2*l.length/\(mn L l).length<=L.length+l.length:=by
 intro l
 induction l with
 | nil=>
   intro L;exact⟨MZ _,MZ _⟩
 | cons n l fO=>
   intro L;unfold dO mn;split
   . have:=fO (L:=L)
     erw[M0];lia
   . have:=fO (L:=cG L n.1 n.2)
     have h2:=c7 n.1 n.2 L;erw[MH,M0];have:(bB n).length=2:=rfl;lia
section
variable{K:List (Nat×PV)}{I:Fz}{Y s:aR}{xs ys:List PV}{L L':List (Nat×Nat)}{d nm tn bits proto base first od key:Nat}
theorem EF(k:sM K)(R:Ro K I Y xs L)(h:aV nm):ac P (d+4) 28 [.ref I.p, .int 0, .str nm] Y= .ok (.int (aj nm)) (Y.set I.a (.list (xs++[bU nm]))):=by
 rcases h with rfl | rfl | rfl | rfl
 . exact mI R k.et
 . exact hG R k.mp
 . exact hG R k.nf
 . exact hG R k.l4
theorem yN(k:sM K)(h:aV nm):ac P (d+3) 15 [.fd K,aH nm] Y= .ok (.str `big) Y:=by
 rcases h with rfl | rfl | rfl | rfl
 . exact oN (nU k.et)
 . exact gK (nU k.mp)
 . exact gK (nU k.nf)
 . exact gK (nU k.l4)
theorem fQ(h:aV nm):0<aj nm/\aj nm<=2:=by
 rcases h with rfl | rfl | rfl | rfl<;>decide
theorem xD{n:Nat×Nat}:b8 .eq (((eE L).lookup n.1).getD .none) (.int (n.2:Nat)) Y= .ok (.bool (decide (L.lookup n.1=some n.2))) Y:=by
 rw[JR]
 cases L.lookup n.1 with
 | none=>exact congrArg (λb=>iR.ok (TL b) Y) (UF (λz=>by exists _)).symm
 | some v=>
   show iR.ok (TL ((v:Int)==(n.2:Int))) Y=_
   have:((v:Int)==(n.2:Int))=decide (some v=some n.2):=by
    rw[PF,beq_iff_eq,decide_eq_true_iff,PS,Option.some_inj]
   erw[this]
theorem kc(k:sM K)(ho:I.ord=`big\/I.ord=`little):∀{l:List (Nat×Nat)} {Y:aR} {xs:List PV} {L:List (Nat×Nat)} {z1 z2 z3 z4:Option PV} {f:Nat},Ro K I Y xs L->(∀n∈l,cI n)->l.length<f->xs.length+2*l.length<2990->L.length+l.length<2990->
 (∀r' s,(fW (.many [3,4]) (λr=>ax (ac P (d+4)) P.glo P.init (aQ lG 0) r) f (.tup (l.map ah)) %[.ref I.p,.int 0,.str proto|[z1,z2,z3,z4]] Y= .ok (.nxt,r') s)->Ro K I s (xs++dO L l) (mn L l)->Fr [I.a,I.k] Y s->Gz)->Gz:=by
 intro l
 induction l with
 | nil=>
   intro Y xs L z1 z2 z3 z4 f R _ hf _ _ Kz;exists bx (MP (Nv hf)),f,rfl;exact Kz _ _ (gz rfl) (by unfold dO mn;rw[M3];exact R) .refl
 | cons n l kc=>
   intro Y xs L z1 z2 z3 z4 f R hg hf hx hL Kz;erw[M0] at hf hx hL;exists bx (MP (show f≠0 by lia)),f,rfl;have hge:∀r3 r4 r5,af (ac P (d+4)) P.glo P.init (Tz .eq (T4 (TE (Tr 0) `known) (Tr 3)) (Tr 4)) %[.ref I.p,.int 0|[r3,some (.str n.1),some (.int n.2),r4,r5]] Y= .ok (.bool (decide (L.lookup n.1=some n.2))) Y:=λr3 r4 r5=>
    dn λw=>w (aJ R.obj rfl) (lS R.known) (Dz R.known) xD
   unfold dO mn at Kz
   by_cases hk:L.lookup n.1=some n.2
   . rw[if_pos hk,if_pos hk] at Kz
     exists kc (z1:=some (.str n.1)) (z2:=some (.int n.2)) (z3:=z3) (z4:=z4) (f:=f) R (λm hm=>hg m (.tail _ hm)) %[|0] %[|0] %[|0],r',s,k1,R1,F1;exact(Kz r' s (iU rfl rfl (EQ (qb ((hge _ _ _).trans (by rw[UE hk])) (EQ J1))) rfl k1) R1 F1)
   . rw[if_neg hk,if_neg hk] at Kz
     exists bj (hg n (.head _)),gn,gb;exists bj (fQ gn),sz1,sz2;have R1:=R.setRows (ys:=xs++[bU n.1]) (by rw[MH];show xs.length+1<3000;lia);exists gO (d:=d) (p:=I.p) (n:=n.2) (m:=aj n.1) (od:=`big) R1.obj rfl (.inl rfl) gb sz1 %[|0],g,k2;have R2:=R1.app (g:=g);have R3:=R2.setRows (ys:=xs++[bU n.1]++[eU 15934 (aX n.2 (aj n.1))]) (by erw[MH,MH];show xs.length+1+1<3000;lia);have hk2:=c7 n.1 n.2 L;exists kc (z1:=some (.str n.1)) (z2:=some (.int n.2)) (z3:=some (.int (aj n.1))) (z4:=some (.str `big)) (f:=f) (R3.setKnown (L':=cG L n.1 n.2) (by have:=c7 n.1 n.2 L;lia)) (λm hm=>hg m (.tail _ hm)) %[|0] (by erw[MH,MH];show xs.length+1+1+2*l.length<2990;lia) %[|0],r',s,k3,R5,F5;have hks:dA (.ref I.k) (.str n.1) (.int (n.2:Nat)) _= .ok () _:=im R3.known (by rw[rE];have:=R3.small.2;lia);rw[rM] at hks;rw[MR,MR] at R5;refine(Kz r' s (iU rfl rfl (cE (aQ lG 0) %[.ref I.p,.int 0,.str proto,(3, .str n.fst).snd,(4, .int ↑n.snd).snd|[z3,z4]] Y [1] (show _= .ok (TL false) Y from((hge _ _ _).trans (by rw[UF hk]))) (show _= .ok (TF ↑(aj n.fst)) (List.set Y I.a (aC.list (xs++[bU n.fst]))) from(EF k R gn)) (aJ R1.obj rfl) (show _= .ok (TN `big) (List.set Y I.a (aC.list (xs++[bU n.fst]))) from(yN k gn)) (aJ R1.obj rfl) (eT R1.rows) k2 (jl R2.rows (by have:=R1.small.1;lia)) (aJ R3.obj rfl) hks) rfl k3) R5 ?_);exact((((Fr.set (.head _)).trans .app).trans (.set (.head _))).trans (.set (.tail _ (.head _)))).trans F5
theorem wQ(k:sM K)(ho:I.ord=`big\/I.ord=`little)(R:Ro K I Y xs L)(hp:iM.lookup proto=some l0)(h0:l0.length<100)(hg:∀n∈an I.fam proto,cI n)(hx:xs.length<2700)(hL:L.length<2700):
 mm K I Y (xs++dO L (an I.fam proto)) (mn L (an I.fam proto)) (ac P (d+5) 29 [.ref I.p, .int 0, .str proto] Y) .none:=by
 exists km (d:=d+2) (Y:=Y) (fam:=I.fam) hp h0,g,k1;have hl:(an I.fam proto).length<100:=by
  unfold an;rw[hp];exact MM (N5 _ _) h0
 exists kc (d:=d) (proto:=proto) k ho (l:=an I.fam proto) (z1:=none) (z2:=none) (z3:=none) (z4:=none) (f:=((an I.fam proto).map ah).length+1) (R.app (g:=g)) hg (by rw[MN];lia) %[|0] %[|0],r',s,k2,R2,F2;exact BP s (aG 29 [.ref I.p, .int 0, .str proto] Y [] (aJ R.obj rfl) k1 rfl k2) R2 (Fr.app.trans F2)
noncomputable def lO(fam:Nat)(L:List (Nat×Nat))(bits proto base first:Nat):List PV:=dO L (an fam proto)++kQ base first (bG (first % 8) bits)::dw (bG (first % 8) bits) (first % 8) bits
theorem fN:(dw many above bits).length<=2:=by
 unfold dw;rw[MH];split<;>split<;>(erw[M0,NN];lia)
structure sI(fam bits proto first:Nat):Prop where
 hp:∃l0,iM.lookup proto=some l0/\l0.length<100
 hg:∀n∈an fam proto,cI n
 hb:0<bits/\bits<=200
theorem DQ(hb:0<bits/\bits<=200):first % 8+bits<=8*bG (first % 8) bits/\0<bG (first % 8) bits/\bG (first % 8) bits<=30:=by
 unfold bG;lia
theorem lm(k:sM K)(ho:I.ord=`big\/I.ord=`little)(R:Ro K I Y xs L)(h:K.lookup nm=some (mw tn bits proto base first))(p:sI I.fam bits proto first)(hx:xs.length<2500)(hL:L.length<2500):
 mm K I Y (xs++lO I.fam L bits proto base first) (mn L (an I.fam proto)) (ac P (d+6) 31 [.ref I.p, .int 0, .str nm] Y) .none:=by
 exists cps,Gz,Kz;exists aA p.hp,l0,hp,h0;exists cF (wQ (d:=d) k ho R hp h0 p.hg %[|0] %[|0]),s1,k1,R1,F1;have hl:(an I.fam proto).length<100:=by
  unfold an;rw[hp];exact MM (N5 _ _) h0
 have hr:=fO (l:=an I.fam proto) (L:=L);exists fE (DQ (first:=first) p.hb),f1,f2,f3;exists cF (BM (d:=d+1) (R1.setRows (ys:=xs++dO L (an I.fam proto)++[kQ base first (bG (first % 8) bits)]) (by rw[MH,MH];show _+1<3000;lia)) ho f1 f2 f3 (by rw[MH,MH];show _+1<2900;lia)),s3,k3,R3,F3;refine Kz ?_;refine(BP s3 (jL (r:=%[.ref I.p,.int 0,.str nm|6]) rfl rfl rfl (aD (k9 (bu (ai (cQ (av rfl) R.obj rfl) rfl) (fu h)) rfl)
  (aD (qb rfl (aD (qw (bu rfl k1)) cM))
  (aD (cT (bu rfl (mI R1 h)))
  (aD (qb rfl (aD (qw (bu (ai (av rfl) (ai (av rfl) (ai (av rfl) (ai (fA rfl bX (mC (a:=first) (b:=8) %[|1] %[|1])) rfl)))) k3)) cM)) cM))))) ?_ ((F1.trans (.set (.head _))).trans F3))
 rw[MR,MR] at R3;exact R3
theorem fY(R:Ro K I Y xs L)(h:K.lookup nm=some (jY tn bits od key))(hx:xs.length<2500):
 mm K I Y (xs++[rG key (bG 0 bits) od]) L (ac P (d+6) 31 [.ref I.p, .int 0, .str nm] Y) .none:=
 (BP _ (aG 31 [.ref I.p, .int 0, .str nm] Y [] (aJ R.obj rfl) (fu h) rfl (hG R h) rfl) (R.setRows (by rw[MH];show xs.length+1<3000;lia)) (.set (.head _)))
end
section
variable{K:List (Nat×PV)}{I:Fz}{Y s:aR}{xs ys:List PV}{L L':List (Nat×Nat)}{d nm tn bits proto base first od key:Nat}
theorem rt(k:sM K)(h:aV nm)(he:∀v,K.lookup nm=some v->On K e v):ac P (d+3) 13 [.fd K,e] Y= .ok (.int (aj nm)) Y:=by
 rcases h with rfl | rfl | rfl | rfl
 . exact rX (he _ k.et)
 . exact lA (he _ k.mp)
 . exact lA (he _ k.nf)
 . exact lA (he _ k.l4)
theorem qe(k:sM K)(h:aV nm)(he:∀v,K.lookup nm=some v->On K e v):ac P (d+3) 15 [.fd K,e] Y= .ok (.str `big) Y:=by
 rcases h with rfl | rfl | rfl | rfl
 . exact oN (he _ k.et)
 . exact gK (he _ k.mp)
 . exact gK (he _ k.nf)
 . exact gK (he _ k.l4)
theorem wk:sI I.fam 16 `ether 96:=
 ⟨(aE ([]) rfl %[|1]),λX hn=>(by exists _),by decide⟩
theorem Bt(k:sM K)(ho:I.ord=`big\/I.ord=`little)(R:Ro K I Y xs L)(h:aV nm)(hx:xs.length<2500)(hL:L.length<2500):mm K I Y (xs++[bU nm]) L (ac P (d+6) 31 [.ref I.p, .int 0, .str nm] Y) .none:=by
 rcases h with rfl | rfl | rfl | rfl
 . exact lm k ho R k.et wk hx hL
 . exact fY R k.mp hx
 . exact fY R k.nf hx
 . exact fY R k.l4 hx
theorem FQ(hm:m<=4):bS .sub (.int (1*2^(8*m):Nat)) (.int 1) Y= .ok (.int ((256^m - 1:Nat):Int)) Y:=by
 have:=d6 (Y:=Y) (a:=1*2^(8*m)) (b:=1) (by have:0<2^(8*m):=N2 %[|1];lia);rw[PX,AD] at this ⊢;exact this
theorem y4(k:sM K)(ho:I.ord=`big\/I.ord=`little)(R:Ro K I Y xs L)(h:aV nm)(hx:xs.length<2600):
 mm K I Y (xs++[rR (aX (256^aj nm - 1) (aj nm)) (aX 0 (aj nm))]) L (ac P (d+4) 32 [.ref I.p, .int 0,dm nm (256^aj nm - 1), .str `mask, .int (256^aj nm - 1:Nat)] Y) .none:=by
 exists bj (fQ h),sz1,sz2;generalize hsz:aj nm=m at*;have hp:0<256^m:=N2 %[|1];exists gO (d:=d) (p:=I.p) (n:=256^m - 1) (m:=m) (od:=`big) R.obj rfl (.inl rfl) %[|0] sz1 %[|0],g1,k1;exists gO (d:=d) (p:=I.p) (n:=0) (m:=m) (od:=`big) (R.app (g:=g1)).obj rfl (.inl rfl) hp sz1 %[|0],g2,k2;have R2:=(R.app (g:=g1)).app (g:=g2);have ks:ac P (d+3) 13 [.fd K,dm nm (256^m - 1)] Y= .ok (.int m) Y:=by
  rw[<-hsz];exact rt k h λv hv=>Fg hv
 refine(aE _ (jL (r:=%[.ref I.p,.int 0,dm nm (256^m - 1),.str `mask,.int (256^m - 1:Nat)|5]) rfl rfl rfl
  (aD (cT (bu (ai (cQ (av rfl) R.obj rfl) rfl) ks))
  (aD (cT (bu (ai (cQ (av rfl) R.obj rfl) rfl) (qe k h λv hv=>Fg hv)))
  (aD (cT (fA (fA bX (fA bX (av rfl) (gp (a:=8) (b:=m) %[|1] %[|0])) (ja (a:=1) (b:=8*m) %[|0] %[|1])) bX (FQ %[|0])))
  (aD (cT (fA (av rfl) (av rfl) ((zj (a:=256^m - 1) (b:=256^m - 1)).trans (by rw[Nat.and_self]))))
  (aD (cT (av rfl)) (aD (qb rfl (aD (cT (av rfl)) (aD (cT bX) cM)))
  (aD (qw (fy (cQ (av rfl) R.obj rfl) R.rows (iG (ai bC (ai (av rfl) (ai (av rfl) (ai (bu rfl k1) (ai (bu rfl k2) bA)))))) R2.rows %[|0])) cM)))))))) ?_)
 exact⟨R2.setRows (by rw[MH];show xs.length+1<3000;lia),(Fr.app.trans Fr.app).trans (.set (.head _))⟩
theorem rA(h:mm K I Y (xs++o) L' (ac P (d+6) 31 [.ref I.p, .int 0, .str nm] Y) .none):mm K I Y (xs++o) L' (ac P (d+7) 34 [.ref I.p, .int 0,aH nm] Y) .none:=by
 exists Kh h,s,k1,R,F;exact BP s (aG 34 [.ref I.p, .int 0,aH nm] Y [] rfl rfl rfl k1) R F
noncomputable def jX(nm:Nat):List PV:=[bU nm,rR (aX (256^aj nm - 1) (aj nm)) (aX 0 (aj nm))]
theorem Dp(k:sM K)(ho:I.ord=`big\/I.ord=`little)(R:Ro K I Y xs L)(h:aV nm)(hx:xs.length<2500)(hL:L.length<2500):mm K I Y (xs++jX nm) L (ac P (d+8) 34 [.ref I.p, .int 0,dm nm (256^aj nm - 1)] Y) .none:=by
 exists Kh (rA (Bt (d:=d) k ho R h hx hL)),s1,k1,R1,F1;exists Kh (y4 (d:=d+3) k ho R1 h (by rw[MH];show xs.length+1<2600;lia)),s2,k2,R2,F2;rw[MR] at R2;exact BP s2 (aG 34 [.ref I.p, .int 0,dm nm (256^aj nm - 1)] Y [] rfl rfl rfl rfl k1 rfl k2) R2 (F1.trans F2)
def zh(op:Nat):Prop:=op=15934\/op=8766\/op=61
structure HP(K:List (Nat×PV))(e:PV)(m od:Nat):Prop where
 size:∀d Y,ac P (d+3) 13 [.fd K,e] Y= .ok (.int m) Y
 order:∀d Y,ac P (d+3) 15 [.fd K,e] Y= .ok (.str od) Y
 m0:0<m/\m<=40
theorem t5(Z:HP K (aH nm) m od)(ho:I.ord=`big\/I.ord=`little)(hod:od=`big\/(od=`host/\op≠61))(R:Ro K I Y xs L)(hop:zh op)(hn:n<256^m)(hx:xs.length<2900)(hL:L.length<2900):
 mm K I Y (xs++[eU op (bZ (f5 od I.ord) (aX n m))]) (if op=15934 then cG L nm n else L) (ac P (d+4) 81 [.ref I.p,aH nm, .str op, .int n] Y) .none:=by
 exists bj Z.m0,m0,m1;have he:f5 od I.ord=`big\/f5 od I.ord=`little:=by
  rcases hod with rfl | ⟨rfl,_⟩
  . exact .inl rfl
  . exact ho
 exists gO (d:=d) (p:=I.p) (n:=n) (m:=m) (od:=od) R.obj rfl he hn m0 m1,g,k1;have R1:=R.app (g:=g);have R2:=R1.setRows (ys:=xs++[eU op (bZ (f5 od I.ord) (aX n m))]) (by rw[MH];show xs.length+1<3000;lia);have F2:Fr [I.a,I.k] Y ((Y++g).set I.a (.list (xs++[eU op (bZ (f5 od I.ord) (aX n m))]))):=Fr.app.trans (.set (.head _));rcases hop with rfl | rfl | rfl
 . have hks:dA (.ref I.k) (.str nm) (.int (n:Nat)) _= .ok () _:=im R2.known (by rw[rE];lia)
   erw[rM] at hks;rw[if_pos rfl];exact(BP _ (aG 81 [.ref I.p,aH nm, .str 15934, .int ↑n] Y [] (aJ R.obj rfl) (Z.size _ _) (aJ R.obj rfl) (Z.order _ _) rfl (aJ R.obj rfl) (eT R.rows) k1 (jl R1.rows %[|0]) rfl rfl rfl (aJ R2.obj rfl) rfl hks) (R2.setKnown (by have:=c7 nm n L;lia)) (F2.trans (.set (.tail _ (.head _)))))
 . rw[if_neg %[|1]]
   exact BP _ (aG 81 [.ref I.p,aH nm, .str 8766, .int ↑n] Y [] (aJ R.obj rfl) (Z.size _ _) (aJ R.obj rfl) (Z.order _ _) rfl (aJ R.obj rfl) (eT R.rows) k1 (jl R1.rows %[|0]) rfl) R2 F2
 . have hb:od=`big:=by
    rcases hod with h | ⟨_,h⟩
    . exact h
    . exact absurd rfl h
   subst hb;rw[if_neg %[|1]];exact BP _ (aG 81 [.ref I.p,aH nm, .str 61, .int ↑n] Y [] (aJ R.obj rfl) (Z.size _ _) (aJ R.obj rfl) (Z.order _ _) rfl rfl rfl (aJ R.obj rfl) (eT R.rows) k1 (jl R1.rows %[|0])) R2 F2
theorem Cb(k:sM K)(h:aV nm)(R:Ro K I Y xs L)(hn:n<256^aj nm)(hx:xs.length<2900):
 mm K I Y (xs++[eU 15934 (aX n (aj nm))]) L (ac P (d+4) 81 [.ref I.p,dm nm (256^aj nm - 1), .str 15934, .int n] Y) .none:=by
 exists bj (fQ h),m0,m1;exists gO (d:=d) (p:=I.p) (n:=n) (m:=aj nm) (od:=`big) R.obj rfl (.inl rfl) hn m0 %[|0],g,k1;have R1:=R.app (g:=g);have R2:=R1.setRows (ys:=xs++[eU 15934 (aX n (aj nm))]) (by rw[MH];show xs.length+1<3000;lia);exact BP _ (aG 81 [.ref I.p,dm nm (256^aj nm - 1), .str 15934, .int ↑n] Y [] (aJ R.obj rfl) (rt k h λv hv=>Fg hv) (aJ R.obj rfl) (qe k h λv hv=>Fg hv) rfl (aJ R.obj rfl) (eT R.rows) k1 (jl R1.rows %[|0]) rfl rfl rfl) R2 (Fr.app.trans (.set (.head _)))
end
section
set_option genCtorIdx true in
inductive FI where
 | pay (tn bits proto base first:Nat)|met (tn bits od key:Nat)
noncomputable def FI.pv:FI->PV
 | .pay tn bits proto base first=>mw tn bits proto base first
 | .met tn bits od key=>jY tn bits od key
noncomputable def FI.size:FI->Nat
 | .pay _ bits _ _ first=>bG (first % 8) bits
 | .met _ bits _ _=>bG 0 bits
noncomputable def FI.od:FI->Nat
 | .pay .. =>`big|.met _ _ od _=>od
set_option genCtorIdx true in
inductive dj where
 | fld (nm:Nat) (fi:FI) (op n:Nat)|msk (nm n:Nat)|vrd
noncomputable def dj.pv:dj->PV
 | .fld nm _ op n=> .tup [.str `«match»,aH nm, .str op, .tup [.str `num, .int n]]|.msk nm n=> .tup [.str `«match»,dm nm (256^aj nm - 1), .str 15934, .tup [.str `num, .int n]]|.vrd=> .tup [.str `verdict, .tup [.str `accept, .str 0]]
def FI.ok(fam op:Nat):FI->Prop
 | .pay _ bits proto _ first=>sI fam bits proto first
 | .met _ bits od _=>(0<bits/\bits<=200)/\(od=`big\/od=`host)/\op≠61
def dj.ok(K:List (Nat×PV))(fam:Nat):dj->Prop
 | .fld nm fi op n=>K.lookup nm=some fi.pv/\zh op/\n<256^fi.size/\fi.ok fam op|.msk nm n=>aV nm/\n<256^aj nm|.vrd=>True
noncomputable def dj.rows(fam ord:Nat)(L:List (Nat×Nat)):dj->List PV
 | .fld _ (.pay _ bits proto base first) op n=>lO fam L bits proto base first++[eU op (aX n (bG (first % 8) bits))]
 | .fld _ (.met _ bits od key) op n=>[rG key (bG 0 bits) od]++[eU op (bZ (f5 od ord) (aX n (bG 0 bits)))]|.msk nm n=>jX nm++[eU 15934 (aX n (aj nm))]|.vrd=>[dj.vrd.pv]
noncomputable def dj.know(fam:Nat)(L:List (Nat×Nat)):dj->List (Nat×Nat)
 | .fld nm (.pay _ _ proto _ _) op n=>if op=15934 then cG (mn L (an fam proto)) nm n else mn L (an fam proto)|.fld nm (.met ..) op n=>if op=15934 then cG L nm n else L|_=>L
theorem ln(hp:iM.lookup proto=some l0)(h0:l0.length<100):(an fam proto).length<100:=by
 unfold an;refine hp▸?_;exact MM (N5 _ _) h0
theorem dj.rows_len{st:dj}(h:st.ok K fam):(st.rows fam ord L).length<=204/\(st.know fam L).length<=L.length+100:=by
 match st,h with
 | .fld nm (.pay tn bits proto base first) op n,h=>
   exists aA ((show sI fam bits proto first from h.2.2.2).hp),l0,hp,h0;have hl:=ln (fam:=fam) hp h0;have hr:=fO (l:=an fam proto) (L:=L);have hc:=fN (many:=bG (first % 8) bits) (above:=first % 8) (bits:=bits);have hs:=c7 nm n (mn L (an fam proto));unfold dj.rows dj.know lO;rw[MH,MH,M0];refine⟨by show _+(_+1)+1<=204;lia,?_⟩;dsimp only;split<;>lia
 | .fld nm (.met tn bits od key) op n,h=>
   have hs:=c7 nm n L;refine⟨by show 2<=204;decide,?_⟩;unfold dj.know;dsimp only;split<;>lia
 | .msk nm n,h=>exact⟨by show 3<=204;decide,MV _ _⟩
 | .vrd,h=>exact⟨by show 1<=204;decide,MV _ _⟩
noncomputable def bV(fam ord:Nat):List (Nat×Nat)->List dj->List PV
 | _,[]=>[]|L,st::sts=>st.rows fam ord L++bV fam ord (st.know fam L) sts
section
variable{K:List (Nat×PV)}{I:Fz}{Y s:aR}{xs ys:List PV}{L L':List (Nat×Nat)}{d:Nat}{pl:Int}
theorem yq{fi:FI}(h:K.lookup nm=some fi.pv)(hk:fi.ok I.fam op):HP K (aH nm) fi.size fi.od:=by
 cases fi with
 | pay tn bits proto base first=>
   have b:=(show sI I.fam bits proto first from hk).hb;exact⟨λX X=>rX (nU h),λX X=>oN (nU h),by show 0<bG _ _/\bG _ _<=40;unfold bG;lia⟩
 | met tn bits od key=>
   have b:=hk.1;exact⟨λX X=>lA (nU h),λX X=>gK (nU h),by show 0<bG _ _/\bG _ _<=40;unfold bG;lia⟩
theorem pE(k1:ac P (d+8) 34 [.ref I.p, .int 0,e] Y= .ok .none s1)(F1:Fr [I.a,I.k] Y s1)
 (h:mm K I s1 ws M2 (ac P (d+8) 81 [.ref I.p,e, .str op, .int n] s1) .none):mm K I Y ws M2 (ac P (d+9) 83 [.ref I.p, .tup [.str `«match»,e, .str op, .tup [.str `num, .int n]], .int pl] Y) .none:=by
 exists Kh h,s2,k2,R2,F2;exact⟨s2,jL (r:=%[.ref I.p,.tup [.str `«match»,e, .str op, .tup [.str `num, .int n]],.int pl|5]) rfl rfl rfl (aD (k9 (av rfl) rfl) (aD (mq rfl cM)
  (aD (qw (bu rfl k1)) (aD (mq rfl (aD (qw (bu rfl k2)) cM)) cM)))),R2,F1.trans F2⟩
noncomputable def dj.mk:dj->Nat
 | .vrd=>79|_=>83
theorem JI(k:sM K)(ho:I.ord=`big\/I.ord=`little)(R:Ro K I Y xs L){st:dj}(h:st.ok K I.fam)(hx:xs.length<2500)(hL:L.length<2500):mm K I Y (xs++st.rows I.fam I.ord L) (st.know I.fam L) (ac P (d+9) st.mk [.ref I.p,st.pv, .int pl] Y) .none:=by
 match st,h with
 | .fld nm (.pay tn bits proto base first) op n,⟨h1,h2,h3,h4⟩=>
   exists aA ((show sI I.fam bits proto first from h4).hp),l0,hp,h0;have hl:=ln (fam:=I.fam) hp h0;have hr:=fO (l:=an I.fam proto) (L:=L);have hc:=fN (many:=bG (first % 8) bits) (above:=first % 8) (bits:=bits);exists Kh (rA (lm (d:=d+1) k ho R h1 h4 hx hL)),s1,k1,R1,F1;have R1l:(xs++lO I.fam L bits proto base first).length<2900:=by
    unfold lO;erw[MH,MH,M0];lia
   have:=t5 (d:=d+4) (n:=n) (op:=op) (yq (I:=I) (nm:=nm) (fi:= .pay tn bits proto base first) h1 h4) ho (.inl rfl) R1 h2 h3 R1l %[|0];erw[MR] at this;exact pE k1 F1 this
 | .fld nm (.met tn bits od key) op n,⟨h1,h2,h3,h4⟩=>
   exists Kh (rA (fY (d:=d+1) R h1 hx)),s1,k1,R1,F1;have:=t5 (d:=d+4) (n:=n) (op:=op) (yq (I:=I) (nm:=nm) (fi:= .met tn bits od key) h1 h4) ho (by rcases h4.2.1 with q | q;exact .inl q;exact .inr ⟨q,h4.2.2⟩) R1 h2 h3 (by rw[MH];show xs.length+1<2900;lia) %[|0];erw[MR] at this;exact pE k1 F1 this
 | .msk nm n,⟨h1,h2⟩=>
   exists cF (Dp (d:=d) k ho R h1 hx hL),s1,k1,R1,F1;have:=Cb (d:=d+4) (n:=n) k h1 R1 h2 (by rw[MH];show xs.length+2<2900;lia);erw[MR] at this;exact pE k1 F1 this
 | .vrd,_=>
   exact(BP _ (jL (r:=%[.ref I.p,dj.vrd.pv,.int pl|0]) rfl rfl rfl (aD (qw (fy (cQ (av rfl) R.obj rfl) R.rows (av rfl) R.rows %[|0])) cM)) (R.setRows (by rw[MH];lia)) (.set (.head _)))
noncomputable def eYq0:List (Nat×PV):=[(`«match», .fn 83),(`verdict, .fn 79)]
theorem Dd(st:dj)(Kz:∀tag l,st.pv= .tup (.str tag::l)->eYq0.lookup tag=some (.fn st.mk)->Gz):Gz:=by
 cases st<;>exact Kz _ _ rfl rfl
theorem FA(R:Ro K I Y xs L)(hm:Y[I.m]? =some (.dictS eYq0))(h:eYq0.lookup tag=some v):ac P (d+1) 80 [.ref I.p, .str tag] Y= .ok v Y:=by
 have h1:b8 .nin (.str tag) (.ref I.m) Y= .ok (.bool false) Y:=by
  show((((cO I.m).bnd _).bnd _):M PV) Y=_
  rw[ag (a:=true) (s':=Y) (by
   rw[ag (a8 hm)];show iR.ok ((eYq0.lookup tag).isSome) _=_
   refine h▸?_;rfl)]
  rfl
 have h2:dk (.ref I.m) (.str tag) Y= .ok v Y:=by
  show((cO I.m).bnd _) _=_
  rw[ag (a8 hm)];show aZ (eYq0.lookup tag) _=_;refine h▸?_;rfl
 exact aG 80 [.ref I.p, .str tag] Y [] (aJ R.obj rfl) h1 (aJ R.obj rfl) h2
def oV(ok:aR->Prop):It->List PV->Prop
 | it,[]=>∀s,ok s->dg it s= .ok none s|it,x::xs=>∃it',(∀s,ok s->dg it s= .ok (some (x,it')) s)/\oV ok it' xs
theorem DR:∀{xs:List PV},oV ok (.tup xs) xs:=by
 intro xs
 induction xs with
 | nil=>
   exactλX X=>rfl
 | cons _ _ DR=>
   exact aE _ (λX X=>rfl) DR
theorem xg:∀{xs:List PV} {i:Nat},all.drop i=xs->oV (λs=>s[n]? =some (.list all)) (.lst n i) xs:=by
 intro xs
 induction xs with
 | nil=>
   intro i e
   exactλs hs=>mY hs (by rw[Nt];exact Pp.mp e)
 | cons x xs xg=>
   intro i e;exact aE (.lst n (i+1)) (λs hs=>pH hs (by rw[<-Ps,e];rfl)) (xg (by rw[<-PB,e];rfl))
theorem vx:dk (.tup (x::l)) (.int 0) Y= .ok x Y:=by
 have h:k7 0 (l.length+1)=some 0:=by
  unfold k7;rw[if_pos (by rw[UE (Int.le_refl 0),UE %[|0]];rfl)];rfl
 show aZ ((k7 0 (l.length+1)).bind ((x::l)[·]?)) Y=_
 refine h▸?_;rfl
theorem i4{ok:aR->Prop}(k:sM K)(ho:I.ord=`big\/I.ord=`little)(hm0:Y0[I.m]? =some (.dictS eYq0))(hma:I.m∉[I.a,I.k])(hok:∀s,Fr [I.a,I.k] Y0 s->ok s):∀{sts:List dj} {it:It} {Y:aR} {xs:List PV} {L:List (Nat×Nat)} {z1 z2:Option PV} {pl:Int} {f:Nat},oV ok it (sts.map dj.pv)->Fr [I.a,I.k] Y0 Y->Ro K I Y xs L->(∀st∈sts,st.ok K I.fam)->sts.length<f->xs.length+204*sts.length<2500->L.length+100*sts.length<2500->
 (∀r' s,(fW (.one 9) (λr=>ax (ac P (d+9)) P.glo P.init (aQ lY 4) r) f it [r0,r1,r2,r3,r4,r5,r6,some (.ref I.p),some (.int pl),z1,z2] Y= .ok (.nxt,r') s)->r'[7]?.join=some (.ref I.p)->((∃L',Ro K I s (xs++bV I.fam I.ord L sts) L'))->Fr [I.a,I.k] Y0 s->Gz)->Gz:=by
 intro sts
 induction sts with
 | nil=>
   intro it Y xs L z1 z2 pl f y F0 R _ hf _ _ Kz;exists bx (MP (Nv hf)),f,rfl;exact Kz _ _ (gz (y _ (hok _ F0))) rfl (⟨L,by unfold bV;rw[M3];exact R⟩) F0
 | cons st sts i4=>
   rintro it Y xs L z1 z2 pl f ⟨it',y1,ys⟩ F0 R hg hf hx hL Kz;erw[M0] at hf hx hL;exists bx (MP (show f≠0 by lia)),f,rfl;have hst:=hg st (.head _);have hlen:=dj.rows_len (ord:=I.ord) (L:=L) hst;exists Dd st,tag,l,hpv,htag;exists cF (JI (d:=d) (pl:=pl) k ho R hst %[|0] %[|0]),s1,k1,R1,F1;exists i4 (z1:=some st.pv) (z2:=some (.fn st.mk)) (pl:=pl+1) (f:=f) ys (F0.trans F1) R1 (λx hx=>hg x (.tail _ hx)) %[|0] (by refine MH▸?_;lia) %[|0],r',s,k2,e2,R2,F2;rw[MR] at R2;refine(Kz r' s (iU (y1 _ (hok _ F0)) rfl (cE (aQ lY 4) [r0,r1,r2,r3,r4,r5,r6,some (.ref I.p),some (.int pl),some st.pv,z2] Y [] (show dk st.pv (.int 0) Y= .ok (.str tag) Y by refine hpv▸?_;exact vx) (FA R (F0.get hm0 hma) htag) k1 rfl) rfl k2) e2 R2 F2)
section
variable{call:db}{glo:Nat->PV}{init:Nat->Nat}{r:UG}{c:Nat}{fs:List (Nat×PV)}{l l':List aC}{v:PV}
theorem f0:(Y++o::l)[Y.length]? =some o:=by rw[Nh (MZ _),Pk];rfl
theorem eI:(Y++o::l).set Y.length o'=Y++o'::l:=by rw[PE _ _ (MZ _),Pk];rfl
theorem dE(h:af call glo init e r (Y++ .inst c fs::l)= .ok v (Y++ .inst c fs::l'))(h0:r[0]?.join=some (.ref Y.length))(hf:PR fs.length 4000=true):bc call glo init (.satt (.loc 0) a e) r (Y++ .inst c fs::l)= .ok (.nxt,r) (Y++ .inst c (bK fs a v)::l'):=by
 have:=uD (a:=a) h (av h0) f0 (MU hf);erw[eI] at this;exact this
theorem Aa:af call glo init (.lst []) r (Y++l)= .ok (.ref (Y.length+l.length)) (Y++(l++[.list []])):=by
 have:=mv (call:=call) (glo:=glo) (init:=init) (r:=r) (Y:=Y++l) bA;erw[MH,MR] at this;exact this
theorem rP:af call glo init (.dct [] []) r (Y++l)= .ok (.ref (Y.length+l.length)) (Y++(l++[.dictS []])):=by
 have:=vQ (call:=call) (glo:=glo) (init:=init) (r:=r) (Y:=Y++l);erw[MH,MR] at this;exact this
end
theorem tv:ac P (d+1) 109 [.ref Y.length, .fd K, .str fam, .str ord, .str `__set] (Y++[.inst 0 []])= .ok .none (Y++[.inst 0 (JZ K ⟨Y.length,Y.length+1,Y.length+2,Y.length+3,Y.length+4,Y.length+5,fam,ord⟩), .list [], .dictS [], .dictS [], .dictS [], .dictS []]):=
 aG 109 [.ref (Nb Y), .fd K, .str fam, .str ord, .str `__set] (Y++[aC.inst 0 []]) [2,2,2,2,2,2,2,2,2] (dE rfl rfl rfl) (dE rfl rfl rfl) (dE rfl rfl rfl) (dE rfl rfl rfl) (dE Aa rfl rfl) (dE rP rfl rfl) (dE rP rfl rfl) (dE rP rfl rfl) (dE rP rfl rfl)
def LV(Y:aR)(src:PV)(sts:List PV):Prop:=src= .tup sts\/∃q,src= .ref q/\Y[q]? =some (.list sts)
theorem LV.fr{M:List Nat}(h:LV Y src sts)(F:Fr M Y s)(hM:∀i∈M,Y.length<=i):LV s src sts:=by
 rcases h with h | ⟨q,h,g⟩
 . exact .inl h
 . exact .inr (aE q h (F.get g λz=>PY.mpr (hM q z) (bw g)))
theorem Fr.up{M:List Nat}(F:Fr M (Y++g) s)(hM:∀i∈M,Y.length<=i):Fr [] Y s:=
 ⟨MO (by erw[MH];lia) F.1,λi hi X=>(F.2 i (by erw[MH];lia) λz=>PY.mpr (hM i z) hi).trans (Nc hi)⟩
theorem dh(h:l[i]? =some o):(Y++l)[Y.length+i]? =some o:=by
 rw[Nh (MV _ _),Pz];exact h
noncomputable def qv(n mk fam ord:Nat):Fz:=⟨n,n+1,n+2,n+3,mk,n+5,fam,ord⟩
noncomputable def kH(K:List (Nat×PV))(I:Fz):aR:=[.inst 0 (JZ K I), .list [], .dictS [], .dictS [], .dictS [], .dictS []]
theorem vZ(h:i∈[(qv n mk fam ord).a,(qv n mk fam ord).k]):i=n+1\/i=n+3:=by
 exists N0 (MW.mp h) (λh=>?_),h
 . exact .inl h
 . exists N0 (MW.mp h) (λh=>?_),h
   . exact .inr h
   . cases h
theorem pI(k:sM K){fam ord mk:Nat}(ho:ord=`big\/ord=`little)(hs:LV Y src (sts.map dj.pv))(hm:Y[mk]? =some (.dictS eYq0))(hg:∀st∈sts,st.ok K fam)(hl:sts.length<=12)(Kz:∀s a b,ac P (d+10) 85 [.fd K, .ref mk, .str fam,src, .str ord] Y= .ok (.tup [.ref a, .ref b]) s->s[a]? =some (.list (bV fam ord [] sts))->s[b]? =some (.dictS [])->Fr [] Y s->Y.length<=a->Y.length<=b->Gz):Gz:=gH (show∃s a b,ac P (d+10) 85 [.fd K, .ref mk, .str fam,src, .str ord] Y= .ok (.tup [.ref a, .ref b]) s/\s[a]? =some (.list (bV fam ord [] sts))/\s[b]? =some (.dictS [])/\Fr [] Y s/\Y.length<=a/\Y.length<=b from by
 have hmk:=bw hm;have R:Ro K (qv Y.length mk fam ord) (Y++kH K (qv Y.length mk fam ord)) [] []:=⟨f0,dh (i:=1) rfl,dh (i:=3) rfl,by decide⟩;have hma:mk∉[(qv Y.length mk fam ord).a,(qv Y.length mk fam ord).k]:=λz=>by
  rcases vZ z with z | z<;>lia
 have hM:∀i∈[(qv Y.length mk fam ord).a,(qv Y.length mk fam ord).k],Y.length<=i:=λi z=>by
  rcases vZ z with z | z<;>lia
 have e7:bc (ac P (d+9)) P.glo P.init (TA 7 (E.new 0 [Tr 0,Tr 2,Tr 4,Tr 5])) %[.fd K,.ref mk,.str fam,src,.str ord,.str `__set,.none|4] Y=
  .ok (.nxt,%[.fd K,.ref mk,.str fam,src,.str ord,.str `__set,.none,.ref Y.length|3]) (Y++kH K (qv Y.length (Y.length+4) fam ord)):=
  cT (Lj rfl (tv (d:=d+8)))
 have e8:bc (ac P (d+9)) P.glo P.init (TJ (Tr 7) `makers (Tr 1)) %[.fd K,.ref mk,.str fam,src,.str ord,.str `__set,.none,.ref Y.length|3] (Y++kH K (qv Y.length (Y.length+4) fam ord))=
  .ok (.nxt,%[.fd K,.ref mk,.str fam,src,.str ord,.str `__set,.none,.ref Y.length|3]) (Y++kH K (qv Y.length mk fam ord)):=by
  have:=uD (call:=ac P (d+9)) (glo:=P.glo) (init:=P.init) (r:=%[.fd K,.ref mk,.str fam,src,.str ord,.str `__set,.none,.ref Y.length|3]) (o:= .loc 7) (a:=`makers) (e:= .loc 1)
   (Y:=Y++kH K (qv Y.length (Y.length+4) fam ord)) (av rfl) (av rfl) f0 (MU rfl)
  erw[kH,eI] at this;exact this
 have fin:∀{r':UG} {s:aR} {it:It},pc false src (Y++kH K (qv Y.length mk fam ord))= .ok (it,sts.length) (Y++kH K (qv Y.length mk fam ord))->r'[7]?.join=some (.ref Y.length)->(∃L',Ro K (qv Y.length mk fam ord) s ([]++bV fam ord [] sts) L')->Fr [(qv Y.length mk fam ord).a,(qv Y.length mk fam ord).k] (Y++kH K (qv Y.length mk fam ord)) s->
  fW (.one 9) (λr=>ax (ac P (d+9)) P.glo P.init (aQ lY 4) r) (sts.length+1) it %[.fd K,.ref mk,.str fam,src,.str ord,.str `__set,.none,.ref Y.length,.int 0|2] (Y++kH K (qv Y.length mk fam ord))= .ok (.nxt,r') s->
  ∃s a b,ac P (d+10) 85 [.fd K, .ref mk, .str fam,src, .str ord] Y= .ok (.tup [.ref a, .ref b]) s/\s[a]? =some (.list (bV fam ord [] sts))/\s[b]? =some (.dictS [])/\Fr [] Y s/\Y.length<=a/\Y.length<=b:=λ{r' s it} hi h7 ⟨L',R2⟩ F2 hf=>
  (ik s (Y.length+1) (Y.length+2) (bT (eC (r:=%[.fd K,.ref mk,.str fam,src,.str ord,.str `__set,.none|4]) rfl rfl rfl (aD e7 (aD e8 (aD (mq rfl cM) (aD (cT bX)
    (aD (uO (av rfl) hi hf) (nb (wj (iG (ai (cQ (av h7) R2.obj rfl) (ai (cQ (av h7) R2.obj rfl) bA))))))))))) R2.rows (F2.get (dh (i:=2) rfl) (λz=>by rcases vZ z with z | z<;>lia)) (F2.up hM) (jw (MV _ _) (MV _ _))))
 rcases hs with rfl | ⟨q,rfl,hq⟩
 . exists i4 (d:=d) (K:=K) (r0:=some (.fd K)) (r1:=some (.ref mk)) (r2:=some (.str fam)) (r3:=some (.tup (sts.map dj.pv))) (r4:=some (.str ord)) (r5:=some (.str `__set)) (r6:=some .none) (ok:=λX=>True) (I:=qv Y.length mk fam ord) (Y0:=Y++kH K (qv Y.length mk fam ord)) k ho (aU hm) hma (λX X=>trivial) (z1:=none) (z2:=none) (pl:=0) (f:=sts.length+1) (DR (xs:=sts.map dj.pv)) .refl R hg %[|0] (by erw[NN];lia) (by erw[NN];lia),r',s,k1,e1,R1,F1
   exact fin (show iR.ok (It.tup (sts.map dj.pv),(sts.map dj.pv).length) _=_ by rw[MN]) e1 R1 F1 k1
 . have hq1:=bw hq
   have hqa:q∉[(qv Y.length mk fam ord).a,(qv Y.length mk fam ord).k]:=λz=>by
    rcases vZ z with z | z<;>lia
   exists i4 (d:=d) (K:=K) (r0:=some (.fd K)) (r1:=some (.ref mk)) (r2:=some (.str fam)) (r3:=some (.ref q)) (r4:=some (.str ord)) (r5:=some (.str `__set)) (r6:=some .none) (ok:=λs=>s[q]? =some (.list (sts.map dj.pv))) (I:=qv Y.length mk fam ord) (Y0:=Y++kH K (qv Y.length mk fam ord)) k ho (aU hm) hma (λs F=>F.get (aU hq) hqa) (z1:=none) (z2:=none) (pl:=0) (f:=sts.length+1) (xg (all:=sts.map dj.pv) (i:=0) rfl) .refl R hg %[|0] (by erw[NN];lia) (by erw[NN];lia),r',s,k1,e1,R1,F1
   exact fin ((ey (aU hq)).trans (by erw[MN])) e1 R1 F1 k1) Kz
end
end
structure kL where
 p:Nat
 se:Nat
 ce:Nat
 sl:Nat
 kn:Nat
 st:Nat
 fam:Nat
 ord:Nat
 rg:Nat
 bk:Nat
 bd:List (Nat×PV)
structure Pd where
 nm:Nat
 num:Nat
 at_:Nat
structure fp where
 at_:Nat
 pe:Nat
 dr:Nat
 slot:Option PV
 known:List (Nat×(Nat×Nat))
 pd:List Pd
 dp:List (Nat×PV)
 sts:List (Nat×PV)
noncomputable def kJ(L:List (Nat×(Nat×Nat))):List (Nat×PV):=L.map λx=>(x.1,(λy:Nat×Nat=> .tup [.int y.1, .int y.2]) x.2)
noncomputable def iV(rg:Nat)(q:Pd):PV:= .tup [.str q.nm, .int q.num, .int rg, .int q.at_]
noncomputable def gB(e:Nat×PV):PV:= .tup [.int e.1,e.2]
noncomputable def wp(q:Pd):PV:= .tup [.str `«match»,aH q.nm, .str 15934, .tup [.str `num, .int q.num]]
noncomputable def wf(rg:Nat):Option PV->aC
 | none=> .dictS []|some v=> .dictI [((rg:Int),v)]
noncomputable def ty(K:List (Nat×PV))(I:kL)(D:fp):List (Nat×PV):=[(`fields, .fd K),(`family, .str I.fam),(`sets, .ref I.se),(`order, .str I.ord),(`cells, .ref I.ce),(25205, .int D.at_),(`slots, .ref I.sl),(`known, .ref I.kn),(`pending, .ref D.pe),(`dropped, .ref D.dr),(`statements, .ref I.st)]
structure Rd(N:Nat)(K:List (Nat×PV))(I:kL)(Y:aR)(D:fp):Prop where
 obj:Y[I.p]? =some (.inst 1 (ty K I D))
 slots:Y[I.sl]? =some (wf I.rg D.slot)
 known:Y[I.kn]? =some (.dictS (kJ D.known))
 pend:Y[D.pe]? =some (.list (D.pd.map (iV I.rg)))
 drop:Y[D.dr]? =some (.list (D.dp.map gB))
 stat:Y[I.st]? =some (.list (D.sts.map gB))
 cells:Y[I.ce]? =some (.dictS [])
 backs:Y[I.bk]? =some (.dictS I.bd)
 above:N<=I.p/\N<=I.sl/\N<=I.kn/\N<=D.pe/\N<=D.dr/\N<=I.st
 apart:D.pe≠D.dr/\D.pe≠I.st/\D.dr≠I.st/\I.sl≠I.kn/\I.ce≠I.sl/\I.ce≠I.kn/\I.bk≠I.sl/\I.bk≠I.kn
 small:D.known.length<100/\D.pd.length<100/\D.dp.length<1000/\D.sts.length<1000
def ju(N:Nat)(Y s:aR):Prop:=Y.length<=s.length/\∀i,i<N->s[i]? =Y[i]?
section
variable{N n:Nat}{Y s t g:aR}{o:aC}
theorem ju.refl:ju N Y Y:=⟨MZ _,λX X=>rfl⟩
theorem ju.trans(a:ju N Y s)(b:ju N s t):ju N Y t:=⟨MO a.1 b.1,λi hi=>(b.2 i hi).trans (a.2 i hi)⟩
theorem ju.set(h:N<=n):ju N Y (Y.set n o):=⟨by erw[ND];exact MZ _,λi hi=>Nq %[|0]⟩
theorem ju.app(h:N<=Y.length):ju N Y (Y++g):=⟨by erw[MH];lia,λi hi=>Nc %[|0]⟩
theorem ju.of_fr(F:Fr [] Y s)(h:N<=Y.length):ju N Y s:=⟨F.1,λi hi=>F.2 i %[|0] MS⟩
end
section
variable{N:Nat}{K:List (Nat×PV)}{I:kL}{Y s:aR}{D:fp}
theorem dW:wf rg v≠ .list xs:=by cases v<;>nofun
theorem gY:wf rg v≠ .inst c xs:=by cases v<;>nofun
theorem Rd.fr(R:Rd N K I Y D)(F:Fr [] Y s):Rd N K I s D:=
 ⟨F.get R.obj MS,F.get R.slots MS,F.get R.known MS,F.get R.pend MS,F.get R.drop MS,F.get R.stat MS,F.get R.cells MS,F.get R.backs MS,R.above,R.apart,R.small⟩
theorem Rd.app(R:Rd N K I Y D):Rd N K I (Y++g) D:=R.fr .app
theorem Rd.low(R:Rd N K I Y D):N<=Y.length:=MO R.above.1 (Nk (bw R.obj))
theorem Rd.setKnown(R:Rd N K I Y D)(h:L.length<100):Rd N K I (Y.set I.kn (.dictS (kJ L))) {D with known:=L}:=
 ⟨au R.obj (am R.known R.obj (λz=>aC.noConfusion z)),au R.slots (Ni R.apart.2.2.2.1),bJ R.known,au R.pend (am R.known R.pend (λz=>aC.noConfusion z)),au R.drop (am R.known R.drop (λz=>aC.noConfusion z)),au R.stat (am R.known R.stat (λz=>aC.noConfusion z)),au R.cells (Ni R.apart.2.2.2.2.2.1),au R.backs (Ni R.apart.2.2.2.2.2.2.2),R.above,R.apart,h,R.small.2⟩
theorem Rd.setSlot(R:Rd N K I Y D):Rd N K I (Y.set I.sl (wf I.rg (some v))) {D with slot:=some v}:=
 ⟨au R.obj (am R.slots R.obj gY),bJ R.slots,au R.known R.apart.2.2.2.1,au R.pend (am R.slots R.pend dW),au R.drop (am R.slots R.drop dW),au R.stat (am R.slots R.stat dW),au R.cells (Ni R.apart.2.2.2.2.1),au R.backs (Ni R.apart.2.2.2.2.2.2.1),R.above,R.apart,R.small⟩
theorem Rd.setStat(R:Rd N K I Y D)(h:l.length<1000):Rd N K I (Y.set I.st (.list (l.map gB))) {D with sts:=l}:=
 ⟨au R.obj (am R.stat R.obj (λz=>aC.noConfusion z)),au R.slots (am R.stat R.slots λz=>dW z.symm),au R.known (am R.stat R.known (λz=>aC.noConfusion z)),au R.pend (Ni R.apart.2.1),au R.drop (Ni R.apart.2.2.1),bJ R.stat,au R.cells (am R.stat R.cells (λz=>aC.noConfusion z)),au R.backs (am R.stat R.backs (λz=>aC.noConfusion z)),R.above,R.apart,R.small.1,R.small.2.1,R.small.2.2.1,h⟩
theorem Rd.setDrop(R:Rd N K I Y D)(h:l.length<1000):Rd N K I (Y.set D.dr (.list (l.map gB))) {D with dp:=l}:=
 ⟨au R.obj (am R.drop R.obj (λz=>aC.noConfusion z)),au R.slots (am R.drop R.slots λz=>dW z.symm),au R.known (am R.drop R.known (λz=>aC.noConfusion z)),au R.pend (Ni R.apart.1),bJ R.drop,au R.stat R.apart.2.2.1,au R.cells (am R.drop R.cells (λz=>aC.noConfusion z)),au R.backs (am R.drop R.backs (λz=>aC.noConfusion z)),R.above,R.apart,R.small.1,R.small.2.1,h,R.small.2.2.2⟩
theorem Rd.setPend(R:Rd N K I Y D)(h:l.length<100):Rd N K I (Y.set D.pe (.list (l.map (iV I.rg)))) {D with pd:=l}:=
 ⟨au R.obj (am R.pend R.obj (λz=>aC.noConfusion z)),au R.slots (am R.pend R.slots λz=>dW z.symm),au R.known (am R.pend R.known (λz=>aC.noConfusion z)),bJ R.pend,au R.drop R.apart.1,au R.stat R.apart.2.1,au R.cells (am R.pend R.cells (λz=>aC.noConfusion z)),au R.backs (am R.pend R.backs (λz=>aC.noConfusion z)),R.above,R.apart,R.small.1,h,R.small.2.2⟩
theorem Rd.setAt(R:Rd N K I Y D):Rd N K I (Y.set I.p (.inst 1 (ty K I {D with at_:=a}))) {D with at_:=a}:=
 ⟨bJ R.obj,au R.slots (am R.obj R.slots λz=>gY z.symm),au R.known (am R.obj R.known (λz=>aC.noConfusion z)),au R.pend (am R.obj R.pend (λz=>aC.noConfusion z)),au R.drop (am R.obj R.drop (λz=>aC.noConfusion z)),au R.stat (am R.obj R.stat (λz=>aC.noConfusion z)),au R.cells (am R.obj R.cells (λz=>aC.noConfusion z)),au R.backs (am R.obj R.backs (λz=>aC.noConfusion z)),R.above,R.apart,R.small⟩
theorem Rd.newPend(R:Rd N K I Y D)(h:l.length<100):Rd N K I ((Y++[aC.list (l.map (iV I.rg))]).set I.p (.inst 1 (ty K I {D with pe:=Y.length,pd:=l}))) {D with pe:=Y.length,pd:=l}:=by
 have R1:=R.app (g:=[.list (l.map (iV I.rg))]);have hp:=bw R.obj;have hd:=bw R.drop;have hs:=bw R.stat;exact⟨bJ R1.obj,au R1.slots (am R.obj R.slots λz=>gY z.symm),au R1.known (am R.obj R.known (λz=>aC.noConfusion z)),au aM %[|0],au R1.drop (am R.obj R.drop (λz=>aC.noConfusion z)),au R1.stat (am R.obj R.stat (λz=>aC.noConfusion z)),au R1.cells (am R.obj R.cells (λz=>aC.noConfusion z)),au R1.backs (am R.obj R.backs (λz=>aC.noConfusion z)),
  (bT R.above.1 R.above.2.1 R.above.2.2.1 R.low R.above.2.2.2.2),(dq %[|0] %[|0] R.apart.2.2),R.small.1,h,R.small.2.2⟩
theorem Rd.newDrop(R:Rd N K I Y D):Rd N K I ((Y++[aC.list []]).set I.p (.inst 1 (ty K I {D with dr:=Y.length,dp:=[]}))) {D with dr:=Y.length,dp:=[]}:=by
 have R1:=R.app (g:=[.list []]);have hp:=bw R.obj;have hd:=bw R.pend;have hs:=bw R.stat;exact⟨bJ R1.obj,au R1.slots (am R.obj R.slots λz=>gY z.symm),au R1.known (am R.obj R.known (λz=>aC.noConfusion z)),au R1.pend (am R.obj R.pend (λz=>aC.noConfusion z)),au aM %[|0],au R1.stat (am R.obj R.stat (λz=>aC.noConfusion z)),au R1.cells (am R.obj R.cells (λz=>aC.noConfusion z)),au R1.backs (am R.obj R.backs (λz=>aC.noConfusion z)),
  (lX R.above.1 R.above.2.1 R.above.2.2.1 R.above.2.2.2.1 R.low R.above.2.2.2.2.2),(eK %[|0] R.apart.2.1 %[|0] R.apart.2.2.2),R.small.1,R.small.2.1,by show 0<1000;lia,R.small.2.2.2⟩
def gV(N:Nat)(K:List (Nat×PV))(I:kL)(Y:aR)(D':fp)(o:iR PV)(v:PV):Prop:=∃s pe dr,o= .ok v s/\Rd N K I s {D' with pe:=pe,dr:=dr}/\ju N Y s
theorem wa{D':fp}{o:iR PV}{v:PV}(s:aR)(pe dr:Nat)(h1:o= .ok v s)(h2:Rd N K I s {D' with pe:=pe,dr:=dr})(h3:ju N Y s):gV N K I Y D' o v:=lZ s pe dr h1 h2 h3
theorem xU{D':fp}{o:iR PV}{v:PV}(h:gV N K I Y D' o v)(k:∀s pe dr,o= .ok v s->Rd N K I s {D' with pe:=pe,dr:=dr}->ju N Y s->Gz):Gz:=fF h k
end
noncomputable def bi(L:List (Nat×(Nat×Nat)))(q:Pd):List (Nat×(Nat×Nat)):=match L.lookup q.nm with
 | some y=>if y.1<q.at_ then cG L q.nm (q.at_,q.num) else L|none=>cG L q.nm (q.at_,q.num)
theorem mj:(bi L q).length<=L.length+1:=by
 unfold bi;split
 . split
   . exact c7 ..
   . exact QT _
 . exact c7 ..
theorem i6:∀{l:List Pd} {L:List (Nat×(Nat×Nat))},(l.foldl bi L).length<=L.length+l.length:=by
 intro l
 induction l with
 | nil=>
   intro _;exact MZ _
 | cons q l i6=>
   intro L;have:=i6 (L:=bi L q);have h2:=mj (L:=L) (q:=q);erw[NE,M0];lia
section
variable{d:Nat}{Y:aR}{q:Nat}{L:List (Nat×(Nat×Nat))}
theorem qy(k:Nat):(kJ L).lookup k=(L.lookup k).map λy=>TY [.int y.1, .int y.2]:=gE (λy:Nat×Nat=>TY [.int y.1, .int y.2]) k L
theorem Gi(k:Nat)(v:Nat×Nat):bK (kJ L) k (.tup [.int v.1, .int v.2])=kJ (cG L k v):=mh (λy:Nat×Nat=>TY [.int y.1, .int y.2]) k v L
theorem nB(h:Y[q]? =some (.dictS kvs)):b8 .nin (.str k) (.ref q) Y= .ok (.bool (!(kvs.lookup k).isSome)) Y:=by
 show((((cO q).bnd _).bnd _):M PV) Y=_
 rw[ag (a:=(kvs.lookup k).isSome) (s':=Y) (by
  rw[ag (a8 h)];cases kvs<;>rfl)]
 rfl
theorem l8(h:Y[q]? =some (.dictS kvs))(hv:kvs.lookup k=some v):dk (.ref q) (.str k) Y= .ok v Y:=by
 show((cO q).bnd _) Y=_
 rw[ag (a8 h)];show aZ (kvs.lookup k) Y=_;refine hv▸?_;rfl
theorem DJ(h:Y[q]? =some o):Y.set q o=Y:=by
 exists bx (M4.mp h),h1,h2;refine h2▸?_;exact RJ h1
theorem zx(h:Y[q]? =some (.dictS (kJ L)))(hl:L.length<3000):ac P (d+1) 38 [.ref q, .str z.nm, .int z.num, .int z.at_] Y= .ok .none (Y.set q (.dictS (kJ (bi L z)))):=by
 have hks:dA (.ref q) (.str z.nm) (.tup [.int z.at_, .int z.num]) Y= .ok () _:=im h (by unfold kJ;rw[MN];lia);erw[Gi z.nm (z.at_,z.num)] at hks;have hnin:=nB (k:=z.nm) h;rw[qy] at hnin
 have go:∀{t:aR},fH (ac P d) P.glo P.init [Tz .nin (Tr 1) (Tr 0),Tz .lt (Tv (Tv (Tr 0) (Tr 1)) (Ts 0)) (Tr 3)] %[.ref q,.str z.nm,.int z.num,.int z.at_|0] Y= .ok true Y->bi L z=cG L z.nm (z.at_,z.num)->
  ac P (d+1) 38 [.ref q, .str z.nm, .int z.num, .int z.at_] Y= .ok .none (Y.set q (.dictS (kJ (bi L z)))):=λho e=>by
  refine e▸?_;exact aG 38 [.ref q, .str z.nm, .int ↑z.num, .int ↑z.at_] Y [1] (AM ho) hks
 cases hL:L.lookup z.nm with
 | none=>
   rw[hL] at hnin;exact go (t:=Y) (Dy (dn λw=>w hnin)) (by unfold bi;rw[hL])
 | some y=>
   rw[hL] at hnin;have hv:(kJ L).lookup z.nm=some (.tup [.int y.1, .int y.2]):=by erw[qy,hL];rfl
   by_cases c:y.1<z.at_
   . exact go (t:=Y) (xL (dn λw=>w hnin) (Dy (dn λw=>w (l8 h hv) rfl (nZ (UE %[|0]))))) (by unfold bi;rw[hL];exact if_pos c)
   . have e:bi L z=L:=by unfold bi;rw[hL];exact if_neg c
     erw[e,DJ h];exact aG 38 [.ref q, .str z.nm, .int ↑z.num, .int ↑z.at_] Y [] hnin (l8 h hv) rfl (nZ (UF %[|0]))
theorem f7{i:Nat}(h:Y[q]? =some (.list xs))(hv:xs[i]? =some v):dk (.ref q) (.int i) Y= .ok v Y:=by
 show((cO q).bnd _) Y=_
 rw[ag (a8 h)];show aZ ((k7 i xs.length).bind (xs[·]?)) Y=_;have:k7 i xs.length=some i:=by
  unfold k7;rw[if_pos (by erw[UE (M9 i),UE (Qi.mpr ((M4.mp hv).1))];rfl)];rfl
 refine this▸?_;show aZ xs[i]? Y=_;refine hv▸?_;rfl
theorem jI(h:Y[q]? =some (.list xs)):lx (.ref q) Y= .ok (.int xs.length) Y:=by
 show((cO q).bnd _) Y=_
 rw[ag (a8 h)];rfl
theorem lT{a:Nat}(h:Y[q]? =some (.list (es.map gB)))(ha:∀e∈es,e.1<=a)(hl:es.length<3000):ac P (d+1) 37 [.ref q, .int a,v] Y= .ok .none (Y.set q (.list ((es++[(a,v)]).map gB))):=by
 have ins:∀{t:aR},ax (ac P d) P.glo P.init [TB (E.insert (Tr 0) (Tr 3) (Tu [Tr 1,Tr 2]))] %[.ref q,.int a,v,.int es.length|0] Y= .ok (.nxt,%[.ref q,.int a,v,.int es.length|0]) (Y.set q (.list ((es++[(a,v)]).map gB))):=λ{t}=>by
  have:=Eg (call:=ac P d) (glo:=P.glo) (init:=P.init) (r:=%[.ref q,.int a,v,.int es.length|0]) (o:= .loc 0) (i:= .loc 3) (a:= .tup [.loc 1, .loc 2]) (k:=es.length) (av rfl) h (av rfl) rfl h (M9 _) (by rw[MN];exact Int.le_refl _) (by rw[MN];lia);rw[Rb, <-MN (f:=gB),Pb,Qy] at this;rw[Nm, <-MN (f:=gB)];exact cE ([TB ((Tr 0).insert (Tr 3) (Tu [Tr 1,Tr 2]))]) %[.ref q,.int ↑a,v,.int ↑(Pa gB es).length|0] Y [1] this
 have hlen:=jI h;rw[MN] at hlen;refine jL (r:=%[.ref q,.int a,v|1]) rfl rfl rfl (aD (cT (t6 (av rfl) hlen)) (aD (yk (tP ?_)) (ins (t:=Y))));exists N0 (SU es.length) (λz=>?_),z
 . exact dn λw=>w (iS (UF %[|0]))
 . have hi:es.length - 1<es.length:=by lia
   have hg:(es.map gB)[es.length - 1]? =some (gB es[es.length - 1]):=by erw[Ny,MX hi];rfl
   have hm:=ha _ (PA hi);exact dn λw=>w (iS (UE %[|0])) (d6 (a:=es.length) (b:=1) z) (f7 h hg) rfl (iS (UF %[|0]))
theorem oy:ac P (d+1) 39 [iV rg z] Y= .ok (wp z) Y:=
 aG 39 [iV rg z] Y [] rfl rfl
end
section
variable{N:Nat}{K:List (Nat×PV)}{I:kL}{Y s:aR}{D:fp}{d:Nat}
noncomputable def iL(q:Pd):Nat×PV:=(q.at_,wp q)
noncomputable def cK(D:fp):fp:={D with known:=D.pd.foldl bi D.known,sts:=D.sts++D.pd.map iL,pd:=[]}
theorem jR(hrg:I.rg=0):∀{l:List Pd} {it:It} {Y:aR} {D:fp} {z:Option PV} {f:Nat},D.pd.map (iV I.rg)=all->oV (λs=>s[D.pe]? =some (.list all)) it (l.map (iV I.rg))->Rd N K I Y D->(∀e∈D.sts,∀q∈l,e.1<=q.at_)->l.Pairwise (λa b=>a.at_<=b.at_)->l.length<f->D.known.length+l.length<100->D.sts.length+l.length<1000->
 (∀r' s,(fW (.one 1) (λr=>ax (ac P (d+1)) P.glo P.init (aQ vC 0) r) f it %[.ref I.p|[z]] Y= .ok (.nxt,%[.ref I.p|[r']]) s)->Rd N K I s {D with known:=l.foldl bi D.known,sts:=D.sts++l.map iL}->ju N Y s->Gz)->Gz:=by
 intro l
 induction l with
 | nil=>
   intro it Y D z f hall y R _ _ hf _ _ Kz;exists bx (MP (Nv hf)),f,rfl;exact Kz _ _ (gz (y _ (by refine hall▸?_;exact R.pend))) (by erw[PL,M3];exact R) .refl
 | cons q l jR=>
   rintro it Y D z f hall ⟨it',y1,ys⟩ R hlow hp hf hk hs Kz;erw[M0] at hf hk hs;exists bx (MP (show f≠0 by lia)),f,rfl;have hp':=Qg.mp hp;have hn:=mj (L:=D.known) (q:=q);have R1:=R.setKnown (L:=bi D.known q) %[|0];have R2:=R1.setStat (l:=D.sts++[iL q]) (by refine MH▸?_;show D.sts.length+1<1000;lia)
   refine jR (it:=it') (D:={D with known:=bi D.known q,sts:=D.sts++[iL q]}) (z:=some (iV I.rg q)) (f:=f) hall ys R2 (λe he x hx=>by
    exists N0 (M5.mp he) (λhe=>?_),he
    . exact hlow e he x (.tail _ hx)
    . rcases MW.mp he with rfl | he
      . exact hp'.1 x hx
      . exists _) hp'.2 %[|0] (by show(bi D.known q).length+l.length<100;lia) (by refine MH▸?_;show D.sts.length+1+l.length<1000;lia) λr' s k R3 B3=>?_
   refine(Kz r' s (iU (y1 _ (by refine hall▸?_;exact R.pend)) rfl (cE (aQ vC 0) %[.ref I.p,iV I.rg q|0] Y [] rfl (pT (UF (by refine hrg▸?_;decide))) (aJ R.obj rfl) rfl rfl rfl (zx (z:=q) R.known (by have:=R.small.1;lia)) (aJ R1.obj rfl) rfl oy (lT R1.stat (λe he=>hlow e he q (.head _)) (by have:=R.small.2.2.2;lia))) rfl k) ?_ (((ju.set R.above.2.2.1).trans (ju.set R.above.2.2.2.2.2)).trans B3));have e:D.sts++(q::l).map iL=D.sts++[iL q]++l.map iL:=by erw[MR];rfl
   erw[e];exact R3
theorem GP(R:Rd N K I Y D):pc false (.ref D.pe) Y= .ok (.lst D.pe 0,D.pd.length) Y:=(ey R.pend).trans (by rw[MN])
theorem Af(hrg:I.rg=0)(R:Rd N K I Y D)(hlow:∀e∈D.sts,∀q∈D.pd,e.1<=q.at_)(hp:D.pd.Pairwise (λa b=>a.at_<=b.at_))(hk:D.known.length+D.pd.length<100)(hs:D.sts.length+D.pd.length<1000):
 gV N K I Y (cK D) (ac P (d+2) 40 [.ref I.p] Y) .none:=by
 exists jR (d:=d) hrg (l:=D.pd) (z:=none) (f:=D.pd.length+1) rfl (xg (i:=0) rfl) R hlow hp %[|0] hk hs,r',s,k,R1,B1;exact(wa _ _ _ (aG 40 [.ref I.p] Y [] (aJ R.obj rfl) (GP R) k (gM (R1.app (g:=[.list []])).obj (MU rfl))) (R1.newPend (l:=[]) %[|1]) ((B1.trans (.app R1.low)).trans (.set R.above.1)))
theorem CH{l:List Pd}(h1:∀e∈es,e.1<=a)(h2:∀q∈l,q.at_<=a):∀e∈es++l.map iL,e.1<=a:=λe he=>by
 exists N0 (M5.mp he) (λhe=>?_),he
 . exact h1 e he
 . exists aA (Nd.mp he),q,hq,rfl
   exact h2 q hq
theorem Cr(hrg:I.rg=0){v:PV}(R:Rd N K I Y D)(hlow:∀e∈D.sts,∀q∈D.pd,e.1<=q.at_)(hp:D.pd.Pairwise (λa b=>a.at_<=b.at_))(hk:D.known.length+D.pd.length<100)(hs:D.sts.length+D.pd.length<900)(ha:∀e∈D.sts,e.1<=D.at_)(hb:∀q∈D.pd,q.at_<=D.at_):
 gV N K I Y {cK D with sts:=(cK D).sts++[(D.at_,v)]} (ac P (d+3) 41 [.ref I.p,v] Y) .none:=by
 exists xU (Af (d:=d) hrg R hlow hp hk %[|0]),s,pe,dr,k,R1,B1;have hl:(cK D).sts.length<900:=by unfold cK;erw[MH,MN];omega
 have R2:=R1.setStat (l:=(cK D).sts++[(D.at_,v)]) (by rw[MH];show _+1<1000;lia);exact wa _ _ _ (aG 41 [.ref I.p,v] Y [] k (aJ R1.obj rfl) (aJ R1.obj rfl) (lT R1.stat (CH ha hb) %[|0])) R2 (B1.trans (.set R.above.2.2.2.2.2))
def Kn(L:List (Nat×(Nat×Nat))):Prop:=(L.map (·.1)).Nodup/\∀x∈L,aV x.1
theorem oZ:∀{L:List (Nat×α)},(cG L k v).map (·.1)=if k∈L.map (·.1) then L.map (·.1) else L.map (·.1)++[k]:=by
 intro L
 induction L with
 | nil=>
   exact rfl
 | cons x'9 L oZ=>
   obtain⟨a,b⟩:=x'9;unfold cG
   by_cases h:a=k
   . rw[if_pos (beq_iff_eq.mpr h),if_pos (by refine h▸?_;exact .head _)];rfl
   . rw[if_neg (λz=>h (beq_iff_eq.mp z)),Nl,oZ]
     by_cases h2:k∈L.map (·.1)
     . rw[if_pos h2,if_pos (.tail _ h2)];rfl
     . rw[if_neg h2,if_neg (λz=>by exists N0 (MW.mp z) (λz=>?_),z;exact h z.symm;exact h2 z)];rfl
theorem Kn.set(h:Kn L)(hk:aV k):Kn (cG L k v):=by
 have e2:∀x∈cG L k v,x.1∈(cG L k v).map (·.1):=λx hx=>Nd.mpr (aE x hx rfl);have hL:∀a∈L.map (·.1),aV a:=λa ha=>by
  exists aA (Nd.mp ha),x,hx,rfl;exact h.2 x hx
 unfold Kn;rw[(oZ (k:=k) (v:=v) (L:=L))] at e2 ⊢
 by_cases c:k∈L.map (·.1)
 . rw[if_pos c] at e2 ⊢
   exact⟨h.1,λx hx=>hL _ (e2 x hx)⟩
 . rw[if_neg c] at e2 ⊢
   refine⟨Qo.mpr (dq h.1 (NI.mpr ⟨MS, .nil⟩) (λa ha b hb z=>?_)),λx hx=>?_⟩
   . rcases MW.mp hb with hb | hb
     . erw[z,hb] at ha;exact c ha
     . cases hb
   . exists N0 (M5.mp (e2 x hx)) (λq=>?_),q
     . exact hL _ q
     . rcases MW.mp q with q | q
       . erw[q];exact hk
       . cases q
theorem Kn.note(h:Kn L)(hk:aV q.nm):Kn (bi L q):=by
 unfold bi;split
 . split
   . exact h.set hk
   . exact h
 . exact h.set hk
theorem Kn.notes:∀{l:List Pd} {L:List (Nat×(Nat×Nat))},Kn L->(∀q∈l,aV q.nm)->Kn (l.foldl bi L)
 | [],_,h,_=>h|q::l,L,h,hk=>@Kn.notes l (bi L q) (h.note (hk q (.head _))) λx hx=>hk x (.tail _ hx)
theorem j6:∀{xs acc:List (Nat×PV)},((acc++xs).map (·.1)).Nodup->cn acc xs=acc++xs:=by
 intro xs
 induction xs with
 | nil=>
   intro acc _;erw[M3];rfl
 | cons x'9 xs j6=>
   obtain⟨k,v⟩:=x'9;intro acc h;have hk:k∉acc.map (·.1):=λz=>by
    erw[Nm,Nl] at h;exact(Qo.mp h).2.2 k z k (.head _) rfl
   have e:∀acc:List (Nat×PV),k∉acc.map (·.1)->bK acc k v=acc++[(k,v)]:=λacc=>by
    induction acc with
    | nil=>exactλX=>rfl|cons x acc ih=>
      obtain⟨a,b⟩:=x;intro hk;unfold bK;rw[if_neg (λz=>hk (by erw[<-beq_iff_eq.mp z];exact .head _)),ih λz=>hk (.tail _ z)];rfl
   unfold cn;rw[e acc hk,j6 (by rw[MR];exact h),MR];rfl
theorem BW(h:aV a):iu (gf a).length=true:=by
 rcases h with rfl | rfl | rfl | rfl<;>decide+kernel
theorem HU(hi:i<r.length)(h1:af call glo init g r Y= .ok (.ref n) s)(h2:r[b]?.join=some (.ref m))(h3:s[n]? =some (.dictS xs))(h4:s[m]? =some (.dictS ys))(hn:n≠m)(hf:xs.length+ys.length<4000)(ha:xs.all (λkv=>iu (gf kv.1).length)=true):
 ∃z,bc call glo init (.cpy i g b) r Y= .ok (.nxt,z) (s.set m (.dictS (cn ys xs)))/\∃w,z=r.set i w\/z=r:=by
 refine(aE (match (xs.getLast?).map λkv=>TN kv.1 with | some k=>r.set i (some k) | none=>r) ?_ ?_)
 . show(if decide (i<r.length) then(af call glo init g r).bnd λg=>(aZ ((r[b]?).join)).bnd λb=>(Ah g b).bnd λk=>ret (Fl.nxt,match k with | some k=>r.set i (some k) | none=>r) else fX:M (Fl×UG)) Y=_
   rw[if_pos (UE hi),ag h1,h2,ag (show aZ (some (TH m)) s= .ok (.ref m) s from rfl),ag (show Ah (.ref n) (.ref m) s= .ok ((xs.getLast?).map λkv=>TN kv.1) (s.set m (.dictS (cn ys xs))) by
    show AT n (λX=>AT m _) s=_
    rw[sB h3,sB h4,fj (jC (jC (Gc hn) (eW hf)) ha)];rfl)]
   rfl
 . cases (xs.getLast?).map λkv=>TN kv.1 with
   | none=>exact⟨none, .inr rfl⟩|some k=>exact⟨some k, .inl rfl⟩
theorem jU{all:List Pd}(ho:Y[p]? =some (.inst c fs))(hpe:fs.lookup `pending=some (.ref pe))(hpd:Y[pe]? =some (.list (all.map (iV rg)))):∀{k i:Nat} {L:List (Nat×(Nat×Nat))} {z0 z1 z2:Option PV} {m0:PV} {f:Nat},i+k=n->n<=all.length->k<f->L.length+k<300->
 (∀z1' z2',(fW (.one 4) (λr=>ax (ac P (d+1)) P.glo P.init (aQ kj 2) r) f (.rng i n) %[.ref p,m0,.ref Y.length|[z0,z1,z2]] (Y++[.dictS (kJ L)])= .ok (.nxt,%[.ref p,m0,.ref Y.length|[z0,z1',z2']]) (Y++[.dictS (kJ (((all.drop i).take k).foldl bi L))]))->Gz)->Gz:=by
 intro k
 induction k with
 | zero=>
   intro i L z0 z1 z2 m0 f hi _ hf _ Kz;exists bx (MP (Nv hf)),f,rfl;exact Kz z1 z2 (gz (by show(if i<n then _ else _:M _) _=_;rw[if_neg %[|0]];rfl))
 | succ k jU=>
   intro i L z0 z1 z2 m0 f hi hn hf hL Kz;exists bx (MP (show f≠0 by lia)),f,rfl;have hia:i<all.length:=by lia
   have hnl:=mj (L:=L) (q:=all[i]);exists jU (i:=i+1) (L:=bi L all[i]) (z0:=z0) (z1:=some (.int i)) (z2:=some (iV rg all[i])) (m0:=m0) (f:=f) %[|0] hn %[|0] %[|0],z1',z2',kk;have hc:=zx (d:=d) (z:=all[i]) (aM (Y:=Y) (o:= .dictS (kJ L))) %[|0];erw[show(Y++[aC.dictS (kJ L)]).set Y.length (.dictS (kJ (bi L all[i])))=Y++[.dictS (kJ (bi L all[i]))] from eI] at hc;refine(Kz z1' z2' (iU (it':= .rng (i+1) n) (x:= .int i) (by show(if i<n then _ else _:M _) _=_;rw[if_pos %[|0]];rfl) rfl (cE (aQ kj 2) %[.ref p,m0,.ref (Nb Y)|[z0,some (.int ↑i),z2]] (Y++[aC.dictS (kJ L)]) [] (aJ (aU ho) hpe) (show _= .ok (iV rg all[i]) (Y++[aC.dictS (kJ L)]) from(f7 (aU hpd) (by erw[Ny,MX hia];rfl))) rfl rfl rfl hc) rfl ?_));erw[Rw hia,Su,NE];exact kk
theorem vD(R:Rd N K I Y D)(hk:Kn D.known)(hm:m<=D.pd.length):ac P (d+2) 43 [.ref I.p, .int m] Y= .ok (.ref Y.length) (Y++[.dictS (kJ ((D.pd.take m).foldl bi D.known))]):=by
 have h1:=R.small.1;have h2:=R.small.2.1;have e0:cn [] (kJ D.known)=kJ D.known:=by
  have:=j6 (xs:=kJ D.known) (acc:=[]) (by
   erw[QC];unfold kJ;rw[NL];exact hk.1)
  refine this▸?_;rfl
 have hkn:=bw R.known;exists cps,Gz,Kz;obtain⟨z,k1,w,hz⟩:=HU (call:=ac P (d+1)) (glo:=P.glo) (init:=P.init) (Y:=Y++[.dictS []]) (s:=Y++[.dictS []]) (r:=%[.ref I.p,.int m,.ref Y.length|3]) (i:=3) (b:=2) (g:= .attr (.loc 0) `known) (by show 3<6;decide) (cQ (av rfl) (R.app (g:=[.dictS []])).obj rfl) rfl (R.app (g:=[.dictS []])).known aM %[|0] (by unfold kJ;rw[MN,NN];lia) (M8.mpr λx hx=>by
  unfold kJ at hx;exists aA (Nd.mp hx),y,hy,rfl
  exact BW (hk.2 y hy))
 rw[e0,show(Y++[aC.dictS []]).set Y.length (.dictS (kJ D.known))=Y++[.dictS (kJ D.known)] from eI] at k1;obtain⟨w',rfl⟩:∃w',z=%[.ref I.p,.int m,.ref Y.length|[w',none,none]]:=by
  refine N0 hz (λrfl=>?_) λrfl=>?_
  . exact⟨w,rfl⟩
  . exact⟨none,rfl⟩
 refine Kz ?_;exists jU (d:=d) (n:=m) (all:=D.pd) (rg:=I.rg) R.obj rfl R.pend (k:=m) (i:=0) (L:=D.known) (z0:=w') (z1:=none) (z2:=none) (m0:= .int m) (f:=m+1) %[|0] hm %[|0] %[|0],z1',z2',k2;exact aG 43 [.ref I.p, .int ↑m] Y [] k1 (ke %[|0]) k2
noncomputable def gJ(L:List (Nat×(Nat×Nat)))(l:List (Nat×Nat)):List (Nat×Nat):=l.filter λn=>decide ((L.lookup n.1).map (·.2)≠some n.2)
theorem il(h:Y[q]? =some (.dictS (kJ L))):∀{l:List (Nat×Nat)} {acc:List PV} {w:PV} {z1 z2:Option PV} {f:Nat},l.length<f->acc.length+l.length<3000->
 (∀z1' z2',(fW (.many [3,4]) (λr=>ax (ac P d) P.glo P.init (aQ j0 1) r) f (.tup (l.map ah)) %[.ref q,w,.ref Y.length|[z1,z2]] (Y++[.list acc])= .ok (.nxt,%[.ref q,w,.ref Y.length|[z1',z2']]) (Y++[.list (acc++(gJ L l).map ah)]))->Gz)->Gz:=by
 intro l
 induction l with
 | nil=>
   intro acc w z1 z2 f hf _ Kz;exists bx (MP (Nv hf)),f,rfl;exact Kz z1 z2 (by unfold gJ;erw[Rk,PL,M3];exact gz rfl)
 | cons n l il=>
   intro acc w z1 z2 f hf hl Kz;erw[M0] at hf hl;exists bx (MP (show f≠0 by lia)),f,rfl;have hq:=aU (g:=[.list acc]) h;have hor:∀w' z',fH (ac P d) P.glo P.init [Tz .nin (Tr 3) (Tr 0),Tz .ne (Tv (Tv (Tr 0) (Tr 3)) (Ts 1)) (Tr 4)] %[.ref q|[w',z',some (.str n.1),some (.int n.2)]] (Y++[.list acc])= .ok (decide ((L.lookup n.1).map (·.2)≠some n.2)) (Y++[.list acc]):=λw' z'=>by
    have hnin:=nB (k:=n.1) hq;rw[qy] at hnin
    cases hL:L.lookup n.1 with
    | none=>
      rw[hL] at hnin;refine(UE (show¬(Sq (λx:Nat×Nat=>x.2) none=some n.2) from nofun))▸?_;exact Dy (dn λw=>w hnin)
    | some y=>
      rw[hL] at hnin;have hv:(kJ L).lookup n.1=some (.tup [.int y.1, .int y.2]):=by erw[qy,hL];rfl
      have ev:∀{t:Bool},decide ((y.2:Int)≠n.2)=t->af (ac P d) P.glo P.init (Tz .ne (Tv (Tv (Tr 0) (Tr 3)) (Ts 1)) (Tr 4)) %[.ref q|[w',z',some (.str n.1),some (.int n.2)]] (Y++[.list acc])= .ok (.bool t) (Y++[.list acc]):=λht=>
       dn λw=>w (l8 hq hv) rfl (pT ht)
      by_cases c:y.2=n.2
      . rw[UF (show¬ ¬(Sq (λx:Nat×Nat=>x.2) (some y)=some n.2) fromλz=>z (by erw[<-c];rfl))]
        exact xL (dn λw=>w hnin) (xL (ev (UF %[|0])) yA)
      . rw[UE (show¬(Sq (λx:Nat×Nat=>x.2) (some y)=some n.2) fromλz=>c (MI z))]
        exact xL (dn λw=>w hnin) (Dy (ev (UE %[|0])))
   cases c:decide ((L.lookup n.1).map (·.2)≠some n.2) with
   | true=>
     exists il (acc:=acc++[ah n]) (w:=w) (z1:=some (.str n.1)) (z2:=some (.int n.2)) (f:=f) %[|0] (by rw[MH];show acc.length+1+l.length<3000;lia),z1',z2',k;refine(Kz z1' z2' (iU rfl rfl (cE (aQ j0 1) %[.ref q,w,.ref (Nb Y),(3, .str n.fst).snd,(4, .int ↑n.snd).snd|0] (Y++[aC.list acc]) [1] (show _= .ok (TL true) (Y++[aC.list acc]) from(AM ((hor _ _).trans (by rw[c])))) (eT aM) (jl aM %[|0])) rfl ?_));rw[show gJ L (n::l)=n::gJ L l from Px c,Nl];rw[MR] at k;refine Eq.trans ?_ k;exact congrArg _ (show(Y++[aC.list acc]).set Y.length (.list (acc++[ah n]))=Y++[.list (acc++[ah n])] from eI)
   | false=>
     exists il (acc:=acc) (w:=w) (z1:=some (.str n.1)) (z2:=some (.int n.2)) (f:=f) %[|0] %[|0],z1',z2',k;refine(Kz z1' z2' (iU rfl rfl (cE (aQ j0 1) %[.ref q,w,.ref (Nb Y),(3, .str n.fst).snd,(4, .int ↑n.snd).snd|0] (Y++[aC.list acc]) [1] (show _= .ok (TL false) (Y++[aC.list acc]) from(AM ((hor _ _).trans (by rw[c]))))) rfl ?_));refine(show gJ L (n::l)=gJ L l from Pc (by refine c▸?_;decide))▸?_;exact k
theorem zf(h:Y[q]? =some (.dictS (kJ L)))(hl:l.length<200):ac P (d+1) 44 [.ref q, .tup (l.map ah)] Y= .ok (.ref Y.length) (Y++[.list ((gJ L l).map ah)]):=by
 exists il (d:=d) h (l:=l) (acc:=[]) (w:= .tup (l.map ah)) (z1:=none) (z2:=none) (f:=(l.map ah).length+1) (by rw[MN];lia) (by erw[NN];lia),z1',z2',k;exact aG 44 [.ref q, .tup (Pa ah l)] Y [] rfl k
end
section
variable{N:Nat}{K:List (Nat×PV)}{I:kL}{Y s:aR}{D:fp}{d:Nat}
noncomputable def fh(rg:Nat)(x:Nat×Nat×Int):PV:= .tup [.str x.1, .int x.2.1, .int rg, .int x.2.2]
noncomputable def fL(A:List (Nat×Nat))(a:Nat):List (Nat×Nat×Int):=(Pl 0 A.length).map λi=>((A.getD i (0,0)).1,(A.getD i (0,0)).2,(a:Int)+1 - (2*A.length:Nat)+(2*i:Nat))
noncomputable def je(l:List Pd):List (Nat×Nat×Int):=l.map λq=>(q.nm,q.num,(q.at_:Int))
noncomputable def j9(L:List (Nat×(Nat×Nat)))(pd:List Pd)(needs:List (Nat×Nat))(a m:Nat):Bool:=decide (fL (gJ ((pd.take m).foldl bi L) needs) a=je (pd.drop m))
noncomputable def eOq0(p:Nat->Bool):Nat->Nat->Option Nat
 | _,0=>none|i,k+1=>if p i then some i else eOq0 p (i+1) k
theorem Am:∀{xs ys:List (Nat×Nat×Int)},xs.length=ys.length->PV.eqs3 (xs.map (fh rg)) (ys.map (fh rg)) (n+1)=some (decide (xs=ys))
 | [],[],_=>rfl|x::xs,y::ys,h=>by
   obtain⟨x1,x2,x3⟩:=x;obtain⟨y1,y2,y3⟩:=y;show((PV.eq3 (fh rg (x1,x2,x3)) (fh rg (y1,y2,y3)) (n+1)).bind λx=>(PV.eqs3 (xs.map (fh rg)) (ys.map (fh rg)) (n+1)).map λy=>x&&y)=_;erw[(Am (rg:=rg) (n:=n) (xs:=xs) (ys:=ys) (Qr h))];show some (((x1==y1)&&(((x2:Int)==(y2:Int))&&(((rg:Int)==(rg:Int))&&((x3==y3)&&true))))&&decide (xs=ys))=_
   congr 1
   rw[PF];erw[MY,beq_iff_eq,decide_eq_true_iff,Q2,QN,PS,true_and,and_true]
theorem Fd{xs ys:List (Nat×Nat×Int)}(h1:Y[a]? =some (.list (xs.map (fh rg))))(h2:Y[b]? =some (.list (ys.map (fh rg)))):b8 .eq (.ref a) (.ref b) Y= .ok (.bool (decide (xs=ys))) Y:=by
 show((q6 (.ref a) (.ref b)).bnd _) Y=_
 rw[ag (a:=decide (xs=ys)) (s':=Y) (by
  show((cO a).bnd _) Y=_
  rw[ag (a8 h1)];show mu b _ Y=_;rw[dP h2,MN,MN]
  by_cases c:xs.length=ys.length
  . rw[if_pos (beq_iff_eq.mpr c),Am c];rfl
  . rw[if_neg (λz=>c (beq_iff_eq.mp z)),UF (λz=>c (by rw[z]))];rfl)]
 rfl
theorem II(rg:Nat)(l:List Pd):l.map (iV rg)=(je l).map (fh rg):=by
 unfold je;erw[NL];rfl
theorem rk{m n:Nat}(h:m<=n):dz m n=m:=by
 unfold dz;rw[if_pos (M9 m),Rb];exact Rs h
theorem kg{a:Nat}{pr:PV}(hk:Kn D.known)(hn:needs.length<100):∀{k i:Nat} {Y:aR} {z5 z6 z7:Option PV} {f:Nat},i+k=D.pd.length+1->k<f->Rd N K I Y D->
 (∀r' s,(fW (.one 5) (λr=>ax (ac P (d+2)) P.glo P.init (aQ iQ 1) r) f (.rng i (D.pd.length+1)) %[.ref I.p,pr,.int I.rg,.int a,.tup (needs.map ah)|[z5,z6,z7]] Y= .ok (match eOq0 (j9 D.known D.pd needs a) i k with | some m=> .ret (.int m) | none=> .nxt,r') s)->Fr [] Y s->Gz)->Gz:=by
 intro k
 induction k with
 | zero=>
   intro i Y z5 z6 z7 f hi hf R Kz;exists bx (MP (Nv hf)),f,rfl;exact Kz _ Y (gz (by show(if i<_ then _ else _:M _) _=_;rw[if_neg %[|0]];rfl)) .refl
 | succ k kg=>
   intro i Y z5 z6 z7 f hi hf R Kz;exists bx (MP (show f≠0 by lia)),f,rfl;have hi':i<=D.pd.length:=by lia
   have h2:=R.small.2.1;have k2:=zf (d:=d+1) (aM (Y:=Y) (o:= .dictS (kJ ((D.pd.take i).foldl bi D.known)))) (l:=needs) %[|0];erw[MR,show([aC.dictS (kJ ((D.pd.take i).foldl bi D.known))]++[aC.list ((gJ ((D.pd.take i).foldl bi D.known) needs).map ah)]:List aC)=[.dictS (kJ ((D.pd.take i).foldl bi D.known)), .list ((gJ ((D.pd.take i).foldl bi D.known) needs).map ah)] from rfl] at k2;generalize hA:gJ ((D.pd.take i).foldl bi D.known) needs=A at k2;have hAl:A.length<100:=by
    refine hA▸?_;exact MM (N5 _ _) hn
   have R2:=R.app (g:=[.dictS (kJ ((D.pd.take i).foldl bi D.known)), .list (A.map ah)]);have hA2:(Y++[aC.dictS (kJ ((D.pd.take i).foldl bi D.known)), .list (A.map ah)])[(Y++[aC.dictS (kJ ((D.pd.take i).foldl bi D.known))]).length]? =some (.list (A.map ah)):=by
    rw[MH];exact dh (i:=1) rfl
   have hl2:=jI hA2;erw[MN] at hl2;generalize hs2:Y++[aC.dictS (kJ ((D.pd.take i).foldl bi D.known)), .list (A.map ah)]=s2 at*;generalize hq:(Y++[aC.dictS (kJ ((D.pd.take i).foldl bi D.known))]).length=q at*;have hc:=kP (call:=ac P (d+2)) (glo:=P.glo) (init:=P.init) (Y:=s2) (r:=%[.ref I.p,pr,.int I.rg,.int a,.tup (needs.map ah),.int i,.ref q,.int ((a:Int)+1 - (2*A.length:Nat))|0])
    (elt:=Tu [Tv (Tv (Tr 7) (Tr 0)) (Ts 0),Tv (Tv (Tr 7) (Tr 0)) (Ts 1),Tr 3,Tw .add (Tr 8) (Tw .mul (Ts 2) (Tr 0))]) (isR:=true) (src:= .len (.loc 6)) (n:=A.length) (xs:=(Pl 0 A.length).map λj=> .int (j:Nat))
    (λx=>match x with | .int j=>fh I.rg ((A.getD j.toNat (0,0)).1,(A.getD j.toNat (0,0)).2,(a:Int)+1 - (2*A.length:Nat)+(2*j.toNat:Nat)) | _=> .none) (t6 (av rfl) hl2) (ke %[|0]) (by erw[MN,Nx]) (mS %[|0]) (by erw[MN,Nx];lia) λx hx=>by
      exists aA (Nd.mp hx),j,hj,rfl;have hj:j<A.length:=by simpa using hj
      have e1:(A.map ah)[j]? =some (ah (A.getD j (0,0))):=by erw[Ny,NG,MX hj];rfl
      exact dn λw=>w (f7 hA2 e1) rfl (f7 hA2 e1) rfl (gp (a:=2) (b:=j) %[|1] %[|0]) rfl
   have hm:((Pl 0 A.length).map λj=>TF (j:Nat)).map (λx:PV=>match x with | .int j=>fh I.rg ((A.getD j.toNat (0,0)).1,(A.getD j.toNat (0,0)).2,(a:Int)+1 - (2*A.length:Nat)+(2*j.toNat:Nat)) | _=> .none)=(fL A a).map (fh I.rg):=by
    unfold fL;rw[NL,NL];rfl
   rw[hm] at hc;have R3:=R2.app (g:=[.list ((fL A a).map (fh I.rg))]);have hsl:=pb (call:=ac P (d+2)) (glo:=P.glo) (init:=P.init) (Y:=s2++[.list ((fL A a).map (fh I.rg))]) (r:=%[.ref I.p,pr,.int I.rg,.int a,.tup (needs.map ah),.int i,.ref q,.int ((a:Int)+1 - (2*A.length:Nat))|0]) (o:= .attr (.loc 0) `pending) (i:= .loc 5) (cQ (av rfl) R3.obj rfl) (av rfl) R3.pend;rw[MN,rk hi', <-RB,II] at hsl;have hcmp:=Fd (Y:=s2++[.list ((fL A a).map (fh I.rg))]++[.list ((je (D.pd.drop i)).map (fh I.rg))]) (aU aM) aM;have hsp:j9 D.known D.pd needs a i=decide (fL A a=je (D.pd.drop i)):=by unfold j9;rw[hA]
   have F4:Fr [] Y (s2++[.list ((fL A a).map (fh I.rg))]++[.list ((je (D.pd.drop i)).map (fh I.rg))]):=by
    erw[<-hs2];exact(Fr.app.trans .app).trans .app
   have e6:af (ac P (d+2)) P.glo P.init (Tx 44 [Tx 43 [Tr 0,Tr 5],Tr 4]) %[.ref I.p,pr,.int I.rg,.int a,.tup (needs.map ah),.int i|[z6,z7]] Y= .ok (.ref q) s2:=
    dn λw=>w (vD (d:=d) R hk hi') k2
   have e7:af (ac P (d+2)) P.glo P.init (Tw .sub (Tw .add (Tr 3) (Ts 1)) (Tw .mul (Ts 2) (TM (Tr 6)))) %[.ref I.p,pr,.int I.rg,.int a,.tup (needs.map ah),.int i,.ref q|[z7]] s2= .ok (.int ((a:Int)+1 - (2*A.length:Nat))) s2:=
    dn λw=>w rfl hl2 (gp (a:=2) (b:=A.length) %[|1] %[|0]) rfl
   unfold eOq0 at Kz
   by_cases c:fL A a=je (D.pd.drop i)
   . rw[if_pos (by rw[hsp];exact UE c)] at Kz
     exact(Kz _ _ (LF (it':= .rng (i+1) (D.pd.length+1)) (x:= .int i) (by show(if i<_ then _ else _:M _) _=_;rw[if_pos %[|0]];rfl) rfl (cE (aQ iQ 1) %[.ref I.p,pr,.int ↑I.rg,.int ↑a,.tup (Pa ah needs),.int ↑i|[z6,z7]] Y [1,1,1] e6 e7 (show _= .ok (TL true) (s2++[aC.list (Pa (fh I.rg) (fL A a))]++[aC.list (Pa (fh I.rg) (je (N6 i D.pd)))]) from(hZ hc hsl (hcmp.trans (by rw[UE c])))))) F4)
   . rw[if_neg (by rw[hsp,UF c];decide)] at Kz
     exists kg (i:=i+1) (z5:=some (.int i)) (z6:=some (.ref q)) (z7:=some (.int ((a:Int)+1 - (2*A.length:Nat)))) (f:=f) %[|0] %[|0] (R.fr F4),r',s,k3,F5;exact(Kz r' s (iU (it':= .rng (i+1) (D.pd.length+1)) (x:= .int i) (by show(if i<_ then _ else _:M _) _=_;rw[if_pos %[|0]];rfl) rfl (cE (aQ iQ 1) %[.ref I.p,pr,.int ↑I.rg,.int ↑a,.tup (Pa ah needs),.int ↑i|[z6,z7]] Y [1,1,1] e6 e7 (show _= .ok (TL false) (s2++[aC.list (Pa (fh I.rg) (fL A a))]++[aC.list (Pa (fh I.rg) (je (N6 i D.pd)))]) from(hZ hc hsl (hcmp.trans (by rw[UF c]))))) rfl k3) (F4.trans F5))
noncomputable def Iy:Option Nat->PV
 | some m=> .int m|none=> .none
noncomputable def cz(I:kL)(D:fp)(proto a:Nat):Option Nat:=eOq0 (j9 D.known D.pd (an I.fam proto) a) 0 (D.pd.length+1)
theorem vb{proto a:Nat}{l0:List (Nat×Nat)}(hk:Kn D.known)(R:Rd N K I Y D)(hp:iM.lookup proto=some l0)(h0:l0.length<100)(Kz:∀s,ac P (d+3) 45 [.ref I.p, .str proto, .int I.rg, .int a] Y= .ok (Iy (cz I D proto a)) s->Fr [] Y s->Gz):Gz:=by
 exists km (d:=d) (Y:=Y) (fam:=I.fam) hp h0,g,k1;have h2:=R.small.2.1;have R1:=R.app (g:=g);have hl:=jI R1.pend;rw[MN] at hl;exists kg (d:=d) (needs:=an I.fam proto) (a:=a) (pr:= .str proto) hk (ln hp h0) (k:=D.pd.length+1) (i:=0) (z5:=none) (z6:=none) (z7:=none) (f:=D.pd.length+1+1) %[|0] %[|0] R1,r',s,k2,F2;refine(Kz s ?_ (show Fr [] Y s from Fr.app.trans F2));have e4:bc (ac P (d+2)) P.glo P.init (TA 4 (Tx 9 [TE (Tr 0) `family,Tr 1])) %[.ref I.p,.str proto,.int I.rg,.int a|4] Y= .ok (.nxt,%[.ref I.p,.str proto,.int I.rg,.int a,.tup ((an I.fam proto).map ah)|3]) (Y++g):=
  wy [] λw=>w (aJ R.obj rfl) k1
 have e5:=uO (call:=ac P (d+2)) (glo:=P.glo) (init:=P.init) (r:=%[.ref I.p,.str proto,.int I.rg,.int a,.tup ((an I.fam proto).map ah)|3]) (tg:= .one 5) (isR:=true) (src:=Tw .add (TM (TE (Tr 0) `pending)) (Ts 1)) (b:=aQ iQ 1) (n:=D.pd.length+1) (v:= .int ((D.pd.length+1:Nat):Int)) (fA (t6 (cQ (av rfl) R1.obj rfl) hl) bX rfl) (ke %[|0]) k2;unfold cz
 cases hfm:eOq0 (j9 D.known D.pd (an I.fam proto) a) 0 (D.pd.length+1) with
 | none=>
   rw[hfm] at e5;exact aG 45 [.ref I.p, .str proto, .int ↑I.rg, .int ↑a] Y [2,2] e4 e5
 | some m=>
   erw[hfm] at e5;exact aG 45 [.ref I.p, .str proto, .int ↑I.rg, .int ↑a] Y [2,2] e4 e5
end
noncomputable def aF(F:List (Nat×FI)):List (Nat×PV):=F.map λx=>(x.1,x.2.pv)
structure Ch(F:List (Nat×FI)):Prop where
 self:∀x∈F,(aF F).lookup x.1=some x.2.pv
 need:∀x∈F,∀tn bits proto base first,x.2= .pay tn bits proto base first->∃l0,iM.lookup proto=some l0/\l0.length<100
 len:F.length<3000
section
variable{N:Nat}{F:List (Nat×FI)}{I:kL}{Y s:aR}{D:fp}{d:Nat}
noncomputable def dF(I:kL)(D:fp)(base first bits a:Nat)(st:Option (Nat×Nat)×Int)(x:Nat×FI):Option (Nat×Nat)×Int:=match x.2 with
 | .pay _ b proto bs f=>if b=bits/\bs=base/\f=first then(match cz I D proto a with
   | some m=>if st.2<((3*(D.pd.length - m)+(an I.fam proto).length:Nat):Int) then(some (x.1,m),((3*(D.pd.length - m)+(an I.fam proto).length:Nat):Int)) else st
   | none=>st) else st
 | .met .. =>st
noncomputable def fm:Option (Nat×Nat)->PV
 | none=> .none|some x=> .tup [.str x.1, .int x.2]
theorem ll:∀{k i:Nat},eOq0 p i k=some m->m<i+k/\p m=true/\i<=m:=by
 intro k
 induction k with
 | zero=>
   intro _ h;exists _
 | succ k ll=>
   intro i h;unfold eOq0 at h
   by_cases c:p i=true
   . rw[if_pos c] at h
     obtain rfl:=MI h;exact dq %[|0] c (MZ _)
   . rw[if_neg c] at h
     have:=ll h;exact dq %[|0] this.2.1 %[|0]
theorem g0(fo:Ch F){base first bits a:Nat}(hk:Kn D.known):∀{l:List (Nat×FI)} {i:Nat} {Y:aR} {st:Option (Nat×Nat)×Int} {z1 z2 z3 z4 z5 z6 z7 z8:Option PV} {f:Nat},F.drop i=l->l.length<f->Rd N (aF F) I Y D->
 (∀r' s,(fW (.one 8) (λr=>ax (ac P (d+4)) P.glo P.init (aQ de 1) r) f (.fdk (aF F) i) %[.ref I.p,.str base,.int first,.int bits,.int I.rg,.int a,fm st.1,.int st.2|[z1,z2,z3,z4,z5,z6,z7,z8]] Y= .ok (.nxt,r') s)->r'[6]?.join=some (fm (l.foldl (dF I D base first bits a) st).1)->Fr [] Y s->Gz)->Gz:=by
 intro l
 induction l with
 | nil=>
   intro i Y st z1 z2 z3 z4 z5 z6 z7 z8 f hd hf R Kz;exists bx (MP (Nv hf)),f,rfl;have hn:(aF F)[i]? =none:=by
    unfold aF;erw[Ny,RL (Pp.mp hd)];rfl
   exact(Kz _ Y (gz (by show(match (aF F)[i]? with | some kv=>_ | none=>_:M _) Y=_;refine hn▸?_;rfl)) rfl .refl)
 | cons x l g0=>
   intro i Y st z1 z2 z3 z4 z5 z6 z7 z8 f hd hf R Kz;erw[M0] at hf;exists bx (MP (show f≠0 by lia)),f,rfl;have hx0:F[i]? =some x:=by rw[<-Ps,hd];rfl
   have hxm:x∈F:=M6 hx0;have hd':F.drop (i+1)=l:=by rw[<-PB,hd];rfl
   have hn:(aF F)[i]? =some (x.1,x.2.pv):=by
    unfold aF;erw[Ny,hx0];rfl
   have jt:∀s:aR,dg (.fdk (aF F) i) s= .ok (some (.str x.1, .fdk (aF F) (i+1))) s:=λs=>by
    show(match (aF F)[i]? with | some kv=>_ | none=>_:M _) s=_
    erw[hn];rfl
   have hself:=fo.self x hxm;have hidx:∀s:aR,dk (.fd (aF F)) (.str x.1) s= .ok x.2.pv s:=λs=>by
    show aZ ((aF F).lookup x.1) s=_
    refine hself▸?_;rfl
   erw[NE] at Kz;obtain⟨nm,fi⟩:=x;dsimp only at hself hidx jt;have stay:∀(w1 w2 w3 w4 w5 w6 w7:Option PV) (s1:aR),Fr [] Y s1->ax (ac P (d+4)) P.glo P.init (aQ de 1) %[.ref I.p,.str base,.int first,.int bits,.int I.rg,.int a,fm st.1,.int st.2,.str nm|[z2,z3,z4,z5,z6,z7,z8]] Y= .ok (.nxt,%[.ref I.p,.str base,.int first,.int bits,.int I.rg,.int a,fm st.1,.int st.2,.str nm|[w1,w2,w3,w4,w5,w6,w7]]) s1->dF I D base first bits a st (nm,fi)=st->Gz:=λw1 w2 w3 w4 w5 w6 w7 s1 F1 k1 e1=>by
    exists g0 (i:=i+1) (st:=st) (z1:=some (.str nm)) (z2:=w1) (z3:=w2) (z4:=w3) (z5:=w4) (z6:=w5) (z7:=w6) (z8:=w7) (f:=f) hd' %[|0] (R.fr F1),r',s,k2,e2,F2;exact Kz r' s (iU (jt Y) rfl k1 rfl k2) (by rw[e1];exact e2) (F1.trans F2)
   cases fi with
   | met tn b od key=>
     exact stay _ _ _ _ _ _ _ Y .refl (cE (aQ de 1) %[.ref I.p,.str base,.int ↑first,.int ↑bits,.int ↑I.rg,.int ↑a,fm st.fst,.int st.snd,.str nm|[z2,z3,z4,z5,z6,z7,z8]] Y [] (aJ R.obj rfl) (hidx Y) rfl) rfl
   | pay tn b proto bs fst=>
     have u:=k9 (call:=ac P (d+4)) (glo:=P.glo) (init:=P.init) (r:=%[.ref I.p,.str base,.int first,.int bits,.int I.rg,.int a,fm st.1,.int st.2,.str nm|[z2,z3,z4,z5,z6,z7,z8]]) (is:=[9,10,11,12,13]) (cW (o:= .attr (.loc 0) `fields) (i:= .loc 8) (cQ (av rfl) R.obj rfl) (av rfl) (hidx Y)) rfl
     by_cases c1:b=bits
     . by_cases c2:bs=base
       . by_cases c3:fst=first
         . have hcond:af (ac P (d+4)) P.glo P.init (TR [Tz .eq (Tr 9) (Tt `payload),Tz .eq (Tr 11) (Tr 3),Tz .eq (Tv (Tr 13) (Ts 1)) (Tr 1),Tz .eq (Tv (Tr 13) (Ts 2)) (Tr 2)]) %[.ref I.p,.str base,.int first,.int bits,.int I.rg,.int a,fm st.1,.int st.2,.str nm,.str `payload,.str tn,.int b,.str `big,.tup [.str proto, .str bs, .int fst]|[z7,z8]] Y= .ok (.bool true) Y:=
            dn λw=>w rfl (fT (UE %[|0])) rfl (cH (UE c2)) rfl (fT (UE %[|0]))
           exists aA (fo.need _ hxm _ _ _ _ _ rfl),l0,hp,h0;exists vb (d:=d+1) (a:=a) hk R hp h0,s1,k1,F1;have R1:=R.fr F1;have h2:=R.small.2.1;have hbs:dF I D base first bits a st (nm, .pay tn b proto bs fst)=match cz I D proto a with
            | some m=>if st.2<((3*(D.pd.length - m)+(an I.fam proto).length:Nat):Int) then(some (nm,m),((3*(D.pd.length - m)+(an I.fam proto).length:Nat):Int)) else st|none=>st:=if_pos (dq c1 c2 c3)
           cases hsp:cz I D proto a with
           | none=>
             erw[hsp] at k1 hbs;exact stay _ _ _ _ _ _ _ s1 F1 (cE (aQ de 1) %[.ref I.p,.str base,.int ↑first,.int ↑bits,.int ↑I.rg,.int ↑a,fm st.fst,.int st.snd,.str nm|[z2,z3,z4,z5,z6,z7,z8]] Y [2,1] u hcond rfl k1 rfl) hbs
           | some m=>
             rw[hsp] at k1 hbs;have hm:=(ll hsp).1;exists km (d:=d+2) (Y:=s1) (fam:=I.fam) hp h0,g,k3;have hl:=jI R1.pend;rw[MN] at hl;have hnl:lx (.tup ((an I.fam proto).map ah)) (s1++g)= .ok (.int (an I.fam proto).length) (s1++g):=by
              show iR.ok (TF ((((an I.fam proto).map ah).length:Nat):Int)) _=_
              rw[MN]
             have e15:af (ac P (d+4)) P.glo P.init (Tw .add (Tw .mul (Ts 3) (Tw .sub (TM (TE (Tr 0) `pending)) (Tr 14))) (TM (Tx 9 [TE (Tr 0) `family,Tv (Tr 13) (Ts 0)]))) %[.ref I.p,.str base,.int first,.int bits,.int I.rg,.int a,fm st.1,.int st.2,.str nm,.str `payload,.str tn,.int b,.str `big,.tup [.str proto, .str bs, .int fst],.int m|[z8]] s1= .ok (.int ((3*(D.pd.length - m)+(an I.fam proto).length:Nat):Int)) (s1++g):=
              dn λw=>w (aJ R1.obj rfl) hl (d6 (a:=D.pd.length) (b:=m) %[|0]) (gp (a:=3) (b:=D.pd.length - m) %[|1] %[|0]) (aJ R1.obj rfl) rfl k3 hnl (iK (a:=3*(D.pd.length - m)) (b:=(an I.fam proto).length))
             by_cases c4:st.2<((3*(D.pd.length - m)+(an I.fam proto).length:Nat):Int)
             . erw[show(match some m with | some m=>if st.2<((3*(D.pd.length - m)+(an I.fam proto).length:Nat):Int) then(some (nm,m),((3*(D.pd.length - m)+(an I.fam proto).length:Nat):Int)) else st | none=>st)=(some (nm,m),((3*(D.pd.length - m)+(an I.fam proto).length:Nat):Int)) from if_pos c4] at hbs
               exists g0 (i:=i+1) (st:=(some (nm,m),((3*(D.pd.length - m)+(an I.fam proto).length:Nat):Int))) (z1:=some (.str nm)) (z2:=some (.str `payload)) (z3:=some (.str tn)) (z4:=some (.int b)) (z5:=some (.str `big)) (z6:=some (.tup [.str proto, .str bs, .int fst])) (z7:=some (.int m)) (z8:=some (.int ((3*(D.pd.length - m)+(an I.fam proto).length:Nat):Int))) (f:=f) hd' %[|0] (R1.app (g:=g)),r',s,k2,e2,F2;refine(Kz r' s (iU (jt Y) rfl (cE (aQ de 1) %[.ref I.p,.str base,.int ↑first,.int ↑bits,.int ↑I.rg,.int ↑a,fm st.fst,.int st.snd,.str nm|[z2,z3,z4,z5,z6,z7,z8]] Y [2,1,0,0,1] u hcond rfl k1 rfl e15 (iS (UE c4))) rfl k2) (by refine hbs▸?_;exact e2) ((F1.trans .app).trans F2))
             . erw[show(match some m with | some m=>if st.2<((3*(D.pd.length - m)+(an I.fam proto).length:Nat):Int) then(some (nm,m),((3*(D.pd.length - m)+(an I.fam proto).length:Nat):Int)) else st | none=>st)=st from if_neg c4] at hbs
               exact stay _ _ _ _ _ _ _ (s1++g) (F1.trans .app) (cE (aQ de 1) %[.ref I.p,.str base,.int ↑first,.int ↑bits,.int ↑I.rg,.int ↑a,fm st.fst,.int st.snd,.str nm|[z2,z3,z4,z5,z6,z7,z8]] Y [2,1,0,0,1] u hcond rfl k1 rfl e15 (iS (UF c4))) hbs
         . exact stay _ _ _ _ _ _ _ Y .refl (cE (aQ de 1) %[.ref I.p,.str base,.int ↑first,.int ↑bits,.int ↑I.rg,.int ↑a,fm st.fst,.int st.snd,.str nm|[z2,z3,z4,z5,z6,z7,z8]] Y [2] u rfl (fT (UE %[|0])) rfl (cH (UE c2)) rfl (fT (UF %[|0]))) (if_neg λz=>c3 z.2.2)
       . exact stay _ _ _ _ _ _ _ Y .refl (cE (aQ de 1) %[.ref I.p,.str base,.int ↑first,.int ↑bits,.int ↑I.rg,.int ↑a,fm st.fst,.int st.snd,.str nm|[z2,z3,z4,z5,z6,z7,z8]] Y [2] u rfl (fT (UE %[|0])) rfl (cH (UF c2))) (if_neg λz=>c2 z.2.1)
     . exact stay _ _ _ _ _ _ _ Y .refl (cE (aQ de 1) %[.ref I.p,.str base,.int ↑first,.int ↑bits,.int ↑I.rg,.int ↑a,fm st.fst,.int st.snd,.str nm|[z2,z3,z4,z5,z6,z7,z8]] Y [2] u rfl (fT (UF %[|0]))) (if_neg λz=>c1 z.1)
noncomputable def dM(F:List (Nat×FI))(I:kL)(D:fp)(base first bits a:Nat):Option (Nat×Nat):=(F.foldl (dF I D base first bits a) (none, -1)).1
theorem v5(fo:Ch F)(hk:Kn D.known)(R:Rd N (aF F) I Y D){base first bits a:Nat}(Kz:∀s,ac P (d+5) 46 [.ref I.p, .str base, .int first, .int bits, .int I.rg, .int a] Y= .ok (fm (dM F I D base first bits a)) s->Fr [] Y s->Gz):Gz:=by
 exists g0 (d:=d) fo (base:=base) (first:=first) (bits:=bits) (a:=a) hk (l:=F) (i:=0) (st:=(none, -1)) (z1:=none) (z2:=none) (z3:=none) (z4:=none) (z5:=none) (z6:=none) (z7:=none) (z8:=none) (f:=F.length+1) rfl %[|0] R,r',s,k,e,Fs;rw[<-(show(aF F).length=F.length from MN ..)] at k;exact(Kz s (eC (r:=%[.ref I.p,.str base,.int first,.int bits,.int I.rg,.int a|10]) rfl rfl rfl (aD (k9 rfl rfl) (aD (uO (it:= .fdk (aF F) 0) (n:=(aF F).length) (cQ (av rfl) R.obj rfl) rfl k) (nb (wj (av e)))))) Fs)
end
section
variable{N:Nat}{K:List (Nat×PV)}{F:List (Nat×FI)}{I:kL}{Y s:aR}{D:fp}{d:Nat}
noncomputable def dJ(D:fp)(m:Nat):fp:={D with known:=(D.pd.drop m).foldl bi D.known,dp:=D.dp++(D.pd.drop m).map iL,pd:=D.pd.take m}
theorem jn(hrg:I.rg=0):∀{l:List Pd} {it:It} {Y:aR} {D:fp} {z:Option PV} {f:Nat},q≠I.kn->q≠D.dr->Y[q]? =some (.list all)->oV (λs=>s[q]? =some (.list all)) it (l.map (iV I.rg))->Rd N K I Y D->(∀e∈D.dp,∀q∈l,e.1<=q.at_)->l.Pairwise (λa b=>a.at_<=b.at_)->l.length<f->D.known.length+l.length<100->D.dp.length+l.length<1000->
 (∀r' s,(fW (.one 2) (λr=>ax (ac P (d+1)) P.glo P.init (aQ rp 0) r) f it %[.ref I.p,w|[z]] Y= .ok (.nxt,%[.ref I.p,w|[r']]) s)->Rd N K I s {D with known:=l.foldl bi D.known,dp:=D.dp++l.map iL}->ju N Y s->Gz)->Gz:=by
 intro l
 induction l with
 | nil=>
   intro it Y D z f hq1 hq2 hq y R _ _ hf _ _ Kz;exists bx (MP (Nv hf)),f,rfl;exact Kz _ _ (gz (y _ hq)) (by erw[PL,M3];exact R) .refl
 | cons x l jn=>
   rintro it Y D z f hq1 hq2 hq ⟨it',y1,ys⟩ R hlow hp hf hk hs Kz;erw[M0] at hf hk hs;exists bx (MP (show f≠0 by lia)),f,rfl;have hp':=Qg.mp hp;have hn:=mj (L:=D.known) (q:=x);have R1:=R.setKnown (L:=bi D.known x) %[|0];have R2:=R1.setDrop (l:=D.dp++[iL x]) (by rw[MH];show D.dp.length+1<1000;lia)
   refine jn (it:=it') (D:={D with known:=bi D.known x,dp:=D.dp++[iL x]}) (z:=some (iV I.rg x)) (f:=f) hq1 hq2 (au (au hq (Ni hq1)) (Ni hq2)) ys R2 (λe he y hy=>by
    exists N0 (M5.mp he) (λhe=>?_),he
    . exact hlow e he y (.tail _ hy)
    . rcases MW.mp he with rfl | he
      . exact hp'.1 y hy
      . exists _) hp'.2 %[|0] (by show(bi D.known x).length+l.length<100;lia) (by rw[MH];show D.dp.length+1+l.length<1000;lia) λr' s k R3 B3=>?_
   refine(Kz r' s (iU (y1 _ hq) rfl (cE (aQ rp 0) %[.ref I.p,w,iV I.rg x|0] Y [] (aJ R.obj rfl) rfl rfl rfl (zx (z:=x) R.known (by have:=R.small.1;lia)) rfl (fT (UE (by refine hrg▸?_;rfl))) (aJ R1.obj rfl) rfl oy (lT R1.drop (λe he=>hlow e he x (.head _)) (by have:=R.small.2.2.1;lia))) rfl k) ?_ (((ju.set R.above.2.2.1).trans (ju.set R.above.2.2.2.2.1)).trans B3));have e:D.dp++(x::l).map iL=D.dp++[iL x]++l.map iL:=by erw[MR];rfl
   rw[e];exact R3
theorem Ed(hrg:I.rg=0)(R:Rd N K I Y D)(hm:m<=D.pd.length)(hlow:∀e∈D.dp,∀q∈D.pd,e.1<=q.at_)(hp:D.pd.Pairwise (λa b=>a.at_<=b.at_))(hk:D.known.length+D.pd.length<100)(hs:D.dp.length+D.pd.length<1000):
 gV N K I Y (dJ D m) (ac P (d+2) 47 [.ref I.p, .int m] Y) .none:=by
 have hsub:(D.pd.drop m).Sublist D.pd:=SX m D.pd;have hl:(D.pd.drop m).length<=D.pd.length:=by rw[NT];lia
 have hkn:=bw R.known;have hdr:=bw R.drop;have hpp:=bw R.obj;have h2:=R.small.2.1;have hsl:=pb (call:=ac P (d+1)) (glo:=P.glo) (init:=P.init) (Y:=Y) (r:=%[.ref I.p,.int m|1]) (o:= .attr (.loc 0) `pending) (i:= .loc 1) (cQ (av rfl) R.obj rfl) (av rfl) R.pend;erw[MN,rk hm, <-RB] at hsl;exists jn (d:=d) hrg (w:= .int m) (q:=Y.length) (all:=(D.pd.drop m).map (iV I.rg)) (l:=D.pd.drop m) (z:=none) (f:=(D.pd.drop m).length+1) %[|0] %[|0] aM (xg (i:=0) rfl) (R.app (g:=[.list ((D.pd.drop m).map (iV I.rg))])) (λe he q hq=>hlow e he q (hsub.subset hq)) (hp.sublist hsub) %[|0] %[|0] %[|0],r',s,k,R1,B1;have hst:=z9 (call:=ac P (d+1)) (glo:=P.glo) (init:=P.init) (Y:=s) (r:=%[.ref I.p,.int m|[r']]) (o:= .attr (.loc 0) `pending) (i:= .loc 1) (cQ (av rfl) R1.obj rfl) (av rfl) R1.pend;erw[MN,rk hm, <-Qs] at hst;exact(wa _ _ _ (aG 47 [.ref I.p, .int ↑m] Y [1,1] hsl (show pc false (.ref Y.length) (Y++[.list ((D.pd.drop m).map (iV I.rg))])= .ok (.lst Y.length 0,(D.pd.drop m).length) (Y++[.list ((D.pd.drop m).map (iV I.rg))]) from(ey aM).trans (by erw[MN])) k hst (gM (R1.app (g:=[.list ((D.pd.take m).map (iV I.rg))])).obj (MU rfl))) (R1.newPend (l:=D.pd.take m) (by rw[NM];lia)) ((((ju.app R.low).trans B1).trans (.app R1.low)).trans (.set R.above.1)))
noncomputable def be(base ao mask down row rg:Nat):PV:= .tup [.str `half, .str base, .int ao, .int mask, .int down, .int row, .int rg]
noncomputable def jT(mask down:Nat):Nat->Nat
 | 0=>0|b+1=>if mask / 2^(down+b)=0 then jT mask down b else b+1
theorem vu:∀{b:Nat},jT mask down b<=b:=by
 intro b
 induction b with
 | zero=>
   exact MZ _
 | succ b vu=>
   unfold jT;split
   . exact NC vu
   . exact MZ _
theorem oO{mask down:Nat}:∀{b f:Nat},b<f->
 tL (jf call glo init (TR [Tz .gt (Tr 11) (Ts 0),Tz .eq (Tw .shr (Tr 7) (Tw .sub (Tw .add (Tr 8) (Tr 11)) (Ts 1))) (Ts 0)])) (λr=>ax call glo init [T2 11 .sub (Ts 1)] r) f [r0,r1,r2,r3,r4,r5,r6,some (.int mask),some (.int down),r9,r10,some (.int b),none] Y=
  .ok (.nxt,[r0,r1,r2,r3,r4,r5,r6,some (.int mask),some (.int down),r9,r10,some (.int (jT mask down b)),none]) Y:=by
 intro b
 induction b with
 | zero=>
   intro f hf;exists bx (MP (Nv hf)),f,rfl;exact tP (pU (yx (hZ (av rfl) bX (iS (t:=false) %[|1]))))
 | succ b oO=>
   intro f hf;exists bx (MP (show f≠0 by lia)),f,rfl
   have hv:∀{t:Bool},decide (((mask / 2^(down+b):Nat):Int)=0)=t->af call glo init (TR [Tz .gt (Tr 11) (Ts 0),Tz .eq (Tw .shr (Tr 7) (Tw .sub (Tw .add (Tr 8) (Tr 11)) (Ts 1))) (Ts 0)]) [r0,r1,r2,r3,r4,r5,r6,some (.int mask),some (.int down),r9,r10,some (.int (b+1:Nat)),none] Y= .ok (.bool t) Y:=λ{t} ht=>by
    have hs:=d6 (Y:=Y) (a:=down+(b+1)) (b:=1) %[|0];rw[show down+(b+1) - 1=down+b by lia] at hs;have he:af call glo init (Tz .eq (Tw .shr (Tr 7) (Tw .sub (Tw .add (Tr 8) (Tr 11)) (Ts 1))) (Ts 0)) [r0,r1,r2,r3,r4,r5,r6,some (.int mask),some (.int down),r9,r10,some (.int (b+1:Nat)),none] Y= .ok (.bool t) Y:=
     hZ (fA (av rfl) (fA (fA (av rfl) (av rfl) (iK (a:=down) (b:=b+1))) bX hs) (zE (a:=mask) (b:=down+b))) bX (fT ht)
    cases t with
    | true=>exact pU (tJ (hZ (av rfl) bX (iS (UE %[|0]))) (tJ he D3))
    | false=>exact pU (tJ (hZ (av rfl) bX (iS (UE %[|0]))) (yx he))
   unfold jT
   by_cases c:mask / 2^(down+b)=0
   . rw[if_pos c]
     exact Jg (hv (UE (by refine c▸?_;rfl))) (aD (KY (a:=(b+1:Nat)) (b:=1) rfl bX (d6 (Y:=Y) (a:=b+1) (b:=1) %[|0])) cM) (oO (f:=f) %[|0])
   . rw[if_neg c]
     exact tP (hv (UF %[|0]))
noncomputable def ci(F:List (Nat×FI))(I:kL)(D:fp)(base ao mask down row many:Nat):Option (Nat×Nat):=
 if 0<jT mask down (8*many - down)/\mask=(2^jT mask down (8*many - down) - 1)*2^down then dM F I D base (8*(ao+many) - down - jT mask down (8*many - down)) (jT mask down (8*many - down)) row else none
noncomputable def jp(F:List (Nat×FI))(I:kL)(D:fp)(base ao mask down row many:Nat):fp:=match ci F I D base ao mask down row many with
 | none=>{D with slot:=some (.tup [be base ao mask down row I.rg, .str `big, .int many])}
 | some x=>{dJ D x.2 with slot:=some (.tup [aH x.1, .str `big, .int many])}
theorem lc(R:Rd N K I Y D):dA (.ref I.sl) (.int I.rg) v Y= .ok () (Y.set I.sl (wf I.rg (some v))):=by
 have h:=R.slots
 cases hs:D.slot with
 | none=>
   rw[hs] at h;exact Ep h
 | some w=>
   rw[hs] at h;have:=GE (k:=I.rg) (v:=v) h (by show 1<4000;decide);erw[show bK [((I.rg:Int),w)] (I.rg:Int) v=[((I.rg:Int),v)] by unfold bK;rw[if_pos (beq_self_eq_true _)]] at this;exact this
theorem Bv(h:dM F I D base first bits a=some x):x.2<=D.pd.length:=by
 have key:∀(l:List (Nat×FI)) (st:Option (Nat×Nat)×Int),(∀y,st.1=some y->y.2<=D.pd.length)->∀y,(l.foldl (dF I D base first bits a) st).1=some y->y.2<=D.pd.length:=λl=>by
  induction l with
  | nil=>exactλst h=>h|cons z l ih=>
    intro st hst;erw[NE];exists ih _,y,hy;unfold dF at hy;split at hy
    . split at hy
      . split at hy
        . rename_i m hm
          split at hy
          . obtain rfl:=MI hy
            have:=(ll hm).1;lia
          . exact hst y hy
        . exact hst y hy
      . exact hst y hy
    . exact hst y hy
 exact key F (none, -1) (λy hy=>by exists _) x h
theorem E8(hrg:I.rg=0)(fo:Ch F)(hk:Kn D.known)(R:Rd N (aF F) I Y D)(hd:down<=8*many)(hm:many<=20)(hao:ao<1000)(hlow:∀e∈D.dp,∀q∈D.pd,e.1<=q.at_)(hp:D.pd.Pairwise (λa b=>a.at_<=b.at_))(hkn:D.known.length+D.pd.length<100)(hs:D.dp.length+D.pd.length<1000):
 gV N (aF F) I Y (jp F I D base ao mask down row many) (ac P (d+6) 48 [.ref I.p, .int I.rg,be base ao mask down row I.rg, .int many] Y) .none:=by
 have hb:af (ac P (d+5)) P.glo P.init (Tw .sub (Tw .mul (Ts 8) (Tr 3)) (Tr 8)) %[.ref I.p,.int I.rg,be base ao mask down row I.rg,.int many,.str `half,.str base,.int ao,.int mask,.int down,.int row,.int I.rg|2] Y= .ok (.int (8*many - down:Nat)) Y:=
  dn λw=>w (gp (a:=8) (b:=many) %[|1] %[|0]) (d6 (a:=8*many) (b:=down) hd)
 have hw:=oO (call:=ac P (d+5)) (glo:=P.glo) (init:=P.init) (Y:=Y) (r0:=some (.ref I.p)) (r1:=some (.int I.rg)) (r2:=some (be base ao mask down row I.rg)) (r3:=some (.int many)) (r4:=some (.str `half)) (r5:=some (.str base)) (r6:=some (.int ao)) (r9:=some (.int row)) (r10:=some (.int I.rg)) (mask:=mask) (down:=down) (b:=8*many - down) (f:=200) %[|0];have ht:jT mask down (8*many - down)<=8*many - down:=vu;unfold jp ci;generalize jT mask down (8*many - down)=b at*;have hm1:0<2^b:=N2 %[|1];have hm2:2^b<2^400:=Pq %[|1] %[|0]
 have hmask:∀{t:Bool},decide ((mask:Int)=((2^b - 1)*2^down:Nat))=t->af (ac P (d+5)) P.glo P.init (Tz .eq (Tr 7) (Tw .shl (Tw .sub (Tw .shl (Ts 1) (Tr 11)) (Ts 1)) (Tr 8))) %[.ref I.p,.int I.rg,be base ao mask down row I.rg,.int many,.str `half,.str base,.int ao,.int mask,.int down,.int row,.int I.rg,.int b,.none|0] Y= .ok (.bool t) Y:=λ{t} h=>by
  refine dn λw=>w (ja (a:=1) (b:=b) %[|0] %[|1]) (d6 (a:=1*2^b) (b:=1) %[|0]) (ja (a:=1*2^b - 1) (b:=down) %[|0] %[|0]) (fT ?_);rw[PX];exact h
 have pre:∀{o:iR (Fl×UG)},ax (ac P (d+5)) P.glo P.init (qM.drop 4) %[.ref I.p,.int I.rg,be base ao mask down row I.rg,.int many,.str `half,.str base,.int ao,.int mask,.int down,.int row,.int I.rg,.int b,.none|0] Y=o->
  ax (ac P (d+5)) P.glo P.init qM %[.ref I.p,.int I.rg,be base ao mask down row I.rg,.int many|9] Y=o:=λh=>
  aD (k9 (av rfl) rfl) (aD (cT hb) (aD (yk hw) (aD (cT IA) h)))
 have none_go:∀{s1:aR},Fr [] Y s1->(ax (ac P (d+5)) P.glo P.init (qM.drop 4) %[.ref I.p,.int I.rg,be base ao mask down row I.rg,.int many,.str `half,.str base,.int ao,.int mask,.int down,.int row,.int I.rg,.int b,.none|0] Y=
  ax (ac P (d+5)) P.glo P.init (qM.drop 5) %[.ref I.p,.int I.rg,be base ao mask down row I.rg,.int many,.str `half,.str base,.int ao,.int mask,.int down,.int row,.int I.rg,.int b,.none|0] s1)->
  gV N (aF F) I Y {D with slot:=some (.tup [be base ao mask down row I.rg, .str `big, .int many])} (ac P (d+6) 48 [.ref I.p, .int I.rg,be base ao mask down row I.rg, .int many] Y) .none:=λ{s1} F1 h=>by
  have R1:=R.fr F1;exact(wa _ _ _ (aG 48 [.ref I.p, .int ↑I.rg,be base ao mask down row I.rg, .int ↑many] Y [3] (pre (h.trans (cE (N6 5 qM) %[TH I.p,TF ↑I.rg,be base ao mask down row I.rg,TF ↑many,TN `half,TN base,TF ↑ao,TF ↑mask,TF ↑down,TF ↑row,TF ↑I.rg,TF ↑b,T6|0] s1 [] rfl (aJ R1.obj rfl) (lc R1))))) R1.setSlot ((ju.of_fr F1 R.low).trans (.set R.above.2.1)))
 by_cases c1:0<b
 . by_cases c2:mask=(2^b - 1)*2^down
   . rw[if_pos ⟨c1,c2⟩]
     exists v5 (d:=d) fo hk R (base:=base) (first:=8*(ao+many) - down - b) (bits:=b) (a:=row),s1,k1,F1;have hcond:af (ac P (d+5)) P.glo P.init (TR [Tz .gt (Tr 11) (Ts 0),Tz .eq (Tr 7) (Tw .shl (Tw .sub (Tw .shl (Ts 1) (Tr 11)) (Ts 1)) (Tr 8))]) %[.ref I.p,.int I.rg,be base ao mask down row I.rg,.int many,.str `half,.str base,.int ao,.int mask,.int down,.int row,.int I.rg,.int b,.none|0] Y= .ok (.bool true) Y:=
      pU (tJ (dn λw=>w (iS (UE %[|0]))) (tJ (hmask (UE (c2▸rfl))) D3))
     have hfirst:af (ac P (d+5)) P.glo P.init (Tx 46 [Tr 0,Tr 5,Tw .sub (Tw .sub (Tw .mul (Ts 8) (Tw .add (Tr 6) (Tr 3))) (Tr 8)) (Tr 11),Tr 11,Tr 10,Tr 9]) %[.ref I.p,.int I.rg,be base ao mask down row I.rg,.int many,.str `half,.str base,.int ao,.int mask,.int down,.int row,.int I.rg,.int b,.none|0] Y= .ok (fm (dM F I D base (8*(ao+many) - down - b) b row)) s1:=by
      exact dn λw=>w (iK (a:=ao) (b:=many)) (gp (a:=8) (b:=ao+many) %[|1] %[|0]) (d6 (a:=8*(ao+many)) (b:=down) %[|0]) (d6 (a:=8*(ao+many) - down) (b:=b) %[|0]) k1
     cases hB:dM F I D base (8*(ao+many) - down - b) b row with
     | none=>
       erw[hB] at hfirst;exact none_go F1 (aD (qb hcond (aD (cT hfirst) cM)) rfl)
     | some x=>
       erw[hB] at hfirst;exists xU (Ed (d:=d+3) hrg (R.fr F1) (Bv hB) hlow hp hkn hs),s2,pe,dr,k2,R2,B2;exact(wa _ _ _ (aG 48 [.ref I.p, .int ↑I.rg,be base ao mask down row I.rg, .int ↑many] Y [3] (pre (cE (N6 4 qM) %[TH I.p,TF ↑I.rg,be base ao mask down row I.rg,TF ↑many,TN `half,TN base,TF ↑ao,TF ↑mask,TF ↑down,TF ↑row,TF ↑I.rg,TF ↑b,T6|0] Y [1,1] hcond hfirst rfl rfl k2 rfl (aJ R2.obj rfl) (lc R2)))) R2.setSlot (((ju.of_fr F1 R.low).trans B2).trans (.set R.above.2.1)))
   . rw[if_neg λz=>c2 z.2]
     exact none_go .refl (aD (mq (pU (tJ (hZ (av rfl) bX (iS (UE %[|0]))) (yx (hmask (UF λz=>c2 (PS.mp z)))))) cM) rfl)
 . rw[if_neg λz=>c1 z.1]
   exact none_go .refl (aD (mq (pU (yx (hZ (av rfl) bX (iS (UF %[|0]))))) cM) rfl)
end
structure gr(D:fp):Prop where
 kn:Kn D.known
 pn:∀q∈D.pd,aV q.nm
 sp:∀e∈D.sts,∀q∈D.pd,e.1<=q.at_
 pw:D.pd.Pairwise (λa b=>a.at_<=b.at_)
 sa:∀e∈D.sts,e.1<=D.at_
 pa:∀q∈D.pd,q.at_<=D.at_
 da:∀e∈D.dp,e.1<=D.at_
 len:D.known.length+D.pd.length<90/\D.sts.length+D.pd.length<800/\D.dp.length+D.pd.length<800
noncomputable def fS(rg base ao many:Nat):PV:= .tup [.str `payload, .int rg, .str base, .int ao, .int many]
noncomputable def i0(rg key many od:Nat):PV:= .tup [.str `meta, .int rg, .str key, .int many, .str od]
noncomputable def di(rg op:Nat)(l:List Nat):PV:= .tup [.str `cmp, .str op, .int rg, .bytes l]
noncomputable def eG(rg:Nat)(l m:List Nat):PV:= .tup [.str `bitwise, .int rg, .int rg, .bytes l, .bytes m]
noncomputable def jF(rg many side below:Nat):PV:= .tup [.str `shift, .int rg, .int rg, .int many, .str side, .int below]
noncomputable def zO:Nat:=`«a register that nothing was put into»
noncomputable def ix:Nat:=`«octets that are no field»
noncomputable def yG:Nat:=`«bits that no expression makes»
def gU(l:List Nat):Prop:=0<l.length/\l.length<=40/\∀x∈l,x<256
section
variable{N:Nat}{K:List (Nat×PV)}{F:List (Nat×FI)}{I:kL}{Y s:aR}{D:fp}{d:Nat}
theorem xh(R:Rd N K I Y D)(h:D.slot=none):ac P (d+1) 49 [.ref I.p, .int I.rg] Y= .exn (.str zO) Y:=by
 have hs:=R.slots;rw[h] at hs;have h1:b8 .nin (.int I.rg) (.ref I.sl) Y= .ok (.bool true) Y:=by
  show((((cO I.sl).bnd _).bnd _):M PV) Y=_
  rw[ag (a:=false) (s':=Y) (by rw[ag (a8 hs)];rfl)];rfl
 exact aG 49 [.ref I.p, .int ↑I.rg] Y [] (aJ R.obj rfl) h1
theorem lz(R:Rd N K I Y D)(h:D.slot=some v):ac P (d+1) 49 [.ref I.p, .int I.rg] Y= .ok v Y:=by
 have hs:=R.slots;rw[h] at hs;have hl:([((I.rg:Int),v)]:List (Int×PV)).lookup (I.rg:Int)=some v:=by erw[Ng,beq_self_eq_true]
 have h1:b8 .nin (.int I.rg) (.ref I.sl) Y= .ok (.bool false) Y:=by
  show((((cO I.sl).bnd _).bnd _):M PV) Y=_
  rw[ag (a:=true) (s':=Y) (by
   rw[ag (a8 hs)];show iR.ok (([((I.rg:Int),v)]:List (Int×PV)).lookup (I.rg:Int)).isSome _=_
   refine hl▸?_;rfl)]
  rfl
 have h2:dk (.ref I.sl) (.int I.rg) Y= .ok v Y:=by
  show((cO I.sl).bnd _) Y=_
  rw[ag (a8 hs)];show aZ (([((I.rg:Int),v)]:List (Int×PV)).lookup (I.rg:Int)) Y=_;refine hl▸?_;rfl
 exact aG 49 [.ref I.p, .int ↑I.rg] Y [] (aJ R.obj rfl) h1 (aJ R.obj rfl) h2
theorem xn(R:Rd N K I Y D)(h:D.slot=none):ac P (d+2) 50 [.ref I.p, .int I.rg] Y= .exn (.str zO) Y:=
 aG 50 [.ref I.p, .int ↑I.rg] Y [] (xh R h)
theorem IH(R:Rd N K I Y D)(h:D.slot=some (.tup [e,o,m]))(he:e= .tup (.str tag::l))(ht:tag≠`half):ac P (d+2) 50 [.ref I.p, .int I.rg] Y= .ok (.tup [e,o,m]) Y:=by
 subst he;exact aG 50 [.ref I.p, .int ↑I.rg] Y [] (lz R h) vx vx (cH (UF ht))
theorem w9(R:Rd N K I Y D)(h:D.slot=some (.tup [be base ao mask down row rg,o,m])):ac P (d+2) 50 [.ref I.p, .int I.rg] Y= .exn (.str ix) Y:=
 aG 50 [.ref I.p, .int ↑I.rg] Y [] (lz R h) vx vx (cH (UE rfl))
theorem lU:bS .sub (.int (1*2^(8*m):Nat)) (.int 1) Y= .ok (.int ((256^m - 1:Nat):Int)) Y:=by
 have:=d6 (Y:=Y) (a:=1*2^(8*m)) (b:=1) (by have:0<2^(8*m):=N2 %[|1];lia);rw[PX,AD] at this ⊢;exact this
theorem Bi(hrg:I.rg=0)(fo:Ch F)(g:gr D)(hdp:∀e∈D.dp,∀q∈D.pd,e.1<=q.at_)(R:Rd N (aF F) I Y D)(hm:many<=20)(hao:ao<1000):
 gV N (aF F) I Y (jp F I D base ao (256^many - 1) 0 D.at_ many) (ac P (d+7) 56 [.ref I.p,fS I.rg base ao many] Y) .none:=by
 exists xU (E8 (d:=d) hrg fo g.kn R (base:=base) (ao:=ao) (mask:=256^many - 1) (down:=0) (row:=D.at_) (many:=many) %[|0] hm hao hdp g.pw (by have:=g.len;lia) (by have:=g.len;lia)),s,pe,dr,k,R1,B1;exact wa s pe dr (aG 56 [.ref I.p,fS I.rg base ao many] Y [] rfl rfl rfl (gp (a:=8) (b:=many) %[|1] %[|0]) (ja (a:=1) (b:=8*many) %[|0] %[|1]) lU (aJ R.obj rfl) rfl rfl rfl k) R1 B1
theorem Cu(R:Rd N K I Y D){nm key many od:Nat}(hc:∀s,bS .add (.str `«meta ») (.str key) s= .ok (.str nm) s):
 gV N K I Y {D with slot:=some (.tup [aH nm, .str od, .int many])} (ac P (d+1) 57 [.ref I.p,i0 I.rg key many od] Y) .none:=
 (wa _ _ _ (aG 57 [.ref I.p,i0 I.rg key many od] Y [] rfl (hc _) rfl rfl (aJ R.obj rfl) rfl (lc R)) R.setSlot (.set R.above.2.1))
def fe(o:Nat):Prop:=o=`big\/o=`little
theorem j4(R:Rd N K I Y D)(ho:fe (f5 od I.ord))(hl:gU l)(hm:gU m)(Kz:(∀g,(∀{r:UG},r[0]?.join=some (.ref I.p)->r[1]?.join=some (eG I.rg l m)->r[3]?.join=some (.str od)->
 af (ac P (d+3)) P.glo P.init (Tu [Tx 51 [Tr 0,Tv (Tr 1) (Ts 3),Tr 3],Tx 51 [Tr 0,Tv (Tr 1) (Ts 4),Tr 3]]) r Y= .ok (.tup [.int (bH (bZ (f5 od I.ord) l)), .int (bH (bZ (f5 od I.ord) m))]) (Y++g))->Gz)):Gz:=by
 exists jm (d:=d) (od:=od) R.obj rfl ho hl.1 hl.2.1 hl.2.2,g1,k1;exists jm (d:=d) (od:=od) (R.app (g:=g1)).obj rfl ho hm.1 hm.2.1 hm.2.2,g2,k2;erw[MR] at k2;exact Kz _ (λh0 h1 h3=>iG (ai (bu (ai (av h0) (ai (cW (av h1) bX rfl) (ai (av h3) bA))) k1) (ai (bu (ai (av h0) (ai (cW (av h1) bX rfl) (ai (av h3) bA))) k2) bA)))
theorem xy(hrg:I.rg=0)(fo:Ch F)(g:gr D)(hdp:∀e∈D.dp,∀q∈D.pd,e.1<=q.at_)(R:Rd N (aF F) I Y D){base ao left down row many:Nat}(hs:D.slot=some (.tup [be base ao left down row I.rg, .str `big, .int many]))(hl:gU l)(hm:gU m)(h0:bH m=0)(hd:down<=8*many)(hmm:many<=20)(hao:ao<1000):
 gV N (aF F) I Y (jp F I D base ao (left&&& (bH l*2^down)) down row many) (ac P (d+7) 61 [.ref I.p,eG I.rg l m] Y) .none:=by
 exists j4 (d:=d+3) R (od:=`big) (.inl rfl) hl hm,g1,k1;have hln:bH l<256^l.length:=qB rfl hl.2.2;have hlb:=zw (k:=l.length) hl.2.1;exists xU (E8 (d:=d) hrg fo g.kn (R.app (g:=g1)) (base:=base) (ao:=ao) (mask:=left&&& (bH l*2^down)) (down:=down) (row:=row) (many:=many) hd hmm hao hdp g.pw (by have:=g.len;lia) (by have:=g.len;lia)),s,pe,dr,k,R1,B1;have e5:bc (ac P (d+6)) P.glo P.init (TK [5,6] (Tu [Tx 51 [Tr 0,Tv (Tr 1) (Ts 3),Tr 3],Tx 51 [Tr 0,Tv (Tr 1) (Ts 4),Tr 3]])) %[.ref I.p,eG I.rg l m,be base ao left down row I.rg,.str `big,.int many|10] Y=
  .ok (.nxt,%[.ref I.p,eG I.rg l m,be base ao left down row I.rg,.str `big,.int many,.int (bH l),.int (bH m)|8]) (Y++g1):=k9 (k1 rfl rfl rfl) rfl
 exact(wa s pe dr (aG 61 [.ref I.p,eG I.rg l m] Y [0,2] rfl (lz R hs) e5 (gp (a:=8) (b:=many) %[|1] %[|0]) (ja (a:=1) (b:=8*many) %[|0] %[|1]) lU rfl rfl (pT (UF (by refine h0▸?_;decide))) rfl (ja (a:=bH l) (b:=down) %[|0] %[|0]) zj k) R1 ((ju.app R.low).trans B1))
theorem vo(R:Rd N K I Y D){base ao left down row many:Nat}(hs:D.slot=some (.tup [be base ao left down row I.rg, .str `big, .int many]))(hl:gU l)(hm:gU m)(h0:bH m≠0)(hmm:many<=20):
 ∃s,ac P (d+4) 61 [.ref I.p,eG I.rg l m] Y= .exn (.str ix) s/\ju N Y s:=by
 exists j4 (d:=d) R (od:=`big) (.inl rfl) hl hm,g1,k1;have e5:bc (ac P (d+3)) P.glo P.init (TK [5,6] (Tu [Tx 51 [Tr 0,Tv (Tr 1) (Ts 3),Tr 3],Tx 51 [Tr 0,Tv (Tr 1) (Ts 4),Tr 3]])) %[.ref I.p,eG I.rg l m,be base ao left down row I.rg,.str `big,.int many|10] Y=
  .ok (.nxt,%[.ref I.p,eG I.rg l m,be base ao left down row I.rg,.str `big,.int many,.int (bH l),.int (bH m)|8]) (Y++g1):=k9 (k1 rfl rfl rfl) rfl
 exact aE _ (aG 61 [.ref I.p,eG I.rg l m] Y [0,2] rfl (lz R hs) e5 (gp (a:=8) (b:=many) %[|1] %[|0]) (ja (a:=1) (b:=8*many) %[|0] %[|1]) lU rfl rfl (pT (UE %[|0]))) (.app R.low)
theorem vt(R:Rd N K I Y D){nm od many:Nat}(hs:D.slot=some (.tup [aH nm, .str od, .int many]))(ho:fe (f5 od I.ord))(hl:gU l)(hm:gU m)(h0:bH (bZ (f5 od I.ord) m)=0)(hmm:many<=20):
 gV N K I Y {D with slot:=some (.tup [dm nm (bH (bZ (f5 od I.ord) l)), .str od, .int many])} (ac P (d+4) 61 [.ref I.p,eG I.rg l m] Y) .none:=by
 exists j4 (d:=d) R (od:=od) ho hl hm,g1,k1;have R1:=R.app (g:=g1);have e5:bc (ac P (d+3)) P.glo P.init (TK [5,6] (Tu [Tx 51 [Tr 0,Tv (Tr 1) (Ts 3),Tr 3],Tx 51 [Tr 0,Tv (Tr 1) (Ts 4),Tr 3]])) %[.ref I.p,eG I.rg l m,aH nm,.str od,.int many|10] Y=
  .ok (.nxt,%[.ref I.p,eG I.rg l m,aH nm,.str od,.int many,.int (bH (bZ (f5 od I.ord) l)),.int (bH (bZ (f5 od I.ord) m))|8]) (Y++g1):=k9 (k1 rfl rfl rfl) rfl
 exact(wa _ _ _ (aG 61 [.ref I.p,eG I.rg l m] Y [0,2] rfl (lz R hs) e5 (gp (a:=8) (b:=many) %[|1] %[|0]) (ja (a:=1) (b:=8*many) %[|0] %[|1]) lU rfl rfl (fT (UE (by refine h0▸?_;rfl))) (aJ R1.obj rfl) rfl (lc R1)) R1.setSlot ((ju.app R.low).trans (.set R.above.2.1)))
theorem GD(hrg:I.rg=0)(fo:Ch F)(g:gr D)(hdp:∀e∈D.dp,∀q∈D.pd,e.1<=q.at_)(R:Rd N (aF F) I Y D){base ao left down row many below:Nat}(hs:D.slot=some (.tup [be base ao left down row I.rg, .str `big, .int many]))(hd:down+below<=8*many)(hmm:many<=20)(hao:ao<1000)(hl:left<2^400):
 gV N (aF F) I Y (jp F I D base ao (left / 2^(down+below)*2^(down+below)) (down+below) row many) (ac P (d+7) 62 [.ref I.p,jF I.rg many `right below] Y) .none:=by
 exists xU (E8 (d:=d) hrg fo g.kn R (base:=base) (ao:=ao) (mask:=left / 2^(down+below)*2^(down+below)) (down:=down+below) (row:=row) (many:=many) hd hmm hao hdp g.pw (by have:=g.len;lia) (by have:=g.len;lia)),s,pe,dr,k,R1,B1;have hdv:left / 2^(down+below)<2^400:=MM (Nat.div_le_self _ _) hl;have h1000:down+below<=1000:=MO hd (by clear hl hdv k;lia);have hsh:∀s:aR,bS .shl (.int ((left / 2^(down+below):Nat):Int)) (.int ((down+below:Nat):Int)) s= .ok (.int ((left / 2^(down+below)*2^(down+below):Nat):Int)) s:=λs=>ja h1000 hdv;have u1:bc (ac P (d+6)) P.glo P.init (TK [2,3,4] (Tx 49 [Tr 0,Tv (Tr 1) (Ts 2)])) %[.ref I.p,jF I.rg many `right below|10] Y=
  .ok (.nxt,%[.ref I.p,jF I.rg many `right below,be base ao left down row I.rg,.str `big,.int many|7]) Y:=wy [] λw=>w rfl (lz R hs)
 have u2:bc (ac P (d+6)) P.glo P.init (TK [5,6,7,8,9,10,11] (Tr 2)) %[.ref I.p,jF I.rg many `right below,be base ao left down row I.rg,.str `big,.int many|7] Y=
  .ok (.nxt,%[.ref I.p,jF I.rg many `right below,be base ao left down row I.rg,.str `big,.int many,.str `half,.str base,.int ao,.int left,.int down,.int row,.int I.rg|0]) Y:=rfl
 have u3:bc (ac P (d+6)) P.glo P.init (T2 9 .add (Tv (Tr 1) (Ts 5))) %[.ref I.p,jF I.rg many `right below,be base ao left down row I.rg,.str `big,.int many,.str `half,.str base,.int ao,.int left,.int down,.int row,.int I.rg|0] Y=
  .ok (.nxt,%[.ref I.p,jF I.rg many `right below,be base ao left down row I.rg,.str `big,.int many,.str `half,.str base,.int ao,.int left,.int (down+below:Nat),.int row,.int I.rg|0]) Y:=wy [] λw=>w rfl (iK (a:=down) (b:=below))
 exact wa s pe dr (aG 62 [.ref I.p,jF I.rg many `right below] Y [2,0,0,2,2] u1 rfl rfl rfl rfl u2 u3 rfl (zE (a:=left) (b:=down+below)) (hsh Y) k) R1 B1
theorem Ez(R:Rd N K I Y D)(hs:D.slot=some (.tup [be base ao left down row I.rg, .str `big,m])):ac P (d+4) 62 [.ref I.p,jF I.rg many `left below] Y= .exn (.str ix) Y:=
 aG 62 [.ref I.p,jF I.rg many `left below] Y [] rfl (lz R hs) rfl rfl rfl rfl
end
section
variable{N:Nat}{K:List (Nat×PV)}{F:List (Nat×FI)}{I:kL}{Y s:aR}{D:fp}{d:Nat}
noncomputable def cL(e:PV)(op n:Nat):PV:= .tup [.str `«match»,e, .str op, .tup [.str `num, .int n]]
theorem og{p nm op n:Nat}:ac P (d+5) 65 [.ref p,aH nm, .str op, .int n] Y= .ok (cL (aH nm) op n) Y:=
 aG 65 [.ref p,aH nm, .str op, .int ↑n] Y [] rfl rfl
theorem IN(k:sM K)(h:aV nm):ac P (d+4) 14 [.fd K,aH nm] Y= .ok (.int (8*aj nm:Nat)) Y:=by
 rcases h with rfl | rfl | rfl | rfl
 . exact aG 14 [.fd K,aH `«ether type»] Y [] (tP rfl) gP (jv k.et) rfl rfl
 . exact aG 14 [.fd K,aH `«meta protocol»] Y [] (tP rfl) gP (jv k.mp) rfl rfl
 . exact aG 14 [.fd K,aH `«meta nfproto»] Y [] (tP rfl) gP (jv k.nf) rfl rfl
 . exact aG 14 [.fd K,aH `«meta l4proto»] Y [] (tP rfl) gP (jv k.l4) rfl rfl
theorem CC(k:sM K)(h:aV nm)(Kz:∀tn,ac P (d+3) 16 [.fd K,aH nm] Y= .ok (.str tn) Y->((tn=`ether_type\/tn=`nf_proto\/tn=`inet_proto))->Gz):Gz:=by
 rcases h with rfl | rfl | rfl | rfl
 . exact Kz _ (EY (nU k.et)) (.inl rfl)
 . exact Kz _ (sC (nU k.mp)) (.inl rfl)
 . exact Kz _ (sC (nU k.nf)) (.inr (.inl rfl))
 . exact Kz _ (sC (nU k.l4)) (.inr (.inr rfl))
theorem uI(k:sM K)(R:Rd N K I Y D){nm n:Nat}(h:aV nm):ac P (d+5) 65 [.ref I.p,dm nm (256^aj nm - 1), .str 15934, .int n] Y= .ok (cL (dm nm (256^aj nm - 1)) 15934 n) Y:=by
 exists CC (Y:=Y) (d:=d+1) k h,tn,kt,ht;have hin:af (ac P (d+4)) P.glo P.init (Tz .in_ (Tx 16 [TE (Tr 0) `fields,Tv (Tr 1) (Ts 1)]) (Tu [Tt `ct_state,Tt `ct_status,Tt `tcp_flag])) %[.ref I.p,dm nm (256^aj nm - 1),.str 15934,.int n|1] Y= .ok (.bool false) Y:=by
  refine dn λw=>w (aJ R.obj rfl) rfl kt ?_;rcases ht with rfl | rfl | rfl<;>rfl
 have h1:bc (ac P (d+4)) P.glo P.init (TD (TR [Tz .eq (Tr 3) (Ts 0),Tz .in_ (Tx 16 [TE (Tr 0) `fields,Tv (Tr 1) (Ts 1)]) (Tu [Tt `ct_state,Tt `ct_status,Tt `tcp_flag])]) [TC (Tu [Tt `«match»,Tv (Tr 1) (Ts 1),TS (Tz .eq (Tr 2) (Tt 15934)) (Tt `«none») (Tt `any),Tu [Tt `num,Tv (Tr 1) (Ts 2)]])] [])
  %[.ref I.p,dm nm (256^aj nm - 1),.str 15934,.int n|1] Y= .ok (.nxt,%[.ref I.p,dm nm (256^aj nm - 1),.str 15934,.int n|1]) Y:=by
  by_cases c:n=0
  . exact wy [1] λw=>w (pU (tJ (dn λw=>w (fT (UE %[|0]))) (yx hin)))
  . exact wy [] λw=>w (fT (UF %[|0]))
 have hp:1<=256^aj nm:=N2 %[|1];have hs:=(fQ h).2;have h2:∀a:Nat,bS .sub (.int ((a - 1:Nat):Int)) (.int ((a - 1:Nat):Int)) Y= .ok (.int 0) Y:=λa=>by
  have:=d6 (Y:=Y) (a:=a - 1) (b:=a - 1) (MZ _);rw[Pk] at this;exact this
 have hm:256<256^aj nm+1:=by
  rcases h with rfl | rfl | rfl | rfl<;>decide
 exact aG 65 [.ref I.p,dm nm (256^aj nm - 1), .str 15934, .int ↑n] Y [0,2] rfl rfl rfl h1 (aJ R.obj rfl) rfl (IN k h) (ja (a:=1) (b:=8*aj nm) %[|0] %[|1]) lU rfl (h2 _) rfl (iS (UE %[|0])) rfl
noncomputable def tV:List PV:=[.str `«meta nfproto», .str `«meta l4proto», .str `«meta protocol», .str `«ether type»]
noncomputable def kB(nm:Nat):Bool:=(`«meta nfproto»==nm)||((`«meta l4proto»==nm)||((`«meta protocol»==nm)||((`«ether type»==nm)||false)))
theorem ji:kB nm=true↔aV nm:=by
 unfold kB aV;erw[QH,beq_iff_eq,RD];constructor
 . rintro (h | h | h | h)<;>subst h<;>simp
 . rintro (h | h | h | h)<;>subst h<;>simp
theorem yh(h:¬aV nm):kB nm=false:=by
 cases c:kB nm with
 | false=>rfl|true=>exact absurd (ji.mp c) h
theorem zM(h:kB nm=t):b8 .in_ (.str nm) (.tup tV) Y= .ok (.bool t) Y:=by
 subst h;rfl
theorem oH(R:Rd N K I Y D)(hs:D.slot=some (.tup [e, .str od,m]))(he:e= .tup (.str tag::tl))(ht:tag≠`half)(ho:fe (f5 od I.ord))(hl:gU l)(Kz:(∀g,(∀{o:iR (Fl×UG)},ax (ac P (d+6)) P.glo P.init (fJ.drop 3) %[.ref I.p,di I.rg op l,e,.str od,m,.int (bH (bZ (f5 od I.ord) l)),.tup tV|0] (Y++g)=o->ax (ac P (d+6)) P.glo P.init fJ %[.ref I.p,di I.rg op l|5] Y=o)->Gz)):Gz:=by
 exists jm (d:=d+3) (od:=od) R.obj rfl ho hl.1 hl.2.1 hl.2.2,g,k1;exact Kz g (λh=>cE fJ %[.ref I.p,di I.rg op l|5] Y [0,0,0,3] rfl (IH R hs he ht) rfl k1 h)
theorem qQ(R:Rd N K I Y D)(g:gr D)(hs:D.slot=some (.tup [aH nm, .str od, .int many]))(hn:aV nm)(ho:fe (f5 od I.ord))(hl:gU l):
 gV N K I Y {D with pd:=D.pd++[⟨nm,bH (bZ (f5 od I.ord) l),D.at_⟩]} (ac P (d+7) 66 [.ref I.p,di I.rg 15934 l] Y) .none:=by
 exists oH (d:=d) (op:=15934) R hs rfl %[|1] ho hl,g1,pre;have R1:=R.app (g:=g1);have hg:=g.len;have R2:=R1.setPend (l:=D.pd++[⟨nm,bH (bZ (f5 od I.ord) l),D.at_⟩]) (by rw[MH];show D.pd.length+1<100;lia);erw[Nm] at R2;exact(wa _ _ _ (aG 66 [.ref I.p,di I.rg 15934 l] Y [3] (pre (cE (N6 3 fJ) %[TH I.p,di I.rg 15934 l,aH nm,TN od,TF ↑many,TF ↑(bH (bZ (f5 od I.ord) l)),TY tV|0] (Y++g1) [] rfl rfl rfl rfl rfl (zM (ji.mpr hn)) (aJ R1.obj rfl) (eT R1.pend) rfl rfl (aJ R1.obj rfl) (jl R1.pend (by rw[MN];lia))))) R2 ((ju.app R.low).trans (.set R.above.2.2.2.1)))
noncomputable def fG(D:fp)(v:PV):fp:={cK D with sts:=(cK D).sts++[(D.at_,v)]}
theorem rK(hrg:I.rg=0)(R:Rd N K I Y D)(g:gr D)(hs:D.slot=some (.tup [e, .str od,m]))(he:e= .tup (.str tag::tl))(ht:tag≠`half)(ho:fe (f5 od I.ord))(hl:gU l)
 (hc:∀s:aR,d7 (ac P (d+6)) P.glo P.init [Tz .eq (Tv (Tr 1) (Ts 1)) (Tt 15934),Tz .eq (Tv (Tr 2) (Ts 0)) (Tt `field),Tz .in_ (Tv (Tr 2) (Ts 1)) (Tr 6)] %[.ref I.p,di I.rg op l,e,.str od,m,.int (bH (bZ (f5 od I.ord) l)),.tup tV|0] s= .ok false s)
 (hv:∀g:aR,ac P (d+6) 65 [.ref I.p,e, .str op, .int (bH (bZ (f5 od I.ord) l))] (Y++g)= .ok v (Y++g)):gV N K I Y (fG D v) (ac P (d+7) 66 [.ref I.p,di I.rg op l] Y) .none:=by
 exists oH (d:=d) (op:=op) R hs he ht ho hl,g1,pre;have hg:=g.len;exists xU (Cr (d:=d+3) (v:=v) hrg (R.app (g:=g1)) g.sp g.pw %[|0] %[|0] g.sa g.pa),s,pe,dr,k,R1,B1;exact(wa s pe dr (aG 66 [.ref I.p,di I.rg op l] Y [3] (pre (cE (N6 3 fJ) %[TH I.p,di I.rg op l,e,TN od,m,TF ↑(bH (bZ (f5 od I.ord) l)),TY tV|0] (Y++g1) [1] (pU (hc _)) rfl (hv g1) k))) R1 ((ju.app R.low).trans B1))
theorem GO(hrg:I.rg=0)(R:Rd N K I Y D)(g:gr D)(hs:D.slot=some (.tup [aH nm, .str od, .int many]))(hn:op≠15934\/¬aV nm)(ho:fe (f5 od I.ord))(hl:gU l):
 gV N K I Y (fG D (cL (aH nm) op (bH (bZ (f5 od I.ord) l)))) (ac P (d+7) 66 [.ref I.p,di I.rg op l] Y) .none:=by
 refine rK (d:=d) hrg R g hs rfl %[|1] ho hl (λs=>?_) λX=>og
 by_cases c:op=15934
 . subst c
   exact tJ rfl (tJ rfl (yx (dn λw=>w rfl (zM (yh (by exists N0 hn (λh=>?_),h;exact absurd rfl h;exact h))))))
 . exact yx (dn λw=>w rfl (cH (UF c)))
theorem FS(hrg:I.rg=0)(k:sM K)(R:Rd N K I Y D)(g:gr D)(hs:D.slot=some (.tup [dm nm (256^aj nm - 1), .str `big, .int many]))(hn:aV nm)(hl:gU l):
 gV N K I Y (fG D (cL (dm nm (256^aj nm - 1)) 15934 (bH l))) (ac P (d+7) 66 [.ref I.p,di I.rg 15934 l] Y) .none:=
 rK (d:=d) hrg R g hs rfl %[|1] (.inl rfl) hl (λs=>tJ rfl rfl) λX=>uI (d:=d+1) k (R.app) hn
theorem IM(hrg:I.rg=0)(R:Rd N K I Y D)(g:gr D):gV N K I Y (fG D v) (ac P (d+4) 71 [.ref I.p,v] Y) .none:=by
 have hg:=g.len;exists xU (Cr (d:=d) (v:=v) hrg R g.sp g.pw %[|0] %[|0] g.sa g.pa),s,pe,dr,k,R1,B1;exact wa s pe dr (aG 71 [.ref I.p,v] Y [] k) R1 B1
end
noncomputable def jE:List (Nat×PV):=[(`payload, .fn 56),(`meta, .fn 57),(`ct, .fn 59),(`immediate, .fn 60),(`bitwise, .fn 61),(`shift, .fn 62),(`byteorder, .fn 63),(`hash, .fn 64),(`cmp, .fn 66),(`range, .fn 67),(`lookup, .fn 68),(`map, .fn 69),(`vmap, .fn 70),(`verdict, .fn 71)]
noncomputable def gh:List (Nat×PV):=[(`counter, .fn 73),(`quota, .fn 73),(`limit, .fn 73),(`object, .fn 71),(`dynset, .fn 74)]
noncomputable def ig:List (Nat×PV):=jE++gh
section
variable{call:db}{glo:Nat->PV}{init:Nat->Nat}{r:UG}{Y:aR}{l:List aC}
theorem kF(h0:r[i]?.join=some (.ref Y.length))(hf:PR kvs.length 4000=true)(h:unpI call glo init os ks vs r (Y++[.dictS (bK kvs k v)])= .ok () t):
 unpI call glo init (.loc i::os) (.str k::ks) (v::vs) r (Y++[.dictS kvs])= .ok () t:=by
 refine Kd (av h0) bC (im aM (MU hf)) ?_;erw[show(Y++[aC.dictS kvs]).set Y.length (.dictS (bK kvs k v))=Y++[.dictS (bK kvs k v)] from eI];exact h
theorem sK(h:bE call glo init es r (Y++[.dictS []])= .ok vs (Y++[.dictS []]))(hl:((k::ks).length==vs.length)=true):
 af call glo init (.dct (k::ks) es) r Y= .ok (.ref Y.length) (Y++[.dictS ((k::ks).zip vs)]):=by
 have:=Dx h aM hl;erw[show(Y++[aC.dictS []]).set Y.length (.dictS ((k::ks).zip vs))=Y++[.dictS ((k::ks).zip vs)] from eI] at this;exact this
end
section
variable{N:Nat}{K:List (Nat×PV)}{F:List (Nat×FI)}{I:kL}{Y s:aR}{D:fp}{d:Nat}
theorem xx:ac P (d+1) 72 [] Y= .ok (.ref Y.length) (Y++[.dictS jE]):=
 eC (r:=[none]) rfl rfl rfl (aD (cT (sK rfl rfl))
  (aD (vz rfl rfl (kF rfl rfl (kF rfl rfl (kF rfl rfl An))))
  (aD (vz rfl rfl (kF rfl rfl (kF rfl rfl (kF rfl rfl An))))
  (aD (vz rfl rfl (kF rfl rfl (kF rfl rfl (kF rfl rfl (kF rfl rfl An)))))
  (rfl)))))
theorem sT:ac P (d+1) 75 [] Y= .ok (.ref Y.length) (Y++[.dictS gh]):=
 eC (r:=[none]) rfl rfl rfl (aD (cT (sK rfl rfl))
  (aD (vz rfl rfl (kF rfl rfl (kF rfl rfl An))) rfl))
noncomputable def fV(n:Nat):fp:=⟨0,n+4,n+5,none,[],[],[],[]⟩
noncomputable def iT(n se ce fam ord rg:Nat):kL:=⟨n,se,ce,n+2,n+3,n+6,fam,ord,rg,n+7,ig⟩
noncomputable def d4(K:List (Nat×PV))(n:Nat)(I:kL):aR:=[.inst 1 (ty K I (fV n)), .dictS [], .dictS [], .dictS [], .list [], .list [], .list []]
theorem si:ac P (d+1) 110 [.ref Y.length, .fd K, .str fam, .ref se] (Y++[.inst 1 []])= .ok .none (Y++d4 K Y.length (iT Y.length se (Y.length+1) fam `little rg)):=
 aG 110 [.ref (Nb Y), .fd K, .str fam, .ref se] (Y++[aC.inst 1 []]) [2,2,2,2,2,2,2,2,2,2,2] (dE rfl rfl rfl) (dE rfl rfl rfl) (dE rfl rfl rfl) (dE bC rfl rfl) (dE rP rfl rfl) (dE bX rfl rfl) (dE rP rfl rfl) (dE rP rfl rfl) (dE Aa rfl rfl) (dE Aa rfl rfl) (dE Aa rfl rfl)
def jJ(N:Nat)(K:List (Nat×PV))(I:kL)(D:fp)(r:PV)(D':fp):Prop:=D'.at_=D.at_/\∃tag l f,r= .tup (.str tag::l)/\I.bd.lookup tag=some (.fn f)/\
 ∀d Y pe dr,Rd N K I Y {D with pe:=pe,dr:=dr}->gV N K I Y D' (ac P (d+7) f [.ref I.p,r] Y) .none
inductive dD(N:Nat)(K:List (Nat×PV))(I:kL):fp->List PV->fp->Prop where
 | nil {D:fp}:dD N K I D [] D|cons {D D1 D2:fp} {r:PV} {rs:List PV}:jJ N K I D r D1->dD N K I {D1 with at_:=D1.at_+1} rs D2->dD N K I D (r::rs) D2
theorem dD.app(x:dD N K I D a D1)(y:dD N K I D1 b D2):dD N K I D (a++b) D2:=by
 induction x with
 | nil=>exact y|cons h _ ih=>exact .cons h (ih y)
theorem vX(R:Rd N K I Y D)(hl:I.bd.lookup tag=some (.fn f))
 (h:ax (ac P (d+7)) P.glo P.init ((aQ aO 5).drop 2) [r0,r1,r2,r3,r4,r5,r6,some (.ref I.p),some (.ref I.bk),r9,r10,some (.tup (.str tag::l)),some (.fn f)] Y=o):
 ax (ac P (d+7)) P.glo P.init (aQ aO 5) [r0,r1,r2,r3,r4,r5,r6,some (.ref I.p),some (.ref I.bk),r9,r10,some (.tup (.str tag::l)),z] Y=o:=by
 have hn:=nB (k:=tag) R.backs;rw[hl] at hn;exact tQ [0,0,3] λw=>w vx hn vx (l8 R.backs hl) h
theorem De:bK (ty K I D) 25205 (.int (a:Nat))=ty K I {D with at_:=a}:=rfl
theorem AA(R:Rd N K I Y D)(h:r[7]?.join=some (.ref I.p)):bc call glo init (.augA 7 25205 .add (.int 1)) r Y= .ok (.nxt,r) (Y.set I.p (.inst 1 (ty K I {D with at_:=D.at_+1}))):=by
 have:=Ji (call:=call) (glo:=glo) (init:=init) (r:=r) (at_:=25205) (op:= .add) (e:= .int 1) (a:=(D.at_:Nat)) (b:=1) h R.obj rfl bX (iK (a:=D.at_) (b:=1)) R.obj (MU rfl);erw[De] at this;exact this
theorem iZ(hq:q<N):∀{rs:List PV} {D D2:fp} {i f:Nat} {Y:aR} {pe dr:Nat} {z1 z2:Option PV},dD N K I D rs D2->Rd N K I Y {D with pe:=pe,dr:=dr}->Y[q]? =some (.list all)->all.drop i=rs->rs.length<f->
 (∀s pe dr w1 w2,(fW (.one 11) (λr=>ax (ac P (d+7)) P.glo P.init (aQ aO 5) r) f (.lst q i) [r0,r1,r2,r3,r4,r5,r6,some (.ref I.p),some (.ref I.bk),r9,r10,z1,z2] Y= .ok (.nxt,[r0,r1,r2,r3,r4,r5,r6,some (.ref I.p),some (.ref I.bk),r9,r10,w1,w2]) s)->Rd N K I s {D2 with pe:=pe,dr:=dr}->ju N Y s->Gz)->Gz
 | [],D,D2,i,f,Y,pe,dr,z1,z2,x,R,hs,hd,hf,Kz=>by
   exists bx (MP (Nv hf)),f,rfl;cases x;exact Kz Y pe dr z1 z2 (gz (mY hs (by rw[Nt];exact Pp.mp hd))) R .refl
 | r::rs,D,D2,i,f,Y,pe,dr,z1,z2,x,R,hs,hd,hf,Kz=>by
   erw[M0] at hf;exists bx (MP (show f≠0 by lia)),f,rfl
   cases x with
   | @cons _ D1 _ _ _ h y=>
     (refine bj h λha z'0=>gy z'0 λtag l fn z'1=>fE z'1 λt'3 hl go=>?_;obtain rfl:=t'3)
     exists xU (go d Y pe dr R),s1,pe1,dr1,k1,R1,B1;have B2:ju N Y (s1.set I.p (.inst 1 (ty K I {D1 with pe:=pe1,dr:=dr1,at_:=D1.at_+1}))):=B1.trans (.set R.above.1);have hs2:=(B2.2 q hq).trans hs;exists iZ hq (r0:=r0) (r1:=r1) (r2:=r2) (r3:=r3) (r4:=r4) (r5:=r5) (r6:=r6) (r9:=r9) (r10:=r10) (rs:=rs) (D:={D1 with at_:=D1.at_+1}) (i:=i+1) (f:=f) (z1:=some (.tup (.str tag::l))) (z2:=some (.fn fn)) y (R1.setAt (a:=D1.at_+1)) hs2 (by rw[<-PB,hd];rfl) %[|0],s,pe2,dr2,z1',z2',k3,R3,B3;refine(Kz s pe2 dr2 z1' z2' (iU (pH hs (by rw[<-Ps,hd];rfl)) rfl (vX R hl (tQ [0,2] λw=>w k1 (AA R1 rfl))) rfl k3) R3 (B2.trans B3))
theorem nh(hq:q<N):∀{rs:List PV} {D D2:fp} {i f:Nat} {Y:aR} {pe dr:Nat} {z1 z2:Option PV} {x:PV} {tl:List PV},dD N K I D rs D2->Rd N K I Y {D with pe:=pe,dr:=dr}->Y[q]? =some (.list all)->all.drop i=rs++x::tl->rs.length<f->
 (∀Y pe dr,Rd N K I Y {D2 with pe:=pe,dr:=dr}->∀z,∃s,ax (ac P (d+7)) P.glo P.init (aQ aO 5) [r0,r1,r2,r3,r4,r5,r6,some (.ref I.p),some (.ref I.bk),r9,r10,some x,z] Y= .exn m s/\ju N Y s)->
 (∀s,(fW (.one 11) (λr=>ax (ac P (d+7)) P.glo P.init (aQ aO 5) r) f (.lst q i) [r0,r1,r2,r3,r4,r5,r6,some (.ref I.p),some (.ref I.bk),r9,r10,z1,z2] Y= .exn m s)->ju N Y s->Gz)->Gz:=by
 intro rs
 induction rs with
 | nil=>
   intro D D2 i f Y pe dr z1 z2 x tl y R hs hd hf go Kz;exists bx (MP (Nv hf)),f,rfl;cases y;exists aA (go Y pe dr R z2),s,k,B;exact Kz s (H3 (pH hs (by rw[<-Ps,hd];rfl)) rfl k) B
 | cons r rs nh=>
   intro D D2 i f Y pe dr z1 z2 x tl y R hs hd hf go Kz;erw[M0] at hf;exists bx (MP (show f≠0 by lia)),f,rfl
   cases y with
   | @cons _ D1 _ _ _ h y=>
     (refine bj h λha z'0=>gy z'0 λtag l fn z'1=>fE z'1 λt'6 hl go1=>?_;obtain rfl:=t'6)
     exists xU (go1 d Y pe dr R),s1,pe1,dr1,k1,R1,B1;have B2:ju N Y (s1.set I.p (.inst 1 (ty K I {D1 with pe:=pe1,dr:=dr1,at_:=D1.at_+1}))):=B1.trans (.set R.above.1);have hs2:=(B2.2 q hq).trans hs;exists nh (D:={D1 with at_:=D1.at_+1}) (i:=i+1) (f:=f) (z1:=some (.tup (.str tag::l))) (z2:=some (.fn fn)) y (R1.setAt (a:=D1.at_+1)) hs2 (by rw[<-PB,hd];rfl) %[|0] go,s,k3,B3;refine(Kz s (iU (pH hs (by rw[<-Ps,hd];rfl)) rfl (vX R hl (tQ [0,2] λw=>w k1 (AA R1 rfl))) rfl k3) (B2.trans B3))
end
section
variable{K:List (Nat×PV)}{Y s:aR}{d:Nat}
def rO(Y:aR)(ca:PV)(ce:Nat):Prop:=(ca= .none/\ce=Y.length+1)\/(ca= .ref ce/\Y[ce]? =some (.dictS []))
noncomputable def i7(K:List (Nat×PV))(n:Nat)(I:kL):aR:=d4 K n I++[.dictS ig, .dictS gh]
theorem nH(hc:rO Y ca ce):Rd Y.length K (iT Y.length se ce fam ord rg) (Y++i7 K Y.length (iT Y.length se ce fam ord rg)) {fV Y.length with pe:=Y.length+4,dr:=Y.length+5}:=by
 refine⟨f0,dh (i:=2) rfl,dh (i:=3) rfl,dh (i:=4) rfl,dh (i:=5) rfl,dh (i:=6) rfl,?_,dh (i:=7) rfl,?_,?_,(by show 0<100/\0<100/\0<1000/\0<1000;decide)⟩
 . rcases hc with ⟨_,rfl⟩ | ⟨_,h⟩
   . exact dh (i:=1) rfl
   . exact aU h
 . show Y.length<=Y.length/\Y.length<=Y.length+2/\Y.length<=Y.length+3/\Y.length<=Y.length+4/\Y.length<=Y.length+5/\Y.length<=Y.length+6
   lia
 . have:ce≠Y.length+2/\ce≠Y.length+3:=by
    rcases hc with ⟨_,rfl⟩ | ⟨_,h⟩
    . lia
    . have:=bw h;lia
   show Y.length+4≠Y.length+5/\Y.length+4≠Y.length+6/\Y.length+5≠Y.length+6/\Y.length+2≠Y.length+3/\ce≠Y.length+2/\ce≠Y.length+3/\Y.length+7≠Y.length+2/\Y.length+7≠Y.length+3
   lia
theorem nK(hc:rO Y ca ce)(Kz:(∀w,(∀{o:iR (Fl×UG)},
 ax (ac P (d+7)) P.glo P.init (aO.drop 5) %[.fd K,.str fam,.ref q,.ref se,.str ord,ca,.tup [],.ref Y.length,.ref (Y.length+7),.ref (Y.length+8)|[w,none,none]] (Y++i7 K Y.length (iT Y.length se ce fam ord rg))=o->
 ax (ac P (d+7)) P.glo P.init aO %[.fd K,.str fam,.ref q,.ref se,.str ord,ca,.tup []|6] Y=o)->Gz)):Gz:=bx (show∃w,∀{o:iR (Fl×UG)},
 ax (ac P (d+7)) P.glo P.init (aO.drop 5) %[.fd K,.str fam,.ref q,.ref se,.str ord,ca,.tup [],.ref Y.length,.ref (Y.length+7),.ref (Y.length+8)|[w,none,none]] (Y++i7 K Y.length (iT Y.length se ce fam ord rg))=o->
 ax (ac P (d+7)) P.glo P.init aO %[.fd K,.str fam,.ref q,.ref se,.str ord,ca,.tup []|6] Y=o from by
 have e0:bc (ac P (d+7)) P.glo P.init (TA 7 (E.new 1 [Tr 0,Tr 1,Tr 3])) %[.fd K,.str fam,.ref q,.ref se,.str ord,ca,.tup []|6] Y=
  .ok (.nxt,%[.fd K,.str fam,.ref q,.ref se,.str ord,ca,.tup [],.ref Y.length|5]) (Y++d4 K Y.length (iT Y.length se (Y.length+1) fam `little rg)):=
  wy [] λw=>w (si (d:=d+6))
 have e1:bc (ac P (d+7)) P.glo P.init (TJ (Tr 7) `order (Tr 4)) %[.fd K,.str fam,.ref q,.ref se,.str ord,ca,.tup [],.ref Y.length|5] (Y++d4 K Y.length (iT Y.length se (Y.length+1) fam `little rg))=
  .ok (.nxt,%[.fd K,.str fam,.ref q,.ref se,.str ord,ca,.tup [],.ref Y.length|5]) (Y++d4 K Y.length (iT Y.length se (Y.length+1) fam ord rg)):=by
  have:=uD (call:=ac P (d+7)) (glo:=P.glo) (init:=P.init) (r:=%[.fd K,.str fam,.ref q,.ref se,.str ord,ca,.tup [],.ref Y.length|5]) (o:= .loc 7) (a:=`order) (e:= .loc 4)
   (Y:=Y++d4 K Y.length (iT Y.length se (Y.length+1) fam `little rg)) (av rfl) (av rfl) f0 (MU rfl)
  erw[d4,eI] at this;exact this
 have e2:bc (ac P (d+7)) P.glo P.init (TD (Tz .isnt (Tr 5) TW) [TJ (Tr 7) `cells (Tr 5)] []) %[.fd K,.str fam,.ref q,.ref se,.str ord,ca,.tup [],.ref Y.length|5] (Y++d4 K Y.length (iT Y.length se (Y.length+1) fam ord rg))=
  .ok (.nxt,%[.fd K,.str fam,.ref q,.ref se,.str ord,ca,.tup [],.ref Y.length|5]) (Y++d4 K Y.length (iT Y.length se ce fam ord rg)):=by
  rcases hc with ⟨rfl,rfl⟩ | ⟨rfl,h⟩
  . exact mq rfl cM
  . have:=uD (call:=ac P (d+7)) (glo:=P.glo) (init:=P.init) (r:=%[.fd K,.str fam,.ref q,.ref se,.str ord,.ref ce,.tup [],.ref Y.length|5]) (o:= .loc 7) (a:=`cells) (e:= .loc 5)
     (Y:=Y++d4 K Y.length (iT Y.length se (Y.length+1) fam ord rg)) (av rfl) (av rfl) f0 (MU rfl)
    erw[d4,eI] at this;exact qb rfl (cE [TJ (Tr 7) `cells (Tr 5)] (%[.fd K,.str fam,.ref q,.ref se,.str ord,.ref ce,.tup [],.ref (Nb Y)|5]) (Y++d4 K (Nb Y) (iT (Nb Y) se (Nb Y+1) fam ord rg)) [2] this)
 have hl7:(Y++d4 K Y.length (iT Y.length se ce fam ord rg)).length=Y.length+7:=by rw[MH];rfl
 have e3:bc (ac P (d+7)) P.glo P.init (TA 8 (Tx 72 [])) %[.fd K,.str fam,.ref q,.ref se,.str ord,ca,.tup [],.ref Y.length|5] (Y++d4 K Y.length (iT Y.length se ce fam ord rg))=
  .ok (.nxt,%[.fd K,.str fam,.ref q,.ref se,.str ord,ca,.tup [],.ref Y.length,.ref (Y.length+7)|4]) (Y++d4 K Y.length (iT Y.length se ce fam ord rg)++[.dictS jE]):=by
  have:=xx (d:=d+6) (Y:=Y++d4 K Y.length (iT Y.length se ce fam ord rg));rw[hl7] at this;exact cT (bu bA this)
 have e4:=sT (d:=d+6) (Y:=Y++d4 K Y.length (iT Y.length se ce fam ord rg)++[.dictS jE]);rw[MH,hl7] at e4;have hsrc:af (ac P (d+7)) P.glo P.init (Tw .add (Tu [Tx 75 []]) (T9 (Tr 6))) %[.fd K,.str fam,.ref q,.ref se,.str ord,ca,.tup [],.ref Y.length,.ref (Y.length+7)|4] (Y++d4 K Y.length (iT Y.length se ce fam ord rg)++[.dictS jE])=
  .ok (.tup [.ref (Y.length+8)]) (Y++d4 K Y.length (iT Y.length se ce fam ord rg)++[.dictS jE]++[.dictS gh]):=
  dn λw=>w e4 rfl rfl
 have g8:(Y++d4 K Y.length (iT Y.length se ce fam ord rg)++[aC.dictS jE]++[aC.dictS gh])[Y.length+8]? =some (.dictS gh):=by
  rw[MR,MR];exact dh (i:=8) rfl
 have g7:(Y++d4 K Y.length (iT Y.length se ce fam ord rg)++[aC.dictS jE]++[aC.dictS gh])[Y.length+7]? =some (.dictS jE):=by
  rw[MR,MR];exact dh (i:=7) rfl
 refine bx (HU (call:=ac P (d+7)) (glo:=P.glo) (init:=P.init) (Y:=Y++d4 K Y.length (iT Y.length se ce fam ord rg)++[.dictS jE]++[.dictS gh]) (r:=%[.fd K,.str fam,.ref q,.ref se,.str ord,ca,.tup [],.ref Y.length,.ref (Y.length+7),.ref (Y.length+8)|3]) (i:=10) (b:=8) (g:= .loc 9) (by show 10<13;decide) rfl rfl g8 g7 %[|0] (MU rfl) (by decide+kernel)) λz z'0=>bj z'0 λk1 z'1=>bx z'1 λw hz=>?_;have hset:(Y++d4 K Y.length (iT Y.length se ce fam ord rg)++[aC.dictS jE]++[aC.dictS gh]).set (Y.length+7) (.dictS (cn jE gh))=Y++i7 K Y.length (iT Y.length se ce fam ord rg):=by
  rw[MR,MR,PE _ _ (MV _ _),Pz];rfl
 rw[hset] at k1;obtain⟨w',rfl⟩:∃w',z=%[.fd K,.str fam,.ref q,.ref se,.str ord,ca,.tup [],.ref Y.length,.ref (Y.length+7),.ref (Y.length+8)|[w',none,none]]:=by
  refine N0 hz (λrfl=>?_) λrfl=>?_
  . exact⟨w,rfl⟩
  . exact⟨none,rfl⟩
 exact⟨w',λh=>cE aO (%[.fd K,.str fam,.ref q,.ref se,.str ord,ca,.tup []|6]) Y [2,2,2,2,1,3] e0 e1 e2 e3 hsrc rfl (iU rfl rfl (cE [S.cpy 10 (Tr 9) 8] (%[T0 K,TN fam,TH q,TH se,TN ord,ca,TY [],TH (Nb Y),TH (Nb Y+7),TH (Nb Y+8)|3]) (Y++d4 K (Nb Y) (iT (Nb Y) se ce fam ord rg)++[aC.dictS jE]++[aC.dictS gh]) [] k1) rfl (gz rfl)) h⟩) Kz
theorem nz(hc:rO Y ca ce)(hq:Y[q]? =some (.list rows))(x:dD Y.length (aF F) (iT Y.length se ce fam ord 0) (fV Y.length) rows D2)(g:gr D2)(Kz:(∀s,ac P (d+8) 76 [.fd (aF F), .str fam, .ref q, .ref se, .str ord,ca, .tup []] Y= .ok (.tup ((cK D2).sts.map (·.2))) s->Fr [] Y s->Gz)):Gz:=by
 exists nK (d:=d) (K:=aF F) (fam:=fam) (ord:=ord) (rg:=0) (se:=se) (q:=q) hc,w,pre;exists iZ (d:=d) (bw hq) (r0:=some (.fd (aF F))) (r1:=some (.str fam)) (r2:=some (.ref q)) (r3:=some (.ref se)) (r4:=some (.str ord)) (r5:=some ca) (r6:=some (.tup [])) (r9:=some (.ref (Y.length+8))) (r10:=w) (i:=0) (f:=rows.length+1) (z1:=none) (z2:=none) x (nH (K:=aF F) (fam:=fam) (ord:=ord) (rg:=0) (se:=se) hc) (aU hq) rfl %[|0],s1,pe1,dr1,z1,z2,k1,R1,B1;have hg:=g.len;exists xU (Af (d:=d+5) rfl R1 g.sp g.pw (by show D2.known.length+D2.pd.length<100;lia) (by show D2.sts.length+D2.pd.length<1000;lia)),s2,pe2,dr2,k2,R2,B2;have hl:(cK D2).sts.length<1000:=by unfold cK;erw[MH,MN];lia
 have hstat:=R2.stat;have hcomp:=kP (call:=ac P (d+7)) (glo:=P.glo) (init:=P.init) (Y:=s2) (r:=%[.fd (aF F),.str fam,.ref q,.ref se,.str ord,ca,.tup [],.ref Y.length,.ref (Y.length+7),.ref (Y.length+8)|[w,z1,z2]]) (elt:=Tv (Tr 0) (Ts 1)) (isR:=false) (src:= .attr (.loc 7) `statements) (n:=((cK D2).sts.map gB).length) (xs:=(cK D2).sts.map gB)
  (λx=>match x with | .tup [_,v]=>v | _=> .none) (cQ (av rfl) R2.obj rfl) (ey hstat) rfl (nk (i:=0) hstat rfl) (by rw[MN];lia) λx hx=>by
    exists aA (Nd.mp hx),e,X,rfl;exact dn λw=>w rfl
 have hm:((cK D2).sts.map gB).map (λx:PV=>match x with | .tup [_,v]=>v | _=> .none)=(cK D2).sts.map (·.2):=by rw[NL];rfl
 rw[hm] at hcomp;have hmk:nW (.ref s2.length) (s2++[.list ((cK D2).sts.map (·.2))])= .ok (.tup ((cK D2).sts.map (·.2))) (s2++[.list ((cK D2).sts.map (·.2))]):=by
  show((cO s2.length).bnd _) _=_
  rw[ag (a8 aM)];rfl
 have hrows:pc false (.ref q) (Y++i7 (aF F) Y.length (iT Y.length se ce fam ord 0))= .ok (.lst q 0,rows.length) _:=ey (aU hq);have Bf:∀{s:aR},ju Y.length (Y++i7 (aF F) Y.length (iT Y.length se ce fam ord 0)) s->Fr [] Y s:=λB=>⟨MO (by erw[MH];lia) B.1,λi hi X=>(B.2 i hi).trans (Nc hi)⟩;exact(Kz _ (aG 76 ([.fd (aF F), .str fam, .ref q, .ref se, .str ord,ca, .tup []]) Y [3] (pre (cE (N6 5 aO) (%[T0 (aF F),TN fam,TH q,TH se,TN ord,ca,TY [],TH (Nb Y),TH (Nb Y+7),TH (Nb Y+8)|[w,none,none]]) (Y++i7 (aF F) (Nb Y) (iT (Nb Y) se ce fam ord 0)) [] hrows k1 k2 hcomp hmk))) ((Bf (B1.trans B2)).trans .app))
end
noncomputable def aL{α:Type}(L:List (Nat×α)):Nat->Option α:=λk=>L.lookup k
noncomputable def eN(f:Nat->Option (Nat×Nat))(q:Pd):Nat->Option (Nat×Nat):=λk=>if k=q.nm then(match f q.nm with | some y=>if y.1<q.at_ then some (q.at_,q.num) else some y | none=>some (q.at_,q.num)) else f k
theorem ie:aL (cG L k v)=λj=>if j=k then some v else aL L j:=funext λj=>sx k j v L
theorem Gl:aL (bi L q)=eN (aL L) q:=by
 unfold bi eN;erw[show aL L q.nm=L.lookup q.nm from rfl]
 cases h:L.lookup q.nm with
 | none=>exact ie|some y=>
   dsimp only
   by_cases c:y.1<q.at_
   . rw[if_pos c,if_pos c];exact ie
   . rw[if_neg c,if_neg c]
     funext k
     by_cases e:k=q.nm
     . rw[if_pos e,e];exact h
     . rw[if_neg e]
theorem iI:∀{l:List Pd} {L:List (Nat×(Nat×Nat))},aL (l.foldl bi L)=l.foldl eN (aL L):=by
 intro l
 induction l with
 | nil=>
   intro _;exact rfl
 | cons q l iI=>
   intro L;erw[NE,NE, <-Gl];exact iI
theorem AK(h:a.at_≠b.at_):eN (eN f a) b=eN (eN f b) a:=by
 by_cases e:a.nm=b.nm
 . funext k
   unfold eN
   by_cases c:k=b.nm
   . rw[e]
     erw[c,if_true]
     cases f b.nm with
     | none=>
       dsimp only
       by_cases c1:a.at_<b.at_
       . rw[if_pos c1,if_neg %[|0]]
       . rw[if_neg c1,if_pos %[|0]]
     | some y=>
       by_cases c1:y.1<a.at_<;>by_cases c2:y.1<b.at_<;>erw[c1,c2,if_true,if_false]
       . by_cases c3:a.at_<b.at_
         . rw[if_pos c3,if_neg %[|0]]
         . rw[if_neg c3,if_pos %[|0]]
       . rw[if_neg %[|0]]
       . rw[if_neg %[|0]]
   . have c':¬k=a.nm:=λz=>c (z.trans e)
     erw[c,c',if_false]
 . funext k
   unfold eN
   by_cases c:k=b.nm
   . have:¬b.nm=a.nm:=λz=>e z.symm
     erw[c,this,if_true,if_false]
   . by_cases c':k=a.nm
     . erw[c',e,if_true,if_false]
     . erw[c,c',if_false]
theorem pC:∀{l:List Pd} {f:Nat->Option (Nat×Nat)},(∀b∈l,a.at_≠b.at_)->l.foldl eN (eN f a)=eN (l.foldl eN f) a:=by
 intro l
 induction l with
 | nil=>
   intro _ _;exact rfl
 | cons b l pC=>
   intro f h;erw[NE,NE,AK (h b (.head _))];exact pC λx hx=>h x (.tail _ hx)
theorem nr:∀{x y:List Pd} {f:Nat->Option (Nat×Nat)},(∀a∈x,∀b∈y,a.at_≠b.at_)->x.foldl eN (y.foldl eN f)=y.foldl eN (x.foldl eN f):=by
 intro x
 induction x with
 | nil=>
   intro _ _ _;exact rfl
 | cons a x nr=>
   intro y f h;erw[NE,NE, <-pC (h a (.head _))];exact nr λa' ha=>h a' (.tail _ ha)
noncomputable def val(f:Nat->Option (Nat×Nat)):Nat->Option Nat:=λk=>(f k).map (·.2)
noncomputable def ov(g:Nat->Option Nat)(l:List (Nat×Nat)):Nat->Option Nat:=l.foldl (λg n=>λk=>if k=n.1 then some n.2 else g k) g
theorem m5:∀{l:List (Nat×Nat)} {L:List (Nat×Nat)},aL (l.foldl (λL n=>cG L n.1 n.2) L)=ov (aL L) l:=by
 intro l
 induction l with
 | nil=>
   intro _;exact rfl
 | cons n l m5=>
   intro L;erw[NE,m5,ie];rfl
theorem vW:ov g (a++b)=ov (ov g a) b:=by unfold ov;erw[Pt]
noncomputable def LR(q:Pd):Nat×Nat:=(q.nm,q.num)
theorem lP:∀{l:List Pd} {f:Nat->Option (Nat×Nat)},l.Pairwise (λa b=>a.at_<b.at_)->(∀q∈l,∀k y,f k=some y->y.1<q.at_)->val (l.foldl eN f)=ov (val f) (l.map LR):=by
 intro l
 induction l with
 | nil=>
   intro _ _ _;exact rfl
 | cons q l lP=>
   intro f hp h;have hp':=Qg.mp hp;have e:eN f q=λk=>if k=q.nm then some (q.at_,q.num) else f k:=by
    funext k
    unfold eN
    by_cases c:k=q.nm
    . rw[if_pos c,if_pos c]
      cases hf:f q.nm with
      | none=>rfl|some y=>exact if_pos (h q (.head _) _ _ hf)
    . rw[if_neg c,if_neg c]
   rw[NE,lP hp'.2 (λx hx k y hy=>by
    rw[e] at hy
    by_cases c:k=q.nm
    . erw[c,if_true,N9] at hy
      subst hy;exact hp'.1 x hx
    . erw[c,if_false] at hy
      exact h x (.tail _ hx) k y hy)]
   have e2:val (eN f q)=λk=>if k=q.nm then some q.num else val f k:=by
    funext k
    unfold val;rw[e]
    by_cases c:k=q.nm
    . erw[c,if_true,PM]
    . erw[c,if_false]
   rw[e2];rfl
noncomputable def aT(g:Nat->Option Nat)(l:List (Nat×Nat)):List (Nat×Nat):=l.filter λn=>decide (g n.1≠some n.2)
theorem yw:gJ L l=aT (val (aL L)) l:=rfl
noncomputable def f4:List (Nat×Nat)->Nat->List Pd
 | [],_=>[]|n::H,a=>⟨n.1,n.2,a+1 - 2*(H.length+1)⟩::f4 H a
theorem f6:∀{H:List (Nat×Nat)} {a:Nat},(f4 H a).length=H.length:=by
 intro H
 induction H with
 | nil=>
   intro _;exact rfl
 | cons _ _ f6=>
   intro _;exact congrArg (· +1) f6
theorem xR:∀{H:List (Nat×Nat)} {a m:Nat},(f4 H a).drop m=f4 (H.drop m) a
 | _,_,0=>rfl|[],_,_+1=>rfl|_::H,a,m+1=>xR (H:=H)
theorem ml:∀{H:List (Nat×Nat)} {a:Nat},(f4 H a).map LR=H:=by
 intro H
 induction H with
 | nil=>
   intro _;exact rfl
 | cons n H ml=>
   intro a;exact congrArg (n:: ·) ml
theorem su:∀{H:List (Nat×Nat)} {a:Nat},f4 (H++[n]) (a+2)=f4 H a++[⟨n.1,n.2,a+1⟩]:=by
 intro H
 induction H with
 | nil=>
   intro a;show[(⟨n.1,n.2,a+2+1 - 2*(0+1)⟩:Pd)]=[⟨n.1,n.2,a+1⟩];rw[show a+2+1 - 2*(0+1)=a+1 by lia]
 | cons h H su=>
   intro a;show(⟨h.1,h.2,a+2+1 - 2*((H++[n]).length+1)⟩:Pd)::f4 (H++[n]) (a+2)=⟨h.1,h.2,a+1 - 2*(H.length+1)⟩::(f4 H a++[⟨n.1,n.2,a+1⟩]);erw[su,MH,show a+2+1 - 2*(H.length+[n].length+1)=a+1 - 2*(H.length+1) by show a+2+1 - 2*(H.length+1+1)=_;lia]
theorem zA:∀{H:List (Nat×Nat)} {q:Pd},2*H.length<=a->q∈f4 H a->a+1<=q.at_+2*H.length/\q.at_+1<=a/\∃n∈H,n=LR q
 | h::H,q,hl,hq=>by
   erw[M0] at hl ⊢;rcases MW.mp hq with rfl | hq
   . exact dY (by show a+1<=a+1 - 2*(H.length+1)+2*(H.length+1);lia) (by show a+1 - 2*(H.length+1)+1<=a;lia) h (.head _) rfl
   . exists nj (zA %[|0] hq),h1,h2,n,hn,e
     exact dY %[|0] h2 n (.tail _ hn) e
theorem sD:∀{H:List (Nat×Nat)},2*H.length<=a->(f4 H a).Pairwise (λa b=>a.at_<b.at_):=by
 intro H
 induction H with
 | nil=>
   intro _;exact .nil
 | cons h H sD=>
   intro hl;erw[M0] at hl;refine Qg.mpr ⟨λq hq=>?_,sD %[|0]⟩;have:=zA %[|0] hq;show a+1 - 2*(H.length+1)<q.at_;lia
theorem ud:∀{A:List (Nat×Nat)},2*A.length<=a+1->fL A a=je (f4 A a):=λ{A} h=>by
 unfold fL je;exists Tk (by erw[MN,MN,Nx,f6]),i,h1,h2;have hi:i<A.length:=by erw[MN,Nx] at h1;exact h1
 erw[Qx,Qx,Sv];have e:(f4 A a)[i]'(by rw[f6];exact hi)=⟨A[i].1,A[i].2,a+1 - 2*(A.length - i)⟩:=by
  have key:∀{A:List (Nat×Nat)} {i:Nat} (hi:i<A.length),(f4 A a)[i]'(by erw[f6];exact hi)=⟨A[i].1,A[i].2,a+1 - 2*(A.length - i)⟩:=λ{A}=>by
   induction A with
   | nil=>exactλhi=>absurd hi (Nat.not_lt_zero _)|cons n A ih=>
     intro i hi
     cases i with
     | zero=>rfl|succ i=>
       have hi':i<A.length:=by erw[M0] at hi;lia
       have:=ih hi';show(f4 A a)[i]'_=⟨A[i].1,A[i].2,a+1 - 2*(A.length+1 - (i+1))⟩;erw[this,show A.length+1 - (i+1)=A.length - i by lia]
  exact key hi
 erw[e];show((A.getD (0+1*i) (0,0)).1,(A.getD (0+1*i) (0,0)).2,(a:Int)+1 - (2*A.length:Nat)+(2*(0+1*i):Nat))=(A[i].1,A[i].2,((a+1 - 2*(A.length - i):Nat):Int));erw[N7,PX,NG,MX hi];refine SI rfl (SI rfl ?_);show(a:Int)+1 - (2*A.length:Nat)+(2*i:Nat)=((a+1 - 2*(A.length - i):Nat):Int);lia
theorem Gp(h:2*H.length<=a+1):fL A a=je (f4 H a)↔A=H:=by
 constructor
 . intro e
   have hl:A.length=H.length:=by
    have:=congrArg Nb e;unfold fL je at this;erw[MN,MN,Nx,f6] at this;exact this
   rw[ud %[|0]] at e;have:=congrArg (Pa λx:Nat×Nat×Int=>(x.1,x.2.1)) e;unfold je at this;erw[NL,NL] at this;have c:∀B:List (Nat×Nat),(f4 B a).map ((λx:Nat×Nat×Int=>(x.1,x.2.1))∘λq:Pd=>(q.nm,q.num,(q.at_:Int)))=B:=λB=>ml;erw[c,c] at this;exact this
 . rintro rfl
   exact ud h
structure kM(D:fp)(H:List (Nat×Nat))(g:Nat->Option Nat):Prop where
 kn:Kn D.known
 hn:∀n∈H,aV n.1
 pd:D.pd=f4 H D.at_
 two:2*H.length<=D.at_
 base:val (aL D.known)=g
 low:∀k y,aL D.known k=some y->y.1+2*H.length<=D.at_
 sa:∀e∈D.sts,e.1+2*H.length<=D.at_
 da:∀e∈D.dp,e.1+2*H.length<=D.at_
 kl:D.known.length+H.length<=D.at_
 sl:D.sts.length+H.length<=D.at_
 dl:D.dp.length+H.length<=D.at_
 sm:D.at_<80
section
variable{D:fp}{H:List (Nat×Nat)}{g:Nat->Option Nat}
theorem kM.pos(v:kM D H g)(hq:q∈D.pd):D.at_+1<=q.at_+2*H.length/\q.at_+1<=D.at_/\aV q.nm:=by
 rw[v.pd] at hq;exists nj (zA v.two hq),h1,h2,n,hn,e;exact dq h1 h2 (by have:=v.hn n hn;rw[e] at this;exact this)
theorem kM.good(v:kM D H g):gr D where
 kn:=v.kn
 pn:=λq hq=>(v.pos hq).2.2
 sp:=λe he q hq=>by have:=v.sa e he;have:=(v.pos hq).1;lia
 pw:=by erw[v.pd];exact(sD v.two).imp Nk
 sa:=λe he=>by have:=v.sa e he;lia
 pa:=λq hq=>by have:=(v.pos hq).2.1;lia
 da:=λe he=>by have:=v.da e he;lia
 len:=by
  have h1:=v.kl;have h2:=v.sl;have h3:=v.dl;have h4:=v.sm;erw[v.pd,f6];lia
end
theorem kM.dpp(v:kM D H g):∀e∈D.dp,∀q∈D.pd,e.1<=q.at_:=λe he q hq=>by have:=v.da e he;have:=(v.pos hq).1;lia
theorem gr.upd(g:gr D):gr {D with pe:=pe,dr:=dr}:=⟨g.kn,g.pn,g.sp,g.pw,g.sa,g.pa,g.da,g.len⟩
theorem C9:∀{f:Nat->Option Nat},(∀n∈l,n.1≠k)->ov f l k=f k:=by
 induction l with
 | nil=>exactλX=>rfl|cons n l ih=>
   intro f h;show ov (λj=>if j=n.1 then some n.2 else f j) l k=f k;rw[ih λm hm=>h m (.tail _ hm),if_neg λz=>h n (.head _) z.symm]
theorem Ij:∀{f:Nat->Option Nat} {n:Nat×Nat},(l.map (·.1)).Nodup->n∈l->ov f l n.1=some n.2:=by
 induction l with
 | nil=>exactλX h=>nomatch h|cons m l ih=>
   intro f n hd hn;have hd':=NI.mp hd;rcases MW.mp hn with rfl | hn
   . show ov (λj=>if j=n.1 then some n.2 else f j) l n.1=_
     rw[C9 λx hx z=>hd'.1 (Nd.mpr (aE x hx z)),if_pos rfl]
   . exact ih hd'.2 hn
theorem Ap(hd:(needs.map (·.1)).Nodup)(hn:n∈needs):ov f (aT f needs) n.1=some n.2:=by
 have hs:(aT f needs).Sublist needs:=Sy
 by_cases c:n∈aT f needs
 . exact Ij (hd.sublist (hs.map _)) c
 . have hf:f n.1=some n.2:=by
    by_cases e:f n.1=some n.2
    . exact e
    . exact absurd (QD.mpr ⟨hn,UE e⟩) c
   rw[C9 λm hm z=>?_,hf];have:m=n:=by
    have key:∀{l:List (Nat×Nat)},(l.map (·.1)).Nodup->m∈l->n∈l->m.1=n.1->m=n:=λ{l}=>by
     induction l with
     | nil=>exactλX h=>nomatch h|cons x l ih=>
       intro hd h1 h2 e;have hd':=NI.mp hd;rcases MW.mp h1 with q1 | q1
       . rcases MW.mp h2 with q2 | q2
         . exact q1.trans q2.symm
         . exact(hd'.1 (Nd.mpr (aE n q2 (by refine q1▸?_;exact e.symm)))).elim
       . rcases MW.mp h2 with q2 | q2
         . exact(hd'.1 (Nd.mpr (aE m q1 (by refine q2▸?_;exact e)))).elim
         . exact ih hd'.2 q1 q2 e
    exact key hd (hs.subset hm) hn z
   exact c (this▸hm)
noncomputable def lF(g:Nat->Option Nat)(H A needs:List (Nat×Nat)):Option Nat:=eOq0 (λm=>decide (aT (ov g (H.take m)) needs=H.drop m++A)) 0 (H.length+1)
theorem iY:∀{k i:Nat},(∀m,i<=m->m<i+k->p m=q m)->eOq0 p i k=eOq0 q i k:=by
 intro k
 induction k with
 | zero=>
   intro _ _;exact rfl
 | succ k iY=>
   intro i h;unfold eOq0;erw[h i (MZ _) %[|0],iY λm h1 h2=>h m %[|0] %[|0]]
theorem m7:∀{k i:Nat} (j:Nat),eOq0 p i k=some m->eOq0 p i (k+j)=some m:=by
 intro k
 induction k with
 | zero=>
   intro _ _ h;exists _
 | succ k m7=>
   intro i j h;rw[show k+1+j=(k+j)+1 by lia];unfold eOq0 at h ⊢
   by_cases c:p i=true
   . rw[if_pos c] at h ⊢;exact h
   . rw[if_neg c] at h ⊢;exact m7 j h
theorem mO:∀{k i:Nat},(∀m,i<=m->m<i+k->p m=false)->eOq0 p i k=none:=by
 intro k
 induction k with
 | zero=>
   intro _ _;exact rfl
 | succ k mO=>
   intro i h;unfold eOq0;rw[if_neg (by refine(h i (MZ _) %[|0])▸?_;decide)];exact mO λm h1 h2=>h m %[|0] %[|0]
theorem nc:∀{k i m:Nat},i<=m->m<i+k->p m=true->∃m',eOq0 p i k=some m':=by
 intro k
 induction k with
 | zero=>
   intro _ _ h1 h2 _;lia
 | succ k nc=>
   intro i m h1 h2 h;unfold eOq0
   by_cases c:p i=true
   . exact⟨i,if_pos c⟩
   . refine(if_neg c)▸?_
     exact nc (m:=m) (by
      exists N0 (PN i m) (λq=>?_),q
      . lia
      . exact absurd (by refine(show i=m by lia)▸?_;exact h) c) %[|0] h
section
variable{D:fp}{H:List (Nat×Nat)}{g:Nat->Option Nat}{I:kL}
theorem A9(v:kM D H g):j9 D.known D.pd needs D.at_ m=decide (aT (ov g (H.take m)) needs=H.drop m):=by
 have hp:(D.pd.take m).Pairwise (λa b=>a.at_<b.at_):=by
  rw[v.pd];exact(sD v.two).sublist (PW _ _)
 have hl:∀q∈D.pd.take m,∀k y,aL D.known k=some y->y.1<q.at_:=λq hq k y hy=>by
  have:=(v.pos ((PW _ _).subset hq)).1;have:=v.low k y hy;lia
 have e1:gJ ((D.pd.take m).foldl bi D.known) needs=aT (ov g (H.take m)) needs:=by
  rw[yw,iI,lP hp hl,v.base,Qs,v.pd,ml]
 unfold j9;rw[e1,v.pd,xR];have:=Gp (A:=aT (ov g (H.take m)) needs) (H:=H.drop m) (a:=D.at_) (by refine NT▸?_;have:=v.two;lia)
 by_cases c:aT (ov g (H.take m)) needs=H.drop m
 . erw[UE c,UE (this.mpr c)]
 . erw[UF c,UF λz=>c (this.mp z)]
theorem mM(v:kM D H g):cz I D proto D.at_=lF g H [] (an I.fam proto):=by
 unfold cz lF;erw[show D.pd.length=H.length by erw[v.pd,f6]];exists iY,m,X,X;erw[A9 v,M3]
theorem Cy(h:lF g H A needs=some m):lF g (H++A) [] needs=some m:=by
 unfold lF at h ⊢;have e:eOq0 (λm=>decide (aT (ov g ((H++A).take m)) needs=(H++A).drop m++[])) 0 (H.length+1)=some m:=by
  erw[<-h];exists iY,j,X,hj;have hj:j<=H.length:=by lia
  erw[Rf hj,List.drop_append_of_le_length hj,M3]
 erw[MH,show H.length+A.length+1=H.length+1+A.length by lia];exact m7 _ e
theorem pQ(Kz:∀m,lF g H (aT (ov g H) needs) needs=some m->m<=H.length->aT (ov g (H.take m)) needs=H.drop m++aT (ov g H) needs->Gz):Gz:=by
 exists bx (nc (p:=λm=>decide (aT (ov g (H.take m)) needs=H.drop m++aT (ov g H) needs)) (k:=H.length+1) (i:=0) (m:=H.length) (Pm _) %[|0] (UE (by erw[Pb,Qy,QC]))),m,hm;have:=ll hm;exact Kz m hm %[|0] (UD this.2.1)
theorem u6(v:kM D H g)(hd:((an I.fam proto).map (·.1)).Nodup)(hn:n∈an I.fam proto)(h:ov g H n.1≠some n.2):cz I D proto D.at_=none:=by
 rw[mM v];refine mO λm X X=>UF λe=>h ?_;erw[M3] at e;have:=Ap (f:=ov g (H.take m)) hd hn;rw[e, <-vW,NP] at this;exact this
theorem vG(v:kM D H g)(h:an I.fam proto=[]):cz I D proto D.at_=some H.length:=by
 erw[mM v,h]
 have key:∀{k i:Nat},i+k=H.length+1->0<k->eOq0 (λm=>decide (aT (ov g (H.take m)) []=H.drop m++[])) i k=some H.length:=λ{k}=>by
  induction k with
  | zero=>exactλX h=>absurd h (Nat.lt_irrefl _)|succ k ih=>
    intro i hi _;unfold eOq0
    by_cases c:i=H.length
    . rw[if_pos (UE (by rw[c,Qy];rfl)),c]
    . rw[if_neg (by
       rw[UF]
       . decide
       . intro e
         have:=congrArg Nb e;erw[M3,NT] at this;have:0=H.length - i:=this
         lia)]
      exact ih %[|0] %[|0]
 exact key %[|0] %[|0]
end
noncomputable def jt(base first bits:Nat)(x:Nat×FI):Bool:=match x.2 with
 | .pay _ b _ bs f=>b==bits&&(bs==base&&f==first)
 | .met .. =>false
noncomputable def FI.proto:FI->Nat
 | .pay _ _ proto _ _=>proto|.met .. =>0
section
variable{D:fp}{I:kL}{F:List (Nat×FI)}{base first bits a:Nat}
theorem jA:∀{l:List (Nat×FI)} {st:Option (Nat×Nat)×Int},l.foldl (dF I D base first bits a) st=(l.filter (jt base first bits)).foldl (dF I D base first bits a) st:=by
 intro l
 induction l with
 | nil=>
   intro _;exact rfl
 | cons x l jA=>
   intro st;erw[NE]
   cases c:jt base first bits x with
   | true=>erw[Px c,NE];exact jA|false=>
     rw[Pc (by refine c▸?_;decide)];have:dF I D base first bits a st x=st:=by
      obtain⟨nm,fi⟩:=x
      cases fi with
      | met=>rfl|pay tn b proto bs f=>
        exists if_neg,z;have:jt base first bits (nm, .pay tn b proto bs f)=true:=by
         show(b==bits&&(bs==base&&f==first))=true
         erw[z.1,z.2.1,z.2.2,beq_self_eq_true,beq_self_eq_true,beq_self_eq_true];rfl
        rw[c] at this;exists _
     rw[this];exact jA
theorem AH(h:cz I D x.2.proto a=none):dF I D base first bits a st x=st:=by
 obtain⟨nm,fi⟩:=x
 cases fi with
 | met=>rfl|pay tn b proto bs f=>
   unfold dF;dsimp only;rw[(show cz I D proto a=none from h)];split<;>rfl
theorem iE:∀{l:List (Nat×FI)} {st:Option (Nat×Nat)×Int},(∀x∈l,cz I D x.2.proto a=none)->l.foldl (dF I D base first bits a) st=st:=by
 intro l
 induction l with
 | nil=>
   intro _ _;exact rfl
 | cons x l iE=>
   intro st h;rw[NE,AH (h x (.head _))];exact iE λy hy=>h y (.tail _ hy)
theorem ua(h:∀x∈F.filter (jt base first bits),cz I D x.2.proto a=none):dM F I D base first bits a=none:=by
 unfold dM;rw[jA,iE h]
theorem wI(e:F.filter (jt base first bits)=pre++x::post)(h1:∀y∈pre,cz I D y.2.proto a=none)(h2:∀y∈post,cz I D y.2.proto a=none)(hx:cz I D x.2.proto a=some m):dM F I D base first bits a=some (x.1,m):=by
 have hh:jt base first bits x=true:=(QD.mp (e▸RK _ (.head _):x∈F.filter (jt base first bits))).2
 unfold dM;erw[jA,e,Pt,iE h1,NE,iE h2];obtain⟨nm,fi⟩:=x
 cases fi with
 | met=>exists _|pay tn b proto bs f=>
   have hh:(b==bits&&(bs==base&&f==first))=true:=hh;erw[MY,beq_iff_eq] at hh;unfold dF;dsimp only;rw[if_pos hh,(show cz I D proto a=some m from hx)];dsimp only;rw[if_pos %[|0]]
end
section
variable{N:Nat}{K:List (Nat×PV)}{F:List (Nat×FI)}{I:kL}{D:fp}{H:List (Nat×Nat)}{g:Nat->Option Nat}
theorem gV.upd(h:gV N K I Y {X with pe:=pe,dr:=dr} o v):gV N K I Y X o v:=h
theorem uK:(jp F I D base ao mask down row many).at_=D.at_:=by
 unfold jp;split<;>rfl
theorem m9(Kz:∀pe' dr',jp F I {D with pe:=pe,dr:=dr} base ao mask down row many={jp F I D base ao mask down row many with pe:=pe',dr:=dr'}->Gz):Gz:=fx (show∃pe' dr',jp F I {D with pe:=pe,dr:=dr} base ao mask down row many={jp F I D base ao mask down row many with pe:=pe',dr:=dr'} from by
 have e:ci F I {D with pe:=pe,dr:=dr} base ao mask down row many=ci F I D base ao mask down row many:=rfl;unfold jp;refine e▸?_;split
 . exact gQ pe dr rfl
 . exact(gQ pe dr rfl)) Kz
theorem vm(hb:I.bd=ig)(hrg:I.rg=0)(fo:Ch F)(gd:gr D)(hdp:∀e∈D.dp,∀q∈D.pd,e.1<=q.at_)(hm:many<=20)(hao:ao<1000):jJ N (aF F) I D (fS 0 base ao many) (jp F I D base ao (256^many - 1) 0 D.at_ many):=
 (cY uK _ _ 56 rfl (by refine hb▸?_;rfl) (λd Y pe dr R=>by
   have h:=Bi (d:=d) (D:={D with pe:=pe,dr:=dr}) hrg fo gd.upd hdp R (base:=base) (ao:=ao) (many:=many) hm hao;exists m9 (F:=F) (I:=I) (D:=D) (base:=base) (ao:=ao) (mask:=256^many - 1) (down:=0) (row:=D.at_) (many:=many) (pe:=pe) (dr:=dr),pe',dr',e;erw[show({D with pe:=pe,dr:=dr}:fp).at_=D.at_ from rfl,e,hrg] at h
   exact h))
theorem CB(hb:I.bd=ig)(hrg:I.rg=0)(fo:Ch F)(gd:gr D)(hdp:∀e∈D.dp,∀q∈D.pd,e.1<=q.at_){base ao left down row many:Nat}(hs:D.slot=some (.tup [be base ao left down row 0, .str `big, .int many]))(hl:gU l)(hm:gU m)(h0:bH m=0)(hd:down<=8*many)(hmm:many<=20)(hao:ao<1000):
 jJ N (aF F) I D (eG 0 l m) (jp F I D base ao (left&&& (bH l*2^down)) down row many):=
 (cY uK _ _ 61 rfl (by refine hb▸?_;rfl) (λd Y pe dr R=>by
   have h:=xy (d:=d) (D:={D with pe:=pe,dr:=dr}) hrg fo gd.upd hdp R (base:=base) (ao:=ao) (left:=left) (down:=down) (row:=row) (many:=many) (by erw[hrg];exact hs) hl hm h0 hd hmm hao;exists m9 (F:=F) (I:=I) (D:=D) (base:=base) (ao:=ao) (mask:=left&&& (bH l*2^down)) (down:=down) (row:=row) (many:=many) (pe:=pe) (dr:=dr),pe',dr',e;erw[e,hrg] at h
   exact h))
theorem BS(hb:I.bd=ig)(hrg:I.rg=0)(fo:Ch F)(gd:gr D)(hdp:∀e∈D.dp,∀q∈D.pd,e.1<=q.at_){base ao left down row many below:Nat}(hs:D.slot=some (.tup [be base ao left down row 0, .str `big, .int many]))(hd:down+below<=8*many)(hmm:many<=20)(hao:ao<1000)(hl:left<2^400):
 jJ N (aF F) I D (jF 0 many `right below) (jp F I D base ao (left / 2^(down+below)*2^(down+below)) (down+below) row many):=
 (cY uK _ _ 62 rfl (by refine hb▸?_;rfl) (λd Y pe dr R=>by
   have h:=GD (d:=d) (D:={D with pe:=pe,dr:=dr}) hrg fo gd.upd hdp R (base:=base) (ao:=ao) (left:=left) (down:=down) (row:=row) (many:=many) (below:=below) (by erw[hrg];exact hs) hd hmm hao hl;exists m9 (F:=F) (I:=I) (D:=D) (base:=base) (ao:=ao) (mask:=left / 2^(down+below)*2^(down+below)) (down:=down+below) (row:=row) (many:=many) (pe:=pe) (dr:=dr),pe',dr',e;erw[e,hrg] at h
   exact h))
theorem kW(hb:I.bd=ig)(hrg:I.rg=0)(hc:∀s,bS .add (.str `«meta ») (.str key) s= .ok (.str nm) s):jJ N K I D (i0 0 key many od) {D with slot:=some (.tup [aH nm, .str od, .int many])}:=
 (cY rfl _ _ 57 rfl (by refine hb▸?_;rfl) (λd Y pe dr R=>by
   have h:=Cu (d:=d+6) R (nm:=nm) (key:=key) (many:=many) (od:=od) hc;erw[hrg] at h
   exact h))
theorem DT(hb:I.bd=ig)(hrg:I.rg=0){nm od many:Nat}(hs:D.slot=some (.tup [aH nm, .str od, .int many]))(ho:fe (f5 od I.ord))(hl:gU l)(hm:gU m)(h0:bH (bZ (f5 od I.ord) m)=0)(hmm:many<=20):
 jJ N K I D (eG 0 l m) {D with slot:=some (.tup [dm nm (bH (bZ (f5 od I.ord) l)), .str od, .int many])}:=
 (cY rfl _ _ 61 rfl (by refine hb▸?_;rfl) (λd Y pe dr R=>by
   have h:=vt (d:=d+3) R (nm:=nm) (od:=od) (many:=many) hs ho hl hm h0 hmm;erw[hrg] at h
   exact h))
theorem Di(hb:I.bd=ig)(hrg:I.rg=0)(gd:gr D){nm od many:Nat}(hs:D.slot=some (.tup [aH nm, .str od, .int many]))(hn:aV nm)(ho:fe (f5 od I.ord))(hl:gU l):
 jJ N K I D (di 0 15934 l) {D with pd:=D.pd++[⟨nm,bH (bZ (f5 od I.ord) l),D.at_⟩]}:=
 (cY rfl _ _ 66 rfl (by refine hb▸?_;rfl) (λd Y pe dr R=>by
   have h:=qQ (d:=d) R gd.upd (nm:=nm) (od:=od) (many:=many) hs hn ho hl;erw[hrg] at h
   exact h))
theorem lJ:fG {D with pe:=pe,dr:=dr} v={fG D v with pe:=pe,dr:=dr}:=rfl
theorem mK(hb:I.bd=ig)(hrg:I.rg=0)(gd:gr D){nm od op many:Nat}(hs:D.slot=some (.tup [aH nm, .str od, .int many]))(hn:op≠15934\/¬aV nm)(ho:fe (f5 od I.ord))(hl:gU l):
 jJ N K I D (di 0 op l) (fG D (cL (aH nm) op (bH (bZ (f5 od I.ord) l)))):=
 (cY rfl _ _ 66 rfl (by refine hb▸?_;rfl) (λd Y pe dr R=>by
   have h:=GO (d:=d) hrg R gd.upd (nm:=nm) (od:=od) (op:=op) (many:=many) hs hn ho hl;erw[lJ,hrg] at h
   exact h))
theorem y6(hb:I.bd=ig)(hrg:I.rg=0)(k:sM K)(gd:gr D){nm many:Nat}(hs:D.slot=some (.tup [dm nm (256^aj nm - 1), .str `big, .int many]))(hn:aV nm)(hl:gU l):
 jJ N K I D (di 0 15934 l) (fG D (cL (dm nm (256^aj nm - 1)) 15934 (bH l))):=
 (cY rfl _ _ 66 rfl (by refine hb▸?_;rfl) (λd Y pe dr R=>by
   have h:=FS (d:=d) hrg k R gd.upd (nm:=nm) (many:=many) hs hn hl;erw[lJ,hrg] at h
   exact h))
theorem pJ(hb:I.bd=ig)(hrg:I.rg=0)(gd:gr D):jJ N K I D dj.vrd.pv (fG D dj.vrd.pv):=
 (cY rfl _ _ 71 rfl (by refine hb▸?_;rfl) (λd Y pe dr R=>by
   have h:=IM (d:=d+3) hrg R gd.upd (v:=dj.vrd.pv);erw[lJ] at h
   exact h))
theorem pS:dJ D D.pd.length=D:=by
 unfold dJ;erw[Qy,Pb,PL,M3];rfl
theorem n4:∀{l:List Pd} {f:Nat->Option (Nat×Nat)},(∀k y,f k=some y->y.1<=a)->(∀q∈l,q.at_<=a)->∀k y,l.foldl eN f k=some y->y.1<=a:=by
 intro l
 induction l with
 | nil=>
   intro _ h _;exact h
 | cons q l n4=>
   intro f h hq;erw[NE];refine n4 (λk y hy=>?_) λx hx=>hq x (.tail _ hx);unfold eN at hy;split at hy
   . split at hy
     . rename_i z hz
       split at hy
       . obtain rfl:=MI hy;exact hq q (.head _)
       . obtain rfl:=MI hy;exact h _ _ hz
     . obtain rfl:=MI hy;exact hq q (.head _)
   . exact h k y hy
theorem Hc{l:List Pd}:(l.map iL).map (·.2)=l.map wp:=by rw[NL];rfl
theorem wT(v:kM D H g){m a:Nat}(hm:m<=H.length)(ha:D.at_<=a)(hs:a+1<80):
 gr {dJ D m with at_:=a,slot:=sl}/\kM {fG {dJ D m with at_:=a,slot:=sl} w with at_:=a+1} [] (ov g H)/\
  (fG {dJ D m with at_:=a,slot:=sl} w).sts.map (·.2)=D.sts.map (·.2)++(D.pd.take m).map wp++[w]:=by
 have hpl:D.pd.length=H.length:=by erw[v.pd,f6]
 have hts:(D.pd.take m).Sublist D.pd:=PW _ _;have hds:(D.pd.drop m).Sublist D.pd:=SX _ _;have hpw:D.pd.Pairwise (λa b=>a.at_<b.at_):=by rw[v.pd];exact sD v.two
 have hkn1:Kn ((D.pd.drop m).foldl bi D.known):=v.kn.notes λq hq=>(v.pos (hds.subset hq)).2.2;have hlen:=@i6 (D.pd.drop m) D.known;have hlen2:=@i6 (D.pd.take m) ((D.pd.drop m).foldl bi D.known);have hdl:(D.pd.drop m).length=H.length - m:=by erw[NT,hpl]
 have htl:(D.pd.take m).length=m:=by erw[NM,hpl];lia
 have v1:=v.kl;have v2:=v.sl;have v3:=v.dl;have hsl:(D.sts++(D.pd.take m).map iL++[(a,w)]).length=D.sts.length+m+1:=by erw[MH,MH,MN,htl];rfl
 have hdp:(D.dp++(D.pd.drop m).map iL).length=D.dp.length+(H.length - m):=by erw[MH,MN,hdl]
 have hge:D.at_+1<=80:=by have:=v.sm;lia
 have low2:∀k y,aL ((D.pd.take m).foldl bi ((D.pd.drop m).foldl bi D.known)) k=some y->y.1<=a:=by
  rw[iI,iI];exists n4 (n4 (λk y hy=>?_) λq hq=>?_),q,hq
  . have:=v.low k y hy;lia
  . have:=(v.pos (hds.subset hq)).2.1;lia
  . have:=(v.pos (hts.subset hq)).2.1;lia
 refine(dq (⟨hkn1,λq hq=>(v.pos (hts.subset hq)).2.2,λe he q hq=>?_,?_,λe he=>?_,λq hq=>?_,λe he=>?_,?_⟩) (⟨?_,(by intros;exists _),rfl,Pm _,?_,λk y hy=>?_,λe he=>?_,λe he=>?_,?_,?_,?_,hs⟩) ?_)
 . have:=v.sa e he;have:=(v.pos (hts.subset hq)).1;lia
 . exact(hpw.sublist hts).imp Nk
 . have:=v.sa e he;show e.1<=a;lia
 . have:=(v.pos (hts.subset hq)).2.1;lia
 . rcases M5.mp he with he | he
   . have:=v.da e he;show e.1<=a;lia
   . exists aA (Nd.mp he),q,hq,rfl
     have:=(v.pos (hds.subset hq)).2.1;show q.at_<=a;lia
 . show((D.pd.drop m).foldl bi D.known).length+(D.pd.take m).length<90/\D.sts.length+(D.pd.take m).length<800/\(D.dp++(D.pd.drop m).map iL).length+(D.pd.take m).length<800
   refine hdp▸?_;lia
 . exact hkn1.notes λq hq=>(v.pos (hts.subset hq)).2.2
 . show val (aL ((D.pd.take m).foldl bi ((D.pd.drop m).foldl bi D.known)))=_
   have hlow:∀q∈D.pd,∀k y,aL D.known k=some y->y.1<q.at_:=λq hq k y hy=>by
    have:=(v.pos hq).1;have:=v.low k y hy;lia
   have:=lP hpw hlow;rw[iI,iI,nr (λx hx y hy=>?_), <-Pt,NP,this,v.base,v.pd,ml];have:=(List.pairwise_append.mp (show(D.pd.take m++D.pd.drop m).Pairwise (λa b=>a.at_<b.at_) by rw[NP];exact hpw)).2.2 x hx y hy;lia
 . have:=low2 k y hy;show y.1+0<=a+1;lia
 . show e.1+0<=a+1
   rcases M5.mp he with he | he
   . rcases M5.mp he with he | he
     . have:=v.sa e he;lia
     . exists aA (Nd.mp he),q,hq,rfl
       have:=(v.pos (hts.subset hq)).2.1;show q.at_+0<=a+1;lia
   . rcases MW.mp he with rfl | he
     . lia
     . exists _
 . show e.1+0<=a+1
   rcases M5.mp he with he | he
   . have:=v.da e he;lia
   . exists aA (Nd.mp he),q,hq,rfl
     have:=(v.pos (hds.subset hq)).2.1;show q.at_+0<=a+1;lia
 . show((D.pd.take m).foldl bi ((D.pd.drop m).foldl bi D.known)).length+0<=a+1
   lia
 . show(D.sts++(D.pd.take m).map iL++[(a,w)]).length+0<=a+1
   lia
 . show(D.dp++(D.pd.drop m).map iL).length+0<=a+1
   lia
 . show(D.sts++(D.pd.take m).map iL++[(a,w)]).map (·.2)=_
   erw[Nm,Nm,Hc];rfl
end
structure FT(F:List (Nat×FI)):Prop where
 fok:Ch F
 kok:sM (aF F)
 het:F.filter (jt `link 96 16)=[(`«ether type», .pay `ether_type 16 `ether `link 96)]
structure LI(I:kL):Prop where
 bd:I.bd=ig
 rg:I.rg=0
 ord:fe I.ord
noncomputable def oE(n:Nat×Nat):PV:= .tup [.str `«match»,aH n.1, .str 15934, .tup [.str `num, .int n.2]]
theorem wA(v:kM D H g)(m:Nat):(D.pd.take m).map wp=(H.take m).map oE:=by
 have e:D.pd.map LR=H:=by rw[v.pd];exact ml
 rw[<-e, <-Qs,NL];rfl
def tH(N:Nat)(K:List (Nat×PV))(I:kL)(D:fp)(rows:List PV)(H':List (Nat×Nat))(g':Nat->Option Nat)(out:List PV):Prop:=
 ∃D',dD N K I D rows D'/\kM D' H' g'/\D'.sts.map (·.2)=D.sts.map (·.2)++out/\D'.at_=D.at_+rows.length
section
variable{N:Nat}{F:List (Nat×FI)}{I:kL}{D:fp}{H:List (Nat×Nat)}{g:Nat->Option Nat}
theorem io(h:n<256^m):bH (aX n m)=n:=pt h
theorem i8(h0:0<m)(hm:m<=40):gU (aX n m):=(dq (by rw[jH];exact h0) (by refine jH▸?_;exact hm) nY)
theorem EE(h0:0<m)(hm:m<=40):gU (bZ o (aX n m)):=(dq (by erw[wN,jH];exact h0) (by erw[wN,jH];exact hm) (G8 nY))
noncomputable def cv(D:fp)(v:PV):fp:={D with slot:=some v}
theorem pB(ft:FT F)(li:LI I)(v:kM D H g)(h:aV nm):jJ N (aF F) I D (bU nm) (cv D (.tup [aH nm, .str `big, .int (aj nm)])):=by
 rcases h with rfl | rfl | rfl | rfl
 . have hr:=vm (N:=N) li.bd li.rg ft.fok v.good v.dpp (base:=`link) (ao:=12) (many:=2) %[|1] %[|1]
   have hf:ci F I D `link 12 (256^2 - 1) 0 D.at_ 2=some (`«ether type»,D.pd.length):=by
    unfold ci;have ht:jT (256^2 - 1) 0 (8*2 - 0)=16:=by decide+kernel
    rw[ht,if_pos ⟨by decide,by decide⟩];erw[v.pd,f6];exact wI (I:=I) (D:=D) (a:=D.at_) (pre:=[]) (post:=[]) (m:=H.length) ft.het (by intros;exists _) (by intros;exists _) (vG v rfl)
   have e:jp F I D `link 12 (256^2 - 1) 0 D.at_ 2=cv D (.tup [aH `«ether type», .str `big, .int (aj `«ether type»)]):=by
    unfold jp;refine hf▸?_;dsimp only;refine pS▸?_;rfl
   erw[e] at hr;exact hr
 . exact kW li.bd li.rg (nm:=`«meta protocol») (key:=`protocol) (many:=2) (od:=`big) λX=>rfl
 . exact kW li.bd li.rg (nm:=`«meta nfproto») (key:=`nfproto) (many:=1) (od:=`big) λX=>rfl
 . exact kW li.bd li.rg (nm:=`«meta l4proto») (key:=`l4proto) (many:=1) (od:=`big) λX=>rfl
theorem kM.slot(v:kM D H g):kM (cv D w) H g:=⟨v.kn,v.hn,v.pd,v.two,v.base,v.low,v.sa,v.da,v.kl,v.sl,v.dl,v.sm⟩
noncomputable def bump(D:fp):fp:={D with at_:=D.at_+1}
theorem gr.bump(g:gr D):gr (bump D):=⟨g.kn,g.pn,g.sp,g.pw,λe he=>NC (g.sa e he),λq hq=>NC (g.pa q hq),λe he=>NC (g.da e he),g.len⟩
theorem gr.slot(g:gr D):gr (cv D w):=⟨g.kn,g.pn,g.sp,g.pw,g.sa,g.pa,g.da,g.len⟩
theorem xV(ft:FT F)(li:LI I)(v:kM D H g)(h:cI n)(ha:D.at_+2<80):tH N (aF F) I D (bB n) (H++[n]) g []:=by
 exists bj h,hn,hb;exists bj (fQ hn),s1,s2;have r2:=Di (N:=N) (K:=aF F) li.bd li.rg ((v.good.slot (w:= .tup [aH n.1, .str `big, .int (aj n.1)])).bump) (l:=aX n.2 (aj n.1)) rfl hn (.inl rfl) (i8 s1 %[|0]);rw[show bH (bZ (f5 `big I.ord) (aX n.2 (aj n.1)))=n.2 from io hb] at r2;refine(d0 _ (.cons (pB (N:=N) ft li v hn) (.cons r2 .nil)) (⟨v.kn,λx hx=>?_,?_,?_,v.base,λk y hy=>?_,λe he=>?_,λe he=>?_,?_,?_,?_,ha⟩) ?_ rfl)
 . rcases M5.mp hx with hx | hx
   . exact v.hn x hx
   . rcases MW.mp hx with rfl | hx
     . exact hn
     . exists _
 . show D.pd++[⟨n.1,n.2,D.at_+1⟩]=f4 (H++[n]) (D.at_+2)
   erw[su,v.pd]
 . refine MH▸?_;have:=v.two;show 2*(H.length+1)<=D.at_+2;lia
 . erw[MH];have:=v.low k y hy;show y.1+2*(H.length+1)<=D.at_+2;lia
 . rw[MH];have:=v.sa e he;show e.1+2*(H.length+1)<=D.at_+2;lia
 . rw[MH];have:=v.da e he;show e.1+2*(H.length+1)<=D.at_+2;lia
 . refine MH▸?_;have:=v.kl;show D.known.length+(H.length+1)<=D.at_+2;lia
 . refine MH▸?_;have:=v.sl;show D.sts.length+(H.length+1)<=D.at_+2;lia
 . refine MH▸?_;have:=v.dl;show D.dp.length+(H.length+1)<=D.at_+2;lia
 . erw[M3];rfl
theorem tH.app(x:tH N (aF F) I D rows H1 g1 o1)(y:∀D1,kM D1 H1 g1->D1.at_=D.at_+rows.length->tH N (aF F) I D1 rows2 H2 g2 o2):tH N (aF F) I D (rows++rows2) H2 g2 (o1++o2):=by
 exists eB x,D1,r1,v1,e1,a1;exists eB (y D1 v1 a1),D2,r2,v2,e2,a2;exact d0 D2 (r1.app r2) v2 (by erw[e2,e1,MR]) (by erw[a2,a1,MH,N3])
theorem o6(ft:FT F)(li:LI I):∀{A:List (Nat×Nat)} {D:fp} {H:List (Nat×Nat)},kM D H g->(∀n∈A,cI n)->D.at_+2*A.length<80->tH N (aF F) I D (A.flatMap bB) (H++A) g []:=by
 intro A
 induction A with
 | nil=>
   intro D H v _ _;exact d0 D .nil (by rw[M3];exact v) (by erw[M3]) rfl
 | cons n A o6=>
   intro D H v hA ha;erw[M0] at ha;have:=tH.app (xV (N:=N) ft li v (hA n (.head _)) %[|0]) λD1 v1 a1=>o6 v1 (λx hx=>hA x (.tail _ hx)) (by rw[a1];show D.at_+2+2*A.length<80;lia);erw[MR] at this;exact this
theorem n8(v:kM D H g)(hm:m<=H.length)(ha:D.at_<=a)(hs:a+1<80)(hl:a=D.at_+rows.length)(r:dD N (aF F) I D rows {dJ D m with at_:=a,slot:=some sl})
 (x:gr {dJ D m with at_:=a,slot:=some sl}->jJ N (aF F) I {dJ D m with at_:=a,slot:=some sl} last (fG {dJ D m with at_:=a,slot:=some sl} w)):tH N (aF F) I D (rows++[last]) [] (ov g H) ((H.take m).map oE++[w]):=by
 exists fE (wT v (m:=m) (a:=a) (sl:=some sl) (w:=w) hm ha hs),g1,v1,e1;exact d0 _ (r.app (.cons (x g1) .nil)) v1 (by rw[<-wA v, <-MR];exact e1) (by rw[MH];show a+1=_;refine hl▸?_;rfl)
theorem hV(v:kM D H g):dJ D H.length=D:=by
 rw[show H.length=D.pd.length by erw[v.pd,f6]];exact pS
theorem FM(ft:FT F)(li:LI I)(v:kM D H g)(h:cI n)(ha:D.at_+2<80):tH N (aF F) I D [bU n.1,eU 8766 (aX n.2 (aj n.1))] [] (ov g H) (H.map oE++[cL (aH n.1) 8766 n.2]):=by
 exists bj h,hn,hb;exists bj (fQ hn),s1,s2;have:=n8 (N:=N) (F:=F) (I:=I) v (m:=H.length) (a:=D.at_+1) (sl:= .tup [aH n.1, .str `big, .int (aj n.1)]) (w:=cL (aH n.1) 8766 n.2) (last:=eU 8766 (aX n.2 (aj n.1))) (rows:=[bU n.1]) (MZ _) %[|0] (by omega) rfl (by rw[hV v];exact .cons (pB (N:=N) ft li v hn) .nil) λgd=>by
  have r2:=mK (N:=N) (K:=aF F) li.bd li.rg gd (l:=aX n.2 (aj n.1)) (op:=8766) rfl (.inl %[|1]) (.inl rfl) (i8 s1 %[|0]);erw[show bH (bZ (f5 `big I.ord) (aX n.2 (aj n.1)))=n.2 from io hb] at r2;exact r2
 erw[Pb] at this;exact this
theorem Bd:bH (aX 0 m)=0:=io (N2 %[|1])
theorem FY(ft:FT F)(li:LI I)(v:kM D H g)(h:cI n)(ha:D.at_+3<80):tH N (aF F) I D (jX n.1++[eU 15934 (aX n.2 (aj n.1))]) [] (ov g H) (H.map oE++[cL (dm n.1 (256^aj n.1 - 1)) 15934 n.2]):=by
 exists bj h,hn,hb;exists bj (fQ hn),s1,s2;have r2:=DT (N:=N) (K:=aF F) (D:=bump (cv D (.tup [aH n.1, .str `big, .int (aj n.1)]))) li.bd li.rg (od:=`big) (l:=aX (256^aj n.1 - 1) (aj n.1)) (m:=aX 0 (aj n.1)) rfl (.inl rfl) (i8 s1 %[|0]) (i8 s1 %[|0]) Bd %[|0];rw[show bH (bZ (f5 `big I.ord) (aX (256^aj n.1 - 1) (aj n.1)))=_ from(show bH (aX (256^aj n.1 - 1) (aj n.1))=256^aj n.1 - 1 from io (by have:0<256^aj n.1:=N2 %[|1];lia))] at r2;have:=n8 (N:=N) (F:=F) (I:=I) v (m:=H.length) (a:=D.at_+2) (sl:= .tup [dm n.1 (256^aj n.1 - 1), .str `big, .int (aj n.1)]) (w:=cL (dm n.1 (256^aj n.1 - 1)) 15934 n.2) (last:=eU 15934 (aX n.2 (aj n.1))) (rows:=jX n.1) (MZ _) %[|0] (by omega) rfl (by rw[hV v];exact .cons (pB (N:=N) ft li v hn) (.cons r2 .nil)) λgd=>by
  have r3:=y6 (N:=N) (K:=aF F) li.bd li.rg ft.kok gd (l:=aX n.2 (aj n.1)) rfl hn (i8 s1 %[|0]);erw[io hb] at r3;exact r3
 erw[Pb] at this;exact this
theorem C5(li:LI I)(v:kM D H g)(hn:n<256^4)(ha:D.at_+2<80):tH N (aF F) I D [rG `mark 4 `host,eU op (bZ I.ord (aX n 4))] [] (ov g H) (H.map oE++[cL (aH `«meta mark») op n]):=by
 have:=n8 (N:=N) (F:=F) (I:=I) v (m:=H.length) (a:=D.at_+1) (sl:= .tup [aH `«meta mark», .str `host, .int (4:Nat)]) (w:=cL (aH `«meta mark») op n) (last:=eU op (bZ I.ord (aX n 4))) (rows:=[rG `mark 4 `host]) (MZ _) %[|0] (by omega) rfl (by rw[hV v];exact .cons (kW (N:=N) (K:=aF F) (D:=D) li.bd li.rg (nm:=`«meta mark») (key:=`mark) (many:=4) (od:=`host) λX=>rfl) .nil) λgd=>by
  have r2:=mK (N:=N) (K:=aF F) li.bd li.rg gd (l:=bZ I.ord (aX n 4)) (op:=op) rfl (.inr (by unfold aV;decide)) li.ord (EE %[|1] %[|1]);erw[show bH (bZ (f5 `host I.ord) (bZ I.ord (aX n 4)))=n from by
   refine AG▸?_;exact io hn] at r2
  exact r2
 erw[Pb] at this;exact this
theorem GY(li:LI I)(v:kM D H g)(ha:D.at_+1<80):tH N (aF F) I D [dj.vrd.pv] [] (ov g H) (H.map oE++[dj.vrd.pv]):=by
 cases hs:D.slot with
 | none=>
   exists fE (wT v (m:=H.length) (a:=D.at_) (sl:=D.slot) (w:=dj.vrd.pv) (MZ _) (MZ _) ha),g1,v1,e1;rw[hV v] at g1 v1 e1;refine(d0 _ (.cons (pJ (N:=N) (K:=aF F) li.bd li.rg v.good) .nil) v1 ?_ rfl);have:=wA v H.length;rw[Pb] at this;rw[<-this, <-MR];exact e1
 | some sl=>
   have:=n8 (N:=N) (F:=F) (I:=I) v (m:=H.length) (a:=D.at_) (sl:=sl) (w:=dj.vrd.pv) (last:=dj.vrd.pv) (rows:=[]) (MZ _) (MZ _) ha rfl (by rw[hV v, <-hs];exact .nil) λgd=>pJ li.bd li.rg gd;rw[Pb] at this;exact this
end
structure EM(ao many above bits below:Nat):Prop where
 sum:above+bits+below=8*many
 b0:0<bits
 m0:0<many
 m1:many<=20
 a1:ao<1000
 t1:jT (256^many - 1) 0 (8*many - 0)=8*many
 full:256^many - 1=(2^(8*many) - 1)*2^0
 land:(256^many - 1)&&& ((2^bits - 1)*2^below*2^0)=(2^bits - 1)*2^below
 t2:jT ((2^bits - 1)*2^below) 0 (8*many - 0)=bits+below
 ne:below=0\/(2^bits - 1)*2^below≠(2^(bits+below) - 1)*2^0
 sh:(2^bits - 1)*2^below / 2^(0+below)*2^(0+below)=(2^bits - 1)*2^below
 t3:jT ((2^bits - 1)*2^below) (0+below) (8*many - (0+below))=bits
 lt:(2^bits - 1)*2^below<256^many/\(2^bits - 1)*2^below<2^400
noncomputable def Dh(ao many above bits below:Nat):Bool:=above+bits+below==8*many&&PR 0 bits&&PR 0 many&&Ra many 20&&PR ao 1000&&jT (256^many - 1) 0 (8*many - 0)==8*many&&256^many - 1==(2^(8*many) - 1)*2^0&&
 (256^many - 1)&&& ((2^bits - 1)*2^below*2^0)==(2^bits - 1)*2^below&&jT ((2^bits - 1)*2^below) 0 (8*many - 0)==bits+below&&(below==0|| !((2^bits - 1)*2^below==(2^(bits+below) - 1)*2^0))&&
 (2^bits - 1)*2^below / 2^(0+below)*2^(0+below)==(2^bits - 1)*2^below&&jT ((2^bits - 1)*2^below) (0+below) (8*many - (0+below))==bits&&PR ((2^bits - 1)*2^below) (256^many)&&PR ((2^bits - 1)*2^below) (2^400)
theorem GB(h:Dh ao many above bits below=true):EM ao many above bits below:=by
 unfold Dh at h;erw[MY,beq_iff_eq,QH,S9,beq_eq_false_iff_ne] at h
 (refine bj h λt'1 h14=>?_;exists bj t'1,t'2,h13;exists bj t'2,t'3,h12;exists bj t'3,t'4,h11;exists bj t'4,t'5,h10;exists bj t'5,t'6,h9;exists bj t'6,t'7,h8;exists bj t'7,t'8,h7;exists bj t'8,t'9,h6;exists bj t'9,t'10,h5;exists bj t'10,t'11,h4;exists bj t'11,t'12,h3;exists bj t'12,h1,h2)
 exact⟨h1,MU h2,MU h3,MU h4,MU h5,h6,h7,h8,h9,h10,h11,h12,MU h13,MU h14⟩
section
variable{N:Nat}{F:List (Nat×FI)}{I:kL}{D:fp}{H:List (Nat×Nat)}{g:Nat->Option Nat}{base ao many above bits below:Nat}
theorem mT(h:ci F I D base ao mask down row many=none):jp F I D base ao mask down row many=cv D (.tup [be base ao mask down row I.rg, .str `big, .int many]):=by
 unfold jp;rw[h];rfl
theorem mR(h:ci F I D base ao mask down row many=some x):jp F I D base ao mask down row many=cv (dJ D x.2) (.tup [aH x.1, .str `big, .int many]):=by
 unfold jp;rw[h];rfl
theorem vT(li:LI I)(fo:Ch F)(v:kM D H g)(c:EM ao many above bits below)(hT:dM F I D base (8*ao+above) bits D.at_=some (nm,m))(hN:(above=0/\below=0)\/dM F I D base (8*ao) (8*many) D.at_=none)(Kz:∀k,k=(fS 0 base ao many::dw many above bits).length->dD N (aF F) I D (fS 0 base ao many::dw many above bits) {dJ D m with at_:=D.at_+k,slot:=some (.tup [aH nm, .str `big, .int many])}->Gz):Gz:=aA (show∃k,k=(fS 0 base ao many::dw many above bits).length/\dD N (aF F) I D (fS 0 base ao many::dw many above bits) {dJ D m with at_:=D.at_+k,slot:=some (.tup [aH nm, .str `big, .int many])} from by
 have hsum:=c.sum;have hbel:8*many - above - bits=below:=by lia
 have hm1:=c.m1;have rg:=li.rg;have r1:=vm (N:=N) li.bd li.rg fo v.good v.dpp (base:=base) (ao:=ao) (many:=many) c.m1 c.a1;have f1:ci F I D base ao (256^many - 1) 0 D.at_ many=dM F I D base (8*ao) (8*many) D.at_:=by
  unfold ci;rw[c.t1,if_pos ⟨by have:=c.m0;lia,c.full⟩,show 8*(ao+many) - 0 - 8*many=8*ao by lia]
 unfold dw;refine hbel▸?_
 by_cases hw:above=0/\below=0
 . exists bj hw,rfl,rfl
   have hbits:8*many=bits:=by lia
   rw[hbits] at f1;erw[f1.trans hT |> mR] at r1;rw[if_neg %[|0],if_neg %[|0]];exact aE _ rfl (.cons r1 .nil)
 . have hN:=hN.resolve_left hw
   rw[mT (f1.trans hN),rg] at r1;have hp:(0<above\/0<below):=by lia
   have hz:bH (aX 0 many)=0:=io (N2 %[|1]);have hmk:bH (aX ((2^bits - 1)*2^below) many)=(2^bits - 1)*2^below:=io c.lt.1;have r2:=CB (N:=N) (F:=F) (D:=bump (cv D (.tup [be base ao (256^many - 1) 0 D.at_ 0, .str `big, .int many]))) li.bd li.rg fo v.good.slot.bump v.dpp (base:=base) (ao:=ao) (left:=256^many - 1) (down:=0) (row:=D.at_) (many:=many) (l:=aX ((2^bits - 1)*2^below) many) (m:=aX 0 many) rfl (i8 c.m0 %[|0]) (i8 c.m0 %[|0]) hz (Pm _) c.m1 c.a1;erw[hmk,c.land] at r2;refine(if_pos hp)▸?_
   by_cases hb:below=0
   . subst hb
     have f2:ci F I (bump (cv D (.tup [be base ao (256^many - 1) 0 D.at_ 0, .str `big, .int many]))) base ao ((2^bits - 1)*2^0) 0 D.at_ many=dM F I D base (8*ao+above) bits D.at_:=by
      unfold ci;rw[c.t2,if_pos ⟨by have:=c.b0;omega,rfl⟩,show 8*(ao+many) - 0 - (bits+0)=8*ao+above by lia];rfl
     erw[mR (f2.trans hT)] at r2;rw[if_neg %[|0]];exact aE _ rfl (.cons r1 (.cons r2 .nil))
   . have f2:ci F I (bump (cv D (.tup [be base ao (256^many - 1) 0 D.at_ 0, .str `big, .int many]))) base ao ((2^bits - 1)*2^below) 0 D.at_ many=none:=by
      unfold ci;rw[c.t2,if_neg λz=>(c.ne.resolve_left hb) z.2]
     rw[mT f2,rg] at r2;have r3:=BS (N:=N) (F:=F) (D:=bump (cv (bump (cv D (.tup [be base ao (256^many - 1) 0 D.at_ 0, .str `big, .int many]))) (.tup [be base ao ((2^bits - 1)*2^below) 0 D.at_ 0, .str `big, .int many]))) li.bd li.rg fo v.good.slot.bump.slot.bump v.dpp (base:=base) (ao:=ao) (left:=(2^bits - 1)*2^below) (down:=0) (row:=D.at_) (many:=many) (below:=below) rfl %[|0] c.m1 c.a1 c.lt.2;erw[c.sh] at r3;have f3:ci F I (bump (cv (bump (cv D (.tup [be base ao (256^many - 1) 0 D.at_ 0, .str `big, .int many]))) (.tup [be base ao ((2^bits - 1)*2^below) 0 D.at_ 0, .str `big, .int many]))) base ao ((2^bits - 1)*2^below) (0+below) D.at_ many=dM F I D base (8*ao+above) bits D.at_:=by
      unfold ci;rw[c.t3,if_pos ⟨c.b0,by rw[N7]⟩,show 8*(ao+many) - (0+below) - bits=8*ao+above by lia];rfl
     erw[mR (f3.trans hT)] at r3;rw[if_pos %[|0]]
     exact(aE _ rfl (.cons r1 (.cons r2 (.cons r3 .nil))))) Kz
theorem Bo(li:LI I)(fo:Ch F)(v:kM D H g)(c:EM ao many above bits below)(hT:dM F I D base (8*ao+above) bits D.at_=some (nm,m))(hN:(above=0/\below=0)\/dM F I D base (8*ao) (8*many) D.at_=none)(hm:m<=H.length)(hnm:¬aV nm)(hn:n<256^many)(ha:D.at_+4<80):
 tH N (aF F) I D ((fS 0 base ao many::dw many above bits)++[eU op (aX n many)]) [] (ov g H) ((H.take m).map oE++[cL (aH nm) op n]):=by
 exists vT (N:=N) li fo v c hT hN,k,hk,r;have hl:=fN (many:=many) (above:=above) (bits:=bits);have hk3:k<=3:=by erw[hk,M0];lia
 exists n8 (N:=N) (F:=F) (I:=I) v hm (a:=D.at_+k) %[|0] %[|0] (by erw[hk]) r,gd;have r2:=mK (N:=N) (K:=aF F) li.bd li.rg gd (l:=aX n many) (op:=op) rfl (.inr hnm) (.inl rfl) (i8 c.m0 (by have:=c.m1;lia));erw[show bH (bZ (f5 `big I.ord) (aX n many))=n from io hn] at r2;exact r2
end
theorem m6(h:∀n∈l,f n.1=g n.1):aT f l=aT g l:=by
 unfold aT;exists List.filter_congr,n,hn;erw[h n hn]
theorem C8{n:Nat×Nat}(h:n.1∉l.map (·.1)):aT (aL (cG L n.1 n.2)) l=aT (aL L) l:=by
 exists m6,m,hm;rw[ie];exact if_neg λz=>h (Nd.mpr (aE m hm z))
theorem rh:∀{l L:List (Nat×Nat)},(l.map (·.1)).Nodup->dO L l=(aT (aL L) l).flatMap bB/\aL (mn L l)=ov (aL L) (aT (aL L) l):=by
 intro l
 induction l with
 | nil=>
   intro _ _;exact⟨rfl,rfl⟩
 | cons n l rh=>
   intro L hd;have hd':=NI.mp hd;unfold dO mn
   by_cases c:L.lookup n.1=some n.2
   . have e:aT (aL L) (n::l)=aT (aL L) l:=Pc (by refine(UF (show¬(aL L n.1≠some n.2) fromλz=>z c))▸?_;decide)
     erw[if_pos c,if_pos c,e];exact rh hd'.2
   . have e:aT (aL L) (n::l)=n::aT (aL L) l:=Px (UE c)
     exists bj (rh (L:=cG L n.1 n.2) hd'.2),h1,h2;rw[C8 hd'.1] at h1 h2;erw[if_neg c,if_neg c,e,h1,h2,ie];exact⟨rfl,rfl⟩
noncomputable def dR(fam:Nat)(L:List (Nat×Nat))(sts:List dj):List (Nat×Nat):=sts.foldl (λL st=>st.know fam L) L
theorem fv:∀{a b:List dj} {L:List (Nat×Nat)},bV fam ord L (a++b)=bV fam ord L a++bV fam ord (dR fam L a) b:=by
 intro a
 induction a with
 | nil=>
   intro _ _;exact rfl
 | cons st a fv=>
   intro b L;show st.rows fam ord L++bV fam ord (st.know fam L) (a++b)=_;rw[fv, <-MR];rfl
theorem iN:dR fam L (a++b)=dR fam (dR fam L a) b:=by unfold dR;erw[Pt]
def Ag(f g:Nat->Option Nat):Prop:=∀nm,aV nm->f nm=g nm
theorem Ag.trans(a:Ag f g)(b:Ag g h):Ag f h:=λnm x=>(a nm x).trans (b nm x)
theorem Ag.set(a:Ag f g):Ag (λj=>if j=k then some v else f j) (λj=>if j=k then some v else g j):=λnm x=>by
 dsimp only;split
 . rfl
 . exact a nm x
theorem Ag.ov:∀{f g:Nat->Option Nat},Ag f g->Ag (ov f l) (ov g l):=by
 induction l with
 | nil=>exactλh=>h|cons n l ih=>exactλh=>ih h.set
theorem Ag.set_other(a:Ag f g)(h:¬aV k):Ag (λj=>if j=k then some v else f j) g:=λnm x=>by
 dsimp only;refine(if_neg λ(z:nm=k)=>h (z▸x))▸?_;exact a nm x
noncomputable def Jn(nm:Nat):FI:=if nm=`«ether type» then .pay `ether_type 16 `ether `link 96 else if nm=`«meta protocol» then .met `ether_type 16 `big `protocol else if nm=`«meta nfproto» then .met `nf_proto 8 `big `nfproto else .met `inet_proto 8 `big `l4proto
noncomputable def bO(op:Nat)(n:Nat×Nat):dj:= .fld n.1 (Jn n.1) op n.2
section
variable{K:List (Nat×PV)}{fam ord:Nat}{L:List (Nat×Nat)}
theorem oi(k:sM K)(h:cI n)(ho:op=15934\/op=8766):(bO op n).ok K fam:=by
 exists bj h,hn,hb;obtain⟨nm,num⟩:=n;have hop:zh op:=by exists N0 ho (λh=>?_),h;exact .inl h;exact .inr (.inl h)
 have hlt:op≠61:=by rcases ho with h | h<;>refine h▸?_<;>decide
 dsimp only at hn hb;rcases hn with rfl | rfl | rfl | rfl
 . exact eK k.et hop hb (wk (I:=⟨0,0,0,0,0,0,fam,0⟩))
 . exact lX k.mp hop hb %[|1] (.inl rfl) hlt
 . exact lX k.nf hop hb %[|1] (.inl rfl) hlt
 . exact lX k.l4 hop hb %[|1] (.inl rfl) hlt
theorem ka(h:aV n.1):(bO op n).rows fam ord L=[bU n.1,eU op (aX n.2 (aj n.1))]:=by
 obtain⟨nm,num⟩:=n;dsimp only at h;rcases h with rfl | rfl | rfl | rfl<;>rfl
theorem nx(h:aV n.1):(bO 15934 n).know fam L=cG L n.1 n.2:=by
 obtain⟨nm,num⟩:=n;dsimp only at h;rcases h with rfl | rfl | rfl | rfl<;>rfl
theorem wP(h:aV n.1):(bO 8766 n).know fam L=L:=by
 obtain⟨nm,num⟩:=n;dsimp only at h;rcases h with rfl | rfl | rfl | rfl<;>rfl
theorem iB:∀{H L:List (Nat×Nat)},(∀n∈H,aV n.1)->bV fam ord L (H.map (bO 15934))=H.flatMap bB/\aL (dR fam L (H.map (bO 15934)))=ov (aL L) H:=by
 intro H
 induction H with
 | nil=>
   intro _ _;exact⟨rfl,rfl⟩
 | cons n H iB=>
   intro L h;have hn:=h n (.head _);exists bj (iB (L:=cG L n.1 n.2) λm hm=>h m (.tail _ hm)),e1,e2;constructor
   . show(bO 15934 n).rows fam ord L++bV fam ord ((bO 15934 n).know fam L) (H.map (bO 15934))=_
     erw[ka hn,nx hn,e1];rfl
   . show aL (dR fam ((bO 15934 n).know fam L) (H.map (bO 15934)))=_
     erw[nx hn,e2,ie];rfl
end
structure WS where
 sts:List dj
 rows:List PV
 due:List dj
 kn:List (Nat×Nat)
 ba:List (Nat×Nat)
 he:List (Nat×Nat)
structure A8 where
 fam:Nat
 ord:Nat
 may:List (Nat×Nat)
structure WI(N:Nat)(F:List (Nat×FI))(I:kL)(D0:fp)(U:A8)(W:WS)(c:Nat):Prop where
 kn:aL W.kn=ov (aL W.ba) W.he
 may:∀k x,aL W.kn k=some x->(k,x)∈U.may
 hg:∀n∈W.he,cI n
 r1:bV U.fam U.ord [] W.sts=W.rows
 k1:Ag (aL (dR U.fam [] W.sts)) (aL W.kn)
 r2:bV U.fam U.ord [] (W.due++W.he.map (bO 15934))=W.rows
 k2:Ag (aL (dR U.fam [] W.due)) (aL W.ba)
 rd:tH N (aF F) I D0 W.rows W.he (aL W.ba) (W.due.map dj.pv)
 ok1:∀st∈W.sts,st.ok (aF F) U.fam
 ok2:∀st∈W.due,st.ok (aF F) U.fam
 n1:W.sts.length<=c
 n2:W.due.length+W.he.length<=c
 n3:W.rows.length<=8*c
noncomputable def WS.own(W:WS)(n:Nat×Nat):WS:={W with sts:=W.sts++[bO 15934 n],rows:=W.rows++bB n,kn:=cG W.kn n.1 n.2,he:=W.he++[n]}
noncomputable def WS.plain(W:WS)(st:dj)(rows:List PV):WS:={W with sts:=W.sts++[st],rows:=W.rows++rows,due:=W.due++W.he.map (bO 15934)++[st],ba:=W.kn,he:=[]}
noncomputable def WS.fld(W:WS)(U:A8)(st:dj)(proto:Nat)(rows:List PV):WS:=
 {sts:=W.sts++[st],rows:=W.rows++(aT (aL W.kn) (an U.fam proto)).flatMap bB++rows,
  due:=W.due++(W.he.take ((lF (aL W.ba) W.he (aT (aL W.kn) (an U.fam proto)) (an U.fam proto)).getD 0)).map (bO 15934)++[st],
  kn:=(aT (aL W.kn) (an U.fam proto)).foldl (λL n=>cG L n.1 n.2) W.kn,ba:=(aT (aL W.kn) (an U.fam proto)).foldl (λL n=>cG L n.1 n.2) W.kn,he:=[]}
section
variable{N:Nat}{F:List (Nat×FI)}{I:kL}{D0:fp}{U:A8}{W:WS}{c:Nat}
theorem WI.own(ft:FT F)(li:LI I)(hD:D0.at_=0)(w:WI N F I D0 U W c)(h:cI n)(hm:n∈U.may)(hc:8*c+2<80):WI N F I D0 U (W.own n) (c+1):=by
 have hn:=h.1;have hn3:=w.n3;refine⟨?_,λk x hx=>?_,λm hm'=>?_,?_,?_,?_,w.k2,?_,λst hs=>?_,w.ok2,?_,?_,?_⟩
 . show aL (cG W.kn n.1 n.2)=ov (aL W.ba) (W.he++[n])
   erw[ie,vW,w.kn];rfl
 . have hx:aL (cG W.kn n.1 n.2) k=some x:=hx
   rw[ie] at hx
   by_cases e:k=n.1
   . erw[e,if_true,N9] at hx
     erw[e, <-hx];exact hm
   . erw[e,if_false] at hx
     exact w.may k x hx
 . rcases M5.mp hm' with q | q
   . exact w.hg m q
   . rcases MW.mp q with rfl | q
     . exact h
     . exists _
 . show bV U.fam U.ord [] (W.sts++[bO 15934 n])=W.rows++bB n
   erw[fv,w.r1];show _++((bO 15934 n).rows U.fam U.ord _++[])=_;rw[ka hn];rfl
 . show Ag (aL (dR U.fam [] (W.sts++[bO 15934 n]))) (aL (cG W.kn n.1 n.2))
   erw[iN,ie];show Ag (aL ((bO 15934 n).know U.fam _)) _;erw[nx hn,ie];exact w.k1.set
 . show bV U.fam U.ord [] (W.due++(W.he++[n]).map (bO 15934))=W.rows++bB n
   erw[Nm, <-MR,fv,w.r2];show _++((bO 15934 n).rows U.fam U.ord _++[])=_;rw[ka hn];rfl
 . have:=tH.app w.rd λD1 v1 a1=>xV (N:=N) ft li v1 h (by rw[a1,hD];lia)
   erw[M3] at this;exact this
 . rcases M5.mp hs with q | q
   . exact w.ok1 st q
   . rcases MW.mp q with rfl | q
     . exact oi ft.kok h (.inl rfl)
     . exists _
 . refine MH▸?_;have:=w.n1;show W.sts.length+1<=c+1;lia
 . refine MH▸?_;have:=w.n2;show W.due.length+(W.he.length+1)<=c+1;lia
 . show(W.rows++bB n).length<=8*(c+1)
   rw[MH];show W.rows.length+2<=8*(c+1);lia
theorem Az(H:List (Nat×Nat)):(H.map (bO 15934)).map dj.pv=H.map oE:=by rw[NL];rfl
theorem WI.plain(kk:sM (aF F))(li:LI I)(hD:D0.at_=0)(w:WI N F I D0 U W c)(hst:st.ok (aF F) U.fam)(hr:∀L,st.rows U.fam U.ord L=rows)(hk:∀L,Ag (aL (st.know U.fam L)) (aL L))(hl:rows.length<=8)(hc:8*c+8<80)
 (hrd:∀D H g,kM D H g->D.at_<=8*c->tH N (aF F) I D rows [] (ov g H) (H.map oE++[st.pv])):WI N F I D0 U (W.plain st rows) (c+1):=by
 have hn3:=w.n3;have hneed:∀n∈W.he,aV n.1:=λn hn=>(w.hg n hn).1;refine⟨rfl,w.may,(by intros;exists _),?_,?_,?_,?_,?_,λx hs=>?_,λx hs=>?_,?_,?_,?_⟩
 . show bV U.fam U.ord [] (W.sts++[st])=W.rows++rows
   erw[fv,w.r1];show _++(st.rows U.fam U.ord _++[])=_;rw[hr,M3]
 . show Ag (aL (dR U.fam [] (W.sts++[st]))) (aL W.kn)
   rw[iN];exact(hk _).trans w.k1
 . show bV U.fam U.ord [] (W.due++W.he.map (bO 15934)++[st]++[])=W.rows++rows
   erw[M3,fv,w.r2];show _++(st.rows U.fam U.ord _++[])=_;rw[hr,M3]
 . show Ag (aL (dR U.fam [] (W.due++W.he.map (bO 15934)++[st]))) (aL W.kn)
   rw[iN,iN];refine(hk _).trans ?_;erw[(iB (fam:=U.fam) (ord:=U.ord) hneed).2,w.kn];exact w.k2.ov
 . have:=tH.app w.rd λD1 v1 a1=>hrd D1 _ _ v1 (by erw[a1,hD];lia)
   show tH N (aF F) I D0 (W.rows++rows) [] (aL W.kn) ((W.due++W.he.map (bO 15934)++[st]).map dj.pv)
   erw[w.kn,Nm,Nm,Az,MR];exact this
 . rcases M5.mp hs with q | q
   . exact w.ok1 x q
   . rcases MW.mp q with rfl | q
     . exact hst
     . cases q
 . rcases M5.mp hs with q | q
   . rcases M5.mp q with q | q
     . exact w.ok2 x q
     . exists aA (Nd.mp q),n,hn,rfl
       exact oi kk (w.hg n hn) (.inl rfl)
   . rcases MW.mp q with rfl | q
     . exact hst
     . cases q
 . refine MH▸?_;have:=w.n1;show W.sts.length+1<=c+1;lia
 . show(W.due++W.he.map (bO 15934)++[st]).length+0<=c+1
   erw[MH,MH,MN];have:=w.n2;show W.due.length+W.he.length+1+0<=c+1;lia
 . refine MH▸?_;lia
structure wD(F:List (Nat×FI))(U:A8)(nm tn bits proto base first:Nat):Prop where
 look:(aF F).lookup nm=some (mw tn bits proto base first)
 pay:sI U.fam bits proto first
 chk:EM (first / 8) (bG (first % 8) bits) (first % 8) bits (8*bG (first % 8) bits - first % 8 - bits)
 nn:¬aV nm
 nd:((an U.fam proto).map (·.1)).Nodup
 n2:(an U.fam proto).length<=2
 may:∀n∈an U.fam proto,n∈U.may
 top:∀{I:kL} {D:fp} {H:List (Nat×Nat)} {g:Nat->Option Nat} {m:Nat},I.fam=U.fam->kM D H g->(∀n∈an U.fam proto,ov g H n.1=some n.2)->(∀k x,ov g H k=some x->(k,x)∈U.may)->cz I D proto D.at_=some m->dM F I D base first bits D.at_=some (nm,m)
 par:∀{I:kL} {D:fp} {H:List (Nat×Nat)} {g:Nat->Option Nat},I.fam=U.fam->kM D H g->(∀n∈an U.fam proto,ov g H n.1=some n.2)->(∀k x,ov g H k=some x->(k,x)∈U.may)->
  (first % 8=0/\8*bG (first % 8) bits - first % 8 - bits=0)\/dM F I D base (8*(first / 8)) (8*bG (first % 8) bits) D.at_=none
theorem Ie{P:Nat->Nat->Prop}:∀{f:Nat->Option Nat},(∀k x,f k=some x->P k x)->(∀n∈l,P n.1 n.2)->∀k x,ov f l k=some x->P k x:=by
 induction l with
 | nil=>exactλh X=>h|cons n l ih=>
   intro f h hl;refine ih (f:=λk=>if k=n.1 then some n.2 else f k) (λk x hx=>?_) λm hm=>hl m (.tail _ hm)
   by_cases e:k=n.1
   . erw[e,if_true,N9] at hx
     erw[e, <-hx];exact hl n (.head _)
   . erw[e,if_false] at hx
     exact h k x hx
theorem kR:∀{l:List (Nat×Nat)},(l.flatMap bB).length=2*l.length:=by
 intro l
 induction l with
 | nil=>
   exact rfl
 | cons n l kR=>
   erw[SW,MH,kR,M0];show 2+_=_;lia
noncomputable def eS(base first bits op n:Nat):List PV:=(fS 0 base (first / 8) (bG (first % 8) bits)::dw (bG (first % 8) bits) (first % 8) bits)++[eU op (aX n (bG (first % 8) bits))]
theorem uz(hd:((an U.fam proto).map (·.1)).Nodup):(dj.fld nm (.pay tn bits proto base first) op n).rows U.fam U.ord L=(aT (aL L) (an U.fam proto)).flatMap bB++eS base first bits op n:=by
 show dO L (an U.fam proto)++_++_=_
 erw[(rh hd).1,MR];rfl
theorem tY(hd:((an U.fam proto).map (·.1)).Nodup)(hn:¬aV nm):Ag (aL ((dj.fld nm (.pay tn bits proto base first) op n).know U.fam L)) (ov (aL L) (aT (aL L) (an U.fam proto))):=by
 show Ag (aL (if op=15934 then cG (mn L (an U.fam proto)) nm n else mn L (an U.fam proto))) _
 refine((rh hd).2)▸?_;split
 . rw[ie]
   exact Ag.set_other (λX X=>rfl) hn
 . exactλX X=>rfl
theorem WI.fld(ft:FT F)(li:LI I)(hI:I.fam=U.fam)(hD:D0.at_=0)(w:WI N F I D0 U W c){nm tn bits proto base first op n:Nat}(x:wD F U nm tn bits proto base first)(hop:zh op)(hn:n<256^bG (first % 8) bits)(hc:8*c+8<80):
 WI N F I D0 U (W.fld U (.fld nm (.pay tn bits proto base first) op n) proto (eS base first bits op n)) (c+1):=by
 have hn3:=w.n3;have hneed:∀n∈W.he,aV n.1:=λn hn=>(w.hg n hn).1;have hst:(dj.fld nm (.pay tn bits proto base first) op n).ok (aF F) U.fam:=(eK x.look hop hn x.pay);have hng:∀n∈an U.fam proto,aV n.1:=λn hn=>(x.pay.hg n hn).1;exists pQ (g:=aL W.ba) (H:=W.he) (needs:=an U.fam proto),m,hm1,hm2,hm3;rw[<-w.kn] at hm1 hm3;have hsub:(aT (aL W.kn) (an U.fam proto)).Sublist (an U.fam proto):=Sy;have hAl:(aT (aL W.kn) (an U.fam proto)).length<=2:=MO hsub.length_le x.n2;have hsat:∀a∈an U.fam proto,ov (aL W.kn) (aT (aL W.kn) (an U.fam proto)) a.1=some a.2:=λa ha=>Ap x.nd ha;have hall:∀k y,ov (aL W.kn) (aT (aL W.kn) (an U.fam proto)) k=some y->(k,y)∈U.may:=Ie (P:=λk y=>(k,y)∈U.may) w.may λa ha=>x.may a (hsub.subset ha);have hov:ov (aL W.ba) (W.he++aT (aL W.kn) (an U.fam proto))=ov (aL W.kn) (aT (aL W.kn) (an U.fam proto)):=by erw[vW, <-w.kn]
 have hk1:aT (aL (dR U.fam [] W.sts)) (an U.fam proto)=aT (aL W.kn) (an U.fam proto):=m6 λa ha=>w.k1 a.1 (hng a ha);have ht:∀a∈W.he.take m,aV a.1:=λa ha=>hneed a ((PW _ _).subset ha);have hdue:Ag (aL (dR U.fam [] (W.due++(W.he.take m).map (bO 15934)))) (ov (aL W.ba) (W.he.take m)):=by
  rw[iN,(iB (fam:=U.fam) (ord:=U.ord) ht).2];exact w.k2.ov
 have hk2:aT (aL (dR U.fam [] (W.due++(W.he.take m).map (bO 15934)))) (an U.fam proto)=W.he.drop m++aT (aL W.kn) (an U.fam proto):=by
  erw[<-hm3];exact m6 λa ha=>hdue a.1 (hng a ha)
 have hrl:(eS base first bits op n).length<=4:=by
  have:=fN (many:=bG (first % 8) bits) (above:=first % 8) (bits:=bits);unfold eS;erw[MH,M0];show _+1+1<=4;lia
 have hmo:(lF (aL W.ba) W.he (aT (aL W.kn) (an U.fam proto)) (an U.fam proto)).getD 0=m:=by refine hm1▸?_;rfl
 unfold WS.fld;refine hmo▸?_;refine⟨rfl,λk y hy=>?_,(by intros;exists _),?_,?_,?_,?_,?_,λst hs=>?_,λst hs=>?_,?_,?_,?_⟩
 . have hy:aL ((aT (aL W.kn) (an U.fam proto)).foldl (λL n=>cG L n.1 n.2) W.kn) k=some y:=hy
   rw[m5] at hy;exact hall k y hy
 . erw[fv,w.r1]
   show _++((dj.fld nm (.pay tn bits proto base first) op n).rows U.fam U.ord _++[])=_
   rw[uz x.nd,hk1,M3,MR]
 . erw[iN,m5]
   refine(tY (nm:=nm) (tn:=tn) (bits:=bits) (base:=base) (first:=first) (op:=op) (n:=n) x.nd x.nn).trans ?_;rw[hk1];exact w.k1.ov
 . show bV U.fam U.ord [] (W.due++(W.he.take m).map (bO 15934)++[_]++[])=_
   rw[M3,fv];show _++((dj.fld nm (.pay tn bits proto base first) op n).rows U.fam U.ord _++[])=_;rw[uz x.nd,hk2,M3,fv,(iB ht).1,Sx];have e:W.rows=bV U.fam U.ord [] W.due++((W.he.take m).flatMap bB++(W.he.drop m).flatMap bB):=by
    rw[<-w.r2,fv,(iB hneed).1, <-Sx,NP]
   erw[e];erw[MR]
 . rw[iN,m5]
   refine(tY (nm:=nm) (tn:=tn) (bits:=bits) (base:=base) (first:=first) (op:=op) (n:=n) x.nd x.nn).trans ?_;erw[hk2, <-hov];refine hdue.ov.trans ?_;rw[<-vW, <-MR,NP]
   exactλX X=>rfl
 . have g1:=tH.app w.rd λD1 v1 a1=>o6 (N:=N) ft li v1 (show∀a∈aT (aL W.kn) (an U.fam proto),cI a fromλa ha=>x.pay.hg a (hsub.subset ha)) (by erw[a1,hD];lia)
   erw[M3] at g1;have g2:=tH.app g1 λD1 v1 a1=>by
    have hsp:cz I D1 proto D1.at_=some m:=by rw[mM v1,hI];exact Cy hm1
    have hT':dM F I D1 base (8*(first / 8)+first % 8) bits D1.at_=some (nm,m):=by rw[Nat.div_add_mod];exact x.top hI v1 (by refine hov▸?_;exact hsat) (by refine hov▸?_;exact hall) hsp
    have hN:=x.par hI v1 (by refine hov▸?_;exact hsat) (by refine hov▸?_;exact hall);exact Bo (N:=N) (op:=op) (n:=n) li ft.fok v1 x.chk hT' hN (MO hm2 (by erw[MH];lia)) x.nn hn (by erw[a1,hD,MH,kR];lia)
   erw[m5, <-hov,Nm,Nm,Az];erw[Rf hm2, <-MR (W.due.map dj.pv)] at g2;exact g2
 . rcases M5.mp hs with q | q
   . exact w.ok1 st q
   . rcases MW.mp q with rfl | q
     . exact hst
     . cases q
 . rcases M5.mp hs with q | q
   . rcases M5.mp q with q | q
     . exact w.ok2 st q
     . exists aA (Nd.mp q),b,hb,rfl
       exact oi ft.kok (w.hg b ((PW _ _).subset hb)) (.inl rfl)
   . rcases MW.mp q with rfl | q
     . exact hst
     . cases q
 . refine MH▸?_;have:=w.n1;show W.sts.length+1<=c+1;lia
 . erw[MH,MH,MN,NM];have:=w.n2;show W.due.length+min m W.he.length+1+0<=c+1;lia
 . erw[MH,MH,kR];lia
end
noncomputable def KF:List (Nat×FI):=[(`«ether daddr», .pay `ether_addr 48 `ether `link 0),(`«ether saddr», .pay `ether_addr 48 `ether `link 48),(`«ether type», .pay `ether_type 16 `ether `link 96),(`«vlan pcp», .pay `integer 3 `vlan `link 112),(`«vlan dei», .pay `integer 1 `vlan `link 115),(`«vlan id», .pay `integer 12 `vlan `link 116),(`«vlan type», .pay `ether_type 16 `vlan `link 128),(`«arp htype», .pay `integer 16 `arp `network 0),(`«arp ptype», .pay `ether_type 16 `arp `network 16),(`«arp hlen», .pay `integer 8 `arp `network 32),(`«arp plen», .pay `integer 8 `arp `network 40),(`«arp operation», .pay `arp_op 16 `arp `network 48),(`«arp saddr ether», .pay `ether_addr 48 `arp `network 64),(`«arp saddr ip», .pay `ipv4_addr 32 `arp `network 112),(`«arp daddr ether», .pay `ether_addr 48 `arp `network 144),(`«arp daddr ip», .pay `ipv4_addr 32 `arp `network 192),(`«ip version», .pay `integer 4 `ip `network 0),(`«ip hdrlength», .pay `integer 4 `ip `network 4),(`«ip dscp», .pay `dscp 6 `ip `network 8),(`«ip ecn», .pay `ecn 2 `ip `network 14),(`«ip length», .pay `integer 16 `ip `network 16),(`«ip id», .pay `integer 16 `ip `network 32),(128680380488679402666747751, .pay `integer 16 `ip `network 48),(`«ip ttl», .pay `integer 8 `ip `network 64),(`«ip protocol», .pay `inet_proto 8 `ip `network 72),(`«ip checksum», .pay `integer 16 `ip `network 80),(`«ip saddr», .pay `ipv4_addr 32 `ip `network 96),(`«ip daddr», .pay `ipv4_addr 32 `ip `network 128),(`«ip6 version», .pay `integer 4 `ip6 `network 0),(`«ip6 dscp», .pay `dscp 6 `ip6 `network 4),(`«ip6 ecn», .pay `ecn 2 `ip6 `network 10),(`«ip6 flowlabel», .pay `integer 20 `ip6 `network 12),(`«ip6 length», .pay `integer 16 `ip6 `network 32),(`«ip6 nexthdr», .pay `inet_proto 8 `ip6 `network 48),(`«ip6 hoplimit», .pay `integer 8 `ip6 `network 56),(`«ip6 saddr», .pay `ipv6_addr 128 `ip6 `network 64),(`«ip6 daddr», .pay `ipv6_addr 128 `ip6 `network 192),(`«tcp sport», .pay `inet_service 16 `tcp `transport 0),(`«tcp dport», .pay `inet_service 16 `tcp `transport 16),(`«tcp sequence», .pay `integer 32 `tcp `transport 32),(`«tcp ackseq», .pay `integer 32 `tcp `transport 64),(`«tcp doff», .pay `integer 4 `tcp `transport 96),(`«tcp reserved», .pay `integer 4 `tcp `transport 100),(`«tcp flags», .pay `tcp_flag 8 `tcp `transport 104),(`«tcp window», .pay `integer 16 `tcp `transport 112),(`«tcp checksum», .pay `integer 16 `tcp `transport 128),(`«tcp urgptr», .pay `integer 16 `tcp `transport 144),(`«udp sport», .pay `inet_service 16 `udp `transport 0),(`«udp dport», .pay `inet_service 16 `udp `transport 16),(`«udp length», .pay `integer 16 `udp `transport 32),(`«udp checksum», .pay `integer 16 `udp `transport 48),(`«icmp type», .pay `icmp_type 8 `icmp `transport 0),(`«icmp code», .pay `icmp_code 8 `icmp `transport 8),(`«icmp checksum», .pay `integer 16 `icmp `transport 16),(`«icmp id», .pay `integer 16 `icmp `transport 32),(`«icmp sequence», .pay `integer 16 `icmp `transport 48),(`«icmp gateway», .pay `ipv4_addr 32 `icmp `transport 32),(`«icmp mtu», .pay `integer 16 `icmp `transport 48),(`«icmpv6 type», .pay `icmpv6_type 8 `icmpv6 `transport 0),(`«icmpv6 code», .pay `icmpv6_code 8 `icmpv6 `transport 8),(`«icmpv6 checksum», .pay `integer 16 `icmpv6 `transport 16),(`«icmpv6 id», .pay `integer 16 `icmpv6 `transport 32),(`«icmpv6 sequence», .pay `integer 16 `icmpv6 `transport 48),(`«icmpv6 mtu», .pay `integer 32 `icmpv6 `transport 32),(`«meta length», .met `integer 32 `host `length),(`«meta protocol», .met `ether_type 16 `big `protocol),(`«meta nfproto», .met `nf_proto 8 `big `nfproto),(`«meta l4proto», .met `inet_proto 8 `big `l4proto),(`«meta mark», .met `mark 32 `host `mark),(`«meta priority», .met `integer 32 `host `priority),(`«meta iif», .met `iface_index 32 `host `iif),(`«meta oif», .met `iface_index 32 `host `oif),(`«meta iifname», .met `ifname 128 `big `iifname),(`«meta oifname», .met `ifname 128 `big `oifname),(`«meta iiftype», .met `integer 16 `host `iiftype),(`«meta oiftype», .met `integer 16 `host `oiftype),(`«meta pkttype», .met `pkt_type 8 `big `pkttype)]
noncomputable def EI:List Nat:=[`bridge,`netdev,`arp]
noncomputable def Iw:List (Nat×Nat):=[(`«ether type»,33024),(`«meta protocol»,2054),(`«ether type»,2054),(`«meta protocol»,2048)]
noncomputable def Ci:List Nat:=[`inet,`bridge,`ip]
noncomputable def Jp:List (Nat×Nat):=[(`«meta l4proto»,6),(`«meta l4proto»,17),(`«ether type»,33024),(`«ether type»,2048),(`«meta nfproto»,2),(`«meta l4proto»,1),(`«meta protocol»,2048)]
noncomputable def E2:List Nat:=[`inet,`netdev,`ip6]
noncomputable def H8:List (Nat×Nat):=[(`«meta l4proto»,6),(`«meta l4proto»,17),(`«ether type»,33024),(`«ether type»,2048),(`«meta nfproto»,10),(`«meta l4proto»,58),(`«meta protocol»,34525)]
noncomputable def bad(may:List (Nat×Nat))(fam proto other:Nat):Bool:=(an fam other).any λn=>(an fam proto).any (λm=>m.1==n.1&& !(m.2==n.2))|| !(may.any λm=>m.1==n.1&&m.2==n.2)
noncomputable def vJ:List Nat->Bool
 | []=>true|a::l=> !(l.any λb=>b==a)&&vJ l
theorem kU:∀{l:List Nat},vJ l=true->l.Nodup:=by
 intro l
 induction l with
 | nil=>
   intro _;exact .nil
 | cons a l kU=>
   intro h;exists bj (MT.mp h),h1,h2;refine NI.mpr ⟨λz=>?_,kU h2⟩;have:l.any (λb=>b==a)=true:=PI.mpr (aE a z (beq_self_eq_true a));rw[this] at h1;cases h1
noncomputable def Co(n:Nat×Nat):Bool:=kB n.1&&PR n.2 (256^aj n.1)
theorem zX(h:Co n=true):cI n:=by
 exists bj (MT.mp h),h1,h2;exact⟨ji.mp h1,MU h2⟩
noncomputable def CY(fam:Nat)(may:List (Nat×Nat))(proto:Nat):Bool:=(match iM.lookup proto with | some l=>PR l.length 100 | none=>false)&&(an fam proto).all Co&&vJ ((an fam proto).map (·.1))&&Ra (an fam proto).length 2&&(an fam proto).all λn=>may.any λm=>m.1==n.1&&m.2==n.2
noncomputable def qG(may:List (Nat×Nat))(fam proto:Nat)(l:List (Nat×FI)):Bool:=l.all λy=>vJ ((an fam y.2.proto).map (·.1))&&bad may fam proto y.2.proto
noncomputable def JM(F:List (Nat×FI))(may:List (Nat×Nat))(fam nm bits proto base first:Nat):Bool:=
 (match (F.filter (jt base first bits)).dropWhile (λy=> !(y.1==nm)) with
   | y::post=>y.1==nm&&y.2.proto==proto&&qG may fam proto post
   | []=>false)&&qG may fam proto ((F.filter (jt base first bits)).takeWhile (λy=> !(y.1==nm)))&&
 ((first % 8==0&&8*bG (first % 8) bits - first % 8 - bits==0)||qG may fam proto (F.filter (jt base (8*(first / 8)) (8*bG (first % 8) bits))))&&
 Dh (first / 8) (bG (first % 8) bits) (first % 8) bits (8*bG (first % 8) bits - first % 8 - bits)&&CY fam may proto&& !kB nm&&Ra bits 200
theorem Fw{l:List (Nat×Nat)}(h:(l.any λm=>m.1==n.1&&m.2==n.2)=true):n∈l:=by
 exists aA (PI.mp h),m,hm,e;erw[MY,beq_iff_eq] at e;erw[show n=m from SI e.1.symm e.2.symm];exact hm
theorem oY(h:qG may fam proto l=true)(hI:I.fam=fam)(v:kM D H g)(hs:∀n∈an fam proto,ov g H n.1=some n.2)(ha:∀k x,ov g H k=some x->(k,x)∈may):∀y∈l,cz I D y.2.proto D.at_=none:=λy hy=>by
 exists bj (MT.mp (M8.mp h y hy)),h1,h2;exists aA (PI.mp h2),n,hn,hb;exists u6 v (by rw[hI];exact kU h1) (n:=n) (by rw[hI];exact hn),e;exists N0 (NQ.mp hb) (λhb=>?_),hb
 . exists aA (PI.mp hb),m,hm,hb
   erw[MY,beq_iff_eq,S9,beq_eq_false_iff_ne] at hb;have:=hs m hm;erw[hb.1,e] at this;exact hb.2 (MI this).symm
 . have hm:(may.any λm=>m.1==n.1&&m.2==n.2)=true:=PI.mpr (aE (n.1,n.2) (ha _ _ e) (by erw[beq_self_eq_true,beq_self_eq_true];rfl))
   rw[hm] at hb;cases hb
theorem IP{F:List (Nat×FI)}(hl:(aF F).lookup nm=some (mw tn bits proto base first))(h:JM F U.may U.fam nm bits proto base first=true):wD F U nm tn bits proto base first:=by
 unfold JM at h;exists cps,Gz,Kz;exists bj (MT.mp h),h,h7;exists bj (MT.mp h),h,h6;exists bj (MT.mp h),h,h5;exists bj (MT.mp h),h,h4;exists bj (MT.mp h),h,h3;exists bj (MT.mp h),h1,h2;refine Kz ?_;unfold CY at h5;exists cps,Gz1,Kz1;exists bj (MT.mp h5),h5,p5;exists bj (MT.mp h5),h5,p4;exists bj (MT.mp h5),h5,p3;exists bj (MT.mp h5),p1,p2;have c:=GB h4;refine Kz1 ?_;refine⟨hl,⟨?_,λn hn=>zX (M8.mp p2 n hn),c.b0,MU h7⟩,c,λz=>?_,kU p3,MU p4,λn hn=>Fw (M8.mp p5 n hn),λ{I D H g m} hI v hs ha hsp=>?_,λ{I D H g} hI v hs ha=>?_⟩
 . split at p1
   . exact aE _ (by assumption) (MU p1)
   . exists _
 . rw[ji.mpr z] at h6;exists _
 . split at h1
   . rename_i y post e
     erw[MY,beq_iff_eq] at h1;have hsplit:F.filter (jt base first bits)=(F.filter (jt base first bits)).takeWhile (λy=> !(y.1==nm))++y::post:=by erw[<-e,List.takeWhile_append_dropWhile]
     have:=wI (I:=I) (D:=D) (a:=D.at_) (m:=m) hsplit (oY h2 hI v hs ha) (oY h1.2 hI v hs ha) (by refine h1.1.2▸?_;exact hsp);rw[h1.1.1] at this;exact this
   . exists _
 . rcases NQ.mp h3 with q | q
   . erw[MY,beq_iff_eq] at q
     exact .inl q
   . exact .inr (ua (oY q hI v hs ha))
theorem ls:∀{F:List (Nat×FI)},(F.map (·.1)).Nodup->∀x∈F,(aF F).lookup x.1=some x.2.pv:=by
 intro F
 induction F with
 | nil=>(try intros);exists _|cons y F ls=>
   intro hd x hx;have hd':=NI.mp hd;show QQ x.1 ((y.1,y.2.pv)::aF F)=_;erw[Ng];rcases MW.mp hx with rfl | hx
   . rw[beq_self_eq_true]
   . refine(beq_eq_false_iff_ne.mpr λz=>hd'.1 (Nd.mpr (aE x hx z)))▸?_
     exact ls hd'.2 x hx
theorem E3:(KF.map (·.1)).Nodup:=kU (by decide+kernel)
theorem nG:FT KF where
 fok:=⟨ls E3,λx hx tn bits proto base first e=>(by
  have key:(KF.all λx=>match x.2 with | .pay _ _ proto _ _=>(match iM.lookup proto with | some l=>PR l.length 100 | none=>false) | .met .. =>true)=true:=by decide+kernel
  have:=M8.mp key x hx;rw[e] at this;dsimp only at this;split at this
  . exact aE _ (by assumption) (MU this)
  . exists _),by decide+kernel⟩
 kok:=⟨rfl,rfl,rfl,rfl⟩
 het:=rfl
structure Cg where
 w:Nat
 st:Nat
 ro:Nat
 du:Nat
 kn:Nat
 bag:Nat
 fam:Nat
 ord:Nat
noncomputable def Cf(J:Cg)(ba he:Nat):List (Nat×PV):=[(`family, .str J.fam),(`order, .str J.ord),(`statements, .ref J.st),(`rows, .ref J.ro),(`due, .ref J.du),(`known, .ref J.kn),(`base, .ref ba),(`held, .ref he)]
structure Wd(N:Nat)(J:Cg)(Y:aR)(ba he:Nat)(W:WS)(b:Int):Prop where
 obj:Y[J.w]? =some (.dictS (Cf J ba he))
 st:Y[J.st]? =some (.list (W.sts.map dj.pv))
 ro:Y[J.ro]? =some (.list W.rows)
 du:Y[J.du]? =some (.list (W.due.map dj.pv))
 kn:Y[J.kn]? =some (.dictS (eE W.kn))
 bs:Y[ba]? =some (.dictS (eE W.ba))
 hl:Y[he]? =some (.list (W.he.map ah))
 bag:Y[J.bag]? =some (.list [.int b])
 above:N<=J.w/\N<=J.st/\N<=J.ro/\N<=J.du/\N<=J.kn/\N<=ba/\N<=he
 ap1:J.st≠J.ro/\J.st≠J.du/\J.st≠he/\J.st≠J.bag/\J.ro≠J.du
 ap2:J.ro≠he/\J.ro≠J.bag/\J.du≠he/\J.du≠J.bag/\he≠J.bag
 ap3:J.w≠J.kn/\J.w≠ba/\J.kn≠ba
 small:W.sts.length<100/\W.rows.length<1000/\W.due.length<200/\W.kn.length<100/\W.he.length<100
def WB(N bag:Nat)(Y s:aR):Prop:=Y.length<=s.length/\∀i,i<N->i≠bag->s[i]? =Y[i]?
section
variable{N bag n:Nat}{Y s t g:aR}{o:aC}
theorem WB.refl:WB N bag Y Y:=⟨MZ _,λX X X=>rfl⟩
theorem WB.trans(a:WB N bag Y s)(b:WB N bag s t):WB N bag Y t:=⟨MO a.1 b.1,λi hi hb=>(b.2 i hi hb).trans (a.2 i hi hb)⟩
theorem WB.set(h:N<=n):WB N bag Y (Y.set n o):=⟨by erw[ND];exact MZ _,λi hi X=>Nq %[|0]⟩
theorem WB.setBag:WB N bag Y (Y.set bag o):=⟨by erw[ND];exact MZ _,λi X hb=>Nq (Ni hb)⟩
theorem WB.fr(F:Fr [] Y s)(h:N<=Y.length):WB N bag Y s:=⟨F.1,λi hi X=>F.2 i %[|0] MS⟩
theorem WB.app(h:N<=Y.length):WB N bag Y (Y++g):= .fr .app h
end
section
variable{N:Nat}{J:Cg}{Y s:aR}{ba he:Nat}{W:WS}{b:Int}{d:Nat}
theorem Wd.fr(R:Wd N J Y ba he W b)(F:Fr [] Y s):Wd N J s ba he W b:=
 ⟨F.get R.obj MS,F.get R.st MS,F.get R.ro MS,F.get R.du MS,F.get R.kn MS,F.get R.bs MS,F.get R.hl MS,F.get R.bag MS,R.above,R.ap1,R.ap2,R.ap3,R.small⟩
theorem Wd.app(R:Wd N J Y ba he W b):Wd N J (Y++g) ba he W b:=R.fr .app
theorem Wd.low(R:Wd N J Y ba he W b):N<=Y.length:=MO R.above.1 (Nk (bw R.obj))
theorem Wd.setSt(R:Wd N J Y ba he W b)(h:l.length<100):Wd N J (Y.set J.st (.list (l.map dj.pv))) ba he {W with sts:=l} b:=
 ⟨au R.obj (am R.st R.obj (λz=>aC.noConfusion z)),bJ R.st,au R.ro R.ap1.1,au R.du R.ap1.2.1,au R.kn (am R.st R.kn (λz=>aC.noConfusion z)),au R.bs (am R.st R.bs (λz=>aC.noConfusion z)),au R.hl R.ap1.2.2.1,au R.bag R.ap1.2.2.2.1,R.above,R.ap1,R.ap2,R.ap3,h,R.small.2⟩
theorem Wd.setRo(R:Wd N J Y ba he W b)(h:l.length<1000):Wd N J (Y.set J.ro (.list l)) ba he {W with rows:=l} b:=
 ⟨au R.obj (am R.ro R.obj (λz=>aC.noConfusion z)),au R.st (Ni R.ap1.1),bJ R.ro,au R.du R.ap1.2.2.2.2,au R.kn (am R.ro R.kn (λz=>aC.noConfusion z)),au R.bs (am R.ro R.bs (λz=>aC.noConfusion z)),au R.hl R.ap2.1,au R.bag R.ap2.2.1,R.above,R.ap1,R.ap2,R.ap3,R.small.1,h,R.small.2.2⟩
theorem Wd.setDu(R:Wd N J Y ba he W b)(h:l.length<200):Wd N J (Y.set J.du (.list (l.map dj.pv))) ba he {W with due:=l} b:=
 ⟨au R.obj (am R.du R.obj (λz=>aC.noConfusion z)),au R.st (Ni R.ap1.2.1),au R.ro (Ni R.ap1.2.2.2.2),bJ R.du,au R.kn (am R.du R.kn (λz=>aC.noConfusion z)),au R.bs (am R.du R.bs (λz=>aC.noConfusion z)),au R.hl R.ap2.2.2.1,au R.bag R.ap2.2.2.2.1,R.above,R.ap1,R.ap2,R.ap3,R.small.1,R.small.2.1,h,R.small.2.2.2⟩
theorem Wd.setKn(R:Wd N J Y ba he W b)(h:L.length<100):Wd N J (Y.set J.kn (.dictS (eE L))) ba he {W with kn:=L} b:=
 ⟨au R.obj (Ni R.ap3.1),au R.st (am R.kn R.st (λz=>aC.noConfusion z)),au R.ro (am R.kn R.ro (λz=>aC.noConfusion z)),au R.du (am R.kn R.du (λz=>aC.noConfusion z)),bJ R.kn,au R.bs R.ap3.2.2,au R.hl (am R.kn R.hl (λz=>aC.noConfusion z)),au R.bag (am R.kn R.bag (λz=>aC.noConfusion z)),R.above,R.ap1,R.ap2,R.ap3,R.small.1,R.small.2.1,R.small.2.2.1,h,R.small.2.2.2.2⟩
theorem Wd.setHe(R:Wd N J Y ba he W b)(h:l.length<100):Wd N J (Y.set he (.list (l.map ah))) ba he {W with he:=l} b:=
 ⟨au R.obj (am R.hl R.obj (λz=>aC.noConfusion z)),au R.st (Ni R.ap1.2.2.1),au R.ro (Ni R.ap2.1),au R.du (Ni R.ap2.2.2.1),au R.kn (am R.hl R.kn (λz=>aC.noConfusion z)),au R.bs (am R.hl R.bs (λz=>aC.noConfusion z)),bJ R.hl,au R.bag R.ap2.2.2.2.2,R.above,R.ap1,R.ap2,R.ap3,R.small.1,R.small.2.1,R.small.2.2.1,R.small.2.2.2.1,h⟩
theorem Wd.setBag(R:Wd N J Y ba he W b):Wd N J (Y.set J.bag (.list [.int c])) ba he W c:=
 ⟨au R.obj (am R.bag R.obj (λz=>aC.noConfusion z)),au R.st (Ni R.ap1.2.2.2.1),au R.ro (Ni R.ap2.2.1),au R.du (Ni R.ap2.2.2.2.1),au R.kn (am R.bag R.kn (λz=>aC.noConfusion z)),au R.bs (am R.bag R.bs (λz=>aC.noConfusion z)),au R.hl (Ni R.ap2.2.2.2.2),bJ R.bag,R.above,R.ap1,R.ap2,R.ap3,R.small⟩
theorem Wd.newHeld(R:Wd N J Y ba he W b):Wd N J (((Y++[aC.list []]++[aC.dictS (eE W.kn)]).set J.w (.dictS (Cf J ba Y.length))).set J.w (.dictS (Cf J (Y.length+1) Y.length))) (Y.length+1) Y.length {W with ba:=W.kn,he:=[]} b:=by
 have R1:=(R.app (g:=[.list []])).app (g:=[.dictS (eE W.kn)]);have hw:=bw R.obj;have h1:=bw R.st;have h2:=bw R.ro;have h3:=bw R.du;have h4:=bw R.bag;have h5:=bw R.kn;have hl:(Y++[aC.list []]).length=Y.length+1:=by erw[MH];rfl
 have two:∀{n:Nat} {o:aC} {x y:aC},(Y++[aC.list []]++[aC.dictS (eE W.kn)])[n]? =some o->J.w≠n->(((Y++[aC.list []]++[aC.dictS (eE W.kn)]).set J.w x).set J.w y)[n]? =some o:=λh hn=>au (au h hn) hn;have low:=R.low;exact⟨bJ (bJ R1.obj),two R1.st (am R.obj R.st (λz=>aC.noConfusion z)),two R1.ro (am R.obj R.ro (λz=>aC.noConfusion z)),two R1.du (am R.obj R.du (λz=>aC.noConfusion z)),two R1.kn R.ap3.1,two (by erw[<-hl];exact aM) %[|0],two (aU aM) %[|0],two R1.bag (am R.obj R.bag (λz=>aC.noConfusion z)),
  ⟨R.above.1,R.above.2.1,R.above.2.2.1,R.above.2.2.2.1,R.above.2.2.2.2.1,by lia,low⟩,(eK R.ap1.1 R.ap1.2.1 %[|0] R.ap1.2.2.2),(bT %[|0] R.ap2.2.1 %[|0] R.ap2.2.2.2.1 %[|0]),(dq R.ap3.1 %[|0] %[|0]),R.small.1,R.small.2.1,R.small.2.2.1,R.small.2.2.2.1,by show 0<100;lia⟩
def tq(N:Nat)(J:Cg)(Y:aR)(W':WS)(o:iR PV)(v:PV):Prop:=∃s ba he b,o= .ok v s/\Wd N J s ba he W' b/\WB N J.bag Y s
theorem IS{W':WS}{o:iR PV}{v:PV}(s:aR)(ba he:Nat)(b:Int)(h1:o= .ok v s)(h2:Wd N J s ba he W' b)(h3:WB N J.bag Y s):tq N J Y W' o v:=eM s ba he b (dq h1 h2 h3)
theorem DV{W':WS}{o:iR PV}{v:PV}(h:tq N J Y W' o v)(k:∀s ba he b,o= .ok v s->Wd N J s ba he W' b->WB N J.bag Y s->Gz):Gz:=CQ h k
theorem gR(h:Y[bag]? =some (.list [.int b]))(h0:0<m)(hm:m<2^400)(Kz:∀k:Nat,∀c:Int,k<m->ac P (d+1) 86 [.ref bag, .int m] Y= .ok (.int k) (Y.set bag (.list [.int c]))->Gz):Gz:=by
 have hpos:(0:Int)<m:=by lia
 have e1:bS .mod (.int b) (.int m) Y= .ok (.int ((b.fmod m).toNat:Nat)) Y:=by
  show aZ ((if decide (0<(m:Int))&&decide ((m:Int)<2^400) then some (b.fmod m) else none:Option Int).map TF) Y=_
  rw[rS h0 hm,if_pos rfl,QV (QB b hpos)];rfl
 have e2:bS .fdiv (.int b) (.int m) Y= .ok (.int (b.fdiv m)) Y:=by
  show aZ ((if decide (0<(m:Int))&&decide ((m:Int)<2^400) then some (b.fdiv m) else none:Option Int).map TF) Y=_
  rw[rS h0 hm,if_pos rfl];rfl
 have hi:dk (.ref bag) (.int 0) Y= .ok (.int b) Y:=f7 (i:=0) h rfl;refine(Kz ((b.fmod m).toNat) (b.fdiv m) ?_ (aG 86 [.ref bag, .int ↑m] Y [] hi e1 hi e2 (GH (k:=0) h (by show 0<1;decide))));have:=SZ b hpos;have:=QB b hpos;lia
theorem Wd.digit(R:Wd N J Y ba he W b)(h0:0<m)(hm:m<2^400):∃(k:Nat) (c:Int) (s:aR),k<m/\ac P (d+1) 86 [.ref J.bag, .int m] Y= .ok (.int k) s/\Wd N J s ba he W c/\WB N J.bag Y s:=by
 exists gR (d:=d) R.bag h0 hm,k,c,hk,e;exact hR k c _ hk e R.setBag .setBag
set_option tactic.hygienic true in
theorem C6{n:Nat×Nat}:b8 .ne (((eE L).lookup n.1).getD .none) (.int (n.2:Nat)) Y= .ok (.bool (decide (aL L n.1≠some n.2))) Y:=by
 have h:=xD (Y:=Y) (L:=L) (n:=n);unfold b8 at h ⊢;dsimp only at h ⊢;unfold M.bnd at h ⊢;split at h
 . rename_i a s e
   first | rw[e] | skip
   injection h with h1 h2
   injection h1 with h1
   erw[h1,h2,decide_not];rfl
 . exists _
 . cases h
theorem yn{L needs:List (Nat×Nat)}(h:Y[kr]? =some (.dictS (eE L)))(hi:pc false nv Y= .ok (it,(needs.map ah).length) Y)(hy:Ys Y it (needs.map ah))(hl:needs.length<1000):
 ac P (d+1) 92 [.ref kr,nv] Y= .ok (.ref Y.length) (Y++[.list ((aT (aL L) needs).map ah)]):=by
 have hc:=zS (call:=ac P d) (glo:=P.glo) (init:=P.init) (Y:=Y) (r:=%[.ref kr,nv|0]) (elt:= .loc 0) (isR:=false) (src:= .loc 1) (c:=Tz .ne (T4 (Tr 1) (Tv (Tr 0) (Ts 0))) (Tv (Tr 0) (Ts 1))) (xs:=needs.map ah) (λx=>x) (λx=>match x with | .tup [.str a, .int i]=>decide (aL L a≠some i.toNat) | _=>false) rfl hi rfl hy (by rw[MN];lia) λx hx=>by
  exists aA (Nd.mp hx),n,hn,rfl;exact⟨dn λw=>w (lS h) rfl (Dz h) rfl C6,rfl⟩
 have e:((needs.map ah).filter (λx=>match x with | .tup [.str a, .int i]=>decide (aL L a≠some i.toNat) | _=>false)).map (λx=>x)=(aT (aL L) needs).map ah:=by
  rw[List.map_id',List.filter_map];rfl
 rw[e] at hc;exact aG 92 [.ref kr,nv] Y [] hc
theorem ug:ac P (d+1) 93 [ah n] Y= .ok (oE n) Y:=
 aG 93 [ah n] Y [] rfl rfl
theorem cq(R:Wd N J Y ba he W b)(h:(Cf J ba he).lookup k=some v):dk (.ref J.w) (.str k) Y= .ok v Y:=l8 R.obj h
theorem Ex(R:Wd N J Y ba he W b)(hm:m<=W.he.length)(hd:W.due.length+W.he.length<200):
 tq N J Y {W with due:=W.due++(W.he.take m).map (bO 15934),ba:=W.kn,he:=[]} (ac P (d+2) 94 [.ref J.w, .int m] Y) .none:=by
 have hs:=z9 (call:=ac P (d+1)) (glo:=P.glo) (init:=P.init) (Y:=Y) (r:=%[.ref J.w,.int m|0]) (o:= .idx (.loc 0) (.str `held)) (i:= .loc 1) (cW (av rfl) bC (cq R rfl)) (av rfl) R.hl;erw[MN,rk hm, <-Qs] at hs;have hs5:=R.small.2.2.2.2;have hc:=kP (call:=ac P (d+1)) (glo:=P.glo) (init:=P.init) (Y:=Y) (s:=Y++[.list ((W.he.take m).map ah)]) (r:=%[.ref J.w,.int m|0]) (elt:=Tx 93 [Tr 0]) (isR:=false) (src:=E.slcTo (Tv (Tr 0) (Tt `held)) (Tr 1)) (n:=((W.he.take m).map ah).length) (xs:=(W.he.take m).map ah) (λx=>match x with | .tup [.str a, .int i]=>oE (a,i.toNat) | _=> .none) hs (ey aM) rfl (nk (i:=0) aM rfl) (by erw[MN,NM];lia) λx hx=>by
  exists aA (Nd.mp hx),n,hn,rfl;exact bu rfl ug
 have hm2:((W.he.take m).map ah).map (λx:PV=>match x with | .tup [.str a, .int i]=>oE (a,i.toNat) | _=> .none)=((W.he.take m).map (bO 15934)).map dj.pv:=by
  rw[NL,NL];rfl
 rw[hm2] at hc;have R2:=(R.app (g:=[.list ((W.he.take m).map ah)])).app (g:=[.list (((W.he.take m).map (bO 15934)).map dj.pv)]);have hlt:=bw R.du;have hx:=xK (call:=ac P (d+1)) (glo:=P.glo) (init:=P.init) (Y:=Y) (r:=%[.ref J.w,.int m|0]) (o:= .idx (.loc 0) (.str `due)) (cW (av rfl) bC (cq R rfl)) R.du hc R2.du aM (by erw[MH];lia) (by erw[MN,MN,MN,NM];lia);rw[<-Nm] at hx;have R3:=R2.setDu (l:=W.due++(W.he.take m).map (bO 15934)) (by erw[MH,MN,NM];lia);generalize hs3:((Y++[aC.list ((W.he.take m).map ah)]++[aC.list (((W.he.take m).map (bO 15934)).map dj.pv)]).set J.du (.list ((W.due++(W.he.take m).map (bO 15934)).map dj.pv)))=s3 at*;have B3:WB N J.bag Y s3:=by
  erw[<-hs3];exact((WB.app R.low).trans (.app (R.app (g:=[.list ((W.he.take m).map ah)])).low)).trans (.set R.above.2.2.2.1)
 have k1:sf (.ref J.kn) (s3++[.list []])= .ok (.ref (s3.length+1)) (s3++[.list []]++[.dictS (eE W.kn)]):=by
  show((cO J.kn).bnd _) _=_
  erw[ag (a8 (R3.app (g:=[.list []])).kn)];show iR.ok (TH (s3++[aC.list []]).length) _=_;erw[MH];rfl
 have R5:=(R3.app (g:=[.list []])).app (g:=[.dictS (eE W.kn)]);have k2:dA (.ref J.w) (.str `held) (.ref s3.length) (s3++[aC.list []]++[aC.dictS (eE W.kn)])= .ok () ((s3++[aC.list []]++[aC.dictS (eE W.kn)]).set J.w (.dictS (Cf J ba s3.length))):=im R5.obj (MU rfl);exact(IS _ _ _ _ (aG 94 [.ref J.w, .int ↑m] Y [1] hx (cq (R3.app (g:=[.list []])) rfl) k1 k2 (show dA (.ref J.w) (.str `base) (.ref (s3.length+1)) ((s3++[aC.list []]++[aC.dictS (eE W.kn)]).set J.w (.dictS (Cf J ba s3.length)))= .ok () (((s3++[aC.list []]++[aC.dictS (eE W.kn)]).set J.w (.dictS (Cf J ba s3.length))).set J.w (.dictS (Cf J (s3.length+1) s3.length))) from im (bJ R5.obj) (MU rfl))) R3.newHeld (B3.trans ((((WB.app R3.low).trans (.app (R3.app (g:=[.list []])).low)).trans (.set R.above.1)).trans (.set R.above.1))))
theorem xP(R:Wd N J Y ba he W b)(hq:Y[q]? =some (.list l))(h1:q≠J.st)(h2:q≠J.du)(h3:q≠J.ro)(hs:W.sts.length<50)(hd:W.due.length<100)(hr:W.rows.length+l.length<900):
 tq N J Y {W with sts:=W.sts++[st],due:=W.due++[st],rows:=W.rows++l} (ac P (d+1) 95 [.ref J.w,st.pv, .ref q] Y) .none:=by
 have R1:=R.setSt (l:=W.sts++[st]) (by rw[MH];show _+1<100;lia);have R2:=R1.setDu (l:=W.due++[st]) (by rw[MH];show _+1<200;lia);have x1:=fy (call:=ac P d) (glo:=P.glo) (init:=P.init) (Y:=Y) (r:=%[.ref J.w,st.pv,.ref q|0]) (o:= .idx (.loc 0) (.str `statements)) (a:= .loc 1) (cW (av rfl) bC (cq R rfl)) R.st (av rfl) R.st (by rw[MN];lia);erw[show W.sts.map dj.pv++[st.pv]=(W.sts++[st]).map dj.pv by erw[Nm];rfl] at x1;have x2:=fy (call:=ac P d) (glo:=P.glo) (init:=P.init) (r:=%[.ref J.w,st.pv,.ref q|0]) (o:= .idx (.loc 0) (.str `due)) (a:= .loc 1) (cW (av rfl) bC (cq R1 rfl)) R1.du (av rfl) R1.du (by rw[MN];lia);erw[show W.due.map dj.pv++[st.pv]=(W.due++[st]).map dj.pv by erw[Nm];rfl] at x2;exact(IS _ _ _ _ (aG 95 [.ref J.w,st.pv, .ref q] Y [1,1] x1 x2 (cq R2 rfl) (eT R2.ro) (Cs R2.ro (au (o:= .list ((W.due++[st]).map dj.pv)) (au (o:= .list ((W.sts++[st]).map dj.pv)) hq (Ni h1)) (Ni h2)) (Ni h3) %[|0])) (R2.setRo (l:=W.rows++l) (by rw[MH];lia)) (((WB.set R.above.2.1).trans (.set R.above.2.2.2.1)).trans (.set R.above.2.2.1)))
end
section
variable{N:Nat}{J:Cg}{Y s:aR}{ba he:Nat}{W:WS}{b:Int}{d:Nat}
def IB(Y:aR)(l:List PV)(o:iR PV):Prop:=∃s q,o= .ok (.ref q) s/\s[q]? =some (.list l)/\Fr [] Y s/\Y.length<=q
theorem qE(h:o= .ok (.ref (Y++g).length) (Y++g++[.list l])):IB Y l o:=
 (jg _ _ h aM (Fr.app.trans .app) (by erw[MH];lia))
theorem iW(h:aV nm):IB Y [bU nm,eU op (aX n (aj nm))] (ac P (d+2) 90 [.str nm, .int n, .str op] Y):=by
 rcases h with rfl | rfl | rfl | rfl
 . exists cP (d:=d) (Y:=Y) (n:=n) (m:=2) (o:=`big) %[|1],g,k
   exact qE (aG 90 [.str `«ether type», .int ↑n, .str op] Y [] (cH (t:=true) %[|1]) k)
 . exists cP (d:=d) (Y:=Y) (n:=n) (m:=2) (o:=`big) %[|1],g,k
   exact qE (aG 90 [.str `«meta protocol», .int ↑n, .str op] Y [] (cH (t:=false) %[|1]) (cH (t:=true) %[|1]) rfl k)
 . exists cP (d:=d) (Y:=Y) (n:=n) (m:=1) (o:=`big) %[|1],g,k
   exact qE (aG 90 [.str `«meta nfproto», .int ↑n, .str op] Y [] (cH (t:=false) %[|1]) (cH (t:=false) %[|1]) rfl k)
 . exists cP (d:=d) (Y:=Y) (n:=n) (m:=1) (o:=`big) %[|1],g,k
   exact qE (aG 90 [.str `«meta l4proto», .int ↑n, .str op] Y [] (cH (t:=false) %[|1]) (cH (t:=false) %[|1]) rfl k)
theorem KU:aX 0 m=NB m 0:=by
 unfold aX;erw[show(λk:Nat=>0 / 256^(m - 1 - k) % 256)=λX=>0 from funext λk=>by rw[Nat.zero_div],List.map_const',Q5]
theorem Ao{m:Nat}(h:m<=64):mkBytes (.int m) Y= .ok (.bytes (aX 0 m)) Y:=by
 show(if decide ((0:Int)<=m)&&decide ((m:Int)<=64) then ret (PV.bytes (NB (m:Int).toNat 0)) else fX:M PV) Y=_
 rw[if_pos (by rw[UE (M9 m),UE %[|0]];rfl),KU];rfl
theorem tZ(h1:Y[a]? =some (.list xs))(h2:Y[q]? =some (.list ys))(hf:xs.length+ys.length<4000):bS .add (.ref a) (.ref q) Y= .ok (.ref Y.length) (Y++[.list (xs++ys)]):=by
 show mu a (λX=>mu q _) Y=_
 rw[dP h1,dP h2,fj (eW hf)];rfl
theorem uT(c:EM (first / 8) (bG (first % 8) bits) (first % 8) bits (8*bG (first % 8) bits - first % 8 - bits)):IB Y (eS base first bits op n) (ac P (d+2) 91 [.str base, .int first, .int bits, .str op, .int n] Y):=by
 have hsum:=c.sum;have hm1:=c.m1;have hcl:=fN (many:=bG (first % 8) bits) (above:=first % 8) (bits:=bits);have hs5:af (ac P (d+1)) P.glo P.init (Tw .fdiv (Tw .add (Tw .add (Tw .mod (Tr 1) (Ts 8)) (Tr 2)) (Ts 7)) (Ts 8)) %[.str base,.int first,.int bits,.str op,.int n|4] Y= .ok (.int (bG (first % 8) bits)) Y:=
  dn λw=>w (mC (a:=first) (b:=8) %[|1] %[|1]) (iK (a:=first % 8) (b:=bits)) (iK (b:=7)) (pu (a:=first % 8+bits+7) (b:=8) %[|1] %[|1])
 generalize hsz:bG (first % 8) bits=m at*;have hs6:af (ac P (d+1)) P.glo P.init (Tw .sub (Tw .sub (Tw .mul (Ts 8) (Tr 5)) (Tw .mod (Tr 1) (Ts 8))) (Tr 2)) %[.str base,.int first,.int bits,.str op,.int n,.int m|3] Y= .ok (.int (8*m - first % 8 - bits:Nat)) Y:=
  dn λw=>w (gp (a:=8) (b:=m) %[|1] %[|0]) (mC (a:=first) (b:=8) %[|1] %[|1]) (d6 (a:=8*m) (b:=first % 8) %[|0]) (d6 (a:=8*m - first % 8) (b:=bits) %[|0])
 generalize hbl:8*m - first % 8 - bits=below at*
 have e7:=mv (call:=ac P (d+1)) (glo:=P.glo) (init:=P.init) (Y:=Y) (r:=%[.str base,.int first,.int bits,.str op,.int n,.int m,.int below|2]) (es:=[Tu [Tt `payload,Ts 0,Tr 0,Tw .fdiv (Tr 1) (Ts 8),Tr 5]])
  (ai (iG (ai bC (ai bX (ai (av rfl) (ai (fA (av rfl) bX (pu (a:=first) (b:=8) %[|1] %[|1])) rfl))))) bA)
 have fin:∀{t:aR} {l:List PV} {z:Option PV},t[Y.length]? =some (.list l)->l.length<3000->Fr [] Y t->∃s q,ax (ac P (d+1)) P.glo P.init (cB.drop 5) %[.str base,.int first,.int bits,.str op,.int n,.int m,.int below,.ref Y.length|[z]] t= .ok (.ret (.ref q),%[.str base,.int first,.int bits,.str op,.int n,.int m,.int below,.ref Y.length|[z]]) s/\s[q]? =some (.list (l++[eU op (aX n m)]))/\Fr [] Y s/\Y.length<=q:=λ{t l z} ht hl Ft=>by
  exists cP (d:=d) (Y:=t) (n:=n) (m:=m) (o:=`big) %[|0],g,k;have hlt:=Ft.1;exact(jg _ _ (cE (N6 5 cB) %[.str base,.int ↑first,.int ↑bits,.str op,.int ↑n,.int ↑m,.int ↑below,.ref (Nb Y)|[z]] t [] k (tZ (aU (aU ht)) aM (by show l.length+1<4000;lia))) aM ((Ft.trans (.trans .app .app)).trans .app) (by erw[MH,MH];lia))
 have shiftE:∀{t:aR} {l:List PV} {z:Option PV},t[Y.length]? =some (.list l)->l.length<2000->Fr [] Y t->∃s q,ax (ac P (d+1)) P.glo P.init (cB.drop 4) %[.str base,.int first,.int bits,.str op,.int n,.int m,.int below,.ref Y.length|[z]] t= .ok (.ret (.ref q),%[.str base,.int first,.int bits,.str op,.int n,.int m,.int below,.ref Y.length|[z]]) s/\s[q]? =some (.list (l++(if 0<below then[Bc m below] else[])++[eU op (aX n m)]))/\Fr [] Y s/\Y.length<=q:=λ{t l z} ht hl Ft=>by
  by_cases cb:0<below
  . have ht2:(t.set Y.length (.list (l++[Bc m below])))[Y.length]? =some (.list (l++[Bc m below])):=bJ ht
    have Ft2:Fr [] Y (t.set Y.length (.list (l++[Bc m below]))):=⟨by erw[ND];exact Ft.1,λi hi hm=>(Nq %[|0]).trans (Ft.2 i hi hm)⟩;exists fb (fin (z:=z) ht2 (by rw[MH];show l.length+1<3000;lia) Ft2),s,q,k,h1,h2,h3;refine(if_pos cb)▸?_;exact jg s q (cE (N6 4 cB) %[.str base,.int ↑first,.int ↑bits,.str op,.int ↑n,.int ↑m,.int ↑below,.ref (Nb Y)|[z]] t [0,0,3] (iS (UE %[|0])) (eT ht) (jl ht %[|0]) k) h1 h2 h3
  . exists fb (fin (z:=z) ht %[|0] Ft),s,q,k,h1,h2,h3
    erw[if_neg cb,M3];exact jg s q (cE (N6 4 cB) %[.str base,.int ↑first,.int ↑bits,.str op,.int ↑n,.int ↑m,.int ↑below,.ref (Nb Y)|[z]] t [0,3] (iS (UF %[|0])) k) h1 h2 h3
 have hcut:dw m (first % 8) bits=(if 0<first % 8\/0<below then[rR (aX ((2^bits - 1)*2^below) m) (aX 0 m)] else[])++if 0<below then[Bc m below] else[]:=by
  unfold dw;rw[hbl]
 unfold eS;rw[hsz,hcut];have hmul:bS .mul (.int m) (.int 8) (Y++[.list [kQ base first m]])= .ok (.int ((m*8:Nat):Int)) (Y++[.list [kQ base first m]]):=gp (a:=m) (b:=8) %[|0] %[|1]
 by_cases cw:0<first % 8\/0<below
 . have hp1:0<2^bits:=N2 %[|1]
   have hp2:2^bits<2^400:=Pq %[|1] %[|0];have hp3:2^below<2^400:=Pq %[|1] %[|0];exists cP (d:=d) (Y:=Y++[.list [kQ base first m]]) (n:=(2^bits - 1)*2^below) (m:=m) (o:=`big) %[|0],g,k;have e8:af (ac P (d+1)) P.glo P.init (Tx 89 [Tw .mul (Tw .sub (Tw .pow (Ts 2) (Tr 2)) (Ts 1)) (Tw .pow (Ts 2) (Tr 6)),Tr 5,Tt `big]) %[.str base,.int first,.int bits,.str op,.int n,.int m,.int below,.ref Y.length|1] (Y++[.list [kQ base first m]])= .ok (.bytes (aX ((2^bits - 1)*2^below) m)) (Y++[.list [kQ base first m]]++g):=
    dn λw=>w (xo (a:=2) (b:=bits) %[|0] %[|1]) (d6 (a:=2^bits) (b:=1) hp1) (xo (a:=2) (b:=below) %[|0] %[|1]) (gp (a:=2^bits - 1) (b:=2^below) %[|0] hp3) k
   have h7:=aU (g:=g) (aM (Y:=Y) (o:= .list [kQ base first m]));have ht:((Y++[aC.list [kQ base first m]]++g).set Y.length (.list ([kQ base first m]++[rR (aX ((2^bits - 1)*2^below) m) (aX 0 m)])))[Y.length]? =some (.list ([kQ base first m]++[rR (aX ((2^bits - 1)*2^below) m) (aX 0 m)])):=bJ h7;have Ft:Fr [] Y ((Y++[aC.list [kQ base first m]]++g).set Y.length (.list ([kQ base first m]++[rR (aX ((2^bits - 1)*2^below) m) (aX 0 m)]))):=by
    have F0:Fr [] Y (Y++[aC.list [kQ base first m]]++g):=Fr.app.trans .app;exact⟨by erw[ND];exact F0.1,λi hi hm=>(Nq %[|0]).trans (F0.2 i hi hm)⟩
   exists fb (shiftE (z:=some (.bytes (aX ((2^bits - 1)*2^below) m))) ht (by show 2<2000;decide) Ft),s,q,k2,h1,h2,h3;refine(if_pos cw)▸?_;exact(jg s q (eC (r:=%[.str base,.int first,.int bits,.str op,.int n|4]) rfl rfl rfl (aD (cT hs5) (aD (cT hs6) (aD (cT e7) (aD (qb (hZ (fA (av rfl) bX hmul) (av rfl) (pT (UE %[|0]))) (aD (cT e8) (aD (qw (fy (av rfl) h7 (iG (ai bC (ai bX (ai bX (ai (av rfl) (ai (l7 (av rfl) (Ao %[|0])) bA)))))) h7 (by show 1<4000;decide))) cM))) k2))))) h1 h2 h3)
 . exists fb (shiftE (z:=none) (aM (Y:=Y) (o:= .list [kQ base first m])) (by show 1<2000;decide) .app),s,q,k2,h1,h2,h3
   refine(if_neg cw)▸?_;exact jg s q (aG 91 [.str base, .int ↑first, .int ↑bits, .str op, .int ↑n] Y [1,1,1,0,3] hs5 hs6 e7 hmul (pT (UF %[|0])) k2) h1 h2 h3
end
structure Sz(W:WS):Prop where
 s1:W.sts.length<=20
 s2:W.due.length+W.he.length<=20
 s3:W.rows.length<=200
 s4:W.kn.length<=60
section
variable{N:Nat}{J:Cg}{Y s:aR}{ba he:Nat}{W:WS}{b:Int}{d:Nat}
theorem Wd.new_ne(R:Wd N J Y ba he W b)(hq:Y.length<=q):q≠J.st/\q≠J.du/\q≠J.ro/\q≠he/\q≠J.kn:=by
 have h1:=bw R.st;have h2:=bw R.du;have h3:=bw R.ro;have h4:=bw R.hl;have h5:=bw R.kn;lia
theorem AN(R:Wd N J Y ba he W b)(z:Sz W)(hn:aV n.1):tq N J Y (W.own n) (ac P (d+3) 96 [.ref J.w,ah n] Y) .none:=by
 exists cps,Gz,Kz;obtain⟨s1,s2,s3,s4⟩:=z;have R1:=R.setSt (l:=W.sts++[bO 15934 n]) (by rw[MH];show _+1<100;lia);have x1:=fy (call:=ac P (d+2)) (glo:=P.glo) (init:=P.init) (Y:=Y) (r:=%[.ref J.w,ah n|0]) (o:= .idx (.loc 0) (.str `statements)) (a:= .call 93 [.loc 1]) (cW (av rfl) bC (cq R rfl)) R.st (bu rfl ug) R.st (by rw[MN];lia);rw[show W.sts.map dj.pv++[oE n]=(W.sts++[bO 15934 n]).map dj.pv by erw[Nm];rfl] at x1;exists fb (iW (d:=d) (Y:=Y.set J.st (.list ((W.sts++[bO 15934 n]).map dj.pv))) (n:=n.2) (op:=15934) hn),t,q,k2,hq,Ft,hlq;have R2:=R1.fr Ft;have hne:=R1.new_ne hlq;have R3:=R2.setRo (l:=W.rows++bB n) (by rw[MH];show W.rows.length+2<1000;lia);have x3:=fy (call:=ac P (d+2)) (glo:=P.glo) (init:=P.init) (r:=%[.ref J.w,ah n|0]) (o:= .idx (.loc 0) (.str `held)) (a:= .loc 1) (cW (av rfl) bC (cq R3 rfl)) R3.hl (av rfl) R3.hl (by rw[MN];lia);erw[show({W with sts:=W.sts++[bO 15934 n],rows:=W.rows++bB n}:WS).he.map ah++[ah n]=(W.he++[n]).map ah by erw[Nm];rfl] at x3;have R4:=R3.setHe (l:=W.he++[n]) (by rw[MH];show _+1<100;lia);have hk:=c7 n.1 n.2 W.kn;have x4:dA (.ref J.kn) (.str n.1) (.int (n.2:Nat)) _= .ok () _:=im R4.kn (by rw[rE];lia);erw[rM] at x4;refine Kz ?_;exact(IS _ _ _ _ (aG 96 [.ref J.w,ah n] Y [1,0,1] x1 (cq R1 rfl) (eT R1.ro) rfl rfl k2 (Cs R2.ro hq (Ni hne.2.2.1) (by show W.rows.length+2<4000;lia)) x3 rfl (cq R4 rfl) rfl x4) (R4.setKn (L:=cG W.kn n.1 n.2) %[|0]) (((((WB.set R.above.2.1).trans (.fr Ft R1.low)).trans (.set R.above.2.2.1)).trans (.set R2.above.2.2.2.2.2.2)).trans (.set R.above.2.2.2.2.1)))
theorem oB(R:Wd N J Y ba he W b):lx (.ref he) Y= .ok (.int W.he.length) Y:=by
 have:=jI R.hl;rw[MN] at this;exact this
theorem kz(R:Wd N J Y ba he W b)(z:Sz W):tq N J Y {W with due:=W.due++W.he.map (bO 15934),ba:=W.kn,he:=[]} (ac P (d+2) 94 [.ref J.w, .int W.he.length] Y) .none:=by
 have:=Ex (d:=d) R (m:=W.he.length) (MZ _) (by have:=z.s2;lia);rw[Pb] at this;exact this
theorem Bj(R:Wd N J Y ba he W b)(z:Sz W)(hn:aV n.1):tq N J Y (W.plain (bO 8766 n) [bU n.1,eU 8766 (aX n.2 (aj n.1))]) (ac P (d+3) 98 [.ref J.w,ah n, .bool false] Y) .none:=by
 exists cps,Gz,Kz;obtain⟨s1,s2,s3,s4⟩:=id z;exists DV (kz (d:=d) R z),t1,ba1,he1,b1,k1,R1,B1;exists fb (iW (d:=d) (Y:=t1) (n:=n.2) (op:=8766) hn),t2,q,k2,hq,F2,hlq;have hne:=R1.new_ne hlq;exists DV (xP (d:=d+1) (R1.fr F2) (st:=bO 8766 n) hq hne.1 hne.2.1 hne.2.2.1 %[|0] (by erw[MH,MN];lia) (by show W.rows.length+2<900;lia)),t3,ba3,he3,b3,k3,R3,B3;exact Kz (IS t3 ba3 he3 b3 (aG 98 [.ref J.w,ah n, .bool false] Y [] (cq R rfl) (oB R) k1 rfl rfl k2 rfl rfl k3) R3 ((B1.trans (.fr F2 R1.low)).trans B3))
theorem zq(h:aV nm):bS .mul (.bytes [255]) (.int (aj nm:Nat)) Y= .ok (.bytes (aX (256^aj nm - 1) (aj nm))) Y:=by
 rcases h with rfl | rfl | rfl | rfl<;>rfl
theorem A4(R:Wd N J Y ba he W b)(z:Sz W)(hn:aV n.1):tq N J Y (W.plain (.msk n.1 n.2) (jX n.1++[eU 15934 (aX n.2 (aj n.1))])) (ac P (d+3) 98 [.ref J.w,ah n, .bool true] Y) .none:=by
 obtain⟨s1,s2,s3,s4⟩:=id z;exists bj (fQ hn),sz1,sz2;exists DV (kz (d:=d) R z),t1,ba1,he1,b1,k1,R1,B1;exists fb (iW (d:=d) (Y:=t1) (n:=n.2) (op:=15934) hn),t2,q,k2,hq,F2,hlq;have hne:=R1.new_ne hlq;have F3:Fr [] t1 (t2.set q (.list ([bU n.1,eU 15934 (aX n.2 (aj n.1))].take 1++rR (aX (256^aj n.1 - 1) (aj n.1)) (aX 0 (aj n.1))::[bU n.1,eU 15934 (aX n.2 (aj n.1))].drop 1))):=⟨by erw[ND];exact F2.1,λi hi hm=>(Nq %[|0]).trans (F2.2 i hi hm)⟩;have R3:=R1.fr F3;refine DV (xP (d:=d+1) R3 (st:= .msk n.1 n.2) (show(t2.set q (.list ([bU n.1,eU 15934 (aX n.2 (aj n.1))].take 1++rR (aX (256^aj n.1 - 1) (aj n.1)) (aX 0 (aj n.1))::[bU n.1,eU 15934 (aX n.2 (aj n.1))].drop 1)))[q]? =some (.list (jX n.1++[eU 15934 (aX n.2 (aj n.1))])) from bJ hq) hne.1 hne.2.1 hne.2.2.1 %[|0] (by erw[MH,MN];lia) (by show W.rows.length+3<900;lia)) λt4 ba4 he4 b4 k4 R4 B4=>?_;have hm4:af (ac P (d+2)) P.glo P.init (TS (Tz .in_ (Tv (Tr 1) (Ts 0)) (Tu [Tt `«ether type»,Tt `«meta protocol»])) (Ts 2) (Ts 1)) %[.ref J.w,ah n,.bool true,.ref q|1] t2= .ok (.int (aj n.1:Nat)) t2:=by
  obtain⟨nm,num⟩:=n;dsimp only at hn;rcases hn with rfl | rfl | rfl | rfl
  . exact DF rfl bX
  . exact DF rfl bX
  . exact Ec rfl bX
  . exact Ec rfl bX
 exact(IS t4 ba4 he4 b4 (aG 98 [.ref J.w,ah n, .bool true] Y [0,0,0,1] (cq R rfl) (oB R) k1 rfl rfl k2 hm4 (eT hq) (zq hn) (Ao %[|0]) (J6 hq %[|1] (by show(1:Int)<=2;decide) (by show 2<4000;decide)) rfl (xo (a:=256) (b:=aj n.1) %[|0] %[|1]) (d6 (a:=256^aj n.1) (b:=1) (show 0<256^aj n.1 from N2 %[|1])) rfl k4) R4 ((B1.trans (.fr F3 R1.low)).trans B4))
noncomputable def y7:FI:= .met `mark 32 `host `mark
theorem yQ(R:Wd N J Y ba he W b)(z:Sz W):tq N J Y (W.plain (.fld `«meta mark» y7 op n) [rG `mark 4 `host,eU op (bZ J.ord (aX n 4))]) (ac P (d+3) 99 [.ref J.w, .str op, .int n] Y) .none:=by
 exists cps,Gz,Kz;obtain⟨s1,s2,s3,s4⟩:=id z;exists DV (kz (d:=d) R z),t1,ba1,he1,b1,k1,R1,B1;refine Kz ?_;exists cP (d:=d+1) (Y:=t1) (n:=n) (m:=4) (o:=J.ord) %[|1],g,k2;have hne:=R1.new_ne (q:=(t1++g).length) (by erw[MH];lia);exists DV (xP (d:=d+1) ((R1.app (g:=g)).app (g:=[.list [rG `mark 4 `host,eU op (bZ J.ord (aX n 4))]])) (st:= .fld `«meta mark» y7 op n) aM hne.1 hne.2.1 hne.2.2.1 %[|0] (by erw[MH,MN];lia) (by show W.rows.length+2<900;lia)),t3,ba3,he3,b3,k3,R3,B3;exact(IS t3 ba3 he3 b3 (aG 99 [.ref J.w, .str op, .int ↑n] Y [] (cq R rfl) (oB R) k1 (cq R1 rfl) k2 k3) R3 (((B1.trans (.app R1.low)).trans (.app (R1.app (g:=g)).low)).trans B3))
end
noncomputable def yX:List (Nat×(Nat×List (Nat×Nat)×List (Nat×Nat×Nat))):=[(`ether,`link,[],[(`daddr,0,48),(`saddr,48,48)]),(`vlan,`link,[(`«ether type»,33024)],[(`pcp,112,3),(`dei,115,1),(`id,116,12),(`«type»,128,16)]),(`arp,`network,[(`«meta protocol»,2054)],[(`htype,0,16),(`hlen,32,8),(`operation,48,16),(`«saddr ip»,112,32),(`«daddr ether»,144,48)]),(`ip,`network,[(`«meta nfproto»,2)],[(`version,0,4),(`dscp,8,6),(`ecn,14,2),(`id,32,16),(`ttl,64,8),(`daddr,128,32)]),(`ip6,`network,[(`«meta nfproto»,10)],[(`version,0,4),(`dscp,4,6),(`ecn,10,2),(`flowlabel,12,20),(`nexthdr,48,8),(`saddr,64,128)]),(`icmp,`transport,[(`«meta nfproto»,2),(`«meta l4proto»,1)],[(`«type»,0,8),(`code,8,8),(`checksum,16,16),(`id,32,16)]),(`icmpv6,`transport,[(`«meta nfproto»,10),(`«meta l4proto»,58)],[(`«type»,0,8),(`checksum,16,16),(`mtu,32,32),(`sequence,48,16)]),(`tcp,`transport,[(`«meta l4proto»,6)],[(`dport,16,16),(`doff,96,4),(`flags,104,8)]),(`udp,`transport,[(`«meta l4proto»,17)],[(`sport,0,16),(`length,32,16)])]
noncomputable def iF(f:Nat×Nat×Nat):PV:= .tup [.str f.1, .int f.2.1, .int f.2.2]
noncomputable def LA(x:Nat×List (Nat×Nat)×List (Nat×Nat×Nat)):PV:= .tup [.str x.1, .tup (x.2.1.map ah), .tup (x.2.2.map iF)]
noncomputable def lr:List (Nat×PV):=yX.map λx=>(x.1,LA x.2)
noncomputable def mU:List (Nat×PV):=[(`ip,ah (`«meta nfproto»,2)),(`ip6,ah (`«meta nfproto»,10))]
noncomputable def Lx(l:List S)(i:Nat):E:=match l[i]? with
 | some (.asg _ e)=>e|some (.ret e)=>e|_=> .none
section
variable{N:Nat}{J:Cg}{Y s:aR}{ba he:Nat}{W:WS}{b:Int}{d:Nat}
theorem xA:ac P (d+1) 87 [] Y= .ok (.ref Y.length) (Y++[.dictS lr]):=
 aG 87 [] Y [1] (show _= .ok (TH (Nb Y)) (Y++[aC.dictS lr]) from(sK (vs:=lr.map (·.2)) rfl rfl))
set_option tactic.hygienic true in
theorem Ak(h:b8 .eq x y Y= .ok (.bool t) Y):b8 .ne x y Y= .ok (.bool (!t)) Y:=by
 unfold b8 at h ⊢;dsimp only at h ⊢;unfold M.bnd at h ⊢;split at h
 . rename_i a s e
   first | rw[e] | skip
   injection h with h1 h2
   injection h1 with h1
   show iR.ok (TL (!a)) s=_
   erw[h1,h2]
 . exists _
 . cases h
theorem JU:b8 .ne (ah n) ((mU.lookup fam).getD .none) Y= .ok (.bool (cS fam n)) Y:=by
 unfold cS
 by_cases h1:fam=`ip
 . subst h1
   refine(Ak (lM (b:=2))).trans ?_;erw[beq_self_eq_true,Qv,show((`ip:Nat)==`ip6)=false by decide,Bool.false_and,Bool.not_false,Qw]
 . by_cases h2:fam=`ip6
   . subst h2
     refine(Ak (lM (b:=10))).trans ?_;erw[beq_self_eq_true,Qv,show((`ip6:Nat)==`ip)=false by decide,Bool.false_and,Bool.not_false,Qv]
   . have e:mU.lookup fam=none:=by
      unfold mU;erw[Ng,Ng,beq_eq_false_iff_ne.mpr h1,beq_eq_false_iff_ne.mpr h2];rfl
     erw[e,beq_eq_false_iff_ne.mpr h1,beq_eq_false_iff_ne.mpr h2];rfl
theorem vP{i:Nat}(hv:xs[i]? =some v):dk (.tup xs) (.int i) Y= .ok v Y:=by
 show aZ ((k7 i xs.length).bind (xs[·]?)) Y=_
 have:k7 i xs.length=some i:=by
  unfold k7;rw[if_pos (by erw[UE (M9 i),UE (Qi.mpr ((M4.mp hv).1))];rfl)];rfl
 refine this▸?_;show aZ xs[i]? Y=_;refine hv▸?_;rfl
theorem t7:∀{xs ys:List (Nat×Nat)},xs.length=ys.length->PV.eqs3 (xs.map ah) (ys.map ah) (n+1)=some (decide (xs=ys))
 | [],[],_=>rfl|x::xs,y::ys,h=>by
   obtain⟨x1,x2⟩:=x;obtain⟨y1,y2⟩:=y;show((PV.eq3 (ah (x1,x2)) (ah (y1,y2)) (n+1)).bind λx=>(PV.eqs3 (xs.map ah) (ys.map ah) (n+1)).map λy=>x&&y)=_;erw[(t7 (n:=n) (xs:=xs) (ys:=ys) (Qr h))];show some (((x1==y1)&&(((x2:Int)==(y2:Int))&&true))&&decide (xs=ys))=_
   congr 1
   rw[PF];erw[MY,beq_iff_eq,decide_eq_true_iff,Q2,QN,PS,and_true]
theorem CZ{xs ys:List (Nat×Nat)}(h1:Y[a]? =some (.list (xs.map ah)))(h2:Y[c]? =some (.list (ys.map ah))):b8 .eq (.ref a) (.ref c) Y= .ok (.bool (decide (xs=ys))) Y:=by
 show((q6 (.ref a) (.ref c)).bnd _) Y=_
 rw[ag (a:=decide (xs=ys)) (s':=Y) (by
  show((cO a).bnd _) Y=_
  rw[ag (a8 h1)];show mu c _ Y=_;rw[dP h2];erw[MN,MN]
  by_cases c:xs.length=ys.length
  . rw[if_pos (beq_iff_eq.mpr c),t7 c];rfl
  . rw[if_neg (λz=>c (beq_iff_eq.mp z)),UF (λz=>c (by rw[z]))];rfl)]
 rfl
theorem n5:∀{k i:Nat},eOq0 p i k=some m->∀j,i<=j->j<m->p j=false
 | 0,_,h=>by exists _
 | k+1,i,h=>λj h1 h2=>by
   unfold eOq0 at h
   by_cases c:p i=true
   . rw[if_pos c] at h;obtain rfl:=MI h;lia
   . rw[if_neg c] at h
     exists N0 (PN i j) (λq=>?_),q
     . exact n5 h j %[|0] h2
     . have:j=i:=by lia
       subst this
       cases e:p j with
       | false=>rfl|true=>exact absurd e c
noncomputable def d9(L l:List (Nat×Nat)):List (Nat×Nat):=l.foldl (λL n=>cG L n.1 n.2) L
theorem jd:∀{l L:List (Nat×Nat)},(d9 L l).length<=L.length+l.length:=by
 intro l
 induction l with
 | nil=>
   intro _;exact MZ _
 | cons n l jd=>
   intro L;have:=jd (L:=cG L n.1 n.2);have h:=c7 n.1 n.2 L;show(d9 (cG L n.1 n.2) l).length<=L.length+(l.length+1);lia
theorem BF(R0:Wd N J Y0 ba he W b){nq aq kq:Nat}(hn:Y0[nq]? =some (.list (needs.map ah)))(ha:Y0[aq]? =some (.list (A.map ah)))(hkq:Y0.length<=kq)(hm0:m0<=W.he.length)
 (hlt:∀m,m<m0->aT (ov (aL W.ba) (W.he.take m)) needs≠W.he.drop m++A) (hm:aT (ov (aL W.ba) (W.he.take m0)) needs=W.he.drop m0++A) (hnl:needs.length<100) (hal:A.length<100) (hhl:W.he.length<100):
 ∀{k m:Nat} {s:aR} {f:Nat},m+k=m0->k<f->Fr [] Y0 s->s[kq]? =some (.dictS (eE (d9 W.ba (W.he.take m))))->W.ba.length<100->
 ∃t,tL (jf (ac P (d+2)) P.glo P.init (Tz .ne (Tx 92 [Tr 14,Tr 4]) (Tw .add (T5 (Tv (Tr 0) (Tt `held)) (Tr 13)) (Tr 12)))) (λr=>ax (ac P (d+2)) P.glo P.init [TU (Tr 14) (Tv (Tv (Tv (Tr 0) (Tt `held)) (Tr 13)) (Ts 0)) (Tv (Tv (Tv (Tr 0) (Tt `held)) (Tr 13)) (Ts 1)),T2 13 .add (Ts 1)] r) f
  %[.ref J.w|[r1,r2,r3,some (.ref nq),r5,r6,r7,r8,r9,r10,r11,some (.ref aq),some (.int m),some (.ref kq),r15,r16,r17]] s= .ok (.nxt,%[.ref J.w|[r1,r2,r3,some (.ref nq),r5,r6,r7,r8,r9,r10,r11,some (.ref aq),some (.int m0),some (.ref kq),r15,r16,r17]]) t/\Fr [] Y0 t:=by
 have cond:∀{m:Nat} {s:aR} {t:Bool},m<=W.he.length->Fr [] Y0 s->s[kq]? =some (.dictS (eE (d9 W.ba (W.he.take m))))->decide (aT (ov (aL W.ba) (W.he.take m)) needs=W.he.drop m++A)=t->∃s',af (ac P (d+2)) P.glo P.init (Tz .ne (Tx 92 [Tr 14,Tr 4]) (Tw .add (T5 (Tv (Tr 0) (Tt `held)) (Tr 13)) (Tr 12))) %[.ref J.w|[r1,r2,r3,some (.ref nq),r5,r6,r7,r8,r9,r10,r11,some (.ref aq),some (.int m),some (.ref kq),r15,r16,r17]] s= .ok (.bool (!t)) s'/\Fr [] s s':=λ{m s t} hmm F hk ht=>by
  have R:=R0.fr F;have k1:=yn (d:=d+1) hk (ey (F.get hn MS)) (nk (i:=0) (F.get hn MS) rfl) %[|0];rw[(show aL (d9 W.ba (W.he.take m))=ov (aL W.ba) (W.he.take m) from m5)] at k1;have R1:=R.app (g:=[.list ((aT (ov (aL W.ba) (W.he.take m)) needs).map ah)]);have k2:=pb (call:=ac P (d+2)) (glo:=P.glo) (init:=P.init) (r:=%[.ref J.w|[r1,r2,r3,some (.ref nq),r5,r6,r7,r8,r9,r10,r11,some (.ref aq),some (.int m),some (.ref kq),r15,r16,r17]]) (o:= .idx (.loc 0) (.str `held)) (i:= .loc 13) (cW (av rfl) bC (cq R1 rfl)) (av rfl) R1.hl;rw[MN,rk hmm, <-RB] at k2;have k3:=tZ (Y:=s++[.list ((aT (ov (aL W.ba) (W.he.take m)) needs).map ah)]++[.list ((W.he.drop m).map ah)]) aM (aU (g:=[.list ((W.he.drop m).map ah)]) (aU (g:=[.list ((aT (ov (aL W.ba) (W.he.take m)) needs).map ah)]) (F.get ha MS))) (by erw[MN,MN,NT];lia);rw[<-Nm] at k3;have k4:=Ak (CZ (Y:=s++[.list ((aT (ov (aL W.ba) (W.he.take m)) needs).map ah)]++[.list ((W.he.drop m).map ah)]++[.list ((W.he.drop m++A).map ah)]) (aU (aU aM)) aM);rw[ht] at k4;exact aE _ (hZ (bu rfl k1) (fA k2 rfl k3) k4) ((Fr.app.trans .app).trans .app)
 intro k
 induction k with
 | zero=>
   intro m s f hmk hf F hk hbl;exists bx (MP (Nv hf)),f,rfl;have:m=m0:=by omega
   subst this;exists aA (cond (t:=true) hm0 F hk (UE hm)),s',e,F2;exact aE s' (tP e) (F.trans F2)
 | succ k ih=>
   intro m s f hmk hf F hk hbl;exists bx (MP (show f≠0 by lia)),f,rfl;have hmh:m<W.he.length:=by lia
   exists aA (cond (t:=false) %[|0] F hk (UF (hlt m %[|0]))),s',e,F2;have F3:=F.trans F2;have R3:=R0.fr F3;have hk3:=F2.get hk MS;have hx:(W.he.map ah)[m]? =some (ah W.he[m]):=by erw[Ny,MX hmh];rfl
   have hl:=jd (l:=W.he.take m) (L:=W.ba);have x4:dA (.ref kq) (.str W.he[m].1) (.int (W.he[m].2:Nat)) s'= .ok () _:=im hk3 (by rw[rE];erw[NM] at hl;lia);rw[rM] at x4;have hset:cG (d9 W.ba (W.he.take m)) W.he[m].1 W.he[m].2=d9 W.ba (W.he.take (m+1)):=by
    unfold d9;erw[List.take_succ_eq_append_getElem hmh,Pt];rfl
   rw[hset] at x4;refine aA (ih (m:=m+1) (f:=f) %[|0] %[|0] (show Fr [] Y0 (s'.set kq (.dictS (eE (d9 W.ba (W.he.take (m+1)))))) from⟨by erw[ND];exact F3.1,λi hi hm=>(Nq %[|0]).trans (F3.2 i hi hm)⟩) (bJ hk3) hbl) λt e2 F5=>?_;exact(aE t (Jg e (tQ [] λw=>w (cq R3 rfl) (f7 R3.hl hx) rfl (cq R3 rfl) (f7 R3.hl hx) rfl x4 (iK (a:=m) (b:=1))) e2) F5)
theorem jZ(hro:aq≠J.ro)(hkn:aq≠J.kn):∀{A:List (Nat×Nat)} {i:Nat} {Y:aR} {W:WS} {z1 z2:Option PV} {f:Nat},Wd N J Y ba he W b->Y[aq]? =some (.list all)->all.drop i=A.map ah->(∀n∈A,aV n.1)->A.length<f->W.rows.length+2*A.length<500->W.kn.length+A.length<90->
 (∀w1 w2 s,(fW (.many [15,16]) (λr=>ax (ac P (d+2)) P.glo P.init (aQ jD 8) r) f (.lst aq i) %[.ref J.w|[r1,r2,r3,r4,r5,r6,r7,r8,r9,r10,r11,r12,r13,r14,z1,z2,r17]] Y= .ok (.nxt,%[.ref J.w|[r1,r2,r3,r4,r5,r6,r7,r8,r9,r10,r11,r12,r13,r14,w1,w2,r17]]) s)->Wd N J s ba he {W with rows:=W.rows++A.flatMap bB,kn:=d9 W.kn A} b->WB N J.bag Y s->Gz)->Gz:=by
 intro A
 induction A with
 | nil=>
   intro i Y W z1 z2 f R ha hd _ hf _ _ Kz;exists bx (MP (Nv hf)),f,rfl;exact Kz z1 z2 Y (gz (mY ha (by rw[Nt];exact Pp.mp hd))) (by erw[List.flatMap_nil,M3];exact R) .refl
 | cons n A jZ=>
   intro i Y W z1 z2 f R ha hd hn hf hr hk Kz;erw[M0] at hf hr hk;exists bx (MP (show f≠0 by lia)),f,rfl;exists fb (iW (d:=d) (Y:=Y) (n:=n.2) (op:=15934) (hn n (.head _))),t,q,k2,hq,Ft,hlq;have R2:=R.fr Ft;have hne:=R.new_ne hlq;have R3:=R2.setRo (l:=W.rows++bB n) (by rw[MH];show W.rows.length+2<1000;lia);have hkl:=c7 n.1 n.2 W.kn;have x4:dA (.ref J.kn) (.str n.1) (.int (n.2:Nat)) _= .ok () _:=im R3.kn (by rw[rE];lia);erw[rM] at x4;exists jZ (i:=i+1) (W:={W with rows:=W.rows++bB n,kn:=cG W.kn n.1 n.2}) (z1:=some (.str n.1)) (z2:=some (.int n.2)) (f:=f) (R3.setKn (L:=cG W.kn n.1 n.2) %[|0]) (au (o:= .dictS (eE (cG W.kn n.1 n.2))) (au (o:= .list (W.rows++bB n)) (Ft.get ha MS) (Ni hro)) (Ni hkn)) (by rw[<-PB,hd];rfl) (λm hm=>hn m (.tail _ hm)) %[|0] (by rw[MH];show W.rows.length+2+2*A.length<500;lia) %[|0],w1,w2,s,k5,R5,B5;refine(Kz w1 w2 s (iU (pH ha (by rw[<-Ps,hd];rfl)) rfl (aD (qw (xK (call:=ac P (d+2)) (glo:=P.glo) (init:=P.init) (Y:=Y) (r:=%[.ref J.w|[r1,r2,r3,r4,r5,r6,r7,r8,r9,r10,r11,r12,r13,r14,some (.str n.1),some (.int n.2),r17]]) (o:= .idx (.loc 0) (.str `rows)) (a:= .call 90 [.loc 15, .loc 16, .str 15934]) (cW (av rfl) bC (cq R rfl)) R.ro (bu rfl k2) R2.ro hq (Ni hne.2.2.1) (by show W.rows.length+2<4000;lia))) (aD (Ju (av rfl) (cW (av rfl) bC (cq R3 rfl)) (av rfl) x4) cM)) rfl k5) ?_ ((((WB.fr Ft R.low).trans (.set R.above.2.2.1)).trans (.set R.above.2.2.2.2.1)).trans B5));rw[SW, <-MR];exact R5
end
section
noncomputable def AB(may:List (Nat×Nat))(fam hd:Nat):Bool:=iu ((gf hd).length+(gf 33).length)&&match yX.lookup hd with
 | some (base,needs,fields)=>PR 0 fields.length&&PR fields.length 13&&PR needs.length 10&&fields.all λf=>iu ((gf (AI hd 33)).length+(gf f.1).length)&&Ra f.2.2 200&&match KF.lookup (AI (AI hd 33) f.1) with
   | some (.pay _ bits proto base' first)=>bits==f.2.2&&base'==base&&first==f.2.1&&JM KF may fam (AI (AI hd 33) f.1) bits proto base first&&decide (needs.filter (cS fam)=an fam proto)
   | _=>false
 | none=>false
structure LY(U:A8)(hd base:Nat)(needs:List (Nat×Nat))(f:Nat×Nat×Nat)(nm tn proto:Nat):Prop where
 c1:∀Y,bS .add (.str hd) (.str 33) Y= .ok (.str (AI hd 33)) Y
 c2:∀Y,bS .add (.str (AI hd 33)) (.str f.1) Y= .ok (.str nm) Y
 ok:wD KF U nm tn f.2.2 proto base f.2.1
 nd:needs.filter (cS U.fam)=an U.fam proto
 b:f.2.2<=200
structure Jh(U:A8)(hd base:Nat)(needs:List (Nat×Nat))(fields:List (Nat×Nat×Nat)):Prop where
 look:yX.lookup hd=some (base,needs,fields)
 l0:0<fields.length
 l1:fields.length<13
 l2:needs.length<10
 all:∀f∈fields,∃nm tn proto,LY U hd base needs f nm tn proto
theorem Aq(h:iu ((gf a).length+(gf b).length)=true)(Y:aR):bS .add (.str a) (.str b) Y= .ok (.str (AI a b)) Y:=by
 show(if iu ((gf a).length+(gf b).length) then ret (TN (AI a b)) else fX:M PV) Y=_
 refine(if_pos h)▸?_;rfl
theorem vd:∀{F:List (Nat×FI)},F.lookup nm=some (.pay tn bits proto base first)->(aF F).lookup nm=some (mw tn bits proto base first):=by
 intro F
 induction F with
 | nil=>(try intros);exists _|cons x F vd=>
   intro h;show QQ nm ((x.1,x.2.pv)::aF F)=_;rw[Ng] at h ⊢;split at h
   . injection h with h
     rw[h];rfl
   . exact vd h
set_option tactic.hygienic true in
theorem B0(h:AB U.may U.fam hd=true)(Kz:∀base needs fields,Jh U hd base needs fields->Gz):Gz:=gy (show∃base needs fields,Jh U hd base needs fields from by
 unfold AB at h;exists bj (MT.mp h),h0,h;split at h
 . rename_i base needs fields e
   exists bj (MT.mp h),h,h4;exists bj (MT.mp h),h,h3;exists bj (MT.mp h),h1,h2;refine(ik base needs fields ⟨e,MU h1,MU h2,MU h3,λf hf=>?_⟩);exists bj (MT.mp (M8.mp h4 f hf)),h,h7;exists bj (MT.mp h),h5,h6;split at h7
   . rename_i tn bits proto base' first e2
     exists cps,Gz3,Kz3;exists bj (MT.mp h7),h,g5;exists bj (MT.mp h),h,g4;exists bj (MT.mp h),h,g3;exists bj (MT.mp h),g1,g2;have g1:=beq_iff_eq.mp g1;have g2:=beq_iff_eq.mp g2;have g3:=beq_iff_eq.mp g3;subst g1 g2 g3;exact Kz3 (ik _ tn proto ⟨Aq h0,Aq h5,IP (vd e2) g4,UD g5,MU h6⟩)
   . exists _
 . cases h) Kz
section
variable{N:Nat}{J:Cg}{Y s:aR}{ba he:Nat}{W:WS}{b:Int}{d:Nat}
theorem DH{k:Nat}(hk:k<3)(Kz:∀op,zh op->dk (.tup [.str 15934, .str 8766, .str 61]) (.int k) Y= .ok (.str op) Y->Gz):Gz:=by
 match k,hk with
 | 0,_=>exact(Kz 15934 (.inl rfl) rfl)|1,_=>exact(Kz 8766 (.inr (.inl rfl)) rfl)|2,_=>exact Kz 61 (.inr (.inr rfl)) rfl
noncomputable def D9:Nat:=5192376087906286159508272029171713
theorem xc(R:Wd N J Y ba he W b)(z:Sz W)(hba:W.ba.length<=60)(hkn:aL W.kn=ov (aL W.ba) W.he){U:A8}(hU:J.fam=U.fam)(H:Jh U hd base needs fields):
 ∃(f:Nat×Nat×Nat) (nm tn proto op n:Nat),zh op/\n<2^f.2.2/\wD KF U nm tn f.2.2 proto base f.2.1/\tq N J Y (W.fld U (.fld nm (.pay tn f.2.2 proto base f.2.1) op n) proto (eS base f.2.1 f.2.2 op n)) (ac P (d+4) 97 [.ref J.w, .str hd, .ref J.bag] Y) .none:=by
 exists xC,Gz,Kz;obtain⟨s1,s2,s3,s4⟩:=id z;have hL1:ac P (d+3) 87 [] Y= .ok (.ref Y.length) (Y++[.dictS lr]):=xA;have R1:=R.app (g:=[.dictS lr]);generalize hs1:Y++[aC.dictS lr]=Y1 at*;have hhd:lr.lookup hd=some (LA (base,needs,fields)):=by
  unfold lr;erw[gE,H.look];rfl
 have R2:=R1.app (g:=[.dictS mU]);have hL2:af (ac P (d+3)) P.glo P.init (TI [`ip,`ip6] [Tu [Tt `«meta nfproto»,Ts 2],Tu [Tt `«meta nfproto»,Ts 10]]) %[.ref J.w,.str hd,.ref J.bag,.str base,.tup (needs.map ah),.tup (fields.map iF)|12] Y1= .ok (.ref Y1.length) (Y1++[.dictS mU]):=
  sK (vs:=mU.map (·.2)) rfl rfl
 generalize hs2:Y1++[aC.dictS mU]=Y2 at*;have F2:Fr [] Y Y2:=(show Fr [] Y Y1 from hs1▸ .app).trans (hs2▸ .app);have hmet:Y2[Y1.length]? =some (.dictS mU):=by refine hs2▸?_;exact aM
 have hL3:=zS (call:=ac P (d+3)) (glo:=P.glo) (init:=P.init) (Y:=Y2) (r:=%[.ref J.w,.str hd,.ref J.bag,.str base,.tup (needs.map ah),.tup (fields.map iF),(mU.lookup J.fam).getD .none|11]) (elt:= .loc 0) (isR:=false) (src:= .loc 4) (c:=Tz .ne (Tr 0) (Tr 7)) (xs:=needs.map ah) (λx=>x) (λx=>match x with | .tup [.str a, .int i]=>cS J.fam (a,i.toNat) | _=>false) rfl rfl rfl zl (by rw[MN];have:=H.l2;lia) λx hx=>by
  exists aA (Nd.mp hx),n,hn,rfl;exact⟨dn λw=>w JU,rfl⟩
 have e3:((needs.map ah).filter (λx=>match x with | .tup [.str a, .int i]=>cS J.fam (a,i.toNat) | _=>false)).map (λx=>x)=(needs.filter (cS J.fam)).map ah:=by
  erw[List.map_id',List.filter_map];rfl
 erw[e3] at hL3;have R3:=R2.app (g:=[.list ((needs.filter (cS J.fam)).map ah)]);generalize hnd:needs.filter (cS J.fam)=nd at*;generalize hs3:Y2++[aC.list (nd.map ah)]=Y3 at*;have hn3:Y3[Y2.length]? =some (.list (nd.map ah)):=by refine hs3▸?_;exact aM
 have hbl:=bw R.bag;exists gR (d:=d+2) (m:=12) R3.bag %[|1] %[|1],k1,b1,hk1,e4;have R4:=R3.setBag (c:=b1);have B4:WB N J.bag Y (Y3.set J.bag (.list [.int b1])):=(WB.fr (show Fr [] Y Y3 from F2.trans (hs3▸ .app)) R.low).trans .setBag;have hn4:=au (o:= .list [.int b1]) hn3 (show J.bag≠Y2.length by have:=F2.1;lia);have L4:Y3.length=(Y3.set J.bag (.list [.int b1])).length:=(ND ..).symm;generalize Y3.set J.bag (.list [.int b1])=Y4 at*;have hmod:k1 % fields.length<fields.length:=QM _ H.l0;exists gy (H.all _ (PA hmod)),nm,tn,proto,A;generalize hf:fields[k1 % fields.length]=f at*;have hxf:(fields.map iF)[k1 % fields.length]? =some (iF f):=by erw[Ny,MX hmod,hf];rfl
 obtain⟨word,first,bits⟩:=f;have hlen:lx (.tup (fields.map iF)) Y4= .ok (.int fields.length) Y4:=by
  show iR.ok (TF (fields.map iF).length) Y4=_
  erw[MN]
 have hl13:=H.l1;exists gR (d:=d+2) (m:=3) R4.bag %[|1] %[|1],k2,b2,hk2,e5;have R5:=R4.setBag (c:=b2);have B5:=B4.trans (WB.setBag (o:= .list [.int b2]));have hn5:=au (o:= .list [.int b2]) hn4 (show J.bag≠Y2.length by have:=F2.1;lia);have L5:Y3.length=(Y4.set J.bag (.list [.int b2])).length:=L4.trans (ND ..).symm;generalize Y4.set J.bag (.list [.int b2])=Y5 at*;exists DH (Y:=Y5) hk2,op,hop,hxo;exists gR (d:=d+2) (m:=65536) R5.bag %[|1] %[|1],k3,b3,hk3,e6;have R6:=R5.setBag (c:=b3);have B6:=B5.trans (WB.setBag (o:= .list [.int b3]));have hn6:=au (o:= .list [.int b3]) hn5 (show J.bag≠Y2.length by have:=F2.1;lia);have L6:Y3.length=(Y5.set J.bag (.list [.int b3])).length:=L5.trans (ND ..).symm;generalize Y5.set J.bag (.list [.int b3])=Y6 at*;have hbits:bits<=200:=A.b;have hpb:2^bits<2^400:=Pq %[|1] %[|0];have hpp:0<2^bits:=N2 %[|1];have hnum:af (ac P (d+3)) P.glo P.init (Tw .mod (Tw .mul (Tx 86 [Tr 2,Ts 65536]) (Ts 5192376087906286159508272029171713)) (Tw .pow (Ts 2) (Tr 9))) %[.ref J.w,.str hd,.ref J.bag,.str base,.ref Y2.length,.tup (fields.map iF),(mU.lookup J.fam).getD .none,.str word,.int first,.int bits,.str op|7] Y5= .ok (.int ((k3*D9 % 2^bits:Nat):Int)) Y6:=
  fA (fA (bu rfl e6) bX (gp (a:=k3) (b:=D9) %[|0] %[|1])) (fA bX (av rfl) (xo (a:=2) (b:=bits) %[|0] %[|1])) (mC (a:=k3*D9) (b:=2^bits) hpp hpb)
 have hn:k3*D9 % 2^bits<2^bits:=QM _ hpp;generalize k3*D9 % 2^bits=n at*;refine(Kz (word,first,bits) nm tn proto op n hop hn A.ok ?_);have hndl:nd.length<10:=by
  refine hnd▸?_;exact MM (N5 ..) H.l2
 have hlack:(aT (aL W.kn) nd).length<10:=MM (N5 ..) hndl;have e7:=yn (d:=d+2) R6.kn (ey hn6) (nk (i:=0) hn6 rfl) %[|0];have R7:=(R6.app (g:=[.list ((aT (aL W.kn) nd).map ah)])).app (g:=[.dictS (eE W.ba)]);have e7b:sf (.ref ba) (Y6++[.list ((aT (aL W.kn) nd).map ah)])= .ok (.ref (Y6.length+1)) (Y6++[.list ((aT (aL W.kn) nd).map ah)]++[.dictS (eE W.ba)]):=by
  show((cO ba).bnd _) _=_
  erw[ag (a8 (R6.app (g:=[.list ((aT (aL W.kn) nd).map ah)])).bs)];show iR.ok (TH (Y6++[aC.list ((aT (aL W.kn) nd).map ah)]).length) _=_;erw[MH];rfl
 have ha7:(Y6++[aC.list ((aT (aL W.kn) nd).map ah)]++[aC.dictS (eE W.ba)])[Y6.length]? =some (.list ((aT (aL W.kn) nd).map ah)):=aU aM;have hk7:(Y6++[aC.list ((aT (aL W.kn) nd).map ah)]++[aC.dictS (eE W.ba)])[Y6.length+1]? =some (.dictS (eE (d9 W.ba (W.he.take 0)))):=by
  have:(Y6++[aC.list ((aT (aL W.kn) nd).map ah)]).length=Y6.length+1:=by rw[MH];rfl
  erw[<-this];exact aM
 have hn7:=aU (g:=[.dictS (eE W.ba)]) (aU (g:=[.list ((aT (aL W.kn) nd).map ah)]) hn6);have B7:=(B6.trans (.app (R6.low))).trans (WB.app (g:=[.dictS (eE W.ba)]) (R6.app (g:=[.list ((aT (aL W.kn) nd).map ah)])).low);have x7:af (ac P (d+3)) P.glo P.init (Tu [Tx 92 [Tv (Tr 0) (Tt `known),Tr 4],Ts 0,(E.mkdict (Tv (Tr 0) (Tt `base)))]) %[.ref J.w,.str hd,.ref J.bag,.str base,.ref Y2.length,.tup (fields.map iF),(mU.lookup J.fam).getD .none,.str word,.int first,.int bits,.str op,.int n|6] Y6= .ok (.tup [.ref Y6.length, .int 0, .ref (Y6.length+1)]) _:=
  dn λw=>w (cq R6 rfl) e7 (cq (R6.app (g:=[.list ((aT (aL W.kn) nd).map ah)])) rfl) e7b
 have L7:Y6.length+2=(Y6++[aC.list ((aT (aL W.kn) nd).map ah)]++[aC.dictS (eE W.ba)]).length:=by erw[MH,MH];rfl
 have hng:∀m∈aT (aL W.kn) nd,aV m.1:=λm hm=>(A.ok.pay.hg m (by
  rw[<-A.nd, <-hU,hnd];exact(QD.mp hm).1)).1
 exists pQ (g:=aL W.ba) (H:=W.he) (needs:=nd),m,hm1,hm2,hm3;rw[<-hkn] at hm1 hm3;have hbef:∀j,j<m->aT (ov (aL W.ba) (W.he.take j)) nd≠W.he.drop j++aT (aL W.kn) nd:=λj hj=>of_decide_eq_false (n5 hm1 j (Pm _) hj);have hres:W.fld U (.fld nm (.pay tn bits proto base first) op n) proto (eS base first bits op n)=
  {sts:=W.sts++[.fld nm (.pay tn bits proto base first) op n],rows:=W.rows++(aT (aL W.kn) nd).flatMap bB++eS base first bits op n,due:=W.due++(W.he.take m).map (bO 15934)++[.fld nm (.pay tn bits proto base first) op n],kn:=d9 W.kn (aT (aL W.kn) nd),ba:=d9 W.kn (aT (aL W.kn) nd),he:=[]}:=by
  unfold WS.fld;rw[<-A.nd, <-hU,hnd,hm1];rfl
 erw[hres];generalize hA:aT (aL W.kn) nd=al at*;generalize hs7:Y6++[aC.list (al.map ah)]++[aC.dictS (eE W.ba)]=Y7 at*;have R7a:=R6.app (g:=[.list (al.map ah)]);have L7a:(Y6++[aC.list (al.map ah)]).length=Y6.length+1:=by rw[MH];rfl
 have ha7a:(Y6++[aC.list (al.map ah)])[Y6.length]? =some (.list (al.map ah)):=aM;have F7a:Fr [] (Y6++[aC.list (al.map ah)]) Y7:=hs7▸ .app;exists aA (BF (d:=d+1) (k:=m) (m:=0) (f:=200) (s:=Y7) (r1:=some (.str hd)) (r2:=some (.ref J.bag)) (r3:=some (.str base)) (r5:=some (.tup (fields.map iF))) (r6:=some ((mU.lookup J.fam).getD .none)) (r7:=some (.str word)) (r8:=some (.int first)) (r9:=some (.int bits)) (r10:=some (.str op)) (r11:=some (.int n)) (r15:=none) (r16:=none) (r17:=none) R7a (aU (g:=[.list (al.map ah)]) hn6) ha7a %[|0] hm2 hbef hm3 %[|0] %[|0] %[|0] %[|0] %[|0] F7a hk7 %[|0]),t8,e8,F8;have hne:=R6.new_ne (q:=Y6.length) (MZ _);have hal9:al.length<10:=hlack;exists jZ (d:=d+1) (aq:=Y6.length) (all:=al.map ah) (f:=(al.map ah).length+1) (z1:=none) (z2:=none) (r1:=some (.str hd)) (r2:=some (.ref J.bag)) (r3:=some (.str base)) (r4:=some (.ref Y2.length)) (r5:=some (.tup (fields.map iF))) (r6:=some ((mU.lookup J.fam).getD .none)) (r7:=some (.str word)) (r8:=some (.int first)) (r9:=some (.int bits)) (r10:=some (.str op)) (r11:=some (.int n)) (r12:=some (.ref Y6.length)) (r13:=some (.int m)) (r14:=some (.ref (Y6.length+1))) (r17:=none) hne.2.2.1 hne.2.2.2.2 (R7a.fr F8) (F8.get ha7a MS) (i:=0) rfl hng (by erw[MN];lia) %[|0] %[|0],w1,w2,t9,e9,R9,B9;exists DV (Ex (d:=d+1) R9 (m:=m) hm2 %[|0]),t10,ba10,he10,b10,e10,R10,B10;exists cps,Gz1,Kz1;obtain⟨t11,q,e11,hq,F11,hlq⟩:=uT (d:=d+1) (Y:=t10) (op:=op) (n:=n) A.ok.chk;have hne2:=R10.new_ne hlq;have hfl:(eS base first bits op n).length<=4:=by
  unfold eS;have:=fN (many:=bG (first % 8) bits) (above:=first % 8) (bits:=bits);erw[MH,M0];show _+1+1<=4;lia
 refine DV (xP (d:=d+2) (R10.fr F11) (st:= .fld nm (.pay tn bits proto base first) op n) hq hne2.1 hne2.2.1 hne2.2.2.1 %[|0] (by erw[MH,MN,NM];lia) (by show(W.rows++al.flatMap bB).length+(eS base first bits op n).length<900;erw[MH,kR];lia)) λt12 ba12 he12 b12 e12 R12 B12=>?_;refine Kz1 ?_;refine(IS t12 ba12 he12 b12 (jL (r:=%[.ref J.w,.str hd,.ref J.bag|15]) rfl rfl rfl
  (aD (u5 (r':=%[.ref J.w,.str hd,.ref J.bag,.str base,.tup (needs.map ah),.tup (fields.map iF)|12]) (cW (bu bA hL1) (av rfl) (show dk (.ref Y.length) (.str hd) Y1= .ok (.tup [.str base, .tup (needs.map ah), .tup (fields.map iF)]) Y1 from l8 (by refine hs1▸?_;exact aM) hhd)) rfl rfl)
  (aD (cT (Lo hL2 hmet (cW (av rfl) bC (cq R2 rfl)) hmet))
  (aD (cT hL3)
  (aD (u5 (r':=%[.ref J.w,.str hd,.ref J.bag,.str base,.ref Y2.length,.tup (fields.map iF),(mU.lookup J.fam).getD .none,.str word,.int first,.int bits|8]) (cW (av rfl) (fA (bu rfl e4) (t6 (av rfl) hlen) (mC (a:=k1) (b:=fields.length) H.l0 %[|0])) (vP hxf)) rfl rfl)
  (aD (cT (cW rfl (bu rfl e5) hxo))
  (aD (cT hnum)
  (aD (u5 (r':=%[.ref J.w,.str hd,.ref J.bag,.str base,.ref Y2.length,.tup (fields.map iF),(mU.lookup J.fam).getD .none,.str word,.int first,.int bits,.str op,.int n,.ref Y6.length,.int 0,.ref (Y6.length+1)|3]) x7 rfl rfl)
  (aD (yk e8)
  (aD (uO (av rfl) (ey (F8.get ha7a MS)) e9)
  (aD (qw (bu rfl e10))
  (aD (cT (iG (ai bC (ai (iG (ai bC (ai (fA (fA (av rfl) bC (A.c1 _)) (av rfl) (A.c2 _)) bA))) rfl))))
  (aD (qw (bu (ai (av rfl) (ai (av rfl) (ai (bu rfl e11) bA))) e12)) cM))))))))))))) R12 ((((((B6.trans (.app R6.low)).trans (.fr F8 R7a.low)).trans B9).trans B10).trans (.fr F11 R10.low)).trans B12))
end
end
structure WA(U:A8)(W:WS)(c:Nat):Prop where
 wi:∀N I D0,LI I->I.fam=U.fam->I.ord=U.ord->kM D0 [] (λX=>none)->D0.at_=0->D0.sts=[]->WI N KF I D0 U W c
 kl:W.kn.length<=3*c
 bl:W.ba.length<=3*c
theorem DG:kM (fV n) [] (λX=>none):=
 ⟨⟨.nil,λx hx=>absurd hx MS⟩,λx hx=>absurd hx MS,rfl,Pm _,rfl,(λX X e=>by exists _),λx hx=>absurd hx MS,λx hx=>absurd hx MS,MZ _,MZ _,MZ _,by show 0<80;decide⟩
theorem Cz(h:fe ord):LI (iT n se ce fam ord 0):=⟨rfl,rfl,h⟩
section
variable{U:A8}{W:WS}{c:Nat}
theorem WA.one(w:WA U W c)(ho:fe U.ord):WI 0 KF (iT 0 0 0 U.fam U.ord 0) (fV 0) U W c:=w.wi _ _ _ (Cz ho) rfl rfl DG rfl rfl
theorem WA.sz(w:WA U W c)(ho:fe U.ord)(hc:c<=7):Sz W:=by
 have x:=w.one ho;have h1:=x.n1;have h2:=x.n2;have h3:=x.n3;have h4:=w.kl;exact⟨by lia,by lia,by lia,by lia⟩
theorem MB:WA U ⟨[],[],[],[],[],[]⟩ 0:=
 ⟨λN I D0 X X X v ha hs=>⟨rfl,(by intros;exists _),(by intros;exists _),rfl,λX X=>rfl,rfl,λX X=>rfl,(d0 D0 .nil v (by refine hs▸?_;rfl) (by refine ha▸?_;rfl)),(by intros;exists _),(by intros;exists _),MZ _,MZ _,MZ _⟩,MZ _,MZ _⟩
theorem WA.own(w:WA U W c)(h:cI n)(hm:n∈U.may)(hc:c<=6):WA U (W.own n) (c+1):=
 ⟨λN I D0 li hf ho v ha hs=>(w.wi N I D0 li hf ho v ha hs).own nG li ha h hm %[|0],by have:=c7 n.1 n.2 W.kn;have:=w.kl;show(cG W.kn n.1 n.2).length<=_;lia,by have:=w.bl;show W.ba.length<=_;lia⟩
theorem WA.plain(w:WA U W c)(hst:st.ok (aF KF) U.fam)(hr:∀L,st.rows U.fam U.ord L=rows)(hk:∀L,Ag (aL (st.know U.fam L)) (aL L))(hl:rows.length<=8)(hc:c<=6)
 (hrd:∀N I D H g,LI I->I.ord=U.ord->kM D H g->D.at_<=8*c->tH N (aF KF) I D rows [] (ov g H) (H.map oE++[st.pv])):WA U (W.plain st rows) (c+1):=
 ⟨λN I D0 li hf ho v ha hs=>(w.wi N I D0 li hf ho v ha hs).plain nG.kok li ha hst hr hk hl %[|0] λD H g=>hrd N I D H g li ho,by have:=w.kl;show W.kn.length<=_;lia,by have:=w.kl;show W.kn.length<=_;lia⟩
theorem WA.odd(w:WA U W c)(h:cI n)(hc:c<=6):WA U (W.plain (bO 8766 n) [bU n.1,eU 8766 (aX n.2 (aj n.1))]) (c+1):=
 w.plain (oi nG.kok h (.inr rfl)) (λX=>ka h.1) (λX=>by refine(wP h.1)▸?_;exactλX X=>rfl) (by show 2<=8;decide) hc λN I D H g li ho v ha=>by
  have:=FM (N:=N) nG li v h %[|0];exact this
theorem WA.msk(w:WA U W c)(h:cI n)(hc:c<=6):WA U (W.plain (.msk n.1 n.2) (jX n.1++[eU 15934 (aX n.2 (aj n.1))])) (c+1):=
 w.plain h (λX=>rfl) (λX X X=>rfl) (by show 3<=8;decide) hc λN I D H g li ho v ha=>FY nG li v h %[|0]
theorem WA.vrd(w:WA U W c)(hc:c<=6):WA U (W.plain .vrd [dj.vrd.pv]) (c+1):=
 w.plain trivial (λX=>rfl) (λX X X=>rfl) %[|1] hc λN I D H g li ho v ha=>GY li v %[|0]
theorem WA.mark(w:WA U W c)(hop:op=15934\/op=8766)(hn:n<256^4)(hc:c<=6):WA U (W.plain (.fld `«meta mark» y7 op n) [rG `mark 4 `host,eU op (bZ U.ord (aX n 4))]) (c+1):=
 w.plain (lX rfl (by rcases hop with h | h;exact .inl h;exact .inr (.inl h)) hn %[|1] (.inr rfl) (by rcases hop with h | h<;>refine h▸?_<;>decide)) (λX=>rfl)
  (λL=>by
    show Ag (aL (if op=15934 then cG L `«meta mark» n else L)) (aL L)
    split
    . rw[ie]
      exact Ag.set_other (λX X=>rfl) (by unfold aV;decide)
    . exactλX X=>rfl) (by show 2<=8;decide) hc λN I D H g li ho v ha=>by
  have:=C5 (N:=N) (F:=KF) li v (op:=op) hn %[|0];rw[ho] at this;exact this
theorem WA.fld(w:WA U W c)(x:wD KF U nm tn bits proto base first)(hop:zh op)(hn:n<2^bits)(hc:c<=6):WA U (W.fld U (.fld nm (.pay tn bits proto base first) op n) proto (eS base first bits op n)) (c+1):=by
 have hk:((aT (aL W.kn) (an U.fam proto)).foldl (λL n=>cG L n.1 n.2) W.kn).length<=3*(c+1):=by
  have h1:=jd (l:=aT (aL W.kn) (an U.fam proto)) (L:=W.kn);have h2:(aT (aL W.kn) (an U.fam proto)).length<=2:=MO (N5 ..) x.n2;have h3:=w.kl;show(d9 W.kn (aT (aL W.kn) (an U.fam proto))).length<=_;lia
 have hb:n<256^bG (first % 8) bits:=by
  refine MQ hn ?_;rw[show(256:Nat)=2^8 from rfl, <-Nat.pow_mul];exact QO %[|1] (by have:=x.chk.sum;lia)
 exact⟨λN I D0 li hf ho v ha hs=>(w.wi N I D0 li hf ho v ha hs).fld nG li hf ha x hop hb %[|0],hk,hk⟩
end
noncomputable def xM(may:List (Nat×Nat))(fams hds:List Nat):Bool:=may.all Co&&PR 0 may.length&&Ra may.length 28&&fams.all λfam=>hds.all λhd=>AB may fam hd
theorem LC:xM Iw EI [`ether,`vlan,`arp]=true:=by decide+kernel
theorem Lp:xM Jp Ci [`vlan,`ip,`icmp,`tcp,`udp]=true:=by decide+kernel
theorem LO:xM H8 E2 [`vlan,`ip6,`icmpv6,`tcp,`udp]=true:=by decide+kernel
structure Gq(U:A8)(heads:List Nat):Prop where
 ord:fe U.ord
 good:∀n∈U.may,cI n
 m0:0<U.may.length
 m1:U.may.length<=28
 hl:heads.length=4
 hb:∀h∈heads,AB U.may U.fam h=true
section
variable{N:Nat}{J:Cg}{Y s:aR}{ba he:Nat}{W:WS}{b:Int}{d:Nat}{U:A8}{heads:List Nat}
theorem uA{k:Nat}(hk:k<2)(Kz:∀op,((op=x\/op=y))->dk (.tup [.str x, .str y]) (.int k) Y= .ok (.str op) Y->Gz):Gz:=by
 match k,hk with
 | 0,_=>exact(Kz x (.inl rfl) rfl)|1,_=>exact Kz y (.inr rfl) rfl
theorem I9(K:Gq U heads)(hf:J.fam=U.fam)(ho:J.ord=U.ord)(R:Wd N J Y ba he W b)(w:WA U W c)(hc:c<=5){r0 r2 r6 r7:Option PV}(Kz:(∀W' s ba' he' b' z,ax (ac P (d+4)) P.glo P.init (aQ dH 3) [r0,some (.ref J.bag),r2,some (.tup (heads.map .str)),some (.tup (U.may.map ah)),some (.ref J.w),r6,r7] Y= .ok (.nxt,[r0,some (.ref J.bag),r2,some (.tup (heads.map .str)),some (.tup (U.may.map ah)),some (.ref J.w),r6,z]) s->Wd N J s ba' he' W' b'->WA U W' (c+1)->WB N J.bag Y s->Gz)):Gz:=by
 exists cU (R.digit (d:=d+3) (m:=10) %[|1] %[|1]),k,b1,s1,hk,e1,R1,B1;have z:=w.sz K.ord %[|0];have hone:=w.one K.ord
 have hmay:∀{x:Nat} {t:aR},∃n∈U.may,dk (.tup (U.may.map ah)) (.int ((x % U.may.length:Nat):Int)) t= .ok (ah n) t:=λ{x t}=>by
  have hlt:=QM x K.m0;exact aE _ (PA hlt) (vP (by erw[Ny,MX hlt];rfl))
 have hlen:∀{t:aR},lx (.tup (U.may.map ah)) t= .ok (.int U.may.length) t:=λ{t}=>by
  show iR.ok (TF (U.may.map ah).length) t=_
  rw[MN]
 have hm1:=K.m1
 by_cases h5:k<5
 . exists cU (R1.digit (d:=d+3) (m:=4) %[|1] %[|1]),j,b2,s2,hj,e2,R2,B2
   have hjl:j<heads.length:=by erw[K.hl];exact hj
   exists B0 (U:=U) (K.hb _ (PA hjl)),base,needs,fields,H;have hix:dk (.tup (heads.map .str)) (.int j) s2= .ok (.str heads[j]) s2:=vP (by erw[Ny,MX hjl];rfl);refine bD (xc (d:=d) R2 z (by have:=w.bl;lia) hone.kn hf H) λf nm tn proto z'0=>fx z'0 λop n z'1=>fg z'1 λhop hn x z'2=>bD z'2 λs3 ba3 he3 b3 z'3=>fE z'3 λe3 R3 B3=>?_;exact Kz _ s3 ba3 he3 b3 _ (cE (aQ dH 3) [r0,some (.ref J.bag),r2,some (.tup (Pa .str heads)),some (.tup (Pa ah U.may)),some (.ref J.w),r6,r7] Y [] e1 (nZ (UE %[|0])) e2 hix e3) R3 (w.fld x hop hn %[|0]) ((B1.trans B2).trans B3)
 . by_cases h8:k<8
   . exists cU (R1.digit (d:=d+3) (m:=28) %[|1] %[|1]),j,b2,s2,hj,e2,R2,B2
     exists aA (hmay (x:=j) (t:=s2)),n,hn,hix;exists DV (AN (d:=d+1) R2 z (K.good n hn).1),s3,ba3,he3,b3,e3,R3,B3;exact Kz _ s3 ba3 he3 b3 _ (cE (aQ dH 3) [r0,some (.ref J.bag),r2,some (.tup (Pa .str heads)),some (.tup (Pa ah U.may)),some (.ref J.w),r6,r7] Y [] e1 (nZ (UF %[|0])) (nZ (UE %[|0])) e2 hlen (mC (a:=j) (b:=U.may.length) K.m0 %[|0]) hix e3) R3 (w.own (K.good n hn) hn %[|0]) ((B1.trans B2).trans B3)
   . by_cases h9:k=8
     . exists cU (R1.digit (d:=d+3) (m:=28) %[|1] %[|1]),j,b2,s2,hj,e2,R2,B2
       exists aA (hmay (x:=j) (t:=s2)),n,hn,hix;exists cU (R2.digit (d:=d+3) (m:=2) %[|1] %[|1]),q,b3,s3,hq,e3,R3,B3
       by_cases hq1:q=1
       . refine bD (A4 (d:=d+1) R3 z (K.good n hn).1) λs4 ba4 he4 b4 z'0=>fE z'0 λe4 R4 B4=>?_
         exact Kz _ s4 ba4 he4 b4 _ (cE (aQ dH 3) [r0,some (.ref J.bag),r2,some (.tup (Pa .str heads)),some (.tup (Pa ah U.may)),some (.ref J.w),r6,r7] Y [] e1 (nZ (UF %[|0])) (nZ (UF %[|0])) (fT (UE %[|0])) e2 hlen (mC (a:=j) (b:=U.may.length) K.m0 %[|0]) hix e3 (fT (UE %[|0])) e4) R4 (w.msk (K.good n hn) %[|0]) (((B1.trans B2).trans B3).trans B4)
       . refine bD (Bj (d:=d+1) R3 z (K.good n hn).1) λs4 ba4 he4 b4 z'0=>fE z'0 λe4 R4 B4=>?_
         exact Kz _ s4 ba4 he4 b4 _ (cE (aQ dH 3) [r0,some (.ref J.bag),r2,some (.tup (Pa .str heads)),some (.tup (Pa ah U.may)),some (.ref J.w),r6,r7] Y [] e1 (nZ (UF %[|0])) (nZ (UF %[|0])) (fT (UE %[|0])) e2 hlen (mC (a:=j) (b:=U.may.length) K.m0 %[|0]) hix e3 (fT (UF %[|0])) e4) R4 (w.odd (K.good n hn) %[|0]) (((B1.trans B2).trans B3).trans B4)
     . exists cU (R1.digit (d:=d+3) (m:=2) %[|1] %[|1]),j,b2,s2,hj,e2,R2,B2
       exists uA (Y:=s2) (x:=15934) (y:=8766) hj,op,hop,hix;exists cU (R2.digit (d:=d+3) (m:=65536) %[|1] %[|1]),q,b3,s3,hq,e3,R3,B3;refine bD (yQ (d:=d+1) R3 z (op:=op) (n:=q*65537)) λs4 ba4 he4 b4 z'0=>fE z'0 λe4 R4 B4=>?_;rw[ho] at R4;exact Kz _ s4 ba4 he4 b4 _ (cE (aQ dH 3) [r0,some (.ref J.bag),r2,some (.tup (Pa .str heads)),some (.tup (Pa ah U.may)),some (.ref J.w),r6,r7] Y [] e1 (nZ (UF %[|0])) (nZ (UF %[|0])) (fT (UF %[|0])) e2 hix e3 (gp (a:=q) (b:=65537) %[|0] %[|1]) e4) R4 (w.mark hop %[|0] %[|0]) (((B1.trans B2).trans B3).trans B4)
theorem HM(h:i<n):dg (.rng i n) Y= .ok (some (.int i, .rng (i+1) n)) Y:=by
 show(if i<n then ret (some (TF i,It.rng (i+1) n)) else ret none:M (Option (PV×It))) Y=_
 rw[if_pos h];rfl
theorem v9(K:Gq U heads)(hf:J.fam=U.fam)(ho:J.ord=U.ord):∀{k:Nat} {Y:aR} {W:WS} {ba he:Nat} {b:Int} {r6 r7:Option PV} {c:Nat},Wd N J Y ba he W b->WA U W c->c+k=6->
 (∀W' s ba' he' b' z6 z7,(fW (.one 6) (λr=>ax (ac P (d+4)) P.glo P.init (aQ dH 3) r) (k+1) (.rng c 6) [r0,some (.ref J.bag),r2,some (.tup (heads.map .str)),some (.tup (U.may.map ah)),some (.ref J.w),r6,r7] Y= .ok (.nxt,[r0,some (.ref J.bag),r2,some (.tup (heads.map .str)),some (.tup (U.may.map ah)),some (.ref J.w),z6,z7]) s)->Wd N J s ba' he' W' b'->WA U W' 6->WB N J.bag Y s->Gz)->Gz:=by
 intro k
 induction k with
 | zero=>
   intro Y W ba he b r6 r7 c R w hk Kz;have:c=6:=by omega
   subst this;exact Kz W Y ba he b r6 r7 (gz rfl) R w .refl
 | succ k v9=>
   intro Y W ba he b r6 r7 c R w hk Kz;exists I9 (d:=d) K hf ho R w %[|0] (r0:=r0) (r2:=r2) (r6:=some (.int c)) (r7:=r7),W1,s1,ba1,he1,b1,z1,e1,R1,w1,B1;exists v9 (r6:=some (.int c)) (r7:=z1) R1 w1 %[|0],W2,s2,ba2,he2,b2,z6,z7,e2,R2,w2,B2;exact Kz W2 s2 ba2 he2 b2 z6 z7 (iU (HM %[|0]) rfl e1 rfl e2) R2 w2 (B1.trans B2)
end
section
variable{Y s:aR}{d:Nat}
noncomputable def DS:List Nat:=[`ether,`vlan,`arp,`arp]
noncomputable def Eu(k:Nat):List Nat:=[`vlan,`ip,[`icmp,`tcp,`udp].getD k 0,`icmp]
noncomputable def EX(k:Nat):List Nat:=[`vlan,`ip6,[`icmpv6,`tcp,`udp].getD k 0,`icmpv6]
noncomputable def uZ(fams heads:List Nat)(may:List (Nat×Nat)):PV:= .tup [.tup (fams.map .str), .tup (heads.map .str), .tup (may.map ah)]
theorem Gk:ac P (d+1) 88 [.int 0, .int k] Y= .ok (uZ EI DS Iw) Y:=rfl
theorem FW{k:Nat}(h:k<3):ac P (d+1) 88 [.int 1, .int k] Y= .ok (uZ Ci (Eu k) Jp) Y:=by
 match k,h with
 | 0,_=>rfl|1,_=>rfl|2,_=>rfl
theorem FJ{k:Nat}(h:k<3):ac P (d+1) 88 [.int 2, .int k] Y= .ok (uZ E2 (EX k) H8) Y:=by
 match k,h with
 | 0,_=>rfl|1,_=>rfl|2,_=>rfl
theorem vA(h:xM may fams hds=true)(hl:heads.length=4)(hs:∀x∈heads,x∈hds)(hf:fam∈fams)(ho:fe ord):Gq ⟨fam,ord,may⟩ heads:=by
 unfold xM at h;exists bj (MT.mp h),h,h4;exists bj (MT.mp h),h,h3;exists bj (MT.mp h),h1,h2;exact⟨ho,λn hn=>zX (M8.mp h1 n hn),MU h2,MU h3,hl,λx hx=>M8.mp (M8.mp h4 fam hf) x (hs x hx)⟩
theorem LB{w k:Nat}(hw:w<3)(hk:k<3):∃fams heads may,(∀d (Y:aR),ac P (d+1) 88 [.int w, .int k] Y= .ok (uZ fams heads may) Y)/\fams.length=3/\∀fam∈fams,∀ord,fe ord->Gq ⟨fam,ord,may⟩ heads:=by
 match w,hw with
 | 0,_=>exact lZ EI DS Iw (λX X=>Gk) rfl (λfam hf ord ho=>vA LC rfl %[|1] hf ho)
 | 1,_=>exact(lZ Ci (Eu k) Jp (λX X=>FW hk) rfl (λfam hf ord ho=>vA Lp rfl (by
    match k,hk with
    | 0,_=>decide|1,_=>decide
    | 2,_=>decide) hf ho))
 | 2,_=>exact(lZ E2 (EX k) H8 (λX X=>FJ hk) rfl (λfam hf ord ho=>vA LO rfl (by
    match k,hk with
    | 0,_=>decide|1,_=>decide
    | 2,_=>decide) hf ho))
noncomputable def JO(n bag fam ord:Nat):Cg:=⟨n,n+2,n+3,n+4,n+5,bag,fam,ord⟩
noncomputable def Fy(n:Nat):List (Nat×PV):=[(`statements, .ref (n+2)),(`rows, .ref (n+3)),(`due, .ref (n+4)),(`known, .ref (n+5)),(`base, .ref (n+6)),(`held, .ref (n+7))]
noncomputable def AP:aR:=[.list [], .list [], .list [], .dictS [], .dictS [], .list []]
theorem C0(hb:Y[bag]? =some (.list [.int b])):Wd Y.length (JO Y.length bag fam ord) (Y++ .dictS (Cf (JO Y.length bag fam ord) (Y.length+6) (Y.length+7)):: .dictS (Fy Y.length)::AP) (Y.length+6) (Y.length+7) ⟨[],[],[],[],[],[]⟩ b:=by
 have hlt:=bw hb;refine⟨f0,dh (i:=2) rfl,dh (i:=3) rfl,dh (i:=4) rfl,dh (i:=5) rfl,dh (i:=6) rfl,dh (i:=7) rfl,aU hb,?_,?_,?_,?_,%[|1]⟩
 . show Y.length<=Y.length/\Y.length<=Y.length+2/\Y.length<=Y.length+3/\Y.length<=Y.length+4/\Y.length<=Y.length+5/\Y.length<=Y.length+6/\Y.length<=Y.length+7
   lia
 . show Y.length+2≠Y.length+3/\Y.length+2≠Y.length+4/\Y.length+2≠Y.length+7/\Y.length+2≠bag/\Y.length+3≠Y.length+4
   lia
 . show Y.length+3≠Y.length+7/\Y.length+3≠bag/\Y.length+4≠Y.length+7/\Y.length+4≠bag/\Y.length+7≠bag
   lia
 . show Y.length≠Y.length+5/\Y.length≠Y.length+6/\Y.length+5≠Y.length+6
   lia
theorem AF:(Y++l).set (Y.length+i) x=Y++l.set i x:=by
 rw[PE _ _ (MV ..),Pz]
theorem GC:bE call glo init [TG [],TG [],TG [],TI [] [],TI [] [],TG []] r Y=
 .ok [.ref Y.length, .ref (Y.length+1), .ref (Y.length+2), .ref (Y.length+3), .ref (Y.length+4), .ref (Y.length+5)] (Y++[.list [], .list [], .list [], .dictS [], .dictS [], .list []]):=by
 have:=ai (call:=call) (glo:=glo) (init:=init) (r:=r) (Y:=Y) (mv bA) (ai (mv bA) (ai (mv bA) (ai vQ (ai vQ (ai (mv bA) bA)))));erw[MR,Qz,QC,MH,M0,NN,N7,Nat.reduceAdd] at this;exact this
theorem DU:bE call glo init [TG [],TG [],TG [],TI [] [],TI [] [],TG []] r (Y++[a]++[b])=
 .ok [.ref (Y.length+2), .ref (Y.length+3), .ref (Y.length+4), .ref (Y.length+5), .ref (Y.length+6), .ref (Y.length+7)] (Y++a::b::AP):=by
 have:=GC (call:=call) (glo:=glo) (init:=init) (r:=r) (Y:=Y++[a]++[b]);rw[show(Y++[a]++[b]).length=Y.length+2 by erw[MH,MH];rfl] at this;refine this.trans (congrArg _ ?_);rw[MR,MR];rfl
theorem Iq{bag w:Nat}(hb:Y[bag]? =some (.list [.int b]))(hw:w<3):∃(U:A8) (J:Cg) (s:aR) (ba he:Nat) (W:WS) (b':Int),ac P (d+5) 100 [.int w, .ref bag] Y= .ok (.ref J.w) s/\Wd Y.length J s ba he W b'/\WA U W 7/\W.he=[]/\J.fam=U.fam/\J.ord=U.ord/\fe U.ord/\WB Y.length bag Y s:=by
 exists gR (d:=d+3) (m:=3) hb %[|1] %[|1],k,b1,hk,e1;exists fF (LB hw hk),fams,heads,may,hsort,hfl,hkind;have h1:(Y.set bag (.list [.int b1]))[bag]? =some (.list [.int b1]):=bJ hb;have L1:(Y.set bag (.list [.int b1])).length=Y.length:=ND ..;have B1:WB Y.length bag Y (Y.set bag (.list [.int b1])):= .setBag;generalize Y.set bag (.list [.int b1])=Y1 at*;exists gR (d:=d+3) (m:=3) (aU (g:=[.dictS []]) h1) %[|1] %[|1],k2,b2,hk2,e2;erw[RP _ _ (bw h1)] at e2;have h2:(Y1.set bag (.list [.int b2]))[bag]? =some (.list [.int b2]):=bJ h1;have L2:(Y1.set bag (.list [.int b2])).length=Y.length:=(ND ..).trans L1;have B2:=B1.trans (WB.setBag (N:=Y.length) (o:= .list [.int b2]));generalize Y1.set bag (.list [.int b2])=Y2 at*;have hkf:k2<fams.length:=by lia
 have hix:dk (.tup (fams.map .str)) (.int k2) (Y2++[.dictS []])= .ok (.str fams[k2]) (Y2++[.dictS []]):=vP (by erw[Ny,MX hkf];rfl);have hfm:=PA hkf;generalize fams[k2]=fam at*;exists gR (d:=d+3) (m:=2) (aU (g:=[.dictS []]) h2) %[|1] %[|1],k3,b3,hk3,e3;erw[RP _ _ (bw h2)] at e3;have h3:(Y2.set bag (.list [.int b3]))[bag]? =some (.list [.int b3]):=bJ h2;have L3:(Y2.set bag (.list [.int b3])).length=Y.length:=(ND ..).trans L2;have B3:=B2.trans (WB.setBag (N:=Y.length) (o:= .list [.int b3]));generalize Y2.set bag (.list [.int b3])=Y3 at*;exists uA (Y:=Y3++[.dictS []]) (x:=`little) (y:=`big) hk3,ord,hord,hix3;have ho:fe ord:=by
  exists N0 hord (λh=>?_),h
  . exact .inr h
  . exact .inl h
 have K:=hkind fam hfm ord ho;have x2:=Dx (call:=ac P (d+4)) (glo:=P.glo) (init:=P.init) (Y:=Y1) (r:=%[.int w,.ref bag,.tup (fams.map .str),.tup (heads.map .str),.tup (may.map ah)|3]) (k:=`family) (ks:=[`order]) (es:=[Tv (Tr 2) (Tx 86 [Tr 1,Ts 3]),Tv (Tu [Tt `little,Tt `big]) (Tx 86 [Tr 1,Ts 2])])
  (ai (cW (av rfl) (bu rfl e2) hix) (ai (cW rfl (bu rfl e3) hix3) bA)) (by erw[L1, <-L3];exact aM) rfl
 rw[show(Y3++[aC.dictS []]).set Y1.length (.dictS ([`family,`order].zip [.str fam, .str ord]))=Y3++[.dictS [(`family, .str fam),(`order, .str ord)]] by erw[L1, <-L3];exact eI] at x2;have l1:(Y3++[aC.dictS [(`family, .str fam),(`order, .str ord)]]).length=Y3.length+1:=by rw[MH];rfl
 have x3:=Dx (call:=ac P (d+4)) (glo:=P.glo) (init:=P.init) (k:=`statements) (ks:=[`rows,`due,`known,`base,`held]) (r:=%[.int w,.ref bag,.tup (fams.map .str),.tup (heads.map .str),.tup (may.map ah),.ref Y3.length|2]) (DU (Y:=Y3) (a:= .dictS [(`family, .str fam),(`order, .str ord)])) (by refine l1▸?_;exact dh (l:=aC.dictS [(`family, .str fam),(`order, .str ord)]:: .dictS []::AP) (i:=1) rfl) rfl;erw[l1,AF] at x3;have x5:=(Et (call:=ac P (d+4)) (glo:=P.glo) (init:=P.init) (o:= .loc 5) rfl (f0 (Y:=Y3) (l:=[])) x3 (f0 (Y:=Y3)) (dh (Y:=Y3) (i:=1) rfl) %[|0] (MU rfl)).trans (congrArg _ (eI (Y:=Y3) (o:= .dictS [(`family, .str fam),(`order, .str ord)]) (l:= .dictS (Fy Y3.length)::AP) (o':= .dictS (Cf (JO Y3.length bag fam ord) (Y3.length+6) (Y3.length+7)))));have R:=C0 (fam:=fam) (ord:=ord) h3;have B5:WB Y.length bag Y (Y3++ .dictS (Cf (JO Y3.length bag fam ord) (Y3.length+6) (Y3.length+7)):: .dictS (Fy Y3.length)::AP):=B3.trans (.app (QL L3.symm));generalize Y3++aC.dictS (Cf (JO Y3.length bag fam ord) (Y3.length+6) (Y3.length+7))::aC.dictS (Fy Y3.length)::AP=Y5 at*;exists v9 (d:=d) (J:=JO Y3.length bag fam ord) (k:=6) (c:=0) K rfl rfl R MB rfl (r0:=some (.int w)) (r2:=some (.tup (fams.map .str))) (r6:=none) (r7:=none),W6,s6,ba6,he6,b6,z6,z7,e6,R6,w6,B6;rw[L3] at R6 B6 e6 x5;rw[L1] at x2;have z:=w6.sz K.ord %[|0];exists cps,Gz,Kz;exists DV (kz (d:=d+2) R6 z),s7,ba7,he7,b7,e7,R7,B7;have hne:=R7.new_ne (MZ _);obtain⟨z1,z2,z3,z4⟩:=z;exists DV (xP (d:=d+3) (R7.app (g:=[.list [dj.vrd.pv]])) (st:= .vrd) aM hne.1 hne.2.1 hne.2.2.1 %[|0] (by erw[MH,MN];lia) %[|0]),s9,ba9,he9,b9,e9,R9,B9;refine Kz ?_;refine⟨⟨fam,ord,may⟩,JO Y.length bag fam ord,s9,ba9,he9,W6.plain .vrd [dj.vrd.pv],b9,aG 100 [.int ↑w, .ref bag] Y [0,1,1] e1 (hsort (d+3) Y1) x2 x5 (ke %[|1]) e6 (cq R6 rfl) (oB R6) e7 e9,R9,w6.vrd (MZ _),rfl,rfl,rfl,ho,(((B5.trans B6).trans B7).trans (.app R7.low)).trans B9⟩
end
mutual
noncomputable def dat:PV->Nat->Bool
 | .none,_=>true|.int _,_=>true|.str _,_=>true|.bytes _,_=>true|.tup a,n+1=>BA a n|_,_=>false
noncomputable def BA:List PV->Nat->Bool
 | [],_=>true|a::as,n=>dat a n&&BA as n
end
theorem lp(ih:∀v,dat v n=true->PV.eq3 v v n=some true):∀l,BA l n=true->PV.eqs3 l l n=some true:=by
 intro l
 induction l with
 | nil=>
   intro _;exact rfl
 | cons a as lp=>
   intro h;refine bj (MT.mp (show(dat a n&&BA as n)=true from h)) λh1 h2=>?_;show((PV.eq3 a a n).bind λx=>(PV.eqs3 as as n).map λy=>x&&y)=_;erw[ih a h1,lp h2];rfl
theorem vq:∀{n:Nat} (v:PV),dat v n=true->PV.eq3 v v n=some true
 | _, .none,_=>rfl|_, .int a,_=>congrArg some (beq_self_eq_true a)|_, .str a,_=>congrArg some (beq_self_eq_true a)|_, .bytes a,_=>congrArg some (beq_self_eq_true a)|n+1, .tup a,h=>by
   exact lp (λv hv=>vq v hv) a h
theorem qz:∀{l:List PV},(∀v∈l,dat v n=true)->BA l n=true:=by
 intro l
 induction l with
 | nil=>
   intro _;exact rfl
 | cons a as qz=>
   intro h;show(dat a n&&BA as n)=true;rw[h a (.head _),qz λv hv=>h v (.tail _ hv)];rfl
theorem oh(h:v∈bB n):dat v 29=true:=by
 rcases MW.mp h with rfl | h
 . unfold bU
   split
   . rfl
   . split
     . rfl
     . split<;>rfl
 . rcases MW.mp h with rfl | h
   . rfl
   . cases h
theorem i3:∀{l L:List (Nat×Nat)},v∈dO L l->dat v 29=true:=by
 intro l
 induction l with
 | nil=>
   intro _ h;cases h
 | cons n l i3=>
   intro L h;unfold dO at h;split at h
   . exact i3 h
   . exists N0 (M5.mp h) (λh=>?_),h
     . exact oh h
     . exact i3 h
theorem wH(h:v∈dw many above bits):dat v 29=true:=by
 unfold dw at h;rcases M5.mp h with h | h
 . split at h
   . rcases MW.mp h with rfl | h
     . rfl
     . cases h
   . cases h
 . split at h
   . rcases MW.mp h with rfl | h
     . rfl
     . cases h
   . cases h
theorem ku{v w:PV}(h:v∈[w]):v=w:=by
 exists N0 (MW.mp h) (λh=>?_),h
 . exact h
 . cases h
theorem JA:∀{st:dj},v∈st.rows fam ord L->dat v 29=true
 | .fld _ (.pay _ bits proto base first) op n,h=>by
   rcases M5.mp h with h | h
   . unfold lO at h
     exists N0 (M5.mp h) (λh=>?_),h
     . exact i3 h
     . rcases MW.mp h with rfl | h
       . rfl
       . exact wH h
   . rw[ku h];rfl
 | .fld _ (.met _ bits od key) op n,h=>by
   rcases M5.mp h with h | h<;>rw[ku h]<;>rfl
 | .msk nm n,h=>by
   rcases M5.mp h with h | h
   . rcases MW.mp h with rfl | h
     . exact oh (n:=(nm,n)) (.head _)
     . rw[ku h];rfl
   . rw[ku h];rfl
 | .vrd,h=>by rw[ku h];rfl
theorem qJ:∀{l:List dj} {L:List (Nat×Nat)},v∈bV fam ord L l->dat v 29=true:=by
 intro l
 induction l with
 | nil=>
   intro _ h;cases h
 | cons st l qJ=>
   intro L h;exists N0 (M5.mp h) (λh=>?_),h
   . exact JA h
   . exact qJ h
theorem FG{l:List dj}(h:v∈l.map dj.pv):dat v 29=true:=by
 exists aA (Nd.mp h),st,X,rfl
 cases st with
 | fld nm fi op n=>rfl|msk nm n=>rfl|vrd=>rfl
section
variable{Y s:aR}{d:Nat}
theorem yr(h1:Y[a]? =some (.list l))(h2:Y[c]? =some (.list l))(hd:∀v∈l,dat v 29=true):b8 .ne (.ref a) (.ref c) Y= .ok (.bool false) Y:=by
 show((q6 (.ref a) (.ref c)).bnd _) Y=_
 rw[ag (a:=true) (s':=Y) (by
  show((cO a).bnd _) Y=_
  rw[ag (a8 h1)];show mu c _ Y=_;rw[dP h2]
  rw[if_pos (beq_self_eq_true _),lp (λv hv=>vq v hv) l (qz hd)];rfl)]
 rfl
theorem Eh(h1:Y[a]? =some (.dictS []))(h2:Y[c]? =some (.dictS [])):b8 .ne (.ref a) (.ref c) Y= .ok (.bool false) Y:=by
 show((q6 (.ref a) (.ref c)).bnd _) Y=_
 rw[ag (a:=true) (s':=Y) (by
  show((cO a).bnd _) Y=_
  rw[ag (a8 h1)];show AT c _ Y=_
  rw[sB h2];rfl)]
 rfl
theorem Ax(hd:∀v∈l,dat v 29=true):q6 (.tup l) (.tup l) Y= .ok true Y:=by
 show aZ (PV.eqs3 l l 29) Y=_
 refine(lp (λv hv=>vq v hv) l (qz hd))▸?_;rfl
theorem vM(hd:∀v∈l,dat v 29=true):b8 .ne (.tup l) (.tup l) Y= .ok (.bool false) Y:=by
 show((q6 (.tup l) (.tup l)).bnd _) Y=_
 refine(ag (Ax hd))▸?_;rfl
theorem Hf(hd:∀v∈l,dat v 29=true):b8 .eq (.tup l) (.tup l) Y= .ok (.bool true) Y:=by
 show((q6 (.tup l) (.tup l)).bnd _) Y=_
 refine(ag (Ax hd))▸?_;rfl
theorem tj:ac P (d+1) 84 [] Y= .ok (.ref Y.length) (Y++[.dictS eYq0]):=
 eC (r:=[]) rfl rfl rfl (nb (wj (sK (vs:=eYq0.map (·.2)) rfl rfl)))
theorem lh:ac P (d+1) 76 [a,b,c,e] Y=ac P (d+1) 76 [a,b,c,e, .str `little, .none, .tup []] Y:=rfl
end
section
variable{N:Nat}{J:Cg}{Y s:aR}{ba he:Nat}{W:WS}{b:Int}{d:Nat}{U:A8}
theorem mF(w:WA U W 7)(hW:W.he=[])(ho:fe U.ord)(hc:rO Y ca ce)(hq:Y[q]? =some (.list W.rows))(Kz:∀s,ac P (d+8) 76 [.fd (aF KF), .str U.fam, .ref q, .ref se, .str U.ord,ca, .tup []] Y= .ok (.tup (W.due.map dj.pv)) s->Fr [] Y s->Gz):Gz:=by
 exists eB (w.wi Y.length (iT Y.length se ce U.fam U.ord 0) (fV Y.length) (Cz ho) rfl rfl DG rfl rfl).rd,D',r,v,e,X;erw[hW] at v;exists nz (d:=d) (F:=KF) hc hq r v.good,s,k,F;have:(cK D').sts.map (·.2)=W.due.map dj.pv:=by
  show(D'.sts++D'.pd.map iL).map (λe:Nat×PV=>e.2)=_
  refine(show D'.pd=[] from v.pd)▸?_;show(D'.sts++[]).map (λe:Nat×PV=>e.2)=_;erw[M3,e];rfl
 rw[this] at k;exact Kz s k F
theorem vh(R:Wd N J Y ba he W b)(w:WA U W 7)(hW:W.he=[])(hf:J.fam=U.fam)(ho:J.ord=U.ord)(hord:fe U.ord)(Kz:∀s,ac P (d+11) 101 [.fd (aF KF), .ref J.w] Y= .ok (.bool true) s->Fr [] Y s->Gz):Gz:=aA (show∃s,ac P (d+11) 101 [.fd (aF KF), .ref J.w] Y= .ok (.bool true) s/\Fr [] Y s from by
 have x:=w.one hord;have hrows:∀v∈W.rows,dat v 29=true:=λv hv=>qJ (by rw[x.r1];exact hv);have hr2:bV U.fam U.ord [] W.due=W.rows:=by
  have:=x.r2;rw[hW] at this;erw[<-this];show _=bV U.fam U.ord [] (W.due++[]);rw[M3]
 have R1:=R.app (g:=[.dictS eYq0]);have hm1:(Y++[aC.dictS eYq0])[Y.length]? =some (.dictS eYq0):=aM;generalize hs1:Y++[aC.dictS eYq0]=Y1 at*;have hbo:=hord;exists pI (d:=d) nG.kok (fam:=U.fam) (ord:=U.ord) (mk:=Y.length) (src:= .ref J.st) (sts:=W.sts) hbo (.inr (aE _ rfl R1.st)) hm1 x.ok1 (by have:=x.n1;lia),s2,a,p,k2,ha,hp,F2,X,X;rw[x.r1] at ha;have R2:=R1.fr F2;have R3:=R2.app (g:=[.dictS []]);have ha3:=aU (g:=[.dictS []]) ha;have F3:Fr [] Y (s2++[.dictS []]):=((show Fr [] Y Y1 from hs1▸ .app).trans F2).trans .app;have n1:=yr ha R2.ro hrows;have n2:=Eh (aU (g:=[.dictS []]) hp) (aM (Y:=s2));have hm3:=aU (g:=[.dictS []]) (F2.get hm1 MS);have dct3:∀{r:UG},af (ac P (d+10)) P.glo P.init (TI [] []) r s2= .ok (.ref s2.length) (s2++[.dictS []]):=vQ;generalize s2++[aC.dictS []]=Y3 at*;exists mF (d:=d+2) w hW hord (q:=a) (se:=p) (ce:=Y3.length) (ca:= .ref Y3.length) (.inr ⟨rfl,aM (Y:=Y3)⟩) (aU ha3),s4,k4,F4;have R5:=(R3.app (g:=[.dictS []])).fr F4;have ha5:=F4.get (aU (g:=[.dictS []]) ha3) MS;have hdue:∀v∈W.due.map dj.pv,dat v 29=true:=λv hv=>FG hv;have hm5:=F4.get (aU (g:=[.dictS []]) hm3) MS;exists pI (d:=d) (Y:=s4) nG.kok (fam:=U.fam) (ord:=U.ord) (mk:=Y.length) (src:= .tup (W.due.map dj.pv)) (sts:=W.due) hbo (.inl rfl) hm5 x.ok2 (by have:=x.n2;lia),s6,a6,p6,k6,ha6,hp6,F6,X,X;rw[hr2] at ha6;have R6:=R5.fr F6;have n6:=yr ha6 (F6.get ha5 MS) hrows;have F7:=((F3.trans .app).trans F4).trans F6;have mkt:nW (.ref J.du) s4= .ok (.tup (W.due.map dj.pv)) s4:=by
  show((cO J.du).bnd _) s4=_
  rw[ag (a8 R5.du)];rfl
 erw[<-hf, <-ho] at k2 k4 k6
 have pre:∀{o},ax (ac P (d+10)) P.glo P.init (dS.drop 5) %[.fd (aF KF),.ref J.w,.ref Y.length,.ref a,.ref p,.tup (W.due.map dj.pv)|0] s6=o->ax (ac P (d+10)) P.glo P.init dS %[.fd (aF KF),.ref J.w|4] Y=o:=λh=>
  aD (cT (bu bA (by erw[<-hs1];exact tj)))
  (aD (u5 (r':=%[.fd (aF KF),.ref J.w,.ref Y.length,.ref a,.ref p|1]) (bu (ai (av rfl) (ai (av rfl) (ai (cW (av rfl) bC (cq R1 rfl)) (ai (cW (av rfl) bC (cq R1 rfl)) (ai (cW (av rfl) bC (cq R1 rfl)) bA))))) k2) rfl rfl)
  (aD (mq (AM (xL (hZ (av rfl) (cW (av rfl) bC (cq R2 rfl)) n1) (xL (hZ (av rfl) dct3 n2) yA))) cM)
  (aD (cT (bu (ai (av rfl) (ai (cW (av rfl) bC (cq R3 rfl)) (ai (av rfl) (ai (av rfl) (ai (cW (av rfl) bC (cq R3 rfl)) rfl))))) k4))
  (aD (mq (AM (xL (hZ (av rfl) (Gs (cW (av rfl) bC (cq R5 rfl)) mkt) (vM hdue)) (xL (hZ (cW (bu (ai (av rfl) (ai (av rfl) (ai (cW (av rfl) bC (cq R5 rfl)) (ai (av rfl) (ai (cW (av rfl) bC (cq R5 rfl)) bA))))) k6) bX rfl) (av rfl) n6) yA))) cM) h))))
 rcases hbo with q | q
 . exact(aE s6 (aG 101 [.fd (aF KF), .ref J.w] Y [3] (pre (cE (N6 5 dS) %[T0 (aF KF),TH J.w,TH (Nb Y),TH a,TH p,TY (Pa dj.pv W.due)|0] s6 [] (cq R6 rfl) (cH (t:=true) (by rw[ho,q];rfl))))) F7)
 . exists mF (d:=d+2) w hW hord (q:=a) (se:=s6.length) (ce:=(s6++[aC.dictS []]).length+1) (ca:= .none) (.inl ⟨rfl,rfl⟩) (aU (g:=[.dictS []]) (F6.get ha5 MS)),s8,k8,F8
   rw[<-hf,q, <-lh] at k8
   exact(aE s8 (aG 101 [.fd (aF KF), .ref J.w] Y [3] (pre (cE (N6 5 dS) %[T0 (aF KF),TH J.w,TH (Nb Y),TH a,TH p,TY (Pa dj.pv W.due)|0] s6 [] (cq R6 rfl) (cH (t:=false) (by rw[ho,q];decide)) (cq R6 rfl) k8 (Hf hdue)))) ((F7.trans .app).trans F8))) Kz
end
section
variable{N:Nat}{K:List (Nat×PV)}{F:List (Nat×FI)}{I:kL}{Y s:aR}{D:fp}{d:Nat}
def FZ(N:Nat)(K:List (Nat×PV))(I:kL)(D:fp)(x m:PV):Prop:=∀d Y pe dr,Rd N K I Y {D with pe:=pe,dr:=dr}->∀r0 r1 r2 r3 r4 r5 r6 r9 r10 z,∃s,ax (ac P (d+7)) P.glo P.init (aQ aO 5) [r0,r1,r2,r3,r4,r5,r6,some (.ref I.p),some (.ref I.bk),r9,r10,some x,z] Y= .exn m s/\ju N Y s
theorem rB(hl:I.bd.lookup tag=some (.fn f))(h:∀d Y pe dr,Rd N K I Y {D with pe:=pe,dr:=dr}->∃s,ac P (d+7) f [.ref I.p, .tup (.str tag::l)] Y= .exn m s/\ju N Y s):FZ N K I D (.tup (.str tag::l)) m:=λd Y pe dr R r0 r1 r2 r3 r4 r5 r6 r9 r10 z=>by
 exists aA (h d Y pe dr R),s,k,B;exact(aE s (vX R hl (cE (N6 2 (aQ aO 5)) [r0,r1,r2,r3,r4,r5,r6,some (.ref I.p),some (.ref I.bk),r9,r10,some (.tup (.str tag::l)),some (.fn f)] Y [] k)) B)
theorem CK(hl:I.bd.lookup tag=none)(hc:∀s,bS .add (.str 8829028804713842567975930444577) (.str tag) s= .ok (.str nm) s):FZ N K I D (.tup (.str tag::l)) (.str nm):=λd Y pe dr R r0 r1 r2 r3 r4 r5 r6 r9 r10 z=>by
 have hn:=nB (k:=tag) R.backs;rw[hl] at hn;exact aE Y (cE (aQ aO 5) [r0,r1,r2,r3,r4,r5,r6,some (.ref I.p),some (.ref I.bk),r9,r10,some (.tup (.str tag::l)),z] Y [] vx hn vx (hc Y)) .refl
theorem rZ(hc:rO Y ca ce)(hq:Y[q]? =some (.list (pre++x::tl)))(y:dD Y.length (aF F) (iT Y.length se ce fam ord rg) (fV Y.length) pre D2)(g:FZ Y.length (aF F) (iT Y.length se ce fam ord rg) D2 x m):
 ∃s,ac P (d+8) 76 [.fd (aF F), .str fam, .ref q, .ref se, .str ord,ca, .tup []] Y= .exn m s/\Fr [] Y s:=by
 exists Gm,Gz,Kz;exists nK (d:=d) (K:=aF F) (fam:=fam) (ord:=ord) (rg:=rg) (se:=se) (q:=q) hc,w,pre';exists nh (d:=d) (bw hq) (r0:=some (.fd (aF F))) (r1:=some (.str fam)) (r2:=some (.ref q)) (r3:=some (.ref se)) (r4:=some (.str ord)) (r5:=some ca) (r6:=some (.tup [])) (r9:=some (.ref (Y.length+8))) (r10:=w) (i:=0) (f:=(pre++x::tl).length+1) (z1:=none) (z2:=none) y (nH (K:=aF F) (fam:=fam) (ord:=ord) (rg:=rg) (se:=se) hc) (aU hq) rfl (by rw[MH];lia) (λY pe dr R z=>g d Y pe dr R _ _ _ _ _ _ _ _ _ z),s1,k1,B1;exact(Kz _ (aG 76 ([.fd (aF F), .str fam, .ref q, .ref se, .str ord,ca, .tup []]) Y [3] (pre' (cE (N6 5 aO) (%[T0 (aF F),TN fam,TH q,TH se,TN ord,ca,TY [],TH (Nb Y),TH (Nb Y+7),TH (Nb Y+8)|[w,none,none]]) (Y++i7 (aF F) (Nb Y) (iT (Nb Y) se ce fam ord rg)) [] (show pc false (.ref q) (Y++i7 (aF F) Y.length (iT Y.length se ce fam ord rg))= .ok (.lst q 0,(pre++x::tl).length) _ from ey (aU hq)) k1))) (⟨MO (by erw[MH];lia) B1.1,λi hi X=>(B1.2 i hi).trans (Nc hi)⟩))
theorem rH(R:Rd N K I Y D)(hp:D.pd=[]):gV N K I Y D (ac P (d+1) 40 [.ref I.p] Y) .none:=by
 have hpe:=R.pend;rw[hp] at hpe;have R2:=R.newPend (l:=[]) %[|1];have e:({D with pe:=Y.length,pd:=[]}:fp)={D with pe:=Y.length}:=by erw[<-hp]
 refine(wa _ (Y.length) D.dr (aG 40 [.ref I.p] Y [] (aJ R.obj rfl) (show pc false (.ref D.pe) Y= .ok (.lst D.pe 0,0) Y from ey hpe) (gz (mY hpe rfl)) (gM (R.app (g:=[.list []])).obj (MU rfl))) ?_ ((ju.app R.low).trans (.set R.above.1)));rw[e] at R2;exact R2
theorem As(R:Rd N K I Y D)(hp:D.pd=[])(hs:D.sts=[]):gV N K I Y {D with sts:=[(D.at_,v)]} (ac P (d+2) 41 [.ref I.p,v] Y) .none:=by
 exists xU (rH (d:=d) R hp),s,pe,dr,k,R1,B1;have hst:=R1.stat;rw[show({D with pe:=pe,dr:=dr}:fp).sts=[] from hs] at hst;exact wa _ _ _ (aG 41 [.ref I.p,v] Y [] k (aJ R1.obj rfl) (aJ R1.obj rfl) (lT (d:=d) (v:=v) (a:=D.at_) (es:=[]) hst (λe he=>absurd he MS) %[|1])) (R1.setStat (l:=[(D.at_,v)]) (by show 1<1000;decide)) (B1.trans (.set R.above.2.2.2.2.2))
noncomputable def sG:Nat:=`«a need that no field asked for»
noncomputable def vg:Nat:=`«no cell of this kind and place was told»
theorem Ej(R:Rd N K I Y D)(hp:D.pd=[q])(hrg:I.rg≠0):ac P (d+1) 40 [.ref I.p] Y= .exn (.str sG) Y:=by
 have hpe:=R.pend;rw[hp] at hpe;exact aG 40 [.ref I.p] Y [] (aJ R.obj rfl) (show pc false (.ref D.pe) Y= .ok (.lst D.pe 0,1) Y from ey hpe) (H3 (pH hpe rfl) rfl (tQ [] λw=>w rfl (pT (UE %[|0]))))
theorem sL(R:Rd N K I Y D)(hp:D.pd=[])(hd:D.dp=[]):gV N K I Y D (ac P (d+2) 42 [.ref I.p,v] Y) .none:=by
 exists xU (rH (d:=d) R hp),s,pe,dr,k,R1,B1;have hdr:=R1.drop;rw[show({D with pe:=pe,dr:=dr}:fp).dp=[] from hd] at hdr;have e:({D with pe:=pe,dr:=s.length,dp:=[]}:fp)={D with pe:=pe,dr:=s.length}:=by rw[<-hd]
 have it0:pc false (.ref dr) s= .ok (.lst dr 0,0) s:=ey hdr;refine(wa _ pe s.length (aG 42 [.ref I.p,v] Y [] k (aJ R1.obj rfl) it0 (gz (mY hdr rfl)) (gM (R1.app (g:=[.list []])).obj (MU rfl))) ?_ ((B1.trans (.app R1.low)).trans (.set R.above.1)));have R3:=R1.newDrop;rw[e] at R3;exact R3
theorem kG(h:decide (a≠b)=t):b8 .ne (.str a) (.str b) Y= .ok (.bool t) Y:=by
 subst h;rw[decide_not];exact Ak (cH rfl)
theorem xX(ht:tag≠`counter)(R:Rd N K I Y D)(hp:D.pd=[])(hd:D.dp=[]):∃s,ac P (d+3) 73 [.ref I.p, .tup [.str tag, .int rg]] Y= .exn (.str vg) s/\ju N Y s:=by
 exists xU (sL (d:=d) (v:= .int rg) R hp hd),s,pe,dr,k,R1,B1;exact(aE s (aG 73 ([.ref I.p, .tup [.str tag, .int rg]]) Y [] rfl k (aJ R1.obj rfl) (lS R1.cells) rfl (Ae R1.cells) rfl rfl rfl (kG (UE (Ni ht)))) B1)
theorem Hn(R:Rd N K I Y D)(hp:D.pd=[])(hd:D.dp=[])(hs:D.sts=[]):gV N K I Y {D with sts:=[(D.at_, .tup [.str `counter, .int 0, .int 0])]} (ac P (d+3) 73 [.ref I.p, .tup [.str `counter, .int rg]] Y) .none:=by
 exists xU (sL (d:=d) (v:= .int rg) R hp hd),s,pe,dr,k,R1,B1;exists xU (As (d:=d) (v:= .tup [.str `counter, .int 0, .int 0]) R1 hp hs),s2,pe2,dr2,k2,R2,B2;exact wa s2 pe2 dr2 (aG 73 ([.ref I.p, .tup [.str `counter, .int rg]]) Y [] rfl k (aJ R1.obj rfl) (lS R1.cells) rfl (Ae R1.cells) rfl rfl rfl (kG (t:=false) %[|1]) k2) R2 (B1.trans B2)
theorem xa(R:Rd N K I Y D):gV N K I Y {D with slot:=some (.tup [.tup [.str `raw, .bytes l], .str `big, .int l.length])} (ac P (d+1) 60 [.ref I.p, .tup [.str `immediate, .int I.rg, .bytes l]] Y) .none:=
 (wa _ D.pe D.dr (aG 60 ([.ref I.p, .tup [.str `immediate, .int ↑I.rg, .bytes l]]) Y [] rfl rfl rfl (aJ R.obj rfl) rfl (lc R)) R.setSlot (.set R.above.2.1))
theorem tO(R:Rd N K I Y D){nm od many:Nat}(hs:D.slot=some (.tup [aH nm, .str od, .int many]))(ho:fe (f5 od I.ord))(hl:gU l)(hm:gU m)(h0:bH (bZ (f5 od I.ord) m)≠0)(h1:bH (bZ (f5 od I.ord) l)≠256^many - 1)
 (hx:∀s,bS .bxor (.int ((256^many - 1:Nat):Int)) (.int (bH (bZ (f5 od I.ord) m))) s= .ok (.int x) s) (h2:(bH (bZ (f5 od I.ord) l):Int)≠x) (hmm:many<=20):
 ∃s,ac P (d+4) 61 [.ref I.p,eG I.rg l m] Y= .exn (.str yG) s/\ju N Y s:=by
 exists j4 (d:=d) R (od:=od) ho hl hm,g1,k1;have e5:bc (ac P (d+3)) P.glo P.init (TK [5,6] (Tu [Tx 51 [Tr 0,Tv (Tr 1) (Ts 3),Tr 3],Tx 51 [Tr 0,Tv (Tr 1) (Ts 4),Tr 3]])) %[.ref I.p,eG I.rg l m,aH nm,.str od,.int many|10] Y=
  .ok (.nxt,%[.ref I.p,eG I.rg l m,aH nm,.str od,.int many,.int (bH (bZ (f5 od I.ord) l)),.int (bH (bZ (f5 od I.ord) m))|8]) (Y++g1):=wy [1] λw=>w (k1 rfl rfl rfl)
 exact aE _ (aG 61 [.ref I.p,eG I.rg l m] Y [0,2] rfl (lz R hs) e5 (gp (a:=8) (b:=many) %[|1] %[|0]) (ja (a:=1) (b:=8*many) %[|0] %[|1]) lU rfl rfl (fT (UF %[|0])) (fT (UF %[|0])) (hx _) (fT (UF h2))) (.app R.low)
end
section
variable{Y s:aR}{d:Nat}
theorem Df(e:ax call glo init b r Y= .ok p s):bc call glo init (.tryRet b i h) r Y= .ok p s:=by
 show(match ax call glo init b r Y with
  | .ok p s'=> .ok p s'|.exn m s'=>match ax call glo init h (r.set i (some m)) s' with
    | .ok p s''=> .ok (p.1,[]) s''|.exn m s''=> .exn m s''|.bad=> .bad
  | .bad=> .bad:iR (Fl×UG))=_
 rw[e]
theorem BV(e:ax call glo init b r Y= .exn m s)(e2:ax call glo init h (r.set i (some m)) s= .ok p s'):bc call glo init (.tryRet b i h) r Y= .ok (p.1,[]) s':=by
 show(match ax call glo init b r Y with
  | .ok p s'=> .ok p s'|.exn m s'=>match ax call glo init h (r.set i (some m)) s' with
    | .ok p s''=> .ok (p.1,[]) s''|.exn m s''=> .exn m s''|.bad=> .bad
  | .bad=> .bad:iR (Fl×UG))=_
 rw[e];dsimp only;rw[e2]
theorem oG(hc:rO Y ca ce)(hq:Y[q]? =some (.list rows))(x:dD Y.length (aF F) (iT Y.length se ce fam ord rg) (fV Y.length) rows D2)(hp:D2.pd=[])(hl:D2.sts.length<1000)(Kz:(∀s,ac P (d+8) 76 [.fd (aF F), .str fam, .ref q, .ref se, .str ord,ca, .tup []] Y= .ok (.tup (D2.sts.map (·.2))) s->Fr [] Y s->Gz)):Gz:=by
 exists nK (d:=d) (K:=aF F) (fam:=fam) (ord:=ord) (rg:=rg) (se:=se) (q:=q) hc,w,pre;exists iZ (d:=d) (bw hq) (r0:=some (.fd (aF F))) (r1:=some (.str fam)) (r2:=some (.ref q)) (r3:=some (.ref se)) (r4:=some (.str ord)) (r5:=some ca) (r6:=some (.tup [])) (r9:=some (.ref (Y.length+8))) (r10:=w) (i:=0) (f:=rows.length+1) (z1:=none) (z2:=none) x (nH (K:=aF F) (fam:=fam) (ord:=ord) (rg:=rg) (se:=se) hc) (aU hq) rfl %[|0],s1,pe1,dr1,z1,z2,k1,R1,B1;exists xU (rH (d:=d+6) R1 hp),s2,pe2,dr2,k2,R2,B2;have hstat:=R2.stat;have hcomp:=kP (call:=ac P (d+7)) (glo:=P.glo) (init:=P.init) (Y:=s2) (r:=%[.fd (aF F),.str fam,.ref q,.ref se,.str ord,ca,.tup [],.ref Y.length,.ref (Y.length+7),.ref (Y.length+8)|[w,z1,z2]]) (elt:=Tv (Tr 0) (Ts 1)) (isR:=false) (src:= .attr (.loc 7) `statements) (n:=(D2.sts.map gB).length) (xs:=D2.sts.map gB)
  (λx=>match x with | .tup [_,v]=>v | _=> .none) (cQ (av rfl) R2.obj rfl) (ey hstat) rfl (nk (i:=0) hstat rfl) (by rw[MN];lia) λx hx=>by
    exists aA (Nd.mp hx),e,X,rfl;exact dn λw=>w rfl
 have hm:(D2.sts.map gB).map (λx:PV=>match x with | .tup [_,v]=>v | _=> .none)=D2.sts.map (·.2):=by rw[NL];rfl
 rw[hm] at hcomp;have hmk:nW (.ref s2.length) (s2++[.list (D2.sts.map (·.2))])= .ok (.tup (D2.sts.map (·.2))) (s2++[.list (D2.sts.map (·.2))]):=by
  show((cO s2.length).bnd _) _=_
  rw[ag (a8 aM)];rfl
 have hrows:pc false (.ref q) (Y++i7 (aF F) Y.length (iT Y.length se ce fam ord rg))= .ok (.lst q 0,rows.length) _:=ey (aU hq);have Bf:∀{s:aR},ju Y.length (Y++i7 (aF F) Y.length (iT Y.length se ce fam ord rg)) s->Fr [] Y s:=λB=>⟨MO (by erw[MH];lia) B.1,λi hi X=>(B.2 i hi).trans (Nc hi)⟩;exact(Kz _ (aG 76 ([.fd (aF F), .str fam, .ref q, .ref se, .str ord,ca, .tup []]) Y [3] (pre (cE (N6 5 aO) (%[T0 (aF F),TN fam,TH q,TH se,TN ord,ca,TY [],TH (Nb Y),TH (Nb Y+7),TH (Nb Y+8)|[w,none,none]]) (Y++i7 (aF F) (Nb Y) (iT (Nb Y) se ce fam ord rg)) [] hrows k1 k2 hcomp hmk))) ((Bf (B1.trans B2)).trans .app))
theorem qq(hc:rO Y ca ce)(hq:Y[q]? =some (.list rows))(x:dD Y.length (aF F) (iT Y.length se ce fam ord rg) (fV Y.length) rows D2)(hp:D2.pd=[p])(hrg:rg≠0):
 ∃s,ac P (d+8) 76 [.fd (aF F), .str fam, .ref q, .ref se, .str ord,ca, .tup []] Y= .exn (.str sG) s/\Fr [] Y s:=by
 exists Gm,Gz,Kz;exists nK (d:=d) (K:=aF F) (fam:=fam) (ord:=ord) (rg:=rg) (se:=se) (q:=q) hc,w,pre;exists iZ (d:=d) (bw hq) (r0:=some (.fd (aF F))) (r1:=some (.str fam)) (r2:=some (.ref q)) (r3:=some (.ref se)) (r4:=some (.str ord)) (r5:=some ca) (r6:=some (.tup [])) (r9:=some (.ref (Y.length+8))) (r10:=w) (i:=0) (f:=rows.length+1) (z1:=none) (z2:=none) x (nH (K:=aF F) (fam:=fam) (ord:=ord) (rg:=rg) (se:=se) hc) (aU hq) rfl %[|0],s1,pe1,dr1,z1,z2,k1,R1,B1;exact(Kz _ (aG 76 ([.fd (aF F), .str fam, .ref q, .ref se, .str ord,ca, .tup []]) Y [3] (pre (cE (N6 5 aO) (%[T0 (aF F),TN fam,TH q,TH se,TN ord,ca,TY [],TH (Nb Y),TH (Nb Y+7),TH (Nb Y+8)|[w,none,none]]) (Y++i7 (aF F) (Nb Y) (iT (Nb Y) se ce fam ord rg)) [] (show pc false (.ref q) (Y++i7 (aF F) Y.length (iT Y.length se ce fam ord rg))= .ok (.lst q 0,rows.length) _ from ey (aU hq)) k1 (Ej (d:=d+6) R1 hp hrg)))) (⟨MO (by erw[MH];lia) B1.1,λi hi X=>(B1.2 i hi).trans (Nc hi)⟩))
def gu(q:Nat)(due:PV)(Y:aR)(d:Nat):Prop:=∃s,ac P (d+9) 103 [.fd (aF KF), .ref q] Y= .ok due s/\Fr [] Y s
theorem Es(h:∃s,ac P (d+8) 76 [.fd (aF KF), .str `inet, .ref q, .ref Y.length, .str `little, .none, .tup []] (Y++[.dictS []])= .ok v s/\Fr [] (Y++[.dictS []]) s):gu q v Y d:=by
 exists aA h,s,k,F;erw[<-lh] at k;exact(aE s (aG 103 [.fd (aF KF), .ref q] Y [] (Df (cE ([TC (Tx 76 [Tr 0,Tt `inet,Tr 1,TI [] []])]) %[T0 (aF KF),TH q|1] Y [] k))) (Fr.app.trans F))
theorem zH(h:∃s,ac P (d+8) 76 [.fd (aF KF), .str `inet, .ref q, .ref Y.length, .str `little, .none, .tup []] (Y++[.dictS []])= .exn m s/\Fr [] (Y++[.dictS []]) s):gu q m Y d:=by
 exists aA h,s,k,F;rw[<-lh] at k;exact(aE s (aG 103 [.fd (aF KF), .ref q] Y [] (BV (cE ([TC (Tx 76 [Tr 0,Tt `inet,Tr 1,TI [] []])]) %[T0 (aF KF),TH q|1] Y [] k) (cE [TC (Tr 2)] %[T0 (aF KF),TH q,m|0] s []))) (Fr.app.trans F))
noncomputable def gA(n se rg:Nat):kL:=iT n se (n+1) `inet `little rg
theorem fR(rg:Nat){D2:Nat->fp}(hq:Y[q]? =some (.list (pre++x::tl)))(y:∀n se,dD n (aF KF) (gA n se rg) (fV n) pre (D2 n))(g:∀n se,FZ n (aF KF) (gA n se rg) (D2 n) x m):gu q m Y d:=
 zH (rZ (.inl ⟨rfl,rfl⟩) (aU hq) (y _ _) (g _ _))
theorem uj(rg:Nat){D2:Nat->fp}(hq:Y[q]? =some (.list rows))(y:∀n se,dD n (aF KF) (gA n se rg) (fV n) rows (D2 n))(hp:∀n,(D2 n).pd=[])(hs:∀n,(D2 n).sts.length<1000)(hl:∀n,(D2 n).sts.map (·.2)=l):gu q (.tup l) Y d:=by
 exists oG (d:=d) (Y:=Y++[.dictS []]) (se:=Y.length) (.inl ⟨rfl,rfl⟩) (aU hq) (y _ _) (hp _) (hs _),s,k,F;rw[hl] at k;exact Es (aE s k F)
theorem CT(rg:Nat){D2:Nat->fp}{p:Nat->Pd}(hq:Y[q]? =some (.list rows))(y:∀n se,dD n (aF KF) (gA n se rg) (fV n) rows (D2 n))(hp:∀n,(D2 n).pd=[p n])(hrg:rg≠0):gu q (.str sG) Y d:=
 zH (qq (.inl ⟨rfl,rfl⟩) (aU hq) (y _ _) (hp _) hrg)
end
end Internal
end
section
set_option linter.unusedVariables false
namespace Internal
variable{Gz:Prop}
section
variable{Y s:aR}{d:Nat}
theorem zI(h:m<256):gU [m]:=(dq (by show 0<1;decide) (by show 1<=40;decide) (λx hx=>by refine(No.mp hx)▸?_;exact h))
noncomputable def mx(n:Nat)(v:PV):fp:={cv (fV n) v with at_:=1}
theorem uu(t1:jT (256^many - 1) 0 (8*many - 0)=8*many)(full:256^many - 1=(2^(8*many) - 1)*2^0)(m0:0<many)(hm:many<=20)(hao:ao<1000)(hf:KF.filter (jt base (8*ao) (8*many))=[]):
 dD n (aF KF) (gA n se 0) (fV n) [fS 0 base ao many] (mx n (.tup [be base ao (256^many - 1) 0 0 0, .str `big, .int many])):=by
 have li:LI (gA n se 0):=Cz (.inr rfl);have r1:=vm (N:=n) li.bd li.rg nG.fok (DG (n:=n)).good (DG (n:=n)).dpp (base:=base) (ao:=ao) hm hao;have f1:ci KF (gA n se 0) (fV n) base ao (256^many - 1) 0 (fV n).at_ many=none:=by
  unfold ci;rw[t1,if_pos ⟨by lia,full⟩,show 8*(ao+many) - 0 - 8*many=8*ao by lia];exact ua (λy hy=>by rw[hf] at hy;exists _)
 erw[mT f1] at r1;exact .cons r1 .nil
theorem JQ(hq:Y[q]? =some (.list [di reg 15934 [more]])):gu q (.str zO) Y d:=
 fR (pre:=[]) (tl:=[]) reg hq (λX X=> .nil) λn se=>rB (f:=66) rfl λd Y pe dr R=>
  (aE Y (aG 66 ([.ref (gA n se reg).p, .tup [.str `cmp, .str 15934, .int ↑reg, .bytes [more]]]) Y [] rfl (xn R rfl)) .refl)
theorem JV(hq:Y[q]? =some (.list [fS 0 `network 3 3,di 0 15934 [0,0,0]])):gu q (.str ix) Y d:=
 fR (pre:=[fS 0 `network 3 3]) (tl:=[]) 0 hq (λn se=>uu %[|1] %[|1] %[|1] %[|1] %[|1] (by decide+kernel)) λn se=>rB (f:=66) rfl λd Y pe dr R=>
  (aE Y (aG 66 ([.ref (gA n se 0).p, .tup [.str `cmp, .str 15934, .int ↑0, .bytes [0,0,0]]]) Y [] rfl (w9 R rfl)) .refl)
theorem HG:dD n (aF KF) (gA n se 0) (fV n) [fS 0 `network 0 1] (mx n (.tup [be `network 0 (256^1 - 1) 0 0 0, .str `big, .int (1:Nat)])):=uu %[|1] %[|1] %[|1] %[|1] %[|1] (by decide+kernel)
theorem Ir(hq:Y[q]? =some (.list [fS 0 `network 0 1,jF 0 1 `left 4])):gu q (.str ix) Y d:=
 fR (pre:=[fS 0 `network 0 1]) (tl:=[]) 0 hq (λn se=>HG) λn se=>rB (f:=62) rfl λd Y pe dr R=>(aE Y (Ez (d:=d+3) R rfl) .refl)
theorem Ik(h0:more≠0)(hm:more<256)(hq:Y[q]? =some (.list [fS 0 `network 0 1,eG 0 [240] [more]])):gu q (.str ix) Y d:=
 fR (pre:=[fS 0 `network 0 1]) (tl:=[]) 0 hq (λn se=>HG) λn se=>rB (f:=61) rfl λd Y pe dr R=>vo (d:=d+3) R rfl (zI %[|1]) (zI hm) (by show 0*256+more≠0;lia) %[|1]
theorem Ee(h:m<256):gU [m,0,0,0]:=(dq (by show 0<4;decide) (by show 4<=40;decide) (λx hx=>by
 rcases MW.mp hx with rfl | hx
 . exact h
 . have:x=0:=by simpa using hx
   lia))
theorem Bq:dD n (aF KF) (gA n se 0) (fV n) [i0 0 `mark 4 `host] (mx n (.tup [aH `«meta mark», .str `host, .int (4:Nat)])):=
 .cons (kW rfl rfl λX=>rfl) .nil
theorem DY{m:Nat}(h:m<256):bS .bxor (.int ((256^4 - 1:Nat):Int)) (.int m) s= .ok (.int ((4294967295 - m:Nat):Int)) s:=by
 have e:(4294967295&&& m:Nat)=m:=by
  rw[Nat.and_comm];exact(Re m 32).trans (QA %[|0])
 show aZ ((if decide ((0:Int)<=((256^4 - 1:Nat):Int))&&decide ((0:Int)<=m) then some (((256^4 - 1:Nat):Int)+m - 2*(((4294967295&&& m:Nat):Nat):Int)) else none:Option Int).map TF) s=_
 rw[e,UE (M9 m)];show iR.ok (TF (4294967295+(m:Int) - 2*(m:Int))) s=_
 congr 2
 lia
theorem JB{q more:Nat}(h0:more≠0)(hm:more<256)(hq:Y[q]? =some (.list [i0 0 `mark 4 `host,eG 0 [more,0,0,0] [more,0,0,0]])):gu q (.str yG) Y d:=
 fR (pre:=[i0 0 `mark 4 `host]) (tl:=[]) 0 hq (λn se=>Bq) λn se=>rB (f:=61) rfl λd Y pe dr R=>by
  have e:bH (bZ (f5 `host (gA n se 0).ord) [more,0,0,0])=more:=by
   show((0*256+0)*256+0)*256+0*256+more=more
   lia
  exact tO (d:=d+3) (od:=`host) (many:=4) (x:=((4294967295 - more:Nat):Int)) R rfl (.inr rfl) (Ee hm) (Ee hm) (by rw[e];exact h0) (by rw[e];lia) (λs=>by rw[e];exact DY hm) (by rw[e];lia) %[|1]
theorem CU{q reg tag:Nat}(ht:tag=`quota\/tag=`limit)(hq:Y[q]? =some (.list [.tup [.str tag, .int reg]])):gu q (.str vg) Y d:=
 fR (pre:=[]) (tl:=[]) 0 hq (λX X=> .nil) λn se=>by
  rcases ht with rfl | rfl
  . exact rB (f:=73) rfl λd Y pe dr R=>xX (d:=d+4) %[|1] R rfl rfl
  . exact rB (f:=73) rfl λd Y pe dr R=>xX (d:=d+4) %[|1] R rfl rfl
theorem Ea:dD n (aF KF) (gA n se 0) (fV n) [.tup [.str `immediate, .int 0, .bytes [0,0]]] (mx n (.tup [.tup [.str `raw, .bytes [0,0]], .str `big, .int (2:Nat)])):=
 .cons (D1:=cv (fV n) (.tup [.tup [.str `raw, .bytes [0,0]], .str `big, .int (2:Nat)])) (cY rfl _ _ 60 rfl rfl (λd Y pe dr R=>by
  exact(xa (d:=d+6) (l:=[0,0]) (D:={fV n with pe:=pe,dr:=dr}) R))) .nil
theorem I0(hq:Y[q]? =some (.list [.tup [.str `immediate, .int 0, .bytes [0,0]], .tup [.str `payload_set, .int 0, .str `link, .int 12, .int 2]])):gu q (.str 2732452066339802079955376510493825727460633408888680769141) Y d:=
 fR (pre:=[.tup [.str `immediate, .int 0, .bytes [0,0]]]) (tl:=[]) 0 hq (λn se=>Ea) λn se=>CK rfl λX=>rfl
theorem Io(hq:Y[q]? =some (.list [.tup [.str `what, .int reg]])):gu q (.str 37920389971687924467949278174630975726197) Y d:=
 fR (pre:=[]) (tl:=[]) 0 hq (λX X=> .nil) λn se=>CK rfl λX=>rfl
end
section
variable{N:Nat}{K:List (Nat×PV)}{I:kL}{D:fp}{Y s:aR}{d:Nat}
theorem EW(R:Rd N K I Y D)(hp:D.pd=[])(hst:D.sts=[])(hs:D.slot=some (.tup [aH nm, .str od, .int many]))(hn:op≠15934)(ho:fe (f5 od I.ord))(hl:gU l):
 gV N K I Y {D with sts:=[(D.at_,cL (aH nm) op (bH (bZ (f5 od I.ord) l)))]} (ac P (d+7) 66 [.ref I.p,di I.rg op l] Y) .none:=by
 exists oH (d:=d) (op:=op) R hs rfl %[|1] ho hl,g1,pre;exists xU (As (d:=d+4) (v:=cL (aH nm) op (bH (bZ (f5 od I.ord) l))) (R.app (g:=g1)) hp hst),s,pe,dr,k,R1,B1;exact(wa s pe dr (aG 66 [.ref I.p,di I.rg op l] Y [3] (pre (cE (N6 3 fJ) %[TH I.p,di I.rg op l,aH nm,TN od,TF ↑many,TF ↑(bH (bZ (f5 od I.ord) l)),TY tV|0] (Y++g1) [] rfl (cH (UF hn)) rfl (og (d:=d+1)) k))) R1 ((ju.app R.low).trans B1))
theorem Ei:jJ n (aF KF) (gA n se reg) (fV n) (i0 reg `l4proto 1 `big) (cv (fV n) (.tup [aH `«meta l4proto», .str `big, .int (1:Nat)])):=
 (cY rfl _ _ 57 rfl rfl (λd Y pe dr R=>by
   exact(Cu (d:=d+6) (D:={fV n with pe:=pe,dr:=dr}) R (nm:=`«meta l4proto») (key:=`l4proto) (many:=1) (od:=`big) λX=>rfl)))
theorem G3(hr:reg≠0)(hm:more<256)(hq:Y[q]? =some (.list [i0 reg `l4proto 1 `big,di reg 15934 [more]])):gu q (.str sG) Y d:=by
 have y:∀n se,dD n (aF KF) (gA n se reg) (fV n) [i0 reg `l4proto 1 `big,di reg 15934 [more]] {mx n (.tup [aH `«meta l4proto», .str `big, .int (1:Nat)]) with pd:=[⟨`«meta l4proto»,bH [more],1⟩],at_:=2}:=λn se=>
  .cons Ei (.cons (D1:={mx n (.tup [aH `«meta l4proto», .str `big, .int (1:Nat)]) with pd:=[⟨`«meta l4proto»,bH [more],1⟩]}) (cY rfl _ _ 66 rfl rfl (λd Y pe dr R=>by
   exact(qQ (d:=d) (D:={mx n (.tup [aH `«meta l4proto», .str `big, .int (1:Nat)]) with pe:=pe,dr:=dr}) R (DG (n:=n)).good.slot.bump.upd (nm:=`«meta l4proto») (od:=`big) (many:=1) (l:=[more]) rfl (.inr (.inr (.inr rfl))) (.inl rfl) (zI hm)))) .nil)
 exact CT (p:=λX=>⟨`«meta l4proto»,bH [more],1⟩) reg hq y (λX=>rfl) hr
theorem FX(hm:more<256)(hq:Y[q]? =some (.list [i0 reg `l4proto 1 `big,di reg 8766 [more]])):gu q (.tup [cL (aH `«meta l4proto») 8766 more]) Y d:=by
 have y:∀n se,dD n (aF KF) (gA n se reg) (fV n) [i0 reg `l4proto 1 `big,di reg 8766 [more]] {mx n (.tup [aH `«meta l4proto», .str `big, .int (1:Nat)]) with sts:=[(1,cL (aH `«meta l4proto») 8766 more)],at_:=2}:=λn se=>
  .cons Ei (.cons (D1:={mx n (.tup [aH `«meta l4proto», .str `big, .int (1:Nat)]) with sts:=[(1,cL (aH `«meta l4proto») 8766 more)]}) (cY rfl _ _ 66 rfl rfl (λd Y pe dr R=>by
   have h:=EW (d:=d) (D:={mx n (.tup [aH `«meta l4proto», .str `big, .int (1:Nat)]) with pe:=pe,dr:=dr}) R rfl rfl (nm:=`«meta l4proto») (od:=`big) (op:=8766) (many:=1) (l:=[more]) rfl %[|1] (.inl rfl) (zI hm);erw[show bH (bZ (f5 `big (gA n se reg).ord) [more])=more from by
    show 0*256+more=more
    lia] at h
   exact h)) .nil)
 exact uj reg hq y (λX=>rfl) (λX=>by show 1<1000;decide) (λX=>rfl)
theorem Hp{q reg:Nat}(hq:Y[q]? =some (.list [.tup [.str `counter, .int reg]])):gu q (.tup [.tup [.str `counter, .int 0, .int 0]]) Y d:=by
 have y:∀n se,dD n (aF KF) (gA n se 0) (fV n) [.tup [.str `counter, .int reg]] {fV n with sts:=[(0, .tup [.str `counter, .int 0, .int 0])],at_:=1}:=λn se=>
  .cons (D1:={fV n with sts:=[(0, .tup [.str `counter, .int 0, .int 0])]}) (cY rfl _ _ 73 rfl rfl (λd Y pe dr R=>by
   exact(Hn (d:=d+4) (rg:=reg) (D:={fV n with pe:=pe,dr:=dr}) R rfl rfl rfl))) .nil
 exact uj 0 hq y (λX=>rfl) (λX=>by show 1<1000;decide) (λX=>rfl)
end
section
variable{Y s:aR}{d reg more:Nat}{r:UG}
noncomputable def Jk:PV:= .tup [.str `meta, .int 0, .str `mark, .int 4, .str `host]
noncomputable def yI(reg more:Nat):UG:=%[.int reg,.int more,Jk|0]
def LP(d reg more:Nat)(e:E)(x:List PV×PV):Prop:=∀Y,∃q s,af (ac P d) P.glo P.init e (yI reg more) Y= .ok (.tup [.ref q,x.2]) s/\s[q]? =some (.list x.1)/\Fr [] Y s
theorem qt(h:∀Y,∃s,bE (ac P d) P.glo P.init es (yI reg more) Y= .ok rows s/\Fr [] Y s)(hd:∀Y,af (ac P d) P.glo P.init e (yI reg more) Y= .ok due Y):LP d reg more (.tup [.lst es,e]) (rows,due):=λY=>by
 exists aA (h Y),s,k,F;exact(fM s.length (s++[.list rows]) (iG (ai (mv k) (ai (hd _) bA))) aM (F.trans .app))
theorem IQ(hm:more<256)(h:r[1]?.join=some (.int more)):af (ac P d) P.glo P.init (TX (TG [Tr 1])) r Y= .ok (.bytes [more]) (Y++[.list [.int more]]):=
 l7 (mv (ai (av h) bA)) (lq (l:=[more]) aM λx hx=>by refine(No.mp hx)▸?_;exact hm)
theorem IE(hm:more<256)(h:r[1]?.join=some (.int more)):af (ac P d) P.glo P.init (TX (TG [Tr 1,Ts 0,Ts 0,Ts 0])) r Y= .ok (.bytes [more,0,0,0]) (Y++[.list [.int more, .int 0, .int 0, .int 0]]):=
 l7 (mv (ai (av h) rfl)) (lq (l:=[more,0,0,0]) aM (Ee hm).2.2)
noncomputable def md(reg more:Nat):List (List PV×PV):=[([di reg 15934 [more]], .str zO),([fS 0 `network 3 3,di 0 15934 [0,0,0]], .str ix),([fS 0 `network 0 1,jF 0 1 `left 4], .str ix),([fS 0 `network 0 1,eG 0 [240] [more]], .str ix),
 ([i0 0 `mark 4 `host,eG 0 [more,0,0,0] [more,0,0,0]], .str yG),([.tup [.str `quota, .int reg]], .str vg),([.tup [.str `limit, .int reg]], .str vg),
 ([.tup [.str `immediate, .int 0, .bytes [0,0]], .tup [.str `payload_set, .int 0, .str `link, .int 12, .int 2]], .str 2732452066339802079955376510493825727460633408888680769141),([.tup [.str `what, .int reg]], .str 37920389971687924467949278174630975726197),
 ([i0 reg `l4proto 1 `big,di reg 15934 [more]], .str sG),([i0 reg `l4proto 1 `big,di reg 8766 [more]], .tup [cL (aH `«meta l4proto») 8766 more]),([.tup [.str `counter, .int reg]], .tup [.tup [.str `counter, .int 0, .int 0]])]
theorem tI(hr:reg≠0)(h0:more≠0)(hm:more<256):∀x∈md reg more,∀(Y:aR) q,Y[q]? =some (.list x.1)->gu q x.2 Y d:=by
 unfold md;erw[MW,MS,or_false];rintro x (rfl | rfl | rfl | rfl | rfl | rfl | rfl | rfl | rfl | rfl | rfl | rfl) Y q hq
 . exact JQ hq
 . exact JV hq
 . exact Ir hq
 . exact Ik h0 hm hq
 . exact JB h0 hm hq
 . exact CU (.inl rfl) hq
 . exact CU (.inr rfl) hq
 . exact I0 hq
 . exact Io hq
 . exact G3 hr hm hq
 . exact FX hm hq
 . exact Hp hq
inductive vf(s:aR):List PV->List (List PV×PV)->Prop where
 | nil:vf s [] []|cons {q:Nat} {x:List PV×PV} {vs:List PV} {L:List (List PV×PV)}:s[q]? =some (.list x.1)->vf s vs L->vf s (.tup [.ref q,x.2]::vs) (x::L)
theorem vf.fr(h:vf s vs L)(F:Fr [] s t):vf t vs L:=by
 induction h with
 | nil=>exact .nil|cons a _ ih=>exact .cons (F.get a MS) ih
inductive wZ(d reg more:Nat):List E->List (List PV×PV)->Prop where
 | nil:wZ d reg more [] []|cons {e:E} {x:List PV×PV} {es:List E} {L:List (List PV×PV)}:LP d reg more e x->wZ d reg more es L->wZ d reg more (e::es) (x::L)
theorem Dj(h:wZ d reg more es L):∀Y,∃vs s,bE (ac P d) P.glo P.init es (yI reg more) Y= .ok vs s/\vf s vs L/\Fr [] Y s:=by
 induction h with
 | nil=>exactλY=>(fM ([]) Y bA .nil .refl)|cons a _ ih=>
   intro Y;exists fk (a Y),q,s1,k1,h1,F1;exists fk (ih s1),vs,s2,k2,h2,F2;exact fM _ s2 (ai k1 k2) (.cons (F2.get h1 MS) h2) (F1.trans F2)
theorem wv(hm:more<256)(Kz:∀q vs s,ac P (d+1) 102 [.int reg, .int more] Y= .ok (.ref q) s->s[q]? =some (.list vs)->vf s vs (md reg more)->Fr [] Y s->Gz):Gz:=by
 have b1:∀{Y:aR},af (ac P d) P.glo P.init (TX (TG [Tr 1])) (yI reg more) Y= .ok (.bytes [more]) (Y++[.list [.int more]]):=IQ hm rfl;have b4:∀{Y:aR},af (ac P d) P.glo P.init (TX (TG [Tr 1,Ts 0,Ts 0,Ts 0])) (yI reg more) Y= .ok (.bytes [more,0,0,0]) (Y++[.list [.int more, .int 0, .int 0, .int 0]]):=IE hm rfl;have all:wZ d reg more (match Lx eF 1 with | .lst es=>es | _=>[]) (md reg more):=
  .cons (qt (λY=>(aE _ (ai (iG (ai bC (ai bC (ai (av rfl) (ai b1 bA))))) bA) .app)) λY=>bC)
  (.cons (qt (λY=>(aE _ rfl .refl)) λY=>bC)
  (.cons (qt (λY=>(aE _ rfl .refl)) λY=>bC)
  (.cons (qt (λY=>(aE _ (ai rfl (ai (iG (ai bC (ai bX (ai bX (ai GN (ai b1 bA)))))) bA)) .app)) λY=>bC)
  (.cons (qt (λY=>(aE _ (ai rfl (ai (iG (ai bC (ai bX (ai bX (ai b4 (ai b4 bA)))))) bA)) (Fr.app.trans .app))) λY=>bC)
  (.cons (qt (λY=>(aE _ rfl .refl)) λY=>bC)
  (.cons (qt (λY=>(aE _ rfl .refl)) λY=>bC)
  (.cons (qt (λY=>(aE _ rfl .refl)) λY=>bC)
  (.cons (qt (λY=>(aE _ rfl .refl)) λY=>bC)
  (.cons (qt (λY=>(aE _ (ai rfl (ai (iG (ai bC (ai bC (ai (av rfl) (ai b1 bA))))) bA)) .app)) λY=>bC)
  (.cons (qt (λY=>(aE _ (ai rfl (ai (iG (ai bC (ai bC (ai (av rfl) (ai b1 bA))))) bA)) .app)) λY=>rfl)
  (.cons (qt (λY=>(aE _ rfl .refl)) λY=>rfl) .nil)))))))))))
 exists fk (Dj all Y),vs,s,k,T,F;have body:ax (ac P d) P.glo P.init eF %[.int reg,.int more|1] Y= .ok (.ret (.ref s.length),yI reg more) (s++[.list vs]):=by
  rw[(show eF=[TA 2 (Tu [Tt `meta,Ts 0,Tt `mark,Ts 4,Tt `host]),TC (Lx eF 1)] from rfl)];exact tQ [0,1] λw=>w (mv k)
 exact Kz s.length vs (s++[.list vs]) (eC (r:=%[.int reg,.int more|1]) rfl rfl rfl body) aM (T.fr .app) (F.trans .app)
end
section
variable{Y s:aR}{d reg more:Nat}
theorem Dn:∀x∈md reg more,∀(s:aR),b8 .ne x.2 x.2 s= .ok (.bool false) s:=by
 unfold md;erw[MW,MS,or_false];rintro x (rfl | rfl | rfl | rfl | rfl | rfl | rfl | rfl | rfl | rfl | rfl | rfl) s
 . exact kG %[|1]
 . exact kG %[|1]
 . exact kG %[|1]
 . exact kG %[|1]
 . exact kG %[|1]
 . exact kG %[|1]
 . exact kG %[|1]
 . exact kG %[|1]
 . exact kG %[|1]
 . exact kG %[|1]
 . exact vM λv hv=>by rw[ku hv];rfl
 . exact vM λv hv=>by rw[ku hv];rfl
theorem wX(h0:0<m)(hm:m<2^400)(Kz:∀k:Nat,k<m->(∀Y,bS .mod (.int a) (.int m) Y= .ok (.int k) Y)->Gz):Gz:=by
 have hpos:(0:Int)<m:=by lia
 have h1:=QB a hpos;have h2:=SZ a hpos;refine(Kz ((a.fmod m).toNat) %[|0] (λY=>?_));show aZ ((if decide (0<(m:Int))&&decide ((m:Int)<2^400) then some (a.fmod m) else none:Option Int).map TF) Y=_;erw[rS h0 hm,if_pos rfl,QV h1];rfl
theorem yH{nq w:Nat}{ns:List Int}(hn:Y[nq]? =some (.list (ns.map .int)))(hl:ns.length=5)(hw:w<3)(Kz:(∀s,ax (ac P (d+11)) P.glo P.init (aQ kE 2) [r0,some (.fd (aF KF)),some (.ref nq),some (.int w),r4,r5] Y= .ok (.nxt,[r0,some (.fd (aF KF)),some (.ref nq),some (.int w),r4,r5]) s->Fr [] Y s->Gz)):Gz:=by
 have hg:∃g:Int,dk (P.glo 0) (.int w) Y= .ok (.int g) Y:=by
  match w,hw with
  | 0,_=>exact⟨_,rfl⟩|1,_=>exact⟨_,rfl⟩|2,_=>exact⟨_,rfl⟩
 exists bx hg,g,hg;have hwl:w<ns.length:=by lia
 have hi:dk (.ref nq) (.int w) Y= .ok (.int ns[w]) Y:=f7 hn (by erw[Ny,MX hwl];rfl);refine bD (Iq (d:=d+6) (Y:=Y++[.list [.int (g+ns[w])]]) (w:=w) aM hw) λU J s ba z'0=>gy z'0 λhe W b z'1=>bh z'1 λk1 R A hhe z'2=>fg z'2 λhf ho hord B=>?_;exists vh (d:=d) R A hhe hf ho hord,s2,k2,F2;exact(Kz s2 (cE (aQ kE 2) [r0,some (.fd (aF KF)),some (.ref nq),some (.int ↑w),r4,r5] Y [] hg hi rfl k1 k2) ((show Fr [] Y s from⟨by have:=B.1;erw[MH] at this;lia,λi hi X=>(B.2 i (by erw[MH];lia) %[|0]).trans (Nc hi)⟩).trans F2))
theorem lC{nq:Nat}{ns:List Int}(hl:ns.length=5):∀{k w:Nat} {Y:aR} {z:Option PV},w+k=3->Y[nq]? =some (.list (ns.map .int))->
 (∀z' s,(fW (.one 3) (λr=>ax (ac P (d+11)) P.glo P.init (aQ kE 2) r) (k+1) (.rng w 3) [r0,some (.fd (aF KF)),some (.ref nq),z,r4,r5] Y= .ok (.nxt,[r0,some (.fd (aF KF)),some (.ref nq),z',r4,r5]) s)->Fr [] Y s->Gz)->Gz:=by
 intro k
 induction k with
 | zero=>
   intro w Y z hw hn Kz;have:w=3:=by omega
   subst this;exact Kz z Y (gz rfl) .refl
 | succ k lC=>
   intro w Y z hw hn Kz;exists yH (d:=d) (r0:=r0) (r4:=r4) (r5:=r5) hn hl (show w<3 by lia),s,k1,F1;exists lC (w:=w+1) (z:=some (.int w)) %[|0] (F1.get hn MS),z',s2,k2,F2;exact Kz z' s2 (iU (HM %[|0]) rfl k1 rfl k2) (F1.trans F2)
theorem nI:∀{L:List (List PV×PV)} {vs:List PV} {i f:Nat} {Y:aR} {z1 z2:Option PV},(∀x∈L,∀(Y:aR) q,Y[q]? =some (.list x.1)->gu q x.2 Y (d+2))->(∀x∈L,∀(s:aR),b8 .ne x.2 x.2 s= .ok (.bool false) s)->vf Y vs L->Y[q]? =some (.list all)->all.drop i=vs->vs.length<f->
 (∀w1 w2 s,(fW (.many [4,5]) (λr=>ax (ac P (d+11)) P.glo P.init (aQ kE 3) r) f (.lst q i) [r0,some (.fd (aF KF)),r2,r3,z1,z2] Y= .ok (.nxt,[r0,some (.fd (aF KF)),r2,r3,w1,w2]) s)->Fr [] Y s->Gz)->Gz
 | [],vs,i,f,Y,z1,z2,_,_,T,hq,hd,hf,Kz=>by
   exists bx (MP (Nv (MM (Pm _) hf))),f,rfl;cases T;exact Kz z1 z2 Y (gz (mY hq (by rw[Nt];exact Pp.mp hd))) .refl
 | x::L,vs,i,f,Y,z1,z2,hh,hs,T,hq,hd,hf,Kz=>by
   cases T with
   | @cons a _ vs _ h T=>
     erw[M0] at hf;exists bx (MP (show f≠0 by lia)),f,rfl;exists aA (hh x (.head _) Y a h),s,k,F;exists nI (r0:=r0) (r2:=r2) (r3:=r3) (all:=all) (L:=L) (i:=i+1) (f:=f) (z1:=some (.ref a)) (z2:=some x.2) (λy hy=>hh y (.tail _ hy)) (λy hy=>hs y (.tail _ hy)) (T.fr F) (F.get hq MS) (by rw[<-PB,hd];rfl) %[|0],w1,w2,s2,k2,F2;exact(Kz w1 w2 s2 (iU (pH hq (by rw[<-Ps,hd];rfl)) rfl (cE (aQ kE 3) [r0,some (.fd (aF KF)),r2,r3,some (.ref a),some x.snd] Y [] k (hs x (.head _) s)) rfl k2) (F.trans F2))
theorem yS{ns:List Int}(hn:Y[nq]? =some (.list (ns.map .int)))(hl:ns.length=5)(Kz:∀r' s,ax (ac P (d+11)) P.glo P.init (kE.drop 2) [r0,some (.fd (aF KF)),some (.ref nq),none,none,none] Y= .ok (.ret (.bool true),r') s->Fr [] Y s->Gz):Gz:=by
 exists lC (d:=d) (r0:=r0) (r4:=none) (r5:=none) hl (k:=3) (w:=0) (z:=none) rfl hn,z,s1,k1,F1;have hn1:=F1.get hn MS;exists wX (a:=ns[3]+3) (m:=15) %[|1] %[|1],a,ha,e3;exists wX (a:=ns[4]+6) (m:=255) %[|1] %[|1],c,hc,e4;exists wv (d:=d+10) (Y:=s1) (reg:=1+a) (more:=1+c) %[|0],q,vs,s2,k2,hq,T,F2;exists nI (d:=d) (r0:=r0) (r2:=some (.ref nq)) (r3:=z) (q:=q) (all:=vs) (i:=0) (f:=vs.length+1) (z1:=none) (z2:=none) (tI (d:=d+2) (reg:=1+a) (more:=1+c) %[|0] %[|0] %[|0]) Dn T hq rfl (NU _),w1,w2,s3,k3,F3;exact(Kz _ s3 (cE (N6 2 kE) [r0,some (.fd (aF KF)),some (.ref nq),none,none,none] Y [] (ke %[|1]) k1 (show dk (.ref nq) (.int 3) s1= .ok (.int ns[3]) s1 from f7 (i:=3) hn1 (by rw[Ny,MX (by omega)];rfl)) rfl (e3 _) (iK (a:=1) (b:=a)) (show dk (.ref nq) (.int 4) s1= .ok (.int ns[4]) s1 from f7 (i:=4) hn1 (by rw[Ny,MX (by omega)];rfl)) rfl (e4 _) (iK (a:=1) (b:=c)) k2 (ey hq) k3) ((F1.trans F2).trans F3))
end
end Internal
end
section
namespace Internal
noncomputable def KD(xs:List PV):iR PV:=ac P 5 104 [] [.list xs]
noncomputable def DB(xs:List PV):aR:=match KD xs with
 | .ok _ s=>s|_=>[]
theorem p1(xs:List PV):KD xs= .ok (.ref 1) (DB xs):=%[|2]
theorem p2(xs:List PV):(DB xs)[1]? =some (.dictS (aF KF)):=%[|2]
theorem p3(xs:List PV):(DB xs)[0]? =some (.list xs):=%[|2]
noncomputable def wL(xs:List Int):List Int:=(Pl 0 5).map λk=>xs.getD k 0
theorem C3:(wL xs).length=5:=rfl
theorem p4(h:Y[0]? =some (.list (xs.map .int))):
 af call glo init (TZ (TS (Tz .lt (Tr 0) (TM (Tr 1))) (Tv (Tr 1) (Tr 0)) (Ts 0)) true (Ts 5) none) %[.ref 0|[r1,r2,r3,r4,r5]] Y= .ok (.ref Y.length) (Y++[.list ((wL xs).map .int)]):=by
 have hc:=kP (call:=call) (glo:=glo) (init:=init) (Y:=Y) (s:=Y) (r:=%[.ref 0|[r1,r2,r3,r4,r5]]) (elt:=TS (Tz .lt (Tr 0) (TM (Tr 1))) (Tv (Tr 1) (Tr 0)) (Ts 0)) (isR:=true) (src:= .int 5) (n:=5) (xs:=(Pl 0 5).map λj=> .int (j:Nat))
  (λx=>match x with | .int j=> .int (xs.getD j.toNat 0) | _=> .none) bX (ke %[|1]) (by rw[MN,Nx]) (mS %[|1]) (by rw[MN,Nx];decide) λx hx=>by
    exists aA (Nd.mp hx),j,X,rfl;have hlen:lx (.ref 0) Y= .ok (.int xs.length) Y:=by
     have:=jI h;rw[MN] at this;exact this
    by_cases c:j<xs.length
    . exact DF (hZ (av rfl) (t6 (av rfl) hlen) (nZ (UE %[|0]))) (cW (av rfl) (av rfl) (f7 h (by
       rw[Ny,MX c];show some (TF xs[j])=some (TF (xs.getD j 0))
       erw[NG,MX c];rfl)))
    . exact Ec (hZ (av rfl) (t6 (av rfl) hlen) (nZ (UF %[|0]))) (by
       have:xs.getD j 0=0:=by
        rw[NG,Nt.mpr %[|0]];rfl
       show af call glo init (.int 0) _ Y= .ok (.int (xs.getD j 0)) Y
       erw[this];rfl)
 have e:((Pl 0 5).map λj=>TF ((j:Nat):Int)).map (λx:PV=>match x with | TF j=>TF (xs.getD j.toNat 0) | _=>T6)=(wL xs).map .int:=rfl;rw[e] at hc;exact hc
theorem AO:∃s,bc (ac P 5) P.glo P.init (TK [1,2] (Tu [Tx 104 [],TZ (TS (Tz .lt (Tr 0) (TM (Tr 1))) (Tv (Tr 1) (Tr 0)) (Ts 0)) true (Ts 5) none])) %[.ref 0|5] [.list (xs.map .int)]=
 .ok (.nxt,%[.ref 0,.ref 1,.ref (DB (xs.map .int)).length|3]) s/\s[0]? =some (.list (xs.map .int))/\s[1]? =some (.dictS (aF KF))/\s[(DB (xs.map .int)).length]? =some (.list ((wL xs).map .int)):=
 (d0 _ (wy [] λw=>w (p1 _) (p4 (p3 _))) (aU (p3 _)) (aU (p2 _)) aM)
end Internal
end
section
open PySem PySem.Calls PyProof.Rows
namespace Internal
variable{Gz:Prop}
noncomputable def zp(S:List Addr)(i:Nat)(o:Obj):Obj:=if S.contains i then {o with data:= .freed} else o
noncomputable def Bw(h:Heap)(S:List Addr):Heap:=⟨h.objs.mapIdx (zp S),h.life⟩
theorem xH{S:List Addr}(hb:b∉S):(Bw h S).get? b=h.get? b:=by
 unfold Heap.get? Bw;rw[RH]
 cases h.objs[b]? with
 | none=>rfl|some o=>rw[PM,show zp S b o=o from if_neg (by rw[Pj];exact hb)]
theorem lN{S:List Addr}(hb:b∈S):(Bw h S).get? b=none:=by
 unfold Heap.get? Bw;rw[RH]
 cases h.objs[b]? with
 | none=>rfl|some o=>rw[PM,show zp S b o={o with data:= .freed} from if_pos (Pj.mpr hb)]
theorem BG{S:List Addr}(e:(Bw h S).get? b=some o):h.get? b=some o:=by
 by_cases hb:b∈S
 . rw[lN hb] at e;cases e
 . exact(xH hb).symm.trans e
mutual
theorem Cn(d:PV.data x=true)(r:aB C V h v x):aB C' V' h v x:=by
 cases x with
 | none=>exact fB r▸ .none|int i=>exact bF r λu e=>e▸ .int _ _|str n=>exact aA r.inv λt e hl=>e▸ .str _ _ hl|bytes l=>exact cF r.inv λt e h1 h2=>e▸ .bytes _ _ h1 h2|tup xs=>exact fb r.inv λa vs e h1 h2 h3=>e▸ .tup h1 (lL d h2) h3|_=>cases d
theorem lL(d:PV.datas xs=true)(r:aK C V h vs xs):aK C' V' h vs xs:=by
 cases xs with
 | nil=>cases r;exact .nil
 | cons x xs=>
   cases r with
   | cons a b=>exact .cons (Cn (aa d) a) (lL (ae d) b)
end
theorem yp:∀{kvs:List (Nat×PV)},kvs.all (λkv=>PV.data kv.2)=true->PV.datas (kvs.map (·.2))=true
 | [],_=>rfl|kv::l,h=>by
   rw[QY] at h;exact jC (aa h) (yp (ae h))
theorem bP.vals{K:Type}{vs:List (K×Od)}{xs:List (K×PV)}(r:bP C V h vs xs):aK C V h (vs.map (·.2)) (xs.map (·.2))/\vs=(xs.map (·.1)).zip (vs.map (·.2)):=by
 induction r with
 | nil=>exact⟨.nil,rfl⟩|cons a _ ih=>exact⟨.cons a ih.1,congrArg (_:: ·) ih.2⟩
theorem cc.less(F:cc C V h env names O)(o1:hP V' env.locals/\∀c∈env.cells,hP V' c.2)(o2:C'.h0.get? env.locals=none/\∀c∈env.cells,C'.h0.get? c.2=none)
 (k:∀(i:Nat) (v:PV) (u:Od),O'[i]? =some (some v)->(∀w,O[i]? =some (some w)->aB C V h u w)->aB C' V' h u v) (kk:∀(i:Nat) (v:PV),O'[i]? =some (some v)->∃w,O[i]? =some (some w)):cc C' V' h env names O' where
 kind:=F.kind
 globals:=F.globals
 builtins:=F.builtins
 nd:=F.nd
 ns:=by
  exists aA F.ns,m,hm,hv;refine(aE m hm (λi n v e1 e2 e3=>?_));exists cps,Gz,Kz;exists bx (kk i v e2),w,ew;exists aA (hv i n w e1 ew e3),u,e,r;exact Kz (aE u e (k i v u e2 λw' e'=>MI (MI (ew.symm.trans e'))▸r))
 cell:=λi n e1 e2=>by
  exists fk (F.cell i n e1 e2),c,ov,e,hc,q;refine(fM c ov e hc (λv ev=>?_));exists bx (kk i v ev),w,ew;exists aA (q w ew),u,e,r;exact aE u e (k i v u ev λw' e'=>MI (MI (ew.symm.trans e'))▸r)
 off:=o1
 there:=F.there
 apart:=F.apart
 old:=o2
theorem Ok.fewer(ok:Ok C A d V Y s)(h:d'<=d):Ok C A d' V Y s:=
 ⟨⟨ok.room.handled,by have:=ok.room.depth;lia,by have:=ok.room.units;lia⟩,ok.rel,ok.ff⟩
theorem qD(k:∀b o,C.h0.get? b=some o->h.get? b=some o):cD C [] [] h:=⟨rfl,(by intros;exists _),(by intros;exists _),(by intros;exists _),(by intros;exists _),k⟩
theorem oA:hP [] b:=nofun
theorem cD.nil(R:cD C V [] h):V=[]:=NJ.mp R.len
theorem H6(r:aB C V h v (.fn i)):v= .ref (C.fa i):=r.inv
theorem yb(r:aB C V h v (.bool b)):v= .bool b:=r.inv
noncomputable abbrev ph:UG:=[none,none,none,none,none,none]
theorem iX{i:Nat}(e:ph[i]? =some (some v)):False:=by
 exact absurd (Rz (n:=6) (a:=(none:Option PV)) (M6 e)) (by intro z;exists _)
section
variable{C:Cx}{f:Nat->Addr}{d:Nat}{K:Ck}{s:Og}{env:Nf}{A:Ol}{Q:Flow->Og->Prop}{E:Od->Og->Prop}{vs:List Od}{xs:List Int}
theorem AJ{id:MJ}{p q p1 pos:Pos}(hi:K.names[0]? =some id)(hk:bt K id=true)(S1:br {C with fa:=f} d K (aW {C with fa:=f}) (λO=>aZ ((O[0]?).join)) (eval e1))
 (S2:br {C with fa:=f} d K (aW {C with fa:=f}) (λX=>ret (TF 63)) (eval e2)) (ok:Ok {C with fa:=f} A d [] [] s) (F:cc {C with fa:=f} [] s.heap env K.names (some (.fn 0)::ph.tail)) (he:env.scope=K.scope)
 (g:C.h0.IsList (f 0) vs.toArray) (r:aK C [] C.h0 vs (xs.map .int)) (hl:xs.length<=4000)
 (k:∀s' V' Y',Y'=[.list ((xs.take (dz 63 xs.length)).map .int)]->jB C env [] V' s s' Y'->Ok C A d V' Y' s'->cc C V' s'.heap env K.names (some (.ref 0)::ph.tail)->Q .next s'):
 Oo (model C.prog C.w) A (exec (.Assign [.Name id p] (.Subscript e1 (.Slice none (some e2) none q) p1) pos) env) Q E s:=by
 refine wpAny_Assign_Name (Ug ?_) rfl;refine S1 [] s [] _ env A _ E ok F he (show KG {C with fa:=f} [] s (aW {C with fa:=f}) _ (PV.fn 0) [] fromλa s1 V1 st1 r1=>Uh ?_);erw[evalPart_none,evalPart_some];refine Ox (S2 V1 s1 [] _ env A _ E (ok.step st1) (F.step st1.step) he (show KG {C with fa:=f} V1 s1 (aW {C with fa:=f}) _ (TF 63) [] fromλb s2 V2 st2 r2=>Ox ?_));obtain rfl:=H6 r1;exists vInt r2,u;exists cps,Gz,Kz;obtain rfl:=st1.rel.nil;obtain rfl:=st2.rel.nil;have st:=st1.trans st2;have F2:cc C [] s2.heap env K.names ph:=(F.step st.step).less ⟨oA,λX X=>oA⟩ F.old (λi v u e X=>(iX e).elim) λi v e=>(iX e).elim;have ok2:Ok C A d [] [] s2:=⟨ok.room,qD st.rel.keep,ok.ff.step st.step⟩;have stC:St C [] [] s s2 []:=⟨st.step,ok2.rel,st.sh⟩;clear st1 st2 r1 r2 F ok S1 S2 st;exists mX g,o,e,hc,n,hd;have kk:=bM s2.heap {cls:= .type "slice",data:= .fields #[.none, .int 63 u, .none]};have gl:(s2.heap.push {cls:= .type "slice",data:= .fields #[.none, .int 63 u, .none]}).IsList (f 0) vs.toArray:=(ki o (kk _ _ (ok2.rel.keep _ _ e)) hc n hd);have hlen:=r.length;erw[MN] at hlen;refine Kz ?_;refine OC (ops:=[.ref s2.heap.objs.size, .ref (f 0)]) gl.typeIs slot_list_getitem.lookup ?_ rfl;refine OM gl (P0 ..) .none (.int 63 u) .none (by simp) ?_ (by erw[M1,hlen];exact b5 (MO hl %[|1]));have e:slicePick vs.toArray none (some 63) none=(vs.take (dz 63 xs.length)).toArray:=by
  erw[slicePick_plain];simp [qT,hlen]
 rw[e];refine KV.list (Q:=λv s₁=>Oo (model C.prog C.w) A (storeName env id v) (λX=>Q .next) E s₁) (ok2.rel.keeps kk) (Qs▸(r.take _).mono (.refl []) (.of_keep λb o z=>kk b o (ok2.rel.keep b o z))) (by rw[MN];exact MO (RU ..) hl) (KV.slice ok2.rel λv s3 V3 st3 r3=>?_);exact fP (ok2.step st3) (F2.step st3.step) he hi hk r3 λs4 st4 ok4 F4=>k s4 V3 _ rfl ((jB.of (stC.trans st3)).trans st4) ok4 F4
end
theorem pM{st:S}{K:Ck}(h:qs TT (st::ss) K xs=true)(Kz:∀x r,xs=x::r->KL TT st K x=true->qs TT ss K r=true->Gz):Gz:=az h λx h=>(Kz _ _ x.2 (aa h) (ae h))
theorem pz:∀(xs:List Int),PV.datas (xs.map .int)=true:=by
 intro xs
 induction xs with
 | nil=>
   exact rfl
 | cons _ xs pz=>
   exact pz
theorem FH:(aF KF).all (λkv=>PV.data kv.2)=true:=by decide+kernel
theorem Jj:(aF KF).length<=4000:=by decide+kernel
theorem Fm:(aF KF).all (λkv=>decide ((gf kv.1).length<=4000))=true:=by decide+kernel
section
variable{C:Cx}{f:Nat->Addr}{d:Nat}{K:Ck}{s:Og}{env:Nf}{A:Ol}{Q:Flow->Og->Prop}{E:Od->Og->Prop}{vs:List Od}{xs:List Int}
theorem FF.less{V V':cV}(ff:FF C A V h)(k:∀L∈qx A,C'.h0.get? L=none)(ho:∀L,hP V L->hP V' L):FF C' A V' h:=by
 exists aA ff,outer,e,kk;refine(aE outer e (λx hx=>?_));exists dX (kk x hx),h1,L,o,h2,h3,h4,h5,h6;exact gS h1 L o h2 (k L (by unfold qx;refine e▸?_;exact PP.mpr (aE x hx h2))) h4 h5 (ho L h6)
theorem FF.frame(ff:FF C A V h)(hL:L∈qx A):C.h0.get? L=none/\hP V L:=by
 exists aA ff,outer,e,kk;unfold qx at hL;rw[e] at hL;exists aA (PP.mp hL),x,hx,hf;exists dX (kk x hx),X,L',X,h2,h3,X,X,h6;obtain rfl:=MI (h2.symm.trans hf);exact⟨h3,h6⟩
theorem jz(a:o=none)(b:o=some x):False:=nomatch a.symm.trans b
structure Kj(C:Cx)(A:Ol)(env:Nf)(h:Heap)(p:Addr×Addr)(H:Heap):Prop where
 fr:∀L∈qx A,H.get? L=none
 cells:∀c∈env.cells,H.get? c.2=none
 nums:H.get? p.1=none
 keep:∀b o,H.get? b=some o->h.get? b=some o
 has:∀b o,h.get? b=some o->b∉qx A->(∀c∈env.cells,b≠c.2)->b≠p.1->H.get? b=some o
theorem IY(C:Cx)(A:Ol)(env:Nf)(h:Heap)(p:Addr×Addr):∃H,Kj C A env h p H:=
 ⟨Bw h (p.1::(qx A++env.cells.map (·.2))),λX hL=>lN (.tail _ (RT _ hL)),λc hc=>lN (.tail _ (RK _ (Nd.mpr (aE c hc rfl)))),lN (.head _),λX X=>BG,λX X e h1 h2 h3=>
  (xH λhm=>(MW.mp hm).elim h3 λhm=>(M5.mp hm).elim h1 λhm=>let ⟨c,hc,e⟩:=Nd.mp hm;h2 c hc e.symm).trans e⟩
section
variable{V:cV}{Y:aR}{p p1:Addr×Addr}{n:Nat}{H:Heap}{r0:Option PV}(ok:Ok C A d V Y s)(F:cc C V s.heap env K.names [r0,some (.ref 1),some (.ref n),none,none,none])(X:Kj C A env s.heap p H)
include ok F X
theorem Kj.old(hp:p∈V):∀b o,C.h0.get? b=some o->H.get? b=some o:=λb o e=>
 X.has b o (ok.rel.keep b o e) (λhL=>jz (ok.ff.frame hL).1 e) (λc hc z=>jz (F.old.2 c hc) (z▸e)) λz=>jz (ok.rel.old p hp).1 (z▸e)
theorem Kj.fields(e1:V[1]? =some p1)(ne:wV p1 p)(q1:Y[1]? =some (.dictS (aF KF)))(hs:∃o,C.h0.get? Oe=some o):aB {C with h0:=H} [p] s.heap (.ref p1.1) (.fd (aF KF)):=by
 exists cj ok.rel (a:=p1.1) (d:=p1.2) e1 q1,B,ws,hD,kr;exists bj kr.vals,r,ez;haveI kK:p1∈V:=M6 e1;exists dZ hD,o,es,ep,ho,rest;exact .fd (C:={C with h0:=H}) (vs:=ws.map (·.2)) (ep:=ep) (pK o es (X.has _ _ ho (λhL=>(ok.ff.frame hL).2 p1 kK |>.1 rfl) (λc hc z=>(F.off.2 c hc p1 kK).1 z.symm) ne.1) rest) (ic hs ok.rel (a:=p1.1) (d:=p1.2) e1) ez rfl (lL (yp FH) r) Jj λkv hkv=>UD (M8.mp Fm kv hkv)
omit F in
theorem Kj.rel(ns:List Int)(hp:V[n]? =some p)(qn:Y[n]? =some (.list (ns.map .int))):cD {C with h0:=H} [p] [.list (ns.map .int)] s.heap:=by
 refine bx (ok.rel.obj n _ qn) λp' z'0=>fg z'0 λep e2 hl z'1=>fx z'1 λvs m z'2=>bj z'2 λg r=>?_;obtain rfl:=MI (hp.symm.trans ep);refine⟨rfl,λi o e=>?_,λi j a b ea eb hij=>?_,λq hq=>?_,λq hq=>?_,X.keep⟩
 . cases i with
   | zero=>obtain rfl:=MI e;exact⟨p,rfl,e2,hl,vs,m,g,lL (pz ns) r⟩|succ i=>exists _
 . cases i with
   | succ i=>exists _|zero=>cases j with
     | zero=>exact(hij rfl).elim|succ j=>exists _
 . obtain rfl:=No.mp hq;exact⟨X.nums,e2▸X.nums⟩
 . obtain rfl:=No.mp hq;exact ok.rel.there _ (M6 hp)
omit ok in
theorem Kj.frame(hp:V[n]? =some p)(e1:V[1]? =some p1)(top:∃outer,A.frames=some (env::outer))(hf:env.frame=some env.locals)(Vq0:aB {C with h0:=H} [p] s.heap (.ref p1.1) (.fd (aF KF))):cc {C with h0:=H} [p] s.heap env K.names [none,some (.fd (aF KF)),some (.ref 0),none,none,none]:=by
 have hL:env.locals∈qx A:=by
  exists bx top,outer,e;unfold qx;refine e▸?_;exact PP.mpr (aE env (.head _) hf)
 have mo:∀b,hP V b->hP [p] b:=λb h q hq=>by obtain rfl:=No.mp hq;exact h _ (M6 hp)
 exists F.less ⟨mo _ F.off.1,λc hc=>mo _ (F.off.2 c hc)⟩ ⟨X.fr _ hL,X.cells⟩ (λi v u e r=>?_),i,v,e
 . match i,e with
   | 1,e=>
     obtain rfl:=MI (MI e);exists vRef (r (.ref 1) rfl),a,d',ep;obtain rfl:=MI (e1.symm.trans ep);exact Vq0
   | 2,e=>
     obtain rfl:=MI (MI e);exists vRef (r (.ref n) rfl),a,d',ep;obtain rfl:=MI (hp.symm.trans ep);exact .ref rfl
   | 0,e | 3,e | 4,e | 5,e=>cases e
   | _+6,e=>exists _
 . match i,e with
   | 1,e=>exact⟨_,rfl⟩|2,e=>exact⟨_,rfl⟩|0,e | 3,e | 4,e | 5,e=>cases e
   | _+6,e=>cases e
end
end
theorem BX{K:Ck}(h:KL TT (.asg i e) K x=true)(Kz:∀id p v pos,x= .Assign [.Name id p] v pos->K.names[i]? =some id->((!dc v&&bt K id&&cC TT e K v)||vn TT K e id p v)=true->Gz):Gz:=
 az h λa h=>az h λn h=>(Kz _ _ _ _ (a.2.trans (congrArg (λz=>Stmt.Assign [z] a.1.2.1 a.1.2.2) n.2)) (beq_iff_eq.mp (aa h)) (ae h))
theorem Hq{K:Ck}(h:KL TT (.asg i e) K x=true):∃id p v pos,x= .Assign [.Name id p] v pos/\K.names[i]? =some id/\((!dc v&&bt K id&&cC TT e K v)||vn TT K e id p v)=true:=Ew λX Kz=>BX h Kz
theorem xf{K:Ck}(h:cC TT (.slcTo o i) K x=true)(Kz:∀v e q p,x= .Subscript v (.Slice none (some e) none q) p->cC TT o K v=true->cC TT i K e=true->Gz):Gz:=
 az h λy h=>az h λz h=>(Kz _ _ _ _ (y.2.trans (congrArg (λw=>PySem.Expr.Subscript y.1.1 w y.1.2.2) z.2)) (aa h) (ae h))
theorem Ly(xs:List Int):∃n s,bc (ac P 5) P.glo P.init (TK [1,2] (Tu [Tx 104 [],TZ (TS (Tz .lt (Tr 0) (TM (Tr 1))) (Tv (Tr 1) (Tr 0)) (Ts 0)) true (Ts 5) none])) %[.ref 0|5] [.list (xs.map .int)]=
 .ok (.nxt,%[.ref 0,.ref 1,.ref n|3]) s/\s[1]? =some (.dictS (aF KF))/\s[n]? =some (.list ((wL xs).map .int)):=
 let ⟨s,a,_,b⟩:=AO (xs:=xs);⟨_,s,a,b⟩
section
variable{prog:Ob}{w:Oc}{h0:Heap}{f:Nat->Addr}{K:Ck}{body:List Stmt}{vs:List Od}{xs:List Int}
theorem Ds(H:∀h,(∀b o,h0.get? b=some o->h.get? b=some o)->lH prog w h)(hb:qs TT kE K body=true)(g:h0.IsList (f 0) vs.toArray)(r:aK (cx prog w h0) [] h0 vs (xs.map .int))(hl:xs.length<=4000):
 yC {cx prog w h0 with fa:=f} 11 K [] [] (some (.fn 0)::ph.tail) (λB=> .ok (.ret (.bool true),ph) []) (Um body):=by
 intro s env A Q E ok F he pass k;exists pM hb,x0,r1,rfl,k0,hb1;exists pM hb1,x1,r2,rfl,k1,hb2;obtain⟨id,p,v,pos,rfl,hi,k0⟩:=Hq k0;have k0:(!dc v&&bt K id&&cC TT (.slcTo (.loc 0) (.int 63)) K v)=true:=(NQ.mp k0).elim (λz=>z) λz=>Bool.noConfusion z;exists xf (ae k0),e1,e2,q,p1,rfl,o1,o2;have G0:lH prog w h0:=H h0 λB B e=>e;have S1:br {cx prog w h0 with fa:=f} 11 K (aW {cx prog w h0 with fa:=f}) (λO=>aZ ((O[0]?).join)) (eval e1):=az o1 λy hy=>y.2▸(HW (call:=ac P 5) hy).1;have S2:br {cx prog w h0 with fa:=f} 11 K (aW {cx prog w h0 with fa:=f}) (λB=>ret (TF 63)) (eval e2):=az o2 λy hy=>az hy λz hz=>y.2▸(Hx (call:=ac P 5) z.2 hz).1;refine Uo (AJ (C:=cx prog w h0) hi (ae (aa k0)) S1 S2 ok F he g r hl λs1 V1 Y1 e1 st1 ok1 F1=>?_);subst e1;have F1:cc (cx prog w h0) V1 s1.heap env K.names %[.ref 0|5]:=F1;clear S1 S2 o1 o2 k0;exists fk (Ly (xs.take (dz 63 xs.length))),n,Y2,el,q1,qn;have HC:=qa G0;have S3:=λQ=>Hy G0.glo (HC 5) (oK G0.mis) (uY G0.glo (HC 5) G0.mis) _ K x1 k1 V1 s1 _ _ env A Q E (ok1.fewer (d':=5) %[|1]) F1 he ⟨pass.po,pass.top,pass.fr⟩;erw[el] at S3;refine Uo (S3 _ ?_);intro fl s2 V2 st2 ok2 F2 fr
 cases fl with
 | next=>?_|_=>exact fr.elim
 have ok2:Ok (cx prog w h0) A 11 V2 Y2 s2:=⟨ok1.room,ok2.rel,ok2.ff⟩;exists cps,Gz,Kz;exists aA (ok2.rel.obj 1 _ q1),pf,ef,B;exists aA (ok2.rel.obj n _ qn),pn,en,B;have ne:1≠n:=λz=>by subst z;cases MI (q1.symm.trans qn)
 exists bx (IY (cx prog w h0) A env s2.heap pn),H1,X;have hmem:pn∈V2:=M6 en;have keep1:=X.old ok2 F2 hmem;have G1:=H H1 keep1;have HC1:=qa G1;have mo:∀b,hP V2 b->hP [pn] b:=λb h q hq=>by obtain rfl:=No.mp hq;exact h _ hmem
 have ok3:Ok (cx prog w H1) A 11 [pn] [.list ((wL (xs.take (dz 63 xs.length))).map .int)] s2:=⟨ok2.room,(X.rel ok2 (wL (xs.take (dz 63 xs.length))) en qn),ok2.ff.less X.fr mo⟩;refine Kz ?_;exists yS (d:=0) (Y:=[.list ((wL (xs.take (dz 63 xs.length))).map .int)]) (r0:=none) (nq:=0) rfl C3,O4,Y4,er,B;have S4:=sj G1.glo (HC1 11) (oK G1.mis) (uY G1.glo (HC1 11) G1.mis) _ K r2 (show qs TT (kE.drop 2) K r2=true from hb2) [pn] s2 _ _ env A Q E ok3 (X.frame F2 en ef pass.top pass.fr (X.fields ok2 F2 ef (ok2.rel.apart 1 n pf pn ef en ne) q1 G0.glo.sys)) he ⟨pass.po,pass.top,pass.fr⟩;erw[show ax (ac P 11) P.glo P.init _ _ _=_ from er] at S4;refine S4 ?_;intro fl s3 V3 st3 ok4 F4 fr
 cases fl with
 | ret v=>?_|_=>exact fr.elim
 obtain rfl:=yb fr;have st12:=st1.trans st2;have keep3:∀b o,h0.get? b=some o->s3.heap.get? b=some o:=λb o e=>ok4.rel.keep b o (keep1 b o e);have gone:∀b o,s.heap.get? b=some o->hP [pn] b:=λb o e q hq=>by
  obtain rfl:=No.mp hq;rcases st12.step.new q hmem with z | ⟨z1,z2⟩
  . cases z
  . exact⟨λy=>jz z1 (y▸e),λy=>jz z2 (y▸e)⟩
 refine k (.ret (.bool true)) s3 [] ⟨⟨.refl [],λb o e ho hw=>(st12.step.stay b o e ho hw).trans λo' e'=>st3.step.stay b o' e' (gone b o e) hw,nofun,st12.step.tup.trans st3.step.tup,λb o e=>let ⟨_,e'⟩:=st12.step.there b o e;st3.step.there b _ e'⟩,qD keep3,st12.sh.trans st3.sh⟩
  ⟨ok.room,qD keep3,ok4.ff.less (λL hL=>(ok2.ff.frame hL).1) λB B=>oA⟩ (F4.less ⟨oA,λB B=>oA⟩ F2.old (λi v u e B=>(iX e).elim) λi v e=>(iX e).elim) (.bool true)
end
theorem xG:qh callerA 12:=⟨rfl,by decide+kernel,by decide+kernel⟩
theorem Bs:FF C callerA [] h:=(aE ([]) rfl (λX x=>absurd x MS))
theorem Ih:P.fns[105]? =some ⟨1,[],6,kE⟩:=rfl
theorem CW{xs:List Int}{Q E:Od->Og->Prop}(H:∀h,(∀b o,s.heap.get? b=some o->h.get? b=some o)->lH prog w h)(g:s.heap.IsList a vs.toArray)
 (r:aK (cx prog w s.heap) [] s.heap vs (xs.map .int)) (hl:xs.length<=4000) (k:∀s',(∀b o,s.heap.get? b=some o->s'.heap.get? b=some o)->Sh s s'->Q (.bool true) s'):Oo (model prog w) callerA (Q0 (.ref (jr 105)) [.ref a]) Q E s:=by
 haveI G0:=H s.heap λX X e=>e;refine bD (G0.fns 105 _ Ih %[|1]) λo fd body names z'0=>bx z'0 λD F=>?_;haveI hD:D=[]:=by cases F.dv;rfl
 subst hD;haveI F':Kl {cx prog w s.heap with fa:=λi=>if i=105 then jr 105 else a} TT 105 ⟨1,[],6,kE⟩ o fd body names []:={F with obj:=F.obj,dv:= .nil,dd:=F.dd}
 exact xN (C:={cx prog w s.heap with fa:=λi=>if i=105 then jr 105 else a}) (f:=105) (d:=11) (V:=[]) (Y:=[]) (xs:=[.fn 0]) (ws:=[.fn 0]) G0.glo.lim F' (Ds (f:=λi=>if i=105 then jr 105 else a) H F.ok g r hl) xG (qD λX X e=>e) Bs
  (.cons (.fn 0) .nil) rfl (show KV _ [] s Q (.bool true) [] fromλv s' V' st rv=>yb rv▸k s' st.rel.keep st.sh)
end Internal
end
section
open PySem PySem.W PyProof.Rows
namespace Internal
noncomputable abbrev Ce:OpenRow:=Pn.row
def YP(h:Heap):Prop:=∃aL,j8 aL h/\zG aL=true/\Jf.map (λi=>oQ aL (jr i))=Jf.map zR
noncomputable def H4:Option (DefRec×List (MJ×ML)):=defOf pq "law"
theorem EU:H4.isSome=true:=%[|2]
noncomputable def xl:DefRec:=(H4.get EU).1
theorem Ff:defOf pq "law"=some (xl,[]):=%[|2]
theorem FE:pw.theDef "law"=some (xl.params,xl.body,xl.scope):=%[|2]
theorem J8:kwWritten? xl.params.kwonlyargs xl.params.kw_defaults=some []:=%[|2]
theorem D7:xl.name="law":=%[|2]
noncomputable def Ke:Nat:=`law
theorem C7:ch Ke="law":=by decide+kernel
theorem Hl:qA[105]? =some Ke:=by decide+kernel
theorem YP.keep(y:YP h)(k:∀b o,h.get? b=some o->h'.get? b=some o):YP h':=let ⟨aL,a,b,c⟩:=y;⟨aL,λx o e=>k x o (a x o e),b,c⟩
theorem YP.ok(y:YP h):lH prog w h:=let ⟨_,a,b,c⟩:=y;GS a b c
theorem JP{h:Heap}(x:h.Ns a m)(y:h.Ns a m'):m=m':=by
 exists cU x,o,es,ep,g,d,X,f;exists cU y,o',es',ep',g',d',X,f';obtain rfl:=MI (g.symm.trans g');exists bj (SK (d.symm.trans d')),rfl,rfl;exact funext λn=>(f n).symm.trans (f' n)
section
variable{R:WRecords}{cl:MJ->Option Addr}{h:Heap}
theorem yK:∀{vs:List Od} {as:List Addr},ReadsAllW R cl h vs ds as->SN R ds .int=true->∃xs:List Int,xs.length=ds.length/\aK C [] h vs (xs.map .int):=by
 induction ds with
 | nil=>exactλr X=>(readsAllW_nil_inv r).1▸aE [] rfl .nil|cons d ds ih=>
   intro vs as r e;unfold SN at e;refine bD (readsAllW_cons_inv r) λv ws a1 a2 z'0=>fg z'0 λe1 X ra rb=>?_;exists bx (hasW_int (aa e)),i,ei;exists aA (readsW_int_inv (ei▸ra)),t,et,X;exists aA (ih rb (ae e)),xs,hl,r;exact e1▸et▸aE (i::xs) (congrArg (· +1) hl) (.cons (.int i t) r)
theorem Cd(r:ReadsAllW R cl h vals args as)(e:WShape.hasAll R args [.list .int]=true):∃(a:Addr) (vs:List Od) (xs:List Int) (ds:List WData),vals=[.ref a]/\args=[.list ds]/\h.IsList a vs.toArray/\xs.length=ds.length/\aK C [] h vs (xs.map .int):=by
 cases args with
 | nil=>cases e
 | cons d ds=>
   unfold WShape.hasAll at e;exists aA (hasW_list (aa e)),ys,ed,hi;refine bD (readsAllW_cons_inv r) λv ws a1 a2 z'0=>fg z'0 λe1 X ra rb=>?_
   cases ds with
   | cons d' ds'=>exact nomatch ae e|nil=>
     exists cU (readsW_list_inv (ed▸ra)),a,vs,as',ev,hl,rl,X;exists aA (yK (C:=C) rl hi),xs,hx,rr;exact⟨a,vs.toList,xs,ys,by rw[e1,ev,(readsAllW_nil_inv rb).1],by rw[ed],hl,hx,rr⟩
end
theorem FK(ds:List WData):Ce.pre.value [] {args:=[.list ds]}=some (.bool (!decide ((63:Int)<(ds.length:Int)))):=by
 show(match (match (some (QZ (decide ((63:Int)<(ds.length:Int))))) with | some (.bool b)=>some (QZ (!b)) | _=>none) with
  | some (.bool false)=>some (QZ false)
  | some (.bool true)=>(match some (QZ true) with
    | some (.bool x)=>some (.bool x)
    | _=>none)
  | _=>none)=_
 cases decide ((63:Int)<(ds.length:Int))<;>rfl
theorem GL(e:Ce.toRowW.claim.pre [.list ds]=true):ds.length<=63:=by
 have e:(match Ce.pre.value [] {args:=[.list ds]} with | some (.bool true)=>true | _=>false)=true:=(MT.mp e).2;rw[FK] at e
 cases h:decide ((63:Int)<(ds.length:Int)) with
 | true=>rw[h] at e;cases e
 | false=>exact PH.mp (Int.not_lt.mp (of_decide_eq_false h))
theorem Gr:same (.bool true) (.bool true)=true:=by decide+kernel
theorem Fk(args:List WData):Ce.toRowW.claim.post args (.bool true) args=true:=by
 refine MT.mpr ⟨(show WShape.has [] (.bool true) .bool=true by decide+kernel),?_⟩;show(match some (QZ (same (.bool true) (.bool true))) with | some (.bool true)=>true | _=>false)=true;rw[Gr]
theorem row_holds(said:Ce.wellSaid=true)(left:LeftO Ce.prog pq Le (λs=>xlAt pq [] s&&recOk Ce.records s) (λs=>YP s.heap) (λX=>True) 10300):Ce.Holds:=by
 refine PySem.W.holds_open (q:=pq) (loose:=Le) (XP:=λX X=>True) (YP:=λX h=>YP h) (d:=xl) (kwd:=[]) left (λw s e=>of_eq_true e) (λw h h' y k=>y.keep k) (λX X=>trivial) (λX X X X X=>trivial) Ff FE J8 (λs e=>recFacts_of (MT.mp e).2) rfl said (by decide+kernel) (lX rfl rfl rfl rfl rfl (by decide+kernel)) (aE ([.list []]) (by decide+kernel) (by decide+kernel)) ?_;intro w s0 s1 mg mb G Yq0 a o pm cd doc dV kV hg ho hcd hdf hmg hgens args vals as hpre hlay hr hwell hsys;obtain⟨b,vs,xs,ds,rfl,rfl,gl,hl,r⟩:=Cd (C:=cx Ce.prog w s1.heap) hr (aa hpre);haveI H:∀h,(∀b o,s1.heap.get? b=some o->h.get? b=some o)->lH Ce.prog w h:=λh k=>(Yq0.keep k).ok;haveI G0:=H s1.heap λX X e=>e;exists cF G0.glo.gl,mg',hn,hf,X;obtain rfl:=JP G.T.g hn;haveI ha:a=jr 105:=by
  have:=hf 105 Ke Hl;rw[C7] at this;rw[D7] at hmg;exact QJ (MI (hmg.symm.trans this))
 subst ha;exists CW H gl r (MO (hl▸GL hpre) %[|1]),s',keep,sh;refine(eK (.inl (ik _ (.bool true) ([]) (bT rfl (λX=>rfl) (.bool true) (Fk _) (λX=>⟨.nil,nofun⟩)))) (.of_keep keep) sh.os (.of_eq (sh.gens.trans hgens)))
end Internal
end
section
open PySem PySem.W PyProof.Rows
namespace Internal
theorem tX(w:Oc)(os:Uu):jS (stepT (denote UB) pw w) (stepOk 11 (some (.ref 6))) 10300 ⟨rV w.params,11,{},SC [],boot_drawn,boot_toks,os⟩ (topStub pw)=JY w os:=by rw[yy,Cq]
theorem pw_left:LeftO Ce.prog pq Le (λs=>xlAt pq [] s&&recOk Ce.records s) (λs=>YP s.heap) (λX=>True) 10300:=
 u4 (M:=10300) FV Ib GF (λw os=>(congrArg _ (tX w os)).trans (FN w os)) (λw os=>(congrArg _ (tX w os)).trans (GZ w os))
  (λs e=>⟨Dl s,BC s,(Q8 e).1,(Q8 e).2⟩) rfl
end Internal
theorem PySem.Challenge.cw_pq1112_01_holds : PySem.Challenge.rw_pq1112_01.Holds := by
 exact holds_law Internal.law_said λsaid=>Internal.row_holds said Internal.pw_left
end
