import PyProof.Rows.All
import Wide.All
import OpenK.AllK
import Wide.FinOn
import Lean
import PySem.Challenge.RW_or0074_01
set_option Elab.async false
set_option maxRecDepth 100000
set_option linter.all false
set_option genInjectivity false
set_option genSizeOf false
set_option maxHeartbeats 0
set_option tactic.hygienic false
namespace lg
open List renaming length_append → g3, length_cons → O8, all_eq_true → Pa, length_map → Pd, mem_cons → Pf, append_assoc → Pi, append_nil → Pk, not_mem_nil → Pn, map_map → Po, mem_singleton → Pv, getElem?_eq_getElem → PC, length_nil → PD, mem_append → PE, replicate → PF, mem_map → PI, getElem?_map → PM, range → PN, getElem?_eq_some_iff → PP, nodup_cons → PX, length_pos_iff → PY, lookup_cons → P3, mem_append_right → P4, drop_drop → P9, drop_eq_nil_iff → Qb, drop_eq_nil_of_le → Qc, drop_left → Qd, map_cons → Qe, length → Qh, map_append → Qk, getLast?_eq_some_iff → Ql, map_nil → Qs, contains_iff_mem → Qt, mem_cons_of_mem → Qv, cons_ne_nil → Qz, length_drop → QC, getElem?_append_right → QD, getD_eq_getElem?_getD → QE, mem_map_of_mem → QG, length_range → QH, map_congr_left → QI, map_inj_left → QJ, take_left → QK, eq_nil_of_length_eq_zero → QR, mem_append_left → QU, length_eq_zero_iff → QW, getElem?_append_left → Ra, getElem_mem → Ri, take_length → Rj, getLast?_eq_some_getLast → Rk, mem_range → Rl, take_of_length_le → Rn, size_toArray → Rv, any_eq_false → Rw, mem_of_mem_drop → Rz, mem_of_getElem? → RA, forIn_cons → RK, foldl_cons → RN, filter_cons_of_pos → RS, getElem?_cons_succ → RU, nodup_append → RV, take_append_drop → R0, length_take → R5, drop_append_of_le_length → R6, take_append_of_le_length → R7, mem_of_mem_take → R8, length_take_le' → Sc, mem_filter → Sh, replicate_succ → Sk, length_reverse → Sn, lookup_append → Sy, drop_eq_getElem_cons → SD, drop_take → SG, take_add_one → SW, getElem?_replicate → S2, map_id → S5, filter_cons_of_neg → S6, reverse_eq_nil_iff → S8, perm_middle → S9, isEmpty_iff → Td, getLast_mem → Tg, take_append → Th, all_map → Tt, map_id' → Tu, map → Tx, drop_zero → TD
open Option.some renaming inj → le
open Nat renaming le_trans → O5, not_lt_zero → O7, le_of_eq → O9, lt_of_le_of_lt → Pb, add_le_add_left → Pe, add_le_add_right → Pg, lt_of_lt_of_le → Pj, not_lt → Pt, le_of_lt → Pw, le_refl → Px, lt_irrefl → PG, mul_le_mul_right → PH, le_antisymm → PJ, add_le_add → PL, le_of_succ_le_succ → PR, le_of_ble_eq_true → PT, le_add_right → PV, le_of_not_lt → P7, lt_trans → Qa, add_comm → Qr, lt_succ_self → Qx, lt_of_not_le → QA, zero_le → QF, ne_of_lt → QZ, mul_le_mul_left → Q1, lt_of_succ_lt_succ → Q5, add_assoc → Q7, le_succ_of_le → Rc, zero_add → Re, le_add_left → Rr, succ_pos → Rs, ne_of_gt → RH, lt_of_lt_of_eq → RM, min_eq_left → RO, add_sub_cancel_left → RT, succ_le_succ → R1, min_eq_right → R2, not_le_of_lt → R3, ble → Sf, le_succ → Sj, length_toDigits_le_iff → So, add_right_comm → Sr, beq → Sz, not_lt_of_le → Tc, succ_ne_self → Te, noConfusion → Tk, sub_self → Tl, succ_mul → To, sub_le → Tw
open PySem.Str renaming ofString → O6
open Int renaming ofNat_le → Ph, ofNat_lt → Ps, natCast_nonneg → Pu, not_lt → PK, le_trans → Qp, le_of_lt → Q0, toNat_of_nonneg → Q2, ne_of_gt → Rd, eq_ofNat_of_zero_le → Rg, ne_of_lt → RY, fmod_eq_emod_of_nonneg → Sq, lt_of_le_of_lt → Ss, lt_of_lt_of_le → Su, ofNat_inj → S7, max_eq_right → Tf, le_antisymm → Tn, min_eq_left → Tq, not_le → Tv, le_refl → TF
open Bool renaming false_ne_true → Pm, and_eq_true_iff → Qg, noConfusion → Qy, eq_iff_iff → QP, or_eq_true_iff → Q3, or_eq_false_iff → Rb, false_eq_true → Rp, and_eq_true → RD, not_eq_true' → SM, and_false → TB
open UInt8 renaming ofNat → Pp, toNat_inj → Qj, toNat → Q4, toNat_ofNat' → Q9, lt_iff_toNat_lt → Ru, ofNat_toNat → Rx
open PySem.Heap renaming get?_push_of_some → Pq, lt_size → Py, get?_push_size → Pz, size_push → P0, SameBut → QL, size_update → Q6, get?_update_self → Q8, get?_update_other → Rm, dictOf_iff → Tp
open Or renaming elim → PA
open Prod.mk renaming inj → PB
open PySem.Builtin.Bytes renaming occurrences → PO, find? → PW, joined → P1, window → P2, buffer? → QO, bytesLike → QY, decodersThatHold → Rf, write → Rh, tooLong → Rt, checkResize → RC, byteValue → RQ, payload → RZ, bindOptional → Sp, joinLetGo → S3, exported → Ti
open Option renaming isSome_iff_exists → PQ, ite_none_right_eq_some → P6, map_eq_some_iff → Qi, map → Qq, bind_some → QT, isNone_iff_eq_none → RB, ite_none_left_eq_some → Sd, isSome → Se, none_or → SI
open Array renaming length_toList → PS, getElem?_toList → PZ, getElem?_eq_some_iff → Ry, toList_inj → RE, toList_append → RF, size_append → RW, mem_toList_iff → Sa, getElem?_eq_getElem → SE, toList_push → SK, any_toList → Tb, size_push → Tm
open Classical renaming byContradiction → PU
open PySem.Builtin.Int renaming intBits → P5
open PySem.Value renaming noConfusion → P8, bytes → QS, int → RL, ref → Sl
open Eq renaming symm → Qf
open Int.ofNat renaming inj → Qm
open PySem.NameKind renaming free → Qn, cell → QV, noConfusion → R9
open PySem.Sem renaming wp_mono → Qo, wp_cmd_standAt → Ro, wp_bind' → RG, wp_holding → SA, wp_operate → SC
open PySem.Builtin.Range renaming rangeSize → Qu, small → Si
open PySem.Around renaming under_plainId → Qw
open PySem.Obj renaming mapBytearray → QB, putName → RX, mapSeq → SZ
open ForInStep renaming yield → QM
open Std.Legacy.Range renaming forIn_eq_forIn_range' → QQ, size → Ts
open List.cons renaming inj → QX
open PySem.Challenge renaming rw_or0074_01 → Rq
open PySem renaming Slot → RI
open PySem.F renaming slot_list_getattribute → RJ, slot_str_split → R4, args_object_init_2 → Sb, bm_called → Sm, args_tuple_add_2 → Sv, args_str_split_2 → Sw, slot_list_getitem → SH, entry_tuple_add → SN, entry_str_split → SR, slot_list_extend → SY, plainAttrs_list → S4, slot_tuple_add → Ta
open PySem.Builtin.Str renaming occurrences → RP, partsBetween → SQ, codecArg → Tz, strKind → TG
open PySem.PyData renaming keyHash → SF
open PySem.Env renaming kindOf → SJ
open PySem.W.FB renaming args_bytes_contains_2 → SP, owner_bytes → TA
open PySem.Builtin.Bytes.Kind renaming bytes → SU
open List.Nodup renaming idxOf_getElem → SX
open PySem.Value.ref renaming inj → S0
open Ne renaming symm → S1
open PySem.Txt renaming split → Tj
open PySem.W.KBy renaming special_eq → TC
open PySem.Heap.DictOf renaming mapOf → TH
open Nat.succ renaming inj → TI
open Prod renaming ext → TJ
open PySem PySem.Calls PySem.W PyProof.Rows PySem.SeqAt
open Option renaming some → TK,none → TW
open Bool renaming true → TN,false → TO
open PySem renaming Shared → TP,Value → TT,wpAny_bind → TV,wpAny_pure → TX,Around → T0,builtinLookup_eq_fast → T1,Addr → T2,Expr → T3,typeLookup_type → T4,mainGlobals → T5,wpAny → T6,compareOp → T7,sizeLine → T8,wpAny_of_eq → T9,Arguments → Ub,bm_if_false → Uc,checkBuiltinCall → Ud,starEach → Ue,binaryOp → Uf,letTemporaryGo → Ug,getitemInPython → Uh,wpAny_specialOf → Ui,NameKind → Uj,behindInMarks → Uk,entryFor_of_tree → Ul,Scope → Um,builtinsNs → Un,isSubtype_type → Uo,standAt → Up,Builtin → Uq,sizeLine_eq → Ur,getMethod_builtin → Us,Heap → Ut,clipAt → Uu,World → Uv,builtinType_eq_fast → Uw,recursionLimit → Ux,isTrue → Uz,typeLookup → UA,entryFor → UB,getMethod → UC,wpAny_holding → UD,signature?_of → UE,plainId_quiet → UF,wpAny_rule → UG,Operator → UH,call_meets → UI,Stmt → UJ,wpAny_typeOf → UK,wpAny_isInstance → UL,Result → UM,getItem → UN,importedModules → UO,backTo → UP,argsOk → UR,markedBehindIn_of_false → US,cellsFrom → UT,wpAny_truthy_bool → UU,wpAny_load → UV,exec_Assign_Name → UW,bm_if_true → UX,partValue → UY,wpAny_mkBytes → UZ,FuncData → U1,slicePicked → U2,strIterType → U3,theTreesLotGoes → U4,rawInt → U5,codeAny_builtin → U6,Program → U7,DictEntry → U8,treeTable → U9,Flow → Va,pyIter → Vb,bindArgs → Vc,newFunctionEnv → Vd,typeIs_str → Ve,wpAny_newObj_type → Vf,foldedSetIterable → Vg,unpackItems → Vh,wpAny_pyIter_list → Vi,builtinType → Vj,attributeBase → Vk,assignInOrder → Vl,loadName → Vo,noteFrame → Vp,noFill_tuple_add → Vr,allTrue → Vs,letOwnedTupleGo → Vt,CmpOp → Vu,codeAny_of_tree → Vv,leftWithCleanup → Vw,evalEach → Vx,callType_codes → Vy,storeName → Vz,valueAt → VA,closureFor → VD,typeOf → VE,Params → VF,callWith → VG,getAttr → VH,codeAny → VK,Model → VS
open PySem.W renaming typeIs_bytes → Ua,emptyDict → Uy,findIn → UQ,instObj → U0,kitOne → Vm,lookIn → Vn,Frag → Vq,kitAny → VQ
theorem TL.{u}{α:Sort u}{a:α}:a=a:=.refl a
theorem TM{p:Prop}[Decidable p](h:decide p=true):p:=of_decide_eq_true h
theorem TQ.{u,v}{α:Sort u}{β:Sort v}{a b:α}(f:α->β)(h:a=b):f a=f b:=congrArg f h
theorem TR{p:Prop}[Decidable p](h:¬p):decide p=false:=decide_eq_false h
theorem TS{p:Prop}[Decidable p](h:p):decide p=true:=decide_eq_true h
theorem TU{a b:Prop}(h:a)(k:¬a):b:=absurd h k
theorem TY.{u}{c:Prop}{h:Decidable c}(hc:c){α:Sort u}{t e:α}:ite c t e=t:=if_pos hc
theorem TZ.{u}{c:Prop}{h:Decidable c}(hc:¬c){α:Sort u}{t e:α}:ite c t e=e:=if_neg hc
theorem aM {a b:Prop} {G:Prop} (h:a/\b) (k:a->b->G):G:=k h.1 h.2
theorem fE {a b c:Prop} {G:Prop} (h:a/\b/\c) (k:a->b->c->G):G:=k h.1 h.2.1 h.2.2
theorem FJ {a b c d:Prop} {G:Prop} (h:a/\b/\c/\d) (k:a->b->c->d->G):G:=k h.1 h.2.1 h.2.2.1 h.2.2.2
theorem ou {a b c d e:Prop} {G:Prop} (h:a/\b/\c/\d/\e) (k:a->b->c->d->e->G):G:=k h.1 h.2.1 h.2.2.1 h.2.2.2.1 h.2.2.2.2
theorem NF {a b c d e f:Prop} {G:Prop} (h:a/\b/\c/\d/\e/\f) (k:a->b->c->d->e->f->G):G:=k h.1 h.2.1 h.2.2.1 h.2.2.2.1 h.2.2.2.2.1 h.2.2.2.2.2
theorem MU {a b c d e f g i:Prop} {G:Prop} (h:a/\b/\c/\d/\e/\f/\g/\i) (k:a->b->c->d->e->f->g->i->G):G:=k h.1 h.2.1 h.2.2.1 h.2.2.2.1 h.2.2.2.2.1 h.2.2.2.2.2.1 h.2.2.2.2.2.2.1 h.2.2.2.2.2.2.2
theorem cR.{c} {a:Sort c} {b:a->Prop} {G:Prop} (h:∃x0,b x0) (k:∀x0,b x0->G):G:=h.elim λx0 h=>k x0 h
theorem aT.{d} {a:Sort d} {b c:a->Prop} {G:Prop} (h:∃x0,b x0/\c x0) (k:∀x0,b x0->c x0->G):G:=h.elim λx0 h=>k x0 h.1 h.2
theorem ix.{e} {a:Sort e} {b c d:a->Prop} {G:Prop} (h:∃x0,b x0/\c x0/\d x0) (k:∀x0,b x0->c x0->d x0->G):G:=h.elim λx0 h=>k x0 h.1 h.2.1 h.2.2
theorem ub.{f} {a:Sort f} {b c d e:a->Prop} {G:Prop} (h:∃x0,b x0/\c x0/\d x0/\e x0) (k:∀x0,b x0->c x0->d x0->e x0->G):G:=h.elim λx0 h=>k x0 h.1 h.2.1 h.2.2.1 h.2.2.2
theorem NG.{i} {a:Sort i} {b c d e f g:a->Prop} {G:Prop} (h:∃x0,b x0/\c x0/\d x0/\e x0/\f x0/\g x0) (k:∀x0,b x0->c x0->d x0->e x0->f x0->g x0->G):G:=h.elim λx0 h=>k x0 h.1 h.2.1 h.2.2.1 h.2.2.2.1 h.2.2.2.2.1 h.2.2.2.2.2
theorem NH.{l} {a:Sort l} {b c d e f g i j:a->Prop} {G:Prop} (h:∃x0,b x0/\c x0/\d x0/\e x0/\f x0/\g x0/\i x0/\j x0) (k:∀x0,b x0->c x0->d x0->e x0->f x0->g x0->i x0->j x0->G):G:=h.elim λx0 h=>k x0 h.1 h.2.1 h.2.2.1 h.2.2.2.1 h.2.2.2.2.1 h.2.2.2.2.2.1 h.2.2.2.2.2.2.1 h.2.2.2.2.2.2.2
theorem xK.{d,e} {a:Sort d} {b:Sort e} {c:a->b->Prop} {G:Prop} (h:∃x0,∃x1,c x0 x1) (k:∀x0 x1,c x0 x1->G):G:=h.elim λx0 h=>h.elim λx1 h=>k x0 x1 h
theorem kJ.{e,f} {a:Sort e} {b:Sort f} {c d:a->b->Prop} {G:Prop} (h:∃x0,∃x1,c x0 x1/\d x0 x1) (k:∀x0 x1,c x0 x1->d x0 x1->G):G:=h.elim λx0 h=>h.elim λx1 h=>k x0 x1 h.1 h.2
theorem bB.{f,g} {a:Sort f} {b:Sort g} {c d e:a->b->Prop} {G:Prop} (h:∃x0,∃x1,c x0 x1/\d x0 x1/\e x0 x1) (k:∀x0 x1,c x0 x1->d x0 x1->e x0 x1->G):G:=h.elim λx0 h=>h.elim λx1 h=>k x0 x1 h.1 h.2.1 h.2.2
theorem m0.{g,i} {a:Sort g} {b:Sort i} {c d e f:a->b->Prop} {G:Prop} (h:∃x0,∃x1,c x0 x1/\d x0 x1/\e x0 x1/\f x0 x1) (k:∀x0 x1,c x0 x1->d x0 x1->e x0 x1->f x0 x1->G):G:=h.elim λx0 h=>h.elim λx1 h=>k x0 x1 h.1 h.2.1 h.2.2.1 h.2.2.2
theorem NI.{i,j} {a:Sort i} {b:Sort j} {c d e f g:a->b->Prop} {G:Prop} (h:∃x0,∃x1,c x0 x1/\d x0 x1/\e x0 x1/\f x0 x1/\g x0 x1) (k:∀x0 x1,c x0 x1->d x0 x1->e x0 x1->f x0 x1->g x0 x1->G):G:=h.elim λx0 h=>h.elim λx1 h=>k x0 x1 h.1 h.2.1 h.2.2.1 h.2.2.2.1 h.2.2.2.2
theorem MV.{j,l} {a:Sort j} {b:Sort l} {c d e f g i:a->b->Prop} {G:Prop} (h:∃x0,∃x1,c x0 x1/\d x0 x1/\e x0 x1/\f x0 x1/\g x0 x1/\i x0 x1) (k:∀x0 x1,c x0 x1->d x0 x1->e x0 x1->f x0 x1->g x0 x1->i x0 x1->G):G:=h.elim λx0 h=>h.elim λx1 h=>k x0 x1 h.1 h.2.1 h.2.2.1 h.2.2.2.1 h.2.2.2.2.1 h.2.2.2.2.2
theorem KA.{e,f,g} {a:Sort e} {b:Sort f} {c:Sort g} {d:a->b->c->Prop} {G:Prop} (h:∃x0,∃x1,∃x2,d x0 x1 x2) (k:∀x0 x1 x2,d x0 x1 x2->G):G:=h.elim λx0 h=>h.elim λx1 h=>h.elim λx2 h=>k x0 x1 x2 h
theorem xL.{f,g,i} {a:Sort f} {b:Sort g} {c:Sort i} {d e:a->b->c->Prop} {G:Prop} (h:∃x0,∃x1,∃x2,d x0 x1 x2/\e x0 x1 x2) (k:∀x0 x1 x2,d x0 x1 x2->e x0 x1 x2->G):G:=h.elim λx0 h=>h.elim λx1 h=>h.elim λx2 h=>k x0 x1 x2 h.1 h.2
theorem H9.{g,i,j} {a:Sort g} {b:Sort i} {c:Sort j} {d e f:a->b->c->Prop} {G:Prop} (h:∃x0,∃x1,∃x2,d x0 x1 x2/\e x0 x1 x2/\f x0 x1 x2) (k:∀x0 x1 x2,d x0 x1 x2->e x0 x1 x2->f x0 x1 x2->G):G:=h.elim λx0 h=>h.elim λx1 h=>h.elim λx2 h=>k x0 x1 x2 h.1 h.2.1 h.2.2
theorem xM.{i,j,l} {a:Sort i} {b:Sort j} {c:Sort l} {d e f g:a->b->c->Prop} {G:Prop} (h:∃x0,∃x1,∃x2,d x0 x1 x2/\e x0 x1 x2/\f x0 x1 x2/\g x0 x1 x2) (k:∀x0 x1 x2,d x0 x1 x2->e x0 x1 x2->f x0 x1 x2->g x0 x1 x2->G):G:=h.elim λx0 h=>h.elim λx1 h=>h.elim λx2 h=>k x0 x1 x2 h.1 h.2.1 h.2.2.1 h.2.2.2
theorem KB.{j,l,m} {a:Sort j} {b:Sort l} {c:Sort m} {d e f g i:a->b->c->Prop} {G:Prop} (h:∃x0,∃x1,∃x2,d x0 x1 x2/\e x0 x1 x2/\f x0 x1 x2/\g x0 x1 x2/\i x0 x1 x2) (k:∀x0 x1 x2,d x0 x1 x2->e x0 x1 x2->f x0 x1 x2->g x0 x1 x2->i x0 x1 x2->G):G:=h.elim λx0 h=>h.elim λx1 h=>h.elim λx2 h=>k x0 x1 x2 h.1 h.2.1 h.2.2.1 h.2.2.2.1 h.2.2.2.2
theorem NJ.{l,m,n} {a:Sort l} {b:Sort m} {c:Sort n} {d e f g i j:a->b->c->Prop} {G:Prop} (h:∃x0,∃x1,∃x2,d x0 x1 x2/\e x0 x1 x2/\f x0 x1 x2/\g x0 x1 x2/\i x0 x1 x2/\j x0 x1 x2) (k:∀x0 x1 x2,d x0 x1 x2->e x0 x1 x2->f x0 x1 x2->g x0 x1 x2->i x0 x1 x2->j x0 x1 x2->G):G:=h.elim λx0 h=>h.elim λx1 h=>h.elim λx2 h=>k x0 x1 x2 h.1 h.2.1 h.2.2.1 h.2.2.2.1 h.2.2.2.2.1 h.2.2.2.2.2
theorem MW.{f,g,i,j} {a:Sort f} {b:Sort g} {c:Sort i} {d:Sort j} {e:a->b->c->d->Prop} {G:Prop} (h:∃x0,∃x1,∃x2,∃x3,e x0 x1 x2 x3) (k:∀x0 x1 x2 x3,e x0 x1 x2 x3->G):G:=h.elim λx0 h=>h.elim λx1 h=>h.elim λx2 h=>h.elim λx3 h=>k x0 x1 x2 x3 h
theorem Iq.{g,i,j,l} {a:Sort g} {b:Sort i} {c:Sort j} {d:Sort l} {e f:a->b->c->d->Prop} {G:Prop} (h:∃x0,∃x1,∃x2,∃x3,e x0 x1 x2 x3/\f x0 x1 x2 x3) (k:∀x0 x1 x2 x3,e x0 x1 x2 x3->f x0 x1 x2 x3->G):G:=h.elim λx0 h=>h.elim λx1 h=>h.elim λx2 h=>h.elim λx3 h=>k x0 x1 x2 x3 h.1 h.2
theorem MX.{i,j,l,m} {a:Sort i} {b:Sort j} {c:Sort l} {d:Sort m} {e f g:a->b->c->d->Prop} {G:Prop} (h:∃x0,∃x1,∃x2,∃x3,e x0 x1 x2 x3/\f x0 x1 x2 x3/\g x0 x1 x2 x3) (k:∀x0 x1 x2 x3,e x0 x1 x2 x3->f x0 x1 x2 x3->g x0 x1 x2 x3->G):G:=h.elim λx0 h=>h.elim λx1 h=>h.elim λx2 h=>h.elim λx3 h=>k x0 x1 x2 x3 h.1 h.2.1 h.2.2
theorem FK.{j,l,m,n} {a:Sort j} {b:Sort l} {c:Sort m} {d:Sort n} {e f g i:a->b->c->d->Prop} {G:Prop} (h:∃x0,∃x1,∃x2,∃x3,e x0 x1 x2 x3/\f x0 x1 x2 x3/\g x0 x1 x2 x3/\i x0 x1 x2 x3) (k:∀x0 x1 x2 x3,e x0 x1 x2 x3->f x0 x1 x2 x3->g x0 x1 x2 x3->i x0 x1 x2 x3->G):G:=h.elim λx0 h=>h.elim λx1 h=>h.elim λx2 h=>h.elim λx3 h=>k x0 x1 x2 x3 h.1 h.2.1 h.2.2.1 h.2.2.2
theorem K2.{l,m,n,o} {a:Sort l} {b:Sort m} {c:Sort n} {d:Sort o} {e f g i j:a->b->c->d->Prop} {G:Prop} (h:∃x0,∃x1,∃x2,∃x3,e x0 x1 x2 x3/\f x0 x1 x2 x3/\g x0 x1 x2 x3/\i x0 x1 x2 x3/\j x0 x1 x2 x3) (k:∀x0 x1 x2 x3,e x0 x1 x2 x3->f x0 x1 x2 x3->g x0 x1 x2 x3->i x0 x1 x2 x3->j x0 x1 x2 x3->G):G:=h.elim λx0 h=>h.elim λx1 h=>h.elim λx2 h=>h.elim λx3 h=>k x0 x1 x2 x3 h.1 h.2.1 h.2.2.1 h.2.2.2.1 h.2.2.2.2
theorem NK.{j,l,m,n,o} {a:Sort j} {b:Sort l} {c:Sort m} {d:Sort n} {e:Sort o} {f g i:a->b->c->d->e->Prop} {G:Prop} (h:∃x0,∃x1,∃x2,∃x3,∃x4,f x0 x1 x2 x3 x4/\g x0 x1 x2 x3 x4/\i x0 x1 x2 x3 x4) (k:∀x0 x1 x2 x3 x4,f x0 x1 x2 x3 x4->g x0 x1 x2 x3 x4->i x0 x1 x2 x3 x4->G):G:=h.elim λx0 h=>h.elim λx1 h=>h.elim λx2 h=>h.elim λx3 h=>h.elim λx4 h=>k x0 x1 x2 x3 x4 h.1 h.2.1 h.2.2
theorem NL.{l,m,n,o,p} {a:Sort l} {b:Sort m} {c:Sort n} {d:Sort o} {e:Sort p} {f g i j:a->b->c->d->e->Prop} {G:Prop} (h:∃x0,∃x1,∃x2,∃x3,∃x4,f x0 x1 x2 x3 x4/\g x0 x1 x2 x3 x4/\i x0 x1 x2 x3 x4/\j x0 x1 x2 x3 x4) (k:∀x0 x1 x2 x3 x4,f x0 x1 x2 x3 x4->g x0 x1 x2 x3 x4->i x0 x1 x2 x3 x4->j x0 x1 x2 x3 x4->G):G:=h.elim λx0 h=>h.elim λx1 h=>h.elim λx2 h=>h.elim λx3 h=>h.elim λx4 h=>k x0 x1 x2 x3 x4 h.1 h.2.1 h.2.2.1 h.2.2.2
theorem Ir.{l,m,n,o,p,q} {a:Sort l} {b:Sort m} {c:Sort n} {d:Sort o} {e:Sort p} {f:Sort q} {g i j:a->b->c->d->e->f->Prop} {G:Prop} (h:∃x0,∃x1,∃x2,∃x3,∃x4,∃x5,g x0 x1 x2 x3 x4 x5/\i x0 x1 x2 x3 x4 x5/\j x0 x1 x2 x3 x4 x5) (k:∀x0 x1 x2 x3 x4 x5,g x0 x1 x2 x3 x4 x5->i x0 x1 x2 x3 x4 x5->j x0 x1 x2 x3 x4 x5->G):G:=h.elim λx0 h=>h.elim λx1 h=>h.elim λx2 h=>h.elim λx3 h=>h.elim λx4 h=>h.elim λx5 h=>k x0 x1 x2 x3 x4 x5 h.1 h.2.1 h.2.2
theorem EF.{j,l,m,n,o,p,q} {a:Sort j} {b:Sort l} {c:Sort m} {d:Sort n} {e:Sort o} {f:Sort p} {g:Sort q} {i:a->b->c->d->e->f->g->Prop} {G:Prop} (h:∃x0,∃x1,∃x2,∃x3,∃x4,∃x5,∃x6,i x0 x1 x2 x3 x4 x5 x6) (k:∀x0 x1 x2 x3 x4 x5 x6,i x0 x1 x2 x3 x4 x5 x6->G):G:=h.elim λx0 h=>h.elim λx1 h=>h.elim λx2 h=>h.elim λx3 h=>h.elim λx4 h=>h.elim λx5 h=>h.elim λx6 h=>k x0 x1 x2 x3 x4 x5 x6 h
theorem NM.{n,o,p,q,r,s,t} {a:Sort n} {b:Sort o} {c:Sort p} {d:Sort q} {e:Sort r} {f:Sort s} {g:Sort t} {i j l m:a->b->c->d->e->f->g->Prop} {G:Prop} (h:∃x0,∃x1,∃x2,∃x3,∃x4,∃x5,∃x6,i x0 x1 x2 x3 x4 x5 x6/\j x0 x1 x2 x3 x4 x5 x6/\l x0 x1 x2 x3 x4 x5 x6/\m x0 x1 x2 x3 x4 x5 x6) (k:∀x0 x1 x2 x3 x4 x5 x6,i x0 x1 x2 x3 x4 x5 x6->j x0 x1 x2 x3 x4 x5 x6->l x0 x1 x2 x3 x4 x5 x6->m x0 x1 x2 x3 x4 x5 x6->G):G:=h.elim λx0 h=>h.elim λx1 h=>h.elim λx2 h=>h.elim λx3 h=>h.elim λx4 h=>h.elim λx5 h=>h.elim λx6 h=>k x0 x1 x2 x3 x4 x5 x6 h.1 h.2.1 h.2.2.1 h.2.2.2
theorem dQ {a b c:Prop} (d:a) (e:b) (f:c):a/\b/\c:=⟨d,e,f⟩
theorem B1 {a b c d:Prop} (e:a) (f:b) (g:c) (h:d):a/\b/\c/\d:=⟨e,f,g,h⟩
theorem BY {a b c d e:Prop} (f:a) (g:b) (h:c) (i:d) (j:e):a/\b/\c/\d/\e:=⟨f,g,h,i,j⟩
theorem K3 {a b c d e f:Prop} (g:a) (h:b) (i:c) (j:d) (k:e) (l:f):a/\b/\c/\d/\e/\f:=⟨g,h,i,j,k,l⟩
theorem NN {a b c d e f g h:Prop} (i:a) (j:b) (k:c) (l:d) (m:e) (n:f) (o:g) (p:h):a/\b/\c/\d/\e/\f/\g/\h:=⟨i,j,k,l,m,n,o,p⟩
theorem i12.{d} {a:Sort d} {b c:a->Prop} (x0:a) (e:b x0) (f:c x0):∃x0,b x0/\c x0:=⟨x0,e,f⟩
theorem eK.{e} {a:Sort e} {b c d:a->Prop} (x0:a) (f:b x0) (g:c x0) (h:d x0):∃x0,b x0/\c x0/\d x0:=⟨x0,f,g,h⟩
theorem FL.{f} {a:Sort f} {b c d e:a->Prop} (x0:a) (g:b x0) (h:c x0) (i:d x0) (j:e x0):∃x0,b x0/\c x0/\d x0/\e x0:=⟨x0,g,h,i,j⟩
theorem NO.{j} {a:Sort j} {b c d e f g h i:a->Prop} (x0:a) (k:b x0) (l:c x0) (m:d x0) (n:e x0) (o:f x0) (p:g x0) (q:h x0) (r:i x0):∃x0,b x0/\c x0/\d x0/\e x0/\f x0/\g x0/\h x0/\i x0:=⟨x0,k,l,m,n,o,p,q,r⟩
theorem hY.{d,e} {a:Sort d} {b:Sort e} {c:a->b->Prop} (x0:a) (x1:b) (f:c x0 x1):∃x0,∃x1,c x0 x1:=⟨x0,x1,f⟩
theorem dC.{e,f} {a:Sort e} {b:Sort f} {c d:a->b->Prop} (x0:a) (x1:b) (g:c x0 x1) (h:d x0 x1):∃x0,∃x1,c x0 x1/\d x0 x1:=⟨x0,x1,g,h⟩
theorem gF.{f,g} {a:Sort f} {b:Sort g} {c d e:a->b->Prop} (x0:a) (x1:b) (h:c x0 x1) (i:d x0 x1) (j:e x0 x1):∃x0,∃x1,c x0 x1/\d x0 x1/\e x0 x1:=⟨x0,x1,h,i,j⟩
theorem K4.{g,h} {a:Sort g} {b:Sort h} {c d e f:a->b->Prop} (x0:a) (x1:b) (i:c x0 x1) (j:d x0 x1) (k:e x0 x1) (l:f x0 x1):∃x0,∃x1,c x0 x1/\d x0 x1/\e x0 x1/\f x0 x1:=⟨x0,x1,i,j,k,l⟩
theorem NP.{h,i} {a:Sort h} {b:Sort i} {c d e f g:a->b->Prop} (x0:a) (x1:b) (j:c x0 x1) (k:d x0 x1) (l:e x0 x1) (m:f x0 x1) (n:g x0 x1):∃x0,∃x1,c x0 x1/\d x0 x1/\e x0 x1/\f x0 x1/\g x0 x1:=⟨x0,x1,j,k,l,m,n⟩
theorem NQ.{k,l} {a:Sort k} {b:Sort l} {c d e f g h i j:a->b->Prop} (x0:a) (x1:b) (m:c x0 x1) (n:d x0 x1) (o:e x0 x1) (p:f x0 x1) (q:g x0 x1) (r:h x0 x1) (s:i x0 x1) (t:j x0 x1):∃x0,∃x1,c x0 x1/\d x0 x1/\e x0 x1/\f x0 x1/\g x0 x1/\h x0 x1/\i x0 x1/\j x0 x1:=⟨x0,x1,m,n,o,p,q,r,s,t⟩
theorem K5.{e,f,g} {a:Sort e} {b:Sort f} {c:Sort g} {d:a->b->c->Prop} (x0:a) (x1:b) (x2:c) (h:d x0 x1 x2):∃x0,∃x1,∃x2,d x0 x1 x2:=⟨x0,x1,x2,h⟩
theorem xN.{f,g,h} {a:Sort f} {b:Sort g} {c:Sort h} {d e:a->b->c->Prop} (x0:a) (x1:b) (x2:c) (i:d x0 x1 x2) (j:e x0 x1 x2):∃x0,∃x1,∃x2,d x0 x1 x2/\e x0 x1 x2:=⟨x0,x1,x2,i,j⟩
theorem MY.{g,h,i} {a:Sort g} {b:Sort h} {c:Sort i} {d e f:a->b->c->Prop} (x0:a) (x1:b) (x2:c) (j:d x0 x1 x2) (k:e x0 x1 x2) (l:f x0 x1 x2):∃x0,∃x1,∃x2,d x0 x1 x2/\e x0 x1 x2/\f x0 x1 x2:=⟨x0,x1,x2,j,k,l⟩
theorem EG.{h,i,j} {a:Sort h} {b:Sort i} {c:Sort j} {d e f g:a->b->c->Prop} (x0:a) (x1:b) (x2:c) (k:d x0 x1 x2) (l:e x0 x1 x2) (m:f x0 x1 x2) (n:g x0 x1 x2):∃x0,∃x1,∃x2,d x0 x1 x2/\e x0 x1 x2/\f x0 x1 x2/\g x0 x1 x2:=⟨x0,x1,x2,k,l,m,n⟩
theorem K6.{i,j,k} {a:Sort i} {b:Sort j} {c:Sort k} {d e f g h:a->b->c->Prop} (x0:a) (x1:b) (x2:c) (l:d x0 x1 x2) (m:e x0 x1 x2) (n:f x0 x1 x2) (o:g x0 x1 x2) (p:h x0 x1 x2):∃x0,∃x1,∃x2,d x0 x1 x2/\e x0 x1 x2/\f x0 x1 x2/\g x0 x1 x2/\h x0 x1 x2:=⟨x0,x1,x2,l,m,n,o,p⟩
theorem NR.{j,k,l} {a:Sort j} {b:Sort k} {c:Sort l} {d e f g h i:a->b->c->Prop} (x0:a) (x1:b) (x2:c) (m:d x0 x1 x2) (n:e x0 x1 x2) (o:f x0 x1 x2) (p:g x0 x1 x2) (q:h x0 x1 x2) (r:i x0 x1 x2):∃x0,∃x1,∃x2,d x0 x1 x2/\e x0 x1 x2/\f x0 x1 x2/\g x0 x1 x2/\h x0 x1 x2/\i x0 x1 x2:=⟨x0,x1,x2,m,n,o,p,q,r⟩
theorem MZ.{f,g,h,i} {a:Sort f} {b:Sort g} {c:Sort h} {d:Sort i} {e:a->b->c->d->Prop} (x0:a) (x1:b) (x2:c) (x3:d) (j:e x0 x1 x2 x3):∃x0,∃x1,∃x2,∃x3,e x0 x1 x2 x3:=⟨x0,x1,x2,x3,j⟩
theorem kK.{g,h,i,j} {a:Sort g} {b:Sort h} {c:Sort i} {d:Sort j} {e f:a->b->c->d->Prop} (x0:a) (x1:b) (x2:c) (x3:d) (k:e x0 x1 x2 x3) (l:f x0 x1 x2 x3):∃x0,∃x1,∃x2,∃x3,e x0 x1 x2 x3/\f x0 x1 x2 x3:=⟨x0,x1,x2,x3,k,l⟩
theorem NS.{h,i,j,k} {a:Sort h} {b:Sort i} {c:Sort j} {d:Sort k} {e f g:a->b->c->d->Prop} (x0:a) (x1:b) (x2:c) (x3:d) (l:e x0 x1 x2 x3) (m:f x0 x1 x2 x3) (n:g x0 x1 x2 x3):∃x0,∃x1,∃x2,∃x3,e x0 x1 x2 x3/\f x0 x1 x2 x3/\g x0 x1 x2 x3:=⟨x0,x1,x2,x3,l,m,n⟩
theorem KC.{i,j,k,l} {a:Sort i} {b:Sort j} {c:Sort k} {d:Sort l} {e f g h:a->b->c->d->Prop} (x0:a) (x1:b) (x2:c) (x3:d) (m:e x0 x1 x2 x3) (n:f x0 x1 x2 x3) (o:g x0 x1 x2 x3) (p:h x0 x1 x2 x3):∃x0,∃x1,∃x2,∃x3,e x0 x1 x2 x3/\f x0 x1 x2 x3/\g x0 x1 x2 x3/\h x0 x1 x2 x3:=⟨x0,x1,x2,x3,m,n,o,p⟩
theorem NT.{j,k,l,m} {a:Sort j} {b:Sort k} {c:Sort l} {d:Sort m} {e f g h i:a->b->c->d->Prop} (x0:a) (x1:b) (x2:c) (x3:d) (n:e x0 x1 x2 x3) (o:f x0 x1 x2 x3) (p:g x0 x1 x2 x3) (q:h x0 x1 x2 x3) (r:i x0 x1 x2 x3):∃x0,∃x1,∃x2,∃x3,e x0 x1 x2 x3/\f x0 x1 x2 x3/\g x0 x1 x2 x3/\h x0 x1 x2 x3/\i x0 x1 x2 x3:=⟨x0,x1,x2,x3,n,o,p,q,r⟩
theorem M0.{j,k,l,m,n} {a:Sort j} {b:Sort k} {c:Sort l} {d:Sort m} {e:Sort n} {f g h i:a->b->c->d->e->Prop} (x0:a) (x1:b) (x2:c) (x3:d) (x4:e) (o:f x0 x1 x2 x3 x4) (p:g x0 x1 x2 x3 x4) (q:h x0 x1 x2 x3 x4) (r:i x0 x1 x2 x3 x4):∃x0,∃x1,∃x2,∃x3,∃x4,f x0 x1 x2 x3 x4/\g x0 x1 x2 x3 x4/\h x0 x1 x2 x3 x4/\i x0 x1 x2 x3 x4:=⟨x0,x1,x2,x3,x4,o,p,q,r⟩
theorem Iu.{j,k,l,m,n,o} {a:Sort j} {b:Sort k} {c:Sort l} {d:Sort m} {e:Sort n} {f:Sort o} {g h i:a->b->c->d->e->f->Prop} (x0:a) (x1:b) (x2:c) (x3:d) (x4:e) (x5:f) (p:g x0 x1 x2 x3 x4 x5) (q:h x0 x1 x2 x3 x4 x5) (r:i x0 x1 x2 x3 x4 x5):∃x0,∃x1,∃x2,∃x3,∃x4,∃x5,g x0 x1 x2 x3 x4 x5/\h x0 x1 x2 x3 x4 x5/\i x0 x1 x2 x3 x4 x5:=⟨x0,x1,x2,x3,x4,x5,p,q,r⟩
theorem KD.{i,j,k,l,m,n,o} {a:Sort i} {b:Sort j} {c:Sort k} {d:Sort l} {e:Sort m} {f:Sort n} {g:Sort o} {h:a->b->c->d->e->f->g->Prop} (x0:a) (x1:b) (x2:c) (x3:d) (x4:e) (x5:f) (x6:g) (p:h x0 x1 x2 x3 x4 x5 x6):∃x0,∃x1,∃x2,∃x3,∃x4,∃x5,∃x6,h x0 x1 x2 x3 x4 x5 x6:=⟨x0,x1,x2,x3,x4,x5,x6,p⟩
theorem NU.{l,m,n,o,p,q,r} {a:Sort l} {b:Sort m} {c:Sort n} {d:Sort o} {e:Sort p} {f:Sort q} {g:Sort r} {h i j k:a->b->c->d->e->f->g->Prop} (x0:a) (x1:b) (x2:c) (x3:d) (x4:e) (x5:f) (x6:g) (s:h x0 x1 x2 x3 x4 x5 x6) (t:i x0 x1 x2 x3 x4 x5 x6) (u:j x0 x1 x2 x3 x4 x5 x6) (v:k x0 x1 x2 x3 x4 x5 x6):∃x0,∃x1,∃x2,∃x3,∃x4,∃x5,∃x6,h x0 x1 x2 x3 x4 x5 x6/\i x0 x1 x2 x3 x4 x5 x6/\j x0 x1 x2 x3 x4 x5 x6/\k x0 x1 x2 x3 x4 x5 x6:=⟨x0,x1,x2,x3,x4,x5,x6,s,t,u,v⟩
theorem NV.{m,n,o,p,q,r,s} {a:Sort m} {b:Sort n} {c:Sort o} {d:Sort p} {e:Sort q} {f:Sort r} {g:Sort s} {h i j k l:a->b->c->d->e->f->g->Prop} (x0:a) (x1:b) (x2:c) (x3:d) (x4:e) (x5:f) (x6:g) (t:h x0 x1 x2 x3 x4 x5 x6) (u:i x0 x1 x2 x3 x4 x5 x6) (v:j x0 x1 x2 x3 x4 x5 x6) (w:k x0 x1 x2 x3 x4 x5 x6) (x:l x0 x1 x2 x3 x4 x5 x6):∃x0,∃x1,∃x2,∃x3,∃x4,∃x5,∃x6,h x0 x1 x2 x3 x4 x5 x6/\i x0 x1 x2 x3 x4 x5 x6/\j x0 x1 x2 x3 x4 x5 x6/\k x0 x1 x2 x3 x4 x5 x6/\l x0 x1 x2 x3 x4 x5 x6:=⟨x0,x1,x2,x3,x4,x5,x6,t,u,v,w,x⟩
theorem or3 {a b c G:Prop} (h:a\/b\/c) (f:a->G) (g:b->G) (k:c->G):G:=h.elim f λh=>h.elim g k
theorem KF {a b c d G:Prop} (h:a\/b\/c\/d) (f:a->G) (g:b->G) (k:c->G) (l:d->G):G:=h.elim f λh=>or3 h g k l
theorem K7 {a b c d e G:Prop} (h:a\/b\/c\/d\/e) (f:a->G) (g:b->G) (k:c->G) (l:d->G) (m:e->G):G:=h.elim f λh=>KF h g k l m
theorem bT {a x N:Nat} (h:a<=x) (e:Sf x N=TN):a<=N:=O5 h (PT e)
theorem bU {a x N:Nat} (h:a<x) (e:Sf x N=TN):a<N:=Pj h (PT e)
theorem bV {a x N:Nat} (h:a<=x) (e:Sf (x+1) N=TN):a<N:=Pb h (PT e)
theorem bW {a x N:Nat} (h:a<x) (e:Sf x (N+1)=TN):a<=N:=Nat.le_of_lt_succ (Pj h (PT e))
theorem bL {a b y N:Nat} (k:b<=y) (e:Sf (a+y) N=TN):a+b<=N:=O5 (Pe k a) (PT e)
theorem bR {a b y N:Nat} (k:a<=y) (e:Sf (y+b) N=TN):a+b<=N:=O5 (Pg k b) (PT e)
theorem bA {a b x y N:Nat} (h:a<=x) (k:b<=y) (e:Sf (x+y) N=TN):a+b<=N:=O5 (PL h k) (PT e)
theorem bl {a b c:Nat} (h:a+b<=c):a<=c:=O5 (PV a b) h
theorem br {a b c:Nat} (h:a+b<=c):b<=c:=O5 (Rr b a) h
theorem s1 {a b c:Nat} (h:a+(b+1)<=c):a+1+b<=c:=by rw [Sr];exact h
theorem s2 {a b c:Nat} (h:a+(b+1)<=c):a<c:=Pj (Nat.lt_add_of_pos_right b.succ_pos) h
theorem s3 {a b c:Nat} (h:a+1+b<=c):a+(b+1)<=c:=by rw [←Q7,Sr];exact h
theorem s4 {k j:Nat} (h:k+(j+1)<=25):k+1+j<=25:=s1 h
theorem s5 {a b:Nat} (h:a<=b):b=b-a+a:=(Nat.sub_add_cancel h).symm
theorem n0 {j:Nat} (h:¬j=0):¬(j:Int)=0:=λe=>h (Qm e)
theorem n1 {j:Nat} (h:0<j):(0:Int)<j:=Ps.mpr h
@[elab_as_elim] theorem aa.{u} {c:Sort u} {a b:c} {p:c->Prop} (h:a=b) (k:p b):p a:=h▸k
@[elab_as_elim] theorem bx.{u} {c:Sort u} {a b:c} {p:c->Prop} (h:b=a) (k:p b):p a:=h▸k
@[elab_as_elim] theorem p9 {a b:Prop} {p:Prop->Prop} (h:a↔b) (k:p b):p a:=propext h▸k
@[elab_as_elim] theorem OZ {a b:Prop} {p:Prop->Prop} (h:b↔a) (k:p b):p a:=propext h▸k
theorem K8 {x:Nat}:(x:Int)=((x+1:Nat):Int)-1:=(Int.add_sub_cancel (x:Int) 1).symm
theorem KG {x k:Nat} (h:k<=x):((x-k:Nat):Int)=(x:Int)-k:=Int.ofNat_sub h
theorem NW {w:Nat} (h:w<3):w=0\/w=1\/w=2:=by lia
theorem NX {w:Nat} (h:w<4):w=0\/(w=1\/w=2)\/w=3:=by lia
theorem NY {w:Nat} (h:w<5):w=0\/w=1\/w=2\/w=3\/w=4:=by lia
theorem NZ {w:Nat} (h:w<6):w=0\/w=1\/w=2\/w=3\/w=4\/w=5:=by lia
theorem zA {a b:Int} (h:b<=a):¬a<b:=PK.mpr h
theorem zB {a b:Int} (h:¬b<=a):a<b:=Tv.mp h
theorem zC {a b:Int} (h:¬a<b):b<=a:=PK.mp h
theorem zD {a b:Int} (h:a<b):¬b<=a:=Tv.mpr h
theorem zE {n:Nat}:¬(n:Int)<0:=PK.mpr (Pu n)
theorem zF {a b:Int} (h:a<b):¬a=b:=RY h
theorem zG {a b:Int} (h:b<a):¬a=b:=Rd h
theorem zH {a:Int} {n:Nat} (h:a<n) (k:0<=a):a.toNat<n:=(Int.toNat_lt k).mpr h
theorem zI {a:Int} {n:Nat} (h:a<=n):a.toNat<=n:=Int.toNat_le.mpr h
theorem zJ {a b c:Int} (h:a<=b) (k:b<=c):a<=c:=Qp h k
theorem bO {c d:Type} {x:Option c} {f:c->Option d} {b:d} {G:Prop} (h:x.bind f=TK b) (k:∀a,x=TK a->f a=TK b->G):G:=(Option.bind_eq_some_iff.mp h).elim λa h=>k a h.1 h.2
theorem mO {c d:Type} {x:Option c} {f:c->d} {b:d} {G:Prop} (h:x.map f=TK b) (k:∀a,x=TK a->f a=b->G):G:=(Qi.mp h).elim λa h=>k a h.1 h.2
theorem iO {c:Prop} [Decidable c] {b:Type} {x:Option b} {a:b} {G:Prop} (h:(if c then x else TW)=TK a) (k:c->x=TK a->G):G:=k (P6.mp h).1 (P6.mp h).2
theorem mM {c d:Type} {f:c->d} {l:List c} {b:d} {G:Prop} (h:b∈l.map f) (k:∀a,a∈l->f a=b->G):G:=(PI.mp h).elim λa h=>k a h.1 h.2
theorem sr (x y:Nat):x<=x-y+y:=Nat.sub_le_iff_le_add.mp (Px _)
theorem ow {x y:Nat} (h:y<=x):x-y+y<=x:=O9 (Nat.sub_add_cancel h)
inductive Ls where
 |n (k:Nat)|v (i:Nat)|a (l r:Ls)|m (k:Nat) (l:Ls)
noncomputable def K9:List Nat->Nat->Nat
 |[],_=>0
 |x::r,i=>Nat.rec x (λi _=>K9 r i) i
noncomputable def Ls.d (c:List Nat):Ls->Nat
 |.n k=>k
 |.v i=>K9 c i
 |.a l r=>l.d c+r.d c
 |.m k l=>k*l.d c
noncomputable def EH:List Nat->List Nat->List Nat
 |[],q=>q
 |x::p,q=>(x+q.headD 0)::EH p q.tail
noncomputable def B2:List Nat->List Nat->Bool
 |[],_=>TN
 |x::p,q=>Sf x (q.headD 0)&&B2 p q.tail
noncomputable def Ls.p:Ls->List Nat
 |.n k=>[k]
 |.v i=>0::(PF i 0++[1])
 |.a l r=>EH l.p r.p
 |.m k l=>l.p.map (k*·)
noncomputable def dot:List Nat->List Nat->Nat
 |[],_=>0
 |k::p,c=>k*c.headD 0+dot p c.tail
theorem La {a b c d:Nat} (h:a=b) (k:c=d):a+c=b+d:=h▸k▸TL
theorem jO (p:List Nat):∀q c,dot (EH p q) c=dot p c+dot q c:=by
 induction p with
 |nil=>exact λq c=>(Re _).symm
 |cons x p a=>
  intro q c;cases q with
  |nil=>exact (TQ ((x+0)*c.headD 0+·) (a _ _))
  |cons y q=>exact (La (Nat.add_mul x y _) (a _ _)).trans (Nat.add_add_add_comm ..)
theorem su (p:List Nat):∀q c,B2 p q=TN->dot p c<=dot q c:=by
 induction p with
 |nil=>exact λq c _=>QF _
 |cons x p a=>
  intro q c h;have h:=Qg.mp h;cases q with
  |nil=>exact PL (O5 (PH _ (PT h.1)) (O9 (Nat.zero_mul _))) (a [] c.tail h.2)
  |cons y q=>exact PL (PH _ (PT h.1)) (a q c.tail h.2)
theorem i4 (k:Nat) (p:List Nat):∀c,dot (p.map (k*·)) c=k*dot p c:=by
 induction p with
 |nil=>exact λ_=>rfl
 |cons x p a=>exact λc=>(La (Nat.mul_assoc ..) (a _)).trans (Nat.mul_add ..).symm
theorem FN (i:Nat):∀c,dot (PF i 0++[1]) c=K9 c i:=by
 induction i with
 |zero=>intro c;cases c<;>exact Nat.one_mul _
 |succ i a=>intro c;cases c with
  |nil=>exact (Re _).trans ((a []).trans TL)
  |cons x r=>exact (TQ (· +_) (Nat.zero_mul _)).trans ((Re _).trans (a r))
theorem nx (c:List Nat) (l:Ls):dot l.p (1::c)=l.d c:=by
 induction l with
 |n k=>exact Nat.mul_one k
 |v i=>exact (TQ (· +_) (Nat.zero_mul _)).trans ((Re _).trans (FN i c))
 |a l r b hr=>exact (jO ..).trans (La b hr)
 |m k l h=>exact (i4 ..).trans (TQ (k*·) h)
inductive Lc where
 |g (k:Nat) (l r:Ls)|c (k:Nat) (l r:Ls) (t:Lc)
noncomputable def Lc.ok (P Q:List Nat):Lc->Bool
 |.g k l r=>B2 (EH Q (l.p.map ((k+1)*·))) (EH P (EH (r.p.map ((k+1)*·)) [k]))
 |.c k l r t=>t.ok (EH P (l.p.map (k*·))) (EH Q (r.p.map (k*·)))
noncomputable def Lc.H (c:List Nat):Lc->Prop
 |.g _ l r=>l.d c<=r.d c
 |.c _ l r t=>l.d c<=r.d c->t.H c
theorem Lb (c:List Nat) (t:Lc):∀P Q,t.ok P Q=TN->dot P (1::c)<=dot Q (1::c)->t.H c:=by
 induction t with
 |g k l r=>intro P Q h b;have:=su _ _ (1::c) h;rw [jO,jO,jO,i4,i4,nx,nx] at this;have e:dot [k] (1::c)=k:=Nat.mul_one k;rw [e] at this;have f:(k+1)*l.d c<=(k+1)*r.d c+k:=Nat.le_of_add_le_add_left (O5 this (Pg b _));exact Nat.le_of_lt_succ (Nat.lt_of_mul_lt_mul_left (a:=k+1) (Pb f (Qx _)))
 |c k l r t i=>intro P Q h b j;refine i _ _ h ?_;rw [jO,jO,i4,i4,nx,nx];exact PL b (Q1 k j)
theorem N0 (c:List Nat) (t:Lc) (h:t.ok [] []=TN):t.H c:=Lb c t [] [] h (Px _)
theorem lq (c:List Nat) (l r:Ls) (h:(B2 l.p r.p&&B2 r.p l.p)=TN):l.d c=r.d c:=(nx c l).symm.trans ((PJ (su _ _ _ (Qg.mp h).1) (su _ _ _ (Qg.mp h).2)).trans (nx c r))
noncomputable def Iv (f:Nat):Nat->Nat×Nat:=Nat.rec (λx=>(0,x)) (λ_ a x=>bif Sf 16 (x %32) then (match a (x/32) with|(k,y)=>(x %32-16+16*k,y)) else (x %32,x/32)) f
noncomputable def Ls.dec (f:Nat):Nat->Ls×Nat:=Nat.rec (λx=>(.n 0,x)) (λ_ b x=>bif Sz (x %32) 0 then (match b (x/32) with|(l,y)=>match b y with|(r,z)=>(.a l r,z)) else bif Sf (x %32) 10 then (.v (x %32-1),x/32) else bif Sf (x %32) 20 then (.n (x %32-11),x/32) else match Iv 24 (x/32) with|(k,y)=>bif Sz (x %32) 21 then (match b y with|(l,z)=>(.m k l,z)) else (.n k,y)) f
noncomputable def Lc.dec (f:Nat):Nat->Lc:=Nat.rec (λ_=>.g 0 (.n 0) (.n 0)) (λ_ a x=>match Iv 24 (x/32) with|(k,y)=>match Ls.dec 40 y with|(l,y)=>match Ls.dec 40 y with|(r,y)=>bif Sz (x %32) 0 then .g k l r else .c k l r (a y)) f
noncomputable def LN (N:Nat) (c:List Nat):Prop:=match (Lc.dec 9 N).ok [] [] with
 |true=>(Lc.dec 9 N).H c
 |false=>True
noncomputable def QN (N:Nat) (c:List Nat):Prop:=match Ls.dec 40 N with
 |(l,y)=>match Ls.dec 40 y with
  |(r,_)=>match B2 l.p r.p&&B2 r.p l.p with
   |true=>l.d c=r.d c
   |false=>True
theorem aJ (c:List Nat) (N:Nat):LN N c:=by
 unfold LN;cases h:(Lc.dec 9 N).ok [] [] with
 |true=>exact N0 c _ h
 |false=>trivial
theorem eb (c:List Nat) (N:Nat):QN N c:=by
 unfold QN;rcases Ls.dec 40 N with ⟨l,y⟩
 dsimp only;rcases Ls.dec 40 y with ⟨r,_⟩
 dsimp only;cases h:B2 l.p r.p&&B2 r.p l.p with
 |true=>exact lq c l r h
 |false=>trivial
section
open PySem (wpAny codeAny)
noncomputable def iG:List String:=["bytearray.__contains__","bytearray.__mod__","bytearray.__rmod__","_struct.pack_into.held","bytearray.find.held"]++Rf
noncomputable def ci:Code->Bool
 |.builtin id _=>!iG.contains id
 |_=>TN
structure Clean (Γ:Ctx):Prop where
 code:ci Γ.code=TN
 below:∀c∈Γ.below,ci c.1=TN
noncomputable def aC {c:Type} (M:VS) (A:T0) (t:Sem c) (Q:c->TP->Prop) (E:TT->TP->Prop) (s:TP):Prop:=∀b p,b.In A->Clean b->Sem.wp M b t (λa _ s'=>Q a s') (λe _ s'=>E e s') p s
noncomputable def codeN (M:VS) (A:T0) (c:Code) (R:UM->TP->Prop) (s:TP):Prop:=∀a p,a.code=c->a.Below A->Clean a->wpCode M a R p s
noncomputable abbrev cS:TT->TP->Prop:=λ_ _=>False
section
variable {α β:Type} {M:VS} {A:T0} {E:TT->TP->Prop} {s:TP} {env:Env}
theorem up {Q:α->TP->Prop} (h:T6 M A t Q E s):aC M A t Q E s:=λa p i _=>h a p i
theorem ar {Q b:α->TP->Prop} {d:TT->TP->Prop} (h:aC M A t Q E s) (g:∀a s,Q a s->b a s) (j:∀e s,E e s->d e s):aC M A t b d s:=λf p i c=>Qo M f t (λa _ s=>g a s) (λe _ s=>j e s) p s (h f p i c)
theorem ab {Q:β->TP->Prop} (h:aC M A m (λa s'=>aC M A (f a) Q E s') E s):aC M A (m>>=f) Q E s:=λb p i c=>by refine aa (RG ..) ?_;exact Qo M b m (λa d s' x=>x b d i c) (λ_ _ _ x=>x) p s (h b p i c)
theorem aL {P:α->TP->Prop} {Q:β->TP->Prop} (h:aC M A m P E s) (k:∀a s',P a s'->aC M A (f a) Q E s'):aC M A (m>>=f) Q E s:=ab (ar h k λ_ _ y=>y)
theorem lh {P:α->TP->Prop} {Q:β->TP->Prop} (h:aC M A m P cS s) (k:∀a s',P a s'->aC M A (f a) Q E s'):aC M A (m>>=f) Q E s:=ab (ar h k λ_ _ y=>y.elim)
theorem ox {c:Prop} [Decidable c] {Q:α->TP->Prop} (h:aC M A a Q E s) (k:aC M A b Q E s):aC M A (if c then a else b) Q E s:=by
 split
 ·exact h
 ·exact k
theorem af {Q:α->TP->Prop} (h:Q a s):aC M A (pure a) Q E s:=up (TX h)
theorem eG {Q:α->TP->Prop} (e:t=pure a) (h:Q a s):aC M A t Q E s:=e▸af h
theorem aq {Q:α->TP->Prop} (h:aC M A m Q E s):aC M A (holding vs m) Q E s:=λa p i c=>by refine aa (SA ..) ?_;exact h a p i c
theorem al {Q:Unit->TP->Prop} (h:Q () s):aC M A (Up pos) Q E s:=up (wpAny_standAt h)
theorem jP {Q:Unit->TP->Prop} (h:Q () s):aC M A point Q E s:=up (wpAny_point h)
theorem gH {Q:Unit->TP->Prop} (h:Q () s):aC M A (rule a) Q E s:=up (UG h)
theorem gI {Q:Obj->TP->Prop} (ho:s.heap.get? a=TK o) (h:Q o s):aC M A (load a) Q E s:=up (UV ho h)
theorem xO {Q:α->TP->Prop} (h:aC M A m Q E s):aC M A (m.keep k) Q E s:=λa p i c=>by have:=h a p i c;refine aa (Sem.wp_keep ..) ?_;exact this
theorem dd {Q:α->TP->Prop} (h:aC M A m Q cS s):aC M A (m.onRaise k) Q E s:=λa p i c=>by refine aa (Sem.wp_onRaise ..) ?_;exact Qo M a m (λ_ _ _ x=>x) (λ_ _ _ x=>x.elim) p s (h a p i c)
theorem j9 {Q:Except TT α->TP->Prop} (h:aC M A m (λa=>Q (.ok a)) cS s):aC M A m.attempt Q E s:=λb p i c=>by refine aa (Sem.wp_attempt ..) ?_;exact Qo M b m (λ_ _ _ x=>x) (λ_ _ _ x=>x.elim) p s (h b p i c)
theorem Clean.enter (x:Clean Γ) (k:ci c=TN):Clean (Γ.enter c h p):=⟨k,λd m=>by
  rcases Pf.mp m with e|m
  ·refine aa (e ..) ?_;exact x.code
  ·exact x.below d m⟩
theorem Clean.goto (x:Clean Γ) (k:ci c=TN):Clean (Γ.goto c):=⟨k,x.below⟩
theorem ac {G:Prop} (h:(G->False)->False):G:=PU h
theorem FO:TW≠TK byPass:=λx=>nomatch x
theorem ud {Q:Va->TP->Prop} (k:ci c=TN) (b:codeN M (A.mark h) c (λr s'=>match r with|.ok f=>Q f s'|.error e=>E e s') s) (a:h≠TK byPass):
  aC M A (run c h) Q E s:=λd p i x=>by refine aa (Sem.wp_run ..) ?_;exact b _ p TL (i.enter c h p a) (x.enter k)
theorem eL {Q:TT->TP->Prop} (a:codeN M A (.call f ⟨pos,b⟩) (λr s'=>match r with|.ok (.ret v)=>Q v s'|.ok _=>False|.error e=>E e s') s):aC M A (call f pos b) Q E s:=λc p i x=>by refine aa (Sem.wp_runValue ..) ?_;exact a _ p TL (i.enter _ TW p (by intro y;cases y)) (x.enter TL)
noncomputable def Iw (M:VS) (A:T0) (R:UM->TP->Prop):Fin->TP->Prop:=λfin s'=>match fin with
 |.done f=>R (.ok f) s'
 |.again a=>a.quiet=TN/\ci a=TN/\codeN M A a R s'
theorem a3 {R:UM->TP->Prop} (h:aC M (A.under c) (M.den c) (Iw M A R) (λe s'=>R (.error e) s') s):codeN M A c R s:=λa p e i x=>by
 refine p9 (wpCode_iff_wp ..) (aa (e ..) ?_);refine Qo M a _ (λfin d s' y=>?_) (λ_ _ _ y=>y) p s (h a p (e▸i.in) x);cases fin with
 |done f=>exact y
 |again b=>exact ⟨y.1,y.2.2 (a.goto b) d TL (i.goto b) (x.goto y.2.1)⟩
theorem ll {R a:UM->TP->Prop} (h:codeN M A c R s) (b:∀r s,R r s->a r s):codeN M A c a s:=λd p e i x=>wpCode_mono b (h d p e i x)
theorem ka {R:UM->TP->Prop} (b:c.quiet=TN) (d:ci c=TN) (I:Nat->TP->Prop) (turn:∀n s,I n s->aC M (A.under c) (M.den c) (λfin s'=>match fin with
   |.done f=>R (.ok f) s'
   |.again a=>(a=c/\∃m,m<n/\I m s')\/(a.quiet=TN/\ci a=TN/\codeN M A a R s')) (λe s'=>R (.error e) s') s)
  (n:Nat) (h:I n s):codeN M A c R s:=by
 induction n using Nat.strongRecOn generalizing s with
 |ind n g=>
  refine a3 (ar (turn n s h) (λfin s' y=>?_) λ_ _ y=>y);cases fin with
  |done f=>exact y
  |again a=>
   rcases y with ⟨rfl,m,lt,i⟩|y
   ·exact (dQ b d (g m lt i))
   ·exact y
theorem lr {R:UM->TP->Prop} (a:c.quiet=TN) (I:Nat->TP->Prop) (turn:∀n s,I n s->aC M (A.under c) (M.den c) (λfin s'=>match fin with
   |.done f=>R (.ok f) s'
   |.again b=>b=c/\∃m,m<n/\I m s') (λe s'=>R (.error e) s') s)
  (n:Nat) (h:I n s) (d:ci c=TN):codeN M A c R s:=
 ka a d I (λn s x=>ar (turn n s x) (λfin s' y=>match fin with
  |.done _=>y
  |.again _=>.inl y) λ_ _ y=>y) n h
theorem qa {x pos} {Q:TT->TP->Prop} (h:aC M A (Vo env x) Q E s) (hd:(x==("__debug__":Str))=TO):aC M A (eval (.Name x pos) env) Q E s:=by refine aa (eval_Name env x pos hd ..) ?_;exact ab (al h)
theorem f3 {Q:Unit->TP->Prop} (h:aC M A (Vz env x v) Q E s):aC M A (bindName env x v) Q E s:=λa p i c=>by refine aa (Sem.wp_bindName ..) ?_;exact h a p i c
theorem vE {l op r pos} {Q:TT->TP->Prop} (h:aC M A (eval l env) (λa d=>aC M A (eval r env) (λb e=>aC M A (Uf op a b) Q E e) E d) E s):aC M A (eval (.BinOp l op r pos) env) Q E s:=λf p i c=>by simp only [eval_BinOp,RG,SA,Ro,SC];exact Qo M f _ (λa g d j=>Qo M f _ (λb _ e k=>k f _ i c) (λ_ _ _ y=>y) _ _ (j f g i c)) (λ_ _ _ y=>y) _ _ (h f p i c)
theorem oy {l op r pos} {Q:TT->TP->Prop} (h:aC M A (eval l env) (λa d=>aC M A (eval r env) (λb e=>aC M A (T7 op a b) Q E e) E d) E s) (hm:Uk op r=TO):aC M A (eval (.Compare l [op] [r] pos) env) Q E s:=λf p i c=>by simp only [eval_Compare1,US hm,RG,SA,Ro,SC];exact Qo M f _ (λa g d j=>Qo M f _ (λb _ e k=>k f _ i c) (λ_ _ _ y=>y) _ _ (j f g i c)) (λ_ _ _ y=>y) _ _ (h f p i c)
theorem io {l op r pos j} {Q:Bool->TP->Prop} (h:aC M A (eval l env) (λa e=>aC M A (eval r env) (λb f=>aC M A (T7 op a b) (λd g=>aC M A (truthy d) Q E g) E f) E e) E s) (hm:Uk op r=TO):
  aC M A (Uz (.Compare l [op] [r] pos) env j) Q E s:=λk p i c=>by
 simp only [isTrue_Compare1,US hm,RG,SA,Ro,SC];exact Qo M k _ (λa m e n=>Qo M k _ (λb _ f o=>Qo M k _ (λd q g t=>t k q i c) (λ_ _ _ y=>y) _ _ (o k _ i c)) (λ_ _ _ y=>y) _ _ (n k m i c)) (λ_ _ _ y=>y) _ _ (h k p i c)
theorem kd {Q:TT->TP->Prop} (h:aC M A (eval x env) (λv a=>aC M A (unaryOp op v) Q E a) E s):aC M A (eval (.UnaryOp op x pos) env) Q E s:=by refine aa (arm_eval_UnaryOp ..) ?_;exact aL h (λv a b=>ab (al (aq b)))
theorem vF {Q:TT->TP->Prop} (h:aC M A (Uz test env (eval test env)) (λb a=>if b then aC M A (eval body env) Q E a else aC M A (eval c env) Q E a) E s):
  aC M A (eval (.IfExp test body c pos) env) Q E s:=by
 refine aa (arm_eval_IfExp ..) ?_;refine aL h (λb a d=>?_);cases b<;>exact d
theorem lu {Q:Bool->TP->Prop} (h:aC M A (Uz x env (eval x env)) (λb a=>Q (!b) a) E s):aC M A (Uz (.UnaryOp .Not x pos) env d) Q E s:=by refine aa (arm_isTrue_UnaryOp ..) ?_;exact aL h (λb a c=>af c)
theorem sv {Q:TT->TP->Prop} (h:aC M A (truthy v) (λb a=>Q (.bool (!b)) a) E s):aC M A (unaryOp .Not v) Q E s:=by refine aq ?_;exact aL h (λb a c=>af c)
theorem i5 {Q:Bool->TP->Prop} (h:aC M A (Vs op a env) Q E s):aC M A (Uz (.BoolOp op a pos) env b) Q E s:=by refine aa (arm_isTrue_BoolOp ..) ?_;exact h
theorem iq {Q:Bool->TP->Prop} (h:Q TN s):aC M A (Vs .And [] env) Q E s:=up (wpAny_allTrue_And_nil h)
theorem iH {Q:Bool->TP->Prop} (h:Q TO s):aC M A (Vs .Or [] env) Q E s:=up (wpAny_allTrue_Or_nil h)
theorem dW {Q:Bool->TP->Prop} (h:aC M A (Uz x env (eval x env)) (λb a=>if b then aC M A (Vs .And rest env) Q E a else Q TO a) E s):aC M A (Vs .And (x::rest) env) Q E s:=by
 refine aL h (λb a c=>?_);cases b
 ·exact af c
 ·exact c
theorem et {Q:Bool->TP->Prop} (h:aC M A (Uz x env (eval x env)) (λb a=>if b then Q TN a else aC M A (Vs .Or rest env) Q E a) E s):aC M A (Vs .Or (x::rest) env) Q E s:=by
 refine aL h (λb a c=>?_);cases b
 ·exact c
 ·exact af c
theorem fF {Q:List TT->TP->Prop} (h:Q [] s):aC M A (spliced (UP pos (Ue [] env))) Q E s:=up (wpAny_items_nil h)
theorem gJ {Q:List TT->TP->Prop} (h:aC M A (eval e env) (λv a=>aC M A (spliced (UP pos (Ue rest env))) (λvs b=>Q (v::vs) b) E a) E s)
  (f:Ue (e::rest) env=(TO,eval e env)::Ue rest env:=by rfl):aC M A (spliced (UP pos (Ue (e::rest) env))) Q E s:=by
 refine aa (f ..) ?_;show aC M A (do
  let v ←eval e env
  let here ←(pure [v])
  return here++(←holding here (spliced (UP pos (Ue rest env))))) Q E s
 exact aL h (λv a c=>ab (af (ab (aq (ar c (λvs b d=>af d) λ_ _ y=>y)))))
theorem ks {Q:Args->TP->Prop} (h:aC M A (spliced ((TO,x)::rest)) (λvs s'=>Q ⟨vs,[]⟩ s') E s):aC M A (evalArgs f TN ((TO,x)::rest) []) Q E s:=by refine aL h (λvs s' y=>?_);exact aq (ab (af (ab (af (af y)))))
theorem c5 {Q:TT->TP->Prop} (h:Q (.ref s.heap.objs.size) {s with heap:=s.heap.push {cls:=.type T,dict,data}}) (hd:sizeOk data):aC M A (newObj (.type T) data dict) Q E s:=up (Vf h hd)
theorem vG {Q:TT->TP->Prop} (h:aC M A (spliced (UP pos (Ue c env))) (λvs a=>vs.length<=T8/\Q (.ref a.heap.objs.size) {a with heap:=a.heap.push {cls:=.type "tuple",data:=.seq vs.toArray}}) E s):aC M A (eval (.Tuple c k pos) env) Q E s:=by refine aa (arm_eval_Tuple ..) ?_;exact ab (al (aL h (λvs a b=>c5 b.2 (by show vs.toArray.size<=T8;refine aa (Rv ..) ?_;exact b.1))))
theorem qb {Q:TT->TP->Prop} (h:aC M A (spliced (UP pos (Ue c env))) (λvs a=>vs.length<=T8/\Q (.ref a.heap.objs.size) {a with heap:=a.heap.push {cls:=.type "list",data:=.seq vs.toArray}}) E s):aC M A (eval (.List c pos) env) Q E s:=by refine aa (arm_eval_List ..) ?_;exact ab (al (aL h (λvs a b=>c5 b.2 (by show vs.toArray.size<=T8;refine aa (Rv ..) ?_;exact b.1))))
theorem i6 {Q:TT->TP->Prop} {P:Ut->Prop} (g:(args.any (·.1)||keywords.any (·.1.isNone))=TO) (l:∀h,P h->∃k,(k=Keeper.frame\/k=Keeper.machine\/k=Keeper.boundFrame)/\Looks M h (keeperOf f) k) (h:aC M A (evalArgs f TN args keywords) (λa b=>P b.heap/\aC M A (call f (first++a.pos) a.kw) Q E b) E s):aC M A (VG pos f first args keywords) Q E s:=by
 refine aL (aq h) λa b c=>ab (al ?_);refine aT (l _ c.1) λk i L=>?_;refine aa (g ..) ?_;refine ab (up (L.here ?_));have d:∀{t:Sem TT},aC M A t Q E b->aC M A (t>>=λr=>holding [r] point>>=λ_=>pure r) Q E b:=λht=>aL ht λr j hr=>ab (aq (jP (af hr)));have e mk:aC M A (callMarked mk f (first++a.pos) a.kw) Q E b:=by unfold callMarked;exact xO c.2
 rcases i with rfl|rfl|rfl
 ·exact ox (d c.2) (d (e _))
 ·exact d c.2
 ·exact ox (d c.2) (d (e _))
theorem bP {Q:Va->TP->Prop} (h:Q .next s):aC M A (execs [] env) Q E s:=up (wpAny_execs_nil h)
theorem cu {st rest} {Q:Va->TP->Prop} (h:aC M A (exec st env) (λf s'=>match f with|.next=>aC M A (execs rest env) Q E s'|f=>Q f s') E s):aC M A (execs (st::rest) env) Q E s:=λa p i c=>by
 refine aa (execs_cons ..) (aa (RG ..) ?_);refine Qo M a _ (λf b s' y=>?_) (λ_ _ _ y=>y) _ _ (h a p i c);cases f<;>first|exact y a b i c|exact y
theorem xP {pos} {Q:Va->TP->Prop} (h:Q .next s):aC M A (exec (.Pass pos) env) Q E s:=up (wpAny_Pass h)
theorem oz {pos} {Q:Va->TP->Prop} (h:Q .cont s):aC M A (exec (.Continue pos) env) Q E s:=up (wpAny_Continue h)
theorem ku {pos} {Q:Va->TP->Prop} (h:Q (.ret .none) s):aC M A (exec (.Return TW pos) env) Q E s:=up (wpAny_Return_none h)
theorem kv {e pos} {Q:Va->TP->Prop} (h:aC M A (eval e env) (λv=>Q (.ret v)) E s):aC M A (exec (.Return (TK e) pos) env) Q E s:=λa p i c=>by simp only [exec_Return_some,RG,Ro,Sem.wp_pure'];exact h a _ i c
theorem FP {test body a pos} {Q:Va->TP->Prop} (h:aC M A (Uz test env (eval test env)) (λb d=>if b then aC M A (execs body env) Q E d else aC M A (execs a env) Q E d) E s):
  aC M A (exec (.If test body a pos) env) Q E s:=λg p i c=>by
 simp only [exec_If,RG,Ro];refine Qo M g _ (λb e d f=>?_) (λ_ _ _ y=>y) _ _ (h g _ i c);cases b<;>exact f g e i c
theorem dX {Q:Unit->TP->Prop} (h:Q () s):aC M A (release vs keep) Q E s:=λa p _ _=>by refine aa (Sem.wp_release ..) ?_;exact h
theorem qc {Q:TT->TP->Prop} (h:aC M A m Q E s):aC M A (operate vs m) Q E s:=λa p i c=>by refine aa (SC ..) ?_;exact h a _ i c
theorem iI {x d op value pos} {Q:Va->TP->Prop} (h:aC M A (Vo env x) (λe a=>aC M A (eval value env) (λv b=>aC M A (inplaceOp op e v) (λr c=>aC M A (Vz env x r) (λ_=>Q .next) E c) E b) E a) E s):
  aC M A (exec (.AugAssign (.Name x d) op value pos) env) Q E s:=by
 refine aa (exec_AugAssign_Name ..) ?_;exact ab (al (aL h λe a f=>aL (aq f) λv b g=>ab (al (aL (qc g) λr c i=>ab (al (aL (f3 i) λ_ _ j=>af j))))))
theorem gK {o i a value pos} {Q:Va->TP->Prop} (h:aC M A (eval value env) (λv b=>aC M A (eval o env) (λk c=>aC M A (eval i env) (λl d=>aC M A (setItem k l v) (λ_=>Q .next) E d) E c) E b) E s) (hs:swapsWith value (TK (.Subscript o i a)) pos.line env=pure TO):aC M A (exec (.Assign [.Subscript o i a] value pos) env) Q E s:=by refine aa (exec_Assign_Subscript o i a value pos hs ..) ?_;refine ab (al (aL h λv b e=>ab ?_));refine aa (assign_Subscript ..) ?_;exact aL (aq e) λk c f=>aL (aq f) λl d g=>ab (al (aL (aq g) λ_ _ j=>dX (af j)))
theorem bI {Q:Va->TP->Prop} (h:aC M A (eval value env) (λv a=>aC M A (eval o env) (λg b=>aC M A (setAttr g f v) (λ_=>Q .next) E b) E a) E s) (hs:swapsWith value (TK (.Attribute o f i)) pos.line env=pure TO):aC M A (exec (.Assign [.Attribute o f i] value pos) env) Q E s:=by refine aa (plainObj_exec_Assign_Attribute o f i value pos hs ..) ?_;refine ab (al (aL h λv a c=>ab ?_));refine aa (assign_Attribute ..) ?_;exact aL (aq c) λg b d=>ab (al (aL (aq d) λ_ _ e=>dX (af e)))
theorem lv {Q:Va->TP->Prop} (k:ci c=TN) (b:codeN M (A.mark h) c (λr s'=>match r with|.ok f=>Q f s'|.error _=>False) s) (a:h≠TK byPass):
  aC M A (runOwn c env h) Q E s:=by
 exact dd (ud k b a)
theorem vH {test body a pos} {Q:Va->TP->Prop} (h:codeN M A (.whileLoop test body a env) (λr s'=>match r with|.ok f=>Q f s'|.error _=>False) s):aC M A (exec (.While test body a pos) env) Q E s:=by refine aa (exec_While ..) ?_;exact ab (al (lv TL h FO))
theorem ue {a iter body b pos} {Q:Va->TP->Prop} (h:aC M A (eval iter env) (λx c=>aC M A (Vb x) (λit d=>codeN M A (.forLoop a it body b env) (λr s'=>match r with|.ok f=>Q f s'|.error _=>False) d) E c) E s) (hs:∀x,Vg iter env x=pure x):aC M A (exec (.For a iter body b pos) env) Q E s:=by refine aa (exec_For ..) ?_;exact ab (al (aL h (λx c e=>ab (eG (hs x) (ab (al (ab (aq (ar e (λit d g=>lv TL g FO) λ_ _ y=>y)))))))))
end
section
variable {α:Type} {M:VS} {A:T0} {E:TT->TP->Prop} {s:TP} {env:Env}
theorem iu {m} {Q:Unit->TP->Prop} (b:env.kindOf a=TK .local) (hn:s.heap.Ns env.locals m) (h:∀h',h'.Ns env.locals (λx=>if x=a then TK v else m x)->QL env.locals s.heap h'->Q () {s with heap:=h',toks:=s.toks+1}) (hp:(env.scope.kind==.class||(env.scope.kind==.module&&env.locals !=env.globals))=TO):aC M A (Vz env a v) Q E s:=up (wpAny_storeName_local b hn h hp)
theorem iJ {Q:Unit->TP->Prop} (d:env.scope.kind=.function) (e:env.kindOf a=TK .cell) (f:env.cells.lookup a=TK c) (g:s.heap.IsCell c b) (h:∀h',h'.IsCell c (TK v)->QL c s.heap h'->Q () {s with heap:=h'}):aC M A (Vz env a v) Q E s:=up (wpAny_storeName_cell d e f g h)
theorem eM {m} {Q:TT->TP->Prop} (b:env.scope.kind=.function) (c:env.kindOf a=TK .local) (hn:s.heap.Ns env.locals m) (d:m a=TK v) (h:Q v s):aC M A (Vo env a) Q E s:=up (wpAny_loadName_local b c hn d h)
theorem i7 {Q:TT->TP->Prop} (b:env.scope.kind=.function) (d:env.kindOf a=TK .cell) (e:env.cells.lookup a=TK c) (f:s.heap.IsCell c (TK v)) (h:Q v s):aC M A (Vo env a) Q E s:=up (wpAny_loadName_cell b d e f h)
theorem i8 {Q:TT->TP->Prop} (b:env.scope.kind=.function) (d:env.kindOf a=TK .free) (e:env.cells.lookup a=TK c) (f:s.heap.IsCell c (TK v)) (h:Q v s) (hn:(a==("__classdict__":Str))=TO):
  aC M A (Vo env a) Q E s:=up (wpAny_loadName_free b d e f h hn)
theorem b3 {Q:Unit->TP->Prop} (h:Q () s):aC (model prog w) A (Ug base o r) Q E s:=up (wpAny_letTemporaryGo h)
theorem gp {Q:Bool->TP->Prop} (h:Q b s):aC M A (truthy (.bool b)) Q E s:=up (UU h)
theorem dG {i k pos} {Q:TT->TP->Prop} (h:Q (.int i s.toks) {s with toks:=s.toks+1}):aC M A (eval (.Constant (.int i) k pos) env) Q E s:=up (wpAny_Constant_int h)
theorem i9 {k pos} {Q:TT->TP->Prop} (h:Q .none s):aC M A (eval (.Constant .none k pos) env) Q E s:=up (wpAny_Constant_none h)
theorem jb {b k pos} {Q:TT->TP->Prop} (h:Q (.bool b) s):aC M A (eval (.Constant (.bool b) k pos) env) Q E s:=up (wpAny_Constant_bool h)
theorem jQ {k pos} {Q:TT->TP->Prop} (h:Q (.str x s.toks) {s with toks:=s.toks+1}):aC M A (eval (.Constant (.str x) k pos) env) Q E s:=up (wpAny_Constant_str h)
theorem kx {x k pos} {Q:TT->TP->Prop} (h:Q (.bytes x.toArray s.toks) {s with toks:=s.toks+1}):aC M A (eval (.Constant (.bytes x) k pos) env) Q E s:=up (Constant_bytes h)
end
section
variable {prog:U7} {w:Uv} {A:T0} {E:TT->TP->Prop} {s:TP} {env:Env}
theorem jc {e pos} {Q:Va->TP->Prop} (h:aC (model prog w) A (eval e env) (λ_=>Q .next) E s) (a:interactive env=TO) (hs:swapsWith e TW pos.line env=pure TO):aC (model prog w) A (exec (.Expr e pos) env) Q E s:=by refine aa (exec_Expr env e pos a hs ..) ?_;exact ab (al (aL h (λv s' h'=>up (wpAny_dropValue h'))))
theorem m4 {a k b value pos} {Q:Va->TP->Prop} (h:aC (model prog w) A (eval value env) (λv c=>aC (model prog w) A (assign (.Tuple a k b) env v) (λ_=>Q .next) E c) E s)
  (hs:swapsWithSole [.Tuple a k b] value pos.line env=pure TO) (e:swappedStores [.Tuple a k b] value env=pure TW):aC (model prog w) A (exec (.Assign [.Tuple a k b] value pos) env) Q E s:=by
 refine aa (exec_Assign ..) ?_;refine ab (al ?_);refine aa (hs ..) ?_;refine ab (af ?_);simp only [Rp,if_false];refine aL h (λv c d=>?_);refine aa (e ..) ?_;refine ab (af ?_);show aC _ A (do assignAll v [assign (.Tuple a k b) env];pure .next) Q E c;exact aL d (λ_ _ y=>af y)
end
section
variable {α:Type} {M:VS} {A:T0} {E:TT->TP->Prop} {s:TP} {env:Env}
theorem hZ {Q:α->TP->Prop} (h:aC M A m Q cS s):aC M A (m.onRaise λx=>do Vp x env;U4 x) Q E s:=dd h
end
section
variable {prog:U7} {w:Uv} {A:T0} {E:TT->TP->Prop} {s:TP} {env:Env} {R:UM->TP->Prop}
theorem m5 {Q:Bool->TP->Prop} (h:Q TN s):aC (model prog w) A (forIn ([]:List T3) TN λc r=>if r=TN then do let ok ←Uz c env (eval c env);pure (QM ok) else pure (QM r)) Q E s:=af h
theorem m6 {Q:Bool->TP->Prop} (h:aC (model prog w) A (Uz c env (eval c env)) Q E s):
  aC (model prog w) A (forIn [c] TN λc r=>if r=TN then do let ok ←Uz c env (eval c env);pure (QM ok) else pure (QM r)) Q E s:=by
 simp only [RK,List.forIn_nil,if_true];exact ab (aL h (λb s' a=>af (af a)))
theorem dD {Q:TT->TP->Prop} (a:s.heap.PlainList l items) (b:∀h',h'.PlainList l (items.push x)->QL l s.heap h'->Q .none {s with heap:=h'}) (hsz:items.size<=T8):aC (model prog w) A (call (.builtin "list.append") [.ref l,x]) Q E s:=up (wpAny_list_append_plain a b hsz)
theorem gL {b a iter c rest scope pos it acc}
  (e:codeN (model prog w) A (.compLoop (.ListComp b (⟨a,iter,c,0⟩::rest) scope pos) 0 it acc env) R s)
  (h:aC (model prog w) A (Vb it) (λd s'=>codeN (model prog w) A (.compLoop (.ListComp b (⟨a,iter,c,0⟩::rest) scope pos) 0 d acc env) R s') cS s):
  codeN (model prog w) A (.compStart (.ListComp b (⟨a,iter,c,0⟩::rest) scope pos) 0 it acc env) R s:=by
 refine a3 ?_;show aC _ _ ((compStart (.ListComp b (⟨a,iter,c,0⟩::rest) scope pos) 0 it acc env).onRaise (λx=>do Vp x env;Up theWindowsPlace)) _ _ s;refine dd ?_;refine ab (up (wpAny_askSetting ?_));split
 ·first
   |exact af (And.intro rfl ⟨rfl,e⟩)
   |exact ab (af (af (And.intro rfl ⟨rfl,e⟩)))
 ·first
   |exact ab (gH (ab (al (aL h (λd s' h'=>af (And.intro rfl ⟨rfl,h'⟩))))))
   |(refine ab (gH ?_);exact ab (al (aL h (λd s' h'=>af (And.intro rfl ⟨rfl,h'⟩)))))
theorem ky {test body d} (I:Nat->TP->Prop)
  (turn:∀n s,I n s->aC (model prog w) A (Uz test env (eval test env)) (λb g=>
    if b then aC (model prog w) A (execs body env) (λf a=>match f with
      |.next|.cont=>∃m,m<n/\I m a
      |.brk=>R (.ok .next) a
      |.ret v=>R (.ok (.ret v)) a) cS g
    else aC (model prog w) A (execs d env) (λf a=>R (.ok f) a) cS g) cS s)
  (n:Nat) (h:I n s):codeN (model prog w) A (.whileLoop test body d env) R s:=by
 refine lr TL I (λn s i=>?_) n h TL;show aC _ A ((whileTurn test body d env).onRaise (λx=>do Vp x env;U4 x)) _ _ s;refine hZ ?_;simp only [whileTurn];refine aL (turn n s i) (λb g e=>?_);cases b with
 |false=>simp only [Rp,if_false] at e⊢;exact aL e (λf a c=>af c)
 |true=>
  simp only [if_true] at e⊢;refine aL e (λf a c=>?_);cases f with
  |next=>exact af ⟨TL,c⟩
  |cont=>exact af ⟨TL,c⟩
  |brk=>exact af c
  |ret v=>exact af c
theorem qd (h:aC (model prog w) A (execs a env) (λf s'=>R (.ok f) s') cS s):codeN (model prog w) A (.block a env) R s:=by refine a3 ?_;show aC _ _ (do return Fin.done (←(execs a env).onRaise (λx=>do Vp x env;U4 x))) _ _ s;exact ab (hZ (ar h (λf s' y=>af y) λ_ _ y=>y))
theorem jd {a it body c} (I:Nat->TP->Prop)
  (turn:∀n s,I n s->aC (model prog w) A (pyNext it) (λr e=>match r with
   |none=>aC (model prog w) A (execs c env) (λf b=>R (.ok f) b) cS e
   |some v=>aC (model prog w) A (Vt a it v) (λ_ g=>
     aC (model prog w) A (assign a env v) (λ_ i=>aC (model prog w) A (execs body env) (λf b=>match f with
      |.next|.cont=>∃m,m<n/\I m b
      |.brk=>R (.ok .next) b
      |.ret v=>R (.ok (.ret v)) b) cS i) cS g) cS e) cS s)
  (n:Nat) (h:I n s):codeN (model prog w) A (.forLoop a it body c env) R s:=by
 refine ka TL TL I (λn s o=>?_) n h;show aC _ A ((forTurn a it body c env).onRaise (λx=>do Vp x env;U4 x)) _ _ s;refine hZ ?_;simp only [forTurn];refine ab (al (ab (dd (ar (turn n s o) (λr e j=>?_) λ_ _ y=>y))));cases r with
 |none=>exact af (.inr (dQ TL TL (qd j)))
 |some v=>
  refine aL j (λ_ g k=>?_);refine aL k (λ_ i l=>aL l (λf b d=>?_));cases f with
  |next=>exact af (.inl ⟨TL,d⟩)
  |cont=>exact af (.inl ⟨TL,d⟩)
  |brk=>exact af d
  |ret v=>exact af d
theorem lw {body} (h:aC (model prog w) (A.deeper env) (execs body env) (λf s'=>R (.ok (.ret (match f with|.ret v=>v|_=>.none))) s') cS s):codeN (model prog w) A (.func body env) R s:=by refine a3 ?_;show aC _ (A.deeper env) (do point;match ←(execs body env).onRaise (leaving env) with|.ret v=>ret v|_=>ret .none) _ _ s;refine ab (jP (ab (dd (ar h (λf s' y=>?_) λ_ _ y=>y))));cases f<;>exact af y
theorem sw (h:aC (model prog w) (A.deeper env) (eval e env) (λv s'=>R (.ok (.ret v)) s') cS s):codeN (model prog w) A (.expr e env) R s:=by refine a3 ?_;show aC _ (A.deeper env) (do point;ret (←(eval e env).onRaise (leaving env))) _ _ s;exact ab (jP (ab (dd (ar h (λv s' y=>af y) λ_ _ y=>y))))
noncomputable def codeOf (a:U1) (env:Env):Code:=match a.body with
 |.stmts b=>.func b env
 |.expr e=>.expr e env
theorem cL (g:A.depth<Ux) (ho:s.heap.get? a=TK o) (j:o.data=.func b) (Ia:b.scope.isCoroutine=TO) (vI:b.scope.isGenerator=TO) (k:s.heap.CodeRec b.code b.qualname) (h:aC (model prog w) A.in1 (Vc b args) (λc e=>aC (model prog w) A.in1 (Vd b.scope b.globals b.closure c (b.qualname++".<locals>.") (TK a) b.code TW b.builtins) (λenv d=>d.heap.NoLimit/\codeN (model prog w) A (codeOf b env) R d) cS e) cS s):codeN (model prog w) A (.call (.ref a) args) R s:=by refine a3 ?_;show aC _ A.in1 (callAny (.ref a) args) _ _ s;refine ab (gI ho ?_);refine FK k λcd t vs u q l m n=>?_;refine aa (j ..) ?_;show aC _ A.in1 (callFunction a b args) _ _ s;unfold callFunction;rw [q] at h⊢;refine ab (up (wpAny_field l m n ?_));refine ab (af (lh h λc e i=>lh i λenv d f=>ab (up (wpAny_enterFrame f.1 g ?_))));refine aa (Ia ..) (aa (vI ..) ?_);refine af ?_;have p:=f.2;unfold codeOf at p;cases r:b.body<;>rw [r] at p<;>exact (dQ TL TL p)
end
section
variable {M:VS} {A:T0} {E:TT->TP->Prop} {s:TP} {env:Env}
noncomputable def h4 (M:VS) (A:T0) (E:TT->TP->Prop) (b:Option (TT->Sem Unit)) (Q:TT->TP->Prop) (acc:TT) (C:T2) (r:UM) (s':TP):Prop:=match r,b with
 |.ok _,none=>∃m,s'.heap.Ns C m/\∀h',QL C s'.heap h'->Q acc {s' with heap:=h'}
 |.ok _,some u=>aC M A (u acc) (λ_ a=>∃m,a.heap.Ns C m/\∀h',QL C a.heap h'->Q .none {a with heap:=h'}) E s'
 |.error _,_=>False
theorem sx {Q:TT->TP->Prop} (hr:h4 M A E b Q acc C r s) (c:∀f m,s.heap.Ns C m->(∀h',QL C s.heap h'->Q acc {s with heap:=h'})->aC M A (d f) Q E s) (e:∀f u,aC M A (u acc) (λ_ a=>∃m,a.heap.Ns C m/\∀h',QL C a.heap h'->Q .none {a with heap:=h'}) E s->aC M A (g f u) Q E s):
  aC M A (comprehension.match_3 (motive:=λ_ _=>Sem TT) r b d g i) Q E s:=by
 cases r with
 |error x=>exact hr.elim
 |ok f=>cases b with
  |none=>exact hr.elim λm h=>c f m h.1 h.2
  |some u=>exact e f u hr
theorem xQ {a:Type} {k:Except TT Va->Sem a} {Q:a->TP->Prop} {R:UM->TP->Prop} (b:ci c=TN) (h:codeN M A c R s) (d:∀f s',R (.ok f) s'->aC M A (k (.ok f)) Q E s') (e:∀x s',¬R (.error x) s'):aC M A ((holding vs (run c)).attempt>>=k) Q E s:=ab (j9 (aq (ud b (ll h λr s' hr=>by
  cases r
  ·exact e _ _ hr
  ·exact d _ _ hr) FO)))
theorem B3 {a:Type} {c:Prop} [Decidable c] {k:PUnit->Sem a} {Q:a->TP->Prop} (h:aC M A (k ()) Q E s):aC M A (if c then (Up p>>=k) else k ()) Q E s:=ox (ab (al h)) h
theorem f4 {Q:TT->TP->Prop} (xH:clausesOf e=g::D) (hs:∀x,Vg g.iter env x=pure x) (k:VD scope env=pure cl) (gq:scope.kind=.function) (a:∀x∈scope.names,x.2=.local->scope.names.lookup x.1=TK .local) (h:aC M A first (λx c=>aC M A (Vb x) (λit d=>aC M A b (λacc i=>aC M A (Vd scope env.globals cl [] env.qual TW .none (TK env)) (λcenv j=>
    codeN M A (.compStart e 0 it acc {cenv with scope:=relabel scope env}) (h4 M A E w Q acc cenv.locals) j) E i) E d) E c) E s):
  aC M A (comprehension e scope env pos b TO first w) Q E s:=by
 unfold comprehension;refine aa (k ..) (aa (xH ..) ?_);refine aL h λx c o=>ab (al (ab (eG (hs x) (aL (aq o) λit d p=>B3 (aL p λacc i r=>ab (af (aL r λcenv j t=>?_)))))));have y:∀x∈(scope.names.filter λx=>(x.2==.local||x.2==.cell)&&x.1 !=(".0":Str)).reverse,x.2=.local->SJ {cenv with scope:=relabel scope env} x.1=TK .local:=λx z v=>lookup_relabel_local (a x (Sh.mp (List.mem_reverse.mp z)).1 v);refine aq (xQ TL t (λf s' hr=>sx hr (λf m hn hr=>?_) λf u hr=>?_) λ_ _ hr=>hr)
 ·exact ab (aq (up (wpAny_comp_letGo gq _ s' m y hn λh' C _ l=>af (hr h' l))))
 ·refine ab (gH (aL (aq hr) λ_ B n=>aT n λm hn n=>?_));refine ab (up (wpAny_comp_letGo (cenv:={cenv with scope:=relabel scope env}) gq _ B m (λx z v=>?_) hn λh' C _ l=>af (n h' l)));exact (PE.mp z).elim (λq=>y x (Rz q) v) λq=>y x (R8 q) v
theorem eN {code:TT} {Q:Env->TP->Prop} (g:∀x∈scope.names,x.2≠.cell) (h:∀x∈a,scope.names.lookup x.1=TK .local) (i:∀h',h'.Ns s.heap.objs.size (λx=>a.reverse.lookup x)->
   QL s.heap.objs.size (s.heap.push {cls:=.type (if b.isSome then "dict" else "frame"),data:=.dict #[]}) h'->
   Q (newEnv scope s.heap.objs.size globals d e f code b c) {s with heap:=h',toks:=s.toks+a.length})
  (j:scope.kind=.function):aC M A (Vd scope globals d a e f code b c) Q E s:=up (wpAny_newFunctionEnv g h i j)
theorem cT {code:TT} {Q:Env->TP->Prop} (e:scope.kind=.function) (gq:∀x∈a,scope.names.lookup x.1=TK .local\/(scope.names.lookup x.1=TK .cell/\((UT (s.heap.objs.size+1) scope.names []).lookup x.1).isSome=TN)) (f:∀env,env=newEnv scope s.heap.objs.size globals (UT (s.heap.objs.size+1) scope.names []) c d code TW b-> ∀s',InCallC s env.locals (bindL env.kindOf a λ_=>TW) env.cells (bindC env.kindOf a λ_=>TW) s'->Q env s'):
  aC M A (Vd scope globals [] a c d code TW b) Q E s:=up (wpAny_newFunctionEnv_cells e gq f)
end
end
inductive Bf where|len|ord|chr|isinstance|min|max|all
 deriving DecidableEq,Inhabited
noncomputable def Bf.id:Bf->String
 |.len=>"len"|.ord=>"ord"|.chr=>"chr"|.isinstance=>"isinstance"|.min=>"min"|.max=>"max"|.all=>"all"
inductive Ty where|range|bytes|bytearray|str|tuple|int|dict|enumerate|list
 deriving DecidableEq,Inhabited
noncomputable def Ty.id:Ty->String
 |.range=>"range"|.bytes=>"bytes"|.bytearray=>"bytearray"|.str=>"str"|.tuple=>"tuple"|.int=>"int"|.dict=>"dict"|.enumerate=>"enumerate"|.list=>"list"
noncomputable def av:Nat:=2^24
inductive V where
 |none|bool (a:Bool)|int (a:Int)|str (a:List Nat)|bytes (a:List UInt8)
 |tuple (a:List V)|list (a:List V)|gC (a:List UInt8)
 |ref (a:T2)|ty (a:Ty)|bi (a:Bf)|b2|fh
 |atom (a:List Nat)|pW (a:List Int)|eO (a:List (Int×Int))|lam (a:Nat) (b:T2)
 deriving Inhabited
structure Wr where
 a:T2
 d:T2
 data:List UInt8
 pos:Nat
structure Src where
 a:T2
 cells:List Int
 pos:Nat
structure G where
 src:Option Src
 wire:Option Wr
noncomputable abbrev AP:=T2->Prop
noncomputable abbrev seqObj (cls:String) (vs:Array TT) (n:Nat):Obj:={cls:=.type cls,data:=.seq vs n}
noncomputable abbrev fP (c d:T2):Obj:={cls:=.ref c,dict:=TK d,data:=.plain}
noncomputable abbrev de (es:Array U8) (n:Nat):Obj:={cls:=.type "dict",data:=.dict es n}
structure vJ where
 T:T2
 line:Nat
 col:Nat
 q:Str
 params:Ub
 body:PySem.Expr
 scope:Um
 cd:T2
structure Cx where
 prog:U7
 w:Uv
 K:Vq
 mg:Str->Option TT
 mb:Str->Option TT
 n₁:Nat
 cA:T2
 cW:T2
 tabs:List vJ
 glob:Str->Option V
 FQ:Drawn
 xR:OsState
noncomputable def Cx.tab (C:Cx) (a:T2):Prop:=∃l∈C.tabs,l.T=a
noncomputable def Cx.mut (C:Cx) (a:T2):Prop:=C.n₁<=a\/C.tab a
noncomputable def Cx.lam (C:Cx) (k:Nat) (a:U1) (c b:T2):Prop:=∃l d,C.tabs[k]?=TK l/\a=kla_fn "<lambda>" l.q l.params l.body l.scope [(O6 "wire",c)] ((C.mg "__name__").getD .none) (.ref b) d
inductive qe (X:AP) (h:Ut) (c:String) (R:List TT->Prop) (v:TT):Prop
 |mk (a:T2) (vs:Array TT) (n:Nat) (e:v=.ref a) (g:h.get? a=TK (seqObj c vs n)) (na:¬X a) (r:R vs.toList) (z:vs.size<=av)
inductive xS (X:AP) (h:Ut) (xs:List UInt8) (v:TT):Prop
 |mk (a:T2) (b:Array UInt8) (e:v=.ref a) (g:h.get? a=TK {cls:=.type "bytearray",data:=.bytearray b}) (na:¬X a) (z:b.size<=av) (ex:b.toList=xs)
inductive qf (C:Cx) (X:AP) (h:Ut) (xs:List Nat) (v:TT):Prop
 |mk (a d:T2) (hs:Int) (kt:Tok) (n:Nat) (s:Str) (t:Tok) (e:v=.ref a) (g:h.get? a=TK (fP C.cA d)) (gd:h.get? d=TK (de #[⟨hs,.str (O6 "text") kt,.str s t⟩] n)) (na:¬X a) (nd:¬X d) (z:s.cps.size<=av) (ex:s.cps.toList=xs)
inductive xT (X:AP) (h:Ut) (xs:List Int) (v:TT):Prop
 |mk (a:T2) (lo st hi:Int) (n:Nat) (t u w:Tok) (e:v=.ref a) (g:IsRange h a lo hi st t u w) (na:¬X a) (hn:Qu lo hi st=(n:Nat)) (sm:Si lo hi st=TN) (z:n<=av) (ex:xs=(PN n).map λ(i:Nat)=>lo+i*st)
inductive xU (C:Cx) (X:AP) (h:Ut) (k:Nat) (wa:T2) (v:TT):Prop
 |mk (a:T2) (fd:U1) (c cc:T2) (oc:Obj) (Ib:Array TT) (ct:Tok) (e:v=.ref a) (g:h.get? a=TK {cls:=.type "function",data:=.func fd}) (na:¬X a) (hf:C.lam k fd c cc) (gc:h.IsCell c (TK (.ref wa))) (nc:¬X c)
   (Ix:h.get? cc=TK oc) (KH:oc.data=.fields Ib) (KI:Ib[1]?=TK (.str fd.qualname ct)) (KJ:¬X cc)
inductive qg (C:Cx) (X:AP) (h:Ut) (xs:List (Int×Int)) (v:TT):Prop
 |mk (a:T2) (o:Obj) (Ic:List (Int×TT)) (e:v=.ref a) (g:h.get? a=TK o) (na:¬X a) (hc:o.cls=.type "dict") (hn:(a==sysModules)=TO) (hd:o.IsDictOf (intKind C.prog C.w) Ic) (hv:Ic.map (·.1)=xs.map (·.1)) (hw:∀(i:Nat) (k:Int) (v:TT),Ic[i]?=TK (k,v)->∃(j:Int) (t:Tok),v=RL j t/\xs[i]?=TK (k,j)) (z:Ic.length<=av)
mutual
noncomputable def Rep (C:Cx) (X:AP) (h:Ut):TT->V->Prop
 |v,.none=>v=.none
 |v,.bool b=>v=.bool b
 |v,.int i=>∃t,v=.int i t
 |v,.str s=>∃x t,v=.str x t/\x.cps.toList=s/\x.cps.size<=av
 |v,.bytes s=>∃b t,v=.bytes b t/\b.toList=s/\b.size<=av
 |v,.ref a=>v=.ref a
 |v,.ty n=>v=.type n.id
 |v,.bi i=>v=.builtin i.id
 |v,.b2=>v=.ref C.cA
 |v,.fh=>v=.ref C.cW
 |v,.tuple xs=>qe X h "tuple" (λvs=>aP C X h vs xs) v
 |v,.list xs=>qe X h "list" (λvs=>aP C X h vs xs) v
 |v,.gC b=>xS X h b v
 |v,.atom s=>qf C X h s v
 |v,.pW xs=>xT X h xs v
 |v,.lam k c=>xU C X h k c v
 |v,.eO xs=>qg C X h xs v
noncomputable def aP (C:Cx) (X:AP) (h:Ut):List TT->List V->Prop
 |vs,[]=>vs=[]
 |vs,x::xs=>∃v r,vs=v::r/\Rep C X h v x/\aP C X h r xs
end
section
variable {C:Cx} {X:AP} {h:Ut} {v:TT}
theorem Rep.none:Rep C X h .none .none:=TL
theorem Rep.bool (b:Bool):Rep C X h (.bool b) (.bool b):=TL
theorem Rep.int (i t):Rep C X h (.int i t) (.int i):=⟨t,TL⟩
theorem Rep.str (s:Str) (t) (z:s.cps.size<=av):Rep C X h (.str s t) (.str s.cps.toList):=(gF s t TL TL z)
theorem Rep.bytes (b:Array UInt8) (t) (z:b.size<=av):Rep C X h (.bytes b t) (.bytes b.toList):=(gF b t TL TL z)
theorem Rep.ref (a):Rep C X h (.ref a) (.ref a):=TL
theorem Rep.ty (n:Ty):Rep C X h (.type n.id) (.ty n):=TL
theorem Rep.bi (i:Bf):Rep C X h (.builtin i.id) (.bi i):=TL
theorem Rep.b2:Rep C X h (.ref C.cA) .b2:=TL
theorem Rep.fh:Rep C X h (.ref C.cW) .fh:=TL
theorem Rep.tuple {a vs n xs} (g:h.get? a=TK (seqObj "tuple" vs n)) (b:¬X a) (r:aP C X h vs.toList xs) (z:vs.size<=av):Rep C X h (.ref a) (.tuple xs):=⟨a,vs,n,TL,g,b,r,z⟩
theorem Rep.list {a vs n xs} (g:h.get? a=TK (seqObj "list" vs n)) (b:¬X a) (r:aP C X h vs.toList xs) (z:vs.size<=av):Rep C X h (.ref a) (.list xs):=⟨a,vs,n,TL,g,b,r,z⟩
theorem Rep.gC {a b} (g:h.get? a=TK {cls:=.type "bytearray",data:=.bytearray b}) (c:¬X a) (z:b.size<=av):Rep C X h (.ref a) (.gC b.toList):=⟨a,b,TL,g,c,z,TL⟩
theorem aP.nil:aP C X h [] []:=TL
theorem aP.cons {v x vs xs} (r:Rep C X h v x) (rs:aP C X h vs xs):aP C X h (v::vs) (x::xs):=(gF v vs TL r rs)
theorem Rep.Ld (r:Rep C X h v (.str t)):∃x k,v=.str x k/\x.cps.toList=t/\x.cps.size<=av:=r
theorem Rep.xV (r:Rep C X h v (.bytes t)):∃x k,v=.bytes x k/\x.toList=t/\x.size<=av:=r
theorem Rep.Le (r:Rep C X h v (.int i)):∃k,v=.int i k:=r
end
section
variable {C:Cx} {X Y:AP} {h h':Ut} (k:∀b o,¬X b->h.get? b=TK o->h'.get? b=TK o) (xy:∀b,b<h.objs.size->Y b->X b)
include k xy
theorem nX (g:h.get? a=TK o) (c:¬X a):¬Y a:=λy=>c (xy _ (Py g) y)
theorem qe.move {c R d v} (f:∀vs,R vs->d vs) (r:qe X h c R v):qe Y h' c d v:=by
 cases r with|mk a vs n e g na r z=>exact ⟨a,vs,n,e,k _ _ na g,nX k xy g na,f _ r,z⟩
theorem xS.move {x v} (r:xS X h x v):xS Y h' x v:=by
 cases r with|mk a b e g na z q=>exact ⟨a,b,e,k _ _ na g,nX k xy g na,z,q⟩
theorem qf.move {x v} (r:qf C X h x v):qf C Y h' x v:=by
 cases r with|mk a d hs kt n s t e g gd na nd z q=>exact ⟨a,d,hs,kt,n,s,t,e,k _ _ na g,k _ _ nd gd,nX k xy g na,nX k xy gd nd,z,q⟩
theorem xT.move {x v} (r:xT X h x v):xT Y h' x v:=by
 cases r with|mk a lo st hi n t u w e g na hn sm z q=>exact ⟨a,lo,st,hi,n,t,u,w,e,k _ _ na g,nX k xy g na,hn,sm,z,q⟩
theorem xU.move {j wa v} (r:xU C X h j wa v):xU C Y h' j wa v:=by
 cases r with|mk a fd c cc oc Ib ct e g na hf gc nc Ix KH KI KJ=>exact aT gc λo d ho=>⟨a,fd,c,cc,oc,Ib,ct,e,k _ _ na g,nX k xy g na,hf,i12 o (k _ _ nc d) ho,nX k xy d nc,k _ _ KJ Ix,KH,KI,nX k xy Ix KJ⟩
theorem qg.move {x v} (r:qg C X h x v):qg C Y h' x v:=by
 cases r with|mk a o Ic e g na hc hn hd hv hw z=>exact ⟨a,o,Ic,e,k _ _ na g,nX k xy g na,hc,hn,hd,hv,hw,z⟩
mutual
theorem Rep.move:∀{v:TT} {x:V},Rep C X h v x->Rep C Y h' v x
 |_,.none=>id
 |_,.bool _=>id
 |_,.int _=>id
 |_,.str _=>id
 |_,.bytes _=>id
 |_,.ref _=>id
 |_,.ty _=>id
 |_,.bi _=>id
 |_,.b2=>id
 |_,.fh=>id
 |_,.tuple _=>qe.move k xy λ_=>aP.move
 |_,.list _=>qe.move k xy λ_=>aP.move
 |_,.gC _=>xS.move k xy
 |_,.atom _=>qf.move k xy
 |_,.pW _=>xT.move k xy
 |_,.lam _ _=>xU.move k xy
 |_,.eO _=>qg.move k xy
theorem aP.move:∀{vs:List TT} {xs:List V},aP C X h vs xs->aP C Y h' vs xs
 |_,[]=>id
 |_,_::_=>λr=>bB r λv r e a b=>gF v r e a.move b.move
end
end
structure a9 (s s':TP):Prop where
 eq:∃h tk,s'={s with heap:=h,toks:=tk}
 keep:∀b o,s.heap.get? b=TK o->s'.heap.get? b=TK o
 size:s.heap.objs.size<=s'.heap.objs.size
theorem a9.refl (s:TP):a9 s s:=⟨(hY s.heap s.toks TL),λ_ _ e=>e,Px _⟩
theorem a9.tok (s:TP) (t:Nat):a9 s {s with toks:=t}:=⟨(hY s.heap t TL),λ_ _ e=>e,Px _⟩
theorem a9.trans (a:a9 s c) (b:a9 c d):a9 s d:=by obtain ⟨⟨h,t,rfl⟩,k,z⟩:=a;obtain ⟨⟨h',f,rfl⟩,k',z'⟩:=b;exact ⟨(hY h' f TL),λx o e=>k' x o (k x o e),O5 z z'⟩
theorem a9.push (s:TP) (o:Obj):a9 s {s with heap:=s.heap.push o}:=⟨(hY _ _ TL),λ_ _ e=>Pq _ e,by refine aa (P0 ..) ?_;exact Sj _⟩
theorem Rep.grow {v x} (r:Rep C X s.heap v x) (g:a9 s s'):Rep C X s'.heap v x:=r.move (λb o _ e=>g.keep b o e) λ_ _ y=>y
theorem aP.grow {v x} (r:aP C X s.heap v x) (g:a9 s s'):aP C X s'.heap v x:=r.move (λb o _ e=>g.keep b o e) λ_ _ y=>y
noncomputable def b4 (C:Cx) (A:T0) (X:AP) (s:TP) (t:Sem TT) (x:V):Prop:=∀Q E,(∀v s',a9 s s'->Rep C X s'.heap v x->Q v s')->aC (model C.prog C.w) A t Q E s
noncomputable def kL (C:Cx) (A:T0) (s:TP) (t:Sem Bool) (b:Bool):Prop:=∀Q E,(∀s',a9 s s'->Q b s')->aC (model C.prog C.w) A t Q E s
noncomputable def ay (C:Cx) (A:T0) (X:AP) (s:TP) (t:Sem TT) (x:V):Prop:=∀Q E,(∀v s',a9 s s'->Rep C X s'.heap v x->Q v s')->PySem.wpAny (model C.prog C.w) A t Q E s
noncomputable def gM (C:Cx) (A:T0) (s:TP) (t:Sem Bool) (b:Bool):Prop:=∀Q E,(∀s',a9 s s'->Q b s')->PySem.wpAny (model C.prog C.w) A t Q E s
theorem ay.up (h:ay C A X s t x):b4 C A X s t x:=λQ E k=>lg.up (h Q E k)
theorem gM.up (h:gM C A s t b):kL C A s t b:=λQ E k=>lg.up (h Q E k)
inductive Nm where
 |at_|data|text|join|encode|upper|replace|find|split
 |peek|skip|need|space|done|run|je|atom|word|lx|number|quoted|literal|string|jR|oA|oB|gN|value|other
 deriving DecidableEq,Inhabited
inductive E where
 |lit (a:V)|var (a:Nat)
 |bin (a:UH) (b c:E)|neg (a:E)|not (a:E)
 |cmp (a:Vu) (b c:E)|kz (a b:Vu) (c d e:E)
 |and (a b:E)|or (a b:E)|ite (a b c:E)
 |tup (a:E)|lst (a:E)
 |call (a b:E)|a4 (a:E) (b:Nm) (c:E)|attr (a:E) (b:Nm)
 |sub (a b:E)|cw (a:Nat) (b:Int)|oC (a:Nat)|pX (a b c:E)
 |comp (a:E) (b:Nat) (c d:E)|lam (a:Nat) (b:Nat)
 |nil|cons (a b:E)
 deriving Inhabited
inductive S where
 |skip|raise|seq (a b:S)
 |asg (a:Nat) (b:E)|oD (a:Nat) (b:E)|vK (a:Nat) (b:E)|ly (a:List Nat) (b:E)
 |kA (a:E) (b:Nm) (c:E)|qh (a b c:E)|aug (a:Nat) (b:UH) (c:E)
 |expr (a:E)|app (a:Nat) (b:E)|ext (a:Nat) (b:E)
 |ite (a:E) (b c:S)|FT (a:E) (b:S)|vL (a:List Nat) (b:E) (c:S)|xW (a:List Nat) (b:E) (c:S)
 |ret (a:E)|xX|cont|xY (a:S)
 deriving Inhabited
inductive Slot where
 |u|v (v:V)|ml (xs:List V)|mb (bs:List UInt8)
 deriving Inhabited
structure St where
 ρ:List Slot
 g:G
inductive Fl where
 |next|cont|brk|ret (v:V)
noncomputable def St.put (st:St) (i:Nat) (s:Slot):St:={st with ρ:=st.ρ.set i s}
noncomputable def hide:Slot->Slot
 |.v v=>.v v
 |_=>.u
theorem aZ {b:Type} {a:b} {P:Prop} (h:(TW:Option b)=TK a):P:=Option.noConfusion TL (heq_of_eq h)
noncomputable def dY:V->Option Int|.int i=>TK i|_=>TW
noncomputable def fG:V->Option (List Nat)|.str i=>TK i|_=>TW
noncomputable def cM:V->Option (List UInt8)|.bytes i=>TK i|_=>TW
noncomputable def tupP:V->Option (List V)|.tuple i=>TK i|_=>TW
noncomputable def ke:V->Option (List V)|.list i=>TK i|_=>TW
noncomputable def qi:V->Option T2|.ref i=>TK i|_=>TW
theorem a8 {i:Int} (h:dY x=TK i):x=.int i:=by cases x<;>first|exact TQ V.int (le h)|exact aZ h
theorem c6 {i:List Nat} (h:fG x=TK i):x=.str i:=by cases x<;>first|exact TQ V.str (le h)|exact aZ h
theorem bF {i:List UInt8} (h:cM x=TK i):x=.bytes i:=by cases x<;>first|exact TQ V.bytes (le h)|exact aZ h
theorem fi {i:List V} (h:tupP x=TK i):x=.tuple i:=by cases x<;>first|exact TQ V.tuple (le h)|exact aZ h
theorem dZ {i:List V} (h:ke x=TK i):x=.list i:=by cases x<;>first|exact TQ V.list (le h)|exact aZ h
theorem jf {i:T2} (h:qi x=TK i):x=.ref i:=by cases x<;>first|exact TQ V.ref (le h)|exact aZ h
noncomputable def b5:V->Option Bool
 |.bool b=>TK b
 |.list xs=>TK (!xs.isEmpty)
 |_=>TW
noncomputable def Iy (o:V) (i:Int):Option V:=match o with
 |.tuple xs=>if 0<=i then xs[i.toNat]? else TW
 |.list xs=>if 0<=i then xs[i.toNat]? else TW
 |.bytes b=>if 0<=i then b[i.toNat]?.map λc=>.int c.toNat else TW
 |.str s=>if 0<=i then s[i.toNat]?.map λc=>.str [c] else TW
 |.eO a=>(a.lookup i).map .int
 |_=>TW
noncomputable def fj (o i:V):Option V:=(dY i).bind (Iy o)
noncomputable def cutAt (n:Nat) (d:Nat):V->Option Nat
 |.none=>TK d
 |.int i=>TK (if 0<=i then min i.toNat n else (n+i).toNat)
 |_=>TW
noncomputable def eP {c:Type} (l:List c) (a b:Nat):List c:=(l.take b).drop a
noncomputable def cN:V->V->V->Option V
 |.bytes b,lo,a=>do return .bytes (eP b (←cutAt b.length 0 lo) (←cutAt b.length b.length a))
 |.list b,lo,a=>do return .list (eP b (←cutAt b.length 0 lo) (←cutAt b.length b.length a))
 |.str b,lo,a=>do return .str (eP b (←cutAt b.length 0 lo) (←cutAt b.length b.length a))
 |_,_,_=>TW
noncomputable def m7:V->Option Nat
 |.tuple xs|.list xs=>TK xs.length
 |.bytes b=>TK b.length
 |.str s=>TK s.length
 |_=>TW
noncomputable def jS:V->Option (List V)
 |.tuple xs|.list xs=>TK xs
 |.bytes b=>TK (b.map λc=>.int c.toNat)
 |.str s=>TK (s.map λc=>.str [c])
 |.pW xs=>TK (xs.map .int)
 |_=>TW
noncomputable def iK:Int:=2^200
noncomputable def eQ (i:Int):Bool:=decide (-iK<i/\i<iK)
noncomputable def h5 (i:Int):Bool:=decide (-(2^63)<i/\i<2^63)
noncomputable def binI (op:UH) (a b:Int):Option V:=match op with
 |.Add=>TK (.int (a+b))
 |.Sub=>TK (.int (a-b))
 |.Mult=>if h5 a||h5 b then TK (.int (a*b)) else TW
 |.Mod=>if 0<b then TK (.int (a.fmod b)) else TW
 |.FloorDiv=>if 0<b&&eQ b then TK (.int (a.fdiv b)) else TW
 |.LShift=>if 0<=a&&0<=b&&eQ a&&b<200 then TK (.int (a*2^b.toNat)) else TW
 |.RShift=>if 0<=a&&0<=b&&eQ a&&b<200 then TK (.int (a/2^b.toNat)) else TW
 |.BitAnd=>if 0<=a&&0<=b then TK (.int (a.toNat&&&b.toNat)) else TW
 |.Pow=>if 0<=a&&a<16&&0<=b&&b<40 then TK (.int (a^b.toNat)) else TW
 |_=>TW
noncomputable def Lf (op:UH) (a:List Nat) (y:V):Option V:=match op with
 |.Add=>(fG y).bind λb=>if a.length+b.length<=av then TK (.str (a++b)) else TW
 |.Mult=>(dY y).bind λb=>if 0<=b&&b<1000&&a.length<1000 then TK (.str (PF b.toNat a).flatten) else TW
 |_=>TW
noncomputable def Lg (op:UH) (a:List UInt8) (y:V):Option V:=match op with
 |.Add=>(cM y).bind λb=>if a.length+b.length<=av then TK (.bytes (a++b)) else TW
 |.Mult=>(dY y).bind λb=>if !a.isEmpty&&a.length<=16&&0<=b&&b<1000 then TK (.bytes (PF b.toNat a).flatten) else TW
 |_=>TW
noncomputable def FU (op:UH) (a:List V) (y:V):Option V:=match op with
 |.Add=>(tupP y).bind λb=>if a.length+b.length<=av then TK (.tuple (a++b)) else TW
 |_=>TW
noncomputable def xZ (op:UH) (x y:V):Option V:=match x with
 |.int a=>(dY y).bind (binI op a)
 |.str a=>Lf op a y
 |.bytes a=>Lg op a y
 |.tuple a=>FU op a y
 |_=>TW
noncomputable def b6:Nat->V->Bool
 |_,.none|_,.bool _|_,.int _|_,.str _|_,.bytes _=>TN
 |n+1,.tuple xs=>xs.all (b6 n)
 |n+1,.list xs=>xs.all (b6 n)
 |_,_=>TO
noncomputable def isStr (x:V):Bool:=(fG x).isSome
noncomputable def eqStr (a:List Nat) (x:V):Bool:=match fG x with|some b=>decide (a=b)|none=>TO
noncomputable def Lh (op:Vu) (a b:Int):Option Bool:=match op with
 |.Eq=>TK (decide (a=b))
 |.NotEq=>TK (decide (a≠b))
 |.Lt=>TK (decide (a<b))
 |.LtE=>TK (decide (a<=b))
 |.Gt=>TK (decide (b<a))
 |.GtE=>TK (decide (b<=a))
 |_=>TW
noncomputable def Li (op:Vu) (a b:List Nat):Option Bool:=match op with
 |.Eq=>TK (decide (a=b))
 |.NotEq=>TK (decide (a≠b))
 |.LtE=>TK (!decide (b<a))
 |_=>TW
noncomputable def Lj (op:Vu) (a b:List UInt8):Option Bool:=match op with
 |.Eq=>TK (decide (a=b))
 |.NotEq=>TK (decide (a≠b))
 |_=>TW
noncomputable def Iz (op:Vu) (x y:V):Option Bool:=match x with
 |.int a=>(dY y).bind (Lh op a)
 |.str a=>(fG y).bind (Li op a)
 |.bytes a=>(cM y).bind (Lj op a)
 |_=>TW
noncomputable def FV:V->Option Bool|.none=>TK TN|.bi _=>TW|_=>TK TO
noncomputable def Id:V->Bool|.none=>TN|_=>TO
noncomputable def M1 (x:V) (b:List UInt8):Option Bool:=(dY x).bind λa=>if 0<=a/\a<256 then TK (b.any λc=>decide ((c.toNat)=a)) else TW
noncomputable def Lk (x:V) (xs:List V):Option Bool:=(fG x).bind λa=>if xs.all isStr then TK (xs.any (eqStr a)) else TW
noncomputable def KK (x y:V):Option Bool:=match y with
 |.bytes b=>M1 x b
 |.tuple xs=>Lk x xs
 |.list xs=>Lk x xs
 |_=>TW
noncomputable def Ll (x y:V):Option Bool:=match y with
 |.eO b=>(dY x).bind λa=>TK (!(b.lookup a).isSome)
 |y=>(KK x y).map (!·)
noncomputable def sy (op:Vu) (x y:V):Option Bool:=match op with
 |.Is=>if Id y then FV x else TW
 |.IsNot=>if Id y then (FV x).map (!·) else TW
 |.In=>KK x y
 |.NotIn=>Ll x y
 |op=>Iz op x y
inductive oE (op:Vu) (x y:V) (r:Bool):Prop where
 |plain (h:sy op x y=TK r)
 |eq (xs:List V) (hx:x=.list xs) (hy:y=.list xs) (p:xs.all (b6 11)=TN) (o:op=.Eq) (e:r=TN)
 |ne (xs:List V) (hx:x=.list xs) (hy:y=.list xs) (p:xs.all (b6 11)=TN) (o:op=.NotEq) (e:r=TO)
noncomputable def sA:V->Option String
 |.none=>TK "NoneType"
 |.bool _=>TK "bool"
 |.int _=>TK "int"
 |.str _=>TK "str"
 |.bytes _=>TK "bytes"
 |.tuple _=>TK "tuple"
 |.list _=>TK "list"
 |_=>TW
noncomputable def jg:V->Bool
 |.atom _=>TN
 |_=>TO
noncomputable def lz (l:List String) (x:V):Bool:=match sA x with
 |some T=>l.contains T
 |none=>TO
noncomputable def tyP:V->Option Ty|.ty n=>TK n|_=>TW
theorem x7 {n:Ty} (h:tyP x=TK n):x=.ty n:=by cases x<;>first|exact TQ V.ty (le h)|exact aZ h
noncomputable def isLT (l:List V):Bool:=decide (l.map tyP=[TK .list,TK .tuple])
theorem isLT_eq (h:isLT l=TN):l=[.ty .list,.ty .tuple]:=by refine bB (List.map_eq_cons_iff.mp (TM h)) λx f a b c=>?_;subst a;refine bB (List.map_eq_cons_iff.mp c) λy g a d e=>?_;subst a;exact aa (x7 b ..) (aa (x7 d ..) (aa (List.map_eq_nil_iff.mp e ..) TL))
noncomputable def x8 (x:V):Option Bool:=if jg x=TN then TK TN else if lz ["NoneType","bool","int","str","bytes","tuple","list"] x=TN then TK TO else TW
noncomputable def vM (x:V):Option Bool:=if lz ["bytes"] x=TN then TK TN else if (lz ["NoneType","int","str","tuple","list"] x||jg x)=TN then TK TO else TW
noncomputable def B4 (x:V):Option Bool:=if lz ["int"] x=TN then TK TN else if lz ["str","bytes","tuple","list"] x=TN then TK TO else TW
noncomputable def B5 (x:V):Option Bool:=if (lz ["list"] x||lz ["tuple"] x)=TN then TK TN else if (lz ["NoneType","bool","int","str","bytes"] x||jg x)=TN then TK TO else TW
noncomputable def x9:Ty->V->Option Bool
 |.bytes,x=>vM x
 |.int,x=>B4 x
 |_,_=>TW
noncomputable def oF (x t:V):Option Bool:=match t with
 |.b2=>x8 x
 |.ty n=>x9 n x
 |.tuple l=>if isLT l=TN then B5 x else TW
 |_=>TW
noncomputable def sB:List UInt8->Nat
 |[]=>0
 |[a]=>a.toNat
 |a::l=>min a.toNat (sB l)
noncomputable def sC:List UInt8->Nat
 |[]=>0
 |[a]=>a.toNat
 |a::l=>max a.toNat (sC l)
noncomputable def fg:List V->Option V
 |[x]=>TK x
 |_=>TW
noncomputable def vN (f:V->V->Option V):List V->Option V
 |[x,y]=>f x y
 |_=>TW
noncomputable def V.KL:V->Bool
 |.bool _=>TN
 |_=>TO
noncomputable def V.tt:V->Bool
 |.bool b=>b
 |_=>TO
noncomputable def FW:V->Option V
 |.str s=>match s with
  |[c]=>TK (.int c)
  |_=>TW
 |_=>TW
noncomputable def ya:V->Option V
 |.int i=>if 0<=i/\i<1114112 then TK (.str [i.toNat]) else TW
 |_=>TW
noncomputable def IA (x y:V):Option V:=(dY x).bind λa=>(dY y).bind λb=>TK (.int (min a b))
noncomputable def IB:V->Option V
 |.bytes b=>if b.isEmpty then TW else TK (.int (sB b))
 |_=>TW
noncomputable def FX:V->Option V
 |.bytes b=>if b.isEmpty then TW else TK (.int (sC b))
 |_=>TW
noncomputable def yb:V->Option V
 |.list xs=>if xs.all V.KL then TK (.bool (xs.all V.tt)) else TW
 |_=>TW
noncomputable def EI:List V->Option V
 |[x]=>IB x
 |[x,y]=>IA x y
 |_=>TW
noncomputable def FY:Bf->List V->Option V
 |.len,vs=>(fg vs).bind λx=>(m7 x).map λ(n:Nat)=>.int n
 |.ord,vs=>(fg vs).bind FW
 |.chr,vs=>(fg vs).bind ya
 |.isinstance,vs=>vN (λx t=>(oF x t).map .bool) vs
 |.min,vs=>EI vs
 |.max,vs=>(fg vs).bind FX
 |.all,vs=>(fg vs).bind yb
noncomputable def dH (a b c:Int):List Int:=(PN (Qu a b c).toNat).map λ(i:Nat)=>a+i*c
noncomputable def fk (i:Int):Bool:=decide (-(2^61)<=i/\i<2^61)
noncomputable def eR:List V->Option (List UInt8)
 |[]=>TK []
 |.int i::r=>if 0<=i/\i<256 then (eR r).map λl=>Pp i.toNat::l else TW
 |_=>TW
noncomputable def IC:List V->Option (Int×Int)
 |[a,b]=>(dY a).bind λi=>(dY b).map λj=>(i,j)
 |_=>TW
noncomputable def pairsOf:List V->Option (List (Int×Int))
 |[]=>TK []
 |x::r=>((tupP x).bind IC).bind λp=>(pairsOf r).map λl=>p::l
noncomputable def cq (n:Nat):List Nat:=(Nat.toDigits 10 n).map Char.toNat
noncomputable def gO:Nat->List Nat->List V
 |_,[]=>[]
 |i,c::r=>.tuple [.int i,.str [c]]::gO (i+1) r
noncomputable def gt:List V->Option (List Int)
 |[]=>TK []
 |.int i::r=>(gt r).map (i::·)
 |_=>TW
noncomputable def oG:List Int->Option V
 |[b]=>if fk b&&(dH 0 b 1).length<=av then TK (.pW (dH 0 b 1)) else TW
 |[a,b]=>if fk a&&fk b&&(dH a b 1).length<=av then TK (.pW (dH a b 1)) else TW
 |[a,b,c]=>if Si a b c&&fk b&&fk a&&(-1000<c&&c<1000)&&c≠0&&(dH a b c).length<=av then TK (.pW (dH a b c)) else TW
 |_=>TW
noncomputable def lA:V->Option V
 |.list xs=>if xs.length<=1000000 then (eR xs).map .bytes else TW
 |.gC b=>TK (.bytes b)
 |.bytes b=>TK (.bytes b)
 |_=>TW
noncomputable def yc:V->Option V
 |.int i=>if 0<=i/\eQ i then TK (.str (cq i.toNat)) else TW
 |_=>TW
noncomputable def sD:V->Option V
 |.list xs=>TK (.tuple xs)
 |_=>TW
noncomputable def FZ:V->Option V
 |.int i=>TK (.int i)
 |_=>TW
noncomputable def yd:V->Option V
 |.list xs=>if xs.length<=av then (pairsOf xs).bind λl=>if (l.map (·.1)).Nodup then TK (.eO l) else TW else TW
 |_=>TW
noncomputable def ye:Ty->List V->Option V
 |.range,xs=>(gt xs).bind oG
 |.bytes,xs=>(fg xs).bind lA
 |.str,xs=>(fg xs).bind yc
 |.tuple,xs=>(fg xs).bind sD
 |.int,xs=>(fg xs).bind FZ
 |.dict,xs=>(fg xs).bind yd
 |_,_=>TW
noncomputable def strsOf:List V->Option (List (List Nat))
 |[]=>TK []
 |.str s::r=>(strsOf r).map (s::·)
 |_=>TW
noncomputable def bytesOf:List V->Option (List (List UInt8))
 |[]=>TK []
 |.bytes s::r=>(bytesOf r).map (s::·)
 |_=>TW
noncomputable def aD {b:Type} (sep:List b):List (List b)->List b
 |[]=>[]
 |[a]=>a
 |a::r=>a++sep++aD sep r
noncomputable def qj (s:List Nat) (xs:List V):Option V:=(strsOf xs).bind λl=>if (aD s l).length+s.length<=av then TK (.str (aD s l)) else TW
noncomputable def qk (s:List UInt8) (xs:List V):Option V:=(bytesOf xs).bind λl=>if (aD s l).length<=av then TK (.bytes (aD s l)) else TW
noncomputable def EJ (s:List Nat):V->Option V
 |.list xs=>qj s xs
 |.tuple xs=>qj s xs
 |_=>TW
noncomputable def ID (o x:V):Option V:=match o with
 |.str s=>EJ s x
 |.bytes s=>(ke x).bind (qk s)
 |_=>TW
noncomputable def uf (o x:V):Option V:=(fG o).bind λs=>(fG x).bind λe=>if e=[97,115,99,105,105]/\s.all (· <128)=TN then TK (.bytes (s.map Pp)) else TW
noncomputable def sE:V->Option V
 |.str s=>if s.length<=1000 then TK (.str (Txt.upper ⟨s.toArray⟩).cps.toList) else TW
 |_=>TW
noncomputable def ny (b c n:Array UInt8):Array UInt8:=P1 n (Builtin.Bytes.between b c.size (PO b c 0 b.size))
noncomputable def EK (o x y:V):Option V:=(cM o).bind λs=>(cM x).bind λc=>(cM y).bind λn=>if c≠[]/\s.length+(PO s.toArray c.toArray 0 s.length).length*n.length<=av/\(ny s.toArray c.toArray n.toArray).size<=av then
   TK (if (PO s.toArray c.toArray 0 s.length).isEmpty then .bytes s else .bytes (ny s.toArray c.toArray n.toArray).toList) else TW
noncomputable def ql (o x y:V):Option V:=(cM o).bind λs=>(cM x).bind λt=>(dY y).bind λi=>if 0<=i/\i.toNat+t.length<=s.length then TK (.int (match PW s.toArray t.toArray i.toNat s.length with|some j=>j|none=>-1)) else if 0<=i then TK (.int (-1)) else TW
noncomputable def yf (o x:V):Option V:=(fG o).bind λs=>(fG x).bind λc=>if c≠[]/\s.length<=1000/\(Tj ⟨s.toArray⟩ ⟨c.toArray⟩).all (λx=>decide (x.cps.size<=1000))=TN then TK (.list ((Tj ⟨s.toArray⟩ ⟨c.toArray⟩).map λx=>.str x.cps.toList)) else TW
noncomputable def lB (o:V):Nm->List V->Option V
 |.join,vs=>(fg vs).bind (ID o)
 |.encode,vs=>(fg vs).bind (uf o)
 |.upper,vs=>if vs.isEmpty then sE o else TW
 |.replace,vs=>vN (EK o) vs
 |.find,vs=>vN (ql o) vs
 |.split,vs=>(fg vs).bind (yf o)
 |_,_=>TW
section
variable (R:V->List V->G->V->G->Prop) (wm:Nm->Option V)
inductive yg (f:V) (vs:List V) (g:G) (k:V->G->Prop):Prop
 |bi (b:Bf) (r:V) (e:f=.bi b) (h:FY b vs=TK r) (q:k r g)
 |ty (b:Ty) (r:V) (e:f=.ty b) (h:ye b vs=TK r) (q:k r g)
 |atom (s:List Nat) (e:f=.b2) (h:vs=[.str s]) (q:k (.atom s) g)
 |wire (b:List UInt8) (e:f=.fh) (h:vs=[.bytes b]) (n:g.wire.isNone=TN) (q:∀a d,k (.ref a) {g with wire:=TK ⟨a,d,b,0⟩})
 |fn (r:V) (g':G) (h:R f vs g r g') (q:k r g')
noncomputable def IE:Nm->Bool
 |.join|.encode|.upper|.split=>TN
 |_=>TO
noncomputable def yh:Nm->Bool
 |.join|.replace|.find=>TN
 |_=>TO
noncomputable def qm (o:V) (n:Nm):Bool:=match o with
 |.str _=>IE n
 |.bytes _=>yh n
 |_=>TO
theorem B6 (h:IE n=TN):n=.join\/n=.encode\/n=.upper\/n=.split:=by cases n<;>first|exact TU h Pm|simp
theorem vO (h:yh n=TN):n=.join\/n=.replace\/n=.find:=by cases n<;>first|exact TU h Pm|simp
inductive KM where
 |fn (f:V)|own
inductive IF (o:V) (n:Nm) (g:G) (K:KM->Prop):Prop
 |ref (w:Wr) (f:V) (h:g.wire=TK w) (e:o=.ref w.a) (hf:wm n=TK f) (q:K (.fn f))
 |own (h:qm o n=TN) (q:K .own)
noncomputable def EL (c:KM) (o:V) (n:Nm) (vs:List V) (g:G) (k:V->G->Prop):Prop:=match c with
 |.fn f=>∃r g',R f (o::vs) g r g'/\k r g'
 |.own=>∃r,lB o n vs=TK r/\k r g
inductive EM (o:V) (n:Nm) (g:G) (k:V->Prop):Prop
 |text (s:List Nat) (e:o=.atom s) (hn:n=.text) (q:k (.str s))
 |at_ (w:Wr) (h:g.wire=TK w) (e:o=.ref w.a) (hn:n=.at_) (q:k (.int w.pos))
 |data (w:Wr) (h:g.wire=TK w) (e:o=.ref w.a) (hn:n=.data) (q:k (.bytes w.data))
inductive vP (o i:V) (g:G) (k:V->Prop):Prop
 |c0 (s:Src) (h:g.src=TK s) (e:o=.ref s.a) (ei:i=.int 0) (q:k (.list (s.cells.map .int)))
 |c1 (s:Src) (h:g.src=TK s) (e:o=.ref s.a) (ei:i=.int 1) (q:k (.int s.pos))
 |item (r:V) (h:fj o i=TK r) (q:k r)
noncomputable abbrev KE:=V->St->Prop
noncomputable def fin (m:Bool) (v:V) (st:St) (k:KE):Prop:=match m with
 |true=>∃t,b5 v=TK t/\k (.bool t) st
 |false=>k v st
noncomputable def F0 (f:Bool->St->Prop):KE:=λv st=>match v with
 |.bool b=>f b st
 |_=>False
noncomputable def pick (t:Bool) (a b:Prop):Prop:=match t with
 |true=>a
 |false=>b
noncomputable def fm (m:Nat) (x:V):Option (List Slot):=if m=1 then TK [.v x] else (tupP x).bind λxs=>if xs.length=m then TK (xs.map .v) else TW
noncomputable def qn (a:St->KE->Prop) (b:St->KE->Prop) (m:Nat) (ρ:List Slot):List V->List V->G->(List V->G->Prop)->Prop
 |[],acc,g,k=>k acc g
 |x::r,acc,g,k=>∃ss,fm m x=TK ss/\b ⟨ρ++ss,g⟩ (F0 λt st=>pick t (a st λv st'=>qn a b m ρ r (acc++[v]) st'.g k) (qn a b m ρ r acc st.g k))
noncomputable def kM (g g':G):Prop:=g'.src.map Src.a=g.src.map Src.a/\g'.wire.map Wr.d=g.wire.map Wr.d
noncomputable def yi (s:Option Slot) (i:Nat) (m:Bool) (st:St) (k:KE):Prop:=match s with
 |some (.v v)=>fin m v st k
 |some (.ml xs)=>fin m (.list xs) (st.put i (.v (.list xs))) k
 |some (.mb bs)=>fin m (.gC bs) (st.put i (.v (.gC bs))) k
 |_=>False
noncomputable def kf (s:Option Slot) (k:V->Prop):Prop:=match s with
 |some (.v v)=>k v
 |some (.ml xs)=>k (.list xs)
 |_=>False
inductive Lm (s:Option Slot) (g:G) (k:T2->Prop):Prop
 |mk (w:Wr) (h:g.wire=TK w) (e:s=TK (.v (.ref w.a))) (q:k w.a)
mutual
noncomputable def ev:E->Bool->St->KE->Prop
 |.lit v,m,st,k=>fin m v st k
 |.var i,m,st,k=>yi st.ρ[i]? i m st k
 |.bin op a b,m,st,k=>ev a TO st λx st=>ev b TO st λy st=>∃r,xZ op x y=TK r/\fin m r st k
 |.neg a,m,st,k=>ev a TO st λx st=>∃i,x=.int i/\fin m (.int (-i)) st k
 |.not a,m,st,k=>match m with
  |true=>ev a TN st (F0 λt st=>k (.bool (!t)) st)
  |false=>ev a TO st λx st=>∃t,b5 x=TK t/\k (.bool (!t)) st
 |.cmp op a b,m,st,k=>ev a TO st λx st=>ev b TO st λy st=>∃r,oE op x y r/\fin m (.bool r) st k
 |.kz p q a b c,m,st,k=>ev a TO st λx st=>ev b TO st λy st=>∃r,oE p x y r/\pick r (ev c TO st λz st=>∃e,oE q y z e/\fin m (.bool e) st k) (fin m (.bool TO) st k)
 |.and a b,m,st,k=>match m with
  |true=>ev a TN st (F0 λt st=>pick t (ev b TN st k) (k (.bool TO) st))
  |false=>ev a TO st λx st=>∃t,b5 x=TK t/\pick t (ev b TO st k) (k x st)
 |.or a b,m,st,k=>match m with
  |true=>ev a TN st (F0 λt st=>pick t (k (.bool TN) st) (ev b TN st k))
  |false=>ev a TO st λx st=>∃t,b5 x=TK t/\pick t (k x st) (ev b TO st k)
 |.ite t a b,m,st,k=>ev t TN st (F0 λt st=>pick t (ev a m st k) (ev b m st k))
 |.tup l,m,st,k=>BZ l st λvs st=>fin m (.tuple vs) st k
 |.lst l,m,st,k=>BZ l st λvs st=>fin m (.list vs) st k
 |.call f l,m,st,k=>ev f TO st λh st=>BZ l st λvs st=>yg R h vs st.g λr g=>fin m r {st with g:=g} k
 |.a4 o n l,m,st,k=>ev o TO st λx st=>IF wm x n st.g λc=>BZ l st λvs st=>EL R c x n vs st.g λr g=>fin m r {st with g:=g} k
 |.attr o n,m,st,k=>ev o TO st λx st=>EM x n st.g λr=>fin m r st k
 |.sub o i,m,st,k=>ev o TO st λx st=>ev i TO st λy st=>vP x y st.g λr=>fin m r st k
 |.cw i j,m,st,k=>kf st.ρ[i]? λv=>vP v (.int j) st.g λr=>fin m r st k
 |.oC i,m,st,k=>kf st.ρ[i]? λv=>∃n,m7 v=TK n/\fin m (.int n) st k
 |.pX o a b,m,st,k=>ev o TO st λx st=>ev a TO st λy st=>ev b TO st λz st=>∃r,cN x y z=TK r/\fin m r st k
 |.comp d n it c,m,st,k=>ev it TO st λx st=>∃items,jS x=TK items/\items.length<=av/\ qn (λst k=>ev d TO st k) (λst k=>ev c TN st k) n (st.ρ.map hide) items [] st.g λxs g=>kM st.g g/\fin m (.list xs) {st with g:=g} k
 |.lam n i,m,st,k=>Lm st.ρ[i]? st.g λa=>fin m (.lam n a) st k
 |.nil,_,_,_=>False
 |.cons _ _,_,_,_=>False
noncomputable def BZ:E->St->(List V->St->Prop)->Prop
 |.nil,st,k=>k [] st
 |.cons e l,st,k=>ev e TO st λv st=>BZ l st λvs st=>k (v::vs) st
 |_,_,_=>False
end
noncomputable abbrev KS:=Fl->St->Prop
noncomputable def ug (f:Fl) (st:St) (a:St->Prop) (k:KS):Prop:=match f with
 |.next=>a st
 |.cont=>a st
 |.brk=>k .next st
 |.ret v=>k (.ret v) st
noncomputable def oH (t:St->KE->Prop) (b:St->KS->Prop):Nat->St->KS->Prop
 |0,_,_=>False
 |n+1,st,k=>t st (F0 λa st=>pick a (b st λf st=>ug f st (λst=>oH t b n st k) k) (k .next st))
noncomputable def putL:List Nat->List V->St->Option St
 |[],[],st=>TK st
 |i::is,x::xs,st=>putL is xs (st.put i (.v x))
 |_,_,_=>TW
noncomputable def qo (is:List Nat) (x:V) (st:St):Option St:=match is with
 |[i]=>TK (st.put i (.v x))
 |is=>(tupP x).bind λxs=>putL is xs st
noncomputable def forL (b:St->KS->Prop) (is:List Nat):List V->St->KS->Prop
 |[],st,k=>k .next st
 |x::r,st,k=>∃st',qo is x st=TK st'/\b st' λf st=>ug f st (λst=>forL b is r st k) k
noncomputable def IG (f:Fl) (st:St) (a:St->Prop) (k:KS):Prop:=match f with
 |.next=>a st
 |f=>k f st
noncomputable def IH (i:Nat) (vs:List V) (st:St) (k:KS):Prop:=(vs=[]/\k .next (st.put i (.mb [])))\/∃b,vs=[.bytes b]/\k .next (st.put i (.mb b))
inductive II (i:Nat) (vs:List V) (st:St) (k:KS):Prop
 |own (q:k .next (st.put i (.ml vs)))
 |src (cells:List Int) (p:Nat) (n:st.g.src.isNone=TN) (e:vs=[.list (cells.map .int),.int p]) (q:∀a,k .next {st.put i (.v (.ref a)) with g:={st.g with src:=TK ⟨a,cells,p⟩}})
inductive EN (x:V) (n:Nm) (v:V) (st:St) (k:KS):Prop
 |mk (w:Wr) (i:Int) (h:st.g.wire=TK w) (e:x=.ref w.a) (hn:n=.at_) (ev:v=.int i) (z:0<=i) (q:k .next {st with g:={st.g with wire:=TK {w with pos:=i.toNat}}})
inductive EO (x y v:V) (st:St) (k:KS):Prop
 |mk (s:Src) (i:Int) (h:st.g.src=TK s) (e:x=.ref s.a) (hn:y=.int 1) (ev:v=.int i) (z:0<=i) (q:k .next {st with g:={st.g with src:=TK {s with pos:=i.toNat}}})
inductive Lo (s:Option Slot) (op:UH) (K:(Int->St->Prop)->Prop) (i:Nat) (k:KS):Prop
 |mk (p:Int) (e:s=TK (.v (.int p))) (o:op=.Add) (q:K λd st=>k .next (st.put i (.v (.int (p+d)))))
noncomputable def vQ (s:Option Slot) (a b:Prop):Prop:=match s with
 |some (.ml _)=>a
 |some (.mb _)=>b
 |_=>False
inductive IJ (i:Nat) (v:V) (st:St) (k:KS):Prop
 |mk (xs:List V) (h:st.ρ[i]?=TK (.ml xs)) (z:xs.length<av) (q:k .next (st.put i (.ml (xs++[v]))))
inductive yj (i:Nat) (v:V) (st:St) (k:KS):Prop
 |mk (bs:List UInt8) (c:Int) (h:st.ρ[i]?=TK (.mb bs)) (e:v=.int c) (c0:0<=c) (c1:c<256) (z:bs.length<av) (q:k .next (st.put i (.mb (bs++[Pp c.toNat]))))
inductive yk (i:Nat) (v:V) (st:St) (k:KS):Prop
 |mk (xs ys:List V) (h:st.ρ[i]?=TK (.ml xs)) (e:v=.list ys) (z:xs.length+ys.length<av) (q:k .next (st.put i (.ml (xs++ys))))
inductive yl (i:Nat) (v:V) (st:St) (k:KS):Prop
 |mk (bs cs:List UInt8) (h:st.ρ[i]?=TK (.mb bs)) (e:v=.bytes cs) (z:bs.length+cs.length<av) (q:k .next (st.put i (.mb (bs++cs))))
noncomputable def sG:S->St->KS->Prop
 |.skip,st,k=>k .next st
 |.raise,_,_=>False
 |.seq a b,st,k=>sG a st λf st=>IG f st (λst=>sG b st k) k
 |.asg i e,st,k=>ev R wm e TO st λv st=>k .next (st.put i (.v v))
 |.oD i l,st,k=>BZ R wm l st λvs st=>II i vs st k
 |.vK i l,st,k=>BZ R wm l st λvs st=>IH i vs st k
 |.ly is e,st,k=>ev R wm e TO st λv st=>∃st',qo is v st=TK st'/\k .next st'
 |.kA o n e,st,k=>ev R wm e TO st λv st=>ev R wm o TO st λx st=>EN x n v st k
 |.qh o i e,st,k=>ev R wm e TO st λv st=>ev R wm o TO st λx st=>ev R wm i TO st λy st=>EO x y v st k
 |.aug i op e,st,k=>Lo st.ρ[i]? op (λK=>ev R wm e TO st λy st=>∃d,y=.int d/\K d st) i k
 |.expr e,st,k=>ev R wm e TO st λ_ st=>k .next st
 |.app i e,st,k=>vQ st.ρ[i]? (ev R wm e TO st λv st=>IJ i v st k) (ev R wm e TO st λv st=>yj i v st k)
 |.ext i e,st,k=>vQ st.ρ[i]? (ev R wm e TO st λv st=>yk i v st k) (ev R wm e TO st λv st=>yl i v st k)
 |.ite t a b,st,k=>ev R wm t TN st (F0 λt st=>pick t (sG a st k) (sG b st k))
 |.FT t b,st,k=>∃n,oH (λst k=>ev R wm t TN st k) (λst k=>sG b st k) n st k
 |.vL is it b,st,k=>ev R wm it TO st λx st=>∃items,jS x=TK items/\forL (λst k=>sG b st k) is items st k
 |.xW is e b,st,k=>ev R wm e TO st λx st=>∃t,[x]=[.str t]/\forL (λst k=>sG b st k) is (gO 0 t) st k
 |.ret e,st,k=>ev R wm e TO st λv st=>k (.ret v) st
 |.xX,st,k=>k (.ret .none) st
 |.cont,st,k=>k .cont st
 |.xY b,st,k=>sG b st k
end
section
structure Cx.Ok (C:Cx):Prop where
 F1:∀a o,C.K.lookup a=TK o->¬C.mut a
 m1:¬C.mut T5
 m2:¬C.mut Un
 m3:¬C.mut cStatics
 tabs:∀l∈C.tabs,∀l'∈C.tabs,l.T=l'.T->l=l'
structure Base (C:Cx) (h:Ut):Prop where
 ok:C.Ok
 K:C.K.In h
 g:h.Ns T5 C.mg
 b:h.Ns Un C.mb
 nolimit:h.NoLimit
 lC:∃mc,h.Ns cStatics mc/\mc "sys.int_max_str_digits"=TW
 lt:C.n₁<=h.objs.size
 glob:∀x v,C.glob x=TK v->∃u,(C.mg x=TK u\/(C.mg x=TW/\C.mb x=TK u))/\Rep C C.mut h u v
theorem Base.keep (B:Base C h) (k:∀b o,¬C.mut b->h.get? b=TK o->h'.get? b=TK o) (z:h.objs.size<=h'.objs.size):Base C h' where
 ok:=B.ok
 K:=λa o e=>k a o (B.ok.F1 a o e) (B.K a o e)
 g:=B.g.at' λo e=>k _ o B.ok.m1 e
 b:=B.b.at' λo e=>k _ o B.ok.m2 e
 nolimit:=aT B.nolimit λmc x y=>i12 mc (x.at' λo e=>k _ o B.ok.m3 e) y
 lC:=aT B.lC λmc x y=>i12 mc (x.at' λo e=>k _ o B.ok.m3 e) y
 lt:=O5 B.lt z
 glob:=λx v e=>aT (B.glob x v e) λu q r=>(i12 u q (r.move (λb o nb e=>k b o nb e) λ_ _ y=>y))
noncomputable def c7 (a:Int) (b c:Tok) (d:Int) (e f:Tok) (r:Wr):Array U8:=#[⟨a,.str (O6 "data") b,.bytes r.data.toArray c⟩,⟨d,.str (O6 "at") e,.int r.pos f⟩]
structure cU (C:Cx) (Z:AP) (h:Ut) (g:G):Prop where
 src:∀r,g.src=TK r->Z r.a/\C.mut r.a/\∃cv t n,h.get? r.a=TK (seqObj "list" #[cv,.int r.pos t] n)/\Rep C Z h cv (.list (r.cells.map .int))
 wire:∀r,g.wire=TK r->Z r.d/\¬Z r.a/\C.mut r.d/\h.get? r.a=TK (fP C.cW r.d)/\∃h1 k1 t1 h2 k2 t2 n,h.get? r.d=TK (de (c7 h1 k1 t1 h2 k2 t2 r) n)
 apart:∀r w,g.src=TK r->g.wire=TK w->r.a≠w.d
 tabs:∀l∈C.tabs,∃vs,h.get? l.T=TK (({cls:=.none,data:=.fields vs}:Obj))/\(vs=#[]\/∃c,vs=#[U5 l.line,U5 l.col,.ref c]/\h.CodeRec (.ref c) l.q/\¬Z c)
 lD:∀r,g.wire=TK r->r.data.length<=av
noncomputable def G.fM (g:G) (a:T2):Prop:=(∃r,g.src=TK r/\r.a=a)\/(∃r,g.wire=TK r/\r.d=a)
theorem cU.move {C:Cx} {Z j:AP} {h h':Ut} {g:G} (R:cU C Z h g) (k:∀b o,(¬Z b\/(g.fM b\/C.tab b))->h.get? b=TK o->h'.get? b=TK o) (p:∀b,b<h.objs.size->j b->Z b) (s:∀b,g.fM b->j b):cU C j h' g where
 src:=λr e=>by refine ac λf=>fE (R.src r e) λz m i=>xL i λcv t n a q=>f ?_;clear f;exact (dQ (s _ (.inl (i12 r e TL))) m (xN cv t n (k _ _ (.inr (.inl (.inl (i12 r e TL)))) a) (q.move (λb o nb=>k b o (.inl nb)) p)))
 wire:=λr e=>by refine ac λf=>ou (R.wire r e) λz u m a i=>EF i λh1 k1 t1 h2 k2 t2 n b=>f ?_;clear f;exact (BY (s _ (.inr (i12 r e TL))) (λy=>u (p _ (Py a) y)) m (k _ _ (.inl u) a) (KD h1 k1 t1 h2 k2 t2 n (k _ _ (.inr (.inl (.inr (i12 r e TL)))) b)))
 apart:=R.apart
 lD:=R.lD
 tabs:=λl m=>by refine ac λf=>aT (R.tabs l m) λvs g q=>f ?_;clear f;refine (i12 vs (k _ _ (.inr (.inr (i12 l m TL))) g) (q.imp id λv=>ix v λc e r n=>?_));exact cR (FK r λD o x F A g' _ _=>⟨o,S0 A▸g'⟩:∃o,h.get? c=TK o) λH B=>(eK c e (r.at λo e=>k _ o (.inl n) e) (λy=>n (p _ (Py B) y)))
structure Fm where
 env:Env
 vars:List (Str×Nat)
 X:AP
 W:AP
 P:AP
 hr:Ut
 cl:List T2
 fz:AP
structure Dy where
 mu:List (Nat×T2)
 pb:List T2
noncomputable def own (F:Fm) (y:Dy):List T2:=F.env.locals::(F.cl++(y.mu.map (·.2)++y.pb))
theorem kN:F.env.locals∈own F y:=.head _
theorem oI (h:c∈F.cl):c∈own F y:=.tail _ (QU _ h)
theorem f5 (h:(j,a)∈y.mu):a∈own F y:=.tail _ (P4 _ (QU _ (QG h)))
theorem gP (h:b∈y.pb):b∈own F y:=.tail _ (P4 _ (P4 _ h))
theorem ym (h:b∈own F y):b=F.env.locals\/b∈F.cl\/(∃j,(j,b)∈y.mu)\/b∈y.pb:=(Pf.mp h).imp id λh=>(PE.mp h).imp id λh=>(PE.mp h).imp (λh=>let ⟨p,m,e⟩:=PI.mp h;⟨p.1,e▸m⟩) id
structure IK (F:Fm) (y:Dy):Prop where
 lc:F.env.locals∉F.cl
 lm:∀j a,(j,a)∈y.mu->a≠F.env.locals
 lp:∀b∈y.pb,b≠F.env.locals
 cm:∀c∈F.cl,∀j a,(j,a)∈y.mu->a≠c
 cp:∀c∈F.cl,∀b∈y.pb,b≠c
 mm:(y.mu.map (·.2)).Nodup
 mp:∀j a,(j,a)∈y.mu->a∉y.pb
theorem jT (h:(own F y).Nodup):IK F y:=by refine aM (PX.mp h) λd i=>fE (RV.mp i) λo k g=>fE (RV.mp k) λl p n=>?_;have mu:∀{j a},(j,a)∈y.mu->a∈y.mu.map (·.2):=λm=>QG m;exact ⟨λm=>d (QU _ m),λj a m e=>d (e▸P4 _ (QU _ (mu m))),λb m e=>d (e▸P4 _ (P4 _ m)),λc f j a m e=>g c f a (QU _ (mu m)) e.symm,λc f b m e=>g c f b (P4 _ m) e.symm,l,λj a m q=>n a (mu m) a q TL⟩
noncomputable def Fm.Z (F:Fm) (y:Dy):AP:=λa=>F.X a\/a∈own F y
noncomputable def cx (env:Env) (h:Ut) (x:Str) (v:Option TT):Prop:=(env.kindOf x=TK .local/\∃m,h.Ns env.locals m/\m x=v)\/ ((env.kindOf x=TK .cell\/env.kindOf x=TK .free)/\∃c,env.cells.lookup x=TK c/\h.IsCell c v)
noncomputable def dq (C:Cx) (Z:AP) (h:Ut) (mu:List (Nat×T2)) (i:Nat):Slot->TT->Prop
 |.u,_=>True
 |.v x,v=>Rep C Z h v x
 |.ml xs,v=>∃a vs n,v=.ref a/\(i,a)∈mu/\h.get? a=TK (seqObj "list" vs n)/\aP C Z h vs.toList xs/\vs.size<=av
 |.mb bs,v=>∃a b,v=.ref a/\(i,a)∈mu/\h.get? a=TK {cls:=.type "bytearray",data:=.bytearray b}/\b.toList=bs/\b.size<=av
theorem dq.move (k:∀b o,¬Z b->h.get? b=TK o->h'.get? b=TK o) (d:∀b,b<h.objs.size->j b->Z b) (f:∀a o,(i,a)∈mu->h.get? a=TK o->h'.get? a=TK o) (mm:∀a,(i,a)∈mu->(i,a)∈c) {s v} (r:dq C Z h mu i s v):dq C j h' c i s v:=by
 cases s with
 |u=>exact r
 |v _=>exact Rep.move k d r
 |ml _=>exact KB r λa vs n e m g r z=>K6 a vs n e (mm _ m) (f _ _ m g) (r.move k d) z
 |mb _=>exact m0 r λa b e m g q=>K4 a b e (mm _ m) (f _ _ m g) q
theorem cx.move (V:cx env h x v) (d:env.kindOf x=TK .local->∀o,h.get? env.locals=TK o->h'.get? env.locals=TK o) (f:∀c o,env.cells.lookup x=TK c->h.get? c=TK o->h'.get? c=TK o):cx env h' x v:=by
 refine PA V (λb=>aM b λa b=>aT b λm n e=>?_) λb=>aM b λa b=>aT b λc e b=>aT b λo g q=>?_
 ·exact .inl (⟨a,(i12 m (n.at' (d a)) e)⟩)
 ·exact .inr (⟨a,(i12 c e (i12 o (f c o e g) q))⟩)
structure FS (C:Cx) (F:Fm) (y:Dy) (st:St) (s:TP):Prop where
 base:Base C s.heap
 gens:s.gens=#[]
 drawn:s.drawn=C.FQ
 os:s.os=C.xR
 keep:∀b o,F.P b->¬F.W b->F.hr.get? b=TK o->s.heap.get? b=TK o
 jh:∀b,F.P b->b<s.heap.objs.size
 c8:∀b∈own F y,¬F.P b
 ec:∀b∈own F y,b<s.heap.objs.size/\C.n₁<=b/\¬F.X b
 iy:(own F y).Nodup
 xb:∀b,F.X b->b<s.heap.objs.size/\C.mut b
 wx:∀b,F.W b->F.X b
 ee:∀b,C.tab b->F.W b
 kind:F.env.scope.kind=.function
 iL:F.env.globals=T5
 blt:F.env.builtins=Un
 locs:∃m,s.heap.Ns F.env.locals m
 bJ:cU C (F.Z y) s.heap st.g
 dn:∀a,st.g.fM a->F.W a\/a∈y.pb
 dg:(y.mu.map (·.1)).Nodup
 pY:(F.vars.map (·.1)).Nodup
 nA:(F.vars.map (·.2)).Nodup
 kinds:∀x i,(x,i)∈F.vars->(F.env.kindOf x=TK .local)\/((F.env.kindOf x=TK .cell\/F.env.kindOf x=TK .free)/\∃c v,F.env.cells.lookup x=TK c/\s.heap.IsCell c v/\c≠F.env.locals)
 cells:∀x i c,(x,i)∈F.vars->(F.env.kindOf x=TK .cell\/F.env.kindOf x=TK .free)->F.env.cells.lookup x=TK c->c∈F.cl\/(c∉own F y/\¬F.W c/\(F.fz c->¬F.X c))
 f6:∀x x' c,F.env.cells.lookup x=TK c->F.env.cells.lookup x'=TK c->x=x'
 vars:∀x i,(x,i)∈F.vars->∀sl,st.ρ[i]?=TK sl->sl=.u\/∃v,cx F.env s.heap x (TK v)/\dq C (F.Z y) s.heap y.mu i sl v
variable {C:Cx} {F:Fm} {y:Dy} {st:St} {s s':TP}
theorem FS.yn (f:FS C F y st s) (z:F.Z y b):C.mut b:=by
 refine PA z (λz=>?_) λz=>?_
 ·exact (f.xb b z).2
 ·exact .inl (f.ec b z).2.1
theorem FS.same (f:FS C F y st s) (k:∀b o,s.heap.get? b=TK o->s'.heap.get? b=TK o) (z:s.heap.objs.size<=s'.heap.objs.size) (d:s'.gens=s.gens) (h:s'.drawn=s.drawn) (j:s'.os=s.os):FS C F y st s' where
 base:=f.base.keep (λb o _ e=>k b o e) z
 gens:=d.trans f.gens
 drawn:=h.trans f.drawn
 os:=j.trans f.os
 keep:=λb o p w e=>k _ _ (f.keep b o p w e)
 jh:=λb p=>Pj (f.jh b p) z
 c8:=f.c8
 ec:=λb m=>⟨Pj (f.ec b m).1 z,(f.ec b m).2⟩
 iy:=f.iy
 xb:=λb m=>⟨Pj (f.xb b m).1 z,(f.xb b m).2⟩
 wx:=f.wx
 ee:=f.ee
 kind:=f.kind
 iL:=f.iL
 blt:=f.blt
 locs:=f.locs.elim λm n=>⟨m,n.keeps k⟩
 bJ:=f.bJ.move (λb o _ e=>k b o e) (λ_ _ y=>y) (λb p=>(f.dn b p).elim (λw=>.inl (f.wx b w)) (λm=>.inr (gP m)))
 dn:=f.dn
 dg:=f.dg
 pY:=f.pY
 nA:=f.nA
 kinds:=λx i m=>(f.kinds x i m).imp id λ⟨a,c,v,l,q,n⟩=>(⟨a,(gF c v l (q.keeps k) n)⟩)
 cells:=f.cells
 f6:=f.f6
 vars:=λx i m sl e=>(f.vars x i m sl e).imp id λ⟨v,a,b⟩=>(i12 v (a.move (λ_ o=>k _ o) (λc o _=>k c o)) (b.move (λb o _=>k b o) (λ_ _ y=>y) (λa o _=>k a o) (λ_ m=>m)))
theorem FS.grow (f:FS C F y st s) (g:a9 s s'):FS C F y st s':=by refine ac λd=>?_;obtain ⟨⟨h,t,rfl⟩,k,z⟩:=g;refine d ?_;exact f.same k z TL TL TL
theorem oJ {i j:Type} {l:List (i×j)} {a:i} {b c:j} (n:(l.map (·.1)).Nodup) (h:(a,b)∈l) (k:(a,c)∈l):b=c:=by
 induction l with
 |nil=>exact TU h Pn
 |cons p r o=>refine aM (PX.mp n) λn1 q=>?_;have d:∀{c},p=(a,c)->∀{b},(a,b)∈r->False:=λe _ m=>n1 (e▸QG (f:=(·.1)) m);exact (Pf.mp h).elim (λe=>(Pf.mp k).elim (λg=>(PB (e.trans g.symm)).2) λk=>(d e.symm k).elim) λh=>(Pf.mp k).elim (λg=>(d g.symm h).elim) λk=>o q h k
theorem ji {i j:Type} {l:List (i×j)} {a b:i} {c:j} (n:(l.map (·.2)).Nodup) (h:(a,c)∈l) (k:(b,c)∈l):a=b:=by
 induction l with
 |nil=>exact TU h Pn
 |cons p r o=>refine aM (PX.mp n) λn1 q=>?_;have d:∀{a},p=(a,c)->∀{b},(b,c)∈r->False:=λe _ m=>n1 (e▸QG (f:=(·.2)) m);exact (Pf.mp h).elim (λe=>(Pf.mp k).elim (λg=>(PB (e.trans g.symm)).1) λk=>(d e.symm k).elim) λh=>(Pf.mp k).elim (λg=>(d g.symm h).elim) λk=>o q h k
structure nB (F:Fm) (y:Dy) (T:T2):Prop where
 mem:T∈own F y
 mu:∀j a,(j,a)∈y.mu->a≠T
 pb:∀a∈y.pb,a≠T
theorem dr (h:(own F y).Nodup):nB F y F.env.locals:=⟨kN,(jT h).lm,(jT h).lp⟩
theorem eS (h:(own F y).Nodup) (a:c∈F.cl):nB F y c:=⟨oI a,(jT h).cm c a,(jT h).cp c a⟩
theorem FS.qp (f:FS C F y st s) (p:st.g.fM b):F.Z y b:=(f.dn b p).elim (λw=>.inl (f.wx b w)) (λm=>.inr (gP m))
theorem nB.ne (t:nB F y T) (f:FS C F y st s) (z:¬F.Z y b\/(st.g.fM b\/C.tab b)):b≠T:=by
 rintro rfl
 refine or3 z (λz=>?_) (λp=>?_) λw=>?_
 ·exact z (.inr t.mem)
 ·refine PA (f.dn b p) (λw=>?_) λm=>?_
  ·exact (f.ec b t.mem).2.2 (f.wx b w)
  ·exact t.pb b m TL
 ·exact (f.ec b t.mem).2.2 (f.wx b (f.ee b w))
theorem oK {sl s':Slot} (e:(st.put i sl).ρ[j]?=TK s'):(j=i/\s'=sl)\/(j≠i/\st.ρ[j]?=TK s'):=by
 have e:(st.ρ.set i sl)[j]?=TK s':=e;by_cases h:i=j
 ·subst h;by_cases k:i<st.ρ.length
  ·rw [List.getElem?_set_self k] at e;exact .inl ⟨TL,(le e).symm⟩
  ·rw [List.getElem?_eq_none (O5 (O9 List.length_set) (Pt.mp k))] at e;exact Option.noConfusion TL (heq_of_eq e)
 ·rw [List.getElem?_set_ne h] at e;exact .inr ⟨S1 h,e⟩
theorem FS.turn {T:T2} {sl:Slot} {x:Str} (f:FS C F y st s) (t:nB F y T) (Y:T=F.env.locals\/T∈F.cl) (hs:QL T s.heap h') (O:(x,i)∈F.vars) (ho:∀b∈own F y',b∈own F y) (hn:(own F y').Nodup) (h:∀j a,j≠i->(j,a)∈y.mu->(j,a)∈y'.mu) (A:(y'.mu.map (·.1)).Nodup) (hp:∀a,st.g.fM a->F.W a\/a∈y'.pb) (locs:∃m,h'.Ns F.env.locals m) (cell:∀c v,c≠F.env.locals->s.heap.IsCell c v->∃B,h'.IsCell c B) (D:sl=.u\/∃v,cx F.env h' x (TK v)/\dq C (F.Z y') h' y'.mu i sl v) (H:∀x' j v,(x',j)∈F.vars->x'≠x->cx F.env s.heap x' (TK v)->cx F.env h' x' (TK v)):
  FS C F y' (st.put i sl) {s with heap:=h',toks:=tk} where
 base:=f.base.keep (λb o nb e=>hs.extBut b o (by rintro rfl;exact nb (f.yn (.inr t.mem))) e) (O9 hs.1.symm)
 gens:=f.gens
 drawn:=f.drawn
 os:=f.os
 keep:=λb o p w e=>hs.extBut b o (by rintro rfl;exact f.c8 b t.mem p) (f.keep b o p w e)
 jh:=λb p=>RM (f.jh b p) hs.1.symm
 c8:=λb m=>f.c8 b (ho b m)
 ec:=λb m=>⟨RM (f.ec b (ho b m)).1 hs.1.symm,(f.ec b (ho b m)).2⟩
 iy:=hn
 xb:=λb m=>⟨RM (f.xb b m).1 hs.1.symm,(f.xb b m).2⟩
 wx:=f.wx
 ee:=f.ee
 kind:=f.kind
 iL:=f.iL
 blt:=f.blt
 locs:=locs
 bJ:=f.bJ.move (λb o z e=>hs.extBut b o (t.ne f z) e) (λb _ z=>z.imp id (ho b)) (λb p=>(hp b p).elim (λw=>.inl (f.wx b w)) (λm=>.inr (gP m)))
 dn:=hp
 dg:=A
 pY:=f.pY
 nA:=f.nA
 kinds:=λx i m=>(f.kinds x i m).imp id λ⟨a,c,v,l,q,n⟩=>let ⟨B,R⟩:=cell c v n q;(⟨a,(gF c B l R n)⟩)
 cells:=λx i c m k l=>(f.cells x i c m k l).imp id λQ=>⟨λz=>Q.1 (ho c z),Q.2⟩
 f6:=f.f6
 vars:=λx' j m J e=>by
  refine PA (oK e) (λd=>aM d λL M=>?_) λd=>aM d λne e=>?_
  ·subst L;subst M;have:=ji f.nA m O;subst this;exact D
  ·refine PA (f.vars x' j m J e) (λr=>?_) λd=>aT d λv a b=>?_
   ·exact .inl r
   ·have U:x'≠x:=by
     rintro rfl
     exact ne (oJ f.pY m O)
    exact .inr (i12 v (H x' j v m U a) (b.move (λb o nb e=>hs.extBut b o (t.ne f (.inl nb)) e) (λb _ z=>z.imp id (ho b)) (λa o N e=>hs.extBut a o (t.mu j a N) e) (λa N=>h j a ne N)))
theorem FS.store {E:TT->TP->Prop} {Q:Unit->TP->Prop} (f:FS C F y st s) (U:(x,i)∈F.vars) (hc:∀c,(F.env.kindOf x=TK .cell\/F.env.kindOf x=TK .free)->F.env.cells.lookup x=TK c->F.env.kindOf x=TK .cell/\c∈F.cl) (ho:∀b∈own F y',b∈own F y) (hn:(own F y').Nodup) (p:∀j a,j≠i->(j,a)∈y.mu->(j,a)∈y'.mu) (r:(y'.mu.map (·.1)).Nodup) (hp:∀a,st.g.fM a->F.W a\/a∈y'.pb) (w:∀j a,(j,a)∈y'.mu->a≠F.env.locals/\a∉F.cl) (hr:dq C (F.Z y') s.heap y'.mu i sl v) (h:∀s',FS C F y' (st.put i sl) s'->Q () s'):aC M A (Vz F.env x v) Q E s:=by
 have mv:∀{T h'},(T=F.env.locals\/T∈F.cl)->nB F y T->T∈own F y'->QL T s.heap h'->dq C (F.Z y') h' y'.mu i sl v:=λ{T h'} hT t B hs=>hr.move (λb o nb e=>hs.extBut b o (by rintro rfl;exact nb (.inr B)) e) (λ_ _ z=>z) (λa o ma e=>hs.extBut a o (by rintro rfl;rcases hT with rfl|q;exact (w _ _ ma).1 TL;exact (w _ _ ma).2 q) e) (λ_ m=>m);refine PA (f.kinds x i U) (λk=>?_) λd=>aM d λk d=>bB d λc N1 l q D=>?_
 ·refine cR f.locs λm O=>?_;refine iu k O (λh' n hs=>h _ ?_) (by refine aa (f.kind ..) ?_;rfl);refine f.turn (dr f.iy) (.inl TL) hs U ho hn p r hp ⟨_,n⟩ (λc v ne q=>⟨v,q.sameBut hs ne⟩) (.inr (i12 v (.inl (⟨k,(i12 _ n (by simp))⟩)) (mv (.inl TL) (dr f.iy) kN hs))) ?_;rintro x' j u mx ne (⟨k',B,H,Y⟩|⟨k',c,l,q⟩)
  ·refine .inl (⟨k',(i12 _ n ?_)⟩);have:m=B:=by refine xM O λo es ep g1 d1 J r1=>xM H λo' O0 O1 g2 d2 J r2=>?_;obtain rfl:=le (g1.symm.trans g2);refine aM (Data.dict.inj (d1.symm.trans d2)) λIL J=>?_;subst IL;exact funext λz=>(r1 z).symm.trans (r2 z)
   subst this;simp [ne,Y]
  ·refine .inr (⟨k',(i12 c l (q.sameBut hs ?_))⟩);refine PA (f.kinds x' j mx) (λkk=>?_) λd=>aM d λJ d=>bB d λR J L J H=>?_
   ·rw [kk] at k';rcases k' with k'|k'<;>cases k'
   ·rw [l] at L;cases L;exact H
 ·refine aM (hc c k l) λkc N=>iJ f.kind kc l q (λh' hv hs=>h _ ?_);refine cR f.locs λm O=>f.turn (eS f.iy N) (.inr N) hs U ho hn p r hp ⟨m,O.sameBut hs (S1 D)⟩ (λR v ne q'=>?_) (.inr (i12 v (.inr (⟨k,(i12 c l hv)⟩)) (mv (.inr N) (eS f.iy N) (oI N) hs))) ?_
  ·by_cases e:R=c
   ·subst e;exact ⟨_,hv⟩
   ·exact ⟨v,q'.sameBut hs e⟩
  ·rintro x' j u mx ne (⟨k',B,H,Y⟩|⟨k',R,L,q'⟩)
   ·exact .inl (⟨k',(i12 B (H.sameBut hs (S1 D)) Y)⟩)
   ·exact .inr (⟨k',(i12 R L (q'.sameBut hs (by rintro rfl;exact ne (f.f6 _ _ _ L l))))⟩)
end
section
variable {C:Cx} {F:Fm} {y:Dy} {st:St} {s s':TP}
theorem cx.load {E:TT->TP->Prop} {Q:TT->TP->Prop} (V:cx env s.heap x (TK v)) (b:env.scope.kind=.function) (hd:(x==("__classdict__":Str))=TO) (h:Q v s):
  aC M A (Vo env x) Q E s:=by
 refine PA V (λa=>aM a λk a=>aT a λm n e=>?_) λa=>aM a λk a=>aT a λc l q=>?_
 ·exact eM b k n e h
 ·refine PA k (λk=>?_) λk=>?_
  ·exact i7 b k l q h
  ·exact i8 b k l q h hd
noncomputable def Dy.drop (y:Dy) (i:Nat):Dy:={y with mu:=y.mu.filter λp=>p.1 !=i}
theorem jj:List.Sublist (own F (y.drop i)) (own F y):=.cons_cons _ (.append (.refl _) (.append ((List.filter_sublist).map _) (.refl _)))
theorem gQ:∀b∈own F (y.drop i),b∈own F y:=λ_ m=>jj.subset m
theorem fq:(j,a)∈(y.drop i).mu↔(j,a)∈y.mu/\j≠i:=by simp [Dy.drop]
theorem oL (h:(y.mu.map (·.1)).Nodup):((y.drop i).mu.map (·.1)).Nodup:=h.sublist ((List.filter_sublist).map _)
theorem nC (n:(own F y).Nodup) (m:(i,a)∈y.mu):a∉own F (y.drop i):=λq=>by
 have O:=jT n;refine KF (ym q) (λq=>?_) (λq=>?_) (λb=>cR b λj q=>?_) λq=>?_
 ·exact O.lm _ _ m q
 ·exact O.cm _ q _ _ m TL
 ·exact (fq.mp q).2 (ji O.mm (fq.mp q).1 m)
 ·exact O.mp _ _ m q
theorem FS.F2 (f:FS C F y st s) (hg:st'.g=st.g) (ho:∀b∈own F y',b∈own F y) (hn:(own F y').Nodup) (d:(y'.mu.map (·.1)).Nodup) (hp:∀a,st.g.fM a->F.W a\/a∈y'.pb) (j:∀x i,(x,i)∈F.vars->∀sl,st'.ρ[i]?=TK sl->sl=.u\/∃v,cx F.env s.heap x (TK v)/\dq C (F.Z y') s.heap y'.mu i sl v):FS C F y' st' s where
 base:=f.base
 gens:=f.gens
 drawn:=f.drawn
 os:=f.os
 keep:=f.keep
 jh:=f.jh
 c8:=λb m=>f.c8 b (ho b m)
 ec:=λb m=>f.ec b (ho b m)
 iy:=hn
 xb:=f.xb
 wx:=f.wx
 ee:=f.ee
 kind:=f.kind
 iL:=f.iL
 blt:=f.blt
 locs:=f.locs
 bJ:=by exact aa (hg ..) (f.bJ.move (λb o _ e=>e) (λb _ z=>z.imp id (ho b)) (λb p=>(hp b p).elim (λw=>.inl (f.wx b w)) (λm=>.inr (gP m))))
 dn:=by refine aa (hg ..) ?_;exact hp
 dg:=d
 pY:=f.pY
 nA:=f.nA
 kinds:=f.kinds
 cells:=λx i c m k l=>(f.cells x i c m k l).imp id λh=>⟨λz=>h.1 (ho c z),h.2⟩
 f6:=f.f6
 vars:=j
theorem FS.freeze {sl:Slot} (f:FS C F y st s) (h:(x,i)∈F.vars) (k:cx F.env s.heap x (TK v)) (r:Rep C (F.Z (y.drop i)) s.heap v w):
  FS C F (y.drop i) (st.put i (.v w)) s:=by
 refine f.F2 TL gQ (f.iy.sublist jj) (oL f.dg) f.dn λx' j m d e=>?_;rcases oK e with ⟨rfl,rfl⟩|⟨ne,e⟩
 ·obtain rfl:x'=x:=ji f.nA m h;exact .inr (i12 v k r)
 ·exact (f.vars x' j m d e).imp id λ⟨u,a,b⟩=>(i12 u a (b.move (λ_ _ _ e=>e) (λb _ z=>z.imp id (gQ b)) (λ_ _ _ e=>e) (λa l=>fq.mpr ⟨l,ne⟩)))
theorem dq.frozen (f:FS C F y st s) {xs v} (r:dq C (F.Z y) s.heap y.mu i (.ml xs) v):Rep C (F.Z (y.drop i)) s.heap v (.list xs):=KB r λa vs n e m g r z=>e▸.list g (λz=>z.elim (f.ec a (f5 m)).2.2 (nC f.iy m)) (r.move (λ_ _ _ e=>e) λb _ z=>z.imp id (gQ b)) z
theorem dq.uh (f:FS C F y st s) {bs v} (r:dq C (F.Z y) s.heap y.mu i (.mb bs) v):Rep C (F.Z (y.drop i)) s.heap v (.gC bs):=NI r λa b e m g q z=>e▸q▸.gC g (λz=>z.elim (f.ec a (f5 m)).2.2 (nC f.iy m)) z
theorem uj:(own F ⟨(i,a)::mu,pb⟩).Perm (a::own F ⟨mu,pb⟩):=(List.Perm.cons _ S9).trans (.swap ..)
theorem kO:(own F {y with pb:=a::y.pb}).Perm (a::own F y):=(List.Perm.cons _ ((List.Perm.append_left _ S9).trans S9)).trans (.swap ..)
theorem FS.sH (f:FS C F y st s) (g:a9 s s') (j:s.heap.objs.size<=d) (A:d<s'.heap.objs.size):FS C F {y with pb:=d::y.pb} st s':=by
 have g':=f.grow g;have P:=kO (F:=F) (y:=y) (a:=d);have mem:∀b,b∈own F {y with pb:=d::y.pb}↔b=d\/b∈own F y:=λb=>P.mem_iff.trans Pf;have t:∀b,b<s.heap.objs.size->F.Z {y with pb:=d::y.pb} b->F.Z y b:=λb lt z=>z.imp id λm=>((mem b).mp m).elim (λe=>TU lt (e▸Pt.mpr j)) id;have n:=g.keep;exact {
  base:=g'.base
  gens:=g'.gens
  drawn:=g'.drawn
  os:=g'.os
  keep:=g'.keep
  jh:=g'.jh
  c8:=λb m=>((mem b).mp m).elim (λe p=>TU (f.jh b p) (e▸Pt.mpr j)) (f.c8 b)
  ec:=λb m=>((mem b).mp m).elim (λe=>(dQ (e▸A) (e▸O5 f.base.lt j) (λx=>TU (f.xb b x).1 (e▸Pt.mpr j)))) (g'.ec b)
  iy:=P.nodup_iff.mpr (PX.mpr ⟨λm=>Pt.mpr j (f.ec _ m).1,f.iy⟩)
  xb:=g'.xb
  wx:=f.wx
  ee:=f.ee
  kind:=f.kind
  iL:=f.iL
  blt:=f.blt
  locs:=g'.locs
  bJ:=f.bJ.move (λb r _ e=>n b r e) t (λb p=>(f.qp p).imp id λm=>(mem b).mpr (.inr m))
  dn:=λa p=>(f.dn a p).imp id λm=>Qv _ m
  dg:=f.dg
  pY:=f.pY
  nA:=f.nA
  kinds:=g'.kinds
  cells:=λx i c m k l=>(f.cells x i c m k l).imp id λw=>⟨λz=>by
   refine PA ((mem c).mp z) (λe=>?_) λB=>?_
   ·refine PA (f.kinds x i m) (λk'=>?_) λh=>aM h λD h=>bB h λJ L H q D=>?_
    ·exact k.elim (λk=>nomatch k'.symm.trans k) λk=>nomatch k'.symm.trans k
    ·obtain rfl:=le (l.symm.trans H);exact TU q.lt (e▸Pt.mpr j)
   ·exact w.1 B,w.2⟩
  f6:=f.f6
  vars:=λx i m sl e=>(f.vars x i m sl e).imp id λ⟨v,a,b⟩=>(i12 v (a.move (λ_ o=>n _ o) (λc o _=>n c o)) (b.move (λb r _=>n b r) t (λa r _=>n a r) (λ_ m=>m)))}
theorem FS.B7 (f:FS C F y st s) (g:a9 s s') (N:w.a=a/\w.d=d) (k:s.heap.objs.size<=d) (A:d<s'.heap.objs.size) (L:s.heap.objs.size<=a) (ne:a≠d) (O:w.data.length<=av) (hn:st.g.wire=TW) (Q:s'.heap.get? a=TK (fP C.cW d)) (gd:∃k R T A U Y n,s'.heap.get? d=TK (de (c7 k R T A U Y w) n)):
  FS C F {y with pb:=d::y.pb} {st with g:={st.g with wire:=TK w}} s':=by
 refine aM N λB D=>?_;subst B;subst D;have l:=f.sH g k A;have H:¬F.Z {y with pb:=w.d::y.pb} w.a:=λz=>z.elim (λx=>Pt.mpr L (f.xb _ x).1) λm=>by
  have key:=λm=>Pt.mpr L (f.ec _ m).1;rcases ym m with h|h|⟨j,h⟩|h
  ·exact key (h▸kN)
  ·exact key (oI h)
  ·exact key (f5 h)
  ·exact (Pf.mp h).elim ne λh=>key (gP h)
 refine {l with bJ:=⟨l.bJ.src,λr e=>?_,λr w' e1 e2=>?_,l.bJ.tabs,λr e=>le e▸O⟩,dn:=λa p=>?_}
 ·obtain rfl:=le e;exact (BY (.inr (gP (.head _))) H (.inl (O5 f.base.lt k)) Q gd)
 ·obtain rfl:=le e2;intro e;exact fE (f.bJ.src r e1) λM M J=>xL J λcv t n q M=>TU (Py q) (e▸Pt.mpr k)
 ·rcases p with p|⟨r,e,rfl⟩
  ·exact l.dn a (.inl p)
  ·obtain rfl:=le e;exact .inr (.head _)
theorem gR (f:FS C F y st s) (p:st.g.fM b\/C.tab b):b≠F.env.locals/\b∉F.cl/\∀j,(j,b)∉y.mu:=by
 refine PA (p.elim (f.dn b) λt=>.inl (f.ee b t)) (λw=>?_) λm=>?_
 ·have a:=λm=>(f.ec b m).2.2 (f.wx b w);exact (dQ (λe=>a (e▸kN)) (λq=>a (oI q)) (λj q=>a (f5 q)))
 ·have O:=jT f.iy;exact (dQ (O.lp b m) (λq=>O.cp b q b m TL) (λj q=>O.mp j b q m))
theorem FS.yo (f:FS C F y st s) (p:st.g.fM b\/C.tab b) (no:b∉own F y) (d:¬F.W b):False:=by
 refine PA p (λp=>?_) λt=>?_
 ·exact (f.dn b p).elim d λm=>no (gP m)
 ·exact d (f.ee b t)
theorem cx.EP (V:cx F.env s.heap x v) (f:FS C F y st s) (m:(x,i)∈F.vars) (k:∀b o,¬(st.g.fM b\/C.tab b)->s.heap.get? b=TK o->s'.heap.get? b=TK o):cx F.env s'.heap x v:=by
 refine PA V (λd=>aM d λa d=>aT d λmm n e=>?_) λd=>aM d λa d=>aT d λc l d=>aT d λo g q=>?_
 ·exact .inl (⟨a,(i12 mm (n.at' λo e=>k _ o (λp=>(gR f p).1 TL) e) e)⟩)
 ·refine .inr (⟨a,(i12 c l (i12 o (k _ _ (λp=>?_) g) q))⟩);refine PA (f.cells x i c m a l) (λh=>?_) λh=>?_
  ·exact (gR f p).2.1 h
  ·exact f.yo p h.1 h.2.1
theorem FS.qq (f:FS C F y st s) (p:st.g.fM b\/C.tab b):F.Z y b:=p.elim f.qp λt=>.inl (f.wx b (f.ee b t))
theorem FS.callee (f:FS C F y st s) (k:∀b o,¬(st.g.fM b\/C.tab b)->s.heap.get? b=TK o->s'.heap.get? b=TK o) (z:s.heap.objs.size<=s'.heap.objs.size) (j:s'.gens=s.gens) (r:s'.drawn=s.drawn) (A:s'.os=s.os) (hg:cU C (F.Z y) s'.heap g') (hp:∀a,g'.fM a->st.g.fM a):FS C F y {st with g:=g'} s' where
 base:=f.base.keep (λb o nb e=>k b o (λp=>nb (f.yn (f.qq p))) e) z
 gens:=j.trans f.gens
 drawn:=r.trans f.drawn
 os:=A.trans f.os
 keep:=λb o p w e=>k b o (λq=>q.elim (λq=>(f.dn b q).elim w λm=>f.c8 b (gP m) p) λt=>w (f.ee b t)) (f.keep b o p w e)
 jh:=λb p=>Pj (f.jh b p) z
 c8:=f.c8
 ec:=λb m=>⟨Pj (f.ec b m).1 z,(f.ec b m).2⟩
 iy:=f.iy
 xb:=λb m=>⟨Pj (f.xb b m).1 z,(f.xb b m).2⟩
 wx:=f.wx
 ee:=f.ee
 kind:=f.kind
 iL:=f.iL
 blt:=f.blt
 locs:=let ⟨m,n⟩:=f.locs;⟨m,n.at' λo e=>k _ o (λp=>(gR f p).1 TL) e⟩
 bJ:=hg
 dn:=λa p=>f.dn a (hp a p)
 dg:=f.dg
 pY:=f.pY
 nA:=f.nA
 kinds:=λx i m=>(f.kinds x i m).imp id λ⟨a,c,v,l,q,n⟩=>(⟨a,(gF c v l (by
  refine aT q λo B d=>(i12 o (k _ _ (λp=>?_) B) d);refine PA (f.cells x i c m a l) (λh=>?_) λh=>?_
  ·exact (gR f p).2.1 h
  ·exact f.yo p h.1 h.2.1) n)⟩)
 cells:=f.cells
 f6:=f.f6
 vars:=λx i m sl e=>(f.vars x i m sl e).imp id λ⟨v,a,b⟩=>(i12 v (a.EP f m (λc o D e=>k c o D e)) (b.move (λb o nb=>k b o λp=>nb (f.qq p)) (λ_ _ y=>y) (λa o H=>k a o λp=>(gR f p).2.2 _ H) (λ_ m=>m)))
end
noncomputable def cV:List (String×Nm):=[("at",.at_),("data",.data),("text",.text),("join",.join),("encode",.encode),("upper",.upper),("replace",.replace),("find",.find),("split",.split),("peek",.peek),("skip",.skip),("need",.need),("space",.space),("done",.done),("run",.run),("word_of",.je),("atom",.atom),("word",.word),("set_text",.lx),("number",.number),("quoted",.quoted),("literal",.literal),("string",.string),("string_or",.jR),("astring",.oA),("list_of",.oB),("plain_value",.gN),("value",.value)]
noncomputable def f7:List (String×Nm)->Str->Option Nm
 |[],_=>TW
 |(s,n)::r,x=>if O6 s=x then TK n else f7 r x
structure TE where
 names:List (Str×Uj)
 vars:List (Str×Nat)
 nv:Nat
 gl:Str->Option V
 lm:Option Nat
 ro:List Str
noncomputable def seek {a:Type}:List (Str×a)->Str->Option a
 |[],_=>TW
 |(k,v)::r,x=>if k=x then TK v else seek r x
theorem bg {a:Type}:∀{l:List (Str×a)} {x:Str} {v:a},seek l x=TK v->(x,v)∈l
 |(k,u)::r,x,v,h=>by
  by_cases e:k=x
  ·have h:TK u=TK v:=(TY e).symm.trans h;exact le h▸e▸.head _
  ·exact .tail _ (bg ((TZ e).symm.trans h))
noncomputable def yp:Const->Option V
 |.none=>TK .none
 |.bool b=>TK (.bool b)
 |.int i=>TK (.int i)
 |.str s=>if s.cps.size<=1000 then TK (.str s.cps.toList) else TW
 |.bytes b=>if b.length<=1000 then TK (.bytes b) else TW
 |_=>TW
noncomputable def jk:T3->Nat
 |.Set ..=>1|.Tuple ..=>2|.Attribute ..=>3|.Starred ..=>4
 |.ListComp ..=>5|.SetComp ..=>6|.DictComp ..=>7|.Call ..=>8|.Slice ..=>9
 |_=>0
noncomputable def gS (e:T3):Bool:=jk e==1
noncomputable def Lp (t:T3):Option {x:List T3×Nat×Pos//t=.Tuple x.1 x.2.1 x.2.2}:=match t with
 |.Tuple es k p=>TK ⟨(es,k,p),TL⟩
 |_=>TW
noncomputable def isTup (e:T3):Bool:=(Lp e).isSome
noncomputable def eC (e:T3):Bool:=jk e==3
noncomputable def be (e:T3):Bool:=jk e==4
noncomputable def dR (e:T3):Bool:=jk e==5||jk e==6||jk e==7
noncomputable def oM (e:T3):Bool:=jk e==8
noncomputable def lE (e:T3):Bool:=jk e==9
noncomputable def gU:T3->Bool
 |.Call (.Name ..) [] [] _=>TN
 |_=>TO
noncomputable def nameP:T3->Option Str
 |.Name x _=>TK x
 |_=>TW
noncomputable def yq:List T3->Option (List Str)
 |[]=>TK []
 |e::r=>(nameP e).bind λx=>(yq r).map (x::·)
noncomputable def yr:T3->Option (List Str)
 |.Name x _=>TK [x]
 |.Tuple es _ _=>if es.length=2\/es.length=3 then yq es else TW
 |_=>TW
noncomputable def numbered (n:Nat):List Str->List (Str×Nat)
 |[]=>[]
 |x::r=>(x,n)::numbered (n+1) r
noncomputable def frees (a:TE) (sc:Um):List (Str×Nat):=sc.names.filterMap λp=>if p.2=.free then (seek a.vars p.1).map (p.1,·) else TW
noncomputable def a5 (a:TE) (sc:Um) (ts:List Str):TE:={a with names:=sc.names,vars:=numbered a.nv ts++frees a sc,nv:=a.nv+ts.length,ro:=(frees a sc).map (·.1),lm:=TW}
structure dS (te:TE) (sc:Um) (ts:List Str):Prop where
 kind:sc.kind=.function
 loc:∀p∈numbered te.nv ts,seek sc.names p.1=TK .local/\te.nv<=p.2/\p.2<te.nv+ts.length/\(p.1==("__classdict__":Str))=TO
 M2:∀p∈frees te sc,seek te.vars p.1=TK p.2/\seek sc.names p.1=TK .free/\(seek te.names p.1=TK .cell\/seek te.names p.1=TK .free)
 IM:∀p∈sc.names,p.2≠.cell/\seek sc.names p.1=TK p.2/\(p.2=.free->p.1∈(frees te sc).map (·.1))
 Lq:((numbered te.nv ts++frees te sc).map (·.1)).Nodup
 Lr:((numbered te.nv ts++frees te sc).map (·.2)).Nodup
noncomputable def yt (g:TE) (sc:Um) (ts:List Str):Decidable (dS g sc ts):=decidable_of_iff (sc.kind=.function/\(∀p∈numbered g.nv ts,seek sc.names p.1=TK .local/\g.nv<=p.2/\p.2<g.nv+ts.length/\(p.1==("__classdict__"))=TO)/\ (∀p∈frees g sc,seek g.vars p.1=TK p.2/\seek sc.names p.1=TK .free/\(seek g.names p.1=TK .cell\/seek g.names p.1=TK .free))/\ (∀p∈sc.names,p.2≠.cell/\seek sc.names p.1=TK p.2/\(p.2=.free->p.1∈(frees g sc).map (·.1)))/\ ((numbered g.nv ts++frees g sc).map (·.1)).Nodup/\((numbered g.nv ts++frees g sc).map (·.2)).Nodup) ⟨λ⟨a,b,c,d,e,f⟩=>⟨a,b,c,d,e,f⟩,λ⟨a,b,c,d,e,f⟩=>(K3 a b c d e f)⟩
noncomputable def qr (a:TE) (x:Str):Option Nat:=if x∈a.ro\/x=O6 "__debug__" then TW else seek a.vars x
section
variable {C:Cx} {F:Fm} {y y':Dy} {st st':St} {s s':TP}
structure ce (n:Nat) (A:T0):Prop where
 h:A.handled=TW
 d:A.depth+n<990
 u:A.units+8*n<9000
structure c9 (C:Cx) (X:AP) (s:TP):Prop where
 base:Base C s.heap
 gens:s.gens=#[]
 drawn:s.drawn=C.FQ
 os:s.os=C.xR
 xb:∀b,X b->b<s.heap.objs.size/\C.mut b
 xt:∀b,C.tab b->X b
theorem FS.dE (f:FS C F y st s):c9 C (F.Z y) s where
 base:=f.base
 gens:=f.gens
 drawn:=f.drawn
 os:=f.os
 xb:=λb z=>⟨z.elim (λx=>(f.xb b x).1) λm=>(f.ec b m).1,f.yn z⟩
 xt:=λb t=>.inl (f.wx b (f.ee b t))
structure Callee (C:Cx) (g:G) (s s':TP):Prop where
 keep:∀b o,¬(g.fM b\/C.tab b)->s.heap.get? b=TK o->s'.heap.get? b=TK o
 size:s.heap.objs.size<=s'.heap.objs.size
 gens:s'.gens=s.gens
 drawn:s'.drawn=s.drawn
 os:s'.os=s.os
noncomputable def f8 (C:Cx) (h:Ut) (f:TT):Prop:=∃k,(k=Keeper.frame\/k=Keeper.machine\/k=Keeper.boundFrame)/\Looks (model C.prog C.w) h (keeperOf f) k
noncomputable def cy (C:Cx) (n:Nat) (f:V) (args:List V) (g:G) (r:V) (g':G):Prop:=((∀a,g'.fM a->g.fM a)/\∀X h b,Base C h->Rep C X h b f->f8 C h b)/\ ∀A X s b vs Q E,ce n A->c9 C X s->cU C X s.heap g->Rep C X s.heap b f->aP C X s.heap vs args-> (∀v s',Callee C g s s'->cU C X s'.heap g'->Rep C X s'.heap v r->Q v s')->aC (model C.prog C.w) A (call b vs) Q E s
noncomputable def Fm.here (F:Fm) (y:Dy) (s:TP):Fm:={F with hr:=s.heap,P:=λb=>b<s.heap.objs.size/\b∉own F y}
theorem FS.fQ (f:FS C F y st s):FS C (F.here y s) y st s:={f with keep:=λb o _ _ e=>e,jh:=λb p=>p.1,c8:=λb m p=>p.2 m}
theorem FS.dt (d:FS C F h k j) (f:FS C (F.here h j) y st s):FS C F y st s:={f with
  keep:=λb o p w e=>f.keep b o ⟨d.jh b p,λm=>d.c8 b m p⟩ w (d.keep b o p w e)
  jh:=λb p=>f.jh b ⟨d.jh b p,λm=>d.c8 b m p⟩
  c8:=λb m p=>f.c8 b m ⟨d.jh b p,λm=>d.c8 b m p⟩}
theorem Rep.on (d:FS C F a g c) (f:FS C (F.here a c) y st s) (r:Rep C (F.Z a) c.heap v x):Rep C (F.Z y) s.heap v x:=r.move (λb o h e=>f.keep b o ⟨Py e,λm=>h (.inr m)⟩ (λw=>h (.inl (d.wx b w))) e)
  (λb lt z=>z.imp id λm=>PU λi=>f.c8 b m ⟨lt,i⟩)
theorem aP.on (d:FS C F a g c) (f:FS C (F.here a c) y st s) (r:aP C (F.Z a) c.heap v x):aP C (F.Z y) s.heap v x:=r.move (λb o h e=>f.keep b o ⟨Py e,λm=>h (.inr m)⟩ (λw=>h (.inl (d.wx b w))) e)
  (λb lt z=>z.imp id λm=>PU λi=>f.c8 b m ⟨lt,i⟩)
structure cj (te:TE) (F:Fm) (C:Cx):Prop where
 vars:F.vars=te.vars
 iL:∀x,seek te.names x=TK .globalImplicit->F.env.kindOf x=TK .globalImplicit
 gl:te.gl=C.glob
 lt:∀x i,(x,i)∈te.vars->i<te.nv
 uk:∀x i,(x,i)∈te.vars->(x==("__classdict__":Str))=TO
 lm:∀k,te.lm=TK k->(∃c,F.env.cells.lookup (O6 "wire")=TK c/\F.fz c/\c∉F.cl/\F.env.kindOf (O6 "wire")=TK .cell)/\∃l,C.tabs[k]?=TK l/\F.env.code=.ref l.cd/\F.env.qual++"<lambda>"=l.q
 names:∀x k,seek te.names x=TK k->F.env.scope.names.lookup x=TK k\/(k=.free/\F.env.scope.names.lookup x=TK .cell)
 set:∀x i c,(x,i)∈te.vars->x∉te.ro->(F.env.kindOf x=TK .cell\/F.env.kindOf x=TK .free)->F.env.cells.lookup x=TK c->F.env.kindOf x=TK .cell/\c∈F.cl
inductive iM (C:Cx) (F:Fm) (y:Dy) (nv:Nat) (k:V->St->Prop) (v:TT) (s:TP):Prop
 |mk (x:V) (st:St) (y':Dy) (h:k x st) (f:FS C F y' st s) (r:Rep C (F.Z y') s.heap v x) (m:∀p∈y'.mu,p∈y.mu) (l:st.ρ.length=nv)
inductive kg (C:Cx) (F:Fm) (y:Dy) (nv:Nat) (k:V->St->Prop) (b:Bool) (s:TP):Prop
 |mk (st:St) (y':Dy) (h:k (.bool b) st) (f:FS C F y' st s) (m:∀p∈y'.mu,p∈y.mu) (l:st.ρ.length=nv)
inductive IN (C:Cx) (F:Fm) (y:Dy) (nv:Nat) (k:List V->St->Prop) (vs:List TT) (s:TP):Prop
 |mk (xs:List V) (st:St) (y':Dy) (h:k xs st) (f:FS C F y' st s) (r:aP C (F.Z y') s.heap vs xs) (m:∀p∈y'.mu,p∈y.mu) (l:st.ρ.length=nv)
theorem iM.of {k:V->St->Prop} (f:FS C F y st s) (h:k x st) (r:Rep C (F.Z y) s.heap v x) (l:st.ρ.length=nv):iM C F y nv k v s:=⟨x,st,y,h,f,r,λ_ m=>m,l⟩
structure Ops (C:Cx):Prop where
 bin:∀{A:T0} {n X s op a b x y r},ce n A->c9 C X s->Rep C X s.heap a x->Rep C X s.heap b y->xZ op x y=TK r->b4 C A X s (Uf op a b) r
 M3:∀{A:T0} {n X s a b i j},ce n A->c9 C X s->Rep C X s.heap a (.int i)->Rep C X s.heap b (.int j)->b4 C A X s (inplaceOp .Add a b) (.int (i+j))
 cmp:∀{A:T0} {n X s op a b x y r},ce n A->c9 C X s->Rep C X s.heap a x->Rep C X s.heap b y->oE op x y r->b4 C A X s (T7 op a b) (.bool r)
 truth:∀{A:T0} {n X s a x t},ce n A->c9 C X s->Rep C X s.heap a x->b5 x=TK t->kL C A s (truthy a) t
 neg:∀{A:T0} {n X s a i},ce n A->c9 C X s->Rep C X s.heap a (.int i)->b4 C A X s (unaryOp .USub a) (.int (-i))
 bi:∀{A:T0} {n X s f vs xs r},ce n A->c9 C X s->aP C X s.heap vs xs->FY f xs=TK r->b4 C A X s (call (.builtin f.id) vs) r
 ty:∀{A:T0} {n X s f vs xs r},ce n A->c9 C X s->aP C X s.heap vs xs->ye f xs=TK r->b4 C A X s (call (.type f.id) vs) r
 item:∀{A:T0} {n X s a b x i r},ce n A->c9 C X s->Rep C X s.heap a x->Rep C X s.heap b i->fj x i=TK r->b4 C A X s (UN a b) r
 F3:∀{A:T0} {n X s a b x i r},ce n A->c9 C X s->Rep C X s.heap a x->Rep C X s.heap b i->(fj x i=TK r\/∃lo hi,cN x lo hi=TK r)->kL C A s (Uh a) TO
 cf:∀{h},Base C h->f8 C h (.ref C.cA)/\f8 C h (.ref C.cW)
 atom:∀{A:T0} {n X s v t},ce (n+2) A->c9 C X s->Rep C X s.heap v (.str t)->b4 C A X s (call (.ref C.cA) [v]) (.atom t)
 wire:∀{A:T0} {n X s v b} {Q:TT->TP->Prop} {E:TT->TP->Prop},ce (n+2) A->c9 C X s->Rep C X s.heap v (.bytes b)-> (∀a d s',a9 s s'->s.heap.objs.size<=d->d<s'.heap.objs.size->s.heap.objs.size<=a->a≠d->s'.heap.get? a=TK (fP C.cW d)-> (∃h1 k1 t1 h2 k2 t2 n,s'.heap.get? d=TK (de (c7 h1 k1 t1 h2 k2 t2 ⟨a,d,b,0⟩) n))->Q (.ref a) s')->aC (model C.prog C.w) A (call (.ref C.cW) [v]) Q E s
 a4:∀{A:T0} {n X s a x nm} {x':Str} {pl:Sem Bool} {Q:TT×List TT->TP->Prop} {E:TT->TP->Prop},ce n A->c9 C X s->Rep C X s.heap a x->qm x nm=TN->f7 cV x'=TK nm-> (∀id,(∀{A':T0} {n' X' s' vs xs r},ce n' A'->c9 C X' s'->Rep C X' s'.heap a x->aP C X' s'.heap vs xs->lB x nm xs=TK r->b4 C A' X' s' (call (.builtin id) (a::vs)) r)->Q (.builtin id,[a]) s)-> aC (model C.prog C.w) A (UC a x' pl) Q E s
variable {wm:Nm->Option V} {te:TE} {n:Nat} {A:T0}
noncomputable abbrev Ev (C:Cx) (wm:Nm->Option V) (n:Nat):=ev (cy C n) wm
noncomputable abbrev M4 (C:Cx) (wm:Nm->Option V) (n:Nat):=BZ (cy C n) wm
noncomputable abbrev Ie (C:Cx) (wm:Nm->Option V) (n:Nat):=sG (cy C n) wm
noncomputable def SV (C:Cx) (wm:Nm->Option V) (te:TE) (n:Nat) (e:T3) (a:E):Prop:=∀A F y st s k,ce n A->cj te F C->FS C F y st s->st.ρ.length=te.nv->Ev C wm n a TO st k-> aC (model C.prog C.w) A (eval e F.env) (iM C F y te.nv k) cS s
noncomputable def ST (C:Cx) (wm:Nm->Option V) (te:TE) (n:Nat) (e:T3) (a:E):Prop:=∀A F y st s k,ce n A->cj te F C->FS C F y st s->st.ρ.length=te.nv->Ev C wm n a TN st k-> aC (model C.prog C.w) A (Uz e F.env (eval e F.env)) (kg C F y te.nv k) cS s
noncomputable def SL (C:Cx) (wm:Nm->Option V) (te:TE) (n:Nat) (pos:Pos) (es:List T3) (a:E):Prop:=∀A F y st s k,ce n A->cj te F C->FS C F y st s->st.ρ.length=te.nv->M4 C wm n a st k-> aC (model C.prog C.w) A (spliced (UP pos (Ue es F.env))) (λvs s'=>IN C F y te.nv k vs s'/\vs.length=es.length) cS s
theorem cj.here (o:cj te F C):cj te (F.here a b) C:=⟨o.vars,o.iL,o.gl,o.lt,o.uk,o.lm,o.names,o.set⟩
noncomputable def yu (k:V->St->Prop):V->St->Prop:=λv st=>∃t,b5 v=TK t/\k (.bool t) st
theorem SV.test (O:Ops C) (h:SV C wm te n e c) (ht:∀st k,Ev C wm n c TN st k->Ev C wm n c TO st (yu k))
  (j:∀env b,Uz e env b=(do let v ←b;Up e.pos;holding [v] (truthy v))):ST C wm te n e c:=by
 intro A F y st s k a o f l q;refine aa (j ..) (aL (h A F y st s _ a o f l (ht st k q)) (λv d p=>?_));refine ac λu=>?_;obtain ⟨x,st',y',⟨t,w,z⟩,i,r,m,B⟩:=p;refine u ?_;refine ab (al (aq (O.truth a i.dE r w _ _ λs' g=>?_)));exact ⟨st',y',z,i.grow g,m,B⟩
inductive N2 (C:Cx) (F:Fm) (y:Dy) (nv:Nat) (k:V->V->St->Prop) (a b:TT) (s:TP):Prop
 |mk (x z:V) (st:St) (y':Dy) (h:k x z st) (f:FS C F y' st s) (ra:Rep C (F.Z y') s.heap a x) (rb:Rep C (F.Z y') s.heap b z) (m:∀p∈y'.mu,p∈y.mu) (l:st.ρ.length=nv)
theorem SV.two (ha:SV C wm te n ea M) (N:SV C wm te n O P) (a:ce n A) (H:cj te F C) (f:FS C F y st s) (l:st.ρ.length=te.nv) {k:V->V->St->Prop} (Q:Ev C wm n M TO st λx st=>Ev C wm n P TO st λz st=>k x z st):aC (model C.prog C.w) A (eval ea F.env) (λJ b=>aC (model C.prog C.w) A (eval O F.env) (N2 C F y te.nv k J) cS b) cS s:=by refine ar (ha A F y st s _ a H f l Q) (λJ b p=>?_) λ_ _ x=>x;refine ac λD=>?_;obtain ⟨x,g,d,i,c,j,m,o⟩:=p;refine D ?_;refine ar (N A (F.here d b) d g b _ a H.here c.fQ o i) (λR L p=>?_) λ_ _ x=>x;refine ac λD=>?_;obtain ⟨z,h,r,t,e,u,v,B⟩:=p;refine D ?_;exact ⟨x,z,h,r,t,c.dt e,j.on c e,u,λp q=>m p (v p q),B⟩
theorem post_of {k:V->St->Prop} (f:FS C F y' st' s') (h:k x st') (r:Rep C (F.Z y') s'.heap v x) (m:∀p∈y'.mu,p∈y.mu) (l:st'.ρ.length=nv):iM C F y nv k v s':=⟨x,st',y',h,f,r,m,l⟩
theorem qs {k:V->St->Prop} {E:TT->TP->Prop} (te:b5 (.bool b)=TK t) (a:k (.bool t) st') (c:Rep C (F.Z y') s'.heap v (.bool b)) (f:FS C F y' st' s') (m:∀p∈y'.mu,p∈y.mu) (l:st'.ρ.length=nv):
  aC (model C.prog C.w) A (truthy v) (kg C F y nv k) E s':=by
 obtain rfl:=le te;obtain rfl:v=.bool _:=c;exact gp ⟨st',y',a,f,m,l⟩
theorem F4 (O:Ops C) (ha:SV C wm te n l a) (o:SV C wm te n r b):SV C wm te n (.BinOp l op r pos) (.bin op a b):=by intro A F y st s k c q f ln t;refine vE (ar (SV.two ha o c q f ln t) (λL d h=>ar h (λM i p=>?_) λ_ _ x=>x) λ_ _ x=>x);refine ac λu=>?_;obtain ⟨x,z,st',y',⟨r,e,w⟩,j,B,D,m,H⟩:=p;refine u ?_;exact O.bin c j.dE B D e _ _ λv s' g J=>post_of (j.grow g) w J m H
theorem F5 (O:Ops C) (hs:Uk op r=TO) (ha:SV C wm te n l a) (o:SV C wm te n r b):SV C wm te n (.Compare l [op] [r] pos) (.cmp op a b):=by intro A F y st s k c q f ln t;refine oy (ar (SV.two ha o c q f ln t) (λL d h=>ar h (λM i p=>?_) λ_ _ x=>x) λ_ _ x=>x) hs;refine ac λu=>?_;obtain ⟨x,z,st',y',⟨r,e,w⟩,j,B,D,m,H⟩:=p;refine u ?_;exact O.cmp c j.dE B D e _ _ λv s' g J=>post_of (j.grow g) w J m H
theorem F6 (O:Ops C) (hs:Uk op r=TO) (ha:SV C wm te n l a) (o:SV C wm te n r b):ST C wm te n (.Compare l [op] [r] pos) (.cmp op a b):=by intro A F y st s k c q f ln u;refine io (ar (SV.two ha o c q f ln u) (λM d h=>ar h (λN i p=>?_) λ_ _ x=>x) λ_ _ x=>x) hs;refine ac λw=>?_;obtain ⟨x,z,st',y',⟨r,e,t,te,B⟩,j,D,H,m,J⟩:=p;refine w ?_;exact O.cmp c j.dE D H e _ _ λv s' g L=>qs te B L (j.grow g) m J
theorem F7 (O:Ops C) (ha:SV C wm te n x a):SV C wm te n (.UnaryOp .USub x pos) (.neg a):=by intro A F y st s k b e f ln j;refine kd (ar (ha A F y st s _ b e f ln j) (λt c p=>?_) λ_ _ x=>x);refine ac λl=>?_;obtain ⟨x,st',y',⟨i,rfl,h⟩,d,r,m,o⟩:=p;refine l ?_;exact O.neg b d.dE r _ _ λv s' g q=>post_of (d.grow g) h q m o
theorem F8 (O:Ops C) (ha:SV C wm te n x a):SV C wm te n (.UnaryOp .Not x pos) (.not a):=by intro A F y st s k b h f ln i;refine kd (ar (ha A F y st s _ b h f ln i) (λq c p=>?_) λ_ _ x=>x);refine ac λj=>?_;obtain ⟨x,st',y',⟨t,e,l⟩,d,r,m,o⟩:=p;refine j ?_;exact sv (O.truth b d.dE r e _ _ λs' g=>post_of (d.grow g) l (.bool _) m o)
theorem F9 (ha:ST C wm te n x a):ST C wm te n (.UnaryOp .Not x pos) (.not a):=by intro A F y st s k d e f ln g;refine lu (ar (ha A F y st s _ d e f ln g) (λb c p=>?_) λ_ _ x=>x);refine ac λi=>?_;obtain ⟨st',y',h,j,m,l⟩:=p;refine i ?_;exact ⟨st',y',h,j,m,l⟩
theorem iM.sub {k:V->St->Prop} (p:iM C F y' nv k v s) (m:∀q∈y'.mu,q∈y.mu):iM C F y nv k v s:=by refine ac λb=>?_;obtain ⟨x,st',a,h,f,r,c,l⟩:=p;refine b ?_;exact ⟨x,st',a,h,f,r,λq z=>m q (c q z),l⟩
theorem kg.sub {k:V->St->Prop} (p:kg C F y' nv k v s) (m:∀q∈y'.mu,q∈y.mu):kg C F y nv k v s:=by refine ac λc=>?_;obtain ⟨st',a,h,f,d,l⟩:=p;refine c ?_;exact ⟨st',a,h,f,λq z=>m q (d q z),l⟩
theorem Ga {t a b:T3} {pos:Pos} {it g i:E} (ht:ST C wm te n t it) (ha:SV C wm te n a g) (q:SV C wm te n b i):SV C wm te n (.IfExp t a b pos) (.ite it g i):=by
 intro A F y st s k d e f ln r;refine vF (ar (ht A F y st s _ d e f ln r) (λb' c p=>?_) λ_ _ x=>x);refine ac λj=>?_;obtain ⟨st',y',h,l,m,o⟩:=p;refine j ?_;clear j;cases b'
 ·exact ar (q A F y' st' c k d e l o h) (λ_ _ p=>p.sub m) λ_ _ x=>x
 ·exact ar (ha A F y' st' c k d e l o h) (λ_ _ p=>p.sub m) λ_ _ x=>x
theorem isTrue_IfExp (t a b:T3) (pos:Pos) (env:Env) (c:Sem TT):Uz (.IfExp t a b pos) env c=(do if ←Uz t env (eval t env) then Uz a env (eval a env) else Uz b env (eval b env)):=TL
theorem Gb {t a b:T3} {pos:Pos} {it g i:E} (ht:ST C wm te n t it) (ha:ST C wm te n a g) (q:ST C wm te n b i):ST C wm te n (.IfExp t a b pos) (.ite it g i):=by
 intro A F y st s k d e f ln r;refine aa (isTrue_IfExp ..) (aL (ht A F y st s _ d e f ln r) (λb' c p=>?_));refine ac λj=>?_;obtain ⟨st',y',h,l,m,o⟩:=p;refine j ?_;clear j;cases b'
 ·exact ar (q A F y' st' c k d e l o h) (λ_ _ p=>p.sub m) λ_ _ x=>x
 ·exact ar (ha A F y' st' c k d e l o h) (λ_ _ p=>p.sub m) λ_ _ x=>x
theorem nD (z:n<=1000):n<=av:=O5 z (by decide)
theorem qt (h:yp c=TK v):SV C wm te n (.Constant c d pos) (.lit v):=by
 intro A F y st s k e g f ln a;cases c with
 |none=>obtain rfl:=le h;exact i9 (.of f a .none ln)
 |bool b=>obtain rfl:=le h;exact jb (.of f a (.bool b) ln)
 |int i=>obtain rfl:=le h;exact dG (.of (f.grow (.tok s _)) a (.int i _) ln)
 |str x=>obtain ⟨z,h⟩:=P6.mp h;obtain rfl:=le h;exact jQ (.of (f.grow (.tok s _)) a (.str x _ (nD z)) ln)
 |bytes b=>obtain ⟨z,h⟩:=P6.mp h;obtain rfl:=le h;exact kx (.of (f.grow (.tok s _)) a (Rep.bytes b.toArray s.toks (nD z)) ln)
 |_=>exact aZ h
theorem nE (h:x≠O6 "__debug__"):(x==("__debug__":Str))=TO:=beq_false_of_ne h
theorem fr (h:st.ρ.length=m):(st.put i sl).ρ.length=m:=(List.length_set ..).trans h
theorem lF {a:Type} {l:List a} {f:a->Bool}:∀p∈l.filter f,p∈l:=λp q=>(Sh.mp q).1
theorem FS.at (f:FS C F y st s) (hm:(x,i)∈F.vars) (e:st.ρ[i]?=TK sl) (ne:sl≠.u):∃u,cx F.env s.heap x (TK u)/\dq C (F.Z y) s.heap y.mu i sl u:=(f.vars x i hm _ e).resolve_left ne
theorem B8 (a:yi st.ρ[i]? i m st k):∃sl,st.ρ[i]?=TK sl/\sl≠.u/\yi (TK sl) i m st k:=by
 generalize st.ρ[i]?=o at a
 match o,a with
 |some (.v v),a=>exact (eK _ TL Slot.noConfusion a)
 |some (.ml v),a=>exact (eK _ TL Slot.noConfusion a)
 |some (.mb v),a=>exact (eK _ TL Slot.noConfusion a)
theorem Gc (c:seek te.vars x=TK i) (hd:x≠O6 "__debug__"):SV C wm te n (.Name x pos) (.var i):=by
 intro A F y st s k h d f ln a;have hm:(x,i)∈F.vars:=d.vars▸bg c;refine ac λg=>ix (B8 a) λsl e ne a=>aT (f.at hm e ne) λu b r=>g ?_;refine qa (b.load f.kind (d.uk x i (bg c)) ?_) (nE hd)
 match sl,r,a with
 |.v v,r,a=>exact .of f a r ln
 |.ml xs,r,a=>exact post_of (f.freeze (sl:=.ml xs) hm b (dq.frozen f r)) a (dq.frozen f r) lF (fr ln)
 |.mb bs,r,a=>exact post_of (f.freeze (sl:=.mb bs) hm b (dq.uh f r)) a (dq.uh f r) lF (fr ln)
theorem B9 (h:seek te.names x=TK .globalImplicit) (hg:te.gl x=TK v) (hd:x≠O6 "__debug__"):SV C wm te n (.Name x pos) (.lit v):=by
 intro A F y st s k m c f ln d;refine aT (f.base.glob x v (c.gl▸hg)) λu q r=>?_;have i:=r.move (λ_ _ _ e=>e) λb _ z=>f.yn z;refine up (Name_function_global f.kind (c.iL x h) ?_ (nE hd));refine PA q (λq=>?_) λa=>aM a λj l=>?_
 ·exact loadGlobal_global (by refine aa (f.iL ..) ?_;exact f.base.g) q (.of f d i ln)
 ·exact loadGlobal_builtin (by refine aa (f.iL ..) ?_;exact f.base.g) j (by refine aa (f.blt ..) ?_;exact f.base.b) l (.of f d i ln)
theorem sI:SL C wm te n pos [] .nil:=by intro A F y st s k b c f ln a;exact fF ⟨⟨[],st,y,a,f,.nil,λ_ m=>m,ln⟩,TL⟩
theorem lG (h:be e=TO) (r:List T3) (env:Env):Ue (e::r) env=(TO,eval e env)::Ue r env:=by cases e<;>first|rfl|exact TU h Qy
theorem oN (hs:be e=TO) (ha:SV C wm te n e a) (N:SL C wm te n pos r b):SL C wm te n pos (e::r) (.cons a b):=by intro A F y st s k J L f ln O;refine gJ (ar (ha A F y st s _ J L f ln O) (λP d p=>?_) λ_ _ x=>x) (lG hs r F.env);refine ac λD=>?_;obtain ⟨x,i,g,l,c,m,o,t⟩:=p;refine D ?_;refine ar (N A (F.here g d) g i d _ J L.here c.fQ t l) (λvs M p=>?_) λ_ _ x=>x;refine ac λD=>aM p λH len=>?_;obtain ⟨xs,j,u,v,h,w,z,B⟩:=H;refine D ?_;exact ⟨⟨x::xs,j,u,v,c.dt h,.cons (m.on c h) w,λp q=>o p (z p q),B⟩,TQ Nat.succ len⟩
theorem Rep.fresh (xb:∀b,X b->b<s.heap.objs.size) (r:aP C X s.heap vs xs) (a:String):∀{o},o=seqObj a vs.toArray 0->(s.heap.push o).get? s.heap.objs.size=TK (seqObj a vs.toArray 0)/\¬X s.heap.objs.size/\aP C X (s.heap.push o) vs.toArray.toList xs:=by
 rintro o rfl
 exact (dQ (Pz _ TL) (λx=>PG _ (xb _ x)) (r.grow (.push s _)))
theorem yv (len:m=n) (a:n<=50):m<=T8:=O5 (O9 len) (O5 a (by decide))
theorem sJ {vs:List TT} (len:vs.length=n) (a:n<=50):vs.toArray.size<=av:=O5 (O9 len) (O5 a (by decide))
theorem yw (g:es.length<=50) (h:SL C wm te n pos es l):SV C wm te n (.Tuple es w pos) (.tup l):=by intro A F y st s k j o f ln q;refine vG (ar (h A F y st s _ j o f ln q) (λvs d p=>?_) λ_ _ x=>x);refine ac λt=>aM p λe len=>?_;obtain ⟨xs,st',y',u,i,r,m,v⟩:=e;refine fE (Rep.fresh (λb z=>(i.dE.xb b z).1) r "tuple" TL) λa b c=>t ?_;exact ⟨yv len g,post_of (i.grow (.push d _)) u (.tuple a b c (sJ len g)) m v⟩
theorem Ca (g:es.length<=50) (h:SL C wm te n pos es l):SV C wm te n (.List es pos) (.lst l):=by intro A F y st s k j o f ln q;refine qb (ar (h A F y st s _ j o f ln q) (λvs d p=>?_) λ_ _ x=>x);refine ac λt=>aM p λe len=>?_;obtain ⟨xs,st',y',u,i,r,m,v⟩:=e;refine fE (Rep.fresh (λb z=>(i.dE.xb b z).1) r "list" TL) λa b c=>t ?_;exact ⟨yv len g,post_of (i.grow (.push d _)) u (.list a b c (sJ len g)) m v⟩
structure Cb (C:Cx) (wm:Nm->Option V) (te:TE) (n:Nat) (op:BoolOp) (es:List T3) (ir:E):Prop where
 v:∀(pos:Pos) (A:T0) (F:Fm) (y:Dy) (st:St) (s:TP) (k:V->St->Prop),ce n A->cj te F C->FS C F y st s->st.ρ.length=te.nv->Ev C wm n ir TO st k-> aC (model C.prog C.w) A (boolOp pos op (Vx es F.env)) (iM C F y te.nv k) cS s
 t:∀(A:T0) (F:Fm) (y:Dy) (st:St) (s:TP) (k:V->St->Prop),ce n A->cj te F C->FS C F y st s->st.ρ.length=te.nv->Ev C wm n ir TN st k-> aC (model C.prog C.w) A (Vs op es F.env) (kg C F y te.nv k) cS s
theorem IO (ha:SV C wm te n e a) (i:ST C wm te n e a):Cb C wm te n op [e] a where
 v:=λpos A F y st s k d g f ln h=>ha A F y st s k d g f ln h
 t:=λA F y st s k d g f ln h=>by
  cases op with
  |And=>
   refine dW (ar (i A F y st s k d g f ln h) (λb c p=>?_) λ_ _ x=>x);cases b
   ·exact p
   ·exact iq p
  |Or=>
   refine et (ar (i A F y st s k d g f ln h) (λb c p=>?_) λ_ _ x=>x);cases b
   ·exact iH p
   ·exact p
theorem kh (pos:Pos) (op:BoolOp) (x z:Sem TT) (r:List (Sem TT)):boolOp pos op (x::z::r)=(do
  let v ←x
  Up pos
  let t ←holding [v] (truthy v)
  match op,t with
  |.And,TO|.Or,true=>pure v
  |_,_=>boolOp pos op (z::r)):=TL
theorem IP (O:Ops C) {e B:T3} {r:List T3} {a b:E} (D:SV C wm te n e a) (H:ST C wm te n e a) (hr:Cb C wm te n .And (B::r) b):Cb C wm te n .And (e::B::r) (.and a b) where
 v:=λpos A F y st s k q u f ln J=>by
  show aC _ A (boolOp pos .And (eval e F.env::eval B F.env::Vx r F.env)) _ _ s;refine aa (kh ..) (aL (D A F y st s _ q u f ln J) (λN d p=>?_));refine ac λw=>?_;obtain ⟨x,o,z,⟨t,e,hp⟩,c,i,j,l⟩:=p;refine w ?_;clear w;refine ab (al (ab (aq (O.truth q c.dE i e _ _ λs' g=>?_))));cases t
  ·exact af (post_of (c.grow g) hp (i.grow g) j l)
  ·exact ar (hr.v pos A F z o s' k q u (c.grow g) l hp) (λ_ _ p=>p.sub j) λ_ _ x=>x
 t:=λA F y st s k q u f ln J=>by
  refine dW (ar (H A F y st s _ q u f ln J) (λt d p=>?_) λ_ _ x=>x);refine ac λw=>?_;obtain ⟨st',y',h,L,m,M⟩:=p;refine w ?_;clear w;cases t
  ·exact ⟨st',y',h,L,m,M⟩
  ·exact ar (hr.t A F y' st' d k q u L M h) (λ_ _ p=>p.sub m) λ_ _ x=>x
theorem Lu (O:Ops C) {e B:T3} {r:List T3} {a b:E} (D:SV C wm te n e a) (H:ST C wm te n e a) (hr:Cb C wm te n .Or (B::r) b):Cb C wm te n .Or (e::B::r) (.or a b) where
 v:=λpos A F y st s k q u f ln J=>by
  show aC _ A (boolOp pos .Or (eval e F.env::eval B F.env::Vx r F.env)) _ _ s;refine aa (kh ..) (aL (D A F y st s _ q u f ln J) (λN d p=>?_));refine ac λw=>?_;obtain ⟨x,o,z,⟨t,e,hp⟩,c,i,j,l⟩:=p;refine w ?_;clear w;refine ab (al (ab (aq (O.truth q c.dE i e _ _ λs' g=>?_))));cases t
  ·exact ar (hr.v pos A F z o s' k q u (c.grow g) l hp) (λ_ _ p=>p.sub j) λ_ _ x=>x
  ·exact af (post_of (c.grow g) hp (i.grow g) j l)
 t:=λA F y st s k q u f ln J=>by
  refine et (ar (H A F y st s _ q u f ln J) (λt d p=>?_) λ_ _ x=>x);refine ac λw=>?_;obtain ⟨st',y',h,L,m,M⟩:=p;refine w ?_;clear w;cases t
  ·exact ar (hr.t A F y' st' d k q u L M h) (λ_ _ p=>p.sub m) λ_ _ x=>x
  ·exact ⟨st',y',h,L,m,M⟩
theorem vR (h:Cb C wm te n op es a):SV C wm te n (.BoolOp op es pos) a:=λA F y st s k b c f ln d=>h.v pos A F y st s k b c f ln d
theorem vS (h:Cb C wm te n op es a):ST C wm te n (.BoolOp op es pos) a:=λA F y st s k b c f ln d=>i5 (h.t A F y st s k b c f ln d)
inductive Told (C:Cx) (F:Fm) (y:Dy) (nv:Nat) (k:Bool->St->Prop) (v:TT) (s:TP):Prop
 |mk (t:Bool) (st:St) (y':Dy) (e:v=.bool t) (h:k t st) (f:FS C F y' st s) (m:∀p∈y'.mu,p∈y.mu) (l:st.ρ.length=nv)
theorem qu (O:Ops C) (Y:SV C wm te n u c) (L:ce n A) (fo:cj te F C) (f:FS C F y st s) (ln:st.ρ.length=te.nv) {k:Bool->St->Prop}
  (ra:Rep C (F.Z y) s.heap M x) (N:Rep C (F.Z y) s.heap i z) (e:oE p x z r) (T:pick r (Ev C wm n c TO st λw st=>∃J,oE q z w J/\k J st) (k TO st))
  {P:Type} {Q:P->TP->Prop} {U:Sem P} {stop:TT->Sem P}
  (h0:∀v s' y',FS C F y' st s'->(∀p∈y'.mu,p∈y.mu)->Rep C (F.Z y') s'.heap v (.bool TO)->k TO st->aC (model C.prog C.w) A (stop v) Q cS s')
  (h1:∀s',FS C F y st s'->Rep C (F.Z y) s'.heap i z->aC (model C.prog C.w) A (eval u F.env) (λW b=>aC (model C.prog C.w) A (T7 q i W) (Told C F y te.nv k) cS b) cS s'->aC (model C.prog C.w) A U Q cS s'):
  aC (model C.prog C.w) A (do
   let c ←holding [M,i] (T7 p M i)
   release [M,i] [c]
   if ←holding [c,i] (truthy c) then U else stop c) Q cS s:=by
 refine ab (aq (O.cmp L f.dE ra N e _ _ λv s' g R=>?_));obtain rfl:v=.bool r:=R;refine ab (dX (ab (aq (gp ?_))));have j:=f.grow g;cases r
 ·exact h0 _ s' y j (λ_ m=>m) TL T
 ·refine h1 s' j (N.grow g) (ar (Y A (F.here y s') y st s' _ L fo.here j.fQ ln T) (λW b p=>?_) λ_ _ x=>x);refine ac λnG=>?_;obtain ⟨w,h,l,⟨J,e',o⟩,d,t,B,D⟩:=p;refine nG ?_;have a:=j.dt d;exact O.cmp L a.dE ((N.grow g).on j d) t e' _ _ λv X H R=>⟨J,h,l,R,o,a.grow H,B,D⟩
theorem yx (a:Uk q u=TO):markedEach [p,q] [r,u] (Vx [r,u] env)=[eval r env,eval u env]:=by show [eval r env,markedBehindIn q u (eval u env)]=_;exact aa (US a ..) TL
theorem Cd (O:Ops C) {l r u:T3} (Y:Uk q u=TO) (ha:SV C wm te n l a) (Z:SV C wm te n r b) (hc:SV C wm te n u c):
  SV C wm te n (.Compare l [p,q] [r,u] pos) (.kz p q a b c):=by
 intro A F y st s k N P f ln he;show aC _ A (do compareChain pos (←eval l F.env) [p,q] (markedEach [p,q] [r,u] (Vx [r,u] F.env))) _ _ s;refine aa (yx Y ..) (aL (SV.two ha Z N P f ln he) (λH i h=>?_));show aC _ A (do
  let d ←holding [H] (eval r F.env)
  Up pos
  let c ←holding [H,d] (T7 p H d)
  release [H,d] [c]
  if ←holding [c,d] (truthy c) then compareChain pos d [q] [eval u F.env] else pure c) _ _ i
 refine ab (aq (ar h (λJ Q p=>?_) λ_ _ x=>x));refine ac λL=>?_;obtain ⟨x,z,st',y',⟨r,e,j⟩,f',ra,rb,m,R⟩:=p;refine L ?_;refine ab (al (qu O hc N P f' R ra rb e j (λv s' T g o d j=>af (post_of g j d (λp q=>m p (o p q)) R)) λs' g N3 h=>?_));show aC _ A (do
   let d ←holding [J] (eval u F.env)
   Up pos
   operate [J,d] (T7 q J d)) _ _ s'
 refine ab (aq (ar h (λvc U h=>ab (al ?_)) λ_ _ x=>x));refine ab (aq (ar h (λv W h=>ab (dX (af ?_))) λ_ _ x=>x));refine ac λL=>?_;obtain ⟨t,M,X,e,j,w,B,D⟩:=h;refine L ?_;exact e▸post_of w j (.bool t) (λp q=>m p (B p q)) D
theorem yz {k:V->St->Prop} (h:∃t,b5 (.bool b)=TK t/\k (.bool t) st) (f:FS C F y' st s) (m:∀p∈y'.mu,p∈y.mu) (l:st.ρ.length=nv):kg C F y nv k b s:=by exact aT h λt e a=>⟨st,y',le e▸a,f,m,l⟩
theorem Ce (O:Ops C) {l r u:T3} (Y:Uk q u=TO) (ha:SV C wm te n l a) (Z:SV C wm te n r b) (hc:SV C wm te n u c):
  ST C wm te n (.Compare l [p,q] [r,u] pos) (.kz p q a b c):=by
 intro A F y st s k N P f ln he;show aC _ A (do testChain pos (←eval l F.env) [p,q] (markedEach [p,q] [r,u] (Vx [r,u] F.env))) _ _ s;refine aa (yx Y ..) (aL (SV.two ha Z N P f ln he) (λH i h=>?_));show aC _ A (do
  let d ←holding [H] (eval r F.env)
  Up pos
  let c ←holding [H,d] (T7 p H d)
  release [H,d] [c]
  if ←holding [c,d] (truthy c) then testChain pos d [q] [eval u F.env] else pure TO) _ _ i
 refine ab (aq (ar h (λJ Q p=>?_) λ_ _ x=>x));refine ac λL=>?_;obtain ⟨x,z,st',y',⟨r,e,j⟩,f',ra,rb,m,R⟩:=p;refine L ?_;refine ab (al (qu O hc N P f' R ra rb e j (λv s' T g o d j=>af (yz j g (λp q=>m p (o p q)) R)) λs' g N3 h=>?_));show aC _ A (do
   let d ←holding [J] (eval u F.env)
   Up pos
   let c ←operate [J,d] (T7 q J d)
   holding [c] (truthy c)) _ _ s'
 refine ab (aq (ar h (λvc U h=>ab (al (ab ?_))) λ_ _ x=>x));refine ab (aq (ar h (λv W h=>ab (dX (af (aq ?_)))) λ_ _ x=>x));refine ac λL=>?_;obtain ⟨t,M,X,e,⟨t',e',j⟩,w,B,D⟩:=h;refine L ?_;exact qs e' j e w (λp q=>m p (B p q)) D
theorem qw:∀{es:List T3},es.any be=TO->(UP pos (Ue es env)).any (·.1)=TO/\(UP pos (Ue es env)).all (!·.1)=TN:=by
 intro a;induction a with
 |nil=>intro f;exact ⟨TL,TL⟩
 |cons e r b=>intro h;exact aM (Rb.mp (show (be e||r.any be)=TO from h)) λc d=>aa (lG c r env ..) (b d)
theorem jm (hs:es.any be=TO):(UP pos (Ue es env)).any (·.1)=TO:=(qw hs).1
theorem jn {E:TT->TP->Prop} {Q:Args->TP->Prop} (hs:args.any (·.1)=TO) (h:aC M A (spliced args) (λvs s'=>Q ⟨vs,[]⟩ s') E s):aC M A (evalArgs f TN args []) Q E s:=by
 cases args with
 |nil=>refine aL h (λvs s' h'=>?_);exact aq (ab (af (ab (af (af h')))))
 |cons a r=>obtain ⟨b,t⟩:=a;obtain rfl:b=false:=(Rb.mp (show (b||r.any (·.1))=TO from hs)).1;exact ks h
theorem nF {f:TT} {first:List TT} {es:List T3} {l:E} {pos:Pos} (hs:es.any be=TO) (b:SL C wm te n pos es l) (c:ce n A) (d:cj te F C) (e:FS C F y st s) (ln:st.ρ.length=te.nv) {k:List V->St->Prop} {Q:TT->TP->Prop} (g:M4 C wm n l st k) (i:∀vs s' xs st' y',k xs st'->FS C (F.here y s) y' st' s'->aP C (F.Z y') s'.heap vs xs->(∀p∈y'.mu,p∈y.mu)->st'.ρ.length=te.nv->f8 C s'.heap f/\aC (model C.prog C.w) A (call f (first++vs)) Q cS s'):
  aC (model C.prog C.w) A (VG pos f first (UP pos (Ue es F.env)) []) Q cS s:=by
 refine i6 (P:=λh=>f8 C h f) (by refine aa (jm hs ..) ?_;rfl) (λh p=>p) (jn (jm hs) (ar (b A (F.here y s) y st s k c d.here e.fQ ln g) (λvs s' p=>?_) λ_ _ x=>x));refine ac λa=>?_;obtain ⟨xs,st',y',h,j,r,m,o⟩:=p.1;refine a ?_;clear a;exact i vs s' xs st' y' h j r m o
theorem kP:f8 C h (.builtin i):=(i12 .machine (.inr (.inl TL)) (Looks.of_pure TL))
theorem oO:f8 C h (.type i):=(i12 .machine (.inr (.inl TL)) (Looks.of_pure TL))
theorem iz {k:V->St->Prop} (b:cy C n h xs st.g r g') (i:k r {st with g:=g'}) (j:ce n A) (a:FS C F y' st s) (e:Rep C (F.Z y') s.heap d h) (o:aP C (F.Z y') s.heap vs xs) (m:∀p∈y'.mu,p∈y.mu) (l:st.ρ.length=nv):f8 C s.heap d/\aC (model C.prog C.w) A (call d vs) (iM C F y nv k) cS s:=⟨b.1.2 _ _ _ a.base e,b.2 A (F.Z y') s d vs _ _ j a.dE a.bJ e o λv f c q t=>post_of (a.callee c.keep c.size c.gens c.drawn c.os q b.1.1) i t m l⟩
theorem call_plain (b:eC a=TO):eval (.Call a es [] pos) env=(do VG pos (←eval a env) [] (UP pos (Ue es env)) []):=by
 cases a<;>first|rfl|exact TU b Qy
theorem aP.kB (r:aP C X h vs [x]):∃v,vs=[v]/\Rep C X h v x:=by refine bB r λv d b a c=>?_;subst b;subst c;exact (i12 v TL a)
theorem called {k:V->St->Prop} (O:Ops C) (J:yg (cy C n) L xs st.g λr g=>k r {st with g:=g}) (hn:2<=n) (o:ce n A) (f:FS C F y' st s) (x:Rep C (F.Z y') s.heap i L) (B:aP C (F.Z y') s.heap vs xs) (m:∀p∈y'.mu,p∈y.mu) (l:st.ρ.length=nv):f8 C s.heap i/\aC (model C.prog C.w) A (call i vs) (iM C F y nv k) cS s:=by
 refine cR (Nat.exists_eq_add_of_le' hn) λj c=>?_;subst c;cases J with
 |bi b r e h q=>subst e;obtain rfl:i=_:=x;exact ⟨kP,O.bi o f.dE B h _ _ λv s' g D=>post_of (f.grow g) q D m l⟩
 |ty b r e h q=>subst e;obtain rfl:i=_:=x;exact ⟨oO,O.ty o f.dE B h _ _ λv s' g D=>post_of (f.grow g) q D m l⟩
 |atom t e h q=>subst e h;obtain rfl:i=_:=x;refine aT B.kB λv c H=>?_;subst c;exact ⟨(O.cf f.base).1,O.atom o f.dE H _ _ λv s' g D=>post_of (f.grow g) q D m l⟩
 |wire b e h w q=>subst e h;refine ac λM=>?_;obtain rfl:i=_:=x;refine aT B.kB λv c H=>?_;subst c;refine M ?_;refine ⟨(O.cf f.base).2,O.wire o f.dE H λa d s' g N P Q ne R gd=>?_⟩;exact bB H.xV λu t T e z=>post_of (f.B7 g ⟨TL,TL⟩ N P Q ne (e▸z) (RB.mp w) R gd) (q a d) (.ref a) m l
 |fn r g' h q=>exact iz h q o f x B m l
theorem Cf (O:Ops C) (hn:2<=n) (B:eC t=TO) (hs:es.any be=TO) (D:SV C wm te n t H) (J:SL C wm te n pos es l):SV C wm te n (.Call t es [] pos) (.call H l):=by intro A F y st s k m u f ln L;refine aa (call_plain B ..) (aL (D A F y st s _ m u f ln L) (λP v p=>?_));refine ac λM=>?_;obtain ⟨Q,o,w,c,a,d,e,g⟩:=p;refine M ?_;exact nF hs J m u a g c λvs x xs r z N b h i j=>called O N hn m (a.dt b) (d.on a b) h (λp q=>e p (i p q)) j
theorem yA:∀{l:List (String×Nm)} {x:Str} {c:Nm},f7 l x=TK c->∃t,(t,c)∈l/\O6 t=x:=by
 intro d;induction d with
 |nil=>intro g i h;exact aZ h
 |cons x0 r f=>
  intro x c h;obtain ⟨s,m⟩:=x0;by_cases e:O6 s=x
  ·obtain rfl:=le ((TY e).symm.trans h);exact (i12 s (.head _) e)
  ·exact aT (f ((TZ e).symm.trans h)) λt a b=>(i12 t (.tail _ a) b)
structure ul (C:Cx) (wm:Nm->Option V):Prop where
 get:∀{A:T0} {n X s} {r:Wr} {g:G} {nm f} {x':Str} {pl:Sem Bool} {Q:TT×List TT->TP->Prop} {E:TT->TP->Prop},ce n A->c9 C X s->cU C X s.heap g->g.wire=TK r->wm nm=TK f->f7 cV x'=TK nm-> (∀fa,f=.ref fa->Q (.ref fa,[.ref r.a]) s)->aC (model C.prog C.w) A (UC (.ref r.a) x' pl) Q E s
 attr:∀{A:T0} {n X s} {r:Wr} {g:G} {nm v} {x':Str} {b:Bool},ce n A->c9 C X s->cU C X s.heap g->g.wire=TK r->f7 cV x'=TK nm->((nm=.at_/\v=.int r.pos)\/(nm=.data/\v=.bytes r.data))->b4 C A X s (VH (.ref r.a) x' b) v
 text:∀{A:T0} {n X s a t} {x':Str} {b:Bool},ce n A->c9 C X s->Rep C X s.heap a (.atom t)->f7 cV x'=TK .text->b4 C A X s (VH a x' b) (.str t)
 isRef:∀nm f,wm nm=TK f->∃a,f=.ref a
noncomputable abbrev EQ (o:T3):Prop:=∀attr env a,Vk o attr env a=a
theorem sK (f:T3) (h:gU (.Call f as a p)=TO):EQ (.Call f as a p):=by
 cases as with
 |cons=>cases f<;>exact λ_ _ _=>rfl
 |nil=>cases a with
  |cons=>cases f<;>exact λ_ _ _=>rfl
  |nil=>cases f with
   |Name=>exact TU h Qy
   |_=>exact λ_ _ _=>rfl
theorem IQ (o:T3) (h:gU o=TO):EQ o:=by
 cases o with
 |Call f as a p=>exact sK f h
 |_=>exact λ_ _ _=>rfl
theorem eu (h:gU o=TO):Vk o attr env a=a:=IQ o h attr env a
theorem sL (hs:es.any be=TO) (a:es.length<=25):methodCallForm (es.length+0) (UP pos (Ue es env)) []=TN:=by unfold methodCallForm;refine aa ((qw hs).2 ..) ?_;simp only [List.all_nil,List.isEmpty_nil,if_true,Bool.true_and,decide_eq_true_eq];exact bV (Pg (Pg a _) _) TL
theorem lH (e:gU o=TO) (hp:(a.endLine==pos.line)=TN) (b:es.length<=25) (hs:es.any be=TO):eval (.Call (.Attribute o d a) es [] pos) env=(do
   let c ←eval o env
   Up a.atName
   let (g,first) ←holding [c] (UC c d (do return (←importBound o env).getD TN))
   VG pos g first (UP pos (Ue es env)) []):=by
 show (do
  let c ←Vk o d env (eval o env)
  Up a.atName
  methodCall o d a pos env c (es.length+0) (UP pos (Ue es env)) [])=_
 refine aa (eu e ..) ?_;unfold methodCall calleeOf methodCallPos;refine aa (sL hs b ..) (aa (hp ..) ?_);rfl
theorem Cg (O:Ops C) (W:ul C wm) {o:T3} {T:Str} {es:List T3} {m pos:Pos} {U l:E} {X:Nm} (hS:gU o=TO) (hp:(m.endLine==pos.line)=TN) (D:es.length<=25) (hs:es.any be=TO) (H:f7 cV T=TK X) (ho:SV C wm te n o U) (Y:SL C wm te n pos es l):SV C wm te n (.Call (.Attribute o T m) es [] pos) (.a4 U X l):=by
 intro A F y st s k z P f ln he;refine aa (lH hS hp D hs ..) (aL (ho A F y st s _ z P f ln he) (λov Z p=>?_));refine ac λnG=>?_;obtain ⟨x,Q,N4,J,b,d,t,u⟩:=p;refine nG ?_;clear nG;refine ab (al (ab (aq ?_)));cases J with
 |own hm q=>refine O.a4 z b.dE d hm H λid vT=>nF hs Y z P b u q λvs L xs B M N c h i j=>⟨kP,?_⟩;exact aT N λr e R=>vT z (b.dt c).dE (d.on b c) h e _ _ λv s' g rr=>post_of ((b.dt c).grow g) R rr (λp q=>t p (i p q)) j
 |ref w f' hw e hf q=>subst e;obtain rfl:ov=_:=d;refine W.get z b.dE b.bJ hw hf H λfa e=>?_;subst e;exact nF hs Y z P b u q λvs L xs B M N c h i j=>kJ N λr g' N R=>iz N R z (b.dt c) (.ref fa) (.cons (.ref w.a) h) (λp q=>t p (i p q)) j
structure sM (C:Cx):Prop where
 yB:∀{A:T0} {n X s a vs m i t v} {Q:TT->TP->Prop} {E:TT->TP->Prop},ce n A->c9 C X s->s.heap.get? a=TK (seqObj "list" vs m)->vs.size<=av->0<=i->vs[i.toNat]?=TK v->(∀s',a9 s s'->Q v s')-> aC (model C.prog C.w) A (UN (.ref a) (.int i t)) Q E s
 yC:∀{A:T0} {n X s a vs m},ce n A->c9 C X s->s.heap.get? a=TK (seqObj "list" vs m)->kL C A s (Uh (.ref a)) TO
 IR:∀{A:T0} {n X s a vs m},ce n A->c9 C X s->s.heap.get? a=TK (seqObj "list" vs m)->vs.size<=av->b4 C A X s (call (.builtin "len") [.ref a]) (.int vs.size)
 slice:∀{A:T0} {n X s a x sl l u lo hi r},ce n A->c9 C X s->Rep C X s.heap a x->s.heap.get? sl=TK {cls:=.type "slice",data:=.fields #[l,u,.none]}->Rep C X s.heap l lo->Rep C X s.heap u hi->cN x lo hi=TK r-> b4 C A X s (UN a (.ref sl)) r
theorem Ch (W:ul C wm) (L:gU o=TO) (d:f7 cV D=TK M) (ho:SV C wm te n o N):SV C wm te n (.Attribute o D pos) (.attr N M):=by
 intro A F y st s k H O f ln P;show aC _ A (do
  let h ←Vk o D F.env (eval o F.env)
  Up pos.atName
  let r ←holding [h] (VH h D TN)
  Ug o h r
  pure r) _ _ s
 refine aa (eu L ..) (aL (ho A F y st s _ H O f ln P) (λh j p=>?_));refine ac λQ=>?_;obtain ⟨x,i,l,m,b,c,u,z⟩:=p;refine Q ?_;refine ab (al (ab (aq ?_)));have key:∃r,k r i/\b4 C A (F.Z l) j (VH h D TN) r:=by
  cases m with
  |text t e B q=>subst e B;exact (i12 _ q (W.text H b.dE c d))
  |at_ w J e B q=>subst e;exact (show h=.ref w.a from c)▸(i12 _ q (W.attr H b.dE b.bJ J d (.inl ⟨B,TL⟩)))
  |data w J e B q=>subst e;exact (show h=.ref w.a from c)▸(i12 _ q (W.attr H b.dE b.bJ J d (.inr ⟨B,TL⟩)))
 exact aT key λr R T=>T _ _ λv s' g U=>ab (b3 (af (post_of (b.grow g) R U u z)))
theorem qx (O:Ops C) (Q:sM C) {k:V->St->Prop} (hs:∀b,subscripted N b o i=if b then runValue (.builtin "lifetime.subscript" ⟨[o,i],[]⟩) else operate [o,i] (UN o i)) (D:ce n A) (f:FS C F y' st s)
  (ro:Rep C (F.Z y') s.heap o x) (H:Rep C (F.Z y') s.heap i z) (h:vP x z st.g λr=>k r st) (m:∀p∈y'.mu,p∈y.mu) (l:st.ρ.length=nv):
  aC (model C.prog C.w) A (do
   let r ←subscripted N (←Uh o) o i
   Ug P o r
   pure r) (iM C F y nv k) cS s:=by
 have d:∀{t:Sem TT} {s'},aC (model C.prog C.w) A t (iM C F y nv k) cS s'->aC (model C.prog C.w) A ((do let r ←holding [o,i] t;release [o,i] [r];pure r)>>=λr=>Ug P o r>>=λ_=>pure r) (iM C F y nv k) cS s':=λht=>ab (ab (aq (ar ht (λv s' p=>ab (dX (af (ab (b3 (af p)))))) λ_ _ x=>x)));have src:∀c (j:Nat) r,st.g.src=TK c->x=.ref c.a->z=.int j->j<2->k r st->(∀cv t s',a9 s s'->Rep C (F.Z y') s'.heap cv (.list (c.cells.map .int))->∃u,#[cv,RL c.pos t][j]?=TK u/\Rep C (F.Z y') s'.heap u r)->aC (model C.prog C.w) A (do
   let r ←subscripted N (←Uh o) o i
   Ug P o r
   pure r) (iM C F y nv k) cS s:=λc j r hr e B hj q R=>by
  subst e B;refine ac λW=>cR H λti J=>?_;subst J;obtain rfl:o=_:=ro;refine fE (f.bJ.src c hr) λX X L=>xL L λcv t nn T U=>W ?_;refine ab (Q.yC D f.dE T _ _ λs' g=>?_);refine aa (hs ..) (d (Q.yB D (f.grow g).dE (g.keep _ _ T) (show 2<=av by decide) (Pu j) (R cv t s' g (U.grow g)).choose_spec.1 λM g'=>?_));exact post_of ((f.grow g).grow g') q ((R cv t s' g (U.grow g)).choose_spec.2.grow g') m l
 cases h with
 |c0 c hr e B q=>exact src c 0 _ hr e B (by decide) q λcv t s' g r=>(i12 cv TL r)
 |c1 c hr e B q=>exact src c 1 _ hr e B (by decide) q λcv t s' g r=>(i12 _ TL (.int _ _))
 |item r e q=>refine ab (O.F3 D f.dE ro H (.inl e) _ _ λs' g=>?_);exact aa (hs ..) (d (O.item D (f.grow g).dE (ro.grow g) (H.grow g) e _ _ λv M g' Y=>post_of ((f.grow g).grow g') q Y m l))
theorem ft (h:lE b=TO) (o i:TT) (a:Bool):subscripted b a o i=if a then runValue (.builtin "lifetime.subscript" ⟨[o,i],[]⟩) else operate [o,i] (UN o i):=by
 cases b<;>first|exact TU h Qy|(cases a<;>rfl)
theorem yD (O:Ops C) (Q:sM C) (l:lE c=TO) (ha:SV C wm te n d a) (q:SV C wm te n c b):SV C wm te n (.Subscript d c pos) (.sub a b):=by
 intro A F y st s k e t f ln u;show aC _ A (do
  let o ←eval d F.env
  let i ←holding [o] (eval c F.env)
  Up pos
  let r ←subscripted c (←Uh o) o i
  Ug d o r
  pure r) _ _ s
 refine aL (SV.two ha q e t f ln u) (λv g h=>ab (aq (ar h (λw j p=>ab (al ?_)) λ_ _ x=>x)));refine ac λB=>?_;obtain ⟨x,z,st',y',D,H,J,L,m,M⟩:=p;refine B ?_;exact qx O Q (ft l v w) e H J L D m M
theorem eval_Subscript (a b:T3) (pos:Pos) (env:Env):eval (.Subscript a b pos) env=(do
  let o ←eval a env
  let i ←holding [o] (eval b env)
  Up pos
  let r ←subscripted b (←Uh o) o i
  Ug a o r
  pure r):=TL
theorem iN (hd:x≠O6 "__debug__"):eval (.Name x pos) env=(do Up pos;Vo env x):=eval_Name env x pos (by simpa using hd)
theorem aP.get:∀{vs:List TT} {xs:List V},aP C X h vs xs->∀{i:Nat} {x:V},xs[i]?=TK x->∃v,vs[i]?=TK v/\Rep C X h v x
 |_,[],_,_,_,e=>aZ e
 |_,_::_,⟨v,r,e,a,b⟩,0,_,q=>(i12 v (e▸TL) (le q▸a))
 |_,_::_,⟨v,r,e,a,b⟩,i+1,_,q=>let ⟨u,p,t⟩:=aP.get b q;(i12 u (e▸p) t)
theorem aP.length:∀{vs:List TT} {xs:List V},aP C X h vs xs->vs.length=xs.length
 |_,[],e=>TQ Qh (show _=[] from e)
 |_,_::_,⟨v,r,e,a,b⟩=>(TQ Qh e).trans (TQ Nat.succ b.length)
theorem aP.map (k:∀{v x},Rep C X h v x->Rep C Y h' v x):∀{xs:List V} {vs:List TT},aP C X h vs xs->aP C Y h' vs xs
 |[],_,r=>r
 |_::_,_,⟨v,r,e,a,b⟩=>(gF v r e (k a) (b.map k))
theorem um {k:V->Prop} (h:kf o k):(∃v,o=TK (.v v)/\k v)\/∃xs,o=TK (.ml xs)/\k (.list xs):=by
 match o,h with
 |some (.v v),h=>exact .inl (i12 v TL h)
 |some (.ml v),h=>exact .inr (i12 v TL h)
theorem Ci (O:Ops C) (Q:sM C) (t:seek te.vars o=TK i) (hd:o≠O6 "__debug__"):SV C wm te n (.Subscript (.Name o Y) (.Constant (.int j) L M) pos) (.cw i j):=by
 intro A F y st s k x z f ln d;have hm:=z.vars▸bg t;refine aa (eval_Subscript ..) (aa (iN hd ..) ?_);refine ab (ab (al ?_));have l:∀{u:TT} {P:TT->TP->Prop} {b:TP},P (.int j b.toks) {b with toks:=b.toks+1}->aC (model C.prog C.w) A (holding [u] (eval (.Constant (.int j) L M) F.env)) P cS b:=λh=>aq (dG h);have p:=a9.tok s (s.toks+1);refine PA (um d) (λc=>aT c λv e d=>?_) λc=>aT c λxs e d=>?_
 ·refine aT (f.at hm e Slot.noConfusion) λu B r=>B.load f.kind (z.uk o i (bg t)) (ab (l (ab (al ?_))));exact qx O Q (ft TL u _) x (f.grow p) (Rep.grow r p) (.int j s.toks) d (λ_ m=>m) ln
 ·refine aT (f.at hm e Slot.noConfusion) λZ B c=>KB c λa vs nn D ma J rs H=>?_;subst D;refine B.load f.kind (z.uk o i (bg t)) (ab (l (ab (al ?_))));refine ab (Q.yC x (f.grow p).dE J _ _ λs' g=>?_);cases d with
  |c0 _ _ e=>exact V.noConfusion e
  |c1 _ _ e=>exact V.noConfusion e
  |item r e N=>refine ac λR=>iO (show (if 0<=j then xs[j.toNat]? else TW)=TK r from e) λT e=>aT (rs.get e) λv U W=>R ?_;have q:=p.trans g;show aC _ A (do let r ←operate [.ref a,.int j s.toks] (UN (.ref a) (.int j s.toks));Ug _ (.ref a) r;pure r) _ _ s';refine ab (ab (aq (Q.yB x (f.grow q).dE (q.keep _ _ J) H T (PZ▸U) λX g'=>?_)));exact ab (dX (af (ab (b3 (af (post_of ((f.grow q).grow g') N ((W.grow q).grow g') (λ_ m=>m) ln))))))
theorem Cj (O:Ops C) (Q:sM C) (T:eC fn=TO) (U:SV C wm te n fn (.lit (.bi .len))) (t:seek te.vars o=TK i) (hd:o≠O6 "__debug__"):
  SV C wm te n (.Call fn [.Name o p1] [] pos) (.oC i):=by
 intro A F y st s k w q f ln W;have hm:=q.vars▸bg t;refine aa (call_plain T ..) ?_;refine aL (U A F y st s (λv st'=>v=.bi .len/\st'=st) w q f ln ⟨TL,TL⟩) (λX N p=>?_);refine ac λY=>?_;obtain ⟨x,z,R,⟨rfl,rfl⟩,b,m,d,l⟩:=p;obtain rfl:X=_:=m;refine Y ?_;refine i6 (P:=λh=>True) TL (λh _=>kP) (jn TL (gJ ?_));refine aa (iN hd ..) (ab (al ?_));refine PA (um W) (λc=>aT c λv e c=>aT c λj B D=>?_) λc=>aT c λxs e c=>aT c λj B D=>?_
 ·refine aT (b.at hm e Slot.noConfusion) λu H r=>H.load b.kind (q.uk o i (bg t)) (fF ⟨trivial,?_⟩);exact O.bi w b.dE (.cons r .nil) (show FY .len [v]=TK (.int j) from TQ (Qq λn:Nat=>V.int n) B) _ _ λv s' g J=>post_of (b.grow g) D J d l
 ·refine aT (b.at hm e Slot.noConfusion) λz9 H c=>KB c λa vs nn L ma Z rs M=>?_;subst L;refine H.load b.kind (q.uk o i (bg t)) (fF ⟨trivial,?_⟩);obtain rfl:vs.size=j:=rs.length.trans (le B);exact Q.IR w b.dE Z M _ _ λv s' g J=>post_of (b.grow g) D J d l
noncomputable def SO (C:Cx) (wm:Nm->Option V) (te:TE) (n:Nat) (e:Option T3) (a:E):Prop:=∀A F y st s k,ce n A->cj te F C->FS C F y st s->st.ρ.length=te.nv->Ev C wm n a TO st k-> aC (model C.prog C.w) A (valueOrNone (evalOpt e F.env)) (iM C F y te.nv k) cS s
theorem Ck:SO C wm te n TW (.lit .none):=λA F y st s k b c f ln a=>af (.of f a .none ln)
theorem Cl (h:SV C wm te n e a):SO C wm te n (TK e) a:=h
theorem sN (lo a:Option T3) (pos:Pos) (env:Env):eval (.Slice lo a TW pos) env=(do
  let l ←valueOrNone (evalOpt lo env)
  let u ←holding [l] (valueOrNone (evalOpt a env))
  let s ←holding [l,u] (pure .none)
  newFields "slice" [l,u,s]):=TL
theorem Gd (O:Ops C) (Q:sM C) {lo hi:Option T3} (ha:SV C wm te n ve a) (hb:SO C wm te n lo b) (hc:SO C wm te n hi c):SV C wm te n (.Subscript ve (.Slice lo hi TW p1) pos) (.pX a b c):=by
 intro A F y st s k H fo f ln he;refine aa (eval_Subscript ..) (aL (ha A F y st s _ H fo f ln he) (λvo t p=>?_));refine ac λJ=>?_;obtain ⟨x,B,u,L,j,M,N,P⟩:=p;refine J ?_;refine aa (sN ..) (ab (aq (aL (hb A (F.here u t) u B t _ H fo.here j.fQ P L) (λvl w p=>?_))));refine ac λJ=>?_;obtain ⟨xl,D,z,R,l,T,U,W⟩:=p;refine J ?_;have i:=j.dt l;refine ab (aq (ar (hc A (F.here z w) z D w _ H fo.here i.fQ W R) (λvu m p=>?_) λ_ _ x=>x));refine ac λJ=>?_;obtain ⟨xu,M5,Ge,⟨r,e,hk⟩,h,X,Y,Z⟩:=p;refine J ?_;refine ab (aq (af ?_));refine c5 (ab (al ?_)) (by size_fits);have g:=a9.push m {cls:=.type "slice",data:=.fields #[vl,vu,.none]};have o:=(i.dt h).grow g;have ro:=(M.on j l).on i h;refine ab (O.F3 H o.dE (ro.grow g) .none (.inr (hY xl xu e)) _ _ λvU d=>?_);show aC _ A (do
  let r ←operate [.ref m.heap.objs.size,vo] (UN vo (.ref m.heap.objs.size))
  Ug ve vo r
  pure r) _ _ vU
 refine ab (ab (aq (Q.slice H (o.grow d).dE ((ro.grow g).grow d) (d.keep _ _ (Pz _ TL)) (((T.on i h).grow g).grow d) ((X.grow g).grow d) e _ _ λv Lv Lw rr=>?_)));exact ab (dX (af (ab (b3 (af (post_of ((o.grow d).grow Lw) hk rr (λp q=>N p (U p (Y p q))) Z))))))
theorem bc {a:Type}:∀{l:List (Str×a)} {x:Str} {v:a},seek l x=TK v->l.lookup x=TK v:=by
 intro b;induction b with
 |nil=>intro d f h;exact aZ h
 |cons x0 r c=>
  intro x v h;obtain ⟨k,u⟩:=x0;refine aa (P3 ..) ?_;by_cases e:k=x
  ·subst e;refine aa (beq_self_eq_true ..) ?_;exact (TY TL).symm.trans h
  ·refine aa (beq_false_of_ne (S1 e) ..) ?_;exact c ((TZ e).symm.trans h)
noncomputable def fu (env:Env):List (Str×Uj)->List (Str×T2)->List (Str×T2)
 |[],acc=>acc
 |(x,k)::r,acc=>fu env r (if (k==.free)=TN then (x,(env.cells.lookup x).getD 0)::acc else acc)
theorem Cm:∀names acc,(∀x,(x,Qn)∈names->(env.cells.lookup x).isSome=TN)->
  (forIn names acc λp r=>if (p.2==.free)=TN then do let a ←cellOf env p.1;pure (QM ((p.1,a)::r)) else pure (QM r))=(pure (fu env names acc):Sem (List (Str×T2))):=by
 intro g;induction g with
 |nil=>intro acc i;exact TL
 |cons x0 r d=>
  intro acc h;obtain ⟨x,k⟩:=x0;refine aa (RK ..) ?_;unfold fu;by_cases e:(k==.free)=TN
  ·obtain rfl:=beq_iff_eq.mp e;obtain ⟨c,f⟩:=PQ.mp (h x (.head _));refine aa (TY e ..) (aa (TY e ..) (aa ((by unfold cellOf;exact aa (f ..) TL:cellOf env x=pure c) ..) (aa (f ..) ?_)));exact d _ λz b=>h z (.tail _ b)
  ·refine aa (TZ e ..) (aa (TZ e ..) ?_);exact d _ λz b=>h z (.tail _ b)
theorem iA (h:∀x,(x,Qn)∈scope.names->(env.cells.lookup x).isSome=TN):VD scope env=pure (fu env scope.names []):=by exact (TQ (· >>=_) (Cm scope.names [] h)).trans (pure_bind _ _)
theorem gV:∀names acc,(∀x,(x,Qn)∈names->(env.cells.lookup x).isSome=TN)->(∀p∈acc,env.cells.lookup p.1=TK p.2)->∀p∈fu env names acc,env.cells.lookup p.1=TK p.2
 |[],acc,_,ha=>ha
 |(x,k)::r,acc,h,ha=>gV r _ (λz d=>h z (.tail _ d)) λq a=>by
  by_cases e:(k==.free)=TN
  ·rw [TY e] at a;refine PA (Pf.mp a) (λb=>?_) λa=>?_
   ·subst b;refine cR (PQ.mp (h x (beq_iff_eq.mp e▸.head _))) λc f=>?_;show _=TK ((env.cells.lookup x).getD 0);refine aa (f ..) ?_;rfl
   ·exact ha q a
  ·rw [TZ e] at a;exact ha q a
theorem vV:∀names acc p,p∈acc->p∈fu env names acc:=by
 intro a;induction a with
 |nil=>intro c d h;exact h
 |cons x0 r b=>
  intro acc p h;obtain ⟨x,k⟩:=x0;exact b _ p (by
  by_cases e:(k==.free)=TN
  ·refine aa (TY e ..) ?_;exact .tail _ h
  ·refine aa (TZ e ..) ?_;exact h)
theorem vW:∀names acc x,(x,Qn)∈names->∃c,(x,c)∈fu env names acc:=by
 intro a;induction a with
 |nil=>intro d f h;exact TU h Pn
 |cons x0 r b=>
  intro acc x h;obtain ⟨z,k⟩:=x0;refine PA (Pf.mp h) (λe=>?_) λh=>?_
  ·cases e;exact ⟨_,vV r _ _ (.head _)⟩
  ·exact b _ x h
theorem m8 {g:Type}:∀{l:List (Str×g)} {x:Str} {c:g},(x,c)∈l->∃f,l.lookup x=TK f/\(x,f)∈l:=by
 intro i;induction i with
 |nil=>intro k m h;exact TU h Pn
 |cons x0 r j=>
  intro x c h;obtain ⟨z,d⟩:=x0;refine aa (P3 ..) ?_;by_cases e:x=z
  ·subst e;refine aa (beq_self_eq_true ..) ?_;exact (i12 d TL (.head _))
  ·refine aa (beq_false_of_ne e ..) (aT (j ((Pf.mp h).resolve_left λq=>e (TQ (·.1) q))) λf a b=>?_);exact (i12 f a (.tail _ b))
theorem du {a:Type}:∀{l:List (Str×a)} {x:Str} {c:a},l.lookup x=TK c->(x,c)∈l:=by
 intro b;induction b with
 |nil=>intro g i h;exact aZ h
 |cons x0 r f=>
  intro x c h;obtain ⟨z,d⟩:=x0;rw [P3] at h;by_cases e:x=z
  ·subst e;rw [beq_self_eq_true] at h;exact le h▸.head _
  ·rw [beq_false_of_ne e] at h;exact .tail _ (f h)
theorem oP (h:∀x,(x,Qn)∈names->(env.cells.lookup x).isSome=TN) (d:(x,Qn)∈names):(fu env names []).lookup x=env.cells.lookup x:=by refine cR (vW (env:=env) names [] x d) λc e=>aT (m8 e) λf a b=>?_;have:=gV names [] h (λ_ q=>nomatch q) _ b;exact aa (a ..) (aa (this ..) TL)
theorem lI (h:∀x,(x,Qn)∈names->(env.cells.lookup x).isSome=TN) (a:(fu env names []).lookup x=TK c):env.cells.lookup x=TK c:=gV names [] h (λ_ q=>nomatch q) _ (du a)
theorem lJ {env:Env}:∀{names:List (Str×Uj)} {x:Str} {k:Uj},names.lookup x=TK k-> (names.map λ(n,k)=>if (k==Qn&&env.scope.kind==.function&&env.kindOf n==TK .cell) then (n,QV) else (n,k)).lookup x=TK (if (k==.free&&env.scope.kind==.function&&env.kindOf x==TK .cell)=TN then .cell else k):=by
 intro g;induction g with
 |nil=>intro o p h;exact aZ h
 |cons x0 r i=>
  intro x k h;obtain ⟨z,j⟩:=x0;have key:∀u,u.1=z->(x=z->k=j->TK u.2=TK (if (k==.free&&env.scope.kind==.function&&env.kindOf x==TK .cell)=TN then QV else k))->(u::r.map λ(n,k)=>if (k==Qn&&env.scope.kind==.function&&env.kindOf n==TK .cell) then (n,QV) else (n,k)).lookup x=TK (if (k==.free&&env.scope.kind==.function&&env.kindOf x==TK .cell)=TN then .cell else k):=λu l m=>by
   rw [P3] at h;obtain ⟨a,b⟩:=u;obtain rfl:a=z:=l;refine aa (P3 ..) ?_;by_cases e:x=a
   ·subst e;rw [beq_self_eq_true] at h⊢;exact m TL (le h).symm
   ·rw [beq_false_of_ne e] at h⊢;exact i h
  refine aa (Qe ..) ?_;dsimp only;by_cases c:(j==Qn&&env.scope.kind==.function&&env.kindOf z==TK .cell)=TN
  ·refine aa (TY c ..) ?_;exact key _ TL λd f=>by exact aa (d ..) (aa (f ..) (aa (TY c ..) TL))
  ·refine aa (TZ c ..) ?_;exact key _ TL λd f=>by exact aa (d ..) (aa (f ..) (aa (TZ c ..) TL))
structure uo (C:Cx) (A:T0) (I:T2) (P:AP) (a:TT) (x:V) (items:List V) (T:Nat->Ut->Prop) (fp:List T2):Prop where
 frame:∀i h h',T i h->(∀b∈fp,∀o,h.get? b=TK o->h'.get? b=TK o)->T i h'
 item:∀{X s i v} (Q:Option TT->TP->Prop) (E:TT->TP->Prop),c9 C X s->(∀b,P b->X b)->Rep C X s.heap a x->T i s.heap->items[i]?=TK v-> (∀u s',(∃h tk,s'={s with heap:=h,toks:=tk})->(∀b o,¬P b->s.heap.get? b=TK o->s'.heap.get? b=TK o)->s.heap.objs.size<=s'.heap.objs.size-> Rep C X s'.heap u v-> (∀(yE:T3) (Q':Unit->TP->Prop) (E':TT->TP->Prop),isTup yE=TN\/(∀b,P b->b=I)->(∀Ig,(∃h tk,Ig={s' with heap:=h,toks:=tk})->(∀b o,¬P b->s'.heap.get? b=TK o->Ig.heap.get? b=TK o)->s'.heap.objs.size<=Ig.heap.objs.size->T (i+1) Ig.heap->Q' () Ig)-> aC (model C.prog C.w) A (Vt yE (.ref I) u) Q' E' s')->Q (TK u) s')->aC (model C.prog C.w) A (pyNext (.ref I)) Q E s
 done:∀{X s} (Q:Option TT->TP->Prop) (E:TT->TP->Prop),c9 C X s->(∀b,P b->X b)->Rep C X s.heap a x->T items.length s.heap-> (∀s',(∃h tk,s'={s with heap:=h,toks:=tk})->(∀b o,¬P b->s.heap.get? b=TK o->s'.heap.get? b=TK o)->s.heap.objs.size<=s'.heap.objs.size->Q TW s')->aC (model C.prog C.w) A (pyNext (.ref I)) Q E s
 self:∀{X s i} (Q:TT->TP->Prop) (E:TT->TP->Prop),c9 C X s->T i s.heap->Q (.ref I) s->aC (model C.prog C.w) A (Vb (.ref I)) Q E s
noncomputable abbrev Walk (C:Cx) (A:T0) (I:T2) (a:TT) (x:V) (items:List V) (T:Nat->Ut->Prop) (c:List T2):Prop:=uo C A I (λb=>b=I) a x items T c
structure gu (C:Cx):Prop where
 iter:∀{A:T0} {n X s a x items} (Q:TT->TP->Prop) (E:TT->TP->Prop),ce n A->c9 C X s->Rep C X s.heap a x->jS x=TK items-> (∀I s' T fp,a9 s s'->s.heap.objs.size<=I->I<s'.heap.objs.size->T 0 s'.heap->(∀b∈fp,b=I\/((∃o,s.heap.get? b=TK o)/\¬X b))->Walk C A I a x items T fp->Q (.ref I) s')->aC (model C.prog C.w) A (Vb a) Q E s
 enum:∀{A:T0} {n X s a t} (Q:TT->TP->Prop) (E:TT->TP->Prop),ce n A->c9 C X s->Rep C X s.heap a (.str t)-> (∀I P s' T fp,a9 s s'->(∀b,P b->s.heap.objs.size<=b/\b<s'.heap.objs.size)->T 0 s'.heap->(∀b∈fp,P b\/((∃o,s.heap.get? b=TK o)/\¬X b))->uo C A I P a (.str t) (gO 0 t) T fp->Q (.ref I) s')->aC (model C.prog C.w) A (call (.type "enumerate") [a]) Q E s
 unpack:∀{A:T0} {n X s a xs} (Q:List TT->TP->Prop) (E:TT->TP->Prop),ce n A->c9 C X s->Rep C X s.heap a (.tuple xs)->∀m,xs.length=m->m<=8-> (∀vs s',a9 s s'->aP C X s'.heap vs xs->Q vs s')->aC (model C.prog C.w) A (Vh a m TW) Q E s
theorem FS.iP {Q:Unit->TP->Prop} (f:FS C F y st s) (d:cj te F C) (t:(x,i)∈te.vars) (hr:x∉te.ro) (r:Rep C (F.Z y) s.heap v w) (l:st.ρ.length=te.nv) (h:∀s' y',FS C F y' (st.put i (.v w)) s'->(∀p∈y'.mu,p∈y.mu)->(st.put i (.v w)).ρ.length=te.nv-> (∀{B D},Rep C (F.Z y) s.heap B D->Rep C (F.Z y') s'.heap B D)->Q () s'):aC (model C.prog C.w) A (bindName F.env x v) Q cS s:=by
 refine f3 (f.fQ.store (sl:=.v w) (d.vars▸t) (λc k l=>d.set x i c t hr k l) gQ (f.iy.sublist jj) (λj a ne m=>fq.mpr ⟨m,ne⟩) (oL f.dg) f.dn ?_ (r.move (λ_ _ _ e=>e) λb _ z=>z.imp id (gQ b)) λs' H=>?_)
 ·intro j a m;have J:=(fq.mp m).1;exact ⟨(dr f.iy).mu j a J,λq=>(eS f.iy q).mu j a J TL⟩
 ·exact h s' _ (f.dt H) lF (fr l) (λr=>r.on f H)
inductive sO (te:TE):T3->List Nat->Prop
 |one {x pos i}:(x,i)∈te.vars->x∉te.ro->sO te (.Name x pos) [i]
 |two {x z p1 p2 i j k pos}:(x,i)∈te.vars->x∉te.ro->(z,j)∈te.vars->z∉te.ro->sO te (.Tuple [.Name x p1,.Name z p2] k pos) [i,j]
 |three {x z u p1 p2 p3 i j l k pos}:(x,i)∈te.vars->x∉te.ro->(z,j)∈te.vars->z∉te.ro->(u,l)∈te.vars->u∉te.ro->sO te (.Tuple [.Name x p1,.Name z p2,.Name u p3] k pos) [i,j,l]
inductive qy (te:TE):List T3->List Nat->Prop
 |nil:qy te [] []
 |cons {x pos i es is}:(x,i)∈te.vars->x∉te.ro->qy te es is->qy te (.Name x pos::es) (i::is)
theorem yF {Q:Unit->TP->Prop} (O:ce n A) (B:cj te F C) (N:qy te es is):∀{xs:List V} {vs:List TT} {st s y},FS C F y st s->aP C (F.Z y) s.heap vs xs->st.ρ.length=te.nv->putL is xs st=TK st'-> (∀s' y',FS C F y' st' s'->(∀p∈y'.mu,p∈y.mu)->st'.ρ.length=te.nv->Q () s')->aC (model C.prog C.w) A (Vl (es.map λe=>assign e F.env) vs) Q cS s:=by
 induction N with
 |nil=>
  intro xs vs st s y f r l a h;cases xs with
  |nil=>obtain rfl:=le a;obtain rfl:vs=[]:=r;exact af (h s y f (λ_ m=>m) l)
  |cons=>exact aZ a
 |cons D hr N H=>
  intro xs vs st s y f r l a h;cases xs with
  |nil=>exact aZ a
  |cons x xs=>refine bB r λv vs t J L=>?_;subst t;refine ab (aq (ab (al ?_)));exact f.iP B D hr J l λu z b c d M=>H b (L.map M) d a λg i j k o=>h g i j (λp q=>c p (k p q)) o
theorem qz:∀{is:List Nat} {xs:List V} {st:St},putL is xs st=TK st'->xs.length=is.length
 |[],[],_,_=>rfl
 |[],_::_,_,h=>aZ h
 |_::_,[],_,h=>aZ h
 |_::_,_::_,_,h=>TQ Nat.succ (qz h)
theorem iQ (It:gu C) (t:sO te x is) {Q:Unit->TP->Prop} (H:ce n A) (f:FS C F y st s) (J:cj te F C) (r:Rep C (F.Z y) s.heap v w) (l:st.ρ.length=te.nv) (c:qo is w st=TK st')
  (h:∀s' y',FS C F y' st' s'->(∀p∈y'.mu,p∈y.mu)->st'.ρ.length=te.nv->Q () s'):aC (model C.prog C.w) A (assign x F.env v) Q cS s:=by
 have d:∀{es is ts m},qy te es is->(es.map λe=>assign e F.env)=ts->is.length=m->m<=8->(tupP w).bind (λxs=>putL is xs st)=TK st'->aC (model C.prog C.w) A (do Vl ts (←holding [v] (Vh v m TW))) Q cS s:=λ{es is ts m} N O P R c=>by subst O P;refine ac λT=>bO c λxs U c=>?_;obtain rfl:=fi U;refine T ?_;refine ab (aq (It.unpack _ _ H f.dE r _ (qz c) R λvs L g rs=>?_));exact yF H J N (f.grow g) rs l c h
 cases t with
 |one j hr=>obtain rfl:=le c;exact ab (al (f.iP J j hr r l λs' y' W m X _=>h s' y' W m X))
 |@two a b z B k o Y pp j hr D i=>refine ab (al ?_);show aC _ A (do Vl [assign (.Name a z) F.env,assign (.Name b B) F.env] (←holding [v] (Vh v 2 TW))) Q cS s;exact d (.cons j hr (.cons D i .nil)) TL TL (by decide) c
 |@three a b q z B p3 k o M Y pp j hr D i hu u=>refine ab (al ?_);show aC _ A (do Vl [assign (.Name a z) F.env,assign (.Name b B) F.env,assign (.Name q p3) F.env] (←holding [v] (Vh v 3 TW))) Q cS s;exact d (.cons j hr (.cons D i (.cons hu u .nil))) TL TL (by decide) c
noncomputable def Fm.gW (F:Fm) (P:AP):Fm:={F with X:=λb=>F.X b\/P b}
noncomputable abbrev Fm.ext (F:Fm) (I:T2):Fm:=F.gW λb=>b=I
theorem FS.gW (f:FS C F y st s) (g:a9 s s') (h:∀b,P b->s.heap.objs.size<=b/\b<s'.heap.objs.size):FS C (F.gW P) y st s':=by
 have g':=f.grow g;have j:=g.keep;have no:=λb lt e=>Pt.mpr (h b e).1 lt;have t:∀b,b<s.heap.objs.size->(F.gW P).Z y b->F.Z y b:=λb lt z=>z.elim (λx=>x.elim .inl λe=>TU e (no b lt)) .inr;exact {g' with
  ec:=λb m=>(dQ ((g'.ec b m).1) ((g'.ec b m).2.1) (λx=>x.elim (g'.ec b m).2.2 (no b (f.ec b m).1)))
  xb:=λb x=>x.elim (g'.xb b) λe=>⟨(h b e).2,.inl (O5 f.base.lt (h b e).1)⟩
  wx:=λb w=>.inl (f.wx b w)
  bJ:=f.bJ.move (λb o _ e=>j b o e) t (λb p=>(f.qp p).imp .inl id)
  cells:=λx i c m k l=>(f.cells x i c m k l).imp id λr=>(dQ r.1 r.2.1 (λz x'=>x'.elim (r.2.2 z) (no c (by
   have H:F.env.cells.lookup x=TK c:=l;have B:F.env.kindOf x=TK .cell\/F.env.kindOf x=TK .free:=k;refine PA (f.kinds x i m) (λk'=>?_) λd=>aM d λJ d=>bB d λL M D q J=>?_
   ·rw [k'] at B;rcases B with k|k<;>cases k
   ·rw [H] at D;cases D;exact q.lt))))
  vars:=λx i m sl e=>(f.vars x i m sl e).imp id λ⟨v,a,b⟩=>(i12 v (a.move (λ_ o=>j _ o) (λc o _=>j c o)) (b.move (λb o _=>j b o) t (λa o _=>j a o) (λ_ m=>m)))}
theorem FS.Gf (f:FS C (F.gW P) y st s) (wx:∀b,F.W b->F.X b):FS C F y st s:=by
 have h:∀b,F.Z y b->(F.gW P).Z y b:=λb z=>z.imp .inl id;exact {f with
  ec:=λb m=>(dQ ((f.ec b m).1) ((f.ec b m).2.1) (λx=>(f.ec b m).2.2 (.inl x)))
  xb:=λb x=>f.xb b (.inl x)
  wx:=wx
  bJ:=f.bJ.move (λb o _ e=>e) (λb _ z=>h b z) (λb p=>(f.dn b p).elim (λw=>.inl (wx b w)) (λm=>.inr (by simp only [own,Pf,PE];exact .inr (.inr (.inr m)))))
  cells:=λx i c m k l=>(f.cells x i c m k l).imp id λd=>(dQ d.1 d.2.1 (λz x=>d.2.2 z (.inl x)))
  vars:=λx i m sl e=>(f.vars x i m sl e).imp id λ⟨v,a,b⟩=>(i12 v a (b.move (λ_ _ _ e=>e) (λb _ z=>h b z) (λ_ _ _ e=>e) (λ_ m=>m)))}
theorem cx.ER (V:cx env h x v) (d:env.kindOf x=TK .local->∀o,h.get? env.locals=TK o->h'.get? env.locals=TK o) (f:(env.kindOf x=TK .cell\/env.kindOf x=TK .free)->∀c o,env.cells.lookup x=TK c->h.get? c=TK o->h'.get? c=TK o):cx env h' x v:=by
 refine PA V (λb=>aM b λa b=>aT b λm n e=>?_) λb=>aM b λa b=>aT b λc e b=>aT b λo g q=>?_
 ·exact .inl (⟨a,(i12 m (n.at' (d a)) e)⟩)
 ·exact .inr (⟨a,(i12 c e (i12 o (f a c o e g) q))⟩)
theorem FS.jU {P:AP} (f:FS C F y st s) (hX:∀b,P b->F.X b) (hW:∀b,P b->¬F.W b) (hP:∀b,P b->¬F.P b) (r:∀x i c,(x,i)∈F.vars->(F.env.kindOf x=TK .cell\/F.env.kindOf x=TK .free)->F.env.cells.lookup x=TK c->¬P c) (k:∀b o,¬P b->s.heap.get? b=TK o->s'.heap.get? b=TK o) (z:s.heap.objs.size<=s'.heap.objs.size) (e:∃h tk,s'={s with heap:=h,toks:=tk}):FS C F y st s':=by
 refine xK e λh' tk j=>?_;subst j;have no:=λb m e=>(f.ec b m).2.2 (hX b e);have B:∀b,¬F.Z y b->¬P b:=λb n e=>n (.inl (hX b e));have D:∀b,(st.g.fM b\/C.tab b)->¬P b:=λb p e=>by
  refine PA p (λp=>?_) λt=>?_
  ·exact (f.dn b p).elim (hW b e) λm=>no b (by simp [own,m]) e
  ·exact hW b e (f.ee b t)
 exact {
  base:=f.base.keep (λb o nb e=>k b o (λq=>nb (f.xb _ (hX b q)).2) e) z
  gens:=f.gens
  drawn:=f.drawn
  os:=f.os
  keep:=λb o p w e=>k b o (λq=>hP b q p) (f.keep b o p w e)
  jh:=λb p=>Pj (f.jh b p) z
  c8:=f.c8
  ec:=λb m=>⟨Pj (f.ec b m).1 z,(f.ec b m).2⟩
  iy:=f.iy
  xb:=λb m=>⟨Pj (f.xb b m).1 z,(f.xb b m).2⟩
  wx:=f.wx
  ee:=f.ee
  kind:=f.kind
  iL:=f.iL
  blt:=f.blt
  locs:=let ⟨m,n⟩:=f.locs;⟨m,n.at' λo e=>k _ o (no _ (by simp [own])) e⟩
  bJ:=f.bJ.move (λb o q e=>k b o (q.elim (B b) (D b)) e) (λ_ _ z=>z) λb p=>f.qp p
  dn:=f.dn
  dg:=f.dg
  pY:=f.pY
  nA:=f.nA
  kinds:=λx i m=>(f.kinds x i m).imp id λ⟨a,c,v,l,⟨o,H,d⟩,n⟩=>(⟨a,(gF c v l (i12 o (k _ _ (r x i c m a l) H) d) n)⟩)
  cells:=f.cells
  f6:=f.f6
  vars:=λx i m sl e=>(f.vars x i m sl e).imp id λ⟨v,a,b⟩=>(i12 v (a.ER (λ_ o=>k _ o (no _ (by simp [own]))) (λJ c o l=>k c o (r x i c m J l))) (b.move (λb o nb=>k b o (B b nb)) (λ_ _ y=>y) (λa o L=>k a o (no a (by simp only [own,Pf,PE,PI];exact .inr (.inr (.inl (i12 _ L TL)))))) (λ_ m=>m)))}
theorem FS.yG (f:FS C F y st s) (hX:F.X I) (hW:¬F.W I) (hP:¬F.P I) (d:∀x i c,(x,i)∈F.vars->(F.env.kindOf x=TK .cell\/F.env.kindOf x=TK .free)->F.env.cells.lookup x=TK c->c≠I) (k:∀b o,b≠I->s.heap.get? b=TK o->s'.heap.get? b=TK o) (z:s.heap.objs.size<=s'.heap.objs.size) (e:∃h tk,s'={s with heap:=h,toks:=tk}):FS C F y st s':=f.jU (P:=λb=>b=I) (λ_ e=>e▸hX) (λ_ e=>e▸hW) (λ_ e=>e▸hP) d k z e
theorem Rep.jU {X P:AP} (hX:∀b,P b->X b) (k:∀b o,¬P b->s.heap.get? b=TK o->s'.heap.get? b=TK o) (r:Rep C X s.heap v x):Rep C X s'.heap v x:=r.move (λb o nb=>k b o λe=>nb (hX b e)) λ_ _ y=>y
theorem Rep.fw (hX:X I) (k:∀b o,b≠I->s.heap.get? b=TK o->s'.heap.get? b=TK o) (r:Rep C X s.heap v x):Rep C X s'.heap v x:=r.move (λb o nb e=>k b o (by rintro rfl;exact nb hX) e) λ_ _ y=>y
theorem aP.fw (hX:X I) (k:∀b o,b≠I->s.heap.get? b=TK o->s'.heap.get? b=TK o) (r:aP C X s.heap v x):aP C X s'.heap v x:=r.move (λb o nb e=>k b o (by rintro rfl;exact nb hX) e) λ_ _ y=>y
noncomputable def vX (F:Fm) (sc:Um) (Cc:T2):Env:=compEnvC sc (fu F.env sc.names []) Cc F.env
noncomputable def Fm.block (C:Cx) (F:Fm) (y:Dy) (g:G) (hr:Ut) (sc:Um) (a:TE) (D Cc I:T2):Fm where
 env:=vX F sc Cc
 vars:=a.vars
 X:=λb=>F.Z y b\/b=D\/b=I
 W:=λb=>g.fM b\/C.tab b
 P:=λb=>b<hr.objs.size
 hr:=hr
 cl:=[]
 fz:=λ_=>False
theorem ki (h:kM g g') (p:g'.fM a):g.fM a:=by
 rcases p with ⟨r,e,rfl⟩|⟨r,e,rfl⟩
 ·have:=h.1;rw [e] at this;cases hs:g.src with
  |none=>rw [hs] at this;cases this
  |some q=>rw [hs] at this;exact .inl (i12 q hs ((le this).symm))
 ·have:=h.2;rw [e] at this;cases hs:g.wire with
  |none=>rw [hs] at this;cases this
  |some q=>rw [hs] at this;exact .inr (i12 q hs ((le this).symm))
theorem FS.Cn (f:FS C F y st s) (k:∀b o,¬(st.g.fM b\/C.tab b)->s.heap.get? b=TK o->s'.heap.get? b=TK o) (z:s.heap.objs.size<=s'.heap.objs.size) (D:s'.gens=s.gens) (H:s'.drawn=s.drawn) (J:s'.os=s.os) (r:s.heap.objs.size<=I) (L:I<s'.heap.objs.size) (hg:cU C ((F.ext I).Z y) s'.heap g') (hp:∀a,g'.fM a->st.g.fM a):FS C (F.ext I) y {st with g:=g'} s':=by
 have h:=f.callee k z D H J (hg.move (λb o _ e=>e) (λb _ z=>z.imp .inl id) (λb p=>f.qp (hp b p))) hp;have no:∀b,b<s.heap.objs.size->b≠I:=λb lt e=>Pt.mpr r (e▸lt);have M:∀b,b<s.heap.objs.size->(F.ext I).Z y b->F.Z y b:=λb lt z=>z.elim (λx=>x.elim .inl λe=>TU e (no b lt)) .inr;exact {h with
  ec:=λb m=>(dQ ((h.ec b m).1) ((h.ec b m).2.1) (λx=>x.elim (h.ec b m).2.2 (no b (f.ec b m).1)))
  xb:=λb x=>x.elim (h.xb b) λe=>⟨e▸L,.inl (e▸O5 f.base.lt r)⟩
  wx:=λb w=>.inl (f.wx b w)
  bJ:=hg
  cells:=λx i c m k l=>(f.cells x i c m k l).imp id λj=>(dQ j.1 j.2.1 (λz x'=>x'.elim (j.2.2 z) (no c (by
   have N:F.env.cells.lookup x=TK c:=l;have t:F.env.kindOf x=TK .cell\/F.env.kindOf x=TK .free:=k;refine PA (f.kinds x i m) (λk'=>?_) λd=>aM d λO d=>bB d λT U B q O=>?_
   ·rw [k'] at t;rcases t with k|k<;>cases k
   ·rw [N] at B;cases B;exact q.lt))))
  vars:=λx i m sl e=>(f.vars x i m sl e).imp id λ⟨v,a,b⟩=>(i12 v (a.EP f m (λc o Q e=>k c o Q e)) (b.move (λb o nb=>k b o λp=>nb (f.qq p)) M (λa o R=>k a o λp=>(gR f p).2.2 _ R) (λ_ m=>m)))}
theorem FS.reset (j:FS C F z ⟨p,D⟩ B) (f:FS C (F.here z B) y st s) (cl:F.cl=[]) (H:∀x i,(x,i)∈F.vars->∀sl,p[i]?=TK sl->sl=.u\/(F.env.kindOf x≠TK .local/\∃w,sl=.v w)):FS C F y ⟨p,st.g⟩ s:=by
 have J:=j.dt f;exact {J with
  vars:=λx i m sl e=>by
   refine PA (H x i m sl e) (λt=>?_) λd=>aM d λL d=>cR d λw t=>?_
   ·subst t;exact .inl TL
   ·subst t;refine PA (j.vars x i m _ e) (λe=>?_) λd=>aT d λv a r=>?_
    ·cases e
    ·refine .inr (i12 v ?_ (Rep.on j f r));refine PA a (λd=>aM d λk M=>?_) λd=>aM d λk d=>aT d λc l d=>aT d λo g q=>?_
     ·exact TU k L
     ·refine PA (j.cells x i c m k l) (λh=>?_) λh=>?_
      ·rw [cl] at h;cases h
      ·exact .inr (⟨k,(i12 c l (i12 o (f.keep c o ⟨Py g,h.1⟩ h.2.1 g) q))⟩)}
noncomputable def vT (ρ:List Slot) (m:Nat):List Slot:=ρ.map hide++PF m .u
theorem Co:(vT ρ m).length=ρ.length+m:=by (rw [vT];exact aa (g3 ..) (aa (Pd ..) (aa (List.length_replicate ..) TL)))
theorem uq (h:(vT ρ m)[i]?=TK sl):sl=.u\/(i<ρ.length/\∃w,sl=.v w/\ρ[i]?=TK (.v w)):=by
 unfold vT at h;by_cases lt:i<(ρ.map hide).length
 ·rw [Ra lt] at h;rw [PM] at h;rw [Pd] at lt;refine mO h λx e a=>?_;subst a;cases x<;>first|exact .inl TL|exact .inr (⟨lt,(i12 _ TL e)⟩)
 ·rw [QD (Pt.mp lt),S2] at h;exact iO h λb h=>.inl (le h).symm
theorem qA:∀{ts:List Str} {xs:List V} {ρ:List Slot} {g:G},xs.length=ts.length->putL ((numbered ρ.length ts).map (·.2)) xs ⟨ρ++PF ts.length .u,g⟩=TK ⟨ρ++xs.map .v,g⟩
 |[],[],_,_,_=>rfl
 |[],_::_,_,_,h=>Tk h
 |_::_,[],_,_,h=>Tk h
 |t::ts,x::xs,ρ,g,h=>by
  have e:((⟨ρ++PF (ts.length+1) .u,g⟩:St).put ρ.length (.v x))=⟨(ρ++[.v x])++PF ts.length .u,g⟩:=by unfold St.put;refine aa (List.set_append_right _ _ (Px _) ..) (aa (Tl ..) (aa (Pi ..) ?_));rfl
  show putL ((numbered (ρ.length+1) ts).map (·.2)) xs ((⟨ρ++PF (ts.length+1) .u,g⟩:St).put ρ.length (.v x))=_;refine aa (e ..) (aa (((g3 (as:=ρ) (bs:=[Slot.v x])).symm) ..) (aa (qA (TI h) ..) (aa (Pi ..) ?_)));rfl
theorem yH (h:fm ts.length x=TK ss):qo ((numbered ρ.length ts).map (·.2)) x ⟨vT ρ ts.length,g⟩=TK ⟨ρ.map hide++ss,g⟩:=by
 have l:ρ.length=(ρ.map hide).length:=(Pd ..).symm;have c:ts.length≠1->(tupP x).bind (λxs=>putL ((numbered ρ.length ts).map (·.2)) xs ⟨vT ρ ts.length,g⟩)=TK ⟨ρ.map hide++ss,g⟩:=λn=>by refine ac λd=>bO ((TZ n).symm.trans h) λxs e h=>iO h λf h=>d ?_;refine aa (e ..) (bx (le h ..) (aa (l ..) ?_));exact qA f
 match ts,h,c with
 |[],h,c=>exact c (by decide)
 |[a],h,c=>refine bx (le ((TY TL).symm.trans h) ..) ?_;show TK (St.put ⟨ρ.map hide++[.u],g⟩ ρ.length (.v x))=_;unfold St.put;refine aa (l ..) (aa (List.set_append_right _ _ (Px _) ..) (aa (Tl ..) ?_));rfl
 |a::b::r,h,c=>exact c (λe=>Tk (TI e))
theorem dh {o:Option Uj} (k:o=TK .local) (h:o=TK .cell\/o=TK .free) {P:Prop}:P:=by
 subst k;rcases h with h|h<;>exact R9 (le h)
theorem FS.cellAt (f:FS C F y st s) (m:(x,i)∈F.vars) (k:F.env.kindOf x=TK .cell\/F.env.kindOf x=TK .free):∃c v,F.env.cells.lookup x=TK c/\s.heap.IsCell c v/\c≠F.env.locals:=(f.kinds x i m).elim (λl=>dh l k) (·.2)
inductive yI (C:Cx) (F:Fm) (g:G) (sc:Um) (Cc:T2) (h:Ut) (x:Str) (i:Nat):Prop
 |mk (c:T2) (v:Option TT) (m:(x,i)∈F.vars) (k:F.env.kindOf x=TK .cell\/F.env.kindOf x=TK .free) (l:F.env.cells.lookup x=TK c) (q:h.IsCell c v)
  (k':(vX F sc Cc).kindOf x=TK .cell\/(vX F sc Cc).kindOf x=TK .free) (l':(fu F.env sc.names []).lookup x=TK c) (w:¬(g.fM c\/C.tab c))
theorem kind_free (a:cj te F C) (c:seek te.names x=TK .cell\/seek te.names x=TK .free):F.env.kindOf x=TK .cell\/F.env.kindOf x=TK .free:=by
 refine PA c (λc=>?_) λc=>?_
 ·exact (a.names _ _ c).elim .inl λh=>R9 h.1
 ·exact (a.names _ _ c).elim .inr λh=>.inl h.2
theorem fy (f:FS C F y st s) (b:cj te F C) (d:dS te sc ts):∀x,(x,Qn)∈sc.names->(F.env.cells.lookup x).isSome=TN:=λx m=>by refine ac λh=>mM ((d.IM _ m).2.2 TL) λp i e=>fE (d.M2 p i) λa g c=>kJ (f.cellAt (b.vars▸bg a) (kind_free b c)) λj g l g=>h ?_;exact (TQ (λz=>(F.env.cells.lookup z).isSome) e).symm.trans (l▸TL)
theorem eD (h:seek sc.names x=TK k):(vX F sc Cc).kindOf x=TK (if (k==.free&&F.env.scope.kind==.function&&F.env.kindOf x==TK .cell)=TN then .cell else k):=lJ (bc h)
theorem lK (h:seek sc.names x=TK .local):(vX F sc Cc).kindOf x=TK .local:=eD h
theorem FS.Gg {sc:Um} {ts:List Str} {Cc:T2} {x:Str} {i:Nat} (f:FS C F y st s) (d:cj te F C) (j:dS te sc ts) (t:(x,i)∈frees te sc):yI C F st.g sc Cc s.heap x i:=by
 refine ac λr=>fE (j.M2 _ t) λa b c=>?_;have m:(x,i)∈F.vars:=d.vars▸bg a;have k:=kind_free d c;refine bB (f.cellAt m k) λw v l q ne=>r ?_;clear r;refine ⟨w,v,m,k,l,q,?_,(oP (fy f d j) (du (bc b))).trans l,λp=>(f.cells _ _ _ m k l).elim (λh=>(gR f p).2.1 h) λh=>f.yo p h.1 h.2.1⟩;refine aa (eD b ..) ?_;by_cases e:(Qn==.free&&F.env.scope.kind==.function&&F.env.kindOf x==TK .cell)=TN
 ·refine aa (TY e ..) ?_;exact .inl TL
 ·refine aa (TZ e ..) ?_;exact .inr TL
theorem FS.lL (f:FS C F y st s) (e:cj te F C) (d:dS te sc ts) (m:(x,i)∈(a5 te sc ts).vars):((vX F sc Cc).kindOf x=TK .local/\te.nv<=i/\i<te.nv+ts.length/\(x==("__classdict__":Str))=TO)\/yI C F st.g sc Cc s.heap x i:=(PE.mp m).imp (λm=>⟨lK (d.loc _ m).1,(d.loc _ m).2⟩) (f.Gg e d)
theorem FS.Cp (f:FS C F y st s) (L:cj te F C) (H:dS te sc ts) (l:st.ρ.length=te.nv) (g:a9 s s') (R:s.heap.objs.size<=D/\D<s'.heap.objs.size) (T:s.heap.objs.size<=I/\I<s'.heap.objs.size) (O:s.heap.objs.size<=Cc/\Cc<s'.heap.objs.size) (U:Cc≠D) (Y:Cc≠I) (ns:∃m,s'.heap.Ns Cc m):
  FS C (F.block C y st.g s.heap sc (a5 te sc ts) D Cc I) ⟨[],[]⟩ ⟨vT st.ρ ts.length,st.g⟩ s':=by
 have Q:=f.grow g;have B:∀b,b<s.heap.objs.size->b≠D/\b≠I/\b≠Cc:=λb h=>(dQ (λe=>Pt.mpr R.1 (e▸h)) (λe=>Pt.mpr T.1 (e▸h)) (λe=>Pt.mpr O.1 (e▸h)));have M:=λb z=>(f.dE.xb b z).1;have j:∀b,b∈own (F.block C y st.g s.heap sc (a5 te sc ts) D Cc I) ⟨[],[]⟩->b=Cc:=λb m=>Pv.mp m;have zz:∀b,b<s.heap.objs.size->(F.block C y st.g s.heap sc (a5 te sc ts) D Cc I).Z ⟨[],[]⟩ b->F.Z y b:=λb h z=>z.elim (λz=>z.elim id λe=>e.elim (λe=>TU e (B b h).1) λe=>TU e (B b h).2.1) λm=>TU (j b m) (B b h).2.2;exact {
   base:=Q.base
   gens:=Q.gens
   drawn:=Q.drawn
   os:=Q.os
   keep:=λb o p w e=>g.keep b o e
   jh:=λb p=>Pj p g.size
   c8:=λb m p=>(B b p).2.2 (j b m)
   ec:=λb m=>(j b m).symm▸((dQ O.2 (O5 f.base.lt O.1) (λz=>z.elim (λz=>Pt.mpr O.1 (M _ z)) λe=>e.elim U Y)))
   iy:=PX.mpr ⟨Pn,.nil⟩
   xb:=λb x=>x.elim (λz=>⟨Pj (M b z) g.size,(f.dE.xb b z).2⟩) λe=>e.elim (λe=>e▸⟨R.2,.inl (O5 f.base.lt R.1)⟩) λe=>e▸⟨T.2,.inl (O5 f.base.lt T.1)⟩
   wx:=λb w=>.inl (f.qq w)
   ee:=λb t=>.inr t
   kind:=H.kind
   iL:=f.iL
   blt:=f.blt
   locs:=ns
   bJ:=f.bJ.move (λb o _ e=>g.keep b o e) zz (λb p=>.inl (.inl (f.qp p)))
   dn:=λb p=>.inl (.inl p)
   dg:=.nil
   pY:=H.Lq
   nA:=H.Lr
   kinds:=λx i m=>by
    rcases f.lL L H m with ⟨k,_⟩|⟨c,v,_,_,_,q,k,N,_⟩
    ·exact .inl k
    ·exact .inr (⟨k,(gF c v N (q.keeps g.keep) ((B c q.lt).2.2))⟩)
   cells:=λx i c m k l=>by
    rcases f.lL L H m with ⟨k',_⟩|⟨c',v,_,_,_,q,_,N,w⟩
    ·exact dh k' k
    ·obtain rfl:=le (l.symm.trans N);exact .inr (dQ (λm'=>(B c q.lt).2.2 (j c m')) w (λz=>z.elim))
   f6:=λx x' c a b=>f.f6 x x' c (lI (fy f L H) a) (lI (fy f L H) b)
   vars:=λx i m sl e=>by
    refine PA (uq e) (λJ=>?_) λd=>aM d λli d=>aT d λw J e'=>?_
    ·subst J;exact .inl TL
    ·subst J;rcases f.lL L H m with ⟨_,hi,_⟩|⟨c,u,mf,k,lc,q,k',N,_⟩
     ·exact TU (l▸li) (Pt.mpr hi)
     ·refine aT (f.at mf e' Slot.noConfusion) λv a r=>.inr (i12 v (.inr (⟨k',(i12 c N ?_)⟩)) (Rep.move (λb o _ e=>g.keep b o e) zz r));refine PA a (λd=>aM d λN5 z9=>?_) λd=>aM d λz9 d=>aT d λc' IS q'=>?_
      ·exact dh N5 k
      ·exact le (IS.symm.trans lc)▸q'.keeps g.keep}
theorem cj.block (a:cj te F C) (f:FS C F y st s) (b:dS te sc ts):cj (a5 te sc ts) (F.block C y st.g hr sc (a5 te sc ts) D Cc I) C:={
   vars:=TL
   iL:=λx h=>eD h
   gl:=a.gl
   lt:=λx i m=>(f.lL (Cc:=Cc) a b m).elim (λh=>h.2.2.1) λ⟨_,_,m,_,_,_,_,_,_⟩=>Pj (a.lt _ _ (a.vars▸m)) (PV _ _)
   uk:=λx i m=>(f.lL (Cc:=Cc) a b m).elim (λh=>h.2.2.2) λ⟨_,_,m,_,_,_,_,_,_⟩=>a.uk _ _ (a.vars▸m)
   lm:=λk h=>aZ h
   names:=λx k h=>by
    have:=eD (F:=F) (Cc:=Cc) h;by_cases e:(k==.free&&F.env.scope.kind==.function&&F.env.kindOf x==TK .cell)=TN
    ·rw [TY e] at this;exact .inr ⟨beq_iff_eq.mp (Qg.mp (Qg.mp e).1).1,this⟩
    ·rw [TZ e] at this;exact .inl this
   set:=λx i c m hr k l=>by
    rcases PE.mp m with m|m
    ·exact dh (lK (b.loc _ m).1) k
    ·exact TU (PI.mpr (i12 _ m TL)) hr}
noncomputable def fB (C:Cx) (wm:Nm->Option V) (te:TE) (n:Nat) (a:List T3) (b:E):Prop:=(a=[]/\b=.lit (.bool TN))\/∃c,a=[c]/\ST C wm te n c b
inductive qB (C:Cx) (Fb:Fm) (ρ:List Slot) (m:Nat) (D:T2) (xv:TT) (x:V) (items:List V) (T:Nat->Ut->Prop) (fe fc:St->KE->Prop) (K:List V->G->Prop) (i:Nat) (s:TP):Prop
 |mk (yy:Dy) (g:G) (vs:Array TT) (nn:Nat) (acc:List V) (f:FS C Fb yy ⟨vT ρ m,g⟩ s) (gD:s.heap.get? D=TK (seqObj "list" vs nn)) (rD:aP C (Fb.Z yy) s.heap vs.toList acc) (hT:T i s.heap) (rx:Rep C (Fb.Z yy) s.heap xv x)
  (hL:qn fe fc m (ρ.map hide) (items.drop i) acc g K) (la:acc.length<=i) (li:i<=items.length)
structure oQ (C:Cx) (Fb:Fm) (M6:TE) (D I:T2) (hr:Ut) (vY:AP) (nv:Nat):Prop where
 hX:∀b,Fb.X b↔(vY b\/b=D\/b=I)
 hW:∀b,Fb.W b->vY b
 xH:Fb.cl=[]
 hP:∀b,Fb.P b↔b<hr.objs.size
 kj:∀b,vY b->b<hr.objs.size
 KN:hr.objs.size<=D
 IT:hr.objs.size<=I
 Ih:D≠I
 yJ:∀x i c,(x,i)∈M6.vars->(Fb.env.kindOf x=TK .cell\/Fb.env.kindOf x=TK .free)->Fb.env.cells.lookup x=TK c->c<hr.objs.size
 vZ:∀x i,(x,i)∈M6.vars->i<nv->Fb.env.kindOf x≠TK .local
theorem aP.snoc (r:Rep C X h v x):∀{xs:List V} {vs:List TT},aP C X h vs xs->aP C X h (vs++[v]) (xs++[x])
 |[],_,e=>by obtain rfl:_=[]:=e;exact .cons r .nil
 |_::_,_,⟨u,l,e,a,b⟩=>e▸.cons a (aP.snoc r b)
theorem yK (a:fB C wm te n b g) (h:ce n A) (i:cj te F C) (f:FS C F y st s) (l:st.ρ.length=te.nv) (d:Ev C wm n g TN st k):
  aC (model C.prog C.w) A (forIn b TN λc r=>if r=TN then do let ok ←Uz c F.env (eval c F.env);pure (QM ok) else pure (QM r)) (kg C F y te.nv k) cS s:=by
 rcases a with ⟨rfl,rfl⟩|⟨c,rfl,a⟩
 ·exact aT d λt e j=>m5 ⟨_,y,(le e).symm▸j,f,λ_ m=>m,l⟩
 ·exact m6 (a A F y st s _ h i f l d)
theorem v0 {sc:Um} {N:TE} {D I:T2} {d:Fm} {vY:AP} {hr:Ut} {elt yE iter:T3} {ifs:List T3} {pos:Pos} {ie ic:E} {ρ:List Slot} {ts:List Str} {xv:TT} {x:V} {items:List V} {T:Nat->Ut->Prop} {fp:List T2} {K:List V->G->Prop} {fe fc:St->KE->Prop} {Q:Fin->TP->Prop} {E:TT->TP->Prop} {i:Nat} (He:∀{st k},fe st k->Ev C wm n ie TO st k) (Hc:∀{st k},fc st k->Ev C wm n ic TN st k) (It:gu C) (N6:N.nv=ρ.length+ts.length) (Lx:sO N yE ((numbered ρ.length ts).map (·.2))) (he:SV C wm N n elt ie) (hc:fB C wm N n ifs ic) (ao:ce n A) (fo:cj N d C) (B:oQ C d N D I hr vY ρ.length) (W:Walk C A I xv x items T fp) (hi:items.length<=av) (Ii:∀b∈fp,b=I\/(b<hr.objs.size/\¬vY b)) (hF:∀s L g vs nn acc,FS C d L ⟨vT ρ ts.length,g⟩ s->vs.size<=av->s.heap.get? D=TK (seqObj "list" vs nn)->aP C (d.Z L) s.heap vs.toList acc->K acc g->Q (.done .next) s) (hQ:∀s,i<items.length->qB C d ρ ts.length D xv x items T fe fc K (i+1) s->Q (.again (.compLoop (.ListComp elt [⟨yE,iter,ifs,0⟩] sc pos) 0 (.ref I) (.ref D) d.env)) s) (hJ:qB C d ρ ts.length D xv x items T fe fc K i s):
  aC (model C.prog C.w) A (compTurn (.ListComp elt [⟨yE,iter,ifs,0⟩] sc pos) 0 (.ref I) (.ref D) d.env) Q E s:=by
 have XD:d.X D:=(B.hX D).mpr (.inr (.inl TL));have XI:d.X I:=(B.hX I).mpr (.inr (.inr TL));have R:=λb h w=>Pt.mpr h (B.kj b (B.hW b w));have fw:∀{b},d.X b->hr.objs.size<=b->∀{L st s s'},FS C d L st s->(∀c o,c≠b->s.heap.get? c=TK o->s'.heap.get? c=TK o)->s.heap.objs.size<=s'.heap.objs.size->(∃h tk,s'={s with heap:=h,toks:=tk})->FS C d L st s':=λ{b} hx hb {L st s s'} f k z e=>f.yG hx (R b hb) (λp=>Pt.mpr hb ((B.hP b).mp p)) (λx i c m k l e=>TU (B.yJ x i c (fo.vars▸m) k l) (e▸Pt.mpr hb)) k z e;have IU:∀{b L st s},d.X b->FS C d L st s->b∉own d L:=λx f m=>(f.ec _ m).2.2 x;obtain ⟨L,g,vs,nn,acc,f,gD,rD,hT,rx,hL,U,Cq⟩:=hJ;refine aa (compTurn_list ..) (ab (al (ab ?_)));have hsz:vs.size<=av:=O5 (O9 rD.length) (O5 U (O5 Cq hi));by_cases kj:i<items.length
 ·rw [SD kj] at hL;refine aT hL λss hu hL=>W.item _ _ f.dE (λ_ e=>e▸.inl XI) rx hT (PC kj) λu IV O H Y ru go=>?_;refine ab (go yE _ _ (.inr λ_ e=>e) λt IW k₂ Ly ES=>?_);have a:=fw XI B.IT (fw XI B.IT f H Y O) k₂ Ly IW;have Lz:=λb o ne e=>k₂ b o ne (H b o ne e);have ET:=Lz D _ B.Ih gD;have EU:=rD.fw (.inl XI) Lz;have EV:=rx.fw (.inl XI) Lz;refine lh (iQ (F:=d.here L t) (Q:=λ_ s'=>∃y',FS C (d.here L t) y' ⟨ρ.map hide++ss,g⟩ s'/\(ρ.map hide++ss).length=N.nv) It Lx ao a.fQ fo.here (ru.fw (.inl XI) k₂) (Co.trans N6.symm) (yH (g:=g) hu) λGh Ge Gi N7 sP=>(i12 Ge Gi sP)) (λ_ Gh LA=>?_);refine aT LA λGe Gi sP=>lh (yK (F:=d.here L t) hc ao fo.here Gi sP (Hc hL)) (λok Gj p=>?_);obtain ⟨EW,IX,IY,J,N8,LB⟩:=p;have M7:∀x' j,(x',j)∈d.vars->∀sl,(vT ρ ts.length)[j]?=TK sl->sl=.u\/(d.env.kindOf x'≠TK .local/\∃w,sl=.v w):=λx' j m sl e=>(uq e).imp id λ⟨lj,w,h,_⟩=>(⟨(B.vZ x' j (fo.vars▸m) lj),(⟨w,h⟩)⟩);have P:∀{KO st' s'},FS C (d.here L t) KO st' s'->∀b∈fp,∀o,t.heap.get? b=TK o->s'.heap.get? b=TK o:=λ{KO st' s'} f' b mb o e=>by
   rcases Ii b mb with rfl|⟨lb,nz⟩
   ·exact f'.keep _ o ⟨Py e,IU XI a⟩ (R _ B.IT) e
   ·exact f'.keep _ o ⟨Py e,λm=>a.c8 b m ((B.hP b).mpr lb)⟩ (λw=>nz (B.hW b w)) e
  have EX:∀{KO st' s'},FS C (d.here L t) KO st' s'->s'.heap.get? D=TK (seqObj "list" vs nn):=λf'=>f'.keep _ _ ⟨Py ET,IU XD a⟩ (R _ B.KN) ET;cases ok with
  |false=>exact af (hQ _ kj ⟨IX,EW.g,vs,nn,acc,a.reset J B.xH M7,EX J,EU.on a J,W.frame _ _ _ ES (P J),EV.on a J,IY,Rc U,kj⟩)
  |true=>
   refine ab (lh (he A (d.here L t) IX EW Gj _ ao fo.here J LB (He IY)) (λv vU p=>?_));obtain ⟨r,IZ,LD,Gk,M,LE,LF,N9⟩:=p;refine ab (dD ⟨nn,EX M⟩ (λh' LG M8=>?_) hsz);refine cR LG λOa LG=>?_;have kb:=λb o ne e=>M8.extBut b o ne e;refine af (af (hQ _ kj ⟨LD,IZ.g,vs.push v,Oa,acc++[r],(fw XD B.KN (a.reset M B.xH M7) kb (O9 M8.1.symm) (hY h' vU.toks TL)),LG,?_,W.frame _ _ _ (W.frame _ _ _ ES (P M)) λb mb o e=>kb b o ?_ e,(EV.on a M).fw (.inl XD) kb,Gk,?_,kj⟩))
   ·exact aa (SK ..) (aP.snoc (LE.fw (.inl XD) kb) ((EU.on a M).fw (.inl XD) kb))
   ·exact (Ii b mb).elim (λe q=>B.Ih (q.symm.trans e)) λh e=>Pt.mpr B.KN (e▸h.1)
   ·refine aa (g3 ..) ?_;exact R1 U
 ·obtain rfl:i=items.length:=PJ Cq (Pt.mp kj);rw [List.drop_length] at hL;exact W.done _ _ f.dE (λ_ e=>e▸.inl XI) rx hT λIV O H Y=>af (hF IV L g vs nn acc (fw XI B.IT f H Y O) hsz (H D _ B.Ih gD) (rD.fw (.inl XI) H) hL)
theorem v1 {T:Nat->Ut->Prop} {K:List V->G->Prop} {R:UM->TP->Prop} (It:gu C) (f:a.nv=ρ.length+ts.length) (h:sO a j ((numbered ρ.length ts).map (·.2))) (z:SV C wm a n m r) (H:fB C wm a n o t) (L:ce n A) (M:cj a c C) (B:oQ C c a D I hr d ρ.length) (W:Walk C A I u x items T N) (O:items.length<=av) (p:∀b∈N,b=I\/(b<hr.objs.size/\¬d b)) (fin:∀s v g vs P acc,FS C c v ⟨vT ρ ts.length,g⟩ s->vs.size<=av->s.heap.get? D=TK (seqObj "list" vs P)->aP C (c.Z v) s.heap vs.toList acc->K acc g->R (.ok .next) s) (i:Nat) (q:qB C c ρ ts.length D u x items T (λst k=>Ev C wm n r TO st k) (λst k=>Ev C wm n t TN st k) K i s):
  codeN (model C.prog C.w) A (.compLoop (.ListComp m [⟨j,iter,o,0⟩] sc pos) 0 (.ref I) (.ref D) c.env) R s:=by
 refine lr TL (λk s=>∃i,k=items.length-i/\qB C c ρ ts.length D u x items T (λst k=>Ev C wm n r TO st k) (λst k=>Ev C wm n t TN st k) K i s) (λk s q=>?_) _ (i12 i TL q) TL;exact aT q λi e J=>hZ (v0 id id It f h z H L M B W O p fin (λs l J=>(⟨TL,(i12 _ (e▸Nat.sub_lt_sub_left l (Qx i)) (i12 (i+1) TL J))⟩)) J)
theorem cj.ext (a:cj te F C):cj te (F.gW P) C:=⟨a.vars,a.iL,a.gl,a.lt,a.uk,a.lm,a.names,a.set⟩
structure sQ (F:Fm) (I:T2):Prop where
 w:¬F.W I
 p:¬F.P I
 c:∀x i c,(x,i)∈F.vars->(F.env.kindOf x=TK .cell\/F.env.kindOf x=TK .free)->F.env.cells.lookup x=TK c->c≠I
theorem FS.yL (f:FS C F y st s) (h:s.heap.objs.size<=I):sQ F I where
 w:=λw=>Pt.mpr h (f.xb I (f.wx I w)).1
 p:=λp=>Pt.mpr h (f.jh I p)
 c:=λx i c m k l e=>by exact bB (f.cellAt m k) λr d j q d=>Pt.mpr h (e▸le (j.symm.trans l)▸q.lt)
theorem FS.jo (f:FS C (F.ext I) y st s) (u:sQ F I) (wx:∀b,F.W b->F.X b) (hs:QL I s.heap h'):FS C F y st {s with heap:=h'}:=(f.yG (.inr TL) u.w u.p u.c (λb o ne e=>hs.extBut b o ne e) (O9 hs.1.symm) (hY h' s.toks TL)).Gf wx
theorem Rep.jo (r:Rep C ((F.ext I).Z y) s.heap v x) (hs:QL I s.heap h'):Rep C (F.Z y) h' v x:=r.move (λb o a e=>hs.extBut b o (λe=>a (.inl (.inr e))) e) λb _ z=>z.imp .inl id
inductive yM (C:Cx) (F:Fm) (y:Dy) (nv:Nat) (k:V->St->Prop) (acc:TT) (I:T2) (s:TP):Prop
 |mk (x:V) (st:St) (y':Dy) (h:k x st) (f:FS C (F.ext I) y' st s) (r:Rep C ((F.ext I).Z y') s.heap acc x) (mu:∀p∈y'.mu,p∈y.mu) (l:st.ρ.length=nv) (un:sQ F I) (wx:∀b,F.W b->F.X b) (m:Str->Option TT) (ns:s.heap.Ns I m)
theorem lM (h:gS e=TO):∀x:TT,Vg e env x=pure x:=by cases e<;>first|exact λ_=>rfl|exact TU h Qy
theorem nH (It:gu C) {sc:Um} {ts:List Str} {elt yE iter:T3} {ifs:List T3} {pos ip:Pos} {ie ic ii:E} {Q:TT->TP->Prop} (U:dS te sc ts) (Lx:sO (a5 te sc ts) yE ((numbered te.nv ts).map (·.2))) (LI:gS iter=TO) (hi:SV C wm te n iter ii) (he:SV C wm (a5 te sc ts) n elt ie) (hc:fB C wm (a5 te sc ts) n ifs ic) (ao:ce n A) (fo:cj te F C) (f:FS C F y st s) (l:st.ρ.length=te.nv) {k:V->St->Prop} (I0:Ev C wm n (.comp ie ts.length ii ic) TO st k) (hQ:∀acc I s',yM C F y te.nv k acc I s'->h4 (model C.prog C.w) A cS use Q acc I (.ok .next) s'):
  aC (model C.prog C.w) A (comprehension (.ListComp elt [⟨yE,iter,ifs,0⟩] sc pos) sc F.env ip (newList []) TO (eval iter F.env) use) Q cS s:=by
 refine f4 TL (lM LI) (iA (fy f fo U)) U.kind (λx m e=>e▸bc (U.IM _ m).2.1) (ar (hi A F y st s _ ao fo f l I0) (λxv r p=>?_) λ_ _ x=>x);refine ac λnG=>?_;obtain ⟨x,d,j,⟨items,hit,hlen,hL⟩,a,Cr,m₁,N⟩:=p;refine nG ?_;clear nG;refine It.iter _ _ ao a.dE Cr hit λI t T fp Cs LJ Ob hT Ii W=>c5 (eN (λx m e=>(U.IM _ m).1 e) (λy hy=>TU hy Pn) (λP M u=>?_) U.kind) (by size_fits);generalize LK:t.heap.push {cls:=.type "list",dict:=TW,data:=.seq ([]:List TT).toArray}=H2 at M u⊢;have hC:H2.objs.size=t.heap.objs.size+1:=by exact bx (LK ..) (aa (P0 ..) TL)
 generalize hD:t.heap.objs.size=D at*;generalize Oc:H2.objs.size=Cc at*;have gs:a9 t {t with heap:=P,toks:=t.toks+([]:List (Str×TT)).length}:=⟨(hY _ _ TL),λb o e=>u.extBut b o (by
   rintro rfl
   have:=Py e;rw [hD] at this;exact PG _ (Nat.lt_of_succ_lt (hC▸this))) (Pq _ (LK▸Pq _ e)),by
  refine aa (u.1 ..) (aa (P0 ..) (aa (Oc ..) (aa (hD ..) (aa (hC ..) ?_))));exact aJ [_] 0x6302000400⟩
 have gD:=u.extBut _ _ (by refine aa (hC ..) ?_;exact QZ (Qx _)) (Pq _ (LK▸hD▸Pz _ TL));generalize Od:({t with heap:=P,toks:=t.toks+([]:List (Str×TT)).length}:TP)=L at gs⊢;have I1:=Cs.trans gs;have hh:L.heap=P:=by exact bx (Od ..) TL
 have O:=hD▸Cs.size;have M9:D<L.heap.objs.size:=by refine aa (hh ..) ?_;exact Py gD
 have X:r.heap.objs.size<=Cc:=by refine aa (hC ..) ?_;exact Rc O
 have Y:I<D:=Ob;have Ih:D≠I:=λe=>PG _ (e▸Y);have Na:Cc≠D:=by refine aa (hC ..) ?_;exact RH (Qx _)
 have Oe:Cc≠I:=λe=>by rw [←e,hC] at Y;exact PG _ (Nat.lt_of_succ_lt Y)
 have fb:=a.Cp fo U N I1 ⟨O,M9⟩ ⟨LJ,Qa Y M9⟩ ⟨X,(by refine aa (hh ..) ?_;exact M.lt:Cc<L.heap.objs.size)⟩ Na Oe ⟨_,hh▸M⟩;have LL:=λb z=>(a.dE.xb b z).1;have zz:∀b,b<r.heap.objs.size->(F.block C j d.g r.heap sc (a5 te sc ts) D Cc I).Z ⟨[],[]⟩ b->F.Z j b:=λb h z=>z.elim (λz=>z.elim id λe=>e.elim (λe=>TU h (Pt.mpr (e▸O))) λe=>TU h (Pt.mpr (e▸LJ))) λm=>TU h (Pt.mpr (Pv.mp m▸X));have Nb:T 0 L.heap:=W.frame _ _ _ hT λb mb o e=>gs.keep b o e;have B:oQ C (F.block C j d.g r.heap sc (a5 te sc ts) D Cc I) (a5 te sc ts) D I r.heap (F.Z j) d.ρ.length:={
  hX:=λb=>Iff.rfl
  hW:=λb w=>a.qq w
  xH:=TL
  hP:=λb=>Iff.rfl
  kj:=LL
  KN:=O
  IT:=LJ
  Ih:=Ih
  yJ:=λx i c m k l=>(a.lL (Cc:=Cc) fo U m).elim (λh=>dh h.1 k) λ⟨c',v,_,_,_,q,_,l',_⟩=>le (l'.symm.trans l)▸q.lt
  vZ:=λx i m li h=>(a.lL (Cc:=Cc) fo U m).elim (λh=>Pt.mpr h.2.1 (N▸li)) λ⟨_,_,_,_,_,_,k,_,_⟩=>dh h k}
 have J:qB C (F.block C j d.g r.heap sc (a5 te sc ts) D Cc I) d.ρ ts.length D xv x items T (λst k=>Ev C wm n ie TO st k) (λst k=>Ev C wm n ic TN st k) (λxs g=>kM d.g g/\k (.list xs) {d with g:=g}) 0 L:=⟨⟨[],[]⟩,d.g,#[],0,[],fb,hh▸gD,.nil,Nb,Cr.move (λb o _ e=>I1.keep b o e) zz,hL,Px _,QF _⟩;have loop:=v1 (sc:=sc) (pos:=pos) (iter:=iter) It (N▸TL) (N.symm▸Lx) he hc ao (fo.block a U) B W hlen (λb mb=>(Ii b mb).imp id λ⟨⟨o,e⟩,nz⟩=>⟨Py e,nz⟩) (λGj yy g vs nn acc H Of R I2 hK=>by
  refine ac λnG=>aM hK λsp hk=>?_;have Nc:∀b,(F.ext Cc).Z j b->(F.block C j d.g r.heap sc (a5 te sc ts) D Cc I).Z yy b:=λb z=>z.elim (λz=>z.elim (λz=>.inl (.inl (.inl z))) λe=>.inr (Pf.mpr (.inl e))) λz=>.inl (.inl (.inr z));have fx:=a.Cn (s':=Gj) (g':=g) (I:=Cc) (λb o np e=>H.keep b o (Py e) np e) (O5 O (Pw (Py R))) (H.gens.trans a.gens.symm) (H.drawn.trans a.drawn.symm) (H.os.trans a.os.symm) X (H.ec Cc (.head _)).1
   (H.bJ.move (λb o _ e=>e) (λb _ z=>Nc b z) λb p=>(a.qp (ki sp p)).imp .inl id) (λb p=>ki sp p)
  refine cR H.locs λmm ns=>nG ?_;clear nG;refine hQ _ _ _ ⟨.list acc,_,j,hk,fx,.list R (λz=>?_) (I2.move (λb o _ e=>e) λb _ z=>Nc b z) Of,m₁,N,a.yL X,a.wx,mm,ns⟩;exact z.elim (λz=>z.elim (λz=>Pt.mpr O (LL _ (.inl z))) λe=>Na e.symm) λz=>Pt.mpr O (LL _ (.inr z))) 0 J
 have goal:codeN (model C.prog C.w) A (.compStart (.ListComp elt [⟨yE,iter,ifs,0⟩] sc pos) 0 (.ref I) (.ref D) (F.block C j d.g r.heap sc (a5 te sc ts) D Cc I).env) (h4 (model C.prog C.w) A cS use Q (.ref D) Cc) L:=gL loop (W.self _ _ fb.dE Nb loop);exact goal
theorem oR (It:gu C) (i:dS te sc ts) (c:sO (a5 te sc ts) d ((numbered te.nv ts).map (·.2))) (a:gS iter=TO) (j:SV C wm te n iter o) (p:SV C wm (a5 te sc ts) n e q) (t:fB C wm (a5 te sc ts) n g u):SV C wm te n (.ListComp e [⟨d,iter,g,0⟩] sc pos) (.comp q ts.length o u):=by intro A F y st s k v w f l h;refine aa (eval_ListComp ..) (nH It i c a j p t v w f l h λacc I s' b=>?_);refine ac λz=>?_;obtain ⟨x,st',y',B,D,r,H,J,L,wx,m,hn⟩:=b;refine z ?_;exact (i12 m hn (λh' hs=>post_of (D.jo L wx hs) B (r.jo hs) H J))
noncomputable def gX (C:Cx) (X:AP) (h:Ut) (f:Va):Fl->Prop
 |.next=>f=.next
 |.cont=>f=.cont
 |.brk=>f=.brk
 |.ret x=>∃v,f=.ret v/\Rep C X h v x
theorem gX.next:gX C X h .next .next:=TL
theorem gX.cont:gX C X h .cont .cont:=TL
theorem gX.brk:gX C X h .brk .brk:=TL
theorem gX.ret (r:Rep C X h v x):gX C X h (.ret v) (.ret x):=(i12 v TL r)
inductive iB (C:Cx) (F:Fm) (nv:Nat) (k:KS) (f:Va) (s:TP):Prop
 |mk (fl:Fl) (st:St) (y:Dy) (h:k fl st) (fs:FS C F y st s) (r:gX C (F.Z y) s.heap f fl) (l:st.ρ.length=nv)
noncomputable def SS (C:Cx) (wm:Nm->Option V) (te:TE) (n:Nat) (run:Env->Sem Va) (a:S):Prop:=∀A F y st s k,ce n A->cj te F C->FS C F y st s->st.ρ.length=te.nv->Ie C wm n a st k-> aC (model C.prog C.w) A (run F.env) (iB C F te.nv k) cS s
theorem bK (b:FS C F y' st' s') (h:k a st') (r:gX C (F.Z y') s'.heap f a) (l:st'.ρ.length=nv):iB C F nv k f s':=⟨a,st',y',h,b,r,l⟩
theorem Ct:SS C wm te n (exec (.Pass pos)) .skip:=λA F y st s k b c f l a=>xP (bK f a .next l)
theorem Cu:SS C wm te n (exec (.Continue pos)) .cont:=λA F y st s k b c f l a=>oz (bK f a .cont l)
theorem yN {run:Env->Sem Va}:SS C wm te n run .raise:=λA F y st s k b c f l a=>a.elim
theorem Cv:SS C wm te n (exec (.Return TW pos)) .xX:=λA F y st s k b c f l a=>ku (bK f a (.ret .none) l)
theorem Gl (h:SV C wm te n e a):SS C wm te n (exec (.Return (TK e) pos)) (.ret a):=λA F y st s k c d f l g=>by refine kv (ar (h A F y st s _ c d f l g) (λv b p=>?_) λ_ _ x=>x);refine ac λi=>?_;obtain ⟨x,st',y',j,o,r,m,q⟩:=p;refine i ?_;exact bK o j (.ret r) q
theorem Gm:SS C wm te n (execs []) .skip:=λA F y st s k b c f l a=>bP (bK f a .next l)
theorem Gn {a:UJ} {r:List UJ} {x z:S} (ha:SS C wm te n (exec a) x) (hr:SS C wm te n (execs r) z):SS C wm te n (execs (a::r)) (.seq x z):=λA F y st s k h i f l m=>by
 refine cu (ar (ha A F y st s _ h i f l m) (λv b p=>?_) λ_ _ x=>x);refine ac λj=>?_;obtain ⟨o,st',y',c,d,e,g⟩:=p;refine j ?_;clear j;cases o with
 |next=>obtain rfl:v=_:=e;exact hr A F y' st' b k h i d g c
 |cont=>obtain rfl:v=_:=e;exact bK d c .cont g
 |brk=>obtain rfl:v=_:=e;exact bK d c .brk g
 |ret x=>obtain ⟨u,rfl,r⟩:=e;exact bK d c (.ret r) g
theorem Go (ha:SS C wm te n (exec a) x):SS C wm te n (execs [a]) x:=λA F y st s k c d f l e=>by
 refine cu (ar (ha A F y st s _ c d f l e) (λv b p=>?_) λ_ _ x=>x);cases v with
 |next=>exact bP p
 |cont=>exact p
 |brk=>exact p
 |ret v=>exact p
theorem I3 {t:T3} {a b:List UJ} {pos:Pos} {it:E} {g h:S} (ht:ST C wm te n t it) (ha:SS C wm te n (execs a) g) (r:SS C wm te n (execs b) h):SS C wm te n (exec (.If t a b pos)) (.ite it g h):=λA F y st s k d e f l u=>by
 refine FP (ar (ht A F y st s _ d e f l u) (λv c p=>?_) λ_ _ x=>x);refine ac λi=>?_;obtain ⟨st',y',j,o,m,q⟩:=p;refine i ?_;clear i;cases v with
 |true=>exact ha A F y' st' c k d e o q j
 |false=>exact r A F y' st' c k d e o q j
theorem turned {d:St->Prop} {Q:Prop} (h:ug f st' d k) (r:gX C (F.Z y') s'.heap v f) (a:(v=.next\/v=.cont)->d st'->Q) (b:v=.brk->k .next st'->Q) (c:∀u x,v=.ret u->Rep C (F.Z y') s'.heap u x->k (.ret x) st'->Q):Q:=by
 cases f with
 |next=>exact a (.inl r) h
 |cont=>exact a (.inr r) h
 |brk=>exact b r h
 |ret x=>obtain ⟨u,e,r⟩:=r;exact c u x e r h
theorem yO {t:T3} {b:List UJ} {pos:Pos} {it:E} {z:S} (ht:ST C wm te n t it) (M:SS C wm te n (execs b) z):SS C wm te n (exec (.While t b [] pos)) (.FT it z):=λA F y st s k B D f l d=>by
 refine cR d λj d=>vH (ky (λj s=>∃y st,FS C F y st s/\st.ρ.length=te.nv/\oH (λst k=>Ev C wm n it TN st k) (λst k=>Ie C wm n z st k) j st k) (λj s N=>?_) j ⟨y,st,f,l,d⟩);refine bB N λy st f l d=>?_;cases j with
 |zero=>exact d.elim
 |succ j=>
  refine ar (ht A F y st s _ B D f l d) (λv g p=>?_) λ_ _ x=>x.elim;refine ac λi=>?_;obtain ⟨st',y',H,J,m,l'⟩:=p;refine i ?_;clear i;cases v with
  |true=>
   refine ar (M A F y' st' g _ B D J l' H) (λv L p=>?_) λ_ _ x=>x.elim;refine ac λi=>?_;obtain ⟨O,c,o,q,a,w,lN⟩:=p;refine i ?_;clear i;refine turned q w (λe h=>?_) (λe h=>?_) λu x e r h=>?_
   ·rcases e with rfl|rfl<;>exact ⟨j,Qx _,o,c,a,lN,h⟩
   ·exact e▸bK a h .next lN
   ·exact e▸bK a h (.ret r) lN
  |false=>exact bP (bK J H .next l')
theorem Rep.Gf (r:Rep C ((F.gW P).Z y) s.heap v x):Rep C (F.Z y) s.heap v x:=r.move (λ_ _ _ e=>e) λb _ z=>z.imp .inl id
theorem qC (It:gu C) {U:T3} {b:List UJ} {ib:S} (ht:sO te U is) (hb:SS C wm te n (execs b) ib) {A:T0} {F:Fm} {a:Dy} {q:St} {k:KS} {xv:TT} {x:V} {I:T2} {P:AP} {T:Nat->Ut->Prop} (ao:ce n A) (fo:cj te F C) (g:FS C F a q d) (Cr:Rep C (F.Z a) d.heap xv x) (LM:q.ρ.length=te.nv) (Cs:a9 d J) (hI:∀b,P b->d.heap.objs.size<=b/\b<J.heap.objs.size) (hT:T 0 J.heap) (Ii:∀b∈fp,P b\/((∃o,d.heap.get? b=TK o)/\¬F.Z a b)) (W:uo C A I P xv x items T fp) (Og:isTup U=TN\/∀b,P b->b=I) (hL:forL (λst k=>Ie C wm n ib st k) is items q k):codeN (model C.prog C.w) A (.forLoop U (.ref I) b [] F.env) (λr s'=>match r with|.ok f=>iB C F te.nv k f s'|.error _=>False) J:=by
 have un:=λb e=>g.fQ.yL (hI b e).1;have wx:=g.wx;have Nd:cj te ((F.here a d).gW P) C:=fo.here.ext;have XI:∀b,P b->((F.here a d).gW P).X b:=λb e=>.inr e;have Y:=λb e=>(un b e).w;have up:=λb e=>(un b e).p;have uc:=λx i c m k l e=>(un c e).c x i c m k l TL;have rx:∀{y' st' s'},FS C ((F.here a d).gW P) y' st' s'->Rep C (((F.here a d).gW P).Z y') s'.heap xv x:=λ{y' st' s'} f'=>Cr.move (λb o nz e=>f'.keep b o ⟨Py e,λm=>nz (.inr m)⟩ (λw=>nz (.inl (g.wx b w))) e) λb lt z=>z.elim (λz=>z.elim .inl λe=>TU lt (Pt.mpr (hI b e).1)) λm=>PU λnz=>f'.c8 b m ⟨lt,λm'=>nz (.inr m')⟩;refine jd (λj s=>∃i y st,j=items.length-i/\i<=items.length/\FS C ((F.here a d).gW P) y st s/\st.ρ.length=te.nv/\T i s.heap/\forL (λst k=>Ie C wm n ib st k) is (items.drop i) st k) (λj s hJ=>?_) _ (NR 0 a q TL (QF _) (g.fQ.gW Cs hI) LM hT hL);refine NJ hJ λi y st IL Cq f l hT hL=>?_;subst IL;by_cases kj:i<items.length
 ·rw [SD kj] at hL;refine aT hL λst' Oh hL=>W.item _ _ f.dE (λb e=>.inl (XI b e)) (rx f) hT (PC kj) λu Gh t L M ru go=>?_;refine go U _ _ Og λD I4 I5 LO I6=>?_;have H:=(f.jU XI Y up uc L M t).jU XI Y up uc I5 LO I4;refine ar (iQ (F:=((F.here a d).gW P).here y D) (Q:=λ_ s'=>∃y',FS C (((F.here a d).gW P).here y D) y' st' s'/\st'.ρ.length=te.nv) It ht ao H.fQ Nd.here (ru.jU (s':=D) (P:=P) (λb e=>.inl (XI b e)) I5) l Oh λvU N O LF R=>⟨N,O,R⟩) (λ_ vU Gk=>?_) λ_ _ x=>x.elim;refine aT Gk λN O R=>ar (hb A (((F.here a d).gW P).here y D) N st' vU _ ao Nd.here O R hL) (λv Lv p=>?_) λ_ _ x=>x.elim;refine ac λnG=>?_;obtain ⟨fl,I7,LP,LQ,B,LR,Gp⟩:=p;refine nG ?_;clear nG;have I8:=H.dt B;have I9:=W.frame _ _ _ I6 λb mb o e=>by
   refine PA (Ii b mb) (λpb=>?_) λLS=>aM LS λLT nz=>?_
   ·exact B.keep _ o ⟨Py e,λm=>(H.ec _ m).2.2 (XI b pb)⟩ (Y b pb) e
   ·exact cR LT λo' e'=>B.keep b o ⟨Py e,λm=>H.c8 b m ⟨Py e',λm'=>nz (.inr m')⟩⟩ (λw=>nz (.inl (g.wx b w))) e
  have out:=g.dt (I8.Gf wx);refine turned LQ LR (λe h=>?_) (λe h=>?_) λu x e r h=>?_
  ·rcases e with rfl|rfl<;>exact ⟨_,Nat.sub_lt_sub_left kj (Qx i),i+1,LP,I7,TL,kj,I8,Gp,I9,h⟩
  ·exact e▸bK out h .next Gp
  ·exact e▸bK out h (.ret (Rep.Gf (F:=F) (P:=P) r)) Gp
 ·obtain rfl:i=items.length:=PJ Cq (Pt.mp kj);rw [List.drop_length] at hL;exact W.done _ _ f.dE (λb e=>.inl (XI b e)) (rx f) hT λGh t L M=>bP (bK (g.dt ((f.jU XI Y up uc L M t).Gf wx)) hL .next l)
theorem Gq (It:gu C) (d:gS it=TO) (ht:sO te i is) (D:SV C wm te n it H) (J:SS C wm te n (execs b) L):
  SS C wm te n (exec (.For i it b [] pos)) (.vL is H L):=λA F y st s k j u f l M=>by
 refine ue (ar (D A F y st s _ j u f l M) (λP v p=>?_) λ_ _ x=>x) (lM d);refine ac λN=>?_;obtain ⟨x,m,w,⟨items,o,hL⟩,a,c,z,g⟩:=p;refine N ?_;exact It.iter _ _ j a.dE c o λI B T Q h q r O t W=>qC It ht J j u a c g h (λb e=>by cases e;exact ⟨q,r⟩) O t W (.inr λ_ e=>e) hL
theorem Cw (It:gu C) (hA:eC J=TO) (i:be e=TO) (w:isTup j=TN) (ht:sO te j is) (hf:SV C wm te n J (.lit (.ty .enumerate))) (hi:SV C wm te n e ie) (hb:SS C wm te n (execs b) L):
  SS C wm te n (exec (.For j (.Call J [e] [] cp) b [] pos)) (.xW is ie L):=λA F y st s k u z f l he=>by
 refine ue ?_ (λx=>rfl);refine aa (call_plain hA ..) (aL (hf A F y st s (λv st'=>v=.ty .enumerate/\st'=st) u z f l ⟨TL,TL⟩) (λfv M p=>?_));refine ac λnG=>?_;obtain ⟨x,B,N,⟨rfl,rfl⟩,c,m,O,o⟩:=p;obtain rfl:fv=_:=m;refine nG ?_;refine nF (es:=[e]) (Rb.mpr ⟨i,TL⟩) (oN i hi sI) u z c o (k:=λvs st'=>∃t,vs=[.str t]/\forL (λst k=>Ie C wm n L st k) is (gO 0 t) st' k) he λvs Q xs D R hc g q U r=>⟨oO,?_⟩;refine aT hc λt h hL=>?_;subst h;refine aT q.kB λv h X=>?_;subst h;have a:=c.dt g;exact It.enum _ _ u a.dE X λI P Y T fp d hI Z H W=>W.self _ _ (a.grow d).dE Z (qC It ht hb u z a X r d hI Z H W (.inl w) hL)
theorem v2 (b hs pos) (env:Env):exec (.Try b hs [] [] pos) env=(do
  Up pos
  match ←(execs b env).attempt with
  |.ok .next=>execs [] env
  |.ok f=>pure f
  |.error e=>
   Vp e env
   if hs.isEmpty then throw e
   setFlight e TW
   if TO&&hs.any (λ|.ExceptHandler none ..=>TN|_=>TO) then unsupported "internal:except-star-without-type"
   if TO then runOwn (.starHandlers e e (←newList []) hs env) env (TK e) else handleBy e env hs):=TL
theorem Gr (c:SS C wm te n (execs b) d):SS C wm te n (exec (.Try b hs [] [] pos)) (.xY d):=λA F y st s k e g f l h=>by
 refine aa (v2 ..) (ab (al (ab (j9 (ar (c A F y st s k e g f l h) (λv a p=>?_) λ_ _ x=>x.elim)))));cases v with
 |next=>exact bP p
 |cont=>exact af p
 |brk=>exact af p
 |ret v=>exact af p
theorem cH (h:dR e=TO):swapsWith e t l env=pure TO:=by cases e<;>first|rfl|exact TU h Qy
theorem v3 (h:oM e=TN):dR e=TO:=by unfold dR;refine aa (show jk e=8 from beq_iff_eq.mp h) ?_;rfl
theorem Cy (c:oM e=TN) (h:SV C wm te n e a):SS C wm te n (exec (.Expr e pos)) (.expr a):=λA F y st s k d g f l i=>by refine jc (ar (h A F y st s _ d g f l i) (λv b p=>?_) λ_ _ x=>x) (by unfold interactive;refine aa (f.kind ..) ?_;rfl) (cH (v3 c));refine ac λj=>?_;obtain ⟨x,st',y',o,q,r,m,l'⟩:=p;refine j ?_;exact bK q o .next l'
theorem Gs (o:dR e=TO) (q:(x,i)∈te.vars) (hr:x∉te.ro) (h:SV C wm te n e a):SS C wm te n (exec (.Assign [.Name x J] e pos)) (.asg i a):=λA F y st s k t c f l u=>by refine aa (UW _ _ _ _ _ (cH o) ..) (ab (al (aL (h A F y st s _ t c f l u) (λv d p=>?_))));refine ac λz=>?_;obtain ⟨w,st',y',B,D,r,m,H⟩:=p;refine z ?_;refine ab (al (ab (D.iP c q hr r H λg j b _ lN _=>af (bK b B .next lN))))
theorem Cz (It:gu C) (N:dS te sc ts) (d:sO (a5 te sc ts) g ((numbered te.nv ts).map (·.2))) (c:gS iter=TO) (O:SV C wm te n iter Y) (P:SV C wm (a5 te sc ts) n h Z) (Q:fB C wm (a5 te sc ts) n j ic) (R:(x,i)∈te.vars) (hr:x∉te.ro):
  SS C wm te n (exec (.Assign [.Name x p1] (.ListComp h [⟨g,iter,j,0⟩] sc pos) t)) (.asg i (.comp Z ts.length Y ic)):=λA F y st s k T J f l u=>by
 refine ac λz=>?_;obtain ⟨b,U⟩:∃b,swapsWith (.ListComp h [⟨g,iter,j,0⟩] sc pos) (some (.Name x p1)) t.line F.env=pure b:=⟨_,TL⟩;refine z ?_;cases b with
 |false=>refine aa (UW _ _ _ _ _ U ..) (ab (al (aL (oR It N d c O P Q A F y st s _ T J f l u) (λv W p=>?_))));refine ac λz=>?_;obtain ⟨w,st',y',L,B,r,m,M⟩:=p;refine z ?_;exact ab (al (ab (B.iP J R hr r M λD H a _ lN _=>af (bK a L .next lN))))
 |true=>refine aa (exec_Assign_Name_used _ _ _ _ U ..) (ab (al (ab ?_)));refine aL (nH It N d c O P Q T J f l u λacc I s' bo=>?_) (λ_ s' p=>af (af p));refine ac λz=>?_;obtain ⟨w,st',y',L,B,r,m',M,X,wx,m,hn⟩:=bo;refine z ?_;refine ab (al (FS.iP (F:=(F.ext I).here y' s') B.fQ J.ext.here R hr r M λD H a _ lN _=>?_));exact (i12 m (hn.at' λo e=>a.keep I o ⟨Py e,λq=>(B.ec I q).2.2 (.inr TL)⟩ X.w e) (λh' hs=>bK ((B.dt a).jo X wx hs) L .next lN))
theorem CA (It:gu C) (hs:∀env,swapsWithSole [.Tuple es c d] e pos.line env=pure TO) (u:∀env,swappedStores [.Tuple es c d] e env=pure TW) (ht:sO te (.Tuple es c d) is) (h:SV C wm te n e a):SS C wm te n (exec (.Assign [.Tuple es c d] e pos)) (.ly is a):=λA F y st s k i j f l z=>by refine m4 (ar (h A F y st s _ i j f l z) (λv o p=>?_) λ_ _ x=>x) (hs F.env) (u F.env);refine ac λB=>?_;obtain ⟨w,st',y',⟨g,D,H⟩,J,r,m,L⟩:=p;refine B ?_;exact iQ It ht i J j r L D λq t b _ lN=>bK b H .next lN
theorem Gu (O:Ops C) (j:(x,i)∈te.vars) (hr:x∉te.ro) (h:SV C wm te n e a):SS C wm te n (exec (.AugAssign (.Name x U) op e pos)) (.aug i op a):=λA F y st s k w d f l o=>by have hm:=d.vars▸j;refine ac λq=>?_;obtain ⟨W,hs,rfl,o⟩:=o;refine aT (f.at hm hs Slot.noConfusion) λu M r=>q ?_;refine iI (M.load f.kind (d.uk x i j) ?_);refine ar (h A (F.here y s) y st s _ w d.here f.fQ l o) (λv B p=>?_) λ_ _ x=>x;refine ac λq=>?_;obtain ⟨z,st',y',⟨X,rfl,N⟩,D,P,m,Q⟩:=p;refine q ?_;have b:=f.dt D;exact O.M3 w b.dE (Rep.on f D r) P _ _ λY H g R=>λT p t=>Sem.wp_bindName ..▸((b.grow g).iP d j hr R Q λJ L c _ sP _=>bK c N .next sP) T p t
noncomputable abbrev bC (b:Array UInt8):Obj:={cls:=.type "bytearray",data:=.bytearray b}
structure qD (C:Cx):Prop where
 getL:∀{A:T0} {n X s a vs m} {x:String} {pl:Sem Bool} {Q:TT×List TT->TP->Prop} {E:TT->TP->Prop},ce n A->c9 C X s->s.heap.get? a=TK (seqObj "list" vs m)->(x="append"\/x="extend")->Q (.builtin ("list."++x),[.ref a]) s-> aC (model C.prog C.w) A (UC (.ref a) (O6 x) pl) Q E s
 Ja:∀{A:T0} {n X s a b} {x:String} {pl:Sem Bool} {Q:TT×List TT->TP->Prop} {E:TT->TP->Prop},ce n A->c9 C X s->s.heap.get? a=TK (bC b)->(x="append"\/x="extend")->Q (.builtin ("bytearray."++x),[.ref a]) s-> aC (model C.prog C.w) A (UC (.ref a) (O6 x) pl) Q E s
 yk:∀{A:T0} {n X s a vs m v ys} {Q:TT->TP->Prop} {E:TT->TP->Prop},ce n A->c9 C X s->X a->s.heap.get? a=TK (seqObj "list" vs m)->Rep C X s.heap v (.list ys)->vs.size+ys.length<av-> (∀h' tk us m',aP C X s.heap us ys->h'.get? a=TK (seqObj "list" (vs++us.toArray) m')->(∀b o,b≠a->s.heap.get? b=TK o->h'.get? b=TK o)->s.heap.objs.size<=h'.objs.size->Q .none {s with heap:=h',toks:=tk})-> aC (model C.prog C.w) A (call (.builtin "list.extend") [.ref a,v]) Q E s
 yj:∀{A:T0} {n X s a b v c} {Q:TT->TP->Prop} {E:TT->TP->Prop},ce n A->c9 C X s->X a->s.heap.get? a=TK (bC b)->Rep C X s.heap v (.int c)->0<=c->c<256->b.size<av-> (∀h' tk,h'.get? a=TK (bC (b.push (Pp c.toNat)))->(∀b o,b≠a->s.heap.get? b=TK o->h'.get? b=TK o)->s.heap.objs.size<=h'.objs.size->Q .none {s with heap:=h',toks:=tk})-> aC (model C.prog C.w) A (call (.builtin "bytearray.append") [.ref a,v]) Q E s
 yl:∀{A:T0} {n X s a b v cs} {Q:TT->TP->Prop} {E:TT->TP->Prop},ce n A->c9 C X s->X a->s.heap.get? a=TK (bC b)->Rep C X s.heap v (.bytes cs)->b.size+cs.length<av-> (∀h' tk,h'.get? a=TK (bC (b++cs.toArray))->(∀b o,b≠a->s.heap.get? b=TK o->h'.get? b=TK o)->s.heap.objs.size<=h'.objs.size->Q .none {s with heap:=h',toks:=tk})-> aC (model C.prog C.w) A (call (.builtin "bytearray.extend") [.ref a,v]) Q E s
 Jb:∀{A:T0} {n X s vs xs b} {Q:TT->TP->Prop} {E:TT->TP->Prop},ce n A->c9 C X s->aP C X s.heap vs xs->(xs=[]/\b=[]\/xs=[.bytes b])-> (∀a s',a9 s s'->s.heap.objs.size<=a->s'.heap.get? a=TK (bC b.toArray)->Q (.ref a) s')->aC (model C.prog C.w) A (call (.type "bytearray") vs) Q E s
 setAt:∀{A:T0} {n X s w g i t} {x':Str} {Q:Unit->TP->Prop} {E:TT->TP->Prop},ce n A->c9 C X s->cU C X s.heap g->g.wire=TK w->f7 cV x'=TK .at_->0<=i-> (∀h' tk,(∃h1 k1 t1 h2 k2 t2 n,h'.get? w.d=TK (de (c7 h1 k1 t1 h2 k2 t2 {w with pos:=i.toNat}) n))->(∀b o,b≠w.d->s.heap.get? b=TK o->h'.get? b=TK o)->s.heap.objs.size<=h'.objs.size->Q () {s with heap:=h',toks:=tk})-> aC (model C.prog C.w) A (setAttr (.ref w.a) x' (.int i t)) Q E s
 yP:∀{A:T0} {n X s a cv pv t1 m i t} {Q:Unit->TP->Prop} {E:TT->TP->Prop},ce n A->c9 C X s->s.heap.get? a=TK (seqObj "list" #[cv,.int pv t1] m)-> (∀h' tk m',h'.get? a=TK (seqObj "list" #[cv,.int i t] m')->(∀b o,b≠a->s.heap.get? b=TK o->h'.get? b=TK o)->s.heap.objs.size<=h'.objs.size->Q () {s with heap:=h',toks:=tk})->∀t2,aC (model C.prog C.w) A (setItem (.ref a) (.int 1 t2) (.int i t)) Q E s
theorem FS.kQ (f:FS C F y st s) (N:(x,i)∈F.vars) (m:(i,a)∈y.mu) (O:cx F.env s.heap x (TK (.ref a))) (k:∀b o,b≠a->s.heap.get? b=TK o->h'.get? b=TK o) (z:s.heap.objs.size<=h'.objs.size) (D:dq C (F.Z y) h' y.mu i sl (.ref a)):FS C F y (st.put i sl) {s with heap:=h',toks:=tk}:=by
 have t:a∈own F y:=f5 m;have J:F.env.locals≠a:=λe=>(dr f.iy).mu i a m e.symm;have L:∀b,¬F.Z y b->b≠a:=λb n e=>n (.inr (e▸t));have r:∀x' j c,(x',j)∈F.vars->(F.env.kindOf x'=TK .cell\/F.env.kindOf x'=TK .free)->F.env.cells.lookup x'=TK c->c≠a:=λx' j c mm k l=>(f.cells x' j c mm k l).elim (λq e=>(eS f.iy q).mu i a m e.symm) (λh e=>h.1 (e▸t));exact {
  base:=f.base.keep (λb o nb e=>k b o (λq=>nb (f.yn (.inr (q▸t)))) e) z
  gens:=f.gens
  drawn:=f.drawn
  os:=f.os
  keep:=λb o p w e=>k b o (λq=>f.c8 b (q▸t) p) (f.keep b o p w e)
  jh:=λb p=>Pj (f.jh b p) z
  c8:=f.c8
  ec:=λb m=>⟨Pj (f.ec b m).1 z,(f.ec b m).2⟩
  iy:=f.iy
  xb:=λb m=>⟨Pj (f.xb b m).1 z,(f.xb b m).2⟩
  wx:=f.wx
  ee:=f.ee
  kind:=f.kind
  iL:=f.iL
  blt:=f.blt
  locs:=let ⟨m,n⟩:=f.locs;⟨m,n.at' λo e=>k _ o J e⟩
  bJ:=f.bJ.move (λb o z e=>k b o (z.elim (L b) ((λb p e=>(gR f p).2.2 i (e▸m)) b)) e) (λ_ _ z=>z) λb p=>f.qp p
  dn:=f.dn
  dg:=f.dg
  pY:=f.pY
  nA:=f.nA
  kinds:=λx' j mm=>(f.kinds x' j mm).imp id λ⟨B,c,v,l,⟨o,Q,d⟩,n⟩=>(⟨B,(gF c v l (i12 o (k _ _ (r x' j c mm B l) Q) d) n)⟩)
  cells:=f.cells
  f6:=f.f6
  vars:=λx' j mm H e=>by
   have M:∀v,cx F.env s.heap x' v->cx F.env h' x' v:=λv V=>V.ER (λ_ o e=>k _ o J e) (λB c o l e=>k c o (r x' j c mm B l) e);rcases oK e with ⟨rfl,rfl⟩|⟨ne,e⟩
   ·obtain rfl:x'=x:=ji f.nA mm N;exact .inr (i12 _ (M _ O) D)
   ·exact (f.vars x' j mm H e).imp id λ⟨v,p,q⟩=>(i12 v (M _ p) (q.move (λb o nb e=>k b o (L b nb) e) (λ_ _ z=>z) (λb o mb e=>k b o (λq=>ne (ji ((RV.mp (RV.mp (PX.mp f.iy).2).2.1).1) (q▸mb) m)) e) (λ_ m=>m)))}
theorem FS.yQ {A:T0} {a:T2} {x:Str} {i:Nat} {sl:Slot} {Q:Unit->TP->Prop} (f:FS C F y st s) (J:cj te F C) (L:(x,i)∈te.vars) (hr:x∉te.ro) (g:a9 s s') (r:s.heap.objs.size<=a) (R:a<s'.heap.objs.size) (l:st.ρ.length=te.nv) (t:∀Z mu,(∀b,b<s.heap.objs.size->Z b->F.Z y b)->(i,a)∈mu->dq C Z s'.heap mu i sl (.ref a)) (h:∀d y',FS C F y' (st.put i sl) d->(st.put i sl).ρ.length=te.nv->Q () d):aC (model C.prog C.w) A (bindName F.env x (.ref a)) Q cS s':=by
 have B:a∉own F y:=λm=>Pt.mpr r (f.ec a m).1;have sub:(own F (y.drop i)).Sublist (own F y):=jj;have M:∀b,b∈own F ⟨(i,a)::(y.drop i).mu,y.pb⟩->b=a\/b∈own F y:=λb m=>(Pf.mp (uj.mem_iff.mp m)).imp id λm=>sub.subset m;refine f3 ((f.sH g r R).store (y':=⟨(i,a)::(y.drop i).mu,y.pb⟩) (sl:=sl) (J.vars▸L:(x,i)∈F.vars) (λc k l=>J.set x i c L hr k l) (λb m=>kO.mem_iff.mpr (Pf.mpr (M b m))) ?_ (λj b ne m=>Qv _ (fq.mpr ⟨m,ne⟩)) ?_ (λb p=>f.dn b p) ?_ (t _ _ (λb lt z=>?_) (.head _)) λd D=>h d _ D (fr l))
 ·exact uj.nodup_iff.mpr (PX.mpr ⟨λm=>B (sub.subset m),f.iy.sublist sub⟩)
 ·refine PX.mpr ⟨λm=>?_,oL f.dg⟩;refine ac λN=>mM m λH m e=>?_;obtain ⟨j,b⟩:=H;refine N ?_;clear N;exact (fq.mp m).2 e
 ·intro j b m;refine PA (Pf.mp m) (λe=>?_) λm=>?_
  ·cases e;exact ⟨λe=>B (e▸.head _),λq=>B (.tail _ (PE.mpr (.inl q)))⟩
  ·have O:=(fq.mp m).1;exact ⟨(dr f.iy).mu j b O,λq=>(eS f.iy q).mu j b O TL⟩
 ·exact z.imp id λm=>(M b m).resolve_left λe=>TU lt (Pt.mpr (e▸r))
theorem FS.Gv (f:FS C F y st s) (g:a9 s s') {cells:List Int} {p n:Nat} (k:s.heap.objs.size<=a) (hn:st.g.src=TW) (B:s'.heap.get? a=TK (seqObj "list" #[cv,.int p t] n)) (D:Rep C (F.Z y) s.heap cv (.list (cells.map .int))):
  FS C F {y with pb:=a::y.pb} {st with g:={st.g with src:=TK ⟨a,cells,p⟩}} s':=by
 have j:=f.sH g k (Py B);refine {j with bJ:=⟨λr e=>?_,j.bJ.wire,λr w H J=>?_,j.bJ.tabs,j.bJ.lD⟩,dn:=λb q=>?_}
 ·obtain rfl:=le e;exact (dQ (.inr (kO.mem_iff.mpr (.head _))) (.inl (O5 f.base.lt k)) (xN cv t n B (D.move (λb o _ e=>g.keep b o e) (λb lt z=>z.imp id λm=>(Pf.mp (kO.mem_iff.mp m)).resolve_left λh=>TU lt (Pt.mpr (h▸k))))))
 ·obtain rfl:=le H;exact ou (f.bJ.wire w J) λl l l l d=>EF d λL M N O Q R T gd=>λe=>TU (Py gd) (e▸Pt.mpr k)
 ·refine PA q (λd=>aT d λr e q=>?_) λq=>?_
  ·obtain rfl:=le e;exact .inr (q▸.head _)
  ·exact j.dn b (.inr q)
theorem CB {es:List T3} {x:Str} {lp M pos:Pos} {i:Nat} {a:E} (z:es.length<=50) (B:(x,i)∈te.vars) (hr:x∉te.ro) (h:SL C wm te n lp es a):SS C wm te n (exec (.Assign [.Name x M] (.List es lp) pos)) (.oD i a):=λA F y st s k N u f l O=>by
 refine aa (UW _ _ _ _ _ (cH TL) ..) (ab (al (ab (qb (ar (h A F y st s _ N u f l O) (λvs c p=>?_) λ_ _ x=>x)))));refine ac λd=>?_;obtain ⟨⟨xs,st',y',j,D,r,m,H⟩,len⟩:=p;refine d ?_;clear d;refine ⟨yv len z,?_⟩;have g:=a9.push c (seqObj "list" vs.toArray 0);have v:(c.heap.push (seqObj "list" vs.toArray 0)).get? c.heap.objs.size=TK (seqObj "list" vs.toArray 0):=Pz _ TL;refine ab (al (ab ?_));cases j with
 |own j=>exact D.yQ (a:=c.heap.objs.size) u B hr g (Px _) (Py v) H (sl:=.ml xs) (λZ mu P Q=>(K6 _ _ _ TL Q v (r.move (λb o _ e=>g.keep b o e) P) (sJ len z))) λR T w IS=>af (bK w j .next IS)
 |src cells p hn e j=>subst e;refine ac λd=>?_;obtain ⟨cv,_,rfl,U,_,_,rfl,⟨t,rfl⟩,rfl⟩:=r;refine d ?_;clear d;exact (D.Gv g (Px _) (RB.mp hn) v U).iP u B hr (.ref _) H λJ L q _ sP _=>af (bK q (j _) .next sP)
theorem CC (Mu:qD C) (Y:eC P=TO) (hs:es.any be=TO) (hx:(x,i)∈te.vars) (hr:x∉te.ro) (hf:SV C wm te n P (.lit (.ty .bytearray))) (hl:SL C wm te n lp es a):
  SS C wm te n (exec (.Assign [.Name x p1] (.Call P es [] lp) pos)) (.vK i a):=λA F y st s k J L f l he=>by
 refine aa (UW _ _ _ _ _ (cH TL) ..) (aa (call_plain Y ..) ?_);refine ab (al (ab (aL (hf A F y st s (λv st'=>v=.ty .bytearray/\st'=st) J L f l ⟨TL,TL⟩) (λfv c p=>?_))));refine ac λnG=>?_;obtain ⟨fx,M,Q,⟨rfl,rfl⟩,d,r,R,u⟩:=p;obtain rfl:fv=_:=r;refine nG ?_;refine nF hs hl J L d u he λvs B xs m T hc o h U D=>⟨oO,?_⟩;have j:=d.dt o;have W:∀b,b.length<=av->(xs=[]/\b=[]\/xs=[.bytes b])->k .next (m.put i (.mb b))->aC (model C.prog C.w) A (call (.type Ty.bytearray.id) vs) (λv c=>aC (model C.prog C.w) A (do Up p1;bindName F.env x v;pure .next) (iB C F te.nv k) cS c) cS B:=λb hz hb H=>Mu.Jb J j.dE h hb λa s' g h1 X=>ab (al (ab (j.yQ L hx hr g h1 (Py X) D (sl:=.mb b) (λZ mu zz mi=>(NP _ _ TL mi X TL hz)) λIg O2 N IS=>af (bK N H .next IS))))
 refine PA hc (λq=>aM q λe H=>?_) λq=>aT q λb e H=>?_
 ·exact W [] (QF _) (.inl ⟨e,TL⟩) H
 ·subst e;refine aT h.kB λv O rb=>?_;subst O;exact bB rb.xV λbb t z9 e z=>W b (e▸z) (.inr TL) H
noncomputable def one (k:V->St->Prop):List V->St->Prop
 |[v],st=>k v st
 |_,_=>False
theorem CD {k:V->St->Prop}:∀{vs:List V} {st:St},one k vs st->∃v,vs=[v]/\k v st
 |[v],_,h=>(i12 v TL h)
 |[],_,h=>h.elim
 |_::_::_,_,h=>h.elim
theorem qE (Mu:qD C) {e:T3} {x w:Str} {J:String} {p1 m cp sp:Pos} {i:Nat} {a:E} (hw:w=O6 J) (L:J="append"\/J="extend") (hp:(m.endLine==cp.line)=TN) (M:be e=TO) (hx:(x,i)∈te.vars) (hd:x≠O6 "__debug__") (h:SV C wm te n e a) {A:T0} {F:Fm} {y:Dy} {st:St} {s:TP} {k:KS} {kl kb:V->St->Prop} (ao:ce n A) (X:cj te F C) (f:FS C F y st s) (l:st.ρ.length=te.nv) (H:vQ st.ρ[i]? (Ev C wm n a TO st kl) (Ev C wm n a TO st kb)) (Oi:∀ad v z s' st' y',kl z st'->FS C F y' st' s'->Rep C (F.Z y') s'.heap v z->st'.ρ.length=te.nv-> (∀xs,st'.ρ[i]?=TK (.ml xs)->cx F.env s'.heap x (TK (.ref ad))/\(i,ad)∈y'.mu/\∃vs n,s'.heap.get? ad=TK (seqObj "list" vs n)/\aP C (F.Z y') s'.heap vs.toList xs/\vs.size<=av)->aC (model C.prog C.w) A (call (.builtin ("list."++J)) [.ref ad,v]) (λ_ s'=>iB C F te.nv k .next s') cS s') (Oj:∀ad v z s' st' y',kb z st'->FS C F y' st' s'->Rep C (F.Z y') s'.heap v z->st'.ρ.length=te.nv-> (∀bs,st'.ρ[i]?=TK (.mb bs)->cx F.env s'.heap x (TK (.ref ad))/\(i,ad)∈y'.mu/\∃b:Array UInt8,s'.heap.get? ad=TK (bC b)/\b.toList=bs/\b.size<=av)->aC (model C.prog C.w) A (call (.builtin ("bytearray."++J)) [.ref ad,v]) (λ_ s'=>iB C F te.nv k .next s') cS s'):
  aC (model C.prog C.w) A (exec (.Expr (.Call (.Attribute (.Name x p1) w m) [e] [] cp) sp) F.env) (iB C F te.nv k) cS s:=by
 have hm:(x,i)∈F.vars:=X.vars▸hx;subst hw;have N:[e].any be=TO:=Rb.mpr ⟨M,TL⟩;refine jc ?_ (by unfold interactive;refine aa (f.kind ..) ?_;rfl) TL;refine aa (lH (es:=[e]) TL hp (show 1<=25 by decide) N ..) (aa (iN hd ..) ?_);refine ab (ab (al ?_));have finish:∀{q:String} {ad:T2} {Y:V->St->Prop},Ev C wm n a TO st Y->(∀v z s' st' y',Y z st'->FS C F y' st' s'->Rep C (F.Z y') s'.heap v z->st'.ρ.length=te.nv->(∀p∈y'.mu,p∈y.mu)-> aC (model C.prog C.w) A (call (.builtin q) [.ref ad,v]) (λ_ s'=>iB C F te.nv k .next s') cS s')-> aC (model C.prog C.w) A (VG cp (.builtin q) [.ref ad] (UP cp (Ue [e] F.env)) []) (λ_ s'=>iB C F te.nv k .next s') cS s:=λ{q ad Y} I0 hg=>by refine nF N (oN M h sI) ao X f l (k:=one Y) I0 λvs O xs t P hc B Q R T=>⟨kP,?_⟩;refine ac λg=>aT (CD hc) λz c U=>?_;subst c;refine aT Q.kB λv c r=>?_;subst c;refine g ?_;clear g;exact hg v z O t P U (f.dt B) r T R
 generalize hs:st.ρ[i]?=o at H
 match o,H with
 |some (.ml xs),H=>refine ac λg=>aT (f.at hm hs Slot.noConfusion) λu D d=>xM d λad vs nn c ma ga rs=>?_;subst c;refine g ?_;clear g;refine D.load f.kind (X.uk x i hx) (ab (al (ab (aq (Mu.getL ao f.dE ga L (finish H λv z s' st' y' U W r l' m'=>Oi ad v z s' st' y' U W r l' λxs e=>?_))))));refine ac λg=>aT (W.at hm e Slot.noConfusion) λu D d=>H9 d λa' vs nn c j rs=>?_;subst c;obtain rfl:=oJ f.dg ma (m' _ j);refine g ?_;clear g;exact ⟨D,j,vs,nn,rs⟩
 |some (.mb bs),H=>refine ac λg=>aT (f.at hm hs Slot.noConfusion) λu D d=>m0 d λad b c ma ga rs=>?_;subst c;refine g ?_;clear g;refine D.load f.kind (X.uk x i hx) (ab (al (ab (aq (Mu.Ja ao f.dE ga L (finish H λv z s' st' y' U W r l' m'=>Oj ad v z s' st' y' U W r l' λxs e=>?_))))));refine ac λg=>aT (W.at hm e Slot.noConfusion) λu D d=>bB d λa' b c j rs=>?_;subst c;obtain rfl:=oJ f.dg ma (m' _ j);refine g ?_;clear g;exact ⟨D,j,b,rs⟩
theorem aP.app (r:aP C X h c ys):∀{xs:List V} {vs:List TT},aP C X h vs xs->aP C X h (vs++c) (xs++ys):=by
 intro d;induction d with
 |nil=>intro f e;obtain rfl:_=[]:=e;exact r
 |cons _ _ g=>intro f i;exact bB i λu l e a b=>e▸.cons a (g b)
theorem Jc {ad:T2} (m:(i,ad)∈y.mu):∀b,¬F.Z y b->b≠ad:=λb a e=>a (e▸.inr (f5 m))
theorem Gx (Mu:qD C) {a:E} (R:w=O6 "append") (hp:(p.endLine==cp.line)=TN) (u:be e=TO) (M:(x,i)∈te.vars) (hd:x≠O6 "__debug__") (h:SV C wm te n e a):
  SS C wm te n (exec (.Expr (.Call (.Attribute (.Name x p1) w p) [e] [] cp) sp)) (.app i a):=λA F y st s k N O f l T=>by
 have hm:=O.vars▸M;refine qE Mu R (.inl TL) hp u M hd h N O f l T (λad v z s' st' y' g t r B at_=>?_) λad v z s' st' y' g t r B at_=>?_
 ·obtain ⟨xs,hs,U,g⟩:=g;refine ac λD=>fE (at_ xs hs) λH j m=>bB m λvs W J rs z9=>D ?_;have hsz:=Pb (O9 rs.length) U;refine dD ⟨W,J⟩ (λh' X d=>?_) (Pw hsz);refine cR X λY L=>?_;have q:∀b o,b≠ad->s'.heap.get? b=TK o->h'.get? b=TK o:=λb o ne e=>d.extBut b o ne e;have P:=Jc (F:=F) j;refine bK (t.kQ (sl:=.ml (xs++[z])) hm j H q (O9 d.1.symm) ⟨ad,vs.push v,Y,TL,j,L,?_,O5 (O9 (Tm _)) hsz⟩) g .next (fr B)
  exact aa ((SK) ..) (aP.snoc (r.move (λb o n e=>q b o (P b n) e) λ_ _ z=>z) (rs.move (λb o n e=>q b o (P b n) e) λ_ _ z=>z))
 ·obtain ⟨bs,c,hs,rfl,Z,h2,h3,g⟩:=g;refine ac λD=>fE (at_ bs hs) λH j m=>ix m λb J Q zb=>D ?_;have hsz:b.size<av:=by refine bx (PS ..) (aa (Q ..) ?_);exact h3
  exact Mu.yj N t.dE (.inr (f5 j)) J r Z h2 hsz λh' tk L q zz=>bK (t.kQ (sl:=.mb (bs++[Pp c.toNat])) hm j H q zz ⟨ad,_,TL,j,L,by exact aa (SK ..) (aa (Q ..) TL),O5 (O9 (Tm _)) hsz⟩) g .next (fr B)
theorem Gy (Mu:qD C) {e:T3} {x w:Str} {X c cp Y:Pos} {i:Nat} {a:E} (Z:w=O6 "extend") (hp:(c.endLine==cp.line)=TN) (u:be e=TO) (P:(x,i)∈te.vars) (hd:x≠O6 "__debug__") (h:SV C wm te n e a):
  SS C wm te n (exec (.Expr (.Call (.Attribute (.Name x X) w c) [e] [] cp) Y)) (.ext i a):=λA F y st s k B Q f l he=>by
 have hm:(x,i)∈F.vars:=Q.vars▸P;refine qE Mu Z (.inr TL) hp u P hd h B Q f l he (λad v z s' st' y' g m r D at_=>?_) λad v z s' st' y' g m r D at_=>?_
 ·obtain ⟨xs,ys,hs,rfl,p,g⟩:=g;refine ac λq=>fE (at_ xs hs) λH d j=>bB j λvs nn J rs z9=>q ?_;clear q;have e:vs.size=xs.length:=rs.length;have R:=Jc (F:=F) d;refine Mu.yk B m.dE (.inr (f5 d)) J r (e▸p) λh' tk T L U M t N=>bK (m.kQ (sl:=.ml (xs++ys)) (h':=h') (tk:=tk) hm d H t N ⟨ad,_,L,TL,d,M,?_,?_⟩) g .next (fr D)
  ·exact aa (RF ..) (aP.app (U.move (h':=h') (λb o n e=>t b o (R b n) e) λ_ _ z=>z) (rs.move (h':=h') (λb o n e=>t b o (R b n) e) λ_ _ z=>z))
  ·exact (RW (xs:=vs) (ys:=T.toArray)).trans (congr (TQ _ e) (U.length:T.length=ys.length))▸Pw p
 ·obtain ⟨bs,O,hs,rfl,p,g⟩:=g;refine ac λq=>fE (at_ bs hs) λH d j=>ix j λb J W zb=>q ?_;clear q;have e:b.size=bs.length:=by exact bx (PS ..) (aa (W ..) TL)
  refine Mu.yl B m.dE (.inr (f5 d)) J r (e▸p) λh' tk M t N=>bK (m.kQ (sl:=.mb (bs++O)) (h':=h') (tk:=tk) hm d H t N ⟨ad,_,TL,d,M,?_,?_⟩) g .next (fr D)
  ·exact aa (RF ..) (aa (W ..) TL)
  ·exact (RW (xs:=b) (ys:=O.toArray)).trans (TQ (· +O.length) e)▸Pw p
theorem cU.putAt {X:AP} {h h':Ut} {g:G} {w:Wr} {p:Nat} (R:cU C X h g) (k:g.wire=TK w) (gd:∃h1 k1 t1 h2 k2 t2 n,h'.get? w.d=TK (de (c7 h1 k1 t1 h2 k2 t2 {w with pos:=p}) n)) (i:∀b o,b≠w.d->h.get? b=TK o->h'.get? b=TK o):cU C X h' {g with wire:=TK {w with pos:=p}}:=by
 refine ac λx=>ou (R.wire w k) λB j H J f=>EF f λh1 k1 t1 h2 k2 t2 n u=>x ?_;clear x;have v:∀b,¬X b->b≠w.d:=λb n e=>n (e▸B);refine ⟨λr e=>?_,λr e=>?_,λr N L M=>?_,λl m=>?_,λr e=>le e▸R.lD w k⟩
 ·exact fE (R.src r e) λz mt f=>xL f λcv t n a q=>(dQ z mt (xN cv t n (i _ _ (R.apart r w e k) a) (q.move (λb o nb=>i b o (v b nb)) λ_ _ y=>y)))
 ·obtain rfl:=le e;exact (BY B j H (i _ _ (v _ j) J) gd)
 ·exact le M▸R.apart r w L k
 ·refine aT (R.tabs l m) λvs g q=>(i12 vs (i _ _ (λe=>?_) g) (q.imp id λ⟨c,e,r,D⟩=>(eK c e ?_ D)))
  ·rw [e,u] at g;cases g
  ·exact r.at λo e=>i _ o (v _ D) e
theorem cU.Gz {p:Nat} (R:cU C X h g) (hr:g.src=TK r) (Y:∃t n,h.get? r.a=TK (seqObj "list" #[cv,.int r.pos t] n)) (z:h'.get? r.a=TK (seqObj "list" #[cv,.int p t] B)) (D:Rep C X h cv (.list (r.cells.map .int))) (i:∀b o,b≠r.a->h.get? b=TK o->h'.get? b=TK o):cU C X h' {g with src:=TK {r with pos:=p}}:=by
 refine ac λH=>fE (R.src r hr) λv J f=>xL f λL t' n' k M=>H ?_;have u:∀b,¬X b->b≠r.a:=λb n e=>n (e▸v);refine ⟨λN e=>?_,λw e=>?_,λN w O P=>?_,λl m=>?_,R.lD⟩
 ·obtain rfl:=le e;exact (dQ v J (xN cv t B z (D.move (λb o nb=>i b o (u b nb)) λ_ _ y=>y)))
 ·exact ou (R.wire w e) λQ j U W f=>EF f λh1 k1 t1 h2 k2 t2 n gd=>(BY Q j U (i _ _ (u _ j) W) (KD h1 k1 t1 h2 k2 t2 n (i _ _ (R.apart r w hr e).symm gd)))
 ·exact le O▸R.apart r w hr P
 ·refine aT (R.tabs l m) λvs g q=>(i12 vs (i _ _ (λe=>?_) g) (q.imp id λ⟨c,e,r,x⟩=>(eK c e ?_ x)))
  ·rw [e,k] at g;cases g
  ·exact r.at λo e=>i _ o (u _ x) e
theorem CE (Mu:qD C) (L:dR e=TO) (j:f7 cV M=TK .at_) (ho:SV C wm te n o N) (O:SV C wm te n e P):SS C wm te n (exec (.Assign [.Attribute o M ap] e pos)) (.kA N .at_ P):=λA F y st s k B Q f l u=>by
 refine bI ?_ (cH L);refine ar (SV.two O ho B Q f l u) (λva D h=>ar h (λR H p=>?_) λ_ _ x=>x) λ_ _ x=>x;refine ac λT=>?_;obtain ⟨x,z,st',y',⟨w,i,a,rfl,_,rfl,U,W⟩,c,X,Y,m,l'⟩:=p;obtain rfl:R=_:=Y;obtain ⟨t,rfl⟩:=X;refine T ?_;refine Mu.setAt B c.dE c.bJ a j U λh' tk gd J Z=>?_;have hp:∀b,¬(st'.g.fM b\/C.tab b)->b≠w.d:=λb v e=>v (.inl (.inr (i12 w a e.symm)));refine bK (c.callee (λb o v e=>J b o (hp b v) e) Z TL TL TL (c.bJ.putAt a gd J) λb p=>?_) W .next l'
 exact p.imp id λ⟨r,e,q⟩=>(i12 w a ((TQ Wr.d (le e)).trans q))
theorem CF (Mu:qD C) (N:dR e=TO) (ho:SV C wm te n o O) (P:SV C wm te n e Q):
  SS C wm te n (exec (.Assign [.Subscript o (.Constant (.int j) kk cp) sp] e pos)) (.qh O (.lit (.int j)) Q):=λA F y st s k H R f l u=>by
 refine gK ?_ (cH N);refine ar (SV.two P ho H R f l u) (λva J h=>ar h (λT d p=>?_) λ_ _ x=>x) λ_ _ x=>x;refine ac λv=>?_;obtain ⟨x,z,st',y',⟨r,i,hr,rfl,U,rfl,W,X⟩,Y,Z,rb,m,l'⟩:=p;obtain rfl:j=1:=le (TQ dY U);obtain rfl:T=_:=rb;refine cR Z λt0 w=>?_;subst w;refine v ?_;refine dG ?_;have c:=Y.grow (a9.tok d (d.toks+1));refine ac λv=>fE (c.bJ.src r hr) λz9 z9 B=>xL B λcv t nn L rc=>v ?_;refine Mu.yP H c.dE L (λh' tk m' gd M zz=>?_) _;have hp:∀b,¬(st'.g.fM b\/C.tab b)->b≠r.a:=λb D e=>D (.inl (.inl (i12 r hr e.symm)));refine bK (c.callee (λb o D e=>M b o (hp b D) e) zz TL TL TL (c.bJ.Gz hr (hY t nn L) ((Q2 W).symm▸gd) rc M) λb p=>?_) X .next l'
 exact p.imp (λ⟨r',e,q⟩=>(i12 r hr ((TQ Src.a (le e)).trans q))) id
structure qF (C:Cx) (wm:Nm->Option V):Prop where
 O:Ops C
 W:ul C wm
 Q:sM C
 It:gu C
 Mu:qD C
structure gY (C:Cx) (wm:Nm->Option V) (te:TE) (n:Nat) (e:T3) (ir:E):Prop where
 v:SV C wm te n e ir
 t:ST C wm te n e ir
 a:∀x p1 pos i,(x,i)∈te.vars->x∉te.ro->SS C wm te n (exec (.Assign [.Name x p1] e pos)) (.asg i ir)
theorem gY.q (b:dR e=TO) (v:SV C wm te n e ir) (t:ST C wm te n e ir):gY C wm te n e ir:=⟨v,t,λ_ _ _ _ c hr=>Gs b c hr v⟩
theorem gY.p (P:qF C wm) (v:SV C wm te n e ir) (ht:∀st k,Ev C wm n ir TN st k->Ev C wm n ir TO st (yu k)) (c:∀env b,Uz e env b=(do let v ←b;Up e.pos;holding [v] (truthy v))) (d:dR e=TO):gY C wm te n e ir:=.q d v (v.test P.O ht c)
noncomputable def wh {b c:Type}:(o:Option b)->((a:b)->o=TK a->Option c)->Option c
 |none,_=>TW
 |some a,f=>f a TL
noncomputable def gd {a:Type}:(b:Bool)->(b=TN->Option a)->Option a
 |false,_=>TW
 |true,f=>f TL
noncomputable def sb {b c:Type} {p:b->Prop}:Option {a//p a}->((a:b)->p a->Option c)->Option c
 |none,_=>TW
 |some ⟨a,h⟩,f=>f a h
noncomputable def dp {a:Type} {p:Prop}:Decidable p->(p->Option a)->Option a
 |.isTrue h,f=>f h
 |.isFalse _,_=>TW
structure Tr (C:Cx) (wm:Nm->Option V) (n:Nat) where
 e:∀te e,Option {ir:E//gY C wm te n e ir}
 l:∀te es,Option {ir:E//(∀pos,SL C wm te n pos es ir)/\es.any be=TO}
 b:∀te op es,Option {ir:E//Cb C wm te n op es ir}
 s:∀te s,Option {ir:S//SS C wm te n (exec s) ir}
 ss:∀te ss,Option {ir:S//SS C wm te n (execs ss) ir}
theorem bX (h:qr te x=TK i):(x,i)∈te.vars/\x∉te.ro/\x≠O6 "__debug__":=by exact aM (Sd.mp h) λhn h=>⟨bg h,λm=>hn (.inl m),λe=>hn (.inr e)⟩
noncomputable def qG (te:TE):(e:T3)->Option {p:Str×Nat//∃pos,e=.Name p.1 pos/\p∈te.vars/\p.1∉te.ro}
 |.Name x p=>wh (qr te x) λi h=>TK ⟨(x,i),p,TL,(bX h).1,(bX h).2.1⟩
 |_=>TW
noncomputable def CG (te:TE):(e:T3)->Option {is:List Nat//sO te e is}
 |.Name x p=>wh (qr te x) λi h=>TK ⟨[i],.one (bX h).1 (bX h).2.1⟩
 |.Tuple [a,b] k p=>sb (qG te a) λu f=>sb (qG te b) λv g=>gd (!decide (u.1=v.1)) λ_=>TK ⟨[u.2,v.2],by
   refine ix f λj d a1 l=>?_;subst d;refine ix g λj d m o=>?_;subst d;exact .two a1 l m o⟩
 |.Tuple [a,b,c] k p=>sb (qG te a) λu f=>sb (qG te b) λv g=>sb (qG te c) λw q=>gd (decide [u.1,v.1,w.1].Nodup) λ_=>TK ⟨[u.2,v.2,w.2],by
   refine ix f λj d a1 l=>?_;subst d;refine ix g λj d m o=>?_;subst d;obtain ⟨_,rfl,c1,r⟩:=q;exact .three a1 l m o c1 r⟩
 |_=>TW
noncomputable abbrev oS (C:Cx) (wm:Nm->Option V) (n:Nat):Type:=∀(te:TE) (a:Ub) (b:T3) (sc:Um) (p:Pos),Option {u:Nat×Nat//SV C wm te n (.Lambda a b sc p) (.lam u.1 u.2)}
section
variable (P:qF C wm) (hn:2<=n) (LH:oS C wm n) (T:Tr C wm n) (te:TE)
theorem Jd (st:St) (k:KE):Ev C wm n (.var i) TN st k->Ev C wm n (.var i) TO st (yu k):=by
 match st.ρ[i]? with
 |none=>exact id
 |some .u=>exact id
 |some (.v _)=>exact id
 |some (.ml _)=>exact id
 |some (.mb _)=>exact id
theorem bf (h:(!b)=TN):b=TO:=(SM b).mp h
theorem df {p:Prop} [Decidable p] (h:(!decide p)=TN):¬p:=of_decide_eq_false (bf h)
noncomputable def oe {c:Type}:Option c->Option c->Option c
 |some a,_=>TK a
 |none,b=>b
noncomputable def Je (x:Str) (p:Pos):Option {a:E//gY C wm te n (.Name x p) a}:=gd (!decide (x=O6 "__debug__")) λhd=>oe (wh (seek te.vars x) λi h=>TK ⟨.var i,.p P (Gc h (df hd)) Jd (λ_ _=>rfl) TL⟩)
  (gd (decide (seek te.names x=TK .globalImplicit)) λhg=>wh (te.gl x) λv b=>TK ⟨.lit v,.p P (B9 (TM hg) b (df hd)) (λ_ _ h=>h) (λ_ _=>rfl) TL⟩)
noncomputable def Jf:(e:Option T3)->Option {b:E//SO C wm te n e b}
 |none=>TK ⟨.lit .none,Ck⟩
 |some e=>sb (T.e te e) λa h=>TK ⟨a,Cl h.v⟩
noncomputable def LU (l:T3) (p:Pos):(i:List Vu)->(rs:List T3)->Option {k:E//gY C wm te n (.Compare l i rs p) k}
 |[op],[r]=>gd (!Uk op r) λh=>sb (T.e te l) λa ha=>sb (T.e te r) λb f=>TK ⟨.cmp op a b,.q TL (F5 P.O (bf h) ha.v f.v) (F6 P.O (bf h) ha.v f.v)⟩
 |[g,d],[r,u]=>gd (!Uk d u) λh=>sb (T.e te l) λa ha=>sb (T.e te r) λb f=>sb (T.e te u) λc j=>TK ⟨.kz g d a b c,.q TL (Cd P.O (bf h) ha.v f.v j.v) (Ce P.O (bf h) ha.v f.v j.v)⟩
 |_,_=>TW
noncomputable def Gf (x:T3) (p:Pos):(op:UnaryOp)->Option {b:E//gY C wm te n (.UnaryOp op x p) b}
 |.USub=>sb (T.e te x) λa ha=>TK ⟨.neg a,.p P (F7 P.O ha.v) (λ_ _ h=>h) (λ_ _=>rfl) TL⟩
 |.Not=>sb (T.e te x) λa ha=>TK ⟨.not a,.q TL (F8 P.O ha.v) (F9 ha.t)⟩
 |_=>TW
noncomputable def Jg (o:T3) (a:Str) (b:Pos) (args:List T3) (p:Pos):Option {d:E//gY C wm te n (.Call (.Attribute o a b) args [] p) d}:=gd (!gU o) λf=>gd (b.endLine==p.line) λg=>gd (decide (args.length<=25)) λi=>sb (T.e te o) λu j=>wh (f7 cV a) λm hm=>sb (T.l te args) λl c=>TK ⟨.a4 u m l,.p P (Cg P.O P.W (bf f) g (TM i) c.2 hm j.v (c.1 _)) (λ_ _ h=>h) (λ_ _=>rfl) TL⟩
noncomputable def GA (v:V):(g:E)->Option {u:Unit//g=.lit v}:=λg=>match g,v with
 |.lit (.bi .len),.bi .len=>TK ⟨(),TL⟩
 |.lit (.ty .bytearray),.ty .bytearray=>TK ⟨(),TL⟩
 |.lit (.ty .enumerate),.ty .enumerate=>TK ⟨(),TL⟩
 |_,_=>TW
theorem yR {i:Nat} {f:V->Bool->St->KE->Prop} (st:St) (k:KE) (h:∀v,f v TN st k->f v TO st (yu k)):(kf o λv=>f v TN st k)->kf o λv=>f v TO st (yu k):=by
 match o with
 |none=>exact id
 |some .u=>exact id
 |some (.v v)=>exact h v
 |some (.ml v)=>exact h _
 |some (.mb _)=>exact id
noncomputable def LV (f:T3) (p:Pos) (a:eC f=TO) (b:SV C wm te n f (.lit (.bi .len))):(args:List T3)->Option {c:E//gY C wm te n (.Call f args [] p) c}
 |[.Name x q]=>gd (!decide (x=O6 "__debug__")) λhd=>wh (seek te.vars x) λi d=>TK ⟨.oC i,.p P (Cj P.O P.Q a b d (df hd)) (λst k=>yR (i:=i) (f:=λv m st k=>∃n,m7 v=TK n/\fin m (.int n) st k) st k λ_ h=>h) (λ_ _=>rfl) TL⟩
 |_=>TW
noncomputable def Jh (f:T3) (args:List T3) (p:Pos):Option {c:E//gY C wm te n (.Call f args [] p) c}:=gd (!eC f) λa=>sb (T.e te f) λg hg=>oe (sb (GA (.bi .len) g) λ_ e=>LV P te f p (bf a) (e▸hg.v) args)
  (sb (T.l te args) λl b=>TK ⟨.call g l,.p P (Cf P.O hn (bf a) b.2 hg.v (b.1 _)) (λ_ _ h=>h) (λ_ _=>rfl) TL⟩)
noncomputable def Ji (args:List T3) (p:Pos):(f:T3)->(b:List Keyword)->Option {c:E//gY C wm te n (.Call f args b p) c}
 |.Attribute o a q,[]=>Jg P T te o a q args p
 |f,[]=>Jh P hn T te f args p
 |_,_::_=>TW
noncomputable def Jj (p:Pos) (j:Int) (a:Nat) (q:Pos):(o:T3)->Option {b:E//gY C wm te n (.Subscript o (.Constant (.int j) a q) p) b}
 |.Name x r=>gd (!decide (x=O6 "__debug__")) λhd=>wh (seek te.vars x) λi c=>TK ⟨.cw i j,.p P (Ci P.O P.Q c (df hd)) (λst k=>yR (i:=i) (f:=λv m st k=>vP v (.int j) st.g λr=>fin m r st k) st k λ_ h=>h) (λ_ _=>rfl) TL⟩
 |_=>TW
noncomputable def LW (o:T3) (p:Pos):(i:T3)->Option {f:E//gY C wm te n (.Subscript o i p) f}
 |.Slice lo g none q=>sb (T.e te o) λa ha=>sb (Jf T te lo) λb d=>sb (Jf T te g) λc k=>TK ⟨.pX a b c,.p P (Gd P.O P.Q ha.v d k) (λ_ _ h=>h) (λ_ _=>rfl) TL⟩
 |.Constant (.int j) l q=>oe (Jj P te p j l q o) (sb (T.e te o) λa ha=>TK ⟨.sub a (.lit (.int j)),.p P (yD P.O P.Q TL ha.v (qt TL)) (λ_ _ h=>h) (λ_ _=>rfl) TL⟩)
 |i=>gd (!lE i) λh=>sb (T.e te o) λa ha=>sb (T.e te i) λb d=>TK ⟨.sub a b,.p P (yD P.O P.Q (bf h) ha.v d.v) (λ_ _ h=>h) (λ_ _=>rfl) TL⟩
noncomputable def Ol:(b:List T3)->Option {d:E//fB C wm te n b d}
 |[]=>TK ⟨.lit (.bool TN),.inl ⟨TL,TL⟩⟩
 |[c]=>sb (T.e te c) λa h=>TK ⟨a,.inr (i12 c TL h.t)⟩
 |_=>TW
include P in
theorem v4 (c:dS te sc ts) (b:sO (a5 te sc ts) d ((numbered te.nv ts).map (·.2))) (a:gS iter=TO) (e:SV C wm te n iter k) (f:SV C wm (a5 te sc ts) n g l) (i:fB C wm (a5 te sc ts) n j m):gY C wm te n (.ListComp g [⟨d,iter,j,0⟩] sc pos) (.comp l ts.length k m):=⟨oR P.It c b a e f i,(oR P.It c b a e f i).test P.O (λ_ _ h=>h) (λ_ _=>rfl),λ_ _ _ _ o hr=>Cz P.It c b a e f i o hr⟩
noncomputable def Jk (a:T3) (sc:Um) (p:Pos):(g:List Comprehension)->Option {d:E//gY C wm te n (.ListComp a g sc p) d}
 |[⟨b,it,c,0⟩]=>gd (!gS it) λhs=>wh (yr b) λts _=>dp (yt te sc ts) λf=>sb (CG (a5 te sc ts) b) λis ht=>gd (decide (is=(numbered te.nv ts).map (·.2))) λe=>sb (T.e te it) λh i=>sb (T.e (a5 te sc ts) a) λj k=>sb (Ol T (a5 te sc ts) c) λl m=>TK ⟨.comp j ts.length h l,v4 P te f (TM e▸ht) (bf hs) i.v k.v m⟩
 |_=>TW
noncomputable def Jl:(e:T3)->Option {D:E//gY C wm te n e D}
 |.Constant c k p=>wh (yp c) λv h=>TK ⟨.lit v,.p P (qt h) (λ_ _ h=>h) (λ_ _=>rfl) TL⟩
 |.Name x p=>Je P te x p
 |.BoolOp op vs p=>sb (T.b te op vs) λa h=>TK ⟨a,.q TL (vR h) (vS h)⟩
 |.BinOp l op r p=>sb (T.e te l) λa ha=>sb (T.e te r) λb d=>TK ⟨.bin op a b,.p P (F4 P.O ha.v d.v) (λ_ _ h=>h) (λ_ _=>rfl) TL⟩
 |.UnaryOp op x p=>Gf P T te x p op
 |.IfExp t a b p=>sb (T.e te t) λu j=>sb (T.e te a) λa ha=>sb (T.e te b) λb d=>TK ⟨.ite u a b,.q TL (Ga j.t ha.v d.v) (Gb j.t ha.t d.t)⟩
 |.Compare l w rs p=>LU P T te l p w rs
 |.Tuple es k p=>gd (decide (es.length<=50)) λh=>sb (T.l te es) λl z=>TK ⟨.tup l,.p P (yw (TM h) (z.1 p)) (λ_ _ h=>h) (λ_ _=>rfl) TL⟩
 |.List es p=>gd (decide (es.length<=50)) λh=>sb (T.l te es) λl z=>TK ⟨.lst l,.p P (Ca (TM h) (z.1 p)) (λ_ _ h=>h) (λ_ _=>rfl) TL⟩
 |.Call f args H p=>Ji P hn T te args p f H
 |.Attribute o a p=>gd (!gU o) λh=>sb (T.e te o) λu j=>wh (f7 cV a) λm hm=>TK ⟨.attr u m,.p P (Ch P.W (bf h) hm j.v) (λ_ _ h=>h) (λ_ _=>rfl) TL⟩
 |.Subscript o i p=>LW P T te o p i
 |.ListComp B g sc p=>Jk P T te B sc p g
 |.Lambda a b sc p=>sb (LH te a b sc p) λu h=>TK ⟨.lam u.1 u.2,.p P h (λ_ _ h=>h) (λ_ _=>rfl) TL⟩
 |_=>TW
noncomputable def Jm:(es:List T3)->Option {c:E//(∀pos,SL C wm te n pos es c)/\es.any be=TO}
 |[]=>TK ⟨.nil,λ_=>sI,TL⟩
 |e::r=>gd (!be e) λh=>sb (T.e te e) λa ha=>sb (T.l te r) λl b=>TK ⟨.cons a l,λp=>oN (bf h) ha.v (b.1 p),Rb.mpr ⟨bf h,b.2⟩⟩
noncomputable def Jn (op:BoolOp):(es:List T3)->Option {d:E//Cb C wm te n op es d}
 |[]=>TW
 |[e]=>sb (T.e te e) λa ha=>TK ⟨a,IO ha.v ha.t⟩
 |e::f::r=>sb (T.e te e) λa ha=>sb (T.b te op (f::r)) λb c=>match op,c with
  |.And,c=>TK ⟨.and a b,IP P.O ha.v ha.t c⟩
  |.Or,c=>TK ⟨.or a b,Lu P.O ha.v ha.t c⟩
end
end
section
variable {C:Cx} {wm:Nm->Option V} {n:Nat}
section
variable (P:qF C wm) (hn:2<=n) (T:Tr C wm n) (te:TE)
noncomputable def LX (f:Pos):(e:T3)->Option {g:S//SS C wm te n (exec (.Expr e f)) g}
 |.Call (.Attribute (.Name x p) a q) [e] [] c=>wh (qr te x) λi b=>gd (q.endLine==c.line) λhp=>gd (!be e) λhs=>sb (T.e te e) λv d=>oe (gd (decide (a=O6 "append")) λha=>TK ⟨.app i v,Gx P.Mu (TM ha) hp (bf hs) (bX b).1 (bX b).2.2 d.v⟩)
    (gd (decide (a=O6 "extend")) λha=>TK ⟨.ext i v,Gy P.Mu (TM ha) hp (bf hs) (bX b).1 (bX b).2.2 d.v⟩)
 |_=>TW
noncomputable def Jo (x:Str) (q p:Pos) (i:Nat) (h:qr te x=TK i) (e:T3):Option {b:S//SS C wm te n (exec (.Assign [.Name x q] e p)) b}:=sb (T.e te e) λa ha=>TK ⟨.asg i a,ha.a x q p i (bX h).1 (bX h).2.1⟩
noncomputable def LY (x:Str) (q p:Pos) (i:Nat) (h:qr te x=TK i):(e:T3)->Option {a:S//SS C wm te n (exec (.Assign [.Name x q] e p)) a}
 |.List es lp=>gd (decide (es.length<=50)) λb=>sb (T.l te es) λl hs=>TK ⟨.oD i l,CB (TM b) (bX h).1 (bX h).2.1 (hs.1 lp)⟩
 |.Call f es [] lp=>oe (gd (!eC f) λc=>sb (T.e te f) λg hg=>sb (GA (.ty .bytearray) g) λ_ e=>sb (T.l te es) λl hs=>TK ⟨.vK i l,CC P.Mu (bf c) hs.2 (bX h).1 (bX h).2.1 (e▸hg.v) (hs.1 lp)⟩)
   (Jo T te x q p i h (.Call f es [] lp))
 |e=>Jo T te x q p i h e
noncomputable def ly (es:List T3) (k:Nat) (q p:Pos):(e:T3)->Option {b:S//SS C wm te n (exec (.Assign [.Tuple es k q] e p)) b}
 |.Call f as c r=>sb (CG te (.Tuple es k q)) λis ht=>sb (T.e te (.Call f as c r)) λa ha=>TK ⟨.ly is a,CA P.It (λ_=>rfl) (λ_=>rfl) ht ha.v⟩
 |_=>TW
noncomputable def qh (o:T3) (q p:Pos) (e:T3):(i:T3)->Option {c:S//SS C wm te n (exec (.Assign [.Subscript o i q] e p)) c}
 |.Constant (.int j) k r=>gd (!dR e) λd=>sb (T.e te o) λa ha=>sb (T.e te e) λb f=>TK ⟨.qh a (.lit (.int j)) b,CF P.Mu (bf d) ha.v f.v⟩
 |_=>TW
noncomputable def LZ (e:T3) (p:Pos):(t:T3)->Option {b:S//SS C wm te n (exec (.Assign [t] e p)) b}
 |.Name x q=>wh (qr te x) λi h=>LY P T te x q p i h e
 |.Tuple es k q=>ly P T te es k q p e
 |.Attribute o a q=>gd (!dR e) λc=>gd (decide (f7 cV a=TK .at_)) λhm=>sb (T.e te o) λu d=>sb (T.e te e) λv f=>TK ⟨.kA u .at_ v,CE P.Mu (bf c) (TM hm) d.v f.v⟩
 |.Subscript o i q=>qh P T te o q p e i
 |_=>TW
noncomputable def Jp (t it:T3) (b:List UJ) (p:Pos):Option {d:S//SS C wm te n (exec (.For t it b [] p)) d}:=gd (!gS it) λhs=>sb (CG te t) λis ht=>sb (T.e te it) λa ha=>sb (T.ss te b) λc f=>TK ⟨.vL is a c,Gq P.It (bf hs) ht ha.v f⟩
noncomputable def L0 (t:T3) (b:List UJ) (p:Pos):(it:T3)->Option {d:S//SS C wm te n (exec (.For t it b [] p)) d}
 |.Call f [e] [] q=>oe (gd (!eC f) λi=>gd (!be e) λhs=>gd (isTup t) λht=>sb (T.e te f) λg hg=>sb (GA (.ty .enumerate) g) λ_ h=>sb (CG te t) λis j=>sb (T.e te e) λa ha=>sb (T.ss te b) λc k=>TK ⟨.xW is a c,Cw P.It (bf i) (bf hs) ht j (h▸hg.v) ha.v k⟩) (Jp P T te t (.Call f [e] [] q) b p)
 |it=>Jp P T te t it b p
noncomputable def Jq:(s:UJ)->Option {f:S//SS C wm te n (exec s) f}
 |.Pass _=>TK ⟨.skip,Ct⟩
 |.Continue _=>TK ⟨.cont,Cu⟩
 |.Raise ..=>TK ⟨.raise,yN⟩
 |.Return none _=>TK ⟨.xX,Cv⟩
 |.Return (some e) _=>sb (T.e te e) λa ha=>TK ⟨.ret a,Gl ha.v⟩
 |.Expr e p=>oe (LX P T te p e) (gd (oM e) λg=>sb (T.e te e) λa ha=>TK ⟨.expr a,Cy g ha.v⟩)
 |.Assign [t] e p=>LZ P T te e p t
 |.AugAssign (.Name x q) op e p=>wh (qr te x) λi h=>sb (T.e te e) λa ha=>TK ⟨.aug i op a,Gu P.O (bX h).1 (bX h).2.1 ha.v⟩
 |.If t a b _=>sb (T.e te t) λu d=>sb (T.ss te a) λv c=>sb (T.ss te b) λw j=>TK ⟨.ite u v w,I3 d.t c j⟩
 |.While t b [] _=>sb (T.e te t) λu d=>sb (T.ss te b) λv c=>TK ⟨.FT u v,yO d.t c⟩
 |.For t it b [] p=>L0 P T te t b p it
 |.Try b hs [] [] _=>sb (T.ss te b) λv c=>TK ⟨.xY v,Gr c⟩
 |_=>TW
noncomputable def GB:(ss:List UJ)->Option {c:S//SS C wm te n (execs ss) c}
 |[]=>TK ⟨.skip,Gm⟩
 |[s]=>sb (T.s te s) λa ha=>TK ⟨a,Go ha⟩
 |s::s'::r=>sb (T.s te s) λa ha=>sb (T.ss te (s'::r)) λb d=>TK ⟨.seq a b,Gn ha d⟩
end
noncomputable def tr (P:qF C wm) (hn:2<=n) (a:oS C wm n):Nat->Tr C wm n
 |0=>⟨λ_ _=>TW,λ_ _=>TW,λ_ _ _=>TW,λ_ _=>TW,λ_ _=>TW⟩
 |k+1=>⟨Jl P hn a (tr P hn a k),Jm (tr P hn a k),Jn P (tr P hn a k),Jq P (tr P hn a k),GB (tr P hn a k)⟩
noncomputable def Jr {p:S->Prop}:Option {b:S//p b}->Option S
 |some ⟨a,_⟩=>TK a
 |none=>TW
theorem Js {p:S->Prop} {o:Option {b:S//p b}} (h:Jr o=TK b):p b:=by
 match o with
 |some ⟨a,q⟩=>exact le h▸q
 |none=>exact aZ h
variable {F:Fm} {y y':Dy} {st st':St} {s s':TP} {te:TE} {A:T0}
structure EY (g' g:G):Prop where
 src:g'.src=g.src\/g'.src=TW
 wire:g'.wire=g.wire\/g'.wire=TW
theorem EY.refl (g:G):EY g g:=⟨.inl TL,.inl TL⟩
theorem jp {c:Type} {a b:Option c} {r:c} (h:a=b\/a=TW) (e:a=TK r):b=TK r:=h.elim (λq=>q▸e) λq=>aZ (q▸e)
theorem cU.less {h:Ut} {g g':G} (R:cU C X h g) (l:EY g' g):cU C X h g' where
 src:=λr e=>R.src r (jp l.src e)
 wire:=λr e=>R.wire r (jp l.wire e)
 apart:=λr w b f=>R.apart r w (jp l.src b) (jp l.wire f)
 tabs:=R.tabs
 lD:=λr e=>R.lD r (jp l.wire e)
theorem v5 {kindOf:Str->Option Uj}:∀{a:List (Str×TT)} {m:Str->Option TT} {x:Str},x∉a.map (·.1)->bindL kindOf a m x=m x:=by
 intro b;induction b with
 |nil=>intro m x d;exact TL
 |cons x0 r c=>
  intro m x h;obtain ⟨z,v⟩:=x0;refine aa (c λq=>h (.tail _ q)) ?_;by_cases k:kindOf z=TK .local
  ·refine aa (TY k ..) ?_;exact TZ λ(e:x=z)=>h (e▸.head _)
  ·exact aa (TZ k ..) TL
theorem v6 {kindOf:Str->Option Uj}:∀{a:List (Str×TT)} {m:Str->Option TT} {x:Str},x∉a.map (·.1)->bindC kindOf a m x=m x:=by
 intro b;induction b with
 |nil=>intro m x d;exact TL
 |cons x0 r c=>
  intro m x h;obtain ⟨z,v⟩:=x0;refine aa (c λq=>h (.tail _ q)) ?_;by_cases k:kindOf z=TK .local
  ·exact aa (TY k ..) TL
  ·refine aa (TZ k ..) ?_;exact TZ λ(e:x=z)=>h (e▸.head _)
theorem nI {kindOf:Str->Option Uj}:∀{a:List (Str×TT)} {m:Str->Option TT} {x:Str} {v:TT},(a.map (·.1)).Nodup->(x,v)∈a->kindOf x=TK .local->bindL kindOf a m x=TK v:=by
 intro c;induction c with
 |nil=>intro f g i j h l;exact TU h Pn
 |cons x0 r d=>
  intro m x v b h k;obtain ⟨z,u⟩:=x0;refine PA (Pf.mp h) (λe=>?_) λh=>?_
  ·cases e;refine aa (v5 (PX.mp b).1 ..) (aa (TY k ..) ?_);exact TY TL
  ·exact d (PX.mp b).2 h k
theorem v7 {kindOf:Str->Option Uj}:∀{a:List (Str×TT)} {m:Str->Option TT} {x:Str} {v:TT},(a.map (·.1)).Nodup->(x,v)∈a->kindOf x≠TK .local->bindC kindOf a m x=TK v:=by
 intro c;induction c with
 |nil=>intro f g i j h l;exact TU h Pn
 |cons x0 r d=>
  intro m x v b h k;obtain ⟨z,u⟩:=x0;refine PA (Pf.mp h) (λe=>?_) λh=>?_
  ·cases e;refine aa (v6 (PX.mp b).1 ..) (aa (TZ k ..) ?_);exact TY TL
  ·exact d (PX.mp b).2 h k
theorem m9:∀{names:List (Str×Uj)} {n:Nat} {acc:List (Str×T2)} {x:Str},(acc.lookup x).isSome=TN->((UT n names acc).lookup x).isSome=TN:=by
 intro b;induction b with
 |nil=>intro c d f h;exact h
 |cons x0 r a=>
  intro n acc x h;obtain ⟨z,k⟩:=x0;unfold UT;by_cases e:(k==.cell)=TN
  ·refine aa (TY e ..) (a ?_);refine aa (P3 ..) ?_;by_cases q:x=z
   ·subst q;refine aa (beq_self_eq_true ..) ?_;rfl
   ·refine aa (beq_false_of_ne q ..) ?_;exact h
  ·refine aa (TZ e ..) ?_;exact a h
theorem fH:∀{names:List (Str×Uj)} {n:Nat} {acc:List (Str×T2)} {x:Str},(x,QV)∈names->((UT n names acc).lookup x).isSome=TN:=by
 intro b;induction b with
 |nil=>intro c d f h;exact TU h Pn
 |cons x0 r a=>
  intro n acc x h;obtain ⟨z,k⟩:=x0;unfold UT;refine PA (Pf.mp h) (λe=>?_) λh=>?_
  ·cases e;refine aa (TY (beq_self_eq_true _) ..) ?_;exact m9 (by refine aa (P3 ..) (aa (beq_self_eq_true ..) ?_);rfl)
  ·by_cases e:(k==.cell)=TN
   ·refine aa (TY e ..) ?_;exact a h
   ·refine aa (TZ e ..) ?_;exact a h
theorem oT:∀{names:List (Str×Uj)} {n:Nat} {acc:List (Str×T2)},(names.map (·.1)).Nodup->(acc.map (·.1)).Nodup->(∀x∈names.map (·.1),x∉acc.map (·.1))->((UT n names acc).map (·.1)).Nodup:=by
 intro c;induction c with
 |nil=>intro g i j h l;exact h
 |cons x0 r a=>
  intro n acc f h d;obtain ⟨z,k⟩:=x0;refine aM (PX.mp f) λn1 b=>?_;unfold UT;by_cases e:(k==.cell)=TN
  ·exact aa (TY e ..) (a b (PX.mpr ⟨d z (.head _),h⟩) λx m q=>(Pf.mp q).elim (λe=>n1 (e▸m)) (d x (.tail _ m)))
  ·refine aa (TZ e ..) ?_;exact a b h λx m=>d x (.tail _ m)
theorem nJ {a:Type}:∀{l:List (Str×a)} {x:Str} {c:a},(l.map (·.1)).Nodup->(x,c)∈l->l.lookup x=TK c:=by
 intro b;induction b with
 |nil=>intro j k m h;exact TU h Pn
 |cons x0 r f=>
  intro x c g h;obtain ⟨z,d⟩:=x0;refine aM (PX.mp g) λn1 i=>aa (P3 ..) ?_;rcases Pf.mp h with e|h
  ·cases e;exact aa (beq_self_eq_true ..) TL
  ·refine aa (beq_false_of_ne λ(e:x=z)=>n1 (e▸PI.mpr (i12 _ h TL))) ?_;exact f i h
noncomputable def v8 (gl:Str->Option V) (names:List (Str×Uj)) (ps ls fz:List Str) (lm:Option Nat):TE:={names:=names,vars:=numbered 0 (ps++ls),nv:=(ps++ls).length,gl:=gl,lm:=lm,ro:=fz}
structure sR (names:List (Str×Uj)) (ts:List Str):Prop where
 kinds:∀x∈ts,seek names x=TK .local\/seek names x=TK .cell
 at_:∀p∈numbered 0 ts,p.2<ts.length/\ts[p.2]?=TK p.1/\(p.1==("__classdict__":Str))=TO
 Lq:((numbered 0 ts).map (·.1)).Nodup
 Lr:((numbered 0 ts).map (·.2)).Nodup
structure oU (C:Cx) (a:T2) (fd:U1) (body:List UJ) (ps ls fz:List Str) (lm:Option Nat) (k:Nat) (ds:List TT) (gG:List V):Prop where
 ho:∃o,C.K.lookup a=TK o/\o.data=.func fd
 keep:keepIn C.K (.ref a)=TN
 EZ:fd.body=.stmts body
 Jt:fd.closure=[]
 GC:fd.globals=T5
 GD:fd.builtins=Un
 Ia:fd.scope.isCoroutine=TO
 vI:fd.scope.isGenerator=TO
 gq:fd.scope.kind=.function
 code:∃cd oc vs t,fd.code=.ref cd/\C.K.lookup cd=TK oc/\oc.data=.fields vs/\vs[1]?=TK (.str fd.qualname t)
 bind:∀vs:List TT,vs.length=k->∀S,peek C.K S (Vc fd ⟨vs,[]⟩)=TK (ps.zip (vs++ds))
 E0:ps.length=k+ds.length
 names:(fd.scope.names.map (·.1)).Nodup
 KP:ps.Nodup
 vars:sR fd.scope.names (ps++ls)
 Ju:∀X h,aP C X h ds gG
 GE:∀j,lm=TK j->O6 "wire"∈fz/\(O6 "wire",QV)∈fd.scope.names/\∃l,C.tabs[j]?=TK l/\fd.code=.ref l.cd/\(fd.qualname++".<locals>.")++"<lambda>"=l.q
noncomputable def bQ (xs:List V) (m:Nat):List Slot:=xs.map .v++PF m .u
theorem sS {m i:Nat} (h:(bQ xs m)[i]?=TK sl):sl=.u\/∃w,xs[i]?=TK w/\sl=.v w:=by
 unfold bQ at h;by_cases lt:i<(xs.map Slot.v).length
 ·rw [Ra lt,PM] at h;exact mO h λw e q=>.inr ⟨w,e,q.symm⟩
 ·rw [QD (Pt.mp lt),S2] at h;exact iO h λa h=>.inl (le h).symm
theorem zip_get {c d:Type}:∀{l:List c} {m:List d} {i:Nat} {a:c} {b:d},l[i]?=TK a->m[i]?=TK b->(a,b)∈l.zip m
 |_::_,_::_,0,_,_,h,k=>by obtain rfl:=le h;obtain rfl:=le k;exact .head _
 |_::_,_::_,i+1,_,_,h,k=>.tail _ (zip_get h k)
 |[],_,i,_,_,h,_=>aZ h
 |_::_,[],i,_,_,_,k=>aZ k
noncomputable def bY (C:Cx) (env:Env) (vars:List (Str×Nat)) (fz:List Str) (X:AP) (g:G) (hr:Ut):Fm where
 env:=env
 vars:=vars
 X:=X
 W:=λb=>g.fM b\/C.tab b
 P:=λb=>b<hr.objs.size
 hr:=hr
 cl:=(env.cells.filter λp=>!fz.contains p.1).map (·.2)
 fz:=λc=>∃x∈fz,env.cells.lookup x=TK c
theorem mem_lookup {a:Type} {l:List (Str×a)} {c:a} (h:l.lookup x=TK c):(x,c)∈l:=mem_of_lookup h
theorem qH (a:cU C X h g) (p:g.fM b):X b:=by
 rcases p with ⟨r,e,rfl⟩|⟨r,e,rfl⟩
 ·exact (a.src r e).1
 ·exact (a.wire r e).1
structure km (C:Cx) (env:Env) (names:List (Str×Uj)) (ps ls fz:List Str) (lm:Option Nat):Prop where
 sc:env.scope.names=names
 kind:env.scope.kind=.function
 iL:env.globals=T5
 blt:env.builtins=Un
 Nf:(names.map (·.1)).Nodup
 KP:ps.Nodup
 vars:sR names (ps++ls)
 cells:env.cells=UT (env.locals+1) names []
 GE:∀j,lm=TK j->O6 "wire"∈fz/\(O6 "wire",QV)∈names/\∃l,C.tabs[j]?=TK l/\env.code=.ref l.cd/\env.qual++"<lambda>"=l.q
section
variable {X:AP} {g:G} {env:Env} {ps ls fz:List Str} {lm:Option Nat} {vs:List TT} {xs:List V} {names:List (Str×Uj)}
theorem km.kindOf (a:km C env names ps ls fz lm) (h:seek names x=TK k):env.kindOf x=TK k:=by (rw [SJ];refine aa (a.sc ..) ?_);exact bc h
theorem km.cellOf (a:km C env names ps ls fz lm) (h:(x,QV)∈names):∃c,env.cells.lookup x=TK c:=PQ.mp (a.cells▸fH h)
theorem km.qI (f:km C env names ps ls fz lm):c∈(bY C env (numbered 0 (ps++ls)) fz X g hr).cl↔∃z,(z,c)∈env.cells/\z∉fz:=by simp only [bY,PI,Sh,SM,List.contains_eq_mem,decide_eq_false_iff_not];exact ⟨λ⟨p,d,e⟩=>(i12 p.1 (e▸d.1) d.2),λ⟨z,a,b⟩=>(i12 (z,c) ⟨a,b⟩ TL)⟩
theorem FS.enter (f:km C env names ps ls fz lm) (ok:c9 C X s) (N:cU C X s.heap g) (rv:aP C X s.heap vs xs) (T:ps.length=vs.length) (x:InCallC s env.locals (bindL env.kindOf (ps.zip vs) λ_=>TW) env.cells (bindC env.kindOf (ps.zip vs) λ_=>TW) s'):
  FS C (bY C env (numbered 0 (ps++ls)) fz X g s.heap) ⟨[],[]⟩ ⟨bQ xs ls.length,g⟩ s'/\cj (v8 C.glob names ps ls fz lm) (bY C env (numbered 0 (ps++ls)) fz X g s.heap) C:=by
 refine xK x.toInCall.same λh' tk O=>?_;subst O;have keep:=x.toInCall.keep;have fresh:=x.toInCall.fresh;have hL:env.locals<h'.objs.size:=x.toInCall.ns.lt;have size:s.heap.objs.size<=h'.objs.size:=O5 fresh (Pw hL);have H:∀{z c},(z,c)∈env.cells->env.locals<c:=λm=>x.above _ _ m;have inj:∀{z z' c},(z,c)∈env.cells->(z',c)∈env.cells->z=z':=λa b=>name_of_addr x.apart a b;have J:∀{b},b∈own (bY C env (numbered 0 (ps++ls)) fz X g s.heap) ⟨[],[]⟩->b=env.locals\/∃z,(z,b)∈env.cells/\z∉fz:=λ{b} m=>(Pf.mp m).imp id λm=>f.qI.mp ((PE.mp m).resolve_right Pn);have B:∀{b},b∈own (bY C env (numbered 0 (ps++ls)) fz X g s.heap) ⟨[],[]⟩->s.heap.objs.size<=b:=λm=>O5 fresh ((J m).elim (λe=>O9 e.symm) λ⟨_,a,_⟩=>Pw (H a));have U:∀b,b<s.heap.objs.size->(bY C env (numbered 0 (ps++ls)) fz X g s.heap).Z ⟨[],[]⟩ b->X b:=λb lt z=>z.elim id λm=>TU lt (Pt.mpr (B m));have Y:∀b,(g.fM b\/C.tab b)->X b:=λb w=>w.elim (qH N) (ok.xt b);have cX:∀{z c},(z,c)∈env.cells->¬X c:=λm h=>Pt.mpr (O5 fresh (Pw (H m))) (ok.xb _ h).1;have Q:∀{z i},(z,i)∈numbered 0 (ps++ls)->env.kindOf z=TK .local\/(env.kindOf z=TK .cell/\∃c,env.cells.lookup z=TK c):=λm=>(f.vars.kinds _ (RA (f.vars.at_ _ m).2.1)).imp f.kindOf λh=>⟨f.kindOf h,f.cellOf (bg h)⟩;have L:((ps.zip vs).map (·.1)).Nodup:=by refine aa (List.map_fst_zip (O9 T) ..) ?_;exact f.KP
 refine ⟨{
   base:=ok.base.keep (λb o _ e=>keep b o e) size
   gens:=ok.gens
   drawn:=ok.drawn
   os:=ok.os
   keep:=λb o p w e=>keep b o e
   jh:=λb p=>Pj p size
   c8:=λb m p=>Pt.mpr (B m) p
   ec:=λb m=>(dQ ((J m).elim (λe=>e▸hL) λ⟨z,a,_⟩=>(x.cell z b (nJ (f.cells▸oT f.Nf .nil λx _=>Pn:(env.cells.map (·.1)).Nodup) a)).lt) (O5 ok.base.lt (B m)) (λz=>Pt.mpr (B m) (ok.xb b z).1))
   iy:=PX.mpr ⟨λm=>(f.qI.mp ((PE.mp m).resolve_right Pn)).elim λz a=>PG _ (H a.1),(Pk _).symm▸List.pairwise_map.mpr (x.apart.filter λp=>!fz.contains p.1)⟩
   xb:=λb z=>⟨Pj (ok.xb b z).1 size,(ok.xb b z).2⟩
   wx:=Y
   ee:=λb t=>.inr t
   kind:=f.kind
   iL:=f.iL
   blt:=f.blt
   locs:=⟨_,x.toInCall.ns⟩
   bJ:=N.move (λb o _ e=>keep b o e) U (λb p=>.inl (qH N p))
   dn:=λb p=>.inl (.inl p)
   dg:=.nil
   pY:=f.vars.Lq
   nA:=f.vars.Lr
   kinds:=λz i m=>(Q m).imp id λ⟨k,c,l⟩=>(⟨(.inl k),(gF c _ l (x.cell z c l) (RH (H (mem_lookup l))))⟩)
   cells:=λz i c m k l=>by
    by_cases M:z∈fz
    ·refine .inr (dQ (λm'=>?_) (λw=>cX (mem_lookup l) (Y c w)) (λ_=>cX (mem_lookup l)));exact (J m').elim (λe=>PG _ (e▸H (mem_lookup l))) λ⟨z',a,R⟩=>R (inj (mem_lookup l) a▸M)
    ·exact .inl (f.qI.mpr (i12 z (mem_lookup l) M))
   f6:=λz z' c a b=>inj (mem_lookup a) (mem_lookup b)
   vars:=λz i m sl e=>(sS e).imp id λ⟨w,hw,h⟩=>by
    subst h;refine aT (rv.get hw) λv hv r=>?_;have M:(z,v)∈ps.zip vs:=zip_get ((Ra (T▸(PP.mp hv).1:i<ps.length)).symm.trans (f.vars.at_ _ m).2.1) hv;refine (i12 v ?_ (Rep.move (λb o _ e=>keep b o e) U r));refine PA (Q m) (λh=>?_) λD=>aM D λh D=>cR D λc l=>?_
    ·exact .inl (⟨h,(i12 _ x.toInCall.ns (nI L M h))⟩)
    ·have:=x.cell z c l;rw [v7 L M λq=>R9 (le (h.symm.trans q))] at this;exact .inr (⟨(.inl h),(i12 c l this)⟩)},{
   vars:=TL
   iL:=λz h=>f.kindOf h
   gl:=TL
   lt:=λz i m=>(f.vars.at_ _ m).1
   uk:=λz i m=>(f.vars.at_ _ m).2.2
   lm:=λj h=>by
    refine fE (f.GE j h) λa b D=>ix D λl c d e=>cR (f.cellOf b) λcc lk=>(⟨(FL cc lk (i12 _ a lk) (λm=>?_) ?_),(eK l c d e)⟩)
    ·exact aT (f.qI.mp m) λz' q R=>R (inj (mem_lookup lk) q▸a)
    ·show env.kindOf _=_
     (rw [SJ];refine aa (f.sc ..) ?_);exact nJ f.Nf b
   names:=λz k h=>.inl (f.kindOf h)
   set:=λz i c m hr k l=>by
    refine PA (Q m) (λh=>?_) λD=>aM D λh z9=>?_
    ·exact dh h k
    ·exact ⟨h,f.qI.mpr (i12 z (mem_lookup l) hr)⟩}⟩
end
theorem ce.deeper (a:ce (n+1) A) (env:Env):ce n (A.deeper env):=⟨a.h,by refine aa (Q7 ..) (aa (Qr 1 ..) ?_);exact a.d,Pb (by refine aa (Q7 ..) (aa (Nat.mul_succ ..) (aa (Qr 3 ..) ?_));exact Pe (Pe (by decide) _) _) a.u⟩
inductive CH (r:V) (g':G) (fl:Fl) (st:St):Prop
 |ret (e:fl=.ret r) (l:EY g' st.g)
 |next (e:fl=.next) (n:r=.none) (l:EY g' st.g)
noncomputable def yS:Va->TT
 |.ret v=>v
 |_=>.none
theorem nK {env:Env} {vars:List (Str×Nat)} {fz:List Str} {X:AP} {g g':G} {nv:Nat} {f:Va} {r:V} {Q:TT->TP->Prop} (ok:c9 C X s) (m:cU C X s.heap g) (hp:∀a,g'.fM a->g.fM a) (p:iB C (bY C env vars fz X g s.heap) nv (CH r g') f s') (h:∀v s',Callee C g s s'->cU C X s'.heap g'->Rep C X s'.heap v r->Q v s'):Q (yS f) s':=by
 refine ac λk=>?_;obtain ⟨w,st',y',q,d,j,x⟩:=p;refine k ?_;clear k;have t:s.heap.objs.size<=s'.heap.objs.size:=Pt.mp λlt=>PG _ (d.jh s'.heap.objs.size lt);have c:Callee C g s s':=⟨λb o u e=>d.keep b o (Py e) u e,t,d.gens.trans ok.gens.symm,d.drawn.trans ok.drawn.symm,d.os.trans ok.os.symm⟩;have i:∀l:EY g' st'.g,cU C X s'.heap g':=λl=>(d.bJ.less l).move (λb o _ e=>e) (λb _ z=>.inl z) (λb p=>qH m (hp b p));cases q with
 |ret e l=>subst e;obtain ⟨v,rfl,j⟩:=j;exact h _ _ c (i l) (j.move (λb o _ e=>e) λb _ z=>.inl z)
 |next e n l=>subst e n;obtain rfl:f=_:=j;exact h _ _ c (i l) .none
theorem qJ (fn:oU C a l body ps ls fz lm k ds gG) {H:S} {r:V} (hs:SS C wm (v8 C.glob l.scope.names ps ls fz lm) n (execs body) H) (c:args.length=k) (hp:∀a,g'.fM a->g.fM a) (q:Ie C wm n H ⟨bQ (args++gG) ls.length,g⟩ (CH r g')):cy C (n+1) (.ref a) args g r g':=by
 refine ⟨⟨hp,λX h u B w=>?_⟩,λA X s u vs Q E J ok L w M T=>?_⟩
 ·obtain rfl:u=_:=w;exact keeps_K fn.keep h B.K
 ·obtain rfl:u=_:=w;refine ac λU=>aT fn.ho λo W b=>FK fn.code λcd N D t Y Z e3 e4=>U ?_;have O:=M.length.trans c;refine eL (cL (Pb (PV _ _) (Pj J.d (by decide))) (ok.base.K a o W) b fn.Ia fn.vI ((KC cd N D t Y (ok.base.K cd N Z) e3 e4)) ?_);refine up (kp_binds ok.base.K (fn.bind vs O) _ _ _ _ ?_);refine aa (fn.Jt ..) ?_;have e:ps.length=(vs++ds).length:=by refine aa (g3 ..) (aa (O ..) ?_);exact fn.E0
  refine cT fn.gq (λx m=>?_) λenv he P x=>?_
  ·obtain ⟨z,v⟩:=x;exact (fn.vars.kinds z (PE.mpr (.inl (List.of_mem_zip m).1))).imp bc λh=>⟨bc h,fH (bg h)⟩
  ·have i:=(fn.Ju X s.heap).app M;refine aM (FS.enter (by subst he;exact ⟨TL,fn.gq,fn.GC,fn.GD,fn.names,fn.KP,fn.vars,TL,fn.GE⟩:km C env l.scope.names ps ls fz lm) ok L i e x) λj fo=>?_;refine ⟨ok.base.nolimit.keeps x.toInCall.keep,?_⟩;unfold codeOf;refine aa (fn.EZ ..) (lw ?_);have l0:(bQ (args++gG) ls.length).length=(v8 C.glob l.scope.names ps ls fz lm).nv:=by
    (rw [bQ];refine aa (g3 ..) (aa (Pd ..) (aa (List.length_replicate ..) (bx (i.length ..) (bx (e ..) ?_)))))
    exact g3.symm
   refine ar (hs (A.deeper env) _ _ _ _ _ (J.deeper env) fo j l0 q) (λf R p=>?_) λ_ _ x=>x.elim;have:=nK ok L hp p T;cases f<;>exact this
structure oV (C:Cx):Prop where
 head:∀{h l},Base C h->l∈C.tabs->CodeHd h l.cd l.T/\h.BuiltinsAt C.mg l.T
theorem cU.lam {Z:AP} {h H:Ut} {g:G} {l:vJ} (R:cU C Z h g) (x:Z l.T) (p:h.get? l.T=TK ({cls:=.none,data:=.fields #[]}:Obj)) (up:∀b o,b≠l.T->h.get? b=TK o->H.get? b=TK o) (j:∀f∈C.tabs,f.T=l.T->f=l) (ht:∃vs,H.get? l.T=TK ({cls:=.none,data:=.fields vs}:Obj)/\(vs=#[]\/∃c,vs=#[U5 l.line,U5 l.col,.ref c]/\H.CodeRec (.ref c) l.q/\¬Z c)):cU C Z H g:=by
 have k:∀b,¬Z b->b≠l.T:=λb n e=>n (e▸x);exact {
  src:=λr e=>fE (R.src r e) λz m h=>xL h λcv t n a q=>⟨z,m,cv,t,n,up _ _ (λe=>by rw [e,p] at a;cases a) a,q.move (λb o nb=>up b o (k b nb)) λ_ _ y=>y⟩
  wire:=λr e=>ou (R.wire r e) λz i m a h=>EF h λh1 k1 t1 h2 k2 t2 n b=>⟨z,i,m,up _ _ (k _ i) a,h1,k1,t1,h2,k2,t2,n,up _ _ (λe=>by rw [e,p] at b;cases b) b⟩
  apart:=R.apart
  lD:=R.lD
  tabs:=λf u=>by
   by_cases e:f.T=l.T
   ·exact j f u e▸ht
   ·exact aT (R.tabs f u) λvs g q=>⟨vs,up _ _ e g,q.imp id λh=>ix h λc e r v=>⟨c,e,r.at λo e=>up _ o (k _ v) e,v⟩⟩}
theorem GF (L:oV C) {body:T3} {sc:Um} {pos:Pos} {j i:Nat} (hj:te.lm=TK j) (hi:seek te.vars (O6 "wire")=TK i) (hl:∀l,C.tabs[j]?=TK l->l.params=params/\l.body=body/\l.scope=sc/\l.line=pos.line/\l.col=pos.col) (W:∀env,defaultsOf params env=([],[])) (u:∀(env:Env) c,env.cells.lookup (O6 "wire")=TK c->VD sc env=pure [(O6 "wire",c)]):SV C wm te n (.Lambda params body sc pos) (.lam j i):=by
 intro A F y st s k ao fo f ln he;refine ac λM=>aM (fo.lm j hj) λLT LS=>ix LS λl H x hq=>ub LT λc lc Om On hk=>ou (hl l H) λIL L1 Oo e4 e5=>?_;subst IL;subst L1;subst Oo;have hm:=fo.vars▸bg hi;have lm:l∈C.tabs:=RA H;refine aM (L.head f.base lm) λhd bi=>?_;obtain ⟨w,hw,e,hK⟩:=he;refine aT (f.at hm e Slot.noConfusion) λv hv r=>?_;obtain rfl:v=_:=r;have B:s.heap.IsCell c (TK (.ref w.a)):=by
  rcases hv with ⟨k',_⟩|⟨_,N,l',q⟩
  ·exact dh k' (.inl hk)
  ·exact le (l'.symm.trans lc)▸q
 have P:¬F.Z y c:=by exact fE ((f.cells _ i c hm (.inl hk) lc).resolve_left On) λX h2 h3=>λz=>z.elim (h3 Om) X
 have zT:F.Z y l.T:=.inl (f.wx _ (f.ee _ ⟨l,lm,TL⟩));have J:=λb z=>(f.dE.xb b z).1;refine aT (f.bJ.tabs l lm) λvs gT Op=>M ?_;clear M;refine up (kla_eval (W _) ?_);rcases Op with rfl|⟨N,rfl,h,Y⟩
 ·refine kla_makeFunction (ps:=#[]) (u _ c lc) f.iL f.base.g x hd gT trivial TL (λe=>f.base.ok.m1 (e▸.inr ⟨l,lm,TL⟩)) bi λN D h' tk hx X h2 h Oq=>?_;rw [hq] at h⊢;have sz:=O5 X (Pw h2);generalize hO:kla_obj _ l.q l.params l.body l.scope [(O6 "wire",c)] _ N D=O;have up:∀b o,b≠l.T->s.heap.get? b=TK o->(h'.push O).get? b=TK o:=λb o ne e=>Pq _ (hx b o ne e);have nz:∀b,¬F.Z y b->b≠l.T:=λb n e=>n (e▸zT);have gr:=f.bJ.lam zT gT up (λl' m' e=>f.base.ok.tabs l' m' l lm e) ⟨_,Pq _ Oq,.inr ⟨N,by refine aa (e4 ..) (aa (e5 ..) ?_);rfl,h.push _,λz=>Pt.mpr X (J _ z)⟩⟩;have f':=f.callee (s':={s with heap:=h'.push O,toks:=tk}) (g':=st.g) (λb o np e=>up b o (λe=>np (.inr ⟨l,lm,e.symm⟩)) e) (by refine aa (P0 ..) ?_;exact Rc sz) TL TL TL gr λ_ p=>p;refine ac λM=>FK h λc₂ oc vs t e2 Q R U=>M ?_;clear M;cases e2;refine post_of (st':=st) f' hK ⟨_,_,c,N,_,_,_,TL,(Pz h' (by refine bx (hO ..) ?_;rfl)).trans (TQ TK hO.symm),λz=>Pt.mpr sz (J _ z),⟨l,D,H,TL⟩,?_,P,Pq _ Q,R,U,λz=>Pt.mpr X (J _ z)⟩ (λ_ m=>m) ln;exact aT B λo go d=>⟨o,up _ _ (λe=>P (e▸zT):c≠l.T) go,d⟩
 ·refine kla_makeFunctionHit (cv:=.ref N) (u _ c lc) f.iL f.base.g x hd gT trivial (by refine aa (e4 ..) (aa (e5 ..) ?_);simp [codeAmong,U5]) bi λD h' tk Os hsz=>?_;refine aa (hq ..) ?_;generalize hO:({cls:=.type "function",data:=.func (kla_fn _ l.q l.params l.body l.scope [(O6 "wire",c)] _ (.ref N) D)}:Obj)=O;have g:a9 s {s with heap:=h'.push O,toks:=tk}:=⟨⟨_,_,TL⟩,λb o e=>Pq _ (Os b o e),by refine aa (P0 ..) ?_;exact Rc hsz⟩;refine ac λM=>FK h λc₂ oc vs t e2 Q R U=>M ?_;clear M;cases e2;exact post_of (f.grow g) hK ⟨_,_,c,N,_,_,_,TL,(Pz h' (by refine bx (hO ..) ?_;rfl)).trans (TQ TK hO.symm),λz=>Pt.mpr hsz (J _ z),⟨l,D,H,TL⟩,B.keeps λb o e=>g.keep b o e,P,g.keep _ _ Q,R,U,Y⟩ (λ_ m=>m) ln
noncomputable def ur (gl:Str->Option V) (sc:Um):TE:={names:=sc.names,vars:=[(O6 "wire",0)],nv:=1,gl:=gl,lm:=TW,ro:=[O6 "wire"]}
theorem oW {j:Nat} {l:vJ} (hl:C.tabs[j]?=TK l) (Ia:l.scope.isCoroutine=TO) (vI:l.scope.isGenerator=TO) (gq:l.scope.kind=.function) (M:∀x∈l.scope.names,x.2≠.cell) (hw:seek l.scope.names (O6 "wire")=TK .free) (N:∀cl pm Ot ct,Vc (kla_fn "<lambda>" l.q l.params l.body l.scope cl pm Ot ct) ⟨[],[]⟩=pure []) {ir:E} (hs:SV C wm (ur C.glob l.scope) n l.body ir) {a:T2} {g g':G} {r:V} (hp:∀a,g'.fM a->g.fM a) (I0:Ev C wm n ir TO ⟨[.v (.ref a)],g⟩ λv st=>v=r/\EY g' st.g):cy C (n+1) (.lam j a) [] g r g':=by
 refine ⟨⟨hp,λX h fv B rf=>?_⟩,λA X s fv vs Q E ao ok gr rf rv hQ=>?_⟩
 ·obtain ⟨_,_,_,_,_,_,_,rfl,g,_⟩:=rf;exact (i12 .frame (.inl TL) ((Looks.ld (part:=TW) g).andThen .now))
 ·obtain rfl:vs=[]:=rv;refine ac λR=>?_;obtain ⟨fa,_,c,cc,oc,Ib,ct,rfl,gf,na,⟨l',O3,Ou,rfl⟩,gc,nc,Ix,KH,KI,KJ⟩:=rf;obtain rfl:=le (hl.symm.trans Ou);refine R ?_;clear R;refine eL (cL (Pb (PV _ _) (Pj ao.d (by decide))) gf TL Ia vI (KC cc oc Ib ct TL Ix KH KI) ?_);refine aa (N ..) (af (eN M (λx m=>(nomatch m)) (λD T U=>?_) gq));have P:=λb o e=>U.extBut b o (QZ (Py e)) (Pq _ e);refine ⟨(ok.base.nolimit).keeps P,?_⟩;generalize W:newEnv l.scope s.heap.objs.size T5 [(O6 "wire",c)] (l.q++".<locals>.") (TK fa) (.ref cc) TW Un=env;refine ou (by subst W;exact (BY TL TL TL TL TL):env.scope=l.scope/\env.locals=s.heap.objs.size/\env.globals=T5/\env.builtins=Un/\env.cells=[(O6 "wire",c)]) λL vZ GC GD O=>?_;have Y:codeN (model C.prog C.w) A (.expr l.body env) (λr s'=>match r with|.ok (.ret v)=>Q v s'|.ok _=>False|.error e=>E e s') {s with heap:=D,toks:=s.toks+([]:List (Str×TT)).length}:=by
   have kw:env.kindOf (O6 "wire")=TK .free:=by (rw [SJ];refine aa (L ..) ?_);exact bc hw
   have size:s.heap.objs.size<=D.objs.size:=by refine aa (U.1 ..) (aa (P0 ..) ?_);exact Sj _
   have wX:∀b,(g.fM b\/C.tab b)->X b:=λb w=>w.elim (qH gr) (ok.xt b);have Ng:(bY C env [(O6 "wire",0)] [O6 "wire"] X g s.heap).cl=[]:=by simp [bY,O]
   have u:∀b,b∈own (bY C env [(O6 "wire",0)] [O6 "wire"] X g s.heap) ⟨[],[]⟩->b=s.heap.objs.size:=λb m=>by simp only [own,Ng,Qs,Pk,Pf,Pn,or_false] at m;refine aa (m ..) ?_;exact vZ
   have Nh:=gc.lt;have lk:env.cells.lookup (O6 "wire")=TK c:=by refine aa (O ..) ?_;simp
   have zz:∀b,b<s.heap.objs.size->(bY C env [(O6 "wire",0)] [O6 "wire"] X g s.heap).Z ⟨[],[]⟩ b->X b:=λb lt z=>by
    refine PA z (λz=>?_) λm=>?_
    ·exact z
    ·exact TU lt (by refine aa (u b m ..) ?_;exact PG _)
   have L2:FS C (bY C env [(O6 "wire",0)] [O6 "wire"] X g s.heap) ⟨[],[]⟩ ⟨[.v (.ref a)],g⟩ {s with heap:=D,toks:=s.toks+([]:List (Str×TT)).length}:={
    base:=ok.base.keep (λb o _ e=>P b o e) size
    gens:=ok.gens
    drawn:=ok.drawn
    os:=ok.os
    keep:=λb o p w e=>P b o e
    jh:=λb p=>Pj p size
    c8:=λb m p=>by rw [u b m] at p;exact PG _ p
    ec:=λb m=>by refine aa (u b m ..) ((dQ T.lt ok.base.lt (λz=>PG _ (ok.xb _ z).1)))
    iy:=by simp [own,Ng]
    xb:=λb z=>⟨Pj (ok.xb b z).1 size,(ok.xb b z).2⟩
    wx:=wX
    ee:=λb t=>.inr t
    kind:=by refine aa (L ..) ?_;exact gq
    iL:=GC
    blt:=GD
    locs:=⟨_,by refine aa (vZ ..) ?_;exact T⟩
    bJ:=gr.move (λb o _ e=>P b o e) zz (λb p=>.inl (qH gr p))
    dn:=λb p=>.inl (.inl p)
    dg:=.nil
    pY:=by simp [bY]
    nA:=by simp [bY]
    kinds:=λz i m=>by refine aM (PB (Pv.mp m)) λH J=>?_;subst H;subst J;exact .inr (⟨(.inr kw),(gF c _ lk (gc.keeps P) (by refine aa (vZ ..) ?_;exact QZ Nh))⟩)
    cells:=λz i c' m k l=>by refine aM (PB (Pv.mp m)) λH J=>?_;subst H;subst J;obtain rfl:=le (lk.symm.trans l);exact .inr (dQ (λm=>PG _ (u c m▸Nh)) (λw=>nc (wX c w)) (λ_=>nc))
    f6:=λz z' c' a b=>by have a':env.cells.lookup z=TK c':=a;have b':env.cells.lookup z'=TK c':=b;rw [O] at a' b';exact aa ((PB (Pv.mp (du a'))).1 ..) (aa ((PB (Pv.mp (du b'))).1 ..) TL)
    vars:=λz i m sl e=>by
     refine aM (PB (Pv.mp m)) λH J=>?_;subst H;subst J;cases e;exact .inr (i12 (.ref a) (.inr (⟨(.inr kw),(i12 c lk (gc.keeps P))⟩)) TL)}
   have fo:cj (ur C.glob l.scope) (bY C env [(O6 "wire",0)] [O6 "wire"] X g s.heap) C:={
    vars:=TL
    iL:=λz h=>by (rw [SJ];refine aa (L ..) ?_);exact bc h
    gl:=TL
    lt:=λz i m=>by refine aa ((PB (Pv.mp m)).2 ..) ?_;exact Nat.one_pos
    uk:=λz i m=>by refine aa ((PB (Pv.mp m)).1 ..) ?_;decide
    lm:=λk h=>nomatch h
    names:=λz k h=>.inl (by refine aa (L ..) ?_;exact bc h)
    set:=λz i c' m hr k l=>by
     exact TU (Pv.mpr (PB (Pv.mp m)).1) hr}
   refine sw (ar (hs (A.deeper env) _ _ _ _ _ (ao.deeper env) fo L2 TL I0) (λv s' p=>?_) λ_ _ x=>x.elim);refine ac λR=>?_;obtain ⟨x,st',y',hk,f',r',m,l'⟩:=p;refine R ?_;clear R;exact nK (f:=.ret v) ok gr hp ⟨.ret x,st',y',.ret (TQ Fl.ret hk.1) hk.2,f',.ret r',l'⟩ hQ
  subst W;exact Y
end
section
variable {C:Cx} {A:T0} {X:AP} {s:TP}
theorem kC (h:∀(Q:TT->TP->Prop) (E:TT->TP->Prop),Q (.int i s.toks) {s with toks:=s.toks+1}->T6 (model C.prog C.w) A t Q E s):ay C A X s t (.int i):=λQ E k=>h Q E (k _ _ (.tok s _) (.int i _))
theorem dI (h:-(2^k:Int)<i/\i<2^k):P5 i<=k:=by
 unfold P5;split
 ·exact QF _
 ·rename_i a;have:i.natAbs<2^k:=by
   have e:((2^k):Int)=(2)^k:=by norm_cast
   rw [←e] at h;cases i with
   |ofNat n=>exact Ps.mp h.2
   |negSucc n=>exact Ps.mp (Int.neg_lt_neg_iff.mp (show -((2^k):Int)< -((n+1):Int) from h.1))
  exact Nat.succ_le_of_lt ((Nat.log2_lt (by simpa using a:i.natAbs≠0)).mpr this)
theorem qK:ay C A X s (Uf .Add (.int a t) (.int b u)) (.int (a+b)):=kC λQ E h=>P.add_int h
theorem qL:ay C A X s (Uf .Sub (.int a t) (.int b u)) (.int (a-b)):=kC λQ E h=>P.sub_int h
theorem qM (h:(h5 a||h5 b)=TN):ay C A X s (Uf .Mult (.int a t) (.int b u)) (.int (a*b)):=kC λQ E h'=>P.mul_int h' (by
 rcases Q3.mp h with h|h
 ·exact .of_left (O5 (dI (TM h)) (by decide))
 ·exact .of_right (O5 (dI (TM h)) (by decide)))
theorem qN (h:0<b):ay C A X s (Uf .Mod (.int a t) (.int b u)) (.int (a.fmod b)):=kC λQ E h'=>AutoIntOps.mod_1 (by simp;exact zG h) h'
theorem jV (h:0<b) (hs:eQ b=TN):ay C A X s (Uf .FloorDiv (.int a t) (.int b u)) (.int (a.fdiv b)):=kC λQ E h'=>AutoIntOps.floordiv_1 (by simp;exact zG h) (by
 have:=dI (TM hs);unfold P5 at this;have c:(b==0)=TO:=by simp;exact zG h
 rw [c] at this;simp only [Rp,if_false] at this;simp only [Builtin.divisionGoesByPylong,c,Rp,if_false,RD,decide_eq_true_eq,not_and];intro d;lia) h'
theorem lO (c:0<=b) (hs:eQ a=TN) (d:b<200):ay C A X s (Uf .LShift (.int a t) (.int b u)) (.int (a*2^b.toNat)):=kC λQ E h'=>lshift_int c (by
 have:=dI (TM hs);exact Qp (Int.add_le_add (Ph.mpr this) (Q0 d)) (by decide)) h'
theorem lP (ha:0<=a) (c:0<=b):ay C A X s (Uf .RShift (.int a t) (.int b u)) (.int (a/2^b.toNat)):=kC λQ E h'=>by
 by_cases d:b≥((P5 a):Int)
 ·refine AutoIntOps.rshift_1 (zA c) d (aa (TZ (zA ha) ..) ?_);have e:a/2^b.toNat=0:=by
   refine Int.ediv_eq_zero_of_lt ha ?_;have f:a.natAbs<2^(P5 a):=by
    unfold P5;split
    ·rename_i g;have:a=0:=by simpa using g
     subst this;decide
    ·exact Nat.lt_log2_self
   have h:2^(P5 a)<=2^b.toNat:=Nat.pow_le_pow_right (by decide) ((Int.le_toNat c).mpr d);have i:((2^b.toNat):Int)=(2)^b.toNat:=by norm_cast
   exact i▸Ss Int.le_natAbs (Ps.mpr (Pj f h))
  rw [e] at h';exact h'
 ·refine AutoIntOps.rshift_2 (zA c) d (aa (Int.fdiv_eq_ediv_of_nonneg _ (Q0 (Int.pow_pos (by decide))) ..) ?_);exact h'
theorem qO (ha:0<=a) (c:0<=b):ay C A X s (Uf .BitAnd (.int a t) (.int b u)) (.int (a.toNat&&&b.toNat:Nat)):=kC λQ E h'=>and_int (by
 have:Builtin.bitAnd a b=(a.toNat&&&b.toNat):=by unfold Builtin.bitAnd;simp [ha,c]
 refine aa (this ..) ?_;exact h')
theorem qP (h:(0<=a&&a<16&&0<=b&&b<40)=TN):ay C A X s (Uf .Pow (.int a t) (.int b u)) (.int (a^b.toNat)):=kC λQ E h'=>by
 simp only [RD,decide_eq_true_eq] at h;refine ac λg=>?_;obtain ⟨⟨⟨j,l⟩,c⟩,m⟩:=h;refine g ?_;clear g;by_cases d:(b==0)=TN
 ·have:b=0:=by simpa using d
  subst this;exact AutoIntOps.pow_0 c TL (show Q (.int 1 s.toks) {s with toks:=s.toks+1} by simpa using h')
 ·by_cases f:(a==0||a==1)=TN
  ·refine AutoIntOps.pow_1 c d f ?_;have n:b.toNat≠0:=by
    have:b≠0:=by simpa using d
    exact λe=>this (Tn (Int.toNat_eq_zero.mp e) c)
   have:a^b.toNat=a:=by
    rcases (by simpa using f:a=0\/a=1) with rfl|rfl
    ·exact Int.zero_pow n
    ·exact Int.one_pow ..
   rw [this] at h';exact h'
  ·refine AutoIntOps.pow_4 c d f (by simp;exact zG j) ?_ h';have:=dI (i:=a) (k:=4) ⟨show -(2^4:Int)<a from Su (b:=0) (by decide) (by lia),by exact l⟩;unfold Builtin.Int.intTooBig;have o:((P5 a:Nat):Int)*b<=160:=by have:=Int.mul_le_mul (show ((P5 a:Nat):Int)<=4 by exact Ph.mpr (aJ [_] 0x7840078421 this)) (show b<=40 by exact Q0 m) c (by decide);exact this
   have p:(160:Int)<=bitsLine:=by decide
   simp only [gt_iff_lt,decide_eq_true_eq,PK];exact Qp o p
theorem CI (z:x.cps.size<=av) (h:∀(Q:TT->TP->Prop) (E:TT->TP->Prop),(∀a k,Q (.str x a) {s with toks:=k})->T6 (model C.prog C.w) A t Q E s):ay C A X s t (.str x.cps.toList):=λQ E k=>h Q E λa n=>k _ _ (.tok s n) (.str x a z)
theorem lQ (z:x.size<=av) (h:∀(Q:TT->TP->Prop) (E:TT->TP->Prop),(∀a k,Q (.bytes x a) {s with toks:=k})->T6 (model C.prog C.w) A t Q E s):ay C A X s t (.bytes x.toList):=λQ E k=>h Q E λa n=>k _ _ (.tok s n) (.bytes x a z)
theorem qQ (h:x.cps.size+z.cps.size<=av):ay C A X s (Uf .Add (.str x t) (.str z u)) (.str (x.cps.toList++z.cps.toList)):=by refine bx ((by show (x.cps++z.cps).toList=_;simp:(x++z).cps.toList=x.cps.toList++z.cps.toList) ..) ?_;exact CI (by show (x.cps++z.cps).size<=_;simpa using h) λQ E k=>SB.add k h
theorem nf (h:x.size+z.size<=av):ay C A X s (Uf .Add (.bytes x t) (.bytes z u)) (.bytes (x.toList++z.toList)):=by exact bx ((by simp:(x++z).toList=x.toList++z.toList) ..) (lQ (by simpa using h) λQ E k=>KBy.add_bytes h k)
theorem ng {a b:T2} {vs c:Array TT} {n m:Nat} {xs ys:List V} (d:s.heap.get? a=TK (seqObj "tuple" vs n)) (f:s.heap.get? b=TK (seqObj "tuple" c m)) (r:¬X a) (nb:¬X b) (xb:∀b,X b->b<s.heap.objs.size) (j:aP C X s.heap vs.toList xs) (l:aP C X s.heap c.toList ys) (h:vs.size+c.size<=av):ay C A X s (Uf .Add (.ref a) (.ref b)) (.tuple (xs++ys)):=by
 intro Q E k;have p:=j.length;have q:=l.length;by_cases i:vs.isEmpty=TN
 ·have e:vs=#[]:=Array.isEmpty_iff.mp i;have ex:xs=[]:=by rw [e] at p;exact QW.mp (by simpa using p.symm)
  subst ex;refine concat_meets (i12 _ d TL) (i12 _ f TL) Vr seq_tuple_add Ta SN (Sv _ _) (tuple_addW0 a b vs c n m TW TW #[] #[] i) (dQ d f ?_);exact k _ _ (.refl s) (.tuple f nb l (O5 (Rr _ _) h))
 ·by_cases o:c.isEmpty=TN
  ·have e:c=#[]:=Array.isEmpty_iff.mp o;have t:ys=[]:=by rw [e] at q;exact QW.mp (by simpa using q.symm)
   subst t;refine concat_meets (i12 _ d TL) (i12 _ f TL) Vr seq_tuple_add Ta SN (Sv _ _) (tuple_addW1 a b vs c n m TW TW #[] #[] i o) (dQ d f ?_);refine k _ _ (.refl s) (aa (Pk ..) ?_);exact (.tuple d r j (O5 (PV _ _) h))
  ·refine concat_meets (i12 _ d TL) (i12 _ f TL) Vr seq_tuple_add Ta SN (Sv _ _) (tuple_addW2 a b vs c n m TW TW #[] #[] i o h) (dQ d f ?_);have g:=a9.push s (seqObj "tuple" (vs++c) 0);refine k _ _ g (.tuple (Pz _ TL) (λx=>PG _ (xb _ x)) (RF (xs:=vs) (ys:=c)▸(l.app j).grow g) (RW (xs:=vs) (ys:=c)▸h))
theorem CJ (x:Str) (n:Nat):((PF n x.cps).foldl (· ++·) #[]).toList=(PF n x.cps.toList).flatten:=by
 have:∀n acc,((PF n x.cps).foldl (· ++·) acc).toList=acc.toList++(PF n x.cps.toList).flatten:=by
  intro n;induction n with
  |zero=>intro acc;simp
  |succ n a=>intro acc;refine aa (Sk ..) (aa (RN ..) (aa (a ..) (aa (Sk ..) (aa (List.flatten_cons ..) ?_))));simp
 simpa using this n #[]
theorem qR {a:Type} {l:List a}:(PF n l).flatten.length=n*l.length:=by
 induction n with
 |zero=>simp
 |succ n b=>refine aa (Sk ..) (aa (List.flatten_cons ..) (aa (g3 ..) (aa (b ..) (aa (To ..) ?_))));exact Qr _ _
theorem qS {n m:Nat} (h:n<1000) (h':m<1000):n*m<=1000000:=by have:=Nat.mul_le_mul (Pw h) (Pw h');exact this
theorem qT (d:0<=b) (a:b<1000) (c:x.cps.size<1000):ay C A X s (Uf .Mult (.str x t) (.int b u)) (.str (PF b.toNat x.cps.toList).flatten):=by
 have f:=(Int.toNat_lt d).mpr a;have e:(Txt.mul x b).cps.toList=(PF b.toNat x.cps.toList).flatten:=by
  unfold Txt.mul;split
  ·have:b=0:=by lia
   subst this;rfl
  ·split
   ·rename_i h3;rcases by simpa using h3 with rfl|h3
    ·simp
    ·have:x.cps.toList=[]:=QW.mp (by refine aa (PS ..) ?_;exact h3);refine aa (this ..) ?_;have:∀n:Nat,(PF n ([]:List Nat)).flatten=[]:=λn=>by simp
     exact aa (this ..) TL
   ·exact CJ x b.toNat
 refine bx (e ..) ?_;have len:(Txt.mul x b).cps.size<=1000000:=by refine bx (PS ..) (aa (e ..) (aa (qR ..) ?_));exact qS f (by simpa using c)
 refine CI (O5 len (by decide)) λQ E k=>SB.mul (dQ (by simp;exact ⟨Qp (by decide) d,Int.lt_trans a (by decide)⟩) (λh3 _=>?_) (λh3 _=>?_)) k
 ·have g:(x.length:Int)<1000:=by exact Ps.mpr (aJ [_] 0x7ec598100003f62cc08021 c)
  have:(1000)<=(2^63-1)/b:=by refine (Int.le_ediv_iff_mul_le (zC h3)).mpr ?_;exact Qp (Int.mul_le_mul_of_nonneg_left (Q0 a) (by decide)) (by decide)
  exact PK.mpr (Qp (Q0 g) this)
 ·have:=qS c f;unfold Builtin.Str.tooLong;simp only [decide_eq_false_iff_not,gt_iff_lt,Pt];exact aJ [_,_] 0x410004fa4a90b042fa4a90b0421 this (by decide:(1000000)<=T8)
theorem nh (h:(!x.toList.isEmpty&&x.toList.length<=16&&0<=b&&b<1000)=TN):ay C A X s (Uf .Mult (.bytes x t) (.int b u)) (.bytes (PF b.toNat x.toList).flatten):=by
 simp only [RD,decide_eq_true_eq,SM,List.isEmpty_eq_false_iff] at h;refine ac λd=>?_;obtain ⟨⟨⟨f,a⟩,g⟩,c⟩:=h;refine d ?_;have e:((PF b.toNat x.toList).flatten).toArray.toList=(PF b.toNat x.toList).flatten:=by simp
 have:=lQ (C:=C) (A:=A) (X:=X) (s:=s) (t:=Uf .Mult (.bytes x.toList.toArray t) (.int b u)) (by
  simp only [Rv,qR];have:=Nat.mul_le_mul (Int.toNat_le.mpr (Q0 c)) a;exact O5 this (by decide)) λQ E k=>bytes_mul_any f (Qp (by decide) g) (Qp (Q0 c) (by decide)) a k
 simpa using this
theorem bh {b:Type} {c:Prop} [Decidable c] {a r:b} (h:(if c then TK a else TW)=TK r):c/\a=r:=(P6.mp h).imp id le
theorem bE {a b:Bool} (h:(a&&b)=TN):a=TN/\b=TN:=Qg.mp h
theorem CK {op:UH} (h:binI op i j=TK r):ay C A X s (Uf op (.int i t) (.int j u)) r:=by
 cases op with
 |Add=>exact le h▸qK
 |Sub=>exact le h▸qL
 |Mult=>obtain ⟨c,e⟩:=bh h;exact e▸qM c
 |Mod=>obtain ⟨c,e⟩:=bh h;exact e▸qN c
 |FloorDiv=>obtain ⟨c,e⟩:=bh h;exact e▸jV (TM (bE c).1) (bE c).2
 |LShift=>obtain ⟨c,e⟩:=bh h;exact e▸lO (TM (bE (bE (bE c).1).1).2) (bE (bE c).1).2 (TM (bE c).2)
 |RShift=>obtain ⟨c,e⟩:=bh h;exact e▸lP (TM (bE (bE (bE c).1).1).1) (TM (bE (bE (bE c).1).1).2)
 |BitAnd=>obtain ⟨c,e⟩:=bh h;exact e▸qO (TM (bE c).1) (TM (bE c).2)
 |Pow=>obtain ⟨c,e⟩:=bh h;exact e▸qP c
 |_=>exact aZ h
theorem GG {n:Nat} {op:UH} {a b:TT} {x y r:V} (ok:c9 C X s) (l:Rep C X s.heap a x) (k:Rep C X s.heap b y) (h:xZ op x y=TK r):ay C A X s (Uf op a b) r:=by
 cases x with
 |int i=>refine ac λf=>bO h λj e h=>?_;obtain rfl:=a8 e;refine cR l λt d=>?_;subst d;refine cR k λu d=>?_;subst d;refine f ?_;clear f;exact CK h
 |str i=>
  refine ac λf=>bB l λx t d g o=>?_;subst d;subst g;refine f ?_;clear f;cases op with
  |Add=>refine ac λf=>bO h λj e h=>?_;obtain rfl:=c6 e;refine bB k λz u d g p=>?_;subst d;subst g;refine aM (bh h) λc e=>f ?_;clear f;exact e▸qQ c
  |Mult=>refine ac λf=>bO h λj e h=>?_;obtain rfl:=a8 e;refine cR k λu d=>?_;subst d;refine aM (bh h) λc e=>f ?_;clear f;exact e▸qT (TM (bE (bE c).1).1) (TM (bE (bE c).1).2) (TM (bE c).2)
  |_=>exact aZ h
 |bytes i=>
  refine ac λf=>bB l λx t d g o=>?_;subst d;subst g;refine f ?_;clear f;cases op with
  |Add=>refine ac λf=>bO h λj e h=>?_;obtain rfl:=bF e;refine bB k λz u d g p=>?_;subst d;subst g;refine aM (bh h) λc e=>f ?_;clear f;exact e▸nf c
  |Mult=>refine ac λf=>bO h λj e h=>?_;obtain rfl:=a8 e;refine cR k λu d=>?_;subst d;refine aM (bh h) λc e=>f ?_;clear f;exact e▸nh c
  |_=>exact aZ h
 |tuple i=>
  refine ac λf=>?_;obtain ⟨_,vs,n,rfl,q,v,l,B⟩:=l;refine f ?_;clear f;cases op with
  |Add=>refine ac λf=>bO h λj e h=>?_;obtain rfl:=fi e;obtain ⟨_,D,m,rfl,w,nb,k,F⟩:=k;refine aM (bh h) λc e=>f ?_;clear f;exact e▸ng q w v nb (λb x=>(ok.xb b x).1) l k (O5 (O9 (congr (TQ _ l.length) k.length)) c)
  |_=>exact aZ h
 |_=>exact aZ h
theorem GH (c:Rep C X s.heap a (.int i)) (d:Rep C X s.heap b (.int j)):ay C A X s (inplaceOp .Add a b) (.int (i+j)):=by obtain ⟨t,rfl⟩:=c;obtain ⟨u,rfl⟩:=d;exact kC λQ E h=>P.iadd_int h
theorem GI (b:Rep C X s.heap a (.int i)):ay C A X s (unaryOp .USub a) (.int (-i)):=by obtain ⟨t,rfl⟩:=b;exact kC λQ E h=>P.neg_int h
theorem fR (h:∀(Q:TT->TP->Prop) (E:TT->TP->Prop),Q (.bool b) s->T6 (model C.prog C.w) A t Q E s):ay C A X s t (.bool b):=λQ E k=>h Q E (k _ _ (.refl s) (.bool b))
theorem d0 (d:0<=i) (e:i<256):Gives (Uq.«bytes.__contains__» ⟨[.bytes b t,.int i u],[]⟩) (.val (.bool (b.contains i.toNat.toUInt8))):=by
 refine .of_wp λM A E s Q a=>?_;show T6 M A ((do
  let c ←(asIndex (.int i u)).attempt
  let TK b' ←QO "bytes.__contains__" (.bytes b t)|unsupported "internal:bytes-without-payload"
  match c with
  |.ok i=>do
   if i<0||i≥256 then rule s!"{"bytes.__contains__"}.byte-out-of-range";raiseError "ValueError" "byte must be in range(0, 256)"
   return b'.contains i.toNat.toUInt8
  |.error _=>do
   match ←QO "bytes.__contains__" (.int i u) with
   |some sub=>rule s!"{"bytes.__contains__"}.run-of-bytes";return (PW b' sub 0 b'.size).isSome
   |none=>rule s!"{"bytes.__contains__"}.not-bytes-like";raiseError "TypeError" s!"a bytes-like object is required, not '{← typeNameOf (.int i u)}'")>>=λr=>ret (.bool r)) _ E s
 refine TV (TV (wpAny_attempt ?_));refine TX (TV (T9 KBy.buffer_eq ?_));dsimp only;refine aa ((by simp;lia:(decide (i<0)||decide (i≥256))=TO) ..) ?_;exact TX (TX (i12 _ TL a))
theorem jq {b:Array UInt8} (d:0<=i) (f:i<256):b.contains i.toNat.toUInt8=b.toList.any λc=>decide ((c.toNat:Int)=i):=by
 have key:∀c:UInt8,(i.toNat.toUInt8==c)=decide ((c.toNat)=i):=λc=>by
  have e:(i.toNat.toUInt8).toNat=i.toNat:=by simp [Nat.mod_eq_of_lt (by lia:i.toNat<256)]
  refine p9 (QP ..) (p9 (beq_iff_eq ..) (aa (decide_eq_true_eq ..) ?_));constructor
  ·rintro rfl;refine aa (e ..) ?_;lia
  ·intro h;exact Qj.mp (by refine aa (e ..) ?_;lia)
 have:b.contains i.toNat.toUInt8=b.toList.contains i.toNat.toUInt8:=by exact aa (Array.contains_toList ..) TL
 refine aa (this ..) ?_;generalize b.toList=l;induction l with
 |nil=>rfl
 |cons c r a=>exact aa (List.contains_cons ..) (aa (a ..) (aa (List.any_cons ..) (aa (key ..) TL)))
theorem yT {i:Int} (h:0<=i/\i<256):ay C A X s (T7 .In (.int i u) (.bytes b t)) (.bool (b.toList.any λc=>decide ((c.toNat:Int)=i))):=by exact bx (jq h.1 h.2 ..) (fR λQ E k=>in_gives (Ua s b t) FB.slot_bytes_contains FB.entry_bytes_contains (SP _ _) (d0 h.1 h.2) k)
theorem qU {i:Int} (h:0<=i/\i<256):ay C A X s (T7 .NotIn (.int i u) (.bytes b t)) (.bool (!b.toList.any λc=>decide ((c.toNat:Int)=i))):=by exact bx (jq h.1 h.2 ..) (fR λQ E k=>notIn_gives (Ua s b t) FB.slot_bytes_contains FB.entry_bytes_contains (SP _ _) (d0 h.1 h.2) k)
noncomputable def strOf:TT->List Nat
 |.str x _=>x.cps.toList
 |_=>[]
theorem yU (a:List Nat):∀{xs:List V} {vs:List TT},aP C X h vs xs->xs.all isStr=TN->(∀y∈vs,∃x t,y=.str x t)/\(vs.any λy=>strOf y==a)=xs.any (eqStr a):=by
 intro d;induction d with
 |nil=>intro f e u;obtain rfl:_=[]:=e;exact ⟨λ_ m=>TU m Pn,TL⟩
 |cons y r g=>intro f i h;refine bB i λv l e j k=>?_;subst e;refine ac λn=>aM (Qg.mp (show (isStr y&&r.all isStr)=TN from h)) λhs hr=>aM (g k hr) λo p=>cR (PQ.mp hs) λz q=>?_;obtain rfl:=c6 q;refine bB j λx t b c w=>?_;subst b;subst c;refine n ?_;refine ⟨λy m=>(Pf.mp m).elim (λe=>⟨x,t,e⟩) (o y),?_⟩;show ((x.cps.toList==a)||l.any λy=>strOf y==a)=(decide (a=x.cps.toList)||r.any (eqStr a));refine aa (p ..) (TQ (· ||_) (QP.mpr ?_));refine p9 (beq_iff_eq ..) (aa (decide_eq_true_eq ..) ?_);exact eq_comm
theorem nL:EqAt A s (.str x t) (.str z u) (x.cps.toList==z.cps.toList):=by refine aa (str_beq ..) ?_;exact EqAt.str_str x t z u
theorem CL (e:c="tuple"\/c="list") (g:s.heap.get? a=TK (seqObj c vs n)) (r:aP C X s.heap vs.toList xs) (f:xs.all isStr=TN):
  ay C A X s (T7 .In (.str x t) (.ref a)) (.bool (xs.any (eqStr x.cps.toList)))/\ay C A X s (T7 .NotIn (.str x t) (.ref a)) (.bool (!xs.any (eqStr x.cps.toList))):=by
 refine aM (yU x.cps.toList r f) λh i=>?_;have d:∀y,y∈vs->EqAt A.in1 s y (.str x t) (strOf y==x.cps.toList):=λy m=>by refine xK (h y (Sa.mpr m)) λz u b=>?_;subst b;exact nL
 refine bx (i ..) (aa (Tb ..) ?_);refine PA e (λb=>?_) λb=>?_
 ·subst b;exact ⟨fR λQ E k=>in_tupleAt _ ⟨_,g,TL,_,TL⟩ d k,fR λQ E k=>notIn_tupleAt _ ⟨_,g,TL,_,TL⟩ d k⟩
 ·subst b;exact ⟨fR λQ E k=>in_listAt _ ⟨_,g,TL,_,TL⟩ d k,fR λQ E k=>notIn_listAt _ ⟨_,g,TL,_,TL⟩ d k⟩
theorem sU (a:Array UInt8) (t u:Tok):EqAt A s (.bytes a t) (.bytes a u) TN:=λprog w E Q h=>by
 refine UD (wpAny_ite_split (λb=>?_) (λ_=>?_))
 ·exact TV (UG (TX h))
 ·refine TV ?_;exact eq_bytes (UU (by refine aa (beq_self_eq_true ..) ?_;exact h))
theorem all_true:(PN n).all (λ_=>TN)=TN:=Pa.mpr λ_ _=>rfl
theorem v9 {xs:List V} (h:xs.all (b6 n)=TN) {j:Nat} (e:xs[j]?=TK x):b6 n x=TN:=Pa.mp h x (RA e)
theorem nM (d:Rep C X s.heap a x) (f:Rep C X s.heap b x) (h:b6 0 x=TN):EqAt A s a b TN:=by
 cases x with
 |none=>obtain rfl:a=_:=d;obtain rfl:b=_:=f;exact EqAt.same _
 |bool p=>obtain rfl:a=_:=d;obtain rfl:b=_:=f;exact EqAt.same _
 |int i=>refine cR d λk c=>?_;subst c;refine cR f λk' c=>?_;subst c;exact beq_self_eq_true i▸EqAt.int_int i k i k'
 |str t=>refine bB d λx k c e g=>?_;subst c;refine bB f λj k' c l g=>?_;subst c;have:=nL (s:=s) (A:=A) (x:=x) (z:=j) (t:=k) (u:=k');rw [e,l,beq_self_eq_true] at this;exact this
 |bytes t=>refine bB d λx k c e g=>?_;subst c;refine bB f λj k' c l g=>?_;subst c;obtain rfl:x=j:=RE.mp (e.trans l.symm);exact sU x k k'
 |_=>exact TU h Qy
theorem lR {d c:Array TT} (o:∀{x:V} {a b:TT},b6 n x=TN->Rep C X s.heap a x->Rep C X s.heap b x->EqAt A.in1 s a b TN) (h:xs.all (b6 n)=TN) (f:aP C X s.heap d.toList xs) (k:aP C X s.heap c.toList xs):d.size=c.size/\∀j g (m:j<c.size),EqAt A.in1 s d[j] c[j] ((λ_=>TN) j):=by refine ⟨f.length.trans k.length.symm,λj g m=>?_⟩;have e:=PC (l:=xs) (i:=j) (f.length▸g);refine aT (f.get e) λu p q=>aT (k.get e) λv r t=>?_;obtain rfl:=le ((PC g).symm.trans p);obtain rfl:=le ((PC (l:=c.toList) m).symm.trans r);exact o (v9 h e) q t
theorem lS (a:A.units+(n+1)<cLine):A.in1.units+n<cLine:=by refine aa (Q7 ..) (aa (Qr 1 ..) ?_);exact a
theorem jr (a:A.units+(n+1)<cLine):A.units<cLine:=Pb (PV _ _) a
theorem sV (n:Nat):∀{A:T0} {x:V} {a b:TT},b6 n x=TN->Rep C X s.heap a x->Rep C X s.heap b x->A.units+n<cLine->EqAt A s a b TN:=by
 induction n with
 |zero=>intro A x a b h c d f;exact nM c d h
 |succ n t=>
  intro A x a b h c d f;cases x with
  |tuple xs=>
   obtain ⟨l,vs,m,rfl,g,u,rs,v⟩:=c;obtain ⟨i,j,w,rfl,k,nb,rs',y⟩:=d;obtain ⟨o,p⟩:=lR (A:=A) (λh r q=>t h r q (lS f)) h rs rs';by_cases e:l=i
   ·subst e;exact EqAt.same _
   ·have:=RcAt.tuples (eK _ g TL (⟨_,TL⟩)) (eK _ k TL (⟨_,TL⟩)) (jr f) p;rw [all_true,o,beq_self_eq_true,Bool.and_self] at this;exact .of_refs e this
  |list xs=>
   obtain ⟨l,vs,m,rfl,g,u,rs,v⟩:=c;obtain ⟨i,j,w,rfl,k,nb,rs',y⟩:=d;obtain ⟨o,p⟩:=lR (λh r q=>t h r q (lS f)) h rs rs';by_cases e:l=i
   ·subst e;exact EqAt.same _
   ·have:=RcAt.lists (A:=A) (eK _ g TL (⟨_,TL⟩)) (eK _ k TL (⟨_,TL⟩)) o (jr f) p;rw [all_true] at this;exact .of_refs e this
  |_=>exact nM c d h
theorem qV {n:Nat} {a b:TT} (h:xs.all (b6 n)=TN) (i:Rep C X s.heap a (.list xs)) (j:Rep C X s.heap b (.list xs)) (c:A.units+n+1<cLine):
  ay C A X s (T7 .Eq a b) (.bool TN)/\ay C A X s (T7 .NotEq a b) (.bool TO):=by
 obtain ⟨l,vs,m,rfl,d,q,rs,t⟩:=i;obtain ⟨u,o,v,rfl,e,nb,rs',w⟩:=j;obtain ⟨f,g⟩:=lR (λh r p=>sV n h r p (lS c)) h rs rs';refine ⟨fR λQ E k=>?_,fR λQ E k=>?_⟩
 ·have:=RcAt.lists (eK _ d TL (⟨_,TL⟩)) (eK _ e TL (⟨_,TL⟩)) f (jr c) g;rw [all_true] at this;exact this _ _ E Q k
 ·have:=RcNeAt.lists (eK _ d TL (⟨_,TL⟩)) (eK _ e TL (⟨_,TL⟩)) f (jr c) g;rw [all_true] at this;exact this _ _ E Q k
theorem f9 (e:b=b') (h:∀(Q:TT->TP->Prop) (E:TT->TP->Prop),Q (.bool b') s->T6 (model C.prog C.w) A t Q E s):ay C A X s t (.bool b):=e▸fR h
theorem kR (b:Rep C X s.heap a x) (h:FV x=TK r):(a==.none)=r/\plainIs a .none=TN:=by
 have key:∀{a:TT} {q:Bool},TK q=TK r->(a==.none)=q->plainIs a .none=TN->(a==.none)=r/\plainIs a .none=TN:=λe c d=>⟨c.trans (le e),d⟩;cases x with
 |none=>obtain rfl:a=_:=b;exact key h TL TL
 |bi=>exact aZ h
 |bool=>obtain rfl:a=_:=b;exact key h TL TL
 |int=>obtain ⟨_,rfl⟩:=b;exact key h TL TL
 |str=>obtain ⟨_,_,rfl,_⟩:=b;exact key h TL TL
 |bytes=>obtain ⟨_,_,rfl,_⟩:=b;exact key h TL TL
 |tuple=>obtain ⟨_,_,_,rfl,_⟩:=b;exact key h TL TL
 |list=>obtain ⟨_,_,_,rfl,_⟩:=b;exact key h TL TL
 |gC=>obtain ⟨_,_,rfl,_⟩:=b;exact key h TL TL
 |ref=>obtain rfl:a=_:=b;exact key h TL TL
 |ty=>obtain rfl:a=_:=b;exact key h TL TL
 |b2=>obtain rfl:a=_:=b;exact key h TL TL
 |fh=>obtain rfl:a=_:=b;exact key h TL TL
 |atom=>obtain ⟨_,_,_,_,_,_,_,rfl,_⟩:=b;exact key h TL TL
 |pW=>obtain ⟨_,_,_,_,_,_,_,_,rfl,_⟩:=b;exact key h TL TL
 |lam=>obtain ⟨_,_,_,_,_,_,_,rfl,_⟩:=b;exact key h TL TL
 |eO=>obtain ⟨_,_,_,rfl,_⟩:=b;exact key h TL TL
theorem ut {i:Int}:VA ((i,v)::r) i=TK v:=TQ (Qq Prod.snd) (List.find?_cons_of_pos (TS TL))
theorem E1 {i k:Int} (e:k≠i):VA ((k,v)::r) i=VA r i:=TQ (Qq Prod.snd) (List.find?_cons_of_neg λh=>e (TM h))
theorem E2 {i k:Int} {v:Int} {r:List (Int×Int)} (e:k≠i):((k,v)::r).lookup i=r.lookup i:=by exact aa (P3 ..) (aa (beq_eq_false_iff_ne.mpr e.symm ..) TL)
theorem yV {xs:List (Int×Int)}:∀{a:List (Int×TT)},a.map (·.1)=xs.map (·.1)->(VA a i).isSome=(xs.lookup i).isSome:=by
 induction xs with
 |nil=>
  intro a h;cases a with
  |nil=>rfl
  |cons x r=>exact TU h (Qz _ _)
 |cons x d c=>
  intro a h;cases a with
  |nil=>exact TU h.symm (Qz _ _)
  |cons y r=>
   have e:y.1=x.1:=(QX h).1;by_cases q:x.1=i
   ·subst q;exact (TQ (λk=>(VA ((k,y.2)::r) x.1).isSome) e).trans ((TQ Se ut).trans (TQ Se (List.lookup_cons_self (b:=x.2)).symm))
   ·exact (TQ Se (E1 (k:=y.1) (e▸q))).trans ((c (QX h).2).trans (TQ Se (E2 q)).symm)
theorem sW (b:Rep C X s.heap a (.eO xs)):ay C A X s (T7 .NotIn (.int i t) a) (.bool (!(xs.lookup i).isSome)):=by obtain ⟨l,o,c,rfl,g,e,f,hn,hd,d,h,z⟩:=b;intro Q E k;refine wpAny_notIn_of (intKind_is _ _ _ _) hn (TH (Tp.mpr (i12 o g hd))) (aa (yV d ..) ?_);exact k _ _ (.tok s _) (.bool _)
theorem CM {c:Type} [BEq c] [LawfulBEq c] [DecidableEq c] {a b:c}:decide (a=b)=(a==b):=by rw [QP,decide_eq_true_eq,beq_iff_eq]
theorem E3 (o:Rep C X s.heap a x) (g:Rep C X s.heap b y) (h:KK x y=TK r):ay C A X s (T7 .In a b) (.bool r)/\ay C A X s (T7 .NotIn a b) (.bool (!r)):=by
 have j:∀{c xs},c="tuple"\/c="list"->qe X s.heap c (λvs=>aP C X s.heap vs xs) b->Lk x xs=TK r->ay C A X s (T7 .In a b) (.bool r)/\ay C A X s (T7 .NotIn a b) (.bool (!r)):=λ{c xs} n g h=>by refine bO h λu e h=>?_;obtain rfl:=c6 e;refine bB o λz t d f p=>?_;subst d;subst f;obtain ⟨l,vs,m,rfl,q,nb,rs,w⟩:=g;refine aM (bh h) λv d=>?_;subst d;exact CL n q rs v
 cases y with
 |bytes=>refine bO h λi e h=>?_;obtain rfl:=a8 e;refine cR o λk d=>?_;subst d;refine bB g λu k' d f p=>?_;subst d;subst f;refine aM (bh h) λn d=>?_;subst d;exact ⟨yT n,qU n⟩
 |tuple=>exact j (.inl TL) g h
 |list=>exact j (.inr TL) g h
 |_=>exact aZ h
theorem CN {a b:TT} (f:Rep C X s.heap a x) (g:Rep C X s.heap b y) (h:Iz op x y=TK r):ay C A X s (T7 op a b) (.bool r):=by
 cases x with
 |int i=>
  refine bO h λj e h=>?_;obtain rfl:=a8 e;refine cR f λk c=>?_;subst c;refine cR g λk' c=>?_;subst c;cases op with
  |Eq=>exact le h▸f9 TL λQ E q=>P.eq_int q
  |NotEq=>exact le h▸f9 (decide_not.trans (TQ _ CM)) λQ E q=>P.ne_int q
  |Lt=>exact le h▸fR λQ E q=>P.lt_int q
  |LtE=>exact le h▸fR λQ E q=>P.le_int q
  |Gt=>exact le h▸fR λQ E q=>P.gt_int q
  |GtE=>exact le h▸fR λQ E q=>P.ge_int q
  |_=>exact aZ h
 |str i=>
  refine bO h λj e h=>?_;obtain rfl:=c6 e;refine bB f λu k c d l=>?_;subst c;subst d;refine bB g λm k' c d l=>?_;subst c;subst d;cases op with
  |Eq=>exact le h▸f9 (by first|rfl|(refine p9 (QP ..) ?_;simp)) λQ E q=>P.eq_str q
  |NotEq=>exact le h▸f9 (by first|rfl|(refine p9 (QP ..) ?_;simp)) λQ E q=>P.ne_str q
  |LtE=>exact le h▸f9 (by first|rfl|(rw [QP];simp)) λQ E q=>P.le_str q
  |_=>exact aZ h
 |bytes i=>
  refine bO h λj e h=>?_;obtain rfl:=bF e;refine bB f λu k c d l=>?_;subst c;subst d;refine bB g λm k' c d l=>?_;subst c;subst d;cases op with
  |Eq=>exact le h▸f9 (by first|rfl|(refine p9 (QP ..) ?_;simp)) λQ E q=>eq_bytes q
  |NotEq=>exact le h▸f9 (by first|rfl|(refine p9 (QP ..) ?_;simp)) λQ E q=>ne_bytes q
  |_=>exact aZ h
 |_=>exact aZ h
theorem yW (h:Id y=TN):y=.none:=by cases y<;>first|rfl|exact TU h Qy
theorem GJ (m:ce n A) (d:Rep C X s.heap a x) (f:Rep C X s.heap b y) (h:oE op x y r):ay C A X s (T7 op a b) (.bool r):=by
 have l:A.units+11+1<cLine:=Pb (Pg (PV _ (8*n)) 12) (Qa (Nat.add_lt_add_right m.u 12) (by decide));rcases h with h|⟨xs,rfl,rfl,p,rfl,rfl⟩|⟨xs,rfl,rfl,p,rfl,rfl⟩
 ·cases op with
  |Is=>refine iO h λg h=>?_;obtain rfl:=yW g;obtain rfl:b=_:=f;exact f9 (kR d h).1.symm λQ E k=>wpAny_is_plain (kR d h).2 k
  |IsNot=>refine iO h λg h=>?_;obtain rfl:=yW g;obtain rfl:b=_:=f;refine mO h λq h' c=>?_;subst c;exact f9 (TQ _ (kR d h').1.symm) λQ E k=>wpAny_isNot_plain (kR d h').2 k
  |In=>exact (E3 d f h).1
  |NotIn=>
   have j:(KK x y).map (!·)=TK r->ay C A X s (T7 .NotIn a b) (.bool r):=λh=>by refine mO h λq h' c=>?_;subst c;exact (E3 d f h').2
   cases y with
   |eO=>refine bO h λi e h=>?_;obtain rfl:=a8 e;refine cR d λk c=>?_;subst c;exact le h▸sW f
   |_=>exact j h
  |_=>exact CN d f h
 ·exact (qV p d f l).1
 ·exact (qV p d f l).2
theorem iR (h:n<=av):(n:Int)<2^63:=Ss (Ph.mpr h) (by decide)
theorem empty_eq {vs:Array TT} (r:aP C X h vs.toList xs):(!vs.isEmpty)=!xs.isEmpty:=by
 have e:vs.size=xs.length:=r.length
 (rw [Array.isEmpty];refine aa (e ..) ?_)
 cases xs<;>rfl
theorem yX (c:Rep C X s.heap a x) (h:b5 x=TK t):gM C A s (truthy a) t:=by
 intro Q E k;cases x with
 |bool b=>obtain rfl:a=_:=c;obtain rfl:=le h;exact UU (k _ (.refl s))
 |list xs=>refine ac λd=>?_;obtain rfl:=le h;obtain ⟨l,vs,m,rfl,e,g,rs,f⟩:=c;refine d ?_;clear d;refine wpAny_truthy_list (eK _ e TL (⟨_,TL⟩)) (iR f) (aa (empty_eq rs ..) ?_);exact k _ (.tok s _)
 |_=>exact aZ h
theorem h6 {T id:String} (b:UA (.type T) "__getitem__"=pure (TK (.builtin id))) (ht:s.TypeIs a T):gM C A s (Uh a) TO:=by intro Q E k;exact aa (getitemInPython_of_ne ht.not_modules ..) (TV (Ui ht b (TX (k _ (.refl s)))))
theorem qW (h:n<=av):¬(n:Int)≥2^63:=Tv.mpr (iR h)
theorem GK {vs:List TT} (f:Rep C X s.heap a x) (h:m7 x=TK n):ay C A X s (call (.builtin "len") [a]) (.int n):=by
 intro Q E k;cases x with
 |tuple xs=>refine ac λc=>?_;obtain ⟨l,vs,m,rfl,g,j,rs,i⟩:=f;obtain rfl:vs.size=n:=rs.length.trans (le h);refine c ?_;exact P.len_tuple g (qW i) (k _ _ (.tok s _) (.int _ _))
 |list xs=>refine ac λc=>?_;obtain ⟨l,vs,m,rfl,g,j,rs,i⟩:=f;obtain rfl:vs.size=n:=rs.length.trans (le h);refine c ?_;exact call_len_list (eK _ g TL (⟨_,TL⟩)) (iR i) (k _ _ (.tok s _) (.int _ _))
 |bytes b=>refine ac λc=>bB f λu o d e z=>?_;subst d;subst e;obtain rfl:u.size=n:=le h;refine c ?_;exact len_bytes (O5 z (by decide)) (k _ _ (.tok s _) (.int _ _))
 |str b=>refine ac λc=>bB f λu o d e z=>?_;subst d;subst e;obtain rfl:u.cps.size=n:=le h;refine c ?_;clear c;exact P.len_str (qW z) (k _ _ (.tok s _) (.int _ _))
 |_=>exact aZ h
theorem seqIndex_of (a:0<=i) (b:i.toNat<n):seqIndex? i n=TK i.toNat:=by unfold seqIndex?;simp only [(PK.mpr a),if_false];exact aa (TY (by simp;exact ⟨a,(Int.toNat_lt a).mp b⟩) ..) TL
theorem toNat_line {i:Int} {n:Nat} (a:i.toNat<n) (z:n<=av):i<2^63:=Ss (Int.self_le_toNat i) (iR (O5 (Pw a) z))
theorem item_list {v:TT} {Q:TT->TP->Prop} {E:TT->TP->Prop} (g:s.heap.get? l=TK (seqObj "list" vs m)) (z:vs.size<=av) (b:0<=i) (a:vs[i.toNat]?=TK v) (k:Q v s):
  T6 (model C.prog C.w) A (UN (.ref l) (.int i t)) Q E s:=
 wpAny_getItem_list (eK _ g TL (⟨_,TL⟩)) b (toNat_line (Ry.mp a).1 z) a k
theorem sX {xs:List (Int×Int)}:∀{a:List (Int×TT)},a.map (·.1)=xs.map (·.1)->(∀(n:Nat) k v,a[n]?=TK (k,v)->∃(j:Int) (t:Tok),v=RL j t/\xs[n]?=TK (k,j))->xs.lookup i=TK j-> ∃t,VA a i=TK (.int j t):=by
 induction xs with
 |nil=>intro _ _ _ h;exact aZ h
 |cons x l d=>
  intro a h b c;cases a with
  |nil=>exact TU h.symm (Qz _ _)
  |cons y r=>
   have e:y.1=x.1:=(QX h).1;by_cases q:x.1=i
   ·subst q;refine kJ (b 0 y.1 y.2 TL) λm t f g=>⟨t,?_⟩;exact (TQ (λk=>VA ((k,y.2)::r) x.1) e).trans (ut.trans (TQ TK (f.trans (TQ (λj=>RL j t) ((TQ Prod.snd (le g)).symm.trans (le ((List.lookup_cons_self).symm.trans c):x.2=j))))))
   ·refine cR (d (QX h).2 (λn k v h=>b (n+1) k v h) ((E2 q).symm.trans c)) λt ht=>⟨t,?_⟩;exact (E1 (e▸q)).trans ht
theorem CO {a b:TT} {x y r:V} (D:Rep C X s.heap a x) (R:Rep C X s.heap b y) (h:fj x y=TK r):ay C A X s (UN a b) r:=by
 intro Q E k;refine ac λf=>bO h λi e h=>?_;obtain rfl:=a8 e;refine cR R λt d=>?_;subst d;refine f ?_;clear f;cases x with
 |tuple xs=>refine ac λf=>iO h λp h=>?_;obtain ⟨l,vs,m,rfl,H,M,rs,J⟩:=D;refine aT (rs.get h) λv B L=>f ?_;clear f;have lt:i.toNat<vs.size:=(PP.mp B).1;have:=iR J;exact P.getItem_tuple (n:=m) H (by lia) (by lia) (seqIndex_of p lt) (PZ▸B) (k _ _ (.refl s) L)
 |list xs=>refine ac λf=>iO h λp h=>?_;obtain ⟨l,vs,m,rfl,H,M,rs,J⟩:=D;refine aT (rs.get h) λv B L=>f ?_;clear f;exact item_list H J p (PZ▸B) (k _ _ (.refl s) L)
 |bytes b=>refine ac λf=>iO h λp h=>bB D λu T d q z=>?_;subst d;subst q;refine mO h λc F d=>?_;subst d;refine f ?_;clear f;have U:i.toNat<u.toList.length:=((PP.mp F).1:i.toNat<u.size);refine getItem_bytes (l:=u.toList) (O5 z (by decide)) p (by lia) ?_;refine aa ((by refine aa (QE ..) (aa (F ..) ?_);rfl:u.toList.getD i.toNat 0=c) ..) ?_;exact k _ _ (.tok s _) (.int _ _)
 |str b=>refine ac λf=>iO h λp h=>bB D λu T d q z=>?_;subst d;subst q;refine mO h λc F d=>?_;subst d;refine f ?_;clear f;have N:u.cps[i.toNat]?=TK c:=PZ▸F;have lt:i.toNat<u.length:=(Ry.mp N).1;have z':(u.length:Int)<2^63:=iR z;refine P.getItem_str (c:=c) (by simp;lia) (by refine aa (seqIndex_of p lt ..) ?_;exact N) ?_;exact k _ _ (.tok s _) (.str ⟨#[c]⟩ _ (show 1<=av by decide))
 |eO W=>refine ac λf=>mO h λj Y d=>?_;subst d;obtain ⟨l,o,O,rfl,g,M,F,hn,hd,B,Z,z⟩:=D;refine cR (sX B Z Y) λt' ht=>f ?_;clear f;exact wpAny_getItem_of (knd:=intKind C.prog C.w) (k:=i) (by exact intKind_is _ _ _ _) (TH (Tp.mpr (i12 o g hd))) ht (k _ _ (.tok s _) (.int _ _))
 |_=>exact aZ h
structure Ij (C:Cx):Prop where
 uu:∀T∈["NoneType","bool","int","str","bytes","tuple","list"],Vm C.K (.type T) (.ref C.cA)=TK TO
 qX:∀T∈["NoneType","int","str","tuple","list"],Vm C.K (.type T) (.type "bytes")=TK TO
 nN:Vm C.K (.ref C.cA) (.type "bytes")=TK TO
 yY:∀T∈["str","bytes","tuple","list"],Vm C.K (.type T) (.type "int")=TK TO
 yZ:∀T∈["NoneType","bool","int","str","bytes"],VQ C.K (.type T) [.type "list",.type "tuple"]=TK TO
 qY:VQ C.K (.type "tuple") [.type "list",.type "tuple"]=TK TN
 uv:VQ C.K (.type "list") [.type "list",.type "tuple"]=TK TN
 uw:VQ C.K (.ref C.cA) [.type "list",.type "tuple"]=TK TO
 hg:plainGet C.K C.cA "__class__"=TN
 Jv:hasDictIn C.K C.cA=TN
 ha:UQ C.K (.ref C.cA) "__class__"=TK (TK (.builtin "object.__class__"))
 hn:specialIn C.K (.builtin "object.__class__") "__get__"=TK (TK (.builtin "getset_descriptor.__get__"))
 Ni:takesIn C.K (.builtin "object.__class__")=TK TN
 hm:mroIn C.K C.cA (.type "object")=TK TN
theorem CP (h:∀(Q:TT->TP->Prop) (E:TT->TP->Prop),(∀tk,Q (.bool b) {s with toks:=tk})->T6 (model C.prog C.w) A t Q E s):ay C A X s t (.bool b):=λQ E k=>h Q E λtk=>k _ _ (.tok s tk) (.bool b)
theorem y0 (ok:c9 C X s) (b:Rep C X s.heap a x) (h:sA x=TK T):(∃H,KitX C.K a (.type T) H/\H s.heap)/\a≠.builtin "__main__.__loader__#opaque":=by
 cases x with
 |none=>obtain rfl:a=_:=b;obtain rfl:=le h;exact ⟨(i12 _ kitx_none trivial),P8⟩
 |bool=>obtain rfl:a=_:=b;obtain rfl:=le h;exact ⟨(i12 _ kitx_bool trivial),P8⟩
 |int=>obtain ⟨_,rfl⟩:=b;obtain rfl:=le h;exact ⟨(i12 _ kitx_int trivial),P8⟩
 |str=>obtain ⟨_,_,rfl,_⟩:=b;obtain rfl:=le h;exact ⟨(i12 _ kitx_str trivial),P8⟩
 |bytes=>obtain ⟨_,_,rfl,_⟩:=b;obtain rfl:=le h;exact ⟨(i12 _ kitx_bytes trivial),P8⟩
 |tuple=>obtain ⟨l,vs,m,rfl,c,_⟩:=b;obtain rfl:=le h;exact ⟨(i12 _ kitx_tuple (i12 _ c TL)),P8⟩
 |list=>obtain ⟨l,vs,m,rfl,c,_⟩:=b;obtain rfl:=le h;exact ⟨(i12 _ kitx_list (i12 _ c TL)),P8⟩
 |_=>exact aZ h
theorem js (ok:c9 C X s) (f:Rep C X s.heap a x) (h:sA x=TK T) (e:Vm C.K (.type T) c=TK b):ay C A X s (call (.builtin "isinstance") [a,c]) (.bool b):=by refine ac λg=>aM (y0 ok f h) λd ne=>aT d λH Z p=>g ?_;exact CP λQ E k=>kia_one Z ok.base.K p e ne k
theorem oX (ok:c9 C X s) (d:Rep C X s.heap a x) (h:sA x=TK T) (g:s.heap.get? f=TK (seqObj "tuple" its n)) (e:VQ C.K (.type T) its.toList=TK b):
  ay C A X s (call (.builtin "isinstance") [a,.ref f]) (.bool b):=by
 refine ac λi=>aM (y0 ok d h) λc ne=>aT c λH Z p=>i ?_;exact CP λQ E k=>kia_tup Z ok.base.K p g e ne k
theorem qZ (I:Ij C) (e:s.heap.get? a=TK (fP C.cA d)) (gd:s.heap.get? d=TK b) (hd:∃es n,b=de es n):KitX C.K (.ref a) (.ref C.cA) (λh=>InstAt h a (fP C.cA d) C.cA (TK b))/\InstAt s.heap a (fP C.cA d) C.cA (TK b):=by refine xK hd λes n c=>?_;subst c;exact ⟨kitx_own I.hg I.Jv I.ha I.hn I.Ni I.hm,⟨e,TL,TL,gd⟩⟩
theorem GL {l:List String} (h:l.contains T=TN):T∈l:=by simpa using h
theorem jt (h:lz l x=TN):∃T,sA x=TK T/\T∈l:=by
 unfold lz at h;cases e:sA x with
 |none=>rw [e] at h;cases h
 |some T=>rw [e] at h;exact (i12 T TL (GL h))
theorem ux (h:lz [T] x=TN):sA x=TK T:=by exact aT (jt h) λU e m=>aa (e ..) (aa (Pv.mp m ..) TL)
theorem nO (r:Rep C X h a x) (e:jg x=TN):∃l d es n,a=.ref l/\h.get? l=TK (fP C.cA d)/\h.get? d=TK (de es n):=by
 cases x with
 |atom=>obtain ⟨l,d,_,_,n,_,_,e,g,gd,_⟩:=r;exact (NS l d _ n e g gd)
 |_=>exact TU e Qy
theorem L3 (h:(a||b)=TN):a=TN\/b=TN:=by rwa [Bool.or_eq_true] at h
theorem CQ {r:Bool} (h:(if c=TN then TK x else if d=TN then TK y else TW)=TK r):(c=TN/\r=x)\/(d=TN/\r=y):=by
 by_cases a:c=TN
 ·rw [TY a] at h;exact .inl ⟨a,(le h).symm⟩
 ·rw [TZ a] at h;exact iO h λhd h=>.inr ⟨hd,(le h).symm⟩
theorem GM (I:Ij C) (ok:c9 C X s) (i:Rep C X s.heap a x) (v:Rep C X s.heap b t) (h:oF x t=TK r):ay C A X s (call (.builtin "isinstance") [a,b]) (.bool r):=by
 have f:∀{c:TT} {q:Bool},jg x=TN->Vm C.K (.ref C.cA) c=TK q->ay C A X s (call (.builtin "isinstance") [a,c]) (.bool q):=λe H=>by refine ac λj=>MX (nO i e) λl d es n g u gd=>?_;subst g;refine aM (qZ I u gd (hY es n TL)) λZ p=>j ?_;clear j;exact CP λQ E k=>kia_one Z ok.base.K p H P8 k
 cases t with
 |b2=>
  obtain rfl:b=_:=v;rcases CQ h with ⟨e,rfl⟩|⟨e,rfl⟩
  ·exact f e (by unfold Vm;exact aa (TY (by simp) ..) TL)
  ·exact aT (jt e) λT o m=>js ok i o (I.uu T m)
 |ty n=>
  obtain rfl:b=_:=v;cases n with
  |bytes=>
   rcases CQ h with ⟨e,rfl⟩|⟨e,rfl⟩
   ·exact js ok i (ux e) (by unfold Vm;exact aa (TY (by decide) ..) TL)
   ·rcases L3 e with e|e
    ·exact aT (jt e) λT o m=>js ok i o (I.qX T m)
    ·exact f e I.nN
  |int=>
   rcases CQ h with ⟨e,rfl⟩|⟨e,rfl⟩
   ·exact js ok i (ux e) (by unfold Vm;exact aa (TY (by decide) ..) TL)
   ·exact aT (jt e) λT o m=>js ok i o (I.yY T m)
  |_=>exact aZ h
 |tuple l=>
  refine ac λj=>iO h λJ h=>?_;obtain rfl:=isLT_eq J;obtain ⟨l,vs,m,rfl,u,L,rs,M⟩:=v;refine j ?_;clear j;have hL:vs.toList=[.type "list",.type "tuple"]:=by refine ac λj=>bB rs λw w e g y=>bB y λw w z B D=>?_;subst g;subst z;subst B;subst D;refine j ?_;clear j;exact e
  rcases CQ h with ⟨e,rfl⟩|⟨e,rfl⟩
  ·rcases L3 e with e|e
   ·exact oX ok i (ux e) u (by refine aa (hL ..) ?_;exact I.uv)
   ·exact oX ok i (ux e) u (by refine aa (hL ..) ?_;exact I.qY)
  ·rcases L3 e with e|e
   ·refine aT (jt e) λT o m=>?_;exact oX ok i o u (by refine aa (hL ..) ?_;exact I.yZ T m)
   ·refine MX (nO i e) λN d es n g F gd=>?_;subst g;refine aM (qZ I F gd (hY es n TL)) λZ p=>?_;exact CP λQ E k=>kia_tup (its:=vs.toList) Z ok.base.K p u (by refine aa (hL ..) ?_;exact I.uw) P8 k
 |_=>exact aZ h
theorem GN (d:Rep C X s.heap a (.str [c])):ay C A X s (call (.builtin "ord") [a]) (.int c):=by
 refine bB d.Ld λu k b e z=>?_;subst b;have:u=⟨#[c]⟩:=by cases u;congr 1;exact RE.mp e
 subst this;exact kC λQ E h=>P.ord_of_char h
theorem GO (c:Rep C X s.heap a (.int i)) (h:0<=i/\i<1114112):ay C A X s (call (.builtin "chr") [a]) (.str [i.toNat]):=by refine cR c.Le λk b=>?_;subst b;intro Q E q;exact P.chr_of_int (by simp;lia) (q _ _ (.tok s _) (.str ⟨#[i.toNat]⟩ _ (show 1<=av by decide)))
end
theorem jW (h:Runs M d p t f s e s'):s.heap.objs.size<=s'.heap.objs.size:=by
 induction h with
 |done=>exact Px _
 |raise=>exact Px _
 |update _ _ c=>exact O5 (O9 (Q6 ..).symm) c
 |alloc _ c=>exact O5 (O5 (Sj _) (O9 (P0 ..).symm)) c
 |call _ _ a b=>exact O5 a b
 |yield=>exact Px _
 |resumeFresh _ _ _ _ a b=>exact O5 a b
 |resumeSuspended _ _ _ _ a b=>exact O5 a b
 |segRet _ _ a b=>exact O5 a b
 |segGen _ _ a b=>exact O5 a b
 |segSuspGen _ _ _ _ a b=>exact O5 a b
 |_=>assumption
theorem sY (h:Wakes M e p g r s res s'):s.heap.objs.size<=s'.heap.objs.size:=by
 unfold Wakes at h;split at h
 ·exact h.elim
 ·split at h
  ·refine m0 h λb c hr d d a=>?_;subst a;have:=jW hr;exact this
  ·exact h.2▸Px _
  ·refine aM h λd a=>?_;subst a;exact Px _
 ·refine m0 h λb c hr d d a=>?_;subst a;have:=jW hr;exact this
 all_goals first|(obtain ⟨_,rfl⟩:=h;exact Px _)|(exact h.2▸Px _)|skip
theorem CR {j:Type} {Q:j->Pos->TP->Prop} {E:TT->Pos->TP->Prop}:∀t p s n,n<=s.heap.objs.size->Sem.wp M l t Q E p s-> Sem.wp M l t (λa d s'=>Q a d s'/\n<=s'.heap.objs.size) (λe d s'=>E e d s'/\n<=s'.heap.objs.size) p s:=by
 intro t;induction t with
 |pure a=>exact λp s n hn h=>⟨h,hn⟩
 |raise e=>exact λp s n hn h=>⟨h,hn⟩
 |rule _ k b=>exact λp s n hn h=>b () p s n hn h
 |«at» d k b=>exact λp s n hn h=>b () d s n hn h
 |load a _ k b=>exact λp s n hn ⟨o,e,h⟩=>(i12 o e (b o p s n hn h))
 |update a _ f k b=>exact λp s n hn ⟨e,h⟩=>⟨e,b () p _ n (O5 hn (O9 (Q6 ..).symm)) h⟩
 |loadIfAlive a k b=>exact λp s n hn h=>b _ p s n hn h
 |point _ k b=>exact λp s n hn h=>b () p s n hn h
 |alloc o k b=>exact λp s n hn h=>b _ p _ n (O5 hn (O5 (Sj _) (O9 (P0 ..).symm))) h
 |fresh k b=>exact λp s n hn h=>b _ p _ n hn h
 |ask k b=>exact λp s n hn h=>b _ p s n hn h
 |choose src m k b=>exact λp s n hn ⟨e,h⟩=>⟨e,b _ p _ n hn h⟩
 |os q _ k b=>exact λp s n hn h=>b _ p _ n hn h
 |call c h _ _ k b=>exact λp s n hn ⟨r,s',hr,h'⟩=>(dC r s' hr (b r p s' n (O5 hn (jW hr)) h'))
 |handled own k b=>exact λp s n hn h=>b _ p s n hn h
 |genState g k b=>exact λp s n hn ⟨st,e,h⟩=>(i12 st e (b _ p s n hn h))
 |newGen c k b=>exact λp s n hn h=>b _ p _ n hn h
 |resume g r _ k b=>exact λp s n hn ⟨res,s',i,h'⟩=>(dC res s' i (b res p s' n (O5 hn (sY i)) h'))
 |stack k b=>exact λp s n hn h=>b _ p s n hn h
 |thread k b=>exact λp s n hn h=>b _ p s n hn h
 |_=>exact λp s n hn h=>h.elim
theorem bj {c:Type} {t:Sem c} {Q:c->TP->Prop} {E:TT->TP->Prop} (h:T6 M A t (λa s'=>s.heap.objs.size<=s'.heap.objs.size->Q a s') E s):T6 M A t Q E s:=λd p b=>Qo M d _ (λa f s' q=>q.1 q.2) (λe f s' q=>q.1) p s (CR t p s _ (Px _) (h d p b))
section
variable {C:Cx} {A:T0} {X:AP} {s:TP}
noncomputable def ownsTuple (n:String):Bool:=["enumerate","zip","dict_itemiterator","dict_reverseitemiterator","odict_iterator","itertools.zip_longest","itertools.pairwise"].contains n
theorem q0 {Q:Unit->TP->Prop} {E:TT->TP->Prop} (g:s.heap.get? I=TK o) (d:o.cls=.type n) (hn:ownsTuple n=TO) (h:Q () s):
  T6 M A (Vt c (.ref I) u) Q E s:=by
 have b:T6 M A (do
   let (.ref r,.ref a):=(Sl I,u)|return
   let o ←load r
   match o.cls,o.data with
   |.type n,.fields vs=>
    if ["enumerate","zip","dict_itemiterator","dict_reverseitemiterator","odict_iterator","itertools.zip_longest","itertools.pairwise"].contains n&&vs[0]?==TK (U5 a) then
     rule "for.unpacks-the-owned-tuple"
     updateField r 0 .none
   |_,_=>pure ():Sem Unit) Q E s:=by
  cases u with
  |ref a=>
   refine TV (UV g ?_);refine aa (d ..) ?_;cases o.data with
   |fields vs=>
    have:(["enumerate","zip","dict_itemiterator","dict_reverseitemiterator","odict_iterator","itertools.zip_longest","itertools.pairwise"].contains n&&vs[0]?==TK (U5 a))=TO:=by refine aa (show (["enumerate","zip","dict_itemiterator","dict_reverseitemiterator","odict_iterator","itertools.zip_longest","itertools.pairwise"].contains n)=TO from hn) ?_;rfl
    dsimp only;exact aa (this ..) (TX h)
   |_=>exact TX h
  |_=>exact TX h
 cases c with
 |Tuple=>exact b
 |List=>exact b
 |_=>exact TX h
theorem h7 {P:Nat->TT->Prop} {St:Nat->Ut->Prop} (W:Walks C.prog C.w A I l [I] n P St) (hn:items.length=n) (p:∀i h,St i h->∃o m,h.get? I=TK o/\o.cls=.type m/\ownsTuple m=TO) (hP:∀{X:AP} {s:TP} {i v u},X I->Rep C X s.heap a x->St i s.heap->items[i]?=TK v->P i u->Rep C X s.heap u v):Walk C A I a x items St l where
 frame:=λi h h' st k=>W.frame i h h' st k
 item:=λ{X s i v} Q E ok hX f st j c=>by
  refine up (bj (W.item i s _ E (hn▸(PP.mp j).1) st λu h' tk hp st' k z=>?_));have k':=λb o ne e=>k b o (by simpa using ne) e;refine c u {s with heap:=h',toks:=tk} (hY h' tk TL) k' z ?_ λq t y _ d=>?_
  ·exact Rep.fw (hX I TL) k' (hP (hX I TL) f st j hp)
  ·exact bB (p _ _ st') λo m g r hm=>up (q0 g r hm (d _ (hY h' tk TL) (λ_ _ _ e=>e) (Px _) st'))
 done:=λ{X s} Q E ok hX f st c=>by subst hn;exact up (bj (W.done s _ E st λh' tk k z=>c {s with heap:=h',toks:=tk} (hY h' tk TL) (λb o ne e=>k b o (by simpa using ne) e) z))
 self:=λ{X s i} Q E ok st c=>up (W.self i s Q E st c)
variable {n:Nat}
noncomputable abbrev lT (C:Cx) (A:T0) (X:AP) (s:TP) (a:TT) (x:V) (items:List V) (Q:TT->TP->Prop):Prop:=∀I s' T c,a9 s s'->s.heap.objs.size<=I->I<s'.heap.objs.size->T 0 s'.heap->(∀b∈c,b=I\/((∃o,s.heap.get? b=TK o)/\¬X b))->Walk C A I a x items T c->Q (.ref I) s'
theorem dJ {Q:TT->TP->Prop} {T:Nat->Ut->Prop} (h:lT C A X s a x items Q) (ho:o.isFreed=TO) (e:T 0 (s.heap.push o)) (c:∀b∈d,b=s.heap.objs.size\/((∃o,s.heap.get? b=TK o)/\¬X b)) (W:Walk C A s.heap.objs.size a x items T d):Q (.ref s.heap.objs.size) {s with heap:=s.heap.push o}:=h _ _ T d (a9.push s o) (Px _) (by refine aa (P0 ..) ?_;exact Qx _) e c W
theorem q3 {i:Nat} (e:Sl l=.ref f) (g:s.heap.get? f=TK (seqObj c a q)) (rs:aP C X s.heap a.toList xs) (st:∃o,s.heap.get? l=TK o/\o.cls=.type c/\∃n,o.data=.seq vs n) (h:xs[i]?=TK v) (hp:vs[i]?=TK u):Rep C X s.heap u v:=by refine ac λj=>?_;obtain rfl:=S0 e;refine ix st λo g2 k b=>cR b λt m=>?_;obtain rfl:=le (g.symm.trans g2);refine aM (Data.seq.inj m) λd k=>?_;subst d;refine aT (rs.get h) λw p r=>j ?_;exact le (p.symm.trans (PZ.trans hp))▸r
theorem wb {a:TT} {xs:List V} {Q:TT->TP->Prop} {E:TT->TP->Prop} (j:ce n A) (k:Rep C X s.heap a (.list xs)) (h:lT C A X s a (.list xs) xs Q):T6 (model C.prog C.w) A (Vb a) Q E s:=by
 refine ac λf=>?_;obtain ⟨l,vs,m,rfl,c,p,rs,B⟩:=k;refine f ?_;clear f;refine Vi (eK _ c TL (⟨_,TL⟩)) (dJ h TL ⟨(eK _ (Pz _ TL) TL TL),(eK _ (Pq _ c) TL (⟨_,TL⟩))⟩ (λb mb=>?_) (h7 (Walks.list j.h s.heap.objs.size l (QZ (Py c):l≠s.heap.objs.size) vs) (rs.length:vs.size=xs.length).symm (λi h ⟨⟨o,g,q,_⟩,_⟩=>(gF o _ g q (by decide))) λ{X s i v u} hX r st t hp=>?_))
 ·exact (Pf.mp mb).imp id λmb=>by obtain rfl:=Pv.mp mb;exact ⟨⟨_,c⟩,p⟩
 ·obtain ⟨D,x,F,e,d,y,rs',z⟩:=r;exact q3 e d rs' st.2 t hp
theorem iter_tuple {a:TT} {xs:List V} {Q:TT->TP->Prop} {E:TT->TP->Prop} (j:ce n A) (k:Rep C X s.heap a (.tuple xs)) (h:lT C A X s a (.tuple xs) xs Q):T6 (model C.prog C.w) A (Vb a) Q E s:=by
 refine ac λf=>?_;obtain ⟨l,vs,m,rfl,c,p,rs,B⟩:=k;refine f ?_;clear f;refine wpAny_pyIter_tuple (eK _ c TL (⟨_,TL⟩)) (dJ h TL ⟨(eK _ (Pz _ TL) TL TL),(eK _ (Pq _ c) TL (⟨_,TL⟩))⟩ (λb mb=>?_) (h7 (Walks.tuple j.h s.heap.objs.size l (QZ (Py c):l≠s.heap.objs.size) vs) (rs.length:vs.size=xs.length).symm (λi h ⟨⟨o,g,q,_⟩,_⟩=>(gF o _ g q (by decide))) λ{X s i v u} hX r st t hp=>?_))
 ·exact (Pf.mp mb).imp id λmb=>by obtain rfl:=Pv.mp mb;exact ⟨⟨_,c⟩,p⟩
 ·obtain ⟨D,x,F,e,d,y,rs',z⟩:=r;exact q3 e d rs' st.2 t hp
theorem sZ {Q:TT->TP->Prop} {E:TT->TP->Prop} (l:ce n A) (m:Rep C X s.heap a (.bytes b)) (h:lT C A X s a (.bytes b) (b.map λc=>.int c.toNat) Q):T6 (model C.prog C.w) A (Vb a) Q E s:=by
 refine bB m λu k d e z=>?_;subst d;subst e;refine KBw.pyIter_bytes (dJ h TL ⟨_,Pz _ TL,TL,TL⟩ (λb mb=>?_) (h7 (KBw.walks l.h s.heap.objs.size u k) (by simp) (λi h ⟨o,g,f,_⟩=>⟨o,_,g,f,by decide⟩) λ{X s i v w} hX r st j hp=>?_))
 ·exact .inl (Pv.mp mb)
 ·refine kJ hp λc t f d=>?_;subst d;rw [PM,PZ,f] at j;exact le j▸.int _ _
theorem y3 {Q:TT->TP->Prop} {E:TT->TP->Prop} (m:ce n A) (p:Rep C X s.heap a (.str b)) (h:lT C A X s a (.str b) (b.map λc=>.str [c]) Q):T6 (model C.prog C.w) A (Vb a) Q E s:=by
 refine bB p λu k d l z=>?_;subst d;subst l;have f:∀{X:AP} {s:TP} {i v w},(u.cps.toList.map λc=>V.str [c])[i]?=TK v->SignAt u i w->Rep C X s.heap w v:=λ{X s i v w} e hp=>by refine kJ hp λc t j d=>?_;subst d;rw [PM,PZ,j] at e;exact le e▸.str ⟨#[c]⟩ _ (show 1<=av by decide)
 cases ha:u.cps.all (· <128)
 ·exact wpAny_pyIter_wide ha (dJ h TL ⟨_,Pz _ TL,TL,TL⟩ (λb mb=>.inl (Pv.mp mb)) (h7 (Walks.strWide m.h s.heap.objs.size u k) (by simp) (λi h ⟨o,g,j,_⟩=>⟨o,_,g,j,by decide⟩) λ{X s i v w} hX r st e hp=>f e hp))
 ·exact wpAny_pyIter_ascii ha (dJ h TL ⟨_,Pz _ TL,TL,TL⟩ (λb mb=>.inl (Pv.mp mb)) (h7 (Walks.strAscii m.h s.heap.objs.size u k) (by simp) (λi h ⟨o,g,j,_⟩=>⟨o,_,g,j,by decide⟩) λ{X s i v w} hX r st e hp=>f e hp))
theorem y4 {Q:TT->TP->Prop} {E:TT->TP->Prop} (p:ce n A) (q:Rep C X s.heap a (.pW is)) (h:lT C A X s a (.pW is) (is.map .int) Q):T6 (model C.prog C.w) A (Vb a) Q E s:=by
 refine ac λd=>?_;obtain ⟨l,lo,st,F,m,t,u,v,rfl,g,H,hn,x,z,rfl⟩:=q;refine d ?_;refine wpAny_pyIter_range g x (aa (hn ..) ?_);have y:IsRangeIter (s.heap.push {cls:=.type "range_iterator",data:=.fields #[U5 lo,U5 m,U5 st]}) s.heap.objs.size (lo+((0):Int)*st) (m-(0)) st:=by have:=Pz (o:={cls:=.type "range_iterator",data:=.fields #[U5 lo,U5 m,U5 st]}) s.heap TL;simpa using this
 refine dJ h TL y (λb mb=>.inl (Pv.mp mb))
  (h7 (Walks.range p.h s.heap.objs.size lo st m) (aa (Pd ..) (aa (Pd ..) (aa (QH ..) TL))) (λi h g=>(gF _ _ g TL (by decide))) λ{X s i v w} hX r st' k hp=>?_)
 refine cR hp λJ c=>?_;subst c;rw [PM,PM] at k;refine ac λd=>mO k λL hr e=>mO hr λj f c=>?_;subst c;refine cR (PP.mp f) λB D=>?_;obtain rfl:i=j:=(List.getElem_range B).symm.trans D;refine d ?_;exact e▸.int _ _
theorem CS {Q:TT->TP->Prop} {E:TT->TP->Prop} (c:ce n A) (d:Rep C X s.heap a x) (b:jS x=TK items) (h:lT C A X s a x items Q):T6 (model C.prog C.w) A (Vb a) Q E s:=by
 cases x with
 |tuple=>exact iter_tuple c d (le b▸h)
 |list=>exact wb c d (le b▸h)
 |bytes=>exact sZ c d (le b▸h)
 |str=>exact y3 c d (le b▸h)
 |pW=>exact y4 c d (le b▸h)
 |_=>exact aZ b
theorem wc {Q:List TT->TP->Prop} {E:TT->TP->Prop} (c:ce n A) (d:Rep C X s.heap a (.tuple xs)) (hm:xs.length=m) (h:∀vs s',a9 s s'->aP C X s'.heap vs xs->Q vs s'):
  T6 (model C.prog C.w) A (Vh a m TW) Q E s:=by
 obtain ⟨l,vs,k,rfl,f,j,rs,p⟩:=d;subst hm;refine bx ((rs.length) ..) (bj (unpackItems_tuple c.h (eK _ f TL (⟨_,TL⟩)) λh' i z=>?_));have g:a9 s {s with heap:=h'}:=⟨(hY h' s.toks TL),λb o e=>i b o (QZ (Py e)) e,z⟩;exact h _ _ g (rs.grow g)
theorem oY (a b c:Int):0<=Qu a b c:=by
 unfold Qu;split
 ·rename_i h;split
  ·have:=Int.ediv_nonneg (show 0<=b-a-1 by lia) (Q0 h);lia
  ·exact TF _
 ·split
  ·have:=Int.ediv_nonneg (show 0<=a-b-1 by lia) (show 0<=-c by lia);lia
  ·exact TF _
theorem oZ (ok:c9 C X s) (d:Si a b c=TN) (z:(dH a b c).length<=av):
  a9 s {s with heap:=s.heap.push {cls:=.type "range",data:=.fields #[.int a t,.int b u,.int c v]},toks:=tk}/\
  Rep C X (s.heap.push {cls:=.type "range",data:=.fields #[.int a t,.int b u,.int c v]}) (.ref s.heap.objs.size) (.pW (dH a b c)):=by
 refine ⟨(a9.push s _).trans (a9.tok _ tk),?_⟩;exact ⟨_,_,_,_,_,_,_,_,TL,IsRange.new s.heap a b c t u v,λx=>PG _ (ok.xb _ x).1,(Q2 (oY a b c)).symm,d,O5 (O9 (by (rw [dH];exact aa (Pd ..) (aa (QH ..) TL)))) z,TL⟩
theorem aP.one (r:aP C X h vs [x]):∃v,vs=[v]/\Rep C X h v x:=r.kB
theorem wd {r:V}:∀{xs:List V},(fg xs).bind f=TK r->∃x,xs=[x]/\f x=TK r
 |[x],h=>(i12 x TL h)
 |[],h=>aZ h
 |_::_::_,h=>aZ h
theorem lU (h:gt (x::xs)=TK is):∃i a,x=.int i/\gt xs=TK a/\is=i::a:=by
 cases x with
 |int i=>obtain ⟨a,e,q⟩:=Qi.mp h;exact (gF i a TL e q.symm)
 |_=>exact aZ h
theorem ta:∀{xs:List V} {vs:List TT} {is:List Int},aP C X h vs xs->gt xs=TK is->∃ts:List (Int×Tok),ts.map (·.1)=is/\vs=ts.map λp=>RL p.1 p.2:=by
 intro f;induction f with
 |nil=>intro vs is r e;exact (i12 [] (le e) r)
 |cons x xs g=>intro vs is r e;refine ac λj=>bB (lU e) λi l a k c=>?_;subst a;subst c;refine bB r λv m a d b=>?_;subst a;obtain ⟨t,rfl⟩:=d;refine aT (g b k) λts a c=>?_;subst a;subst c;refine j ?_;exact (i12 ((i,t)::ts) TL TL)
theorem Ik (h:fk i=TN):-2^62<=i/\i<2^62:=⟨Qp (by decide) (TM h).1,Int.lt_trans (TM h).2 (by decide)⟩
theorem y5 (ok:c9 C X s) (rs:aP C X s.heap vs xs) (h:ye .range xs=TK r):ay C A X s (call (.type "range") vs) r:=by
 intro Q E k;refine bO (show (gt xs).bind oG=TK r from h) λis q h=>aT (ta rs q) λts i j=>?_;subst i;subst j;clear q rs;rcases ts with _|⟨⟨a,t⟩,_|⟨⟨b,u⟩,_|⟨⟨c,v⟩,_|⟨_,_⟩⟩⟩⟩
 ·exact aZ h
 ·refine iO h λd h=>?_;obtain rfl:=le h;have d:=bE d;exact aM (oZ (C:=C) (t:=s.toks) (u:=t) (v:=s.toks+1) (tk:=s.toks+1+1) ok (small_one (by decide) (by decide) (Ik d.1).1 (Ik d.1).2) (TM d.2)) λg e=>call_range_1 (k _ _ g e)
 ·refine iO h λd h=>?_;obtain rfl:=le h;have d:=bE d;have f:=bE d.1;exact aM (oZ (C:=C) (t:=t) (u:=u) (v:=s.toks) (tk:=s.toks+1) ok (small_one (Ik f.1).1 (Ik f.1).2 (Ik f.2).1 (Ik f.2).2) (TM d.2)) λg e=>call_range_2 (k _ _ g e)
 ·refine iO h λd h=>?_;obtain rfl:=le h;have l:=bE d;have m:=bE l.1;have o:=bE m.1;have p:=bE o.2;exact aM (oZ (C:=C) (t:=t) (u:=u) (v:=v) (tk:=s.toks) ok (bE (bE o.1).1).1 (TM l.2)) λg e=>call_range_3 (by simpa using m.2) (k _ _ g e) (.inl (PyProof.noPylong_small (by have w:=TM p.1;have x:=TM p.2;clear k l m o p;lia)))
 ·exact aZ h
theorem kS (k:∀b o,s.heap.get? b=TK o->h'.get? b=TK o) (z:s.heap.objs.size<=h'.objs.size):a9 s {s with heap:=h',toks:=tk}:=⟨(hY h' tk TL),k,z⟩
theorem CT (d:ce n A) (e:Rep C X s.heap a (.int i)) (f:Rep C X s.heap b (.int j)):ay C A X s (call (.builtin "min") [a,b]) (.int (min i j)):=by
 intro Q E k;obtain ⟨t,rfl⟩:=e;obtain ⟨u,rfl⟩:=f;refine bj (min_two_ints d.h λh' tk g z=>k _ _ (kS g z) ?_);by_cases c:j<i
 ·refine aa (TY c ..) (aa (Int.min_eq_right (Q0 c) ..) ?_);exact .int _ _
 ·refine aa (TZ c ..) (aa (Tq (PK.mp c) ..) ?_);exact .int _ _
noncomputable def iS (b:List UInt8) (i:Nat):Int:=(b.getD i 0).toNat
theorem kT {u:Array UInt8} (h:∃c t,u[i]?=TK c/\v=RL (c.toNat:Int) t):∃t,v=.int (iS u.toList i) t:=by refine kJ h λc t b a=>?_;subst a;refine ⟨t,TQ (λ(x:UInt8)=>RL (x.toNat) t) ?_⟩;refine aa (QE ..) (aa (PZ ..) (aa (b ..) ?_));rfl
theorem uy:∀{l:List UInt8} {i:Nat},i<l.length->sB l<=iS l i
 |[],_,h=>TU h (O7 _)
 |[_],0,_=>TF _
 |[_],_+1,h=>TU (Q5 h) (O7 _)
 |_::_::_,0,_=>Ph.mpr (Nat.min_le_left _ _)
 |_::c::r,i+1,h=>Qp (Ph.mpr (Nat.min_le_right _ _)) (uy (l:=c::r) (i:=i) (Q5 h))
theorem q4:∀{l:List UInt8},l≠[]->∃j,j<l.length/\iS l j=sB l
 |[],h=>TU TL h
 |[_],_=>(i12 0 Nat.zero_lt_one TL)
 |a::c::r,_=>by exact aT (q4 (l:=c::r) (Qz _ _)) λj b e=>(Nat.le_total a.toNat (sB (c::r))).elim (λq=>⟨0,Nat.zero_lt_succ _,TQ Int.ofNat (RO q).symm⟩) λq=>⟨j+1,Nat.succ_lt_succ b,e.trans (TQ Int.ofNat (R2 q).symm)⟩
theorem uz:∀{l:List UInt8} {i:Nat},i<l.length->iS l i<=sC l
 |[],_,h=>TU h (O7 _)
 |[_],0,_=>TF _
 |[_],_+1,h=>TU (Q5 h) (O7 _)
 |_::_::_,0,_=>Ph.mpr (Nat.le_max_left _ _)
 |_::c::r,i+1,h=>Qp (uz (l:=c::r) (i:=i) (Q5 h)) (Ph.mpr (Nat.le_max_right _ _))
theorem q5:∀{l:List UInt8},l≠[]->∃j,j<l.length/\iS l j=sC l
 |[],h=>TU TL h
 |[_],_=>(i12 0 Nat.zero_lt_one TL)
 |a::c::r,_=>by exact aT (q5 (l:=c::r) (Qz _ _)) λj b e=>(Nat.le_total (sC (c::r)) a.toNat).elim (λq=>⟨0,Nat.zero_lt_succ _,TQ Int.ofNat (Nat.max_eq_left q).symm⟩) λq=>⟨j+1,Nat.succ_lt_succ b,e.trans (TQ Int.ofNat (Nat.max_eq_right q).symm)⟩
theorem we (l:0<b.length) (h:i<=b.length-1) (k:∀j,j<=b.length-1->iS b i<=iS b j):iS b i=sB b:=by exact aT (q4 (PY.mp l)) λj a e=>Tn (e▸k j (Nat.le_sub_one_of_lt a)) (uy (Pb h (Nat.sub_lt l Nat.one_pos)))
theorem wf (l:0<b.length) (h:i<=b.length-1) (k:∀j,j<=b.length-1->iS b j<=iS b i):iS b i=sC b:=by exact aT (q5 (PY.mp l)) λj a e=>Tn (uz (Pb h (Nat.sub_lt l Nat.one_pos))) (e▸k j (Nat.le_sub_one_of_lt a))
theorem lV {b:List UInt8} {R:TT->TP->Prop} {E:TT->TP->Prop} (h:R (.ref s.heap.objs.size) {s with heap:=s.heap.push {cls:=.type "bytes_iterator",data:=.fields #[.bytes b.toArray u,.int 0 0]}}):T6 (model C.prog C.w) A (Vb (.bytes b.toArray u)) R E s:=KBw.pyIter_bytes h
theorem gZ {h h':Ut} (k:∀b q,b∉[h.objs.size]->(h.push o).get? b=TK q->h'.get? b=TK q):∀b q,h.get? b=TK q->h'.get? b=TK q:=λb q e=>k b q (λm=>PG _ ((Pv.mp m)▸Py e)) (Pq _ e)
theorem y6 (s:TP) (o:Obj):∀c∈[s.heap.objs.size],c<(s.heap.push o).objs.size:=λc a=>by refine aa (Pv.mp a ..) (aa (P0 ..) ?_);exact Qx _
theorem CU (f:ce n A) (g:Rep C X s.heap a (.bytes b)) (i:b≠[]):ay C A X s (call (.builtin "min") [a]) (.int (sB b)):=by intro Q E k;refine bB g λu t c d z=>?_;subst c;subst d;have e:0<u.toList.length:=PY.mpr i;refine bj (call_min_walk (lV ?_));refine ⟨_,_,_,_,_,_,_,TL,KBw.walks (A:=A.in1) f.h _ u t,⟨_,Pz _ TL,TL,TL⟩,y6 s _,e,CmpOf.ints_lt (iS u.toList) (λ_ _=>kT),λv h' tk hP j z=>?_⟩;refine cR (kT hP) λl c=>?_;subst c;have hm:=argBest_lt (iS u.toList) (u.size-1);exact k _ _ (kS (gZ j) z) ⟨_,TQ (RL · l) (we e hm.1 hm.2)⟩
theorem CV (f:ce n A) (g:Rep C X s.heap a (.bytes b)) (i:b≠[]):ay C A X s (call (.builtin "max") [a]) (.int (sC b)):=by intro Q E k;refine bB g λu t c d z=>?_;subst c;subst d;have e:0<u.toList.length:=PY.mpr i;refine bj (call_max_walk (lV ?_));refine ⟨_,_,_,_,_,_,_,TL,KBw.walks (A:=A.in1) f.h _ u t,⟨_,Pz _ TL,TL,TL⟩,y6 s _,e,CmpOf.ints_gt (iS u.toList) (λ_ _=>kT),λv h' tk hP j z=>?_⟩;refine cR (kT hP) λl c=>?_;subst c;have hm:=argBest_gt (iS u.toList) (u.size-1);exact k _ _ (kS (gZ j) z) ⟨_,TQ (RL · l) (wf e hm.1 hm.2)⟩
theorem GP (j:ce n A) (o:Rep C X s.heap a (.list xs)) (p:xs.all V.KL=TN):ay C A X s (call (.builtin "all") [a]) (.bool (xs.all V.tt)):=by
 intro Q E k;obtain ⟨l,vs,m,rfl,d,y,rs,B⟩:=o;have f:vs.size=xs.length:=rs.length;have item:∀i v,vs[i]?=TK v->v=Value.bool (V.tt (xs.getD i V.none)):=λi v h=>by
  have lt:i<xs.length:=by refine bx (f ..) ?_;exact (Ry.mp h).1
  refine aT (rs.get (PC lt)) λw q r=>?_;obtain rfl:=le (q.symm.trans (PZ.trans h));have g:=Pa.mp p _ (Ri lt);refine aa (QE ..) (aa (PC lt ..) ?_);generalize xs[i]=x at r g;cases x with
  |bool b=>exact r
  |_=>exact TU g Pm
 refine bj (call_all_walk (Vi (eK _ d TL (⟨_,TL⟩)) ?_));refine (NV _ _ _ _ _ _ (λi=>V.tt (xs.getD i V.none)) TL (Walks.list (A:=A.in1) j.h _ l (QZ (Py d)) vs) ⟨(eK _ (Pz _ TL) TL TL),(eK _ (Pq _ d) TL (⟨_,TL⟩))⟩ (λi v s Q E hP t=>by refine aa (item i v hP ..) ?_;exact UU t) (λh' tk u z=>?_));have e:(PN vs.size).all (λi=>V.tt (xs.getD i V.none))=xs.all V.tt:=by
  refine aa (f ..) (p9 (QP ..) ?_);simp only [Pa,Rl];constructor
  ·intro h x m;obtain ⟨i,c,rfl⟩:=List.getElem_of_mem m;have:=h i c;rwa [QE,PC c] at this
  ·intro h i c;refine aa (QE ..) (aa (PC c ..) ?_);exact h _ (Ri c)
 exact aa (e ..) (k _ _ (kS (gZ u) z) (.bool _))
theorem q6 (m:Nat):(O6 (toString m)).cps.toList=cq m:=by have:toString m=String.ofList (Nat.toDigits 10 m):=TL;refine aa (this ..) (aa (PySem.W.Fast.ofString_ofList ..) ?_);rfl
theorem y7 (h:m<10^k) (a:0<k):(cq m).length<=k:=by exact aa (Pd ..) ((So (by decide) a).mpr h)
theorem wg (h:eQ i=TN):i.natAbs.log2<1920:=by
 have:=dI (TM h);by_cases a:i=0
 ·subst a;decide
 ·have e:P5 i=i.natAbs.log2+1:=TZ (ne_true_of_eq_false (beq_false_of_ne a));exact Pj (e▸this) (by decide)
theorem tb {m:Nat} (hs:eQ (m:Int)=TN):(O6 (toString (m:Int))).cps.size<=av:=by refine bx (PS ..) (aa (q6 ..) ?_);refine O5 (y7 (k:=70) ?_ (by decide)) (by decide);have:=Su (TM hs:-iK<(m:Int)/\(m:Int)<iK).2 (show iK<=((10^70:Nat):Int) by decide+kernel);exact Ps.mp this
theorem GQ (b:Rep C X s.heap a x) (h:yc x=TK r):ay C A X s (call (.type "str") [a]) r:=by
 intro Q E k;cases x with
 |int i=>obtain ⟨⟨c,hs⟩,rfl⟩:=bh h;obtain ⟨t,rfl⟩:=b;obtain ⟨m,rfl⟩:=Rg c;exact P.str_of_int (wg hs) (k _ _ (.tok s _) (gF _ _ TL (q6 m) (tb hs)))
 |_=>exact aZ h
theorem GR (b:Rep C X s.heap a x) (h:FZ x=TK r):ay C A X s (call (.type "int") [a]) r:=by
 intro Q E k;cases x with
 |int i=>obtain rfl:=le h;obtain ⟨t,rfl⟩:=b;exact call_int_int (k _ _ (.refl s) (.int i t))
 |_=>exact aZ h
section
variable {prog:U7} {w:Uv} {E:TT->TP->Prop}
open AutoSeq1 (wpAny_loadPart')
theorem tc {Q:List TT->TP->Prop} (it:T2) (c:T="list"\/T="tuple") (ho:s.heap.get? it=TK o) (d:o.cls=.type T) (hd:o.data=.seq items n) (e:∀h',(∀b a,s.heap.get? b=TK a->h'.get? b=TK a)/\s.heap.objs.size<=h'.objs.size->Q items.toList {s with heap:=h'}) (hsz:items.size<=T8):
  T6 (model prog w) A (collect (.ref it)) Q E s:=bj (wpAny_collect_seq it c ho d hd (λh' f z=>e h' ⟨f,z⟩) hsz)
theorem jX (l:T2) (o:Obj) (items:Array TT) (n:Nat) (c:o.cls=.type "list") (hd:o.data=.seq items n) (hsz:items.size<=T8):Meets (Uq.«tuple.__new__» ⟨[.type "tuple",.ref l],[]⟩) (λ_ R s=>s.heap.get? l=TK o/\∀h':Ut,(∀b e,s.heap.get? b=TK e->h'.get? b=TK e)/\s.heap.objs.size<=h'.objs.size->R (.ok (.ret (.ref h'.objs.size))) {s with heap:=h'.push {cls:=.type "tuple",data:=.seq items}}):=.of_wp λprog w A R s h=>by
  obtain ⟨hp,g,d,tk,os⟩:=s;obtain ⟨ht,h⟩:=h;have f:=sub_tuple_self;have a:=init_tuple_lookup;have i:=madeHere_tuple;have j:Shared.TypeIs ⟨hp,g,d,tk,os⟩ (.ref l) "list":=(i12 o ht c)
  wp_walk using wpAny_loadPart' ht,UK j,tc (hsz:=hsz) l (.inl TL) ht c hd
  intro h' k;show T6 _ _ (Builtin.Tuple.tupleExact items.toList.toArray>>=λv=>ret v) _ _ _;exact TV (Vf (TX (i12 _ TL (h h' k))) hsz)
theorem ni {Q:TT->TP->Prop} (e:s.heap.IsList l items) (h:∀h':Ut,(∀b d,s.heap.get? b=TK d->h'.get? b=TK d)/\s.heap.objs.size<=h'.objs.size->Q (.ref h'.objs.size) {s with heap:=h'.push {cls:=.type "tuple",data:=.seq items}}) (hsz:items.size<=T8):
  T6 (model prog w) A (call (.type "tuple") [.ref l]) Q E s:=by
 refine ix e λo ho f a=>cR a λn hd=>?_;exact callType_new F.called_tuple (by decide) (F.typeCall_tuple_1 _) (F.newCall_tuple_1 _) (λc=>Sb c _) F.entry_tuple_new
  (jX l o items n f hd hsz) ⟨ho,λh' g=>⟨(i12 _ (Pz _ TL) TL),h h' g⟩⟩
end
theorem ch (h:n<=av):n<=T8:=Ur▸h
theorem y8 (ok:c9 C X s) (f:Rep C X s.heap a x) (h:sD x=TK r):ay C A X s (call (.type "tuple") [a]) r:=by
 intro Q E k;cases x with
 |list xs=>
  obtain rfl:=le h;obtain ⟨l,vs,m,rfl,i,j,rs,d⟩:=f;refine ni (eK _ i TL (⟨_,TL⟩)) (λh' c=>?_) (ch d);have g:a9 s {s with heap:=h'.push {cls:=.type "tuple",data:=.seq vs}}:=⟨(hY _ _ TL),λb o e=>Pq _ (c.1 b o e),by
   refine aa (P0 ..) ?_;exact Rc c.2⟩
  exact k _ _ g (.tuple (Pz _ TL) (λx=>Pt.mpr c.2 (ok.xb _ x).1) (rs.grow g) d)
 |_=>exact aZ h
end
section
open Builtin Builtin._codecs
variable {C:Cx} {A:T0} {X:AP} {s:TP} {n:Nat}
theorem CW (u:Tok):Tz "str.encode" "encode" "'encoding'" (TK (.str (O6 "ascii") u))=pure (TK (O6 "ascii")):=by kernel_rfl
theorem y9 (id:String) (self:TT) (x:Str):encodeRoad id self x (O6 "ascii") TW=(encodeNarrow id asciiCodec TW self x>>=λb=>mkBytes b):=by kernel_rfl
theorem wi (x:Str) (t u:Tok):Uq.«str.encode» ⟨[.str x t,.str (O6 "ascii") u],[]⟩=(encodeNarrow "str.encode" asciiCodec TW (.str x t) x>>=λb=>mkBytes b>>=λv=>ret v):=by
 have:Uq.«str.encode» ⟨[.str x t,.str (O6 "ascii") u],[]⟩=(Tz "str.encode" "encode" "'encoding'" (TK (.str (O6 "ascii") u))>>=λe=>encodeRoad "str.encode" (.str x t) x (e.getD "utf-8") TW>>=λv=>ret v):=by kernel_rfl
 simp only [this,CW];simp only [pure_bind,Option.getD_some,y9,bind_assoc]
theorem forIn_none {d c:Type} {f:d->c->Sem (ForInStep c)} {b:c} (h:∀a,f a b=pure (.done b)):∀l:List d,forIn l b f=pure b
 |[]=>rfl
 |a::l=>by refine aa (RK ..) (aa (h ..) ?_);rfl
noncomputable def CX (id:String) (self:TT) (x:Str):{F:Nat->Nat×Array UInt8×Faults->Sem (ForInStep (Nat×Array UInt8×Faults))//encodeNarrow id asciiCodec TW self x=(forIn [0:x.length] ((0,#[],{}):Nat×Array UInt8×Faults) F>>=λq=>pure q.2.1)}:=⟨_,TL⟩
theorem Jw (id:String) (self:TT) (x:Str) (i:Nat) (b:Array UInt8) (st:Faults) (h:x.cps[i]?=TW) (ho:¬b.size>T8) (a:Nat):(CX id self x).1 a (i,b,st)=pure (.done (i,b,st)):=(TZ ho).trans (h▸TL)
theorem GS {x:Str} (b:x.cps.findIdx? asciiCodec.bad=TW) (ho:x.cps.foldl (λacc y=>acc++(asciiCodec.bytesOf y).toArray) #[]=a) (st:Faults):((0+((x.cps.extract 0 x.cps.size).findIdx? asciiCodec.bad).getD (x.cps.extract 0 x.cps.size).size,((x.cps.extract 0 x.cps.size).extract 0 (((x.cps.extract 0 x.cps.size).findIdx? asciiCodec.bad).getD (x.cps.extract 0 x.cps.size).size)).foldl (λacc y=>acc++(asciiCodec.bytesOf y).toArray) #[],st):Nat×Array UInt8×Faults)=(x.cps.size,a,st):=by exact aa (Array.extract_size ..) (aa (b ..) (aa (Option.getD_none ..) (aa (Re ..) (aa (Array.extract_size ..) (aa (ho ..) TL)))))
theorem Jx (id:String) (self:TT) (x:Str) (c:Nat) (h:x.cps[0]?=TK c) (d:(!asciiCodec.bad c)=TN) (e:x.cps.findIdx? asciiCodec.bad=TW) (b:Array UInt8) (ho:x.cps.foldl (λacc y=>acc++(asciiCodec.bytesOf y).toArray) #[]=b) (a:Nat):(CX id self x).1 a (0,#[],{})=pure (.yield (x.cps.size,b,{})):=(TZ (t:=pure (.done (0,#[],{}))) (show ¬(#[]:Array UInt8).size>T8 from O7 _)).trans (h▸(TY d).trans (TQ (λq=>(pure (QM q):Sem _)) (GS e ho {})))
theorem nP:∀(l:List Nat) a,(l.foldl (λacc y=>acc++(asciiCodec.bytesOf y).toArray) a).toList=a.toList++l.map Pp
 |[],a=>(Pk _).symm
 |c::l,a=>(nP l _).trans (by refine aa (RF ..) ?_;exact Pi _ [Pp c] _)
theorem wj (id:String) (self:TT) (x:Str) (h:∀c∈x.cps.toList,c<128) (z:x.cps.size<=T8):encodeNarrow id asciiCodec TW self x=pure (x.cps.toList.map Pp).toArray:=by
 have b:=λc m=>TR (R3 (h c m));have i:=Array.findIdx?_eq_none_iff.mpr λc m=>b c (Sa.mpr m);have ho:x.cps.foldl (λacc y=>acc++(asciiCodec.bytesOf y).toArray) #[]=(x.cps.toList.map Pp).toArray:=(Array.foldl_toList _).symm.trans (Array.ext' (nP _ _));have e:∀l:List Nat,l.length=x.cps.size->(forIn l ((0,#[],{})) (CX id self x).1>>=λq=>pure q.2.1)=pure (x.cps.toList.map Pp).toArray:=λl e=>by
  rcases l with _|⟨a,l⟩
  ·exact TQ (λl:List Nat=>pure (f:=Sem) (l.map Pp).toArray) (QR e.symm).symm
  ·have d:x.cps[0]?=TK (x.cps[0]'(e▸Rs _)):=SE _;refine (TQ (λq=>q>>=_) ((RK ..).trans ((TQ (λq=>q>>=_) (Jx id self x _ d (TQ not (b _ (Sa.mpr (Array.mem_of_getElem? d)))) i _ ho a)).trans (pure_bind _ _)))).trans ((TQ (λq=>q>>=λq=>pure q.2.1) (forIn_none (Jw id self x _ _ _ (Array.getElem?_eq_none (Px _)) λg=>TU (Pj g (O9 (Pd _))) (Tc z)) l)).trans TL)
 exact (CX id self x).2.trans ((TQ (λq=>q>>=_) (QQ _ _ _)).trans (e _ (by rw [List.length_range',Ts,Nat.sub_zero,Nat.add_sub_cancel,Nat.div_one];rfl)))
theorem wk:(O6 "ascii").cps.toList=[97,115,99,105,105]:=by decide+kernel
theorem wl (d:∀c∈u.cps.toList,c<128) (e:u.cps.size<=T8) (a:(u.cps.toList.map Pp).toArray.size<=T8):Meets (Uq.«str.encode» ⟨[.str u t,.str (O6 "ascii") b],[]⟩) (λA R s=>∀b k,R (.ok (.ret (.bytes (u.cps.toList.map Pp).toArray b))) {s with toks:=k}):=.of_wp λprog w A R s q=>by refine aa (wi ..) (aa (wj _ _ _ d e ..) (aa (pure_bind ..) ?_));exact TV (UZ (TX (i12 _ TL (q _ _))) a)
theorem wn (p:Rep C X s.heap a x) (q:Rep C X s.heap b e) (h:uf x e=TK r):ay C A X s (call (.builtin "str.encode") [a,b]) r:=by refine bO h λxs f h=>bO h λes g h=>?_;obtain rfl:=c6 f;obtain rfl:=c6 g;obtain ⟨⟨g,f⟩,rfl⟩:=bh h;refine bB p λu t d i j=>?_;subst d;subst i;refine bB q λv l d ev w=>?_;subst d;obtain rfl:v=O6 "ascii":=TQ Str.mk (RE.mp (ev.trans (g.trans wk.symm)));have o:(u.cps.toList.map Pp).toArray.size<=av:=O5 (O9 (Pd _)) j;exact lQ o λQ E k=>UI F.slot_str_encode (Ve _ _ _) F.entry_str_encode (F.args_str_encode_2 _ _) (wl (λc m=>TM (Pa.mp f c m)) (ch j) (ch o)) λl k'=>k l k'
end
section
variable {C:Cx} {A:T0} {X:AP} {s:TP} {n:Nat}
theorem q7 (e:strsOf (x::xs)=TK l):∃z a,x=.str z/\strsOf xs=TK a/\l=z::a:=by
 cases x with
 |str z=>obtain ⟨a,b,q⟩:=Qi.mp e;exact (gF z a TL b q.symm)
 |_=>exact aZ e
theorem za:∀{xs:List V} {vs:List TT} {l:List (List Nat)},aP C X h vs xs->strsOf xs=TK l->∃ys:List Str,StrsAre vs ys/\ys.map (λy=>y.cps.toList)=l:=by
 intro f;induction f with
 |nil=>intro g l e q;obtain rfl:_=[]:=e;exact (i12 [] .nil (le q))
 |cons x xs i=>intro g l j q;refine bB j λv r e k rs=>?_;subst e;refine bB (q7 q) λz o c m d=>?_;subst c;subst d;refine aT (i rs m) λys a b=>bB k λu t c d p=>?_;subst c;subst d;exact ⟨u::ys,.cons u t a,TQ (_::·) b⟩
theorem uA (x:Str):∀ys:List Str,(Str.join x ys).cps.toList=aD x.cps.toList (ys.map λy=>y.cps.toList)
 |[]=>rfl
 |[y]=>rfl
 |y::z::r=>by show (y++x++Str.join x (z::r)).cps.toList=y.cps.toList++x.cps.toList++aD x.cps.toList ((z::r).map λy=>y.cps.toList);refine bx (uA x (z::r) ..) ?_;show (y.cps++x.cps++(Str.join x (z::r)).cps).toList=_;simp
theorem q9 (x:Str):∀ys:List Str,(ys.map (·.length)).sum+ys.length*x.length<=(aD x.cps.toList (ys.map λy=>y.cps.toList)).length+x.length
 |[]=>by simp
 |[y]=>by simp [aD,Str.length]
 |y::z::r=>by have h:=q9 x (z::r);show _<=(y.cps.toList++x.cps.toList++aD x.cps.toList ((z::r).map λy=>y.cps.toList)).length+x.length;simp only [Qe,List.sum_cons,O8,To,g3,PS] at h⊢;simp only [Str.length] at h⊢;exact aJ [_,_,_,_,_,_] 0x214860000420c001040600000214041804100021 h
theorem rd (b:s.heap.IsList D vs\/IsTup s.heap D vs) (rs:aP C X s.heap vs.toList xs) (h:qj u.cps.toList xs=TK r):ay C A X s (call (.builtin "str.join") [.str u t,.ref D]) r:=by refine bO h λl i h=>aM (bh h) λf a=>?_;subst a;refine aT (za rs i) λys g a=>?_;subst a;have e:=(TQ (λz=>z.cps.toList) (StrLaws.glued_eq_join u ys)).trans (uA u ys);have c:=O5 (q9 u ys) f;exact bx (e ..) (CI (O5 (O9 (TQ Qh e)) (O5 (PV _ _) f)) λQ E k=>b.elim (λb=>join_list b g c λd k'=>k d k') λb=>join_tuple b g c λd k'=>k d k')
theorem CY (i:Rep C X s.heap a (.str xs)) (f:Rep C X s.heap b y) (h:EJ xs y=TK r):ay C A X s (call (.builtin "str.join") [a,b]) r:=by
 refine bB i λu t d e j=>?_;subst d;subst e;cases y with
 |list ys=>obtain ⟨c,vs,m,rfl,g,-,rs,-⟩:=f;exact rd (.inl ⟨_,g,TL,m,TL⟩) rs h
 |tuple ys=>obtain ⟨c,vs,m,rfl,g,-,rs,-⟩:=f;exact rd (.inr ⟨_,g,TL,m,TL⟩) rs h
 |_=>exact aZ h
theorem zc (e:Rep C X s.heap a x) (h:sE x=TK r):ay C A X s (call (.builtin "str.upper") [a]) r:=by
 cases x with
 |str xs=>refine aM (bh h) λf b=>?_;subst b;refine bB e λu t b c g=>?_;subst b;subst c;have d:u.length<=1000:=f;exact CI (x:=Txt.upper u) (show (Txt.upper u).length<=av from O5 (len_upper u:(Txt.upper u).length<=3*u.length) (O5 (Q1 3 d) (by decide))) λQ E k=>SCL.upper (O5 d (by decide)) λ_=>k _ _
 |_=>exact aZ h
theorem wo:∀{l:List (Str×Tok)},(∀p∈l,p.1.cps.size<=av)->aP C X h (PySem.strValues l) (l.map λp=>.str p.1.cps.toList):=by
 intro a;induction a with
 |nil=>intro c;exact .nil
 |cons p l b=>intro z;exact .cons (.str p.1 p.2 (z p (.head _))) (b λq m=>z q (.tail _ m))
theorem re (a:u.length<=1000):(SQ u (RP u v 0 u.length (u.length+1)) v.length).length<=1002:=by exact aa (length_partsBetween ..) (R1 (O5 (StrLaws.occ_length_le u v 0 u.length (u.length+1)) (R1 a)))
theorem L4 {l:List Str} {u:Str} {c d:Bool} (h:l.length<=1002):(if c=TN then [u] else if d=TN then [u] else l).length<=1002:=by
 cases c
 ·cases d
  ·exact h
  ·exact (show 1<=1002 by decide)
 ·exact (show 1<=1002 by decide)
theorem split_len (a:u.length<=1000):(Tj u v).length<=1002:=L4 (re a)
theorem td {Q:TT->TP->Prop} (ok:c9 C X s) (b:u.length<=1000) (c:(Tj u v).all (λx=>decide (x.cps.size<=1000))=TN) (k:∀w s',a9 s s'->Rep C X s'.heap w (.list ((Tj u v).map λx=>.str x.cps.toList))->Q w s') (l:List (Str×Tok)) (tk:Nat) (a:l.map (·.1)=Tj u v):
  Q (.ref s.heap.objs.size) {s with toks:=tk,heap:=s.heap.push {cls:=.type "list",data:=.seq (PySem.strValues l).toArray}}:=by
 refine k _ _ ((a9.push s _).trans (a9.tok _ tk)) (bx (a ..) (aa (Po ..) ?_));refine .list (Pz _ TL) (λx=>PG _ (ok.xb _ x).1) (wo λp m=>O5 ((λp m=>TM (Pa.mp c p.1 (a▸QG m))) p m) (by decide)) ?_;exact O5 (O9 (Pd _)) (O5 (((Pd _).symm.trans (TQ Qh a))▸split_len b) (by decide))
theorem zd (m:Rep C X s.heap a x) (o:Rep C X s.heap b y) (h:yf x y=TK r) (ok:c9 C X s):ay C A X s (call (.builtin "str.split") [a,b]) r:=by
 refine bO h λxs p h=>bO h λys q h=>?_;obtain rfl:=c6 p;obtain rfl:=c6 q;obtain ⟨⟨w,z,B⟩,rfl⟩:=bh h;refine bB m λu t c d D=>?_;subst c;subst d;refine bB o λv g c d D=>?_;subst c;subst d;have i:u.length<=1000:=z;have j:u.length+1<=T8:=O5 (R1 i) (by refine aa (Ur ..) ?_;decide);have l:(v.length==0)=TO:=beq_false_of_ne λe=>w (QR e);intro Q E k;have done:=td (v:=v) ok i B k;cases c1:(decide (u.length<v.length)||decide (TG u<TG v))
 ·cases f:(RP u v 0 u.length (u.length+1)).isEmpty
  ·refine UI R4 (Ve _ _ _) SR (Sw _ _) (meets_str_split_sep u v t g c1 l f (Nat.le_of_succ_le j) (O5 (re i) (by refine aa (Ur ..) ?_;decide))) ?_;show wants Q E _ {s with toks:=_,heap:=s.heap.push {cls:=.type "list",data:=.seq (strsFrom s.toks (SQ u (RP u v 0 u.length (u.length+1)) v.length)).toArray}};exact aa (strsFrom_eq ..) (done _ _ ((numbered_texts _ _).trans ((TZ (ne_true_of_eq_false c1)).trans (TZ (ne_true_of_eq_false f))).symm))
  ·exact UI R4 (Ve _ _ _) SR (Sw _ _) (meets_str_split_not_found u v t g c1 l f)
    (done [(u,t)] s.toks ((TZ (ne_true_of_eq_false c1)).trans (TY f)).symm)
 ·exact UI R4 (Ve _ _ _) SR (Sw _ _) (meets_str_split_cannot_occur u v t g c1)
   (done [(u,t)] s.toks (TY c1).symm)
end
section
namespace FM
theorem nQ:RI "bytes" "join" "bytes.join":=.of (owner:="bytes") (n:="join") (by rw [T4,T1];kernel_rfl) (by decide+kernel) (by decide+kernel) (by decide+kernel)
  (by first|exact .inl (by decide+kernel)|exact .inr (by decide+kernel)) (by rw [Uo];kernel_rfl)
theorem wq:VE (.builtin "bytes.join")=pure (.type "method_descriptor"):=by show Vj _=_;rw [Uw];kernel_rfl
theorem tf:UB table "bytes.join"=TK Uq.«bytes.join»:=Ul (by kernel_rfl)
theorem wr (a b:TT):UR "bytes.join" ⟨[a,b],[]⟩:=by unfold UR;rw [UE (n:=['n', 'i', 'o', 'j']) (by kernel_rfl) TA];kernel_rfl
theorem nR:RI "bytes" "replace" "bytes.replace":=.of (owner:="bytes") (n:="replace") (by rw [T4,T1];kernel_rfl) (by decide+kernel) (by decide+kernel) (by decide+kernel)
  (by first|exact .inl (by decide+kernel)|exact .inr (by decide+kernel)) (by rw [Uo];kernel_rfl)
theorem ws:VE (.builtin "bytes.replace")=pure (.type "method_descriptor"):=by show Vj _=_;rw [Uw];kernel_rfl
theorem th:UB table "bytes.replace"=TK Uq.«bytes.replace»:=Ul (by kernel_rfl)
theorem wt (a b c:TT):UR "bytes.replace" ⟨[a,b,c],[]⟩:=by unfold UR;rw [UE (n:=['e', 'c', 'a', 'l', 'p', 'e', 'r']) (by kernel_rfl) TA];kernel_rfl
theorem nS:RI "bytes" "find" "bytes.find":=.of (owner:="bytes") (n:="find") (by rw [T4,T1];kernel_rfl) (by decide+kernel) (by decide+kernel) (by decide+kernel)
  (by first|exact .inl (by decide+kernel)|exact .inr (by decide+kernel)) (by rw [Uo];kernel_rfl)
theorem wu:VE (.builtin "bytes.find")=pure (.type "method_descriptor"):=by show Vj _=_;rw [Uw];kernel_rfl
theorem tj:UB table "bytes.find"=TK Uq.«bytes.find»:=Ul (by kernel_rfl)
theorem wv (a b c:TT):UR "bytes.find" ⟨[a,b,c],[]⟩:=by unfold UR;rw [UE (n:=['d', 'n', 'i', 'f']) (by kernel_rfl) TA];kernel_rfl
end FM
variable {C:Cx} {A:T0} {X:AP} {s:TP} {n:Nat}
theorem like_eq {id:String}:QY id (.bytes b t)=pure b:=by kernel_rfl
theorem tl {b c n:Array UInt8} (a:c.isEmpty=TO) (d:b.size+(PO b c 0 b.size).length*n.size<=T8) (e:(ny b c n).size<=T8):Meets (Uq.«bytes.replace» ⟨[.bytes b t,.bytes c u,.bytes n v],[]⟩) (λ_ R s=>∀f k,R (.ok (.ret (.bytes (if (PO b c 0 b.size).isEmpty=TN then b else ny b c n) f))) {s with toks:=k}):=by
 refine .of_wp λprog w A R s h=>?_;show T6 _ _ (QY _ (.bytes c u)>>=_) _ _ s;rw [like_eq];refine TV (TX ?_);show T6 _ _ (QY _ (.bytes n v)>>=_) _ _ s;rw [like_eq];refine TV (TX ?_);show T6 _ _ (QY _ (.bytes c u)>>=_) _ _ s;rw [like_eq];refine TV (TX ?_);show T6 _ _ (QY _ (.bytes n v)>>=_) _ _ s;rw [like_eq];refine TV (TX ?_);show T6 _ _ (if ((if c.isEmpty=TN then _ else PO b c 0 b.size).isEmpty||(c.isEmpty&&n.isEmpty))=TN then _ else _) _ _ s;rw [a];simp only [Rp,if_false,Bool.false_and,Bool.or_false,Int.reduceNeg,Int.reduceLT,if_true];by_cases ho:(PO b c 0 b.size).isEmpty=TN
 ·rw [TY ho] at h⊢;exact TV (UG (TV (TV (UK (Ua s b t) (TX (TX (i12 _ TL (h t s.toks))))))))
 ·rw [TZ ho] at h⊢;rw [TZ (by unfold Rt;simp only [decide_eq_true_eq];exact Tc d)];exact TV (UZ (TX (i12 _ TL (h _ _))) e)
end
section
variable {C:Cx} {A:T0} {X:AP} {s:TP} {n:Nat}
theorem Il:Builtin.Bytes.bound? (TK (.int i t))=pure (TK i):=by kernel_rfl
theorem ww:Builtin.Bytes.searchArgs .bytes "find" ⟨[.bytes b t,.bytes c u,.int i v],[]⟩=
  pure (b,c,if (P2 b.size (TK i) TW).2-(P2 b.size (TK i) TW).1<c.size then TW else TK ((P2 b.size (TK i) TW).1.toNat,(P2 b.size (TK i) TW).2.toNat)):=by kernel_rfl
theorem ze {n m:Nat} (b:0<=i):(if (P2 n (TK i) TW).2-(P2 n (TK i) TW).1<m then TW else TK ((P2 n (TK i) TW).1.toNat,(P2 n (TK i) TW).2.toNat))=if i.toNat+m<=n then TK (i.toNat,n) else TW:=by
 have c:P2 n (TK i) TW=(i,(n:Int)):=by unfold P2;simp only [Option.getD_some,Option.getD_none];refine aa (TZ (zA b) ..) (aa (TZ (zE) ..) ?_);simp
 rw [c];obtain ⟨k,rfl⟩:=Rg b;by_cases a:k+m<=n
 ·exact (TZ (PK.mpr (Int.le_sub_left_of_add_le (Ph.mpr a)))).trans (TY (show (k:Int).toNat+m<=n from a)).symm
 ·exact (TY (Int.sub_left_lt_of_lt_add (Ps.mpr (QA a)))).trans (TZ (show ¬(k:Int).toNat+m<=n from a)).symm
theorem tm {b c:Array UInt8} (d:0<=i):Meets (Uq.«bytes.find» ⟨[.bytes b t,.bytes c u,.int i v],[]⟩) (λ_ R s=>∀e k,R (.ok (.ret (.int (if i.toNat+c.size<=b.size then (match PW b c i.toNat b.size with|some j=>j|none=>-1) else -1) e))) {s with toks:=k}):=by
 refine .of_wp λprog w A R s h=>?_;refine TV ?_;rw [ww,ze d];refine TX ?_;by_cases a:i.toNat+c.size<=b.size
 ·simp only [TY a] at h⊢;show T6 _ _ (match PW b c i.toNat b.size with
   |some j=>retInt j
   |none=>_) _ _ s
  revert h;cases PW b c i.toNat b.size with
  |some j=>intro h;exact TV (wpAny_mkInt (TX (i12 _ TL (h _ _))))
  |none=>intro h;exact TV (UG (TV (wpAny_mkInt (TX (i12 _ TL (h _ _))))))
 ·simp only [TZ a] at h⊢;exact TV (UG (TV (wpAny_mkInt (TX (i12 _ TL (h _ _))))))
theorem o0 (e:bytesOf (x::xs)=TK l):∃z a,x=.bytes z/\bytesOf xs=TK a/\l=z::a:=by
 cases x with
 |bytes z=>obtain ⟨a,b,q⟩:=Qi.mp e;exact (gF z a TL b q.symm)
 |_=>exact aZ e
theorem wy:∀{xs:List V} {vs:List TT} {l:List (List UInt8)},aP C X h vs xs->bytesOf xs=TK l->∃ys:List (Array UInt8×Tok),vs=ys.map (λp=>QS p.1 p.2)/\ys.map (λp=>p.1.toList)=l:=by
 intro c;induction c with
 |nil=>intro d l e q;exact (i12 [] e (le q))
 |cons x xs f=>intro d l g q;obtain ⟨v,r,e,i,rs⟩:=g;subst e;refine bB (o0 q) λz k a j b=>?_;subst a;subst b;refine aT (f rs j) λys a b=>?_;subst a;subst b;refine bB i λu t a b m=>?_;subst a;subst b;exact (i12 ((u,t)::ys) TL TL)
theorem lX (x:Array UInt8):∀ys:List (Array UInt8),(P1 x ys).toList=aD x.toList (ys.map λy=>y.toList):=by
 intro ys;unfold P1;have key:∀(ys:List (Array UInt8)) i acc,0<i->((ys.zipIdx i).foldl (λa p=>(if p.2>0 then a++x else a)++p.1) acc).toList=acc.toList++(ys.map λy=>x.toList++y.toList).flatten:=by
  intro ys;induction ys with
  |nil=>intro i acc _;simp
  |cons y ys c=>intro i acc d;refine aa (List.zipIdx_cons ..) (aa (RN ..) (aa (c _ _ (Rs i) ..) ?_));simp [d]
 have b:∀ys (y:Array UInt8),aD x.toList ((y::ys).map λy=>y.toList)=y.toList++(ys.map λy=>x.toList++y.toList).flatten:=by
  intro ys;induction ys with
  |nil=>intro y;simp [aD]
  |cons z ys c=>intro y;show y.toList++x.toList++aD x.toList ((z::ys).map λy=>y.toList)=_;refine aa (c ..) ?_;simp
 cases ys with
 |nil=>rfl
 |cons y ys=>refine aa (b ..) (aa (List.zipIdx_cons ..) (aa (RN ..) (aa (key _ _ _ (Rs 0) ..) ?_)));simp
theorem lY:∀(l:List (Array UInt8×Tok)) keep M A E Q s,Q () s->T6 M A (S3 (l.map λp=>(QS p.1 p.2,TW)) keep) Q E s:=by
 intro a;induction a with
 |nil=>intro keep M A E Q s h;exact TX h
 |cons p l b=>intro keep M A E Q s h;exact TV (wpAny_letGo (b keep M A E Q s h))
theorem uB {id:String}:Builtin.Bytes.takeBufferQuiet? id (.bytes b t) 0=pure (TK (b,TW)):=by kernel_rfl
theorem zf {a:Type} {f:Nat->a->Sem (ForInStep a)} {Q:a->TP->Prop} {E:TT->TP->Prop} (I:Nat->a->Prop) (n:Nat) (step:∀i b,i<n->I i b->∀(Q:ForInStep a->TP->Prop),(∀b',I (i+1) b'->Q (.yield b') s)->T6 M A (f i b) Q E s) (fin:∀b',I n b'->Q b' s):∀k i b,i+k=n->I i b->T6 M A (forIn (List.range' i k) b f) Q E s:=by
 intro e;induction e with
 |zero=>intro i b h c;have:=h;subst this;exact TX (fin b c)
 |succ k g=>intro i b h c;refine aa (List.range'_succ ..) (aa (RK ..) ?_);refine TV (step i b (aJ [_,_,_] 0x6c080001b04008021 (O9 h)) c _ λb' d=>?_);exact g (i+1) b' (PJ (aJ [_,_,_] 0x18981000001b04008021 (O9 h)) (aJ [_,_,_] 0x1b0400040060c0200421 (O9 (Qf h)))) d
theorem zg (ps:List (Array UInt8)) (l:List (Array UInt8×Tok)) (hsz:Rt (ps.toArray.foldl (λn (p:Array UInt8)=>n+p.size) (x.size*(ps.toArray.size-1)))=TO) (b:(P1 x ps).size<=T8) {R:UM->TP->Prop}
  (h:∀c k,R (.ok (.ret (.bytes (P1 x ps) c))) {s with toks:=k}):T6 M A (do
   let sep ←RZ (.bytes x t)
   if Rt (ps.toArray.foldl (· +·.size) (sep.size*(ps.toArray.size-1))) then unsupported s!"{s!"{SU.name}.join"}:memory"
   let a ←SU.new (P1 sep ps.toArray.toList)
   holding (a::(l.map λp=>(QS p.1 p.2,TW)).flatMap λ(y,u)=>y::u.toList) point
   S3 (l.map λp=>(QS p.1 p.2,TW)) [a]
   ret a) (λr s'=>∃v,r=.done (.ret v)/\R (.ok (.ret v)) s') (λe s'=>R (.error e) s') s:=by
 refine TV (TX ?_);refine aa (TZ (by refine aa (hsz ..) ?_;exact Pm) ..) ?_;refine TV (UZ ?_ b);refine TV (UD ?_);refine wpAny_point (TV (lY _ _ _ _ _ _ _ ?_));exact TX (i12 _ TL (h _ _))
theorem tn {x:Array UInt8} {t:Tok} {c:T2} (l:List (Array UInt8×Tok)) (m:Nat) (B:(aD x.toList (l.map λp=>p.1.toList)).length<=av):Meets (Uq.«bytes.join» ⟨[.bytes x t,.ref c],[]⟩) (λ_ R s=>s.heap.get? c=TK (seqObj "list" (l.map λp=>QS p.1 p.2).toArray m)/\ ∀f k,R (.ok (.ret (.bytes (P1 x (l.map (·.1))) f))) {s with toks:=k}):=by
 refine .of_wp λprog w A R s h=>?_;obtain ⟨g,h⟩:=h;have j:∀{Q:Option (Array TT)->TP->Prop} {E:TT->TP->Prop} {A},Q (TK (l.map λp=>QS p.1 p.2).toArray) s->T6 (model prog w) A (seqItems? (.ref c)) Q E s:=λq=>by unfold seqItems?;exact TV (UV g (TX q))
 show T6 _ _ (Builtin.Bytes.joinItems (.ref c)>>=_) _ _ s;refine TV ?_;refine TV (UK ((i12 _ g TL)) ?_);refine TX (TV (j ?_));have hsz:Rt ((l.map (·.1)).toArray.foldl (λn (p:Array UInt8)=>n+p.size) (x.size*((l.map (·.1)).toArray.size-1)))=TO:=by
  have e:∀(l:List (Array UInt8)) (n:Nat),l.foldl (λn (p:Array UInt8)=>n+p.size) n=n+(l.map (·.size)).sum:=by
   intro l;induction l with
   |nil=>intro n;simp
   |cons a l o=>intro n;simp only [RN,o];simp;exact Q7 _ _ _
  have D:∀(l:List (Array UInt8×Tok)),(aD x.toList (l.map λp=>p.1.toList)).length=x.size*(l.length-1)+((l.map (·.1)).map (·.size)).sum:=by
   intro l;induction l with
   |nil=>simp [aD]
   |cons a l o=>
    cases l with
    |nil=>simp [aD]
    |cons b l=>show (a.1.toList++x.toList++aD x.toList ((b::l).map λp=>p.1.toList)).length=_;simp only [g3,g3,o];simp only [O8,Nat.add_sub_cancel,Qe,List.sum_cons,PS,Nat.mul_succ];exact eb [_,_,_,_,_] 0xa400402180052006010400
  refine aa (Ur ..) (bx (Array.foldl_toList ..) (aa (e ..) ?_));simp only [Rv,Pd];have J:av=16777216:=TL;exact TR (by exact Tc (aJ [_,_,_] 0x30842108586200001188010861084210b0421 B (O9 (Qf (D l)))))
 have d:(P1 x (l.map (·.1))).size<=T8:=by simp only [←PS,lX,Po,Ur];exact B
 rcases l with _|⟨p,_|⟨q,l⟩⟩
 ·show T6 _ _ (forIn _ ((#[]:Array (Array UInt8)),([])) _>>=_) _ _ s;exact aa (QQ ..) (TV (TX (zg [] [] hsz d (λf k=>h f k))))
 ·refine TV (UK (Ua s p.1 p.2) ?_);show T6 _ _ (rule _>>=λ_=>ret (QS p.1 p.2)) _ _ s;exact TV (UG (TX (i12 _ TL (by simpa [P1] using h p.2 s.toks))))
 ·show T6 _ _ (forIn _ ((#[]:Array (Array UInt8)),([])) _>>=_) _ _ s;refine aa (QQ ..) (TV (zf (λi b=>b=(((p::q::l).map (·.1)).take i|>.toArray,((p::q::l).take i).map λp=>(QS p.1 p.2,TW))) (p::q::l).length ?_ ?_ _ 0 _ (by simp [Ts]) TL))
  ·intro i b F u Q k;subst u;obtain ⟨r,hr⟩:∃r,(p::q::l)[i]?=some r:=⟨_,PC F⟩;have H:((p::q::l).map λp=>QS p.1 p.2).toArray.getD i .none=.bytes r.1 r.2:=by simp only [Array.getD_eq_getD_getElem?,List.getElem?_toArray,PM,hr];rfl
   refine TV (j ?_);have ha:(((p::q::l).take i).map λp=>(QS p.1 p.2,(TW:Option TT))).any (λx=>x.1.onHeap)=TO:=by refine p9 (Rw ..) ?_;intro y m;obtain ⟨z,-,rfl⟩:=PI.mp m;exact Pm
   refine Uc ha (TV (UD ?_));refine aa (H ..) (aa (uB ..) ?_);refine TX (TV (j ?_));refine Uc (by simp) (TX (k _ ?_));simp only [SW,SW,PM,hr];simp
  ·intro b u;have v:b=(((p::q::l).map (·.1)).toArray,(p::q::l).map λp=>(QS p.1 p.2,TW)):=by exact aa (u ..) (aa (Rj ..) (bx (Pd ..) (aa (Rj ..) TL)))
   subst v;generalize (p::q::l)=L at hsz d h;dsimp only;refine TV (TX ?_);refine Uc hsz (TV (UZ ?_ d));refine TV (UD ?_);refine wpAny_point (TV (lY _ _ _ _ _ _ _ ?_));exact TX (i12 _ TL (h _ _))
theorem gv (t:String) (h:f7 cV c=TK b) (d:cV.all (λp=>p.2 !=b||p.1==t)=TN):c=O6 t:=by refine aT (yA h) λu m a=>?_;subst a;have:=Pa.mp d _ m;exact TQ O6 (eq_of_beq ((Q3.mp this).resolve_left λe=>TU (bne_self_eq_false b▸e) Pm))
theorem bM {r:V} (rs:aP C X h vs xs) (e:(fg xs).bind f=TK r):∃v x,vs=[v]/\xs=[x]/\Rep C X h v x/\f x=TK r:=by refine aT (wd e) λx a e=>?_;subst a;refine aT rs.kB λv a b=>?_;subst a;exact (K4 v x TL TL b e)
theorem wz:∀{xs:List V},vN f xs=TK r->∃x y,xs=[x,y]/\f x y=TK r
 |[x,y],h=>(dC x y TL h)
 |[],h=>aZ h
 |[_],h=>aZ h
 |_::_::_::_,h=>aZ h
theorem lZ (rs:aP C X h vs xs) (e:vN f xs=TK r):∃v w x y,vs=[v,w]/\xs=[x,y]/\Rep C X h v x/\Rep C X h w y/\f x y=TK r:=by refine ac λb=>kJ (wz e) λx y a e=>?_;subst a;obtain ⟨v,r,rfl,c,rs⟩:=rs;obtain ⟨w,rfl,rw⟩:=rs.kB;refine b ?_;exact (NT v w x y TL TL c rw e)
theorem zh (g:s.heap.get? c=TK (seqObj "list" vs m)) (rs:aP C X s.heap vs.toList xs) (h:qk u.toList xs=TK r):ay C A X s (call (.builtin "bytes.join") [.bytes u t,.ref c]) r:=by
 refine ac λd=>bO h λl f h=>aM (bh h) λb a=>?_;subst a;refine aT (wy rs f) λys i a=>?_;subst a;obtain rfl:vs=(ys.map λp=>QS p.1 p.2).toArray:=TQ List.toArray i;refine d ?_;have e:aD u.toList (ys.map λp=>p.1.toList)=(P1 u (ys.map (·.1))).toList:=by simp only [lX,Po];rfl
 exact e▸lQ (O5 (O9 (TQ Qh e.symm)) b) λQ E k=>UI FM.nQ (Ua _ _ _) FM.tf (FM.wr _ _) (tn ys m b) ⟨g,λj k'=>k j k'⟩
theorem CZ {a b c:TT} {x y z r:V} (o:Rep C X s.heap a x) (p:Rep C X s.heap b y) (q:Rep C X s.heap c z) (h:EK x y z=TK r):ay C A X s (call (.builtin "bytes.replace") [a,b,c]) r:=by
 refine ac λl=>bO h λg B h=>bO h λg D h=>bO h λg F h=>?_;obtain rfl:=bF B;obtain rfl:=bF D;obtain rfl:=bF F;refine aM (bh h) λj d=>?_;obtain ⟨H,J,m⟩:=j;subst d;refine bB o λu t f d L=>?_;subst f;subst d;refine bB p λv i f d g=>?_;subst f;subst d;refine bB q λw M f d g=>?_;subst f;subst d;refine l ?_;clear l;have N:v.isEmpty=TO:=by refine p9 (Array.isEmpty_eq_false_iff ..) ?_;intro e;exact H (TQ Array.toList e)
 intro Q E k;refine UI FM.nR (Ua _ _ _) FM.th (FM.wt _ _ _) (tl N (ch J) (ch m)) λi k'=>k _ _ (.tok s k') ?_;show Rep C X s.heap (.bytes (if (PO u v 0 u.size).isEmpty=TN then u else ny u v w) i) (if (PO u v 0 u.size).isEmpty=TN then V.bytes u.toList else .bytes (ny u v w).toList);by_cases c:(PO u v 0 u.size).isEmpty=TN
 ·refine aa (TY c ..) (aa (TY c ..) ?_);exact (gF u i TL TL L)
 ·refine aa (TZ c ..) (aa (TZ c ..) ?_);exact (gF _ i TL TL m)
theorem tp (h:ql (.bytes u) (.bytes v) (.int i)=TK r):0<=i/\r=.int (if i.toNat+v.length<=u.length then (match PW u.toArray v.toArray i.toNat u.length with|some j=>j|none=>-1) else -1):=by
 have h:(if 0<=i/\i.toNat+v.length<=u.length then TK (V.int (match PW u.toArray v.toArray i.toNat u.length with|some j=>j|none=>-1)) else if 0<=i then TK (.int (-1)) else TW)=TK r:=h;by_cases a:0<=i
 ·refine ⟨a,?_⟩;by_cases b:i.toNat+v.length<=u.length
  ·rw [TY ⟨a,b⟩] at h;refine aa (TY b ..) ?_;exact (le h).symm
  ·rw [TZ (λc=>b c.2),TY a] at h;refine aa (TZ b ..) ?_;exact (le h).symm
 ·rw [TZ (λc=>a c.1),TZ a] at h;exact aZ h
theorem C0 (i:Rep C X s.heap a x) (j:Rep C X s.heap b y) (l:Rep C X s.heap c z) (h':ql x y z=TK r):ay C A X s (call (.builtin "bytes.find") [a,b,c]) r:=by refine ac λm=>bO h' λf o h=>bO h λf p h=>bO h λf q h=>?_;obtain rfl:=bF o;obtain rfl:=bF p;obtain rfl:=a8 q;refine bB i λu t d e D=>?_;subst d;subst e;refine bB j λv g d e f=>?_;subst d;subst e;refine cR l λw d=>?_;subst d;refine aM (tp h') λB d=>?_;subst d;refine m ?_;intro Q E k;exact UI FM.nS (Ua _ _ _) FM.tj (FM.wv _ _ _) (tm B) λg k'=>k _ _ (.tok s k') (.int _ g)
theorem C1 {id:String} {Q:TT×List TT->TP->Prop} {E:TT->TP->Prop} (a:RI "str" b id) (ty:VE (.builtin id)=pure (.type "method_descriptor")) (h:Q (.builtin id,[.str x t]) s):aC (model C.prog C.w) A (UC (.str x t) b pl) Q E s:=lg.up (Us (Ve _ _ _) F.plainAttrs_str a ty (λ_ e=>P8 e) h)
theorem zi {id:String} {Q:TT×List TT->TP->Prop} {E:TT->TP->Prop} (a:RI "bytes" b id) (ty:VE (.builtin id)=pure (.type "method_descriptor")) (h:Q (.builtin id,[.bytes x t]) s):aC (model C.prog C.w) A (UC (.bytes x t) b pl) Q E s:=lg.up (Us (Ua _ _ _) FB.plainAttrs_bytes a ty (λ_ e=>P8 e) h)
noncomputable def g0 (C:Cx) (a:TT) (x:V) (d:Nm) (id:String):Prop:=∀{c:T0} {e:Nat} {b:AP} {s':TP} {vs:List TT} {xs:List V} {r:V},ce e c->c9 C b s'->Rep C b s'.heap a x->aP C b s'.heap vs xs->lB x d xs=TK r->b4 C c b s' (call (.builtin id) (a::vs)) r
theorem C2:g0 C a (.str x) .join "str.join":=by intro g h i s' vs xs r j ok d rs e;refine m0 (bM rs e) λv y b c f e=>?_;subst b;subst c;exact (CY d f e).up
theorem wA:g0 C a (.str x) .encode "str.encode":=by intro g h i s' vs xs r j ok d rs e;refine m0 (bM rs e) λv y b c f e=>?_;subst b;subst c;exact (wn d f e).up
theorem zj:g0 C a (.str x) .upper "str.upper":=by intro d f g s' vs xs r h ok b rs e;refine iO (show (if xs.isEmpty=TN then sE (.str x) else TW)=TK r from e) λc e=>?_;obtain rfl:=Td.mp c;obtain rfl:vs=[]:=rs;exact (zc b e).up
theorem zk:g0 C a (.str x) .split "str.split":=by intro g h i s' vs xs r j ok d rs e;refine m0 (bM rs e) λv y b c f e=>?_;subst b;subst c;exact (zd d f e ok).up
theorem C3:g0 C a (.bytes x) .join "bytes.join":=by intro k l o s' vs xs r p ok f rs e;refine ac λh=>m0 (bM rs e) λv y b d i e=>?_;subst b;subst d;refine bB f λq t b d u=>?_;subst b;subst d;refine bO (show (ke y).bind (qk _)=TK r from e) λys j e=>?_;obtain rfl:=dZ j;obtain ⟨c,w,m,rfl,g,-,rs',-⟩:=i;refine h ?_;exact (zh g rs' e).up
theorem C4:g0 C a (.bytes x) .replace "bytes.replace":=by intro h i j s' vs xs r k ok d rs e;refine K2 (lZ rs e) λv w y z b c f g e=>?_;subst b;subst c;exact (CZ d f g e).up
theorem C5:g0 C a (.bytes x) .find "bytes.find":=by intro h i j s' vs xs r k ok d rs e;refine K2 (lZ rs e) λv w y z b c f g e=>?_;subst b;subst c;exact (C0 d f g e).up
theorem C6 {Q:TT×List TT->TP->Prop} {E:TT->TP->Prop} (d:Rep C X s.heap a x) (hm:qm x e=TN) (hn:f7 cV f=TK e) (h:∀id,g0 C a x e id->Q (.builtin id,[a]) s):
  aC (model C.prog C.w) A (UC a f pl) Q E s:=by
 cases x with
 |str xs=>
  refine bB d λu t b c c=>?_;subst b;refine KF (B6 hm) (λb=>?_) (λb=>?_) (λb=>?_) λb=>?_
  ·subst b;obtain rfl:=gv "join" hn (by decide+kernel)
   with_reducible exact C1 F.slot_str_join F.type_str_join (h _ C2)
  ·subst b;obtain rfl:=gv "encode" hn (by decide+kernel)
   with_reducible exact C1 F.slot_str_encode F.type_str_encode (h _ wA)
  ·subst b;obtain rfl:=gv "upper" hn (by decide+kernel)
   with_reducible exact C1 F.slot_str_upper F.type_str_upper (h _ zj)
  ·subst b;obtain rfl:=gv "split" hn (by decide+kernel)
   with_reducible exact C1 R4 F.type_str_split (h _ zk)
 |bytes xs=>
  refine bB d λu t b c c=>?_;subst b;refine or3 (vO hm) (λb=>?_) (λb=>?_) λb=>?_
  ·subst b;obtain rfl:=gv "join" hn (by decide+kernel)
   with_reducible exact zi FM.nQ FM.wq (h _ C3)
  ·subst b;obtain rfl:=gv "replace" hn (by decide+kernel)
   with_reducible exact zi FM.nR FM.ws (h _ C4)
  ·subst b;obtain rfl:=gv "find" hn (by decide+kernel)
   with_reducible exact zi FM.nS FM.wu (h _ C5)
 |_=>exact TU hm Pm
variable {M:VS} {E:TT->TP->Prop}
theorem GT {id:String} (h:ci (.builtin id args)=TN):∀t∈iG,id≠t:=by intro t m e;subst e;have:=Qt.mpr m;exact TU ((TQ not this).symm.trans h) Pm
theorem nT {Q:Bool->TP->Prop} (h:Q TO s):aC M A (Ti v) Q E s:=by
 intro d p i c;refine aa (Sem.wp_bind ..) (aa (Sem.wp_stack ..) ?_);have g:∀q∈(d.code,p)::d.below,ci q.1=TN:=λq m=>by
  refine PA (Pf.mp m) (λe=>?_) λm=>?_
  ·refine aa (e ..) ?_;exact c.code
  ·exact c.below q m
 have key:∀(l:List (Code×Pos)) f,(∀q∈l,ci q.1=TN)->(∀q,ci q.1=TN->f q=TO)->l.any f=TO:=λl f a b=>Rw.mpr λq m=>by refine aa (b q (a q m) ..) ?_;exact Pm
 refine aa (Sem.wp_pure ..) ?_;show Sem.wp M d (Sem.pure (((d.code,p)::d.below).any _)) _ _ p s;rw [Sem.wp_pure,key _ _ g ?_]
 ·exact h
 ·intro q j;obtain ⟨q,p⟩:=q;cases q with
  |builtin id args=>
   have hn:=GT j;have k:Rf.contains id=TO:=by refine p9 (Bool.eq_false_iff ..) ?_;intro y;exact hn id (P4 _ (Qt.mp y)) TL
   delta Builtin.Bytes.exported.match_1
   with_unfolding_all refine (dif_neg (hn "bytearray.__contains__" (by decide))).trans ?_
   refine (dif_neg (hn "bytearray.__mod__" (by decide))).trans ((dif_neg (hn "bytearray.__rmod__" (by decide))).trans ?_);refine (dif_neg (hn "_struct.pack_into.held" (by decide))).trans ((dif_neg (hn "bytearray.find.held" (by decide))).trans ?_);obtain ⟨pos,o⟩:=args;cases pos with
   |nil=>rfl
   |cons x l=>show (Builtin.Bytes.sameRef x v&&Rf.contains id)=TO;exact aa (k ..) (aa (TB ..) TL)
  |_=>rfl
end
section
namespace FR
theorem l1:PlainAttrs "bytearray":=⟨⟨"bytearray.__getattribute__",by rw [T4,T1];kernel_rfl,by decide+kernel⟩,by rw [T4,T1];kernel_rfl⟩
theorem owner:Manifest.owners.lookup (String.ofList ['y', 'a', 'r', 'r', 'a', 'e', 't', 'y', 'b'].reverse)=TK Manifest.sig_bytearray:=by kernel_rfl
theorem rg:RI "bytearray" "append" "bytearray.append":=.of (owner:="bytearray") (n:="append") (by rw [T4,T1];kernel_rfl) (by decide+kernel) (by decide+kernel) (by decide+kernel)
  (by first|exact .inl (by decide+kernel)|exact .inr (by decide+kernel)) (by rw [Uo];kernel_rfl)
theorem zl:VE (.builtin "bytearray.append")=pure (.type "method_descriptor"):=by show Vj _=_;rw [Uw];kernel_rfl
theorem wB:UB table "bytearray.append"=TK Uq.«bytearray.append»:=Ul (by kernel_rfl)
theorem zm (a b:TT):UR "bytearray.append" ⟨[a,b],[]⟩:=by unfold UR;rw [UE (n:=['d', 'n', 'e', 'p', 'p', 'a']) (by kernel_rfl) owner];kernel_rfl
theorem rh:RI "bytearray" "extend" "bytearray.extend":=.of (owner:="bytearray") (n:="extend") (by rw [T4,T1];kernel_rfl) (by decide+kernel) (by decide+kernel) (by decide+kernel)
  (by first|exact .inl (by decide+kernel)|exact .inr (by decide+kernel)) (by rw [Uo];kernel_rfl)
theorem zn:VE (.builtin "bytearray.extend")=pure (.type "method_descriptor"):=by show Vj _=_;rw [Uw];kernel_rfl
theorem wC:UB table "bytearray.extend"=TK Uq.«bytearray.extend»:=Ul (by kernel_rfl)
theorem zo (a b:TT):UR "bytearray.extend" ⟨[a,b],[]⟩:=by unfold UR;rw [UE (n:=['d', 'n', 'e', 't', 'x', 'e']) (by kernel_rfl) owner];kernel_rfl
end FR
variable {C:Cx} {A:T0} {X:AP} {s:TP} {n:Nat} {E:TT->TP->Prop}
theorem eT {d:Type} {a b:Sem d} {Q:d->TP->Prop} (e:c=TO) (h:aC M A b Q E s):aC M A (if c=TN then a else b) Q E s:=by subst e;exact h
theorem uC {Q:Unit->TP->Prop} (g:s.heap.get? a=TK (bC b)) (h:Q () s):aC M A (RC (.ref a)) Q E s:=by refine ab ?_;refine ab (nT ?_);refine ab ?_;refine ab (gI g (af (af ?_)));exact af h
theorem o3 {Q:Unit->TP->Prop} (g:s.heap.get? a=TK (bC b)) (z:(f b).size<=av) (h:Q () {s with heap:=s.heap.update a (QB f)}):aC (model prog w) A (Rh (.ref a) f) Q E s:=by refine up ?_;show T6 _ _ (updateBytearray a f) _ _ _;refine TV (UV g ?_);refine TV (wpAny_update g ?_);refine wpAny_lookBehind (Q8 (QB f) g TL) ?_ h;show (if (f b).size>T8 then TK "bytearray:memory" else TW)=TW;exact aa (TZ (by refine aa (Ur ..) ?_;exact Pt.mpr z) ..) TL
theorem dK (g:s.heap.get? a=TK (bC b)):(s.heap.update a (QB f)).get? a=TK (bC (f b))/\(∀c o,c≠a->s.heap.get? c=TK o->(s.heap.update a (QB f)).get? c=TK o)/\s.heap.objs.size<=(s.heap.update a (QB f)).objs.size:=(dQ (Q8 (QB f) g TL) (λc o ne e=>(Rm _ _ (S1 ne)).trans e) (by refine aa (Q6 ..) ?_;exact Px _))
theorem C7 {Q:TT×List TT->TP->Prop} (g:s.heap.get? a=TK (bC b)) (f:x="append"\/x="extend") (h:Q (.builtin ("bytearray."++x),[.ref a]) s):
  aC (model C.prog C.w) A (UC (.ref a) (O6 x) pl) Q E s:=by
 have d:s.TypeIs (.ref a) "bytearray":=(i12 _ g TL);have hd:∀c,Sl a=.ref c->∃o,s.heap.get? c=TK o/\o.dict=TW:=λc e=>S0 e▸(i12 _ g TL);rcases f with rfl|rfl
 ·have h:Q (.builtin "bytearray.append",[.ref a]) s:=h
  with_reducible exact lg.up (Us d FR.l1 FR.rg FR.zl hd h)
 ·have h:Q (.builtin "bytearray.extend",[.ref a]) s:=h
  with_reducible exact lg.up (Us d FR.l1 FR.rh FR.zn hd h)
theorem l2 {id:String} {Q:TT->TP->Prop} (a:RI T d id) (f:s.TypeIs self T)
  (c:UB table id=TK B) (args:UR id ⟨self::rest,[]⟩) (ok:ci (.builtin id ⟨self::rest,[]⟩)=TN) (h:aC (model C.prog C.w) A.in1 (B ⟨self::rest,[]⟩) (λfin s'=>∃v,fin=.done (.ret v)/\Q v s') E s):
  aC (model C.prog C.w) A (call (.builtin id) (self::rest)) Q E s:=by
 refine eL (a3 ?_);show aC _ A.in1 (do Ud id ⟨self::rest,[]⟩;again (.builtin id ⟨self::rest,[]⟩)) _ _ s;refine ab (up (a.check _ _ _ _ _ _ _ _ f args ?_));refine af (dQ (UF a.plain _) ok (a3 ?_));show aC _ _ (match UB table id with|some b=>b ⟨self::rest,[]⟩|none=>unsupported ((withoutEnding? id "#data").getD id)) _ _ s;refine aa (c ..) (aa (Qw a.plain _ ..) ?_);refine ar h (λfin s' q=>?_) λe s' q=>q;obtain ⟨v,rfl,q⟩:=q;exact q
theorem C8 {Q:TT->TP->Prop} (g:s.heap.get? a=TK (bC b)) (r:Rep C X s.heap v (.int c)) (e:0<=c) (f:c<256) (z:b.size<av) (h:∀h' tk,h'.get? a=TK (bC (b.push (Pp c.toNat)))->(∀b o,b≠a->s.heap.get? b=TK o->h'.get? b=TK o)->s.heap.objs.size<=h'.objs.size->Q .none {s with heap:=h',toks:=tk}):
  aC (model C.prog C.w) A (call (.builtin "bytearray.append") [.ref a,v]) Q E s:=by
 refine cR r λt d=>?_;subst d;refine l2 FR.rg (i12 _ g TL) FR.wB (FR.zm _ _) (by show (!iG.contains "bytearray.append")=TN;decide+kernel) ?_;show aC _ _ (RQ (.int c t)>>=_) _ _ s;have i:RQ (.int c t)=pure c.toNat.toUInt8:=by unfold RQ;exact aa (show asIndex (.int c t)=pure c from TL) (aa (pure_bind ..) (aa (TZ (by refine aa (Bool.or_eq_true ..) (aa (decide_eq_true_eq ..) (aa (decide_eq_true_eq ..) ?_));exact λh=>h.elim (PK.mpr e) (Tv.mpr f)) ..) TL))
 refine aa (i ..) (ab (af ?_));refine ab (uC g ?_);refine ab (o3 g (by show (b.push _).size<=av;refine aa (Tm ..) ?_;exact z) ?_);exact fE (dK g) λj k l=>af (i12 _ TL (h _ s.toks j k l))
theorem C9 {Q:TT->TP->Prop} (g:s.heap.get? a=TK (bC b)) (r:Rep C X s.heap v (.bytes e)) (z:b.size+e.length<av) (h:∀h' tk,h'.get? a=TK (bC (b++e.toArray))->(∀b o,b≠a->s.heap.get? b=TK o->h'.get? b=TK o)->s.heap.objs.size<=h'.objs.size->Q .none {s with heap:=h',toks:=tk}):
  aC (model C.prog C.w) A (call (.builtin "bytearray.extend") [.ref a,v]) Q E s:=by
 refine bB r λu t c d l=>?_;subst c;subst d;refine l2 FR.rh (i12 _ g TL) FR.wC (FR.zo _ _) (by show (!iG.contains "bytearray.extend")=TN;decide+kernel) ?_;unfold Uq.«bytearray.extend»;rw [show ∀id,selfAndOne id ⟨[.ref a,.bytes u t],[]⟩=pure (Sl a,QS u t) from λ_=>rfl,pure_bind];dsimp only;refine aa (TC KBy.look_buffer ..) (ab (af ?_));show aC _ _ (rule _>>=_) _ _ s;refine ab (gH ?_);have hp:∀{Q:Array UInt8->TP->Prop} {E:TT->TP->Prop},Q b s->aC (model C.prog C.w) A.in1 (RZ (.ref a)) Q E s:=λq=>by refine ab ?_;exact ab (gI g (af (af q)))
 refine ab (hp ?_);refine aa (uB ..) (ab (af ?_));show aC _ _ (if (!u.isEmpty)=TN then (RC (.ref a)>>=λ_=>Rh (.ref a) (· ++u)>>=λ_=>ret .none) else (Rh (.ref a) (· ++u)>>=λ_=>ret .none)) _ _ s;have f:aC (model C.prog C.w) A.in1 (Rh (.ref a) (· ++u)>>=λ_=>ret .none) (λfin s'=>∃v,fin=.done (.ret v)/\Q v s') E s:=by refine ab (o3 g (by refine aa (RW ..) ?_;exact Pw z) ?_);exact fE (dK g) λi j k=>af (i12 _ TL (h _ s.toks i j k))
 cases u.isEmpty
 ·exact ab (uC g f)
 ·exact f
end
namespace FR
theorem wD:RI "bytearray" "__init__" "bytearray.__init__":=.of (owner:="bytearray") (n:="__init__") (by rw [T4,T1];kernel_rfl) (by decide+kernel) (by decide+kernel) (by decide+kernel)
  (by first|exact .inl (by decide+kernel)|exact .inr (by decide+kernel)) (by rw [Uo];kernel_rfl)
theorem l3:UB table "bytearray.__init__"=TK Uq.«bytearray.__init__»:=Ul (by kernel_rfl)
theorem ri (a:TT):UR "bytearray.__init__" ⟨[a],[]⟩:=by unfold UR;rw [UE (n:=['_', '_', 't', 'i', 'n', 'i', '_', '_']) (by kernel_rfl) owner];kernel_rfl
theorem rj (a b:TT):UR "bytearray.__init__" ⟨[a,b],[]⟩:=by unfold UR;rw [UE (n:=['_', '_', 't', 'i', 'n', 'i', '_', '_']) (by kernel_rfl) owner];kernel_rfl
theorem mro:mroOf (.type "bytearray")=pure [.type "bytearray",.type "object"]:=by rw [mroOf_type];kernel_rfl
theorem zp:UA (.type "bytearray") "__new__"=pure (TK (.builtin "bytearray.__new__")):=by rw [T4,T1];kernel_rfl
theorem called:TypeCalled "bytearray" "bytearray.__new__" "bytearray.__init__":=⟨by decide+kernel,by decide+kernel,⟨_,_,mro⟩,madeBy_type mro zp (by decide+kernel),by decide+kernel,by rw [Uo];kernel_rfl,wD⟩
theorem tq:checkTypeCall "bytearray" ⟨[],[]⟩=pure ():=by kernel_rfl
theorem tu (a:TT):checkTypeCall "bytearray" ⟨[a],[]⟩=pure ():=by kernel_rfl
theorem wE:Ud "bytearray.__new__" ⟨[.type "bytearray"],[]⟩=pure ():=by kernel_rfl
theorem wF (a:TT):Ud "bytearray.__new__" ⟨[.type "bytearray",a],[]⟩=pure ():=by kernel_rfl
theorem wG:UB table "bytearray.__new__"=TK Uq.«list.__new__»:=
 entryFor_alias (id':="list.__new__") (by rw [fastTable_eq_tree];kernel_rfl) (by decide+kernel) (by decide+kernel) (by rw [fastTable_eq_tree];kernel_rfl)
theorem nU:plainId "bytearray.__new__"=TN:=by decide+kernel
set_option maxHeartbeats 4000000 in
theorem wH:("bytearray.__new__".splitOn ".__new__").headD ""="bytearray":=by simp+decide [String.splitOn,String.splitOnAux]
theorem sub_self:isSubtype (.type "bytearray") (.type "bytearray")=pure TN:=by rw [Uo];kernel_rfl
theorem tw:UA (.type "bytearray") "__release_buffer__"=pure (TK (.builtin "bytearray.__release_buffer__")):=by rw [T4,T1];kernel_rfl
end FR
section
variable {C:Cx} {A:T0} {X:AP} {s:TP} {n:Nat} {E:TT->TP->Prop}
theorem iC (l:List TT) (a:Ud "bytearray.__new__" ⟨.type "bytearray"::l,[]⟩=pure ()) {Q:TT->TP->Prop}
  (h:Q (.ref s.heap.objs.size) {s with heap:=s.heap.push (bC #[])}):
  VK (model prog w) A (.call (.builtin "bytearray.__new__") ⟨.type "bytearray"::l,[]⟩) (wants Q E) s:=by
 refine Vv ?_;show T6 _ A.in1 (do Ud "bytearray.__new__" ⟨.type "bytearray"::l,[]⟩;again (.builtin "bytearray.__new__" ⟨.type "bytearray"::l,[]⟩)) _ _ s;refine TV (T9 a (TX ⟨UF FR.nU _,codeAny_builtin_stack FR.wG TL λp st=>?_⟩));refine aa (Qw FR.nU _ ..) ?_;refine TV (T9 TL ?_);refine aa (FR.wH ..) (TV (T9 FR.sub_self ?_));refine TV (TX ?_);refine TV (Vf ?_ (QF _));exact TX h
theorem gb {Q:Bool->TP->Prop} (b:s.TypeIs (.ref a) "bytearray") (h:Q TO s):T6 M A (Builtin.Bytes.ownRelease (.ref a)) Q E s:=by refine TV (TV (Ui b FR.tw ?_));refine Uc (by decide+kernel) (aa ((by decide+kernel:"bytearray.__release_buffer__".dropRight ("__release_buffer__".length+1)="bytearray") ..) ?_);exact UL b FR.sub_self (TX h)
theorem nj:UA (.type "bytes") "__index__"=pure TW:=by refine aa (T4 ..) (aa (T1 ..) ?_);kernel_rfl
theorem rk {id:String}:QO id (.bytes b t) TN=pure (TK b):=by kernel_rfl
theorem tx:Sp "bytearray.__init__" "bytearray" ["source","encoding","errors"] [] []=pure [TW,TW,TW]:=by kernel_rfl
theorem tz (v:TT):Sp "bytearray.__init__" "bytearray" ["source","encoding","errors"] [v] []=pure [TK v,TW,TW]:=by kernel_rfl
theorem l4 {Q:Fin->TP->Prop} {l:List TT} {r:List (Option TT)} (g:s.heap.get? a=TK (bC b))
  (h:aC (model prog w) A k Q E {s with heap:=s.heap.update a (QB λ_=>#[])}):
  aC (model prog w) A (do
   if ←Ti (.ref a)<||>(do return (←Builtin.Bytes.exportsOf (.ref a))>0) then
    if !(←RZ (.ref a)).isEmpty then RC (.ref a)
    unsupported "bytearray.__init__:exported"
   Rh (.ref a) λ_=>#[]
   k) Q E s:=by
 refine ab ?_;refine ab (nT ?_);refine ab ?_;refine ab (gI g (af (af ?_)));exact ab (o3 g (QF _) h)
theorem fJ {id:String} {R:UM->TP->Prop} (a:UB table id=TK b) (h:aC (model prog w) (A.under (.builtin id args)) (b args) (Iw (model prog w) A R) (λe s'=>R (.error e) s') s):codeN (model prog w) A (.builtin id args) R s:=by refine a3 ?_;show aC _ _ (match UB table id with|some b=>b args|none=>unsupported ((withoutEnding? id "#data").getD id)) _ _ s;refine aa (a) ?_;exact h
theorem nV {args:List TT} {Q Q₁:TT->TP->Prop} (g:TypeCalled T i b)
  (p:checkTypeCall T ⟨args,[]⟩=pure ()) (h:UB table b=TK x) (t:∀a,ci (.builtin b ⟨a::args,[]⟩)=TN)
  (l:VK (model prog w) A.in1 (.call (.builtin i) ⟨.type T::args,[]⟩) (wants Q₁ E) s)
  (j:∀d f,Q₁ d f->f.TypeIs d T/\UR b ⟨d::args,[]⟩/\aC (model prog w) A.in1.in1 (x ⟨d::args,[]⟩) (λfin s'=>fin=.done (.ret .none)/\Q d s') E f):
  aC (model prog w) A (call (.type T) args) Q E s:=by
 refine xK g.mro λc z m=>eL (a3 ?_);refine af (dQ (Code.quiet_builtin _ (by decide+kernel)) (by show (!iG.contains "type.__call__")=TN;decide+kernel) (fJ F.entry_type_call ?_));rw [Around.under_plain (weight_type_call_type T args []) TL];refine eT g.notType (eT g.canCreate ?_);refine Qf (p)▸(ab (af ?_));refine Qf (m)▸(ab (af ?_));refine eT TL ?_;rw [g.made];refine ab (af ?_);refine ab (af ?_);refine ab (aq (up (wpAny_call (codeAny_mono l λr f hr=>?_))));cases r with
 |error e=>exact hr
 |ok y=>
  cases y with
  |ret d=>refine fE (j _ _ hr) λu k v=>ab (up (UL u g.sub ?_));refine eT TL (ab (aq ?_));refine ab (up (Ui u g.init.lookup ?_));refine aq (Qf (g.init.bind d)▸?_);refine ab (af ?_);refine ab (eL (a3 ?_));show aC _ A.in1.in1 (do Ud b ⟨d::args,[]⟩;again (.builtin b ⟨d::args,[]⟩)) _ _ _;refine ab (up (g.init.check _ _ _ _ _ _ _ _ u k ?_));refine af (dQ (UF g.init.plain _) (t d) (fJ h ?_));refine Qf (Qw g.init.plain _)▸(ar v (λfin o q=>?_) λe o q=>q);obtain ⟨rfl,q⟩:=q;exact af (af q)
  |_=>exact hr.elim
theorem uD:ci (.builtin "bytearray.__init__" ⟨a::args,[]⟩)=TN:=by show (!iG.contains "bytearray.__init__")=TN;decide+kernel
theorem cI {h:Ut}:(h.push (bC #[])).get? h.objs.size=TK (bC #[]):=Pz _ TL
theorem nW (u:Array UInt8):a9 s {s with heap:=(s.heap.push (bC #[])).update s.heap.objs.size (QB λ_=>u)}:=⟨(hY _ _ TL),λc o e=>(dK (s:={s with heap:=s.heap.push (bC #[])}) cI).2.1 c o (QZ (Py e)) (Pq _ e),by
  simp only [Q6,P0];exact Sj _⟩
theorem GU {Q:TT->TP->Prop} {E:TT->TP->Prop} (h:∀a s',a9 s s'->s.heap.objs.size<=a->s'.heap.get? a=TK (bC #[])->Q (.ref a) s'):aC (model C.prog C.w) A (call (.type "bytearray") []) Q E s:=by refine nV (Q₁:=λc b=>c=.ref s.heap.objs.size/\b={s with heap:=s.heap.push (bC #[])}) FR.called FR.tq FR.l3 (λa=>uD) (iC [] FR.wE ⟨TL,TL⟩) ?_;rintro c b ⟨rfl,rfl⟩;refine (dQ (i12 _ cI TL) (FR.ri _) ?_);refine ab (up (gb (i12 _ cI TL) ?_));refine eT TL (ab (eG (tx) ?_));refine ab (af ?_);refine ab (af ?_);exact l4 (l:=[]) (r:=[]) cI (ab (af (af ⟨TL,h _ _ (nW #[]) (Px _) (dK cI).1⟩)))
theorem GV (i:u.size<=av) {Q:TT->TP->Prop} {E:TT->TP->Prop} (h:∀a s',a9 s s'->s.heap.objs.size<=a->s'.heap.get? a=TK (bC u)->Q (.ref a) s'):aC (model C.prog C.w) A (call (.type "bytearray") [.bytes u t]) Q E s:=by refine nV (Q₁:=λd b=>d=.ref s.heap.objs.size/\b={s with heap:=s.heap.push (bC #[])}) FR.called (FR.tu _) FR.l3 (λa=>uD) (iC [_] (FR.wF _) ⟨TL,TL⟩) ?_;rintro d b ⟨rfl,rfl⟩;refine (dQ (i12 _ cI TL) (FR.rj _ _) ?_);refine ab (up (gb (i12 _ cI TL) ?_));refine eT TL (ab (eG (tz _) ?_));refine ab (af ?_);refine ab (af ?_);refine l4 (l:=[]) (r:=[]) cI (ab (af ?_));refine eT TL (ab (af ?_));refine ab (eG (TC nj) ?_);refine eT TL (ab (eG rk ?_));refine ab (gH ?_);have g1:=(dK (s:={s with heap:=s.heap.push (bC #[])}) (f:=λ_=>#[]) cI).1;refine fE (dK (s:={s with heap:=(s.heap.push (bC #[])).update s.heap.objs.size (QB λ_=>#[])}) (f:=λ_=>u) g1) λg2 j k=>?_;have g:=nW (s:=s) #[];exact ab (o3 g1 i (af ⟨TL,h _ _ ⟨(hY _ _ TL),λc o e=>j c o (QZ (Py e)) (g.keep c o e),O5 g.size k⟩ (Px _) g2⟩))
theorem Da {Q:TT->TP->Prop} {E:TT->TP->Prop} (rs:aP C X s.heap vs xs) (c:xs=[]/\b=[]\/xs=[.bytes b]) (h:∀a s',a9 s s'->s.heap.objs.size<=a->s'.heap.get? a=TK (bC b.toArray)->Q (.ref a) s'):aC (model C.prog C.w) A (call (.type "bytearray") vs) Q E s:=by
 rcases c with ⟨rfl,rfl⟩|rfl
 ·obtain rfl:vs=[]:=rs;exact GU h
 ·obtain ⟨v,rfl,⟨u,t,rfl,rfl,d⟩⟩:=rs.kB;exact GV d h
end
section
variable {C:Cx} {A:T0} {X:AP} {s:TP} {n:Nat}
namespace FR
theorem o4:UA (.type "bytes") "__bytes__"=pure (TK (.builtin "bytes.__bytes__")):=by rw [T4,T1];kernel_rfl
theorem zq:UA (.type "bytearray") "__bytes__"=pure TW:=by rw [T4,T1];kernel_rfl
theorem Db:UA (.type "bytearray") "__index__"=pure TW:=by rw [T4,T1];kernel_rfl
theorem buffer:UA (.type "bytearray") "__buffer__"=pure (TK (.builtin "bytearray.__buffer__")):=by rw [T4,T1];kernel_rfl
end FR
section
variable {prog:U7} {w:Uv} {E:TT->TP->Prop}
theorem o5 {Q:TT->TP->Prop} (h:Q (.bytes b t) s):VK (model prog w) A (.call (.builtin "bytes.__new__") ⟨[.type "bytes",.bytes b t],[]⟩) (wants Q E) s:=by refine Vv ?_;show T6 _ A.in1 (do Ud "bytes.__new__" ⟨[.type "bytes",.bytes b t],[]⟩;again (.builtin "bytes.__new__" ⟨[.type "bytes",.bytes b t],[]⟩)) _ _ s;refine TV (T9 (F.bm_newCall _) (TX ⟨UF F.bm_plain _,U6 F.bm_entry ?_⟩));refine aa (Qw F.bm_plain _ ..) ?_;refine TV (T9 TL ?_);refine Uc TL (TV (T9 F.bm_sub ?_));refine Uc TL (TV (T9 (F.bm_bind _) ?_));refine TV (T9 TL ?_);refine TV (T9 TL ?_);refine Uc TL (aa (TC FR.o4 ..) ?_);refine TV (TX ?_);refine TV (UG ?_);refine TV (UK (Ua s b t) ?_);refine UX (by decide) ?_;exact TX h
theorem rl {id:String} {Q:Option (Array UInt8)->TP->Prop} (g:s.heap.get? a=TK (bC b)) (h:Q (TK b) s):T6 M A (QO id (.ref a) d) Q E s:=by
 have c:s.TypeIs (.ref a) "bytearray":=(i12 _ g TL);refine TV (Ui c FR.buffer ?_);refine TV ?_;refine TV (Ui c FR.buffer ?_);refine Uc (by decide+kernel) ?_;have e:"bytearray.__buffer__".dropRight ("__buffer__".length+1)="bytearray":=by decide+kernel
 refine aa (e ..) (UL c FR.sub_self ?_);refine Uc TL (TV (Ui c FR.buffer ?_));refine TV (gb c ?_);refine Uc TL (TV ?_);exact TV (TV (UV g (TX (TX (TX h)))))
theorem rm {Q:TT->TP->Prop} (g:s.heap.get? a=TK (bC b)) (z:b.size<=av) (h:∀t k,Q (.bytes b t) {s with toks:=k}):VK (model prog w) A (.call (.builtin "bytes.__new__") ⟨[.type "bytes",.ref a],[]⟩) (wants Q E) s:=by
 have c:s.TypeIs (.ref a) "bytearray":=(i12 _ g TL);refine Vv ?_;show T6 _ A.in1 (do Ud "bytes.__new__" ⟨[.type "bytes",.ref a],[]⟩;again (.builtin "bytes.__new__" ⟨[.type "bytes",.ref a],[]⟩)) _ _ s;refine TV (T9 (F.bm_newCall _) (TX ⟨UF F.bm_plain _,U6 F.bm_entry ?_⟩));refine aa (Qw F.bm_plain _ ..) ?_;refine TV (T9 TL ?_);refine Uc TL (TV (T9 F.bm_sub ?_));refine Uc TL (TV (T9 (F.bm_bind _) ?_));refine TV (T9 TL ?_);refine TV (T9 TL ?_);refine Uc TL (TV (Ui c FR.zq ?_));dsimp only;refine TV (TV ?_);refine TV (UV g ?_);refine TX (TX ?_);refine Uc TL (TV (Ui c FR.Db ?_));refine UX TL ?_;first
  |show T6 _ _ (QO "bytes.__new__" (.ref a) TN>>=_) _ _ _
  |(refine TV ?_;show T6 _ _ (QO "bytes.__new__" (.ref a) TN>>=_) _ _ _)
 refine TV (rl g ?_);refine TV (UG ?_);refine TV (UZ ?_ (by refine aa (Ur ..) ?_;exact z));exact TX (h _ _)
end
theorem rn (e:eR (x::xs)=TK l):∃i a,x=.int i/\(0<=i/\i<256)/\eR xs=TK a/\l=i.toNat.toUInt8::a:=by
 cases x with
 |int i=>refine ac λb=>iO e λc e=>mO e λa d q=>b ?_;exact ⟨i,a,TL,c,d,q.symm⟩
 |_=>exact aZ e
theorem zr:∀{xs:List V} {vs:List TT} {l:List UInt8},aP C X h vs xs->eR xs=TK l->∃d:List Int,IntsAre vs d/\(∀n∈d,0<=n/\n<256)/\d.map (λn=>n.toNat.toUInt8)=l:=by
 intro g;induction g with
 |nil=>intro j l e q;obtain rfl:_=[]:=e;exact (eK [] .nil (λ_ m=>TU m Pn) (le q))
 |cons x xs k=>intro j l o q;refine bB o λv r e p rs=>?_;subst e;refine m0 (rn q) λi y c u w f=>?_;subst c;subst f;refine ix (k rs w) λd a b c=>?_;subst c;refine cR p λt c=>?_;subst c;exact ⟨i::d,.cons i t a,λm hm=>(Pf.mp hm).elim (λe=>e▸u) (b m),TL⟩
theorem zu (v:A.handled=TW) {a:TT} (o:Rep C X s.heap a x) (h:lA x=TK r):ay C A X s (call (.type "bytes") [a]) r:=by
 intro Q E k;cases x with
 |list xs=>refine ac λj=>iO h λJ h=>mO h λl y i=>?_;subst i;obtain ⟨c,vs,m,rfl,g,-,rs,z⟩:=o;refine ix (zr rs y) λB q D i=>?_;subst i;refine j ?_;refine bj (call_bytes_ints ⟨_,g,TL,m,TL⟩ q D (ch z) v λh' t tk H hs=>?_);exact k _ _ ⟨⟨_,_,TL⟩,H,hs⟩ ⟨byteArr B,t,TL,TL,by refine aa (byteArr_size ..) (bx (q.length ..) ?_);exact z⟩
 |gC b=>refine ac λj=>?_;obtain rfl:=le h;obtain ⟨c,u,rfl,g,-,z,rfl⟩:=o;refine j ?_;exact Vy (Q₁:=λf d=>d.TypeIs f "bytes"/\Q f d) Sm (F.bm_typeCall _) F.entry_object_init (rm g z λt tk=>⟨Ua _ _ _,k _ _ (.tok s tk) (.bytes u t z)⟩) λf d e=>⟨e.1,Sb f _,object_init_meets Sm.init.lookup Sm.made (by decide) C.prog C.w A.in1 _ d ⟨e.1,TL,e.2⟩⟩
 |bytes b=>refine ac λj=>?_;obtain rfl:=le h;refine bB o λu t i p z=>?_;subst i;subst p;refine j ?_;exact Vy (Q₁:=λf d=>d.TypeIs f "bytes"/\Q f d) Sm (F.bm_typeCall _) F.entry_object_init (o5 ⟨Ua _ _ _,k _ _ (.refl s) (.bytes u t z)⟩) λf d e=>⟨e.1,Sb f _,object_init_meets Sm.init.lookup Sm.made (by decide) C.prog C.w A.in1 _ d ⟨e.1,TL,e.2⟩⟩
 |_=>exact aZ h
end
section
variable {prog:U7} {w:Uv} {A:T0} {E:TT->TP->Prop} {s:TP}
theorem rp:UA (.type "list") "keys"=pure TW:=by kernel_rfl
theorem wI {Q:Option TT->TP->Prop} (g:s.heap.get? a=TK (seqObj "list" xs k)) (m:A.handled=TW) (h:∀h' tk,(∀b o,s.heap.get? b=TK o->h'.get? b=TK o)->Q TW {s with heap:=h',toks:=tk}):T6 (model prog w) A (getAttr? (.ref a) "keys") Q E s:=by
 refine ac λn=>?_;obtain ⟨hp,j,d,tk,os⟩:=s;refine n ?_;have l:∀c,(⟨hp,j,d,c,os⟩:TP).TypeIs (.ref a) "list":=λ_=>(i12 _ g TL);have f1:=sub_AttributeError;have q:=RJ.lookup;have r:=RJ.bind (.ref a);repeat (any_goals (first|assumption|exact l _|((with_reducible show T6 _ _ (call (Value.builtin "list.__getattribute__") _ _) _ _ _);refine UI RJ (l _) am_entry_list_getattribute (F.args_list_getattribute_2 _ _) (meets_getattribute_miss_list a xs k _ "keys" _ rp (by decide+kernel:(["__module__","__name__","__qualname__","__doc__","__annotations__"]).contains "keys"=TO) (by refine aa (Ur ..) ?_;decide+kernel:(O6 "keys").length+100<=T8)) (dQ g m (λh' c e f=>?_)))|wp_step))
 refine xK f.there λt u p=>?_;have i:∀tk,(⟨h',j,d,tk,os⟩:TP).TypeIs (.ref e) "AttributeError":=λ_=>(i12 _ p TL);refine TV (UL (i _) f1 ?_);refine UX TL ?_;refine aa (am_list_getattr_none ..) ?_;refine TV (TX ?_);refine wpAny_throw ?_;refine TV (UL (i _) f1 ?_);refine UX TL ?_;exact TX (h h' c f.keeps)
theorem rq {ps:List (Int×TT)} (hn:(ps.map (·.1)).Nodup) (h:ps[i]?=TK (k,v)):stored (ps.take i) k v=ps.take (i+1):=by
 have c:¬((ps.take i).any λd=>decide (d.1=k))=TN:=by
  refine p9 (List.any_eq_true ..) ?_;rintro ⟨p,m,hp⟩;obtain ⟨j,b⟩:=List.mem_iff_getElem?.mp m;have a:j<i:=by have:=(PP.mp b).1;rw [R5] at this;lia
  rw [List.getElem?_take_of_lt a] at b;obtain ⟨e,f⟩:=PP.mp (by refine aa (PM ..) (aa (b ..) ?_);simp [TM hp]:(ps.map (·.1))[j]?=TK k);obtain ⟨g,l⟩:=PP.mp (by refine aa (PM ..) (aa (h ..) ?_);rfl:(ps.map (·.1))[i]?=TK k);exact TU (SX hn j e) (by refine aa (f ..) (bx (l ..) (aa (SX hn i g ..) ?_));exact RH a)
 (rw [stored];refine aa (TZ c ..) (aa (SW ..) (aa (h ..) ?_)))
 rfl
namespace FR
theorem l5:UB table "dict.update.loop"=TK Uq.«dict.update.loop»:=Ul (by kernel_rfl)
theorem gg:plainId "dict.update.loop"=TN:=by decide+kernel
end FR
theorem wJ {R:UM->TP->Prop} {vs:List TT} (hh:A.handled=TW) (Y:s.heap.objs.size<=I) (hd:s.heap.objs.size<=d) (u:I≠d) (P:s.heap.IsList l vs.toArray) (J:∀(i:Nat) v,vs[i]?=TK v->∃t k tk w n,v=.ref t/\s.heap.get? t=TK (seqObj "tuple" #[.int k tk,w] n)/\ps[i]?=TK (k,w)) (g:vs.length=ps.length) (hn:(ps.map (·.1)).Nodup) (hz:ps.length<=T8) (Z:∀h' tk,(∀b o,s.heap.get? b=TK o->h'.get? b=TK o)->h'.DictOf (intKind prog w) d ps->R (.ok (.ret .none)) {s with heap:=h',toks:=tk}):∀(k i:Nat) (h:Ut) (tk:Nat) (H:Int) (L:Tok),ps.length-i=k->i<=ps.length->(∀b o,s.heap.get? b=TK o->h.get? b=TK o)->h.IsListIter I l i->h.DictOf (intKind prog w) d (ps.take i)->
   VK (model prog w) A (.builtin "dict.update.loop" ⟨[.ref d,.ref I,.int H L,.none],[]⟩) R {s with heap:=h,toks:=tk}:=by
 have p:∀{b:T2} {o:Obj},s.heap.get? b=TK o->b≠I/\b≠d:=λe=>⟨λx=>PG _ (Pj (x▸Py e) Y),λx=>PG _ (Pj (x▸Py e) hd)⟩;intro k;induction k with
 |zero=>
  intro i h tk H L B q a f c;have M:i=ps.length:=by exact PJ (aJ [_,_] 0x1040010421 q) (aJ [_,_,_] 0x62000610082158421 (O9 B) (sr _ _))
  subst M;refine U6 FR.l5 ?_;refine aa (Qw FR.gg _ ..) ?_;have y:=let ⟨o,ho,r⟩:=P;(i12 o (a _ _ ho) r)
  refine TV (wpAny_pyNext_list_end hh f y (by simp [g]) λh' Q=>?_);refine TV (TX (TX (Z h' tk (λb o e=>Q b o (p e).1 (a b o e)) ?_)));rw [Rj] at c;exact c.extBut Q (S1 u)
 |succ k ih=>
  intro i h tk H L B q a f c;have kj:i<ps.length:=by exact aJ [_,_,_,_] 0x8c1800020c400844c08021 (O9 (Qf B)) (ow (aJ [_,_] 0x1040010421 q))
  refine ac λT=>?_;obtain ⟨x,U⟩:∃x,vs[i]?=some x:=⟨vs[i]'(by exact aJ [_,_,_] 0x130600002c1802110421 (O9 (Qf g)) kj),PC (by exact aJ [_,_,_] 0x130600002c1802110421 (O9 (Qf g)) kj)⟩;refine NK (J i x U) λt N z W n O X hp=>?_;subst O;refine T ?_;clear T;refine U6 FR.l5 ?_;refine aa (Qw FR.gg _ ..) ?_;have y:=let ⟨o,ho,r⟩:=P;(i12 o (a _ _ ho) r)
  refine TV (wpAny_pyNext_list_item f y (by simpa using U) λh' C hs=>?_);have D:=(hs.2 t (p X).1).trans (a _ _ X);refine TV (UD ?_);refine TV (wpAny_tryCatch ?_);refine TV (UK ((i12 _ D TL)) ?_);refine UX (by decide) ?_;refine TV ?_;refine TV (UV D (TX (TX ?_)));show T6 _ _ (holding [.int N z,W] (dictSet d (.int N z) W)) _ _ _;refine UD (wpAny_dictSet_pairs (intKind_is prog w N z) (c.sameBut hs (S1 u)) (λF j m=>?_) ?_)
  ·rw [rq hn hp] at j;refine TX ⟨UF FR.gg _,ih (i+1) F (tk+1) (H+1) 0 (by exact PJ (aJ [_,_,_,_,_] 0x114001b08028021204030858200421 (O9 B) (sr _ _) (ow (aJ [_,_] 0x130200004c08021 kj))) (aJ [_,_,_,_,_] 0x2840060c050102120c400844c08021 (O9 (Qf B)) (ow (aJ [_,_] 0x1040010421 q)) (sr _ _))) kj (λb o e=>(m.2 b (p e).2).trans ((hs.2 b (p e).1).trans (a b o e))) (C.extBut m.extBut u) j⟩
  ·refine aa (R5 ..) ?_;lia
end
section
variable {C:Cx} {A:T0} {X:AP} {s:TP} {n:Nat}
theorem GW (e:IC l=TK p):l=[.int p.1,.int p.2]:=by
 rcases l with _|⟨a,_|⟨b,_|_⟩⟩
 ·exact aZ e
 ·exact aZ e
 ·exact bO e λi c e=>mO e λj d e=>e▸a8 c▸a8 d▸TL
 ·exact aZ e
theorem tA (e:pairsOf (x::xs)=TK l):∃a b c,x=.tuple [.int a,.int b]/\pairsOf xs=TK c/\l=(a,b)::c:=by exact bO e λp hp e=>mO e λc h e=>bO hp λt ht d=>⟨p.1,p.2,c,(fi ht).trans (TQ V.tuple (GW d)),h,e.symm⟩
theorem wK:∀{xs:List V} {vs:List TT} {l:List (Int×Int)},aP C X h vs xs->pairsOf xs=TK l->∃ps:List (Int×TT),vs.length=ps.length/\ps.map (·.1)=l.map (·.1)/\ (∀(i:Nat) v,vs[i]?=TK v->∃t k tk w n,v=.ref t/\h.get? t=TK (seqObj "tuple" #[.int k tk,w] n)/\ps[i]?=TK (k,w))/\ (∀(i:Nat) k v,ps[i]?=TK (k,v)->∃(j:Int) (t:Tok),v=RL j t/\l[i]?=TK (k,j)):=by
 intro B;induction B with
 |nil=>intro D l e q;obtain rfl:_=[]:=e;obtain rfl:=le q;exact (FL [] TL TL (λi v h=>aZ h) (λi k v h=>aZ h))
 |cons x xs F=>
  intro D l H q;refine bB H λv r e J rs=>?_;subst e;refine ac λL=>H9 (tA q) λa b U c M o=>?_;subst c;subst o;refine ub (F rs M) λps N O P Q=>?_;obtain ⟨t,R,m,rfl,g,-,p,-⟩:=J;refine bB p λu r T y p=>cR y λtk c=>?_;subst c;refine aT p.kB λw c z=>?_;subst c;refine cR z λd c=>?_;subst c;obtain rfl:R=#[.int a tk,.int b d]:=RE.mp T;refine L ?_;refine ⟨(a,.int b d)::ps,TQ Nat.succ N,TQ (a::·) O,λi v f=>?_,λi k v f=>?_⟩
  ·cases i with
   |zero=>exact le f▸⟨t,a,tk,_,m,TL,g,TL⟩
   |succ i=>exact P i v f
  ·cases i with
   |zero=>obtain ⟨rfl,rfl⟩:=PB (le f);exact ⟨b,d,TL,TL⟩
   |succ i=>exact Q i k v f
theorem Dc (M:A.handled=TW) (ok:c9 C X s) (R:Rep C X s.heap a x) (h:yd x=TK r):ay C A X s (call (.type "dict") [a]) r:=by
 intro Q E k;cases x with
 |list xs=>
  refine ac λi=>iO h λhz h=>bO h λl T h=>aM (bh h) λD H=>?_;subst H;obtain ⟨c,vs,m,rfl,g,-,rs,z⟩:=R;refine ub (wK rs T) λps N O U W=>i ?_;clear i;have t:ps.length<=av:=by simp only [←N,PS];exact z
  have d:(s.heap.push {cls:=.type "dict",data:=.dict #[]}).DictOf (intKind C.prog C.w) s.heap.objs.size []:=Heap.DictOf.new s.heap;have u:(s.heap.objs.size==sysModules)=TO:=by refine ac λi=>aT ok.base.lC λmc J Y=>i ?_;clear i;exact beq_false_of_ne λe=>TU (e▸J.lt) (by decide)
  have gl:(s.heap.push {cls:=.type "dict",data:=.dict #[]}).get? c=TK (seqObj "list" vs m):=Pq _ g;refine bj (Vy (Q₁:=λv f=>v=.ref s.heap.objs.size/\f={s with heap:=s.heap.push {cls:=.type "dict",data:=.dict #[]}}) F.kt_called_dict (F.kt_typeCall_dict_1 _) F.entry_dict_init (kt_code_dict_new _ ⟨TL,TL⟩) ?_);rintro v f ⟨rfl,rfl⟩;refine ⟨d.typeIs,F.args_dict_init_2 _ _,?_⟩;refine TV ?_;refine TV (wpAny_notOrdered_dict d.typeIs ?_);refine TX ?_;show T6 _ _ (Builtin.Dict.updateFrom "dict.__init__" s.heap.objs.size (.ref c) [] .none) _ _ _;refine TV (UK (⟨_,gl,TL⟩) ?_);refine UX (by decide) (TV (wI gl M λh' tk B=>?_));refine UX TL (TV (UG ?_));refine TV (Vi (⟨_,B _ _ gl,TL,m,TL⟩) ?_);have y:s.heap.objs.size<h'.objs.size:=by have:=Py (B _ _ (Pz s.heap TL:(s.heap.push {cls:=.type "dict",data:=.dict #[]}).get? s.heap.objs.size=TK _));exact this
  refine TX ⟨UF FR.gg _,wJ (A:=A.in1) (s:=s) (l:=c) (ps:=ps) M (Pw y) (Px _) (RH y) ⟨_,g,TL,m,by simp⟩ U N (by refine aa (O) ?_;exact D) (ch t) (λP L j p=>?_) ps.length 0 _ tk 0 0 (by exact TL) (QF _) (λb o e=>Pq _ (B b o (Pq _ e))) ⟨_,Pz _ TL,TL,TL⟩ ?_⟩
  ·refine ⟨TL,λq=>?_⟩;refine ac λi=>aT (Tp.mp p) λo Z hd=>kJ (id hd) λes ep ed Y=>i ?_;exact k _ _ ⟨⟨_,_,TL⟩,j,q⟩ ⟨_,o,ps,TL,Z,λx=>PG _ (ok.xb _ x).1,ed.1,u,hd,O,W,t⟩
  ·exact (d.keep B).push _
 |_=>exact aZ h
end
section
open Builtin Builtin.ObjectAttr Builtin.Getset_descriptor
variable {prog:U7} {w:Uv} {A:T0} {K:Vq} {C:T2} {x:T2} {s:TP} {E:TT->TP->Prop}
structure l6 (K:Vq) (C:T2) (name:Str):Prop where
 hs:UQ K (.ref C) "__setattr__"=TK (TK (.builtin "object.__setattr__"))
 hp:plainOver K C=TN
 ht:takerIn K C name=TK TW
 hh:(clsIn K C).any (·.hasDict)=TN
set_option tactic.hygienic true in
theorem GX {R:UM->TP->Prop} {l k f:Obj} {i:T2} {d:Str} {tk:Tok} {v:TT} {es:List U8} {n:Nat} (X:K.In s.heap) (S:l6 K C d) (I:InstAt s.heap x l C (TK k)) (hd:l.dict=TK i) (D:s.heap.get? i=TK k) (j:(Vn d k).isSome=TN) (e:RX d (SF w.params d) (.str d s.toks) v k=f) (p:f.data=.dict es.toArray n) (B:es.length<=1000) (h:∀h' tk,h'.get? i=TK f->(∀b o,b≠i->s.heap.get? b=TK o->h'.get? b=TK o)->h'.objs.size=s.heap.objs.size->R (.ok (.ret .none)) {s with heap:=h',toks:=tk}):
  VK (model prog w) A (.call (.builtin "object.__setattr__") ⟨[.ref x,.str d tk,v],[]⟩) R s:=by
 refine osa_open X I S.hp S.ht λb=>ac λr=>aT (any_some S.hh) λcd F m=>?_;have t:(s.heap.update i (RX d (SF w.params d) (.str d s.toks) v)).get? i=TK f:=by refine bx (e ..) ?_;exact Q8 _ D (by refine aa (e ..) ?_;exact (by obtain ⟨_,_,O,_⟩:=f;cases p;rfl:f.isFreed=TO))
 obtain ⟨H,xH,hn,-⟩:=I;obtain ⟨P,J,L,M⟩:=l;refine r ?_;clear r;dsimp only at xH hd;subst xH hd;refine TV (TX (TV (TV (wpAny_loadPart H (TV ((looks_clsIn X F).here ?_))))));refine aa (m ..) (TX (a:=TK i) (TV (TX (TV ?_))));unfold nsSet;refine TV (TV (wpAny_askSetting (TX (TV (wpAny_mkText (TV (wpAny_loadPart D ?_)))))));unfold Vn at j;split at j
 ·rename_i g u q;refine aa (q ..) ?_;dsimp only;have c:(!g.any (·.key.isStr d)&&g.any (·.refKey))=TO:=by
   refine bx (Tb ..) (bx (Tb ..) ?_);split at j
   ·rename_i N y;refine aa (List.any_eq_true.mpr (i12 N (List.mem_of_find?_eq_some y) (List.find?_some y)) ..) ?_;rfl
   ·split at j
    ·cases j
    ·rename_i z;rw [Bool.not_eq_true] at z;exact aa (z ..) (aa (TB ..) TL)
  refine aa (aRefKeyMayBeTheName_at ..) (aa (c ..) ?_);refine wpAny_updatePart D ?_;refine TV (wpAny_lookBehind t (by refine aa (p ..) ?_;exact pastItsLine_dict (by refine aa (Rv ..) (aa (Ur ..) ?_);exact bT B TL)) ?_);exact TX (h _ _ t (λb o ne e=>(Rm _ _ (S1 ne)).trans e) (Q6 ..))
 ·cases j
theorem o6 {es:List U8} {Q:Unit->TP->Prop} (X:K.In s.heap) (S:l6 K C d) (I:InstAt s.heap x j C (TK g)) (hd:j.dict=TK i) (D:s.heap.get? i=TK g) (k:(Vn d g).isSome=TN) (e:RX d (SF w.params d) (.str d (s.toks+1)) v g=f) (l:f.data=.dict es.toArray n) (m:es.length<=1000) (h:∀h' tk,h'.get? i=TK f->(∀b o,b≠i->s.heap.get? b=TK o->h'.get? b=TK o)->h'.objs.size=s.heap.objs.size->Q () {s with heap:=h',toks:=tk}):
  T6 (model prog w) A (setAttr (.ref x) d v) Q E s:=
 set_plain X I S.hs (GX X S I hd D k e l m λh' tk a b c=>h h' tk a b c)
end
section
variable {C:Cx} {A:T0} {X:AP} {s:TP} {n:Nat} {E:TT->TP->Prop} {wm:Nm->Option V}
structure g4 (C:Cx) (wm:Nm->Option V):Prop where
 KQ:UQ C.K (.ref C.cW) "__getattribute__"=TK (TK (.builtin "object.__getattribute__"))
 Nj:UQ C.K (.ref C.cW) "__getattr__"=TK TW
 Nk:UQ C.K (.ref C.cA) "__getattribute__"=TK (TK (.builtin "object.__getattribute__"))
 wL:∀t∈["at","data"],l6 C.K C.cW (O6 t)/\UQ C.K (.ref C.cW) (O6 t)=TK TW
 Dd:l6 C.K C.cA (O6 "text")/\UQ C.K (.ref C.cA) (O6 "text")=TK TW
 wm:∀nm f,wm nm=TK f->∃fa t,f=.ref fa/\cV.all (λp=>p.2 !=nm||p.1==t)=TN/\UQ C.K (.ref C.cW) (O6 t)=TK (TK (.ref fa))/\typeIn C.K (.ref fa)=TK (.type "function")/\(O6 "data"==O6 t)=TO/\(O6 "at"==O6 t)=TO
theorem h8 (b:s.heap.get? a=TK (fP C.cW d)) (gd:s.heap.get? d=TK c):InstAt s.heap a (fP C.cW d) C.cW (TK c):=⟨b,TL,TL,gd⟩
theorem wM (b:s.heap.get? a=TK (fP C.cA d)) (gd:s.heap.get? d=TK c):InstAt s.heap a (fP C.cA d) C.cA (TK c):=⟨b,TL,TL,gd⟩
theorem GY (b:0<=i):RX (O6 "at") h k (.int i t) (de (c7 c d e f g l r) m)=de (c7 c d e f g t {r with pos:=i.toNat}) m:=by refine cR (Rg b) λj a=>?_;subst a;kernel_rfl
theorem uE:Vn (O6 "at") (de (c7 b c d e f a r) m)=TK (TK (.int r.pos a)):=by kernel_rfl
theorem wN:Vn (O6 "data") (de (c7 b c a d e f r) m)=TK (TK (.bytes r.data.toArray a)):=by kernel_rfl
theorem wO:Vn (O6 "text") (de #[⟨b,.str (O6 "text") c,.str x a⟩] m)=TK (TK (.str x a)):=by kernel_rfl
theorem zv (S:g4 C wm) {Q:Unit->TP->Prop} (ok:c9 C X s) (v:cU C X s.heap g) (x:g.wire=TK w) (hn:f7 cV y=TK .at_) (z:0<=i) (h:∀h' tk,(∃e f j k l q n,h'.get? w.d=TK (de (c7 e f j k l q {w with pos:=i.toNat}) n))->(∀b o,b≠w.d->s.heap.get? b=TK o->h'.get? b=TK o)->s.heap.objs.size<=h'.objs.size->Q () {s with heap:=h',toks:=tk}):
  aC (model C.prog C.w) A (setAttr (.ref w.a) y (.int i t)) Q E s:=by
 refine ac λr=>?_;obtain rfl:=gv "at" hn (by decide+kernel);refine ou (v.wire w x) λu u u B p=>EF p λe f j k l q m gd=>r ?_;clear r;refine up (o6 (es:=(c7 e f j k l t {w with pos:=i.toNat}).toList) ok.base.K (S.wL _ (.head _)).1 (h8 B gd) TL gd (by refine aa (uE ..) ?_;rfl) (GY z) TL (by show 2<=1000;decide) λh' tk a b c=>h h' tk (KD _ _ _ _ _ _ _ a) b (O9 c.symm))
theorem l7 {K:Vq} {D:T2} {a:Str} {b:Obj} {v:TT} (h:UQ K (.ref D) a=TK TW) (hh:(clsIn K D).any (·.hasDict)=TN) (c:Vn a b=TK (TK v)):findObj K D (TK b) a=TK (.value v):=by refine aT (any_some hh) λcd d hd=>?_;unfold findObj;refine aa (d ..) (aa (QT ..) (aa (h ..) (aa (QT ..) ?_)));show (W.ownOf cd (TK b) a).bind _=_;unfold W.ownOf;refine aa (TY hd ..) ?_;show (Vn a b).bind _=_;refine aa (c ..) ?_;rfl
theorem De (S:g4 C wm) {r:Wr} {g:G} {c:Nm} {v:V} {h:Str} {b:Bool} (ok:c9 C X s) (o:cU C X s.heap g) (p:g.wire=TK r) (hn:f7 cV h=TK c) (q:(c=.at_/\v=.int r.pos)\/(c=.data/\v=.bytes r.data)) (t:r.data.length<=av):
  b4 C A X s (VH (.ref r.a) h b) v:=by
 refine ac λi=>ou (o.wire r p) λj j j l d=>EF d λw x u y z B m gd=>i ?_;clear i;intro Q E k;rcases q with ⟨rfl,rfl⟩|⟨rfl,rfl⟩
 ·obtain rfl:=gv "at" hn (by decide+kernel);exact aM (S.wL "at" (.head _)) λe f=>up (get_value ok.base.K (h8 l gd) S.KQ (l7 f e.hh uE) TL (k _ _ (.tok s _) (.int _ _)))
 ·obtain rfl:=gv "data" hn (by decide+kernel);refine aM (S.wL "data" (.tail _ (.head _))) λe f=>up (get_value ok.base.K (h8 l gd) S.KQ (l7 f e.hh wN) TL (k _ _ (.tok s _) ?_));exact .bytes r.data.toArray u (by simpa using t)
theorem Df (S:g4 C wm) (ok:c9 C X s) (e:Rep C X s.heap a (.atom t)) (hn:f7 cV f=TK .text):b4 C A X s (VH a f b) (.str t):=by intro Q E k;refine ac λg=>?_;obtain rfl:=gv "text" hn (by decide+kernel);obtain ⟨c,d,hs,i,m,u,tk,rfl,h,gd,-,-,z,rfl⟩:=e;refine g ?_;exact up (get_value ok.base.K (wM h gd) S.Nk (l7 S.Dd.2 S.Dd.1.hh wO) TL (k _ _ (.tok s _) (.str u tk z)))
theorem GZ (S:g4 C wm) {Q:TT×List TT->TP->Prop} (ok:c9 C X s) (y:cU C X s.heap g) (z:g.wire=TK r) (hm:wm u=TK f) (hn:f7 cV B=TK u) (h:∀c,f=.ref c->Q (.ref c,[.ref r.a]) s):aC (model C.prog C.w) A (UC (.ref r.a) B pl) Q E s:=by
 refine ac λD=>MV (S.wm u f hm) λc t b d F ht n1 H=>?_;subst b;obtain rfl:=gv t hn d;refine ou (y.wire r z) λv v v J e=>EF e λi j k l o p m gd=>D ?_;have q:shadowIn (TK (de (c7 i j k l o p r) m)) (O6 t)=TK TO:=by
  show (Vn (O6 t) (de (c7 i j k l o p r) m)).map (·.isSome)=_;have:(c7 i j k l o p r).toList.find? (·.key.isStr (O6 t))=TW:=List.find?_eq_none.mpr λx m=>by
   refine PA (Pf.mp m) (λb=>?_) λm=>?_
   ·subst b;exact ne_true_of_eq_false n1
   ·exact Pv.mp m▸ne_true_of_eq_false H
  unfold Vn;dsimp only;refine aa (this ..) ?_;rfl
 exact up (method_fn ok.base.K (h8 J gd) S.KQ S.Nj F ht q (h c TL))
end
section
variable {prog:U7} {w:Uv} {A:T0} {C:T2} {R:UM->TP->Prop} {h:Ut} {g:Array GenState} {d:Drawn} {t:Nat} {os:OsState}
theorem Looks.aC {a:Type} {t:Sem a} {r:a} (L:Looks M h t r) {Q:a->TP->Prop} {E:TT->TP->Prop} (k:∀b o,h.get? b=TK o->s.heap.get? b=TK o) (q:Q r s):aC M A t Q E s:=up (L A Q E s k q)
theorem Jy (Y:Makes (model prog w) h C) (f:Looks (model prog w) h (UA (.ref C) "__init__") (TK init))
  (m:∀self,Looks (model prog w) h (bindSpecial init self) (init,[self])) (c:(TK init !=TK (Value.builtin "object.__init__"))=TN)
  (n:codeN (model prog w) (A.under (.builtin "type.__call__" ⟨.ref C::rest,[]⟩)) (.call init ⟨.ref (h.objs.size+1)::rest,[]⟩) (InitBack (h.objs.size+1) R) ⟨(h.push Uy).push (U0 C h.objs.size),g,d,t,os⟩):
  codeN (model prog w) A (.call (.ref C) ⟨rest,[]⟩) R ⟨h,g,d,t,os⟩:=by
 have p:=Y;refine ac λi=>?_;obtain ⟨⟨u,x,cd,sl,j,y,B,q⟩,a,base,self,s,call,typ⟩:=Y;refine i ?_;clear i;refine a3 ?_;show aC _ _ (callAny (.ref C) _) _ _ _;refine ab (gI j ?_);refine ab (Looks.aC call (λ_ _ e=>e) ?_);dsimp only;refine aa (tc_bind ..) (ab (af (ab (af ?_))));refine af (dQ TL TL (a3 ?_));show aC _ A.in1 (do Ud "type.__call__" ⟨.ref C::rest,[]⟩;again (.builtin "type.__call__" ⟨.ref C::rest,[]⟩)) _ _ _;refine ab (up (check_slot tc_kind tc_split typ (tc_args _ _ _) ?_));refine af (dQ (Code.quiet_builtin _ (by decide+kernel)) (by show (!iG.contains "type.__call__")=TN;decide+kernel) (fJ F.entry_type_call ?_));unfold Uq.«type.__call__»;dsimp only;refine eT TL (ab (Looks.aC (((Looks.ld j).andThen .now).andThen .now:Looks (model prog w) h (mroOf (.ref C)) cd.mro) (λ_ _ e=>e) ?_));refine eT q (ab (Looks.aC a (λ_ _ e=>e) ?_));refine ab (af ?_);refine ab (aq (up (wpAny_call (new_K p f (.inl c) ?_))));have k:∀b o,h.get? b=TK o->((h.push Uy).push (U0 C h.objs.size)).get? b=TK o:=λb o e=>Pq _ (Pq _ e);have l:Looks (model prog w) ((h.push Uy).push (U0 C h.objs.size)) (VE (.ref (h.objs.size+1))) (.ref C):=(Looks.ld (by heap_get:((h.push Uy).push (U0 C h.objs.size)).get? (h.objs.size+1)=TK (U0 C h.objs.size))).andThen .now;dsimp only;refine ab ?_;refine ab (Looks.aC l (λ_ _ e=>e) ?_);refine Looks.aC self k (eT TL ?_);refine ab (aq ?_);refine ab (ab (Looks.aC l (λ_ _ e=>e) (Looks.aC f k ?_)));refine aq (ab (Looks.aC (m _) k ?_));refine ab (eL (ll n λr s' z=>?_));rcases r with e|(v|_|_|_)<;>first|exact z|exact z.elim|skip
 obtain ⟨rfl,z⟩:=z;exact af (af z)
end
section
variable {C:Cx} {A:T0} {X:AP} {s:TP} {n:Nat} {E:TT->TP->Prop}
theorem rt {R:UM->TP->Prop} (fn:oU C a j body ps ls fz lm k ds gG) (c:A.depth<Ux) (B:Base C s.heap) (l:vs.length=k) (h:∀(env:Env) (m:Str->Option TT) b,env.scope.kind=.function->(∀x v,(x,v)∈ps.zip (vs++ds)->seek j.scope.names x=TK .local->env.kindOf x=TK .local/\m x=TK v)->b.heap.Ns env.locals m->a9 s b->s.heap.objs.size<=env.locals-> aC (model C.prog C.w) (A.deeper env) (execs body env) (λf s'=>R (.ok (.ret (yS f))) s') cS b):codeN (model C.prog C.w) A (.call (.ref a) ⟨vs,[]⟩) R s:=by
 refine ac λy=>aT fn.ho λo D d=>FK fn.code λcd r g t F H J L=>y ?_;refine cL c (B.K a o D) d fn.Ia fn.vI ((KC cd r g t F (B.K cd r H) J L)) (up (kp_binds B.K (fn.bind vs l) _ _ _ _ ?_));refine aa (fn.Jt ..) (cT fn.gq (λx m=>?_) λenv M b x=>?_)
 ·have N:x.1∈ps++ls:=PE.mpr (.inl (List.of_mem_zip (by simpa using m:(x.1,x.2)∈ps.zip (vs++ds))).1);rcases fn.vars.kinds x.1 N with h|h
  ·exact .inl (bc h)
  ·exact .inr ⟨bc h,fH (bg h)⟩
 ·have e:env.scope=j.scope:=by refine aa (M ..) ?_;rfl
  refine ⟨B.nolimit.keeps x.toInCall.keep,?_⟩;unfold codeOf;refine aa (fn.EZ ..) (lw ?_);have O:((ps.zip (vs++ds)).map (·.1)).Nodup:=by refine aa (List.map_fst_zip (O9 (by refine aa (g3 ..) (aa (l ..) ?_);exact fn.E0)) ..) ?_;exact fn.KP
  refine xK x.toInCall.same λh' tk i=>?_;subst i;refine ar (h env _ _ (by refine aa (e ..) ?_;exact fn.gq) (λz v m q=>?_) x.toInCall.ns ⟨(hY _ _ TL),x.toInCall.keep,O5 x.toInCall.fresh (Pw x.toInCall.ns.lt)⟩ x.toInCall.fresh) (λf s' p=>?_) λ_ _ x=>x.elim
  ·have u:env.kindOf z=TK .local:=by (rw [SJ];refine aa (e ..) ?_);exact bc q
   exact ⟨u,nI O m u⟩
  ·cases f<;>exact p
theorem eH {Q:TT->TP->Prop} (b:env.scope.kind=.function) (a:env.kindOf x=TK .local/\m x=TK v) (hn:s.heap.Ns env.locals m) (hd:(x==("__debug__":Str))=TO) (h:Q v s):
  aC M A (eval (.Name x p) env) Q E s:=qa (eM b a.1 hn a.2 h) hd
structure wP (C:Cx) (D fI:T2):Prop where
 makes:makesIn C.K D=TN
 init:UQ C.K (.ref D) "__init__"=TK (TK (.ref fI))
 typ:typeIn C.K (.ref fI)=TK (.type "function")
theorem ry {Q:TT->TP->Prop} (mk:wP C D l) (fn:oU C l p body ps ls fz lm k ds gG) (r:k=2) (y:A.depth+1<Ux) (ok:c9 C X s) (h:∀(F:T0) (env:Env) (m:Str->Option TT) c i x,a9 s c->s.heap.objs.size<=i->s.heap.objs.size<=x->x≠i->i<env.locals->env.scope.kind=.function->c.heap.get? x=TK (U0 D i)->c.heap.get? i=TK Uy->c.heap.Ns env.locals m->C.K.In c.heap-> (∀z u,(z,u)∈ps.zip ([.ref x,v]++ds)->seek p.scope.names z=TK .local->env.kindOf z=TK .local/\m z=TK u)->aC (model C.prog C.w) F (execs body env) (λf s'=>yS f=.none/\Q (.ref x) s') cS c):
  aC (model C.prog C.w) A (call (.ref D) [v]) Q E s:=by
 refine ac λH=>?_;obtain ⟨hp,g,d,t,os⟩:=s;refine H ?_;refine eL (Jy (makes_of ok.base.K mk.makes) (looks_findIn ok.base.K mk.init) (λself=>bind_fn ok.base.K self mk.typ) TL ?_);have g1:a9 ⟨hp,g,d,t,os⟩ ⟨(hp.push Uy).push (U0 D hp.objs.size),g,d,t,os⟩:=⟨(hY _ _ TL),λb o e=>Pq _ (Pq _ e),by
  refine aa (P0 ..) (aa (P0 ..) ?_);exact aJ [_] 0x6302000400⟩
 have B:=ok.base.keep (λb o _ e=>g1.keep b o e) g1.size;refine rt fn (by refine aa (show (Code.builtin "type.__call__" ⟨.ref D::[v],[]⟩).weight=1 from TL) ?_;exact y) B (by refine aa (r ..) ?_;rfl) λenv m c J L M j N=>?_;refine ar (h _ env m c hp.objs.size (hp.objs.size+1) (g1.trans j) (Px _) (Sj _) (Te _) (by exact Pw ((aa (P0 ..) (aa (P0 ..) TL):((hp.push Uy).push (U0 D hp.objs.size)).objs.size=hp.objs.size+2)▸N:hp.objs.size+2<=env.locals)) J (j.keep _ _ (by heap_get:((hp.push Uy).push (U0 D hp.objs.size)).get? (hp.objs.size+1)=TK (U0 D hp.objs.size))) (j.keep _ _ (by heap_get:((hp.push Uy).push (U0 D hp.objs.size)).get? hp.objs.size=TK Uy)) M (λa o e=>j.keep a o (B.K a o e)) L) (λf s' q=>?_) λ_ _ x=>x;exact q
theorem zw:RX (O6 "text") h k (.str u t) Uy=de #[⟨h,k,.str u t⟩] 1:=by kernel_rfl
theorem Dg (mk:wP C C.cA r) (S:g4 C wm) (fn:oU C r j [.Assign [.Attribute (.Name (O6 "self") O) (O6 "text") P] (.Name (O6 "text") R) T] [O6 "self",O6 "text"] ls fz lm 2 [] gG) (w:seek j.scope.names (O6 "self")=TK .local) (B:seek j.scope.names (O6 "text")=TK .local) (D:A.depth+1<Ux) (ok:c9 C X s) (F:Rep C X s.heap v (.str t)):b4 C A X s (call (.ref C.cA) [v]) (.atom t):=by
 intro Q E k;refine bB F λu tk g h z=>?_;subst g;subst h;refine ry mk fn TL D ok λU env m d H x G f J ne W l p gd hn K hm=>cu (bI (eH l (hm (O6 "text") (.str u tk) (.tail _ (.head _)) B) hn (by decide+kernel) (eH l (hm (O6 "self") (.ref x) (.head _) w) hn (by decide+kernel) ?_)) (cH TL));refine up (o6 K S.Dd.1 ⟨p,TL,TL,gd⟩ TL gd TL zw TL (by show 1<=1000;decide) λh' i a b c=>?_);have g2:a9 s {d with heap:=h',toks:=i}:=by refine ac λL=>?_;obtain ⟨⟨hh,tt,rfl⟩,M,N⟩:=G;refine L ?_;exact ⟨(hY _ _ TL),λe o q=>b e o (λy=>PG _ (Pj (y▸Py q) f)) (M e o q),by refine aa (c ..) ?_;exact N⟩
 refine bP ⟨TL,k _ _ g2 ⟨x,H,_,_,_,u,tk,TL,b x _ ne p,a,λy=>Pt.mpr J (ok.xb _ y).1,λy=>Pt.mpr f (ok.xb _ y).1,z,TL⟩⟩
noncomputable abbrev zx (h:Int) (k:TT) (u:Array UInt8) (t:Tok):Obj:=de #[⟨h,k,.bytes u t⟩] 1
theorem zy:RX (O6 "data") h k (.bytes u t) Uy=zx h k u t:=by kernel_rfl
theorem Dh:RX (O6 "at") h k (.int i a) (zx b (.str (O6 "data") c) u t)=de #[⟨b,.str (O6 "data") c,.bytes u t⟩,⟨h,k,.int i a⟩] 2:=by kernel_rfl
theorem zK:Vn (O6 "at") (zx a (.str (O6 "data") b) u t)=TK TW:=by kernel_rfl
theorem Di {Q:TT->TP->Prop} (mk:wP C C.cW T) (S:g4 C wm) (fn:oU C T F [.Assign [.Attribute (.Name (O6 "self") p1) (O6 "data") p2] (.Name (O6 "data") p3) p4,.Assign [.Attribute (.Name (O6 "self") p5) (O6 "at") p6] (.Name (O6 "at") p7) p8] [O6 "self",O6 "data",O6 "at"] ls fz lm 2 [.int 0 L] gG) (U:seek F.scope.names (O6 "self")=TK .local) (W:seek F.scope.names (O6 "data")=TK .local) (Y:seek F.scope.names (O6 "at")=TK .local) (Z:A.depth+1<Ux) (ok:c9 C X s) (rv:Rep C X s.heap v (.bytes b)) (h:∀a d s',a9 s s'->s.heap.objs.size<=d->d<s'.heap.objs.size->s.heap.objs.size<=a->a≠d->s'.heap.get? a=TK (fP C.cW d)-> (∃h1 k1 t1 h2 k2 t2 n,s'.heap.get? d=TK (de (c7 h1 k1 t1 h2 k2 t2 ⟨a,d,b,0⟩) n))->Q (.ref a) s'):aC (model C.prog C.w) A (call (.ref C.cW) [v]) Q E s:=by refine bB rv λu tk H J z=>?_;subst H;subst J;refine ry mk fn TL Z ok λA' env m M N x G l hx ne hl D O gd hn K hm=>?_;have m1:=hm (O6 "self") (.ref x) (.head _) U;refine ac λP=>?_;obtain ⟨⟨hh,tt,rfl⟩,R,zz⟩:=G;refine P ?_;clear P;refine cu (bI (eH D (hm (O6 "data") (.bytes u tk) (.tail _ (.head _)) W) hn (by decide+kernel) (eH D m1 hn (by decide+kernel) ?_)) (cH TL));refine up (o6 (es:=[⟨_,_,.bytes u tk⟩]) (n:=1) K (S.wL "data" (.tail _ (.head _))).1 ⟨O,TL,TL,gd⟩ TL gd TL zy TL (by show 1<=1000;decide) λh' p a b' c=>?_);have r:h'.Ns env.locals m:=hn.at' λo e=>b' _ o (RH hl) e;have t:=b' x _ ne O;have j:∀e o,s.heap.get? e=TK o->e≠N:=λe o q y=>PG _ (Pj (y▸Py q) l);refine cu (bI (eH (s:={s with heap:=h',toks:=p}) D (hm (O6 "at") (.int 0 L) (.tail _ (.tail _ (.head _))) Y) r (by decide+kernel) (eH D m1 r (by decide+kernel) ?_)) (cH TL));refine up (o6 (s:={s with heap:=h',toks:=p}) (es:=[⟨_,_,.bytes u tk⟩,⟨_,_,.int 0 L⟩]) (n:=2) (λe o q=>b' e o (j e o (ok.base.K e o q)) (R e o (ok.base.K e o q)):C.K.In h') (S.wL "at" (.head _)).1 ⟨t,TL,TL,a⟩ TL a (by refine aa (zK ..) ?_;rfl) Dh TL (by show 2<=1000;decide) λf k g i B=>?_);refine bP ⟨TL,h x N _ (⟨(hY _ _ TL),λe o q=>i e o (j e o q) (b' e o (j e o q) (R e o q)),by show _<=f.objs.size;refine aa (B ..) ?_;show _<=h'.objs.size;refine aa (c ..) ?_;exact zz⟩:a9 s {s with heap:=f,toks:=k}) l (Py g) hx ne (i x _ ne t) (KD _ _ _ _ _ _ _ g)⟩
end
section
variable {C:Cx} {A:T0} {X:AP} {s:TP} {n:Nat}
theorem wQ (h:FW x=TK r):∃c,x=.str [c]/\r=.int c:=by
 cases x with
 |str l=>
  rcases l with _|⟨c,_|⟨d,l⟩⟩
  ·exact aZ h
  ·exact (i12 c TL ((le h).symm))
  ·exact aZ h
 |_=>exact aZ h
theorem wR (h:ya x=TK r):∃i:Int,x=.int i/\(0<=i/\i<1114112)/\r=.str [i.toNat]:=by
 cases x with
 |int i=>exact (eK i TL ((bh h).1) ((bh h).2.symm))
 |_=>exact aZ h
theorem uF {b:Type} {c:Prop} [Decidable c] {a r:b} (h:(if c then TW else TK a)=TK r):¬c/\a=r:=(Sd.mp h).imp id le
theorem Dj {v:TT} {x r:V} (a:ce n A) (d:Rep C X s.heap v x) (h:IB x=TK r):ay C A X s (call (.builtin "min") [v]) r:=by
 cases x with
 |bytes b=>obtain ⟨c,rfl⟩:=uF h;exact CU a d λe=>c (e▸TL)
 |_=>exact aZ h
theorem Dk {v:TT} {x r:V} (a:ce n A) (d:Rep C X s.heap v x) (h:FX x=TK r):ay C A X s (call (.builtin "max") [v]) r:=by
 cases x with
 |bytes b=>obtain ⟨c,rfl⟩:=uF h;exact CV a d λe=>c (e▸TL)
 |_=>exact aZ h
theorem Dn (a:ce n A) (b:Rep C X s.heap v x) (h:yb x=TK r):ay C A X s (call (.builtin "all") [v]) r:=by
 cases x with
 |list l=>obtain ⟨c,rfl⟩:=bh h;exact GP a b c
 |_=>exact aZ h
theorem Do (f:ce n A) (rs:aP C X s.heap vs xs) (h:EI xs=TK r):ay C A X s (call (.builtin "min") vs) r:=by
 rcases xs with _|⟨x,_|⟨y,_|⟨z,l⟩⟩⟩
 ·exact aZ h
 ·refine aT rs.kB λv c d=>?_;subst c;exact Dj f d h
 ·obtain ⟨v,j,rfl,d,rs⟩:=rs;refine ac λg=>?_;obtain ⟨w,rfl,e⟩:=rs.kB;refine bO h λa ha h=>bO h λb i h=>?_;obtain rfl:=a8 ha;obtain rfl:=a8 i;refine g ?_;clear g;exact le h▸CT f d e
 ·exact aZ h
theorem Jz (I:Ij C) (g:ce n A) (ok:c9 C X s) (rs:aP C X s.heap vs xs) (h:FY f xs=TK r):ay C A X s (call (.builtin f.id) vs) r:=by
 cases f with
 |len=>refine m0 (bM (f:=λx=>(m7 x).map λ(n:Nat)=>V.int n) rs h) λv x a d e h=>?_;subst a;subst d;refine mO h λm hm a=>?_;subst a;exact GK (vs:=[v]) e hm
 |ord=>refine m0 (bM (f:=FW) rs h) λv x a d e h=>?_;subst a;subst d;refine aT (wQ h) λc a d=>?_;subst a;subst d;exact GN e
 |chr=>refine m0 (bM (f:=ya) rs h) λv x a d e h=>?_;subst a;subst d;refine ix (wR h) λi a k d=>?_;subst a;subst d;exact GO e k
 |isinstance=>refine K2 (lZ (f:=λx t=>(oF x t).map V.bool) rs h) λv w x y a d e j h=>?_;subst a;subst d;refine mO h λb l a=>?_;subst a;exact GM I ok e j l
 |min=>exact Do g rs h
 |max=>refine m0 (bM (f:=FX) rs h) λv x a d e h=>?_;subst a;subst d;exact Dk g e h
 |all=>refine m0 (bM (f:=yb) rs h) λv x a d e h=>?_;subst a;subst d;exact Dn g e h
theorem JA (d:ce n A) (ok:c9 C X s) (rs:aP C X s.heap vs xs) (h:ye f xs=TK r):ay C A X s (call (.type f.id) vs) r:=by
 cases f with
 |range=>exact y5 ok rs h
 |bytes=>refine m0 (bM (f:=lA) rs h) λv x a b c h=>?_;subst a;subst b;exact zu d.h c h
 |str=>refine m0 (bM (f:=yc) rs h) λv x a b c h=>?_;subst a;subst b;exact GQ c h
 |tuple=>refine m0 (bM (f:=sD) rs h) λv x a b c h=>?_;subst a;subst b;exact y8 ok c h
 |int=>refine m0 (bM (f:=FZ) rs h) λv x a b c h=>?_;subst a;subst b;exact GR c h
 |dict=>refine m0 (bM (f:=yd) rs h) λv x a b c h=>?_;subst a;subst b;exact Dc d.h ok c h
 |_=>exact aZ h
theorem uG (m k:Nat):Uu m k=min k m:=by
 show (max 0 (min (if (k:Int)<0 then (k:Int)+m else k) m)).toNat=_;rw [TZ zE];rcases Nat.le_total k m with h|h
 ·rw [Tq (Ph.mpr h),Tf (Pu _),RO h];rfl
 ·rw [Int.min_eq_right (Ph.mpr h),Tf (Pu _),R2 h];rfl
theorem rz (h:i<0):Uu m i=(m+i).toNat:=by
 show (max 0 (min (if i<0 then i+m else i) m)).toNat=_;rw [TY h,Tq (Qp (Int.add_le_add_right (Q0 h) _) (Int.le_of_eq (Int.zero_add _))),Int.add_comm];rcases Int.le_total 0 (m+i) with g|g
 ·rw [Tf g]
 ·rw [Int.max_eq_left g];exact (Int.toNat_of_nonpos g).symm
theorem fS (r:Rep C X h v x) (e:cutAt m d x=TK c):∃p:Option (Int×Tok),v=UY p/\c=(p.map (·.1)).elim d (Uu m):=by
 cases x with
 |none=>exact (i12 TW r ((le e).symm))
 |int i=>
  refine cR r λt b=>i12 (TK (i,t)) b ?_;refine (le e).symm.trans ?_;by_cases a:0<=i
  ·exact (TY a).trans ((uG m i.toNat).symm.trans (TQ (Uu m) (Q2 a)))
  ·exact (TZ a).trans (rz (Tv.mp a)).symm
 |_=>exact aZ e
theorem Dp (m:Nat) (i:Int):Uu m i<=m:=by
 by_cases h:i<0
 ·exact rz h▸Int.toNat_le.mpr (Qp (Int.add_le_add_left (Q0 h) _) (Int.le_of_eq (Int.add_zero _)))
 ·exact (TQ (Uu m) (Q2 (PK.mp h))).symm.trans (uG m _)▸Nat.min_le_right _ _
theorem G0 (h:u-a=m) (b:u<=m):a=0\/m=0:=(Nat.eq_zero_or_pos m).symm.imp (λhp=>(Nat.eq_zero_or_pos a).elim id λg=>TU h (QZ (Pj (Nat.sub_lt (Pj hp (h▸Tw _ _)) g) b))) id
theorem kU (p:Option (Int×Tok)):IsPart (UY p) (p.map (·.1)):=by
 cases p with
 |none=>exact .none
 |some q=>exact .int q.1 q.2
theorem aP.drop:∀{xs:List V} {vs:List TT} a,aP C X h vs xs->aP C X h (vs.drop a) (xs.drop a)
 |_,_,0,r=>r
 |[],_,_+1,e=>by obtain rfl:_=[]:=e;exact .nil
 |_::_,_,a+1,⟨_,_,e,_,r⟩=>by subst e;exact r.drop a
theorem aP.take:∀{xs:List V} {vs:List TT} a,aP C X h vs xs->aP C X h (vs.take a) (xs.take a)
 |_,_,0,_=>.nil
 |[],_,_+1,e=>by obtain rfl:_=[]:=e;exact .nil
 |_::_,_,a+1,⟨_,_,e,q,r⟩=>by subst e;exact .cons q (r.take a)
theorem slice_list (ok:c9 C X s) (g:s.heap.get? a=TK (seqObj "list" vs m)) (rs:aP C X s.heap vs.toList xs) (z:vs.size<=av) (hs:s.heap.get? sl=TK {cls:=.type "slice",data:=.fields #[UY l,UY u,.none]}):
  ay C A X s (UN (.ref a) (.ref sl)) (.list (eP xs ((l.map (·.1)).elim 0 (Uu xs.length)) ((u.map (·.1)).elim xs.length (Uu xs.length)))):=by
 intro Q E k;have hn:vs.size=xs.length:=rs.length;refine wpAny_getItem_list_slice (eK _ g TL (⟨m,TL⟩)) (eK _ hs TL TL) (kU l) (kU u) .none (λe=>aZ e) ?_ (ch z);have e:=slicePick_plain vs (l.map (·.1)) (u.map (·.1));rw [hn] at e;refine aa (e ..) (k _ _ (.push s _) (.list (Pz _ TL) (λx=>PG _ (ok.xb _ x).1) ?_ ?_))
 ·unfold eP;exact aa (SG ..) (((rs.move (λb o _ e=>Pq _ e) λ_ _ y=>y).drop _).take _)
 ·exact O5 (Sc _ _) (O5 (O9 (QC ..)) (O5 (Tw _ _) z))
theorem rA (z:b.size<=av) (hs:s.heap.get? sl=TK {cls:=.type "slice",data:=.fields #[UY l,UY u,.none]}):
  ay C A X s (UN (.bytes b t) (.ref sl)) (.bytes (eP b.toList ((l.map (·.1)).elim 0 (Uu b.toList.length)) ((u.map (·.1)).elim b.toList.length (Uu b.toList.length)))):=by
 have e:=KBc.picked_eq b (l.map (·.1)) (u.map (·.1));have c:(KBy.picked b (l.map (·.1)) (u.map (·.1))).toList=eP b.toList ((l.map (·.1)).elim 0 (Uu b.toList.length)) ((u.map (·.1)).elim b.toList.length (Uu b.toList.length)):=by refine aa (e ..) ?_;unfold eP;exact aa (SG ..) (aa (PS ..) TL)
 have a:=O5 (KBc.size_picked_le b (l.map (·.1)) (u.map (·.1))) z;exact bx (c ..) (lQ a λQ E k=>getItem_meets (Ua s b t) (by decide) FB.slot_bytes_getitem FB.entry_bytes_getitem (FB.args_bytes_getitem_2 _ _) (KBc.meets_slice2 b t sl (kU l) (kU u)) (dQ (eK _ hs TL TL) (ch a) (λd k'=>k d k')))
theorem wS (z:x.cps.size<=av) (hs:s.heap.get? sl=TK {cls:=.type "slice",data:=.fields #[UY l,UY u,.none]}):
  ay C A X s (UN (.str x t) (.ref sl)) (.str (eP x.cps.toList ((l.map (·.1)).elim 0 (Uu x.cps.toList.length)) ((u.map (·.1)).elim x.cps.toList.length (Uu x.cps.toList.length)))):=by
 have c:U2 x l u TW=(PN ((u.map (·.1)).elim x.cps.size (Uu x.cps.size)-(l.map (·.1)).elim 0 (Uu x.cps.size))).map ((l.map (·.1)).elim 0 (Uu x.cps.size)+·):=by have:U2 x l u TW=sliceRange (sliceBounds (l.map (·.1)) (u.map (·.1)) TW x.cps.size).1 (sliceBounds (l.map (·.1)) (u.map (·.1)) TW x.cps.size).2.1 (sliceBounds (l.map (·.1)) (u.map (·.1)) TW x.cps.size).2.2:=TL;exact aa (this ..) (aa (sliceBounds_plain ..) (aa (sliceRange_one ..) TL))
 have d:(U2 x l u TW).filterMap (x.cps[·]?)=eP x.cps.toList ((l.map (·.1)).elim 0 (Uu x.cps.toList.length)) ((u.map (·.1)).elim x.cps.toList.length (Uu x.cps.toList.length)):=by refine aa (c ..) (aa (pick_run ..) (aa (PS ..) ?_));unfold eP;exact aa (SG ..) TL
 intro Q E k;refine wpAny_getItem_str_slice (st:=TW) (eK _ hs TL TL) TL ?_;unfold sliceMade;by_cases a:(((Qq (·.1) (TW:Option (Int×Tok))).getD 1==1)&&(U2 x l u TW).length==x.length)=TN
 ·refine aa (TY a ..) (k _ _ (.refl s) ?_);have b:(U2 x l u TW).length=x.cps.size:=by simp only [RD,beq_iff_eq] at a;exact a.2
  have f:(eP x.cps.toList ((l.map (·.1)).elim 0 (Uu x.cps.toList.length)) ((u.map (·.1)).elim x.cps.toList.length (Uu x.cps.toList.length)))=x.cps.toList:=by
   refine bx (d ..) (aa (c ..) (aa (pick_run ..) ?_));rw [c,Pd,QH] at b;have g:(u.map (·.1)).elim x.cps.size (Uu x.cps.size)<=x.cps.size:=by
    cases u with
    |none=>exact Px _
    |some q=>exact Dp _ _
   have ha:=G0 b g;rcases ha with ha|ha
   ·rw [ha] at b⊢;exact aa (TD ..) (aa (b ..) (aa (Rn (by simp) ..) TL))
   ·have:x.cps.toList=[]:=QR (by simpa using ha);refine aa (this ..) ?_;simp
  exact aa (f ..) (.str x t z)
 ·refine aa (TZ a ..) ?_;have e:((U2 x l u TW).filterMap (x.cps[·]?)).length<=x.cps.size:=by refine aa (d ..) ?_;unfold eP;exact O5 (O9 (QC ..)) (O5 (Tw _ _) (O5 (Sc _ _) (Px _)))
  refine ⟨by refine aa (Ur ..) ?_;exact O5 e z,k _ _ (.tok s _) ?_⟩;exact (gF _ s.toks TL d (O5 e z))
theorem zL {x lo v r:V} (ok:c9 C X s) (j:Rep C X s.heap a x) (hs:s.heap.get? sl=TK {cls:=.type "slice",data:=.fields #[l,u,.none]}) (k:Rep C X s.heap l lo) (o:Rep C X s.heap u v) (h:cN x lo v=TK r):
  ay C A X s (UN a (.ref sl)) r:=by
 cases x with
 |bytes b=>refine bO h λc i h=>bO h λd hd h=>?_;obtain rfl:=le h;refine bB j λw t e f z=>?_;subst e;subst f;refine aT (fS k i) λp e f=>?_;subst e;subst f;refine aT (fS o hd) λq e f=>?_;subst e;subst f;exact rA z hs
 |list b=>refine bO h λc i h=>bO h λd hd h=>?_;obtain rfl:=le h;obtain ⟨w,vs,m,rfl,g,-,rs,z⟩:=j;refine aT (fS k i) λp e f=>?_;subst e;subst f;refine aT (fS o hd) λq e f=>?_;subst e;subst f;exact slice_list ok g rs z hs
 |str b=>refine bO h λc i h=>bO h λd hd h=>?_;obtain rfl:=le h;refine bB j λw t e f z=>?_;subst e;subst f;refine aT (fS k i) λp e f=>?_;subst e;subst f;refine aT (fS o hd) λq e f=>?_;subst e;subst f;exact wS z hs
 |_=>exact aZ h
theorem rB:∀{l:List Nat} {k i:Nat} {v:V},(gO k l)[i]?=TK v->∃c,l[i]?=TK c/\v=.tuple [.int (k+i:Nat),.str [c]]
 |[],k,i,v,h=>aZ h
 |c::l,k,0,v,h=>(i12 c TL ((le h).symm))
 |c::l,k,i+1,v,h=>by exact aT (rB (l:=l) (k:=k+1) (i:=i) h) λd a b=>(i12 d a (by exact aa (b ..) (aa (Q7 ..) (aa (Qr 1 ..) TL))))
theorem rC:∀l k,(gO k l).length=l.length:=by
 intro a;induction a with
 |nil=>intro k;exact TL
 |cons c l b=>intro k;exact TQ (· +1) (b (k+1))
theorem zM (h:isTup t=TN):∃es k p,t=.Tuple es k p:=(PQ.mp h).elim λx _=>⟨_,_,_,x.2⟩
theorem Dq {Q:TT->TP->Prop} {E:TT->TP->Prop} (r:ce n A) (ok:c9 C X s) (y:Rep C X s.heap a (.str t)) (h:∀I P s' T R,a9 s s'->(∀b,P b->s.heap.objs.size<=b/\b<s'.heap.objs.size)->T 0 s'.heap->(∀b∈R,P b\/((∃o,s.heap.get? b=TK o)/\¬X b))->uo C A I P a (.str t) (gO 0 t) T R->Q (.ref I) s'):aC (model C.prog C.w) A (call (.type "enumerate") [a]) Q E s:=by
 refine bB y λu k d B z=>?_;subst d;subst B;refine up (call_enumerate_str λh' l hi hs hk=>?_);have D:∀F,F.handled=TW->Draws C.prog C.w F s.heap.objs.size [s.heap.objs.size] u.cps.size (λi v=>∃c t,u.cps[i]?=TK c/\v=.str ⟨#[c]⟩ t) (λi h=>h.IsStrIter s.heap.objs.size (U3 u) u k i):=λF U=>by
  cases ha:u.cps.all (· <128)
  ·have:U3 u="str_iterator":=by unfold U3;refine aa (ha ..) ?_;rfl
   refine aa (this ..) ?_;exact Draws.strWide U _ u k
  ·have:U3 u="str_ascii_iterator":=by unfold U3;refine aa (ha ..) ?_;rfl
   refine aa (this ..) ?_;exact Draws.strAscii U _ u k
 have W:=WalksT.enumerateD (D A.in1 r.h) (s.heap.objs.size+1) (Te _) (by simp) (by simp);refine h (s.heap.objs.size+1) (λb=>b∈[s.heap.objs.size+1,s.heap.objs.size]) _ (λi h=>(∃f,IsEnum h (s.heap.objs.size+1) s.heap.objs.size (i:Nat) f)/\h.IsStrIter s.heap.objs.size (U3 u) u k i) [s.heap.objs.size+1,s.heap.objs.size] ⟨(hY _ _ TL),hk,by show _<=h'.objs.size;exact aJ [_,_] 0x410004d08021 (O9 (Qf hs))⟩ (λb m=>?_) ⟨⟨.none,l⟩,hi⟩ (λb m=>.inl m) ?_
 ·simp only [Pf,Pn,or_false] at m;show _<=b/\b<h'.objs.size;rcases m with rfl|rfl<;>lia
 ·exact {
   frame:=W.frame
   item:=λ{X s i v} Q E ok hX y st Y g=>by
    have lt:i<u.cps.size:=by have:=(PP.mp Y).1;rwa [rC,PS] at this
    refine ac λZ=>aT (rB Y) λc hc d=>?_;subst d;refine aM st λH j=>?_;obtain ⟨f,l⟩:=H;refine Z ?_;clear Z;refine up (bj (wpAny_pyNext_enum_itemD (D A.in1 r.h) l j lt (Te _) (by simp) λx h' tk hp ho J hT hsz k z=>?_));refine kJ hp λc' t2 L d=>?_;subst d;have:c'=c:=by rw [PZ,L] at hc;exact le hc
    subst this;refine g (.ref s.heap.objs.size) {s with heap:=h',toks:=tk+1} (hY h' (tk+1) TL) (λb o nb e=>k b o (λq=>nb (by simp [q])) (λq=>nb (by simp [q])) e) z ?_ λM Q' E' hg N=>?_
    ·refine .tuple hT (λx=>PG _ (ok.xb _ x).1) (.cons ?_ (.cons (.str ⟨#[c']⟩ t2 (show 1<=av by decide)) .nil)) (show 2<=av by decide);refine aa (Re ..) ?_;exact .int _ _
    ·have:∃es k p,M=.Tuple es k p:=by
      refine PA hg (λhg=>?_) λhg=>?_
      ·exact zM hg
      ·exact TU (hg _ (List.Mem.tail _ (List.Mem.head _))) (QZ (Qx _))
     refine KA this λes kk p d=>?_;subst d;exact up (bj (W.go es kk p i s.heap.objs.size {s with heap:=h',toks:=tk+1} _ E' (B1 ⟨_,ho⟩ J (RH (Py l)) (RH (Py ((D A.in1 r.h).live _ _ j).choose_spec))) λO st' k' z'=>N _ (hY O (tk+1) TL) k' z' st'))
   done:=λ{X s} Q E ok hX y st g=>by rw [rC,PS] at st;exact up (bj (W.done s _ E st λh' tk k z=>g {s with heap:=h',toks:=tk} (hY h' tk TL) k z))
   self:=λ{X s i} Q E ok st g=>up (W.self i s Q E st g)}
variable {E:TT->TP->Prop}
theorem Dr {Q:TT×List TT->TP->Prop} (g:s.heap.get? a=TK (seqObj "list" vs m)) (d:x="append"\/x="extend") (h:Q (.builtin ("list."++x),[.ref a]) s):
  aC (model C.prog C.w) A (UC (.ref a) (O6 x) pl) Q E s:=by
 have b:s.TypeIs (.ref a) "list":=(i12 _ g TL);have hd:∀c,Sl a=.ref c->∃o,s.heap.get? c=TK o/\o.dict=TW:=λc e=>S0 e▸(i12 _ g TL);rcases d with rfl|rfl
 ·have h:Q (.builtin "list.append",[.ref a]) s:=h
  with_reducible exact lg.up (Us b S4 PySem.F.slot_list_append PySem.F.type_list_append hd h)
 ·have h:Q (.builtin "list.extend",[.ref a]) s:=h
  with_reducible exact lg.up (Us b S4 SY PySem.F.type_list_extend hd h)
theorem Ds {Q:TT->TP->Prop} (hX:X a) (g:s.heap.get? a=TK (seqObj "list" vs m)) (r:Rep C X s.heap v (.list ys)) (z:vs.size+ys.length<av) (h:∀h' tk f j,aP C X s.heap f ys->h'.get? a=TK (seqObj "list" (vs++f.toArray) j)->(∀b o,b≠a->s.heap.get? b=TK o->h'.get? b=TK o)->s.heap.objs.size<=h'.objs.size->Q .none {s with heap:=h',toks:=tk}):
  aC (model C.prog C.w) A (call (.builtin "list.extend") [.ref a,v]) Q E s:=by
 obtain ⟨c,f,k,rfl,l,p,rs,q⟩:=r;have i:vs.size+f.size<=T8:=ch (by exact aJ [_,_,_] 0xc2108421618400008610861084210b304100021 z (O9 (rs.length:f.size=ys.length)));refine up (UI SY (i12 _ g TL) PySem.F.entry_list_extend (PySem.F.args_list_extend_2 _ _) (AutoSeq1.list_extend_list_list_0 a vs m c f k (extend_door i) (O5 (PV _ _) i) (Rc i)) (dQ g l ?_));refine h _ s.toks f.toList (SZ (λx=>x++f) (seqObj "list" vs m)|>.data|>λd=>match d with|.seq _ n=>n|_=>0) rs ?_ (λb o ne e=>(Rm _ _ (S1 ne)).trans e) (O9 (Q6 ..).symm);exact aa (Array.toArray_toList ..) (Q8 (SZ λx=>x++f) g TL)
theorem nk {k:Int} {Q:Unit->TP->Prop} (g:s.heap.get? l=TK (seqObj "list" items m)) (d:0<=k) (a:k<2^63) (hn:k<items.size) (e:Q () {s with heap:=s.heap.update l (SZ (·.setIfInBounds k.toNat v))}):T6 (model prog w) A (setItem (.ref l) (.int k t) v) Q E s:=by
 have b:s.heap.IsList l items:=(eK _ g TL (⟨m,TL⟩));unfold setItem;try with_reducible refine UD ?_
 first|refine TV (TX ?_)|skip
 refine TV (wpAny_sequenceKey b.typeIs (by decide) ?_);refine TV (wpAny_callSpecial?_slot b.typeIs slot_list_setitem (wpAny_call_entry slot_list_setitem b.typeIs entry_list_setitem ?_ (args_list_setitem _ _ _)));show T6 _ _ (Builtin.List.listSubscript? (.int k t)>>=_) _ _ s;refine TV (wpAny_listSubscript_int (fitsIndex_of d a) ?_);obtain ⟨j,rfl⟩:=Rg d;have f:j<items.size:=by exact aJ [_,_] 0x130200004c08021 (Ps.mp hn)
 have c:=SE f;refine TV (TV (wpAny_seqItemAt g TL (TX ?_)));refine aa (c ..) ?_;refine TV (wpAny_setSeqItemAt g TL ?_);first
  |exact TV (TX (TX (i12 .none TL (TX e))))
  |exact TX (i12 .none TL (TX e))
theorem wT {Q:Unit->TP->Prop} (g:s.heap.get? a=TK (seqObj "list" #[cv,.int f j] m)) (h:∀h' tk k,h'.get? a=TK (seqObj "list" #[cv,.int i t] k)->(∀b o,b≠a->s.heap.get? b=TK o->h'.get? b=TK o)->s.heap.objs.size<=h'.objs.size->Q () {s with heap:=h',toks:=tk}):
  aC (model C.prog C.w) A (setItem (.ref a) (.int 1 l) (.int i t)) Q E s:=by
 have c:(s.heap.update a (SZ (·.setIfInBounds 1 (.int i t)))).get? a=TK (SZ (·.setIfInBounds 1 (.int i t)) (seqObj "list" #[cv,.int f j] m)):=Q8 _ g TL;have d:∃n,SZ (·.setIfInBounds 1 (.int i t)) (seqObj "list" #[cv,.int f j] m)=seqObj "list" #[cv,.int i t] n:=⟨_,TL⟩;obtain ⟨n,d⟩:=d;rw [d] at c;exact up (nk g (by decide) (by decide) (by show (1)<2;decide) (h _ s.toks _ c (λb o ne e=>(Rm _ _ (S1 ne)).trans e) (O9 (Q6 ..).symm)))
variable {wm:Nm->Option V}
structure tB (C:Cx):Prop where
 atom:∃(fI:T2) (fd:U1) (ls fz:List Str) (lm:Option Nat) (p1 p2 p3 p4:Pos) (gG:List V),wP C C.cA fI/\ oU C fI fd [.Assign [.Attribute (.Name (O6 "self") p1) (O6 "text") p2] (.Name (O6 "text") p3) p4] [O6 "self",O6 "text"] ls fz lm 2 [] gG/\ seek fd.scope.names (O6 "self")=TK .local/\seek fd.scope.names (O6 "text")=TK .local
 wire:∃(fI:T2) (fd:U1) (ls fz:List Str) (lm:Option Nat) (p1 p2 p3 p4 p5 p6 p7 p8:Pos) (gG:List V) (t0:Tok),wP C C.cW fI/\ oU C fI fd [.Assign [.Attribute (.Name (O6 "self") p1) (O6 "data") p2] (.Name (O6 "data") p3) p4,.Assign [.Attribute (.Name (O6 "self") p5) (O6 "at") p6] (.Name (O6 "at") p7) p8]
   [O6 "self",O6 "data",O6 "at"] ls fz lm 2 [.int 0 t0] gG/\
  seek fd.scope.names (O6 "self")=TK .local/\seek fd.scope.names (O6 "data")=TK .local/\seek fd.scope.names (O6 "at")=TK .local
 E4:keepIn C.K (.ref C.cA)=TN
 E5:keepIn C.K (.ref C.cW)=TN
noncomputable def o7:V->Bool
 |.tuple _|.list _|.bytes _|.str _|.eO _=>TN
 |_=>TO
theorem zN (h:fj x i=TK r):o7 x=TN:=by
 refine bO h λj a h=>?_;cases x with
 |tuple=>rfl
 |list=>rfl
 |bytes=>rfl
 |str=>rfl
 |eO=>rfl
 |_=>exact aZ h
theorem wU (h:cN x i j=TK r):o7 x=TN:=by
 cases x with
 |list=>rfl
 |bytes=>rfl
 |str=>rfl
 |_=>exact aZ h
theorem zO (c:Rep C X s.heap a x) (h:o7 x=TN):gM C A s (Uh a) TO:=by
 cases x with
 |tuple xs=>refine ac λd=>?_;obtain ⟨l,vs,m,rfl,g,-⟩:=c;refine d ?_;exact h6 PySem.F.slot_tuple_getitem.lookup (i12 _ g TL)
 |list xs=>refine ac λd=>?_;obtain ⟨l,vs,m,rfl,g,-⟩:=c;refine d ?_;exact h6 SH.lookup (i12 _ g TL)
 |bytes xs=>refine kJ c λu t b e=>?_;subst b;exact h6 FB.slot_bytes_getitem.lookup (Ua _ _ _)
 |str xs=>refine kJ c λu t b e=>?_;subst b;exact h6 PySem.F.slot_str_getitem.lookup (Ve _ _ _)
 |eO xs=>refine ac λd=>?_;obtain ⟨a,o,f,rfl,g,j,i,_⟩:=c;refine d ?_;exact h6 PySem.F.slot_dict_getitem.lookup (i12 _ g i)
 |_=>exact TU h Pm
theorem ce.deep (a:ce (n+2) A):A.depth+1<Ux:=by have:=a.d;unfold Ux;exact aJ [_,_] 0x1fb166302000003efacc6880100021 this
theorem G1 (I:Ij C) (S:g4 C wm) (N:tB C):Ops C where
 bin:=λa ok b c h=>(GG (n:=0) ok b c h).up
 M3:=λa ok b c=>(GH b c).up
 cmp:=λa ok b c h=>(GJ a b c h).up
 truth:=λa ok b h=>(yX b h).up
 neg:=λa ok b=>(GI b).up
 bi:=λa ok rs h=>(Jz I a ok rs h).up
 ty:=λa ok rs h=>(JA a ok rs h).up
 item:=λa ok b c h=>(CO b c h).up
 F3:=λa ok b c h=>(zO b (h.elim zN λ⟨_,_,q⟩=>wU q)).up
 cf:=λB=>⟨keeps_K N.E4 _ B.K,keeps_K N.E5 _ B.K⟩
 atom:=λa ok d=>by refine ac λe=>?_;obtain ⟨i,j,ls,fz,lm,k,l,m,o,gG,mk,fn,f,g⟩:=N.atom;refine e ?_;exact Dg mk S fn f g (a.deep) ok d
 wire:=λa ok d h=>by refine ac λe=>?_;obtain ⟨i,j,ls,fz,lm,k,l,m,o,r,t,u,v,gG,w,mk,fn,f,g,p⟩:=N.wire;refine e ?_;exact Di mk S fn f g p (a.deep) ok d h
 a4:=λa ok b hm hn h=>C6 b hm hn h
theorem zP (S:g4 C wm):ul C wm where
 get:=λc ok a b hm hn h=>GZ S ok a b hm hn h
 attr:=λc ok a b hn d=>De S ok a b hn d (a.lD _ b)
 text:=λc ok g hn=>Df S ok g hn
 isRef:=λi f h=>let ⟨j,_,e,_⟩:=S.wm i f h;⟨j,e⟩
theorem Dt:sM C where
 yB:=λb ok g z c d h=>up (item_list g z c d (h _ (.refl _)))
 yC:=λ{A n X s a vs m} b ok g=>(h6 SH.lookup (show s.TypeIs (.ref a) "list" from (i12 _ g TL))).up
 IR:=λ{A n X s a vs m} b ok g z Q E k=>up (call_len_list (eK _ g TL (⟨_,TL⟩)) (iR z) (k _ _ (.tok s _) (.int _ _)))
 slice:=λb ok e hs f i h=>(zL ok e hs f i h).up
theorem zQ:gu C where
 iter:=λQ E a ok b c h=>up (CS a b c h)
 enum:=λQ E a ok b h=>Dq a ok b h
 unpack:=λQ E a ok b m hm _ h=>up (wc a b hm h)
theorem Du (S:g4 C wm):qD C where
 getL:=λa ok g b h=>Dr g b h
 Ja:=λa ok g b h=>C7 g b h
 yk:=λa ok hX g r z h=>Ds hX g r z h
 yj:=λa ok hX g r c d z h=>C8 g r c d z h
 yl:=λa ok hX g r z h=>C9 g r z h
 Jb:=λa ok rs b h=>Da rs b h
 setAt:=λa ok e f hn c h=>zv S ok e f hn c h
 yP:=λa ok g h i=>wT g h
theorem zR (I:Ij C) (S:g4 C wm) (N:tB C):qF C wm where
 O:=G1 I S N
 W:=zP S
 Q:=Dt
 It:=zQ
 Mu:=Du S
end
theorem Dv (b:∀l∈C.tabs,codeHdIn C.K l.cd l.T=TN/\a≠l.T) (c:C.mg "__builtins__"=TK (.ref a)) (d:C.K.lookup a=TK o) (n1:a≠Un) (e:a≠T5) (f:o.cls=.type "module") (hd:o.dict=TK Un) (hp:o.data=.plain):oV C where
 head:=λ{h l} B m=>(⟨(codeHd_of_K B.K (b l m).1),(NQ a o c n1 e ((b l m).2) (B.K _ _ d) f hd hp)⟩)
structure FG where
 src:Option (List Int×Nat)
 wire:Option (List UInt8×Nat)
structure a7 where
 ρ:List Slot
 g:FG
mutual
noncomputable def aN:V->Bool
 |.tuple xs=>aV xs
 |.list xs=>aV xs
 |.ref a=>!(a==1)&&!(a==2)
 |.lam _ _=>TO
 |_=>TN
noncomputable def aV:List V->Bool
 |[]=>TN
 |x::r=>aN x&&aV r
end
noncomputable def a7.put (st:a7) (i:Nat) (s:Slot):a7:={st with ρ:=st.ρ.set i s}
noncomputable def cf (o:Option V):Option V:=o.bind λr=>if aN r then TK r else TW
noncomputable def ju:V->Option Bool
 |.bool b=>TK b
 |_=>TW
noncomputable def eU:V->Bool
 |.tuple _=>TN
 |.list _=>TN
 |_=>TO
noncomputable def gE (op:UH) (x y:V):Option V:=if aN x&&aN y then cf (xZ op x y) else (tupP x).bind λa=>FU op a y
mutual
noncomputable def uH:V->V->Bool
 |.none,y=>Id y
 |.bool a,y=>decide (ju y=TK a)
 |.int a,y=>decide (dY y=TK a)
 |.str a,y=>decide (fG y=TK a)
 |.bytes a,y=>decide (cM y=TK a)
 |.tuple a,y=>(tupP y).any λb=>wV a b
 |.list a,y=>(ke y).any λb=>wV a b
 |_,_=>TO
noncomputable def wV:List V->List V->Bool
 |[],l=>l.isEmpty
 |x::a,l=>(l.head?.any λy=>uH x y)&&wV a l.tail
end
noncomputable def L5:Vu->Option Bool
 |.Eq=>TK TN
 |.NotEq=>TK TO
 |_=>TW
noncomputable def rE (op:Vu) (x y:V):Option Bool:=(ke x).bind λa=>(ke y).bind λb=>if wV a b&&a.all (b6 11) then L5 op else TW
noncomputable def da (op:Vu) (x y:V):Option Bool:=if aN x&&aN y then (sy op x y).or (rE op x y) else if Id y&&eU x then sy op x y else TW
noncomputable def Nl:Ty->Option Bool
 |.bytes=>TK TO
 |.int=>TK TO
 |_=>TW
noncomputable def G2:V->Option Bool
 |.b2=>TK TO
 |.ty n=>Nl n
 |.tuple l=>if isLT l then TK TN else TW
 |_=>TW
noncomputable def L6 (x:V):Option V:=if eU x then (m7 x).map λ(n:Nat)=>.int n else TW
noncomputable def L7 (x t:V):Option V:=if eU x then (G2 t).map .bool else TW
noncomputable def L8:Bf->List V->Option V
 |.len,vs=>(fg vs).bind L6
 |.isinstance,vs=>vN L7 vs
 |_,_=>TW
noncomputable def gw (f:Bf) (vs:List V):Option V:=if aV vs then cf (FY f vs) else L8 f vs
noncomputable def E6 (f:Ty) (vs:List V):Option V:=if f=.tuple then ye .tuple vs else if aV vs then cf (ye f vs) else TW
noncomputable def dv (o:V) (n:Nm) (vs:List V):Option V:=if aN o&&aV vs then cf (lB o n vs) else TW
noncomputable def itemF (x y:V):Option V:=if eU x then fj x y else cf (fj x y)
noncomputable def ck (x y z:V):Option V:=if eU x then cN x y z else cf (cN x y z)
noncomputable abbrev cO:V->Option (List V):=jS
noncomputable def JB:Nm->List UInt8×Nat->Option V
 |.at_,w=>TK (.int w.2)
 |.data,w=>TK (.bytes w.1)
 |_,_=>TW
noncomputable def uI (o:V) (n:Nm) (g:FG):Option V:=match o with
 |.atom s=>if n=.text then TK (.str s) else TW
 |.ref a=>if a=1 then g.wire.bind (JB n) else TW
 |_=>TW
noncomputable def G3 (s:List Int×Nat) (j:Int):Option V:=if j=0 then TK (.list (s.1.map .int)) else if j=1 then TK (.int s.2) else TW
noncomputable def l8 (o i:V) (g:FG):Option V:=match qi o with
 |some a=>if a=2 then g.src.bind λs=>(dY i).bind (G3 s) else TW
 |none=>itemF o i
noncomputable def ba (m:Bool) (v:V) (st:a7):Option (V×a7):=match m with
 |true=>(b5 v).map λt=>(.bool t,st)
 |false=>TK (v,st)
noncomputable def L9:Option Slot->Option V
 |some (.v v)=>TK v
 |_=>TW
noncomputable def KR:Option Slot->Option (List V)
 |some (.ml v)=>TK v
 |_=>TW
noncomputable def KT:Option Slot->Option (List UInt8)
 |some (.mb v)=>TK v
 |_=>TW
noncomputable def zS:Option Slot->Option V
 |some (.v v)=>TK v
 |some (.ml xs)=>TK (.list xs)
 |_=>TW
noncomputable def zU {c:Type} (s:Option Slot) (a b:Option c):Option c:=match s with
 |some (.ml _)=>a
 |some (.mb _)=>b
 |_=>TW
noncomputable def JC (s:Option Slot) (i:Nat) (m:Bool) (st:a7):Option (V×a7):=match s with
 |some (.v v)=>ba m v st
 |some (.ml xs)=>ba m (.list xs) (st.put i (.v (.list xs)))
 |some (.mb bs)=>ba m (.gC bs) (st.put i (.v (.gC bs)))
 |_=>TW
section
variable (R:V->List V->FG->Option (V×FG)) (wm:Nm->Option V)
noncomputable def uJ (f:V) (vs:List V) (g:FG):Option (V×FG):=match f with
 |.bi id=>(gw id vs).map λr=>(r,g)
 |.ty n=>(E6 n vs).map λr=>(r,g)
 |.b2=>(fg vs).bind λx=>(fG x).map λs=>(.atom s,g)
 |.fh=>TW
 |f=>R f vs g
noncomputable def uK (o:V) (n:Nm) (g:FG):Option (Option V):=match qi o with
 |some a=>if a=1&&g.wire.isSome then (wm n).map TK else TW
 |none=>if qm o n then TK TW else TW
noncomputable def zV (c:Option V) (o:V) (n:Nm) (vs:List V) (g:FG):Option (V×FG):=match c with
 |some f=>if aN f then R f (o::vs) g else TW
 |none=>(dv o n vs).map λr=>(r,g)
noncomputable def ey (a b:a7->Option (V×a7)) (m:Nat) (ρ:List Slot):List V->List V->FG->Option (List V×FG)
 |[],acc,g=>TK (acc,g)
 |x::r,acc,g=>(fm m x).bind λss=>(b ⟨ρ++ss,g⟩).bind λp=>(ju p.1).bind λt=>if t then (a p.2).bind λq=>ey a b m ρ r (acc++[q.1]) q.2.g else ey a b m ρ r acc p.2.g
noncomputable def cg (g g':FG):Bool:=g.src.isSome==g'.src.isSome&&g.wire.isSome==g'.wire.isSome
mutual
noncomputable def aB:E->Bool->a7->Option (V×a7)
 |.lit v,m,st=>if aN v then ba m v st else TW
 |.var i,m,st=>JC st.ρ[i]? i m st
 |.bin op a b,m,st=>(aB a TO st).bind λp=>(aB b TO p.2).bind λq=>(gE op p.1 q.1).bind λr=>ba m r q.2
 |.neg a,m,st=>(aB a TO st).bind λp=>(dY p.1).bind λi=>ba m (.int (-i)) p.2
 |.not a,m,st=>match m with
  |true=>(aB a TN st).bind λp=>(ju p.1).bind λt=>TK (.bool (!t),p.2)
  |false=>(aB a TO st).bind λp=>(b5 p.1).bind λt=>TK (.bool (!t),p.2)
 |.cmp op a b,m,st=>(aB a TO st).bind λp=>(aB b TO p.2).bind λq=>(da op p.1 q.1).bind λr=>ba m (.bool r) q.2
 |.kz p q a b c,m,st=>(aB a TO st).bind λx=>(aB b TO x.2).bind λy=>(da p x.1 y.1).bind λr=>if r then (aB c TO y.2).bind λz=>(da q y.1 z.1).bind λe=>ba m (.bool e) z.2 else ba m (.bool TO) y.2
 |.and a b,m,st=>match m with
  |true=>(aB a TN st).bind λp=>(ju p.1).bind λt=>if t then aB b TN p.2 else TK (.bool TO,p.2)
  |false=>(aB a TO st).bind λp=>(b5 p.1).bind λt=>if t then aB b TO p.2 else TK p
 |.or a b,m,st=>match m with
  |true=>(aB a TN st).bind λp=>(ju p.1).bind λt=>if t then TK (.bool TN,p.2) else aB b TN p.2
  |false=>(aB a TO st).bind λp=>(b5 p.1).bind λt=>if t then TK p else aB b TO p.2
 |.ite t a b,m,st=>(aB t TN st).bind λp=>(ju p.1).bind λt=>if t then aB a m p.2 else aB b m p.2
 |.tup l,m,st=>(cn l st).bind λp=>ba m (.tuple p.1) p.2
 |.lst l,m,st=>(cn l st).bind λp=>ba m (.list p.1) p.2
 |.call f l,m,st=>(aB f TO st).bind λp=>(cn l p.2).bind λq=>(uJ R p.1 q.1 q.2.g).bind λr=>ba m r.1 {q.2 with g:=r.2}
 |.a4 o n l,m,st=>(aB o TO st).bind λp=>(uK wm p.1 n p.2.g).bind λc=>(cn l p.2).bind λq=>(zV R c p.1 n q.1 q.2.g).bind λr=>ba m r.1 {q.2 with g:=r.2}
 |.attr o n,m,st=>(aB o TO st).bind λp=>(uI p.1 n p.2.g).bind λr=>ba m r p.2
 |.sub o i,m,st=>(aB o TO st).bind λp=>(aB i TO p.2).bind λq=>(l8 p.1 q.1 q.2.g).bind λr=>ba m r q.2
 |.cw i j,m,st=>(zS st.ρ[i]?).bind λv=>(l8 v (.int j) st.g).bind λr=>ba m r st
 |.oC i,m,st=>(zS st.ρ[i]?).bind λv=>(m7 v).bind λn=>ba m (.int n) st
 |.pX o a b,m,st=>(aB o TO st).bind λp=>(aB a TO p.2).bind λq=>(aB b TO q.2).bind λz=>(ck p.1 q.1 z.1).bind λr=>ba m r z.2
 |.comp d n it c,m,st=>(aB it TO st).bind λp=>(cO p.1).bind λitems=>if items.length<=av then
   (ey (λst=>aB d TO st) (λst=>aB c TN st) n (p.2.ρ.map hide) items [] p.2.g).bind λq=>if cg p.2.g q.2 then ba m (.list q.1) {p.2 with g:=q.2} else TW else TW
 |.lam n i,m,st=>(L9 st.ρ[i]?).bind λv=>(qi v).bind λa=>if a=1&&st.g.wire.isSome then ba m (.lam n 1) st else TW
 |.nil,_,_=>TW
 |.cons _ _,_,_=>TW
noncomputable def cn:E->a7->Option (List V×a7)
 |.nil,st=>TK ([],st)
 |.cons e l,st=>(aB e TO st).bind λp=>(cn l p.2).bind λq=>TK (p.1::q.1,q.2)
 |_,_=>TW
end
noncomputable def G4:List Nat->List V->a7->Option a7
 |[],[],st=>TK st
 |i::is,x::xs,st=>G4 is xs (st.put i (.v x))
 |_,_,_=>TW
noncomputable def rF (is:List Nat) (x:V) (st:a7):Option a7:=match is with
 |[i]=>TK (st.put i (.v x))
 |is=>(tupP x).bind λxs=>G4 is xs st
noncomputable def uL (q:Fl×a7) (a:a7->Option (Fl×a7)):Option (Fl×a7):=match q.1 with
 |.next=>a q.2
 |.cont=>a q.2
 |.brk=>TK (.next,q.2)
 |.ret v=>TK (.ret v,q.2)
noncomputable def turns:Nat:=1000000000
noncomputable def bk (t:a7->Option (V×a7)) (b:a7->Option (Fl×a7)):Nat->a7->Option (Fl×a7)
 |0,_=>TW
 |n+1,st=>(t st).bind λp=>(ju p.1).bind λc=>if c then (b p.2).bind λq=>uL q λst=>bk t b n st else TK (.next,p.2)
noncomputable def iT (b:a7->Option (Fl×a7)) (is:List Nat):List V->a7->Option (Fl×a7)
 |[],st=>TK (.next,st)
 |x::r,st=>(rF is x st).bind λst'=>(b st').bind λq=>uL q λst=>iT b is r st
noncomputable def G5 (p:Fl×a7) (a:a7->Option (Fl×a7)):Option (Fl×a7):=match p.1 with
 |.next=>a p.2
 |f=>TK (f,p.2)
noncomputable def JD:List V->Option (List UInt8)
 |[]=>TK []
 |[x]=>cM x
 |_=>TW
noncomputable def Nn (a:T2) (n:Nm) (i:Int) (st:a7):Option (Fl×a7):=if a=1/\n=.at_/\0<=i then st.g.wire.bind λw=>TK (.next,{st with g:={st.g with wire:=TK (w.1,i.toNat)}}) else TW
noncomputable def zW (a:T2) (j v:Int) (st:a7):Option (Fl×a7):=if a=2/\j=1/\0<=v then st.g.src.bind λs=>TK (.next,{st with g:={st.g with src:=TK (s.1,v.toNat)}}) else TW
noncomputable def JE (op:UH) (a b:Int):Option Int:=match op with
 |.Add=>TK (a+b)
 |_=>TW
noncomputable def E7 (i:Nat) (v:V) (st:a7):Option (Fl×a7):=(KR st.ρ[i]?).bind λxs=>if xs.length<av then TK (.next,st.put i (.ml (xs++[v]))) else TW
noncomputable def E8 (i:Nat) (v:V) (st:a7):Option (Fl×a7):=(KT st.ρ[i]?).bind λbs=>(dY v).bind λc=>if 0<=c/\c<256/\bs.length<av then TK (.next,st.put i (.mb (bs++[Pp c.toNat]))) else TW
noncomputable def E9 (i:Nat) (v:V) (st:a7):Option (Fl×a7):=(KR st.ρ[i]?).bind λxs=>(ke v).bind λys=>if xs.length+ys.length<av then TK (.next,st.put i (.ml (xs++ys))) else TW
noncomputable def Fa (i:Nat) (v:V) (st:a7):Option (Fl×a7):=(KT st.ρ[i]?).bind λbs=>(cM v).bind λa=>if bs.length+a.length<av then TK (.next,st.put i (.mb (bs++a))) else TW
noncomputable def aI:S->a7->Option (Fl×a7)
 |.skip,st=>TK (.next,st)
 |.raise,_=>TW
 |.seq a b,st=>(aI a st).bind λp=>G5 p λst=>aI b st
 |.asg i e,st=>(aB R wm e TO st).bind λp=>TK (.next,p.2.put i (.v p.1))
 |.oD i l,st=>(cn R wm l st).bind λp=>TK (.next,p.2.put i (.ml p.1))
 |.vK i l,st=>(cn R wm l st).bind λp=>(JD p.1).bind λb=>TK (.next,p.2.put i (.mb b))
 |.ly is e,st=>(aB R wm e TO st).bind λp=>(rF is p.1 p.2).bind λst'=>TK (.next,st')
 |.kA o n e,st=>(aB R wm e TO st).bind λp=>(aB R wm o TO p.2).bind λq=>(qi q.1).bind λa=>(dY p.1).bind λi=>Nn a n i q.2
 |.qh o i e,st=>(aB R wm e TO st).bind λp=>(aB R wm o TO p.2).bind λq=>(aB R wm i TO q.2).bind λz=>(qi q.1).bind λa=>(dY z.1).bind λj=>(dY p.1).bind λv=>zW a j v z.2
 |.aug i op e,st=>(L9 st.ρ[i]?).bind λx=>(aB R wm e TO st).bind λp=>(dY x).bind λa=>(dY p.1).bind λb=>(JE op a b).bind λc=>TK (.next,p.2.put i (.v (.int c)))
 |.expr e,st=>(aB R wm e TO st).bind λp=>TK (.next,p.2)
 |.app i e,st=>zU st.ρ[i]? ((aB R wm e TO st).bind λp=>E7 i p.1 p.2) ((aB R wm e TO st).bind λp=>E8 i p.1 p.2)
 |.ext i e,st=>zU st.ρ[i]? ((aB R wm e TO st).bind λp=>E9 i p.1 p.2) ((aB R wm e TO st).bind λp=>Fa i p.1 p.2)
 |.ite t a b,st=>(aB R wm t TN st).bind λp=>(ju p.1).bind λc=>if c then aI a p.2 else aI b p.2
 |.FT t b,st=>bk (λst=>aB R wm t TN st) (λst=>aI b st) turns st
 |.vL is it b,st=>(aB R wm it TO st).bind λp=>(cO p.1).bind λitems=>iT (λst=>aI b st) is items p.2
 |.xW is e b,st=>(aB R wm e TO st).bind λp=>(fG p.1).bind λt=>iT (λst=>aI b st) is (gO 0 t) p.2
 |.ret e,st=>(aB R wm e TO st).bind λp=>TK (.ret p.1,p.2)
 |.xX,st=>TK (.ret .none,st)
 |.cont,st=>TK (.cont,st)
 |.xY b,st=>aI b st
end
section
structure Pl where
 w:T2
 d:T2
 s:T2
noncomputable def Fc (p:Pl) (a:T2):T2:=if a=1 then p.w else if a=2 then p.s else a
noncomputable def JF (p:Pl) (a:T2):T2:=if a=1 then p.w else a
mutual
noncomputable def sub (p:Pl):V->V
 |.tuple xs=>.tuple (subs p xs)
 |.list xs=>.list (subs p xs)
 |.ref a=>.ref (Fc p a)
 |.lam k a=>.lam k (JF p a)
 |v=>v
noncomputable def subs (p:Pl):List V->List V
 |[]=>[]
 |x::r=>sub p x::subs p r
end
variable {p:Pl}
theorem bN:∀xs:List V,subs p xs=xs.map (sub p)
 |[]=>rfl
 |x::r=>TQ (sub p x::·) (bN r)
theorem cz (xs:List V):(subs p xs).length=xs.length:=by exact aa (bN ..) (aa (Pd ..) TL)
theorem g5 (a b:List V):subs p (a++b)=subs p a++subs p b:=by exact aa (bN ..) (aa (bN ..) (aa (bN ..) (aa (Qk ..) TL)))
theorem aR (h:(a&&b)=TN):a=TN/\b=TN:=Qg.mp h
theorem if2 {b:Type} {c:Prop} [Decidable c] {a r:b} (h:(if c then TK a else TW)=TK r):c/\a=r:=(P6.mp h).imp id le
mutual
theorem bG:∀v:V,aN v=TN->sub p v=v
 |.tuple xs,h=>TQ V.tuple (cB xs h)
 |.list xs,h=>TQ V.list (cB xs h)
 |.ref a,h=>by exact aM (aR (show (!(a==1)&&!(a==2))=TN from h)) λb c=>TQ V.ref ((TZ (beq_eq_false_iff_ne.mp ((Bool.not_not _).symm.trans (TQ not b)))).trans (TZ (beq_eq_false_iff_ne.mp ((Bool.not_not _).symm.trans (TQ not c)))):Fc p a=a)
 |.lam _ _,h=>TU h Pm
 |.none,_|.bool _,_|.int _,_|.str _,_|.bytes _,_|.gC _,_|.ty _,_|.bi _,_|.b2,_|.fh,_|.atom _,_|.pW _,_|.eO _,_=>rfl
theorem cB:∀xs:List V,aV xs=TN->subs p xs=xs
 |[],_=>rfl
 |x::r,h=>by exact aM (aR (show (aN x&&aV r)=TN from h)) λa b=>(congr (TQ List.cons (bG x a)) (cB r b):sub p x::subs p r=_)
end
noncomputable def cK (p:Pl):Slot->Slot
 |.v v=>.v (sub p v)
 |.ml xs=>.ml (subs p xs)
 |s=>s
noncomputable def inst (p:Pl) (g:FG):G:=⟨g.src.map λq=>⟨p.s,q.1,q.2⟩,g.wire.map λq=>⟨p.w,p.d,q.1,q.2⟩⟩
noncomputable def aK (p:Pl) (st:a7):St:=⟨st.ρ.map (cK p),inst p st.g⟩
theorem dL {o:Option V} (h:cf o=TK r):o=TK r/\sub p r=r:=by refine bO h λx b h=>aM (if2 h) λc a=>?_;subst a;exact ⟨b,bG x c⟩
theorem h9 (h:b5 v=TK t):b5 (sub p v)=TK t:=by
 cases v with
 |bool b=>exact h
 |list xs=>cases xs<;>exact h
 |_=>exact aZ h
theorem g6 {x:V} (h:eU x=TN):(∃xs,x=.tuple xs)\/∃xs,x=.list xs:=by
 cases x with
 |tuple xs=>exact .inl ⟨xs,TL⟩
 |list xs=>exact .inr ⟨xs,TL⟩
 |_=>exact TU h Pm
theorem Dw (h':gE op x y=TK r):xZ op (sub p x) (sub p y)=TK (sub p r):=by
 by_cases c:(aN x&&aN y)=TN
 ·exact aM (aR c) λc1 f=>aM (dL ((TY c).symm.trans h')) λh e=>aa (bG x c1 ..) (aa (bG y f ..) (aa (e ..) (aa (h ..) TL)))
 ·refine bO ((TZ c).symm.trans h') λa ha h=>?_;obtain rfl:=fi ha;cases op with
  |Add=>refine bO (show ((tupP y).bind λb=>if a.length+b.length<=av then TK (.tuple (a++b)) else TW)=TK r from h) λb g i=>?_;obtain rfl:=fi g;refine aM (if2 i) λz d=>?_;subst d;show (if (subs p a).length+(subs p b).length<=av then TK (V.tuple (subs p a++subs p b)) else TW)=TK (.tuple (subs p (a++b)));exact aa (cz ..) (aa (cz ..) (aa (TY z ..) (aa (g5 ..) TL)))
  |_=>exact aZ h
theorem zX (h:Id y=TN):y=.none:=by
 cases y with
 |none=>rfl
 |_=>exact TU h Pm
theorem d6 (h:ju v=TK t):v=.bool t:=by
 cases v with
 |bool b=>exact TQ V.bool (le h)
 |_=>exact aZ h
theorem any_some {b:Type} {o:Option b} {f:b->Bool} (h:o.any f=TN):∃a,o=TK a/\f a=TN:=by
 cases o with
 |some a=>exact (i12 a TL h)
 |none=>exact TU h Pm
mutual
theorem G6:∀{x y:V},uH x y=TN->x=y
 |.none,y,h=>(zX h).symm
 |.bool a,y,h=>(d6 (TM h)).symm
 |.int a,y,h=>(a8 (TM h)).symm
 |.str a,y,h=>(c6 (TM h)).symm
 |.bytes a,y,h=>(bF (TM h)).symm
 |.tuple a,y,h=>by exact aT (any_some h) λb e h=>(TQ V.tuple (o8 h)).trans (fi e).symm
 |.list a,y,h=>by exact aT (any_some h) λb e h=>(TQ V.list (o8 h)).trans (dZ e).symm
 |.gC _,_,h|.ref _,_,h|.ty _,_,h|.bi _,_,h|.b2,_,h|.fh,_,h|.atom _,_,h|.pW _,_,h|.eO _,_,h|.lam _ _,_,h=>TU h Pm
theorem o8:∀{x y:List V},wV x y=TN->x=y
 |[],y,h=>(Td.mp h).symm
 |x::a,[],h=>TU h Pm
 |x::a,y::b,h=>by exact aM (aR (show (uH x y&&wV a b)=TN from h)) λc d=>congr (TQ List.cons (G6 c)) (o8 d)
end
theorem zY {op:Vu} {x y:V} {r:Bool} (h:rE op x y=TK r):oE op x y r:=by
 refine bO h λa ha d=>bO d λb f g=>iO g λc h=>aM (aR c) λc1 i=>?_;have e:=o8 c1;clear g d c c1;subst e;cases op with
 |Eq=>exact .eq a (dZ ha) (dZ f) i TL (le h).symm
 |NotEq=>exact .ne a (dZ ha) (dZ f) i TL (le h).symm
 |_=>exact aZ h
theorem zZ (c:eU x=TN) (d:eU y=TN):sy op x .none=sy op y .none:=by
 rcases g6 c with ⟨a,rfl⟩|⟨a,rfl⟩<;>rcases g6 d with ⟨b,rfl⟩|⟨b,rfl⟩<;>cases op<;>rfl
theorem uM (h:eU x=TN):eU (sub p x)=TN:=by
 rcases g6 h with ⟨a,rfl⟩|⟨a,rfl⟩<;>rfl
theorem o9 (h:da op x y=TK r):oE op (sub p x) (sub p y) r:=by
 by_cases c:(aN x&&aN y)=TN
 ·have h:=(TY c).symm.trans h;refine aM (aR c) λc1 a=>aa (bG x c1 ..) (aa (bG y a ..) ?_);cases e:sy op x y with
  |some b=>rw [e] at h;exact .plain (e.trans h)
  |none=>rw [e] at h;exact zY h
 ·refine iO ((TZ c).symm.trans h) λc h=>aM (aR c) λc1 a=>?_;obtain rfl:=zX c1;exact .plain ((zZ (uM a) a).trans h)
theorem G7 {b:Bool} (c:eU x=TN) (h:Nl n=TK b):x9 n x=TK b:=by
 rcases g6 c with ⟨a,rfl⟩|⟨a,rfl⟩<;>cases n<;>first|exact h|exact aZ h
theorem Dx {b:Bool} (d:eU x=TN) (h:G2 t=TK b):oF x t=TK b/\sub p t=t:=by
 cases t with
 |b2=>exact ⟨(by rcases g6 d with ⟨a,rfl⟩|⟨a,rfl⟩<;>exact h),TL⟩
 |ty n=>exact ⟨G7 d h,TL⟩
 |tuple l=>refine aM (if2 h) λc e=>?_;subst e;obtain rfl:=isLT_eq c;exact ⟨(by rcases g6 d with ⟨a,rfl⟩|⟨a,rfl⟩<;>rfl),TL⟩
 |_=>exact aZ h
theorem uN {r:V}:∀{xs:List V},(fg xs).bind f=TK r->∃x,xs=[x]/\f x=TK r
 |[x],h=>(i12 x TL h)
 |[],h=>aZ h
 |_::_::_,h=>aZ h
theorem len_sub (h:m7 x=TK n):m7 (sub p x)=TK n:=by
 cases x with
 |tuple xs=>exact (TQ TK (cz xs)).trans h
 |list xs=>exact (TQ TK (cz xs)).trans h
 |bytes b=>exact h
 |str b=>exact h
 |_=>exact aZ h
theorem G8 (h:gw f vs=TK r):FY f (subs p vs)=TK (sub p r):=by
 by_cases c:aV vs=TN
 ·exact aM (dL ((TY c).symm.trans h)) λh e=>aa (cB vs c ..) (aa (e ..) (aa (h ..) TL))
 ·have h:=(TZ c).symm.trans h;cases f with
  |len=>refine aT (uN h) λx a h=>?_;subst a;refine iO h λk h=>mO h λn hn a=>?_;subst a;exact TQ (Qq λ(n:Nat)=>V.int n) (len_sub hn)
  |isinstance=>
   rcases vs with _|⟨x,_|⟨t,_|⟨_,_⟩⟩⟩
   ·exact aZ h
   ·exact aZ h
   ·refine iO (show (if eU x=TN then (G2 t).map V.bool else TW)=TK r from h) λd h=>mO h λb g a=>?_;subst a;exact aM (Dx (uM d) g) λi j=>TQ (Qq V.bool) ((TQ _ j).trans i)
   ·exact aZ h
  |_=>exact aZ h
theorem G9 (h:E6 f vs=TK r):ye f (subs p vs)=TK (sub p r):=by
 by_cases c:f=.tuple
 ·have h:=(TY c).symm.trans h;subst c;refine aT (uN h) λx a h=>?_;subst a;cases x with
  |list xs=>exact le h▸TL
  |_=>exact aZ h
 ·exact iO ((TZ c).symm.trans h) λc h=>aM (dL h) λh e=>aa (cB _ c ..) (aa (e ..) (aa (h ..) TL))
theorem z0 (h:dv o n vs=TK r):lB (sub p o) n (subs p vs)=TK (sub p r):=by exact iO h λc h=>aM (aR c) λc1 a=>aM (dL h) λh e=>aa (bG o c1 ..) (aa (cB vs a ..) (aa (e ..) (aa (h ..) TL)))
theorem uO {i:Int} (h:(if 0<=i then xs[i.toNat]? else TW)=TK r):(if 0<=i then (subs p xs)[i.toNat]? else TW)=TK (sub p r):=by refine iO h λa h=>?_;refine aa (TY a ..) (aa (bN ..) (aa (PM ..) (aa (h ..) ?_)));rfl
theorem z1 {x y r:V} (h:itemF x y=TK r):fj (sub p x) (sub p y)=TK (sub p r):=by
 by_cases c:eU x=TN
 ·refine bO ((TY c).symm.trans h:fj x y=TK r) λi b h=>?_;obtain rfl:=a8 b;rcases g6 c with ⟨a,rfl⟩|⟨a,rfl⟩
  ·exact uO h
  ·exact uO h
 ·refine aM (dL (p:=p) ((TZ c).symm.trans h:cf (fj x y)=TK r)) λh' e=>?_;clear h;refine bO h' λi b h=>?_;clear h';obtain rfl:=a8 b;refine aa (e ..) ?_;cases x with
  |tuple=>exact TU TL c
  |list=>exact TU TL c
  |bytes=>exact h
  |str=>exact h
  |eO=>exact h
  |_=>exact aZ h
theorem ia (h:cutAt n d x=TK c):sub p x=x:=by
 cases x with
 |none=>rfl
 |int i=>rfl
 |_=>exact aZ h
theorem wW (h:ck x y z=TK r):cN (sub p x) (sub p y) (sub p z)=TK (sub p r):=by
 by_cases c:eU x=TN
 ·have h:=(TY c).symm.trans h;rcases g6 c with ⟨b,rfl⟩|⟨b,rfl⟩
  ·exact aZ h
  ·refine bO h λc a h=>bO h λd hd h=>?_;obtain rfl:=le h;refine aa (ia a ..) (aa (ia hd ..) ?_);show ((cutAt (subs p b).length 0 y).bind λc=>(cutAt (subs p b).length (subs p b).length z).bind λd=>TK (V.list (eP (subs p b) c d)))=TK (.list (subs p (eP b c d)));refine aa (cz ..) (aa (a ..) (aa (QT ..) (aa (hd ..) (aa (QT ..) (aa (bN ..) (aa (bN ..) ?_))))));exact aa (List.map_drop ..) (aa (List.map_take ..) TL)
 ·refine aM (dL ((TZ c).symm.trans h)) λh' e=>aa (e ..) ?_;cases x with
  |list=>exact TU TL c
  |bytes b=>refine bO h' λc a h=>bO h λd hd h=>?_;refine aa (ia a ..) (aa (ia hd ..) ?_);exact h'
  |str b=>refine bO h' λc a h=>bO h λd hd h=>?_;refine aa (ia a ..) (aa (ia hd ..) ?_);exact h'
  |_=>exact aZ h'
theorem nY (h:cO x=TK l):jS (sub p x)=TK (subs p l):=by
 cases x with
 |tuple xs=>exact le h▸TL
 |list xs=>exact le h▸TL
 |bytes b=>obtain rfl:=le h;refine aa (bN ..) (aa (Po ..) ?_);rfl
 |str b=>obtain rfl:=le h;refine aa (bN ..) (aa (Po ..) ?_);rfl
 |pW b=>obtain rfl:=le h;refine aa (bN ..) (aa (Po ..) ?_);rfl
 |_=>exact aZ h
end
section
variable {p:Pl}
theorem ig (h:g.wire=TK w):(inst p g).wire=TK ⟨p.w,p.d,w.1,w.2⟩:=TQ (Qq λ(q:List UInt8×Nat)=>(⟨p.w,p.d,q.1,q.2⟩:Wr)) h
theorem pa (h:g.src=TK w):(inst p g).src=TK ⟨p.s,w.1,w.2⟩:=TQ (Qq λ(q:List Int×Nat)=>(⟨p.s,q.1,q.2⟩:Src)) h
theorem z2 {o:V} {n:Nm} {g:FG} {r:V} (h:uI o n g=TK r) {k:V->Prop} (q:k (sub p r)):EM (sub p o) n (inst p g) k:=by
 cases o with
 |atom s=>refine aM (if2 h) λhn b=>?_;subst b;exact .text s TL hn q
 |ref a=>
  refine iO h λha h'=>bO h' λw c h'=>?_;clear h;subst ha;cases n with
  |at_=>obtain rfl:=le h';exact .at_ _ (ig c) TL TL q
  |data=>obtain rfl:=le h';exact .data _ (ig c) TL TL q
  |_=>exact aZ h'
 |_=>exact aZ h
theorem l9 (l:List Int):subs p (l.map .int)=l.map .int:=by refine aa (bN ..) (aa (Po ..) ?_);rfl
theorem uP {o i:V} {g:FG} {r:V} (h:l8 o i g=TK r) {k:V->Prop} (q:k (sub p r)):vP (sub p o) (sub p i) (inst p g) k:=by
 cases e:qi o with
 |none=>exact .item _ (z1 ((TQ (λz=>(match z with|some a=>if a=2 then g.src.bind λs=>(dY i).bind (G3 s) else TW|none=>itemF o i:Option V)) e).symm.trans h)) q
 |some a=>
  refine iO ((TQ (λz=>(match z with|some a=>if a=2 then g.src.bind λs=>(dY i).bind (G3 s) else TW|none=>itemF o i:Option V)) e).symm.trans h) λha h'=>bO h' λs hs b=>bO b λj f l=>?_;have m:=jf e;have n:=a8 f;clear h' b h e f;subst ha m n;by_cases c:j=0
  ·have d:=le ((TY c).symm.trans l);subst c d;exact .c0 _ (pa hs) TL TL ((TQ V.list (l9 s.1):sub p (.list (s.1.map .int))=_)▸q)
  ·refine aM (if2 ((TZ c).symm.trans l)) λb d=>?_;subst b d;exact .c1 _ (pa hs) TL TL q
theorem bZ {st:a7} (h:ba m v st=TK r) (q:k (sub p r.1) (aK p r.2)):fin m (sub p v) (aK p st) k:=by
 cases m with
 |true=>refine mO h λt ht a=>?_;subst a;exact (i12 t (h9 ht) q)
 |false=>obtain rfl:=le h;exact q
theorem eV {st:a7} {i:Nat}:(aK p st).ρ[i]?=st.ρ[i]?.map (cK p):=PM
theorem fT {st:a7}:aK p (st.put i s)=(aK p st).put i (cK p s):=TQ (λl=>(⟨l,inst p st.g⟩:St)) List.map_set
theorem z3 (ρ:List Slot):(ρ.map (cK p)).map hide=(ρ.map hide).map (cK p):=by refine aa (Po ..) (aa (Po ..) ?_);refine TQ (Tx · ρ) (funext λs=>?_);cases s<;>rfl
theorem tC (h:fm m x=TK ss):fm m (sub p x)=TK (ss.map (cK p)):=by
 by_cases c:m=1
 ·have h:=le ((TY c).symm.trans h);exact (TY c).trans (TQ (λl=>TK (Tx (cK p) l)) h)
 ·refine bO ((TZ c).symm.trans h) λxs a h'=>aM (if2 h') λe b=>?_;have a:=fi a;subst a b;refine (TZ c).trans ((TY ((cz xs).trans e)).trans (TQ TK ?_));refine aa (bN ..) (aa (Po ..) (aa (Po ..) ?_));rfl
theorem kV (h:cg g g'=TN):g.src.isSome=g'.src.isSome/\g.wire.isSome=g'.wire.isSome:=(aR h).imp beq_iff_eq.mp beq_iff_eq.mp
theorem rG {e g i:Type} {o d:Option e} {f:e->g} {F:g->i} {c:i} (j:∀a,F (f a)=c) (h:o.isSome=d.isSome):(d.map f).map F=(o.map f).map F:=by
 cases o with
 |none=>
  cases d with
  |none=>rfl
  |some b=>exact TU h Pm
 |some a=>
  cases d with
  |none=>exact TU h.symm Pm
  |some b=>exact TQ TK ((j b).trans (j a).symm)
theorem tD {g g':FG} (h:cg g g'=TN):kM (inst p g) (inst p g'):=⟨rG (λ_=>rfl) (kV h).1,rG (λ_=>rfl) (kV h).2⟩
noncomputable abbrev kD (p:Pl) (R:V->List V->FG->Option (V×FG)) (a:V->List V->G->V->G->Prop):Prop:=∀f vs g r,R f vs g=TK r->a (sub p f) (subs p vs) (inst p g) (sub p r.1) (inst p r.2)
variable {R:V->List V->FG->Option (V×FG)} {RR:V->List V->G->V->G->Prop} {wm:Nm->Option V}
theorem Dz (d:kD p R RR) {f:V} {vs:List V} {g:FG} {r:V×FG} (h:uJ R f vs g=TK r) {k:V->G->Prop} (q:k (sub p r.1) (inst p r.2)):yg RR (sub p f) (subs p vs) (inst p g) k:=by
 cases f with
 |bi id=>obtain ⟨x,a,rfl⟩:=Qi.mp h;exact .bi _ _ TL (G8 a) q
 |ty id=>obtain ⟨x,a,rfl⟩:=Qi.mp h;exact .ty _ _ TL (G9 a) q
 |b2=>
  refine ac λc=>bO h λx a h'=>mO h' λs hs b=>?_;subst b;refine c ?_;clear c;have hs:=c6 hs;subst hs;rcases vs with _|⟨y,_|⟨_,_⟩⟩
  ·exact aZ a
  ·obtain rfl:=le a;exact .atom s TL TL q
  ·exact aZ a
 |fh=>exact aZ h
 |_=>exact .fn _ _ (d _ _ _ _ h) q
noncomputable def z4:Option V->KM
 |some f=>.fn f
 |none=>.own
theorem z5 (h:qm o n=TN):qm (sub p o) n=TN:=by
 cases o with
 |str=>exact h
 |bytes=>exact h
 |_=>exact TU h Pm
theorem DA (h:uK wm o n g=TK c) {K:KM->Prop} (q:K (z4 c)):IF wm (sub p o) n (inst p g) K:=by
 cases e:qi o with
 |none=>exact aM (if2 ((TQ (λz=>(match z with|some a=>if (decide (a=1)&&g.wire.isSome)=TN then (wm n).map TK else TW|none=>if qm o n=TN then TK TW else TW:Option (Option V))) e).symm.trans h)) λe h'=>.own (z5 e) (h'▸q:K (z4 TW))
 |some a=>refine ac λi=>iO ((TQ (λz=>(match z with|some a=>if (decide (a=1)&&g.wire.isSome)=TN then (wm n).map TK else TW|none=>if qm o n=TN then TK TW else TW)) e).symm.trans h) λj h'=>aM (aR j) λb k=>?_;have b:=TM b;refine cR (PQ.mp k) λw l=>mO h' λf m d=>?_;subst d;refine i ?_;subst b;exact .ref _ f (ig l) ((jf e)▸TL) m q
theorem z6 (b:kD p R RR) (h:zV R c o n vs g=TK r) {k:V->G->Prop} (q:k (sub p r.1) (inst p r.2)):
  EL RR (z4 c) (sub p o) n (subs p vs) (inst p g) k:=by
 cases c with
 |some f=>refine iO h λe h=>?_;have:=b f (o::vs) g r h;rw [bG f e] at this;exact (dC _ _ this q)
 |none=>refine mO h λx d a=>?_;subst a;exact (i12 _ (z0 d) q)
end
section
variable {p:Pl} {R:V->List V->FG->Option (V×FG)} {RR:V->List V->G->V->G->Prop} {wm:Nm->Option V}
theorem DB {ge f:St->KE->Prop} (j:∀st r,a st=TK r->∀k:KE,k (sub p r.1) (aK p r.2)->ge (aK p st) k) (n:∀st r,d st=TK r->∀k:KE,k (sub p r.1) (aK p r.2)->f (aK p st) k):∀l acc g q,ey a d m ρ l acc g=TK q->∀k:List V->G->Prop,k (subs p q.1) (inst p q.2)->qn ge f m (ρ.map (cK p)) (subs p l) (subs p acc) (inst p g) k:=by
 intro o;induction o with
 |nil=>intro acc g q h k b;obtain rfl:=le h;exact b
 |cons x r i=>
  intro acc g q h k b;refine bO h λss hs h=>bO h λc e h=>bO h λt ht h=>(i12 _ (tC hs) ?_);refine bx (Qk ..) (n ⟨ρ++ss,g⟩ c e _ ?_);refine aa (d6 ht ..) ?_;cases t with
  |true=>refine bO (show (a c.2).bind (λq=>ey a d m ρ r (acc++[q.1]) q.2.g)=TK q from h) λv s h=>j _ v s _ ?_;have:=i _ _ q h k b;rw [g5] at this;exact this
  |false=>exact i acc _ q (show ey a d m ρ r acc c.2.g=TK q from h) k b
theorem Ha {st:a7} (h:JC s i m st=TK r) (q:k (sub p r.1) (aK p r.2)):yi (s.map (cK p)) i m (aK p st) k:=by
 rcases s with _|(_|v|xs|bs)
 ·exact aZ h
 ·exact aZ h
 ·exact bZ h q
 ·exact (fT (s:=.v (.list xs))▸bZ h q:fin m (.list (subs p xs)) ((aK p st).put i (.v (.list (subs p xs)))) k)
 ·exact (fT (s:=.v (.gC bs))▸bZ h q:fin m (.gC bs) ((aK p st).put i (.v (.gC bs))) k)
theorem uQ (h:zS s=TK v) {k:V->Prop} (q:k (sub p v)):kf (s.map (cK p)) k:=by
 rcases s with _|(_|v|xs|bs)
 ·exact aZ h
 ·exact aZ h
 ·obtain rfl:=le h;exact q
 ·obtain rfl:=le h;exact q
 ·exact aZ h
theorem z7 (h:L9 s=TK v):s=TK (.v v):=by
 rcases s with _|(_|v|xs|bs)
 ·exact aZ h
 ·exact aZ h
 ·exact TQ (λv=>TK (Slot.v v)) (le h)
 ·exact aZ h
 ·exact aZ h
noncomputable def JG (p:Pl) (R:V->List V->FG->Option (V×FG)) (RR:V->List V->G->V->G->Prop) (wm:Nm->Option V) (e:E):Prop:=∀m st r,aB R wm e m st=TK r->∀k:KE,k (sub p r.1) (aK p r.2)->ev RR wm e m (aK p st) k
noncomputable def Fd (p:Pl) (R:V->List V->FG->Option (V×FG)) (RR:V->List V->G->V->G->Prop) (wm:Nm->Option V) (e:E):Prop:=∀st r,cn R wm e st=TK r->∀k:List V->St->Prop,k (subs p r.1) (aK p r.2)->BZ RR wm e (aK p st) k
theorem nl (h:∀st,cn R wm e st=TW):Fd p R RR wm e:=λst _ q=>aZ ((h st).symm.trans q)
theorem No (h:∀m st,aB R wm e m st=TW):JG p R RR wm e:=λm st _ q=>aZ ((h m st).symm.trans q)
theorem rH (Z:kD p R RR) (e:E):JG p R RR wm e/\Fd p R RR wm e:=by
 induction e with
 |lit v=>refine ⟨?_,nl λ_=>rfl⟩;exact λm st r h k q=>by refine iO (show (if aN v=TN then ba m v st else TW)=TK r from h) λc h=>?_;have:=bZ (p:=p) h q;rw [bG v c] at this;exact this
 |var i=>refine ⟨?_,nl λ_=>rfl⟩;exact λm st r h k q=>by show yi (aK p st).ρ[i]? i m (aK p st) k;refine aa (eV ..) ?_;exact Ha h q
 |bin op a b s B=>refine ⟨?_,nl λ_=>rfl⟩;exact λm st r h k q=>by refine ac λd=>bO h λx A h=>bO h λy C h=>bO h λz D h=>d ?_;clear d;exact s.1 _ _ _ A _ (B.1 _ _ _ C _ (i12 _ (Dw D) (bZ h q)))
 |neg a s=>refine ⟨?_,nl λ_=>rfl⟩;exact λm st r h k q=>by refine ac λd=>bO h λx A h=>bO h λi O h=>d ?_;clear d;exact s.1 _ _ _ A _ (i12 i (TQ (sub p) (a8 O)) (bZ (p:=p) (v:=.int (-i)) h q))
 |not a s=>
  refine ⟨?_,nl λ_=>rfl⟩;exact λm st r h k q=>by
   cases m with
   |true=>refine ac λd=>bO h λx A h=>bO h λt ht h=>?_;obtain rfl:=le h;refine d ?_;refine s.1 _ _ _ A _ ?_;refine aa (d6 ht ..) ?_;exact q
   |false=>refine ac λd=>bO h λx A h=>bO h λt ht h=>?_;obtain rfl:=le h;refine d ?_;exact s.1 _ _ _ A _ (i12 t (h9 ht) q)
 |cmp op a b s B=>refine ⟨?_,nl λ_=>rfl⟩;exact λm st r h k q=>by refine ac λd=>bO h λx A h=>bO h λy C h=>bO h λz D h=>d ?_;clear d;exact s.1 _ _ _ A _ (B.1 _ _ _ C _ (i12 _ (o9 D) (bZ (p:=p) (v:=.bool z) h q)))
 |kz o1 o2 a b c s B J=>
  refine ⟨?_,nl λ_=>rfl⟩;exact λm st r h k q=>by
   refine ac λd=>bO h λx A h=>bO h λy C h=>bO h λz D h=>d ?_;clear d;refine s.1 _ _ _ A _ (B.1 _ _ _ C _ (i12 _ (o9 D) ?_));cases z with
   |true=>refine ac λd=>bO (show (aB R wm c TO y.2).bind (λz=>(da o2 y.1 z.1).bind λr'=>ba m (.bool r') z.2)=TK r from h) λu P h=>bO h λv L h=>d ?_;exact J.1 _ _ _ P _ (i12 _ (o9 L) (bZ (p:=p) (v:=.bool v) h q))
   |false=>exact bZ (p:=p) (show ba m (.bool TO) y.2=TK r from h) q
 |and a b s B=>
  refine ⟨?_,nl λ_=>rfl⟩;exact λm st r h k q=>by
   cases m with
   |true=>
    refine ac λd=>bO h λx A h=>bO h λt ht h=>d ?_;refine s.1 _ _ _ A _ (aa (d6 ht ..) ?_);cases t with
    |true=>exact B.1 _ _ _ h _ q
    |false=>obtain rfl:=le h;exact q
   |false=>
    refine ac λd=>bO h λx A h=>bO h λt ht h=>d ?_;refine s.1 _ _ _ A _ (i12 t (h9 ht) ?_);cases t with
    |true=>exact B.1 _ _ _ h _ q
    |false=>obtain rfl:=le h;exact q
 |or a b s B=>
  refine ⟨?_,nl λ_=>rfl⟩;exact λm st r h k q=>by
   cases m with
   |true=>
    refine ac λd=>bO h λx A h=>bO h λt ht h=>d ?_;refine s.1 _ _ _ A _ (aa (d6 ht ..) ?_);cases t with
    |true=>obtain rfl:=le h;exact q
    |false=>exact B.1 _ _ _ h _ q
   |false=>
    refine ac λd=>bO h λx A h=>bO h λt ht h=>d ?_;refine s.1 _ _ _ A _ (i12 t (h9 ht) ?_);cases t with
    |true=>obtain rfl:=le h;exact q
    |false=>exact B.1 _ _ _ h _ q
 |ite t a b Q s B=>
  refine ⟨?_,nl λ_=>rfl⟩;exact λm st r h k q=>by
   refine ac λd=>bO h λx A h=>bO h λc T h=>d ?_;clear d;refine Q.1 _ _ _ A _ (aa (d6 T ..) ?_);cases c with
   |true=>exact s.1 _ _ _ h _ q
   |false=>exact B.1 _ _ _ h _ q
 |tup l F=>refine ⟨?_,nl λ_=>rfl⟩;exact λm st r h k q=>by exact bO h λx A h=>F.2 _ _ A _ (bZ (p:=p) h q)
 |lst l F=>refine ⟨?_,nl λ_=>rfl⟩;exact λm st r h k q=>by exact bO h λx A h=>F.2 _ _ A _ (bZ (p:=p) h q)
 |call f l U F=>refine ⟨?_,nl λ_=>rfl⟩;exact λm st r h k q=>by refine ac λd=>bO h λx A h=>bO h λy C h=>bO h λz D h=>d ?_;clear d;exact U.1 _ _ _ A _ (F.2 _ _ C _ (Dz Z D (bZ (p:=p) h q)))
 |a4 o n l H F=>refine ⟨?_,nl λ_=>rfl⟩;exact λm st r h k q=>by refine ac λd=>bO h λx A h=>bO h λc T h=>bO h λy C h=>bO h λz D h=>d ?_;clear d;exact H.1 _ _ _ A _ (DA T (F.2 _ _ C _ (z6 Z D (bZ (p:=p) h q))))
 |attr o n H=>refine ⟨?_,nl λ_=>rfl⟩;exact λm st r h k q=>by refine ac λd=>bO h λx A h=>bO h λy C h=>d ?_;clear d;exact H.1 _ _ _ A _ (z2 C (bZ h q))
 |sub o i H W=>refine ⟨?_,nl λ_=>rfl⟩;exact λm st r h k q=>by refine ac λd=>bO h λx A h=>bO h λy C h=>bO h λz D h=>d ?_;clear d;exact H.1 _ _ _ A _ (W.1 _ _ _ C _ (uP D (bZ h q)))
 |cw i j=>refine ⟨?_,nl λ_=>rfl⟩;exact λm st r h k q=>by refine ac λd=>bO h λv L h=>bO h λz D h=>d ?_;clear d;show kf (aK p st).ρ[i]? λv=>vP v (.int j) (aK p st).g λr=>fin m r (aK p st) k;exact aa (eV ..) (uQ L (uP (i:=.int j) D (bZ h q)))
 |oC i=>refine ⟨?_,nl λ_=>rfl⟩;exact λm st r h k q=>by refine ac λd=>bO h λv L h=>bO h λz D h=>d ?_;clear d;show kf (aK p st).ρ[i]? λv=>∃n,m7 v=TK n/\fin m (.int n) (aK p st) k;exact aa (eV ..) (uQ L (i12 z (len_sub D) (bZ (p:=p) (v:=.int z) h q)))
 |pX o a b H s B=>refine ⟨?_,nl λ_=>rfl⟩;exact λm st r h k q=>by refine ac λd=>bO h λx A h=>bO h λy C h=>bO h λz D h=>bO h λu P h=>d ?_;clear d;exact H.1 _ _ _ A _ (s.1 _ _ _ C _ (B.1 _ _ _ D _ (i12 _ (wW P) (bZ h q))))
 |comp elt n it c M N J=>refine ⟨?_,nl λ_=>rfl⟩;exact λm st r h k q=>by refine ac λd=>bO h λx A h=>bO h λitems O h=>iO h λD h=>bO h λy C h=>iO h λhp h=>d ?_;clear d;refine N.1 _ _ _ A _ (eK _ (nY O) (O5 (O9 (cz _)) D) ?_);exact aa (z3 ..) (DB (p:=p) (λst r h k q=>M.1 TO st r h k q) (λst r h k q=>J.1 TN st r h k q) items [] _ y C _ ⟨tD hp,bZ (p:=p) h q⟩)
 |lam n i=>refine ⟨?_,nl λ_=>rfl⟩;exact λm st r h k q=>by refine ac λd=>bO h λv L h=>bO h λa ha h1=>iO h1 λe h2=>aM (aR e) λX e2=>d ?_;clear d;have X:a=1:=TM X;have ha:=jf ha;subst X ha;exact cR (PQ.mp e2) λw hw=>⟨_,ig hw,eV.trans (TQ (Qq (cK p)) (z7 L)),bZ (p:=p) (v:=.lam n 1) h2 q⟩
 |nil=>refine ⟨No λ_ _=>rfl,?_⟩;exact λst r h k q=>by obtain rfl:=le h;exact q
 |cons e l Y F=>refine ⟨No λ_ _=>rfl,?_⟩;exact λst r h k q=>by refine ac λd=>bO h λx A h=>bO h λy C h=>?_;obtain rfl:=le h;refine d ?_;clear d;exact Y.1 _ _ _ A _ (F.2 _ _ C _ q)
theorem ca (a:kD p R RR) (e:E):∀m st r,aB R wm e m st=TK r->∀k:KE,k (sub p r.1) (aK p r.2)->ev RR wm e m (aK p st) k:=(rH a e).1
theorem kW (a:kD p R RR) (e:E):∀st r,cn R wm e st=TK r->∀k:List V->St->Prop,k (subs p r.1) (aK p r.2)->BZ RR wm e (aK p st) k:=(rH a e).2
noncomputable def dw (p:Pl):Fl->Fl
 |.ret v=>.ret (sub p v)
 |f=>f
theorem md:∀{is:List Nat} {xs:List V} {st st':a7},G4 is xs st=TK st'->putL is (subs p xs) (aK p st)=TK (aK p st')
 |[],[],_,_,h=>TQ (λs=>TK (aK p s)) (le h)
 |i::is,x::xs,st,_,h=>(TQ (putL is (subs p xs)) (fT (s:=.v x)).symm).trans (md h)
 |[],_::_,_,_,h=>aZ h
 |_::_,[],_,_,h=>aZ h
theorem uR (h:tupP x=TK xs):tupP (sub p x)=TK (subs p xs):=by obtain rfl:=fi h;rfl
theorem rI {st st':a7} (h:rF is x st=TK st'):qo is (sub p x) (aK p st)=TK (aK p st'):=by
 rcases is with _|⟨i,_|⟨j,is⟩⟩
 ·exact bO h λxs a h=>(TQ (Option.bind · _) (uR a)).trans (md h)
 ·exact (TQ TK fT.symm).trans (TQ (λs=>TK (aK p s)) (le h))
 ·exact bO h λxs a h=>(TQ (Option.bind · _) (uR a)).trans (md h)
theorem uS {a:St->Prop} (h:uL f b=TK r) (q:k (dw p r.1) (aK p r.2)) (hg:∀st,b st=TK r->a (aK p st)):ug (dw p f.1) (aK p f.2) a k:=by
 obtain ⟨f,st⟩:=f;cases f with
 |next=>exact hg st h
 |cont=>exact hg st h
 |brk=>obtain rfl:=le h;exact q
 |ret v=>obtain rfl:=le h;exact q
theorem z8 {a:St->KE->Prop} {b':St->KS->Prop} (ht:∀st r,t st=TK r->∀k:KE,k (sub p r.1) (aK p r.2)->a (aK p st) k) (d:∀st r,b st=TK r->∀k:KS,k (dw p r.1) (aK p r.2)->b' (aK p st) k):∀n st r,bk t b n st=TK r->∀k:KS,k (dw p r.1) (aK p r.2)->oH a b' n (aK p st) k:=by
 intro e;induction e with
 |zero=>intro st r h k q;exact aZ h
 |succ n f=>
  intro st r h k q;refine bO h λx g h=>bO h λc i h=>ht st x g _ (aa (d6 i ..) ?_);cases c with
  |false=>obtain rfl:=le h;exact q
  |true=>exact bO (show (b x.2).bind (λq=>uL q λst=>bk t b n st)=TK r from h) λy j h=>d _ y j _ (uS h q λst h=>f st r h k q)
theorem Aa {b':St->KS->Prop} (a:∀st r,b st=TK r->∀k:KS,k (dw p r.1) (aK p r.2)->b' (aK p st) k):∀l st r,iT b is l st=TK r->∀k:KS,k (dw p r.1) (aK p r.2)->forL b' is (subs p l) (aK p st) k:=by
 intro c;induction c with
 |nil=>intro st r h k q;obtain rfl:=le h;exact q
 |cons x l d=>intro st r h k q;exact bO h λst' hs h=>bO h λy e h=>⟨_,rI hs,a _ y e _ (uS h q λst h=>d st r h k q)⟩
theorem Ab:∀l i,subs p (gO i l)=gO i l:=by
 intro a;induction a with
 |nil=>intro i;exact TL
 |cons c l b=>intro i;exact TQ (V.tuple [.int i,.str [c]]::·) (b (i+1))
theorem Hb {a:St->Prop} (h:G5 f b=TK r) (q:k (dw p r.1) (aK p r.2)) (hg:∀st,b st=TK r->a (aK p st)):IG (dw p f.1) (aK p f.2) a k:=by
 obtain ⟨f,st⟩:=f;cases f with
 |next=>exact hg st h
 |_=>obtain rfl:=le h;exact q
theorem me {k:KS} {st:a7} (q:k .next (aK p (st.put i s))):k .next ((aK p st).put i (cK p s)):=(fT)▸q
theorem Hd {st:a7} (h:JD vs=TK b) (q:k .next (aK p (st.put i (.mb b)))):IH i (subs p vs) (aK p st) k:=by
 have q:=fT▸q;rcases vs with _|⟨v,_|⟨_,_⟩⟩
 ·obtain rfl:=le h;exact .inl ⟨TL,q⟩
 ·obtain rfl:=bF h;exact .inr ⟨b,TL,q⟩
 ·exact aZ h
theorem JH {st:a7} (h:Nn a n i st=TK r) (q:k (dw p r.1) (aK p r.2)):EN (sub p (.ref a)) n (.int i) (aK p st) k:=by refine ac λc=>iO h λb h=>fE b λd e f=>bO h λw g h=>?_;obtain rfl:=le h;refine c ?_;exact ⟨_,i,ig g,d▸TL,e,TL,f,q⟩
theorem Ac {st:a7} (h:zW a j v st=TK r) (q:k (dw p r.1) (aK p r.2)):EO (sub p (.ref a)) (.int j) (.int v) (aK p st) k:=by refine ac λc=>iO h λb h=>fE b λd e f=>bO h λw g h=>?_;obtain rfl:=le h;refine c ?_;exact ⟨_,v,pa g,d▸TL,TQ V.int e,TL,f,q⟩
theorem Ad {s:Option Slot} {a b:Option (Fl×a7)} {r:Fl×a7} {c d:Prop} (h:zU s a b=TK r) (ha:a=TK r->c) (e:b=TK r->d):vQ (s.map (cK p)) c d:=by
 rcases s with _|(_|v|xs|bs)
 ·exact aZ h
 ·exact aZ h
 ·exact aZ h
 ·exact ha h
 ·exact e h
theorem Ae (h:KR s=TK v):s=TK (.ml v):=by
 rcases s with _|(_|v|xs|bs)
 ·exact aZ h
 ·exact aZ h
 ·exact aZ h
 ·exact TQ (λv=>TK (Slot.ml v)) (le h)
 ·exact aZ h
theorem Af (h:KT s=TK v):s=TK (.mb v):=by
 rcases s with _|(_|v|xs|bs)
 ·exact aZ h
 ·exact aZ h
 ·exact aZ h
 ·exact aZ h
 ·exact TQ (λv=>TK (Slot.mb v)) (le h)
theorem jv {st:a7} {i:Nat} (h:st.ρ[i]?=TK s):(aK p st).ρ[i]?=TK (cK p s):=eV.trans (TQ (Qq (cK p)) h)
theorem DC {st:a7} {r:Fl×a7} (h:E7 i v st=TK r) (q:k (dw p r.1) (aK p r.2)):IJ i (sub p v) (aK p st) k:=by refine ac λb=>bO h λxs hs h=>aM (if2 h) λz a=>?_;subst a;refine b ?_;clear b;refine ⟨subs p xs,jv (Ae hs),Pb (O9 (cz xs)) z,?_⟩;exact g5 (p:=p) xs [v]▸(me (s:=.ml (xs++[v])) q)
theorem Ag {st:a7} {r:Fl×a7} {k:KS} (h:E8 i v st=TK r) (q:k (dw p r.1) (aK p r.2)):yj i (sub p v) (aK p st) k:=by refine ac λd=>bO h λbs hs h=>bO h λc e h=>aM (if2 h) λa b=>fE a λf g j=>?_;subst b;refine d ?_;clear d;exact ⟨bs,c,jv (Af hs),TQ (sub p) (a8 e),f,g,j,me q⟩
theorem Ah {st:a7} {r:Fl×a7} (h:E9 i v st=TK r) (q:k (dw p r.1) (aK p r.2)):yk i (sub p v) (aK p st) k:=by
 refine ac λb=>bO h λxs hs h=>bO h λys c h=>aM (if2 h) λz a=>?_;subst a;refine b ?_;clear b;refine ⟨subs p xs,subs p ys,jv (Ae hs),TQ (sub p) (dZ c),?_,?_⟩
 ·refine aa (cz ..) (aa (cz ..) ?_);exact z
 ·exact g5 (p:=p) xs ys▸(me (s:=.ml (xs++ys)) q)
theorem Ai {st:a7} {r:Fl×a7} {k:KS} (h:Fa i v st=TK r) (q:k (dw p r.1) (aK p r.2)):yl i (sub p v) (aK p st) k:=by refine ac λb=>bO h λbs hs h=>bO h λc d h=>aM (if2 h) λz a=>?_;subst a;refine b ?_;clear b;exact ⟨bs,c,jv (Af hs),TQ (sub p) (bF d),z,me q⟩
theorem DD (h:JE op a b=TK c):op=.Add/\c=a+b:=by
 cases op with
 |Add=>exact ⟨TL,(le h).symm⟩
 |_=>exact aZ h
noncomputable def JI (p:Pl) (R:V->List V->FG->Option (V×FG)) (RR:V->List V->G->V->G->Prop) (wm:Nm->Option V) (s:S):Prop:=∀st r,aI R wm s st=TK r->∀k:KS,k (dw p r.1) (aK p r.2)->sG RR wm s (aK p st) k
theorem DE (g:kD p R RR) (s:S):JI p R RR wm s:=by
 induction s with
 |skip=>intro st r h k q;obtain rfl:=le h;exact q
 |raise=>exact λst r h k q=>aZ h
 |seq a b u f=>intro st r h k q;exact bO h λx d h=>u st x d _ (Hb h q λst h=>f st r h k q)
 |asg i e=>intro st r h k q;refine bO h λx d h=>?_;obtain rfl:=le h;exact ca g e _ _ _ d _ (me q)
 |oD i l=>intro st r h k q;refine bO h λx d h=>?_;obtain rfl:=le h;exact kW g l _ _ d _ (.own (me (s:=.ml x.1) q))
 |vK i l=>intro st r h k q;refine ac λm=>bO h λx d h=>bO h λb A h=>?_;obtain rfl:=le h;refine m ?_;exact kW g l _ _ d _ (Hd A q)
 |ly is e=>intro st r h k q;refine ac λm=>bO h λx d h=>bO h λst' hs h=>?_;obtain rfl:=le h;refine m ?_;exact ca g e _ _ _ d _ ⟨_,rI hs,q⟩
 |kA o n e=>intro st r h k q;refine ac λm=>bO h λx d h=>bO h λy w h=>bO h λa ha h=>bO h λi B h=>m ?_;refine ca g e _ _ _ d _ (ca g o _ _ _ w _ ?_);refine aa (jf ha ..) (aa (a8 B ..) ?_);exact JH h q
 |qh o i e=>intro st r h k q;refine ac λm=>bO h λx d h=>bO h λy w h=>bO h λz H h=>bO h λa ha h=>bO h λj J h=>bO h λv L h=>m ?_;refine ca g e _ _ _ d _ (ca g o _ _ _ w _ (ca g i _ _ _ H _ ?_));refine aa (jf ha ..) (aa (a8 J ..) (aa (a8 L ..) ?_));exact Ac h q
 |aug i op e=>intro st r h k q;refine ac λm=>bO h λx d h=>bO h λy w h=>bO h λa ha h=>bO h λb A h=>bO h λc C h=>aM (DD C) λD F=>?_;subst D;subst F;obtain rfl:=le h;refine m ?_;refine ⟨a,jv ((z7 d).trans (TQ (λv=>TK (Slot.v v)) (a8 ha))),TL,ca g e _ _ _ w _ ⟨b,TQ (sub p) (a8 A),me q⟩⟩
 |expr e=>intro st r h k q;refine bO h λx d h=>?_;obtain rfl:=le h;exact ca g e _ _ _ d _ q
 |app i e=>
  intro st r h k q;show vQ (aK p st).ρ[i]? _ _;refine aa (eV ..) (Ad h (λh=>?_) λh=>?_)
  ·exact bO h λx d h=>ca g e _ _ _ d _ (DC h q)
  ·exact bO h λx d h=>ca g e _ _ _ d _ (Ag h q)
 |ext i e=>
  intro st r h k q;show vQ (aK p st).ρ[i]? _ _;refine aa (eV ..) (Ad h (λh=>?_) λh=>?_)
  ·exact bO h λx d h=>ca g e _ _ _ d _ (Ah h q)
  ·exact bO h λx d h=>ca g e _ _ _ d _ (Ai h q)
 |ite t a b u f=>
  intro st r h k q;refine ac λm=>bO h λx d h=>bO h λc C h=>m ?_;refine ca g t _ _ _ d _ (aa (d6 C ..) ?_);cases c with
  |true=>exact u _ _ h _ q
  |false=>exact f _ _ h _ q
 |FT t b f=>exact λst r h k q=>⟨turns,z8 (λst r h k q=>ca g t TN st r h k q) (λst r h k q=>f st r h k q) turns st r h k q⟩
 |vL is it b f=>intro st r h k q;refine ac λm=>bO h λx d h=>bO h λitems B h=>m ?_;exact ca g it _ _ _ d _ ⟨_,nY B,Aa (λst r h k q=>f st r h k q) items _ r h k q⟩
 |xW is e b f=>intro st r h k q;refine ac λm=>bO h λx d h=>bO h λt ht h=>m ?_;refine ca g e _ _ _ d _ ⟨t,TQ (λv=>[sub p v]) (c6 ht),?_⟩;exact Ab t 0▸Aa (b':=λst k=>sG RR wm b st k) (λst r h k q=>f st r h k q) (gO 0 t) x.2 r h k q
 |ret e=>intro st r h k q;refine bO h λx d h=>?_;obtain rfl:=le h;exact ca g e _ _ _ d _ q
 |xX=>intro st r h k q;obtain rfl:=le h;exact q
 |cont=>intro st r h k q;obtain rfl:=le h;exact q
 |xY b f=>exact λst r h k q=>f st r h k q
theorem uT (a:kD p R RR) (s:S):∀st r,aI R wm s st=TK r->∀k:KS,k (dw p r.1) (aK p r.2)->sG RR wm s (aK p st) k:=DE a s
end
section
inductive rJ where
 |run (s:S)|wire (i:Nat) (l:E)|src (i:Nat) (l:E)
noncomputable def Hf:rJ->S
 |.run s=>s
 |.wire i l=>.asg i (.call (.lit .fh) l)
 |.src i l=>.oD i l
noncomputable def toS:List rJ->S
 |[]=>.skip
 |[a]=>Hf a
 |a::r=>.seq (Hf a) (toS r)
noncomputable def jw:Slot->Bool
 |.v v=>aN v
 |.ml xs=>aV xs
 |_=>TN
noncomputable def Aj (x y:V):Option (List Int×Nat):=(ke x).bind λxs=>(dY y).bind λi=>(gt xs).bind λc=>if 0<=i then TK (c,i.toNat) else TW
noncomputable def tE:List V->Option (List Int×Nat)
 |[x,y]=>Aj x y
 |_=>TW
noncomputable def JJ (xs:List V):Option (List UInt8):=(fg xs).bind cM
noncomputable def rK (g g':FG):Bool:=(!g.wire.isSome||g'.wire.isSome)&&(!g.src.isSome||g'.src.isSome)
section
variable (R:V->List V->FG->Option (V×FG)) (wm:Nm->Option V)
noncomputable def Ak:rJ->a7->Option (Fl×a7)
 |.run s,st=>aI R wm s st
 |.wire i l,st=>(cn R wm l st).bind λq=>if q.2.g.wire.isNone&&!st.g.wire.isSome&&cg st.g q.2.g&&q.2.ρ.all jw then (JJ q.1).bind λb=>TK (.next,⟨q.2.ρ.set i (.v (.ref 1)),⟨q.2.g.src,TK (b,0)⟩⟩) else TW
 |.src i l,st=>(cn R wm l st).bind λq=>if q.2.g.src.isNone&&!st.g.src.isSome&&cg st.g q.2.g&&q.2.ρ.all jw then (tE q.1).bind λc=>TK (.next,⟨q.2.ρ.set i (.v (.ref 2)),⟨TK c,q.2.g.wire⟩⟩) else TW
noncomputable def jx:List rJ->a7->Option (Fl×a7)
 |[],st=>TK (.next,st)
 |a::r,st=>(Ak R wm a st).bind λp=>if rK st.g p.2.g then G5 p λst=>jx r st else TW
end
structure Agree (g:FG) (p p':Pl):Prop where
 w:g.wire.isSome=TN->p'.w=p.w/\p'.d=p.d
 s:g.src.isSome=TN->p'.s=p.s
theorem Agree.refl (g:FG) (p:Pl):Agree g p p:=⟨λ_=>⟨TL,TL⟩,λ_=>rfl⟩
theorem Al (h:(!a||b)=TN) (e:a=TN):b=TN:=by subst e;exact h
theorem Agree.trans (h:rK g g'=TN) (a:Agree g p p') (b:Agree g' p' c):Agree g p c:=by refine aM (aR h) λf i=>⟨λe=>?_,λe=>(b.s (Al i e)).trans (a.s e)⟩;exact aM (b.w (Al f e)) λx y=>aM (a.w e) λj y'=>⟨x.trans j,y.trans y'⟩
theorem tF:∀s:Slot,jw s=TN->cK q s=s
 |.v v,c=>TQ Slot.v (bG v c)
 |.ml xs,c=>TQ Slot.ml (cB xs c)
 |.u,_|.mb _,_=>rfl
theorem fC {ρ:List Slot} (h:ρ.all jw=TN):ρ.map (cK q)=ρ:=by exact aa (QI λs m=>tF s (Pa.mp h s m)) (aa (S5 ..) TL)
variable {R:V->List V->FG->Option (V×FG)} {RR:V->List V->G->V->G->Prop} {wm:Nm->Option V}
theorem DF:∀{xs:List V} {c:List Int},gt xs=TK c->xs=c.map .int:=by
 intro d;induction d with
 |nil=>intro c h;exact le h▸TL
 |cons x r e=>intro c h;refine bB (lU h) λi g a f b=>?_;subst a;subst b;exact TQ (V.int i::·) (e f)
theorem Am (h:tE vs=TK c):vs=[.list (c.1.map .int),.int c.2]:=by
 rcases vs with _|⟨x,_|⟨y,_|⟨_,_⟩⟩⟩
 ·exact aZ h
 ·exact aZ h
 ·refine bO (show Aj x y=TK c from h) λxs b h=>ac λd=>bO h λi e h=>bO h λl f h=>aM (if2 h) λg a=>?_;subst a;obtain rfl:=a8 e;obtain rfl:=dZ b;refine d ?_;exact aa (DF f ..) (TQ (λj=>[V.list (l.map .int),V.int j]) (Q2 g).symm)
 ·exact aZ h
theorem DG (h:JJ vs=TK b):vs=[.bytes b]:=by
 rcases vs with _|⟨x,_|⟨_,_⟩⟩
 ·exact aZ h
 ·exact TQ (λx=>[x]) (bF h)
 ·exact aZ h
theorem none_of {a:Type} {o:Option a} (h:(o.isNone&&!b&&c&&d)=TN):o=TW/\b=TO/\d=TN:=by refine ac λe=>aM (aR h) λh f=>aM (aR h) λh j=>aM (aR h) λg i=>e ?_;exact (dQ (RB.mp g) ((Bool.not_not b).symm.trans (TQ not i)) f)
theorem An (j:∀p,kD p R RR) {st:a7} (h:Ak R wm a st=TK r) (p:Pl) (k:KS) (q:∀m,Agree st.g p m->k (dw m r.1) (aK m r.2)):sG RR wm (Hf a) (aK p st) k:=by
 cases a with
 |run s=>exact uT (j p) s st r h k (q p (.refl _ _))
 |wire i l=>
  refine ac λn=>bO h λx t h=>iO h λc h=>bO h λb u h=>fE (none_of c) λc1 y f=>?_;obtain rfl:=le h;refine n ?_;refine kW (j p) l st x t _ (.wire b TL (TQ (subs p) (DG u)) (TQ (λo=>(Qq (λq:List UInt8×Nat=>(⟨p.w,p.d,q.1,q.2⟩:Wr)) o).isNone) c1) λa d=>?_);have e:aK ⟨a,d,p.s⟩ ⟨x.2.ρ.set i (.v (.ref 1)),⟨x.2.g.src,TK (b,0)⟩⟩={(aK p x.2).put i (.v (.ref a)) with g:={(aK p x.2).g with wire:=TK ⟨a,d,b,0⟩}}:=by show (⟨(x.2.ρ.set i (.v (.ref 1))).map (cK ⟨a,d,p.s⟩),_⟩:St)=⟨(x.2.ρ.map (cK p)).set i (.v (.ref a)),_⟩;refine aa (List.map_set ..) (aa (fC f ..) (aa (fC f ..) ?_));rfl
  exact (TQ (k .next) e).mp (q ⟨a,d,p.s⟩ ⟨λe=>TU (y.symm.trans e) Pm,λ_=>rfl⟩)
 |src i l=>
  refine ac λn=>bO h λx t h=>iO h λc h=>bO h λb u h=>fE (none_of c) λc1 y f=>?_;obtain rfl:=le h;refine n ?_;refine kW (j p) l st x t _ (.src b.1 b.2 (TQ (λo=>(Qq (λq:List Int×Nat=>(⟨p.s,q.1,q.2⟩:Src)) o).isNone) c1) ((TQ (subs p) (Am u)).trans (TQ (λl=>[V.list l,V.int b.2]) (l9 b.1))) λa=>?_);have e:aK ⟨p.w,p.d,a⟩ ⟨x.2.ρ.set i (.v (.ref 2)),⟨TK b,x.2.g.wire⟩⟩={(aK p x.2).put i (.v (.ref a)) with g:={(aK p x.2).g with src:=TK ⟨a,b.1,b.2⟩}}:=by show (⟨(x.2.ρ.set i (.v (.ref 2))).map (cK ⟨p.w,p.d,a⟩),_⟩:St)=⟨(x.2.ρ.map (cK p)).set i (.v (.ref a)),_⟩;refine aa (List.map_set ..) (aa (fC f ..) (aa (fC f ..) ?_));rfl
  exact (TQ (k .next) e).mp (q ⟨p.w,p.d,a⟩ ⟨λ_=>⟨TL,TL⟩,λe=>TU (y.symm.trans e) Pm⟩)
theorem uU (i:∀p,kD p R RR):∀{l:List rJ} {st:a7} {r:Fl×a7},jx R wm l st=TK r->∀p k,(∀d,Agree st.g p d->k (dw d r.1) (aK d r.2))->sG RR wm (toS l) (aK p st) k
 |[],st,r,h,p,k,q=>by obtain rfl:=le h;exact q p (.refl _ _)
 |[a],st,r,h,p,k,q=>by refine bO h λx j h=>iO h λc h=>An i j p _ λd e=>?_;obtain ⟨f,st'⟩:=x;exact (by cases f<;>exact le h:(f,st')=r)▸q d e
 |a::b::l,st,r,h,p,k,q=>by
  refine bO h λx j h=>iO h λc h=>An i j p _ λd e=>?_;obtain ⟨f,st'⟩:=x;cases f with
  |next=>exact uU i h d k λm n=>q m (e.trans c n)
  |_=>obtain rfl:=le h;exact q d e
end
inductive Hg where
 |plain (s:S)|iU (l:List rJ)
noncomputable def Hg.s:Hg->S
 |.plain s=>s
 |.iU l=>toS l
structure uV where
 k:Nat
 gG:List V
 pd:Nat
 b:Hg
noncomputable def DH:Fl->Option V
 |.ret v=>TK v
 |.next=>TK .none
 |_=>TW
noncomputable def Ma (g:FG) (q:Fl×a7):Option (V×FG):=(DH q.1).bind λv=>if cg g q.2.g then TK (v,q.2.g) else TW
noncomputable def JK (g g':FG):FG:=⟨if g.src.isSome then g'.src else TW,if g.wire.isSome then g'.wire else TW⟩
noncomputable def Mb (g:FG) (q:Fl×a7):Option (V×FG):=(DH q.1).bind λv=>if aN v&&rK g q.2.g then TK (v,JK g q.2.g) else TW
section
variable (tab:T2->Nat->Option uV) (aE:Nat->Option E) (wm:Nm->Option V)
noncomputable def JL (R:V->List V->FG->Option (V×FG)) (b:Hg) (st:a7):Option (V×FG):=match b with
 |.plain s=>(aI R wm s st).bind (Ma st.g)
 |.iU l=>(jx R wm l st).bind (Mb st.g)
noncomputable def JM (R:V->List V->FG->Option (V×FG)) (t:uV) (vs:List V) (g:FG):Option (V×FG):=if vs.length=t.k then JL wm R t.b ⟨bQ (vs++t.gG) t.pd,g⟩ else TW
noncomputable def Mc (R:V->List V->FG->Option (V×FG)) (j:Nat) (a:T2) (vs:List V) (g:FG):Option (V×FG):=if a=1&&g.wire.isSome&&vs.isEmpty then (aE j).bind λe=>(aB R wm e TO ⟨[.v (.ref 1)],g⟩).bind λq=>if cg g q.2.g then TK (q.1,q.2.g) else TW else TW
noncomputable def ag:Nat->V->List V->FG->Option (V×FG)
 |0,_,_,_=>TW
 |n+1,f,vs,g=>match f with
  |.ref a=>(tab a vs.length).bind λt=>JM wm (ag n) t vs g
  |.lam j a=>Mc aE wm (ag n) j a vs g
  |_=>TW
end
theorem tG:aK p ⟨bQ xs n,g⟩=⟨bQ (subs p xs) n,inst p g⟩:=by show (⟨(xs.map Slot.v++PF n Slot.u).map (cK p),_⟩:St)=⟨(subs p xs).map Slot.v++PF n Slot.u,_⟩;refine aa (Qk ..) (aa (List.map_replicate ..) (aa (Po ..) (aa (bN ..) (aa (Po ..) ?_))));rfl
theorem some_at {c d:Type} {o a:Option c} {f:c->d} (h:a.isSome=TN->o.isSome=TN) {r:d} (e:a.map f=TK r):∃u v,o=TK u/\a=TK v/\f v=r:=by refine mO e λq g b=>?_;subst b;exact cR (PQ.mp (h (g▸TL))) λu i=>(gF u q i g TL)
theorem mh {p:Pl} {g g':FG} (d:g'.wire.isSome=TN->g.wire.isSome=TN) (f:g'.src.isSome=TN->g.src.isSome=TN):∀a,(inst p g').fM a->(inst p g).fM a:=by
 rintro a (⟨r,e,rfl⟩|⟨r,e,rfl⟩)
 ·refine bB (some_at f e) λu v c h b=>?_;subst b;exact .inl (i12 _ (pa c) TL)
 ·refine bB (some_at d e) λu v c h b=>?_;subst b;exact .inr (i12 _ (ig c) TL)
theorem ij (h:cg g g'=TN):(g'.wire.isSome=TN->g.wire.isSome=TN)/\(g'.src.isSome=TN->g.src.isSome=TN):=⟨λe=>(kV h).2.trans e,λe=>(kV h).1.trans e⟩
theorem uW {st:St} (h:DH f=TK v) (l:EY g' st.g):CH (sub p v) g' (dw p f) st:=by
 cases f with
 |ret u=>obtain rfl:=le h;exact .ret TL l
 |next=>obtain rfl:=le h;exact .next TL TL l
 |_=>exact aZ h
noncomputable def uX (C:Cx) (wm:Nm->Option V) (a:T2) (t:uV):Prop:=∃(c:U1) (body:List UJ) (ps ls fz:List Str) (lm:Option Nat) (ds:List TT),oU C a c body ps ls fz lm t.k ds t.gG/\ls.length=t.pd/\aV t.gG=TN/\∀n,2<=n->SS C wm (v8 C.glob c.scope.names ps ls fz lm) n (execs body) t.b.s
noncomputable def tH (C:Cx) (wm:Nm->Option V) (j:Nat) (e:E):Prop:=∃l:vJ,C.tabs[j]?=TK l/\l.scope.isCoroutine=TO/\l.scope.isGenerator=TO/\l.scope.kind=.function/\(∀x∈l.scope.names,x.2≠.cell)/\ seek l.scope.names (O6 "wire")=TK .free/\(∀cl b a c,Vc (kla_fn "<lambda>" l.q l.params l.body l.scope cl b a c) ⟨[],[]⟩=pure [])/\∀n,2<=n->SV C wm (ur C.glob l.scope) n l.body e
theorem uY {a:Type} {o:Option a} (h:(if c=TN then o else TW).isSome=TN):c=TN:=by
 cases c with
 |true=>rfl
 |false=>exact h
theorem rL {c e:Type} {o b:Option c} {f d:c->e} (h:o.isSome=TN->d=f):(if o.isSome=TN then b else TW).map f=b.map d\/(if o.isSome=TN then b else TW).map f=TW:=by
 cases o with
 |none=>exact .inr TL
 |some a=>exact .inl (TQ (λf=>b.map f) (h TL).symm)
theorem Hh {wm:Nm->Option V} {R:V->List V->FG->Option (V×FG)} (k:∀p,kD p R (cy C n)) {st:a7} (h:JL wm R b st=TK r) (p:Pl):(∀a,(inst p r.2).fM a->(inst p st.g).fM a)/\sG (cy C n) wm b.s (aK p st) (CH (sub p r.1) (inst p r.2)):=by
 cases b with
 |plain s=>refine bO h λq f h=>bO h λv i h=>aM (if2 h) λc d=>?_;subst d;exact ⟨mh (ij c).1 (ij c).2,uT (k p) s _ q f _ (uW i (.refl _))⟩
 |iU l=>refine bO h λq f h=>bO h λv i h=>aM (if2 h) λc d=>?_;subst d;refine ⟨mh uY uY,uU k f p _ λm j=>?_⟩;exact ((bG v (aR c).1).trans (bG v (aR c).1).symm)▸uW i ⟨rL λe=>by exact aa (j.s e ..) TL,rL λe=>by exact aa ((j.w e).1 ..) (aa ((j.w e).2 ..) TL)⟩
theorem wY {C:Cx} {wm:Nm->Option V} {tab:T2->Nat->Option uV} {aE:Nat->Option E} (z:∀a m t,tab a m=TK t->a≠1/\a≠2/\uX C wm a t) (hL:∀j e,aE j=TK e->tH C wm j e):∀(n:Nat) (p:Pl),kD p (ag tab aE wm n) (cy C (n+2)):=by
 intro n;induction n with
 |zero=>exact λp f vs g r h=>aZ h
 |succ n w=>
  intro p f vs g r h;cases f with
  |ref a=>refine ac λb=>bO h λt ht d=>iO d λA i=>fE (z a _ t ht) λn1 B k=>NM k λR body ps ls fz lm ds fn o xH s=>aM (Hh w i p) λD x=>b ?_;clear b;have F:sub p (.ref a)=.ref a:=TQ V.ref ((TZ n1).trans (TZ B));rw [tG,g5,cB _ xH,←o] at x;exact aa (F ..) (qJ fn (s _ (Rr 2 n)) ((cz vs).trans A) D x)
  |lam j a=>refine ac λb=>iO h λc h=>bO h λe H h=>bO h λq J h=>aM (if2 h) λy u=>?_;subst u;refine aM (aR c) λc v=>aM (aR c) λc1 T=>b ?_;clear b;have c1:a=1:=TM c1;have v:vs=[]:=Td.mp v;subst c1 v;refine ac λb=>NH (hL j e H) λl L d i M N O P Q=>b ?_;clear b;exact oW L d i M N O P (Q _ (Rr 2 n)) (mh (ij y).1 (ij y).2) (ca (w p) e TO _ q J _ ⟨TL,.refl _⟩)
  |_=>exact aZ h
noncomputable abbrev pw:=PySem.Challenge.pw_or0074_01
noncomputable def Np (P:VF):BT:=(.node (boot_o_0 P) (.node (boot_o_1 P) (.node (boot_o_3 P) (.node (boot_o_7 P) .nil .nil) .nil) (.node (boot_o_5 P) (.node (boot_o_9 P) .nil .nil) .nil)) (.node (boot_o_2 P) (.node (boot_o_4 P) (.node (boot_o_8 P) .nil .nil) .nil) (.node (boot_o_6 P) (.node (boot_o_10 P) .nil .nil) .nil)))
noncomputable def Ov (w:Uv) (os:OsState):SharedT:=⟨Np w.params,11,{},#[],boot_drawn,boot_toks,os⟩
noncomputable def fnAt (i:Nat):Ub×List UJ×Um:=match pw.main.body[i]? with
 |some (.FunctionDef _ a b _ _ _ sc _ _ _)=>(a,b,sc)
 |_=>default
noncomputable def pe (i j:Nat):Ub×List UJ×Um:=match pw.main.body[i]? with
 |some (.ClassDef _ _ _ b _ _ _ _ _ _ _)=>(match b[j]? with
  |some (.FunctionDef _ a b _ _ _ sc _ _ _)=>(a,b,sc)
  |_=>default)
 |_=>default
noncomputable def Nq (f:Ub×List UJ×Um) (n q:Str) (d m c:TT):Obj:=⟨.type "function",TW,.func {name:=n,qualname:=q,params:=f.1,body:=.stmts f.2.1,scope:=f.2.2,globals:=3,closure:=[],defaults:=d,kwdefaults:=.none,doc:=.none,pyModule:=m,annotations:=TW,code:=c,closureTuple:=.none,builtins:=0},#[]⟩
noncomputable def Ow (n q:Str) (t:Nat) (ln b:Nat) (a:T2) (e f g:TT) (u:Nat):Obj:=⟨.type "code",TW,.fields #[.str n t,.str q (t+1),.str "/claim/cut.py" (t+2),.int ln 0,.int b 0,.int 0 0,.int 0 0,.int 3 0,.ref a,.bool TN,.int 181 0,.ref (a+1),.none,e,f,g,.int u 0,.int ln 0,.str "/claim/cut.py" (u+1)],#[]⟩
noncomputable def Ox (n:Str) (b m:List TT) (ns:T2) (q:Str):ClassData:={name:=n,bases:=b,mro:=m,ns:=ns,qualname:=q}
noncomputable def JN (i:Nat):List UJ:=match pw.main.body[i]? with
 |some (.ClassDef _ _ _ b _ _ _ _ _ _ _)=>b
 |_=>[]
noncomputable def DI:UJ->Str×(Ub×List UJ×Um)×Nat
 |.FunctionDef n a b _ _ _ sc _ _ p=>(n,(a,b,sc),p.line)
 |_=>default
noncomputable def Hi (l:List TT):Obj:=⟨.type "tuple",TW,.seq l.toArray 0,#[]⟩
noncomputable def KU (w:Nat):Bool:=Sz (w %20) 0&&!Sz w 60
noncomputable def Oy (w:Nat):Nat:=match w/20 with
 |1=>1
 |2=>1
 |_=>0
noncomputable def DJ (a w:Nat):Nat:=a+Oy w+(bif KU w then 4 else 6)
noncomputable def uZ:List UJ->Nat->Nat->List Nat->List (Nat×Nat×Nat×UJ)
 |s::r,a,t,w::b=>(a,t,w,s)::uZ r (DJ a w+1) (t+w %20+6+(bif Sz (w/20) 2 then 1 else 0)) b
 |_,_,_,_=>[]
noncomputable def Md (m:TT) (a t w:Nat) (d:TT) (s:Str×(Ub×List UJ×Um)×Nat) (q:Str) (e:Bool):Vq:=
 let c:=a+(bif e then 3 else 5)
 [(c,Ow s.1 q t s.2.2 s.2.1.1.args.length a (bif e then .none else .ref (a+2)) (bif e then .none else .ref (a+3)) (.ref (a+(bif e then 2 else 4))) (t+w+3)),(c+1,Nq s.2.1 s.1 q d m (.ref c))]
noncomputable def Me (q:Str) (m:TT):Nat×Nat×Nat×UJ->Vq
 |(a,t,w,s)=>match w/20 with
  |1=>(a,Hi [.bool TO])::Md m (a+1) t (w %20) (.ref a) (DI s) (q++(DI s).1) (KU w)
  |2=>(a,Hi [.int 0 t])::Md m (a+1) (t+1) (w %20) (.ref a) (DI s) (q++(DI s).1) (KU w)
  |_=>Md m a t (w %20) .none (DI s) (q++(DI s).1) (KU w)
noncomputable def B0 (i a t:Nat) (b:List Nat):=uZ (pw.main.body.drop i) a t b
noncomputable def Nr:=uZ (JN 50) 281 582 [2,1]
noncomputable def Mf:=uZ (JN 60) 372 683 [43,2,1,2,3,1,1,3,4,1,1,2,1,1,3,2,4,1,3,1,1,1,3,0,43]
noncomputable def rM:TT:=.str "postkeep.wire" 552
noncomputable def JO:TT:=.str "law_or0074_01" 1218
noncomputable def Mg:List (TT×List (Nat×Nat×Nat×UJ)):=[(.str "__main__" 164,B0 0 15 187 [1]),(.str "postkeep.base64" 316,B0 9 110 318 [0,0,0,4,4,8]),(.str "postkeep.names" 370,B0 17 146 374 [1,1,7,3,5,3,7,5,6]),(.str "postkeep.octets" 466,B0 28 209 470 [1,0,0,0,0,0]),(.str "postkeep.sets" 507,B0 36 241 511 [4,5,1,1,0]),(rM,B0 51 302 606 [1,1,1,1,1,1,1,3,1]),(rM,B0 61 554 893 [0,3,22,22,20,40,7,5]),(.str "postkeep.answers" 961,B0 71 608 965 [0,1,3,1,0,0,0,4,0,0,1,3,2,1,1,1,1,1,2,0,0,2,2,2,2,0,5,4,5,0,3,4,4]),(JO,B0 105 819 1220 [60]),(JO,B0 109 829 1249 [4,2,0,0,0,7,11,10,9,0,0,0])]
noncomputable def JP (n:Str) (a t:Nat):Nat×Obj:=(a+1,⟨.type "type",TW,.cls (Ox n [.type "object"] [.ref (a+1),.type "object"] a n),#[TW,TW,TK (.str n t),TK (.str n (t+8)),TK (.builtin "object.__new__"),TK (.bool TN)]⟩)
noncomputable def tI (P:VF) (e:Str×Nat×TT):U8:=⟨SF P e.1,.str e.1 e.2.1,e.2.2⟩
noncomputable def JQ (P:VF) (a t ln v:Nat) (l:List (Nat×Nat×Nat×UJ)):Obj:=⟨.type "dict",TW,.dict (tI P ("__module__",t+7,rM)::tI P ("__firstlineno__",t+11,.int ln (t+10))::(l.map (λr=>tI P ((DI r.2.2.2).1,r.2.1+r.2.2.1 %20+(bif Sz (r.2.2.1/20) 2 then 6 else 5),.ref (DJ r.1 r.2.2.1)))++[tI P ("__static_attributes__",v,.ref (a-1)),tI P ("__dict__",v+2,.ref (a+2)),tI P ("__weakref__",v+4,.ref (a+3)),tI P ("__doc__",v+5,.none)])).toArray 4,#[]⟩
noncomputable def Hj (a:T2) (t:Nat) (l:List Str):Nat×Obj:=(a,Hi (l.zipIdx.map λp=>.str p.1 (t+p.2)))
noncomputable def K1:Vq:=Mg.flatMap (λg=>g.2.flatMap (Me "" g.1))++Nr.flatMap (Me "Atom." rM)++Mf.flatMap (Me "Wire." rM)++[JP "Atom" 296 570,JP "Wire" 548 671,Hj 826 1226 ["","done","a {3} b","x] y","5","* OK","\"q\" \\"],Hj 827 1234 ["\\Seen","\\*","$Mine","12","NIL","a.b+c"],Hj 828 1241 ["FLAGS","UID","RFC822.SIZE","BODY[HEADER.FIELDS (A \"x]y\")]<0>","BODY[1.2]","BODYSTRUCTURE","BODY[]"]]
noncomputable def Kw (P:VF):Vq:=(296,JQ P 296 570 237 598 Nr)::(548,JQ P 548 671 267 885 Mf)::K1
noncomputable def DK:List T2:=296::548::K1.map (·.1)
noncomputable def xI:List (Str×TT):=Mg.flatMap (λg=>g.2.map λr=>((DI r.2.2.2).1,Sl (DJ r.1 r.2.2.1)))++([("SHIFT_SIGNS",.bytes #[65,66,67,68,69,70,71,72,73,74,75,76,77,78,79,80,81,82,83,84,85,86,87,88,89,90,97,98,99,100,101,102,103,104,105,106,107,108,109,110,111,112,113,114,115,116,117,118,119,120,121,122,48,49,50,51,52,53,54,55,56,57,43,44] 372),("CRLF",.bytes #[13,10] 468),("MOST",.int 4294967295 509),("QUOTE",.int 34 554),("BACKSLASH",.int 92 556),("MOST_DEPTH",.int 30 558),("MOST_FIGURES",.int 19 560),("MOST_COUNT_FIGURES",.int 10 562),("MOST_QUOTED",.int 72 564),("SPECIALS",.bytes #[40,41,123,37,42,34,92,93] 566),("VALUE_SPECIALS",.bytes #[40,41,123,34,93] 568),("Atom",.ref 297),("Wire",.ref 549),("STATES",.str "OK NO BAD BYE PREAUTH" 963),("_law_TEXTS",.ref 826),("_law_WORDS",.ref 827),("_law_ITEMS",.ref 828)]:List (Str×TT))
noncomputable def mj:List Str:=["len","ord","chr","isinstance","min","max","all","range","bytes","bytearray","str","tuple","int","dict","enumerate","list"]
noncomputable def g7:List T2:=[723,780,787]
noncomputable def KV:List Str:=((xI.map (·.1)).filter λx=>x !=("law":Str))++(["PostError","WordFault","MimeFault","NameFault","SetFault","WireFault"]:List Str)
noncomputable def qv:U7:={pw with main:={pw.main with body:=pw.main.body.drop 120}}
theorem u0 (t:Thread):(endAt 0 t).isSome=through t:=by
 obtain ⟨c,d,p,st⟩:=t;cases st with
 |nil=>cases c with
  |pure f=>cases f<;>rfl
  |_=>rfl
 |cons a l=>rfl
theorem mn (h:endAt 0 t=TK f):through t=TN:=(u0 t).symm.trans (TQ Se h)
theorem mo (h:through t=TN):∃f,endAt 0 t=TK f:=PQ.mp ((u0 t).trans h)
theorem nq:∀{n:Nat} {s s':TP} {t:Thread} {f:Va} {c:Code} {q:Pos},segRun i p w a ann 0 n s t=TK (f,s',c,q)->topRun i p w a ann n s t=TK s':=by
 intro l;induction l with
 |zero=>intro r u v x y z h;cases h
 |succ n m=>
  intro s s' t f c q h;unfold segRun at h;unfold topRun;cases d:endAt 0 t with
  |some g=>rw [d] at h;refine aa (mn d ..) ?_;cases h;rfl
  |none=>
   rw [d] at h;have ht:through t=TO:=by
    cases ht:through t with
    |false=>rfl
    |true=>obtain ⟨f,e⟩:=mo ht;rw [d] at e;cases e
   refine aa (ht ..) ?_;cases j:stepOk a ann t with
   |false=>rw [j] at h;cases h
   |true=>
    rw [j] at h;cases hs:step (denote i) p w s t with
    |halt o b=>rw [hs] at h;cases h
    |go b k=>rw [hs] at h;exact m h
theorem DL {i:Type} {j:TP->i} {l:Uv->i} {B:VF->BT} (m:M<=N) (b:∀w:Uv,(fencedOpening U9 p w N).map (λs=>(s.heap,s.gens,s.drawn,s.toks))=TK (boot_heap w.params,#[],boot_drawn,boot_toks)) (size:∀w:Uv,absHeap (B w.params) 11 {}=boot_heap w.params/\((boot_heap w.params).isNs T5&&TN)=TN/\(boot_heap w.params).objs.size=11/\(boot_heap w.params).nsMap T5 "__annotations__"=ann) (run:∀(w:Uv) (os:OsState),∃s':SharedT,(∃f c q,segRunT U9 p w 11 ann 0 M ⟨B w.params,11,{},#[],boot_drawn,boot_toks,os⟩ (topStub p)=TK (f,s',c,q))/\ (staticsOk (UO p.main.body) (boot_heap w.params) s'.abs.heap&&namesBound p s'.abs.heap&&gensDone s'.abs&&laidKept (boot_heap w.params) s'.abs.heap)=TN/\openSeen q a (UO p.main.body) n TN s'.abs=openGood q a/\j s'.abs=l w):
  LeftO p q a n j l N:=λw=>by
 refine mO (b w) λg e o=>?_;obtain ⟨h,u,d,k,os⟩:=g;obtain ⟨rfl,rfl,rfl,rfl⟩:h=boot_heap w.params/\u=#[]/\d=boot_drawn/\k=boot_toks:=by simpa using o
 refine FJ (size w) λv x y z=>ub (run w os) λs' g A C D=>KA g λf c q hr=>?_;have r:=topRun_mono (N-M) _ _ _ _ (nq (segRun_of hr));rw [show M+(N-M)=N by exact Nat.add_sub_cancel' m] at r;have t:topFrom U9 p w N ⟨boot_heap w.params,#[],boot_drawn,boot_toks,os⟩=TK s'.abs:=by unfold topFrom;refine aa (x ..) (aa (y ..) (aa (z ..) ?_));refine aa ((by refine bx (v ..) ?_;exact r:topRun U9 p w 11 ann N ⟨boot_heap w.params,#[],boot_drawn,boot_toks,os⟩ (topStub p)=TK s'.abs) ..) ?_;show (match staticsOk (UO p.main.body) (boot_heap w.params) s'.abs.heap&&namesBound p s'.abs.heap&&gensDone s'.abs&&laidKept (boot_heap w.params) s'.abs.heap with|true=>_|false=>_)=_;exact aa (A ..) TL
 unfold openEnds;refine aa (e ..) ?_;show (topFrom U9 p w N _).map _=_;exact aa (t ..) (TQ TK (TJ C D))
theorem Mh (w:Uv) (os:OsState):(segRunT U9 pw w 11 (TK (.ref 6)) 0 6000 (Ov w os) (topStub pw)).map (λr=>(staticsOk (UO pw.main.body) (boot_heap w.params) r.2.1.abs.heap&&namesBound pw r.2.1.abs.heap&&gensDone r.2.1.abs&&laidKept (boot_heap w.params) r.2.1.abs.heap,openSeen qv KV (UO pw.main.body) (λ_=>TN) TN r.2.1.abs,r.2.1.n,DK.map r.2.1.tree.get,g7.map r.2.1.tree.get,r.2.1.abs.heap.isNs T5,xI.map λp=>r.2.1.abs.heap.nsMap T5 p.1,mj.map λx=>r.2.1.abs.heap.nsMap T5 x))=TK (TN,openGood qv KV,901,(Kw w.params).map λp=>TK p.2,g7.map λ_=>TK (tabObj #[]),TN,xI.map λp=>TK p.2,mj.map λ_=>TW):=by rw [PySem.W.Fast.te10110043849684766642,PySem.W.Fast.te14364793385576792824,PySem.W.Fast.te4187177175401517315,PySem.W.Fast.te5923862056798008813,PySem.W.Fast.te8920871248978507458];kernel_rfl
section
open PySem.W.Fast in
theorem Mi:Rq.wellSaid=TN:=by
 delta OpenLaw.wellSaid OpenRow.wellSaid OpenRow.partSaid looksOpen
 repeat' (with_reducible refine look_both ?_ ?_)
 all_goals (try rw [te8377067652309620493])
 all_goals (try rw [te8326940854005059898])
 all_goals (try rw [te5923862056798008813])
 all_goals (try rw [te13343964577679436407])
 all_goals (try rw [te17119622794617984870])
 all_goals (try rw [te17868728402115742887])
 all_goals (try rw [te18344453789297297638])
 all_goals (try rw [te8179353310426384613])
 all_goals (try rw [te797321630700447069])
 all_goals (try rw [te9572597257264208301])
 all_goals (try rw [te9558739934217749035])
 all_goals (try rw [te16286561074155671207])
 all_goals (try rw [te6984425678791042302])
 all_goals (try rw [te10792542408131684335])
 all_goals (try rw [te10501279942588096481])
 all_goals (try rw [named_eq])
 all_goals (as_aux_lemma=>kernel_rfl)
end
theorem pf {K:Vq}:∀{as:List T2},as=K.map (·.1)->as.map h.get?=K.map (λp=>TK p.2)->K.In h:=λa b=>Frag.in_of a b
noncomputable def Hk:Hook where
 α:=List (Option Obj)×List (Option Obj)×Bool×List (Option TT)×List (Option TT)
 obs s:=(DK.map s.heap.get?,g7.map s.heap.get?,s.heap.isNs T5,xI.map λp=>s.heap.nsMap T5 p.1,mj.map λx=>s.heap.nsMap T5 x)
 val w:=((Kw w.params).map λp=>TK p.2,g7.map λ_=>TK (tabObj #[]),TN,xI.map λp=>TK p.2,mj.map λ_=>TW)
 says w h:=(Kw w.params).In h/\(∀P∈g7,h.get? P=TK (tabObj #[]))/\∃mg,h.Ns T5 mg/\(∀p∈xI,mg p.1=TK p.2)/\∀x∈mj,mg x=TW
 of:=λw s e=>by
  simp only [Prod.mk.injEq] at e;refine ou e λc d f g i=>(dQ (pf (as:=DK) (by kernel_rfl) c) (QJ.mp d) (eK _ (.of_isNs f) ?_ ?_))
  ·exact λp m=>QJ.mp g p m
  ·exact λx m=>QJ.mp i x m
 keeps:=λw h h' x k=>(dQ (x.1.keeps k) (λP m=>k _ _ (x.2.1 P m)) (let ⟨mg,a,b⟩:=x.2.2;(i12 mg (a.keeps k) b)))
theorem kas_lt:∀a∈DK,a<901:=by
 have:DK.all (λa=>decide (a<901))=TN:=by kernel_rfl
 exact λa m=>TM (Pa.mp this a m)
theorem Hl:∀a∈g7,a<901:=by decide
theorem DM (P:VF):((Kw P).map λp=>alive p.2)=(Kw P).map λp=>TK p.2:=by kernel_rfl
theorem u1 {as:List T2} {os:List Obj} (lt:∀a∈as,a<n) (h:as.map t.get=os.map TK) (b:os.map alive=os.map TK):as.map (absHeap t n life).get?=os.map TK:=by
 induction as generalizing os with
 |nil=>cases os with
  |nil=>rfl
  |cons o r=>cases h
 |cons a r c=>cases os with
  |nil=>cases h
  |cons o q=>simp only [Qe,List.cons.injEq] at h b⊢;refine ⟨?_,c (λx m=>lt x (.tail _ m)) h.2 b.2⟩;exact aa (abs_get (lt a (.head _)) h.1 ..) (aa (b.1 ..) TL)
theorem wZ (w:Uv):(fencedOpening U9 pw w 6000).map (λs=>(s.heap,s.gens,s.drawn,s.toks))=TK (boot_heap w.params,#[],boot_drawn,boot_toks):=boot_open (by kernel_rfl) (by decide) (λs=>by kernel_rfl) w
theorem Fe:LeftO pw qv KV (λ_=>TN) Hk.obs Hk.val 6000:=by
 refine DL (B:=Np) (ann:=TK (.ref 6)) (Px _) wZ (λw=>(B1 (by kernel_rfl) (by kernel_rfl) (by kernel_rfl) (by kernel_rfl))) λw os=>?_;obtain ⟨⟨f,s',c,q⟩,hr,e⟩:=Qi.mp (Mh w os);simp only [Prod.mk.injEq] at e;refine MU e λb d a g h i j k=>(FL s' (K5 f c q hr) b d ?_);show (_,_,_,_,_)=(_,_,_,_,_);have l:DK.map s'.abs.heap.get?=(Kw w.params).map λp=>TK p.2:=by have:=u1 (n:=s'.n) (life:=s'.life) (by rw [a];exact kas_lt) (by rw [Po];exact g) (by rw [Po,Po];exact DM _);rw [Po] at this;exact this
 have m:g7.map s'.abs.heap.get?=g7.map λ_=>TK (tabObj #[]):=by have:=u1 (os:=g7.map λ_=>tabObj #[]) (n:=s'.n) (life:=s'.life) (by rw [a];exact Hl) (by rw [Po];exact h) (by rw [Po,Po];rfl);rw [Po] at this;exact this
 refine aa (l ..) (aa (m ..) ?_);exact TJ TL (TJ TL (TJ i (TJ j k)))
noncomputable def posAt (i:Nat):Pos:=match pw.main.body[i]? with
 |some (.FunctionDef _ _ _ _ _ _ _ _ _ p)=>p
 |_=>default
noncomputable def w0:DefRec:={name:="law",params:=(fnAt 120).1,body:=(fnAt 120).2.1,scope:=(fnAt 120).2.2,pos:=posAt 120}
noncomputable abbrev iv:OpenRow:=Rq.row
section
open PySem (wpAny codeAny)
noncomputable def kX:Ctx:=⟨.builtin "claim.caller" {},TW,TW,[],TW⟩
theorem pg:Clean kX:=⟨by decide+kernel,λ_ m=>nomatch m⟩
theorem Ao {prog:U7} {w:Uv} {t:Sem Fin} {s:TP} {R:UM->TP->Prop} (a:s.asleep) (h:aC (model prog w) callerA t (λfin s'=>∃f,fin=.done f/\(R (.ok f) s'/\Vw s'.gens=TO)) cS s):∃n r s' b,runN (denote table) prog w n s ⟨t,.builtin "claim.caller" {},default,[]⟩=.halted (outcomeOf r) s'/\ schedN (denote table) prog w n (.single s ⟨t,.builtin "claim.caller" {},default,[]⟩)=.halted (outcomeOf r) s'/\s'.forget=b.forget/\R r b:=by
 have h':Sem.wp (model prog w) kX t (Sem.finPost (model prog w) kX λr s'=>R r s'/\Vw s'.gens=TO) (λe _ s'=>R (.error e) s'/\Vw s'.gens=TO) default s:=by refine Qo _ _ t (λfin l s' x=>?_) (λ_ _ _ x=>x.elim) default s (h kX default caller_in pg);refine aT x λf g j=>?_;subst g;exact j
 refine FK (wp_halts_full (M:=model prog w) (R:=R) a h') λn r c d hs hn i k=>?_;exact ⟨n,r,d,c,hn,hs,i,k⟩
noncomputable def u2:Prop:=∀(w:Uv) (b a:TP) (mg mb:Str->Option TT),Ground qv KV [] (λ_ _=>True) w b mg mb a.heap->Hk.says w a.heap->a.gens=#[]-> ∀(ord:List U8->List U8) (args:List WData) (c:List TT),iv.claim.pre args=TN->layAllW [] (classAt b.heap) w.params ord args b=TK (c,a)-> aC (model pw w) callerA (PySem.call (.ref 900) c) (λv s'=>GoodWG iv.claim (classAt b.heap) (ExcName.means b.heap) args a (.ok (.ret v)) s') cS a
theorem Hm {w:Uv} {h:Ut} {mg:Str->Option TT} (Y:Hk.says w h) (g:h.Ns T5 mg):mg "law"=TK (.ref 900):=by
 refine fE Y λa a b=>ix b λm hm e a=>?_;have:m=mg:=by refine xM hm λo es l g1 d a f=>?_;refine xM g λn i j g2 c a k=>?_;rw [g1] at g2;cases g2;rw [d] at c;cases c;funext z;exact bx (f z ..) (bx (k z ..) TL)
 subst this;exact e _ (RA (show xI[89]?=_ by kernel_rfl):((O6 "law",Sl 900):Str×TT)∈xI)
theorem Mj (walk:u2):Rq.Holds:=by
 refine holds_law Mi λk1=>(dQ k1 (i12 [.list [.int 3]] (by kernel_rfl) (by kernel_rfl)) ?_);have F:chainsOk qv=TN:=by kernel_rfl
 refine (dQ (dQ ((K3 (by kernel_rfl) (by kernel_rfl) (by kernel_rfl) (by kernel_rfl) (by kernel_rfl) (by kernel_rfl)):pw.bare) (by kernel_rfl:opensWell pw=TN) (by kernel_rfl)) (i12 [.list [.int 3]] (by kernel_rfl) (by kernel_rfl)) (λw=>⟨(Fe.behind (XP:=λ_ _=>True) (λ_ _=>trivial) F w).1,λs' X=>?_⟩));refine ac λH=>?_;refine ix ((Fe.behind (XP:=λ_ _=>True) (λ_ _=>trivial) F w).2 s' X) λJ hf Y Z=>NG Z λs hT hz j hg G y=>?_;refine H ?_;clear H;have O4:=hT;have M:∀n∈[iv.name],isTheDefsW pw s.heap n:=λn hn=>by obtain rfl:n=iv.name:=Pv.mp hn;exact pinned_of_view hg G (by kernel_rfl:defOf qv iv.name=TK (w0,[])) (by kernel_rfl:pw.theDef iv.name=TK (w0.params,w0.body,w0.scope)) (by kernel_rfl:kwWritten? w0.params.kwonlyargs w0.params.kw_defaults=TK [])
 refine ⟨J,hf,Y,s,hT,M,λx m=>(nomatch m),λx m=>(nomatch m),?_⟩;have j:s.gens=#[]:=Array.eq_empty_of_size_eq_zero (beq_iff_eq.mp j);intro args B N ord C;refine ac λH=>?_;obtain ⟨⟨vs,d⟩,a⟩:=PQ.mp (layAllW_isSome (P:=w.params) (ord:=ord) G.has args iv.args s (pre_splitW B).1);have keeps:=layAllW_keeps _ _ _ a;have u:=layAllW_rest _ _ _ a;refine ix (reads_layAllW C _ _ _ a N d.heap (λ_ _ e=>e)) λas Oz OA O=>?_;have L:Laid [] w s d args vs as:=⟨⟨ord,C,a⟩,Oz,OA,O,keeps,u.1.trans j,u.2.2.1⟩;have t:=G.keeps (λ_ _ _ _ _=>trivial) keeps;have D:=Hk.keeps w _ _ (Hk.of w s y:Hk.says w s.heap) keeps;have h:=walk w s d _ _ t D L.gens ord args vs B a;have tree:∀{Q:Fin->TP->Prop},aC (model pw w) callerA (PySem.call (.ref 900) vs) (λv s'=>Q (.done (.ret v)) s') cS d->aC (model pw w) callerA (do match ←nsGet mainNs iv.name with
   |some f=>do ret (←PySem.call f vs)
   |none=>unsupported "claim.caller:no-such-global":Sem Fin) Q cS d:=λ{Q} h=>
  ab (up (wpAny_nsGet t.T.g (by
   refine aa (show s.heap.nsMap T5 iv.name=TK (.ref 900) from Hm D t.T.g) ?_;exact ab (ar h (λ_ _ x=>af x) λ_ _ x=>x))))
 obtain ⟨k,r,sf,sg,U,A,OB,l,W⟩:=Ao (R:=λr s'=>iv.claim.Ends s args vs d r s'/\s'.os=s.os) (Shared.asleep_of_life u.2.2.2 hz)
  (tree (ar h (λv s' g=>⟨_,TL,by
   have z:=g.laid (c:=iv.claim) TL TL (ident_freeW (r:=iv.toRowW) (by kernel_rfl) (by kernel_rfl) (by kernel_rfl)) L;exact ⟨⟨z.1,z.2.1⟩,leftWithCleanup_false_of_bare z.2.2⟩⟩) λ_ _ x=>x))
 refine ou (Shared.forget_eq OB) λeh z9 z9 eo z9=>?_;refine H ?_;clear H;have l:=l.congr eh;rw [←eo] at W;refine ⟨vs,d,a,k,_,sf,A,?_,(λ_ i x hx=>by rw [j] at hx;simp at hx),(λq=>TU q (by decide)),by exact aa (((runN_life _ _ _ U).trans u.2.2.2:sf.heap.life=s.heap.life) ..) TL,Shared.rest_eq W⟩;rcases l with ⟨v,rfl,d1,d2,d3,d4,d5⟩|⟨e,ob,cls,rfl,d1,d2,d3,d4,d5⟩
 ·exact .inl ⟨v,TL,d1,d2,d3,λb o y _=>d4 b o y,d5⟩
 ·exact .inr ⟨e,ob,cls,TL,d1,d2,d3,d4,λb o y _=>d5 b o y⟩
end
noncomputable abbrev LC:Type:=(Str×Pos)×(Str×Pos)×(Str×Pos)×(Str×Nat×Pos)×Pos⊕(Str×Pos)×(Str×Pos)×Pos
noncomputable def noArgs:Ub:=⟨[],[],TW,[],[],TW,[]⟩
noncomputable def bodyOf (c:LC):T3:=c.elim (λq=>.Call (.Attribute (.Name q.1.1 q.1.2) q.2.1.1 q.2.1.2) [.Name q.2.2.1.1 q.2.2.1.2,.Constant (.str q.2.2.2.1.1) q.2.2.2.1.2.1 q.2.2.2.1.2.2] [] q.2.2.2.2) λq=>.Call (.Name q.1.1 q.1.2) [.Name q.2.1.1 q.2.1.2] [] q.2.2
noncomputable def w1 {a:Type}:(l:List a)->Option {u:Unit//l=[]}
 |[]=>TK ⟨(),TL⟩
 |_=>TW
noncomputable def Nt {a:Type}:(l:Option a)->Option {u:Unit//l=TW}
 |none=>TK ⟨(),TL⟩
 |_=>TW
noncomputable def JR:(a:Ub)->Option {u:Unit//a=noArgs}
 |⟨a,b,c,d,e,f,g⟩=>sb (w1 a) λ_ h=>sb (w1 b) λ_ i=>sb (Nt c) λ_ j=>sb (w1 d) λ_ k=>sb (w1 e) λ_ l=>sb (Nt f) λ_ m=>sb (w1 g) λ_ n=>TK ⟨(),by subst h i j k l m n;rfl⟩
noncomputable def Ap:(e:T3)->Option {q:Str×Pos//e=.Name q.1 q.2}
 |.Name x p=>TK ⟨(x,p),TL⟩
 |_=>TW
noncomputable def Mk:(c:Const)->Option {s:Str//c=.str s}
 |.str s=>TK ⟨s,TL⟩
 |_=>TW
noncomputable def Ml:(e:T3)->Option {q:Str×Nat×Pos//e=.Constant (.str q.1) q.2.1 q.2.2}
 |.Constant c k p=>sb (Mk c) λs h=>TK ⟨(s,k,p),h▸TL⟩
 |_=>TW
noncomputable def Mm:(l:List T3)->Option {e:T3//l=[e]}
 |[e]=>TK ⟨e,TL⟩
 |_=>TW
noncomputable def Mn:(l:List T3)->Option {q:T3×T3//l=[q.1,q.2]}
 |[a,b]=>TK ⟨(a,b),TL⟩
 |_=>TW
noncomputable def JS (as:List T3) (p:Pos):(f:T3)->Option {c:LC//.Call f as [] p=bodyOf c}
 |.Name f d=>sb (Mm as) λe h=>sb (Ap e) λx b=>TK ⟨.inr ((f,d),x,p),by subst h b;rfl⟩
 |.Attribute o a i=>sb (Ap o) λx b=>sb (Mn as) λu j=>sb (Ap u.1) λg hg=>sb (Ml u.2) λs hs=>TK ⟨.inl (x,(a,i),g,s,p),by
   obtain ⟨k,l⟩:=u;dsimp only at hg hs;subst b j hg hs;rfl⟩
 |_=>TW
noncomputable def Ff:(e:T3)->Option {c:LC//e=bodyOf c}
 |.Call f as a p=>sb (w1 a) λ_ h=>sb (JS as p f) λc b=>TK ⟨c,h▸b⟩
 |_=>TW
noncomputable def Aq:Nat->T3->Option (T3×Um×Pos)
 |n+1,.Lambda _ b sc p=>TK (b,sc,p)
 |n+1,.Call _ as _ _=>as.findSome? (Aq n)
 |n+1,.Tuple es _ _=>es.findSome? (Aq n)
 |_,_=>TW
noncomputable def findS:Nat->UJ->Option (T3×Um×Pos)
 |n+1,.Return (some e) _=>Aq n e
 |n+1,.If _ a b _=>(a++b).findSome? (findS n)
 |_,_=>TW
noncomputable def keyOf (j:Nat):Option (LC×Um×Pos):=((fnAt (([89,98,99]).getD j 0)).2.1.findSome? (findS 9)).bind λq=>sb (Ff q.1) λc _=>TK (c,q.2.1,q.2.2)
noncomputable def bq (j:Nat):vJ:=
 let k:=(keyOf j).getD (.inr default,default,default)
 ⟨([723,780,787]).getD j 0,k.2.2.line,k.2.2.col,O6 ((["atoms.<locals>.<lambda>","numbered_here.<locals>.<lambda>","box_here.<locals>.<lambda>"]).getD j ""),noArgs,bodyOf k.1,k.2.1,([727,784,791]).getD j 0⟩
noncomputable def g8:List vJ:=(PN 3).map bq
theorem Ar (h:g8[j]?=TK l):j<3/\l=bq j:=by unfold g8 at h;rw [PM] at h;refine mO h λi c a=>?_;subst a;refine cR (PP.mp c) λd b=>?_;rw [List.getElem_range] at b;exact ⟨RM d QH,b▸TL⟩
theorem tJ:∀names acc,fu env names acc=fu env (names.filter (·.2==.free)) acc:=by
 intro c;induction c with
 |nil=>intro d;exact TL
 |cons x0 r b=>
  intro acc;obtain ⟨x,k⟩:=x0;by_cases e:(k==.free)=TN
  ·exact aa (RS (a:=(x,k)) e ..) (b _)
  ·refine aa (S6 (a:=(x,k)) e ..) ?_;show fu env r (if (k==.free)=TN then _ else acc)=_;exact aa (TZ e ..) (b _)
theorem rN (h:sc.names.filter (·.2==.free)=[(x,.free)]) (env:Env) (c:T2) (b:env.cells.lookup x=TK c):VD sc env=pure [(x,c)]:=by
 refine (iA λz m=>?_).trans ?_
 ·have:(z,Qn)∈sc.names.filter (·.2==.free):=Sh.mpr ⟨m,TL⟩;rw [h] at this;refine aM (PB (Pv.mp this)) λa d=>?_;subst a;refine aa (b ..) ?_;rfl
 ·refine aa (tJ ..) (aa (h ..) ?_);show pure [(x,(env.cells.lookup x).getD 0)]=_;refine aa (b ..) ?_;rfl
set_option synthInstance.maxSize 4000 in
noncomputable def DN {C:Cx} {wm:Nm->Option V} {n:Nat} (g:C.tabs=g8) (L:oV C):oS C wm n:=λf a b sc p=>wh f.lm λj h=>wh (seek f.vars (O6 "wire")) λi k=>sb (JR a) λ_ ha=>sb (Ff b) λc m=>gd (decide (keyOf j=TK (c,sc,p))) λo=>gd (decide (sc.names.filter (·.2==.free)=[(O6 "wire",.free)])) λq=>TK ⟨(j,i),GF L h k (λl e=>by
   refine aM (Ar (g▸e)) λr d=>?_;subst d;unfold bq;refine aa ((TM o) ..) ?_;exact (BY ha.symm m.symm TL TL TL)) (λenv=>by refine aa (ha ..) ?_;rfl) (rN (TM q))⟩
noncomputable def Mo:Data->Option U1
 |.func a=>TK a
 |_=>TW
noncomputable def JT:Data->Option (Array TT)
 |.fields vs=>TK vs
 |_=>TW
theorem DO (h:JT d=TK vs):d=.fields vs:=by cases d<;>first|exact TQ Data.fields (le h)|exact aZ h
noncomputable def JU:TT->Option Str
 |.str q _=>TK q
 |_=>TW
theorem DP (h:JU v=TK q):∃t,v=.str q t:=by cases v<;>first|exact ⟨_,TQ (Value.str · _) (le h)⟩|exact aZ h
noncomputable def Mp:TT->T2
 |.ref a=>a
 |_=>0
noncomputable def fdOf (K:Vq) (a:T2):U1:=((K.lookup a).bind λo=>Mo o.data).getD default
noncomputable def As (K:Vq) (a:T2):T2:=Mp (fdOf K a).code
noncomputable def nameOf (o:Option Obj):Option Str:=o.bind λo=>(JT o.data).bind λvs=>(vs[1]?).bind JU
theorem w2 (h:nameOf o=TK q):∃a vs t,o=TK a/\a.data=.fields vs/\vs[1]?=TK (.str q t):=by refine ac λc=>bO h λa ho h=>bO h λvs d h=>bO h λv e h=>cR (DP h) λt b=>?_;subst b;refine c ?_;exact (MY a vs t ho (DO d) e)
noncomputable def jy (f:Ub×List UJ×Um):List Str:=f.1.args.map (·.arg)
noncomputable def rO (f:Ub×List UJ×Um):List Str:=(f.2.2.names.filter λp=>(p.2==.local||p.2==.cell)&&!(jy f).contains p.1).map (·.1)
noncomputable def Fg (names:List (Str×Uj)) (ts:List Str):Bool:=(ts.all λx=>decide (seek names x=TK .local)||decide (seek names x=TK .cell))&&((numbered 0 ts).all λp=>decide (p.2<ts.length)&&decide (ts[p.2]?=TK p.1)&&!(p.1==("__classdict__")))&&decide ((numbered 0 ts).map (·.1)).Nodup&&decide ((numbered 0 ts).map (·.2)).Nodup
theorem Au (h:Fg names ts=TN):sR names ts:=by refine aM (aR h) λh d=>aM (aR h) λh e=>aM (aR h) λf g=>⟨λx m=>(Q3.mp (Pa.mp f x m)).imp TM TM,λp m=>?_,TM e,TM d⟩;exact aM (aR (Pa.mp g p m)) λh c=>aM (aR h) λa b=>(dQ (TM a) (TM b) (bf c))
noncomputable def Mq (K:Vq) (a:T2) (f:Ub×List UJ×Um) (k b:Nat):Bool:=keepIn K (.ref a)&&!f.2.2.isCoroutine&&!f.2.2.isGenerator&&decide (f.2.2.kind=.function)&&decide ((jy f).length=k+b)&&decide ((f.2.2.names.map (·.1)).Nodup)&&decide (jy f).Nodup&&Fg f.2.2.names (jy f++rO f)&&decide (nameOf (K.lookup (As K a))=TK (fdOf K a).qualname)
noncomputable abbrev Av (K:Vq) (a:T2) (f:Ub×List UJ×Um):Obj:=Nq f (fdOf K a).name (fdOf K a).qualname (fdOf K a).defaults (fdOf K a).pyModule (.ref (As K a))
theorem JV {K:Vq} (h:K.lookup a=TK o) (hd:o.data=.func b):fdOf K a=b:=by unfold fdOf;refine aa (h ..) (aa (QT ..) (aa (hd ..) ?_));rfl
noncomputable abbrev DQ (lm:Option Nat):List Str:=if lm.isSome then [O6 "wire"] else []
theorem Aw {C:Cx} {a:T2} {f:Ub×List UJ×Um} {k:Nat} {ds:List TT} {gG:List V} {lm:Option Nat} (d:C.K.lookup a=TK (Av C.K a f)) (c:Mq C.K a f k ds.length=TN) (m:∀vs:List TT,vs.length=k->∀S,peek C.K S (Vc (fdOf C.K a) ⟨vs,[]⟩)=TK ((jy f).zip (vs++ds))) (hd:∀X h,aP C X h ds gG) (n:∀j,lm=TK j->(O6 "wire",QV)∈f.2.2.names/\∃l,C.tabs[j]?=TK l/\(fdOf C.K a).code=.ref l.cd/\((fdOf C.K a).qualname++".<locals>.")++"<lambda>"=l.q):(fdOf C.K a).scope=f.2.2/\oU C a (fdOf C.K a) f.2.1 (jy f) (rO f) (DQ lm) lm k ds gG:=by
 refine ac λg=>aM (aR c) λc o=>aM (aR c) λc r=>aM (aR c) λc s=>aM (aR c) λc u=>aM (aR c) λc v=>aM (aR c) λc w=>aM (aR c) λc x=>aM (aR c) λy z=>H9 (w2 (TM o)) λA vs t B D F=>g ?_;clear g;have e:=JV d TL;have hs:(fdOf C.K a).scope=f.2.2:=e▸TL;refine ⟨hs,(i12 _ d ((TQ Data.func e).symm)),y,e▸TL,e▸TL,e▸TL,e▸TL,?_,?_,?_,(KC _ A vs t (e▸TL) B D F),m,TM v,?_,TM s,?_,hd,λj i=>?_⟩
 ·refine aa (hs ..) ?_;exact bf z
 ·refine aa (hs ..) ?_;exact bf x
 ·refine aa (hs ..) ?_;exact TM w
 ·refine aa (hs ..) ?_;exact TM u
 ·refine aa (hs ..) ?_;exact Au r
 ·refine aM (n j i) λa b=>?_;subst i;exact (dQ (.head _) (hs▸a) b)
theorem Hn (lm:Option Nat) (d:C.K.lookup a=TK (Av C.K a f)) (c:(Mq C.K a f k ds.length,(rO f).length)=(TN,pd)) (e:∀vs:List TT,vs.length=k->∀S,peek C.K S (Vc (fdOf C.K a) ⟨vs,[]⟩)=TK ((jy f).zip (vs++ds))) (g:∀n,2<=n->SS C wm (v8 C.glob f.2.2.names (jy f) (rO f) (DQ lm) lm) n (execs f.2.1) b.s) (hd:∀X h,aP C X h ds gG) (i:aV gG=TN) (m:∀j,lm=TK j->(O6 "wire",QV)∈f.2.2.names/\∃l,C.tabs[j]?=TK l/\(fdOf C.K a).code=.ref l.cd/\((fdOf C.K a).qualname++".<locals>.")++"<lambda>"=l.q):uX C wm a ⟨k,gG,pd,b⟩:=by exact aM (PB c) λc o=>aM (Aw d c e hd m) λhs r=>(NU (fdOf C.K a) f.2.1 (jy f) (rO f) (DQ lm) lm ds r o i (hs▸g))
theorem len0 {F:List TT->Prop} (h:F []):∀vs,vs.length=0->F vs:=λvs e=>QR e▸h
theorem DR {F:List TT->Prop} (h:∀v vs,vs.length=k->F (v::vs)):∀vs,vs.length=k+1->F vs:=by
 intro a;induction a with
 |nil=>intro e;exact TU e (Nat.zero_ne_add_one k)
 |cons v vs b=>intro e;exact h v vs (TI e)
section
noncomputable def wm:Nm->Option V
 |.peek=>TK (.ref 393)
 |.skip=>TK (.ref 400)
 |.need=>TK (.ref 407)
 |.space=>TK (.ref 414)
 |.done=>TK (.ref 421)
 |.run=>TK (.ref 428)
 |.je=>TK (.ref 435)
 |.atom=>TK (.ref 442)
 |.word=>TK (.ref 449)
 |.lx=>TK (.ref 463)
 |.number=>TK (.ref 477)
 |.quoted=>TK (.ref 484)
 |.literal=>TK (.ref 491)
 |.string=>TK (.ref 498)
 |.jR=>TK (.ref 505)
 |.oA=>TK (.ref 512)
 |.oB=>TK (.ref 533)
 |.gN=>TK (.ref 538)
 |.value=>TK (.ref 546)
 |_=>TW
noncomputable def Kb (P:VF) (a:T2) (b:Obj):Vq:=Kw P++[(a,b)]
noncomputable def Ax (l:List String):V:=.tuple (l.map λs=>.str (O6 s).cps.toList)
noncomputable def u3:List (Str×V):=[(O6 "len",.bi .len),(O6 "ord",.bi .ord),(O6 "chr",.bi .chr),(O6 "isinstance",.bi .isinstance),(O6 "min",.bi .min),(O6 "max",.bi .max),(O6 "all",.bi .all),(O6 "range",.ty .range),(O6 "bytes",.ty .bytes),(O6 "bytearray",.ty .bytearray),(O6 "str",.ty .str),(O6 "tuple",.ty .tuple),(O6 "int",.ty .int),(O6 "dict",.ty .dict),(O6 "enumerate",.ty .enumerate),(O6 "list",.ty .list)]
noncomputable def DS:TT->V
 |.ref a=>if a=297 then .b2 else if a=549 then .fh else if a=826 then Ax ["","done","a {3} b","x] y","5","* OK","\"q\" \\"] else if a=827 then Ax ["\\Seen","\\*","$Mine","12","NIL","a.b+c"]
   else if a=828 then Ax ["FLAGS","UID","RFC822.SIZE","BODY[HEADER.FIELDS (A \"x]y\")]<0>","BODY[1.2]","BODYSTRUCTURE","BODY[]"] else .ref a
 |.int i _=>.int i
 |.bytes b _=>.bytes b.toList
 |.str s _=>.str s.cps.toList
 |_=>.none
noncomputable def Ay:List (Str×V):=u3++xI.map λp=>(p.1,DS p.2)
noncomputable def Cc (w:Uv) (mg mb:Str->Option TT) (s:TP) (a:T2) (b:Obj):Cx:={prog:=pw,w:=w,K:=Kb w.params a b,mg:=mg,mb:=mb,n₁:=s.heap.objs.size,cA:=297,cW:=549,tabs:=g8,glob:=seek Ay,FQ:=s.drawn,xR:=s.os}
section
variable (P:VF) (bm:T2) (ob:Obj)
theorem Ho {K:Vq} {T:List String} (h:T.map (λT=>Vm K (.type T) c)=T.map λ_=>TK TO):∀t∈T,Vm K (.type t) c=TK TO:=λt m=>QJ.mp h t m
theorem Mr {K:Vq} {T:List String} (h:T.map (λT=>VQ K (.type T) c)=T.map λ_=>TK TO):∀t∈T,VQ K (.type t) c=TK TO:=λt m=>QJ.mp h t m
end
variable {w:Uv} {mg mb:Str->Option TT} {s:TP} {bm:T2} {ob:Obj}
theorem OC:Ij (Cc w mg mb s bm ob) where
 uu:=Ho (by kernel_rfl)
 qX:=Ho (by kernel_rfl)
 nN:=by kernel_rfl
 yY:=Ho (by kernel_rfl)
 yZ:=Mr (by kernel_rfl)
 qY:=by kernel_rfl
 uv:=by kernel_rfl
 uw:=by kernel_rfl
 hg:=by kernel_rfl
 Jv:=by kernel_rfl
 ha:=by kernel_rfl
 hn:=by kernel_rfl
 Ni:=by kernel_rfl
 hm:=by kernel_rfl
theorem ph {K:Vq} (h:(UQ K (.ref C) "__setattr__",plainOver K C,takerIn K C a,(clsIn K C).any (·.hasDict),UQ K (.ref C) a)=(TK (TK (.builtin "object.__setattr__")),TN,TK TW,TN,TK TW)):l6 K C a/\UQ K (.ref C) a=TK TW:=by refine ac λb=>aM (PB h) λc h=>aM (PB h) λd h=>aM (PB h) λe h=>aM (PB h) λf g=>b ?_;exact ⟨⟨c,d,e,f⟩,g⟩
theorem dx {K:Vq} (e:TK (V.ref a)=TK f) (t:String) (h:(cV.all (λp=>p.2 !=b||p.1==t),UQ K (.ref C) (O6 t),typeIn K (.ref a),O6 "data"==O6 t,O6 "at"==O6 t)=(TN,TK (TK (.ref a)),TK (.type "function"),TO,TO)):∃a t,f=.ref a/\cV.all (λp=>p.2 !=b||p.1==t)=TN/\UQ K (.ref C) (O6 t)=TK (TK (.ref a))/\typeIn K (.ref a)=TK (.type "function")/\(O6 "data"==O6 t)=TO/\(O6 "at"==O6 t)=TO:=by refine ac λc=>aM (PB h) λd h=>aM (PB h) λg h=>aM (PB h) λi h=>aM (PB h) λj k=>c ?_;exact ⟨a,t,(le e).symm,d,g,i,j,k⟩
theorem Hp:g4 (Cc w mg mb s bm ob) wm where
 KQ:=by kernel_rfl
 Nj:=by kernel_rfl
 Nk:=by kernel_rfl
 wL:=λt m=>by
  refine PA (Pf.mp m) (λa=>?_) λm=>?_
  ·subst a;exact ph (by kernel_rfl)
  ·obtain rfl:=Pv.mp m;exact ph (by kernel_rfl)
 Dd:=ph (by kernel_rfl)
 wm:=λb f h=>by
  cases b with
  |peek=>exact dx h "peek" (by kernel_rfl)
  |skip=>exact dx h "skip" (by kernel_rfl)
  |need=>exact dx h "need" (by kernel_rfl)
  |space=>exact dx h "space" (by kernel_rfl)
  |done=>exact dx h "done" (by kernel_rfl)
  |run=>exact dx h "run" (by kernel_rfl)
  |je=>exact dx h "word_of" (by kernel_rfl)
  |atom=>exact dx h "atom" (by kernel_rfl)
  |word=>exact dx h "word" (by kernel_rfl)
  |lx=>exact dx h "set_text" (by kernel_rfl)
  |number=>exact dx h "number" (by kernel_rfl)
  |quoted=>exact dx h "quoted" (by kernel_rfl)
  |literal=>exact dx h "literal" (by kernel_rfl)
  |string=>exact dx h "string" (by kernel_rfl)
  |jR=>exact dx h "string_or" (by kernel_rfl)
  |oA=>exact dx h "astring" (by kernel_rfl)
  |oB=>exact dx h "list_of" (by kernel_rfl)
  |gN=>exact dx h "plain_value" (by kernel_rfl)
  |value=>exact dx h "value" (by kernel_rfl)
  |_=>exact aZ h
noncomputable def Hq:UJ->Pos×Pos×Pos×Pos
 |.Assign [.Attribute (.Name _ a) _ b] (.Name _ c) d=>(a,b,c,d)
 |_=>default
noncomputable def Az (f:Ub×List UJ×Um) (i:Nat):Pos×Pos×Pos×Pos:=(f.2.1[i]?.map Hq).getD default
noncomputable def AA (x:String) (p:Pos×Pos×Pos×Pos):UJ:=.Assign [.Attribute (.Name (O6 "self") p.1) (O6 x) p.2.1] (.Name (O6 x) p.2.2.1) p.2.2.2
theorem JW:∀X h,aP C X h [] []:=λ_ _=>rfl
theorem JX {Q:Nat->Prop}:∀j,TW=TK j->Q j:=λ_ h=>aZ h
theorem Fh (h:(makesIn C.K D,UQ C.K (.ref D) "__init__",typeIn C.K (.ref a))=(TN,TK (TK (.ref a)),TK (.type "function"))):wP C D a:=by exact aM (PB h) λb h=>aM (PB h) λc d=>⟨b,c,d⟩
theorem DT:tB (Cc w mg mb s bm ob) where
 atom:=by refine aM (Aw (C:=Cc w mg mb s bm ob) (a:=287) (f:=pe 50 0) (k:=2) (by kernel_rfl) (by kernel_rfl) (DR λv=>DR λu=>len0 λS=>by kernel_rfl) JW JX) λhs b=>?_;rw [(by kernel_rfl:(pe 50 0).2.1=[AA "text" (Az (pe 50 0) 0)]),(by kernel_rfl:jy (pe 50 0)=[O6 "self",O6 "text"])] at b;exact ⟨287,_,_,_,_,_,_,_,_,_,Fh (by kernel_rfl),b,hs▸by kernel_rfl,hs▸by kernel_rfl⟩
 wire:=by refine aM (Aw (C:=Cc w mg mb s bm ob) (a:=379) (f:=pe 60 0) (k:=2) (ds:=[.int 0 683]) (by kernel_rfl) (by kernel_rfl) (DR λv=>DR λu=>len0 λS=>by kernel_rfl) (λ_ _=>.cons (.int _ _) .nil) JX) λhs b=>?_;rw [(by kernel_rfl:(pe 60 0).2.1=[AA "data" (Az (pe 60 0) 0),AA "at" (Az (pe 60 0) 1)]),(by kernel_rfl:jy (pe 60 0)=[O6 "self",O6 "data",O6 "at"])] at b;exact ⟨379,_,_,_,_,_,_,_,_,_,_,_,_,_,_,Fh (by kernel_rfl),b,hs▸by kernel_rfl,hs▸by kernel_rfl,hs▸by kernel_rfl⟩
 E4:=by kernel_rfl
 E5:=by kernel_rfl
end
section
variable {w:Uv} {mg mb:Str->Option TT} {s:TP} {bm:T2} {ob:Obj} (L:oV (Cc w mg mb s bm ob))
include L
noncomputable abbrev Nu {n:Nat} (hn:2<=n):Tr (Cc w mg mb s bm ob) wm n:=tr (zR OC Hp DT) hn (DN TL L) 60
noncomputable def Nv {n:Nat} (hn:2<=n) (f:Ub×List UJ×Um) (lm:Option Nat):Option S:=Jr ((Nu L hn).ss (v8 (seek Ay) f.2.2.names (jy f) (rO f) (DQ lm) lm) f.2.1)
end
noncomputable def JY (a:T2):Option Nat:=if a=728 then TK 0 else if a=785 then TK 1 else if a=792 then TK 2 else TW
noncomputable def Ms (s:S) (i:Nat) (l:E):V->rJ
 |.fh=>.wire i l
 |_=>.run s
noncomputable def Mt (s:S) (i:Nat) (l:E):E->rJ
 |.lit v=>Ms s i l v
 |_=>.run s
noncomputable def Mv (s:S) (i:Nat):E->rJ
 |.call f l=>Mt s i l f
 |_=>.run s
noncomputable def Mw (s:S) (i:Nat):E->rJ
 |.nil=>.run s
 |l=>.src i l
noncomputable def JZ:S->rJ
 |.asg i e=>Mv (.asg i e) i e
 |.oD i l=>Mw (.oD i l) i l
 |s=>.run s
noncomputable def Hr:S->List rJ
 |.seq a b=>JZ a::Hr b
 |s=>[JZ s]
noncomputable def Mx (a:T2) (s:S):Hg:=if a=811 then .iU (Hr s) else if a=900 then .iU (Hr s) else .plain s
noncomputable def My {w:Uv} {mg mb:Str->Option TT} {s:TP} {b:T2} {c:Obj} (L:oV (Cc w mg mb s b c)) {n:Nat} (hn:2<=n) (a:T2) (f:Ub×List UJ×Um):Option (T2×uV):=(Nv L hn f (JY a)).map λs=>(a,⟨(jy f).length,[],(rO f).length,Mx a s⟩)
noncomputable def w3:List (T2×uV):=by
 refine (?f:(x:List (T2×uV))->(∀{w:Uv} {mg mb:Str->Option TT} {s:TP} {a:T2} {b:Obj} (L:oV (Cc w mg mb s a b)) (n:Nat) (hn:2<=n),((Mg.flatMap (·.2)++Mf).filterMap λr=>My L hn (DJ r.1 r.2.2.1) (DI r.2.2.2).2.1)=x)->List (T2×uV)) ?x ?h
 case f=>exact λx _=>x
 case h=>
  intro w mg mb s a b L n hn;conv=>lhs;reduce
noncomputable def Mz:List (T2×Option Nat):=[(546,TK 873),(573,TW),(581,TW),(587,TW),(593,TK 930)]
noncomputable def KW:Option Nat->V
 |some _=>.int 0
 |none=>.bool TO
noncomputable def Fi {b:Type} (a:T2):List (T2×b)->Option b
 |[]=>TW
 |(k,t)::r=>bif Sz a k then TK t else Fi a r
noncomputable def tab (a m:Nat):Option uV:=(Fi a w3).bind λt=>bif Sz m t.k then TK t else (Fi a Mz).map λd=>⟨1,[KW d],t.pd,t.b⟩
noncomputable def kE (a:T2):Hg:=((Fi a w3).map uV.b).getD (.iU [])
noncomputable def J0:Hg->List rJ
 |.iU l=>l
 |_=>[]
noncomputable def pi:S:=(kE 847).s
noncomputable def rP:S:=(kE 254).s
noncomputable def pj:S:=(kE 738).s
noncomputable def cJ:S:=(kE 804).s
noncomputable def mq:S:=(kE 778).s
noncomputable def gh:S:=(kE 890).s
noncomputable def jz:S:=(kE 885).s
noncomputable def jA:S:=(kE 871).s
noncomputable def dT:S:=(kE 895).s
noncomputable def mr:S:=(kE 607).s
noncomputable def mw:List rJ:=J0 (kE 811)
noncomputable def jY:List rJ:=J0 (kE 900)
noncomputable def aE:Nat->Option E
 |0=>TK (.a4 (.var 0) .je (.cons (.lit (.ref 336)) (.cons (.lit (.str [97,32,119,111,114,100,32,105,115,32,109,105,115,115,105,110,103])) .nil)))
 |1=>TK (.call (.lit (.ref 745)) (.cons (.var 0) .nil))
 |2=>TK (.call (.lit (.ref 759)) (.cons (.var 0) .nil))
 |_=>TW
theorem bw {c d:Type} {x:Option c} {f:c->Option d} {a:c} {b:Option d} (h:x=TK a) (k:f a=b):x.bind f=b:=by refine aa (h ..) ?_;exact k
section
variable {R:V->List V->FG->Option (V×FG)} {wm:Nm->Option V}
variable {st st1 st2 w4:a7} {g g1 g2:FG} {e a b c o l f t it:E} {x y z r v:V} {vs:List V} {m:Bool} {q:V×a7} {n:Nm}
theorem di {op} (d:aB R wm a TO st=TK (x,st1)) (h:aB R wm b TO st1=TK (y,st2)) (i:gE op x y=TK r) (j:ba m r st2=TK q):aB R wm (.bin op a b) m st=TK q:=bw d (bw h (bw i j))
theorem AB {t} (d:aB R wm a TN st=TK (.bool t,st1)):aB R wm (.not a) TN st=TK (.bool (!t),st1):=bw d TL
theorem ez {op} {t} (d:aB R wm a TO st=TK (x,st1)) (h:aB R wm b TO st1=TK (y,st2)) (i:da op x y=TK t) (j:ba m (.bool t) st2=TK q):aB R wm (.cmp op a b) m st=TK q:=bw d (bw h (bw i j))
theorem pk {op d} (h:aB R wm a TO st=TK (x,st1)) (i:aB R wm b TO st1=TK (y,st2)) (j:da op x y=TK TO) (k:ba m (.bool TO) st2=TK q):aB R wm (.kz op d a b c) m st=TK q:=bw h (bw i (bw j k))
theorem pn {op d} {t} (h:aB R wm a TO st=TK (x,st1)) (i:aB R wm b TO st1=TK (y,st2)) (j:da op x y=TK TN) (k:aB R wm c TO st2=TK (z,w4)) (s:da d y z=TK t) (u:ba m (.bool t) w4=TK q):aB R wm (.kz op d a b c) m st=TK q:=bw h (bw i (bw j (bw k (bw s u))))
theorem my {lo j i:Int} (k:aB R wm b TO st=TK (.int i,st2)) (d:ba m (.bool (decide (lo<=i)&&decide (i<=j))) st2=TK q):aB R wm (.kz .LtE .LtE (.lit (.int lo)) b (.lit (.int j))) m st=TK q:=by
 by_cases h:lo<=i
 ·refine pn TL k (TQ TK (TS h)) TL TL ?_;rw [TS h] at d;exact d
 ·refine pk TL k (TQ TK (TR h)) ?_;rw [TR h] at d;exact d
theorem tK (d:aB R wm a TN st=TK (.bool TN,st1)) (h:aB R wm b TN st1=TK q):aB R wm (.and a b) TN st=TK q:=bw d h
theorem AC (d:aB R wm a TN st=TK (.bool TO,st1)):aB R wm (.and a b) TN st=TK (.bool TO,st1):=bw d TL
theorem DU (d:aB R wm a TO st=TK (x,st1)) (h:b5 x=TK TN) (i:aB R wm b TO st1=TK q):aB R wm (.and a b) TO st=TK q:=bw d (bw h i)
theorem DV (d:aB R wm a TO st=TK (x,st1)) (h:b5 x=TK TO):aB R wm (.and a b) TO st=TK (x,st1):=bw d (bw h TL)
theorem Fj (d:aB R wm a TN st=TK (.bool TN,st1)):aB R wm (.or a b) TN st=TK (.bool TN,st1):=bw d TL
theorem Fk (d:aB R wm a TN st=TK (.bool TO,st1)) (h:aB R wm b TN st1=TK q):aB R wm (.or a b) TN st=TK q:=bw d h
theorem Hs (d:aB R wm a TO st=TK (x,st1)) (h:b5 x=TK TN):aB R wm (.or a b) TO st=TK (x,st1):=bw d (bw h TL)
theorem Ht (d:aB R wm a TO st=TK (x,st1)) (h:b5 x=TK TO) (i:aB R wm b TO st1=TK q):aB R wm (.or a b) TO st=TK q:=bw d (bw h i)
theorem iV {s t:Bool} (d:aB R wm a m st=TK (.bool s,st)) (h:aB R wm b m st=TK (.bool t,st)):aB R wm (.and a b) m st=TK (.bool (s&&t),st):=by
 cases m
 ·cases s
  ·exact DV d TL
  ·exact DU d TL h
 ·cases s
  ·exact AC d
  ·exact tK d h
theorem u4 {s t:Bool} (d:aB R wm a m st=TK (.bool s,st)) (h:aB R wm b m st=TK (.bool t,st)):aB R wm (.or a b) m st=TK (.bool (s||t),st):=by
 cases m
 ·cases s
  ·exact Ht d TL h
  ·exact Hs d TL
 ·cases s
  ·exact Fk d h
  ·exact Fj d
theorem tL (d:aB R wm t TN st=TK (.bool TN,st1)) (h:aB R wm a m st1=TK q):aB R wm (.ite t a b) m st=TK q:=bw d h
theorem po (d:aB R wm t TN st=TK (.bool TO,st1)) (h:aB R wm b m st1=TK q):aB R wm (.ite t a b) m st=TK q:=bw d h
theorem rQ (d:cn R wm l st=TK (vs,st1)) (h:ba m (.tuple vs) st1=TK q):aB R wm (.tup l) m st=TK q:=bw d h
theorem g9 (d:aB R wm f TO st=TK (v,st1)) (h:cn R wm l st1=TK (vs,st2)) (i:uJ R v vs st2.g=TK (r,g1)) (j:ba m r ⟨st2.ρ,g1⟩=TK q):aB R wm (.call f l) m st=TK q:=bw d (bw h (bw i j))
theorem bt (d:aN (.ref i)=TN) (h:cn R wm l st=TK (vs,st2)) (j:R (.ref i) vs st2.g=TK (r,g1)) (k:ba m r ⟨st2.ρ,g1⟩=TK q):aB R wm (.call (.lit (.ref i)) l) m st=TK q:=g9 (TY d) h j k
theorem AD (d:cn R wm l st=TK (vs,st2)) (h:gw i vs=TK r) (j:ba m r st2=TK q):aB R wm (.call (.lit (.bi i)) l) m st=TK q:=g9 TL d (TQ (Qq λr=>(r,st2.g)) h) j
theorem kF (d:cn R wm l st=TK (vs,st2)) (h:E6 i vs=TK r) (j:ba m r st2=TK q):aB R wm (.call (.lit (.ty i)) l) m st=TK q:=g9 TL d (TQ (Qq λr=>(r,st2.g)) h) j
theorem tM (d:cn R wm l st=TK ([.str s],st2)) (h:ba m (.atom s) st2=TK q):aB R wm (.call (.lit .b2) l) m st=TK q:=g9 TL d TL h
theorem aW {w} (d:aB R wm o TO st=TK (.ref 1,st1)) (h:st1.g.wire=TK w) (hn:wm n=TK (.ref i)) (j:aN (.ref i)=TN) (k:cn R wm l st1=TK (vs,st2)) (s:R (.ref i) (.ref 1::vs) st2.g=TK (r,g1)) (u:ba m r ⟨st2.ρ,g1⟩=TK q):aB R wm (.a4 o n l) m st=TK q:=by
 refine bw d (bw (a:=TK (.ref i)) ?_ (bw k (bw (a:=(r,g1)) ?_ u)))
 ·show (if (decide (1=1)&&st1.g.wire.isSome)=TN then (wm n).map TK else TW)=_;refine aa (h ..) (aa (hn ..) ?_);rfl
 ·show (if aN (.ref i)=TN then R (.ref i) (.ref 1::vs) st2.g else TW)=_;exact aa (TY j ..) (aa (s ..) TL)
theorem nZ (d:aB R wm o TO st=TK (x,st1)) (hg:uK wm x n st1.g=TK TW) (h:cn R wm l st1=TK (vs,st2)) (i:dv x n vs=TK r) (j:ba m r st2=TK q):aB R wm (.a4 o n l) m st=TK q:=
 bw d (bw hg (bw h (bw (a:=(r,st2.g)) (TQ (Qq λr=>(r,st2.g)) i) j)))
theorem Hu (d:aB R wm o TO st=TK (x,st1)) (h:uI x n st1.g=TK r) (i:ba m r st1=TK q):aB R wm (.attr o n) m st=TK q:=bw d (bw h i)
theorem AE (d:aB R wm o TO st=TK (x,st1)) (h:aB R wm a TO st1=TK (y,st2)) (i:l8 x y st2.g=TK r) (j:ba m r st2=TK q):aB R wm (.sub o a) m st=TK q:=bw d (bw h (bw i j))
theorem AF (d:aB R wm o TO st=TK (x,st1)) (h:aB R wm a TO st1=TK (y,st2)) (i:aB R wm b TO st2=TK (z,w4)) (j:ck x y z=TK r) (k:ba m r w4=TK q):aB R wm (.pX o a b) m st=TK q:=bw d (bw h (bw i (bw j k)))
theorem mz {k:Nat} {items xs:List V} (d:aB R wm it TO st=TK (x,st1)) (h:cO x=TK items) (i:items.length<=av) (j:ey (λst=>aB R wm e TO st) (λst=>aB R wm c TN st) k (st1.ρ.map hide) items [] st1.g=TK (xs,g1)) (hg:cg st1.g g1=TN) (s:ba m (.list xs) ⟨st1.ρ,g1⟩=TK q):aB R wm (.comp e k it c) m st=TK q:=bw d (bw h ((TY i).trans (bw j ((TY hg).trans s))))
theorem au (d:aB R wm e TO st=TK (v,st1)) (h:cn R wm l st1=TK (vs,st2)):cn R wm (.cons e l) st=TK (v::vs,st2):=bw d (bw h TL)
theorem ai {op} (d:aB R wm a TO st=TK (x,st1)) (h:aB R wm b TO st1=TK (y,st2)) (i:gE op x y=TK r):aB R wm (.bin op a b) TO st=TK (r,st2):=di d h i TL
theorem iW {op} {t} (d:aB R wm a TO st=TK (x,st1)) (h:aB R wm b TO st1=TK (y,st2)) (i:da op x y=TK t):aB R wm (.cmp op a b) TO st=TK ((.bool t),st2):=ez d h i TL
theorem aG {op} {t} (d:aB R wm a TO st=TK (x,st1)) (h:aB R wm b TO st1=TK (y,st2)) (i:da op x y=TK t):aB R wm (.cmp op a b) TN st=TK ((.bool t),st2):=ez d h i TL
theorem mA {op d} {t} (h:aB R wm a TO st=TK (x,st1)) (i:aB R wm b TO st1=TK (y,st2)) (j:da op x y=TK TN) (k:aB R wm c TO st2=TK (z,w4)) (s:da d y z=TK t):aB R wm (.kz op d a b c) TN st=TK ((.bool t),w4):=pn h i j k s TL
theorem aX (d:cn R wm l st=TK (vs,st1)):aB R wm (.tup l) TO st=TK ((.tuple vs),st1):=rQ d TL
theorem DW (d:aB R wm f TO st=TK (v,st1)) (h:cn R wm l st1=TK (vs,st2)) (i:uJ R v vs st2.g=TK (r,g1)):aB R wm (.call f l) TO st=TK (r,⟨st2.ρ,g1⟩):=g9 d h i TL
theorem aw (d:aN (.ref i)=TN) (h:cn R wm l st=TK (vs,st2)) (j:R (.ref i) vs st2.g=TK (r,g1)):aB R wm (.call (.lit (.ref i)) l) TO st=TK (r,⟨st2.ρ,g1⟩):=bt d h j TL
theorem rR (d:aN (.ref i)=TN) (h:cn R wm l st=TK (vs,st2)) (j:R (.ref i) vs st2.g=TK (.bool u,g1)):aB R wm (.call (.lit (.ref i)) l) TN st=TK (.bool u,⟨st2.ρ,g1⟩):=bt d h j TL
theorem iD (d:cn R wm l st=TK (vs,st2)) (h:gw i vs=TK r):aB R wm (.call (.lit (.bi i)) l) TO st=TK (r,st2):=AD d h TL
theorem eA (d:cn R wm l st=TK (vs,st2)) (h:gw i vs=TK (.bool u)):aB R wm (.call (.lit (.bi i)) l) TN st=TK (.bool u,st2):=AD d h TL
theorem b0 (d:cn R wm l st=TK (vs,st2)) (h:E6 i vs=TK r):aB R wm (.call (.lit (.ty i)) l) TO st=TK (r,st2):=kF d h TL
theorem aH {w} (d:aB R wm o TO st=TK (.ref 1,st1)) (h:st1.g.wire=TK w) (hn:wm n=TK (.ref i)) (j:aN (.ref i)=TN) (k:cn R wm l st1=TK (vs,st2)) (s:R (.ref i) (.ref 1::vs) st2.g=TK (r,g1)):aB R wm (.a4 o n l) TO st=TK (r,⟨st2.ρ,g1⟩):=aW d h hn j k s TL
theorem cb {w} (d:aB R wm o TO st=TK (.ref 1,st1)) (h:st1.g.wire=TK w) (hn:wm n=TK (.ref i)) (j:aN (.ref i)=TN) (k:cn R wm l st1=TK (vs,st2)) (s:R (.ref i) (.ref 1::vs) st2.g=TK (.bool u,g1)):aB R wm (.a4 o n l) TN st=TK (.bool u,⟨st2.ρ,g1⟩):=aW d h hn j k s TL
theorem bn (d:aB R wm o TO st=TK (x,st1)) (hg:uK wm x n st1.g=TK TW) (h:cn R wm l st1=TK (vs,st2)) (i:dv x n vs=TK r):aB R wm (.a4 o n l) TO st=TK (r,st2):=nZ d hg h i TL
theorem kY (d:aB R wm o TO st=TK (x,st1)) (h:uI x n st1.g=TK r):aB R wm (.attr o n) TO st=TK (r,st1):=Hu d h TL
theorem bp (d:aB R wm o TO st=TK (x,st1)) (h:aB R wm a TO st1=TK (y,st2)) (i:l8 x y st2.g=TK r):aB R wm (.sub o a) TO st=TK (r,st2):=AE d h i TL
theorem db (d:aB R wm o TO st=TK (x,st1)) (h:aB R wm a TO st1=TK (y,st2)) (i:aB R wm b TO st2=TK (z,w4)) (j:ck x y z=TK r):aB R wm (.pX o a b) TO st=TK (r,w4):=AF d h i j TL
theorem aF (d:aB R wm e TO st=TK (v,st1)):cn R wm (.cons e .nil) st=TK ([v],st1):=au d TL
variable {A B:S} {fl:Fl} {w:Fl×a7} {i:Nat}
theorem ae (d:aI R wm A st=TK (.next,st1)) (h:aI R wm B st1=TK w):aI R wm (.seq A B) st=TK w:=bw d h
theorem aS (d:aI R wm A st=TK (.ret v,st1)):aI R wm (.seq A B) st=TK (.ret v,st1):=bw d TL
theorem az (d:aB R wm e TO st=TK (v,st1)) (hs:(⟨st1.ρ.set i (.v v),st1.g⟩:a7)=st2):aI R wm (.asg i e) st=TK (.next,st2):=hs▸bw d TL
theorem AG (d:cn R wm l st=TK (vs,st1)) (hs:(⟨st1.ρ.set i (.ml vs),st1.g⟩:a7)=st2):aI R wm (.oD i l) st=TK (.next,st2):=hs▸bw d TL
theorem Hv {bs} (d:cn R wm l st=TK ([.bytes bs],st1)) (hs:(⟨st1.ρ.set i (.mb bs),st1.g⟩:a7)=st2):aI R wm (.vK i l) st=TK (.next,st2):=hs▸bw d TL
theorem fK {is:List Nat} (d:aB R wm e TO st=TK (v,st1)) (h:rF is v st1=TK st2):aI R wm (.ly is e) st=TK (.next,st2):=bw d (bw h TL)
theorem Hw {d p s ρ k} (h:aB R wm e TO st=TK (.int k,st1)) (j:aB R wm o TO st1=TK (.ref 1,⟨ρ,⟨s,TK (d,p)⟩⟩)) (u:0<=k):aI R wm (.kA o .at_ e) st=TK (.next,⟨ρ,⟨s,TK (d,k.toNat)⟩⟩):=by exact bw h (bw j (TY (dQ TL TL u)))
theorem J1 {d s ρ} {p k:Nat} (h:aB R wm e TO st=TK (.int ((p:Int)+(k:Nat)),st1)) (j:aB R wm o TO st1=TK (.ref 1,⟨ρ,⟨s,TK (d,p)⟩⟩)):aI R wm (.kA o .at_ e) st=TK (.next,⟨ρ,⟨s,TK (d,p+k)⟩⟩):=Hw h j (Qp (Pu p) (Int.le_add_of_nonneg_right (Pu k)))
theorem Hx {x:List Int×Nat} {p} (d:aB R wm e TO st=TK (.int p,st1)) (h:aB R wm o TO st1=TK (.ref 2,st2)) (j:aB R wm a TO st2=TK (.int 1,w4)) (hs:w4.g.src=TK x) (hp:0<=p):aI R wm (.qh o a e) st=TK (.next,⟨w4.ρ,⟨TK (x.1,p.toNat),w4.g.wire⟩⟩):=by exact bw d (bw h (bw j ((TY (dQ TL TL hp)).trans (bw hs TL))))
theorem a0 (d:aB R wm e TO st=TK (v,st1)):aI R wm (.expr e) st=TK (.next,st1):=bw d TL
theorem Fn {a b:Option (Fl×a7)} (hs:st.ρ[i]?=sl) (h:zU sl a b=TK w):zU st.ρ[i]? a b=TK w:=hs▸h
theorem cY {xs} (hs:st.ρ[i]?=TK (.ml xs)) (h:aB R wm e TO st=TK (v,st1)) (d:st1.ρ[i]?=TK (.ml xs)) (j:xs.length<av) (k:(⟨st1.ρ.set i (.ml (xs++[v])),st1.g⟩:a7)=st2):aI R wm (.app i e) st=TK (.next,st2):=k▸Fn hs (bw h (bw (TQ KR d) (TY j)))
theorem mB {xs} {c:Nat} (hs:st.ρ[i]?=TK (.mb xs)) (h:aB R wm e TO st=TK (.int c,st1)) (d:st1.ρ[i]?=TK (.mb xs)) (j:c<256) (k:xs.length<av) (s:(⟨st1.ρ.set i (.mb (xs++[Pp c])),st1.g⟩:a7)=st2):aI R wm (.app i e) st=TK (.next,st2):=s▸Fn hs (bw h (bw (TQ KT d) (TY ⟨Pu c,Ps.mpr j,k⟩)))
theorem cC (d:aB R wm t TN st=TK (.bool TN,st1)) (h:aI R wm A st1=TK w):aI R wm (.ite t A B) st=TK w:=bw d h
theorem pq (d:aB R wm t TN st=TK (.bool TO,st1)) (h:aI R wm B st1=TK w):aI R wm (.ite t A B) st=TK w:=bw d h
theorem ax (d:aB R wm e TO st=TK (v,st1)):aI R wm (.ret e) st=TK (.ret v,st1):=bw d TL
theorem eW (h:bk (λst=>aB R wm t TN st) (λst=>aI R wm A st) turns st=TK w):aI R wm (.FT t A) st=TK w:=h
theorem jB {is:List Nat} {items} (d:aB R wm it TO st=TK (x,st1)) (j:cO x=TK items) (h:iT (λst=>aI R wm A st) is items st1=TK w):aI R wm (.vL is it A) st=TK w:=bw d (bw j h)
section
variable {T:a7->Option (V×a7)} {D:a7->Option (Fl×a7)} {k:Nat}
theorem cD (d:T st=TK (.bool TN,st1)) (h:D st1=TK (.next,st2)) (j:bk T D k st2=TK w):bk T D (k+1) st=TK w:=bw d (bw (a:=TN) TL (bw h j))
theorem cP (d:T st=TK (.bool TO,st1)):bk T D (k+1) st=TK (.next,st1):=bw d TL
theorem Fo (d:T st=TK (.bool TN,st1)) (h:D st1=TK (.ret v,st2)):bk T D (k+1) st=TK (.ret v,st2):=bw d (bw (a:=TN) TL (bw h TL))
theorem fL {is:List Nat} {items:List V} (d:rF is x st=TK st1) (h:D st1=TK (.next,st2)) (j:iT D is items st2=TK w):iT D is (x::items) st=TK w:=bw d (bw h j)
theorem AH {ρ:List Slot}:∀{items:List V} {sl:Slot},(∀x∈items,D ⟨ρ.set j (.v x),g⟩=TK (.next,⟨ρ.set j (.v x),g⟩))-> ∃d,iT D [j] items ⟨ρ.set j sl,g⟩=TK (.next,⟨ρ.set j d,g⟩):=by
 intro s;induction s with
 |nil=>intro y C;exact ⟨y,TL⟩
 |cons x r u=>intro y h;refine cR (u λx m=>h x (.tail _ m)) λy' e=>⟨y',fL ?_ (h x (.head _)) e⟩;show TK (⟨(ρ.set j y).set j (.v x),g⟩:a7)=_;exact aa (List.set_set ..) TL
variable {fe fc:a7->Option (V×a7)} {ρ ss:List Slot} {items acc:List V} {res:List V×FG}
theorem mC (d:fm k x=TK ss) (j:fc ⟨ρ++ss,g⟩=TK (.bool TN,st1)) (h:fe st1=TK (v,st2)) (hr:ey fe fc k ρ items (acc++[v]) st2.g=TK res):ey fe fc k ρ (x::items) acc g=TK res:=bw d (bw j (bw (a:=TN) TL (bw h hr)))
theorem Hy (d:fm k x=TK ss) (h:fc ⟨ρ++ss,g⟩=TK (.bool TO,st1)) (hr:ey fe fc k ρ items acc st1.g=TK res):ey fe fc k ρ (x::items) acc g=TK res:=bw d (bw h (bw (a:=TO) TL hr))
theorem Hz:∀{items acc:List V},(∀x∈items,∃ss st1 st2,fm k x=TK ss/\fc ⟨ρ++ss,g⟩=TK (.bool TN,st1)/\fe st1=TK (F x,st2)/\st2.g=g)->ey fe fc k ρ items acc g=TK (acc++items.map F,g):=by
 intro j;induction j with
 |nil=>intro acc u;refine aa (Qs ..) (aa (Pk ..) ?_);rfl
 |cons x r s=>intro acc h;refine xM (h x (.head _)) λss st1 st2 a b c d=>mC a b c ?_;refine aa (d ..) (aa (s λx m=>h x (.tail _ m)) (aa (Pi ..) ?_));rfl
end
theorem AI (F:V->V) (d:aB R wm it TO st=TK (x,⟨ρ,g⟩)) (h:cO x=TK items) (j:items.length<=av) (k:∀x∈items,aB R wm e TO ⟨ρ.map hide++[.v x],g⟩=TK (F x,⟨ρ.map hide++[.v x],g⟩)) (s:ba m (.list (items.map F)) ⟨ρ,g⟩=TK q):aB R wm (.comp e 1 it (.lit (.bool TN))) m st=TK q:=by
 refine mz d h j (Hz λx m=>?_) ?_ s
 ·exact (EG [.v x] _ _ TL TL (k x m) TL)
 ·show (g.src.isSome==g.src.isSome&&g.wire.isSome==g.wire.isSome)=TN;refine aa (beq_self_eq_true ..) (aa (beq_self_eq_true ..) ?_);rfl
end
noncomputable abbrev I (n a:Nat) (vs:List V) (g:FG):Option (V×FG):=ag tab aE wm n (.ref a) vs g
theorem eE (g:FG):cg g g=TN:=by show (g.src.isSome==g.src.isSome&&g.wire.isSome==g.wire.isSome)=TN;refine aa (beq_self_eq_true ..) (aa (beq_self_eq_true ..) ?_);rfl
theorem gi (s:Option (List Int×Nat)) (w a:List UInt8×Nat):cg ⟨s,TK w⟩ ⟨s,TK a⟩=TN:=by show (s.isSome==s.isSome&&TN)=TN;refine aa (beq_self_eq_true ..) ?_;rfl
theorem pr {n a:Nat} {vs:List V} {st':a7} (ht:tab a vs.length=TK t) (c:t.b=.plain s) (d:vs.length=t.k) (hs:aI (ag tab aE wm n) wm s ⟨bQ (vs++t.gG) t.pd,g⟩=TK (e,st')) (f:DH e=TK v) (hp:cg g st'.g=TN):I (n+1) a vs g=TK (v,st'.g):=by refine bw ht ?_;show (if vs.length=t.k then _ else TW)=_;refine aa (TY d ..) (aa (c ..) ?_);exact bw hs (bw f (TY hp))
section
variable {n a:Nat} {vs:List V} {g:FG} {k pd:Nat} {gG:List V} {s:S} {ρ:List Slot} {v:V} {nr:Option (List Int×Nat)} {w w':List UInt8×Nat}
theorem fn (ht:tab a vs.length=TK ⟨k,gG,pd,.plain s⟩) (b:vs.length=k) (hs:aI (ag tab aE wm n) wm s ⟨bQ (vs++gG) pd,g⟩=TK (.ret v,⟨ρ,g⟩)):I (n+1) a vs g=TK (v,g):=pr ht TL b hs TL (eE g)
theorem ef (ht:tab a vs.length=TK ⟨k,gG,pd,.plain s⟩) (b:vs.length=k) (hs:aI (ag tab aE wm n) wm s ⟨bQ (vs++gG) pd,⟨nr,TK w⟩⟩=TK (.ret v,⟨ρ,⟨nr,TK w'⟩⟩)):I (n+1) a vs ⟨nr,TK w⟩=TK (v,⟨nr,TK w'⟩):=pr ht TL b hs TL (gi nr w w')
theorem HA (ht:tab a vs.length=TK ⟨k,gG,pd,.plain s⟩) (b:vs.length=k) (hs:aI (ag tab aE wm n) wm s ⟨bQ (vs++gG) pd,⟨nr,TK w⟩⟩=TK (.next,⟨ρ,⟨nr,TK w'⟩⟩)):I (n+1) a vs ⟨nr,TK w⟩=TK (.none,⟨nr,TK w'⟩):=pr ht TL b hs TL (gi nr w w')
end
section
variable {R:V->List V->FG->Option (V×FG)} {wm:Nm->Option V}
variable {st st1 st2 w4:a7} {g g1 g2:FG} {e a b c o l f t it:E} {x y z r v:V} {vs:List V} {m:Bool} {q:V×a7} {n:Nm} {h h':Bool} {A B:S} {w:Fl×a7}
theorem b1 (d:aB R wm t TN st=TK (.bool h,st1)) (i:h=TN) (j:aB R wm a m st1=TK q):aB R wm (.ite t a b) m st=TK q:=tL (i▸d) j
theorem dy (d:aB R wm t TN st=TK (.bool h,st1)) (i:h=TO) (j:aB R wm b m st1=TK q):aB R wm (.ite t a b) m st=TK q:=po (i▸d) j
theorem aU (d:aB R wm t TN st=TK (.bool h,st1)) (i:h=TN) (j:aI R wm A st1=TK w):aI R wm (.ite t A B) st=TK w:=cC (i▸d) j
theorem aA (d:aB R wm t TN st=TK (.bool h,st1)) (i:h=TO) (j:aI R wm B st1=TK w):aI R wm (.ite t A B) st=TK w:=pq (i▸d) j
theorem eg (d:aB R wm a TN st=TK (.bool h,st1)) (i:h=TN) (j:aB R wm b TN st1=TK q):aB R wm (.and a b) TN st=TK q:=tK (i▸d) j
theorem pt (d:aB R wm a TN st=TK (.bool h,st1)) (i:h=TO):aB R wm (.and a b) TN st=TK (.bool TO,st1):=AC (i▸d)
theorem AJ (d:aB R wm a TN st=TK (.bool h,st1)) (i:h=TN):aB R wm (.or a b) TN st=TK (.bool TN,st1):=Fj (i▸d)
theorem eB (d:aB R wm a TN st=TK (.bool h,st1)) (i:h=TO) (j:aB R wm b TN st1=TK q):aB R wm (.or a b) TN st=TK q:=Fk (i▸d) j
theorem Fq {x:UInt8} {l:List UInt8}:M1 (.int x.toNat) l=TK (l.any λc=>decide ((c.toNat:Int)=x.toNat)):=TY ⟨Pu _,Ps.mpr x.toNat_lt⟩
theorem J2 {r:Bool} (d:(aN x&&aN y)=TN) (h:sy op x y=TK r):da op x y=TK r:=(TY d).trans (TQ (Option.or · (rE op x y)) h)
theorem pu {x:UInt8} {l:List UInt8}:da .NotIn (.int x.toNat) (.bytes l)=TK (!l.any λc=>decide ((c.toNat:Int)=x.toNat)):=J2 TL (TQ (Qq (!·)) Fq)
theorem J3 {x:UInt8} {l:List UInt8}:da .In (.int x.toNat) (.bytes l)=TK (l.any λc=>decide ((c.toNat:Int)=x.toNat)):=J2 TL Fq
theorem AK (n:Nat):dH 0 n 1=(PN n).map λ(i:Nat)=>(i:Int):=by
 unfold dH;have:(Qu 0 n 1).toNat=n:=by unfold Qu;simp;split<;>omega
 refine aa (this ..) ?_;simp
theorem DX {n:Nat} (h:n<=av):oG [n]=TK (.pW ((PN n).map λ(i:Nat)=>i)):=by
 have z':fk n=TN:=by have:n<=16777216:=h;exact TS (show (-2305843009213693952:Int)<=n/\(n:Int)<2305843009213693952 by omega)
 show (if (fk (n:Int)&&decide ((dH 0 n 1).length<=av))=TN then TK (V.pW (dH 0 n 1)) else TW)=_;refine aa (z' ..) (aa (AK ..) (aa (Pd ..) (aa (QH ..) (aa (TS h ..) ?_))));exact TY TL
theorem px {f:Ty} (d:aN v=TN) (i:(f==.tuple)=TO) (h:ye f [v]=TK r) (hr:aN r=TN):E6 f [v]=TK r:=(TZ (beq_eq_false_iff_ne.mp i)).trans ((TY (show (aN v&&TN)=TN by refine aa (d ..) ?_;rfl)).trans ((TQ cf h).trans (TY hr)))
theorem ty_range (h:gt xs=TK is) (k:oG is=TK r):ye .range xs=TK r:=bw h k
theorem dU {n:Nat} (h:n<=av):E6 .range [.int n]=TK (.pW ((PN n).map λ(i:Nat)=>(i:Int))):=px TL TL (ty_range TL (DX h)) TL
theorem am {a b:List UInt8} (h:a.length+b.length<=av):gE .Add (.bytes a) (.bytes b)=TK (.bytes (a++b)):=TQ cf (TY h)
theorem iX {a b:List Nat} (h:a.length+b.length<=av):gE .Add (.str a) (.str b)=TK (.str (a++b)):=TQ cf (TY h)
theorem tN:∀l:List UInt8,eR (l.map λc=>.int c.toNat)=TK l:=by
 intro d;induction d with
 |nil=>exact TL
 |cons c r i=>show (if 0<=(c.toNat:Int)/\(c.toNat:Int)<256 then (eR (r.map λc=>.int c.toNat)).map λl=>Pp (c.toNat:Int).toNat::l else TW)=_;refine aa (TY ⟨Pu _,Ps.mpr c.toNat_lt⟩ ..) (aa (i ..) ?_);exact aa (Rx ..) TL
theorem DY {l:List UInt8} (d:xs=l.map λc=>.int c.toNat) (h:l.length<=1000000) (i:aV xs=TN):E6 .bytes [.list xs]=TK (.bytes l):=by subst d;refine px i TL ?_ TL;have e:ye .bytes [.list (l.map λc=>.int c.toNat)]=lA (.list (l.map λc=>.int c.toNat)):=TL;refine aa (e ..) ?_;unfold lA;dsimp only;refine aa (TY (by refine aa (Pd ..) ?_;exact h) ..) (aa (tN ..) ?_);rfl
theorem mD:∀l:List Int,aV (l.map .int)=TN:=by
 intro d;induction d with
 |nil=>exact TL
 |cons _ r i=>exact i
theorem AL:∀l:List UInt8,aV (l.map λc=>.int c.toNat)=TN:=by
 intro d;induction d with
 |nil=>exact TL
 |cons _ r i=>exact i
theorem iY:∀l:List (List Nat),aV (l.map .str)=TN:=by
 intro d;induction d with
 |nil=>exact TL
 |cons _ r i=>exact i
theorem tO:∀l:List (List UInt8),aV (l.map .bytes)=TN:=by
 intro d;induction d with
 |nil=>exact TL
 |cons _ r i=>exact i
theorem strs_map:∀l:List (List Nat),strsOf (l.map .str)=TK l:=by
 intro d;induction d with
 |nil=>exact TL
 |cons s r i=>show (strsOf (r.map .str)).map (s::·)=_;refine aa (i ..) ?_;rfl
theorem w5:∀l:List (List UInt8),bytesOf (l.map .bytes)=TK l:=by
 intro d;induction d with
 |nil=>exact TL
 |cons s r i=>show (bytesOf (r.map .bytes)).map (s::·)=_;refine aa (i ..) ?_;rfl
theorem py {o:V} (ho:aN o=TN) (d:aN v=TN) (h:lB o n [v]=TK r) (hr:aN r=TN):dv o n [v]=TK r:=by unfold dv;refine aa (TY (by refine aa (ho ..) ?_;show (TN&&(aN v&&TN))=TN;refine aa (d ..) ?_;rfl:(aN o&&aV [v])=TN) ..) (aa (h ..) ?_);exact TY hr
theorem jC {l:List (List Nat)} (d:x=.list (l.map .str)\/x=.tuple (l.map .str)) (h:(aD s l).length+s.length<=av):dv (.str s) .join [x]=TK (.str (aD s l)):=by
 have e:qj s (l.map .str)=TK (.str (aD s l)):=by unfold qj;exact aa (strs_map ..) (aa (QT ..) (aa (TY h ..) TL))
 rcases d with rfl|rfl
 ·exact py (o:=.str s) TL (iY l) e TL
 ·exact py TL (iY l) e TL
theorem pz {l:List (List UInt8)} {xs:List V} (d:xs=l.map .bytes) (h:(aD s l).length<=av):dv (.bytes s) .join [.list xs]=TK (.bytes (aD s l)):=by
 subst d;have e:qk s (l.map .bytes)=TK (.bytes (aD s l)):=by unfold qk;exact aa (w5 ..) (aa (QT ..) (aa (TY h ..) TL))
 exact py TL (tO l) e TL
theorem gx (h:s.all (· <128)=TN):dv (.str s) .encode [.str [97,115,99,105,105]]=TK (.bytes (s.map Pp)):=py TL TL (TY ⟨TL,h⟩) TL
theorem n2 {k:Nat} (h:k<1000000000000000000000):eQ k=TN:=TS ⟨Su (show -iK<0 by decide+kernel) (Pu k),Int.lt_trans (Ps.mpr h) (show ((1000000000000000000000):Int)<iK by decide+kernel)⟩
theorem ty_str (h:yc v=TK r):ye .str [v]=TK r:=h
theorem AM {k:Nat} (h:0<=(k:Int)/\eQ (k:Int)=TN):yc (.int k)=TK (.str (cq k)):=by show (if 0<=(k:Int)/\eQ k=TN then TK (V.str (cq (k:Int).toNat)) else TW)=_;exact aa (TY h ..) (aa (Int.toNat_natCast ..) TL)
theorem eX {k:Nat} (h:k<1000000000000000000000):E6 .str [.int k]=TK (.str (cq k)):=px TL TL (ty_str (AM ⟨Pu k,n2 h⟩)) TL
theorem cZ {d i:Type} {F:i->d}:∀l:List i,aD ([]:List d) (l.map λx=>[F x])=l.map F
 |[]=>rfl
 |[x]=>rfl
 |x::y::r=>by show [F x]++[]++aD [] ((y::r).map λx=>[F x])=_;refine aa (cZ (y::r) ..) ?_;rfl
end
theorem dz {a b:Type} {f g:a->b} {l:List a} (h:l.map f=l.map g) {x:a} (m:x∈l):f x=g x:=QJ.mp h x m
theorem gj {a:Type} {p:a->Bool} {l:List a} (h:l.all p=TN) {x:a} (m:x∈l):p x=TN:=Pa.mp h x m
theorem rS {a:Type} {p:a->Bool} {l:List a} (h:l.head?.any p=TN):∃y r,l=y::r/\p y=TN:=by
 cases l with
 |nil=>exact TU h Pm
 |cons y r=>exact (dC y r TL h)
noncomputable section
noncomputable def inR (a b:Int) (c:UInt8):Bool:=decide (a<=(c.toNat))&&decide ((c.toNat)<=b)
noncomputable def KX (c:UInt8):Bool:=inR 33 126 c
noncomputable def w6 (l:List UInt8) (x:UInt8):Bool:=l.any λc=>decide ((c.toNat:Int)=x.toNat)
noncomputable def jD (c:UInt8):Bool:=KX c&&!w6 [40,41,123,37,42,34,92,93] c
noncomputable def n3 (c:UInt8):Bool:=jD c||decide ((c.toNat:Int)=93)
noncomputable def AN (c:UInt8):Bool:=n3 c&&decide ((c.toNat:Int)≠43)
noncomputable def isVal (c:UInt8):Bool:=KX c&&!w6 [40,41,123,34,93] c
noncomputable def isSet (c:UInt8):Bool:=inR 48 57 c||w6 [58,44,42] c
noncomputable def cE (c:UInt8):Bool:=KX c&&!w6 [91,93,40,41] c
section
variable (n:Nat) (g:FG)
theorem hB (c:UInt8):I (n+1) 308 [.int c.toNat] g=TK (.bool (KX c),g):=by apply fn TL TL;exact ax (my TL TL)
theorem dA (c:UInt8):I (n+1) 350 [.int c.toNat] g=TK (.bool (inR 48 57 c),g):=by apply fn TL TL;exact ax (my TL TL)
theorem tP (c:UInt8):I (n+1) 707 [.int c.toNat] g=TK (.bool (inR 32 126 c),g):=by apply fn TL TL;exact ax (my TL TL)
theorem AO (c:UInt8):I (n+2) 315 [.int c.toNat] g=TK (.bool (jD c),g):=by apply fn TL TL;exact ax (iV (bt TL (aF TL) (hB _ _ _) TL) (ez TL TL pu TL))
theorem u5 (c:UInt8):I (n+2) 336 [.int c.toNat] g=TK (.bool (isVal c),g):=by apply fn TL TL;exact ax (iV (bt TL (aF TL) (hB _ _ _) TL) (ez TL TL pu TL))
theorem pA (c:UInt8):I (n+2) 700 [.int c.toNat] g=TK (.bool (cE c),g):=by apply fn TL TL;exact ax (iV (bt TL (aF TL) (hB _ _ _) TL) (ez TL TL pu TL))
theorem J4 (c:UInt8):I (n+1) 343 [.int c.toNat] g=TK (.bool (isSet c),g):=by apply fn TL TL;exact ax (u4 (my TL TL) (iW TL TL J3))
theorem n4 (c:UInt8):I (n+3) 322 [.int c.toNat] g=TK (.bool (n3 c),g):=by apply fn TL TL;exact ax (u4 (bt TL (aF TL) (AO _ _ _) TL) (ez TL TL TL TL))
theorem J5 (c:UInt8):I (n+4) 329 [.int c.toNat] g=TK (.bool (AN c),g):=by apply fn TL TL;exact ax (iV (bt TL (aF TL) (n4 _ _ _) TL) (ez TL TL TL TL))
end
end
section
section
variable {R:V->List V->FG->Option (V×FG)} {wm:Nm->Option V} {g:FG} {ρ:List Slot} {st:a7} {e it:E} {x:V} {m:Bool} {q:V×a7}
theorem u6 (f:V->List Nat) (a:aB R wm it TO st=TK (x,⟨ρ,g⟩)) (b:cO x=TK items) (c:items.length<=av) (d:∀x∈items,aB R wm e TO ⟨ρ.map hide++[.v x],g⟩=TK (.str (f x),⟨ρ.map hide++[.v x],g⟩)) (h:(aD sep (items.map f)).length+sep.length<=av) (i:ba m (.str (aD sep (items.map f))) ⟨ρ,g⟩=TK q):aB R wm (.a4 (.lit (.str sep)) .join (.cons (.comp e 1 it (.lit (.bool TN))) .nil)) m st=TK q:=nZ TL TL (aF (AI (λx=>.str (f x)) a b c d TL)) (jC (.inl (by refine aa (Po ..) ?_;rfl)) h) i
theorem u7 (f:V->UInt8) (d:aB R wm it TO st=TK (x,⟨ρ,g⟩)) (h:cO x=TK items) (a:items.length<=1000000) (i:∀x∈items,aB R wm e TO ⟨ρ.map hide++[.v x],g⟩=TK (.int (f x).toNat,⟨ρ.map hide++[.v x],g⟩)) (j:ba m (.bytes (items.map f)) ⟨ρ,g⟩=TK q):aB R wm (.call (.lit (.ty .bytes)) (.cons (.comp e 1 it (.lit (.bool TN))) .nil)) m st=TK q:=by
 have b:(items.map λx=>V.int (f x).toNat)=(items.map f).map λc=>.int c.toNat:=by refine aa (Po ..) ?_;rfl
 exact kF (aF (AI (λx=>.int (f x).toNat) d h (O5 a (by decide)) i TL)) (DY b (by refine aa (Pd ..) ?_;exact a) (by refine aa (b ..) ?_;exact AL _)) j
end
theorem kn:da .LtE (.str [a]) (.str [b])=TK (decide (a<=b)):=by
 show TK (!decide ([b]<[a]))=_;by_cases h:a<=b
 ·rw [TS h,TR];· rfl
  intro k;refine PA (List.cons_lt_cons_iff.mp k) (λk=>?_) λk=>?_
  ·exact TU k (Pt.mpr h)
  ·exact TU k.2 (List.not_lt_nil _)
 ·rw [TR h,TS];· rfl
  exact List.cons_lt_cons_iff.mpr (.inl (QA h))
theorem pB (a:aV vs=TN) (h:FY f vs=TK r) (hr:aN r=TN):gw f vs=TK r:=by unfold gw;refine aa (TY a ..) (aa (h ..) ?_);exact TY hr
theorem rT {k:Nat} (h:k<1114112):gw .chr [.int k]=TK (.str [k]):=by refine pB TL ?_ TL;show (fg [V.int k]).bind ya=_;refine aa ((TL:fg [V.int k]=TK (.int k)) ..) (aa (QT ..) ?_);unfold ya;dsimp only;refine aa (TY ⟨Pu k,Ps.mpr h⟩ ..) ?_;rfl
theorem HB {k:Nat} (a:i=(k:Int)) (h:k<1114112):gw .chr [.int i]=TK (.str [k]):=by refine aa (a ..) ?_;exact rT h
noncomputable def oneOf:V->Nat
 |.str [c]=>c
 |_=>0
noncomputable def rU:V->UInt8
 |.int i=>Pp i.toNat
 |_=>0
theorem fU (c:UInt8):rU (.int c.toNat)=c:=by show Pp c.toNat=c;exact aa (Rx ..) TL
noncomputable section
noncomputable def n5 (c:Nat):Nat:=if 97<=c/\c<=122 then c-32 else c
noncomputable def sq (c:UInt8):UInt8:=if 65<=c.toNat/\c.toNat<=90 then c+32 else c
noncomputable def toB (s:List Nat):List UInt8:=s.map Pp
noncomputable def toS' (b:List UInt8):List Nat:=b.map Q4
noncomputable def numOf (b:List UInt8):Int:=b.foldl (λk c=>k*10+c.toNat-48) 0
end
variable (n:Nat) (g:FG)
theorem jE {s:List Nat} (hs:∀c∈s,c<1000) (b:s.length<=1000000):I (n+1) 230 [.str s] g=TK (.str (s.map n5),g):=by
 apply fn TL TL;apply ax;have e:aD [] ((s.map λc=>V.str [c]).map λx=>[n5 (oneOf x)])=s.map n5:=by exact aa (Po ..) (cZ (F:=n5) s)
 refine u6 (λx=>[n5 (oneOf x)]) (items:=s.map λc=>.str [c]) TL TL ?_ ?_ ?_ ?_
 ·refine aa (Pd ..) ?_;exact O5 b (by decide)
 ·intro x d;refine mM d λc f a=>?_;subst a;show _=TK (V.str [n5 c],_);by_cases h:97<=c
  ·by_cases h':c<=122
   ·have e:n5 c=c-32:=TY ⟨h,h'⟩;refine b1 (mA TL TL (by exact aa (kn ..) (aa (TS h ..) TL)) TL kn) (TS h') (iD (aF (ai (iD (aF TL) TL) TL TL)) (HB (k:=n5 c) ?_ ?_))
    ·refine aa (e ..) ?_;exact (KG (O5 (by decide) h)).symm
    ·exact aJ [_,_,_] 0x18c21085982000011842310423f62cc08021 (hs c f) (O9 e) (Tw _ _)
   ·have e:n5 c=c:=TZ λk=>h' k.2;refine dy (mA TL TL (by exact aa (kn ..) (aa (TS h ..) TL)) TL kn) (TR h') ?_;refine aa (e ..) ?_;rfl
  ·have e:n5 c=c:=TZ λk=>h k.1;refine dy (pk TL TL (by exact aa (kn ..) (aa (TR h ..) TL)) TL) TL ?_;refine aa (e ..) ?_;rfl
 ·refine aa (e ..) (aa (Pd ..) ?_);exact O5 (Pg b 0) (by decide)
 ·refine aa (e ..) ?_;rfl
theorem DZ (c:UInt8):I (n+1) 215 [.int c.toNat] g=TK (.int (sq c).toNat,g):=by
 apply fn TL TL;apply ax;by_cases h:65<=c.toNat/\c.toNat<=90
 ·refine b1 (my TL TL) ?_ ?_
  ·show (decide _&&decide _)=TN;refine aa (TS (by exact Ph.mpr (aJ [_] 0x9236000248d821 h.1)) ..) (aa (TS (by exact Ph.mpr (aJ [_] 0x2eac1000bab0421 h.2)) ..) ?_);rfl
  ·have e:sq c=c+32:=TY h;have b:((c+32:UInt8).toNat:Int)=(c.toNat:Int)+32:=by refine aa (UInt8.toNat_add ..) ?_;have:(32:UInt8).toNat=32:=TL;refine aa (this ..) ?_;exact TQ Nat.cast (Nat.mod_eq_of_lt (Pb (Pg h.2 32) (by decide)))
   refine aa (e ..) (aa (b ..) ?_);exact ai TL TL TL
 ·have e:sq c=c:=TZ h;refine aa (e ..) (dy (my TL TL) ?_ TL);show (decide _&&decide _)=TO;by_cases a:(65:Int)<=c.toNat
  ·refine aa (TS a ..) (aa (TR (λd=>h ⟨Ph.mp a,Ph.mp d⟩) ..) ?_);rfl
  ·refine aa (TR a ..) ?_;rfl
theorem D0 (d:b.length<=1000000):I (n+2) 220 [.bytes b] g=TK (.bytes (b.map sq),g):=by
 apply fn TL TL;apply ax;have e:((b.map λc=>V.int c.toNat).map λx=>sq (rU x))=b.map sq:=by exact aa (Po ..) (QI λc _=>TQ sq (fU c))
 refine u7 (λx=>sq (rU x)) TL TL ?_ ?_ ?_
 ·refine aa (Pd ..) ?_;exact d
 ·intro x f;refine mM f λc h a=>?_;subst a;exact aa (fU ..) (bt TL (au TL TL) (DZ _ _ c) TL)
 ·refine aa (e ..) ?_;rfl
end
section
section
variable {g:FG}
theorem kG {i:Nat} (h:b[i]?=TK c):l8 (.bytes b) (.int i) g=TK (.int c.toNat):=by
 have e:fj (.bytes b) (.int i)=TK (.int c.toNat):=by show (if (0:Int)<=i then b[(i:Int).toNat]?.map (λc=>V.int c.toNat) else TW)=_;refine aa (TY (Pu i) ..) ?_;refine aa (h ..) ?_;rfl
 show cf (fj (.bytes b) (.int i))=_;refine aa (e ..) ?_;rfl
theorem nt {i:Nat} (h:b[i]?=TK c):l8 (.str b) (.int i) g=TK (.str [c]):=by
 have e:fj (.str b) (.int i)=TK (.str [c]):=by show (if (0:Int)<=i then b[(i:Int).toNat]?.map (λc=>V.str [c]) else TW)=_;refine aa (TY (Pu i) ..) ?_;refine aa (h ..) ?_;rfl
 show cf (fj (.str b) (.int i))=_;refine aa (e ..) ?_;rfl
theorem J6 {i:Nat} (h:b[i]?=TK c):l8 (.list b) (.int i) g=TK c:=by show (if (0:Int)<=i then b[(i:Int).toNat]? else TW)=_;exact aa (TY (Pu i) ..) h
theorem AQ {i:Nat} (h:b[i]?=TK c):l8 (.tuple b) (.int i) g=TK c:=by show (if (0:Int)<=i then b[(i:Int).toNat]? else TW)=_;exact aa (TY (Pu i) ..) h
theorem rV {x:V} (h:x∈((PN n).map λ(i:Nat)=>(i:Int)).map .int):∃i:Nat,i<n/\x=.int i:=by refine mM h λj b a=>?_;subst a;refine mM b λi c a=>?_;subst a;exact (i12 i (Rl.mp c) TL)
end
variable (n:Nat) (g:FG)
theorem u8 (hs:∀c∈b,c<128) (h:b.length<=1000000):I (n+1) 235 [.bytes b] g=TK (.str (b.map Q4),g):=by
 have d:b.length<=av:=O5 h (by decide);obtain ⟨sl,m⟩:=AH (D:=λst=>aI (ag tab aE wm n) wm (.ite (.cmp .Gt (.sub (.var 0) (.var 1)) (.lit (.int 127))) .raise .skip) st) (j:=1) (ρ:=[.v (.bytes b),.u]) (items:=((PN b.length).map λ(i:Nat)=>(i:Int)).map .int) λx f=>by refine aT (rV f) λi k a=>?_;subst a;have l:=hs _ (Ri k);refine aA (aG (bp TL TL (kG (PC k))) TL TL) ?_ TL;have:(b[i]).toNat<128:=l;exact TR (PK.mpr (Ph.mpr (aJ [_] 0xffb0400442cc08021 this)))
 apply fn TL TL;refine ae (jB (b0 TL (dU d)) TL m) ?_;have e:aD [] ((b.map λc=>V.int c.toNat).map λx=>[(rU x).toNat])=b.map Q4:=by refine aa (Po ..) (bx (cZ (F:=Q4) b ..) ?_);exact TQ _ (QI λc _=>by show [(rU (.int c.toNat)).toNat]=_;exact aa (fU ..) TL)
 apply ax;refine u6 (λx=>[(rU x).toNat]) TL TL ?_ ?_ ?_ ?_
 ·refine aa (Pd ..) ?_;exact d
 ·intro x f;refine mM f λc l a=>?_;subst a;exact aa (fU ..) (iD TL (rT (Qa c.toNat_lt (by decide))))
 ·refine aa (e ..) (aa (Pd ..) ?_);exact O5 (Pg h 0) (by decide)
 ·refine aa (e ..) ?_;rfl
theorem cF (hs:∀c∈s,c<128) (e:s.length<=1000000):I (n+1) 240 [.str s] g=TK (.bytes (toB s),g):=by
 obtain ⟨sl,h⟩:=AH (D:=λst=>aI (ag tab aE wm n) wm (.ite (.cmp .Gt (.call (.lit (.bi .ord)) (.cons (.sub (.var 0) (.var 1)) .nil)) (.lit (.int 127))) .raise .skip) st) (j:=1) (ρ:=[.v (.str s),.u]) (items:=((PN s.length).map λ(i:Nat)=>(i:Int)).map .int) λx d=>by refine aT (rV d) λi f a=>?_;subst a;have b:=hs _ (Ri f);refine aA (aG (iD (aF (bp TL TL (nt (PC f)))) TL) TL TL) ?_ TL;exact TR (PK.mpr (Ph.mpr (aJ [_] 0xffb0400442cc08021 b)))
 apply fn TL TL;refine ae (jB (b0 TL (dU (O5 e (by decide):s.length<=av))) TL h) ?_;apply ax;refine u7 (λx=>Pp (oneOf x)) TL TL ?_ ?_ ?_
 ·refine aa (Pd ..) ?_;exact e
 ·intro x d;refine mM d λc b a=>?_;subst a;have b:=hs c b;refine aa ((by refine aa (Q9 ..) ?_;lia:(Pp c).toNat=c) ..) ?_;exact iD TL TL
 ·refine aa ((by refine aa (Po ..) ?_;rfl:((s.map λc=>V.str [c]).map λx=>Pp (oneOf x))=toB s) ..) ?_;rfl
noncomputable def ak (k:Nat):List UInt8:=toB (cq k)
theorem dB (k:Nat):∀c∈cq k,48<=c/\c<=57:=λc h=>by refine mM h λd hd a=>?_;subst a;have:=Nat.isDigit_of_mem_toDigits (by decide) (by decide) hd;simp only [Char.isDigit,RD,decide_eq_true_eq] at this;exact ⟨this.1,this.2⟩
theorem ik (k:Nat):0<(cq k).length:=by exact aa (Pd ..) Nat.length_toDigits_pos
theorem bH (h:k<10^(j+1)):(cq k).length<=j+1:=by exact aa (Pd ..) ((So (by decide) (Rs j)).mpr h)
theorem n6 {k:Nat} (h:k<1000000000000000000000):I (n+2) 364 [.int k] g=TK (.bytes (ak k),g):=by apply fn TL TL;refine ae (aA TL (TR (PK.mpr (Ph.mpr (aJ [_] 0xac00)))) TL) (ax ?_);refine aw TL (aF (b0 TL (eX h))) (cF _ _ (λc m=>Pb (dB k c m).2 (by decide)) ?_);exact O5 (bH (j:=20) h) (by decide)
end
section
structure At (d:List UInt8) (p:Nat) (l:List UInt8):Prop where
 z:d.length<=1000000
 e:d.drop p=l
section
variable {d l o:List UInt8} {p:Nat} {c:UInt8}
theorem At.step (h:At d p (o++l)):At d (p+o.length) l:=⟨h.z,by exact bx (P9 ..) (aa (h.e ..) (aa (Qd ..) TL))⟩
theorem At.one (h:At d p (c::l)):At d (p+1) l:=At.step (o:=[c]) h
theorem At.lt (h:At d p (c::l)):p<d.length:=by apply PU;intro k;have:=h.e;rw [Qc (Pt.mp k)] at this;cases this
theorem At.get (h:At d p (c::l)):d[p]?=TK c:=by have:=TQ (λx=>x[0]?) h.e;simpa using this
theorem At.ge (h:At d p []):d.length<=p:=Qb.mp h.e
theorem At.len (h:At d p (o++l)):o.length<=1000000:=by have e:=TQ Qh h.e;rw [QC,g3] at e;exact O5 (PV _ _) (O5 (O9 e.symm) (O5 (Tw _ _) h.z))
theorem pC {i j:Nat}:ck (.bytes d) (.int i) (.int j)=TK (.bytes ((d.take j).drop i)):=by
 have e:cN (.bytes d) (.int i) (.int j)=TK (.bytes (eP d (min i d.length) (min j d.length))):=by unfold cN cutAt;dsimp only;refine aa (TY (Pu i) ..) (aa (TY (Pu j) ..) ?_);rfl
 have b:eP d (min i d.length) (min j d.length)=(d.take j).drop i:=by refine aa (List.take_eq_take_min ..) ?_;apply PU;intro k;have:=λh=>k (aa (RO h ..) TL);have a:(List.take (min j d.length) d).length<=d.length:=Sc _ _;exact k ((Qc (Nat.le_min.mpr ⟨O5 a (Nat.le_of_not_le this),a⟩)).trans (Qc (O5 a (Nat.le_of_not_le this))).symm)
 show cf (cN (.bytes d) (.int i) (.int j))=_;refine aa (e ..) (aa (b ..) ?_);rfl
theorem iZ:(d.take (p+k)).drop p=(d.drop p).take k:=by exact aa (SG ..) (aa (RT ..) TL)
theorem tQ (h:h5 b=TN):gE .Mult (.int a) (.int b)=TK (.int (a*b)):=TQ cf (TY (by exact aa (h ..) (aa (Bool.or_true ..) TL)))
end
variable (n:Nat)
theorem AR:∀{b:List UInt8} {k:Int} {sl:Slot},∃a,iT (λst=>aI R wm (.asg 1 (.bin .Sub (.bin .Add (.bin .Mult (.var 1) (.lit (.int 10))) (.var 2)) (.lit (.int 48)))) st) [2] (b.map λc=>.int c.toNat) ⟨[.v x,.v (.int k),sl],g⟩=TK (.next,⟨[.v x,.v (.int (b.foldl (λk c=>k*10+c.toNat-48) k)),a],g⟩):=by
 intro d;induction d with
 |nil=>intro k sl;exact ⟨sl,TL⟩
 |cons c r f=>intro k sl;obtain ⟨a,e⟩:=f;exact ⟨a,fL TL (az (ai (ai (ai TL TL (tQ (by kernel_rfl))) TL TL) TL TL) TL) e⟩
theorem kZ (g:FG):I (n+1) 357 [.bytes b] g=TK (.int (numOf b),g):=by refine cR (AR (R:=ag tab aE wm n) (x:=.bytes b) (g:=g) (b:=b) (k:=0) (sl:=.u)) λsl e=>?_;apply fn TL TL;exact ae TL (ae (jB TL TL e) TL)
theorem AS:∀{a:List Char} {i:Nat},(∀c∈a,48<=c.toNat/\c.toNat<=57)->((a.map Char.toNat).map Pp).foldl (λ(k:Int) c=>k*10+c.toNat-48) i=(Nat.ofDigitChars 10 a i:Nat):=by
 intro b;induction b with
 |nil=>intro i f;refine aa (Nat.ofDigitChars_nil ..) ?_;rfl
 |cons c r d=>
  intro i h;refine aM (h c (.head _)) λg j=>?_;rw [Nat.ofDigitChars_cons,Qe,Qe,RN];have e:i*10+((Pp c.toNat).toNat:Int)-48=((10*i+(c.toNat- '0'.toNat):Nat)):=by
   have:(Pp c.toNat).toNat=c.toNat:=by refine aa (Q9 ..) ?_;lia
   refine aa (this ..) ?_;have: '0'.toNat=48:=TL;refine aa (this ..) ?_;lia
  exact aa (e ..) (d λc m=>h c (.tail _ m))
theorem k0 (k:Nat):numOf (ak k)=k:=by have:=AS (i:=0) λc h=>dB k c.toNat (PI.mpr (i12 c h TL));rw [Nat.ofDigitChars_toDigits (by decide) (by decide)] at this;exact this
section
variable {d l o:List UInt8} {p:Nat} {c:UInt8} {s:Option (List Int×Nat)}
theorem HC (h:At d p (c::l)):I (n+1) 393 [.ref 1] ⟨s,TK (d,p)⟩=TK (.int c.toNat,⟨s,TK (d,p)⟩):=by apply ef TL TL;refine ax (b1 TL (TS (Ps.mpr h.lt)) ?_);exact bp TL TL (kG h.get)
theorem co (h:At d p (o++l)):I (n+1) 400 [.ref 1,.bytes o] ⟨s,TK (d,p)⟩=TK (.bool TN,⟨s,TK (d,p+o.length)⟩):=by
 apply ef TL TL;refine ae (aA (aG (db TL TL TL (pC (i:=p) (j:=p+o.length))) TL TL) ?_ TL) ?_
 ·refine aa (iZ ..) (aa (h.e ..) (aa (QK ..) ?_));exact TR λk=>k TL
 ·exact ae (J1 (p:=p) (k:=o.length) TL TL) TL
theorem bz (h:At d p l) (k:l.take o.length≠o):I (n+1) 400 [.ref 1,.bytes o] ⟨s,TK (d,p)⟩=TK (.bool TO,⟨s,TK (d,p)⟩):=by apply ef TL TL;refine aS (aU (aG (db TL TL TL (pC)) TL TL) ?_ TL);refine aa (iZ ..) (aa (h.e ..) ?_);exact TS k
theorem en (h:At d p (o++l)):I (n+2) 407 [.ref 1,.bytes o,.str w] ⟨s,TK (d,p)⟩=TK (.none,⟨s,TK (d,p+o.length)⟩):=by apply HA TL TL;exact aA (AB (cb TL TL TL TL TL (co _ h))) TL TL
theorem bD (h:At d p (32::l)):I (n+3) 414 [.ref 1] ⟨s,TK (d,p)⟩=TK (.none,⟨s,TK (d,p+1)⟩):=by apply HA TL TL;exact a0 (aH TL TL TL TL TL (en _ h))
end
end
section
section
variable {R:V->List V->FG->Option (V×FG)} {wm:Nm->Option V} {d:List UInt8} {p:Nat} {s:Option (List Int×Nat)} {ρ:List Slot} {m:Bool} {q:V×a7}
theorem n7:aI R wm (.kA (.var 0) .at_ (.bin .Add (.attr (.var 0) .at_) (.lit (.int 1)))) ⟨.v (.ref 1)::ρ,⟨s,TK (d,p)⟩⟩=TK (.next,⟨.v (.ref 1)::ρ,⟨s,TK (d,p+1)⟩⟩):=by kernel_rfl
theorem mE:aB R wm (.call (.lit (.bi .len)) (.cons (.attr (.var 0) .data) .nil)) TO ⟨.v (.ref 1)::ρ,⟨s,TK (d,p)⟩⟩=TK (.int d.length,⟨.v (.ref 1)::ρ,⟨s,TK (d,p)⟩⟩):=by kernel_rfl
theorem mF {k:Nat} (a:aB R wm e TO ⟨.v (.ref 1)::ρ,⟨s,TK (d,p)⟩⟩=TK (.int k,⟨.v (.ref 1)::ρ,⟨s,TK (d,p)⟩⟩)):aB R wm (.cmp .Lt e (.call (.lit (.bi .len)) (.cons (.attr (.var 0) .data) .nil))) TN ⟨.v (.ref 1)::ρ,⟨s,TK (d,p)⟩⟩=TK (.bool (decide (k<d.length)),⟨.v (.ref 1)::ρ,⟨s,TK (d,p)⟩⟩):=by refine aG a mE ?_;show TK (decide ((k:Int)<d.length))=_;exact aa (decide_eq_decide.mpr Ps ..) TL
end
noncomputable section
noncomputable def MA:E:=.and (.cmp .Lt (.attr (.var 0) .at_) (.call (.lit (.bi .len)) (.cons (.attr (.var 0) .data) .nil))) (.call (.var 1) (.cons (.sub (.attr (.var 0) .data) (.attr (.var 0) .at_)) .nil))
noncomputable def MB:S:=.kA (.var 0) .at_ (.bin .Add (.attr (.var 0) .at_) (.lit (.int 1)))
noncomputable def Stop (P:UInt8->Bool) (l:List UInt8):Prop:=∀c r,l=c::r->P c=TO
noncomputable def ko:List UInt8->List UInt8
 |[]=>[]
 |c::r=>if c=34\/c=92 then 92::c::ko r else c::ko r
noncomputable def pD (c:UInt8):Bool:=decide (1<=c.toNat)&&decide (c.toNat<=127)&&decide (c≠13)&&decide (c≠10)
end
theorem Stop.nil:Stop P []:=λ_ _ e=>nomatch e
theorem Stop.cons (h:P c=TO):Stop P (c::l):=λ_ _ e=>by cases e;exact h
variable (n:Nat)
section
variable {d l o:List UInt8} {p a:Nat} {c:UInt8} {s:Option (List Int×Nat)} {P:UInt8->Bool}
theorem aY (h:At d p (c::l)):aB (ag tab aE wm (n+1)) wm (.a4 (.var 0) .peek .nil) TO ⟨.v (.ref 1)::ρ,⟨s,TK (d,p)⟩⟩=TK (.int c.toNat,⟨.v (.ref 1)::ρ,⟨s,TK (d,p)⟩⟩):=aW TL TL TL TL TL (HC n h) TL
theorem AT (hP:∀(c:UInt8) g,I n a [.int c.toNat] g=TK (.bool (P c),g)):∀{o:List UInt8} {p k:Nat},At d p (o++l)->(∀c∈o,P c=TN)->Stop P l->o.length<k-> bk (λst=>aB (ag tab aE wm n) wm MA TN st) (λst=>aI (ag tab aE wm n) wm MB st) k ⟨[.v (.ref 1),.v (.ref a),.v (.int b)],⟨s,TK (d,p)⟩⟩=
   TK (.next,⟨[.v (.ref 1),.v (.ref a),.v (.int b)],⟨s,TK (d,p+o.length)⟩⟩):=by
 intro f;induction f with
 |nil=>
  intro p k h i hs j;rcases k with _|k
  ·first|exact TU j (O7 _)|exact TU hs (O7 _)|exact TU i (O7 _)|exact TU h (O7 _)|exact TU p (O7 _)
  cases l with
  |nil=>exact cP (pt (mF TL) (TR (Pt.mpr h.ge)))
  |cons c r=>refine cP (eg (mF TL) (TS h.lt) (g9 TL (aF (bp (kY TL TL) (kY TL TL) (kG h.get))) (hP c _) ?_));refine aa (hs c r TL ..) ?_;rfl
 |cons c r q=>
  intro p k h ho hs e;rcases k with _|k
  ·first|exact TU e (O7 _)|exact TU hs (O7 _)|exact TU ho (O7 _)|exact TU h (O7 _)|exact TU p (O7 _)
  have h:=h;refine cD (st1:=⟨[.v (.ref 1),.v (.ref a),.v (.int b)],⟨s,TK (d,p)⟩⟩) (eg (mF TL) (TS h.lt) (g9 TL (aF (bp (kY TL TL) (kY TL TL) (kG h.get))) (hP c _) ?_)) n7 ?_
  ·refine aa (ho c (.head _) ..) ?_;rfl
  ·have:=q h.one (λc m=>ho c (.tail _ m)) hs (Q5 e);refine aa (show p+(c::r).length=p+1+r.length by refine aa (O8 ..) ?_;exact eb [_,_] 0x4c0800c10020) ?_;exact this
theorem iE (hP:∀(c:UInt8) g,I n a [.int c.toNat] g=TK (.bool (P c),g)) (h:At d p (o++l)) (ho:∀c∈o,P c=TN) (hs:Stop P l):I (n+1) 428 [.ref 1,.ref a] ⟨s,TK (d,p)⟩=TK (.bytes o,⟨s,TK (d,p+o.length)⟩):=by apply ef TL TL;refine ae TL (ae (eW (AT n hP h ho hs (Pb h.len (by decide)))) (ax (AF TL TL TL (pC) ?_)));refine aa (iZ ..) (aa (h.e ..) (aa (QK ..) ?_));rfl
theorem fV (hP:∀(c:UInt8) g,I n a [.int c.toNat] g=TK (.bool (P c),g)) (ha:aN (.ref a)=TN) (h:At d p (o++l)) (ho:∀c∈o,P c=TN) (hs:Stop P l) (b:o≠[]) (e:∀c∈o,c<128):I (n+2) 435 [.ref 1,.ref a,.str w] ⟨s,TK (d,p)⟩=TK (.str (toS' o),⟨s,TK (d,p+o.length)⟩):=by apply ef TL TL;refine ae (az (aH TL TL TL TL TL (iE n hP h ho hs)) TL) (ae (aA TL ?_ TL) (ax (aw TL TL (u8 n _ e h.len))));refine TR λk=>b (QW.mp (Qm k))
theorem HD (h:At d p (o++l)) (ho:∀c∈o,jD c=TN) (hs:Stop jD l) (b:o≠[]) (e:∀c∈o,c<128):I (n+5) 442 [.ref 1] ⟨s,TK (d,p)⟩=TK (.str (toS' o),⟨s,TK (d,p+o.length)⟩):=by apply ef TL TL;exact ax (aH TL TL TL TL TL (fV (n+2) (λc g=>AO n g c) TL h ho hs b e))
theorem HE (h:At d p (o++l)) (ho:∀c∈o,jD c=TN) (hs:Stop jD l) (e:o≠[]) (f:∀c∈o,c<128):I (n+6) 449 [.ref 1] ⟨s,TK (d,p)⟩=TK (.str ((toS' o).map n5),⟨s,TK (d,p+o.length)⟩):=by
 apply ef TL TL;refine ax (aw TL (aF (aH TL TL TL TL TL (HD n h ho hs e f))) (jE (n+4) _ (λc m=>?_) ?_))
 ·refine mM m λx g b=>?_;subst b;exact Qa x.toNat_lt (by decide)
 ·refine aa (Pd ..) ?_;exact h.len
theorem J7 (h:At d p (o++l)) (ho:∀c∈o,isSet c=TN) (hs:Stop isSet l) (b:o≠[]) (e:∀c∈o,c<128):I (n+4) 463 [.ref 1] ⟨s,TK (d,p)⟩=TK (.str (toS' o),⟨s,TK (d,p+o.length)⟩):=by apply ef TL TL;exact ax (aH TL TL TL TL TL (fV (n+1) (λc g=>J4 n g c) TL h ho hs b e))
theorem pE (h:At d p (o++l)) (ho:∀c∈o,cE c=TN) (hs:Stop cE l) (b:o≠[]) (e:∀c∈o,c<128):I (n+5) 714 [.ref 1] ⟨s,TK (d,p)⟩=TK (.str (toS' o),⟨s,TK (d,p+o.length)⟩):=by apply ef TL TL;exact ax (aH TL TL TL TL TL (fV (n+2) (λc g=>pA n g c) TL h ho hs b e))
theorem eY (k:Nat):∀c∈ak k,inR 48 57 c=TN:=λc h=>by refine mM h λx e b=>?_;subst b;refine aM (dB k x e) λf g=>?_;show (decide _&&decide _)=TN;refine aa ((by refine aa (Q9 ..) ?_;lia:(Pp x).toNat=x) ..) (aa (TS (Ph.mpr (aJ [_] 0x8e160002385821 f)) ..) (aa (TS (Ph.mpr (aJ [_] 0x1e6c100079b0421 g)) ..) ?_));rfl
theorem cG (k:Nat):(ak k).length=(cq k).length:=Pd ..
theorem jF (k:Nat):ak k≠[]:=λe=>by have:=ik k;rw [←cG,e] at this;exact PG _ this
theorem jG (h:At d p (ak k++l)) (hs:Stop (inR 48 57) l) (b:k<10000000000000000000):I (n+3) 477 [.ref 1] ⟨s,TK (d,p)⟩=TK (.int k,⟨s,TK (d,p+(ak k).length)⟩):=by apply ef TL TL;refine ae TL (ae (az (aH TL TL TL TL TL (iE (n+1) (λc g=>dA n g c) h (eY k) hs)) TL) (ae (aA (eB TL (TR (Rd (Ps.mpr (aJ [_] 0xb1600002c58021 (by refine aa (cG ..) ?_;exact ik k:0<(ak k).length))))) TL) (TR (by exact PK.mpr (Ph.mpr (aJ [_] 0xcec100033b0421 (by refine aa (cG ..) ?_;exact bH b:(ak k).length<=19))))) TL) (ax (bt TL TL (kZ (n+1) _) ?_))));refine aa (k0 ..) ?_;rfl
end
end
section
noncomputable section
noncomputable def J8:S:=.seq (.ite (.or (.cmp .Lt (.a4 (.var 0) .peek .nil) (.lit (.int 1))) (.or (.cmp .Gt (.a4 (.var 0) .peek .nil) (.lit (.int 127))) (.cmp .In (.a4 (.var 0) .peek .nil) (.lit (.bytes [13,10]))))) .raise .skip)
  (.seq (.app 1 (.a4 (.var 0) .peek .nil))
  (.kA (.var 0) .at_ (.bin .Add (.attr (.var 0) .at_) (.lit (.int 1)))))
noncomputable def MC:S:=.seq (.ite (.cmp .Eq (.a4 (.var 0) .peek .nil) (.lit (.int 92))) (.seq (.kA (.var 0) .at_ (.bin .Add (.attr (.var 0) .at_) (.lit (.int 1)))) (.ite (.and (.cmp .NotEq (.a4 (.var 0) .peek .nil) (.lit (.int 34))) (.cmp .NotEq (.a4 (.var 0) .peek .nil) (.lit (.int 92)))) .raise .skip)) .skip) J8
noncomputable def eF (q:List UInt8):List UInt8:=34::(ko q++[34])
noncomputable def cr (q:List UInt8):List UInt8:=123::(ak q.length++125::13::10::q)
end
variable (n:Nat)
section
variable {d l o q acc:List UInt8} {p a:Nat} {c:UInt8} {s:Option (List Int×Nat)} {P:UInt8->Bool}
theorem rW (h:At d p (c::l)) (b:pD c=TN) (ha:acc.length<1000000):aI (ag tab aE wm (n+1)) wm J8 ⟨[.v (.ref 1),.mb acc],⟨s,TK (d,p)⟩⟩=TK (.next,⟨[.v (.ref 1),.mb (acc++[c])],⟨s,TK (d,p+1)⟩⟩):=by
 refine ac λi=>aM (aR b) λb e=>aM (aR b) λb f=>aM (aR b) λj r=>i ?_;clear i;have f:c≠13:=TM f;have e:c≠10:=TM e;have g:([13,10].any λ(x:UInt8)=>decide ((x.toNat:Int)=c.toNat))=TO:=by refine Rw.mpr λx m k=>?_;have k:x=c:=Qj.mp (Qm (TM k));subst k;simp only [Pf,Pn,or_false] at m;exact m.elim f e
 refine ae (aA (eB (aG (aY n h) TL TL) (TR (by exact PK.mpr (Ph.mpr (aJ [_] 0xb0000b021 (TM j))))) (eB (aG (aY n h) TL TL) (TR (by exact PK.mpr (Ph.mpr (aJ [_] 0x3fec1000ffb0421 (TM r))))) (aG (aY n h) TL J3))) g TL) (ae (st1:=⟨[.v (.ref 1),.mb (acc++[c])],⟨s,TK (d,p)⟩⟩) ?_ n7);refine mB (xs:=acc) TL (aY n h) TL c.toNat_lt (Qa ha (by decide)) ?_;refine aa (Rx ..) ?_;rfl
theorem eZ (c:UInt8) (r:List UInt8):ko (c::r)=if c=34\/c=92 then 92::c::ko r else c::ko r:=TL
theorem AU:∀{q:List UInt8} {p k:Nat} {acc:List UInt8},At d p (ko q++34::l)->(∀c∈q,pD c=TN)->acc.length+q.length<=1000000->q.length<k-> bk (λst=>aB (ag tab aE wm (n+1)) wm (.cmp .NotEq (.a4 (.var 0) .peek .nil) (.lit (.int 34))) TN st) (λst=>aI (ag tab aE wm (n+1)) wm MC st) k ⟨[.v (.ref 1),.mb acc],⟨s,TK (d,p)⟩⟩=
   TK (.next,⟨[.v (.ref 1),.mb (acc++q)],⟨s,TK (d,p+(ko q).length)⟩⟩):=by
 intro x;induction x with
 |nil=>
  intro p k acc h y z A;rcases k with _|k
  ·first|exact TU A (O7 _)|exact TU z (O7 _)|exact TU y (O7 _)|exact TU h (O7 _)|exact TU acc (O7 _)|exact TU p (O7 _)
  exact aa (Pk ..) (cP (aG (aY n (l:=l) h) TL TL))
 |cons c r u=>
  intro p k acc h j e t;rcases k with _|k
  ·first|exact TU t (O7 _)|exact TU e (O7 _)|exact TU j (O7 _)|exact TU h (O7 _)|exact TU acc (O7 _)|exact TU p (O7 _)
  have f:=λc m=>j c (Qv _ m);rw [O8] at e t;have g:(acc++[c]).length+r.length<=1000000:=by refine aa (g3 ..) ?_;exact s1 e
  have w:acc++c::r=(acc++[c])++r:=by refine aa (Pi ..) ?_;rfl
  by_cases i:c=34\/c=92
  ·rw [eZ,TY i] at h⊢;have h:=h;have:=u (k:=k) h.one.one f g (by exact PR t);refine aa (show p+(92::c::ko r).length=p+1+1+(ko r).length by refine aa (O8 ..) (aa (O8 ..) ?_);exact eb [_,_] 0x4c604000318200020) (aa (w ..) ?_);refine cD (aG (aY n h) TL TL) ?_ this;refine ae (aU (aG (aY n h) TL TL) TL (ae n7 (aA (iV (aG (aY n h.one) TL TL) (aG (aY n h.one) TL TL)) (by rcases i with rfl|rfl<;>rfl:(decide ((c.toNat:Int)≠34)&&decide ((c.toNat:Int)≠92))=TO) TL))) (rW n h.one (j c (.head _)) (by exact s2 e))
  ·rw [eZ,TZ i] at h⊢;have h:=h;have:=u (k:=k) h.one f g (PR t);refine aa (show p+(c::ko r).length=p+1+(ko r).length by refine aa (O8 ..) ?_;exact eb [_,_] 0x4c0800c10020) (aa (w ..) ?_);refine cD (st1:=⟨[.v (.ref 1),.mb acc],⟨s,TK (d,p)⟩⟩) (ez (aY n h) TL TL ?_) ?_ this
   ·exact TQ (λb=>TK (V.bool b,(⟨[.v (.ref 1),.mb acc],⟨s,TK (d,p)⟩⟩:a7))) (TS (λk=>i (.inl (Qj.mp (Qm k)))))
   ·exact ae (aA (aG (aY n h) TL TL) (TR (λk=>i (.inr (Qj.mp (Qm k))))) TL) (rW n h (j c (.head _)) (s2 e))
theorem D1:∀q:List UInt8,q.length<=(ko q).length:=by
 intro e;induction e with
 |nil=>exact Px _
 |cons c r b=>have:=b;refine aa (eZ ..) ?_;split<;>simp only [O8]<;>(first|exact aJ [_,_] 0x18c1000c0800010421 b|exact aJ [_,_] 0x6080c0800010421 b)
theorem rX (h:At d p (eF q++l)) (g:∀c∈q,pD c=TN):I (n+3) 484 [.ref 1] ⟨s,TK (d,p)⟩=TK (.bytes q,⟨s,TK (d,p+(eF q).length)⟩):=by
 have e:At d p ([34]++(ko q++34::l)):=by refine bx ((by unfold eF;simp:eF q++l=[34]++(ko q++34::l)) ..) ?_;exact h
 have b:=e.step;have i:=b.step;have f:=O5 (D1 q) b.len;refine aa ((by unfold eF;simp:(eF q).length=(ko q).length+2) ..) (aa (show p+((ko q).length+2)=p+1+(ko q).length+1 by exact eb [_,_] 0x609810000d10020) ?_);apply ef TL TL;refine ae (a0 (aH TL TL TL TL TL (en n e))) (ae TL (ae (eW (AU (n+1) b g (by simpa using f) (Pb f (by decide)))) (ae n7 TL)))
theorem w7 (h:At d p (cr q++l)):I (n+3) 491 [.ref 1] ⟨s,TK (d,p)⟩=TK (.bytes q,⟨s,TK (d,p+(cr q).length)⟩):=by
 have m:At d p ([123]++(ak q.length++125::13::10::(q++l))):=by refine bx ((by unfold cr;simp:cr q++l=[123]++(ak q.length++125::13::10::(q++l))) ..) ?_;exact h
 have r:=m.step;have b:At d (p+1+(ak q.length).length) ([125,13,10]++(q++l)):=r.step;have f:At d (p+1+(ak q.length).length+3) (q++l):=b.step;have e:(cr q).length=1+(ak q.length).length+3+q.length:=by unfold cr;simp;exact eb [_,_] 0x4e0b0000318c6080000400
 have hd:p+1+(ak q.length).length+3+q.length<=d.length:=by
  have:=TQ Qh f.e;rw [QC,g3] at this;by_cases t:p+1+(ak q.length).length+3<=d.length
  ·exact aJ [_,_,_,_,_,_] 0xc17158400000000ce2b080000600846208021 (O9 (Qf this)) (ow (aJ [_,_,_] 0x1b84c080000006e1302000021 t))
  ·have u:=b.lt;have:=TQ Qh b.e;rw [QC,g3] at this;have e:([125,13,10]:List UInt8).length=3:=TL;exact aJ [_,_,_,_,_,_,_] 0xa67118300000000273002129183000400844170021 (O9 (Qf this)) (ow (aJ [_,_,_] 0x62604000006c1302000021 u)) (O9 (Qf g3))
 refine aa (e ..) (aa (show p+(1+(ak q.length).length+3+q.length)=p+1+(ak q.length).length+3+q.length by exact eb [_,_,_] 0x6e13020000037098000020) ?_);apply ef TL TL;refine ae (a0 (aH TL TL TL TL TL (en n m))) (ae (az (aH TL TL TL TL TL (iE (n+1) (λc g=>dA n g c) r (eY _) (.cons TL))) TL) ?_);refine ae (aA (eB TL (TR (by exact Rd (Ps.mpr (aJ [_] 0xb1600002c58021 (by refine aa (cG ..) ?_;exact ik _:0<(ak q.length).length))))) TL) (TR (by exact PK.mpr (Ph.mpr (aJ [_] 0x1560800ab0421 (by refine aa (cG ..) ?_;exact bH (j:=9) (Pb f.len (by decide)):(ak q.length).length<=10))))) TL) ?_;refine ae (a0 (aH TL TL TL TL TL (bz (n+1) (o:=[43]) b (λk=>by cases k)))) (ae (a0 (aH TL TL TL TL (au (ai TL TL (am (by decide))) TL) (en n b))) ?_);refine ae (az (ai TL (aw TL TL ((λg=>(kZ (n+1) g).trans (by exact aa (k0 ..) TL):∀g,I (n+2) 357 [.bytes (ak q.length)] g=TK (.int q.length,g)) _)) TL) TL) (ae (aA (aG TL mE TL) (TR (by exact PK.mpr (Ph.mpr (aJ [_,_,_,_] 0x20dc2604000000020dc26040000021 hd)):¬((d.length:Int)<((p+1+(ak q.length).length+3:Nat):Int)+(q.length:Nat)))) TL) ?_);refine ae (az (db TL TL TL (pC (i:=p+1+(ak q.length).length+3) (j:=p+1+(ak q.length).length+3+q.length))) TL) (ae (J1 (p:=p+1+(ak q.length).length+3) (k:=q.length) TL TL) (ax (kF TL TL ?_)));refine aa (iZ ..) (aa (f.e ..) (aa (QK ..) ?_));rfl
theorem jZ (h:At d p (eF q++l)) (b:∀c∈q,pD c=TN):I (n+4) 498 [.ref 1] ⟨s,TK (d,p)⟩=TK (.bytes q,⟨s,TK (d,p+(eF q).length)⟩):=by apply ef TL TL;exact ax (dy (aG (aY (n+2) h) TL TL) TL (aH TL TL TL TL TL (rX n h b)))
theorem n8 (h:At d p (cr q++l)):I (n+4) 498 [.ref 1] ⟨s,TK (d,p)⟩=TK (.bytes q,⟨s,TK (d,p+(cr q).length)⟩):=by apply ef TL TL;exact ax (b1 (aG (aY (n+2) h) TL TL) TL (aH TL TL TL TL TL (w7 n h)))
theorem AV (h:At d p (eF q++l)) (b:∀c∈q,pD c=TN):I (n+5) 505 [.ref 1,.ref a] ⟨s,TK (d,p)⟩=TK (.bytes q,⟨s,TK (d,p+(eF q).length)⟩):=by apply ef TL TL;exact aS (aU (AJ (aG (aY (n+3) h) TL TL) TL) TL (ax (aH TL TL TL TL TL (jZ n h b))))
theorem AW (h:At d p (cr q++l)):I (n+5) 505 [.ref 1,.ref a] ⟨s,TK (d,p)⟩=TK (.bytes q,⟨s,TK (d,p+(cr q).length)⟩):=by have b:=h;apply ef TL TL;exact aS (aU (eB (aG (aY (n+3) b) TL TL) TL (aG (aY (n+3) b) TL TL)) TL (ax (aH TL TL TL TL TL (n8 n h))))
theorem AX (hP:∀(c:UInt8) g,I (n+1) a [.int c.toNat] g=TK (.bool (P c),g)) (h:At d p (c::o++l)) (e:(c.toNat:Int)≠34) (b:(c.toNat:Int)≠123) (ho:∀x∈c::o,P x=TN) (hs:Stop P l):I (n+3) 505 [.ref 1,.ref a] ⟨s,TK (d,p)⟩=TK (.bytes (c::o),⟨s,TK (d,p+(c::o).length)⟩):=by have f:=h;apply ef TL TL;refine ae (aA (eB (aG (aY (n+1) f) TL TL) (TR e) (aG (aY (n+1) f) TL TL)) (TR b) TL) ?_;exact ae (az (aH TL TL TL TL TL (iE (n+1) hP h ho hs)) TL) (ae (aA TL (TR (by refine aa (O8 ..) ?_;exact Rd (Ps.mpr (aJ [_] 0x6040c58000)))) TL) TL)
end
end
section
theorem J9 {l:List Bool} (h:xs=l.map .bool):gw .all [.list xs]=TK (.bool (l.all id)):=by
 subst h;have a:∀l:List Bool,(l.map V.bool).all V.KL=TN:=λl=>Pa.mpr λx m=>by obtain ⟨b,_,rfl⟩:=PI.mp m;rfl
 have c:∀l:List Bool,(l.map V.bool).all V.tt=l.all id:=λl=>by refine aa (Tt ..) ?_;rfl
 have d:∀l:List Bool,aV (l.map V.bool)=TN:=λl=>by
  induction l with
  |nil=>rfl
  |cons b r f=>exact f
 have e:yb (.list (l.map .bool))=TK (.bool (l.all id)):=by show (if (l.map V.bool).all V.KL=TN then TK (V.bool ((l.map V.bool).all V.tt)) else TW)=_;exact aa (TY (a l) ..) (aa (c ..) TL)
 refine pB ?_ (show (fg [V.list (l.map .bool)]).bind yb=_ from ?_) TL
 ·show (aV (l.map V.bool)&&TN)=TN;refine aa (d ..) ?_;rfl
 ·exact e
section
variable {R:V->List V->FG->Option (V×FG)} {wm:Nm->Option V} {g:FG} {ρ:List Slot} {e it:E} {x:V} {m:Bool} {q:V×a7}
theorem Ka (f:V->Bool) (a:aB R wm it TO ⟨ρ,g⟩=TK (x,⟨ρ,g⟩)) (b:cO x=TK items) (c:items.length<=av) (d:∀x∈items,aB R wm e TO ⟨ρ.map hide++[.v x],g⟩=TK (.bool (f x),⟨ρ.map hide++[.v x],g⟩)) (h:ba m (.bool (items.all f)) ⟨ρ,g⟩=TK q):aB R wm (.call (.lit (.bi .all)) (.cons (.comp e 1 it (.lit (.bool TN))) .nil)) m ⟨ρ,g⟩=TK q:=by refine AD (aF (AI (λx=>.bool (f x)) a b c d TL)) (J9 (l:=items.map f) (by refine aa (Po ..) ?_;rfl)) ?_;refine aa (Tt ..) ?_;exact h
theorem AY (f:UInt8->Bool) (d:aB R wm it TO ⟨ρ,g⟩=TK (.bytes b,⟨ρ,g⟩)) (h:b.length<=1000000) (i:∀c∈b,aB R wm e TO ⟨ρ.map hide++[.v (.int c.toNat)],g⟩=TK (.bool (f c),⟨ρ.map hide++[.v (.int c.toNat)],g⟩)) (j:ba m (.bool (b.all f)) ⟨ρ,g⟩=TK q):aB R wm (.call (.lit (.bi .all)) (.cons (.comp e 1 it (.lit (.bool TN))) .nil)) m ⟨ρ,g⟩=TK q:=by
 refine Ka (λx=>f (rU x)) d TL ?_ ?_ ?_
 ·refine aa (Pd ..) ?_;exact O5 h (by decide)
 ·intro x k;refine mM k λc l a=>?_;subst a;refine aa (fU ..) ?_;exact i c l
 ·have:(b.map λc=>V.int c.toNat).all (λx=>f (rU x))=b.all f:=by refine aa (Tt ..) ?_;congr 1;funext c;exact TQ f (fU c)
  refine aa (this ..) ?_;exact j
end
noncomputable section
noncomputable def mG (b:List UInt8):Bool:=decide (b.length<=72)&&b.all (inR 32 126)
noncomputable def j0 (b:List UInt8):List UInt8:=if mG b=TN then eF b else cr b
noncomputable def Nw (b:List UInt8):Bool:=decide (0<b.length)&&decide (b.length<=72)&&decide (b.map sq≠[110,105,108])&&b.all n3
end
theorem rY:∀q:List UInt8,(ko q).length<=2*q.length:=by
 intro b;induction b with
 |nil=>exact Px _
 |cons c r a=>have:=a;refine aa (eZ ..) ?_;split<;>simp only [O8]<;>(first|exact aJ [_,_] 0x18200aac6040000042a8421 a|exact aJ [_,_] 0x60802ab02000042a8421 a)
variable (n:Nat) (g:FG)
theorem tR {b:List UInt8} (a:b.length<=1000000):I (n+1) 558 [.bytes b] g=TK (.bool (mG b),g):=by apply fn TL TL;refine ax (iV (s:=decide (b.length<=72)) (t:=b.all (inR 32 126)) (iW (t:=decide (b.length<=72)) TL TL ?_) (AY (inR 32 126) TL a (λc _=>my TL TL) TL));show TK (decide ((b.length:Int)<=(72:Nat)))=_;exact aa (decide_eq_decide.mpr Ph ..) TL
theorem w8 {wm:Nm->Option V} {x:V}:∀{b acc:List UInt8} {sl:Slot},acc.length+2*b.length<=1000000->∃a,iT (λst=>aI R wm (.seq (.ite (.or (.cmp .Eq (.var 2) (.lit (.int 34))) (.cmp .Eq (.var 2) (.lit (.int 92)))) (.app 1 (.lit (.int 92))) .skip) (.app 1 (.var 2))) st) [2] (b.map λc=>.int c.toNat) ⟨[.v x,.mb acc,sl],g⟩=
   TK (.next,⟨[.v x,.mb (acc++ko b),a],g⟩):=by
 intro j;induction j with
 |nil=>intro acc sl l;exact ⟨sl,by refine aa (show ko []=[] from TL) (aa (Pk ..) ?_);rfl⟩
 |cons c r i=>
  intro acc sl d;rw [O8] at d;have f:Pp c.toNat=c:=Rx;by_cases h:c=34\/c=92
  ·obtain ⟨a,e⟩:=i (acc:=acc++[92]++[c]) (sl:=.v (.int c.toNat)) (by refine aa (g3 ..) (aa (g3 ..) ?_);exact aJ [_,_] 0x7d25485842ab1810000003e92a42cc1005508021 d);refine ⟨a,?_⟩;refine aa (eZ ..) (aa (TY h ..) (aa (show acc++92::c::ko r=acc++[92]++[c]++ko r by simp) ?_));refine fL TL ?_ e;refine ae (aU (u4 (aG TL TL TL) (aG TL TL TL)) (by rcases h with rfl|rfl<;>rfl:(decide ((c.toNat:Int)=34)||decide ((c.toNat:Int)=92))=TN) (mB (c:=92) (xs:=acc) TL TL TL (by decide) (Pb (show acc.length<=1000000 by exact bl d) (by decide)) TL)) ?_;refine mB (c:=c.toNat) (xs:=acc++[92]) TL TL TL c.toNat_lt ?_ (by refine aa (f ..) ?_;rfl);refine Pb (m:=1000000) ?_ (by decide);refine aa (g3 ..) ?_;exact s2 d
  ·obtain ⟨a,e⟩:=i (acc:=acc++[c]) (by refine aa (g3 ..) ?_;exact aJ [_,_] 0x1f49521610aac0800003e92a42cc1005508021 d);refine ⟨a,?_⟩;refine aa (eZ ..) (aa (TZ h ..) (aa (show acc++c::ko r=acc++[c]++ko r by simp) ?_));refine fL TL ?_ e;refine ae (aA (eB (aG TL TL TL) (TR (λk=>h (.inl (Qj.mp (Qm k))))) (aG TL TL TL)) (TR (λk=>h (.inr (Qj.mp (Qm k))))) TL) ?_;exact mB (c:=c.toNat) (xs:=acc) TL TL TL c.toNat_lt (Pb (show acc.length<=1000000 by exact bl d) (by decide)) (by refine aa (f ..) ?_;rfl)
theorem Kc (a:b.length<=72):I (n+1) 565 [.bytes b] g=TK (.bytes (eF b),g):=by
 refine cR (w8 (R:=ag tab aE wm n) (wm:=wm) (g:=g) (x:=.bytes b) (acc:=[34]) (sl:=.u) (by exact bL (Q1 _ a) TL)) λsl e=>?_;apply fn TL TL;refine ae (Hv (aF TL) TL) (ae (jB TL TL e) (ae (mB TL TL TL (by decide) ?_ TL) (ax (kF (aF TL) TL ?_))))
 ·refine Pb (m:=1000) ?_ (by decide);refine aa (g3 ..) ?_;exact aJ [_,_] 0x3f62c26000008aa208498b0441 a (rY b)
 ·rfl
theorem Kd (a:b.length<=1000):I (n+3) 573 [.bytes b,.bool TO] g=TK (.bytes (cr b),g):=by
 have z:(ak b.length).length<=10:=by refine aa (cG ..) ?_;exact bH (Pb a (by decide))
 apply fn TL TL;refine aa ((by unfold cr;simp:cr b=[123]++ak b.length++[125]++[13,10]++b) ..) ?_;refine ax (ai (ai (ai (ai TL (aw TL (aF TL) (n6 n _ (Pb a (by decide)))) (am ?_)) (dy TL TL TL) (am ?_)) TL (am ?_)) (b0 (aF TL) TL) (am ?_));all_goals (refine (λk h=>O5 h (by decide):∀k,k<=2000->k<=av) _ ?_;simp only [g3,O8,PD];(first|exact aJ [_] 0xfd8582c0000ab0421 z|exact aJ [_] 0x3f616605800000ab0421 z|exact aJ [_] 0xfd859ac0b0000000ab0421 z|exact aJ [_,_] 0x1fb0b05ac13000000005584108fd8b0421 a z))
theorem AZ (a:b.length<=1000):I (n+4) 581 [.bytes b,.bool TO] g=TK (.bytes (j0 b),g):=by
 apply fn TL TL;have c:=tR (n+2) g (O5 a (by decide));by_cases h:mG b=TN
 ·have e:j0 b=eF b:=TY h;exact aa (e ..) (aS (aU (rR TL (aF TL) c) h (ax (aw TL (aF TL) (Kc (n+2) _ (TM (aR h).1))))))
 ·have e:j0 b=cr b:=TZ h;exact aa (e ..) (ae (aA (rR TL (aF TL) c) (Bool.not_eq_true _▸h) TL) (ax (aw TL (au TL (aF TL)) (Kd n _ a))))
theorem w9 (a:b.length<=1000):I (n+4) 581 [.bytes b] g=TK (.bytes (j0 b),g):=AZ n g a
end
section
variable {R:V->List V->FG->Option (V×FG)} {wm:Nm->Option V} {g:FG} {ρ:List Slot} {st:a7} {e it:E} {x:V} {m:Bool} {q:V×a7} {α:Type} {l:List α}
theorem dM (F G:α->V) (b:aB R wm it TO st=TK (x,⟨ρ,g⟩)) (c:cO x=TK (l.map F)) (d:l.length<=1000000) (f:∀x∈l,aB R wm e TO ⟨ρ.map hide++[.v (F x)],g⟩=TK (G x,⟨ρ.map hide++[.v (F x)],g⟩)) (i:ba m (.list (l.map G)) ⟨ρ,g⟩=TK q):aB R wm (.comp e 1 it (.lit (.bool TN))) m st=TK q:=by
 refine mz b c (by simp only [Pd];exact O5 d (by decide)) ?_ (eE g) i;have:∀(l:List α) acc,(∀x∈l,aB R wm e TO ⟨ρ.map hide++[.v (F x)],g⟩=TK (G x,⟨ρ.map hide++[.v (F x)],g⟩))-> ey (λst=>aB R wm e TO st) (λst=>aB R wm (.lit (.bool TN)) TN st) 1 (ρ.map hide) (l.map F) acc g=TK (acc++l.map G,g):=by
  intro l;induction l with
  |nil=>intro acc _;exact aa (Pk ..) TL
  |cons a r j=>intro acc h;refine mC TL TL (h a (.head _)) ?_;have:=j (acc++[G a]) λx m=>h x (.tail _ m);simp only [Pi] at this;exact this
 exact this l [] f
theorem jH (F:α->V) (f:α->List UInt8) (a:aB R wm it TO st=TK (x,⟨ρ,g⟩)) (b:cO x=TK (l.map F)) (c:l.length<=1000000) (d:∀x∈l,aB R wm e TO ⟨ρ.map hide++[.v (F x)],g⟩=TK (.bytes (f x),⟨ρ.map hide++[.v (F x)],g⟩)) (h:(aD sep (l.map f)).length<=av) (i:ba m (.bytes (aD sep (l.map f))) ⟨ρ,g⟩=TK q):aB R wm (.a4 (.lit (.bytes sep)) .join (.cons (.comp e 1 it (.lit (.bool TN))) .nil)) m st=TK q:=nZ TL TL (aF (dM F (λx=>.bytes (f x)) a b c d TL)) (pz (by simp only [Po];rfl) h) i
theorem hE (F:α->V) (f:α->List Nat) (a:aB R wm it TO st=TK (x,⟨ρ,g⟩)) (b:cO x=TK (l.map F)) (c:l.length<=1000000) (d:∀x∈l,aB R wm e TO ⟨ρ.map hide++[.v (F x)],g⟩=TK (.str (f x),⟨ρ.map hide++[.v (F x)],g⟩)) (h:(aD sep (l.map f)).length+sep.length<=av) (i:ba m (.str (aD sep (l.map f))) ⟨ρ,g⟩=TK q):aB R wm (.a4 (.lit (.str sep)) .join (.cons (.comp e 1 it (.lit (.bool TN))) .nil)) m st=TK q:=nZ TL TL (aF (dM F (λx=>.str (f x)) a b c d TL)) (jC (.inl (by simp only [Po];rfl)) h) i
end
inductive Pc:List UInt8->Prop
 |nil:Pc []
 |one {c o}:c≠13->Pc o->Pc (c::o)
 |lit {q o}:q.length<=1000->Pc o->Pc (cr q++o)
theorem Pc.app (h:Pc a) (k:Pc b):Pc (a++b):=by
 induction h with
 |nil=>exact k
 |one e _ d=>exact .one e d
 |lit f _ d=>refine aa (Pi ..) ?_;exact .lit f d
theorem Pc.plain:∀{o:List UInt8},(∀c∈o,c≠13)->Pc o:=by
 intro a;induction a with
 |nil=>intro d;exact .nil
 |cons _ _ b=>intro h;exact .one (h _ (.head _)) (b λc m=>h c (.tail _ m))
theorem Pc.of (h:(o.all λc=>decide (c≠13))=TN):Pc o:=.plain λc m=>TM (Pa.mp h c m)
theorem mH:∀c∈ak k,c≠13:=λc m e=>by have:=(aR (eY k c m)).1;subst e;exact TU (TM this) (by decide)
theorem Pc.Fr (k:Nat):Pc (ak k):=.plain mH
theorem pF:∀{q:List UInt8},c∈ko q->c∈q\/c=92
 |x::r,h=>by
  simp only [eZ] at h;by_cases b:x=34\/x=92
  ·replace h:=(TY b)▸h;refine PA (Pf.mp h) (λa=>?_) λh=>?_
   ·subst a;exact .inr TL
   ·refine PA (Pf.mp h) (λa=>?_) λh=>?_
    ·subst a;exact .inl (.head _)
    ·exact (pF h).imp (.tail _) id
  ·replace h:=(TZ b)▸h;refine PA (Pf.mp h) (λa=>?_) λh=>?_
   ·subst a;exact .inl (.head _)
   ·exact (pF h).imp (.tail _) id
theorem Pc.oct (h:b.length<=1000):Pc (j0 b):=by
 unfold j0;split
 ·rename_i a;refine .plain λc m e=>?_;subst e;refine PA (Pf.mp m) (λm=>?_) λm=>?_
  ·cases m
  refine PA (PE.mp m) (λm=>?_) λm=>?_
  ·refine PA (pF m) (λm=>?_) λm=>?_
   ·have:=(aR (Pa.mp (aR a).2 _ m)).1;exact TU (TM this) (by decide)
   ·cases m
  ·simp at m
 ·exact (Pk (cr b))▸(.lit h .nil)
structure Wok (L:Nat) (v to:V) (o:List UInt8) (z:Nat):Prop where
 w:∀(n:Nat) (g:FG) (k:Nat),k+L<=25->I (n+L) 593 [v,.int k] g=TK (.bytes o,g)
 t:∀(n:Nat) (g:FG),I (n+L) 612 [v] g=TK (to,g)
 len:o.length<=z
 pc:Pc o
 eq:uH to to=TN
 pl:∀j,b6 (j+(L-7)) to=TN
 cl:aN to=TN
 cv:aN v=TN
structure Good (L:Nat) (v to:V) (o:List UInt8) (z:Nat):Prop extends Wok L v to o z where
 r:∀(n:Nat) (d:List UInt8) (p:Nat) (s:Option (List Int×Nat)) (l:List UInt8) (k:Nat),k+L<=25->At d p (o++l)->Stop isVal l->I (n+L) 546 [.ref 1,.int k] ⟨s,TK (d,p)⟩=TK (v,⟨s,TK (d,p+o.length)⟩)
 hd:∃c r,o=c::r/\c≠41
theorem Wok.up (h:Wok L v to o z) (hL:7<=L) (a:z<=z'):Wok (L+1) v to o z' where
 w:=λn g k b=>by refine aa (show n+(L+1)=(n+1)+L by exact eb [_,_] 0x4c0800c10020) ?_;exact h.w (n+1) g k (aJ [_,_] 0x39b082000039b304008021 b)
 t:=λn g=>by refine aa (show n+(L+1)=(n+1)+L by exact eb [_,_] 0x4c0800c10020) ?_;exact h.t (n+1) g
 len:=O5 h.len a
 pc:=h.pc
 eq:=h.eq
 pl:=λj=>by refine aa (show j+(L+1-7)=(j+1)+(L-7) by exact PJ (aJ [_,_,_,_] 0x1b0800048000243008216081208021 (ow (aJ [_] 0x181048000c821 hL)) (sr _ _)) (aJ [_,_,_,_] 0x110036100000032180219080c08021 (sr _ _) (ow (aJ [_] 0xc8000c821 hL)))) ?_;exact h.pl (j+1)
 cl:=h.cl
 cv:=h.cv
theorem Good.up (h:Good L v to o z) (hL:7<=L) (e:z<=z'):Good (L+1) v to o z':={h.toWok.up hL e with
  r:=λn d p s l k f a b=>by refine aa (show n+(L+1)=(n+1)+L by exact eb [_,_] 0x4c0800c10020) ?_;exact h.r (n+1) d p s l k (aJ [_,_] 0x39b082000039b304008021 f) a b
  hd:=h.hd}
theorem A0:gw .isinstance [.list xs,.tuple [.ty .list,.ty .tuple]]=TK (.bool TN):=by
 unfold gw;split
 ·rfl
 ·rfl
theorem Fs (xs:List V):gw .isinstance [.list xs,.b2]=TK (.bool TO)/\gw .isinstance [.list xs,.ty .bytes]=TK (.bool TO)/\gw .isinstance [.list xs,.ty .int]=TK (.bool TO):=by refine (dQ ?_ ?_ ?_)<;>(unfold gw;split<;>kernel_rfl)
theorem Ft (xs:List V):gw .isinstance [.tuple xs,.tuple [.ty .list,.ty .tuple]]=TK (.bool TN)/\gw .isinstance [.tuple xs,.ty .int]=TK (.bool TO):=by refine ⟨?_,?_⟩<;>(unfold gw;split<;>kernel_rfl)
theorem pG:gw .isinstance [.none,.b2]=TK (.bool TO)/\gw .isinstance [.none,.tuple [.ty .list,.ty .tuple]]=TK (.bool TO):=⟨by kernel_rfl,by kernel_rfl⟩
theorem kp (i:Int):gw .isinstance [.int i,.b2]=TK (.bool TO)/\gw .isinstance [.int i,.ty .bytes]=TK (.bool TO)/\gw .isinstance [.int i,.tuple [.ty .list,.ty .tuple]]=TK (.bool TO)/\gw .isinstance [.int i,.ty .int]=TK (.bool TN):=(B1 (by kernel_rfl) (by kernel_rfl) (by kernel_rfl) (by kernel_rfl))
theorem n9 (b:List UInt8):gw .isinstance [.bytes b,.b2]=TK (.bool TO)/\gw .isinstance [.bytes b,.ty .bytes]=TK (.bool TN)/\gw .isinstance [.bytes b,.tuple [.ty .list,.ty .tuple]]=TK (.bool TO):=(dQ (by kernel_rfl) (by kernel_rfl) (by kernel_rfl))
theorem u9 (b:List Nat):gw .isinstance [.atom b,.b2]=TK (.bool TN)/\gw .isinstance [.atom b,.tuple [.ty .list,.ty .tuple]]=TK (.bool TO):=⟨by kernel_rfl,by kernel_rfl⟩
theorem Fu (b:List Nat):gw .isinstance [.str b,.b2]=TK (.bool TO)/\gw .isinstance [.str b,.tuple [.ty .list,.ty .tuple]]=TK (.bool TO):=⟨by kernel_rfl,by kernel_rfl⟩
theorem A1 (b:Bool):gw .isinstance [.bool b,.b2]=TK (.bool TO)/\gw .isinstance [.bool b,.tuple [.ty .list,.ty .tuple]]=TK (.bool TO):=⟨by kernel_rfl,by kernel_rfl⟩
section
variable (n:Nat) (g:FG)
theorem dj (a:gw .isinstance [v,.tuple [.ty .list,.ty .tuple]]=TK (.bool TO)) (b:gw .isinstance [v,.b2]=TK (.bool TO)):I (n+1) 612 [v] g=TK (v,g):=by apply fn TL TL;exact ae (aA (eA TL a) TL TL) (ae (aA (eA TL b) TL TL) TL)
theorem oa:I (n+1) 612 [.atom b] g=TK (.tuple [.str [97,116,111,109],.str b],g):=by apply fn TL TL;exact ae (aA (eA TL (u9 b).2) TL TL) (aS (aU (eA TL (u9 b).1) TL TL))
theorem mI {a:Type} {l:List a} (F G:a->V) (b:gw .isinstance [v,.tuple [.ty .list,.ty .tuple]]=TK (.bool TN)) (c:cO v=TK (l.map F)) (d:l.length<=1000000) (h:∀x∈l,I n 612 [F x] g=TK (G x,g)):I (n+1) 612 [v] g=TK (.tuple (l.map G),g):=by apply fn TL TL;exact aS (aU (AD TL b TL) TL (ax (kF (au (dM F G TL c d (λx m=>bt TL TL (h x m) TL) TL) TL) TL TL)))
end
section
variable (n:Nat) {d l o:List UInt8} {p:Nat} {c:UInt8} {s:Option (List Int×Nat)}
theorem HF:∀c:UInt8,isVal c=TN->c<128:=λc h=>by have:=TM (aR (aR h).1).2;exact Ru.mpr (show c.toNat<128 by exact aJ [_] 0x110b3020000feb0421 (Ph.mp this))
theorem HG {c:UInt8} (h:inR 48 57 c=TN):sq c=c:=TZ λk=>by have:=TM (aR h).2;lia
theorem D2 (h:inR 48 57 c=TN):isVal c=TN:=by
 have a:=TM (aR h).1;have b:=TM (aR h).2;show ((decide _&&decide _)&&!_)=TN;refine aa (TS (Ph.mpr (aJ [_] 0x8a360002385821 (Ph.mp a))) ..) (aa (TS (Ph.mpr (aJ [_] 0x3fac100079b0421 (Ph.mp b))) ..) ?_);have:w6 [40,41,123,34,93] c=TO:=Rw.mpr λx m k=>by have k:=TM k;have e:=(S7.mp k).symm;have:(48<=x.toNat/\x.toNat<=57):=e▸⟨Ph.mp a,Ph.mp b⟩;exact (show ∀x∈[40,41,123,34,93],¬(48<=Q4 x/\Q4 x<=57) by decide) x m this
 refine aa (this ..) ?_;rfl
theorem MD {v:V} (h:At d p (o++l)) (ho:∀c∈o,isVal c=TN) (hs:Stop isVal l) (u:o≠[]) (j:(o.map sq=[110,105,108]/\v=.none)\/(o.map sq≠[110,105,108]/\((o.all (inR 48 57)=TN/\o.length<=19/\v=.int (numOf o))\/(o.all (inR 48 57)=TO/\v=.atom (toS' o))))):I (n+5) 538 [.ref 1] ⟨s,TK (d,p)⟩=TK (v,⟨s,TK (d,p+o.length)⟩):=by
 have q:=h.len;apply ef TL TL;refine ae TL (ae (az (aH TL TL TL TL TL (iE (n+3) (λc g=>u5 (n+1) g c) h ho hs)) TL) ?_);refine ae (aA TL (TR λk=>u (QW.mp (Qm k))) TL) ?_;have a:=ez (wm:=wm) (op:=.Eq) (m:=TN) (b:=.lit (.bytes [110,105,108])) (bt (i:=220) (m:=TO) (st:=⟨[.v (.ref 1),.v (.int p),.v (.bytes o)],⟨s,TK (d,p+o.length)⟩⟩) TL (au (e:=.var 2) (l:=.nil) TL TL) (D0 (n+2) _ q) TL) TL TL TL;rcases j with ⟨r,rfl⟩|⟨r,j⟩
 ·exact aS (aU a (TS r) TL)
 ·refine ae (aA a (TR r) TL) ?_;have f:=AY (R:=ag tab aE wm (n+4)) (wm:=wm) (m:=TN) (e:=.call (.lit (.ref 350)) (.cons (.var 3) .nil)) (it:=.var 2) (ρ:=[.v (.ref 1),.v (.int p),.v (.bytes o)]) (g:=⟨s,TK (d,p+o.length)⟩) (b:=o) (inR 48 57) TL q (λc _=>bt TL TL (dA (n+3) _ c) TL) TL;rcases j with ⟨t,w,rfl⟩|⟨t,rfl⟩
  ·exact aS (aU f t (ae (aA TL (TR (by exact PK.mpr (Ph.mpr (aJ [_] 0xcec100033b0421 w)))) TL) (ax (aw TL TL (kZ (n+3) _)))))
  ·exact ae (aA f t TL) (ax (tM (aF (aw TL TL (u8 (n+3) _ (λc m=>HF c (ho c m)) q))) TL))
theorem HH (h:At d p (c::o++l)) (b:(c.toNat:Int)≠34) (a:(c.toNat:Int)≠123) (e:(c.toNat:Int)≠40) (f:I (n+5) 538 [.ref 1] ⟨s,TK (d,p)⟩=TK (v,⟨s,TK (d,p+(c::o).length)⟩)):I (n+6) 546 [.ref 1,.int k] ⟨s,TK (d,p)⟩=TK (v,⟨s,TK (d,p+(c::o).length)⟩):=by have h:At d p (c::(o++l)):=h;apply ef TL TL;exact ae (aA (eB (aG (aY (n+4) h) TL TL) (TR b) (aG (aY (n+4) h) TL TL)) (TR a) TL) (aS (aU (aG (aY (n+4) h) TL TL) (TS e) (ax (aH TL TL TL TL TL f))))
theorem A2 (h:At d p (c::l)) (f:c=34\/c=123) {b:Nat} (e:I (n+5) 498 [.ref 1] ⟨s,TK (d,p)⟩=TK (v,⟨s,TK (d,b)⟩)):I (n+6) 546 [.ref 1,.int k] ⟨s,TK (d,p)⟩=TK (v,⟨s,TK (d,b)⟩):=by
 refine PA f (λa=>?_) λa=>?_
 ·subst a;apply ef TL TL;exact aS (aU (AJ (aG (aY (n+4) h) TL TL) TL) TL (ax (aH TL TL TL TL TL e)))
 ·subst a;apply ef TL TL;exact aS (aU (eB (aG (aY (n+4) h) TL TL) TL (aG (aY (n+4) h) TL TL)) TL (ax (aH TL TL TL TL TL e)))
end
noncomputable section
noncomputable def Fv (o:List UInt8):Bool:=!o.isEmpty&&o.all isVal&&decide (o.map sq≠[110,105,108])&&!o.all (inR 48 57)&&decide (o.length<=1000)
end
theorem j1 (h:isVal c=TN):(c.toNat:Int)≠34/\(c.toNat:Int)≠123/\(c.toNat:Int)≠40/\c≠41/\c≠13:=by
 have hp:=TM (aR (aR h).1).1;have a:w6 [40,41,123,34,93] c=TO:=by simpa using (aR h).2
 have key:∀x∈([40,41,123,34,93]:List UInt8),¬((x.toNat:Int)=c.toNat):=λx m k=>Rw.mp a x m (TS k);refine (BY (λk=>key 34 (by simp) k.symm) (λk=>key 123 (by simp) k.symm) (λk=>key 40 (by simp) k.symm) (λk=>key 41 (by simp) (aa (k ..) TL)) (λk=>?_));subst k;exact TU hp (by decide)
theorem i0 {o:List UInt8} (b:o≠[]) (ho:∀c∈o,isVal c=TN) (e:o.length<=z) (f:∀n g k,I (n+10) 593 [v,.int k] g=TK (.bytes o,g)) (ht:∀n g,I (n+10) 612 [v] g=TK (a,g)) (hr:(o.map sq=[110,105,108]/\v=.none)\/(o.map sq≠[110,105,108]/\((o.all (inR 48 57)=TN/\o.length<=19/\v=.int (numOf o))\/(o.all (inR 48 57)=TO/\v=.atom (toS' o))))) (i:uH a a=TN) (q:∀j,b6 (j+3) a=TN) (u:aN a=TN) (x:aN v=TN):Good 10 v a o z where
 w:=λn g k _=>f n g k
 r:=λn d p s l k _ h hs=>by
  cases o with
  |nil=>exact TU TL b
  |cons c r=>exact FJ (j1 (ho c (.head _))) λy A B C=>HH (n+4) h y A B (MD (n+4) h ho hs b hr)
 t:=ht
 hd:=by
  cases o with
  |nil=>exact TU TL b
  |cons c r=>exact (dC c r TL ((j1 (ho c (.head _))).2.2.2.1))
 len:=e
 pc:=.plain λc m=>(j1 (ho c m)).2.2.2.2
 eq:=i
 pl:=q
 cl:=u
 cv:=x
theorem A3:Good 10 .none .none [78,73,76] 100:=by
 refine i0 (by decide) (λc m=>?_) (by decide) (λn g k=>?_) (λn g=>dj _ g pG.2 pG.1) (.inl ⟨TL,TL⟩) TL (λ_=>rfl) TL TL
 ·exact Pa.mp (show ([78,73,76]:List UInt8).all isVal=TN by decide+kernel) c m
 ·apply fn TL TL;exact aS TL
theorem mJ {k:Nat} (b:k<10000000000000000000):Good 10 (.int k) (.int k) (ak k) 100:=by
 have d:(ak k).length<=19:=by refine aa (cG ..) ?_;exact bH (j:=18) b
 have a:(ak k).map sq=ak k:=by exact aa (QI λc m=>HG (eY k c m)) (aa (Tu ..) TL)
 refine i0 (jF k) (λc m=>D2 (eY k c m)) (bT d TL) (λn g j=>?_) (λn g=>dj _ g (kp _).2.2.1 (kp _).1) (.inr ⟨?_,.inl (dQ ?_ d (aa (k0 ..) TL))⟩) (TS TL) (λ_=>rfl) TL TL
 ·apply fn TL TL;refine ae TL (ae (aA (eA TL (kp _).1) TL TL) (ae (aA (eA TL (kp _).2.1) TL TL) (ae (aA (eA TL (kp _).2.2.1) TL TL) (ax (aw TL TL (n6 (n+7) _ (Qa b (by decide))))))))
 ·refine aa (a ..) ?_;intro e;have:=eY k 110 (by refine aa (e ..) ?_;exact .head _);exact TU this (by decide+kernel)
 ·exact Pa.mpr (eY k)
theorem toB_toS (o:List UInt8):toB (toS' o)=o:=by show (o.map Q4).map Pp=o;exact aa (Po ..) ((QI λc _=>Rx).trans (Tu o))
theorem toS_lt {o:List UInt8} (h:∀c∈o,c<128):∀c∈toS' o,c<128:=λc m=>by refine mM m λx b a=>?_;subst a;exact Ru.mp (h x b)
theorem toS_len (o:List UInt8):(toS' o).length=o.length:=Pd ..
theorem A4 (h:Fv o=TN):Good 10 (.atom (toS' o)) (.tuple [.str [97,116,111,109],.str (toS' o)]) o o.length:=by
 refine aM (aR h) λh a=>aM (aR h) λh b=>aM (aR h) λh d=>aM (aR h) λf i=>?_;have ho:=Pa.mp i;refine i0 (λe=>by subst e;cases f) ho (Px _) (λn g j=>?_) (λn g=>oa _ g) (.inr ⟨TM d,.inr ⟨by simpa using b,TL⟩⟩) ?_ (λ_=>rfl) TL TL
 ·apply fn TL TL;have:=cF (n+8) g (toS_lt λc m=>HF c (ho c m)) (by refine aa (toS_len ..) ?_;exact O5 (TM a) (by decide));rw [toB_toS] at this;exact ae TL (aS (aU (eA TL (u9 _).1) TL (ax (aw TL TL this))))
 ·have e:uH (.str (toS' o)) (.str (toS' o))=TN:=TS TL;show (uH (.str [97,116,111,109]) (.str [97,116,111,109])&&(uH (.str (toS' o)) (.str (toS' o))&&wV [] []))=TN;refine aa (e ..) ?_;rfl
theorem A5 (h:b.length<=80):Good 10 (.bytes b) (.bytes b) (j0 b) 200 where
 w:=λn g k _=>by apply fn TL TL;exact ae TL (ae (aA (eA TL (n9 _).1) TL TL) (aS (aU (eA TL (n9 _).2.1) TL (ax (aw TL TL (w9 (n+5) _ (O5 h (by decide))))))))
 r:=λn d p s l k _ a _=>by
  unfold j0 at a⊢;split
  ·rename_i f;rw [TY f] at a;refine A2 (n+4) a (.inl TL) (jZ (n+5) a λc m=>?_);have:=Pa.mp (aR f).2 c m;have i:=TM (aR this).1;show (decide _&&decide _&&decide _&&decide _)=TN;have n1:c≠13:=λe=>by subst e;exact TU i (by decide)
   have j:c≠10:=λe=>by subst e;exact TU i (by decide)
   refine aa (TS (by exact aJ [_] 0x2c0002285821 (Ph.mp i)) ..) (aa (TS (by exact aJ [_] 0x3fec1000feb0421 (Ph.mp (TM (aR this).2))) ..) (aa (TS n1 ..) (aa (TS j ..) ?_)));rfl
  ·rename_i f;rw [TZ f] at a;exact A2 (n+4) a (.inr TL) (n8 (n+5) a)
 t:=λn g=>dj _ g (n9 _).2.2 (n9 _).1
 hd:=by
  unfold j0;split
  ·exact (dC 34 _ TL (by decide))
  ·exact (dC 123 _ TL (by decide))
 len:=by
  unfold j0;split
  ·unfold eF;simp only [O8,g3,PD];exact aJ [_,_] 0x198b31820000008aa2084b0b0441 h (rY b)
  ·unfold cr;simp only [O8,g3];exact bR (PL (by refine aa (cG ..) ?_;exact bH (Pb h (by decide)):(ak b.length).length<=10) (Pg (Pg (Pg h _) _) _)) TL
 pc:=.oct (O5 h (by decide))
 eq:=TS TL
 pl:=λ_=>rfl
 cl:=TL
 cv:=TL
theorem is_list (xs:List V):da .Is (.list xs) .none=TK TO/\da .IsNot (.list xs) .none=TK TN:=by constructor<;>(unfold da;split<;>rfl)
theorem A6 (xs:List V):da .Is (.tuple xs) .none=TK TO/\da .IsNot (.tuple xs) .none=TK TN:=by constructor<;>(unfold da;split<;>rfl)
noncomputable section
noncomputable def aO (os:List (List UInt8)):List UInt8:=os.flatMap λo=>32::o
noncomputable def HI:E:=.not (.a4 (.var 0) .skip (.cons (.lit (.bytes [41])) .nil))
noncomputable def Ke:S:=.seq (.ite (.cmp .Gt (.oC 2) (.lit (.int 0))) (.expr (.a4 (.var 0) .space .nil)) .skip) (.app 2 (.a4 (.var 0) .value (.cons (.bin .Add (.var 1) (.lit (.int 1))) .nil)))
noncomputable abbrev f0:=V×V×List UInt8
noncomputable def aQ (os:List (List UInt8)):List UInt8:=40::(aD [32] os++[41])
end
theorem eI:∀o os,aD [32] (o::os)=o++aO os:=by
 intro o a;induction a generalizing o with
 |nil=>exact (Pk o).symm
 |cons b os c=>show o++[32]++aD [32] (b::os)=_;refine aa (c ..) (aa (Pi ..) ?_);rfl
theorem dk {a:Type} {sep:List a}:∀{os:List (List a)},(∀o∈os,o.length<=z)->(aD sep os).length<=os.length*(z+sep.length)
 |[],_=>QF _
 |[o],h=>by have:=h o (.head _);exact aJ [_,_,_] 0x18801a840010421 this
 |o::b::os,h=>by refine aa ((TL:(o::b::os).length=(b::os).length+1) ..) (aa (To ..) (aa (g3 ..) (aa (g3 ..) ?_)));exact aJ [_,_,_,_,_] 0x2880400ca10000020c2110421 (h o (.head _)) (dk λo m=>h o (Qv _ m))
theorem Pc.join (hs:Pc sep):∀{os:List (List UInt8)},(∀o∈os,Pc o)->Pc (aD sep os)
 |[],_=>.nil
 |[o],h=>h o (.head _)
 |o::a::os,h=>((h o (.head _)).app hs).app (Pc.join hs λo m=>h o (Qv _ m))
theorem pH {a:Type} {f:a->V}:∀{l:List a},(∀x∈l,uH (f x) (f x)=TN)->wV (l.map f) (l.map f)=TN:=by
 intro b;induction b with
 |nil=>intro d;exact TL
 |cons x r c=>intro h;show (uH (f x) (f x)&&wV (r.map f) (r.map f))=TN;refine aa (h x (.head _) ..) (aa (c λx m=>h x (.tail _ m)) ?_);rfl
theorem dc {a:Type} {f:a->V}:∀{l:List a},(∀x∈l,aN (f x)=TN)->aV (l.map f)=TN:=by
 intro b;induction b with
 |nil=>intro d;exact TL
 |cons x r c=>intro h;show (aN (f x)&&aV (r.map f))=TN;refine aa (h x (.head _) ..) (aa (c λx m=>h x (.tail _ m)) ?_);rfl
theorem A7 (a:P 41=TO) (b:P 32=TO) (os:List (List UInt8)) (l:List UInt8):Stop P (aO os++41::l):=by
 cases os with
 |nil=>exact .cons a
 |cons o r=>exact .cons b
theorem bu {a b:Type} {f:a->b} {l:List a} (h:l.length<=k):(l.map f).length<=k:=by refine aa (Pd ..) ?_;exact h
theorem mK {st st1:a7} (b:aB R wm a TN st=TK (.bool TN,st1)):aB R wm (.not a) TN st=TK (.bool TO,st1):=AB b
theorem pI {st st1:a7} (b:aB R wm a TN st=TK (.bool TO,st1)):aB R wm (.not a) TN st=TK (.bool TN,st1):=AB b
section
variable (m:Nat) {k:Nat} {d rest:List UInt8} {s:Option (List Int×Nat)}
noncomputable abbrev Nx (m k:Nat) (d:List UInt8) (s:Option (List Int×Nat)) (l:List f0):Prop:=∀x∈l,(∃c r,x.2.2=c::r/\c≠41)/\∀p rest,At d p (x.2.2++rest)->Stop isVal rest->I (m+10) 546 [.ref 1,.int ((k+1:Nat):Int)] ⟨s,TK (d,p)⟩=TK (x.1,⟨s,TK (d,p+x.2.2.length)⟩)
theorem A8:∀{l:List f0} {acc:List V} {p K:Nat},Nx m k d s l->At d p (aO (l.map (·.2.2))++41::rest)->acc≠[]->acc.length+l.length<=1000->l.length<K-> bk (λst=>aB (ag tab aE wm (m+10)) wm HI TN st) (λst=>aI (ag tab aE wm (m+10)) wm Ke st) K ⟨[.v (.ref 1),.v (.int k),.ml acc],⟨s,TK (d,p)⟩⟩=
   TK (.next,⟨[.v (.ref 1),.v (.int k),.ml (acc++l.map (·.1))],⟨s,TK (d,p+(aO (l.map (·.2.2))).length+1)⟩⟩):=by
 intro e;induction e with
 |nil=>
  intro acc p K f h g i j;rcases K with _|K
  ·first|exact TU j (O7 _)|exact TU i (O7 _)|exact TU g (O7 _)|exact TU h (O7 _)|exact TU f (O7 _)|exact TU p (O7 _)|exact TU acc (O7 _)
  refine aa (Qs ..) (aa (Pk ..) ?_);exact cP (mK (aW TL TL TL TL TL (co (m+9) h) TL))
 |cons x r n=>
  intro acc p K hg h ha a b;rcases K with _|K
  ·first|exact TU b (O7 _)|exact TU a (O7 _)|exact TU ha (O7 _)|exact TU h (O7 _)|exact TU hg (O7 _)|exact TU p (O7 _)|exact TU acc (O7 _)
  rw [O8] at a b;have h:At d p (32::(x.2.2++(aO (r.map (·.2.2))++41::rest))):=by refine bx ((by show (32::x.2.2++aO (r.map (·.2.2)))++41::rest=_;simp:aO ((x::r).map (·.2.2))++41::rest=32::(x.2.2++(aO (r.map (·.2.2))++41::rest))) ..) ?_;exact h
  have c:=h.one;have key:=n (acc:=acc++[x.1]) (λx m=>hg x (.tail _ m)) c.step (by simp) (by refine aa (g3 ..) ?_;exact s1 a) (PR b);have o:p+(aO ((x::r).map (·.2.2))).length+1=p+1+x.2.2.length+(aO (r.map (·.2.2))).length+1:=by refine aa (g3 ..) (aa (O8 ..) ?_);exact eb [_,_,_] 0x183130200000c1b04000400
  refine aa (o ..) (aa ((by simp:acc++(x::r).map (·.1)=acc++[x.1]++r.map (·.1)) ..) ?_);refine cD (pI (aW TL TL TL TL TL (bz (m+9) h (λk=>by cases k)) TL)) ?_ key;exact ae (aU TL (TS (by exact n1 (PY.mpr ha))) (a0 (aW TL TL TL TL TL (bD (m+7) h) TL))) (cY TL (aH TL TL TL TL TL ((hg x (.head _)).2 (p+1) _ c (A7 TL TL _ _))) TL (Pb (show acc.length<=1000 by exact bl a) (by decide)) TL)
theorem A9 (g:k<=25) (hg:Nx m k d s l) (e:l.length<=100) (h:At d p (aQ (l.map (·.2.2))++rest)):I (m+10+1) 546 [.ref 1,.int k] ⟨s,TK (d,p)⟩=TK (.list (l.map (·.1)),⟨s,TK (d,p+(aQ (l.map (·.2.2))).length)⟩):=by
 have a:At d p (40::(aD [32] (l.map (·.2.2))++41::rest)):=by refine bx ((by unfold aQ;simp:aQ (l.map (·.2.2))++rest=40::(aD [32] (l.map (·.2.2))++41::rest)) ..) ?_;exact h
 have b:=a.one;have hd:bk (λst=>aB (ag tab aE wm (m+10)) wm HI TN st) (λst=>aI (ag tab aE wm (m+10)) wm Ke st) turns ⟨[.v (.ref 1),.v (.int k),.ml []],⟨s,TK (d,p+1)⟩⟩=
   TK (.next,⟨[.v (.ref 1),.v (.int k),.ml (l.map (·.1))],⟨s,TK (d,p+(aQ (l.map (·.2.2))).length)⟩⟩):=by
  refine aa ((by unfold aQ;simp;exact Qr _ _:(aQ (l.map (·.2.2))).length=1+(aD [32] (l.map (·.2.2))).length+1) ..) ?_;refine aa ((TL:turns=999999999+1) ..) ?_;cases l with
  |nil=>exact cP (mK (aW TL TL TL TL TL (co (m+9) b) TL))
  |cons x r=>
   rw [Qe,eI,Pi] at b;refine ac λi=>aM (hg x (.head _)) λf hr=>kJ f λc q j n=>i ?_;have key:=A8 m (k:=k) (acc:=[x.1]) (K:=999999999) (λx m=>hg x (.tail _ m)) b.step (by simp) (by rw [O8] at e;exact bL (bl e) TL) (by rw [O8] at e;exact bV (bl e) TL);have o:p+(1+(aD [32] ((x::r).map (·.2.2))).length+1)=p+1+x.2.2.length+(aO (r.map (·.2.2))).length+1:=by refine aa (Qe ..) (aa (eI ..) (aa (g3 ..) ?_));exact eb [_,_,_] 0x183130200000c1880c00020
   refine aa (o ..) (cD (pI (aW TL TL TL TL TL (bz (m+9) b (λk=>by rw [j] at k;cases k;exact n TL)) TL)) ?_ key);exact ae TL (cY TL (aH TL TL TL TL TL (hr (p+1) _ b (A7 TL TL _ _))) TL (by decide) TL)
 apply ef TL TL;refine ae (aA (eB (aG (aY (m+9) a) TL TL) TL (aG (aY (m+9) a) TL TL)) TL TL) (ae (aA (aG (aY (m+9) a) TL TL) TL TL) ?_);exact ae (aA TL (TR (RY (Ps.mpr (aJ [_] 0x3eb302000039b0421 g)):¬((k:Int)=30))) TL) (ae (a0 (aH TL TL TL TL TL (co (m+9) a))) (ae TL (ae (eW hd) TL)))
end
theorem rZ {os:List (List UInt8)} (h:∀o∈os,o.length<=z) (a:os.length<=3):(aQ os).length<=3*(z+1)+2:=by refine aa (O8 ..) (aa (g3 ..) ?_);exact aJ [_,_,_] 0x1ac10075031830000008c2160803a8421 (PH _ a) ((dk (sep:=[32]) h))
theorem r0 {l:List f0} (hL:10<=L) (hg:∀x∈l,Wok L x.1 x.2.1 x.2.2 z) (b:l.length<=3) (e:z<=10000):Wok (L+1) (.list (l.map (·.1))) (.tuple (l.map (·.2.1))) (aQ (l.map (·.2.2))) (3*(z+1)+2) where
 w:=λn g k d=>by
  refine ac λf=>?_;obtain ⟨j,rfl⟩:∃j,L=j+10:=⟨L-10,by exact s5 hL⟩;refine f ?_;have c:(aD [32] (l.map (·.2.2))).length<=100000:=by
   have i:=dk (sep:=[32]) (z:=z) (os:=l.map (·.2.2)) λo m=>by obtain ⟨x,a,rfl⟩:=PI.mp m;exact (hg x a).len
   exact aJ [_,_,_] 0x1c5b50b0c0010c2160403a882115e30b0461 e (PH _ (bu b):(l.map (·.2.2)).length*(z+1)<=3*(z+1)) (i:(aD [32] (l.map (·.2.2))).length<=(l.map (·.2.2)).length*(z+1))
  have line:∀k,k<=200000->k<=av:=λk h=>O5 h (by decide);apply fn TL TL;refine ae (aA (aG TL TL (is_list _).1) TL TL) (ae (aA (eA TL (Fs _).1) TL TL) (ae (aA (eA TL (Fs _).2.1) TL TL) (aS (aU (eA TL A0) TL ?_))));refine ae (aA TL (TR (by exact RY (Ps.mpr (aJ [_,_] 0x1f598100001cd98ab080008021 d)):¬((k:Int)=30))) TL) (ax ?_);refine di (di TL (jH (l:=l) (·.1) (·.2.2) TL TL (O5 b (by decide)) (λx m=>bt TL TL ((λx m=>(hg x m).w n g (k+1) (s1 d):∀x∈l,I (n+(j+10)) 593 [x.1,.int ((k+1:Nat):Int)] g=TK (.bytes x.2.2,g)) x m) TL) (line _ (bT c TL)) TL) (am ?_) TL) TL (am ?_) TL
  ·refine line _ ?_;exact bL c TL
  ·refine line _ ?_;refine aa (g3 ..) ?_;exact bR (Pe c _) TL
 t:=λn g=>mI (n+L) g (l:=l) (·.1) (·.2.1) A0 TL (O5 b (by decide)) λx m=>(hg x m).t n g
 len:=rZ (λo m=>by obtain ⟨x,a,rfl⟩:=PI.mp m;exact (hg x a).len) (bu b)
 pc:=.one (by decide) ((Pc.join (.one (by decide) .nil) λo m=>by obtain ⟨x,a,rfl⟩:=PI.mp m;exact (hg x a).pc).app (.one (by decide) .nil))
 eq:=pH λx m=>(hg x m).eq
 pl:=by intro j;refine aa (show j+(L+1-7)=j+(L-7)+1 by exact PJ (aJ [_,_,_,_] 0x60c800048000243008216081208021 (ow (aJ [_] 0x30209000155821 hL)) (sr _ _)) (aJ [_,_,_,_] 0x1100c1900000032180219080c08021 (sr _ _) (ow (aJ [_] 0x19000155821 hL)))) ?_;exact Pa.mpr λy m=>by obtain ⟨x,a,rfl⟩:=PI.mp m;exact (hg x a).pl j
 cl:=dc λx m=>(hg x m).cl
 cv:=dc λx m=>(hg x m).cv
theorem xa {l:List f0} (hL:10<=L) (hg:∀x∈l,Good L x.1 x.2.1 x.2.2 z) (a:l.length<=3) (c:z<=10000):Good (L+1) (.list (l.map (·.1))) (.tuple (l.map (·.2.1))) (aQ (l.map (·.2.2))) (3*(z+1)+2):={r0 hL (λx m=>(hg x m).toWok) a c with
  r:=λn d p s rest k b h _=>by obtain ⟨j,rfl⟩:∃j,L=j+10:=⟨L-10,by exact s5 hL⟩;exact A9 (n+j) (bl b) (λx m=>⟨(hg x m).hd,λp rest e f=>(hg x m).r n d p s rest (k+1) (s1 b) e f⟩) (O5 a (by decide)) h
  hd:=(dC 40 _ TL (by decide))}
section
noncomputable section
noncomputable abbrev Sg (c:List Int) (a:Nat):FG:=⟨TK (c,a),TW⟩
noncomputable def bd:S->S
 |.seq _ b=>b
 |s=>s
noncomputable def gy (x:f0):V:=.tuple [x.1,x.2.1,.bytes x.2.2]
end
structure Cells (c:List Int):Prop where
 ne:0<c.length
 most:c.length<=60
theorem HJ (h:h5 a=TN):gE .Mult (.int a) (.int b)=TK (.int (a*b)):=TQ cf (TY (by exact aa (h ..) (aa (Bool.true_or ..) TL)))
theorem Ba (h:0<b):gE .Mod (.int a) (.int b)=TK (.int (a.fmod b)):=TQ cf (TY h:binI .Mod a b=TK (.int (a.fmod b)))
theorem Kf {b:Nat} (h:0<b) (h':b<=1000):gE .FloorDiv (.int a) (.int b)=TK (.int (a.fdiv b)):=TQ cf (TY (by refine aa (n2 (Pb h' (by decide)) ..) (aa (TS (show (0:Int)<b from Ps.mpr h) ..) ?_);rfl))
theorem iF (ht:tab f vs.length=TK ⟨k,gG,pd,.plain s⟩) (b:vs.length=k) (hs:aI (ag tab aE wm n) wm s ⟨bQ (vs++gG) pd,Sg c a⟩=TK (.ret v,⟨ρ,Sg c d⟩)):I (n+1) f vs (Sg c a)=TK (v,Sg c d):=pr ht TL b hs TL TL
variable {c:List Int} (hc:Cells c)
include hc
theorem draw (n a:Nat) {k:Nat} (b:0<k):∃r:Nat,r<k/\I (n+1) 835 [.ref 2,.int k] (Sg c a)=TK (.int r,Sg c (a+1)):=by
 have hm:a %c.length<c.length:=Nat.mod_lt _ hc.ne;have d:(a:Int).fmod c.length=((a %c.length:Nat):Int):=by refine aa (Sq _ (Pu _) ..) ?_;rfl
 let w:Int:=(c[a %c.length]'hm)+11*((a:Int).fdiv c.length)
 have e:0<=w.fmod k:=Int.fmod_nonneg_of_pos _ (Ps.mpr b);have f:w.fmod k<k:=Int.fmod_lt_of_pos _ (Ps.mpr b);refine (i12 ((w.fmod k).toNat) (by lia) ?_);refine aa (show (((w.fmod k).toNat:Nat):Int)=w.fmod k from Q2 e) ?_;apply iF TL TL;refine ae TL (ae TL (ae (Hx (x:=(c,a)) TL TL TL TL (by show (0:Int)<=a+1;exact Pu _)) (ax ?_)));refine ai (x:=.int w) (st1:=⟨[.v (.ref 2),.v (.int k),.v (.list (c.map .int)),.v (.int a)],Sg c (a+1)⟩) (di (bp TL (ai TL TL (Ba (Ps.mpr (by refine aa (Pd ..) ?_;exact hc.ne)))) (r:=.int (c[a %c.length]'hm)) ?_) (ai TL (ai TL TL (Kf (by refine aa (Pd ..) ?_;exact hc.ne) (by refine aa (Pd ..) ?_;exact O5 hc.most (by decide)))) (HJ (by kernel_rfl))) TL ?_) TL (Ba (Ps.mpr b))
 ·refine aa (Pd ..) (aa (d ..) ?_);refine J6 ?_;refine aa (PM ..) (aa (PC hm ..) ?_);rfl
 ·refine aa (Pd ..) ?_;rfl
theorem e0 (n a:Nat) (h:0<xs.length):∃x∈xs,I (n+2) 842 [.ref 2,.tuple xs] (Sg c a)=TK (x,Sg c (a+1)):=by refine aT (draw hc n a h) λr hr e=>(i12 (xs[r]) (Ri hr) ?_);apply iF TL TL;exact ax (bp TL (aw TL TL e) (AQ (PC hr)))
omit hc
theorem HK {b:Type} (d:b->V) (P:b->Prop) (step:∀v a,∃x f,aB R wm e TO ⟨ρ++[.v v],Sg c a⟩=TK (d x,⟨ρ++[.v v],Sg c f⟩)/\P x):∀items acc a,∃(l:List b) (f:Nat),l.length=items.length/\(∀x∈l,P x)/\ey (λst=>aB R wm e TO st) (λst=>aB R wm (.lit (.bool TN)) TN st) 1 ρ items acc (Sg c a)=TK (acc++l.map d,Sg c f):=by
 intro i;induction i with
 |nil=>intro acc a;exact (gF [] a TL (λ_ m=>(nomatch m)) (by exact aa (Pk ..) TL))
 |cons v r j=>
  intro acc a;refine ac λk=>kJ (step v a) λx a1 n o=>bB (j (acc++[d x]) a1) λl q s t h=>k ?_;refine (gF (x::l) q (aa (O8 ..) (aa (O8 ..) (aa (s ..) TL))) (λy m=>?_) ?_)
  ·refine PA (Pf.mp m) (λg=>?_) λm=>?_
   ·subst g;exact o
   ·exact t y m
  ·refine mC TL TL n ?_;rw [Pi] at h;exact h
theorem il {d:Type} (f:d->V) (P:d->Prop) (h:k<=1000) (j:aB R wm it TO ⟨ρ,Sg c a⟩=TK (.pW ((PN k).map λ(i:Nat)=>(i:Int)),⟨ρ,Sg c a1⟩)) (step:∀v a,∃x b,aB R wm e TO ⟨ρ.map hide++[.v v],Sg c a⟩=TK (f x,⟨ρ.map hide++[.v v],Sg c b⟩)/\P x):∃(l:List d) (b:Nat),l.length=k/\(∀x∈l,P x)/\aB R wm (.comp e 1 it (.lit (.bool TN))) TO ⟨ρ,Sg c a⟩=TK (.list (l.map f),⟨ρ,Sg c b⟩):=by
 refine bB (HK f P step (((PN k).map λ(i:Nat)=>(i:Int)).map .int) [] a1) λl b m n o=>?_;have g:(((PN k).map λ(i:Nat)=>(i:Int)).map V.int).length=k:=by exact aa (Pd ..) (aa (Pd ..) (aa (QH ..) TL))
 exact (gF l b (m.trans g) n (mz j TL (by refine aa (g ..) ?_;exact O5 h (by decide)) o TL TL))
end
section
noncomputable section
noncomputable def Im:S:=bd pi
noncomputable def ME:S->S
 |.seq a _=>a
 |s=>s
noncomputable def Kg:S->S
 |.ite _ a _=>a
 |s=>s
noncomputable def Ny:S:=bd (Kg (ME (bd (bd (bd Im)))))
noncomputable def Io:List V:=[.bytes [],.bytes [112,108,97,105,110],.bytes [97,34,98,92],.bytes [108,105,110,101,13,10,108,105,110,101],.bytes [123,50,125,13,10],.bytes [0,255],.bytes (PF 73 121),.bytes [78,73,76]]
noncomputable def vb (t:List Nat):Bool:=Fv (toB t)&&decide (toS' (toB t)=t)&&t.all (· <128)&&decide (t.length<=80)
noncomputable def Fw:V->Bool
 |.str t=>vb t
 |_=>TO
end
theorem Bb (h:Fw x=TN):∃t,x=.str t/\vb t=TN:=by
 cases x with
 |str t=>exact (i12 t TL h)
 |_=>cases h
theorem jI (h:vb t=TN):Good 10 (.atom t) (.tuple [.str [97,116,111,109],.str t]) (toB t) 200:=by refine ac λa=>aM (aR h) λh b=>aM (aR h) λh e=>aM (aR h) λc d=>a ?_;have:=A4 c;rw [TM d] at this;exact {this with len:=by refine aa (show (toB t).length=t.length from Pd ..) ?_;exact O5 (TM b) (by decide)}
theorem D3 (h:vb t=TN):dv (.str t) .encode [.str [97,115,99,105,105]]=TK (.bytes (toB t)):=gx (aR (aR h).1).2
theorem im (k:Nat):dv (.str (cq k)) .encode [.str [97,115,99,105,105]]=TK (.bytes (ak k)):=gx (Pa.mpr λc m=>TS (Pb (dB k c m).2 (by decide)))
variable {c:List Int}
theorem HL {wm:Nm->Option V} (d:x∈Io):∃b,x=.bytes b/\b.length<=80/\ aI R wm Ny ⟨[.v (.ref 2),.v (.int j),.v (.int r),.u,.u,.v x,.u],Sg c a⟩=TK (.ret (gy (.bytes b,.bytes b,j0 b)),⟨[.v (.ref 2),.v (.int j),.v (.int r),.u,.u,.v x,.u],Sg c a⟩):=by refine aT (any_some (gj (p:=λx:V=>(cM x).any λb:List UInt8=>decide (b.length<=80)) (show Io.all _=TN by kernel_rfl) d)) λb e h=>?_;obtain rfl:=bF e;exact (eK b TL (TM h) (dz (f:=λx:V=>aI R wm Ny ⟨[.v (.ref 2),.v (.int j),.v (.int r),.u,.u,.v x,.u],Sg c a⟩) (g:=λx=>TK (.ret (gy (x,x,j0 ((cM x).getD []))),⟨[.v (.ref 2),.v (.int j),.v (.int r),.u,.u,.v x,.u],Sg c a⟩)) (show Io.map _=Io.map _ by kernel_rfl) d))
variable (hc:Cells c)
include hc
theorem vd (n a j r:Nat) (hr:r<6):∃(x:f0) (m:Nat) (ρ:List Slot),aI (ag tab aE wm (n+5)) wm Im ⟨[.v (.ref 2),.v (.int j),.v (.int r),.u,.u,.u,.u],Sg c a⟩=TK (.ret (gy x),⟨ρ,Sg c m⟩)/\Good 10 x.1 x.2.1 x.2.2 200:=by
 have o:∀r:Nat,(r=1\/r=2)->∀k,0<k->k<=1000000000000000000->(gE .Pow (.int 10) (.int 18)=TK (.int (1000000000000000000:Nat)))->(r=1->k=7)->(r=2->k=1000000000000000000)->∃(x:f0) (m:Nat) (ρ:List Slot),aI (ag tab aE wm (n+5)) wm Im ⟨[.v (.ref 2),.v (.int j),.v (.int r),.u,.u,.u,.u],Sg c a⟩=TK (.ret (gy x),⟨ρ,Sg c m⟩)/\Good 10 x.1 x.2.1 x.2.2 200:=by
  intro r hr k z w hp A B;refine ac λh=>aT (draw hc (n+4) a z) λi y e=>h ?_;clear h;have g:=mJ (k:=i) (by exact aJ [_,_] 0x235cbca70a633ec42108598200001608010b7d0ddb73d5ed484210b0421 w y);refine (xN (.int i,.int i,ak i) (a+1) [.v (.ref 2),.v (.int j),.v (.int r),.v (.int i),.u,.u,.u] ?_ ({g with len:=O5 g.len (by decide)}));have fin:aI (ag tab aE wm (n+5)) wm (.ret (.tup (.cons (.var 3) (.cons (.var 3) (.cons (.a4 (.call (.lit (.ty .str)) (.cons (.var 3) .nil)) .encode (.cons (.lit (.str [97,115,99,105,105])) .nil)) .nil))))) ⟨[.v (.ref 2),.v (.int j),.v (.int r),.v (.int i),.u,.u,.u],Sg c (a+1)⟩=TK (.ret (gy (.int i,.int i,ak i)),⟨[.v (.ref 2),.v (.int j),.v (.int r),.v (.int i),.u,.u,.u],Sg c (a+1)⟩):=ax (aX (au TL (au TL (aF (bn (b0 TL (eX (by exact aJ [_,_] 0x3b4ebccebbcaf7da842108598200001608010b7d0ddb73d5ed484210b0421 w y))) TL TL (im i))))));rcases hr with rfl|rfl
  ·rw [A TL] at e;exact ae TL (aS (cC TL (ae (az (aw TL (au TL (aF (bp (aX (au TL (aF (ai TL TL hp)))) TL (AQ (i:=0) TL)))) e) TL) fin)))
  ·rw [B TL] at e;exact ae TL (aS (cC TL (ae (az (aw TL (au TL (aF (bp (aX (au TL (aF (ai TL TL hp)))) TL (AQ (i:=1) TL)))) e) TL) fin)))
 have hp:gE .Pow (.int 10) (.int 18)=TK (.int (1000000000000000000:Nat)):=by kernel_rfl
 have f:r=0\/r=1\/r=2\/r=3\/r=4\/r=5:=NZ hr;have l:∀r:Nat,(r=4\/r=5)->∃(x:f0) (m:Nat) (ρ:List Slot),aI (ag tab aE wm (n+5)) wm Im ⟨[.v (.ref 2),.v (.int j),.v (.int r),.u,.u,.u,.u],Sg c a⟩=TK (.ret (gy x),⟨ρ,Sg c m⟩)/\Good 10 x.1 x.2.1 x.2.2 200:=by
  intro r hr;refine ac λh=>aT (e0 hc (n+3) a (xs:=Io) (by decide)) λx q e=>ix (HL (R:=ag tab aE wm (n+5)) (wm:=wm) (c:=c) q (a:=a+1) (j:=j) (r:=r)) λb D C ev=>h ?_;clear h;refine (xN (.bytes b,.bytes b,j0 b) (a+1) [.v (.ref 2),.v (.int j),.v (.int r),.u,.u,.v x,.u] ?_ (A5 C));have d:aI (ag tab aE wm (n+5)) wm (.asg 5 (.call (.lit (.ref 842)) (.cons (.var 0) (.cons (.tup (.cons (.lit (.bytes [])) (.cons (.lit (.bytes [112,108,97,105,110])) (.cons (.lit (.bytes [97,34,98,92])) (.cons (.lit (.bytes [108,105,110,101,13,10,108,105,110,101])) (.cons (.lit (.bytes [123,50,125,13,10])) (.cons (.lit (.bytes [0,255])) (.cons (.bin .Mult (.lit (.bytes [121])) (.lit (.int 73))) (.cons (.lit (.bytes [78,73,76])) .nil))))))))) .nil)))) ⟨[.v (.ref 2),.v (.int j),.v (.int r),.u,.u,.u,.u],Sg c a⟩=TK (.next,⟨[.v (.ref 2),.v (.int j),.v (.int r),.u,.u,.v x,.u],Sg c (a+1)⟩):=az (aw TL (au TL (aF (aX (by kernel_rfl:cn (ag tab aE wm (n+5)) wm (.cons (.lit (.bytes [])) (.cons (.lit (.bytes [112,108,97,105,110])) (.cons (.lit (.bytes [97,34,98,92])) (.cons (.lit (.bytes [108,105,110,101,13,10,108,105,110,101])) (.cons (.lit (.bytes [123,50,125,13,10])) (.cons (.lit (.bytes [0,255])) (.cons (.bin .Mult (.lit (.bytes [121])) (.lit (.int 73))) (.cons (.lit (.bytes [78,73,76])) .nil)))))))) ⟨[.v (.ref 2),.v (.int j),.v (.int r),.u,.u,.u,.u],Sg c a⟩=TK (Io,⟨[.v (.ref 2),.v (.int j),.v (.int r),.u,.u,.u,.u],Sg c a⟩))))) e) TL;rcases hr with rfl|rfl
  ·exact ae TL (ae TL (ae TL (aS (cC TL (ae d ev)))))
  ·exact ae TL (ae TL (ae TL (aS (cC TL (ae d ev)))))
 rcases f with rfl|rfl|rfl|rfl|rfl|rfl
 ·exact (xN (.none,.none,[78,73,76]) a _ (aS TL) ({A3 with len:=by decide}))
 ·exact o 1 (.inl TL) 7 (by decide) (by decide) hp (λ_=>rfl) (λk=>by cases k)
 ·exact o 2 (.inr TL) 1000000000000000000 (by decide) (by decide) hp (λk=>by cases k) (λ_=>rfl)
 ·refine aT (e0 hc (n+3) a (xs:=[.str [92,83,101,101,110],.str [49,58,51],.str [97,45,98],.str [36,120],.str [49,46,50,46],.str [60,120,62]]) (by decide)) λx q e=>ac λh=>aT (Bb (Pa.mp (show ([.str [92,83,101,101,110],.str [49,58,51],.str [97,45,98],.str [36,120],.str [49,46,50,46],.str [60,120,62]]:List V).all Fw=TN by decide+kernel) x q)) λt s ht=>?_;subst s;refine h ?_;clear h;refine (xN (.atom t,.tuple [.str [97,116,111,109],.str t],toB t) (a+1) [.v (.ref 2),.v (.int j),.v (.int (3:Nat)),.u,.v (.str t),.u,.u] ?_ (jI ht));refine ae TL (ae TL (aS (cC TL (ae (az (aw TL TL e) TL) (ax ?_)))));exact aX (au TL (au TL (aF (bn TL TL TL (D3 ht)))))
 ·exact l 4 (.inl TL)
 ·exact l 5 (.inr TL)
omit hc in
theorem D4 {n L z j a m:Nat} {l:List f0} (R:V->List V->FG->Option (V×FG)) (f:l.length<=3) (g:z<=10000) (hg:∀x∈l,Good L x.1 x.2.1 x.2.2 z):∃ρ,aI R wm (bd (bd (bd (bd (bd Im))))) ⟨[.v (.ref 2),.v (.int j),.v (.int m),.u,.u,.u,.v (.list (l.map gy))],Sg c a⟩=TK (.ret (gy (.list (l.map (·.1)),.tuple (l.map (·.2.1)),aQ (l.map (·.2.2)))),⟨ρ,Sg c a⟩):=by
 have d:∀o∈l.map (·.2.2),o.length<=z:=λo m=>by obtain ⟨x,i,rfl⟩:=PI.mp m;exact (hg x i).len
 have e:(aD [32] (l.map (·.2.2))).length<=100000:=by exact aJ [_,_,_] 0x1c5b50b0c0010c2160403a882115e30b0461 g (PH _ (bu f)) ((dk (sep:=[32]) d))
 have line:∀k,k<=200000->k<=av:=λk h=>O5 h (by decide);have b:l.length<=1000000:=O5 f (by decide);refine ⟨_,ae (az (ai (ai TL (jH gy (·.2.2) TL TL b (λx m=>rfl) (line _ (bT e TL)) TL) (am ?_)) TL (am ?_)) TL) (ax (aX (au (dM gy (·.1) TL TL b (λx m=>rfl) TL) (au (b0 (aF (dM gy (·.2.1) TL TL b (λx m=>rfl) TL)) TL) TL))))⟩
 ·refine line _ ?_;exact bL e TL
 ·refine line _ ?_;refine aa (g3 ..) ?_;exact bR (Pe e _) TL
theorem D5 (n a j r L z:Nat) (hr:¬r<6) (hL:10<=L) (f:z<=10000) (step:∀a,∃(x:f0) (b:Nat),I (n+5) 847 [.ref 2,.int (j+1:Nat)] (Sg c a)=TK (gy x,Sg c b)/\Good L x.1 x.2.1 x.2.2 z):∃(x:f0) (b:Nat) (ρ:List Slot),aI (ag tab aE wm (n+5)) wm Im ⟨[.v (.ref 2),.v (.int j),.v (.int r),.u,.u,.u,.u],Sg c a⟩=TK (.ret (gy x),⟨ρ,Sg c b⟩)/\Good (L+1) x.1 x.2.1 x.2.2 (3*(z+1)+2):=by
 refine ac λh=>aT (draw hc (n+4) a (k:=4) (by decide)) λk d q=>?_;obtain ⟨l,b,s,i,t⟩:=il (c:=c) (R:=ag tab aE wm (n+5)) (e:=.call (.lit (.ref 847)) (.cons (.var 0) (.cons (.bin .Add (.var 1) (.lit (.int 1))) .nil))) (it:=.call (.lit (.ty .range)) (.cons (.call (.lit (.ref 835)) (.cons (.var 0) (.cons (.lit (.int 4)) .nil))) .nil))
  (ρ:=[.v (.ref 2),.v (.int j),.v (.int r),.u,.u,.u,.u]) (k:=k) (a:=a) (a1:=a+1) gy (λx=>Good L x.1 x.2.1 x.2.2 z) (by exact bW d TL) (kF (au (bt TL TL q TL) TL) (dU (O5 (Pw d) (by decide))) TL) λv a=>by exact kJ (step a) λx b e g=>(dC x b (bt TL TL e TL) g)
 have o:l.length<=3:=by exact aJ [_,_] 0x1c200022085ec08021 d (O9 s)
 refine cR (D4 (c:=c) (n:=n) (a:=b) (j:=j) (m:=r) (ag tab aE wm (n+5)) o f i) λρ w=>h ?_;clear h;refine (xN (.list (l.map (·.1)),.tuple (l.map (·.2.1)),aQ (l.map (·.2.2))) b ρ ?_ (xa hL i o f));exact ae (aA TL (TR (by exact Rd (Ps.mpr (aJ [_] 0x2c580000c421 (P7 hr))):¬((r:Int)=0))) TL) (ae (aA TL (TR (by exact PK.mpr (Ph.mpr (aJ [_] 0xb8000c421 (P7 hr))):¬((r:Int)<3))) TL) (ae (aA TL (TR (by exact Rd (Ps.mpr (aJ [_] 0x2c700000c421 (P7 hr))):¬((r:Int)=3))) TL) (ae (aA TL (TR (by exact PK.mpr (Ph.mpr (aJ [_] 0xc4000c421 (P7 hr))):¬((r:Int)<6))) TL) (ae (az t TL) w))))
theorem MF (n a:Nat):∃(x:f0) (b:Nat),I (n+6) 847 [.ref 2,.int (2:Nat)] (Sg c a)=TK (gy x,Sg c b)/\Good 10 x.1 x.2.1 x.2.2 200:=by refine ac λd=>aT (draw hc (n+4) a (by decide)) λr hr f=>xL (vd hc n (a+1) 2 r hr) λx b ρ e g=>d ?_;refine (dC x b ?_ g);apply iF TL TL;exact ae (az (aw TL TL f) TL) e
theorem vf (n a j L z:Nat) (m:j<2) (hL:10<=L) (o:L<=11) (d:200<=z) (q:z<=10000) (step:∀a,∃(x:f0) (b:Nat),I (n+5) 847 [.ref 2,.int (j+1:Nat)] (Sg c a)=TK (gy x,Sg c b)/\Good L x.1 x.2.1 x.2.2 z):∃(x:f0) (b:Nat),I (n+6) 847 [.ref 2,.int j] (Sg c a)=TK (gy x,Sg c b)/\Good (L+1) x.1 x.2.1 x.2.2 (3*(z+1)+2):=by
 refine aT (draw hc (n+4) a (k:=8) (by decide)) λr hr h=>?_;have i:(j:Int)<2:=by exact Ps.mpr (aJ [_] 0x6b020001ac08021 m)
 by_cases l:r<6
 ·refine xL (vd hc n (a+1) j r l) λx b ρ e g=>(dC x b ?_ ?_)
  ·apply iF TL TL;exact ae (az (aw TL (au TL (aF (b1 TL (TS i) TL))) h) TL) e
  ·by_cases f:L=10
   ·subst f;exact g.up (by decide) (aJ [_] 0x1ac08075033160002cc5861 d)
   ·have:L=11:=by lia
    subst this;exact (g.up (by decide) (Px _)).up (by decide) (aJ [_] 0x1ac08075033160002cc5861 d)
 ·refine xL (D5 hc n (a+1) j r L z l hL q step) λx b ρ e g=>(dC x b ?_ g);apply iF TL TL;exact ae (az (aw TL (au TL (aF (b1 TL (TS i) TL))) h) TL) e
theorem od (n a:Nat):∃(x:f0) (b:Nat),I (n+8) 847 [.ref 2,.int (0:Nat)] (Sg c a)=TK (gy x,Sg c b)/\Good 12 x.1 x.2.1 x.2.2 1820:=vf hc (n+2) a 0 11 605 (by decide) (by decide) (by decide) (by decide) (by decide) λa=>vf hc (n+1) a 1 10 200 (by decide) (by decide) (by decide) (by decide) (by decide) λa=>MF hc n a
end
noncomputable section
noncomputable def Bc (t:List Nat):Bool:=t.all (· <128)&&decide (t.length<=80)&&!t.isEmpty&&(toB t).all isVal&&decide (toS' (toB t)=t)
noncomputable def Fy:V->Bool
 |.str t=>Bc t
 |_=>TO
noncomputable def fW (t:List Nat):V:=.tuple [.str [97,116,111,109],.str t]
noncomputable def tS:List V:=[.str [92,83,101,101,110],.str [92,42],.str [36,77,105,110,101],.str [49,50],.str [78,73,76],.str [97,46,98,43,99]]
noncomputable def og (ts:List (List Nat)):V:=.tuple [.tuple (ts.map .str),.list (ts.map .atom),.tuple (ts.map fW),.bytes (aQ (ts.map toB))]
noncomputable def Dl (l:List UInt8):Prop:=∃r,l=32::r\/l=41::r
end
theorem Bd (h:Fy x=TN):∃t,x=.str t/\Bc t=TN:=by
 cases x with
 |str t=>exact (i12 t TL h)
 |_=>cases h
structure nu (t:List Nat):Prop where
 asc:t.all (· <128)=TN
 len:t.length<=80
 ne:toB t≠[]
 val:∀c∈toB t,isVal c=TN
 back:toS' (toB t)=t
theorem toB_len (t:List Nat):(toB t).length=t.length:=Pd ..
theorem nu.of (h:Bc t=TN):nu t:=by exact aM (aR h) λh a=>aM (aR h) λh b=>aM (aR h) λh d=>aM (aR h) λf g=>⟨f,TM g,λe=>by cases t with|nil=>(cases d)|cons=>(cases e),Pa.mp b,TM a⟩
theorem nu.lt (h:nu t):∀c∈t,c<128:=λc m=>TM (Pa.mp h.asc c m)
theorem toB_join (sep:List Nat):∀ts:List (List Nat),toB (aD sep ts)=aD (toB sep) (ts.map toB)
 |[]=>rfl
 |[_]=>rfl
 |t::a::r=>by show toB (t++sep++aD sep (a::r))=toB t++toB sep++aD (toB sep) ((a::r).map toB);refine bx (toB_join sep (a::r) ..) ?_;unfold toB;exact aa (Qk ..) (aa (Qk ..) TL)
theorem hG {a:Type} {P:a->Prop} {sep:List a} (hs:∀c∈sep,P c):∀{ts:List (List a)},(∀t∈ts,∀c∈t,P c)->∀c∈aD sep ts,P c
 |[],_,_,m=>nomatch m
 |[t],h,c,m=>h t (.head _) c m
 |t::b::r,h,c,m=>by
  refine PA (PE.mp (show c∈t++sep++aD sep (b::r) from m)) (λm=>?_) λm=>?_
  ·exact (PE.mp m).elim (h t (.head _) c) (hs c)
  ·exact hG hs (λt m=>h t (Qv _ m)) c m
theorem Be (h:nu t):Wok 10 (.atom t) (fW t) (toB t) 100 where
 w:=λn g k _=>by apply fn TL TL;exact ae TL (aS (aU (eA TL (u9 _).1) TL (ax (aw TL TL (cF (n+8) _ h.lt (O5 h.len (by decide)))))))
 t:=λn g=>oa _ g
 len:=by refine aa (toB_len ..) ?_;exact O5 h.len (by decide)
 pc:=.plain λc m=>(j1 (h.val c m)).2.2.2.2
 eq:=by have e:uH (.str t) (.str t)=TN:=TS TL;show (uH (.str [97,116,111,109]) (.str [97,116,111,109])&&(uH (.str t) (.str t)&&wV [] []))=TN;refine aa (e ..) ?_;rfl
 pl:=λ_=>rfl
 cl:=TL
 cv:=TL
theorem oh {ts:List (List Nat)} (h:∀t∈ts,nu t) (a:ts.length<=3):Wok 11 (.list (ts.map .atom)) (.tuple (ts.map fW)) (aQ (ts.map toB)) 305:=by have:=r0 (L:=10) (l:=ts.map λt=>(.atom t,fW t,toB t)) (by decide) (λx m=>by obtain ⟨t,ht,rfl⟩:=PI.mp m;exact Be (h t ht)) (bu a) (by decide);rw [Po,Po,Po] at this;exact this
section
variable {c:List Int} (hc:Cells c)
include hc
theorem j2 (n a:Nat):∃(ts:List (List Nat)) (d:Nat),ts.length<=3/\(∀t∈ts,nu t)/\I (n+4) 852 [.ref 2] (Sg c a)=TK (og ts,Sg c d):=by
 refine ac λq=>aT (draw hc (n+2) a (k:=4) (by decide)) λk f r=>?_;obtain ⟨ts,d,s,g,w⟩:=il (c:=c) (R:=ag tab aE wm (n+3)) (e:=.call (.lit (.ref 842)) (.cons (.var 0) (.cons (.lit (.tuple tS)) .nil))) (it:=.call (.lit (.ty .range)) (.cons (.call (.lit (.ref 835)) (.cons (.var 0) (.cons (.lit (.int 4)) .nil))) .nil))
  (ρ:=[.v (.ref 2),.u,.u]) (k:=k) (a:=a) (a1:=a+1) V.str nu (by exact bW f TL) (kF (au (bt TL TL r TL) TL) (dU (O5 (Pw f) (by decide))) TL) λv a=>by refine aT (e0 hc (n+1) a (xs:=tS) (by decide)) λx y e=>aT (Bd (Pa.mp (show tS.all Fy=TN by decide+kernel) x y)) λt i ht=>?_;subst i;exact (dC t (a+1) (bt TL TL e TL) (.of ht))
 refine q ?_;clear q;have j:ts.length<=3:=by exact aJ [_,_] 0x1c200022085ec08021 f (O9 s)
 have b:ts.length<=1000000:=O5 j (by decide);have o:(aD [32] ts).length<=243:=by exact O5 (dk (sep:=[32]) (z:=80) (os:=ts) λt m=>(g t m).len) (PH _ j:ts.length*(80+1)<=3*(80+1))
 have line:∀k,k<=200000->k<=av:=λk h=>O5 h (by decide);refine (gF ts d j g ?_);apply iF TL TL;refine ae (az w TL) (ae (az (ai (ai TL (bn (bn TL TL TL (jC (l:=ts) (.inl TL) (line _ (by show _+1<=_;exact bR o TL)))) TL TL (gx (Pa.mpr λc m=>TS (hG (P:=(· <128)) (by simp) (λt m=>(g t m).lt) c m):(aD [32] ts).all (· <128)=TN))) (am (line _ ?_))) TL (am (line _ ?_))) TL) ?_)
 ·show 1+(toB (aD [32] ts)).length<=_;refine aa (toB_len ..) ?_;exact bL o TL
 ·refine aa (g3 ..) ?_;show 1+(toB (aD [32] ts)).length+1<=_;refine aa (toB_len ..) ?_;exact bR (Pe o _) TL
 ·unfold og;refine aa ((by refine aa (toB_join ..) ?_;rfl:aQ (ts.map toB)=[40]++toB (aD [32] ts)++[41]) ..) ?_;exact ax (aX (au TL (au (dM (l:=ts) V.str V.atom TL TL b (λx m=>tM TL TL) TL) (au (b0 (aF (dM (l:=ts) V.str fW TL TL b (λx m=>aX TL) TL)) TL) TL))))
end
section
variable (n:Nat) (g:FG)
theorem kq {ts:List (List Nat)} (h:∀t∈ts,nu t) (b:ts.length<=3):I (n+2) 643 [.tuple (ts.map .str)] g=TK (.bytes (aQ (ts.map toB)),g):=by
 have a:(aD [32] (ts.map toB)).length<=243:=by
  have c:=dk (sep:=[32]) (os:=ts.map toB) λt m=>by obtain ⟨x,d,rfl⟩:=PI.mp m;refine aa (toB_len ..) ?_;exact (h x d).len
  exact O5 c (PH _ (bu b))
 have line:∀k,k<=200000->k<=av:=λk h=>O5 h (by decide);apply fn TL TL;refine ax (di (di TL (jH V.str toB TL TL (O5 b (by decide)) (λx m=>bt TL TL (cF n _ (h x m).lt (O5 (h x m).len (by decide))) TL) (line _ (bT a TL)) TL) (am (line _ ?_)) TL) TL (am (line _ ?_)) TL)
 ·exact bL a TL
 ·refine aa (g3 ..) ?_;exact bR (Pe a _) TL
end
section
variable (m:Nat) {d rest:List UInt8} {s:Option (List Int×Nat)} {j:Nat}
theorem pJ (b:aE j=TK e) (h:aB (ag tab aE wm n) wm e TO ⟨[.v (.ref 1)],⟨s,TK w⟩⟩=TK (v,⟨ρ,⟨s,TK a⟩⟩)):ag tab aE wm (n+1) (.lam j 1) [] ⟨s,TK w⟩=TK (v,⟨s,TK a⟩):=by show (if (decide (1=1)&&(TK w).isSome&&([]:List V).isEmpty)=TN then (aE j).bind _ else TW)=_;exact aa (b ..) (bw h (TY (gi s w a)))
noncomputable abbrev Nz (m j:Nat) (d:List UInt8) (s:Option (List Int×Nat)) (l:List (V×List UInt8)):Prop:=∀x∈l,(∃c r,x.2=c::r/\c≠41)/\∀p rest,At d p (x.2++rest)->Dl rest->ag tab aE wm (m+10) (.lam j 1) [] ⟨s,TK (d,p)⟩=TK (x.1,⟨s,TK (d,p+x.2.length)⟩)
theorem Bg (os:List (List UInt8)) (l:List UInt8):Dl (aO os++41::l):=by
 cases os with
 |nil=>exact ⟨_,.inr TL⟩
 |cons o r=>exact ⟨_,.inl TL⟩
theorem Bh:∀{l:List (V×List UInt8)} {acc:List V} {p K:Nat},Nz m j d s l->At d p (aO (l.map (·.2))++41::rest)->acc.length+l.length<=1000->l.length<K-> bk (λst=>aB (ag tab aE wm (m+10)) wm HI TN st) (λst=>aI (ag tab aE wm (m+10)) wm (.seq (.expr (.a4 (.var 0) .space .nil)) (.app 2 (.call (.var 1) .nil))) st) K ⟨[.v (.ref 1),.v (.lam j 1),.ml acc],⟨s,TK (d,p)⟩⟩=
   TK (.next,⟨[.v (.ref 1),.v (.lam j 1),.ml (acc++l.map (·.1))],⟨s,TK (d,p+(aO (l.map (·.2))).length+1)⟩⟩):=by
 intro e;induction e with
 |nil=>
  intro acc p K f h g i;rcases K with _|K
  ·first|exact TU i (O7 _)|exact TU g (O7 _)|exact TU h (O7 _)|exact TU f (O7 _)|exact TU p (O7 _)|exact TU acc (O7 _)
  refine aa (Qs ..) (aa (Pk ..) ?_);exact cP (mK (aW TL TL TL TL TL (co (m+9) (h:At d p ([41]++rest))) TL))
 |cons x r n=>
  intro acc p K hg h a b;rcases K with _|K
  ·first|exact TU b (O7 _)|exact TU a (O7 _)|exact TU h (O7 _)|exact TU hg (O7 _)|exact TU p (O7 _)|exact TU acc (O7 _)
  rw [O8] at a b;have h:At d p (32::(x.2++(aO (r.map (·.2))++41::rest))):=by refine bx ((by show (32::x.2++aO (r.map (·.2)))++41::rest=_;simp:aO ((x::r).map (·.2))++41::rest=32::(x.2++(aO (r.map (·.2))++41::rest))) ..) ?_;exact h
  have c:=h.one;have key:=n (acc:=acc++[x.1]) (p:=p+1+x.2.length) (K:=K) (λx m=>hg x (.tail _ m)) c.step (by refine aa (g3 ..) ?_;show acc.length+1+r.length<=_;exact s1 a) (by exact PR b);have q:p+(aO ((x::r).map (·.2))).length+1=p+1+x.2.length+(aO (r.map (·.2))).length+1:=by show p+(32::x.2++aO (r.map (·.2))).length+1=_;refine aa (g3 ..) (aa (O8 ..) ?_);exact eb [_,_,_] 0x183130200000c1b04000400
  refine aa (q ..) (aa ((by simp:acc++(x::r).map (·.1)=acc++[x.1]++r.map (·.1)) ..) ?_);refine cD (st1:=⟨[.v (.ref 1),.v (.lam j 1),.ml acc],⟨s,TK (d,p)⟩⟩) (st2:=⟨[.v (.ref 1),.v (.lam j 1),.ml (acc++[x.1])],⟨s,TK (d,p+1+x.2.length)⟩⟩) (pI (aW TL TL TL TL TL (bz (m+9) (o:=[41]) h (λk=>by cases k)) TL)) ?_ key;exact ae (a0 (aW TL TL TL TL TL (bD (m+7) h) TL)) (cY (xs:=acc) TL (g9 TL TL ((hg x (.head _)).2 (p+1) _ c (Bg _ _)) TL) TL (Pb (show acc.length<=1000 by exact bl a) (by decide)) TL)
theorem mL (hg:Nz m j d s l) (b:l.length<=100) (h:At d p (aQ (l.map (·.2))++rest)):I (m+11) 533 [.ref 1,.lam j 1] ⟨s,TK (d,p)⟩=TK (.list (l.map (·.1)),⟨s,TK (d,p+(aQ (l.map (·.2))).length)⟩):=by
 have e:At d p ([40]++(aD [32] (l.map (·.2))++41::rest)):=by refine bx ((by unfold aQ;simp:aQ (l.map (·.2))++rest=[40]++(aD [32] (l.map (·.2))++41::rest)) ..) ?_;exact h
 have a:=e.step;refine aa ((by unfold aQ;simp;exact Qr _ _:(aQ (l.map (·.2))).length=1+(aD [32] (l.map (·.2))).length+1) ..) ?_;cases l with
 |nil=>apply ef TL TL;refine ae (a0 (aH TL TL TL TL TL (en (m+8) e))) (ae TL ?_);exact aS (aU (cb TL TL TL TL TL (co (m+9) a)) TL TL)
 |cons x r=>
  have a:At d (p+1) (x.2++(aO (r.map (·.2))++41::rest)):=by refine bx ((aa (Qe ..) (aa (eI ..) (aa (Pi ..) TL)):aD [32] ((x::r).map (·.2))++41::rest=x.2++(aO (r.map (·.2))++41::rest)) ..) ?_;exact a
  refine ac λg=>aM (hg x (.head _)) λf hr=>kJ f λc q i n=>g ?_;have key:=Bh m (acc:=[x.1]) (K:=turns) (λx m=>hg x (.tail _ m)) a.step (by rw [O8] at b;exact bL (bl b) TL) (Pb (show r.length<=100 by rw [O8] at b;exact Pw b) (by decide));have o:p+(1+(aD [32] ((x::r).map (·.2))).length+1)=p+1+x.2.length+(aO (r.map (·.2))).length+1:=by refine aa (Qe ..) (aa (eI ..) (aa (g3 ..) ?_));exact eb [_,_,_] 0x183130200000c1880c00020
  refine aa (o ..) ?_;apply ef TL TL;refine ae (a0 (aH TL TL TL TL TL (en (m+8) e))) (ae TL ?_);refine ae (aA (cb TL TL TL TL TL (bz (m+9) a (λk=>by rw [i] at k;cases k;exact n TL))) TL TL) ?_;exact ae (cY (xs:=[]) TL (DW TL TL (hr (p+1) _ a (Bg _ _))) TL (by decide) TL) (ae (eW key) TL)
theorem pK {ts:List (List Nat)} (h:∀t∈ts,nu t) (k:ts.length<=3) (a:At d p (aQ (ts.map toB)++rest)):I (m+12) 728 [.ref 1] ⟨s,TK (d,p)⟩=TK (.tuple (ts.map .str),⟨s,TK (d,p+(aQ (ts.map toB)).length)⟩):=by
 have f:(ts.map λt=>(V.str t,toB t)).map (·.2)=ts.map toB:=by refine aa (Po ..) ?_;rfl
 have key:=mL m (j:=0) (l:=ts.map λt=>(V.str t,toB t)) (λx n=>by
  refine mM n λt ht b=>?_;subst b;have w:=h t ht;refine ⟨?_,λp rest a o=>?_⟩
  ·cases e:toB t with
   |nil=>exact TU e w.ne
   |cons c r=>exact (dC c r TL ((j1 (w.val c (by refine aa (e ..) ?_;exact .head _))).2.2.2.1))
  ·have hs:Stop isVal rest:=by rcases o with ⟨r,rfl|rfl⟩<;>exact .cons TL
   have i:=fV (m+7) (w:=[97,32,119,111,114,100,32,105,115,32,109,105,115,115,105,110,103]) (s:=s) (λc g=>u5 (m+5) g c) TL a w.val hs w.ne λc m=>HF c (w.val c m);rw [show toS' (toB t)=t from w.back] at i;exact pJ TL (aH TL TL TL TL TL i)) (O5 (bu k) (by decide)) (by refine aa (f ..) ?_;exact a)
 rw [f,(by refine aa (Po ..) ?_;rfl:(ts.map λt=>(V.str t,toB t)).map (·.1)=ts.map .str)] at key;apply ef TL TL;exact ax (b0 (aF (aH TL TL TL TL TL key)) TL)
end
noncomputable section
noncomputable def dF (k:Nat):List Nat:=if k=0 then [42] else cq k
noncomputable def bS (q:Nat×Nat):List Nat:=if q.1=q.2 then dF q.1 else dF q.1++[58]++dF q.2
noncomputable def gk (q:Nat×Nat):V:=.tuple [.int q.1,.int q.2]
noncomputable def iw (ps:List (Nat×Nat)):List Nat:=aD [44] (ps.map bS)
noncomputable def jJ (k:Nat):Nat:=if k=0 then 42 else 48+k
noncomputable def Fz (l:List Nat):Prop:=∀c r,l=c::r->c<48\/57<c
noncomputable def fD (ps:List (Nat×Nat)):List Nat:=match ps with
 |[]=>[]
 |_=>44::iw ps
end
structure gz (ps:List (Nat×Nat)):Prop where
 ne:0<ps.length
 len:ps.length<=3
 lt:∀q∈ps,q.1<9/\q.2<9
theorem dN (h:k<9):dF k=[jJ k]:=by exact dz (g:=λk=>[jJ k]) (show (PN 9).map _=_ by kernel_rfl) (Rl.mpr h)
theorem hH (h:q.1<9/\q.2<9):bS q=if q.1=q.2 then [jJ q.1] else [jJ q.1,58,jJ q.2]:=by unfold bS;refine aa (dN h.1 ..) (aa (dN h.2 ..) ?_);rfl
theorem xc (h:q.1<9/\q.2<9):(bS q).length<=3:=by
 refine aa (hH h ..) ?_;split
 ·exact (by decide:1<=3)
 ·exact (by decide:3<=3)
theorem j3 (q:Nat×Nat) (r:List (Nat×Nat)):iw (q::r)=bS q++fD r:=by
 cases r with
 |nil=>exact (Pk _).symm
 |cons a r=>show bS q++[44]++iw (a::r)=_;refine aa (Pi ..) ?_;rfl
theorem hM (h:gz ps):(iw ps).length<=12:=by
 have a:=dk (sep:=[44]) λt m=>by obtain ⟨x,b,rfl⟩:=PI.mp m;exact xc (h.lt x b)
 exact O5 a (PH _ (bu h.len))
theorem vg (h:k<9):jJ k=42\/(49<=jJ k/\jJ k<=56):=by
 unfold jJ;split
 ·exact .inl TL
 ·exact .inr ⟨by lia,by exact aJ [_] 0x1e2c11c2c00028c08021 h⟩
theorem pL (h:c=42\/(49<=c/\c<=56)):(49<=c/\c<=56)\/c=42\/c=44\/c=58:=h.elim (λh=>.inr (.inl h)) .inl
theorem Bi (h:(49<=c/\c<=56)\/c=42\/c=44\/c=58):c<59:=KF h (λh=>Pb h.2 (by decide)) (λh=>h▸by decide) (λh=>h▸by decide) λh=>h▸by decide
theorem k3 {ps:List (Nat×Nat)} (h:∀q∈ps,q.1<9/\q.2<9):∀c∈iw ps,(49<=c/\c<=56)\/c=42\/c=44\/c=58:=by
 refine hG (P:=λc=>(49<=c/\c<=56)\/c=42\/c=44\/c=58) (by simp) λt m c a=>ac λf=>mM m λq b d=>?_;subst d;refine f ?_;clear f;have b:=h q b;rw [hH b] at a;have g:=vg b.1;have i:=vg b.2;split at a
 ·simp only [Pf,Pn,or_false] at a;subst a;exact pL g
 ·simp only [Pf,Pn,or_false] at a;exact or3 a (λe=>e▸pL g) (λe=>e▸.inr (.inr (.inr TL))) λe=>e▸pL i
section
variable {R:V->List V->FG->Option (V×FG)} {wm:Nm->Option V} {st st2:a7} {b:E} {m:Bool} {q:V×a7}
theorem Bj {lo c i:Nat} (d:aB R wm b TO st=TK (.str [i],st2)) (a:ba m (.bool (decide (lo<=i)&&decide (i<=c))) st2=TK q):aB R wm (.kz .LtE .LtE (.lit (.str [lo])) b (.lit (.str [c]))) m st=TK q:=by
 by_cases h:lo<=i
 ·refine pn TL d (kn.trans (TQ TK (TS h))) TL kn ?_;rw [TS h] at a;exact a
 ·refine pk TL d (kn.trans (TQ TK (TR h))) ?_;rw [TR h] at a;exact a
end
section
variable (n:Nat) (g:FG)
theorem j4 {k:Nat} (h:k<9):I (n+1) 261 [.int k] g=TK (.str (dF k),g):=by
 by_cases a:k=0
 ·subst a;apply fn TL TL;exact aS TL
 ·have e:dF k=cq k:=TZ a;refine aa (e ..) ?_;apply fn TL TL;exact ae (aA TL (TR (n0 a:¬((k:Int)=0))) TL) (ax (b0 TL (eX (bU h TL))))
theorem tT (h:q.1<9/\q.2<9):I (n+2) 268 [gk q] g=TK (.str (bS q),g):=by
 have a:=dN h.1;by_cases b:q.1=q.2
 ·have e:bS q=dF q.1:=TY b;refine aa (e ..) ?_;apply fn TL TL;exact aS (aU TL (TS (by lia:(q.1:Int)=q.2)) (ax (aw TL TL (j4 n _ h.1))))
 ·have e:bS q=dF q.1++[58]++dF q.2:=TZ b;refine aa (e ..) ?_;apply fn TL TL;refine ae (aA TL (TR (by lia:¬((q.1:Int)=q.2))) TL) (ax (ai (ai (aw TL TL (j4 n _ h.1)) TL (iX ?_)) (aw TL TL (j4 n _ h.2)) (iX ?_)))
  ·refine aa (a ..) ?_;exact (show 2<=av by decide)
  ·refine aa (a ..) (aa ((dN h.2) ..) ?_);exact (show 3<=av by decide)
theorem oi (h:gz ps):I (n+3) 273 [.tuple (ps.map gk)] g=TK (.str (iw ps),g):=by apply fn TL TL;exact ax (hE gk bS TL TL (O5 h.len (by decide)) (λx m=>bt TL TL (tT n _ (h.lt x m)) TL) (O5 (Pg (hM h) 1) (by decide)) TL)
theorem d7 {a:Type} {T:List a} {c:a} {l:List a} (h:T.drop p=c::l):T[p]?=TK c/\p<T.length/\T.drop (p+1)=l:=by
 refine ⟨?_,?_,?_⟩
 ·have:=TQ (λx=>x[0]?) h;simpa using this
 ·apply PU;intro k;rw [Qc (Pt.mp k)] at h;cases h
 ·refine bx (P9 ..) (aa (h ..) ?_);rfl
theorem j5 {p k:Nat} (i:k<9) (h:T.drop p=jJ k::l) (hs:Fz l):I (n+1) 247 [.str T,.int p] g=TK (.tuple [.int k,.int (p+1:Nat)],g):=by
 refine fE (d7 h) λb o j=>?_;have a:=Ps.mpr o;by_cases m:k=0
 ·subst m;apply fn TL TL;exact aS (aU (eg TL (TS a) (aG (bp TL TL (nt b)) TL TL)) TL TL)
 ·have q:jJ k=48+k:=TZ m;rw [q] at b;have d:¬([48+k]=[42]):=λe=>by have:=(QX e).1;lia
  have f:¬([48+k]=[48]):=λe=>by have:=(QX e).1;lia
  apply fn TL TL;refine ae (aA (eg TL (TS a) (aG (bp TL TL (nt b)) TL TL)) (TR d) TL) (ae TL (ae TL ?_));have s:bk (λst=>aB (ag tab aE wm n) wm (.and (.cmp .Lt (.var 2) (.oC 0)) (.kz .LtE .LtE (.lit (.str [48])) (.sub (.var 0) (.var 2)) (.lit (.str [57])))) TN st)
    (λst=>aI (ag tab aE wm n) wm (.seq (.asg 3 (.call (.lit (.bi .min)) (.cons (.bin .Sub (.bin .Add (.bin .Mult (.var 3) (.lit (.int 10))) (.call (.lit (.bi .ord)) (.cons (.sub (.var 0) (.var 2)) .nil))) (.lit (.int 48))) (.cons (.bin .Add (.lit (.int 4294967295)) (.lit (.int 1))) .nil)))) (.aug 2 .Add (.lit (.int 1)))) st) (999999998+1+1) ⟨[.v (.str T),.v (.int p),.v (.int p),.v (.int 0)],g⟩=
    TK (.next,⟨[.v (.str T),.v (.int p),.v (.int (p+1:Nat)),.v (.int k)],g⟩):=by
   refine cD (st1:=⟨[.v (.str T),.v (.int p),.v (.int p),.v (.int 0)],g⟩) (st2:=⟨[.v (.str T),.v (.int p),.v (.int (p+1:Nat)),.v (.int k)],g⟩) (eg TL (TS a) (Bj (bp TL TL (nt b)) ?_)) ?_ ?_
   ·refine aa ((by refine aa (TS (by exact PV _ _) ..) (aa (TS (by exact bL (Pw i) TL) ..) ?_);rfl:(decide (48<=48+k)&&decide (48+k<=57))=TN) ..) ?_;rfl
   ·refine ae (st1:=⟨[.v (.str T),.v (.int p),.v (.int p),.v (.int k)],g⟩) (az (iD (au (ai (ai (ai TL TL (tQ (by kernel_rfl))) (iD (aF (bp TL TL (nt b))) TL) TL) TL TL) TL) TL) ?_) TL;refine aa ((by lia:min ((0:Int)*10+((48+k:Nat):Int)-48) (4294967295+1)=k) ..) ?_;rfl
   ·cases l with
    |nil=>have:=Qb.mp j;exact cP (pt TL (TR (by exact PK.mpr (Ph.mpr (aJ [_,_] 0x608010018200421 this)):¬(((p+1:Nat):Int)<T.length))))
    |cons c r=>
     refine fE (d7 j) λt u x=>?_;have w:(decide (48<=c)&&decide (c<=57))=TO:=by
      refine PA (hs c r TL) (λk=>?_) λk=>?_
      ·refine aa (TR (by exact R3 (aJ [_] 0x1c2cc080001c2cc08021 k)) ..) ?_;rfl
      ·refine aa (TR (p:=c<=57) (by exact R3 (aJ [_] 0xb079b00000b079b0021 k)) ..) ?_;exact TB _
     refine cP (eg TL (TS (Ps.mpr u)) (Bj (bp TL TL (nt t)) ?_));refine aa (w ..) ?_;rfl
  exact ae (eW s) (ae (aA TL (TR (by exact Rd (Ps.mpr (aJ [_] 0x6040c08000)):¬(((p+1:Nat):Int)=p))) TL) (ae (aA (aG (bp TL TL (nt b)) TL TL) (TR f) TL) (ae (aA TL (TR (PK.mpr (Ph.mpr (aJ [_] 0x1fffffffffec10028c08021 i)):¬((4294967295:Int)<k))) TL) TL)))
end
noncomputable section
noncomputable def Kh:S->S
 |.FT _ b=>b
 |s=>s
noncomputable def setB:S:=Kh (bd (bd rP))
end
section
variable (n:Nat) (g:FG)
theorem jK (r:List (Nat×Nat)):Fz (fD r):=λc l e=>by
 cases r with
 |nil=>cases e
 |cons q r=>cases e;exact .inl (by decide)
theorem r3 {T:List Nat} {p:Nat} {acc:List V} {x3 x4:Slot} {q:Nat×Nat} {r:List (Nat×Nat)} {w:Fl×a7} (d:q.1<9/\q.2<9) (h:T.drop p=bS q++fD r) (a:T.drop (p+(bS q).length)=fD r->aI (ag tab aE wm (n+1)) wm (bd (bd (bd setB))) ⟨[.v (.str T),.ml acc,.v (.int (p+(bS q).length:Nat)),.v (.int q.1),.v (.int q.2)],g⟩=TK w):aI (ag tab aE wm (n+1)) wm setB ⟨[.v (.str T),.ml acc,.v (.int p),x3,x4],g⟩=TK w:=by
 rw [hH d] at h a;by_cases e:q.1=q.2
 ·rw [TY e] at h a;have h:T.drop p=jJ q.1::fD r:=h;refine fE (d7 h) λk m b=>?_;have a:=a b;rw [show ((q.2:Nat):Int)=(q.1:Int) by exact S7.mpr (PJ (aJ [_,_] 0x1040010421 (O9 (Qf e))) (aJ [_,_] 0x1040010421 (O9 e)))] at a;refine ae (fK (aw TL TL (j5 n _ d.1 h (jK r))) TL) (ae TL (ae ?_ a));cases r with
  |nil=>
   have:T.length<=p+1:=Qb.mp b;have hn:¬(((p+1:Nat):Int)<T.length):=by exact PK.mpr (Ph.mpr (aJ [_,_] 0x608010018200421 this))
   exact aA (pt TL (TR hn)) TL TL
  |cons s r=>refine fE (d7 b) λf i t=>?_;have hn:((p+1:Nat):Int)<T.length:=Ps.mpr i;exact aA (eg TL (TS hn) (aG (bp TL TL (nt f)) TL TL)) TL TL
 ·rw [TZ e] at h a;have h:T.drop p=jJ q.1::58::jJ q.2::fD r:=h;refine fE (d7 h) λk m b=>fE (d7 b) λf i j=>fE (d7 j) λu x o=>?_;have a:=a o;have hn:((p+1:Nat):Int)<T.length:=Ps.mpr i;refine ae (fK (aw TL TL (j5 n _ d.1 h (λc l e=>by cases e;exact .inr (by decide)))) TL) (ae TL (ae ?_ a));exact aU (eg TL (TS hn) (aG (bp TL TL (nt f)) TL TL)) TL (fK (aw TL TL (j5 n _ d.2 j (jK r))) TL)
theorem Bk:∀{r:List (Nat×Nat)} {q:Nat×Nat} {p:Nat} {acc:List V} {x3 x4:Slot} {K:Nat},(∀x∈q::r,x.1<9/\x.2<9)->T.drop p=bS q++fD r->acc.length+r.length<=1000->r.length<K-> ∃ρ,bk (λst=>aB (ag tab aE wm (n+1)) wm (.lit (.bool TN)) TN st) (λst=>aI (ag tab aE wm (n+1)) wm setB st) K ⟨[.v (.str T),.ml acc,.v (.int p),x3,x4],g⟩=TK (.ret (.tuple (acc++(q::r).map gk)),⟨ρ,g⟩):=by
 intro j;induction j with
 |nil=>
  intro q p acc x3 x4 K a h b c;rcases K with _|K
  ·first|exact TU c (O7 _)|exact TU b (O7 _)|exact TU h (O7 _)|exact TU a (O7 _)|exact TU x4 (O7 _)|exact TU x3 (O7 _)|exact TU acc (O7 _)|exact TU p (O7 _)|exact TU q (O7 _)
  refine ⟨[.v (.str T),.v (.list (acc++[gk q])),.v (.int (p+(bS q).length:Nat)),.v (.int q.1),.v (.int q.2)],Fo TL (r3 n g (a q (.head _)) h λe=>?_)⟩;have f:=Qb.mp e;have i:(bS q).length<=T.length-p:=by have:=TQ Qh h;rw [QC,g3] at this;exact aJ [_,_] 0x410004b08021 (O9 (Qf this))
  have t:0<(bS q).length:=by refine aa (hH (a q (.head _)) ..) ?_;split<;>exact Rs _
  exact ae (cY TL TL TL (Pb (show acc.length<=1000 by exact b) (by decide)) TL) (aS (aU TL (TS (by lia:((p+(bS q).length:Nat):Int)=T.length)) TL))
 |cons k r l=>
  intro q p acc x3 x4 K a h b d;rcases K with _|K
  ·first|exact TU d (O7 _)|exact TU b (O7 _)|exact TU h (O7 _)|exact TU a (O7 _)|exact TU x4 (O7 _)|exact TU x3 (O7 _)|exact TU acc (O7 _)|exact TU p (O7 _)|exact TU q (O7 _)
  rw [O8] at b d;have hn:T.drop (p+(bS q).length)=44::(bS k++fD r):=by refine bx (j3 ..) (bx (P9 ..) (aa (h ..) (aa (Qd ..) ?_)));rfl
  refine ac λo=>fE (d7 hn) λf i s=>?_;refine cR (l (acc:=acc++[gk q]) (x3:=.v (.int q.1)) (x4:=.v (.int q.2)) (K:=K) (λx m=>a x (.tail _ m)) s (by refine aa (g3 ..) ?_;exact s1 b) (by exact PR d)) λρ key=>?_;refine o ?_;rw [Pi] at key;refine ⟨ρ,cD TL (r3 n g (a q (.head _)) h λe=>?_) key⟩;exact ae (cY TL TL TL (Pb (show acc.length<=1000 by exact bl b) (by decide)) TL) (ae (aA TL (TR (RY (Ps.mpr (aJ [_,_,_] 0x1b041000001b04100021 i)):¬(((p+(bS q).length:Nat):Int)=T.length))) TL) (ae (aA (aG (bp TL TL (nt f)) TL TL) TL TL) TL))
theorem oj {ps:List (Nat×Nat)} (h:gz ps):I (n+2) 254 [.str (iw ps)] g=TK (.tuple (ps.map gk),g):=by
 cases ps with
 |nil=>exact TU h.ne (PG 0)
 |cons q r=>have a:=h.len;rw [O8] at a;refine cR (Bk n g (T:=iw (q::r)) (r:=r) (q:=q) (p:=0) (acc:=[]) (x3:=.u) (x4:=.u) (K:=turns) h.lt (j3 q r) (by show 0+r.length<=_;exact bL (bl a) TL) (Pb (show r.length<=3 by exact Pw a) (by decide))) λρ e=>?_;apply fn TL TL;exact ae TL (ae TL (eW e))
end
noncomputable section
noncomputable def dO (ps:List (Nat×Nat)):List UInt8:=toB (iw ps)
end
theorem gm (h:gz ps):(∀c∈dO ps,isSet c=TN)/\(∀c∈dO ps,c<128)/\(∀c∈dO ps,c≠13)/\dO ps≠[]/\toS' (dO ps)=iw ps:=by
 have key:∀c∈iw ps,isSet (Pp c)=TN/\Pp c<128/\Pp c≠13/\(Pp c).toNat=c:=λc m=>by have:=(k3 h.lt) c m;have hh:=gj (p:=λc=>!decide ((49<=c/\c<=56)\/c=42\/c=44\/c=58)||(isSet (Pp c)&&decide (Pp c<128/\Pp c≠13/\(Pp c).toNat=c))) (show (PN 59).all _=TN by kernel_rfl) (Rl.mpr (Bi this));rw [TS this] at hh;exact ⟨(aR hh).1,TM (aR hh).2⟩
 refine (BY (λc m=>?_) (λc m=>?_) (λc m=>?_) (λe=>?_) ?_)
 ·refine mM m λx b a=>?_;subst a;exact (key x b).1
 ·refine mM m λx b a=>?_;subst a;exact (key x b).2.1
 ·refine mM m λx b a=>?_;subst a;exact (key x b).2.2.1
 ·have e:=List.map_eq_nil_iff.mp e;cases ps with
  |nil=>exact TU h.ne (PG 0)
  |cons q r=>rw [j3,hH (h.lt q (.head _))] at e;split at e<;>cases e
 ·show ((iw ps).map Pp).map Q4=_;exact aa (Po ..) ((QI λc m=>(key c m).2.2.2).trans (Tu _))
theorem mN (h:gz ps):(dO ps).length<=12:=by refine aa (show (dO ps).length=(iw ps).length from toB_len _) ?_;exact hM h
theorem r4 (n:Nat) (h:gz ps) (a:At d p (dO ps++l)) (hs:Stop isSet l):I (n+4) 463 [.ref 1] ⟨s,TK (d,p)⟩=TK (.str (iw ps),⟨s,TK (d,p+(dO ps).length)⟩):=by refine ou (gm h) λb c g e f=>?_;have:=J7 n (s:=s) a b hs e c;rw [f] at this;exact this
section
variable {c:List Int} (hc:Cells c)
omit hc in
theorem D6 {wm:Nm->Option V} {g:FG} {x0 x1:V}:∀{ps:List (Nat×Nat)} {acc:List V} {x3 x4 x5 x6:Slot},(∀q∈ps,q.1<9/\q.2<9)->acc.length+ps.length<=1000->∃h j l n,iT (λst=>aI R wm (.seq (.asg 5 (.ite (.cmp .Eq (.var 3) (.lit (.int 0))) (.lit (.str [42])) (.call (.lit (.ty .str)) (.cons (.var 3) .nil)))) (.seq (.asg 6 (.ite (.cmp .Eq (.var 4) (.lit (.int 0))) (.lit (.str [42])) (.call (.lit (.ty .str)) (.cons (.var 4) .nil)))) (.app 2 (.ite (.cmp .Eq (.var 3) (.var 4)) (.var 5) (.bin .Add (.bin .Add (.var 5) (.lit (.str [58]))) (.var 6)))))) st) [3,4] (ps.map gk) ⟨[.v x0,.v x1,.ml acc,x3,x4,x5,x6],g⟩=TK (.next,⟨[.v x0,.v x1,.ml (acc++ps.map λq=>.str (bS q)),h,j,l,n],g⟩):=by
 intro y;induction y with
 |nil=>intro acc x3 x4 x5 x6 C D;exact (MZ x3 x4 x5 x6 (by rw [Qs,Qs,Pk];rfl))
 |cons q r z=>
  intro acc x3 x4 x5 x6 w o;have f:=w q (.head _);rw [O8] at o;refine MW (z (acc:=acc++[.str (bS q)]) (x3:=.v (.int q.1)) (x4:=.v (.int q.2)) (x5:=.v (.str (dF q.1))) (x6:=.v (.str (dF q.2))) (λx m=>w x (.tail _ m)) (by refine aa (g3 ..) ?_;exact s1 o)) λa b c d e=>?_;refine (MZ a b c d ?_);rw [Pi] at e;refine fL TL ?_ e;have one:∀(k:Nat) (i:Nat) (st:a7),k<9->st.ρ[i]?=TK (.v (.int k))->aB R wm (.ite (.cmp .Eq (.var i) (.lit (.int 0))) (.lit (.str [42])) (.call (.lit (.ty .str)) (.cons (.var i) .nil))) TO st=TK (.str (dF k),st):=by
   intro k i st A B;have s:∀m,aB R wm (.var i) m st=ba m (.int k) st:=λm=>by show (match st.ρ[i]? with|some (.v v)=>ba m v st|some (.ml xs)=>_|some (.mb bs)=>_|_=>TW)=_;exact aa (B ..) TL
   by_cases t:k=0
   ·subst t;exact b1 (aG (s TO) TL TL) TL TL
   ·have u:¬((k:Int)=0):=by exact n0 t
    have e:dF k=cq k:=TZ t;exact aa (e ..) (dy (aG (s TO) TL TL) (TR u) (b0 (aF (s TO)) (eX (by exact bU A TL))))
  refine ae (az (one q.1 3 _ f.1 TL) TL) (ae (az (one q.2 4 _ f.2 TL) TL) (cY (xs:=acc) (v:=.str (bS q)) (st1:=⟨[.v x0,.v x1,.ml acc,.v (.int q.1),.v (.int q.2),.v (.str (dF q.1)),.v (.str (dF q.2))],g⟩) TL ?_ TL (Pb (show acc.length<=1000 by exact bl o) (by decide)) TL));by_cases hh:q.1=q.2
  ·have e:bS q=dF q.1:=TY hh;exact aa (e ..) (b1 TL (TS (by lia:(q.1:Int)=q.2)) TL)
  ·have e:bS q=dF q.1++[58]++dF q.2:=TZ hh;refine aa (e ..) (dy TL (TR (by lia:¬((q.1:Int)=q.2))) (ai (ai TL TL (iX ?_)) TL (iX ?_)))
   ·refine aa (dN f.1 ..) ?_;exact (show 2<=av by decide)
   ·refine aa (dN f.1 ..) (aa (dN f.2 ..) ?_);exact (show 3<=av by decide)
include hc
theorem vh (n a:Nat):∃(ps:List (Nat×Nat)) (b:Nat),gz ps/\I (n+4) 857 [.ref 2] (Sg c a)=TK (.tuple [.tuple (ps.map gk),.bytes (dO ps)],Sg c b):=by
 refine ac λl=>aT (draw hc (n+2) a (k:=3) (by decide)) λk d r=>?_;obtain ⟨ps,b,f,h,s⟩:=il (c:=c) (e:=.tup (.cons (.call (.lit (.ref 835)) (.cons (.var 0) (.cons (.lit (.int 9)) .nil))) (.cons (.call (.lit (.ref 835)) (.cons (.var 0) (.cons (.lit (.int 9)) .nil))) .nil))) (it:=.call (.lit (.ty .range)) (.cons (.bin .Add (.lit (.int 1)) (.call (.lit (.ref 835)) (.cons (.var 0) (.cons (.lit (.int 3)) .nil)))) .nil))
  (ρ:=[.v (.ref 2),.u,.u,.u,.u,.u,.u]) (k:=1+k) (a:=a) (a1:=a+1) gk (λq=>q.1<9/\q.2<9) (by exact bL (Pw d) TL) (kF (au (di TL (bt TL TL r TL) TL TL) TL) (dU (n:=1+k) (O5 (show 1+k<=3 by exact aJ [_] 0x70580001cc08021 d) (by decide))) TL) λv a=>by exact aT (draw hc (n+2) a (k:=9) (by decide)) λi t w=>aT (draw hc (n+2) (a+1) (k:=9) (by decide)) λj x y=>(gF (i,j) (a+1+1) (rQ (au (bt TL TL w TL) (au (bt TL TL y TL) TL)) TL) t x)
 have ok:gz ps:=⟨by exact aJ [_,_] 0x131600004160021 (O9 (Qf f)),by exact aJ [_,_] 0x708000b002085cc08021 d (O9 f),h⟩;refine MW (D6 (R:=ag tab aE wm (n+3)) (wm:=wm) (g:=Sg c b) (x0:=.ref 2) (x1:=.list (ps.map gk)) (ps:=ps) (acc:=[]) (x3:=.u) (x4:=.u) (x5:=.u) (x6:=.u) h (by exact aJ [_,_] 0x3f62c2580000b002085cc08021 d (O9 f))) λx3 x4 x5 x6 o=>?_;refine l ?_;clear l;rw [List.nil_append,(by refine aa (Po ..) ?_;rfl:(ps.map λq=>V.str (bS q))=(ps.map bS).map .str)] at o;refine (dC ps b ok ?_);apply iF TL TL;exact ae (az s TL) (ae TL (ae (jB TL TL o) (ax (aX (au TL (aF (bn (bn TL TL TL (jC (.inl TL) (O5 (Pg (hM ok) 1) (by decide)))) TL TL (gx (Pa.mpr λc m=>TS (Qa (Bi (k3 h c m)) (by decide)))))))))))
end
noncomputable section
structure Pr where
 w:List Nat
 v:V
 t:List Nat
noncomputable def gA (x:Pr):V:=.tuple [.str x.w,x.v]
noncomputable def fN (l:List Pr):List UInt8:=l.flatMap λx=>32::(toB x.w++32::toB x.t)
end
structure fX (x:Pr):Prop where
 up:(x.w.all λc=>decide (65<=c)&&decide (c<=90))=TN
 len:0<x.w.length/\x.w.length<=20
 worth:(∃k:Nat,k<10000000000/\x.v=.int k/\x.t=cq k/\x.w≠[65,76,76])\/(∃ps,gz ps/\x.v=.tuple (ps.map gk)/\x.t=iw ps/\x.w=[65,76,76])
theorem i1 {c:Type}:∀l:List (List c),aD [] l=l.flatten
 |[]=>rfl
 |[_]=>(Pk _).symm
 |a::b::r=>by show a++[]++aD [] (b::r)=_;refine aa (i1 (b::r) ..) (aa (Pk ..) ?_);rfl
theorem xd (os:List (List UInt8)):aD [] (os.map λo=>32::o)=aO os:=by refine aa (i1 ..) ?_;exact List.flatMap_def.symm
theorem hN:∀{os:List (List UInt8)},(∀o∈os,o.length<=z)->(aO os).length<=os.length*(z+1):=by
 intro a;induction a with
 |nil=>intro c;exact QF _
 |cons o r b=>intro h;refine aa (g3 ..) (aa (O8 ..) (aa (O8 ..) (aa (To ..) ?_)));exact aJ [_,_,_,_] 0x6080400d810000020c2110421 (h o (.head _)) (b λo m=>h o (Qv _ m))
theorem ah (h:k<=200000):k<=av:=O5 h (by decide)
section
variable (n:Nat) (g:FG)
theorem pM {ts:List (List Nat)} (b:cO x=TK (ts.map .str)) (ha:∀t∈ts,(∀c∈t,c<128)/\t.length<=80) (a:ts.length<=100):I (n+2) 638 [x] g=TK (.bytes (aO (ts.map toB)),g):=by
 have d:∀o∈ts.map toB,o.length<=80:=λo m=>by obtain ⟨t,ht,rfl⟩:=PI.mp m;refine aa (toB_len ..) ?_;exact (ha t ht).2
 have e:aD [] (ts.map λt=>32::toB t)=aO (ts.map toB):=by refine bx (xd ..) (aa (Po ..) ?_);rfl
 apply fn TL TL;refine ax (jH V.str (λt=>32::toB t) TL b (O5 a (by decide)) (λt m=>di TL (bt TL TL (cF n _ (ha t m).1 (O5 (ha t m).2 (by decide))) TL) (am (ah ?_)) TL) ?_ ?_)
 ·refine aa (toB_len ..) ?_;have:=(ha t m).2;exact bL this TL
 ·refine aa (e ..) ?_;exact ah (by exact bT (O5 (hN d) (PH _ (bu a))) TL)
 ·refine aa (e ..) ?_;rfl
theorem Bl (h:k<10^(j+1)) (a:j+1<=80):(∀c∈cq k,c<128)/\(cq k).length<=80:=⟨λc m=>Pb (dB k c m).2 (by decide),O5 (bH h) a⟩
theorem j6 {a:List Nat} (h:∀k∈a,k<100) (b:a.length<=3):I (n+3) 648 [.tuple (a.map λ(k:Nat)=>.int k)] g=TK (.bytes (aO (a.map ak)),g):=by have key:=pM n g (ts:=a.map cq) (x:=.list (a.map λk=>.str (cq k))) (by refine aa (Po ..) ?_;rfl) (λt m=>by obtain ⟨k,c,rfl⟩:=PI.mp m;exact Bl (j:=1) (h k c) (by decide)) (O5 (bu b) (by decide));rw [(by refine aa (Po ..) ?_;rfl:(a.map cq).map toB=a.map ak)] at key;apply fn TL TL;exact ax (aw TL (aF (dM (λ(k:Nat)=>.int k) (λk=>.str (cq k)) TL TL (O5 b (by decide)) (λk m=>b0 TL (eX (Qa (h k m) (by decide)))) TL)) key)
theorem vi (h:fX x):(∀c∈x.w,65<=c/\c<=90)/\(∀c∈x.t,c<128)/\x.t.length<=80:=by
 refine ⟨λc m=>?_,?_⟩
 ·have:=Pa.mp h.up c m;exact ⟨TM (aR this).1,TM (aR this).2⟩
 ·refine PA h.worth (λa=>ub a λk d b e b=>?_) λa=>ub a λps hp b e b=>?_
  ·refine aa (e ..) ?_;exact Bl (j:=9) d (by decide)
  ·refine aa (e ..) ?_;exact ⟨λc m=>Qa (Bi (k3 hp.lt c m)) (by decide),O5 (hM hp) (by decide)⟩
theorem tU {x0:V}:∀{l:List Pr} {acc:List V} {x2 x3:Slot},(∀x∈l,fX x)->acc.length+2*l.length<=1000->∃f h,iT (λst=>aI (ag tab aE wm (n+3)) wm (.seq (.app 1 (.var 2)) (.app 1 (.ite (.call (.lit (.bi .isinstance)) (.cons (.var 3) (.cons (.lit (.ty .int)) .nil))) (.call (.lit (.ty .str)) (.cons (.var 3) .nil)) (.call (.lit (.ref 273)) (.cons (.var 3) .nil))))) st) [2,3] (l.map gA) ⟨[.v x0,.ml acc,x2,x3],g⟩=TK (.next,⟨[.v x0,.ml (acc++(l.flatMap λx=>[x.w,x.t]).map .str),f,h],g⟩):=by
 intro s;induction s with
 |nil=>intro acc x2 x3 A B;exact (hY x2 x3 (by show TK (Fl.next,_)=TK (Fl.next,(⟨[.v x0,.ml (acc++[]),x2,x3],g⟩:a7));exact aa (Pk ..) TL))
 |cons x r u=>
  intro acc x2 x3 o d;rw [O8] at d;refine xK (u (acc:=acc++[.str x.w]++[.str x.t]) (x2:=.v (.str x.w)) (x3:=.v x.v) (λx m=>o x (.tail _ m)) (by refine aa (g3 ..) (aa (g3 ..) ?_);show acc.length+1+1+2*r.length<=_;exact aJ [_,_] 0x1fb1610aac6040000003f62cc1005508021 d)) λa b e=>?_;refine (hY a b ?_);rw [Pi,Pi] at e;have q:(acc++[V.str x.w]).length<av:=by refine aa (g3 ..) ?_;exact Pb (show acc.length+1<=1001 by exact aJ [_,_] 0x7ecd98100003f62cc1005508021 d) (by decide)
  refine fL (st1:=⟨[.v x0,.ml acc,.v (.str x.w),.v x.v],g⟩) (st2:=⟨[.v x0,.ml (acc++[.str x.w]++[.str x.t]),.v (.str x.w),.v x.v],g⟩) TL (ae (cY (xs:=acc) (st2:=⟨[.v x0,.ml (acc++[.str x.w]),.v (.str x.w),.v x.v],g⟩) TL TL TL (Pb (show acc.length<=1000 by exact bl d) (by decide):acc.length<av) TL) ?_) (by refine aa (Pi ..) ?_;exact e);refine PA (o x (.head _)).worth (λc=>ub c λk y ev i z=>?_) λc=>ub c λps j ev i z=>?_
  ·refine aa (ev ..) (aa (i ..) ?_);exact cY (xs:=acc++[.str x.w]) TL (b1 (eA TL (kp _).2.2.2) TL (b0 TL (eX (by exact bU y TL)))) TL q TL
  ·refine aa (ev ..) (aa (i ..) ?_);exact cY (xs:=acc++[.str x.w]) TL (dy (eA TL (Ft _).2) TL (aw TL TL (oi n _ j))) TL q TL
theorem D7 (l:List Pr):aO ((l.flatMap λx=>[x.w,x.t]).map toB)=fN l:=by
 induction l with
 |nil=>rfl
 |cons x r a=>show (32::toB x.w)++((32::toB x.t)++aO ((r.flatMap λx=>[x.w,x.t]).map toB))=32::(toB x.w++32::toB x.t)++fN r;refine aa (a ..) ?_;simp
theorem vj (h:∀x∈l,fX x) (f:l.length<=3):I (n+4) 655 [.tuple (l.map gA)] g=TK (.bytes (fN l),g):=by
 refine xK (tU n g (x0:=.tuple (l.map gA)) (acc:=[]) (x2:=.u) (x3:=.u) h (by show 0+2*l.length<=_;exact bL (Q1 _ f) TL)) λx2 x3 e=>?_;have d:(l.flatMap λx=>[x.w,x.t]).length<=100:=by refine aa (List.length_flatMap ..) ?_;show (l.map λ_=>2).sum<=100;refine aa (List.map_const' ..) (aa (List.sum_replicate_nat ..) ?_);exact bT (PH _ f) TL
 have key:=pM (n+1) g (x:=.list ((l.flatMap λx=>[x.w,x.t]).map .str)) TL (λt m=>by
  refine aT (List.mem_flatMap.mp m) λx i mt=>fE (vi (h x i)) λa b c=>?_;simp only [Pf,Pn,or_false] at mt;rcases mt with rfl|rfl
  ·exact ⟨λc m=>Pb (a c m).2 (by decide),O5 (h x i).len.2 (by decide)⟩
  ·exact ⟨b,c⟩) d
 rw [D7] at key;apply fn TL TL;exact ae TL (ae (jB TL TL e) (ax (aw TL TL key)))
end
noncomputable section
inductive Form where
 |plain (q:List UInt8)|tV (q:List UInt8)|lit (q:List UInt8)
noncomputable def Form.o:Form->List UInt8
 |.plain q=>q
 |.tV q=>eF q
 |.lit q=>cr q
noncomputable def Form.q:Form->List UInt8
 |.plain q|.tV q|.lit q=>q
noncomputable def Form.ok:Form->Bool
 |.plain q=>q.all n3&&!q.isEmpty&&q.all (λc=>decide (c≠13))&&decide (q.length<=80)
 |.tV q=>q.all pD&&q.all (λc=>decide (c≠13))&&decide (q.length<=80)
 |.lit q=>decide (q.length<=80)
noncomputable def dl:List (List Nat×Form):=[([73,78,66,79,88],.plain [73,78,66,79,88]),([97,32,98],.tV [97,32,98]),([120,38,121],.plain [120,38,45,121]),([228],.plain [38,65,79,81,45]),([110,105,108],.tV [110,105,108]),([],.tV []),([113,34,114,92],.tV [113,34,114,92]),([123,51,125],.tV [123,51,125]),([97,93,98,47,99],.plain [97,93,98,47,99]),([42],.tV [42]),(PF 73 110,.lit (PF 73 110))]
structure Txt (t:List Nat):Prop where
 a:ck (.str t) .none (.int 1)=TK (.str (t.take 1))/\da .Eq (.str (t.take 1)) (.str [91])=TK TO
 b:ck (.str t) (.int (-1)) .none=TK (.str (t.drop (t.length-1)))/\da .Eq (.str (t.drop (t.length-1))) (.str [125])=TK TO
 run:(toB t).all (inR 32 126)=TN
 back:toS' (toB t)=t
 asc:t.all (· <128)=TN
 len:t.length<=80
 NA:∀(n:Nat) (c:List Int) (a:Nat),I (n+3) 626 [.str t] (Sg c a)=TK (.bytes (toB t),Sg c a)
 last:∀o x,toB t=o++[x]->x≠125
 nb:∀l:List UInt8,(toB t++13::l).take 1≠[91]
noncomputable def kr:List V:=[.str [],.str [100,111,110,101],.str [97,32,123,51,125,32,98],.str [120,93,32,121],.str [53],.str [42,32,79,75],.str [34,113,34,32,92]]
end
theorem Ki (h:x∈kr):∃t,x=.str t/\Txt t:=by
 refine ac λj=>aT (any_some (gj (p:=λx:V=>(fG x).any λt:List Nat=>(toB t).all (inR 32 126)&&decide (toS' (toB t)=t/\t.all (· <128)=TN/\t.length<=80/\(toB t).getLast?≠TK 125/\(toB t++[13]).take 1≠([91]))) (show kr.all _=TN by kernel_rfl) h)) λt ht hp=>?_;have d:=dz (f:=λx:V=>(ck x .none (.int 1),da .Eq (.str (((fG x).getD []).take 1)) (.str [91]),ck x (.int (-1)) .none,da .Eq (.str (((fG x).getD []).drop (((fG x).getD []).length-1))) (.str [125])))
  (g:=λx=>(TK (.str (((fG x).getD []).take 1)),TK TO,TK (.str (((fG x).getD []).drop (((fG x).getD []).length-1))),TK TO)) (show kr.map _=kr.map _ by kernel_rfl) h
 obtain rfl:=c6 ht;refine aM (aR hp) λm i=>ou (TM i) λi s u v w=>aM (PB d) λa1 d=>aM (PB d) λz d=>aM (PB d) λA B=>j ?_;refine ⟨t,TL,⟨a1,z⟩,⟨A,B⟩,m,i,s,u,(λn c a=>dz (f:=λx:V=>I (n+3) 626 [x] (Sg c a)) (g:=λx=>TK (.bytes (toB ((fG x).getD [])),Sg c a)) (show kr.map _=kr.map _ by kernel_rfl) h),λo x e q=>v ?_,λl k=>w ?_⟩
 ·refine aa (e ..) (aa (q ..) (aa (List.getLast?_append ..) (aa (List.getLast?_singleton ..) ?_)));rfl
 ·generalize toB t=b at k;cases b with
  |nil=>exact k
  |cons y r=>exact k
theorem vk (n a:Nat) (c:List Int):∀x∈dl,I (n+8) 633 [.str x.1] (Sg c a)=TK (.bytes x.2.o,Sg c a):=by exact λx b=>dz (f:=λx:List Nat×Form=>I (n+8) 633 [.str x.1] (Sg c a)) (g:=λx=>TK (.bytes x.2.o,Sg c a)) (show dl.map _=dl.map _ by kernel_rfl) b
theorem D8 (n a p:Nat) (c:List Int) (d:List UInt8):∀x∈dl,I (n+6) 208 [.bytes x.2.q] ⟨TK (c,a),TK (d,p)⟩=TK (.str x.1,⟨TK (c,a),TK (d,p)⟩)/\x.2.ok=TN:=by exact λx b=>⟨dz (f:=λx:List Nat×Form=>I (n+6) 208 [.bytes x.2.q] ⟨TK (c,a),TK (d,p)⟩) (g:=λx=>TK (.str x.1,⟨TK (c,a),TK (d,p)⟩)) (show dl.map _=dl.map _ by kernel_rfl) b,gj (p:=λx:List Nat×Form=>x.2.ok) (show dl.all _=TN by kernel_rfl) b⟩
noncomputable def Dm (l:List UInt8):Prop:=∃c r,l=c::r/\(c=32\/c=41\/c=13\/c=93)
theorem Dm.stop (h:Dm l):Stop isVal l/\Stop jD l/\Stop isSet l/\Stop (inR 48 57) l:=by obtain ⟨c,r,rfl,rfl|rfl|rfl|rfl⟩:=h<;>exact (B1 (.cons TL) (.cons TL) (.cons TL) (.cons TL))
theorem Dl.dm (h:Dl l):Dm l:=by
 obtain ⟨r,rfl|rfl⟩:=h
 ·exact (dC _ _ TL (.inl TL))
 ·exact (dC _ _ TL (.inr (.inl TL)))
noncomputable section
noncomputable def MG:S:=.seq (.expr (.a4 (.var 0) .space .nil)) (.app 1 (.a4 (.var 0) .number .nil))
noncomputable def MH:E:=.and (.cmp .Eq (.a4 (.var 0) .peek .nil) (.lit (.int 32))) (.call (.lit (.ref 350)) (.cons (.ite (.cmp .Lt (.bin .Add (.attr (.var 0) .at_) (.lit (.int 1))) (.call (.lit (.bi .len)) (.cons (.attr (.var 0) .data) .nil))) (.sub (.attr (.var 0) .data) (.bin .Add (.attr (.var 0) .at_) (.lit (.int 1)))) (.lit (.int 0))) .nil))
inductive xJ:List UInt8->Prop
 |nil:xJ []
 |chr {c o}:inR 32 126 c=TN->c≠93->c≠34->xJ o->xJ (c::o)
 |tV {q o}:(∀c∈q,pD c=TN)->xJ o->xJ (eF q++o)
noncomputable def MI:S:=.ite (.cmp .Eq (.a4 (.var 0) .peek .nil) (.lit (.int 34))) (.expr (.a4 (.var 0) .quoted .nil)) (.ite (.call (.lit (.ref 707)) (.cons (.a4 (.var 0) .peek .nil) .nil)) (.kA (.var 0) .at_ (.bin .Add (.attr (.var 0) .at_) (.lit (.int 1)))) .raise)
end
section
variable (n:Nat) {d l o:List UInt8} {p:Nat} {c:UInt8} {s:Option (List Int×Nat)}
theorem xe {f:Form} (a:f.ok=TN) (h:At d p (f.o++l)) (hs:Stop n3 l):I (n+7) 512 [.ref 1] ⟨s,TK (d,p)⟩=TK (.bytes f.q,⟨s,TK (d,p+f.o.length)⟩):=by
 have key:I (n+6) 505 [.ref 1,.ref 322] ⟨s,TK (d,p)⟩=TK (.bytes f.q,⟨s,TK (d,p+f.o.length)⟩):=by
  cases f with
  |plain q=>
   refine ac λi=>aM (aR a) λa k=>aM (aR a) λa k=>aM (aR a) λb m=>i ?_;clear i;have b:=Pa.mp b;cases q with
   |nil=>cases m
   |cons x r=>have j:=b x (.head _);have nb:x≠34/\x≠123:=⟨λe=>by subst e;exact TU j (by decide+kernel),λe=>by subst e;exact TU j (by decide+kernel)⟩;exact AX (n+3) (λc g=>n4 (n+1) g c) h (λe=>nb.1 (Qj.mp (Qm e))) (λe=>nb.2 (Qj.mp (Qm e))) b hs
  |tV q=>exact AV (n+1) h (Pa.mp (aR (aR a).1).1)
  |lit q=>exact AW (n+1) h
 apply ef TL TL;exact ax (aH TL TL TL TL TL key)
theorem FA {c:List Int} (b:x∈dl) (h:At d p (x.2.o++l)) (hs:Stop n3 l):I (n+8) 721 [.ref 1] ⟨TK (c,a),TK (d,p)⟩=TK (.str x.1,⟨TK (c,a),TK (d,p+x.2.o.length)⟩):=by refine aM (D8 (n+1) a (p+x.2.o.length) c d x b) λe f=>?_;apply ef TL TL;exact ax (aw TL (aF (aH TL TL TL TL TL (xe n f h hs))) e)
theorem tW (ht:Txt t) (h:At d p (toB t++l)) (hs:Stop (inR 32 126) l):I (n+3) 771 [.ref 1] ⟨s,TK (d,p)⟩=TK (.str t,⟨s,TK (d,p+(toB t).length)⟩):=by
 have e:aD [] ((toB t).map λc=>[c.toNat])=t:=by refine aa (cZ (toB t) ..) ?_;exact ht.back
 apply ef TL TL;refine ae TL (ae (az (v:=.str t) (st1:=⟨[.v (.ref 1),.v (.int p),.u],⟨s,TK (d,p+(toB t).length)⟩⟩) (hE (l:=toB t) (λc=>.int c.toNat) (λc=>[c.toNat]) (aH TL TL TL TL TL (iE (n+1) (λc g=>tP n g c) h (Pa.mp ht.run) hs)) TL h.len (λc m=>iD TL (rT (Qa c.toNat_lt (by decide)))) ?_ ?_) TL) ?_)
 ·refine aa (e ..) ?_;exact O5 (Pg ht.len 0) (by decide)
 ·refine aa (e ..) ?_;rfl
 ·refine ae (aA (eB (aG (db TL TL TL ht.a.1) TL ht.a.2) TL (aG (db TL TL TL ht.b.1) TL ht.b.2)) TL TL) TL
theorem xf {rest:List UInt8} (hr:(∃r,rest=13::r)\/∃r,rest=32::40::r):∀{a:List Nat} {acc:List V} {p K:Nat},At d p (aO (a.map ak)++rest)->(∀k∈a,k<100)->acc.length+a.length<=1000->a.length<K-> bk (λst=>aB (ag tab aE wm (n+4)) wm MH TN st) (λst=>aI (ag tab aE wm (n+4)) wm MG st) K ⟨[.v (.ref 1),.ml acc],⟨s,TK (d,p)⟩⟩=TK (.next,⟨[.v (.ref 1),.ml (acc++a.map λ(k:Nat)=>.int k)],⟨s,TK (d,p+(aO (a.map ak)).length)⟩⟩):=by
 intro t;induction t with
 |nil=>
  intro acc p K h u w x;rcases K with _|K
  ·first|exact TU x (O7 _)|exact TU w (O7 _)|exact TU u (O7 _)|exact TU h (O7 _)|exact TU p (O7 _)|exact TU acc (O7 _)
  refine aa (Qs ..) (aa (Pk ..) ?_);have h:At d p rest:=h;rcases hr with ⟨r,rfl⟩|⟨r,rfl⟩
  ·exact cP (pt (aG (aY (n+3) h) TL TL) TL)
  ·have hp:(p:Int)+1<d.length:=by have:=h.one.lt;exact Ps.mpr (aJ [_,_] 0x13181000001318100021 this)
   exact cP (eg (ez (aY (n+3) h) TL TL TL) TL (bt TL (au (b1 (ez TL mE TL TL) (TS hp) (AE TL TL (kG (i:=p+1) h.one.get) TL)) TL) (dA (n+3) _ 40) TL))
 |cons k r y=>
  intro acc p K h g b j;rcases K with _|K
  ·first|exact TU j (O7 _)|exact TU b (O7 _)|exact TU g (O7 _)|exact TU h (O7 _)|exact TU p (O7 _)|exact TU acc (O7 _)
  rw [O8] at b j;have h:At d p (32::(ak k++(aO (r.map ak)++rest))):=by refine bx ((by show (32::ak k++aO (r.map ak))++rest=_;simp:aO ((k::r).map ak)++rest=32::(ak k++(aO (r.map ak)++rest))) ..) ?_;exact h
  have e:=h.one;have key:=y (acc:=acc++[.int k]) (p:=p+1+(ak k).length) (K:=K) e.step (λk m=>g k (.tail _ m)) (by refine aa (g3 ..) ?_;show acc.length+1+r.length<=_;exact s1 b) (by exact PR j);have z:p+(aO ((k::r).map ak)).length=p+1+(ak k).length+(aO (r.map ak)).length:=by show p+(32::ak k++aO (r.map ak)).length=_;refine aa (g3 ..) (aa (O8 ..) ?_);exact eb [_,_,_] 0x626040000d8200020
  refine aa (z ..) (aa ((by simp:acc++((k::r).map λ(k:Nat)=>V.int k)=acc++[.int k]++r.map λ(k:Nat)=>V.int k) ..) ?_);have hs:Stop (inR 48 57) (aO (r.map ak)++rest):=by
   cases r with
   |nil=>rcases hr with ⟨r,rfl⟩|⟨r,rfl⟩<;>exact .cons TL
   |cons k r=>exact .cons TL
  cases f:ak k with
  |nil=>exact TU f (jF k)
  |cons c o=>
   have A:inR 48 57 c=TN:=(eY k) c (by refine aa (f ..) ?_;exact .head _);have q:At d (p+1) (c::(o++(aO (r.map ak)++rest))):=by rw [f] at e;exact e
   refine bx (f ..) ?_;refine cD (st1:=⟨[.v (.ref 1),.ml acc],⟨s,TK (d,p)⟩⟩) (st2:=⟨[.v (.ref 1),.ml (acc++[.int k])],⟨s,TK (d,p+1+(ak k).length)⟩⟩) (eg (aG (aY (n+3) h) TL TL) TL (bt TL (aF (b1 (aG TL mE TL) (TS (by have:=q.lt;exact Ps.mpr (aJ [_,_] 0x13181000001318100021 this):(p:Int)+1<d.length)) (bp TL TL (kG (i:=p+1) q.get)))) (dA (n+3) _ c) ?_)) ?_ key
   ·refine aa (A ..) ?_;rfl
   ·exact ae (a0 (aH TL TL TL TL TL (bD (n+1) h))) (cY (xs:=acc) TL (aH TL TL TL TL TL (jG (n+1) e hs (Qa (g k (.head _)) (by decide)))) TL (Pb (show acc.length<=1000 by exact bl b) (by decide)) TL)
theorem j7 {a:List Nat} (hr:(∃r,rest=13::r)\/∃r,rest=32::40::r) (h:At d p (aO (a.map ak)++rest)) (e:∀k∈a,k<100) (b:a.length<=3):I (n+5) 752 [.ref 1] ⟨s,TK (d,p)⟩=TK (.tuple (a.map λ(k:Nat)=>.int k),⟨s,TK (d,p+(aO (a.map ak)).length)⟩):=by apply ef TL TL;exact ae TL (ae (eW (xf n hr h e (by exact bL b TL) (Pb b (by decide)))) TL)
theorem Bm:∀{o:List UInt8},xJ o->∀{p K:Nat} {sl:Slot},At d p (o++93::l)->o.length<K-> bk (λst=>aB (ag tab aE wm (n+4)) wm (.cmp .NotEq (.a4 (.var 0) .peek .nil) (.lit (.int 93))) TN st) (λst=>aI (ag tab aE wm (n+4)) wm MI st) K ⟨[.v (.ref 1),sl],⟨s,TK (d,p)⟩⟩=TK (.next,⟨[.v (.ref 1),sl],⟨s,TK (d,p+o.length)⟩⟩):=by
 intro o ho;induction ho with
 |nil=>intro p K sl h a;refine ac λf=>?_;obtain ⟨K,rfl⟩:∃k,K=k+1:=⟨K-1,by exact s5 a⟩;refine f ?_;clear f;exact cP (aG (aY (n+3) h) TL TL)
 |@chr c o j m r _ g=>intro p K sl h a;rw [O8] at a;refine ac λf=>?_;obtain ⟨K,rfl⟩:∃k,K=k+1:=⟨K-1,by exact PJ (aJ [_,_] 0x608010018200421 (sr _ _)) (aJ [_,_] 0x130200004c08021 (ow (aJ [_,_] 0x130001318100021 a)))⟩;refine f ?_;have h:=h;refine aa (show p+(c::o).length=p+1+o.length by refine aa (O8 ..) ?_;exact eb [_,_] 0x4c0800c10020) ?_;refine cD (ez (aY (n+3) h) TL TL ?_) (aA (aG (aY (n+3) h) TL TL) (TR (λe=>r (Qj.mp (Qm e)))) (aU (rR TL (aF (aY (n+3) h)) (tP (n+3) _ c)) j n7)) (g (K:=K) (sl:=sl) h.one (by exact PR a));exact TQ (λb=>TK (V.bool b,(⟨[.v (.ref 1),sl],⟨s,TK (d,p)⟩⟩:a7))) (TS (λe=>m (Qj.mp (Qm e))))
 |@tV q o t _ g=>intro p K sl h a;rw [g3] at a;refine ac λf=>?_;obtain ⟨K,rfl⟩:∃k,K=k+1:=⟨K-1,by exact PJ (aJ [_,_] 0x608010018200421 (sr _ _)) (aJ [_,_] 0x130200004c08021 (ow (aJ [_,_,_] 0x1b0001b04100021 a)))⟩;refine f ?_;rw [Pi] at h;have i:=h;refine aa (show p+(eF q++o).length=p+(eF q).length+o.length by refine aa (g3 ..) ?_;exact eb [_,_,_] 0x620800310020) ?_;exact cD (ez (aY (n+3) i) TL TL TL) (aU (ez (aY (n+3) i) TL TL TL) TL (a0 (aW TL TL TL TL TL (rX (n+1) h t) TL))) (g (K:=K) (sl:=sl) h.step (by exact aJ [_,_,_] 0x1b0400002d085830304100021 a (by unfold eF;refine aa (O8 ..) (aa (g3 ..) ?_);exact Rr _ _:2<=(eF q).length)))
end
noncomputable section
noncomputable def vm:List V:=[.str [70,76,65,71,83],.str [85,73,68],.str [82,70,67,56,50,50,46,83,73,90,69],.str [66,79,68,89,91,72,69,65,68,69,82,46,70,73,69,76,68,83,32,40,65,32,34,120,93,121,34,41,93,60,48,62],.str [66,79,68,89,91,49,46,50,93],.str [66,79,68,89,83,84,82,85,67,84,85,82,69],.str [66,79,68,89,91,93]]
noncomputable abbrev Fx:=List Nat×f0
noncomputable def mP (x:Fx):V:=.tuple [.str x.1,x.2.1]
noncomputable def Bn (x:Fx):V:=.tuple [.str x.1,x.2.2.1]
noncomputable def e6 (x:Fx):List UInt8:=toB x.1++32::x.2.2.2
end
structure KY (t:List Nat):Prop where
 asc:t.all (· <128)=TN
 len:0<t.length/\t.length<=80
 back:toS' (toB t)=t
 pc:(toB t).all (λc=>decide (c≠13))=TN
 hd:∃c r,toB t=c::r/\c≠41
 MJ:(toB t).all cE=TN\/∃pre NB post,toB t=pre++91::(NB++93::post)/\pre.all cE=TN/\xJ NB/\post.all cE=TN
theorem tX:∀{o:List UInt8},(o.all λc=>inR 32 126 c&&decide (c≠93)&&decide (c≠34))=TN->xJ o:=by
 intro b;induction b with
 |nil=>intro i;exact .nil
 |cons c r d=>intro h;exact aM (aR h) λa e=>aM (aR a) λa f=>aM (aR a) λa g=>.chr a (TM g) (TM f) (d e)
theorem xJ.app (h:xJ a) (k:xJ b):xJ (a++b):=by
 induction h with
 |nil=>exact k
 |chr a b c _ d=>exact .chr a b c d
 |tV e _ d=>refine aa (Pi ..) ?_;exact .tV e d
theorem MK (a:x∈vm):∃t,x=.str t/\KY t:=by
 unfold vm at a;simp only [Pf,Pn,or_false] at a;rcases a with rfl|rfl|rfl|rfl|rfl|rfl|rfl
 ·exact ⟨_,TL,by decide,by decide,TL,by decide+kernel,(dC _ _ TL (by decide)),.inl (by decide+kernel)⟩
 ·exact ⟨_,TL,by decide,by decide,TL,by decide+kernel,(dC _ _ TL (by decide)),.inl (by decide+kernel)⟩
 ·exact ⟨_,TL,by decide,by decide,TL,by decide+kernel,(dC _ _ TL (by decide)),.inl (by decide+kernel)⟩
 ·refine ⟨_,TL,by decide,by decide,TL,by decide+kernel,(dC _ _ TL (by decide)),.inr (EG [66,79,68,89] ([72,69,65,68,69,82,46,70,73,69,76,68,83,32,40,65,32]++(eF [120,93,121]++[41])) [60,48,62] TL (by decide+kernel) ?_ (by decide+kernel))⟩;exact (tX (by decide+kernel)).app (.tV (λc m=>Pa.mp (show ([120,93,121]).all pD=TN by decide+kernel) c m) (tX (by decide+kernel)))
 ·exact ⟨_,TL,by decide,by decide,TL,by decide+kernel,(dC _ _ TL (by decide)),.inr (EG [66,79,68,89] [49,46,50] [] TL (by decide+kernel) (tX (by decide+kernel)) TL)⟩
 ·exact ⟨_,TL,by decide,by decide,TL,by decide+kernel,(dC _ _ TL (by decide)),.inl (by decide+kernel)⟩
 ·exact ⟨_,TL,by decide,by decide,TL,by decide+kernel,(dC _ _ TL (by decide)),.inr (EG [66,79,68,89] [] [] TL (by decide+kernel) .nil TL)⟩
section
variable (n:Nat) {d l o:List UInt8} {p:Nat} {c:UInt8} {s:Option (List Int×Nat)}
theorem r5 {t:List Nat} (ht:KY t) (h:At d p (toB t++l)) {w:Fl×a7} (a:w=(.ret (.str t),⟨[.v (.ref 1),.v (.int p)],⟨s,TK (d,p+(toB t).length)⟩⟩)):aI (ag tab aE wm (n+5)) wm (bd (bd (bd pj))) ⟨[.v (.ref 1),.v (.int p)],⟨s,TK (d,p+(toB t).length)⟩⟩=TK w:=by
 subst a;have e:aD [] ((toB t).map λc=>[c.toNat])=t:=by refine aa (cZ (F:=Q4) (toB t) ..) ?_;exact ht.back
 refine ae (aA TL (TR (by refine aa (toB_len ..) ?_;have:=ht.len.1;exact Rd (Ps.mpr (aJ [_,_] 0x22030400002c58021 this)):¬(((p+(toB t).length:Nat):Int)=p))) TL) (ax (hE (x:=.bytes (toB t)) (ρ:=[.v (.ref 1),.v (.int p)]) (g:=⟨s,TK (d,p+(toB t).length)⟩) (sep:=[]) (l:=toB t) (λc=>.int c.toNat) (λc=>[c.toNat]) (AF TL TL TL (pC (i:=p) (j:=p+(toB t).length)) ?_) TL h.len (λc m=>iD TL (rT (Qa c.toNat_lt (by decide)))) ?_ ?_))
 ·refine aa (iZ ..) (aa (h.e ..) (aa (QK ..) ?_));rfl
 ·refine aa (e ..) ?_;exact O5 (Pg ht.len.2 0) (by decide)
 ·refine aa (e ..) ?_;rfl
theorem HM (ht:KY t) (h:At d p (toB t++32::l)):I (n+6) 738 [.ref 1] ⟨s,TK (d,p)⟩=TK (.str t,⟨s,TK (d,p+(toB t).length)⟩):=by
 refine PA ht.MJ (λu=>?_) λj=>xM j λa f b e w x y=>?_
 ·apply ef TL TL;exact ae TL (ae (a0 (aW TL TL TL TL TL (iE (n+4) (λc g=>pA (n+2) g c) h (Pa.mp u) (.cons TL)) TL)) (ae (aA (aW TL TL TL TL TL (bz (n+4) (h.step) (λk=>by cases k)) TL) TL TL) (r5 n ht h TL)))
 ·have q:At d p (a++([91]++(f++93::(b++32::l)))):=by refine bx ((by refine aa (e ..) ?_;simp:toB t++32::l=a++([91]++(f++93::(b++32::l)))) ..) ?_;exact h
  have r:=q.step;have m:=r.step;have i:=r5 n (s:=s) ht h TL;rw [(by refine aa (e ..) ?_;simp;exact eb [_,_,_,_] 0x8c1b041000000318400c0010020:p+(toB t).length=p+a.length+1+f.length+1+b.length)] at i⊢;have a1:aI (ag tab aE wm (n+5)) wm (.expr (.a4 (.var 0) .run (.cons (.lit (.ref 700)) .nil))) ⟨[.v (.ref 1),.v (.int p)],⟨s,TK (d,p)⟩⟩=TK (.next,⟨[.v (.ref 1),.v (.int p)],⟨s,TK (d,p+a.length)⟩⟩):=a0 (aW TL TL TL TL TL (iE (n+4) (λc g=>pA (n+2) g c) q (Pa.mp w) (.cons TL)) TL);have z:aB (ag tab aE wm (n+5)) wm (.a4 (.var 0) .skip (.cons (.lit (.bytes [91])) .nil)) TN ⟨[.v (.ref 1),.v (.int p)],⟨s,TK (d,p+a.length)⟩⟩=TK (.bool TN,⟨[.v (.ref 1),.v (.int p)],⟨s,TK (d,p+a.length+1)⟩⟩):=aW TL TL TL TL TL (co (n+4) r) TL;have A:aI (ag tab aE wm (n+5)) wm (.expr (.a4 (.var 0) .run (.cons (.lit (.ref 700)) .nil))) ⟨[.v (.ref 1),.v (.int p)],⟨s,TK (d,p+a.length+1+f.length+1)⟩⟩=TK (.next,⟨[.v (.ref 1),.v (.int p)],⟨s,TK (d,p+a.length+1+f.length+1+b.length)⟩⟩):=a0 (aW TL TL TL TL TL (iE (n+4) (λc g=>pA (n+2) g c) (m.step).one (Pa.mp y) (.cons TL)) TL);apply ef TL TL;exact ae (az TL TL) (ae a1 (ae (aU z TL (ae (eW (Bm (n+1) x m (Pb m.len (by decide)))) (ae n7 A))) i))
theorem Kj (m:Nat) (g:FG):I (m+1) 546 [.ref 1] g=I (m+1) 546 [.ref 1,.int (0:Nat)] g:=TL
theorem r6 {ts:List (List Nat)} (h:∀t∈ts,nu t) (a:ts.length<=3) (b:At d p (aQ (ts.map toB)++l)):I (n+13) 733 [.ref 1,.bool TN] ⟨s,TK (d,p)⟩=TK (.list (ts.map .atom),⟨s,TK (d,p+(aQ (ts.map toB)).length)⟩):=by apply ef TL TL;exact aS (aU (tK TL (aG (aY (n+11) b) TL TL)) TL (ax (dM V.str V.atom (aw TL TL (pK n h a b)) TL (O5 a (by decide)) (λt m=>tM TL TL) TL)))
theorem mQ (h:Good 12 v b o z) (a:At d p (o++l)) (hs:Stop isVal l):I (n+13) 733 [.ref 1,.bool TO] ⟨s,TK (d,p)⟩=TK (v,⟨s,TK (d,p+o.length)⟩):=by apply ef TL TL;exact ae TL (ax (aH TL TL TL TL TL ((Kj (n+11) _).trans (h.r n d p s l 0 (by decide) a hs))))
end
structure Fp (x:Fx):Prop where
 Kk:KY x.1
 worth:(x.1=[70,76,65,71,83]/\∃ts:List (List Nat),(∀t∈ts,nu t)/\ts.length<=3/\x.2=(.list (ts.map .atom),.tuple (ts.map fW),aQ (ts.map toB)))\/(x.1≠[70,76,65,71,83]/\Good 12 x.2.1 x.2.2.1 x.2.2.2 1820)
theorem Fp.HN (h:Fp x):Wok 12 x.2.1 x.2.2.1 x.2.2.2 1820:=by
 refine PA h.worth (λa=>aM a λb a=>ix a λts c d e=>?_) λa=>aM a λb g=>?_
 ·refine aa (e ..) ?_;exact (oh c d).up (by decide) (by decide)
 ·exact g.toWok
theorem xg (n:Nat) (j:Fp x) (h:At d p (e6 x++l)) (hd:Dl l):I (n+14) 745 [.ref 1] ⟨s,TK (d,p)⟩=TK (mP x,⟨s,TK (d,p+(e6 x).length)⟩):=by
 have k:At d p (toB x.1++32::(x.2.2.2++l)):=by refine bx ((by unfold e6;simp:e6 x++l=toB x.1++32::(x.2.2.2++l)) ..) ?_;exact h
 have m:At d (p+(toB x.1).length) (32::(x.2.2.2++l)):=k.step;have f:=m.one;refine aa ((by unfold e6;refine aa (g3 ..) (aa (O8 ..) ?_);exact eb [_,_,_] 0x6c104000306010020:p+(e6 x).length=p+(toB x.1).length+1+x.2.2.2.length) ..) ?_;have key:I (n+13) 733 [.ref 1,.bool (decide (x.1=[70,76,65,71,83]))] ⟨s,TK (d,p+(toB x.1).length+1)⟩=TK (x.2.1,⟨s,TK (d,p+(toB x.1).length+1+x.2.2.2.length)⟩):=by
  refine PA j.worth (λc=>aM c λi c=>ix c λts a b e=>?_) λc=>aM c λi g=>?_
  ·refine aa (TS i ..) ?_;rw [e] at f⊢;exact r6 n a b f
  ·exact aa (TR i ..) (mQ n g f hd.dm.stop.1)
 apply ef TL TL;exact ae (az (bt TL (au TL TL) (HM (n+7) j.Kk k) TL) TL) (ae (a0 (aH TL TL TL TL TL (bD (n+10) m))) (ax (aX (au TL (aF (aw TL TL key))))))
noncomputable section
noncomputable abbrev Gw (c:List Int) (a:Nat) (d:List UInt8) (p:Nat):FG:=⟨TK (c,a),TK (d,p)⟩
noncomputable def fO (x:Pr):List UInt8:=toB x.w++32::toB x.t
noncomputable def HO:List V:=[.str [73,68,76,69],.str [84,72,82,69,65,68,61,82,69,70,69,82,69,78,67,69,83],.str [76,73,84,69,82,65,76,43]]
end
theorem pN (h:(w.all λc=>decide (65<=c)&&decide (c<=90))=TN):(∀c∈toB w,jD c=TN)/\(∀c∈toB w,c<128)/\(toS' (toB w)).map n5=w/\(∀c∈toB w,c≠13):=by
 have key:=λc m=>by have:=Pa.mp h c m;have d:=TM (aR this).1;have e:=TM (aR this).2;have:=Pa.mp (by decide+kernel:(PN 26).all (λi=>jD (Pp (65+i))&&decide (Pp (65+i)<128)&&decide (n5 (Pp (65+i)).toNat=65+i)&&decide (Pp (65+i)≠13))=TN) (c-65) (Rl.mpr (aJ [_,_] 0x3ab3040000248d840084bab0421 e (ow (aJ [_] 0x9236000248d821 d))));rw [show 65+(c-65)=c by exact Nat.add_sub_cancel' d] at this;refine ac λf=>aM (aR this) λh g=>aM (aR h) λh j=>aM (aR h) λk l=>f ?_;exact (B1 k (TM l) (TM j) (TM g))
 refine (B1 (λc m=>?_) (λc m=>?_) ?_ (λc m=>?_))
 ·refine mM m λx b a=>?_;subst a;exact (key x b).1
 ·refine mM m λx b a=>?_;subst a;exact (key x b).2.1
 ·refine aa (Po ..) (aa (Po ..) ?_);exact (QI λc m=>(key c m).2.2.1).trans (Tu _)
 ·refine mM m λx b a=>?_;subst a;exact (key x b).2.2.2
section
variable (n:Nat) {d l o:List UInt8} {p:Nat} {s:Option (List Int×Nat)}
theorem vn {x:Pr} (g:fX x) (h:At d p (fO x++l)) (hd:Dm l):I (n+7) 759 [.ref 1] ⟨s,TK (d,p)⟩=TK (gA x,⟨s,TK (d,p+(fO x).length)⟩):=by
 refine FJ (pN g.up) λu y z j=>?_;have m:At d p (toB x.w++32::(toB x.t++l)):=by refine bx ((by unfold fO;simp:fO x++l=toB x.w++32::(toB x.t++l)) ..) ?_;exact h
 have q:At d (p+(toB x.w).length) (32::(toB x.t++l)):=m.step;have f:=q.one;have ne:toB x.w≠[]:=λe=>by have:=g.len.1;rw [←toB_len,e] at this;exact PG _ this
 have r:=HE n (s:=s) m u (.cons TL) ne y;rw [z] at r;refine aa ((by unfold fO;refine aa (g3 ..) (aa (O8 ..) ?_);exact eb [_,_,_] 0x6c104000306010020:p+(fO x).length=p+(toB x.w).length+1+(toB x.t).length) ..) ?_;refine FJ hd.stop λj j st A=>?_;apply ef TL TL;refine ae (az (st2:=⟨[.v (.ref 1),.v (.str x.w)],⟨s,TK (d,p+(toB x.w).length)⟩⟩) (aW TL TL TL TL TL r TL) TL) (ae (st1:=⟨[.v (.ref 1),.v (.str x.w)],⟨s,TK (d,p+(toB x.w).length+1)⟩⟩) (a0 (aW TL TL TL TL TL (bD (n+3) q) TL)) (ax ?_));refine rQ (st1:=⟨[.v (.ref 1),.v (.str x.w)],⟨s,TK (d,p+(toB x.w).length+1+(toB x.t).length)⟩⟩) (au TL (au (v:=x.v) (st1:=⟨[.v (.ref 1),.v (.str x.w)],⟨s,TK (d,p+(toB x.w).length+1+(toB x.t).length)⟩⟩) ?_ TL)) TL;refine PA g.worth (λa=>ub a λk B ev b i=>?_) λa=>ub a λps c ev b i=>?_
 ·rw [b] at f;refine aa (ev ..) (aa (b ..) ?_);exact dy TL (TR i) (aW TL TL TL TL TL (jG (n+3) f A (by exact bU B TL)) TL)
 ·rw [b] at f;refine aa (ev ..) (aa (b ..) ?_);exact b1 TL (TS i) (bt TL (au (aW TL TL TL TL TL (r4 (n+2) c f st) TL) TL) (oj (n+4) _ c) TL)
theorem tY:∀{ts:List (List Nat)} {acc:List V} {p K:Nat},At d p (aO (ts.map toB)++13::l)->(∀t∈ts,(∀c∈toB t,cE c=TN)/\toB t≠[]/\(∀c∈toB t,c<128)/\toS' (toB t)=t)->acc.length+ts.length<=1000->ts.length<K-> bk (λst=>aB (ag tab aE wm (n+6)) wm (.a4 (.var 0) .skip (.cons (.lit (.bytes [32])) .nil)) TN st) (λst=>aI (ag tab aE wm (n+6)) wm (.app 1 (.call (.lit (.ref 714)) (.cons (.var 0) .nil))) st) K ⟨[.v (.ref 1),.ml acc],⟨s,TK (d,p)⟩⟩=
   TK (.next,⟨[.v (.ref 1),.ml (acc++ts.map .str)],⟨s,TK (d,p+(aO (ts.map toB)).length)⟩⟩):=by
 intro q;induction q with
 |nil=>
  intro acc p K h u w x;rcases K with _|K
  ·first|exact TU x (O7 _)|exact TU w (O7 _)|exact TU u (O7 _)|exact TU h (O7 _)|exact TU p (O7 _)|exact TU acc (O7 _)
  refine aa (Qs ..) (aa (Pk ..) ?_);exact cP (aW TL TL TL TL TL (bz (n+5) h (λk=>by cases k)) TL)
 |cons t r y=>
  intro acc p K h ht f g;rcases K with _|K
  ·first|exact TU g (O7 _)|exact TU f (O7 _)|exact TU ht (O7 _)|exact TU h (O7 _)|exact TU p (O7 _)|exact TU acc (O7 _)
  rw [O8] at f g;have h:At d p ([32]++(toB t++(aO (r.map toB)++13::l))):=by refine bx ((by show (32::toB t++aO (r.map toB))++13::l=_;simp:aO ((t::r).map toB)++13::l=[32]++(toB t++(aO (r.map toB)++13::l))) ..) ?_;exact h
  have i:=h.step;have key:=y (acc:=acc++[.str t]) i.step (λk m=>ht k (.tail _ m)) (by refine aa (g3 ..) ?_;exact s1 f) (PR g);have z:p+(aO ((t::r).map toB)).length=p+1+(toB t).length+(aO (r.map toB)).length:=by refine aa (g3 ..) (aa (O8 ..) ?_);exact eb [_,_,_] 0x626040000d8200020
  refine aa (z ..) (aa ((by simp:acc++(t::r).map V.str=acc++[.str t]++r.map V.str) ..) ?_);refine FJ (ht t (.head _)) λa b c e=>?_;have hs:Stop cE (aO (r.map toB)++13::l):=by
   cases r with
   |nil=>exact .cons TL
   |cons k r=>exact .cons TL
  have j:=pE (n+1) (s:=s) i a hs b c;rw [e] at j;exact cD (aW TL TL TL TL TL (co (n+5) h) TL) (cY TL (bt TL TL j TL) TL (Pb (show acc.length<=1000 by exact bl f) (by decide)) TL) key
theorem D9 {ts:List (List Nat)} (h:At d p (aO (ts.map toB)++13::l)) (ht:∀t∈ts,(∀c∈toB t,cE c=TN)/\toB t≠[]/\(∀c∈toB t,c<128)/\toS' (toB t)=t) (a:ts.length<=3):I (n+7) 766 [.ref 1] ⟨s,TK (d,p)⟩=TK (.tuple (ts.map .str),⟨s,TK (d,p+(aO (ts.map toB)).length)⟩):=by apply ef TL TL;exact ae TL (ae (eW (tY n h ht (by exact bL a TL) (Pb a (by decide)))) TL)
theorem Bo {x1 x3 x4 x5:Slot}:∀{ps:List Pr} {acc:List V} {p K:Nat},At d p (fN ps++13::l)->(∀x∈ps,fX x)->acc.length+ps.length<=1000->ps.length<K-> bk (λst=>aB (ag tab aE wm (n+8)) wm (.a4 (.var 0) .skip (.cons (.lit (.bytes [32])) .nil)) TN st) (λst=>aI (ag tab aE wm (n+8)) wm (.app 2 (.call (.lit (.ref 759)) (.cons (.var 0) .nil))) st) K ⟨[.v (.ref 1),x1,.ml acc,x3,x4,x5],⟨s,TK (d,p)⟩⟩=
   TK (.next,⟨[.v (.ref 1),x1,.ml (acc++ps.map gA),x3,x4,x5],⟨s,TK (d,p+(fN ps).length)⟩⟩):=by
 intro e;induction e with
 |nil=>
  intro acc p K h f g i;rcases K with _|K
  ·first|exact TU i (O7 _)|exact TU g (O7 _)|exact TU f (O7 _)|exact TU h (O7 _)|exact TU p (O7 _)|exact TU acc (O7 _)
  refine aa (Qs ..) (aa (Pk ..) ?_);exact cP (aW TL TL TL TL TL (bz (n+7) (o:=[32]) (h:At d p (13::l)) (λk=>by cases k)) TL)
 |cons t r j=>
  intro acc p K h ht a b;rcases K with _|K
  ·first|exact TU b (O7 _)|exact TU a (O7 _)|exact TU ht (O7 _)|exact TU h (O7 _)|exact TU p (O7 _)|exact TU acc (O7 _)
  rw [O8] at a b;have h:At d p ([32]++(fO t++(fN r++13::l))):=by refine bx ((by show (32::fO t++fN r)++13::l=_;simp:fN (t::r)++13::l=[32]++(fO t++(fN r++13::l))) ..) ?_;exact h
  have c:=h.step;have key:=j (acc:=acc++[gA t]) (p:=p+1+(fO t).length) (K:=K) c.step (λk m=>ht k (.tail _ m)) (by refine aa (g3 ..) ?_;show acc.length+1+r.length<=_;exact s1 a) (by exact PR b);have q:p+(fN (t::r)).length=p+1+(fO t).length+(fN r).length:=by show p+(32::fO t++fN r).length=_;refine aa (g3 ..) (aa (O8 ..) ?_);exact eb [_,_,_] 0x626040000d8200020
  refine aa (q ..) (aa ((by simp:acc++(t::r).map gA=acc++[gA t]++r.map gA) ..) ?_);have hs:Dm (fN r++13::l):=by
   cases r with
   |nil=>exact (dC _ _ TL (.inr (.inr (.inl TL))))
   |cons k r=>exact (dC _ _ TL (.inl TL))
  exact cD (st1:=⟨[.v (.ref 1),x1,.ml acc,x3,x4,x5],⟨s,TK (d,p+1)⟩⟩) (st2:=⟨[.v (.ref 1),x1,.ml (acc++[gA t]),x3,x4,x5],⟨s,TK (d,p+1+(fO t).length)⟩⟩) (aW TL TL TL TL TL (co (n+7) h) TL) (cY (xs:=acc) TL (bt TL TL (vn (n+1) (ht t (.head _)) c hs) TL) TL (Pb (show acc.length<=1000 by exact bl a) (by decide)) TL) key
theorem tZ (h:At d p (o++l)) (ho:o.all cE=TN) (hs:Stop cE l) (e:o≠[]) (hW:(toS' o).map n5=W):aB (ag tab aE wm (n+5)) wm (.call (.lit (.ref 230)) (.cons (.call (.lit (.ref 714)) (.cons (.var 0) .nil)) .nil)) TO ⟨.v (.ref 1)::ρ,⟨s,TK (d,p)⟩⟩=TK (.str W,⟨.v (.ref 1)::ρ,⟨s,TK (d,p+o.length)⟩⟩):=by
 have ho:=Pa.mp ho;have a:∀c∈o,c<128:=λc m=>by have:=TM (aR (aR (ho c m)).1).2;exact Ru.mpr (show c.toNat<128 by exact aJ [_] 0x110b3020000feb0421 (Ph.mp this))
 have b:=jE (n+4) ⟨s,TK (d,p+o.length)⟩ (λc m=>Qa (toS_lt a c m) (by decide)) (by refine aa (toS_len ..) ?_;exact h.len);rw [hW] at b;exact bt TL (au (bt TL TL (pE n h ho hs e a) TL) TL) b TL
end
section
variable {R:V->List V->FG->Option (V×FG)} {wm:Nm->Option V} {st:a7} {t:E} {A B C:S} {w:Fl×a7}
theorem sF (h:aB R wm t TN st=TK (.bool TO,st)) (k:aI R wm C st=TK w):aI R wm (.seq (.ite t A .skip) C) st=TK w:=ae (pq h TL) k
theorem sT (h:aB R wm t TN st=TK (.bool TN,st)) (k:aI R wm A st=TK (.ret v,st1)):aI R wm (.seq (.ite t A .skip) C) st=TK (.ret v,st1):=aS (cC h k)
end
theorem vp (h:fX x):(fO x).length<=101:=by have:=(vi h).2.2;have:=h.len.2;refine aa (g3 ..) (aa (O8 ..) (aa (toB_len ..) (aa (toB_len ..) ?_)));lia
section
variable (n:Nat) {d l o:List UInt8} {p a:Nat} {c:List Int}
theorem d8 (h:At d p (o++l)) (ho:o.all cE=TN) (b:∃x r,o=x::r/\inR 48 57 x=TO) (hs:Stop cE l) (hW:(toS' o).map n5=W) (k:aI (ag tab aE wm (n+24)) wm (bd (bd cJ)) ⟨[.v (.ref 1),.v (.str W),.u],Gw c a d (p+o.length)⟩=TK (.ret v,⟨ρ,Gw c a d f⟩)):I (n+25) 804 [.ref 1] (Gw c a d p)=TK (v,Gw c a d f):=by refine kJ b λx r e g=>?_;apply ef TL TL;refine ae (aA (rR TL (aF (aY (n+23) (by rw [e] at h;exact h:At d p (x::(r++l))))) (dA (n+23) _ x)) g TL) (ae (az (tZ (n+19) h ho hs (by refine aa (e ..) ?_;exact Qz _ _) hW) TL) k)
noncomputable def ML:S->E
 |.seq (.ite t _ _) _=>t
 |_=>.nil
noncomputable def Kl (W:List Nat):Bool:=(toB W).all cE&&((toB W).head?.any λx=>!inR 48 57 x)&&decide ((toS' (toB W)).map n5=W)
theorem vq {L:List (List Nat)} (hm:W∈L) (hL:L.all Kl=TN) (conv:∀g,(L.map λW=>aI (ag tab aE wm (n+24)) wm (bd (bd cJ)) ⟨[.v (.ref 1),.v (.str W),.u],g⟩)=L.map λW=>aI (ag tab aE wm (n+24)) wm S' ⟨[.v (.ref 1),.v (.str W),.u],g⟩) (h:At d p (toB W++l)) (hs:Stop cE l) (k:aI (ag tab aE wm (n+24)) wm S' ⟨[.v (.ref 1),.v (.str W),.u],Gw c a d (p+(toB W).length)⟩=TK (.ret v,⟨ρ,Gw c a d e⟩)):I (n+25) 804 [.ref 1] (Gw c a d p)=TK (v,Gw c a d e):=by refine ac λf=>aM (aR (gj hL hm)) λb i=>aM (aR b) λb j=>kJ (rS j) λy r m q=>f ?_;exact d8 n h b (dC y r m (bf q)) hs (TM i) ((dz (conv _) hm).trans k)
theorem Ea {ts:List (List Nat)} (h:∀t∈ts,nu t) (f:ts.length<=3) (b:At d p ([70,76,65,71,83]++(32::(aQ (ts.map toB)++l)))):I (n+25) 804 [.ref 1] (Gw c a d p)=TK (.tuple [.str [102,108,97,103,115],.tuple (ts.map .str)],Gw c a d (p+(6+(aQ (ts.map toB)).length))):=by
 have e:=b.step;refine aa (show p+(6+(aQ (ts.map toB)).length)=p+5+1+(aQ (ts.map toB)).length by exact eb [_,_] 0x132010000288020) ?_;have key:I (n+24) 792 [.ref 1,.str [70,76,65,71,83]] (Gw c a d (p+5))=TK (.tuple [.str [102,108,97,103,115],.tuple (ts.map .str)],Gw c a d (p+5+1+(aQ (ts.map toB)).length)):=by apply ef TL TL;exact ae (a0 (aH TL TL TL TL TL (bD (n+20) e))) (sT (by kernel_rfl) (ax (aX (au TL (aF (aw TL TL (pK (n+11) h f e.one)))))))
 exact d8 n b (by decide+kernel) (dC _ _ TL (by decide+kernel)) (.cons TL) TL (sT (by kernel_rfl) (ax (bt TL TL key TL)))
theorem HP {ts:List (List Nat)} (b:(O=[76,73,83,84]/\W=[76,73,83,84]/\w=[108,105,115,116])\/(O=[76,83,85,66]/\W=[76,83,85,66]/\w=[108,115,117,98])) (h:∀t∈ts,nu t) (m:ts.length<=3) (q:x∈dl) (i:At d p (O++(32::(aQ (ts.map toB)++([32,34,47,34,32]++(x.2.o++13::l)))))):I (n+25) 804 [.ref 1] (Gw c a d p)=TK (.tuple [.str w,.tuple (ts.map .str),.str x.1],Gw c a d (p+(10+(aQ (ts.map toB)).length+x.2.o.length))):=by
 have j:O.length=4:=by rcases b with ⟨rfl,-⟩|⟨rfl,-⟩<;>rfl
 have e:=i.step;have f:=e.one;have g:=f.step;have k:=g.step;rw [j] at e f g k;refine aa (show p+(10+(aQ (ts.map toB)).length+x.2.o.length)=p+4+1+(aQ (ts.map toB)).length+5+x.2.o.length by exact eb [_,_,_] 0xe0263c20000001895600020) ?_;have key:I (n+24) 792 [.ref 1,.str W] (Gw c a d (p+4))=TK (.tuple [.str w,.tuple (ts.map .str),.str x.1],Gw c a d (p+4+1+(aQ (ts.map toB)).length+5+x.2.o.length)):=by apply ef TL TL;refine ae (a0 (aH TL TL TL TL TL (bD (n+20) e))) (sF (by rcases b with ⟨-,rfl,rfl⟩|⟨-,rfl,rfl⟩<;>kernel_rfl) (sF (by rcases b with ⟨-,rfl,rfl⟩|⟨-,rfl,rfl⟩<;>kernel_rfl) ?_));exact ae (az (aw TL TL (pK (n+11) h m f)) TL) (ae (a0 (aH TL TL TL TL TL (en (n+21) g))) (ax (aX (au (aw TL TL ((λp=>by rcases b with ⟨-,rfl,rfl⟩|⟨-,rfl,rfl⟩<;>kernel_rfl:∀p,I (n+23) 225 [.str W] (Gw c a d p)=TK (.str w,Gw c a d p)) _)) (au TL (aF (aw TL TL (FA (n+15) q k (.cons TL)))))))))
 rw [←j] at key⊢;refine d8 n i (by rcases b with ⟨rfl,-⟩|⟨rfl,-⟩<;>decide+kernel) (by rcases b with ⟨rfl,-⟩|⟨rfl,-⟩<;>exact (dC _ _ TL (by decide+kernel))) (.cons TL) (W:=W) (by rcases b with ⟨rfl,rfl,-⟩|⟨rfl,rfl,-⟩<;>rfl) (ρ:=[.v (.ref 1),.v (.str W),.u]) ?_;exact sT (by rcases b with ⟨-,rfl,rfl⟩|⟨-,rfl,rfl⟩<;>kernel_rfl) (ax (bt TL TL key TL))
theorem Bp {ps:List Pr} {x:List Nat×Form} (h:∀y∈ps,fX y) (b:ps.length<=3) (C:x∈dl) (f:At d p ([83,84,65,84,85,83]++(32::(x.2.o++(32::(aQ (ps.map fO)++l)))))):I (n+25) 804 [.ref 1] (Gw c a d p)=TK (.tuple [.str [115,116,97,116,117,115],.str x.1,.tuple (ps.map gA)],Gw c a d (p+(8+x.2.o.length+(aQ (ps.map fO)).length))):=by
 have m:=f.step;have q:=m.one;have A:=q.step;refine aa (show p+(8+x.2.o.length+(aQ (ps.map fO)).length)=p+6+1+x.2.o.length+1+(aQ (ps.map fO)).length by exact eb [_,_,_] 0x6c132210000000c5300020) ?_;have B:(ps.map λy=>(gA y,fO y)).map (·.2)=ps.map fO:=by refine aa (Po ..) ?_;rfl
 have lo:=mL (n+12) (j:=2) (s:=TK (c,a)) (d:=d) (rest:=l) (p:=p+6+1+x.2.o.length+1) (l:=ps.map λy=>(gA y,fO y)) (λz D=>by
  refine mM D λy g i=>?_;subst i;refine ⟨?_,λp rest f F=>pJ (n:=n+21) TL (aw TL TL (vn (n+14) (h y g) f F.dm))⟩;have b:=(h y g).len.1;cases e:y.w with
  |nil=>rw [e] at b;exact TU b (PG 0)
  |cons k r=>
   refine (dC (Pp k) (r.map Pp++32::toB y.t) (by unfold fO;refine aa (e ..) ?_;rfl) (λH=>?_));have:=Pa.mp ((h y g).up) k (by refine aa (e ..) ?_;exact .head _);have L:=TM (aR this).1;have M:=TM (aR this).2;have:=TQ Q4 H;rw [Q9] at this;have J:(41:UInt8).toNat=41:=TL;lia) (O5 (bu b) (by decide)) (by refine aa (B ..) ?_;exact A.one)
 rw [B,(by refine aa (Po ..) ?_;rfl:(ps.map λy=>(gA y,fO y)).map (·.1)=ps.map gA)] at lo;have key:I (n+24) 792 [.ref 1,.str [83,84,65,84,85,83]] (Gw c a d (p+6))=TK (.tuple [.str [115,116,97,116,117,115],.str x.1,.tuple (ps.map gA)],Gw c a d (p+6+1+x.2.o.length+1+(aQ (ps.map fO)).length)):=by apply ef TL TL;refine ae (a0 (aH TL TL TL TL TL (bD (n+20) m))) (sF (by kernel_rfl) (sT (by kernel_rfl) ?_));exact ae (az (aw TL TL (FA (n+15) C q (.cons TL))) TL) (ae (a0 (aH TL TL TL TL TL (bD (n+20) A))) (ax (aX (au TL (au TL (aF (b0 (aF (aH TL TL TL TL TL lo)) TL)))))))
 exact d8 n f (by decide+kernel) (dC _ _ TL (by decide+kernel)) (.cons TL) TL (ρ:=[.v (.ref 1),.v (.str [83,84,65,84,85,83]),.u]) (sT (by kernel_rfl) (ax (bt TL TL key TL)))
end
section
variable (n:Nat) {d l o:List UInt8} {p a:Nat} {c:List Int}
theorem vr (e:k<10000000000000000000) (h:At d p (ak k++(32::l))) (key:I (n+24) 785 [.ref 1,.int k] (Gw c a d (p+(ak k).length))=TK (v,Gw c a d f)):I (n+25) 804 [.ref 1] (Gw c a d p)=TK (v,Gw c a d f):=by
 cases b:ak k with
 |nil=>exact TU b (jF k)
 |cons x r=>have g:=eY k x (by refine aa (b ..) ?_;exact .head _);apply ef TL TL;exact aS (aU (rR TL (aF (aY (n+23) (by rw [b] at h;exact h:At d p (x::(r++(32::l)))))) (dA (n+23) _ x)) g (ax (aw TL (au TL (aF (aH TL TL TL TL TL (jG (n+21) h (.cons TL) e)))) key)))
theorem Eb {k:Nat} {W w:List Nat} (h:k<10000000000) {b:List UInt8} (e:(b=[69,88,73,83,84,83]/\W=[69,88,73,83,84,83]/\w=[101,120,105,115,116,115])\/(b=[69,88,80,85,78,71,69]/\W=[69,88,80,85,78,71,69]/\w=[101,120,112,117,110,103,101])) (f:At d p (ak k++(32::(b++13::l)))):I (n+25) 804 [.ref 1] (Gw c a d p)=TK (.tuple [.str w,.int k],Gw c a d (p+((ak k).length+1+b.length))):=by have g:At d (p+(ak k).length) (32::(b++13::l)):=f.step;refine vr n (by exact aJ [_] 0x8d72f29c298cfb10842166040000ab486fd4842cc08021 h) f (aa (show p+((ak k).length+1+b.length)=p+(ak k).length+1+b.length by exact eb [_,_,_] 0x6c1040000d8200020) ?_);apply ef TL TL;exact ae (a0 (aH TL TL TL TL TL (bD (n+20) g))) (ae (az (st2:=⟨[.v (.ref 1),.v (.int k),.v (.str W)],Gw c a d (p+(ak k).length+1+b.length)⟩) (tZ (n+18) (s:=TK (c,a)) (ρ:=[.v (.int k),.u]) (W:=W) g.one (by rcases e with ⟨rfl,-⟩|⟨rfl,-⟩<;>decide+kernel) (.cons TL) (by rcases e with ⟨rfl,-⟩|⟨rfl,-⟩<;>decide) (by rcases e with ⟨rfl,rfl,-⟩|⟨rfl,rfl,-⟩<;>rfl)) TL) (sT (by rcases e with ⟨-,rfl,rfl⟩|⟨-,rfl,rfl⟩<;>kernel_rfl) (ax (aX (au (aw TL TL ((λp=>by rcases e with ⟨-,rfl,rfl⟩|⟨-,rfl,rfl⟩<;>kernel_rfl:∀p,I (n+23) 225 [.str W] (Gw c a d p)=TK (.str w,Gw c a d p)) _)) TL)))))
theorem Ec {k:Nat} {xs:List Fx} (w:k<10000000000) (h:∀x∈xs,Fp x) (A:xs.length<=3) (b:At d p (ak k++(32::([70,69,84,67,72]++(32::(aQ (xs.map e6)++l)))))):I (n+25) 804 [.ref 1] (Gw c a d p)=TK (.tuple [.str [102,101,116,99,104],.int k,.tuple (xs.map mP)],Gw c a d (p+((ak k).length+7+(aQ (xs.map e6)).length))):=by
 have g:At d (p+(ak k).length) (32::([70,69,84,67,72]++(32::(aQ (xs.map e6)++l)))):=b.step;have i:=g.one;have m:At d (p+(ak k).length+1+5) (32::(aQ (xs.map e6)++l)):=i.step;have q:(xs.map λy=>(mP y,e6 y)).map (·.2)=xs.map e6:=by refine aa (Po ..) ?_;rfl
 have lo:=mL (n+12) (j:=1) (s:=TK (c,a)) (d:=d) (rest:=l) (p:=p+(ak k).length+1+5+1) (l:=xs.map λy=>(mP y,e6 y)) (λz B=>by
  refine mM B λy t f=>?_;subst f;refine ⟨?_,λp rest b C=>pJ (n:=n+21) TL (aw TL TL (xg (n+7) (h y t) b C))⟩;refine kJ ((h y t).Kk.hd) λx r e D=>?_;exact (dC x (r++32::y.2.2.2) (by unfold e6;refine aa (e ..) ?_;rfl) D)) (O5 (bu A) (by decide)) (by refine aa (q ..) ?_;exact m.one)
 rw [q,(by refine aa (Po ..) ?_;rfl:(xs.map λy=>(mP y,e6 y)).map (·.1)=xs.map mP)] at lo;refine vr n (by exact aJ [_] 0x8d72f29c298cfb10842166040000ab486fd4842cc08021 w) b (aa (show p+((ak k).length+7+(aQ (xs.map e6)).length)=p+(ak k).length+1+5+1+(aQ (xs.map e6)).length by exact eb [_,_,_] 0x6c830410000000e4200020) ?_);apply ef TL TL;exact ae (a0 (aH TL TL TL TL TL (bD (n+20) g))) (ae (az (st2:=⟨[.v (.ref 1),.v (.int k),.v (.str [70,69,84,67,72])],Gw c a d (p+(ak k).length+1+5)⟩) (tZ (n+18) (s:=TK (c,a)) (ρ:=[.v (.int k),.u]) (W:=[70,69,84,67,72]) i (by decide+kernel) (.cons TL) (by decide) TL) TL) (sF (by kernel_rfl) (sF (by kernel_rfl) (ae (a0 (aH TL TL TL TL TL (bD (n+20) m))) (ax (aX (au TL (au TL (aF (b0 (aF (aH TL TL TL TL TL lo)) TL))))))))))
noncomputable def t3:List (List Nat):=[[83,69,65,82,67,72],[69,83,69,65,82,67,72],[83,79,82,84],[84,72,82,69,65,68]]
theorem eJ (hW:W∈t3) (h:At d p (toB W++l)) (hs:Stop cE l) (key:I (n+24) 797 [.ref 1,.str W] (Gw c a d (p+W.length))=TK (v,Gw c a d b)):I (n+25) 804 [.ref 1] (Gw c a d p)=TK (v,Gw c a d b):=by rw [←toB_len] at key;refine vq n (S':=bd (bd (bd cJ))) hW (by kernel_rfl) (λg=>by kernel_rfl) h hs (sT ?_ (ax (aw TL TL key)));generalize Gw c a d (p+(toB W).length)=g;exact dz (f:=λW=>aB (ag tab aE wm (n+24)) wm (ML (bd (bd (bd cJ)))) TN ⟨[.v (.ref 1),.v (.str W),.u],g⟩) (g:=λW=>TK (.bool TN,⟨[.v (.ref 1),.v (.str W),.u],g⟩)) (show t3.map _=t3.map _ by kernel_rfl) hW
theorem jL (h:∃x t,r=x::t/\cE x=TO):Stop cE (aO b++r):=by
 cases b with
 |nil=>obtain ⟨x,t,rfl,e⟩:=h;exact .cons e
 |cons k b=>exact .cons TL
theorem HQ {b:List Nat} (f:∀k∈b,k<100) (g:b.length<=3) (e:At d p (toB [83,79,82,84]++(aO (b.map ak)++13::l))):I (n+25) 804 [.ref 1] (Gw c a d p)=TK (.tuple [.str [115,111,114,116],.tuple (b.map λ(k:Nat)=>.int k)],Gw c a d (p+(4+(aO (b.map ak)).length))):=by refine eJ n (.tail _ (.tail _ (.head _))) e (jL (dC _ _ TL TL)) (aa (show p+(4+(aO (b.map ak)).length)=p+4+(aO (b.map ak)).length by exact eb [_,_] 0x4f0800278020) ?_);apply ef TL TL;exact sF (by kernel_rfl) (sT (by kernel_rfl) (ax (aX (au TL (aF (aw TL TL (j7 (n+18) (.inl ⟨_,TL⟩) (e.step) f g)))))))
theorem xh {b:List Nat} (g:∀k∈b,k<100) (h:b.length<=3) (e:At d p (toB [83,69,65,82,67,72]++(aO (b.map ak)++13::l))):I (n+25) 804 [.ref 1] (Gw c a d p)=TK (.tuple [.str [115,101,97,114,99,104],.tuple (b.map λ(k:Nat)=>.int k),.int (0:Nat)],Gw c a d (p+(6+(aO (b.map ak)).length))):=by have f:=e.step;refine eJ n (.head _) e (jL (dC _ _ TL TL)) (aa (show p+(6+(aO (b.map ak)).length)=p+6+(aO (b.map ak)).length by exact eb [_,_] 0x510800288020) ?_);apply ef TL TL;exact sT (by kernel_rfl) (ae (az (aw TL TL (j7 (n+18) (.inl ⟨_,TL⟩) f g h)) TL) (ae TL (ae (aA (cb TL TL TL TL TL (bz (n+22) f.step (λk=>by cases k))) TL TL) TL)))
theorem xi {b:List Nat} (hm:m<10000000000000000000) (i:∀k∈b,k<100) (j:b.length<=3) (e:At d p (toB [83,69,65,82,67,72]++(aO (b.map ak)++([32,40,77,79,68,83,69,81,32]++(ak m++([41]++l)))))):I (n+25) 804 [.ref 1] (Gw c a d p)=TK (.tuple [.str [115,101,97,114,99,104],.tuple (b.map λ(k:Nat)=>.int k),.int m],Gw c a d (p+(6+(aO (b.map ak)).length+9+(ak m).length+1))):=by have f:=e.step;have g:=f.step;have h:=g.step;refine eJ n (.head _) e (jL (dC _ _ TL TL)) (aa (show p+(6+(aO (b.map ak)).length+9+(ak m).length+1)=p+6+(aO (b.map ak)).length+9+(ak m).length+1 by exact eb [_,_,_] 0x183a0a2100000030741440000020) ?_);apply ef TL TL;exact sT (by kernel_rfl) (ae (az (aw TL TL (j7 (n+18) (.inr ⟨_,TL⟩) f i j)) TL) (ae TL (ae (aU (cb TL TL TL TL TL (co (n+22) g)) TL (ae (az (aH TL TL TL TL TL (jG (n+20) h (.cons TL) hm)) TL) (a0 (aH TL TL TL TL TL (en (n+21) h.step))))) TL)))
theorem xj (b:At d p (toB [84,72,82,69,65,68]++13::l)):I (n+25) 804 [.ref 1] (Gw c a d p)=TK (.tuple [.str [116,104,114,101,97,100],.bytes []],Gw c a d (p+6)):=by refine eJ n (.tail _ (.tail _ (.tail _ (.head _)))) b (.cons TL) ?_;apply ef TL TL;exact sF (by kernel_rfl) (sF (by kernel_rfl) (sT (by kernel_rfl) (ax (aX (au TL (aF (dy (cb TL TL TL TL TL (bz (n+22) (b.step) (λk=>by cases k))) TL TL)))))))
theorem xk (f:q.all (inR 32 126)=TN) (b:At d p (toB [84,72,82,69,65,68]++([32]++(q++13::l)))):I (n+25) 804 [.ref 1] (Gw c a d p)=TK (.tuple [.str [116,104,114,101,97,100],.bytes q],Gw c a d (p+(7+q.length))):=by have e:=b.step;refine eJ n (.tail _ (.tail _ (.tail _ (.head _)))) b (.cons TL) (aa (show p+(7+q.length)=p+6+1+q.length by exact eb [_,_] 0x132210000290020) ?_);apply ef TL TL;exact sF (by kernel_rfl) (sF (by kernel_rfl) (sT (by kernel_rfl) (ax (aX (au TL (aF (b1 (cb TL TL TL TL TL (co (n+22) e)) TL (aH TL TL TL TL TL (iE (n+22) (λc g=>tP (n+21) g c) e.step (Pa.mp f) (.cons TL))))))))))
end
noncomputable section
noncomputable def fY (b:Bool):List UInt8:=if b then [32,40,84,65,71,32]++(eF [97,49]++[41]) else []
noncomputable def i2 (b:Bool):List Nat:=if b then [97,49] else []
noncomputable def gn (b:Bool):List UInt8:=if b then [32,85,73,68] else []
noncomputable def hR (b:Bool):List UInt8:=if b then [40,69,65,82,76,73,69,82,41,32] else []
noncomputable def mR:List (List Nat×List Nat×List Nat):=[([42],[79,75],[111,107]),([97,49],[79,75],[111,107]),([84,46,57],[79,75],[111,107]),([42],[78,79],[110,111]),([97,49],[78,79],[110,111]),([84,46,57],[78,79],[110,111]),([42],[66,65,68],[98,97,100]),([97,49],[66,65,68],[98,97,100]),([84,46,57],[66,65,68],[98,97,100]),([42],[66,89,69],[98,121,101]),([42],[80,82,69,65,85,84,72],[112,114,101,97,117,116,104])]
end
section
variable (n:Nat) {d l o:List UInt8} {p a:Nat} {c:List Int}
theorem k4 {i:Nat} (b:o[i]?=TK y) (hr:(x::r)[i]?=TK z) (h:y≠z):(x::r).take o.length≠o:=λe=>by
 have f:i<o.length:=by apply PU;intro k;rw [List.getElem?_eq_none (Pt.mp k)] at b;cases b
 have:=TQ (λq=>q[i]?) e;simp only [List.getElem?_take,f,if_true] at this;rw [hr,b] at this;exact h (le this).symm
theorem Ed (h:∀x∈ps,fX x):(fN ps++13::l=13::l)\/∃k r,fN ps++13::l=32::Pp k::r/\65<=k/\k<=90/\∃x∈ps,x.w[0]?=TK k:=by
 cases ps with
 |nil=>exact .inl TL
 |cons x r=>
  have b:=h x (.head _);cases e:x.w with
  |nil=>have:=b.len.1;rw [e] at this;exact TU this (PG 0)
  |cons k q=>have:=Pa.mp b.up k (by refine aa (e ..) ?_;exact .head _);exact .inr (K4 k (toB q++32::toB x.t++fN r++13::l) (by show (32::(toB x.w++32::toB x.t))++fN r++13::l=_;refine aa (e ..) ?_;rfl) (TM (aR this).1) (TM (aR this).2) (i12 x (.head _) (by refine aa (e ..) ?_;rfl)))
theorem xm {ps:List Pr} {tg ui:Bool} (h:∀x∈ps,fX x) (t:∀x∈ps,x.w[0]?≠TK 85) (j:ps.length<=3) (q:At d p (toB [69,83,69,65,82,67,72]++(fY tg++(gn ui++(fN ps++13::l))))):I (n+25) 804 [.ref 1] (Gw c a d p)=TK (.tuple [.str [101,115,101,97,114,99,104],.str (i2 tg),.bool ui,.tuple (ps.map gA)],Gw c a d (p+(7+(fY tg).length+(gn ui).length+(fN ps).length))):=by
 have f:=q.step;have g:=f.step;have two:=Ed h (l:=l);have A:aI (ag tab aE wm (n+23)) wm (.ite (.a4 (.var 0) .skip (.cons (.lit (.bytes [32,40,84,65,71,32])) .nil)) (.seq (.asg 4 (.a4 (.lit (.str [])) .join (.cons (.comp (.call (.lit (.bi .chr)) (.cons (.var 6) .nil)) 1 (.a4 (.var 0) .string .nil) (.lit (.bool TN))) .nil))) (.expr (.a4 (.var 0) .need (.cons (.lit (.bytes [41])) (.cons (.lit (.str [97,32,98,114,97,99,107,101,116,32,105,115,32,109,105,115,115,105,110,103])) .nil))))) .skip)
   ⟨[.v (.ref 1),.v (.str [69,83,69,65,82,67,72]),.u,.u,.v (.str []),.u],Gw c a d (p+7)⟩=TK (.next,⟨[.v (.ref 1),.v (.str [69,83,69,65,82,67,72]),.u,.u,.v (.str (i2 tg)),.u],Gw c a d (p+7+(fY tg).length)⟩):=by
  cases tg with
  |true=>
   have f:At d (p+7) ([32,40,84,65,71,32]++(eF [97,49]++([41]++(gn ui++(fN ps++13::l))))):=by refine bx ((TL:fY TN++(gn ui++(fN ps++13::l))=[32,40,84,65,71,32]++(eF [97,49]++([41]++(gn ui++(fN ps++13::l))))) ..) ?_;exact f
   have g:=f.step;exact aU (aW TL TL TL TL TL (co (n+22) f) TL) TL (ae (az (hE (sep:=[]) (l:=([97,49]:List UInt8)) (λc=>.int c.toNat) (λc=>[c.toNat]) (aW TL TL TL TL TL (jZ (n+19) g (λx m=>Pa.mp (show ([97,49]:List UInt8).all pD=TN by decide+kernel) x m)) TL) TL (by decide) (λc m=>AD TL (rT (Qa c.toNat_lt (by decide))) TL) (by decide) TL) TL) (a0 (aW TL TL TL TL TL (en (n+21) g.step) TL)))
  |false=>
   have ne:(gn ui++(fN ps++13::l)).take [32,40,84,65,71,32].length≠[32,40,84,65,71,32]:=by
    cases ui with
    |true=>exact λk=>by cases k
    |false=>
     refine PA two (λe=>?_) λb=>m0 b λk r e B C L=>?_
     ·refine aa (e ..) ?_;exact λk=>by cases k
     ·refine aa (e ..) (k4 (x:=32) (r:=Pp k::r) (o:=[32,40,84,65,71,32]) (i:=1) (y:=40) (z:=Pp k) TL TL λe=>?_);have:=TQ Q4 e;rw [Q9] at this;have D:(40:UInt8).toNat=40:=TL;lia
   exact aA (cb TL TL TL TL TL (bz (n+22) f ne)) TL TL
 have F:aB (ag tab aE wm (n+23)) wm (.a4 (.var 0) .skip (.cons (.lit (.bytes [32,85,73,68])) .nil)) TO ⟨[.v (.ref 1),.v (.str [69,83,69,65,82,67,72]),.u,.u,.v (.str (i2 tg)),.u],Gw c a d (p+7+(fY tg).length)⟩=
   TK (.bool ui,⟨[.v (.ref 1),.v (.str [69,83,69,65,82,67,72]),.u,.u,.v (.str (i2 tg)),.u],Gw c a d (p+7+(fY tg).length+(gn ui).length)⟩):=by
  cases ui with
  |true=>exact aW TL TL TL TL TL (co (n+22) g) TL
  |false=>
   refine aW TL TL TL TL TL (bz (n+22) (o:=[32,85,73,68]) g ?_) TL;refine PA two (λe=>?_) λb=>m0 b λk r e B C b=>aT b λx H ex=>?_
   ·refine aa (e ..) ?_;exact λk=>by cases k
   ·refine aa (e ..) (k4 (x:=32) (r:=Pp k::r) (o:=[32,85,73,68]) (i:=1) (y:=85) (z:=Pp k) TL TL λe=>t x H ?_);have:=TQ Q4 e;rw [Q9] at this;have J:(85:UInt8).toNat=85:=TL;exact aa (ex ..) (aa (show k=85 by lia) TL)
 refine eJ n (.tail _ (.head _)) q (by cases tg<;>cases ui<;>first|exact .cons TL|skip;rcases two with e|⟨k,r,e,_⟩<;>(refine aa (e ..) ?_;exact .cons TL)) ?_;refine aa (show p+(7+(fY tg).length+(gn ui).length+(fN ps).length)=p+7+(fY tg).length+(gn ui).length+(fN ps).length by exact eb [_,_,_,_] 0x83148200000418a4000020) ?_;apply ef TL TL;exact sF (by kernel_rfl) (sF (by kernel_rfl) (sF (by kernel_rfl) (ae (az TL TL) (ae A (ae (az F TL) (ae (AG TL TL) (ae (eW (Bo (n+15) (s:=TK (c,a)) (x3:=.u) (x4:=.v (.str (i2 tg))) (x5:=.v (.bool ui)) (acc:=[]) (K:=turns) g.step h (by show 0+ps.length<=_;exact bL j TL) (Pb j (by decide)))) TL)))))))
theorem t4 {ps:List (Nat×Nat)} {ea:Bool} (h:gz ps) (f:At d p (toB [86,65,78,73,83,72,69,68]++(32::(hR ea++(dO ps++13::l))))):I (n+25) 804 [.ref 1] (Gw c a d p)=TK (.tuple [.str [118,97,110,105,115,104,101,100],.tuple (ps.map gk),.bool ea],Gw c a d (p+(9+(hR ea).length+(dO ps).length))):=by
 have g:At d (p+8) (32::(hR ea++(dO ps++13::l))):=f.step;have b:=g.one;refine aa (show p+(9+(hR ea).length+(dO ps).length)=p+8+1+(hR ea).length+(dO ps).length by exact eb [_,_,_] 0x189930800000c5400020) ?_;have k:aB (ag tab aE wm (n+24)) wm (.a4 (.var 0) .skip (.cons (.lit (.bytes [40,69,65,82,76,73,69,82,41,32])) .nil)) TO ⟨[.v (.ref 1),.v (.str [86,65,78,73,83,72,69,68]),.u],Gw c a d (p+8+1)⟩=
   TK (.bool ea,⟨[.v (.ref 1),.v (.str [86,65,78,73,83,72,69,68]),.u],Gw c a d (p+8+1+(hR ea).length)⟩):=by
  cases ea with
  |true=>exact aW TL TL TL TL TL (co (n+23) (b:At d (p+8+1) ([40,69,65,82,76,73,69,82,41,32]++(dO ps++13::l)))) TL
  |false=>
   refine aW TL TL TL TL TL (bz (n+23) (o:=[40,69,65,82,76,73,69,82,41,32]) (b:At d (p+8+1) (dO ps++13::l)) ?_) TL;refine ou (gm h) λm j j q j=>?_;cases e:dO ps with
   |nil=>exact TU e q
   |cons x r=>refine k4 (i:=0) (y:=40) (z:=x) TL TL λs=>?_;have:=m x (by refine aa (e ..) ?_;exact .head _);rw [←s] at this;exact TU this (by decide+kernel)
 exact d8 n f (by decide+kernel) (dC _ _ TL (by decide+kernel)) (.cons TL) (W:=[86,65,78,73,83,72,69,68]) TL (ρ:=[.v (.ref 1),.v (.str [86,65,78,73,83,72,69,68]),.v (.bool ea)]) (sF (by kernel_rfl) (sF (by kernel_rfl) (sF (by kernel_rfl) (sT (by kernel_rfl) (ae (st1:=⟨[.v (.ref 1),.v (.str [86,65,78,73,83,72,69,68]),.u],Gw c a d (p+8+1)⟩) (a0 (aW TL TL TL TL TL (bD (n+21) g) TL)) (ae (az (st2:=⟨[.v (.ref 1),.v (.str [86,65,78,73,83,72,69,68]),.v (.bool ea)],Gw c a d (p+8+1+(hR ea).length)⟩) k TL) (ax (rQ (au TL (au (bt TL (au (aW TL TL TL TL TL (r4 (n+20) h b.step (.cons TL)) TL) TL) (oj (n+22) _ h) TL) TL)) TL))))))))
theorem Km {ts:List (List Nat)} (b:(e=toB [67,65,80,65,66,73,76,73,84,89]/\W=[67,65,80,65,66,73,76,73,84,89]/\w=[99,97,112,97,98,105,108,105,116,121])\/(e=toB [69,78,65,66,76,69,68]/\W=[69,78,65,66,76,69,68]/\w=[101,110,97,98,108,101,100])) (ht:∀t∈ts,(∀c∈toB t,cE c=TN)/\toB t≠[]/\(∀c∈toB t,c<128)/\toS' (toB t)=t) (g:ts.length<=3) (f:At d p (e++(aO (ts.map toB)++13::l))):I (n+25) 804 [.ref 1] (Gw c a d p)=TK (.tuple [.str w,.tuple (ts.map .str)],Gw c a d (p+(e.length+(aO (ts.map toB)).length))):=by refine aa (show p+(e.length+(aO (ts.map toB)).length)=p+e.length+(aO (ts.map toB)).length by exact eb [_,_,_] 0x620800310020) ?_;refine d8 n f (by rcases b with ⟨rfl,-⟩|⟨rfl,-⟩<;>decide+kernel) (by rcases b with ⟨rfl,-⟩|⟨rfl,-⟩<;>exact (dC _ _ TL (by decide+kernel))) (jL (dC _ _ TL TL)) (W:=W) (by rcases b with ⟨rfl,rfl,-⟩|⟨rfl,rfl,-⟩<;>rfl) (ρ:=[.v (.ref 1),.v (.str W),.u]) ?_;exact sF (by rcases b with ⟨-,rfl,rfl⟩|⟨-,rfl,rfl⟩<;>kernel_rfl) (sF (by rcases b with ⟨-,rfl,rfl⟩|⟨-,rfl,rfl⟩<;>kernel_rfl) (sT (by rcases b with ⟨-,rfl,rfl⟩|⟨-,rfl,rfl⟩<;>kernel_rfl) (ax (rQ (au (bt TL TL ((λp=>by rcases b with ⟨-,rfl,rfl⟩|⟨-,rfl,rfl⟩<;>kernel_rfl:∀p,I (n+24) 225 [.str W] (Gw c a d p)=TK (.str w,Gw c a d p)) _) TL) (au (bt TL TL (D9 (n+17) f.step ht g) TL) TL)) TL))))
theorem MM (b:At d p ([73,68]++([32,78,73,76]++l))):I (n+25) 804 [.ref 1] (Gw c a d p)=TK (.tuple [.str [105,100],.none],Gw c a d (p+6)):=by exact d8 n b (by decide+kernel) (dC _ _ TL (by decide+kernel)) (.cons TL) TL (sF (by kernel_rfl) (sF (by kernel_rfl) (sF (by kernel_rfl) (sF (by kernel_rfl) (sT (by kernel_rfl) (ae (a0 (aH TL TL TL TL TL (en (n+22) (b.step)))) TL))))))
theorem MN (b:At d p ([78,65,77,69,83,80,65,67,69]++([32,40,40,34,34,32,34,47,34,41,41,32,78,73,76,32,78,73,76]++l))):I (n+25) 804 [.ref 1] (Gw c a d p)=TK (.tuple [.str [110,97,109,101,115,112,97,99,101]],Gw c a d (p+28)):=by exact d8 n b (by decide+kernel) (dC _ _ TL (by decide+kernel)) (.cons TL) TL (sF (by kernel_rfl) (sF (by kernel_rfl) (sF (by kernel_rfl) (sF (by kernel_rfl) (sF (by kernel_rfl) (sT (by kernel_rfl) (ae (a0 (aH TL TL TL TL TL (en (n+22) (b.step)))) TL)))))))
end
noncomputable section
noncomputable def pZ:List Nat:=[80,69,82,77,65,78,69,78,84,70,76,65,71,83]
noncomputable def ol:List Nat:=[67,79,80,89,85,73,68]
noncomputable def OD:S:=bd (bd (bd (bd mq)))
noncomputable def Ee:S:=.seq (.expr (.a4 (.var 0) .space .nil)) (.app 3 (.call (.lit (.ref 733)) (.cons (.var 0) (.cons (.var 4) .nil))))
noncomputable def Ef:E:=.not (.a4 (.var 0) .skip (.cons (.lit (.bytes [93])) .nil))
end
section
variable (n:Nat) {d l o:List UInt8} {p a:Nat} {c:List Int}
theorem pO (b:x∈mR):aB (ag tab aE wm (n+19)) wm (.or (.cmp .NotIn (.var 2) (.a4 (.lit (.str [79,75,32,78,79,32,66,65,68,32,66,89,69,32,80,82,69,65,85,84,72])) .split (.cons (.lit (.str [32])) .nil))) (.and (.cmp .NotEq (.var 1) (.lit (.str [42]))) (.cmp .In (.var 2) (.tup (.cons (.lit (.str [66,89,69])) (.cons (.lit (.str [80,82,69,65,85,84,72])) .nil)))))) TN ⟨[.v (.ref 1),.v (.str x.1),.v (.str x.2.1),.u,.u],Gw c a d p⟩=TK (.bool TO,⟨[.v (.ref 1),.v (.str x.1),.v (.str x.2.1),.u,.u],Gw c a d p⟩)/\I (n+19) 225 [.str x.2.1] (Gw c a d p)=TK (.str x.2.2,Gw c a d p):=by exact PB (dz (f:=λx:List Nat×List Nat×List Nat=>(aB (ag tab aE wm (n+19)) wm (.or (.cmp .NotIn (.var 2) (.a4 (.lit (.str [79,75,32,78,79,32,66,65,68,32,66,89,69,32,80,82,69,65,85,84,72])) .split (.cons (.lit (.str [32])) .nil))) (.and (.cmp .NotEq (.var 1) (.lit (.str [42]))) (.cmp .In (.var 2) (.tup (.cons (.lit (.str [66,89,69])) (.cons (.lit (.str [80,82,69,65,85,84,72])) .nil)))))) TN ⟨[.v (.ref 1),.v (.str x.1),.v (.str x.2.1),.u,.u],Gw c a d p⟩,I (n+19) 225 [.str x.2.1] (Gw c a d p))) (g:=λx=>(TK (.bool TO,⟨[.v (.ref 1),.v (.str x.1),.v (.str x.2.1),.u,.u],Gw c a d p⟩),TK (.str x.2.2,Gw c a d p))) (show mR.map _=mR.map _ by kernel_rfl) b)
theorem Bq {s3:Slot} (g:x∈mR) (ht:Txt t) (h:(s3=.v cv/\b=cv)\/∃xs,s3=.ml xs/\b=.list xs) (f:At d p (toB t++13::l)):∃ρ,aI (ag tab aE wm (n+19)) wm OD ⟨[.v (.ref 1),.v (.str x.1),.v (.str x.2.1),s3,x4],Gw c a d p⟩=TK (.ret (.tuple [.str x.2.2,.str x.1,b,.str t]),⟨ρ,Gw c a d (p+(toB t).length)⟩):=by
 have e:=(pO n (d:=d) (p:=p) (a:=a) (c:=c) g).2;rcases h with ⟨rfl,rfl⟩|⟨xs,rfl,rfl⟩
 ·exact ⟨_,ax (aX (au (aw TL TL e) (au TL (au TL (aF (aw TL TL (tW (n+16) ht f (.cons TL))))))))⟩
 ·exact ⟨_,ax (aX (au (aw TL TL e) (au TL (au TL (aF (aw TL TL (tW (n+16) ht f (.cons TL))))))))⟩
theorem Eg {x:List Nat×List Nat×List Nat} {t:List Nat} (b:x∈mR) (ht:Txt t) (f:At d p (32::(toB t++13::l))):I (n+20) 778 [.ref 1,.str x.1,.str x.2.1] (Gw c a d p)=TK (.tuple [.str x.2.2,.str x.1,.none,.str t],Gw c a d (p+1+(toB t).length)):=by have g:=f.one;obtain ⟨ρ,e⟩:=Bq n (c:=c) (a:=a) (cv:=.none) (x4:=.u) b ht (.inl ⟨TL,TL⟩) g;apply ef TL TL;exact sF (pO n b).1 (ae (a0 (aH TL TL TL TL TL (bD (n+16) f))) (ae TL (ae (aA (cb TL TL TL TL TL (bz (n+18) (o:=[91]) g (ht.nb l))) TL TL) e)))
theorem mS (e:At d p (32::l)) (f:I (n+19) 733 [.ref 1,.bool b] (Gw c a d (p+1))=TK (v,Gw c a d g)) (h:acc.length<=100) (i:bk (λst=>aB (ag tab aE wm (n+19)) wm Ef TN st) (λst=>aI (ag tab aE wm (n+19)) wm Ee st) k ⟨[.v (.ref 1),x1,x2,.ml (acc++[v]),.v (.bool b)],Gw c a d g⟩=TK w):bk (λst=>aB (ag tab aE wm (n+19)) wm Ef TN st) (λst=>aI (ag tab aE wm (n+19)) wm Ee st) (k+1) ⟨[.v (.ref 1),x1,x2,.ml acc,.v (.bool b)],Gw c a d p⟩=TK w:=cD (pI (aW TL TL TL TL TL (bz (n+18) e (λk=>by cases k)) TL))
  (ae (a0 (aW TL TL TL TL TL (bD (n+16) e) TL)) (cY TL (bt TL TL f TL) TL (Pb h (by decide)) TL)) i
theorem r7 (e:At d p ([93]++l)):bk (λst=>aB (ag tab aE wm (n+19)) wm Ef TN st) (λst=>aI (ag tab aE wm (n+19)) wm Ee st) (k+1) ⟨[.v (.ref 1),x1,x2,.ml acc,.v (.bool b)],Gw c a d p⟩=TK (.next,⟨[.v (.ref 1),x1,x2,.ml acc,.v (.bool b)],Gw c a d (p+1)⟩):=cP (mK (aW TL TL TL TL TL (co (n+18) e) TL))
theorem vt {x:List Nat×List Nat×List Nat} {t T:List Nat} {b:Bool} {xs:List V} {f:Nat} (g:x∈mR) (ht:Txt t) (h:(T=pZ/\b=TN)\/(T=ol/\b=TO)) (i:At d p (32::([91]++(toB T++32::o)))) (hL:∀x1 x2,bk (λst=>aB (ag tab aE wm (n+19)) wm Ef TN st) (λst=>aI (ag tab aE wm (n+19)) wm Ee st) turns ⟨[.v (.ref 1),x1,x2,.ml [.atom T],.v (.bool b)],Gw c a d (p+1+1+(toB T).length)⟩=TK (.next,⟨[.v (.ref 1),x1,x2,.ml xs,.v (.bool b)],Gw c a d f⟩)) (j:At d f (32::(toB t++13::l))):I (n+20) 778 [.ref 1,.str x.1,.str x.2.1] (Gw c a d p)=TK (.tuple [.str x.2.2,.str x.1,.list xs,.str t],Gw c a d (f+1+(toB t).length)):=by
 have k:=i.one;obtain ⟨ρ,e⟩:=Bq n (c:=c) (a:=a) (cv:=.none) (x4:=.v (.bool b)) g ht (.inr ⟨xs,TL,TL⟩) j.one;have is:aB (ag tab aE wm (n+19)) wm (.and (.call (.lit (.bi .isinstance)) (.cons (.cw 3 0) (.cons (.lit .b2) .nil))) (.cmp .Eq (.attr (.cw 3 0) .text) (.lit (.str [80,69,82,77,65,78,69,78,84,70,76,65,71,83])))) TO ⟨[.v (.ref 1),.v (.str x.1),.v (.str x.2.1),.ml [.atom T],.u],Gw c a d (p+1+1+(toB T).length)⟩=TK (.bool b,⟨[.v (.ref 1),.v (.str x.1),.v (.str x.2.1),.ml [.atom T],.u],Gw c a d (p+1+1+(toB T).length)⟩):=by
  rcases h with ⟨rfl,rfl⟩|⟨rfl,rfl⟩<;>kernel_rfl
 apply ef TL TL;refine sF (pO n g).1 (ae (a0 (aH TL TL TL TL TL (bD (n+16) i))) (ae TL (ae (aU (cb TL TL TL TL TL (co (n+18) k)) TL ?_) e)));exact ae (AG (st2:=⟨[.v (.ref 1),.v (.str x.1),.v (.str x.2.1),.ml [.atom T],.u],Gw c a d (p+1+1+(toB T).length)⟩) (au (aW TL TL TL TL TL ((Kj (n+18) _).trans ((jI (by rcases h with ⟨rfl,-⟩|⟨rfl,-⟩<;>decide+kernel):Good 10 (.atom T) (.tuple [.str [97,116,111,109],.str T]) (toB T) 200).r (n+9) d (p+1+1) (TK (c,a)) (32::o) 0 (by decide) (k.step:At d (p+1+1) (toB T++32::o)) (.cons TL))) TL) TL) TL) (ae (az (st2:=⟨[.v (.ref 1),.v (.str x.1),.v (.str x.2.1),.ml [.atom T],.v (.bool b)],Gw c a d (p+1+1+(toB T).length)⟩) is TL) (ae (eW (hL _ _)) (a0 (aW TL TL TL TL TL (bD (n+16) j) TL))))
theorem Eh {ts:List (List Nat)} (i:x∈mR) (ht:Txt t) (h:∀t∈ts,nu t) (j:ts.length<=3) (b:At d p (32::([91]++(toB pZ++32::(aQ (ts.map toB)++([93]++32::(toB t++13::l))))))):I (n+20) 778 [.ref 1,.str x.1,.str x.2.1] (Gw c a d p)=TK (.tuple [.str x.2.2,.str x.1,.list [.atom pZ,.list (ts.map .atom)],.str t],Gw c a d (p+(19+(aQ (ts.map toB)).length+(toB t).length))):=by
 have e:=b.one.step.step;have f:=e.one;have g:=f.step;have k:p+(19+(aQ (ts.map toB)).length+(toB t).length)=p+1+1+(toB pZ).length+1+(aQ (ts.map toB)).length+1+1+(toB t).length:=by have:(toB pZ).length=14:=TL;exact eb [_,_,_] 0xd8c131d66302000000000031067600020
 exact aa (k ..) (vt n i ht (.inl ⟨TL,TL⟩) b (λx1 x2=>mS n e (r6 (n+6) h j f) (by decide) (r7 n g)) g.step)
theorem Ei {x:List Nat×List Nat×List Nat} {t:List Nat} {v m:V} {z:Nat} (q:x∈mR) (ht:Txt t) (g:Good 12 v m o z) (b:At d p (32::([91]++(toB ol++32::(o++32::(ak 7++([93]++32::(toB t++13::l)))))))):I (n+20) 778 [.ref 1,.str x.1,.str x.2.1] (Gw c a d p)=TK (.tuple [.str x.2.2,.str x.1,.list [.atom ol,v,.int (7:Nat)],.str t],Gw c a d (p+(14+o.length+(toB t).length))):=by
 have e:At d (p+1+1+(toB ol).length) (32::(o++32::(ak 7++([93]++32::(toB t++13::l))))):=b.one.step.step;have f:=e.one;have h:=f.step;have i:=h.one;have j:=i.step;have r:p+(14+o.length+(toB t).length)=p+1+1+(toB ol).length+1+o.length+1+(ak 7).length+1+1+(toB t).length:=by
  have:(toB ol).length=7:=TL;have:(ak 7).length=1:=by decide+kernel
  exact eb [_,_,_] 0x36318c1324c604000000000000189d600020
 exact aa (r ..) (vt n q ht (.inr ⟨TL,TL⟩) b (λx1 x2=>mS n (k:=999999999) e (mQ (n+6) g f (.cons TL)) (by decide) (mS n (k:=999999998) (acc:=[.atom ol,v]) h (mQ (n+6) (((mJ (k:=7) (by decide)).up (z':=100) (by decide) (Px _)).up (z':=100) (by decide) (Px _)) i (.cons TL)) (show 2<=100 by decide) (r7 n (k:=999999997) j))) j.step)
noncomputable def Kn:List (List Nat):=[[79,75],[78,79],[66,65,68],[66,89,69],[80,82,69,65,85,84,72]]
theorem Br (b:x∈mR) (e:x.1=[42]) (f:At d p (toB x.2.1++(32::l))) (key:I (n+24) 778 [.ref 1,.str [42],.str x.2.1] (Gw c a d (p+(toB x.2.1).length))=TK (v,Gw c a d h)):I (n+25) 804 [.ref 1] (Gw c a d p)=TK (v,Gw c a d h):=
 vq n (S':=.ret (.call (.lit (.ref 778)) (.cons (.var 0) (.cons (.lit (.str [42])) (.cons (.var 1) .nil))))) (Qt.mp (gj (p:=λx:List Nat×List Nat×List Nat=>Kn.contains x.2.1) (show mR.all _=TN by kernel_rfl) b)) (by kernel_rfl) (λg=>by kernel_rfl) f (.cons TL) (ax (aw TL TL key))
end
section
variable {R:V->List V->FG->Option (V×FG)} {wm:Nm->Option V} {a:rJ} {r:List rJ} {st st1:a7} {w:Fl×a7} {v:V}
theorem cQ (h:Ak R wm a st=TK (.next,st1)) (hm:rK st.g st1.g=TN) (k:jx R wm r st1=TK w):jx R wm (a::r) st=TK w:=bw h ((TY hm).trans k)
theorem FC (h:Ak R wm a st=TK (.ret v,st1)) (hm:rK st.g st1.g=TN):jx R wm (a::r) st=TK (.ret v,st1):=bw h ((TY hm).trans TL)
end
noncomputable section
noncomputable def OE:S:=.ite (.a4 (.var 1) .skip (.cons (.lit (.bytes [43,32])) .nil)) (.asg 2 (.tup (.cons (.lit (.str [103,111,32,111,110])) (.cons (.call (.lit (.ref 771)) (.cons (.var 1) .nil)) .nil)))) (.ite (.a4 (.var 1) .skip (.cons (.lit (.bytes [42,32])) .nil)) (.asg 2 (.call (.lit (.ref 804)) (.cons (.var 1) .nil))) (.seq (.asg 3 (.a4 (.var 1) .je (.cons (.lit (.ref 329)) (.cons (.lit (.str [97,32,116,97,103,32,105,115,32,109,105,115,115,105,110,103])) .nil)))) (.seq (.expr (.a4 (.var 1) .space .nil)) (.asg 2 (.call (.lit (.ref 778)) (.cons (.var 1) (.cons (.var 3) (.cons (.call (.lit (.ref 230)) (.cons (.call (.lit (.ref 714)) (.cons (.var 1) .nil)) .nil)) .nil))))))))
end
section
variable (n:Nat) {d o b:List UInt8} {p a:Nat} {c:List Int} {v:V}
theorem HR (h:At d p []) (hp:p=d.length):I (n+2) 421 [.ref 1] ⟨s,TK (d,p)⟩=TK (.none,⟨s,TK (d,p)⟩):=by apply HA TL TL;refine ae (a0 (aH TL TL TL TL TL (bz n h (λk=>by cases k)))) (aA (aG TL mE TL) ?_ TL);subst hp;exact TR λk=>k TL
theorem mT {s3:Slot} (ho:o.length<=1000000) (f:o.drop q=[13,10]) (g:q+2=o.length) (cv:aN v=TN) (hm:aI (ag tab aE wm (n+29)) wm OE ⟨[.v (.bytes o),.v (.ref 1),.u,.u],Gw c a o 0⟩=TK (.next,⟨[.v (.bytes o),.v (.ref 1),.v v,s3],Gw c a o q⟩)):I (n+30) 811 [.bytes o] (Sg c a)=TK (v,Sg c a):=by
 have e:At o q ([13,10]++[]):=⟨ho,f⟩;have key:jx (ag tab aE wm (n+29)) wm mw ⟨bQ ([.bytes o]++[]) 3,Sg c a⟩=TK (.ret v,⟨[.v (.bytes o),.v (.ref 1),.v v,s3],Gw c a o (q+2)⟩):=by
  refine cQ TL TL (cQ hm TL (cQ (st1:=⟨[.v (.bytes o),.v (.ref 1),.v v,s3],Gw c a o (q+2)⟩) ?_ TL (cQ (st1:=⟨[.v (.bytes o),.v (.ref 1),.v v,s3],Gw c a o (q+2)⟩) ?_ TL (FC ?_ TL))))
  ·exact a0 (aW TL TL TL TL TL (en (n+27) e) TL)
  ·exact a0 (aW TL TL TL TL TL (HR (n+27) (e.step) g) TL)
  ·exact ax TL
 refine bw key (bw TL ?_);refine aa (cv ..) ?_;rfl
theorem t5 (g:o=[42,32]++(b++[13,10])) (ho:o.length<=1000000) (cv:aN v=TN) (key:∀l,At o 2 (b++13::l)->I (n+29) 804 [.ref 1] (Gw c a o 2)=TK (v,Gw c a o (2+b.length))):I (n+30) 811 [.bytes o] (Sg c a)=TK (v,Sg c a):=by have f:At o 0 ([42,32]++(b++[13,10])):=⟨ho,g⟩;have h:At o 2 (b++13::[10]):=f.step;refine mT n (q:=2+b.length) (s3:=.u) ho (h.step:At o (2+b.length) [13,10]).e (by refine aa (g ..) ?_;simp;exact Qr _ _) cv ?_;exact aA (cb TL TL TL TL TL (bz (n+28) (o:=[43,32]) f (λk=>by cases k))) TL (aU (cb TL TL TL TL TL (co (n+28) f)) TL (az (aw TL TL (key _ h)) TL))
theorem Ej {t:List Nat} (ht:Txt t) (f:o=[43,32]++(toB t++[13,10])) (ho:o.length<=1000000):I (n+30) 811 [.bytes o] (Sg c a)=TK (.tuple [.str [103,111,32,111,110],.str t],Sg c a):=by have g:At o 0 ([43,32]++(toB t++[13,10])):=⟨ho,f⟩;have h:At o 2 (toB t++13::[10]):=g.step;refine mT n (q:=2+(toB t).length) (s3:=.u) ho (h.step:At o (2+(toB t).length) [13,10]).e (by refine aa (f ..) ?_;simp;exact Qr _ _) TL ?_;exact aU (cb TL TL TL TL TL (co (n+28) g)) TL (az (aX (au TL (aF (aw TL TL (tW (n+26) ht h (.cons TL)))))) TL)
theorem HS (N:x∈mR) (C:x.1≠[42]) (H:o=toB x.1++(32::(toB x.2.1++(32::(b++[13,10]))))) (ho:o.length<=1000000) (cv:aN v=TN) (key:∀l p,At o p (32::(b++13::l))->I (n+29) 778 [.ref 1,.str x.1,.str x.2.1] (Gw c a o p)=TK (v,Gw c a o (p+1+b.length))):I (n+30) 811 [.bytes o] (Sg c a)=TK (v,Sg c a):=by
 have u:At o 0 (toB x.1++(32::(toB x.2.1++(32::(b++[13,10]))))):=⟨ho,H⟩;have A:=u.step;have f:=A.one;have B:=f.step;have D:=B.one;have tg:(toB x.1).all AN=TN/\(∀c∈toB x.1,c<128)/\toB x.1≠[]/\toS' (toB x.1)=x.1/\(∃y r,toB x.1=y::r/\y≠43/\y≠42)/\(toB x.2.1).all cE=TN/\toB x.2.1≠[]/\(toS' (toB x.2.1)).map n5=x.2.1:=by have h:=(Q3.mp (gj (p:=λx:List Nat×List Nat×List Nat=>decide (x.1=[42])||((toB x.1).all AN&&((toB x.1).head?.any λy=>decide (y≠43/\y≠42))&&(toB x.2.1).all cE&&decide ((∀c∈toB x.1,c<128)/\toB x.1≠[]/\toS' (toB x.1)=x.1/\toB x.2.1≠[]/\(toS' (toB x.2.1)).map n5=x.2.1))) (show mR.all _=TN by kernel_rfl) N)).resolve_left λe=>C (TM e);refine ac λj=>?_;refine aM (aR h) λh D=>?_;refine aM (aR h) λh B=>?_;refine aM (aR h) λA f=>?_;refine kJ (rS f) λy r O P=>?_;refine ou (TM D) λa1 Q R T U=>?_;refine j ?_;clear j;exact (NN A a1 Q R (dC y r O (TM P)) B T U)
 refine ac λj=>?_;refine MU tg λW X Y Z F J t6 t7=>?_;refine bB F λy r e y1 y2=>?_;refine j ?_;clear j;have n1:∀z w:UInt8,y≠z->(toB x.1++(32::(toB x.2.1++(32::(b++[13,10]))))).take [z,w].length≠[z,w]:=λz w hz=>by refine aa (e ..) ?_;exact k4 (x:=y) (o:=[z,w]) (i:=0) (y:=z) (z:=y) TL TL λk=>hz k.symm
 have L:=fV (n+27) (w:=[97,32,116,97,103,32,105,115,32,109,105,115,115,105,110,103]) (s:=TK (c,a)) (λc g=>J5 (n+23) g c) TL u (Pa.mp W) (.cons TL) Y X;rw [Z] at L;have t:∀c∈toB x.2.1,c<128:=λc m=>by have:=TM (aR (aR (Pa.mp J c m)).1).2;exact Ru.mpr (show c.toNat<128 by exact aJ [_] 0x110b3020000feb0421 (Ph.mp this))
 have M:=jE (n+28) ⟨TK (c,a),TK (o,0+(toB x.1).length+1+(toB x.2.1).length)⟩ (λc m=>Qa (toS_lt t c m) (by decide)) (by refine aa (toS_len ..) ?_;exact f.len);rw [t7] at M;refine mT n (q:=0+(toB x.1).length+1+(toB x.2.1).length+1+b.length) (s3:=.v (.str x.1)) ho D.step.e (by refine aa (H ..) ?_;simp;exact eb [_,_,_] 0x18c68c00100010346c1302000000) cv ?_;exact aA (cb TL TL TL TL TL (bz (n+28) u (n1 43 32 y1))) TL (aA (cb TL TL TL TL TL (bz (n+28) u (n1 42 32 y2))) TL (ae (az (aH TL TL TL TL TL L) TL) (ae (a0 (aW TL TL TL TL TL (bD (n+26) A) TL)) (az (bt TL (au TL (au TL (au (bt TL (au (bt TL TL (pE (n+24) f (Pa.mp J) (.cons TL) t6 t) TL) TL) M TL) TL))) (key [10] _ B) TL) TL))))
end
structure mY (k:Nat) (t:V):Prop where
 eq:uH t t=TN
 pl:∀j,b6 (j+k) t=TN
 cl:aN t=TN
noncomputable def kH (k:Nat) (v t:V):Prop:=∀(m:Nat) (g:FG),I (m+k) 612 [v] g=TK (t,g)
theorem mY.up {k k':Nat} {t:V} (h:mY k t) (l:k<=k'):mY k' t:=⟨h.eq,λj=>by refine aa (show j+k'=(j+(k'-k))+k by lia) ?_;exact h.pl _,h.cl⟩
theorem kH.up {k k':Nat} {v t:V} (h:kH k v t) (l:k<=k'):kH k' v t:=λm g=>by refine aa (show m+k'=(m+(k'-k))+k by lia) ?_;exact h _ g
theorem mY.map {k:Nat} {a:Type} {f:a->V} {l:List a} (h:∀x∈l,mY k (f x)):mY (k+1) (.tuple (l.map f)):=⟨pH λx m=>(h x m).eq,λj=>Pa.mpr λy m=>by obtain ⟨x,b,rfl⟩:=PI.mp m;exact (h x b).pl j,dc λx m=>(h x m).cl⟩
theorem mY.l {k:Nat} {xs:List V} (h:∀x∈xs,mY k x):mY (k+1) (.tuple xs):=by have:=mY.map (f:=id) h;rw [S5] at this;exact this
theorem kH.map {k:Nat} {a:Type} {f g:a->V} {l:List a} (b:l.length<=1000000) (h:∀x∈l,kH k (f x) (g x)):kH (k+1) (.tuple (l.map f)) (.tuple (l.map g)):=λm G=>mI (m+k) G f g (Ft _).1 TL b λx c=>h x c m G
theorem kH.lst {k:Nat} {a:Type} {f g:a->V} {l:List a} (b:l.length<=1000000) (h:∀x∈l,kH k (f x) (g x)):kH (k+1) (.list (l.map f)) (.tuple (l.map g)):=λm G=>mI (m+k) G f g A0 TL b λx c=>h x c m G
theorem all_cons {b:Type} {P:b->Prop} {a:b} {l:List b} (h:P a) (k:∀x∈l,P x):∀x∈a::l,P x:=List.forall_mem_cons.mpr ⟨h,k⟩
theorem all_nil {a:Type} {P:a->Prop}:∀x∈([]:List a),P x:=λ_ m=>nomatch m
noncomputable def t8:V->Bool
 |.none|.bool _|.int _|.str _|.bytes _=>TN
 |_=>TO
noncomputable def fZ:Nat->V->Bool
 |n+1,.tuple xs=>decide (xs.length<=1000000)&&xs.all (fZ n)
 |_,v=>t8 v
theorem e7 (n:Nat) {v:V} (h:t8 v=TN):b6 n v=TN:=by
 cases n<;>cases v<;>first|rfl|cases h
theorem bv (k:Nat) {v:V} (h:t8 v=TN):mY k v/\kH (k+1) v v:=by
 cases v with
 |none=>exact ⟨⟨TL,λj=>e7 _ TL,TL⟩,λm g=>dj (m+k) g pG.2 pG.1⟩
 |bool b=>exact ⟨⟨TS TL,λj=>e7 _ TL,TL⟩,λm g=>dj (m+k) g (A1 b).2 (A1 b).1⟩
 |int i=>exact ⟨⟨TS TL,λj=>e7 _ TL,TL⟩,λm g=>dj (m+k) g (kp i).2.2.1 (kp i).1⟩
 |str s=>exact ⟨⟨TS TL,λj=>e7 _ TL,TL⟩,λm g=>dj (m+k) g (Fu s).2 (Fu s).1⟩
 |bytes b=>exact ⟨⟨TS TL,λj=>e7 _ TL,TL⟩,λm g=>dj (m+k) g (n9 b).2.2 (n9 b).1⟩
 |_=>cases h
theorem hU:∀{k:Nat} {v:V},fZ k v=TN->mY k v/\kH (k+1) v v:=by
 intro k;induction k with
 |zero=>exact λh=>bv 0 h
 |succ k b=>
  intro v h;cases v with
  |tuple xs=>refine aM (aR (show (decide (xs.length<=1000000)&&xs.all (fZ k))=TN from h)) λc a=>?_;have a:=Pa.mp a;have t:=kH.map (k:=k+1) (f:=id) (g:=id) (TM c) λx m=>(b (a x m)).2;rw [S5] at t;exact ⟨mY.l λx m=>(b (a x m)).1,t⟩
  |_=>exact bv _ h
theorem d9 {k:Nat} {a:Type} {f:a->V} {l:List a} (b:l.length<=1000000) (h:∀x∈l,fZ k (f x)=TN):fZ (k+1) (.tuple (l.map f))=TN:=by show (decide ((l.map f).length<=1000000)&&(l.map f).all (fZ k))=TN;refine aa (Pd ..) (aa (TS b ..) (aa (Tt ..) ?_));exact Pa.mpr h
theorem Wok.jh {L:Nat} {v to:V} {o:List UInt8} {z:Nat} (h:Wok L v to o z):mY (L-7) to:=⟨h.eq,h.pl,h.cl⟩
structure Line (o:List UInt8):Prop where
 ex:∃b y,o=b++[y]++[13,10]/\Pc (b++[y])/\y≠125
structure gB (OF told:V) (o:List UInt8):Prop where
 w:∀(n:Nat) (c:List Int) (a:Nat),I (n+30) 693 [OF] (Sg c a)=TK (.bytes o,Sg c a)
 r:∀(n:Nat) (c:List Int) (a:Nat),∃v,I (n+30) 811 [.bytes o] (Sg c a)=TK (v,Sg c a)/\kH 20 v told
 len:o.length<=20000
 ln:Line o
 pl:mY 11 told
noncomputable section
noncomputable def hV (b:List UInt8):List UInt8:=[42,32]++(b++[13,10])
end
section
variable (n:Nat) {a:Nat} {c:List Int} {b:List UInt8} {w:List Nat} {r:List V}
theorem e8 (e:aB (ag tab aE wm (n+29)) wm (.cmp .In (.call (.lit (.ref 230)) (.cons (.cw 0 0) .nil)) (.a4 (.lit (.str [79,75,32,78,79,32,66,65,68,32,66,89,69,32,80,82,69,65,85,84,72])) .split (.cons (.lit (.str [32])) .nil))) TN ⟨[.v (.tuple (.str w::r))],Sg c a⟩=TK (.bool TO,⟨[.v (.tuple (.str w::r))],Sg c a⟩)) (f:w≠[103,111,32,111,110]) (d:b.length<=100000) (key:I (n+29) 686 [.tuple (.str w::r)] (Sg c a)=TK (.bytes b,Sg c a)):I (n+30) 693 [.tuple (.str w::r)] (Sg c a)=TK (.bytes (hV b),Sg c a):=by
 apply fn TL TL;refine aa ((TL:hV b=[42,32]++b++[13,10]) ..) (sF e (ae (aA TL (TR f) TL) (ax (ai (ai TL (aw TL TL key) (am (ah ?_))) TL (am (ah ?_))))))
 ·show 2+b.length<=_;exact bL d TL
 ·refine aa (g3 ..) ?_;show 2+b.length+2<=_;exact bR (Pe d _) TL
theorem e9 {ρ:Slot}:aI (ag tab aE wm n) wm (.asg 1 (.cw 0 0)) ⟨[.v (.tuple (.str w::r)),ρ],Sg c a⟩=TK (.next,⟨[.v (.tuple (.str w::r)),.v (.str w)],Sg c a⟩):=by kernel_rfl
end
structure Ln (b:List UInt8):Prop where
 pc:Pc b
 last:∃b' y,b=b'++[y]/\y≠125
theorem Ln.app (h:Pc a) (k:Ln b):Ln (a++b):=⟨h.app k.pc,let ⟨b',y,e,c⟩:=k.last;(dC (a++b') y (aa (e ..) (aa (Pi ..) TL)) c)⟩
theorem Ln.nw (h:Ln a) (k:b=[]\/Ln b):Ln (a++b):=by
 rcases k with rfl|k
 ·refine aa (Pk ..) ?_;exact h
 ·exact .app h.pc k
theorem Ln.of (h:(b.all λc=>decide (c≠13))=TN) (a:b.getLast?=TK y) (d:y≠125):Ln b:=⟨.of h,by
 obtain ⟨ys,e⟩:=Ql.mp a;exact (dC ys y e d)⟩
theorem Ln.par {os:List (List UInt8)} (h:∀o∈os,Pc o):Ln (aQ os):=⟨.one (by decide) ((Pc.join (.one (by decide) .nil) h).app (.one (by decide) .nil)),40::aD [32] os,41,TL,by decide⟩
theorem Ln.Fr (k:Nat):Ln (ak k):=by refine ⟨.Fr k,?_⟩;obtain ⟨ys,e⟩:=Ql.mp (Rk (jF k));refine (dC ys _ e (λa=>?_));have:=eY k _ (Tg (jF k));rw [a] at this;exact TU this (by decide+kernel)
theorem Ln.line (h:Ln b):Line (hV b):=by refine kJ h.last λb' y e a=>?_;refine ⟨[42,32]++b',y,by unfold hV;refine aa (e ..) ?_;simp,?_,a⟩;refine aa (Pi ..) (bx (e ..) ?_);exact (Pc.of (by decide)).app h.pc
theorem nu.pc (h:nu t):Pc (toB t):=.plain λc m=>(j1 (h.val c m)).2.2.2.2
theorem k5 (h:b.length<=k):(hV b).length<=k+4:=by refine aa (g3 ..) (aa (g3 ..) ?_);exact aJ [_,_] 0x1e2034206800010421 h
theorem ff (a:xs.length<=1000000) (h:∀x∈xs,fZ k x=TN):fZ (k+1) (.tuple xs)=TN:=by show (decide (xs.length<=1000000)&&xs.all (fZ k))=TN;refine aa (TS a ..) ?_;exact Pa.mpr h
theorem gB.flat (d:fZ 5 v=TN) (f:Ln b) (e:b.length<=10000) (g:∀n c a,I (n+30) 693 [v] (Sg c a)=TK (.bytes (hV b),Sg c a)) (hr:∀n c a l o,At o 2 (b++13::l)->I (n+29) 804 [.ref 1] (Gw c a o 2)=TK (v,Gw c a o (2+b.length))):gB v v (hV b) where
 w:=g
 r:=λn c a=>(i12 v (t5 n TL (O5 (k5 e) (by decide)) (hU d).1.cl λl h=>hr n c a l _ h) ((hU d).2.up (by decide)))
 len:=O5 (k5 e) (by decide)
 ln:=f.line
 pl:=(hU d).1.up (by decide)
theorem k6 {a:Type} {f:a->List UInt8} {l:List a} (h:∀x∈l,(f x).length<=z) (b:l.length<=3):(aQ (l.map f)).length<=3*(z+1)+2:=rZ (λo m=>by obtain ⟨x,c,rfl⟩:=PI.mp m;exact h x c) (bu b)
theorem k7 {ts:List (List Nat)} (h:∀t∈ts,nu t) (a:ts.length<=3):(aQ (ts.map toB)).length<=245/\Ln (aQ (ts.map toB)):=⟨k6 (z:=80) (λt m=>by refine aa (toB_len ..) ?_;exact (h t m).len) a,.par λo m=>by obtain ⟨t,ht,rfl⟩:=PI.mp m;exact (h t ht).pc⟩
theorem xn {ts:List (List Nat)} (h:∀t∈ts,nu t) (b:ts.length<=3):gB (.tuple [.str [102,108,97,103,115],.tuple (ts.map .str)]) (.tuple [.str [102,108,97,103,115],.tuple (ts.map .str)]) (hV ([70,76,65,71,83,32]++aQ (ts.map toB))):=by
 refine aM (k7 h b) λz ln=>?_;have d:([70,76,65,71,83,32]++aQ (ts.map toB)).length<=1000:=by refine aa (g3 ..) ?_;exact bL z TL
 refine gB.flat (ff (show 2<=1000000 by decide) (all_cons TL (all_cons (d9 (O5 b (by decide)) λx _=>rfl) all_nil))) (.app (.of (by decide)) ln) (O5 d (by decide)) (λn c a=>?_) λn c a l o e=>?_
 ·refine e8 n (by kernel_rfl) (by decide) (O5 d (by decide)) ?_;have key:I (n+28) 672 [.tuple [.str [102,108,97,103,115],.tuple (ts.map .str)]] (Sg c a)=TK (.bytes ([70,76,65,71,83,32]++aQ (ts.map toB)),Sg c a):=by apply fn TL TL;exact sT (by kernel_rfl) (ax (ai TL (aw TL TL (kq (n+25) _ h b)) (am (ah (by exact bL z TL)))))
  apply fn TL TL;exact ae (e9 (n+28)) (sT (by kernel_rfl) (ax (aw TL TL key)))
 ·have f:(([70,76,65,71,83,32])++aQ (ts.map toB)).length=6+(aQ (ts.map toB)).length:=by refine aa (g3 ..) ?_;rfl
  exact aa (f ..) (Ea (n+4) h b e)
noncomputable def isLit:Form->Bool
 |.lit _=>TN
 |_=>TO
theorem Bs (h:isLit f=TN):∃q,f=.lit q:=by
 cases f with
 |lit q=>exact ⟨q,TL⟩
 |_=>exact TU h Pm
theorem k8 (a:x∈dl):Ln x.2.o/\x.2.o.length<=100:=by
 have key:∀x∈dl,(x.2.o.getLast?.map λy=>decide (y≠125))=TK TN/\x.2.o.length<=100/\(x.2.q.length<=80/\((∃q,x.2=.lit q)\/(x.2.o.all λc=>decide (c≠13))=TN)):=by intro x a;exact aM (aR (gj (p:=λx:List Nat×Form=>decide ((x.2.o.getLast?.map λy=>decide (y≠125))=TK TN/\x.2.o.length<=100/\x.2.q.length<=80)&&(isLit x.2||x.2.o.all λc=>decide (c≠13))) (show dl.all _=TN by kernel_rfl) a)) λb d=>fE (TM b) λa1 i j=>(B1 a1 i j ((Q3.mp d).imp Bs id))
 refine FJ (key x a) λb d h f=>⟨⟨?_,?_⟩,d⟩
 ·refine PA f (λg=>cR g λq e=>?_) λf=>?_
  ·rw [e] at h⊢;have:=Pc.lit (O5 h (by decide)) .nil;rw [Pk] at this;exact this
  ·exact .of f
 ·refine mO b λy k l=>cR (Ql.mp k) λys e=>?_;exact (dC ys y e (TM l))
theorem Bt (n:Nat) {c:List Int} {a:Nat} {w W:List Nat} (h:w.all (λc=>decide (c<128))=TN) (d:w.length<=100) (hW:w.map n5=W) (b:W.all (λc=>decide (c<128))=TN) {ρ:List Slot} {e:E} {st1:a7} (g:aB (ag tab aE wm (n+2)) wm e TO ⟨ρ,Sg c a⟩=TK (.str w,⟨ρ,Sg c a⟩)):aB (ag tab aE wm (n+2)) wm (.call (.lit (.ref 240)) (.cons (.call (.lit (.ref 230)) (.cons e .nil)) .nil)) TO ⟨ρ,Sg c a⟩=TK (.bytes (toB W),⟨ρ,Sg c a⟩):=by have f:=jE (n+1) (Sg c a) (s:=w) (λc m=>Qa (TM (Pa.mp h c m)) (by decide)) (O5 d (by decide));rw [hW] at f;exact aw TL (aF (aw TL (aF g) f)) (cF (n+1) _ (λc m=>TM (Pa.mp b c m)) (by refine bx (hW ..) (aa (Pd ..) ?_);exact O5 d (by decide)))
theorem Bu {ts:List (List Nat)} {x:List Nat×Form} {W w:List Nat} (b:(W=[76,73,83,84]/\w=[108,105,115,116])\/(W=[76,83,85,66]/\w=[108,115,117,98])) (h:∀t∈ts,nu t) (f:ts.length<=3) (g:x∈dl):
  gB (.tuple [.str w,.tuple (ts.map .str),.str x.1]) (.tuple [.str w,.tuple (ts.map .str),.str x.1]) (hV (toB W++[32]++aQ (ts.map toB)++[32,34,47,34,32]++x.2.o)):=by
 refine ac λj=>aM (k7 h f) λz ln=>aM (k8 g) λk fz=>j ?_;clear j;have d:(toB W).length=4:=by rcases b with ⟨rfl,-⟩|⟨rfl,-⟩<;>rfl
 have i:(toB W++[32]++aQ (ts.map toB)++[32,34,47,34,32]++x.2.o).length=10+(aQ (ts.map toB)).length+x.2.o.length:=by simp only [g3,d];show 4+1+_+5+_=_;exact eb [_,_] 0x20aac000a0180000
 refine gB.flat (ff (show 3<=1000000 by decide) (all_cons TL (all_cons (d9 (O5 f (by decide)) λx _=>rfl) (all_cons TL all_nil)))) (.app ((((by rcases b with ⟨rfl,-⟩|⟨rfl,-⟩<;>exact .of (by decide):Pc (toB W)).app (.of (by decide))).app ln.pc).app (.of (by decide))) k) (by refine aa (i ..) ?_;exact bA (Pe z _) fz TL) (λn c a=>?_) λn c a l o m=>?_
 ·refine e8 n (by rcases b with ⟨-,rfl⟩|⟨-,rfl⟩<;>kernel_rfl) (by rcases b with ⟨-,rfl⟩|⟨-,rfl⟩<;>decide) (by refine aa (i ..) ?_;exact bA (Pe z _) fz TL) ?_;have key:I (n+28) 672 [.tuple [.str w,.tuple (ts.map .str),.str x.1]] (Sg c a)=TK (.bytes (toB W++[32]++aQ (ts.map toB)++[32,34,47,34,32]++x.2.o),Sg c a):=by apply fn TL TL;refine sF (by rcases b with ⟨-,rfl⟩|⟨-,rfl⟩<;>kernel_rfl) (sF (by rcases b with ⟨-,rfl⟩|⟨-,rfl⟩<;>kernel_rfl) (ax (ai (ai (ai (ai (Bt (n+25) (c:=c) (a:=a) (w:=w) (W:=W) (ρ:=[.v (.tuple [.str w,.tuple (ts.map .str),.str x.1])]) (e:=.cw 0 0) (st1:=⟨[],Sg c a⟩) (by rcases b with ⟨-,rfl⟩|⟨-,rfl⟩<;>decide) (by rcases b with ⟨-,rfl⟩|⟨-,rfl⟩<;>decide) (by rcases b with ⟨rfl,rfl⟩|⟨rfl,rfl⟩<;>rfl) (by rcases b with ⟨rfl,rfl⟩|⟨rfl,rfl⟩<;>decide) TL) TL (am (ah ?_))) (aw TL TL (kq (n+25) _ h f)) (am (ah ?_))) TL (am (ah ?_))) (aw TL TL (vk (n+19) a c x g)) (am (ah ?_)))));all_goals ((first|exact aJ [_] 0xe1da42cc0800078421 (O9 d)|exact aJ [_,_,_] 0xe1da42c11800060803085e2085f5b0421 z (O9 d) (O9 g3)|exact aJ [_,_,_,_] 0x387690b4060001820102109003085e2085f5b0421 z (O9 d) (O9 g3) (O9 g3)|exact aJ [_,_,_,_,_,_] 0x387690b0880001830182109805086050102178c21352c2085f5b0421 z fz (O9 d) (O9 g3) (O9 g3) (O9 g3)))
  apply fn TL TL;exact ae (e9 (n+28)) (sT (by rcases b with ⟨-,rfl⟩|⟨-,rfl⟩<;>kernel_rfl) (ax (aw TL TL key)))
 ·refine aa (i ..) ?_;refine HP (n+4) (O:=toB W) (b.imp (λh=>⟨by refine aa (h.1 ..) ?_;rfl,h⟩) λh=>⟨by refine aa (h.1 ..) ?_;rfl,h⟩) h f g (l:=l) ?_;refine bx ((by simp:toB W++[32]++aQ (ts.map toB)++[32,34,47,34,32]++x.2.o++13::l=toB W++(32::(aQ (ts.map toB)++([32,34,47,34,32]++(x.2.o++13::l))))) ..) ?_;exact m
theorem HT:ck (.bytes b) (.int 1) .none=TK (.bytes (b.drop 1)):=by
 have e:cN (.bytes b) (.int 1) .none=TK (.bytes (eP b (min 1 b.length) b.length)):=TL;have a:eP b (min 1 b.length) b.length=b.drop 1:=by
  unfold eP;refine aa (Rj ..) ?_;cases b with
  |nil=>rfl
  |cons x r=>exact aa (show min 1 (x::r).length=1 by refine aa (O8 ..) ?_;exact TL) TL
 show cf (cN (.bytes b) (.int 1) .none)=_;refine aa (e ..) (aa (a ..) ?_);rfl
theorem r8:∀ps:List Pr,fN ps=aO (ps.map fO):=by
 intro a;induction a with
 |nil=>exact TL
 |cons x r b=>show 32::(toB x.w++32::toB x.t)++fN r=_;refine aa (b ..) ?_;rfl
theorem Bv (ps:List Pr):(fN ps).drop 1=aD [32] (ps.map fO):=by
 cases ps with
 |nil=>rfl
 |cons x r=>refine aa (Qe ..) (aa (eI ..) (bx (r8 ..) ?_));rfl
theorem Ko (h:fX x):Pc (fO x)/\Pc (toB x.t):=by
 have c:Pc (toB x.t):=by
  refine PA h.worth (λa=>ub a λk b b e b=>?_) λa=>ub a λps hp b e b=>?_
  ·refine aa (e ..) ?_;exact .Fr k
  ·refine aa (e ..) ?_;exact .plain (gm hp).2.2.1
 exact ⟨(Pc.plain (pN h.up).2.2.2).app (.one (by decide) c),c⟩
theorem r9 (h:fX x):fZ 3 (gA x)=TN:=by
 refine ff (show 2<=1000000 by decide) (all_cons TL (all_cons ?_ all_nil));refine PA h.worth (λa=>ix a λk b e b=>?_) λa=>ix a λps hp e b=>?_
 ·refine aa (e ..) ?_;rfl
 ·refine aa (e ..) ?_;exact d9 (O5 hp.len (by decide)) λx _=>rfl
theorem mU {ps:List Pr} {x:List Nat×Form} (h:∀y∈ps,fX y) (b:ps.length<=3) (e:x∈dl):
  gB (.tuple [.str [115,116,97,116,117,115],.str x.1,.tuple (ps.map gA)]) (.tuple [.str [115,116,97,116,117,115],.str x.1,.tuple (ps.map gA)]) (hV ([83,84,65,84,85,83,32]++x.2.o++[32,40]++aD [32] (ps.map fO)++[41])):=by
 refine aM (k8 e) λk fz=>?_;have d:(aQ (ps.map fO)).length<=308:=k6 (λy m=>vp (h y m)) b;have q:(aQ (ps.map fO)).length=(aD [32] (ps.map fO)).length+2:=by unfold aQ;refine aa (O8 ..) (aa (g3 ..) ?_);rfl
 have g:[83,84,65,84,85,83,32]++x.2.o++[32,40]++aD [32] (ps.map fO)++[41]=[83,84,65,84,85,83,32]++x.2.o++[32]++aQ (ps.map fO):=by unfold aQ;simp
 have f:([83,84,65,84,85,83,32]++x.2.o++[32,40]++aD [32] (ps.map fO)++[41]).length=8+x.2.o.length+(aQ (ps.map fO)).length:=by refine aa (q ..) ?_;simp only [g3,O8,PD];exact eb [_,_] 0x688019800c1343200000
 refine gB.flat (ff (show 3<=1000000 by decide) (all_cons TL (all_cons TL (all_cons (d9 (O5 b (by decide)) λy m=>r9 (h y m)) all_nil)))) ?_ (by refine aa (f ..) ?_;exact bA (Pe fz _) d TL) (λn c a=>?_) λn c a l o i=>?_
 ·refine aa (g ..) ?_;exact .app (((Pc.of (by decide)).app k.pc).app (.of (by decide))) (.par λo m=>by obtain ⟨y,r,rfl⟩:=PI.mp m;exact (Ko (h y r)).1)
 ·refine e8 n (by kernel_rfl) (by decide) (by refine aa (f ..) ?_;exact bA (Pe fz _) d TL) ?_;have hp:=vj (n+23) (Sg c a) h b;have key:I (n+28) 672 [.tuple [.str [115,116,97,116,117,115],.str x.1,.tuple (ps.map gA)]] (Sg c a)=TK (.bytes ([83,84,65,84,85,83,32]++x.2.o++[32,40]++aD [32] (ps.map fO)++[41]),Sg c a):=by have j:(aD [32] (ps.map fO)).length<=308:=O5 (PV _ _) (O5 (O9 g3.symm) (Nat.le_of_succ_le d));clear d;apply fn TL TL;refine sF (by kernel_rfl) (sT (by kernel_rfl) (ax (ai (ai (ai (ai TL (aw TL TL (vk (n+19) a c x e)) (am (ah ?_))) TL (am (ah ?_))) (db (aw TL TL hp) TL TL (HT.trans (by exact aa (Bv ..) TL))) (am (ah ?_))) TL (am (ah ?_)))));all_goals (simp only [g3,O8,PD];(first|exact aJ [_] 0x387690b0640000d4b0421 fz|exact aJ [_] 0xe1da42cd0c800000d4b0421 fz|exact aJ [_,_] 0x1c3b48584d0c800000019d2c2084d4b0421 fz j|exact aJ [_,_] 0x70ed216609a190000000019d2c2084d4b0421 fz j))
  apply fn TL TL;exact ae (e9 (n+28)) (sT (by kernel_rfl) (ax (aw TL TL key)))
 ·refine aa (f ..) ?_;rw [g] at i;refine Bp (n+4) h b e (l:=13::l) ?_;refine bx ((by simp:[83,84,65,84,85,83,32]++x.2.o++[32]++aQ (ps.map fO)++13::l=[83,84,65,84,85,83]++(32::(x.2.o++(32::(aQ (ps.map fO)++13::l))))) ..) ?_;exact i
theorem dV (h:k<10^(j+1)):(ak k).length<=j+1:=by refine aa (cG ..) ?_;exact bH h
theorem xo {k:Nat} (d:k<10000000000) (b:(W=[69,88,73,83,84,83]/\w=[101,120,105,115,116,115])\/(W=[69,88,80,85,78,71,69]/\w=[101,120,112,117,110,103,101])):
  gB (.tuple [.str w,.int k]) (.tuple [.str w,.int k]) (hV (ak k++[32]++toB W)):=by
 have z:=dV (j:=9) d;have e:(toB W).length<=7:=by rcases b with ⟨rfl,-⟩|⟨rfl,-⟩<;>decide
 have i:Ln (toB W):=by rcases b with ⟨rfl,-⟩|⟨rfl,-⟩<;>exact .of (by decide) TL (by decide)
 have f:(ak k++[32]++toB W).length=(ak k).length+1+(toB W).length:=by simp only [g3,O8,PD]
 refine gB.flat (ff (show 2<=1000000 by decide) (all_cons TL (all_cons TL all_nil))) (.app ((Pc.Fr k).app (.of (by decide))) i) (by refine aa (f ..) ?_;exact bA (Pg z _) e TL) (λn c a=>?_) λn c a l o q=>?_
 ·refine e8 n (by rcases b with ⟨-,rfl⟩|⟨-,rfl⟩<;>kernel_rfl) (by rcases b with ⟨-,rfl⟩|⟨-,rfl⟩<;>decide) (by refine aa (f ..) ?_;exact bA (Pg z _) e TL) ?_;have g:=jE (n+27) (Sg c a) (s:=w) (by rcases b with ⟨-,rfl⟩|⟨-,rfl⟩<;>decide) (by rcases b with ⟨-,rfl⟩|⟨-,rfl⟩<;>decide);rw [show w.map n5=W by rcases b with ⟨rfl,rfl⟩|⟨rfl,rfl⟩<;>rfl] at g;have hs:=bH (j:=9) d;have hW:W.length<=7:=by refine bx (toB_len ..) ?_;exact e
  have ho:=cF (n+27) (Sg c a) (s:=cq k++[32]++W) (λc m=>by
   refine PA (PE.mp m) (λm=>?_) λm=>?_
   ·refine PA (PE.mp m) (λm=>?_) λm=>?_
    ·exact Pb (dB k c m).2 (by decide)
    ·simp only [Pf,Pn,or_false] at m;exact bV (O5 (O9 m) (Px _)) TL
   ·rcases b with ⟨rfl,-⟩|⟨rfl,-⟩<;>(simp only [Pf,Pn,or_false] at m;lia)) (by simp only [g3,O8,PD];exact bA (Pg hs _) hW TL)
  have r:toB (cq k++[32]++W)=ak k++[32]++toB W:=by unfold toB;refine aa (Qk ..) (aa (Qk ..) ?_);rfl
  rw [r] at ho;apply fn TL TL;refine ae (e9 (n+28)) (sF (by rcases b with ⟨-,rfl⟩|⟨-,rfl⟩<;>kernel_rfl) (sF (by rcases b with ⟨-,rfl⟩|⟨-,rfl⟩<;>kernel_rfl) (sT (by rcases b with ⟨-,rfl⟩|⟨-,rfl⟩<;>kernel_rfl) (ax (aw TL (aF (ai (ai (b0 TL (eX (aJ [_] 0xed3af33aef2bdf6a10842166040000ab486fd4842cc08021 d))) TL (iX (ah ?_))) (aw TL TL g) (iX (ah ?_)))) ho)))));all_goals ((first|exact aJ [_] 0x1c3b4859810000ab0421 hs|exact aJ [_,_,_] 0x70ed21610c0003020184321042ab0421 hs hW (O9 g3)))
 ·refine aa (f ..) ?_;refine Eb (n+4) d (b.imp (λh=>⟨by refine aa (h.1 ..) ?_;rfl,h⟩) λh=>⟨by refine aa (h.1 ..) ?_;rfl,h⟩) (l:=l) ?_;refine bx ((by simp:ak k++[32]++toB W++13::l=ak k++(32::(toB W++13::l))) ..) ?_;exact q
theorem jM {a:List Nat} (h:∀k∈a,k<100) (b:a.length<=3):(aO (a.map ak)).length<=9/\(aO (a.map ak)=[]\/Ln (aO (a.map ak))):=by
 refine ⟨?_,?_⟩
 ·have:=hN (z:=2) (os:=a.map ak) λo m=>by obtain ⟨k,c,rfl⟩:=PI.mp m;exact dV (j:=1) (h k c)
  exact aJ [_,_] 0xa0400a082110421 this (PH _ (bu b):(a.map ak).length*(2+1)<=3*(2+1))
 ·clear h b;induction a with
  |nil=>exact .inl TL
  |cons k r d=>exact .inr ((Ln.app (.of (by decide):Pc [32]) (.Fr k)).nw d)
theorem j8 {a:List Nat} (b:a.length<=3):fZ 4 (.tuple (a.map λ(k:Nat)=>.int k))=TN:=d9 (O5 b (by decide)) λx _=>rfl
theorem Bw {b:List Nat} (h:∀k∈b,k<100) (d:b.length<=3):gB (.tuple [.str [115,111,114,116],.tuple (b.map λ(k:Nat)=>.int k)]) (.tuple [.str [115,111,114,116],.tuple (b.map λ(k:Nat)=>.int k)]) (hV (toB [83,79,82,84]++aO (b.map ak))):=by
 refine aM (jM h d) λz ln=>?_;have e:(toB [83,79,82,84]++aO (b.map ak)).length=4+(aO (b.map ak)).length:=by refine aa (g3 ..) ?_;rfl
 refine gB.flat (ff (show 2<=1000000 by decide) (all_cons TL (all_cons (j8 d) all_nil))) ((Ln.of (by decide) TL (by decide)).nw ln) (by refine aa (e ..) ?_;exact bL z TL) (λn c a=>?_) λn c a l o f=>?_
 ·refine e8 n (by kernel_rfl) (by decide) (by refine aa (e ..) ?_;exact bL z TL) ?_;have key:I (n+28) 679 [.tuple [.str [115,111,114,116],.tuple (b.map λ(k:Nat)=>.int k)]] (Sg c a)=TK (.bytes (toB [83,79,82,84]++aO (b.map ak)),Sg c a):=by apply fn TL TL;exact sF (by kernel_rfl) (sF (by kernel_rfl) (sT (by kernel_rfl) (ax (ai TL (aw TL TL (j6 (n+24) _ h d)) (am (ah (by exact bL z TL)))))))
  apply fn TL TL;exact ae (e9 (n+28)) (sF (by kernel_rfl) (sT (by kernel_rfl) (ax (aw TL TL key))))
 ·refine aa (e ..) (HQ (n+4) h d (l:=l) ?_);refine bx (Pi ..) ?_;exact f
theorem sa {d:List Nat} (h:∀k∈d,k<100) (e:d.length<=3):gB (.tuple [.str [115,101,97,114,99,104],.tuple (d.map λ(k:Nat)=>.int k),.int (0:Nat)]) (.tuple [.str [115,101,97,114,99,104],.tuple (d.map λ(k:Nat)=>.int k),.int (0:Nat)]) (hV (toB [83,69,65,82,67,72]++aO (d.map ak))):=by
 refine aM (jM h e) λz ln=>?_;have f:(toB [83,69,65,82,67,72]++aO (d.map ak)).length=6+(aO (d.map ak)).length:=by refine aa (g3 ..) ?_;rfl
 refine gB.flat (ff (show 3<=1000000 by decide) (all_cons TL (all_cons (j8 e) (all_cons TL all_nil)))) ((Ln.of (b:=toB [83,69,65,82,67,72]) (by decide) TL (by decide)).nw ln) (by refine aa (f ..) ?_;exact bL z TL) (λn c a=>?_) λn c a l o g=>?_
 ·refine e8 n (by kernel_rfl) (by decide) (by refine aa (f ..) ?_;exact bL z TL) ?_;have key:I (n+28) 679 [.tuple [.str [115,101,97,114,99,104],.tuple (d.map λ(k:Nat)=>.int k),.int (0:Nat)]] (Sg c a)=TK (.bytes (toB [83,69,65,82,67,72]++aO (d.map ak)),Sg c a):=by apply fn TL TL;refine sT (by kernel_rfl) (ae (az (v:=.bytes []) TL TL) (ax (di (ai TL (aw TL TL (j6 (n+24) _ h e)) (am (ah (by show 6+_<=_;exact bL z TL)))) TL (am (ah (by refine aa (g3 ..) ?_;show 6+_+0<=_;exact bR (Pe z _) TL))) ?_)));refine aa (Pk ..) ?_;rfl
  apply fn TL TL;exact ae (e9 (n+28)) (sF (by kernel_rfl) (sT (by kernel_rfl) (ax (aw TL TL key))))
 ·refine aa (f ..) (xh (n+4) h e (l:=l) ?_);refine bx (Pi ..) ?_;exact g
theorem sd {b:List Nat} {m:Nat} (f:0<m) (hm:m<10000000000000000000) (h:∀k∈b,k<100) (e:b.length<=3):gB (.tuple [.str [115,101,97,114,99,104],.tuple (b.map λ(k:Nat)=>.int k),.int m]) (.tuple [.str [115,101,97,114,99,104],.tuple (b.map λ(k:Nat)=>.int k),.int m]) (hV (toB [83,69,65,82,67,72]++aO (b.map ak)++([32,40,77,79,68,83,69,81,32]++ak m++[41]))):=by
 refine aM (jM h e) λz ln=>?_;have d:=dV (j:=18) hm;have g:(toB [83,69,65,82,67,72]++aO (b.map ak)++([32,40,77,79,68,83,69,81,32]++ak m++[41])).length=6+(aO (b.map ak)).length+9+(ak m).length+1:=by simp only [g3,O8,PD,toB_len];exact eb [_,_] 0x182a06200000c150000c400
 refine gB.flat (ff (show 3<=1000000 by decide) (all_cons TL (all_cons (j8 e) (all_cons TL all_nil)))) (.app ((Ln.of (by decide) TL (by decide)).nw ln:Ln (toB [83,69,65,82,67,72]++aO (b.map ak))).pc (.app ((Pc.of (by decide)).app (.Fr m)) (.of (by decide) TL (by decide)))) (by refine aa (g ..) ?_;exact bR (PL (Pg (Pe z _) _) d) TL) (λn c a=>?_) λn c a l o i=>?_
 ·refine e8 n (by kernel_rfl) (by decide) (by refine aa (g ..) ?_;exact bR (PL (Pg (Pe z _) _) d) TL) ?_;have key:I (n+28) 679 [.tuple [.str [115,101,97,114,99,104],.tuple (b.map λ(k:Nat)=>.int k),.int m]] (Sg c a)=TK (.bytes (toB [83,69,65,82,67,72]++aO (b.map ak)++([32,40,77,79,68,83,69,81,32]++ak m++[41])),Sg c a):=by apply fn TL TL;refine sT (by kernel_rfl) (ae (az (b1 TL (TS (n1 f:(0:Int)<m)) (ai (ai TL (aw TL (aF (b0 TL (eX (bU hm TL)))) (cF (n+26) _ (λc q=>Pb (dB m c q).2 (by decide)) (O5 (bH (j:=18) hm) (by decide)))) (am (ah ?_))) TL (am (ah ?_)))) TL) (ax (ai (ai TL (aw TL TL (j6 (n+24) _ h e)) (am (ah ?_))) TL (am (ah ?_)))));all_goals ((try refine aa (show toB (cq m)=ak m from TL) ?_);simp only [g3,O8,PD,toB_len];(try refine aa (show (cq m).length=(ak m).length from (cG m).symm) ?_);(first|exact aJ [_] 0x387690b068000033b0421 d|exact aJ [_] 0xe1da42cc0d00000033b0421 d|exact aJ [_] 0xe1da42c188000a0421 z|exact aJ [_,_] 0xe1da42cc150000c40000033b0821a0421 z d))
  apply fn TL TL;exact ae (e9 (n+28)) (sF (by kernel_rfl) (sT (by kernel_rfl) (ax (aw TL TL key))))
 ·refine aa (g ..) (xi (n+4) hm h e (l:=13::l) ?_);refine bx ((by simp:toB [83,69,65,82,67,72]++aO (b.map ak)++([32,40,77,79,68,83,69,81,32]++ak m++[41])++13::l=toB [83,69,65,82,67,72]++(aO (b.map ak)++([32,40,77,79,68,83,69,81,32]++(ak m++([41]++13::l))))) ..) ?_;exact i
theorem NC (m:Nat) (v:V) (g:FG):I (m+1) 593 [v] g=I (m+1) 593 [v,.int (0:Nat)] g:=TL
section
variable {R:V->List V->FG->Option (V×FG)} {wm:Nm->Option V} {g:FG} {ρ:List Slot} {st:a7} {e it:E} {x:V} {m:Bool} {q:V×a7} {α:Type} {l:List α}
theorem Ek (F A B:α->V) (f:α->List UInt8) (b:∀x,F x=.tuple [A x,B x]) (c:aB R wm it TO st=TK (x,⟨ρ,g⟩)) (d:cO x=TK (l.map F)) (i:l.length<=1000000) (j:∀x∈l,aB R wm e TO ⟨ρ.map hide++[.v (A x),.v (B x)],g⟩=TK (.bytes (f x),⟨ρ.map hide++[.v (A x),.v (B x)],g⟩)) (k:(aD sep (l.map f)).length<=av) (n:ba m (.bytes (aD sep (l.map f))) ⟨ρ,g⟩=TK q):aB R wm (.a4 (.lit (.bytes sep)) .join (.cons (.comp e 2 it (.lit (.bool TN))) .nil)) m st=TK q:=by
 have o:aB R wm (.comp e 2 it (.lit (.bool TN))) TO st=TK (.list (l.map λx=>.bytes (f x)),⟨ρ,g⟩):=by
  refine mz c d (by refine aa (Pd ..) ?_;exact O5 i (by decide)) ?_ (eE g) TL;have:∀(l:List α) acc,(∀x∈l,aB R wm e TO ⟨ρ.map hide++[.v (A x),.v (B x)],g⟩=TK (.bytes (f x),⟨ρ.map hide++[.v (A x),.v (B x)],g⟩))-> ey (λst=>aB R wm e TO st) (λst=>aB R wm (.lit (.bool TN)) TN st) 2 (ρ.map hide) (l.map F) acc g=TK (acc++l.map λx=>.bytes (f x),g):=by
   intro l;induction l with
   |nil=>intro acc _;exact aa (Pk ..) TL
   |cons a r s=>intro acc h;refine aa (Qe ..) (aa (b ..) ?_);refine mC TL TL (h a (.head _)) ?_;have:=s (acc++[.bytes (f a)]) λx m=>h x (.tail _ m);rw [Pi] at this;exact this
  exact this l [] j
 exact nZ TL TL (aF o) (pz (by refine aa (Po ..) ?_;rfl) k) n
end
theorem OG {st:a7} (h:aB R wm t TN st=TK (.bool TN,st)) (k:aI R wm A st=TK (.ret v,st1)):aI R wm (.seq (.ite t A .skip) C) st=TK (.ret v,st1):=sT h k
theorem El (h:∀x∈ps,fX x):fN ps=[]\/Ln (fN ps):=by
 induction ps with
 |nil=>exact .inl TL
 |cons x r g=>
  have d:=h x (.head _);have lt:Ln (fO x):=by
   refine .app (.plain (pN d.up).2.2.2) (.app (a:=[32]) (.of (by decide)) ?_);refine PA d.worth (λb=>ub b λk c c e c=>?_) λb=>ub b λps hp c e c=>?_
   ·refine aa (e ..) ?_;exact .Fr k
   ·refine aa (e ..) (ou (gm hp) λc c i f c=>?_);refine ⟨.plain i,?_⟩;refine cR (Ql.mp (Rk f)) λys e=>?_;refine (dC ys _ e (λj=>?_));have:=(gm hp).1 _ (Tg f);rw [j] at this;exact TU this (by decide+kernel)
  exact .inr ((Ln.app (a:=[32]) (.of (by decide)) lt).nw (g λy m=>h y (.tail _ m)))
theorem vv (h:∀x∈ps,fX x) (a:ps.length<=3):(fN ps).length<=306:=by
 refine aa (r8 ..) ?_;have:=hN λo m=>by obtain ⟨k,b,rfl⟩:=PI.mp m;exact vp (h k b)
 exact aJ [_,_] 0x339582000672b082110421 this (PH _ (bu a))
theorem se (h:∀x∈ps,fX x) (j:∀x∈ps,x.w[0]?≠TK 85) (d:ps.length<=3):
  gB (.tuple [.str [101,115,101,97,114,99,104],.str (i2 tg),.bool ui,.tuple (ps.map gA)]) (.tuple [.str [101,115,101,97,114,99,104],.str (i2 tg),.bool ui,.tuple (ps.map gA)]) (hV (toB [69,83,69,65,82,67,72]++fY tg++gn ui++fN ps)):=by
 have f:=vv h d;have b:(fY tg).length<=11:=by cases tg<;>decide
 have e:(gn ui).length<=4:=by cases ui<;>decide
 have lt:fY tg=[]\/Ln (fY tg):=by
  cases tg
  ·exact .inl TL
  ·exact .inr (.of (by decide) TL (by decide))
 have k:gn ui=[]\/Ln (gn ui):=by
  cases ui
  ·exact .inl TL
  ·exact .inr (.of (by decide) TL (by decide))
 have g:(toB [69,83,69,65,82,67,72]++fY tg++gn ui++fN ps).length=7+(fY tg).length+(gn ui).length+(fN ps).length:=by simp only [g3];rfl
 refine gB.flat (ff (show 4<=1000000 by decide) (all_cons TL (all_cons TL (all_cons TL (all_cons (d9 (O5 d (by decide)) λy m=>r9 (h y m)) all_nil))))) ((((Ln.of (by decide) TL (by decide)).nw lt).nw k).nw (El h)) (by refine aa (g ..) ?_;exact bA (PL (Pe b _) e) f TL) (λn c a=>?_) λn c a l o i=>?_
 ·refine e8 n (by kernel_rfl) (by decide) (by refine aa (g ..) ?_;exact bA (PL (Pe b _) e) f TL) ?_;have hd:aB (ag tab aE wm (n+27)) wm (.ite (.cmp .NotEq (.cw 0 1) (.lit (.str []))) (.bin .Add (.bin .Add (.lit (.bytes [32,40,84,65,71,32])) (.call (.lit (.ref 593)) (.cons (.call (.lit (.ref 240)) (.cons (.cw 0 1) .nil)) .nil))) (.lit (.bytes [41]))) (.lit (.bytes []))) TO
    ⟨[.v (.tuple [.str [101,115,101,97,114,99,104],.str (i2 tg),.bool ui,.tuple (ps.map gA)]),.u,.u],Sg c a⟩=TK (.bytes (fY tg),⟨[.v (.tuple [.str [101,115,101,97,114,99,104],.str (i2 tg),.bool ui,.tuple (ps.map gA)]),.u,.u],Sg c a⟩):=by
   cases tg<;>kernel_rfl
  have q:aB (ag tab aE wm (n+27)) wm (.ite (.cw 0 2) (.lit (.bytes [32,85,73,68])) (.lit (.bytes []))) TO
    ⟨[.v (.tuple [.str [101,115,101,97,114,99,104],.str (i2 tg),.bool ui,.tuple (ps.map gA)]),.u,.v (.bytes (fY tg))],Sg c a⟩=TK (.bytes (gn ui),⟨[.v (.tuple [.str [101,115,101,97,114,99,104],.str (i2 tg),.bool ui,.tuple (ps.map gA)]),.u,.v (.bytes (fY tg))],Sg c a⟩):=by
   cases ui<;>kernel_rfl
  have key:I (n+28) 679 [.tuple [.str [101,115,101,97,114,99,104],.str (i2 tg),.bool ui,.tuple (ps.map gA)]] (Sg c a)=TK (.bytes (toB [69,83,69,65,82,67,72]++fY tg++gn ui++fN ps),Sg c a):=by
   apply fn TL TL;refine sF (by kernel_rfl) (OG (by kernel_rfl) (ae (az hd TL) (ax (ai (ai (ai TL TL (am (ah ?_))) q (am (ah ?_))) (aw TL TL (vj (n+23) _ h d)) (am (ah ?_))))))
   ·exact bL b TL
   ·refine aa (g3 ..) ?_;show 7+_+_<=_;exact bA (Pe b _) e TL
   ·refine aa (g3 ..) (aa (g3 ..) ?_);exact bA (PL (Pe b _) e) f TL
  apply fn TL TL;exact ae (e9 (n+28)) (sF (by kernel_rfl) (sT (by kernel_rfl) (ax (aw TL TL key))))
 ·refine aa (g ..) (xm (n+4) h j d (l:=l) ?_);simp only [Pi] at i;exact i
theorem sh:gB (.tuple [.str [116,104,114,101,97,100],.bytes []]) (.tuple [.str [116,104,114,101,97,100],.bytes []]) (hV (toB [84,72,82,69,65,68])):=by refine gB.flat TL (.of (by decide) TL (by decide)) (by decide) (λn c a=>by kernel_rfl) λn c a l o b=>xj (n+4) b
theorem si:gB (.tuple [.str [116,104,114,101,97,100],.bytes [40,50,41,40,51,32,54,32,40,52,32,50,51,41,40,52,52,32,55,41,41]]) (.tuple [.str [116,104,114,101,97,100],.bytes [40,50,41,40,51,32,54,32,40,52,32,50,51,41,40,52,52,32,55,41,41]]) (hV (toB [84,72,82,69,65,68]++([32]++[40,50,41,40,51,32,54,32,40,52,32,50,51,41,40,52,52,32,55,41,41]))):=by refine gB.flat TL (.of (by decide) TL (by decide)) (by decide) (λn c a=>by kernel_rfl) λn c a l o b=>xk (n+4) (by decide+kernel) b
theorem Bx:gB (.tuple [.str [105,100],.none]) (.tuple [.str [105,100],.none]) (hV [73,68,32,78,73,76]):=gB.flat TL (.of (by decide) TL (by decide)) (by decide) (λn c a=>by kernel_rfl) λn c a l o b=>MM (n+4) b
theorem HU:gB (.tuple [.str [110,97,109,101,115,112,97,99,101]]) (.tuple [.str [110,97,109,101,115,112,97,99,101]]) (hV [78,65,77,69,83,80,65,67,69,32,40,40,34,34,32,34,47,34,41,41,32,78,73,76,32,78,73,76]):=gB.flat TL (.of (by decide) TL (by decide)) (by decide) (λn c a=>by kernel_rfl) λn c a l o b=>MN (n+4) b
theorem pP (h:gz ps):gB (.tuple [.str [118,97,110,105,115,104,101,100],.tuple (ps.map gk),.bool ea]) (.tuple [.str [118,97,110,105,115,104,101,100],.tuple (ps.map gk),.bool ea]) (hV ([86,65,78,73,83,72,69,68,32]++hR ea++dO ps)):=by
 have d:=mN h;have b:(hR ea).length<=10:=by cases ea<;>decide
 have f:([86,65,78,73,83,72,69,68,32]++hR ea++dO ps).length=9+(hR ea).length+(dO ps).length:=by simp only [g3];rfl
 have ls:Ln (dO ps):=by refine ou (gm h) λg g j i g=>⟨.plain j,?_⟩;refine cR (Ql.mp (Rk i)) λys e=>?_;refine (dC ys _ e (λk=>?_));have:=(gm h).1 _ (Tg i);rw [k] at this;exact TU this (by decide+kernel)
 refine gB.flat (ff (show 3<=1000000 by decide) (all_cons TL (all_cons (d9 (O5 h.len (by decide)) λy m=>rfl) (all_cons TL all_nil)))) (.app ((Pc.of (by decide)).app (by cases ea<;>exact .of (by decide):Pc (hR ea))) ls) (by refine aa (f ..) ?_;exact bA (Pe b _) d TL) (λn c a=>?_) λn c a l o q=>?_
 ·refine e8 n (by kernel_rfl) (by decide) (by refine aa (f ..) ?_;exact bA (Pe b _) d TL) ?_;have r:aB (ag tab aE wm (n+28)) wm (.ite (.cw 0 2) (.lit (.bytes [40,69,65,82,76,73,69,82,41,32])) (.lit (.bytes []))) TO
    ⟨[.v (.tuple [.str [118,97,110,105,115,104,101,100],.tuple (ps.map gk),.bool ea]),.v (.str [118,97,110,105,115,104,101,100])],Sg c a⟩=TK (.bytes (hR ea),⟨[.v (.tuple [.str [118,97,110,105,115,104,101,100],.tuple (ps.map gk),.bool ea]),.v (.str [118,97,110,105,115,104,101,100])],Sg c a⟩):=by
   cases ea<;>kernel_rfl
  apply fn TL TL;refine ae (e9 (n+28)) (sF (by kernel_rfl) (sF (by kernel_rfl) (sF (by kernel_rfl) (sF (by kernel_rfl) (sT (by kernel_rfl) (ax (ai (ai TL r (am (ah ?_))) (aw TL (aF (aw TL TL (oi (n+25) _ h))) (cF (n+27) (Sg c a) (λc m=>by have:=k3 h.lt c m;lia) (O5 (hM h) (by decide)))) (am (ah ?_)))))))))
  ·exact aJ [_] 0x1c3b4858340000ab0421 b
  ·refine aa (g3 ..) ?_;exact aJ [_,_] 0xe1da42c115000001561042cb0421 d b
 ·refine aa (f ..) (t4 (n+4) h (l:=l) ?_);have e:[86,65,78,73,83,72,69,68,32]++hR ea++dO ps++13::l=toB [86,65,78,73,83,72,69,68]++(32::(hR ea++(dO ps++13::l))):=by refine aa (Pi ..) (aa (Pi ..) ?_);rfl
  refine bx (e ..) ?_;exact q
structure vw (ts:List (List Nat)):Prop where
 len:ts.length<=3
 ok:∀t∈ts,(∀c∈toB t,cE c=TN)/\toB t≠[]/\(∀c∈toB t,c<128)/\toS' (toB t)=t
 asc:∀t∈ts,(∀c∈t,c<128)/\t.length<=80
 ln:∀t∈ts,Ln (toB t)
theorem Em (b:(W=[67,65,80,65,66,73,76,73,84,89]/\w=[99,97,112,97,98,105,108,105,116,121])\/(W=[69,78,65,66,76,69,68]/\w=[101,110,97,98,108,101,100])) (h:vw ts):
  gB (.tuple [.str w,.tuple (ts.map .str)]) (.tuple [.str w,.tuple (ts.map .str)]) (hV (toB W++aO (ts.map toB))):=by
 have d:(aO (ts.map toB)).length<=243:=by
  have:=hN (os:=ts.map toB) λo m=>by obtain ⟨k,e,rfl⟩:=PI.mp m;refine aa (toB_len ..) ?_;exact (h.asc k e).2
  exact aJ [_,_] 0x7cec1001f3b082110421 this (PH _ (bu h.len))
 have f:(toB W).length<=10:=by rcases b with ⟨rfl,-⟩|⟨rfl,-⟩<;>decide
 have lt:aO (ts.map toB)=[]\/Ln (aO (ts.map toB)):=by
  have e:=h.ln;clear d h;induction ts with
  |nil=>exact .inl TL
  |cons t r i=>exact .inr ((Ln.app (a:=[32]) (.of (by decide)) (e t (.head _))).nw (i λt m=>e t (.tail _ m)))
 have g:(toB W++aO (ts.map toB)).length=(toB W).length+(aO (ts.map toB)).length:=g3;refine gB.flat (ff (show 2<=1000000 by decide) (all_cons TL (all_cons (d9 (O5 h.len (by decide)) λy m=>rfl) all_nil))) ((by rcases b with ⟨rfl,-⟩|⟨rfl,-⟩<;>exact .of (by decide) TL (by decide):Ln (toB W)).nw lt) (by refine aa (g ..) ?_;exact bA f d TL) (λn c a=>?_) λn c a l o j=>?_
 ·refine e8 n (by rcases b with ⟨-,rfl⟩|⟨-,rfl⟩<;>kernel_rfl) (by rcases b with ⟨-,rfl⟩|⟨-,rfl⟩<;>decide) (by refine aa (g ..) ?_;exact bA f d TL) ?_;apply fn TL TL;refine ae (e9 (n+28)) (sF (by rcases b with ⟨-,rfl⟩|⟨-,rfl⟩<;>kernel_rfl) (sF (by rcases b with ⟨-,rfl⟩|⟨-,rfl⟩<;>kernel_rfl) (sF (by rcases b with ⟨-,rfl⟩|⟨-,rfl⟩<;>kernel_rfl) (sF (by rcases b with ⟨-,rfl⟩|⟨-,rfl⟩<;>kernel_rfl) (sF (by rcases b with ⟨-,rfl⟩|⟨-,rfl⟩<;>kernel_rfl) (sT (by rcases b with ⟨-,rfl⟩|⟨-,rfl⟩<;>kernel_rfl) (ax (ai (Bt (n+26) (c:=c) (st1:=⟨[],Sg c a⟩) (by rcases b with ⟨-,rfl⟩|⟨-,rfl⟩<;>decide) (by rcases b with ⟨-,rfl⟩|⟨-,rfl⟩<;>decide) (by rcases b with ⟨rfl,rfl⟩|⟨rfl,rfl⟩<;>rfl) (by rcases b with ⟨rfl,rfl⟩|⟨rfl,rfl⟩<;>decide) TL) (aw TL TL (pM (n+26) _ TL h.asc (O5 h.len (by decide)))) (am (ah ?_))))))))));exact bA f d TL
 ·refine aa (g ..) (Km (n+4) (b.imp (λh=>⟨by exact aa (h.1 ..) TL,h⟩) λh=>⟨by exact aa (h.1 ..) TL,h⟩) h.ok h.len (l:=l) ?_);refine bx (Pi ..) ?_;exact j
noncomputable section
end
theorem Fp.len (h:Fp x):(e6 x).length<=1901:=by have:=h.HN.len;have:=h.Kk.len.2;refine aa (g3 ..) (aa (O8 ..) (aa (toB_len ..) ?_));lia
theorem Fp.pc (h:Fp x):Pc (e6 x):=(Pc.of h.Kk.pc).app (.one (by decide) h.HN.pc)
theorem xp {k:Nat} {xs:List Fx} (q:k<1000) (h:∀x∈xs,Fp x) (u:xs.length<=3):
  gB (.tuple [.str [102,101,116,99,104],.int k,.list (xs.map mP)]) (.tuple [.str [102,101,116,99,104],.int k,.tuple (xs.map Bn)]) (hV (ak k++[32,70,69,84,67,72,32]++aQ (xs.map e6))):=by
 have e:(ak k).length<=3:=dV (j:=2) q;have b:(aQ (xs.map e6)).length<=5708:=k6 (λy m=>(h y m).len) u;have v:(aQ (xs.map e6)).length=(aD [32] (xs.map e6)).length+2:=by unfold aQ;refine aa (O8 ..) (aa (g3 ..) ?_);rfl
 have r:(ak k++[32,70,69,84,67,72,32]++aQ (xs.map e6)).length=(ak k).length+7+(aQ (xs.map e6)).length:=by simp only [g3];rfl
 have ln:Ln (ak k++[32,70,69,84,67,72,32]++aQ (xs.map e6)):=.app ((Pc.Fr k).app (.of (by decide))) (.par λo m=>by obtain ⟨y,B,rfl⟩:=PI.mp m;exact (h y B).pc);have i:xs.length<=1000000:=O5 u (by decide);refine ⟨λn c a=>?_,λn c a=>?_,O5 (k5 (k:=6000) (by refine aa (r ..) ?_;exact bA (Pg e _) b TL)) (by decide),ln.line,?_⟩
 ·refine e8 n (by kernel_rfl) (by decide) (by refine aa (r ..) ?_;exact bA (Pg e _) b TL) ?_;have key:I (n+28) 660 [.list (xs.map mP)] (Sg c a)=TK (.bytes (aQ (xs.map e6)),Sg c a):=by
   apply fn TL TL;refine aa ((TL:aQ (xs.map e6)=[40]++aD [32] (xs.map e6)++[41]) ..) (ax (ai (ai TL (Ek (sep:=[32]) (l:=xs) mP (λx=>.str x.1) (λx=>x.2.1) e6 (λ_=>rfl) TL TL i (λx m=>?_) (ah (by exact aJ [_,_] 0xe1da42c20002d100210da9cb0421 b (O9 (Qf v)))) TL) (am (ah ?_))) TL (am (ah ?_))))
   ·have ht:=(h x m).Kk;have A:=(h x m).HN;refine aa ((by unfold e6;simp:e6 x=toB x.1++[32]++x.2.2.2) ..) ?_;refine di (di (bt TL TL (cF (n+26) (Sg c a) (s:=x.1) (λc z=>TM (Pa.mp ht.asc c z)) (O5 ht.len.2 (by decide))) TL) TL (am (ah ?_)) TL) (bt TL TL ((NC (n+26) x.2.1 (Sg c a)).trans (A.w (n+15) (Sg c a) 0 (by decide))) TL) (am (ah ?_)) TL
    ·have:=ht.len.2;refine aa (toB_len ..) ?_;show _+1<=_;exact aJ [_] 0x387690b3020000b0b0421 this
    ·have:=ht.len.2;have:=A.len;refine aa (g3 ..) (aa (toB_len ..) ?_);show _+1+_<=_;lia
   ·show 1+_<=_;exact aJ [_,_] 0x387690b09800002d100210da9cb0421 b (O9 (Qf v))
   ·refine aa (g3 ..) ?_;show 1+_+1<=_;exact aJ [_,_] 0xe1da42cc130000002d100210da9cb0421 b (O9 (Qf v))
  apply fn TL TL;refine ae (e9 (n+28)) (sF (by kernel_rfl) (sF (by kernel_rfl) (sF (by kernel_rfl) (sT (by kernel_rfl) (ax (ai (ai (aw TL (aF (b0 TL (eX (by exact aJ [_] 0x3b4ebccebbcaf7da842108598100003f62cc08021 q)))) (cF (n+27) (Sg c a) (s:=cq k) (λc z=>Pb (dB k c z).2 (by decide)) (O5 (bH (j:=2) q) (by decide)))) TL (am (ah ?_))) (aw TL TL key) (am (ah ?_))))))))
  ·show (ak k).length+7<=_;exact aJ [_] 0xe1da42d20800070421 e
  ·refine aa (g3 ..) ?_;show (ak k).length+7+_<=_;exact aJ [_,_] 0x387690b0a41000000da9cb082170421 e b
 ·refine (i12 (.tuple [.str [102,101,116,99,104],.int k,.tuple (xs.map mP)]) (t5 n TL (O5 (k5 (k:=6000) (by refine aa (r ..) ?_;exact bA (Pg e _) b TL)) (by decide)) ?_ λl C=>?_) ?_)
  ·have:aV (xs.map mP)=TN:=dc λx m=>by show (TN&&(aN x.2.1&&TN))=TN;refine aa ((h x m).HN.cv ..) ?_;rfl
   show (TN&&(TN&&(aV (xs.map mP)&&TN)))=TN;refine aa (this ..) ?_;rfl
  ·refine aa (r ..) (Ec (n+4) (by exact bU q TL) h u (l:=13::l) ?_);refine bx ((by simp:ak k++[32,70,69,84,67,72,32]++aQ (xs.map e6)++13::l=ak k++(32::([70,69,84,67,72]++(32::(aQ (xs.map e6)++13::l))))) ..) ?_;exact C
  ·have D:kH 13 (.str [102,101,116,99,104]) (.str [102,101,116,99,104]):=(bv 12 TL).2;have d:kH 14 (.tuple (xs.map mP)) (.tuple (xs.map Bn)):=kH.map i λx m=>kH.map (f:=λp:V×V=>p.1) (g:=λp=>p.2) (l:=[(.str x.1,.str x.1),(x.2.1,x.2.2.1)]) (show 2<=1000000 by decide) (all_cons (bv 11 TL).2 (all_cons (λm g=>(h x (by assumption)).HN.t m g) all_nil));exact (kH.map (f:=λp:V×V=>p.1) (g:=λp=>p.2) (l:=[(.str [102,101,116,99,104],.str [102,101,116,99,104]),(.int k,.int k),(.tuple (xs.map mP),.tuple (xs.map Bn))]) (show 3<=1000000 by decide) (all_cons (bv 13 TL).2 (all_cons (bv 13 TL).2 (all_cons d all_nil)))).up (by decide)
 ·exact (mY.l (k:=7) (all_cons (bv 7 TL).1 (all_cons (bv 7 TL).1 (all_cons (mY.map (k:=6) λx m=>mY.l (k:=5) (all_cons (bv 5 TL).1 (all_cons (h x m).HN.jh all_nil))) all_nil)))).up (by decide)
theorem Txt.pc (h:Txt t):Pc (toB t):=.plain λc m e=>by have:=Pa.mp h.run c m;rw [e] at this;exact TU this (by decide+kernel)
theorem Txt.line (h:Txt t) {b:List UInt8} (f:Pc b) (e:b=b'++[y]) (i:y≠125):Line (b++(toB t++[13,10])):=by
 cases g:(toB t).reverse with
 |nil=>refine aa ((S8.mp g) ..) ?_;exact ⟨b',y,by refine aa (e ..) ?_;rfl,by refine bx (e ..) ?_;exact f,i⟩
 |cons x r=>
  have d:toB t=r.reverse++[x]:=by exact bx (List.reverse_reverse (toB t) ..) (aa (g ..) (aa (List.reverse_cons ..) TL))
  refine ⟨b++r.reverse,x,by refine aa (d ..) ?_;simp,?_,h.last _ _ d⟩;refine aa (Pi ..) (bx (d ..) ?_);exact f.app h.pc
theorem By (ht:Txt t):gB (.tuple [.str [103,111,32,111,110],.str t]) (.tuple [.str [103,111,32,111,110],.str t]) ([43,32]++(toB t++[13,10])):=by
 have b:(toB t).length<=80:=by refine aa (toB_len ..) ?_;exact ht.len
 have d:([43,32]++(toB t++[13,10])).length<=100:=by refine aa (g3 ..) (aa (g3 ..) ?_);exact bL (Pg b _) TL
 have e:fZ 1 (.tuple [.str [103,111,32,111,110],.str t])=TN:=TL;refine ⟨λn c a=>?_,λn c a=>(i12 _ (Ej n ht TL (O5 d (by decide))) ((hU e).2.up (by decide))),O5 d (by decide),ht.line (.of (by decide)) (b':=[43]) TL (by decide),(hU e).1.up (by decide)⟩;apply fn TL TL;refine aa ((TL:[43,32]++(toB t++[13,10])=[43,32]++toB t++[13,10]) ..) (sF (by kernel_rfl) (sT (by kernel_rfl) (ax (ai (ai TL (aw TL TL (ht.NA (n+26) c a)) (am (ah ?_))) TL (am (ah ?_))))))
 ·exact bL b TL
 ·refine aa (g3 ..) ?_;exact bR (Pe b _) TL
noncomputable section
noncomputable abbrev Sx:=List Nat×List Nat×List Nat
noncomputable def stH (x:Sx):List UInt8:=toB x.1++[32]++toB x.2.1++[32]
noncomputable def p0 (x:Sx) (cd:List UInt8) (t:List Nat):List UInt8:=stH x++cd++toB t++[13,10]
noncomputable def mZ (x:Sx) (cv:V) (t:List Nat):V:=.tuple [.str x.2.2,.str x.1,cv,.str t]
end
theorem pQ (n:Nat) (d:x∈mR) (cv:V) (t:List Nat) (b:Slot):aB (ag tab aE wm (n+28)) wm (.call (.lit (.ref 240)) (.cons (.bin .Add (.bin .Add (.bin .Add (.cw 0 1) (.lit (.str [32]))) (.call (.lit (.ref 230)) (.cons (.cw 0 0) .nil))) (.lit (.str [32]))) .nil)) TO ⟨[.v (mZ x cv t),b],Sg c a⟩=TK (.bytes (stH x),⟨[.v (mZ x cv t),b],Sg c a⟩)/\ aB (ag tab aE wm (n+29)) wm (.cmp .In (.call (.lit (.ref 230)) (.cons (.cw 0 0) .nil)) (.a4 (.lit (.str [79,75,32,78,79,32,66,65,68,32,66,89,69,32,80,82,69,65,85,84,72])) .split (.cons (.lit (.str [32])) .nil))) TN ⟨[.v (mZ x cv t)],Sg c a⟩=TK (.bool TN,⟨[.v (mZ x cv t)],Sg c a⟩)/\ (stH x).length<=20/\((stH x).all λc=>decide (c≠13))=TN/\(stH x).getLast?=TK 32/\(x.1=[42]\/x.1≠[42]):=by refine ac λe=>?_;obtain ⟨h,i⟩:=PB (dz (f:=λx:Sx=>(aB (ag tab aE wm (n+28)) wm (.call (.lit (.ref 240)) (.cons (.bin .Add (.bin .Add (.bin .Add (.cw 0 1) (.lit (.str [32]))) (.call (.lit (.ref 230)) (.cons (.cw 0 0) .nil))) (.lit (.str [32]))) .nil)) TO ⟨[.v (mZ x cv t),b],Sg c a⟩,aB (ag tab aE wm (n+29)) wm (.cmp .In (.call (.lit (.ref 230)) (.cons (.cw 0 0) .nil)) (.a4 (.lit (.str [79,75,32,78,79,32,66,65,68,32,66,89,69,32,80,82,69,65,85,84,72])) .split (.cons (.lit (.str [32])) .nil))) TN ⟨[.v (mZ x cv t)],Sg c a⟩)) (g:=λx=>(TK (.bytes (stH x),⟨[.v (mZ x cv t),b],Sg c a⟩),TK (.bool TN,⟨[.v (mZ x cv t)],Sg c a⟩))) (show mR.map _=mR.map _ by kernel_rfl) d);refine fE (TM (gj (p:=λx:Sx=>decide ((stH x).length<=20/\((stH x).all λc=>decide (c≠13))=TN/\(stH x).getLast?=TK 32)) (show mR.all _=TN by kernel_rfl) d)) λj k l=>e ?_;exact (K3 h i j k l (Decidable.em _))
inductive i3:V->V->V->List UInt8->Prop
 |none:i3 .none .none .none []
 |list {l:List f0}:l.length<=3->(∀x∈l,Wok 12 x.1 x.2.1 x.2.2 1820)->i3 (.list (l.map (·.1))) (.list (l.map (·.1))) (.tuple (l.map (·.2.1))) ([91]++aD [32] (l.map (·.2.2))++[93,32])
theorem i3.facts (h:i3 cv c d cd):cd.length<=5466/\Pc cd/\kH 14 c d/\mY 7 d/\aN c=TN:=by
 cases h with
 |none=>exact (BY (QF _) .nil ((bv 13 TL).2) ((bv 7 TL).1) TL)
 |@list l e a=>
  have f:=dk (sep:=[32]) (os:=l.map (·.2.2)) λo m=>by obtain ⟨x,b,rfl⟩:=PI.mp m;exact (a x b).len
  refine (BY ?_ (((Pc.of (by decide)).app (Pc.join (.of (by decide)) λo m=>by obtain ⟨x,b,rfl⟩:=PI.mp m;exact (a x b).pc)).app (.of (by decide))) ?_ ((mY.map λx m=>(a x m).jh).up (by decide)) (dc λx m=>(a x m).cv))
  ·refine aa (g3 ..) (aa (g3 ..) ?_);exact aJ [_,_] 0xd6bab344c00000088210d6b7b0421 (PH _ (bu e)) f
  ·exact (kH.lst (O5 e (by decide)) λx m=>λi g=>(a x m).t i g).up (by decide)
theorem mV {x:Sx} {t:List Nat} {cv j A:V} (r:x∈mR) (ht:Txt t) (B:i3 cv j A cd) (hr:∀(n:Nat) (c:List Int) (a:Nat) (d:List UInt8) (p:Nat) (l:List UInt8),At d p (32::(cd++toB t++13::l))->I (n+20) 778 [.ref 1,.str x.1,.str x.2.1] (Gw c a d p)=TK (mZ x j t,Gw c a d (p+1+(cd++toB t).length))):
  gB (mZ x cv t) (mZ x A t) (p0 x cd t):=by
 refine ac λH=>ou B.facts λz pc O P cl=>?_;have C:(toB t).length<=80:=by refine aa (toB_len ..) ?_;exact ht.len
 refine NF (pQ 0 (c:=[]) (a:=0) r cv t .u) λJ J s Q R hs=>H ?_;clear H;have D:(p0 x cd t).length<=6000:=by unfold p0;simp only [g3,O8,PD];exact bR (PL (PL s z) C) TL
 have q:aN (mZ x j t)=TN:=by show (TN&&(TN&&(aN j&&(TN&&TN))))=TN;refine aa (cl ..) ?_;rfl
 refine ⟨λn c a=>?_,λn c a=>(i12 (mZ x j t) ?_ ?_),O5 D (by decide),?_,?_⟩
 ·refine fE (pQ n (c:=c) (a:=a) r cv t (.v (.bytes cd))) λT U J=>?_;have key:I (n+29) 665 [mZ x cv t] (Sg c a)=TK (.bytes (stH x++cd++toB t),Sg c a):=by
   have i:aI (ag tab aE wm (n+28)) wm (.ite (.cmp .IsNot (.cw 0 2) (.lit (.none))) (.asg 1 (.bin .Add (.bin .Add (.lit (.bytes [91])) (.a4 (.lit (.bytes [32])) .join (.cons (.comp (.call (.lit (.ref 593)) (.cons (.var 2) .nil)) 1 (.cw 0 2) (.lit (.bool TN))) .nil))) (.lit (.bytes [93,32])))) .skip) ⟨[.v (mZ x cv t),.v (.bytes [])],Sg c a⟩=TK (.next,⟨[.v (mZ x cv t),.v (.bytes cd)],Sg c a⟩):=by
    cases B with
    |none=>exact pq TL TL
    |@list l L M=>
     have F:(aD [32] (Tx (λy:f0=>y.2.2) l)).length+3<=5466:=by
      have:([91]++aD [32] (Tx (λy:f0=>y.2.2) l)++[93,32]).length=(aD [32] (Tx (λy:f0=>y.2.2) l)).length+3:=by refine aa (g3 ..) (aa (g3 ..) ?_);exact eb [_] 0x7040d0b000
      refine bx (this ..) ?_;exact z
     refine aU (ez TL TL (is_list _).2 TL) TL (az (di (di TL (jH (sep:=[32]) (l:=l) (λy:f0=>y.1) (λy=>y.2.2) TL TL (O5 L (by decide)) (λy m=>bt TL TL ((NC (n+27) y.1 _).trans ((M y m).w (n+16) _ 0 (by decide))) TL) (ah (by exact bT (bl F) TL)) TL) (am (ah ?_)) TL) TL (am (ah ?_)) TL) TL)
     ·exact bL (bl F) TL
     ·refine aa (g3 ..) ?_;exact bR (Pe (bl F) _) TL
   apply fn TL TL;refine ae TL (ae i (ax (ai (ai T TL (am (ah ?_))) (aw TL TL (ht.NA (n+25) c a)) (am (ah ?_)))))
   ·exact bA s z TL
   ·refine aa (g3 ..) ?_;exact bA (PL s z) C TL
  apply fn TL TL;refine aa ((TL:p0 x cd t=stH x++cd++toB t++[13,10]) ..) (sT U (ax (ai (aw TL TL key) TL (am (ah ?_)))));refine aa (g3 ..) (aa (g3 ..) ?_);exact bR (PL (PL s z) C) TL
 ·refine PA hs (λh=>?_) λh=>?_
  ·refine t5 n (b:=toB x.2.1++(32::(cd++toB t))) ?_ (O5 D (by decide)) q λl o=>?_
   ·unfold p0 stH;refine aa (h ..) ?_;simp;rfl
   ·have o:At (p0 x cd t) 2 (toB x.2.1++(32::(cd++toB t++13::l))):=by refine bx ((by simp:toB x.2.1++(32::(cd++toB t))++13::l=toB x.2.1++(32::(cd++toB t++13::l))) ..) ?_;exact o
    have:=hr (n+8) c a _ _ l o.step;rw [h] at this;refine aa ((by refine aa (g3 ..) (aa (O8 ..) ?_);exact eb [_,_] 0x4c0b40003040081a0:2+(toB x.2.1++(32::(cd++toB t))).length=2+(toB x.2.1).length+1+(cd++toB t).length) ..) ?_;exact Br (n+4) r h o this
  ·refine HS n r h ?_ (O5 D (by decide)) q λl p o=>hr (n+9) c a _ p l o;unfold p0 stH;simp
 ·exact (kH.map (k:=14) (f:=λp:V×V=>p.1) (g:=λp=>p.2) (l:=[(.str x.2.2,.str x.2.2),(.str x.1,.str x.1),(j,A),(.str t,.str t)]) (show 4<=1000000 by decide) (all_cons (bv 13 TL).2 (all_cons (bv 13 TL).2 (all_cons O (all_cons (bv 13 TL).2 all_nil))))).up (by decide)
 ·have e:p0 x cd t=(stH x++cd)++(toB t++[13,10]):=by unfold p0;simp
  refine aa (e ..) ?_;have N:Pc (stH x):=.of Q;cases B with
  |none=>refine cR (Ql.mp R) λys W=>?_;exact ht.line (N.app pc) (b':=ys) (y:=32) (by refine aa (Pk ..) ?_;exact W) (by decide)
  |@list l L M=>exact ht.line (N.app pc) (b':=stH x++([91]++aD [32] (l.map (·.2.2))++[93])) (y:=32) (by simp) (by decide)
 ·exact (mY.l (k:=7) (all_cons (bv 7 TL).1 (all_cons (bv 7 TL).1 (all_cons P (all_cons (bv 7 TL).1 all_nil))))).up (by decide)
theorem xq {x:Sx} (b:x∈mR) (ht:Txt t):gB (mZ x .none t) (mZ x .none t) (p0 x [] t):=mV b ht .none λn c a d p l e=>Eg n b ht e
theorem Kp:ak 7=[55]:=by decide+kernel
theorem xr {ts:List (List Nat)} (b:x∈mR) (ht:Txt t) (h:∀t∈ts,nu t) (e:ts.length<=3):
  gB (mZ x (.list [.atom pZ,.list (ts.map .atom)]) t) (mZ x (.tuple [fW pZ,.tuple (ts.map fW)]) t) (p0 x ([91]++(toB pZ++[32]++aQ (ts.map toB))++[93,32]) t):=by
 have c:=i3.list (l:=[(.atom pZ,fW pZ,toB pZ),(.list (ts.map .atom),.tuple (ts.map fW),aQ (ts.map toB))]) (show 2<=3 by decide) (all_cons (((jI (t:=pZ) (by decide+kernel)).toWok.up (z':=200) (by decide) (Px _)).up (by decide) (by decide)) (all_cons ((oh h e).up (z':=1820) (by decide) (by decide)) all_nil));refine mV b ht c λn c a d p l f=>?_;rw [(by simp:[91]++(toB pZ++[32]++aQ (ts.map toB))++[93,32]++toB t++13::l=[91]++(toB pZ++32::(aQ (ts.map toB)++([93]++32::(toB t++13::l)))))] at f;have:=Eh n (c:=c) (a:=a) b ht h e f;have g:p+1+([91]++(toB pZ++[32]++aQ (ts.map toB))++[93,32]++toB t).length=p+(19+(aQ (ts.map toB)).length+(toB t).length):=by have:(toB pZ).length=14:=TL;simp only [g3,O8,PD,this];exact eb [_,_,_] 0xc419d8000806d13ec06000060400
 exact aa (g ..) this
theorem xw {y:f0} (b:x∈mR) (ht:Txt t) (g:Good 12 y.1 y.2.1 y.2.2 1820):gB (mZ x (.list [.atom ol,y.1,.int (7:Nat)]) t) (mZ x (.tuple [fW ol,y.2.1,.int (7:Nat)]) t) (p0 x ([91]++(toB ol++[32]++(y.2.2++[32]++ak 7))++[93,32]) t):=by
 have c:=i3.list (l:=[(.atom ol,fW ol,toB ol),y,(.int (7),.int (7),ak 7)]) (show 3<=3 by decide) (all_cons (((jI (t:=ol) (by decide+kernel)).toWok.up (z':=200) (by decide) (Px _)).up (by decide) (by decide)) (all_cons g.toWok (all_cons (((mJ (k:=7) (by decide)).toWok.up (z':=100) (by decide) (Px _)).up (by decide) (by decide)) all_nil)));refine mV b ht c λn c a d p l e=>?_;rw [(by simp:[91]++(toB ol++[32]++(y.2.2++[32]++ak 7))++[93,32]++toB t++13::l=[91]++(toB ol++32::(y.2.2++32::(ak 7++([93]++32::(toB t++13::l))))))] at e;have:=Ei n (c:=c) (a:=a) b ht g e;have f:p+1+([91]++(toB ol++[32]++(y.2.2++[32]++ak 7))++[93,32]++toB t).length=p+(14+y.2.2.length+(toB t).length):=by
  have:(toB ol).length=7:=TL;have:(ak 7).length=1:=by refine aa (Kp ..) ?_;rfl
  simp only [g3,O8,PD, *];exact eb [_,_,_] 0x313ac0004036b182002606000060400
 exact aa (f ..) this
section
variable {c:List Int} (hc:Cells c)
include hc
noncomputable def HV (ps:List (Nat×Nat)):Pr:=⟨[65,76,76],.tuple (ps.map gk),iw ps⟩
noncomputable def HW (k:Nat):Pr:=⟨[67,79,85,78,84],.int k,cq k⟩
omit hc in
theorem HX (h:gz ps):fX (HV ps)/\(HV ps).w[0]?≠TK 85:=⟨⟨TL,⟨show 0<3 by decide,show 3<=20 by decide⟩,.inr (FL ps h TL TL TL)⟩,λe=>by cases e⟩
omit hc in
theorem HY (h:k<10000000000):fX (HW k)/\(HW k).w[0]?≠TK 85:=⟨⟨TL,⟨show 0<5 by decide,show 5<=20 by decide⟩,.inl (FL k h TL TL (λe=>by cases e))⟩,λe=>by cases e⟩
theorem En (n:Nat):∀(items:List V) (acc:List V) (b:List UInt8) (a:Nat) (x3 x4 x5 x6:Slot),acc.length+items.length<=1000->b.length+200*items.length<=10000->∃(ps:List Pr) (d:Nat) (e f g h:Slot),ps.length=items.length/\(∀x∈ps,fX x/\x.w[0]?≠TK 85)/\ iT (λst=>aI (ag tab aE wm (n+4)) wm (.ite (.cmp .Eq (.call (.lit (.ref 835)) (.cons (.var 0) (.cons (.lit (.int 3)) .nil))) (.lit (.int 0))) (.seq (.ly [4,5] (.call (.lit (.ref 857)) (.cons (.var 0) .nil))) (.seq (.app 1 (.tup (.cons (.lit (.str [65,76,76])) (.cons (.var 4) .nil)))) (.asg 2 (.bin .Add (.bin .Add (.var 2) (.lit (.bytes [32,65,76,76,32]))) (.var 5))))) (.seq (.asg 6 (.call (.lit (.ref 835)) (.cons (.var 0) (.cons (.bin .Pow (.lit (.int 10)) (.lit (.int 9))) .nil)))) (.seq (.app 1 (.tup (.cons (.lit (.str [67,79,85,78,84])) (.cons (.var 6) .nil)))) (.asg 2 (.bin .Add (.bin .Add (.var 2) (.lit (.bytes [32,67,79,85,78,84,32]))) (.a4 (.call (.lit (.ty .str)) (.cons (.var 6) .nil)) .encode (.cons (.lit (.str [97,115,99,105,105])) .nil))))))) st) [3] items ⟨[.v (.ref 2),.ml acc,.v (.bytes b),x3,x4,x5,x6],Sg c a⟩=TK (.next,⟨[.v (.ref 2),.ml (acc++ps.map gA),.v (.bytes (b++fN ps)),e,f,g,h],Sg c d⟩):=by
 intro F;induction F with
 |nil=>intro acc b a x3 x4 x5 x6 J L;exact (Iu [] a x3 x4 x5 x6 TL (λ_ m=>(nomatch m)) (by refine aa (Qs ..) (aa (Pk ..) (aa (show fN []=[] from TL) (aa (Pk ..) ?_)));rfl))
 |cons v r u=>
  intro acc b a x3 x4 x5 x6 i ho;rw [O8] at i ho;refine aT (draw hc (n+3) a (k:=3) (by decide)) λj M y=>?_;have z:acc.length<av:=Pb (show acc.length<=1000 by exact bl i) (by decide);by_cases A:j=0
  ·subst A;refine ac λB=>kJ (vh hc n (a+1)) λss a1 hs es=>?_;have C:=mN hs;refine Ir (u (acc++[gA (HV ss)]) (b++[32,65,76,76,32]++dO ss) a1 (.v v) (.v (.tuple (ss.map gk))) (.v (.bytes (dO ss))) x6 (by refine aa (g3 ..) ?_;exact s1 i) (by simp only [g3,O8,PD];exact aJ [_,_,_] 0x2bc616133151c020000006586108af1859820331508021 ho C)) λps d e f g h l o q=>?_;refine B ?_;clear B;refine (Iu (HV ss::ps) d e f g h (by exact aa (O8 ..) (aa (O8 ..) (aa (l ..) TL))) (all_cons (HX hs) o) ?_);have s:b++fN (HV ss::ps)=b++[32,65,76,76,32]++dO ss++fN ps:=by simp;rfl
   refine aa ((by simp:acc++(HV ss::ps).map gA=acc++[gA (HV ss)]++ps.map gA) ..) (aa (s ..) ?_);refine fL TL ?_ q;refine aU (aG (aw TL TL y) TL TL) TL (ae (fK (aw TL TL es) TL) (ae (cY (xs:=acc) TL TL TL z TL) (az (ai (ai TL TL (am (ah ?_))) TL (am (ah ?_))) TL)))
   ·show _+5<=_;exact bR (bl ho) TL
   ·refine aa (g3 ..) ?_;show _+5+_<=_;exact bA (Pg (bl ho) _) C TL
  ·refine aT (draw hc (n+3) (a+1) (k:=1000000000) (by decide)) λk t H=>?_;have D:=dV (j:=8) t;refine Ir (u (acc++[gA (HW k)]) (b++[32,67,79,85,78,84,32]++ak k) (a+1+1) (.v v) x4 x5 (.v (.int k)) (by refine aa (g3 ..) ?_;exact s1 i) (by simp only [g3,O8,PD];exact aJ [_,_,_] 0x15e30b0998a8e41000000506108af1859820331508021 ho D)) λps d e f g h l o q=>?_;refine (Iu (HW k::ps) d e f g h (by exact aa (O8 ..) (aa (O8 ..) (aa (l ..) TL))) (all_cons (HY (by exact bU t TL)) o) ?_);have s:b++fN (HW k::ps)=b++[32,67,79,85,78,84,32]++ak k++fN ps:=by simp;rfl
   refine aa ((by simp:acc++(HW k::ps).map gA=acc++[gA (HW k)]++ps.map gA) ..) (aa (s ..) ?_);refine fL TL ?_ q;refine aA (aG (aw TL TL y) TL TL) (TR (by exact n0 A:¬((j:Int)=0))) (ae (az (aw TL (au TL (aF (ai TL TL (by kernel_rfl:gE .Pow (.int 10) (.int 9)=TK (.int (1000000000:Nat)))))) H) TL) (ae (cY (xs:=acc) TL TL TL z TL) (az (ai (ai TL TL (am (ah ?_))) (bn (b0 TL (eX (by exact bU t TL))) TL TL (im k)) (am (ah ?_))) TL)))
   ·show _+7<=_;exact bR (bl ho) TL
   ·refine aa (g3 ..) ?_;show _+7+_<=_;exact bA (Pg (bl ho) _) D TL
theorem xx (n a:Nat):∃(ps:List Pr) (e:Nat),ps.length<=3/\(∀x∈ps,fX x/\x.w[0]?≠TK 85)/\I (n+5) 864 [.ref 2] (Sg c a)=TK (.tuple [.tuple (ps.map gA),.bytes (fN ps)],Sg c e):=by
 refine ac λg=>aT (draw hc (n+3) a (k:=3) (by decide)) λk d h=>?_;have b:(((PN k).map λ(i:Nat)=>(i:Int)).map V.int).length=k:=by exact aa (Pd ..) (aa (Pd ..) (aa (QH ..) TL))
 refine Ir (En hc n (((PN k).map λ(i:Nat)=>(i:Int)).map V.int) [] [] (a+1) .u .u .u .u (by refine aa (b ..) ?_;exact bL (Pw d) TL) (by refine aa (b ..) ?_;exact bL (Q1 _ (Pw d)) TL)) λps e m o q r f j l=>?_;refine g ?_;rw [b] at f;refine (gF ps e (bT (O5 (O9 f) (Pw d)) TL) j ?_);apply iF TL TL;exact ae TL (ae TL (ae (jB (b0 (aF (aw TL TL h)) (dU (O5 (Pw d) (by decide)))) TL l) TL))
end
noncomputable section
noncomputable def Drawn (c:List Int) (r:Option (V×FG)):Prop:=∃(b a:V) (o:List UInt8) (d:Nat),r=TK (.tuple [b,a,.bytes o],Sg c d)/\gB b a o
noncomputable def OH:S:=bd (bd gh)
end
theorem om (a:List Nat):toB (aD [] (a.map λk=>32::cq k))=aO (a.map ak):=by
 refine aa (i1 ..) ?_;induction a with
 |nil=>rfl
 |cons k r b=>unfold toB at b⊢;refine aa (Qk ..) (aa (b ..) ?_);rfl
section
variable {c:List Int} (hc:Cells c)
include hc
theorem xz (n a i:Nat) (Z:i<5):Drawn c (I (n+6) 890 [.ref 2,.int i] (Sg c a)):=by
 refine ac λC=>aT (draw hc (n+4) a (k:=4) (by decide)) λm hm em=>?_;obtain ⟨f,a1,h1,A,h3⟩:=il (c:=c) (R:=ag tab aE wm (n+5)) (e:=.bin .Add (.lit (.int 1)) (.call (.lit (.ref 835)) (.cons (.var 0) (.cons (.lit (.int 50)) .nil)))) (it:=.call (.lit (.ty .range)) (.cons (.call (.lit (.ref 835)) (.cons (.var 0) (.cons (.lit (.int 4)) .nil))) .nil))
  (ρ:=[.v (.ref 2),.v (.int i),.u,.u,.u,.u,.u,.u,.u,.u,.u,.u,.u,.u,.u]) (k:=m) (a:=a) (a1:=a+1) (λ(k:Nat)=>V.int k) (λk=>k<100) (by exact bW hm TL) (kF (au (bt TL TL em TL) TL) (dU (O5 (Pw hm) (by decide))) TL) λv a=>by exact aT (draw hc (n+4) a (k:=50) (by decide)) λj hj ej=>(dC (1+j) (a+1) (di TL (bt TL TL ej TL) TL TL) (by exact bV (Pe (Pw hj) _) TL))
 refine C ?_;clear C;have D:f.length<=3:=by exact aJ [_,_] 0x1c200022085ec08021 hm (O9 h1)
 have s:=(jM A D).1;have jl:(aD [] (f.map λk=>32::cq k)).length<=9:=by refine bx (toB_len ..) (aa (om ..) ?_);exact s
 have ja:(aD [] (f.map λk=>32::cq k)).all (· <128)=TN:=Pa.mpr λx F=>TS (hG (P:=(· <128)) (by simp) (λt mt x F=>by
  refine mM mt λk hk d=>?_;subst d;refine PA (Pf.mp F) (λd=>?_) λF=>?_
  ·subst d;decide
  ·exact Pb (dB k x F).2 (by decide)) x F)
 have o:∀{v:V} {ρ:List Slot} {g:FG},aI (ag tab aE wm (n+5)) wm OH ⟨[.v (.ref 2),.v (.int i),.v (.tuple (f.map λ(k:Nat)=>.int k)),.v (.bytes (aO (f.map ak))),.u,.u,.u,.u,.u,.u,.u,.u,.u,.u,.u],Sg c a1⟩=TK (.ret v,⟨ρ,g⟩)-> aI (ag tab aE wm (n+5)) wm gh ⟨bQ ([.ref 2,.int i]++[]) 13,Sg c a⟩=TK (.ret v,⟨ρ,g⟩):=λh=>by refine ae (az (st2:=⟨[.v (.ref 2),.v (.int i),.v (.tuple (f.map λ(k:Nat)=>.int k)),.u,.u,.u,.u,.u,.u,.u,.u,.u,.u,.u,.u],Sg c a1⟩) (b0 (aF h3) TL) TL) (ae (az (v:=.bytes (aO (f.map ak))) (st1:=⟨[.v (.ref 2),.v (.int i),.v (.tuple (f.map λ(k:Nat)=>.int k)),.u,.u,.u,.u,.u,.u,.u,.u,.u,.u,.u,.u],Sg c a1⟩) (nZ (hE (sep:=[]) (l:=f) (λ(k:Nat)=>.int k) (λk=>32::cq k) TL TL (O5 D (by decide)) (λk m=>ai TL (b0 TL (eX (Qa (A k m) (by decide)))) (iX (ah ?_))) (O5 (Pg jl 0) (by decide)) TL) TL TL (gx ja) (by refine bx (om ..) ?_;rfl)) TL) h);have:=bH (j:=1) (A k m);show 1+_<=_;exact bL this TL
 have J:∀b:List UInt8,hV b=[42,32]++b++[13,10]:=λb=>rfl;refine K7 (NY Z) (λd=>?_) (λd=>?_) (λd=>?_) (λd=>?_) λd=>?_
 ·subst d;refine aT (draw hc (n+4) a1 (k:=3) (by decide)) λr hr er=>?_;have hm:aB (ag tab aE wm (n+5)) wm (.bin .Mult (.call (.lit (.ref 835)) (.cons (.var 0) (.cons (.lit (.int 3)) .nil))) (.bin .Pow (.lit (.int 10)) (.lit (.int 17)))) TO ⟨[.v (.ref 2),.v (.int (0:Nat)),.v (.tuple (f.map λ(k:Nat)=>.int k)),.v (.bytes (aO (f.map ak))),.u,.u,.u,.u,.u,.u,.u,.u,.u,.u,.u],Sg c a1⟩=TK (.int (r*100000000000000000:Nat),⟨[.v (.ref 2),.v (.int (0:Nat)),.v (.tuple (f.map λ(k:Nat)=>.int k)),.v (.bytes (aO (f.map ak))),.u,.u,.u,.u,.u,.u,.u,.u,.u,.u,.u],Sg c (a1+1)⟩):=di (aw TL TL er) (ai TL TL (by kernel_rfl:gE .Pow (.int 10) (.int 17)=TK (.int (100000000000000000:Nat)))) (tQ (by kernel_rfl)) (by refine aa (Int.natCast_mul ..) ?_;rfl);by_cases h0:r=0
  ·subst h0;refine (kK _ _ _ (a1+1) ?_ (sa A D));apply iF TL TL;refine aa ((by refine aa (Pk ..) ?_;rfl:hV (toB [83,69,65,82,67,72]++aO (f.map ak))=[42,32,83,69,65,82,67,72]++aO (f.map ak)++[]++[13,10]) ..) ?_;refine o (aS (cC TL (ae (az hm TL) (ae (az (v:=.bytes []) TL TL) (ae TL (ax (aX (au TL (au TL (aF (ai (ai (ai TL TL (am (ah ?_))) TL (am (ah ?_))) TL (am (ah ?_)))))))))))))
   ·show 8+_<=_;exact bL s TL
   ·refine aa (g3 ..) ?_;show 8+_+0<=_;exact bR (Pe s _) TL
   ·refine aa (g3 ..) (aa (g3 ..) ?_);show 8+_+0+2<=_;exact bR (Pg (Pe s _) _) TL
  ·have H:0<r*100000000000000000:=by lia
   have z:r*100000000000000000<10000000000000000000:=by exact bV (PH _ (Pw hr)) TL
   have L:(ak (r*100000000000000000)).length<=19:=dV (j:=18) z;refine (kK _ _ _ (a1+1) ?_ (sd H z A D));apply iF TL TL;refine aa (J ..) (o (aS (cC TL (ae (az hm TL) (ae (az (v:=.bytes ([32,40,77,79,68,83,69,81,32]++ak (r*100000000000000000)++[41])) (b1 TL (TS (by exact n1 H:(0:Int)<(r*100000000000000000:Nat))) (ai (ai TL (bn (b0 TL (eX (by exact aJ [_] 0x769d799d7795efb5084210b30200011ae5e5385319f6210842cc08021 z))) TL TL (im _)) (am (ah ?_))) TL (am (ah ?_)))) TL) (ae TL (ax (aX (au TL (au TL (aF (ai (ai (ai TL TL (am (ah ?_))) TL (am (ah ?_))) TL (am (ah ?_))))))))))))))
   ·show 9+_<=_;exact bL L TL
   ·refine aa (g3 ..) ?_;show 9+_+1<=_;exact bR (Pe L _) TL
   ·show 8+_<=_;exact bL s TL
   ·simp only [g3,O8,PD];exact bA (Pe s _) (Pg (Pe L _) _) TL
   ·simp only [g3,O8,PD];exact bR (PL (Pe s _) (Pg (Pe L _) _)) TL
 ·subst d;refine (kK _ _ _ a1 ?_ (Bw A D));apply iF TL TL;refine aa (J ..) (o (ae TL (aS (cC TL (ax (aX (au TL (au TL (aF (ai (ai TL TL (am (ah ?_))) TL (am (ah ?_))))))))))))
  ·show 6+_<=_;exact bL s TL
  ·refine aa (g3 ..) ?_;show 6+_+2<=_;exact bR (Pe s _) TL
 ·subst d;refine bB (xx hc n a1) λps B W N ep=>ac λC=>aT (e0 hc (n+3) B (xs:=[.str [],.str [97,49]]) (by decide)) λx w ex=>aT (draw hc (n+4) (B+1) (k:=2) (by decide)) λu hu O=>?_;have X:=vv (λx m=>(N x m).1) W;obtain ⟨tg,rfl⟩:∃tg,x=.str (i2 tg):=by
   simp only [Pf,Pn,or_false] at w;refine PA w (λd=>?_) λd=>?_
   ·subst d;exact ⟨TO,TL⟩
   ·subst d;exact ⟨TN,TL⟩
  refine C ?_;clear C;have M:(fY tg).length<=11:=by cases tg<;>decide
  refine (kK _ _ _ (B+1+1) ?_ (se (tg:=tg) (ui:=decide ((u:Int)=1)) (λx m=>(N x m).1) (λx m=>(N x m).2) W));have Q:(gn (decide ((u:Int)=1))).length<=4:=by cases decide ((u:Int)=1)<;>decide
  have eh:∀(ρ:List Slot) (g:FG),ρ[9]?=TK (.v (.str (i2 tg)))->aB (ag tab aE wm (n+5)) wm (.ite (.cmp .NotEq (.var 9) (.lit (.str []))) (.lit (.bytes [32,40,84,65,71,32,34,97,49,34,41])) (.lit (.bytes []))) TO ⟨ρ,g⟩=TK (.bytes (fY tg),⟨ρ,g⟩):=λρ g h=>by
   have y:aB (ag tab aE wm (n+5)) wm (.var 9) TO ⟨ρ,g⟩=TK (.str (i2 tg),⟨ρ,g⟩):=by show (match ρ[9]? with|some (.v v)=>ba TO v ⟨ρ,g⟩|some (.ml xs)=>_|some (.mb bs)=>_|_=>TW)=_;refine aa (h ..) ?_;rfl
   cases tg
   ·exact dy (aG y TL TL) TL TL
   ·exact b1 (aG y TL TL) TL (by kernel_rfl)
  have T:∀(ρ:List Slot) (g:FG) (b:Bool),ρ[10]?=TK (.v (.bool b))->aB (ag tab aE wm (n+5)) wm (.ite (.var 10) (.lit (.bytes [32,85,73,68])) (.lit (.bytes []))) TO ⟨ρ,g⟩=TK (.bytes (gn b),⟨ρ,g⟩):=λρ g b h=>by
   have y:aB (ag tab aE wm (n+5)) wm (.var 10) TN ⟨ρ,g⟩=TK (.bool b,⟨ρ,g⟩):=by show (match ρ[10]? with|some (.v v)=>ba TN v ⟨ρ,g⟩|some (.ml xs)=>_|some (.mb bs)=>_|_=>TW)=_;refine aa (h ..) ?_;rfl
   cases b
   ·exact po y TL
   ·exact tL y TL
  apply iF TL TL;refine aa (J ..) (o (ae TL (ae TL (aS (cC TL (ae (fK (aw TL TL ep) TL) (ae (az (aw TL TL ex) TL) (ae (az (iW (aw TL TL O) TL TL) TL) (ae TL (ae (az (eh _ _ TL) TL) (ax (aX (au TL (au TL (aF (ai (ai (ai (ai TL TL (am (ah ?_))) (T _ _ _ TL) (am (ah ?_))) TL (am (ah ?_))) TL (am (ah ?_))))))))))))))))))
  ·show 9+_<=_;exact bL M TL
  ·refine aa (g3 ..) ?_;show 9+_+_<=_;exact bA (Pe M _) Q TL
  ·refine aa (g3 ..) (aa (g3 ..) ?_);show 9+_+_+_<=_;exact bA (PL (Pe M _) Q) X TL
  ·refine aa (g3 ..) (aa (g3 ..) (aa (g3 ..) ?_));show 9+_+_+_+2<=_;exact bR (PL (PL (Pe M _) Q) X) TL
 ·subst d;refine aT (e0 hc (n+3) a1 (xs:=[.bytes [],.bytes [40,50,41,40,51,32,54,32,40,52,32,50,51,41,40,52,52,32,55,41,41]]) (by decide)) λx w ex=>?_;have fin:∀q,x=.bytes q->aI (ag tab aE wm (n+5)) wm gh ⟨bQ ([.ref 2,.int (3:Nat)]++[]) 13,Sg c a⟩=TK (.ret (.tuple [.tuple [.str [116,104,114,101,97,100],.bytes q],.tuple [.str [116,104,114,101,97,100],.bytes q],.bytes (hV (toB [84,72,82,69,65,68]++if q=[] then [] else [32]++q))]),⟨[.v (.ref 2),.v (.int (3:Nat)),.v (.tuple (f.map λ(k:Nat)=>.int k)),.v (.bytes (aO (f.map ak))),.u,.u,.u,.u,.u,.u,.u,.u,.v (.bytes q),.u,.u],Sg c (a1+1)⟩):=λq hq=>by
   subst hq;refine o (ae TL (ae TL (ae TL (aS (cC TL (ae (az (st2:=⟨[.v (.ref 2),.v (.int (3:Nat)),.v (.tuple (f.map λ(k:Nat)=>.int k)),.v (.bytes (aO (f.map ak))),.u,.u,.u,.u,.u,.u,.u,.u,.v (.bytes q),.u,.u],Sg c (a1+1)⟩) (aw TL TL ex) TL) ?_))))));refine PA (Pf.mp w) (λe=>?_) λw=>?_
   ·obtain rfl:=le (TQ cM e);kernel_rfl
   ·obtain rfl:=le (TQ cM (Pv.mp w));kernel_rfl
  refine PA (Pf.mp w) (λd=>?_) λw=>?_
  ·subst d;refine (kK _ _ _ (a1+1) ?_ sh);apply iF TL TL;exact fin [] TL
  ·obtain rfl:=Pv.mp w;refine (kK _ _ _ (a1+1) ?_ si);apply iF TL TL;exact fin _ TL
 ·subst d;refine kJ (vh hc (n+1) a1) λss B hs es=>aT (draw hc (n+4) B (k:=2) (by decide)) λu hu O=>?_;have Y:=mN hs;refine (kK _ _ _ (B+1) ?_ (pP (ea:=decide ((u:Int)=1)) hs));have U:(hR (decide ((u:Int)=1))).length<=10:=by cases decide ((u:Int)=1)<;>decide
  have T:∀(ρ:List Slot) (g:FG) (b:Bool),ρ[14]?=TK (.v (.bool b))->aB (ag tab aE wm (n+5)) wm (.ite (.var 14) (.lit (.bytes [40,69,65,82,76,73,69,82,41,32])) (.lit (.bytes []))) TO ⟨ρ,g⟩=TK (.bytes (hR b),⟨ρ,g⟩):=λρ g b h=>by
   have y:aB (ag tab aE wm (n+5)) wm (.var 14) TN ⟨ρ,g⟩=TK (.bool b,⟨ρ,g⟩):=by show (match ρ[14]? with|some (.v v)=>ba TN v ⟨ρ,g⟩|some (.ml xs)=>_|some (.mb bs)=>_|_=>TW)=_;refine aa (h ..) ?_;rfl
   cases b
   ·exact po y TL
   ·exact tL y TL
  apply iF TL TL;refine aa (J ..) (o (ae TL (ae TL (ae TL (ae TL (ae (fK (aw TL TL es) TL) (ae (az (iW (aw TL TL O) TL TL) TL) (ae TL (ax (aX (au TL (au TL (aF (ai (ai (ai TL (T _ _ _ TL) (am (ah ?_))) TL (am (ah ?_))) TL (am (ah ?_))))))))))))))))
  ·show 11+_<=_;exact bL U TL
  ·refine aa (g3 ..) ?_;show 11+_+_<=_;exact bA (Pe U _) Y TL
  ·refine aa (g3 ..) (aa (g3 ..) ?_);show 11+_+_+2<=_;exact bR (PL (Pe U _) Y) TL
end
section
variable {c:List Int} (hc:Cells c)
omit hc in
theorem OI {k:Nat}:aD [32] ([(⟨[77,69,83,83,65,71,69,83],.int (3:Nat),cq 3⟩:Pr),⟨[85,73,68,78,69,88,84],.int k,cq k⟩].map fO)=[77,69,83,83,65,71,69,83,32,51,32,85,73,68,78,69,88,84,32]++ak k:=by kernel_rfl
omit hc in
theorem FD {v:V} (h:v∈dl.map λx=>V.tuple [.str x.1,.bytes x.2.o]):∃x∈dl,v=.tuple [.str x.1,.bytes x.2.o]:=by refine mM h λx b a=>?_;subst a;exact (i12 x b TL)
omit hc in
theorem vx (n a:Nat):I (n+1) 825 [] (Sg c a)=TK (.tuple (dl.map λx=>.tuple [.str x.1,.bytes x.2.o]),Sg c a):=by kernel_rfl
include hc
theorem xA (n a d:Nat) (P:d<4):Drawn c (I (n+6) 885 [.ref 2,.int d] (Sg c a)):=by
 refine ac λi=>bB (j2 hc (n+1) a) λts a1 F l H=>aM (k7 l F) λq M=>i ?_;clear i;have D:∀b:List UInt8,hV b=[42,32]++b++[13,10]:=λb=>rfl;have z:d=0\/(d=1\/d=2)\/d=3:=NX P;rcases z with rfl|MO|rfl
 ·refine (kK _ _ _ a1 ?_ (xn l F));apply iF TL TL;refine aa (D ..) (ae (az (aw TL TL H) TL) (aS (cC TL (ax (aX (au TL (au TL (aF (ai (ai TL TL (am (ah ?_))) TL (am (ah ?_)))))))))))
  ·show 8+_<=_;exact bL q TL
  ·refine aa (g3 ..) ?_;show 8+_+2<=_;exact bR (Pe q _) TL
 ·refine aT (e0 hc (n+3) a1 (xs:=dl.map λx=>V.tuple [.str x.1,.bytes x.2.o]) (by decide)) λv s ev=>ac λi=>aT (FD s) λx t m=>?_;subst m;refine aM (k8 t) λM fz=>?_;obtain ⟨W,w,o,A⟩:∃W w,((W=[76,73,83,84]/\w=[108,105,115,116])\/(W=[76,83,85,66]/\w=[108,115,117,98]))/\([V.str [108,105,115,116],V.str [108,115,117,98]][d-1]?=some (.str w)):=by
   rcases MO with rfl|rfl
   ·exact (dC _ _ (.inl ⟨TL,TL⟩) TL)
   ·exact (dC _ _ (.inr ⟨TL,TL⟩) TL)
  refine i ?_;clear i;refine (kK _ _ _ (a1+1) ?_ (Bu o l F t));have B:l8 (.tuple [.str [108,105,115,116],.str [108,115,117,98]]) (.int ((d:Int)-1)) (Sg c (a1+1))=TK (.str w):=by exact aa (show (d:Int)-1=((d-1:Nat):Int) by lia) (AQ A)
  have J:∀(ρ:List Slot),ρ[5]?=TK (.v (.str w))->aB (ag tab aE wm (n+5)) wm (.a4 (.a4 (.var 5) .upper .nil) .encode (.cons (.lit (.str [97,115,99,105,105])) .nil)) TO ⟨ρ,Sg c (a1+1)⟩=TK (.bytes (toB W),⟨ρ,Sg c (a1+1)⟩):=λρ h=>by
   have s:aB (ag tab aE wm (n+5)) wm (.var 5) TO ⟨ρ,Sg c (a1+1)⟩=TK (.str w,⟨ρ,Sg c (a1+1)⟩):=by show (match ρ[5]? with|some (.v v)=>ba TO v ⟨ρ,Sg c (a1+1)⟩|some (.ml xs)=>_|some (.mb bs)=>_|_=>TW)=_;refine aa (h ..) ?_;rfl
   rcases o with ⟨rfl,rfl⟩|⟨rfl,rfl⟩
   ·exact bn (bn (r:=.str [76,73,83,84]) s TL TL (by kernel_rfl)) TL TL (by kernel_rfl)
   ·exact bn (bn (r:=.str [76,83,85,66]) s TL TL (by kernel_rfl)) TL TL (by kernel_rfl)
  refine aa ((by refine aa (D ..) ?_;simp:hV (toB W++[32]++aQ (ts.map toB)++[32,34,47,34,32]++x.2.o)=[42,32]++toB W++[32]++aQ (ts.map toB)++[32,34,47,34,32]++x.2.o++[13,10]) ..) ?_;apply iF TL TL;refine ae (az (aw TL TL H) TL) (ae (aA TL (TR (by rcases MO with rfl|rfl<;>decide:¬((d:Int)=0))) TL) (ae (fK (aw TL (au TL (aF (aw TL TL (vx (n+4) a1)))) ev) TL) (aS (aU TL (TS (by rcases MO with rfl|rfl<;>decide:(d:Int)<3)) (ae (az (bp TL TL B) TL) (ae TL (ax (aX (au TL (au TL (aF (ai (ai (ai (ai (ai (ai TL (J _ TL) (am (ah ?_))) TL (am (ah ?_))) TL (am (ah ?_))) TL (am (ah ?_))) TL (am (ah ?_))) TL (am (ah ?_))))))))))))));all_goals (simp only [g3,O8,PD,(by rcases o with ⟨rfl,-⟩|⟨rfl,-⟩<;>rfl:(toB W).length=4)];(first|exact aJ [] 0x387690b4400|exact aJ [] 0x387690b4800|exact aJ [_] 0x387690b0640001f5b0421 q|exact aJ [_] 0xe1da42d00c800001f5b0421 q|exact aJ [_,_] 0xe1da42c28064000000352c2085f5b0421 q fz|exact aJ [_,_] 0x387690b34500c80000000352c2085f5b0421 q fz))
 ·refine aT (e0 hc (n+3) a1 (xs:=dl.map λx=>V.tuple [.str x.1,.bytes x.2.o]) (by decide)) λv s ev=>ac λi=>aT (FD s) λx t m=>?_;subst m;refine aM (k8 t) λM fz=>aT (draw hc (n+4) (a1+1) (k:=4294967296) (by decide)) λk N Q=>i ?_;clear i;have L:(ak k).length<=10:=dV (j:=9) (by lia);have f:gE .Mod (.int k) (.int 2)=TK (.int ((k %2:Nat):Int)):=by exact aa (Ba (by decide) ..) (aa (show (k:Int).fmod 2=((k %2:Nat):Int) from by refine aa (Sq _ (by decide) ..) ?_;rfl) TL)
  have C:∀{w:Fl×a7},aI (ag tab aE wm (n+5)) wm (bd (bd (bd (bd (bd jz))))) ⟨[.v (.ref 2),.v (.int (3:Nat)),.v (og ts),.v (.str x.1),.v (.bytes x.2.o),.u,.u,.v (.int k),.u],Sg c (a1+1+1)⟩=TK w->aI (ag tab aE wm (n+5)) wm jz ⟨bQ ([.ref 2,.int (3:Nat)]++[]) 7,Sg c a⟩=TK w:=λh=>ae (az (aw TL TL H) TL) (ae TL (ae (fK (aw TL (au TL (aF (aw TL TL (vx (n+4) a1)))) ev) TL) (ae TL (ae (az (st2:=⟨[.v (.ref 2),.v (.int (3:Nat)),.v (og ts),.v (.str x.1),.v (.bytes x.2.o),.u,.u,.v (.int k),.u],Sg c (a1+1+1)⟩) (aw TL (au TL (aF (ai TL TL (by kernel_rfl:gE .Pow (.int 2) (.int 32)=TK (.int (4294967296:Nat)))))) Q) TL) h))));by_cases O:k %2=0
  ·have g:((k %2:Nat):Int)=0:=by exact S7.mpr (PJ (aJ [_] 0x5840058421 (O9 O)) (aJ [_] 0xac00))
   have ok:∀y∈[(⟨[77,69,83,83,65,71,69,83],.int (3:Nat),cq 3⟩:Pr),⟨[85,73,68,78,69,88,84],.int k,cq k⟩],fX y:=all_cons ⟨TL,⟨show 0<8 by decide,show 8<=20 by decide⟩,.inl (FL 3 (by decide) TL TL (λe=>by cases e))⟩ (all_cons ⟨TL,⟨show 0<7 by decide,show 7<=20 by decide⟩,.inl (FL k (by exact bU N TL) TL TL (λe=>by cases e))⟩ all_nil);have an:=mU ok (show 2<=3 by decide) t;rw [OI] at an;refine (kK _ _ _ (a1+1+1) ?_ an);refine aa ((by refine aa (D ..) ?_;simp:hV ([83,84,65,84,85,83,32]++x.2.o++[32,40]++([77,69,83,83,65,71,69,83,32,51,32,85,73,68,78,69,88,84,32]++ak k)++[41])=[42,32,83,84,65,84,85,83,32]++x.2.o++[32,40]++([77,69,83,83,65,71,69,83,32,51,32,85,73,68,78,69,88,84,32]++ak k)++[41,13,10]) ..) ?_;apply iF TL TL;refine C (ae (az (aX (au TL (au TL (aF (b1 (aG (ai TL TL f) TL TL) (TS g) TL))))) TL) (ae (az (b1 (aG (ai TL TL f) TL TL) (TS g) (ai TL (bn (b0 TL (eX (by exact bU N TL))) TL TL (im k)) (am (ah ?_)))) TL) (ax (aX (au TL (au TL (aF (ai (ai (ai (ai TL TL (am (ah ?_))) TL (am (ah ?_))) TL (am (ah ?_))) TL (am (ah ?_))))))))));all_goals (simp only [g3,O8,PD];(first|exact aJ [_] 0x70ed216086760000ab0421 L|exact aJ [_] 0x387690b0680000d4b0421 fz|exact aJ [_] 0xe1da42cd0d000000d4b0421 fz|exact aJ [_,_] 0x70ed21610676034340000002ac2084d4b0421 fz L|exact aJ [_,_] 0x1c3b4859c20cec0686800000002ac2084d4b0421 fz L))
  ·have g:¬(((k %2:Nat):Int)=0):=by exact n0 O
   refine (kK _ _ _ (a1+1+1) ?_ (mU (ps:=[]) all_nil (by decide) t));refine aa ((by refine aa (D ..) ?_;show [42,32]++([83,84,65,84,85,83,32]++x.2.o++[32,40]++[]++[41])++[13,10]=_;simp:hV ([83,84,65,84,85,83,32]++x.2.o++[32,40]++aD [32] (([]:List Pr).map fO)++[41])=[42,32,83,84,65,84,85,83,32]++x.2.o++[32,40]++[]++[41,13,10]) ..) ?_;apply iF TL TL;refine C (ae (az (aX (au TL (au TL (aF (dy (aG (ai TL TL f) TL TL) (TR g) TL))))) TL) (ae (az (dy (aG (ai TL TL f) TL TL) (TR g) TL) TL) (ax (aX (au TL (au TL (aF (ai (ai (ai (ai TL TL (am (ah ?_))) TL (am (ah ?_))) TL (am (ah ?_))) TL (am (ah ?_))))))))));all_goals (simp only [g3,O8,PD];(first|exact aJ [_] 0x387690b0680000d4b0421 fz|exact aJ [_] 0xe1da42cd0d000000d4b0421 fz|exact aJ [_] 0x387690b2da1a0000000d4b0421 fz|exact aJ [_] 0xe1da42ce5b43400000000d4b0421 fz))
end
noncomputable section
noncomputable def OJ:S:=.seq (.asg 6 (.call (.lit (.ref 842)) (.cons (.var 0) (.cons (.lit (.tuple vm)) .nil))))
  (.seq (.ite (.cmp .Eq (.var 6) (.lit (.str [70,76,65,71,83]))) (.seq (.asg 7 (.call (.lit (.ref 852)) (.cons (.var 0) .nil)))
  (.asg 8 (.tup (.cons (.cw 7 1) (.cons (.cw 7 2) (.cons (.cw 7 3) .nil)))))) (.asg 8 (.call (.lit (.ref 847)) (.cons (.var 0) (.cons (.lit (.int 0)) .nil)))))
  (.seq (.app 2 (.tup (.cons (.var 6) (.cons (.cw 8 0) .nil))))
  (.seq (.app 3 (.tup (.cons (.var 6) (.cons (.cw 8 1) .nil))))
  (.app 4 (.bin .Add (.bin .Add (.a4 (.var 6) .encode (.cons (.lit (.str [97,115,99,105,105])) .nil)) (.lit (.bytes [32]))) (.cw 8 2))))))
end
section
variable {c:List Int} (hc:Cells c)
include hc
theorem Eo (n:Nat) {k:V} {s9:Slot}:∀(items:List V) (A B C:List V) (a:Nat) (s5 s6 s7 s8:Slot),A.length+items.length<=1000->B.length+items.length<=1000->C.length+items.length<=1000->∃(xs:List Fx) (e:Nat) (D F f H:Slot),xs.length=items.length/\(∀x∈xs,Fp x)/\ iT (λst=>aI (ag tab aE wm (n+8)) wm OJ st) [5] items ⟨[.v (.ref 2),.v k,.ml A,.ml B,.ml C,s5,s6,s7,s8,s9],Sg c a⟩=TK (.next,⟨[.v (.ref 2),.v k,.ml (A++xs.map mP),.ml (B++xs.map Bn),.ml (C++xs.map λx=>.bytes (e6 x)),D,F,f,H,s9],Sg c e⟩):=by
 intro J;induction J with
 |nil=>intro A B C a s5 s6 s7 s8 z9 M N;exact (Iu [] a s5 s6 s7 s8 TL (λ_ m=>(nomatch m)) (by rw [Qs,Qs,Qs,Pk,Pk,Pk];rfl))
 |cons v r O=>
  intro A B C a s5 s6 s7 s8 g i j;rw [O8] at g i j;refine ac λu=>aT (e0 hc (n+6) a (xs:=vm) (by decide)) λtv l P=>aT (MK l) λt o ht=>?_;subst o;have q:∃(y:f0) (a1:Nat) (f:Slot),Fp (t,y)/\aI (ag tab aE wm (n+8)) wm (.ite (.cmp .Eq (.var 6) (.lit (.str [70,76,65,71,83]))) (.seq (.asg 7 (.call (.lit (.ref 852)) (.cons (.var 0) .nil))) (.asg 8 (.tup (.cons (.cw 7 1) (.cons (.cw 7 2) (.cons (.cw 7 3) .nil)))))) (.asg 8 (.call (.lit (.ref 847)) (.cons (.var 0) (.cons (.lit (.int 0)) .nil))))) ⟨[.v (.ref 2),.v k,.ml A,.ml B,.ml C,.v v,.v (.str t),s7,s8,s9],Sg c (a+1)⟩=TK (.next,⟨[.v (.ref 2),.v k,.ml A,.ml B,.ml C,.v v,.v (.str t),f,.v (gy y),s9],Sg c a1⟩):=by
   by_cases d:t=[70,76,65,71,83]
   ·refine bB (j2 hc (n+4) (a+1)) λts a1 Q s R=>(xN (.list (ts.map .atom),.tuple (ts.map fW),aQ (ts.map toB)) a1 (.v (og ts)) ⟨ht,.inl (⟨d,(eK ts s Q TL)⟩)⟩ ?_);exact aU TL (TS d) (ae (az (st2:=⟨[.v (.ref 2),.v k,.ml A,.ml B,.ml C,.v v,.v (.str t),.v (og ts),s8,s9],Sg c a1⟩) (aw TL TL R) TL) TL)
   ·exact kJ (od hc n (a+1)) λy a1 T U=>(xN y a1 s7 ⟨ht,.inr ⟨d,U⟩⟩ (aA TL (TR d) (az (aw TL TL T) TL)))
  refine xL q λy a1 b w W=>?_;refine Ir (O (A++[mP (t,y)]) (B++[Bn (t,y)]) (C++[.bytes (e6 (t,y))]) a1 (.v v) (.v (.str t)) b (.v (gy y)) (by refine aa (g3 ..) ?_;show A.length+1+_<=_;exact s1 g) (by refine aa (g3 ..) ?_;show B.length+1+_<=_;exact s1 i) (by refine aa (g3 ..) ?_;show C.length+1+_<=_;exact s1 j)) λxs e X Y Z q8 h1 h2 h3=>?_;refine u ?_;clear u;refine (Iu ((t,y)::xs) e X Y Z q8 (by exact aa (O8 ..) (aa (O8 ..) (aa (h1 ..) TL))) (all_cons w h2) ?_);refine aa ((by simp:A++((t,y)::xs).map mP=A++[mP (t,y)]++xs.map mP) ..) (aa ((by simp:B++((t,y)::xs).map Bn=B++[Bn (t,y)]++xs.map Bn) ..) (aa ((by simp:(C++((t,y)::xs).map λx=>V.bytes (e6 x))=C++[.bytes (e6 (t,y))]++xs.map λx=>.bytes (e6 x)) ..) ?_));have lt:∀{L:List V},L.length<=1000->L.length<av:=λh=>Pb h (by decide);have z:=ht.len.2;refine fL (st1:=⟨[.v (.ref 2),.v k,.ml A,.ml B,.ml C,.v v,s6,s7,s8,s9],Sg c a⟩) (st2:=⟨[.v (.ref 2),.v k,.ml (A++[mP (t,y)]),.ml (B++[Bn (t,y)]),.ml (C++[.bytes (e6 (t,y))]),.v v,.v (.str t),b,.v (gy y),s9],Sg c a1⟩) TL ?_ h3;refine ae (az (aw TL TL P) TL) (ae W (ae (cY (xs:=A) (st2:=⟨[.v (.ref 2),.v k,.ml (A++[mP (t,y)]),.ml B,.ml C,.v v,.v (.str t),b,.v (gy y),s9],Sg c a1⟩) TL TL TL (lt (by exact bl g)) TL) (ae (cY (xs:=B) (st2:=⟨[.v (.ref 2),.v k,.ml (A++[mP (t,y)]),.ml (B++[Bn (t,y)]),.ml C,.v v,.v (.str t),b,.v (gy y),s9],Sg c a1⟩) TL TL TL (lt (by exact bl i)) TL) (cY (xs:=C) (v:=.bytes (e6 (t,y))) (st1:=⟨[.v (.ref 2),.v k,.ml (A++[mP (t,y)]),.ml (B++[Bn (t,y)]),.ml C,.v v,.v (.str t),b,.v (gy y),s9],Sg c a1⟩) TL ?_ TL (lt (by exact bl j)) TL))));refine aa ((by unfold e6;simp:e6 (t,y)=toB t++[32]++y.2.2) ..) ?_;refine ai (ai (bn TL TL TL (gx ht.asc)) TL (am (ah ?_))) TL (am (ah ?_))
  ·refine aa (show (t.map Pp).length=t.length from Pd ..) ?_;show _+1<=_;exact bR z TL
  ·refine aa (g3 ..) (aa (show (t.map Pp).length=t.length from Pd ..) ?_);show _+1+_<=_;exact bA (Pg z _) (w.HN.len:y.2.2.length<=1820) TL
theorem sj (n a:Nat):Drawn c (I (n+9) 878 [.ref 2] (Sg c a)):=by
 refine ac λq=>aT (draw hc (n+7) a (k:=99) (by decide)) λk e r=>aT (draw hc (n+7) (a+1) (k:=4) (by decide)) λm hm s=>?_;have b:(((PN m).map λ(i:Nat)=>(i:Int)).map V.int).length=m:=by exact aa (Pd ..) (aa (Pd ..) (aa (QH ..) TL))
 refine Ir (Eo hc n (k:=.int (1+k:Nat)) (s9:=.u) (((PN m).map λ(i:Nat)=>(i:Int)).map V.int) [] [] [] (a+1+1) .u .u .u .u (by refine aa (b ..) ?_;exact bL (Pw hm) TL) (by refine aa (b ..) ?_;exact bL (Pw hm) TL) (by refine aa (b ..) ?_;exact bL (Pw hm) TL)) λxs t w x z A h l v=>?_;refine q ?_;rw [b] at h;have o:xs.length<=3:=by exact aJ [_,_] 0x1c200022085ec08021 hm (O9 h)
 have d:=dV (j:=2) (show 1+k<1000 by exact bV (Pe (Pw e) _) TL);have f:=k6 (λy m=>(l y m).len) o;have g:(aQ (xs.map e6)).length=(aD [32] (xs.map e6)).length+2:=by unfold aQ;refine aa (O8 ..) (aa (g3 ..) ?_);rfl
 refine (kK _ _ _ t ?_ (xp (k:=1+k) (by exact bV (Pe (Pw e) _) TL) l o));refine aa ((by unfold hV aQ;simp:hV (ak (1+k)++[32,70,69,84,67,72,32]++aQ (xs.map e6))=[42,32]++ak (1+k)++[32,70,69,84,67,72,32,40]++aD [32] (xs.map e6)++[41,13,10]) ..) ?_;apply iF TL TL;refine ae (az (ai TL (aw TL TL r) TL) TL) (ae TL (ae TL (ae TL (ae (jB (b0 (aF (aw TL TL s)) (dU (O5 (Pw hm) (by decide)))) TL v) (ae (az (ai (ai (ai (ai TL (bn (b0 TL (eX (by exact bV (Pe (Pw e) _) TL))) TL TL (im _)) (am (ah ?_))) TL (am (ah ?_))) (bn TL TL TL (pz (by refine aa (Po ..) ?_;rfl) (ah (by exact aJ [_,_] 0xe1da42c20002d100210da9cb0421 f (O9 (Qf g)))))) (am (ah ?_))) TL (am (ah ?_))) TL)
   rfl)))))
 ·exact bL d TL
 ·refine aa (g3 ..) ?_;exact bR (Pe d _) TL
 ·refine aa (g3 ..) (aa (g3 ..) ?_);exact aJ [_,_,_] 0x387690b0e61680000004d180210da9cb082170421 d f (O9 (Qf g))
 ·refine aa (g3 ..) (aa (g3 ..) (aa (g3 ..) ?_));exact aJ [_,_,_] 0xe1da42ce1cc2d000000004d180210da9cb082170421 d f (O9 (Qf g))
theorem xB (n a:Nat):Drawn c (I (n+9) 871 [.ref 2] (Sg c a)):=by
 refine ac λL=>aT (e0 hc (n+6) a (xs:=[.str [111,107],.str [110,111],.str [98,97,100],.str [98,121,101],.str [112,114,101,97,117,116,104]]) (by decide)) λA l P=>aT (e0 hc (n+6) (a+1) (xs:=[.str [42],.str [97,49],.str [84,46,57]]) (by decide)) λQ e R=>?_;have two:∃(x:Sx) (a1:Nat),x∈mR/\A=.str x.2.2/\aB (ag tab aE wm (n+8)) wm (.ite (.cmp .In (.var 1) (.tup (.cons (.lit (.str [98,121,101])) (.cons (.lit (.str [112,114,101,97,117,116,104])) .nil)))) (.lit (.str [42])) (.call (.lit (.ref 842)) (.cons (.var 0) (.cons (.tup (.cons (.lit (.str [42])) (.cons (.lit (.str [97,49])) (.cons (.lit (.str [84,46,57])) .nil)))) .nil)))) TO
   ⟨[.v (.ref 2),.v A,.u,.u,.u,.u,.u,.u,.u,.u,.u],Sg c (a+1)⟩=TK (.str x.1,⟨[.v (.ref 2),.v A,.u,.u,.u,.u,.u,.u,.u,.u,.u],Sg c a1⟩):=by
  have B:∀w,aB (ag tab aE wm (n+8)) wm (.cmp .In (.var 1) (.tup (.cons (.lit (.str [98,121,101])) (.cons (.lit (.str [112,114,101,97,117,116,104])) .nil)))) TN ⟨[.v (.ref 2),.v w,.u,.u,.u,.u,.u,.u,.u,.u,.u],Sg c (a+1)⟩=TK (.bool TO,⟨[.v (.ref 2),.v w,.u,.u,.u,.u,.u,.u,.u,.u,.u],Sg c (a+1)⟩)-> aB (ag tab aE wm (n+8)) wm (.ite (.cmp .In (.var 1) (.tup (.cons (.lit (.str [98,121,101])) (.cons (.lit (.str [112,114,101,97,117,116,104])) .nil)))) (.lit (.str [42])) (.call (.lit (.ref 842)) (.cons (.var 0) (.cons (.tup (.cons (.lit (.str [42])) (.cons (.lit (.str [97,49])) (.cons (.lit (.str [84,46,57])) .nil)))) .nil)))) TO
     ⟨[.v (.ref 2),.v w,.u,.u,.u,.u,.u,.u,.u,.u,.u],Sg c (a+1)⟩=TK (Q,⟨[.v (.ref 2),.v w,.u,.u,.u,.u,.u,.u,.u,.u,.u],Sg c (a+1+1)⟩):=λw h=>po h (bt TL TL R TL)
  simp only [Pf,Pn,or_false] at l e;refine K7 l (λb=>?_) (λb=>?_) (λb=>?_) (λb=>?_) λb=>?_
  ·subst b;have:=B (.str [111,107]) (by kernel_rfl);rcases e with rfl|rfl|rfl<;>exact (gF (_,[79,75],[111,107]) (a+1+1) (by decide) TL this)
  ·subst b;have:=B (.str [110,111]) (by kernel_rfl);rcases e with rfl|rfl|rfl<;>exact (gF (_,[78,79],[110,111]) (a+1+1) (by decide) TL this)
  ·subst b;have:=B (.str [98,97,100]) (by kernel_rfl);rcases e with rfl|rfl|rfl<;>exact (gF (_,[66,65,68],[98,97,100]) (a+1+1) (by decide) TL this)
  ·subst b;exact (gF ([42],[66,89,69],[98,121,101]) (a+1) (by decide) TL (by kernel_rfl))
  ·subst b;exact (gF ([42],[80,82,69,65,85,84,72],[112,114,101,97,117,116,104]) (a+1) (by decide) TL (by kernel_rfl))
 refine bB two λx a1 m b T=>?_;subst b;refine aT (e0 hc (n+6) a1 (xs:=kr) (by decide)) λU C D=>aT (Ki C) λt b ht=>?_;subst b;have o:=ht.len;have hd:aB (ag tab aE wm (n+8)) wm (.bin .Add (.bin .Add (.bin .Add (.a4 (.var 2) .encode (.cons (.lit (.str [97,115,99,105,105])) .nil)) (.lit (.bytes [32]))) (.a4 (.a4 (.var 1) .upper .nil) .encode (.cons (.lit (.str [97,115,99,105,105])) .nil))) (.lit (.bytes [32]))) TO
   ⟨[.v (.ref 2),.v (.str x.2.2),.v (.str x.1),.v (.str t),.u,.u,.u,.u,.u,.u,.u],Sg c (a1+1)⟩=TK (.bytes (stH x),⟨[.v (.ref 2),.v (.str x.2.2),.v (.str x.1),.v (.str t),.u,.u,.u,.u,.u,.u,.u],Sg c (a1+1)⟩):=by
  exact dz (f:=λx:Sx=>aB (ag tab aE wm (n+8)) wm (.bin .Add (.bin .Add (.bin .Add (.a4 (.var 2) .encode (.cons (.lit (.str [97,115,99,105,105])) .nil)) (.lit (.bytes [32]))) (.a4 (.a4 (.var 1) .upper .nil) .encode (.cons (.lit (.str [97,115,99,105,105])) .nil))) (.lit (.bytes [32]))) TO ⟨[.v (.ref 2),.v (.str x.2.2),.v (.str x.1),.v (.str t),.u,.u,.u,.u,.u,.u,.u],Sg c (a1+1)⟩)
   (g:=λx=>TK (.bytes (stH x),⟨[.v (.ref 2),.v (.str x.2.2),.v (.str x.1),.v (.str t),.u,.u,.u,.u,.u,.u,.u],Sg c (a1+1)⟩)) (show mR.map _=mR.map _ by kernel_rfl) m
 refine FJ (pQ 0 (c:=[]) (a:=0) m .none t .u) λF F d F=>aT (draw hc (n+7) (a1+1) (k:=3) (by decide)) λw W H=>L ?_;clear L;have i:∀{r:Fl×a7},aI (ag tab aE wm (n+8)) wm (bd (bd (bd (bd (bd jA))))) ⟨[.v (.ref 2),.v (.str x.2.2),.v (.str x.1),.v (.str t),.v (.bytes (stH x)),.v (.int w),.u,.u,.u,.u,.u],Sg c (a1+1+1)⟩=TK r->aI (ag tab aE wm (n+8)) wm jA ⟨bQ ([.ref 2]++[]) 10,Sg c a⟩=TK r:=λh=>ae (az (aw TL TL P) TL) (ae (az T TL) (ae (az (aw TL TL D) TL) (ae (az hd TL) (ae (az (aw TL TL H) TL) h))));have M:(toB t).length<=80:=by refine aa (toB_len ..) ?_;exact o
 have three:=NW W;refine or3 three (λb=>?_) (λb=>?_) λb=>?_
 ·subst b;refine (kK _ _ _ (a1+1+1) ?_ (xq m ht));have q:p0 x [] t=stH x++toB t++[13,10]:=by unfold p0;exact aa (Pk ..) TL
  refine aa (q ..) ?_;apply iF TL TL;refine i (aS (cC TL (ax (aX (au TL (au TL (aF (ai (ai TL (bn TL TL TL (gx ht.asc)) (am (ah ?_))) TL (am (ah ?_))))))))))
  ·exact bA d M TL
  ·refine aa (g3 ..) ?_;exact bR (PL d M) TL
 ·subst b;refine bB (j2 hc (n+4) (a1+1+1)) λts J N s X=>aM (k7 s N) λz F=>(kK _ _ _ J ?_ (xr m ht s N));have q:p0 x ([91]++(toB pZ++[32]++aQ (ts.map toB))++[93,32]) t=stH x++[91]++([80,69,82,77,65,78,69,78,84,70,76,65,71,83,32]++aQ (ts.map toB))++[93,32]++toB t++[13,10]:=by unfold p0;refine aa (show toB pZ++[32]++aQ (ts.map toB)=[80,69,82,77,65,78,69,78,84,70,76,65,71,83,32]++aQ (ts.map toB) from TL) ?_;simp
  refine aa (q ..) ?_;apply iF TL TL;refine i (ae TL (ae (cC TL (ae (az (aw TL TL X) TL) (ae TL (ae TL (az (ai TL TL (am (ah ?_))) TL))))) (ax (aX (au TL (au TL (aF (ai (ai (ai (ai (ai TL TL (am (ah ?_))) TL (am (ah ?_))) TL (am (ah ?_))) (bn TL TL TL (gx ht.asc)) (am (ah ?_))) TL (am (ah ?_))))))))));all_goals (simp only [g3,O8,PD,Pd];(first|exact aJ [_] 0x70ed2160bec0001f5b0421 z|exact aJ [_] 0x387690b302000034b0421 d|exact aJ [_,_] 0x1c3b48584fb0181000007d6c208434b0421 d z|exact aJ [_,_] 0x70ed216689f603020000007d6c208434b0421 d z|exact aJ [_,_,_] 0x70ed2160b46fb018200000001f5b0c210d2c2084b0b0421 o d z|exact aJ [_,_,_] 0x1c3b4859a168df60304000000001f5b0c210d2c2084b0b0421 o d z))
 ·subst b;refine kJ (od hc n (a1+1+1)) λy J Y O=>?_;have j:=O.len;refine (kK _ _ _ J ?_ (xw m ht O));have q:p0 x ([91]++(toB ol++[32]++(y.2.2++[32]++ak 7))++[93,32]) t=stH x++[91]++([67,79,80,89,85,73,68,32]++y.2.2++[32,55])++[93,32]++toB t++[13,10]:=by unfold p0;refine aa (Kp ..) (aa (show toB ol=[67,79,80,89,85,73,68] from TL) ?_);simp
  refine aa (q ..) ?_;apply iF TL TL;refine i (ae TL (ae (pq TL (ae (az (aw TL TL Y) TL) (ae TL (ae TL (az (ai (ai TL TL (am (ah ?_))) TL (am (ah ?_))) TL))))) (ax (aX (au TL (au TL (aF (ai (ai (ai (ai (ai TL TL (am (ah ?_))) TL (am (ah ?_))) TL (am (ah ?_))) (bn TL TL TL (gx ht.asc)) (am (ah ?_))) TL (am (ah ?_))))))))));all_goals (simp only [g3,O8,PD,Pd];(first|exact aJ [_] 0x70ed2160cc0001e3cb0421 j|exact aJ [_] 0x1c3b4859a19800001e3cb0421 j|exact aJ [_] 0x387690b302000034b0421 d|exact aJ [_,_] 0x70ed21668a6003020000078f2c208434b0421 d j|exact aJ [_,_] 0x1c3b4859ad14c0060400000078f2c208434b0421 d j|exact aJ [_,_,_] 0x1c3b48582d68e60030400000001e3cb0c210d2c2084b0b0421 o d j|exact aJ [_,_,_] 0x70ed216685ad1cc00608000000001e3cb0c210d2c2084b0b0421 o d j))
end
theorem xC:∀{a b:List V},aV a=TN->aV b=TN->aV (a++b)=TN:=by
 intro c;induction c with
 |nil=>intro i j h;exact h
 |cons x r d=>intro b h e;refine aM (aR (show (aN x&&aV r)=TN from h)) λf g=>?_;show (aN x&&aV (r++b))=TN;refine aa (f ..) (aa (d g e ..) ?_);rfl
theorem HZ (h:a.length+b.length<=av) (ha:aV a=TN) (c:aV b=TN):gE .Add (.tuple a) (.tuple b)=TK (.tuple (a++b)):=(TY (show (aV a&&aV b)=TN by refine aa (ha ..) (aa (c ..) ?_);rfl)).trans ((TQ cf (TY h:FU .Add a (.tuple b)=TK (.tuple (a++b)))).trans (TY (xC ha c)))
structure H0 (t:List Nat):Prop where
 IM:(toB t).all cE=TN
 ne:toB t≠[]
 b7:(toB t).all (λc=>decide (c<128))=TN
 back:toS' (toB t)=t
 asc:t.all (λc=>decide (c<128))=TN
 len:t.length<=80
 ln:Ln (toB t)
theorem MP (a:x∈HO):∃t,x=.str t/\H0 t:=by
 unfold HO at a;simp only [Pf,Pn,or_false] at a;rcases a with rfl|rfl|rfl
 all_goals exact ⟨_,TL,by decide+kernel,by decide,by decide+kernel,TL,by decide,by decide,.of (by decide) TL (by decide)⟩
theorem vw.of (b:ts.length<=3) (h:∀t∈ts,H0 t):vw ts where
 len:=b
 ok:=λt m=>(B1 (Pa.mp (h t m).IM) ((h t m).ne) (λc a=>TM (Pa.mp (h t m).b7 c a)) ((h t m).back))
 asc:=λt m=>⟨λc a=>TM (Pa.mp (h t m).asc c a),(h t m).len⟩
 ln:=λt m=>(h t m).ln
section
variable {c:List Int} (hc:Cells c)
include hc
theorem Ep (n a:Nat):∃(W w:List Nat) (ts:List (List Nat)) (a1 j:Nat),((W=[67,65,80,65,66,73,76,73,84,89]/\w=[99,97,112,97,98,105,108,105,116,121])\/(W=[69,78,65,66,76,69,68]/\w=[101,110,97,98,108,101,100]))/\vw ts/\ aB (ag tab aE wm (n+9)) wm (.call (.lit (.ty .tuple)) (.cons (.comp (.call (.lit (.ref 842)) (.cons (.var 0) (.cons (.tup (.cons (.lit (.str [73,68,76,69])) (.cons (.lit (.str [84,72,82,69,65,68,61,82,69,70,69,82,69,78,67,69,83])) (.cons (.lit (.str [76,73,84,69,82,65,76,43])) .nil)))) .nil))) 1 (.call (.lit (.ty .range)) (.cons (.call (.lit (.ref 835)) (.cons (.var 0) (.cons (.lit (.int 3)) .nil))) .nil)) (.lit (.bool TN))) .nil)) TO ⟨[.v (.ref 2),.v (.int (16:Nat)),.u,.u,.u,.u,.u],Sg c a⟩=TK (.tuple (ts.map .str),⟨[.v (.ref 2),.v (.int (16:Nat)),.u,.u,.u,.u,.u],Sg c a1⟩)/\ I (n+9) 842 [.ref 2,.tuple [.str [99,97,112,97,98,105,108,105,116,121],.str [101,110,97,98,108,101,100]]] (Sg c a1)=TK (.str w,Sg c j):=by
 refine ac λf=>aT (draw hc (n+8) a (k:=3) (by decide)) λm hm o=>?_;obtain ⟨ts,a1,g,h,q⟩:=il (c:=c) (R:=ag tab aE wm (n+9)) (e:=.call (.lit (.ref 842)) (.cons (.var 0) (.cons (.tup (.cons (.lit (.str [73,68,76,69])) (.cons (.lit (.str [84,72,82,69,65,68,61,82,69,70,69,82,69,78,67,69,83])) (.cons (.lit (.str [76,73,84,69,82,65,76,43])) .nil)))) .nil))) (it:=.call (.lit (.ty .range)) (.cons (.call (.lit (.ref 835)) (.cons (.var 0) (.cons (.lit (.int 3)) .nil))) .nil))
  (ρ:=[.v (.ref 2),.v (.int (16:Nat)),.u,.u,.u,.u,.u]) (k:=m) (a:=a) (a1:=a+1) V.str H0 (by exact bW hm TL) (kF (au (bt TL TL o TL) TL) (dU (O5 (Pw hm) (by decide))) TL) λv a=>by refine aT (e0 hc (n+7) a (xs:=HO) (by decide)) λx b e=>aT (MP b) λt d ht=>?_;subst d;exact (dC t (a+1) (bt TL TL e TL) ht)
 refine aT (e0 hc (n+7) a1 (xs:=[.str [99,97,112,97,98,105,108,105,116,121],.str [101,110,97,98,108,101,100]]) (by decide)) λx b ex=>f ?_;clear f;have ht:=kF (R:=ag tab aE wm (n+9)) (wm:=wm) (m:=TO) (i:=.tuple) (au (l:=.nil) q TL) TL TL;simp only [Pf,Pn,or_false] at b;rcases b with rfl|rfl
 ·exact (M0 _ _ ts a1 (a1+1) (.inl ⟨TL,TL⟩) (.of (by exact bT (O5 (O9 g) (Pw hm)) TL) h) ht ex)
 ·exact (M0 _ _ ts a1 (a1+1) (.inr ⟨TL,TL⟩) (.of (by exact bT (O5 (O9 g) (Pw hm)) TL) h) ht ex)
theorem t9 (n a:Nat):Drawn c (I (n+10) 895 [.ref 2] (Sg c a)):=by
 refine ac λs=>aT (draw hc (n+8) a (k:=20) (by decide)) λw hw ew=>s ?_;clear s;have U:∀b:List UInt8,hV b=[42,32]++b++[13,10]:=λb=>rfl;have i:∀{r:Fl×a7},aI (ag tab aE wm (n+9)) wm (bd dT) ⟨[.v (.ref 2),.v (.int w),.u,.u,.u,.u,.u],Sg c (a+1)⟩=TK r->aI (ag tab aE wm (n+9)) wm dT ⟨bQ ([.ref 2]++[]) 6,Sg c a⟩=TK r:=λh=>ae (az (aw TL TL ew) TL) h;by_cases J:w<4
 ·refine Iq (xB hc n (a+1)) λan B o C e A=>(kK an B o C ?_ A);apply iF TL TL;exact i (aS (aU TL (TS (by exact Ps.mpr (aJ [_] 0x7b020001ec08021 J):(w:Int)<4)) (ax (aw TL TL e))))
 have L:¬((w:Int)<4):=by exact PK.mpr (Ph.mpr (aJ [_] 0xbc000bc21 (P7 J)))
 by_cases O:w<8
 ·refine Iq (xA hc (n+3) (a+1) (w-4) (by exact aJ [_,_] 0x1ec100000bc400866c08021 O (ow (aJ [_] 0xbc000bc21 (P7 J))))) λan B o C e A=>?_;rw [show ((w-4:Nat):Int)=(w:Int)-4 from KG (by exact P7 J)] at e;refine (kK an B o C ?_ A);apply iF TL TL;exact i (ae (aA TL (TR L) TL) (aS (aU TL (TS (by exact Ps.mpr (aJ [_] 0x9b0200026c08021 O):(w:Int)<8)) (ax (aw TL TL e)))))
 have Q:¬((w:Int)<8):=by exact PK.mpr (Ph.mpr (aJ [_] 0xcc000cc21 (P7 O)))
 by_cases q:w<10
 ·refine Iq (sj hc n (a+1)) λan B o C e A=>(kK an B o C ?_ A);apply iF TL TL;exact i (ae (aA TL (TR L) TL) (ae (aA TL (TR Q) TL) (aS (aU TL (TS (by exact Ps.mpr (aJ [_] 0x1566040002acc08021 q):(w:Int)<10)) (ax (aw TL TL e))))))
 have H:¬((w:Int)<10):=by exact PK.mpr (Ph.mpr (aJ [_] 0x2ab000155821 (P7 q)))
 by_cases D:w<15
 ·refine Iq (xz hc (n+3) (a+1) (w-10) (by exact aJ [_,_] 0x830400002ab08010becc08021 D (ow (aJ [_] 0x2ab000155821 (P7 q))))) λan B o C e A=>?_;rw [show ((w-10:Nat):Int)=(w:Int)-10 from KG (by exact P7 q)] at e;refine (kK an B o C ?_ A);apply iF TL TL;exact i (ae (aA TL (TR L) TL) (ae (aA TL (TR Q) TL) (ae (aA TL (TR H) TL) (aS (aU TL (TS (by exact Ps.mpr (aJ [_] 0x1f66040003ecc08021 D):(w:Int)<15)) (ax (aw TL TL e)))))))
 have g:∀{r:Fl×a7},aI (ag tab aE wm (n+9)) wm (bd (bd (bd (bd (bd dT))))) ⟨[.v (.ref 2),.v (.int w),.u,.u,.u,.u,.u],Sg c (a+1)⟩=TK r->aI (ag tab aE wm (n+9)) wm dT ⟨bQ ([.ref 2]++[]) 6,Sg c a⟩=TK r:=λh=>by exact i (ae (aA TL (TR L) TL) (ae (aA TL (TR Q) TL) (ae (aA TL (TR H) TL) (ae (aA TL (TR (by exact PK.mpr (Ph.mpr (aJ [_] 0x2fb00017d821 (P7 D))):¬((w:Int)<15))) TL) h))))
 refine K7 (by lia:w=15\/w=16\/w=17\/w=18\/w=19) (λd=>?_) (λd=>?_) (λd=>?_) (λd=>?_) λd=>?_
 ·subst d;refine aT (e0 hc (n+7) (a+1) (xs:=kr) (by decide)) λx M ex=>ac λs=>aT (Ki M) λt d ht=>?_;subst d;refine s ?_;clear s;have X:(toB t).length<=80:=by refine aa (toB_len ..) ?_;exact ht.len
  refine (kK _ _ _ (a+1+1) ?_ (By ht));refine aa ((TL:[43,32]++(toB t++[13,10])=[43,32]++toB t++[13,10]) ..) ?_;apply iF TL TL;refine g (aS (cC TL (ae (az (aw TL TL ex) TL) (ax (aX (au TL (au TL (aF (ai (ai TL (bn TL TL TL (gx ht.asc)) (am (ah ?_))) TL (am (ah ?_)))))))))))
  ·exact bL X TL
  ·refine aa (g3 ..) ?_;exact bR (Pe X _) TL
 ·subst d;refine NL (Ep hc n (a+1)) λW F ts a1 a2 f y e1 e2=>(kK _ _ _ a2 ?_ (Em f y));have zs:(aO (ts.map toB)).length<=243:=by
   have:=hN (z:=80) (os:=ts.map toB) λo m=>by obtain ⟨k,R,rfl⟩:=PI.mp m;refine aa (toB_len ..) ?_;exact (y.asc k R).2
   exact aJ [_,_] 0x7cec1001f3b082110421 this (PH _ (bu y.len))
  have Y:toB (aD [32] (W::ts))=toB W++aO (ts.map toB):=by refine aa (toB_join ..) ?_;exact eI _ _
  have T:(aD [32] (W::ts)).length<=253:=by refine bx (toB_len ..) (aa (Y ..) (aa (g3 ..) ?_));exact bA (by rcases f with ⟨rfl,-⟩|⟨rfl,-⟩<;>decide:(toB W).length<=10) zs TL
  have aj:(aD [32] (W::ts)).all (· <128)=TN:=Pa.mpr λx m=>TS (hG (P:=(· <128)) (by simp) (λt mt=>by
   refine PA (Pf.mp mt) (λe=>?_) λmt=>?_
   ·intro x Z;rw [e] at Z;have:W.all (λc=>decide (c<128))=TN:=by rcases f with ⟨rfl,-⟩|⟨rfl,-⟩<;>decide
    exact TM (Pa.mp this x Z)
   ·exact (y.asc t mt).1) x m)
  refine aa (U ..) (bx (Y ..) ?_);apply iF TL TL;refine g (ae TL (aS (cC TL (ae (az e1 TL) (ae (az (aw TL TL e2) TL) (ae (az (ai (ai TL (bn (bn (x:=.str [32]) TL TL (aF (ai (aX (aF (bn TL TL TL (by rcases f with ⟨rfl,rfl⟩|⟨rfl,rfl⟩<;>kernel_rfl:dv (.str F) .upper []=TK (.str W))))) TL (HZ (a:=[.str W]) (b:=ts.map .str) ?_ TL (iY ts)))) (jC (l:=W::ts) (.inr TL) (ah ?_))) TL TL (gx aj)) (am (ah ?_))) TL (am (ah ?_))) TL) TL))))))
  ·have:=y.len;exact aa (Pd ..) (ah (show 1+_<=_ by exact bL this TL))
  ·show _+1<=_;exact bR T TL
  ·refine aa (show (Tx Pp (aD [32] (W::ts))).length=(aD [32] (W::ts)).length from Pd ..) ?_;show 2+_<=_;exact bL T TL
  ·refine aa (g3 ..) (aa (show (Tx Pp (aD [32] (W::ts))).length=(aD [32] (W::ts)).length from Pd ..) ?_);show 2+_+2<=_;exact bR (Pe T _) TL
 ·subst d;refine (kK _ _ _ (a+1) ?_ HU);apply iF TL TL;exact g TL
 ·subst d;refine (kK _ _ _ (a+1) ?_ Bx);apply iF TL TL;exact g TL
 ·subst d;refine aT (draw hc (n+8) (a+1) (k:=4294967296) (by decide)) λk y ek=>ac λs=>aT (e0 hc (n+7) (a+1+1) (xs:=[.str [101,120,105,115,116,115],.str [101,120,112,117,110,103,101]]) (by decide)) λx M ex=>?_;obtain ⟨W,F,f,rfl⟩:∃W F,((W=[69,88,73,83,84,83]/\F=[101,120,105,115,116,115])\/(W=[69,88,80,85,78,71,69]/\F=[101,120,112,117,110,103,101]))/\x=.str F:=by
   simp only [Pf,Pn,or_false] at M;refine PA M (λd=>?_) λd=>?_
   ·subst d;exact (dC _ _ (.inl ⟨TL,TL⟩) TL)
   ·subst d;exact (dC _ _ (.inr ⟨TL,TL⟩) TL)
  refine s ?_;clear s;have N:(ak k).length<=10:=dV (j:=9) (by lia);have lW:(toB W).length<=7:=by rcases f with ⟨rfl,-⟩|⟨rfl,-⟩<;>decide
  refine (kK _ _ _ (a+1+1+1) ?_ (xo (k:=k) (by exact bU y TL) f));refine aa ((by refine aa (U ..) ?_;simp:hV (ak k++[32]++toB W)=[42,32]++ak k++[32]++toB W++[13,10]) ..) ?_;apply iF TL TL;refine g (ae TL (ae TL (ae TL (ae TL (ae (az (aw TL (au TL (aF (ai TL TL (by kernel_rfl:gE .Pow (.int 2) (.int 32)=TK (.int (4294967296:Nat)))))) ek) TL) (ae (az (aw TL TL ex) TL) (ax (aX (au TL (au TL (aF (ai (ai (ai (ai TL (bn (b0 TL (eX (by exact bU y TL))) TL TL (im k)) (am (ah ?_))) TL (am (ah ?_))) (bn (bn TL TL TL (by rcases f with ⟨rfl,rfl⟩|⟨rfl,rfl⟩<;>kernel_rfl:dv (.str F) .upper []=TK (.str W))) TL TL (gx (by rcases f with ⟨rfl,-⟩|⟨rfl,-⟩<;>decide:W.all (· <128)=TN))) (am (ah ?_))) TL (am (ah ?_))))))))))))))
  ·show 2+_<=_;exact bL N TL
  ·refine aa (g3 ..) ?_;exact bR (Pe N _) TL
  ·refine aa (g3 ..) (aa (g3 ..) ?_);show 2+_+1+(toB W).length<=_;exact bA (Pg (Pe N _) _) lW TL
  ·refine aa (g3 ..) (aa (g3 ..) (aa (g3 ..) ?_));exact bR (PL (Pg (Pe N _) _) lW) TL
end
section
variable {d l pl:List UInt8} {p:Nat}
theorem jN {a:Type} {d l:List a} (h:d.drop p=l) (i:Nat):d[p+i]?=l[i]?:=by exact bx (h ..) (aa (List.getElem?_drop ..) TL)
theorem ext_iff (i:Nat):(d.toArray.extract i (i+2)==#[13,10])=decide ((d.drop i).take 2=[13,10]):=by
 have e:(d.toArray.extract i (i+2)).toList=(d.drop i).take 2:=by exact aa (Array.toList_extract ..) (aa (List.extract_eq_take_drop ..) (aa (RT ..) TL))
 by_cases h:(d.drop i).take 2=[13,10]
 ·refine aa (TS h ..) (p9 (beq_iff_eq ..) ?_);exact RE.mp (e.trans h)
 ·refine aa (TR h ..) (p9 (beq_eq_false_iff_ne ..) ?_);exact λk=>h (by exact bx (e ..) (aa (k ..) TL))
theorem xD (h:d.drop p=pl++13::10::l) (hp:∀c∈pl,c≠13):PW d.toArray #[13,10] p d.length=TK (p+pl.length):=by
 have b:p+pl.length+2<=d.length:=by have:=TQ Qh h;rw [QC,g3] at this;simp only [O8] at this;lia
 unfold PW;refine aa (List.find?_map ..) ?_;have key:(PN (d.length+1-(p+2))).find? ((λi=>d.toArray.extract i (i+2)==#[13,10])∘λi=>i+p)=TK pl.length:=by
  refine p9 (List.find?_range_eq_some ..) ?_;refine (dQ ?_ (Rl.mpr (aJ [_,_,_,_] 0x23040001a10100c180211b44100021 b (sr _ _))) (λj a=>?_))
  ·show (d.toArray.extract (pl.length+p) (pl.length+p+2)==#[13,10])=TN;refine aa (ext_iff ..) (aa (show pl.length+p=p+pl.length by exact Qr _ _) (bx (P9 ..) (aa (h ..) (aa (Qd ..) ?_))));rfl
  ·show (!(d.toArray.extract (j+p) (j+p+2)==#[13,10]))=TN;refine aa (ext_iff ..) (aa (show j+p=p+j by exact Qr _ _) (bx (P9 ..) (aa (h ..) (aa (R6 (Pw a) ..) ?_))));cases e:pl.drop j with
   |nil=>exact TU (Qb.mp e) (R3 (aJ [_,_] 0x130200004c08021 a))
   |cons x r=>have f:=Rz (by refine aa (e ..) ?_;exact .head _);refine aa (TR (λk=>hp _ f (QX k).1) ..) ?_;rfl
 show Qq (λx=>x+p) ((PN (d.length+1-(p+2))).find? ((λi=>d.toArray.extract i (i+2)==#[13,10])∘λi=>i+p))=_;refine aa (key ..) ?_;exact aa (Qr ..) TL
theorem Er (h:d.drop p=pl\/d.drop p=pl++[13]) (hp:∀c∈pl,c≠13):PW d.toArray #[13,10] p d.length=TW:=by
 unfold PW;refine aa (List.find?_map ..) ?_;have key:(PN (d.length+1-(p+2))).find? ((λi=>d.toArray.extract i (i+2)==#[13,10])∘λi=>i+p)=TW:=by
  refine p9 (List.find?_eq_none ..) ?_;intro j g;show ¬(d.toArray.extract (j+p) (j+p+2)==#[13,10])=TN;refine aa (ext_iff ..) (aa (show j+p=p+j by exact Qr _ _) (bx (P9 ..) ?_));have g:=Rl.mp g;have kj:p+j+1<d.length:=by lia
  refine aa (decide_eq_true_eq ..) ?_;intro k;have a:(d.drop p).drop j=13::((d.drop p).drop (j+1))/\((d.drop p).drop (j+1)).head?=TK 10:=by
   cases e:(d.drop p).drop j with
   |nil=>rw [e] at k;cases k
   |cons x r=>
    rw [e] at k;cases r with
    |nil=>cases k
    |cons y r=>
     cases k;have:(d.drop p).drop (j+1)=10::r:=by refine bx (P9 ..) (aa (e ..) ?_);rfl
     refine aa (this ..) ?_;exact ⟨TL,TL⟩
  refine PA h (λh=>?_) λh=>?_
  ·rw [h] at a;exact hp 13 (Rz (by refine aa (a.1 ..) ?_;exact .head _)) TL
  ·rw [h] at a;by_cases b:j<pl.length
   ·have f:=a.1;rw [R6 (Pw b)] at f;cases e:pl.drop j with
    |nil=>have:=Qb.mp e;lia
    |cons x r=>rw [e] at f;exact hp 13 (Rz (by refine aa (e ..) (aa (((QX f).1) ..) ?_);exact .head _)) TL
   ·have:(pl++[13]).drop (j+1)=[]:=Qb.mpr (by refine aa (g3 ..) ?_;exact QA b);rw [this] at a;cases a.2
 show Qq (λx=>x+p) ((PN (d.length+1-(p+2))).find? ((λi=>d.toArray.extract i (i+2)==#[13,10])∘λi=>i+p))=TW;refine aa (key ..) ?_;rfl
theorem m_find:∃r:Int,dv (.bytes d) .find [.bytes [13,10],.int p]=TK (.int r)/\(p+2<=d.length->r=match PW d.toArray #[13,10] p d.length with|some j=>j|none=>-1)/\(¬p+2<=d.length->r=-1):=by
 have key:∀r:Int,ql (.bytes d) (.bytes [13,10]) (.int p)=TK (.int r)->dv (.bytes d) .find [.bytes [13,10],.int p]=TK (.int r):=λr h=>by have e:lB (.bytes d) .find [.bytes [13,10],.int p]=ql (.bytes d) (.bytes [13,10]) (.int p):=TL;have a:(aN (.bytes d)&&aV [V.bytes [13,10],.int p])=TN:=TL;unfold dv;refine aa (TY a ..) (aa (e ..) (aa (h ..) ?_));rfl
 by_cases h:p+2<=d.length
 ·refine (eK _ (key _ (TY ⟨Pu p,h⟩)) (λ_=>rfl) (λk=>TU h k))
 ·refine (eK (-1) (key _ ((TZ λk=>h k.2).trans (TY (Pu p)))) (λk=>TU k h) (λ_=>rfl))
theorem vy (h:d.drop p=pl++13::10::l) (hp:∀c∈pl,c≠13):dv (.bytes d) .find [.bytes [13,10],.int p]=TK (.int (p+pl.length:Nat)):=by
 refine ix (m_find (d:=d) (p:=p)) λr a b f=>?_;have e:p+2<=d.length:=by have:=TQ Qh h;rw [QC,g3] at this;simp only [O8] at this;lia
 exact aa (a ..) (aa (b e ..) (aa (xD h hp ..) TL))
theorem Es (h:d.drop p=pl\/d.drop p=pl++[13]) (hp:∀c∈pl,c≠13):dv (.bytes d) .find [.bytes [13,10],.int p]=TK (.int (-1)):=by
 refine ix (m_find (d:=d) (p:=p)) λr a e f=>?_;by_cases b:p+2<=d.length
 ·exact aa (a ..) (aa (e b ..) (aa (Er h hp ..) TL))
 ·exact aa (a ..) (aa (f b ..) TL)
end
section
variable (n:Nat) (g:FG) {d l:List UInt8} {b e k s0:Nat}
theorem Bz (h:e<=b\/∃c,d[e-1]?=TK c/\c≠125/\b<e):I (n+3) 600 [.bytes d,.int b,.int e] g=TK (.none,g):=by
 by_cases f:e<=b
 ·have i:(e:Int)-1<b:=by lia
  apply fn TL TL;exact ae TL (aS (aU (AJ TL (TS i)) TL TL))
 ·refine ix (h.resolve_left f) λc j a kj=>?_;apply fn TL TL;exact ae (az (v:=.int (e-1:Nat)) (di TL TL TL (by refine aa (KG (Nat.succ_le_of_lt (Pb (QF _) kj))) ?_;rfl)) TL) (aS (aU (eB TL (TR (PK.mpr (Ph.mpr (aJ [_,_,_] 0x1840060c020844c08021 (QA f) (sr _ _))):¬(((e-1:Nat):Int)<b))) (aG (bp TL TL (kG j)) TL TL)) (TS (λk=>a (Qj.mp (Qm k)):(c.toNat:Int)≠125)) TL))
theorem Et {x1 x2:V} {x5 x6:Slot} {w:V} (f:b<=s0) (o:d[s0]?=TK 123) (q:∀i,i<k->∃c,d[s0+1+i]?=TK c/\inR 48 57 c=TN):∀(j K:Nat),j<=k->j<K-> bk (λst=>aB (ag tab aE wm (n+1)) wm (.and (.cmp .GtE (.var 3) (.var 1)) (.call (.lit (.ref 350)) (.cons (.sub (.var 0) (.var 3)) .nil))) TN st) (λst=>aI (ag tab aE wm (n+1)) wm (.asg 3 (.bin .Sub (.var 3) (.lit (.int 1)))) st) K ⟨[.v (.bytes d),.v (.int b),.v x2,.v (.int (s0+j:Nat)),.v w,x5,x6],g⟩=
   TK (.next,⟨[.v (.bytes d),.v (.int b),.v x2,.v (.int s0),.v w,x5,x6],g⟩):=by
 intro r;induction r with
 |zero=>
  intro K s t;rcases K with _|K
  ·first|exact TU t (O7 _)|exact TU s (O7 _)
  exact cP (eg TL (TS (by exact Ph.mpr (aJ [_,_] 0x1620040010421 f):(b:Int)<=(s0+0:Nat))) (bt TL (au (AE TL TL (kG (i:=s0+0) o) TL) TL) (dA n _ 123) TL))
 |succ j u=>
  intro K a h;rcases K with _|K
  ·first|exact TU h (O7 _)|exact TU a (O7 _)
  refine aT (q j (by exact a)) λc m y=>?_;rw [show s0+1+j=s0+(j+1) by exact Sr _ _ _] at m;refine cD (st1:=⟨[.v (.bytes d),.v (.int b),.v x2,.v (.int (s0+(j+1):Nat)),.v w,x5,x6],g⟩) (st2:=⟨[.v (.bytes d),.v (.int b),.v x2,.v (.int (s0+j:Nat)),.v w,x5,x6],g⟩) (eg TL (TS (by exact Ph.mpr (aJ [_,_,_] 0x60c020040010421 f):(b:Int)<=(s0+(j+1):Nat))) (bt TL (aF (bp TL TL (kG m))) (dA n _ c) ?_)) (az TL ?_) (u K (by exact Pw a) (by exact PR h))
  ·refine aa (y ..) ?_;rfl
  ·refine aa (K8 (x:=s0+j)) ?_;rfl
theorem BA {q:Nat} (D:q<10000000000) (f:b<=s0) (h:d.drop s0=123::(ak q++125::l)):I (n+3) 600 [.bytes d,.int b,.int (s0+(ak q).length+2:Nat)] g=TK (.tuple [.int q,.bool TN],g):=by
 have o:0<(ak q).length:=by refine aa (cG ..) ?_;exact ik q
 have y:(ak q).length<=10:=dV (j:=9) D;have z:d[s0]?=TK 123:=jN h 0;have A:∀i,i<(ak q).length->∃c,d[s0+1+i]?=TK c/\inR 48 57 c=TN:=λi r=>by have:=jN h (1+i);rw [←Q7,show 1+i=i+1 by exact Qr _ _,RU,Ra r,PC r] at this;exact (i12 _ this (eY q _ (Ri r)))
 have g2:d[s0+(ak q).length+1]?=TK 125:=by have:=jN h ((ak q).length+1);rw [←Q7,RU,QD (Px _),Tl] at this;exact this
 refine aT (A ((ak q).length-1) (by exact aJ [_,_] 0x130200004c08021 (ow (aJ [_] 0x2c0002c58021 o)))) λc B s=>?_;rw [show s0+1+((ak q).length-1)=s0+(ak q).length by exact PJ (aJ [_,_,_] 0x10c0160c000004c08021 (ow (aJ [_] 0x2c0002c58021 o))) (aJ [_,_,_] 0x13060004600018200421 (sr _ _))] at B;have t:(c.toNat:Int)≠43:=by have:=TM (aR s).1;exact Rd (Ps.mpr (aJ [_] 0x2c16ec00002385821 (Ph.mp this)))
 have sl:(d.take (s0+1+(ak q).length)).drop (s0+1)=ak q:=by refine aa (iZ ..) (bx (P9 ..) (aa (h ..) ?_));exact aa (QK ..) TL
 have C:=kZ (n+1) g (b:=ak q);rw [k0] at C;have a1:aI (ag tab aE wm (n+2)) wm (.asg 3 (.bin .Sub (.var 2) (.lit (.int 1)))) ⟨[.v (.bytes d),.v (.int b),.v (.int (s0+(ak q).length+2:Nat)),.u,.u,.u,.u],g⟩=TK (.next,⟨[.v (.bytes d),.v (.int b),.v (.int (s0+(ak q).length+2:Nat)),.v (.int (s0+(ak q).length+1:Nat)),.u,.u,.u],g⟩):=
  az (v:=.int (s0+(ak q).length+1:Nat)) (di TL TL TL (by refine aa (K8 (x:=s0+(ak q).length+1)) ?_;rfl)) TL
 have F:aI (ag tab aE wm (n+2)) wm (.asg 3 (.bin .Sub (.var 3) (.lit (.int 1)))) ⟨[.v (.bytes d),.v (.int b),.v (.int (s0+(ak q).length+2:Nat)),.v (.int (s0+(ak q).length+1:Nat)),.u,.u,.u],g⟩=TK (.next,⟨[.v (.bytes d),.v (.int b),.v (.int (s0+(ak q).length+2:Nat)),.v (.int (s0+(ak q).length:Nat)),.u,.u,.u],g⟩):=
  az (v:=.int (s0+(ak q).length:Nat)) (di TL TL TL (by refine aa (K8 (x:=s0+(ak q).length)) ?_;rfl)) TL
 have H:aI (ag tab aE wm (n+2)) wm (.asg 5 (.bin .Add (.var 3) (.lit (.int 1)))) ⟨[.v (.bytes d),.v (.int b),.v (.int (s0+(ak q).length+2:Nat)),.v (.int (s0+(ak q).length:Nat)),.v (.bool TN),.u,.u],g⟩=TK (.next,⟨[.v (.bytes d),.v (.int b),.v (.int (s0+(ak q).length+2:Nat)),.v (.int (s0+(ak q).length:Nat)),.v (.bool TN),.v (.int (s0+1+(ak q).length:Nat)),.u],g⟩):=
  az (v:=.int (s0+1+(ak q).length:Nat)) (di TL TL TL (by refine aa (show ((s0+1+(ak q).length:Nat):Int)=((s0+(ak q).length:Nat):Int)+1 by exact S7.mpr (eb [_,_] 0x1820800260400)) ?_;rfl)) TL
 have J:aI (ag tab aE wm (n+2)) wm (.asg 6 (.pX (.var 0) (.bin .Add (.var 3) (.lit (.int 1))) (.var 5))) ⟨[.v (.bytes d),.v (.int b),.v (.int (s0+(ak q).length+2:Nat)),.v (.int s0),.v (.bool TN),.v (.int (s0+1+(ak q).length:Nat)),.u],g⟩=TK (.next,⟨[.v (.bytes d),.v (.int b),.v (.int (s0+(ak q).length+2:Nat)),.v (.int s0),.v (.bool TN),.v (.int (s0+1+(ak q).length:Nat)),.v (.bytes (ak q))],g⟩):=
  az (v:=.bytes (ak q)) (st1:=⟨[.v (.bytes d),.v (.int b),.v (.int (s0+(ak q).length+2:Nat)),.v (.int s0),.v (.bool TN),.v (.int (s0+1+(ak q).length:Nat)),.u],g⟩) (db TL TL TL ((pC (i:=s0+1) (j:=s0+1+(ak q).length)).trans (by exact aa (sl ..) TL))) TL
 apply fn TL TL;refine ae a1 (ae (aA (eB TL (TR (by exact PK.mpr (Ph.mpr (aJ [_,_,_] 0x60c400040010421 f)):¬(((s0+(ak q).length+1:Nat):Int)<b))) (aG (bp TL TL (kG g2)) TL TL)) TL TL) (ae F (ae (az (v:=.bool TN) (st1:=⟨[.v (.bytes d),.v (.int b),.v (.int (s0+(ak q).length+2:Nat)),.v (.int (s0+(ak q).length:Nat)),.u,.u,.u],g⟩) ?_ TL) (ae TL (ae H (ae (eW (Et (n+1) g (x1:=.none) (x6:=.u) (w:=.bool TN) f z A (ak q).length turns (Px _) (Pb y (by decide)))) (ae J (ae (aA (eB TL (TR (by exact PK.mpr (Ph.mpr (aJ [_,_] 0x1040010421 f)):¬((s0:Int)<b))) (eB (aG (bp TL TL (kG z)) TL TL) TL (mK (mA TL TL (TQ TK (TS (by exact n1 o:((0:Int)<((ak q).length:Nat))))) TL (TQ TK (TS (by exact Ph.mpr (aJ [_] 0x1560800ab0421 y):(((ak q).length:Nat):Int)<=10))))))) TL TL) (ax (aX (au (aw TL TL C) TL)))))))))))
 ·have:=u4 (R:=ag tab aE wm (n+2)) (wm:=wm) (m:=TO) (iW (op:=.Lt) (a:=.var 3) (b:=.var 1) (st:=⟨[.v (.bytes d),.v (.int b),.v (.int (s0+(ak q).length+2:Nat)),.v (.int (s0+(ak q).length:Nat)),.u,.u,.u],g⟩) TL TL TL) (iW (op:=.NotEq) (a:=.sub (.var 0) (.var 3)) (b:=.lit (.int 43)) (bp TL TL (kG B)) TL TL);rw [(by refine aa (TR (by exact PK.mpr (Ph.mpr (aJ [_,_,_] 0x620040010421 f)):¬(((s0+(ak q).length:Nat):Int)<b)) ..) (aa (TS t ..) ?_);rfl:(decide (((s0+(ak q).length:Nat):Int)<b)||decide ((c.toNat:Int)≠43))=TN)] at this;exact this
end
noncomputable section
noncomputable def Ip:S:=Kh (bd mr)
noncomputable def OK:E:=.lit (.bool TN)
end
section
variable (n:Nat) (g:FG) {d pl l q o:List UInt8} {p e:Nat} {s3 s4:Slot}
noncomputable abbrev FE (n:Nat) (g:FG) (K:Nat) (d:List UInt8) (p e:Nat) (s3 s4:Slot):Option (Fl×a7):=bk (λst=>aB (ag tab aE wm (n+3)) wm OK TN st) (λst=>aI (ag tab aE wm (n+3)) wm Ip st) K ⟨[.v (.bytes d),.v (.int p),.v (.int e),s3,s4],g⟩
theorem k9 {K:Nat} (h:aI (ag tab aE wm (n+3)) wm Ip ⟨[.v (.bytes d),.v (.int p),.v (.int e),s3,s4],g⟩=TK (.ret v,⟨ρ,g⟩)):FE n g (K+1) d p e s3 s4=TK (.ret v,⟨ρ,g⟩):=Fo TL h
theorem pR (h:dv (.bytes d) .find [.bytes [13,10],.int e]=TK (.int i)) (k:aI (ag tab aE wm (n+3)) wm (bd Ip) ⟨[.v (.bytes d),.v (.int p),.v (.int e),.v (.int i),s4],g⟩=TK w):aI (ag tab aE wm (n+3)) wm Ip ⟨[.v (.bytes d),.v (.int p),.v (.int e),s3,s4],g⟩=TK w:=ae (az (bn TL TL TL h) TL) k
theorem pS {K:Nat} (h:d.drop e=pl\/d.drop e=pl++[13]) (hp:∀c∈pl,c≠13):∃ρ X,FE n g (K+1) d p e s3 s4=TK (.ret (.tuple [.int (-1),X]),⟨ρ,g⟩):=(hY _ _ (k9 n g (pR n g (Es h hp) TL)))
theorem Eu {K:Nat} (h:d.drop e=pl++13::10::l) (hp:∀c∈pl,c≠13) (i:∀b y,pl=b++[y]->y≠125):∃ρ,FE n g (K+1) d p e s3 s4=TK (.ret (.tuple [.int (e+pl.length+2:Nat),.none]),⟨ρ,g⟩):=by
 have j:I (n+3) 600 [.bytes d,.int e,.int (e+pl.length:Nat)] g=TK (.none,g):=by
  refine Bz n g ?_;cases f:pl.reverse with
  |nil=>have:pl=[]:=S8.mp f;exact .inl (by refine aa (this ..) ?_;exact Px _)
  |cons x r=>
   have a:pl=r.reverse++[x]:=by exact bx (List.reverse_reverse pl ..) (aa (f ..) (aa (List.reverse_cons ..) TL))
   have z:pl.length=r.length+1:=by refine aa (a ..) (aa (g3 ..) (aa (Sn ..) ?_));rfl
   refine .inr (eK x ?_ (i _ _ a) (by exact aJ [_,_,_] 0x43030600004c08021 (O9 (Qf z))));refine aa (z ..) (aa (show e+(r.length+1)-1=e+r.length by exact TL) (aa (jN h ..) (aa (a ..) (aa (Pi ..) (aa (QD (by refine aa (Sn ..) ?_;exact Px _) ..) (aa (Sn ..) (aa (Tl ..) ?_)))))));rfl
 refine ⟨_,k9 n g (pR n g (vy h hp) (ae (aA TL (TR (by exact PK.mpr (Ph.mpr (aJ [_,_] 0x4102c00)):¬(((e+pl.length:Nat):Int)<0))) TL) (ae (az (aw TL TL j) TL) (ae (az (v:=.int (e+pl.length+2:Nat)) TL TL) TL))))⟩
theorem pT (j:k<=1000) (h:d.drop e=pl++123::(ak k++125::13::10::l)) (hp:∀c∈pl,c≠13) (r:aI (ag tab aE wm (n+3)) wm (bd (bd (bd (bd (bd Ip))))) ⟨[.v (.bytes d),.v (.int p),.v (.int (e+pl.length+1+(ak k).length+1+2:Nat)),.v (.int (e+pl.length+1+(ak k).length+1:Nat)),.v (.tuple [.int k,.bool TN])],g⟩=TK w):aI (ag tab aE wm (n+3)) wm Ip ⟨[.v (.bytes d),.v (.int p),.v (.int e),s3,s4],g⟩=TK w:=by
 have a:∀c∈pl++123::(ak k++[125]),c≠13:=λc m=>by
  refine PA (PE.mp m) (λm=>?_) λm=>?_
  ·exact hp c m
  ·refine PA (Pf.mp m) (λb=>?_) λm=>?_
   ·subst b;decide
   ·refine PA (PE.mp m) (λm=>?_) λm=>?_
    ·exact mH c m
    ·simp only [Pf,Pn,or_false] at m;subst m;decide
 have z:(pl++123::(ak k++[125])).length=pl.length+1+(ak k).length+1:=by simp only [g3,O8,PD];exact eb [_,_] 0x182604000318200020
 have f:=vy (by refine aa (h ..) ?_;simp:d.drop e=(pl++123::(ak k++[125]))++13::10::l) a;rw [z,show e+(pl.length+1+(ak k).length+1)=e+pl.length+1+(ak k).length+1 by exact eb [_,_,_] 0x183608200000c1b04000020] at f;have i:=BA n g (bV j TL) (PV _ _) (bx (P9 ..) (aa (h ..) (aa (Qd ..) TL)));rw [show e+pl.length+(ak k).length+2=e+pl.length+1+(ak k).length+1 by exact eb [_,_,_] 0x60d82080000346208000] at i;exact pR n g f (ae (aA TL (TR (PK.mpr (Ph.mpr (aJ [_,_,_] 0x60d820800002c00)):¬(((e+pl.length+1+(ak k).length+1:Nat):Int)<0))) TL) (ae (az (aw TL TL i) TL) (ae (az TL TL) (ae (aA (aG TL TL (A6 _).1) TL TL) r))))
theorem BB (h:d.drop e=pl++123::(ak k++125::13::10::l)):d.length=e+pl.length+1+(ak k).length+1+2+l.length:=by have:=TQ Qh h;rw [QC] at this;simp only [g3,O8] at this;lia
theorem BC {K:Nat} {w:Fl×a7} (i:q.length<=1000) (h:d.drop e=pl++(cr q++l)) (hp:∀c∈pl,c≠13) (a:q++l≠[]) (b:FE n g K d p (e+pl.length+(cr q).length) (.v (.int (e+pl.length+1+(ak q.length).length+1:Nat))) (.v (.tuple [.int q.length,.bool TN]))=TK w):FE n g (K+1) d p e s3 s4=TK w:=by
 have f:d.drop e=pl++123::(ak q.length++125::13::10::(q++l)):=by refine aa (h ..) ?_;unfold cr;simp
 have hd:=BB f;rw [(by unfold cr;simp only [g3,O8];exact eb [_,_,_,_] 0x2358360820000000318c6100000c0010400:e+pl.length+(cr q).length=e+pl.length+1+(ak q.length).length+1+2+q.length)] at b;refine cD (st1:=⟨[.v (.bytes d),.v (.int p),.v (.int e),s3,s4],g⟩) (st2:=⟨[.v (.bytes d),.v (.int p),.v (.int (e+pl.length+1+(ak q.length).length+1+2+q.length:Nat)),.v (.int (e+pl.length+1+(ak q.length).length+1:Nat)),.v (.tuple [.int q.length,.bool TN])],g⟩) TL (pT n g i f hp ?_) b;exact ae (aA TL (TR (by exact RY (Ps.mpr (aJ [_,_,_,_,_] 0xac6b06c10400000000008c58021291ac1b0410000000021 (O9 (Qf hd)) (PY.mpr a:0<(q++l).length))):¬(((e+pl.length+1+(ak q.length).length+1+2:Nat):Int)=d.length))) TL) (ae (az (v:=.int (e+pl.length+1+(ak q.length).length+1+2+q.length:Nat)) TL TL) (aA TL (TR (by exact PK.mpr (Ph.mpr (aJ [_,_,_,_,_,_,_] 0xa66b06c10400000000008730021291ac1b0410000000021 (O9 (Qf hd)) (O9 (Qf (g3:(q++l).length=q.length+l.length))))):¬((d.length:Int)<((e+pl.length+1+(ak q.length).length+1+2+q.length:Nat):Int)))) TL))
theorem xE {K k:Nat} (f:k<=1000) (h:d.drop e=pl++123::(ak k++125::13::10::l)) (hp:∀c∈pl,c≠13) (i:l.length<k\/l=[]):∃ρ X,FE n g (K+1) d p e s3 s4=TK (.ret (.tuple [.int (-1),X]),⟨ρ,g⟩):=by
 have hd:=BB h;by_cases b:l=[]
 ·subst b;have n1:((e+pl.length+1+(ak k).length+1+2:Nat):Int)=d.length:=by refine aa (hd ..) ?_;rfl
  exact (hY _ _ (k9 n g (pT n g f h hp (aS (aU TL (TS n1) TL)))))
 ·have kj:=i.resolve_right b;have a:0<l.length:=PY.mpr b;have n1:¬(((e+pl.length+1+(ak k).length+1+2:Nat):Int)=d.length):=by exact RY (Ps.mpr (aJ [_,_,_,_,_] 0xac6b06c10400000000008c58021291ac1b0410000000021 (O9 (Qf hd)) a))
  have j:(d.length:Int)<((e+pl.length+1+(ak k).length+1+2+k:Nat):Int):=by exact Ps.mpr (aJ [_,_,_,_,_,_] 0x3358460c400000003020000cc280212b58460c400000000421 (O9 hd) kj)
  exact (hY _ _ (k9 n g (pT n g f h hp (ae (aA TL (TR n1) TL) (ae (az (v:=.int (e+pl.length+1+(ak k).length+1+2+k:Nat)) TL TL) (aU TL (TS j) TL))))))
theorem Ew (ho:Pc o):∀{pl:List UInt8} {e K:Nat} {s3 s4:Slot},d.drop e=pl++(o++13::10::l)->(∀c∈pl,c≠13)->(∀b y,pl++o=b++[y]->y≠125)->o.length<K->∃ρ,FE n g K d p e s3 s4=TK (.ret (.tuple [.int (e+(pl++o).length+2:Nat),.none]),⟨ρ,g⟩):=by
 induction ho with
 |nil=>intro pl e K s3 s4 h hp f a;refine ac λi=>?_;obtain ⟨K,rfl⟩:∃k,K=k+1:=⟨K-1,by exact s5 a⟩;refine i ?_;clear i;rw [Pk] at f⊢;exact Eu n g h hp f
 |@one c o s _ j=>
  intro pl e K s3 s4 h hp f a;rw [O8] at a;rw [(by simp:pl++c::o=(pl++[c])++o)] at f⊢;refine j (by refine aa (h ..) ?_;simp) (λx m=>?_) f (by exact Pw a);refine PA (PE.mp m) (λm=>?_) λm=>?_
  ·exact hp x m
  ·simp only [Pf,Pn,or_false] at m;subst m;exact s
 |@lit q o t _ j=>
  intro pl e K s3 s4 h hp f a;rw [g3] at a;refine ac λi=>?_;obtain ⟨K,rfl⟩:∃k,K=k+1:=⟨K-1,by exact PJ (aJ [_,_] 0x608010018200421 (sr _ _)) (aJ [_,_] 0x130200004c08021 (ow (aJ [_,_,_] 0x1b0001b04100021 a)))⟩;have r:d.drop e=pl++(cr q++(o++13::10::l)):=by refine aa (h ..) ?_;simp
  obtain ⟨ρ,key⟩:=j (pl:=[]) (e:=e+pl.length+(cr q).length) (K:=K) (s3:=.v (.int (e+pl.length+1+(ak q.length).length+1:Nat))) (s4:=.v (.tuple [.int q.length,.bool TN]))
   (by rw [←P9,←P9,r,Qd,Qd];rfl) (λ_ m=>nomatch m) (λb y u=>f (pl++cr q++b) y (by rw [show o=b++[y] from u];simp)) (by exact aJ [_,_,_] 0x6c100000b160085830304100021 a (Rs _:0<(cr q).length))
  refine i ?_;clear i;refine ⟨ρ,BC n g t r hp (by simp) ?_⟩;refine aa (key ..) ?_;have z:e+pl.length+(cr q).length+([]++o).length+2=e+(pl++(cr q++o)).length+2:=by simp only [g3,PD];exact eb [_,_,_,_] 0x69060100200348b00c4100000
  exact aa (z ..) TL
theorem Ex (ho:Pc o):∀{pl t u:List UInt8} {e K:Nat} {s3 s4:Slot},d.drop e=t->t++u=pl++(o++[13,10])->u≠[]->(∀c∈pl,c≠13)->o.length<K->∃ρ X,FE n g K d p e s3 s4=TK (.ret (.tuple [.int (-1),X]),⟨ρ,g⟩):=by
 induction ho with
 |nil=>
  intro pl t u e K s3 s4 h ht f hp b;refine ac λw=>?_;obtain ⟨K,rfl⟩:∃k,K=k+1:=⟨K-1,by exact s5 b⟩;refine w ?_;have f:=PY.mpr f;have r:=TQ Qh ht;simp only [g3,O8,PD] at r;have a:t=(pl++[13,10]).take t.length:=by have:=ht.symm;exact aa (this ..) (aa (QK ..) TL)
  by_cases s:t.length<=pl.length
  ·rw [R7 s] at a;exact pS n g (.inl (h.trans a)) λc m=>hp c (R8 m)
  ·have z:t.length=pl.length+1:=by exact PJ (aJ [_,_,_] 0x60c02001a3004400842c58021 f (O9 r)) (aJ [_,_] 0x130200004c08021 (QA s))
   rw [z,Th,Rn (by exact aJ [_] 0x18100400),show pl.length+1-pl.length=1 by exact PJ (aJ [_,_] 0x604006080208021 (ow (aJ [_] 0x18100400))) (aJ [_,_] 0x130000880c08021 (sr _ _))] at a;exact pS n g (pl:=pl) (.inr (h.trans a)) hp
 |@one c o O _ y=>
  intro pl t u e K s3 s4 h ht f hp b;rw [O8] at b;refine y (pl:=pl++[c]) h (by refine aa (ht ..) ?_;simp) f (λx m=>?_) (by exact Pw b);refine PA (PE.mp m) (λm=>?_) λm=>?_
  ·exact hp x m
  ·simp only [Pf,Pn,or_false] at m;subst m;exact O
 |@lit q o L _ y=>
  intro pl t u e K s3 s4 h ht f hp b;rw [g3] at b;refine ac λw=>?_;obtain ⟨K,rfl⟩:∃k,K=k+1:=⟨K-1,by exact PJ (aJ [_,_] 0x608010018200421 (sr _ _)) (aJ [_,_] 0x130200004c08021 (ow (aJ [_,_,_] 0x1b0001b04100021 b)))⟩;refine w ?_;have P:0<(cr q).length:=Rs _;have i:∀c∈pl++123::(ak q.length++[125]),c≠13:=λc m=>by
   refine PA (PE.mp m) (λm=>?_) λm=>?_
   ·exact hp c m
   ·refine PA (Pf.mp m) (λA=>?_) λm=>?_
    ·subst A;decide
    ·refine PA (PE.mp m) (λm=>?_) λm=>?_
     ·exact mH c m
     ·simp only [Pf,Pn,or_false] at m;subst m;decide
  have Q:pl++(cr q++o++[13,10])=(pl++123::(ak q.length++[125]))++(13::10::(q++(o++[13,10]))):=by unfold cr;simp
  rw [Q] at ht;generalize M:pl++123::(ak q.length++[125])=H at*;have a:t=(H++(13::10::(q++(o++[13,10])))).take t.length:=by exact bx (ht ..) (aa (QK ..) TL)
  by_cases s:t.length<=H.length
  ·rw [R7 s] at a;exact pS n g (.inl (h.trans a)) λc m=>i c (R8 m)
  ·obtain ⟨j,R⟩:∃j,t.length=H.length+(j+1):=⟨t.length-H.length-1,by lia⟩;rw [R,Th,Rn (by exact PV _ _),RT,List.take_succ_cons] at a;cases j with
   |zero=>exact pS n g (pl:=H) (.inr (h.trans a)) i
   |succ j=>
    rw [List.take_succ_cons] at a;have T:=PY.mpr f;have r:=TQ Qh ht;simp only [g3,O8,PD] at r;by_cases B:j<q.length\/(q++(o++[13,10])).take j=[]
    ·have v:d.drop e=pl++123::(ak q.length++125::13::10::(q++(o++[13,10])).take j):=by refine aa (h ..) (aa (a ..) (bx (M ..) ?_));simp
     refine xE n g L v hp (B.imp (λB=>?_) id);refine aa (R5 ..) ?_;lia
    ·have C:q.length<=j:=by lia
     have N:(q++(o++[13,10])).take j=q++(o++[13,10]).take (j-q.length):=by exact aa (Th ..) (aa (Rn C ..) TL)
     have D:=λk=>B (.inr (N.trans k));have v:d.drop e=pl++(cr q++(o++[13,10]).take (j-q.length)):=by refine aa (h ..) (aa (a ..) (aa (N ..) (bx (M ..) ?_)));unfold cr;simp
     have F:(o++[13,10]).take (j-q.length)++(o++[13,10]).drop (j-q.length)=[]++(o++[13,10]):=R0 _ _;have J:(o++[13,10]).drop (j-q.length)≠[]:=λk=>by have:=Qb.mp k;rw [g3] at this;simp only [O8,PD] at this;lia
     obtain ⟨ρ,X,key⟩:=y (pl:=[]) (e:=e+pl.length+(cr q).length) (K:=K)
      (by rw [←P9,←P9,v,Qd,Qd]) F J (λ_ m=>nomatch m) (by exact aJ [_,_,_] 0x6c100000b160085830304100021 b P)
     exact (hY ρ X (BC n g L v hp D key))
theorem H1 (ho:Line o) (h:d.drop p=o++l) (a:o.length<=1000000):I (n+4) 607 [.bytes d,.int p] g=TK (.tuple [.int (p+o.length:Nat),.none],g):=by
 refine ac λc=>bB ho.ex λb y e pc f=>?_;have hL:o.length=(b++[y]).length+2:=by refine aa (e ..) (aa (g3 ..) ?_);rfl
 obtain ⟨ρ,key⟩:=Ew n g (l:=l) pc (pl:=[]) (K:=turns) (s3:=.u) (s4:=.u) (by refine aa (h ..) (aa (e ..) ?_);simp) (λ_ m=>nomatch m) (λb' y' i=>by
  have:=List.append_inj' (show b++[y]=b'++[y'] from i) TL;refine bx (((QX this.2).1) ..) ?_;exact f) (Pb (show (b++[y]).length<=1000000 by exact aJ [_,_] 0x7d25485840005a20042fa4a90b0421 a (O9 (Qf hL))) (by decide))
 refine c ?_;rw [List.nil_append,show p+(b++[y]).length+2=p+o.length by exact PJ (aJ [_,_,_] 0x10c0d08c000004d08021 (O9 (Qf hL))) (aJ [_,_,_] 0x6886000460001a200421 (O9 hL))] at key;apply fn TL TL;exact ae TL (eW key)
theorem vz (ho:Line o) (h:d.drop p=t) (ht:t++u=o) (a:u≠[]) (c:o.length<=1000000):∃X,I (n+4) 607 [.bytes d,.int p] g=TK (.tuple [.int (-1),X],g):=by refine ac λf=>bB ho.ex λb y e pc i=>?_;refine xK (Ex n g (p:=p) pc (pl:=[]) (K:=turns) (s3:=.u) (s4:=.u) h (by refine aa (ht ..) (aa (e ..) ?_);simp) a (λ_ m=>nomatch m) (Pb (show (b++[y]).length<=1000000 by exact aJ [_,_] 0x7d25485840005a20042fa4a90b0421 c (O9 (Qf (by refine aa (e ..) (aa (g3 ..) ?_);rfl:o.length=(b++[y]).length+2)))) (by decide))) λρ X key=>?_;refine f ?_;refine ⟨X,?_⟩;apply fn TL TL;exact ae TL (eW key)
end
noncomputable section
noncomputable def a6 (rs:List f0):List UInt8:=rs.flatMap λr=>r.2.2
noncomputable def Tail (t:List UInt8) (rs:List f0):Prop:=(rs=[]/\t=[])\/∃r rs' u,rs=r::rs'/\t++u=r.2.2/\u≠[]
noncomputable def kI (r:f0):Prop:=gB r.1 r.2.1 r.2.2
noncomputable def sk (p:Nat):List f0->Int
 |[]=>-1
 |r::_=>(p+r.2.2.length:Nat)
noncomputable def OL:E:=.cmp .GtE (.var 3) (.lit (.int 0))
noncomputable def OM:S:=.seq (.app 1 (.call (.lit (.ref 811)) (.cons (.pX (.var 0) (.var 2) (.var 3)) .nil)))
  (.seq (.asg 2 (.var 3))
  (.asg 3 (.sub (.call (.lit (.ref 607)) (.cons (.var 0) (.cons (.var 2) .nil))) (.lit (.int 0)))))
end
theorem vA {p:Nat}:ck (.bytes d) (.int p) .none=TK (.bytes (d.drop p)):=by
 have e:cN (.bytes d) (.int p) .none=TK (.bytes (eP d (min p d.length) d.length)):=by unfold cN cutAt;dsimp only;refine aa (TY (Pu p) ..) ?_;rfl
 have a:eP d (min p d.length) d.length=d.drop p:=by
  unfold eP;refine aa (Rj ..) ?_;by_cases h:p<=d.length
  ·exact aa (RO h ..) TL
  ·exact aa (R2 (aJ [_,_] 0x410004c08021 (QA h)) ..) (aa (Qc (Px _) ..) (aa (Qc (aJ [_,_] 0x410004c08021 (QA h)) ..) TL))
 show cf (cN (.bytes d) (.int p) .none)=_;refine aa (e ..) (aa (a ..) ?_);rfl
section
variable (n:Nat) {c:List Int} {a:Nat} {d t:List UInt8}
theorem BD:Line (hV [73,68,32,78,73,76]):=Bx.ln
theorem vB {rs rs':List f0} {p:Nat} {x1:Slot} {x3:Slot} (hr:∀r∈rs,kI r) (g:∀r∈rs',kI r) (h:d.drop p=a6 rs++t) (ht:Tail t rs'):aB (ag tab aE wm (n+39)) wm (.sub (.call (.lit (.ref 607)) (.cons (.var 0) (.cons (.var 2) .nil))) (.lit (.int 0))) TO ⟨[.v (.bytes d),x1,.v (.int p),x3],Sg c a⟩=TK (.int (sk p rs),⟨[.v (.bytes d),x1,.v (.int p),x3],Sg c a⟩):=by
 have key:∃X,I (n+39) 607 [.bytes d,.int p] (Sg c a)=TK (.tuple [.int (sk p rs),X],Sg c a):=by
  cases rs with
  |nil=>
   have h:d.drop p=t:=h;refine PA ht (λb=>aM b λk f=>?_) λb=>H9 b λr rs2 u f e j=>?_
   ·subst f;exact vz (n+35) (Sg c a) BD (u:=hV [73,68,32,78,73,76]) h TL (by decide) (by decide)
   ·subst f;exact vz (n+35) (Sg c a) (g r (.head _)).ln h e j (O5 (g r (.head _)).len (by decide))
  |cons r rs=>have A:=hr r (.head _);exact ⟨.none,H1 (n+35) (Sg c a) (l:=a6 rs++t) A.ln (by refine aa (h ..) ?_;show r.2.2++a6 rs++t=_;exact aa (Pi ..) TL) (O5 A.len (by decide))⟩
 exact cR key λX key=>bp (aw TL TL key) TL (AQ (i:=0) TL)
theorem Ey (i:∀r∈rs',kI r) (ht:Tail t rs'):∀{rs:List f0} {acc:List V} {p K:Nat},(∀r∈rs,kI r)->d.drop p=a6 rs++t->acc.length+rs.length<=1000->rs.length<K-> ∃e:List (V×V),e.map (·.2)=rs.map (·.2.1)/\(∀x∈e,kH 20 x.1 x.2)/\bk (λst=>aB (ag tab aE wm (n+39)) wm OL TN st) (λst=>aI (ag tab aE wm (n+39)) wm OM st) K ⟨[.v (.bytes d),.ml acc,.v (.int p),.v (.int (sk p rs))],Sg c a⟩=TK (.next,⟨[.v (.bytes d),.ml (acc++e.map (·.1)),.v (.int (p+(a6 rs).length:Nat)),.v (.int (-1))],Sg c a⟩):=by
 intro o;induction o with
 |nil=>
  intro acc p K q h s u;rcases K with _|K
  ·first|exact TU u (O7 _)|exact TU s (O7 _)|exact TU h (O7 _)|exact TU q (O7 _)|exact TU p (O7 _)|exact TU acc (O7 _)
  exact (eK [] TL (λ_ m=>(nomatch m)) (by refine aa (Qs ..) (aa (Pk ..) ?_);exact cP TL))
 |cons r rs w=>
  intro acc p K hr h g j;rcases K with _|K
  ·first|exact TU j (O7 _)|exact TU g (O7 _)|exact TU h (O7 _)|exact TU hr (O7 _)|exact TU p (O7 _)|exact TU acc (O7 _)
  rw [O8] at g j;have f:=λx m=>hr x (.tail _ m);have k:d.drop p=r.2.2++(a6 rs++t):=by refine aa (h ..) ?_;exact aa (Pi ..) TL
  have l:d.drop (p+r.2.2.length)=a6 rs++t:=by exact bx (P9 ..) (aa (k ..) (aa (Qd ..) TL))
  refine ac λy=>aT ((hr r (.head _)).r (n+9) c a) λv ev z=>?_;refine ix (w (acc:=acc++[v]) (K:=K) f l (by refine aa (g3 ..) ?_;exact s1 g) (by exact PR j)) λe A B C=>?_;refine y ?_;refine (eK ((v,r.2.1)::e) (by exact aa (Qe ..) (aa (Qe ..) (aa (A ..) TL))) (all_cons z B) ?_);refine aa ((by simp:acc++((v,r.2.1)::e).map (·.1)=acc++[v]++e.map (·.1)) ..) (aa ((by refine aa (g3 ..) ?_;exact eb [_,_,_] 0x620800310020:p+(a6 (r::rs)).length=p+r.2.2.length+(a6 rs).length) ..) ?_);have sl:ck (.bytes d) (.int p) (.int (sk p (r::rs)))=TK (.bytes r.2.2):=by exact aa (pC ..) (aa (iZ ..) (aa (k ..) (aa (QK ..) TL)))
  refine cD (ez TL TL TL (TQ (λb=>TK (V.bool b,(⟨[.v (.bytes d),.ml acc,.v (.int p),.v (.int (sk p (r::rs)))],Sg c a⟩:a7))) (TS (Pu _)))) ?_ C;exact ae (cY TL (aw TL (aF (db TL TL TL sl)) ev) TL (Pb (show acc.length<=1000 by exact bl g) (by decide)) TL) (ae (az TL TL) (az (vB n f i l ht) TL))
theorem oo (hr:∀r∈rs,kI r) (e:∀r∈rs',kI r) (ht:Tail t rs') (f:rs.length<=100) (hd:d=a6 rs++t):∃b:List (V×V),b.map (·.2)=rs.map (·.2.1)/\(∀x∈b,kH 20 x.1 x.2)/\I (n+40) 818 [.bytes d] (Sg c a)=TK (.tuple [.list (b.map (·.1)),.bytes t],Sg c a):=by have g:=hd;refine ix (Ey n (c:=c) (a:=a) e ht (acc:=[]) (p:=0) (K:=turns) hr g (by exact bL f TL) (Pb f (by decide))) λb h i j=>?_;refine (eK b h i ?_);apply fn TL TL;exact ae TL (ae (az TL TL) (ae (az (vB n hr e g ht) TL) (ae (eW j) (ax (aX (au TL (aF (db TL TL TL (aa (vA ..) (aa (Re ..) (aa (hd ..) (aa (Qd ..) TL))):ck (.bytes d) (.int (0+(a6 rs).length:Nat)) .none=TK (.bytes t))))))))))
end
noncomputable section
noncomputable def endsF (acc:Nat):List f0->List Nat
 |[]=>[]
 |r::rs=>(acc+r.2.2.length)::endsF (acc+r.2.2.length) rs
end
theorem sn:∀{rs:List f0} {acc e:Nat},e∈endsF acc rs->acc<=e
 |r::rs,acc,e,m=>by
  refine PA (Pf.mp m) (λa=>?_) λm=>?_
  ·subst a;exact PV _ _
  ·have:=sn m;exact bl this
theorem dP (r:f0) (rs:List f0):a6 (r::rs)=r.2.2++a6 rs:=TL
theorem BE:∀{rs:List f0} {acc place:Nat},acc<=place->place<=acc+(a6 rs).length->∃rs1 rs2 t,rs=rs1++rs2/\acc+(a6 rs1).length+t.length=place/\Tail t rs2/\((endsF acc rs).filter λe=>decide (e<=place))=endsF acc rs1:=by
 intro f;induction f with
 |nil=>intro acc place c a;exact (EG [] [] [] TL (by have:=a;exact PJ (aJ [_,_] 0x12d610000010421 c) (aJ [_,_] 0x16b100010016200421 a)) (.inl ⟨TL,TL⟩) TL)
 |cons r rs g=>
  intro acc place c a;rw [dP,g3] at a;by_cases h:acc+r.2.2.length<=place
  ·refine xM (g h (aJ [_,_,_,_] 0x20c400040020c0200421 a)) λrs1 rs2 t i d j l=>?_;refine (EG (r::rs1) rs2 t (by refine aa (i ..) ?_;rfl) (by refine aa (dP ..) (aa (g3 ..) ?_);exact PJ (aJ [_,_,_,_,_] 0x2906200400000a41882000021 (O9 d)) (aJ [_,_,_,_,_] 0x2906010001000a41880000421 (O9 (Qf d)))) j ?_);exact aa (RS (p:=λe=>decide (e<=place)) (TS h:(λe=>decide (e<=place)) (acc+r.2.2.length)=TN) ..) (aa (l ..) TL)
  ·refine (EG [] (r::rs) (r.2.2.take (place-acc)) TL (by show acc+0+_=_;refine aa (R5 ..) ?_;lia) (.inr (MY r rs (r.2.2.drop (place-acc)) TL (R0 _ _) (λk=>?_))) ?_)
   ·have:=Qb.mp k;lia
   ·refine List.filter_eq_nil_iff.mpr λe m k=>PA (Pf.mp m) (λb=>?_) λm=>?_
    ·subst b;exact h (TM k)
    ·have:=sn m;lia
theorem oq:∀{rs:List f0} {acc:Nat},(endsF acc rs).length=rs.length:=by
 intro a;induction a with
 |nil=>intro c;exact TL
 |cons r rs b=>intro acc;show (endsF _ rs).length+1=_;refine aa (b ..) ?_;rfl
theorem so:∀{rs1 rs2:List f0} {acc:Nat},rs1≠[]->(endsF acc (rs1++rs2))[rs1.length-1]?=TK (acc+(a6 rs1).length)
 |[],_,_,h=>TU TL h
 |[r],rs2,acc,_=>by show TK (acc+r.2.2.length)=TK (acc+(r.2.2++[]).length);exact aa (Pk ..) TL
 |r::a::rs,rs2,acc,_=>by have:=so (rs1:=a::rs) (rs2:=rs2) (acc:=acc+r.2.2.length) (Qz _ _);show ((acc+r.2.2.length)::endsF (acc+r.2.2.length) (a::rs++rs2))[(a::rs).length]?=_;rw [show (a::rs).length=((a::rs).length-1)+1 from TL,RU,this,dP r,g3,Q7]
theorem xF (a b:List f0):a6 (a++b)=a6 a++a6 b:=List.flatMap_append
theorem ot (h:∀x∈l,mY 11 x):da .Eq (.list l) (.list l)=TK TN/\da .NotEq (.list l) (.list l)=TK TO:=by
 have a:wV l l=TN:=by have:=pH (f:=id) λx m=>(h x m).eq;rw [S5] at this;exact this
 have b:l.all (b6 11)=TN:=Pa.mpr λx m=>by have:=(h x m).pl 0;rw [Re] at this;exact this
 have d:aV l=TN:=by have:=dc (f:=id) λx m=>(h x m).cl;rw [S5] at this;exact this
 have c:(aN (.list l)&&aN (.list l))=TN:=by show (aV l&&aV l)=TN;refine aa (d ..) ?_;rfl
 have e:rE .Eq (.list l) (.list l)=TK TN:=by show (if (wV l l&&l.all (b6 11))=TN then _ else TW)=_;refine aa (a ..) (aa (b ..) ?_);rfl
 have g:rE .NotEq (.list l) (.list l)=TK TO:=by show (if (wV l l&&l.all (b6 11))=TN then _ else TW)=_;refine aa (a ..) (aa (b ..) ?_);rfl
 constructor
 ·unfold da;exact aa (TY c ..) e
 ·unfold da;exact aa (TY c ..) g
theorem BF {k:Nat}:ck (.list l) .none (.int k)=TK (.list (l.take k)):=by
 have a:cutAt l.length l.length (.int k)=TK (min k l.length):=by unfold cutAt;dsimp only;refine aa (TY (Pu k) ..) ?_;rfl
 refine aa ((TL:cutAt l.length 0 .none=TK 0) ..) (aa (a ..) ?_);show TK (V.list ((l.take (min k l.length)).drop 0))=_;exact aa (TD ..) (bx (List.take_eq_take_min ..) TL)
theorem BG {k:Nat}:ck (.list l) (.int k) .none=TK (.list (l.drop k)):=by
 have a:cutAt l.length 0 (.int k)=TK (min k l.length):=by unfold cutAt;dsimp only;refine aa (TY (Pu k) ..) ?_;rfl
 refine aa ((TL:cutAt l.length l.length .none=TK l.length) ..) (aa (a ..) ?_);show TK (V.list ((l.take l.length).drop (min k l.length)))=_;refine aa (Rj ..) ?_;by_cases h:k<=l.length
 ·exact aa (RO h ..) TL
 ·exact aa (R2 (aJ [_,_] 0x410004c08021 (QA h)) ..) (aa (Qc (Px _) ..) (aa (Qc (aJ [_,_] 0x410004c08021 (QA h)) ..) TL))
theorem Kq {k:Nat}:ck (.bytes d) .none (.int k)=TK (.bytes (d.take k)):=by
 have:=pC (d:=d) (i:=0) (j:=k);have e:ck (.bytes d) .none (.int k)=ck (.bytes d) (.int (0)) (.int k):=by
  have a:cutAt d.length 0 .none=cutAt d.length 0 (.int (0)):=by unfold cutAt;dsimp only;refine aa (TY (Pu 0) ..) ?_;exact aa (Nat.zero_min ..) TL
  exact aa (a ..) TL
 exact aa (e ..) (aa (this ..) (aa (TD ..) TL))
theorem ints_map:∀l:List Int,gt (l.map .int)=TK l:=by
 intro a;induction a with
 |nil=>exact TL
 |cons i r b=>show (gt (r.map .int)).map (i::·)=_;refine aa (b ..) ?_;rfl
theorem BH (l:List Nat):aV (l.map λ(k:Nat)=>V.int k)=TN:=dc λ_ _=>rfl
noncomputable section
noncomputable def ON:S:=.seq (.ite (.cmp .NotEq (.call (.lit (.ref 693)) (.cons (.var 6) .nil)) (.var 8)) (.ret (.lit (.bool TO))) .skip)
  (.seq (.asg 4 (.bin .Add (.var 4) (.var 8)))
  (.app 5 (.oC 4)))
end
theorem BI {st:a7} {b:Type} {l:List b} (F:b->V) (P:b->Bool) (c:aB R wm it TO st=TK (x,⟨ρ,g⟩)) (d:cO x=TK (l.map F)) (f:l.length<=1000000) (i:∀x∈l,aB R wm cnd TN ⟨ρ.map hide++[.v (F x)],g⟩=TK (.bool (P x),⟨ρ.map hide++[.v (F x)],g⟩)/\aB R wm e TO ⟨ρ.map hide++[.v (F x)],g⟩=TK (F x,⟨ρ.map hide++[.v (F x)],g⟩)):aB R wm (.comp e 1 it cnd) TO st=TK (.list ((l.filter P).map F),⟨ρ,g⟩):=by
 refine mz c d (by refine aa (Pd ..) ?_;exact O5 f (by decide)) ?_ (eE g) TL;have:∀(l:List b) acc,(∀x∈l,aB R wm cnd TN ⟨ρ.map hide++[.v (F x)],g⟩=TK (.bool (P x),⟨ρ.map hide++[.v (F x)],g⟩)/\aB R wm e TO ⟨ρ.map hide++[.v (F x)],g⟩=TK (F x,⟨ρ.map hide++[.v (F x)],g⟩))-> ey (λst=>aB R wm e TO st) (λst=>aB R wm cnd TN st) 1 (ρ.map hide) (l.map F) acc g=TK (acc++(l.filter P).map F,g):=by
  intro l;induction l with
  |nil=>intro acc _;exact aa (Pk ..) TL
  |cons a r j=>
   intro acc h;refine aM (h a (.head _)) λha k=>?_;have hr:=λacc=>j acc λx m=>h x (.tail _ m);cases hp:P a with
   |true=>rw [hp] at ha;refine aa (RS hp ..) (mC TL ha k ?_);have:=hr (acc++[F a]);rw [Pi] at this;exact this
   |false=>rw [hp] at ha;refine aa (S6 (by refine aa (hp ..) ?_;exact Pm) ..) ?_;exact Hy TL ha (hr acc)
 exact this l [] i
section
variable (n:Nat) {c:List Int} {a:Nat}
theorem BJ:∀{rs:List f0} {d:List UInt8} {E:List Nat} {s6 s7 s8:Slot},(∀r∈rs,kI r)->E.length+rs.length<=1000->d.length+20000*rs.length<=100000->∃b f g,iT (λst=>aI (ag tab aE wm (n+49)) wm ON st) [6,7,8] (rs.map gy) ⟨[.v x0,.v x1,.v x2,.v x3,.v (.bytes d),.ml (E.map λ(k:Nat)=>.int k),s6,s7,s8,.u,.u,.u,.u,.u],Sg c a⟩=TK (.next,⟨[.v x0,.v x1,.v x2,.v x3,.v (.bytes (d++a6 rs)),.ml ((E++endsF d.length rs).map λ(k:Nat)=>.int k),b,f,g,.u,.u,.u,.u,.u],Sg c a⟩):=by
 intro l;induction l with
 |nil=>intro d E s6 s7 s8 t y z;exact (K5 s6 s7 s8 (by refine aa (show a6 []=[] from TL) (aa (show endsF d.length []=[] from TL) (aa (Pk ..) (aa (Pk ..) ?_)));rfl))
 |cons r rs o=>
  intro d E s6 s7 s8 hr i hd;rw [O8] at i hd;have A:=hr r (.head _);have j:=A.len;refine KA (o (d:=d++r.2.2) (E:=E++[d.length+r.2.2.length]) (s6:=.v r.1) (s7:=.v r.2.1) (s8:=.v (.bytes r.2.2)) (λx m=>hr x (.tail _ m)) (by refine aa (g3 ..) ?_;exact s1 i) (by refine aa (g3 ..) ?_;exact aJ [_,_,_] 0xe2da85844f4a15184000009e942c308438b6a1660804f4a1508021 hd j)) λb f g e=>?_;refine (K5 b f g ?_);have q:E++endsF d.length (r::rs)=E++[d.length+r.2.2.length]++endsF (d++r.2.2).length rs:=by refine aa (g3 ..) (aa (Pi ..) ?_);rfl
  refine aa ((by exact aa (dP ..) (aa (Pi ..) TL):d++a6 (r::rs)=d++r.2.2++a6 rs) ..) (aa (q ..) ?_);have s:(E++[d.length+r.2.2.length]).map (λ(k:Nat)=>V.int k)=E.map (λ(k:Nat)=>V.int k)++[.int ((d++r.2.2).length:Nat)]:=by refine aa (Qk ..) (aa (g3 ..) ?_);rfl
  refine fL TL ?_ e;refine ae (aA (aG (aw TL TL (A.w (n+19) c a)) TL TL) (TR (λh=>h TL)) TL) (ae (az (ai TL TL (am (ah (bA (bl hd) j TL)))) TL) (cY TL TL TL (Pb (show (E.map λ(k:Nat)=>V.int k).length<=1000 by refine aa (Pd ..) ?_;exact bl i) (by decide)) ?_));refine aa (s ..) ?_;rfl
theorem BK (h:kH 20 v t):I (n+49) 619 [v] (Sg c a)=TK (t,Sg c a):=by apply fn TL TL;exact ax (aw TL TL (h (n+28) _))
end
theorem BL:∀{rs:List f0},(∀r∈rs,kI r)->(a6 rs).length<=20000*rs.length:=by
 intro a;induction a with
 |nil=>intro c;exact Px _
 |cons r rs b=>intro h;refine aa (dP ..) (aa (g3 ..) (aa (O8 ..) ?_));exact aJ [_,_,_] 0x183013d2854410000327a50a882127a50b0421 ((h r (.head _)).len) (b λx m=>h x (.tail _ m))
section
variable (n:Nat) {c:List Int}
theorem BM (hc:Cells c) {a:Nat} {x0 x1:V} {rs:List f0} (hr:∀r∈rs,kI r) (P:rs.length<=4):∃(ρ:List Slot) (a':Nat),jx (ag tab aE wm (n+49)) wm (jY.drop 3) ⟨[.v x0,.v x1,.v (.ref 2),.v (.list (rs.map gy)),.u,.u,.u,.u,.u,.u,.u,.u,.u,.u],Sg c a⟩=TK (.ret (.bool TN),⟨ρ,Sg c a'⟩):=by
 refine ac λQ=>?_;refine KA (BJ n (c:=c) (a:=a) (x0:=x0) (x1:=x1) (x2:=.ref 2) (x3:=.list (rs.map gy)) (rs:=rs) (d:=[]) (E:=[]) (s6:=.u) (s7:=.u) (s8:=.u) hr (by show 0+rs.length<=_;exact bL P TL) (by show 0+_<=_;exact bL (Q1 _ P) TL)) λJ L M el=>?_;refine aT (draw hc (n+48) a (Rs _)) λpl OO OP=>xM (BE (rs:=rs) (acc:=0) (place:=pl) (QF _) (by exact aJ [_,_] 0x4b004006080c08021 OO)) λrs1 rs2 t D e2 e3 e4=>Q ?_;clear Q;have T:∀r∈rs1,kI r:=λr m=>hr r (by refine aa (D ..) ?_;exact QU _ m);have F:∀r∈rs2,kI r:=λr m=>hr r (by refine aa (D ..) ?_;exact P4 _ m);have w:rs1.length+rs2.length<=4:=by refine bx (g3 ..) (bx (D ..) ?_);exact P
 refine ac λQ=>?_;obtain ⟨u,hu⟩:∃u,a6 rs2=t++u:=by
  refine PA e3 (λH=>aM H λo L1=>?_) λH=>H9 H λr rs' u o e z9=>?_
  ·subst o;subst L1;exact ⟨[],TL⟩
  ·subst o;exact ⟨u++a6 rs',by exact aa (dP ..) (bx (e ..) (aa (Pi ..) TL))⟩
 have hd:a6 rs=(a6 rs1++t)++u:=by exact aa (D ..) (aa (xF ..) (aa (hu ..) (aa (Pi ..) TL)))
 have B:pl=(a6 rs1++t).length:=by refine aa (g3 ..) ?_;exact PJ (aJ [_,_,_] 0x62004001896000421 (O9 (Qf e2))) (aJ [_,_,_] 0x62080001882b00021 (O9 e2))
 have z:(a6 rs).take pl=a6 rs1++t:=by exact aa (hd ..) (aa (B ..) (aa (QK ..) TL))
 refine ix (oo (n+9) (c:=c) (a:=a+1) (rs:=rs1) (rs':=rs2) (t:=t) T F e3 (by exact bT (bl w) TL) (d:=(a6 rs).take pl) z) λN f1 g1 k1=>ix (oo (n+9) (c:=c) (a:=a+1) (rs:=rs2) (rs':=[]) (t:=[]) F (λ_ m=>nomatch m) (.inl ⟨TL,TL⟩) (by exact bT (br w) TL) (d:=t++u) (by exact aa (Pk ..) (aa (hu ..) TL))) λU f2 g2 k2=>Q ?_;clear Q;have zt:t.length+u.length<=80000:=by have:=TQ Qh hd;simp only [g3] at this;exact aJ [_,_,_,_,_] 0x678c42c5200001148300021093d2854410bc24f4a01 P (BL hr) (O9 (Qf this))
 have OQ:N.length<=1000000:=by have:=TQ Qh f1;rw [Pd,Pd] at this;exact aJ [_,_,_] 0x3e92a42c300023085e208021 w (O9 this)
 have MF:U.length<=1000000:=by have:=TQ Qh f2;rw [Pd,Pd] at this;exact aJ [_,_,_] 0x3e92a42c300043085e208021 w (O9 this)
 have q1:=ot (l:=N.map (·.2)) λx m=>by rw [f1] at m;refine mM m λr hm o=>?_;subst o;exact (T r hm).pl
 have q2:=ot (l:=U.map (·.2)) λx m=>by rw [f2] at m;refine mM m λr hm o=>?_;subst o;exact (F r hm).pl
 let R:=ag tab aE wm (n+49)
 let s5:List Slot:=[.v x0,.v x1,.v (.ref 2),.v (.list (rs.map gy)),.v (.bytes (a6 rs)),.ml ((endsF 0 rs).map λ(k:Nat)=>.int k),J,L,M,.u,.u,.u,.u,.u]
 let s9:List Slot:=[.v x0,.v x1,.v (.ref 2),.v (.list (rs.map gy)),.v (.bytes (a6 rs)),.ml ((endsF 0 rs).map λ(k:Nat)=>.int k),J,L,M,.v (.int pl),.u,.u,.u,.u]
 let ev:V:=.list ((endsF 0 rs).map λ(k:Nat)=>.int k)
 let W:List Slot:=[.v x0,.v x1,.v (.ref 2),.v (.list (rs.map gy)),.v (.bytes (a6 rs)),.v ev,J,L,M,.v (.int pl),.v (.int rs1.length),.u,.u,.u]
 let X:List Slot:=[.v x0,.v x1,.v (.ref 2),.v (.list (rs.map gy)),.v (.bytes (a6 rs)),.v ev,J,L,M,.v (.int pl),.v (.int rs1.length),.v (.list (N.map (·.1))),.v (.bytes t),.u]
 let b:List Slot:=[.v x0,.v x1,.v (.ref 2),.v (.list (rs.map gy)),.v (.bytes (a6 rs)),.v ev,J,L,M,.v (.int pl),.v (.int rs1.length),.v (.list (N.map (·.1))),.v (.bytes t),.v (.int (a6 rs1).length)]
 let q:List Slot:=[.v x0,.v x1,.v (.ref 2),.v (.list (rs.map gy)),.v (.bytes (a6 rs)),.v ev,J,L,M,.v (.int pl),.v (.int rs1.length),.v (.list (U.map (·.1))),.v (.bytes []),.v (.int (a6 rs1).length)]
 have b7:aI R wm (.asg 9 (.call (.lit (.ref 835)) (.cons (.var 2) (.cons (.bin .Add (.oC 4) (.lit (.int 1))) .nil)))) ⟨s5,Sg c a⟩=TK (.next,⟨s9,Sg c (a+1)⟩):=az (aw TL TL OP) TL;have b8:aI R wm (.asg 10 (.call (.lit (.bi .len)) (.cons (.comp (.var 14) 1 (.var 5) (.cmp .LtE (.var 14) (.var 9))) .nil))) ⟨s9,Sg c (a+1)⟩=TK (.next,⟨W,Sg c (a+1)⟩):=by
  have hf:=BI (R:=R) (g:=Sg c (a+1)) (st:=⟨s9,Sg c (a+1)⟩) (e:=.var 14) (it:=.var 5) (cnd:=.cmp .LtE (.var 14) (.var 9)) (l:=endsF 0 rs) (λ(k:Nat)=>.int k) (λe=>decide (e<=pl)) TL TL (by refine aa (oq ..) ?_;exact bT P TL) λx m=>by
   constructor
   ·refine aG (t:=decide (x<=pl)) TL TL ?_;show TK (decide ((x:Int)<=pl))=_;exact aa (decide_eq_decide.mpr Ph ..) TL
   ·rfl
  rw [e4] at hf;have Y:gw .len [.list ((endsF 0 rs1).map λ(k:Nat)=>.int k)]=TK (.int rs1.length):=by refine pB (by show (aV _&&TN)=TN;refine aa (BH ..) ?_;rfl) ?_ TL;show TK (V.int (((endsF 0 rs1).map λ(k:Nat)=>V.int k).length:Nat))=_;exact aa (Pd ..) (aa (oq ..) TL)
  exact az (iD (aF hf) Y) TL
 have b9:aI R wm (.ly [11,12] (.call (.lit (.ref 818)) (.cons (.pX (.var 4) (.lit (.none)) (.var 9)) .nil))) ⟨W,Sg c (a+1)⟩=TK (.next,⟨X,Sg c (a+1)⟩):=fK (aw TL (aF (db TL TL TL Kq)) k1) TL;have OR:aI R wm (.asg 13 (.ite (.cmp .Gt (.var 10) (.lit (.int 0))) (.sub (.var 5) (.bin .Sub (.var 10) (.lit (.int 1)))) (.lit (.int 0)))) ⟨X,Sg c (a+1)⟩=TK (.next,⟨b,Sg c (a+1)⟩):=by
  by_cases h0:rs1=[]
  ·subst h0;exact az TL TL
  ·have Z:(0:Int)<rs1.length:=by have:=PY.mpr h0;exact n1 this
   have MQ:l8 ev (.int ((rs1.length:Int)-1)) (Sg c (a+1))=TK (.int (a6 rs1).length):=by refine aa (show (rs1.length:Int)-1=((rs1.length-1:Nat):Int) by have:=PY.mpr h0;lia) ?_;refine J6 ?_;refine aa (PM ..) (aa (D ..) (aa (so h0 ..) (aa (Re ..) ?_)));rfl
   exact az (b1 TL (TS Z) (bp TL TL MQ)) TL
 have C:∀(v:List (V×V)) (s:List Slot),v.length<=1000000->(∀x∈v,kH 20 x.1 x.2)->s[11]?=TK (.v (.list (v.map (·.1))))->(s.map hide++[Slot.v V.none]).length=15->aB R wm (.comp (.call (.lit (.ref 619)) (.cons (.var 14) .nil)) 1 (.var 11) (.lit (.bool TN))) TO ⟨s,Sg c (a+1)⟩=TK (.list (v.map (·.2)),⟨s,Sg c (a+1)⟩):=λv s hv ht hs O=>by
  have OS:aB R wm (.var 11) TO ⟨s,Sg c (a+1)⟩=TK (.list (v.map (·.1)),⟨s,Sg c (a+1)⟩):=by show (match s[11]? with|some (.v v)=>ba TO v ⟨s,Sg c (a+1)⟩|some (.ml xs)=>_|some (.mb bs)=>_|_=>TW)=_;refine aa (hs ..) ?_;rfl
  refine dM (l:=v) (·.1) (·.2) OS TL hv (λx m=>?_) TL;have OT:aB R wm (.var 14) TO ⟨s.map hide++[Slot.v x.1],Sg c (a+1)⟩=TK (x.1,⟨s.map hide++[Slot.v x.1],Sg c (a+1)⟩):=by
   have:(s.map hide++[Slot.v x.1])[14]?=TK (.v x.1):=by
    rw [g3] at O;have O:(s.map hide).length=14:=by have:([Slot.v V.none]).length=1:=TL;exact PJ (aJ [_] 0x7582003ecc08021 (O9 O)) (aJ [_] 0xbac0030207d821 (O9 (Qf O)))
    refine aa (QD (by exact O9 O) ..) (aa (O ..) ?_);rfl
   show (match (s.map hide++[Slot.v x.1])[14]? with|some (.v v)=>ba TO v ⟨s.map hide++[Slot.v x.1],Sg c (a+1)⟩|some (.ml xs)=>_|some (.mb bs)=>_|_=>TW)=_;refine aa (this ..) ?_;rfl
  exact aw TL (aF OT) (BK n (ht x m))
 have OU:aI R wm (.ite (.or (.cmp .NotEq (.var 12) (.pX (.var 4) (.var 13) (.var 9))) (.cmp .NotEq (.comp (.call (.lit (.ref 619)) (.cons (.var 14) .nil)) 1 (.var 11) (.lit (.bool TN))) (.comp (.cw 14 1) 1 (.pX (.var 3) (.lit (.none)) (.var 10)) (.lit (.bool TN))))) (.ret (.lit (.bool TO))) .skip) ⟨b,Sg c (a+1)⟩=TK (.next,⟨b,Sg c (a+1)⟩):=by
  have c1:aB R wm (.cmp .NotEq (.var 12) (.pX (.var 4) (.var 13) (.var 9))) TN ⟨b,Sg c (a+1)⟩=TK (.bool (decide (t≠t)),⟨b,Sg c (a+1)⟩):=
   aG (y:=.bytes t) TL (db TL TL TL ((pC (i:=(a6 rs1).length) (j:=pl)).trans (by exact aa ((by exact aa (z ..) (aa (Qd ..) TL):((a6 rs).take pl).drop (a6 rs1).length=t) ..) TL))) TL
  have A:aB R wm (.comp (.cw 14 1) 1 (.pX (.var 3) (.lit (.none)) (.var 10)) (.lit (.bool TN))) TO ⟨b,Sg c (a+1)⟩=TK (.list (N.map (·.2)),⟨b,Sg c (a+1)⟩):=by exact aa (f1 ..) (dM (l:=rs1) gy (·.2.1) (db TL TL TL (BF.trans (by exact aa (D ..) (aa (Qk ..) (bx (Pd (f:=gy) (as:=rs1) ..) (aa (QK ..) TL)))))) TL (O5 (show rs1.length<=4 by exact bl w) (by decide)) (λx m=>rfl) TL)
  exact aA (eB c1 (TR (λh=>h TL:¬(t≠t))) (aG (C N b OQ g1 TL TL) A q1.2)) TL TL
 have OV:aI R wm (.ly [11,12] (.call (.lit (.ref 818)) (.cons (.bin .Add (.var 12) (.pX (.var 4) (.var 9) (.lit (.none)))) .nil))) ⟨b,Sg c (a+1)⟩=TK (.next,⟨q,Sg c (a+1)⟩):=fK (aw TL (aF (ai TL (db TL TL TL (vA.trans (by exact aa ((by exact aa (hd ..) (aa (B ..) (aa (Qd ..) TL)):(a6 rs).drop pl=u) ..) TL))) (am (ah (by exact bA (bl zt) (br zt) TL))))) k2) TL;have OW:aI R wm (.ret (.and (.cmp .Eq (.var 12) (.lit (.bytes []))) (.cmp .Eq (.comp (.call (.lit (.ref 619)) (.cons (.var 14) .nil)) 1 (.var 11) (.lit (.bool TN))) (.comp (.cw 14 1) 1 (.pX (.var 3) (.var 10) (.lit (.none))) (.lit (.bool TN)))))) ⟨q,Sg c (a+1)⟩=TK (.ret (.bool TN),⟨q,Sg c (a+1)⟩):=by
  have A:aB R wm (.comp (.cw 14 1) 1 (.pX (.var 3) (.var 10) (.lit (.none))) (.lit (.bool TN))) TO ⟨q,Sg c (a+1)⟩=TK (.list (U.map (·.2)),⟨q,Sg c (a+1)⟩):=by exact aa (f2 ..) (dM (l:=rs2) gy (·.2.1) (db TL TL TL (BG.trans (by exact aa (D ..) (aa (Qk ..) (bx (Pd (f:=gy) (as:=rs1) ..) (aa (Qd ..) TL)))))) TL (O5 (show rs2.length<=4 by exact br w) (by decide)) (λx m=>rfl) TL)
  exact ax (iV (s:=TN) (t:=TN) TL (iW (C U q MF g2 TL TL) A q2.1))
 refine (hY q (a+1) ?_);refine cQ TL TL (cQ TL TL (cQ (st1:=⟨s5,Sg c a⟩) (jB TL TL el) TL (cQ b7 TL (cQ b8 TL (cQ b9 TL (cQ OR TL (cQ OU TL (cQ OV TL (FC OW TL)))))))))
end
noncomputable section
noncomputable def mW (l:List Int):List Int:=if l=[] then [0] else l
end
theorem Ez (h:l.length<=60):Cells (mW l):=by
 unfold mW;split
 ·exact ⟨by decide,by decide⟩
 ·rename_i a;exact ⟨PY.mpr a,h⟩
theorem Kr:jY=jY.take 3++jY.drop 3:=(R0 3 jY).symm
theorem BN (n:Nat) (xs:List Int):I (n+50) 900 [.list (xs.map .int)] ⟨TW,TW⟩=TK (.bool TN,⟨TW,TW⟩):=by
 let b:=xs.take 60
 have f:b.length<=60:=List.length_take_le _ _;have q:=Ez f
 let R:=ag tab aE wm (n+49)
 let d:FG:=⟨TW,TW⟩
 let s:List Slot:=[.v (.list (xs.map .int)),.u,.u,.u,.u,.u,.u,.u,.u,.u,.u,.u,.u,.u]
 let s1:List Slot:=[.v (.list (xs.map .int)),.v (.list (b.map .int)),.u,.u,.u,.u,.u,.u,.u,.u,.u,.u,.u,.u]
 let s2:List Slot:=[.v (.list (xs.map .int)),.v (.list (b.map .int)),.v (.ref 2),.u,.u,.u,.u,.u,.u,.u,.u,.u,.u,.u]
 have a1:aI R wm (.asg 1 (.comp (.call (.lit (.ty .int)) (.cons (.var 14) .nil)) 1 (.pX (.var 0) (.lit (.none)) (.lit (.int 60))) (.lit (.bool TN)))) ⟨s,d⟩=TK (.next,⟨s1,d⟩):=
  az (dM (ρ:=s) (g:=d) (l:=b) V.int V.int (db TL TL TL ((BF (k:=60)).trans (by exact bx (List.map_take ..) TL))) TL (O5 f (by decide)) (λx m=>b0 TL TL) TL) TL
 have B:Ak R wm (.src 2 (.cons (.ite (.var 1) (.var 1) (.lst (.cons (.lit (.int 0)) .nil))) (.cons (.lit (.int 0)) .nil))) ⟨s1,d⟩=TK (.next,⟨s2,Sg (mW b) 0⟩):=by
  have C:cn R wm (.cons (.ite (.var 1) (.var 1) (.lst (.cons (.lit (.int 0)) .nil))) (.cons (.lit (.int 0)) .nil)) ⟨s1,d⟩=TK ([.list ((mW b).map .int),.int (0:Nat)],⟨s1,d⟩):=by
   refine au ?_ TL;have ht:aB R wm (.var 1) TN ⟨s1,d⟩=TK (.bool (!(b.map V.int).isEmpty),⟨s1,d⟩):=TL;by_cases j:b=[]
   ·have e:mW b=[0]:=TY j;refine aa (e ..) ?_;refine dy ht (by refine aa (j ..) ?_;rfl) TL
   ·have e:mW b=b:=TZ j;refine aa (e ..) (b1 ht ?_ TL);cases h:b with
    |nil=>exact TU h j
    |cons x r=>rfl
  refine bw C ?_;have xH:s1.all jw=TN:=by show (aV (xs.map V.int)&&(aV (b.map V.int)&&TN))=TN;refine aa (mD xs ..) (aa (mD b ..) ?_);rfl
  have D:tE [.list ((mW b).map .int),.int (0:Nat)]=TK (mW b,0):=by show (gt ((mW b).map .int)).bind _=_;refine aa (ints_map ..) ?_;rfl
  refine aa (xH ..) (aa (D ..) ?_);rfl
 refine ac λz=>aT (draw q (n+48) 0 (k:=4) (by decide)) λk t F=>?_;obtain ⟨rs,w,H,J,L⟩:=il (c:=mW b) (R:=R) (e:=.call (.lit (.ref 895)) (.cons (.var 2) .nil)) (it:=.call (.lit (.ty .range)) (.cons (.bin .Add (.lit (.int 1)) (.call (.lit (.ref 835)) (.cons (.var 2) (.cons (.lit (.int 4)) .nil)))) .nil))
  (ρ:=s2) (k:=1+k) (a:=0) (a1:=1) gy kI (by exact bL (Pw t) TL) (kF (au (di TL (bt TL TL F TL) TL TL) TL) (dU (n:=1+k) (ah (by exact bL (Pw t) TL))) TL) λv a=>by exact Iq (t9 q (n+39) a) λan M o w e A=>(dC (an,M,o) w (bt TL TL e TL) A)
 refine xK (BM n q (a:=w) (x0:=.list (xs.map .int)) (x1:=.list (b.map .int)) J (by exact aJ [_,_] 0x788000b002085ec08021 t (O9 H))) λρ y i=>z ?_;clear z;have key:jx R wm jY ⟨s,d⟩=TK (.ret (.bool TN),⟨ρ,Sg (mW b) y⟩):=by exact aa (Kr ..) (cQ a1 TL (cQ B TL (cQ (az L TL) TL i)))
 exact bw key (bw TL TL)
noncomputable def fA (K:Vq) (a:T2):Ub×List UJ×Um:=((fdOf K a).params,(match (fdOf K a).body with
 |.stmts l=>l
 |_=>[]),(fdOf K a).scope)
noncomputable def ND:Option Nat->TT
 |some t=>.int 0 t
 |none=>.bool TO
theorem take3:∀(vs:List TT) (k:Nat),vs.length=k->k<=3->List.take k [vs.getD 0 .none,vs.getD 1 .none,vs.getD 2 .none]=vs
 |[],_,e,_=>e▸TL
 |[_],_,e,_=>e▸TL
 |[_,_],_,e,_=>e▸TL
 |[_,_,_],_,e,_=>e▸TL
 |_::_::_::_::l,k,e,h=>TU (O5 (Rr 4 l.length) (O5 (O9 e) h)) (by decide)
theorem ua {b:Type} {a:T2} {t:b}:∀{l:List (T2×b)},Fi a l=TK t->(a,t)∈l
 |[],e=>aZ e
 |(k,u)::r,e=>by
  unfold Fi at e;cases h:Sz a k with
  |true=>rw [h] at e;obtain rfl:=Nat.eq_of_beq_eq_true h;obtain rfl:=le e;exact .head _
  |false=>rw [h] at e;exact .tail _ (ua e)
noncomputable def EA (w:Uv) (c:T2) (d:Obj) (e f g:TT) (a:T2) (ds:List (Option Nat)) (t:uV):=(TK (Av (Kb w.params c d) a (fA (Kb w.params c d) a)),(TN,t.pd),TN,TK ((jy (fA (Kb w.params c d) a)).zip ([e,f,g].take t.k++ds.map ND)),TK t.b.s,ds.map KW,(JY a).map λj=>(TK QV,TN,Sl (bq j).cd,(bq j).q))
theorem mapA {a b:Type} {f g:a->b} {l:List a} (h:l.map f=l.map g) {x:a} (m:x∈l):f x=g x:=QJ.mp h x m
section
variable {w:Uv} {mg mb:Str->Option TT} {s:TP} {bm:T2} {ob:Obj} (L:oV (Cc w mg mb s bm ob))
include L
noncomputable def EB (b c d:TT) (S:Setting) {n:Nat} (hn:2<=n) (a:T2) (ds:List (Option Nat)) (t:uV):=((Kb w.params bm ob).lookup a,(Mq (Kb w.params bm ob) a (fA (Kb w.params bm ob) a) t.k ds.length,(rO (fA (Kb w.params bm ob) a)).length),Nat.blt 2 a&&Sf t.k 3,peek (Kb w.params bm ob) S (Vc (fdOf (Kb w.params bm ob) a) ⟨[b,c,d].take t.k,[]⟩),Nv L hn (fA (Kb w.params bm ob) a) (JY a),t.gG,(JY a).map λj=>(seek (fA (Kb w.params bm ob) a).2.2.names (O6 "wire"),decide (j<3),(fdOf (Kb w.params bm ob) a).code,((fdOf (Kb w.params bm ob) a).qualname++".<locals>.")++"<lambda>"))
theorem BO {a:T2} {ds:List (Option Nat)} {t:uV} (i:ds.length<=1) (h:∀l m o S n (hn:2<=n),EB L l m o S hn a ds t=EA w bm ob l m o a ds t):a≠1/\a≠2/\uX (Cc w mg mb s bm ob) wm a t:=by
 refine aM (PB (h .none .none .none ⟨pw,w.params⟩ 2 (Px _))) λu c=>aM (PB c) λv c=>aM (PB c) λx c=>aM (PB c) λJ c=>aM (PB c) λf c=>aM (PB c) λz q=>?_;refine aM (aR x) λA B=>?_;have g:=PT A;refine ⟨λe=>TU (e▸g) (by decide),λe=>TU (e▸g) (by decide),?_⟩;obtain ⟨k,gG,pd,b⟩:=t;obtain rfl:=z;refine Hn (ds:=ds.map ND) (JY a) u (by refine aa (Pd ..) ?_;exact v) (λvs e S=>?_) (λn hn=>Js (TQ (·.2.2.2.2.1) (h .none .none .none ⟨pw,w.params⟩ n hn))) (λX h=>?_) ?_ (λj C=>?_)
 ·have:=TQ (·.2.2.2.1) (h (vs.getD 0 .none) (vs.getD 1 .none) (vs.getD 2 .none) S 2 (Px _));unfold EB EA at this;rw [take3 vs k e (PT B)] at this;exact this
 ·rcases ds with _|⟨_|d,_|⟨y,r⟩⟩
  ·exact .nil
  ·exact .cons (.bool _) .nil
  ·exact TU i (by simp)
  ·exact .cons (.int _ _) .nil
  ·exact TU i (by simp)
 ·rcases ds with _|⟨_|d,_|⟨y,r⟩⟩<;>first|rfl|exact TU i (by simp)
 ·rw [C] at q;refine aM (PB (le q)) λc f=>aM (PB f) λD f=>aM (PB f) λF H=>?_;refine ⟨bg c,bq j,?_,F,H⟩;show g8[j]?=_;unfold g8;rw [PM,List.getElem?_range (TM D)];rfl
theorem Ks (a b c:TT) (S:Setting) {n:Nat} (hn:2<=n):w3.map (λr=>EB L a b c S hn r.1 [] r.2)=w3.map λr=>EA w bm ob a b c r.1 [] r.2:=by kernel_rfl
theorem Kt (a c d:TT) (S:Setting) {n:Nat} (hn:2<=n):Mz.map (λr=>(Fi r.1 w3).map λt=>EB L a c d S hn r.1 [r.2] ⟨1,[KW r.2],t.pd,t.b⟩)=Mz.map λr=>(Fi r.1 w3).map λt=>EA w bm ob a c d r.1 [r.2] ⟨1,[KW r.2],t.pd,t.b⟩:=by kernel_rfl
theorem BP (a m:Nat) (t:uV) (h:tab a m=TK t):a≠1/\a≠2/\uX (Cc w mg mb s bm ob) wm a t:=by
 refine bO h λj i h=>?_;cases e:Sz m j.k with
 |true=>rw [e] at h;obtain rfl:=le h;exact BO L (QF _) λb c f S n hn=>mapA (Ks L b c f S hn) (ua i)
 |false=>rw [e] at h;refine mO h λd hd g=>?_;subst g;refine BO L (ds:=[d]) (Px _) λb c f S n hn=>?_;have:=mapA (Kt L b c f S hn) (ua hd);rw [i] at this;exact le this
end
noncomputable def NE {p:E->Prop}:Option {b:E//p b}->Option E
 |some ⟨a,_⟩=>TK a
 |none=>TW
theorem H3 {p:E->Prop} {o:Option {b:E//p b}} (h:NE o=TK b):p b:=by
 match o with
 |some ⟨a,q⟩=>exact le h▸q
 |none=>exact aZ h
section
variable {w:Uv} {mg mb:Str->Option TT} {s:TP} {bm:T2} {ob:Obj} (L:oV (Cc w mg mb s bm ob))
include L
theorem pU (h:(decide (j<3),(bq j).scope.isCoroutine,(bq j).scope.isGenerator,decide ((bq j).scope.kind=.function),(bq j).scope.names.all (λx=>decide (x.2≠.cell)),seek (bq j).scope.names (O6 "wire"))=(TN,TO,TO,TN,TN,TK .free)) (b:∀cl c a d,Vc (kla_fn "<lambda>" (bq j).q (bq j).params (bq j).body (bq j).scope cl c a d) ⟨[],[]⟩=pure []) (f:∀n (hn:2<=n),NE ((Nu L hn).e (ur (seek Ay) (bq j).scope) (bq j).body)=TK e):tH (Cc w mg mb s bm ob) wm j e:=by refine ac λg=>aM (PB h) λi h=>aM (PB h) λk h=>aM (PB h) λl h=>aM (PB h) λo h=>aM (PB h) λr t=>g ?_;refine (NO (bq j) ?_ k l (TM o) (λx m=>TM (Pa.mp r x m)) t b (λn hn=>(H3 (f n hn)).v));show g8[j]?=_;refine aa (PM ..) (aa (List.getElem?_range (TM i) ..) ?_);rfl
theorem BQ:∀j e,aE j=TK e->tH (Cc w mg mb s bm ob) wm j e
 |0,e,h=>le h▸pU L (by kernel_rfl) (λ_ _ _ _=>by kernel_rfl) λ_ _=>by kernel_rfl
 |1,e,h=>le h▸pU L (by kernel_rfl) (λ_ _ _ _=>by kernel_rfl) λ_ _=>by kernel_rfl
 |2,e,h=>le h▸pU L (by kernel_rfl) (λ_ _ _ _=>by kernel_rfl) λ_ _=>by kernel_rfl
 |_+3,e,h=>aZ h
theorem OX (n:Nat) (p:Pl):kD p (ag tab aE wm n) (cy (Cc w mg mb s bm ob) (n+2)):=wY (BP L) (BQ L) n p
end
structure Facts (w:Uv) (mg mb:Str->Option TT) (s:TP) (bm:T2) (ob:Obj):Prop where
 K:(Kw w.params).In s.heap
 tabs:∀P∈g7,s.heap.get? P=TK (tabObj #[])
 ms:∀p∈xI,mg p.1=TK p.2
 no:∀x∈mj,mg x=TW
 g:s.heap.Ns T5 mg
 b:s.heap.Ns Un mb
 nolimit:s.heap.NoLimit
 lC:∃mc,s.heap.Ns cStatics mc/\mc "sys.int_max_str_digits"=TW
 bi:∀x:Str,x≠"__name__"->mb x=bootBuiltins x
 mod:mg "__builtins__"=TK (.ref bm)
 bne:bm≠Un
 KZ:s.heap.get? bm=TK ob
 Ku:ob.cls=.type "module"
 Kv:ob.dict=TK Un
 FF:ob.data=.plain
theorem Kx {h:Ut} (x:h.Ns a m) (y:h.Ns a d):m=d:=by refine ac λe=>xM x λo es n g1 f c g=>xM y λq i j g2 k c l=>?_;obtain rfl:=le (g1.symm.trans g2);refine aM (Data.dict.inj (f.symm.trans k)) λb c=>?_;subst b;refine e ?_;exact funext λz=>(g z).symm.trans (l z)
theorem H4:g8.map (·.T)=g7:=by kernel_rfl
theorem lf (m:l∈g8):l.T∈g7:=H4▸QG m
section
variable {w:Uv} {mg mb:Str->Option TT} {s:TP} {bm:T2} {ob:Obj} (F:Facts w mg mb s bm ob)
theorem H5 (h:(Cc w mg mb s bm ob).tab b):b∈g7:=by refine aT h λl m a=>?_;subst a;exact lf m
theorem BR:∀l∈g8,∀d∈g8,l.T=d.T->l=d:=by
 have key:∀i∈PN 3,∀j∈PN 3,(bq i).T=(bq j).T->i=j:=by
  have:∀i∈PN 3,∀j∈PN 3,(decide ((bq i).T=(bq j).T)==decide (i=j))=TN:=by intro i b j c;have:=Pa.mp (Pa.mp (show ((PN 3).all λi=>(PN 3).all λj=>decide ((bq i).T=(bq j).T)==decide (i=j))=TN by kernel_rfl) i b) j c;exact this
  exact λi b j c e=>TM ((beq_iff_eq.mp (this i b j c)).symm.trans (TS e))
 intro l m d f e;refine mM m λi b a=>?_;subst a;refine mM f λj c a=>?_;subst a;exact aa (key i b j c e ..) TL
include F
theorem Facts.FH:∀P∈g7,bm≠P:=λP m e=>by have:=le ((F.tabs P m).symm.trans (e▸F.KZ));have h:=F.Ku;rw [←this] at h;exact TU h (by simp)
theorem Facts.MR:(Kb w.params bm ob).In s.heap:=λa o h=>by
 rw [Kb,Sy] at h;cases e:(Kw w.params).lookup a with
 |some d=>rw [e] at h;exact F.K a o (e.trans h)
 |none=>
  rw [e] at h;have h:(if (a==bm)=TN then TK ob else TW)=TK o:=by
   cases q:a==bm with
   |true=>rw [SI,P3,q] at h;exact h
   |false=>rw [SI,P3,q] at h;exact aZ h
  refine aM (bh h) λq c=>?_;subst c;exact beq_iff_eq.mp q▸F.KZ
theorem Facts.OY:(Kb w.params bm ob).lookup bm=TK ob:=by
 (rw [Kb];refine aa (Sy ..) ?_)
 cases e:(Kw w.params).lookup bm with
 |some a=>exact (F.K bm a e).symm.trans F.KZ
 |none=>exact aa (SI ..) (aa (P3 ..) (aa (beq_self_eq_true ..) TL))
theorem Facts.H6 (h:(Kb w.params bm ob).lookup a=TK o):a∉g7:=by
 have TW:DK.all (λa=>!g7.contains a)=TN:=by kernel_rfl
 rw [Kb,Sy] at h;cases e:(Kw w.params).lookup a with
 |some c=>have:=Pa.mp TW a ((by kernel_rfl:(Kw w.params).map (·.1)=DK)▸QG (mem_of_lookupK e):a∈DK);intro h;rw [Qt.mpr h] at this;exact TU this Pm
 |none=>
  rw [e,SI] at h;cases q:a==bm with
  |true=>exact λm=>F.FH a m (beq_iff_eq.mp q).symm
  |false=>rw [P3,q] at h;exact aZ h
theorem Facts.pV (c:a<s.heap.objs.size) (d:a∉g7):¬(Cc w mg mb s bm ob).mut a:=λx=>x.elim (λh=>Pt.mpr h c) λt=>d (H5 t)
theorem Facts.ok:(Cc w mg mb s bm ob).Ok where
 F1:=λa o h=>F.pV (Py (F.MR a o h)) (F.H6 h)
 m1:=F.pV F.g.lt (by decide)
 m2:=F.pV F.b.lt (by decide)
 m3:=F.pV (let ⟨_,h,_⟩:=F.lC;h.lt) (by decide)
 tabs:=BR
end
noncomputable def K0:V->Option TT
 |.bi f=>TK (.builtin f.id)
 |.ty n=>TK (.type n.id)
 |_=>TW
theorem H7 {C:Cx} {X:AP} {h:Ut} {v:V} (e:(K0 v).isSome=TN):∃u,K0 v=TK u/\Rep C X h u v:=by
 cases v with
 |bi f=>exact (i12 _ TL TL)
 |ty n=>exact (i12 _ TL TL)
 |_=>exact TU e Pm
noncomputable def BS:TT->Option (List Nat)
 |.str x _=>if x.cps.size<=av then TK x.cps.toList else TW
 |_=>TW
theorem EC (e:BS v=TK l):Rep C X h v (.str l):=by
 cases v with
 |str x t=>obtain ⟨z,rfl⟩:=bh e;exact .str x t z
 |_=>exact aZ e
theorem vC:∀{vs:List TT} {ls:List (List Nat)},vs.map BS=ls.map TK->aP C X h vs (ls.map .str)
 |[],[],_=>.nil
 |v::vs,l::ls,e=>by exact aM (QX (show BS v::vs.map BS=TK l::ls.map TK from e)) λa b=>.cons (EC a) (vC b)
 |[],_::_,e=>TU e.symm (Qz _ _)
 |_::_,[],e=>TU e (Qz _ _)
noncomputable def MS:Data->Array TT
 |.seq vs _=>vs
 |_=>#[]
noncomputable def BU (K:Vq) (a:T2):Array TT:=((K.lookup a).map λo=>MS o.data).getD #[]
noncomputable def odd:List Nat:=[297,549,826,827,828]
noncomputable def Ky:TT->Bool
 |.ref a=>odd.contains a
 |_=>TO
theorem ED (h:Ky v=TN):∃a,v=.ref a/\a∈odd:=by cases v<;>first|exact (i12 _ TL (Qt.mp h))|exact TU h Pm
noncomputable def BV:TT->Bool
 |.ref a=>!odd.contains a
 |.int _ _=>TN
 |.bytes b _=>decide (b.size<=av)
 |.str x _=>decide (x.cps.size<=av)
 |_=>TO
section
variable {w:Uv} {mg mb:Str->Option TT} {s:TP} {bm:T2} {ob:Obj} (F:Facts w mg mb s bm ob)
theorem xG (e:BV v=TN):Rep (Cc w mg mb s bm ob) X s.heap v (DS v):=by
 cases v with
 |ref a=>
  have h:∀b,b∈odd->a≠b:=λb m q=>by subst q;exact TU ((TQ not (Qt.mpr m)).symm.trans e) Pm
  have q:DS (.ref a)=.ref a:=(TZ (h _ (.head _))).trans ((TZ (h _ (.tail _ (.head _)))).trans ((TZ (h _ (.tail _ (.tail _ (.head _))))).trans ((TZ (h _ (.tail _ (.tail _ (.tail _ (.head _)))))).trans (TZ (h _ (.tail _ (.tail _ (.tail _ (.tail _ (.head _))))))))));refine aa (q ..) ?_;exact .ref a
 |int i t=>exact .int i t
 |bytes b t=>exact .bytes b t (TM e)
 |str x t=>exact .str x t (TM e)
 |_=>exact TU e Pm
include F
theorem mX {ls:List (List Nat)} (e:(Kb w.params bm ob).lookup a=TK (seqObj "tuple" (BU (Kb w.params bm ob) a) 0)) (h:(BU (Kb w.params bm ob) a).toList.map BS=ls.map TK) (z:(BU (Kb w.params bm ob) a).size<=av):
  Rep (Cc w mg mb s bm ob) (Cc w mg mb s bm ob).mut s.heap (.ref a) (.tuple (ls.map .str)):=
 .tuple (F.MR _ _ e) (F.ok.F1 _ _ e) (vC h) z
theorem H8 (m:p∈xI):Rep (Cc w mg mb s bm ob) (Cc w mg mb s bm ob).mut s.heap p.2 (DS p.2):=by
 have h:xI.all (λp=>BV p.2||Ky p.2)=TN:=by kernel_rfl
 rcases Q3.mp (Pa.mp h p m) with h|h
 ·exact xG h
 ·refine aT (ED h) λa e m=>?_
  ·refine aa (e ..) ?_;rcases Pf.mp m with rfl|m
   ·exact .b2
   rcases Pf.mp m with rfl|m
   ·exact .fh
   rcases Pf.mp m with rfl|m
   ·exact mX F (ls:=["","done","a {3} b","x] y","5","* OK","\"q\" \\"].map λs=>(O6 s).cps.toList) (by kernel_rfl) (by kernel_rfl) (show 7<=av by decide)
   rcases Pf.mp m with rfl|m
   ·exact mX F (ls:=["\\Seen","\\*","$Mine","12","NIL","a.b+c"].map λs=>(O6 s).cps.toList) (by kernel_rfl) (by kernel_rfl) (show 6<=av by decide)
   ·obtain rfl:=Pv.mp m;exact mX F (ls:=["FLAGS","UID","RFC822.SIZE","BODY[HEADER.FIELDS (A \"x]y\")]<0>","BODY[1.2]","BODYSTRUCTURE","BODY[]"].map λs=>(O6 s).cps.toList) (by kernel_rfl) (by kernel_rfl) (show 7<=av by decide)
theorem vD:Base (Cc w mg mb s bm ob) s.heap where
 ok:=F.ok
 K:=F.MR
 g:=F.g
 b:=F.b
 nolimit:=F.nolimit
 lC:=F.lC
 lt:=Px _
 glob:=λx v h=>by
  rcases PE.mp (bg h) with m|m
  ·have f:u3.all (λp=>mj.contains p.1&&!(p.1=="__name__")&&(K0 p.2).isSome)=TN:=by kernel_rfl
   refine aM (aR (Pa.mp f _ m)) λa i=>aM (aR a) λj k=>?_;obtain ⟨u,e,r⟩:=H7 i;exact (i12 u (.inr ⟨F.no x (Qt.mp j),(F.bi x (beq_eq_false_iff_ne.mp (bf k))).trans ((QJ.mp (by kernel_rfl:u3.map (λp=>bootBuiltins p.1)=u3.map λp=>K0 p.2) _ m).trans e)⟩) r)
  ·refine mM m λp mp e=>aM (PB e) λc d=>?_;subst c;subst d;exact (i12 p.2 (.inl (F.ms p mp)) (H8 F mp))
theorem FI:oV (Cc w mg mb s bm ob):=by
 refine Dv (λl m=>⟨?_,F.FH _ (lf m)⟩) F.mod F.OY F.bne (λe=>?_) F.Ku F.Kv F.FF
 ·refine mM m λj c a=>?_;subst a;have:(PN 3).all (λj=>codeHdIn (Kb w.params bm ob) (bq j).cd (bq j).T)=TN:=by kernel_rfl
  exact Pa.mp this j c
 ·refine H9 F.g λo es d g1 b f=>?_;have:=le (g1.symm.trans (e▸F.KZ));rw [this,F.FF] at b;exact nomatch b
theorem MT (hg:s.gens=#[]):c9 (Cc w mg mb s bm ob) (Cc w mg mb s bm ob).tab s:=⟨vD F,hg,TL,TL,λb t=>⟨Py (F.tabs b (H5 t)),.inr t⟩,λb t=>t⟩
theorem Kz:cU (Cc w mg mb s bm ob) (Cc w mg mb s bm ob).tab s.heap ⟨TW,TW⟩ where
 src:=λr h=>aZ h
 wire:=λr h=>aZ h
 apart:=λr w h=>aZ h
 lD:=λr h=>aZ h
 tabs:=λl m=>(i12 (#[]) (F.tabs _ (lf m)) (.inl TL))
end
theorem ints_of:∀{ds:List WData},(∀d∈ds,∃i,d=.int i)->∃xs:List Int,ds=xs.map WData.int:=by
 intro b;induction b with
 |nil=>intro f;exact ⟨[],TL⟩
 |cons d ds c=>intro h;refine cR (h d (.head _)) λi a=>?_;subst a;refine cR (c λe m=>h e (.tail _ m)) λxs a=>?_;subst a;exact ⟨i::xs,TL⟩
theorem lay_ints:∀(xs:List Int) s r,layAllW R cl P ord (xs.map .int) s=TK r->aP C X h r.1 (xs.map .int):=by
 intro c;induction c with
 |nil=>intro s r e;obtain rfl:=le e;exact .nil
 |cons i xs d=>intro s r e;refine ac λf=>bB (layAllW_cons e) λa q ha g b=>?_;subst b;obtain rfl:=le ha;refine f ?_;exact .cons (.int i _) (d _ q g)
theorem BW (e:layAllW R cl P ord [.list ds] s=TK (c,d)):∃q a,layAllW R cl P ord ds s=TK q/\c=[.ref a]/\d.heap.get? a=TK (seqObj "list" q.1.toArray 0):=by refine ac λg=>bB (layAllW_cons e) λa q ha h e=>aT (layW_list ha) λr hr b=>?_;subst b;obtain rfl:=le h;refine aM (PB e) λb f=>?_;subst b;subst f;refine g ?_;exact (gF r _ hr TL (Pz _ TL))
theorem EE {xs:List Int} (h:iv.toRowW.pre.holds iv.toRowW.records {args:=[.list (xs.map .int)]}=TN):xs.length<=63:=by
 apply PU;intro k;have k':decide ((63:Int)<((xs.map WData.int).length))=TN:=TS (by refine aa (Pd ..) ?_;exact Ps.mpr (Nat.not_le.mp k));have e:iv.toRowW.pre.value iv.toRowW.records {args:=[.list (xs.map .int)]}=(match (TK (WData.bool (!decide ((63:Int)<((xs.map WData.int).length:Nat))))) with
  |some (.bool false)=>TK (.bool TO)
  |some (.bool true)=>(match (TK (WData.bool TN)) with
   |some (.bool x)=>TK (.bool x)
   |_=>TW)
  |_=>TW):=TL
 unfold WTm.holds at h;rw [e,k'] at h;exact TU h Pm
theorem BX:u2:=by
 intro w u c mg mb G Y hg ord args R y j;refine ac λB=>aM (pre_splitW y) λz A=>bB (hasAllW_cons z) λd r f hd hr=>?_;subst f;obtain rfl:=hasAllW_nil hr;refine aT (hasW_list hd) λds f hi=>?_;subst f;refine cR (ints_of λd m=>hasW_int (hasItemsW_at hi d m)) λxs f=>?_;subst f;refine bB (BW j) λq a hq f U=>?_;subst f;refine fE Y λYK Yt D=>ix D λi H Ym Yn=>?_;obtain rfl:=Kx H G.T.g;refine MV G.T.bmain λk n J L M N O P=>B ?_;have F:Facts w i mb c k n:=⟨YK,Yt,Ym,Yn,G.T.g,G.T.b,G.T.nolimit,G.T.nodigits,G.T.builtins,J,L,M,N,O,P⟩;have rs:=lay_ints (C:=Cc w i mb c k n) (X:=(Cc w i mb c k n).tab) (h:=c.heap) xs u q hq;have na:¬(Cc w i mb c k n).tab a:=λt=>by
  have:=le ((F.tabs a (H5 t)).symm.trans U);exact nomatch TQ Obj.cls this
 let p:Pl:=⟨0,0,0⟩
 have W:=OX (FI F) 50 p _ _ _ _ (BN 0 xs);rw [show subs p [.list (xs.map .int)]=[.list (xs.map .int)] from TQ (λl=>[V.list l]) (l9 xs)] at W;refine W.2 callerA (Cc w i mb c k n).tab c (.ref 900) [.ref a] _ _ ⟨TL,by decide,by decide⟩ (MT F hg) (Kz F) TL (.cons (.list U na rs (O5 (O9 (rs.length.trans (Pd _))) (O5 (EE A) (by decide)))) .nil) λv s' s Z rv=>?_;obtain rfl:v=.bool true:=rv;have keep:=λb o t e=>s.keep b o (λx=>x.elim (λx=>x.elim (λ⟨_,h,_⟩=>aZ h) λ⟨_,h,_⟩=>aZ h) t) e;refine (B1 (.inl (K6 _ (.bool TN) [] TL (λ_=>rfl) (.bool TN) (by kernel_rfl) (λ_=>⟨.nil,λ_ m=>TU m Pn⟩))) ⟨λb o e=>?_,λb o e=>?_⟩ s.os (.of_eq (s.gens.trans hg)))
 ·by_cases t:(Cc w i mb c k n).tab b
  ·refine aT t λl m f=>?_;subst f;refine ac λB=>aT (Z.tabs l m) λvs g z9=>?_;obtain rfl:=le ((F.tabs _ (lf m)).symm.trans e);obtain ⟨oc,Q,_,_,_,_,_,_,_,c1,c2,c3,c4,_⟩:=((FI F).head (vD F) m).1;refine B ?_;exact .inr (.inl (dQ (EG _ oc Q c1 c2 c3 c4) TL (dC (#[]) vs TL (by refine aa (Array.empty_append ..) ?_;exact g))))
  ·exact .inl (keep b o t e)
 ·by_cases t:(Cc w i mb c k n).tab b
  ·refine aT t λl m f=>?_;subst f;exact aT (Z.tabs l m) λvs g z9=>⟨_,g⟩
  ·exact ⟨o,keep b o t e⟩
end lg
theorem PySem.Challenge.cw_or0074_01_holds : PySem.Challenge.rw_or0074_01.Holds :=
 lg.Mj lg.BX
