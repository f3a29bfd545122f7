import PyProof.Rows.All
import Wide.All
import OpenK.AllK
import Wide.FinOn
import Lean
import PySem.Challenge.RW_nt0455_01
set_option maxRecDepth 100000
set_option autoImplicit false
set_option tactic.hygienic false
set_option bootstrap.genMatcherCode false
set_option genSizeOf false
set_option genInjectivity false
set_option linter.all false
open And renaming intro → IH, right → Wp
open Array renaming getElem?_toList → fZ, length_toList → gq, getElem?_eq_some_iff → DC, toList_append → Kt, toList_push → NG, any_toList → Qc
open Bool renaming and_eq_true → aH, or_eq_true → cF, or_true → fO, not_eq_true' → fX, or_eq_false_iff → gc, not_eq_true → gM, and_eq_true_iff → iP, eq_iff_iff → jH, true_and → og, true_or → pW, or_false → xt, false_ne_true → xQ, and_false → DK, or_eq_true_iff → Nm, noConfusion → Q8, false_or → Uw
open Classical renaming byContradiction → AL
open Decidable renaming byContradiction → da
open Fin renaming ofNat → aE
open Iff renaming rfl → Vm
open Int renaming ofNat_lt → bK, natCast_nonneg → cL, toNat_of_nonneg → fj, eq_ofNat_of_zero_le → fy, add_sub_cancel → fK, ofNat_inj → f5, toNat_natCast → gA, natCast_add → gF, ofNat_sub → ii, le_trans → i5, fdiv_eq_ediv_of_nonneg → ku, ofNat_le → kI, le_of_lt → nt, ne_of_gt → qk, emod_nonneg → uM, add_le_add → wC, emod_lt_of_pos → ye, zero_add → Av, ofNat → A9, sub_neg → Cj, one_mul → Ck, add_mul → Cm, natCast_mul → DB, not_lt → Fw, fmod_eq_emod_of_nonneg → Fx, sub_le_sub_right → Nj, neg_add → Nk, add_le_add_right → Nl, sub_eq_add_neg → P9, lt_of_le_of_lt → Qa, add_right_comm → Qb, natCast_emod → SV, add_assoc → UG, sub_zero → Vk, sub_self → Vl, pow_pos → V2, negSucc → V3, toNat → Wo
open Int.ofNat renaming inj → A8
open List renaming length_append → aj, append_assoc → am, replicate → aw, length_map → aB, range → aI, getElem?_eq_some_iff → aJ, mem_cons → aO, append_nil → aP, take_length → aU, length_set → aV, getD_eq_getElem?_getD → bf, mem_map → bj, take_of_length_le → br, prefix_refl → bD, mem_singleton → bM, getElem?_set_ne → bQ, mem_of_getElem? → bU, length_range → bV, mem_range → bW, mem_append_right → bX, mem_append_left → bY, map_append → cb, contains_iff_mem → cg, getElem?_append_left → ci, flatMap_cons → cv, getElem?_set_self → cG, all_eq_true → cM, map_cons → cN, getElem?_eq_getElem → cO, take_left' → cR, prefix_append → cT, length_replicate → cX, getElem?_map → cZ, length_cons → dh, mem_append → dk, set_set → dJ, getElem?_take_of_lt → dM, getElem?_eq_none → dS, map_map → dY, lookup_cons → ew, nodup_cons → eT, length_take → eZ, getElem?_range → fb, range_eq_range' → fD, map_congr_left → fV, getElem?_concat_length → gm, mem_map_of_mem → gy, flatten_append → gz, flatMap_nil → gL, flatten_cons → gZ, getElem?_append_right → iu, contains_cons → iw, length_reverse → jp, mem_flatten → jr, range' → jZ, mem_or_eq_of_mem_set → kF, getElem?_eq_none_iff → kG, drop_eq_getElem_cons → kH, any_cons → kT, length_eq_zero_iff → lR, getElem?_replicate → lS, take_sublist → mO, take_append_drop → nF, append_cons → nN, any_eq_true → nO, finRange → n9, length_nil → pn, map_replicate → ql, nodup_append → rJ, eq_of_mem_replicate → rY, mem_reverse → so, mem_flatMap → sr, countP_cons → su, range_succ_eq_map → tW, map_nil → tX, nil_prefix → uo, set_append_right → uL, drop_eq_nil_iff → vp, replicate_succ → wI, map_take → xr, getElem_range → xP, set_eq_take_append_cons_drop → yd, reverse_cons → yA, getElem?_set → yB, perm_middle → AD, not_mem_nil → AE, length_drop → AF, getElem_map → AG, flatMap_map → AH, filter_cons → AI, ext_getElem → AJ, cons_append → AK, lookup → A7, range_succ → Ci, take_take → DH, tail_drop → DI, nodup_nil → DJ, getElem?_zip_eq_some → Fu, sum_cons → FD, set_comm → FE, map_drop → FG, getElem?_cons_succ → Hm, filter_eq_nil_iff → IE, drop_eq_nil_of_le → IF, all_map → IG, perm_append_comm → Kk, mem_of_mem_take → Kr, dropLast_concat → Ks, mem_replicate → NA, map_inj_right → NB, getElem_idxOf → ND, getElem?_drop → NE, ext_getElem? → P8, map_fst_zip → Q7, map_const' → SP, head?_drop → SQ, foldl_cons → SR, find?_cons → SS, count_cons → SU, map_id → Vi, count → V0, map → Wn
open List.Pairwise renaming map → Vj
open List.Sublist renaming refl → kR, append → sv, trans → V1
open List.cons renaming inj → NF
open Nat renaming le_of_ble_eq_true → aa, le_trans → ae, lt_of_lt_of_le → aq, lt_of_le_of_lt → az, lt_trans → aK, le_add_right → aW, lt_of_not_le → bq, add_le_add_left → bu, mul_le_mul_left → bx, add_le_add_right → bI, le_of_not_lt → bZ, le_of_lt_succ → b8, add_comm → b9, zero_add → cx, add_le_add → cE, le_refl → cH, div_lt_of_lt_mul → cU, mul_comm → c9, add_sub_cancel_left → dz, add_assoc → dA, testBit_and → dC, mod_lt → dK, lt_succ_iff_lt_or_eq → dO, div_add_mod → dP, le_of_lt → dZ, le_of_eq → d0, pos_of_ne_zero → ed, sub_le → eH, mod_eq_of_lt → eI, succ_pos → eP, add_right_comm → eQ, two_pow_pos → eW, zero_le → fe, add_lt_add_left → fg, testBit_or → fG, sub_add_cancel → fH, not_lt → fJ, min_eq_left → fL, and_two_pow_sub_one_eq_mod → fP, lt_one_iff → f3, mul_le_mul → gw, div_div_eq_div_mul → gx, lt_succ_self → gN, div_eq_of_lt → gQ, lt_succ_of_le → hH, lt_add_of_pos_right → hJ, add_sub_cancel' → ic, succ_le_succ → io, mod_two_eq_zero_or_one → iE, add_mul_mod_self_left → iK, not_lt_zero → iO, pow_succ → iZ, mul_le_mul_right → i3, le_succ → i4, lt_irrefl → i6, testBit_two_pow → jq, zero_testBit → jv, testBit_zero → jw, testBit_succ → jx, not_le → jG, le_add_left → jO, sub_lt → ki, pow_lt_pow_right → kj, pow_add → ko, add_mul_div_left → kr, mul_succ → kE, le_antisymm → lK, eq_or_lt_of_le → lQ, mul_pos → lY, lt_succ_of_lt → nq, shiftLeft_add_eq_or_of_lt → pg, le_sub_of_add_le → ph, add_lt_add_right → pj, and_le_left → pI, succ_mul → qi, pow_zero → qj, mul_add_mod_self_right → qL, lt_of_le_of_ne → qM, one_pos → rW, div_one → rX, exists_eq_add_of_le' → si, testBit_div_two_pow → tB, le_mul_of_pos_right → tC, sub_self → uj, ne_of_lt → uk, ne_of_gt → ul, lt_of_succ_lt_succ → um, mul_add_div → uK, pow_le_pow_right → wz, mul_add → wA, add_add_add_comm → wB, add_left_cancel → xq, mul_assoc → xO, blt_eq → yc, testBit_eq_decide_div_mod_eq → Ar, sub_pos_of_lt → As, add_zero → Au, succ_ne_zero → A5, shiftLeft_eq → A6, or_comm → Cc, one_mul → Ce, mul_one → Cf, exists_testBit_of_ne_zero → Cg, xor_div_two → Dz, min_le_left → DA, blt → DG, mod_mul_right_div_self → Ft, lt_pow_two_of_testBit → FC, testBit_mul_two_pow → IC, add_lt_add_iff_left → ID, xor_self → Kg, sub_le_iff_le_add' → Kh, mul_zero → Ki, le_of_succ_le_succ → Kj, lt_sub_iff_add_lt → Kp, add_mul_div_right → Kq, eq_of_testBit_eq → Ni, xor_mod_two_pow → Ny, and_mod_two_pow → Nz, sub_right_comm → P2, or_eq_zero_iff → P4, lt_or_gt_of_ne → P5, lt_of_lt_of_eq → P6, add_sub_cancel → P7, mul_mod_right → Q3, lt_of_succ_lt → Q4, le_succ_of_le → Q5, ble → Q6, sub_sub_self → SN, min_eq_right → SO, strongRecOn → S4, mul_add_mod → S5, mod_add_div → S6, div_lt_self → S7, div_le_self → S8, and_div_two → S9, sub_add_eq → Uu, xor_assoc → UE, zero_mul → Vd, zero_div → Ve, mod_self → Vf, le_total → Vg, and_zero → Vh, two_mul → VW, sub_mul → VX, mod_one → VY, mod_mul → VZ
open Nat.le renaming dest → Uv
open Nat.succ renaming inj → DF
open Option renaming bind_eq_some_iff → aT, map_eq_some_iff → dG, isSome_iff_exists → iN, bind_some → rV, map_some → AC, none → IB
open Option.some renaming inj → aD, injEq → vm
open Or renaming elim → bN
open PyProof renaming noPylong_small → sf
open PyProof.Rows renaming assign_Name → jU, xor_int → VA, truthy_none → VB, truthy_int → VC, seqSlot_of → VD, rshift_int → VE, or_int → VF, not_of → VG, neg_int → VH, ne_int → VI, mul_int → VJ, lt_int → VK, le_int → VL, invert_int → VM, gt_int → VN, ge_int → VO, floordiv_int → VP, eq_int → VQ, callWith_type → VS, binaryOp1_none → VT, and_int → VU, add_int → VV, IntsAre → qO, subscriptTail → Ax, News → DN, wpAny_release' → IO, markedEach_of_false → SX
open PySem renaming Addr → aA, wpAny_bind → aG, Shared → aL, model → bO, wpAny_pure → bS, wpAny → bT, wpAny_mono → cq, Around → cS, Str → c8, Obj → di, mainGlobals → d7, Heap → eJ, Scope → eK, wpAny_standAt → fQ, wpAny_holding → fR, codeAny → f6, wpAny_loadPart_at → gG, sizeLine_eq → gK, builtinsNs → iI, Env → ja, DictEntry → jb, starEach → jg, Pos → jy, NameKind → jV, cellsFrom → jX, excClassObj → kS, codeAny_mono → kU, wpAny_isSubtype_exc → lM, wpAny_execs_nil → mC, assignEach → mP, eval → ou, wpAny_items_cons → pq, wpAny_execs_cons → pA, Result → pB, Program → pJ, codeAny_of_tree → qm, wpAny_call → rZ, recursionLimit → r7, newFunctionEnv → r8, wpAny_truthy_bool → tD, wpAny_of_eq → tE, getMethod_builtin → tF, wpAny_comprehension_free → tY, backTo → tZ, Comprehension → ua, swapsWith → uN, sizeLine → uO, checkBuiltinCall → uP, standAt → vq, start → wD, letOwnedTupleGo → wF, compTurn → xR, pushCells → yf, notedBy → yg, swappedStores → Aw, isTrue → AM, relabel → Cn, evalEach → Co, Flow → Cr, rawInt → DL, noteFrame → DM, valueOrNone → Fy, bindL → Fz, Model → FA, wpAny_items_nil → FH, theTreesLotGoes → FI, holding → Hn, wpAny_loadPart → II, wpAny_Expr_any → IJ, bindArgs → IK, lastMarks → Nn, inplaceOp → Np, compareOp → Nq, wpAny_typeOf → NH, pyIter → NI, compareChain → NJ, callerA → NK, bootBuiltins → NL, wpAny_storeName_local → Qd, wpAny_storeName_cell → Q9, wpAny_noted → Ra, wpAny_loadName_local → Rb, wpAny_field → Rd, interactive → Rf, codeAny_call_builtin → Rg, callWith → Rh, bindC → Ri, GenState → Rq
open PySem.BindsTo renaming of_eq → Qh
open PySem.Builtin renaming bitAnd → NN, bitOr → Qe
open PySem.Builtin.List renaming listExtendWith → wJ
open PySem.Builtin.ObjectAttr renaming storeInDict → sj, storeTaker? → Qf, storeInOwnDict → Qg
open PySem.Builtin.Range renaming rangeFitsLong → wG, rangeSize → yh
open PySem.Calls renaming Name_function_global → pX, evalArgs_plain → IM
open PySem.Code renaming quiet_builtin → Nr
open PySem.Env renaming kindOf → fW
open PySem.F renaming excBase_Exception → dH
open PySem.Heap renaming get?_push_of_some → bz, get?_push_size → dD, lt_size → gR, get?_update_self → iy, SameBut → mD, get?_update_other → tG, get?_none_of_le → vn, size_push → DD, get?_update_ne → Ku
open PySem.Heap.ExtBut renaming refl → vu
open PySem.Heap.SameBut renaming update → mS
open PySem.NameKind renaming free → dt, cell → mR
open PySem.Obj renaming mapSeq → xS, data_mapFields → NM
open PySem.PyData renaming keyHash → i9
open PySem.Str renaming ofString → mQ
open PySem.Value renaming ref → fM, type → Cq
open PySem.W renaming dictOf → lN, findIn → r9, Frag → uQ, takerIn → vr, keepIn → AN, instObj → Ho, cellsFrom_some → IL, putL → Rj, plainGet → Rk, looks_clsIn → Rm
open PySem.W.KBw renaming ints_length → Cp, pyIter_bytes → Rn, bInts → Rp, IsBytesIter → SW
namespace Mine.Internal
theorem bc{p:Prop}[Decidable p](h:decide p=true):p:=of_decide_eq_true h
theorem bp{p:Prop}[Decidable p](h:p):decide p=true:=decide_eq_true h
theorem bP{p:Prop}[Decidable p](h:¬p):decide p=false:=decide_eq_false h
theorem aF.{cr}{c:Prop}{h:Decidable c}(hc:c){α:Sort cr}{t e:α}:ite c t e=t:=if_pos hc
theorem aZ.{cr}{c:Prop}{h:Decidable c}(hc:¬c){α:Sort cr}{t e:α}:ite c t e=e:=if_neg hc
theorem aM.{cr,v}{α:Sort cr}{β:Sort v}{a₁ a₂:α}(f:α->β)(h:a₁=a₂):f a₁=f a₂:=congrArg f h
noncomputable abbrev pG:=Fin 5
noncomputable def pG.eE:pG:=aE 5 0
noncomputable def pG.rF:pG:=aE 5 1
noncomputable def pG.gj:pG:=aE 5 2
noncomputable def pG.ot:pG:=aE 5 3
noncomputable def pG.jA:pG:=aE 5 4
noncomputable abbrev eM:=Fin 29
noncomputable def eM.files:eM:=aE 29 0
noncomputable def eM.rN:eM:=aE 29 1
noncomputable def eM.size:eM:=aE 29 2
noncomputable def eM.full:eM:=aE 29 3
noncomputable def eM.q4:eM:=aE 29 4
noncomputable def eM.q7:eM:=aE 29 5
noncomputable def eM.jm:eM:=aE 29 6
noncomputable def eM.jI:eM:=aE 29 7
noncomputable def eM.CD:eM:=aE 29 8
noncomputable def eM.Ez:eM:=aE 29 9
noncomputable def eM.zw:eM:=aE 29 10
noncomputable def eM.Eh:eM:=aE 29 11
noncomputable def eM.pR:eM:=aE 29 12
noncomputable def eM.mV:eM:=aE 29 13
noncomputable def eM.k8:eM:=aE 29 14
noncomputable def eM.ep:eM:=aE 29 15
noncomputable def eM.aX:eM:=aE 29 16
noncomputable def eM.bL:eM:=aE 29 17
noncomputable def eM.Kl:eM:=aE 29 18
noncomputable def eM.qN:eM:=aE 29 19
noncomputable def eM.aN:eM:=aE 29 20
noncomputable def eM.kinds:eM:=aE 29 21
noncomputable def eM.cQ:eM:=aE 29 22
noncomputable def eM.half:eM:=aE 29 23
noncomputable def eM.key:eM:=aE 29 24
noncomputable def eM.yr:eM:=aE 29 25
noncomputable def eM.vy:eM:=aE 29 26
noncomputable def eM.count:eM:=aE 29 27
noncomputable def eM.at:eM:=aE 29 28
noncomputable abbrev Gl:=Fin 19
noncomputable def Gl.lX:Gl:=aE 19 0
noncomputable def Gl.nk:Gl:=aE 19 1
noncomputable def Gl.An:Gl:=aE 19 2
noncomputable def Gl.SJ:Gl:=aE 19 3
noncomputable def Gl.SK:Gl:=aE 19 4
noncomputable def Gl.PS:Gl:=aE 19 5
noncomputable def Gl.M8:Gl:=aE 19 6
noncomputable def Gl.yb:Gl:=aE 19 7
noncomputable def Gl.nM:Gl:=aE 19 8
noncomputable def Gl.vg:Gl:=aE 19 9
noncomputable def Gl.o5:Gl:=aE 19 10
noncomputable def Gl.qI:Gl:=aE 19 11
noncomputable def Gl.ni:Gl:=aE 19 12
noncomputable def Gl.jz:Gl:=aE 19 13
noncomputable def Gl.vi:Gl:=aE 19 14
noncomputable def Gl.kQ:Gl:=aE 19 15
noncomputable def Gl.vj:Gl:=aE 19 16
noncomputable def Gl.PT:Gl:=aE 19 17
noncomputable def Gl.Hh:Gl:=aE 19 18
noncomputable abbrev AA:=Fin 4
noncomputable def AA.put:AA:=aE 4 0
noncomputable def AA.Lq:AA:=aE 4 1
noncomputable def AA.take:AA:=aE 4 2
noncomputable def AA.finish:AA:=aE 4 3
noncomputable abbrev Fn:=Fin 76
noncomputable def Fn.gd:Fn:=aE 76 0
noncomputable def Fn.vE:Fn:=aE 76 1
noncomputable def Fn.pN:Fn:=aE 76 2
noncomputable def Fn.A4:Fn:=aE 76 3
noncomputable def Fn.mr:Fn:=aE 76 4
noncomputable def Fn.J8:Fn:=aE 76 5
noncomputable def Fn.AV:Fn:=aE 76 6
noncomputable def Fn.M4:Fn:=aE 76 7
noncomputable def Fn.J7:Fn:=aE 76 8
noncomputable def Fn.Fh:Fn:=aE 76 9
noncomputable def Fn.Fi:Fn:=aE 76 10
noncomputable def Fn.mJ:Fn:=aE 76 11
noncomputable def Fn.iz:Fn:=aE 76 12
noncomputable def Fn.qR:Fn:=aE 76 13
noncomputable def Fn.oQ:Fn:=aE 76 14
noncomputable def Fn.mH:Fn:=aE 76 15
noncomputable def Fn.vW:Fn:=aE 76 16
noncomputable def Fn.wU:Fn:=aE 76 17
noncomputable def Fn.wu:Fn:=aE 76 18
noncomputable def Fn.Bf:Fn:=aE 76 19
noncomputable def Fn.EJ:Fn:=aE 76 20
noncomputable def Fn.uJ:Fn:=aE 76 21
noncomputable def Fn.kM:Fn:=aE 76 22
noncomputable def Fn.k8:Fn:=aE 76 23
noncomputable def Fn.hF:Fn:=aE 76 24
noncomputable def Fn.yN:Fn:=aE 76 25
noncomputable def Fn.qz:Fn:=aE 76 26
noncomputable def Fn.pQ:Fn:=aE 76 27
noncomputable def Fn.rj:Fn:=aE 76 28
noncomputable def Fn.sY:Fn:=aE 76 29
noncomputable def Fn.sX:Fn:=aE 76 30
noncomputable def Fn.ri:Fn:=aE 76 31
noncomputable def Fn.sZ:Fn:=aE 76 32
noncomputable def Fn.lz:Fn:=aE 76 33
noncomputable def Fn.lZ:Fn:=aE 76 34
noncomputable def Fn.ma:Fn:=aE 76 35
noncomputable def Fn.oC:Fn:=aE 76 36
noncomputable def Fn.ow:Fn:=aE 76 37
noncomputable def Fn.mZ:Fn:=aE 76 38
noncomputable def Fn.pP:Fn:=aE 76 39
noncomputable def Fn.tz:Fn:=aE 76 40
noncomputable def Fn.fu:Fn:=aE 76 41
noncomputable def Fn.qK:Fn:=aE 76 42
noncomputable def Fn.tA:Fn:=aE 76 43
noncomputable def Fn.dj:Fn:=aE 76 44
noncomputable def Fn.mA:Fn:=aE 76 45
noncomputable def Fn.kY:Fn:=aE 76 46
noncomputable def Fn.jP:Fn:=aE 76 47
noncomputable def Fn.y0:Fn:=aE 76 48
noncomputable def Fn.qp:Fn:=aE 76 49
noncomputable def Fn.mn:Fn:=aE 76 50
noncomputable def Fn.mU:Fn:=aE 76 51
noncomputable def Fn.yZ:Fn:=aE 76 52
noncomputable def Fn.pL:Fn:=aE 76 53
noncomputable def Fn.gI:Fn:=aE 76 54
noncomputable def Fn.qP:Fn:=aE 76 55
noncomputable def Fn.nU:Fn:=aE 76 56
noncomputable def Fn.sG:Fn:=aE 76 57
noncomputable def Fn.Fm:Fn:=aE 76 58
noncomputable def Fn.iY:Fn:=aE 76 59
noncomputable def Fn.Ds:Fn:=aE 76 60
noncomputable def Fn.qg:Fn:=aE 76 61
noncomputable def Fn.Iv:Fn:=aE 76 62
noncomputable def Fn.Dr:Fn:=aE 76 63
noncomputable def Fn.Iu:Fn:=aE 76 64
noncomputable def Fn.QW:Fn:=aE 76 65
noncomputable def Fn.vh:Fn:=aE 76 66
noncomputable def Fn.nL:Fn:=aE 76 67
noncomputable def Fn.wy:Fn:=aE 76 68
noncomputable def Fn.o7:Fn:=aE 76 69
noncomputable def Fn.jD:Fn:=aE 76 70
noncomputable def Fn.xo:Fn:=aE 76 71
noncomputable def Fn.qH:Fn:=aE 76 72
noncomputable def Fn.lG:Fn:=aE 76 73
noncomputable def Fn.Ap:Fn:=aE 76 74
noncomputable def Fn.BA:Fn:=aE 76 75
theorem d5{db:Prop}(h:∀G2:Prop,(db->G2)->G2):db:=h db id
theorem ny{α:Type _}{db:Prop}(o:Option α)(n:o=none->db)(s:∀a,o=some a->db):db:=o.casesOn (motive:=λx=>o=x->db) n s rfl
theorem MR{db:Prop}(o:Bool)(n:o=false->db)(s:o=true->db):db:=o.casesOn (motive:=λx=>o=x->db) n s rfl
theorem cJ{a b q:Prop}(k:a->b->q)(h:a/\b):q:=k h.1 h.2
theorem jc{a b c q:Prop}(k:a->b->c->q)(h:a/\b/\c):q:=k h.1 h.2.1 h.2.2
theorem mT{a b c d q:Prop}(k:a->b->c->d->q)(h:a/\b/\c/\d):q:=jc (k h.1) h.2
theorem Qj{a b c d e q:Prop}(k:a->b->c->d->e->q)(h:a/\b/\c/\d/\e):q:=mT (k h.1) h.2
theorem Qi{a b c d e f q:Prop}(k:a->b->c->d->e->f->q)(h:a/\b/\c/\d/\e/\f):q:=Qj (k h.1) h.2
theorem Tb{a b c d e f g q:Prop}(k:a->b->c->d->e->f->g->q)(h:a/\b/\c/\d/\e/\f/\g):q:=Qi (k h.1) h.2
theorem Rv{a b c d e f g i q:Prop}(k:a->b->c->d->e->f->g->i->q)(h:a/\b/\c/\d/\e/\f/\g/\i):q:=Tb (k h.1) h.2
theorem V6{a b c d e f g i j q:Prop}(k:a->b->c->d->e->f->g->i->j->q)(h:a/\b/\c/\d/\e/\f/\g/\i/\j):q:=Rv (k h.1) h.2
theorem UH{a b c d e f g i j l q:Prop}(k:a->b->c->d->e->f->g->i->j->l->q)(h:a/\b/\c/\d/\e/\f/\g/\i/\j/\l):q:=V6 (k h.1) h.2
theorem cP{α:Sort _}{p:α->Prop}{q:Prop}(h:∃a,p a)(k:∀a,p a->q):q:=h.elim k
theorem iJ{α β:Sort _}{p:α->β->Prop}{q:Prop}(h:∃a b,p a b)(k:∀a b,p a b->q):q:=h.elim λa h=>h.elim (k a)
theorem nG{α β γ:Sort _}{p:α->β->γ->Prop}{q:Prop}(h:∃a b c,p a b c)(k:∀a b c,p a b c->q):q:=h.elim λa h=>iJ h (k a)
theorem Kv{α β γ δ:Sort _}{p:α->β->γ->δ->Prop}{q:Prop}(h:∃a b c d,p a b c d)(k:∀a b c d,p a b c d->q):q:=h.elim λa h=>nG h (k a)
theorem SY{α β γ δ ε:Sort _}{p:α->β->γ->δ->ε->Prop}{q:Prop}(h:∃a b c d e,p a b c d e)(k:∀a b c d e,p a b c d e->q):q:=h.elim λa h=>Kv h (k a)
theorem Ux{α β γ δ ε ζ:Sort _}{p:α->β->γ->δ->ε->ζ->Prop}{q:Prop}(h:∃a b c d e f,p a b c d e f)(k:∀a b c d e f,p a b c d e f->q):q:=h.elim λa h=>SY h (k a)
theorem V5{α β γ δ ε ζ η:Sort _}{p:α->β->γ->δ->ε->ζ->η->Prop}{q:Prop}(h:∃a b c d e f g,p a b c d e f g)(k:∀a b c d e f g,p a b c d e f g->q):q:=h.elim λa h=>Ux h (k a)
theorem V4{α β γ δ ε ζ η θ:Sort _}{p:α->β->γ->δ->ε->ζ->η->θ->Prop}{q:Prop}(h:∃a b c d e f g i,p a b c d e f g i)(k:∀a b c d e f g i,p a b c d e f g i->q):q:=h.elim λa h=>V5 h (k a)
theorem Vn{α β γ δ ε ζ η θ κ:Sort _}{p:α->β->γ->δ->ε->ζ->η->θ->κ->Prop}{q:Prop}(h:∃a b c d e f g i j,p a b c d e f g i j)(k:∀a b c d e f g i j,p a b c d e f g i j->q):q:=h.elim λa h=>V4 h (k a)
set_option genCtorIdx false
noncomputable def MA{α:Type}(f:α->Nat)(g:Nat->α)(h:∀a,g (f a)=a)(a b:α):Decidable (a=b):=if e:f a=f b then .isTrue ((h a).symm.trans ((aM g e).trans (h b)))else .isFalse λq=>e (aM f q)
inductive S2(cr:Unit) where
 | ei | sub | fm | ey | iq | qu | qQ | sm | and | or | Ay
noncomputable abbrev Op:=S2 ()
noncomputable def S2.ctorIdx{cr:Unit}(x:S2 cr):Nat:=S2.casesOn x 0 1 2 3 4 5 6 7 8 9 10
noncomputable instance S2.Vt:DecidableEq Op:=MA S2.ctorIdx (λi=>[.ei,.sub,.fm,.ey,.iq,.qu,.qQ,.sm,.and,.or,.Ay].getD i .ei) λa=>by cases a<;>rfl
inductive PQ(cr:Unit) where
 | pD | not | OZ
noncomputable abbrev QV:=PQ ()
noncomputable def PQ.ctorIdx{cr:Unit}(x:PQ cr):Nat:=PQ.casesOn x 0 1 2
inductive Kc(cr:Unit) where
 | eq | ne | lt | le | gt | ge | is | LX | Gv | Km
noncomputable abbrev nE:=Kc ()
noncomputable def Kc.ctorIdx{cr:Unit}(x:Kc cr):Nat:=Kc.casesOn x 0 1 2 3 4 5 6 7 8 9
noncomputable instance Kc.Vt:DecidableEq nE:=MA Kc.ctorIdx (λi=>[.eq,.ne,.lt,.le,.gt,.ge,.is,.LX,.Gv,.Km].getD i .eq) λa=>by cases a<;>rfl
inductive S3(cr:Unit) where
 | len | Iq | Gj | sum | bytes | list | range
noncomputable abbrev Bi:=S3 ()
noncomputable def S3.ctorIdx{cr:Unit}(x:S3 cr):Nat:=S3.casesOn x 0 1 2 3 4 5 6
noncomputable instance S3.Vt:DecidableEq Bi:=MA S3.ctorIdx (λi=>[.len,.Iq,.Gj,.sum,.bytes,.list,.range].getD i .len) λa=>by cases a<;>rfl
inductive UC(cr:Unit) where
 | append | Qw | reverse | index
noncomputable abbrev Lm:=UC ()
noncomputable def UC.ctorIdx{cr:Unit}(x:UC cr):Nat:=UC.casesOn x 0 1 2 3
inductive V where
 | av | none
 | bool (b:Bool)
 | int (i:Int)
 | bytes (l:List Nat)
 | ref (a:Nat)
 | gV (a b c:Int)
noncomputable def V.ctorIdx(v:V):Nat:=V.casesOn v 0 1 (λ_=>2) (λ_=>3) (λ_=>4) (λ_=>5) (λ_ _ _=>6)
deriving noncomputable instance DecidableEq for V
inductive O where
 | list (vs:List V)
 | lV (vs:List V)
 | eY (vs:List V)
 | gV (a b c:Int)
 | inst (c:pG) (fs:List (eM×V))
noncomputable def O.ctorIdx(v:O):Nat:=O.casesOn v (λ_=>0) (λ_=>1) (λ_=>2) (λ_ _ _=>3) (λ_ _=>4)
deriving noncomputable instance DecidableEq for O
noncomputable def O.seq?:O->Option (List V)
 | .list vs=>some vs
 | .lV vs=>some vs
 | .eY vs=>some vs
 | _=>none
noncomputable def O.uf:O->Option (List V)
 | .list vs=>some vs
 | .lV vs=>some vs
 | _=>none
noncomputable abbrev St:=List O
set_option genSizeOf false
set_option genInjectivity false
mutual
inductive ME where
 | ai (i:Int) | nf (b:Bool) | lW
 | ah (i:Nat) | cW (g:Gl)
 | aQ (op:Op) (a b:ME) | un (op:QV) (a:ME)
 | nX (es:List ME) | MQ (es:List ME)
 | cy (l:ME) (Db:List nE) (es:List ME)
 | ite (c:MB) (a b:ME)
 | aS (o:ME) (f:eM)
 | sub (o i:ME)
 | slice (o:ME) (lo hi:Option ME)
 | list (es:List ME) | eY (es:List ME)
 | gu (xL:ME) (slot:Nat) (it:ME) (cond:Option MB)
 | BR (xL:ME) (s1:Nat) (it1:ME) (s2:Nat) (it2:ME)
 | call (f:Fn) (wv:List ME)
 | new (c:pG) (wv:List ME)
 | jt (o:ME) (m:AA) (wv:List ME)
 | bi (b:Bi) (wv:List ME)
 | gV (wv:List ME)
 | lm (o:ME) (m:Lm) (wv:List ME)
inductive MB where
 | val (e:ME)
 | not (b:MB)
 | all (bs:List MB) | any (bs:List MB)
 | cy (l:ME) (Db:List nE) (es:List ME)
 | ite (c a b:MB)
end
inductive Tg where
 | ah (i:Nat) | aS (o:ME) (f:eM) | sub (o i:ME) | eY (ts:List Tg)
inductive MS where
 | assign (t:Tg) (e:ME)
 | ig (t:Tg) (op:Op) (e:ME)
 | kx (e:ME)
 | ret (e:ME) | Jd
 | fB (c:MB) (a b:List MS)
 | while (c:MB) (b:List MS)
 | for (t:Tg) (it:ME) (b:List MS)
 | raise (e:ME)
 | try (b h:List MS)
 | cont | bad
structure Nd where
 name:String
 qual:String
 ij:Nat
 ue:Nat
 lh:Nat
 names:List String
 body:List MS
 uq:Bool
 ad:Nat
noncomputable def wo:List MS:=
 [.ret (.aQ .ei (.aQ .fm (.ah 0) (.ai 8)) (.ah 1))]
noncomputable def B6:List MS:=
 [.ret (.aQ .sm (.ah 0) (.ai 3))]
noncomputable def B7:List MS:=
 [.ret (.aQ .and (.ah 0) (.ai 7))]
noncomputable def xZ:List MS:=
 [.assign (.aS (.ah 0) .files) (.ah 1),.assign (.aS (.ah 0) .rN) (.ah 2),.assign (.aS (.ah 0) .size) (.aQ .fm (.ah 1) (.ah 2)),.assign (.aS (.ah 0) .full) (.aQ .sub (.aQ .qQ (.ai 1) (.aQ .fm (.ah 1) (.ah 2))) (.ai 1)),.assign (.aS (.ah 0) .q4) (.nX [(.ah 3),(.cy (.ah 2) [.ge] [(.ai 5)])]),.assign (.aS (.ah 0) .q7) (.ah 4),.assign (.aS (.ah 0) .jm) (.list []),.assign (.aS (.ah 0) .jI) (.list []),.assign (.aS (.ah 0) .CD) (.list []),.assign (.aS (.ah 0) .Ez) (.list []),.assign (.aS (.ah 0) .zw) (.list []),.assign (.aS (.ah 0) .Eh) (.list [(.list []),(.list [])]),.assign (.aS (.ah 0) .pR) (.list []),.assign (.aS (.ah 0) .mV) (.list [])]
noncomputable def wt:List MS:=
 [.ret (.MQ [(.cy (.sub (.cW .o5) (.ah 0)) [.gt] [(.ai 0)]),(.cy (.ah 0) [.eq] [(.ai 1)])])]
noncomputable def E8:List MS:=
 [.assign (.ah 1) (.aQ .sub (.aQ .qQ (.ai 1) (.aS (.ah 0) .files)) (.ai 1)),.assign (.ah 2) (.ai 0),.for (.ah 3) (.gV [(.aS (.ah 0) .rN)]) [.kx (.lm (.aS (.ah 0) .jI) .append [(.aQ .qQ (.ah 1) (.aQ .fm (.ah 3) (.aS (.ah 0) .files)))]),.ig (.ah 2) .or (.aQ .qQ (.ai 1) (.aQ .fm (.ah 3) (.aS (.ah 0) .files)))],.for (.ah 4) (.gV [(.aS (.ah 0) .files)]) [.kx (.lm (.aS (.ah 0) .jm) .append [(.aQ .qQ (.ah 2) (.ah 4))])]]
noncomputable def xY:List MS:=
 [.assign (.ah 2) (.ai 0),.fB (.cy (.sub (.cW .vg) (.ah 1)) [.gt] [(.ai 0)]) [.ig (.ah 2) .or (.sub (.aS (.ah 0) .jm) (.aQ .sub (.aS (.ah 0) .files) (.ai 1)))] [],.fB (.cy (.sub (.cW .vg) (.ah 1)) [.lt] [(.ai 0)]) [.ig (.ah 2) .or (.sub (.aS (.ah 0) .jm) (.ai 0))] [],.fB (.cy (.sub (.cW .o5) (.ah 1)) [.gt] [(.ai 0)]) [.ig (.ah 2) .or (.sub (.aS (.ah 0) .jI) (.aQ .sub (.aS (.ah 0) .rN) (.ai 1)))] [],.fB (.cy (.sub (.cW .o5) (.ah 1)) [.lt] [(.ai 0)]) [.ig (.ah 2) .or (.sub (.aS (.ah 0) .jI) (.ai 0))] [],.ret (.aQ .and (.aS (.ah 0) .full) (.un .OZ (.ah 2)))]
noncomputable def G9:List MS:=
 [.assign (.aS (.ah 0) .Ez) (.aQ .fm (.list [(.ai 0)]) (.aS (.ah 0) .size)),.for (.ah 1) (.gV [(.ai 8)]) [.assign (.ah 2) (.call .AV [(.ah 0),(.ah 1)]),.assign (.ah 3) (.aQ .ei (.aQ .fm (.sub (.cW .o5) (.ah 1)) (.aS (.ah 0) .files)) (.sub (.cW .vg) (.ah 1))),.assign (.ah 4) (.aQ .fm (.list [(.ai 0)]) (.aS (.ah 0) .size)),.assign (.ah 5) (.bi .range [(.aS (.ah 0) .size)]),.fB (.val (.call .mr [(.ah 1)])) [.assign (.ah 5) (.bi .range [(.aQ .sub (.aS (.ah 0) .size) (.ai 1)),(.un .pD (.ai 1)),(.un .pD (.ai 1))])] [],.for (.ah 6) (.ah 5) [.fB (.val (.aQ .and (.aQ .sm (.ah 2) (.ah 6)) (.ai 1))) [.assign (.ah 7) (.aQ .ei (.ah 6) (.ah 3)),.assign (.sub (.ah 4) (.ah 6)) (.aQ .or (.sub (.ah 4) (.ah 7)) (.aQ .qQ (.ai 1) (.ah 7))),.ig (.sub (.aS (.ah 0) .Ez) (.ah 6)) .or (.aQ .qQ (.ai 1) (.ah 7))] []],.kx (.lm (.aS (.ah 0) .CD) .append [(.ah 4)])]]
noncomputable def E7:List MS:=
 [.for (.ah 1) (.gV [(.aS (.ah 0) .size)]) [.kx (.lm (.sub (.aS (.ah 0) .Eh) (.ai 0)) .append [(.aQ .and (.sub (.aS (.ah 0) .Ez) (.ah 1)) (.aQ .or (.sub (.sub (.aS (.ah 0) .CD) (.ai 4)) (.ah 1)) (.sub (.sub (.aS (.ah 0) .CD) (.ai 7)) (.ah 1))))]),.kx (.lm (.sub (.aS (.ah 0) .Eh) (.ai 1)) .append [(.aQ .and (.sub (.aS (.ah 0) .Ez) (.ah 1)) (.aQ .or (.sub (.sub (.aS (.ah 0) .CD) (.ai 5)) (.ah 1)) (.sub (.sub (.aS (.ah 0) .CD) (.ai 6)) (.ah 1))))])]]
noncomputable def A2:List MS:=
 [.assign (.ah 1) (.aS (.ah 0) .files),.assign (.ah 2) (.aQ .and (.aS (.ah 0) .full) (.un .OZ (.sub (.aS (.ah 0) .jm) (.ai 0)))),.assign (.ah 3) (.aQ .and (.aS (.ah 0) .full) (.un .OZ (.sub (.aS (.ah 0) .jm) (.aQ .sub (.ah 1) (.ai 1))))),.assign (.ah 4) (.aQ .and (.ah 2) (.un .OZ (.sub (.aS (.ah 0) .jm) (.ai 1)))),.assign (.ah 5) (.aQ .and (.ah 3) (.un .OZ (.sub (.aS (.ah 0) .jm) (.aQ .sub (.ah 1) (.ai 2))))),.for (.ah 6) (.gV [(.aS (.ah 0) .size)]) [.assign (.ah 7) (.aQ .qQ (.ai 1) (.ah 6)),.assign (.ah 8) (.aQ .or (.aQ .and (.aQ .qQ (.ah 7) (.ai 1)) (.ah 2)) (.aQ .and (.aQ .sm (.ah 7) (.ai 1)) (.ah 3))),.assign (.ah 9) (.aQ .or (.aQ .and (.aQ .qQ (.ah 7) (.ai 2)) (.ah 4)) (.aQ .and (.aQ .sm (.ah 7) (.ai 2)) (.ah 5))),.assign (.ah 10) (.aQ .or (.aQ .or (.aQ .or (.aQ .qQ (.ah 8) (.aQ .fm (.ai 2) (.ah 1))) (.aQ .sm (.ah 8) (.aQ .fm (.ai 2) (.ah 1)))) (.aQ .qQ (.ah 9) (.ah 1))) (.aQ .sm (.ah 9) (.ah 1))),.kx (.lm (.aS (.ah 0) .zw) .append [(.aQ .and (.ah 10) (.aS (.ah 0) .full))])]]
noncomputable def A3:List MS:=
 [.assign (.aS (.ah 0) .mV) (.aQ .fm (.list [(.ai 0)]) (.aS (.ah 0) .size)),.assign (.ah 1) (.aQ .ey (.aS (.ah 0) .files) (.ai 2)),.for (.ah 2) (.gV [(.ai 4)]) [.assign (.ah 3) (.aQ .fm (.aQ .fm (.aQ .sm (.ah 2) (.ai 1)) (.aQ .sub (.aS (.ah 0) .rN) (.ai 1))) (.aS (.ah 0) .files)),.assign (.ah 4) (.aQ .sub (.aS (.ah 0) .files) (.ai 1)),.assign (.ah 5) (.ai 1),.fB (.val (.aQ .and (.ah 2) (.ai 1))) [.assign (.ah 4) (.ai 0),.assign (.ah 5) (.un .pD (.ai 1))] [],.assign (.ah 6) (.aQ .ei (.ah 1) (.aQ .fm (.ai 2) (.ah 5))),.fB (.all [(.val (.aS (.ah 0) .q7)),(.cy (.aQ .fm (.aQ .sub (.ah 4) (.ah 6)) (.ah 5)) [.gt] [(.ai 0)])]) [.kx (.lm (.aS (.ah 0) .pR) .append [(.eY [(.aQ .ei (.ah 3) (.ah 1)),(.aQ .ei (.ah 3) (.ah 6)),(.aQ .ei (.ah 3) (.ah 4)),(.aQ .sub (.aQ .ei (.ah 3) (.ah 6)) (.ah 5))])]),.ig (.sub (.aS (.ah 0) .mV) (.aQ .ei (.ah 3) (.ah 1))) .or (.aQ .qQ (.ai 1) (.ah 2)),.ig (.sub (.aS (.ah 0) .mV) (.aQ .ei (.ah 3) (.ah 4))) .or (.aQ .qQ (.ai 1) (.ah 2))] [.kx (.lm (.aS (.ah 0) .pR) .append [.lW])]]]
noncomputable def xX:List MS:=
 [.fB (.any [(.cy (.ah 0) [.lt] [(.ai 2)]),(.cy (.ah 0) [.gt] [(.ai 8)]),(.cy (.ah 1) [.lt] [(.ai 3)]),(.cy (.ah 1) [.gt] [(.ai 8)])]) [.bad] [],.assign (.ah 4) (.new .eE [(.ah 0),(.ah 1),(.ah 2),(.ah 3)]),.kx (.call .J8 [(.ah 4)]),.kx (.call .M4 [(.ah 4)]),.kx (.call .J7 [(.ah 4)]),.kx (.call .Fh [(.ah 4)]),.kx (.call .Fi [(.ah 4)]),.ret (.ah 4)]
noncomputable def qd:List MS:=
 [.assign (.ah 4) (.sub (.sub (.aS (.ah 0) .CD) (.ah 1)) (.ah 2)),.assign (.ah 5) (.aQ .and (.ah 4) (.ah 3)),.fB (.cy (.ah 5) [.eq] [(.ai 0)]) [.ret (.ah 4)] [],.fB (.val (.call .mr [(.ah 1)])) [.ret (.aQ .and (.ah 4) (.aQ .Ay (.ah 5) (.aQ .sub (.ah 5) (.ai 1))))] [],.assign (.ah 6) (.aQ .sm (.ah 5) (.ai 1)),.ig (.ah 6) .or (.aQ .sm (.ah 6) (.ai 1)),.ig (.ah 6) .or (.aQ .sm (.ah 6) (.ai 2)),.ig (.ah 6) .or (.aQ .sm (.ah 6) (.ai 4)),.ig (.ah 6) .or (.aQ .sm (.ah 6) (.ai 8)),.ig (.ah 6) .or (.aQ .sm (.ah 6) (.ai 16)),.ig (.ah 6) .or (.aQ .sm (.ah 6) (.ai 32)),.ret (.aQ .and (.ah 4) (.un .OZ (.ah 6)))]
noncomputable def te:List MS:=
 [.assign (.ah 3) (.ai 0),.for (.ah 4) (.gV [(.ai 4)]) [.ig (.ah 3) .or (.call .iz [(.ah 0),(.ah 4),(.ah 1),(.ah 2)])],.ret (.ah 3)]
noncomputable def qC:List MS:=
 [.assign (.ah 3) (.ai 0),.for (.ah 4) (.gV [(.ai 4),(.ai 8)]) [.ig (.ah 3) .or (.call .iz [(.ah 0),(.ah 4),(.ah 1),(.ah 2)])],.ret (.ah 3)]
noncomputable def rP:List MS:=
 [.ret (.cy (.aQ .and (.ah 0) (.aQ .sub (.ah 0) (.ai 1))) [.ne] [(.ai 0)])]
noncomputable def xf:List MS:=
 [.fB (.cy (.ah 0) [.eq] [(.ai 0)]) [.ret (.un .pD (.ai 1))] [],.assign (.ah 1) (.ai 1),.while (.val (.aQ .sm (.ah 0) (.ah 1))) [.ig (.ah 1) .fm (.ai 2)],.assign (.ah 2) (.ai 0),.while (.cy (.ah 1) [.gt] [(.ai 1)]) [.ig (.ah 1) .ey (.ai 2),.fB (.val (.aQ .sm (.ah 0) (.ah 1))) [.ig (.ah 0) .sm (.ah 1),.ig (.ah 2) .ei (.ah 1)] []],.ret (.ah 2)]
noncomputable def E6:List MS:=
 [.ret (.call .vW [(.aQ .and (.ah 0) (.un .pD (.ah 0)))])]
noncomputable def tg:List MS:=
 [.assign (.aS (.ah 0) .k8) (.ah 1),.assign (.aS (.ah 0) .ep) (.ah 2),.assign (.aS (.ah 0) .aX) (.ah 3),.assign (.aS (.ah 0) .bL) (.ah 4)]
noncomputable def pU:List MS:=
 [.assign (.ah 1) (.aS (.ah 0) .Kl),.assign (.ah 2) (.sub (.aS (.ah 1) .aX) (.aS (.ah 0) .aX)),.fB (.cy (.aS (.ah 0) .ep) [.ge] [(.ai 0)]) [.ig (.ah 2) .Ay (.sub (.aS (.ah 1) .ep) (.aQ .iq (.aS (.ah 0) .ep) (.aS (.aS (.ah 0) .qN) .files)))] [],.fB (.cy (.aS (.ah 0) .bL) [.eq] [(.cW .nk)]) [.ig (.ah 2) .Ay (.aS (.ah 1) .bL)] [],.ret (.ah 2)]
noncomputable def Af:List MS:=
 [.assign (.ah 1) (.aS (.aS (.ah 0) .Kl) .k8),.assign (.ah 2) (.call .Bf [(.ah 0)]),.assign (.ah 3) (.ai 0),.for (.ah 4) (.aS (.ah 0) .aN) [.fB (.cy (.ah 4) [.ne] [(.cW .nM)]) [.ig (.ah 2) .Ay (.sub (.sub (.ah 1) (.ah 4)) (.ah 3))] [],.ig (.ah 3) .ei (.ai 1)],.ret (.ah 2)]
noncomputable def rQ:List MS:=
 [.assign (.aS (.ah 0) .qN) (.ah 1),.assign (.aS (.ah 0) .Kl) (.ah 2),.assign (.aS (.ah 0) .aN) (.aQ .fm (.list [(.cW .nM)]) (.aS (.ah 1) .size)),.assign (.aS (.ah 0) .kinds) (.aQ .fm (.list [(.ai 0)]) (.ai 7)),.assign (.aS (.ah 0) .cQ) (.list [(.ai 0),(.ai 0)]),.assign (.aS (.ah 0) .bL) (.cW .lX),.assign (.aS (.ah 0) .aX) (.ai 0),.assign (.aS (.ah 0) .ep) (.un .pD (.ai 1)),.assign (.aS (.ah 0) .half) (.ai 0),.assign (.aS (.ah 0) .full) (.ai 1),.assign (.aS (.ah 0) .key) (.ai 0),.assign (.aS (.ah 0) .yr) (.list [])]
noncomputable def xH:List MS:=
 [.assign (.ah 3) (.aQ .qQ (.ai 1) (.ah 2)),.assign (.sub (.aS (.ah 0) .aN) (.ah 2)) (.ah 1),.ig (.sub (.aS (.ah 0) .kinds) (.call .pN [(.ah 1)])) .or (.ah 3),.ig (.sub (.aS (.ah 0) .cQ) (.call .vE [(.ah 1)])) .or (.ah 3),.ig (.aS (.ah 0) .key) .Ay (.sub (.sub (.aS (.aS (.ah 0) .Kl) .k8) (.ah 1)) (.ah 2))]
noncomputable def E5:List MS:=
 [.ret (.aQ .and (.sub (.aS (.ah 0) .cQ) (.ah 1)) (.sub (.aS (.ah 0) .kinds) (.ah 2)))]
noncomputable def uD:List MS:=
 [.ret (.call .wU [(.aQ .and (.sub (.aS (.ah 0) .cQ) (.ah 1)) (.sub (.aS (.ah 0) .kinds) (.cW .yb)))])]
noncomputable def wk:List MS:=
 [.assign (.aS (.ah 0) .key) (.call .EJ [(.ah 0)])]
noncomputable def kO:List MS:=
 [.assign (.ah 2) (.aS (.ah 0) .qN),.fB (.any [(.not (.val (.aS (.ah 2) .q4))),(.cy (.ah 1) [.lt] [(.ai 0)]),(.cy (.ah 1) [.ge] [(.aS (.ah 2) .size)])]) [.ret (.nf false)] [],.assign (.ah 3) (.ai 2),.assign (.ah 4) (.un .pD (.aS (.ah 2) .files)),.fB (.cy (.aS (.ah 0) .bL) [.eq] [(.cW .lX)]) [.assign (.ah 3) (.aQ .sub (.aS (.ah 2) .rN) (.ai 3)),.assign (.ah 4) (.aS (.ah 2) .files)] [],.fB (.cy (.aQ .ey (.ah 1) (.aS (.ah 2) .files)) [.ne] [(.ah 3)]) [.ret (.nf false)] [],.fB (.any [(.cy (.sub (.aS (.ah 0) .aN) (.ah 1)) [.ne] [(.cW .nM)]),(.cy (.sub (.aS (.ah 0) .aN) (.aQ .ei (.ah 1) (.ah 4))) [.ne] [(.cW .nM)])]) [.ret (.nf false)] [],.ret (.cy (.sub (.aS (.ah 0) .aN) (.aQ .sub (.ah 1) (.ah 4))) [.eq] [(.call .gd [(.aQ .sub (.ai 1) (.aS (.ah 0) .bL)),(.cW .An)])])]
noncomputable def uG:List MS:=
 [.ret (.cy (.aQ .and (.sub (.sub (.aS (.aS (.ah 0) .qN) .Eh) (.aQ .sub (.ai 1) (.aS (.ah 0) .bL))) (.ah 1)) (.call .k8 [(.ah 0),(.aS (.ah 0) .bL),(.cW .An)])) [.ne] [(.ai 0)])]
noncomputable def tf:List MS:=
 [.assign (.ah 1) (.aS (.ah 0) .qN),.fB (.any [(.cy (.bi .len [(.aS (.ah 0) .aN)]) [.ne] [(.aS (.ah 1) .size)]),(.cy (.bi .len [(.aS (.ah 0) .kinds)]) [.ne] [(.ai 7)]),(.cy (.bi .len [(.aS (.ah 0) .cQ)]) [.ne] [(.ai 2)])]) [.raise (.un .pD (.ai 1))] [],.assign (.ah 2) (.aQ .fm (.list [(.ai 0)]) (.ai 7)),.assign (.ah 3) (.list [(.ai 0),(.ai 0)]),.for (.ah 4) (.gV [(.aS (.ah 1) .size)]) [.assign (.ah 5) (.sub (.aS (.ah 0) .aN) (.ah 4)),.fB (.cy (.ah 5) [.eq] [(.cW .nM)]) [.cont] [],.fB (.any [(.not (.cy (.ai 0) [.lt,.lt] [(.ah 5),(.ai 15)])),(.not (.cy (.cW .An) [.le,.le] [(.call .pN [(.ah 5)]),(.cW .yb)]))]) [.raise (.ah 4)] [],.ig (.sub (.ah 2) (.call .pN [(.ah 5)])) .or (.aQ .qQ (.ai 1) (.ah 4)),.ig (.sub (.ah 3) (.call .vE [(.ah 5)])) .or (.aQ .qQ (.ai 1) (.ah 4))],.assign (.ah 6) (.aQ .or (.aQ .Ay (.sub (.ah 3) (.cW .lX)) (.sub (.aS (.ah 0) .cQ) (.cW .lX))) (.aQ .Ay (.sub (.ah 3) (.cW .nk)) (.sub (.aS (.ah 0) .cQ) (.cW .nk)))),.for (.ah 7) (.gV [(.ai 7)]) [.ig (.ah 6) .or (.aQ .Ay (.sub (.ah 2) (.ah 7)) (.sub (.aS (.ah 0) .kinds) (.ah 7)))],.fB (.any [(.cy (.ah 6) [.lt] [(.ai 0)]),(.cy (.ah 6) [.gt] [(.aS (.ah 1) .full)])]) [.raise (.un .pD (.ai 1))] [],.fB (.cy (.ah 6) [.ne] [(.ai 0)]) [.raise (.call .wU [(.ah 6)])] []]
noncomputable def uH:List MS:=
 [.for (.ah 1) (.eY [(.cW .lX),(.cW .nk)]) [.assign (.ah 2) (.call .k8 [(.ah 0),(.ah 1),(.cW .yb)]),.fB (.cy (.ah 2) [.eq] [(.ai 0)]) [.raise (.un .pD (.ai 1))] [],.fB (.val (.call .mH [(.ah 2)])) [.raise (.call .vW [(.ah 2)])] []]]
noncomputable def kh:List MS:=
 [.assign (.ah 1) (.aS (.ah 0) .qN),.assign (.ah 2) (.aQ .and (.sub (.aS (.ah 0) .kinds) (.cW .An)) (.aQ .or (.sub (.aS (.ah 1) .jI) (.ai 0)) (.sub (.aS (.ah 1) .jI) (.aQ .sub (.aS (.ah 1) .rN) (.ai 1))))),.fB (.cy (.ah 2) [.ne] [(.ai 0)]) [.raise (.call .wU [(.ah 2)])] []]
noncomputable def oW:List MS:=
 [.fB (.not (.cy (.ai 0) [.le,.lt] [(.aS (.ah 0) .aX),(.ai 16)])) [.raise (.un .pD (.ai 1))] [],.for (.ah 1) (.gV [(.ai 4)]) [.fB (.cy (.aQ .and (.aS (.ah 0) .aX) (.aQ .qQ (.ai 1) (.ah 1))) [.eq] [(.ai 0)]) [.cont] [],.assign (.ah 2) (.sub (.aS (.aS (.ah 0) .qN) .pR) (.ah 1)),.fB (.cy (.ah 2) [.is] [.lW]) [.raise (.un .pD (.ai 1))] [],.fB (.cy (.sub (.aS (.ah 0) .aN) (.sub (.ah 2) (.ai 0))) [.ne] [(.call .gd [(.aQ .sm (.ah 1) (.ai 1)),(.cW .yb)])]) [.raise (.sub (.ah 2) (.ai 0))] [],.fB (.cy (.sub (.aS (.ah 0) .aN) (.sub (.ah 2) (.ai 2))) [.ne] [(.call .gd [(.aQ .sm (.ah 1) (.ai 1)),(.cW .PS)])]) [.raise (.sub (.ah 2) (.ai 2))] []]]
noncomputable def mw:List MS:=
 [.fB (.cy (.aS (.ah 0) .ep) [.eq] [(.un .pD (.ai 1))]) [.Jd] [],.fB (.not (.val (.call .qz [(.ah 0),(.aS (.ah 0) .ep)]))) [.raise (.aS (.ah 0) .ep)] [],.fB (.not (.val (.call .pQ [(.ah 0),(.aS (.ah 0) .ep)]))) [.raise (.aS (.ah 0) .ep)] []]
noncomputable def hU:List MS:=
 [.fB (.all [(.cy (.aS (.ah 0) .bL) [.ne] [(.cW .lX)]),(.cy (.aS (.ah 0) .bL) [.ne] [(.cW .nk)])]) [.raise (.un .pD (.ai 1))] [],.fB (.any [(.cy (.aS (.ah 0) .half) [.lt] [(.ai 0)]),(.cy (.aS (.ah 0) .full) [.lt] [(.ai 1)])]) [.raise (.un .pD (.ai 1))] [],.kx (.call .rj [(.ah 0)]),.kx (.call .sY [(.ah 0)]),.kx (.call .sX [(.ah 0)]),.kx (.call .ri [(.ah 0)]),.kx (.call .sZ [(.ah 0)])]
noncomputable def oR:List MS:=
 [.ret (.aQ .or (.sub (.aS (.ah 0) .kinds) (.cW .PS)) (.sub (.aS (.ah 0) .kinds) (.cW .M8)))]
noncomputable def oV:List MS:=
 [.ret (.aQ .or (.sub (.aS (.ah 0) .kinds) (.cW .SK)) (.sub (.aS (.ah 0) .kinds) (.cW .M8)))]
noncomputable def qB:List MS:=
 [.ret (.aQ .and (.aQ .and (.sub (.sub (.aS (.aS (.ah 0) .qN) .Eh) (.aQ .sub (.ai 1) (.ah 2))) (.ah 1)) (.sub (.aS (.ah 0) .kinds) (.cW .An))) (.sub (.aS (.ah 0) .cQ) (.ah 2)))]
noncomputable def qA:List MS:=
 [.assign (.ah 3) (.aS (.ah 0) .qN),.assign (.ah 4) (.aQ .and (.sub (.aS (.ah 3) .zw) (.ah 1)) (.sub (.aS (.ah 0) .kinds) (.cW .SJ))),.ig (.ah 4) .or (.aQ .and (.sub (.aS (.ah 3) .Ez) (.ah 1)) (.sub (.aS (.ah 0) .kinds) (.cW .yb))),.ret (.aQ .or (.call .oC [(.ah 0),(.ah 1),(.ah 2)]) (.aQ .and (.ah 4) (.sub (.aS (.ah 0) .cQ) (.ah 2))))]
noncomputable def mN:List MS:=
 [.fB (.val (.call .ow [(.ah 0),(.ah 1),(.ah 2)])) [.ret (.nf true)] [],.assign (.ah 4) (.aS (.ah 0) .qN),.assign (.ah 5) (.sub (.aS (.ah 0) .cQ) (.ah 2)),.assign (.ah 6) (.aQ .and (.call .lZ [(.ah 0)]) (.ah 5)),.fB (.all [(.val (.ah 6)),(.val (.aQ .and (.call .qR [(.ah 4),(.ah 1),(.ah 3)]) (.ah 6)))]) [.ret (.nf true)] [],.assign (.ah 7) (.aQ .and (.call .ma [(.ah 0)]) (.ah 5)),.ret (.nX [(.cy (.ah 7) [.ne] [(.ai 0)]),(.cy (.aQ .and (.call .oQ [(.ah 4),(.ah 1),(.ah 3)]) (.ah 7)) [.ne] [(.ai 0)])])]
noncomputable def uF:List MS:=
 [.assign (.ah 2) (.aQ .or (.sub (.aS (.ah 0) .cQ) (.cW .lX)) (.sub (.aS (.ah 0) .cQ) (.cW .nk))),.ret (.call .mZ [(.ah 0),(.call .hF [(.ah 0),(.ah 1)]),(.aQ .sub (.ai 1) (.ah 1)),(.ah 2)])]
noncomputable def qE:List MS:=
 [.assign (.aS (.ah 0) .vy) (.ai 0),.assign (.aS (.ah 0) .count) (.ai 0)]
noncomputable def rR:List MS:=
 [.ig (.aS (.ah 0) .vy) .or (.aQ .qQ (.aQ .and (.ah 1) (.aQ .sub (.aQ .qQ (.ai 1) (.ah 2)) (.ai 1))) (.aS (.ah 0) .count)),.ig (.aS (.ah 0) .count) .ei (.ah 2)]
noncomputable def oX:List MS:=
 [.ret (.bi .bytes [(.gu (.aQ .and (.aQ .sm (.aS (.ah 0) .vy) (.ah 1)) (.ai 255)) 1 (.gV [(.ai 0),(.aS (.ah 0) .count),(.ai 8)]) none)])]
noncomputable def qF:List MS:=
 [.assign (.aS (.ah 0) .vy) (.ai 0),.assign (.aS (.ah 0) .count) (.ai 0),.assign (.aS (.ah 0) .at) (.ai 0),.for (.ah 2) (.ah 1) [.ig (.aS (.ah 0) .vy) .or (.aQ .qQ (.ah 2) (.aS (.ah 0) .count)),.ig (.aS (.ah 0) .count) .ei (.ai 8)]]
noncomputable def my:List MS:=
 [.fB (.cy (.aQ .ei (.aS (.ah 0) .at) (.ah 1)) [.gt] [(.aS (.ah 0) .count)]) [.raise (.un .pD (.ai 1))] [],.assign (.ah 2) (.aQ .and (.aQ .sm (.aS (.ah 0) .vy) (.aS (.ah 0) .at)) (.aQ .sub (.aQ .qQ (.ai 1) (.ah 1)) (.ai 1))),.ig (.aS (.ah 0) .at) .ei (.ah 1),.ret (.ah 2)]
noncomputable def kD:List MS:=
 [.fB (.cy (.aQ .sub (.aS (.ah 0) .count) (.aS (.ah 0) .at)) [.ge] [(.ai 8)]) [.raise (.un .pD (.ai 1))] [],.fB (.val (.aQ .sm (.aS (.ah 0) .vy) (.aS (.ah 0) .at))) [.raise (.un .pD (.ai 1))] []]
noncomputable def oU:List MS:=
 [.assign (.ah 1) (.ai 1),.while (.cy (.aQ .qQ (.ai 1) (.ah 1)) [.lt] [(.ah 0)]) [.ig (.ah 1) .ei (.ai 1)],.ret (.ah 1)]
noncomputable def oS:List MS:=
 [.assign (.ah 1) (.list []),.for (.ah 2) (.gV [(.aQ .sub (.aS (.ah 0) .rN) (.ai 1)),(.un .pD (.ai 1)),(.un .pD (.ai 1))]) [.for (.ah 3) (.gV [(.aS (.ah 0) .files)]) [.kx (.lm (.ah 1) .append [(.aQ .ei (.aQ .fm (.ah 2) (.aS (.ah 0) .files)) (.ah 3))])]],.ret (.ah 1)]
noncomputable def u9:List MS:=
 [.fB (.cy (.ah 1) [.eq] [(.cW .nM)]) [.kx (.jt (.ah 0) .put [(.ai 0),(.ai 1)]),.Jd] [],.kx (.jt (.ah 0) .put [(.ai 1),(.ai 1)]),.kx (.jt (.ah 0) .put [(.aQ .sub (.call .pN [(.ah 1)]) (.cW .An)),(.cW .qI)]),.kx (.jt (.ah 0) .put [(.call .vE [(.ah 1)]),(.ai 1)])]
noncomputable def jM:List MS:=
 [.fB (.cy (.jt (.ah 0) .take [(.ai 1)]) [.eq] [(.ai 0)]) [.ret (.cW .nM)] [],.assign (.ah 2) (.aQ .ei (.jt (.ah 0) .take [(.cW .qI)]) (.cW .An)),.fB (.cy (.ah 2) [.gt] [(.cW .M8)]) [.raise (.ah 1)] [],.ret (.call .gd [(.jt (.ah 0) .take [(.ai 1)]),(.ah 2)])]
noncomputable def wm:List MS:=
 [.kx (.jt (.ah 0) .put [(.ah 2),(.call .kY [(.aS (.ah 1) .size)])])]
noncomputable def mM:List MS:=
 [.assign (.ah 2) (.jt (.ah 0) .take [(.call .kY [(.aS (.ah 1) .size)])]),.fB (.cy (.ah 2) [.ge] [(.aS (.ah 1) .size)]) [.raise (.ah 2)] [],.ret (.ah 2)]
noncomputable def nY:List MS:=
 [.fB (.any [(.cy (.ah 1) [.lt] [(.ai 0)]),(.cy (.ah 1) [.ge] [(.cW .vi)])]) [.raise (.un .pD (.ai 1))] [],.fB (.any [(.cy (.ah 2) [.lt] [(.ai 1)]),(.cy (.ah 2) [.ge] [(.cW .vj)])]) [.raise (.un .pD (.ai 1))] [],.kx (.jt (.ah 0) .put [(.ah 1),(.cW .jz)]),.kx (.jt (.ah 0) .put [(.ah 2),(.cW .kQ)]),.kx (.jt (.ah 0) .put [(.aQ .sm (.ah 2) (.cW .kQ)),(.cW .kQ)]),.kx (.jt (.ah 0) .put [(.aQ .sm (.ah 1) (.cW .jz)),(.ai 1)])]
noncomputable def ke:List MS:=
 [.assign (.ah 1) (.jt (.ah 0) .take [(.cW .jz)]),.assign (.ah 2) (.jt (.ah 0) .take [(.cW .kQ)]),.ig (.ah 2) .or (.aQ .qQ (.jt (.ah 0) .take [(.cW .kQ)]) (.cW .kQ)),.ig (.ah 1) .or (.aQ .qQ (.jt (.ah 0) .take [(.ai 1)]) (.cW .jz)),.fB (.cy (.ah 2) [.eq] [(.ai 0)]) [.raise (.un .pD (.ai 1))] [],.ret (.eY [(.ah 1),(.ah 2)])]
noncomputable def ib:List MS:=
 [.assign (.ah 1) (.aS (.ah 0) .qN),.assign (.ah 2) (.new .ot []),.kx (.jt (.ah 2) .put [(.aS (.ah 0) .bL),(.ai 1)]),.assign (.ah 3) (.list [(.call .hF [(.ah 0),(.cW .lX)]),(.call .hF [(.ah 0),(.cW .nk)])]),.for (.ah 4) (.ah 3) [.kx (.call .mn [(.ah 2),(.ah 1),(.ah 4)])],.for (.ah 4) (.call .jP [(.ah 1)]) [.fB (.cy (.ah 4) [.Km] [(.ah 3)]) [.kx (.call .y0 [(.ah 2),(.sub (.aS (.ah 0) .aN) (.ah 4))])] []],.kx (.jt (.ah 2) .put [(.aS (.ah 0) .aX),(.cW .ni)]),.fB (.cy (.aS (.ah 0) .ep) [.lt] [(.ai 0)]) [.kx (.jt (.ah 2) .put [(.ai 0),(.ai 1)])] [.kx (.jt (.ah 2) .put [(.ai 1),(.ai 1)]),.kx (.call .mn [(.ah 2),(.ah 1),(.aS (.ah 0) .ep)])],.kx (.call .yZ [(.ah 2),(.aS (.ah 0) .half),(.aS (.ah 0) .full)]),.ret (.jt (.ah 2) .Lq [])]
noncomputable def gJ:List MS:=
 [.assign (.ah 2) (.list [(.call .mU [(.ah 0),(.aS (.ah 1) .qN)]),(.call .mU [(.ah 0),(.aS (.ah 1) .qN)])]),.fB (.cy (.sub (.ah 2) (.ai 0)) [.eq] [(.sub (.ah 2) (.ai 1))]) [.raise (.sub (.ah 2) (.ai 0))] [],.for (.ah 3) (.list [(.cW .lX),(.cW .nk)]) [.kx (.call .kM [(.ah 1),(.call .gd [(.ah 3),(.cW .yb)]),(.sub (.ah 2) (.ah 3))])],.for (.ah 4) (.call .jP [(.aS (.ah 1) .qN)]) [.fB (.cy (.ah 4) [.Km] [(.ah 2)]) [.assign (.ah 5) (.call .qp [(.ah 0),(.ah 4)]),.fB (.cy (.ah 5) [.ne] [(.cW .nM)]) [.kx (.call .kM [(.ah 1),(.ah 5),(.ah 4)])] []] []]]
noncomputable def cY:List MS:=
 [.assign (.ah 3) (.new .jA [(.ah 0)]),.assign (.ah 4) (.new .gj [(.ah 1),(.ah 2)]),.assign (.aS (.ah 4) .bL) (.jt (.ah 3) .take [(.ai 1)]),.kx (.call .qP [(.ah 3),(.ah 4)]),.assign (.aS (.ah 4) .aX) (.jt (.ah 3) .take [(.cW .ni)]),.assign (.aS (.ah 4) .ep) (.un .pD (.ai 1)),.fB (.cy (.jt (.ah 3) .take [(.ai 1)]) [.eq] [(.ai 1)]) [.assign (.aS (.ah 4) .ep) (.call .mU [(.ah 3),(.ah 1)])] [],.assign (.eY [(.aS (.ah 4) .half),(.aS (.ah 4) .full)]) (.call .pL [(.ah 3)]),.kx (.jt (.ah 3) .finish []),.kx (.call .yN [(.ah 4)]),.kx (.call .lz [(.ah 4)]),.fB (.val (.call .pP [(.ah 4),(.aQ .sub (.ai 1) (.aS (.ah 4) .bL))])) [.raise (.call .hF [(.ah 4),(.aQ .sub (.ai 1) (.aS (.ah 4) .bL))])] [],.ret (.ah 4)]
noncomputable def qf:List MS:=
 [.assign (.ah 1) (.ai 0),.for (.ah 2) (.aS (.ah 0) .aN) [.fB (.cy (.ah 2) [.ne] [(.cW .nM)]) [.ig (.ah 1) .ei (.ai 1)] []],.assign (.ah 3) (.call .kY [(.aS (.aS (.ah 0) .qN) .size)]),.assign (.ah 4) (.aQ .ei (.aQ .ei (.aQ .ei (.ai 1) (.aQ .fm (.ai 2) (.ah 3))) (.aQ .sub (.aS (.aS (.ah 0) .qN) .size) (.ai 2))) (.aQ .fm (.aQ .ei (.cW .qI) (.ai 1)) (.aQ .sub (.ah 1) (.ai 2)))),.ig (.ah 4) .ei (.aQ .ei (.aQ .ei (.aQ .ei (.aQ .ei (.cW .ni) (.ai 1)) (.cW .jz)) (.aQ .fm (.ai 2) (.cW .kQ))) (.ai 1)),.fB (.cy (.aS (.ah 0) .ep) [.ge] [(.ai 0)]) [.ig (.ah 4) .ei (.ah 3)] [],.ret (.ah 4)]
noncomputable def Ha:List MS:=
 [.ret (.list [(.eY [(.ai 3),(.ai 4)]),(.eY [(.ai 4),(.ai 5)]),(.eY [(.ai 8),(.ai 3)]),(.eY [(.ai 5),(.ai 5)])])]
noncomputable def Fb:List MS:=
 [.ret (.ite (.cy (.ah 1) [.lt] [(.bi .len [(.ah 0)])]) (.aQ .iq (.sub (.ah 0) (.ah 1)) (.ah 2)) (.ai 0))]
noncomputable def qD:List MS:=
 [.assign (.ah 4) (.aQ .iq (.sub (.ah 0) (.ah 3)) (.ai 8)),.assign (.ah 5) (.ai 1),.assign (.ah 6) (.cW .Hh),.fB (.cy (.ah 4) [.eq] [(.ai 1)]) [.assign (.ah 7) (.aQ .sub (.ai 1) (.aQ .fm (.ai 2) (.aQ .ey (.sub (.ah 0) (.ah 3)) (.ai 8)))),.assign (.ah 6) (.list [(.eY [(.un .pD (.ai 1)),(.ah 7)]),(.eY [(.ai 1),(.ah 7)])])] [],.fB (.cy (.ah 4) [.eq] [(.ai 2)]) [.assign (.ah 6) (.cW .PT)] [],.fB (.cy (.ah 4) [.eq] [(.ai 3)]) [.assign (.ah 6) (.slice (.cW .Hh) (some (.ai 4)) none)] [],.fB (.cy (.ah 4) [.eq] [(.ai 4)]) [.assign (.ah 6) (.slice (.cW .Hh) none (some (.ai 4)))] [],.fB (.cy (.ah 4) [.Gv] [(.eY [(.ai 3),(.ai 4),(.ai 5)])]) [.assign (.ah 5) (.ai 8)] [],.assign (.ah 8) (.list []),.for (.eY [(.ah 9),(.ah 10)]) (.ah 6) [.assign (.ah 11) (.aQ .ei (.aQ .iq (.ah 3) (.ah 1)) (.ah 9)),.assign (.ah 12) (.aQ .ei (.aQ .ey (.ah 3) (.ah 1)) (.ah 10)),.assign (.ah 13) (.ah 5),.while (.all [(.cy (.ah 13) [.gt] [(.ai 0)]),(.cy (.ai 0) [.le,.lt] [(.ah 11),(.ah 1)]),(.cy (.ai 0) [.le,.lt] [(.ah 12),(.ah 2)])]) [.kx (.lm (.ah 8) .append [(.aQ .ei (.aQ .fm (.ah 12) (.ah 1)) (.ah 11))]),.ig (.ah 13) .sub (.ai 1),.fB (.cy (.sub (.ah 0) (.aQ .ei (.aQ .fm (.ah 12) (.ah 1)) (.ah 11))) [.ne] [(.ai 0)]) [.assign (.ah 13) (.ai 0)] [],.ig (.ah 11) .ei (.ah 9),.ig (.ah 12) .ei (.ah 10)]],.ret (.ah 8)]
noncomputable def Fc:List MS:=
 [.for (.ah 4) (.gV [(.aQ .fm (.ah 1) (.ah 2))]) [.fB (.all [(.cy (.sub (.ah 0) (.ah 4)) [.ne] [(.ai 0)]),(.cy (.aQ .ey (.sub (.ah 0) (.ah 4)) (.ai 8)) [.eq] [(.ah 3)])]) [.for (.ah 5) (.call .Ds [(.ah 0),(.ah 1),(.ah 2),(.ah 4)]) [.fB (.cy (.sub (.ah 0) (.ah 5)) [.eq] [(.aQ .sub (.ai 14) (.aQ .fm (.ai 8) (.ah 3)))]) [.ret (.nf true)] []]] []],.ret (.nf false)]
noncomputable def B9:List MS:=
 [.assign (.ah 4) (.aQ .fm (.ah 2) (.ah 3)),.assign (.ah 5) (.aQ .fm (.list [(.ai 0)]) (.ah 4)),.assign (.ah 6) (.call .iY [(.ah 0),(.ah 1),(.aQ .fm (.ai 3) (.ah 4))]),.assign (.ah 7) (.call .iY [(.ah 0),(.aQ .ei (.ah 1) (.ai 1)),(.aQ .fm (.ai 3) (.ah 4))]),.assign (.ah 8) (.ite (.cy (.aQ .iq (.ah 6) (.ai 3)) [.eq] [(.ai 0)]) (.aQ .ey (.ah 2) (.ai 2)) (.aQ .ey (.ah 6) (.ai 3))),.assign (.ah 9) (.ite (.cy (.aQ .iq (.ah 7) (.ai 3)) [.eq] [(.ai 0)]) (.aQ .ei (.aQ .sub (.ah 4) (.ah 2)) (.aQ .ey (.ah 2) (.ai 2))) (.aQ .ey (.ah 7) (.ai 3))),.while (.cy (.bi .Gj [(.bi .Iq [(.aQ .sub (.aQ .iq (.ah 8) (.ah 2)) (.aQ .iq (.ah 9) (.ah 2)))]),(.bi .Iq [(.aQ .sub (.aQ .ey (.ah 8) (.ah 2)) (.aQ .ey (.ah 9) (.ah 2)))])]) [.lt] [(.ai 2)]) [.assign (.ah 9) (.aQ .iq (.aQ .ei (.ah 9) (.ai 1)) (.ah 4))],.assign (.sub (.ah 5) (.ah 8)) (.ai 6),.assign (.sub (.ah 5) (.ah 9)) (.ai 14),.ret (.ah 5)]
noncomputable def jR:List MS:=
 [.fB (.any [(.cy (.ah 2) [.lt] [(.ai 5)]),(.cy (.aQ .iq (.ah 4) (.ai 2)) [.eq] [(.ai 0)])]) [.ret (.un .pD (.ai 1))] [],.assign (.ah 5) (.aQ .iq (.aQ .ey (.ah 4) (.ai 2)) (.ah 1)),.assign (.ah 6) (.ite (.all [(.cy (.ah 5) [.gt] [(.ai 0)]),(.cy (.aQ .iq (.aQ .ey (.aQ .ey (.ah 4) (.ai 2)) (.ah 1)) (.ai 2)) [.eq] [(.ai 1)])]) (.aQ .sub (.ah 5) (.ai 1)) (.aQ .ei (.ah 5) (.ai 1))),.fB (.cy (.ah 6) [.eq] [(.ah 1)]) [.assign (.ah 6) (.aQ .sub (.ah 5) (.ai 1))] [],.assign (.ah 7) (.aQ .sub (.ah 1) (.aQ .fm (.aQ .fm (.ai 2) (.ah 1)) (.ah 3))),.assign (.ah 8) (.aQ .ei (.aQ .fm (.ite (.val (.ah 3)) (.ai 2) (.aQ .sub (.ah 2) (.ai 3))) (.ah 1)) (.ah 5)),.assign (.ah 9) (.aQ .sub (.ah 8) (.ah 7)),.fB (.cy (.gu (.sub (.ah 0) (.ah 10)) 10 (.eY [(.ah 8),(.aQ .ei (.ah 8) (.ah 7)),(.ah 9),(.aQ .ei (.aQ .sub (.ah 9) (.ah 5)) (.ah 6))]) none) [.ne] [(.list [(.ai 0),(.ai 0),(.ai 0),(.ai 0)])]) [.ret (.un .pD (.ai 1))] [],.assign (.sub (.ah 0) (.ah 9)) (.aQ .sub (.ai 9) (.aQ .fm (.ai 8) (.ah 3))),.assign (.sub (.ah 0) (.aQ .ei (.aQ .sub (.ah 9) (.ah 5)) (.ah 6))) (.aQ .ei (.ai 1) (.aQ .fm (.ai 8) (.ah 3))),.fB (.val (.call .qg [(.ah 0),(.ah 1),(.ah 2),(.ah 3)])) [.assign (.sub (.ah 0) (.ah 9)) (.ai 0),.assign (.sub (.ah 0) (.aQ .ei (.aQ .sub (.ah 9) (.ah 5)) (.ah 6))) (.ai 0),.ret (.un .pD (.ai 1))] [],.ret (.ah 8)]
noncomputable def B8:List MS:=
 [.for (.ah 5) (.gV [(.ai 4)]) [.assign (.ah 6) (.aQ .ei (.ite (.cy (.ah 5) [.lt] [(.ai 2)]) (.ai 0) (.aQ .fm (.ah 1) (.aQ .sub (.ah 2) (.ai 1)))) (.ite (.val (.aQ .iq (.ah 5) (.ai 2))) (.ai 0) (.aQ .sub (.ah 1) (.ai 1)))),.fB (.all [(.cy (.ah 1) [.gt] [(.ai 5)]),(.cy (.aQ .iq (.aQ .ey (.ah 4) (.aQ .qu (.ai 2) (.ah 5))) (.ai 2)) [.eq] [(.ai 0)]),(.cy (.sub (.ah 0) (.ah 6)) [.eq] [(.ai 0)])]) [.assign (.sub (.ah 0) (.ah 6)) (.aQ .ei (.ai 4) (.aQ .fm (.ai 8) (.aQ .ey (.ah 5) (.ai 2)))),.fB (.val (.call .qg [(.ah 0),(.ah 1),(.ah 2),(.ah 3)])) [.assign (.sub (.ah 0) (.ah 6)) (.ai 0)] []] []]]
noncomputable def Im:List MS:=
 [.assign (.ah 6) (.ite (.cy (.ah 4) [.lt] [(.ai 0)]) (.list []) (.list [(.ah 4),(.aQ .sub (.aQ .ei (.ah 4) (.ah 1)) (.aQ .fm (.aQ .fm (.ai 2) (.ah 1)) (.ah 3)))])),.for (.ah 7) (.ah 5) [.assign (.ah 8) (.aQ .iq (.aQ .ey (.ah 7) (.ai 10)) (.aQ .fm (.ah 1) (.ah 2))),.fB (.all [(.cy (.sub (.ah 0) (.ah 8)) [.eq] [(.ai 0)]),(.cy (.ah 8) [.Km] [(.ah 6)])]) [.assign (.ah 9) (.aQ .ei (.aQ .iq (.aQ .ey (.ah 7) (.ai 2)) (.ai 5)) (.ai 1)),.fB (.all [(.cy (.ah 9) [.eq] [(.ai 1)]),(.cy (.aQ .ey (.ah 8) (.ah 1)) [.Gv] [(.eY [(.ai 0),(.aQ .sub (.ah 2) (.ai 1))])])]) [.assign (.ah 9) (.ai 4)] [],.assign (.sub (.ah 0) (.ah 8)) (.aQ .ei (.ah 9) (.aQ .fm (.ai 8) (.aQ .iq (.ah 7) (.ai 2)))),.fB (.val (.call .qg [(.ah 0),(.ah 1),(.ah 2),(.ah 3)])) [.assign (.sub (.ah 0) (.ah 8)) (.ai 0)] []] []]]
noncomputable def Ag:List MS:=
 [.assign (.ah 4) (.ite (.cy (.ah 3) [.lt] [(.ai 2)]) (.ai 0) (.aQ .fm (.ah 1) (.aQ .sub (.ah 2) (.ai 1)))),.assign (.ah 5) (.ite (.val (.aQ .iq (.ah 3) (.ai 2))) (.ai 0) (.aQ .sub (.ah 1) (.ai 1))),.fB (.cy (.bi .Iq [(.aQ .sub (.ah 5) (.aQ .ey (.ah 1) (.ai 2)))]) [.lt] [(.ai 3)]) [.ret (.nf false)] [],.ret (.nX [(.cy (.sub (.ah 0) (.aQ .ei (.ah 4) (.aQ .ey (.ah 1) (.ai 2)))) [.eq] [(.aQ .ei (.ai 6) (.aQ .fm (.ai 8) (.aQ .ey (.ah 3) (.ai 2))))]),(.cy (.sub (.ah 0) (.aQ .ei (.ah 4) (.ah 5))) [.eq] [(.aQ .ei (.ai 4) (.aQ .fm (.ai 8) (.aQ .ey (.ah 3) (.ai 2))))])])]
noncomputable def Io:List MS:=
 [.ret (.gu (.aQ .iq (.aQ .ey (.ah 0) (.aQ .qu (.ai 2) (.ah 2))) (.ai 2)) 2 (.gV [(.ah 1)]) none)]
noncomputable def xj:List MS:=
 [.ret (.ite (.cy (.ah 0) [.eq] [(.ai 0)]) (.ai 0) (.aQ .ei (.ai 1) (.call .wy [(.aQ .ey (.ah 0) (.ai 2))])))]
noncomputable def jN:List MS:=
 [.assign (.ah 8) (.call .wy [(.aQ .sub (.aQ .fm (.ah 0) (.ah 1)) (.ai 1))]),.assign (.ah 9) (.aQ .ei (.aQ .ei (.list [(.ah 3)]) (.call .nL [(.lm (.ah 2) .index [(.ai 6)]),(.ah 8)])) (.call .nL [(.lm (.ah 2) .index [(.ai 14)]),(.ah 8)])),.for (.ah 10) (.gV [(.ah 1)]) [.for (.ah 11) (.slice (.ah 2) (some (.aQ .fm (.aQ .sub (.aQ .sub (.ah 1) (.ai 1)) (.ah 10)) (.ah 0))) (some (.aQ .fm (.aQ .sub (.ah 1) (.ah 10)) (.ah 0)))) [.fB (.cy (.ah 11) [.eq] [(.ai 0)]) [.kx (.lm (.ah 9) .append [(.ai 0)])] [.fB (.cy (.aQ .iq (.ah 11) (.ai 8)) [.ne] [(.ai 6)]) [.ig (.ah 9) .ei (.aQ .ei (.aQ .ei (.list [(.ai 1)]) (.call .nL [(.aQ .sub (.aQ .iq (.ah 11) (.ai 8)) (.ai 1)),(.ai 3)])) (.list [(.aQ .ey (.ah 11) (.ai 8))]))] []]]],.ig (.ah 9) .ei (.call .nL [(.ah 4),(.ai 4)]),.ig (.ah 9) .ei (.ite (.cy (.ah 5) [.lt] [(.ai 0)]) (.list [(.ai 0)]) (.aQ .ei (.list [(.ai 1)]) (.call .nL [(.ah 5),(.ah 8)]))),.ig (.ah 9) .ei (.aQ .ei (.aQ .ei (.call .nL [(.aQ .iq (.ah 6) (.ai 64)),(.ai 6)]) (.call .nL [(.ah 7),(.ai 16)])) (.list [(.aQ .ey (.ah 6) (.ai 64))])),.ig (.ah 9) .ei (.aQ .fm (.list [(.ai 0)]) (.aQ .iq (.un .pD (.bi .len [(.ah 9)])) (.ai 8))),.ret (.bi .bytes [(.gu (.bi .sum [(.gu (.aQ .fm (.sub (.ah 9) (.aQ .ei (.ah 12) (.ah 13))) (.aQ .qu (.ai 2) (.ah 13))) 13 (.gV [(.ai 8)]) none)]) 12 (.gV [(.ai 0),(.bi .len [(.ah 9)]),(.ai 8)]) none)])]
noncomputable def E9:List MS:=
 [.ret (.bi .sum [(.gu (.aQ .fm (.lm (.ah 0) .Qw []) (.aQ .qu (.ai 2) (.ah 2))) 2 (.gV [(.ah 1)]) none)])]
noncomputable def eU:List MS:=
 [.assign (.ah 3) (.aQ .ei (.BR (.aQ .iq (.aQ .ey (.ah 16) (.aQ .qu (.ai 2) (.ah 17))) (.ai 2)) 16 (.ah 0) 17 (.gV [(.ai 8)])) (.aQ .fm (.list [(.ai 0)]) (.ai 200))),.kx (.lm (.ah 3) .reverse []),.assign (.ah 4) (.call .wy [(.aQ .sub (.aQ .fm (.ah 1) (.ah 2)) (.ai 1))]),.assign (.ah 5) (.aQ .fm (.list [(.ai 0)]) (.aQ .fm (.ah 1) (.ah 2))),.assign (.ah 6) (.call .jD [(.ah 3),(.ai 1)]),.assign (.ah 7) (.call .jD [(.ah 3),(.ah 4)]),.assign (.ah 8) (.call .jD [(.ah 3),(.ah 4)]),.fB (.any [(.cy (.ah 7) [.eq] [(.ah 8)]),(.cy (.bi .Gj [(.ah 7),(.ah 8)]) [.ge] [(.aQ .fm (.ah 1) (.ah 2))])]) [.ret .lW] [],.assign (.sub (.ah 5) (.ah 7)) (.ai 6),.assign (.sub (.ah 5) (.ah 8)) (.ai 14),.for (.ah 9) (.gV [(.aQ .sub (.ah 2) (.ai 1)),(.un .pD (.ai 1)),(.un .pD (.ai 1))]) [.for (.ah 10) (.gV [(.aQ .fm (.ah 9) (.ah 1)),(.aQ .ei (.aQ .fm (.ah 9) (.ah 1)) (.ah 1))]) [.fB (.all [(.cy (.sub (.ah 5) (.ah 10)) [.eq] [(.ai 0)]),(.cy (.call .jD [(.ah 3),(.ai 1)]) [.eq] [(.ai 1)])]) [.assign (.ah 11) (.aQ .ei (.call .jD [(.ah 3),(.ai 3)]) (.ai 1)),.fB (.any [(.cy (.ah 11) [.gt] [(.ai 5)]),(.all [(.cy (.ah 11) [.eq] [(.ai 1)]),(.cy (.ah 9) [.Gv] [(.eY [(.ai 0),(.aQ .sub (.ah 2) (.ai 1))])])])]) [.ret .lW] [],.assign (.sub (.ah 5) (.ah 10)) (.aQ .ei (.ah 11) (.aQ .fm (.ai 8) (.call .jD [(.ah 3),(.ai 1)])))] []]],.assign (.ah 12) (.call .jD [(.ah 3),(.ai 4)]),.assign (.ah 13) (.un .pD (.ai 1)),.fB (.cy (.call .jD [(.ah 3),(.ai 1)]) [.eq] [(.ai 1)]) [.assign (.ah 13) (.call .jD [(.ah 3),(.ah 4)]),.fB (.not (.val (.call .qH [(.ah 5),(.ah 1),(.ah 2),(.ah 6),(.ah 13)]))) [.ret .lW] []] [],.assign (.ah 14) (.call .jD [(.ah 3),(.ai 6)]),.assign (.ah 15) (.call .jD [(.ah 3),(.ai 16)]),.ig (.ah 14) .ei (.aQ .fm (.ai 64) (.call .jD [(.ah 3),(.ai 1)])),.fB (.any [(.cy (.bi .len [(.ah 3)]) [.lt] [(.ai 200)]),(.cy (.bi .len [(.ah 3)]) [.gt] [(.ai 207)]),(.cy (.ai 1) [.Gv] [(.ah 3)]),(.cy (.ah 15) [.eq] [(.ai 0)]),(.val (.call .qg [(.ah 5),(.ah 1),(.ah 2),(.ah 6)]))]) [.ret .lW] [],.fB (.cy (.gu (.ah 18) 18 (.gV [(.ai 4)]) (some (.all [(.cy (.aQ .iq (.aQ .ey (.ah 12) (.aQ .qu (.ai 2) (.ah 18))) (.ai 2)) [.eq] [(.ai 1)]),(.not (.val (.call .vh [(.ah 5),(.ah 1),(.ah 2),(.ah 18)])))]))) [.ne] [(.list [])]) [.ret .lW] [],.ret (.eY [(.ah 5),(.ah 6),(.ah 12),(.ah 13),(.ah 14),(.ah 15)])]
noncomputable def Ah:List MS:=
 [.assign (.ah 5) (.aQ .sub (.ah 1) (.aQ .fm (.aQ .fm (.ai 2) (.ah 1)) (.ah 3))),.fB (.any [(.cy (.ah 2) [.lt] [(.ai 5)]),(.cy (.aQ .ey (.ah 4) (.ah 1)) [.ne] [(.ite (.val (.ah 3)) (.ai 2) (.aQ .sub (.ah 2) (.ai 3)))]),(.cy (.sub (.ah 0) (.ah 4)) [.ne] [(.ai 0)]),(.cy (.sub (.ah 0) (.aQ .ei (.ah 4) (.ah 5))) [.ne] [(.ai 0)])]) [.ret (.nf false)] [],.assign (.ah 6) (.gu (.sub (.ah 0) (.aQ .ei (.aQ .sub (.ah 4) (.ah 5)) (.ah 7))) 7 (.eY [(.un .pD (.ai 1)),(.ai 1)]) (some (.cy (.ai 0) [.le,.lt] [(.aQ .ei (.aQ .iq (.ah 4) (.ah 1)) (.ah 7)),(.ah 1)]))),.ret (.nX [(.cy (.sub (.ah 0) (.aQ .sub (.ah 4) (.ah 5))) [.eq] [(.aQ .sub (.ai 9) (.aQ .fm (.ai 8) (.ah 3)))]),(.cy (.aQ .ei (.ai 1) (.aQ .fm (.ai 8) (.ah 3))) [.Gv] [(.ah 6)])])]
noncomputable def jo:List MS:=
 [.assign (.ah 5) (.call .xo [(.ah 0),(.ah 1),(.ah 2)]),.try [.assign (.ah 6) (.call .nU [(.ah 0),(.ah 3),(.ah 4)])] [.ret (.cy (.ah 5) [.is] [.lW])],.fB (.cy (.ah 5) [.is] [.lW]) [.ret (.nf false)] [],.assign (.eY [(.ah 7),(.ah 8),(.ah 9),(.ah 10),(.ah 11),(.ah 12)]) (.ah 5),.assign (.ah 13) (.aQ .Ay (.sub (.aS (.ah 4) .aX) (.ah 9)) (.aQ .fm (.aS (.ah 4) .bL) (.ah 8))),.fB (.cy (.ah 10) [.ge] [(.ai 0)]) [.ig (.ah 13) .Ay (.sub (.aS (.ah 4) .ep) (.aQ .iq (.ah 10) (.ah 1)))] [],.assign (.ah 14) (.aQ .fm (.list [(.ai 0)]) (.ai 7)),.assign (.ah 15) (.list [(.ai 0),(.ai 0)]),.for (.ah 16) (.gV [(.aQ .fm (.ah 1) (.ah 2))]) [.fB (.cy (.sub (.ah 7) (.ah 16)) [.ne] [(.ai 0)]) [.ig (.ah 13) .Ay (.sub (.sub (.aS (.ah 4) .k8) (.sub (.ah 7) (.ah 16))) (.ah 16)),.ig (.sub (.ah 14) (.aQ .iq (.sub (.ah 7) (.ah 16)) (.ai 8))) .ei (.aQ .qu (.ai 2) (.ah 16)),.ig (.sub (.ah 15) (.aQ .ey (.sub (.ah 7) (.ah 16)) (.ai 8))) .ei (.aQ .qu (.ai 2) (.ah 16))] []],.assign (.ah 17) (.nX [(.cy (.aS (.ah 6) .aN) [.eq] [(.ah 7)]),(.cy (.aS (.ah 6) .kinds) [.eq] [(.ah 14)]),(.cy (.aS (.ah 6) .cQ) [.eq] [(.ah 15)]),(.cy (.aS (.ah 6) .key) [.eq] [(.ah 13)]),(.cy (.aS (.ah 6) .yr) [.eq] [(.list [])])]),.assign (.ah 17) (.nX [(.ah 17),(.cy (.list [(.aS (.ah 6) .bL),(.aS (.ah 6) .aX),(.aS (.ah 6) .ep),(.aS (.ah 6) .half),(.aS (.ah 6) .full)]) [.eq] [(.list [(.ah 8),(.ah 9),(.ah 10),(.ah 11),(.ah 12)])])]),.ret (.nX [(.ah 17),(.cy (.call .gI [(.ah 6)]) [.eq] [(.ah 0)])])]
noncomputable def Ai:List MS:=
 [.assign (.ah 2) (.aQ .ey (.ah 1) (.ai 5)),.fB (.cy (.aQ .iq (.ah 1) (.ai 5)) [.eq] [(.ai 3)]) [.ret (.slice (.ah 0) none (some (.aQ .iq (.ah 2) (.bi .Gj [(.ai 1),(.bi .len [(.ah 0)])]))))] [],.fB (.cy (.aQ .iq (.ah 1) (.ai 5)) [.eq] [(.ai 4)]) [.ret (.aQ .ei (.ah 0) (.bi .bytes [(.list [(.aQ .iq (.ah 2) (.ai 3))])]))] [],.assign (.ah 3) (.bi .list [(.ah 0)]),.fB (.cy (.ah 3) [.ne] [(.list [])]) [.assign (.ah 4) (.aQ .iq (.ah 2) (.aQ .fm (.ai 8) (.bi .len [(.ah 3)]))),.ig (.sub (.ah 3) (.aQ .ey (.ah 4) (.ai 8))) .Ay (.aQ .qu (.ai 2) (.aQ .iq (.ah 4) (.ai 8)))] [],.ret (.bi .bytes [(.ah 3)])]
noncomputable def jT:List MS:=
 [.assign (.ah 1) (.slice (.ah 0) none (some (.ai 14))),.assign (.eY [(.ah 2),(.ah 3)]) (.sub (.call .Fm []) (.aQ .ey (.call .iY [(.ah 1),(.ai 0),(.ai 8)]) (.ai 2))),.assign (.ah 4) (.call .iY [(.ah 1),(.ai 0),(.ai 2)]),.assign (.ah 5) (.call .Iv [(.ah 1),(.ai 3),(.ah 2),(.ah 3)]),.assign (.ah 6) (.call .Dr [(.ah 5),(.ah 2),(.ah 3),(.ah 4),(.call .iY [(.ah 1),(.ai 5),(.aQ .fm (.ai 4) (.ah 2))])]),.kx (.call .Iu [(.ah 5),(.ah 2),(.ah 3),(.ah 4),(.aQ .ey (.call .iY [(.ah 1),(.ai 6),(.ai 256)]) (.ai 16))]),.kx (.call .QW [(.ah 5),(.ah 2),(.ah 3),(.ah 4),(.ah 6),(.slice (.ah 1) (some (.ai 7)) none)]),.assign (.ah 7) (.ai 0),.for (.ah 8) (.gV [(.ai 4)]) [.fB (.all [(.cy (.aQ .iq (.aQ .ey (.call .iY [(.ah 1),(.ai 6),(.ai 16)]) (.aQ .qu (.ai 2) (.ah 8))) (.ai 2)) [.eq] [(.ai 0)]),(.val (.call .vh [(.ah 5),(.ah 2),(.ah 3),(.ah 8)]))]) [.ig (.ah 7) .ei (.aQ .qu (.ai 2) (.ah 8))] []],.assign (.ah 9) (.aQ .iq (.aQ .fm (.call .iY [(.ah 1),(.ai 6),(.ai 66000)]) (.ai 13)) (.ai 136)),.assign (.ah 10) (.aQ .iq (.aQ .ei (.ai 1) (.aQ .fm (.call .iY [(.ah 1),(.ai 6),(.ai 66000)]) (.ai 977))) (.ai 66000)),.assign (.ah 11) (.call .mJ [(.ah 2),(.ah 3),(.cy (.ah 3) [.ge] [(.ai 5)]),(.nf true)]),.assign (.ah 12) (.gu (.gu (.aQ .iq (.aQ .fm (.aQ .ei (.aQ .fm (.ah 18) (.ai 64)) (.ah 19)) (.ai 2654435761)) (.ai 4294967296)) 19 (.gV [(.aQ .fm (.ah 2) (.ah 3))]) none) 18 (.gV [(.ai 15)]) none),.assign (.ah 13) (.new .rF [(.ah 12),(.gu (.aQ .qu (.ai 2) (.aQ .ei (.ah 20) (.ai 40))) 20 (.gV [(.ah 2)]) none),(.gu (.aQ .fm (.ah 21) (.aQ .qu (.ai 2) (.ai 50))) 21 (.gV [(.ai 16)]) none),(.aQ .qu (.ai 2) (.ai 60))]),.assign (.ah 14) (.new .gj [(.ah 11),(.ah 13)]),.for (.ah 15) (.gV [(.aQ .fm (.ah 2) (.ah 3))]) [.fB (.cy (.sub (.ah 5) (.ah 15)) [.ne] [(.ai 0)]) [.kx (.call .kM [(.ah 14),(.sub (.ah 5) (.ah 15)),(.ah 15)])] []],.assign (.aS (.ah 14) .bL) (.ah 4),.assign (.aS (.ah 14) .aX) (.ah 7),.assign (.aS (.ah 14) .ep) (.ah 6),.assign (.aS (.ah 14) .half) (.ah 9),.assign (.aS (.ah 14) .full) (.ah 10),.try [.assign (.ah 16) (.cy (.call .gI [(.ah 14)]) [.eq] [(.call .o7 [(.ah 2),(.ah 3),(.ah 5),(.ah 4),(.ah 7),(.ah 6),(.ah 9),(.ah 10)])]),.assign (.ah 16) (.nX [(.ah 16),(.cy (.ah 9) [.lt] [(.ai 128)]),(.cy (.ai 0) [.lt,.lt] [(.ah 10),(.ai 65536)])])] [.assign (.ah 16) (.MQ [(.cy (.ah 9) [.gt] [(.ai 127)]),(.cy (.ah 10) [.lt] [(.ai 1)]),(.cy (.ah 10) [.gt] [(.ai 65535)])])],.assign (.ah 17) (.call .o7 [(.ah 2),(.ah 3),(.ah 5),(.ah 4),(.ah 7),(.ah 6),(.aQ .iq (.ah 9) (.ai 128)),(.bi .Gj [(.ai 1),(.aQ .iq (.ah 10) (.ai 65536))])]),.assign (.ah 16) (.nX [(.ah 16),(.cy (.aQ .ey (.aQ .ei (.call .sG [(.ah 14)]) (.ai 7)) (.ai 8)) [.eq] [(.bi .len [(.ah 17)])]),(.call .lG [(.ah 17),(.ah 2),(.ah 3),(.ah 11),(.ah 13)])]),.assign (.ah 17) (.call .Ap [(.ah 17),(.call .iY [(.ah 1),(.ai 1),(.ai 4000)])]),.assign (.ah 16) (.nX [(.ah 16),(.call .lG [(.ah 17),(.ah 2),(.ah 3),(.ah 11),(.ah 13)])]),.assign (.ah 17) (.call .Ap [(.ah 17),(.call .iY [(.ah 1),(.ai 2),(.ai 4000)])]),.ret (.nX [(.ah 16),(.call .lG [(.ah 17),(.ah 2),(.ah 3),(.ah 11),(.ah 13)]),(.call .lG [(.bi .bytes [(.gu (.aQ .iq (.ah 22) (.ai 256)) 22 (.slice (.ah 0) none (some (.ai 24))) none)]),(.ah 2),(.ah 3),(.ah 11),(.ah 13)])])]
noncomputable def Uc:List Nd:=[
 ⟨"make_piece","make_piece",2,2,2,["side","kind"],wo,true,21⟩,
 ⟨"side_of","side_of",1,1,1,["piece"],B6,true,28⟩,
 ⟨"kind_of","kind_of",1,1,1,["piece"],B7,true,35⟩,
 ⟨"__init__","Geometry.__init__",5,5,5,["self","files","ranks","has_double","has_castling"],xZ,false,90⟩,
 ⟨"is_growing","is_growing",1,1,1,["d"],wt,true,104⟩,
 ⟨"add_masks","add_masks",1,5,5,["geo","row","column","r","f"],E8,false,111⟩,
 ⟨"inner_squares","inner_squares",2,3,3,["geo","d","edge"],xY,true,118⟩,
 ⟨"add_rays","add_rays",1,8,8,["geo","d","inner","delta","ray","order","square","goal"],G9,false,125⟩,
 ⟨"add_pawns","add_pawns",1,2,2,["geo","square"],E7,false,132⟩,
 ⟨"add_knights","add_knights",1,11,11,["geo","files","not_first","not_last","not_first_two","not_last_two","square","b","near","far","found"],A2,false,139⟩,
 ⟨"add_castles","add_castles",1,7,7,["geo","start","index","base","corner","way","goal"],A3,false,146⟩,
 ⟨"make_geometry","make_geometry",4,5,5,["files","ranks","has_double","has_castling","geo"],xX,false,153⟩,
 ⟨"ray_attacks","ray_attacks",4,7,7,["geo","d","square","occupied","ray","stop","behind"],qd,true,160⟩,
 ⟨"rook_attacks","rook_attacks",3,5,5,["geo","square","occupied","found","d"],te,true,167⟩,
 ⟨"bishop_attacks","bishop_attacks",3,5,5,["geo","square","occupied","found","d"],qC,true,174⟩,
 ⟨"more_than_one","more_than_one",1,1,1,["b"],rP,true,181⟩,
 ⟨"highest","highest",1,3,3,["b","width","square"],xf,true,188⟩,
 ⟨"lowest","lowest",1,1,1,["b"],E6,true,195⟩,
 ⟨"__init__","Zobrist.__init__",5,5,5,["self","pieces","ep","rights","side"],tg,false,209⟩,
 ⟨"state_key","state_key",1,3,3,["pos","zob","key"],pU,true,223⟩,
 ⟨"full_key","full_key",1,5,5,["pos","numbers","key","square","piece"],Af,true,230⟩,
 ⟨"__init__","Position.__init__",3,3,3,["self","geo","zob"],rQ,false,244⟩,
 ⟨"put_piece","put_piece",3,4,4,["pos","piece","s","bit"],xH,true,258⟩,
 ⟨"pieces","pieces",3,3,3,["pos","side","kind"],E5,true,265⟩,
 ⟨"king_square","king_square",2,2,2,["pos","side"],uD,true,272⟩,
 ⟨"settle_key","settle_key",1,1,1,["pos"],wk,true,279⟩,
 ⟨"ep_stands","ep_stands",2,5,5,["pos","square","geo","rank","ahead"],kO,true,286⟩,
 ⟨"ep_attacked","ep_attacked",2,2,2,["pos","square"],uG,true,293⟩,
 ⟨"check_boards","check_boards",1,8,8,["pos","geo","kinds","sides","square","piece","wrong","kind"],tf,true,300⟩,
 ⟨"check_kings","check_kings",1,3,3,["pos","side","kings"],uH,true,307⟩,
 ⟨"check_pawns","check_pawns",1,3,3,["pos","geo","wrong"],kh,true,314⟩,
 ⟨"check_rights","check_rights",1,3,3,["pos","index","wing"],oW,true,321⟩,
 ⟨"check_ep","check_ep",1,1,1,["pos"],mw,true,328⟩,
 ⟨"check_position","check_position",1,1,1,["pos"],hU,true,335⟩,
 ⟨"straight_sliders","straight_sliders",1,1,1,["pos"],oR,true,342⟩,
 ⟨"slanting_sliders","slanting_sliders",1,1,1,["pos"],oV,true,349⟩,
 ⟨"pawn_attackers","pawn_attackers",3,3,3,["pos","square","side"],qB,true,356⟩,
 ⟨"step_attackers","step_attackers",3,5,5,["pos","square","side","geo","near"],qA,true,363⟩,
 ⟨"is_attacked","is_attacked",4,8,8,["pos","square","side","occupied","geo","own","straight","slanting"],mN,true,370⟩,
 ⟨"in_check_of","in_check_of",2,3,3,["pos","side","everything"],uF,true,377⟩,
 ⟨"__init__","BitWriter.__init__",1,1,1,["self"],qE,true,391⟩,
 ⟨"put","BitWriter.put",3,3,3,["self","value","width"],rR,true,398⟩,
 ⟨"octets","BitWriter.octets",1,1,2,["self","at"],oX,true,403⟩,
 ⟨"__init__","BitReader.__init__",2,3,3,["self","data","octet"],qF,true,424⟩,
 ⟨"take","BitReader.take",2,3,3,["self","width","value"],my,true,431⟩,
 ⟨"finish","BitReader.finish",1,1,1,["self"],kD,true,438⟩,
 ⟨"square_width","square_width",1,2,2,["size","width"],oU,true,452⟩,
 ⟨"squares_in_order","squares_in_order",1,4,4,["geo","out","rank","column"],oS,true,459⟩,
 ⟨"put_cell","put_cell",2,2,2,["writer","piece"],u9,true,466⟩,
 ⟨"take_cell","take_cell",2,3,3,["reader","square","kind"],jM,true,473⟩,
 ⟨"put_square","put_square",3,3,3,["writer","geo","square"],wm,true,480⟩,
 ⟨"take_square","take_square",2,3,3,["reader","geo","square"],mM,true,487⟩,
 ⟨"put_clocks","put_clocks",3,3,3,["writer","half","full"],nY,true,494⟩,
 ⟨"take_clocks","take_clocks",1,3,3,["reader","half","full"],ke,true,501⟩,
 ⟨"put_position","put_position",1,5,5,["pos","geo","writer","kings","square"],ib,true,508⟩,
 ⟨"take_board","take_board",2,6,6,["reader","pos","kings","side","square","piece"],gJ,true,515⟩,
 ⟨"get_position","get_position",3,5,5,["data","geo","zob","reader","pos"],cY,false,522⟩,
 ⟨"packed_size","packed_size",1,5,5,["pos","men","piece","width","bits"],qf,true,529⟩,
 ⟨"_law_shapes","_law_shapes",0,0,0,[],Ha,false,536⟩,
 ⟨"_law_pick","_law_pick",3,3,3,["nums","i","m"],Fb,true,561⟩,
 ⟨"_law_hits","_law_hits",4,14,14,["cells","w","h","s","man","far","go","up","out","dx","dy","x","y","left"],qD,true,568⟩,
 ⟨"_law_open","_law_open",4,6,6,["cells","w","h","side","s","t"],Fc,true,575⟩,
 ⟨"_law_kings","_law_kings",4,10,10,["nums","i","w","h","size","cells","u","v","a","b"],B9,true,582⟩,
 ⟨"_law_plant","_law_plant",5,10,11,["cells","w","h","side","v","f","g","up","e","p","t"],jR,true,587⟩,
 ⟨"_law_rooks","_law_rooks",5,7,7,["cells","w","h","side","mask","i","s"],B8,true,594⟩,
 ⟨"_law_men","_law_men",6,10,10,["cells","w","h","side","ep","rest","shut","v","s","man"],Im,true,601⟩,
 ⟨"_law_wing","_law_wing",4,6,6,["cells","w","h","i","base","corner"],Ag,true,608⟩,
 ⟨"_law_low","_law_low",2,2,3,["value","count","j"],Io,true,613⟩,
 ⟨"_law_width","_law_width",1,1,1,["top"],xj,true,620⟩,
 ⟨"_law_octets","_law_octets",8,12,14,["w","h","cells","side","rights","ep","half","full","n","out","y","man","i","j"],jN,true,625⟩,
 ⟨"_law_take","_law_take",2,2,3,["bits","count","j"],E9,true,630⟩,
 ⟨"_law_read","_law_read",3,16,19,["data","w","h","bits","n","cells","side","a","b","y","s","man","rights","ep","half","full","octet","j","i"],eU,true,635⟩,
 ⟨"_law_passed","_law_passed",5,7,8,["cells","w","h","side","ep","up","near","d"],Ah,true,640⟩,
 ⟨"_law_agrees","_law_agrees",5,18,18,["data","w","h","shape","zob","told","pos","cells","side","rights","ep","half","full","key","kinds","sides","s","ok"],jo,true,647⟩,
 ⟨"_law_bend","_law_bend",2,5,5,["data","v","k","out","spot"],Ai,true,654⟩,
 ⟨"law","law",1,18,23,["script","nums","w","h","side","cells","ep","rights","i","half","full","shape","pieces_row","zob","pos","s","ok","data","p","s","f","r","v"],jT,true,659⟩]
noncomputable def cc(f:Fn):Nd:=Uc.getD f.1 ⟨"","",0,0,0,[],[],false,0⟩
noncomputable def OM:List (pG×AA×Fn):=[(.ot,.put,.fu),(.ot,.Lq,.qK),(.jA,.take,.dj),(.jA,.finish,.mA)]
noncomputable def oE(c:pG)(m:AA):Option Fn:=(OM.find? λp=>p.1==c&&p.2.1==m).map (·.2.2)
noncomputable def O1:List Fn:=[.A4,.wu,.uJ,.tz,.tA]
noncomputable def qZ(c:pG):Fn:=O1.getD c.1 .BA
inductive RE(α:Type) where
 | ok (a:α) (u:St)
 | fY (u:St)
 | cn
noncomputable def RE.ctorIdx{α:Type}(r:RE α):Nat:=RE.casesOn r (λ_ _=>0) (λ_=>1) 2
noncomputable def RE.bind{α β:Type}:RE α->(α->St->RE β)->RE β
 | .ok a u,f=>f a u
 | .fY u,_=>.fY u
 | .cn,_=>.cn
@[simp] theorem RE.cV{α β:Type}(a:α)(u:St)(f:α->St->RE β):(RE.ok a u).bind f=f a u:=rfl
inductive Fl where
 | next | cont | ret (v:V)
noncomputable def Fl.ctorIdx(f:Fl):Nat:=Fl.casesOn f 0 1 λ_=>2
inductive RX where
 | ok (f:Fl) (E:List V) (u:St)
 | fY (E:List V) (u:St)
 | cn
noncomputable def RX.ctorIdx(r:RX):Nat:=RX.casesOn r (λ_ _ _=>0) (λ_ _=>1) 2
noncomputable def RE.then{α:Type}(r:RE α)(E:List V)(k:α->St->RX):RX:=match r with
 | .ok a u=>k a u
 | .fY u=>.fY E u
 | .cn=>.cn
@[simp] theorem RE.iL{α:Type}(a:α)(u:St)(E:List V)(k:α->St->RX):(RE.ok a u).then E k=k a u:=rfl
noncomputable def RX.next(r:RX)(k:List V->St->RX):RX:=match r with
 | .ok .next E u=>k E u
 | r=>r
@[simp] theorem RX.Jv(E:List V)(u:St)(k:List V->St->RX):(RX.ok .next E u).next k=k E u:=rfl
noncomputable abbrev Calls:=Nat->Fn->List V->St->RE V
structure Cx where
 call:Calls
 mark:Nat
noncomputable def V.isRef:V->Bool
 | .ref _=>true
 | _=>false
noncomputable def V.cD:V->Bool
 | .av=>false
 | .gV .. => false
 | _=>true
noncomputable def fq(mk o:Nat)(v:V):Bool:=v.cD&&(!v.isRef||decide (mk<=o))
noncomputable def L8(x y:Int):Option Int:=if 0<=x then(if 0<=y then some ((x.toNat&&&y.toNat:Nat):Int)else some (x-((x.toNat&&&(-y-1).toNat:Nat):Int)))else none
noncomputable def small(x:Int):Bool:=decide (x.natAbs<2^64)
noncomputable def hV:Nat:=4096
noncomputable def binI:Op->Int->Int->Option Int
 | .ei,x,y=>some (x+y)
 | .sub,x,y=>some (x-y)
 | .fm,x,y=>if small x||small y then some (x*y)else none
 | .ey,x,y=>if 0<y/\y<1073741824 then some (x/y)else none
 | .iq,x,y=>if 0<y then some (x%y)else none
 | .qu,x,y=>if small x&&decide (0<=y/\y<=1000000)then some (x^y.toNat)else none
 | .qQ,x,y=>if small x&&decide (0<=y/\y<=1000000)then some (x*2^y.toNat)else none
 | .sm,x,y=>if 0<=y then some (x/2^y.toNat)else none
 | .and,x,y=>L8 x y
 | .or,x,y=>if 0<=x/\0<=y then some ((x.toNat|||y.toNat:Nat):Int)else none
 | .Ay,x,y=>if 0<=x/\0<=y then some ((x.toNat^^^y.toNat:Nat):Int)else none
noncomputable def jS{α β:Type}(f:α->β)(u:St):Option α->RE β
 | some a=>.ok (f a) u
 | none=>.cn
noncomputable def alloc(o:O)(u:St):RE V:=.ok (.ref u.length) (u++[o])
noncomputable def V.pE:V->Option Int
 | .int i=>some i
 | _=>IB
noncomputable def V.EV:V->Option (List Nat)
 | .bytes l=>some l
 | _=>IB
noncomputable def V.rD:V->Option Nat
 | .ref a=>some a
 | _=>IB
noncomputable def O.lO:O->Option (List V)
 | .list vs=>some vs
 | _=>none
noncomputable def O.EB:O->Option (pG×List (eM×V))
 | .inst c fs=>some (c,fs)
 | _=>none
noncomputable def dc{α β:Type}(o:Option α)(k:α->RE β):RE β:=match o with
 | some a=>k a
 | none=>.cn
noncomputable def dT{β:Type}(c:Prop)[Decidable c](r:RE β):RE β:=if c then r else .cn
noncomputable def uC(op:Op)(x y:V)(u:St):RE V:=match x with
 | .int a=>dc y.pE λb=>jS V.int u (binI op a b)
 | .bytes a=>dc y.EV λb=>dT (op=.ei/\a.length+b.length<=hV) (.ok (.bytes (a++b)) u)
 | .ref a=>match y with
  | .int n=>dT (op=.fm) (dc ((u[a]?).bind O.lO) λvs=>dT (vs.length=1/\0<=n/\n<=4096) (alloc (.list (aw n.toNat (vs.headD .none))) u))
  | .ref b=>dT (op=.ei) (dc ((u[a]?).bind O.lO) λxs=>dc ((u[b]?).bind O.lO) λys=>dT (xs.length+ys.length<=hV) (alloc (.list (xs++ys)) u))
  | _=>.cn
 | _=>.cn
noncomputable def ng(mk:Nat)(op:Op)(x y:V)(u:St):RE V:=match x with
 | .ref a=>dc y.rD λb=>dT (op=.ei) (dc ((u[a]?).bind O.lO) λxs=>dc ((u[b]?).bind O.lO) λys=>dT (xs.length+ys.length<=hV/\a≠b/\ys.all (fq mk a)=true) (.ok (.ref a) (u.set a (.list (xs++ys)))))
 | .int a=>dc y.pE λb=>jS V.int u (binI op a b)
 | _=>.cn
noncomputable def truthy:V->Option Bool
 | .none=>some false
 | .bool b=>some b
 | .int i=>some (decide (i≠0))
 | _=>none
noncomputable def IS:QV->V->Option V
 | .pD,.int i=>some (.int (-i))
 | .OZ,.int i=>some (.int (-i-1))
 | .not,v=>(truthy v).map λb=>.bool (!b)
 | _,_=>none
noncomputable def jf:List V->Option (List Int)
 | []=>some []
 | .int i::r=>(jf r).map (i::·)
 | _=>none
noncomputable def isIn(x:V)(vs:List V):Option Bool:=match x with
 | .int i=>(jf vs).map λl=>l.contains i
 | _=>none
noncomputable def T5:nE->Int->Int->Option Bool
 | .eq,a,b=>some (decide (a=b))
 | .ne,a,b=>some (decide (a≠b))
 | .lt,a,b=>some (decide (a<b))
 | .le,a,b=>some (decide (a<=b))
 | .gt,a,b=>some (decide (b<a))
 | .ge,a,b=>some (decide (b<=a))
 | _,_,_=>none
noncomputable def Gq(x y:Option O):Option Bool:=(x.bind O.uf).bind λxs=>(y.bind O.uf).bind λys=>(jf xs).bind λl=>(jf ys).bind λm=>some (decide (l=m))
noncomputable def zE(x:V)(o:Option O):Option Bool:=(o.bind O.seq?).bind λvs=>isIn x vs
noncomputable def US(op:nE)(x:V)(b:Nat)(u:St):Option Bool:=match op with
 | .Gv=>zE x u[b]?
 | .Km=>(zE x u[b]?).map (!·)
 | .eq=>x.rD.bind λa=>Gq u[a]? u[b]?
 | .ne=>(x.rD.bind λa=>Gq u[a]? u[b]?).map (!·)
 | _=>none
noncomputable def UX(op:nE)(x:V):Option Bool:=match op with
 | .is=>if x.cD then some (decide (x=.none))else none
 | .LX=>if x.cD then some (!decide (x=.none))else none
 | _=>none
noncomputable def j8(op:nE)(x y:V)(u:St):Option Bool:=match y with
 | .int b=>x.pE.bind λa=>T5 op a b
 | .bytes b=>if op=.eq then x.EV.map λa=>decide (a=b)else none
 | .none=>UX op x
 | .ref b=>US op x b u
 | _=>none
noncomputable def hP(f:eM):List (eM×V)->Option V
 | []=>none
 | (g,v)::r=>if g=f then some v else hP f r
theorem Sk{f g:eM}{v:V}{r:List (eM×V)}:hP f ((g,v)::r)=if g=f then some v else hP f r:=rfl
noncomputable def qt(f:eM)(v:V):List (eM×V)->List (eM×V)
 | []=>[(f,v)]
 | (g,w)::r=>if g=f then(f,v)::r else(g,w)::qt f v r
theorem RJ{f:eM}{v:V}:qt f v []=[(f,v)]:=rfl
theorem KZ{f g:eM}{v w:V}{r:List (eM×V)}:qt f v ((g,w)::r)=if g=f then(f,v)::r else(g,w)::qt f v r:=rfl
noncomputable def getAttr(x:V)(f:eM)(u:St):Option V:=x.rD.bind λa=>((u[a]?).bind O.EB).bind λo=>hP f o.2
noncomputable def setAttr(mk:Nat)(x:V)(f:eM)(v:V)(u:St):Option St:=x.rD.bind λa=>((u[a]?).bind O.EB).bind λo=>if fq mk a v&&decide (o.2.length<=60)then some (u.set a (.inst o.1 (qt f v o.2)))else none
noncomputable def getItem(x i:V)(u:St):Option V:=x.rD.bind λa=>i.pE.bind λi=>((u[a]?).bind O.seq?).bind λvs=>if 0<=i/\i<4096 then vs[i.toNat]? else none
noncomputable def setItem(mk:Nat)(x i v:V)(u:St):Option St:=x.rD.bind λa=>i.pE.bind λi=>((u[a]?).bind O.lO).bind λvs=>if 0<=i/\i<4096/\i.toNat<vs.length/\fq mk a v=true then some (u.set a (.list (vs.set i.toNat v)))else none
noncomputable def bound(d:Nat):V->Option Nat
 | .none=>some d
 | .int i=>if 0<=i then some i.toNat else none
 | _=>none
noncomputable def cut{α:Type}(l:List α)(a b:Nat):List α:=(l.take b).drop a
noncomputable def ji(x lo hi:V)(u:St):RE V:=match x with
 | .ref a=>dc (bound 0 lo) λi=>dc ((u[a]?).bind O.uf) λvs=>dT (vs.length<=hV) (dc (bound vs.length hi) λj=>alloc (.list (cut vs i j)) u)
 | .bytes l=>dc (bound 0 lo) λi=>dT (l.length<=hV) (dc (bound l.length hi) λj=>.ok (.bytes (cut l i j)) u)
 | _=>.cn
noncomputable def qV:List V->Option (List Nat)
 | []=>some []
 | .int i::r=>if 0<=i/\i<256 then(qV r).map (i.toNat::·)else none
 | _=>none
noncomputable def ie(a:Int)(c:Int):Nat->List V
 | 0=>[]
 | n+1=>.int a::ie (a+c) c n
theorem Ji{a c:Int}:ie a c 0=[]:=rfl
theorem tK{a c:Int}{n:Nat}:ie a c (n+1)=.int a::ie (a+c) c n:=rfl
noncomputable def gD(a b c:Int):Nat:=(if c > 0 then(if a<b then(b-a-1)/c+1 else 0)else(if a > b then(a-b-1)/(-c)+1 else 0):Int).toNat
noncomputable def Bj(a b c:Int):Bool:=decide (c≠0 /\ -1000000<=a/\a<=1000000 /\ -1000000<=b/\b<=1000000 /\ -1000000<=c/\c<=1000000)
noncomputable def zc:List V->Option V
 | [x]=>some x
 | _=>none
noncomputable def two?:List V->Option (V×V)
 | [x,y]=>some (x,y)
 | _=>none
noncomputable def RK:List V->Option (Int×Int×Int)
 | [x]=>x.pE.map λb=>(0,b,1)
 | [x,y]=>x.pE.bind λa=>y.pE.map λb=>(a,b,1)
 | [x,y,z]=>x.pE.bind λa=>y.pE.bind λb=>z.pE.map λc=>(a,b,c)
 | _=>none
noncomputable def TQ(x:V)(u:St):RE V:=match x with
 | .ref a=>dc ((u[a]?).bind O.uf) λvs=>dT (vs.length<=hV) (.ok (.int vs.length) u)
 | .bytes l=>dT (l.length<=hV) (.ok (.int l.length) u)
 | _=>.cn
noncomputable def builtin(b:Bi)(wv:List V)(u:St):RE V:=match b with
 | .len=>dc (zc wv) λx=>TQ x u
 | .Iq=>dc (zc wv) λx=>dc x.pE λi=>.ok (.int i.natAbs) u
 | .Gj=>dc (two? wv) λp=>dc p.1.pE λa=>dc p.2.pE λb=>.ok (.int (if a<b then b else a)) u
 | .sum=>dc (zc wv) λx=>dc x.rD λa=>dc ((u[a]?).bind O.lO) λvs=>dc (jf vs) λl=>.ok (.int l.sum) u
 | .bytes=>dc (zc wv) λx=>dc x.rD λa=>dc ((u[a]?).bind O.lO) λvs=>dT (vs.length<=hV) (dc (qV vs) λl=>.ok (.bytes l) u)
 | .list=>dc (zc wv) λx=>dc x.EV λl=>dT (l.length<=hV) (alloc (.list (l.map λn:Nat=>V.int n)) u)
 | .range=>dc (RK wv) λr=>dT (Bj r.1 r.2.1 r.2.2=true) (alloc (.gV r.1 r.2.1 r.2.2) u)
noncomputable def mG(wv:List V):Option V:=(RK wv).bind λr=>if Bj r.1 r.2.1 r.2.2 then some (.gV r.1 r.2.1 r.2.2)else none
noncomputable def iC(mk:Nat)(x:V)(m:Lm)(wv:List V)(u:St):RE V:=dc x.rD λa=>dc ((u[a]?).bind O.lO) λvs=>dT (vs.length<=hV) (match m with
 | .append=>dc (zc wv) λv=>dT (fq mk a v=true) (.ok .none (u.set a (.list (vs++[v]))))
 | .Qw=>dT (wv=[]) (dc vs.getLast? λv=>.ok v (u.set a (.list vs.dropLast)))
 | .reverse=>dT (wv=[]) (.ok .none (u.set a (.list vs.reverse)))
 | .index=>dc (zc wv) λx=>dc x.pE λi=>dc (jf vs) λl=>dT (l.contains i=true) (.ok (.int (l.idxOf i:Nat)) u))
noncomputable def zC(x:V)(u:St):Bool:=(x.rD.bind λa=>(u[a]?).bind O.lO).isSome
noncomputable def fU(x:V)(u:St):Option (Option (Nat×O)×List V):=match x with
 | .gV a b c=>if Bj a b c/\gD a b c<=hV then some (none,ie a c (gD a b c))else none
 | .bytes l=>if l.length<=hV then some (none,l.map λn:Nat=>V.int n)else none
 | .ref a=>(u[a]?).bind λo=>match o with
  | .gV a b c=>if Bj a b c/\gD a b c<=hV then some (none,ie a c (gD a b c))else none
  | o=>o.seq?.bind λvs=>if vs.length<=hV then some (some (a,o),vs)else none
 | _=>none
noncomputable def same(sK:Option (Nat×O))(u:St):Bool:=match sK with
 | none=>true
 | some (a,o)=>decide (u[a]?=some o)
noncomputable def compLoop(f:V->St->RE (List V))(sK:Option (Nat×O)):List V->St->RE (List V)
 | [],u=>if same sK u then .ok [] u else .cn
 | v::r,u=>if same sK u then(match f v u with
   | .ok l u=>(match compLoop f sK r u with
    | .ok l' u=>.ok (l++l') u
    | _=>.cn)
   | _=>.cn)else .cn
noncomputable def forLoop(f:V->List V->St->RX)(sK:Option (Nat×O)):List V->List V->St->RX
 | [],E,u=>if same sK u then .ok .next E u else .cn
 | v::r,E,u=>if same sK u then(match f v E u with
   | .ok (.ret v) E u=>.ok (.ret v) E u
   | .ok _ E u=>forLoop f sK r E u
   | .fY E u=>.fY E u
   | .cn=>.cn)else .cn
noncomputable def whileLoop(c:List V->St->RE Bool)(f:List V->St->RX):Nat->List V->St->RX
 | 0,_,_=>.cn
 | n+1,E,u=>(c E u).then E λb u=>if b then(match f E u with
   | .ok (.ret v) E u=>.ok (.ret v) E u
   | .ok _ E u=>whileLoop c f n E u
   | .fY E u=>.fY E u
   | .cn=>.cn)else .ok .next E u
noncomputable def qn:Nat:=64
noncomputable def HZ(g:Gl):V:=([.int 0,.int 1,.int 1,.int 2,.int 3,.int 4,.int 5,.int 6,.int 0,.ref 0,.ref 1,.int 3,.int 4,.int 6,.int 128,.int 8,.int 65536,.ref 2,.ref 11]:List V).getD g.1 .none
noncomputable def nH(a b:Int):O:=.eY [.int a,.int b]
noncomputable def vv:St:=
 [.eY [.int 0,.int 1,.int 0,.int (-1),.int 1,.int 1,.int (-1),.int (-1)],.eY [.int 1,.int 0,.int (-1),.int 0,.int 1,.int (-1),.int (-1),.int 1],
  .lV [.ref 3,.ref 4,.ref 5,.ref 6,.ref 7,.ref 8,.ref 9,.ref 10],
  nH 1 2,nH 2 1,nH 2 (-1),nH 1 (-2),nH (-1) (-2),nH (-2) (-1),nH (-2) 1,nH (-1) 2,
  .lV [.ref 12,.ref 13,.ref 14,.ref 15,.ref 16,.ref 17,.ref 18,.ref 19],
  nH 0 1,nH 1 0,nH 0 (-1),nH (-1) 0,nH 1 1,nH 1 (-1),nH (-1) (-1),nH (-1) 1]
mutual
noncomputable def ev(C:Cx):ME->List V->St->RE V
 | .ai i,_,u=>.ok (.int i) u
 | .nf b,_,u=>.ok (.bool b) u
 | .lW,_,u=>.ok .none u
 | .ah i,E,u=>match E[i]? with
  | some .av=>.cn
  | some v=>.ok v u
  | none=>.cn
 | .cW g,_,u=>.ok (HZ g) u
 | .aQ op a b,E,u=>(ev C a E u).bind λx u=>(ev C b E u).bind λy u=>uC op x y u
 | .un op a,E,u=>(ev C a E u).bind λx u=>jS id u (IS op x)
 | .nX es,E,u=>zN C es E u
 | .MQ es,E,u=>GL C es E u
 | .cy l Db es,E,u=>(ev C l E u).bind λx u=>(ly C x Db es E u).bind λb u=>.ok (.bool b) u
 | .ite c a b,E,u=>(nA C c E u).bind λt u=>if t then ev C a E u else ev C b E u
 | .aS o f,E,u=>(ev C o E u).bind λx u=>jS id u (getAttr x f u)
 | .sub o i,E,u=>(ev C o E u).bind λx u=>(ev C i E u).bind λy u=>jS id u (getItem x y u)
 | .slice o lo hi,E,u=>(ev C o E u).bind λx u=>(QL C lo E u).bind λl u=>(QL C hi E u).bind λh u=>ji x l h u
 | .list es,E,u=>(q9 C es E u).bind λvs u=>alloc (.list vs) u
 | .eY es,E,u=>(q9 C es E u).bind λvs u=>alloc (.eY vs) u
 | .gu xL s it c,E,u=>(ev C it E u).bind λx u=>match fU x u with
  | none=>.cn
  | some (sK,vs)=>(compLoop (λv u=>(QM C c (E.set s v) u).bind λt u=>if t then(ev C xL (E.set s v) u).bind λr u=>if r.cD then .ok [r] u else .cn else .ok [] u) sK vs u).bind λl u=>
    if l.length<=hV then alloc (.list l) u else .cn
 | .BR xL s1 it1 s2 it2,E,u=>(ev C it1 E u).bind λx u=>match fU x u with
  | none=>.cn
  | some (sK,vs)=>(compLoop (λv u=>(ev C it2 (E.set s1 v) u).bind λy u=>match fU y u with
    | none=>.cn
    | some (src2,ws)=>compLoop (λw u=>(ev C xL ((E.set s1 v).set s2 w) u).bind λr u=>if r.cD then .ok [r] u else .cn) src2 ws u) sK vs u).bind λl u=>
    if l.length<=hV then alloc (.list l) u else .cn
 | .call f wv,E,u=>(q9 C wv E u).bind λvs u=>C.call C.mark f vs u
 | .new c wv,E,u=>(q9 C wv E u).bind λvs u=>(C.call C.mark (qZ c) (.ref u.length::vs) (u++[.inst c []])).bind λr re=>if r=.none then .ok (.ref u.length) re else .cn
 | .jt o m wv,E,u=>(ev C o E u).bind λx u=>match x with
  | .ref a=>match u[a]? with
   | some (.inst c _)=>match oE c m with
    | some f=>(q9 C wv E u).bind λvs u=>C.call C.mark f (.ref a::vs) u
    | none=>.cn
   | _=>.cn
  | _=>.cn
 | .bi b wv,E,u=>(q9 C wv E u).bind λvs u=>builtin b vs u
 | .gV wv,E,u=>(q9 C wv E u).bind λvs u=>jS id u (mG vs)
 | .lm o m wv,E,u=>(ev C o E u).bind λx u=>if zC x u then(q9 C wv E u).bind λvs u=>iC C.mark x m vs u else .cn
noncomputable def q9(C:Cx):List ME->List V->St->RE (List V)
 | [],_,u=>.ok [] u
 | e::r,E,u=>(ev C e E u).bind λv u=>if v.cD then(q9 C r E u).bind λvs u=>.ok (v::vs) u else .cn
noncomputable def QL(C:Cx):Option ME->List V->St->RE V
 | none,_,u=>.ok .none u
 | some e,E,u=>ev C e E u
noncomputable def QM(C:Cx):Option MB->List V->St->RE Bool
 | none,_,u=>.ok true u
 | some e,E,u=>nA C e E u
noncomputable def zN(C:Cx):List ME->List V->St->RE V
 | [],_,_=>.cn
 | [e],E,u=>ev C e E u
 | e::r,E,u=>(ev C e E u).bind λv u=>match truthy v with
  | some true=>zN C r E u
  | some false=>.ok v u
  | none=>.cn
noncomputable def GL(C:Cx):List ME->List V->St->RE V
 | [],_,_=>.cn
 | [e],E,u=>ev C e E u
 | e::r,E,u=>(ev C e E u).bind λv u=>match truthy v with
  | some true=>.ok v u
  | some false=>GL C r E u
  | none=>.cn
noncomputable def ly(C:Cx)(x:V):List nE->List ME->List V->St->RE Bool
 | [op],[e],E,u=>(ev C e E u).bind λy u=>jS id u (j8 op x y u)
 | op::Db,e::es,E,u=>(ev C e E u).bind λy u=>match j8 op x y u with
  | some true=>ly C y Db es E u
  | some false=>.ok false u
  | none=>.cn
 | _,_,_,_=>.cn
noncomputable def nA(C:Cx):MB->List V->St->RE Bool
 | .val e,E,u=>(ev C e E u).bind λv u=>jS id u (truthy v)
 | .not a,E,u=>(nA C a E u).bind λb u=>.ok (!b) u
 | .all bs,E,u=>BO C bs E u
 | .any bs,E,u=>BN C bs E u
 | .cy l Db es,E,u=>(ev C l E u).bind λx u=>ly C x Db es E u
 | .ite c a b,E,u=>(nA C c E u).bind λt u=>if t then nA C a E u else nA C b E u
noncomputable def BO(C:Cx):List MB->List V->St->RE Bool
 | [],_,u=>.ok true u
 | e::r,E,u=>(nA C e E u).bind λt u=>if t then BO C r E u else .ok false u
noncomputable def BN(C:Cx):List MB->List V->St->RE Bool
 | [],_,u=>.ok false u
 | e::r,E,u=>(nA C e E u).bind λt u=>if t then .ok true u else BN C r E u
end
mutual
noncomputable def store(C:Cx):Tg->V->List V->St->RX
 | .ah i,v,E,u=>if i<E.length/\v.cD then .ok .next (E.set i v) u else .cn
 | .aS o f,v,E,u=>(ev C o E u).then E λx u=>match setAttr C.mark x f v u with
  | some u=>.ok .next E u
  | none=>.cn
 | .sub o i,v,E,u=>(ev C o E u).then E λx u=>(ev C i E u).then E λy u=>match setItem C.mark x y v u with
  | some u=>.ok .next E u
  | none=>.cn
 | .eY ts,v,E,u=>match v with
  | .ref a=>match u[a]? with
   | some (.eY vs)=>if vs.length=ts.length then stores C ts vs E u else .cn
   | _=>.cn
  | _=>.cn
noncomputable def stores(C:Cx):List Tg->List V->List V->St->RX
 | [],[],E,u=>.ok .next E u
 | t::ts,v::vs,E,u=>(store C t v E u).next λE u=>stores C ts vs E u
 | _,_,_,_=>.cn
end
mutual
noncomputable def ex(C:Cx):MS->List V->St->RX
 | .assign t e,E,u=>(ev C e E u).then E λv u=>store C t v E u
 | .ig (.ah i) op e,E,u=>(match E[i]? with | some .av=>RE.cn | some v=>.ok v u | none=>.cn).then E λx u=>(ev C e E u).then E λy u=>(ng C.mark op x y u).then E λz u=>if i<E.length/\z.cD then .ok .next (E.set i z) u else .cn
 | .ig (.aS o f) op e,E,u=>(ev C o E u).then E λx u=>match getAttr x f u with
  | none=>.cn
  | some DE=>(ev C e E u).then E λy u=>(ng C.mark op DE y u).then E λz u=>match setAttr C.mark x f z u with
   | some u=>.ok .next E u
   | none=>.cn
 | .ig (.sub o i) op e,E,u=>(ev C o E u).then E λx u=>(ev C i E u).then E λk u=>match getItem x k u with
  | none=>.cn
  | some DE=>(ev C e E u).then E λy u=>(ng C.mark op DE y u).then E λz u=>match setItem C.mark x k z u with
   | some u=>.ok .next E u
   | none=>.cn
 | .ig (.eY _) _ _,_,_=>.cn
 | .kx e,E,u=>(ev C e E u).then E λJ u=>.ok .next E u
 | .ret e,E,u=>(ev C e E u).then E λv u=>.ok (.ret v) E u
 | .Jd,E,u=>.ok (.ret .none) E u
 | .fB c a b,E,u=>(nA C c E u).then E λt u=>if t then iH C a E u else iH C b E u
 | .while c b,E,u=>whileLoop (λE u=>nA C c E u) (λE u=>iH C b E u) qn E u
 | .for t it b,E,u=>(ev C it E u).then E λx u=>match fU x u with
  | none=>.cn
  | some (sK,vs)=>forLoop (λv E u=>(store C t v E u).next λE u=>iH C b E u) sK vs E u
 | .raise e,E,u=>(ev C e E u).then E λJ u=>.fY E u
 | .try b h,E,u=>match iH C b E u with
  | .fY E u=>iH C h E u
  | r=>r
 | .cont,E,u=>.ok .cont E u
 | .bad,_,_=>.cn
noncomputable def iH(C:Cx):List MS->List V->St->RX
 | [],E,u=>.ok .next E u
 | s::r,E,u=>(ex C s E u).next λE u=>iH C r E u
end
noncomputable def finish(n:Nat)(v:V)(u:St):RE V:=match v with
 | .ref r=>if r<n then .ok v (u.take n)else match u[r]? with
  | some (.list vs)=>if vs.all (!·.isRef)then .ok (.ref n) (u.take n++[.list vs])else .cn
  | some (.eY (.ref c::ws))=>if ws.all (!·.isRef)then(match u[c]? with
    | some (.list vs)=>if n<=c/\vs.all (!·.isRef)then .ok (.ref (n+1)) (u.take n++[.list vs,.eY (.ref n::ws)])else .cn
    | _=>.cn)else .cn
  | some (.eY vs)=>if vs.all (!·.isRef)then .ok (.ref n) (u.take n++[.eY vs])else .cn
  | _=>.cn
 | .av=>.cn
 | .gV .. => .cn
 | v=>.ok v (u.take n)
noncomputable def oy:Fl->V
 | .ret v=>v
 | _=>.none
noncomputable def rn(call:Calls)(mk:Nat)(D:Nd)(wv:List V)(u:St):RE V:=
 if wv.length=D.ij then
  match iH ⟨call,if D.uq then u.length else mk⟩ D.body (wv++aw (D.lh-D.ij) V.av) u with
  | .ok f _ re=>if D.uq then finish u.length (oy f) re else if(oy f).cD then .ok (oy f) re else .cn
  | .fY _ re=>.fY (if D.uq then re.take u.length else re)
  | .cn=>.cn
 else .cn
noncomputable def af:Nat->Calls
 | 0,_,_,_,_=>.cn
 | d+1,mk,f,wv,u=>rn (af d) mk (cc f) wv u
end Mine.Internal
set_option genCtorIdx false
namespace Mine.Internal
open PySem PySem.W PySem.Calls PyProof.Rows
noncomputable def eM.str(x:eM):c8:=mQ (["files","ranks","size","full","has_double","has_castling","file_masks","rank_masks","rays","king","knight","pawn","castles","rights_lost","pieces","ep","rights","side","zob","geo","board","kinds","sides","half","key","history","word","count","at"].getD x.1 "")
noncomputable def Gl.str(x:Gl):c8:=mQ (["WHITE","BLACK","PAWN","KNIGHT","BISHOP","ROOK","QUEEN","KING","EMPTY","STEP_FILES","STEP_RANKS","KIND_BITS","RIGHTS_BITS","HALF_LOW_BITS","HALF_LIMIT","FULL_BITS","FULL_LIMIT","_law_jumps","_law_ways"].getD x.1 "")
noncomputable def AA.str(x:AA):c8:=mQ (["put","octets","take","finish"].getD x.1 "")
noncomputable def pG.str(x:pG):c8:=mQ (["Geometry","Zobrist","Position","BitWriter","BitReader"].getD x.1 "")
noncomputable def Fn.str(f:Fn):c8:=mQ (cc f).name
noncomputable def Fn.qual(f:Fn):c8:=mQ (cc f).qual
theorem eM.inj:∀ {f g:eM},f.str=g.str->f=g:=by decide +kernel
theorem cj{α:Type}{a:α}{p:Prop}(h:(none:Option α)=some a):p:=nomatch h
theorem gT{p:Prop}(h:false=true):p:=nomatch h
theorem iD{v:V}{i:Int}(h:v.pE=some i):v=.int i:=by cases v<;>first | exact cj h | exact aM V.int (aD h)
theorem Dl{v:V}{i:List Nat}(h:v.EV=some i):v=.bytes i:=by cases v<;>first | exact cj h | exact aM V.bytes (aD h)
theorem kz{v:V}{i:Nat}(h:v.rD=some i):v=.ref i:=by cases v<;>first | exact cj h | exact aM V.ref (aD h)
theorem Ot{o:O}{vs:List V}(h:o.lO=some vs):o=.list vs:=by cases o<;>first | exact cj h | exact aM O.list (aD h)
theorem HU{o:O}{p:pG×List (eM×V)}(h:o.EB=some p):o=.inst p.1 p.2:=by cases o<;>first | exact cj h | (obtain rfl:=aD h;rfl)
theorem Br{o:Option O}{vs:List V}(h:o.bind O.lO=some vs):o=some (.list vs):=by
 refine cP (aT.mp h) λx=>cJ λGo h=>?_;subst Go
 rw[Ot h]
theorem sH{α β:Type}{o:Option α}{k:α->RE β}(h:dc o k≠.cn):∃a,o=some a/\dc o k=k a:=by
 cases o with
 | none=>exact absurd rfl h
 | some a=>exact⟨a,rfl,rfl⟩
theorem BH{β:Type}{c:Prop}[Decidable c]{r:RE β}(h:dT c r≠.cn):c/\dT c r=r:=by
 unfold dT at h ⊢;by_cases hc:c
 .exact⟨hc,aF hc⟩
 .rw[aZ hc]at h;exact absurd rfl h
theorem CQ{vs:List V}{x:V}(h:zc vs=some x):vs=[x]:=by
 rcases vs with _ | ⟨a,_ | ⟨b,r⟩⟩<;>first | exact cj h | (obtain rfl:=aD h;rfl)
theorem two?_is{vs:List V}{p:V×V}(h:two? vs=some p):vs=[p.1,p.2]:=by
 rcases vs with _ | ⟨a,_ | ⟨b,_ | ⟨c,r⟩⟩⟩<;>first | exact cj h | (obtain rfl:=aD h;rfl)
theorem zG{x v:V}{f:eM}{u:St}(h:getAttr x f u=some v):∃k c fs,x=.ref k/\u[k]?=some (.inst c fs)/\hP f fs=some v:=by
 refine d5 λGG Y=>?_
 refine cP (aT.mp h) λk=>cJ λh1 h=>?_
 refine cP (aT.mp h) λp=>cJ λh2 h=>?_
 refine cP (aT.mp h2) λo=>cJ λh3 h4=>?_
 refine Y ?_;exact⟨k,p.1,p.2,kz h1,by refine h3.trans ?_;rw[HU h4],h⟩
theorem yS{mk:Nat}{x v:V}{f:eM}{u re:St}(h:setAttr mk x f v u=some re):∃k c fs,x=.ref k/\u[k]?=some (.inst c fs)/\fq mk k v=true/\fs.length<=60/\re=u.set k (.inst c (qt f v fs)):=by
 refine d5 λGG Y=>?_
 refine cP (aT.mp h) λk=>cJ λh1 h=>?_
 refine cP (aT.mp h) λp=>cJ λh2 h=>?_
 refine cP (aT.mp h2) λo=>cJ λh3 h4=>?_
 by_cases hc:(fq mk k v&&decide (p.2.length<=60))=true
 .rw[aF hc]at h;simp only[aH,decide_eq_true_eq]at hc;refine Y ?_;exact⟨k,p.1,p.2,kz h1,by refine h3.trans ?_;rw[HU h4],hc.1,hc.2,(aD h).symm⟩
 .rw[aZ hc]at h;exact cj h
theorem zF{x y v:V}{u:St}(h:getItem x y u=some v):∃k i o vs,x=.ref k/\y=.int i/\u[k]?=some o/\o.seq?=some vs/\0<=i/\i<4096/\vs[i.toNat]?=some v:=by
 refine d5 λGG Y=>?_
 refine cP (aT.mp h) λk=>cJ λh1 h=>?_
 refine cP (aT.mp h) λi=>cJ λh2 h=>?_
 refine cP (aT.mp h) λvs=>cJ λh3 h=>?_
 refine cP (aT.mp h3) λo=>cJ λh4 h5=>?_
 by_cases hc:0<=i/\i<4096
 .rw[aF hc]at h;refine Y ?_;exact⟨k,i,o,vs,kz h1,iD h2,h4,h5,hc.1,hc.2,h⟩
 .rw[aZ hc]at h;exact cj h
theorem yQ{mk:Nat}{x y v:V}{u re:St}(h:setItem mk x y v u=some re):∃k i vs,x=.ref k/\y=.int i/\u[k]?=some (.list vs)/\0<=i/\i<4096/\i.toNat<vs.length/\fq mk k v=true/\re=u.set k (.list (vs.set i.toNat v)):=by
 refine d5 λGG Y=>?_
 refine cP (aT.mp h) λk=>cJ λh1 h=>?_
 refine cP (aT.mp h) λi=>cJ λh2 h=>?_
 refine cP (aT.mp h) λvs=>cJ λh3 h=>?_
 by_cases hc:0<=i/\i<4096/\i.toNat<vs.length/\fq mk k v=true
 .rw[aF hc]at h;refine Y ?_;exact⟨k,i,vs,kz h1,iD h2,Br h3,hc.1,hc.2.1,hc.2.2.1,hc.2.2.2,(aD h).symm⟩
 .rw[aZ hc]at h;exact cj h
inductive F2{α β:Type}(P:α->β->Prop):List α->List β->Prop where
 | nil:F2 P [] []
 | cons {a:α} {b:β} {l:List α} {m:List β}:P a b->F2 P l m->F2 P (a::l) (b::m)
theorem F2.imp{α β:Type}{P Q:α->β->Prop}(f:∀a b,P a b->Q a b){l:List α}{m:List β}(h:F2 P l m):F2 Q l m:=by
 induction h with
 | nil=>exact .nil
 | cons x _ ih=>exact .cons (f _ _ x) ih
theorem F2.len{α β:Type}{P:α->β->Prop}{l:List α}{m:List β}(h:F2 P l m):l.length=m.length:=by
 induction h with
 | nil=>rfl
 | cons _ _ ih=>simp[ih]
theorem F2.get{α β:Type}{P:α->β->Prop}{l:List α}{m:List β}(h:F2 P l m){i:Nat}{b:β}(e:m[i]?=some b):∃a,l[i]?=some a/\P a b:=by
 induction h generalizing i with
 | nil=>exact cj e
 | cons x _ ih=>
  cases i with
  | zero=>simp only[List.getElem?_cons_zero,vm]at e;subst e;exact⟨_,rfl,x⟩
  | succ i=>simp only[Hm]at e ⊢;exact ih e
theorem F2.append{α β:Type}{P:α->β->Prop}{l l':List α}{m m':List β}(h:F2 P l m)(h':F2 P l' m'):F2 P (l++l') (m++m'):=by
 induction h with
 | nil=>exact h'
 | cons x _ ih=>exact .cons x ih
theorem F2.set{α β:Type}{P:α->β->Prop}{l:List α}{m:List β}(h:F2 P l m){a:α}{b:β}(k:P a b)(i:Nat):F2 P (l.set i a) (m.set i b):=by
 induction h generalizing i with
 | nil=>exact .nil
 | cons x r ih=>cases i with
  | zero=>exact .cons k r
  | succ i=>exact .cons x (ih i)
theorem F2.take{α β:Type}{P:α->β->Prop}{l:List α}{m:List β}(h:F2 P l m)(n:Nat):F2 P (l.take n) (m.take n):=by
 induction h generalizing n with
 | nil=>cases n<;>exact .nil
 | cons x r ih=>cases n with
  | zero=>exact .nil
  | succ n=>exact .cons x (ih n)
theorem F2.drop{α β:Type}{P:α->β->Prop}{l:List α}{m:List β}(h:F2 P l m)(n:Nat):F2 P (l.drop n) (m.drop n):=by
 induction h generalizing n with
 | nil=>cases n<;>exact .nil
 | cons x r ih=>cases n with
  | zero=>exact .cons x r
  | succ n=>exact ih n
theorem F2.reverse{α β:Type}{P:α->β->Prop}{l:List α}{m:List β}(h:F2 P l m):F2 P l.reverse m.reverse:=by
 induction h with
 | nil=>exact .nil
 | cons x _ ih=>simp only[yA,yA];exact ih.append (.cons x .nil)
theorem F2.replicate{α β:Type}{P:α->β->Prop}{a:α}{b:β}(k:P a b)(n:Nat):F2 P (aw n a) (aw n b):=by
 induction n with
 | zero=>exact .nil
 | succ n ih=>exact .cons k ih
def dX(G:List aA):Value->V->Prop
 | .none,.none=>True
 | .bool b,.bool c=>b=c
 | .int i _,.int j=>i=j
 | .bytes a _,.bytes l=>a.toList.map UInt8.toNat=l
 | .ref x,.ref k=>G[k]?=some x
 | _,_=>False
noncomputable def yV(a b c:Int)(t cr v:Tok):di:={ cls:=.type "range",dict:=none,data:=.fields #[.int a t,.int b cr,.int c v],slots := #[] }
def d6(h:eJ)(G:List aA)(x:Value):V->Prop
 | .gV a b c=>∃r t cr v,x=.ref r/\h.get? r=some (yV a b c t cr v)
 | v=>dX G x v
theorem d6.of{h:eJ}{G:List aA}{x:Value}{v:V}(H:dX G x v):d6 h G x v:=by
 cases v<;>first | exact H | (cases x<;>exact H.elim)
theorem d6.val{h:eJ}{G:List aA}{x:Value}{v:V}(H:d6 h G x v)(k:v.cD=true):dX G x v:=by
 cases v<;>first | exact H | cases k
theorem dX.ok{G:List aA}{x:Value}{v:V}(H:dX G x v):v.cD=true:=by
 cases v<;>first | rfl | (cases x<;>exact H.elim)
theorem dX.mono{G bs:List aA}{x:Value}{v:V}(H:dX G x v)(le:G <+: bs):dX bs x v:=by
 refine cP le λt Go=>?_;clear le;subst Go
 cases v with
 | ref k=>
  cases x with
  | ref a=>
   have e:=H
   show(G++t)[k]?=some a
   refine(ci (by have:=aJ.mp e;exact this.1)).trans ?_;exact e
  | _=>exact H
 | _=>cases x<;>exact H
def ft(G:List aA):List Value->List V->Prop:=F2 (dX G)
theorem ft.mono{G bs:List aA}{xs:List Value}{vs:List V}(H:ft G xs vs)(le:G <+: bs):ft bs xs vs:=F2.imp (λJ J h=>h.mono le) H
def qJ(G:List aA):List jb->List (eM×V)->Prop:=F2 λe p=>(∃t,e.key=.str p.1.str t)/\dX G e.val p.2
theorem qJ.mono{G bs:List aA}{es:List jb}{fs:List (eM×V)}(H:qJ G es fs)(le:G <+: bs):qJ bs es fs:=F2.imp (λJ J h=>⟨h.1,h.2.mono le⟩) H
noncomputable abbrev UO(wE:Array Value)(n:Nat):di:={ cls:=.type "tuple",data:=.seq wE n }
def jF(dB:pG->aA)(base:eJ)(G:List aA)(a:aA):O->List (aA×di)->Prop
 | .list vs,p=>∃wE n,p=[(a,listOf wE n)]/\ft G wE.toList vs
 | .lV vs,p=>p=[]/\∃o wE n,base.get? a=some o/\o.cls=.type "list" /\ o.data=.seq wE n/\ft G wE.toList vs
 | .eY vs,p=>∃o wE n,((p=[(a,o)])\/(p=[]/\base.get? a=some o))/\o.cls=.type "tuple" /\ o.data=.seq wE n/\ft G wE.toList vs
 | .gV x y z,p=>∃t cr v,p=[(a,yV x y z t cr v)]
 | .inst c fs,p=>∃dx es n,p=[(a,Ho (dB c) dx),(dx,lN es n)]/\qJ G es fs
theorem jF.mono{dB:pG->aA}{base:eJ}{G bs:List aA}{a:aA}{o:O}{p:List (aA×di)}(H:jF dB base G a o p)(le:G <+: bs):jF dB base bs a o p:=by
 cases o with
 | list vs=>refine iJ H λwE n=>cJ λe v=>?_;exact⟨wE,n,e,v.mono le⟩
 | lV vs=>obtain⟨e,o,wE,n,h1,h2,h3,v⟩:=H;exact⟨e,o,wE,n,h1,h2,h3,v.mono le⟩
 | eY vs=>refine nG H λo wE n=>mT λh1 h2 h3 v=>?_;exact⟨o,wE,n,h1,h2,h3,v.mono le⟩
 | gV x y z=>exact H
 | inst c fs=>refine nG H λdx es n=>cJ λe v=>?_;exact⟨dx,es,n,e,v.mono le⟩
structure Fk(dB:pG->aA)(base:eJ)(G:List aA)(u:St)(ls:List (List (aA×di))):Prop where
 la:G.length=u.length
 ll:ls.length=u.length
 obj:∀(i:Nat) (a:aA) (o:O) (p:List (aA×di)),G[i]?=some a->u[i]?=some o->ls[i]?=some p->jF dB base G a o p
section
variable{dB:pG->aA}{base:eJ}{G:List aA}{u:St}{ls:List (List (aA×di))}
theorem Fk.push(H:Fk dB base G u ls){a:aA}{o:O}{p:List (aA×di)}(k:jF dB base (G++[a]) a o p):Fk dB base (G++[a]) (u++[o]) (ls++[p]):=by
 refine⟨by simp[H.la],by simp[H.ll],λi b x q h1 h2 h3=>?_⟩;rcases Nat.lt_trichotomy i u.length with hi | hi | hi
 .rw[ci (by rw[H.la];exact hi)]at h1;rw[ci hi]at h2;rw[ci (by rw[H.ll];exact hi)]at h3;exact(H.obj i b x q h1 h2 h3).mono (cT _ _)
 .have e1:i=G.length:=by simp only[H.la];exact hi
  have e3:i=ls.length:=by simp only[H.ll];exact hi
  rw[e1]at h1;rw[hi]at h2;simp only[e3]at h3;simp only[gm,vm]at h1 h2 h3;subst h1;subst h2;subst h3;exact k
 .have:(u++[o])[i]?=none:=dS (by simp;lia)
  rw[this]at h2;cases h2
theorem Fk.set(H:Fk dB base G u ls){i:Nat}{a:aA}{o:O}{p:List (aA×di)}(ha:G[i]?=some a)(k:jF dB base G a o p):Fk dB base G (u.set i o) (ls.set i p):=by
 refine⟨by simp[H.la],by simp[H.ll],λj b x q h1 h2 h3=>?_⟩;by_cases e:i=j
 .subst e;have hi:=(aJ.mp ha).1;simp only[cG (by rw[<-H.la];exact hi)]at h2;rw[cG (by simp only[H.ll,<-H.la];exact hi)]at h3;rw[ha]at h1;obtain rfl:=aD h1;obtain rfl:=aD h2;obtain rfl:=aD h3;exact k
 .rw[bQ e]at h2;rw[bQ e]at h3;exact H.obj j b x q h1 h2 h3
theorem Fk.at(H:Fk dB base G u ls){i:Nat}{o:O}(h:u[i]?=some o):∃a p,G[i]?=some a/\ls[i]?=some p/\jF dB base G a o p:=by
 have hi:=(aJ.mp h).1
 have ha:G[i]?=some (G[i]'(by simp only[H.la];exact hi)):=cO _
 have hp:ls[i]?=some (ls[i]'(H.ll▸hi)):=cO _
 exact⟨_,_,ha,hp,H.obj i _ o _ ha h hp⟩
end
structure jC where
 dB:pG->aA
 base:eJ
 L:aA
 fr:List (aA×(c8->Option Value))
structure Inv(Z:jC)(m:c8->Option Value)(G:List aA)(u:St)(ls:List (List (aA×di)))(R:List (aA×di))(h:eJ):Prop where
 fr:Fr Z.base Z.L h m
 news:DN Z.base Z.L h (ls.flatten++R)
 nodup:((ls.flatten++R).map (·.1)).Nodup
 rel:Fk Z.dB Z.base G u ls
 outer:∀p∈Z.fr,h.Ns p.1 p.2
 apart:∀p∈Z.fr,p.1≠Z.L/\Z.base.get? p.1=none/\p.1∉(ls.flatten++R).map (·.1)
noncomputable def O.vals:O->List V
 | .list vs=>vs
 | .lV vs=>vs
 | .eY vs=>vs
 | .gV .. => []
 | .inst _ fs=>fs.map (·.2)
def dF(mk:Nat)(u re:St):Prop:=u.length<=re.length/\∀i o',i<mk->re[i]?=some o'->∃o,u[i]?=some o/\∀k,V.ref k∈o'.vals->V.ref k∈o.vals
theorem dF.refl(mk:Nat)(u:St):dF mk u u:=⟨cH _,λJ o' J h=>⟨o',h,λJ x=>x⟩⟩
theorem dF.trans{mk:Nat}{u re UF:St}(x:dF mk u re)(y:dF mk re UF):dF mk u UF:=
 ⟨ae x.1 y.1,λi o'' hi h=>let⟨o',h',k'⟩:=y.2 i o'' hi h;let⟨o,h0,k0⟩:=x.2 i o' hi h';⟨o,h0,λk z=>k0 k (k' k z)⟩⟩
theorem dF.le{mk WK:Nat}{u re:St}(x:dF WK u re)(h:mk<=WK):dF mk u re:=⟨x.1,λi o' hi=>x.2 i o' (aq hi h)⟩
theorem dF.push{mk:Nat}{u:St}(h:mk<=u.length)(o:O):dF mk u (u++[o]):=
 ⟨by simp,λi o' hi e=>by rw[ci (aq hi h)]at e;exact⟨o',e,λJ x=>x⟩⟩
theorem dF.set{mk:Nat}{u:St}{i:Nat}{o o':O}(ho:u[i]?=some o)(k:i<mk->∀j,V.ref j∈o'.vals->V.ref j∈o.vals):dF mk u (u.set i o'):=
 ⟨by simp,λj x hj e=>by
  by_cases q:i=j
  .subst q
   rw[cG (aJ.mp ho).1]at e
   obtain rfl:=aD e
   exact⟨o,ho,k hj⟩
  .rw[bQ q]at e
   exact⟨x,e,λJ z=>z⟩⟩
inductive lI(base:eJ)(frs:List aA)(led:List (aA×di))(bad:aA)(e:aA)(h:eJ)(tb:Bool):Prop where
 | mk (B:eJ) (oe:di) (vs:Array Value) (a0:Value):base.StaysIn B->(∀p∈led,B.get? p.1=some p.2)->B.StaysIn h->(∀f∈frs,B.get? f=none)->B.get? e=none ->
  h.get? e=some oe->oe.cls=.ref bad->oe.data=.fields vs->vs[0]?=some a0 ->
  ((tb=false/\vs[1]?=some .none)\/∃kt oT ts fl,vs[1]?=some (.ref kt)/\B.get? kt=none/\kt≠e/\h.get? kt=some oT/\oT.data=.fields ts/\ts[3]?=some fl/\(fl=.none\/∃f,frs.head?=some f/\fl=DL f))->lI base frs led bad e h tb
theorem lI.any{base:eJ}{frs:List aA}{led:List (aA×di)}{bad:aA}{e:aA}{h:eJ}{tb:Bool}(x:lI base frs led bad e h tb):lI base frs led bad e h false:=by
 obtain⟨B,oe,vs,a0,h1,h2,h3,h4,h5,h6,h7,h8,h9,h10⟩:=x;exact⟨B,oe,vs,a0,h1,h2,h3,h4,h5,h6,h7,h8,h9,h10.imp (λz=>⟨rfl,z.2⟩) id⟩
inductive QE(Z:jC)(m:c8->Option Value)(R:List (aA×di))(mk:Nat){α β:Type}(VR:eJ->List aA->β->α->Prop)(s:aL)(G:List aA)(u:St)(r:RE α)(b:β)(s':aL):Prop where
 | mk (a:α) (re:St) (wT:List aA) (AT:List (List (aA×di))) (h':eJ) (tk:Nat):r=.ok a re->s'={ s with heap:=h',toks:=tk }->G <+: wT->dF mk u re->Inv Z m wT re AT R h'->VR h' wT b a->QE Z m R mk VR s G u r b s'
inductive EE(Z:jC)(bad:aA)(m:c8->Option Value)(R:List (aA×di))(mk:Nat){α:Type}(s:aL)(G:List aA)(u:St)(r:RE α)(e:Value)(s':aL):Prop where
 | mk (re:St) (wT:List aA) (AT:List (List (aA×di))) (h':eJ) (tk:Nat) (ea:aA):r=.fY re->e=.ref ea->s'={ s with heap:=h',toks:=tk }->G <+: wT->dF mk u re->Inv Z m wT re AT R h'->lI Z.base (Z.L::Z.fr.map (·.1)) (AT.flatten++R) bad ea h' false->EE Z bad m R mk s G u r e s'
section
variable{Z:jC}{bad:aA}{m:c8->Option Value}{R:List (aA×di)}{mk:Nat}{α α' β β':Type}{VR:eJ->List aA->β->α->Prop}{VR':eJ->List aA->β'->α'->Prop}
 {s:aL} {G wT:List aA} {u re:St} {AT:List (List (aA×di))} {h':eJ} {tk:Nat}
theorem QE.back{r r':RE α}{b:β}{t:aL}(q:QE Z m R mk VR { s with heap:=h',toks:=tk } wT re r b t)(e:r'=r)(le:G <+: wT)(mo:dF mk u re):QE Z m R mk VR s G u r' b t:=by
 obtain⟨a,rs,xz,Fa,h2,tk2,e1,e2,l2,m2,I2,v⟩:=q;exact⟨a,rs,xz,Fa,h2,tk2,e.trans e1,e2,le.trans l2,mo.trans m2,I2,v⟩
theorem EE.back{r r':RE α}{b:Value}{t:aL}(q:EE Z bad m R mk { s with heap:=h',toks:=tk } wT re r b t)(e:r'=r)(le:G <+: wT)(mo:dF mk u re):EE Z bad m R mk s G u r' b t:=by
 obtain⟨rs,xz,Fa,h2,tk2,ea,e1,e2,e3,l2,m2,I2,v⟩:=q;exact⟨rs,xz,Fa,h2,tk2,ea,e.trans e1,e2,e3,le.trans l2,mo.trans m2,I2,v⟩
theorem EE.bind{r:RE α}{k:α->St->RE α'}{b:Value}{t:aL}(q:EE Z bad m R mk s G u r b t):EE Z bad m R mk s G u (r.bind k) b t:=by
 obtain⟨rs,xz,Fa,h2,tk2,ea,e1,e2,e3,l2,m2,I2,v⟩:=q;exact⟨rs,xz,Fa,h2,tk2,ea,by rw[e1];rfl,e2,e3,l2,m2,I2,v⟩
theorem V8{f4:FA}{A:cS}{t:Sem β}{r:RE α}{k:α->St->RE α'}{FM:β->Value->aL->Prop}{P:β->aL->Prop}
  (h1:r≠.cn->bT f4 A t (QE Z m R mk VR s G u r) (EE Z bad m R mk s G u r) s) (T:r.bind k≠.cn)
  (h2:∀b a re wT AT h' tk,k a re≠.cn->r=.ok a re->G <+: wT->dF mk u re->Inv Z m wT re AT R h'->VR h' wT b a->P b { s with heap:=h',toks:=tk }) :
  bT f4 A t P (EE Z bad m R mk s G u (r.bind k)) s:=by
 refine cq (h1 λe=>T (by rw[e];rfl)) (λb s' q=>?_) λJ J q=>q.bind
 obtain⟨a,rs,xz,Fa,h2',tk2,e1,e2,l2,m2,I2,v⟩:=q;subst e2;exact h2 b a rs xz Fa h2' tk2 (λe=>T (e1▸e)) e1 l2 m2 I2 v
end
theorem OK(a b:Nat):(a^^^b)+(a&&&b)=a|||b:=by
 induction a using S4 generalizing b with
 | ind a ih=>
  by_cases h:a=0
  .subst h;simp only[Nat.zero_xor,Nat.zero_and,Nat.zero_or];rfl
  .have e:=ih (a/2) (by lia) (b/2)
   rw[<-Dz,<-S9,<-Nat.or_div_two]at e;have m1:=Nz (a:=a) (b:=b) (n:=1);have m2:=Nat.or_mod_two_pow (a:=a) (b:=b) (n:=1);have m3:=Ny (a:=a) (b:=b) (n:=1);have k:(a^^^b)%2+(a&&&b)%2=(a|||b)%2:=by
    simp only[m3,m1,m2];rcases iE a with x | x<;>rcases iE b with y | y<;>(rw[x,y];rfl)
   rw[<-dP (a^^^b) 2,<-dP (a&&&b) 2,wB,<-wA,e,k,dP]
theorem xc{x y:Int}(hx:0<=x)(hy:0<=y):Qe x y=((x.toNat|||y.toNat:Nat):Int):=by
 simp only[bitOr_and,bitAnd_pp hx hy];exact Int.sub_eq_iff_eq_add.mpr (by rw[<-gF,nat_or_add_and,gF,fj hx,fj hy])
theorem Ab{x y:Int}(hx:0<=x)(hy:0<=y):Builtin.bitXor x y=((x.toNat^^^y.toNat:Nat):Int):=by
 show Qe x y-NN x y=_
 simp only[xc hx hy,bitAnd_pp hx hy,<-OK,gF,fK]
@[elab_as_elim] theorem nI{α:Type}{c:Prop}[Decidable c]{a:α}{db:α->Prop}(z:α)(h:(if c then some a else none)=some z)(f:c->db a):db z:=by
 by_cases hc:c
 .rw[aF hc]at h;obtain rfl:=aD h;exact f hc
 .rw[aZ hc]at h;cases h
theorem HV{x y z:Int}(h:L8 x y=some z):NN x y=z:=by
 by_cases hx:0<=x
 .have h:=(aF hx).symm.trans h
  by_cases hy:0<=y
  .exact(bitAnd_pp hx hy).trans (aD ((aF hy).symm.trans h))
  .exact(bitAnd_pn hx hy).trans (aD ((aZ hy).symm.trans h))
 .cases (aZ hx).symm.trans h
noncomputable def Op.py:Op->Operator
 | .ei=>.Add | .sub=>.Sub | .fm=>.Mult | .ey=>.FloorDiv | .iq=>.Mod | .qu=>.Pow | .qQ=>.LShift | .sm=>.RShift | .and=>.BitAnd | .or=>.BitOr | .Ay=>.BitXor
noncomputable def QV.py:QV->UnaryOp
 | .pD=>.USub | .not=>.Not | .OZ=>.Invert
noncomputable def nE.py:nE->CmpOp
 | .eq=>.Eq | .ne=>.NotEq | .lt=>.Lt | .le=>.LtE | .gt=>.Gt | .ge=>.GtE | .is=>.Is | .LX=>.IsNot | .Gv=>.In | .Km=>.NotIn
theorem qr{x:Int}(h:small x=true):x.natAbs<2^64:=bc h
theorem Qz{x y:Int}(h:(small x||small y)=true):IntMulOk x y:=by
 refine bN (Nm.mp h) (λh=>?_) λh=>?_
 .exact IntMulOk.of_left (intBits_le (qr h))
 .exact IntMulOk.of_right (intBits_le (qr h))
section
variable{prog:pJ}{w:World}{A:cS}{im:Value->aL->Prop}{s:aL}{x y z:Int}{t cr:Tok}{Q:Value->aL->Prop}
theorem G6{op:Op}(h:binI op x y=some z)(q:Q (.int z s.toks) { s with toks:=s.toks+1 }):bT (bO prog w) A (binaryOp op.py (.int x t) (.int y cr)) Q im s:=by
 cases op<;>revert q
 .exact aD h▸VV
 .exact aD h▸sub_int'
 .exact nI z h λk q=>VJ q (Qz k)
 .exact nI z h λk q=>VP (qk k.1) (by rw[ku x (nt k.1)];exact q) (.inl (sf (by omega)))
 .exact nI z h λk q=>mod_int' (qk k) (by rw[Fx x (nt k)];exact q)
 .exact nI z h λk q=>have k:=(aH _ _).mp k;pow_int_small (bc k.2).1 (bc k.2).2 (qr k.1) q
 .exact nI z h λk q=>have k:=(aH _ _).mp k;lshift_int_small (bc k.2).1 (bc k.2).2 (qr k.1) q
 .exact nI z h λk q=>VE k (by rw[ku x (nt (V2 (bc rfl)))];exact q)
 .exactλq=>VU ((HV h)▸q)
 .exact nI z h λk q=>VF (by rw[xc k.1 k.2];exact q)
 .exact nI z h λk q=>VA (by rw[Ab k.1 k.2];exact q)
theorem Gu{op:Op}(h:binI op x y=some z)(q:Q (.int z s.toks) { s with toks:=s.toks+1 }):bT (bO prog w) A (Np op.py (.int x t) (.int y cr)) Q im s:=by
 cases op<;>revert q
 .exact aD h▸wpAny_iadd_int
 .exact aD h▸isub_int
 .exact nI z h λk q=>imul_int q (Qz k)
 .exact nI z h λk q=>ifloordiv_int (qk k.1) (by rw[ku x (nt k.1)];exact q) (.inl (sf (by omega)))
 .exact nI z h λk q=>imod_int (qk k) (by rw[Fx x (nt k)];exact q)
 .exact nI z h λk q=>have k:=(aH _ _).mp k;ipow_int_small (bc k.2).1 (bc k.2).2 (qr k.1) q
 .exact nI z h λk q=>have k:=(aH _ _).mp k;ilshift_int_small (bc k.2).1 (bc k.2).2 (qr k.1) q
 .exact nI z h λk q=>irshift_int k (by rw[ku x (nt (V2 (bc rfl)))];exact q)
 .exactλq=>iand_int ((HV h)▸q)
 .exact nI z h λk q=>ior_int (by rw[xc k.1 k.2];exact q)
 .exact nI z h λk q=>ixor_int (by rw[Ab k.1 k.2];exact q)
set_option tactic.hygienic true in
theorem nP{G:List aA}{v:Value}{x:V}{b:Bool}{Q:Bool->aL->Prop}(r:dX G v x)(h:truthy x=some b)(q:Q b s):bT (bO prog w) A (PySem.truthy v) Q im s:=by
 cases x<;>first | exact cj h | skip
 .cases v<;>first | exact r.elim | skip
  obtain rfl:=aD h;exact VB q
 .cases v<;>first | exact r.elim | skip
  simp only[(aD h).symm,<-show _=_ from r]at q;exact tD q
 .rename_i i;cases v<;>first | exact r.elim | skip
  refine VC ?_;simp only[show _=i from r,(jH.mpr (bne_iff_ne.trans decide_eq_true_iff.symm)).trans (aD h)];exact q
end
theorem zk{h₀ h:eJ}{L:aA}{X nw:List (aA×di)}(f8:DN h₀ L h X)(k:∀p∈nw,p∈X):DN h₀ L h nw:=λp hp=>f8 p (k p hp)
theorem qY{α β:Type}{f:α->β}:∀ {l:List α},(l.map f).Nodup->∀ {x y:α},x∈l->y∈l->f x=f y->x=y
 | a::r,nd,x,y,hx,hy,e=>by
  rw[cN,eT]at nd
  rcases aO.mp hx with h1 | h1<;>refine bN (aO.mp hy) (λh2=>?_) λh2=>?_
  .refine h1.trans ?_;simp only[h2]
  .exact absurd (by simp only[<-h1,e];exact gy h2) nd.1
  .exact absurd (by simp only[<-h2,<-e];exact gy h1) nd.1
  .exact qY nd.2 h1 h2 e
section
variable{Z:jC}{m:c8->Option Value}{G:List aA}{u:St}{ls:List (List (aA×di))}{R:List (aA×di)}{h:eJ}
theorem BI{base h:eJ}{L:aA}:∀(fr:List (aA×(c8->Option Value))),(∀p∈fr,h.Ns p.1 p.2)->(∀p∈fr,p.1≠L/\base.get? p.1=none) ->
  ∃FO:List (aA×di),DN base L h FO/\FO.map (·.1)=fr.map (·.1)/\∀h' X,DN base L h' (X++FO)->∀p∈fr,h'.Ns p.1 p.2
 | [],_,_=>⟨[],News.nil,rfl,λJ J J p hp=>by cases hp⟩
 | q::r,ns,ap=>by
  refine cP (BI r (λp hp=>ns p (.tail _ hp)) (λp hp=>ap p (.tail _ hp))) λFO=>jc λa b c=>?_
  refine nG (ns q (.head _)) λo es ep=>cJ λho FM=>?_
  have apq:=ap q (.head _)
  refine⟨(q.1,o)::FO,?_,by simp only[cN,cN,b],λh' X f8 p hp=>?_⟩
  .intro p hp
   refine bN (aO.mp hp) (λKM=>?_) λhp=>?_
   .subst KM;exact⟨ho,apq.1,apq.2⟩
   .exact a p hp
  .refine bN (aO.mp hp) (λKM=>?_) λhp=>?_
   .subst KM;exact⟨o,es,ep,(f8 (p.1,o) (by simp)).1,FM⟩
   .exact c h' (X++[(q.1,o)]) (by simpa using f8) p hp
theorem Inv.fo(I:Inv Z m G u ls R h):∃FO:List (aA×di),DN Z.base Z.L h ((ls.flatten++R)++FO)/\FO.map (·.1)=Z.fr.map (·.1)/\∀h' X,DN Z.base Z.L h' (X++FO)->∀p∈Z.fr,h'.Ns p.1 p.2:=by
 refine cP (BI Z.fr I.outer λp hp=>⟨(I.apart p hp).1,(I.apart p hp).2.1⟩) λFO=>jc λa b c=>?_
 exact⟨FO,λp hp=>(dk.mp hp).elim (I.news p) (a p),b,c⟩
theorem Inv.R6(I:Inv Z m G u ls R h){p:aA×di}(hp:p∈ls.flatten++R):p.1<h.objs.size:=gR (I.news p hp).1
theorem Inv.grow(I:Inv Z m G u ls R h){h':eJ}(k:∀b o,h.get? b=some o->h'.get? b=some o):Inv Z m G u ls R h':=
 ⟨⟨I.fr.ns.keeps k,λb o e=>k b o (I.fr.keep b o e),I.fr.above⟩,λp hp=>⟨k _ _ (I.news p hp).1,(I.news p hp).2⟩,I.nodup,I.rel,λp hp=>(I.outer p hp).keeps k,I.apart⟩
theorem w4{α:Type}(ls:List (List α))(xs R:List α):((ls++[xs]).flatten++R).Perm (xs++(ls.flatten++R)):=by
 simp only[gz,gZ,List.flatten_nil,aP,<-am];exact Kk.append_right R
theorem Inv.push{h':eJ}{xz:List aA}{rs:St}{Fa:List (List (aA×di))}{R2:List (aA×di)}(I:Inv Z m G u ls R h){new:List (aA×di)}(hp:(Fa.flatten++R2).Perm (new++(ls.flatten++R)))(F:Fr Z.base Z.L h' m)(f8:DN Z.base Z.L h' (new++(ls.flatten++R)))(nd:(new.map (·.1)).Nodup)(fresh:∀p∈new,p.1∉(ls.flatten++R).map (·.1)/\p.1∉Z.fr.map (·.1))(rel:Fk Z.dB Z.base xz rs Fa)(KB:∀p∈Z.fr,h'.Ns p.1 p.2):Inv Z m xz rs Fa R2 h':=by
 refine⟨F,λp q=>f8 p (hp.subset q),((hp.map _).nodup_iff).mpr ?_,rel,KB,λp q=>⟨(I.apart p q).1,(I.apart p q).2.1,λe=>?_⟩⟩
 .rw[cb,rJ];refine⟨nd,I.nodup,λa ha b hb e=>?_⟩;obtain⟨x,hx,ex⟩:=bj.mp ha;exact(fresh x hx).1 (ex▸e▸hb)
 .have e:=(hp.map (·.1)).subset e
  rw[cb]at e;refine bN (dk.mp e) (λe=>?_) λe=>?_
  .obtain⟨x,hx,ex⟩:=bj.mp e;exact(fresh x hx).2 (ex▸gy q)
  .exact(I.apart p q).2.2 e
theorem Inv.fresh{a:aA}(I:Inv Z m G u ls R h)(Ww:h.get? a=none):a∉(ls.flatten++R).map (·.1)/\a∉Z.fr.map (·.1):=by
 refine⟨λe=>?_,λe=>?_⟩
 .refine cP (bj.mp e) λp=>cJ λhp e=>?_
  have:=(I.news p hp).1
  simp only[e,Ww]at this;exact cj this
 .refine cP (bj.mp e) λp=>cJ λhp e=>?_
  refine nG (I.outer p hp) λo' _ _=>cJ λWD _=>?_
  simp only[e,Ww]at WD;cases WD
theorem Inv.HD{xz:List aA}{rs:St}{Fa:List (List (aA×di))}{R2:List (aA×di)}(I:Inv Z m G u ls R h){h':eJ}{a:aA}{o:di}(k:∀b o,h.get? b=some o->h'.get? b=some o)(ha:h'.get? a=some o)(Ww:h.get? a=none)(hp:(Fa.flatten++R2).Perm ((a,o)::(ls.flatten++R)))(rel:Fk Z.dB Z.base xz rs Fa):Inv Z m xz rs Fa R2 h':=by
 have on:=I.grow k
 refine I.push (new:=[(a,o)]) hp on.fr (λp hp=>?_) (eT.mpr ⟨AE,DJ⟩) (λp hp=>by exact(bM.mp hp)▸(I.fresh Ww)) rel on.outer;refine bN (aO.mp hp) (λKM=>?_) λhp=>?_
 .subst KM;refine⟨ha,λe=>?_,?_⟩
  .refine nG I.fr.ns λoL _ _=>cJ λhL _=>?_
   simp only[<-e,Ww]at hL;exact cj hL
  .cases q:Z.base.get? a with
   | none=>rfl
   | some o=>have:=I.fr.keep a o q;simp only[Ww]at this;exact cj this
 .exact on.news p hp
theorem Inv.alloc(I:Inv Z m G u ls R h){h':eJ}{a:aA}{o:di}{O:O}(k:∀b o,h.get? b=some o->h'.get? b=some o)(ha:h'.get? a=some o)(Ww:h.get? a=none)
  (P:jF Z.dB Z.base (G++[a]) a O [(a,o)]):Inv Z m (G++[a]) (u++[O]) (ls++[[(a,o)]]) R h':=I.HD k ha Ww (w4 ls [(a,o)] R) (I.rel.push P)
theorem Inv.turn(I:Inv Z m G u ls R h){h':eJ}{i:Nat}{a d:aA}{p p':List (aA×di)}{od od':di}{O':O}(ha:G[i]?=some a)(hp:ls[i]?=some p)
  (hd:(d,od)∈p) (hp':p'=p.map λq=>if q.1=d then(d,od')else q) (S:mD d h h') (ho:h'.get? d=some od') (P:jF Z.dB Z.base G a O' p') :
  Inv Z m G (u.set i O') (ls.set i p') R h':=by
 have hi:=(aJ.mp hp).1
 have hmem:∀q∈p,q∈ls.flatten:=λq hq=>jr.mpr ⟨p,bU hp,hq⟩
 have dm:=I.news (d,od) (bY _ (hmem _ hd))
 have fst:p'.map (·.1)=p.map (·.1):=by
  simp only[hp',dY];refine fV λq J=>?_
  show(if q.1=d then(d,od')else q).1=q.1
  split
  .rename_i e;exact e.symm
  .rfl
 have e1:ls=ls.take i++p::ls.drop (i+1):=by
  have:=nF i ls
  rw[kH hi]at this;rw[(aJ.mp hp).2]at this;exact this.symm
 have e2:ls.set i p'=ls.take i++p'::ls.drop (i+1):=by
  refine yd.trans ?_;rw[aF hi]
 have adr:((ls.set i p').flatten++R).map (·.1)=(ls.flatten++R).map (·.1):=by
  rw[e2]
  conv=>rhs;rw[e1]
  simp only[gz,gZ,cb,fst]
 have nd:=I.nodup
 have kept:∀q∈(ls.set i p').flatten++R,q=(d,od')\/(q∈ls.flatten++R/\q.1≠d):=by
  intro q hq;by_cases hqd:q.1=d
  .left
   have hd':(d,od')∈(ls.set i p').flatten++R:=bY _ (jr.mpr ⟨p',by rw[e2];simp,by rw[hp'];exact bj.mpr ⟨(d,od),hd,by simp⟩⟩)
   simp only[<-adr]at nd;exact qY nd hq hd' hqd
  .right
   refine⟨?_,hqd⟩;rw[e2]at hq;rw[e1];simp only[gz,gZ,dk]at hq ⊢;rcases hq with(hq | hq | hq) | hq
   .exact .inl (.inl hq)
   .rw[hp']at hq;refine cP (bj.mp hq) λq0=>cJ λhq0 e=>?_
    by_cases z:q0.1=d
    .rw[aF z]at e;exact absurd (e▸rfl) hqd
    .rw[aZ z]at e;subst e;exact .inl (.inr (.inl hq0))
   .exact .inl (.inr (.inr hq))
   .exact .inr hq
 refine⟨⟨I.fr.ns.sameBut S (Ne.symm dm.2.1),λb x e=>(S.2 b λz=>?_).trans (I.fr.keep b x e),I.fr.above⟩,λq hq=>?_,by simp only[adr];exact nd,I.rel.set ha P,λq hq=>?_,λq hq=>?_⟩
 .have:=dm.2.2;simp only[<-z,e]at this;exact nomatch this
 .refine bN (kept q hq) (λKM=>?_) λOn=>?_
  .subst KM;exact⟨ho,dm.2⟩
  .refine cJ (λhq ne=>?_) On;exact⟨(S.2 _ ne).trans (I.news q hq).1,(I.news q hq).2⟩
 .exact(I.outer q hq).sameBut S λz=>(I.apart q hq).2.2 (bj.mpr ⟨(d,od),bY _ (hmem _ hd),z.symm⟩)
 .exact adr▸(I.apart q hq)
theorem Upd.HG{d:aA}{o o':di}{post:List (aA×di)}(hq:∀p∈post,p.1≠d):∀ {pre:List (aA×di)},(∀p∈pre,p.1≠d)->Upd d o o' (pre++(d,o)::post) (pre++(d,o')::post)
 | [],_=>.head hq
 | a::r,h=>.tail (h a (.head _)) (Upd.HG hq λp hp=>h p (.tail _ hp))
theorem DW{i:Nat}{p:List (aA×di)}(hp:ls[i]?=some p)(p':List (aA×di)):ls=ls.take i++p::ls.drop (i+1)/\ls.set i p'=ls.take i++p'::ls.drop (i+1):=by
 have hi:=(aJ.mp hp).1
 have:=nF i ls
 rw[kH hi,(aJ.mp hp).2]at this;exact⟨this.symm,by refine yd.trans ?_;rw[aF hi]⟩
theorem Inv.upd(I:Inv Z m G u ls R h){FO:List (aA×di)}(hFO:FO.map (·.1)=Z.fr.map (·.1)){i:Nat}{p1 p2:List (aA×di)}{d:aA}{od:di}(hp:ls[i]?=some (p1++(d,od)::p2))(od':di):
  Upd d od od' ((ls.flatten++R)++FO) (((ls.set i (p1++(d,od')::p2)).flatten++R)++FO):=by
 refine cJ (λe1 e2=>?_) (DW hp (p1++(d,od')::p2));have nd:=I.nodup;rw[e1]at nd;simp only[gz,gZ,cb,cN,am,AK]at nd;have eX:∀x:di,((ls.take i++(p1++(d,x)::p2)::ls.drop (i+1)).flatten++R)++FO=((ls.take i).flatten++p1)++(d,x)::(p2++((ls.drop (i+1)).flatten++(R++FO))):=λx=>by
  simp only[gz,gZ,am,AK]
 have g:Upd d od od' (((ls.take i).flatten++p1)++(d,od)::(p2++((ls.drop (i+1)).flatten++(R++FO)))) (((ls.take i).flatten++p1)++(d,od')::(p2++((ls.drop (i+1)).flatten++(R++FO)))):=by
  have nd2:(((List.take i ls).flatten++p1).map (·.1)++d::(p2.map (·.1)++((List.drop (i+1) ls).flatten.map (·.1)++R.map (·.1)))).Nodup:=by
   simpa only[cb,am]using nd
  rw[rJ]at nd2;refine jc (λ_ nd3 nd4=>?_) nd2;rw[eT]at nd3;have dm:d∈(ls.flatten++R).map (·.1):=by
   rw[e1];simp
  refine Upd.HG (λq hq e=>?_) λq hq e=>nd4 q.1 (gy hq) d (.head _) e
  rw[<-am,<-am]at hq;refine bN (dk.mp hq) (λhq=>?_) λhq=>?_
  .exact nd3.1 (by simp only[<-e];have:=gy (f:=(·.1)) hq;simpa only[cb,am]using this)
  .have hm:q.1∈Z.fr.map (·.1):=by exact hFO▸(gy hq)
   refine cP (bj.mp hm) λz=>cJ λhz ez=>?_
   exact(I.apart z hz).2.2 (by simp only[ez,e];exact dm)
 simp only[<-eX,<-eX,<-e2,<-e1]at g;exact g
theorem Inv.Qn(I:Inv Z m G u ls R h){FO:List (aA×di)}(hFO:∀h' X,DN Z.base Z.L h' (X++FO)->∀p∈Z.fr,h'.Ns p.1 p.2){h':eJ}{i:Nat}{a d:aA}{p1 p2:List (aA×di)}{od od':di}{O':O}(ha:G[i]?=some a)(hp:ls[i]?=some (p1++(d,od)::p2))
  (F':Fr Z.base Z.L h' m) (N':DN Z.base Z.L h' (((ls.set i (p1++(d,od')::p2)).flatten++R)++FO)) (P:jF Z.dB Z.base G a O' (p1++(d,od')::p2)) :
  Inv Z m G (u.set i O') (ls.set i (p1++(d,od')::p2)) R h':=by
 refine cJ (λe1 e2=>?_) (DW hp (p1++(d,od')::p2));have adr:((ls.set i (p1++(d,od')::p2)).flatten++R).map (·.1)=(ls.flatten++R).map (·.1):=by
  rw[e2]
  conv=>rhs;rw[e1]
  simp only[gz,gZ,cb,cN]
 exact⟨F',λq hq=>N' q (bY _ hq),by simp only[adr];exact I.nodup,I.rel.set ha P,hFO h' _ N',λq hq=>by exact adr▸(I.apart q hq)⟩
end
structure PF where
 prog:pJ
 w:World
 K:uQ
 mg:c8->Option Value
 mb:c8->Option Value
 dB:pG->aA
 Kn:Fn->aA
 bad:aA
structure QZ(P:PF)(c:pG):Prop where
 plain:Rk P.K (P.dB c) "" = true
 hasDict:hasDictIn P.K (P.dB c)=true
 setattr:r9 P.K (.ref (P.dB c)) "__setattr__" = some (some (.builtin "object.__setattr__"))
 over:plainOver P.K (P.dB c)=true
 fld:∀f:eM,∃a,r9 P.K (.ref (P.dB c)) f.str=some a/\noGet P.K a=true/\vr P.K (P.dB c) f.str=some none
structure Dw(P:PF)(base:eJ):Prop where
 CW:P.K.In base
 g:base.Ns d7 P.mg
 b:base.Ns iI P.mb
 Qy:base.NoLimit
 cls:∀c,QZ P c
theorem BE{f g:eM}{t:Tok}{k:Value}(e:k=.str g.str t):k.isStr f.str=decide (g=f):=by
 subst e;show(g.str==f.str)=_;by_cases h:g=f
 .subst h;simp
 .simp only[bP h];exact beq_eq_false_iff_ne.mpr λq=>h (eM.inj q)
set_option tactic.hygienic true in
theorem qJ.get{G:List aA}{es:List jb}{fs:List (eM×V)}(H:qJ G es fs){f:eM}{v:V}(h:hP f fs=some v):∃cr,getL f.str es=some (some cr)/\dX G cr v:=by
 induction H with
 | nil=>exact cj h
 | cons x _ ih=>
  rename_i e p l m _;obtain⟨g,w⟩:=p;refine cJ (λWv er=>?_) x;obtain⟨t,ek⟩:=Wv;simp only[Sk]at h;unfold getL;rw[SS,BE ek];by_cases q:g=f
  .rw[aF q]at h;obtain rfl:=aD h;rw[bp q];exact⟨_,rfl,er⟩
  .rw[aZ q]at h;rw[bP q];refine cP (ih h) λcr=>cJ λhu hr=>?_
   refine⟨cr,?_,hr⟩;unfold getL at hu;cases z:l.find? (·.key.isStr f.str)with
   | some e'=>rw[z]at hu;exact hu
   | none=>rw[z]at hu;dsimp only at hu;split at hu<;>simp at hu
theorem qJ.noRef{G:List aA}{es:List jb}{fs:List (eM×V)}(H:qJ G es fs):es.any (·.refKey)=false:=by
 induction H with
 | nil=>rfl
 | cons x _ ih=>
  refine cJ (λWv er=>?_) x;refine cP Wv λt ek=>?_
  simp only[kT,ih,xt];simp[DictEntry.refKey,ek]
theorem qJ.some{G:List aA}{es:List jb}{fs:List (eM×V)}(H:qJ G es fs)(name:c8):(getL name es).isSome=true:=by
 unfold getL;cases es.find? (·.key.isStr name)with
 | some e=>rfl
 | none=>rw[H.noRef];rfl
set_option tactic.hygienic true in
theorem qJ.put{G:List aA}{es:List jb}{fs:List (eM×V)}(H:qJ G es fs){f:eM}{v:V}{cr:Value}(hr:dX G cr v)(hsh:Int)(tk:Tok):qJ G (Rj f.str hsh (.str f.str tk) cr es) (qt f v fs)/\(Rj f.str hsh (.str f.str tk) cr es).length<=fs.length+1:=by
 induction H with
 | nil=>exact⟨.cons ⟨⟨tk,rfl⟩,hr⟩ .nil,cH _⟩
 | cons x r ih=>
  rename_i e p l m;obtain⟨g,w⟩:=p;refine cJ (λWv er=>?_) x;refine cP Wv λt ek=>?_
  simp only[Rj,KZ];rw[BE ek];by_cases q:g=f
  .rw[bp q,aF q];refine⟨.cons ⟨⟨t,?_⟩,hr⟩ r,?_⟩
   .refine ek.trans ?_;rw[q]
   .simp[r.len]
  .rw[bP q,aZ (bc rfl),aZ q];exact⟨.cons ⟨⟨t,ek⟩,er⟩ ih.1,by have:=ih.2;simp only[dh];lia⟩
section
variable{P:PF}{Z:jC}{m:c8->Option Value}{G:List aA}{u:St}{ls:List (List (aA×di))}{R:List (aA×di)}{A:cS}{im:Value->aL->Prop}{s:aL}
theorem Inv.inst(I:Inv Z m G u ls R s.heap){k:Nat}{c:pG}{fs:List (eM×V)}(ho:u[k]?=some (.inst c fs)):
  ∃a dx es n,G[k]?=some a/\ls[k]?=some [(a,Ho (Z.dB c) dx),(dx,lN es n)]/\qJ G es fs/\InstAt s.heap a (Ho (Z.dB c) dx) (Z.dB c) (some (lN es n)):=by
 refine d5 λGG Y=>?_
 obtain⟨a,p,ha,hp,dx,es,n,rfl,fr⟩:=I.rel.at ho;have mem:∀q∈[(a,Ho (Z.dB c) dx),(dx,lN es n)],q∈ls.flatten++R:=λq hq=>bY _ (jr.mpr ⟨_,bU hp,hq⟩)
 refine Y ?_;exact⟨a,dx,es,n,ha,hp,fr,InstAt.of_news I.news (mem _ (.head _)) (mem _ (.tail _ (.head _)))⟩
set_option tactic.hygienic true in
theorem ux(B:Dw P Z.base)(hc:Z.dB=P.dB)(I:Inv Z m G u ls R s.heap){x:Value}{X v:V}{f:eM}{ex:Bool}{Q:Value->aL->Prop}(hx:dX G x X)(h:getAttr X f u=some v)
  (q:∀cr,dX G cr v->Q cr { s with toks:=s.toks+1 }):bT (bO P.prog P.w) A (PySem.getAttr x f.str ex) Q im s:=by
 refine d5 λGG Y=>?_
 obtain⟨k,c,fs,rfl,ho,h⟩:=zG h;refine Kv (I.inst ho) λa dx es n=>mT λha hp fr IA=>?_
 cases x<;>first | exact hx.elim | skip
 rename_i a';have e:G[k]?=some a':=hx;rw[ha]at e;obtain rfl:=aD e;refine cP (fr.get h) λcr=>cJ λhu hr=>?_
 have C:=B.cls c
 refine cP (C.fld f) λat_=>jc λh1 h2 h3=>?_
 rw[hc]at IA;refine Y ?_;exact get_own I.fr B.CW IA C.plain C.hasDict h1 h2 hu (by cases cr<;>first | rfl | (cases v<;>exact hr.elim)) (q cr hr)
theorem vN{mk k j:Nat}(h:fq mk k (.ref j)=true):mk<=k:=bc (p:=mk<=k) h
theorem D5{f g:eM}{v w:V}:∀ {l:List (eM×V)},(g,w)∈qt f v l->v=w\/w∈l.map (·.2)
 | [],h=>by
  simp only[RJ,bM]at h
  cases h;exact .inl rfl
 | (g',w')::r,h=>by
  simp only[KZ]at h
  rw[cN,aO]
  split at h
  .refine bN (aO.mp h) (λh=>?_) λh=>?_
   .cases h;exact .inl rfl
   .exact .inr (.inr (bj.mpr ⟨_,h,rfl⟩))
  .refine bN (aO.mp h) (λh=>?_) λh=>?_
   .cases h;exact .inr (.inl rfl)
   .exact(D5 h).imp id .inr
set_option tactic.hygienic true in
theorem ut(B:Dw P Z.base)(hc:Z.dB=P.dB)(I:Inv Z m G u ls R s.heap){mk:Nat}{x cr:Value}{X v:V}{f:eM}{re:St}{Q:Unit->aL->Prop}(hx:dX G x X)(hu:dX G cr v)(h:setAttr mk X f v u=some re)
  (q:∀h' AT,Inv Z m G re AT R h'->dF mk u re->Q () { s with heap:=h',toks:=s.toks+2 }):bT (bO P.prog P.w) A (PySem.setAttr x f.str cr) Q im s:=by
 refine d5 λGG Y=>?_
 refine nG (yS h) λk c fs=>Qj λob3 ho hg1 hg2 ob7=>?_;subst ob3;subst ob7
 refine Kv (I.inst ho) λa dx es n=>mT λha hp fr IA=>?_
 cases x<;>first | exact hx.elim | skip
 rename_i a';have e:G[k]?=some a':=hx;rw[ha]at e;obtain rfl:=aD e;have C:=B.cls c;refine cP (C.fld f) λat_=>jc λh1 h2 h3=>?_
 refine cP I.fo λFO=>jc λf8 hFO Ws=>?_
 have pt:=fr.put hu (i9 P.w.params f.str) (s.toks+1) (f:=f)
 have pi:=I.upd hFO (p1:=[(a,Ho (Z.dB c) dx)]) hp (lN (Rj f.str (i9 P.w.params f.str) (.str f.str (s.toks+1)) cr es) (putN f.str es n))
 rw[hc]at IA;refine Y ?_;refine set_dict I.fr B.CW f8 IA rfl C.setattr C.over h3 C.hasDict (fr.some _) rfl pi (by lia) λh' F' N'=>?_
 refine q h' _ (I.Qn Ws ha hp F' N' ⟨dx,_,_,rfl,pt.1⟩) (dF.set ho λhi j hj=>?_);refine d5 λGG Y=>?_
 refine cP (bj.mp hj) λWv=>cJ λhgw e=>?_;obtain⟨g,w⟩:=Wv
 simp only at e;subst e;refine bN (D5 hgw) (λe=>?_) λe=>?_
 .subst e;have hg1:=vN hg1;lia
 .refine Y ?_;exact e
theorem Inv.lst(I:Inv Z m G u ls R s.heap){k:Nat}{o:O}{vs:List V}(ho:u[k]?=some o)(hv:o.uf=some vs):∃a wE,G[k]?=some a/\s.heap.IsList a wE/\ft G wE.toList vs:=by
 refine d5 λGG Y=>?_
 refine iJ (I.rel.at ho) λa p=>jc λha hp Pc=>?_
 have mem:∀q∈p,q∈ls.flatten++R:=λq hq=>bY _ (jr.mpr ⟨_,bU hp,hq⟩)
 cases o<;>first | exact cj hv | skip
 .obtain rfl:=aD hv;refine iJ Pc λwE n=>cJ λzn r=>?_;clear Pc;subst zn
  refine Y ?_;exact⟨a,wE,ha,⟨_,(I.news _ (mem _ (.head _))).1,rfl,n,rfl⟩,r⟩
 .obtain rfl:=aD hv;obtain⟨rfl,o,wE,n,h1,h2,h3,r⟩:=Pc;refine Y ?_;exact⟨a,wE,ha,⟨o,I.fr.keep _ _ h1,h2,n,h3⟩,r⟩
theorem Inv.DS(I:Inv Z m G u ls R s.heap){k:Nat}{vs:List V}(ho:u[k]?=some (.eY vs)):∃a wE,G[k]?=some a/\IsTup s.heap a wE/\ft G wE.toList vs:=by
 refine d5 λGG Y=>?_
 refine iJ (I.rel.at ho) λa p=>jc λha hp Pc=>?_
 have mem:∀q∈p,q∈ls.flatten++R:=λq hq=>bY _ (jr.mpr ⟨_,bU hp,hq⟩)
 refine nG Pc λo wE n=>mT λh1 h2 h3 r=>?_;clear Pc
 rcases h1 with rfl | ⟨rfl,h1⟩
 .refine Y ?_;exact⟨a,wE,ha,⟨o,(I.news _ (mem _ (.head _))).1,h2,n,h3⟩,r⟩
 .refine Y ?_;exact⟨a,wE,ha,⟨o,I.fr.keep _ _ h1,h2,n,h3⟩,r⟩
set_option tactic.hygienic true in
theorem Ip{wE:Array Value}{i:Nat}{x:Value}(h:wE.toList[i]?=some x):wE[i]?=some x:=by refine fZ.symm.trans ?_;exact h
set_option tactic.hygienic true in
theorem KU(slice:Expr)(x y:Value){db:Prop}(k:∀Db,subscripted slice false x y=operate Db (PySem.getItem x y)->db):db:=by
 cases slice<;>first | exact k _ rfl | (rename_i step _;cases step<;>exact k _ rfl)
set_option tactic.hygienic true in
theorem uv(I:Inv Z m G u ls R s.heap){GM slice:Expr}{x y:Value}{X nw v:V}{Q:Value->aL->Prop}(hx:dX G x X)(hy:dX G y nw)(h:getItem X nw u=some v)
  (q:∀cr,dX G cr v->Q cr s):bT (bO P.prog P.w) A (PySem.getItem x y) Q im s/\bT (bO P.prog P.w) A (Ax GM slice x y) Q im s:=by
 have tail:∀ {kt id:String},s.TypeIs x kt->typeLookup (.type kt) "__getitem__" = pure (some (.builtin id))->bT (bO P.prog P.w) A (PySem.getItem x y) Q im s ->
   bT (bO P.prog P.w) A (PySem.getItem x y) Q im s/\bT (bO P.prog P.w) A (Ax GM slice x y) Q im s:=λhT hl hg=>by
  refine⟨hg,?_⟩;exact KU slice x y λDb e=>tail_any hT hl hg e
 refine d5 λGG Y=>?_
 obtain⟨k,i,o,vs,rfl,rfl,ho,hv,h0,h1,h⟩:=zF h;cases y<;>first | exact hy.elim | skip
 rename_i i' tk;obtain rfl:i'=i:=hy;cases x<;>first | exact hx.elim | skip
 rename_i a;have hxa:=hx;have hfit:i'<2^63:=by lia
 by_cases ht:∃ws,o=.eY ws
 .obtain⟨ws,rfl⟩:=ht;obtain rfl:=aD hv;refine iJ (I.DS ho) λa' wE=>jc λha kt r=>?_
  rw[hxa]at ha;obtain rfl:=aD ha;refine cP (r.get h) λcr=>cJ λhu hr'=>?_
  have hi:i'.toNat<wE.size:=by
   have:=(aJ.mp hu).1;simpa using this
  refine Y ?_;refine tail kt.typeIs slot_tuple_getitem.lookup (getItem_tuple kt (by lia) hfit (seqIndex_of h0 (by lia)) (Ip hu) (q cr hr'))
 .have hl:o.uf=some vs:=by cases o<;>first | exact hv | exact absurd ⟨_,rfl⟩ ht
  refine iJ (I.lst ho hl) λa' wE=>jc λha kt r=>?_
  rw[hxa]at ha;obtain rfl:=aD ha;refine cP (r.get h) λcr=>cJ λhu hr'=>?_
  refine Y ?_;exact tail kt.typeIs slot_list_getitem.lookup (wpAny_getItem_list kt h0 hfit (Ip hu) (q cr hr'))
end
theorem oG:hV=4096:=rfl
theorem sizeOk{n:Nat}(h:n<=hV):n<=uO:=by rw[gK];simp only[oG]at h;lia
theorem MP{a:Array UInt8}{l:List Nat}(h:a.toList.map UInt8.toNat=l):a.size=l.length:=by simp only[<-h];simp
theorem qU{α β:Type}{db:RE β->Prop}{o:Option α}{k:α->RE β}(T:dc o k≠.cn)(h:∀a,o=some a->k a≠.cn->db (k a)):db (dc o k):=by
 cases o with
 | none=>exact absurd rfl T
 | some a=>exact h a rfl T
theorem CY{β:Type}{c:Prop}[Decidable c]{db:RE β->Prop}{r:RE β}(T:dT c r≠.cn)(h:c->r≠.cn->db r):db (dT c r):=by
 unfold dT at T ⊢;by_cases hc:c
 .rw[aF hc]at T ⊢;exact h hc T
 .exact absurd (aZ hc) T
@[elab_as_elim] theorem hZ{G:List aA}{i:Int}{db:Value->Prop}(x:Value)(h:dX G x (.int i))(f:∀t,db (.int i t)):db x:=by
 cases x<;>first | exact h.elim | skip
 cases h;exact f _
@[elab_as_elim] theorem k6{G:List aA}{k:Nat}{db:Value->Prop}(x:Value)(h:dX G x (.ref k))(f:∀a,dX G (.ref a) (.ref k)->db (.ref a)):db x:=by
 cases x<;>first | exact h.elim | exact f _ h
@[elab_as_elim] theorem s9{G:List aA}{l:List Nat}{db:Value->Prop}(x:Value)(h:dX G x (.bytes l))(f:∀c t,c.toList.map UInt8.toNat=l->c.size=l.length->db (.bytes c t)):db x:=by
 cases x<;>first | exact h.elim | exact f _ _ h (MP h)
@[elab_as_elim] theorem Mp{α β:Type}{R:α->β->Prop}{db:List α->Prop}(xs:List α)(h:F2 R xs [])(f:db []):db xs:=by
 cases h;exact f
@[elab_as_elim] theorem mu{α β:Type}{R:α->β->Prop}{v:β}{db:List α->Prop}(xs:List α)(h:F2 R xs [v])(f:∀x,R x v->db [x]):db xs:=by
 cases h with | cons h0 h1=>cases h1;exact f _ h0
@[elab_as_elim] theorem GJ{α β:Type}{R:α->β->Prop}{v w:β}{db:List α->Prop}(xs:List α)(h:F2 R xs [v,w])(f:∀x y,R x v->R y w->db [x,y]):db xs:=by
 cases h with | cons h0 h1=>exact mu _ h1 λy h1=>f _ y h0 h1
@[elab_as_elim] theorem Mo{α β:Type}{R:α->β->Prop}{cr v w:β}{db:List α->Prop}(xs:List α)(h:F2 R xs [cr,v,w])(f:∀x y z,R x cr->R y v->R z w->db [x,y,z]):db xs:=by
 cases h with | cons h0 h1=>exact GJ _ h1 λy z h1 h2=>f _ y z h0 h1 h2
set_option tactic.hygienic true in
theorem intsAre_of{G:List aA}{xs:List Value}{vs:List V}{l:List Int}(r:ft G xs vs)(h:jf vs=some l):qO xs l:=by
 induction r generalizing l with
 | nil=>obtain rfl:=aD h;exact .nil
 | cons x r ih=>
  rename_i x0 v0 _ _;cases v0<;>first | exact cj h | skip
  refine cP (dG.mp h) λl'=>cJ λh' zn=>?_;subst zn
  exact hZ x0 x λt=>.cons _ t (ih h')
section
variable{P:PF}{Z:jC}{m:c8->Option Value}{G:List aA}{u:St}{ls:List (List (aA×di))}{R:List (aA×di)}{A:cS}{im:Value->aL->Prop}{s:aL}
theorem Inv.own(I:Inv Z m G u ls R s.heap){k:Nat}{vs:List V}(ho:u[k]?=some (.list vs)):
  ∃a wE n,G[k]?=some a/\ls[k]?=some [(a,listOf wE n)]/\s.heap.get? a=some (listOf wE n)/\ft G wE.toList vs:=by
 refine d5 λGG Y=>?_
 obtain⟨a,p,ha,hp,wE,n,rfl,r⟩:=I.rel.at ho;refine Y ?_;exact⟨a,wE,n,ha,hp,(I.news _ (bY _ (jr.mpr ⟨_,bU hp,.head _⟩))).1,r⟩
theorem Inv.Lo(I:Inv Z m G u ls R s.heap){k:Nat}{a:aA}{vs:List V}(hx:dX G (.ref a) (.ref k))(ho:(u[k]?).bind O.lO=some vs):
  ∃wE n,ls[k]?=some [(a,listOf wE n)]/\s.heap.get? a=some (listOf wE n)/\ft G wE.toList vs/\wE.size=vs.length:=by
 refine d5 λGG Y=>?_
 refine nG (I.own (Br ho)) λa' wE n=>mT λha hp hg r=>?_
 cases ha.symm.trans hx;refine Y ?_;exact⟨wE,n,hp,hg,r,gq▸r.len⟩
theorem Inv.CT(I:Inv Z m G u ls R s.heap){k:Nat}{a:aA}{vs:List V}(hx:dX G (.ref a) (.ref k))(ho:(u[k]?).bind O.uf=some vs):∃wE,s.heap.IsList a wE/\ft G wE.toList vs/\wE.size=vs.length:=by
 refine d5 λGG Y=>?_
 refine cP (aT.mp ho) λo=>cJ λh1 h2=>?_
 refine iJ (I.lst h1 h2) λa' wE=>jc λha L r=>?_
 cases ha.symm.trans hx;refine Y ?_;exact⟨wE,L,r,gq▸r.len⟩
theorem Inv.UP(I:Inv Z m G u ls R s.heap){k:Nat}{a:aA}{vs:List V}(hx:dX G (.ref a) (.ref k))(ho:(u[k]?).bind O.seq?=some vs):∃wE,(IsTup s.heap a wE\/s.heap.IsList a wE)/\ft G wE.toList vs:=by
 refine cP (aT.mp ho) λo=>cJ λh1 h2=>?_
 have lst:o.uf=some vs->∃wE,(IsTup s.heap a wE\/s.heap.IsList a wE)/\ft G wE.toList vs:=λh=>by
  refine d5 λGG Y=>?_
  refine cP (I.CT hx (aT.mpr ⟨o,h1,h⟩)) λwE=>jc λL r _=>?_
  refine Y ?_;exact⟨wE,.inr L,r⟩
 cases o<;>first | exact lst h2 | exact cj h2 | skip
 refine d5 λGG Y=>?_
 obtain rfl:=aD h2;refine iJ (I.DS h1) λa' wE=>jc λha kt r=>?_
 cases ha.symm.trans hx;refine Y ?_;exact⟨wE,.inl kt,r⟩
theorem yk{o:Option O}{vs:List V}(h:o.bind O.lO=some vs):o.bind O.uf=some vs:=by rw[Br h];rfl
theorem Jx{mk k:Nat}{vs ws:List V}(ho:u[k]?=some (.list vs))(h:k<mk->∀j,V.ref j∈ws->V.ref j∈vs):dF mk u (u.set k (.list ws)):=dF.set ho h
theorem sO{mk k j:Nat}(h:fq mk k (.ref j)=true)(hk:k<mk):False:=Nat.not_le_of_lt hk (vN h)
theorem Inv.vA(I:Inv Z m G u ls R s.heap){k:Nat}{ws:List V}{a:aA}{wE its':Array Value}{n n':Nat}{h':eJ}(ha:G[k]?=some a)(hp:ls[k]?=some [(a,listOf wE n)])
  (S:mD a s.heap h') (WD:h'.get? a=some (listOf its' n')) (r:ft G its'.toList ws):Inv Z m G (u.set k (.list ws)) (ls.set k [(a,listOf its' n')]) R h':=
 I.turn ha hp (.head _) (by simp) S WD ⟨its',n',rfl,r⟩
theorem ur(I:Inv Z m G u ls R s.heap){mk:Nat}{x y cr:Value}{X nw v:V}{re:St}{Q:Unit->aL->Prop}(hx:dX G x X)(hy:dX G y nw)(hu:dX G cr v)(h:setItem mk X nw v u=some re)
  (q:∀h' AT,Inv Z m G re AT R h'->dF mk u re->Q () { s with heap:=h' }):bT (bO P.prog P.w) A (PySem.setItem x y cr) Q im s:=by
 refine nG (yQ h) λk i vs=>Rv λob3 ob4 ho h0 h1 h2 h3 ob10=>?_;subst ob3;subst ob4;subst ob10
 refine hZ y hy λtk=>k6 x hx λa hx=>?_
 refine iJ (I.Lo hx (by rw[ho];rfl)) λwE n=>mT λhp hget r hlen=>?_
 refine ki_setAt hget h0 (by lia) (by lia) (q _ _ (I.vA hx hp (mS ..) (n':=n) (its':=wE.setIfInBounds i.toNat cr) ?_ ?_) (Jx ho λhk j hj=>?_))
 .refine(iy _ hget (by first | rfl | simp[Obj.isFreed,xS])).trans ?_;simp[xS]
 .rw[Array.toList_setIfInBounds];exact r.set hu _
 .exact(kF hj).elim id λe=>(sO (e▸h3) hk).elim
theorem rC(l:List Int)(i:Int):l.any (· == i)=l.contains i:=by
 induction l with
 | nil=>rfl
 | cons a r ih=>
  simp only[kT]
  congr 1
  by_cases h:a=i
  .subst h;simp
  .simp only[beq_eq_false_iff_ne.mpr h,beq_eq_false_iff_ne.mpr (Ne.symm h)]
theorem Gw{op:nE}{i j:Int}{t cr:Tok}{b:Bool}{Q:Value->aL->Prop}(h:T5 op i j=some b)(q:Q (.bool b) s):bT (bO P.prog P.w) A (Nq op.py (.int i t) (.int j cr)) Q im s:=by
 cases op<;>first | exact cj h | (have h:=(aD h).symm;subst h)
 .refine VQ ?_
  skip;exact q
 .refine VI ?_;exact(by by_cases e:i=j<;>simp[e]:(i != j)=decide (i≠j))▸q
 .exact VK q
 .exact VL q
 .exact VN q
 .exact VO q
theorem OU(I:Inv Z m G u ls R s.heap){x y:aA}{ka kb:Nat}{b:Bool}(hx:dX G (.ref x) (.ref ka))(hy:dX G (.ref y) (.ref kb))(h:Gq u[ka]? u[kb]?=some b):
  ∃WG TI l m,s.heap.IsList x WG/\s.heap.IsList y TI/\qO WG.toList l/\qO TI.toList m/\decide (l=m)=b:=by
 refine d5 λGG Y=>?_
 refine cP (aT.mp h) λxs=>cJ λh1 h=>?_
 refine cP (aT.mp h) λys=>cJ λh2 h=>?_
 refine cP (aT.mp h) λl=>cJ λh3 h=>?_
 refine cP (aT.mp h) λm'=>cJ λh4 h=>?_
 refine cP (I.CT hx h1) λWG=>jc λL1 r1 _=>?_
 refine cP (I.CT hy h2) λTI=>jc λL2 r2 _=>?_
 refine Y ?_;exact⟨WG,TI,l,m',L1,L2,intsAre_of r1 h3,intsAre_of r2 h4,aD h⟩
theorem L5(I:Inv Z m G u ls R s.heap){X:V}{a:aA}{k:Nat}{b:Bool}(hy:dX G (.ref a) (.ref k))(h:zE X u[k]?=some b):
  ∃i wE l,X=.int i/\(IsTup s.heap a wE\/s.heap.IsList a wE)/\qO wE.toList l/\l.contains i=b:=by
 refine d5 λGG Y=>?_
 refine cP (aT.mp h) λvs=>cJ λhv h=>?_
 cases X<;>first | exact cj h | skip
 refine cP (dG.mp h) λl=>cJ λhl h=>?_
 refine cP (I.UP hy hv) λwE=>cJ λkt r=>?_
 refine Y ?_;exact⟨_,wE,l,rfl,kt,intsAre_of r hl,h⟩
theorem OD{G:List aA}{x:Value}{X:V}(h:dX G x X):(x==.none)=decide (X=.none):=by
 have hok:=h.ok
 cases X<;>first | exact gT hok | skip
 .cases x<;>first | exact h.elim | rfl
 .cases x<;>first | exact h.elim | rfl
 .exact hZ x h λJ=>rfl
 .exact s9 x h λJ J J J=>rfl
 .exact k6 x h λJ J=>rfl
set_option tactic.hygienic true in
theorem xE(I:Inv Z m G u ls R s.heap){op:nE}{x y:Value}{X nw:V}{b:Bool}{Q:Value->aL->Prop}(hx:dX G x X)(hy:dX G y nw)(h:j8 op X nw u=some b)
  (hu:A.units+64<cLine) (q:Q (.bool b) s):bT (bO P.prog P.w) A (Nq op.py x y) Q im s:=by
 cases nw<;>first | exact cj h | skip
 ·
  have hok:=hx.ok
  have e:=OD hx
  cases y<;>first | exact hy.elim | skip
  cases op<;>first | exact cj h | skip
  .have h:(if X.cD then some (decide (X=.none))else none)=some b:=h
   rw[aF hok]at h;exact is_none (by rw[e,aD h];exact q)
  .have h:(if X.cD then some (!decide (X=.none))else none)=some b:=h
   rw[aF hok]at h;exact isNot_none (by rw[e,aD h];exact q)
 ·
  rename_i j;refine cP (aT.mp h) λi=>cJ λh1 h=>?_
  simp only[iD h1]at hx;exact hZ x hx λt=>hZ y hy λcr=>Gw h q
 ·
  rename_i b';have h:(if op=.eq then X.EV.map λa=>decide (a=b')else none)=some b:=h;by_cases ho:op=.eq
  .rw[aF ho]at h;refine cP (dG.mp h) λa=>cJ λh1 h=>?_
   simp only[Dl h1]at hx;rw[ho];refine s9 x hx λax J e1 J=>s9 y hy λay J e2 J=>eq_bytes ?_
   have e:(ax.toList==ay.toList)=b:=by
    simp only[<-h,<-e1,<-e2];by_cases e:ax.toList=ay.toList
    .rw[e,bp rfl];exact beq_self_eq_true _
    .refine(beq_eq_false_iff_ne.mpr e).trans ?_;simp only[bP λz=>e ((NB (λJ J h=>UInt8.toNat_inj.mp h)).mp z)]
   exact e▸q
  .rw[aZ ho]at h;exact cj h
 ·
  rename_i k;have eq_:∀ {b':Bool},(X.rD.bind λa=>Gq u[a]? u[k]?)=some b'->∃WG TI l m a1 a2,x=.ref a1/\y=.ref a2/\s.heap.IsList a1 WG/\s.heap.IsList a2 TI/\qO WG.toList l/\qO TI.toList m/\decide (l=m)=b':=λh=>by
   refine cP (aT.mp h) λka=>cJ λh1 h=>?_
   simp only[kz h1]at hx;refine k6 x hx λa1 hx=>k6 y hy λa2 hy=>?_
   refine Kv (OU I hx hy h) λWG TI l m' z=>?_
   exact⟨WG,TI,l,m',a1,a2,rfl,rfl,z⟩
  have in_:∀ {b':Bool},zE X u[k]?=some b'->∃i t a wE l,x=.int i t/\y=.ref a/\(IsTup s.heap a wE\/s.heap.IsList a wE)/\qO wE.toList l/\l.any (· == i)=b':=λh=>by
   refine k6 y hy λa hy=>?_
   refine nG (L5 I hy h) λi wE l=>mT λe kt hi hb=>?_
   simp only[e]at hx;exact hZ x hx λt=>⟨i,t,a,wE,l,rfl,rfl,kt,hi,(rC l i).trans hb⟩
  cases op<;>first | exact cj h | skip
  .refine d5 λGG Y=>?_
   refine Ux (eq_ h) λWG TI l m' a1 a2=>Tb λob6 ob7 L1 L2 i1 i2 ob12=>?_;subst ob6;subst ob7;subst ob12
   refine Y ?_;exact ke_eq_ints L1 L2 i1 i2 hu q
  .refine cP (dG.mp h) λb'=>cJ λh' zn=>?_;subst zn
   refine Ux (eq_ h') λWG TI l m' a1 a2=>Tb λob6 ob7 L1 L2 i1 i2 ob12=>?_;subst ob6;subst ob7;subst ob12
   exact ke_ne_ints L1 L2 i1 i2 hu q
  .refine SY (in_ h) λi t a wE l=>Qj λob5 ob6 kt hi ob9=>?_;subst ob5;subst ob6;subst ob9
   exact kt.elim (λkt=>in_tuple_ints kt hi q) λkt=>in_list_ints kt hi (by first | exact q | (rw[rC]at q;exact q))
  .refine cP (dG.mp h) λb'=>cJ λh' zn=>?_;subst zn
   refine SY (in_ h') λi t a wE l=>Qj λob5 ob6 kt hi ob9=>?_;subst ob5;subst ob6;subst ob9
   exact kt.elim (λkt=>notin_tuple_ints kt hi q) λkt=>notin_list_ints kt hi (by first | exact q | (rw[rC]at q;exact q))
end
section
variable{P:PF}{Z:jC}{bad:aA}{m:c8->Option Value}{G:List aA}{u:St}{ls:List (List (aA×di))}{R:List (aA×di)}{A:cS}{im:Value->aL->Prop}{s:aL}{mk:Nat}
theorem Inv.He{h h':eJ}(I:Inv Z m G u ls R h){FO:List (aA×di)}(hb:∀h' X,DN Z.base Z.L h' (X++FO)->∀p∈Z.fr,h'.Ns p.1 p.2){a:aA}{o:di}{O:O}(F':Fr Z.base Z.L h' m)
  (N':DN Z.base Z.L h' ((a,o)::((ls.flatten++R)++FO))) (Ww:h.get? a=none) (Pc:jF Z.dB Z.base (G++[a]) a O [(a,o)]):Inv Z m (G++[a]) (u++[O]) (ls++[[(a,o)]]) R h':=by
 refine I.push (w4 ls [(a,o)] R) F' (zk N' λp hp=>?_) (eT.mpr ⟨AE,DJ⟩) (λp hp=>by exact(bM.mp hp)▸(I.fresh Ww)) (I.rel.push Pc) (hb h' _ (zk N' λp hp=>.tail _ hp));exact(aO.mp hp).elim (λe=>e▸.head _) λhp=>.tail _ (bY _ hp)
theorem kC(h:eJ):h.get? h.objs.size=none:=vn (cH _)
theorem yH(G:List aA)(u:St)(la:G.length=u.length)(a:aA):dX (G++[a]) (.ref a) (.ref u.length):=by
 show(G++[a])[u.length]?=some a
 rw[<-la];simp
theorem vf{h':eJ}{a:aA}{o:di}{O:O}{tk:Nat}(TT:mk<=u.length)(la:G.length=u.length)(I':Inv Z m (G++[a]) (u++[O]) (ls++[[(a,o)]]) R h'):
  QE Z m R mk d6 s G u (Mine.Internal.alloc O u) (.ref a) { s with heap:=h',toks:=tk }:=
 ⟨.ref u.length,u++[O],G++[a],_,h',tk,rfl,rfl,cT _ _,dF.push TT O,I',d6.of (yH G u la a)⟩
theorem FP{x:Value}{v:V}{tk:Nat}(I:Inv Z m G u ls R s.heap)(r:dX G x v):QE Z m R mk d6 s G u (.ok v u) x { s with toks:=tk }:=
 ⟨v,u,G,ls,s.heap,tk,rfl,rfl,bD _,dF.refl _ _,I,d6.of r⟩
theorem Ht{x:Value}{v:V}{h':eJ}{tk:Nat}(I:Inv Z m G u ls R h')(r:dX G x v):QE Z m R mk d6 s G u (.ok v u) x { s with heap:=h',toks:=tk }:=
 ⟨v,u,G,ls,h',tk,rfl,rfl,bD _,dF.refl _ _,I,d6.of r⟩
theorem foldl_rep(x:Value):∀(n:Nat) (a:Array Value),(List.foldl (λx1 x2=>x1++x2) a (aw n #[x])).toList=a.toList++aw n x
 | 0,a=>by simp
 | n+1,a=>by simp only[wI,SR,foldl_rep x n,wI];simp
set_option tactic.hygienic true in
theorem PC{db:RE V->Prop}(I:Inv Z m G u ls R s.heap)(TT:mk<=u.length){op:Op}{x y:Value}{X nw:V}(hx:dX G x X)(hy:dX G y nw)(T:uC op X nw u≠.cn)
  (hG:∀r,bT (bO P.prog P.w) A (binaryOp op.py x y) (QE Z m R mk d6 s G u r) im s->db r):db (uC op X nw u):=by
 refine cP I.fo λFO=>jc λf8 hFO Ws=>?_
 cases X<;>first | exact absurd rfl T | skip
 ·
  rename_i a;refine qU T λb h1 T=>?_
  simp only[iD h1]at hy;cases hb:binI op a b with
  | none=>rw[hb]at T;exact absurd rfl T
  | some z=>exact hG _ (hZ x hx λt=>hZ y hy λcr=>G6 hb (FP I rfl))
 ·
  rename_i a;refine qU (o:=nw.EV) T λb h1 T=>CY T λhc J=>hG _ ?_
  simp only[Dl h1]at hy;have hl:=hc.2;simp only[oG]at hl;rw[hc.1];refine s9 x hx λax tx e1 l1=>s9 y hy λay ty e2 l2=>KBa.add_K rfl rfl (by simp only[Cp,Cp];lia) λt' k J=>FP I (by simp only[Kt,cb,e1,e2]:(ax++ay).toList.map UInt8.toNat=a++b)
 .rename_i k;cases nw<;>first | exact absurd rfl T | skip
  ·
   rename_i n;refine CY T λho T=>qU T λvs h1 T=>CY T λhc J=>hG _ ?_
   rw[ho];refine cP (List.length_eq_one_iff.mp hc.1) λv Go=>?_;subst Go
   refine k6 x hx λa hx=>hZ y hy λtk=>?_
   refine iJ (I.Lo hx h1) λwE c=>mT λhp hget r _=>?_
   obtain⟨wE⟩:=wE;refine mul_list I.fr f8 hget (by lia) (by lia) ?_ λh' F' N'=>?_
   .exact mu wE r λcr J=>(by lia:1*n.toNat<=2^24)
   .refine vf TT I.rel.la (I.He Ws F' N' (kC _) ⟨_,0,rfl,mu wE r λcr r0=>?_⟩);simp only[foldl_rep];exact(F2.replicate r0 _).imp λJ J h=>h.mono (cT _ _)
  ·
   rename_i k2;refine CY T λho T=>qU T λxs h1 T=>qU T λys h2 T=>CY T λhl J=>hG _ ?_
   rw[ho];refine k6 x hx λa hx=>k6 y hy λb hy=>?_
   refine d5 λGG Y=>?_
   refine cP (I.CT hx (yk h1)) λWG=>jc λL1 r1 l1=>?_
   refine cP (I.CT hy (yk h2)) λTI=>jc λL2 r2 l2=>?_
   refine Y ?_;exact add_arrays I.fr f8 L1 L2 (λh' F' N'=>vf TT I.rel.la (I.He Ws F' N' (kC _) ⟨_,0,rfl,ft.mono (F2.append r1 r2) (cT _ _)⟩)) (sizeOk (by lia))
theorem EZ(I:Inv Z m G u ls R s.heap)(TT:mk<=u.length){op:Op}{x y:Value}{X nw:V}(hx:dX G x X)(hy:dX G y nw)(T:uC op X nw u≠.cn):
  bT (bO P.prog P.w) A (binaryOp op.py x y) (QE Z m R mk d6 s G u (uC op X nw u)) im s:=PC I TT hx hy T λJ h=>h
end
section
variable{prog:pJ}{w:World}{A:cS}{im:Value->aL->Prop}{s:aL}
theorem JF{l b:aA}{wE TI:Array Value}{n n2:Nat}{Q:Value->aL->Prop}(hl:s.heap.get? l=some (listOf wE n))(hb:s.heap.get? b=some (listOf TI n2))
  (hsz:wE.size+TI.size<=16777216) (h:Q (.ref l) { s with heap:=s.heap.update l (xS λx=>x++TI),toks:=s.toks }) :
  bT (bO prog w) A (Np .Add (.ref l) (.ref b)) Q im s:=by
 have ha:s.TypeIs (.ref l) "list" := ⟨_,hl,rfl⟩
 have hb':s.TypeIs (.ref b) "list" := ⟨_,hb,rfl⟩
 have lk:typeLookup (.type "list") (dunderI "add")=pure (some (.builtin "list.__iadd__")):=PySem.F.slot_list_iadd.lookup
 have sq:isSeqSlot (some (.builtin "list.__iadd__"))=true:=by decide +kernel
 have hsi:=VD lk sq
 refine fR ?_;have hfi:fillsInplaceSlot (.type "list") "add" (Operator.Add==.Add)=pure false:=by
  show(typeLookup (.type "list") (dunderI "add") >>= λfi=>pure (fi.isSome&&!isSeqSlot fi))=pure false
  show(pure ((some (Value.builtin "list.__iadd__")).isSome&&!isSeqSlot (some (.builtin "list.__iadd__"))):Sem Bool)=pure false
  skip;rfl
 refine aG (NH ha (aG (tE hfi ?_)));refine aG (VT ha hb' PySem.noFill_list_add ?_);refine aG (tE hsi ?_);refine aG (wpAny_rule ?_);refine call_meets PySem.F.slot_list_iadd ha PySem.F.entry_list_iadd (PySem.F.args_list_iadd_2 _ _) (AutoSeq1.list___iadd___list_list_0 l wE n b TI n2 ?_ ?_ ?_) ⟨hl,hb,h⟩
 .simp only[Builtin.List.listTooLong,gK];lia
 .simp only[gK];lia
 .rw[gK];lia
def Dv(c:Array UInt8)(i:Nat)(v:Value):Prop:=∃y cr,c[i]?=some y/\v=.int (y.toNat:Int) cr
theorem C9{R:pB->aL->Prop}(hh:A.handled=none)(c:Array UInt8)(t:Tok)(dL:aA)(res:Value)(c₀:Nat)(hS:s.heap.get? dL=some { cls:=.type "list",data:=.seq #[] c₀ })
  (hR:∀h' tk Wq c',(∀b o,b≠dL->s.heap.get? b=some o->h'.get? b=some o)->h'.get? dL=some { cls:=.type "list",dict:=none,data:=.seq Wq c',slots := #[] } ->
   ItemsOf (Dv c) Wq c.size->R (.ok (.ret res)) { s with heap:=h',toks:=tk }) (hn:c.size<=uO) :
  bT (bO prog w) A.in1 (wJ (.ref dL) (.bytes c t) res)
   (λpZ s'=>match pZ with | .done f=>R (.ok f) s' | .again c'=>c'.quiet=true/\f6 (bO prog w) A c' R s') (λe s'=>R (.error e) s') s:=by
 have hSI:dL≠s.heap.objs.size:=uk (gR hS)
 have hSf:=λhm=>hSI (bM.mp hm)
 have hTy:∀s:aL,s.TypeIs (.bytes c t) "bytes" := λs=>PySem.W.typeIs_bytes s c t
 refine aG (NH (hTy _) ?_);have h1:Builtin.List.listSameRef (.ref dL) (.bytes c t)=false:=rfl;have h2:(Cq "bytes" == Cq "list")=false:=by decide
 have h3:(Cq "bytes" == Cq "tuple")=false:=by decide
 refine aG (Rn ?_);have W:=(KBw.walks (prog:=prog) (w:=w) (A:=A.in1) hh s.heap.objs.size c t).toS;have hst:SW (s.heap.push { cls:=.type "bytes_iterator",data:=.fields #[.bytes c t,.int 0 0] }) s.heap.objs.size c t 0:=⟨_,dD _ rfl,rfl,rfl⟩;refine aG (fR ?_);refine aG (wpAny_specialOf (hTy _) FB.slot_bytes_len.lookup ?_)
 wp_delta
 refine aG (wpAny_isInstance (b:=true) (hTy _) rfl ?_);refine aG (NH (hTy _) ?_);refine bS ?_;refine bS ⟨plainId_quiet PySem.F.plain_extend_loop _,codeAny_extend_loopS W hn _ hSf _ c.size 0 _ _ _ rfl (fe _) hst (bz _ hS) (ItemsOf.nil _) λs' Wq c' hm hS' hacc=>?_⟩;rw[Moved.eq_with hm];refine hR s'.heap s'.toks Wq c' (λb ob hb e=>hm.heap b ob (λhmem=>?_) (bz _ e)) hS' hacc;refine bN (aO.mp hmem) (λe'=>?_) λhmem=>?_
 .exact hb e'
 .exact absurd (gR e) ((bM.mp hmem)▸i6 _)
theorem xU{R:pB->aL->Prop}(hh:A.handled=none)(c:Array UInt8)(t:Tok)(dL:aA)(hS:s.heap.get? dL=some { cls:=.type "list",data:=.seq #[] })
  (hR:∀h' tk Wq c',(∀b o,b≠dL->s.heap.get? b=some o->h'.get? b=some o)->h'.get? dL=some { cls:=.type "list",dict:=none,data:=.seq Wq c',slots := #[] } ->
   ItemsOf (Dv c) Wq c.size->R (.ok (.ret .none)) { s with heap:=h',toks:=tk }) (hn:c.size<=uO) :
  bT (bO prog w) A.in1 (Builtin.«list.__init__» ⟨[.ref dL,.bytes c t],[]⟩)
   (λpZ s'=>match pZ with | .done f=>R (.ok f) s' | .again c'=>c'.quiet=true/\f6 (bO prog w) A c' R s') (λe s'=>R (.error e) s') s:=by
 show bT _ _ (do let DE <-Builtin.List.listItems (.ref dL);Builtin.List.listUpdate (.ref dL) (λJ => #[]);letGo DE.toList.reverse;wJ (.ref dL) (.bytes c t) .none) _ _ s
 refine aG ?_;refine aG (wpAny_seqItems hS rfl (bS ?_));refine aG (wpAny_updateSeq hS rfl ?_);have hS₂:=iy (xS (λJ=>(#[]))) hS rfl;have oth:∀b o,b≠dL->s.heap.get? b=some o->(s.heap.update dL (xS (λJ=>(#[])))).get? b=some o:=
  λb o hb e=>(tG _ _ (Ne.symm hb)).trans e
 refine aG (wpAny_letGo ?_);refine C9 hh c t dL .none _ hS₂ (λh' tk Wq c' hk hS' hacc=>?_) hn;exact hR h' tk Wq c' (λb o hb e=>hk b o hb (oth b o hb e)) hS' hacc
theorem Gp{Q:Value->aL->Prop}(hh:A.handled=none)(c:Array UInt8)(t:Tok)
  (hQ:∀h' tk Wq c',(∀b o,s.heap.get? b=some o->h'.get? b=some o) ->
   h'.get? s.heap.objs.size=some (listOf Wq c')->ItemsOf (Dv c) Wq c.size->Q (.ref s.heap.objs.size) { s with heap:=h',toks:=tk }) (hn:c.size<=uO) :
  bT (bO prog w) A (call (.type "list") [.bytes c t]) Q im s:=by
 refine callType_codes (Q₁:=λobj Os=>obj=.ref s.heap.objs.size/\Os={ s with heap:=s.heap.push { cls:=.type "list",data:=.seq #[] } }) PySem.F.called_list (PySem.F.typeCall_list_1 _) PySem.F.entry_list_init
  (code_list_new _ ⟨rfl,rfl⟩) λobj Os WH=>?_
 refine cJ (λWv Go=>?_) WH;clear WH;subst Wv;subst Go;have hS:(s.heap.push { cls:=.type "list",data:=.seq #[] }).get? s.heap.objs.size=some { cls:=.type "list",data:=.seq #[] }:=dD _ rfl;refine⟨⟨_,hS,rfl⟩,PySem.F.args_list_init_2 _ _,xU (A:=A.in1) hh c t _ hS (λh' tk Wq c' hk hS' hacc=>?_) hn⟩;exact⟨rfl,hQ h' tk Wq c' (λb o e=>hk b o (uk (gR e)) (bz _ e)) hS' hacc⟩
end
noncomputable def Bi.val:Bi->Value
 | .len=>.builtin "len" | .Iq=>.builtin "abs" | .Gj=>.builtin "max" | .sum=>.builtin "sum"
 | .bytes=>.type "bytes" | .list=>.type "list" | .range=>.type "range"
noncomputable def Lm.id:Lm->String
 | .append=> "list.append" | .Qw=> "list.pop" | .reverse=> "list.reverse" | .index=> "list.index"
noncomputable def Lm.str:Lm->String
 | .append=> "append" | .Qw=> "pop" | .reverse=> "reverse" | .index=> "index"
theorem Se{G:List aA}{x:Value}{i:Int}(h:dX G x (.int i)):∃t,x=.int i t:=by
 cases x<;>first | exact h.elim | skip
 obtain rfl:_=i:=h;exact⟨_,rfl⟩
theorem sF{G:List aA}{x:Value}{k:Nat}(h:dX G x (.ref k)):∃a,x=.ref a/\G[k]?=some a:=by
 cases x<;>first | exact h.elim | skip
 exact⟨_,rfl,h⟩
theorem Sy{G:List aA}{x:Value}{l:List Nat}(h:dX G x (.bytes l)):∃c t,x=.bytes c t/\c.toList.map UInt8.toNat=l:=by
 cases x<;>first | exact h.elim | skip
 exact⟨_,_,rfl,h⟩
theorem EA{xs:List Value}{ns:List Int}(h:qO xs ns):∃ps:List (Int×Tok),xs=ps.map (λp=>Value.int p.1 p.2)/\ps.map (·.1)=ns:=by
 induction h with
 | nil=>exact⟨[],rfl,rfl⟩
 | cons n t _ ih=>
  refine cP ih λps=>cJ λa b=>?_
  exact⟨(n,t)::ps,by rw[a];rfl,by simp only[<-b];rfl⟩
set_option tactic.hygienic true in
theorem Ox{vs:List V}{l:List Nat}(h:qV vs=some l):∃ns:List Int,jf vs=some ns/\(∀n∈ns,0<=n/\n<256)/\ns.map (λn=>n.toNat.toUInt8.toNat)=l:=by
 induction vs generalizing l with
 | nil=>obtain rfl:=aD h;exact⟨[],rfl,(λJ h=>nomatch h),rfl⟩
 | cons v r ih=>
  cases v<;>first | exact cj h | skip
  rename_i i;refine d5 λGG Y=>?_
  have h:(if 0<=i/\i<256 then(qV r).map (i.toNat::·)else none)=some l:=h
  by_cases hi:0<=i/\i<256
  .rw[aF hi]at h;refine cP (dG.mp h) λl'=>cJ λh' zn=>?_;subst zn
   refine cP (ih h') λns=>jc λa b c=>?_
   refine Y ?_;refine⟨i::ns,(by rw[a];rfl:(jf r).map (i::·)=_),λn hn=>(aO.mp hn).elim (λe=>e▸hi) (b n),?_⟩;simp only[cN,c,show i.toNat.toUInt8.toNat=i.toNat from eI (by lia)]
  .rw[aZ hi]at h;cases h
theorem Dk(G:List aA)(c:Array UInt8):∀(n:Nat) (vs:List Value),vs.length=n->(∀j v,vs[j]?=some v->Dv c j v)->n<=c.size->ft G vs (((c.toList.take n).map UInt8.toNat).map λn:Nat=>V.int n):=by
 intro n;induction n with
 | zero=>intro vs h _ _;obtain rfl:=lR.mp h;exact .nil
 | succ n ih=>
  intro vs h hv hn;obtain⟨ws,v,rfl⟩:∃ws v,vs=ws++[v]:=⟨vs.dropLast,vs.getLast (by intro e;subst e;cases h),(List.dropLast_concat_getLast _).symm⟩;have hw:ws.length=n:=by simpa using h
  have r:=ih ws hw (λj v hj=>hv j v ((ci ((aJ.mp hj).1)).trans hj)) (dZ (by assumption))
  refine iJ (hv n v (by rw[<-hw];simp)) λy cr=>cJ λhy ob3=>?_;subst ob3
  simp only[List.take_add_one,show c.toList[n]?=some y from by refine fZ.trans ?_;exact hy];simp only[cb,cN,tX];exact F2.append r (.cons rfl .nil)
section
variable{P:PF}{Z:jC}{bad:aA}{m:c8->Option Value}{G:List aA}{u:St}{ls:List (List (aA×di))}{R:List (aA×di)}{A:cS}{im:Value->aL->Prop}{s:aL}{mk:Nat}
theorem Oa{x:Value}{v:V}{k:Nat}{o o':O}{AT:List (List (aA×di))}{h':eJ}{tk:Nat}(ho:u[k]?=some o)(hm:k<mk->∀j,V.ref j∈o'.vals->V.ref j∈o.vals)(I':Inv Z m G (u.set k o') AT R h')
  (r:dX G x v):QE Z m R mk d6 s G u (.ok v (u.set k o')) x { s with heap:=h',toks:=tk }:=
 ⟨v,u.set k o',G,AT,h',tk,rfl,rfl,bD _,dF.set ho hm,I',d6.of r⟩
set_option tactic.hygienic true in
theorem Un{db:RE V->Prop}(I:Inv Z m G u ls R s.heap){op:Op}{x y:Value}{X nw:V}(hx:dX G x X)(hy:dX G y nw)(T:ng mk op X nw u≠.cn)
  (hG:∀r,bT (bO P.prog P.w) A (Np op.py x y) (QE Z m R mk d6 s G u r) im s->db r):db (ng mk op X nw u):=by
 cases X<;>first | exact absurd rfl T | skip
 .rename_i a;refine qU T λb h1 T=>?_
  simp only[iD h1]at hy;cases hb:binI op a b with
  | none=>rw[hb]at T;exact absurd rfl T
  | some z=>exact hG _ (hZ x hx λt=>hZ y hy λcr=>Gu hb (FP I rfl))
 .rename_i ka;refine qU T λkb h1 T=>CY T λho T=>qU T λxs h1' T=>qU T λys h2 T=>CY T λhc J=>hG _ ?_
  subst ho;simp only[kz h1]at hy;refine k6 x hx λa hx=>k6 y hy λb hy=>?_
  refine d5 λGG Y=>?_
  refine iJ (I.Lo hx h1') λWG n1=>mT λhp1 hg1 r1 l1=>?_
  refine iJ (I.Lo hy h2) λTI n2=>mT λ_ hg2 r2 l2=>?_
  have hl:=hc.1
  simp only[oG]at hl;refine Y ?_;refine JF hg1 hg2 (by lia) (Oa (Br h1') (λhk j hj=>?_) (I.vA hx hp1 (mS ..) (IsL.update hg1 λx=>x++TI) (by rw[Kt];exact F2.append r1 r2)) hx);exact(dk.mp hj).elim id λe=>(sO (cM.mp hc.2.2 _ e) hk).elim
theorem ti(I:Inv Z m G u ls R s.heap){op:Op}{x y:Value}{X nw:V}(hx:dX G x X)(hy:dX G y nw)(T:ng mk op X nw u≠.cn):
  bT (bO P.prog P.w) A (Np op.py x y) (QE Z m R mk d6 s G u (ng mk op X nw u)) im s:=Un I hx hy T λJ h=>h
theorem FQ{op:QV}{x:Value}{X v:V}{Q:Value->aL->Prop}(hx:dX G x X)(h:IS op X=some v)(q:∀cr tk,dX G cr v->Q cr { s with toks:=tk }):
  bT (bO P.prog P.w) A (unaryOp op.py x) Q im s:=by
 refine d5 λGG Y=>?_
 cases op with
 | pD=>
  cases X<;>first | exact cj h | skip
  obtain rfl:=aD h;refine Y ?_;exact hZ x hx λt=>VH (q _ _ rfl)
 | OZ=>
  cases X<;>first | exact cj h | skip
  obtain rfl:=aD h;refine Y ?_;exact hZ x hx λt=>VM (q _ _ rfl)
 | not=>
  obtain⟨b,hb,rfl⟩:=dG.mp h;refine Y ?_;exact VG (nP hx hb (q _ s.toks rfl))
theorem Ka{c:Int}(h : -1000000<=c)(h':c<=1000000):c.natAbs<1073741824:=by omega
theorem yU{xs:List Value}{vs:List V}{r:Int×Int×Int}{Q:Value->aL->Prop}(hx:ft G xs vs)(h:RK vs=some r)(hr:Bj r.1 r.2.1 r.2.2=true)
  (q:∀t cr v tk,Q (.ref s.heap.objs.size) { s with heap:=s.heap.push (yV r.1 r.2.1 r.2.2 t cr v),toks:=tk }):bT (bO P.prog P.w) A (call (.type "range") xs) Q im s:=by
 refine d5 λGG Y=>?_
 rcases vs with _ | ⟨x,_ | ⟨y,_ | ⟨z,_ | ⟨w,r⟩⟩⟩⟩<;>first | exact cj h | skip
 .refine cP (dG.mp h) λb=>cJ λh1 zn=>?_;subst zn
  rw[iD h1]at hx;refine Y ?_;exact mu xs hx λx h0=>hZ x h0 λt=>call_range_1 (q _ _ _ _)
 .refine cP (aT.mp h) λa=>cJ λh1 h=>?_
  refine cP (dG.mp h) λb=>cJ λh2 zn=>?_;subst zn
  simp only[iD h1,iD h2]at hx;refine Y ?_;exact GJ xs hx λx y h0 h1=>hZ x h0 λt=>hZ y h1 λcr=>call_range_2 (q _ _ _ _)
 .refine cP (aT.mp h) λa=>cJ λh1 h=>?_
  refine cP (aT.mp h) λb=>cJ λh2 h=>?_
  refine cP (dG.mp h) λc=>cJ λh3 zn=>?_;subst zn
  simp only[iD h1,iD h2,iD h3]at hx;have hr:=bc hr;refine Y ?_;exact Mo xs hx λx y z h0 h1 h2=>hZ x h0 λt=>hZ y h1 λcr=>hZ z h2 λv=>call_range_3 hr.1 (q _ _ _ _) (.inl (sf (Ka hr.2.2.2.2.2.1 hr.2.2.2.2.2.2)))
theorem U8{db:RE V->Prop}(I:Inv Z m G u ls R s.heap)(hh:A.handled=none)(TT:mk<=u.length){b:Bi}{xs:List Value}{vs:List V}(hx:ft G xs vs)(T:builtin b vs u≠.cn)
  (hG:∀r,bT (bO P.prog P.w) A (call b.val xs) (QE Z m R mk d6 s G u r) im s->db r):db (builtin b vs u):=by
 have xT:∀ {x},zc vs=some x->ft G xs [x]:=λh=>CQ h▸hx
 cases b
 ·
  refine qU T λv hv T=>?_
  have hx:=xT hv
  cases v<;>first | exact absurd rfl T | skip
  .rename_i l;refine CY T λhl J=>hG _ (mu xs hx λx h0=>s9 x h0 λc t e l1=>?_)
   simp only[oG]at hl;exact len_bytes (by lia) (FP I (aM A9 l1))
  .rename_i k;refine qU T λus h2 T=>CY T λhl J=>hG _ (mu xs hx λx h0=>k6 x h0 λa h0=>?_)
   refine cP (I.CT h0 h2) λwE=>jc λL r l1=>?_
   simp only[oG]at hl;exact call_len_list L (by lia) (FP I (aM A9 l1))
 ·
  refine qU T λv hv T=>qU T λi h1 J=>hG _ ?_
  have hx:=xT hv
  rw[iD h1]at hx;exact mu xs hx λx h0=>hZ x h0 λt=>call_abs_int λcr tk=>FP I (by split<;>lia:(if i<0 then -i else i)=i.natAbs)
 ·
  refine qU T λp h0 T=>qU T λi h1 T=>qU T λj h2 J=>hG _ ?_
  have hx:ft G xs [.int i,.int j]:=by simp only[<-iD h1,<-iD h2,<-two?_is h0];exact hx
  refine GJ xs hx λx y h0 h1=>hZ x h0 λt=>hZ y h1 λcr=>max_two_ints hh λh' tk hk=>Ht (I.grow hk) ?_
  by_cases q:i<j
  .rw[aF q,aF q];exact rfl
  .rw[aZ q,aZ q];exact rfl
 ·
  refine qU T λv hv T=>qU T λk h1 T=>qU T λus h2 T=>qU T λl h3 J=>hG _ ?_
  have hx:=xT hv
  rw[kz h1]at hx;refine mu xs hx λx h0=>k6 x h0 λa h0=>?_
  refine d5 λGG Y=>?_
  refine cP (I.CT h0 (yk h2)) λwE=>jc λL r _=>?_
  refine cP (EA (intsAre_of r h3)) λps=>cJ λe1 e2=>?_
  have e3:wE=intItems ps.toArray:=Array.toList_inj.mp (by refine e1.trans ?_;simp[intItems])
  subst e3;refine Y ?_;refine sum_intListG hh L λh' tk t' hk=>Ht (I.grow hk) ?_
  show preSum _ _=l.sum
  rw[preSum_eq,br (by simp),<-e2]
 ·
  refine qU T λv hv T=>qU T λk h1 T=>qU T λus h2 T=>CY T λhl T=>qU T λl h3 J=>hG _ ?_
  have hx:=xT hv
  rw[kz h1]at hx;refine mu xs hx λx h0=>k6 x h0 λa h0=>?_
  refine d5 λGG Y=>?_
  refine cP (I.CT h0 (yk h2)) λwE=>jc λL r l1=>?_
  refine cP (Ox h3) λns=>jc λe1 e2 e3=>?_
  simp only[oG]at hl;refine Y ?_;refine call_bytes_ints L (intsAre_of r e1) e2 (by simp only[gq,gK];lia) hh λh' t tk hk=>Ht (I.grow hk) ?_
  show(byteArr ns).toList.map UInt8.toNat=l
  simp only[<-e3];simp[byteArr]
 ·
  refine qU T λv hv T=>qU T λl h1 T=>CY T λhl J=>hG _ ?_
  have hx:=xT hv
  rw[Dl h1]at hx;refine mu xs hx λx h0=>s9 x h0 λc t e l1=>?_
  simp only[oG]at hl;refine Gp hh c t (λh' tk Wq c' hk hn hacc=>vf TT I.rel.la (I.alloc hk hn (kC _) ⟨_,_,rfl,?_⟩)) (by simp only[gK];lia);have:=Dk (G++[s.heap.objs.size]) c c.size Wq.toList (by simpa using hacc.1) (λj v hj=>hacc.2 j v (by simpa using hj)) (cH _);rw[br (by simp),e]at this;exact this
 ·
  refine qU T λv hv T=>CY T λhr J=>hG _ ?_
  exact yU hx hv hr λt cr w tk=>vf TT I.rel.la (I.alloc (λJ J e=>bz _ e) (dD _ rfl) (kC _) ⟨t,cr,w,rfl⟩)
theorem A1(I:Inv Z m G u ls R s.heap)(hh:A.handled=none)(TT:mk<=u.length){b:Bi}{xs:List Value}{vs:List V}(hx:ft G xs vs)(T:builtin b vs u≠.cn):
  bT (bO P.prog P.w) A (call b.val xs) (QE Z m R mk d6 s G u (builtin b vs u)) im s:=U8 I hh TT hx T λJ h=>h
theorem UQ{s':aL}{h':eJ}{r:aA}{a b c:Int}{t cr v:Tok}{tk:Nat}(S:s'={ s with heap:=h',toks:=tk })(I:Inv Z m G u ls R h')(h:h'.get? r=some (yV a b c t cr v)):
  QE Z m R mk d6 s G u (.ok (.gV a b c) u) (.ref r) s':=
 ⟨_,u,G,ls,h',tk,rfl,S,bD _,dF.refl _ _,I,⟨r,t,cr,v,rfl,h⟩⟩
theorem AQ(I:Inv Z m G u ls R s.heap){xs:List Value}{vs:List V}(hx:ft G xs vs){v:V}(h:mG vs=some v):
  bT (bO P.prog P.w) A (call (.type "range") xs) (QE Z m R mk d6 s G u (.ok v u)) im s:=by
 refine d5 λGG Y=>?_
 refine cP (aT.mp h) λr=>cJ λh1 h=>?_
 by_cases hr:Bj r.1 r.2.1 r.2.2=true
 .rw[aF hr]at h;refine Y ?_;exact(aD h)▸(yU hx h1 hr λt cr w tk=>UQ rfl (I.grow λJ J e=>bz _ e) (dD _ rfl))
 .rw[aZ hr]at h;exact cj h
end
theorem F2.FW{α β:Type}{P:α->β->Prop}{b:β}{l:List α}{m:List β}(h:F2 P l (m++[b])):∃p a,l=p++[a]/\F2 P p m/\P a b:=by
 induction m generalizing l with
 | nil=>exact mu l h λx h=>⟨[],x,rfl,.nil,h⟩
 | cons c m ih=>
  cases h with | cons x r=>
  refine d5 λGG Y=>?_
  refine iJ (ih r) λp a=>jc λe h k=>?_
  refine Y ?_;exact⟨_::p,a,by rw[e];rfl,.cons x h,k⟩
theorem ET{α:Type}(l:List α)(i j:Nat):(l.drop (min i l.length)).take (min j l.length-min i l.length)=cut l i j:=by
 unfold cut;simp only[List.drop_take];refine bN (Vg i l.length) (λhi=>?_) λhi=>?_
 .rw[fL hi];refine bN (Vg j l.length) (λhj=>?_) λhj=>?_
  .rw[fL hj]
  .rw[SO hj,br (by simp),br (by simp;lia)]
 .rw[SO hi,List.drop_of_length_le hi];simp
set_option tactic.hygienic true in
theorem zZ{G:List aA}{d:Nat}{x:Value}{X:V}{i:Nat}(hx:dX G x X)(h:bound d X=some i):∃o:Option Int,IsPart x o/\∀n:Nat,o.elim (min d n) (clipAt n)=min i n:=by
 cases X<;>first | exact cj h | skip
 .injection h with h;subst h
  cases x<;>first | exact hx.elim | skip
  exact⟨none,.none,λn=>rfl⟩
 .rename_i k;have h:(if 0<=k then some k.toNat else none)=some i:=h
  split at h
  .rename_i hk;obtain rfl:=aD h;refine cP (Se hx) λt Go=>?_;subst Go
   refine⟨some k,.int k t,λn=>?_⟩;show clipAt n k=min k.toNat n;rw[<-clipAt_nat,fj hk]
  .exact cj h
section
variable{P:PF}{Z:jC}{bad:aA}{m:c8->Option Value}{G:List aA}{u:St}{ls:List (List (aA×di))}{R:List (aA×di)}{A:cS}{im:Value->aL->Prop}{s:aL}{mk:Nat}
theorem UZ{db:RE V->Prop}(I:Inv Z m G u ls R s.heap){X:V}{a:aA}{mm:Lm}{xs:List Value}{vs:List V}(hx:dX G (.ref a) X)(hxs:ft G xs vs)(T:iC mk X mm vs u≠.cn)
  (hG:∀r,bT (bO P.prog P.w) A (call (.builtin mm.id) (.ref a::xs)) (QE Z m R mk d6 s G u r) im s->db r):db (iC mk X mm vs u):=by
 refine qU T λk h0 T=>qU T λus h1 T=>CY T λhlt T=>?_
 simp only[kz h0]at hx;have ho:=Br h1;have hxa:=hx;simp only[oG]at hlt;refine iJ (I.Lo hx h1) λwE n=>mT λhp hg r l1=>?_
 have hsz:wE.size<=uO:=by simp only[gK];omega
 cases mm
 ·
  refine qU T λv h3 T=>CY T λhm J=>hG _ ?_
  rw[CQ h3]at hxs;refine mu xs hxs λx h0=>append_at hg (λh' S WD=>Oa ho (λhk j hj=>?_) (I.vA hxa hp S WD (by rw[NG];exact F2.append r (.cons h0 .nil))) trivial) (by simp only[gK];omega)
  exact(dk.mp hj).elim id λe=>(sO (bM.mp e▸hm) hk).elim
 ·
  refine CY T λh3 T=>qU T λv hv J=>hG _ ?_
  rw[h3]at hxs;refine Mp xs hxs ?_;refine d5 λGG Y=>?_
  obtain⟨ws,rfl⟩:∃ws,us=ws++[v]:=List.getLast?_eq_some_iff.mp hv;refine iJ (F2.FW r) λp q=>jc λe1 r1 r2=>?_
  refine cP I.fo λFO=>jc λf8 hFO Ws=>?_
  refine Y ?_;refine kl_pop I.fr f8 (e1▸kpa_last q p) (I.upd hFO (p1:=[]) hp _) (gq▸hsz) λh' F' N'=>?_
  exact Ks▸(Oa ho (λhk j hj=>bY _ hj) (I.Qn Ws hxa hp F' N' ⟨p.toArray,n+1,rfl,r1⟩) r2)
 ·
  refine CY T λh3 J=>hG _ ?_
  simp only[h3]at hxs;refine Mp xs hxs (call_meets PySem.F.slot_list_reverse ⟨_,hg,rfl⟩ PySem.F.entry_list_reverse (PySem.F.args_list_reverse_1 _) (AutoSeq1.list_reverse_list_0 a wE n hsz) ⟨hg,?_⟩);refine Oa ho (λhk j hj=>so.mp hj) (I.vA hxa hp (mS ..) (IsL.update hg λx=>x.reverse) ?_) trivial;rw[Array.toList_reverse];exact F2.reverse r
 ·
  refine qU T λv h3 T=>qU T λi h4 T=>qU T λl hl T=>CY T λhc J=>hG _ ?_
  rw[CQ h3,iD h4]at hxs;refine mu xs hxs λx h0=>hZ x h0 λt=>?_
  have hi:=intsAre_of r hl
  have hlen:=gq▸hi.length
  have hj:=List.idxOf_lt_length_iff.mpr (cg.mp hc)
  have at_:∀j (h:j<wE.size),isInt i wE[j]=(l[j]'(hlen▸h)==i):=λj h=>by
   have:=isInt_at i hi j (gq▸h) (hlen▸h)
   exact this
  refine call_meets PySem.F.slot_list_index ⟨_,hg,rfl⟩ PySem.F.entry_list_index (PySem.F.args_list_index_2 _ _)
   (PySem.SeqAt.list_indexAt a wE n none #[] (.int i t) (isInt i) (l.idxOf i) (hlen▸hj) (by lia) ((at_ _ _).trans (beq_iff_eq.mpr (ND hj))) λj hjs hlt'=>(at_ j hjs).trans (ne_of_lt_idxOf hlt' _))
   ⟨hg,λy hy=>(eq_isInt i t hi y (Array.mem_toList_iff.mpr hy)).at _ _,FP I rfl⟩
theorem zt(I:Inv Z m G u ls R s.heap){X:V}{a:aA}{mm:Lm}{xs:List Value}{vs:List V}(hx:dX G (.ref a) X)(hxs:ft G xs vs)(T:iC mk X mm vs u≠.cn):
  bT (bO P.prog P.w) A (call (.builtin mm.id) (.ref a::xs)) (QE Z m R mk d6 s G u (iC mk X mm vs u)) im s:=UZ I hx hxs T λJ h=>h
theorem Fd(d:Array UInt8):Rp d=(d.toList.map UInt8.toNat).map λn:Nat=>(n:Int):=by
 simp[Rp,dY,Function.comp_def]
theorem HE{G:List aA}{l cr:Value}{lo hi:V}{i j n:Nat}(hl:dX G l lo)(hu:dX G cr hi)(h1:bound 0 lo=some i)(h2:bound n hi=some j):∃o1 o2:Option Int,IsPart l o1/\IsPart cr o2/\o1.elim 0 (clipAt n)=min i n/\o2.elim n (clipAt n)=min j n:=by
 refine d5 λGG Y=>?_
 refine cP (zZ hl h1) λo1=>cJ λp1 c1=>?_
 refine cP (zZ hu h2) λo2=>cJ λp2 c2=>?_
 have c1:=c1 n
 have c2:=c2 n
 rw[Nat.min_self]at c2;refine Y ?_;exact⟨o1,o2,p1,p2,c1,c2⟩
set_option tactic.hygienic true in
theorem N6{db:RE V->Prop}(I:Inv Z m G u ls R s.heap)(TT:mk<=u.length){id:c8}{np sp:jy}{x1 x2:Option Expr}{x l cr:Value}{X lo hi:V}(hx:dX G x X)(hl:dX G l lo)(hu:dX G cr hi)(T:ji X lo hi u≠.cn)
  (hG:∀r,bT (bO P.prog P.w) A (Ax (.Name id np) (.Slice x1 x2 none sp) x (.ref s.heap.objs.size)) (QE Z m R mk d6 s G u r) im { s with heap:=s.heap.push { cls:=.type "slice",data:=.fields #[l,cr,.none] } }->db r):db (ji X lo hi u):=by
 refine cP I.fo λFO=>jc λf8 hFO Ws=>?_
 cases X<;>first | exact absurd rfl T | skip
 .rename_i b;refine qU T λi hlo T=>CY T λhlt T=>qU T λj hhi J=>hG _ (s9 x hx λc t e l1=>?_)
  simp only[oG]at hlt;refine iJ (HE hl hu hlo hhi) λo1 o2=>mT λp1 p2 c1 c2=>?_
  have hn:=(Cp c).trans l1
  refine KBc.slice_K I.fr f8 rfl p1 p2 (by rw[hn];lia) (λh' t' tk F' N' hb=>?_) rfl (λJ=>rfl);refine Ht ⟨F',λp hp=>N' p (bY _ hp),I.nodup,I.rel,Ws h' _ N',I.apart⟩ ?_;rw[hn,c1,c2]at hb;have h3:=ET (Rp c) i j;rw[hn]at h3;rw[h3,Fd,Fd,e,cut,<-xr,<-FG]at hb;exact(NB (λJ J h=>f5.mp h)).mp hb
 .rename_i k;refine qU T λi hlo T=>qU T λvs ho T=>CY T λhlt T=>qU T λj hhi J=>hG _ (k6 x hx λa hx=>?_)
  simp only[oG]at hlt;refine d5 λGG Y=>?_
  refine cP (I.CT hx ho) λwE=>jc λL r l1=>?_
  rw[<-l1]at hlt hhi;refine iJ (HE hl hu hlo hhi) λo1 o2=>mT λp1 p2 c1 c2=>?_
  refine Y ?_;refine slice_list I.fr f8 L p1 p2 (λh' F' N'=>?_) rfl (λJ=>rfl) (by simp only[gK];lia);refine vf TT I.rel.la (I.He Ws F' N' (vn (i4 _)) ⟨_,0,rfl,?_⟩);simp only[slicePick_plain,c1,c2];have:=ET wE.toList i j;exact ft.mono (this▸(r.take j).drop i) (cT _ _)
theorem DX(I:Inv Z m G u ls R s.heap)(TT:mk<=u.length){id:c8}{np sp:jy}{x1 x2:Option Expr}{x l cr:Value}{X lo hi:V}(hx:dX G x X)(hl:dX G l lo)(hu:dX G cr hi)(T:ji X lo hi u≠.cn):
  bT (bO P.prog P.w) A (Ax (.Name id np) (.Slice x1 x2 none sp) x (.ref s.heap.objs.size)) (QE Z m R mk d6 s G u (ji X lo hi u)) im { s with heap:=s.heap.push { cls:=.type "slice",data:=.fields #[l,cr,.none] } }:=
 N6 I TT hx hl hu T λJ h=>h
end
structure Fv where
 names:List c8
 Ql:List Bool
 scope:eK
 calm:Bool
noncomputable def Fv.slot(F:Fv)(i:Nat):Option c8:=match F.Ql[i]? with
 | some true=>F.names[i]?
 | _=>none
theorem slot_of{F:Fv}{i:Nat}{x:c8}(h:F.slot i=some x):F.Ql[i]?=some true/\F.names[i]?=some x:=by
 have h:(match F.Ql[i]? with
  | some true=>F.names[i]?
  | _=>none)=some x:=h
 cases e:F.Ql[i]? with
 | none=>rw[e]at h;exact cj h
 | some b=>
  rw[e]at h;cases b
  .exact cj h
  .exact⟨rfl,h⟩
def Cb(G:List aA)(x:Option Value):V->Prop
 | .av=>x=none
 | v=>∃cr,x=some cr/\dX G cr v
theorem Cb.val{G:List aA}{x:Option Value}{v:V}(h:Cb G x v)(hv:v≠.av):∃cr,x=some cr/\dX G cr v:=by
 cases v<;>first | exact absurd rfl hv | exact h
theorem Cb.of{G:List aA}{cr:Value}{v:V}(h:dX G cr v):Cb G (some cr) v:=by
 cases v<;>first | exact⟨cr,rfl,h⟩ | (cases cr<;>exact h.elim)
theorem Cb.mono{G bs:List aA}{x:Option Value}{v:V}(h:Cb G x v)(le:G <+: bs):Cb bs x v:=by
 cases v<;>first | exact h | (refine cP h λcr=>cJ λe r=>?_;exact⟨cr,e,r.mono le⟩)
structure gB(F:Fv)(M:ja)(m:c8->Option Value)(R:List (aA×di))(G:List aA)(E:List V):Prop where
 len:E.length=F.names.length
 loc:∀(i:Nat) (id:c8) (v:V),F.slot i=some id->F.scope.names.lookup id=some .local->E[i]?=some v->Cb G (m id) v
 Ko:∀(i:Nat) (id:c8) (v:V),F.slot i=some id->(F.scope.names.lookup id=some .cell\/F.scope.names.lookup id=some .free)->E[i]?=some v ->
  ∃c o x,M.cells.lookup id=some c/\(c,o)∈R/\o.data=.cell x/\Cb G x v
theorem gB.mono{F:Fv}{M:ja}{m:c8->Option Value}{R:List (aA×di)}{G bs:List aA}{E:List V}(h:gB F M m R G E)(le:G <+: bs):gB F M m R bs E:=
 ⟨h.len,λi id v a b c=>(h.loc i id v a b c).mono le,λi id v a b c=>nG (h.Ko i id v a b c) λc' o x=>mT λh1 h2 h3 h4=>⟨c',o,x,h1,h2,h3,h4.mono le⟩⟩
structure rU(F:Fv)(M:ja)(L:aA):Prop where
 scope:M.scope=F.scope
 kind:F.scope.kind=.function
 locals:M.locals=L
 globals:M.globals=d7
 builtins:M.builtins=iI
 inj:∀x y c,M.cells.lookup x=some c->M.cells.lookup y=some c->x=y
 apart:∀i j id,F.slot i=some id->F.slot j=some id->i=j
structure Kf(Z:jC)(calm:Bool)(A:cS)(n:Nat):Prop where
 handled:calm=true->A.handled=none
 depth:A.depth+2*n+9<r7
 units:A.units+8*n+200<cLine
 frames:∃l,A.frames=some l/\∀e∈l,e.scope.kind≠.module/\∃L,e.frame=some L/\L∈Z.L::Z.fr.map (·.1)
noncomputable def Bi.str:Bi->c8
 | .len=> "len" | .Iq=> "abs" | .Gj=> "max" | .sum=> "sum" | .bytes=> "bytes" | .list=> "list" | .range=> "range"
structure xK(P:PF):Prop where
 fn:∀f,(Fn.str f==Fn.qual f)=true->P.mg (Fn.str f)=some (.ref (P.Kn f))
 cls:∀c,P.mg (pG.str c)=some (.ref (P.dB c))
 bi:∀b,P.mg (Bi.str b)=none/\P.mb (Bi.str b)=some b.val
 QB:∀f,AN P.K (.ref (P.Kn f))=true
 T1:∀c,AN P.K (.ref (P.dB c))=true
def o8(P:PF)(G:List aA):Prop:=∀g,∃x,P.mg (Gl.str g)=some x/\dX G x (HZ g)
theorem o8.mono{P:PF}{G bs:List aA}(h:o8 P G)(le:G <+: bs):o8 P bs:=λg=>let⟨x,a,b⟩:=h g;⟨x,a,b.mono le⟩
structure xM(P:PF)(Z:jC)(F:Fv)(M:ja)(m:c8->Option Value)(R:List (aA×di))(A:cS)(n:Nat)(G:List aA)(E:List V):Prop where
 base:Dw P Z.base
 dB:Z.dB=P.dB
 gl:xK P
 HY:o8 P G
 fF:rU F M Z.L
 loc:gB F M m R G E
 xJ:Kf Z F.calm A n
theorem xM.mono{P:PF}{Z:jC}{F:Fv}{M:ja}{m:c8->Option Value}{R:List (aA×di)}{A:cS}{n:Nat}{G bs:List aA}{E:List V}(h:xM P Z F M m R A n G E)(le:G <+: bs):xM P Z F M m R A n bs E:=
 ⟨h.base,h.dB,h.gl,h.HY.mono le,h.fF,h.loc.mono le,h.xJ⟩
def rI(P:PF)(Z:jC)(m:c8->Option Value)(R:List (aA×di))(A:cS)(mk:Nat){α β:Type}(VR:eJ->List aA->β->α->Prop)(t:Sem β)(G:List aA)(u:St)(r:RE α)(s:aL):Prop:=
 bT (bO P.prog P.w) A t (QE Z m R mk VR s G u r) (EE Z P.bad m R mk s G u r) s
def ec(P:PF)(C:Cx)(n:Nat)(F:Fv)(e:Expr)(me:ME):Prop:=
 ∀(Z:jC) (m:c8->Option Value) (R:List (aA×di)) (A:cS) (M:ja) (G:List aA) (u:St) (ls:List (List (aA×di))) (E:List V) (s:aL),
  xM P Z F M m R A n G E->Inv Z m G u ls R s.heap->C.mark<=u.length->ev C me E u≠.cn->rI P Z m R A C.mark d6 (ou e M) G u (ev C me E u) s
def PV(_:eJ)(_:List aA)(x:Bool)(b:Bool):Prop:=x=b
def qh(P:PF)(C:Cx)(n:Nat)(F:Fv)(e:Expr)(mb:MB):Prop:=
 ∀(Z:jC) (m:c8->Option Value) (R:List (aA×di)) (A:cS) (M:ja) (G:List aA) (u:St) (ls:List (List (aA×di))) (E:List V) (s:aL),
  xM P Z F M m R A n G E->Inv Z m G u ls R s.heap->C.mark<=u.length->nA C mb E u≠.cn->rI P Z m R A C.mark PV (AM e M (ou e M)) G u (nA C mb E u) s
theorem Mw(C:Cx)(i:Nat)(v:V)(E:List V)(u:St):store C (.ah i) v E u=if i<E.length/\v.cD then .ok .next (E.set i v) u else .cn:=rfl
section
variable{P:PF}{Z:jC}{C:Cx}{n:Nat}{F:Fv}{m:c8->Option Value}{R:List (aA×di)}{A:cS}{M:ja}{G:List aA}{u:St}{ls:List (List (aA×di))}{E:List V}{s:aL}
theorem K6{mk:Nat}{x:Value}{v:V}{s':aL}{h':eJ}{tk:Nat}(S:s'={ s with heap:=h',toks:=tk })(I:Inv Z m G u ls R h')(r:dX G x v):QE Z m R mk d6 s G u (.ok v u) x s':=
 ⟨v,u,G,ls,h',tk,rfl,S,bD _,dF.refl _ _,I,d6.of r⟩
theorem MK{i:Int}{k:Nat}{pos:jy}:ec P C n F (.Constant (.int i) k pos) (.ai i):=
 λJ J J J J J J J J J J I J J=>wpAny_Constant_int (K6 rfl I rfl)
theorem JX{b:Bool}{k:Nat}{pos:jy}:ec P C n F (.Constant (.bool b) k pos) (.nf b):=
 λJ J J J J J J J J J J I J J=>by
  exact bS (K6 rfl I rfl)
theorem JQ{k:Nat}{pos:jy}:ec P C n F (.Constant .none k pos) .lW:=
 λJ J J J J J J J J J J I J J=>by
  exact bS (K6 rfl I trivial)
theorem HN(X:xM P Z F M m R A n G E)(I:Inv Z m G u ls R s.heap){i:Nat}{id:c8}{v:V}(S:F.slot i=some id)(hk:F.scope.names.lookup id=some .local\/F.scope.names.lookup id=some .cell\/F.scope.names.lookup id=some .free)
  (hc:(id==("__classdict__" : c8))=false) (hv:E[i]?=some v) (T:v≠.av) {Q:Value->aL->Prop} {im:Value->aL->Prop} (q:∀cr,dX G cr v->Q cr s):bT (bO P.prog P.w) A (loadName M id) Q im s:=by
 refine d5 λGG Y=>?_
 have hkind:M.scope.kind=.function:=by exact X.fF.scope▸X.fF.kind
 rcases hk with hk | hk | hk
 .refine cP ((X.loc.loc i id v S hk hv).val T) λcr=>cJ λhu r=>?_
  refine Y ?_;exact Rb hkind (by simp only[fW,X.fF.scope];exact hk) (X.fF.locals▸I.fr.ns) hu (q cr r)
 .obtain⟨c,o,x,h1,h2,h3,h4⟩:=X.loc.Ko i id v S (.inl hk) hv;obtain⟨cr,rfl,r⟩:=h4.val T;refine Y ?_;exact wpAny_loadName_cell hkind (by simp only[fW,X.fF.scope];exact hk) h1 ⟨o,(I.news _ (bX _ h2)).1,h3⟩ (q cr r)
 .obtain⟨c,o,x,h1,h2,h3,h4⟩:=X.loc.Ko i id v S (.inr hk) hv;obtain⟨cr,rfl,r⟩:=h4.val T;refine Y ?_;exact wpAny_loadName_free hkind (by simp only[fW,X.fF.scope];exact hk) h1 ⟨o,(I.news _ (bX _ h2)).1,h3⟩ (q cr r) hc
noncomputable def CR(F:Fv)(i:Nat)(id:c8):Bool:=F.slot i==some id&&(F.scope.names.lookup id==some .local||F.scope.names.lookup id==some .cell||F.scope.names.lookup id==some .free)&&!(id==("__classdict__" : c8))&&!(id==("__debug__" : c8))
theorem Bu{i:Nat}{id:c8}(h:CR F i id=true):F.slot i=some id/\(F.scope.names.lookup id=some .local\/F.scope.names.lookup id=some .cell\/F.scope.names.lookup id=some .free)/\(id==("__classdict__" : c8))=false/\(id==("__debug__" : c8))=false:=by
 simp only[CR,aH,cF,fX,beq_iff_eq,or_assoc]at h;exact⟨h.1.1.1,h.1.1.2,h.1.2,h.2⟩
theorem Ms{C:Cx}{i:Nat}{E:List V}{u:St}(h:ev C (.ah i) E u≠.cn):∃v,E[i]?=some v/\v≠.av/\ev C (.ah i) E u=.ok v u:=by
 cases hv:E[i]? with
 | none=>exact absurd (by rw[hv]:(match E[i]? with | some .av=>RE.cn | some v=>.ok v u | none=>.cn)=_) h
 | some v=>
  have e:ev C (.ah i) E u=match(some v)with | some .av=>RE.cn | some v=>.ok v u | none=>.cn:=by rw[<-hv];rfl
  refine⟨v,rfl,λq=>h (by refine e.trans ?_;rw[q]),?_⟩;cases v<;>first | exact e | exact absurd e h
theorem NT{i:Nat}{id:c8}{pos:jy}(h:CR F i id=true):ec P C n F (.Name id pos) (.ah i):=by
 intro Z m R A M G u ls E s X I _ T;refine d5 λGG Y=>?_
 refine mT (λh1 h2 h3 h4=>?_) (Bu h);refine cP (Ms T) λv=>jc λhv hu e=>?_
 refine Y ?_;exact e▸(wpAny_Name (HN X I h1 h2 h3 hv hu λcr r=>K6 rfl I r) h4)
noncomputable def oD(F:Fv)(id:c8):Bool:=F.scope.names.lookup id==some .globalImplicit&&!(id==("__debug__" : c8))
theorem sQ(X:xM P Z F M m R A n G E)(I:Inv Z m G u ls R s.heap){id:c8}{pos:jy}{x:Value}(h:oD F id=true)(hx:P.mg id=some x){Q:Value->aL->Prop}{im:Value->aL->Prop}(q:Q x s):bT (bO P.prog P.w) A (ou (.Name id pos) M) Q im s:=by
 simp only[oD,aH,fX,beq_iff_eq]at h;refine pX (by rw[X.fF.scope];exact X.fF.kind) (by simp only[fW,X.fF.scope];exact h.1) (loadGlobal_global ?_ hx q) h.2;exact X.fF.globals▸(X.base.g.keeps I.fr.keep)
theorem LJ(X:xM P Z F M m R A n G E)(I:Inv Z m G u ls R s.heap){b:Bi}{pos:jy}(h:oD F (Bi.str b)=true){Q:Value->aL->Prop}{im:Value->aL->Prop}(q:Q b.val s):bT (bO P.prog P.w) A (ou (.Name (Bi.str b) pos) M) Q im s:=by
 simp only[oD,aH,fX,beq_iff_eq]at h;refine pX (by rw[X.fF.scope];exact X.fF.kind) (by simp only[fW,X.fF.scope];exact h.1) (loadGlobal_builtin ?_ (X.gl.bi b).1 ?_ (X.gl.bi b).2 q) h.2
 .rw[X.fF.globals];exact X.base.g.keeps I.fr.keep
 .rw[X.fF.builtins];exact X.base.b.keeps I.fr.keep
theorem Mb{g:Gl}{pos:jy}(h:oD F (Gl.str g)=true):ec P C n F (.Name (Gl.str g) pos) (.cW g):=by
 intro Z m R A M G u ls E s X I _ T;refine cP (X.HY g) λx=>cJ λhx r=>?_
 exact sQ X I h hx (K6 rfl I r)
end
def gn(s s1:aL):Prop:=∃h tk,s1={ s with heap:=h,toks:=tk }
theorem gn.refl(s:aL):gn s s:=⟨_,_,rfl⟩
theorem gn.trans{s s1 s2:aL}(a:gn s s1)(b:gn s1 s2):gn s s2:=by
 refine iJ a λh tk zn=>?_;clear a;subst zn
 refine iJ b λh' tk' zn=>?_;clear b;subst zn
 exact⟨h',tk',rfl⟩
section
variable{P:PF}{Z:jC}{m:c8->Option Value}{R:List (aA×di)}{A:cS}{mk:Nat}{G zs:List aA}{u po:St}{s s1:aL}{α β γ:Type}
theorem step{VR:eJ->List aA->β->α->Prop}{t:Sem β}{r:RE α}{k:α->St->RE γ}{r0:RE γ}{db:β->aL->Prop}
  (S:gn s s1) (le:G <+: zs) (mo:dF mk u po) (e0:r0=r.bind k) (T:r0≠.cn) (h1:r≠.cn->rI P Z m R A mk VR t zs po r s1)
  (h2:∀b a rs xz Fa s2,gn s s2->r0=k a rs->G <+: xz->dF mk u rs->zs <+: xz->dF mk po rs->Inv Z m xz rs Fa R s2.heap->VR s2.heap xz b a->db b s2) :
  bT (bO P.prog P.w) A t db (EE Z P.bad m R mk s G u r0) s1:=by
 refine iJ S λh0 tk0 zn=>?_;clear S;subst zn
 refine cq (h1 λe=>T (by refine e0.trans ?_;rw[e];rfl)) (λb s' q=>?_) λJ J q=>q.bind.back e0 le mo
 obtain⟨a,rs,xz,Fa,h2',tk2,e1,e2,l2,m2,I2,v⟩:=q;subst e2;exact h2 b a rs xz Fa _ ⟨_,_,rfl⟩ (by refine e0.trans ?_;rw[e1];rfl) (le.trans l2) (mo.trans m2) l2 m2 I2 v
theorem jd{VR:eJ->List aA->β->α->Prop}{t:Sem β}{r:RE α}{k:α->St->RE γ}{r0:RE γ}{db:β->aL->Prop}(e0:r0=r.bind k)(T:r0≠.cn)(h1:r≠.cn->rI P Z m R A mk VR t G u r s)
  (h2:∀b a rs xz Fa s2,gn s s2->r0=k a rs->G <+: xz->dF mk u rs->Inv Z m xz rs Fa R s2.heap->VR s2.heap xz b a->db b s2):bT (bO P.prog P.w) A t db (EE Z P.bad m R mk s G u r0) s:=
 step (gn.refl s) (bD _) (dF.refl _ _) e0 T h1 λb a rs xz Fa s2 n e l o J J=>h2 b a rs xz Fa s2 n e l o
theorem pZ{VR:eJ->List aA->β->α->Prop}{t:Sem β}{r0:RE α}(S:gn s s1)(le:G <+: zs)(mo:dF mk u po)(h:rI P Z m R A mk VR t zs po r0 s1):
  bT (bO P.prog P.w) A t (QE Z m R mk VR s G u r0) (EE Z P.bad m R mk s G u r0) s1:=by
 refine iJ S λh0 tk0 zn=>?_;clear S;subst zn
 exact cq h (λJ J q=>q.back rfl le mo) λJ J q=>q.back rfl le mo
theorem Sq{VR:eJ->List aA->β->α->Prop}{b:β}{s2:aL}{r0:RE α}(S:gn s s1)(le:G <+: zs)(mo:dF mk u po)(q:QE Z m R mk VR s1 zs po r0 b s2):QE Z m R mk VR s G u r0 b s2:=by
 refine iJ S λh0 tk0 zn=>?_;clear S;subst zn
 exact q.back rfl le mo
theorem Bt{Ix:List (List (aA×di))}{VR:eJ->List aA->β->α->Prop}{b:β}{a:α}{s2:aL}(S:gn s s2)(le:G <+: zs)(mo:dF mk u po)(I:Inv Z m zs po Ix R s2.heap)(v:VR s2.heap zs b a):
  QE Z m R mk VR s G u (.ok a po) b s2:=by
 refine iJ S λh0 tk0 zn=>?_;clear S;subst zn
 exact⟨a,po,zs,Ix,h0,tk0,rfl,rfl,le,mo,I,v⟩
end
theorem d6.or{h:eJ}{G:List aA}{x:Value}{v:V}(H:d6 h G x v):dX G x v\/∃a b c,v=.gV a b c:=by
 cases v<;>first | exact .inl H | exact .inr ⟨_,_,_,rfl⟩
theorem G0{op:Op}{a b c:Int}{y:V}{u:St}:uC op (.gV a b c) y u=.cn:=rfl
theorem GZ{op:Op}{a b c:Int}{x:V}{u:St}:uC op x (.gV a b c) u=.cn:=by cases x<;>rfl
theorem KN{op:QV}{a b c:Int}:IS op (.gV a b c)=none:=by cases op<;>rfl
theorem zV{op:nE}{x y:V}{u:St}(h:y.cD=false):j8 op x y u=none:=by
 cases y<;>first | exact gT h.symm | rfl
theorem zW{op:nE}{x y:V}{u:St}(h:x.cD=false):j8 op x y u=none:=by
 have h1:x.pE=none:=by cases x<;>first | rfl | exact gT h.symm
 have h2:x.EV=none:=by cases x<;>first | rfl | exact gT h.symm
 have h3:x.rD=none:=by cases x<;>first | rfl | exact gT h.symm
 have h4:∀o,zE x o=none:=λo=>by
  have:∀vs,isIn x vs=none:=λvs=>by cases x<;>first | rfl | exact gT h.symm
  unfold zE;cases o.bind O.seq? with
  | none=>rfl
  | some vs=>exact this vs
 cases y with
 | int j=>show x.pE.bind _=none;rw[h1];rfl
 | bytes l=>
  show(if op=.eq then x.EV.map _ else none)=none
  rw[h2];split<;>rfl
 | none=>cases op<;>first | rfl | (show(if x.cD then _ else none)=none;rw[h];rfl)
 | ref k=>
  cases op with
  | eq=>show x.rD.bind _=none;rw[h3];rfl
  | ne=>show(x.rD.bind _).map _=none;rw[h3];rfl
  | Gv=>exact h4 _
  | Km=>show(zE x u[k]?).map _=none;rw[h4];rfl
  | _=>rfl
 | _=>rfl
section
variable{P:PF}{C:Cx}{n:Nat}{F:Fv}
theorem PD{e1 e2:Expr}{a b:ME}{op:Op}{pos:jy}(ha:ec P C n F e1 a)(hb:ec P C n F e2 b):ec P C n F (.BinOp e1 op.py e2 pos) (.aQ op a b):=by
 intro Z m R A M G u ls E s X I hm T;have e:ev C (.aQ op a b) E u=(ev C a E u).bind λx u=>(ev C b E u).bind λy u=>uC op x y u:=rfl
 refine wpAny_BinOp (jd e T (ha _ _ _ _ _ _ _ _ _ _ X I hm) λx a' po zs Ix s1 n1 e1 wP wS I1 r1=>?_);refine step n1 wP wS e1 T (hb _ _ _ _ _ _ _ _ _ _ (X.mono wP) I1 (ae hm wS.1)) λy b' rs xz Fa s2 n2 e2 nz GT Re J I2 r2=>?_
 rw[e2]at T ⊢;refine d5 λGG Y=>?_
 refine bN r1.or (λr1=>?_) λOn=>?_
 .rcases r2.or with r2 | ⟨_,_,_,rfl⟩
  .refine Y ?_;exact pZ n2 nz GT (EZ I2 (ae hm GT.1) (r1.mono Re) r2 T)
  .exact absurd GZ T
 .obtain⟨_,_,_,rfl⟩:=On;exact absurd G0 T
theorem RG{e1:Expr}{a:ME}{op:QV}{pos:jy}(ha:ec P C n F e1 a):ec P C n F (.UnaryOp op.py e1 pos) (.un op a):=by
 intro Z m R A M G u ls E s X I hm T;have e:ev C (.un op a) E u=(ev C a E u).bind λx u=>jS id u (IS op x):=rfl
 refine wpAny_UnaryOp (jd e T (ha _ _ _ _ _ _ _ _ _ _ X I hm) λx a' po zs Ix s1 n1 e1 wP wS I1 r1=>?_);rw[e1]at T ⊢;refine d5 λGG Y=>?_
 refine bN r1.or (λr1=>?_) λOn=>?_
 .refine Y ?_;cases hu:IS op a' with
  | none=>rw[hu]at T;exact absurd rfl T
  | some v=>exact FQ r1 hu λcr tk r=>Bt (n1.trans ⟨_,tk,rfl⟩) wP wS I1 (d6.of r)
 .refine nG On λ_ _ _ ob3=>?_;clear On;subst ob3;rw[KN]at T;exact absurd rfl T
theorem ite_snd{e0 e1 e2:Expr}{c:MB}{a b:ME}{pos:jy}(hc:qh P C n F e0 c)(ha:ec P C n F e1 a)(hb:ec P C n F e2 b):ec P C n F (.IfExp e0 e1 e2 pos) (.ite c a b):=by
 intro Z m R A M G u ls E s X I hm T;have e:ev C (.ite c a b) E u=(nA C c E u).bind λt u=>if t then ev C a E u else ev C b E u:=rfl
 refine wpAny_IfExp (jd e T (hc _ _ _ _ _ _ _ _ _ _ X I hm) λx t po zs Ix s1 n1 e1 wP wS I1 r1=>?_);obtain rfl:x=t:=r1;rw[e1]at T ⊢;cases x with
 | true=>exact pZ n1 wP wS (ha _ _ _ _ _ _ _ _ _ _ (X.mono wP) I1 (ae hm wS.1) T)
 | false=>exact pZ n1 wP wS (hb _ _ _ _ _ _ _ _ _ _ (X.mono wP) I1 (ae hm wS.1) T)
noncomputable def oi(e:Expr):Bool:=e.ctorIdx != 16
theorem nK{e:Expr}{x:c8}{M:ja}{t:Sem Value}(h:oi e=true):attributeBase e x M t=t:=by
 cases e<;>first | rfl | exact gT h
theorem zM{GM:Expr}{aS:c8}{pos:jy}{M:ja}(h:oi GM=true):ou (.Attribute GM aS pos) M=(do
   let o <-ou GM M
   vq pos.atName
   let r <-Hn [o] (PySem.getAttr o aS true)
   letTemporaryGo GM o r
   pure r):=by
 have:ou (.Attribute GM aS pos) M=(do
   let o <-attributeBase GM aS M (ou GM M)
   vq pos.atName
   let r <-Hn [o] (PySem.getAttr o aS true)
   letTemporaryGo GM o r
   pure r):=by with_unfolding_all rfl
 simp only[this,nK h]
theorem M2{e1:Expr}{a:ME}{f:eM}{pos:jy}(hp:oi e1=true)(ha:ec P C n F e1 a):ec P C n F (.Attribute e1 f.str pos) (.aS a f):=by
 intro Z m R A M G u ls E s X I hm T;have e:ev C (.aS a f) E u=(ev C a E u).bind λx u=>jS id u (getAttr x f u):=rfl
 refine Attribute_any_ (jd e T (ha _ _ _ _ _ _ _ _ _ _ X I hm) λx a' po zs Ix s1 n1 e1 wP wS I1 r1=>?_) (zM hp);rw[e1]at T ⊢;refine d5 λGG Y=>?_
 refine bN r1.or (λr1=>?_) λOn=>?_
 .refine Y ?_;cases hu:getAttr a' f po with
  | none=>rw[hu]at T;exact absurd rfl T
  | some v=>exact ux X.base X.dB I1 r1 hu λcr r=>Bt (n1.trans ⟨_,_,rfl⟩) wP wS I1 (d6.of r)
 .refine nG On λ_ _ _ ob3=>?_;clear On;subst ob3;exact absurd rfl T
theorem N3{e1 e2:Expr}{a b:ME}{pos:jy}(ha:ec P C n F e1 a)(hb:ec P C n F e2 b):ec P C n F (.Subscript e1 e2 pos) (.sub a b):=by
 intro Z m R A M G u ls E s X I hm T;have e:ev C (.sub a b) E u=(ev C a E u).bind λx u=>(ev C b E u).bind λy u=>jS id u (getItem x y u):=rfl
 refine Subscript_ (jd e T (ha _ _ _ _ _ _ _ _ _ _ X I hm) λx a' po zs Ix s1 n1 e1 wP wS I1 r1=>?_);refine step n1 wP wS e1 T (hb _ _ _ _ _ _ _ _ _ _ (X.mono wP) I1 (ae hm wS.1)) λy b' rs xz Fa s2 n2 e2 nz GT Re J I2 r2=>?_
 rw[e2]at T ⊢;refine d5 λGG Y=>?_
 refine bN r1.or (λr1=>?_) λOn=>?_
 .rcases r2.or with r2 | ⟨_,_,_,rfl⟩
  .refine Y ?_;cases hu:getItem a' b' rs with
   | none=>rw[hu]at T;exact absurd rfl T
   | some v=>exact(uv I2 (r1.mono Re) r2 hu λcr r=>Bt n2 nz GT I2 (d6.of r)).2
  .cases a'<;>exact absurd rfl T
 .obtain⟨_,_,_,rfl⟩:=On;exact absurd rfl T
end
noncomputable def noStar(es:List Expr):Bool:=es.all λe=>e.ctorIdx != 22
theorem mF{e:Expr}{r:List Expr}{M:ja}(h:noStar (e::r)=true):jg (e::r) M=(false,ou e M)::jg r M/\noStar r=true:=by
 have h:=(aH _ _).mp h
 refine⟨?_,h.2⟩;cases e<;>first | rfl | exact gT h.1
theorem rq{pos:jy}{M:ja}:∀ {es:List Expr},noStar es=true->(tZ pos (jg es M)).any (·.1)=false
 | [],_=>rfl
 | e::r,h=>by
  refine cJ (λh1 h2=>?_) (mF (M:=M) h)
  rw[h1]
  show(false||(tZ pos (jg r M)).any (·.1))=false
  exact(rq h2)
def Wl(k:Nat)(_:eJ)(G:List aA)(xs:List Value)(vs:List V):Prop:=ft G xs vs/\xs.length=k
def Ut(_:eJ)(_:List aA)(x:Value)(b:Bool):Prop:=x=.bool b
section
variable{P:PF}{C:Cx}{n:Nat}{F:Fv}
set_option tactic.hygienic true in
theorem Am{pos:jy}{es:List Expr}{Da:List ME}(H:F2 (ec P C n F) es Da):noStar es=true->∀(Z:jC) (m:c8->Option Value) (R:List (aA×di)) (A:cS) (M:ja) (G:List aA) (u:St) (ls:List (List (aA×di))) (E:List V) (s:aL),
  xM P Z F M m R A n G E->Inv Z m G u ls R s.heap->C.mark<=u.length->q9 C Da E u≠.cn->rI P Z m R A C.mark (Wl es.length) (spliced (tZ pos (jg es M))) G u (q9 C Da E u) s:=by
 induction H with
 | nil=>
  intro _ Z m R A M G u ls E s X I hm T;exact FH (Bt (gn.refl s) (bD _) (dF.refl _ _) I ⟨.nil,rfl⟩)
 | cons h _ ih=>
  rename_i e me es Da _;intro S Z m R A M G u ls E s X I hm T;refine cJ (λh1 h2=>?_) (mF (M:=M) S);have e:q9 C (me::Da) E u=(ev C me E u).bind λv u=>if v.cD then(q9 C Da E u).bind λvs u=>.ok (v::vs) u else .cn:=rfl
  refine pq (jd e T (h _ _ _ _ _ _ _ _ _ _ X I hm) λx v po zs Ix s1 n1 e1 wP wS I1 r1=>?_) h1;by_cases hv:v.cD=true
  .rw[aF hv]at e1;refine step n1 wP wS e1 T (ih h2 _ _ _ _ _ _ _ _ _ _ (X.mono wP) I1 (ae hm wS.1)) λxs vs rs xz Fa s2 n2 e2 nz GT Re J I2 r2=>?_
   exact e2▸(Bt n2 nz GT I2 ⟨.cons ((r1.val hv).mono Re) r2.1,by simp only[dh,dh,r2.2]⟩)
  .rw[aZ hv]at e1;exact absurd e1 T
theorem LK{es:List Expr}{Da:List ME}{pos:jy}(S:noStar es=true)(hl:es.length<=4096)(H:F2 (ec P C n F) es Da):ec P C n F (.List es pos) (.list Da):=by
 intro Z m R A M G u ls E s X I hm T;have e:ev C (.list Da) E u=(q9 C Da E u).bind λvs u=>alloc (.list vs) u:=rfl
 refine wpAny_List (jd e T (Am H S _ _ _ _ _ _ _ _ _ _ X I hm) λxs vs po zs Ix s1 n1 e1 wP wS I1 r1=>?_);simp only[e1];refine⟨by simp only[r1.2,gK];lia,Sq n1 wP wS (vf (ae hm wS.1) I1.rel.la (I1.alloc (λJ J e=>bz _ e) (dD _ rfl) (kC _) ⟨_,_,rfl,?_⟩))⟩;exact r1.1.mono (cT _ _)
theorem NY{es:List Expr}{Da:List ME}{k:Nat}{pos:jy}(S:noStar es=true)(hl:es.length<=4096)(H:F2 (ec P C n F) es Da):ec P C n F (.Tuple es k pos) (.eY Da):=by
 intro Z m R A M G u ls E s X I hm T;have e:ev C (.eY Da) E u=(q9 C Da E u).bind λvs u=>alloc (.eY vs) u:=rfl
 refine wpAny_Tuple (jd e T (Am H S _ _ _ _ _ _ _ _ _ _ X I hm) λxs vs po zs Ix s1 n1 e1 wP wS I1 r1=>?_);simp only[e1];refine⟨by simp only[r1.2,gK];lia,Sq n1 wP wS (vf (ae hm wS.1) I1.rel.la (I1.alloc (λJ J e=>bz _ e) (dD _ rfl) (kC _) ⟨_,_,_,.inl rfl,rfl,rfl,?_⟩))⟩;exact r1.1.mono (cT _ _)
set_option tactic.hygienic true in
theorem PJ{pos:jy}{es:List Expr}{Da:List ME}(H:F2 (ec P C n F) es Da):∀(Z:jC) (m:c8->Option Value) (R:List (aA×di)) (A:cS) (M:ja) (G:List aA) (u:St) (ls:List (List (aA×di))) (E:List V) (s:aL),
  xM P Z F M m R A n G E->Inv Z m G u ls R s.heap->C.mark<=u.length->zN C Da E u≠.cn->rI P Z m R A C.mark d6 (ou (.BoolOp .And es pos) M) G u (zN C Da E u) s:=by
 induction H with
 | nil=>
  intro Z m R A M G u ls E s X I hm T;exact absurd rfl T
 | cons h r ih=>
  rename_i e me es Da;intro Z m R A M G u ls E s X I hm T;cases r with
  | nil=>
   exact BoolOp_one (h _ _ _ _ _ _ _ _ _ _ X I hm T)
  | cons h' r=>
   rename_i e' me' es Da;have e0:zN C (me::me'::Da) E u=(ev C me E u).bind λv u=>match truthy v with
     | some true=>zN C (me'::Da) E u
     | some false=>.ok v u
     | none=>.cn:=rfl
   refine BoolOp_and (jd e0 T (h _ _ _ _ _ _ _ _ _ _ X I hm) λx v po zs Ix s1 n1 e1 wP wS I1 r1=>?_);have hv:v.cD=true\/truthy v=none:=by cases v<;>first | exact .inl rfl | exact .inr rfl
   rcases hv with hv | hv
   .refine ny (truthy v) (λht=>?_) λb ht=>?_
    .rw[ht]at e1;exact absurd e1 T
    ·
     refine nP (r1.val hv) ht ?_;rw[ht]at e1;cases b with
     | true=>
      rw[e1]at T ⊢;exact pZ n1 wP wS (ih _ _ _ _ _ _ _ _ _ _ (X.mono wP) I1 (ae hm wS.1) T)
     | false=>rw[e1];exact Bt n1 wP wS I1 r1
   .rw[hv]at e1;exact absurd e1 T
set_option tactic.hygienic true in
theorem R1{pos:jy}{es:List Expr}{Da:List ME}(H:F2 (ec P C n F) es Da):∀(Z:jC) (m:c8->Option Value) (R:List (aA×di)) (A:cS) (M:ja) (G:List aA) (u:St) (ls:List (List (aA×di))) (E:List V) (s:aL),
  xM P Z F M m R A n G E->Inv Z m G u ls R s.heap->C.mark<=u.length->GL C Da E u≠.cn->rI P Z m R A C.mark d6 (ou (.BoolOp .Or es pos) M) G u (GL C Da E u) s:=by
 induction H with
 | nil=>
  intro Z m R A M G u ls E s X I hm T;exact absurd rfl T
 | cons h r ih=>
  rename_i e me es Da;intro Z m R A M G u ls E s X I hm T;cases r with
  | nil=>
   exact BoolOp_one (h _ _ _ _ _ _ _ _ _ _ X I hm T)
  | cons h' r=>
   rename_i e' me' es Da;have e0:GL C (me::me'::Da) E u=(ev C me E u).bind λv u=>match truthy v with
     | some true=>.ok v u
     | some false=>GL C (me'::Da) E u
     | none=>.cn:=rfl
   refine BoolOp_or (jd e0 T (h _ _ _ _ _ _ _ _ _ _ X I hm) λx v po zs Ix s1 n1 e1 wP wS I1 r1=>?_);have hv:v.cD=true\/truthy v=none:=by cases v<;>first | exact .inl rfl | exact .inr rfl
   rcases hv with hv | hv
   .refine ny (truthy v) (λht=>?_) λb ht=>?_
    .rw[ht]at e1;exact absurd e1 T
    ·
     refine nP (r1.val hv) ht ?_;rw[ht]at e1;cases b with
     | true=>rw[e1];exact Bt n1 wP wS I1 r1
     | false=>
      rw[e1]at T ⊢;exact pZ n1 wP wS (ih _ _ _ _ _ _ _ _ _ _ (X.mono wP) I1 (ae hm wS.1) T)
   .rw[hv]at e1;exact absurd e1 T
theorem MX{es:List Expr}{Da:List ME}{pos:jy}(H:F2 (ec P C n F) es Da):ec P C n F (.BoolOp .And es pos) (.nX Da):=by
 intro Z m R A M G u ls E s X I hm T;exact PJ H _ _ _ _ _ _ _ _ _ _ X I hm T
theorem PB{es:List Expr}{Da:List ME}{pos:jy}(H:F2 (ec P C n F) es Da):ec P C n F (.BoolOp .Or es pos) (.MQ Da):=by
 intro Z m R A M G u ls E s X I hm T;exact R1 H _ _ _ _ _ _ _ _ _ _ X I hm T
end
section
variable{P:PF}{C:Cx}{n:Nat}{F:Fv}
theorem JK{C:Cx}{x:V}{op:nE}{e:ME}{E:List V}{u:St}:ly C x [op] [e] E u=(ev C e E u).bind λy u=>jS id u (j8 op x y u):=rfl
theorem GN{C:Cx}{x:V}{op op':nE}{Db:List nE}{e e':ME}{es:List ME}{E:List V}{u:St}:ly C x (op::op'::Db) (e::e'::es) E u=(ev C e E u).bind λy u=>match j8 op x y u with
  | some true=>ly C y (op'::Db) (e'::es) E u
  | some false=>.ok false u
  | none=>.cn:=rfl
set_option tactic.hygienic true in
theorem BS{es:List Expr}{Da:List ME}(H:F2 (ec P C n F) es Da):∀(Db:List nE),Db.length=es.length->∀(pos:jy) (Z:jC) (m:c8->Option Value) (R:List (aA×di)) (A:cS) (M:ja) (G:List aA) (u:St) (ls:List (List (aA×di))) (E:List V) (s:aL) (x:Value) (v:V),
  xM P Z F M m R A n G E->Inv Z m G u ls R s.heap->C.mark<=u.length->d6 s.heap G x v->ly C v Db Da E u≠.cn ->
  rI P Z m R A C.mark Ut (NJ pos x (Db.map nE.py) (Co es M)) G u (ly C v Db Da E u) s /\
  rI P Z m R A C.mark PV (testChain pos x (Db.map nE.py) (Co es M)) G u (ly C v Db Da E u) s:=by
 induction H with
 | nil=>
  intro Db hl pos Z m R A M G u ls E s x v X I hm hx T;obtain rfl:=lR.mp hl;exact absurd rfl T
 | cons h r ih=>
  rename_i e me es Da;intro Db hl pos Z m R A M G u ls E s x v X I hm hx T;cases Db with
  | nil=>exact nomatch hl
  | cons op Db=>
  cases r with
  | nil=>
   obtain rfl:=lR.mp (DF hl);have e0:=JK (C:=C) (x:=v) (op:=op) (e:=me) (E:=E) (u:=u);have go:∀y v' po zs Ix s1,gn s s1->ly C v [op] [me] E u=jS id po (j8 op v v' po)->G <+: zs->dF C.mark u po->Inv Z m zs po Ix R s1.heap->d6 s1.heap zs y v' ->
     ∃b,ly C v [op] [me] E u=.ok b po/\∀Q im,Q (.bool b) s1->bT (bO P.prog P.w) A (Nq op.py x y) Q im s1:=by
    intro y v' po zs Ix s1 n1 e1 wP wS I1 r1;refine ny (j8 op v v' po) (λhc=>?_) λb hc=>?_
    .simp only[hc]at e1;exact absurd e1 T
    ·
     rw[hc]at e1;have hv:v.cD=true:=by
      cases q:v.cD with
      | true=>rfl
      | false=>rw[zW q]at hc;exact cj hc
     have WJ:v'.cD=true:=by
      cases q:v'.cD with
      | true=>rfl
      | false=>rw[zV q]at hc;exact cj hc
     exact⟨b,e1,λQ im q=>xE I1 ((hx.val hv).mono wP) (r1.val WJ) hc (by have:=X.xJ.units;lia) q⟩
   constructor
   .unfold rI;refine chain_last (jd e0 T (h _ _ _ _ _ _ _ _ _ _ X I hm) λy v' po zs Ix s1 n1 e1 wP wS I1 r1=>?_);obtain⟨b,e2,g⟩:=go y v' po zs Ix s1 n1 e1 wP wS I1 r1;refine g _ _ ?_;rw[e2];exact Bt n1 wP wS I1 rfl
   .unfold rI;refine test_last (jd e0 T (h _ _ _ _ _ _ _ _ _ _ X I hm) λy v' po zs Ix s1 n1 e1 wP wS I1 r1=>?_);obtain⟨b,e2,g⟩:=go y v' po zs Ix s1 n1 e1 wP wS I1 r1;refine g _ _ (tD ?_);rw[e2];exact Bt n1 wP wS I1 rfl
  | @cons e' me' es Da J J=>
   cases Db with
   | nil=>exact nomatch hl
   | cons op' Db=>
   have e0:=GN (C:=C) (x:=v) (op:=op) (op':=op') (Db:=Db) (e:=me) (e':=me') (es:=Da) (E:=E) (u:=u)
   have go:∀y v' po zs Ix s1,gn s s1->(ly C v (op::op'::Db) (me::me'::Da) E u=match j8 op v v' po with
      | some true=>ly C v' (op'::Db) (me'::Da) E po
      | some false=>.ok false po
      | none=>.cn)->G <+: zs->dF C.mark u po->Inv Z m zs po Ix R s1.heap->d6 s1.heap zs y v' ->
     ∃b,(ly C v (op::op'::Db) (me::me'::Da) E u=if b then ly C v' (op'::Db) (me'::Da) E po else .ok false po)/\∀Q im,Q (.bool b) s1->bT (bO P.prog P.w) A (Nq op.py x y) Q im s1:=by
    intro y v' po zs Ix s1 n1 e1 wP wS I1 r1;refine ny (j8 op v v' po) (λhc=>?_) λb hc=>?_
    .simp only[hc]at e1;exact absurd e1 T
    ·
     rw[hc]at e1;have hv:v.cD=true:=by
      cases q:v.cD with
      | true=>rfl
      | false=>rw[zW q]at hc;exact cj hc
     have WJ:v'.cD=true:=by
      cases q:v'.cD with
      | true=>rfl
      | false=>rw[zV q]at hc;exact cj hc
     exact⟨b,by cases b<;>exact e1,λQ im q=>xE I1 ((hx.val hv).mono wP) (r1.val WJ) hc (by have:=X.xJ.units;lia) q⟩
   constructor
   .unfold rI;refine chain_link (jd e0 T (h _ _ _ _ _ _ _ _ _ _ X I hm) λy v' po zs Ix s1 n1 e1 wP wS I1 r1=>?_);obtain⟨b,e2,g⟩:=go y v' po zs Ix s1 n1 e1 wP wS I1 r1;refine g _ _ (tD ?_);rw[e2]at T ⊢;cases b with
    | true=>exact pZ n1 wP wS (ih (op'::Db) (by simpa using hl) pos _ _ _ _ _ _ _ _ _ _ _ _ (X.mono wP) I1 (ae hm wS.1) r1 T).1
    | false=>exact Bt n1 wP wS I1 rfl
   .unfold rI;refine test_link (jd e0 T (h _ _ _ _ _ _ _ _ _ _ X I hm) λy v' po zs Ix s1 n1 e1 wP wS I1 r1=>?_);obtain⟨b,e2,g⟩:=go y v' po zs Ix s1 n1 e1 wP wS I1 r1;refine g _ _ (tD ?_);rw[e2]at T ⊢;cases b with
    | true=>exact pZ n1 wP wS (ih (op'::Db) (by simpa using hl) pos _ _ _ _ _ _ _ _ _ _ _ _ (X.mono wP) I1 (ae hm wS.1) r1 T).2
    | false=>exact Bt n1 wP wS I1 rfl
theorem Dc{l:Expr}{Db:List nE}{es:List Expr}{pos:jy}{M:ja}(h:Nn (Db.map nE.py) es=false):ou (.Compare l (Db.map nE.py) es pos) M=(do NJ pos (<-ou l M) (Db.map nE.py) (Co es M)):=by
 have:ou (.Compare l (Db.map nE.py) es pos) M=(do NJ pos (<-ou l M) (Db.map nE.py) (markedEach (Db.map nE.py) es (Co es M))):=rfl
 refine this.trans ?_;rw[SX _ _ _ h]
theorem zB{l:Expr}{Db:List nE}{es:List Expr}{pos:jy}{M:ja}{TD:Sem Value}(h:Nn (Db.map nE.py) es=false):AM (.Compare l (Db.map nE.py) es pos) M TD=(do testChain pos (<-ou l M) (Db.map nE.py) (Co es M)):=by
 have:AM (.Compare l (Db.map nE.py) es pos) M TD=(do testChain pos (<-ou l M) (Db.map nE.py) (markedEach (Db.map nE.py) es (Co es M))):=rfl
 refine this.trans ?_;rw[SX _ _ _ h]
theorem Pw{l:Expr}{ml:ME}{Db:List nE}{es:List Expr}{Da:List ME}{pos:jy}(hl:Db.length=es.length)(TT:Nn (Db.map nE.py) es=false)(h:ec P C n F l ml)(H:F2 (ec P C n F) es Da):ec P C n F (.Compare l (Db.map nE.py) es pos) (.cy ml Db Da):=by
 intro Z m R A M G u ls E s X I hm T;have e:ev C (.cy ml Db Da) E u=(ev C ml E u).bind λx u=>(ly C x Db Da E u).bind λb u=>.ok (.bool b) u:=rfl
 rw[Dc TT];refine aG (jd e T (h _ _ _ _ _ _ _ _ _ _ X I hm) λx v po zs Ix s1 n1 e1 wP wS I1 r1=>?_);have h1:ly C v Db Da E po≠.cn:=λq=>T (by refine e1.trans ?_;rw[q];rfl)
 refine iJ n1 λh0 tk0 zn=>?_;clear n1;subst zn
 refine cq (BS H Db hl pos _ _ _ _ _ _ _ _ _ _ _ _ (X.mono wP) I1 (ae hm wS.1) r1 h1).1 (λb s' q=>?_) λJ J q=>q.bind.back e1 wP wS
 obtain⟨b',rs,xz,Fa,h2,tk2,e2,rfl,l2,m2,I2,rfl⟩:=q;rw[e1,e2];exact⟨.bool b',rs,xz,Fa,h2,tk2,rfl,rfl,wP.trans l2,wS.trans m2,I2,rfl⟩
theorem MI{l:Expr}{ml:ME}{Db:List nE}{es:List Expr}{Da:List ME}{pos:jy}(hl:Db.length=es.length)(TT:Nn (Db.map nE.py) es=false)(h:ec P C n F l ml)(H:F2 (ec P C n F) es Da):qh P C n F (.Compare l (Db.map nE.py) es pos) (.cy ml Db Da):=by
 intro Z m R A M G u ls E s X I hm T;have e:nA C (.cy ml Db Da) E u=(ev C ml E u).bind λx u=>ly C x Db Da E u:=rfl
 rw[zB TT];refine aG (jd e T (h _ _ _ _ _ _ _ _ _ _ X I hm) λx v po zs Ix s1 n1 e1 wP wS I1 r1=>?_);rw[e1]at T ⊢;exact pZ n1 wP wS (BS H Db hl pos _ _ _ _ _ _ _ _ _ _ _ _ (X.mono wP) I1 (ae hm wS.1) r1 T).2
noncomputable def Bl(e:Expr):Bool:=![0,3,5,15].contains e.ctorIdx
theorem Gs{e:Expr}{M:ja}{TD:Sem Value}(h:Bl e=true):AM e M TD=(do let v <-TD;vq e.pos;Hn [v] (PySem.truthy v)):=by
 cases e<;>first | rfl | exact gT h
theorem NU{e1:Expr}{a:ME}(hp:Bl e1=true)(h:ec P C n F e1 a):qh P C n F e1 (.val a):=by
 intro Z m R A M G u ls E s X I hm T;have e:nA C (.val a) E u=(ev C a E u).bind λv u=>jS id u (truthy v):=rfl
 refine isTrue_plain (jd e T (h _ _ _ _ _ _ _ _ _ _ X I hm) λx v po zs Ix s1 n1 e1 wP wS I1 r1=>?_) (Gs hp);refine ny (truthy v) (λht=>?_) λb ht=>?_
 .simp only[ht]at e1;exact absurd e1 T
 ·
  have hv:v.cD=true:=by cases v<;>first | rfl | exact cj ht
  refine nP (r1.val hv) ht ?_;simp only[e1,ht];exact Bt n1 wP wS I1 rfl
theorem Ls{e1:Expr}{b:MB}{pos:jy}(h:qh P C n F e1 b):qh P C n F (.UnaryOp .Not e1 pos) (.not b):=by
 intro Z m R A M G u ls E s X I hm T;have e:nA C (.not b) E u=(nA C b E u).bind λb u=>.ok (!b) u:=rfl
 refine isTrue_not (jd e T (h _ _ _ _ _ _ _ _ _ _ X I hm) λx v po zs Ix s1 n1 e1 wP wS I1 r1=>?_);obtain rfl:x=v:=r1;exact e1▸(Bt n1 wP wS I1 rfl)
theorem LW{e0 e1 e2:Expr}{c a b:MB}{pos:jy}(hc:qh P C n F e0 c)(ha:qh P C n F e1 a)(hb:qh P C n F e2 b):qh P C n F (.IfExp e0 e1 e2 pos) (.ite c a b):=by
 intro Z m R A M G u ls E s X I hm T;have e:nA C (.ite c a b) E u=(nA C c E u).bind λt u=>if t then nA C a E u else nA C b E u:=rfl
 refine isTrue_IfExp (jd e T (hc _ _ _ _ _ _ _ _ _ _ X I hm) λx t po zs Ix s1 n1 e1 wP wS I1 r1=>?_);obtain rfl:x=t:=r1;rw[e1]at T ⊢;cases x with
 | true=>exact pZ n1 wP wS (ha _ _ _ _ _ _ _ _ _ _ (X.mono wP) I1 (ae hm wS.1) T)
 | false=>exact pZ n1 wP wS (hb _ _ _ _ _ _ _ _ _ _ (X.mono wP) I1 (ae hm wS.1) T)
set_option tactic.hygienic true in
theorem Va{pos:jy}{es:List Expr}{mbs:List MB}(H:F2 (qh P C n F) es mbs):∀(Z:jC) (m:c8->Option Value) (R:List (aA×di)) (A:cS) (M:ja) (G:List aA) (u:St) (ls:List (List (aA×di))) (E:List V) (s:aL) (TD:Sem Value),
  xM P Z F M m R A n G E->Inv Z m G u ls R s.heap->C.mark<=u.length->BO C mbs E u≠.cn->rI P Z m R A C.mark PV (AM (.BoolOp .And es pos) M TD) G u (BO C mbs E u) s:=by
 induction H with
 | nil=>
  intro Z m R A M G u ls E s TD X I hm T;exact isTrue_and_nil (Bt (gn.refl s) (bD _) (dF.refl _ _) I rfl)
 | cons h r ih=>
  rename_i e1 b es bs;intro Z m R A M G u ls E s TD X I hm T;have e:BO C (b::bs) E u=(nA C b E u).bind λt u=>if t then BO C bs E u else .ok false u:=rfl
  refine isTrue_and (jd e T (h _ _ _ _ _ _ _ _ _ _ X I hm) λx t po zs Ix s1 n1 e1 wP wS I1 r1=>?_);obtain rfl:x=t:=r1;rw[e1]at T ⊢;cases x with
  | true=>exact pZ n1 wP wS (ih _ _ _ _ _ _ _ _ _ _ _ (X.mono wP) I1 (ae hm wS.1) T)
  | false=>exact Bt n1 wP wS I1 rfl
set_option tactic.hygienic true in
theorem U9{pos:jy}{es:List Expr}{mbs:List MB}(H:F2 (qh P C n F) es mbs):∀(Z:jC) (m:c8->Option Value) (R:List (aA×di)) (A:cS) (M:ja) (G:List aA) (u:St) (ls:List (List (aA×di))) (E:List V) (s:aL) (TD:Sem Value),
  xM P Z F M m R A n G E->Inv Z m G u ls R s.heap->C.mark<=u.length->BN C mbs E u≠.cn->rI P Z m R A C.mark PV (AM (.BoolOp .Or es pos) M TD) G u (BN C mbs E u) s:=by
 induction H with
 | nil=>
  intro Z m R A M G u ls E s TD X I hm T;exact isTrue_or_nil (Bt (gn.refl s) (bD _) (dF.refl _ _) I rfl)
 | cons h r ih=>
  rename_i e1 b es bs;intro Z m R A M G u ls E s TD X I hm T;have e:BN C (b::bs) E u=(nA C b E u).bind λt u=>if t then .ok true u else BN C bs E u:=rfl
  refine isTrue_or (jd e T (h _ _ _ _ _ _ _ _ _ _ X I hm) λx t po zs Ix s1 n1 e1 wP wS I1 r1=>?_);obtain rfl:x=t:=r1;rw[e1]at T ⊢;cases x with
  | true=>exact Bt n1 wP wS I1 rfl
  | false=>exact pZ n1 wP wS (ih _ _ _ _ _ _ _ _ _ _ _ (X.mono wP) I1 (ae hm wS.1) T)
theorem PK{es:List Expr}{mbs:List MB}{pos:jy}(H:F2 (qh P C n F) es mbs):qh P C n F (.BoolOp .And es pos) (.all mbs):=by
 intro Z m R A M G u ls E s X I hm T;exact Va H _ _ _ _ _ _ _ _ _ _ _ X I hm T
theorem PI{es:List Expr}{mbs:List MB}{pos:jy}(H:F2 (qh P C n F) es mbs):qh P C n F (.BoolOp .Or es pos) (.any mbs):=by
 intro Z m R A M G u ls E s X I hm T;exact U9 H _ _ _ _ _ _ _ _ _ _ _ X I hm T
end
def Callee(P:PF)(f:Value)(first:List Value):Prop:=∀(A:cS) (pos:jy) (wv:List (Bool×Sem Value)) (Q:Value->aL->Prop) (im:Value->aL->Prop) (s:aL),wv.any (·.1)=false ->
 bT (bO P.prog P.w) A (evalArgs f true wv []) (λa Os=>P.K.In Os.heap/\bT (bO P.prog P.w) A (call f (first++a.pos) a.kw) Q im Os) im s->bT (bO P.prog P.w) A (Rh pos f first wv []) Q im s
theorem iV{P:PF}{id:String}{first:List Value}:Callee P (.builtin id) first:=λJ J J J J J h1 h2=>callWith_builtin h1 (cq h2 (λJ J q=>q.2) λJ J x=>x)
theorem s7{P:PF}{kt:String}{first:List Value}:Callee P (.type kt) first:=λJ J J J J J h1 h2=>VS h1 (cq h2 (λJ J q=>q.2) λJ J x=>x)
theorem s8{P:PF}{f:Value}{first:List Value}(hk:AN P.K f=true):Callee P f first:=λJ J wv J J J h1 h2=>
 callWith_of (by rw[h1];rfl) (keeps_K hk) h2
theorem BW{P:PF}:∀b:Bi,Callee P b.val []
 | .len=>iV | .Iq=>iV | .Gj=>iV | .sum=>iV
 | .bytes=>s7 | .list=>s7 | .range=>s7
section
variable{P:PF}{C:Cx}{n:Nat}{F:Fv}{Z:jC}{m:c8->Option Value}{R:List (aA×di)}{A:cS}{M:ja}{G zs:List aA}{u po:St}{Ix:List (List (aA×di))}{E:List V}{s s1:aL}
set_option tactic.hygienic true in
theorem BX{es:List Expr}{Da:List ME}{pos:jy}{f:Value}{first:List Value}{α:Type}{VR:eJ->List aA->Value->α->Prop}{k:List V->St->RE α}{r0:RE α}(cf:Callee P f first)(H:F2 (ec P C n F) es Da)(S:noStar es=true)
  (X:xM P Z F M m R A n zs E) (I:Inv Z m zs po Ix R s1.heap) (hm:C.mark<=po.length) (n1:gn s s1) (le:G <+: zs) (mo:dF C.mark u po) (e0:r0=(q9 C Da E po).bind k) (T:r0≠.cn)
  (hc:∀xs vs rs xz Fa s2,gn s s2->r0=k vs rs->G <+: xz->dF C.mark u rs->zs <+: xz->dF C.mark po rs->Inv Z m xz rs Fa R s2.heap->ft xz xs vs ->
   bT (bO P.prog P.w) A (call f (first++xs)) (QE Z m R C.mark VR s G u r0) (EE Z P.bad m R C.mark s G u r0) s2) :
  bT (bO P.prog P.w) A (Rh pos f first (tZ pos (jg es M)) []) (QE Z m R C.mark VR s G u r0) (EE Z P.bad m R C.mark s G u r0) s1:=by
 have any:=rq (pos:=pos) (M:=M) S
 refine cf _ _ _ _ _ _ any ?_;cases H with
 | nil=>
  refine evalArgs_nil3 ⟨X.base.CW.keeps I.fr.keep,?_⟩;exact hc [] [] po zs Ix s1 n1 e0 le mo (bD _) (dF.refl _ _) I .nil
 | cons h r=>
  rename_i e me es Da;obtain⟨h1,h2⟩:=mF S;have main:=step (t:=spliced (tZ pos (jg (e::es) M))) (db:=λvs Os=>P.K.In Os.heap/\bT (bO P.prog P.w) A (call f (first++vs)) (QE Z m R C.mark VR s G u r0) (EE Z P.bad m R C.mark s G u r0) Os)
   n1 le mo e0 T (λh'=>Am (.cons h r) S _ _ _ _ _ _ _ _ _ _ X I hm h') λxs vs rs xz Fa s2 n2 e2 nz GT Re mo12 I2 r2=>⟨X.base.CW.keeps I2.fr.keep,hc xs vs rs xz Fa s2 n2 e2 nz GT Re mo12 I2 r2.1⟩
  rw[h1]at main ⊢;exact IM main
theorem Sz{b:Bi}{es:List Expr}{Da:List ME}{np pos:jy}(WE:F.calm=true)(hg:oD F (Bi.str b)=true)(S:noStar es=true)(H:F2 (ec P C n F) es Da):ec P C n F (.Call (.Name (Bi.str b) np) es [] pos) (.bi b Da):=by
 intro Z m R A M G u ls E s X I hm T;have e:ev C (.bi b Da) E u=(q9 C Da E u).bind λvs u=>builtin b vs u:=rfl
 refine Call_ (LJ X I hg (BX (BW b) H S X I hm (gn.refl s) (bD _) (dF.refl _ _) e T λxs vs rs xz Fa s2 n2 e2 nz GT Re mo12 I2 r2=>?_)) rfl;rw[e2]at T ⊢;exact pZ n2 nz GT (A1 I2 (X.xJ.handled WE) (ae hm GT.1) r2 T)
theorem Od{es:List Expr}{Da:List ME}{np pos:jy}(hg:oD F (Bi.str .range)=true)(S:noStar es=true)(H:F2 (ec P C n F) es Da):ec P C n F (.Call (.Name (Bi.str .range) np) es [] pos) (.gV Da):=by
 intro Z m R A M G u ls E s X I hm T;have e:ev C (.gV Da) E u=(q9 C Da E u).bind λvs u=>jS id u (mG vs):=rfl
 refine Call_ (LJ X I hg (BX (BW .range) H S X I hm (gn.refl s) (bD _) (dF.refl _ _) e T λxs vs rs xz Fa s2 n2 e2 nz GT Re mo12 I2 r2=>?_)) rfl;rw[e2]at T ⊢;cases hr:mG vs with
 | none=>rw[hr]at T;exact absurd rfl T
 | some v=>exact pZ n2 nz GT (AQ I2 r2 hr)
theorem tV{o:Expr}{name:c8}{apos pos:jy}{es:List Expr}{f4:FA}{im:Value->aL->Prop}{Q:Value->aL->Prop}(hp:oi o=true)(S:noStar es=true)(hn:es.length<29)(WB:(apos.endLine==pos.line)=true)
  (h:bT f4 A (ou o M) (λov Os=>∀pl,bT f4 A (PySem.getMethod ov name pl) (λfa s₂=>bT f4 A (Rh pos fa.1 fa.2 (tZ pos (jg es M)) []) Q im s₂) im Os) im s) :
  bT f4 A (ou (.Call (.Attribute o name apos) es [] pos) M) Q im s:=by
 rw[arm_eval_Call,nK hp];refine aG (cq h (λov Os WH=>?_) λJ J e=>e);refine aG (fQ ?_);have hall:∀ {es:List Expr},noStar es=true->(tZ pos (jg es M)).all (!·.1)=true:=by
  intro es;induction es with
  | nil=>intro _;rfl
  | cons e r ih=>
   intro S;refine cJ (λh1 h2=>?_) (mF (M:=M) S);rw[h1];show(true&&(tZ pos (jg r M)).all (!·.1))=true;exact(ih h2)
 have hform:methodCallForm (es.length+([]:List Keyword).length) (tZ pos (jg es M)) (backToKw pos (keywordEach [] M))=true:=by
  unfold methodCallForm;simp only[hall S];show(true&&true&&decide (es.length+0+0<30))=true;exact(bp (by lia))
 have hpos:methodCallPos true o M apos pos=pure pos:=by unfold methodCallPos;simp[WB]
 unfold methodCall;rw[hform];refine aG (fR ?_);unfold calleeOf;exact cq (WH _) (λfa s₂ h₂=>aG (tE hpos h₂)) λJ J e=>e
theorem C0{a:aA}{wE:Array Value}{k:Nat}{mm:Lm}{pl:Sem Bool}{f4:FA}{im:Value->aL->Prop}{Q:Value×List Value->aL->Prop}(ho:s.heap.get? a=some (listOf wE k))(h:Q (.builtin mm.id,[.ref a]) s):
  bT f4 A (PySem.getMethod (.ref a) mm.str pl) Q im s:=by
 cases mm
 .exact tF ⟨_,ho,rfl⟩ PySem.F.plainAttrs_list PySem.F.slot_list_append PySem.F.type_list_append (λa e=>by cases e;exact⟨_,ho,rfl⟩) h
 .exact tF ⟨_,ho,rfl⟩ PySem.F.plainAttrs_list PySem.F.slot_list_pop PySem.F.type_list_pop (λa e=>by cases e;exact⟨_,ho,rfl⟩) h
 .exact tF ⟨_,ho,rfl⟩ PySem.F.plainAttrs_list PySem.F.slot_list_reverse PySem.F.type_list_reverse (λa e=>by cases e;exact⟨_,ho,rfl⟩) h
 .exact tF ⟨_,ho,rfl⟩ PySem.F.plainAttrs_list PySem.F.slot_list_index PySem.F.type_list_index (λa e=>by cases e;exact⟨_,ho,rfl⟩) h
end
section
variable{P:PF}{C:Cx}{n:Nat}{F:Fv}
theorem JE{x:V}{u:St}(h:zC x u=true):∃k vs,x=.ref k/\u[k]?=some (.list vs):=by
 refine cP (iN.mp h) λvs h=>?_
 refine cP (aT.mp h) λk=>cJ λh1 h2=>?_
 exact⟨k,vs,kz h1,Br h2⟩
theorem wj{d i:Nat}{v:V}(h:bound d v=some i):v.cD=true:=by
 cases v<;>first | rfl | exact cj h
theorem FX{X lo hi:V}{u:St}(T:ji X lo hi u≠.cn):X.cD=true/\lo.cD=true/\hi.cD=true:=by
 refine d5 λGG Y=>?_
 cases X<;>first | exact absurd rfl T | skip
 .refine cP (sH T) λi=>cJ λh1 e1=>?_
  refine cJ (λ_ e2=>?_) (BH (λq=>T (e1.trans q)));refine cP (sH (λq=>T (e1.trans (e2.trans q)))) λj=>cJ λh2 _=>?_
  refine Y ?_;exact⟨rfl,wj h1,wj h2⟩
 .refine cP (sH T) λi=>cJ λh1 e1=>?_
  refine cP (sH (λq=>T (e1.trans q))) λvs=>cJ λ_ e2=>?_
  refine cJ (λ_ e3=>?_) (BH (λq=>T (e1.trans (e2.trans q))));refine cP (sH (λq=>T (e1.trans (e2.trans (e3.trans q))))) λj=>cJ λh2 _=>?_
  refine Y ?_;exact⟨rfl,wj h1,wj h2⟩
theorem R9{o:Expr}{mo:ME}{mm:Lm}{es:List Expr}{Da:List ME}{apos pos:jy}(hp:oi o=true)(S:noStar es=true)(hn:es.length<29)(WB:(apos.endLine==pos.line)=true)(h:ec P C n F o mo)(H:F2 (ec P C n F) es Da):
  ec P C n F (.Call (.Attribute o mm.str apos) es [] pos) (.lm mo mm Da):=by
 intro Z m R A M G u ls E s X I hm T;have e:ev C (.lm mo mm Da) E u=(ev C mo E u).bind λx u=>if zC x u then(q9 C Da E u).bind λvs u=>iC C.mark x mm vs u else .cn:=rfl
 refine tV hp S hn WB (jd e T (h _ _ _ _ _ _ _ _ _ _ X I hm) λx v po zs Ix s1 n1 e1 wP wS I1 r1=>?_);intro pl;refine d5 λGG Y=>?_
 by_cases hl:zC v po=true
 .rw[aF hl]at e1;refine iJ (JE hl) λk vs=>cJ λzn ho=>?_;subst zn
  refine cP (sF r1) λa=>cJ λGo hxa=>?_;subst Go
  refine nG (I1.own ho) λa1 wE c=>mT λha hp' hg r=>?_
  rw[hxa]at ha;obtain rfl:=aD ha;refine Y ?_;refine C0 hg ?_;refine BX iV H S (X.mono wP) I1 (ae hm wS.1) n1 wP wS e1 T λxs us rs xz Fa s2 n2 e2 nz GT Re mo12 I2 r2=>?_
  rw[e2]at T ⊢;exact pZ n2 nz GT (zt I2 (dX.mono hxa Re) r2 T)
 .rw[aZ hl]at e1;exact absurd e1 T
inductive Kb(P:PF)(C:Cx)(n:Nat)(F:Fv):Option Expr->Option ME->Prop
 | none:Kb P C n F none none
 | some {e:Expr} {me:ME}:ec P C n F e me->Kb P C n F (some e) (some me)
theorem Ej{e:Option Expr}{me:Option ME}(h:Kb P C n F e me)(Z:jC)(m:c8->Option Value)(R:List (aA×di))(A:cS)(M:ja)(G:List aA)(u:St)(ls:List (List (aA×di)))(E:List V)(s:aL)
  (X:xM P Z F M m R A n G E) (I:Inv Z m G u ls R s.heap) (hm:C.mark<=u.length) (T:QL C me E u≠.cn):rI P Z m R A C.mark d6 (Fy (evalOpt e M)) G u (QL C me E u) s:=by
 cases h with
 | none=>
  exact bS (Bt (gn.refl s) (bD _) (dF.refl _ _) I trivial)
 | some h=>
  exact h _ _ _ _ _ _ _ _ _ _ X I hm T
theorem I0{id:c8}{np sp pos:jy}{mo:ME}{e1 e2:Option Expr}{m1 m2:Option ME}(h:ec P C n F (.Name id np) mo)(h1:Kb P C n F e1 m1)(h2:Kb P C n F e2 m2):ec P C n F (.Subscript (.Name id np) (.Slice e1 e2 none sp) pos) (.slice mo m1 m2):=by
 intro Z m R A M G u ls E s X I hm T;have e:ev C (.slice mo m1 m2) E u=(ev C mo E u).bind λx u=>(QL C m1 E u).bind λl u=>(QL C m2 E u).bind λh u=>ji x l h u:=rfl
 refine Subscript_ (jd e T (h _ _ _ _ _ _ _ _ _ _ X I hm) λx v po zs Ix s1 n1 e1' wP wS I1 r1=>?_);have es:ou (.Slice e1 e2 none sp) M=(do
   let l <-Fy (evalOpt e1 M)
   let cr <-Hn [l] (Fy (evalOpt e2 M))
   let s <-Hn [l,cr] (Fy (evalOpt none M))
   newFields "slice" [l,cr,s]):=by with_unfolding_all rfl
 refine aG (step n1 wP wS e1' T (Ej h1 _ _ _ _ _ _ _ _ _ _ (X.mono wP) I1 (ae hm wS.1)) λl lo rs xz Fa s2 n2 e2' nz GT Re J I2 r2=>?_);refine aG (fR (step n2 nz GT e2' T (Ej h2 _ _ _ _ _ _ _ _ _ _ (X.mono nz) I2 (ae hm GT.1)) λcr hi Tk as3 ls3 s3 n3 e3' WL mo3 le23 J I3 r3=>?_));refine aG (fR (bS ?_));refine wpAny_newObj_type ?_ (by size_fits);rw[e3']at T ⊢;refine jc (λhv hlo hhi=>?_) (FX T);exact cq (DX I3 (ae hm mo3.1) ((r1.val hv).mono (Re.trans le23)) ((r2.val hlo).mono le23) (r3.val hhi) T) (λJ J q=>Sq n3 WL mo3 q) λJ J q=>q
end
section
variable{Z:jC}{m:c8->Option Value}{G:List aA}{u:St}{ls:List (List (aA×di))}{R:List (aA×di)}{h:eJ}
theorem Inv.D4(I:Inv Z m G u ls R h){h':eJ}{m':c8->Option Value}(hn:h'.Ns Z.L m')(S:mD Z.L h h'):Inv Z m' G u ls R h':=
 ⟨I.fr.set hn S,I.news.set S,I.nodup,I.rel,λp hp=>(I.outer p hp).sameBut S (I.apart p hp).1,I.apart⟩
theorem Inv.setCell{nw:List (aA×di)}{W:List (aA×di)}{c:aA}{o:di}(I:Inv Z m G u ls (W++(c,o)::nw) h){h':eJ}{o':di}(ho:h'.get? c=some o')(S:mD c h h'):Inv Z m G u ls (W++(c,o')::nw) h':=by
 have cm:=I.news (c,o) (by simp)
 have nd:=I.nodup
 have fst:((ls.flatten++(W++(c,o')::nw)).map (·.1))=((ls.flatten++(W++(c,o)::nw)).map (·.1)):=by simp
 refine⟨⟨I.fr.ns.sameBut S (Ne.symm cm.2.1),λb x e=>(S.2 b λz=>?_).trans (I.fr.keep b x e),I.fr.above⟩,λq hq=>?_,by simp only[fst];exact nd,I.rel,λq hq=>?_,λq hq=>by exact fst▸(I.apart q hq)⟩
 .refine d5 λGG Y=>?_
  have:=cm.2.2;simp only[<-z,e]at this;exact nomatch this
 .by_cases e:q.1=c
  .have:q=(c,o'):=by
    have h1:(c,o')∈ls.flatten++(W++(c,o')::nw):=by simp
    simp only[<-fst]at nd;exact qY nd hq h1 e
   subst this;exact⟨ho,cm.2⟩
  .have hq':q∈ls.flatten++(W++(c,o)::nw):=by
    simp only[dk,aO]at hq ⊢;rcases hq with hq | hq | hq | hq
    .exact .inl hq
    .exact .inr (.inl hq)
    .exact absurd (aM _ hq) e
    .exact .inr (.inr (.inr hq))
   exact⟨(S.2 _ e).trans (I.news q hq').1,(I.news q hq').2⟩
 .exact(I.outer q hq).sameBut S λz=>(I.apart q hq).2.2 (bj.mpr ⟨(c,o),by simp,z.symm⟩)
end
structure SC(P:PF)(Z:jC)(F:Fv)(M:ja)(m:c8->Option Value)(Rc:List (aA×di))(A:cS)(n:Nat)(G:List aA)(E:List V):Prop where
 base:Dw P Z.base
 dB:Z.dB=P.dB
 gl:xK P
 HY:o8 P G
 fF:rU F M Z.L
 loc:gB F M m Rc G E
 xJ:Kf Z F.calm A n
 frame:∃l,A.frames=some (M::l)/\M.frame=some Z.L
section
variable{P:PF}{Z:jC}{F:Fv}{M:ja}{m:c8->Option Value}{Rc Ro:List (aA×di)}{A:cS}{n:Nat}{G bs:List aA}{u:St}{ls:List (List (aA×di))}{E:List V}{s:aL}
theorem gB.more(h:gB F M m Rc G E):gB F M m (Rc++Ro) G E:=
 ⟨h.len,h.loc,λi id v a b c=>nG (h.Ko i id v a b c) λc' o x=>mT λh1 h2 h3 h4=>⟨c',o,x,h1,bY _ h2,h3,h4⟩⟩
theorem SC.Az(X:SC P Z F M m Rc A n G E):xM P Z F M m (Rc++Ro) A n G E:=⟨X.base,X.dB,X.gl,X.HY,X.fF,X.loc.more,X.xJ⟩
theorem SC.mono(X:SC P Z F M m Rc A n G E)(le:G <+: bs):SC P Z F M m Rc A n bs E:=⟨X.base,X.dB,X.gl,X.HY.mono le,X.fF,X.loc.mono le,X.xJ,X.frame⟩
theorem SC.to(X:SC P Z F M m Rc A n G E)(le:G <+: bs){m':c8->Option Value}{SL:List (aA×di)}{sw:List V}(h:gB F M m' SL bs sw):SC P Z F M m' SL A n bs sw:=⟨X.base,X.dB,X.gl,X.HY.mono le,X.fF,h,X.xJ,X.frame⟩
theorem yL(X:SC P Z F M m Rc A n G E)(I:Inv Z m G u ls (Rc++Ro) s.heap){i:Nat}{id:c8}{x:Value}{v:V}(S:F.slot i=some id)(hk:F.scope.names.lookup id=some .local\/F.scope.names.lookup id=some .cell)
  (hi:i<E.length) (hv:dX G x v) {Q:Unit->aL->Prop} {im:Value->aL->Prop}
  (q:∀m' SL s',gn s s'->Inv Z m' G u ls (SL++Ro) s'.heap->gB F M m' SL G (E.set i v)->SL.map (·.1)=Rc.map (·.1)->Q () s'):bT (bO P.prog P.w) A (storeName M id x) Q im s:=by
 have hkind:M.scope.kind=.function:=by rw[X.fF.scope];exact X.fF.kind
 have slots:∀j id' v',F.slot j=some id'->(E.set i v)[j]?=some v'->(j=i/\id'=id/\v'=v)\/(j≠i/\id'≠id/\E[j]?=some v'):=by
  intro j id' v' h1 h2;by_cases e:i=j
  .subst e;rw[cG hi]at h2;rw[S]at h1;obtain rfl:=aD h1;obtain rfl:=aD h2;exact .inl ⟨rfl,rfl,rfl⟩
  .rw[bQ e]at h2;refine .inr ⟨Ne.symm e,λz=>?_,h2⟩;subst z;exact e (X.fF.apart _ _ _ S h1)
 rcases hk with hk | hk
 .refine Qd (by simp only[fW,X.fF.scope];exact hk) (X.fF.locals▸I.fr.ns) (λh' hn hsb=>?_) (by rw[hkind];rfl);simp only[X.fF.locals]at hn hsb;refine q _ Rc _ ⟨_,_,rfl⟩ (I.D4 hn hsb) ⟨by refine aV.trans ?_;exact X.loc.len,λj id' v' h1 h2 h3=>?_,λj id' v' h1 h2 h3=>?_⟩ rfl
  .rcases slots j id' v' h1 h3 with⟨rfl,rfl,rfl⟩ | ⟨_,h5,h6⟩
   .exact(aF rfl)▸(Cb.of hv)
   .exact(aZ h5)▸(X.loc.loc j id' v' h1 h2 h6)
  .rcases slots j id' v' h1 h3 with⟨rfl,rfl,rfl⟩ | ⟨_,h5,h6⟩
   .rw[hk]at h2;rcases h2 with h2 | h2<;>cases h2
   .exact X.loc.Ko j id' v' h1 h2 h6
 .obtain⟨v0,hv0⟩:∃v0,E[i]?=some v0:=⟨E[i],cO hi⟩;refine nG (X.loc.Ko i id v0 S (.inl hk) hv0) λc o x0=>mT λh1 h2 h3 h4=>?_
  refine Q9 hkind (by simp only[fW,X.fF.scope];exact hk) h1 ⟨o,(I.news _ (bX _ (bY _ h2))).1,h3⟩ λh' hc hsb=>?_
  refine d5 λGG Y=>?_
  refine cP hc λo'=>cJ λWD hd'=>?_
  refine iJ (List.append_of_mem h2) λW nw zn=>?_;subst zn
  have I':Inv Z m G u ls (W++(c,o)::(nw++Ro)) s.heap:=by simpa using I
  have on:=I'.setCell WD hsb
  have nd:((W++(c,o)::nw).map (·.1)).Nodup:=by
   have:=I.nodup
   simp only[cb,rJ]at this;simp only[cb,rJ];exact this.2.1.1
  refine Y ?_;refine q m (W++(c,o')::nw) _ ⟨_,_,rfl⟩ (by simpa using on) ⟨by refine aV.trans ?_;exact X.loc.len,λj id' v' g1 g2 g3=>?_,λj id' v' g1 g2 g3=>?_⟩ (by simp)
  .rcases slots j id' v' g1 g3 with⟨rfl,rfl,rfl⟩ | ⟨_,h5,h6⟩
   .rw[hk]at g2;exact nomatch g2
   .exact X.loc.loc j id' v' g1 g2 h6
  .rcases slots j id' v' g1 g3 with⟨rfl,rfl,rfl⟩ | ⟨_,h5,h6⟩
   .exact⟨c,o',some x,h1,by simp,hd',Cb.of hv⟩
   .refine nG (X.loc.Ko j id' v' g1 g2 h6) λc2 o2 x2=>mT λk1 k2 k3 k4=>?_
    refine⟨c2,o2,x2,k1,?_,k3,k4⟩;have T:c2≠c:=λe=>h5 (X.fF.inj _ _ c (e▸k1) h1)
    simp only[dk,aO]at k2 ⊢;rcases k2 with k2 | k2 | k2
    .exact .inl k2
    .cases k2;exact absurd rfl T
    .exact .inr (.inr k2)
end
def Vz(h:eJ)(G:List aA):Cr->Fl->Prop
 | .next,.next=>True
 | .cont,.cont=>True
 | .ret x,.ret v=>d6 h G x v
 | _,_=>False
inductive QX(Z:jC)(F:Fv)(M:ja)(Ro:List (aA×di))(mk:Nat)(s:aL)(G:List aA)(u:St)(Rc:List (aA×di))(r:RX)(f:Cr)(s':aL):Prop where
 | mk (fl:Fl) (sw:List V) (re:St) (wT:List aA) (AT:List (List (aA×di))) (SL:List (aA×di)) (m':c8->Option Value):r=.ok fl sw re->gn s s'->G <+: wT->dF mk u re->Inv Z m' wT re AT (SL++Ro) s'.heap->gB F M m' SL wT sw->SL.map (·.1)=Rc.map (·.1)->Vz s'.heap wT f fl->QX Z F M Ro mk s G u Rc r f s'
inductive EX(Z:jC)(bad:aA)(F:Fv)(M:ja)(Ro:List (aA×di))(mk:Nat)(s:aL)(G:List aA)(u:St)(Rc:List (aA×di))(r:RX)(e:Value)(s':aL):Prop where
 | mk (sw:List V) (re:St) (wT:List aA) (AT:List (List (aA×di))) (SL:List (aA×di)) (m':c8->Option Value) (ea:aA):r=.fY sw re->e=.ref ea->gn s s'->G <+: wT->dF mk u re->Inv Z m' wT re AT (SL++Ro) s'.heap->gB F M m' SL wT sw->SL.map (·.1)=Rc.map (·.1) ->
  lI Z.base (Z.L::Z.fr.map (·.1)) (AT.flatten++(SL++Ro)) bad ea s'.heap false->EX Z bad F M Ro mk s G u Rc r e s'
def Iy(P:PF)(Z:jC)(F:Fv)(M:ja)(Ro:List (aA×di))(A:cS)(mk:Nat)(t:Sem Cr)(G:List aA)(u:St)(Rc:List (aA×di))(r:RX)(s:aL):Prop:=
 bT (bO P.prog P.w) A t (QX Z F M Ro mk s G u Rc r) (EX Z P.bad F M Ro mk s G u Rc r) s
def rG(P:PF)(C:Cx)(n:Nat)(F:Fv)(st:Stmt)(ms:MS):Prop:=
 ∀(Z:jC) (m:c8->Option Value) (Rc Ro:List (aA×di)) (A:cS) (M:ja) (G:List aA) (u:St) (ls:List (List (aA×di))) (E:List V) (s:aL),
  SC P Z F M m Rc A n G E->Inv Z m G u ls (Rc++Ro) s.heap->C.mark<=u.length->ex C ms E u≠.cn->Iy P Z F M Ro A C.mark (exec st M) G u Rc (ex C ms E u) s
def nh(P:PF)(C:Cx)(n:Nat)(F:Fv)(ss:List Stmt)(ms:List MS):Prop:=
 ∀(Z:jC) (m:c8->Option Value) (Rc Ro:List (aA×di)) (A:cS) (M:ja) (G:List aA) (u:St) (ls:List (List (aA×di))) (E:List V) (s:aL),
  SC P Z F M m Rc A n G E->Inv Z m G u ls (Rc++Ro) s.heap->C.mark<=u.length->iH C ms E u≠.cn->Iy P Z F M Ro A C.mark (execs ss M) G u Rc (iH C ms E u) s
section
variable{P:PF}{Z:jC}{F:Fv}{M:ja}{m m1:c8->Option Value}{Rc WF Ro:List (aA×di)}{A:cS}{n mk:Nat}{G zs:List aA}{u po:St}{ls Ix:List (List (aA×di))}{E ρ1:List V}{s s1:aL}
theorem QX.back{r r0:RX}{f:Cr}{s':aL}(q:QX Z F M Ro mk s1 zs po WF r f s')(S:gn s s1)(le:G <+: zs)(mo:dF mk u po)(hR:WF.map (·.1)=Rc.map (·.1))(e:r0=r):QX Z F M Ro mk s G u Rc r0 f s':=by
 obtain⟨fl,sw,re,wT,AT,SL,m',e1,n1,l1,m1,I,L,hR',v⟩:=q;exact⟨fl,sw,re,wT,AT,SL,m',e.trans e1,S.trans n1,le.trans l1,mo.trans m1,I,L,hR'.trans hR,v⟩
theorem EX.back{r r0:RX}{f:Value}{s':aL}(q:EX Z P.bad F M Ro mk s1 zs po WF r f s')(S:gn s s1)(le:G <+: zs)(mo:dF mk u po)(hR:WF.map (·.1)=Rc.map (·.1))(e:r0=r):EX Z P.bad F M Ro mk s G u Rc r0 f s':=by
 obtain⟨sw,re,wT,AT,SL,m',ea,e1,e2,n1,l1,m1,I,L,hR',v⟩:=q;exact⟨sw,re,wT,AT,SL,m',ea,e.trans e1,e2,S.trans n1,le.trans l1,mo.trans m1,I,L,hR'.trans hR,v⟩
theorem vD{α β:Type}{VR:eJ->List aA->β->α->Prop}{t:Sem β}{r:RE α}{k:α->St->RX}{r0:RX}{db:β->aL->Prop}
  (S:gn s s1) (le:G <+: zs) (mo:dF mk u po) (hR:WF.map (·.1)=Rc.map (·.1)) (L:gB F M m1 WF zs ρ1) (e0:r0=r.then ρ1 k) (T:r0≠.cn) (h1:r≠.cn->rI P Z m1 (WF++Ro) A mk VR t zs po r s1)
  (h2:∀b a rs xz Fa s2,gn s s2->r0=k a rs->G <+: xz->dF mk u rs->zs <+: xz->dF mk po rs->Inv Z m1 xz rs Fa (WF++Ro) s2.heap->gB F M m1 WF xz ρ1->VR s2.heap xz b a->db b s2) :
  bT (bO P.prog P.w) A t db (EX Z P.bad F M Ro mk s G u Rc r0) s1:=by
 refine cq (h1 λe=>T (by refine e0.trans ?_;rw[e];rfl)) (λb s' q=>?_) λb s' q=>?_
 .obtain⟨a,rs,xz,Fa,h2',tk2,e1,e2,l2,m2,I2,v⟩:=q;subst e2;exact h2 b a rs xz Fa _ (S.trans ⟨_,_,rfl⟩) (by refine e0.trans ?_;rw[e1];rfl) (le.trans l2) (mo.trans m2) l2 m2 I2 (L.mono l2) v
 .obtain⟨rs,xz,Fa,h2',tk2,ea,e1,e2,e3,l2,m2,I2,v⟩:=q;subst e3;exact⟨ρ1,rs,xz,Fa,WF,m1,ea,by refine e0.trans ?_;rw[e1];rfl,e2,S.trans ⟨_,_,rfl⟩,le.trans l2,mo.trans m2,I2,L.mono l2,hR,v⟩
theorem nu{α β:Type}{VR:eJ->List aA->β->α->Prop}{t:Sem β}{r:RE α}{k:α->St->RX}{r0:RX}{db:β->aL->Prop}(L:gB F M m1 Rc G ρ1)(e0:r0=r.then ρ1 k)(T:r0≠.cn)(h1:r≠.cn->rI P Z m1 (Rc++Ro) A mk VR t G u r s)
  (h2:∀b a rs xz Fa s2,gn s s2->r0=k a rs->G <+: xz->dF mk u rs->Inv Z m1 xz rs Fa (Rc++Ro) s2.heap->gB F M m1 Rc xz ρ1->VR s2.heap xz b a->db b s2):bT (bO P.prog P.w) A t db (EX Z P.bad F M Ro mk s G u Rc r0) s:=
 vD (gn.refl s) (bD _) (dF.refl _ _) rfl L e0 T h1 λb a rs xz Fa s2 n e l o J J=>h2 b a rs xz Fa s2 n e l o
theorem Sp{t:Sem Cr}{r0:RX}(S:gn s s1)(le:G <+: zs)(mo:dF mk u po)(hR:WF.map (·.1)=Rc.map (·.1))(h:Iy P Z F M Ro A mk t zs po WF r0 s1):
  bT (bO P.prog P.w) A t (QX Z F M Ro mk s G u Rc r0) (EX Z P.bad F M Ro mk s G u Rc r0) s1:=
 cq h (λJ J q=>q.back S le mo hR rfl) λJ J q=>q.back S le mo hR rfl
theorem Gc{f:Cr}{fl:Fl}{s2:aL}(S:gn s s2)(le:G <+: zs)(mo:dF mk u po)(hR:WF.map (·.1)=Rc.map (·.1))(I:Inv Z m1 zs po Ix (WF++Ro) s2.heap)(L:gB F M m1 WF zs ρ1)(v:Vz s2.heap zs f fl):
  QX Z F M Ro mk s G u Rc (.ok fl ρ1 po) f s2:=⟨fl,ρ1,po,zs,Ix,WF,m1,rfl,S,le,mo,I,L,hR,v⟩
theorem TP{t:Sem Cr}{r:RX}{k:List V->St->RX}{r0:RX}{db:Cr->aL->Prop}(S:gn s s1)(le:G <+: zs)(mo:dF mk u po)(hR:WF.map (·.1)=Rc.map (·.1))(e0:r0=r.next k)(T:r0≠.cn)
  (h1:r≠.cn->Iy P Z F M Ro A mk t zs po WF r s1)
  (h2:∀ρ2 rs xz Fa Rc2 m2 s2,gn s s2->r0=k ρ2 rs->G <+: xz->dF mk u rs->zs <+: xz->dF mk po rs->Inv Z m2 xz rs Fa (Rc2++Ro) s2.heap->gB F M m2 Rc2 xz ρ2->Rc2.map (·.1)=Rc.map (·.1)->db .next s2)
  (h3:∀f s2,QX Z F M Ro mk s G u Rc r0 f s2->f≠.next->db f s2):bT (bO P.prog P.w) A t db (EX Z P.bad F M Ro mk s G u Rc r0) s1:=by
 refine cq (h1 λe=>T (by refine e0.trans ?_;rw[e];rfl)) (λf s' q=>?_) λb s' q=>?_
 .obtain⟨fl,ρ2,rs,xz,Fa,Rc2,m2,e1,n2,l2,GT,I2,L2,hR2,v⟩:=q;cases fl with
  | next=>
   obtain rfl:f=.next:=by cases f<;>first | rfl | exact v.elim
   exact h2 ρ2 rs xz Fa Rc2 m2 s' (S.trans n2) (by refine e0.trans ?_;rw[e1];rfl) (le.trans l2) (mo.trans GT) l2 GT I2 L2 (hR2.trans hR)
  | cont=>
   refine h3 f s' ⟨.cont,ρ2,rs,xz,Fa,Rc2,m2,by refine e0.trans ?_;rw[e1];rfl,S.trans n2,le.trans l2,mo.trans GT,I2,L2,hR2.trans hR,v⟩ ?_;rintro rfl;exact v.elim
  | ret cr=>
   refine h3 f s' ⟨.ret cr,ρ2,rs,xz,Fa,Rc2,m2,by refine e0.trans ?_;rw[e1];rfl,S.trans n2,le.trans l2,mo.trans GT,I2,L2,hR2.trans hR,v⟩ ?_;rintro rfl;exact v.elim
 .obtain⟨sw,re,wT,AT,SL,m',ea,e1,e2,n1,l1,m1,I,L,hR',v⟩:=q;exact⟨sw,re,wT,AT,SL,m',ea,by refine e0.trans ?_;rw[e1];rfl,e2,S.trans n1,le.trans l1,mo.trans m1,I,L,hR'.trans hR,v⟩
end
section
variable{P:PF}{C:Cx}{n:Nat}{F:Fv}
theorem IP:nh P C n F [] []:=by
 intro Z m Rc Ro A M G u ls E s X I hm T;exact mC (Gc (gn.refl s) (bD _) (dF.refl _ _) rfl I X.loc trivial)
theorem FJ{st:Stmt}{ms:MS}{ss:List Stmt}{mss:List MS}(h1:rG P C n F st ms)(h2:nh P C n F ss mss):nh P C n F (st::ss) (ms::mss):=by
 intro Z m Rc Ro A M G u ls E s X I hm T;have e:iH C (ms::mss) E u=(ex C ms E u).next λE u=>iH C mss E u:=rfl
 refine pA (TP (gn.refl s) (bD _) (dF.refl _ _) rfl e T (h1 _ _ _ _ _ _ _ _ _ _ _ X I hm) (λρ2 rs xz Fa Rc2 m2 s2 n2 e2 nz GT J J I2 L2 hR2=>?_) λf s2 q hf=>?_)
 .dsimp only;rw[e2]at T ⊢;exact Sp n2 nz GT hR2 (h2 _ _ _ _ _ _ _ _ _ _ _ (X.to nz L2) I2 (ae hm GT.1) T)
 .cases f<;>first | exact absurd rfl hf | exact q
theorem Oe{e1:Expr}{a:ME}{pos:jy}(h:ec P C n F e1 a):rG P C n F (.Return (some e1) pos) (.ret a):=by
 intro Z m Rc Ro A M G u ls E s X I hm T;have e:ex C (.ret a) E u=(ev C a E u).then E λv u=>.ok (.ret v) E u:=rfl
 refine wpAny_Return_some (nu X.loc e T (h _ _ _ _ _ _ _ _ _ _ X.Az I hm) λx v po zs Ix s1 n1 e1 wP wS I1 L1 r1=>?_);exact e1▸(Gc n1 wP wS rfl I1 L1 r1)
theorem K5{pos:jy}:rG P C n F (.Return none pos) .Jd:=by
 intro Z m Rc Ro A M G u ls E s X I hm T;exact wpAny_Return_none (Gc (gn.refl s) (bD _) (dF.refl _ _) rfl I X.loc trivial)
theorem MC{pos:jy}:rG P C n F (.Continue pos) .cont:=by
 intro Z m Rc Ro A M G u ls E s X I hm T;exact wpAny_Continue (Gc (gn.refl s) (bD _) (dF.refl _ _) rfl I X.loc trivial)
theorem Ph{e1:Expr}{a:ME}{pos:jy}(hsw:∀M,uN e1 none pos.line M=pure false)(h:ec P C n F e1 a):rG P C n F (.Expr e1 pos) (.kx a):=by
 intro Z m Rc Ro A M G u ls E s X I hm T;have e:ex C (.kx a) E u=(ev C a E u).then E λJ u=>.ok .next E u:=rfl
 refine IJ (nu X.loc e T (h _ _ _ _ _ _ _ _ _ _ X.Az I hm) λx v po zs Ix s1 n1 e1 wP wS I1 L1 r1=>?_) ?_ (hsw M)
 .exact e1▸(Gc n1 wP wS rfl I1 L1 trivial)
 .unfold Rf;rw[X.fF.scope,X.fF.kind];rfl
theorem Sf{e1:Expr}{c:MB}{s1 s2:List Stmt}{m1 m2:List MS}{pos:jy}(h:qh P C n F e1 c)(h1:nh P C n F s1 m1)(h2:nh P C n F s2 m2):rG P C n F (.If e1 s1 s2 pos) (.fB c m1 m2):=by
 intro Z m Rc Ro A M G u ls E s X I hm T;have e:ex C (.fB c m1 m2) E u=(nA C c E u).then E λt u=>if t then iH C m1 E u else iH C m2 E u:=rfl
 refine wpAny_If (nu X.loc e T (h _ _ _ _ _ _ _ _ _ _ X.Az I hm) λx t po zs Ix s1 n1 e1 wP wS I1 L1 r1=>?_);obtain rfl:x=t:=r1;rw[e1]at T ⊢;cases x with
 | true=>exact Sp n1 wP wS rfl (h1 _ _ _ _ _ _ _ _ _ _ _ (X.to wP L1) I1 (ae hm wS.1) T)
 | false=>exact Sp n1 wP wS rfl (h2 _ _ _ _ _ _ _ _ _ _ _ (X.to wP L1) I1 (ae hm wS.1) T)
end
def ya(P:PF)(C:Cx)(n:Nat)(F:Fv)(t:Expr)(mt:Tg):Prop:=
 ∀(Z:jC) (m:c8->Option Value) (Rc Ro:List (aA×di)) (A:cS) (M:ja) (G:List aA) (u:St) (ls:List (List (aA×di))) (E:List V) (s:aL) (x:Value) (v:V),
  SC P Z F M m Rc A n G E->Inv Z m G u ls (Rc++Ro) s.heap->C.mark<=u.length->d6 s.heap G x v->store C mt v E u≠.cn ->
  bT (bO P.prog P.w) A (assign t M x) (λJ s'=>QX Z F M Ro C.mark s G u Rc (store C mt v E u) .next s') (EX Z P.bad F M Ro C.mark s G u Rc (store C mt v E u)) s
noncomputable def vK(F:Fv)(i:Nat)(id:c8):Bool:=F.slot i==some id&&(F.scope.names.lookup id==some .local||F.scope.names.lookup id==some .cell)
theorem uY{F:Fv}{i:Nat}{id:c8}(h:vK F i id=true):F.slot i=some id/\(F.scope.names.lookup id=some .local\/F.scope.names.lookup id=some .cell):=by
 simp only[vK,aH,cF,beq_iff_eq]at h;exact h
theorem xD{mk k:Nat}{v:V}(h:fq mk k v=true):v.cD=true:=by
 unfold fq at h;simp only[aH]at h;exact h.1
theorem yR{mk:Nat}{x v:V}{f:eM}{u re:St}(h:setAttr mk x f v u=some re):x.cD=true/\v.cD=true:=by
 refine nG (yS h) λk c fs=>mT λob3 _ hg _=>?_;subst ob3
 exact⟨rfl,xD hg⟩
theorem yP{mk:Nat}{x k v:V}{u re:St}(h:setItem mk x k v u=some re):x.cD=true/\k.cD=true/\v.cD=true:=by
 refine nG (yQ h) λ_ _ _=>Rv λob3 ob4 _ _ _ _ hg _=>?_;subst ob3;subst ob4
 exact⟨rfl,rfl,xD hg⟩
theorem GC{x v:V}{f:eM}{u:St}(h:getAttr x f u=some v):x.cD=true:=by
 refine nG (zG h) λ_ _ _=>cJ λob3 _=>?_;subst ob3
 rfl
theorem GB{x k v:V}{u:St}(h:getItem x k u=some v):x.cD=true/\k.cD=true:=by
 refine Kv (zF h) λ_ _ _ _=>jc λob4 ob5 _=>?_;subst ob4;subst ob5
 exact⟨rfl,rfl⟩
section
variable{P:PF}{C:Cx}{n:Nat}{F:Fv}
theorem KO{i:Nat}{id:c8}{pos:jy}(h:vK F i id=true):ya P C n F (.Name id pos) (.ah i):=by
 intro Z m Rc Ro A M G u ls E s x v X I hm hx T;refine cJ (λh1 h2=>?_) (uY h);simp only[Mw]at T ⊢
 split at T
 .rename_i hg;rw[aF hg];refine jU (yL X I h1 h2 hg.1 (hx.val hg.2) λm' SL s' n1 I1 L1 hR=>?_);exact Gc n1 (bD _) (dF.refl _ _) hR I1 L1 trivial
 .exact absurd rfl T
theorem IU{o:Expr}{mo:ME}{f:eM}{pos:jy}(h:ec P C n F o mo):ya P C n F (.Attribute o f.str pos) (.aS mo f):=by
 intro Z m Rc Ro A M G u ls E s x v X I hm hx T;have e:store C (.aS mo f) v E u=(ev C mo E u).then E λx u=>match setAttr C.mark x f v u with
   | some u=>.ok .next E u
   | none=>.cn:=rfl
 refine aG (fR (nu X.loc e T (h _ _ _ _ _ _ _ _ _ _ X.Az I hm) λcr w po zs Ix s1 n1 e1 wP wS I1 L1 r1=>?_));refine aG (fQ (aG (fR ?_)));refine ny (setAttr C.mark w f v po) (λS=>?_) λrs S=>?_
 .simp only[S]at e1;exact absurd e1 T
 ·
  simp only[S]at e1;refine cJ (λhw hv=>?_) (yR S);refine ut X.base X.dB I1 (r1.val hw) ((hx.val hv).mono wP) S λh' AT I2 m2=>IO ?_
  exact e1▸(Gc (n1.trans ⟨_,_,rfl⟩) wP (wS.trans m2) rfl I2 L1 trivial)
theorem KQ{o i:Expr}{mo mi:ME}{pos:jy}(h:ec P C n F o mo)(h2:ec P C n F i mi):ya P C n F (.Subscript o i pos) (.sub mo mi):=by
 intro Z m Rc Ro A M G u ls E s x v X I hm hx T;have e:store C (.sub mo mi) v E u=(ev C mo E u).then E λx u=>(ev C mi E u).then E λy u=>match setItem C.mark x y v u with
   | some u=>.ok .next E u
   | none=>.cn:=rfl
 refine aG (fR (nu X.loc e T (h _ _ _ _ _ _ _ _ _ _ X.Az I hm) λcr w po zs Ix s1 n1 e1 wP wS I1 L1 r1=>?_));refine aG (fR (vD n1 wP wS rfl L1 e1 T (h2 _ _ _ _ _ _ _ _ _ _ (X.to wP L1).Az I1 (ae hm wS.1)) λy k rs xz Fa s2 n2 e2 nz GT Re J I2 L2 r2=>?_));refine aG (fQ (aG (fR ?_)));refine ny (setItem C.mark w k v rs) (λS=>?_) λTk S=>?_
 .simp only[S]at e2;exact absurd e2 T
 ·
  simp only[S]at e2;refine jc (λhw hk hv=>?_) (yP S);refine ur I2 ((r1.val hw).mono Re) (r2.val hk) ((hx.val hv).mono nz) S λh' AT I3 m3=>IO ?_
  exact e2▸(Gc (n2.trans ⟨_,_,rfl⟩) nz (GT.trans m3) rfl I3 L2 trivial)
theorem exec_Assign{M:ja}{t GM:Expr}{pos:jy}(hsw:uN GM (some t) pos.line M=pure false)(hss:Aw [t] GM M=pure none):
  exec (.Assign [t] GM pos) M=(do vq pos;let v <-ou GM M;assignStores M v none ((mP [t] M).map (·.2))):=by
 have:exec (.Assign [t] GM pos) M=(do
   vq pos
   if <-uN GM (some t) pos.line M then do
    evalThenUse GM M λv=>assignAll v ((mP [t] M).map (·.2))
    pure .next
   else do
    let v <-ou GM M
    assignStores M v (<-Aw [t] GM M) ((mP [t] M).map (·.2))):=rfl
 refine this.trans ?_;rw[hsw,hss];rfl
noncomputable def CS(e:Expr):Bool:=e.ctorIdx != 22
theorem Aj{M:ja}{t:Expr}(h:CS t=true):(mP [t] M).map (·.2)=[assign t M]:=by
 cases t<;>first | rfl | exact gT h
theorem Hd{t:Expr}{mt:Tg}{e1:Expr}{a:ME}{pos:jy}(hst:CS t=true)(hsw:∀M,uN e1 (some t) pos.line M=pure false)(hss:∀M,Aw [t] e1 M=pure none)
  (h:ec P C n F e1 a) (ht:ya P C n F t mt):rG P C n F (.Assign [t] e1 pos) (.assign mt a):=by
 intro Z m Rc Ro A M G u ls E s X I hm T;have e:ex C (.assign mt a) E u=(ev C a E u).then E λv u=>store C mt v E u:=rfl
 rw[exec_Assign (hsw M) (hss M),Aj hst];refine aG (fQ (aG (nu X.loc e T (h _ _ _ _ _ _ _ _ _ _ X.Az I hm) λx v po zs Ix s1 n1 e1 wP wS I1 L1 r1=>?_)));rw[e1]at T ⊢;exact aG (cq (ht _ _ _ _ _ _ _ _ _ _ _ _ _ (X.to wP L1) I1 (ae hm wS.1) r1 T) (λJ J q=>bS (q.back n1 wP wS rfl rfl)) λJ J q=>q.back n1 wP wS rfl rfl)
end
theorem ve{mk:Nat}{op:Op}{x y:V}{u:St}(h:y.cD=false):ng mk op x y u=.cn:=by
 cases x<;>first | rfl | skip
 .refine ny y.pE (λhy=>?_) λb hy=>?_
  .show dc y.pE _=_;rw[hy];rfl
  .rw[iD hy]at h;cases h
 .refine ny y.rD (λhy=>?_) λb hy=>?_
  .show dc y.rD _=_;simp only[hy];rfl
  .rw[kz hy]at h;cases h
section
variable{P:PF}{C:Cx}{n:Nat}{F:Fv}
theorem Hb{i:Nat}{id:c8}{np pos:jy}{op:Op}{e1:Expr}{a:ME}(hn:CR F i id=true)(S:vK F i id=true)(h:ec P C n F e1 a):rG P C n F (.AugAssign (.Name id np) op.py e1 pos) (.ig (.ah i) op a):=by
 intro Z m Rc Ro A M G u ls E s X I hm T;refine d5 λGG Y=>?_
 refine mT (λh1 h2 h3 h4=>?_) (Bu hn);refine cJ (λ_ h5=>?_) (uY S);have e:ex C (.ig (.ah i) op a) E u=(match E[i]? with | some .av=>RE.cn | some v=>.ok v u | none=>.cn).then E λx u=>(ev C a E u).then E λy u=>(ng C.mark op x y u).then E λz u=>if i<E.length/\z.cD then .ok .next (E.set i z) u else .cn:=rfl
 obtain⟨v,hv,hu,e0⟩:∃v,E[i]?=some v/\v≠.av/\(match E[i]? with | some .av=>RE.cn | some v=>.ok v u | none=>.cn)=.ok v u:=by
  cases q:E[i]? with
  | none=>simp only[e,q]at T;exact absurd rfl T
  | some v=>
   refine⟨v,rfl,λz=>?_,?_⟩
   .subst z;rw[e,q]at T;exact absurd rfl T
   .cases v<;>first | rfl | (rw[e,q]at T;exact absurd rfl T)
 rw[e0,RE.iL]at e;refine Y ?_;refine wpAny_AugAssign_Name (HN X.Az I h1 h2 h3 hv hu λx r=>?_);refine nu X.loc e T (h _ _ _ _ _ _ _ _ _ _ X.Az I hm) λy w po zs Ix s1 n1 e1 wP wS I1 L1 r1=>?_
 have hw:w.cD=true:=by
  cases q:w.cD with
  | true=>rfl
  | false=>rw[ve q]at e1;exact absurd e1 T
 refine vD n1 wP wS rfl L1 e1 T (λh'=>ti I1 (r.mono wP) (r1.val hw) h') λz cr rs xz Fa s2 n2 e2 nz GT Re J I2 L2 r2=>?_
 by_cases hg:i<E.length/\cr.cD=true
 .rw[aF hg]at e2;refine yL (X.to nz L2) I2 h1 h5 hg.1 (r2.val hg.2) λm' SL s' n3 I3 L3 hR=>?_
  exact e2▸(Gc (n2.trans n3) nz GT hR I3 L3 trivial)
 .rw[aZ hg]at e2;exact absurd e2 T
theorem Fe{o e1:Expr}{mo a:ME}{f:eM}{tp pos:jy}{op:Op}(ho:ec P C n F o mo)(h:ec P C n F e1 a):rG P C n F (.AugAssign (.Attribute o f.str tp) op.py e1 pos) (.ig (.aS mo f) op a):=by
 intro Z m Rc Ro A M G u ls E s X I hm T;have e:ex C (.ig (.aS mo f) op a) E u=(ev C mo E u).then E λx u=>match getAttr x f u with
  | none=>.cn
  | some DE=>(ev C a E u).then E λy u=>(ng C.mark op DE y u).then E λz u=>match setAttr C.mark x f z u with
   | some u=>.ok .next E u
   | none=>.cn:=rfl
 refine wpAny_AugAssign_AttributeAny (nu X.loc e T (ho _ _ _ _ _ _ _ _ _ _ X.Az I hm) λx w po zs Ix s1 n1 e1 wP wS I1 L1 r1=>?_);refine ny (getAttr w f po) (λhg=>?_) λDE hg=>?_
 .rw[hg]at e1;exact absurd e1 T
 ·
  rw[hg]at e1;refine ux X.base X.dB I1 (r1.val (GC hg)) hg λcr ru=>?_
  refine vD (n1.trans ⟨_,_,rfl⟩) wP wS rfl L1 e1 T (h _ _ _ _ _ _ _ _ _ _ (X.to wP L1).Az I1 (ae hm wS.1)) λy v2 rs xz Fa s2 n2 e2 nz GT Re J I2 L2 r2=>?_
  have hv2:v2.cD=true:=by
   cases q:v2.cD with
   | true=>rfl
   | false=>rw[ve q]at e2;exact absurd e2 T
  refine vD n2 nz GT rfl L2 e2 T (λh'=>ti I2 (ru.mono Re) (r2.val hv2) h') λz v3 Tk as3 ls3 s3 n3 e3 WL mo3 le23 J I3 L3 r3=>?_
  refine ny (setAttr C.mark w f v3 Tk) (λS=>?_) λσ4 S=>?_
  .simp only[S]at e3;exact absurd e3 T
  ·
   simp only[S]at e3;refine cJ (λhw hv=>?_) (yR S);refine ut X.base X.dB I3 ((r1.val hw).mono (Re.trans le23)) (r3.val hv) S λh' AT I4 m4=>?_
   exact e3▸(Gc (n3.trans ⟨_,_,rfl⟩) WL (mo3.trans m4) rfl I4 L3 trivial)
noncomputable def OE(e:Expr):Bool:=e.ctorIdx != 26
theorem Hc{o i e1:Expr}{mo mi a:ME}{tp pos:jy}{op:Op}(hi:OE i=true)(ho:ec P C n F o mo)(h0:ec P C n F i mi)(h:ec P C n F e1 a):rG P C n F (.AugAssign (.Subscript o i tp) op.py e1 pos) (.ig (.sub mo mi) op a):=by
 intro Z m Rc Ro A M G u ls E s X I hm T;have e:ex C (.ig (.sub mo mi) op a) E u=(ev C mo E u).then E λx u=>(ev C mi E u).then E λk u=>match getItem x k u with
  | none=>.cn
  | some DE=>(ev C a E u).then E λy u=>(ng C.mark op DE y u).then E λz u=>match setItem C.mark x k z u with
   | some u=>.ok .next E u
   | none=>.cn:=rfl
 refine wpAny_AugAssign_SubscriptAny (nu X.loc e T (ho _ _ _ _ _ _ _ _ _ _ X.Az I hm) λx w po zs Ix s1 n1 e1 wP wS I1 L1 r1=>?_) (λov iv new=>by cases i<;>first | rfl | (exact gT hi;done));refine vD n1 wP wS rfl L1 e1 T (h0 _ _ _ _ _ _ _ _ _ _ (X.to wP L1).Az I1 (ae hm wS.1)) λy k rs xz Fa s2 n2 e2 nz GT Re J I2 L2 r2=>?_
 refine ny (getItem w k rs) (λhg=>?_) λDE hg=>?_
 .rw[hg]at e2;exact absurd e2 T
 ·
  rw[hg]at e2;refine cJ (λhw hk=>?_) (GB hg);refine(uv (GM:=o) (slice:=i) I2 ((r1.val hw).mono Re) (r2.val hk) hg λcr ru=>?_).1;refine vD n2 nz GT rfl L2 e2 T (h _ _ _ _ _ _ _ _ _ _ (X.to nz L2).Az I2 (ae hm GT.1)) λz v3 Tk as3 ls3 s3 n3 e3 WL mo3 le23 J I3 L3 r3=>?_
  have hv3:v3.cD=true:=by
   cases q:v3.cD with
   | true=>rfl
   | false=>rw[ve q]at e3;exact absurd e3 T
  refine vD n3 WL mo3 rfl L3 e3 T (λh'=>ti I3 (ru.mono le23) (r3.val hv3) h') λz' v4 σ4 as4 ls4 s4 n4 e4 le4 mo4 le34 J I4 L4 r4=>?_
  refine ny (setItem C.mark w k v4 σ4) (λS=>?_) λσ5 S=>?_
  .simp only[S]at e4;exact absurd e4 T
  ·
   simp only[S]at e4;refine jc (λ_ _ hv=>?_) (yP S);refine ur I4 ((r1.val hw).mono (Re.trans (le23.trans le34))) ((r2.val hk).mono (le23.trans le34)) (r4.val hv) S λh' AT I5 m5=>?_
   exact e4▸(Gc (n4.trans ⟨_,_,rfl⟩) le4 (mo4.trans m5) rfl I5 L4 trivial)
theorem rS{t:Expr}{r:List Expr}{M:ja}(h:noStar (t::r)=true):mP (t::r) M=(false,assign t M)::mP r M/\noStar r=true:=by
 cases t<;>first | exact⟨rfl,h⟩ | (exact gT h;done)
theorem tj{M:ja}:∀ {es:List Expr},noStar es=true->(mP es M).length=es.length/\(mP es M).findIdx? (·.1)=none
 | [],_=>⟨rfl,rfl⟩
 | e::r,h=>by
  refine cJ (λh1 h2=>?_) (rS (M:=M) h)
  refine cJ (λh3 h4=>?_) (tj (M:=M) h2)
  rw[h1]
  refine⟨by simp only[dh,dh,h3],?_⟩
  refine List.findIdx?_cons.trans ?_;rw[h4]
  rfl
set_option tactic.hygienic true in
theorem FV{es:List Expr}{ts:List Tg}(H:F2 (ya P C n F) es ts):noStar es=true->∀(Z:jC) (m:c8->Option Value) (Rc Ro:List (aA×di)) (A:cS) (M:ja) (G:List aA) (u:St) (ls:List (List (aA×di))) (E:List V) (s:aL) (xs:List Value) (vs:List V),
  SC P Z F M m Rc A n G E->Inv Z m G u ls (Rc++Ro) s.heap->C.mark<=u.length->ft G xs vs->stores C ts vs E u≠.cn ->
  bT (bO P.prog P.w) A (assignInOrder ((mP es M).map (·.2)) xs) (λJ s'=>QX Z F M Ro C.mark s G u Rc (stores C ts vs E u) .next s') (EX Z P.bad F M Ro C.mark s G u Rc (stores C ts vs E u)) s:=by
 induction H with
 | nil=>
  intro _ Z m Rc Ro A M G u ls E s xs vs X I hm hx T;cases hx with
  | nil=>
   exact assignInOrder_nil (Gc (gn.refl s) (bD _) (dF.refl _ _) rfl I X.loc trivial)
  | cons a b=>exact absurd rfl T
 | cons h _ ih=>
  rename_i e mt es ts _;intro S Z m Rc Ro A M G u ls E s xs vs X I hm hx T;refine cJ (λh1 h2=>?_) (rS (M:=M) S);rw[h1];cases hx with
  | nil=>exact absurd rfl T
  | cons hx0 hxs=>
   rename_i x v xs vs;have e0:stores C (mt::ts) (v::vs) E u=(store C mt v E u).next λE u=>stores C ts vs E u:=rfl
   refine assignInOrder_cons (cq (h _ _ _ _ _ _ _ _ _ _ _ _ _ X I hm (d6.of hx0) λq=>T (by refine e0.trans ?_;rw[q];rfl)) (λJ s' q=>?_) λb s' q=>?_)
   .refine d5 λGG Y=>?_
    obtain⟨fl,ρ2,rs,xz,Fa,Rc2,m2,e1,n2,l2,GT,I2,L2,hR2,v2⟩:=q;cases fl<;>first | exact v2.elim | skip
    refine Y ?_;rw[e0,e1]at T ⊢;exact cq (ih h2 _ _ _ _ _ _ _ _ _ _ _ _ _ (X.to l2 L2) I2 (ae hm GT.1) (ft.mono hxs l2) T) (λJ J q=>q.back n2 l2 GT hR2 rfl) λJ J q=>q.back n2 l2 GT hR2 rfl
   .obtain⟨sw,re,wT,AT,SL,m',ea,e1,e2,n1,l1,m1,I1,L,hR',v⟩:=q;exact⟨sw,re,wT,AT,SL,m',ea,by refine e0.trans ?_;rw[e1];rfl,e2,n1,l1,m1,I1,L,hR',v⟩
set_option tactic.hygienic true in
theorem IX{ts:List Tg}{v:V}{E:List V}{u:St}(h:store C (.eY ts) v E u≠.cn):∃a vs,v=.ref a/\u[a]?=some (.eY vs)/\vs.length=ts.length/\store C (.eY ts) v E u=stores C ts vs E u:=by
 cases v<;>first | exact absurd rfl h | skip
 rename_i a;have e:store C (.eY ts) (.ref a) E u=match u[a]? with | some (.eY vs)=>if vs.length=ts.length then stores C ts vs E u else .cn | _=>.cn:=rfl
 rw[e]at h ⊢;cases ho:u[a]? with
 | none=>rw[ho]at h;exact absurd rfl h
 | some o=>
  rw[ho]at h;cases o with
  | eY vs=>
   have h:(if vs.length=ts.length then stores C ts vs E u else RX.cn)≠.cn:=h
   by_cases hl:vs.length=ts.length
   .exact⟨a,vs,rfl,ho,hl,aF hl⟩
   .rw[aZ hl]at h;exact absurd rfl h
  | _=>exact absurd rfl h
theorem KP{es:List Expr}{ts:List Tg}{k:Nat}{pos:jy}(WE:F.calm=true)(S:noStar es=true)(H:F2 (ya P C n F) es ts):ya P C n F (.Tuple es k pos) (.eY ts):=by
 intro Z m Rc Ro A M G u ls E s x v X I hm hx T;refine iJ (IX T) λa vs=>mT λzn ho hl e=>?_;subst zn
 rw[e]at T ⊢;refine d5 λGG Y=>?_
 refine cP (sF hx) λb=>cJ λGo hxa=>?_;subst Go
 refine iJ (I.DS ho) λa1 wE=>jc λha kt r=>?_
 rw[hxa]at ha;obtain rfl:=aD ha;refine cJ (λh1 h2=>?_) (tj (M:=M) S);have l1:=r.len;have l2:=H.len;simp only[gq]at l1;refine Y ?_;refine assign_Tuple_tuple (X.xJ.handled WE) kt (by refine h1.trans ?_;lia) h2 λh' hk=>?_
 have I':=I.grow λb o e=>hk b o (uk (gR e)) e
 exact cq (FV H S _ _ _ _ _ _ _ _ _ _ { s with heap:=h' } _ _ X I' hm r T) (λJ J q=>q.back ⟨_,_,rfl⟩ (bD _) (dF.refl _ _) rfl rfl) λJ J q=>q.back ⟨_,_,rfl⟩ (bD _) (dF.refl _ _) rfl rfl
end
section
variable{f4:FA}{Z:jC}{bad:aA}{m:c8->Option Value}{G:List aA}{u:St}{ls:List (List (aA×di))}{R:List (aA×di)}{A:cS}{im:Value->aL->Prop}{s:aL}{M:ja}{l:List ja}{ea:aA}{tb:Bool}
theorem Inv.slots(I:Inv Z m G u ls R s.heap){B h':eJ}(h1:Z.base.StaysIn B)(h2:∀p∈ls.flatten++R,B.get? p.1=some p.2)(h3:B.StaysIn h')(k:s.heap.UpToSlots h'):Inv Z m G u ls R h':=
 ⟨⟨k.ns I.fr.ns,λb o e=>h3 b o (h1 b o e),I.fr.above⟩,λp hp=>⟨h3 _ _ (h2 p hp),(I.news p hp).2⟩,I.nodup,I.rel,λp hp=>k.ns (I.outer p hp),I.apart⟩
theorem vX(I:Inv Z m G u ls R s.heap){B:eJ}(hB:∀f∈Z.L::Z.fr.map (·.1),B.get? f=none):∀ {l:List ja},(∀e∈l,e.scope.kind≠.module/\∃L,e.frame=some L/\L∈Z.L::Z.fr.map (·.1))->s.heap.FunFrames B l
 | [],_=>trivial
 | e::r,h=>by
  obtain⟨h1,L,h2,h3⟩:=h e (.head _)
  refine⟨h1,⟨L,?_⟩,vX I hB λe he=>h e (.tail _ he)⟩
  have dict:∃mm,s.heap.Ns L mm:=by
   refine bN (aO.mp h3) (λKM=>?_) λh3=>?_
   .subst KM;exact⟨m,I.fr.ns⟩
   .refine cP (bj.mp h3) λp=>cJ λhp zn=>?_;subst zn
    exact⟨p.2,I.outer p hp⟩
  refine Kv dict λmm o es ep=>jc λho hd _=>?_
  exact⟨o,h2,hB L h3,ho,λvs q=>by rw[hd]at q;cases q⟩
theorem vL{Q:Unit->aL->Prop}(hA:A.frames=some (M::l))(hf:M.frame=some Z.L)(hfr:∀e∈M::l,e.scope.kind≠.module/\∃L,e.frame=some L/\L∈Z.L::Z.fr.map (·.1))
  (I:Inv Z m G u ls R s.heap) (x:lI Z.base (Z.L::Z.fr.map (·.1)) (ls.flatten++R) bad ea s.heap tb)
  (q:∀h',Inv Z m G u ls R h'->lI Z.base (Z.L::Z.fr.map (·.1)) (ls.flatten++R) bad ea h' true->Q () { s with heap:=h' }):bT f4 A (DM (.ref ea) M) Q im s:=by
 refine d5 λGG Y=>?_
 obtain⟨B,oe,vs,a0,h1,h2,h3,h4,h5,h6,h7,h8,h9,h10⟩:=x;have FF:=vX I h4 hfr;have done:∀h',Heap.NotedW B (M::l) ea oe.cls a0 (DL Z.L) s.heap h'->Q () { s with heap:=h' }:=by
  rintro h' ⟨k1,k2,⟨oe',vs',kt,oT,ts,g1,⟨g2,g3⟩,g4,g5,g6,g7,g8,g9,g10⟩,k4⟩;exact q h' (I.slots h1 h2 k1 k4) ⟨B,oe',vs',a0,h1,h2,k1,h4,h5,g1,g2.trans h7,g4,g3,.inr ⟨kt,oT,ts,_,g5,g6,g7,g8,g9,g10,.inr ⟨Z.L,rfl,rfl⟩⟩⟩
 refine bN h10 (λKM=>?_) λOn=>?_
 .refine Y ?_;refine cJ (λ_ h10=>?_) KM;unfold DM;rw[hf];refine aG (Rd h6 h8 h10 ?_);exact wpAny_entryW hA FF hf h6 h3 h5 h8 (DC.mp h10).1 h9 done
 .refine Kv On λkt oT ts fl=>Tb λg1 g2 g3 g4 g5 g6 g7=>?_;rcases g7 with rfl | ⟨f,hf',rfl⟩
  .refine Y ?_;exact wpAny_noteFrame_onW hA FF hf ⟨oe,vs,kt,oT,ts,h6,⟨rfl,h9⟩,h8,g1,g2,g3,g4,g5,g6⟩ h3 h5 done
  .cases hf';refine Y ?_;refine wpAny_noteFrame_againW hf ⟨oe,vs,kt,oT,ts,h6,⟨rfl,h9⟩,h8,g1,g2,g3,g4,g5,g6⟩ ?_;exact q s.heap I ⟨B,oe,vs,a0,h1,h2,h3,h4,h5,h6,h7,h8,h9,.inr ⟨kt,oT,ts,_,g1,g2,g3,g4,g5,g6,.inr ⟨Z.L,rfl,rfl⟩⟩⟩
theorem oJ{Q:Unit->aL->Prop}{fr:Option aA}{frs':List aA}(hsub:∀f∈frs',f∈Z.L::Z.fr.map (·.1))(hh:fr=none\/∃f,fr=some f/\frs'.head?=some f)
  (I:Inv Z m G u ls R s.heap) (x:lI Z.base (Z.L::Z.fr.map (·.1)) (ls.flatten++R) bad ea s.heap true)
  (q:∀h',Inv Z m G u ls R h'->lI Z.base frs' (ls.flatten++R) bad ea h' true->Q () { s with heap:=h' }):bT f4 A (setFlight (.ref ea) fr) Q im s:=by
 refine d5 λGG Y=>?_
 obtain⟨B,oe,vs,a0,h1,h2,h3,h4,h5,h6,h7,h8,h9,h10⟩:=x;rcases h10 with⟨h10,_⟩ | ⟨kt,oT,ts,fl,g1,g2,g3,g4,g5,g6,g7⟩
 .cases h10
 have hsz3:=(DC.mp g6).1
 have other:∀b,b≠kt->(s.heap.update kt (Obj.mapFields (·.setIfInBounds 3 (fr.elim Value.none λf=>DL f)))).get? b=s.heap.get? b:=λb hb=>tG _ _ (Ne.symm hb)
 have noT:∀b o,s.heap.get? b=some o->(∀vs,o.data≠.fields vs)->b≠kt:=λb o hb hnf q=>by
  simp only[q,g4]at hb;injection hb with hb;subst hb;exact hnf ts g5
 have HR:B.StaysIn (s.heap.update kt (Obj.mapFields (·.setIfInBounds 3 (fr.elim Value.none λf=>DL f)))):=λb o e=>(other b λz=>by simp only[z,g2]at e;exact cj e).trans (h3 b o e)
 refine Y ?_;refine aG (Rd h6 h8 g1 ?_);refine wpAny_setField g4 g5 hsz3 (q _ (I.slots h1 h2 HR λb o hb hn=>⟨o.slots,(other b (noT b o hb hn)).trans hb⟩) ?_);refine⟨B,oe,vs,a0,h1,h2,HR,λf hf=>h4 f (hsub f hf),h5,(other ea (Ne.symm g3)).trans h6,h7,h8,h9,.inr ⟨kt,_,_,_,g1,g2,g3,iy _ g4 (Obj.isFreed_of_fields (NM g5 _)),NM g5 _,by simp[hsz3];rfl,?_⟩⟩;rcases hh with rfl | ⟨f,rfl,hf⟩
 .exact .inl rfl
 .exact .inr ⟨f,hf,rfl⟩
theorem E4{Q:Value->aL->Prop}(hf:M.frame=some Z.L)(I:Inv Z m G u ls R s.heap)(x:lI Z.base (Z.L::Z.fr.map (·.1)) (ls.flatten++R) bad ea s.heap true)
  (q:∀h',Inv Z m G u ls R h'->lI Z.base (Z.L::Z.fr.map (·.1)) (ls.flatten++R) bad ea h' true->Q (.ref ea) { s with heap:=h' }):cameBackBy f4 A M Q (.ref ea) s:=by
 refine d5 λGG Y=>?_
 obtain⟨B,oe,vs,a0,h1,h2,h3,h4,h5,h6,h7,h8,h9,h10⟩:=id x;rcases h10 with⟨h10,_⟩ | ⟨kt,oT,ts,fl,g1,g2,g3,g4,g5,g6,g7⟩
 .cases h10
 refine Y ?_;show bT f4 A (do
  if(<-field (.ref ea) 1)==.none then unsupported "frame.own-activation:exception-without-traceback"
  setFlight (.ref ea) M.frame) _ Q s
 refine aG (Rd h6 h8 g1 ?_)
 first
  | exact oJ (λJ h=>h) (.inr ⟨Z.L,hf,rfl⟩) I x q
  | exact aG (bS (oJ (λJ h=>h) (.inr ⟨Z.L,hf,rfl⟩) I x q))
theorem Es{Q:Unit->aL->Prop}(hA:A.frames=some (M::l))(hf:M.frame=some Z.L)(hfr:∀e∈M::l,e.scope.kind≠.module/\∃L,e.frame=some L/\L∈Z.L::Z.fr.map (·.1))
  (I:Inv Z m G u ls R s.heap) (x:lI Z.base (Z.L::Z.fr.map (·.1)) (ls.flatten++R) bad ea s.heap tb)
  (q:∀h',Inv Z m G u ls R h'->lI Z.base (Z.fr.map (·.1)) (ls.flatten++R) bad ea h' true->Q () { s with heap:=h' }):bT f4 A (leaving M (.ref ea)) Q im s:=by
 refine aG (vL hA hf hfr I x λh' I' x'=>?_);exact oJ (λf h=>.tail _ h) (.inl rfl) I' x' q
end
section
variable{P:PF}{Z:jC}{F:Fv}{M:ja}{m:c8->Option Value}{Rc Ro:List (aA×di)}{A:cS}{n mk:Nat}{G:List aA}{u:St}{E:List V}{s s':aL}
theorem SC.frames(X:SC P Z F M m Rc A n G E):∃l,A.frames=some (M::l)/\M.frame=some Z.L/\∀e∈M::l,e.scope.kind≠.module/\∃L,e.frame=some L/\L∈Z.L::Z.fr.map (·.1):=by
 refine d5 λGG Y=>?_
 refine cP X.frame λl=>cJ λh1 h2=>?_
 refine cP X.xJ.frames λl'=>cJ λh3 h4=>?_
 rw[h1]at h3;obtain rfl:=aD h3;refine Y ?_;exact⟨l,h1,h2,h4⟩
def o6(P:PF)(Z:jC)(F:Fv)(M:ja)(Ro:List (aA×di))(A:cS)(mk:Nat)(s:aL)(G:List aA)(u:St)(Rc:List (aA×di))(r0:RX)(r:pB)(s':aL):Prop:=match r with
 | .ok f=>QX Z F M Ro mk s G u Rc r0 f s'
 | .error e=>cameBackBy (bO P.prog P.w) A M (EX Z P.bad F M Ro mk s G u Rc r0) e s'
theorem vY(X:SC P Z F M m Rc A n G E){Nx:List aA}{Nt:St}{Rc0:List (aA×di)}{r:RX}{e:Value}(q:EX Z P.bad F M Ro mk s Nx Nt Rc0 r e s'):
  yg (bO P.prog P.w) A M (λe s'=>o6 P Z F M Ro A mk s Nx Nt Rc0 r (.error e) s') e s':=by
 refine d5 λGG Y=>?_
 refine cP X.frames λl=>jc λhA hf hfr=>?_
 obtain⟨sw,re,wT,AT,SL,m',ea,e1,rfl,n1,l1,m1,I,L,hR',v⟩:=q;refine Y ?_;refine vL hA hf hfr I v λh' I' x'=>(E4 hf I' x' λh'' I'' x''=>?_)
 exact⟨sw,re,wT,AT,SL,m',ea,e1,rfl,n1.trans ⟨h'',s'.toks,rfl⟩,l1,m1,I'',L,hR',x''.any⟩
end
section
variable{P:PF}{Z:jC}{F:Fv}{M:ja}{m:c8->Option Value}{Rc WF Ro Ro':List (aA×di)}{A:cS}{n mk:Nat}{G zs:List aA}{u po:St}{E:List V}{s s1 s':aL}{r:RX}{code:Code}
theorem o6.back{q:pB}(h:o6 P Z F M Ro A mk s1 zs po WF r q s')(S:gn s s1)(le:G <+: zs)(mo:dF mk u po)(hR:WF.map (·.1)=Rc.map (·.1)):o6 P Z F M Ro A mk s G u Rc r q s':=by
 cases q with
 | ok f=>exact QX.back h S le mo hR rfl
 | error e=>exact cq h (λJ J z=>z.back S le mo hR rfl) λJ J z=>z.back S le mo hR rfl
noncomputable def zq(k:List V->St->RX):RX->RX
 | .ok (.ret v) E u=>.ok (.ret v) E u
 | .ok _ E u=>k E u
 | .fY E u=>.fY E u
 | .cn=>.cn
def TurnEnd(c:aL->Prop)(R:pB->aL->Prop)(f:Cr)(s:aL):Prop:=match f with
 | .next=>c s
 | .cont=>c s
 | .brk=>R (.ok .next) s
 | .ret v=>R (.ok (.ret v)) s
theorem Bz{k:List V->St->RX}(h:zq k r≠.cn):r≠.cn:=λe=>h (aM _ e)
theorem EX.CU{k:List V->St->RX}{e:Value}(q:EX Z P.bad F M Ro mk s G u Rc r e s'):EX Z P.bad F M Ro mk s G u Rc (zq k r) e s':=by
 cases q with | mk sw re wT AT SL m' ea e1 e2 n1 l1 m1 I L hR v=>exact .mk sw re wT AT SL m' ea (aM _ e1) e2 n1 l1 m1 I L hR v
theorem By{k:List V->St->RX}{f:Cr}{s0:aL}{Nx:List aA}{Nt:St}{Rc0:List (aA×di)}(n0:gn s0 s)(l0:Nx <+: G)(mo0:dF mk Nt u)(hR0:Rc.map (·.1)=Rc0.map (·.1))(hd:∀ {r f s'},QX Z F M Ro' mk s G u Rc r f s'->QX Z F M Ro mk s G u Rc r f s')(q:QX Z F M Ro' mk s G u Rc r f s')(T:zq k r≠.cn)(X:SC P Z F M m Rc A n G E)
  (hk:∀sw re wT AT SL m',SC P Z F M m' SL A n wT sw->G <+: wT->Inv Z m' wT re AT (SL++Ro') s'.heap->dF mk u re->k sw re≠.cn->f6 (bO P.prog P.w) A code (o6 P Z F M Ro A mk s' wT re SL (k sw re)) s') :
  TurnEnd (f6 (bO P.prog P.w) A code (o6 P Z F M Ro A mk s0 Nx Nt Rc0 (zq k r))) (o6 P Z F M Ro A mk s0 Nx Nt Rc0 (zq k r)) f s':=by
 have q0:=(hd q).back n0 l0 mo0 hR0 rfl
 cases q with | mk fl ρ1 po zs Ix WF m1 e1 n1 l1 wS I1 L1 hR1 v1=>
 subst e1;have go:k ρ1 po≠.cn->f6 (bO P.prog P.w) A code (o6 P Z F M Ro A mk s0 Nx Nt Rc0 (k ρ1 po)) s':=λh=>kU (hk ρ1 po zs Ix WF m1 (X.to l1 L1) l1 I1 wS h) λJ J z=>z.back (n0.trans n1) (l0.trans l1) (mo0.trans wS) (hR1.trans hR0)
 cases fl<;>cases f<;>first | exact v1.elim | exact go T | exact q0
end
section
variable{P:PF}{C:Cx}{n:Nat}{F:Fv}
theorem FL{f4:FA}{A:cS}{test:Expr}{body:List Stmt}{M:ja}{R:pB->aL->Prop}{s:aL}{prog:pJ}{w:World}(hM:f4=bO prog w)
  (h:bT f4 A (AM test M (ou test M)) (λb s2=>if b=true then bT f4 A (execs body M) (TurnEnd (f6 f4 A (.whileLoop test body [] M) R) R) (yg f4 A M λe s'=>R (.error e) s') s2
    else R (.ok .next) s2) (yg f4 A M λe s'=>R (.error e) s') s):f6 f4 A (.whileLoop test body [] M) R s:=by
 subst hM;refine qm ?_;show bT _ A ((whileTurn test body [] M).onRaise (λx=>do DM x M;FI x)) _ _ s;refine Ra (aG (cq h (λb s2 q=>?_) λJ J z=>z));cases b with
 | false=>exact aG (mC (bS q))
 | true=>
  refine aG (cq q (λf s3 q=>?_) λJ J z=>z);cases f<;>first | exact bS ⟨rfl,q⟩ | exact bS q
theorem FN{e1:Expr}{c:MB}{body:List Stmt}{b:List MS}(h:qh P C n F e1 c)(hb:nh P C n F body b){Z:jC}{Ro:List (aA×di)}{A:cS}{M:ja}:∀(k:Nat) (m:c8->Option Value) (Rc:List (aA×di)) (G:List aA) (u:St) (ls:List (List (aA×di))) (E:List V) (s:aL),
  SC P Z F M m Rc A n G E->Inv Z m G u ls (Rc++Ro) s.heap->C.mark<=u.length->whileLoop (λE u=>nA C c E u) (λE u=>iH C b E u) k E u≠.cn ->
  f6 (bO P.prog P.w) A (.whileLoop e1 body [] M) (o6 P Z F M Ro A C.mark s G u Rc (whileLoop (λE u=>nA C c E u) (λE u=>iH C b E u) k E u)) s:=by
 intro k;induction k with
 | zero=>exactλJ J J J J J J J J J T=>absurd rfl T
 | succ k ih=>
  intro m Rc G u ls E s X I hm T;have e:whileLoop (λE u=>nA C c E u) (λE u=>iH C b E u) (k+1) E u=(nA C c E u).then E λt u=>if t then zq (λE u=>whileLoop (λE u=>nA C c E u) (λE u=>iH C b E u) k E u) (iH C b E u)else .ok .next E u:=rfl
  generalize whileLoop (λE u=>nA C c E u) (λE u=>iH C b E u) (k+1) E u=r0 at e T ⊢;refine FL rfl (cq (nu X.loc e T (h _ _ _ _ _ _ _ _ _ _ X.Az I hm) (db:=λt s2=>if t=true then bT (bO P.prog P.w) A (execs body M) (TurnEnd (f6 (bO P.prog P.w) A (.whileLoop e1 body [] M) (o6 P Z F M Ro A C.mark s G u Rc r0)) (o6 P Z F M Ro A C.mark s G u Rc r0)) (yg (bO P.prog P.w) A M λe s'=>o6 P Z F M Ro A C.mark s G u Rc r0 (.error e) s') s2 else o6 P Z F M Ro A C.mark s G u Rc r0 (.ok .next) s2) λt t' rs xz Fa s2 n2 e2 nz GT I2 L2 r2=>?_) (λJ J z=>z) λJ J z=>vY X z);cases r2;cases t with
  | false=>refine(aZ xQ).mpr ?_;rw[e2];exact Gc n2 nz GT rfl I2 L2 trivial
  | true=>
   rw[e2]at T ⊢;have X2:=X.to nz L2;have hm2:=ae hm GT.1;exact cq (hb _ _ _ _ _ _ _ _ _ _ _ X2 I2 hm2 (Bz T)) (λf s3 q=>By n2 nz GT rfl (λq=>q) q T X2 λsw re wT AT SL m' X' J I' mo' h'=>ih m' SL wT re AT sw s3 X' I' (ae hm2 mo'.1) h') λe s3 q=>vY X ((EX.CU q).back n2 nz GT rfl rfl)
theorem IQ{e1:Expr}{c:MB}{body:List Stmt}{b:List MS}{pos:jy}(h:qh P C n F e1 c)(hb:nh P C n F body b):rG P C n F (.While e1 body [] pos) (.while c b):=by
 intro Z m Rc Ro A M G u ls E s X I hm T;exact wpAny_While (kU (FN h hb qn m Rc G u ls E s X I hm T) λr s' q=>by cases r<;>exact q)
end
section
variable{Z:jC}{m:c8->Option Value}{G:List aA}{u:St}{ls:List (List (aA×di))}{R W nw:List (aA×di)}{h:eJ}
theorem Inv.J9(I:Inv Z m G u ls (W++nw) h){h':eJ}{a:aA}{o:di}(k:∀b o,h.get? b=some o->h'.get? b=some o)(ha:h'.get? a=some o)(Ww:h.get? a=none):Inv Z m G u ls (W++(a,o)::nw) h':=
 I.HD k ha Ww (by rw[<-am,<-am];exact AD) I.rel
theorem Inv.zR{c:aA}{o:di}(I:Inv Z m G u ls (W++(c,o)::nw) h){h':eJ}(k:Heap.ExtBut c h h'):Inv Z m G u ls (W++nw) h':=by
 have cm:=I.news (c,o) (by simp)
 have perm:((ls.flatten++(W++(c,o)::nw)).map (·.1)).Perm (c::(ls.flatten++(W++nw)).map (·.1)):=by
  have:(ls.flatten++(W++(c,o)::nw)).Perm ((c,o)::(ls.flatten++(W++nw))):=by
   rw[<-am,<-am];exact AD
  exact this.map _
 have nd:=I.nodup
 replace nd:=perm.nodup_iff.mp nd;replace nd:=eT.mp nd
 have sub:∀p∈ls.flatten++(W++nw),p∈ls.flatten++(W++(c,o)::nw):=λp hp=>by
  simp only[dk]at hp ⊢;rcases hp with hp | hp | hp<;>simp[hp]
 refine⟨⟨?_,λb x e=>k b x (λz=>?_) (I.fr.keep b x e),I.fr.above⟩,λp hp=>⟨k _ _ (λz=>nd.1 (bj.mpr ⟨p,hp,z⟩)) (I.news p (sub p hp)).1,(I.news p (sub p hp)).2⟩,nd.2,I.rel,λp hp=>?_,λp hp=>⟨(I.apart p hp).1,(I.apart p hp).2.1,λe=>?_⟩⟩
 .refine nG I.fr.ns λoL es ep=>cJ λhL r=>?_
  exact⟨oL,es,ep,k _ _ (Ne.symm cm.2.1) hL,r⟩
 .have:=cm.2.2;simp only[<-z,e]at this;exact nomatch this
 .refine nG (I.outer p hp) λoL es ep=>cJ λhL r=>?_
  exact⟨oL,es,ep,k _ _ (λz=>(I.apart p hp).2.2 (bj.mpr ⟨(c,o),by simp,z.symm⟩)) hL,r⟩
 .refine d5 λGG Y=>?_
  refine cP (bj.mp e) λq=>cJ λhq e=>?_
  refine Y ?_;exact(I.apart p hp).2.2 (bj.mpr ⟨q,sub q hq,e⟩)
end
inductive Fo where
 | lst (k:Nat) | eY (k:Nat) | gV (a b c:Int) | S1 (l:List Nat)
noncomputable def Fo.vals(K:Fo)(u:St):Option (List V):=match K with
 | .lst k=>(u[k]?).bind O.uf
 | .eY k=>match u[k]? with
  | some (.eY vs)=>some vs
  | _=>none
 | .gV a b c=>some (ie a c (gD a b c))
 | .S1 l=>some (l.map λn:Nat=>V.int n)
def rT(G:List aA)(K:Fo)(i:Nat)(o:di):Prop:=match K with
 | .lst k=>∃l,G[k]?=some l/\o.cls=.type "list_iterator" /\ o.data=.fields #[.ref l,.int i 0]
 | .eY k=>∃l,G[k]?=some l/\o.cls=.type "tuple_iterator" /\ o.data=.fields #[.ref l,.int i 0]
 | .gV a b c=>o={ cls:=.type "range_iterator",data:=.fields #[DL (a+(i:Nat)*c),DL ((gD a b c:Nat)-(i:Nat)),DL c] }
 | .S1 l=>∃b t,b.toList.map UInt8.toNat=l/\o.cls=.type "bytes_iterator" /\ o.data=.fields #[.bytes b t,.int i 0]
theorem rT.mono{G bs:List aA}{K:Fo}{i:Nat}{o:di}(h:rT G K i o)(le:G <+: bs):rT bs K i o:=by
 have up:∀ {k:Nat} {l:aA},G[k]?=some l->bs[k]?=some l:=λ{k l} e=>by
  refine cP le λt Go=>?_;clear le;subst Go
  refine(ci (aJ.mp e).1).trans ?_;exact e
 cases K<;>first | (refine cP h λl=>cJ λa b=>?_;exact⟨l,up a,b⟩) | exact h
theorem xy:∀(n:Nat) (a c:Int) (i:Nat),(ie a c n)[i]?=if i<n then some (.int (a+(i:Nat)*c))else none
 | 0,_,_,_=>by simp[Ji]
 | n+1,a,c,0=>by simp[tK]
 | n+1,a,c,i+1=>by
  simp only[tK,Hm,xy n (a+c) c i]
  by_cases h:i<n
  .refine(aF h).trans ?_
   congr 2
   rw[show((i+1:Nat))=(i:Int)+1 by lia,Cm];lia
  .refine(aZ h).trans ?_;rw[aZ (by lia)]
theorem DQ(a b c:Int):yh a b c=(gD a b c:Int):=by
 unfold yh gD;have h1:∀x y:Int,0<y->0<=x->0<=x/y+1:=λx y hy hx=>by have:=Int.ediv_nonneg hx (nt hy);lia
 split
 .split
  .exact(fj (h1 _ _ (by assumption) (by lia))).symm
  .rfl
 .split
  .by_cases hc:c=0
   .subst hc;simp
   .exact(fj (h1 _ _ (by lia) (by lia))).symm
  .rfl
section
variable{P:PF}{Z:jC}{m:c8->Option Value}{G:List aA}{u:St}{ls:List (List (aA×di))}{W nw:List (aA×di)}{A:cS}{im:Value->aL->Prop}{s:aL}
set_option tactic.hygienic true in
theorem qW(hh:A.handled=none){K:Fo}{i:Nat}{it:aA}{o:di}{vs:List V}(I:Inv Z m G u ls (W++(it,o)::nw) s.heap)(ho:rT G K i o)(hv:K.vals u=some vs){Q:Option Value->aL->Prop}
  (q1:∀v x o' s',vs[i]?=some v->gn s s'->dX G x v->rT G K (i+1) o'->Inv Z m G u ls (W++(it,o')::nw) s'.heap->Q (some x) s')
  (q2:∀s',vs[i]?=none->gn s s'->Inv Z m G u ls (W++nw) s'.heap->Q none s'):bT (bO P.prog P.w) A (pyNext (.ref it)) Q im s:=by
 refine d5 λGG Y=>?_
 have Tl:=(I.news (it,o) (by simp)).1
 cases K with
 | lst k=>
  refine cP ho λl=>jc λhl hc hd=>?_
  refine cP (aT.mp hv) λO=>cJ λh1 h2=>?_
  obtain⟨a,wE,ha,L,r⟩:=I.lst h1 h2;rw[hl]at ha;cases ha;have hI:s.heap.IsListIter it l i:=⟨o,Tl,hc,hd⟩;cases hq:vs[i]? with
  | some v=>
   obtain⟨x,hx,rx⟩:=r.get hq;refine Y ?_;refine wpAny_pyNext_list_item hI L (by rw[<-fZ];exact hx) λh' hi S=>?_
   obtain⟨o',WD,hc',hd'⟩:=hi;exact q1 v x o' _ hq ⟨_,_,rfl⟩ rx ⟨l,hl,hc',hd'⟩ (I.setCell WD S)
  | none=>
   have l1:=r.len
   have hn:wE[i]?=none:=by
    rw[<-fZ,kG,l1];exact kG.mp hq
   refine Y ?_;exact wpAny_pyNext_list_end hh hI L hn λh' hk=>q2 _ hq ⟨_,_,rfl⟩ (I.zR hk)
 | eY k=>
  obtain⟨l,hl,hc,hd⟩:=ho;have h1:u[k]?=some (.eY vs):=by
   cases hk:u[k]? with
   | none=>unfold Fo.vals at hv;dsimp only at hv;rw[hk]at hv;exact cj hv
   | some o=>
    unfold Fo.vals at hv;dsimp only at hv;rw[hk]at hv;cases o with
    | eY ws=>exact aM (λl=>some (O.eY l)) (aD hv)
    | _=>exact cj hv
  obtain⟨a,wE,ha,L,r⟩:=I.DS h1;rw[hl]at ha;cases ha;have hI:s.heap.IsTupleIter it l i:=⟨o,Tl,hc,hd⟩;cases hq:vs[i]? with
  | some v=>
   obtain⟨x,hx,rx⟩:=r.get hq;refine Y ?_;refine wpAny_pyNext_tuple_item hI L (by rw[<-fZ];exact hx) λh' hi S=>?_
   obtain⟨o',WD,hc',hd'⟩:=hi;exact q1 v x o' _ hq ⟨_,_,rfl⟩ rx ⟨l,hl,hc',hd'⟩ (I.setCell WD S)
  | none=>
   have l1:=r.len
   have hn:wE[i]?=none:=by
    rw[<-fZ,kG,l1];exact kG.mp hq
   refine Y ?_;exact wpAny_pyNext_tuple_end hh hI L hn λh' hk=>q2 _ hq ⟨_,_,rfl⟩ (I.zR hk)
 | gV a b c=>
  have WD:o=_:=ho
  have hq:=xy (gD a b c) a c i
  have hvs:=(aD hv).symm
  subst hvs;have hI:IsRangeIter s.heap it (a+i*c) ((gD a b c)-i) c:=by simp only[WD]at Tl;exact Tl
  by_cases hlt:i<gD a b c
  .rw[aF hlt]at hq;refine Y ?_;refine wpAny_pyNext_range_item hI (by lia) λh' hi S=>?_
   have e1:a+i*c+c=a+((i+1))*c:=by simp only[show((i+1:Nat))=(i:Int)+1 by lia,Cm];lia
   have e2:((gD a b c))-i-1=(gD a b c)-((i+1):Int):=by lia
   simp only[e1,e2]at hi;exact q1 _ _ _ _ hq ⟨_,_,rfl⟩ rfl rfl (I.setCell hi S)
  .rw[aZ hlt]at hq;refine Y ?_;exact wpAny_pyNext_range_end hh hI (by lia) λh' hk=>q2 _ hq ⟨_,_,rfl⟩ (I.zR hk)
 | S1 l=>
  refine iJ ho λb t=>jc λhb hc hd=>?_
  have hvs:=(aD hv).symm
  subst hvs;have hI:SW s.heap it b t i:=⟨o,Tl,hc,hd⟩;refine ny (b[i]?) (λhq=>?_) λy hq=>?_
  ·
   have hl:l[i]?=none:=by
    simp only[<-hb,cZ,fZ,hq];rfl
   refine Y ?_;exact KBw.next_end hh hI hq λh' hk=>q2 _ (by refine cZ.trans ?_;exact aM _ hl) ⟨_,_,rfl⟩ (I.zR hk)
  ·
   have hl:l[i]?=some y.toNat:=by
    simp only[<-hb,cZ,fZ,hq];rfl
   refine Y ?_;refine KBw.next_item hI hq λh' hi S=>?_
   refine cP hi λo'=>jc λWD hc' hd'=>?_
   exact q1 (.int y.toNat) _ o' _ (by refine cZ.trans ?_;exact aM _ hl) ⟨_,_,rfl⟩ rfl ⟨b,t,hb,hc',hd'⟩ (I.setCell WD S)
end
theorem HO{α β:Type}{c:Prop}[Decidable c]{y z:α}{l m:β}(h:(if c then some (y,l)else none)=some (z,m)):c/\z=y/\m=l:=by
 split at h
 .rename_i hc;cases h;exact⟨hc,rfl,rfl⟩
 .cases h
theorem H5{x:Int}(h : -3000000<=x)(h':x<=3000000):wG x=true:=iP.mpr ⟨bp (i5 (bc rfl) h),bp (Qa h' (bc rfl))⟩
theorem Jm{a b c:Int}(h:Bj a b c=true)(ht:gD a b c<=hV):Builtin.Range.small a b c=true:=by
 refine Tb (λ_ a1 a2 b1 b2 c1 c2=>?_) (bc h);have w:∀ {x:Int},-1000000<=x->x<=1000000->wG x=true:=λp q=>H5 (i5 (bc rfl) p) (i5 q (bc rfl))
 refine iP.mpr ⟨iP.mpr ⟨iP.mpr ⟨iP.mpr ⟨w a1 a2,w b1 b2⟩,w c1 c2⟩,?_⟩,Nm.mpr (.inr ?_)⟩
 .rw[DQ];exact H5 (i5 (bc rfl) (cL _)) (i5 (kI.mpr ht) (bc rfl))
 .split
  .exact H5 (i5 (bc rfl) (wC b1 (Nj c1 1))) (i5 (wC b2 (Nj c2 1)) (bc rfl))
  .exact H5 (i5 (bc rfl) (wC b1 (Nl c1 1))) (i5 (wC b2 (Nl c2 1)) (bc rfl))
section
variable{P:PF}{Z:jC}{m:c8->Option Value}{G:List aA}{u:St}{ls:List (List (aA×di))}{W nw:List (aA×di)}{A:cS}{im:Value->aL->Prop}{s:aL}
set_option tactic.hygienic true in
theorem oI{xv:Value}{v:V}{sK:Option (Nat×O)}{vs:List V}(I:Inv Z m G u ls (W++nw) s.heap)(hx:d6 s.heap G xv v)(hi:fU v u=some (sK,vs)){Q:Value->aL->Prop}
  (q:∀K it o s',gn s s'->(∀re,same sK re=true->K.vals re=some vs)->rT G K 0 o->Inv Z m G u ls (W++(it,o)::nw) s'.heap->Q (.ref it) s'):bT (bO P.prog P.w) A (NI xv) Q im s:=by
 refine d5 λGG Y=>?_
 have gV:∀ {r:aA} {a b c:Int} {t cr w:Tok},s.heap.get? r=some (yV a b c t cr w)->(if Bj a b c/\gD a b c<=hV then some (none,ie a c (gD a b c))else none)=some (sK,vs)->bT (bO P.prog P.w) A (NI (.ref r)) Q im s:=by
  intro r a b c t cr w hr h;refine d5 λGG Y=>?_
  refine jc (λhk Go zn=>?_) (HO h);subst Go;subst zn;refine Y ?_;refine wpAny_pyIter_range hr (Jm hk.1 hk.2) ?_;refine q (.gV a b c) _ _ _ ⟨_,_,rfl⟩ (λJ J=>rfl) ?_ (I.J9 (λJ J e=>bz _ e) (dD _ rfl) (kC _));show _=_;rw[DQ];simp
 cases v<;>first | exact cj hi | skip
 .rename_i l;refine iJ (Sy hx) λb t=>cJ λzn hb=>?_;subst zn
  refine jc (λ_ Go zn=>?_) (HO hi);subst Go;subst zn;refine Y ?_;exact Rn (q (.S1 l) _ _ _ ⟨_,_,rfl⟩ (λJ J=>rfl) ⟨b,t,hb,rfl,rfl⟩ (I.J9 (λJ J e=>bz _ e) (dD _ rfl) (kC _)))
 .rename_i k;refine cP (sF hx) λa=>cJ λGo ha=>?_;subst Go
  refine cP (aT.mp hi) λo=>cJ λho hi=>?_
  have lst:∀ws,o.uf=some ws->(if ws.length<=hV then some (some (k,o),ws)else none)=some (sK,vs)->bT (bO P.prog P.w) A (NI (.ref a)) Q im s:=by
   intro ws hl S;refine d5 λGG Y=>?_
   refine jc (λ_ Go zn=>?_) (HO S);cases Go;subst zn;refine iJ (I.lst ho hl) λa1 wE=>jc λha1 L r=>?_
   rw[ha]at ha1;obtain rfl:=aD ha1;refine Y ?_;refine wpAny_pyIter_list L (q (.lst k) _ _ _ ⟨_,_,rfl⟩ (λre h=>?_) ⟨a,ha,rfl,rfl⟩ (I.J9 (λJ J e=>bz _ e) (dD _ rfl) (kC _)));refine(show Fo.vals (.lst k) re=(re[k]?).bind O.uf from rfl).trans ?_;exact(bc h)▸hl
  cases o
  .refine Y ?_;exact lst _ rfl hi
  .refine Y ?_;exact lst _ rfl hi
  .refine jc (λ_ Go zn=>?_) (HO hi);subst Go;subst zn;refine iJ (I.DS ho) λa1 wE=>jc λha1 L r=>?_
   rw[ha]at ha1;obtain rfl:=aD ha1;refine Y ?_;refine wpAny_pyIter_tuple L (q (.eY k) _ _ _ ⟨_,_,rfl⟩ (λre h=>?_) ⟨a,ha,rfl,rfl⟩ (I.J9 (λJ J e=>bz _ e) (dD _ rfl) (kC _)));show(match re[k]? with | some (.eY vs)=>some vs | _=>none)=_;rw[bc h]
  .obtain⟨a1,p,ha1,hp,t,cr,w,rfl⟩:=I.rel.at ho;rw[ha]at ha1;obtain rfl:=aD ha1;refine Y ?_;exact gV (I.news _ (bY _ (jr.mpr ⟨_,bU hp,.head _⟩))).1 hi
  .exact cj hi
 .refine Kv hx λr t cr w=>cJ λob4 hr=>?_;clear hx;subst ob4
  refine Y ?_;exact gV hr hi
end
theorem lI.sub{base:eJ}{frs:List aA}{led led':List (aA×di)}{bad e:aA}{h:eJ}{tb:Bool}(x:lI base frs led bad e h tb)(k:∀p∈led',p∈led):lI base frs led' bad e h tb:=by
 obtain⟨B,oe,vs,a0,h1,h2,h3,h4,h5,h6,h7,h8,h9,h10⟩:=x;exact⟨B,oe,vs,a0,h1,λp hp=>h2 p (k p hp),h3,h4,h5,h6,h7,h8,h9,h10⟩
section
variable{P:PF}{Z:jC}{F:Fv}{M:ja}{Rc Ro:List (aA×di)}{mk:Nat}{G:List aA}{u:St}{s s':aL}{it:aA}{o:di}{r:RX}
theorem QX.drop{f:Cr}(q:QX Z F M ((it,o)::Ro) mk s G u Rc r f s'):QX Z F M Ro mk s G u Rc r f s':=by
 obtain⟨fl,sw,re,wT,AT,SL,m',e1,n1,l1,m1,I,L,hR',v⟩:=q;exact⟨fl,sw,re,wT,AT,SL,m',e1,n1,l1,m1,I.zR (vu _ _),L,hR',v⟩
theorem EX.drop{e:Value}(q:EX Z P.bad F M ((it,o)::Ro) mk s G u Rc r e s'):EX Z P.bad F M Ro mk s G u Rc r e s':=by
 obtain⟨sw,re,wT,AT,SL,m',ea,e1,e2,n1,l1,m1,I,L,hR',v⟩:=q;refine⟨sw,re,wT,AT,SL,m',ea,e1,e2,n1,l1,m1,I.zR (vu _ _),L,hR',v.sub λp hp=>?_⟩;simp only[dk,aO]at hp ⊢;rcases hp with hp | hp | hp
 .exact .inl hp
 .exact .inr (.inl hp)
 .exact .inr (.inr (.inr hp))
theorem rT.cls{G:List aA}{K:Fo}{i:Nat}{o:di}(h:rT G K i o):∃n,o.cls=.type n/\["enumerate","zip","dict_itemiterator","dict_reverseitemiterator","odict_iterator","itertools.zip_longest","itertools.pairwise"].contains n=false:=by
 cases K with
 | lst k=>refine cP h λl=>jc λ_ hc _=>?_;exact⟨_,hc,by decide⟩
 | eY k=>refine cP h λl=>jc λ_ hc _=>?_;exact⟨_,hc,by decide⟩
 | gV a b c=>have:=h;subst this;exact⟨_,rfl,by decide⟩
 | S1 l=>refine iJ h λb t=>jc λ_ hc _=>?_;exact⟨_,hc,by decide⟩
theorem RZ{f4:FA}{A:cS}{im:Value->aL->Prop}{Q:Unit->aL->Prop}{target:Expr}{v:Value}(ho:s.heap.get? it=some o)(hc:∃n,o.cls=.type n/\["enumerate","zip","dict_itemiterator","dict_reverseitemiterator","odict_iterator","itertools.zip_longest","itertools.pairwise"].contains n=false)(q:Q () s):
  bT f4 A (wF target (.ref it) v) Q im s:=by
 refine cP hc λn=>cJ λhn hf=>?_
 have eY:bT f4 A (do
  let(.ref r,.ref a):=(fM it,v) | return
  let o <-load r
  match o.cls,o.data with
  | .type n,.fields vs=>
   if["enumerate","zip","dict_itemiterator","dict_reverseitemiterator","odict_iterator","itertools.zip_longest","itertools.pairwise"].contains n&&vs[0]?==some (DL a)then
    rule "for.unpacks-the-owned-tuple"
    updateField r 0 .none
  | _,_=>pure ()) Q im s:=by
  cases v<;>first | exact bS q | skip
  refine aG (wpAny_load ho ?_);rw[hn];cases o.data<;>first | exact bS q | skip
  dsimp only;exact hf▸(bS q)
 cases target<;>first | exact bS q | exact eY
end
section
variable{P:PF}{C:Cx}{n:Nat}{F:Fv}
noncomputable def zj(e:Expr):Bool:=e.ctorIdx != 7
theorem lw{e:Expr}{M:ja}{x:Value}(h:zj e=true):foldedSetIterable e M x=pure x:=by
 cases e<;>first | rfl | exact gT h
theorem EK{A:cS}{t:Expr}{body:List Stmt}{M:ja}{R:pB->aL->Prop}{s:aL}{prog:pJ}{w:World}{it:Value}
  (h:∀im,bT (bO prog w) A (pyNext it) (λr s1=>match r with
   | none=>R (.ok .next) s1
   | some v=>bT (bO prog w) A (wF t it v) (λJ s2=>bT (bO prog w) A (assign t M v) (λJ s3=>bT (bO prog w) A (execs body M) (TurnEnd (f6 (bO prog w) A (.forLoop t it body [] M) R) R) (yg (bO prog w) A M λe s'=>R (.error e) s') s3) (yg (bO prog w) A M λe s'=>R (.error e) s') s2) (yg (bO prog w) A M λe s'=>R (.error e) s') s1) im s):f6 (bO prog w) A (.forLoop t it body [] M) R s:=by
 refine qm ?_;show bT _ A ((forTurn t it body [] M).onRaise (λx=>do DM x M;FI x)) _ _ s;refine Ra (aG (fQ (aG (wpAny_onRaise (cq (h _) (λr s1 q=>?_) λJ J h'=>h')))));cases r with
 | none=>exact bS ⟨rfl,codeAny_block (mC q)⟩
 | some v=>
  refine aG (cq q (λJ s2 q=>aG (cq q (λJ s3 q=>aG (cq q (λf s4 q=>?_) λJ J z=>z)) λJ J z=>z)) λJ J z=>z);cases f<;>first | exact bS ⟨rfl,q⟩ | exact bS q
theorem Mg{t:Expr}{mt:Tg}{body:List Stmt}{b:List MS}(WE:F.calm=true)(ht:ya P C n F t mt)(hb:nh P C n F body b){Z:jC}{Ro:List (aA×di)}{A:cS}{M:ja}{K:Fo}{it:aA}{sK:Option (Nat×O)}{vs:List V}(hK:∀re,same sK re=true->K.vals re=some vs):
  ∀(r:List V) (i:Nat) (m:c8->Option Value) (Rc:List (aA×di)) (G:List aA) (u:St) (ls:List (List (aA×di))) (E:List V) (s:aL) (o:di),vs.drop i=r->SC P Z F M m Rc A n G E->Inv Z m G u ls (Rc++(it,o)::Ro) s.heap->rT G K i o->C.mark<=u.length ->
  forLoop (λv E u=>(store C mt v E u).next λE u=>iH C b E u) sK r E u≠.cn->f6 (bO P.prog P.w) A (.forLoop t (.ref it) body [] M) (o6 P Z F M Ro A C.mark s G u Rc (forLoop (λv E u=>(store C mt v E u).next λE u=>iH C b E u) sK r E u)) s:=by
 intro r;induction r with
 | nil=>
  intro i m Rc G u ls E s o hd X I ho hm T;have e:forLoop (λv E u=>(store C mt v E u).next λE u=>iH C b E u) sK [] E u=if same sK u then .ok .next E u else .cn:=rfl;rw[e]at T ⊢;have S:=AL λh=>T (aZ h)
  rw[aF S];refine EK λim=>qW (X.xJ.handled WE) I ho (hK _ S) (λv J J J hv=>?_) λs' J n' I'=>Gc n' (bD _) (dF.refl _ _) rfl I' X.loc trivial
  rw[dS (vp.mp hd)]at hv;exact nomatch hv
 | cons v r ih=>
  intro i m Rc G u ls E s o hd X I ho hm T;have e:forLoop (λv E u=>(store C mt v E u).next λE u=>iH C b E u) sK (v::r) E u=if same sK u then zq (forLoop (λv E u=>(store C mt v E u).next λE u=>iH C b E u) sK r) ((store C mt v E u).next λE u=>iH C b E u)else .cn:=rfl;have S:=AL λh=>T (e.trans (aZ h))
  rw[aF S]at e;rw[e]at T ⊢;have hv0:vs[i]?=some v:=by refine SQ.symm.trans ?_;exact aM _ hd
  refine EK λim=>qW (X.xJ.handled WE) I ho (hK _ S) (λv' x o' s1 hv n1 rx WD I1=>?_) λs' hv n' I'=>?_
  .cases hv0.symm.trans hv;have hne1:=Bz T;refine RZ (I1.news (it,o') (bX _ (bX _ (.head _)))).1 WD.cls ?_;refine cq (ht _ _ _ _ _ _ _ _ _ _ _ _ _ X I1 hm (d6.of rx) λq=>hne1 (by rw[q];rfl)) (λJ s2 q=>?_) λe s2 q=>?_
   .refine d5 λGG Y=>?_
    cases q with | mk fl ρ2 rs xz Fa Rc2 m2 e2 n2 l2 GT I2 L2 hR2 v2=>
    cases fl<;>first | exact v2.elim | skip
    refine Y ?_;rw[e2]at T hne1 ⊢;have X2:=X.to l2 L2;have n12:=n1.trans n2;refine cq (hb _ _ _ _ _ _ _ _ _ _ _ X2 I2 (ae hm GT.1) hne1) (λf s3 q=>?_) λe s3 q=>vY X ((EX.CU (EX.drop q)).back n12 l2 GT hR2 rfl)
    refine By n12 l2 GT hR2 QX.drop q T X2 λsw re wT AT SL m' X' l' I' mo' h'=>?_
    exact ih (i+1) m' SL wT re AT sw s3 o' (by refine DI.symm.trans ?_;exact aM _ hd) X' I' (WD.mono (l2.trans l')) (ae hm (GT.trans mo').1) h'
   .refine vY X ((EX.CU ?_).back n1 (bD _) (dF.refl _ _) rfl rfl);have q:=EX.drop q;cases q with | mk ρ2 rs xz Fa Rc2 m2 ea e2 e3 n2 l2 GT I2 L2 hR2 v2=>
    exact .mk ρ2 rs xz Fa Rc2 m2 ea (by rw[e2];rfl) e3 n2 l2 GT I2 L2 hR2 v2
  .rw[hv0]at hv;cases hv
theorem O9{t e1:Expr}{mt:Tg}{mi:ME}{body:List Stmt}{b:List MS}{pos:jy}(WE:F.calm=true)(hset:zj e1=true)(h:ec P C n F e1 mi)(ht:ya P C n F t mt)(hb:nh P C n F body b):rG P C n F (.For t e1 body [] pos) (.for mt mi b):=by
 intro Z m Rc Ro A M G u ls E s X I hm T;have e:ex C (.for mt mi b) E u=(ev C mi E u).then E λx u=>match fU x u with
  | none=>.cn
  | some (sK,vs)=>forLoop (λv E u=>(store C mt v E u).next λE u=>iH C b E u) sK vs E u:=rfl
 generalize ex C (.for mt mi b) E u=r0 at e T;refine wpAny_For (nu X.loc e T (h _ _ _ _ _ _ _ _ _ _ X.Az I hm) λxv v po zs Ix s1 n1 e1 wP wS I1 L1 r1=>?_) (λx=>lw hset);refine ny (fU v po) (λhi=>?_) λp hi=>?_
 .simp only[hi]at e1;exact absurd e1 T
 ·
  obtain⟨sK,vs⟩:=p;simp only[hi]at e1;subst e1;refine oI I1 r1 hi λK it o1 s2 n2 hK ho1 I2=>?_
  exact kU (Mg WE ht hb hK vs 0 m Rc zs po Ix E s2 o1 rfl (X.to wP L1) I2 ho1 (ae hm wS.1) T) λr s' q=>by
   have q:=o6.back q (n1.trans n2) wP wS rfl
   cases r<;>exact q
end
noncomputable def gY(cells:List (c8×aA)):List (c8×jV)->List (c8×aA)->List (c8×aA)
 | [],At=>At
 | (x,k)::r,At=>if k==.free then(match cells.lookup x with
   | some c=>gY cells r ((x,c)::At)
   | none=>gY cells r At)else gY cells r At
theorem A0{scope:eK}{M:ja}(h:∀x,(x,dt)∈scope.names->(M.cells.lookup x).isSome=true):closureFor scope M=pure (gY M.cells scope.names []):=by
 have key:∀l At,(∀x,(x,dt)∈l->(M.cells.lookup x).isSome=true) ->
   (forIn l At λx r=>(if x.2==dt then(do let c <-cellOf M x.1;pure (ForInStep.yield ((x.1,c)::r)))else pure (ForInStep.yield r):Sem (ForInStep (List (c8×aA)))))=pure (gY M.cells l At):=by
  intro l;induction l with
  | nil=>intro At _;rfl
  | cons p r ih=>
   obtain⟨x,k⟩:=p;intro At hl;rw[List.forIn_cons];by_cases hk:(k==dt)=true
   .have hk':k=.free:=by simpa using hk
    subst hk';have S:=hl x (.head _);refine cP (iN.mp S) λc hc=>?_
    rw[aF (show(dt==dt)=true from rfl)];rw[show cellOf M x=pure c from by unfold cellOf;rw[hc]];simp only[pure_bind];refine(ih _ λy hy=>hl y (.tail _ hy)).trans ?_
    conv=>rhs;unfold gY
    rw[aF (show(dt==dt)=true from rfl),hc]
   .dsimp only;rw[aZ hk];simp only[pure_bind];refine(ih _ λy hy=>hl y (.tail _ hy)).trans ?_
    conv=>rhs;unfold gY
    rw[aZ hk]
 unfold closureFor
 first
  | exact key scope.names [] h
  | (have:=key scope.names [] h;rw[bind_pure];exact this)
theorem nc{cells:List (c8×aA)}:∀(l:List (c8×jV)) (At:List (c8×aA)),(∀y d,At.lookup y=some d->cells.lookup y=some d)->∀y d,(gY cells l At).lookup y=some d->cells.lookup y=some d
 | [],At,h,y,d,e=>h y d e
 | (x,k)::r,At,h,y,d,e=>by
  unfold gY at e
  split at e
  .split at e
   .rename_i c hc
    refine nc r _ (λz b q=>?_) y d e
    simp only[ew]at q
    split at q
    .rename_i hz
     have:z=x:=by simpa using hz
     subst this;obtain rfl:=aD q;exact hc
    .exact h z b q
   .exact nc r At h y d e
  .exact nc r At h y d e
set_option tactic.hygienic true in
theorem rf{cells:List (c8×aA)}{y:c8}{d:aA}(hd:cells.lookup y=some d):∀(l:List (c8×jV)) (At:List (c8×aA)),(∀y d,At.lookup y=some d->cells.lookup y=some d)->((y,dt)∈l\/At.lookup y=some d)->(gY cells l At).lookup y=some d
 | [],At,_,h=>h.elim (λh=>(nomatch h)) id
 | (x,k)::r,At,ha,h=>by
  unfold gY
  have up:∀c,cells.lookup x=some c->∀z b,A7 z ((x,c)::At)=some b->cells.lookup z=some b:=λc hc z b q=>by
   simp only[ew]at q
   split at q
   .rename_i hz
    have:z=x:=by simpa using hz
    subst this;obtain rfl:=aD q;exact hc
   .exact ha z b q
  split
  .rename_i hk
   split
   .rename_i c hc
    refine rf hd r _ (up c hc) ?_
    by_cases e:y=x
    .subst e
     right
     rw[hd]at hc;obtain rfl:=aD hc
     simp[ew]
    .rcases h with h | h
     .refine bN (aO.mp h) (λh=>?_) λh=>?_
      .injection h with h;subst h;exact absurd rfl e
      .exact .inl h
     .right
      simp only[ew,show(y==x)=false from by simpa using e]
      exact h
   .rename_i hn
    refine rf hd r At ha ?_
    refine bN h (λh=>?_) λh=>?_
    .refine bN (aO.mp h) (λh=>?_) λh=>?_
     .injection h with h;subst h;rw[hd]at hn;cases hn
     .exact .inl h
    .exact .inr h
  .rename_i hk
   refine rf hd r At ha ?_
   refine bN h (λh=>?_) λh=>?_
   .refine bN (aO.mp h) (λh=>?_) λh=>?_
    .cases h;exact absurd rfl hk
    .exact .inl h
   .exact .inr h
section
variable{f4:FA}{A:cS}{im:Value->aL->Prop}{s:aL}
theorem Gh{scope:eK}{globals:aA}{cl:List (c8×aA)}{qual:c8}{outer:ja}{Q:ja->aL->Prop}
  (q:Q (newEnv scope s.heap.objs.size globals (jX (s.heap.objs.size+1) scope.names cl) qual none .none (some outer) iI) { s with heap:=yf (s.heap.push { cls:=.type "dict",data:=.dict #[] }) scope.names }) :
  bT f4 A (r8 scope globals cl [] qual none .none (some outer)) Q im s:=by
 simp only[r8,Option.isSome_some,if_true];refine aG (wpAny_alloc ?_);refine aG (wpAny_layCells _ (λname kind cells=>by cases hkc:kind==mR<;>simp[hkc]) _ _ _ _ ?_);exact(DD ..)▸(aG (bS (bS q)))
theorem yT{P:PF}{G:List aA}{K:Fo}{i:Nat}{it:aA}{o:di}(Tl:s.heap.get? it=some o)(ho:rT G K i o){Q:Value->aL->Prop}(q:Q (.ref it) s):bT (bO P.prog P.w) A (NI (.ref it)) Q im s:=by
 cases K with
 | lst k=>obtain⟨l,_,hc,hd⟩:=ho;exact wpAny_pyIter_listiter ⟨o,Tl,hc,hd⟩ q
 | eY k=>obtain⟨l,_,hc,hd⟩:=ho;exact wpAny_pyIter_tupleiter ⟨o,Tl,hc,hd⟩ q
 | gV a b c=>
  have WD:o=_:=ho
  simp only[WD]at Tl;exact wpAny_pyIter_rangeiter Tl q
 | S1 l=>refine iJ ho λb t=>jc λ_ hc hd=>?_;exact KBw.pyIter_self ⟨o,Tl,hc,hd⟩ q
end
noncomputable def jC.inner(Z:jC)(m:c8->Option Value)(L:aA):jC:={ Z with L:=L,fr:=(Z.L,m)::Z.fr }
section
variable{Z:jC}{m m':c8->Option Value}{G wT:List aA}{u re:St}{ls AT:List (List (aA×di))}{R R':List (aA×di)}{h h':eJ}
theorem Inv.E3(I:Inv Z m G u ls R h):Z.base.objs.size<=h.objs.size:=dZ (az I.fr.above I.fr.ns.lt)
theorem Inv.enter(I:Inv Z m G u ls R h)(k:∀b o,h.get? b=some o->h'.get? b=some o){L:aA}(hL:h.get? L=none)(hb:Z.base.objs.size<=L)(hn:h'.Ns L m'):Inv (Z.inner m L) m' G u ls R h':=by
 have on:=I.grow k
 have ne:∀b o,h.get? b=some o->b≠L:=λb o e z=>by simp only[z,hL]at e;exact cj e
 refine⟨⟨hn,λb o e=>on.fr.keep b o e,hb⟩,λp hp=>⟨(on.news p hp).1,ne _ _ (I.news p hp).1,(I.news p hp).2.2⟩,I.nodup,I.rel,λp hp=>?_,λp hp=>?_⟩
 .rcases aO.mp hp with rfl | hp
  .exact on.fr.ns
  .exact on.outer p hp
 .rcases aO.mp hp with rfl | hp
  .refine nG I.fr.ns λo _ _=>cJ λho _=>?_
   refine⟨ne _ _ ho,?_,λe=>?_⟩
   .show Z.base.get? Z.L=none
    cases q:Z.base.get? Z.L with
    | none=>rfl
    | some o=>exact absurd (gR q) (fJ.mpr I.fr.above)
   .refine cP (bj.mp e) λp=>cJ λhp e=>?_
    exact(I.news p hp).2.1 e
  .refine d5 λGG Y=>?_
   refine nG (I.outer p hp) λo _ _=>cJ λho _=>?_
   refine Y ?_;exact⟨ne _ _ ho,(I.apart p hp).2.1,(I.apart p hp).2.2⟩
theorem Inv.LM{L:aA}(I:Inv Z m G u ls R h)(on:Inv (Z.inner m L) m' wT re AT R' h'):Inv Z m wT re AT R' h':=by
 refine⟨⟨on.outer _ (.head _),λb o e=>on.fr.keep b o e,I.fr.above⟩,λp hp=>⟨(on.news p hp).1,λe=>?_,(on.news p hp).2.2⟩,on.nodup,on.rel,λp hp=>on.outer p (.tail _ hp),λp hp=>⟨(I.apart p hp).1,(I.apart p hp).2.1,(on.apart p (.tail _ hp)).2.2⟩⟩;exact(on.apart (Z.L,m) (.head _)).2.2 (bj.mpr ⟨p,hp,e⟩)
end
noncomputable def K7(inner outer:eK):eK:=Cn inner { scope:=outer,locals:=0,globals:=0,cells:=[] }
theorem Og{inner:eK}{M:ja}{outer:eK}(h:M.scope=outer):Cn inner M=K7 inner outer:=by
 subst h;rfl
noncomputable def Fv.into(F:Fv)(inner:eK)(own:List Nat):Fv where
 names:=F.names
 Ql:=(aI F.names.length).map λi=>own.contains i||(F.Ql[i]?==some true&&(match F.names[i]? with
  | some x=>inner.names.lookup x==some .free
  | none=>false))
 scope:=K7 inner F.scope
 calm:=F.calm
theorem tN{F:Fv}{inner:eK}{own:List Nat}{i:Nat}{x:c8}(h:(F.into inner own).slot i=some x):F.names[i]?=some x/\(i∈own\/(F.slot i=some x/\inner.names.lookup x=some .free)):=by
 refine d5 λGG Y=>?_
 refine cJ (λhv hn=>?_) (slot_of h)
 .have hn:F.names[i]?=some x:=hn
  refine Y ?_;refine⟨hn,?_⟩;have hi:=(aJ.mp hn).1;have WJ:((aI F.names.length).map λi=>own.contains i||(F.Ql[i]?==some true&&(match F.names[i]? with
    | some x=>inner.names.lookup x==some .free
    | none=>false)))[i]?=some true:=hv
  simp only[cZ,fb hi]at WJ;simp only[AC,vm,hn,cF,aH,beq_iff_eq]at WJ;refine bN WJ (λh1=>?_) λOn=>?_
  .exact .inl (by simpa using h1)
  .refine cJ (λh1 h2=>?_) On;refine .inr ⟨?_,h2⟩;unfold Fv.slot;exact h1▸hn
theorem sy{M:ja}{x:c8}{k:jV}:∀ {names:List (c8×jV)},names.lookup x=some k ->
  (names.map λ(n,k)=>if(k==dt&&M.scope.kind==.function&&M.kindOf n==some .cell)then(n,mR)else(n,k)).lookup x=some (if(k==dt&&M.scope.kind==.function&&M.kindOf x==some .cell)then mR else k)
 | [],h=>by simp at h
 | (n,k')::r,h=>by
  rw[cN]
  refine MR (x==n) (λhx=>?_) λhx=>?_
  ·
   simp only[ew,hx]at h
   have ih:=sy (M:=M) h
   dsimp only
   split
   .simp only[ew,hx];exact ih
   .simp only[ew,hx];exact ih
  ·
   have:x=n:=by simpa using hx
   subst this
   simp only[ew,hx]at h
   obtain rfl:=aD h
   dsimp only
   split
   .simp only[ew,hx]
   .simp only[ew,hx]
theorem xw{inner outer:eK}{x:c8}{k:jV}(h:inner.names.lookup x=some k):(K7 inner outer).names.lookup x=some (if(k==dt&&outer.kind==.function&&outer.names.lookup x==some .cell)then mR else k):=
 sy h
theorem vF{inner outer:eK}{x:c8}{k:jV}(h:inner.names.lookup x=some k)(hk:(k==dt)=false):(K7 inner outer).names.lookup x=some k:=by
 refine(xw h).trans ?_;rw[hk];rfl
theorem Je{inner outer:eK}{x:c8}(h:inner.names.lookup x=some .free):(K7 inner outer).names.lookup x≠some .local:=by
 rw[xw h];cases (dt==dt&&outer.kind==.function&&outer.names.lookup x==some .cell)<;>exactλe=>nomatch e
def Wm(inner:eK)(No:ja)(R:List (aA×di))(m:c8->Option Value)(G:List aA)(y:c8)(w:V):Prop:=
 (inner.names.lookup y=some .local/\Cb G (m y) w)\/(inner.names.lookup y=some .cell/\∃c o x,No.cells.lookup y=some c/\(c,o)∈R/\o.data=.cell x/\Cb G x w)
theorem Dg{F:Fv}{M No:ja}{m m':c8->Option Value}{R R':List (aA×di)}{G:List aA}{E sw:List V}{inner:eK}{own:List Nat}(L:gB F M m R G E)(hl:sw.length=E.length)
  (ho:∀i y w,i∈own->F.names[i]?=some y->sw[i]?=some w->Wm inner No R' m' G y w) (hn:∀i,i∉own->sw[i]?=E[i]?)
  (hcl:∀i y d,F.slot i=some y->inner.names.lookup y=some .free->M.cells.lookup y=some d->No.cells.lookup y=some d)
  (hout:∀y,inner.names.lookup y=some .free->F.scope.names.lookup y=some .cell\/F.scope.names.lookup y=some .free) (hR:∀p∈R,p∈R'):gB (F.into inner own) No m' R' G sw:=by
 refine⟨hl.trans L.len,λi y w h1 h2 h3=>?_,λi y w h1 h2 h3=>?_⟩
 .have h4:=tN h1
  by_cases hi:i∈own
  .exact(ho i y w hi h4.1 h3).elim (·.2) λa=>absurd ((vF a.1 rfl).symm.trans h2) λe=>nomatch e
  .exact absurd h2 (Je (h4.2.resolve_left hi).2)
 .have h4:=tN h1
  by_cases hi:i∈own
  .exact(ho i y w hi h4.1 h3).elim (λa=>h2.elim (λh=>absurd ((vF a.1 rfl).symm.trans h) λe=>nomatch e) λh=>absurd ((vF a.1 rfl).symm.trans h) λe=>nomatch e) (·.2)
  .have h5:=h4.2.resolve_left hi
   refine nG (L.Ko i y w h5.1 (hout y h5.2) (hn i hi▸h3)) λc o z=>mT λg1 g2 g3 g4=>?_
   exact⟨c,o,z,hcl i y c h5.1 h5.2 g1,hR _ g2,g3,g4⟩
set_option tactic.hygienic true in
theorem tQ{cells:List (c8×aA)}:∀(l:List (c8×jV)) (At:List (c8×aA)) (y:c8) (d:aA),(gY cells l At).lookup y=some d->((y,dt)∈l/\cells.lookup y=some d)\/At.lookup y=some d
 | [],At,y,d,e=>.inr e
 | (x,k)::r,At,y,d,e=>by
  unfold gY at e
  have up:(((y,dt)∈r/\cells.lookup y=some d)\/At.lookup y=some d)->((y,dt)∈(x,k)::r/\cells.lookup y=some d)\/At.lookup y=some d:=λh=>h.imp (λz=>⟨.tail _ z.1,z.2⟩) id
  refine d5 λGG Y=>?_
  split at e
  .rename_i hk
   obtain rfl:k=.free:=by simpa using hk
   split at e
   .rename_i c hc
    refine bN (tQ r _ y d e) (λh=>?_) λh=>?_
    .refine Y ?_
     exact .inl ⟨.tail _ h.1,h.2⟩
    .simp only[ew]at h
     split at h
     .rename_i hz
      obtain rfl:y=x:=by simpa using hz
      obtain rfl:=aD h
      refine Y ?_
      exact .inl ⟨.head _,hc⟩
     .refine Y ?_
      exact .inr h
   .refine Y ?_
    exact up (tQ r At y d e)
  .refine Y ?_
   exact up (tQ r At y d e)
theorem u5:∀ {l:List (c8×jV)},(l.filter (·.2==.cell))=[]->∀(n:Nat) (At:List (c8×aA)) (h:eJ),jX n l At=At/\yf h l=h
 | [],_,_,_,_=>⟨rfl,rfl⟩
 | (x,k)::r,e,n,At,h=>by
  simp only[AI]at e
  by_cases hk:(k==mR)=true
  .rw[aF hk]at e;exact nomatch e
  .rw[aZ hk]at e
   unfold jX yf
   rw[aZ hk,aZ hk]
   exact u5 e n At h
theorem BU{x:c8}:∀ {l:List (c8×jV)},(l.filter (·.2==.cell))=[(x,.cell)]->∀(n:Nat) (At:List (c8×aA)) (h:eJ),jX n l At=(x,n)::At/\yf h l=h.push { cls:=.type "cell",data:=.cell none }
 | [],e,_,_,_=>by cases e
 | (y,k)::r,e,n,At,h=>by
  rw[AI]at e
  by_cases hk:(k==mR)=true
  .rw[aF hk]at e
   injection e with e1 e2
   injection e1 with e3 e4
   subst e3
   unfold jX yf
   rw[aF hk,aF hk]
   exact u5 e2 (n+1) _ _
  .rw[aZ hk]at e
   unfold jX yf
   rw[aZ hk,aZ hk]
   exact BU e n At h
noncomputable def xa(F:Fv)(inner:eK)(s:Nat)(x:c8):Bool:=
 F.names[s]?==some x&&inner.kind==.function&&((inner.names.lookup x==some .local&&inner.names.filter (·.2==.cell)==[])||(inner.names.lookup x==some .cell&&inner.names.filter (·.2==.cell)==[(x,.cell)])) &&
 inner.names.all (λp=>(p.2 != .local||inner.names.lookup p.1==some .local)&&(p.2 != .free||((F.scope.names.lookup p.1==some .cell||F.scope.names.lookup p.1==some .free)&&(aI F.names.length).any λi=>F.slot i==some p.1)))
structure lJ(F:Fv)(inner:eK)(s:Nat)(x:c8):Prop where
 slot:F.names[s]?=some x
 kind:inner.kind=.function
 ah:(inner.names.lookup x=some .local/\inner.names.filter (·.2==.cell)=[])\/(inner.names.lookup x=some .cell/\inner.names.filter (·.2==.cell)=[(x,.cell)])
 loc:∀p∈inner.names,p.2=.local->inner.names.lookup p.1=some .local
 free:∀y,(y,dt)∈inner.names->(F.scope.names.lookup y=some .cell\/F.scope.names.lookup y=some .free)/\∃i,i<F.names.length/\F.slot i=some y
theorem tP{F:Fv}{inner:eK}{s:Nat}{x:c8}(h:xa F inner s x=true):lJ F inner s x:=by
 simp only[xa,aH,cF,beq_iff_eq,cM,bne_iff_ne,nO,bW]at h;refine cJ (λWv h4=>?_) h;obtain⟨⟨h1,h2⟩,h3⟩:=Wv;exact⟨h1,h2,h3,λp hp hl=>(h4 p hp).1.resolve_left λz=>z hl,λy hy=>(h4 _ hy).2.resolve_left λz=>z rfl⟩
section
variable{Z:jC}{m m':c8->Option Value}{G:List aA}{u:St}{ls:List (List (aA×di))}{R:List (aA×di)}{h h':eJ}{C:aA}
theorem Inv.U7(I:Inv Z m G u ls R h)(h1:C≠Z.L)(h2:Z.base.get? C=none)(h3:∀p∈ls.flatten++R,p.1≠C)(h4:∀p∈Z.fr,p.1≠C)(S:mD C h h'):Inv Z m G u ls R h':=
 ⟨⟨I.fr.ns.sameBut S (Ne.symm h1),λb o e=>(S.2 b λz=>by simp only[z,h2]at e;exact cj e).trans (I.fr.keep b o e),I.fr.above⟩,λp hp=>⟨(S.2 _ (h3 p hp)).trans (I.news p hp).1,(I.news p hp).2⟩,I.nodup,I.rel,
  λp hp=>(I.outer p hp).sameBut S (h4 p hp),I.apart⟩
theorem Inv.Um(on:Inv (Z.inner m C) m' G u ls R h):Z.base.get? C=none:=by
 cases q:Z.base.get? C with
 | none=>rfl
 | some o=>exact absurd (gR q) (fJ.mpr on.fr.above)
theorem Inv.Uo{a:aA}{o:di}{O:O}(I:Inv Z m G u ls ((a,o)::R) h)(P:jF Z.dB Z.base (G++[a]) a O [(a,o)]):Inv Z m (G++[a]) (u++[O]) (ls++[[(a,o)]]) R h:=by
 have e:(ls++[[(a,o)]]).flatten++R=ls.flatten++(a,o)::R:=by simp
 exact⟨I.fr,by simp only[e];exact I.news,by rw[e];exact I.nodup,I.rel.push P,I.outer,by exact e▸I.apart⟩
theorem Inv.Ia:∀ {W:List (aA×di)},Inv Z m G u ls (W++R) h->Inv Z m G u ls R h
 | [],I=>I
 | (c,o)::W,I=>Inv.Ia (W:=W) (Inv.zR (W:=[]) (nw:=W++R) I (vu _ _))
end
def M9(inner:eK)(No:ja)(x:c8)(own:List (aA×di)):Prop:=
 (inner.names.lookup x=some .local/\own=[])\/(inner.names.lookup x=some .cell/\∃c o v,own=[(c,o)]/\No.cells.lookup x=some c/\o.data=.cell v)
section
variable{P:PF}{Z:jC}{F:Fv}{m:c8->Option Value}{R:List (aA×di)}{A:cS}{M:ja}{n:Nat}{G:List aA}{u:St}{ls:List (List (aA×di))}{E:List V}{s:aL}{inner:eK}{sl:Nat}{x:c8}
theorem lJ.Sx(K:lJ F inner sl x)(L:gB F M m R G E):closureFor inner M=pure (gY M.cells inner.names []):=by
 refine A0 λy hy=>?_
 refine d5 λGG Y=>?_
 obtain⟨hk,i,hi,S⟩:=K.free y hy;obtain⟨v,hv⟩:∃v,E[i]?=some v:=⟨_,cO (by simp only[L.len];exact hi)⟩;refine nG (L.Ko i y v S hk hv) λc _ _=>cJ λhc _=>?_
 refine Y ?_;exact aM _ hc
theorem zD{os:List Nat}(X:∀i j id,F.slot i=some id->F.slot j=some id->i=j)(h1:∀i j y,i∈os->j∈os->F.names[i]?=some y->F.names[j]?=some y->i=j)(h2:∀i y,i∈os->F.names[i]?=some y->inner.names.lookup y≠some .free)(i j:Nat)(id:c8)
  (a:(F.into inner os).slot i=some id) (b:(F.into inner os).slot j=some id):i=j:=
 have a:=tN a
 have b:=tN b
 a.2.elim (λx=>b.2.elim (λy=>h1 i j id x y a.1 b.1) λy=>absurd y.2 (h2 i id x a.1)) λx=>b.2.elim (λy=>absurd x.2 (h2 j id y b.1)) λy=>X i j id x.1 y.1
theorem lJ.no(K:lJ F inner sl x):inner.names.lookup x≠some .free:=λh=>K.ah.elim (λa=>nomatch a.1.symm.trans h) λa=>nomatch a.1.symm.trans h
theorem JN{Wr:List (aA×di)}(K:lJ F inner sl x)(X:xM P Z F M m R A n G E)(I:Inv Z m G u ls (Wr++R) s.heap){Q:ja->aL->Prop}{im:Value->aL->Prop}
  (q:∀No own m' s' C,gn s s'->C=No.locals->Inv (Z.inner m C) m' G u ls (own++(Wr++R)) s'.heap->M9 inner { No with scope:=Cn inner M } x own->rU (F.into inner [sl]) { No with scope:=Cn inner M } C ->
   (∀i y d,F.slot i=some y->inner.names.lookup y=some .free->M.cells.lookup y=some d->No.cells.lookup y=some d)->Q No s') :
  bT (bO P.prog P.w) A (r8 inner M.globals (gY M.cells inner.names []) [] M.qual none .none (some M)) Q im s:=by
 refine Gh ?_;generalize hC:s.heap.objs.size=C;refine d5 λGG Y=>?_
 have hLnone:s.heap.get? C=none:=by exact hC▸(kC _)
 have clAddr:∀y d,(gY M.cells inner.names []).lookup y=some d->d<C:=by
  intro y d e;refine d5 λGG Y=>?_
  refine bN (tQ _ _ _ _ e) (λKM=>?_) λh=>?_
  .refine cJ (λh1 h2=>?_) KM;obtain⟨hk,i,hi,S⟩:=K.free y h1;obtain⟨v,hv⟩:∃v,E[i]?=some v:=⟨_,cO (X.loc.len▸hi)⟩;refine nG (X.loc.Ko i y v S hk hv) λc o _=>jc λhc hm _=>?_
   rw[h2]at hc;obtain rfl:=aD hc;refine Y ?_;exact hC▸(I.R6 (p:=(d,o)) (by simp[hm]))
  .exact cj h
 have clInj:∀y z d,(gY M.cells inner.names []).lookup y=some d->(gY M.cells inner.names []).lookup z=some d->y=z:=λy z d h1 h2=>
  X.fF.inj y z d (nc _ [] (λJ J h=>nomatch h) y d h1) (nc _ [] (λJ J h=>nomatch h) z d h2)
 have notX:∀y,inner.names.lookup y=some .free->y≠x:=λy hy e=>K.no (e▸hy)
 have clHas:∀y d,inner.names.lookup y=some .free->M.cells.lookup y=some d->(gY M.cells inner.names []).lookup y=some d:=λy d h1 h2=>
  rf h2 _ [] (λJ J h=>nomatch h) (.inl (mem_of_lookup h1))
 have slots:=zD X.fF.apart (λi j y hi hj J J=>(bM.mp hi).trans (bM.mp hj).symm) λi y hi hy=>by
  rw[bM.mp hi,K.slot]at hy;obtain rfl:=aD hy;exact K.no
 have ek:∀cells,rU (F.into inner [sl]) { newEnv inner C M.globals cells M.qual none .none (some M) iI with scope:=Cn inner M } C↔∀x y c,cells.lookup x=some c->cells.lookup y=some c->x=y:=λcells=>
  ⟨λh=>h.inj,λh=>⟨Og X.fF.scope,K.kind,rfl,X.fF.globals,X.fF.builtins,h,slots⟩⟩
 have I1:Inv (Z.inner m C) (λJ=>none) G u ls (Wr++R) (s.heap.push { cls:=.type "dict",data:=.dict #[] }):=
  I.enter (λJ J e=>bz _ e) hLnone (hC▸I.E3) (by have:=Heap.Ns.new s.heap (.type "dict");exact hC▸this)
 refine bN K.ah (λKM=>?_) λOn=>?_
 .refine cJ (λhx hf=>?_) KM;refine cJ (λe1 e2=>?_) (u5 hf (C+1) (gY M.cells inner.names []) (s.heap.push { cls:=.type "dict",data:=.dict #[] }));refine Y ?_;rw[e1,e2];refine q _ [] _ _ C ⟨_,s.toks,rfl⟩ rfl I1 (.inl ⟨hx,rfl⟩) ((ek _).mpr clInj) λi y d J h1 h2=>clHas y d h1 h2
 .refine cJ (λhx hf=>?_) On;refine cJ (λe1 e2=>?_) (BU hf (C+1) (gY M.cells inner.names []) (s.heap.push { cls:=.type "dict",data:=.dict #[] }));refine Y ?_;rw[e1,e2];have hsz:(s.heap.push { cls:=.type "dict",data:=.dict #[] }).objs.size=C+1:=by rw[DD,hC]
  have I2:Inv (Z.inner m C) (λJ=>none) G u ls ((C+1,{ cls:=.type "cell",data:=.cell none })::(Wr++R)) ((s.heap.push { cls:=.type "dict",data:=.dict #[] }).push { cls:=.type "cell",data:=.cell none }):=by
   refine Inv.J9 (W:=[]) I1 (λJ J e=>bz _ e) ?_ ?_
   .have:=dD (s.heap.push { cls:=.type "dict",data:=.dict #[] }) (o:={ cls:=.type "cell",data:=.cell none }) rfl
    exact hsz▸this
   .have:=kC (s.heap.push { cls:=.type "dict",data:=.dict #[] })
    exact hsz▸this
  refine q _ [(C+1,_)] _ _ C ⟨_,s.toks,rfl⟩ rfl I2 (.inr ⟨hx,C+1,_,none,rfl,?_,rfl⟩) ((ek _).mpr ?_) ?_
  .show A7 x ((x,C+1)::_)=_
   simp
  .intro y z d h1 h2;have cut:∀w e,A7 w ((x,C+1)::gY M.cells inner.names [])=some e->(w=x/\e=C+1)\/(w≠x/\(gY M.cells inner.names []).lookup w=some e):=by
    intro w e h;simp only[ew]at h;by_cases hw:w=x
    .cases hw;simp at h;exact .inl ⟨rfl,h.symm⟩
    .rw[show(w==x)=false from by simpa using hw]at h;exact .inr ⟨hw,h⟩
   rcases cut y d h1 with⟨a1,a2⟩ | ⟨a1,a2⟩<;>rcases cut z d h2 with⟨b1,b2⟩ | ⟨b1,b2⟩
   .refine a1.trans ?_;simp only[b1]
   .exact absurd (clAddr _ _ b2) (by rw[a2];exact fJ.mpr (i4 _))
   .exact absurd (clAddr _ _ a2) (by rw[b2];exact fJ.mpr (i4 _))
   .exact clInj y z d a2 b2
  .intro i y d _ h1 h2;show A7 y ((x,C+1)::_)=_;simp only[ew,show(y==x)=false from by simpa using notX y h1];exact clHas y d h1 h2
def Vv(inner:eK)(No:ja)(x:c8)(cr:Value)(m:c8->Option Value)(own:List (aA×di)):Prop:=
 (inner.names.lookup x=some .local/\m x=some cr)\/(inner.names.lookup x=some .cell/\∃c o,No.cells.lookup x=some c/\(c,o)∈own/\o.data=.cell (some cr))
theorem BQ{Z':jC}{No:ja}{os:List Nat}{own nw:List (aA×di)}{mi:c8->Option Value}{cr:Value}{px:jy}(ek:rU (F.into inner os) No Z'.L)(hO:M9 inner No x own)(I:Inv Z' mi G u ls (own++nw) s.heap){Q:Unit->aL->Prop}{im:Value->aL->Prop}
  (q:∀own' mi' s',gn s s'->M9 inner No x own'->Inv Z' mi' G u ls (own'++nw) s'.heap->Vv inner No x cr mi' own'->(∀z,z≠x->mi' z=mi z)->Q () s') :
  bT (bO P.prog P.w) A (assign (.Name x px) No cr) Q im s:=by
 refine d5 λGG Y=>?_
 have hk:No.scope.kind=.function:=by rw[ek.scope];exact ek.kind
 have kind:∀ {k},inner.names.lookup x=some k->(k==dt)=false->No.kindOf x=some k:=λh T=>by
  simp only[fW,ek.scope];exact vF h T
 rcases hO with⟨hx,rfl⟩ | ⟨hx,c,o,v,rfl,hc,hd⟩
 .refine Y ?_;refine jU (Qd (kind hx rfl) (ek.locals▸I.fr.ns) (λh' hn hsb=>?_) (by rw[hk];rfl));rw[ek.locals]at hn hsb;exact q [] _ _ ⟨_,_,rfl⟩ (.inl ⟨hx,rfl⟩) (I.D4 hn hsb) (.inl ⟨hx,aF rfl⟩) λJ hz=>aZ hz
 .refine Y ?_;refine jU (Q9 hk (kind hx rfl) hc ⟨o,(I.news (c,o) (.head _ |> bX _)).1,hd⟩ λh' hcl hsb=>?_);refine cP hcl λo'=>cJ λWD hd'=>?_
  exact q [(c,o')] _ _ ⟨h',s.toks,rfl⟩ (.inr ⟨hx,c,o',some cr,rfl,hc,hd'⟩) (Inv.setCell (W:=[]) (nw:=nw) I WD hsb) (.inr ⟨hx,c,o',hc,.head _,hd'⟩) λJ J=>rfl
end
noncomputable def Ic(C:Cx)(c:Option MB)(xL:ME)(E:List V)(s:Nat)(v:V)(u:St):RE (List V):=
 (QM C c (E.set s v) u).bind λt u=>if t then(ev C xL (E.set s v) u).bind λr u=>if r.cD then .ok [r] u else .cn else .ok [] u
noncomputable def nW(l:List V)(u:St):RE V:=if l.length<=hV then alloc (.list l) u else .cn
theorem EQ{C:Cx}{xL it:ME}{s:Nat}{c:Option MB}{E:List V}{u:St}:ev C (.gu xL s it c) E u=(ev C it E u).bind λx u=>match fU x u with
  | none=>.cn
  | some (sK,vs)=>(compLoop (Ic C c xL E s) sK vs u).bind nW:=rfl
inductive Fs(P:PF)(C:Cx)(n:Nat)(F:Fv):List Expr->Option MB->Prop
 | none:Fs P C n F [] none
 | some {e:Expr} {b:MB}:qh P C n F e b->Fs P C n F [e] (some b)
theorem cV{α β:Type}{r:RE α}{k:α->St->RE β}{b:β}{re:St}(h:r.bind k=.ok b re):∃a u,r=.ok a u/\k a u=.ok b re:=by
 cases r with
 | ok a u=>exact⟨a,u,rfl,h⟩
 | fY _=>exact nomatch h
 | cn=>exact nomatch h
theorem GQ{l:List V}{u:St}(h:nW l u≠.cn):l.length<=hV/\nW l u=.ok (.ref u.length) (u++[.list l]):=by
 by_cases hl:l.length<=hV
 .exact⟨hl,aF hl⟩
 .exact absurd (aZ hl) h
section
variable{f:V->St->RE (List V)}{sK:Option (Nat×O)}{v:V}{r l:List V}{u re:St}
theorem MD(h:compLoop f sK [] u=.ok l re):same sK u=true/\l=[]/\u=re:=by
 have h:(if same sK u then RE.ok [] u else .cn)=RE.ok l re:=h
 by_cases S:same sK u=true
 .rw[aF S]at h;cases h;exact⟨S,rfl,rfl⟩
 .rw[aZ S]at h;cases h
noncomputable def Sj(l1:List V):RE (List V)->RE (List V)
 | .ok l' u=>.ok (l1++l') u
 | _=>.cn
noncomputable def QG(sK:Option (Nat×O))(x:RE (List V))(k:St->RE (List V))(u:St):RE (List V):=if same sK u then(match x with
 | .ok l1 po=>Sj l1 (k po)
 | _=>.cn)else .cn
theorem JM(h:compLoop f sK (v::r) u=.ok l re):same sK u=true/\∃l1 po l2,f v u=.ok l1 po/\compLoop f sK r po=.ok l2 re/\l1++l2=l:=by
 have h:QG sK (f v u) (compLoop f sK r) u=.ok l re:=h
 by_cases S:same sK u=true
 .refine⟨S,?_⟩;cases hf:f v u with
  | ok l1 po=>
   rw[hf]at h;have h:Sj l1 (compLoop f sK r po)=.ok l re:=(aF S).symm.trans h;cases hr:compLoop f sK r po with
   | ok l2 rs=>rw[hr]at h;cases h;exact⟨l1,po,l2,rfl,hr,rfl⟩
   | _=>rw[hr]at h;cases h
  | _=>rw[hf]at h;exact nomatch (aF S).symm.trans h
 .exact nomatch (aZ S).symm.trans h
end
theorem MF{f:V->St->RE (List V)}{sK:Option (Nat×O)}{vs:List V}{u:St}(h:(compLoop f sK vs u).bind nW≠.cn):∃l re,compLoop f sK vs u=.ok l re/\l.length<=hV/\(compLoop f sK vs u).bind nW=.ok (.ref re.length) (re++[.list l]):=by
 cases hr:compLoop f sK vs u with
 | cn=>rw[hr]at h;exact absurd rfl h
 | fY po=>
  exfalso
  cases vs with
  | nil=>
   refine d5 λGG Y=>?_
   have hr:(if same sK u then RE.ok [] u else .cn)=RE.fY po:=hr
   split at hr<;>exact nomatch hr
  | cons v r=>
   have h:QG sK (f v u) (compLoop f sK r) u=.fY po:=hr
   by_cases S:same sK u=true
   .cases hf:f v u with
    | ok l1 rs=>
     rw[hf]at h;have h:Sj l1 (compLoop f sK r rs)=.fY po:=(aF S).symm.trans h;cases hr:compLoop f sK r rs<;>rw[hr]at h<;>cases h
    | _=>rw[hf]at h;exact nomatch (aF S).symm.trans h
   .exact nomatch (aZ S).symm.trans h
 | ok l re=>
  rw[hr]at h;have z:=GQ h;exact⟨l,re,rfl,z.1,z.2⟩
structure LP where
 Z:jC
 k:Nat
 s0:aL
 Nx:List aA
 Nt:St
 D:aA
 inner:eK
 ce:ja
 x:c8
 Q:(c8->Option Value)->Prop
inductive Iz(p:LP)(kt:List aA->List (aA×di)->Prop)(us:List Value)(ws At:List V)(u:St)(s:aL):Prop where
 | mk (G:List aA) (ls:List (List (aA×di))) (m:c8->Option Value) (own:List (aA×di)) (wE:Array Value) (c:Nat) (t:List (aA×di)):gn p.s0 s->p.Nx <+: G->dF p.k p.Nt u->Inv p.Z m G u ls (own++(p.D,listOf wE c)::t) s.heap->kt G t ->
   M9 p.inner p.ce p.x own->p.Q m->ft G wE.toList At->ft G us ws->Iz p kt us ws At u s
inductive IT(K:Fo)(it:aA)(kt:List aA->List (aA×di)->Prop)(i:Nat)(G:List aA):List (aA×di)->Prop where
 | mk {o:di} {t:List (aA×di)}:rT G K i o->kt G t->IT K it kt i G ((it,o)::t)
def TM(kt:List aA->List (aA×di)->Prop):Prop:=∀G bs t,G <+: bs->kt G t->kt bs t
theorem IT.tm{K:Fo}{it:aA}{kt:List aA->List (aA×di)->Prop}{i:Nat}(h:TM kt):TM (IT K it kt i):=λJ J J le x=>by
 cases x with | mk a b=>exact .mk (a.mono le) (h _ _ _ le b)
noncomputable def Hz(im:Expr)(k:Nat)(t xL:Expr)(ifs:List Expr)(it At:Value)(M:ja)(v:Value):Sem Fin:=
 wF t it v >>= λJ=>assign t M v >>= λJ=>(forIn ifs true λc r=>if r=true then do let ok <-AM c M (ou c M);pure (ForInStep.yield ok)else pure (ForInStep.yield r)) >>= λok=>
  if ok=true then(ou xL M >>= λx=>call (.builtin "list.append") [At,x] >>= λJ=>pure ()) >>= λJ=>again (.compLoop im k it At M)else again (.compLoop im k it At M)
noncomputable def Be(pos:jy)(it:Value)(FM:Value->Sem Fin):Sem Fin:=vq pos >>= λJ=>pyNext it >>= λr=>match r with
 | none=>pure (.done .next)
 | some v=>FM v
theorem vZ(xL t i:Expr)(ifs:List Expr)(scope:eK)(pos:jy)(it At:Value)(M:ja):
  xR (.ListComp xL [⟨t,i,ifs,0⟩] scope pos) 0 it At M=Be i.pos it (Hz (.ListComp xL [⟨t,i,ifs,0⟩] scope pos) 0 t xL ifs it At M):=by rfl
section
variable{P:PF}{A:cS}{p:LP}{kt:List aA->List (aA×di)->Prop}{us:List Value}{ws:List V}{e0:Expr}{gs:List ua}{sc:eK}{pp:jy}{k:Nat}{it:aA}{s:aL}{R:pB->aL->Prop}{K:Fo}{pos:jy}{FM:Value->Sem Fin}
theorem DR(ht:xR (.ListComp e0 gs sc pp) k (.ref it) (.ref p.D) p.ce=Be pos (.ref it) FM)
  (h:∀Ee,bT (bO P.prog P.w) A (pyNext (.ref it)) (λr s1=>match r with
   | none=>R (.ok .next) s1
   | some v=>bT (bO P.prog P.w) A (FM v) (λpZ s2=>pZ=.again (.compLoop (.ListComp e0 gs sc pp) k (.ref it) (.ref p.D) p.ce)/\f6 (bO P.prog P.w) A (.compLoop (.ListComp e0 gs sc pp) k (.ref it) (.ref p.D) p.ce) R s2) (λJ J=>False) s1) Ee s) :
  f6 (bO P.prog P.w) A (.compLoop (.ListComp e0 gs sc pp) k (.ref it) (.ref p.D) p.ce) R s:=by
 refine qm ?_;show bT _ A ((xR (.ListComp e0 gs sc pp) k (.ref it) (.ref p.D) p.ce).onRaise (λx=>do DM x p.ce;FI x)) _ _ s;refine Ra ?_;rw[ht];refine aG (fQ (aG (cq (h _) (λr s1 z=>?_) λJ J z=>z)));cases r with
 | none=>exact bS z
 | some v=>exact cq z (λpZ s2 z=>z.1▸⟨rfl,z.2⟩) λJ J z=>z.elim
theorem xF{f:V->St->RE (List V)}{sK:Option (Nat×O)}{vs LL:List V}{σE:St}(hh:A.handled=none)(ht:xR (.ListComp e0 gs sc pp) k (.ref it) (.ref p.D) p.ce=Be pos (.ref it) FM)(hK:∀re,same sK re=true->K.vals re=some vs)
  (hb:∀i v cr At l u po s1,(At++l).length<=LL.length->f v u=.ok l po->Iz p (IT K it kt i) (cr::us) (v::ws) At u s1 ->
   bT (bO P.prog P.w) A (FM cr) (λpZ s2=>pZ=.again (.compLoop (.ListComp e0 gs sc pp) k (.ref it) (.ref p.D) p.ce)/\Iz p (IT K it kt i) us ws (At++l) po s2) (λJ J=>False) s1)
  (hE:∀s',Iz p kt us ws LL σE s'->R (.ok .next) s'):∀(r:List V) (i:Nat) (At l:List V) (u:St) (s:aL),vs.drop i=r->compLoop f sK r u=.ok l σE->At++l=LL->Iz p (IT K it kt i) us ws At u s ->
   f6 (bO P.prog P.w) A (.compLoop (.ListComp e0 gs sc pp) k (.ref it) (.ref p.D) p.ce) R s:=by
 intro r;induction r with
 | nil=>
  intro i At l u s hd hl ha dL;refine d5 λGG Y=>?_
  refine jc (λh1 Go zn=>?_) (MD hl);subst Go;subst zn;cases dL with | mk G ls m own wE c t n1 le mo I hT hO hQ ra ru=>
  cases hT with | mk ho hT=>
  refine Y ?_;refine DR ht λEe=>qW hh ((nN own _ _)▸I) ho (hK _ h1) (λv J J J hv=>?_) λs' J n2 I2=>?_
  .have:=vp.mp hd
   rw[dS this]at hv;exact cj hv
  .refine hE s' ?_;simp only[<-ha,aP];exact .mk G ls m own wE c _ (n1.trans n2) le mo ((nN own _ _).symm▸I2) hT hO hQ ra ru
 | cons v r ih=>
  intro i At l u s hd hl ha dL;refine d5 λGG Y=>?_
  obtain⟨h1,l1,po,l2,h2,h3,rfl⟩:=JM hl;have hv0:vs[i]?=some v:=by
   refine SQ.symm.trans ?_;exact aM _ hd
  cases dL with | mk G ls m own wE c t n1 le mo I hT hO hQ ra ru=>
  cases hT with | mk ho hT=>
  refine Y ?_;refine DR ht λEe=>qW hh ((nN own _ _)▸I) ho (hK _ h1) (λv' cr o' s1 hv n2 rx WD I2=>?_) λs' hv n2 I2=>?_
  .refine d5 λGG Y=>?_
   cases hv0.symm.trans hv;refine Y ?_;refine cq (hb (i+1) v cr At l1 u po s1 ?_ h2 (.mk G ls m own wE c _ (n1.trans n2) le mo ((nN own _ _).symm▸I2) (.mk WD hT) hO hQ ra (.cons rx ru))) (λpZ s2 z=>⟨z.1,ih (i+1) _ l2 po s2 ?_ h3 ?_ z.2⟩) λJ J z=>z
   .rw[<-ha,<-am];exact(cT _ _).length_le
   .refine DI.symm.trans ?_;exact aM _ hd
   .rw[am];exact ha
  .rw[hv0]at hv;cases hv
end
section
variable{P:PF}{C:Cx}{n:Nat}{F:Fv}{A:cS}
set_option tactic.hygienic true in
theorem KR{Z:jC}{m:c8->Option Value}{R:List (aA×di)}{M:ja}{G:List aA}{u re:St}{ls:List (List (aA×di))}{E:List V}{s:aL}{ifs:List Expr}{mc:Option MB}{t:Bool}{Q:Bool->aL->Prop}{im:Value->aL->Prop}(hc:Fs P C n F ifs mc)(X:xM P Z F M m R A n G E)(I:Inv Z m G u ls R s.heap)(hm:C.mark<=u.length)
  (he:QM C mc E u=.ok t re) (q:∀wT AT s',gn s s'->G <+: wT->dF C.mark u re->Inv Z m wT re AT R s'.heap->Q t s') :
  bT (bO P.prog P.w) A (forIn ifs true λc r=>if r=true then do let ok <-AM c M (ou c M);pure (ForInStep.yield ok)else pure (ForInStep.yield r)) Q im s:=by
 cases hc with
 | none=>cases he;exact wpAny_tests_nil (q G ls s (gn.refl s) (bD _) (dF.refl _ _) I)
 | some hb=>
  rename_i e b;have he:nA C b E u=.ok t re:=he;refine wpAny_tests_one (cq (hb _ _ _ _ _ _ _ _ _ _ X I hm (he▸λe=>nomatch e)) (λt' s6 z=>?_) λe s6 z=>?_)
  .obtain⟨t2,σ6,as6,ls6,h6,tk6,e6,rfl,l6,mo6,I6,hr⟩:=z;rw[he]at e6;refine d5 λGG Y=>?_
   cases e6;refine Y ?_;exact hr▸(q as6 ls6 _ ⟨_,_,rfl⟩ l6 mo6 I6)
  .obtain⟨σ6,as6,ls6,h6,tk6,ea,e6,_⟩:=z;rw[he]at e6;cases e6
theorem KG{Z:jC}{m:c8->Option Value}{R:List (aA×di)}{M:ja}{G:List aA}{u re:St}{ls:List (List (aA×di))}{E:List V}{s:aL}{e:Expr}{me:ME}{v:V}{Q:Value->aL->Prop}{im:Value->aL->Prop}(h:ec P C n F e me)(X:xM P Z F M m R A n G E)(I:Inv Z m G u ls R s.heap)(hm:C.mark<=u.length)
  (he:ev C me E u=.ok v re) (q:∀x wT AT s',gn s s'->G <+: wT->dF C.mark u re->Inv Z m wT re AT R s'.heap->d6 s'.heap wT x v->Q x s'):bT (bO P.prog P.w) A (ou e M) Q im s:=by
 refine cq (h _ _ _ _ _ _ _ _ _ _ X I hm (he▸λe=>nomatch e)) (λt' s6 z=>?_) λe s6 z=>?_
 .obtain⟨t2,σ6,as6,ls6,h6,tk6,e6,rfl,l6,mo6,I6,hr⟩:=z;rw[he]at e6;refine d5 λGG Y=>?_
  cases e6;refine Y ?_;exact q _ as6 ls6 _ ⟨_,_,rfl⟩ l6 mo6 I6 hr
 .obtain⟨σ6,as6,ls6,h6,tk6,ea,e6,_⟩:=z;rw[he]at e6;cases e6
variable{p:LP}{kt:List aA->List (aA×di)->Prop}{us:List Value}{ws:List V}{s:aL}
theorem H9{im xL:Expr}{k:Nat}{it:aA}{F0:Fv}{os:List Nat}{ifs:List Expr}{mc:Option MB}{me:ME}{px:jy}{E:List V}{sl:Nat}{v:V}{cr:Value}{At l:List V}{u po:St}(hT:TM kt)(ek:rU (F0.into p.inner os) p.ce p.Z.L)(he:ec P C n F xL me)(hc:Fs P C n F ifs mc)
  (hQ:∀m m':c8->Option Value,p.Q m->(∀z,z≠p.x->m' z=m z)->p.Q m') (hm:C.mark<=p.Nt.length) (TT:p.k=C.mark)
  (hX:∀G m own t,p.Nx <+: G->ft G (cr::us) (v::ws)->p.Q m->Vv p.inner p.ce p.x cr m own->kt G t->(∀wE c,xM P p.Z F p.ce m (own++(p.D,listOf wE c)::t) A n G (E.set sl v)))
  (hf:Ic C mc me E sl v u=.ok l po) (hl:(At++l).length<=4096) (dL:Iz p kt (cr::us) (v::ws) At u s) :
  bT (bO P.prog P.w) A (Hz im k (.Name p.x px) xL ifs (.ref it) (.ref p.D) p.ce cr) (λpZ s2=>pZ=.again (.compLoop im k (.ref it) (.ref p.D) p.ce)/\Iz p kt us ws (At++l) po s2) (λJ J=>False) s:=by
 cases dL with | mk G ls m own wE c t n1 le mo I ht hO hQm ra ru=>
 refine aG (tE rfl (aG (BQ ek hO I λown' m' s2 n2 hO' I2 st hz=>?_)));have X:=hX G m' own' t le ru (hQ _ _ hQm hz) st ht wE c;have hm2:=ae hm mo.1;refine iJ (cV hf) λb rs=>cJ λe1 e2=>?_
 refine aG (KR hc X I2 hm2 e1 λas3 ls3 s3 n3 WL mo3 I3=>?_);refine d5 λGG Y=>?_
 have n13:=n1.trans (n2.trans n3)
 have rus:∀ {bs},G <+: bs->ft bs us ws:=λle=>by
  cases ru with | cons _ r=>exact ft.mono r le
 cases b with
 | false=>
  cases e2;refine Y ?_;rw[aP];exact bS ⟨rfl,.mk as3 ls3 m' own' wE c t n13 (le.trans WL) (mo.trans (TT▸mo3)) I3 (hT _ _ _ WL ht) hO' (hQ _ _ hQm hz) (ra.mono WL) (rus WL)⟩
 | true=>
  refine iJ (cV e2) λr Tk=>cJ λe3 e4=>?_
  by_cases hr:r.cD=true
  .rw[aF hr]at e4;cases e4;refine Y ?_;refine aG (aG (KG he (X.mono WL) I3 (ae hm2 mo3.1) e3 λy as4 ls4 s4 n4 le4 mo4 I4 ry=>?_));have le34:=WL.trans le4;have hg:=(I4.news (p.D,listOf wE c) (bX _ (bX _ (.head _)))).1;have S:wE.size<=4096:=by
    have:=ra.len;simp only[gq]at this
    exact this▸(ae (cT _ _).length_le hl)
   refine aG (append_at hg (λh8 hs8 ho8=>?_) (by simp only[gK];lia));refine bS (bS ⟨rfl,.mk as4 ls4 m' own' (wE.push y) (c+1) t (n13.trans (n4.trans ⟨h8,s4.toks,rfl⟩)) (le.trans le34) (mo.trans (TT▸mo3.trans mo4)) (I4.setCell ho8 hs8) (hT _ _ _ le34 ht) hO' (hQ _ _ hQm hz) ?_ (rus le34)⟩);rw[NG];exact F2.append (ra.mono le34) (.cons (ry.val hr) .nil)
  .rw[aZ hr]at e4;cases e4
end
section
variable{Z:jC}{m m':c8->Option Value}{G wT:List aA}{u re:St}{ls AT:List (List (aA×di))}{R R':List (aA×di)}{h h':eJ}{C:aA}
noncomputable def jC.Al(Z:jC)(m:c8->Option Value)(C:aA):jC:={ Z with fr:=(C,m)::Z.fr }
theorem Inv.swap(I:Inv Z m G u ls R h)(on:Inv (Z.inner m C) m' wT re AT R' h'):Inv (Z.Al m' C) m wT re AT R' h':=by
 have K:=I.LM on
 refine⟨K.fr,K.news,K.nodup,K.rel,λp hp=>?_,λp hp=>?_⟩
 .rcases aO.mp hp with rfl | hp
  .exact on.fr.ns
  .exact K.outer p hp
 .rcases aO.mp hp with rfl | hp
  .refine⟨λe=>(on.apart (Z.L,m) (.head _)).1 e.symm,on.Um,λe=>?_⟩;refine cP (bj.mp e) λp=>cJ λhp e=>?_
   exact(on.news p hp).2.1 e
  .exact K.apart p hp
theorem Inv.RF(on:Inv (Z.Al m' C) m G u ls R h):Inv Z m G u ls R h:=
 ⟨on.fr,on.news,on.nodup,on.rel,λp hp=>on.outer p (.tail _ hp),λp hp=>on.apart p (.tail _ hp)⟩
theorem Inv.Sa(on:Inv (Z.Al m' C) m G u ls R h)(hf:∀p∈Z.fr,p.1≠C)(S:mD C h h'):Inv Z m G u ls R h':=by
 have a:=on.apart (C,m') (.head _)
 exact on.RF.U7 a.1 a.2.1 (λp hp e=>a.2.2 (bj.mpr ⟨p,hp,e⟩)) hf S
theorem Kf.Al{calm:Bool}{A:cS}{n:Nat}(H:Kf Z calm A n):Kf (Z.Al m' C) calm A n:=by
 refine cP H.frames λl=>cJ λh1 h2=>?_
 exact⟨H.handled,H.depth,H.units,l,h1,λe he=>let⟨a,L,b,c⟩:=h2 e he;⟨a,L,b,by
  refine bN (aO.mp c) (λc=>?_) λc=>?_
  .simp only[c];exact .head _
  .exact .tail _ (.tail _ c)⟩⟩
end
theorem Kf.inner{m:c8->Option Value}{A:cS}{n:Nat}{Z:jC}{calm:Bool}{C:aA}(h:Kf Z calm A n):Kf (Z.inner m C) calm A n:=by
 refine cP h.frames λl=>cJ λh1 h2=>?_
 exact⟨h.handled,h.depth,h.units,l,h1,λe he=>let⟨a,L,b,c⟩:=h2 e he;⟨a,L,b,.tail _ c⟩⟩
section
variable{P:PF}{C:Cx}{n:Nat}{F:Fv}{Z:jC}{m:c8->Option Value}{R:List (aA×di)}{A:cS}{M:ja}{G:List aA}{u:St}{ls:List (List (aA×di))}{E:List V}{s:aL}
def PR(F:Fv)(inner:eK)(M ce:ja):Prop:=∀i y d,F.slot i=some y->inner.names.lookup y=some .free->M.cells.lookup y=some d->ce.cells.lookup y=some d
theorem zT{xL iter:Expr}{x:c8}{px:jy}{ifs:List Expr}{gs:List ua}{inner:eK}{pos:jy}{sl:Nat}{it:aA}{o:di}{Kd:Fo}{sK:Option (Nat×O)}{vs:List V}{f:V->St->RE (List V)}{FM:aA->ja->Value->Sem Fin}
  (WE:F.calm=true) (K:lJ F inner sl x) (X:xM P Z F M m R A n G E) (hm:C.mark<=u.length) (I:Inv Z m G u ls ((it,o)::R) s.heap) (hK:∀re,same sK re=true->Kd.vals re=some vs) (ho:rT G Kd 0 o)
  (ht:∀D ce,xR (.ListComp xL (⟨.Name x px,iter,ifs,0⟩::gs) inner pos) 0 (.ref it) (.ref D) ce=Be iter.pos (.ref it) (FM D ce)) (T:(compLoop f sK vs u).bind nW≠.cn)
  (hb:∀D ce Cd,rU (F.into inner [sl]) ce Cd->PR F inner M ce->∀i v cr At l po rs s1,(At++l).length<=4096->f v po=.ok l rs->Iz ⟨Z.inner m Cd,C.mark,s,G,u,D,inner,ce,x,λJ=>True⟩ (IT Kd it (λJ t=>t=R) i) [cr] [v] At po s1 ->
   bT (bO P.prog P.w) A (FM D ce cr) (λpZ s2=>pZ=.again (.compLoop (.ListComp xL (⟨.Name x px,iter,ifs,0⟩::gs) inner pos) 0 (.ref it) (.ref D) ce)/\Iz ⟨Z.inner m Cd,C.mark,s,G,u,D,inner,ce,x,λJ=>True⟩ (IT Kd it (λJ t=>t=R) i) [] [] (At++l) rs s2) (λJ J=>False) s1)
  {RR:Value->aA->pB->aL->Prop} {im:Value->aL->Prop}
  (hRR:∀D Cd m' s' wT re AT vs',(compLoop f sK vs u).bind nW=.ok (.ref re.length) (re++[.list vs'])->gn s s'->G <+: wT++[D]->dF C.mark u (re++[.list vs']) ->
   Inv (Z.inner m Cd) m' (wT++[D]) (re++[.list vs']) AT R s'.heap->dX (wT++[D]) (.ref D) (.ref re.length)->RR (.ref D) Cd (.ok .next) s') :
  bT (bO P.prog P.w) A (newList []) (λAt s3=>bT (bO P.prog P.w) A (r8 inner M.globals (gY M.cells inner.names []) [] M.qual none .none (some M)) (λNo s4=>
   f6 (bO P.prog P.w) A (.compStart (.ListComp xL (⟨.Name x px,iter,ifs,0⟩::gs) inner pos) 0 (.ref it) At { No with scope:=Cn inner M }) (RR At No.locals) s4) im s3) im s:=by
 refine iJ (MF T) λLL σE=>jc λhL hlen hend=>?_
 refine wpAny_newObj_type ?_ (by size_fits);generalize hD:s.heap.objs.size=D;have IA:Inv Z m G u ls ((D,listOf #[] 0)::((it,o)::R)) (s.heap.push (listOf #[] 0)):=
  Inv.J9 (W:=[]) I (λJ J e=>bz _ e) (hD▸dD _ rfl) (hD▸kC _)
 refine JN (Wr:=[(D,listOf #[] 0),(it,o)]) K X (s:={ s with heap:=s.heap.push (listOf #[] 0) }) IA λNo own m1 s1 Cd n1 hCd I1 hO1 ek hcl=>?_
 generalize hce:({ No with scope:=Cn inner M })=ce at *;have hcl:PR F inner M ce:=hce▸hcl;simp only[<-hCd];have CU:=xF (R:=RR (.ref D) Cd) (X.xJ.handled WE) (ht D _) hK
  (λi v cr At l po rs s1 h1 h2 dL=>hb D _ Cd ek hcl i v cr At l po rs s1 (ae h1 (oG▸hlen)) h2 dL) (λs' dL=>?_) vs 0 [] LL u s1 rfl hL rfl (.mk G ls m1 own #[] 0 _ n1 (bD _) (dF.refl _ _) I1 (.mk ho rfl) hO1 trivial .nil .nil)
 .exact codeAny_compStart_list CU (yT (I1.news (it,o) (bX _ (bX _ (.tail _ (.head _))))).1 ho CU)
 .cases dL with | mk wT AT m' own' wE c t n2 le mo I2 hT hO hQ ra ru=>
  cases hT;have on:=(Inv.Ia I2).Uo (O:=.list LL) ⟨wE,c,rfl,ra.mono (cT _ _)⟩;exact hRR D Cd m' s' wT σE _ LL hend n2 (le.trans (cT _ _)) (mo.trans (dF.push (ae hm mo.1) _)) on (yH wT σE I2.rel.la D)
end
section
variable{P:PF}{C:Cx}{n:Nat}{F:Fv}
theorem EW{Z:jC}{m:c8->Option Value}{R:List (aA×di)}{A:cS}{M:ja}{G:List aA}{u:St}{E:List V}{s:aL}{xL:Expr}{x:c8}{px:jy}{ifs:List Expr}{im:Expr}{inner:eK}{sl:Nat}{it:aA}{Kd:Fo}{me:ME}{mc:Option MB}
  (K:lJ F inner sl x) (X:xM P Z F M m R A n G E) (hm:C.mark<=u.length) (he:ec P C n (F.into inner [sl]) xL me) (hc:Fs P C n (F.into inner [sl]) ifs mc) (D:aA) (ce:ja) (Cd:aA) (ek:rU (F.into inner [sl]) ce Cd) (hcl:PR F inner M ce)
  (i:Nat) (v:V) (cr:Value) (At l:List V) (po rs:St) (s1:aL) (hl:(At++l).length<=4096) (hf:Ic C mc me E sl v po=.ok l rs) (dL:Iz ⟨Z.inner m Cd,C.mark,s,G,u,D,inner,ce,x,λJ=>True⟩ (IT Kd it (λJ t=>t=R) i) [cr] [v] At po s1) :
  bT (bO P.prog P.w) A (Hz im 0 (.Name x px) xL ifs (.ref it) (.ref D) ce cr) (λpZ s2=>pZ=.again (.compLoop im 0 (.ref it) (.ref D) ce)/\Iz ⟨Z.inner m Cd,C.mark,s,G,u,D,inner,ce,x,λJ=>True⟩ (IT Kd it (λJ t=>t=R) i) [] [] (At++l) rs s2) (λJ J=>False) s1:=by
 refine H9 (p:=⟨Z.inner m Cd,C.mark,s,G,u,D,inner,ce,x,λJ=>True⟩) (IT.tm λJ J J J e=>e) ek he hc (λJ J q J=>q) hm rfl (λxz m2 own t le ru J st ht wE c=>?_) hf hl dL;cases ht with | mk _ e=>
 subst e;refine⟨X.base,X.dB,X.gl,X.HY.mono le,ek,?_,X.xJ.inner⟩;have S:sl<E.length:=by simp only[X.loc.len];exact(aJ.mp K.slot).1
 refine Dg (X.loc.mono le) aV (λj y w hj hy hw=>?_) (λj hj=>bQ λe:sl=j=>hj (bM.mpr e.symm)) hcl (λy hy=>(K.free y (mem_of_lookup hy)).1) λp hp=>bX _ (.tail _ (.tail _ hp))
 refine d5 λGG Y=>?_
 cases bM.mp hj;cases K.slot.symm.trans hy;cases (cG S).symm.trans hw;cases ru with | cons ru _=>
 refine Y ?_;refine Or.imp (λa=>⟨a.1,?_⟩) (λa=>⟨a.1,?_⟩) st
 .exact a.2▸(Cb.of ru)
 .refine iJ a.2 λc o=>jc λb1 b2 b3=>?_
  exact⟨c,o,some cr,b1,bY _ b2,b3,Cb.of ru⟩
theorem JP{xL iter:Expr}{x:c8}{px:jy}{ifs:List Expr}{inner:eK}{pos:jy}{me mi:ME}{mc:Option MB}{sl:Nat}(WE:F.calm=true)(hset:zj iter=true)(hok:xa F inner sl x=true)
  (hi:ec P C n F iter mi) (he:ec P C n (F.into inner [sl]) xL me) (hc:Fs P C n (F.into inner [sl]) ifs mc):ec P C n F (.ListComp xL [⟨.Name x px,iter,ifs,0⟩] inner pos) (.gu me sl mi mc):=by
 intro Z m R A M G u ls E s X I hm T;have K:=tP hok;have e:=EQ (C:=C) (xL:=me) (it:=mi) (s:=sl) (c:=mc) (E:=E) (u:=u);refine tY rfl (λx=>lw hset) (K.Sx X.loc) K.kind K.loc (jd e T (hi _ _ _ _ _ _ _ _ _ _ X I hm) λxv v po zs Ix s1 n1 e1 wP wS I1 r1=>?_);refine ny (fU v po) (λTl=>?_) λp Tl=>?_
 .simp only[Tl]at e1;exact absurd e1 T
 ·
  obtain⟨sK,vs⟩:=p;simp only[Tl]at e1;have hm1:=ae hm wS.1;refine oI (W:=[]) I1 r1 Tl λKd it o s2 n2 hK ho I2=>?_
  refine zT WE K (X.mono wP) hm1 I2 hK ho (λJ J=>vZ ..) (e1▸T) (EW K (X.mono wP) hm1 he hc) λD Cd m' s3 as3 Tk ls3 vs3 e3 n3 WL mo3 I3 r3=>?_
  refine⟨m',I3.fr.ns,λh' hs'=>?_⟩;rw[e1,e3];refine Bt (n1.trans (n2.trans (n3.trans ⟨h',s3.toks,rfl⟩))) (wP.trans WL) (wS.trans mo3) ((I1.swap I3).Sa (λp hp=>(I3.apart p (.tail _ hp)).1) hs') (d6.of r3)
noncomputable def Gd(F:Fv)(inner:eK)(y:c8)(l1 l2:Nat):Bool:=F.scope.names.lookup y==some .local&&l1==l2&&!(inner.names.any λ(n,k)=>n==y&&(k==.local||k==.cell))
theorem N2{M:ja}{L:aA}{xL:Expr}{gs:List ua}{inner:eK}{pos py:jy}{y:c8}{line:Nat}(h:Gd F inner y py.line pos.line=true)(ek:rU F M L):
  uN (.ListComp xL gs inner pos) (some (.Name y py)) line M=pure true:=by
 have hk:M.scope.kind=.function:=by rw[ek.scope];exact ek.kind
 have e:uN (.ListComp xL gs inner pos) (some (.Name y py)) line M=pure (M.blockKind==.function&&M.kindOf y==some .local&&py.line==pos.line&&!(inner.names.any λ(n,k)=>n==y&&(k==.local||k==.cell))):=rfl
 refine e.trans ?_;simp only[Gd,aH]at h;have hb:M.blockKind=.function:=by unfold Env.blockKind;rw[hk];rfl
 simp only[hb,show M.kindOf y=F.scope.names.lookup y from by simp only[fW,ek.scope]];simp only[h.1.1,h.1.2,h.2,beq_self_eq_true,Bool.and_self]
theorem Ak{xL iter:Expr}{x y:c8}{px py:jy}{ifs:List Expr}{inner:eK}{pos spos:jy}{me mi:ME}{mc:Option MB}{sl i:Nat}(WE:F.calm=true)(hset:zj iter=true)(hok:xa F inner sl x=true)
  (hsw:Gd F inner y py.line pos.line=true) (hy:vK F i y=true)
  (hi:ec P C n F iter mi) (he:ec P C n (F.into inner [sl]) xL me) (hc:Fs P C n (F.into inner [sl]) ifs mc) :
  rG P C n F (.Assign [.Name y py] (.ListComp xL [⟨.Name x px,iter,ifs,0⟩] inner pos) spos) (.assign (.ah i) (.gu me sl mi mc)):=by
 intro Z m Rc Ro A M G u ls E s X I hm T;have K:=tP hok;refine cJ (λhy1 hy2=>?_) (uY hy);have e0:ex C (.assign (.ah i) (.gu me sl mi mc)) E u=(ev C (.gu me sl mi mc) E u).then E λv u=>store C (.ah i) v E u:=rfl
 have e:ex C (.assign (.ah i) (.gu me sl mi mc)) E u=(ev C mi E u).then E λv u=>(match fU v u with
  | none=>.cn
  | some (sK,vs)=>(compLoop (Ic C mc me E sl) sK vs u).bind nW:RE V).then E λv u=>store C (.ah i) v E u:=by
  refine e0.trans ?_;rw[EQ];cases ev C mi E u<;>rfl
 have il:i<E.length:=by
  simp only[X.loc.len];exact(aJ.mp (slot_of hy1).2).1
 rw[exec_Assign_Name_used _ _ _ _ (N2 hsw X.fF)];refine aG (fQ (aG ?_));refine aG (cq (tY rfl (λx=>lw hset) (K.Sx X.loc) K.kind K.loc
  (nu X.loc e T (hi _ _ _ _ _ _ _ _ _ _ X.Az I hm) λxv v po zs Ix s1 n1 e1 wP wS I1 L1 r1=>?_)) (λJ s' hq=>bS (bS hq)) λJ J q=>q)
 refine ny (fU v po) (λTl=>?_) λp Tl=>?_
 .rw[Tl]at e1;exact absurd e1 T
 ·
  obtain⟨sK,vs⟩:=p;rw[Tl]at e1;dsimp only at e1;refine oI (W:=[]) I1 r1 Tl λKd it o s2 n2 hK ho I2=>?_
  have X1:=X.to wP L1
  have hm1:=ae hm wS.1
  refine zT WE K X1.Az hm1 I2 hK ho (λJ J=>vZ ..) (λq=>T (by refine e1.trans ?_;rw[q];rfl)) (EW K X1.Az hm1 he hc) λD Cd m' s3 as3 Tk ls3 vs3 e3 n3 WL mo3 I3 r3=>?_
  rw[e3,RE.iL]at e1;have hst:store C (.ah i) (.ref Tk.length) E (Tk++[.list vs3])=.ok .next (E.set i (.ref Tk.length)) (Tk++[.list vs3]):=by
   exact(Mw ..).trans (aF ⟨il,rfl⟩)
  rw[hst]at e1;have X3:=X1.to WL (X1.loc.mono WL);have X3':SC P (Z.Al m' Cd) F M m Rc A n (as3++[D]) E:=⟨X3.base,X3.dB,X3.gl,X3.HY,X3.fF,X3.loc,X3.xJ.Al,X3.frame⟩;refine jU (yL X3' (I1.swap I3) hy1 hy2 il r3 λm4 Rc4 s4 n4 I4 L4 hR4=>?_);refine⟨m',I4.outer (Cd,m') (.head _),λh' hs'=>?_⟩;rw[e1];exact Gc (n1.trans (n2.trans (n3.trans (n4.trans ⟨h',s4.toks,rfl⟩)))) (wP.trans WL) (wS.trans mo3) hR4 (I4.Sa (λp hp=>(I3.apart p (.tail _ hp)).1) hs') L4 trivial
end
noncomputable def Pu(C:Cx)(xL:ME)(E:List V)(s2:Nat)(w:V)(u:St):RE (List V):=(ev C xL (E.set s2 w) u).bind λr u=>if r.cD then .ok [r] u else .cn
noncomputable def MG(C:Cx)(xL it2:ME)(E:List V)(s1 s2:Nat)(v:V)(u:St):RE (List V):=(ev C it2 (E.set s1 v) u).bind λy u=>match fU y u with
 | none=>.cn
 | some (src2,ws)=>compLoop (Pu C xL (E.set s1 v) s2) src2 ws u
theorem Mr{C:Cx}{xL it1 it2:ME}{s1 s2:Nat}{E:List V}{u:St}:ev C (.BR xL s1 it1 s2 it2) E u=(ev C it1 E u).bind λx u=>match fU x u with
  | none=>.cn
  | some (sK,vs)=>(compLoop (MG C xL it2 E s1 s2) sK vs u).bind nW:=rfl
theorem AY(xL t1 i1 t2 i2:Expr)(scope:eK)(pos:jy)(it At:Value)(M:ja):
  xR (.ListComp xL [⟨t1,i1,[],0⟩,⟨t2,i2,[],0⟩] scope pos) 1 it At M=Be i2.pos it (Hz (.ListComp xL [⟨t1,i1,[],0⟩,⟨t2,i2,[],0⟩] scope pos) 1 t2 xL [] it At M):=by rfl
noncomputable def Qr(xL t1 i1 t2 i2:Expr)(scope:eK)(pos:jy)(it At:Value)(M:ja)(v:Value):Sem Fin:=
 wF t1 it v >>= λJ=>assign t1 M v >>= λJ=>ou i2 M >>= λx=>vq i2.pos >>= λJ=>foldedSetIterable i2 M x >>= λx=>Hn [x] (NI x) >>= λit2=>
  runOwn (.compStart (.ListComp xL [⟨t1,i1,[],0⟩,⟨t2,i2,[],0⟩] scope pos) 1 it2 At M) M >>= λJ=>again (.compLoop (.ListComp xL [⟨t1,i1,[],0⟩,⟨t2,i2,[],0⟩] scope pos) 0 it At M)
theorem AZ(xL t1 i1 t2 i2:Expr)(scope:eK)(pos:jy)(it At:Value)(M:ja):
  xR (.ListComp xL [⟨t1,i1,[],0⟩,⟨t2,i2,[],0⟩] scope pos) 0 it At M=Be i1.pos it (Qr xL t1 i1 t2 i2 scope pos it At M):=by rfl
section
variable{prog:pJ}{w:World}{A:cS}{R:pB->aL->Prop}{s:aL}
theorem zS{xL t1 i1 t2 i2:Expr}{scope:eK}{pos:jy}{it At:Value}{M:ja}
  (h0:f6 (bO prog w) A (.compLoop (.ListComp xL [⟨t1,i1,[],0⟩,⟨t2,i2,[],0⟩] scope pos) 1 it At M) R s)
  (h:bT (bO prog w) A (NI it) (λit' s'=>f6 (bO prog w) A (.compLoop (.ListComp xL [⟨t1,i1,[],0⟩,⟨t2,i2,[],0⟩] scope pos) 1 it' At M) R s') (yg (bO prog w) A M λx s'=>R (.error x) s') s) :
  f6 (bO prog w) A (.compStart (.ListComp xL [⟨t1,i1,[],0⟩,⟨t2,i2,[],0⟩] scope pos) 1 it At M) R s:=by
 refine qm ?_;refine wpAny_notedAt ?_;refine aG (wpAny_askSetting (wpAny_ite ?_))
 split
 .first
   | exact aG (bS (bS (IH rfl h0)))
   | exact bS (IH rfl h0)
 .first
   | exact aG (wpAny_rule (aG (fQ (aG (cq h (λit' s' h'=>bS (IH rfl h')) λJ J x=>x)))))
   | (refine aG (wpAny_rule ?_);show bT _ _ (vq i2.pos >>= _) _ _ s;exact aG (fQ (aG (cq h (λit' s' h'=>bS (IH rfl h')) λJ J x=>x))))
end
section
variable{P:PF}{C:Cx}{n:Nat}{F:Fv}{Z:jC}{m:c8->Option Value}{R:List (aA×di)}{A:cS}{M:ja}{G:List aA}{u:St}{E:List V}{s:aL}{inner:eK}{x1 x2:c8}{s1 s2:Nat}
theorem two_names(K1:lJ F inner s1 x1)(K2:lJ F inner s2 x2){i:Nat}{y:c8}(hi:i∈[s1,s2])(hy:F.names[i]?=some y):(i=s1/\y=x1)\/(i=s2/\y=x2):=
 (aO.mp hi).elim (λe=>.inl ⟨e,aD (hy.symm.trans (e▸K1.slot))⟩) λh=>.inr (have e:=bM.mp h;⟨e,aD (hy.symm.trans (e▸K2.slot))⟩)
theorem LY{ce:ja}{L:aA}(K1:lJ F inner s1 x1)(K2:lJ F inner s2 x2)(hx:x1≠x2)(X:xM P Z F M m R A n G E)(ek:rU (F.into inner [s1]) ce L):rU (F.into inner [s1,s2]) ce L:=
 ⟨ek.scope,ek.kind,ek.locals,ek.globals,ek.builtins,ek.inj,zD X.fF.apart (λJ J J hi hj a b=>(two_names K1 K2 hi a).elim (λp=>(two_names K1 K2 hj b).elim (λq=>p.1.trans q.1.symm) λq=>absurd (p.2.symm.trans q.2) hx)
  λp=>(two_names K1 K2 hj b).elim (λq=>absurd (q.2.symm.trans p.2) hx) λq=>p.1.trans q.1.symm) λJ J hi a=>(two_names K1 K2 hi a).elim (λp=>p.2▸K1.no) λp=>p.2▸K2.no⟩
theorem Bq{ce:ja}{x:c8}{own:List (aA×di)}(hl:inner.names.lookup x=some .local)(h:M9 inner ce x own):own=[]:=h.elim (·.2) λa=>nomatch a.1.symm.trans hl
theorem MT{xL i1 i2:Expr}{p1 p2:jy}{pos:jy}{me m2:ME}{it:aA}{Kd:Fo}(WE:F.calm=true)(hset2:zj i2=true)(K1:lJ F inner s1 x1)(K2:lJ F inner s2 x2)
  (hx:x1≠x2) (hl1:inner.names.lookup x1=some .local) (hl2:inner.names.lookup x2=some .local) (hj:ec P C n (F.into inner [s1]) i2 m2) (he:ec P C n (F.into inner [s1,s2]) xL me)
  (X:xM P Z F M m R A n G E) (hm:C.mark<=u.length) (D:aA) (ce:ja) (Cd:aA) (ek:rU (F.into inner [s1]) ce Cd) (hcl:PR F inner M ce)
  (i:Nat) (v:V) (cr:Value) (At l:List V) (po rs:St) (t1:aL) (hl:(At++l).length<=4096) (hf:MG C me m2 E s1 s2 v po=.ok l rs) (dL:Iz ⟨Z.inner m Cd,C.mark,s,G,u,D,inner,ce,x1,λJ=>True⟩ (IT Kd it (λJ t=>t=R) i) [cr] [v] At po t1) :
  bT (bO P.prog P.w) A (Qr xL (.Name x1 p1) i1 (.Name x2 p2) i2 inner pos (.ref it) (.ref D) ce cr) (λpZ s2=>pZ=.again (.compLoop (.ListComp xL [⟨.Name x1 p1,i1,[],0⟩,⟨.Name x2 p2,i2,[],0⟩] inner pos) 0 (.ref it) (.ref D) ce)/\Iz ⟨Z.inner m Cd,C.mark,s,G,u,D,inner,ce,x1,λJ=>True⟩ (IT Kd it (λJ t=>t=R) i) [] [] (At++l) rs s2) (λJ J=>False) t1:=by
 refine d5 λGG Y=>?_
 have hs1:s1<E.length:=by simp only[X.loc.len];exact(aJ.mp K1.slot).1
 have hs2:s2<(E.set s1 v).length:=by simp only[aV,X.loc.len];exact(aJ.mp K2.slot).1
 have S:s1≠s2:=λe=>hx (aD (K1.slot.symm.trans (e▸K2.slot)))
 have KB:=λy hy=>(K1.free y (mem_of_lookup hy)).1
 cases dL with | mk zs Ix m1 own wE c t n1 le mo I hT hO hQ ra ru=>
 cases ru with | cons ru _=>
 refine Y ?_;refine aG (tE rfl (aG (BQ ek hO I λown' m' t2 n2 hO' I2 st hz=>?_)));obtain rfl:=Bq hl1 hO';have st:m' x1=some cr:=st.elim (·.2) λa=>nomatch a.1.symm.trans hl1
 refine iJ (cV hf) λy Tk=>cJ λe1 e2=>?_
 have X6:xM P (Z.inner m Cd) (F.into inner [s1]) ce m' ([]++(D,listOf wE c)::t) A n zs (E.set s1 v):=by
  cases hT with | mk _ e=>
  cases e;refine⟨X.base,X.dB,X.gl,X.HY.mono le,ek,?_,X.xJ.inner⟩;refine Dg (X.loc.mono le) aV (λj y w hj hy hw=>?_) (λj hj=>bQ λe:s1=j=>hj (bM.mpr e.symm)) hcl KB λp hp=>.tail _ (.tail _ hp)
  refine d5 λGG Y=>?_
  cases bM.mp hj;cases K1.slot.symm.trans hy;cases (cG hs1).symm.trans hw;refine Y ?_;exact .inl ⟨hl1,by exact st▸(Cb.of ru)⟩
 refine aG (KG hj X6 I2 (ae hm mo.1) e1 λy' as3 ls3 t3 n3 WL mo3 I3 ry=>?_);have n13:=n1.trans (n2.trans n3);have e2:=e2;refine ny (fU y Tk) (λhi=>?_) λq hi=>?_
 .rw[hi]at e2;cases e2
 ·
  obtain⟨src2,ws⟩:=q;simp only[hi]at e2;refine aG (fQ (aG (tE (lw hset2) (aG (fR (oI (W:=[(D,listOf wE c)]) I3 ry hi λKd2 it2 o2 t4 n4 hK2 ho2 I4=>?_))))));have ek2:=LY K1 K2 hx X ek;have CU:=xF (P:=P) (p:=⟨Z.inner m Cd,C.mark,s,G,u,D,inner,ce,x2,λm=>m x1=some cr⟩) (R:=λr s'=>match r with
    | .ok _=>Iz ⟨Z.inner m Cd,C.mark,s,G,u,D,inner,ce,x1,λJ=>True⟩ (IT Kd it (λJ t=>t=R) i) [] [] (At++l) rs s'
    | .error _=>False) (X.xJ.handled WE) (AY xL (.Name x1 p1) i1 (.Name x2 p2) i2 inner pos (.ref it2) (.ref D) ce) hK2 (λj w uw Wq l' σ5 σ6 t5 h1 h2 dL=>?_) (λs' dL=>?_) ws 0 At l Tk t4 rfl e2 rfl
    (.mk as3 ls3 m' [] wE c _ (n13.trans n4) (le.trans WL) (mo.trans mo3) I4 (.mk ho2 (IT.tm (λJ J J J e=>e) _ _ _ WL hT)) (.inl ⟨hl2,rfl⟩) st (ra.mono WL) (.cons (ru.mono WL) .nil))
  .refine aG (wpAny_runOwn (kU (zS CU (yT (I4.news (it2,o2) (bX _ (.tail _ (.head _)))).1 ho2 CU)) λr s' hr=>?_));cases r with
   | ok f=>exact bS ⟨rfl,hr⟩
   | error e=>exact hr.elim
  .refine H9 (p:=⟨Z.inner m Cd,C.mark,s,G,u,D,inner,ce,x2,λm=>m x1=some cr⟩) (IT.tm (IT.tm λJ J J J e=>e)) ek2 he .none (λm m' q z=>(z x1 hx).trans q) hm rfl (λas6 m6 own6 t6 le6 ru6 q6 st6 ht6 its6 c6=>?_) h2 (ae h1 hl) dL;cases ht6 with | mk _ ht6=>
   cases ht6 with | mk _ e=>
   cases e;refine⟨X.base,X.dB,X.gl,X.HY.mono le6,ek2,?_,X.xJ.inner⟩;refine Dg (X.loc.mono le6) (aV.trans aV) (λj y w' hj hy hw=>?_) (λj hj=>?_) hcl KB λp hp=>bX _ (.tail _ (.tail _ (.tail _ hp)))
   .refine d5 λGG Y=>?_
    cases ru6 with | cons ra6 ru6=>
    cases ru6 with | cons rb6 _=>
    refine bN (two_names K1 K2 hj hy) (λKM=>?_) λOn=>?_
    .refine cJ (λWv Go=>?_) KM;clear KM;cases Wv;cases Go;rw[bQ S.symm,cG hs1]at hw;obtain rfl:=aD hw;refine Y ?_;exact .inl ⟨hl1,by exact q6▸(Cb.of rb6)⟩
    .refine cJ (λWv Go=>?_) On;clear On;cases Wv;cases Go;rw[cG hs2]at hw;obtain rfl:=aD hw;refine Y ?_;exact .inl ⟨hl2,by exact(st6.elim (·.2) λa=>nomatch a.1.symm.trans hl2)▸(Cb.of ra6)⟩
   .exact(bQ λe:s2=j=>hj (.tail _ (bM.mpr e.symm))).trans (bQ λe:s1=j=>hj (e▸.head _))
  .refine d5 λGG Y=>?_
   cases dL with | mk as7 ls7 m7 own7 its7 c7 t7 n7 le7 mo7 I7 hT7 hO7 hQ7 ra7 ru7=>
   obtain rfl:=Bq hl2 hO7;refine Y ?_;exact .mk as7 ls7 m7 [] its7 c7 t7 n7 le7 mo7 I7 hT7 (.inl ⟨hl1,rfl⟩) trivial ra7 .nil
theorem JO{xL i1 i2:Expr}{p1 p2:jy}{pos:jy}{me m1 m2:ME}(WE:F.calm=true)(hset:zj i1=true)(hset2:zj i2=true)(hok1:xa F inner s1 x1=true)(hok2:xa F inner s2 x2=true)
  (hx:(x1==x2)=false) (hl1:inner.names.lookup x1=some .local) (hl2:inner.names.lookup x2=some .local)
  (hi:ec P C n F i1 m1) (hj:ec P C n (F.into inner [s1]) i2 m2) (he:ec P C n (F.into inner [s1,s2]) xL me):ec P C n F (.ListComp xL [⟨.Name x1 p1,i1,[],0⟩,⟨.Name x2 p2,i2,[],0⟩] inner pos) (.BR me s1 m1 s2 m2):=by
 intro Z m R A M G u ls E s X I hm T;have K1:=tP hok1;have e:=Mr (C:=C) (xL:=me) (it1:=m1) (it2:=m2) (s1:=s1) (s2:=s2) (E:=E) (u:=u);refine tY rfl (λx=>lw hset) (K1.Sx X.loc) K1.kind K1.loc (jd e T (hi _ _ _ _ _ _ _ _ _ _ X I hm) λxv v po zs Ix s1' n1 e1 wP wS I1 r1=>?_);refine ny (fU v po) (λTl=>?_) λp Tl=>?_
 .simp only[Tl]at e1;exact absurd e1 T
 ·
  obtain⟨sK,vs⟩:=p;simp only[Tl]at e1;have hm1:=ae hm wS.1;refine oI (W:=[]) I1 r1 Tl λKd it o s2' n2 hK ho I2=>?_
  refine zT WE K1 (X.mono wP) hm1 I2 hK ho (λJ J=>AZ ..) (e1▸T) (MT WE hset2 K1 (tP hok2) (beq_eq_false_iff_ne.mp hx) hl1 hl2 hj he (X.mono wP) hm1) λD Cd m' s3 as3 Tk ls3 vs3 e3 n3 WL mo3 I3 r3=>?_
  refine⟨m',I3.fr.ns,λh' hs'=>?_⟩;rw[e1,e3];refine Bt (n1.trans (n2.trans (n3.trans ⟨h',s3.toks,rfl⟩))) (wP.trans WL) (wS.trans mo3) ((I1.swap I3).Sa (λp hp=>(I3.apart p (.tail _ hp)).1) hs') (d6.of r3)
end
theorem dX.shrink{G wT:List aA}{x:Value}{v:V}(H:dX wT x v)(le:G <+: wT)(h:∀j,v=.ref j->j<G.length):dX G x v:=by
 refine cP le λt Go=>?_;clear le;subst Go
 cases v with
 | ref k=>
  cases x with
  | ref a=>
   have e:(G++t)[k]?=some a:=H
   rw[ci (h k rfl)]at e;exact e
  | _=>exact H
 | _=>cases x<;>exact H
theorem ft.shrink{G wT:List aA}{xs:List Value}{vs:List V}(H:ft wT xs vs)(le:G <+: wT)(h:∀j,V.ref j∈vs->j<G.length):ft G xs vs:=by
 induction H with
 | nil=>exact .nil
 | cons a _ ih=>exact .cons (a.shrink le λj e=>h j (e▸.head _)) (ih λj hj=>h j (.tail _ hj))
theorem qJ.shrink{G wT:List aA}{es:List jb}{fs:List (eM×V)}(H:qJ wT es fs)(le:G <+: wT)(h:∀j,V.ref j∈fs.map (·.2)->j<G.length):qJ G es fs:=by
 induction H with
 | nil=>exact .nil
 | cons a _ ih=>exact .cons ⟨a.1,a.2.shrink le λj e=>h j (e▸.head _)⟩ (ih λj hj=>h j (.tail _ hj))
theorem dX.lt{G:List aA}{x:Value}{j:Nat}(H:dX G x (.ref j)):j<G.length:=by
 cases x<;>first | exact H.elim | exact(aJ.mp H).1
theorem ft.lt{G:List aA}{xs:List Value}{vs:List V}(H:ft G xs vs){j:Nat}(h:V.ref j∈vs):j<G.length:=by
 refine d5 λGG Y=>?_
 induction H with
 | nil=>cases h
 | cons a _ ih=>
  refine bN (aO.mp h) (λe=>?_) λh=>?_
  .refine Y ?_;subst e;exact a.lt
  .exact ih h
theorem qJ.lt{G:List aA}{es:List jb}{fs:List (eM×V)}(H:qJ G es fs){j:Nat}(h:V.ref j∈fs.map (·.2)):j<G.length:=by
 refine d5 λGG Y=>?_
 induction H with
 | nil=>cases h
 | cons a _ ih=>
  refine bN (aO.mp h) (λe=>?_) λh=>?_
  .refine Y ?_;exact dX.lt (by simp only[e];exact a.2)
  .exact ih h
section
variable{dB:pG->aA}{base:eJ}{G wT:List aA}{a:aA}{o:O}{p:List (aA×di)}
theorem jF.shrink(H:jF dB base wT a o p)(le:G <+: wT)(h:∀j,V.ref j∈o.vals->j<G.length):jF dB base G a o p:=by
 cases o with
 | list vs=>refine iJ H λwE n=>cJ λe v=>?_;exact⟨wE,n,e,v.shrink le h⟩
 | lV vs=>obtain⟨e,o,wE,n,h1,h2,h3,v⟩:=H;exact⟨e,o,wE,n,h1,h2,h3,v.shrink le h⟩
 | eY vs=>refine nG H λo wE n=>mT λh1 h2 h3 v=>?_;exact⟨o,wE,n,h1,h2,h3,v.shrink le h⟩
 | gV x y z=>exact H
 | inst c fs=>refine nG H λdx es n=>cJ λe v=>?_;exact⟨dx,es,n,e,v.shrink le h⟩
theorem jF.lt(H:jF dB base G a o p){j:Nat}(h:V.ref j∈o.vals):j<G.length:=by
 cases o with
 | list vs=>refine iJ H λwE n=>cJ λe v=>?_;exact v.lt h
 | lV vs=>obtain⟨e,o,wE,n,h1,h2,h3,v⟩:=H;exact v.lt h
 | eY vs=>refine nG H λo wE n=>mT λh1 h2 h3 v=>?_;exact v.lt h
 | gV x y z=>cases h
 | inst c fs=>refine nG H λdx es n=>cJ λe v=>?_;exact v.lt h
theorem jF.Qx(H:jF dB base wT a o p)(h:∀j,V.ref j∉o.vals)(bs:List aA):jF dB base bs a o p:=
 (H.shrink uo λj q=>absurd q (h j)).mono uo
end
section
variable{Z:jC}{m:c8->Option Value}{G wT:List aA}{u re:St}{ls AT:List (List (aA×di))}{R:List (aA×di)}{h h':eJ}{mk:Nat}
theorem dF.cut(mo:dF u.length u re)(TT:mk<=u.length)(ex:St):dF mk u (re.take u.length++ex):=by
 have hl:(re.take u.length).length=u.length:=by refine eZ.trans ?_;exact fL mo.1
 refine⟨by simp only[aj,hl];lia,λi o' hi e=>mo.2 i o' (aq hi TT) ?_⟩;rw[ci (by simp only[hl];lia),dM (by lia)]at e;exact e
theorem EN{α:Type}{l l':List (List α)}(h:l.Sublist l'):l.flatten.Sublist l'.flatten:=by
 induction h with
 | slnil=>exact kR _
 | cons a _ ih=>skip;exact ih.trans (List.sublist_append_right _ _)
 | cons_cons a _ ih=>simp only[gZ,gZ];exact(kR _).append ih
theorem Inv.QA(on:Inv Z m wT re AT R h'){xz:List aA}{rs:St}{Fa ls3:List (List (aA×di))}(S:ls3.Sublist AT)(hp:Fa.flatten.Perm ls3.flatten)(hr:Fk Z.dB Z.base xz rs Fa):Inv Z m xz rs Fa R h':=by
 have sub:(ls3.flatten++R).Sublist (AT.flatten++R):=sv (EN S) (kR _)
 have perm:=hp.append_right R
 exact⟨on.fr,λp hp=>on.news p (sub.subset (perm.subset hp)),((perm.map _).nodup_iff).mpr (on.nodup.sublist (sub.map _)),hr,on.outer,λp hp=>⟨(on.apart p hp).1,(on.apart p hp).2.1,λe=>(on.apart p hp).2.2 ((sub.map _).subset ((perm.map _).subset e))⟩⟩
theorem Inv.HQ(on:Inv Z m wT re AT R h'){xz:List aA}{rs:St}{Fa:List (List (aA×di))}(S:Fa.Sublist AT)(hr:Fk Z.dB Z.base xz rs Fa):Inv Z m xz rs Fa R h':=
 on.QA S (List.Perm.refl _) hr
theorem K8(I:Inv Z m G u ls R h)(le:G <+: wT)(mo:dF u.length u re)(on:Fk Z.dB Z.base wT re AT):Fk Z.dB Z.base G (re.take u.length) (AT.take u.length):=by
 have hlen:=mo.1
 refine⟨by refine I.rel.la.trans ?_;simp only[eZ];exact(fL hlen).symm,by simp only[eZ,eZ,on.ll],λi a o p h1 h2 h3=>?_⟩;have hi:i<u.length:=by have:=(aJ.mp h1).1;rwa [I.rel.la]at this
 rw[dM hi]at h2 h3;have h1':wT[i]?=some a:=by
  refine cP le λt Go=>?_;clear le;subst Go
  refine(ci (I.rel.la▸hi)).trans ?_;exact h1
 have P:=on.obj i a o p h1' h2 h3
 refine P.shrink le λj hj=>?_
 refine cP (mo.2 i o hi h2) λo0=>cJ λho0 hk=>?_
 refine iJ (I.rel.at ho0) λa0 p0=>jc λha0 hp0 P0=>?_
 exact P0.lt (hk j hj)
theorem Df{k r:Nat}{p:List (aA×di)}(hr:k<=r)(hp:AT[r]?=some p):(AT.take k++[p]).Sublist AT:=by
 conv=>rhs;rw[<-nF k AT]
 refine sv (kR _) ?_;refine List.singleton_sublist.mpr ?_;have:(AT.drop k)[r-k]?=some p:=by refine NE.trans ?_;rw[ic hr];exact hp
 exact bU this
theorem ES{k r c:Nat}{p q:List (aA×di)}(hr:k<=r)(hc:r<c)(hp:AT[r]?=some p)(hq:AT[c]?=some q):(AT.take k++[p,q]).Sublist AT:=by
 have h2:=Df (k:=r+1) hc hq
 refine V1 ?_ h2;rw[show AT.take k++[p,q]=(AT.take k++[p])++[q] by simp];refine sv ?_ (kR _);have:(AT.take (r+1))[r]?=some p:=by refine(dM (cH _)).trans ?_;exact hp
 have h3:=Df hr this
 rw[DH,fL (by lia)]at h3;exact h3
theorem tT{vs:List V}(h:vs.all (!·.isRef)=true)(j:Nat):V.ref j∉vs:=λhj=>by
 have:=cM.mp h _ hj
 exact gT this
inductive nZ(n:Nat)(u:St):V->RE V->Prop
 | plain {v:V} (h:v.cD=true) (h':v.isRef=false):nZ n u v (.ok v (u.take n))
 | DE {r:Nat} (h:r<n):nZ n u (.ref r) (.ok (.ref r) (u.take n))
 | xT {r:Nat} {o:O} (h:n<=r) (ho:u[r]?=some o) (hn:∀j,V.ref j∉o.vals):nZ n u (.ref r) (.ok (.ref n) (u.take n++[o]))
 | two {r c:Nat} {vs ws:List V} (h:n<=r) (hc:n<=c) (ho:u[r]?=some (.eY (.ref c::ws))) (hw:∀j,V.ref j∉ws) (hoc:u[c]?=some (.list vs)) (hv:∀j,V.ref j∉vs):nZ n u (.ref r) (.ok (.ref (n+1)) (u.take n++[.list vs,.eY (.ref n::ws)]))
theorem C8{n:Nat}{u:St}{v:V}{p:Prop}[Decidable p]{A:RE V}(h:p->A≠.cn->nZ n u v A):(if p then A else .cn)≠.cn->nZ n u v (if p then A else .cn):=by
 by_cases q:p
 .rw[aF q];exact h q
 .rw[aZ q];exactλq=>absurd rfl q
theorem EO{n:Nat}{v:V}{u:St}:finish n v u≠.cn->nZ n u v (finish n v u):=by
 cases v with
 | av=>exactλq=>absurd rfl q
 | gV a b c=>exactλq=>absurd rfl q
 | none=>exactλJ=>.plain rfl rfl
 | bool b=>exactλJ=>.plain rfl rfl
 | int i=>exactλJ=>.plain rfl rfl
 | bytes l=>exactλJ=>.plain rfl rfl
 | ref r=>
  by_cases hr:r<n
  .refine Eq.mpr (aM (λX=>X≠RE.cn->nZ n u (.ref r) X) (aF hr)) λ_=>.DE hr
  refine Eq.mpr (aM (λX=>X≠RE.cn->nZ n u (.ref r) X) (aZ hr)) ?_;have hr:=bZ hr;cases ho:u[r]? with
  | none=>exactλq=>absurd rfl q
  | some o=>
   cases o with
   | list vs=>exact C8 λh J=>.xT hr ho (tT h)
   | eY vs=>
    cases vs with
    | nil=>exactλJ=>.xT hr ho λj h=>nomatch h
    | cons v ws=>
     cases v with
     | ref c=>
      refine C8 λhw=>?_
      cases hoc:u[c]? with
      | none=>exactλq=>absurd rfl q
      | some o=>
       cases o with
       | list vs=>exact C8 λhc J=>.two hr hc.1 ho (tT hw) hoc (tT hc.2)
       | _=>exactλq=>absurd rfl q
     | _=>exact C8 λh J=>.xT hr ho (tT h)
   | _=>exactλq=>absurd rfl q
inductive PU(Z:jC)(m:c8->Option Value)(G:List aA)(u:St)(R:List (aA×di))(h':eJ)(mk:Nat)(x:Value):RE V->Prop
 | mk {v2:V} {rs:St} {xz:List aA} {Fa:List (List (aA×di))} (le:G <+: xz) (mo:dF mk u rs) (on:Inv Z m xz rs Fa R h') (v:dX xz x v2):PU Z m G u R h' mk x (.ok v2 rs)
theorem Lu{G:List aA}{a:aA}{t:List aA}{n:Nat}(la:G.length=n):(G++a::t)[n]?=some a:=by
 simp only[<-la,iu (cH _),uj];rfl
theorem jF.pair{dB:pG->aA}{base:eJ}{G wT:List aA}{ac ar:aA}{n c:Nat}{ws:List V}{p:List (aA×di)}(la:G.length=n)(P:jF dB base wT ar (.eY (.ref c::ws)) p)(hac:wT[c]?=some ac)(hw:∀j,V.ref j∉ws):jF dB base ((G++[ac])++[ar]) ar (.eY (.ref n::ws)) p:=by
 refine nG P λo wE k=>mT λh1 h2 h3 r=>?_
 refine⟨o,wE,k,h1,h2,h3,?_⟩;generalize wE.toList=xs at r;refine d5 λGG Y=>?_
 cases r with
 | cons y ys=>
  refine cP (sF y) λa2=>cJ λGo ha2=>?_;subst Go
  cases hac.symm.trans ha2;refine Y ?_;refine .cons ?_ ((ft.shrink ys uo λj q=>absurd q (hw j)).mono uo);rw[am];exact Lu la
theorem Inv.two(on:Inv Z m wT re AT R h'){xz:List aA}{rs:St}{k r c:Nat}{p q:List (aA×di)}(hr:k<=r)(hc:k<=c)(ne:c≠r)(hq:AT[c]?=some q)(hp:AT[r]?=some p)(R2:Fk Z.dB Z.base xz rs (AT.take k++[q,p])):Inv Z m xz rs (AT.take k++[q,p]) R h':=by
 refine bN (P5 ne) (λl=>?_) λl=>?_
 .exact on.HQ (ES hc l hq hp) R2
 .refine on.QA (ES hr l hp hq) ?_ R2;simp only[gz,gz];exact List.Perm.append_left _ (by simpa using Kk)
theorem Mi{x:Value}{v:V}(I:Inv Z m G u ls R h)(le:G <+: wT)(mo:dF u.length u re)(on:Inv Z m wT re AT R h')(hv:d6 h' wT x v)(T:finish u.length v re≠.cn)(TT:mk<=u.length):PU Z m G u R h' mk x (finish u.length v re):=by
 have la:=I.rel.la
 have R0:=K8 I le mo on.rel
 have M0:dF mk u (re.take u.length):=by have:=mo.cut TT [];rwa [aP]at this
 have J0:=on.HQ (mO _ _) R0
 have V:=EO T
 generalize finish u.length v re=X at V;cases V with
 | plain h1 h2=>exact .mk (bD _) M0 J0 ((hv.val h1).shrink le λj e=>by subst e;cases h2)
 | DE hr=>
  refine cP (sF hv) λar=>cJ λGo har=>?_;subst Go
  exact .mk (bD _) M0 J0 ((show dX wT (.ref ar) (.ref _)from hv).shrink le λj e=>by injection e with e;subst e;simp only[la];exact hr)
 | xT hr ho hn=>
  refine d5 λGG Y=>?_
  refine cP (sF hv) λar=>cJ λGo har=>?_;subst Go
  refine iJ (on.rel.at ho) λa1 p1=>jc λha1 hp1 P1=>?_
  cases har.symm.trans ha1;refine Y ?_;exact .mk (cT _ _) (mo.cut TT _) (on.HQ (Df hr hp1) (R0.push (P1.Qx hn _))) (Lu la)
 | two hr hc ho hw hoc hvs=>
  refine d5 λGG Y=>?_
  refine cP (sF hv) λar=>cJ λGo har=>?_;subst Go
  refine iJ (on.rel.at ho) λa1 p1=>jc λha1 hp1 P1=>?_
  cases har.symm.trans ha1;refine iJ (on.rel.at hoc) λac pc=>jc λhac hpc Pc=>?_
  have R2:=(R0.push (Pc.Qx hvs (G++[ac]))).push (P1.pair la hac hw)
  simp only[am,am,am]at R2;refine Y ?_;refine .mk (cT _ _) (mo.cut TT _) (on.two hr hc (λq=>?_) hpc hp1 R2) ?_
  .rw[q,ho]at hoc;exact nomatch hoc
  .show(G++[ac,ar])[u.length+1]?=some ar
   rw[<-la,iu (aW _ _),dz];rfl
theorem PU.ex{x:Value}{X:RE V}(F:PU Z m G u R h' mk x X):∃v2 rs xz Fa,X=.ok v2 rs/\G <+: xz/\dF mk u rs/\Inv Z m xz rs Fa R h'/\dX xz x v2:=by
 cases F with
 | mk le mo on v=>exact⟨_,_,_,_,rfl,le,mo,on,v⟩
end
section
variable{Z:jC}{m m':c8->Option Value}{G:List aA}{u:St}{ls:List (List (aA×di))}{R:List (aA×di)}{h h':eJ}
theorem Inv.Vc(I:Inv Z m G u ls R h){a:aA}{o:di}(ha:h.get? a=some o)(hL:a≠Z.L)(hb:Z.base.get? a=none)(hn:a∉(ls.flatten++R).map (·.1))(hf:∀p∈Z.fr,p.1≠a):Inv Z m G u ls ((a,o)::R) h:=by
 have perm:(ls.flatten++(a,o)::R).Perm ((a,o)::(ls.flatten++R)):=AD
 refine⟨I.fr,λp hp=>?_,?_,I.rel,I.outer,λp hp=>⟨(I.apart p hp).1,(I.apart p hp).2.1,λe=>?_⟩⟩
 .refine bN (aO.mp (perm.subset hp)) (λKM=>?_) λhp=>?_
  .subst KM;exact⟨ha,hL,hb⟩
  .exact I.news p hp
 .refine(((perm.map _).nodup_iff)).mpr ?_;rw[cN,eT];exact⟨hn,I.nodup⟩
 .have:=(perm.map (·.1)).subset e
  refine bN (aO.mp this) (λe=>?_) λe=>?_
  .exact hf p hp e
  .exact(I.apart p hp).2.2 e
theorem Inv.M6(I:Inv Z m G u ls R h):∀(cells:List (aA×di)),DN Z.base Z.L h cells->(cells.map (·.1)).Nodup->(∀c∈cells,c.1∉(ls.flatten++R).map (·.1))->(∀c∈cells,∀p∈Z.fr,p.1≠c.1)->Inv Z m G u ls (cells++R) h
 | [],_,_,_,_=>I
 | c::r,f8,nd,h1,h2=>by
  rw[cN,eT]at nd
  have on:=Inv.M6 I r (λp hp=>f8 p (.tail _ hp)) nd.2 (λc hc=>h1 c (.tail _ hc)) λc hc=>h2 c (.tail _ hc)
  have hc:=f8 c (.head _)
  refine on.Vc hc.1 hc.2.1 hc.2.2 (λe=>?_) (h2 c (.head _))
  simp only[cb,dk]at e
  rcases e with e | e | e
  .exact h1 c (.head _) (by simp only[cb,dk];exact .inl e)
  .exact nd.1 e
  .exact h1 c (.head _) (by simp only[cb,dk];exact .inr e)
end
theorem Ac{k:c8->Option jV}{id:c8}:∀(bs:List (c8×Value)) (m:c8->Option Value),id∉bs.map (·.1)->Fz k bs m id=m id
 | [],_,_=>rfl
 | (n,v)::r,m,h=>by
  rw[cN,aO,not_or]at h
  unfold Fz
  refine(Ac r _ h.2).trans ?_
  split
  .exact aZ h.1
  .rfl
theorem E0{k:c8->Option jV}{id:c8}{x:Value}(hk:k id=some .local):∀(bs:List (c8×Value)) (m:c8->Option Value),(bs.map (·.1)).Nodup->(id,x)∈bs->Fz k bs m id=some x
 | (n,v)::r,m,nd,h=>by
  simp only[cN,eT]at nd
  unfold Fz
  refine bN (aO.mp h) (λe=>?_) λh=>?_
  .cases e
   refine(Ac r _ nd.1).trans ?_;rw[aF hk,aF rfl]
  .exact E0 hk r _ nd.2 h
theorem Ae{k:c8->Option jV}{id:c8}:∀(bs:List (c8×Value)) (m:c8->Option Value),id∉bs.map (·.1)->Ri k bs m id=m id
 | [],_,_=>rfl
 | (n,v)::r,m,h=>by
  rw[cN,aO,not_or]at h
  unfold Ri
  refine(Ae r _ h.2).trans ?_
  split
  .rfl
  .exact aZ h.1
theorem E2{k:c8->Option jV}{id:c8}{x:Value}(hk:k id≠some .local):∀(bs:List (c8×Value)) (m:c8->Option Value),(bs.map (·.1)).Nodup->(id,x)∈bs->Ri k bs m id=some x
 | (n,v)::r,m,nd,h=>by
  simp only[cN,eT]at nd
  unfold Ri
  refine bN (aO.mp h) (λe=>?_) λh=>?_
  .cases e
   refine(Ae r _ nd.1).trans ?_;rw[aZ hk,aF rfl]
  .exact E2 hk r _ nd.2 h
theorem CellsAre.at{cm:c8->Option Value}{cs:List (c8×aA)}{cells:List (aA×di)}(X:CellsAre cm cs cells){n:c8}{c:aA}(h:(n,c)∈cs):∃o,(c,o)∈cells/\o.data=.cell (cm n):=by
 induction X with
 | nil=>cases h
 | cons hd _ ih=>
  rcases aO.mp h with e | h
  .cases e;exact⟨_,.head _,hd⟩
  .refine cP (ih h) λo=>cJ λa b=>?_;exact⟨o,.tail _ a,b⟩
theorem CellsAre.QU{cm:c8->Option Value}{cs:List (c8×aA)}{cells:List (aA×di)}(X:CellsAre cm cs cells):cells.map (·.1)=cs.map (·.2):=by
 induction X with
 | nil=>rfl
 | cons _ _ ih=>simp only[cN,cN,ih]
noncomputable def fC(f:Fn):List c8:=(cc f).names.map mQ
noncomputable def zI(f:Fn)(scope:eK):Fv where
 names:=fC f
 Ql:=(aI (cc f).lh).map λi=>decide (i<(cc f).ue)
 scope:=scope
 calm:=true
noncomputable def C7(f:Fn)(scope:eK):Bool:=
 scope.kind==.function&&!scope.isCoroutine&&!scope.isGenerator&&decide ((fC f).length=(cc f).lh)&&decide ((cc f).ij<=(cc f).ue)&&decide ((cc f).ue<=(cc f).lh) &&
  decide (((fC f).take (cc f).ue).Nodup)&&((fC f).take (cc f).ue).all (λx=>scope.names.lookup x==some .local||scope.names.lookup x==some .cell)&&decide (((jX 0 scope.names []).map (·.1)).Nodup)
structure tU(f:Fn)(scope:eK):Prop where
 kind:scope.kind=.function
 co:scope.isCoroutine=false
 gen:scope.isGenerator=false
 len:(fC f).length=(cc f).lh
 RW:(cc f).ij<=(cc f).ue
 loc:(cc f).ue<=(cc f).lh
 nodup:((fC f).take (cc f).ue).Nodup
 kinds:∀x∈(fC f).take (cc f).ue,scope.names.lookup x=some .local\/scope.names.lookup x=some .cell
 cells:((jX 0 scope.names []).map (·.1)).Nodup
theorem GH{f:Fn}{scope:eK}(h:C7 f scope=true):tU f scope:=by
 simp only[C7,aH,fX,beq_iff_eq,decide_eq_true_eq,cM,cF]at h;refine d5 λGG Y=>?_
 refine cJ (λWv h9=>?_) h;obtain⟨⟨⟨⟨⟨⟨⟨h1,h2⟩,h3⟩,h4⟩,h5⟩,h6⟩,h7⟩,h8⟩:=Wv;refine Y ?_;exact⟨h1,h2,h3,h4,h5,h6,h7,h8,h9⟩
theorem tO{f:Fn}{scope:eK}{i:Nat}{id:c8}(K:tU f scope)(h:(zI f scope).slot i=some id):i<(cc f).ue/\(fC f)[i]?=some id:=by
 refine d5 λGG Y=>?_
 refine cJ (λhv h=>?_) (slot_of h)
 .refine Y ?_;refine⟨?_,h⟩;refine d5 λGG Y=>?_
  have WJ:((aI (cc f).lh).map λi=>decide (i<(cc f).ue))[i]?=some true:=hv
  rw[cZ]at WJ;refine ny ((aI (cc f).lh)[i]?) (λhr=>?_) λj hr=>?_
  .rw[hr]at WJ;cases WJ
  ·
   rw[hr]at WJ;obtain⟨a,b⟩:=aJ.mp hr;rw[xP]at b;refine Y ?_;subst b
   simpa using WJ
theorem Bw{α:Type}{l:List α}(nd:l.Nodup){i j:Nat}{x:α}(h1:l[i]?=some x)(h2:l[j]?=some x):i=j:=by
 refine cP (aJ.mp h1) λa ha=>?_
 exact(List.getElem?_inj a nd).mp (h1.trans h2.symm)
section
variable{P:PF}{Z:jC}{m:c8->Option Value}{R:List (aA×di)}{A:cS}{n:Nat}{G:List aA}{u:St}{ls:List (List (aA×di))}{s:aL}{f:Fn}{scope:eK}
structure Dy(Z:jC)(A:cS)(n:Nat):Prop where
 handled:A.handled=none
 depth:A.depth+2*n+8<r7
 units:A.units+8*n+196<cLine
 frames:∃l,A.frames=some l/\∀e∈l,e.scope.kind≠.module/\∃L,e.frame=some L/\L∈Z.L::Z.fr.map (·.1)
theorem Kf.c(h:Kf Z true A n):Dy Z A n:=⟨h.handled rfl,by have:=h.depth;lia,by have:=h.units;lia,h.frames⟩
theorem Dy.call{M:ja}{L:aA}(h:Dy Z A (n+1))(hk:M.scope.kind=.function)(hf:M.frame=some L):Kf (Z.inner m L) true (A.deeper M) n:=by
 refine cP h.frames λl=>cJ λh1 h2=>?_
 refine⟨λJ=>h.handled,?_,?_,M::l,by show A.frames.map _=_;rw[h1];rfl,λe he=>?_⟩
 .have:=h.depth;show A.depth+1+2*n+9<_;lia
 .have:=h.units;show A.units+3+8*n+200<_;lia
 .refine d5 λGG Y=>?_
  refine bN (aO.mp he) (λKM=>?_) λhe=>?_
  .refine Y ?_;subst KM;exact⟨by rw[hk];decide,L,hf,.head _⟩
  .obtain⟨a,L,b,c⟩:=h2 e he;refine Y ?_;exact⟨a,L,b,.tail _ c⟩
theorem TC(K:tU f scope){M:ja}{binds:List (c8×Value)}{cells:List (aA×di)}{xs:List Value}{vs:List V}(B:Dw P Z.base)(hc:Z.dB=P.dB)(db:xK P)(gv:o8 P G)(ao:Kf Z true A n)
  (eS:M.scope=scope) (eL:M.locals=Z.L) (eG:M.globals=d7) (eB:M.builtins=iI) (eF:M.frame=some Z.L) (hA:∃l,A.frames=some (M::l)) (inj:M.cells.Pairwise λx y=>x.2≠y.2)
  (hcell:∀x,scope.names.lookup x=some .cell->∃c,M.cells.lookup x=some c) (nw:CellsAre (Ri M.kindOf binds λJ=>none) M.cells cells)
  (hb:((fC f).take (cc f).ij).zip xs=binds) (hx:ft G xs vs) (hl:vs.length=(cc f).ij) :
  SC P Z (zI f scope) M (Fz M.kindOf binds λJ=>none) cells A n G (vs++aw ((cc f).lh-(cc f).ij) .av):=by
 have hxl:xs.length=(cc f).ij:=by refine hx.len.trans ?_;simp only[hl]
 have hnl:((fC f).take (cc f).ij).length=(cc f).ij:=by refine eZ.trans ?_;exact K.len▸(fL (ae K.RW K.loc))
 have hfst:binds.map (·.1)=(fC f).take (cc f).ij:=by rw[<-hb,Q7];lia
 have sub:((fC f).take (cc f).ij).Sublist ((fC f).take (cc f).ue):=by
  have:(fC f).take (cc f).ij=((fC f).take (cc f).ue).take (cc f).ij:=by simp only[DH,fL K.RW]
  simp only[this];exact mO _ _
 have hnd:(binds.map (·.1)).Nodup:=by simp only[hfst];exact K.nodup.sublist sub
 have at_:∀i id v,(zI f scope).slot i=some id->(vs++aw ((cc f).lh-(cc f).ij) V.av)[i]?=some v->(∃cr,(id,cr)∈binds/\dX G cr v)\/(v=.av/\id∉binds.map (·.1)):=by
  intro i id v h1 h3;refine cJ (λa1 a2=>?_) (tO K h1);by_cases hi:i<(cc f).ij
  .simp only[ci (hl▸hi)]at h3;refine cP (hx.get h3) λcr=>cJ λhu hr=>?_
   refine .inl ⟨cr,?_,hr⟩;rw[<-hb];refine bU (i:=i) ?_;refine Fu.mpr ?_;exact⟨by refine(dM hi).trans ?_;exact a2,hu⟩
  .simp only[iu (hl▸bZ hi)]at h3;refine .inr ⟨(NA.mp (bU h3)).2,λe=>?_⟩;rw[hfst]at e;refine cP (List.getElem?_of_mem e) λj hj=>?_
   have hj':j<(cc f).ij:=by have:=(aJ.mp hj).1;simp only[hnl]at this;exact this
   rw[dM hj']at hj;have:=Bw K.nodup ((dM a1).trans a2) ((dM (aq hj' K.RW)).trans hj);lia
 refine⟨B,hc,db,gv,⟨?_,K.kind,eL,eG,eB,?_,?_⟩,⟨?_,?_,?_⟩,ao,?_⟩
 .exact eS
 .intro y z c h1 h2;exact name_of_addr inj (mem_of_lookup h1) (mem_of_lookup h2)
 .intro i j id h1 h2;refine d5 λGG Y=>?_
  refine cJ (λa1 a2=>?_) (tO K h1);refine cJ (λb1 b2=>?_) (tO K h2);refine Y ?_;exact Bw K.nodup ((dM a1).trans a2) ((dM b1).trans b2)
 .simp only[aj,cX,hl];show _=(fC f).length;simp only[K.len];have:=K.RW;have:=K.loc;lia
 .intro i id v h1 h2 h3;have hk:M.kindOf id=some .local:=by simp only[fW,eS];exact h2
  refine bN (at_ i id v h1 h3) (λKM=>?_) λOn=>?_
  .refine cP KM λcr=>cJ λhm hr=>?_;exact(E0 hk binds _ hnd hm)▸(Cb.of hr)
  .refine cJ (λWv hn=>?_) On;clear On;subst Wv;exact(Ac binds _ hn)
 .intro i id v h1 h2 h3;refine cJ (λa1 a2=>?_) (tO K h1);have hmem:id∈(fC f).take (cc f).ue:=by
   refine bU (i:=i) ?_;refine(dM a1).trans ?_;exact a2
  have hcl:scope.names.lookup id=some .cell:=by
   refine bN (K.kinds id hmem) (λh=>?_) λh=>?_
   .rcases h2 with h2 | h2<;>(simp only[show(zI f scope).scope=scope from rfl,h]at h2;exact nomatch h2)
   .exact h
  have hk:M.kindOf id≠some .local:=by simp only[fW,eS,hcl];decide
  refine cP (hcell _ hcl) λc hc=>?_
  refine cP (CellsAre.at nw (mem_of_lookup hc)) λo=>cJ λho hd=>?_
  refine⟨c,o,_,hc,ho,hd,?_⟩;refine bN (at_ i id v h1 h3) (λKM=>?_) λOn=>?_
  .refine cP KM λcr=>cJ λhm hr=>?_;exact(E2 hk binds _ hnd hm)▸(Cb.of hr)
  .refine cJ (λWv hn=>?_) On;clear On;subst Wv;exact(Ae binds _ hn)
 .obtain⟨l,h1⟩:=hA;exact⟨l,h1,eF⟩
theorem Pm{a:aA}{cd:Value}{qual:c8}{xs:List Value}{vs:List V}(K:tU f scope)(B:Dw P Z.base)(hc:Z.dB=P.dB)(db:xK P)(gv:o8 P G)(ao:Dy Z A (n+1))
  (I:Inv Z m G u ls R s.heap) (hx:ft G xs vs) (hl:vs.length=(cc f).ij) {A':cS} {Q:ja->aL->Prop} {im:Value->aL->Prop}
  (q:∀M L m' Rc s',gn s s'->Inv (Z.inner m L) m' G u ls (Rc++R) s'.heap->SC P (Z.inner m L) (zI f scope) M m' Rc (A.deeper M) n G (vs++aw ((cc f).lh-(cc f).ij) .av)->Q M s') :
  bT (bO P.prog P.w) A' (r8 scope d7 [] (((fC f).take (cc f).ij).zip xs) qual (some a) cd none iI) Q im s:=by
 generalize hb:((fC f).take (cc f).ij).zip xs=binds;have hxl:xs.length=(cc f).ij:=by refine hx.len.trans ?_;rw[hl]
 have hnl:((fC f).take (cc f).ij).length=(cc f).ij:=by refine eZ.trans ?_;exact K.len▸(fL (ae K.RW K.loc))
 have hfst:binds.map (·.1)=(fC f).take (cc f).ij:=by rw[<-hb,Q7];lia
 have sub:((fC f).take (cc f).ij).Sublist ((fC f).take (cc f).ue):=by
  have:(fC f).take (cc f).ij=((fC f).take (cc f).ue).take (cc f).ij:=by simp only[DH,fL K.RW]
  exact this▸(mO _ _)
 refine wpAny_newFunctionEnv_cells K.kind (λx hxm=>?_) λM he s' x=>?_
 .have:=sub.subset (hfst▸gy hxm)
  rcases K.kinds _ this with h | h
  .exact .inl h
  .exact .inr ⟨h,IL _ _ _ (.inl h)⟩
 .refine iJ x.done λh' tk=>cJ λzn _=>?_;subst zn
  generalize hL:s.heap.objs.size=L at *;have eL:M.locals=L:=by exact aM _ he
  have eS:M.scope=scope:=by exact aM _ he
  have eC:M.cells=jX (L+1) scope.names []:=by exact aM _ he
  have hkp:=x.toInCall.keep
  have hLn:s.heap.get? L=none:=by exact hL▸(kC _)
  have cnd:((jX (L+1) scope.names []).map (·.1)).Nodup:=by simp only[cellsFrom_names scope.names (L+1) 0 [] [] rfl];exact K.cells
  obtain⟨cells,NC,nw⟩:=Cl.news (h₀:=s.heap) (L:=L) (h:=h') (hL▸cH _) λn c hm=>
   ⟨x.cell n c (eC▸lookup_of_mem_nodup cnd hm),by have:=x.above n c (eC▸hm);exact eL▸this⟩
  have I1:Inv (Z.inner m L) (Fz M.kindOf binds λJ=>none) G u ls R h':=I.enter hkp hLn (hL▸I.E3) (by have:=x.toInCall.ns;exact eL▸this)
  have noBase:∀p∈cells,Z.base.get? p.1=none:=λp hp=>by
   cases q:Z.base.get? p.1 with
   | none=>rfl
   | some o=>have:=I.fr.keep _ _ q;rw[(NC p hp).2.2]at this;exact cj this
  have apart:(cells.map (·.1)).Nodup:=by
   simp only[CellsAre.QU nw];refine d5 λGG Y=>?_
   have:=x.apart
   simp only[eC]at this;refine Y ?_;exact Vj _ (λJ J h=>h) this
  have I2:Inv (Z.inner m L) (Fz M.kindOf binds λJ=>none) G u ls (cells++R) h':=by
   refine I1.M6 cells (λp hp=>⟨(NC p hp).1,(NC p hp).2.1,noBase p hp⟩) apart (λc hc e=>?_) λc hc p hp e=>?_
   .refine cP (bj.mp e) λp=>cJ λhp e=>?_
    have:=(I.news p hp).1
    simp only[e,(NC c hc).2.2]at this;exact cj this
   .refine d5 λGG Y=>?_
    have hcs:=(NC c hc).2.2
    refine bN (aO.mp hp) (λKM=>?_) λhp=>?_
    .subst KM;refine nG I.fr.ns λo _ _=>cJ λho _=>?_
     simp only[<-e]at hcs;rw[ho]at hcs;exact nomatch hcs
    .refine nG (I.outer p hp) λo _ _=>cJ λho _=>?_
     simp only[<-e,ho]at hcs;exact nomatch hcs
  refine q M L _ cells _ ⟨_,_,rfl⟩ I2 (TC K B hc db gv (ao.call (eS▸K.kind) (aM _ he)) eS eL (aM _ he) (aM _ he) (aM _ he) ?_ x.apart (λy hy=>?_) (by simp only[eC];exact nw) hb hx hl)
  .refine cP ao.frames λl=>cJ λh1 _=>?_
   exact⟨l,by show A.frames.map _=_;exact aM _ h1⟩
  .exact eC▸(iN.mp (IL scope.names (L+1) [] (.inl hy)))
end
inductive QY(P:PF)(f:Fn)(body:List Stmt)(scope:eK):Prop
 | mk (params:_) (dV:_) (kV:_) (doc:_) (pm:_) (an:_) (cdv:_) (ct:_) (o:di) (ho:P.K.lookup (P.Kn f)=some o) (hd:o.data=.func (fnOf (Fn.str f) (Fn.qual f) params body scope dV kV doc pm an cdv ct)) (hc:codeIn P.K cdv (Fn.qual f)=true)
  (hb:∀xs:List Value,xs.length=(cc f).ij->IK (fnOf (Fn.str f) (Fn.qual f) params body scope dV kV doc pm an cdv ct) ⟨xs,[]⟩=pure (((fC f).take (cc f).ij).zip xs)):QY P f body scope
structure Nc(P:PF)(f:Fn)(body:List Stmt)(scope:eK):Prop where
 sc:tU f scope
 obj:QY P f body scope
section
variable{P:PF}{Z:jC}{m:c8->Option Value}{R:List (aA×di)}{A:cS}{d:Nat}{G:List aA}{u:St}{ls:List (List (aA×di))}{s:aL}{f:Fn}{scope:eK}{body:List Stmt}
theorem So{X:RE V}{tr:Bool}{w:V}{v:Value}{mk WK:Nat}{wT:List aA}{re:St}{AT:List (List (aA×di))}{h0:eJ}{tk0:Nat}(I:Inv Z m G u ls R s.heap)(le:G <+: wT)(mo:dF WK u re)(on:Inv Z m wT re AT R h0)(hv:d6 h0 wT v w)(TT:mk<=u.length)(hmk':WK=if tr=true then u.length else mk)(e:X=if tr=true then finish u.length w re else if w.cD=true then .ok w re else .cn)(T:X≠.cn):QE Z m R mk d6 s G u X v { s with heap:=h0,toks:=tk0 }:=by
 subst hmk';cases tr with
 | true=>
  have e:X=finish u.length w re:=e
  have F:=Mi I le mo on hv (e▸T) TT
  simp only[<-e]at F;cases F with
  | mk le mo on r=>exact .mk _ _ _ _ h0 tk0 rfl rfl le mo on (d6.of r)
 | false=>
  by_cases hk:w.cD=true
  .exact .mk _ _ _ _ h0 tk0 (e.trans (aF hk)) rfl le mo on hv
  .exact absurd (e.trans (aZ hk)) T
theorem Pf{X:RE V}{tr:Bool}{ea bad:aA}{mk WK:Nat}{wT:List aA}{re:St}{AT:List (List (aA×di))}{Rc:List (aA×di)}{h0:eJ}{tk0:Nat}{b:Bool}(I:Inv Z m G u ls R s.heap)(le:G <+: wT)(mo:dF WK u re)(on:Inv Z m wT re AT R h0)(x:lI Z.base (Z.L::Z.fr.map (·.1)) (AT.flatten++(Rc++R)) bad ea h0 b)(TT:mk<=u.length)(hmk':WK=if tr=true then u.length else mk)(e:X=.fY (if tr=true then re.take u.length else re)):EE Z bad m R mk s G u X (.ref ea) { s with heap:=h0,toks:=tk0 }:=by
 refine d5 λGG Y=>?_
 subst hmk';cases tr with
 | true=>
  refine Y ?_;refine .mk _ G _ h0 tk0 ea e rfl rfl (bD _) (by have:=mo.cut TT [];rwa [aP]at this) (on.HQ (mO _ _) (K8 I le mo on.rel)) (x.any.sub λp hp=>?_);exact(dk.mp hp).elim (λhp=>bY _ ((EN (mO _ _)).subset hp)) λhp=>bX _ (bX _ hp)
 | false=>
  refine Y ?_;refine .mk _ _ _ h0 tk0 ea e rfl rfl le mo on (x.any.sub λp hp=>?_);exact(dk.mp hp).elim (bY _) λhp=>bX _ (bX _ hp)
theorem Pz(K:Nc P f body scope)(hb:∀mk,nh P ⟨af d,mk⟩ d (zI f scope) body (cc f).body)(B:Dw P Z.base)(hc:Z.dB=P.dB)(db:xK P)(gv:o8 P G)(ao:Dy Z A (d+1))
  (I:Inv Z m G u ls R s.heap) {xs:List Value} {vs:List V} (hx:ft G xs vs) {mk:Nat} (TT:mk<=u.length) (T:af (d+1) mk f vs u≠.cn)
  {Q:pB->aL->Prop} (qo:∀v s',QE Z m R mk d6 s G u (af (d+1) mk f vs u) v s'->Q (.ok (.ret v)) s') (qe:∀e s',EE Z P.bad m R mk s G u (af (d+1) mk f vs u) e s'->Q (.error e) s') :
  f6 (bO P.prog P.w) A (.call (.ref (P.Kn f)) ⟨xs,[]⟩) Q s:=by
 cases K.obj with | mk params dV kV doc pm an cdv ct o ho hd hcd hbind=>
 have e0:af (d+1) mk f vs u=rn (af d) mk (cc f) vs u:=rfl
 have hl:vs.length=(cc f).ij:=by
  by_cases h:vs.length=(cc f).ij
  .exact h
  .exfalso;apply T;refine e0.trans ?_;rw[rn,aZ h]
 have CW:=B.CW.keeps I.fr.keep
 refine codeAny_call_function (by have:=ao.depth;lia) (CW _ _ ho) hd K.sc.co K.sc.gen rfl (codeRec_of CW hcd) ?_;simp only[hbind xs (hx.len.trans hl)];refine bS (Pm K.sc B hc db gv ao I hx hl λM L m' Rc s1 n1 I1 X1=>⟨B.Qy.keeps I1.fr.keep,codeAny_func ?_⟩);obtain⟨WK,hmk'⟩:∃WK,WK=if(cc f).uq then u.length else mk:=⟨_,rfl⟩;have hmk1:WK<=u.length:=by rw[hmk'];split<;>lia
 have e1:af (d+1) mk f vs u=match iH ⟨af d,WK⟩ (cc f).body (vs++aw ((cc f).lh-(cc f).ij) V.av) u with
  | .ok f' _ re=>if(cc f).uq then finish u.length (oy f') re else if(oy f').cD then .ok (oy f') re else .cn
  | .fY _ re=>.fY (if(cc f).uq then re.take u.length else re)
  | .cn=>.cn:=by refine e0.trans ?_;rw[rn,aF hl,hmk']<;>rfl
 have hxs:iH ⟨af d,WK⟩ (cc f).body (vs++aw ((cc f).lh-(cc f).ij) V.av) u≠.cn:=λq=>T (by refine e1.trans ?_;rw[q])
 refine cP X1.frames λl=>jc λhA hf hfr=>?_
 refine cq (hb WK _ _ _ _ _ _ _ _ _ _ _ X1 I1 hmk1 hxs) (λfl s2 q=>?_) λe s2 q=>?_
 .obtain⟨fl',sw,re,wT,AT,SL,m2,e2,n2,nz,GT,I2,L2,hR2,v2⟩:=q;rw[e2]at e1;have on:=(I.LM I2).Ia;have hv:d6 s2.heap wT (match fl with | .ret v=>v | _=>.none) (oy fl'):=by
   cases fl<;>cases fl'<;>first | exact v2.elim | exact trivial | exact v2
  have nn:=n1.trans n2
  obtain⟨h0,tk0,rfl⟩:=nn;have go:∀v,d6 h0 wT v (oy fl')->QE Z m R mk d6 s G u (af (d+1) mk f vs u) v { s with heap:=h0,toks:=tk0 }:=λv hv=>So I nz GT on hv TT hmk' e1 T
  cases fl<;>exact qo _ _ (go _ hv)
 .obtain⟨sw,re,wT,AT,SL,m2,ea,e2,rfl,n2,nz,GT,I2,L2,hR2,x2⟩:=q;rw[e2]at e1;dsimp only at e1;refine Es hA hf hfr I2 x2 λh3 I3 x3=>?_
  have on:=(I.LM I3).Ia
  have nn:=n1.trans n2
  obtain⟨h0,tk0,rfl⟩:=nn;have x4:=x3;exact qe _ _ (Pf I nz GT on x4 TT hmk' e1)
end
def yx(P:PF)(d:Nat):Prop:=∀(Z:jC) (m:c8->Option Value) (R:List (aA×di)) (A:cS) (G:List aA) (u:St) (ls:List (List (aA×di))) (s:aL) (f:Fn) (xs:List Value) (vs:List V) (mk:Nat),
 Dw P Z.base->Z.dB=P.dB->xK P->o8 P G->Dy Z A d->Inv Z m G u ls R s.heap->ft G xs vs->mk<=u.length->af d mk f vs u≠.cn ->
  f6 (bO P.prog P.w) A (.call (.ref (P.Kn f)) ⟨xs,[]⟩) (λr s'=>match r with
   | .ok (.ret v)=>QE Z m R mk d6 s G u (af d mk f vs u) v s'
   | .ok _=>False
   | .error e=>EE Z P.bad m R mk s G u (af d mk f vs u) e s') s
theorem Dh{P:PF}{bodyOf:Fn->List Stmt}{scopeOf:Fn->eK}(K:∀f,Nc P f (bodyOf f) (scopeOf f))(hb:∀d,yx P d->∀f mk,nh P ⟨af d,mk⟩ d (zI f (scopeOf f)) (bodyOf f) (cc f).body):∀d,yx P d
 | 0=>λJ J J J J J J J J J J J J J J J J J J J T=>absurd rfl T
 | d+1=>λJ J J J J J J J f J J J B hc db gv ao I hx TT T=>Pz (K f) (λmk=>hb d (Dh K hb d) f mk) B hc db gv ao I hx TT T (λJ J q=>q) λJ J q=>q
section
variable{P:PF}{C:Cx}{n:Nat}{F:Fv}
def Hj(P:PF)(C:Cx)(n:Nat):Prop:=∃mk,C=⟨af n,mk⟩/\yx P n
theorem MN{f:Fn}{es:List Expr}{Da:List ME}{np pos:jy}(hC:Hj P C n)(hq:(Fn.str f==Fn.qual f)=true)(WE:F.calm=true)(hg:oD F (Fn.str f)=true)(S:noStar es=true)(H:F2 (ec P C n F) es Da):ec P C n F (.Call (.Name (Fn.str f) np) es [] pos) (.call f Da):=by
 obtain⟨mk,rfl,hC⟩:=hC;intro Z m R A M G u ls E s X I hm T;have e:ev ⟨af n,mk⟩ (.call f Da) E u=(q9 ⟨af n,mk⟩ Da E u).bind λvs u=>af n mk f vs u:=rfl
 refine Call_ (sQ X I hg (X.gl.fn f hq) (BX (s8 (X.gl.QB f)) H S X I hm (gn.refl s) (bD _) (dF.refl _ _) e T λxs vs rs xz Fa s2 n2 e2 nz GT Re mo12 I2 r2=>?_)) rfl;simp only[e2]at T ⊢;have ao:Dy Z A n:=by have:=X.xJ;rw[WE]at this;exact this.c
 refine rZ (kU (hC Z m R A xz rs Fa s2 f xs vs mk X.base X.dB X.gl (X.HY.mono nz) ao I2 r2 (ae hm GT.1) T) λr s3 q=>?_);refine iJ n2 λh0 tk0 zn=>?_;clear n2;subst zn
 cases r with
 | ok fl=>
  cases fl<;>first | exact q.elim | exact q.back rfl nz GT
 | error e=>exact q.back rfl nz GT
end
structure tu(P:PF):Prop where
 jt:∀c m f,oE c m=some f->Rk P.K (P.dB c) m.str=true/\r9 P.K (.ref (P.dB c)) m.str=some (some (.ref (P.Kn f)))/\isFn P.K (.ref (P.Kn f))=true
 apart:∀(m:AA) (f:eM),(eM.str f==AA.str m)=false
 make:∀c,makesIn P.K (P.dB c)=true/\r9 P.K (.ref (P.dB c)) "__init__" = some (some (.ref (P.Kn (qZ c))))/\typeIn P.K (.ref (P.Kn (qZ c)))=some (.type "function")
set_option tactic.hygienic true in
theorem O8{P:PF}(f4:tu P){G:List aA}{es:List jb}{fs:List (eM×V)}(H:qJ G es fs)(mm:AA):getL mm.str es=some none:=by
 have h1:es.find? (·.key.isStr mm.str)=none:=by
  induction H with
  | nil=>rfl
  | cons x _ ih=>
   rename_i e p l m' _;refine cJ (λWv er=>?_) x;refine cP Wv λt ek=>?_
   simp only[SS,show e.key.isStr mm.str=false from by rw[ek];exact f4.apart mm p.1];exact ih
 unfold getL;rw[h1,H.noRef];rfl
section
variable{P:PF}{C:Cx}{n:Nat}{F:Fv}
set_option tactic.hygienic true in
theorem Lz{o:Expr}{mo:ME}{mm:AA}{es:List Expr}{Da:List ME}{apos pos:jy}(f4:tu P)(hC:Hj P C n)(WE:F.calm=true)(hp:oi o=true)(S:noStar es=true)(hn:es.length<29)(WB:(apos.endLine==pos.line)=true)(h:ec P C n F o mo)(H:F2 (ec P C n F) es Da):
  ec P C n F (.Call (.Attribute o mm.str apos) es [] pos) (.jt mo mm Da):=by
 obtain⟨mk,rfl,hC⟩:=hC;intro Z m R A M G u ls E s X I hm T;have e:ev ⟨af n,mk⟩ (.jt mo mm Da) E u=(ev ⟨af n,mk⟩ mo E u).bind λx u=>match x with
  | .ref a=>match u[a]? with
   | some (.inst c _)=>match oE c mm with
    | some f=>(q9 ⟨af n,mk⟩ Da E u).bind λvs u=>af n mk f (.ref a::vs) u
    | none=>.cn
   | _=>.cn
  | _=>.cn:=rfl
 refine tV hp S hn WB (jd e T (h _ _ _ _ _ _ _ _ _ _ X I hm) λx v po zs Ix s1 n1 e1 wP wS I1 r1=>?_);intro pl;refine d5 λGG Y=>?_
 cases v<;>first | exact absurd e1 T | skip
 rename_i k;refine cP (sF r1) λa=>cJ λGo hxa=>?_;subst Go
 dsimp only at e1;refine ny (po[k]?) (λho=>?_) λob ho=>?_
 .simp only[ho]at e1;exact absurd e1 T
 ·
  rw[ho]at e1;cases ob<;>dsimp only at e1<;>first | exact absurd e1 T | skip
  rename_i c fs;refine ny (oE c mm) (λhf=>?_) λf hf=>?_
  .simp only[hf]at e1;exact absurd e1 T
  ·
   rw[hf]at e1;dsimp only at e1;refine Kv (I1.inst ho) λa' dx es' n'=>mT λha hp' fr IA=>?_
   rw[hxa]at ha;obtain rfl:=aD ha;refine jc (λg1 g2 g3=>?_) (f4.jt c mm f hf);rw[X.dB]at IA;refine Y ?_;refine method_inst I1.fr X.base.CW IA g1 g2 g3 (O8 f4 fr mm) ?_;refine BX (first:=[.ref a]) (s8 (X.gl.QB f)) H S (X.mono wP) I1 (ae hm wS.1) n1 wP wS e1 T λxs vs rs xz Fa s2 n2 e2 nz GT Re mo12 I2 r2=>?_
   simp only[e2]at T ⊢;have ao:Dy Z A n:=by have:=X.xJ;rw[WE]at this;exact this.c
   refine rZ (kU (hC Z m R A xz rs Fa s2 f (.ref a::xs) (.ref k::vs) mk X.base X.dB X.gl (X.HY.mono nz) ao I2 (.cons (dX.mono hxa Re) r2) (ae hm GT.1) T) λr s3 q=>?_);refine iJ n2 λh0 tk0 zn=>?_;clear n2;subst zn
   cases r with
   | ok fl=>cases fl<;>first | exact q.elim | exact q.back rfl nz GT
   | error e=>exact q.back rfl nz GT
set_option tactic.hygienic true in
theorem OG{c:pG}{es:List Expr}{Da:List ME}{np pos:jy}(f4:tu P)(hC:Hj P C n)(WE:F.calm=true)(hg:oD F (pG.str c)=true)(S:noStar es=true)(H:F2 (ec P C n F) es Da):ec P C n F (.Call (.Name (pG.str c) np) es [] pos) (.new c Da):=by
 obtain⟨mk,rfl,hC⟩:=hC;intro Z m R A M G u ls E s X I hm T;have e:ev ⟨af n,mk⟩ (.new c Da) E u=(q9 ⟨af n,mk⟩ Da E u).bind λvs u=>(af n mk (qZ c) (.ref u.length::vs) (u++[.inst c []])).bind λr re=>if r=.none then .ok (.ref u.length) re else .cn:=rfl
 refine Call_ (sQ X I hg (X.gl.cls c) (BX (s8 (X.gl.T1 c)) H S X I hm (gn.refl s) (bD _) (dF.refl _ _) e T λxs vs rs xz Fa s2 n2 e2 nz GT Re mo12 I2 r2=>?_)) rfl;refine jc (λg1 g2 g3=>?_) (f4.make c);refine cP I2.fo λFO=>jc λf8 hFO Ws=>?_
 refine rZ (make_K I2.fr f8 (X.base.CW.keeps I2.fr.keep) g1 g2 g3 λx dx h' F' N' hdx hxx=>?_);have fresh:∀y,dx<=y->y∉(Fa.flatten++R).map (·.1)/\y∉Z.fr.map (·.1):=λy hy=>by
  refine⟨λe=>?_,λe=>?_⟩
  .obtain⟨p,hp,e⟩:=bj.mp e;exact absurd (e▸hdx p (bY _ hp)) (fJ.mpr hy)
  .rw[<-hFO]at e;obtain⟨p,hp,e⟩:=bj.mp e;exact absurd (e▸hdx p (bX _ hp)) (fJ.mpr hy)
 have I3:Inv Z m (xz++[x]) (rs++[.inst c []]) (Fa++[[(x,Ho (P.dB c) dx),(dx,lN [] 0)]]) R h':=by
  refine I2.push (w4 Fa _ R) F' (zk N' λp hp=>?_) ?_ (λp hp=>?_) (I2.rel.push ⟨dx,[],0,by rw[X.dB],.nil⟩) (Ws h' (_::_::(Fa.flatten++R)) N')
  .exact(aO.mp hp).elim (λe=>e▸.head _) λhp=>.tail _ ((aO.mp hp).elim (λe=>e▸.head _) λhp=>.tail _ (bY _ hp))
  .exact eT.mpr ⟨λe=>absurd (bM.mp e) (ul hxx),eT.mpr ⟨AE,DJ⟩⟩
  .refine bN (aO.mp hp) (λKM=>?_) λhp=>?_
   .subst KM;exact fresh _ (dZ hxx)
   .exact(bM.mp hp)▸(fresh _ (cH _))
 have la:=I2.rel.la
 have hv0:=yH xz rs la x
 have ao:Dy Z (A.under (.builtin "type.__call__" ⟨.ref (P.dB c)::xs,[]⟩)) n:=by
  have a:=X.xJ
  rw[WE]at a;refine⟨a.handled rfl,?_,?_,a.frames⟩
  .have:=a.depth
   show A.depth+1+2*n+8<_;lia
  .have:=a.units
   show A.units+1+8*n+196<_;lia
 have hne2:af n mk (qZ c) (.ref rs.length::vs) (rs++[.inst c []])≠.cn:=λq=>T (by refine e2.trans ?_;rw[q];rfl)
 have hmk2:mk<=(rs++[O.inst c []]).length:=by simp only[aj];exact ae (ae hm GT.1) (aW _ _)
 have gk:G <+: xz++[x]:=nz.trans (cT _ _)
 refine kU (hC Z m R _ (xz++[x]) (rs++[.inst c []]) _ { s2 with heap:=h' } (qZ c) (.ref x::xs) (.ref rs.length::vs) mk X.base X.dB X.gl (X.HY.mono gk) ao I3 (.cons hv0 (r2.mono (cT _ _))) hmk2 hne2) λr s3 q=>?_
 have mo3:dF mk u (rs++[.inst c []]):=GT.trans (dF.push (ae hm GT.1) _)
 refine iJ n2 λh0 tk0 zn=>?_;clear n2;subst zn
 cases r with
 | ok fl=>
  cases fl<;>first | exact q.elim | skip
  rename_i rv;obtain⟨v4,σ4,as4,ls4,h4,tk4,e4,rfl,le4,mo4,I4,r4⟩:=q;simp only[e4,RE.cV]at e2;by_cases hv4:v4=.none
  .rw[aF hv4]at e2;subst hv4;refine⟨?_,?_⟩
   .cases rv<;>first | rfl | exact r4.elim
   .exact⟨_,σ4,as4,ls4,h4,tk4,e2,rfl,gk.trans le4,mo3.trans mo4,I4,d6.of (hv0.mono le4)⟩
  .rw[aZ hv4]at e2;exact absurd e2 T
 | error e=>
  obtain⟨σ4,as4,ls4,h4,tk4,ea,e4,rfl,rfl,le4,mo4,I4,x4⟩:=q;simp only[e4]at e2;exact⟨σ4,as4,ls4,h4,tk4,ea,e2,rfl,rfl,gk.trans le4,mo3.trans mo4,I4,x4⟩
end
open Sem (wp)
noncomputable abbrev ik(C t:aA)(d:Option aA):di:={ cls:=.ref C,dict:=d,data:=.fields #[.ref t,.none,.none,.none,.bool false,.none] }
section
variable{f4:FA}{A:cS}{im:Value->aL->Prop}{h:eJ}{g:Array Rq}{d:Drawn}{t:Nat}{os:OsState}
variable{nm q:c8}{C f8:aA}{bs bm:List Value}{Tm:Bool}{sn:List c8}{sub:List Value}{ab:Bool}{col:Option Bool}{dd:Option aA}{k0 k1 k2 k3 k5:Option Value}
theorem JJ(hB:bm.contains (.type "Exception")=true){FM:List Value}{Q:Unit->aL->Prop}(hC:h.get? C=some (kS nm q C f8 bs bm Tm sn sub ab col dd k0 k1 k2 k3 k5 "Exception.__new__"))
  (hq:Q () ⟨h,g,d,t,os⟩):bT f4 A (uP "Exception.__new__" ⟨.ref C::FM,[]⟩) Q im ⟨h,g,d,t,os⟩:=by
 have hcont:(fM C::bm).contains (.type "Exception")=true:=by simp only[iw,hB,fO]
 simp only[uP,dH.newKind,dH.newSplit]
 repeat (first | refine gG hC ?_ | (refine lM hC ?_;rw[hcont]) | refine wpAny_staticBase_exc hC ?_ | refine wpAny_madeBy_exc hC ?_ | rw[bne_self_eq_false,Bool.false_eq_true,if_false] | wp_step)
 exact hq
end
section
variable{prog:pJ}{w:World}{A:cS}{R:pB->aL->Prop}{h:eJ}{g:Array Rq}{d:Drawn}{t:Nat}{os:OsState}
variable{nm q:c8}{C f8:aA}{bs bm:List Value}{Tm:Bool}{sn:List c8}{sub:List Value}{ab:Bool}{col:Option Bool}{dd:Option aA}{k0 k1 k2 k3 k5:Option Value}
theorem Pl(hB:bm.contains (.type "Exception")=true)(hA:bm.contains (.type "AttributeError")=false)(hN:bm.contains (.type "NameError")=false){FM:List Value}
  (hC:h.get? C=some (kS nm q C f8 bs bm Tm sn sub ab col dd k0 k1 k2 k3 k5 "Exception.__new__"))
  (hq:R (.ok (.ret (.ref (h.objs.size+1)))) ⟨(h.push { cls:=.type "tuple",data:=.seq FM.toArray }).push (ik C h.objs.size none),g,d,t,os⟩) (hrest:FM.length<=uO) :
  f6 (bO prog w) A (.builtin "Exception.__new__" ⟨.ref C::FM,[]⟩) R ⟨h,g,d,t,os⟩:=by
 have hends:=dH.ends
 have hcB:(fM C::bm).contains (.type "Exception")=true:=by simp only[iw,hB,fO]
 have hcA:(fM C::bm).contains (.type "AttributeError")=false:=by simp only[iw,hA];rfl
 have hcN:(fM C::bm).contains (.type "NameError")=false:=by simp only[iw,hN];rfl
 refine codeAny_builtinAt dH.entry ?_;refine PySem.wpAt_bind ?_;refine PySem.wpAt_bind (PySem.wpAt_stack λp below=>PySem.wpAt_of_wpAny ?_)
 wp_walk
 refine PySem.wpAt_of_wpAny ?_;rw[dH.owner]
 repeat (first | with_reducible refine wpAny_madeHere_exc dH.canon hC ?_ | with_reducible refine gG hC ?_ | (with_reducible refine lM hC ?_;first | rw[hcB] | rw[hcA] | rw[hcN]) | wp_step)
 show R _ _
 rw[DD];exact hq
end
section
variable{prog:pJ}{w:World}{A:cS}{R:pB->aL->Prop}{im:Value->aL->Prop}{h:eJ}{g:Array Rq}{d:Drawn}{t:Nat}{os:OsState}
variable{nm q:c8}{C f8:aA}{bs bm:List Value}{Tm:Bool}{sn:List c8}{sub:List Value}{ab:Bool}{col:Option Bool}{dd:Option aA}{k0 k1 k2 k3 k5:Option Value}
theorem Mq{K:uQ}(X:K.In h)(hB:bm.contains (.type "Exception")=true)(hA:bm.contains (.type "AttributeError")=false)(hN:bm.contains (.type "NameError")=false){FM:List Value}{fI:aA}
  (hC:h.get? C=some (kS nm q C f8 bs bm Tm sn sub ab col dd k0 k1 k2 k3 k5 "Exception.__new__")) (hi:r9 K (.ref C) "__init__" = some (some (.ref fI))) (hf:typeIn K (.ref fI)=some (.type "function")) (hrest:FM.length<=uO)
  (hq:f6 (bO prog w) (A.under (.builtin "type.__call__" ⟨.ref C::FM,[]⟩)) (.call (.ref fI) ⟨.ref (h.objs.size+1)::FM,[]⟩) (InitBack (h.objs.size+1) R)
   ⟨(h.push { cls:=.type "tuple",data:=.seq FM.toArray }).push (ik C h.objs.size none),g,d,t,os⟩) :
  f6 (bO prog w) A (.call (.ref C) ⟨FM,[]⟩) R ⟨h,g,d,t,os⟩:=by
 have f1:=tc_lookup
 have f2:=tc_bind (.ref C)
 have hT:(⟨h,g,d,t,os⟩:aL).TypeIs (.ref C) "type" := ⟨_,hC,rfl⟩
 refine qm ?_;show bT _ _ (callAny (.ref C) _) _ _ _
 repeat (any_goals (first | assumption | with_reducible refine gG hC ?_ | wp_step))
 refine⟨rfl,?_⟩;refine codeAny_call_builtin_at (Nr _ (by decide +kernel)) entry_typeCall (wpAny_check_type_call_sub hC ?_)
 repeat (first | with_reducible refine gG hC ?_ | with_reducible refine wpAny_madeBy_exc hC ?_ | wp_step)
 refine codeAny_call_builtin_code (Nr _ dH.quiet) (JJ hB hC ?_);refine Pl hB hA hN hC ?_ hrest;have k:∀b o,h.get? b=some o->((h.push { cls:=.type "tuple",data:=.seq FM.toArray }).push (ik C h.objs.size none)).get? b=some o:=λb o e=>bz _ (bz _ e)
 have hC₁:=k _ _ hC
 have hcC:(fM C::bm).contains (.ref C)=true:=by simp
 have X₁:=X.keeps k
 repeat (first | with_reducible refine gG hget ?_ | ((show bT _ _ (isSubtype (fM C) _) _ _ _);refine lM hC₁ ?_;rw[hcC]) | wp_step)
 refine(looks_findIn X₁ hi).here ?_;refine fR (aG ((bind_fn X₁ _ hf).here ?_));refine aG (rZ (kU hq λr s' z=>?_));rcases r with e | (v | _ | _ | _)<;>first | exact z | exact z.elim | skip
 obtain⟨rfl,z⟩:=z
 first
  | exact bS (bS z)
  | (wp_walk;exact z)
end
open Sem (wp)
section
variable{prog:pJ}{w:World}{A:cS}{im:Value->aL->Prop}{h:eJ}{g:Array Rq}{d:Drawn}{t:Nat}{os:OsState}
variable{nm q:c8}{C f8:aA}{bs bm:List Value}{Tm:Bool}{sn:List c8}{sub:List Value}{ab:Bool}{col:Option Bool}{dd:Option aA}{k0 k1 k2 k3 k5:Option Value}{nid:String}
theorem AW{f4:FA}(hB:bm.contains (.type "Exception")=true){e:aA}{oe:di}{FM:List Value}{Q:Unit->aL->Prop}
  (hC:h.get? C=some (kS nm q C f8 bs bm Tm sn sub ab col dd k0 k1 k2 k3 k5 nid)) (he:h.get? e=some oe) (hcls:oe.cls=.ref C) (hq:Q () ⟨h,g,d,t,os⟩) :
  bT f4 A (uP "Exception.__init__" ⟨.ref e::FM,[]⟩) Q im ⟨h,g,d,t,os⟩:=by
 have hcB:(fM C::bm).contains (.type "Exception")=true:=by rw[iw,hB,fO]
 have hshort:=dH.noStar
 simp only[uP,dH.initKind,dH.initSplit,dH.initRow]
 repeat (first | (with_reducible refine gG he ?_;rw[hcls]) | with_reducible refine gG hC ?_ | (with_reducible refine lM hC ?_;rw[hcB]) | wp_step)
 refine wpAny_onRaise ?_;rw[show ∀(a b) n,Bind.check ⟨.positional,"*","Exception",.self,[⟨"args",.varPos,false⟩]⟩ a b n (Wn (λx=>x.fst) ({ pos:=fM e::FM }:Args).kw)=pure ()from
  λa b n=>check_star_args _ _ _ _ _ _]
 exact bS hq
theorem JI(hB:bm.contains (.type "Exception")=true){e tt:aA}{FM:List Value}{Q:Value->aL->Prop}
  (hC:h.get? C=some (kS nm q C f8 bs bm Tm sn sub ab col dd k0 k1 k2 k3 k5 nid)) (he:h.get? e=some (ik C tt none)) (hrest:FM.length<=uO)
  (hq:∀h' t',h'.get? e=some (ik C t' none)->(∀b o,b≠e->h.get? b=some o->h'.get? b=some o)->Q .none ⟨h',g,d,t,os⟩) :
  bT (bO prog w) A (call (.builtin "Exception.__init__") (.ref e::FM)) Q im ⟨h,g,d,t,os⟩:=by
 refine rZ (Rg dH.init.plain dH.initEntry (AW hB hC he rfl ?_))
 wp_walk
 refine hq _ h.objs.size ?_ λb o hb hbo=>?_
 .rw[iy _ (bz _ he) rfl];rfl
 .rw[tG _ _ (Ne.symm hb)];exact bz _ hbo
end
section
variable{prog:pJ}{w:World}{A:cS}{im:Value->aL->Prop}{K:uQ}{C e tt:aA}{s:aL}{name:c8}{v:Value}{Q:Unit->aL->Prop}
structure Dt(K:uQ)(C:aA)(mro:List Value):Prop where
 set:r9 K (.ref C) "__setattr__" = some (some (.builtin "object.__setattr__"))
 cls:∃cd,clsIn K C=some cd/\cd.hasDict=true/\cd.mro=mro/\cd.mro.isEmpty=false/\cd.mro.contains (.type "object")=true
 UU:∀self,refuseLoop self "__setattr__" mro=pure ()
theorem EP{mro:List Value}{od:Option di}{ox:di}{R:pB->aL->Prop}{tk:Tok}(X:K.In s.heap)(dL:Dt K C mro)(I:InstAt s.heap e ox C od)(ht:vr K C name=some none)
  (h:∀b,bT (bO prog w) A.in1 (Qg (.ref e) (.ref C) (.str name tk) name v b) (λpZ s'=>match pZ with | .done f=>R (.ok f) s' | .again c'=>c'.quiet=true/\f6 (bO prog w) A c' R s') (λe s'=>R (.error e) s') s) :
  f6 (bO prog w) A (.call (.builtin "object.__setattr__") ⟨[.ref e,.str name tk,v],[]⟩) R s:=by
 refine d5 λGG Y=>?_
 have SF:=PySem.F.store_object
 refine cP dL.cls λcd=>Qj λhc hd hm ne ho=>?_
 have sub:Looks (bO prog w) s.heap (isInstance (.ref e) (.type "object")) true:=I.type.andThen (looks_mroIn X (by unfold mroIn;rw[hc,rV,aZ (by rw[ne];decide),ho]))
 refine Y ?_;refine Rg SF.slot.plain SF.entry (@check_slot (bO prog w) _ _ s "object.__setattr__" "object" "__setattr__" (.ref e) [.str name tk,v] [] _ SF.kind SF.split sub (SF.args (.ref e) (.str name tk) v) ?_);refine d5 λGG Y=>?_
 refine cP (aT.mp ht) λaS=>cJ λha hr=>?_
 have hml:Looks (bO prog w) s.heap (mroOf (.ref C)) cd.mro:=(Rm X hc).andThen .now
 have L3:Looks (bO prog w) s.heap (Qf aS) none:=by
  cases aS with
  | none=>exact .now
  | some a=>
   refine cP (dG.mp hr) λb=>cJ λhb hb2=>?_
   cases b with
   | true=>cases hb2
   | false=>exact(looks_takesIn X hb).andThen .now
 refine Y ?_;rw[osa_eq,refuse_eq];refine aG (aG (I.type.here (aG (hml.here ?_))));rw[hm,dL.UU];refine bS (aG (I.type.here (aG ((looks_findIn X ha).here (aG (L3.here ?_))))));exact h _
theorem BL{D:aA}{es:List jb}{n:Nat}{nv:Value}{R:Fin->aL->Prop}(hD:s.heap.get? D=some (lN es n))(hr:es.any (·.refKey)=false)(hz:es.length<=900)(hnv:∃tk,nv=.str name tk)
  (h:∀h' es' n' tk',h'.get? D=some (lN es' n')->es'.any (·.refKey)=false->es'.length<=es.length+1->mD D s.heap h'->R (.done (.ret .none)) { s with heap:=h',toks:=tk' }) :
  bT (bO prog w) A (sj D nv name v) R im s:=by
 obtain⟨tk,rfl⟩:=hnv;unfold sj;refine aG (bS (aG ?_));unfold nsSet;refine aG (aG (wpAny_askSetting (bS (aG (wpAny_mkText (aG (II hD ?_)))))));dsimp only;have c:(!es.toArray.any (·.key.isStr name)&&es.toArray.any (·.refKey))=false:=by
  rw[<-Qc,<-Qc];show(!es.any _&&es.any _)=false;rw[hr,DK]
 rw[aRefKeyMayBeTheName_at,c];refine wpAny_updatePart hD ?_;have eD:Obj.putName name (i9 w.params name) (.str name s.toks) v (lN es n)=lN (Rj name (i9 w.params name) (.str name s.toks) v es) (putN name es n):=putName_dict _ _ _ _ _ _;have hlen:∀es:List jb,(Rj name (i9 w.params name) (.str name s.toks) v es).length<=es.length+1:=by
  intro es;induction es with
  | nil=>exact cH _
  | cons a r ih=>unfold Rj;split<;>simp only[dh]<;>lia
 have href:∀es:List jb,es.any (·.refKey)=false->(Rj name (i9 w.params name) (.str name s.toks) v es).any (·.refKey)=false:=by
  intro es;induction es with
  | nil=>intro _;rfl
  | cons a r ih=>
   intro h;rw[kT,gc]at h;unfold Rj
   split
   .rw[kT,h.2,xt];exact h.1
   .rw[kT,ih h.2,xt];exact h.1
 have D':(s.heap.update D (Obj.putName name (i9 w.params name) (.str name s.toks) v)).get? D=some (lN (Rj name (i9 w.params name) (.str name s.toks) v es) (putN name es n)):=by
  rw[iy _ hD (by rw[eD];rfl),eD]
 refine aG (wpAny_lookBehind D' (pastItsLine_dict (by rw[List.size_toArray,gK];have:=hlen es;lia)) ?_);exact bS (h _ _ _ _ D' (href es hr) (hlen es) (mS ..))
theorem Pj{mro:List Value}{dx:Option aA}{es:List jb}{n:Nat}(X:K.In s.heap)(dL:Dt K C mro)(he:s.heap.get? e=some (ik C tt dx))(hdx:∀D,dx=some D->D≠e/\s.heap.get? D=some (lN es n))(hr:es.any (·.refKey)=false)(hz:es.length<=900)(ht:vr K C name=some none)
  (q:∀h' D' es' n' tk',h'.get? e=some (ik C tt (some D'))->D'≠e->h'.get? D'=some (lN es' n')->es'.any (·.refKey)=false->es'.length<=es.length+1->(∀b o,b≠e->dx≠some b->s.heap.get? b=some o->h'.get? b=some o)->(dx=some D'\/s.heap.get? D'=none)->Q () { s with heap:=h',toks:=tk' }) :
  bT (bO prog w) A (PySem.setAttr (.ref e) name v) Q im s:=by
 refine d5 λGG Y=>?_
 refine cP dL.cls λcd=>Qj λhc hd hm ne ho=>?_
 cases dx with
 | none=>
  have I:InstAt s.heap e (ik C tt none) C none:=⟨he,rfl,rfl,trivial⟩
  refine Y ?_;refine set_plain X I dL.set (EP X dL I ht λb=>?_);refine aG (bS (aG (aG (II he (aG (Looks.here (Rm X hc) ?_))))));rw[hd];refine aG (wpAny_alloc (aG (wpAny_update (bz _ he) (bS ?_))));dsimp only;have T:e≠s.heap.objs.size:=λz=>by rw[z]at he;exact absurd (gR he) (i6 _)
  have hD:((s.heap.push { cls:=.type "dict",data:=.dict #[] }).update e λo=>{ o with dict:=some s.heap.objs.size }).get? s.heap.objs.size=some (lN [] 0):=
   (Ku _ _ _ _ (Ne.symm T)).trans (dD _ rfl)
  have hE:((s.heap.push { cls:=.type "dict",data:=.dict #[] }).update e λo=>{ o with dict:=some s.heap.objs.size }).get? e=some (ik C tt (some s.heap.objs.size)):=
   iy _ (bz _ he) rfl
  refine BL hD rfl (fe _) ⟨_,rfl⟩ λh' es' n' tk' g1 g2 g3 g4=>?_
  refine q h' s.heap.objs.size es' n' tk' ((g4.2 e T).trans hE) (Ne.symm T) g1 g2 (by simp only[pn]at g3;lia) (λb o hb J hbo=>?_) (.inr (kC _));have hbs:b≠s.heap.objs.size:=λz=>by rw[z]at hbo;exact absurd (gR hbo) (i6 _)
  exact(g4.2 b hbs).trans ((Ku _ _ _ _ hb).trans (bz _ hbo))
 | some D=>
  refine cJ (λT hD=>?_) (hdx D rfl);have I:InstAt s.heap e (ik C tt (some D)) C (some (lN es n)):=⟨he,rfl,rfl,hD⟩;refine Y ?_;refine set_plain X I dL.set (EP X dL I ht λb=>?_);refine aG (bS (aG (aG (II he (aG (Looks.here (Rm X hc) ?_))))));rw[hd];refine bS ?_;refine BL hD hr hz ⟨_,rfl⟩ λh' es' n' tk' g1 g2 g3 g4=>?_
  refine q h' D es' n' tk' ((g4.2 e (Ne.symm T)).trans he) T g1 g2 (by assumption) (λb o J hb hbo=>?_) (.inl rfl);exact(g4.2 b λz=>hb (z▸rfl)).trans hbo
end
open Sem (wp)
structure Nf(P:PF)(f:aA)(qual:c8)(ps:List c8)(body:List Stmt)(scope:eK):Prop where
 obj:∃params dV kV doc pm an cdv ct o,P.K.lookup f=some o/\o.data=.func (fnOf "__init__" qual params body scope dV kV doc pm an cdv ct)/\codeIn P.K cdv qual=true /\
  ∀xs:List Value,xs.length=ps.length->IK (fnOf "__init__" qual params body scope dV kV doc pm an cdv ct) ⟨xs,[]⟩=pure (ps.zip xs)
 kind:scope.kind=.function
 co:scope.isCoroutine=false
 gen:scope.isGenerator=false
 cell:∀x∈scope.names,x.2≠.cell
 loc:∀p∈ps,scope.names.lookup p=some .local
structure xN(P:PF)(C2 f1 f2:aA)(b1 b2:List Stmt)(s1 s2:eK):Prop where
 cls:∃nm q f8 bs Tm sn sub ab col dd k0 k1 k2 k3 k5,P.K.lookup P.bad=some (kS nm q P.bad f8 bs [.ref C2,.type "Exception",.type "BaseException",.type "object"] Tm sn sub ab col dd k0 k1 k2 k3 k5 "Exception.__new__")
 init:r9 P.K (.ref P.bad) "__init__" = some (some (.ref f1))
 fn:typeIn P.K (.ref f1)=some (.type "function")
 set:Dt P.K P.bad [.ref P.bad,.ref C2,.type "Exception",.type "BaseException",.type "object"]
 text:vr P.K P.bad "text" = some none
 square:vr P.K P.bad "square" = some none
 x1:Nf P f1 "BadPosition.__init__" ["self","text","square"] b1 s1
 x2:Nf P f2 "ChessError.__init__" ["self","text"] b2 s2
 b1:∃p1 p2 p3 p4 p5 p6 p7 p8 p9 p10,(p2.endLine==p5.line)=true/\b1=[.Expr (.Call (.Attribute (.Name "ChessError" p1) "__init__" p2) [.Name "self" p3,.Name "text" p4] [] p5) p6,.Assign [.Attribute (.Name "self" p7) "square" p8] (.Name "square" p9) p10]
 b2:∃p1 p2 p3 p4 p5 p6 p7 p8 p9 p10,(p2.endLine==p5.line)=true/\b2=[.Expr (.Call (.Attribute (.Name "Exception" p1) "__init__" p2) [.Name "self" p3,.Name "text" p4] [] p5) p6,.Assign [.Attribute (.Name "self" p7) "text" p8] (.Name "text" p9) p10]
 g1:s1.names.lookup ("ChessError" : c8)=some .globalImplicit
 g2:s2.names.lookup ("Exception" : c8)=some .globalImplicit
 m1:P.mg "ChessError" = some (.ref C2)
 m2:P.mg "Exception" = none/\P.mb "Exception" = some (.type "Exception")
 spec:specialIn P.K (.ref C2) "__getattribute__" = some (some (.builtin "type.__getattribute__"))
 reads:readsIn P.K C2 (.type "type")=true
 Ud:findCls P.K (.ref C2) (.type "type") "__init__" = some (.val (.ref f2))
 T2:AN P.K (.ref f2)=true
 bad:P.mg "BadPosition" = some (.ref P.bad)
 HR:AN P.K (.ref P.bad)=true
theorem HI{h h':eJ}{L:aA}{m:c8->Option Value}(x:h.Ns L m)(k:∀o,h.get? L=some o->h'.get? L=some o):h'.Ns L m:=by
 refine nG x λo es ep=>cJ λho r=>?_
 exact⟨o,es,ep,k o ho,r⟩
section
variable{P:PF}{A:cS}{im:Value->aL->Prop}{M:ja}{s:aL}{L:aA}{m:c8->Option Value}
theorem ym{x:c8}{pos:jy}{v:Value}{Q:Value->aL->Prop}(hk:M.scope.kind=.function)(hl:M.locals=L)(hx:M.kindOf x=some .local)(hn:s.heap.Ns L m)(hv:m x=some v)(hd:(x==("__debug__" : c8))=false)(q:Q v s):
  bT (bO P.prog P.w) A (ou (.Name x pos) M) Q im s:=wpAny_Name (Rb hk hx (hl▸hn) hv q) hd
theorem Ff{f e tv:Value}{first:List Value}{p3 p4 p5:jy}{Q:Value->aL->Prop}(hk:M.scope.kind=.function)(hl:M.locals=L)(h1:M.kindOf "self" = some .local)(h2:M.kindOf "text" = some .local)(hn:s.heap.Ns L m)(m1:m "self" = some e)(m2:m "text" = some tv)
  (cf:Callee P f first) (X:P.K.In s.heap) (q:bT (bO P.prog P.w) A (call f (first++[e,tv])) Q im s):bT (bO P.prog P.w) A (Rh p5 f first (tZ p5 (jg [.Name "self" p3,.Name "text" p4] M)) []) Q im s:=by
 have any:=rq (pos:=p5) (M:=M) (es:=[.Name "self" p3,.Name "text" p4]) rfl
 refine cf _ _ _ _ _ _ any ?_;have main:bT (bO P.prog P.w) A (spliced (tZ p5 (jg [.Name "self" p3,.Name "text" p4] M))) (λvs Os=>P.K.In Os.heap/\bT (bO P.prog P.w) A (call f (first++vs)) Q im Os) im s:=by
  refine pq (ym hk hl h1 hn m1 rfl ?_) rfl;refine pq (ym hk hl h2 hn m2 rfl ?_) rfl;exact FH ⟨X,q⟩
 exact IM main
theorem DZ{fld x:c8}{e:aA}{fv:Value}{C tt:aA}{dx:Option aA}{es:List jb}{n:Nat}{mro:List Value}{p7 p8 p9 p10:jy}{Q:Cr->aL->Prop}(hk:M.scope.kind=.function)(hl:M.locals=L)(h1:M.kindOf "self" = some .local)(h2:M.kindOf x=some .local)(hd:(x==("__debug__" : c8))=false)
  (hn:s.heap.Ns L m) (m1:m "self" = some (.ref e)) (m2:m x=some fv) (X:P.K.In s.heap) (dL:Dt P.K C mro) (he:s.heap.get? e=some (ik C tt dx)) (hdx:∀D,dx=some D->D≠e/\s.heap.get? D=some (lN es n)) (hr:es.any (·.refKey)=false) (hz:es.length<=900) (ht:vr P.K C fld=some none)
  (q:∀h' D' es' n' tk',h'.get? e=some (ik C tt (some D'))->D'≠e->h'.get? D'=some (lN es' n')->es'.any (·.refKey)=false->es'.length<=es.length+1->(∀b o,b≠e->dx≠some b->s.heap.get? b=some o->h'.get? b=some o)->(dx=some D'\/s.heap.get? D'=none)->Q .next { s with heap:=h',toks:=tk' }) :
  bT (bO P.prog P.w) A (exec (.Assign [.Attribute (.Name "self" p7) fld p8] (.Name x p9) p10) M) Q im s:=by
 rw[exec_Assign (by rfl) (by rfl)];refine aG (fQ (aG (ym hk hl h2 hn m2 hd ?_)));refine aG ?_;show bT _ _ (assign (.Attribute (.Name "self" p7) fld p8) M fv) _ _ _;refine aG (fR (ym hk hl h1 hn m1 rfl ?_));refine aG (fQ (aG (fR ?_)));exact Pj X dL he hdx hr hz ht λh' D' es' n' tk' g1 g2 g3 g4 g5 g6 g7=>IO (bS (q h' D' es' n' tk' g1 g2 g3 g4 g5 g6 g7))
end
section
variable{P:PF}{A:cS}{s:aL}{C2 f1 f2:aA}{b1 b2:List Stmt}{s1 s2:eK}{R:pB->aL->Prop}{e tt:aA}{tv xv:Value}
theorem sT{M:ja}(hk:M.scope.kind=.function):Rf M=false:=by unfold Rf;rw[hk];rfl
set_option maxHeartbeats 2000000 in
theorem T3(B:xN P C2 f1 f2 b1 b2 s1 s2){B0:eJ}(X0:P.K.In B0)(hg0:B0.Ns d7 P.mg)(hb0:B0.Ns iI P.mb)(hlim0:B0.NoLimit)(up:B0.StaysIn s.heap)(he0:B0.get? e=none)(hroom:A.depth<r7)(he:s.heap.get? e=some (ik P.bad tt none))
  (q:∀h' t' D es n tk,h'.get? e=some (ik P.bad t' (some D))->D≠e->h'.get? D=some (lN es n)->es.any (·.refKey)=false->es.length<=1->s.heap.get? D=none->(∀b o,b≠e->s.heap.get? b=some o->h'.get? b=some o)->R (.ok (.ret .none)) { s with heap:=h',toks:=tk }) :
  f6 (bO P.prog P.w) A (.call (.ref f2) ⟨[.ref e,tv],[]⟩) R s:=by
 refine d5 λGG Y=>?_
 have X:=X0.keeps up
 refine Vn (B.x2.obj) λparams dV kV doc pm an cdv ct o=>mT λho hd hcd hbind=>?_
 obtain⟨p1,p2,p3,p4,p5,p6,p7,p8,p9,p10,WB,rfl⟩:=B.b2;refine Y ?_;refine codeAny_call_def (fd:=fnOf "__init__" "ChessError.__init__" params _ s2 dV kV doc pm an cdv ct) (binds:=[("self",.ref e),("text",tv)]) hroom (X _ _ ho) hd (hlim0.keeps up) (codeRec_of X hcd) rfl (Qh (hbind [.ref e,tv] rfl)) B.x2.cell
  (λx hx=>by
   rcases aO.mp hx with rfl | hx
   .exact B.x2.loc _ (.head _)
   .refine bN (aO.mp hx) (λKM=>?_) λhx=>?_
    .subst KM;exact B.x2.loc _ (.tail _ (.head _))
    .cases hx) (λWH hn hkp=>?_) B.x2.co B.x2.gen B.x2.kind
 generalize hE:callEnv (fnOf "__init__" "ChessError.__init__" params _ s2 dV kV doc pm an cdv ct) s.heap.objs.size f2=M;refine d5 λGG Y=>?_
 have eS:M.scope=s2:=by rw[<-hE];rfl
 have eL:M.locals=s.heap.objs.size:=by rw[<-hE];rfl
 have eG:M.globals=d7:=by rw[<-hE];rfl
 have eB:M.builtins=iI:=by rw[<-hE];rfl
 have hk:M.scope.kind=.function:=by exact(eS)▸(B.x2.kind)
 have k1:M.kindOf "self" = some .local:=by simp only[fW,eS];exact B.x2.loc _ (.head _)
 have k2:M.kindOf "text" = some .local:=by simp only[fW,eS];exact B.x2.loc _ (.tail _ (.head _))
 have m1:([("self",fM e),("text",tv)]:List (c8×Value)).reverse.lookup ("self" : c8)=some (.ref e):=by rfl
 have m2:([("self",fM e),("text",tv)]:List (c8×Value)).reverse.lookup ("text" : c8)=some tv:=by rfl
 have up1:B0.StaysIn WH:=λb o x=>hkp b o (up b o x)
 have F1:Fr s.heap s.heap.objs.size WH (λx=>([("self",fM e),("text",tv)]:List (c8×Value)).reverse.lookup x):=⟨hn,hkp,cH _⟩
 have he1:=hkp _ _ he
 have xL:e<s.heap.objs.size:=gR he
 obtain⟨nm,qq,f8,bs,Tm,sn,sub,ab,col,dd,q0,q1,q2,q3,q5,hC⟩:=B.cls;refine Y ?_;refine pA (IJ ?_ (sT hk) rfl);refine tV rfl rfl (aa rfl) WB ?_;refine pX hk (by simp only[fW,eS];exact B.g2) (loadGlobal_builtin (mg:=P.mg) (mb:=P.mb) (by rw[eG];exact hg0.keeps up1) B.m2.1 (by rw[eB];exact hb0.keeps up1) B.m2.2 ?_) (by decide +kernel);intro pl;refine method_type (v:=.builtin "Exception.__init__") F1 X (by rfl) (by rfl) (by rfl) (by rfl) ?_;refine Ff (f:=.builtin "Exception.__init__") (first:=[]) hk eL k1 k2 hn m1 m2 iV (X0.keeps up1) ?_;refine JI (by rfl) (X0.keeps up1 _ _ hC) he1 (by rw[gK];simp) λh₂ t' g1 g2=>?_
 have kp2:∀b o,b≠e->s.heap.get? b=some o->h₂.get? b=some o:=λb o hb x=>g2 b o hb (hkp b o x)
 have up2:B0.StaysIn h₂:=λb o x=>g2 b o (λz=>by rw[z,he0]at x;cases x) (up1 b o x)
 have hn2:h₂.Ns s.heap.objs.size (λx=>([("self",fM e),("text",tv)]:List (c8×Value)).reverse.lookup x):=HI hn λo x=>g2 _ o (λz=>by rw[<-z]at xL;exact absurd xL (i6 _)) x
 refine pA (DZ (es:=[]) (n:=0) hk eL k1 k2 (by decide +kernel) hn2 m1 m2 (X0.keeps up2) B.set g1 (λD h=>by cases h) rfl (fe _) B.text λh₃ D es n tk g3 g4 g5 g6 g7 g8 g9=>?_);refine mC (q h₃ t' D es n tk g3 g4 g5 g6 g7 ?_ λb o hb x=>g8 b o hb (bc rfl) (kp2 b o hb x));have h2D:h₂.get? D=none:=g9.resolve_left (bc rfl);cases z:s.heap.get? D with
 | none=>rfl
 | some o=>have:=kp2 D o g4 z;rw[h2D]at this;cases this
set_option maxHeartbeats 2000000 in
theorem T4(B:xN P C2 f1 f2 b1 b2 s1 s2){B0:eJ}(X0:P.K.In B0)(hg0:B0.Ns d7 P.mg)(hb0:B0.Ns iI P.mb)(hlim0:B0.NoLimit)(up:B0.StaysIn s.heap)(he0:B0.get? e=none)(hroom:A.depth+1<r7)(he:s.heap.get? e=some (ik P.bad tt none))
  (q:∀h' t' D tk,h'.get? e=some (ik P.bad t' (some D))->D≠e->(∀b o,b≠e->s.heap.get? b=some o->h'.get? b=some o)->R (.ok (.ret .none)) { s with heap:=h',toks:=tk }) :
  f6 (bO P.prog P.w) A (.call (.ref f1) ⟨[.ref e,tv,xv],[]⟩) R s:=by
 refine d5 λGG Y=>?_
 have X:=X0.keeps up
 refine Vn (B.x1.obj) λparams dV kV doc pm an cdv ct o=>mT λho hd hcd hbind=>?_
 obtain⟨p1,p2,p3,p4,p5,p6,p7,p8,p9,p10,WB,rfl⟩:=B.b1;refine Y ?_;refine codeAny_call_def (fd:=fnOf "__init__" "BadPosition.__init__" params _ s1 dV kV doc pm an cdv ct) (binds:=[("self",.ref e),("text",tv),("square",xv)]) (dZ (by assumption)) (X _ _ ho) hd (hlim0.keeps up) (codeRec_of X hcd) rfl (Qh (hbind [.ref e,tv,xv] rfl)) B.x1.cell
  (λx hx=>by
   rcases aO.mp hx with rfl | hx
   .exact B.x1.loc _ (.head _)
   .refine bN (aO.mp hx) (λKM=>?_) λhx=>?_
    .subst KM;exact B.x1.loc _ (.tail _ (.head _))
    .refine bN (aO.mp hx) (λKM=>?_) λhx=>?_
     .subst KM;exact B.x1.loc _ (.tail _ (.tail _ (.head _)))
     .refine d5 λGG Y=>?_
      cases hx) (λWH hn hkp=>?_) B.x1.co B.x1.gen B.x1.kind
 generalize hE:callEnv (fnOf "__init__" "BadPosition.__init__" params _ s1 dV kV doc pm an cdv ct) s.heap.objs.size f1=M;have eS:M.scope=s1:=by rw[<-hE];rfl
 have eL:M.locals=s.heap.objs.size:=by rw[<-hE];rfl
 have eG:M.globals=d7:=by rw[<-hE];rfl
 have hk:M.scope.kind=.function:=by exact(eS)▸(B.x1.kind)
 have k1:M.kindOf "self" = some .local:=by simp only[fW,eS];exact B.x1.loc _ (.head _)
 have k2:M.kindOf "text" = some .local:=by simp only[fW,eS];exact B.x1.loc _ (.tail _ (.head _))
 have k3:M.kindOf "square" = some .local:=by simp only[fW,eS];exact B.x1.loc _ (.tail _ (.tail _ (.head _)))
 have m1:([("self",fM e),("text",tv),("square",xv)]:List (c8×Value)).reverse.lookup ("self" : c8)=some (.ref e):=by rfl
 have m2:([("self",fM e),("text",tv),("square",xv)]:List (c8×Value)).reverse.lookup ("text" : c8)=some tv:=by rfl
 have m3:([("self",fM e),("text",tv),("square",xv)]:List (c8×Value)).reverse.lookup ("square" : c8)=some xv:=by rfl
 have up1:B0.StaysIn WH:=λb o x=>hkp b o (up b o x)
 have F1:Fr s.heap s.heap.objs.size WH (λx=>([("self",fM e),("text",tv),("square",xv)]:List (c8×Value)).reverse.lookup x):=⟨hn,hkp,cH _⟩
 have he1:=hkp _ _ he
 have xL:e<s.heap.objs.size:=gR he
 refine pA (IJ ?_ (sT hk) rfl);refine tV rfl rfl (aa rfl) WB ?_;refine pX hk (by simp only[fW,eS];exact B.g1) (loadGlobal_global (mg:=P.mg) (by rw[eG];exact hg0.keeps up1) B.m1 ?_) rfl;intro pl;refine method_of_cls F1 X B.spec (cls_val F1 X (mc:=.type "type") (a:=.ref f2) ?_ B.reads B.Ud (by rfl) ?_)
 .have:=B.reads
  simp only[readsIn,aH,beq_iff_eq]at this;exact this.1.1.1.2
 refine Ff (f:=.ref f2) (first:=[]) hk eL k1 k2 hn m1 m2 (s8 B.T2) (X0.keeps up1) ?_;refine rZ (T3 B X0 hg0 hb0 hlim0 up1 he0 (by show A.depth+1<_;exact hroom) he1 λh₂ t' D es n tk g1 g2 g3 g4 g5 g6 g7=>?_);have kp2:∀b o,b≠e->s.heap.get? b=some o->h₂.get? b=some o:=λb o hb x=>g7 b o hb (hkp b o x)
 have up2:B0.StaysIn h₂:=λb o x=>g7 b o (λz=>by simp only[z,he0]at x;exact cj x) (up1 b o x)
 have hn2:h₂.Ns s.heap.objs.size (λx=>([("self",fM e),("text",tv),("square",xv)]:List (c8×Value)).reverse.lookup x):=HI hn λo x=>g7 _ o (λz=>by rw[<-z]at xL;exact absurd xL (i6 _)) x
 refine pA (DZ (es:=es) (n:=n) hk eL k1 k3 rfl hn2 m1 m3 (X0.keeps up2) B.set g1 (λD' h=>by obtain rfl:=aD h;exact⟨g2,g3⟩) g4 (by lia) B.square λh₃ D' es' n' tk' a3 a4 a5 a6 a7 a8 a9=>?_);have sD:s.heap.get? D=none:=by
  cases z:s.heap.get? D with
  | none=>rfl
  | some o=>have:=hkp D o z;simp only[g6]at this;exact cj this
 exact mC (q h₃ t' D' tk' a3 a4 λb o hb x=>a8 b o hb (λz=>by obtain rfl:=aD z;simp only[sD]at x;exact cj x) (kp2 b o hb x))
end
open Sem (wp)
section
variable{f4:FA}{A:cS}{im:Value->aL->Prop}{M:ja}
variable{nm q:c8}{C f8:aA}{bs bm:List Value}{Tm:Bool}{sn:List c8}{sub:List Value}{ab:Bool}{col:Option Bool}{dd:Option aA}{k0 k1 k2 k3 k5:Option Value}{nid:String}
theorem AR{s:aL}{x:Sem Value}{Q:Cr->aL->Prop}(hbase:bm.contains (.type "BaseException")=true)(hh:A.handled=none)
  (h:bT f4 A x (λv Os=>∃e t D,v=.ref e/\Os.heap.get? C=some (kS nm q C f8 bs bm Tm sn sub ab col dd k0 k1 k2 k3 k5 nid)/\Os.heap.get? e=some (ik C t (some D))/\im (.ref e) Os) im s) :
  bT f4 A (raiseStmt M (some x) none) Q im s:=by
 have hcB:(fM C::bm).contains (.type "BaseException")=true:=by simp only[iw,hbase,fO]
 refine aG (cq h (λv Os WH=>?_) λJ J x=>x);refine nG WH λe t D=>mT λob3 hC he hE=>?_;clear WH;subst ob3
 obtain⟨hp,g,d,tk,os⟩:=Os
 repeat (first | with_reducible refine gG he ?_ | with_reducible refine gG hC ?_ | ((show bT _ _ (isSubtype (fM C) _) _ _ _);refine lM hC ?_;rw[hcB]) | wp_step)
 exact wpAny_raiseNew_none hh hE
end
section
variable{P:PF}{C:Cx}{n:Nat}{F:Fv}{C2 f1 f2:aA}{b1 b2:List Stmt}{s1 s2:eK}
theorem Inv.excAt{Z:jC}{m:c8->Option Value}{G:List aA}{u:St}{ls:List (List (aA×di))}{R:List (aA×di)}{h h':eJ}{e t D bad:aA}(I:Inv Z m G u ls R h)(he0:h.get? e=none)(k:∀b o,h.get? b=some o->h'.get? b=some o)(he:h'.get? e=some (ik bad t (some D))):
  lI Z.base (Z.L::Z.fr.map (·.1)) (ls.flatten++R) bad e h' false:=by
 have bn:∀f∈Z.L::Z.fr.map (·.1),Z.base.get? f=none:=λf hf=>by
  refine bN (aO.mp hf) (λKM=>?_) λhf=>?_
  .subst KM;cases q:Z.base.get? Z.L with
   | none=>rfl
   | some o=>exact absurd (gR q) (fJ.mpr I.fr.above)
  .refine cP (bj.mp hf) λp=>cJ λhp zn=>?_;subst zn
   exact(I.apart p hp).2.1
 refine⟨hideAll h (Z.L::Z.fr.map (·.1)),_,_,_,λb o q=>hideAll_get _ (I.fr.keep b o q) λhm=>?_,λp hp=>hideAll_get _ (I.news p hp).1 λhm=>?_,λb o q=>k b o (of_hideAll _ q),λf hf=>hideAll_none _ hf,?_,he,rfl,rfl,rfl,.inl ⟨rfl,rfl⟩⟩
 .rw[bn b hm]at q;exact cj q
 .refine bN (aO.mp hm) (λe=>?_) λhm=>?_
  .exact(I.news p hp).2.1 e
  .refine cP (bj.mp hm) λz=>cJ λhz e=>?_
   exact(I.apart z hz).2.2 (e▸gy hp)
 .cases q:(hideAll h (Z.L::Z.fr.map (·.1))).get? e with
  | none=>rfl
  | some o=>have:=of_hideAll _ q;rw[he0]at this;cases this
theorem Jk{e1:Expr}{me:ME}{txt:c8}{k:Nat}{np tp cpos pos:jy}(B:xN P C2 f1 f2 b1 b2 s1 s2)(WE:F.calm=true)(hg:oD F "BadPosition" = true)(S:CS e1=true)(h:ec P C n F e1 me):
  rG P C n F (.Raise (some (.Call (.Name "BadPosition" np) [.Constant (.str txt) k tp,e1] [] cpos)) none pos) (.raise me):=by
 intro Z m Rc Ro A M G u ls E s X I hm T;have e:ex C (.raise me) E u=(ev C me E u).then E λJ u=>.fY E u:=rfl
 have hh:=X.xJ.handled WE
 obtain⟨nm,qq,f8,bs,Tm,sn,sub,ab,col,dd,q0,q1,q2,q3,q5,hC⟩:=B.cls;refine aG (fQ ?_);refine AR (C:=P.bad) (bm:=[.ref C2,.type "Exception",.type "BaseException",.type "object"]) (nm:=nm) (q:=qq) (f8:=f8) (bs:=bs) (Tm:=Tm) (sn:=sn) (sub:=sub) (ab:=ab) (col:=col) (dd:=dd) (k0:=q0) (k1:=q1) (k2:=q2) (k3:=q3) (k5:=q5) (nid:= "Exception.__new__") (by rfl) hh ?_;refine aG (Call_ (sQ X.Az I hg B.bad ?_) rfl);have any:=rq (pos:=cpos) (M:=M) (es:=[.Constant (.str txt) k tp,e1]) (by cases e1<;>first | rfl | (exact gT S;done));have st2:jg [e1] M=(false,ou e1 M)::jg [] M:=by cases e1<;>first | rfl | (exact gT S;done)
 refine s8 B.HR _ _ _ _ _ _ any ?_;have main:bT (bO P.prog P.w) A (spliced (tZ cpos (jg [.Constant (.str txt) k tp,e1] M))) (λvs Os=>P.K.In Os.heap/\bT (bO P.prog P.w) A (call (.ref P.bad) ([]++vs)) (λv s'=>bT (bO P.prog P.w) A (do vq pos;pure v) (λv Os=>∃e t D,v=.ref e/\Os.heap.get? P.bad=some (kS nm qq P.bad f8 bs [.ref C2,.type "Exception",.type "BaseException",.type "object"] Tm sn sub ab col dd q0 q1 q2 q3 q5 "Exception.__new__")/\Os.heap.get? e=some (ik P.bad t (some D))/\EX Z P.bad F M Ro C.mark s G u Rc (ex C (.raise me) E u) (.ref e) Os) (EX Z P.bad F M Ro C.mark s G u Rc (ex C (.raise me) E u)) s') (EX Z P.bad F M Ro C.mark s G u Rc (ex C (.raise me) E u)) Os) (EX Z P.bad F M Ro C.mark s G u Rc (ex C (.raise me) E u)) s:=by
  refine pq ?_ rfl;refine wpAny_Constant_str ?_;refine pq ?_ st2;refine vD ⟨_,s.toks+1,rfl⟩ (bD _) (dF.refl _ _) rfl X.loc e T (h _ _ _ _ _ _ _ _ _ _ X.Az I hm) λxv v po zs Ix s1' n1 e1' wP wS J J I1 L1 r1=>?_
  refine FH ⟨X.base.CW.keeps I1.fr.keep,?_⟩;show bT _ _ (call (.ref P.bad) [.str txt s.toks,xv]) _ _ _;obtain⟨hp,g,d,tk,os⟩:=s1';have CW:P.K.In hp:=X.base.CW.keeps I1.fr.keep;refine rZ (Mq CW (by rfl) (by rfl) (by rfl) (CW _ _ hC) B.init B.fn (aa rfl) ?_);have kp:∀b o,hp.get? b=some o->((hp.push { cls:=.type "tuple",data:=.seq [Value.str txt s.toks,xv].toArray }).push (ik P.bad hp.objs.size none)).get? b=some o:=λb o q=>bz _ (bz _ q)
  have he:((hp.push { cls:=.type "tuple",data:=.seq [Value.str txt s.toks,xv].toArray }).push (ik P.bad hp.objs.size none)).get? (hp.objs.size+1)=some (ik P.bad hp.objs.size none):=by heap_get
  have Ww:hp.get? (hp.objs.size+1)=none:=vn (i4 _)
  refine T4 B X.base.CW X.base.g X.base.b X.base.Qy (λb o q=>kp b o (I1.fr.keep b o q)) ?_ (by have:=X.xJ.depth;show A.depth+1+1<_;lia) he λh' t' D tk' g1 g2 g3=>⟨rfl,?_⟩
  .cases q:Z.base.get? (hp.objs.size+1)with
   | none=>rfl
   | some o=>have:=I1.fr.keep _ _ q;rw[Ww]at this;exact cj this
  .have kp':=λb o q=>g3 b o (λz=>by rw[z,Ww]at q;exact cj q) (kp b o q)
   refine aG (fQ (bS ⟨hp.objs.size+1,t',D,rfl,kp' _ _ (CW _ _ hC),g1,?_⟩));have I2:=I1.grow kp';refine⟨E,po,zs,Ix,Rc,m,_,e1',rfl,n1.trans ⟨h',tk',rfl⟩,wP,wS,I2,L1,rfl,I1.excAt Ww kp' g1⟩
 exact IM main
end
open Sem (wp)
noncomputable def Fv.loud(F:Fv):Fv:={ F with calm:=false }
section
variable{Z:jC}{F:Fv}{M:ja}{m:c8->Option Value}{R Rc Ro:List (aA×di)}{G:List aA}{u:St}{E:List V}{mk:Nat}{s s':aL}{r:RX}{bad:aA}
theorem gB.loud(L:gB F M m R G E):gB F.loud M m R G E:=⟨L.len,L.loc,L.Ko⟩
theorem gB.soft(L:gB F.loud M m R G E):gB F M m R G E:=⟨L.len,L.loc,L.Ko⟩
theorem QX.soft{f:Cr}(q:QX Z F.loud M Ro mk s G u Rc r f s'):QX Z F M Ro mk s G u Rc r f s':=by
 obtain⟨fl,sw,re,wT,AT,SL,m',e1,n1,l1,m1,I,L,hR',v⟩:=q;exact⟨fl,sw,re,wT,AT,SL,m',e1,n1,l1,m1,I,L.soft,hR',v⟩
theorem EX.soft{e:Value}(q:EX Z bad F.loud M Ro mk s G u Rc r e s'):EX Z bad F M Ro mk s G u Rc r e s':=by
 obtain⟨sw,re,wT,AT,SL,m',ea,e1,e2,n1,l1,m1,I,L,hR',v⟩:=q;exact⟨sw,re,wT,AT,SL,m',ea,e1,e2,n1,l1,m1,I,L.soft,hR',v⟩
end
section
variable{P:PF}{C:Cx}{n:Nat}{F:Fv}{C2 f1 f2:aA}{b1 b2:List Stmt}{s1 s2:eK}
theorem NZ{body suite:List Stmt}{mb mh:List MS}{b0:Stmt}{np hp pos:jy}(B:xN P C2 f1 f2 b1 b2 s1 s2)(WE:F.calm=true)(hg:oD F "BadPosition" = true)(hb:nh P C n F body mb)(hh:nh P C n F.loud (b0::suite) mh):
  rG P C n F (.Try body [.ExceptHandler (some (.Name "BadPosition" np)) none (b0::suite) hp] [] [] pos) (.try mb mh):=by
 intro Z m Rc Ro A M G u ls E s X I hm T;have e:ex C (.try mb mh) E u=match iH C mb E u with
  | .fY E u=>iH C mh E u
  | r=>r:=rfl
 refine d5 λGG Y=>?_
 refine cP X.frames λl=>jc λhA hf hfr=>?_
 obtain⟨nm,qq,f8,bs,Tm,sn,sub,ab,col,dd,q0,q1,q2,q3,q5,hC⟩:=B.cls;have hbn:iH C mb E u≠.cn:=λq=>T (by refine e.trans ?_;rw[q])
 refine Y ?_;refine wpAny_Try_except (cq (hb _ _ _ _ _ _ _ _ _ _ _ X I hm hbn) (λf t1 q=>?_) λev t1 q=>?_)
 .have q':QX Z F M Ro C.mark s G u Rc (ex C (.try mb mh) E u) f t1:=by
   obtain⟨fl,sw,re,wT,AT,SL,m',e1,n1,l1,m1,I1,L,hR',v⟩:=q;simp only[e1]at e;exact⟨fl,sw,re,wT,AT,SL,m',e,n1,l1,m1,I1,L,hR',v⟩
  cases f with
  | next=>exact mC q'
  | _=>exact q'
 .obtain⟨ρ1,po,zs,Ix,WF,m1,ea,e1,rfl,n1,wP,wS,I1,L1,hR1,x1⟩:=q;simp only[e1]at e;refine vL hA hf hfr I1 x1 λh2 I2 x2=>?_
  refine oJ (λJ h=>h) (.inl rfl) I2 x2 λh3 I3 x3=>?_
  have X3:SC P Z F.loud M m1 WF (A.mark (some (.ref ea))) n zs ρ1:=
   ⟨X.base,X.dB,X.gl,X.HY.mono wP,⟨X.fF.scope,X.fF.kind,X.fF.locals,X.fF.globals,X.fF.builtins,X.fF.inj,X.fF.apart⟩,L1.loud,⟨(λh=>by exact gT h),X.xJ.depth,X.xJ.units,X.xJ.frames⟩,X.frame⟩
  have hgl:=hg
  refine wpAny_handleBy_cons (codeAny_handlers_test (sQ (s:={ t1 with heap:=h3 }) X3.Az I3 hgl B.bad ?_)) (by intro q;cases q);obtain⟨B4,oe,vs,a0,y1,y2,y3,y4,y5,y6,y7,y8⟩:=id x3;refine wpAny_excMatches_sub_self (X.base.CW.keeps I3.fr.keep _ _ hC) y6 y7 (by rfl) ?_;refine codeAny_handlers_suite ?_;refine oJ (λJ h=>h) (.inl rfl) I3 x3 λh5 I5 x5=>?_
  have nn5:=n1.trans ⟨h5,t1.toks,rfl⟩
  rw[e]at T;refine cq (hh _ _ _ _ _ _ _ _ _ _ _ X3 I5 (ae hm wS.1) T) (λf s6 q=>?_) λev s6 q=>?_
  .have:=q.soft.back nn5 wP wS hR1 e
   exact this
  .obtain⟨ρ6,σ6,as6,ls6,Rc6,m6,ea6,e6,rfl,n6,le6,mo6,I6,L6,hR6,x6⟩:=(q.soft.back nn5 wP wS hR1 e);refine vL hA hf hfr I6 x6 λh7 I7 x7=>?_
   refine E4 hf I7 x7 λh8 I8 x8=>?_
   exact⟨ρ6,σ6,as6,ls6,Rc6,m6,ea6,e6,rfl,n6.trans ⟨h8,s6.toks,rfl⟩,le6,mo6,I8,L6,hR6,x8.any⟩
end
inductive Got(p:Prop):Type where
 | kJ (h:p)
 | no
namespace Got
variable{p q:Prop}
noncomputable def and:Got p->(p->Got q)->Got q
 | .kJ h,k=>k h
 | .no,_=>.no
noncomputable def or:Got p->Got p->Got p
 | .kJ h,_=>.kJ h
 | .no,g=>g
noncomputable def jY{c:Prop}[Decidable c](k:c->Got q):Got q:=if h:c then k h else .no
noncomputable def ok:Got p->Bool
 | .kJ _=>true
 | .no=>false
theorem get:∀ {g:Got p},g.ok=true->p
 | .kJ h,_=>h
 | .no,e=>gT e
end Got
section
variable{α:Type}
@[elab_as_elim] noncomputable def AO[DecidableEq α]{f4:α->Type}(a b:α)(d:f4 b)(k:f4 a):f4 b:=if h:a=b then h▸k else d
@[elab_as_elim] noncomputable def rK{f4:List α->Type}(xs:List α)(d:f4 xs)(f:∀x r,f4 (x::r)):f4 xs:=match xs,d with
 | [],d=>d
 | x::r,_=>f x r
@[elab_as_elim] noncomputable def se{f4:List α->Type}(xs:List α)(d:f4 xs)(f:f4 []):f4 xs:=match xs,d with
 | [],_=>f
 | _::_,d=>d
@[elab_as_elim] noncomputable def Hu{f4:Option α->Type}(x:Option α)(d:f4 x)(f:∀a,f4 (some a)):f4 x:=match x,d with
 | none,d=>d
 | some a,_=>f a
@[elab_as_elim] noncomputable def Tq{f4:Option α->Type}(x:Option α)(d:f4 x)(f:f4 none):f4 x:=match x,d with
 | none,_=>f
 | some _,d=>d
@[elab_as_elim] noncomputable def vStr{f4:Const->Type}(c:Const)(d:f4 c)(f:∀s,f4 (.str s)):f4 c:=match c,d with
 | .str s,_=>f s
 | _,d=>d
end
section
variable{f4:Expr->Type}(e:Expr)(d:f4 e)
@[elab_as_elim] noncomputable def NX(f:∀c k p,f4 (.Constant c k p)):f4 e:=if h:e.ctorIdx=19 then Expr.Constant.elim (motive_1:=f4) e h f else d
@[elab_as_elim] noncomputable def vz(f:∀i p,f4 (.Name i p)):f4 e:=if h:e.ctorIdx=23 then Expr.Name.elim (motive_1:=f4) e h f else d
@[elab_as_elim] noncomputable def UM(f:∀x o y p,f4 (.BinOp x o y p)):f4 e:=if h:e.ctorIdx=2 then Expr.BinOp.elim (motive_1:=f4) e h f else d
@[elab_as_elim] noncomputable def Vo(f:∀o x p,f4 (.UnaryOp o x p)):f4 e:=if h:e.ctorIdx=3 then Expr.UnaryOp.elim (motive_1:=f4) e h f else d
@[elab_as_elim] noncomputable def vBool(f:∀o xs p,f4 (.BoolOp o xs p)):f4 e:=if h:e.ctorIdx=0 then Expr.BoolOp.elim (motive_1:=f4) e h f else d
@[elab_as_elim] noncomputable def Tu(f:∀x os xs p,f4 (.Compare x os xs p)):f4 e:=if h:e.ctorIdx=15 then Expr.Compare.elim (motive_1:=f4) e h f else d
@[elab_as_elim] noncomputable def Ts(f:∀t x y p,f4 (.IfExp t x y p)):f4 e:=if h:e.ctorIdx=5 then Expr.IfExp.elim (motive_1:=f4) e h f else d
@[elab_as_elim] noncomputable def Hv(f:∀x a p,f4 (.Attribute x a p)):f4 e:=if h:e.ctorIdx=20 then Expr.Attribute.elim (motive_1:=f4) e h f else d
@[elab_as_elim] noncomputable def NV(f:∀x y p,f4 (.Subscript x y p)):f4 e:=if h:e.ctorIdx=21 then Expr.Subscript.elim (motive_1:=f4) e h f else d
@[elab_as_elim] noncomputable def RD(f:∀a b c p,f4 (.Slice a b c p)):f4 e:=if h:e.ctorIdx=26 then Expr.Slice.elim (motive_1:=f4) e h f else d
@[elab_as_elim] noncomputable def Tr(f:∀xs p,f4 (.List xs p)):f4 e:=if h:e.ctorIdx=24 then Expr.List.elim (motive_1:=f4) e h f else d
@[elab_as_elim] noncomputable def Tp(f:∀xs k p,f4 (.Tuple xs k p)):f4 e:=if h:e.ctorIdx=25 then Expr.Tuple.elim (motive_1:=f4) e h f else d
@[elab_as_elim] noncomputable def KI(f:∀x gs s p,f4 (.ListComp x gs s p)):f4 e:=if h:e.ctorIdx=8 then Expr.ListComp.elim (motive_1:=f4) e h f else d
@[elab_as_elim] noncomputable def Qm(f:∀x xs ks p,f4 (.Call x xs ks p)):f4 e:=if h:e.ctorIdx=16 then Expr.Call.elim (motive_1:=f4) e h f else d
end
@[elab_as_elim] noncomputable def yI{f4:Expr->Type}(n:c8)(e:Expr)(d:∀e,f4 e)(f:∀np xs p,f4 (.Call (.Name n np) xs [] p)):f4 e:=Qm e (d _) λc xs ks p=>se ks (d _) (vz c (d _) λi np=>AO n i (d _) (f np xs p))
@[elab_as_elim] noncomputable def KJ{f4:Expr->Type}(n:c8)(e:Expr)(d:∀e,f4 e)(f:∀o ap xs p,f4 (.Call (.Attribute o n ap) xs [] p)):f4 e:=Qm e (d _) λc xs ks p=>se ks (d _) (Hv c (d _) λo i ap=>AO n i (d _) (f o ap xs p))
@[elab_as_elim] noncomputable def NW{f4:ua->Type}(g:ua)(d:∀g,f4 g)(f:∀x p it ifs,f4 ⟨.Name x p,it,ifs,0⟩):f4 g:=match g with
 | ⟨t,it,ifs,a⟩=>vz t (d _) λx p=>AO 0 a (d _) (f x p it ifs)
section
variable{f4:Stmt->Type}(e:Stmt)(d:f4 e)
@[elab_as_elim] noncomputable def NR(f:∀ts v p,f4 (.Assign ts v p)):f4 e:=if h:e.ctorIdx=5 then Stmt.Assign.elim (motive_2:=f4) e h f else d
@[elab_as_elim] noncomputable def UK(f:∀t o v p,f4 (.AugAssign t o v p)):f4 e:=if h:e.ctorIdx=7 then Stmt.AugAssign.elim (motive_2:=f4) e h f else d
@[elab_as_elim] noncomputable def wExpr(f:∀v p,f4 (.Expr v p)):f4 e:=if h:e.ctorIdx=24 then Stmt.Expr.elim (motive_2:=f4) e h f else d
@[elab_as_elim] noncomputable def Tj(f:∀v p,f4 (.Return v p)):f4 e:=if h:e.ctorIdx=3 then Stmt.Return.elim (motive_2:=f4) e h f else d
@[elab_as_elim] noncomputable def V7(f:∀t x y p,f4 (.If t x y p)):f4 e:=if h:e.ctorIdx=12 then Stmt.If.elim (motive_2:=f4) e h f else d
@[elab_as_elim] noncomputable def RB(f:∀t x y p,f4 (.While t x y p)):f4 e:=if h:e.ctorIdx=11 then Stmt.While.elim (motive_2:=f4) e h f else d
@[elab_as_elim] noncomputable def UJ(f:∀t i x y p,f4 (.For t i x y p)):f4 e:=if h:e.ctorIdx=9 then Stmt.For.elim (motive_2:=f4) e h f else d
@[elab_as_elim] noncomputable def RC(f:∀x c p,f4 (.Raise x c p)):f4 e:=if h:e.ctorIdx=16 then Stmt.Raise.elim (motive_2:=f4) e h f else d
@[elab_as_elim] noncomputable def UI(f:∀b h o f p,f4 (.Try b h o f p)):f4 e:=if h:e.ctorIdx=17 then Stmt.Try.elim (motive_2:=f4) e h f else d
@[elab_as_elim] noncomputable def Tn(f:∀p,f4 (.Continue p)):f4 e:=if h:e.ctorIdx=27 then Stmt.Continue.elim (motive_2:=f4) e h f else d
end
@[elab_as_elim] noncomputable def Tt{f4:ExceptHandler->Type}(g:ExceptHandler)(f:∀t n b p,f4 (.ExceptHandler t n b p)):f4 g:=match g with
 | .ExceptHandler t n b p=>f t n b p
noncomputable def ui{α β:Type}{R:β->α->Prop}(f:∀m x,Got (R x m)):(ms:List α)->(xs:List β)->Got (F2 R xs ms)
 | [],xs=>se xs .no (.kJ .nil)
 | m::ms,xs=>rK xs .no λx r=>(f m x).and λh=>(ui f ms r).and λk=>.kJ (.cons h k)
section
variable{P:PF}{C:Cx}{n:Nat}
structure Rs(P:PF)(C:Cx)(n:Nat) where
 e:∀me F e,Got (ec P C n F e me)
 b:∀mb F e,Got (qh P C n F e mb)
noncomputable def gO(r:Rs P C n)(m:Option ME)(F:Fv)(x:Option Expr):Got (Kb P C n F x m):=match m with
 | none=>Tq x .no (.kJ .none)
 | some m=>Hu x .no λx=>(r.e m F x).and λh=>.kJ (.some h)
noncomputable def gC(r:Rs P C n)(m:Option MB)(F:Fv)(xs:List Expr):Got (Fs P C n F xs m):=match m with
 | none=>se xs .no (.kJ .none)
 | some m=>rK xs .no λx q=>se q .no ((r.b m F x).and λh=>.kJ (.some h))
noncomputable def Tx(f4:tu P)(hC:Hj P C n)(r:Rs P C n)(me:ME)(F:Fv)(e:Expr):Got (ec P C n F e me):=match me with
 | .ai i=>NX e .no λc J J=>AO (.int i) c .no (.kJ MK)
 | .nf b=>NX e .no λc J J=>AO (.bool b) c .no (.kJ JX)
 | .lW=>NX e .no λc J J=>AO .none c .no (.kJ JQ)
 | .ah _=>vz e .no λJ J=>.jY λh=>.kJ (NT h)
 | .cW g=>vz e .no λi J=>AO g.str i .no (.jY λh=>.kJ (Mb h))
 | .aQ op a b=>UM e .no λx o y J=>AO op.py o .no ((r.e a F x).and λh=>(r.e b F y).and λk=>.kJ (PD h k))
 | .un op a=>Vo e .no λo x J=>AO op.py o .no ((r.e a F x).and λh=>.kJ (RG h))
 | .nX es=>vBool e .no λo xs J=>AO .And o .no ((ui (λm x=>r.e m F x) es xs).and λh=>.kJ (MX h))
 | .MQ es=>vBool e .no λo xs J=>AO .Or o .no ((ui (λm x=>r.e m F x) es xs).and λh=>.kJ (PB h))
 | .cy l Db es=>Tu e .no λx os xs J=>AO (Db.map nE.py) os .no (.jY λh1=>.jY λh2=>(r.e l F x).and λh=>(ui (λm x=>r.e m F x) es xs).and λk=>.kJ (Pw h1 h2 h k))
 | .ite c a b=>Ts e .no λt x y J=>(r.b c F t).and λh=>(r.e a F x).and λk=>(r.e b F y).and λl=>.kJ (ite_snd h k l)
 | .aS o f=>Hv e .no λx a J=>AO f.str a .no (.jY λh=>(r.e o F x).and λk=>.kJ (M2 h k))
 | .sub o i=>NV e .no λx y J=>(r.e o F x).and λh=>(r.e i F y).and λk=>.kJ (N3 h k)
 | .slice o lo hi=>NV e .no λx y J=>RD y .no λa b c J=>Tq c .no (vz x .no λi p=>(r.e o F (.Name i p)).and λh=>(gO r lo F a).and λk=>(gO r hi F b).and λl=>.kJ (I0 h k l))
 | .list es=>Tr e .no λxs J=>.jY λh=>.jY λk=>(ui (λm x=>r.e m F x) es xs).and λl=>.kJ (LK h k l)
 | .eY es=>Tp e .no λxs J J=>.jY λh=>.jY λk=>(ui (λm x=>r.e m F x) es xs).and λl=>.kJ (NY h k l)
 | .gu xL s it c=>KI e .no λx gs sc J=>rK gs .no λg q=>se q .no (NW g (λJ=>.no) λJ J iter ifs=>.jY λh1=>.jY λh2=>.jY λh3=>(r.e it F iter).and λh=>(r.e xL (F.into sc [s]) x).and λk=>(gC r c (F.into sc [s]) ifs).and λl=>.kJ (JP h1 h2 h3 h k l))
 | .BR xL s1 i1 s2 i2=>KI e .no λx gs sc J=>rK gs .no λg q=>rK q .no λg2 r2=>se r2 .no (NW g (λJ=>.no) λJ J t1 f1=>NW g2 (λJ=>.no) λJ J t2 f2=>se f1 .no (se f2 .no (.jY λh1=>.jY λh2=>.jY λh3=>.jY λh4=>.jY λh5=>.jY λh6=>.jY λh7=>.jY λh8=>
   (r.e i1 F t1).and λh=>(r.e i2 (F.into sc [s1]) t2).and λk=>(r.e xL (F.into sc [s1,s2]) x).and λl=>.kJ (JO h1 h2 h3 h4 h5 h6 h7 h8 h k l))))
 | .call f wv=>yI f.str e (λJ=>.no) λJ xs J=>.jY λh1=>.jY λh2=>.jY λh3=>.jY λh4=>(ui (λm x=>r.e m F x) wv xs).and λh=>.kJ (MN hC h1 h2 h3 h4 h)
 | .new c wv=>yI c.str e (λJ=>.no) λJ xs J=>.jY λh2=>.jY λh3=>.jY λh4=>(ui (λm x=>r.e m F x) wv xs).and λh=>.kJ (OG f4 hC h2 h3 h4 h)
 | .jt o m wv=>KJ m.str e (λJ=>.no) λx J xs J=>.jY λh1=>.jY λh2=>.jY λh3=>.jY λh4=>.jY λh5=>(r.e o F x).and λh=>(ui (λm x=>r.e m F x) wv xs).and λk=>.kJ (Lz f4 hC h1 h2 h3 h4 h5 h k)
 | .bi b wv=>yI b.str e (λJ=>.no) λJ xs J=>.jY λh2=>.jY λh3=>.jY λh4=>(ui (λm x=>r.e m F x) wv xs).and λh=>.kJ (Sz h2 h3 h4 h)
 | .gV wv=>yI (Bi.str .range) e (λJ=>.no) λJ xs J=>.jY λh3=>.jY λh4=>(ui (λm x=>r.e m F x) wv xs).and λh=>.kJ (Od h3 h4 h)
 | .lm o m wv=>KJ m.str e (λJ=>.no) λx J xs J=>.jY λh2=>.jY λh3=>.jY λh4=>.jY λh5=>(r.e o F x).and λh=>(ui (λm x=>r.e m F x) wv xs).and λk=>.kJ (R9 h2 h3 h4 h5 h k)
noncomputable def Tz(r:Rs P C n)(mb:MB)(F:Fv)(e:Expr):Got (qh P C n F e mb):=match mb with
 | .val a=>.jY λh=>(r.e a F e).and λk=>.kJ (NU h k)
 | .not b=>Vo e .no λo x J=>AO .Not o .no ((r.b b F x).and λh=>.kJ (Ls h))
 | .all bs=>vBool e .no λo xs J=>AO .And o .no ((ui (λm x=>r.b m F x) bs xs).and λh=>.kJ (PK h))
 | .any bs=>vBool e .no λo xs J=>AO .Or o .no ((ui (λm x=>r.b m F x) bs xs).and λh=>.kJ (PI h))
 | .cy l Db es=>Tu e .no λx os xs J=>AO (Db.map nE.py) os .no (.jY λh1=>.jY λh2=>(r.e l F x).and λh=>(ui (λm x=>r.e m F x) es xs).and λk=>.kJ (MI h1 h2 h k))
 | .ite c a b=>Ts e .no λt x y J=>(r.b c F t).and λh=>(r.b a F x).and λk=>(r.b b F y).and λl=>.kJ (LW h k l)
noncomputable def Vu(f4:tu P)(hC:Hj P C n)(d:Nat):Rs P C n:=Nat.rec ⟨λJ J J=>.no,λJ J J=>.no⟩ (λJ r=>⟨Tx f4 hC r,Tz r⟩) d
noncomputable def stepT(r:Rs P C n)(q:∀t F e,Got (ya P C n F e t))(t:Tg)(F:Fv)(e:Expr):Got (ya P C n F e t):=match t with
 | .ah _=>vz e .no λJ J=>.jY λh=>.kJ (KO h)
 | .aS o f=>Hv e .no λx a J=>AO f.str a .no ((r.e o F x).and λh=>.kJ (IU h))
 | .sub o i=>NV e .no λx y J=>(r.e o F x).and λh=>(r.e i F y).and λk=>.kJ (KQ h k)
 | .eY ts=>Tp e .no λxs J J=>.jY λh=>.jY λk=>(ui (λm x=>q m F x) ts xs).and λl=>.kJ (KP h k l)
noncomputable def Uj(r:Rs P C n):∀t F e,Got (ya P C n F e t):=stepT r (stepT r λJ J J=>.no)
end
noncomputable def OC(e:Expr):Bool:=![8,9,10].contains e.ctorIdx
theorem DT{v:Expr}{t:Option Expr}{line:Nat}(h:OC v=true)(M:ja):uN v t line M=pure false:=by
 cases v<;>first | rfl | exact gT h
theorem FU{t v:Expr}(h:(v.ctorIdx==25)=false)(M:ja):Aw [t] v M=pure none:=by
 cases t<;>first | rfl | (cases v<;>first | rfl | exact nomatch h)
noncomputable def Ik:c8:= "BadPosition"
section
variable{P:PF}{C:Cx}{n:Nat}(r:Rs P C n)
noncomputable def UN(F:Fv)(x v:Expr)(p:jy)(t:Tg)(a:ME):Got (rG P C n F (.Assign [x] v p) (.assign t a)):=match t,a with
 | .ah _,.gu xL s it c=>vz x .no λJ J=>KI v .no λy gs sc J=>rK gs .no λg q=>se q .no (NW g (λJ=>.no) λJ J iter ifs=>.jY λh1=>.jY λh2=>.jY λh3=>.jY λh4=>.jY λh5=>
   (r.e it F iter).and λh=>(r.e xL (F.into sc [s]) y).and λk=>(gC r c (F.into sc [s]) ifs).and λl=>.kJ (Ak h1 h2 h3 h4 h5 h k l))
 | _,_=>.no
noncomputable def QJ(q:∀ms F s,Got (rG P C n F s ms)):(ms:List MS)->(F:Fv)->(ss:List Stmt)->Got (nh P C n F ss ms)
 | [],_,ss=>se ss .no (.kJ IP)
 | m::ms,F,ss=>rK ss .no λs r=>(q m F s).and λh=>(QJ q ms F r).and λk=>.kJ (FJ h k)
variable{C2 f1 f2:aA}{b1 b2:List Stmt}{s1 s2:eK}(B:xN P C2 f1 f2 b1 b2 s1 s2)
include B
noncomputable def Tw(q:∀ms F s,Got (rG P C n F s ms))(ms:MS)(F:Fv)(s:Stmt):Got (rG P C n F s ms):=match ms with
 | .assign t a=>NR s .no λts v p=>rK ts .no λx rr=>se rr .no ((UN r F x v p t a).or (.jY λh1=>.jY λh2=>.jY λh3=>(r.e a F v).and λh=>(Uj r t F x).and λk=>.kJ (Hd h1 (DT h2) (FU h3) h k)))
 | .ig t op a=>UK s .no λx o v J=>AO op.py o .no (match t with
  | .ah _=>vz x .no λJ J=>.jY λh1=>.jY λh2=>(r.e a F v).and λh=>.kJ (Hb h1 h2 h)
  | .aS m f=>Hv x .no λy b J=>AO f.str b .no ((r.e m F y).and λk=>(r.e a F v).and λh=>.kJ (Fe k h))
  | .sub m i=>NV x .no λy z J=>.jY λh1=>(r.e m F y).and λk=>(r.e i F z).and λl=>(r.e a F v).and λh=>.kJ (Hc h1 k l h)
  | _=>.no)
 | .kx a=>wExpr s .no λv J=>.jY λh1=>(r.e a F v).and λh=>.kJ (Ph (DT h1) h)
 | .ret a=>Tj s .no λv J=>Hu v .no λv=>(r.e a F v).and λh=>.kJ (Oe h)
 | .Jd=>Tj s .no λv J=>Tq v .no (.kJ K5)
 | .fB c a b=>V7 s .no λt x y J=>(r.b c F t).and λh=>(QJ q a F x).and λk=>(QJ q b F y).and λl=>.kJ (Sf h k l)
 | .while c b=>RB s .no λt x y J=>se y .no ((r.b c F t).and λh=>(QJ q b F x).and λk=>.kJ (IQ h k))
 | .for t it b=>UJ s .no λx i y z J=>se z .no (.jY λh1=>.jY λh2=>(r.e it F i).and λh=>(Uj r t F x).and λk=>(QJ q b F y).and λl=>.kJ (O9 h1 h2 h k l))
 | .raise a=>RC s .no λx c J=>Hu x .no λe=>Tq c .no (yI Ik e (λJ=>.no) λJ xs J=>rK xs .no λt rr=>rK rr .no λv rr=>se rr .no (NX t .no λk J J=>vStr k .no λJ=>.jY λh1=>.jY λh2=>.jY λh3=>(r.e a F v).and λh=>.kJ (Jk B h1 h2 h3 h)))
 | .try b hh=>UI s .no λx S o f J=>se o .no (se f .no (rK S .no λy rr=>se rr .no (Tt y λt nm ys J=>Hu t .no λe=>Tq nm .no (vz e .no λi J=>AO Ik i .no (rK ys .no λy ys=>.jY λh1=>.jY λh2=>(QJ q b F x).and λh=>(QJ q hh F.loud (y::ys)).and λk=>.kJ (NZ B h1 h2 h k))))))
 | .cont=>Tn s .no λJ=>.kJ MC
 | .bad=>.kJ λJ J J J J J J J J J J J J J T=>absurd rfl T
noncomputable def QP(d:Nat):(ms:List MS)->(F:Fv)->(ss:List Stmt)->Got (nh P C n F ss ms):=QJ (Nat.rec (λJ J J=>.no) (λJ q=>Tw r B q) d)
end
theorem M3{P:PF}{bodyOf:Fn->List Stmt}{scopeOf:Fn->eK}{C2 f1 f2:aA}{b1 b2:List Stmt}{s1 s2:eK}(f4:tu P)(B:xN P C2 f1 f2 b1 b2 s1 s2)(K:∀f,Nc P f (bodyOf f) (scopeOf f))
  (h:∀(C:Cx) (n:Nat) (hC:Hj P C n) (f:Fn),(QP (Vu f4 hC 40) B 12 (cc f).body (zI f (scopeOf f)) (bodyOf f)).ok=true) (d:Nat):yx P d/\∀f mk,nh P ⟨af d,mk⟩ d (zI f (scopeOf f)) (bodyOf f) (cc f).body:=
 have hb:=λJ hd f mk=>Got.get (h _ _ ⟨mk,rfl,hd⟩ f)
 ⟨Dh K hb d,hb d (Dh K hb d)⟩
noncomputable def oO(c:pG):aA:=[93,212,247,406,441].getD c.1 0
noncomputable def ug(f:Fn):aA:=(cc f).ad
def PW{n:Nat}(P:Fin n->Prop):Nat->Prop
 | 0=>True
 | k+1=>PW P k/\∀h:k<n,P ⟨k,h⟩
theorem PW.get{n:Nat}{P:Fin n->Prop}{k:Nat}(H:PW P k)(i:Fin n)(h:i.1<k):P i:=by
 induction k with
 | zero=>exact absurd h (iO _)
 | succ k ih=>
  refine bN (Nat.lt_or_eq_of_le (b8 h)) (λh=>?_) λh=>?_
  .exact ih H.1 h
  .subst h;exact H.2 i.2
noncomputable def rL:List aA:=[75,76,545,537,538,539,540,541,542,543,544,554,546,547,548,549,550,551,552,553]
theorem ED{n:Nat}(x:Fin n):(n9 n).contains x=true:=cg.mpr (List.mem_finRange x)
noncomputable def Dq:List pG:=n9 5
theorem L7(x:pG):Dq.contains x=true:=ED x
noncomputable def Fg:List Fn:=n9 76
theorem O2(x:Fn):Fg.contains x=true:=ED x
noncomputable def Hg:List eM:=n9 29
theorem QD(x:eM):Hg.contains x=true:=ED x
noncomputable def Hf:List AA:=n9 4
theorem QC(x:AA):Hf.contains x=true:=ED x
noncomputable def QS:List Gl:=n9 19
theorem U1(x:Gl):QS.contains x=true:=ED x
noncomputable def QT:List Bi:=[.len,.Iq,.Gj,.sum,.bytes,.list,.range]
theorem U2(x:Bi):QT.contains x=true:=by cases x<;>rfl
theorem nD{α:Type}{f:α->Bool}{x:Option α}(h:x.any f=true):∃a,x=some a/\f a=true:=by
 cases x with
 | none=>exact gT h
 | some a=>exact⟨a,rfl,h⟩
theorem mz{α:Type}[BEq α][LawfulBEq α]{l:List α}{p:α->Bool}(h:l.all p=true){x:α}(m:l.contains x=true):p x=true:=cM.mp h x (cg.mp m)
noncomputable def Pg(K:uQ)(a:aA):Option FuncData:=(K.lookup a).bind λo=>match o.data with
 | .func fd=>some fd
 | _=>none
noncomputable def uh(K:uQ)(a:aA):FuncData:=(Pg K a).getD default
noncomputable def FuncData.stmts(fd:FuncData):List Stmt:=match fd.body with
 | .stmts b=>b
 | _=>[]
noncomputable def yu(nm q:c8)(fd:FuncData):Bool:=fd.name==nm&&fd.qualname==q&&fd.globals==d7&&fd.closure.isEmpty&&fd.builtins==iI&&match fd.body with
 | .stmts _=>true
 | _=>false
theorem q8{nm q:c8}{fd:FuncData}(h:yu nm q fd=true):fd=fnOf nm q fd.params (FuncData.stmts fd) fd.scope fd.defaults fd.kwdefaults fd.doc fd.pyModule fd.annotations fd.code fd.closureTuple:=by
 obtain⟨n,q',ps,b,sc,g,cl,d,kd,doc,pm,an,cd,ct,bi⟩:=fd;simp only[yu,aH,beq_iff_eq,List.isEmpty_iff]at h;obtain⟨⟨⟨⟨⟨rfl,rfl⟩,rfl⟩,rfl⟩,rfl⟩,h⟩:=h;cases b with
 | stmts b=>rfl
 | _=>cases h
theorem H6{K:uQ}{a:aA}{fd:FuncData}(h:Pg K a=some fd):uh K a=fd/\∃o,K.lookup a=some o/\o.data=.func fd:=by
 refine⟨by simp only[uh,h];rfl,?_⟩;refine cP (aT.mp h) λo=>cJ λh1 h2=>?_
 refine⟨o,h1,?_⟩;cases hd:o.data with
 | func fd'=>rw[hd]at h2;obtain rfl:=aD h2;rfl
 | _=>simp only[hd]at h2;exact cj h2
noncomputable def Aa(K:uQ)(f:Fn):List Stmt:=FuncData.stmts (uh K (ug f))
noncomputable def tI(K:uQ)(f:Fn):eK:=(uh K (ug f)).scope
noncomputable def QK(K:uQ)(f:Fn):Bool:=(Pg K (ug f)).any λfd=>yu f.str f.qual fd&&codeIn K fd.code f.qual&&C7 f fd.scope
def o9(K:uQ)(a:aA)(ns:List c8):Prop:=∀xs:List Value,xs.length=ns.length->IK (uh K a) ⟨xs,[]⟩=pure (ns.zip xs)
noncomputable def w3(f:Fn):List c8:=(fC f).take (cc f).ij
theorem Mh{P:PF}(hA:P.Kn=ug){f:Fn}(h:QK P.K f=true)(hb:o9 P.K (ug f) (w3 f)):Nc P f (Aa P.K f) (tI P.K f):=by
 refine d5 λGG Y=>?_
 refine cP (nD h) λfd=>cJ λh1 h=>?_
 simp only[aH]at h;refine cJ (λWv h4=>?_) h;refine cJ (λh2 h3=>?_) Wv;obtain⟨e,o,h6,h7⟩:=H6 h1;unfold o9 at hb;refine Y ?_;simp only[Aa,tI];rw[e]at hb ⊢;have sc:=GH h4;refine⟨sc,_,_,_,_,_,_,_,_,o,by rw[hA];exact h6,by refine h7.trans ?_;rw[<-q8 h2],h3,λxs hx=>?_⟩;rw[<-q8 h2];refine hb xs ?_;simp only[hx,w3,eZ,sc.len,fL (ae sc.RW sc.loc)]
def Bn(fd:FuncData)(r:List Value->List (c8×Value)):Nat->List Value->Prop
 | 0,l=>IK fd ⟨l,[]⟩=pure (r l)
 | n+1,l=>∀a,Bn fd r n (l++[a])
theorem MU{fd:FuncData}{r:List Value->List (c8×Value)}:∀(n:Nat) (l xs:List Value),Bn fd r n l->xs.length=n->IK fd ⟨l++xs,[]⟩=pure (r (l++xs))
 | 0,l,xs,h,e=>by
  rw[lR.mp e,aP];exact h
 | n+1,l,xs,h,e=>by
  cases xs with
  | nil=>cases e
  | cons a r=>
   rw[nN]
   exact MU n _ r (h a) (DF e)
theorem bo{K:uQ}{a:aA}{ns:List c8}(n:Nat)(hn:ns.length=n)(h:Bn (uh K a) (λxs=>ns.zip xs) n []):o9 K a ns:=λxs e=>MU n [] xs h (e.trans hn)
noncomputable def GR(K:uQ)(c:pG):Bool:=Rk K (oO c) "" && hasDictIn K (oO c)&&r9 K (.ref (oO c)) "__setattr__" == some (some (.builtin "object.__setattr__"))&&plainOver K (oO c) &&
 Hg.all (λf=>(r9 K (.ref (oO c)) f.str).any (noGet K)&&vr K (oO c) f.str==some none) &&
 Hf.all (λm=>match oE c m with
  | some f=>Rk K (oO c) m.str&&r9 K (.ref (oO c)) m.str==some (some (.ref (ug f)))&&isFn K (.ref (ug f))
  | none=>true)&&makesIn K (oO c)&&r9 K (.ref (oO c)) "__init__" == some (some (.ref (ug (qZ c))))&&typeIn K (.ref (ug (qZ c)))==some (.type "function")
theorem JR{P:PF}(hA:P.Kn=ug)(hC:P.dB=oO)(h:Dq.all (GR P.K)=true):(∀c,QZ P c)/\tu P:=by
 have key:=λc=>mz h (L7 c)
 simp only[GR,aH,beq_iff_eq]at key;refine⟨λc=>?_,λc m f e=>?_,λm f=>?_,λc=>?_⟩
 .refine cJ (λWv h9=>?_) (key c);obtain⟨⟨⟨⟨⟨⟨⟨h1,h2⟩,h3⟩,h4⟩,h5⟩,h6⟩,h7⟩,h8⟩:=Wv;rw[<-hC]at h1 h2 h3 h4 h5;refine⟨h1,h2,h3,h4,λf=>?_⟩;have:=mz h5 (QD f);simp only[aH,beq_iff_eq]at this;refine cP (nD this.1) λa=>cJ λe k=>?_
  exact⟨a,e,k,this.2⟩
 .have:=mz (key c).1.1.1.2 (QC m)
  rw[e]at this;simp only[aH,beq_iff_eq]at this;rw[hA,hC];exact⟨this.1.1,this.1.2,this.2⟩
 .have:Hf.all (λm=>Hg.all λf=>!(eM.str f==AA.str m))=true:=by decide +kernel
  have:=mz (mz this (QC m)) (QD f)
  exact fX _▸this
 .rw[hA,hC];exact⟨(key c).1.1.2,(key c).1.2,(key c).2⟩
noncomputable def Te:Value->Option Int
 | .int i _=>some i
 | _=>none
noncomputable def Td:Value->Option aA
 | .ref a=>some a
 | _=>none
theorem NQ{G:List aA}{x:Value}{i:Int}(h:Te x=some i):dX G x (.int i):=by cases x<;>first | exact cj h | exact aD h
theorem NP{x:Value}{a:aA}(h:Td x=some a):x=.ref a:=by cases x<;>first | exact cj h | exact aM fM (aD h)
noncomputable def UL(G:List aA)(x:Value)(v:V):Bool:=v.pE.any (λi=>Te x==some i)||v.rD.any λk=>(Td x).any λa=>G[k]?==some a
theorem KH{G bs:List aA}{x:Value}{v:V}(h:UL G x v=true)(le:G <+: bs):dX bs x v:=by
 refine bN ((cF _ _).mp h) (λh=>?_) λh=>?_
 .refine cP (nD h) λi=>cJ λe h=>?_
  simp only[iD e];exact NQ (beq_iff_eq.mp h)
 .refine cP (nD h) λk=>cJ λe h=>?_
  refine cP (nD h) λa=>cJ λe2 h=>?_
  simp only[kz e,NP e2];exact dX.mono (beq_iff_eq.mp h) le
noncomputable def To(G:List aA)(xs:List Value)(vs:List V):Bool:=decide (xs.length=vs.length)&&(xs.zip vs).all λp=>UL G p.1 p.2
theorem Ss{α β:Type}{R:α->β->Prop}{xs:List α}{vs:List β}(h1:xs.length=vs.length)(h2:∀p∈xs.zip vs,R p.1 p.2):F2 R xs vs:=by
 induction xs generalizing vs with
 | nil=>
  cases vs with
  | nil=>exact .nil
  | cons=>cases h1
 | cons x xs ih=>
  cases vs with
  | nil=>cases h1
  | cons v vs=>exact .cons (h2 (x,v) (.head _)) (ih (DF h1) λp hp=>h2 p (.tail _ hp))
theorem NS{G bs:List aA}(le:G <+: bs){xs:List Value}{vs:List V}(h:To G xs vs=true):ft bs xs vs:=
 have h:=(aH _ _).mp h
 Ss (bc h.1) λp hp=>KH (cM.mp h.2 p hp) le
noncomputable def CZ(K:uQ):Bool:=Fg.all (λf=>!(f.str==f.qual)||nsIn K d7 f.str==some (some (.ref (ug f))))&&Fg.all (λf=>AN K (.ref (ug f)))&&Dq.all (λc=>nsIn K d7 c.str==some (some (.ref (oO c)))&&AN K (.ref (oO c))) &&
 QT.all (λb=>nsIn K d7 b.str==some none)&&QS.all λg=>(nsIn K d7 g.str).any λx=>x.any λx=>UL rL x (HZ g)
theorem GA{P:PF}{h:eJ}(hA:P.Kn=ug)(hC:P.dB=oO)(X:P.K.In h)(db:h.Ns d7 P.mg)(hb:∀x:c8,x ≠ "__name__" -> P.mb x=NL x)(hk:CZ P.K=true):xK P/\∀G,rL <+: G->o8 P G:=by
 simp only[CZ,aH]at hk;refine d5 λGG Y=>?_
 refine cJ (λWv h5=>?_) hk;obtain⟨⟨⟨h1,h2⟩,h3⟩,h4⟩:=Wv;refine Y ?_;refine⟨⟨λf hq=>?_,λc=>?_,λb=>?_,λf=>?_,λc=>?_⟩,λG le g=>?_⟩
 .have:=mz h1 (O2 f)
  rw[hq]at this;exact hA▸(mg_of X db (beq_iff_eq.mp this))
 .have:=mz h3 (L7 c)
  rw[aH]at this;rw[hC];exact mg_of X db (beq_iff_eq.mp this.1)
 .refine⟨mg_none_of X db (beq_iff_eq.mp (mz h4 (U2 b))),(hb _ ?_).trans ?_⟩
  .cases b<;>decide +kernel
  .cases b<;>decide +kernel
 .exact hA▸(mz h2 (O2 f))
 .have:=mz h3 (L7 c)
  rw[aH]at this;rw[hC];exact this.2
 .refine d5 λGG Y=>?_
  refine cP (nD (mz h5 (U1 g))) λx=>cJ λe h=>?_
  refine cP (nD h) λx=>cJ λGo h=>?_;subst Go
  refine Y ?_;exact⟨x,mg_of X db e,KH h le⟩
noncomputable def Ui:Data->Option (Array Value×Nat)
 | .seq wE n=>some (wE,n)
 | _=>none
theorem Pq{d:Data}{p:Array Value×Nat}(h:Ui d=some p):d=.seq p.1 p.2:=by cases d<;>first | exact cj h | (obtain rfl:=aD h;rfl)
noncomputable def UW:O->Option (Bool×List V)
 | .eY vs=>some (true,vs)
 | .lV vs=>some (false,vs)
 | _=>none
noncomputable def FT(K:uQ):Bool:=(rL.zip vv).all λp=>(K.lookup p.1).any λo=>(UW p.2).any λq=>o.cls==.type (if q.1 then "tuple" else "list")&&(Ui o.data).any λd=>To rL d.1.toList q.2
theorem IW{P:PF}{base:eJ}(X:P.K.In base)(h:FT P.K=true){bs:List aA}(le:rL <+: bs){i:Nat}{a:aA}{o:O}(ha:rL[i]?=some a)(ho:vv[i]?=some o):jF P.dB base bs a o []:=by
 refine d5 λGG Y=>?_
 have hz:(rL.zip vv)[i]?=some (a,o):=Fu.mpr ⟨ha,ho⟩
 refine cP (nD (cM.mp h _ (bU hz))) λob=>cJ λh1 h2=>?_
 refine cP (nD h2) λq=>cJ λh3 h4=>?_
 have h5:=(aH _ _).mp h4
 refine cP (nD h5.2) λd=>cJ λh6 h7=>?_
 have hc:=beq_iff_eq.mp h5.1
 have hx:=X _ _ h1
 have hd:=Pq h6
 have hv:=NS le h7
 cases o<;>first | exact cj h3 | skip
 .injection h3 with h3;subst h3
  refine Y ?_;exact⟨rfl,ob,_,_,hx,hc,hd,hv⟩
 .injection h3 with h3;subst h3
  refine Y ?_;exact⟨ob,_,_,.inr ⟨rfl,hx⟩,hc,hd,hv⟩
theorem O0{G:List aA}{xs:List Value}{ns:List Int}(h:qO xs ns):ft G xs (ns.map V.int):=by
 induction h with
 | nil=>exact .nil
 | cons J J J ih=>exact .cons rfl ih
theorem JL{Z:jC}{M:ja}(hk:M.scope.kind=.function)(hf:M.frame=some Z.L):Kf Z true (NK.deeper M) 19:=
 ⟨λJ=>rfl,show NK.depth+1+2*19+9<r7 by decide,show NK.units+3+8*19+200<cLine by decide,[M],rfl,λe he=>by
  rw[bM.mp he]
  exact⟨by rw[hk];decide,Z.L,hf,.head _⟩⟩
theorem LN{P:PF}{base:eJ}{M:ja}{scope:eK}{a:aA}{xs:List Value}{ns:List Int}{cells:List (aA×di)}{s:aL}{L:aA}{body:List Stmt}{binds:List (c8×Value)}{sw:List V}{re:St}{Q:Cr->aL->Prop}{im:Value->aL->Prop}
  (B:Dw P base) (db:xK P) (gv:o8 P (rL++[a])) (tb:FT P.K=true) (K:tU .BA scope) (H:nh P ⟨af 19,21⟩ 19 (zI .BA scope) body (cc .BA).body)
  (hL:base.IsList a xs.toArray) (hI:qO xs ns) (eS:M.scope=scope) (eL:M.locals=L) (eG:M.globals=d7) (eB:M.builtins=iI) (eF:M.frame=some L) (eC:M.cells=jX (L+1) scope.names [])
  (hb:(w3 .BA).zip [.ref a]=binds) (F:Fr base L s.heap (Fz M.kindOf binds λJ=>none)) (f8:DN base L s.heap cells) (nw:CellsAre (Ri M.kindOf binds λJ=>none) M.cells cells) (nd:(cells.map (·.1)).Nodup)
  (hx:iH ⟨af 19,21⟩ (cc .BA).body ([.ref 20]++aw ((cc .BA).lh-(cc .BA).ij) .av) (vv++[.lV (ns.map V.int)])=.ok (.ret (.bool true)) sw re) (q:∀s' m',gn s s'->Fr base L s'.heap m'->Q (.ret (.bool true)) s') :
  bT (bO P.prog P.w) (NK.deeper M) (execs body M) Q im s:=by
 have le:rL <+: rL++[a]:=cT _ _
 have R:Fk P.dB base (rL++[a]) (vv++[.lV (ns.map V.int)]) (aw 21 []):=by
  refine⟨rfl,rfl,λi b o p h1 h2 h3=>?_⟩;obtain rfl:p=[]:=(NA.mp (bU h3)).2;rcases Nat.lt_or_ge i 20 with hi | hi
  .rw[ci hi]at h1;rw[ci hi]at h2;exact IW B.CW tb le h1 h2
  .obtain rfl:i=20:=lK (b8 (aJ.mp h3).1) hi;obtain rfl:=aD h1;injection h2 with h2;subst h2
   refine d5 λGG Y=>?_
   obtain⟨ob,e1,e2,n,e3⟩:=hL;refine Y ?_;exact⟨rfl,ob,_,n,e1,e2,e3,O0 hI⟩
 have I:Inv ⟨P.dB,base,L,[]⟩ (Fz M.kindOf binds λJ=>none) (rL++[a]) (vv++[.lV (ns.map V.int)]) (aw 21 []) (cells++[]) s.heap:=by
  simp only[aP];exact⟨F,f8,nd,R,λp hp=>(nomatch hp),λp hp=>(nomatch hp)⟩
 have inj:=List.pairwise_map.mp ((CellsAre.QU nw)▸nd)
 have X:=TC K B rfl db gv (JL (Z:=⟨P.dB,base,L,[]⟩) (eS▸K.kind) eF) eS eL eG eB eF ⟨[],rfl⟩ inj (λx hx=>by exact eC▸(iN.mp (IL _ _ _ (.inl hx)))) nw hb (vs:=[.ref 20]) (.cons rfl .nil) rfl
 refine cq (H _ _ _ _ _ _ _ _ _ _ _ X I (cH 21) (hx▸λe=>nomatch e)) (λf s' z=>?_) λe s' z=>?_
 .cases z with | mk fl ρ1 po zs Ix WF m1 e1 n1 l1 wS I1 L1 hR1 v1=>
  rw[hx]at e1;injection e1 with e1;subst e1
  cases f with
  | ret x=>
   cases x<;>first | exact v1.elim | skip
   exact v1▸(q _ _ n1 I1.fr)
  | _=>exact v1.elim
 .cases z with | mk ρ1 po zs Ix WF m1 ea e1=>
  rw[hx]at e1;cases e1
noncomputable def GK(K:uQ)(a:aA)(q:c8)(ps:List c8):Bool:=(Pg K a).any λfd=>yu "__init__" q fd&&codeIn K fd.code q&&fd.scope.kind==.function&&!fd.scope.isCoroutine&&!fd.scope.isGenerator&&fd.scope.names.all (λx=>!(x.2==.cell))&&ps.all λp=>fd.scope.names.lookup p==some .local
theorem BM{P:PF}{a:aA}{q:c8}{ps:List c8}(h:GK P.K a q ps=true)(hb:o9 P.K a ps):Nf P a q ps (FuncData.stmts (uh P.K a)) (uh P.K a).scope:=by
 refine d5 λGG Y=>?_
 refine cP (nD h) λfd=>cJ λh1 h=>?_
 simp only[aH,beq_iff_eq,fX,cM]at h;refine cJ (λWv h8=>?_) h;obtain⟨⟨⟨⟨⟨h2,h3⟩,h4⟩,h5⟩,h6⟩,h7⟩:=Wv;obtain⟨e,o,h9,h10⟩:=H6 h1;unfold o9 at hb;refine Y ?_;rw[e]at hb ⊢;exact⟨⟨_,_,_,_,_,_,_,_,o,h9,by refine h10.trans ?_;rw[<-q8 h2],h3,by rw[<-q8 h2];exact hb⟩,h4,h5,h6,λx hx e=>by have:=h7 x hx;rw[e]at this;exact absurd this (bc rfl),h8⟩
noncomputable abbrev SA:List Value:=[.ref 72,.ref 52,.type "Exception",.type "BaseException",.type "object"]
noncomputable def G7(K:uQ):Bool:=r9 K (.ref 72) "__init__" == some (some (.ref 69))&&typeIn K (.ref 69)==some (.type "function")&&r9 K (.ref 72) "__setattr__" == some (some (.builtin "object.__setattr__"))&&(clsIn K 72).any (λcd=>cd.hasDict&&cd.mro==SA) &&
 vr K 72 "text" == some none&&vr K 72 "square" == some none&&GK K 69 "BadPosition.__init__" ["self","text","square"]&&GK K 49 "ChessError.__init__" ["self","text"] &&
 (uh K 69).scope.names.lookup ("ChessError" : c8)==some .globalImplicit&&(uh K 49).scope.names.lookup ("Exception" : c8)==some .globalImplicit&&nsIn K d7 "ChessError" == some (some (.ref 52))&&nsIn K d7 "Exception" == some none &&
 specialIn K (.ref 52) "__getattribute__" == some (some (.builtin "type.__getattribute__"))&&readsIn K 52 (.type "type")&&AN K (.ref 49)&&nsIn K d7 "BadPosition" == some (some (.ref 72))&&AN K (.ref 72)
noncomputable abbrev pf(prog:pJ)(w:World)(K:uQ)(mg mb:c8->Option Value):PF:=⟨prog,w,K,mg,mb,oO,ug,72⟩
section
variable{prog:pJ}{w:World}{K:uQ}{mg mb:c8->Option Value}{base:eJ}
def B1(K:uQ):Prop:=∃p1 p2 p3 p4 p5 p6 p7 p8 p9 p10,(p2.endLine==p5.line)=true/\FuncData.stmts (uh K 69)=[.Expr (.Call (.Attribute (.Name "ChessError" p1) "__init__" p2) [.Name "self" p3,.Name "text" p4] [] p5) p6,.Assign [.Attribute (.Name "self" p7) "square" p8] (.Name "square" p9) p10]
def B2(K:uQ):Prop:=∃p1 p2 p3 p4 p5 p6 p7 p8 p9 p10,(p2.endLine==p5.line)=true/\FuncData.stmts (uh K 49)=[.Expr (.Call (.Attribute (.Name "Exception" p1) "__init__" p2) [.Name "self" p3,.Name "text" p4] [] p5) p6,.Assign [.Attribute (.Name "self" p7) "text" p8] (.Name "text" p9) p10]
def BC(K:uQ):Prop:=∃nm q f8 bs Tm sn sub ab col dd k0 k1 k2 k3 k5,K.lookup 72=some (kS nm q 72 f8 bs [.ref 52,.type "Exception",.type "BaseException",.type "object"] Tm sn sub ab col dd k0 k1 k2 k3 k5 "Exception.__new__")
theorem J4(X:K.In base)(db:base.Ns d7 mg)(hb:∀x:c8,x ≠ "__name__" -> mb x=NL x)(h:G7 K=true)(b1:o9 K 69 ["self","text","square"])(b2:o9 K 49 ["self","text"])(k1:B1 K)(k2:B2 K)(kc:BC K)
  (kf:findCls K (.ref 52) (.type "type") "__init__" = some (.val (.ref 49))):xN (pf prog w K mg mb) 52 69 49 (FuncData.stmts (uh K 69)) (FuncData.stmts (uh K 49)) (uh K 69).scope (uh K 49).scope:=by
 simp only[G7,aH,beq_iff_eq]at h;refine d5 λGG Y=>?_
 refine cJ (λWv h17=>?_) h;obtain⟨⟨⟨⟨⟨⟨⟨⟨⟨⟨⟨⟨⟨⟨⟨h1,h2⟩,h3⟩,h4⟩,h5⟩,h6⟩,h7⟩,h8⟩,h9⟩,h10⟩,h11⟩,h12⟩,h13⟩,h14⟩,h15⟩,h16⟩:=Wv;refine cP (nD h4) λcd=>cJ λe1 e2=>?_
 simp only[aH,beq_iff_eq]at e2;refine Y ?_;exact⟨kc,h1,h2,⟨h3,⟨cd,e1,e2.1,e2.2,by rw[e2.2];rfl,by rw[e2.2];decide +kernel⟩,λself=>by kernel_rfl⟩,h5,h6,BM h7 b1,BM h8 b2,k1,k2,h9,h10,mg_of X db h11,
  ⟨mg_none_of X db h12,(hb _ (by decide +kernel)).trans rfl⟩,h13,h14,kf,h15,mg_of X db h16,h17⟩
theorem OX{M:ja}{a:aA}{xs:List Value}{ns:List Int}{cells:List (aA×di)}{s:aL}{L:aA}{body:List Stmt}{binds:List (c8×Value)}{sw:List V}{re:St}{Q:Cr->aL->Prop}{im:Value->aL->Prop}
  (X:K.In base) (db:base.Ns d7 mg) (Bb:base.Ns iI mb) (hb:∀x:c8,x ≠ "__name__" -> mb x=NL x) (nl:base.NoLimit)
  (e1:Dq.all (GR K)=true) (e2:CZ K=true) (e3:FT K=true) (e4:Fg.all (QK K)=true) (e7:∀ {P:PF} {C2 f1 f2:aA} {b1 b2:List Stmt} {s1 s2:eK} (f4:tu P) (B:xN P C2 f1 f2 b1 b2 s1 s2) {C:Cx} {n:Nat} (hC:Hj P C n),(Fg.all λf=>(QP (Vu f4 hC 40) B 12 (cc f).body (zI f (tI K f)) (Aa K f)).ok)=true) (e5:∀f,o9 K (ug f) (w3 f)) (e6:G7 K=true) (b1:o9 K 69 ["self","text","square"]) (b2:o9 K 49 ["self","text"]) (k1:B1 K) (k2:B2 K) (kc:BC K)
  (kf:findCls K (.ref 52) (.type "type") "__init__" = some (.val (.ref 49)))
  (hL:base.IsList a xs.toArray) (hI:qO xs ns) (eS:M.scope=tI K .BA) (hbody:body=Aa K .BA) (eL:M.locals=L) (eG:M.globals=d7) (eB:M.builtins=iI) (eF:M.frame=some L) (eC:M.cells=jX (L+1) (tI K .BA).names [])
  (h2:(w3 .BA).zip [.ref a]=binds) (F:Fr base L s.heap (Fz M.kindOf binds λJ=>none)) (f8:DN base L s.heap cells) (nw:CellsAre (Ri M.kindOf binds λJ=>none) M.cells cells) (nd:(cells.map (·.1)).Nodup)
  (hx:iH ⟨af 19,21⟩ (cc .BA).body ([.ref 20]++aw ((cc .BA).lh-(cc .BA).ij) .av) (vv++[.lV (ns.map V.int)])=.ok (.ret (.bool true)) sw re) (q:∀s' m',gn s s'->Fr base L s'.heap m'->Q (.ret (.bool true)) s') :
  bT (bO prog w) (NK.deeper M) (execs body M) Q im s:=by
 refine d5 λGG Y=>?_
 have fk:∀f,Nc (pf prog w K mg mb) f (Aa K f) (tI K f):=λf=>Mh rfl (mz e4 (O2 f)) (e5 f)
 refine cJ (λck mk=>?_) (JR (P:=pf prog w K mg mb) rfl rfl e1);refine cJ (λgk vk=>?_) (GA (P:=pf prog w K mg mb) rfl rfl X db hb e2);have bk:=J4 (prog:=prog) (w:=w) X db hb e6 b1 b2 k1 k2 kc kf;have H:=(M3 mk bk fk (λJ J hC f=>mz (e7 mk bk hC) (O2 f)) 19).2 .BA 21;refine Y ?_;exact hbody▸(LN ⟨X,db,Bb,nl,ck⟩ gk (vk _ (cT _ _)) e3 (fk .BA).sc H hL hI eS eL eG eB eF eC h2 F f8 nw nd hx q)
end
end Mine.Internal
namespace Mine.Internal
theorem Hl{n:Nat}(h:n<4096):0<=(n:Int)/\(n:Int)<4096:=⟨cL n,bK.mpr h⟩
theorem Ng{m n:Nat}(h:m<=n):binI .sub (n:Int) m=some ((n-m:Nat):Int):=aM some (ii h).symm
theorem Ke{n:Nat}(h:n<=1000000): -1000000<=(n:Int)/\(n:Int)<=1000000:=⟨i5 (bc rfl) (cL n),kI.mpr h⟩
theorem PX{a b c:Nat}(ha:a<=1000000)(hb:b<=1000000)(h0:¬c=0)(hc:c<=1000000):Bj a b c=true:=bp ⟨λq=>h0 (A8 q),(Ke ha).1,(Ke ha).2,(Ke hb).1,(Ke hb).2,Ke hc⟩
theorem yz{a n c:Nat}:gD a (a+n:Nat) (c+1:Nat)=(n+c)/(c+1):=by
 unfold gD;rw[aF (show((c+1:Nat):Int) > 0 from bK.mpr (eP c))];cases n with
 | zero=>rw[Au,aZ (Int.lt_irrefl _),cx,gQ (gN c)];rfl
 | succ k=>
  rw[aF (bK.mpr (hJ (eP k))),gF,Int.add_comm a,fK,show((k+1:Nat):Int)-1=k from fK k 1,dA,b9 1 c,Nat.add_div_right k (eP c)];rfl
theorem UD{n:Nat}(h:n=0):decide ((n:Int)=0)=true:=bp (aM A9 h)
theorem Dx{n:Nat}(h:¬n=0):decide ((n:Int)=0)=false:=bP λq=>h (A8 q)
theorem SM{n:Nat}(h:¬n=0):decide ((n:Int)≠0)=true:=bp λq=>h (A8 q)
theorem Q2{n:Nat}(h:n=0):decide ((n:Int)≠0)=false:=bP λq=>q (aM A9 h)
theorem PY{m n:Nat}(h:m<n):decide ((m:Int)<n)=true:=bp (bK.mpr h)
theorem Aq{m n:Nat}(h:n<=m):decide ((m:Int)<n)=false:=bP λq=>fJ.mpr h (bK.mp q)
theorem PZ{m n:Nat}(h:m<=n):decide ((m:Int)<=n)=true:=bp (kI.mpr h)
theorem Nh{m n:Nat}(h:n<m):decide ((m:Int)<=n)=false:=bP λq=>jG.mpr h (kI.mp q)
theorem yi{v n:Nat}(hv:v<2^64)(hn:n<=1000000):binI .qQ (v:Int) n=some ((v*2^n:Nat):Int):=
 (aF (iP.mpr ⟨bp hv,bp ⟨cL n,kI.mpr hn⟩⟩)).trans (aM some rfl)
structure Ev(C:Cx)(e:ME)(E:List V)(u:St)(v:V)(re:St):Prop where
 eq:ev C e E u=.ok v re
structure yv(C:Cx)(es:List ME)(E:List V)(u:St)(vs:List V)(re:St):Prop where
 eq:q9 C es E u=.ok vs re
structure Bo(C:Cx)(b:MB)(E:List V)(u:St)(t:Bool)(re:St):Prop where
 eq:nA C b E u=.ok t re
structure Ch(C:Cx)(x:V)(Db:List nE)(es:List ME)(E:List V)(u:St)(t:Bool)(re:St):Prop where
 eq:ly C x Db es E u=.ok t re
structure Xs(C:Cx)(ss:List MS)(E:List V)(u:St)(r:RX):Prop where
 eq:iH C ss E u=r
theorem pT(d mk:Nat)(f:Fn)(wv:List V)(u:St):af (d+1) mk f wv u=rn (af d) mk (cc f) wv u:=rfl
noncomputable def eo(E:List V)(i:Nat):Option V:=match E[i]? with
 | some .av=>none
 | x=>x
section
variable{C:Cx}{E:List V}{u po rs Tk:St}{a b c e o i:ME}{x y z v:V}{es:List ME}{vs:List V}{k n:Int}{t:Bool}{ad:Nat}
theorem bh:Ev C (.ai k) E u (.int k) u:=⟨rfl⟩
theorem pY:Ev C (.nf t) E u (.bool t) u:=⟨rfl⟩
theorem F4:Ev C .lW E u .none u:=⟨rfl⟩
theorem ag{j:Nat}(h:eo E j=some v):Ev C (.ah j) E u v u:=by
 refine⟨?_⟩;have e:ev C (.ah j) E u=match E[j]? with | some .av=>RE.cn | some v=>.ok v u | none=>.cn:=rfl
 refine e.trans ?_;unfold eo at h;cases q:E[j]? with
 | none=>rw[q]at h;cases h
 | some w=>rw[q]at h;cases w<;>cases h<;>rfl
theorem dn{g:Gl}(h:HZ g=v):Ev C (.cW g) E u v u:=⟨h▸rfl⟩
theorem yX{op:Op}(ha:Ev C a E u x po)(hb:Ev C b E po y rs)(h:uC op x y rs=.ok z Tk):Ev C (.aQ op a b) E u z Tk:=
 ⟨(by simp only[ha.eq,RE.cV,hb.eq,RE.cV,h]:(ev C a E u).bind _=_)⟩
theorem df{op:Op}(ha:Ev C a E u (.int k) po)(hb:Ev C b E po (.int n) rs){m:Int}(h:binI op k n=some m):Ev C (.aQ op a b) E u (.int m) rs:=
 yX ha hb (by show jS V.int rs (binI op k n)=_;exact aM _ h)
theorem UT{op:QV}(ha:Ev C a E u x po)(h:IS op x=some z):Ev C (.un op a) E u z po:=
 ⟨(by simp only[ha.eq,RE.cV,h];rfl:(ev C a E u).bind _=_)⟩
theorem bg{f:eM}{cl:pG}{fs:List (eM×V)}(ho:Ev C o E u (.ref ad) po)(h:po[ad]?=some (.inst cl fs))(hf:hP f fs=some v):Ev C (.aS o f) E u v po:=
 ⟨(by
  rw[ho.eq]
  show jS id po (((po[ad]?).bind O.EB).bind λo=>hP f o.2)=_
  rw[h]
  show jS id po (hP f fs)=_
  rw[hf];rfl:(ev C o E u).bind _=_)⟩
theorem lT(ho:Ev C o E u (.ref ad) po)(hi:Ev C i E po (.int k) rs){ob:O}(h:rs[ad]?=some ob)(S:ob.seq?=some vs)(hk:0<=k/\k<4096)(hv:vs[k.toNat]?=some v):Ev C (.sub o i) E u v rs:=
 ⟨(by
  simp only[ho.eq,RE.cV,hi.eq,RE.cV]
  show jS id rs (((rs[ad]?).bind O.seq?).bind λvs=>if 0<=k/\k<4096 then vs[k.toNat]? else none)=_
  simp only[h,rV,S,rV,aF hk,hv];rfl:(ev C o E u).bind _=_)⟩
theorem RS{l:List Int}(ho:Ev C o E u (.ref ad) po)(hi:Ev C i E po (.int k) rs)(h:rs[ad]?=some (.list (l.map V.int)))(hk:0<=k/\k<4096)(hv:l[k.toNat]?=some n):Ev C (.sub o i) E u (.int n) rs:=
 lT ho hi h rfl hk (by simp only[cZ,hv];rfl)
theorem aY:yv C [] E u [] u:=⟨rfl⟩
theorem ak(h1:Ev C e E u v po)(hv:v.cD=true)(h2:yv C es E po vs rs):yv C (e::es) E u (v::vs) rs:=
 ⟨(by rw[h1.eq,RE.cV,aF hv,h2.eq];rfl:(ev C e E u).bind _=_)⟩
theorem iS(h:yv C es E u vs po):Ev C (.list es) E u (.ref po.length) (po++[.list vs]):=⟨(by rw[h.eq];rfl:(q9 C es E u).bind _=_)⟩
theorem xA(h:yv C es E u vs po):Ev C (.eY es) E u (.ref po.length) (po++[.eY vs]):=⟨(by rw[h.eq];rfl:(q9 C es E u).bind _=_)⟩
theorem bw{f:Fn}(h:yv C es E u vs po)(hc:C.call C.mark f vs po=.ok v rs):Ev C (.call f es) E u v rs:=⟨(by simp only[h.eq,RE.cV,hc]:(q9 C es E u).bind _=_)⟩
theorem pC{f:Bi}(h:yv C es E u vs po)(hc:builtin f vs po=.ok v rs):Ev C (.bi f es) E u v rs:=⟨(by simp only[h.eq,RE.cV,hc]:(q9 C es E u).bind _=_)⟩
theorem iR(h:yv C es E u vs po)(hc:mG vs=some v):Ev C (.gV es) E u v po:=⟨(by simp only[h.eq,RE.cV,hc];rfl:(q9 C es E u).bind _=_)⟩
theorem fN{m:AA}{f:Fn}{cl:pG}{fs:List (eM×V)}(ho:Ev C o E u (.ref ad) po)(h:po[ad]?=some (.inst cl fs))(hf:oE cl m=some f)(S:yv C es E po vs rs)(hc:C.call C.mark f (.ref ad::vs) rs=.ok v Tk):Ev C (.jt o m es) E u v Tk:=
 ⟨(by
  rw[ho.eq]
  show(match po[ad]? with | some (.inst c _)=>(match oE c m with | some f=>(q9 C es E po).bind λvs u=>C.call C.mark f (.ref ad::vs) u | none=>.cn) | _=>.cn)=_
  rw[h]
  show(match oE cl m with | some f=>(q9 C es E po).bind λvs u=>C.call C.mark f (.ref ad::vs) u | none=>.cn)=_
  rw[hf]
  simp only[S.eq,RE.cV,hc]:(ev C o E u).bind _=_)⟩
theorem Jl{m:Lm}(ho:Ev C o E u (.ref ad) po){ws:List V}(h:po[ad]?=some (.list ws))(S:yv C es E po vs rs)(hc:iC C.mark (.ref ad) m vs rs=.ok v Tk):Ev C (.lm o m es) E u v Tk:=
 ⟨(by
  simp only[ho.eq,RE.cV,aF (by show((po[ad]?).bind O.lO).isSome=true;rw[h];rfl:zC (.ref ad) po=true),S.eq,RE.cV,hc]:(ev C o E u).bind _=_)⟩
theorem qT{lo hi:Option ME}{p q:V}(ho:Ev C o E u x po)(hl:QL C lo E po=.ok p po)(hh:QL C hi E po=.ok q po)(h:ji x p q po=.ok v rs):Ev C (.slice o lo hi) E u v rs:=
 ⟨(by simp only[ho.eq,RE.cV,hl,RE.cV,hh,RE.cV,h]:(ev C o E u).bind _=_)⟩
theorem Qu{q:MB}(hq:Bo C q E u t po)(h:Ev C (if t then a else b) E po v rs):Ev C (.ite q a b) E u v rs:=
 ⟨(by rw[hq.eq];cases t<;>exact h.eq:(nA C q E u).bind _=_)⟩
theorem j5{Db:List nE}(ha:Ev C a E u x po)(h:Ch C x Db es E po t rs):Ev C (.cy a Db es) E u (.bool t) rs:=
 ⟨(by rw[ha.eq,RE.cV,h.eq];rfl:(ev C a E u).bind _=_)⟩
theorem yY(h:zN C es E u=.ok v po):Ev C (.nX es) E u v po:=⟨h⟩
theorem HC(h:GL C es E u=.ok v po):Ev C (.MQ es) E u v po:=⟨h⟩
theorem gf{op:nE}(h:Ev C e E u y po)(hc:j8 op x y po=some t):Ch C x [op] [e] E u t po:=⟨(by simp only[h.eq,RE.cV,hc];rfl:(ev C e E u).bind _=_)⟩
theorem Py{op op':nE}{Db:List nE}{e':ME}(h:Ev C e E u y po)(hc:j8 op x y po=some true)(h2:Ch C y (op'::Db) (e'::es) E po t rs):Ch C x (op::op'::Db) (e::e'::es) E u t rs:=
 ⟨(by rw[h.eq,RE.cV,hc];exact h2.eq:(ev C e E u).bind _=_)⟩
theorem U6{op op':nE}{Db:List nE}{e':ME}(h:Ev C e E u y po)(hc:j8 op x y po=some false):Ch C x (op::op'::Db) (e::e'::es) E u false po:=
 ⟨(by rw[h.eq,RE.cV,hc]:(ev C e E u).bind _=_)⟩
theorem pF{cr w:Int}(h:Ev C e E u (.int w) po):Ch C (.int cr) [.lt] [e] E u (decide (cr<w)) po:=gf h rfl
theorem Dj{cr w:Int}(h:Ev C e E u (.int w) po):Ch C (.int cr) [.gt] [e] E u (decide (w<cr)) po:=gf h rfl
theorem u6{cr w:Int}(h:Ev C e E u (.int w) po):Ch C (.int cr) [.ge] [e] E u (decide (w<=cr)) po:=gf h rfl
theorem wi{cr w:Int}(h:Ev C e E u (.int w) po):Ch C (.int cr) [.eq] [e] E u (decide (cr=w)) po:=gf h rfl
theorem GX{cr w:Int}(h:Ev C e E u (.int w) po):Ch C (.int cr) [.ne] [e] E u (decide (cr≠w)) po:=gf h rfl
theorem kL(ha:Ev C a E u (.int k) po):Ev C (.un .pD a) E u (.int (-k)) po:=UT ha rfl
theorem j9(h:Ev C e E u v po)(ht:truthy v=some t):Bo C (.val e) E u t po:=⟨(by simp only[h.eq,RE.cV,ht];rfl:(ev C e E u).bind _=_)⟩
theorem dg{Db:List nE}(ha:Ev C a E u x po)(h:Ch C x Db es E po t rs):Bo C (.cy a Db es) E u t rs:=⟨(by simp only[ha.eq,RE.cV,h.eq]:(ev C a E u).bind _=_)⟩
theorem xI{q:MB}(h:Bo C q E u t po):Bo C (.not q) E u (!t) po:=⟨(by rw[h.eq];rfl:(nA C q E u).bind _=_)⟩
theorem G8:Bo C (.all []) E u true u:=⟨rfl⟩
theorem vd{q:MB}{qs:List MB}{cr:Bool}(h:Bo C q E u t po)(h2:if t then Bo C (.all qs) E po cr rs else cr=false/\rs=po):Bo C (.all (q::qs)) E u cr rs:=
 ⟨(by
  rw[h.eq]
  cases t
  .obtain⟨rfl,rfl⟩:=h2;rfl
  .exact h2.eq:(nA C q E u).bind _=_)⟩
theorem Bo.to{q:MB}{re:St}{cr:Bool}(h:Bo C q E u t re)(e:t=cr):Bo C q E u cr re:=e▸h
theorem rz:Bo C (.any []) E u false u:=⟨rfl⟩
theorem gh{q:MB}{qs:List MB}{cr:Bool}(h:Bo C q E u t po)(h2:if t then cr=true/\rs=po else Bo C (.any qs) E po cr rs):Bo C (.any (q::qs)) E u cr rs:=
 ⟨(by
  rw[h.eq]
  cases t
  .exact h2.eq
  .obtain⟨rfl,rfl⟩:=h2;rfl:(nA C q E u).bind _=_)⟩
end
section
variable{C:Cx}{E sw:List V}{u po rs Tk:St}{a b c e o i:ME}{x y z v:V}{es:List ME}{vs:List V}{k n:Int}{t:Bool}{ad:Nat}{ss:List MS}{r:RX}
theorem dQ:Xs C [] E u (.ok .next E u):=⟨rfl⟩
theorem bG{j:Nat}(h:Ev C e E u v po)(hv:v.cD=true)(hj:DG j E.length=true)(hr:Xs C ss (E.set j v) po r):Xs C (.assign (.ah j) e::ss) E u r:=
 ⟨(by
  rw[h.eq]
  show(if j<E.length/\v.cD then RX.ok .next (E.set j v) po else .cn).next _=_
  rw[aF ⟨yc.mp hj,hv⟩]
  exact hr.eq:((ev C e E u).then E _).next _=_)⟩
theorem uS{f:eM}{cl:pG}{fs:List (eM×V)}(h:Ev C e E u v po)(ho:Ev C o E po (.ref ad) rs)(hg:rs[ad]?=some (.inst cl fs))(hm:fq C.mark ad v=true)(hl:Q6 fs.length 60=true)(hr:Xs C ss E (rs.set ad (.inst cl (qt f v fs))) r):Xs C (.assign (.aS o f) e::ss) E u r:=
 ⟨(by
  rw[h.eq]
  show((ev C o E po).then E _).next _=_
  rw[ho.eq,RE.iL]
  have e:setAttr C.mark (.ref ad) f v rs=some (rs.set ad (.inst cl (qt f v fs))):=by
   show((rs[ad]?).bind O.EB).bind _=_
   rw[hg];show(if fq C.mark ad v&&decide (fs.length<=60)then _ else _)=_;simp only[hm,bp (aa hl)];rfl
  rw[e];exact hr.eq:((ev C e E u).then E _).next _=_)⟩
theorem sx{us:List V}(h:Ev C e E u v po)(ho:Ev C o E po (.ref ad) rs)(hi:Ev C i E rs (.int k) Tk)(hg:Tk[ad]?=some (.list us))(hk:0<=k/\k<4096/\k.toNat<us.length)(hm:fq C.mark ad v=true)(hr:Xs C ss E (Tk.set ad (.list (us.set k.toNat v))) r):Xs C (.assign (.sub o i) e::ss) E u r:=
 ⟨(by
  rw[h.eq]
  show((ev C o E po).then E _).next _=_
  rw[ho.eq,RE.iL,hi.eq,RE.iL]
  have e:setItem C.mark (.ref ad) (.int k) v Tk=some (Tk.set ad (.list (us.set k.toNat v))):=by
   show((Tk[ad]?).bind O.lO).bind _=_
   simp only[hg];exact aF ⟨hk.1,hk.2.1,hk.2.2,hm⟩
  rw[e];exact hr.eq:((ev C e E u).then E _).next _=_)⟩
theorem gU{j:Nat}{op:Op}(h1:eo E j=some (.int k))(h:Ev C e E u (.int n) po){m:Int}(hb:binI op k n=some m)(hj:DG j E.length=true)(hr:Xs C ss (E.set j (.int m)) po r):Xs C (.ig (.ah j) op e::ss) E u r:=
 ⟨(by
  simp only[(ag h1).eq,RE.iL,h.eq,RE.iL]
  show((jS V.int po (binI op k n)).then E _).next _=_
  simp only[hb]
  show(if j<E.length/\(V.int m).cD then RX.ok .next (E.set j (.int m)) po else .cn).next _=_
  rw[aF ⟨yc.mp hj,rfl⟩]
  exact hr.eq:((ev C (.ah j) E u).then E λx u=>(ev C e E u).then E λy u=>(ng C.mark op x y u).then E λz u=>if j<E.length/\z.cD then .ok .next (E.set j z) u else .cn).next _=_)⟩
theorem oh{f:eM}{op:Op}{cl cl':pG}{fs fs':List (eM×V)}(ho:Ev C o E u (.ref ad) po)(hg:po[ad]?=some (.inst cl fs))(hf:hP f fs=some (.int k))(h:Ev C e E po (.int n) rs){m:Int}(hb:binI op k n=some m)(hg':rs[ad]?=some (.inst cl' fs'))(hl:Q6 fs'.length 60=true)
  (hr:Xs C ss E (rs.set ad (.inst cl' (qt f (.int m) fs'))) r):Xs C (.ig (.aS o f) op e::ss) E u r:=
 ⟨(by
  rw[ho.eq,RE.iL]
  have e1:getAttr (.ref ad) f po=some (.int k):=by
   show((po[ad]?).bind O.EB).bind _=_
   exact hg▸hf
  rw[e1];rw[h.eq];show((jS V.int rs (binI op k n)).then E _).next _=_;rw[hb];have e2:setAttr C.mark (.ref ad) f (.int m) rs=some (rs.set ad (.inst cl' (qt f (.int m) fs'))):=by
   show((rs[ad]?).bind O.EB).bind _=_
   rw[hg'];show(if true&&decide (fs'.length<=60)then _ else _)=_;rw[bp (aa hl)];rfl
  show(match setAttr C.mark (.ref ad) f (.int m) rs with | some u=>RX.ok .next E u | none=>.cn).next _=_
  rw[e2];exact hr.eq:((ev C o E u).then E λx u=>match getAttr x f u with | none=>.cn | some DE=>(ev C e E u).then E λy u=>(ng C.mark op DE y u).then E λz u=>match setAttr C.mark x f z u with | some u=>.ok .next E u | none=>.cn).next _=_)⟩
theorem vx{op:Op}{us us':List V}{cr:Int}(ho:Ev C o E u (.ref ad) po)(hi:Ev C i E po (.int k) rs)(hg:rs[ad]?=some (.list us))(hk:0<=k/\k<4096)(hu:us[k.toNat]?=some (.int cr))(h:Ev C e E rs (.int n) Tk){m:Int}(hb:binI op cr n=some m)(hg':Tk[ad]?=some (.list us'))(hl:k.toNat<us'.length)
  (hr:Xs C ss E (Tk.set ad (.list (us'.set k.toNat (.int m)))) r):Xs C (.ig (.sub o i) op e::ss) E u r:=
 ⟨(by
  rw[ho.eq,RE.iL,hi.eq,RE.iL]
  have e1:getItem (.ref ad) (.int k) rs=some (.int cr):=by
   show((rs[ad]?).bind O.seq?).bind _=_
   exact hg▸((aF hk).trans hu)
  rw[e1];rw[h.eq];show((jS V.int Tk (binI op cr n)).then E _).next _=_;rw[hb];have e2:setItem C.mark (.ref ad) (.int k) (.int m) Tk=some (Tk.set ad (.list (us'.set k.toNat (.int m)))):=by
   show((Tk[ad]?).bind O.lO).bind _=_
   simp only[hg'];exact aF ⟨hk.1,hk.2,hl,rfl⟩
  show(match setItem C.mark (.ref ad) (.int k) (.int m) Tk with | some u=>RX.ok .next E u | none=>.cn).next _=_
  rw[e2];exact hr.eq:((ev C o E u).then E λx u=>(ev C i E u).then E λk u=>match getItem x k u with | none=>.cn | some DE=>(ev C e E u).then E λy u=>(ng C.mark op DE y u).then E λz u=>match setItem C.mark x k z u with | some u=>.ok .next E u | none=>.cn).next _=_)⟩
theorem gb(h:Ev C e E u v po)(hr:Xs C ss E po r):Xs C (.kx e::ss) E u r:=⟨(h.eq▸hr.eq:((ev C e E u).then E _).next _=_)⟩
theorem dN(h:Ev C e E u v po):Xs C (.ret e::ss) E u (.ok (.ret v) E po):=⟨(by rw[h.eq];rfl:((ev C e E u).then E _).next _=_)⟩
theorem Kx:Xs C (.Jd::ss) E u (.ok (.ret .none) E u):=⟨rfl⟩
theorem jh(h:Ev C e E u v po):Xs C (.raise e::ss) E u (.fY E po):=⟨(by rw[h.eq];rfl:((ev C e E u).then E _).next _=_)⟩
theorem Kz:Xs C (.cont::ss) E u (.ok .cont E u):=⟨rfl⟩
theorem zL(ss ts:List MS)(E:List V)(u:St):iH C (ss++ts) E u=(iH C ss E u).next λE u=>iH C ts E u:=by
 induction ss generalizing E u with
 | nil=>rfl
 | cons s ss ih=>
  show(ex C s E u).next _=((ex C s E u).next _).next _
  cases ex C s E u with
  | ok f E u=>cases f<;>first | rfl | exact ih E u
  | fY E u=>rfl
  | cn=>rfl
theorem de{q:MB}{xs ys:List MS}(h:Bo C q E u t po)(ht:t=true)(hr:Xs C (xs++ss) E po r):Xs C (.fB q xs ys::ss) E u r:=
 ⟨(by
  rw[h.eq,ht]
  have:=hr.eq
  rw[zL]at this
  exact this:((nA C q E u).then E _).next _=_)⟩
theorem cu{q:MB}{xs ys:List MS}(h:Bo C q E u t po)(ht:t=false)(hr:Xs C (ys++ss) E po r):Xs C (.fB q xs ys::ss) E u r:=
 ⟨(by
  rw[h.eq,ht]
  have:=hr.eq
  rw[zL]at this
  exact this:((nA C q E u).then E _).next _=_)⟩
end
theorem b6{d mk:Nat}{f:Fn}{wv:List V}{u re:St}{fl:Fl}{sw:List V}{r:RE V}(B:List MS)(E:List V)(hn:wv.length=(cc f).ij)(ht:(cc f).uq=true)(hB:(cc f).body=B)(yq:wv++aw ((cc f).lh-(cc f).ij) V.av=E)
  (h:Xs ⟨af d,u.length⟩ B E u (.ok fl sw re)) (hf:finish u.length (oy fl) re=r):af (d+1) mk f wv u=r:=by
 subst hB yq;simp only[pT];unfold rn;refine(aF hn).trans ?_;rw[ht];show(match iH ⟨af d,u.length⟩ _ _ _ with | .ok f _ re=>if true=true then finish u.length (oy f) re else _ | .fY _ re=>_ | .cn=>_)=_;exact h.eq▸hf
theorem call_exc{d mk:Nat}{f:Fn}{wv:List V}{u re:St}{sw:List V}(B:List MS)(E:List V)(hn:wv.length=(cc f).ij)(ht:(cc f).uq=true)(hB:(cc f).body=B)(yq:wv++aw ((cc f).lh-(cc f).ij) V.av=E)
  (h:Xs ⟨af d,u.length⟩ B E u (.fY sw re)):af (d+1) mk f wv u=.fY (re.take u.length):=by
 subst hB yq;simp only[pT];unfold rn;refine(aF hn).trans ?_;rw[ht];show(match iH ⟨af d,u.length⟩ _ _ _ with | .ok f _ re=>_ | .fY _ re=>RE.fY (if true=true then re.take u.length else re) | .cn=>_)=_;rw[h.eq];rfl
theorem fT{u:St}{a:Nat}{o o':O}(h:u[a]?=some o'):(u.set a o)[a]?=some o:=cG (aJ.mp h).1
theorem fS{u:St}{a b:Nat}{o o':O}(hn:a≠b)(h:u[b]?=some o'):(u.set a o)[b]?=some o':=by refine(bQ hn).trans ?_;exact h
theorem xl(n:Nat)(h:n<64):binI .qQ 1 (n:Int)=some ((2^n:Nat):Int):=by
 refine(aF (by simp[small];lia)).trans ?_;rw[Ck];rfl
theorem th(w n:Nat):binI .sm (w:Int) (n:Int)=some ((w/2^n:Nat):Int):=by
 skip;rfl
theorem Do(n:Nat):binI .sub ((2^n:Nat):Int) 1=some ((2^n-1:Nat):Int):=by
 exact Ng (eW n)
theorem iX(a b:Nat):binI .and (a:Int) (b:Int)=some ((a&&&b:Nat):Int):=by
 show L8 a b=_
 skip;rfl
theorem oY(a b:Nat):binI .or (a:Int) (b:Int)=some ((a|||b:Nat):Int):=by
 skip;rfl
theorem nC(a b:Nat):binI .Ay (a:Int) (b:Int)=some ((a^^^b:Nat):Int):=by
 skip;rfl
theorem rA{x y:Int}(h:0<y):binI .iq x y=some (x%y):=aF h
theorem M1{x y:Int}(h:0<y/\y<1073741824):binI .ey x y=some (x/y):=aF h
theorem Dp{x y:Int}(h:(small x||small y)=true):binI .fm x y=some (x*y):=aF h
theorem C4{f:V->List V->St->RX}{sK:Option (Nat×O)}(I:List V->List V->St->Prop)(Rt:V->St->Prop)(X:St->Prop)(S:∀vs E u,I vs E u->same sK u=true)
  (hb:∀v vs E u,I (v::vs) E u->(∃fl sw re,f v E u=.ok fl sw re/\(fl=.next\/fl=.cont)/\I vs sw re)\/(∃w sw re,f v E u=.ok (.ret w) sw re/\Rt w re)\/(∃sw re,f v E u=.fY sw re/\X re)) :
  ∀(vs:List V) (E:List V) (u:St),I vs E u->(∃sw re,forLoop f sK vs E u=.ok .next sw re/\I [] sw re)\/(∃w sw re,forLoop f sK vs E u=.ok (.ret w) sw re/\Rt w re)\/(∃sw re,forLoop f sK vs E u=.fY sw re/\X re)
 | [],E,u,h=>.inl ⟨E,u,aF (S _ _ _ h),h⟩
 | v::vs,E,u,h=>by
  have e:forLoop f sK (v::vs) E u=match f v E u with
   | .ok (.ret v) E u=>.ok (.ret v) E u
   | .ok _ E u=>forLoop f sK vs E u
   | .fY E u=>.fY E u
   | .cn=>.cn:=aF (S _ _ _ h)
  rw[e]
  refine d5 λGG Y=>?_
  rcases hb v vs E u h with⟨fl,sw,re,e1,e2,h1⟩ | ⟨w,sw,re,e1,h1⟩ | ⟨sw,re,e1,h1⟩
  .refine Y ?_
   rw[e1]
   refine bN e2 (λKM=>?_) λOn=>?_
   .subst KM;exact C4 I Rt X S hb vs sw re h1
   .subst On;exact C4 I Rt X S hb vs sw re h1
  .refine Y ?_
   exact e1▸(.inr (.inl ⟨w,sw,re,rfl,h1⟩))
  .refine Y ?_
   exact e1▸(.inr (.inr ⟨sw,re,rfl,h1⟩))
theorem Pa{f:V->List V->St->RX}{sK:Option (Nat×O)}(I:List V->List V->St->Prop)(S:∀vs E u,I vs E u->same sK u=true)
  (hb:∀v vs E u,I (v::vs) E u->∃fl sw re,f v E u=.ok fl sw re/\(fl=.next\/fl=.cont)/\I vs sw re) {vs:List V} {E:List V} {u:St} (h:I vs E u):∃sw re,forLoop f sK vs E u=.ok .next sw re/\I [] sw re:=by
 refine d5 λGG Y=>?_
 rcases C4 I (λJ J=>False) (λJ=>False) S (λv vs E u h=>.inl (hb v vs E u h)) vs E u h with h | ⟨_,_,_,_,h⟩ | ⟨_,_,_,h⟩
 .refine Y ?_;exact h
 .exact h.elim
 .exact h.elim
theorem IR{c:List V->St->RE Bool}{f:List V->St->RX}(I:Nat->List V->St->Prop)(on:List V->St->Prop)
  (hb:∀k E u,I k E u->(∃re,c E u=.ok false re/\on E re)\/∃k' re sw UF,k=k'+1/\c E u=.ok true re/\f E re=.ok .next sw UF/\I k' sw UF) :
  ∀(n k:Nat) (E:List V) (u:St),k<n->I k E u->∃sw re,whileLoop c f n E u=.ok .next sw re/\on sw re
 | 0,_,_,_,h,_=>absurd h (iO _)
 | n+1,k,E,u,hk,h=>by
  have e:∀X,c E u=X->whileLoop c f (n+1) E u=X.then E λb u=>if b then(match f E u with
   | .ok (.ret v) E u=>.ok (.ret v) E u
   | .ok _ E u=>whileLoop c f n E u
   | .fY E u=>.fY E u
   | .cn=>.cn)else .ok .next E u:=λX h=>h▸rfl
  refine bN (hb k E u h) (λKM=>?_) λOn=>?_
  .obtain⟨re,e1,h1⟩:=KM;exact⟨E,re,e _ e1,h1⟩
  .refine Kv On λk' re sw UF=>mT λob4 e1 e2 h1=>?_;clear On;subst ob4
   have w:=(e _ e1).trans (aM (λX:RX=>match X with
    | .ok (.ret v) E u=>RX.ok (.ret v) E u
    | .ok _ E u=>whileLoop c f n E u
    | .fY E u=>.fY E u
    | .cn=>.cn) e2)
   rw[w]
   exact IR I on hb n k' sw UF (by lia) h1
section
variable{C:Cx}{E sw:List V}{u po rs Tk:St}{a b c e o i it:ME}{x y z v w:V}{es:List ME}{vs:List V}{ss bd:List MS}{r:RX}{sK:Option (Nat×O)}{t:Tg}
noncomputable def body(C:Cx)(t:Tg)(b:List MS):V->List V->St->RX:=λv E u=>(store C t v E u).next λE u=>iH C b E u
theorem cA{j:Nat}(hv:v.cD=true)(hj:DG j E.length=true)(h:Xs C bd (E.set j v) u r):body C (.ah j) bd v E u=r:=by
 show(if j<E.length/\v.cD then RX.ok .next (E.set j v) u else .cn).next _=_
 rw[aF ⟨yc.mp hj,hv⟩];exact h.eq
theorem iQ(hi:Ev C it E u x po)(Tl:fU x po=some (sK,vs))(hl:forLoop (body C t bd) sK vs E po=.ok .next sw rs)(hr:Xs C ss sw rs r):Xs C (.for t it bd::ss) E u r:=
 ⟨(by
  rw[hi.eq,RE.iL,Tl]
  dsimp only
  rw[hl]
  exact hr.eq:((ev C it E u).then E λx u=>match fU x u with | none=>.cn | some (sK,vs)=>forLoop (body C t bd) sK vs E u).next _=_)⟩
theorem vw(hi:Ev C it E u x po)(Tl:fU x po=some (sK,vs))(hl:forLoop (body C t bd) sK vs E po=.ok (.ret w) sw rs):Xs C (.for t it bd::ss) E u (.ok (.ret w) sw rs):=
 ⟨(by
  rw[hi.eq,RE.iL,Tl]
  dsimp only
  rw[hl];rfl:((ev C it E u).then E λx u=>match fU x u with | none=>.cn | some (sK,vs)=>forLoop (body C t bd) sK vs E u).next _=_)⟩
theorem DO(hi:Ev C it E u x po)(Tl:fU x po=some (sK,vs))(hl:forLoop (body C t bd) sK vs E po=.fY sw rs):Xs C (.for t it bd::ss) E u (.fY sw rs):=
 ⟨(by
  rw[hi.eq,RE.iL,Tl]
  dsimp only
  rw[hl];rfl:((ev C it E u).then E λx u=>match fU x u with | none=>.cn | some (sK,vs)=>forLoop (body C t bd) sK vs E u).next _=_)⟩
theorem Hp{q:MB}(hl:whileLoop (λE u=>nA C q E u) (λE u=>iH C bd E u) qn E u=.ok .next sw rs)(hr:Xs C ss sw rs r):Xs C (.while q bd::ss) E u r:=
 ⟨(hl▸hr.eq:(whileLoop (λE u=>nA C q E u) (λE u=>iH C bd E u) qn E u).next _=_)⟩
structure Er(C:Cx)(e:ME)(E:List V)(u re:St):Prop where
 eq:ev C e E u=.fY re
structure Ur(C:Cx)(es:List ME)(E:List V)(u re:St):Prop where
 eq:q9 C es E u=.fY re
theorem nB{f:Fn}(h:yv C es E u vs po)(hc:C.call C.mark f vs po=.fY rs):Er C (.call f es) E u rs:=⟨(by simp only[h.eq,RE.cV,hc]:(q9 C es E u).bind _=_)⟩
theorem Pn{f:Fn}(h:Ur C es E u po):Er C (.call f es) E u po:=⟨(by rw[h.eq];rfl:(q9 C es E u).bind _=_)⟩
theorem My(h:Ur C es E u po):Er C (.list es) E u po:=⟨(by rw[h.eq];rfl:(q9 C es E u).bind _=_)⟩
theorem Mt(h:Er C e E u po):Ur C (e::es) E u po:=⟨(by rw[h.eq];rfl:(ev C e E u).bind _=_)⟩
theorem Ug(h:Ev C e E u v po)(hv:v.cD=true)(h2:Ur C es E po rs):Ur C (e::es) E u rs:=⟨(by rw[h.eq,RE.cV,aF hv,h2.eq];rfl:(ev C e E u).bind _=_)⟩
theorem Mx{op:Op}(h:Er C a E u po):Er C (.aQ op a b) E u po:=⟨(by rw[h.eq];rfl:(ev C a E u).bind _=_)⟩
theorem oN{m:AA}{f:Fn}{cl:pG}{fs:List (eM×V)}{ad:Nat}(ho:Ev C o E u (.ref ad) po)(h:po[ad]?=some (.inst cl fs))(hf:oE cl m=some f)(S:yv C es E po vs rs)(hc:C.call C.mark f (.ref ad::vs) rs=.fY Tk):Er C (.jt o m es) E u Tk:=
 ⟨(by
  rw[ho.eq]
  show(match po[ad]? with | some (.inst c _)=>(match oE c m with | some f=>(q9 C es E po).bind λvs u=>C.call C.mark f (.ref ad::vs) u | none=>.cn) | _=>.cn)=_
  rw[h]
  show(match oE cl m with | some f=>(q9 C es E po).bind λvs u=>C.call C.mark f (.ref ad::vs) u | none=>.cn)=_
  rw[hf]
  show(q9 C es E po).bind _=_
  simp only[S.eq,RE.cV,hc]:(ev C o E u).bind _=_)⟩
theorem QO{Db:List nE}(h:Er C a E u po):nA C (.cy a Db es) E u=.fY po:=show(ev C a E u).bind _=_ by rw[h.eq];rfl
theorem ip{t:Tg}(h:Er C e E u po):Xs C (.assign t e::ss) E u (.fY E po):=⟨(by rw[h.eq];rfl:((ev C e E u).then E _).next _=_)⟩
theorem uR(h:Er C e E u po):Xs C (.kx e::ss) E u (.fY E po):=⟨(by rw[h.eq];rfl:((ev C e E u).then E _).next _=_)⟩
theorem Rz(h:Er C e E u po):Xs C (.ret e::ss) E u (.fY E po):=⟨(by rw[h.eq];rfl:((ev C e E u).then E _).next _=_)⟩
theorem Qk{q:MB}{xs ys:List MS}(h:nA C q E u=.fY po):Xs C (.fB q xs ys::ss) E u (.fY E po):=⟨(by rw[h];rfl:((nA C q E u).then E _).next _=_)⟩
theorem Bc{j:Nat}{op:Op}(h1:eo E j=some v)(h:Er C e E u po):Xs C (.ig (.ah j) op e::ss) E u (.fY E po):=
 ⟨(by
  simp only[(ag h1).eq,RE.iL,h.eq];rfl:((ev C (.ah j) E u).then E λx u=>(ev C e E u).then E λy u=>(ng C.mark op x y u).then E λz u=>if j<E.length/\z.cD then .ok .next (E.set j z) u else .cn).next _=_)⟩
end
noncomputable abbrev dq(w c a:Nat):O:=.inst .jA [(.vy,.int w),(.count,.int c),(.at,.int a)]
theorem tH(d mk r w c a n:Nat)(u:St)(h:u[r]?=some (dq w c a))(hn:n<64)(hle:a+n<=c):
  af (d+1) mk .dj [.ref r,.int n] u=.ok (.int (w/2^a%2^n:Nat)) (u.set r (dq w c (a+n))):=by
 have h1:=xl n hn
 have h3:=Do n
 have h4:=iX (w/2^a) (2^n-1)
 rw[fP]at h4;apply b6 my [.ref r,.int n,.av] rfl rfl rfl rfl
 .apply cu
  .exact dg (df (bg (ag rfl) h rfl) (ag rfl) rfl) (Dj (bg (ag rfl) h rfl))
  .exact bP (by lia)
  refine bG (df (df (bg (ag rfl) h rfl) (bg (ag rfl) h rfl) (th w a)) (df (df bh (ag rfl) h1) bh h3) h4) rfl rfl ?_;refine oh (ag rfl) h rfl (ag rfl) rfl h rfl ?_;exact dN (ag rfl)
 .show RE.ok _ _=_
  exact aM _ (br (by simp))
theorem kA(d mk r w c a n:Nat)(u:St)(h:u[r]?=some (dq w c a))(hle:c<a+n):af (d+1) mk .dj [.ref r,.int n] u=.fY u:=by
 refine(call_exc (sw:=[.ref r,.int n,.av]) my [.ref r,.int n,.av] rfl rfl rfl rfl ?_).trans (aM _ aU);apply de
 .exact dg (df (bg (ag rfl) h rfl) (ag rfl) rfl) (Dj (bg (ag rfl) h rfl))
 .exact bp (by lia)
 apply jh;exact kL bh
theorem yp(d mk p:Nat)(u:St):af (d+1) mk .pN [.int p] u=.ok (.int (p%8:Nat)) u:=by
 have h:binI .and p 7=some ((p%8:Nat):Int):=by exact(fP p 3)▸(iX p 7)
 apply b6 B7 [.int p] rfl rfl rfl rfl
 .exact dN (df (ag rfl) bh h)
 .exact aM _ aU
theorem CB(d mk p:Nat)(u:St):af (d+1) mk .vE [.int p] u=.ok (.int (p/8:Nat)) u:=by
 have h:binI .sm p 3=some ((p/8:Nat):Int):=th p 3
 apply b6 B6 [.int p] rfl rfl rfl rfl
 .exact dN (df (ag rfl) bh h)
 .exact aM _ aU
theorem oB(d mk s k:Nat)(u:St):af (d+1) mk .gd [.int s,.int k] u=.ok (.int (s*8+k:Nat)) u:=by
 have h:binI .fm s 8=some ((s:Int)*8):=Dp (by simp only[show small 8=true from rfl,fO])
 have h2:binI .ei (s*8) k=some ((s*8+k):Int):=by show some _=some _;congr 1
 apply b6 wo [.int s,.int k] rfl rfl rfl rfl
 .exact dN (df (df (ag rfl) bh h) (ag rfl) h2)
 .exact aM _ aU
noncomputable def aC(n:Nat):Nat:=if n=12 then 4 else 5
theorem yF(d mk n:Nat)(u:St)(h:n=12\/n=20\/n=24\/n=25):af (d+1) mk .kY [.int n] u=.ok (.int (aC n)) u:=by
 have go:∀m:Int,∀n:Nat,iH ⟨af d,u.length⟩ oU [.int n,.av] u=.ok (.ret (.int m)) [.int n,.int m] u->af (d+1) mk .kY [.int n] u=.ok (.int m) u:=λm n h=>
  b6 oU [.int n,.av] rfl rfl rfl rfl ⟨h⟩ (aM _ aU)
 rcases h with rfl | rfl | rfl | rfl
 .exact go 4 12 rfl
 .exact go 5 20 rfl
 .exact go 5 24 rfl
 .exact go 5 25 rfl
noncomputable abbrev Hq(w c:Nat):O:=.inst .ot [(.vy,.int w),(.count,.int c)]
theorem RU(d mk r w c v n:Nat)(u:St)(h:u[r]?=some (Hq w c))(hn:n<64)(hw:w<2^c)(hc:c<=1000000):
  af (d+1) mk .fu [.ref r,.int v,.int n] u=.ok .none (u.set r (Hq (w+v%2^n*2^c) (c+n))):=by
 have h1:=xl n hn
 have h3:=Do n
 have h4:=iX v (2^n-1)
 rw[fP]at h4;have h5:binI .qQ ((v%2^n:Nat)) c=some ((v%2^n*2^c:Nat):Int):=by
  exact yi (aK (dK v (eW n)) (kj (aa rfl) hn)) hc
 have h6:=oY w (v%2^n*2^c)
 have e:w|||v%2^n*2^c=w+v%2^n*2^c:=by
  rw[Cc,b9,<-A6];exact(pg hw _).symm
 rw[e]at h6;apply b6 rR [.ref r,.int v,.int n] rfl rfl rfl rfl
 .refine oh (ag rfl) h rfl (df (df (ag rfl) (df (df bh (ag rfl) h1) bh h3) h4) (bg (ag rfl) h rfl) h5) h6 h rfl ?_;refine oh (ag rfl) (fT h) rfl (ag rfl) rfl (fT h) rfl ?_;exact dQ
 .show RE.ok _ _=_
  rw[br (by simp),dJ];rfl
noncomputable def cK:List Nat->Nat
 | []=>0
 | b::r=>b+256*cK r
theorem Lr:cK []=0:=rfl
theorem zg{b:Nat}{r:List Nat}:cK (b::r)=b+256*cK r:=rfl
theorem Jf(d mk r:Nat)(l:List Nat)(u:St)(h:u[r]?=some (.inst .jA []))(hb:∀b∈l,b<256)(hl:l.length<=hV):
  af (d+1) mk .tA [.ref r,.bytes l] u=.ok .none (u.set r (dq (cK l) (8*l.length) 0)):=by
 refine d5 λGG Y=>?_
 have L:=Pa (f:=body ⟨af d,u.length⟩ (.ah 2) [.ig (.aS (.ah 0) .vy) .or (.aQ .qQ (.ah 2) (.aS (.ah 0) .count)),.ig (.aS (.ah 0) .count) .ei (.ai 8)]) (sK:=none)
  (λrem E re=>∃(rl:List Nat) (w c:Nat) (x:V),rem=rl.map (λn:Nat=>V.int n)/\E=[.ref r,.bytes l,x]/\re=u.set r (dq w c 0)/\w<2^c/\c+8*rl.length=8*l.length/\w+2^c*cK rl=cK l/\∀b∈rl,b<256)
  (λJ J J J=>rfl) (by
   rintro v vs E re ⟨rl,w,c,x,e,rfl,rfl,hw,hc,hv,hr⟩;refine d5 λGG Y=>?_
   cases rl with
   | nil=>exact nomatch e
   | cons b rl=>
    cases e;have hb:=hr b (.head _);have hi:(u.set r (dq w c 0))[r]?=some (.inst .jA [(.vy,.int w),(.count,.int c),(.at,.int (0))]):=fT h;have h1:binI .qQ b c=some ((b*2^c:Nat):Int):=by
     exact yi (aK hb (aa rfl)) (ae (hc▸aW c _) (ae (bx 8 hl) (aa rfl)))
    have h2:=oY w (b*2^c)
    have e:w|||b*2^c=w+b*2^c:=by
     rw[Cc,b9,<-A6];exact(pg hw _).symm
    rw[e]at h2;have h3:binI .ei c 8=some ((c+8:Nat):Int):=rfl;refine Y ?_;refine⟨.next,[.ref r,.bytes l,.int b],u.set r (dq (w+b*2^c) (c+8) 0),cA rfl rfl ?_,.inl rfl,rl,w+b*2^c,c+8,.int b,rfl,rfl,rfl,?_,?_,?_,λb' h=>hr b' (.tail _ h)⟩
    .simp only[show u.set r (dq (w+b*2^c) (c+8) 0)=((u.set r (dq w c 0)).set r (dq (w+b*2^c) c 0)).set r (dq (w+b*2^c) (c+8) 0) by rw[dJ,dJ]];refine oh (ag rfl) hi rfl (df (ag rfl) (bg (ag rfl) hi rfl) h1) h2 hi rfl ?_;refine oh (ag rfl) (fT hi) rfl bh h3 (fT hi) rfl ?_;exact dQ
    .simp only[ko];refine aq (pj hw _) ?_;rw[b9,c9];exact bx _ hb
    .exact(dA c 8 _).trans ((aM (c+·) (b9 8 _)).trans hc)
    .simp only[<-hv,ko];show _=w+2^c*(b+256*cK rl);simp only[wA,c9 b,xO,dA])
  ⟨l,0,0,.av,rfl,rfl,rfl,by decide,cx _,by simp only[cx,qj,Ce],hb⟩
 obtain⟨sw,re,e,rl,w,c,x,e1,rfl,rfl,hw,hc,hv,hr⟩:=L;obtain rfl:rl=[]:=by cases rl<;>first | rfl | cases e1
 simp only[show u.set r (dq 0 0 0)=((u.set r (.inst .jA [(.vy,.int 0)])).set r (.inst .jA [(.vy,.int 0),(.count,.int 0)])).set r (dq 0 0 0) by rw[dJ,dJ]]at e;refine Y ?_;apply b6 qF [.ref r,.bytes l,.av] rfl rfl rfl rfl
 .refine uS bh (ag rfl) h rfl rfl ?_;refine uS bh (ag rfl) (fT h) rfl rfl ?_;refine uS bh (ag rfl) (fT (fT h)) rfl rfl ?_;apply iQ
  .exact ag rfl
  .exact aF hl
  .exact e
  .exact dQ
 .show RE.ok _ _=_
  rw[br (by simp)];simp only[Lr,pn,Ki,Au]at hv hc;rw[hv,hc];rfl
theorem pM(a c:Int)(n:Nat):ie a c n=(aI n).map λi:Nat=>V.int (a+c*i):=by
 induction n generalizing a with
 | zero=>rfl
 | succ n ih=>
  simp only[tW,cN,dY,tK,ih (a+c)]
  congr 1
  .congr 1;simp
  .refine fV λi J=>?_
   congr 1
   simp only[Nat.succ_eq_add_one,gF,Int.mul_add];lia
theorem rb{f:V->St->RE (List V)}{sK:Option (Nat×O)}{u:St}(g:V->V)(S:same sK u=true):∀ {vs:List V},(∀v∈vs,f v u=.ok [g v] u)->compLoop f sK vs u=.ok (vs.map g) u
 | [],_=>aF S
 | v::vs,h=>by
  have e:compLoop f sK (v::vs) u=match f v u with
   | .ok l u=>(match compLoop f sK vs u with
    | .ok l' u=>.ok (l++l') u
    | _=>.cn)
   | _=>.cn:=aF S
  refine e.trans ?_;rw[h v (.head _)]
  dsimp only
  rw[rb g S λv h'=>h v (.tail _ h')]
  rfl
theorem wM{C:Cx}{E:List V}{u po:St}{xL it:ME}{s:Nat}{x:V}{sK:Option (Nat×O)}{vs:List V}(g:V->V)(hi:Ev C it E u x po)(Tl:fU x po=some (sK,vs))(S:same sK po=true)
  (h:∀v∈vs,Ev C xL (E.set s v) po (g v) po/\(g v).cD=true) (hl:vs.length<=hV):Ev C (.gu xL s it none) E u (.ref po.length) (po++[.list (vs.map g)]):=
 ⟨(by
  rw[hi.eq,RE.cV,Tl]
  dsimp only
  rw[rb g S λv hv=>show(ev C xL (E.set s v) po).bind (λr u=>if r.cD then .ok [r] u else .cn)=_ by rw[(h v hv).1.eq,RE.cV,aF (h v hv).2],RE.cV,aF (by rw[aB];exact hl)]
  rfl:(ev C it E u).bind (λx u=>match fU x u with
  | none=>.cn
  | some (sK,vs)=>(compLoop (λv u=>(QM C none (E.set s v) u).bind λt u=>if t then(ev C xL (E.set s v) u).bind λr u=>if r.cD then .ok [r] u else .cn else .ok [] u) sK vs u).bind λl u=>
    if l.length<=hV then alloc (.list l) u else .cn)=_)⟩
theorem zd:∀ {l:List Nat},(∀b∈l,b<256)->qV (l.map λn:Nat=>V.int n)=some l
 | [],_=>rfl
 | b::l,h=>by
  have hb:=h b (.head _)
  show(if 0<=(b:Int)/\(b:Int)<256 then(qV (l.map λn:Nat=>V.int n)).map ((b:Int).toNat::·)else none)=_
  refine(aF (by lia)).trans ?_;exact aM _ (zd λb h'=>h b (.tail _ h'))
theorem td{u:St}{a:Nat}{l:List Nat}(h:u[a]?=some (.list (l.map λn:Nat=>V.int n)))(hl:l.length<=hV)(hb:∀b∈l,b<256):builtin .bytes [.ref a] u=.ok (.bytes l) u:=by
 show dc ((u[a]?).bind O.lO) (λvs=>dT (vs.length<=hV) (dc (qV vs) λl=>RE.ok (V.bytes l) u))=_
 rw[h];show(if(l.map λn:Nat=>V.int n).length<=hV then _ else _)=_;refine(aF (by rw[aB];exact hl)).trans ?_;rw[zd hb];rfl
noncomputable def nS(w n:Nat):List Nat:=(aI n).map λi=>w/2^(8*i)%256
theorem dR(u:St)(o:O):(u++[o])[u.length]?=some o:=by simp
theorem Ju(d mk r w c:Nat)(u:St)(h:u[r]?=some (Hq w c))(hc:c<=1000):af (d+1) mk .qK [.ref r] u=.ok (.bytes (nS w ((c+7)/8))) u:=by
 have hok:Bj 0 c 8=true:=PX (aa rfl) (ae hc (aa rfl)) (bc rfl) (aa rfl)
 have hr:mG [.int 0,.int c,.int 8]=some (.gV 0 c 8):=aF hok
 have ht:gD 0 c 8=(c+7)/8:=by have:=yz (a:=0) (n:=c) (c:=7);rwa [cx]at this
 have hl:(c+7)/8<=4096:=ae (S8 _ _) (ae (bI hc 7) (aa rfl))
 have Tl:fU (.gV 0 c 8) u=some (none,(aI ((c+7)/8)).map λi:Nat=>V.int ((8*i:Nat))):=by
  show(if Bj 0 c 8=true/\gD 0 c 8<=hV then some (none,ie 0 8 (gD 0 c 8))else none)=_
  rw[ht,aF ⟨hok,hl⟩,pM]
  congr 2
  refine fV λi J=>?_
  show V.int _=V.int _
  exact aM V.int (Av _)
 have hg:(((aI ((c+7)/8)).map λi:Nat=>V.int ((8*i:Nat))).map λv=>match v with | .int i=>V.int ((w/2^i.toNat%256:Nat)) | v=>v)=(nS w ((c+7)/8)).map λn:Nat=>V.int n:=by
  rw[nS,dY,dY];rfl
 have hcomp:Ev ⟨af d,u.length⟩ (.gu (.aQ .and (.aQ .sm (.aS (.ah 0) .vy) (.ah 1)) (.ai 255)) 1 (.gV [.ai 0,.aS (.ah 0) .count,.ai 8]) none) [.ref r,.av] u (.ref u.length) (u++[.list ((nS w ((c+7)/8)).map λn:Nat=>V.int n)]):=by
  rw[<-hg];refine wM (λv=>match v with | .int i=>V.int ((w/2^i.toNat%256:Nat)) | v=>v) (iR (ak bh rfl (ak (bg (ag rfl) h rfl) rfl (ak bh rfl aY))) hr) Tl rfl (λv hv=>?_) (by simp only[aB,bV];exact hl);refine cP (bj.mp hv) λi=>cJ λ_ zn=>?_;subst zn
  have h1:binI .and ((w/2^(8*i):Nat)) 255=some ((w/2^(8*i)%256:Nat):Int):=by exact(fP _ 8)▸(iX _ 255)
  have h2:=th w (8*i)
  refine⟨?_,rfl⟩;exact df (df (bg (ag rfl) h rfl) (ag rfl) h2) bh h1
 have hb:=td (dR u (.list ((nS w ((c+7)/8)).map λn:Nat=>V.int n))) (by simp only[nS,aB,bV];exact hl) (λb hb=>by
  refine cP (bj.mp hb) λi=>cJ λ_ zn=>?_;subst zn
  exact dK _ (aa rfl))
 apply b6 oX [.ref r,.av] rfl rfl rfl rfl
 .exact dN (pC (ak hcomp rfl aY) hb)
 .exact aM _ (cR rfl)
theorem JG(d mk r w c a:Nat)(u:St)(h:u[r]?=some (dq w c a))(h1:c<a+8)(h2:w/2^a=0):af (d+1) mk .mA [.ref r] u=.ok .none u:=by
 apply b6 kD [.ref r] rfl rfl rfl rfl
 .apply cu
  .exact dg (df (bg (ag rfl) h rfl) (bg (ag rfl) h rfl) rfl) (u6 bh)
  .exact bP (by lia)
  apply cu
  .exact j9 (df (bg (ag rfl) h rfl) (bg (ag rfl) h rfl) (th w a)) rfl
  .rw[h2];rfl
  exact dQ
 .exact aM _ aU
theorem GI(d mk r w c a:Nat)(u:St)(h:u[r]?=some (dq w c a))(h1:c<a+8->w/2^a≠0):af (d+1) mk .mA [.ref r] u=.fY u:=by
 refine(call_exc (sw:=[.ref r]) kD [.ref r] rfl rfl rfl rfl ?_).trans (aM _ aU);by_cases hc:c<a+8
 .apply cu
  .exact dg (df (bg (ag rfl) h rfl) (bg (ag rfl) h rfl) rfl) (u6 bh)
  .exact bP (by lia)
  apply de
  .exact j9 (df (bg (ag rfl) h rfl) (bg (ag rfl) h rfl) (th w a)) rfl
  .exact SM (h1 hc)
  apply jh;exact kL bh
 .apply de
  .exact dg (df (bg (ag rfl) h rfl) (bg (ag rfl) h rfl) rfl) (u6 bh)
  .exact bp (by lia)
  apply jh;exact kL bh
noncomputable def rd(w a n:Nat):Nat:=w/2^a%2^n
theorem j3(w a n:Nat):rd w a n<2^n:=dK _ (eW n)
theorem kZ{u:St}{r:Nat}{o:O}(h:u[r]?=some o):u.set r o=u:=by
 refine cP (aJ.mp h) λh1 h2=>?_
 exact h2▸(List.set_getElem_self h1)
def wQ(n:Nat):Prop:=n=12\/n=20\/n=24\/n=25
theorem Ih{n:Nat}:aC n<64:=by unfold aC;split<;>decide
theorem FR(d mk r g w c a size:Nat)(fs:List (eM×V))(u:St)(h:u[r]?=some (dq w c a))(hg:u[g]?=some (.inst .eE fs))(S:hP .size fs=some (.int size))(hrg:r≠g)(hz:wQ size):
  (a+aC size<=c/\rd w a (aC size)<size/\af (d+2) mk .mU [.ref r,.ref g] u=.ok (.int (rd w a (aC size))) (u.set r (dq w c (a+aC size)))) \/
  ((c<a+aC size\/size<=rd w a (aC size))/\∃a',af (d+2) mk .mU [.ref r,.ref g] u=.fY (u.set r (dq w c a'))):=by
 have hw:=yF d u.length size u hz
 by_cases hc:a+aC size<=c
 .have ht:af (d+1) u.length .dj [.ref r,.int (aC size)] u=.ok (.int (rd w a (aC size))) (u.set r (dq w c (a+aC size))):=tH d u.length r w c a (aC size) u h Ih hc
  by_cases hv:rd w a (aC size)<size
  .refine .inl ⟨hc,hv,?_⟩;apply b6 mM [.ref r,.ref g,.av] rfl rfl rfl rfl
   .refine bG (fN (ag rfl) h rfl (ak (bw (ak (bg (ag rfl) hg S) rfl aY) hw) rfl aY) ht) rfl rfl ?_;apply cu
    .exact dg (ag rfl) (u6 (bg (ag rfl) (fS hrg hg) S))
    .exact bP (by lia)
    exact dN (ag rfl)
   .show RE.ok _ _=_
    exact aM _ (br (by simp))
  .refine .inr ⟨.inr (bZ hv),a+aC size,?_⟩;refine(call_exc mM [.ref r,.ref g,.av] (sw:=[.ref r,.ref g,.int (rd w a (aC size))]) rfl rfl rfl rfl ?_).trans (aM _ (br (by simp)));refine bG (fN (ag rfl) h rfl (ak (bw (ak (bg (ag rfl) hg S) rfl aY) hw) rfl aY) ht) rfl rfl ?_;apply de
   .exact dg (ag rfl) (u6 (bg (ag rfl) (fS hrg hg) S))
   .exact bp (by lia)
   apply jh;exact ag rfl
 .refine .inr ⟨.inl (bq hc),a,?_⟩;have ht:=kA d u.length r w c a (aC size) u h (bq hc);rw[kZ h];refine(call_exc mM [.ref r,.ref g,.av] (sw:=[.ref r,.ref g,.av]) rfl rfl rfl rfl ?_).trans (aM _ aU);refine ip (oN (ag rfl) h rfl (ak (bw (ak (bg (ag rfl) hg S) rfl aY) hw) rfl aY) ht)
noncomputable def lF(w a:Nat):Nat:=if rd w a 1=0 then 1 else 5
noncomputable def f7(w a:Nat):Nat:=if rd w a 1=0 then 0 else rd w (a+4) 1*8+(rd w (a+1) 3+1)
def GW(w a:Nat):Prop:=rd w a 1=0\/rd w (a+1) 3+1<=5
theorem KS(d mk r w c a:Nat)(sq:Int)(u:St)(h:u[r]?=some (dq w c a)):
  (a+lF w a<=c/\GW w a/\af (d+2) mk .qp [.ref r,.int sq] u=.ok (.int (f7 w a)) (u.set r (dq w c (a+lF w a)))) \/
  ((c<a+lF w a\/¬GW w a)/\∃a',af (d+2) mk .qp [.ref r,.int sq] u=.fY (u.set r (dq w c a'))):=by
 unfold lF f7 GW;by_cases h1:a+1<=c
 .have t1:af (d+1) u.length .dj [.ref r,.int (1:Nat)] u=.ok (.int (rd w a 1)) (u.set r (dq w c (a+1))):=tH d u.length r w c a 1 u h (by decide) h1
  by_cases hb:rd w a 1=0
  .refine .inl ⟨by rw[aF hb];exact h1,.inl hb,?_⟩;rw[aF hb,aF hb];apply b6 jM [.ref r,.int sq,.av] rfl rfl rfl rfl
   .apply de
    .exact dg (fN (ag rfl) h rfl ⟨rfl⟩ t1) (wi bh)
    .exact UD hb
    exact dN (dn rfl)
   .show RE.ok _ _=_
    exact aM _ (br (by simp))
  .rw[aZ hb,aZ hb];refine d5 λGG Y=>?_
   have g1:(u.set r (dq w c (a+1)))[r]?=some (dq w c (a+1)):=fT h
   by_cases h2:a+1+3<=c
   .have t2:af (d+1) u.length .dj [.ref r,.int (3:Nat)] (u.set r (dq w c (a+1)))=.ok (.int (rd w (a+1) 3)) ((u.set r (dq w c (a+1))).set r (dq w c (a+1+3))):=tH d u.length r w c (a+1) 3 _ g1 (aa rfl) h2
    simp only[dJ]at t2;have ev2:Ev ⟨af (d+1),u.length⟩ (.aQ .ei (.jt (.ah 0) .take [.cW .qI]) (.cW .An)) [.ref r,.int sq,.av] (u.set r (dq w c (a+1))) (.int ((rd w (a+1) 3+1:Nat))) (u.set r (dq w c (a+4))):=
     df (fN (ag rfl) g1 rfl (ak (dn rfl) rfl aY) t2) (dn rfl) rfl
    have g2:(u.set r (dq w c (a+4)))[r]?=some (dq w c (a+4)):=fT h
    by_cases hk:rd w (a+1) 3+1<=5
    .by_cases h3:a+4+1<=c
     .have t3:af (d+1) u.length .dj [.ref r,.int (1:Nat)] (u.set r (dq w c (a+4)))=.ok (.int (rd w (a+4) 1)) ((u.set r (dq w c (a+4))).set r (dq w c (a+4+1))):=tH d u.length r w c (a+4) 1 _ g2 (by decide) h3
      simp only[dJ]at t3;have t4:=oB d u.length (rd w (a+4) 1) (rd w (a+1) 3+1) (u.set r (dq w c (a+5)));refine Y ?_;refine .inl ⟨h3,.inr hk,?_⟩;apply b6 jM [.ref r,.int sq,.av] rfl rfl rfl rfl
      .apply cu
       .exact dg (fN (ag rfl) h rfl ⟨rfl⟩ t1) (wi bh)
       .exact Dx hb
       refine bG ev2 rfl rfl ?_;apply cu
       .exact⟨rfl⟩
       .exact Aq (m:=5) hk
       exact dN (bw (ak (fN (ag rfl) g2 rfl ⟨rfl⟩ t3) rfl ⟨rfl⟩) t4)
      .show RE.ok _ _=_
       exact aM _ (br (by simp))
     .refine Y ?_;refine .inr ⟨.inl (bq h3),a+4,?_⟩;have t3:=kA d u.length r w c (a+4) 1 _ g2 (bq h3);refine(call_exc jM [.ref r,.int sq,.av] (sw:=[.ref r,.int sq,.int ((rd w (a+1) 3+1:Nat))]) rfl rfl rfl rfl ?_).trans (aM _ (br (by simp)));apply cu
      .exact dg (fN (ag rfl) h rfl ⟨rfl⟩ t1) (wi bh)
      .exact Dx hb
      refine bG ev2 rfl rfl ?_;apply cu
      .exact⟨rfl⟩
      .exact Aq (m:=5) hk
      exact Rz (Pn (Mt (oN (ag rfl) g2 rfl ⟨rfl⟩ t3)))
    .refine Y ?_;refine .inr ⟨.inr λq=>q.elim hb hk,a+4,?_⟩;refine(call_exc jM [.ref r,.int sq,.av] (sw:=[.ref r,.int sq,.int ((rd w (a+1) 3+1:Nat))]) rfl rfl rfl rfl ?_).trans (aM _ (br (by simp)));apply cu
     .exact dg (fN (ag rfl) h rfl ⟨rfl⟩ t1) (wi bh)
     .exact Dx hb
     refine bG ev2 rfl rfl ?_;apply de
     .exact⟨rfl⟩
     .exact PY (bq hk)
     exact jh (ag rfl)
   .refine Y ?_;refine .inr ⟨.inl (nq (bq h2)),a+1,?_⟩;have t2:=kA d u.length r w c (a+1) 3 _ g1 (bq h2);refine(call_exc jM [.ref r,.int sq,.av] (sw:=[.ref r,.int sq,.av]) rfl rfl rfl rfl ?_).trans (aM _ (br (by simp)));apply cu
    .exact dg (fN (ag rfl) h rfl ⟨rfl⟩ t1) (wi bh)
    .exact Dx hb
    exact ip (Mx (oN (ag rfl) g1 rfl (ak (dn rfl) rfl aY) t2))
 .refine .inr ⟨.inl (by split;exact bq h1;exact aq (bq h1) (bu (by decide) a)),a,?_⟩;have t1:=kA d u.length r w c a 1 u h (bq h1);simp only[kZ h];refine(call_exc jM [.ref r,.int sq,.av] (sw:=[.ref r,.int sq,.av]) rfl rfl rfl rfl ?_).trans (aM _ aU);exact Qk (QO (oN (ag rfl) h rfl ⟨rfl⟩ t1))
theorem Gb{x y n:Nat}(h:x<2^n):x|||y*2^n=x+y*2^n:=by
 rw[Cc,b9,<-A6];exact(pg h _).symm
theorem D8(w a m n:Nat):rd w a (m+n)=rd w a m+rd w (a+m) n*2^m:=by
 unfold rd;rw[ko,VZ,gx,<-ko,c9 (2^m)]
theorem Pe{n k:Nat}{x y:Int}{u:St}(h:u[k]?=some (.eY [.int x,.int y]))(hk:¬k<n):finish n (.ref k) u=.ok (.ref n) (u.take n++[.eY [.int x,.int y]]):=by
 unfold finish;dsimp only;refine(aZ hk).trans ?_;rw[h];rfl
theorem Mk{n k:Nat}{vs:List V}{u:St}(h:u[k]?=some (.list vs))(hk:¬k<n)(hv:vs.all (!·.isRef)=true):finish n (.ref k) u=.ok (.ref n) (u.take n++[.list vs]):=by
 unfold finish;dsimp only;refine(aZ hk).trans ?_;rw[h];exact aF hv
theorem FS(d mk r w c a:Nat)(u:St)(h:u[r]?=some (dq w c a)):
  (a+23<=c/\rd w (a+6) 16≠0/\af (d+2) mk .pL [.ref r] u=.ok (.ref u.length) (u.set r (dq w c (a+23))++[.eY [.int (rd w a 6+rd w (a+22) 1*2^6:Nat),.int (rd w (a+6) 16:Nat)]])) \/
  ((c<a+23\/rd w (a+6) 16=0)/\∃a',af (d+2) mk .pL [.ref r] u=.fY (u.set r (dq w c a'))):=by
 refine d5 λGG Y=>?_
 have g:∀x,(u.set r (dq w c x))[r]?=some (dq w c x):=λx=>fT h
 have tk:∀x n:Nat,n<64->x+n<=c->af (d+1) u.length .dj [.ref r,.int n] (u.set r (dq w c x))=.ok (.int (rd w x n)) (u.set r (dq w c (x+n))):=λx n hn hx=>by
  simp only[tH d u.length r w c x n _ (g x) hn hx,dJ];rfl
 have ex:=λx n hx=>kA d u.length r w c x n _ (g x) hx
 have cut:∀x,(u.set r (dq w c x)).take u.length=u.set r (dq w c x):=λx=>br (by simp)
 have h0:=(kZ h).symm
 have hL:(u.set r (dq w c a)).length=u.length:=aV
 have done:∀ {sw:List V} {x:Nat},(Xs ⟨af (d+1),u.length⟩ ke [.ref r,.av,.av] (u.set r (dq w c a)) (.fY sw (u.set r (dq w c x))))->af (d+2) mk .pL [.ref r] u=.fY (u.set r (dq w c x)):=λ{sw x} hx=>by
  rw[<-h0]at hx;exact(call_exc ke [.ref r,.av,.av] rfl rfl rfl rfl hx).trans (by rw[cut])
 by_cases c1:a+6<=c
 .have t1:af (d+1) u.length .dj [.ref r,.int 6] _=_:=tk a 6 (aa rfl) c1
  by_cases c2:a+6+8<=c
  .have t2:af (d+1) u.length .dj [.ref r,.int 8] _=_:=tk (a+6) 8 (by decide) c2
   by_cases c3:a+14+8<=c
   .have t3:af (d+1) u.length .dj [.ref r,.int 8] _=_:=tk (a+14) 8 (by decide) c3
    have l2:=j3 w (a+6) 8
    have l3:=j3 w (a+14) 8
    have s3:binI .qQ ((rd w (a+14) 8)) 8=some ((rd w (a+14) 8*2^8:Nat):Int):=yi (aK l3 (aa rfl)) (aa rfl)
    have o3:=oY (rd w (a+6) 8) (rd w (a+14) 8*2^8)
    simp only[Gb l2,<-D8 w (a+6) 8 8]at o3;by_cases c4:a+22+1<=c
    .have t4:af (d+1) u.length .dj [.ref r,.int 1] _=_:=tk (a+22) 1 (aa rfl) c4
     have l1:=j3 w a 6
     have l4:=j3 w (a+22) 1
     have s4:binI .qQ ((rd w (a+22) 1)) 6=some ((rd w (a+22) 1*2^6:Nat):Int):=yi (aK l4 (aa rfl)) (aa rfl)
     have o4:=oY (rd w a 6) (rd w (a+22) 1*2^6)
     rw[Gb l1]at o4;have g1:=g a;have g2:=g (a+6);have g3:=g (a+14);have g4:=g (a+22);have wD:∀ {R:RX},Xs ⟨af (d+1),u.length⟩ [.fB (.cy (.ah 2) [.eq] [(.ai 0)]) [.raise (.un .pD (.ai 1))] [],.ret (.eY [(.ah 1),(.ah 2)])] [.ref r,.int ((rd w a 6+rd w (a+22) 1*2^6:Nat)),.int (rd w (a+6) 16)] (u.set r (dq w c (a+23))) R ->
       Xs ⟨af (d+1),u.length⟩ ke [.ref r,.av,.av] (u.set r (dq w c a)) R:=λ{R} hR=>by
      refine bG (fN (ag rfl) g1 rfl ⟨rfl⟩ t1) rfl rfl ?_;refine bG (fN (ag rfl) g2 rfl ⟨rfl⟩ t2) rfl rfl ?_;refine gU rfl (df (fN (ag rfl) g3 rfl ⟨rfl⟩ t3) (dn rfl) s3) o3 rfl ?_;refine gU rfl (df (fN (ag rfl) g4 rfl ⟨rfl⟩ t4) (dn rfl) s4) o4 rfl ?_;exact hR
     by_cases hf:rd w (a+6) 16=0
     .refine Y ?_;refine .inr ⟨.inr hf,a+23,done (sw:=[.ref r,.int ((rd w a 6+rd w (a+22) 1*2^6:Nat)),.int (rd w (a+6) 16)]) (wD ?_)⟩;apply de
      .exact dg (ag rfl) (wi bh)
      .exact UD hf
      apply jh;exact kL bh
     .refine Y ?_;refine .inl ⟨c4,hf,?_⟩;apply b6 ke [.ref r,.av,.av] rfl rfl rfl rfl
      .rw[h0];rw[hL];apply wD;apply cu
       .exact dg (ag rfl) (wi bh)
       .exact Dx hf
       exact dN ⟨rfl⟩
      .refine(Pe (dR _ _) (by simp)).trans ?_;rw[cR (by simp)]
    .refine Y ?_;refine .inr ⟨.inl (bq c4),a+22,done (sw:=[.ref r,.int (rd w a 6),.int (rd w (a+6) 16)]) ?_⟩;have t4:af (d+1) u.length .dj [.ref r,.int 1] _=_:=ex (a+22) 1 (bq c4);have g1:=g a;have g2:=g (a+6);have g3:=g (a+14);have g4:=g (a+22);refine bG (fN (ag rfl) g1 rfl ⟨rfl⟩ t1) rfl rfl ?_;refine bG (fN (ag rfl) g2 rfl ⟨rfl⟩ t2) rfl rfl ?_;refine gU rfl (df (fN (ag rfl) g3 rfl ⟨rfl⟩ t3) (dn rfl) s3) o3 rfl ?_;exact Bc rfl (Mx (oN (ag rfl) g4 rfl ⟨rfl⟩ t4))
   .refine Y ?_;refine .inr ⟨.inl (nq (bq c3)),a+14,done (sw:=[.ref r,.int (rd w a 6),.int (rd w (a+6) 8)]) ?_⟩;have t3:af (d+1) u.length .dj [.ref r,.int 8] _=_:=ex (a+14) 8 (bq c3);have g1:=g a;have g2:=g (a+6);have g3:=g (a+14);refine bG (fN (ag rfl) g1 rfl ⟨rfl⟩ t1) rfl rfl ?_;refine bG (fN (ag rfl) g2 rfl ⟨rfl⟩ t2) rfl rfl ?_;exact Bc rfl (Mx (oN (ag rfl) g3 rfl ⟨rfl⟩ t3))
  .refine Y ?_;refine .inr ⟨.inl (aq (bq c2) (bu (by decide:14<=23) a)),a+6,done (sw:=[.ref r,.int (rd w a 6),.av]) ?_⟩;have t2:af (d+1) u.length .dj [.ref r,.int 8] _=_:=ex (a+6) 8 (bq c2);have g1:=g a;have g2:=g (a+6);refine bG (fN (ag rfl) g1 rfl ⟨rfl⟩ t1) rfl rfl ?_;exact ip (oN (ag rfl) g2 rfl ⟨rfl⟩ t2)
 .refine Y ?_;refine .inr ⟨.inl (aq (bq c1) (bu (by decide) a)),a,done (sw:=[.ref r,.av,.av]) ?_⟩;have t1:af (d+1) u.length .dj [.ref r,.int 6] _=_:=ex a 6 (bq c1);have g1:=g a;exact ip (oN (ag rfl) g1 rfl ⟨rfl⟩ t1)
noncomputable def d9:List Nat->Nat
 | []=>0
 | b::r=>b+2*d9 r
theorem B5:d9 []=0:=rfl
theorem oq{b:Nat}{r:List Nat}:d9 (b::r)=b+2*d9 r:=rfl
noncomputable def dW(v n:Nat):List Nat:=(aI n).map λj=>v/2^j%2
def nj(L:List Nat):Prop:=∀b∈L,b<2
theorem cz(v n:Nat):(dW v n).length=n:=by simp only[dW,aB,bV]
theorem dw(v n:Nat):nj (dW v n):=λb hb=>by
 refine cP (bj.mp hb) λi=>cJ λ_ zn=>?_;subst zn
 exact dK _ (aa rfl)
theorem vR(v n:Nat):dW v (n+1)=v%2::dW (v/2) n:=by
 unfold dW;simp only[tW,cN,dY]
 congr 1
 .simp
 .refine fV λi J=>?_
  show v/2^(i+1)%2=v/2/2^i%2
  simp only[gx,iZ,c9]
theorem ta(v n:Nat):d9 (dW v n)=v%2^n:=by
 induction n generalizing v with
 | zero=>simp only[qj,VY];rfl
 | succ n ih=>
  simp only[vR,oq,ih,iZ,c9 (2^n),VZ]
theorem tc(L f4:List Nat):d9 (L++f4)=d9 L+d9 f4*2^L.length:=by
 induction L with
 | nil=>simp[B5]
 | cons b L ih=>
  simp only[AK,oq,ih,dh,iZ,wA,dA,c9 (2^L.length),<-xO,<-xO,c9 2 (d9 f4)]
theorem GY{L:List Nat}(h:nj L):d9 L<2^L.length:=by
 induction L with
 | nil=>decide
 | cons b L ih=>
  have h1:=h b (.head _)
  have h2:=ih λb h'=>h b (.tail _ h')
  simp only[oq,dh,iZ];lia
theorem nj.ky{L f4:List Nat}(h:nj L)(k:nj f4):nj (L++f4):=λb hb=>(dk.mp hb).elim (h b) (k b)
noncomputable abbrev wr(L:List Nat):O:=Hq (d9 L) L.length
theorem Li(d mk r v n:Nat)(L:List Nat)(u:St)(h:u[r]?=some (wr L))(hL:nj L)(hn:n<64)(hc:L.length<=1000000):
  af (d+1) mk .fu [.ref r,.int v,.int n] u=.ok .none (u.set r (wr (L++dW v n))):=by
 simp only[RU d mk r (d9 L) L.length v n u h hn (GY hL) hc,wr,tc,ta,aj,cz]
noncomputable def gW(p:Nat):List Nat:=if p=0 then dW 0 1 else dW 1 1++dW (p%8-1) 3++dW (p/8) 1
theorem uB(p:Nat):nj (gW p):=by
 unfold gW
 split
 .exact dw _ _
 .exact((dw _ _).ky (dw _ _)).ky (dw _ _)
theorem Ol(d mk r p:Nat)(L:List Nat)(u:St)(h:u[r]?=some (wr L))(hL:nj L)(hc:L.length<=1000)(hp:p=0\/p%8≠0):
  af (d+2) mk .y0 [.ref r,.int p] u=.ok .none (u.set r (wr (L++gW p))):=by
 have pt:∀f4 (v n:Nat),nj f4->f4.length<=1000000->n<64->af (d+1) u.length .fu [.ref r,.int v,.int n] (u.set r (wr f4))=.ok .none (u.set r (wr (f4++dW v n))):=λf4 v n hM hl hn=>by
  simp only[Li d u.length r v n f4 _ (fT h) hM hn hl,dJ]
 have cut:∀f4,(u.set r (wr f4)).take u.length=u.set r (wr f4):=λf4=>br (by simp)
 have h0:=(kZ h).symm
 by_cases hz:p=0
 .subst hz;have t:af (d+1) u.length .fu [.ref r,.int 0,.int 1] u=.ok .none (u.set r (wr (L++dW 0 1))):=Li d u.length r 0 1 L u h hL (by decide) (ae hc (by decide));apply b6 u9 [.ref r,.int (0:Nat)] rfl rfl rfl rfl
  .apply de
   .exact⟨rfl⟩
   .rfl
   refine gb (fN (ag rfl) h rfl ⟨rfl⟩ t) ?_;exact Kx
  .exact aM _ (cut _)
 .have g0:(u.set r (wr L))[r]?=some (wr L):=fT h
  have g1:(u.set r (wr (L++dW 1 1)))[r]?=some (wr (L++dW 1 1)):=fT h
  have g2:(u.set r (wr (L++dW 1 1++dW (p%8-1) 3)))[r]?=some (wr (L++dW 1 1++dW (p%8-1) 3)):=fT h
  have hl:∀f4 f8:List Nat,(f4++f8).length=f4.length+f8.length:=λf4 f8=>aj
  have t1:af (d+1) u.length .fu [.ref r,.int 1,.int 1] _=_:=pt L 1 1 hL (ae hc (by decide)) (by decide)
  have k1:=yp d u.length p (u.set r (wr (L++dW 1 1)))
  have k2:binI .sub ((p%8:Nat)) 1=some ((p%8-1:Nat):Int):=Ng (ed (hp.resolve_left hz))
  have t2:=pt (L++dW 1 1) (p%8-1) 3 (hL.ky (dw _ _)) (by rw[hl];exact ae (bI hc 1) (aa rfl)) (aa rfl)
  have k3:=CB d u.length p (u.set r (wr (L++dW 1 1++dW (p%8-1) 3)))
  have t3:af (d+1) u.length .fu [.ref r,.int (p/8:Nat),.int 1] _=_:=pt (L++dW 1 1++dW (p%8-1) 3) (p/8) 1 ((hL.ky (dw _ _)).ky (dw _ _)) (by rw[hl,hl];exact ae (bI hc 4) (aa rfl)) (by decide)
  have e:L++gW p=L++dW 1 1++dW (p%8-1) 3++dW (p/8) 1:=by rw[gW,aZ hz,am,am,am]
  rw[e];apply b6 u9 [.ref r,.int p] rfl rfl rfl rfl
  .apply cu
   .exact⟨rfl⟩
   .exact Dx hz
   rw[h0];refine gb (fN (ag rfl) g0 rfl ⟨rfl⟩ t1) ?_;refine gb (fN (ag rfl) g1 rfl (ak (df (bw (ak (ag rfl) rfl aY) k1) (dn rfl) k2) rfl ⟨rfl⟩) t2) ?_;refine gb (fN (ag rfl) g2 rfl (ak (bw (ak (ag rfl) rfl aY) k3) rfl ⟨rfl⟩) t3) ?_;exact dQ
  .exact aM _ (cut _)
theorem TL(d mk r g s size:Nat)(fs:List (eM×V))(L:List Nat)(u:St)(h:u[r]?=some (wr L))(hL:nj L)(hc:L.length<=1000)(hg:u[g]?=some (.inst .eE fs))(S:hP .size fs=some (.int size))(hz:wQ size):
  af (d+2) mk .mn [.ref r,.ref g,.int s] u=.ok .none (u.set r (wr (L++dW s (aC size)))):=by
 have hw:=yF d u.length size u hz
 have t:=Li d u.length r s (aC size) L u h hL Ih (by lia)
 apply b6 wm [.ref r,.ref g,.int s] rfl rfl rfl rfl
 .refine gb (fN (ag rfl) h rfl (ak (ag rfl) rfl (ak (bw (ak (bg (ag rfl) hg S) rfl aY) hw) rfl aY)) t) ?_;exact dQ
 .exact aM _ (br (by simp))
noncomputable def eO(half full:Nat):List Nat:=dW half 6++dW full 8++dW (full/2^8) 8++dW (half/2^6) 1
theorem Jo(d mk r half full:Nat)(L:List Nat)(u:St)(h:u[r]?=some (wr L))(hL:nj L)(hc:L.length<=1000):
  af (d+2) mk .yZ [.ref r,.int half,.int full] u=if half<128/\1<=full/\full<65536 then .ok .none (u.set r (wr (L++eO half full)))else .fY u:=by
 refine d5 λGG Y=>?_
 have pt:∀f4 (v n:Nat),nj f4->f4.length<=1000000->n<64->af (d+1) u.length .fu [.ref r,.int v,.int n] (u.set r (wr f4))=.ok .none (u.set r (wr (f4++dW v n))):=λf4 v n hM hl hn=>by
  simp only[Li d u.length r v n f4 _ (fT h) hM hn hl,dJ]
 have h0:=(kZ h).symm
 by_cases h1:half<128
 .have b1:Bo ⟨af (d+1),u.length⟩ (.any [(.cy (.ah 1) [.lt] [(.ai 0)]),(.cy (.ah 1) [.ge] [(.cW .vi)])]) [.ref r,.int half,.int full] u false u:=by
   exact gh ((dg (ag rfl) (pF bh)).to (Aq (fe _))) (gh ((dg (ag rfl) (u6 (dn rfl))).to (Nh h1)) rz)
  by_cases h2:1<=full/\full<65536
  .refine Y ?_;rw[aF ⟨h1,h2⟩];have b2:Bo ⟨af (d+1),u.length⟩ (.any [(.cy (.ah 2) [.lt] [(.ai 1)]),(.cy (.ah 2) [.ge] [(.cW .vj)])]) [.ref r,.int half,.int full] u false u:=by
    exact gh ((dg (ag rfl) (pF bh)).to (Aq h2.1)) (gh ((dg (ag rfl) (u6 (dn rfl))).to (Nh h2.2)) rz)
   have hl:∀f4 f8:List Nat,(f4++f8).length=f4.length+f8.length:=λf4 f8=>aj
   have B1:=hL.ky (dw half 6)
   have B2:=B1.ky (dw full 8)
   have B3:=B2.ky (dw (full/2^8) 8)
   have g0:(u.set r (wr L))[r]?=some (wr L):=fT h
   have g1:(u.set r (wr (L++dW half 6)))[r]?=some (wr (L++dW half 6)):=fT h
   have g2:(u.set r (wr (L++dW half 6++dW full 8)))[r]?=some (wr (L++dW half 6++dW full 8)):=fT h
   have g3:(u.set r (wr (L++dW half 6++dW full 8++dW (full/2^8) 8)))[r]?=some (wr (L++dW half 6++dW full 8++dW (full/2^8) 8)):=fT h
   have t1:af (d+1) u.length .fu [.ref r,.int half,.int 6] _=_:=pt _ half 6 hL (ae hc (aa rfl)) (aa rfl)
   have t2:af (d+1) u.length .fu [.ref r,.int full,.int 8] _=_:=pt _ full 8 B1 (by rw[hl];exact ae (bI hc 6) (aa rfl)) (by decide)
   have t3:af (d+1) u.length .fu [.ref r,.int (full/2^8:Nat),.int 8] _=_:=pt _ (full/2^8) 8 B2 (by rw[hl,hl];exact ae (bI hc 14) (aa rfl)) (by decide)
   have t4:af (d+1) u.length .fu [.ref r,.int (half/2^6:Nat),.int 1] _=_:=pt _ (half/2^6) 1 B3 (by simp only[hl,hl,hl,cz,cz,cz];exact ae (bI hc 22) (aa rfl)) (aa rfl)
   have e:L++eO half full=L++dW half 6++dW full 8++dW (full/2^8) 8++dW (half/2^6) 1:=by simp only[eO];simp only[am]
   simp only[e];apply b6 nY [.ref r,.int half,.int full] rfl rfl rfl rfl
   .refine cu b1 rfl (cu b2 rfl ?_);rw[h0];refine gb (fN (ag rfl) g0 rfl ⟨rfl⟩ t1) ?_;refine gb (fN (ag rfl) g1 rfl ⟨rfl⟩ t2) ?_;refine gb (fN (ag rfl) g2 rfl ⟨rfl⟩ t3) ?_;refine gb (fN (ag rfl) g3 rfl ⟨rfl⟩ t4) ?_;exact dQ
   .exact aM _ (br (by simp))
  .refine Y ?_;rw[aZ (λq=>h2 q.2)];have b2:Bo ⟨af (d+1),u.length⟩ (.any [(.cy (.ah 2) [.lt] [(.ai 1)]),(.cy (.ah 2) [.ge] [(.cW .vj)])]) [.ref r,.int half,.int full] u true u:=by
    by_cases h3:1<=full
    .exact gh ((dg (ag rfl) (pF bh)).to (Aq h3)) (gh ((dg (ag rfl) (u6 (dn rfl))).to (PZ (bZ λq=>h2 ⟨h3,q⟩))) ⟨rfl,rfl⟩)
    .exact gh ((dg (ag rfl) (pF bh)).to (PY (bq h3))) ⟨rfl,rfl⟩
   refine(call_exc nY [.ref r,.int half,.int full] (sw:=[.ref r,.int half,.int full]) rfl rfl rfl rfl ?_).trans (aM _ aU);refine cu b1 rfl (de b2 rfl (jh (v:=.int (-1)) ?_));exact kL bh
 .refine Y ?_;rw[aZ (λq=>h1 q.1)];refine d5 λGG Y=>?_
  have b1:Bo ⟨af (d+1),u.length⟩ (.any [(.cy (.ah 1) [.lt] [(.ai 0)]),(.cy (.ah 1) [.ge] [(.cW .vi)])]) [.ref r,.int half,.int full] u true u:=by
   exact gh ((dg (ag rfl) (pF bh)).to (Aq (fe _))) (gh ((dg (ag rfl) (u6 (dn rfl))).to (PZ (bZ h1))) ⟨rfl,rfl⟩)
  refine Y ?_;refine(call_exc nY [.ref r,.int half,.int full] (sw:=[.ref r,.int half,.int full]) rfl rfl rfl rfl ?_).trans (aM _ aU);refine de b1 rfl (jh (v:=.int (-1)) ?_);exact kL bh
noncomputable abbrev aR(l:List Nat):O:=.list (l.map λn:Nat=>V.int n)
theorem lq{l:List Nat}{i x:Nat}(h:l[i]?=some x):(l.map λn:Nat=>V.int n)[((i:Nat):Int).toNat]?=some (.int x):=by
 simp only[gA,cZ,h];rfl
theorem js(l:List Nat)(i x:Nat):(l.map λn:Nat=>V.int n).set ((i:Nat):Int).toNat (.int x)=(l.set i x).map λn:Nat=>V.int n:=by
 simp only[gA,List.map_set]
structure Ad where
 (p g z b k s h:Nat)
structure Pv where
 (aN kinds cQ:List Nat)
 (bL aX:Nat)
 ep:Int
 (half full key:Nat)
noncomputable def mW(A:Ad)(v:Pv):List (eM×V):=[(.qN,.ref A.g),(.Kl,.ref A.z),(.aN,.ref A.b),(.kinds,.ref A.k),(.cQ,.ref A.s),(.bL,.int v.bL),(.aX,.int v.aX),(.ep,.int v.ep),(.half,.int v.half),(.full,.int v.full),(.key,.int v.key),(.yr,.ref A.h)]
structure eV(A:Ad)(v:Pv)(u:St):Prop where
 p:u[A.p]?=some (.inst .gj (mW A v))
 b:u[A.b]?=some (aR v.aN)
 k:u[A.k]?=some (aR v.kinds)
 s:u[A.s]?=some (aR v.cQ)
 h:u[A.h]?=some (.list [])
def Off(A:Ad)(a:Nat):Prop:=A.p≠a/\A.b≠a/\A.k≠a/\A.s≠a
structure Ad.Ok(A:Ad):Prop where
 h:Off A A.h
 pb:A.p≠A.b
 pk:A.p≠A.k
 ps:A.p≠A.s
 bk:A.b≠A.k
 bs:A.b≠A.s
 ks:A.k≠A.s
noncomputable def jJ(A:Ad)(v:Pv)(u:St):St:=(((u.set A.b (aR v.aN)).set A.k (aR v.kinds)).set A.s (aR v.cQ)).set A.p (.inst .gj (mW A v))
theorem F7(A:Ad)(v:Pv)(u:St):(jJ A v u).length=u.length:=by simp[jJ]
theorem uX{A:Ad}{a:Nat}(h:Off A a)(v:Pv)(u:St):(jJ A v u)[a]?=u[a]?:=by
 unfold jJ;refine(bQ h.1).trans ?_;refine(bQ h.2.2.2).trans ?_;refine(bQ h.2.2.1).trans ?_;rw[bQ h.2.1]
theorem eV.put{A:Ad}(K:A.Ok){v:Pv}{u:St}(P:eV A v u)(v':Pv):eV A v' (jJ A v' u):=by
 refine⟨?_,?_,?_,?_,(uX K.h _ _).trans P.h⟩<;>unfold jJ
 .exact fT (fS K.ps.symm (fS K.pk.symm (fS K.pb.symm P.p)))
 .exact fS K.pb (fS K.bs.symm (fS K.bk.symm (fT P.b)))
 .exact fS K.pk (fS K.ks.symm (fT (fS K.bk P.k)))
 .exact fS K.ps (fT (fS K.ks (fS K.bs P.s)))
structure oZ(z:Nat)(u8:Nat->Nat->Nat)(size:Nat)(ok:Nat->Prop)(u:St):Prop where
 wH:∃zf zp rows,u[z]?=some (.inst .rF zf)/\ok z/\hP .k8 zf=some (.ref zp)/\u[zp]?=some (.list rows)/\ok zp /\
  ∀p,p<15->∃tJ zl,rows[p]?=some (.ref tJ)/\ok tJ/\u[tJ]?=some (aR zl)/\∀s,s<size->zl[s]?=some (u8 p s)
noncomputable def dU(u8:Nat->Nat->Nat)(v:Pv)(p s:Nat):Pv:=
 { v with aN:=v.aN.set s p,kinds:=v.kinds.set (p%8) (v.kinds.getD (p%8) 0|||2^s),cQ:=v.cQ.set (p/8) (v.cQ.getD (p/8) 0|||2^s),key:=v.key^^^u8 p s }
theorem yt{l:List Nat}{i:Nat}(h:i<l.length):l[i]?=some (l.getD i 0):=by
 rw[bf,cO h];rfl
theorem NO{C:Cx}{E:List V}{u:St}{o i e:ME}{ss:List MS}{r:RX}{ad n y:Nat}{l:List Nat}(ho:Ev C o E u (.ref ad) u)(hi:Ev C i E u (.int (n:Nat)) u)(hg:u[ad]?=some (aR l))(hn:n<4096)(hl:n<l.length)(h:Ev C e E u (.int (y:Nat)) u)
  (hr:Xs C ss E (u.set ad (aR (l.set n (l.getD n 0|||y)))) r):Xs C (.ig (.sub o i) .or e::ss) E u r:=
 vx ho hi hg (Hl hn) (lq (yt hl)) h (oY _ _) hg (by simp only[aB];exact hl) (by rw[js];exact hr)
theorem vG(d mk p s size:Nat)(u8:Nat->Nat->Nat)(A:Ad)(K:A.Ok)(v:Pv)(u:St)(P:eV A v u)(Z:oZ A.z u8 size (Off A) u)(hp:p<15)(S:s<size)(hz:size<64)(hb:v.aN.length=size)(hk:v.kinds.length=7)(hd:v.cQ.length=2)(h7:p%8<7):
  af (d+2) mk .kM [.ref A.p,.int p,.int s] u=.ok .none (jJ A (dU u8 v p s) u):=by
 refine d5 λGG Y=>?_
 refine nG Z.wH λzf zp rows=>Qi λz1 zo z2 z3 z4 z5=>?_
 refine iJ (z5 p hp) λtJ zl=>mT λz6 z7 z8 z9=>?_
 have hs':=aK (aK S hz) (by decide:64<4096)
 have hp8:p/8<2:=cU (aq hp (aa rfl))
 have offs:∀ {a:Nat} {o x y z:O},Off A a->u[a]?=some o->(((u.set A.b x).set A.k y).set A.s z)[a]?=some o:=λha h=>fS ha.2.2.2 (fS ha.2.2.1 (fS ha.2.1 h))
 refine Y ?_;apply b6 xH [.ref A.p,.int p,.int s,.av] rfl rfl rfl rfl
 .refine bG (df bh (ag rfl) (xl s (aK S hz))) rfl rfl ?_;refine sx (ag rfl) (bg (ag rfl) P.p rfl) (ag rfl) P.b ⟨(Hl hs').1,(Hl hs').2,by simp only[aB,hb];exact S⟩ rfl ?_;rw[js];refine NO (bg (ag rfl) (fS K.pb.symm P.p) rfl) (bw (ak (ag rfl) rfl aY) (yp d u.length p _)) (fS K.bk P.k) (aK h7 (aa rfl)) (hk▸h7) (ag rfl) ?_;refine NO (bg (ag rfl) (fS K.pk.symm (fS K.pb.symm P.p)) rfl) (bw (ak (ag rfl) rfl aY) (CB d u.length p _)) (fS K.ks (fS K.bs P.s)) (aK hp8 (aa rfl)) (hd▸hp8) (ag rfl) ?_;have q5:(((u.set A.b (aR (v.aN.set s p))).set A.k (aR (v.kinds.set (p%8) (v.kinds.getD (p%8) 0|||2^s)))).set A.s (aR (v.cQ.set (p/8) (v.cQ.getD (p/8) 0|||2^s))))[A.p]?=some (.inst .gj (mW A v)):=fS K.ps.symm (fS K.pk.symm (fS K.pb.symm P.p));exact oh (ag rfl) q5 rfl (lT (lT (bg (bg (ag rfl) q5 rfl) (offs zo z1) z2) (ag rfl) (offs z4 z3) rfl (Hl (aK hp (aa rfl))) z6) (ag rfl) (offs z7 z8) rfl (Hl hs') (lq (z9 s S))) (nC v.key (u8 p s)) q5 rfl dQ
 .exact aM _ (br (by simp only[aV,aV,aV,aV];exact cH _))
theorem bv{u N:St}{a:Nat}{o:O}(h:u[a]?=some o):(u++N)[a]?=some o:=by
 refine(ci (aJ.mp h).1).trans ?_;exact h
theorem CC(u:St)(o o':O):(u++[o]).set u.length o'=u++[o']:=by
 refine(uL _ _ (cH _)).trans ?_;rw[uj];rfl
theorem bJ{u N:St}{n i:Nat}{o:O}(hn:u.length=n)(h:N[i]?=some o):(u++N)[n+i]?=some o:=by
 rw[<-hn,iu (aW _ _),dz];exact h
theorem jl{f:V->List V->St->RX}{sK:Option (Nat×O)}{E:List V}{u:St}(h:same sK u=true):forLoop f sK [] E u=.ok .next E u:=aF h
theorem dE{f:V->List V->St->RX}{sK:Option (Nat×O)}{v:V}{vs E sw:List V}{u re:St}{r:RX}(h:same sK u=true)(h1:f v E u=.ok .next sw re)(h2:forLoop f sK vs sw re=r):forLoop f sK (v::vs) E u=r:=by
 have e:forLoop f sK (v::vs) E u=match f v E u with
  | .ok (.ret v) E u=>.ok (.ret v) E u
  | .ok _ E u=>forLoop f sK vs E u
  | .fY E u=>.fY E u
  | .cn=>.cn:=aF h
 refine e.trans ?_;exact h1▸h2
theorem iF{u:St}{a:Nat}{vs:List V}(h:u[a]?=some (.list vs))(hl:vs.length<=hV):fU (.ref a) u=some (some (a,.list vs),vs):=by
 show((u[a]?).bind λo=>match o with
  | .gV a b c=>if Bj a b c/\gD a b c<=hV then some (none,ie a c (gD a b c))else none
  | o=>o.seq?.bind λvs=>if vs.length<=hV then some (some (a,o),vs)else none)=_
 exact h▸(aF hl)
theorem xd{u:St}{a:Nat}{vs:List V}(h:u[a]?=some (.list vs))(hl:vs.length<=hV):builtin .len [.ref a] u=.ok (.int vs.length) u:=by
 show dc ((u[a]?).bind O.uf) (λvs=>dT (vs.length<=hV) (RE.ok (V.int vs.length) u))=_
 exact h▸(aF hl)
theorem dI{u N:St}{i:Nat}{o:O}:(u++N).set (u.length+i) o=u++N.set i o:=by
 refine(uL _ _ (aW _ _)).trans ?_;rw[dz]
theorem yW{C:Cx}{E:List V}{u:St}{e1:ME}{x:V}{n:Nat}(h:Ev C (.list [e1]) E u (.ref u.length) (u++[.list [x]]))(hn:n<=4096){b:ME}(hb:Ev C b E (u++[.list [x]]) (.int n) (u++[.list [x]])):
  Ev C (.aQ .fm (.list [e1]) b) E u (.ref (u.length+1)) (u++[.list [x],.list (aw n x)]):=by
 refine yX h hb ?_;show dT ((.fm:Op)=.fm) (dc (((u++[O.list [x]])[u.length]?).bind O.lO) λvs=>dT (vs.length=1/\0<=(n:Int)/\(n:Int)<=4096) (alloc (O.list (aw (n:Int).toNat (vs.headD V.none))) (u++[O.list [x]])))=_;rw[dR];refine(aF rfl).trans ((aF ⟨rfl,by lia,by lia⟩).trans ?_);show RE.ok (V.ref (u++[O.list [x]]).length) (u++[O.list [x]]++[O.list (aw n x)])=_;simp only[aj,am];rfl
theorem Nw{n:Nat}(h:n<4096):0<=(n:Int)/\(n:Int)<4096:=⟨cL n,bK.mpr h⟩
section
variable{a b:Nat}
theorem LD(h:a<b):decide ((a:Int)<b)=true:=bp (bK.mpr h)
theorem Uz(h:b<=a):decide ((a:Int)<b)=false:=bP λq=>fJ.mpr h (bK.mp q)
theorem eqT(h:a=b):decide ((a:Int)=b)=true:=bp (f5.mpr h)
theorem Wi(h:¬a=b):decide ((a:Int)=b)=false:=bP λq=>h (f5.mp q)
theorem neT(h:¬a=b):decide ((a:Int)≠b)=true:=bp λq=>h (f5.mp q)
theorem Uy(h:a=b):decide ((a:Int)≠b)=false:=bP λq=>q (f5.mpr h)
end
section
variable{C:Cx}{E:List V}{u po rs:St}{a b o i:ME}{ad n x:Nat}{l:List Nat}{q:MB}{t:Bool}{v:V}
theorem md(hq:Bo C q E u t po)(ht:t=true)(h:Ev C a E po v rs):Ev C (.ite q a b) E u v rs:=Qu hq ((aF ht)▸h)
theorem mf(hq:Bo C q E u t po)(ht:t=false)(h:Ev C b E po v rs):Ev C (.ite q a b) E u v rs:=Qu hq (ht▸h)
theorem et(ho:Ev C o E u (.ref ad) po)(hi:Ev C i E po (.int (n:Nat)) rs)(h:rs[ad]?=some (aR l))(hn:n<4096)(hv:l[n]?=some x):Ev C (.sub o i) E u (.int (x:Nat)) rs:=
 lT ho hi h rfl (Nw hn) (lq hv)
theorem QQ{x:Nat}(h:x<2)(n:¬x=1):x=0:=f3.mp (qM (b8 h) n)
theorem OL{n:Nat}:¬((n:Int) = -1):=λq=>absurd (q▸cL n) (bc rfl)
theorem RT{rows:List V}(ho:Ev C o E u (.ref ad) po)(hi:Ev C i E po (.int (n:Nat)) rs)(h:rs[ad]?=some (.list rows))(hn:n<4096)(hv:rows[n]?=some v):Ev C (.sub o i) E u v rs:=lT ho hi h rfl (Nw hn) hv
end
section
variable{d mk:Nat}{f:Fn}{wv:List V}{u re:St}{sw:List V}{i:Int}{b:Bool}(B:List MS)(E:List V)(hn:wv.length=(cc f).ij)(ht:(cc f).uq=true)(hB:(cc f).body=B)(yq:wv++aw ((cc f).lh-(cc f).ij) V.av=E)
include hn ht hB yq
theorem gX(hσ:re.take u.length=u)(h:Xs ⟨af d,u.length⟩ B E u (.ok (.ret (.int i)) sw re)):af (d+1) mk f wv u=.ok (.int i) u:=b6 B E hn ht hB yq h (aM _ hσ)
theorem iW(hσ:re.take u.length=u)(h:Xs ⟨af d,u.length⟩ B E u (.ok (.ret (.bool b)) sw re)):af (d+1) mk f wv u=.ok (.bool b) u:=b6 B E hn ht hB yq h (aM _ hσ)
theorem tR{ns:List Nat}{k:Nat}{N:St}(h:Xs ⟨af d,u.length⟩ B E u (.ok (.ret (.ref (u.length+k))) sw (u++N)))(hk:N[k]?=some (aR ns)):af (d+1) mk f wv u=.ok (.ref u.length) (u++[aR ns]):=
 b6 B E hn ht hB yq h ((Mk (bJ rfl hk) (fJ.mpr (aW _ _)) (IG.trans (cM.mpr λJ J=>rfl))).trans ((cR rfl)▸rfl))
end
theorem Vp{j:Nat}(h:j<64):binI .qu 2 (j:Int)=some ((2^j:Nat):Int):=by
 exact(aF (by simp only[aH];exact⟨rfl,bp ⟨cL j,kI.mpr (ae (dZ h) (aa rfl))⟩⟩))
theorem Vs{x y:Nat}(h:0<y)(h2:y<1073741824):binI .ey (x:Int) (y:Int)=some ((x/y:Nat):Int):=(M1 ⟨bK.mpr h,bK.mpr h2⟩).trans rfl
theorem Vq{x y:Nat}(h:0<y):binI .iq (x:Int) (y:Int)=some ((x%y:Nat):Int):=(rA (bK.mpr h)).trans rfl
theorem getD_at{l:List Nat}{i n:Nat}(hl:l.length=n)(h:i<n):l[i]?=some (l.getD i 0):=yt (hl▸h)
theorem Wb{a b:Nat}(h:a<4096):binI .fm (a:Int) (b:Int)=some ((a*b:Nat):Int):=
 (Dp (by simp only[cF];exact .inl (bp (aK h (aa rfl))))).trans (aM some (DB a b).symm)
theorem V9{a b:Nat}(h:b<=a):binI .sub (a:Int) (b:Int)=some ((a-b:Nat):Int):=aM some (ii h).symm
section
variable{C:Cx}{E:List V}{u po rs:St}{e f:ME}{a b:Nat}
theorem jL(he:Ev C e E u (.int (a:Nat)) po)(hf:Ev C f E po (.int (b:Nat)) rs):Ev C (.aQ .ei e f) E u (.int (a+b:Nat)) rs:=df he hf rfl
theorem iT(he:Ev C e E u (.int (a:Nat)) po)(hf:Ev C f E po (.int (b:Nat)) rs)(h:b<=a):Ev C (.aQ .sub e f) E u (.int (a-b:Nat)) rs:=df he hf (V9 h)
theorem gr(he:Ev C e E u (.int (a:Nat)) po)(hf:Ev C f E po (.int (b:Nat)) rs)(h:a<4096):Ev C (.aQ .fm e f) E u (.int (a*b:Nat)) rs:=df he hf (Wb h)
theorem j7(he:Ev C e E u (.int (a:Nat)) po)(hf:Ev C f E po (.int (b:Nat)) rs)(h:0<b)(h2:b<1073741824):Ev C (.aQ .ey e f) E u (.int (a/b:Nat)) rs:=df he hf (Vs h h2)
theorem je(he:Ev C e E u (.int (a:Nat)) po)(hf:Ev C f E po (.int (b:Nat)) rs)(h:0<b):Ev C (.aQ .iq e f) E u (.int (a%b:Nat)) rs:=df he hf (Vq h)
theorem sM(hf:Ev C f E u (.int (b:Nat)) rs)(h:b<64):Ev C (.aQ .qu (.ai 2) f) E u (.int (2^b:Nat)) rs:=df bh hf (Vp h)
theorem bC(n:Nat):Ev C (.ai (n:Int)) E u (.int (n:Nat)) u:=bh
theorem Lg(he:Ev C e E u (.int (a:Nat)) po)(hf:Ev C f E po (.int (b:Nat)) rs):Ev C (.cy e [.eq] [f]) E u (.bool (decide (a=b))) rs:=by
 have:=j5 he (wi hf)
 rwa [decide_eq_decide.mpr f5]at this
theorem w_eq(he:Ev C e E u (.int (a:Nat)) po)(hf:Ev C f E po (.int (b:Nat)) rs):Bo C (.cy e [.eq] [f]) E u (decide (a=b)) rs:=by
 have:=dg he (wi hf)
 rwa [decide_eq_decide.mpr f5]at this
theorem uc(he:Ev C e E u (.int (a:Nat)) po)(hf:Ev C f E po (.int (b:Nat)) rs):Bo C (.cy e [.ne] [f]) E u (!decide (a=b)) rs:=by
 have:=dg he (GX hf)
 rwa [show decide ((a:Int)≠b)=!decide (a=b) by rw[<-decide_not];exact decide_eq_decide.mpr (not_congr f5)]at this
theorem w_lt(he:Ev C e E u (.int (a:Nat)) po)(hf:Ev C f E po (.int (b:Nat)) rs):Bo C (.cy e [.lt] [f]) E u (decide (a<b)) rs:=by
 have:=dg he (pF hf)
 rwa [decide_eq_decide.mpr bK]at this
end
theorem wV{mk a:Nat}{vs:List V}{v:V}{u:St}(h:u[a]?=some (.list vs))(hl:vs.length<=hV)(hv:fq mk a v=true):iC mk (.ref a) .append [v] u=.ok .none (u.set a (.list (vs++[v]))):=by
 show dc ((u[a]?).bind O.lO) (λvs=>dT (vs.length<=hV) (dc (zc [v]) λv=>dT (fq mk a v=true) (RE.ok V.none (u.set a (.list (vs++[v]))))))=_
 exact h▸((aF hl).trans (aF hv))
noncomputable def tJ(w r:Nat):List Nat:=(aI w).map λc=>r*w+c
noncomputable def du(w h:Nat):List Nat:=(aI h).reverse.flatMap (tJ w)
theorem Jj(h:Nat):ie ((h:Int)-1) (-1) h=(aI h).reverse.map λn:Nat=>V.int n:=by
 induction h with
 | zero=>rfl
 | succ n ih=>
  simp only[Ci,List.reverse_append,List.reverse_singleton,List.singleton_append,cN,<-ih,tK,show((n+1:Nat):Int)-1=n from fK n 1];rfl
theorem Le(w:Nat):ie 0 1 w=(aI w).map λn:Nat=>V.int n:=by
 rw[pM];exact fV λi J=>aM V.int ((Av _).trans (Ck _))
theorem ej{w:Nat}{u:St}(h:w<=1000):mG [.int w]=some (.gV 0 w 1)/\fU (.gV 0 w 1) u=some (none,(aI w).map λn:Nat=>V.int n):=by
 have ok:Bj 0 w 1=true:=PX (aa rfl) (ae h (aa rfl)) (bc rfl) (aa rfl)
 have ht:gD 0 w 1=w:=by
  have:=yz (a:=0) (n:=w) (c:=0)
  rwa [cx,rX]at this
 refine⟨aF ok,(aF (⟨ok,ht.symm▸ae h (aa rfl)⟩)).trans ?_⟩;simp only[ht,Le]
theorem zz{h:Nat}{u:St}(h0:0<h)(hh:h<=1000):mG [.int ((h:Int)-1),.int (-1),.int (-1)]=some (.gV ((h:Int)-1) (-1) (-1))/\fU (.gV ((h:Int)-1) (-1) (-1)) u=some (none,(aI h).reverse.map λn:Nat=>V.int n):=by
 refine cP (Nat.exists_eq_succ_of_ne_zero (ul h0)) λk Go=>?_;subst Go
 have e:((k+1:Nat):Int)-1=k:=fK k 1
 have s:=Ke (ae (dZ hh) (by decide))
 have ok:Bj k (-1) (-1)=true:=bp ⟨by decide,s.1,s.2,by decide,by decide,by decide,by decide⟩
 have ht:gD k (-1) (-1)=k+1:=by
  unfold gD;rw[Int.neg_neg,Int.ediv_one,Cj,fK];rfl
 have:=Jj (k+1)
 rw[e]at this;rw[e];refine⟨aF ok,(aF (⟨ok,ht.symm▸ae hh (aa rfl)⟩)).trans ?_⟩;rw[ht,this]
theorem Hy{C:Cx}{u:St}{g w r:Nat}{fs:List (eM×V)}(hC:C.mark=u.length)(hg:u[g]?=some (.inst .eE fs))(hw:hP .files fs=some (.int w))(h8:r<8):∀(cl KB:List Nat) (y:V),KB.length+cl.length<=64 ->
  ∃y',forLoop (body C (.ah 3) [.kx (.lm (.ah 1) .append [(.aQ .ei (.aQ .fm (.ah 2) (.aS (.ah 0) .files)) (.ah 3))])]) none (cl.map λn:Nat=>V.int n) [.ref g,.ref u.length,.int r,y] (u++[aR KB])=.ok .next [.ref g,.ref u.length,.int r,y'] (u++[aR (KB++cl.map λc=>r*w+c)])
 | [],KB,y,_=>⟨y,by rw[tX,tX,aP];rfl⟩
 | c::cl,KB,y,hl=>by
  have ap:=wV (mk:=C.mark) (v:=.int ((r*w+c:Nat))) (dR u (aR KB)) (by rw[aB];exact ae (aW _ _) (ae hl (aa rfl))) rfl
  simp only[CC]at ap
  obtain⟨y',e⟩:=Hy hC hg hw h8 cl (KB++[r*w+c]) (.int c) (by rw[aj,dA,b9 [_].length];exact hl)
  rw[am,aR,cb]at e
  exact⟨y',dE rfl (cA rfl rfl (gb (Jl (ag rfl) (dR _ _) (ak (jL (gr (ag rfl) (bg (ag rfl) (bv hg) hw) (aK h8 (aa rfl))) (ag rfl)) rfl aY) ap) dQ)) e⟩
theorem Bh{C:Cx}{u:St}{g w:Nat}{fs:List (eM×V)}(hC:C.mark=u.length)(hg:u[g]?=some (.inst .eE fs))(hw:hP .files fs=some (.int w))(w8:w<=8):∀(rl KB:List Nat) (x y:V),(∀r∈rl,r<8)->KB.length+w*rl.length<=64 ->
  ∃x' y',forLoop (body C (.ah 2) [.for (.ah 3) (.gV [(.aS (.ah 0) .files)]) [.kx (.lm (.ah 1) .append [(.aQ .ei (.aQ .fm (.ah 2) (.aS (.ah 0) .files)) (.ah 3))])]]) none (rl.map λn:Nat=>V.int n) [.ref g,.ref u.length,x,y] (u++[aR KB])=.ok .next [.ref g,.ref u.length,x',y'] (u++[aR (KB++rl.flatMap (tJ w))])
 | [],KB,x,y,_,_=>⟨x,y,by rw[gL,aP];rfl⟩
 | r::rl,KB,x,y,h8,hl=>by
  have R:=ej (u:=u++[aR KB]) (ae w8 (aa rfl))
  refine cP (Hy hC hg hw (h8 r (.head _)) (aI w) KB y (bV▸ae (bu (tC w (eP _)) _) hl)) λy1 e1=>?_
  refine iJ (Bh hC hg hw w8 rl (KB++tJ w r) (.int r) y1 (λr h=>h8 r (.tail _ h)) (by simp only[aj,tJ,aB,bV,dA,b9 w];exact hl)) λx' y' e=>?_
  rw[am]at e
  exact⟨x',y',dE rfl (cA rfl rfl (iQ (iR (ak (bg (ag rfl) (bv hg) hw) rfl aY) R.1) R.2 e1 dQ)) e⟩
theorem Ek(d mk g w h:Nat)(fs:List (eM×V))(u:St)(hg:u[g]?=some (.inst .eE fs))(hw:hP .files fs=some (.int w))(hh:hP .rN fs=some (.int h))(w1:w<=8)(h0:0<h)(h1:h<=8):
  af (d+1) mk .jP [.ref g] u=.ok (.ref u.length) (u++[aR (du w h)]):=by
 have R:=zz (u:=u++[aR []]) h0 (ae h1 (aa rfl))
 refine iJ (Bh (C:=⟨af d,u.length⟩) rfl hg hw w1 (aI h).reverse [] .av .av (λr hr=>aq (bW.mp (so.mp hr)) h1) (by rw[jp,bV];exact ae (d0 (cx _)) (gw w1 h1))) λx y e=>?_
 exact tR (k:=0) oS [.ref g,.av,.av,.av] rfl rfl rfl rfl (bG (iS aY) rfl rfl (iQ (iR (ak (df (bg (ag rfl) (bv hg) hh) bh rfl) rfl ⟨rfl⟩) R.1) R.2 e ⟨rfl⟩)) rfl
theorem kN:∀l:List Nat,jf (l.map λn:Nat=>V.int n)=some (l.map λn:Nat=>(n:Int))
 | []=>rfl
 | a::l=>by
  show(jf (l.map λn:Nat=>V.int n)).map ((a:Int)::·)=_
  exact aM _ (kN l)
theorem uy(l:List Nat)(s:Nat):(l.map λn:Nat=>(n:Int)).contains (s:Int)=l.contains s:=by
 refine jH.mpr ?_;refine cg.trans ?_;rw[cg,bj];constructor
 .rintro⟨a,h,e⟩;exact(f5.mp e)▸h
 .exactλh=>⟨s,h,rfl⟩
theorem Ie{u:St}{b:Nat}{l:List Nat}(h:u[b]?=some (aR l))(s:Nat):j8 .Km (.int s) (.ref b) u=some (!l.contains s):=by
 show(((u[b]?).bind O.seq?).bind λvs=>isIn (.int s) vs).map (!·)=_
 rw[h];show((jf (l.map λn:Nat=>V.int n)).map λl=>l.contains s).map (!·)=_;rw[kN,AC,uy];rfl
theorem nQ{u N:St}{r:Nat}{o:O}(h:r<u.length):(u++N).set r o=u.set r o++N:=by rw[List.set_append_left _ _ h]
theorem F8{A:Ad}{v:Pv}{u N:St}(h:A.p<u.length/\A.b<u.length/\A.k<u.length/\A.s<u.length):jJ A v (u++N)=jJ A v u++N:=by
 unfold jJ;rw[nQ h.2.1,nQ (by simp only[aV];exact h.2.2.1),nQ (by simp only[aV];exact h.2.2.2),nQ (by simp only[aV];exact h.1)]
noncomputable def hp(A:Ad)(r w c:Nat)(u:St)(v:Pv)(a:Nat):St:=jJ A v (u.set r (dq w c a))
section
variable{A:Ad}{r w c:Nat}{u:St}{v v':Pv}{a a':Nat}
theorem jk:(hp A r w c u v a).length=u.length:=by simp only[hp,F7,aV]
theorem Sg(K:A.Ok):jJ A v' (hp A r w c u v a)=hp A r w c u v' a:=by
 unfold hp jJ;have comm:∀ {x y:Nat} (o o') (N:St),x≠y->(N.set x o).set y o'=(N.set y o').set x o:=λo o' N h=>FE _ _ h
 simp only[comm _ _ _ K.pb,comm _ _ _ K.bs.symm,comm _ _ _ K.bk.symm,dJ,comm _ _ _ K.pk,comm _ _ _ K.ks.symm,dJ,comm _ _ _ K.ps,dJ,dJ]
theorem HW(ho:Off A r):(hp A r w c u v a).set r (dq w c a')=hp A r w c u v a':=by
 unfold hp jJ;have comm:∀ {x y:Nat} (o o') (N:St),x≠y->(N.set x o).set y o'=(N.set y o').set x o:=λo o' N h=>FE _ _ h
 refine(comm _ _ _ ho.1).trans ?_;rw[comm _ _ _ ho.2.2.2,comm _ _ _ ho.2.2.1,comm _ _ _ ho.2.1,dJ]
theorem QF(ho:Off A r)(hr:r<u.length):(hp A r w c u v a)[r]?=some (dq w c a):=by
 simp only[hp,uX ho];exact cG hr
theorem Gx{x:Nat}(ho:Off A x)(hr:r≠x):(hp A r w c u v a)[x]?=u[x]?:=by
 simp only[hp,uX ho];exact bQ hr
theorem Si(K:A.Ok)(ho:Off A r)(hh:r≠A.h){v0:Pv}(P:eV A v0 u):eV A v (hp A r w c u v a):=by
 refine eV.put K ⟨fS ho.1.symm P.p,fS ho.2.1.symm P.b,fS ho.2.2.1.symm P.k,fS ho.2.2.2.symm P.s,fS hh P.h⟩ v
end
theorem eV.ky{A:Ad}{v:Pv}{u:St}(P:eV A v u)(N:St):eV A v (u++N):=⟨bv P.p,bv P.b,bv P.k,bv P.s,bv P.h⟩
theorem eV.lt{A:Ad}{v:Pv}{u:St}(P:eV A v u):A.p<u.length/\A.b<u.length/\A.k<u.length/\A.s<u.length:=
 ⟨(aJ.mp P.p).1,(aJ.mp P.b).1,(aJ.mp P.k).1,(aJ.mp P.s).1⟩
structure Pv.Na(v:Pv)(size:Nat):Prop where
 b:v.aN.length=size
 k:v.kinds.length=7
 s:v.cQ.length=2
theorem Pv.Na.put{v:Pv}{size:Nat}(h:v.Na size)(u8:Nat->Nat->Nat)(p s:Nat):(dU u8 v p s).Na size:=⟨by simp only[dU,aV];exact h.b,by simp only[dU,aV];exact h.k,by simp only[dU,aV];exact h.s⟩
theorem oZ.to{z:Nat}{u8:Nat->Nat->Nat}{size:Nat}{ok:Nat->Prop}{u re:St}(Z:oZ z u8 size ok u)(h:∀a o,ok a->u[a]?=some o->re[a]?=some o):oZ z u8 size ok re:=by
 refine nG Z.wH λzf zp rows=>Qi λz1 zo z2 z3 z4 z5=>?_
 refine⟨zf,zp,rows,h _ _ zo z1,zo,z2,h _ _ z4 z3,z4,λp hp=>?_⟩;refine iJ (z5 p hp) λtJ zl=>mT λa b c e=>?_
 exact⟨tJ,zl,a,b,h _ _ b c,e⟩
noncomputable def eN(w:Nat)(ks:List Nat)(u8:Nat->Nat->Nat):List Nat->Nat->Pv->Option (Nat×Pv)
 | [],a,v=>some (a,v)
 | s::r,a,v=>if ks.contains s then eN w ks u8 r a v else if rd w a 1=0\/rd w (a+1) 3+1<=5 then eN w ks u8 r (a+lF w a) (if f7 w a=0 then v else dU u8 v (f7 w a) s)else none
theorem Lb{w s a:Nat}{ks r:List Nat}{u8:Nat->Nat->Nat}{v:Pv}(c:ks.contains s=true):eN w ks u8 (s::r) a v=eN w ks u8 r a v:=aF c
theorem F3{w s a:Nat}{ks r:List Nat}{u8:Nat->Nat->Nat}{v:Pv}(c:¬ks.contains s=true):eN w ks u8 (s::r) a v=if rd w a 1=0\/rd w (a+1) 3+1<=5 then eN w ks u8 r (a+lF w a) (if f7 w a=0 then v else dU u8 v (f7 w a) s)else none:=aZ c
theorem qS{w s a:Nat}{ks r:List Nat}{u8:Nat->Nat->Nat}{v:Pv}{x:Nat×Pv}{db:Prop}(h:eN w ks u8 (s::r) a v=some x)(A:ks.contains s=true->eN w ks u8 r a v=some x->db)
  (B:¬ks.contains s=true->(rd w a 1=0\/rd w (a+1) 3+1<=5)->eN w ks u8 r (a+lF w a) (if f7 w a=0 then v else dU u8 v (f7 w a) s)=some x->db):db:=by
 by_cases c:ks.contains s=true
 .exact A c ((Lb c).symm.trans h)
 .have h:=(F3 c).symm.trans h
  by_cases d:rd w a 1=0\/rd w (a+1) 3+1<=5
  .exact B c d ((aF d).symm.trans h)
  .exact nomatch (aZ d).symm.trans h
theorem jQ{w:Nat}{ks:List Nat}{u8:Nat->Nat->Nat}:∀ {sl:List Nat} {a a':Nat} {v v':Pv},eN w ks u8 sl a v=some (a',v')->a<=a'
 | [],a,a',v,v',h=>by cases h;exact cH _
 | s::r,a,a',v,v',h=>by
  exact qS h (λJ h=>jQ h) λJ J h=>ae (aW _ _) (jQ h)
theorem tL{C:Cx}{E:List V}{u po:St}{es:List ME}{vs:List V}{n:Nat}(h:yv C es E u vs po)(hn:po.length=n):Ev C (.list es) E u (.ref n) (po++[.list vs]):=hn▸iS h
structure pV(A:Ad)(r wd ht size:Nat)(u8:Nat->Nat->Nat)(fs:List (eM×V))(u:St):Prop where
 K:A.Ok
 ro:Off A r
 rh:r≠A.h
 rl:r<u.length
 go:Off A A.g
 rg:r≠A.g
 qN:u[A.g]?=some (.inst .eE fs)
 Vr:hP .size fs=some (.int size)
 fw:hP .files fs=some (.int wd)
 fh:hP .rN fs=some (.int ht)
 z:wQ size
 sz:size=wd*ht
 w8:wd<=8
 h0:0<ht
 h8:ht<=8
 pos:∃v0,eV A v0 u
 Kl:oZ A.z u8 size (λx=>Off A x/\r≠x) u
section
variable{A:Ad}{r wd ht size w c:Nat}{u8:Nat->Nat->Nat}{fs:List (eM×V)}{u:St}{v:Pv}{a:Nat}
theorem pV.at(dL:pV A r wd ht size u8 fs u)(N:St):eV A v (hp A r w c u v a++N):=by
 refine cP dL.pos λv0 P=>?_
 exact(Si dL.K dL.ro dL.rh P).ky N
theorem pV.UR(dL:pV A r wd ht size u8 fs u)(N:St):(hp A r w c u v a++N)[r]?=some (dq w c a):=bv (QF dL.ro dL.rl)
theorem pV.ge(dL:pV A r wd ht size u8 fs u)(N:St):(hp A r w c u v a++N)[A.g]?=some (.inst .eE fs):=bv ((Gx dL.go dL.rg).trans dL.qN)
theorem pV.set(dL:pV A r wd ht size u8 fs u)(N:St)(a':Nat):(hp A r w c u v a++N).set r (dq w c a')=hp A r w c u v a'++N:=by
 refine(nQ (by simp only[jk];exact dL.rl)).trans ?_;rw[HW dL.ro]
theorem pV.lt(dL:pV A r wd ht size u8 fs u):size<64:=by
 rcases dL.z with h | h | h | h<;>(rw[h];decide)
theorem Lh(dL:pV A r wd ht size u8 fs u)(d mk p s:Nat)(N:St)(L:v.Na size)(hp':p<15)(h7:p%8<7)(S:s<size):
  af (d+2) mk .kM [.ref A.p,.int p,.int s] (hp A r w c u v a++N)=.ok .none (hp A r w c u (dU u8 v p s) a++N):=by
 have P:=dL.at (w:=w) (c:=c) (v:=v) (a:=a) N
 have Z:oZ A.z u8 size (Off A) (hp A r w c u v a++N):=by
  have Z:=dL.Kl.to (re:=hp A r w c u v a++N) λx o h e=>bv ((Gx h.1 h.2).trans e)
  refine nG Z.wH λzf zp rows=>Qi λz1 zo z2 z3 z4 z5=>?_
  refine⟨zf,zp,rows,z1,zo.1,z2,z3,z4.1,λp hp=>?_⟩;refine iJ (z5 p hp) λtJ zl=>mT λa b c e=>?_
  exact⟨tJ,zl,a,b.1,c,e⟩
 refine(vG d mk p s size u8 A dL.K v _ P Z hp' S dL.lt L.b L.k L.s h7).trans ?_;have hl:=(dL.at (w:=w) (c:=c) (v:=v) (a:=a) []).lt;rw[aP]at hl;rw[F8 hl,Sg dL.K]
theorem bF{b:Bool}(h:¬b=true):b=false:=(gM b).mp h
theorem GV(w a:Nat)(h:rd w a 1=0\/rd w (a+1) 3+1<=5):f7 w a<15/\f7 w a%8<7:=by
 unfold f7
 split
 .exact⟨by decide,by decide⟩
 .rename_i h1;have h2:=h.resolve_left h1;have h5:=az h2 (by decide:5<7);exact⟨az (cE (i3 8 (b8 (j3 w (a+4) 1))) h2) (aa rfl),by simp only[qL,eI (nq h5)];exact h5⟩
noncomputable def Uk:List MS:=[.fB (.cy (.ah 4) [.Km] [(.ah 2)]) [.assign (.ah 5) (.call .qp [(.ah 0),(.ah 4)]),.fB (.cy (.ah 5) [.ne] [(.cW .nM)]) [.kx (.call .kM [(.ah 1),(.ah 5),(.ah 4)])] []] []]
inductive tw(A:Ad)(r w c size:Nat)(u N:St):Option (Nat×Pv)->RX->Prop
 | ok {a v E}:v.Na size->a<=c->tw A r w c size u N (some (a,v)) (.ok .next E (hp A r w c u v a++N))
 | fY {o a v E}:(∀a' v',o=some (a',v')->c<a')->tw A r w c size u N o (.fY E (hp A r w c u v a++N))
theorem tw.or{N:St}{o:Option (Nat×Pv)}{X:RX}(h:tw A r w c size u N o X):(∃a' v' sw,o=some (a',v')/\v'.Na size/\a'<=c/\X=.ok .next sw (hp A r w c u v' a'++N))\/((∀a' v',o=some (a',v')->c<a')/\∃a' v' sw,X=.fY sw (hp A r w c u v' a'++N)):=by
 cases h with
 | ok h1 h2=>exact .inl ⟨_,_,_,rfl,h1,h2,rfl⟩
 | fY h=>exact .inr ⟨h,_,_,_,rfl⟩
theorem H2{f:V->List V->St->RX}{sK:Option (Nat×O)}{v:V}{vs E sw:List V}{u re:St}(h:same sK u=true)(h1:f v E u=.fY sw re):forLoop f sK (v::vs) E u=.fY sw re:=by
 have e:forLoop f sK (v::vs) E u=match f v E u with
  | .ok (.ret v) E u=>.ok (.ret v) E u
  | .ok _ E u=>forLoop f sK vs E u
  | .fY E u=>.fY E u
  | .cn=>.cn:=aF h
 refine e.trans ?_;rw[h1]
theorem tw.next{N:St}{o:Option (Nat×Pv)}{X X':RX}(e:X=X')(h:tw A r w c size u N o X'):tw A r w c size u N o X:=e▸h
theorem ML(dL:pV A r wd ht size u8 fs u)(d mk ka kb:Nat)(N:St)(i:Nat)(o:O)(ht':N[i]?=some o)(hk:N[0]?=some (.list [.int ka,.int kb])){x:V}:∀(l:List Nat) (a:Nat) (v:Pv) (y z:V),v.Na size->a<=c->(∀s∈l,s<size) ->
  tw A r w c size u N (eN w [ka,kb] u8 l a v) (forLoop (body ⟨af (d+2),mk⟩ (.ah 4) Uk) (some (u.length+i,o)) (l.map λn:Nat=>V.int n) [.ref r,.ref A.p,.ref (u.length+0),x,y,z] (hp A r w c u v a++N)):=by
 have WC:∀v a,same (some (u.length+i,o)) (hp A r w c u v a++N)=true:=λv a=>bp (bJ jk ht')
 intro l;induction l with
 | nil=>exactλa v y z L ha J=>.next (jl (WC v a)) (.ok L ha)
 | cons s l ih=>
  intro a v y z L ha hl;have ih:=λa v y z L ha=>ih a v y z L ha λs h=>hl s (.tail _ h)
  have hn:=λt=>(dg (C:=⟨af (d+2),mk⟩) (E:=[.ref r,.ref A.p,.ref (u.length+0),x,.int s,z]) (ag (j:=4) rfl) (gf (ag (j:=2) rfl) (Ie (bJ jk hk:(hp A r w c u v a++N)[u.length+0]?=some (aR [ka,kb])) s))).to (cr:=t)
  by_cases hc:[ka,kb].contains s=true
  .rw[Lb hc];refine .next (dE (WC v a) ?_ rfl) (ih a v (.int s) z L ha);exact cA rfl rfl (cu (hn false (aM _ hc)) rfl dQ)
  .rw[F3 hc];refine d5 λGG Y=>?_
   have hn:=hn true (aM _ (bF hc))
   refine bN (KS d mk r w c a s _ (dL.UR (v:=v) N)) (λKM=>?_) λOn=>?_
   .refine jc (λt1 t2 t3=>?_) KM;rw[dL.set]at t3;refine cJ (λsm1 sm2=>?_) (GV w a t2);refine Y ?_;rw[aF (show rd w a 1=0\/rd w (a+1) 3+1<=5 from t2)];have e:=bw (C:=⟨af (d+2),mk⟩) (f:=.qp) (ak (ag (E:=[.ref r,.ref A.p,.ref (u.length+0),x,.int s,z]) (j:=0) rfl) rfl (ak (ag (j:=4) rfl) rfl aY)) t3;by_cases h0:f7 w a=0
    .rw[aF h0];refine .next (dE (WC v a) ?_ rfl) (ih _ v (.int s) (.int (f7 w a)) L t1);exact cA rfl rfl (de hn rfl (bG e rfl rfl (cu (dg (ag rfl) (GX (dn rfl))) (Q2 h0) dQ)))
    .rw[aZ h0];refine .next (dE (WC v a) ?_ rfl) (ih _ _ (.int s) (.int (f7 w a)) (L.put _ _ _) t1);exact cA rfl rfl (de hn rfl (bG e rfl rfl (de (dg (ag rfl) (GX (dn rfl))) (SM h0) (gb (bw ⟨rfl⟩ (Lh dL d mk (f7 w a) s N L sm1 sm2 (hl s (.head _)))) dQ))))
   .obtain⟨t1,a',t2⟩:=On;rw[dL.set]at t2;refine Y ?_;refine .next (H2 (WC v a) (sw:=[.ref r,.ref A.p,.ref (u.length+0),x,.int s,z]) ?_) (.fY (v:=v) (a:=a') λa'' v'' h=>?_)
    .exact cA rfl rfl (de hn rfl (ip (nB ⟨rfl⟩ t2)))
    .split at h
     .rename_i q;exact t1.elim (λt1=>aq t1 (jQ h)) λt1=>absurd q t1
     .cases h
end
noncomputable def oP(w size:Nat)(u8:Nat->Nat->Nat)(ord:List Nat)(a:Nat)(v:Pv):Option (Nat×Pv):=
 if rd w a (aC size)<size/\rd w (a+aC size) (aC size)<size/\rd w a (aC size)≠rd w (a+aC size) (aC size)then
  eN w [rd w a (aC size),rd w (a+aC size) (aC size)] u8 ord (a+aC size+aC size) (dU u8 (dU u8 v 6 (rd w a (aC size))) 14 (rd w (a+aC size) (aC size)))
 else none
theorem vJ{wd ht s:Nat}(h:s∈du wd ht):s<wd*ht:=by
 refine cP (sr.mp h) λr=>cJ λh1 h2=>?_
 refine cP (bj.mp h2) λc=>cJ λh3 zn=>?_;subst zn
 rw[so,bW]at h1
 replace h3:=bW.mp h3
 simp only[c9 wd];exact aq (fg h3 _) (ae (d0 (qi r wd).symm) (i3 wd h1))
theorem qw(wd ht:Nat):(du wd ht).length=ht*wd:=by
 simp only[du,List.length_flatMap];simp only[tJ,aB,bV,SP,jp,List.sum_replicate_nat]
theorem AP{A:Ad}{r wd ht size w c:Nat}{u8:Nat->Nat->Nat}{fs:List (eM×V)}{u:St}{v:Pv}{a:Nat}(dL:pV A r wd ht size u8 fs u)(d mk:Nat)(L:v.Na size):
  (∃a' v',oP w size u8 (du wd ht) a v=some (a',v')/\v'.Na size/\a'<=c/\af (d+3) mk .qP [.ref r,.ref A.p] (hp A r w c u v a)=.ok .none (hp A r w c u v' a')) \/
  ((∀a' v',oP w size u8 (du wd ht) a v=some (a',v')->c<a')/\∃a' v',af (d+3) mk .qP [.ref r,.ref A.p] (hp A r w c u v a)=.fY (hp A r w c u v' a')):=by
 refine d5 λGG Y=>?_
 have R:∀x,(hp A r w c u v x)[r]?=some (dq w c x):=λx=>QF dL.ro dL.rl
 have db:∀x,(hp A r w c u v x)[A.g]?=some (.inst .eE fs):=λx=>(Gx dL.go dL.rg).trans dL.qN
 have P:=λx=>by
  have:=(dL.at (w:=w) (c:=c) (v:=v) (a:=x) []).p
  rwa [aP]at this
 have kt:∀x y,(hp A r w c u v x).set r (dq w c y)=hp A r w c u v y:=λx y=>HW dL.ro
 have big:∀a' v',oP w size u8 (du wd ht) a v=some (a',v')->rd w a (aC size)<size/\rd w (a+aC size) (aC size)<size/\rd w a (aC size)≠rd w (a+aC size) (aC size)/\a+aC size+aC size<=a':=λa' v' h=>by
  unfold oP at h
  split at h
  .rename_i q;exact⟨q.1,q.2.1,q.2.2,jQ h⟩
  .exact nomatch h
 have ar:yv ⟨af (d+2),(hp A r w c u v a).length⟩ [.ah 0,.aS (.ah 1) .qN] [.ref r,.ref A.p,.av,.av,.av,.av] (hp A r w c u v a) [.ref r,.ref A.g] (hp A r w c u v a):=ak (ag rfl) rfl (ak (bg (ag rfl) (P a) rfl) rfl aY)
 have cutE:∀ {x:Nat} {sw:List V} {cr:Pv},Xs ⟨af (d+2),(hp A r w c u v a).length⟩ gJ [.ref r,.ref A.p,.av,.av,.av,.av] (hp A r w c u v a) (.fY sw (hp A r w c u cr x))->af (d+3) mk .qP [.ref r,.ref A.p] (hp A r w c u v a)=.fY (hp A r w c u cr x):=λh=>
  (call_exc gJ [.ref r,.ref A.p,.av,.av,.av,.av] rfl rfl rfl rfl h).trans (aM _ (br (by simp only[jk,jk];exact cH _)))
 rcases FR d (hp A r w c u v a).length r A.g w c a size fs _ (R a) (db a) dL.Vr dL.rg dL.z with⟨a1,a2,a3⟩ | ⟨a1,x,a2⟩
 .rw[kt]at a3;have ar2:yv ⟨af (d+2),(hp A r w c u v a).length⟩ [.ah 0,.aS (.ah 1) .qN] [.ref r,.ref A.p,.av,.av,.av,.av] (hp A r w c u v (a+aC size)) [.ref r,.ref A.g] (hp A r w c u v (a+aC size)):=ak (ag rfl) rfl (ak (bg (ag rfl) (P _) rfl) rfl aY);refine bN (FR d (hp A r w c u v a).length r A.g w c (a+aC size) size fs _ (R _) (db _) dL.Vr dL.rg dL.z) (λKM=>?_) λOn=>?_
  .refine jc (λb1 b2 b3=>?_) KM;rw[kt]at b3;generalize hka:rd w a (aC size)=ka at *;generalize hkb:rd w (a+aC size) (aC size)=kb at *;generalize ha2:a+aC size+aC size=a2' at *;have first:∀ {X:RX},Xs ⟨af (d+2),(hp A r w c u v a).length⟩ (gJ.drop 1) [.ref r,.ref A.p,.ref (u.length+0),.av,.av,.av] (hp A r w c u v a2'++[.list [.int ka,.int kb]]) X->Xs ⟨af (d+2),(hp A r w c u v a).length⟩ gJ [.ref r,.ref A.p,.av,.av,.av,.av] (hp A r w c u v a) X:=λh=>
    bG (tL (ak (bw ar a3) rfl (ak (bw ar2 b3) rfl aY)) jk) rfl rfl h
   have k0:(hp A r w c u v a2'++[.list [.int ka,.int kb]])[u.length+0]?=some (.list [.int ka,.int kb]):=bJ jk rfl
   have i0:Ev ⟨af (d+2),(hp A r w c u v a).length⟩ (.sub (.ah 2) (.ai 0)) [.ref r,.ref A.p,.ref (u.length+0),.av,.av,.av] (hp A r w c u v a2'++[.list [.int ka,.int kb]]) (.int ka) (hp A r w c u v a2'++[.list [.int ka,.int kb]]):=lT (ag rfl) bh k0 rfl ⟨by decide,by decide⟩ rfl
   have i1:Ev ⟨af (d+2),(hp A r w c u v a).length⟩ (.sub (.ah 2) (.ai 1)) [.ref r,.ref A.p,.ref (u.length+0),.av,.av,.av] (hp A r w c u v a2'++[.list [.int ka,.int kb]]) (.int kb) (hp A r w c u v a2'++[.list [.int ka,.int kb]]):=lT (ag rfl) bh k0 rfl ⟨by decide,by decide⟩ rfl
   by_cases T:ka=kb
   .refine Y ?_;refine .inr ⟨λa' v' h=>absurd T (big a' v' h).2.2.1,a2',v,?_⟩;refine(call_exc gJ [.ref r,.ref A.p,.av,.av,.av,.av] (sw:=[.ref r,.ref A.p,.ref (u.length+0),.av,.av,.av]) (re:=hp A r w c u v a2'++[.list [.int ka,.int kb]]) rfl rfl rfl rfl ?_).trans (aM _ (cR (jk.trans jk.symm)));exact first (de (w_eq i0 i1) (bp T) (jh i0))
   .have bn:oP w size u8 (du wd ht) a v=eN w [ka,kb] u8 (du wd ht) a2' (dU u8 (dU u8 v 6 ka) 14 kb):=by
     unfold oP;rw[hka,hkb,ha2,aF ⟨a2,b2,T⟩]
    refine Y ?_;rw[bn];have L1:=L.put u8 6 ka;have L2:=L1.put u8 14 kb;have U:yv ⟨af (d+2),(hp A r w c u v a).length⟩ [.cW .lX,.cW .nk] [.ref r,.ref A.p,.ref (u.length+0),.av,.av,.av] (hp A r w c u v a2'++[.list [.int ka,.int kb]]) [.int 0,.int 1] (hp A r w c u v a2'++[.list [.int ka,.int kb]]):=ak (dn rfl) rfl ⟨rfl⟩;have t0:∀N,af (d+2) (hp A r w c u v a).length .gd [.int 0,.int 6] N=.ok (.int (6)) N:=λN=>oB (d+1) _ 0 6 N
    have t1:∀N,af (d+2) (hp A r w c u v a).length .gd [.int 1,.int 6] N=.ok (.int (14:Nat)) N:=λN=>oB (d+1) _ 1 6 N
    have p0:=Lh dL (w:=w) (c:=c) (a:=a2') d (hp A r w c u v a).length 6 ka [.list [.int ka,.int kb],.list [.int 0,.int 1]] L (aa rfl) (aa rfl) a2
    have p1:=Lh dL (w:=w) (c:=c) (a:=a2') d (hp A r w c u v a).length 14 kb [.list [.int ka,.int kb],.list [.int 0,.int 1]] L1 (aa rfl) (aa rfl) b2
    have WC:∀cr,same (some (u.length+1,.list [.int 0,.int 1])) (hp A r w c u cr a2'++[.list [.int ka,.int kb],.list [.int 0,.int 1]])=true:=λcr=>bp (bJ jk rfl)
    have k1:∀cr,(hp A r w c u cr a2'++[.list [.int ka,.int kb],.list [.int 0,.int 1]])[u.length+0]?=some (.list [.int ka,.int kb]):=λcr=>bJ jk rfl
    have loop1:forLoop (body ⟨af (d+2),(hp A r w c u v a).length⟩ (.ah 3) [.kx (.call .kM [(.ah 1),(.call .gd [(.ah 3),(.cW .yb)]),(.sub (.ah 2) (.ah 3))])]) (some (u.length+1,.list [.int 0,.int 1])) [.int 0,.int 1] [.ref r,.ref A.p,.ref (u.length+0),.av,.av,.av] (hp A r w c u v a2'++[.list [.int ka,.int kb],.list [.int 0,.int 1]]) =
      .ok .next [.ref r,.ref A.p,.ref (u.length+0),.int 1,.av,.av] (hp A r w c u (dU u8 (dU u8 v 6 ka) 14 kb) a2'++[.list [.int ka,.int kb],.list [.int 0,.int 1]]):=by
     refine dE (WC _) (cA rfl rfl (gb (bw (ak (ag rfl) rfl (ak (bw ⟨rfl⟩ (t0 _)) rfl (ak (lT (ag rfl) (ag rfl) (k1 _) rfl ⟨by decide,by decide⟩ rfl) rfl aY))) p0) dQ)) ?_;refine dE (WC _) (cA rfl rfl (gb (bw (ak (ag rfl) rfl (ak (bw ⟨rfl⟩ (t1 _)) rfl (ak (lT (ag rfl) (ag rfl) (k1 _) rfl ⟨by decide,by decide⟩ rfl) rfl aY))) p1) dQ)) ?_;exact jl (WC _)
    generalize dU u8 (dU u8 v 6 ka) 14 kb=v2 at loop1 L2 ⊢;have od:af (d+2) (hp A r w c u v a).length .jP [.ref A.g] (hp A r w c u v2 a2'++[.list [.int ka,.int kb],.list [.int 0,.int 1]])=.ok (.ref (u.length+2)) (hp A r w c u v2 a2'++[.list [.int ka,.int kb],.list [.int 0,.int 1],aR (du wd ht)]):=by
     have:=Ek (d+1) (hp A r w c u v a).length A.g wd ht fs _ (dL.ge (w:=w) (c:=c) (v:=v2) (a:=a2') [.list [.int ka,.int kb],.list [.int 0,.int 1]]) dL.fw dL.fh dL.w8 dL.h0 dL.h8
     refine this.trans ?_;simp only[aj,jk,am];rfl
    have it2:fU (.ref (u.length+2)) (hp A r w c u v2 a2'++[.list [.int ka,.int kb],.list [.int 0,.int 1],aR (du wd ht)])=some (some (u.length+2,aR (du wd ht)),(du wd ht).map λn:Nat=>V.int n):=
     iF (bJ jk rfl) (by simp only[aB,qw];exact ae (gw dL.h8 dL.w8) (aa rfl))
    have at2:=(dL.at (w:=w) (c:=c) (v:=v2) (a:=a2') [.list [.int ka,.int kb],.list [.int 0,.int 1]]).p
    have mid:∀ {X:RX},Xs ⟨af (d+2),(hp A r w c u v a).length⟩ (gJ.drop 3) [.ref r,.ref A.p,.ref (u.length+0),.int 1,.av,.av] (hp A r w c u v2 a2'++[.list [.int ka,.int kb],.list [.int 0,.int 1]]) X->Xs ⟨af (d+2),(hp A r w c u v a).length⟩ gJ [.ref r,.ref A.p,.av,.av,.av,.av] (hp A r w c u v a) X:=λh=>by
     refine first (cu (w_eq i0 i1) (bP T) ?_)
     have sl:=tL U (n:=u.length+1) (by refine aj.trans ?_;exact aM _ jk)
     simp only[am]at sl;exact iQ sl (iF (bJ jk rfl) (aa rfl)) loop1 h
    refine bN ((ML dL (w:=w) d (hp A r w c u v a).length ka kb [.list [.int ka,.int kb],.list [.int 0,.int 1],aR (du wd ht)] 2 (aR (du wd ht)) rfl rfl (x:=.int 1) (du wd ht) a2' v2 .av .av L2 b1 (λs h=>by simp only[dL.sz];exact vJ h)).or) (λKM=>?_) λOn=>?_
    .refine nG KM λa' v' sw=>mT λe1 e2 e3 e4=>?_;refine .inl ⟨a',v',e1,e2,e3,?_⟩
     apply b6 gJ [.ref r,.ref A.p,.av,.av,.av,.av] rfl rfl rfl rfl
     .exact mid (iQ (bw (ak (bg (ag rfl) at2 rfl) rfl aY) od) it2 e4 dQ)
     .exact aM _ (cR (jk.trans jk.symm))
    .obtain⟨e1,a',v',sw,e2⟩:=On;refine .inr ⟨e1,a',v',?_⟩;refine(call_exc gJ [.ref r,.ref A.p,.av,.av,.av,.av] rfl rfl rfl rfl (mid (DO (bw (ak (bg (ag rfl) at2 rfl) rfl aY) od) it2 e2))).trans (aM _ (cR (jk.trans jk.symm)))
  .obtain⟨b1,x,b2⟩:=On;rw[kt]at b2;refine Y ?_;refine .inr ⟨λa' v' h=>?_,x,v,cutE (ip (My (Ug (bw ar a3) rfl (Mt (nB ar2 b2)))))⟩;have:=big a' v' h;exact b1.elim (λq=>aq q this.2.2.2) λq=>absurd this.2.1 (fJ.mpr q)
 .rw[kt]at a2;refine Y ?_;refine .inr ⟨λa' v' h=>?_,x,v,cutE (ip (My (Mt (nB ar a2))))⟩;have:=big a' v' h;exact a1.elim (λq=>aq q (ae (aW _ _) this.2.2.2)) λq=>absurd this.1 (fJ.mpr q)
structure Fj(z:Nat)(rk ek:Nat->Nat)(sk wd:Nat)(u:St):Prop where
 all:∃zf zr rl ze el,u[z]?=some (.inst .rF zf)/\hP .aX zf=some (.ref zr)/\u[zr]?=some (aR rl)/\(∀i,i<16->rl[i]?=some (rk i)) /\
  hP .ep zf=some (.ref ze)/\u[ze]?=some (aR el)/\(∀f,f<wd->el[f]?=some (ek f))/\hP .bL zf=some (.int sk)
noncomputable def oM(ek:Nat->Nat)(wd:Nat)(ep:Int)(k:Nat):Nat:=if 0<=ep then k^^^ek (ep.toNat%wd)else k
noncomputable def iM(sk bL k:Nat):Nat:=if bL=1 then k^^^sk else k
noncomputable def KW(rk ek:Nat->Nat)(sk wd:Nat)(v:Pv):Nat:=iM sk v.bL (oM ek wd v.ep (rk v.aX))
theorem CA{A:Ad}{v:Pv}{u:St}{rk ek:Nat->Nat}{sk wd:Nat}{fs:List (eM×V)}(d mk:Nat)(P:eV A v u)(Z:Fj A.z rk ek sk wd u)(hg:u[A.g]?=some (.inst .eE fs))(fw:hP .files fs=some (.int wd))(h0:0<wd)(h8:wd<=8)(hr:v.aX<16):
  af (d+1) mk .Bf [.ref A.p] u=.ok (.int (KW rk ek sk wd v)) u:=by
 refine SY Z.all λzf zr rl ze el=>Rv λz1 z2 z3 z4 z5 z6 z7 z8=>?_
 have at':∀ {k:Nat} {x:V} {f:eM},hP f (mW A v)=some x->Ev ⟨af d,u.length⟩ (.aS (.ah 0) f) [.ref A.p,.ref A.z,.int k] u x u:=λh=>bg (ag rfl) P.p h
 have pZ:∀k:Nat,Xs ⟨af d,u.length⟩ (pU.drop 3) [.ref A.p,.ref A.z,.int k] u (.ok (.ret (.int (iM sk v.bL k))) [.ref A.p,.ref A.z,.int (iM sk v.bL k)] u):=λk=>by
  have b:=w_eq (at' (k:=k) (f:=.bL) rfl) (dn (g:=.nk) (v:=.int (1:Nat)) rfl)
  unfold iM;by_cases S:v.bL=1
  .rw[aF S];exact de b (bp S) (gU rfl (bg (ag rfl) z1 z8) (nC k sk) rfl ⟨rfl⟩)
  .rw[aZ S];exact cu b (bP S) (dN (ag rfl))
 have mid:∀k:Nat,Xs ⟨af d,u.length⟩ (pU.drop 2) [.ref A.p,.ref A.z,.int k] u (.ok (.ret (.int (iM sk v.bL (oM ek wd v.ep k)))) [.ref A.p,.ref A.z,.int (iM sk v.bL (oM ek wd v.ep k))] u):=λk=>by
  have b:=dg (at' (k:=k) (f:=.ep) rfl) (u6 (bh (k:=0)))
  by_cases he:0<=v.ep
  .have hm:binI .iq v.ep wd=some ((v.ep.toNat%wd:Nat):Int):=(rA (bK.mpr h0)).trans (aM some (by simp only[SV,fj he]))
   have lt:=dK v.ep.toNat h0
   exact(show oM ek wd v.ep k=k^^^ek (v.ep.toNat%wd)from aF he)▸(de b (bp he) (gU rfl (et (bg (ag rfl) z1 z5) (df (at' rfl) (bg (at' rfl) hg fw) hm) z6 (aq lt (ae h8 (aa rfl))) (z7 _ lt)) (nC k _) rfl (pZ _)))
  .rw[show oM ek wd v.ep k=k from aZ he];exact cu b (bP he) (pZ _)
 exact gX pU [.ref A.p,.av,.av] rfl rfl rfl rfl aU (bG (bg (ag rfl) P.p rfl) rfl rfl (bG (et (bg (ag rfl) z1 z2) (bg (ag rfl) P.p rfl) z3 (aK hr (aa rfl)) (z4 _ hr)) rfl rfl (mid _)))
noncomputable def pO(u8:Nat->Nat->Nat):List Nat->Nat->Nat->Nat
 | [],_,k=>k
 | p::r,s,k=>pO u8 r (s+1) (if p=0 then k else k^^^u8 p s)
theorem JC{u8:Nat->Nat->Nat}{p s k:Nat}{r:List Nat}:pO u8 (p::r) s k=pO u8 r (s+1) (if p=0 then k else k^^^u8 p s):=rfl
noncomputable def C3(u8:Nat->Nat->Nat)(rk ek:Nat->Nat)(sk wd:Nat)(v:Pv):Nat:=pO u8 v.aN 0 (KW rk ek sk wd v)
theorem HL{C:Cx}{A:Ad}{u:St}{u8:Nat->Nat->Nat}{zp size:Nat}{rows:List V}{sK:Option (Nat×O)}(S:same sK u=true)(hz:size<64)(z3:u[zp]?=some (.list rows))(z5:∀p,p<15->∃tJ zl,rows[p]?=some (.ref tJ)/\u[tJ]?=some (aR zl)/\∀s,s<size->zl[s]?=some (u8 p s)):
  ∀(l:List Nat) (s k:Nat) (x:V),(∀p∈l,p<15)->s+l.length<=size->∃s' x',forLoop (body C (.ah 4) [.fB (.cy (.ah 4) [.ne] [(.cW .nM)]) [.ig (.ah 2) .Ay (.sub (.sub (.ah 1) (.ah 4)) (.ah 3))] [],.ig (.ah 3) .ei (.ai 1)]) sK (l.map λn:Nat=>V.int n) [.ref A.p,.ref zp,.int k,.int s,x] u=.ok .next [.ref A.p,.ref zp,.int (pO u8 l s k),s',x'] u
 | [],s,k,x,_,_=>⟨.int s,x,jl S⟩
 | p::l,s,k,x,hl,hn=>by
  have hp:=hl p (.head _)
  have hn':s+1+l.length<=size:=ae (d0 (by rw[eQ];rfl)) hn
  have lt:=aq (aq (gN s) (aW _ _)) hn'
  obtain⟨s',x',e⟩:=HL S hz z3 z5 l (s+1) (if p=0 then k else k^^^u8 p s) (.int p) (λp h=>hl p (.tail _ h)) hn'
  refine⟨s',x',dE S (cA rfl rfl ?_) e⟩
  by_cases h:p=0
  .rw[aF h]
   exact cu ⟨rfl⟩ (Q2 h) ⟨rfl⟩
  .rw[aZ h]
   refine d5 λGG Y=>?_
   refine iJ (z5 p hp) λtJ zl=>jc λr1 r2 r3=>?_
   refine Y ?_
   exact de ⟨rfl⟩ (SM h) (gU rfl (et (lT (ag rfl) (ag rfl) z3 rfl (Hl (aK hp (aa rfl))) r1) (ag rfl) r2 (aK lt (aK hz (aa rfl))) (r3 s lt)) (nC k _) rfl ⟨rfl⟩)
theorem EI{A:Ad}{v:Pv}{u:St}{u8:Nat->Nat->Nat}{rk ek:Nat->Nat}{sk wd size:Nat}{ok:Nat->Prop}{fs:List (eM×V)}(d mk:Nat)(P:eV A v u)(Z:Fj A.z rk ek sk wd u)(Zm:oZ A.z u8 size ok u)(hg:u[A.g]?=some (.inst .eE fs))(fw:hP .files fs=some (.int wd))(h0:0<wd)(h8:wd<=8)(hr:v.aX<16)
  (hb:v.aN.length=size) (hz:size<64) (hm:∀p∈v.aN,p<15):af (d+2) mk .EJ [.ref A.p] u=.ok (.int (C3 u8 rk ek sk wd v)) u:=by
 refine d5 λGG Y=>?_
 refine nG Zm.wH λzf zp rows=>Qi λz1 _ z2 z3 _ z5=>?_
 refine iJ (HL (C:=⟨af (d+1),u.length⟩) (A:=A) (sK:=some (A.b,aR v.aN)) (bp P.b) hz z3 (λp hp=>by refine iJ (z5 p hp) λtJ zl=>mT λr1 _ r2 r3=>?_;exact⟨tJ,zl,r1,r2,r3⟩) v.aN 0 (KW rk ek sk wd v) .av hm (by simp only[hb,cx];exact cH _)) λs' x' e=>?_
 refine Y ?_;exact gX Af [.ref A.p,.av,.av,.av,.av] rfl rfl rfl rfl aU (bG (bg (bg (ag rfl) P.p rfl) z1 z2) rfl rfl (bG (bw ⟨rfl⟩ (CA d u.length P Z hg fw h0 h8 hr)) rfl rfl (bG bh rfl rfl (iQ (bg (ag rfl) P.p rfl) (iF P.b (by simp only[aB,hb];exact ae (dZ hz) (aa rfl))) e ⟨rfl⟩))))
theorem Ij{P:Nat->Prop}(z:P 0)(e:∀k,P (k+1)->P (2*(k+1)))(o:∀k,P k->P (2*k+1)):∀n,P n:=λn=>
 S4 n λn ih=>(iE n).elim
  (λh=>by
   have q:=dP n 2
   rw[h]at q
   cases hk:n/2 with
   | zero=>rw[hk]at q;exact q▸z
   | succ k=>rw[hk]at q;exact q▸e k (ih (k+1) (q▸P6 (Nat.lt_add_of_pos_left (eP k)) (VW _).symm)))
  (λh=>by
   have q:=dP n 2
   rw[h]at q
   exact q▸o (n/2) (ih _ (aq (hH (Nat.le_mul_of_pos_left (n/2) (aa rfl))) (d0 q))))
theorem Po(a:Nat){c:Nat}(h:c<2):(2*a+c)/2=a:=by rw[uK (aa rfl),gQ h];rfl
theorem R5(a:Nat){c:Nat}(h:c<2):(2*a+c)%2=c:=by simp only[S5,eI h]
theorem SH(a b:Nat){c d:Nat}(h:c<2)(h':d<2):(2*a+c)&&&(2*b+d)=2*(a&&&b)+(c&&&d):=by
 refine((dP ((2*a+c)&&&(2*b+d)) 2)).symm.trans ?_;simp only[S9,show((2*a+c)&&&(2*b+d))%2=_ from Nz (n:=1)];simp only[Po a h,Po b h',R5 a h,R5 b h']
theorem R8:∀x:Nat,0<x->∃j,x-(x&&&(x-1))=2^j/\2^j<=x:=by
 refine Ij (λh=>absurd h (i6 0)) (λk ih J=>?_) (λk J J=>⟨0,?_,eP _⟩)
 .refine(ih (eP k)).elim λj h=>⟨j+1,?_,?_⟩
  .refine(aM (2*(k+1)-·) (SH (k+1) k (c:=0) (by decide) (by decide))).trans ?_;refine(Nat.mul_sub 2 (k+1) ((k+1)&&&k)).symm.trans ?_;rw[c9];exact aM (· * 2) h.1
  .rw[iZ,c9];exact bx 2 h.2
 .refine(aM (2*k+1-·) (SH k k (d:=0) (by decide) (by decide))).trans ?_;rw[Nat.and_self];exact Nat.add_sub_add_left (2*k) 1 0
theorem Lw(b:Nat): -(b:Int)-1=V3 b:=by simp only[Int.negSucc_eq,Nk];rfl
theorem QR(x b:Nat):binI .and (x:Int) (V3 b)=some ((x-(x&&&b):Nat):Int):=by
 show L8 _ _=_
 unfold L8;refine aM some ?_;show x-((x&&&(((b:Int)+1)-1).toNat):Int)=_;rw[fK];exact(ii pI).symm
theorem SE(x b:Nat):binI .and (x:Int) (-(b:Int)-1)=some ((x-(x&&&b):Nat):Int):=by rw[Lw];exact QR x b
theorem SD{x:Nat}(h:0<x):binI .and (x:Int) (-(x:Int))=some ((x-(x&&&(x-1)):Nat):Int):=by
 cases x with
 | zero=>exact absurd h (i6 0)
 | succ k=>exact QR (k+1) k
theorem dv{P:Nat->Prop}{n:Nat}(h:∀j,j<n->P j)(h':P n):∀j,j<n+1->P j:=λj hj=>(dO.mp hj).elim (h j) λe=>e▸h'
noncomputable def TO:RX->RX
 | .ok f _ u=>.ok f [] u
 | .fY _ u=>.fY [] u
 | .cn=>.cn
theorem OB{X:RX}{f:Fl}{u:St}(h:TO X=.ok f [] u):∃sw,X=.ok f sw u:=by
 cases X with
 | ok g E N=>cases h;exact⟨E,rfl⟩
 | fY E N=>cases h
 | cn=>cases h
theorem Gy(d mk:Nat)(u:St):∀j:Nat,j<25->af (d+1) mk .vW [.int (2^j:Nat)] u=.ok (.int j) u:=by
 have go:∀ {j:Nat},TO (iH ⟨af d,u.length⟩ xf [.int (2^j),.av,.av] u)=.ok (.ret (.int j)) [] u->af (d+1) mk .vW [.int (2^j:Nat)] u=.ok (.int j) u:=λ{j} e=>
  (OB e).elim λsw e=>gX xf [.int (2^j:Nat),.av,.av] rfl rfl rfl rfl aU ⟨e⟩
 refine dv ?_ (go rfl);refine dv ?_ (go rfl);refine dv ?_ (go rfl);refine dv ?_ (go rfl);refine dv ?_ (go rfl);refine dv ?_ (go rfl);refine dv ?_ (go rfl);refine dv ?_ (go rfl);refine dv ?_ (go rfl);refine dv ?_ (go rfl);refine dv ?_ (go rfl);refine dv ?_ (go rfl);refine dv ?_ (go rfl);refine dv ?_ (go rfl);refine dv ?_ (go rfl);refine dv ?_ (go rfl);refine dv ?_ (go rfl);refine dv ?_ (go rfl);refine dv ?_ (go rfl);refine dv ?_ (go rfl);refine dv ?_ (go rfl);refine dv ?_ (go rfl);refine dv ?_ (go rfl);refine dv ?_ (go rfl);exact dv (λj h=>absurd h (iO j)) (go rfl)
theorem Bx{x j:Nat}(d mk:Nat)(u:St)(h0:0<x)(hj:x-(x&&&(x-1))=2^j)(h:j<25):af (d+2) mk .wU [.int x] u=.ok (.int j) u:=by
 have h1:=SD h0
 rw[hj]at h1;have h2:=Gy d u.length u j h;apply b6 E6 [.int x] rfl rfl rfl rfl
 .exact dN (bw (ak (df (ag rfl) (kL (ag rfl)) h1) rfl aY) h2)
 .exact aM _ aU
theorem Gm{x:Nat}(d mk:Nat)(u:St)(h0:0<x)(hx:x<2^25):∃j:Nat,af (d+2) mk .wU [.int x] u=.ok (.int j) u:=by
 refine cP (R8 x h0) λj=>cJ λh1 h2=>?_
 exact⟨j,Bx d mk u h0 h1 ((Nat.pow_lt_pow_iff_right (aa rfl)).mp (az h2 hx))⟩
theorem Om(k:Nat):2^k-(2^k&&&(2^k-1))=2^k:=by
 simp only[fP,Vf,Nat.sub_zero]
theorem Gk(d mk k:Nat)(u:St)(h:k<25):af (d+2) mk .wU [.int (2^k:Nat)] u=.ok (.int k) u:=Bx d mk u (eW k) (Om k) h
theorem wO{A:Ad}{v:Pv}{u:St}(d mk s k x y:Nat)(P:eV A v u)(S:v.cQ[s]?=some x)(hk:v.kinds[k]?=some y)(h1:s<100)(h2:k<100):af (d+1) mk .k8 [.ref A.p,.int s,.int k] u=.ok (.int (x&&&y:Nat)) u:=
 gX E5 [.ref A.p,.int s,.int k] rfl rfl rfl rfl aU (dN (df (et (bg (ag rfl) P.p rfl) (ag rfl) P.s (aK h1 (by decide)) S) (et (bg (ag rfl) P.p rfl) (ag rfl) P.k (aK h2 (by decide)) hk) (iX x y)))
theorem HK(d mk k:Nat)(u:St):af (d+1) mk .mH [.int (2^k:Nat)] u=.ok (.bool false) u:=by
 have h1:=Do k
 have h2:=iX (2^k) (2^k-1)
 simp only[fP,Vf]at h2;apply b6 rP [.int (2^k:Nat)] rfl rfl rfl rfl
 .exact dN (j5 (df (ag rfl) (df (ag rfl) bh h1) h2) (GX bh))
 .exact aM _ aU
theorem yo{A:Ad}{v:Pv}{u:St}(d mk s x y k:Nat)(P:eV A v u)(S:v.cQ[s]?=some x)(hk:v.kinds[6]?=some y)(hxy:x&&&y=2^k)(h:k<25)(h1:s<100):af (d+3) mk .hF [.ref A.p,.int s] u=.ok (.int k) u:=by
 have e:=iX x y
 rw[hxy]at e;exact gX uD [.ref A.p,.int s] rfl rfl rfl rfl aU (dN (bw (ak (df (et (bg (ag rfl) P.p rfl) (ag rfl) P.s (aK h1 (aa rfl)) S) (et (bg (ag rfl) P.p rfl) (dn rfl) P.k (aa rfl) hk) e) rfl aY) (Gk d u.length k u h)))
theorem Ja{A:Ad}{v:Pv}{u:St}{u8:Nat->Nat->Nat}{rk ek:Nat->Nat}{sk wd size:Nat}{ok:Nat->Prop}{fs:List (eM×V)}(d mk:Nat)(P:eV A v u)(Z:Fj A.z rk ek sk wd u)(Zm:oZ A.z u8 size ok u)(hg:u[A.g]?=some (.inst .eE fs))(fw:hP .files fs=some (.int wd))(h0:0<wd)(h8:wd<=8)(hr:v.aX<16)
  (hb:v.aN.length=size) (hz:size<64) (hm:∀p∈v.aN,p<15):af (d+3) mk .yN [.ref A.p] u=.ok .none (u.set A.p (.inst .gj (mW A { v with key:=C3 u8 rk ek sk wd v }))):=by
 have k:=EI d u.length P Z Zm hg fw h0 h8 hr hb hz hm
 have Pp:=P.p
 apply b6 wk [.ref A.p] rfl rfl rfl rfl
 .refine uS (bw ⟨rfl⟩ k) (ag rfl) Pp rfl rfl ?_;exact dQ
 .show RE.ok _ _=_
  exact aM _ (br (by simp))
theorem wY{u:St}{a:Nat}{vs:List V}(h:u[a]?=some (.eY vs))(hl:vs.length<=hV):fU (.ref a) u=some (some (a,.eY vs),vs):=by
 show((u[a]?).bind λo=>match o with
  | .gV a b c=>if Bj a b c/\gD a b c<=hV then some (none,ie a c (gD a b c))else none
  | o=>o.seq?.bind λvs=>if vs.length<=hV then some (some (a,o),vs)else none)=_
 exact h▸(aF hl)
theorem LU{A:Ad}{v:Pv}{u:St}(d mk x0 x1 y k0 k1:Nat)(P:eV A v u)(h0:v.cQ[0]?=some x0)(h1:v.cQ[1]?=some x1)(hk:v.kinds[6]?=some y)(e0:x0&&&y=2^k0)(e1:x1&&&y=2^k1):af (d+2) mk .sY [.ref A.p] u=.ok .none u:=by
 have P':=P.ky [.eY [.int 0,.int 1]]
 have p0:=wO d u.length 0 6 x0 y P' h0 hk (aa rfl) (by decide)
 have p1:=wO d u.length 1 6 x1 y P' h1 hk (aa rfl) (by decide)
 rw[e0]at p0;rw[e1]at p1;have m0:=HK d u.length k0 (u++[.eY [.int 0,.int 1]]);have m1:=HK d u.length k1 (u++[.eY [.int 0,.int 1]]);have hn:∀k:Nat,decide (((2^k):Int)=0)=false:=λk=>bP (by have:=eW k;lia)
 have xT:∀(s k) (x y),af (d+1) u.length .k8 [.ref A.p,.int s,.int 6] (u++[.eY [.int 0,.int 1]])=.ok (.int (2^k:Nat)) (u++[.eY [.int 0,.int 1]])->af (d+1) u.length .mH [.int (2^k)] (u++[.eY [.int 0,.int 1]])=.ok (.bool false) (u++[.eY [.int 0,.int 1]]) ->
   body ⟨af (d+1),u.length⟩ (.ah 1) [.assign (.ah 2) (.call .k8 [(.ah 0),(.ah 1),(.cW .yb)]),.fB (.cy (.ah 2) [.eq] [(.ai 0)]) [.raise (.un .pD (.ai 1))] [],.fB (.val (.call .mH [(.ah 2)])) [.raise (.call .vW [(.ah 2)])] []] (.int s) [.ref A.p,x,y] (u++[.eY [.int 0,.int 1]])=.ok .next [.ref A.p,.int s,.int (2^k:Nat)] (u++[.eY [.int 0,.int 1]]):=λs k x y h h'=>by
  refine cA rfl rfl ?_;refine bG (bw ⟨rfl⟩ h) rfl rfl ?_;refine cu ⟨rfl⟩ (hn k) ?_;refine cu (j9 (bw ⟨rfl⟩ h') rfl) rfl ?_;exact dQ
 have S:same (some (u.length,.eY [.int 0,.int 1])) (u++[.eY [.int 0,.int 1]])=true:=bp (dR _ _)
 have tp:Ev ⟨af (d+1),u.length⟩ (.eY [.cW .lX,.cW .nk]) [.ref A.p,.av,.av] u (.ref u.length) (u++[.eY [.int 0,.int 1]]):=xA ⟨rfl⟩
 apply b6 uH [.ref A.p,.av,.av] rfl rfl rfl rfl
 .exact iQ tp (wY (dR _ _) (aa rfl)) (dE S (xT 0 k0 _ _ p0 m0) (dE S (xT 1 k1 _ _ p1 m1) (jl S))) dQ
 .exact aM _ (cR rfl)
theorem Lj{A:Ad}{v:Pv}{u:St}{fs:List (eM×V)}{rm ht y m0 m1:Nat}{ml:List Nat}(d mk:Nat)(P:eV A v u)(hk:v.kinds[1]?=some y)(hg:u[A.g]?=some (.inst .eE fs))(fr:hP .jI fs=some (.ref rm))(fh:hP .rN fs=some (.int ht))(h0:0<ht)(h8:ht<=8)(hm:u[rm]?=some (aR ml))(g0:ml[0]?=some m0)(g1:ml[ht-1]?=some m1)(hy:y<2^25):
  af (d+3) mk .sX [.ref A.p] u=if y&&&(m0|||m1)=0 then .ok .none u else .fY u:=by
 have Pp:=P.p
 have e0:=oY m0 m1
 have e1:=iX y (m0|||m1)
 have e2:binI .sub ht 1=some ((ht-1:Nat):Int):=by show some _=some _;congr 1;lia
 have wD:∀ {X:RX},Xs ⟨af (d+2),u.length⟩ (kh.drop 2) [.ref A.p,.ref A.g,.int (y&&&(m0|||m1))] u X->Xs ⟨af (d+2),u.length⟩ kh [.ref A.p,.av,.av] u X:=λh=>by
  refine bG (bg (ag rfl) Pp rfl) rfl rfl ?_;refine bG (df (lT (bg (ag rfl) Pp rfl) (dn rfl) P.k rfl ⟨by decide,by decide⟩ (lq hk)) (df (lT (bg (ag rfl) hg fr) bh hm rfl ⟨by decide,by decide⟩ (lq g0)) (lT (bg (ag rfl) hg fr) (df (bg (ag rfl) hg fh) bh e2) hm rfl ⟨by lia,by lia⟩ (lq g1)) e0) e1) rfl rfl ?_;exact h
 by_cases hz:y&&&(m0|||m1)=0
 .rw[aF hz];apply b6 kh [.ref A.p,.av,.av] rfl rfl rfl rfl
  .refine wD (cu ⟨rfl⟩ (bP (hz▸λq=>q rfl)) dQ)
  .exact aM _ aU
 .rw[aZ hz];refine cP (Gm d u.length u (ed hz) (az pI hy)) λj hj=>?_
  refine(call_exc kh [.ref A.p,.av,.av] rfl rfl rfl rfl (wD (de ⟨rfl⟩ (bp (by lia)) (jh (bw ⟨rfl⟩ hj))))).trans (aM _ aU)
noncomputable def kX:List Nat->Nat->List Nat×List Nat->List Nat×List Nat
 | [],_,q=>q
 | p::r,s,q=>kX r (s+1) (if p=0 then q else(q.1.set (p%8) (q.1.getD (p%8) 0|||2^s),q.2.set (p/8) (q.2.getD (p/8) 0|||2^s)))
theorem Cz{p s:Nat}{r:List Nat}{q:List Nat×List Nat}:kX (p::r) s q=kX r (s+1) (if p=0 then q else(q.1.set (p%8) (q.1.getD (p%8) 0|||2^s),q.2.set (p/8) (q.2.getD (p/8) 0|||2^s))):=rfl
def k9(p:Nat):Prop:=p=0\/(p<15/\1<=p%8/\p%8<=6)
theorem zJ{f:V->List V->St->RX}{sK:Option (Nat×O)}{v:V}{vs E sw:List V}{u re:St}{r:RX}(h:same sK u=true)(h1:f v E u=.ok .cont sw re)(h2:forLoop f sK vs sw re=r):forLoop f sK (v::vs) E u=r:=by
 have e:forLoop f sK (v::vs) E u=match f v E u with
  | .ok (.ret v) E u=>.ok (.ret v) E u
  | .ok _ E u=>forLoop f sK vs E u
  | .fY E u=>.fY E u
  | .cn=>.cn:=aF h
 refine e.trans ?_;exact h1▸h2
section
variable{d mk:Nat}{A:Ad}{v:Pv}{u:St}
noncomputable def PA(A:Ad)(n:Nat)(x y z cr:V):List V:=[.ref A.p,.ref A.g,.ref (n+1),.ref (n+2),x,y,z,cr]
noncomputable def bH(u:St)(ks U:List Nat):St:=u++[.list [.int 0],aR ks,aR U]
theorem J1(Pp:∀ {N},(u++N)[A.p]?=some (.inst .gj (mW A v)))(Pb:u[A.b]?=some (aR v.aN))(hz:v.aN.length<64):∀(l:List Nat) (s:Nat) (ks U:List Nat) (x y:V),(∀p∈l,k9 p)->v.aN.drop s=l->ks.length=7->U.length=2 ->
  ∃x' y',forLoop (body ⟨af (d+1),mk⟩ (.ah 4) [.assign (.ah 5) (.sub (.aS (.ah 0) .aN) (.ah 4)),.fB (.cy (.ah 5) [.eq] [(.cW .nM)]) [.cont] [],.fB (.any [(.not (.cy (.ai 0) [.lt,.lt] [(.ah 5),(.ai 15)])),(.not (.cy (.cW .An) [.le,.le] [(.call .pN [(.ah 5)]),(.cW .yb)]))]) [.raise (.ah 4)] [],.ig (.sub (.ah 2) (.call .pN [(.ah 5)])) .or (.aQ .qQ (.ai 1) (.ah 4)),.ig (.sub (.ah 3) (.call .vE [(.ah 5)])) .or (.aQ .qQ (.ai 1) (.ah 4))])
   none ((jZ s l.length).map λn:Nat=>V.int n) (PA A u.length x y .av .av) (bH u ks U)=.ok .next (PA A u.length x' y' .av .av) (bH u (kX l s (ks,U)).1 (kX l s (ks,U)).2):=by
 intro l;induction l with
 | nil=>exactλs ks U x y J J J J=>⟨x,y,rfl⟩
 | cons p l ih=>
  intro s ks U x y hm hd h7 h2;have hp:v.aN[s]?=some p:=by
   have:=aM (·[0]?) hd
   rwa [NE]at this
  have s64:=aK (aJ.mp hp).1 hz
  have hd':v.aN.drop (s+1)=l:=by refine DI.symm.trans ?_;exact aM _ hd
  have ih:=λks U=>ih (s+1) ks U (.int s) (.int p) (λp h=>hm p (.tail _ h)) hd'
  have bd:Ev ⟨af (d+1),mk⟩ (.sub (.aS (.ah 0) .aN) (.ah 4)) (PA A u.length (.int s) y .av .av) (bH u ks U) (.int p) (bH u ks U):=et (bg (ag rfl) Pp rfl) (ag rfl) (bv Pb) (aK s64 (aa rfl)) hp
  have pv:Ev ⟨af (d+1),mk⟩ (.ah 5) (PA A u.length (.int s) (.int p) .av .av) (bH u ks U) (.int p) (bH u ks U):=ag rfl
  simp only[Cz];by_cases h0:p=0
  .rw[aF h0];refine iJ (ih ks U h7 h2) λx' y' e=>?_
   exact⟨x',y',zJ rfl (cA rfl rfl (bG bd rfl rfl (de ⟨rfl⟩ (UD h0) Kz))) e⟩
  .rw[aZ h0];have pm:=(hm p (.head _)).resolve_left h0;have p8:p/8<2:=cU (aq pm.1 (aa rfl));have p7:p%8<7:=hH pm.2.2;refine iJ (ih (ks.set (p%8) (ks.getD (p%8) 0|||2^s)) (U.set (p/8) (U.getD (p/8) 0|||2^s)) (aV.trans h7) (aV.trans h2)) λx' y' e=>?_
   have n1:Bo ⟨af (d+1),mk⟩ (.not (.cy (.ai 0) [.lt,.lt] [(.ah 5),(.ai 15)])) (PA A u.length (.int s) (.int p) .av .av) (bH u ks U) false (bH u ks U):=xI (t:=true) (dg bh (Py pv (aM some (PY (ed h0))) (gf bh (aM some (PY pm.1)))))
   have n2:Bo ⟨af (d+1),mk⟩ (.not (.cy (.cW .An) [.le,.le] [(.call .pN [(.ah 5)]),(.cW .yb)])) (PA A u.length (.int s) (.int p) .av .av) (bH u ks U) false (bH u ks U):=xI (t:=true) (dg (dn rfl) (Py (bw ⟨rfl⟩ (yp d mk p _)) (aM some (PZ pm.2.1)) (gf (dn rfl) (aM some (PZ pm.2.2)))))
   refine⟨x',y',dE rfl (cA rfl rfl (bG bd rfl rfl (cu ⟨rfl⟩ (Dx h0) (cu (gh n1 (gh n2 rz)) rfl (NO (ag rfl) (bw ⟨rfl⟩ (yp d mk p _)) (bJ rfl rfl) (aK p7 (aa rfl)) (h7▸p7) (df bh (ag rfl) (xl s s64)) ?_))))) e⟩;simp only[bH,dI];refine NO (ag rfl) (bw ⟨rfl⟩ (CB d mk p _)) (bJ rfl rfl) (aK p8 (aa rfl)) (h2▸p8) (df bh (ag rfl) (xl s s64)) ?_;simp only[dI];exact dQ
theorem BD{C:Cx}(Pp:∀ {N},(u++N)[A.p]?=some (.inst .gj (mW A v)))(Pk:u[A.k]?=some (aR v.kinds))(L:v.kinds.length=7){U:List Nat}{x y:V}:∀(l:List Nat) (z:V),(∀k∈l,k<7) ->
  ∃z',forLoop (body C (.ah 7) [.ig (.ah 6) .or (.aQ .Ay (.sub (.ah 2) (.ah 7)) (.sub (.aS (.ah 0) .kinds) (.ah 7)))]) none (l.map λn:Nat=>V.int n) (PA A u.length x y (.int (0:Nat)) z) (bH u v.kinds U)=.ok .next (PA A u.length x y (.int (0:Nat)) z') (bH u v.kinds U)
 | [],z,_=>⟨z,rfl⟩
 | k::l,z,hl=>by
  have k7:=hl k (.head _)
  have k4:=aK k7 (by decide:7<4096)
  have xk:=getD_at L k7
  have h1:=nC (v.kinds.getD k 0) (v.kinds.getD k 0)
  rw[Kg]at h1
  obtain⟨z',e⟩:=BD Pp Pk L l (.int k) λk h=>hl k (.tail _ h)
  exact⟨z',dE rfl (cA rfl rfl (gU rfl (df (et (ag rfl) (ag rfl) (bJ rfl rfl) k4 xk) (et (bg (ag rfl) Pp rfl) (ag rfl) (bv Pk) k4 xk) h1) (oY 0 0) rfl dQ)) e⟩
end
theorem JZ{A:Ad}{v:Pv}{u:St}{fs:List (eM×V)}{size F:Nat}(d mk:Nat)(P:eV A v u)(L:v.Na size)(hg:u[A.g]?=some (.inst .eE fs))(fz:hP .size fs=some (.int size))(ff:hP .full fs=some (.int F))(hz:size<64)(hm:∀p∈v.aN,k9 p)
  (hk:(kX v.aN 0 (aw 7 0,[0,0])).1=v.kinds) (S:(kX v.aN 0 (aw 7 0,[0,0])).2=v.cQ):af (d+2) mk .rj [.ref A.p] u=.ok .none u:=by
 refine d5 λGG Y=>?_
 have Pp:∀ {N},(u++N)[A.p]?=some (.inst .gj (mW A v)):=bv P.p
 have len:∀ {b:ME} {f:eM} {ad:Nat} {l:List Nat} {m:Nat},l.length=m->m<=100->Ev ⟨af (d+1),u.length⟩ b ([.ref A.p,.ref A.g,.av,.av,.av,.av,.av,.av]) u (.int m) u->hP f (mW A v)=some (.ref ad)->u[ad]?=some (aR l)->Bo ⟨af (d+1),u.length⟩ (.cy (.bi .len [.aS (.ah 0) f]) [.ne] [b]) ([.ref A.p,.ref A.g,.av,.av,.av,.av,.av,.av]) u false u:=λ{b f ad l m} h1 h2 hb hf ha=>by
  have e:=dg (pC (ak (bg (ag (j:=0) rfl) P.p hf) rfl aY) (xd ha (by simp only[aB,h1];exact ae h2 (aa rfl)))) (GX hb)
  simp only[aB,h1]at e;exact e.to (Uy rfl)
 refine iJ (J1 (d:=d) (mk:=u.length) Pp P.b (L.b▸hz) v.aN 0 (aw 7 0) [0,0] .av .av hm rfl rfl rfl) λx y e=>?_
 simp only[hk,S,L.b,<-fD]at e;have x0:=getD_at (i:=0) L.s (aa rfl);have x1:=getD_at (i:=1) L.s (aa rfl);have h1:=nC (v.cQ.getD 0 0) (v.cQ.getD 0 0);have h2:=nC (v.cQ.getD 1 0) (v.cQ.getD 1 0);simp only[Kg]at h1 h2;have wr:Ev ⟨af (d+1),u.length⟩ (.aQ .or (.aQ .Ay (.sub (.ah 3) (.cW .lX)) (.sub (.aS (.ah 0) .cQ) (.cW .lX))) (.aQ .Ay (.sub (.ah 3) (.cW .nk)) (.sub (.aS (.ah 0) .cQ) (.cW .nk)))) (PA A u.length x y .av .av) (bH u v.kinds v.cQ) (.int (0)) (bH u v.kinds v.cQ):=
  df (df (et (ag rfl) (dn rfl) (bJ rfl rfl) (by decide) x0) (et (bg (ag rfl) Pp rfl) (dn rfl) (bv P.s) (by decide) x0) h1)
   (df (et (ag rfl) (dn rfl) (bJ rfl rfl) (by decide) x1) (et (bg (ag rfl) Pp rfl) (dn rfl) (bv P.s) (by decide) x1) h2) (oY 0 0)
 refine cP (BD (C:=⟨af (d+1),u.length⟩) (U:=v.cQ) (x:=x) (y:=y) Pp P.k L.k (aI 7) .av λk h=>bW.mp h) λz f0=>?_
 have l1:=len (f:=.aN) L.b (ae (dZ hz) (aa rfl)) (bg (o:=.ah 1) (ag rfl) hg fz) rfl P.b
 have l2:=len (f:=.kinds) L.k (aa rfl) bh rfl P.k
 have l3:=len (f:=.cQ) L.s (aa rfl) bh rfl P.s
 have R:=ej (u:=bH u (aw 7 0) [0,0]) (ae (dZ hz) (aa rfl))
 have R7:=ej (w:=7) (u:=bH u v.kinds v.cQ) (aa rfl)
 have sd0:=tL (C:=⟨af (d+1),u.length⟩) (E:=[.ref A.p,.ref A.g,.ref (u.length+1),.av,.av,.av,.av,.av]) (ak (bh (k:=0)) rfl (ak (bh (k:=0)) rfl aY)) (by refine aj.trans ?_;rfl:(u++[O.list [V.int 0],O.list (aw 7 (V.int 0))]).length=u.length+2)
 simp only[am]at sd0;refine Y ?_;apply b6 tf [.ref A.p,.av,.av,.av,.av,.av,.av,.av] rfl rfl rfl rfl
 .refine bG (bg (ag rfl) P.p rfl) rfl rfl ?_;refine cu (gh l1 (gh l2 (gh l3 rz))) rfl ?_;refine bG (yW ⟨rfl⟩ (n:=7) (aa rfl) bh) rfl rfl (bG sd0 rfl rfl ?_);refine iQ (iR (ak (bg (ag rfl) (bv hg) fz) rfl aY) R.1) R.2 e (bG wr rfl rfl (iQ (iR ⟨rfl⟩ R7.1) R7.2 f0 ?_));refine cu (gh (t:=false) ⟨rfl⟩ (gh (t:=false) ((dg (ag rfl) (gf (bg (ag rfl) (bv hg) ff) rfl)).to ?_) rz)) rfl ⟨rfl⟩;rfl
 .exact aM _ (cR rfl)
noncomputable def sW(wd ht:Nat)(v:Pv)(q:Nat):Bool:=
 decide (5<=ht)&&if v.bL=0 then decide (q/wd=ht-3)&&decide (v.aN.getD q 0=0)&&decide (v.aN.getD (q+wd) 0=0)&&decide (v.aN.getD (q-wd) 0=9)
  else decide (q/wd=2)&&decide (v.aN.getD q 0=0)&&decide (v.aN.getD (q-wd) 0=0)&&decide (v.aN.getD (q+wd) 0=1)
theorem H8{A:Ad}{v:Pv}{u:St}{fs:List (eM×V)}{wd size q s1 s2 rk m:Nat}{ahead:Int}(d:Nat)(P:eV A v u)(hb:v.aN.length=size)(hz:size<64)(hq:q<size)(hg:u[A.g]?=some (.inst .eE fs))(fw:hP .files fs=some (.int wd))(h0:0<wd)(h8:wd<=8)
  (hr:q/wd=rk->s1<size/\s2<size/\((q:Int)+ahead=s1)/\((q:Int)-ahead=s2))
  (hm:af (d+1) u.length .gd [.int (1-(v.bL:Int)),.int 1] u=.ok (.int m) u) :
  ∃sw,Xs ⟨af (d+1),u.length⟩ (kO.drop 5) [.ref A.p,.int q,.ref A.g,.int rk,.int ahead] u (.ok (.ret (.bool (decide (q/wd=rk)&&decide (v.aN.getD q 0=0)&&decide (v.aN.getD s1 0=0)&&decide (v.aN.getD s2 0=m)))) sw u):=by
 have sq:∀ {e:ME} {s:Nat},s<size->Ev ⟨af (d+1),u.length⟩ e [.ref A.p,.int q,.ref A.g,.int rk,.int ahead] u (.int s) u->Ev ⟨af (d+1),u.length⟩ (.sub (.aS (.ah 0) .aN) e) [.ref A.p,.int q,.ref A.g,.int rk,.int ahead] u (.int (v.aN.getD s 0)) u:=λl h=>et (bg (ag rfl) P.p rfl) h P.b (aK l (aK hz (aa rfl))) (getD_at hb l)
 have c1:=uc (C:=⟨af (d+1),u.length⟩) (E:=[.ref A.p,.int q,.ref A.g,.int rk,.int ahead]) (j7 (ag (j:=1) rfl) (bg (ag (j:=2) rfl) hg fw) h0 (az h8 (aa rfl))) (ag (j:=3) rfl)
 by_cases h:q/wd=rk
 .refine mT (λl1 l2 e1 e2=>?_) (hr h);rw[bp h]at c1 ⊢;have c2:=uc (b:=0) (sq hq (ag (j:=1) rfl)) (dn (g:=.nM) rfl);have c3:=uc (b:=0) (sq l1 (df (op:=.ei) (ag (j:=1) rfl) (ag (j:=4) rfl) (aM some e1))) (dn (g:=.nM) rfl);by_cases z0:v.aN.getD q 0=0
  .rw[bp z0]at c2 ⊢;by_cases z1:v.aN.getD s1 0=0
   .rw[bp z1]at c3 ⊢;exact⟨_,cu c1 rfl (cu (gh c2 (gh c3 rz)) rfl (dN (Lg (sq l2 (df (ag rfl) (ag rfl) (aM some e2))) (bw (ak (df bh (bg (ag rfl) P.p rfl) rfl) rfl ⟨rfl⟩) hm))))⟩
   .rw[bP z1]at c3 ⊢;exact⟨_,cu c1 rfl (de (gh c2 (gh c3 ⟨rfl,rfl⟩)) rfl (dN pY))⟩
  .rw[bP z0]at c2 ⊢;exact⟨_,cu c1 rfl (de (gh c2 ⟨rfl,rfl⟩) rfl (dN pY))⟩
 .rw[bP h]at c1 ⊢;exact⟨_,de c1 rfl (dN pY)⟩
theorem yJ{w h q r:Nat}(w0:0<w)(e:q/w=r)(h1:1<=r)(h2:r+2<=h):q<w*h/\q+w<w*h/\q-w<w*h/\w<=q:=by
 have d1:=dP q w
 rw[e]at d1;have d2:=az (d0 d1.symm) (fg (dK q w0) _);have d3:=aq (pj d2 w) (bx w h2);have d4:=az (aW q w) d3;exact⟨d4,d3,az (eH q w) d4,ae (tC w h1) (ae (aW _ _) (d0 d1))⟩
theorem Dd{A:Ad}{v:Pv}{u:St}{fs:List (eM×V)}{wd ht size q:Nat}(d mk:Nat)(P:eV A v u)(hb:v.aN.length=size)(hz:size<64)(S:size=wd*ht)(hq:q<size)(IN:v.bL<2)(hg:u[A.g]?=some (.inst .eE fs))(fw:hP .files fs=some (.int wd))(fh:hP .rN fs=some (.int ht))(fz:hP .size fs=some (.int size))(fd:hP .q4 fs=some (.bool (decide (5<=ht))))(h0:0<wd)(h8:wd<=8):
  af (d+2) mk .qz [.ref A.p,.int q] u=.ok (.bool (sW wd ht v q)) u:=by
 have run:∀ {b:Bool} {sw},Xs ⟨af (d+1),u.length⟩ kO [.ref A.p,.int q,.av,.av,.av] u (.ok (.ret (.bool b)) sw u)->af (d+2) mk .qz [.ref A.p,.int q] u=.ok (.bool b) u:=λh=>iW kO [.ref A.p,.int q,.av,.av,.av] rfl rfl rfl rfl aU h
 have b1:=xI (j9 (C:=⟨af (d+1),u.length⟩) (bg (ag (E:=[.ref A.p,.int q,.ref A.g,.av,.av]) (j:=2) rfl) hg fd) rfl)
 unfold sW;by_cases h5:5<=ht
 .rw[bp h5]at b1 ⊢;have b2:=gh b1 (gh ((dg (ag (j:=1) rfl) (pF (bh (k:=0)))).to (Aq (fe _))) (gh ((dg (ag (j:=1) rfl) (u6 (bg (ag (j:=2) rfl) hg fz))).to (Nh hq)) rz));have sE:=w_eq (C:=⟨af (d+1),u.length⟩) (b:=0) (bg (ag (E:=[.ref A.p,.int q,.ref A.g,.int (2:Nat),.int (-(wd:Int))]) (j:=0) rfl) P.p (f:=.bL) rfl) (dn (g:=.lX) rfl);have wD:∀ {X:RX},Xs ⟨af (d+1),u.length⟩ (kO.drop 4) [.ref A.p,.int q,.ref A.g,.int (2:Nat),.int (-(wd:Int))] u X->Xs ⟨af (d+1),u.length⟩ kO [.ref A.p,.int q,.av,.av,.av] u X:=λh=>
   bG (bg (ag rfl) P.p rfl) rfl rfl (cu b2 rfl (bG (bC 2) rfl rfl (bG (kL (bg (ag rfl) hg fw)) rfl rfl h)))
  by_cases hs0:v.bL=0
  .rw[aF hs0];obtain⟨sw,t⟩:=H8 (s1:=q+wd) (s2:=q-wd) (ahead:=wd) (m:=9) d P hb hz hq hg fw h0 h8 (λe=>by
    have h3:=fH (ae (by decide:3<=5) h5)
    refine mT (λ_ u2 u3 u4=>?_) (yJ h0 e (ph (ae (by decide) h5)) (ae (i4 (ht-3+2)) (d0 h3)));exact S▸(⟨u2,u3,rfl,(ii u4).symm⟩)) (by rw[hs0];exact oB d u.length 1 1 u)
   exact run (wD (de sE (bp hs0) (bG (iT (bg (ag rfl) hg fh) (bC 3) (ae (by decide) h5)) rfl rfl (bG (bg (ag rfl) hg fw) rfl rfl t))))
  .rw[aZ hs0];obtain⟨sw,t⟩:=H8 (rk:=2) (m:=1) d P hb hz hq hg fw h0 h8 (λe=>by
    refine mT (λ_ u2 u3 u4=>?_) (yJ h0 e (aa rfl) (ae (aa rfl) h5));rw[S];exact⟨u3,u2,(ii u4).symm,(Cj ..).trans rfl⟩) (by rw[lK (b8 IN) (ed hs0)];exact oB d u.length 0 1 u)
   exact run (wD (cu sE (bP hs0) t))
 .rw[bP h5]at b1 ⊢;exact run (bG (bg (ag rfl) P.p rfl) rfl rfl (de (gh b1 ⟨rfl,rfl⟩) rfl (dN pY)))
theorem zQ{A:Ad}{v:Pv}{u:St}{fs:List (eM×V)}{pw pr q t x y:Nat}{rows:List V}{tl:List Nat}(d mk:Nat)(P:eV A v u)(hq:q<64)(IN:v.bL<2)(hg:u[A.g]?=some (.inst .eE fs))(fp:hP .Eh fs=some (.ref pw))(h1:u[pw]?=some (.list rows))(h2:rows[1-v.bL]?=some (.ref pr))(h3:u[pr]?=some (aR tl))(h4:tl[q]?=some t)
  (S:v.cQ[v.bL]?=some x) (hk:v.kinds[1]?=some y):af (d+2) mk .pQ [.ref A.p,.int q] u=.ok (.bool (decide (t&&&(x&&&y)≠0))) u:=by
 have U:Ev ⟨af (d+1),u.length⟩ (.aS (.ah 0) .bL) [.ref A.p,.int q] u (.int v.bL) u:=bg (ag rfl) P.p rfl
 have a1:=et (RT (bg (bg (ag (j:=0) rfl) P.p (f:=.qN) rfl) hg fp) (iT (bC 1) U (b8 IN)) h1 (az (eH 1 _) (aa rfl)) h2) (ag (j:=1) rfl) h3 (aK hq (aa rfl)) h4
 have a2:=j5 (df a1 (bw (f:=.k8) (ak (ag (j:=0) rfl) rfl (ak U rfl (ak (dn (g:=.An) rfl) rfl aY))) (wO d u.length v.bL 1 x y P S hk (aK IN (aa rfl)) (aa rfl))) (iX _ _)) (GX (bh (k:=0)))
 simp only[show decide (((t&&&(x&&&y)):Int)≠0)=decide (t&&&(x&&&y)≠0)from decide_eq_decide.mpr (not_congr Int.natCast_eq_zero)]at a2;exact iW uG [.ref A.p,.int q] rfl rfl rfl rfl aU (dN a2)
theorem EU{A:Ad}{v:Pv}{u:St}{st at':Bool}(d mk:Nat)(P:eV A v u)(h1:v.ep ≠ -1->af (d+2) u.length .qz [.ref A.p,.int v.ep] u=.ok (.bool st) u)(h2:v.ep ≠ -1->st=true->af (d+2) u.length .pQ [.ref A.p,.int v.ep] u=.ok (.bool at') u):
  af (d+3) mk .sZ [.ref A.p] u=if v.ep = -1\/(st=true/\at'=true)then .ok .none u else .fY u:=by
 have ep:Ev ⟨af (d+2),u.length⟩ (.aS (.ah 0) .ep) [.ref A.p] u (.int v.ep) u:=bg (ag rfl) P.p rfl
 have c1:=dg ep (wi (kL (bh (k:=1))))
 have ar:=ak (ag (j:=0) rfl) rfl (ak ep rfl aY)
 have ok:∀ {sw},Xs ⟨af (d+2),u.length⟩ mw [.ref A.p] u (.ok .next sw u)->af (d+3) mk .sZ [.ref A.p] u=.ok .none u:=λh=>b6 mw [.ref A.p] rfl rfl rfl rfl h (aM _ aU)
 have ex:∀ {sw},Xs ⟨af (d+2),u.length⟩ mw [.ref A.p] u (.fY sw u)->af (d+3) mk .sZ [.ref A.p] u=.fY u:=λh=>(call_exc mw [.ref A.p] rfl rfl rfl rfl h).trans (aM _ aU)
 by_cases he:v.ep = -1
 .rw[aF (.inl he)];exact b6 mw [.ref A.p] rfl rfl rfl rfl (de c1 (bp he) Kx) (aM (RE.ok V.none) aU)
 .have b1:=xI (j9 (bw (f:=.qz) ar (h1 he)) rfl)
  have c1:=λ{ss xs ys r}=>cu (ss:=ss) (xs:=xs) (ys:=ys) (r:=r) c1 (bP he)
  cases st with
  | false=>exact(ex (c1 (de b1 rfl (jh ep)))).trans (aZ λq=>q.elim he λq=>Q8 q.1).symm
  | true=>
   have b2:=xI (j9 (bw (f:=.pQ) ar (h2 he rfl)) rfl)
   cases at' with
   | false=>exact(ex (c1 (cu b1 rfl (de b2 rfl (jh ep))))).trans (aZ λq=>q.elim he λq=>Q8 q.2).symm
   | true=>exact(ok (c1 (cu b1 rfl (cu b2 rfl dQ)))).trans (aF (.inr ⟨rfl,rfl⟩)).symm
theorem DV{A:Ad}{v:Pv}{u:St}{x y:Nat}(d mk:Nat)(P:eV A v u)(h4:v.kinds[4]?=some x)(h5:v.kinds[5]?=some y):af (d+1) mk .lZ [.ref A.p] u=.ok (.int (x|||y:Nat)) u:=
 gX oR [.ref A.p] rfl rfl rfl rfl aU (dN (df (et (bg (ag rfl) P.p rfl) (dn rfl) P.k (aa rfl) h4) (et (bg (ag rfl) P.p rfl) (dn rfl) P.k (aa rfl) h5) (oY x y)))
theorem DY{A:Ad}{v:Pv}{u:St}{x y:Nat}(d mk:Nat)(P:eV A v u)(h4:v.kinds[3]?=some x)(h5:v.kinds[5]?=some y):af (d+1) mk .ma [.ref A.p] u=.ok (.int (x|||y:Nat)) u:=
 gX oV [.ref A.p] rfl rfl rfl rfl aU (dN (df (et (bg (ag rfl) P.p rfl) (dn rfl) P.k (aa rfl) h4) (et (bg (ag rfl) P.p rfl) (dn rfl) P.k (aa rfl) h5) (oY x y)))
theorem vH{A:Ad}{v:Pv}{u:St}{fs:List (eM×V)}{pw pr q U t x y:Nat}{rows:List V}{tl:List Nat}(d mk:Nat)(P:eV A v u)(hq:q<64)(IN:U<2)(hg:u[A.g]?=some (.inst .eE fs))(fp:hP .Eh fs=some (.ref pw))(h1:u[pw]?=some (.list rows))(h2:rows[1-U]?=some (.ref pr))(h3:u[pr]?=some (aR tl))(h4:tl[q]?=some t)
  (S:v.cQ[U]?=some x) (hk:v.kinds[1]?=some y):af (d+1) mk .oC [.ref A.p,.int q,.int U] u=.ok (.int (t&&&y&&&x:Nat)) u:=
 gX qB [.ref A.p,.int q,.int U] rfl rfl rfl rfl aU (dN (df (df
  (et (RT (bg (bg (ag rfl) P.p rfl) hg fp) (iT (bC 1) (ag rfl) (b8 IN)) h1 (az (eH 1 _) (by decide)) h2) (ag rfl) h3 (aK hq (aa rfl)) h4)
  (et (bg (ag rfl) P.p rfl) (dn rfl) P.k (by decide) hk) (iX _ _)) (et (bg (ag rfl) P.p rfl) (ag rfl) P.s (aK IN (aa rfl)) S) (iX _ _)))
theorem vC{A:Ad}{v:Pv}{u:St}{fs:List (eM×V)}{kn kg q U pa tn tk x y2 y6:Nat}{ln lk:List Nat}(d mk:Nat)(P:eV A v u)(hq:q<64)(IN:U<2)(hg:u[A.g]?=some (.inst .eE fs))(fn:hP .zw fs=some (.ref kn))(fk:hP .Ez fs=some (.ref kg))(h1:u[kn]?=some (aR ln))(h2:u[kg]?=some (aR lk))(h3:ln[q]?=some tn)(h4:lk[q]?=some tk)
  (S:v.cQ[U]?=some x) (hk2:v.kinds[2]?=some y2) (hk6:v.kinds[6]?=some y6) (hp:af (d+1) u.length .oC [.ref A.p,.int q,.int U] u=.ok (.int pa) u) :
  af (d+2) mk .ow [.ref A.p,.int q,.int U] u=.ok (.int (pa|||((tn&&&y2|||tk&&&y6)&&&x):Nat)) u:=
 gX qA [.ref A.p,.int q,.int U,.av,.av] rfl rfl rfl rfl aU (bG (bg (ag rfl) P.p rfl) rfl rfl
  (bG (df (et (bg (ag rfl) hg fn) (ag rfl) h1 (aK hq (by decide)) h3) (et (bg (ag rfl) P.p rfl) (dn rfl) P.k (by decide) hk2) (iX _ _)) rfl rfl
  (gU rfl (df (et (bg (ag rfl) hg fk) (ag rfl) h2 (aK hq (by decide)) h4) (et (bg (ag rfl) P.p rfl) (dn rfl) P.k (aa rfl) hk6) (iX _ _)) (oY _ _) rfl
  (dN (df (bw ⟨rfl⟩ hp) (df (ag rfl) (et (bg (ag rfl) P.p rfl) (ag rfl) P.s (aK IN (by decide)) S) (iX _ _)) (oY _ _))))))
noncomputable def KV:O:=.eY [.int 1,.int 0,.int (-1),.int 0,.int 1,.int (-1),.int (-1),.int 1]
noncomputable def sU(d:Nat):Bool:=d==0||d==1||d==4||d==7
theorem Gz(dp mk d:Nat)(u:St)(h:u[1]?=some KV)(hd:d<8):af (dp+1) mk .mr [.int d] u=.ok (.bool (sU d)) u:=by
 have go:∀ {e:Nat} {x:Int},([V.int 1,.int 0,.int (-1),.int 0,.int 1,.int (-1),.int (-1),.int 1])[e]?=some (.int x)->e<8->(if 0<x then true else decide ((e:Int)=1))=sU e->af (dp+1) mk .mr [.int e] u=.ok (.bool (sU e)) u:=λ{e x} h1 h2 h3=>by
  have a:Ev ⟨af dp,u.length⟩ (.cy (.sub (.cW .o5) (.ah 0)) [.gt] [(.ai 0)]) [.int e] u (.bool (decide (0<x))) u:=j5 (lT (dn rfl) (ag rfl) h rfl (Hl (aK h2 (aa rfl))) h1) (Dj bh)
  refine iW wt [.int e] rfl rfl rfl rfl aU (dN (HC ?_));show(ev _ _ _ _).bind _=_;rw[a.eq,RE.cV,<-h3];by_cases hx:0<x
  .rw[bp hx,aF hx];rfl
  .rw[bP hx,aZ hx];exact(j5 (ag rfl) (wi bh)).eq
 have all:=dv (dv (dv (dv (dv (dv (dv (dv (P:=λd=>af (dp+1) mk .mr [.int d] u=.ok (.bool (sU d)) u) (λj h=>absurd h (iO j)) (go rfl (aa rfl) rfl)) (go rfl (aa rfl) rfl)) (go rfl (aa rfl) rfl)) (go rfl (aa rfl) rfl)) (go rfl (aa rfl) rfl)) (go rfl (aa rfl) rfl)) (go rfl (aa rfl) rfl)) (go rfl (aa rfl) rfl)
 exact all d hd
noncomputable def Qq(x:Nat):Nat:=
 let b0:=x/2
 let b1:=b0|||b0/2
 let b2:=b1|||b1/2^2
 let b3:=b2|||b2/2^4
 let b4:=b3|||b3/2^8
 let b5:=b4|||b4/2^16
 b5|||b5/2^32
noncomputable def uV(g:Bool)(Wt GE:Nat):Nat:=
 if Wt&&&GE=0 then Wt else if g then Wt&&&((Wt&&&GE)^^^((Wt&&&GE)-1))else Wt-(Wt&&&Qq (Wt&&&GE))
theorem RO{g rl rd' Wt dr q GE dp mk:Nat}{u:St}{fs:List (eM×V)}{rows:List V}{l:List Nat}(h:u[1]?=some KV)(hd:dr<8)(hq:q<64)(hg:u[g]?=some (.inst .eE fs))(fr:hP .CD fs=some (.ref rl))(h1:u[rl]?=some (.list rows))(h2:rows[dr]?=some (.ref rd'))(h3:u[rd']?=some (aR l))(h4:l[q]?=some Wt):
  af (dp+2) mk .iz [.ref g,.int dr,.int q,.int GE] u=.ok (.int (uV (sU dr) Wt GE)) u:=by
 have wD:∀ {i:Nat} {sw},Xs ⟨af (dp+1),u.length⟩ (qd.drop 2) [.ref g,.int dr,.int q,.int GE,.int Wt,.int (Wt&&&GE),.av] u (.ok (.ret (.int i)) sw u)->af (dp+2) mk .iz [.ref g,.int dr,.int q,.int GE] u=.ok (.int i) u:=λh=>
  gX qd [.ref g,.int dr,.int q,.int GE,.av,.av,.av] rfl rfl rfl rfl aU (bG (et (RT (bg (ag rfl) hg fr) (ag rfl) h1 (aK hd (aa rfl)) h2) (ag rfl) h3 (aK hq (aa rfl)) h4) rfl rfl (bG ⟨rfl⟩ rfl rfl h))
 unfold uV;generalize Wt&&&GE=z at wD ⊢;have c:=dg (C:=⟨af (dp+1),u.length⟩) (u:=u) (ag (E:=[.ref g,.int dr,.int q,.int GE,.int Wt,.int z,.av]) (j:=5) rfl) (wi (bh (k:=0)));by_cases hz:z=0
 .rw[aF hz];exact wD (de c (UD hz) (dN (ag rfl)))
 .rw[aZ hz];have c2:=j9 (C:=⟨af (dp+1),u.length⟩) (bw (f:=.mr) (ak (ag (E:=[.ref g,.int dr,.int q,.int GE,.int Wt,.int z,.av]) (j:=1) rfl) rfl aY) (Gz dp u.length dr u h hd)) rfl;by_cases hgr:sU dr=true
  .rw[aF hgr];exact wD (cu c (Dx hz) (de c2 hgr (dN (df (ag rfl) (df (ag rfl) (df (ag rfl) bh (Ng (ed hz))) (nC _ _)) (iX _ _)))))
  .rw[aZ hgr];have st:∀(b n:Nat) {X:RX} {ss:List MS},Xs ⟨af (dp+1),u.length⟩ ss [.ref g,.int dr,.int q,.int GE,.int Wt,.int z,.int (b|||b/2^n)] u X->Xs ⟨af (dp+1),u.length⟩ (.ig (.ah 6) .or (.aQ .sm (.ah 6) (.ai n))::ss) [.ref g,.int dr,.int q,.int GE,.int Wt,.int z,.int b] u X:=λb n {X ss} h=>
    gU rfl (df (ag rfl) bh (th b n)) (oY _ _) rfl h
   exact wD (cu c (Dx hz) (cu c2 (bF hgr) (bG (df (ag rfl) bh (th z 1)) rfl rfl (st _ 1 (st _ 2 (st _ 4 (st _ 8 (st _ 16 (st _ 32 (dN (df (ag rfl) ⟨rfl⟩ (SE _ _))))))))))))
noncomputable def Ed(l:List Int)(i:Nat)(m:Int):Int:=if i<l.length then l.getD i 0%m else 0
theorem Oo{l:List Int}{i:Nat}{m:Int}(h:0<m):0<=Ed l i m/\Ed l i m<m:=by
 unfold Ed
 split
 .exact⟨uM _ (qk h),ye _ h⟩
 .exact⟨Int.le_refl _,h⟩
theorem CN(d mk a i:Nat)(m:Int)(l:List Int)(u:St)(h:u[a]?=some (.list (l.map V.int)))(hl:l.length<=hV)(hi:i<4096)(hm:0<m):af (d+1) mk .iY [.ref a,.int i,.int m] u=.ok (.int (Ed l i m)) u:=by
 apply gX Fb [.ref a,.int i,.int m] rfl rfl rfl rfl aU;have b:=dg (C:=⟨af d,u.length⟩) (ag (E:=[.ref a,.int i,.int m]) (j:=1) rfl) (pF (pC (ak (ag (j:=0) rfl) rfl aY) (xd h (by rw[aB];exact hl))));rw[aB]at b;unfold Ed;by_cases hc:i<l.length
 .rw[aF hc];exact dN (md b (LD hc) (df (RS (ag rfl) (ag rfl) h (Nw hi) (by simp only[gA,bf,cO hc];rfl)) (ag rfl) (rA hm)))
 .rw[aZ hc];exact dN (mf b (Uz (bZ hc)) bh)
theorem y9{j:Nat}(h:j<30):2^j<1073741824:=kj (aa rfl) h
theorem Gn(d mk v n:Nat)(u:St)(hn:n<30):af (d+1) mk .nL [.int v,.int n] u=.ok (.ref u.length) (u++[aR (dW v n)]):=by
 have R:=ej (u:=u) (ae (dZ hn) (aa rfl))
 have c:=wM (C:=⟨af d,u.length⟩) (E:=[.int v,.int n,.av]) (s:=2) (xL:=.aQ .iq (.aQ .ey (.ah 0) (.aQ .qu (.ai 2) (.ah 2))) (.ai 2)) (λx=>match x with | .int i=>V.int ((v/2^i.toNat%2:Nat)) | x=>x) (iR (ak (ag (j:=1) rfl) rfl aY) R.1) R.2 rfl (λx hx=>by
   refine cP (bj.mp hx) λj=>cJ λhj zn=>?_;subst zn
   have hj:=aK (bW.mp hj) hn
   refine⟨?_,rfl⟩;exact df (df (ag rfl) (df bh (ag rfl) (Vp (aK hj (aa rfl)))) (Vs (eW j) (y9 hj))) bh (Vq (aa rfl)))
  (by simp only[aB,bV];exact ae (dZ hn) (aa rfl))
 rw[dY]at c;have e:(aI n).map ((λx=>match x with | .int i=>V.int ((v/2^i.toNat%2:Nat)) | x=>x)∘λn:Nat=>V.int n)=(dW v n).map λn:Nat=>V.int n:=(dY (f:=λj=>v/2^j%2) (g:=λn:Nat=>V.int n)).symm
 rw[e]at c;exact tR Io [.int v,.int n,.av] rfl rfl rfl rfl (k:=0) (dN c) rfl
noncomputable def Nu:Nat->Nat->Nat
 | 0,_=>0
 | j+1,n=>if n=0 then 0 else 1+Nu j (n/2)
theorem Tf{j n:Nat}:Nu (j+1) n=if n=0 then 0 else 1+Nu j (n/2):=rfl
theorem KC(mk:Nat)(u:St):∀(j d n:Nat),n<2^j->af (d+j+1) mk .wy [.int n] u=.ok (.int (Nu j n)) u:=by
 intro j;induction j generalizing mk with
 | zero=>
  intro d n hn;obtain rfl:n=0:=f3.mp hn;exact gX xj [.int (0:Nat)] rfl rfl rfl rfl aU ⟨rfl⟩
 | succ j ih=>
  intro d n hn;apply gX xj [.int n] rfl rfl rfl rfl aU;rw[Tf];by_cases h0:n=0
  .rw[aF h0];exact dN (md (dg (ag rfl) (wi bh)) (eqT h0) bh)
  .rw[aZ h0];refine dN (mf (dg (ag rfl) (wi bh)) (Wi h0) ?_);exact df bh (bw ⟨rfl⟩ (ih _ d (n/2) (cU (by rw[c9];exact hn)))) rfl
theorem Lf{C:Cx}{E:List V}{u:St}{a b:ME}{t cr:Bool}(ha:Ev C a E u (.bool t) u)(hb:t=true->Ev C b E u (.bool cr) u):Ev C (.nX [a,b]) E u (.bool (t&&cr)) u:=by
 refine yY ?_;show(ev C a E u).bind _=_;rw[ha.eq];cases t
 .rfl
 .exact(hb rfl).eq
noncomputable def kW(w h i:Nat):Nat:=if i<2 then 0 else w*(h-1)
noncomputable def j0(w i:Nat):Nat:=if i%2=0 then w-1 else 0
noncomputable def FK(w h:Nat)(B:List Nat)(i:Nat):Bool:=
 if((j0 w i:Int)-(w/2:Nat)).natAbs<3 then false else decide (B.getD (kW w h i+w/2) 0=6+8*(i/2))&&decide (B.getD (kW w h i+j0 w i) 0=4+8*(i/2))
theorem Cv{w h i x:Nat}(h0:0<h)(hx:x<w):kW w h i+x<w*h:=by
 have e:w*h=w*(h-1)+w:=by rw[<-kE];congr 1;exact(fH h0).symm
 simp only[e];unfold kW
 split
 .simp only[cx];exact aq hx (jO _ _)
 .exact fg hx _
theorem Hr(d mk a w h i:Nat)(B:List Nat)(u:St)(hB:u[a]?=some (aR B))(hl:B.length=w*h)(TE:w*h<=64)(w0:0<w)(h0:0<h)(w8:w<=8)(hi:i<4):
  af (d+1) mk .vh [.ref a,.int w,.int h,.int i] u=.ok (.bool (FK w h B i)) u:=by
 have big:∀ {x},x<w*h->x<4096:=λh=>aq h (ae TE (aa rfl))
 have c0:j0 w i<w:=by
  unfold j0
  split
  .exact ki w0 (aa rfl)
  .exact w0
 have j1:kW w h i+w/2<w*h:=Cv h0 (S7 w0 (aa rfl))
 have j2:kW w h i+j0 w i<w*h:=Cv h0 c0
 have e1:Ev ⟨af d,u.length⟩ (.ite (.cy (.ah 3) [.lt] [(.ai 2)]) (.ai 0) (.aQ .fm (.ah 1) (.aQ .sub (.ah 2) (.ai 1)))) [.ref a,.int w,.int h,.int i,.av,.av] u (.int (kW w h i)) u:=by
  unfold kW;by_cases q:i<2
  .rw[aF q];exact md (dg (ag rfl) (pF bh)) (LD q) bh
  .rw[aZ q];exact mf (dg (ag rfl) (pF bh)) (Uz (bZ q)) (gr (ag rfl) (iT (ag rfl) (bC 1) h0) (az w8 (by decide)))
 have e2:Ev ⟨af d,u.length⟩ (.ite (.val (.aQ .iq (.ah 3) (.ai 2))) (.ai 0) (.aQ .sub (.ah 1) (.ai 1))) [.ref a,.int w,.int h,.int i,.int (kW w h i),.av] u (.int (j0 w i)) u:=by
  have b:=j9 (je (ag (C:=⟨af d,u.length⟩) (u:=u) (E:=[.ref a,.int w,.int h,.int i,.int (kW w h i),.av]) (j:=3) rfl) (bC 2) (by decide)) rfl
  unfold j0;by_cases q:i%2=0
  .rw[aF q];exact mf b (Uy q) (iT (ag rfl) (bC 1) w0)
  .rw[aZ q];exact md b (neT q) bh
 have e3:Bo ⟨af d,u.length⟩ (.cy (.bi .Iq [(.aQ .sub (.ah 5) (.aQ .ey (.ah 1) (.ai 2)))]) [.lt] [(.ai 3)]) [.ref a,.int w,.int h,.int i,.int (kW w h i),.int (j0 w i)] u (decide (((((j0 w i:Int)-(w/2:Nat)).natAbs):Int)<3)) u:=
  dg ⟨rfl⟩ (pF bh)
 unfold FK;by_cases q:((j0 w i:Int)-(w/2:Nat)).natAbs<3
 .rw[aF q];apply iW Ag [.ref a,.int w,.int h,.int i,.av,.av] rfl rfl rfl rfl aU;exact bG e1 rfl rfl (bG e2 rfl rfl (de e3 (LD q) (dN pY)))
 .rw[aZ q];have half:Ev ⟨af d,u.length⟩ (.aQ .ey (.ah 1) (.ai 2)) [.ref a,.int w,.int h,.int i,.int (kW w h i),.int (j0 w i)] u (.int (w/2:Nat)) u:=j7 (ag rfl) (bC 2) (by decide) (by decide);have m8:Ev ⟨af d,u.length⟩ (.aQ .fm (.ai 8) (.aQ .ey (.ah 3) (.ai 2))) [.ref a,.int w,.int h,.int i,.int (kW w h i),.int (j0 w i)] u (.int (8*(i/2):Nat)) u:=gr (bC 8) ⟨rfl⟩ (by decide);have t1:=Lg (et (ag (j:=0) rfl) (jL (ag (j:=4) rfl) half) hB (big j1) (getD_at hl j1)) (jL (bC 6) m8);have t2:=Lg (et (ag (j:=0) rfl) (jL (ag (j:=4) rfl) (ag (j:=5) rfl)) hB (big j2) (getD_at hl j2)) (jL (bC 4) m8);apply iW Ag [.ref a,.int w,.int h,.int i,.av,.av] rfl rfl rfl rfl aU;exact bG e1 rfl rfl (bG e2 rfl rfl (cu e3 (Uz (bZ q)) (dN (Lf t1 λJ=>t2))))
noncomputable abbrev iG(W f8 a:Nat):O:=aR (dW (W/2^a) (f8-a)).reverse
theorem Ep(v n:Nat):dW v (n+1)=dW v n++[v/2^n%2]:=by
 simp only[dW,Ci,cb];rfl
theorem RV{mk k W f8 a:Nat}{u:St}(h:u[k]?=some (iG W f8 a))(ha:a<f8)(hN:f8<=hV):iC mk (.ref k) .Qw [] u=.ok (.int (rd W a 1)) (u.set k (iG W f8 (a+1))):=by
 have e:iG W f8 a=.list (((dW (W/2^(a+1)) (f8-(a+1))).reverse.map λn:Nat=>V.int n)++[V.int (rd W a 1)]):=by
  show O.list _=O.list _
  obtain⟨m,hm⟩:∃m,f8-a=m+1:=⟨f8-a-1,(fH (As ha)).symm⟩;simp only[hm,vR,Uu,hm,P7,gx,<-iZ,yA,cb];rfl
 simp only[e]at h;show dc ((u[k]?).bind O.lO) (λvs=>dT (vs.length<=hV) (dT (([])=[]) (dc vs.getLast? λv=>RE.ok v (u.set k (.list vs.dropLast)))))=_;rw[h];refine(aF (ae ?_ hN)).trans ((aF rfl).trans ?_)
 .simp only[aj,aB,jp,cz];exact Nat.sub_lt_self (eP a) ha |> λq=>ae (by show f8-(a+1)+1<=f8-a;skip;exact d0 (fH (As ha))) (eH _ _)
 .simp only[List.getLast?_concat,Ks];rfl
theorem DU:∀l:List Nat,(l.map λn:Nat=>(n:Int)).sum=(l.sum:Nat)
 | []=>rfl
 | a::l=>by simp only[cN,FD,FD,DU l,gF]
theorem MW{u:St}{a:Nat}{l:List Nat}(h:u[a]?=some (aR l)):builtin .sum [.ref a] u=.ok (.int (l.sum:Nat)) u:=by
 show dc ((u[a]?).bind O.lO) (λvs=>dc (jf vs) λl=>RE.ok (V.int l.sum) u)=_
 rw[h];show dc (jf (l.map λn:Nat=>V.int n)) (λl=>RE.ok (V.int l.sum) u)=_;rw[kN,<-DU];rfl
theorem uz{f:V->St->RE (List V)}{v:V}{vs l l':List V}{u po rs:St}(h1:f v u=.ok l po)(h2:compLoop f none vs po=.ok l' rs):compLoop f none (v::vs) u=.ok (l++l') rs:=by
 show(match f v u with | .ok l u=>(match compLoop f none vs u with | .ok l' u=>RE.ok (l++l') u | _=>.cn) | _=>.cn)=_
 rw[h1];show(match compLoop f none vs po with | .ok l' u=>RE.ok (l++l') u | _=>.cn)=_;rw[h2]
theorem wK(W a:Nat):∀j n,((jZ j n).map λi=>rd W (a+i) 1*2^i).sum=rd W (a+j) n*2^j
 | j,0=>by simp only[rd,List.range'_zero,tX,List.sum_nil,qj,VY,Vd]
 | j,n+1=>by
  rw[List.range'_succ,cN,FD,wK W a (j+1) n,b9 n 1,D8 W (a+j) 1 n,Nat.add_mul,iZ,xO (rd W (a+j+1) n),c9 (2^j) 2]
  rfl
theorem N1(d mk k W f8 a n:Nat)(u:St)(h:u[k]?=some (iG W f8 a))(ha:a+n<=f8)(hn:n<64)(hN:f8<=hV):
  af (d+1) mk .jD [.ref k,.int n] u=.ok (.int (rd W a n)) (u.set k (iG W f8 (a+n))):=by
 have R:=ej (u:=u) (ae (dZ hn) (aa rfl))
 have go:∀m j x,j+m=n->compLoop (λv re=>(QM ⟨af d,u.length⟩ none ([V.ref k,.int n,.av].set 2 v) re).bind λt u=>if t then(ev ⟨af d,(re) |> λJ=>x⟩ (.aQ .fm (.lm (.ah 0) .Qw []) (.aQ .qu (.ai 2) (.ah 2))) ([V.ref k,.int n,.av].set 2 v) u).bind λr u=>if r.cD then .ok [r] u else .cn else .ok [] u) none ((jZ j m).map λn:Nat=>V.int n) (u.set k (iG W f8 (a+j)))=.ok (((jZ j m).map λi=>rd W (a+i) 1*2^i).map λn:Nat=>V.int n) (u.set k (iG W f8 (a+n))):=by
  intro m;induction m with
  | zero=>intro j x e;rw[show n=j from e.symm];rfl
  | succ m ih=>
   intro j x e;have jn:j<n:=by exact e▸(hJ (eP m))
   have p:=RV (mk:=x) (fT h (o:=iG W f8 (a+j))) (aq (fg jn a) ha) hN
   simp only[dJ]at p;have t:Ev ⟨af d,x⟩ (.aQ .fm (.lm (.ah 0) .Qw []) (.aQ .qu (.ai 2) (.ah 2))) [.ref k,.int n,.int j] (u.set k (iG W f8 (a+j))) (.int (rd W (a+j) 1*2^j:Nat)) (u.set k (iG W f8 (a+(j+1)))):=
    gr (Jl (ag rfl) (fT h) aY p) (sM (ag rfl) (aK jn hn)) (aK (j3 W (a+j) 1) (aa rfl))
   refine uz (l:=[.int (rd W (a+j) 1*2^j:Nat)]) ?_ (ih (j+1) x (by simp only[<-e,dA,b9 1]));show(ev _ _ [V.ref k,.int n,.int j] _).bind _=_;simp only[t.eq];rfl
 have g:=go n 0 u.length (cx n)
 rw[Au,kZ h,<-fD]at g;have c:Ev ⟨af d,u.length⟩ (.gu (.aQ .fm (.lm (.ah 0) .Qw []) (.aQ .qu (.ai 2) (.ah 2))) 2 (.gV [(.ah 1)]) none) [.ref k,.int n,.av] u (.ref u.length) (u.set k (iG W f8 (a+n))++[aR ((aI n).map λi=>rd W (a+i) 1*2^i)]):=by
  refine⟨?_⟩;show(ev ⟨af d,u.length⟩ (.gV [(.ah 1)]) [.ref k,.int n,.av] u).bind (λx u=>match fU x u with
   | none=>.cn
   | some (sK,vs)=>(compLoop _ sK vs u).bind λl u=>if l.length<=hV then alloc (.list l) u else .cn)=_
  rw[(iR ⟨rfl⟩ R.1).eq,RE.cV,R.2];show(compLoop _ none _ u).bind _=_;rw[g,RE.cV,aF (by simp only[aB,aB,bV];exact ae (dZ hn) (aa rfl))];show RE.ok (V.ref (u.set k (iG W f8 (a+n))).length) _=_;rw[aV]
 have t:=wK W a 0 n
 rw[<-fD,Cf]at t;have s:=MW (u:=u.set k (iG W f8 (a+n))++[aR ((aI n).map λi=>rd W (a+i) 1*2^i)]) (a:=u.length) (bJ (i:=0) aV rfl);rw[t]at s;apply b6 E9 [.ref k,.int n,.av] rfl rfl rfl rfl
 .exact dN (pC (ak c rfl aY) s)
 .exact aM _ (cR aV)
noncomputable def w6:List (Int×Int):=[(0,1),(1,0),(0,-1),(-1,0),(1,1),(1,-1),(-1,-1),(-1,1)]
noncomputable def Mz:List (Int×Int):=[(1,2),(2,1),(2,-1),(1,-2),(-1,-2),(-2,-1),(-2,1),(-1,2)]
noncomputable def ub(B:List Nat)(w h:Nat)(dx dy:Int):Nat->Int->Int->List Nat
 | 0,_,_=>[]
 | n+1,x,y=>if(0<=x/\x<w)/\(0<=y/\y<h)then(y.toNat*w+x.toNat)::(if B.getD (y.toNat*w+x.toNat) 0=0 then ub B w h dx dy n (x+dx) (y+dy)else[])else[]
theorem RA{B:List Nat}{w h:Nat}{dx dy x y:Int}:ub B w h dx dy 0 x y=[]:=rfl
theorem uT{B:List Nat}{w h:Nat}{dx dy x y:Int}{n:Nat}:ub B w h dx dy (n+1) x y=if(0<=x/\x<w)/\(0<=y/\y<h)then(y.toNat*w+x.toNat)::(if B.getD (y.toNat*w+x.toNat) 0=0 then ub B w h dx dy n (x+dx) (y+dy)else[])else[]:=rfl
theorem yG{B:List Nat}{w h:Nat}{dx dy:Int}:∀ {n:Nat} {x y:Int},(ub B w h dx dy n x y).length<=n
 | 0,_,_=>cH _
 | n+1,x,y=>by
  rw[uT]
  split
  .split
   .exact io yG
   .exact io (fe _)
  .exact fe _
section
variable{C:Cx}{E sw:List V}{u re po:St}{q:MB}{bd ss:List MS}{m:Nat}{r:RX}
theorem Cw(h:Bo C q E u false po):whileLoop (λE u=>nA C q E u) (λE u=>iH C bd E u) (m+1) E u=.ok .next E po:=by
 show(nA C q E u).then E _=_
 rw[h.eq];rfl
theorem Hs(h:Bo C q E u true po)(hb:Xs C bd E po (.ok .next sw re))(hr:whileLoop (λE u=>nA C q E u) (λE u=>iH C bd E u) m sw re=r):whileLoop (λE u=>nA C q E u) (λE u=>iH C bd E u) (m+1) E u=r:=by
 show(nA C q E u).then E _=_
 rw[h.eq];show(match iH C bd E po with | .ok (.ret v) E u=>RX.ok (.ret v) E u | .ok _ E u=>whileLoop _ _ m E u | .fY E u=>.fY E u | .cn=>.cn)=_;exact hb.eq▸hr
theorem MZ{p q r:MB}{t cr v:Bool}(hp:Bo C p E u t u)(hq:Bo C q E u cr u)(hr:Bo C r E u v u):Bo C (.all [p,q,r]) E u (t&&(cr&&v)) u:=by
 refine vd hp ?_;cases t
 .exact⟨rfl,rfl⟩
 refine vd hq ?_;cases cr
 .exact⟨rfl,rfl⟩
 refine vd hr ?_;cases v
 .exact⟨rfl,rfl⟩
 exact G8
theorem PG{e f:ME}{x y:Int}(he:Ev C e E u (.int x) u)(hf:Ev C f E u (.int y) u):Bo C (.cy (.ai 0) [.le,.lt] [e,f]) E u (decide (0<=x/\x<y)) u:=by
 by_cases h:0<=x
 .rw[decide_eq_decide.mpr (and_iff_right h)];exact dg bh (Py he (aM some (bp h)) (gf hf rfl))
 .rw[bP (λq=>h q.1)];exact dg bh (U6 he (aM some (bP h)))
end
section
variable{d mk a w h:Nat}{B:List Nat}{u:St}{dx dy:Int}{s Ps TW go up:V}
noncomputable def wq:MB:=.all [(.cy (.ah 13) [.gt] [(.ai 0)]),(.cy (.ai 0) [.le,.lt] [(.ah 11),(.ah 1)]),(.cy (.ai 0) [.le,.lt] [(.ah 12),(.ah 2)])]
noncomputable def wb:List MS:=[.kx (.lm (.ah 8) .append [(.aQ .ei (.aQ .fm (.ah 12) (.ah 1)) (.ah 11))]),.ig (.ah 13) .sub (.ai 1),.fB (.cy (.sub (.ah 0) (.aQ .ei (.aQ .fm (.ah 12) (.ah 1)) (.ah 11))) [.ne] [(.ai 0)]) [.assign (.ah 13) (.ai 0)] [],.ig (.ah 11) .ei (.ah 9),.ig (.ah 12) .ei (.ah 10)]
noncomputable def S0(a w h:Nat)(s Ps TW go up:V)(n:Nat)(dx dy x y:Int)(l:Nat):List V:=[.ref a,.int w,.int h,s,Ps,TW,go,up,.ref n,.int dx,.int dy,.int x,.int y,.int l]
theorem KA{x y:Int}{l:Nat}{re:St}{b:Bool}(hb:(decide (0<(l:Int))&&(decide (0<=x/\x<w)&&decide (0<=y/\y<h)))=b):Bo ⟨af d,mk⟩ wq (S0 a w h s Ps TW go up u.length dx dy x y l) re b re:=
 hb▸MZ ⟨rfl⟩ (PG (ag rfl) (ag rfl)) (PG (ag rfl) (ag rfl))
theorem Th{X nw n l':Nat}{KB out':List Nat}(hB:(u++[aR out'])[a]?=some (aR B))(hx:B[nw*w+X]?=some l')(big:nw*w+X<4096)(hY:nw<4096)
  (ap:iC mk (.ref u.length) .append [.int (nw*w+X:Nat)] (u++[aR KB])=.ok .none (u++[aR out'])) :
  Xs ⟨af d,mk⟩ wb (S0 a w h s Ps TW go up u.length dx dy X nw (n+1)) (u++[aR KB]) (.ok .next (S0 a w h s Ps TW go up u.length dx dy (X+dx) (nw+dy) (if l'=0 then n else 0)) (u++[aR out'])):=by
 have sq:∀ {l:Nat} {N:St},Ev ⟨af d,mk⟩ (.aQ .ei (.aQ .fm (.ah 12) (.ah 1)) (.ah 11)) (S0 a w h s Ps TW go up u.length dx dy X nw l) N (.int (nw*w+X:Nat)) N:=jL (gr (ag rfl) (ag rfl) hY) (ag rfl)
 refine gb (Jl (ag rfl) (dR _ _) (ak sq rfl aY) ap) (gU rfl bh (aM some (fK n 1)) rfl ?_);have ce:=uc (et (ag (j:=0) rfl) (sq (l:=n)) hB big hx) (bC 0);by_cases h0:l'=0
 .rw[aF h0];exact cu ce (aM _ (bp h0)) ⟨rfl⟩
 .rw[aZ h0];exact de ce (aM _ (bP h0)) ⟨rfl⟩
theorem xu{X nw:Nat}(hX:X<w)(hY:nw<h):nw*w+X<w*h:=by
 simp only[c9 w];exact aq (fg hX _) (by rw[<-qi];exact i3 _ hY)
theorem PH{n:Nat}{KB:List Nat}(hl:KB.length<=hV):iC mk (.ref u.length) .append [.int n] (u++[aR KB])=.ok .none (u++[aR (KB++[n])]):=by
 have ap:=wV (mk:=mk) (v:=.int n) (dR u (aR KB)) (by rw[aB];exact hl) rfl
 simp only[CC]at ap;simp only[ap,aR,cb];rfl
theorem KD(hB:u[a]?=some (aR B))(hl:B.length=w*h)(w8:w<=8)(h8:h<=8):∀(m n:Nat) (x y:Int) (KB:List Nat),n<m->KB.length+n<=1000 ->
  ∃x' y' l',whileLoop (λE u=>nA ⟨af d,mk⟩ wq E u) (λE u=>iH ⟨af d,mk⟩ wb E u) m (S0 a w h s Ps TW go up u.length dx dy x y n) (u++[aR KB])=.ok .next (S0 a w h s Ps TW go up u.length dx dy x' y' l') (u++[aR (KB++ub B w h dx dy n x y)]):=by
 intro m;induction m with
 | zero=>exactλJ J J J h=>absurd h (iO _)
 | succ m ih=>
  intro n x y KB hn ho;cases n with
  | zero=>exact⟨x,y,0,by simp only[RA,aP];exact Cw (KA rfl)⟩
  | succ n=>
   rw[uT];by_cases hx:(0<=x/\x<w)/\(0<=y/\y<h)
   .rw[aF hx];refine cP (fy hx.1.1) λX Go=>?_;subst Go
    obtain⟨nw,rfl⟩:=fy hx.2.1;have hq:=xu (bK.mp hx.1.2) (bK.mp hx.2.2);have bd:=Th (d:=d) (mk:=mk) (h:=h) (s:=s) (Ps:=Ps) (TW:=TW) (go:=go) (up:=up) (dx:=dx) (dy:=dy) (n:=n) (bv hB) (getD_at hl hq) (aq hq (ae (gw w8 h8) (aa rfl))) (aq (bK.mp hx.2.2) (ae h8 (aa rfl))) (PH (ae (aW _ _) (ae ho (aa rfl))));have le:(if B.getD (nw*w+X) 0=0 then n else 0)<=n:=by split<;>first | exact cH n | exact fe n
    refine nG (ih (if B.getD (nw*w+X) 0=0 then n else 0) (X+dx) (nw+dy) (KB++[nw*w+X]) (az le (um hn)) (by simp only[aj];exact ae (d0 (dA _ _ _)) (ae (bu (by rw[b9];exact io le) _) ho))) λx' y' l' e=>?_
    refine⟨x',y',l',Hs (KA ?_) bd (e.trans ?_)⟩
    .simp only[bp hx.1,bp hx.2,show decide ((0:Int)<(n+1:Nat))=true from LD (eP n)];rfl
    .rw[am];show _=RX.ok _ _ (u++[aR (KB++(nw*w+X)::(if B.getD (nw*w+X) 0=0 then _ else[]))])
     split<;>rfl
   .rw[aZ hx,aP];exact⟨x,y,n+1,Cw (KA (by rw[<-Bool.decide_and,bP hx,DK]))⟩
end
theorem JD{u:St}{a:Nat}{o:O}{vs:List V}(h:u[a]?=some o)(S:o.seq?=some vs)(hl:vs.length<=hV):fU (.ref a) u=some (some (a,o),vs):=by
 show((u[a]?).bind λo=>match o with
  | .gV a b c=>if Bj a b c/\gD a b c<=hV then some (none,ie a c (gD a b c))else none
  | o=>o.seq?.bind λvs=>if vs.length<=hV then some (some (a,o),vs)else none)=_
 rw[h];cases o with
 | gV=>cases S
 | inst=>cases S
 | _=>obtain rfl:=aD S;exact aF hl
theorem JY{C:Cx}{bd:List MS}{a i j:Nat}{cr v:V}{E:List V}{u:St}{r:RX}(h:u[a]?=some (.eY [cr,v]))(hu:cr.cD=true)(hv:v.cD=true)(hi:DG i E.length=true)(hj:DG j E.length=true)(hx:Xs C bd ((E.set i cr).set j v) u r):body C (.eY [.ah i,.ah j]) bd (.ref a) E u=r:=by
 show(match u[a]? with | some (.eY vs)=>if vs.length=2 then stores C [.ah i,.ah j] vs E u else RX.cn | _=>RX.cn).next _=_
 rw[h];show((if i<E.length/\cr.cD then RX.ok .next (E.set i cr) u else .cn).next λE u=>(if j<E.length/\v.cD then RX.ok .next (E.set j v) u else .cn).next λE u=>.ok .next E u).next _=_;rw[aF ⟨yc.mp hi,hu⟩];show((if j<(E.set i cr).length/\v.cD then RX.ok .next ((E.set i cr).set j v) u else .cn).next λE u=>.ok .next E u).next _=_;rw[aF ⟨by simp only[aV];exact yc.mp hj,hv⟩];exact hx.eq
def Du(u:St):List V->List (Int×Int)->Prop
 | [],[]=>True
 | .ref r::vs,d::D=>u[r]?=some (.eY [.int d.1,.int d.2])/\Du u vs D
 | _,_=>False
theorem Du.ky{u:St}(N:St){vs:List V}{D:List (Int×Int)}(h:Du u vs D):Du (u++N) vs D:=by
 induction vs generalizing D with
 | nil=>cases D<;>exact h
 | cons v vs ih=>cases D<;>cases v<;>first | exact h | exact⟨bv h.1,ih h.2⟩
structure Fp(u:St)(ga:Nat)(D:List (Int×Int)) where
 o:O
 vs:List V
 at':u[ga]?=some o
 seq:o.seq?=some vs
 Uh:Du u vs D
 len:vs.length<=8
noncomputable def Fp.ky{u:St}{ga:Nat}{D:List (Int×Int)}(db:Fp u ga D)(N:St):Fp (u++N) ga D:=⟨db.o,db.vs,bv db.at',db.seq,db.Uh.ky N,db.len⟩
section
variable{d mk a w h:Nat}{B:List Nat}{u:St}{s TW:Nat}{Ps go up:V}
noncomputable def hb:List MS:=[.assign (.ah 11) (.aQ .ei (.aQ .iq (.ah 3) (.ah 1)) (.ah 9)),.assign (.ah 12) (.aQ .ei (.aQ .ey (.ah 3) (.ah 1)) (.ah 10)),.assign (.ah 13) (.ah 5),.while wq wb]
noncomputable def hitsD(B:List Nat)(w h s TW:Nat)(D:List (Int×Int)):List Nat:=D.flatMap λe=>ub B w h e.1 e.2 TW ((s%w:Nat)+e.1) ((s/w:Nat)+e.2)
noncomputable def yq(a w h s TW:Nat)(Ps go up:V)(n:Nat)(x1 x2 x3 x4 x5:V):List V:=[.ref a,.int w,.int h,.int s,Ps,.int TW,go,up,.ref n,x1,x2,x3,x4,x5]
theorem Ma(hB:u[a]?=some (aR B))(hl:B.length=w*h)(w0:0<w)(w8:w<=8)(h8:h<=8)(hf:TW<=8){ga:Nat}{o:O}(hg:u[ga]?=some o):∀(vs:List V) (D:List (Int×Int)) (KB:List Nat) (x1 x2 x3 x4 x5:V),Du u vs D->KB.length+8*vs.length<=900 ->
  ∃sw,forLoop (body ⟨af d,mk⟩ (.eY [.ah 9,.ah 10]) hb) (some (ga,o)) vs (yq a w h s TW Ps go up u.length x1 x2 x3 x4 x5) (u++[aR KB])=.ok .next sw (u++[aR (KB++hitsD B w h s TW D)])/\sw[8]?=some (.ref u.length)
 := by
 intro vs
 induction vs with
 | nil=>
  intro D KB x1 x2 x3 x4 x5 hd _
  cases D with
  | nil=>exact⟨_,by rw[show KB++hitsD B w h s TW []=KB from aP _];exact jl (bp (bv hg)),rfl⟩
  | cons=>exact hd.elim
 | cons v vs ih=>
  intro D KB x1 x2 x3 x4 x5 hd ho
  obtain⟨r,e,D,rfl,rfl,hr,hd⟩:∃r e D',v=.ref r/\D=e::D'/\u[r]?=some (.eY [.int e.1,.int e.2])/\Du u vs D':=by
   cases v with
   | ref r=>cases D with
    | nil=>exact hd.elim
    | cons e D=>exact⟨r,e,D,rfl,rfl,hd.1,hd.2⟩
   | _=>exact hd.elim
  refine d5 λGG Y=>?_
  have WD:KB.length+8*vs.length+8<=900:=by simp only[dh]at ho;exact ho
  obtain⟨x',y',l',wr⟩:=KD hB hl w8 h8 qn TW ((s%w:Nat)+e.1) ((s/w:Nat)+e.2) KB (az hf (aa rfl))
   (ae (cE (aW _ _) hf) (ae WD (aa rfl)))
  obtain⟨sw,ih,i8⟩:=ih D (KB++ub B w h e.1 e.2 TW ((s%w:Nat)+e.1) ((s/w:Nat)+e.2)) (.int e.1) (.int e.2) (.int x') (.int y') (.int l') hd (by
   rw[aj,eQ];exact ae (bu (ae yG hf) _) WD)
  simp only[am]at ih;refine Y ?_;refine⟨sw,dE (bp (bv hg)) (JY (bv hr) rfl rfl rfl rfl ?_) ih,i8⟩;exact bG (df (je (ag rfl) (ag rfl) w0) (ag rfl) rfl) rfl rfl (bG (df (j7 (ag rfl) (ag rfl) w0 (az w8 (aa rfl))) (ag rfl) rfl) rfl rfl (bG (ag rfl) rfl rfl (Hp wr dQ)))
inductive Ir(C:Cx)(ss:List MS)(E:List V)(u N:St)(KB:List Nat):Prop
 | mk {sw:List V} {k:Nat} {SZ:St} (h:Xs C ss E (u++N) (.ok (.ret (.ref (u.length+k))) sw (u++SZ))) (hk:SZ[k]?=some (aR KB)):Ir C ss E u N KB
theorem BF{N:St}{ga:Nat}{D:List (Int×Int)}(db:Fp (u++N) ga D)(hB:u[a]?=some (aR B))(hl:B.length=w*h)(w0:0<w)(w8:w<=8)(h8:h<=8)(hf:TW<=8):
  Ir ⟨af d,mk⟩ [.assign (.ah 8) (.list []),.for (.eY [.ah 9,.ah 10]) (.ah 6) hb,.ret (.ah 8)] [.ref a,.int w,.int h,.int s,Ps,.int TW,.ref ga,up,.av,.av,.av,.av,.av,.av] u N (hitsD B w h s TW D):=by
 refine cP (Ma (d:=d) (mk:=mk) (s:=s) (Ps:=Ps) (go:=.ref ga) (up:=up) (bv hB) hl w0 w8 h8 hf db.at' db.vs D [] .av .av .av .av .av db.Uh (by simp only[pn,cx];exact ae (bx _ db.len) (aa rfl))) λsw=>cJ λe e8=>?_
 have r:=iQ (ss:=[.ret (.ah 8)]) (ag (u:=u++N++[aR []]) (j:=6) rfl) (JD (bv db.at') db.seq (ae db.len (aa rfl))) e (dN (ag (by unfold eo;rw[e8])))
 have t:=bG (j:=8) (E:=[.ref a,.int w,.int h,.int s,Ps,.int TW,.ref ga,up,.av,.av,.av,.av,.av,.av]) (iS aY) rfl rfl r
 simp only[aj,am]at t;exact .mk t gm
end
theorem wc{u:St}{b:Nat}{o:O}{l:List Nat}(h:u[b]?=some o)(S:o.seq?=some (l.map λn:Nat=>V.int n))(s:Nat):j8 .Gv (.int s) (.ref b) u=some (l.contains s):=by
 show((u[b]?).bind O.seq?).bind (λvs=>isIn (.int s) vs)=_
 simp only[h,rV,S];show(jf (l.map λn:Nat=>V.int n)).map (λl=>l.contains s)=_;simp only[kN,AC,uy]
noncomputable def dirsOf(Ps U:Nat):List (Int×Int):=
 if Ps=4 then w6.take 4 else if Ps=3 then w6.drop 4 else if Ps=2 then Mz else if Ps=1 then[(-1,1-2*(U:Int)),(1,1-2*(U:Int))]else w6
noncomputable def BK(Ps:Nat):Nat:=if[3,4,5].contains Ps then 8 else 1
theorem Sr{Ps:Nat}:BK Ps<=8:=by unfold BK;split<;>decide
noncomputable def qy(w h:Nat)(B:List Nat)(s:Nat):List Nat:=hitsD B w h s (BK (B.getD s 0%8)) (dirsOf (B.getD s 0%8) (B.getD s 0/8))
def qG(u:St):Prop:=∀(i:Nat) (o:O),vv[i]?=some o->u[i]?=some o
theorem qG.ky{u:St}(kt:qG u)(N:St):qG (u++N):=λi o h=>bv (kt i o h)
section
variable{C:Cx}{E:List V}{u N SZ:St}{q:MB}{xs ss:List MS}{t:Bool}{KB:List Nat}{e:ME}{v:V}{j:Nat}
theorem Ir.U3(hq:Bo C q E (u++N) t (u++SZ))(ht:t=true)(h:Ir C (xs++ss) E u SZ KB):Ir C (.fB q xs []::ss) E u N KB:=by
 cases h with | mk h hk=>exact .mk (de hq ht h) hk
theorem Ir.U4(hq:Bo C q E (u++N) t (u++SZ))(ht:t=false)(h:Ir C ss E u SZ KB):Ir C (.fB q xs []::ss) E u N KB:=by
 cases h with | mk h hk=>exact .mk (cu hq ht h) hk
theorem Ir.ah(he:Ev C e E (u++N) v (u++SZ))(hv:v.cD=true)(hj:DG j E.length=true)(h:Ir C ss (E.set j v) u SZ KB):Ir C (.assign (.ah j) e::ss) E u N KB:=by
 cases h with | mk h hk=>exact .mk (bG he hv hj h) hk
end
section
variable{d mk a w h:Nat}{B:List Nat}{u:St}{s Ps:Nat}{up:V}
noncomputable def O6(a w h s Ps TW ga:Nat)(up:V):List V:=[.ref a,.int w,.int h,.int s,.int Ps,.int TW,.ref ga,up,.av,.av,.av,.av,.av,.av]
def HS(d mk a w h s Ps:Nat)(B:List Nat)(u:St)(k:Nat)(f:List (Int×Int)->List (Int×Int)):Prop:=
 ∀N ga D up,Fp (u++N) ga D->Ir ⟨af d,mk⟩ (qD.drop k) (O6 a w h s Ps 1 ga up) u N (hitsD B w h s (BK Ps) (f D))
theorem T6(hB:u[a]?=some (aR B))(hl:B.length=w*h)(w0:0<w)(w8:w<=8)(h8:h<=8):HS d mk a w h s Ps B u 7 λD=>D:=λN ga D up db=>by
 have tp:Ev ⟨af d,mk⟩ (.eY [.ai 3,.ai 4,.ai 5]) (O6 a w h s Ps 1 ga up) (u++N) (.ref (u++N).length) (u++(N++[.eY [.int 3,.int 4,.int 5]])):=by
  rw[<-am];exact⟨rfl⟩
 have c:=dg (ag (j:=4) rfl) (gf tp (wc (l:=[3,4,5]) (by rw[<-am];exact dR _ _) rfl Ps))
 have G':Fp (u++(N++[.eY [.int 3,.int 4,.int 5]])) ga D:=by rw[<-am];exact db.ky _
 unfold BK;by_cases hf:[3,4,5].contains Ps=true
 .rw[aF hf];exact .U3 c hf (.ah bh rfl rfl (BF G' hB hl w0 w8 h8 (aa rfl)))
 .rw[aZ hf];exact .U4 c (gM _▸hf) (BF G' hB hl w0 w8 h8 (aa rfl))
theorem slice_list{u:St}{b i j:Nat}{vs:List V}{lo hi:V}(h:u[b]?=some (.lV vs))(hl:vs.length<=hV)(h1:bound 0 lo=some i)(h2:bound vs.length hi=some j):ji (.ref b) lo hi u=.ok (.ref u.length) (u++[.list (cut vs i j)]):=by
 show dc (bound 0 lo) (λi=>dc ((u[b]?).bind O.uf) λvs=>dT (vs.length<=hV) (dc (bound vs.length hi) λj=>alloc (.list (cut vs i j)) u))=_
 rw[h1,h];refine(aF hl).trans ?_;rw[h2];rfl
theorem CX{k n:Nat}{im:ME}{f:List (Int×Int)->List (Int×Int)}{D':List (Int×Int)}(kt:qG u)(hk:qD.drop k=.fB (.cy (.ah 4) [.eq] [(.ai (n:Int))]) [.assign (.ah 6) im] []::qD.drop (k+1))(H:HS d mk a w h s Ps B u (k+1) f)
  (hE:∀N E,∃ga SZ,Ev ⟨af d,mk⟩ im E (u++N) (.ref ga) (u++SZ)/\Nonempty (Fp (u++SZ) ga D')):HS d mk a w h s Ps B u k λD=>f (if Ps=n then D' else D):=λN ga D up db=>by
 rw[hk]
 show Ir _ _ _ _ _ (hitsD B w h s (BK Ps) (f (if Ps=n then D' else D)))
 have c:=w_eq (ag (C:=⟨af d,mk⟩) (E:=O6 a w h s Ps 1 ga up) (u:=u++N) (j:=4) rfl) (bC n)
 by_cases hn:Ps=n
 .refine iJ (hE N (O6 a w h s Ps 1 ga up)) λga' SZ=>cJ λe ob3=>?_;obtain⟨G'⟩:=ob3
  simp only[aF hn]
  exact .U3 c (bp hn) (.ah e rfl rfl (H SZ ga' D' up G'))
 .exact(aZ hn)▸(.U4 c (bP hn) (H N ga D up db))
theorem Ti(kt:qG u)(N:St):Du (u++N) [.ref 12,.ref 13,.ref 14,.ref 15,.ref 16,.ref 17,.ref 18,.ref 19] w6:=by
 have t:=kt.ky N
 exact⟨t 12 _ rfl,t 13 _ rfl,t 14 _ rfl,t 15 _ rfl,t 16 _ rfl,t 17 _ rfl,t 18 _ rfl,t 19 _ rfl,trivial⟩
theorem T7(kt:qG u)(hB:u[a]?=some (aR B))(hl:B.length=w*h)(w0:0<w)(w8:w<=8)(h8:h<=8):HS d mk a w h s Ps B u 4 λD=>if Ps=4 then w6.take 4 else if Ps=3 then w6.drop 4 else if Ps=2 then Mz else D:=by
 have sl:∀(N) (lo hi) (i j) D' vs,bound 0 lo=some i->bound 8 hi=some j->cut [V.ref 12,.ref 13,.ref 14,.ref 15,.ref 16,.ref 17,.ref 18,.ref 19] i j=vs->vs.length<=8->Du (u++N) vs D'->ji (.ref 11) lo hi (u++N)=.ok (.ref (u++N).length) (u++(N++[.list vs]))/\Nonempty (Fp (u++(N++[.list vs])) (u++N).length D'):=λN lo hi i j D' vs h1 h2 h3 h4 h5=>by
  rw[<-am];exact⟨h3▸slice_list (kt.ky N 11 _ rfl) (aa rfl) h1 h2,⟨⟨_,vs,dR _ _,rfl,h5.ky _,h4⟩⟩⟩
 refine CX kt rfl (CX kt rfl (CX kt rfl (T6 hB hl w0 w8 h8) λN E=>?_) λN E=>?_) λN E=>?_
 .have t:=kt.ky N
  have q:=sl N .none (.int 4) 0 4 (w6.take 4) [.ref 12,.ref 13,.ref 14,.ref 15] rfl rfl rfl (aa rfl) ⟨t 12 _ rfl,t 13 _ rfl,t 14 _ rfl,t 15 _ rfl,trivial⟩
  exact⟨_,_,qT (dn rfl) rfl (bh (C:=⟨af d,mk⟩) (E:=E)).eq q.1,q.2⟩
 .have t:=kt.ky N
  have q:=sl N (.int 4) .none 4 8 (w6.drop 4) [.ref 16,.ref 17,.ref 18,.ref 19] rfl rfl rfl (aa rfl) ⟨t 16 _ rfl,t 17 _ rfl,t 18 _ rfl,t 19 _ rfl,trivial⟩
  exact⟨_,_,qT (dn rfl) (bh (C:=⟨af d,mk⟩) (E:=E)).eq rfl q.1,q.2⟩
 .have t:=kt.ky N
  exact⟨2,N,dn rfl,⟨⟨_,_,t 2 _ rfl,rfl,⟨t 3 _ rfl,t 4 _ rfl,t 5 _ rfl,t 6 _ rfl,t 7 _ rfl,t 8 _ rfl,t 9 _ rfl,t 10 _ rfl,trivial⟩,by decide⟩⟩⟩
theorem O3(kt:qG u)(hB:u[a]?=some (aR B))(hl:B.length=w*h)(w0:0<w)(w8:w<=8)(h8:h<=8)(S:s<w*h):af (d+1) mk .Ds [.ref a,.int w,.int h,.int s] u=.ok (.ref u.length) (u++[aR (qy w h B s)]):=by
 have big:s<4096:=aq S (ae (gw w8 h8) (aa rfl))
 have T0:=Ti kt []
 rw[aP]at T0;have H:=T7 (d:=d) (mk:=u.length) (s:=s) (Ps:=B.getD s 0%8) kt hB hl w0 w8 h8;have c0:Ev ⟨af d,u.length⟩ (.sub (.ah 0) (.ah 3)) [.ref a,.int w,.int h,.int s,.av,.av,.av,.av,.av,.av,.av,.av,.av,.av] u (.int (B.getD s 0)) u:=et (ag rfl) (ag rfl) hB big (getD_at hl S);have c1:Ev ⟨af d,u.length⟩ (.sub (.ah 0) (.ah 3)) (O6 a w h s (B.getD s 0%8) 1 11 .av) (u++[]) (.int (B.getD s 0)) (u++[]):=by
  rw[aP];exact et (ag rfl) (ag rfl) hB big (getD_at hl S)
 have q:Ir ⟨af d,u.length⟩ (qD.drop 3) (O6 a w h s (B.getD s 0%8) 1 11 .av) u [] (qy w h B s):=by
  unfold qy dirsOf;have c:=w_eq (ag (C:=⟨af d,u.length⟩) (E:=O6 a w h s (B.getD s 0%8) 1 11 .av) (u:=u++[]) (j:=4) rfl) (bC 1);by_cases h1:B.getD s 0%8=1
  .rw[aF h1];refine .U3 c (bp h1) (.ah (df bh (gr (bC 2) (j7 c1 (bC 8) (by decide) (aa rfl)) (aa rfl)) rfl) rfl rfl ?_);refine .ah (SZ:=[.eY [.int (-1),.int (1-2*(B.getD s 0/8:Nat))],.eY [.int 1,.int (1-2*(B.getD s 0/8:Nat))],.list [.ref u.length,.ref (u.length+1)]]) ?_ rfl rfl (H _ (u.length+2) [(-1,1-2*(B.getD s 0/8:Nat)),(1,1-2*(B.getD s 0/8:Nat))] _ ⟨_,_,bJ rfl rfl,rfl,⟨bJ (i:=0) rfl rfl,bJ rfl rfl,trivial⟩,aa rfl⟩);simp only[aP];have t1:=xA (C:=⟨af d,u.length⟩) (u:=u) (ak (kL (bh (k:=1))) rfl (ak (ag (E:=(O6 a w h s (B.getD s 0%8) 1 11 .av).set 7 (.int (1-2*(B.getD s 0/8:Nat)))) (j:=7) rfl) rfl aY));have t2:=xA (C:=⟨af d,u.length⟩) (u:=u++[.eY [.int (-1),.int (1-2*(B.getD s 0/8:Nat))]]) (ak (bh (k:=1)) rfl (ak (ag (E:=(O6 a w h s (B.getD s 0%8) 1 11 .av).set 7 (.int (1-2*(B.getD s 0/8:Nat)))) (j:=7) rfl) rfl aY));have t3:=tL (ak t1 rfl (ak t2 rfl aY)) (n:=u.length+2) (by refine aj.trans ?_;exact aM _ aj);rw[aj,am,am]at t3;exact t3
  .rw[aZ h1];exact .U4 c (bP h1) (H [] 11 w6 _ ⟨_,_,by rw[aP];exact kt 11 _ rfl,rfl,by rw[aP];exact T0,by decide⟩)
 obtain@⟨sw,k,SZ,q,hk⟩:=q;simp only[aP]at q;refine tR qD [.ref a,.int w,.int h,.int s,.av,.av,.av,.av,.av,.av,.av,.av,.av,.av] (sw:=sw) rfl rfl rfl rfl ?_ hk;refine bG (je c0 (bC 8) (by decide)) rfl rfl ?_;refine bG bh rfl rfl ?_;refine bG (dn rfl) rfl rfl ?_;exact q
end
theorem C6{α:Type}{f:V->List V->St->RX}{sK:Option (Nat×O)}(g:α->V)(p:α->Bool)(I:List V->St->Prop)(S:∀E u,I E u->same sK u=true):∀ {l:List α},(∀x∈l,∀E u,I E u->∃sw re,I sw re/\f (g x) E u=.ok (if p x=true then .ret (.bool true)else .next) sw re) ->
  ∀ {E:List V} {u:St},I E u->∃sw re,I sw re/\forLoop f sK (l.map g) E u=.ok (if l.any p=true then .ret (.bool true)else .next) sw re
 | [],_,E,u,h=>⟨E,u,h,jl (S _ _ h)⟩
 | x::l,hb,E,u,h=>by
  refine iJ (hb x (.head _) E u h) λsw re=>cJ λh' e=>?_
  rw[kT]
  by_cases hp:p x=true
  .rw[aF hp]at e
   rw[hp,pW,aF rfl]
   refine⟨sw,re,h',?_⟩
   show(if same sK u then(match f (g x) E u with
    | .ok (.ret v) E u=>.ok (.ret v) E u
    | .ok _ E u=>forLoop f sK (l.map g) E u
    | .fY E u=>.fY E u
    | .cn=>.cn)else RX.cn)=_
   refine(aF (S _ _ h)).trans ?_;rw[e]
  .rw[aZ hp]at e
   rw[bF hp,Uw]
   refine iJ (C6 g p I S (λx hx=>hb x (.tail _ hx)) h') λρ2 rs=>cJ λh2 e2=>?_
   exact⟨ρ2,rs,h2,dE (S _ _ h) e e2⟩
theorem Cy{B:List Nat}{w h:Nat}{dx dy:Int}{t:Nat}:∀ {n:Nat} {x y:Int},t∈ub B w h dx dy n x y->t<w*h
 | 0,_,_,ht=>nomatch ht
 | n+1,x,y,ht=>by
  rw[uT]at ht
  split at ht
  .rename_i hx
   refine cP (fy hx.1.1) λX Go=>?_;subst Go
   refine cP (fy hx.2.1) λnw Go=>?_;subst Go
   rcases aO.mp ht with rfl | ht
   .exact xu (bK.mp hx.1.2) (bK.mp hx.2.2)
   .split at ht
    .exact Cy ht
    .nomatch ht
  .nomatch ht
theorem O4{w h:Nat}{B:List Nat}{s t:Nat}(ht:t∈qy w h B s):t<w*h:=by
 refine cP (sr.mp ht) λe=>cJ λ_ h=>?_
 exact Cy h
theorem BG{B:List Nat}{w h s TW:Nat}(hf:TW<=8):∀D:List (Int×Int),(hitsD B w h s TW D).length<=8*D.length
 | []=>cH _
 | e::D=>by
  show(ub _ _ _ _ _ _ _ _++hitsD B w h s TW D).length<=_
  simp only[aj,b9]
  exact cE (BG hf D) (ae yG hf)
theorem L9{w h:Nat}{B:List Nat}{s:Nat}:(qy w h B s).length<=hV:=by
 refine ae (BG Sr _) (ae (bx 8 (m:=8) ?_) (aa rfl));unfold dirsOf
 repeat' split
 all_goals exact aa rfl
noncomputable def Sd(B:List Nat)(U t:Nat):Bool:=decide (B.getD t 0=14-8*U)
noncomputable def sJ(B:List Nat)(U s:Nat):Bool:=!decide (B.getD s 0=0)&&decide (B.getD s 0/8=U)
noncomputable def Bs(w h:Nat)(B:List Nat)(U s:Nat):Bool:=sJ B U s&&(qy w h B s).any (Sd B U)
noncomputable def sI(w h:Nat)(B:List Nat)(U:Nat):Bool:=(aI (w*h)).any (Bs w h B U)
section
variable{d mk a w h U:Nat}{B:List Nat}{u:St}
inductive OI(a w h U:Nat)(u:St):List V->St->Prop
 | mk (x y:V) (N:St):OI a w h U u [.ref a,.int w,.int h,.int U,x,y] (u++N)
inductive OJ(a w h U s:Nat)(u:St):List V->St->Prop
 | mk (y:V):OJ a w h U s u [.ref a,.int w,.int h,.int U,.int s,y] u
theorem xi{C:Cx}{E:List V}{p q:MB}{t cr:Bool}(hp:Bo C p E u t u)(hq:Bo C q E u cr u):Bo C (.all [p,q]) E u (t&&cr) u:=by
 refine vd hp ?_;cases t
 .exact⟨rfl,rfl⟩
 refine vd hq ?_;cases cr
 .exact⟨rfl,rfl⟩
 exact G8
theorem Ov{s:Nat}{N:St}{y:V}(hB:(u++N)[a]?=some (aR B))(hl:B.length=w*h)(TE:w*h<=64)(IN:U<2){S:List Nat}(ht:∀t∈S,t<w*h){b:Nat}(hb:(u++N)[b]?=some (aR S)):
  ∃sw re,OJ a w h U s (u++N) sw re/\forLoop (body ⟨af d,mk⟩ (.ah 5) [.fB (.cy (.sub (.ah 0) (.ah 5)) [.eq] [(.aQ .sub (.ai 14) (.aQ .fm (.ai 8) (.ah 3)))]) [.ret (.nf true)] []]) (some (b,aR S)) (S.map λn:Nat=>V.int n) [.ref a,.int w,.int h,.int U,.int s,y] (u++N) =
   .ok (if S.any (Sd B U)=true then .ret (.bool true)else .next) sw re:=by
 refine C6 (λn:Nat=>V.int n) _ (OJ a w h U s (u++N)) (λE re h=>by cases h;exact bp hb) (λt hm E re I=>?_) (.mk y);cases I;have c:∀E,eo E 0=some (.ref a)->eo E 3=some (.int U)->eo E 5=some (.int t)->Bo ⟨af d,mk⟩ (.cy (.sub (.ah 0) (.ah 5)) [.eq] [(.aQ .sub (.ai 14) (.aQ .fm (.ai 8) (.ah 3)))]) E (u++N) (Sd B U t) (u++N):=λE h0 h3 h5=>
  w_eq (et (ag h0) (ag h5) hB (aq (ht t hm) (ae TE (aa rfl))) (getD_at hl (ht t hm))) (iT (bC 14) (gr (bC 8) (ag h3) (aa rfl)) (ae (bx 8 (b8 IN)) (aa rfl)))
 refine⟨_,_,.mk (.int t),cA rfl rfl ?_⟩;by_cases hp:Sd B U t=true
 .rw[aF hp];exact de (c _ rfl rfl rfl) hp (dN pY)
 .rw[aZ hp];exact cu (c _ rfl rfl rfl) (bF hp) dQ
theorem CP(kt:qG u)(hB:u[a]?=some (aR B))(hl:B.length=w*h)(w0:0<w)(w8:w<=8)(h8:h<=8)(IN:U<2):af (d+2) mk .qg [.ref a,.int w,.int h,.int U] u=.ok (.bool (sI w h B U)) u:=by
 refine d5 λGG Y=>?_
 have TE:=gw w8 h8
 have R:=ej (u:=u) (ae TE (aa rfl))
 obtain⟨sw,re,I,e⟩:=C6 (f:=body ⟨af (d+1),u.length⟩ (.ah 4) [.fB (.all [(.cy (.sub (.ah 0) (.ah 4)) [.ne] [(.ai 0)]),(.cy (.aQ .ey (.sub (.ah 0) (.ah 4)) (.ai 8)) [.eq] [(.ah 3)])]) [.for (.ah 5) (.call .Ds [(.ah 0),(.ah 1),(.ah 2),(.ah 4)]) [.fB (.cy (.sub (.ah 0) (.ah 5)) [.eq] [(.aQ .sub (.ai 14) (.aQ .fm (.ai 8) (.ah 3)))]) [.ret (.nf true)] []]] []]) (sK:=none)
  (l:=aI (w*h)) (λn:Nat=>V.int n) (Bs w h B U) (OI a w h U u) (λJ J J=>rfl) (λs S E re I=>by
   cases I with | mk x y N=>
   have S:=bW.mp S
   have g:Ev ⟨af (d+1),u.length⟩ (.sub (.ah 0) (.ah 4)) [.ref a,.int w,.int h,.int U,.int s,y] (u++N) (.int (B.getD s 0)) (u++N):=et (ag rfl) (ag rfl) (bv hB) (aq S (ae TE (aa rfl))) (getD_at hl S)
   have c:Bo _ _ _ _ (sJ B U s) _:=xi (uc g (bC 0)) (w_eq (j7 g (bC 8) (aa rfl) (aa rfl)) (ag (j:=3) rfl))
   unfold Bs;refine d5 λGG Y=>?_
   by_cases hc:sJ B U s=true
   .have H:=O3 (d:=d) (mk:=u.length) (kt.ky N) (bv hB) hl w0 w8 h8 S
    have hb:(u++(N++[aR (qy w h B s)]))[(u++N).length]?=some (aR (qy w h B s)):=by rw[<-am];exact dR _ _
    simp only[am]at H;refine iJ (Ov (d:=d+1) (mk:=u.length) (s:=s) (y:=y) (bv hB) hl TE IN (λt ht=>O4 ht) hb) λρ2 rs=>cJ λon e2=>?_
    cases on with | mk y'=>
    refine Y ?_;refine⟨_,_,.mk (.int s) y' (N++[aR (qy w h B s)]),cA rfl rfl (de c hc ?_)⟩;have it:=iF hb (by rw[aB];exact L9);have cl:=bw (C:=⟨af (d+1),u.length⟩) (f:=.Ds) (E:=[.ref a,.int w,.int h,.int U,.int s,y]) (ak (ag (j:=0) rfl) rfl (ak (ag (j:=1) rfl) rfl (ak (ag (j:=2) rfl) rfl (ak (ag (j:=4) rfl) rfl aY)))) H;rw[hc,og];by_cases ha:(qy w h B s).any (Sd B U)=true
    .rw[aF ha]at e2 ⊢;exact vw cl it e2
    .rw[aZ ha]at e2 ⊢;exact iQ cl it e2 dQ
   .have hc:=bF hc
    refine Y ?_;refine⟨_,_,.mk (.int s) y N,cA rfl rfl (cu c hc ?_)⟩;exact hc▸dQ) (u:=u++[]) (.mk .av .av [])
 cases I with | mk x y N=>
 simp only[aP]at e;have n:Ev ⟨af (d+1),u.length⟩ (.aQ .fm (.ah 1) (.ah 2)) [.ref a,.int w,.int h,.int U,.av,.av] u (.int (w*h:Nat)) u:=gr (ag rfl) (ag rfl) (az w8 (aa rfl));refine Y ?_;apply iW Fc [.ref a,.int w,.int h,.int U,.av,.av] rfl rfl rfl rfl (cR rfl);unfold sI;by_cases ha:(aI (w*h)).any (Bs w h B U)=true
 .rw[aF ha]at e;rw[ha];exact vw (iR (ak n rfl aY) R.1) R.2 e
 .rw[aZ ha]at e;rw[bF ha];exact iQ (iR (ak n rfl aY) R.1) R.2 e (dN pY)
end
theorem qc{f:V->St->RE (List V)}{sK:Option (Nat×O)}{u:St}(g:V->List V)(S:same sK u=true):∀ {vs:List V},(∀v∈vs,f v u=.ok (g v) u)->compLoop f sK vs u=.ok (vs.flatMap g) u
 | [],_=>aF S
 | v::vs,h=>by
  have e:compLoop f sK (v::vs) u=match f v u with
   | .ok l u=>(match compLoop f sK vs u with
    | .ok l' u=>.ok (l++l') u
    | _=>.cn)
   | _=>.cn:=aF S
  refine e.trans ?_;rw[h v (.head _)]
  show(match compLoop f sK vs u with | .ok l' u=>RE.ok (g v++l') u | _=>.cn)=_
  rw[qc g S λv h'=>h v (.tail _ h')]
  rfl
theorem Ea{C:Cx}{E:List V}{u po:St}{xL it:ME}{q:MB}{s:Nat}{x:V}{sK:Option (Nat×O)}{vs:List V}{KB:List V}(p:V->Bool)(g:V->V)(hi:Ev C it E u x po)(Tl:fU x po=some (sK,vs))(S:same sK po=true)
  (h:∀v∈vs,Bo C q (E.set s v) po (p v) po/\(p v=true->Ev C xL (E.set s v) po (g v) po/\(g v).cD=true)) (ho:(vs.flatMap λv=>if p v=true then[g v]else[])=KB) (hl:KB.length<=hV):Ev C (.gu xL s it (some q)) E u (.ref po.length) (po++[.list KB]):=
 ⟨(by
  rw[hi.eq,RE.cV,Tl]
  show(compLoop _ sK vs po).bind _=_
  rw[qc (λv=>if p v=true then[g v]else[]) S λv hv=>by
   refine cJ (λh1 h2=>?_) (h v hv)
   simp only[h1.eq,RE.cV]
   by_cases hp:p v=true
   .refine(aF hp).trans ?_;rw[aF hp,(h2 hp).1.eq,RE.cV,aF (h2 hp).2]
   .refine(aZ hp).trans ?_;rw[aZ hp],RE.cV,ho,aF hl]
  rfl:(ev C it E u).bind (λx u=>match fU x u with
  | none=>.cn
  | some (sK,vs)=>(compLoop (λv u=>(nA C q (E.set s v) u).bind λt u=>if t then(ev C xL (E.set s v) u).bind λr u=>if r.cD then .ok [r] u else .cn else .ok [] u) sK vs u).bind λl u=>
    if l.length<=hV then alloc (.list l) u else .cn)=_)⟩
noncomputable def uu(w:Nat)(B:List Nat)(q base:Nat):List Nat:=([-1,1]:List Int).flatMap λe=>if 0<=((q%w:Nat):Int)+e/\((q%w:Nat):Int)+e<w then[B.getD ((base:Int)+e).toNat 0]else[]
noncomputable def za(w h:Nat)(B:List Nat)(U q rk s1 base:Nat):Bool:=
 decide (5<=h)&&(decide (q/w=rk)&&(decide (B.getD q 0=0)&&(decide (B.getD s1 0=0)&&(decide (B.getD base 0=9-8*U)&&(uu w B q base).contains (1+8*U)))))
section
variable{d mk a w h U q rk s1 base:Nat}{up:Int}{B:List Nat}{u:St}
theorem OH{C:Cx}(hB:u[a]?=some (aR B))(hl:B.length=w*h)(TE:w*h<=64)(w0:0<w)(hb:base<w*h)(e2:(q:Int)-up=base)(hm:base%w=q%w){E:List V}(yq:E=[.ref a,.int w,.int h,.int U,.int q,.int up,.av,.av]):
  Ev C (.gu (.sub (.ah 0) (.aQ .ei (.aQ .sub (.ah 4) (.ah 5)) (.ah 7))) 7 (.eY [(.un .pD (.ai 1)),(.ai 1)]) (some (.cy (.ai 0) [.le,.lt] [(.aQ .ei (.aQ .iq (.ah 4) (.ah 1)) (.ah 7)),(.ah 1)]))) E u (.ref (u.length+1)) (u++[.eY [.int (-1),.int 1],aR (uu w B q base)]):=by
 subst yq;have r:=Ea (s:=7) (E:=[.ref a,.int w,.int h,.int U,.int q,.int up,.av,.av])
  (λv=>match v with | .int e=>decide (0<=((q%w:Nat))+e/\((q%w:Nat))+e<w) | _=>false) (λv=>match v with | .int e=>.int (B.getD (base+e).toNat 0) | _=>.av)
  (KB:=(uu w B q base).map λn:Nat=>V.int n)
  (xA (ak (kL bh) rfl (ak bh rfl aY))) (wY (dR _ _) (aa rfl)) (bp (dR _ _)) (λv hv=>by
   have xT:∀e:Int,(0<=((q%w:Nat))+e/\((q%w:Nat))+e<w->∃x:Nat,base+e=x/\x<w*h)->Bo C (.cy (.ai 0) [.le,.lt] [(.aQ .ei (.aQ .iq (.ah 4) (.ah 1)) (.ah 7)),(.ah 1)]) [.ref a,.int w,.int h,.int U,.int q,.int up,.av,.int e] (u++[.eY [.int (-1),.int 1]]) (decide (0<=((q%w:Nat))+e/\((q%w:Nat))+e<w)) (u++[.eY [.int (-1),.int 1]]) /\
     (decide (0<=((q%w:Nat))+e/\((q%w:Nat))+e<w)=true->Ev C (.sub (.ah 0) (.aQ .ei (.aQ .sub (.ah 4) (.ah 5)) (.ah 7))) [.ref a,.int w,.int h,.int U,.int q,.int up,.av,.int e] (u++[.eY [.int (-1),.int 1]]) (.int (B.getD (base+e).toNat 0)) (u++[.eY [.int (-1),.int 1]])/\V.cD (.int (B.getD (base+e).toNat 0))=true):=λe hk=>by
    refine⟨PG (df (je (ag rfl) (ag rfl) w0) (ag rfl) rfl) (ag rfl),λhp=>⟨?_,rfl⟩⟩;refine cP (hk (bc hp)) λx=>cJ λex lx=>?_
    exact ex▸(et (ag rfl) (df (df (ag rfl) (ag rfl) (show binI .sub q up=some (base:Int)from aM some e2)) (ag rfl) (aM some ex)) (bv hB) (aq lx (ae TE (aa rfl))) (getD_at hl lx))
   rcases aO.mp hv with rfl | hv
   .refine xT (-1) λhp=>?_
    have b1:1<=base:=ae (ed λz=>absurd hp.1 (by rw[<-hm,z];decide)) (Nat.mod_le base w)
    exact⟨base-1,(ii b1).symm,az (eH _ _) hb⟩
   .refine bN (aO.mp hv) (λKM=>?_) λhv=>?_
    .subst KM;refine xT 1 λhp=>⟨base+1,rfl,?_⟩
     have d2:=bx w (cU hb)
     have d3:=hm▸bK.mp hp.2
     exact az (d0 (aM (· + 1) (dP base w)).symm) (aq (fg d3 _) d2)
    .nomatch hv)
  (by
   unfold uu;refine cv.trans ?_;rw[cv,gL,cv,cv,gL,aP,aP,cb];have xT:∀e,(if decide (0<=((q%w:Nat):Int)+e/\((q%w:Nat))+e<w)=true then[V.int (B.getD (base+e).toNat 0)]else[])=(if 0<=((q%w:Nat))+e/\((q%w:Nat))+e<w then[B.getD (base+e).toNat 0]else[]).map λn:Nat=>V.int n:=λe=>by
    by_cases hc:0<=((q%w:Nat))+e/\((q%w:Nat))+e<w
    .refine(aF (bp hc)).trans ?_;rw[aF hc];rfl
    .refine(aZ (λt=>hc (bc t))).trans ?_;rw[aZ hc];rfl
   simp only[<-xT,<-xT]) (by
    rw[aB];unfold uu;refine ae (m:=2) ?_ (aa rfl);simp only[cv,cv,gL,aP,aj];exact cE (d:=1) (by split<;>exact aa rfl) (by split<;>exact aa rfl))
 simp only[am,aj]at r;exact r
theorem Of{C:Cx}{E:List V}{a b:ME}{t cr:Bool}{re:St}{ss:List MS}(ha:Ev C a E u (.bool t) u)(hb:t=true->Ev C b E u (.bool cr) re):∃UF,Xs C (.ret (.nX [a,b])::ss) E u (.ok (.ret (.bool (t&&cr))) E UF)/\(UF=u\/UF=re):=by
 cases t with
 | false=>exact⟨u,dN (yY (by show(ev C a E u).bind _=_;rw[ha.eq];rfl)),.inl rfl⟩
 | true=>exact⟨re,dN (yY (by show(ev C a E u).bind _=_;rw[ha.eq];exact(hb rfl).eq)),.inr rfl⟩
theorem Il{C:Cx}{E:List V}{q:MB}{qs:List MB}{t cr:Bool}(h:Bo C q E u t u)(h2:t=false->Bo C (.any qs) E u cr u):Bo C (.any (q::qs)) E u (t||cr) u:=by
 cases t
 .exact gh h (h2 rfl)
 .exact gh h ⟨rfl,rfl⟩
theorem De{p:Prop}[Decidable p](h:(!decide p)=false):p:=da λn=>absurd ((aM not (bP n)).symm.trans h) (bc rfl)
theorem Bm(hB:u[a]?=some (aR B))(hl:B.length=w*h)(w0:0<w)(w8:w<=8)(h8:h<=8)(IN:U<2)(hup:(w:Int)-(2*w*U:Nat)=up)(hrk:5<=h->(if U=0 then h-3 else 2)=rk)
  (hr:5<=h->q/w=rk->q<w*h/\s1<w*h/\base<w*h/\(q:Int)+up=s1/\(q:Int)-up=base/\base%w=q%w):af (d+1) mk .qH [.ref a,.int w,.int h,.int U,.int q] u=.ok (.bool (za w h B U q rk s1 base)) u:=by
 have TE:=gw w8 h8
 have sqr:∀ {e:ME} {x y:V} {s:Nat} {re:St},s<w*h->re[a]?=some (aR B)->Ev ⟨af d,u.length⟩ e [.ref a,.int w,.int h,.int U,.int q,.int up,x,y] re (.int s) re->Ev ⟨af d,u.length⟩ (.sub (.ah 0) e) [.ref a,.int w,.int h,.int U,.int q,.int up,x,y] re (.int (B.getD s 0)) re:=λhx hb he=>et (ag rfl) he hb (aq hx (ae TE (aa rfl))) (getD_at hl hx)
 have A:Bo ⟨af d,u.length⟩ (.any [(.cy (.ah 2) [.lt] [(.ai 5)]),(.cy (.aQ .ey (.ah 4) (.ah 1)) [.ne] [(.ite (.val (.ah 3)) (.ai 2) (.aQ .sub (.ah 2) (.ai 3)))]),(.cy (.sub (.ah 0) (.ah 4)) [.ne] [(.ai 0)]),(.cy (.sub (.ah 0) (.aQ .ei (.ah 4) (.ah 5))) [.ne] [(.ai 0)])]) [.ref a,.int w,.int h,.int U,.int q,.int up,.av,.av] u
   (!decide (5<=h)||(!decide (q/w=rk)||(!decide (B.getD q 0=0)||(!decide (B.getD s1 0=0)||false)))) u:=by
  refine Il ((w_lt (ag rfl) (bC 5)).to (by rw[<-decide_not];exact decide_eq_decide.mpr jG.symm)) λh5=>?_
  have h5:=De h5
  refine d5 λGG Y=>?_
  have rkE:Ev ⟨af d,u.length⟩ (.ite (.val (.ah 3)) (.ai 2) (.aQ .sub (.ah 2) (.ai 3))) [.ref a,.int w,.int h,.int U,.int q,.int up,.av,.av] u (.int rk) u:=by
   rw[<-hrk h5];by_cases h0:U=0
   .rw[aF h0];exact mf (j9 (ag rfl) rfl) (Uy h0) (iT (ag rfl) (bC 3) (ae (aa rfl) h5))
   .rw[aZ h0];exact md (j9 (ag rfl) rfl) (neT h0) (bC 2)
  refine Y ?_;refine Il (uc (j7 (ag rfl) (ag rfl) w0 (az w8 (aa rfl))) rkE) λhk=>?_
  refine Qj (λr1 r2 _ r4 _=>?_) (hr h5 (De hk));exact Il (uc (sqr r1 hB (ag rfl)) (bC 0)) λJ=>Il (uc (sqr r2 hB (df (ag rfl) (ag rfl) (aM some r4))) (bC 0)) λJ=>rz
 have e0:Ev ⟨af d,u.length⟩ (.aQ .sub (.ah 1) (.aQ .fm (.aQ .fm (.ai 2) (.ah 1)) (.ah 3))) [.ref a,.int w,.int h,.int U,.int q,.av,.av,.av] u (.int up) u:=
  df (ag rfl) (gr ⟨rfl⟩ (ag rfl) (az (bx 2 w8) (aa rfl))) (aM some hup)
 have key:za w h B U q rk s1 base=(!(!decide (5<=h)||(!decide (q/w=rk)||(!decide (B.getD q 0=0)||(!decide (B.getD s1 0=0)||false))))&&(decide (B.getD base 0=9-8*U)&&(uu w B q base).contains (1+8*U))):=(by decide:∀a b c d x:Bool,(a&&(b&&(c&&(d&&x))))=(!(!a||(!b||(!c||(!d||false))))&&x)) _ _ _ _ _
 rw[key];have run:=λ{b:Bool} {sw} {re:St} (ht:re.take u.length=u) hx=>iW (mk:=mk) (f:=.qH) (wv:=[.ref a,.int w,.int h,.int U,.int q]) (b:=b) (sw:=sw) Ah [.ref a,.int w,.int h,.int U,.int q,.av,.av,.av] rfl rfl rfl rfl ht (bG e0 rfl rfl hx)
 by_cases t:(!decide (5<=h)||(!decide (q/w=rk)||(!decide (B.getD q 0=0)||(!decide (B.getD s1 0=0)||false))))=true
 .exact t▸(run aU (de A t (dN pY)))
 .have t:=bF t
  refine Qi (λ_ _ r3 _ r5 r6=>?_) (hr (De (gc.mp t).1) (De (gc.mp (gc.mp t).2).1));rw[t];refine d5 λGG Y=>?_
  have m8:∀ {E:List V} {re:St},eo E 3=some (.int U)->Ev ⟨af d,u.length⟩ (.aQ .fm (.ai 8) (.ah 3)) E re (.int (8*U:Nat)) re:=λh3=>gr (bC 8) (ag h3) (aa rfl)
  obtain⟨re,x,hx⟩:=Of (Lg (sqr (x:=.ref (u.length+1)) (re:=u++[O.eY [V.int (-1),V.int 1],aR (uu w B q base)]) r3 (bv hB) (df (ag (j:=4) rfl) (ag (j:=5) rfl) (show binI .sub q up=some (base:Int)from aM some r5))) (iT (bC 9) (m8 rfl) (ae (bx 8 (b8 IN)) (aa rfl))))
   (λJ=>j5 (jL (bC 1) (m8 rfl)) (gf (ag (j:=6) rfl) (wc (bJ rfl rfl) rfl _)))
  refine Y ?_;exact run (by rcases hx with rfl | rfl<;>exact cR rfl) (cu A t (bG (OH hB hl TE w0 r3 r5 r6 rfl) rfl rfl x))
noncomputable def qv(w h:Nat)(B:List Nat)(U q:Nat):Bool:=if U=0 then za w h B U q (h-3) (q+w) (q-w)else za w h B U q 2 (q-w) (q+w)
theorem Ei(w0:0<w)(hp:qv w h B U q=true):q<w*h:=by
 have go:∀ {rk s1 base:Nat},za w h B U q rk s1 base=true->5<=h/\q/w=rk:=λe=>by
  rw[za,aH,aH]at e;exact⟨bc e.1,bc e.2.1⟩
 unfold qv at hp
 split at hp
 .refine cJ (λh5 e=>?_) (go hp);have h3:=fH (ae (by decide:3<=5) h5);exact(yJ w0 e (ph (ae (by decide) h5)) (ae (i4 (h-3+2)) (d0 h3))).1
 .refine cJ (λh5 e=>?_) (go hp);exact(yJ w0 e (aa rfl) (ae (aa rfl) h5)).1
theorem KL(w:Nat):(w:Int)-(2*w*1:Nat) = -w:=by simp only[Cf,VW,gF,P9,Nk,<-UG,Int.add_right_neg,Av]
theorem Jr(hB:u[a]?=some (aR B))(hl:B.length=w*h)(w0:0<w)(w8:w<=8)(h8:h<=8)(IN:U<2):af (d+1) mk .qH [.ref a,.int w,.int h,.int U,.int q] u=.ok (.bool (qv w h B U q)) u:=by
 unfold qv;by_cases h0:U=0
 .rw[aF h0];refine Bm hB hl w0 w8 h8 IN (up:=w) (h0▸Vk _) (λJ=>aF h0) λh5 e=>?_
  have h3:=fH (ae (by decide:3<=5) h5)
  refine mT (λu1 u2 u3 u4=>?_) (yJ w0 e (ph (ae (by decide) h5)) (ae (i4 (h-3+2)) (d0 h3)));exact⟨u1,u2,u3,rfl,(ii u4).symm,by simp only[Nat.mod_eq_sub_mod u4]⟩
 .skip
  obtain rfl:U=1:=lK (b8 IN) (ed h0);refine Bm hB hl w0 w8 h8 IN (KL w) (λJ=>rfl) λh5 e=>?_
  refine mT (λu1 u2 u3 u4=>?_) (yJ w0 e (aa rfl) (ae (aa rfl) h5));exact⟨u1,u3,u2,by simp only[ii u4];rfl,by rw[Cj];rfl,Nat.add_mod_right _ _⟩
end
theorem wR:∀ {l:List Nat},(∀b∈l,b<256)->cK l<2^(8*l.length)
 | [],_=>rW
 | b::l,h=>by
  have h1:=h b (.head _)
  have h2:=wR λb h'=>h b (.tail _ h')
  rw[zg,dh,kE,ko]
  generalize 2^(8*l.length)=p at *
  lia
theorem vT(v m n:Nat):dW v (m+n)=dW v m++dW (v/2^m) n:=by
 induction n with
 | zero=>simp only[show dW (v/2^m) 0=[]from rfl,aP];rfl
 | succ n ih=>simp only[<-dA,Ep,ih,Ep,am,gx,ko]
theorem yl(v n:Nat):dW (v%2^n) n=dW v n:=by
 refine fV λj hj=>?_
 have hj:=bW.mp hj
 show v%2^n/2^j%2=v/2^j%2
 rw[<-Ft,<-iZ,Nat.mod_mod_of_dvd _ (Nat.pow_dvd_pow 2 hj),iZ,Ft]
theorem LH(n:Nat):dW 0 n=aw n 0:=by
 simp only[dW,show(λj=>0/2^j%2)=λ_:Nat=>0 from funext λj=>by rw[Ve],SP,bV]
theorem vS:∀ {l:List Nat},(∀b∈l,b<256)->l.flatMap (dW · 8)=dW (cK l) (8*l.length)
 | [],_=>rfl
 | b::l,h=>by
  have h1:=h b (.head _)
  simp only[cv,vS λb h'=>h b (.tail _ h'),dh,kE,b9,vT,zg]
  congr 1
  .simp only[<-yl (b+256*cK l) 8,iK,eI h1]
  .rw[kr _ _ (aa rfl),gQ h1,cx]
theorem MV{l:List Nat}(h:∀b∈l,b<256)(n:Nat):l.flatMap (dW · 8)++aw n 0=dW (cK l) (8*l.length+n):=by
 simp only[vS h,vT,gQ (wR h),LH]
section
variable{d mk:Nat}{u:St}{data:List Nat}{w h:Nat}
theorem J2{C:Cx}{E:List V}(h0:eo E 0=some (.bytes data))(yq:17<E.length)(hd:∀b∈data,b<256)(hl:data.length<=100):
  Ev C (.BR (.aQ .iq (.aQ .ey (.ah 16) (.aQ .qu (.ai 2) (.ah 17))) (.ai 2)) 16 (.ah 0) 17 (.gV [(.ai 8)])) E u (.ref u.length) (u++[aR (dW (cK data) (8*data.length))]):=by
 have R:=ej (w:=8) (u:=u) (aa rfl)
 have inner:∀b∈data,(ev C (.gV [(.ai 8)]) (E.set 16 (.int b)) u).bind (λy u=>match fU y u with
   | none=>.cn
   | some (src2,ws)=>compLoop (λw u=>(ev C (.aQ .iq (.aQ .ey (.ah 16) (.aQ .qu (.ai 2) (.ah 17))) (.ai 2)) ((E.set 16 (.int b)).set 17 w) u).bind λr u=>if r.cD then .ok [r] u else .cn) src2 ws u)=.ok ((dW b 8).map λn:Nat=>V.int n) u:=λb hb=>by
  have t:Ev C (.gV [(.ai 8)]) (E.set 16 (.int b)) u (.gV 0 8 1) u:=iR ⟨rfl⟩ R.1
  rw[t.eq,RE.cV,show fU (.gV 0 8 1) u=_ from R.2];show compLoop _ none _ u=_;rw[rb (λv=>match v with | .int j=>.int (b/2^j.toNat%2:Nat) | v=>v) rfl (λv hv=>?_)]
  .rfl
  .refine cP (bj.mp hv) λj=>cJ λhj zn=>?_;subst zn
   have hj:=aK (bW.mp hj) (by decide:8<30)
   have l16:eo ((E.set 16 (.int b)).set 17 (.int j)) 16=some (.int b):=by
    unfold eo;rw[bQ (bc rfl),cG (Q4 yq)]
   have l17:eo ((E.set 16 (.int b)).set 17 (.int j)) 17=some (.int j):=by
    unfold eo;rw[cG (by simp only[aV];exact yq)]
   have t:Ev C (.aQ .iq (.aQ .ey (.ah 16) (.aQ .qu (.ai 2) (.ah 17))) (.ai 2)) ((E.set 16 (.int b)).set 17 (.int j)) u (.int (b/2^j%2:Nat)) u:=je (j7 (ag l16) (sM (ag l17) (aK hj (aa rfl))) (eW j) (y9 hj)) (bC 2) (aa rfl)
   rw[t.eq];rfl
 refine⟨?_⟩;show(ev C (.ah 0) E u).bind (λx u=>match fU x u with
  | none=>.cn
  | some (sK,vs)=>(compLoop _ sK vs u).bind λl u=>if l.length<=hV then alloc (.list l) u else .cn)=_
 rw[(ag h0).eq,RE.cV,show fU (.bytes data) u=some (none,data.map λn:Nat=>V.int n)from aF (ae hl (aa rfl))];show(compLoop _ none _ u).bind _=_;rw[qc (λv=>match v with | .int b=>(dW b.toNat 8).map λn:Nat=>V.int n | _=>[]) rfl (λv hv=>by
  refine cP (bj.mp hv) λb=>cJ λhb zn=>?_;subst zn
  exact inner b hb),RE.cV]
 have e:(data.map λn:Nat=>V.int n).flatMap (λv=>match v with | .int b=>(dW b.toNat 8).map λn:Nat=>V.int n | _=>[])=(dW (cK data) (8*data.length)).map λn:Nat=>V.int n:=by
  rw[<-vS hd,List.map_flatMap,AH];rfl
 rw[e,aF (by simp only[aB,cz];exact ae (bx 8 hl) (aa rfl))];rfl
end
theorem add_lists{u:St}{a b:Nat}{xs ys:List V}(ha:u[a]?=some (.list xs))(hb:u[b]?=some (.list ys))(hl:xs.length+ys.length<=hV):uC .ei (.ref a) (.ref b) u=.ok (.ref u.length) (u++[.list (xs++ys)]):=by
 show dT ((.ei:Op)=.ei) (dc ((u[a]?).bind O.lO) λxs=>dc ((u[b]?).bind O.lO) λys=>dT (xs.length+ys.length<=hV) (alloc (.list (xs++ys)) u))=_
 rw[ha,hb];exact(aF rfl).trans (aF hl)
theorem RL{mk a:Nat}{vs:List V}{u:St}(h:u[a]?=some (.list vs))(hl:vs.length<=hV):iC mk (.ref a) .reverse [] u=.ok .none (u.set a (.list vs.reverse)):=by
 show dc ((u[a]?).bind O.lO) (λvs=>dT (vs.length<=hV) (dT (([])=[]) (RE.ok V.none (u.set a (.list vs.reverse)))))=_
 exact h▸((aF hl).trans (aF rfl))
noncomputable def rH(u:St)(x y z:O)(W f8 a:Nat)(B:List Nat)(db:St):St:=u++x::y::z::iG W f8 a::.list [.int 0]::aR B::db
noncomputable def nx(L:Nat)(data:List Nat)(w h n:Nat)(x6 x7 x8 x9 KT KF Uf x13 x14 x15:V):List V:=[.bytes data,.int w,.int h,.ref (L+3),.int n,.ref (L+5),x6,x7,x8,x9,KT,KF,Uf,x13,x14,x15,.av,.av,.av]
section
variable{C:Cx}{E:List V}{d mk:Nat}{u:St}{x y z:O}{W f8 a n:Nat}{B:List Nat}{db:St}
theorem CG:(rH u x y z W f8 a B db)[u.length+3]?=some (iG W f8 a):=bJ rfl rfl
theorem oz:(rH u x y z W f8 a B db)[u.length+5]?=some (aR B):=bJ rfl rfl
theorem CF{o:List Nat}:(rH u x y z W f8 a B db).set (u.length+5) (aR o)=rH u x y z W f8 a o db:=dI
theorem rM{e:ME}(h3:eo E 3=some (.ref (u.length+3)))(he:Ev ⟨af (d+1),mk⟩ e E (rH u x y z W f8 a B db) (.int n) (rH u x y z W f8 a B db))(ha:a+n<=f8)(hn:n<64)(hN:f8<=hV):
  Ev ⟨af (d+1),mk⟩ (.call .jD [.ah 3,e]) E (rH u x y z W f8 a B db) (.int (rd W a n)) (rH u x y z W f8 (a+n) B db):=by
 have t:=N1 d mk (u.length+3) W f8 a n (rH u x y z W f8 a B db) CG ha hn hN
 simp only[show(rH u x y z W f8 a B db).set (u.length+3) (iG W f8 (a+n))=rH u x y z W f8 (a+n) B db from dI]at t;exact bw (ak (ag h3) rfl (ak he rfl aY)) t
theorem RN{data:List Nat}{w h:Nat}(hd:∀b∈data,b<256)(hl:data.length<=100)(hw:w*h-1<2^5)(hn:Nu 5 (w*h-1)=n)(n8:n<=8)(w8:w<=8)(TE:w*h<=64)(h0:1<=w*h)(hN:8*data.length+200=f8)(hW:cK data=W):
  ∃x y z,iH ⟨af (d+6),mk⟩ eU [.bytes data,.int w,.int h,.av,.av,.av,.av,.av,.av,.av,.av,.av,.av,.av,.av,.av,.av,.av,.av] u =
   iH ⟨af (d+6),mk⟩ (eU.drop 7) (nx u.length data w h n (.int (rd W 0 1)) (.int (rd W 1 n)) (.int (rd W (1+n) n)) .av .av .av .av .av .av .av) (rH u x y z W f8 (1+n+n) (aw (w*h) 0) []):=by
 have hNl:f8<=hV:=by exact hN▸(ae (bI (bx 8 hl) 200) (aa rfl))
 have a1:1+n+n<=f8:=by exact hN▸(ae (cE (bu n8 1) n8) (ae (aa rfl) (jO 200 _)))
 have ln:dW W (8*data.length+200)=dW (cK data) (8*data.length)++aw 200 0:=by simp only[<-hW,<-MV hd 200,vS hd]
 refine⟨aR (dW (cK data) (8*data.length)),.list [.int 0],aR (aw 200 0),Xs.eq ?_⟩;have s1:=J2 (C:=⟨af (d+6),mk⟩) (E:=[.bytes data,.int w,.int h,.av,.av,.av,.av,.av,.av,.av,.av,.av,.av,.av,.av,.av,.av,.av,.av]) (u:=u) rfl (aa rfl) hd hl;have s2:=yW (C:=⟨af (d+6),mk⟩) (E:=[.bytes data,.int w,.int h,.av,.av,.av,.av,.av,.av,.av,.av,.av,.av,.av,.av,.av,.av,.av,.av]) (u:=u++[aR (dW (cK data) (8*data.length))]) (n:=200) (iS (ak (bh (k:=0)) rfl aY)) (aa rfl) bh;simp only[am,aj]at s2;have s3:=yX s1 s2 (add_lists (bJ (i:=0) rfl rfl) (bJ (i:=2) rfl rfl) (by simp only[aB,cz,cX,hN];exact hNl));rw[am,aj]at s3;have e:(dW (cK data) (8*data.length)).map (λn:Nat=>V.int n)++aw 200 (V.int 0)=(dW W f8).map λn:Nat=>V.int n:=by
  simp only[<-hN,ln,cb];rfl
 rw[e]at s3;have rv:iC mk (.ref (u.length+3)) .reverse [] (u++[aR (dW (cK data) (8*data.length)),.list [.int 0],aR (aw 200 0),aR (dW W f8)])=.ok .none (u++[aR (dW (cK data) (8*data.length)),.list [.int 0],aR (aw 200 0),iG W f8 0]):=by
  refine(RL (bJ rfl rfl) (by simp only[aB,cz];exact hNl)).trans ?_;rw[dI,<-List.map_reverse,iG,rX];rfl
 have wd:=KC mk (u++[aR (dW (cK data) (8*data.length)),.list [.int 0],aR (aw 200 0),iG W f8 0]) 5 d (w*h-1) hw
 rw[hn]at wd;refine bG s3 rfl rfl (gb (Jl (ag rfl) (bJ rfl rfl) aY rv) ?_);refine bG (bw (ak (iT (gr (ag rfl) (ag rfl) (az w8 (by decide))) (bC 1) h0) rfl aY) wd) rfl rfl ?_;have s5:=yW (C:=⟨af (d+6),mk⟩) (E:=[.bytes data,.int w,.int h,.ref (u.length+3),.int n,.av,.av,.av,.av,.av,.av,.av,.av,.av,.av,.av,.av,.av,.av]) (u:=u++[aR (dW (cK data) (8*data.length)),.list [.int 0],aR (aw 200 0),iG W f8 0]) (iS (ak (bh (k:=0)) rfl aY)) (ae TE (aa rfl)) (gr (ag (j:=1) rfl) (ag (j:=2) rfl) (az w8 (by decide)));simp only[am,aj,show aw (w*h) (V.int 0)=(aw (w*h) 0).map λn:Nat=>V.int n by simp only[ql];rfl]at s5;refine bG s5 rfl rfl ?_;have lt:n<64:=az n8 (aa rfl);have t6:=rM (d:=d+5) (mk:=mk) (x:=aR (dW (cK data) (8*data.length))) (y:=.list [.int 0]) (z:=aR (aw 200 0)) (W:=W) (n:=1) (B:=aw (w*h) 0) (db:=[]) (E:=nx u.length data w h n .av .av .av .av .av .av .av .av .av .av) rfl bh (ae (aW 1 n |> λq=>ae q (aW _ n)) a1) (aa rfl) hNl;have t7:=rM (d:=d+5) (mk:=mk) (x:=aR (dW (cK data) (8*data.length))) (y:=.list [.int 0]) (z:=aR (aw 200 0)) (W:=W) (B:=aw (w*h) 0) (db:=[]) (E:=nx u.length data w h n (.int (rd W 0 1)) .av .av .av .av .av .av .av .av .av) rfl (ag (j:=4) rfl) (ae (aW _ n) a1) lt hNl;have t8:=rM (d:=d+5) (mk:=mk) (x:=aR (dW (cK data) (8*data.length))) (y:=.list [.int 0]) (z:=aR (aw 200 0)) (W:=W) (B:=aw (w*h) 0) (db:=[]) (E:=nx u.length data w h n (.int (rd W 0 1)) (.int (rd W 1 n)) .av .av .av .av .av .av .av .av) rfl (ag (j:=4) rfl) a1 lt hNl;exact bG t6 rfl rfl (bG t7 rfl rfl (bG t8 rfl rfl ⟨rfl⟩))
end
noncomputable def nJ{α β:Type}(step:β->α->Option β):List α->β->Option β
 | [],b=>some b
 | x::l,b=>(step b x).bind λb=>nJ step l b
theorem BJ{α β:Type}{step:β->α->Option β}{m:List α}:∀ {l:List α} {b:β},nJ step (l++m) b=(nJ step l b).bind λb=>nJ step m b
 | [],_=>rfl
 | x::l,b=>by
  show(step b x).bind _=((step b x).bind _).bind _
  cases step b x with
  | none=>rfl
  | some b=>exact BJ
inductive wx(P:St->Prop):RX->Prop
 | mk {E:List V} {u:St} (h:P u):wx P (.ok (.ret .none) E u)
inductive Ao{β:Type}(R:β->List V->St->Prop)(P:St->Prop):Option β->RX->Prop
 | some {b:β} {E:List V} {u:St} (h:R b E u):Ao R P (some b) (.ok .next E u)
 | none {r:RX} (h:wx P r):Ao R P none r
theorem C5{α β:Type}{f:V->List V->St->RX}{sK:Option (Nat×O)}(g:α->V)(step:β->α->Option β)(R:Nat->β->List V->St->Prop)(P:St->Prop)(S:∀k b E u,R k b E u->same sK u=true):
  ∀ {l:List α},(∀x k b E u,x∈l->R (k+1) b E u->Ao (R k) P (step b x) (f (g x) E u))->∀ {b:β} {E:List V} {u:St},R l.length b E u->Ao (R 0) P (nJ step l b) (forLoop f sK (l.map g) E u)
 | [],_,b,E,u,h=>by
  simp only[show forLoop f sK (([]).map g) E u=_ from jl (S _ _ _ _ h)]
  exact .some h
 | x::l,hb,b,E,u,h=>by
  have e:forLoop f sK ((x::l).map g) E u=match f (g x) E u with
   | .ok (.ret v) E u=>.ok (.ret v) E u
   | .ok _ E u=>forLoop f sK (l.map g) E u
   | .fY E u=>.fY E u
   | .cn=>.cn:=aF (S _ _ _ _ h)
  have hx:=hb x _ b E u (.head _) h
  rw[e]
  show Ao _ _ ((step b x).bind _) _
  generalize step b x=o at hx
  generalize f (g x) E u=r at hx
  cases hx with
  | some h'=>exact C5 g step R P S (λx k b E u hx=>hb x k b E u (.tail _ hx)) h'
  | none h'=>cases h' with | mk h'=>exact .none (.mk h')
noncomputable def u7(m h y:Nat):Bool:=decide (5<m)||(decide (m=1)&&[0,h-1].contains y)
noncomputable def mK(W h y:Nat)(p:Nat×List Nat)(s:Nat):Option (Nat×List Nat):=
 if p.2.getD s 0=0 then
  if rd W p.1 1=1 then
   if u7 (rd W (p.1+1) 3+1) h y=true then none
   else some (p.1+5,p.2.set s (rd W (p.1+1) 3+1+8*rd W (p.1+4) 1))
  else some (p.1+1,p.2)
 else some p
noncomputable def mB:List MS:=[.fB (.any [(.cy (.ah 11) [.gt] [(.ai 5)]),(.all [(.cy (.ah 11) [.eq] [(.ai 1)]),(.cy (.ah 9) [.Gv] [(.eY [(.ai 0),(.aQ .sub (.ah 2) (.ai 1))])])])]) [.ret .lW] [],.assign (.sub (.ah 5) (.ah 10)) (.aQ .ei (.ah 11) (.aQ .fm (.ai 8) (.call .jD [(.ah 3),(.ai 1)])))]
noncomputable def cB:List MS:=[.fB (.all [(.cy (.sub (.ah 5) (.ah 10)) [.eq] [(.ai 0)]),(.cy (.call .jD [(.ah 3),(.ai 1)]) [.eq] [(.ai 1)])]) (.assign (.ah 11) (.aQ .ei (.call .jD [(.ah 3),(.ai 3)]) (.ai 1))::mB) []]
section
variable{C:Cx}{d mk:Nat}{u:St}{x y z:O}{W f8:Nat}{data:List Nat}{w h n yy:Nat}{x6 x7 x8 x9 KT KF:V}{B:List Nat}{db:St}{a m:Nat}{E:List V}
theorem xg{q:MB}{qs:List MB}{cr:Bool}{N τ1 τ2:St}(h:Bo C q E N true τ1)(h2:Bo C (.all qs) E τ1 cr τ2):Bo C (.all (q::qs)) E N cr τ2:=vd h h2
theorem xh{q:MB}{qs:List MB}{N τ1:St}(h:Bo C q E N false τ1):Bo C (.all (q::qs)) E N false τ1:=vd h ⟨rfl,rfl⟩
theorem vc{q:MB}{qs:List MB}{cr:Bool}{N τ1 τ2:St}(h:Bo C q E N false τ1)(h2:Bo C (.any qs) E τ1 cr τ2):Bo C (.any (q::qs)) E N cr τ2:=gh h h2
theorem Dm{q:MB}{qs:List MB}{N τ1:St}(h:Bo C q E N true τ1):Bo C (.any (q::qs)) E N true τ1:=gh h ⟨rfl,rfl⟩
theorem Dn{q:MB}{cr:Bool}{N τ1:St}(h:Bo C q E N cr τ1):Bo C (.all [q]) E N cr τ1:=by
 cases cr
 .exact xh h
 .exact xg h G8
theorem va{q:MB}{cr:Bool}{N τ1:St}(h:Bo C q E N cr τ1):Bo C (.any [q]) E N cr τ1:=by
 cases cr
 .exact vc h rz
 .exact Dm h
theorem wN{o:O}:rH u x y z W f8 a B db++[o]=rH u x y z W f8 a B (db++[o]):=by unfold rH;simp only[am];rfl
theorem LB(h11:eo E 11=some (.int m))(h9:eo E 9=some (.int yy))(h2:eo E 2=some (.int h))(h0:0<h):
  ∃G',Bo C (.any [(.cy (.ah 11) [.gt] [(.ai 5)]),(.all [(.cy (.ah 11) [.eq] [(.ai 1)]),(.cy (.ah 9) [.Gv] [(.eY [(.ai 0),(.aQ .sub (.ah 2) (.ai 1))])])])]) E (rH u x y z W f8 a B db) (u7 m h yy) (rH u x y z W f8 a B G'):=by
 have m1:Bo C (.cy (.ah 11) [.gt] [(.ai 5)]) E (rH u x y z W f8 a B db) (decide (5<m)) (rH u x y z W f8 a B db):=(dg (ag h11) (Dj bh)).to (decide_eq_decide.mpr bK)
 have m2:Bo C (.cy (.ah 11) [.eq] [(.ai 1)]) E (rH u x y z W f8 a B db) (decide (m=1)) (rH u x y z W f8 a B db):=w_eq (ag h11) (bC 1)
 unfold u7;by_cases hb:5<m
 .rw[bp hb]at m1 ⊢;exact⟨db,Dm m1⟩
 .rw[bP hb]at m1 ⊢;by_cases hp:m=1
  .rw[bp hp]at m2 ⊢;have tp:=xA (ak (bC (C:=C) (u:=rH u x y z W f8 a B db) 0) rfl (ak (iT (ag h2) (bC 1) h0) rfl aY));simp only[wN]at tp;have m3:=dg (ag h9) (gf tp (wc (l:=[0,h-1]) (wN▸dR _ _) rfl yy));exact⟨_,vc m1 (va (xg m2 (Dn m3)))⟩
  .rw[bP hp]at m2 ⊢;exact⟨db,vc m1 (va (xh m2))⟩
inductive CI(u:St)(x y z:O)(W f8:Nat)(data:List Nat)(w h n:Nat)(x6 x7 x8 x9:V)(FM k:Nat)(p:Nat×List Nat):List V->St->Prop
 | mk (KT KF:V) (db:St) (hl:p.2.length=w*h) (ha:p.1+5*(k+FM)<=160):CI u x y z W f8 data w h n x6 x7 x8 x9 FM k p (nx u.length data w h n x6 x7 x8 x9 KT KF .av .av .av .av) (rH u x y z W f8 p.1 p.2 db)
def Behind(u N:St):Prop:=∃SZ,N=u++SZ
theorem OQ(hN:f8<=hV)(ha:a+1<=f8)(hl:B.length=w*h){s:Nat}(S:s<w*h)(big:s<4096)(hr:nx u.length data w h n x6 x7 x8 x9 (.int s) (.int m) .av .av .av .av=E):
  Xs ⟨af (d+1),mk⟩ (mB.drop 1) E (rH u x y z W f8 a B db) (.ok .next E (rH u x y z W f8 (a+1) (B.set s (m+8*rd W a 1)) db)):=by
 subst hr;refine sx (jL (ag rfl) (gr (bC 8) (rM rfl bh ha (aa rfl) hN) (aa rfl))) (ag rfl) (ag rfl) oz ⟨cL s,bK.mpr big,by simp only[aB,hl];exact S⟩ rfl ?_;simp only[js,CF];exact dQ
theorem JW(hN:f8<=hV)(h160:160<=f8)(h0:0<h)(TE:w*h<=64){s FM k:Nat}(S:s<w*h){p:Nat×List Nat}{N:St}(I:CI u x y z W f8 data w h n x6 x7 x8 (.int yy) FM (k+1) p E N):
  Ao (CI u x y z W f8 data w h n x6 x7 x8 (.int yy) FM k) (Behind u) (mK W h yy p s) (body ⟨af (d+1),mk⟩ (.ah 10) cB (.int s) E N):=by
 cases I with | mk KT KF db hl ha=>
 obtain⟨a,B⟩:=p;have hk:a+5+5*(k+FM)<=160:=by rw[dA,b9 5,<-kE,<-Nat.succ_add];exact ha
 have hk1:a+1+5*(k+FM)<=160:=ae (bI (bu (by decide) a) _) hk
 have hk0:=ae (bI (aW a 1) _) hk1
 have ha5:=ae (aW _ _) (ae hk h160)
 have big:s<4096:=aq S (ae TE (aa rfl))
 have c1:Bo ⟨af (d+1),mk⟩ (.cy (.sub (.ah 5) (.ah 10)) [.eq] [(.ai 0)]) (nx u.length data w h n x6 x7 x8 (.int yy) (.int s) KF .av .av .av .av) (rH u x y z W f8 a B db) (decide (B.getD s 0=0)) (rH u x y z W f8 a B db):=w_eq (et (ag rfl) (ag rfl) oz big (getD_at hl S)) (bC 0)
 unfold mK;by_cases hz:B.getD s 0=0
 .rw[aF hz];have c2:Bo ⟨af (d+1),mk⟩ (.cy (.call .jD [(.ah 3),(.ai 1)]) [.eq] [(.ai 1)]) (nx u.length data w h n x6 x7 x8 (.int yy) (.int s) KF .av .av .av .av) (rH u x y z W f8 a B db) (decide (rd W a 1=1)) (rH u x y z W f8 (a+1) B db):=w_eq (rM rfl (bC 1) (ae (bu (by decide) a) ha5) (aa rfl) hN) (bC 1);by_cases h1:rd W a 1=1
  .rw[aF h1];have t1:=jL (rM (d:=d) (mk:=mk) (n:=3) (x:=x) (y:=y) (z:=z) (W:=W) (B:=B) (db:=db) (E:=nx u.length data w h n x6 x7 x8 (.int yy) (.int s) KF .av .av .av .av) rfl bh (ae (bu (by decide:4<=5) a) ha5) (aa rfl) hN) (bC 1);refine cP (LB (C:=⟨af (d+1),mk⟩) (u:=u) (x:=x) (y:=y) (z:=z) (W:=W) (f8:=f8) (a:=a+4) (B:=B) (db:=db) (E:=nx u.length data w h n x6 x7 x8 (.int yy) (.int s) (.int (rd W (a+1) 3+1:Nat)) .av .av .av .av) rfl rfl rfl h0) λG' m1=>?_
   have hd:=λr hr=>cA (j:=10) (bd:=cB) (E:=nx u.length data w h n x6 x7 x8 (.int yy) KT KF .av .av .av .av) (r:=r) rfl rfl (de (xg (c1.to (bp hz)) (Dn (c2.to (bp h1)))) rfl (bG (ss:=mB) t1 rfl rfl hr))
   by_cases hb:u7 (rd W (a+1) 3+1) h yy=true
   .rw[aF hb,hd _ (de m1 hb (dN F4))];exact .none (.mk ⟨_,rfl⟩)
   .rw[aZ hb,hd _ (cu m1 (bF hb) (OQ hN ha5 hl S big rfl))];exact .some (.mk _ _ _ (aV.trans hl) hk)
  .rw[aZ h1];have e:=cA (j:=10) (bd:=cB) (E:=nx u.length data w h n x6 x7 x8 (.int yy) KT KF .av .av .av .av) rfl rfl (cu (xg (c1.to (bp hz)) (xh (c2.to (bP h1)))) rfl dQ);simp only[e];exact .some (.mk _ _ _ hl hk1)
 .rw[aZ hz];refine d5 λGG Y=>?_
  have e:=cA (j:=10) (bd:=cB) (E:=nx u.length data w h n x6 x7 x8 (.int yy) KT KF .av .av .av .av) rfl rfl (cu (xh (c1.to (bP hz))) rfl dQ)
  refine Y ?_;simp only[e];exact .some (.mk _ _ _ hl hk0)
end
theorem zy{a n:Nat}{u:St}(h:a+n<=1000):mG [.int a,.int (a+n:Nat)]=some (.gV a (a+n:Nat) 1)/\fU (.gV a (a+n:Nat) 1) u=some (none,((aI n).map λc=>a+c).map λn:Nat=>V.int n):=by
 have ok:Bj a (a+n:Nat) 1=true:=PX (ae (aW a n) (ae h (by decide))) (ae h (by decide)) (bc rfl) (aa rfl)
 have ht:gD a (a+n:Nat) 1=n:=by
  have:=yz (a:=a) (n:=n) (c:=0)
  rwa [cx,rX]at this
 refine⟨aF ok,?_⟩;show(if Bj a (a+n:Nat) 1=true/\gD a (a+n:Nat) 1<=hV then some (none,ie a 1 (gD a (a+n:Nat) 1))else none)=_;rw[ht,aF ⟨ok,ae (jO n a) (ae h (aa rfl))⟩,pM,dY];refine aM (λl=>some (none,l)) (fV λi J=>?_);rw[Ck];rfl
noncomputable def zu(W w h:Nat)(p:Nat×List Nat)(y:Nat):Option (Nat×List Nat):=nJ (mK W h y) (tJ w y) p
noncomputable def qX(W w h:Nat)(p:Nat×List Nat):Option (Nat×List Nat):=nJ (zu W w h) (aI h).reverse p
noncomputable def rB:List MS:=[.for (.ah 10) (.gV [(.aQ .fm (.ah 9) (.ah 1)),(.aQ .ei (.aQ .fm (.ah 9) (.ah 1)) (.ah 1))]) cB]
section
variable{d mk:Nat}{u:St}{x y z:O}{W f8:Nat}{data:List Nat}{w h n:Nat}{x6 x7 x8:V}{E:List V}
theorem K4(hN:f8<=hV)(h160:160<=f8)(h0:0<h)(w8:w<=8)(h8:h<=8){yy k:Nat}(hy:yy<h){p:Nat×List Nat}{N:St}(I:∃x9,CI u x y z W f8 data w h n x6 x7 x8 x9 (w*(k+1)) 0 p E N):
  Ao (λp E N=>∃x9,CI u x y z W f8 data w h n x6 x7 x8 x9 (w*k) 0 p E N) (Behind u) (zu W w h p yy) (body ⟨af (d+1),mk⟩ (.ah 9) rB (.int yy) E N):=by
 have TE:=gw w8 h8
 have hr:∀s∈tJ w yy,s<w*h:=λs S=>by
  refine cP (bj.mp S) λc=>cJ λhc zn=>?_;subst zn
  exact xu (bW.mp hc) hy
 obtain⟨x9,I⟩:=I;cases I with | mk KT KF db hl ha=>
 have L:=C5 (f:=body ⟨af (d+1),mk⟩ (.ah 10) cB) (sK:=none) (λn:Nat=>V.int n) (mK W h yy) (CI u x y z W f8 data w h n x6 x7 x8 (.int yy) (w*k)) (Behind u) (λJ J J J J=>rfl) (λs k p E N S I=>JW hN h160 h0 TE (hr s S) I)
  (.mk KT KF db hl (by simp only[tJ,aB,bV,b9 w];rw[cx]at ha;exact ha))
 have R:=zy (u:=rH u x y z W f8 p.1 p.2 db) (ae (cE (gw (ae (dZ hy) h8) w8) w8) (aa rfl))
 have yw:Ev ⟨af (d+1),mk⟩ (.aQ .fm (.ah 9) (.ah 1)) (nx u.length data w h n x6 x7 x8 (.int yy) KT KF .av .av .av .av) (rH u x y z W f8 p.1 p.2 db) (.int (yy*w:Nat)) (rH u x y z W f8 p.1 p.2 db):=gr (ag rfl) (ag rfl) (aq hy (ae h8 (aa rfl)))
 have it:=iR (ak yw rfl (ak (jL yw (ag (j:=1) rfl)) rfl aY)) R.1
 unfold zu;generalize nJ (mK W h yy) (tJ w yy) p=o at L;generalize hq:forLoop (body ⟨af (d+1),mk⟩ (.ah 10) cB) none ((tJ w yy).map λn:Nat=>V.int n) (nx u.length data w h n x6 x7 x8 (.int yy) KT KF .av .av .av .av) (rH u x y z W f8 p.1 p.2 db)=q at L;cases L with
 | some I'=>
  have e:Xs ⟨af (d+1),mk⟩ rB (nx u.length data w h n x6 x7 x8 (.int yy) KT KF .av .av .av .av) _ _:=iQ it R.2 hq dQ
  have e:=cA (j:=9) (E:=nx u.length data w h n x6 x7 x8 x9 KT KF .av .av .av .av) rfl rfl e
  simp only[e];exact .some ⟨.int yy,I'⟩
 | none q'=>cases q' with | mk q'=>
  have e:Xs ⟨af (d+1),mk⟩ rB (nx u.length data w h n x6 x7 x8 (.int yy) KT KF .av .av .av .av) _ _:=vw it R.2 hq
  have e:=cA (j:=9) (E:=nx u.length data w h n x6 x7 x8 x9 KT KF .av .av .av .av) rfl rfl e
  simp only[e];exact .none (.mk q')
theorem K0(hN:f8<=hV)(h160:160<=f8)(h0:0<h)(w8:w<=8)(h8:h<=8){a:Nat}{B:List Nat}(hl:B.length=w*h)(ha:a+5*(w*h)<=160){x9 KT KF:V}{db:St}{ss:List MS}:
  (∃p x9' x10' x11' G',qX W w h (a,B)=some p/\p.1<=160/\p.2.length=w*h/\iH ⟨af (d+1),mk⟩ (.for (.ah 9) (.gV [(.aQ .sub (.ah 2) (.ai 1)),(.un .pD (.ai 1)),(.un .pD (.ai 1))]) rB::ss) (nx u.length data w h n x6 x7 x8 x9 KT KF .av .av .av .av) (rH u x y z W f8 a B db)=iH ⟨af (d+1),mk⟩ ss (nx u.length data w h n x6 x7 x8 x9' x10' x11' .av .av .av .av) (rH u x y z W f8 p.1 p.2 G')) \/
  (qX W w h (a,B)=none/\wx (Behind u) (iH ⟨af (d+1),mk⟩ (.for (.ah 9) (.gV [(.aQ .sub (.ah 2) (.ai 1)),(.un .pD (.ai 1)),(.un .pD (.ai 1))]) rB::ss) (nx u.length data w h n x6 x7 x8 x9 KT KF .av .av .av .av) (rH u x y z W f8 a B db))):=by
 have L:=C5 (f:=body ⟨af (d+1),mk⟩ (.ah 9) rB) (sK:=none) (λn:Nat=>V.int n) (zu W w h) (λk p E N=>∃x9,CI u x y z W f8 data w h n x6 x7 x8 x9 (w*k) 0 p E N) (Behind u) (λJ J J J J=>rfl) (λyy k p E N hy I=>K4 hN h160 h0 w8 h8 (bW.mp (so.mp hy)) I)
  ⟨x9,.mk (p:=(a,B)) KT KF db hl (by simp only[jp,bV,cx];exact ha)⟩
 have R:=zz (u:=rH u x y z W f8 a B db) h0 (ae h8 (aa rfl))
 have it:=iR (ak (df (op:=.sub) (ag (C:=⟨af (d+1),mk⟩) (E:=nx u.length data w h n x6 x7 x8 x9 KT KF .av .av .av .av) (u:=rH u x y z W f8 a B db) (j:=2) rfl) bh rfl) rfl (ak (kL bh) rfl (ak (kL bh) rfl aY))) R.1
 unfold qX;generalize nJ (zu W w h) (aI h).reverse (a,B)=o at L;generalize hq:forLoop (body ⟨af (d+1),mk⟩ (.ah 9) rB) none ((aI h).reverse.map λn:Nat=>V.int n) (nx u.length data w h n x6 x7 x8 x9 KT KF .av .av .av .av) (rH u x y z W f8 a B db)=q at L;refine d5 λGG Y=>?_
 cases L with
 | some I'=>
  obtain⟨x9',I'⟩:=I';cases I' with | mk x10' x11' G' hl' ha'=>
  refine Y ?_;exact .inl ⟨_,_,_,_,_,rfl,ae (aW _ _) ha',hl',(iQ it R.2 hq ⟨rfl⟩).eq⟩
 | none q'=>cases q' with | mk q'=>
  refine Y ?_;refine .inr ⟨rfl,?_⟩;rw[(vw it R.2 hq).eq];exact .mk q'
theorem RM{ka kb:Nat}(ha:ka<4096)(hb:kb<4096){ss:List MS}(S:ss=eU.drop 7)(w8:w<=8)(TE:w*h<=64){a:Nat}:
  if ka=kb\/w*h<=ka\/w*h<=kb then wx (Behind u) (iH ⟨af d,mk⟩ ss (nx u.length data w h n x6 (.int ka) (.int kb) .av .av .av .av .av .av .av) (rH u x y z W f8 a (aw (w*h) 0) []))
  else iH ⟨af d,mk⟩ ss (nx u.length data w h n x6 (.int ka) (.int kb) .av .av .av .av .av .av .av) (rH u x y z W f8 a (aw (w*h) 0) []) =
   iH ⟨af d,mk⟩ (eU.drop 10) (nx u.length data w h n x6 (.int ka) (.int kb) .av .av .av .av .av .av .av) (rH u x y z W f8 a (((aw (w*h) 0).set ka 6).set kb 14) []):=by
 subst S;have c1:Bo ⟨af d,mk⟩ (.cy (.ah 7) [.eq] [(.ah 8)]) (nx u.length data w h n x6 (.int ka) (.int kb) .av .av .av .av .av .av .av) (rH u x y z W f8 a (aw (w*h) 0) []) (decide (ka=kb)) _:=w_eq (ag rfl) (ag rfl);have mx:(if ka<(kb:Int)then(kb:Int)else ka)=((if ka<kb then kb else ka)):=by
  by_cases q:ka<kb
  .rw[aF q,aF (bK.mpr q)]
  .rw[aZ q,aZ λt=>q (bK.mp t)]
 have c2:Bo ⟨af d,mk⟩ (.cy (.bi .Gj [(.ah 7),(.ah 8)]) [.ge] [(.aQ .fm (.ah 1) (.ah 2))]) (nx u.length data w h n x6 (.int ka) (.int kb) .av .av .av .av .av .av .av) (rH u x y z W f8 a (aw (w*h) 0) []) (decide (w*h<=if ka<kb then kb else ka)) _:=
  (dg (pC ⟨rfl⟩ (show builtin .Gj [.int ka,.int kb] _=RE.ok (V.int ((if ka<kb then kb else ka:Nat))) _ from aM (λi=>RE.ok (V.int i) _) mx)) (u6 (gr (ag rfl) (ag rfl) (az w8 (aa rfl))))).to (decide_eq_decide.mpr kI)
 by_cases h1:ka=kb
 .refine d5 λGG Y=>?_
  have e:Xs _ (eU.drop 7) _ _ _:=de (Dm (c1.to (bp h1))) rfl (dN F4)
  refine Y ?_;refine((aF (.inl h1))).mpr ?_;simp only[e.eq];exact .mk ⟨_,rfl⟩
 .have c1:=c1.to (bP h1)
  by_cases h2:w*h<=if ka<kb then kb else ka
  .have e:Xs _ (eU.drop 7) _ _ _:=de (vc c1 (va (c2.to (bp h2)))) rfl (dN F4)
   refine((aF (by split at h2;exact .inr (.inr h2);exact .inr (.inl h2)))).mpr ?_;simp only[e.eq];exact .mk ⟨_,rfl⟩
  .have h3:ka<w*h/\kb<w*h:=by
    split at h2
    .rename_i q;exact⟨aK q (bq h2),bq h2⟩
    .rename_i q;exact⟨bq h2,az (bZ q) (bq h2)⟩
   refine((aZ (λq=>q.elim h1 λq=>q.elim (jG.mpr h3.1) (jG.mpr h3.2)))).mpr ?_;refine Xs.eq (cu (vc c1 (va (c2.to (bP h2)))) rfl (sx (bC 6) (ag rfl) (ag rfl) oz ⟨cL ka,bK.mpr ha,by simp only[aB,cX];exact h3.1⟩ rfl ?_));simp only[js,CF];refine sx (bC 14) (ag rfl) (ag rfl) oz ⟨cL kb,bK.mpr hb,by simp only[aB,aV,cX];exact h3.2⟩ rfl ?_;simp only[js,CF];exact⟨rfl⟩
end
structure Told where
 (B:List Nat)
 (bL aX:Nat)
 ep:Int
 (half full:Nat)
noncomputable def jK(w h:Nat)(B:List Nat)(aX i:Nat):Bool:=decide (aX/2^i%2=1)&&!FK w h B i
noncomputable def mv(W c w h:Nat)(t:Told)(e:Nat):Bool:=decide (c<e)||(decide (e+7<c)||(decide (W/2^e≠0)||(decide (t.full=0)||sI w h t.B t.bL)))
noncomputable def wW(W c w h:Nat)(B:List Nat)(U aX:Nat)(ep:Int)(b:Nat):Option Told:=
 let t:Told:=⟨B,U,aX,ep,rd W b 6+64*rd W (b+22) 1,rd W (b+6) 16⟩
 if mv W c w h t (b+23)=true then none else if(aI 4).filter (jK w h B aX)=[]then some t else none
theorem BZ:∀ {L:List Nat},nj L->(L.contains 1=true↔d9 L≠0)
 | [],_=>⟨λh=>(nomatch h),λh=>absurd rfl h⟩
 | b::L,h=>by
  have ih:=BZ λb h'=>h b (.tail _ h')
  simp only[iw,cF,ih,oq]
  have hb:=h b (.head _)
  rw[beq_iff_eq]
  constructor
  .intro e q
   have z:=Nat.add_eq_zero_iff.mp q
   exact e.elim (λe=>absurd (e.trans z.1) (bc rfl)) λe=>e ((Nat.mul_eq_zero.mp z.2).resolve_left (bc rfl))
  .intro e
   by_cases b0:b=0
   .exact .inr λq=>e (by rw[b0,q])
   .exact .inl (lK (ed b0) (b8 hb))
theorem Su{c x f8:Nat}(h:c+200=f8):f8-x<200↔c<x:=by
 rw[<-h,<-jG,<-jG];refine not_congr (Kp.trans ?_);rw[b9 (c+1) 199,ID,Nat.lt_succ_iff]
theorem Sv{c x f8:Nat}(h:c+200=f8):207<f8-x↔x+7<c:=by
 rw[<-h,Kp,b9 c,show 207+x=200+(x+7) by simp only[b9 200,b9 207],ID]
theorem O5{W f8 e c:Nat}(hW:W<2^c)(hc:c<=f8):(dW (W/2^e) (f8-e)).reverse.contains 1=decide (W/2^e≠0):=by
 refine jH.mpr ?_;rw[decide_eq_true_eq,List.contains_reverse,BZ (dw _ _),ta,eI];refine cU (aq hW ?_);rw[<-ko];exact wz (aa rfl) (ae hc (Kh.mp (cH _)))
theorem zX{u:St}{a b:Nat}{l:List Nat}(ha:u[a]?=some (aR l))(hb:u[b]?=some (.list [])):j8 .ne (.ref a) (.ref b) u=some (!decide (l=[])):=by
 show(Gq u[a]? u[b]?).map (!·)=_
 simp only[ha,hb];show((jf (l.map λn:Nat=>V.int n)).bind λl=>some (decide (l=[]))).map (!·)=_;rw[kN];cases l<;>rfl
inductive uI(u:St):Option Told->RX->Prop
 | none {r:RX} (h:wx (Behind u) r):uI u none r
 | some {t:Told} {E:List V} {N:St} {k c:Nat} (hk:N[k]?=some (.eY [.ref (u.length+c),.int t.bL,.int t.aX,.int t.ep,.int t.half,.int t.full])) (hc:N[c]?=some (aR t.B)):uI u (some t) (.ok (.ret (.ref (u.length+k))) E (u++N))
section
variable{d mk:Nat}{u:St}{x y z:O}{W f8 c:Nat}{data:List Nat}{w h n U aX:Nat}{x7 x8 x9 KT KF x14 x15:V}{B:List Nat}{db:St}{ep:Int}
theorem K9{half full:Nat}{t:Told}(ht:t=⟨B,U,aX,ep,half,full⟩):uI u (some t) (iH ⟨af d,mk⟩ (eU.drop 19) (nx u.length data w h n (.int U) x7 x8 x9 KT KF (.int aX) (.int ep) (.int half) (.int full)) (rH u x y z W f8 c B db)):=by
 subst ht;have tp:=xA (C:=⟨af d,mk⟩) (E:=nx u.length data w h n (.int U) x7 x8 x9 KT KF (.int aX) (.int ep) (.int half) (.int full)) (u:=rH u x y z W f8 c B db) (ak (ag (j:=5) rfl) rfl (ak (ag (j:=6) rfl) rfl (ak (ag (j:=12) rfl) rfl (ak (ag (j:=13) rfl) rfl (ak (ag (j:=14) rfl) rfl (ak (ag (j:=15) rfl) rfl aY))))));simp only[wN,show(rH u x y z W f8 c B db).length=u.length+(x::y::z::iG W f8 c::.list [.int 0]::aR B::db).length from aj]at tp;have e:Xs _ (eU.drop 19) _ _ _:=dN tp;simp only[e.eq];exact .some gm rfl
theorem Jg{half full e:Nat}(hl:B.length=w*h)(w0:0<w)(h0:0<h)(w8:w<=8)(TE:w*h<=64):
  uI u (if(aI 4).filter (jK w h B aX)=[]then some ⟨B,U,aX,ep,half,full⟩else none) (iH ⟨af (d+1),mk⟩ (eU.drop 18) (nx u.length data w h n (.int U) x7 x8 x9 KT KF (.int aX) (.int ep) (.int half) (.int full)) (rH u x y z W f8 e B db)):=by
 have R:=ej (w:=4) (u:=rH u x y z W f8 e B db) (aa rfl)
 have c:=Ea (C:=⟨af (d+1),mk⟩) (E:=nx u.length data w h n (.int U) x7 x8 x9 KT KF (.int aX) (.int ep) (.int half) (.int full)) (s:=18) (xL:=.ah 18)
  (q:=.all [(.cy (.aQ .iq (.aQ .ey (.ah 12) (.aQ .qu (.ai 2) (.ah 18))) (.ai 2)) [.eq] [(.ai 1)]),(.not (.val (.call .vh [(.ah 5),(.ah 1),(.ah 2),(.ah 18)])))])
  (λv=>match v with | .int i=>jK w h B aX i.toNat | _=>false) (λv=>v) (iR (ak (bC 4) rfl aY) R.1) R.2 rfl (λv hv=>by
   refine cP (bj.mp hv) λi=>cJ λhi zn=>?_;subst zn
   have hi:=bW.mp hi
   have p30:i<30:=aK hi (aa rfl)
   have wg:=Hr d mk (u.length+5) w h i B (rH u x y z W f8 e B db) oz hl TE w0 h0 w8 hi
   refine⟨?_,λJ=>⟨ag rfl,rfl⟩⟩;show Bo _ _ _ _ (decide (aX/2^i%2=1)&&!FK w h B i) _;exact xi (w_eq (je (j7 (ag rfl) (sM (ag rfl) (aK p30 (aa rfl))) (eW i) (y9 p30)) (bC 2) (aa rfl)) (bC 1)) (xI (j9 (bw ⟨rfl⟩ wg) rfl)))
  (by
   have e:∀l:List Nat,((l.map λn:Nat=>V.int n).flatMap λv=>if(match v with | .int i=>jK w h B aX i.toNat | _=>false)=true then[v]else[])=(l.filter (jK w h B aX)).map λn:Nat=>V.int n:=λl=>by
    induction l with
    | nil=>rfl
    | cons i l ih=>
     rw[cN,cv,ih,AI];show(if jK w h B aX i=true then[V.int i]else[])++_=_
     split<;>rfl
   exact e _) (by rw[aB];exact ae (List.length_filter_le _ _) (aa rfl))
 simp only[wN]at c;have nl:=iS (C:=⟨af (d+1),mk⟩) (E:=nx u.length data w h n (.int U) x7 x8 x9 KT KF (.int aX) (.int ep) (.int half) (.int full)) (u:=rH u x y z W f8 e B (db++[aR ((aI 4).filter (jK w h B aX))])) aY;have q:=dg c (gf nl (zX (bv (wN▸dR _ _)) (dR _ _)));simp only[wN]at q;by_cases hq:(aI 4).filter (jK w h B aX)=[]
 .rw[aF hq];have s:Xs _ (eU.drop 18) _ _ _:=cu (q.to (by rw[bp hq];rfl)) rfl (Xs.mk rfl);simp only[s.eq];exact K9 rfl
 .rw[aZ hq];have s:Xs _ (eU.drop 18) _ _ _:=de (q.to (by rw[bP hq];rfl)) rfl ⟨rfl⟩;simp only[s.eq];exact .none (.mk ⟨_,rfl⟩)
theorem MY{C:Cx}{E:List V}{N:St}{q:MB}{qs:List MB}{t cr:Bool}(h:Bo C q E N t N)(h2:Bo C (.any qs) E N cr N):Bo C (.any (q::qs)) E N (t||cr) N:=by
 cases t
 .exact vc h h2
 .exact Dm h
theorem D7{b:Nat}(kt:qG u)(hN:c+200=f8)(hNl:f8<=hV)(hW:W<2^c)(hb:b+23<=f8)(hl:B.length=w*h)(w0:0<w)(h0:0<h)(w8:w<=8)(h8:h<=8)(IN:U<2):
  uI u (wW W c w h B U aX ep b) (iH ⟨af (d+2),mk⟩ (eU.drop 14) (nx u.length data w h n (.int U) x7 x8 x9 KT KF (.int aX) (.int ep) x14 x15) (rH u x y z W f8 b B db)):=by
 have fit:∀ {i},i<=23->b+i<=f8:=λq=>ae (bu q b) hb
 have s1:=rM (d:=d+1) (mk:=mk) (x:=x) (y:=y) (z:=z) (W:=W) (B:=B) (db:=db) (E:=nx u.length data w h n (.int U) x7 x8 x9 KT KF (.int aX) (.int ep) x14 x15) rfl bh (fit (i:=6) (aa rfl)) (aa rfl) hNl
 have s2:=rM (d:=d+1) (mk:=mk) (x:=x) (y:=y) (z:=z) (W:=W) (n:=16) (B:=B) (db:=db) (E:=nx u.length data w h n (.int U) x7 x8 x9 KT KF (.int aX) (.int ep) (.int (rd W b 6)) x15) rfl bh (fit (i:=22) (aa rfl)) (aa rfl) hNl
 have s3:=gr (bC 64) (rM (d:=d+1) (mk:=mk) (x:=x) (y:=y) (z:=z) (W:=W) (n:=1) (B:=B) (db:=db) (E:=nx u.length data w h n (.int U) x7 x8 x9 KT KF (.int aX) (.int ep) (.int (rd W b 6)) (.int (rd W (b+6) 16))) rfl bh (fit (i:=23) (aa rfl)) (aa rfl) hNl) (aa rfl)
 have s:Xs ⟨af (d+2),mk⟩ (eU.drop 14) (nx u.length data w h n (.int U) x7 x8 x9 KT KF (.int aX) (.int ep) x14 x15) (rH u x y z W f8 b B db) (iH ⟨af (d+2),mk⟩ (eU.drop 17) (nx u.length data w h n (.int U) x7 x8 x9 KT KF (.int aX) (.int ep) (.int (rd W b 6+64*rd W (b+22) 1:Nat)) (.int (rd W (b+6) 16))) (rH u x y z W f8 (b+23) B db)):=
  bG s1 rfl rfl (bG s2 rfl rfl (gU rfl s3 rfl rfl ⟨rfl⟩))
 simp only[s.eq];have ln:∀E,eo E 3=some (.ref (u.length+3))->Ev ⟨af (d+2),mk⟩ (.bi .len [(.ah 3)]) E (rH u x y z W f8 (b+23) B db) (.int (f8-(b+23):Nat)) (rH u x y z W f8 (b+23) B db):=λE h3=>by
  have q:=pC (C:=⟨af (d+2),mk⟩) (ak (ag h3) rfl aY) (xd (CG (x:=x) (y:=y) (z:=z) (W:=W) (a:=b+23) (B:=B) (db:=db)) (by simp only[aB,jp,cz];exact ae (eH _ _) hNl))
  rwa [aB,jp,cz]at q
 have op:=CP (d:=d) (mk:=mk) (u:=rH u x y z W f8 (b+23) B db) (kt.ky _) oz hl w0 w8 h8 IN
 have q1:=(w_lt (ln (nx u.length data w h n (.int U) x7 x8 x9 KT KF (.int aX) (.int ep) (.int (rd W b 6+64*rd W (b+22) 1:Nat)) (.int (rd W (b+6) 16))) rfl) (bC 200)).to (cr:=decide (c<b+23)) (decide_eq_decide.mpr (Su hN))
 have q2:=(dg (ln (nx u.length data w h n (.int U) x7 x8 x9 KT KF (.int aX) (.int ep) (.int (rd W b 6+64*rd W (b+22) 1:Nat)) (.int (rd W (b+6) 16))) rfl) (Dj (bC 207))).to (cr:=decide (b+23+7<c)) (decide_eq_decide.mpr (bK.trans (Sv hN)))
 have q3:=(dg (bC 1) (gf (ag (C:=⟨af (d+2),mk⟩) (E:=nx u.length data w h n (.int U) x7 x8 x9 KT KF (.int aX) (.int ep) (.int (rd W b 6+64*rd W (b+22) 1:Nat)) (.int (rd W (b+6) 16))) (j:=3) rfl) (wc (CG (x:=x) (y:=y) (z:=z) (a:=b+23) (B:=B) (db:=db)) rfl 1))).to (O5 hW (hN▸aW c 200))
 have q:Bo ⟨af (d+2),mk⟩ (.any [(.cy (.bi .len [(.ah 3)]) [.lt] [(.ai 200)]),(.cy (.bi .len [(.ah 3)]) [.gt] [(.ai 207)]),(.cy (.ai 1) [.Gv] [(.ah 3)]),(.cy (.ah 15) [.eq] [(.ai 0)]),(.val (.call .qg [(.ah 5),(.ah 1),(.ah 2),(.ah 6)]))]) _ _ _ _:=MY q1 (MY q2 (MY q3 (MY (w_eq (ag rfl) (bC 0)) (va (j9 (bw ⟨rfl⟩ op) rfl)))))
 by_cases hq:mv W c w h ⟨B,U,aX,ep,rd W b 6+64*rd W (b+22) 1,rd W (b+6) 16⟩ (b+23)=true
 .have s:Xs _ (eU.drop 17) _ _ _:=de q hq ⟨rfl⟩
  rw[s.eq];show uI u (if mv W c w h ⟨B,U,aX,ep,rd W b 6+64*rd W (b+22) 1,rd W (b+6) 16⟩ (b+23)=true then none else _) _;rw[aF hq];exact .none (.mk ⟨_,rfl⟩)
 .have s:Xs _ (eU.drop 17) _ _ _:=cu q (bF hq) (Xs.mk rfl)
  rw[s.eq];show uI u (if mv W c w h ⟨B,U,aX,ep,rd W b 6+64*rd W (b+22) 1,rd W (b+6) 16⟩ (b+23)=true then none else _) _;rw[aZ hq];exact Jg hl w0 h0 w8 (gw w8 h8)
end
noncomputable def jj(W c w h n:Nat)(U:Nat)(p:Nat×List Nat):Option Told:=
 if rd W (p.1+4) 1=1 then if qv w h p.2 U (rd W (p.1+5) n)=true then wW W c w h p.2 U (rd W p.1 4) (rd W (p.1+5) n:Nat) (p.1+5+n)else none
 else wW W c w h p.2 U (rd W p.1 4) (-1) (p.1+5)
noncomputable def kv(W c w h:Nat):Option Told:=
 let n:=aC (w*h)
 if rd W 1 n=rd W (1+n) n\/w*h<=rd W 1 n\/w*h<=rd W (1+n) n then none
 else(qX W w h (1+n+n,((aw (w*h) 0).set (rd W 1 n) 6).set (rd W (1+n) n) 14)).bind (jj W c w h n (rd W 0 1))
section
variable{d mk:Nat}{u:St}{x y z:O}{W f8 c:Nat}{data:List Nat}{w h n U:Nat}{x7 x8 x9 KT KF:V}{db:St}
theorem Jh{p:Nat×List Nat}(kt:qG u)(hN:c+200=f8)(hNl:f8<=hV)(hW:W<2^c)(hb:p.1<=160)(n8:n<=8)(hl:p.2.length=w*h)(w0:0<w)(h0:0<h)(w8:w<=8)(h8:h<=8)(IN:U<2):
  uI u (jj W c w h n U p) (iH ⟨af (d+2),mk⟩ (eU.drop 11) (nx u.length data w h n (.int U) x7 x8 x9 KT KF .av .av .av .av) (rH u x y z W f8 p.1 p.2 db)):=by
 have fit:∀ {i},i<=40->p.1+i<=f8:=λq=>ae (cE hb q) (hN▸jO 200 c)
 have s1:=rM (d:=d+1) (mk:=mk) (x:=x) (y:=y) (z:=z) (W:=W) (n:=4) (B:=p.2) (db:=db) (E:=nx u.length data w h n (.int U) x7 x8 x9 KT KF .av .av .av .av) rfl bh (fit (aa rfl)) (aa rfl) hNl
 have s2:=w_eq (rM (d:=d+1) (mk:=mk) (x:=x) (y:=y) (z:=z) (W:=W) (n:=1) (B:=p.2) (db:=db) (E:=nx u.length data w h n (.int U) x7 x8 x9 KT KF (.int (rd W p.1 4)) (.int (-1)) .av .av) rfl bh (fit (i:=5) (aa rfl)) (aa rfl) hNl) (bC 1)
 unfold jj;by_cases h1:rd W (p.1+4) 1=1
 .rw[aF h1];have s3:=rM (d:=d+1) (mk:=mk) (x:=x) (y:=y) (z:=z) (W:=W) (B:=p.2) (db:=db) (E:=nx u.length data w h n (.int U) x7 x8 x9 KT KF (.int (rd W p.1 4)) (.int (-1)) .av .av) rfl (ag (j:=4) rfl) (ae (bu n8 _) (fit (i:=13) (aa rfl))) (az n8 (aa rfl)) hNl;have ps:=Jr (d:=d+1) (mk:=mk) (q:=rd W (p.1+5) n) (u:=rH u x y z W f8 (p.1+5+n) p.2 db) oz hl w0 w8 h8 IN;have s4:Bo ⟨af (d+2),mk⟩ (.not (.val (.call .qH [(.ah 5),(.ah 1),(.ah 2),(.ah 6),(.ah 13)]))) (nx u.length data w h n (.int U) x7 x8 x9 KT KF (.int (rd W p.1 4)) (.int (rd W (p.1+5) n)) .av .av) _ _ _:=xI (j9 (bw ⟨rfl⟩ ps) rfl);have hd:∀ {r:RX},Xs ⟨af (d+2),mk⟩ (.fB (.not (.val (.call .qH [(.ah 5),(.ah 1),(.ah 2),(.ah 6),(.ah 13)]))) [.ret .lW] []::eU.drop 14) (nx u.length data w h n (.int U) x7 x8 x9 KT KF (.int (rd W p.1 4)) (.int (rd W (p.1+5) n)) .av .av) (rH u x y z W f8 (p.1+5+n) p.2 db) r->Xs ⟨af (d+2),mk⟩ (eU.drop 11) (nx u.length data w h n (.int U) x7 x8 x9 KT KF .av .av .av .av) (rH u x y z W f8 p.1 p.2 db) r:=λhr=>
   bG s1 rfl rfl (bG (kL bh) rfl rfl (de s2 (bp h1) (bG s3 rfl rfl hr)))
  by_cases hp:qv w h p.2 U (rd W (p.1+5) n)=true
  .rw[aF hp,(hd (cu s4 (aM _ hp) (Xs.mk rfl))).eq];exact D7 kt hN hNl hW (ae (bI (bu n8 _) 23) (fit (i:=36) (aa rfl))) hl w0 h0 w8 h8 IN
  .rw[aZ hp,(hd (de s4 (aM _ (bF hp)) ⟨rfl⟩)).eq];exact .none (.mk ⟨_,rfl⟩)
 .rw[aZ h1];have s:Xs ⟨af (d+2),mk⟩ (eU.drop 11) (nx u.length data w h n (.int U) x7 x8 x9 KT KF .av .av .av .av) (rH u x y z W f8 p.1 p.2 db) _:=bG s1 rfl rfl (bG (kL bh) rfl rfl (cu s2 (bP h1) (Xs.mk rfl)));simp only[s.eq];exact D7 kt hN hNl hW (fit (i:=28) (aa rfl)) hl w0 h0 w8 h8 IN
noncomputable def Qo(u:St):Option Told->RE V
 | none=>.ok .none u
 | some t=>.ok (.ref (u.length+1)) (u++[aR t.B,.eY [.ref u.length,.int t.bL,.int t.aX,.int t.ep,.int t.half,.int t.full]])
noncomputable def QN(n:Nat)(r:RX):RE V:=match r with
 | .ok f _ re=>finish n (oy f) re
 | .fY _ re=>.fY (re.take n)
 | .cn=>.cn
theorem Mj{u:St}{o:Option Told}{r:RX}(R:uI u o r):QN u.length r=Qo u o:=by
 cases R with
 | none h=>cases h with | mk h=>
  refine cP h λN Go=>?_;clear h;subst Go
  exact aM _ (cR rfl)
 | @some t E N k c hk hc=>
  show(if u.length+k<u.length then _ else _)=_
  refine(aZ (fJ.mpr (aW _ _))).trans ?_;rw[bJ rfl hk];show(match(u++N)[u.length+c]? with | some (.list vs)=>if u.length<=u.length+c/\vs.all (!·.isRef)then RE.ok (V.ref (u.length+1)) ((u++N).take u.length++[O.list vs,O.eY (.ref u.length::[.int t.bL,.int t.aX,.int t.ep,.int t.half,.int t.full])])else .cn | _=>.cn)=_;rw[bJ rfl hc];refine(aF ⟨aW _ _,?_⟩).trans ?_
  .rw[cR rfl];rfl
  .refine IG.trans ?_;exact cM.mpr λJ J=>rfl
theorem Oh(kt:qG u)(hd:∀b∈data,b<256)(hl:data.length<=100)(hw:w*h-1<2^5)(hn:Nu 5 (w*h-1)=aC (w*h))(n8:aC (w*h)<=5)(w0:0<w)(h0:0<h)(w8:w<=8)(h8:h<=8)(h25:w*h<=25):
  af (d+7) mk .xo [.bytes data,.int w,.int h] u=Qo u (kv (cK data) (8*data.length) w h):=by
 show QN u.length (iH ⟨af (d+6),u.length⟩ eU [.bytes data,.int w,.int h,.av,.av,.av,.av,.av,.av,.av,.av,.av,.av,.av,.av,.av,.av,.av,.av] u)=_
 refine Mj ?_;have hN:8*data.length+200<=hV:=ae (bI (bx 8 hl) 200) (aa rfl);have n5:aC (w*h)<=8:=ae n8 (aa rfl);refine nG (RN (d:=d) (mk:=u.length) (u:=u) hd hl hw hn n5 w8 (ae h25 (by decide)) (lY w0 h0) rfl rfl) λx y z e=>?_
 simp only[e];have lt:∀a,rd (cK data) a (aC (w*h))<4096:=λa=>aq (j3 _ _ _) (wz (aa rfl) (ae n8 (aa rfl)):2^aC (w*h)<=2^12)
 have B:=RM (d:=d+6) (mk:=u.length) (u:=u) (x:=x) (y:=y) (z:=z) (W:=cK data) (f8:=8*data.length+200) (data:=data) (n:=aC (w*h)) (x6:=.int (rd (cK data) 0 1)) (lt 1) (lt (1+aC (w*h))) rfl w8 (ae h25 (by decide)) (a:=1+aC (w*h)+aC (w*h))
 show uI u (if rd (cK data) 1 (aC (w*h))=rd (cK data) (1+aC (w*h)) (aC (w*h))\/w*h<=rd (cK data) 1 (aC (w*h))\/w*h<=rd (cK data) (1+aC (w*h)) (aC (w*h))then none else _) _
 by_cases hk:rd (cK data) 1 (aC (w*h))=rd (cK data) (1+aC (w*h)) (aC (w*h))\/w*h<=rd (cK data) 1 (aC (w*h))\/w*h<=rd (cK data) (1+aC (w*h)) (aC (w*h))
 .rw[aF hk]at B ⊢;exact .none B
 .rw[aZ hk]at B ⊢;simp only[B];refine d5 λGG Y=>?_
  rcases K0 (u:=u) (x:=x) (y:=y) (z:=z) (W:=cK data) (data:=data) (n:=aC (w*h)) (x6:=.int (rd (cK data) 0 1)) (x7:=.int (rd (cK data) 1 (aC (w*h)))) (x8:=.int (rd (cK data) (1+aC (w*h)) (aC (w*h)))) hN (ae (aa rfl) (jO 200 _)) h0 w8 h8
   (B:=((aw (w*h) 0).set (rd (cK data) 1 (aC (w*h))) 6).set (rd (cK data) (1+aC (w*h)) (aC (w*h))) 14) (by simp only[aV,aV,cX]) (ae (cE (cE (bu n8 1) n8) (bx 5 h25)) (aa rfl)) (x9:=.av) (KT:=.av) (KF:=.av) (db:=[]) (ss:=eU.drop 11)
   with⟨p,x9',x10',x11',G',e1,e2,e3,e4⟩ | ⟨e1,e2⟩
  .refine Y ?_;simp only[show iH ⟨af (d+6),u.length⟩ (eU.drop 10) _ _=_ from e4,e1];exact Jh kt rfl hN (wR hd) e2 n5 e3 w0 h0 w8 h8 (j3 _ 0 1)
  .refine Y ?_;exact e1▸(.none e2)
end
inductive Us(I:List V->Prop)(u:St):Bool->RX->Prop
 | ok {E:List V} (h:I E):Us I u true (.ok .next E u)
 | cont {E:List V} (h:I E):Us I u true (.ok .cont E u)
 | fY {E:List V}:Us I u false (.fY E u)
theorem H3{α:Type}{f:V->List V->St->RX}{sK:Option (Nat×O)}{u:St}(g:α->V)(p:α->Bool)(I:List V->Prop)(S:same sK u=true):∀ {l:List α},(∀x∈l,∀E,I E->Us I u (p x) (f (g x) E u))->∀ {E:List V},I E ->
  if l.all p=true then ∃sw,forLoop f sK (l.map g) E u=.ok .next sw u else ∃sw,forLoop f sK (l.map g) E u=.fY sw u
 | [],_,E,_=>⟨E,jl S⟩
 | x::l,hb,E,h=>by
  have q:=hb x (.head _) E h
  have ih:=λE h=>H3 g p I S (λx hx=>hb x (.tail _ hx)) (E:=E) h
  rw[List.all_cons]
  generalize p x=b at q
  generalize hr:f (g x) E u=r at q
  cases q with
  | ok h'=>
   have ih:=ih _ h'
   rw[og]
   split at ih
   .rename_i e;rw[aF e];exact⟨ih.choose,dE S hr ih.choose_spec⟩
   .rename_i e;rw[aZ e];exact⟨ih.choose,dE S hr ih.choose_spec⟩
  | cont h'=>
   have ih:=ih _ h'
   rw[og]
   split at ih
   .rename_i e;rw[aF e];exact⟨ih.choose,zJ S hr ih.choose_spec⟩
   .rename_i e;rw[aZ e];exact⟨ih.choose,zJ S hr ih.choose_spec⟩
  | fY=>exact⟨_,H2 S hr⟩
inductive xn(w h:Nat)(u:St)(i:Nat):V->Prop
 | no (e:∀B,FK w h B i=false):xn w h u i .none
 | at' {r k c:Nat} {cr v:V} (hr:u[r]?=some (.eY [.int k,cr,.int c,v])) (hk:k<w*h) (hc:c<w*h) (e:∀B,FK w h B i=(decide (B.getD k 0=6+8*(i/2))&&decide (B.getD c 0=4+8*(i/2)))):xn w h u i (.ref r)
noncomputable def TG:List MS:=[.fB (.cy (.aQ .and (.aS (.ah 0) .aX) (.aQ .qQ (.ai 1) (.ah 1))) [.eq] [(.ai 0)]) [.cont] [],.assign (.ah 2) (.sub (.aS (.aS (.ah 0) .qN) .pR) (.ah 1)),.fB (.cy (.ah 2) [.is] [.lW]) [.raise (.un .pD (.ai 1))] [],.fB (.cy (.sub (.aS (.ah 0) .aN) (.sub (.ah 2) (.ai 0))) [.ne] [(.call .gd [(.aQ .sm (.ah 1) (.ai 1)),(.cW .yb)])]) [.raise (.sub (.ah 2) (.ai 0))] [],.fB (.cy (.sub (.aS (.ah 0) .aN) (.sub (.ah 2) (.ai 2))) [.ne] [(.call .gd [(.aQ .sm (.ah 1) (.ai 1)),(.cW .PS)])]) [.raise (.sub (.ah 2) (.ai 2))] []]
section
variable{A:Ad}{v:Pv}{u:St}{d mk w h ca i:Nat}{fs:List (eM×V)}{cs:List V}
theorem mL{x y:Nat}:x&&&y≠0↔∃j,x.testBit j=true/\y.testBit j=true:=by
 constructor
 .intro h;refine cP (Cg h) λj hj=>?_
  rw[dC,aH]at hj;exact⟨j,hj⟩
 .rintro⟨j,h1,h2⟩ e;have:=dC x y j;simp only[e,h1,h2,jv]at this;cases this
theorem Bg{r i:Nat}:r&&&2^i=0↔¬r/2^i%2=1:=by
 refine⟨λq h=>mL.mpr ?_ q,λh=>da λq=>h ?_⟩
 .exact⟨i,by refine Ar.trans ?_;refine decide_eq_true_eq.mpr ?_;exact h,by refine jq.trans ?_;rw[decide_eq_true_eq]⟩
 .refine cP (mL.mp q) λj=>cJ λh1 h2=>?_
  rw[jq,decide_eq_true_eq]at h2;rw[<-h2,Ar,decide_eq_true_eq]at h1;exact h1
inductive RI(A:Ad):List V->Prop
 | mk (x y:V):RI A [.ref A.p,x,y]
theorem FZ(P:eV A v u)(hl:v.aN.length=w*h)(TE:w*h<=64)(hg:u[A.g]?=some (.inst .eE fs))(fc:hP .pR fs=some (.ref ca))(hc:u[ca]?=some (.list cs))(hi:i<4){x:V}(hx:cs[i]?=some x)(W:xn w h u i x){E:List V}(I:RI A E):
  Us (RI A) u (!jK w h v.aN v.aX i) (body ⟨af (d+1),mk⟩ (.ah 1) TG (.int i) E u):=by
 cases I with | mk y z=>
 have Pp:=P.p
 have big:∀ {n},n<w*h->n<4096:=λq=>aq q (ae TE (aa rfl))
 have i64:i<64:=aK hi (aa rfl)
 have c1:Bo ⟨af (d+1),mk⟩ (.cy (.aQ .and (.aS (.ah 0) .aX) (.aQ .qQ (.ai 1) (.ah 1))) [.eq] [(.ai 0)]) [.ref A.p,.int i,z] u (decide (v.aX&&&2^i=0)) u:=w_eq (df (bg (ag rfl) Pp rfl) (df bh (ag rfl) (xl i i64)) (iX _ _)) (bC 0)
 unfold jK;by_cases h0:v.aX/2^i%2=1
 .simp only[bp h0,og,Bool.not_not];refine d5 λGG Y=>?_
  have c1:=c1.to (bP λq=>Bg.mp q h0)
  have s2:=lT (bg (bg (f:=.qN) (ag (C:=⟨af (d+1),mk⟩) (E:=[.ref A.p,.int i,z]) (j:=0) rfl) Pp rfl) hg fc) (ag (j:=1) rfl) hc rfl (Nw (aK hi (aa rfl))) (by skip;exact hx)
  cases W with
  | no hw=>
   refine Y ?_;rw[hw,cA (bd:=TG) rfl rfl (cu c1 rfl (bG s2 rfl rfl ⟨rfl⟩))];exact .fY
  | @at' r k c a b hr hk hc' e=>
   have it:∀ {j:Nat} {n:Nat} {ms:List V},([.int k,a,.int c,b])[(j:Int).toNat]?=some (.int n)->j<4096->Ev ⟨af (d+1),mk⟩ (.sub (.ah 2) (.ai j)) [.ref A.p,.int i,.ref r] u (.int n) u:=λhj j4=>lT (ag rfl) (bC _) hr rfl (Nw j4) hj
   have mp:∀n:Nat,Ev ⟨af (d+1),mk⟩ (.aQ .sm (.ah 1) (.ai 1)) [.ref A.p,.int i,.ref r] u (.int (i/2:Nat)) u:=λJ=>df (ag rfl) bh (th i 1)
   have b1:Bo ⟨af (d+1),mk⟩ (.cy (.sub (.aS (.ah 0) .aN) (.sub (.ah 2) (.ai 0))) [.ne] [(.call .gd [(.aQ .sm (.ah 1) (.ai 1)),(.cW .yb)])]) [.ref A.p,.int i,.ref r] u _ u:=uc (et (bg (ag rfl) Pp rfl) (it (j:=0) rfl (by decide) (ms:=[])) P.b (big hk) (getD_at hl hk)) (bw (ak (mp 0) rfl ⟨rfl⟩) (oB d mk (i/2) 6 u))
   have b2:Bo ⟨af (d+1),mk⟩ (.cy (.sub (.aS (.ah 0) .aN) (.sub (.ah 2) (.ai 2))) [.ne] [(.call .gd [(.aQ .sm (.ah 1) (.ai 1)),(.cW .PS)])]) [.ref A.p,.int i,.ref r] u _ u:=uc (et (bg (ag rfl) Pp rfl) (it (j:=2) rfl (by decide) (ms:=[])) P.b (big hc') (getD_at hl hc')) (bw ⟨rfl⟩ (oB d mk (i/2) 4 u))
   have n0:Bo ⟨af (d+1),mk⟩ (.cy (.ah 2) [.is] [.lW]) [.ref A.p,.int i,.ref r] u false u:=dg (ag rfl) ⟨rfl⟩
   refine Y ?_;simp only[e,b9 6,b9 4,c9 8];have go:=λR hR=>cA (j:=1) (bd:=TG) (E:=[.ref A.p,y,z]) (r:=R) rfl rfl (cu c1 rfl (bG s2 rfl rfl (cu n0 rfl hR)))
   by_cases q1:v.aN.getD k 0=i/2*8+6
   .rw[bp q1];have b1:=b1.to (by rw[bp q1];rfl:_=false);by_cases q2:v.aN.getD c 0=i/2*8+4
    .simp only[bp q2,go _ (cu b1 rfl (cu (b2.to (by rw[bp q2];rfl)) rfl dQ))];exact .ok (.mk _ _)
    .simp only[bP q2,go _ (cu b1 rfl (de (b2.to (by rw[bP q2];rfl)) rfl (jh (it (j:=2) rfl (by decide) (ms:=[])))))];exact .fY
   .simp only[bP q1,go _ (de (b1.to (by rw[bP q1];rfl)) rfl (jh (it (j:=0) rfl (by decide) (ms:=[]))))];exact .fY
 .rw[bP h0,cA (bd:=TG) rfl rfl (de (c1.to (bp (Bg.mpr h0))) rfl Kz)];exact .cont (.mk _ _)
theorem Jc(P:eV A v u)(hl:v.aN.length=w*h)(TE:w*h<=64)(hg:u[A.g]?=some (.inst .eE fs))(fc:hP .pR fs=some (.ref ca))(hc:u[ca]?=some (.list cs))(hW:∀i,i<4->∃x,cs[i]?=some x/\xn w h u i x)(hr:v.aX<16):
  af (d+2) mk .ri [.ref A.p] u=if(aI 4).all (λi=>!jK w h v.aN v.aX i)=true then .ok .none u else .fY u:=by
 refine d5 λGG Y=>?_
 have Pp:=P.p
 have c0:Bo ⟨af (d+1),u.length⟩ (.not (.cy (.ai 0) [.le,.lt] [(.aS (.ah 0) .aX),(.ai 16)])) [.ref A.p,.av,.av] u false u:=xI (t:=true) ((PG (bg (ag rfl) Pp rfl) bh).to (bp ⟨cL _,bK.mpr hr⟩))
 have L:=H3 (f:=body ⟨af (d+1),u.length⟩ (.ah 1) TG) (sK:=none) (λn:Nat=>V.int n) (λi=>!jK w h v.aN v.aX i) (RI A) rfl (l:=aI 4) (λi hi E I=>by
  have hi:=bW.mp hi
  refine cP (hW i hi) λx=>cJ λhx W=>?_
  exact FZ P hl TE hg fc hc hi hx W I) (.mk .av .av)
 have R:=ej (w:=4) (u:=u) (aa rfl)
 split at L
 .rename_i e;obtain⟨sw,L⟩:=L;refine Y ?_;rw[aF e];apply b6 oW [.ref A.p,.av,.av] rfl rfl rfl rfl
  .exact cu c0 rfl (iQ (iR (ak (bC 4) rfl aY) R.1) R.2 L dQ)
  .exact aM _ aU
 .rename_i e;obtain⟨sw,L⟩:=L;refine Y ?_;rw[aZ e];exact(call_exc oW [.ref A.p,.av,.av] rfl rfl rfl rfl (cu c0 rfl (DO (iR (ak (bC 4) rfl aY) R.1) R.2 L))).trans (aM _ aU)
end
section
variable{A:Ad}{v:Pv}{u:St}{d mk:Nat}
theorem JT{p1 p2 p3:Prop}[Decidable p1][Decidable p2][Decidable p3](P:eV A v u)(S:v.bL<2)(hf:1<=v.full)(b:af d u.length .rj [.ref A.p] u=.ok .none u)(k:af d u.length .sY [.ref A.p] u=.ok .none u)(c1:af d u.length .sX [.ref A.p] u=if p1 then .ok .none u else .fY u)
  (c2:af d u.length .ri [.ref A.p] u=if p2 then .ok .none u else .fY u) (c3:af d u.length .sZ [.ref A.p] u=if p3 then .ok .none u else .fY u):af (d+1) mk .lz [.ref A.p] u=if p1/\p2/\p3 then .ok .none u else .fY u:=by
 have Pp:=P.p
 have ar:yv ⟨af d,u.length⟩ [.ah 0] [.ref A.p] u [.ref A.p] u:=ak (ag rfl) rfl aY
 have U:Ev ⟨af d,u.length⟩ (.aS (.ah 0) .bL) [.ref A.p] u (.int v.bL) u:=bg (ag rfl) Pp rfl
 have q1:Bo ⟨af d,u.length⟩ (.all [(.cy (.aS (.ah 0) .bL) [.ne] [(.cW .lX)]),(.cy (.aS (.ah 0) .bL) [.ne] [(.cW .nk)])]) [.ref A.p] u false u:=by
  have q:=xi (uc U (dn (g:=.lX) (v:=.int (0:Nat)) rfl)) (uc U (dn (g:=.nk) (v:=.int (1:Nat)) rfl))
  refine q.to ?_;by_cases h0:v.bL=0
  .rw[bp h0];rfl
  .simp only[bp (by lia:v.bL=1),Bool.not_true,DK]
 have q2:Bo ⟨af d,u.length⟩ (.any [(.cy (.aS (.ah 0) .half) [.lt] [(.ai 0)]),(.cy (.aS (.ah 0) .full) [.lt] [(.ai 1)])]) [.ref A.p] u false u:=
  vc ((w_lt (bg (ag rfl) Pp rfl) (bC 0)).to (bP (iO _))) (va ((w_lt (bg (ag rfl) Pp rfl) (bC 1)).to (bP (fJ.mpr hf))))
 have go:∀ {r:RX},Xs ⟨af d,u.length⟩ (hU.drop 4) [.ref A.p] u r->Xs ⟨af d,u.length⟩ hU [.ref A.p] u r:=λh=>cu q1 rfl (cu q2 rfl (gb (bw ar b) (gb (bw ar k) h)))
 have bad:∀ {E:List V},Xs ⟨af d,u.length⟩ (hU.drop 4) [.ref A.p] u (.fY E u)->af (d+1) mk .lz [.ref A.p] u=.fY u:=λh=>(call_exc hU [.ref A.p] rfl rfl rfl rfl (go h)).trans (aM _ aU)
 by_cases h1:p1
 .rw[aF h1]at c1;by_cases h2:p2
  .rw[aF h2]at c2;by_cases h3:p3
   .rw[aF h3]at c3;rw[aF ⟨h1,h2,h3⟩];apply b6 hU [.ref A.p] rfl rfl rfl rfl
    .exact go (gb (bw ar c1) (gb (bw ar c2) (gb (bw ar c3) dQ)))
    .exact aM _ aU
   .rw[aZ h3]at c3;rw[aZ λq=>h3 q.2.2];exact bad (gb (bw ar c1) (gb (bw ar c2) (uR (nB ar c3))))
  .rw[aZ h2]at c2;rw[aZ λq=>h2 q.2.1];exact bad (gb (bw ar c1) (uR (nB ar c2)))
 .rw[aZ h1]at c1;rw[aZ λq=>h1 q.1];exact bad (uR (nB ar c1))
noncomputable def xC(R:Nat->Nat):List Nat->Nat->Nat
 | [],a=>a
 | e::l,a=>xC R l (a|||R e)
theorem Ou{R:Nat->Nat}{e a:Nat}{l:List Nat}:xC R (e::l) a=xC R l (a|||R e):=rfl
theorem GF{g q GE:Nat}{R:Nat->Nat}:∀ {l:List Nat},(∀e∈l,af d mk .iz [.ref g,.int e,.int q,.int GE] u=.ok (.int (R e)) u)->∀(a:Nat) (x:V),∃y,forLoop (body ⟨af d,mk⟩ (.ah 4) [.ig (.ah 3) .or (.call .iz [(.ah 0),(.ah 4),(.ah 1),(.ah 2)])]) none (l.map λn:Nat=>V.int n) [.ref g,.int q,.int GE,.int a,x] u=.ok .next [.ref g,.int q,.int GE,.int (xC R l a),y] u
 | [],_,a,x=>⟨x,rfl⟩
 | e::l,h,a,x=>by
  obtain⟨y,ih⟩:=GF (λe he=>h e (.tail _ he)) (a|||R e) (.int e)
  exact⟨y,dE rfl (cA rfl rfl (gU rfl (bw ⟨rfl⟩ (h e (.head _))) (oY _ _) rfl dQ)) ih⟩
theorem Oc{g q GE:Nat}{R:Nat->Nat}(h:∀e:Nat,e<8->af d u.length .iz [.ref g,.int e,.int q,.int GE] u=.ok (.int (R e)) u):af (d+1) mk .qR [.ref g,.int q,.int GE] u=.ok (.int (xC R (aI 4) 0)) u:=by
 refine cP (GF (l:=aI 4) (λe he=>h e (aK (bW.mp he) (aa rfl))) 0 .av) λy L=>?_
 have I:=ej (w:=4) (u:=u) (aa rfl)
 apply gX te [.ref g,.int q,.int GE,.av,.av] rfl rfl rfl rfl aU;exact bG (bC 0) rfl rfl (iQ (iR ⟨rfl⟩ I.1) I.2 L ⟨rfl⟩)
theorem J3{g q GE:Nat}{R:Nat->Nat}(h:∀e:Nat,e<8->af d u.length .iz [.ref g,.int e,.int q,.int GE] u=.ok (.int (R e)) u):af (d+1) mk .oQ [.ref g,.int q,.int GE] u=.ok (.int (xC R [4,5,6,7] 0)) u:=by
 obtain⟨y,L⟩:=GF (l:=[4,5,6,7]) (λe he=>h e (by
  rcases aO.mp he with rfl | he;decide
  rcases aO.mp he with rfl | he;decide
  rcases aO.mp he with rfl | he;decide
  rcases aO.mp he with rfl | he;decide
  nomatch he)) 0 .av
 have I:=zy (a:=4) (n:=4) (u:=u) (aa rfl)
 apply gX qC [.ref g,.int q,.int GE,.av,.av] rfl rfl rfl rfl aU;exact bG (bC 0) rfl rfl (iQ ⟨rfl⟩ I.2 L ⟨rfl⟩)
theorem zA{q U GE st own str sla ra ba:Nat}(P:eV A v u)(IN:U<4096)(c1:af d u.length .ow [.ref A.p,.int q,.int U] u=.ok (.int st) u)(ho:v.cQ[U]?=some own)(c2:af d u.length .lZ [.ref A.p] u=.ok (.int str) u)(c3:af d u.length .ma [.ref A.p] u=.ok (.int sla) u)
  (c4:af d u.length .qR [.ref A.g,.int q,.int GE] u=.ok (.int ra) u) (c5:af d u.length .oQ [.ref A.g,.int q,.int GE] u=.ok (.int ba) u) :
  af (d+1) mk .mZ [.ref A.p,.int q,.int U,.int GE] u=.ok (.bool (!decide (st=0)||(!decide (ra&&&(str&&&own)=0)||!decide (ba&&&(sla&&&own)=0)))) u:=by
 have Pp:=P.p
 have t0:∀ {E:List V} {e:ME} {n:Nat},Ev ⟨af d,u.length⟩ e E u (.int n) u->Bo ⟨af d,u.length⟩ (.val e) E u (!decide (n=0)) u:=λ{E e n} he=>(j9 he rfl).to (by rw[<-decide_not];exact decide_eq_decide.mpr (not_congr f5))
 have go:∀ {b:Bool} {E:List V},Xs ⟨af d,u.length⟩ mN [.ref A.p,.int q,.int U,.int GE,.av,.av,.av,.av] u (.ok (.ret (.bool b)) E u)->af (d+1) mk .mZ [.ref A.p,.int q,.int U,.int GE] u=.ok (.bool b) u:=λh=>iW mN [.ref A.p,.int q,.int U,.int GE,.av,.av,.av,.av] rfl rfl rfl rfl aU h
 have q1:=t0 (bw (E:=[.ref A.p,.int q,.int U,.int GE,.av,.av,.av,.av]) (ak (ag (j:=0) rfl) rfl (ak (ag (j:=1) rfl) rfl (ak (ag (j:=2) rfl) rfl aY))) c1)
 by_cases h0:st=0
 .rw[bp h0];refine d5 λGG Y=>?_
  have go:∀ {b:Bool} {E:List V},Xs ⟨af d,u.length⟩ (mN.drop 4) [.ref A.p,.int q,.int U,.int GE,.ref A.g,.int own,.int (str&&&own),.av] u (.ok (.ret (.bool b)) E u)->af (d+1) mk .mZ [.ref A.p,.int q,.int U,.int GE] u=.ok (.bool b) u:=λh=>
   go (cu (q1.to (by rw[bp h0];rfl)) rfl (bG (bg (ag rfl) Pp rfl) rfl rfl (bG (et (bg (ag rfl) Pp rfl) (ag rfl) P.s IN ho) rfl rfl (bG (df (bw ⟨rfl⟩ c2) (ag rfl) (iX _ _)) rfl rfl h))))
  have s1:=t0 (ag (E:=[.ref A.p,.int q,.int U,.int GE,.ref A.g,.int own,.int (str&&&own),.av]) (j:=6) rfl)
  have s2:=t0 (df (bw (E:=[.ref A.p,.int q,.int U,.int GE,.ref A.g,.int own,.int (str&&&own),.av]) (ak (ag (j:=4) rfl) rfl (ak (ag (j:=1) rfl) rfl (ak (ag (j:=3) rfl) rfl aY))) c4) (ag (j:=6) rfl) (iX _ _))
  have s3:=(xi s1 s2).to (cr:=!decide (ra&&&(str&&&own)=0)) (by
   by_cases z:str&&&own=0
   .rw[z,Vh];rfl
   .rw[bP z];rfl)
  by_cases h1:ra&&&(str&&&own)=0
  .refine Y ?_;rw[bp h1];have ne:∀ {E:List V} {e:ME} {n:Nat},Ev ⟨af d,u.length⟩ e E u (.int n) u->Ev ⟨af d,u.length⟩ (.cy e [.ne] [.ai 0]) E u (.bool (!decide (n=0))) u:=λ{E e n} he=>by
    have t:=j5 he (GX (bC 0))
    rwa [show decide ((n:Int)≠(0:Nat))=!decide (n=0) by rw[<-decide_not];exact decide_eq_decide.mpr (not_congr f5)]at t
   have u1:=Lf (ne (ag (E:=[.ref A.p,.int q,.int U,.int GE,.ref A.g,.int own,.int (str&&&own),.int (sla&&&own)]) (j:=7) rfl)) (λJ=>ne (df (bw (ak (ag (j:=4) rfl) rfl (ak (ag (j:=1) rfl) rfl (ak (ag (j:=3) rfl) rfl aY))) c5) (ag (j:=7) rfl) (iX _ _)))
   simp only[show(!decide (sla&&&own=0)&&!decide (ba&&&(sla&&&own)=0))=!decide (ba&&&(sla&&&own)=0) by
    by_cases z:sla&&&own=0
    .rw[z,Vh];rfl
    .rw[bP z];rfl]at u1
   exact go (cu (s3.to (by rw[bp h1];rfl)) rfl (bG (df (bw ⟨rfl⟩ c3) (ag rfl) (iX _ _)) rfl rfl (dN u1)))
  .refine Y ?_;rw[bP h1];exact go (de (s3.to (by rw[bP h1];rfl)) rfl (dN pY))
 .rw[bP h0];exact go (de (q1.to (by rw[bP h0];rfl)) rfl (dN pY))
theorem EC{U x0 x1 k:Nat}{b:Bool}(P:eV A v u)(IN:U<2)(h0:v.cQ[0]?=some x0)(h1:v.cQ[1]?=some x1)(ck:af d u.length .hF [.ref A.p,.int U] u=.ok (.int k) u)(ca:af d u.length .mZ [.ref A.p,.int k,.int (1-U:Nat),.int (x0|||x1:Nat)] u=.ok (.bool b) u):
  af (d+1) mk .pP [.ref A.p,.int U] u=.ok (.bool b) u:=by
 have Pp:=P.p
 apply iW uF [.ref A.p,.int U,.av] rfl rfl rfl rfl aU;refine bG (df (et (bg (ag rfl) Pp rfl) (dn rfl) P.s (aa rfl) h0) (et (bg (ag rfl) Pp rfl) (dn rfl) P.s (aa rfl) h1) (oY _ _)) rfl rfl ?_;exact dN (bw (ak (ag rfl) rfl (ak (bw (ak (ag rfl) rfl (ak (ag rfl) rfl aY)) ck) rfl (ak (iT (bC 1) (ag rfl) (b8 IN)) rfl (ak (ag rfl) rfl aY)))) ca)
end
theorem qx{x b n:Nat}(h:∀i,b.testBit i=true↔∃k,k<n/\x.testBit (i+1+k)=true):∀i,(b|||b/2^n).testBit i=true↔∃k,k<n+n/\x.testBit (i+1+k)=true:=λi=>by
 simp only[fG,cF,tB,h,h]
 constructor
 .rintro(⟨k,hk,e⟩ | ⟨k,hk,e⟩)
  .exact⟨k,aq hk (aW _ _),e⟩
  .exact⟨k+n,pj hk n,(aM x.testBit (by rw[b9 k,<-dA,eQ i 1])).trans e⟩
 .rintro⟨k,hk,e⟩
  by_cases hn:k<n
  .exact .inl ⟨k,hn,e⟩
  .exact .inr ⟨k-n,Nat.sub_lt_left_of_lt_add (bZ hn) hk,(aM x.testBit (by rw[eQ i n,dA (i+1),ic (bZ hn)])).trans e⟩
theorem IY{x:Nat}(hx:x<2^64)(i:Nat):(Qq x).testBit i=true↔∃j,i<j/\x.testBit j=true:=by
 have h0:∀i,(x/2).testBit i=true↔∃k,k<1/\x.testBit (i+1+k)=true:=λi=>by
  rw[<-Nat.pow_one 2,tB];exact⟨λe=>⟨0,rW,e⟩,λ⟨k,hk,e⟩=>by obtain rfl:k=0:=f3.mp hk;exact e⟩
 have h1:=qx h0
 have h:=qx (qx (qx (qx (qx h1)))) i
 refine h.trans ⟨λ⟨k,_,e⟩=>⟨i+1+k,aq (gN i) (aW _ _),e⟩,λ⟨j,hj,e⟩=>⟨j-(i+1),?_,by rw[ic hj];exact e⟩⟩;have lt:=da λq=>by
  rw[Nat.testBit_lt_two_pow (aq hx (wz (aa rfl) (bZ q)))]at e;exact nomatch e
 exact az (eH _ _) lt
theorem LI:∀(x:Nat),0<x->∀i,(x^^^(x-1)).testBit i=true↔∀j,j<i->x.testBit j=false:=by
 refine Ij (λh=>absurd h (i6 0)) (λk ih J i=>?_) (λk J J i=>?_)
 .cases i with
  | zero=>
   refine⟨λJ j hj=>absurd hj (iO j),λJ=>?_⟩;rw[Nat.testBit_xor,jw,jw,show 2*(k+1)-1=2*k+1 from rfl,R5 k (by decide),Q3];rfl
  | succ i=>
   rw[jx,Dz,show 2*(k+1)-1=2*k+1 from rfl,Po k (by decide),show 2*(k+1)/2=k+1 from Po (k+1) (c:=0) (by decide)];refine(ih (eP k) i).trans ⟨λh j=>?_,λh j hj=>?_⟩
   .cases j with
    | zero=>intro _;rw[jw,Q3];rfl
    | succ j=>intro hj;rw[jx,show 2*(k+1)/2=k+1 from Po (k+1) (c:=0) (by decide)];exact h j (um hj)
   .have:=h (j+1) (Nat.succ_lt_succ hj)
    rwa [jx,show 2*(k+1)/2=k+1 from Po (k+1) (c:=0) (by decide)]at this
 .have e:(2*k+1)^^^(2*k+1-1)=1:=by
   refine((dP ((2*k+1)^^^(2*k+1-1)) 2)).symm.trans ?_;simp only[Dz,show((2*k+1)^^^(2*k+1-1))%2=_ from Ny (n:=1)];show 2*((2*k+1)/2^^^(2*k+0)/2)+((2*k+1)%2^^^(2*k+0)%2)=_;rw[Po k (by decide),Po k (by decide),R5 k (by decide),R5 k (by decide),Kg];rfl
  rw[e];cases i with
  | zero=>exact⟨λJ j hj=>absurd hj (iO j),λJ=>rfl⟩
  | succ i=>
   refine⟨λh=>?_,λh=>?_⟩
   .rw[jx,jv]at h;exact nomatch h
   .have:=h 0 (eP i)
    rw[jw,R5 k (by decide)]at this;cases this
theorem nz{a b c d:Nat}(h:a<=b)(h':c<=d):2*b+d-(2*a+c)=2*(b-a)+(d-c):=by
 refine cP (Uv h) λcr Go=>?_;subst Go
 obtain⟨v,rfl⟩:=Uv h';simp only[wA,dz,dz,wB,dz]
theorem N4:∀ {x y i:Nat},(x-(x&&&y)).testBit i=(x.testBit i&&!y.testBit i):=by
 intro x y i;have step:=λx y=>by
  have:=SH (x/2) (y/2) (dK x (by decide)) (dK y (by decide))
  rw[dP,dP]at this;have q:=nz (pI (n:=x/2) (m:=y/2)) (pI (n:=x%2) (m:=y%2));rw[dP]at q;exact this▸q
 have lt:∀x y,x%2-(x%2&&&y%2)<2:=λx y=>az (eH _ _) (dK x (by decide))
 induction i generalizing x y with
 | zero=>
  rw[jw,jw,jw,step,R5 _ (lt x y)];rcases iE x with h | h<;>rcases iE y with h' | h'<;>rw[h,h']<;>rfl
 | succ i ih=>rw[jx,jx,jx,step,Po _ (lt x y)];exact ih
theorem Oj{g:Bool}{Wt GE s:Nat}(hr:Wt<2^64):(uV g Wt GE).testBit s=true↔Wt.testBit s=true/\∀i,(if g=true then i<s else s<i)->Wt.testBit i=true->GE.testBit i=false:=by
 have S:Wt&&&GE<2^64:=az pI hr
 have bt:∀i,(Wt&&&GE).testBit i=false↔(Wt.testBit i=true->GE.testBit i=false):=λi=>by
  rw[dC];cases Wt.testBit i<;>cases GE.testBit i<;>decide
 unfold uV;by_cases h0:Wt&&&GE=0
 .rw[aF h0];exact⟨λh=>⟨h,λi J=>(bt i).mp (h0▸jv i)⟩,λh=>h.1⟩
 .rw[aZ h0];cases g with
  | true=>
   show(Wt&&&_).testBit s=true↔_
   rw[dC,aH,LI _ (ed h0)];exact and_congr_right λJ=>forall_congr' λi=>imp_congr Vm (bt i)
  | false=>
   show(Wt-(Wt&&&_)).testBit s=true↔_
   rw[N4,aH,fX,<-gM,IY S];exact and_congr_right λJ=>⟨λq i hi=>(bt i).mp ((gM _).mp λe=>q ⟨i,hi,e⟩),λq ⟨j,hj,e⟩=>by rw[(bt j).mpr (q j hj)]at e;cases e⟩
noncomputable def yM:List Nat->List (List Nat×Nat)
 | []=>[]
 | a::l=>([],a)::(yM l).map λq=>(a::q.1,q.2)
noncomputable abbrev Bd(w h s n:Nat)(e:Int×Int):List Nat:=ub [] w h e.1 e.2 n ((s%w:Nat)+e.1) ((s/w:Nat)+e.2)
theorem DP{B:List Nat}{w h t:Nat}{dx dy:Int}:∀ {n:Nat} {x y:Int},t∈ub B w h dx dy n x y↔∃q∈yM (ub [] w h dx dy n x y),q.2=t/\∀cr∈q.1,B.getD cr 0=0
 | 0,_,_=>⟨λh=>(nomatch h),λ⟨_,h,_⟩=>(nomatch h)⟩
 | n+1,x,y=>by
  rw[uT,uT]
  by_cases hx:(0<=x/\x<w)/\(0<=y/\y<h)
  .rw[aF hx,aF hx,aF (show([]).getD _ 0=0 from rfl),aO]
   generalize y.toNat*w+x.toNat=a
   have ih:=DP (B:=B) (w:=w) (h:=h) (t:=t) (dx:=dx) (dy:=dy) (n:=n) (x:=x+dx) (y:=y+dy)
   constructor
   .rintro(rfl | h)
    .exact⟨_,.head _,rfl,λcr hu=>(nomatch hu)⟩
    .by_cases h0:B.getD a 0=0
     .rw[aF h0]at h
      refine cP (ih.mp h) λq=>jc λhq e hu=>?_
      exact⟨(a::q.1,q.2),.tail _ (bj.mpr ⟨q,hq,rfl⟩),e,λcr hu'=>(aO.mp hu').elim (λe=>by exact e▸h0) (hu cr)⟩
     .rw[aZ h0]at h
      nomatch h
   .rintro⟨q,hq,e,hu⟩
    rcases aO.mp hq with rfl | hq
    .exact .inl e.symm
    .refine cP (bj.mp hq) λq'=>cJ λhq' zn=>?_;subst zn
     rw[aF (hu a (.head _))]
     exact .inr (ih.mpr ⟨q',hq',e,λcr h=>hu cr (.tail _ h)⟩)
  .rw[aZ hx,aZ hx]
   exact⟨λh=>(nomatch h),λ⟨_,h,_⟩=>(nomatch h)⟩
noncomputable def maskOf(l:List Nat):Nat:=l.foldl (λa t=>a|||2^t) 0
theorem mY(l:List Nat)(i:Nat):(maskOf l).testBit i=true↔i∈l:=by
 have go:∀(l:List Nat) a,(l.foldl (λa t=>a|||2^t) a).testBit i=true↔a.testBit i=true\/i∈l:=λl=>by
  induction l with
  | nil=>exactλa=>⟨.inl,λh=>h.elim id λh=>(nomatch h)⟩
  | cons t l ih=>
   intro a;simp only[SR,ih,fG,cF,jq,decide_eq_true_eq,aO,or_assoc];exact or_congr_right (or_congr_left eq_comm)
 simp only[maskOf,go,jv];exact⟨λh=>h.elim (λh=>(nomatch h)) id,.inr⟩
noncomputable def AX(d:Nat):Int×Int:=w6.getD d (0,0)
noncomputable def AU(d:Nat):Nat:=[2,3,0,1,6,7,4,5].getD d 0
noncomputable def CE(w h d s:Nat):Nat:=maskOf (Bd w h s 8 (AX d))
noncomputable def Lc(w h:Nat):Bool:=(aI 8).all λd=>(aI (w*h)).all λs=>(yM (Bd w h s 8 (AX d))).all λq=>
 (Bd w h q.2 8 (AX (AU d))).contains s&&(maskOf q.1==if sU (AU d)=true then CE w h (AU d) q.2%2^s else CE w h (AU d) q.2/2^(s+1)*2^(s+1))
def mX(w h:Nat):Prop:=(w=3/\h=4)\/(w=4/\h=5)\/(w=8/\h=3)\/(w=5/\h=5)
theorem kB{P:Nat->Nat->Prop}(a:P 3 4)(b:P 4 5)(c:P 8 3)(e:P 5 5){w h:Nat}(H:mX w h):P w h:=by
 rcases H with⟨rfl,rfl⟩ | ⟨rfl,rfl⟩ | ⟨rfl,rfl⟩ | ⟨rfl,rfl⟩
 .exact a
 .exact b
 .exact c
 .exact e
theorem Oi{w h:Nat}(H:mX w h):Lc w h=true:=kB (P:=λw h=>Lc w h=true) rfl rfl rfl rfl H
noncomputable def tM(w h:Nat)(D:List (Int×Int)):Bool:=(aI (w*h)).all λs=>(D.flatMap λe=>Bd w h s 1 e).all λt=>(D.flatMap λe=>Bd w h t 1 e).contains s
theorem Ey{w h:Nat}(H:mX w h):tM w h w6=true:=kB (P:=λw h=>tM w h w6=true) rfl rfl rfl rfl H
theorem zv{w h:Nat}(H:mX w h):tM w h Mz=true:=kB (P:=λw h=>tM w h Mz=true) rfl rfl rfl rfl H
noncomputable def GO(U:Nat):List (Int×Int):=[(-1,1-2*(U:Int)),(1,1-2*(U:Int))]
noncomputable def CO(w h U:Nat):Bool:=(aI (w*h)).all λs=>((GO U).flatMap λe=>Bd w h s 1 e).all λt=>((GO (1-U)).flatMap λe=>Bd w h t 1 e).contains s
theorem Lk{w h U:Nat}(H:mX w h)(S:U<2):CO w h U=true:=by
 refine bN (dO.mp S) (λS=>?_) λOn=>?_
 .obtain rfl:U=0:=f3.mp S;exact kB (P:=λw h=>CO w h 0=true) rfl rfl rfl rfl H
 .subst On;exact kB (P:=λw h=>CO w h 1=true) rfl rfl rfl rfl H
theorem uZ{t:Nat}:∀ {l:List Nat},t∈l->∃p,(p,t)∈yM l
 | a::l,h=>by
  rcases aO.mp h with rfl | h
  .exact⟨[],.head _⟩
  .refine cP (uZ h) λp hp=>?_
   exact⟨a::p,.tail _ (bj.mpr ⟨_,hp,rfl⟩)⟩
theorem Pt{x s i:Nat}{g:Bool}:(if g=true then x%2^s else x/2^(s+1)*2^(s+1)).testBit i=true↔(if g=true then i<s else s<i)/\x.testBit i=true:=by
 cases g with
 | true=>
  show(x%2^s).testBit i=true↔i<s/\_
  rw[Nat.testBit_mod_two_pow,aH,decide_eq_true_eq]
 | false=>
  show(x/2^(s+1)*2^(s+1)).testBit i=true↔s<i/\_
  simp only[IC,aH,decide_eq_true_eq,tB];exact and_congr_right λh=>by simp only[b9,ic h]
section
variable{w h:Nat}{B:List Nat}{GE:Nat}
theorem GS(H:mX w h){d s:Nat}(hd:d<8)(S:s<w*h){p:List Nat}{t:Nat}(hp:(p,t)∈yM (Bd w h s 8 (AX d))):
  s∈Bd w h t 8 (AX (AU d))/\∀i,i∈p↔(if sU (AU d)=true then i<s else s<i)/\(CE w h (AU d) t).testBit i=true:=by
 have q:=cM.mp (cM.mp (cM.mp (Oi H) d (bW.mpr hd)) s (bW.mpr S)) (p,t) hp
 rw[aH,cg,beq_iff_eq]at q;refine⟨q.1,λi=>?_⟩;rw[<-mY,q.2];exact Pt
theorem HF:∀ {d:Nat},d<8->AU (AU d)=d/\AU d<8/\(d<4↔AU d<4):=by decide
theorem RP{d s:Nat}(H:mX w h):CE w h d s<2^64:=FC _ λi hi=>by
 rw[<-gM]
 intro e
 have:=Cy ((mY _ _).mp e)
 have h25:w*h<=25:=by rcases H with⟨rfl,rfl⟩ | ⟨rfl,rfl⟩ | ⟨rfl,rfl⟩ | ⟨rfl,rfl⟩<;>decide
 exact absurd (aq this h25) (fJ.mpr (ae (aa rfl) hi))
theorem HA(H:mX w h)(ho:∀i,GE.testBit i=!decide (B.getD i 0=0)){d q s:Nat}(hd:d<8)(hq:q<w*h)(S:s<w*h):
  (uV (sU d) (CE w h d q) GE).testBit s=true↔q∈ub B w h (AX (AU d)).1 (AX (AU d)).2 8 ((s%w:Nat)+(AX (AU d)).1) ((s/w:Nat)+(AX (AU d)).2):=by
 refine jc (λo1 o2 _=>?_) (HF hd);refine(Oj (RP H)).trans ?_;rw[DP];have emp:∀cr,GE.testBit cr=false↔B.getD cr 0=0:=λcr=>by simp only[ho,Bool.not_eq_false',decide_eq_true_eq]
 constructor
 .rintro⟨h1,h2⟩;refine cP (uZ ((mY _ _).mp h1)) λp hp=>?_
  refine cP (uZ (GS H hd hq hp).1) λp' hp'=>?_
  have c:=(GS H o2 S hp').2
  rw[o1]at c;exact⟨_,hp',rfl,λcr hu=>(emp cr).mp (h2 cr ((c cr).mp hu).1 ((c cr).mp hu).2)⟩
 .rintro⟨⟨p,t⟩,hp,rfl,hu⟩;obtain⟨c1,c2⟩:=GS H o2 S hp;rw[o1]at c1 c2;exact⟨(mY _ _).mpr c1,λi hi hr=>(emp i).mpr (hu i ((c2 i).mpr ⟨hi,hr⟩))⟩
theorem zb{R:Nat->Nat}{i:Nat}:∀ {l:List Nat} {a:Nat},(xC R l a).testBit i=true↔a.testBit i=true\/∃d∈l,(R d).testBit i=true
 | [],a=>⟨.inl,λh=>h.elim id λ⟨_,h,_⟩=>(nomatch h)⟩
 | d::l,a=>by
  simp only[Ou,zb,fG,cF,or_assoc]
  refine or_congr_right ⟨?_,?_⟩
  .rintro(h | ⟨e,he,h⟩)
   .exact⟨d,.head _,h⟩
   .exact⟨e,.tail _ he,h⟩
  .rintro⟨e,he,h⟩
   rcases aO.mp he with rfl | he
   .exact .inl h
   .exact .inr ⟨e,he,h⟩
theorem KE{dx dy x y:Int}:ub B w h dx dy 1 x y=ub [] w h dx dy 1 x y:=by
 rw[uT,uT]
 split
 .rename_i hx
  congr 1
  split<;>rfl
 .rfl
theorem EF{s:Nat}(D:List (Int×Int)):hitsD B w h s 1 D=D.flatMap λe=>Bd w h s 1 e:=aM (D.flatMap ·) (funext λJ=>KE)
theorem Em{D:List (Int×Int)}(c:tM w h D=true){s t:Nat}(S:s<w*h)(ht:t∈D.flatMap λe=>Bd w h s 1 e):s∈D.flatMap λe=>Bd w h t 1 e:=
 cg.mp (cM.mp (cM.mp c s (bW.mpr S)) t ht)
theorem Ef(H:mX w h){U:Nat}(IN:U<2){s t:Nat}(S:s<w*h)(ht:t∈(GO U).flatMap λe=>Bd w h s 1 e):s∈(GO (1-U)).flatMap λe=>Bd w h t 1 e:=
 cg.mp (cM.mp (cM.mp (Lk H IN) s (bW.mpr S)) t ht)
end
noncomputable def vI(w h U q:Nat):Nat:=maskOf ((GO U).flatMap λe=>Bd w h q 1 e)
noncomputable def LV(w h q:Nat):Nat:=maskOf (w6.flatMap λe=>Bd w h q 1 e)
noncomputable def CV(w h q:Nat):Nat:=maskOf (Mz.flatMap λe=>Bd w h q 1 e)
noncomputable def l7(w h q GE:Nat)(ds:List Nat):Nat:=xC (λd=>uV (sU d) (CE w h d q) GE) ds 0
noncomputable def CJ(w h:Nat)(K:Nat->Nat)(own GE q U:Nat):Bool:=
 !decide (vI w h (1-U) q&&&K 1&&&own|||(CV w h q&&&K 2|||LV w h q&&&K 6)&&&own=0)||(!decide (l7 w h q GE [0,1,2,3]&&&((K 4|||K 5)&&&own)=0)||!decide (l7 w h q GE [4,5,6,7]&&&((K 3|||K 5)&&&own)=0))
section
variable{w h:Nat}{B:List Nat}{GE q s U:Nat}
theorem Eg(H:mX w h)(IN:U<2)(hq:q<w*h)(S:s<w*h):q∈hitsD B w h s 1 (GO U)↔(vI w h (1-U) q).testBit s=true:=by
 simp only[EF,vI,mY];refine⟨λm=>Ef H IN S m,λm=>?_⟩;have:=Ef H (az (eH 1 U) (aa rfl)) hq m
 rwa [SN (b8 IN)]at this
theorem vM{D:List (Int×Int)}(c:tM w h D=true)(hq:q<w*h)(S:s<w*h):q∈hitsD B w h s 1 D↔(maskOf (D.flatMap λe=>Bd w h q 1 e)).testBit s=true:=by
 simp only[EF,mY];exact⟨Em c S,Em c hq⟩
theorem l5(H:mX w h)(ho:∀i,GE.testBit i=!decide (B.getD i 0=0))(hq:q<w*h)(S:s<w*h){ds:List Nat}(h8:∀d∈ds,d<8/\AU d∈ds):q∈hitsD B w h s 8 (ds.map AX)↔(l7 w h q GE ds).testBit s=true:=by
 rw[l7,zb,jv,hitsD,sr];constructor
 .rintro⟨e,he,m⟩;refine d5 λGG Y=>?_
  refine cP (bj.mp he) λd=>cJ λhd zn=>?_;subst zn
  refine cJ (λd8 od=>?_) (h8 d hd);refine Y ?_;refine .inr ⟨AU d,od,(HA H ho (h8 _ od).1 hq S).mpr ?_⟩;rw[(HF d8).1];exact m
 .rintro(e | ⟨d,hd,m⟩)
  .nomatch e
  .exact⟨_,bj.mpr ⟨AU d,(h8 d hd).2,rfl⟩,(HA H ho (h8 d hd).1 hq S).mp m⟩
theorem IZ{a b:List Nat}:(l7 w h q GE (a++b)).testBit s=true↔(l7 w h q GE a).testBit s=true\/(l7 w h q GE b).testBit s=true:=by
 simp only[l7,l7,l7,zb,zb,zb,jv];constructor
 .rintro(e | ⟨d,hd,e⟩)
  .nomatch e
  .exact(dk.mp hd).elim (λhd=>.inl (.inr ⟨d,hd,e⟩)) λhd=>.inr (.inr ⟨d,hd,e⟩)
 .rintro((e | ⟨d,hd,e⟩) | (e | ⟨d,hd,e⟩))
  .nomatch e
  .exact .inr ⟨d,bY _ hd,e⟩
  .nomatch e
  .exact .inr ⟨d,bX _ hd,e⟩
theorem sL{x:Nat}:(!decide (x=0))=true↔x≠0:=by rw[fX,decide_eq_false_iff_not]
theorem kinds{k:Nat}{db:Prop}(h1:1<=k)(h2:k<=6)(a:k=1->db)(b:k=2->db)(c:k=3->db)(d:k=4->db)(e:k=5->db)(f:k=6->db):db:=
 (lQ h1).elim (λq=>a q.symm) λh1=>(lQ h1).elim (λq=>b q.symm) λh1=>(lQ h1).elim (λq=>c q.symm) λh1=>(lQ h1).elim (λq=>d q.symm) λh1=>(lQ h1).elim (λq=>e q.symm) λh1=>f (lK h2 h1)
theorem SG{K:Nat->Nat}{own:Nat}(H:mX w h)(IN:U<2)(hK:∀j,j<7->∀s,(K j).testBit s=(!decide (B.getD s 0=0)&&decide (B.getD s 0%8=j)))(hO:∀s,own.testBit s=sJ B U s)(ho:∀i,GE.testBit i=!decide (B.getD i 0=0))
  (hl:B.length=w*h) (hm:∀p∈B,k9 p) (hq:q<w*h):CJ w h K own GE q U=true↔∃s,s<w*h/\sJ B U s=true/\q∈qy w h B s:=by
 have z4:∀d∈[0,1,2,3],d<8/\AU d∈[0,1,2,3]:=by decide
 have z7:∀d∈[4,5,6,7],d<8/\AU d∈[4,5,6,7]:=by decide
 have z8:∀d∈[0,1,2,3,4,5,6,7],d<8/\AU d∈[0,1,2,3,4,5,6,7]:=by decide
 have split8:∀s,(l7 w h q GE [0,1,2,3,4,5,6,7]).testBit s=true↔(l7 w h q GE [0,1,2,3]).testBit s=true\/(l7 w h q GE [4,5,6,7]).testBit s=true:=λs=>IZ (a:=[0,1,2,3])
 have lt:∀ {s},sJ B U s=true->s<w*h/\k9 (B.getD s 0)/\B.getD s 0≠0/\B.getD s 0/8=U:=λ{s} e=>by
  simp only[sJ,aH,sL,decide_eq_true_eq]at e;have l:=da λq=>e.1 (by refine bf.trans ?_;rw[dS (hl▸bZ q)];rfl)
  refine⟨l,hm _ ?_,e⟩;exact bU (getD_at hl l)
 have kind:∀ {j s},j<7->B.getD s 0≠0->((K j).testBit s=true↔B.getD s 0%8=j):=λ{j s} hj h0=>by
  simp only[hK j hj,aH,sL,decide_eq_true_eq];exact and_iff_right h0
 unfold CJ;simp only[cF,cF,sL,sL,sL];constructor
 .rintro(e | e | e)
  .refine cP (Cg e) λs e=>?_
   simp only[fG,dC,dC,dC,fG,dC,dC,hO,cF,aH,aH,aH,cF,aH,aH]at e;have o:=e.elim Wp Wp;refine mT (λl m n0 sd'=>?_) (lt o);refine⟨s,l,o,?_⟩;rcases e with⟨⟨e1,e2⟩,_⟩ | ⟨⟨e1,e2⟩ | ⟨e1,e2⟩,_⟩
   .simp only[qy,(kind (aa rfl) n0).mp e2,sd'];exact(Eg H IN hq l).mpr e1
   .rw[qy,(kind (aa rfl) n0).mp e2];exact(vM (zv H) hq l).mpr e1
   .rw[qy,(kind (aa rfl) n0).mp e2];exact(vM (Ey H) hq l).mpr e1
  .obtain⟨s,e1,e⟩:=mL.mp e;simp only[dC,fG,hO,aH,cF]at e;obtain⟨l,m,n0,sd'⟩:=lt e.2;refine⟨s,l,e.2,?_⟩;refine bN e.1 (λe2=>?_) λe2=>?_
   .rw[qy,(kind (aa rfl) n0).mp e2];exact(l5 H ho hq l z4).mpr e1
   .rw[qy,(kind (by decide) n0).mp e2];exact(l5 H ho hq l z8).mpr ((split8 s).mpr (.inl e1))
  .obtain⟨s,e1,e⟩:=mL.mp e;simp only[dC,fG,hO,aH,cF]at e;obtain⟨l,m,n0,sd'⟩:=lt e.2;refine⟨s,l,e.2,?_⟩;refine bN e.1 (λe2=>?_) λe2=>?_
   .rw[qy,(kind (aa rfl) n0).mp e2];exact(l5 H ho hq l z7).mpr e1
   .rw[qy,(kind (by decide) n0).mp e2];exact(l5 H ho hq l z8).mpr ((split8 s).mpr (.inr e1))
 .rintro⟨s,l,o,e⟩;refine mT (λ_ m n0 sd'=>?_) (lt o);have m:=m.resolve_left n0;obtain⟨k,hk⟩:∃k,B.getD s 0%8=k:=⟨_,rfl⟩;have kb:=(kind (hk▸hH m.2.2) n0).mpr hk;simp only[qy,hk,sd']at e;have near:∀ {x y z:Nat},x.testBit s=true->z.testBit s=true->(y|||(x&&&z))&&&own≠0:=λhx hz=>mL.mpr ⟨s,by simp only[fG,dC,hx,hz,Bool.and_true,fO],by rw[hO];exact o⟩
  have TW:∀ {x y z:Nat},x.testBit s=true->(y.testBit s=true\/z.testBit s=true)->x&&&((y|||z)&&&own)≠0:=λhx hyz=>mL.mpr ⟨s,hx,by simp only[dC,fG,aH,cF];exact⟨hyz,by rw[hO];exact o⟩⟩
  have orL:∀ {x y:Nat},x≠0->x|||y≠0:=λhx e=>hx (P4.mp e).1
  have orR:∀ {x y:Nat},y≠0->x|||y≠0:=λhx e=>hx (P4.mp e).2
  refine kinds (hk▸m.2.1) (hk▸m.2.2) (λob=>?_) (λob=>?_) (λob=>?_) (λob=>?_) (λob=>?_) λob=>?_<;>subst ob
  .exact .inl (orL (mL.mpr ⟨s,by simp only[dC,(Eg H IN hq l).mp e,kb];rfl,by rw[hO];exact o⟩))
  .exact .inl (orR (by rw[Cc];exact near ((vM (zv H) hq l).mp e) kb))
  .exact .inr (.inr (TW ((l5 H ho hq l z7).mp e) (.inl kb)))
  .exact .inr (.inl (TW ((l5 H ho hq l z4).mp e) (.inl kb)))
  .exact((split8 s).mp ((l5 H ho hq l z8).mp e)).elim (λe=>.inr (.inl (TW e (.inr kb)))) λe=>.inr (.inr (TW e (.inr kb)))
  .exact .inl (orR (near ((vM (Ey H) hq l).mp e) kb))
end
noncomputable def xW(j p:Nat):Bool:=!decide (p=0)&&decide (p%8=j)
noncomputable def xV(j p:Nat):Bool:=!decide (p=0)&&decide (p/8=j)
def Tells(f:Nat->Nat->Bool)(m:Nat)(ks B:List Nat):Prop:=ks.length=m/\∀j,j<m->∀s,(ks.getD j 0).testBit s=f j (B.getD s 0)
theorem Tells.Tv{f:Nat->Nat->Bool}{m:Nat}{ks ks' B:List Nat}(h:Tells f m ks B)(h':Tells f m ks' B):ks=ks':=by
 refine AJ (h.1.trans h'.1.symm) λj h1 h2=>?_
 have e:=λs=>(h.2 j (h.1▸h1) s).trans (h'.2 j (h.1▸h1) s).symm
 have e:=Ni e
 rwa [bf,bf,cO h1,cO h2]at e
theorem ju{l:List Nat}{i j x:Nat}(hi:i<l.length):(l.set i x).getD j 0=if i=j then x else l.getD j 0:=by
 refine bf.trans ?_;rw[yB];by_cases e:i=j
 .rw[aF e,aF e,aF hi];rfl
 .rw[aZ e,aZ e,bf]
theorem Tells.put{f:Nat->Nat->Bool}{m:Nat}{ks B:List Nat}(h:Tells f m ks B)(h0:∀j,f j 0=false){p s k:Nat}(S:s<B.length)(he:B.getD s 0=0)(hk:k<m)(hf:∀j,f j p=decide (k=j)):Tells f m (ks.set k (ks.getD k 0|||2^s)) (B.set s p):=by
 refine⟨by refine aV.trans ?_;exact h.1,λj hj i=>?_⟩;rw[ju (h.1▸hk),ju S];have hi:=h.2 j hj i;by_cases es:s=i
 .subst es;rw[aF rfl,hf];simp only[he,h0]at hi;by_cases ek:k=j
  .subst ek;rw[aF rfl,fG,hi,jq,bp rfl,bp rfl];rfl
  .rw[aZ ek,hi,bP ek]
 .rw[aZ es];by_cases ek:k=j
  .subst ek;rw[aF rfl,fG,hi,jq,bP es,xt]
  .rw[aZ ek,hi]
theorem kK{f:Nat->Nat->Bool}{m n:Nat}(h0:∀j,f j 0=false):Tells f m (aw m 0) (aw n 0):=by
 refine⟨cX,λj hj s=>?_⟩;have z:∀n i,(aw n 0).getD i 0=0:=λn i=>by
  refine bf.trans ?_;rw[lS]
  split<;>rfl
 simp only[z,z,h0,jv]
theorem pK{B:List Nat}(hm:∀p∈B,k9 p):∀ {l:List Nat} {n:Nat} {ks U:List Nat},B.drop n=l->Tells xW 7 ks (B.take n)->Tells xV 2 U (B.take n)->Tells xW 7 (kX l n (ks,U)).1 B/\Tells xV 2 (kX l n (ks,U)).2 B
 | [],n,ks,U,hd,hk,S=>by
  simp only[br (vp.mp hd)]at hk S
  exact⟨hk,S⟩
 | p::l,n,ks,U,hd,hk,S=>by
  have hn:=bq λq=>by rw[IF q]at hd;cases hd
  have hp:B[n]=p/\B.drop (n+1)=l:=by
   rw[kH hn]at hd;exact NF hd
  have tk:B.take (n+1)=B.take n++[p]:=by refine(List.take_succ_eq_append_getElem hn).trans ?_;rw[hp.1]
  have pm:=hm p (hp.1▸List.getElem_mem hn)
  have ln:(B.take n).length=n:=by refine eZ.trans ?_;exact fL (dZ hn)
  have ext:∀ {f:Nat->Nat->Bool} {m:Nat} {xs:List Nat},(∀j,f j 0=false)->Tells f m xs (B.take n)->Tells f m xs (B.take n++[0]):=λh0 t=>⟨t.1,λj hj s=>by
   refine(t.2 j hj s).trans ?_;simp only[bf,bf,List.getElem?_append]
   split
   .rfl
   .rename_i q;rw[dS (bZ q)];cases s-(B.take n).length<;>rfl⟩
  rw[Cz];by_cases h0:p=0
  .rw[aF h0];refine pK hm hp.2 ?_ ?_
   .rw[tk,h0];exact ext (λj=>rfl) hk
   .rw[tk,h0];exact ext (λj=>rfl) S
  .rw[aZ h0];have pm:=pm.resolve_left h0;have st:∀q,(B.take n++[0]).set n q=B.take n++[q]:=λq=>by
    refine(uL _ _ (d0 ln)).trans ?_;rw[ln,uj];rfl
   have em:(B.take n++[0]).getD n 0=0:=by
    refine bf.trans ?_;rw[iu (d0 ln),ln,uj];rfl
   have len:n<(B.take n++[0]).length:=by simp only[aj,ln];exact gN n
   refine pK hm hp.2 ?_ ?_
   .simp only[tk,<-st p];exact(ext (λj=>rfl) hk).put (λj=>rfl) len em (hH pm.2.2) λj=>by simp only[xW,bP h0];rfl
   .simp only[tk,<-st p];exact(ext (λj=>rfl) S).put (λj=>rfl) len em (cU (aq pm.1 (aa rfl))) λj=>by simp only[xV,bP h0];rfl
structure xp(size:Nat)(v:Pv):Prop where
 len:v.aN.length=size
 wH:∀p∈v.aN,k9 p
 k:Tells xW 7 v.kinds v.aN
 s:Tells xV 2 v.cQ v.aN
theorem xp.kX{size:Nat}{v:Pv}(C:xp size v):kX v.aN 0 (aw 7 0,[0,0])=(v.kinds,v.cQ):=by
 have t:=pK C.wH (l:=v.aN) (n:=0) (U:=[0,0]) rfl (kK (n:=0) λJ=>rfl) (kK (n:=0) λJ=>rfl)
 exact Prod.ext (t.1.Tv C.k) (t.2.Tv C.s)
theorem xp.put{size:Nat}{v:Pv}(C:xp size v)(u8:Nat->Nat->Nat){p s:Nat}(S:s<size)(he:v.aN.getD s 0=0)(hp:p<15)(h1:1<=p%8)(h6:p%8<=6):xp size (dU u8 v p s):=by
 have h0:¬p=0:=λe=>by rw[e]at h1;exact absurd h1 (bc rfl)
 refine⟨by simp only[dU,aV];exact C.len,λx hx=>?_,C.k.put (λJ=>rfl) (C.len▸S) he (hH h6) λj=>by simp only[xW,bP h0];rfl,C.s.put (λJ=>rfl) (C.len▸S) he (cU (aq hp (aa rfl))) λj=>by simp only[xV,bP h0];rfl⟩;refine bN (kF hx) (λhx=>?_) λOn=>?_
 .exact C.wH x hx
 .subst On;exact .inr ⟨hp,h1,h6⟩
noncomputable def fA(w h:Nat)(B:List Nat)(s:Nat):Bool:=decide (B.getD s 0%8=1)&&[0,h-1].contains (s/w)
noncomputable def sR(W w h:Nat):List Nat->Nat×List Nat->Option (Nat×List Nat):=nJ λp s=>mK W h (s/w) p s
structure Hk(w h size:Nat)(l:List Nat)(v v':Pv)(a':Nat)(o:Option (Nat×List Nat)):Prop where
 GP:xp size v'
 bL:v'.bL=v.bL
 off:∀s,s∉l->v'.aN.getD s 0=v.aN.getD s 0
 keep:∀s,v'.aN.getD s 0%8=6\/v.aN.getD s 0%8=6->v'.aN.getD s 0=v.aN.getD s 0
 BA:o=if l.any (fA w h v'.aN)=true then none else some (a',v'.aN)
theorem BV{W w h size:Nat}{ks:List Nat}{u8:Nat->Nat->Nat}:∀ {l:List Nat} {a:Nat} {v:Pv},xp size v->(∀s∈l,s<size)->l.Nodup->(∀s∈l,if ks.contains s=true then v.aN.getD s 0%8=6 else v.aN.getD s 0=0) ->
  match eN W ks u8 l a v with
  | some (a',v')=>Hk w h size l v v' a' (sR W w h l (a,v.aN))
  | none=>sR W w h l (a,v.aN)=none
 | [],a,v,C,_,_,_=>⟨C,rfl,λJ J=>rfl,λJ J=>rfl,rfl⟩
 | s::l,a,v,C,hl,hn,hk=>by
  have S:=hl s (.head _)
  have hn:=eT.mp hn
  have hks:=hk s (.head _)
  have step:∀a1 v1,xp size v1->v1.bL=v.bL->(∀i,i≠s->v1.aN.getD i 0=v.aN.getD i 0)->(v1.aN.getD s 0%8=6\/v.aN.getD s 0%8=6->v1.aN.getD s 0=v.aN.getD s 0)->∀o,(fA w h v1.aN s=true->o=none)->(fA w h v1.aN s=false->o=sR W w h l (a1,v1.aN)) ->
    match eN W ks u8 l a1 v1 with
    | some (a',v')=>Hk w h size (s::l) v v' a' o
    | none=>o=none:=λa1 v1 C1 e1 e2 e3 o o1 o2=>by
   have ih:=BV (W:=W) (w:=w) (h:=h) (u8:=u8) (a:=a1) C1 (λs S=>hl s (.tail _ S)) hn.2 λi hi=>by exact(e2 i λq=>hn.1 (q▸hi))▸(hk i (.tail _ hi))
   cases hr:eN W ks u8 l a1 v1 with
   | none=>
    rw[hr]at ih
    refine MR (fA w h v1.aN s) (λhp=>?_) λhp=>?_
    .exact(o2 hp).trans ih
    .exact o1 hp
   | some r=>
    rw[hr]at ih
    have same:fA w h r.2.aN s=fA w h v1.aN s:=by rw[fA,ih.off s hn.1];rfl
    have k1:∀i,v1.aN.getD i 0%8=6\/v.aN.getD i 0%8=6->v1.aN.getD i 0=v.aN.getD i 0:=λi hi=>by
     by_cases q:i=s
     .cases q;exact e3 hi
     .exact e2 i q
    refine⟨ih.GP,ih.bL.trans e1,λi hi=>(ih.off i λq=>hi (.tail _ q)).trans (e2 i λq=>hi (q▸.head _)),λi hi=>?_,?_⟩
    .refine bN hi (λhi=>?_) λhi=>?_
     .have e:=ih.keep i (.inl hi)
      exact e.trans (k1 i (.inl (e▸hi)))
     .have e:=k1 i (.inr hi)
      exact(ih.keep i (.inr (e▸hi))).trans e
    simp only[kT,same]
    cases hp:fA w h v1.aN s with
    | true=>exact o1 hp
    | false=>exact(o2 hp).trans ih.BA
  have pz:∀ {B:List Nat},B.getD s 0%8≠1->fA w h B s=false:=λe=>by simp only[fA,bP e];rfl
  show match eN W ks u8 (s::l) a v with | some (a',v')=>Hk w h size (s::l) v v' a' ((mK W h (s/w) (a,v.aN) s).bind _) | none=>(mK W h (s/w) (a,v.aN) s).bind _=none
  by_cases hc:ks.contains s=true
  .rw[aF hc]at hks
   rw[Lb hc]
   refine d5 λGG Y=>?_
   have n0:¬v.aN.getD s 0=0:=λe=>by rw[e]at hks;exact nomatch hks
   refine Y ?_
   exact(show mK W h (s/w) (a,v.aN) s=some (a,v.aN)from aZ n0)▸(step a v C rfl (λJ J=>rfl) (λJ=>rfl) _ (λq=>by rw[pz (by rw[hks];decide)]at q;exact nomatch q) λJ=>rfl)
  .rw[aZ hc]at hks
   rw[F3 hc]
   have e0:mK W h (s/w) (a,v.aN) s=_:=aF hks
   rw[e0]
   by_cases h1:rd W a 1=1
   .have n0:¬rd W a 1=0:=by rw[h1];decide
    rw[aF h1,lF,f7,aZ n0,aZ n0]
    have r1:=j3 W (a+4) 1
    by_cases h5:rd W (a+1) 3+1<=5
    .rw[aF (.inr h5)]
     have e8:(rd W (a+4) 1*8+(rd W (a+1) 3+1))%8=rd W (a+1) 3+1:=by rw[qL,eI (az h5 (aa rfl))]
     have C1:=C.put u8 S hks (az (cE (i3 8 (b8 r1)) h5) (aa rfl)) (by simp only[e8];exact io (fe _)) (by rw[e8];exact Q5 h5)
     have bd:(dU u8 v (rd W (a+4) 1*8+(rd W (a+1) 3+1)) s).aN=v.aN.set s (rd W (a+1) 3+1+8*rd W (a+4) 1):=by rw[dU,b9,c9]
     have gs:(dU u8 v (rd W (a+4) 1*8+(rd W (a+1) 3+1)) s).aN.getD s 0%8=rd W (a+1) 3+1:=by rw[dU,ju (C.len▸S),aF rfl,e8]
     have bad:u7 (rd W (a+1) 3+1) h (s/w)=fA w h (dU u8 v (rd W (a+4) 1*8+(rd W (a+1) 3+1)) s).aN s:=by
      simp only[u7,fA,gs,bP (fJ.mpr h5),Uw]
     refine step (a+5) _ C1 rfl (λi hi=>by simp only[dU,ju (C.len▸S),aZ (Ne.symm hi)]) (λq=>by rw[gs,hks]at q;lia) _ (λq=>?_) λq=>?_
     .rw[aF (bad.trans q)];rfl
     .rw[aZ (by simp only[bad,q];decide),<-bd];rfl
    .rw[aZ λq=>q.elim n0 h5,aF (by simp only[u7,bp (bq h5)];rfl)];rfl
   .have z:=QQ (j3 W a 1) h1
    rw[aZ h1,lF,f7,aF z,aF z,aF (.inl z)];exact step (a+1) v C rfl (λJ J=>rfl) (λJ=>rfl) _ (λq=>by rw[pz (by rw[hks];decide)]at q;exact nomatch q) λJ=>rfl
theorem zK{α β γ:Type}{f:β->γ->Option β}{g:α->List γ}:∀ {l:List α} {b:β},nJ f (l.flatMap g) b=nJ (λb x=>nJ f (g x) b) l b
 | [],_=>rfl
 | x::l,b=>by
  simp only[cv,BJ]
  show _=(nJ f (g x) b).bind _
  congr 1
  exact funext λb=>zK
theorem sV{α β:Type}{f f':β->α->Option β}:∀ {l:List α} {b:β},(∀x∈l,∀b,f b x=f' b x)->nJ f l b=nJ f' l b
 | [],_,_=>rfl
 | x::l,b,h=>by
  show(f b x).bind _=(f' b x).bind _
  rw[h x (.head _)]
  congr 1
  exact funext λb=>sV λx hx=>h x (.tail _ hx)
theorem Ib{w y c:Nat}(hc:c<w):(y*w+c)/w=y:=by
 rw[b9,Kq _ _ (az (fe c) hc),gQ hc,cx]
theorem FY{W w h:Nat}{p:Nat×List Nat}:qX W w h p=sR W w h (du w h) p:=by
 simp only[qX,sR,du,zK];refine sV λy J p=>sV λs S p=>?_
 refine cP (bj.mp S) λc=>cJ λhc zn=>?_;subst zn
 rw[Ib (bW.mp hc)]
theorem xB{w h:Nat}(H:mX w h):(du w h).Nodup:=kB (P:=λw h=>(du w h).Nodup) (bc rfl) (bc rfl) (bc rfl) (bc rfl) H
theorem Jt{w h:Nat}(H:mX w h):∀s,s<w*h->s∈du w h:=kB (P:=λw h=>∀s,s<w*h->s∈du w h) (bc rfl) (bc rfl) (bc rfl) (bc rfl) H
noncomputable def xx(w r:Nat):Nat:=(2^w-1)*2^(r*w)
theorem D9{w r s:Nat}(w0:0<w):(xx w r).testBit s=true↔s/w=r:=by
 simp only[xx,IC,Nat.testBit_two_pow_sub_one,aH,decide_eq_true_eq,decide_eq_true_eq];constructor
 .rintro⟨h1,h2⟩;have:=Ib (y:=r) h2
  rwa [ic h1]at this
 .rintro rfl;have d:=dP s w;rw[c9]at d;exact⟨Nat.div_mul_le_self s w,by exact Nat.mod_eq_sub_div_mul▸(dK s w0)⟩
section
variable{w h:Nat}{B:List Nat}
theorem Jq{K:Nat}(H:mX w h)(w0:0<w)(hK:∀s,K.testBit s=xW 1 (B.getD s 0))(hl:B.length=w*h):K&&&(xx w 0|||xx w (h-1))=0↔(du w h).any (fA w h B)=false:=by
 have bt:∀s,(K.testBit s=true/\(xx w 0|||xx w (h-1)).testBit s=true)↔fA w h B s=true:=λs=>by
  simp only[hK,fG,cF,D9 w0,D9 w0,xW,fA,aH,aH,sL,decide_eq_true_eq,cg];constructor
  .rintro⟨⟨_,h1⟩,h2⟩;exact⟨h1,h2.elim (λe=>e▸.head _) λe=>e▸.tail _ (.head _)⟩
  .rintro⟨h1,h2⟩;refine⟨⟨λe=>(by rw[e]at h1;cases h1),h1⟩,?_⟩;refine bN (aO.mp h2) (λe=>?_) λe=>?_
   .exact .inl e
   .exact .inr (bM.mp e)
 rw[<-gM,nO];constructor
 .rintro e ⟨s,_,S⟩;exact mL.mpr ⟨s,(bt s).mpr S⟩ e
 .intro e;refine da λq=>e ?_
  refine cP (mL.mp q) λs S=>?_
  have p:=(bt s).mp S
  have lt:=da λq=>by
   have:=S.1
   rw[hK,bf,dS (hl▸bZ q)]at this;exact nomatch this
  exact⟨s,Jt H s lt,p⟩
theorem Ly{q base:Nat}{dy:Int}(hy:0<=((q/w:Nat):Int)+dy/\((q/w:Nat):Int)+dy<h)(hb:(base:Int)=(((q/w:Nat):Int)+dy)*w+(q%w:Nat)):uu w B q base=([(-1,dy),(1,dy)].flatMap λe=>Bd w h q 1 e).map (B.getD · 0):=by
 have xT:∀e:Int,(if 0<=((q%w:Nat))+e/\((q%w:Nat))+e<w then[B.getD (base+e).toNat 0]else[])=(Bd w h q 1 (e,dy)).map (B.getD · 0):=λe=>by
  show _=(if(0<=((q%w:Nat))+e/\((q%w:Nat))+e<w)/\(0<=((q/w:Nat))+dy/\((q/w:Nat))+dy<h)then((((q/w:Nat))+dy).toNat*w+(((q%w:Nat))+e).toNat)::(if([]).getD _ 0=0 then[]else[])else[]).map _
  by_cases hx:0<=((q%w:Nat))+e/\((q%w:Nat))+e<w
  .refine(aF hx).trans ?_;rw[aF ⟨hx,hy⟩,ite_self,cN,tX];have en:(base+e).toNat=(((q/w:Nat))+dy).toNat*w+(((q%w:Nat))+e).toNat:=by
    apply f5.mp;refine cP (fy hy.1) λnw hY=>?_
    refine cP (fy hx.1) λX hX=>?_
    rw[hY]at hb ⊢;simp only[hX,gA,gA,hb,UG,hX];rfl
   rw[en]
  .refine(aZ hx).trans ?_;rw[aZ λq=>hx q.1];rfl
 simp only[cv,cv,gL,aP,cb,<-xT,<-xT,uu,cv,cv,gL,aP]
theorem En{q base U K own:Nat}{dy:Int}(hd:GO (1-U)=[(-1,dy),(1,dy)])(hy:0<=((q/w:Nat):Int)+dy/\((q/w:Nat):Int)+dy<h)(hb:(base:Int)=(((q/w:Nat):Int)+dy)*w+(q%w:Nat))(hK:∀s,K.testBit s=xW 1 (B.getD s 0))(hO:∀s,own.testBit s=xV U (B.getD s 0)):
  (uu w B q base).contains (1+8*U)=true↔vI w h (1-U) q&&&(own&&&K)≠0:=by
 refine cg.trans ?_;rw[Ly hy hb,bj,mL,vI,hd];have Ps:∀p,(xV U p&&xW 1 p)=true↔p=1+8*U:=λp=>by
  simp only[xV,xW,aH,aH,aH,sL,decide_eq_true_eq,decide_eq_true_eq];constructor
  .rintro⟨⟨_,h1⟩,_,h2⟩;refine(S6 p 8).symm.trans ?_;simp only[h1,h2]
  .rintro rfl;have e:¬1+8*U=0:=λq=>absurd (ae (aW 1 _) (d0 q)) (bc rfl)
   exact⟨⟨e,by refine(kr 1 U (aa rfl)).trans ?_;exact cx U⟩,e,iK 1 8 U⟩
 constructor
 .rintro⟨s,S,e⟩;exact⟨s,(mY _ _).mpr S,by rw[dC,hO,hK];exact(Ps _).mpr e⟩
 .rintro⟨s,S,e⟩;rw[dC,hO,hK]at e;exact⟨s,(mY _ _).mp S,(Ps _).mp e⟩
theorem Bp:∀ {a b c d e y z:Bool},(a=true->b=true->y=z)->(((a&&(((b&&c)&&d)&&e))=true/\y=true)↔(a&&(b&&(c&&(d&&(e&&z)))))=true):=by decide
theorem Ll{v:Pv}{q K own:Nat}(w0:0<w)(IN:v.bL<2)(hK:∀s,K.testBit s=xW 1 (v.aN.getD s 0))(hO:∀s,own.testBit s=xV v.bL (v.aN.getD s 0)):
  (sW w h v q=true/\decide (vI w h (1-v.bL) q&&&(own&&&K)≠0)=true)↔qv w h v.aN v.bL q=true:=by
 have dm:q=((q/w:Nat):Int)*w+(q%w:Nat):=by rw[<-DB,<-gF,c9,dP]
 unfold sW qv za;generalize v.bL=s at IN hO ⊢;by_cases h0:s=0
 .subst h0;refine Bp λh5 e1=>?_
  have h5:=bc h5
  have e1:=bc e1
  have h3:=fH (ae (by decide:3<=5) h5)
  have l1:=ph (ae (by decide:1+3<=5) h5)
  refine mT (λ_ _ _ cr=>?_) (yJ w0 e1 l1 (ae (i4 (h-3+2)) (d0 h3)));have l2:=e1▸l1;have en:((q/w:Nat)) + -1=((q/w-1:Nat):Int):=(ii l2).symm;refine jH.mpr (decide_eq_true_iff.trans (En (dy:=-1) rfl ⟨en▸cL _,en▸bK.mpr (az (eH _ 1) (e1▸ki (aq (aa rfl) h5) (aa rfl)))⟩ ?_ hK hO).symm);simp only[ii cr,Cm,Int.neg_one_mul,dm,P9,Qb]
 .obtain rfl:s=1:=lK (b8 IN) (ed h0);refine Bp λh5 e1=>?_
  have e1:=bc e1
  refine jH.mpr (decide_eq_true_iff.trans (En (dy:=1) rfl ⟨cL (q/w+1),bK.mpr (e1▸aq (aa rfl) (bc h5))⟩ ?_ hK hO).symm);simp only[gF,dm,Cm,Ck,Qb]
end
noncomputable def Md(w h g:Nat):List (eM×V):=[(.files,.int w),(.rN,.int h),(.size,.int (w*h:Nat)),(.full,.int (2^(w*h)-1:Nat)),(.q4,.bool (decide (5<=h))),(.q7,.bool true),(.jm,.ref (g+1)),(.jI,.ref (g+2)),(.CD,.ref (g+3)),(.Ez,.ref (g+12)),(.zw,.ref (g+5)),(.Eh,.ref (g+8)),(.pR,.ref (g+9)),(.mV,.ref (g+42))]
noncomputable def Ld(g d:Nat):Nat:=g+[14,18,22,25,28,32,35,38].getD d 0
noncomputable abbrev Qp(w h:Nat)(f:Nat->Nat):O:=aR ((aI (w*h)).map f)
structure Iw(w h g:Nat)(u:St):Prop where
 gi:u[g]?=some (.inst .eE (Md w h g))
 rk:u[g+2]?=some (aR ((aI h).map (xx w)))
 ry:u[g+3]?=some (.list ((aI 8).map λd=>.ref (Ld g d)))
 r:∀d,d<8->u[Ld g d]?=some (Qp w h (CE w h d))
 kg:u[g+12]?=some (Qp w h (LV w h))
 kn:u[g+5]?=some (Qp w h (CV w h))
 pw:u[g+8]?=some (.list [.ref (g+6),.ref (g+7)])
 pm:∀s,s<2->u[g+6+s]?=some (Qp w h (vI w h s))
 ca:∃cs,u[g+9]?=some (.list cs)/\∀i,i<4->∃x,cs[i]?=some x/\xn w h u i x
theorem Iw.to{w h g:Nat}{u re:St}(db:Iw w h g u)(H:∀(a:Nat) o,u[a]?=some o->re[a]?=some o):Iw w h g re:=by
 refine cP db.ca λcs=>cJ λc1 c2=>?_
 refine⟨H _ _ db.gi,H _ _ db.rk,H _ _ db.ry,λd hd=>H _ _ (db.r d hd),H _ _ db.kg,H _ _ db.kn,H _ _ db.pw,λs S=>H _ _ (db.pm s S),cs,H _ _ c1,λi hi=>?_⟩;refine cP (c2 i hi) λx=>cJ λhx W=>?_
 refine⟨x,hx,?_⟩;cases W with
 | no e=>exact .no e
 | at' hr hk hc e=>exact .at' (H _ _ hr) hk hc e
theorem vB{w h:Nat}{f:Nat->Nat}{q:Nat}(hq:q<w*h):((aI (w*h)).map f)[q]?=some (f q):=by
 refine cZ.trans ?_;exact aM _ (fb hq)
structure Sh(w h:Nat):Prop where
 ok:mX w h
 w0:0<w
 h0:0<h
 w8:w<=8
 h8:h<=8
 sN:w*h<=25
theorem TB{w h:Nat}(H:mX w h):Sh w h:=kB (P:=λw h=>mX w h->Sh w h) (λH=>⟨H,by decide,by decide,by decide,by decide,by decide⟩) (λH=>⟨H,by decide,by decide,by decide,by decide,by decide⟩) (λH=>⟨H,by decide,by decide,by decide,by decide,by decide⟩) (λH=>⟨H,by decide,by decide,by decide,by decide,by decide⟩) H H
section
variable{A:Ad}{v:Pv}{u:St}{d mk w h:Nat}
structure kP(w h:Nat)(B:List Nat)(ka kb:Nat):Prop where
 la:ka<w*h
 lb:kb<w*h
 a:∀s,B.getD s 0=6↔s=ka
 b:∀s,B.getD s 0=14↔s=kb
theorem m9{l:List Nat}{i m:Nat}(hl:l.length=m)(h:i<m):l[i]?=some (l.getD i 0):=getD_at hl h
theorem oj{k U:Nat}(C:xp (w*h) v)(S:U<2)(hk:∀s,v.aN.getD s 0=8*U+6↔s=k):v.cQ.getD U 0&&&v.kinds.getD 6 0=2^k:=by
 refine Ni λs=>?_
 rw[dC,C.s.2 U S,C.k.2 6 (aa rfl),jq,jH,decide_eq_true_eq,eq_comm (a:=k),<-hk,xV,xW,aH,aH,aH,sL,decide_eq_true_eq,decide_eq_true_eq];constructor
 .rintro⟨⟨_,h1⟩,_,h2⟩;refine((dP (v.aN.getD s 0) 8)).symm.trans ?_;simp only[h1,h2]
 .intro e;exact e▸(⟨⟨A5 _,uK (aa rfl) U 6⟩,A5 _,S5 8 U 6⟩)
theorem GU{ka kb:Nat}(dL:Sh w h)(P:eV A v u)(C:xp (w*h) v)(db:Iw w h A.g u)(S:v.bL<2)(hf:1<=v.full)(hr:v.aX<16)(K:kP w h v.aN ka kb)(he:v.ep ≠ -1->∃q,v.ep=(q:Nat)/\q<w*h):
  af (d+4) mk .lz [.ref A.p] u=if(du w h).any (fA w h v.aN)=false/\(aI 4).all (λi=>!jK w h v.aN v.aX i)=true/\(v.ep = -1\/qv w h v.aN v.bL v.ep.toNat=true)then .ok .none u else .fY u:=by
 refine d5 λGG Y=>?_
 have TE:w*h<64:=az dL.sN (aa rfl)
 have L:v.Na (w*h):=⟨C.len,C.k.1,C.s.1⟩
 have kt:=C.kX
 have y:=λj (hj:j<7)=>m9 C.k.1 hj
 have x:=λj (hj:j<2)=>m9 C.s.1 hj
 refine cP db.ca λcs=>cJ λc1 c2=>?_
 have b:=JZ (d:=d+1) (mk:=u.length) P L db.gi rfl rfl TE C.wH (aM Prod.fst kt) (aM Prod.snd kt)
 have k:=LU (d+1) u.length _ _ _ ka kb P (x 0 (by decide)) (x 1 (by decide)) (y 6 (aa rfl)) (oj C (by decide) K.a) (oj C (by decide) K.b)
 have k1:=FC _ λi hi=>by
  rw[C.k.2 1 (by decide),bf,dS (C.len▸ae dL.sN hi)];rfl
 have p:=Lj (d:=d) (mk:=u.length) P (y 1 (by decide)) db.gi rfl rfl dL.h0 dL.h8 db.rk (by refine cZ.trans ?_;exact aM _ (fb dL.h0)) (by refine cZ.trans ?_;exact aM _ (fb (ki dL.h0 (aa rfl)))) k1
 have r:=Jc (d:=d+1) (mk:=u.length) P C.len (dZ TE) db.gi rfl c1 c2 hr
 have e:=EU (st:=sW w h v v.ep.toNat) (at':=decide (vI w h (1-v.bL) v.ep.toNat&&&(v.cQ.getD v.bL 0&&&v.kinds.getD 1 0)≠0)) d u.length P (λn=>by
   refine cP (he n) λq=>cJ λe hq=>?_
   exact e▸(Dd d u.length P C.len TE rfl hq S db.gi rfl rfl rfl rfl dL.w0 dL.w8)) (λn J=>by
   refine cP (he n) λq=>cJ λe hq=>?_
   rw[e];have i2:1-v.bL<2:=az (eH _ _) (by decide);exact zQ d u.length P (aK hq TE) S db.gi rfl db.pw (by
    rcases dO.mp S with z | z
    .rw[f3.mp z];rfl
    .rw[z];rfl) (db.pm _ i2) (vB hq) (x _ S) (y 1 (by decide)))
 refine Y ?_;refine(JT P S hf b k p r e).trans ?_;have q1:=Jq dL.ok dL.w0 (C.k.2 1 (by decide)) C.len;have q2:=Ll (h:=h) (q:=v.ep.toNat) dL.w0 S (C.k.2 1 (by decide)) (C.s.2 v.bL S);exact ite_congr (propext (and_congr q1 (and_congr Vm (or_congr Vm q2)))) (λJ=>rfl) λJ=>rfl
theorem Lp{B:List Nat}{k U:Nat}(hk:∀s,B.getD s 0=14-8*U↔s=k):sI w h B U=true↔∃s,s<w*h/\sJ B U s=true/\k∈qy w h B s:=by
 rw[sI,nO];constructor
 .rintro⟨s,S,e⟩;rw[Bs,aH,nO]at e;refine d5 λGG Y=>?_
  obtain⟨e1,t,ht,e2⟩:=e;rw[Sd,decide_eq_true_eq,hk]at e2;refine Y ?_;exact⟨s,bW.mp S,e1,e2▸ht⟩
 .rintro⟨s,S,e1,e2⟩;exact⟨s,bW.mpr S,by rw[Bs,aH,nO];exact⟨e1,k,e2,by rw[Sd,decide_eq_true_eq,hk]⟩⟩
theorem JU{ka kb:Nat}(dL:Sh w h)(P:eV A v u)(C:xp (w*h) v)(db:Iw w h A.g u)(h1:u[1]?=some KV)(S:v.bL<2)(K:kP w h v.aN ka kb):
  af (d+5) mk .pP [.ref A.p,.int (1-v.bL:Nat)] u=.ok (.bool (sI w h v.aN v.bL)) u:=by
 have TE:w*h<64:=az dL.sN (aa rfl)
 have y:=λj (hj:j<7)=>m9 C.k.1 hj
 have x:=λj (hj:j<2)=>m9 C.s.1 hj
 obtain⟨k,lk,hk⟩:∃k,k<w*h/\∀s,v.aN.getD s 0=14-8*v.bL↔s=k:=by
  refine bN (dO.mp S) (λz=>?_) λz=>?_
  .rw[f3.mp z];exact⟨kb,K.lb,K.b⟩
  .rw[z];exact⟨ka,K.la,K.a⟩
 have s':1-v.bL<2:=az (eH _ _) (by decide)
 have k25:=aq lk dL.sN
 have Y:∀s,v.aN.getD s 0=8*(1-v.bL)+6↔s=k:=by
  exact((by decide:∀s,s<2->8*(1-s)+6=14-8*s) _ S)▸hk
 have ck:=yo (d+1) u.length (1-v.bL) _ _ k P (x _ s') (y 6 (by decide)) (oj C s' Y) k25 (aK s' (aa rfl))
 have pm:=db.pm (1-v.bL) s'
 have c0:=vH (d+1) u.length P (aK lk TE) S db.gi rfl db.pw (by
    rcases dO.mp S with z | z
    .rw[f3.mp z];rfl
    .rw[z];rfl) pm (vB lk) (x _ S) (y 1 (aa rfl))
 have c1:=vC (d+1) u.length P (aK lk TE) S db.gi rfl rfl db.kn db.kg (vB lk) (vB lk) (x _ S) (y 2 (aa rfl)) (y 6 (by decide)) c0
 have c2:=DV (d+2) u.length P (y 4 (aa rfl)) (y 5 (by decide))
 have c3:=DY (d+2) u.length P (y 3 (aa rfl)) (y 5 (by decide))
 have Wt:∀e:Nat,e<8->af (d+2) u.length .iz [.ref A.g,.int e,.int k,.int (v.cQ.getD 0 0|||v.cQ.getD 1 0)] u=.ok (.int (uV (sU e) (CE w h e k) (v.cQ.getD 0 0|||v.cQ.getD 1 0))) u:=λe he=>
  RO h1 he (aK lk TE) db.gi rfl db.ry (by refine cZ.trans ?_;exact aM _ (fb he)) (db.r e he) (vB lk)
 have c4:=Oc (mk:=u.length) Wt
 have c5:=J3 (mk:=u.length) Wt
 have ia:=zA (mk:=u.length) P (aK S (aa rfl)) c1 (x _ S) c2 c3 c4 c5
 have at':=SG (GE:=v.cQ.getD 0 0|||v.cQ.getD 1 0) dL.ok S C.k.2 (C.s.2 v.bL S) (λi=>by
  simp only[fG,C.s.2 0 (by decide),C.s.2 1 (by decide),xV,xV];by_cases z:v.aN.getD i 0=0
  .rw[bp z];rfl
  .have:=(C.wH _ (bU (getD_at C.len (da λq=>z (by refine bf.trans ?_;rw[dS (C.len▸bZ q)];rfl))))).resolve_left z
   simp only[bP z,Bool.not_false,og,og,cF,decide_eq_true_eq,decide_eq_true_eq];exact(dO.mp (cU (aq this.1 (by decide)))).imp f3.mp id) C.len C.wH lk
 have e:sI w h v.aN v.bL=CJ w h (λj=>v.kinds.getD j 0) (v.cQ.getD v.bL 0) (v.cQ.getD 0 0|||v.cQ.getD 1 0) k v.bL:=by
  refine jH.mpr ?_;rw[at',Lp hk]
 rw[e];refine EC P s' (x 0 (by decide)) (x 1 (by decide)) ck ?_;rw[SN (b8 S)];exact ia
end
section
variable{d mk:Nat}{f:Fn}{wv:List V}{u re:St}{sw:List V}{fl:Fl}(B:List MS)(E:List V)(hn:wv.length=(cc f).ij)(ht:(cc f).uq=false)(hB:(cc f).body=B)(yq:wv++aw ((cc f).lh-(cc f).ij) V.av=E)
include hn ht hB yq
theorem Di(h:Xs ⟨af d,mk⟩ B E u (.ok fl sw re))(hv:(oy fl).cD=true):af (d+1) mk f wv u=.ok (oy fl) re:=by
 subst hB yq;simp only[pT];unfold rn;refine(aF hn).trans ?_;rw[ht];show(match iH ⟨af d,mk⟩ _ _ _ with | .ok f _ re=>if(oy f).cD then RE.ok (oy f) re else .cn | .fY _ re=>_ | .cn=>_)=_;exact h.eq▸(aF hv)
theorem MO(h:Xs ⟨af d,mk⟩ B E u (.fY sw re)):af (d+1) mk f wv u=.fY re:=by
 subst hB yq;simp only[pT];unfold rn;refine(aF hn).trans ?_;rw[ht];show(match iH ⟨af d,mk⟩ _ _ _ with | .ok f _ re=>_ | .fY _ re=>RE.fY (if false=true then _ else re) | .cn=>_)=_;rw[h.eq];rfl
end
theorem HB{C:Cx}{E vs:List V}{es:List ME}{u po rs:St}{c:pG}{n:Nat}(h:yv C es E u vs po)(hl:po.length=n)(hc:C.call C.mark (qZ c) (.ref n::vs) (po++[.inst c []])=.ok .none rs):Ev C (.new c es) E u (.ref n) rs:=by
 subst hl;refine⟨?_⟩;show(q9 C es E u).bind _=_;rw[h.eq,RE.cV,hc];rfl
theorem Gg{d mk:Nat}{E:List V}{e:ME}{u:St}{l:List Nat}(he:Ev ⟨af (d+1),mk⟩ e E u (.bytes l) u)(hb:∀b∈l,b<256)(hl:l.length<=hV):Ev ⟨af (d+1),mk⟩ (.new .jA [e]) E u (.ref u.length) (u++[dq (cK l) (8*l.length) 0]):=by
 have r:=Jf d mk u.length l (u++[.inst .jA []]) (dR _ _) hb hl
 simp only[CC]at r;exact HB (ak he rfl aY) rfl r
theorem nT{mk o a:Nat}(h:mk<=o):fq mk o (.ref a)=true:=by
 show(true&&(!true||decide (mk<=o)))=true
 exact(bp h)
theorem jB{C:Cx}{E:List V}{u N SZ:St}{cl:pG}{fs:List (eM×V)}{v:V}{e:ME}{f:eM}{ss:List MS}{r:RX}(he:Ev C e E (u++.inst cl fs::N) v (u++.inst cl fs::SZ))(h0:eo E 0=some (.ref u.length))(hm:fq C.mark u.length v=true)(hl:Q6 fs.length 60=true)
  (hr:Xs C ss E (u++.inst cl (qt f v fs)::SZ) r):Xs C (.assign (.aS (.ah 0) f) e::ss) E (u++.inst cl fs::N) r:=by
 refine uS he (ag h0) (bJ (i:=0) rfl rfl) hm hl ?_;rw[show(u++.inst cl fs::SZ).set u.length (.inst cl (qt f v fs))=u++.inst cl (qt f v fs)::SZ from dI (i:=0)];exact hr
noncomputable def gE(n g z:Nat):Ad:=⟨n,g,z,n+2,n+4,n+5,n+6⟩
noncomputable def j6(size:Nat):Pv:=⟨aw size 0,aw 7 0,[0,0],0,0,-1,0,1,0⟩
noncomputable def TN(n g z size:Nat):St:=[.inst .gj (mW (gE n g z) (j6 size)),.list [.int 0],aR (aw size 0),.list [.int 0],aR (aw 7 0),aR [0,0],.list []]
theorem HJ{d mk g z size:Nat}{E:List V}{e1 e2:ME}{u:St}{fs:List (eM×V)}(h1:Ev ⟨af (d+1),mk⟩ e1 E u (.ref g) u)(h2:Ev ⟨af (d+1),mk⟩ e2 E u (.ref z) u)(hg:u[g]?=some (.inst .eE fs))(S:hP .size fs=some (.int size))(hz:size<=4096)(hm:mk<=u.length):
  Ev ⟨af (d+1),mk⟩ (.new .gj [e1,e2]) E u (.ref u.length) (u++TN u.length g z size):=by
 have rep:∀ {n:Nat} {e b:ME} {N:St},n<=4096->(∀H:St,Ev ⟨af d,mk⟩ e [.ref u.length,.ref g,.ref z] H (.int 0) H)->(∀N:St,Ev ⟨af d,mk⟩ b [.ref u.length,.ref g,.ref z] (u++N) (.int n) (u++N))->Ev ⟨af d,mk⟩ (.aQ .fm (.list [e]) b) [.ref u.length,.ref g,.ref z] (u++N) (.ref (u.length+(N.length+1))) (u++(N++[.list [.int 0],aR (aw n 0)])):=λ{n e b N} hn he hb=>by
  have hb':=hb (N++[.list [.int 0]])
  rw[<-am]at hb';have q:=yW (iS (ak (he _) rfl aY)) hn hb';simp only[am,aj,show aw n (V.int 0)=(aw n 0).map λn:Nat=>V.int n by simp only[ql];rfl]at q;exact q
 have sz:∀N:St,Ev ⟨af d,mk⟩ (.aS (.ah 1) .size) [.ref u.length,.ref g,.ref z] (u++N) (.int size) (u++N):=λN=>bg (ag rfl) (bv hg) S
 have lst:∀ {es:List ME} {vs:List V} {N:St},yv ⟨af d,mk⟩ es [.ref u.length,.ref g,.ref z] (u++N) vs (u++N)->Ev ⟨af d,mk⟩ (.list es) [.ref u.length,.ref g,.ref z] (u++N) (.ref (u.length+N.length)) (u++(N++[.list vs])):=λ{es vs N} h=>by
  have q:=iS h
  simp only[am,aj]at q;exact q
 refine HB (ak h1 rfl (ak h2 rfl aY)) rfl ?_;refine(Di (f:=.uJ) (wv:=[.ref u.length,.ref g,.ref z]) rQ [.ref u.length,.ref g,.ref z] rfl rfl rfl rfl (fl:=.next) (sw:=[.ref u.length,.ref g,.ref z]) ?_ rfl);refine jB (ag rfl) rfl (nT hm) rfl (jB (ag rfl) rfl (nT hm) rfl ?_);refine jB (rep hz (λJ=>dn rfl) sz) rfl (nT hm) rfl (jB (rep (aa rfl) (λJ=>bh) λJ=>bh) rfl (nT hm) rfl ?_);refine jB (lst ⟨rfl⟩) rfl (nT hm) rfl ?_;refine jB (dn rfl) rfl rfl rfl (jB bh rfl rfl rfl (jB (kL bh) rfl rfl rfl (jB bh rfl rfl rfl (jB bh rfl rfl rfl (jB bh rfl rfl rfl ?_)))));exact jB (lst aY) rfl (nT hm) rfl dQ
structure World(w h g z:Nat)(u8:Nat->Nat->Nat)(rk ek:Nat->Nat)(sk:Nat)(u:St):Prop where
 tabs:qG u
 qN:Iw w h g u
 Kl:oZ z u8 (w*h) (λJ=>True) u
 key:Fj z rk ek sk w u
theorem Fj.to{z:Nat}{rk ek:Nat->Nat}{sk wd:Nat}{u re:St}(Z:Fj z rk ek sk wd u)(H:∀(a:Nat) o,u[a]?=some o->re[a]?=some o):Fj z rk ek sk wd re:=by
 refine SY Z.all λzf zr rl ze el=>Rv λz1 z2 z3 z4 z5 z6 z7 z8=>?_
 exact⟨zf,zr,rl,ze,el,H _ _ z1,z2,H _ _ z3,z4,z5,H _ _ z6,z7,z8⟩
theorem oZ.up{z:Nat}{u8:Nat->Nat->Nat}{size:Nat}{ok ok':Nat->Prop}{u:St}(Z:oZ z u8 size ok u)(H:∀a,a<u.length->ok' a):oZ z u8 size ok' u:=by
 refine nG Z.wH λzf zp rows=>Qi λz1 _ z2 z3 _ z5=>?_
 have lt:∀ {a:Nat} {o:O},u[a]?=some o->a<u.length:=λh=>(aJ.mp h).1
 refine⟨zf,zp,rows,z1,H _ (lt z1),z2,z3,H _ (lt z3),λp hp=>?_⟩;refine iJ (z5 p hp) λtJ zl=>mT λa _ c e=>?_
 exact⟨tJ,zl,a,H _ (lt c),c,e⟩
theorem World.to{w h g z:Nat}{u8:Nat->Nat->Nat}{rk ek:Nat->Nat}{sk:Nat}{u re:St}(Q:World w h g z u8 rk ek sk u)(H:∀(a:Nat) o,u[a]?=some o->re[a]?=some o):World w h g z u8 rk ek sk re:=
 ⟨λi o e=>H _ _ (Q.tabs i o e),Q.qN.to H,Q.Kl.to λa o J=>H a o,Q.key.to H⟩
theorem World.ky{w h g z:Nat}{u8:Nat->Nat->Nat}{rk ek:Nat->Nat}{sk:Nat}{u:St}(Q:World w h g z u8 rk ek sk u)(N:St):World w h g z u8 rk ek sk (u++N):=Q.to λJ J=>bv
noncomputable def gH(u:St)(g z W c:Nat)(v:Pv)(a:Nat):St:=u++[dq W c a,.inst .gj (mW (gE (u.length+1) g z) v),.list [.int 0],aR v.aN,.list [.int 0],aR v.kinds,aR v.cQ,.list []]
section
variable{u N:St}{g z W c a:Nat}{v v':Pv}
theorem wZ:eV (gE (u.length+1) g z) v (gH u g z W c v a++N):=⟨bv (bJ rfl rfl),bv (bJ (i:=3) rfl rfl),bv (bJ (i:=5) rfl rfl),bv (bJ (i:=6) rfl rfl),bv (bJ (i:=7) rfl rfl)⟩
theorem rO:(gH u g z W c v a++N)[u.length]?=some (dq W c a):=bv (bJ (i:=0) rfl rfl)
theorem zH:(gH u g z W c v a).length=u.length+8:=by simp only[gH,aj];rfl
theorem GD{a':Nat}:(gH u g z W c v a++N).set u.length (dq W c a')=gH u g z W c v a'++N:=by
 refine(nQ (by simp only[zH];exact hJ (aa rfl))).trans ?_;exact aM (· ++ N) (dI (i:=0))
theorem Mf(hb:v.aN=v'.aN)(hk:v.kinds=v'.kinds)(S:v.cQ=v'.cQ):(gH u g z W c v a++N).set (u.length+1) (.inst .gj (mW (gE (u.length+1) g z) v'))=gH u g z W c v' a++N:=by
 refine(nQ (by simp only[zH];exact fg (aa rfl) _)).trans ?_;refine aM (· ++ N) ?_;unfold gH;simp only[hb,hk,S,dI];rfl
theorem HX{v0:Pv}{a0:Nat}:hp (gE (u.length+1) g z) u.length W c (gH u g z W c v0 a0) v a=gH u g z W c v a:=by
 unfold hp jJ gH;rw[show ∀(N) o,(u++N).set u.length o=u++N.set 0 o fromλN o=>dI (i:=0)];rw[show ∀(N) o,(u++N).set (gE (u.length+1) g z).b o=u++N.set 3 o fromλN o=>dI (i:=3)];rw[show ∀(N) o,(u++N).set (gE (u.length+1) g z).k o=u++N.set 5 o fromλN o=>dI (i:=5)];rw[show ∀(N) o,(u++N).set (gE (u.length+1) g z).s o=u++N.set 6 o fromλN o=>dI (i:=6)];rw[show ∀(N) o,(u++N).set (gE (u.length+1) g z).p o=u++N.set 1 o fromλN o=>dI];rfl
variable{w h d mk n:Nat}{u8:Nat->Nat->Nat}{rk ek:Nat->Nat}{sk:Nat}
theorem H1(hn:n<64)(h:a+n<=c):af (d+1) mk .dj [.ref u.length,.int n] (gH u g z W c v a++N)=.ok (.int (rd W a n)) (gH u g z W c v (a+n)++N):=by
 refine(tH d mk u.length W c a n _ rO hn h).trans ?_;exact aM _ GD
theorem EH(dL:Sh w h)(Q:World w h g z u8 rk ek sk u):pV (gE (u.length+1) g z) u.length w h (w*h) u8 (Md w h g) (gH u g z W c v a):=by
 have lt:∀ {a:Nat} {o:O},u[a]?=some o->a<u.length:=λh=>(aJ.mp h).1
 have off:∀x,x<u.length->Off (gE (u.length+1) g z) x/\u.length≠x:=λx hx=>by
  have ne:∀k,u.length+k≠x:=λk e=>jG.mpr hx (e▸aW _ k)
  exact⟨⟨ne 1,ne 3,ne 5,ne 6⟩,ne 0⟩
 have db:=Q.qN.gi
 have ne:∀ {i j:Nat},i≠j->u.length+i≠u.length+j:=λh e=>h (xq e)
 have R:=Q.ky [dq W c a,.inst .gj (mW (gE (u.length+1) g z) v),.list [.int 0],aR v.aN,.list [.int 0],aR v.kinds,aR v.cQ,.list []]
 have P:=wZ (u:=u) (N:=[]) (g:=g) (z:=z) (W:=W) (c:=c) (v:=v) (a:=a)
 simp only[aP]at P;refine⟨⟨⟨ne (j:=7) (bc rfl),ne (i:=3) (j:=7) (bc rfl),ne (i:=5) (j:=7) (bc rfl),ne (i:=6) (j:=7) (bc rfl)⟩,ne (j:=3) (bc rfl),ne (j:=5) (bc rfl),ne (j:=6) (bc rfl),ne (i:=3) (j:=5) (bc rfl),ne (i:=3) (j:=6) (bc rfl),ne (i:=5) (j:=6) (bc rfl)⟩,
  ⟨ne (j:=0) (bc rfl),ne (i:=3) (j:=0) (bc rfl),ne (i:=5) (j:=0) (bc rfl),ne (i:=6) (j:=0) (bc rfl)⟩,ne (i:=0) (j:=7) (bc rfl),?_,(off g (lt db)).1,(off g (lt db)).2,R.qN.gi,rfl,rfl,rfl,?_,rfl,dL.w8,dL.h0,dL.h8,⟨v,P⟩,?_⟩
 .exact zH▸(hJ (aa rfl))
 .exact kB (P:=λw h=>wQ (w*h)) (.inl rfl) (.inr (.inl rfl)) (.inr (.inr (.inl rfl))) (.inr (.inr (.inr rfl))) dL.ok
 .exact(Q.Kl.up off).to λa o J e=>bv e
end
inductive Hi(u:St)(g z W c:Nat)(key:List Nat->Nat->Nat->Int->Nat):Option Told->RX->Prop
 | none {E:List V} {N:St}:Hi u g z W c key none (.fY E (u++N))
 | some {t:Told} {E:List V} {e:Nat} {v:Pv} {x:O} (hb:v.aN=t.B) (hc:(kX t.B 0 (aw 7 0,[0,0]))=(v.kinds,v.cQ)) (S:v.bL=t.bL) (hr:v.aX=t.aX) (he:v.ep=t.ep) (hh:v.half=t.half) (hf:v.full=t.full) (hk:v.key=key t.B t.bL t.aX t.ep) :
   Hi u g z W c key (some t) (.ok (.ret (.ref (u.length+1))) E (gH u g z W c v e++[x]))
noncomputable def Mu(W c w h:Nat)(t:Told)(e:Nat):Option Told:=if mv W c w h t e=true then none else if(aI 4).filter (jK w h t.B t.aX)=[]then some t else none
noncomputable def jW(v:Pv):Told:=⟨v.aN,v.bL,v.aX,v.ep,v.half,v.full⟩
def Q0(w h:Nat)(t:Told):Prop:=(du w h).any (fA w h t.B)=true\/¬(t.ep = -1\/qv w h t.B t.bL t.ep.toNat=true)
noncomputable def Ca(w h:Nat)(t:Told):Bool:=(du w h).any (fA w h t.B)||!(decide (t.ep = -1)||qv w h t.B t.bL t.ep.toNat)
theorem tS{w h:Nat}{t:Told}:Ca w h t=true↔Q0 w h t:=by
 simp only[Ca,Q0,cF,fX,<-gM,cF,decide_eq_true_eq]
noncomputable def oA(W c w h:Nat)(t:Told)(e:Nat):Option Told:=if Ca w h t=true then none else Mu W c w h t e
noncomputable def Gr(u8:Nat->Nat->Nat)(rk ek:Nat->Nat)(sk w:Nat)(B:List Nat)(bL aX:Nat)(ep:Int):Nat:=pO u8 B 0 (iM sk bL (oM ek w ep (rk aX)))
noncomputable def gP(u:St)(data:List Nat)(g z:Nat):List V:=[.bytes data,.ref g,.ref z,.ref u.length,.ref (u.length+1)]
theorem Cs{C:Cx}{E:List V}{u N SZ:St}{g z W c a a':Nat}{v v':Pv}{e:ME}{x:V}{f:eM}{ss:List MS}{r:RX}(he:Ev C e E (gH u g z W c v a++N) x (gH u g z W c v a'++SZ))(hx:x.isRef=false/\x.cD=true)(h4:eo E 4=some (.ref (u.length+1)))(hb:v.aN=v'.aN)(hk:v.kinds=v'.kinds)(S:v.cQ=v'.cQ)(hf:qt f x (mW (gE (u.length+1) g z) v)=mW (gE (u.length+1) g z) v')
  (hr:Xs C ss E (gH u g z W c v' a'++SZ) r):Xs C (.assign (.aS (.ah 4) f) e::ss) E (gH u g z W c v a++N) r:=by
 refine uS he (ag h4) wZ.p (by show(x.cD&&(!x.isRef||_))=true;simp only[hx.1,hx.2];rfl) rfl ?_;simp only[hf];show Xs C ss E ((gH u g z W c v a'++SZ).set (u.length+1) _) r;rw[Mf hb hk S];exact hr
section
variable{d mk w h g z W c e:Nat}{u8:Nat->Nat->Nat}{rk ek:Nat->Nat}{sk:Nat}{u:St}{data:List Nat}{v:Pv}{x:O}{ka kb:Nat}
theorem Sm{N:St}:∃SZ,gH u g z W c v e++N=u++SZ:=⟨_,am _ _ _⟩
theorem nV{ss:List MS}{E sw:List V}{C:Cx}{H N:St}{key:List Nat->Nat->Nat->Int->Nat}{e':Nat}{v':Pv}(h:Xs C ss E H (.fY sw (gH u g z W c v' e'++N))):Hi u g z W c key none (iH C ss E H):=by
 refine cP (Sm (u:=u) (g:=g) (z:=z) (W:=W) (c:=c) (v:=v') (e:=e') (N:=N)) λSZ e=>?_
 simp only[h.eq,e];exact .none
theorem T8(dL:Sh w h)(Q:World w h g z u8 rk ek sk u)(C:xp (w*h) v)(K:kP w h v.aN ka kb)(S:v.bL<2)(hr:v.aX<16)(hf:v.full≠0)(hep:v.ep ≠ -1->∃q,v.ep=(q:Nat)/\q<w*h)(hc:e<=c):
  Hi u g z W c (Gr u8 rk ek sk w) (oA W c w h (jW v) e)
   (iH ⟨af (d+5),mk⟩ (cY.drop 8) (gP u data g z) (gH u g z W c v e++[x])):=by
 refine d5 λGG Y=>?_
 have TE:w*h<64:=az dL.sN (aa rfl)
 by_cases hfin:c<e+8->W/2^e≠0
 .have f:=GI (d+4) mk u.length W c e (gH u g z W c v e++[x]) rO hfin
  have hb:mv W c w h (jW v) e=true:=by
   unfold mv;by_cases q:c<e+8
   .simp only[bp (hfin q)];simp only[pW,fO]
   .simp only[bp (show e+7<c from bZ q)];simp only[pW,fO]
  have hn:(oA W c w h (jW v) e)=none:=by
   simp only[oA,Mu,aF hb];exact ite_self _
  refine Y ?_;simp only[hn];exact nV (uR (oN (ag rfl) rO rfl aY f))
 .have h1:=da λq=>hfin λq'=>absurd q' q
  have h2:=da λq=>hfin λJ=>q
  have f:=JG (d+4) mk u.length W c e (gH u g z W c v e++[x]) rO h1 h2
  have P:=wZ (u:=u) (N:=[x]) (g:=g) (z:=z) (W:=W) (c:=c) (v:=v) (a:=e)
  have QH:World w h g z u8 rk ek sk (gH u g z W c v e++[x]):=(Q.ky _).ky _
  have s:=Ja (d+2) mk P QH.key QH.Kl QH.qN.gi rfl dL.w0 dL.w8 hr C.len TE λp hp=>(C.wH p hp).elim (λe=>by rw[e];decide) λq=>q.1
  generalize WJ:({ v with key:=C3 u8 rk ek sk w v })=v' at s;simp only[show(gH u g z W c v e++[x]).set (gE (u.length+1) g z).p (.inst .gj (mW (gE (u.length+1) g z) v'))=_ from Mf (WJ▸rfl) (WJ▸rfl) (WJ▸rfl)]at s;have eb:v'.aN=v.aN:=by rw[<-WJ]
  have es:v'.bL=v.bL:=by rw[<-WJ]
  have er:v'.aX=v.aX:=by rw[<-WJ]
  have ee:v'.ep=v.ep:=by rw[<-WJ]
  have P':=wZ (u:=u) (N:=[x]) (g:=g) (z:=z) (W:=W) (c:=c) (v:=v') (a:=e)
  have QH':World w h g z u8 rk ek sk (gH u g z W c v' e++[x]):=(Q.ky _).ky _
  have C':xp (w*h) v':=WJ▸⟨C.len,C.wH,C.k,C.s⟩
  have k:=GU (d:=d+1) (mk:=mk) dL P' C' QH'.qN (es▸S) (WJ▸ed hf) (er▸hr) (eb▸K) (ee▸hep)
  have ch:=JU (d:=d) (mk:=mk) dL P' C' QH'.qN (QH'.tabs 1 _ rfl) (es▸S) (eb▸K)
  simp only[eb,es,er,ee]at k;rw[eb,es]at ch;have p0:yv ⟨af (d+5),mk⟩ [.ah 4] (gP u data g z) (gH u g z W c v' e++[x]) [.ref (u.length+1)] (gH u g z W c v' e++[x]):=ak (ag rfl) rfl aY;have go:∀ {r:RX},Xs ⟨af (d+5),mk⟩ (cY.drop 10) (gP u data g z) (gH u g z W c v' e++[x]) r->Xs ⟨af (d+5),mk⟩ (cY.drop 8) (gP u data g z) (gH u g z W c v e++[x]) r:=λhx=>
   gb (fN (ag rfl) rO rfl aY f) (gb (bw ⟨rfl⟩ s) hx)
  by_cases hp:(du w h).any (fA w h v.aN)=false/\(aI 4).all (λi=>!jK w h v.aN v.aX i)=true/\(v.ep = -1\/qv w h v.aN v.bL v.ep.toNat=true)
  .rw[aF hp]at k;have wn:(aI 4).filter (jK w h v.aN v.aX)=[]:=IE.mpr λi hi q=>by
    refine d5 λGG Y=>?_
    have:=cM.mp hp.2.1 i hi
    rw[q]at this;exact nomatch this
   have U:Ev ⟨af (d+5),mk⟩ (.aQ .sub (.ai 1) (.aS (.ah 4) .bL)) (gP u data g z) (gH u g z W c v' e++[x]) (.int (1-v.bL:Nat)) (gH u g z W c v' e++[x]):=by
    exact es▸(iT (bC 1) (bg (ag rfl) P'.p rfl) (es▸b8 S))
   have b:=j9 (bw (f:=.pP) (ak (ag (j:=4) rfl) rfl (ak U rfl aY)) ch) rfl
   have go2:∀ {r:RX},Xs ⟨af (d+5),mk⟩ (cY.drop 11) (gP u data g z) (gH u g z W c v' e++[x]) r->Xs ⟨af (d+5),mk⟩ (cY.drop 10) (gP u data g z) (gH u g z W c v' e++[x]) r:=λhx=>gb (bw p0 k) hx
   have be:mv W c w h (jW v) e=sI w h v.aN v.bL:=by
    rw[mv,bP (fJ.mpr hc),bP (fJ.mpr (b8 h1)),bP (λq=>q h2),bP (show ¬(jW v).full=0 from hf)];rfl
   refine Y ?_;rw[oA,aZ (λq=>(tS.mp q).elim (λq=>by rw[show(du w h).any (fA w h (jW v).B)=false from hp.1]at q;exact nomatch q) λq=>q hp.2.2),Mu,be];by_cases ho:sI w h v.aN v.bL=true
   .rw[aF ho];have ks:=yo (d+2) mk (1-v.bL) (v'.cQ.getD (1-v.bL) 0) (v'.kinds.getD 6 0) (if 1-v.bL=0 then ka else kb) P' (m9 C'.s.1 (az (eH _ _) (by decide))) (m9 C'.k.1 (aa rfl)) (oj C' (az (eH _ _) (by decide)) (by
     rw[eb];refine bN (dO.mp S) (λq=>?_) λq=>?_
     .rw[f3.mp q];exact K.b
     .rw[q];exact K.a)) (by split;exact aq K.la dL.sN;exact aq K.lb dL.sN) (az (eH _ _) (aa rfl))
    exact nV (go (go2 (de b ho (jh (bw (ak (ag rfl) rfl (ak U rfl aY)) ks)))))
   .rw[aZ ho,aF (show(aI 4).filter (jK w h (jW v).B (jW v).aX)=[]from wn)];have q:=go (go2 (cu b (bF ho) ⟨rfl⟩));simp only[q.eq];have tl:=C'.kX;rw[eb]at tl;exact .some eb tl es er ee (by rw[<-WJ];rfl) (by rw[<-WJ];rfl) (by simp only[<-WJ];rfl)
  .rw[aZ hp]at k;have q:=nV (key:=Gr u8 rk ek sk w) (go (uR (nB p0 k)));have hn:(oA W c w h (jW v) e)=none:=by
    refine d5 λGG Y=>?_
    by_cases z1:Ca w h (jW v)=true
    .refine Y ?_;rw[oA,aF z1]
    .refine Y ?_;rw[oA,aZ z1,Mu]
     split
     .rfl
     .refine aZ λwn=>hp ⟨bF λq=>z1 (tS.mpr (.inl q)),cM.mpr λi hi=>?_,da λq=>z1 (tS.mpr (.inr q))⟩
      simp only[fX,<-gM]
      exactλq=>IE.mp wn i hi q
   refine Y ?_;exact hn▸q
end
theorem N5{C:Cx}{o:ME}{E:List V}{u:St}{ad:Nat}{v:V}{f:eM}{cl:pG}{fs:List (eM×V)}(ho:Ev C o E u (.ref ad) u)(hg:u[ad]?=some (.inst cl fs))(hm:fq C.mark ad v=true)(hl:Q6 fs.length 60=true):store C (.aS o f) v E u=.ok .next E (u.set ad (.inst cl (qt f v fs))):=by
 show(ev C o E u).then E _=_
 rw[ho.eq];have e:setAttr C.mark (.ref ad) f v u=some (u.set ad (.inst cl (qt f v fs))):=by
  show((u[ad]?).bind O.EB).bind _=_
  rw[hg];show(if fq C.mark ad v&&decide (fs.length<=60)then _ else _)=_;simp only[hm,bp (aa hl)];rfl
 show(match setAttr C.mark (.ref ad) f v u with | some u=>RX.ok .next E u | none=>.cn)=_
 rw[e]
theorem Tc{C:Cx}{e:ME}{t1 t2:Tg}{E:List V}{u po rs Tk:St}{a:Nat}{cr v:V}{ss:List MS}{r:RX}(he:Ev C e E u (.ref a) po)(h:po[a]?=some (.eY [cr,v]))(h1:store C t1 cr E po=.ok .next E rs)(h2:store C t2 v E rs=.ok .next E Tk)(hr:Xs C ss E Tk r):Xs C (.assign (.eY [t1,t2]) e::ss) E u r:=
 ⟨(by
  rw[he.eq]
  show(match po[a]? with | some (.eY vs)=>if vs.length=2 then stores C [t1,t2] vs E po else RX.cn | _=>RX.cn).next _=_
  rw[h]
  show((store C t1 cr E po).next λE u=>(store C t2 v E u).next λE u=>.ok .next E u).next _=_
  simp only[h1,RX.Jv,h2]
  exact hr.eq:((ev C e E u).then E λv u=>store C (.eY [t1,t2]) v E u).next _=_)⟩
theorem TA{C:Cx}{E:List V}{u N:St}{g z W c a:Nat}{v v':Pv}{x:V}{f:eM}(hx:x.isRef=false/\x.cD=true)(h4:eo E 4=some (.ref (u.length+1)))(hb:v.aN=v'.aN)(hk:v.kinds=v'.kinds)(S:v.cQ=v'.cQ)(hf:qt f x (mW (gE (u.length+1) g z) v)=mW (gE (u.length+1) g z) v'):
  store C (.aS (.ah 4) f) x E (gH u g z W c v a++N)=.ok .next E (gH u g z W c v' a++N):=by
 simp only[<-Mf (u:=u) (N:=N) (g:=g) (z:=z) (W:=W) (c:=c) (a:=a) hb hk S,<-hf];exact N5 (ag h4) wZ.p (by show(x.cD&&(!x.isRef||_))=true;simp only[hx.1,hx.2];rfl) rfl
theorem Eb{W c w h:Nat}{t:Told}{e:Nat}(hb:mv W c w h t e=true):oA W c w h t e=none:=by
 rw[oA,Mu,aF hb];exact ite_self _
theorem xe{W c w h:Nat}{t:Told}{e:Nat}(hb:c<e\/t.full=0):mv W c w h t e=true:=by
 unfold mv;rcases hb with q | q
 .rw[bp q,pW]
 .simp only[bp q,pW,fO,fO,fO]
section
variable{d mk w h g z W c a b:Nat}{u8:Nat->Nat->Nat}{rk ek:Nat->Nat}{sk:Nat}{u:St}{data:List Nat}{v:Pv}{ka kb:Nat}
theorem QI(dL:Sh w h)(Q:World w h g z u8 rk ek sk u)(C:xp (w*h) v)(K:kP w h v.aN ka kb)(S:v.bL<2)(hr:v.aX<16)(hep:v.ep ≠ -1->∃q,v.ep=(q:Nat)/\q<w*h):
  Hi u g z W c (Gr u8 rk ek sk w) (oA W c w h ⟨v.aN,v.bL,v.aX,v.ep,rd W b 6+64*rd W (b+22) 1,rd W (b+6) 16⟩ (b+23)) (iH ⟨af (d+5),mk⟩ (cY.drop 7) (gP u data g z) (gH u g z W c v b++[])):=by
 simp only[aP];refine d5 λGG Y=>?_
 have H0:(gH u g z W c v b)[u.length]?=some (dq W c b):=bJ (i:=0) rfl rfl
 have st0:∀x,(gH u g z W c v b).set u.length (dq W c x)=gH u g z W c v x:=λx=>dI (i:=0)
 refine bN (FS (d+3) mk u.length W c b _ H0) (λKM=>?_) λOn=>?_
 .refine jc (λt1 t2 t3=>?_) KM;simp only[st0,zH]at t3;have s1:=TA (C:=⟨af (d+5),mk⟩) (E:=gP u data g z) (N:=[.eY [.int (rd W b 6+rd W (b+22) 1*2^6:Nat),.int (rd W (b+6) 16)]]) (g:=g) (z:=z) (W:=W) (c:=c) (a:=b+23) (f:=.half) (x:=.int (rd W b 6+rd W (b+22) 1*2^6:Nat)) (v:=v) (v':={ v with half:=rd W b 6+rd W (b+22) 1*2^6 }) ⟨rfl,rfl⟩ rfl rfl rfl rfl rfl;have s2:=TA (C:=⟨af (d+5),mk⟩) (E:=gP u data g z) (N:=[.eY [.int (rd W b 6+rd W (b+22) 1*2^6:Nat),.int (rd W (b+6) 16)]]) (g:=g) (z:=z) (W:=W) (c:=c) (a:=b+23) (f:=.full) (x:=.int (rd W (b+6) 16)) (v:={ v with half:=rd W b 6+rd W (b+22) 1*2^6 }) (v':={ v with half:=rd W b 6+rd W (b+22) 1*2^6,full:=rd W (b+6) 16 }) ⟨rfl,rfl⟩ rfl rfl rfl rfl rfl;have e:Xs ⟨af (d+5),mk⟩ (cY.drop 7) (gP u data g z) (gH u g z W c v b) _:=Tc (bw ⟨rfl⟩ t3) (zH▸dR _ _) s1 s2 (Xs.mk rfl);refine Y ?_;simp only[e.eq];have F:=T8 (d:=d) (mk:=mk) (W:=W) (data:=data) (v:={ v with half:=rd W b 6+rd W (b+22) 1*2^6,full:=rd W (b+6) 16 }) (x:=.eY [.int (rd W b 6+rd W (b+22) 1*2^6:Nat),.int (rd W (b+6) 16)]) dL Q ⟨C.len,C.wH,C.k,C.s⟩ K S hr t2 hep t1;simp only[c9 64];exact F
 .obtain⟨t1,x,t2⟩:=On;rw[st0]at t2;refine Y ?_;rw[Eb (xe t1)];refine nV (N:=[]) (v':=v) (e':=x) (sw:=gP u data g z) ?_;simp only[aP];exact ip (nB ⟨rfl⟩ t2)
theorem uU{n U:Nat}{p:Nat×List Nat}(hc:c<p.1+28):jj W c w h n U p=none:=by
 have q:∀ {B:List Nat} {U r b:Nat} {ep:Int},c<b+23->wW W c w h B U r ep b=none:=λhb=>aF (xe (.inl hb))
 unfold jj
 split
 .split
  .exact q (aq hc (by rw[eQ _ n];exact aW _ _))
  .rfl
 .exact q hc
theorem T9(dL:Sh w h)(Q:World w h g z u8 rk ek sk u)(C:xp (w*h) v)(K:kP w h v.aN ka kb)(S:v.bL<2):
  Hi u g z W c (Gr u8 rk ek sk w) (if(du w h).any (fA w h v.aN)=true then none else jj W c w h (aC (w*h)) v.bL (a,v.aN)) (iH ⟨af (d+5),mk⟩ (cY.drop 4) (gP u data g z) (gH u g z W c v a++[])):=by
 refine d5 λGG Y=>?_
 have rdn:∀ {n:Nat} {cr:Pv} {x:Nat} {m:ME},(∀H,Ev ⟨af (d+5),mk⟩ m (gP u data g z) H (.int n) H)->n<64->x+n<=c->Ev ⟨af (d+5),mk⟩ (.jt (.ah 3) .take [m]) (gP u data g z) (gH u g z W c cr x++[]) (.int (rd W x n)) (gH u g z W c cr (x+n)++[]):=λhm hn hx=>fN (ag rfl) rO rfl (ak (hm _) rfl aY) (H1 hn hx)
 have none':∀ {k:Nat},k<=28->c<a+k->(if(du w h).any (fA w h v.aN)=true then none else jj W c w h (aC (w*h)) v.bL (a,v.aN))=none:=λhk q=>by
  rw[uU (aq q (bu hk a))];exact ite_self _
 have early:∀ {n:Nat} {cr:Pv} {x:Nat} {m:ME},(∀H,Ev ⟨af (d+5),mk⟩ m (gP u data g z) H (.int n) H)->c<x+n->Er ⟨af (d+5),mk⟩ (.jt (.ah 3) .take [m]) (gP u data g z) (gH u g z W c cr x++[]) (gH u g z W c cr x++[]):=λhm q=>oN (ag rfl) rO rfl (ak (hm _) rfl aY) (kA _ _ _ _ _ _ _ _ rO q)
 by_cases h4:a+4<=c
 .have s4:∀ {r:RX},Xs ⟨af (d+5),mk⟩ (cY.drop 6) (gP u data g z) (gH u g z W c { v with aX:=rd W a 4,ep:=-1 } (a+4)++[]) r->Xs ⟨af (d+5),mk⟩ (cY.drop 4) (gP u data g z) (gH u g z W c v a++[]) r:=λhr=>
   Cs (v':={ v with aX:=rd W a 4 }) (rdn (n:=4) (λJ=>dn rfl) (aa rfl) h4) ⟨rfl,rfl⟩ rfl rfl rfl rfl rfl (Cs (v':={ v with aX:=rd W a 4,ep:=-1 }) (kL bh) ⟨rfl,rfl⟩ rfl rfl rfl rfl rfl hr)
  by_cases h5:a+4+1<=c
  .have b5:=w_eq (rdn (λJ=>bC 1) (cr:={ v with aX:=rd W a 4,ep:=-1 }) (aa rfl) h5) (bC 1)
   by_cases h1:rd W (a+4) 1=1
   .have hT:(if(du w h).any (fA w h v.aN)=true then none else jj W c w h (aC (w*h)) v.bL (a,v.aN))=oA W c w h ⟨v.aN,v.bL,rd W a 4,(rd W (a+5) (aC (w*h))),rd W (a+5+aC (w*h)) 6+64*rd W (a+5+aC (w*h)+22) 1,rd W (a+5+aC (w*h)+6) 16⟩ (a+5+aC (w*h)+23):=by
     rw[jj,aF h1,oA,Ca,gA];cases (du w h).any (fA w h v.aN)
     .cases qv w h v.aN v.bL (rd W (a+5) (aC (w*h)))<;>rfl
     .rfl
    refine Y ?_;rw[hT];refine d5 λGG Y=>?_
    have H0:(gH u g z W c { v with aX:=rd W a 4,ep:=-1 } (a+5)++[])[u.length]?=some (dq W c (a+5)):=rO
    have St:=EH (W:=W) (c:=c) (v:={ v with aX:=rd W a 4,ep:=-1 }) (a:=a+5) dL Q
    refine bN (FR (d+3) mk u.length g W c (a+5) (w*h) _ _ H0 ((Q.ky _).ky _).qN.gi rfl St.rg St.z) (λKM=>?_) λOn=>?_
    .obtain⟨t1,t2,t3⟩:=KM;rw[GD]at t3;have im:=QI (d:=d) (mk:=mk) (W:=W) (c:=c) (b:=a+5+aC (w*h)) (data:=data) (v:={ v with aX:=rd W a 4,ep:=(rd W (a+5) (aC (w*h))) }) dL Q ⟨C.len,C.wH,C.k,C.s⟩ K S (j3 W a 4) λJ=>⟨_,rfl,t2⟩
     refine Y ?_;simp only[(s4 (de b5 (bp h1) (Cs (v':={ v with aX:=rd W a 4,ep:=(rd W (a+5) (aC (w*h))) }) (bw ⟨rfl⟩ t3) ⟨rfl,rfl⟩ rfl rfl rfl rfl rfl (Xs.mk rfl)))).eq];exact im
    .obtain⟨t1,x,t2⟩:=On;rw[GD]at t2;have hn:oA W c w h ⟨v.aN,v.bL,rd W a 4,(rd W (a+5) (aC (w*h))),rd W (a+5+aC (w*h)) 6+64*rd W (a+5+aC (w*h)+22) 1,rd W (a+5+aC (w*h)+6) 16⟩ (a+5+aC (w*h)+23)=none:=by
      refine bN t1 (λt1=>?_) λt1=>?_
      .exact Eb (xe (.inl (aq t1 (aW _ _))))
      .refine aF (tS.mpr (.inr λq=>?_));refine bN q (λq=>?_) λq=>?_
       .exact absurd q OL
       .simp only[gA]at q;exact fJ.mpr t1 (Ei dL.w0 q)
     refine Y ?_;simp only[hn];exact nV (s4 (de b5 (bp h1) (ip (nB ⟨rfl⟩ t2))))
   .have hT:(if(du w h).any (fA w h v.aN)=true then none else jj W c w h (aC (w*h)) v.bL (a,v.aN))=oA W c w h ⟨v.aN,v.bL,rd W a 4,-1,rd W (a+5) 6+64*rd W (a+5+22) 1,rd W (a+5+6) 16⟩ (a+5+23):=by
     rw[jj,aZ h1,oA,Ca];cases (du w h).any (fA w h v.aN)<;>rfl
    refine Y ?_;rw[hT];have im:=QI (d:=d) (mk:=mk) (W:=W) (c:=c) (b:=a+5) (data:=data) (v:={ v with aX:=rd W a 4,ep:=-1 }) dL Q ⟨C.len,C.wH,C.k,C.s⟩ K S (j3 W a 4) λq=>absurd rfl q
    simp only[(s4 (cu b5 (bP h1) (Xs.mk rfl))).eq];exact im
  .refine Y ?_;simp only[none' (k:=5) (aa rfl) (bq h5)];exact nV (s4 (Qk (QO (early (λJ=>bC 1) (bq h5)))))
 .refine Y ?_;simp only[none' (aa rfl) (bq h4)];exact nV (ip (early (n:=4) (λJ=>dn rfl) (bq h4)))
end
section
variable{d mk w h g z W c:Nat}{u8:Nat->Nat->Nat}{rk ek:Nat->Nat}{sk:Nat}{u:St}{data:List Nat}{v v':Pv}{ka kb:Nat}
theorem two_cor(hb:v.aN=aw (w*h) 0)(hk:v.kinds=aw 7 0)(S:v.cQ=[0,0])(la:ka<w*h)(lb:kb<w*h)(ne:ka≠kb):xp (w*h) (dU u8 (dU u8 v 6 ka) 14 kb)/\∀s,(dU u8 (dU u8 v 6 ka) 14 kb).aN.getD s 0=if kb=s then 14 else if ka=s then 6 else 0:=by
 have z:∀s,v.aN.getD s 0=0:=λs=>by
  simp only[hb,bf,lS]
  split<;>rfl
 have C:xp (w*h) v:=⟨by simp only[hb,cX],λp hp=>.inl (by rw[hb]at hp;exact rY hp),by simp only[hk,hb];exact kK λJ=>rfl,by simp only[S,hb];exact kK λJ=>rfl⟩
 have C1:=C.put u8 la (z ka) (p:=6) (aa rfl) (aa rfl) (aa rfl)
 have g1:∀s,(dU u8 v 6 ka).aN.getD s 0=if ka=s then 6 else 0:=λs=>by
  refine(ju (C.len▸la)).trans ?_;rw[z]
 refine⟨C1.put u8 lb ((g1 ..).trans (aZ ne)) (aa rfl) (aa rfl) (aa rfl),λs=>?_⟩;refine(ju (C1.len▸lb)).trans ?_;rw[g1]
theorem two_kings{B B':List Nat}(la:ka<w*h)(lb:kb<w*h)(ne:ka≠kb)(hB:∀s,B.getD s 0=if kb=s then 14 else if ka=s then 6 else 0)(keep:∀s,B'.getD s 0%8=6\/B.getD s 0%8=6->B'.getD s 0=B.getD s 0):kP w h B' ka kb:=by
 refine⟨la,lb,λs=>⟨λe=>?_,λe=>?_⟩,λs=>⟨λe=>?_,λe=>?_⟩⟩
 .have k:=keep s (.inl (by rw[e]))
  rw[e,hB]at k
  split at k
  .exact nomatch k
  .split at k
   .rename_i q;exact q.symm
   .exact nomatch k
 .subst e;have b:B.getD s 0=6:=by rw[hB,aZ (Ne.symm ne),aF rfl]
  refine(keep s (.inr (by rw[b]))).trans ?_;rw[b]
 .have k:=keep s (.inl (by rw[e]))
  simp only[e,hB]at k
  split at k
  .rename_i q;exact q.symm
  .split at k<;>exact nomatch k
 .subst e;have b:B.getD s 0=14:=by rw[hB,aF rfl]
  refine(keep s (.inr (by rw[b]))).trans ?_;rw[b]
theorem BY(dL:Sh w h)(hb:v.aN=aw (w*h) 0)(hk:v.kinds=aw 7 0)(S:v.cQ=[0,0])(IN:v.bL=rd W 0 1):
  match oP W (w*h) u8 (du w h) 1 v with
  | some (a',v')=>xp (w*h) v'/\(kP w h v'.aN (rd W 1 (aC (w*h))) (rd W (1+aC (w*h)) (aC (w*h)))/\rd W 1 (aC (w*h))≠rd W (1+aC (w*h)) (aC (w*h))/\eN W [rd W 1 (aC (w*h)),rd W (1+aC (w*h)) (aC (w*h))] u8 (du w h) (1+aC (w*h)+aC (w*h)) (dU u8 (dU u8 v 6 (rd W 1 (aC (w*h)))) 14 (rd W (1+aC (w*h)) (aC (w*h))))=some (a',v'))/\v'.bL=rd W 0 1/\kv W c w h=if(du w h).any (fA w h v'.aN)=true then none else jj W c w h (aC (w*h)) v'.bL (a',v'.aN)
  | none=>kv W c w h=none:=by
 unfold oP;by_cases hq:rd W 1 (aC (w*h))<w*h/\rd W (1+aC (w*h)) (aC (w*h))<w*h/\rd W 1 (aC (w*h))≠rd W (1+aC (w*h)) (aC (w*h))
 .rw[aF hq];refine jc (λla lb ne=>?_) hq;have lr:kv W c w h=(qX W w h (1+aC (w*h)+aC (w*h),((aw (w*h) 0).set (rd W 1 (aC (w*h))) 6).set (rd W (1+aC (w*h)) (aC (w*h))) 14)).bind (jj W c w h (aC (w*h)) (rd W 0 1)):=aZ λq=>q.elim ne λq=>q.elim (jG.mpr la) (jG.mpr lb)
  rw[lr];refine cJ (λC hB=>?_) (two_cor (u8:=u8) hb hk S la lb ne);have cl:=BV (W:=W) (w:=w) (h:=h) (u8:=u8) (a:=1+aC (w*h)+aC (w*h)) C (λs=>vJ) (xB dL.ok) (λs J=>by
   rw[hB];by_cases q:[rd W 1 (aC (w*h)),rd W (1+aC (w*h)) (aC (w*h))].contains s=true
   .refine(aF q).mpr ?_;rw[cg]at q;refine bN (aO.mp q) (λq=>?_) λq=>?_
    .rw[q,aZ (Ne.symm ne),aF rfl]
    .rw[bM.mp q,aF rfl]
   .refine(aZ q).mpr ?_;rw[cg]at q;refine(aZ (λe=>q (by exact e▸(.tail _ (.head _))))).trans ?_;rw[aZ (λe=>q (by exact e▸(.head _)))])
  have eb:(dU u8 (dU u8 v 6 (rd W 1 (aC (w*h)))) 14 (rd W (1+aC (w*h)) (aC (w*h)))).aN=((aw (w*h) 0).set (rd W 1 (aC (w*h))) 6).set (rd W (1+aC (w*h)) (aC (w*h))) 14:=by rw[<-hb];rfl
  rw[eb,<-FY]at cl;cases hr:eN W [rd W 1 (aC (w*h)),rd W (1+aC (w*h)) (aC (w*h))] u8 (du w h) (1+aC (w*h)+aC (w*h)) (dU u8 (dU u8 v 6 (rd W 1 (aC (w*h)))) 14 (rd W (1+aC (w*h)) (aC (w*h))))with
  | none=>
   simp only[hr]at cl;show Option.bind _ _=none;rw[cl];rfl
  | some p=>
   rw[hr]at cl;have U:=cl.bL.trans IN;refine⟨cl.GP,⟨two_kings la lb ne hB cl.keep,ne,rfl⟩,U,?_⟩;rw[cl.BA,U]
   split<;>rfl
 .rw[aZ hq];refine aF ?_;refine d5 λGG Y=>?_
  by_cases e:rd W 1 (aC (w*h))=rd W (1+aC (w*h)) (aC (w*h))
  .refine Y ?_;exact .inl e
  .refine Y ?_;refine .inr (da λq=>hq ?_)
   replace q:=not_or.mp q;rw[jG,jG]at q
   exact⟨q.1,q.2,e⟩
theorem Ua(dL:Sh w h)(Q:World w h g z u8 rk ek sk u)(hd:∀b∈data,b<256)(hl:data.length<=100)(hm:mk<=u.length):
  Hi u g z (cK data) (8*data.length) (Gr u8 rk ek sk w) (kv (cK data) (8*data.length) w h) (iH ⟨af (d+5),mk⟩ cY [.bytes data,.ref g,.ref z,.av,.av] u):=by
 refine d5 λGG Y=>?_
 have UR:=Gg (d:=d+4) (mk:=mk) (E:=[.bytes data,.ref g,.ref z,.av,.av]) (e:=.ah 0) (ag (u:=u) rfl) hd (ae hl (aa rfl))
 have pos:=HJ (d:=d+4) (E:=[.bytes data,.ref g,.ref z,.ref u.length,.av]) (e1:=.ah 1) (e2:=.ah 2) (u:=u++[dq (cK data) (8*data.length) 0]) (ag rfl) (ag rfl) (bv Q.qN.gi) rfl (ae dL.sN (aa rfl)) (by simp only[aj];exact Q5 hm)
 simp only[am,aj,show u++([dq (cK data) (8*data.length) 0]++TN (u.length+[dq (cK data) (8*data.length) 0].length) g z (w*h))=gH u g z (cK data) (8*data.length) (j6 (w*h)) 0++[]from(aP _).symm]at pos;have st:∀ {r:RX},Xs ⟨af (d+5),mk⟩ (cY.drop 2) (gP u data g z) (gH u g z (cK data) (8*data.length) (j6 (w*h)) 0++[]) r->Xs ⟨af (d+5),mk⟩ cY [.bytes data,.ref g,.ref z,.av,.av] u r:=λhr=>bG UR rfl rfl (bG pos rfl rfl hr)
 generalize hW:cK data=W at *;generalize hc:8*data.length=c at *;have bl:=BY (c:=c) (u8:=u8) (v:={ j6 (w*h)with bL:=rd W 0 1 }) dL rfl rfl rfl rfl;by_cases h1:0+1<=c
 .have St:=EH (W:=W) (c:=c) (v:={ j6 (w*h)with bL:=rd W 0 1 }) (a:=1) dL Q
  have s2:∀ {r:RX},Xs ⟨af (d+5),mk⟩ (cY.drop 3) (gP u data g z) (gH u g z W c { j6 (w*h)with bL:=rd W 0 1 } 1++[]) r->Xs ⟨af (d+5),mk⟩ (cY.drop 2) (gP u data g z) (gH u g z W c (j6 (w*h)) 0++[]) r:=λhr=>
   Cs (v':={ j6 (w*h)with bL:=rd W 0 1 }) (fN (ag rfl) rO rfl ⟨rfl⟩ (H1 (n:=1) (aa rfl) h1)) ⟨rfl,rfl⟩ rfl rfl rfl rfl rfl hr
  have ar:yv ⟨af (d+5),mk⟩ [.ah 3,.ah 4] (gP u data g z) (gH u g z W c { j6 (w*h)with bL:=rd W 0 1 } 1++[]) [.ref u.length,.ref (gE (u.length+1) g z).p] (gH u g z W c { j6 (w*h)with bL:=rd W 0 1 } 1++[]):=ak (ag rfl) rfl ⟨rfl⟩
  simp only[aP]at ar;refine bN (AP (w:=W) (c:=c) (v:={ j6 (w*h)with bL:=rd W 0 1 }) (a:=1) St (d+2) mk ⟨cX,rfl,rfl⟩) (λKM=>?_) λOn=>?_
  .refine iJ KM λa' v'=>mT λe1 e2 e3 e4=>?_;simp only[HX,HX]at e4
   rw[e1]at bl;refine mT (λC Go U lr=>?_) bl;refine cJ (λK _=>?_) Go;have D:=T9 (d:=d) (mk:=mk) (W:=W) (c:=c) (a:=a') (data:=data) dL Q C K (U▸j3 W 0 1);simp only[<-lr]at D;refine Y ?_;refine(st (s2 ?_)).eq▸D;simp only[aP,aP];exact gb (bw ar e4) ⟨rfl⟩
  .obtain⟨e1,a',v',e2⟩:=On;simp only[HX,HX]at e2;have hn:kv W c w h=none:=by
    refine d5 λGG Y=>?_
    refine Y ?_;cases hb:oP W (w*h) u8 (du w h) 1 { j6 (w*h)with bL:=rd W 0 1 }with
    | none=>simp only[hb]at bl;exact bl
    | some p=>
     rw[hb]at bl;refine bl.2.2.2.trans ?_;rw[uU (aq (e1 _ _ hb) (aW _ _))];exact ite_self _
   refine Y ?_;simp only[hn];refine nV (N:=[]) (sw:=gP u data g z) (st (s2 ?_)) (v':=v') (e':=a');simp only[aP,aP];exact uR (nB ar e2)
 .have hn:kv W c w h=none:=by
   refine ny (oP W (w*h) u8 (du w h) 1 { j6 (w*h)with bL:=rd W 0 1 }) (λhb=>?_) λp hb=>?_
   .rw[hb]at bl;exact bl
   ·
    rw[hb]at bl;refine bl.2.2.2.trans ?_;rw[uU (aq (bq h1) (by skip;exact ae (aa rfl) (jO 28 _)))];exact ite_self _
  refine Y ?_;simp only[hn];exact nV (st (ip (oN (ag rfl) rO rfl ⟨rfl⟩ (kA _ _ _ _ _ _ _ _ rO (bq h1)))))
end
noncomputable def jE(B ks:List Nat)(s:Nat):List Nat:=if ks.contains s=true then[]else gW (B.getD s 0)
noncomputable def f9(ep:Int)(n:Nat):List Nat:=if ep<0 then dW 0 1 else dW 1 1++dW ep.toNat n
noncomputable def iA(w h:Nat)(t:Told)(ka kb:Nat):List Nat:=
 dW t.bL 1++dW ka (aC (w*h))++dW kb (aC (w*h))++(du w h).flatMap (jE t.B [ka,kb])++dW t.aX 4++f9 t.ep (aC (w*h))++eO t.half t.full
theorem zY{B ks:List Nat}{l:List Nat}:nj (l.flatMap (jE B ks)):=λb hb=>by
 refine cP (sr.mp hb) λs=>cJ λ_ h=>?_
 unfold jE at h
 split at h
 .nomatch h
 .exact uB _ b h
theorem wh(p:Nat):(gW p).length<=5:=by
 unfold gW
 split
 .skip;decide
 .simp only[aj,aj,cz,cz,cz];decide
theorem xb{B ks:List Nat}:∀l:List Nat,(l.flatMap (jE B ks)).length<=5*l.length
 | []=>cH _
 | s::l=>by
  simp only[cv,aj,b9]
  refine cE (xb l) ?_
  unfold jE
  split
  .exact fe _
  .exact wh _
noncomputable def Wa:List MS:=[.fB (.cy (.ah 4) [.Km] [(.ah 3)]) [.kx (.call .y0 [(.ah 2),(.sub (.aS (.ah 0) .aN) (.ah 4))])] []]
section
variable{A:Ad}{v:Pv}{d mk w h ka kb:Nat}{u N:St}{L:List Nat}
theorem Ct{L':List Nat}:(u++wr L::N).set u.length (wr L')=u++wr L'::N:=dI (i:=0)
theorem Jn{b:Nat}{ord:O}(P:eV A v u)(hl:v.aN.length=w*h)(TE:w*h<=64)(hm:∀p∈v.aN,k9 p)(hk:N[0]?=some (aR [ka,kb]))(ho:N[b]?=some ord):∀(l L:List Nat) (y:V),nj L->L.length+5*l.length<=900->(∀s∈l,s<w*h) ->
  ∃y',forLoop (body ⟨af (d+2),mk⟩ (.ah 4) Wa) (some (u.length+(b+1),ord)) (l.map λn:Nat=>V.int n) [.ref A.p,.ref A.g,.ref u.length,.ref (u.length+1),y] (u++wr L::N)=.ok .next [.ref A.p,.ref A.g,.ref u.length,.ref (u.length+1),y'] (u++wr (L++l.flatMap (jE v.aN [ka,kb]))::N):=by
 intro l;induction l with
 | nil=>exactλL y J J J=>⟨y,by rw[gL,aP];exact jl (bp (bJ rfl ho))⟩
 | cons s l ih=>
  intro L y hL hn S;have lt:=S s (.head _);have c:=dg (ag (C:=⟨af (d+2),mk⟩) (E:=[.ref A.p,.ref A.g,.ref u.length,.ref (u.length+1),.int s]) (u:=u++wr L::N) (j:=4) rfl) (gf (ag (j:=3) rfl) (Ie (bJ (i:=1) rfl hk) s));have hn':L.length+5+5*l.length<=900:=by simp only[dh,kE]at hn;rw[eQ];exact hn
  rw[cv];by_cases q:[ka,kb].contains s=true
  .rw[show jE v.aN [ka,kb] s=[]from aF q];refine cP (ih L (.int s) hL (ae (bI (aW _ 5) _) hn') λs hs'=>S s (.tail _ hs')) λy' e=>?_
   exact⟨y',dE (bp (bJ rfl ho)) (cA rfl rfl (cu (c.to (by rw[q];rfl)) rfl dQ)) e⟩
  .have cw:jE v.aN [ka,kb] s=gW (v.aN.getD s 0):=aZ q
   rw[cw];have om:=hm _ (bU (getD_at hl lt));have pc:=Ol d mk u.length (v.aN.getD s 0) L (u++wr L::N) (bJ (i:=0) rfl rfl) hL (ae (aW _ _) (ae hn (aa rfl))) (om.imp id λq e=>by rw[e]at q;exact absurd q.2.1 (bc rfl));simp only[Ct]at pc;obtain⟨y',e⟩:=ih (L++gW (v.aN.getD s 0)) (.int s) (hL.ky (uB _)) (by rw[aj];exact ae (bI (bu (wh _) _) _) hn') λs hs'=>S s (.tail _ hs')
   rw[am]at e;refine⟨y',dE (bp (bJ rfl ho)) (cA rfl rfl (de (c.to (by rw[bF q];rfl)) rfl (gb (bw (ak (ag rfl) rfl (ak (et (bg (ag rfl) (bv P.p) rfl) (ag rfl) (bv P.b) (aq lt (ae TE (aa rfl))) (getD_at hl lt)) rfl aY)) pc) dQ))) e⟩
theorem Gf{E:List V}:Ev ⟨af (d+1),mk⟩ (.new .ot []) E u (.ref u.length) (u++[wr []]):=by
 refine HB aY rfl ?_;show af (d+1) mk .tz [.ref u.length] (u++[.inst .ot []])=_;refine b6 qE [.ref u.length] rfl rfl rfl rfl (jB bh rfl rfl rfl (jB bh rfl rfl rfl dQ)) ?_;show RE.ok _ _=_;exact aM _ (br (by simp only[aj,aj];exact cH _))
end
theorem CK{w h:Nat}{t:Told}{ka kb:Nat}:nj (iA w h t ka kb):=by
 unfold iA f9 eO;refine((((((dw _ _).ky (dw _ _)).ky (dw _ _)).ky zY).ky (dw _ _)).ky ?_).ky ((((dw _ _).ky (dw _ _)).ky (dw _ _)).ky (dw _ _))
 split
 .exact dw _ _
 .exact(dw _ _).ky (dw _ _)
section
variable{A:Ad}{v:Pv}{d mk w h ka kb:Nat}{u N:St}{L:List Nat}
theorem CH{E:List V}{m e:ME}{x n:Nat}(h2:eo E 2=some (.ref u.length))(hm:Ev ⟨af (d+1),mk⟩ m E (u++wr L::N) (.int x) (u++wr L::N))(he:Ev ⟨af (d+1),mk⟩ e E (u++wr L::N) (.int n) (u++wr L::N))(hL:nj L)(hl:L.length<=1000)(hn:n<64):
  Ev ⟨af (d+1),mk⟩ (.jt (.ah 2) .put [m,e]) E (u++wr L::N) .none (u++wr (L++dW x n)::N):=by
 have t:=Li d mk u.length x n L (u++wr L::N) (bJ (i:=0) rfl rfl) hL hn (ae hl (aa rfl))
 simp only[Ct]at t;exact fN (ag h2) (bJ (i:=0) rfl rfl) rfl (ak hm rfl (ak he rfl aY)) t
theorem KY{E:List V}{m1 m:ME}{x:Nat}(dL:Sh w h)(db:Iw w h A.g u)(h2:eo E 2=some (.ref u.length))(hm1:Ev ⟨af (d+2),mk⟩ m1 E (u++wr L::N) (.ref A.g) (u++wr L::N))(hm:Ev ⟨af (d+2),mk⟩ m E (u++wr L::N) (.int x) (u++wr L::N))(hL:nj L)(hl:L.length<=1000):
  Ev ⟨af (d+2),mk⟩ (.call .mn [.ah 2,m1,m]) E (u++wr L::N) .none (u++wr (L++dW x (aC (w*h)))::N):=by
 have t:=TL d mk u.length A.g x (w*h) (Md w h A.g) L (u++wr L::N) (bJ (i:=0) rfl rfl) hL hl (bv db.gi) rfl (kB (P:=λw h=>wQ (w*h)) (.inl rfl) (.inr (.inl rfl)) (.inr (.inr (.inl rfl))) (.inr (.inr (.inr rfl))) dL.ok)
 simp only[Ct]at t;exact bw (ak (ag h2) rfl (ak hm1 rfl (ak hm rfl aY))) t
theorem TK(dL:Sh w h)(P:eV A v u)(C:xp (w*h) v)(K:kP w h v.aN ka kb)(db:Iw w h A.g u):∃y,iH ⟨af (d+4),mk⟩ ib [.ref A.p,.av,.av,.av,.av] u =
  iH ⟨af (d+4),mk⟩ (ib.drop 6) [.ref A.p,.ref A.g,.ref u.length,.ref (u.length+1),y] (u++[wr (dW v.bL 1++dW ka (aC (w*h))++dW kb (aC (w*h))++(du w h).flatMap (jE v.aN [ka,kb])),aR [ka,kb],aR (du w h)]):=by
 have TE:w*h<=64:=ae dL.sN (aa rfl)
 have n5:aC (w*h)<=5:=by unfold aC;split<;>decide
 have y:=λj (hj:j<7)=>m9 C.k.1 hj
 have x:=λj (hj:j<2)=>m9 C.s.1 hj
 have P1:=P.ky [wr (dW v.bL 1)]
 have k0:=yo (d+1) mk 0 _ _ ka P1 (x 0 (by decide)) (y 6 (by decide)) (oj C (by decide) K.a) (aq K.la dL.sN) (aa rfl)
 have k1:=yo (d+1) mk 1 _ _ kb P1 (x 1 (by decide)) (y 6 (by decide)) (oj C (by decide) K.b) (aq K.lb dL.sN) (aa rfl)
 have kl:Ev ⟨af (d+4),mk⟩ (.list [(.call .hF [(.ah 0),(.cW .lX)]),(.call .hF [(.ah 0),(.cW .nk)])]) [.ref A.p,.ref A.g,.ref u.length,.av,.av] (u++[wr (dW v.bL 1)]) (.ref (u.length+1)) (u++[wr (dW v.bL 1),aR [ka,kb]]):=by
  have q:=tL (ak (bw (f:=.hF) (ak (ag (j:=0) rfl) rfl (ak (dn (g:=.lX) (v:=.int (0:Nat)) rfl) rfl aY)) k0) rfl (ak (bw (f:=.hF) (C:=⟨af (d+4),mk⟩) (E:=[.ref A.p,.ref A.g,.ref u.length,.av,.av]) (ak (ag (j:=0) rfl) rfl (ak (dn (g:=.nk) (v:=.int (1:Nat)) rfl) rfl aY)) k1) rfl aY)) (n:=u.length+1) (by refine aj.trans ?_;rfl)
  simp only[am]at q;exact q
 have w1:=Gf (d:=d+3) (mk:=mk) (u:=u) (E:=[.ref A.p,.ref A.g,.av,.av,.av])
 have p1:=CH (d:=d+3) (mk:=mk) (N:=[]) (L:=[]) (E:=[.ref A.p,.ref A.g,.ref u.length,.av,.av]) (m:=.aS (.ah 0) .bL) (e:=.ai 1) (n:=1) rfl (bg (ag rfl) (bv P.p) rfl) bh (λJ h=>(nomatch h)) (aa rfl) (aa rfl)
 have B1:nj (dW v.bL 1):=dw _ _
 have B2:=B1.ky (dw ka (aC (w*h)))
 have B3:=B2.ky (dw kb (aC (w*h)))
 have l3:(dW v.bL 1++dW ka (aC (w*h))++dW kb (aC (w*h))).length<=11:=by
  simp only[aj,aj,cz,cz,cz];exact cE (bu n5 1) n5
 have t1:body ⟨af (d+4),mk⟩ (.ah 4) [.kx (.call .mn [(.ah 2),(.ah 1),(.ah 4)])] (.int ka) [.ref A.p,.ref A.g,.ref u.length,.ref (u.length+1),.av] (u++[wr (dW v.bL 1),aR [ka,kb]])=.ok .next [.ref A.p,.ref A.g,.ref u.length,.ref (u.length+1),.int ka] (u++[wr (dW v.bL 1++dW ka (aC (w*h))),aR [ka,kb]]):=
  cA rfl rfl (gb (KY dL db rfl (ag rfl) (ag rfl) B1 (by simp only[cz];decide)) dQ)
 have t2:body ⟨af (d+4),mk⟩ (.ah 4) [.kx (.call .mn [(.ah 2),(.ah 1),(.ah 4)])] (.int kb) [.ref A.p,.ref A.g,.ref u.length,.ref (u.length+1),.int ka] (u++[wr (dW v.bL 1++dW ka (aC (w*h))),aR [ka,kb]])=.ok .next [.ref A.p,.ref A.g,.ref u.length,.ref (u.length+1),.int kb] (u++[wr (dW v.bL 1++dW ka (aC (w*h))++dW kb (aC (w*h))),aR [ka,kb]]):=
  cA rfl rfl (gb (KY dL db rfl (ag rfl) (ag rfl) B2 (by simp only[aj,cz,cz];exact ae (bu n5 1) (aa rfl))) dQ)
 have same1:∀L,same (some (u.length+1,aR [ka,kb])) (u++[wr L,aR [ka,kb]])=true:=λL=>bp (bJ rfl rfl)
 have lp1:=dE (same1 _) t1 (dE (same1 _) t2 (jl (same1 _)))
 have od:=λL=>by
  have od:=Ek (d+3) mk A.g w h (Md w h A.g) (u++[wr L,aR [ka,kb]]) (bv db.gi) rfl rfl dL.w8 dL.h0 dL.h8
  simp only[am,aj]at od;exact od
 obtain⟨y',lp2⟩:=Jn (N:=[aR [ka,kb],aR (du w h)]) (b:=1) P C.len TE C.wH rfl rfl (du w h) _ (.int kb) B3 (ae (cE l3 (by simp only[qw,c9 h];exact bx 5 dL.sN)) (aa rfl)) λs=>vJ
 refine⟨y',Xs.eq ?_⟩;refine bG (bg (ag rfl) P.p rfl) rfl rfl (bG w1 rfl rfl (gb p1 (bG kl rfl rfl (iQ (ag rfl) (iF (bJ rfl rfl) (aa rfl)) lp1 ?_))));exact iQ (bw ⟨rfl⟩ (od _)) (iF (bJ rfl rfl) (by simp only[aB,qw];exact ae (gw dL.h8 dL.w8) (aa rfl))) lp2 ⟨rfl⟩
theorem Bk(dL:Sh w h)(P:eV A v u)(C:xp (w*h) v)(K:kP w h v.aN ka kb)(db:Iw w h A.g u)(hep:v.ep<0\/∃q,v.ep=(q:Nat)):
  af (d+5) mk .gI [.ref A.p] u=if v.half<128/\1<=v.full/\v.full<65536 then .ok (.bytes (nS (d9 (iA w h (jW v) ka kb)) (((iA w h (jW v) ka kb).length+7)/8))) u else .fY u:=by
 refine cP (TK (d:=d) (mk:=u.length) dL P C K db) λy e=>?_
 have n5:aC (w*h)<=5:=by unfold aC;split<;>decide
 have eA:iA w h (jW v) ka kb=dW v.bL 1++dW ka (aC (w*h))++dW kb (aC (w*h))++(du w h).flatMap (jE v.aN [ka,kb])++dW v.aX 4++f9 v.ep (aC (w*h))++eO v.half v.full:=rfl
 have bA:nj (dW v.bL 1++dW ka (aC (w*h))++dW kb (aC (w*h))++(du w h).flatMap (jE v.aN [ka,kb])):=(((dw _ _).ky (dw _ _)).ky (dw _ _)).ky zY
 have lA:(dW v.bL 1++dW ka (aC (w*h))++dW kb (aC (w*h))++(du w h).flatMap (jE v.aN [ka,kb])).length<=136:=by
  simp only[aj,aj,aj,cz,cz,cz];refine cE (d:=125) (cE (bu n5 1) n5) (ae (xb _) ?_);simp only[qw,c9 h];exact bx 5 dL.sN
 generalize dW v.bL 1++dW ka (aC (w*h))++dW kb (aC (w*h))++(du w h).flatMap (jE v.aN [ka,kb])=LA at e eA bA lA;have Pp:∀ {L:List Nat},(u++wr L::[aR [ka,kb],aR (du w h)])[A.p]?=some (.inst .gj (mW A v)):=bv P.p;have p1:=CH (d:=d+3) (mk:=u.length) (E:=[.ref A.p,.ref A.g,.ref u.length,.ref (u.length+1),y]) (m:=.aS (.ah 0) .aX) (e:=.cW .ni) (n:=4) rfl (bg (ag rfl) Pp rfl) (dn rfl) bA (ae lA (aa rfl)) (aa rfl);have bB:=bA.ky (dw v.aX 4);have lB:(LA++dW v.aX 4).length<=140:=by rw[aj];exact bI lA 4
 have epE:Ev ⟨af (d+4),u.length⟩ (.aS (.ah 0) .ep) [.ref A.p,.ref A.g,.ref u.length,.ref (u.length+1),y] (u++wr (LA++dW v.aX 4)::[aR [ka,kb],aR (du w h)]) (.int v.ep) (u++wr (LA++dW v.aX 4)::[aR [ka,kb],aR (du w h)]):=bg (ag rfl) Pp rfl
 have bE:nj (f9 v.ep (aC (w*h))):=by
  unfold f9
  split
  .exact dw _ _
  .exact(dw _ _).ky (dw _ _)
 have lE:(f9 v.ep (aC (w*h))).length<=6:=by
  unfold f9
  split
  .skip;decide
  .simp only[aj,cz,cz];exact bu n5 1
 have sEp:∀ {r:RX},Xs ⟨af (d+4),u.length⟩ (ib.drop 8) [.ref A.p,.ref A.g,.ref u.length,.ref (u.length+1),y] (u++wr (LA++dW v.aX 4++f9 v.ep (aC (w*h)))::[aR [ka,kb],aR (du w h)]) r->Xs ⟨af (d+4),u.length⟩ (ib.drop 6) [.ref A.p,.ref A.g,.ref u.length,.ref (u.length+1),y] (u++wr LA::[aR [ka,kb],aR (du w h)]) r:=λ{r} hr=>by
  refine gb p1 ?_;by_cases hn:v.ep<0
  .simp only[f9,aF hn]at hr;exact de (dg epE (pF bh)) (bp hn) (gb (CH (x:=0) (n:=1) rfl bh bh bB (ae lB (by decide)) (by decide)) hr)
  .refine cP (hep.resolve_left hn) λq hq=>?_
   rw[f9,aZ hn,<-am]at hr;have eq:Ev ⟨af (d+4),u.length⟩ (.aS (.ah 0) .ep) [.ref A.p,.ref A.g,.ref u.length,.ref (u.length+1),y] (u++wr (LA++dW v.aX 4++dW 1 1)::[aR [ka,kb],aR (du w h)]) (.int v.ep.toNat) (u++wr (LA++dW v.aX 4++dW 1 1)::[aR [ka,kb],aR (du w h)]):=by
    rw[fj (Fw.mp hn)];exact bg (ag rfl) Pp rfl
   exact cu (dg epE (pF bh)) (bP hn) (gb (CH (x:=1) (n:=1) rfl bh bh bB (ae lB (by decide)) (by decide)) (gb (KY dL db rfl (ag rfl) eq (bB.ky (dw 1 1)) (by rw[aj];exact ae (bI lB 1) (aa rfl))) hr))
 have lC:(LA++dW v.aX 4++f9 v.ep (aC (w*h))).length<=146:=by rw[aj];exact cE lB lE
 have ck:=Jo (d+2) u.length u.length v.half v.full _ (u++wr (LA++dW v.aX 4++f9 v.ep (aC (w*h)))::[aR [ka,kb],aR (du w h)]) (bJ (i:=0) rfl rfl) (bB.ky bE) (ae lC (aa rfl))
 have ar:yv ⟨af (d+4),u.length⟩ [.ah 2,.aS (.ah 0) .half,.aS (.ah 0) .full] [.ref A.p,.ref A.g,.ref u.length,.ref (u.length+1),y] (u++wr (LA++dW v.aX 4++f9 v.ep (aC (w*h)))::[aR [ka,kb],aR (du w h)]) [.ref u.length,.int v.half,.int v.full] (u++wr (LA++dW v.aX 4++f9 v.ep (aC (w*h)))::[aR [ka,kb],aR (du w h)]):=ak (ag rfl) rfl (ak (bg (ag rfl) Pp rfl) rfl (ak (bg (ag rfl) Pp rfl) rfl aY))
 by_cases hq:v.half<128/\1<=v.full/\v.full<65536
 .rw[aF hq]at ck ⊢;rw[Ct]at ck;have lD:(LA++dW v.aX 4++f9 v.ep (aC (w*h))++eO v.half v.full).length<=169:=by
   rw[aj];refine cE (d:=23) lC (d0 ?_);simp only[eO,aj,aj,aj,cz,cz,cz,cz]
  have oc:=Ju (d+3) u.length u.length _ _ (u++wr (LA++dW v.aX 4++f9 v.ep (aC (w*h))++eO v.half v.full)::[aR [ka,kb],aR (du w h)]) (bJ (i:=0) rfl rfl) (ae lD (aa rfl))
  rw[eA];refine b6 ib [.ref A.p,.av,.av,.av,.av] rfl rfl rfl rfl ⟨e.trans (sEp (gb (bw ar ck) (dN (fN (ag rfl) (bJ (i:=0) rfl rfl) rfl aY oc)))).eq⟩ ?_;exact aM _ (cR rfl)
 .rw[aZ hq]at ck ⊢;refine(call_exc ib [.ref A.p,.av,.av,.av,.av] rfl rfl rfl rfl ⟨e.trans (sEp (uR (nB ar ck))).eq⟩).trans ?_;rw[cR rfl]
end
inductive It(C:Cx)(e:ME)(E:List V)(H:St)(f4:List Nat):Prop
 | mk (N:St) (h:Ev C e E H (.ref (H.length+N.length)) (H++(N++[aR f4])))
section
variable{C:Cx}{E:List V}{H:St}{f4 f8:List Nat}{a b e:ME}
theorem vO{n:Nat}(h:Ev C e E H (.int n) H):It C (.list [e]) E H [n]:=.mk [] (iS (ak h rfl aY))
theorem vP{d mk v n:Nat}(ha:Ev ⟨af (d+1),mk⟩ a E H (.int v) H)(hb:Ev ⟨af (d+1),mk⟩ b E H (.int n) H)(hn:n<30):It ⟨af (d+1),mk⟩ (.call .nL [a,b]) E H (dW v n):=
 .mk [] (bw (ak ha rfl (ak hb rfl aY)) (Gn d mk v n H hn))
theorem vQ(ha:It C a E H f4)(hb:∀N,It C b E (H++N) f8)(hl:f4.length+f8.length<=hV):It C (.aQ .ei a b) E H (f4++f8):=by
 cases ha with | mk N ha=>
 cases hb (N++[aR f4])with | mk SZ hb=>
 refine .mk (N++[aR f4]++SZ++[aR f8]) ?_;have g1:(H++(N++[aR f4])++(SZ++[aR f8]))[H.length+N.length]?=some (aR f4):=bv (bJ rfl gm);have g2:(H++(N++[aR f4])++(SZ++[aR f8]))[(H++(N++[aR f4])).length+SZ.length]?=some (aR f8):=bJ rfl gm;have q:=yX ha hb (add_lists g1 g2 (by simp only[aB,aB];exact hl));rw[<-cb]at q;simp only[am,aj]at q ⊢;exact q
theorem LF{q:MB}(hq:Bo C q E H true H)(h:It C a E H f4):It C (.ite q a b) E H f4:=by
 cases h with | mk N h=>exact .mk N (md hq rfl h)
theorem LG{q:MB}(hq:Bo C q E H false H)(h:It C b E H f4):It C (.ite q a b) E H f4:=by
 cases h with | mk N h=>exact .mk N (mf hq rfl h)
theorem OS{n x:Nat}(ha:∀H,Ev C a E H (.int x) H)(hb:∀N,Ev C b E (H++N) (.int n) (H++N))(hn:n<=4096):It C (.aQ .fm (.list [a]) b) E H (aw n x):=by
 have q:=yW (iS (ak (ha H) rfl aY)) hn (hb _)
 rw[show aw n (V.int x)=(aw n x).map λn:Nat=>V.int n by simp only[ql]]at q;exact .mk [.list [.int x]] q
noncomputable def oH(u:St)(x0 x1 x2 x3:O)(L:List Nat)(db:St):St:=u++x0::x1::x2::x3::aR L::db
variable{u db:St}{x0 x1 x2 x3:O}{L:List Nat}
theorem zi(N:St):oH u x0 x1 x2 x3 L db++N=oH u x0 x1 x2 x3 L (db++N):=by unfold oH;simp only[am];rfl
theorem zh:(oH u x0 x1 x2 x3 L db)[u.length+4]?=some (aR L):=bJ rfl rfl
theorem Ge:(oH u x0 x1 x2 x3 L db).length=u.length+(db.length+5):=by simp only[oH,aj];rfl
theorem yE{ss:List MS}(h9:eo E 9=some (.ref (u.length+4)))(he:It C e E (oH u x0 x1 x2 x3 L db) f4)(hl:L.length+f4.length<=hV)(S:E.set 9 (.ref (u.length+4))=E)(h10:9<E.length):
  ∃G',Xs C (.ig (.ah 9) .ei e::ss) E (oH u x0 x1 x2 x3 L db) (iH C ss E (oH u x0 x1 x2 x3 (L++f4) (db++G'))):=by
 cases he with | mk N he=>
 refine⟨N++[aR f4],?_⟩;simp only[zi]at he;have g1:(oH u x0 x1 x2 x3 L (db++(N++[aR f4])))[(oH u x0 x1 x2 x3 L db).length+N.length]?=some (aR f4):=by
  rw[<-zi];exact bJ rfl gm
 have ne:u.length+4≠(oH u x0 x1 x2 x3 L db).length+N.length:=by rw[Ge];lia
 have au:ng C.mark .ei (.ref (u.length+4)) (.ref ((oH u x0 x1 x2 x3 L db).length+N.length)) (oH u x0 x1 x2 x3 L (db++(N++[aR f4])))=.ok (.ref (u.length+4)) (oH u x0 x1 x2 x3 (L++f4) (db++(N++[aR f4]))):=by
  show dT ((.ei:Op)=.ei) (dc (((oH u x0 x1 x2 x3 L (db++(N++[aR f4])))[u.length+4]?).bind O.lO) λxs=>dc (((oH u x0 x1 x2 x3 L (db++(N++[aR f4])))[(oH u x0 x1 x2 x3 L db).length+N.length]?).bind O.lO) λys=>dT (xs.length+ys.length<=hV/\u.length+4≠(oH u x0 x1 x2 x3 L db).length+N.length/\ys.all (fq C.mark (u.length+4))=true) (RE.ok (V.ref (u.length+4)) ((oH u x0 x1 x2 x3 L (db++(N++[aR f4]))).set (u.length+4) (.list (xs++ys)))))=_
  rw[zh,g1];refine(aF rfl).trans ((aF ⟨by simp only[aB,aB];exact hl,ne,by refine IG.trans ?_;exact cM.mpr λJ J=>rfl⟩).trans ?_);rw[show(oH u x0 x1 x2 x3 L (db++(N++[aR f4]))).set (u.length+4) _=_ from dI,<-cb];rfl
 refine⟨?_⟩;show((ev C (.ah 9) E _).then E λx u=>(ev C e E u).then E λy u=>(ng C.mark .ei x y u).then E λz u=>if 9<E.length/\z.cD then .ok .next (E.set 9 z) u else .cn).next _=_;simp only[(ag h9).eq,RE.iL,he.eq,RE.iL,au];show(if 9<E.length/\(V.ref (u.length+4)).cD then RX.ok .next (E.set 9 (.ref (u.length+4))) _ else .cn).next _=_;rw[aF ⟨h10,rfl⟩,S];rfl
end
noncomputable def mI(m:Nat):List Nat:=if m=0 then[0]else if m%8=6 then[]else[1]++dW (m%8-1) 3++[m/8]
noncomputable def iB:List MS:=[.fB (.cy (.ah 11) [.eq] [(.ai 0)]) [.kx (.lm (.ah 9) .append [(.ai 0)])] [.fB (.cy (.aQ .iq (.ah 11) (.ai 8)) [.ne] [(.ai 6)]) [.ig (.ah 9) .ei (.aQ .ei (.aQ .ei (.list [(.ai 1)]) (.call .nL [(.aQ .sub (.aQ .iq (.ah 11) (.ai 8)) (.ai 1)),(.ai 3)])) (.list [(.aQ .ey (.ah 11) (.ai 8))]))] []]]
noncomputable def AS(l w h a:Nat)(U:Nat)(rt:Nat)(ep:Int)(hf fl n:Nat)(y m:V):List V:=[.int w,.int h,.ref a,.int U,.int rt,.int ep,.int hf,.int fl,.int n,.ref (l+4),y,m,.av,.av]
theorem LZ{mk a k x:Nat}{B:List Nat}{u:St}(h:u[a]?=some (aR B))(hl:B.length<=hV)(hk:k<B.length)(hu:∀s,B.getD s 0=x↔s=k):iC mk (.ref a) .index [.int x] u=.ok (.int k) u:=by
 have m:(x:Int)∈B.map λn:Nat=>(n:Int):=bj.mpr ⟨x,by
  have:=bU (getD_at rfl hk)
  rwa [(hu k).mpr rfl]at this,rfl⟩
 have li:=List.idxOf_lt_length_of_mem m
 have e:(B.map λn:Nat=>(n:Int)).idxOf (x:Int)=k:=by
  refine(hu _).mp ?_;have g:=ND li;rw[AG]at g;refine bf.trans ?_;rw[cO (by simp only[aB]at li;exact li)];exact f5.mp g
 show dc ((u[a]?).bind O.lO) (λvs=>dT (vs.length<=hV) (dc (zc [V.int x]) λx=>dc x.pE λi=>dc (jf vs) λl=>dT (l.contains i=true) (RE.ok (V.int (l.idxOf i)) u)))=_
 rw[h];refine(aF (by rw[aB];exact hl)).trans ?_;rw[kN];refine(aF (cg.mpr m)).trans ?_;rw[e]
theorem Eo(m:Nat):(mI m).length<=5:=by
 unfold mI
 split
 .exact aa rfl
 .split
  .exact fe _
  .skip;exact cH _
section
variable{d mk w h a U rt hf fl n:Nat}{ep:Int}{u:St}{x0 x1 x2 x3:O}{B:List Nat}
theorem ON{o:O}{ad:Nat}:∀(ms L:List Nat) (db:St) (y m:V),L.length+5*ms.length<=900->(∀x∈ms,x=0\/1<=x%8)->(∀L G',(oH u x0 x1 x2 x3 L (db++G'))[ad]?=some o) ->
  ∃G' m',forLoop (body ⟨af (d+1),mk⟩ (.ah 11) iB) (some (ad,o)) (ms.map λn:Nat=>V.int n) (AS u.length w h a U rt ep hf fl n y m) (oH u x0 x1 x2 x3 L db)=.ok .next (AS u.length w h a U rt ep hf fl n y m') (oH u x0 x1 x2 x3 (L++ms.flatMap mI) (db++G')):=by
 intro ms;induction ms with
 | nil=>exactλL db y m J J S=>⟨[],m,by simp only[gL,aP,aP];exact jl (bp (by have:=S L [];rwa [aP]at this))⟩
 | cons x ms ih=>
  intro L db y m hn hm S;have hn':L.length+5+5*ms.length<=900:=by simp only[dh,kE]at hn;rw[eQ];exact hn
  have same':=bp (by have:=S L [];rwa [aP]at this)
  have next:∀f4 G1,f4.length<=5->mI x=f4->body ⟨af (d+1),mk⟩ (.ah 11) iB (.int x) (AS u.length w h a U rt ep hf fl n y m) (oH u x0 x1 x2 x3 L db)=.ok .next (AS u.length w h a U rt ep hf fl n y (.int x)) (oH u x0 x1 x2 x3 (L++f4) (db++G1)) ->
    ∃G' m',forLoop (body ⟨af (d+1),mk⟩ (.ah 11) iB) (some (ad,o)) ((x::ms).map λn:Nat=>V.int n) (AS u.length w h a U rt ep hf fl n y m) (oH u x0 x1 x2 x3 L db)=.ok .next (AS u.length w h a U rt ep hf fl n y m') (oH u x0 x1 x2 x3 (L++(x::ms).flatMap mI) (db++G')):=λf4 G1 hM e hb=>by
   obtain⟨G',m',q⟩:=ih (L++f4) (db++G1) y (.int x) (aj▸ae (bI (bu hM _) _) hn') (λx hx=>hm x (.tail _ hx)) λL G'=>by rw[am];exact S L _
   simp only[cv,e,<-am];simp only[am db]at q;exact⟨_,m',dE same' hb q⟩
  have c1:∀ {H:St},Bo ⟨af (d+1),mk⟩ (.cy (.ah 11) [.eq] [(.ai 0)]) (AS u.length w h a U rt ep hf fl n y (.int x)) H (decide (x=0)) H:=w_eq (ag rfl) (bC 0)
  have x8:∀ {H:St},Ev ⟨af (d+1),mk⟩ (.aQ .iq (.ah 11) (.ai 8)) (AS u.length w h a U rt ep hf fl n y (.int x)) H (.int (x%8:Nat)) H:=je (ag rfl) (bC 8) (by decide)
  have c2:∀ {H:St},Bo ⟨af (d+1),mk⟩ (.cy (.aQ .iq (.ah 11) (.ai 8)) [.ne] [(.ai 6)]) (AS u.length w h a U rt ep hf fl n y (.int x)) H (!decide (x%8=6)) H:=uc x8 (bC 6)
  have lL:=ae (aW _ _) hn
  by_cases h0:x=0
  .refine next [0] [] (aa rfl) (aF h0) ?_;have ap:=wV (mk:=mk) (v:=.int 0) (zh (u:=u) (x0:=x0) (x1:=x1) (x2:=x2) (x3:=x3) (db:=db)) (by rw[aB];exact ae lL (aa rfl)) rfl;rw[show(oH u x0 x1 x2 x3 L db).set (u.length+4) _=_ from dI,show(L.map λn:Nat=>V.int n)++[V.int 0]=(L++[0]).map λn:Nat=>V.int n by simp only[cb];rfl]at ap;simp only[aP];exact cA rfl rfl (de c1 (bp h0) (gb (Jl (ag rfl) zh ⟨rfl⟩ ap) dQ))
  .by_cases h6:x%8=6
   .refine next [] [] (aa rfl) ((aZ h0).trans (aF h6)) ?_;simp only[aP,aP];exact cA rfl rfl (cu c1 (bP h0) (cu c2 (aM _ (bp h6)) dQ))
   .have x1':=(hm x (.head _)).resolve_left h0
    have ls:It ⟨af (d+1),mk⟩ (.aQ .ei (.aQ .ei (.list [(.ai 1)]) (.call .nL [(.aQ .sub (.aQ .iq (.ah 11) (.ai 8)) (.ai 1)),(.ai 3)])) (.list [(.aQ .ey (.ah 11) (.ai 8))])) (AS u.length w h a U rt ep hf fl n y (.int x)) (oH u x0 x1 x2 x3 L db) ([1]++dW (x%8-1) 3++[x/8]):=
     vQ (vQ (vO (bC 1)) (λN=>vP (iT x8 (bC 1) x1') (bC 3) (aa rfl)) (by rw[cz];decide)) (λN=>vO ⟨rfl⟩) (by skip;exact aa rfl)
    refine cP (yE (ss:=[]) rfl ls (by skip;exact ae (bI lL _) (aa rfl)) rfl (aa rfl)) λG1 g=>?_
    exact next _ G1 (by skip;exact cH _) ((aZ h0).trans (aZ h6)) (cA rfl rfl (cu c1 (bP h0) (de c2 (aM _ (bP h6)) g)))
theorem K3(hB:∀L db,(oH u x0 x1 x2 x3 L db)[a]?=some (aR B))(hl:B.length=w*h)(w8:w<=8)(h8:h<=8)(hm:∀x∈B,k9 x):∀(ys:List Nat) (L:List Nat) (db:St) (y m:V),(∀i∈ys,i<h)->L.length+40*ys.length<=900 ->
  ∃G' y' m',forLoop (body ⟨af (d+1),mk⟩ (.ah 10) [.for (.ah 11) (.slice (.ah 2) (some (.aQ .fm (.aQ .sub (.aQ .sub (.ah 1) (.ai 1)) (.ah 10)) (.ah 0))) (some (.aQ .fm (.aQ .sub (.ah 1) (.ah 10)) (.ah 0)))) iB]) none (ys.map λn:Nat=>V.int n) (AS u.length w h a U rt ep hf fl n y m) (oH u x0 x1 x2 x3 L db) =
   .ok .next (AS u.length w h a U rt ep hf fl n y' m') (oH u x0 x1 x2 x3 (L++ys.flatMap λi=>(cut B ((h-1-i)*w) ((h-i)*w)).flatMap mI) G'):=by
 intro ys;induction ys with
 | nil=>exactλL db y m J J=>⟨db,y,m,by rw[gL,aP];rfl⟩
 | cons i ys ih=>
  intro L db y m hi hn;have lt:=hi i (.head _);have hn':L.length+40+40*ys.length<=900:=by simp only[dh,kE]at hn;rw[eQ];exact hn
  have hl':=hl▸gw w8 h8
  have cl:(cut B ((h-1-i)*w) ((h-i)*w)).length<=8:=by
   simp only[cut,AF,eZ];refine ae (Nat.sub_le_sub_right (DA _ _) _) ?_;rw[<-VX];refine ae (i3 w ((P2 h 1 i)▸Nat.sub_le_iff_le_add.mpr (Kh.mp (cH _)):h-i-(h-1-i)<=1)) ?_;rw[Ce];exact w8
  refine d5 λGG Y=>?_
  have hi':∀ {H:St},Ev ⟨af (d+1),mk⟩ (.aQ .fm (.aQ .sub (.ah 1) (.ah 10)) (.ah 0)) (AS u.length w h a U rt ep hf fl n (.int i) m) H (.int ((h-i)*w:Nat)) H:=gr (iT (ag rfl) (ag rfl) (dZ lt)) (ag rfl) (az (eH _ _) (az h8 (by decide)))
  have lo':∀ {H:St},Ev ⟨af (d+1),mk⟩ (.aQ .fm (.aQ .sub (.aQ .sub (.ah 1) (.ai 1)) (.ah 10)) (.ah 0)) (AS u.length w h a U rt ep hf fl n (.int i) m) H (.int ((h-1-i)*w:Nat)) H:=gr (iT (iT (ag rfl) (bC 1) (az (fe i) lt)) (ag rfl) (Nat.le_sub_one_of_lt lt)) (ag rfl) (az (ae (eH _ _) (eH _ _)) (az h8 (by decide)))
  have sl:ji (.ref a) (.int ((h-1-i)*w:Nat)) (.int ((h-i)*w:Nat)) (oH u x0 x1 x2 x3 L db)=.ok (.ref (oH u x0 x1 x2 x3 L db).length) (oH u x0 x1 x2 x3 L (db++[aR (cut B ((h-1-i)*w) ((h-i)*w))])):=by
   show dc (bound 0 (V.int ((h-1-i)*w:Nat))) (λi=>dc (((oH u x0 x1 x2 x3 L db)[a]?).bind O.uf) λvs=>dT (vs.length<=hV) (dc (bound vs.length (V.int _)) λj=>alloc (.list (cut vs i j)) (oH u x0 x1 x2 x3 L db)))=_
   rw[hB];refine(aF (by rw[aB];exact ae hl' (aa rfl))).trans ?_;show alloc (.list (cut (B.map λn:Nat=>V.int n) ((h-1-i)*w) ((h-i)*w))) _=_;rw[cut,<-xr,<-FG,<-zi];rfl
  have at':∀L G',(oH u x0 x1 x2 x3 L (db++[aR (cut B ((h-1-i)*w) ((h-i)*w))]++G'))[u.length+(db.length+5)]?=some (aR (cut B ((h-1-i)*w) ((h-i)*w))):=λL G'=>by
   rw[<-zi,<-zi];refine bv ?_;exact Ge▸(dR _ _)
  refine iJ (ON (d:=d) (mk:=mk) (w:=w) (h:=h) (a:=a) (U:=U) (rt:=rt) (ep:=ep) (hf:=hf) (fl:=fl) (n:=n) _ L (db++[aR (cut B ((h-1-i)*w) ((h-i)*w))]) (.int i) m (ae (bu (bx 5 cl) _) (ae (aW _ _) hn')) (λx hx=>(hm x (Kr (List.mem_of_mem_drop hx))).imp id λq=>q.2.1) at') λG1 m1 q=>?_
  obtain⟨G2,y2,m2,q2⟩:=ih (L++(cut B ((h-1-i)*w) ((h-i)*w)).flatMap mI) (db++[aR (cut B ((h-1-i)*w) ((h-i)*w))]++G1) (.int i) m1 (λi hi'=>hi i (.tail _ hi')) (by
   rw[aj];refine ae (bI (bu ?_ _) _) hn';have:∀l:List Nat,(l.flatMap mI).length<=5*l.length:=λl=>by
    induction l with
    | nil=>exact cH _
    | cons x l ih=>simp only[cv,aj,b9];exact cE ih (Eo x)
   exact ae (this _) (bx 5 cl))
  rw[am L]at q2;rw[Ge]at sl;refine Y ?_;refine⟨G2,y2,m2,dE rfl (cA rfl rfl (iQ (qT (ag rfl) lo'.eq hi'.eq sl) (iF (at' L [] |> λq=>by simp only[aP]at q;exact q) (by rw[aB];exact ae cl (aa rfl))) q dQ)) q2⟩
end
theorem Ii:∀ {L:List Nat},nj L->∀a,d9 L/2^a%2=L.getD a 0
 | [],_,a=>by simp only[B5,Ve];rfl
 | b::L,h,a=>by
  have hb:=h b (.head _)
  simp only[oq]
  cases a with
  | zero=>simp only[qj,rX,iK,eI hb];rfl
  | succ a=>
   rw[iZ,c9 (2^a),<-gx,kr _ _ (aa rfl),gQ hb,cx,Ii λb h'=>h b (.tail _ h')]
   rfl
theorem uA{f:V->St->RE (List V)}{H:St}(g:V->V):∀ {vs:List V},(∀v∈vs,∀N,∃x,f v (H++N)=.ok [g v] (H++(N++[x])))->∀N,∃SZ,compLoop f none vs (H++N)=.ok (vs.map g) (H++(N++SZ))
 | [],_,N=>⟨[],by rw[aP];rfl⟩
 | v::vs,h,N=>by
  refine cP (h v (.head _) N) λx e=>?_
  refine cP (uA g (λv hv=>h v (.tail _ hv)) (N++[x])) λSZ e'=>?_
  simp only[am]at e'
  exact⟨_,uz e e'⟩
section
variable{d mk:Nat}{H:St}{E:List V}{L:List Nat}{oa:Nat}
theorem Oy(hL:nj L)(hl:L.length<=1000)(ho:H[oa]?=some (aR L))(h9:eo E 9=some (.ref oa)){k:Nat}(hk:8*k+8<=L.length)(yq:13<E.length):∃x,Ev ⟨af d,mk⟩ (.bi .sum [(.gu (.aQ .fm (.sub (.ah 9) (.aQ .ei (.ah 12) (.ah 13))) (.aQ .qu (.ai 2) (.ah 13))) 13 (.gV [(.ai 8)]) none)]) (E.set 12 (.int (8*k:Nat))) H (.int (d9 L/2^(8*k)%256:Nat)) (H++[x]):=by
 have R:=ej (w:=8) (u:=H) (aa rfl)
 have t:=wK (d9 L) (8*k) 0 8
 rw[<-fD,Cf]at t;have c:=wM (λv=>match v with | .int j=>.int (rd (d9 L) (8*k+j.toNat) 1*2^j.toNat:Nat) | v=>v) (iR (ak (bC 8) rfl aY) R.1) R.2 rfl (λv hv=>by
   refine cP (bj.mp hv) λj=>cJ λhj zn=>?_;subst zn
   have hj:=bW.mp hj
   refine⟨?_,rfl⟩;have l9:eo ((E.set 12 (.int (8*k:Nat))).set 13 (.int j)) 9=some (.ref oa):=by
    unfold eo;rw[bQ (bc rfl),bQ (bc rfl)];exact h9
   have l12:eo ((E.set 12 (.int (8*k:Nat))).set 13 (.int j)) 12=some (.int (8*k:Nat)):=by
    unfold eo;rw[bQ (bc rfl),cG (Q4 yq)]
   have l13:eo ((E.set 12 (.int (8*k:Nat))).set 13 (.int j)) 13=some (.int j):=by
    unfold eo;rw[cG (by simp only[aV];exact yq)]
   have lt:=aq (fg hj _) hk
   have g:=et (C:=⟨af d,mk⟩) (ag l9) (jL (ag l12) (ag l13)) ho (aq lt (ae hl (aa rfl))) (getD_at rfl lt)
   rw[<-Ii hL]at g;exact gr g (sM (ag l13) (aK hj (aa rfl))) (aK (dK _ (aa rfl)) (aa rfl)))
  (aa rfl)
 have s:=MW (dR H (aR ((aI 8).map λi=>rd (d9 L) (8*k+i) 1*2^i)))
 rw[t]at s;exact⟨_,pC (ak c rfl aY) s⟩
theorem OA(hL:nj L){m:Nat}(hl:L.length=8*m)(hm:m<=100)(ho:H[oa]?=some (aR L))(h9:eo E 9=some (.ref oa))(yq:13<E.length):∃N,Ev ⟨af d,mk⟩ (.bi .bytes [(.gu (.bi .sum [(.gu (.aQ .fm (.sub (.ah 9) (.aQ .ei (.ah 12) (.ah 13))) (.aQ .qu (.ai 2) (.ah 13))) 13 (.gV [(.ai 8)]) none)]) 12 (.gV [(.ai 0),(.bi .len [(.ah 9)]),(.ai 8)]) none)]) E H (.bytes (nS (d9 L) m)) (H++N):=by
 have l1000:L.length<=1000:=hl▸ae (bx 8 hm) (aa rfl)
 have ok:Bj 0 (8*m:Nat) 8=true:=PX (aa rfl) (ae (bx 8 hm) (aa rfl)) (bc rfl) (aa rfl)
 have rg:mG [.int 0,.int (8*m:Nat),.int 8]=some (.gV 0 (8*m:Nat) 8):=aF ok
 have tn:gD 0 (8*m:Nat) 8=m:=by
  have:=yz (a:=0) (n:=8*m) (c:=7)
  rw[cx]at this;exact this.trans (uK (aa rfl) m 7)
 have it:fU (.gV 0 (8*m:Nat) 8) H=some (none,(aI m).map λk:Nat=>V.int (8*k:Nat)):=by
  show(if Bj 0 (8*m:Nat) 8=true/\gD 0 (8*m:Nat) 8<=hV then some (none,ie 0 8 (gD 0 (8*m:Nat) 8))else none)=_
  rw[tn,aF ⟨ok,ae hm (by decide)⟩,pM];refine aM (λl=>some (none,l)) (fV λi J=>?_);rw[Av];rfl
 have ln:=pC (C:=⟨af d,mk⟩) (ak (ag h9) rfl aY) (xd ho (by rw[aB];exact ae l1000 (aa rfl)))
 rw[aB,hl]at ln;have ir:=iR (ak bh rfl (ak ln rfl (ak bh rfl aY))) rg;obtain⟨N,cl⟩:=uA (f:=λv u=>(QM ⟨af d,mk⟩ none (E.set 12 v) u).bind λt u=>if t then(ev ⟨af d,mk⟩ (.bi .sum [(.gu (.aQ .fm (.sub (.ah 9) (.aQ .ei (.ah 12) (.ah 13))) (.aQ .qu (.ai 2) (.ah 13))) 13 (.gV [(.ai 8)]) none)]) (E.set 12 v) u).bind λr u=>if r.cD then .ok [r] u else .cn else .ok [] u)
  (λv=>match v with | .int i=>.int (d9 L/2^i.toNat%256:Nat) | v=>v) (vs:=(aI m).map λk:Nat=>V.int (8*k:Nat)) (λv hv N=>by
   refine cP (bj.mp hv) λk=>cJ λhk zn=>?_;subst zn
   have hk:=bW.mp hk
   obtain⟨x,q⟩:=Oy hL l1000 (bv ho) h9 (k:=k) (hl▸bx 8 hk) yq;refine⟨x,?_⟩;show(ev _ _ _ _).bind _=_;rw[q.eq,am];rfl) []
 rw[aP,dY,show(aI m).map ((λv=>match v with | .int i=>V.int (d9 L/2^i.toNat%256:Nat) | v=>v)∘λk:Nat=>V.int (8*k:Nat))=(nS (d9 L) m).map λn:Nat=>V.int n by rw[nS,dY];rfl]at cl;have c:Ev ⟨af d,mk⟩ (.gu (.bi .sum [(.gu (.aQ .fm (.sub (.ah 9) (.aQ .ei (.ah 12) (.ah 13))) (.aQ .qu (.ai 2) (.ah 13))) 13 (.gV [(.ai 8)]) none)]) 12 (.gV [(.ai 0),(.bi .len [(.ah 9)]),(.ai 8)]) none) E H (.ref (H++N).length) (H++N++[aR (nS (d9 L) m)]):=by
  refine⟨?_⟩;show(ev ⟨af d,mk⟩ (.gV [(.ai 0),(.bi .len [(.ah 9)]),(.ai 8)]) E H).bind (λx u=>match fU x u with
   | none=>.cn
   | some (sK,vs)=>(compLoop _ sK vs u).bind λl u=>if l.length<=hV then alloc (.list l) u else .cn)=_
  rw[ir.eq,RE.cV,it];show(compLoop _ none _ H).bind _=_;rw[cl,RE.cV,aF (by simp only[aB,nS,aB,bV];exact ae hm (by decide))];rfl
 refine⟨N++[aR (nS (d9 L) m)],?_⟩;rw[<-am];exact pC (ak c rfl aY) (td (dR _ _) (by simp only[nS,aB,bV];exact ae hm (by decide)) λb hb=>by
  refine cP (bj.mp hb) λi=>cJ λ_ zn=>?_;subst zn
  exact dK _ (aa rfl))
end
theorem Pr{B:List Nat}{w h y:Nat}(hl:B.length=w*h)(hy:y<h):cut B (y*w) ((y+1)*w)=(tJ w y).map (B.getD · 0):=by
 have le:(y+1)*w<=B.length:=by simp only[hl,c9 w];exact i3 w hy
 refine AJ ?_ λi h1 h2=>?_
 .simp only[cut,AF,eZ,fL le,tJ,aB,aB,bV,<-VX,dz,Ce]
 .have hi:i<w:=by simp only[tJ,aB,aB,bV]at h2;exact h2
  have lt:=aq (fg hi _) (by rw[<-qi];exact le)
  simp only[cut,List.getElem_drop,List.getElem_take,tJ,AG,xP];simp only[bf,cO lt];rfl
theorem oK{α β:Type}{f g:α->List β}:∀ {l:List α},(∀x∈l,f x=g x)->l.flatMap f=l.flatMap g
 | [],_=>rfl
 | x::l,h=>by simp only[cv,cv,h x (.head _),oK λx hx=>h x (.tail _ hx)]
theorem Ob{B:List Nat}{w h ka kb:Nat}(hl:B.length=w*h)(hm:∀x∈B,k9 x)(K:kP w h B ka kb):((aI h).flatMap λi=>(cut B ((h-1-i)*w) ((h-i)*w)).flatMap mI)=(du w h).flatMap (jE B [ka,kb]):=by
 have rv:(aI h).reverse=(aI h).map λi=>h-1-i:=by
  rw[fD,List.reverse_range',<-fD,cx]
 simp only[du,rv,List.flatMap_assoc,AH];refine oK λi hi=>?_
 have hi:=bW.mp hi
 have e:h-i=h-1-i+1:=by simp only[P2,fH (As hi)]
 have hi':h-1-i<h:=az (eH _ _) (ki (az (fe i) hi) (aa rfl))
 simp only[e,Pr hl hi',AH];refine oK λs S=>?_
 refine cP (bj.mp S) λc=>cJ λhc zn=>?_;subst zn
 have lt:=xu (bW.mp hc) hi'
 have om:=hm _ (bU (getD_at hl lt))
 have ks:[ka,kb].contains ((h-1-i)*w+c)=true↔B.getD ((h-1-i)*w+c) 0=6\/B.getD ((h-1-i)*w+c) 0=14:=by
  rw[K.a,K.b,cg,aO,bM]
 unfold mI jE gW;by_cases h0:B.getD ((h-1-i)*w+c) 0=0
 .refine(aF h0).trans ?_;rw[aZ (λq=>by rcases ks.mp q with q | q<;>rw[h0]at q<;>cases q),aF h0];rfl
 .have om:=om.resolve_left h0
  refine(aZ h0).trans ?_;by_cases h6:B.getD ((h-1-i)*w+c) 0%8=6
  .refine(aF h6).trans ?_;rw[aF (ks.mpr ((by decide:∀p,p<15->p%8=6->p=6\/p=14) _ om.1 h6))]
  .refine(aZ h6).trans ?_;rw[aZ (λq=>by rcases ks.mp q with q | q<;>exact h6 (by rw[q])),aZ h0];have:dW (B.getD ((h-1-i)*w+c) 0/8) 1=[B.getD ((h-1-i)*w+c) 0/8]:=by
    rw[vR,eI (cU (aq om.1 (aa rfl)))];rfl
   simp only[this];rfl
theorem HM{x:Nat}(h:x<2):dW x 1=[x]:=by simp only[vR,eI h];rfl
theorem MJ{hf fl:Nat}(h:hf<128):dW (hf%64) 6++dW fl 16++[hf/64]=eO hf fl:=by
 rw[eO,show(64)=2^6 from rfl,yl,show 16=8+8 from rfl,vT,HM (cU h)];simp only[am]
theorem Oq{L:List Nat}{p:Nat}:d9 (L++aw p 0)=d9 L:=by
 have z:∀p,d9 (aw p 0)=0:=λp=>by
  induction p with
  | zero=>rfl
  | succ p ih=>simp only[wI,oq,ih]
 simp only[tc,z,Vd,Au]
section
variable{d mk w h a U rt hf fl ka kb:Nat}{ep:Int}{u:St}{B:List Nat}
theorem Lx(n:Nat): -(n:Int)%8=((8-n%8)%8:Nat):=by
 have e : -(n:Int) = -((n%8:Nat):Int) + -((n/8:Nat):Int)*8:=by
  rw[Int.neg_mul,<-Nk];exact aM (λx:Nat=>-(x:Int)) (by simp only[c9,S6])
 simp only[e,Int.add_mul_emod_self_right];exact(by decide:∀r,r<8 -> -((r:Nat):Int)%8=((8-r)%8:Nat)) (n%8) (dK n (aa rfl))
theorem UV(n:Nat):n+(8-n%8)%8=8*((n+7)/8):=by
 have e:=dP n 8
 have d:=(by decide:∀r,r<8->r+(8-r)%8=8*((r+7)/8)) (n%8) (dK n (aa rfl))
 generalize n/8=q at e;generalize n%8=r at e d ⊢;rw[<-e,dA,d,dA (8*q) r 7,uK (aa rfl),wA]
theorem Oz(dL:Sh w h)(hB:u[a]?=some (aR B))(hl:B.length=w*h)(hm:∀x∈B,k9 x)(K:kP w h B ka kb)(S:U<2)(hh:hf<128)(hw:w*h-1<2^5)(hn:Nu 5 (w*h-1)=aC (w*h)):
  af (d+7) mk .o7 [.int w,.int h,.ref a,.int U,.int rt,.int ep,.int hf,.int fl] u=.ok (.bytes (nS (d9 (iA w h ⟨B,U,rt,ep,hf,fl⟩ ka kb)) (((iA w h ⟨B,U,rt,ep,hf,fl⟩ ka kb).length+7)/8))) u:=by
 refine d5 λGG Y=>?_
 have n5:aC (w*h)<=5:=by unfold aC;split<;>decide
 have n30:aC (w*h)<30:=az n5 (aa rfl)
 have B64:B.length<=hV:=hl▸ae dL.sN (aa rfl)
 have wd:=KC u.length u 5 d (w*h-1) hw
 simp only[hn]at wd;have s0:Ev ⟨af (d+6),u.length⟩ (.call .wy [(.aQ .sub (.aQ .fm (.ah 0) (.ah 1)) (.ai 1))]) [.int w,.int h,.ref a,.int U,.int rt,.int ep,.int hf,.int fl,.av,.av,.av,.av,.av,.av] u (.int (aC (w*h))) u:=bw (ak (iT (gr (ag rfl) (ag rfl) (az dL.w8 (aa rfl))) (bC 1) (lY dL.w0 dL.h0)) rfl aY) wd;have ix:∀ {x k:Nat} (N),0<x->k<w*h->(∀s,B.getD s 0=x↔s=k)->Ev ⟨af (d+6),u.length⟩ (.lm (.ah 2) .index [(.ai x)]) [.int w,.int h,.ref a,.int U,.int rt,.int ep,.int hf,.int fl,.int (aC (w*h)),.av,.av,.av,.av,.av] (u++N) (.int k) (u++N):=λN J hk hu=>Jl (ag rfl) (bv hB) ⟨rfl⟩ (LZ (bv hB) B64 (hl▸hk) hu)
 have t1:=iS (C:=⟨af (d+6),u.length⟩) (u:=u) (ak (ag (E:=[.int w,.int h,.ref a,.int U,.int rt,.int ep,.int hf,.int fl,.int (aC (w*h)),.av,.av,.av,.av,.av]) (j:=3) rfl) rfl aY)
 have t2:=bw (f:=.nL) (ak (ix [aR [U]] (aa rfl) K.la K.a) rfl (ak (ag (j:=8) rfl) rfl aY)) (Gn (d+5) u.length ka (aC (w*h)) (u++[aR [U]]) n30)
 simp only[am,aj]at t2;have t3:=yX t1 t2 (add_lists (xs:=[V.int U]) (bJ (i:=0) rfl rfl) (bJ rfl rfl) (by simp only[aB,cz];exact ae (bu n5 1) (by decide)));rw[am,aj]at t3;have t4:=bw (f:=.nL) (ak (ix [aR [U],aR (dW ka (aC (w*h))),aR ([U]++dW ka (aC (w*h)))] (aa rfl) K.lb K.b) rfl (ak (ag (j:=8) rfl) rfl aY)) (Gn (d+5) u.length kb (aC (w*h)) _ n30);simp only[am,aj]at t4;have t5:=yX t3 t4 (add_lists (bJ rfl rfl) (bJ rfl rfl) (by simp only[aB,aB,aj,cz,cz];exact ae (cE (bu n5 1) n5) (aa rfl)));rw[<-cb,am,aj]at t5;generalize hL0:[U]++dW ka (aC (w*h))++dW kb (aC (w*h))=L0 at t5;have sA:∀ {r:RX},Xs ⟨af (d+6),u.length⟩ (jN.drop 2) (AS u.length w h a U rt ep hf fl (aC (w*h)) .av .av) (oH u (aR [U]) (aR (dW ka (aC (w*h)))) (aR ([U]++dW ka (aC (w*h)))) (aR (dW kb (aC (w*h)))) L0 []) r->Xs ⟨af (d+6),u.length⟩ jN [.int w,.int h,.ref a,.int U,.int rt,.int ep,.int hf,.int fl,.av,.av,.av,.av,.av,.av] u r:=λhr=>bG s0 rfl rfl (bG t5 rfl rfl hr)
 have lL0:L0.length<=11:=by
  simp only[<-hL0,aj,aj,cz,cz];exact cE (bu n5 1) n5
 generalize aR [U]=x0 at sA;generalize aR (dW ka (aC (w*h)))=x1 at sA;generalize aR ([U]++dW ka (aC (w*h)))=x2 at sA;generalize aR (dW kb (aC (w*h)))=x3 at sA;obtain⟨G1,y1,m1,lp⟩:=K3 (λL db=>bv hB) hl dL.w8 dL.h8 hm (aI h) L0 [] .av .av (λi hi=>bW.mp hi) (by
  exact bV▸(ae (cE lL0 (bx 40 dL.h8)) (aa rfl)))
 simp only[Ob hl hm K]at lp;have R:=ej (u:=oH u x0 x1 x2 x3 L0 []) (ae dL.h8 (aa rfl));have l1:(L0++(du w h).flatMap (jE B [ka,kb])).length<=136:=by
  rw[aj];refine cE (d:=125) lL0 (ae (xb _) ?_);simp only[qw,c9 h];exact bx 5 dL.sN
 generalize hL1:L0++(du w h).flatMap (jE B [ka,kb])=L1 at lp l1;have lk9:∀ {y m:V},eo (AS u.length w h a U rt ep hf fl (aC (w*h)) y m) 9=some (.ref (u.length+4)):=rfl;refine cP (yE (ss:=jN.drop 4) (db:=G1) (x0:=x0) (x1:=x1) (x2:=x2) (x3:=x3) (E:=AS u.length w h a U rt ep hf fl (aC (w*h)) y1 m1) lk9 (vP (d:=d+5) (mk:=u.length) (a:=.ah 4) (b:=.ai 4) (n:=4) (ag rfl) bh (aa rfl)) (by skip;exact ae (bI l1 4) (aa rfl)) rfl (aa rfl)) λG2 g2=>?_
 have l2:(L1++dW rt 4).length<=140:=by rw[aj];exact bI l1 4
 have le:It ⟨af (d+6),u.length⟩ (.ite (.cy (.ah 5) [.lt] [(.ai 0)]) (.list [(.ai 0)]) (.aQ .ei (.list [(.ai 1)]) (.call .nL [(.ah 5),(.ah 8)]))) (AS u.length w h a U rt ep hf fl (aC (w*h)) y1 m1) (oH u x0 x1 x2 x3 (L1++dW rt 4) (G1++G2)) (f9 ep (aC (w*h))):=by
  unfold f9;by_cases hn:ep<0
  .rw[aF hn];exact LF ((dg (ag rfl) (pF bh)).to (bp hn)) (vO (n:=0) bh)
  .rw[aZ hn];refine LG ((dg (ag rfl) (pF bh)).to (bP hn)) (vQ (vO (n:=1) bh) (λN=>vP ?_ (ag rfl) n30) (by simp only[cz,cz];exact ae (bu n5 1) (by decide)));simp only[fj (Fw.mp hn)];exact ag rfl
 have lE:(f9 ep (aC (w*h))).length<=6:=by
  unfold f9
  split
  .skip;decide
  .simp only[aj,cz,cz];exact bu n5 1
 refine cP (yE (ss:=jN.drop 5) lk9 le (ae (cE l2 lE) (aa rfl)) rfl (aa rfl)) λG3 g3=>?_
 have l3:(L1++dW rt 4++f9 ep (aC (w*h))).length<=146:=by rw[aj];exact cE l2 lE
 have lc:It ⟨af (d+6),u.length⟩ (.aQ .ei (.aQ .ei (.call .nL [(.aQ .iq (.ah 6) (.ai 64)),(.ai 6)]) (.call .nL [(.ah 7),(.ai 16)])) (.list [(.aQ .ey (.ah 6) (.ai 64))])) (AS u.length w h a U rt ep hf fl (aC (w*h)) y1 m1) (oH u x0 x1 x2 x3 (L1++dW rt 4++f9 ep (aC (w*h))) (G1++G2++G3)) (eO hf fl):=by
  rw[<-MJ hh];exact vQ (vQ (vP ⟨rfl⟩ (bC 6) (aa rfl)) (λN=>vP (ag rfl) (bC 16) (aa rfl)) (aa rfl)) (λN=>vO ⟨rfl⟩) (by skip;exact aa rfl)
 have lC:(eO hf fl).length=23:=by simp only[eO,aj,aj,aj,cz,cz,cz,cz]
 refine cP (yE (ss:=jN.drop 6) lk9 lc (lC▸ae (bI l3 23) (aa rfl)) rfl (aa rfl)) λG4 g4=>?_
 have eL:iA w h ⟨B,U,rt,ep,hf,fl⟩ ka kb=L1++dW rt 4++f9 ep (aC (w*h))++eO hf fl:=by rw[<-hL1,<-hL0,<-HM S];rfl
 have l4:(L1++dW rt 4++f9 ep (aC (w*h))++eO hf fl).length<=169:=by rw[aj];exact bI l3 23
 have b4:=eL▸CK
 generalize L1++dW rt 4++f9 ep (aC (w*h))++eO hf fl=L4 at g4 eL l4 b4;have pd:=λN=>by
  have ln:=pC (C:=⟨af (d+6),u.length⟩) (E:=AS u.length w h a U rt ep hf fl (aC (w*h)) y1 m1) (ak (ag (j:=9) rfl) rfl aY) (xd (bv (N:=N) (zh (x0:=x0) (x1:=x1) (x2:=x2) (x3:=x3) (db:=G1++G2++G3++G4))) (by rw[aB];exact ae l4 (aa rfl)))
  simp only[aB]at ln;exact df (kL ln) bh ((rA (bc rfl)).trans (aM some (Lx _)))
 refine cP (yE (ss:=jN.drop 7) lk9 (OS (x:=0) (λH=>bh) pd (ae (dZ (dK _ (by decide))) (aa rfl))) (by rw[cX];exact ae (cE l4 (dZ (dK _ (by decide)))) (aa rfl)) rfl (aa rfl)) λG5 g5=>?_
 have bR:∀p,nj (aw p 0):=λp b hb=>by rw[rY hb];decide
 refine cP (OA (d:=d+6) (mk:=u.length) (H:=oH u x0 x1 x2 x3 (L4++aw ((8-L4.length%8)%8) 0) (G1++G2++G3++G4++G5)) (E:=AS u.length w h a U rt ep hf fl (aC (w*h)) y1 m1) (m:=(L4.length+7)/8) (b4.ky (bR _)) (by refine aj.trans ?_;exact cX▸(UV _)) (ae (Nat.div_le_div_right (bI l4 7)) (aa rfl)) zh rfl (aa rfl)) λN oc=>?_
 simp only[Oq]at oc;refine Y ?_;rw[eL];refine b6 jN [.int w,.int h,.ref a,.int U,.int rt,.int ep,.int hf,.int fl,.av,.av,.av,.av,.av,.av] rfl rfl rfl rfl (sA (iQ (iR ⟨rfl⟩ R.1) R.2 lp ⟨g2.eq.trans (g3.eq.trans (g4.eq.trans (g5.eq.trans (dN oc).eq)))⟩)) ?_;show RE.ok _ _=_;rw[oH,am,cR rfl];rfl
end
theorem EY{B:List Nat}{n:Nat}(h:B.length=n):B=(aI n).map (B.getD · 0):=by
 refine AJ (by simp only[aB,bV,h]) λi h1 h2=>?_
 rw[AG,xP,bf,cO h1];rfl
noncomputable def iU(p:Nat):Bool:=!decide (p=0)
theorem Ga{w h:Nat}(H:mX w h):(du w h).Perm (aI (w*h)):=kB (P:=λw h=>(du w h).Perm (aI (w*h))) (bc rfl) (bc rfl) (bc rfl) (bc rfl) H
theorem xG{B:List Nat}{ka kb:Nat}(T:ka≠kb)(ha:B.getD ka 0≠0)(hb:B.getD kb 0≠0):∀l:List Nat,(l.flatMap (jE B [ka,kb])).length+5*(l.count ka+l.count kb)=l.length+4*l.countP (λs=>iU (B.getD s 0))
 | []=>rfl
 | s::l=>by
  have ih:=xG T ha hb l
  simp only[cv,aj,SU,SU,su,dh]
  generalize (l.flatMap (jE B [ka,kb])).length=x at *
  generalize V0 ka l=y at *
  generalize V0 kb l=y' at *
  generalize l.countP (λs=>iU (B.getD s 0))=z at *
  have five:∀p,p≠0->(gW p).length=5:=λp hp=>by simp only[gW,aZ hp,aj,aj,cz,cz,cz]
  unfold jE
  by_cases qa:s=ka
  .subst qa
   rw[aF (cg.mpr (.head _)),aF (beq_self_eq_true s),aZ (by rw[beq_iff_eq];exact T),aF (show iU (B.getD s 0)=true by rw[iU,bP ha];rfl)]
   simp only[pn]
   lia
  .by_cases qb:s=kb
   .subst qb
    rw[aF (cg.mpr (.tail _ (.head _))),aZ (by rw[beq_iff_eq];exact qa),aF (beq_self_eq_true s),aF (by simp only[iU,bP hb];rfl)]
    simp only[pn]
    lia
   .rw[aZ (by rw[cg,aO,bM];exactλq=>q.elim qa qb),aZ (by rw[beq_iff_eq];exact qa),aZ (by rw[beq_iff_eq];exact qb)]
    by_cases h0:B.getD s 0=0
    .rw[h0,aZ (by decide),show(gW 0).length=1 from rfl]
     lia
    .rw[five _ h0,aF (show iU (B.getD s 0)=true by rw[iU,bP h0];rfl)]
     lia
theorem Ec{w h ka kb:Nat}{t:Told}(dL:Sh w h)(hl:t.B.length=w*h)(K:kP w h t.B ka kb)(T:ka≠kb):
  (iA w h t ka kb).length+10=1+2*aC (w*h)+(w*h)+4*t.B.countP iU+28+(if t.ep<0 then 0 else aC (w*h)):=by
 have c:=xG T (by rw[(K.a ka).mpr rfl];decide) (by rw[(K.b kb).mpr rfl];decide) (aI (w*h))
 have xT:∀k,k<w*h->(aI (w*h)).count k=1:=λk hk=>List.nodup_range.count.trans (aF (bW.mpr hk))
 simp only[xT ka K.la,xT kb K.lb,bV,<-((Ga dL.ok).flatMap_right (jE t.B [ka,kb])).length_eq]at c;have e:t.B.countP iU=(aI (w*h)).countP λs=>iU (t.B.getD s 0):=by
  have:=aM (List.countP iU) (EY hl)
  simp only[List.countP_map]at this;exact this
 simp only[<-e]at c;have lE:(f9 t.ep (aC (w*h))).length=1+if t.ep<0 then 0 else aC (w*h):=by
  unfold f9
  split
  .rw[cz]
  .simp only[aj,cz,cz]
 have lC:(eO t.half t.full).length=23:=by simp only[eO,aj,aj,aj,cz,cz,cz,cz]
 simp only[iA,aj,aj,aj,aj,aj,aj,cz,cz,cz,cz,lE,lC];generalize ((du w h).flatMap (jE t.B [ka,kb])).length=x at *;generalize (if t.ep<0 then 0 else aC (w*h))=y at *;lia
section
variable{A:Ad}{v:Pv}{d mk w h:Nat}{u:St}
theorem w7{P0:V}{sK:Option (Nat×O)}(S:same sK u=true):∀(l:List Nat) (m:Nat) (x:V),∃y,forLoop (body ⟨af d,mk⟩ (.ah 2) [.fB (.cy (.ah 2) [.ne] [(.cW .nM)]) [.ig (.ah 1) .ei (.ai 1)] []]) sK (l.map λn:Nat=>V.int n) [P0,.int m,x,.av,.av] u=.ok .next [P0,.int (m+l.countP iU:Nat),y,.av,.av] u
 | [],m,x=>⟨x,jl S⟩
 | p::l,m,x=>by
  have c:Bo ⟨af d,mk⟩ (.cy (.ah 2) [.ne] [(.cW .nM)]) [P0,.int m,.int p,.av,.av] u (iU p) u:=uc (ag rfl) (dn rfl)
  by_cases h0:iU p=true
  .obtain⟨y,e⟩:=w7 S l (m+1) (.int p)
   rw[su,aF h0,b9 (l.countP iU),<-dA]
   exact⟨y,dE S (cA rfl rfl (de c h0 ⟨rfl⟩)) e⟩
  .obtain⟨y,e⟩:=w7 S l m (.int p)
   rw[su,aZ h0]
   exact⟨y,dE S (cA rfl rfl (cu c (bF h0) dQ)) e⟩
theorem Js(dL:Sh w h)(P:eV A v u)(db:Iw w h A.g u)(hl:v.aN.length=w*h)(hm:2<=v.aN.countP iU)(h2:2<=w*h):
  af (d+2) mk .sG [.ref A.p] u=.ok (.int (1+2*aC (w*h)+(w*h-2)+4*(v.aN.countP iU-2)+28+(if v.ep<0 then 0 else aC (w*h)):Nat)) u:=by
 refine d5 λGG Y=>?_
 have wd:=yF d u.length (w*h) u (kB (P:=λw h=>wQ (w*h)) (.inl rfl) (.inr (.inl rfl)) (.inr (.inr (.inl rfl))) (.inr (.inr (.inr rfl))) dL.ok)
 have Pp:=P.p
 refine cP (w7 (d:=d+1) (mk:=u.length) (P0:=.ref A.p) (sK:=some (A.b,aR v.aN)) (bp P.b) v.aN 0 .av) λy lp=>?_
 rw[cx]at lp;have sz:∀ {E:List V},eo E 0=some (.ref A.p)->Ev ⟨af (d+1),u.length⟩ (.aS (.aS (.ah 0) .qN) .size) E u (.int (w*h:Nat)) u:=λh0=>bg (bg (ag h0) Pp rfl) db.gi rfl
 have b1:Ev ⟨af (d+1),u.length⟩ (.aQ .ei (.aQ .ei (.aQ .ei (.ai 1) (.aQ .fm (.ai 2) (.ah 3))) (.aQ .sub (.aS (.aS (.ah 0) .qN) .size) (.ai 2))) (.aQ .fm (.aQ .ei (.cW .qI) (.ai 1)) (.aQ .sub (.ah 1) (.ai 2)))) [.ref A.p,.int (v.aN.countP iU),y,.int (aC (w*h)),.av] u (.int (1+2*aC (w*h)+(w*h-2)+4*(v.aN.countP iU-2):Nat)) u:=
  jL (jL ⟨rfl⟩ (iT (sz rfl) (bC 2) h2)) (gr ⟨rfl⟩ (iT (ag rfl) (bC 2) hm) (aa rfl))
 have b2:∀ {E:List V},Ev ⟨af (d+1),u.length⟩ (.aQ .ei (.aQ .ei (.aQ .ei (.aQ .ei (.cW .ni) (.ai 1)) (.cW .jz)) (.aQ .fm (.ai 2) (.cW .kQ))) (.ai 1)) E u (.int (28:Nat)) u:=λ{E}=>
  df ⟨rfl⟩ bh rfl
 have go:∀ {b:Int} {sw:List V},Xs ⟨af (d+1),u.length⟩ (qf.drop 5) [.ref A.p,.int (v.aN.countP iU),y,.int (aC (w*h)),.int (1+2*aC (w*h)+(w*h-2)+4*(v.aN.countP iU-2)+28:Nat)] u (.ok (.ret (.int b)) sw u)->af (d+2) mk .sG [.ref A.p] u=.ok (.int b) u:=λhr=>
  gX qf [.ref A.p,.av,.av,.av,.av] rfl rfl rfl rfl aU (bG (bC 0) rfl rfl (iQ (bg (ag rfl) Pp rfl) (iF P.b (by simp only[aB,hl];exact ae dL.sN (aa rfl))) lp (bG (bw (ak (sz rfl) rfl aY) wd) rfl rfl (bG b1 rfl rfl (gU rfl b2 rfl rfl hr)))))
 by_cases he:v.ep<0
 .refine Y ?_;rw[aF he];exact go (cu (dg (bg (ag rfl) Pp rfl) (u6 bh)) (bP (Int.not_le.mpr he)) (dN (ag rfl)))
 .refine Y ?_;rw[aZ he];exact go (de (dg (bg (ag rfl) Pp rfl) (u6 bh)) (bp (Fw.mp he)) ⟨rfl⟩)
end
noncomputable abbrev D6(W a n:Nat):List Nat:=dW (W/2^a) n
theorem nR(W a m n:Nat):D6 W a (m+n)=D6 W a m++D6 W (a+m) n:=by
 simp only[D6,vT,gx,<-ko]
theorem oF(W a n:Nat):dW (rd W a n) n=D6 W a n:=yl _ _
theorem yj{W a x:Nat}(h:rd W a 1=x):dW x 1=D6 W a 1:=by simp only[<-h,oF]
theorem OT{x y n m:Nat}(hx:x<2^n):dW (x+2^n*y) n=dW x n/\dW ((x+2^n*y)/2^n) m=dW y m:=by
 refine⟨?_,?_⟩
 .refine((yl (x+2^n*y) n)).symm.trans ?_;rw[iK,eI hx]
 .rw[kr _ _ (eW n),gQ hx,cx]
theorem La{W:Nat}{ks:List Nat}{u8:Nat->Nat->Nat}{i:Nat}{l:List Nat}{a a':Nat}{v v':Pv}(h:eN W ks u8 l a v=some (a',v'))(hi:i∉l):v'.aN.getD i 0=v.aN.getD i 0:=by
 induction l generalizing a v with
 | nil=>cases h;rfl
 | cons s l ih=>
  have hl:i∉l:=λq=>hi (.tail _ q)
  refine qS h (λJ h=>ih h hl) λJ J h=>(ih h hl).trans ?_
  split
  .rfl
  .show(v.aN.set s _).getD i 0=_
   refine bf.trans ?_;rw[bQ (λq:s=i=>hi (q▸.head _)),<-bf]
theorem MM{W a:Nat}(h:rd W a 1=0\/rd W (a+1) 3+1<=5):gW (f7 W a)=D6 W a (lF W a):=by
 unfold f7 lF gW;by_cases h0:rd W a 1=0
 .rw[aF h0,aF h0,aF rfl,yj h0]
 .have h5:=h.resolve_left h0
  have h1:rd W a 1=1:=by have:=j3 W a 1;lia
  have e8:(rd W (a+4) 1*8+(rd W (a+1) 3+1))%8=rd W (a+1) 3+1:=by rw[qL,eI (az h5 (by decide))]
  have d8:(rd W (a+4) 1*8+(rd W (a+1) 3+1))/8=rd W (a+4) 1:=by rw[b9,Kq _ _ (aa rfl),gQ (az h5 (by decide)),cx]
  simp only[aZ h0,aZ h0,aZ (show ¬rd W (a+4) 1*8+(rd W (a+1) 3+1)=0 from A5 _),e8,d8,P7,yj h1,oF,oF,nR W a 1 4,nR W (a+1) 3 1,am]
theorem JV{W:Nat}{ks:List Nat}{u8:Nat->Nat->Nat}{size:Nat}{l:List Nat}{a a':Nat}{v v':Pv}(h:eN W ks u8 l a v=some (a',v'))(hn:l.Nodup)(hl:v.aN.length=size)(S:∀s∈l,s<size/\(ks.contains s=false->v.aN.getD s 0=0)):l.flatMap (jE v'.aN ks)=D6 W a (a'-a):=by
 induction l generalizing a v with
 | nil=>cases h;simp only[uj];rfl
 | cons s l ih=>
  have hn:=eT.mp hn
  refine cv.trans ?_;simp only[jE];refine qS h (λhc h=>?_) λhc ok h=>?_
  .rw[aF hc];exact ih h hn.2 hl λs hs'=>S s (.tail _ hs')
  .rw[aZ hc];refine d5 λGG Y=>?_
   refine cJ (λlt h0=>?_) (S s (.head _));have bl:(if f7 W a=0 then v else dU u8 v (f7 W a) s).aN.length=size:=by split;exact hl;simp only[dU,aV];exact hl
   have bs:(if f7 W a=0 then v else dU u8 v (f7 W a) s).aN.getD s 0=f7 W a:=by
    split
    .rename_i z;refine(h0 (bF hc)).trans ?_;rw[z]
    .rw[dU,ju (hl▸lt),aF rfl]
   have ih:=ih h hn.2 bl λi hi=>⟨(S i (.tail _ hi)).1,λq=>by
    have z:=(S i (.tail _ hi)).2 q
    split
    .exact z
    .rw[dU,ju (hl▸lt),aZ λe=>hn.1 (by simp only[e];exact hi),z]⟩
   refine Y ?_;simp only[La h hn.1,bs,MM ok,ih,<-nR]
   congr 1
   have:=jQ h
   simp only[Uu];exact ic (Nat.le_sub_of_add_le' this)
theorem Bv:∀ {l:List Nat},(∀b∈l,b<256)->nS (cK l) l.length=l
 | [],_=>rfl
 | b::l,h=>by
  have hb:=h b (.head _)
  have ih:=Bv λb h'=>h b (.tail _ h')
  simp only[nS,dh,tW,cN,dY,zg,Ki,qj,rX,iK,eI hb]
  congr 1
  refine Eq.trans (fV λi J=>?_) ih
  show(b+256*cK l)/2^(8*(i+1))%256=cK l/2^(8*i)%256
  rw[kE,b9 (8*i),ko,<-gx,kr _ _ (aa rfl),gQ hb,cx]
theorem JS{W b:Nat}:eO (rd W b 6+64*rd W (b+22) 1) (rd W (b+6) 16)=D6 W b 23:=by
 refine cJ (λe1 e2=>?_) (OT (m:=1) (y:=rd W (b+22) 1) (j3 W b 6));simp only[eO,show 64=2^6 from rfl,e1,e2,am (dW _ 6),<-vT,oF,oF,oF,nR W b 6 17,nR W (b+6) 16 1,am]
theorem ER{W c w h:Nat}{B:List Nat}{U r b:Nat}{ep:Int}{t:Told}(h:wW W c w h B U r ep b=some t):t=⟨B,U,r,ep,rd W b 6+64*rd W (b+22) 1,rd W (b+6) 16⟩/\b+23<=c/\c<=b+30/\W/2^(b+23)=0/\t.full≠0:=by
 unfold wW at h;dsimp only at h
 split at h
 .exact nomatch h
 .rename_i hb
  split at h
  .obtain rfl:=aD h;have hb:=bF hb;simp only[mv,gc,gc,gc,gc,decide_eq_false_iff_not,decide_eq_false_iff_not,decide_eq_false_iff_not,decide_eq_false_iff_not]at hb;exact⟨rfl,bZ hb.1,bZ hb.2.1,Decidable.not_not.mp hb.2.2.1,hb.2.2.2.1⟩
  .exact nomatch h
structure Up(W c w h n U a b:Nat)(B:List Nat)(t:Told):Prop where
 tq:t=⟨B,U,rd W a 4,t.ep,rd W b 6+64*rd W (b+22) 1,rd W (b+6) 16⟩
 e1:b+23<=c
 e2:c<=b+30
 z:W/2^(b+23)=0
 f:t.full≠0
 ep:t.ep = -1\/∃q,t.ep=(q:Nat)/\q<w*h
 sg:f9 t.ep n=D6 W (a+4) (b-(a+4))
 le:a+4<=b
theorem IV{W c w h U a:Nat}{B:List Nat}{t:Told}(dL:Sh w h)(H:jj W c w h (aC (w*h)) U (a,B)=some t):∃b,Up W c w h (aC (w*h)) U a b B t:=by
 unfold jj at H;refine d5 λGG Y=>?_
 split at H
 .rename_i h1
  split at H
  .rename_i hp;obtain⟨e,e1,e2,e3,e4⟩:=ER H;have lt:=Ei dL.w0 hp;have ee:t.ep=(rd W (a+5) (aC (w*h))):=by rw[e]
   refine Y ?_;refine⟨a+5+aC (w*h),by simp only[e],e1,e2,e3,e4,.inr ⟨_,ee,lt⟩,?_,ae (aW (a+4) 1) (aW _ _)⟩;simp only[f9,ee,aZ (Fw.mpr (cL _)),gA,yj h1,oF,show a+5+aC (w*h)-(a+4)=1+aC (w*h) by rw[show a+5+aC (w*h)=a+4+(1+aC (w*h))from dA (a+4) 1 _,dz],nR]
  .exact nomatch H
 .rename_i h1;have h1:=h1;refine Qj (λe e1 e2 e3 e4=>?_) (ER H);have h0:=QQ (j3 W (a+4) 1) h1;have ee:t.ep = -1:=by rw[e]
  refine Y ?_;refine⟨a+5,by simp only[e],e1,e2,e3,e4,.inl ee,?_,aW (a+4) 1⟩;rw[f9,ee,aF (bc rfl),yj h0,show a+5-(a+4)=1 from dz (n:=a+4) (m:=1)]
structure M7(data:List Nat)(w h ka kb:Nat)(t:Told):Prop where
 len:t.B.length=w*h
 wH:∀p∈t.B,k9 p
 vV:kP w h t.B ka kb
 ne:ka≠kb
 bL:t.bL<2
 aX:t.aX<16
 ep:t.ep = -1\/∃q,t.ep=(q:Nat)/\q<w*h
 half:t.half<128
 full:1<=t.full/\t.full<65536
 back:nS (d9 (iA w h t ka kb)) (((iA w h t ka kb).length+7)/8)=data
theorem TF{data:List Nat}{w h:Nat}{t:Told}(dL:Sh w h)(hd:∀b∈data,b<256)(H:kv (cK data) (8*data.length) w h=some t):∃ka kb,M7 data w h ka kb t:=by
 refine d5 λGG Y=>?_
 have od:=Bv hd
 generalize hw:cK data=W at *;generalize hc:8*data.length=c at *;have bl:=BY (c:=c) (u8:=λJ J=>0) (v:={ j6 (w*h)with bL:=rd W 0 1 }) dL rfl rfl rfl rfl;refine ny (oP W (w*h) (λJ J=>0) (du w h) 1 { j6 (w*h)with bL:=rd W 0 1 }) (λhb=>?_) λp hb=>?_
 ·
  simp only[hb]at bl;rw[bl]at H;exact nomatch H
 ·
  obtain⟨a',v'⟩:=p;rw[hb]at bl;refine mT (λC Go U lr=>?_) bl;refine jc (λK ne rc=>?_) Go;rw[lr]at H
  split at H
  .exact nomatch H
  .refine cP (IV dL H) λb kt=>?_
   have sg:=JV rc (xB dL.ok) (by simp only[dU,aV,dU,aV];exact cX) (λs S=>⟨vJ S,λq=>by
    refine cJ (λ_ hB=>?_) (two_cor (u8:=λJ J=>0) (v:={ j6 (w*h)with bL:=rd W 0 1 }) rfl rfl rfl K.la K.lb ne);rw[<-gM,cg,aO,bM,not_or]at q;rw[hB,aZ (Ne.symm q.2),aZ (Ne.symm q.1)]⟩)
   have le:=jQ rc
   have eB:t.B=v'.aN:=by rw[kt.tq]
   have eS:t.bL=rd W 0 1:=by exact kt.tq▸U
   have eR:t.aX=rd W a' 4:=by rw[kt.tq]
   have eh:t.half=rd W b 6+64*rd W (b+22) 1:=by rw[kt.tq]
   have ef:t.full=rd W (b+6) 16:=by rw[kt.tq]
   have L:iA w h t (rd W 1 (aC (w*h))) (rd W (1+aC (w*h)) (aC (w*h)))=D6 W 0 (b+23):=by
    have j:∀ {x y z:Nat} {f4:List Nat},f4=D6 W 0 x->x<=y->f4++D6 W x (y-x)=D6 W 0 y:=λ{x y z f4} e l=>by
     simp only[e,show D6 W 0 y=D6 W 0 (x+(y-x)) by simp only[ic l],nR,cx]
    have s1:dW t.bL 1++dW (rd W 1 (aC (w*h))) (aC (w*h))++dW (rd W (1+aC (w*h)) (aC (w*h))) (aC (w*h))=D6 W 0 (1+aC (w*h)+aC (w*h)):=by
     simp only[eS,oF,oF,oF,nR,nR,cx,cx]
    unfold iA;simp only[eB,sg,eR,oF W a',kt.sg,eh,ef,JS];have s2:=j (z:=0) s1 le;have s3:=j (z:=0) s2 (aW a' 4);rw[dz]at s3;have s4:=j (z:=0) s3 kt.le;have s5:=j (z:=0) s4 (aW b 23);simp only[dz]at s5;exact s5
   refine Y ?_;refine⟨_,_,eB▸C.len,eB▸C.wH,eB▸K,ne,by rw[eS];exact j3 W 0 1,by rw[eR];exact j3 W a' 4,kt.ep,?_,⟨ed kt.f,by exact ef▸(j3 W (b+6) 16)⟩,?_⟩
   .rw[eh];have q1:=j3 W b 6;have q2:=j3 W (b+22) 1;exact aq (Nat.add_lt_add_of_lt_of_le q1 (bx 64 (b8 q2))) (aa rfl)
   .have we:W<2^(b+23):=by
     have:=kt.z
     rcases Nat.div_eq_zero_iff.mp this with q | q
     .exact absurd q (ul (eW _))
     .exact q
    have ln:(b+23+7)/8=data.length:=by
     have q1:=kt.e1
     have q2:=kt.e2
     simp only[<-hc,c9]at q1 q2;exact Nat.div_eq_of_lt_le q2 (by simp only[qi];exact az (bI q1 7) (gN _))
    simp only[L,cz,ta,qj,rX,eI we,ln];exact od
theorem Ig{u:St}{a b:Nat}{l m:List Int}(ha:u[a]?=some (.list (l.map V.int)))(hb:u[b]?=some (.list (m.map V.int))):j8 .eq (.ref a) (.ref b) u=some (decide (l=m)):=by
 have I:∀l:List Int,jf (l.map V.int)=some l:=λl=>by
  induction l with
  | nil=>rfl
  | cons x l ih=>show(jf (l.map V.int)).map (x::·)=_;exact aM _ ih
 show Gq u[a]? u[b]?=_
 simp only[ha,hb];show((jf (l.map V.int)).bind λl=>(jf (m.map V.int)).bind λm=>some (decide (l=m)))=_;rw[I,I];rfl
theorem R4(l:List Nat):aR l=.list ((l.map λn:Nat=>(n:Int)).map V.int):=by rw[dY];rfl
theorem wa{u:St}{a b:Nat}{l:List Nat}(ha:u[a]?=some (aR l))(hb:u[b]?=some (aR l)):j8 .eq (.ref a) (.ref b) u=some true:=by
 simp only[R4]at ha hb;refine(Ig ha hb).trans ?_;rw[bp rfl]
section
variable{C:Cx}{E:List V}{u po rs:St}{a b e:ME}{es:List ME}{v:V}
theorem mj(h:Ev C a E u (.bool true) po)(h2:Ev C (.nX (b::es)) E po v rs):Ev C (.nX (a::b::es)) E u v rs:=by
 refine yY ?_;show(ev C a E u).bind _=_;exact h.eq▸h2.eq
theorem uW(h:Ev C e E u v po):Ev C (.nX [e]) E u v po:=yY h.eq
end
noncomputable def Wj:List MS:=[.fB (.cy (.sub (.ah 7) (.ah 16)) [.ne] [(.ai 0)]) [.ig (.ah 13) .Ay (.sub (.sub (.aS (.ah 4) .k8) (.sub (.ah 7) (.ah 16))) (.ah 16)),.ig (.sub (.ah 14) (.aQ .iq (.sub (.ah 7) (.ah 16)) (.ai 8))) .ei (.aQ .qu (.ai 2) (.ah 16)),.ig (.sub (.ah 15) (.aQ .ey (.sub (.ah 7) (.ah 16)) (.ai 8))) .ei (.aQ .qu (.ai 2) (.ah 16))] []]
noncomputable def UA(data:List Nat)(w h g z n p:Nat)(c:Nat)(U rt:Nat)(ep:Int)(hf fl k:Nat)(x14 x15 x16:V):List V:=[.bytes data,.int w,.int h,.ref g,.ref z,.ref n,.ref p,.ref c,.int U,.int rt,.int ep,.int hf,.int fl,.int k,x14,x15,x16,.av]
section
variable{d mk w h g z n p c U rt hf fl:Nat}{ep:Int}{data:List Nat}{H:St}{B:List Nat}{u8:Nat->Nat->Nat}{rk ek:Nat->Nat}{sk:Nat}
theorem M5{x s:Nat}(h:x<2^s):x+2^s=x|||2^s:=by
 have:=Gb (y:=1) h
 rw[Ce]at this;exact this.symm
theorem PN(dL:Sh w h)(Q:World w h g z u8 rk ek sk H)(hc:H[c]?=some (aR B))(hl:B.length=w*h)(hm:∀x∈B,k9 x):∀(l:List Nat) (s k:Nat) (ks sds:List Nat) (y:V),B.drop s=l->s+l.length=w*h->ks.length=7->sds.length=2->(∀j,ks.getD j 0<2^s)->(∀j,sds.getD j 0<2^s) ->
  ∃y',forLoop (body ⟨af d,mk⟩ (.ah 16) Wj) none ((jZ s l.length).map λn:Nat=>V.int n) (UA data w h g z n p c U rt ep hf fl k (.ref (H.length+1)) (.ref (H.length+2)) y) (H++[.list [.int 0],aR ks,aR sds]) =
   .ok .next (UA data w h g z n p c U rt ep hf fl (pO u8 l s k) (.ref (H.length+1)) (.ref (H.length+2)) y') (H++[.list [.int 0],aR (kX l s (ks,sds)).1,aR (kX l s (ks,sds)).2]):=by
 intro l;induction l with
 | nil=>exactλs k ks sds y J J J J J J=>⟨y,rfl⟩
 | cons x l ih=>
  intro s k ks sds y hd S h7 h2 b1 b2;have hn:=bq λq=>by rw[IF q]at hd;cases hd
  have hx:B[s]?=some x/\B.drop (s+1)=l:=by
   rw[kH hn]at hd;have:=NF hd;exact⟨by refine(cO hn).trans ?_;rw[this.1],this.2⟩
  have s25:=aq (hl▸hn) dL.sN
  have xm:=hm x (bU hx.1)
  have hs':s+1+l.length=w*h:=by simp only[<-S,dh,dA,b9 1]
  have up:∀ {x:Nat},x<2^s->x<2^(s+1):=λq=>aK q (kj (by decide) (gN s))
  have gg:∀ {E:List V} {N:St},eo E 7=some (.ref c)->eo E 16=some (.int s)->Ev ⟨af d,mk⟩ (.sub (.ah 7) (.ah 16)) E (H++N) (.int x) (H++N):=λh7 h16=>et (ag h7) (ag h16) (bv hc) (aK s25 (by decide)) hx.1
  have c0:=uc (gg (E:=UA data w h g z n p c U rt ep hf fl k (.ref (H.length+1)) (.ref (H.length+2)) (.int s)) (N:=[.list [.int 0],aR ks,aR sds]) rfl rfl) (bC 0)
  rw[JC,Cz];by_cases h0:x=0
  .rw[aF h0,aF h0];refine cP (ih (s+1) k ks sds (.int s) hx.2 hs' h7 h2 (λj=>up (b1 j)) λj=>up (b2 j)) λy' e=>?_
   exact⟨y',dE rfl (cA rfl rfl (cu c0 (aM _ (bp h0)) dQ)) e⟩
  .rw[aZ h0,aZ h0];refine d5 λGG Y=>?_
   have xm:=xm.resolve_left h0
   have i7:x%8<7:=hH xm.2.2
   have i2:x/8<2:=cU (aq xm.1 (aa rfl))
   refine nG Q.Kl.wH λzf zp rows=>Qi λz1 _ z2 z3 _ z5=>?_
   refine iJ (z5 x xm.1) λtJ zl=>mT λq1 _ q2 q3=>?_
   have p2:∀ {E:List V} {N:St},eo E 16=some (.int s)->Ev ⟨af d,mk⟩ (.aQ .qu (.ai 2) (.ah 16)) E N (.int (2^s:Nat)) N:=λh16=>sM (ag h16) (aK s25 (aa rfl))
   have lt:∀ {l:List Nat} {i:Nat} (v:Nat),(∀j,l.getD j 0<2^s)->∀j,(l.set i (l.getD i 0|||2^s)).getD j 0<2^(s+1):=λ{l i} v hb j=>by
    rw[bf,yB]
    split
    .split
     .show l.getD i 0|||2^s<_
      exact Nat.or_lt_two_pow (up (hb i)) (kj (by decide) (gN s))
     .exact eW _
    .skip;exact up (hb j)
   refine cP (ih (s+1) (k^^^u8 x s) (ks.set (x%8) (ks.getD (x%8) 0|||2^s)) (sds.set (x/8) (sds.getD (x/8) 0|||2^s)) (.int s) hx.2 hs' (aV.trans h7) (aV.trans h2) (lt 0 b1) (lt 0 b2)) λy' e=>?_
   refine Y ?_;refine⟨y',dE rfl (cA rfl rfl (de c0 (aM _ (bP h0)) ?_)) e⟩;refine gU rfl (et (lT (bg (ag rfl) (bv z1) z2) (gg rfl rfl) (bv z3) rfl (Nw (aK xm.1 (aa rfl))) (by skip;exact q1)) (ag rfl) (bv q2) (aK s25 (by decide)) (q3 s (hl▸hn))) (nC _ _) rfl ?_;refine vx (ag rfl) (je (gg rfl rfl) (bC 8) (by decide)) (bJ rfl rfl) (Nw (aK i7 (aa rfl))) (lq (getD_at h7 i7)) (p2 rfl) (m:=((ks.getD (x%8) 0|||2^s:Nat))) (by rw[<-M5 (b1 _)];rfl) (bJ rfl rfl) (by simp only[aB,h7];exact i7) ?_;simp only[js,dI];refine vx (ag rfl) (j7 (gg rfl rfl) (bC 8) (by decide) (aa rfl)) (bJ rfl rfl) (Nw (aK i2 (aa rfl))) (lq (getD_at h2 i2)) (p2 rfl) (m:=((sds.getD (x/8) 0|||2^s:Nat))) (by rw[<-M5 (b2 _)];rfl) (bJ rfl rfl) (by simp only[aB,h2];exact i2) ?_;simp only[js,dI];exact dQ
end
section
variable{C:Cx}{E sw ρ'':List V}{u re UF:St}{b hd ss:List MS}{r:RX}{v:V}{e:ME}{a:Nat}{ts:List Tg}{vs:List V}
theorem Ry(hb:Xs C b E u (.fY sw re))(hh:Xs C hd sw re (.ok (.ret v) ρ'' UF)):Xs C (.try b hd::ss) E u (.ok (.ret v) ρ'' UF):=
 ⟨(by rw[hb.eq];show(iH C hd sw re).next _=_;rw[hh.eq];rfl:(match iH C b E u with | .fY E u=>iH C hd E u | r=>r).next _=_)⟩
theorem Kw(hb:Xs C b E u (.ok .next sw re))(hr:Xs C ss sw re r):Xs C (.try b hd::ss) E u r:=
 ⟨(hb.eq▸hr.eq:(match iH C b E u with | .fY E u=>iH C hd E u | r=>r).next _=_)⟩
theorem Ky(he:Ev C e E re (.ref a) u)(h:u[a]?=some (.eY vs))(hl:vs.length=ts.length)(S:stores C ts vs E u=.ok .next sw u)(hr:Xs C ss sw u r):Xs C (.assign (.eY ts) e::ss) E re r:=
 ⟨(by
  rw[he.eq]
  show(match u[a]? with | some (.eY vs)=>if vs.length=ts.length then stores C ts vs E u else RX.cn | _=>RX.cn).next _=_
  rw[h]
  show(if vs.length=ts.length then stores C ts vs E u else RX.cn).next _=_
  rw[aF hl,S]
  exact hr.eq:((ev C e E re).then E λv u=>store C (.eY ts) v E u).next _=_)⟩
end
theorem J6{C:Cx}{E:List V}{H:St}{A:Ad}{v:Pv}{b7 b14 b15:Nat}(h6:eo E 6=some (.ref A.p))(h7:eo E 7=some (.ref b7))(h13:eo E 13=some (.int v.key))(h14:eo E 14=some (.ref b14))(h15:eo E 15=some (.ref b15))(P:eV A v H)(g7:H[b7]?=some (aR v.aN))(g14:H[b14]?=some (aR v.kinds))(g15:H[b15]?=some (aR v.cQ)):
  Ev C (.nX [(.cy (.aS (.ah 6) .aN) [.eq] [(.ah 7)]),(.cy (.aS (.ah 6) .kinds) [.eq] [(.ah 14)]),(.cy (.aS (.ah 6) .cQ) [.eq] [(.ah 15)]),(.cy (.aS (.ah 6) .key) [.eq] [(.ah 13)]),(.cy (.aS (.ah 6) .yr) [.eq] [(.list [])])]) E H (.bool true) (H++[aR []]):=by
 have at6:∀ {f:eM} {x:V},hP f (mW A v)=some x->Ev C (.aS (.ah 6) f) E H x H:=λh=>bg (ag h6) P.p h
 refine mj (j5 (at6 rfl) (gf (ag h7) (wa P.b g7))) ?_;refine mj (j5 (at6 rfl) (gf (ag h14) (wa P.k g14))) ?_;refine mj (j5 (at6 rfl) (gf (ag h15) (wa P.s g15))) ?_;refine mj (j5 (at6 rfl) (gf (ag h13) (aM some (bp rfl)))) ?_;exact uW (j5 (at6 rfl) (gf ⟨rfl⟩ (wa (l:=[]) (bv P.h) (dR _ _))))
theorem PM{C:Cx}{E:List V}{H:St}{A:Ad}{v:Pv}(h6:eo E 6=some (.ref A.p))(h8:eo E 8=some (.int v.bL))(h9:eo E 9=some (.int v.aX))(h10:eo E 10=some (.int v.ep))(h11:eo E 11=some (.int v.half))(h12:eo E 12=some (.int v.full))(h17:eo E 17=some (.bool true))(P:eV A v H):
  ∃x y,Ev C (.nX [(.ah 17),(.cy (.list [(.aS (.ah 6) .bL),(.aS (.ah 6) .aX),(.aS (.ah 6) .ep),(.aS (.ah 6) .half),(.aS (.ah 6) .full)]) [.eq] [(.list [(.ah 8),(.ah 9),(.ah 10),(.ah 11),(.ah 12)])])]) E H (.bool true) (H++[x,y]):=by
 have at6:∀ {f:eM} {x:V},hP f (mW A v)=some x->Ev C (.aS (.ah 6) f) E H x H:=λh=>bg (ag h6) P.p h
 have l:=iS (ak (at6 (f:=.bL) rfl) rfl (ak (at6 (f:=.aX) rfl) rfl (ak (at6 (f:=.ep) rfl) rfl (ak (at6 (f:=.half) rfl) rfl (ak (at6 (f:=.full) rfl) rfl aY)))))
 have m:=iS (C:=C) (u:=H++[.list [.int v.bL,.int v.aX,.int v.ep,.int v.half,.int v.full]]) (ak (ag h8) rfl (ak (ag h9) rfl (ak (ag h10) rfl (ak (ag h11) rfl (ak (ag h12) rfl aY)))))
 have e:=mj (ag h17) (uW (j5 l (gf m ((Ig (m:=[(v.bL:Int),v.aX,v.ep,v.half,v.full]) (bv (dR _ _)) (dR _ _)).trans (aM some (bp rfl))))))
 simp only[am]at e;exact⟨_,_,e⟩
theorem PO{C:Cx}{E:List V}{H:St}{p:Nat}{data:List Nat}(h6:eo E 6=some (.ref p))(h0:eo E 0=some (.bytes data))(h17:eo E 17=some (.bool true))(hc:C.call C.mark .gI [.ref p] H=.ok (.bytes data) H):
  Ev C (.nX [(.ah 17),(.cy (.call .gI [(.ah 6)]) [.eq] [(.ah 0)])]) E H (.bool true) H:=
 mj (ag h17) (uW (j5 (bw (ak (ag h6) rfl aY) hc) (gf (ag h0) (aM some (bp rfl)))))
noncomputable def UB(data:List Nat)(w h g z:Nat):List V:=[.bytes data,.int w,.int h,.ref g,.ref z,.av,.av,.av,.av,.av,.av,.av,.av,.av,.av,.av,.av,.av]
noncomputable def Wk(data:List Nat)(w h g z n p:Nat):List V:=[.bytes data,.int w,.int h,.ref g,.ref z,.ref n,.ref p,.av,.av,.av,.av,.av,.av,.av,.av,.av,.av,.av]
noncomputable def Vb(data:List Nat)(w h g z n p c:Nat)(t:Pv):List V:=[.bytes data,.int w,.int h,.ref g,.ref z,.ref n,.ref p,.ref c,.int t.bL,.int t.aX,.int t.ep,.int t.half,.int t.full,.av,.av,.av,.av,.av]
noncomputable def PP(data:List Nat)(w h g z n p c:Nat)(t:Pv)(k:Nat)(x y cr:V):List V:=UA data w h g z n p c t.bL t.aX t.ep t.half t.full k x y cr
section
variable{d mk w h g z:Nat}{u8:Nat->Nat->Nat}{rk ek:Nat->Nat}{sk:Nat}{u:St}{data:List Nat}
theorem EG(dL:Sh w h)(Q:World w h g z u8 rk ek sk u)(hd:∀b∈data,b<256)(hl:data.length<=100)(hm:mk<=u.length):
  match kv (cK data) (8*data.length) w h with
  | none=>∃N,af (d+6) mk .nU [.bytes data,.ref g,.ref z] u=.fY (u++N)
  | some t=>∃v e x,v.aN=t.B/\(kX t.B 0 (aw 7 0,[0,0]))=(v.kinds,v.cQ)/\jW v=t/\v.key=Gr u8 rk ek sk w t.B t.bL t.aX t.ep/\af (d+6) mk .nU [.bytes data,.ref g,.ref z] u=.ok (.ref (u.length+1)) (gH u g z (cK data) (8*data.length) v e++[x]):=by
 have db:=Ua (d:=d) dL Q hd hl hm
 generalize hr:iH ⟨af (d+5),mk⟩ cY [.bytes data,.ref g,.ref z,.av,.av] u=r at db;generalize kv (cK data) (8*data.length) w h=o at db;cases db with
 | @none E N=>exact⟨N,MO cY [.bytes data,.ref g,.ref z,.av,.av] rfl rfl rfl rfl ⟨hr⟩⟩
 | @some t E e v x hb hc S hr' he hh hf hk=>
  refine⟨v,e,x,hb,hc,?_,hk,Di cY [.bytes data,.ref g,.ref z,.av,.av] rfl rfl rfl rfl ⟨hr⟩ rfl⟩;simp only[jW,hb,S,hr',he,hh,hf]
theorem Sw{v:Pv}{n:Nat}(hl:v.aN.length=n)(hm:∀p∈v.aN,k9 p)(ht:kX v.aN 0 (aw 7 0,[0,0])=(v.kinds,v.cQ)):xp n v:=by
 have t:=pK hm (l:=v.aN) (n:=0) (U:=[0,0]) rfl (kK (n:=0) λJ=>rfl) (kK (n:=0) λJ=>rfl)
 rw[ht]at t;exact⟨hl,hm,t.1,t.2⟩
theorem OY{bL r:Nat}{ep:Int}(S:bL<2):(if 0<=ep then(rk r^^^sk*bL)^^^ek (ep.toNat%w)else rk r^^^sk*bL)=iM sk bL (oM ek w ep (rk r)):=by
 unfold iM oM;refine bN (dO.mp S) (λq=>?_) λOn=>?_
 .obtain rfl:bL=0:=f3.mp q;simp only[Ki,Nat.xor_zero];rfl
 .subst On;rw[Cf]
  split
  .rw[aF rfl,UE,Nat.xor_comm sk,<-UE]
  .rfl
theorem SI{H po:St}{v:Pv}{p ka kb:Nat}(dL:Sh w h)(QH:World w h g z u8 rk ek sk H)(R:M7 data w h ka kb (jW v))(P:eV (gE p g z) v H)(vt:kX v.aN 0 (aw 7 0,[0,0])=(v.kinds,v.cQ))(vk:v.key=Gr u8 rk ek sk w v.aN v.bL v.aX v.ep)(D1:H[u.length]?=some (aR v.aN))(D2:H[u.length+1]?=some (.eY [.ref u.length,.int v.bL,.int v.aX,.int v.ep,.int v.half,.int v.full]))(pp:∀N,af (d+7) u.length .gI [.ref p] (H++N)=.ok (.bytes data) (H++N))(rd:af (d+7) u.length .xo [.bytes data,.int w,.int h] u=.ok (.ref (u.length+1)) po)(gp:af (d+7) u.length .nU [.bytes data,.ref g,.ref z] po=.ok (.ref p) H)(beh:∃N,H=u++N):
  af (d+8) mk .lG [.bytes data,.int w,.int h,.ref g,.ref z] u=.ok (.bool true) u:=by
 refine d5 λGG Y=>?_
 have Rs:v.bL<2:=R.bL
 have Rl:v.aN.length=w*h:=R.len
 refine SY QH.key.all λzf zr rl ze el=>Rv λz1 z2 z3 z4 z5 z6 z7 z8=>?_
 have tn:Bo ⟨af (d+7),u.length⟩ (.cy (.ah 5) [.is] [.lW]) (Wk data w h g z (u.length+1) p) H false H:=dg (ag rfl) ⟨rfl⟩
 have sA:∀ {r:RX},Xs ⟨af (d+7),u.length⟩ (jo.drop 4) (Vb data w h g z (u.length+1) p u.length v) H r->Xs ⟨af (d+7),u.length⟩ jo (UB data w h g z) u r:=λhr=>
  bG (bw ⟨rfl⟩ rd) rfl rfl (Kw (bG (bw ⟨rfl⟩ gp) rfl rfl dQ) (cu tn rfl (Ky (ag rfl) D2 rfl rfl hr)))
 have km:binI .fm sk v.bL=some ((sk*v.bL):Int):=(Dp (by simp only[cF];exact .inr (bp (aK R.bL (aa rfl))))).trans (aM some (DB _ _).symm)
 have k0:Ev ⟨af (d+7),u.length⟩ (.aQ .Ay (.sub (.aS (.ah 4) .aX) (.ah 9)) (.aQ .fm (.aS (.ah 4) .bL) (.ah 8))) (Vb data w h g z (u.length+1) p u.length v) H (.int (rk v.aX^^^sk*v.bL)) H:=
  df (et (bg (ag rfl) z1 z2) (ag rfl) z3 (aK R.aX (aa rfl)) (z4 _ R.aX)) (df (bg (ag rfl) z1 z8) (ag rfl) km) (nC _ _)
 have sB:∀ {r:RX},Xs ⟨af (d+7),u.length⟩ (jo.drop 6) (PP data w h g z (u.length+1) p u.length v (iM sk v.bL (oM ek w v.ep (rk v.aX))) .av .av .av) H r->Xs ⟨af (d+7),u.length⟩ (jo.drop 4) (Vb data w h g z (u.length+1) p u.length v) H r:=λ{r} hr=>by
  rw[<-OY Rs]at hr;refine bG k0 rfl rfl ?_;by_cases he:0<=v.ep
  .rw[aF he]at hr;have hm:binI .iq v.ep w=some ((v.ep.toNat%w:Nat):Int):=(rA (bK.mpr dL.w0)).trans (aM some (by simp only[SV,fj he]));have lt:=dK v.ep.toNat dL.w0;exact de ⟨rfl⟩ (bp he) (gU rfl (et (bg (ag rfl) z1 z5) (df (ag rfl) (ag rfl) hm) z6 (aq lt (ae dL.w8 (aa rfl))) (z7 _ lt)) (nC _ _) rfl hr)
  .rw[aZ he]at hr;exact cu ⟨rfl⟩ (bP he) hr
 obtain⟨y,lp⟩:=PN dL QH D1 Rl R.wH v.aN 0 (iM sk v.bL (oM ek w v.ep (rk v.aX))) (aw 7 0) [0,0] .av rfl (by simp only[cx];exact Rl) rfl rfl (by
  intro j;simp only[bf,lS]
  split<;>exact rW) (by
  intro j
  match j with
  | 0=>exact rW
  | 1=>exact rW
  | j+2=>exact rW)
 rw[vt,Rl,<-fD,show pO u8 v.aN 0 (iM sk v.bL (oM ek w v.ep (rk v.aX)))=v.key from vk.symm]at lp;have I:=ej (u:=H++[.list [.int 0],aR (aw 7 0),aR [0,0]]) (ae dL.sN (aa rfl));have n7:=yW (C:=⟨af (d+7),u.length⟩) (E:=PP data w h g z (u.length+1) p u.length v (iM sk v.bL (oM ek w v.ep (rk v.aX))) .av .av .av) (u:=H) (n:=7) (iS (ak (bh (k:=0)) rfl aY)) (aa rfl) bh;have n2:Ev ⟨af (d+7),u.length⟩ (.list [(.ai 0),(.ai 0)]) (PP data w h g z (u.length+1) p u.length v (iM sk v.bL (oM ek w v.ep (rk v.aX))) (.ref (H.length+1)) .av .av) (H++[.list [.int 0],aR (aw 7 0)]) (.ref (H.length+2)) (H++[.list [.int 0],aR (aw 7 0),aR [0,0]]):=by
  have q:=tL (C:=⟨af (d+7),u.length⟩) (E:=PP data w h g z (u.length+1) p u.length v (iM sk v.bL (oM ek w v.ep (rk v.aX))) (.ref (H.length+1)) .av .av) (ak (bh (k:=0)) rfl (ak (bh (k:=0)) rfl aY)) (by refine aj.trans ?_;rfl:(H++[O.list [V.int 0],aR (aw 7 0)]).length=H.length+2)
  simp only[am]at q;exact q
 have sC:∀ {r:RX},Xs ⟨af (d+7),u.length⟩ (jo.drop 9) (PP data w h g z (u.length+1) p u.length v v.key (.ref (H.length+1)) (.ref (H.length+2)) y) (H++[.list [.int 0],aR v.kinds,aR v.cQ]) r->Xs ⟨af (d+7),u.length⟩ (jo.drop 6) (PP data w h g z (u.length+1) p u.length v (iM sk v.bL (oM ek w v.ep (rk v.aX))) .av .av .av) H r:=λhr=>
  bG n7 rfl rfl (bG n2 rfl rfl (iQ (iR (ak (gr (ag rfl) (ag rfl) (az dL.w8 (aa rfl))) rfl aY) I.1) I.2 lp hr))
 have P3:=P.ky [.list [.int 0],aR v.kinds,aR v.cQ]
 have e9:=J6 (C:=⟨af (d+7),u.length⟩) (E:=PP data w h g z (u.length+1) p u.length v v.key (.ref (H.length+1)) (.ref (H.length+2)) y) rfl rfl rfl rfl rfl P3 (bv D1) (bJ rfl rfl) (bJ rfl rfl)
 simp only[am]at e9;refine iJ (PM (C:=⟨af (d+7),u.length⟩) (E:=(PP data w h g z (u.length+1) p u.length v v.key (.ref (H.length+1)) (.ref (H.length+2)) y).set 17 (.bool true)) rfl rfl rfl rfl rfl rfl rfl (P.ky ([.list [.int 0],aR v.kinds,aR v.cQ]++[aR []]))) λx1 x2 e10=>?_
 rw[am]at e10;have e11:=λN=>PO (C:=⟨af (d+7),u.length⟩) (E:=((PP data w h g z (u.length+1) p u.length v v.key (.ref (H.length+1)) (.ref (H.length+2)) y).set 17 (.bool true)).set 17 (.bool true)) rfl rfl rfl (pp N)
 obtain⟨N,beh⟩:=beh;have done:=sA (sB (sC (bG e9 rfl rfl (bG e10 rfl rfl (dN (e11 _))))));rw[beh,am]at done;refine Y ?_;exact iW jo (UB data w h g z) rfl rfl rfl rfl (cR rfl) done
theorem PL{po:St}{t:Told}(dL:Sh w h)(Q1:World w h g z u8 rk ek sk po)(hd:∀b∈data,b<256)(hl:data.length<=100)(ho:kv (cK data) (8*data.length) w h=some t)(rd:af (d+7) u.length .xo [.bytes data,.int w,.int h] u=.ok (.ref (u.length+1)) po)(l1:po.length=u.length+2)(C1:po[u.length]?=some (aR t.B))(C2:po[u.length+1]?=some (.eY [.ref u.length,.int t.bL,.int t.aX,.int t.ep,.int t.half,.int t.full]))(pre:∃N,po=u++N):
  af (d+8) mk .lG [.bytes data,.int w,.int h,.ref g,.ref z] u=.ok (.bool true) u:=by
 refine d5 λGG Y=>?_
 refine iJ (TF dL hd ho) λka kb R=>?_
 have gp:=EG (d:=d+1) dL Q1 hd hl (l1▸aW _ _)
 simp only[ho]at gp;obtain⟨v,e,x,vb,vt,vo,vk,gp⟩:=gp;subst vo;have P:=wZ (u:=po) (N:=[x]) (g:=g) (z:=z) (W:=cK data) (c:=8*data.length) (v:=v) (a:=e);have inH:∀ {a:Nat} {o:O},po[a]?=some o->(gH po g z (cK data) (8*data.length) v e++[x])[a]?=some o:=λq=>bv (bv q)
 have beh:∃N,gH po g z (cK data) (8*data.length) v e++[x]=u++N:=by
  refine cP pre λτ0 e0=>?_
  simp only[gH,am];exact⟨τ0++_,(aM (· ++ _) e0).trans (am ..)⟩
 have QH:=Q1.to λJ J=>inH
 have C:=Sw R.len R.wH vt
 have K:kP w h v.aN ka kb:=R.vV
 have pp:=λN=>by
  have pp:=Bk (d:=d+2) (mk:=u.length) dL (P.ky N) C K (QH.ky N).qN (by
   exact R.ep.imp (λe=>Qa (Int.le_of_eq e) (bc rfl)) λ⟨q,e,_⟩=>⟨q,e⟩)
  rw[aF (⟨R.half,R.full.1,R.full.2⟩),R.back]at pp;exact pp
 refine Y ?_;exact SI dL QH R P vt vk (inH C1) (inH C2) pp rd gp beh
theorem J5(dL:Sh w h)(Q:World w h g z u8 rk ek sk u)(hd:∀b∈data,b<256)(hl:data.length<=100)(hw:w*h-1<2^5)(hn:Nu 5 (w*h-1)=aC (w*h)):
  af (d+8) mk .lG [.bytes data,.int w,.int h,.ref g,.ref z] u=.ok (.bool true) u:=by
 have n5:aC (w*h)<=5:=by unfold aC;split<;>decide
 have rd:=Oh (d:=d) (mk:=u.length) Q.tabs hd hl hw hn n5 dL.w0 dL.h0 dL.w8 dL.h8 dL.sN
 have s0:∀ {v:V} {re:St},af (d+7) u.length .xo [.bytes data,.int w,.int h] u=.ok v re->Ev ⟨af (d+7),u.length⟩ (.call .xo [(.ah 0),(.ah 1),(.ah 2)]) (UB data w h g z) u v re:=λhc=>bw ⟨rfl⟩ hc
 refine ny (kv (cK data) (8*data.length) w h) (λho=>?_) λt ho=>?_
 ·
  simp only[ho]at rd;have gp:=EG (d:=d+1) dL Q hd hl (cH _);simp only[ho]at gp;obtain⟨N,gp⟩:=gp;apply iW jo (UB data w h g z) rfl rfl rfl rfl (re:=u++N) (cR rfl);exact bG (s0 rd) rfl rfl (Ry (ip (nB ⟨rfl⟩ gp)) ⟨rfl⟩)
 ·
  simp only[ho]at rd;exact PL dL (Q.ky _) hd hl ho rd aj (bJ (i:=0) rfl rfl) (bJ rfl rfl) ⟨_,rfl⟩
end
theorem PE{d mk v:Nat}{data:List Nat}{u:St}(hd:∀b∈data,b<256)(hl:data.length<=200):∃data',af (d+1) mk .Ap [.bytes data,.int v] u=.ok (.bytes data') u/\(∀b∈data',b<256)/\data'.length<=data.length+1:=by
 refine d5 λGG Y=>?_
 have ld:data.length<=hV:=ae hl (aa rfl)
 have k0:Ev ⟨af d,u.length⟩ (.aQ .ey (.ah 1) (.ai 5)) [.bytes data,.int v,.av,.av,.av] u (.int (v/5:Nat)) u:=j7 (ag rfl) (bC 5) (by decide) (aa rfl)
 have m5:∀ {n:Nat},Bo ⟨af d,u.length⟩ (.cy (.aQ .iq (.ah 1) (.ai 5)) [.eq] [(.ai n)]) [.bytes data,.int v,.int (v/5:Nat),.av,.av] u (decide (v%5=n)) u:=w_eq ⟨rfl⟩ (bC _)
 have ln:∀ {E:List V} {N:St},eo E 0=some (.bytes data)->Ev ⟨af d,u.length⟩ (.bi .len [(.ah 0)]) E N (.int data.length) N:=λh0=>pC (ak (ag h0) rfl aY) (aF ld)
 have go:∀ {sw:List V} {data':List Nat} {N:St},Xs ⟨af d,u.length⟩ (Ai.drop 1) [.bytes data,.int v,.int (v/5:Nat),.av,.av] u (.ok (.ret (.bytes data')) sw (u++N))->af (d+1) mk .Ap [.bytes data,.int v] u=.ok (.bytes data') u:=λh=>
  b6 Ai [.bytes data,.int v,.av,.av,.av] rfl rfl rfl rfl (bG k0 rfl rfl h) (aM _ (cR rfl))
 by_cases h3:v%5=3
 .have mx:Ev ⟨af d,u.length⟩ (.bi .Gj [(.ai 1),(.bi .len [(.ah 0)])]) [.bytes data,.int v,.int (v/5:Nat),.av,.av] u (.int (if(1:Int)<data.length then data.length else 1)) u:=pC (ak bh rfl (ak (ln rfl) rfl aY)) rfl
  obtain⟨m,e,m0⟩:∃m:Nat,(if(1:Int)<data.length then(data.length:Int)else 1)=m/\0<m:=by
   split
   .rename_i q;exact⟨_,rfl,by lia⟩
   .exact⟨1,rfl,by decide⟩
  rw[e]at mx;have sl:ji (.bytes data) .none (.int (v/5%m:Nat)) u=.ok (.bytes (cut data 0 (v/5%m))) u:=aF ld;refine Y ?_;refine⟨cut data 0 (v/5%m),go (N:=[]) (sw:=[.bytes data,.int v,.int (v/5:Nat),.av,.av]) ?_,λb hb=>hd b (Kr hb),ae (List.length_take_le' ..) (i4 _)⟩;simp only[aP];exact de m5 (bp h3) (dN (qT (ag rfl) rfl (je (ag rfl) mx m0).eq sl))
 .have h3:=bP h3
  by_cases h4:v%5=4
  .have l1:=iS (C:=⟨af d,u.length⟩) (E:=[.bytes data,.int v,.int (v/5:Nat),.av,.av]) (u:=u) (ak (je (ag (j:=2) rfl) (bC 3) (by decide)) rfl aY)
   have b1:=pC (ak l1 rfl aY) (td (l:=[v/5%3]) (dR u _) (aa rfl) λb hb=>by exact(bM.mp hb)▸(aK (dK _ (by decide)) (by decide)))
   refine Y ?_;refine⟨data++[v/5%3],go (cu m5 h3 (de m5 (bp h4) (dN (yX (ag rfl) b1 ((aF ⟨rfl,ae (bI hl 1) (aa rfl)⟩)))))),λb hb=>?_,by rw[aj];exact cH _⟩;refine bN (dk.mp hb) (λhb=>?_) λhb=>?_
   .exact hd b hb
   .exact(bM.mp hb)▸(aK (dK _ (by decide)) (by decide))
  .have h4:=bP h4
   have l1:Ev ⟨af d,u.length⟩ (.bi .list [(.ah 0)]) [.bytes data,.int v,.int (v/5:Nat),.av,.av] u (.ref u.length) (u++[aR data]):=pC ⟨rfl⟩ (aF ld)
   have ne:=dg (ag (C:=⟨af d,u.length⟩) (E:=[.bytes data,.int v,.int (v/5:Nat),.ref u.length,.av]) (u:=u++[aR data]) (j:=3) rfl) (gf (iS aY) (zX (bv (dR _ _)) (dR _ _)))
   have by':∀ {l:List Nat} {x4:V} {N:St},(∀b∈l,b<256)->l.length=data.length->N[0]?=some (aR l)->Ev ⟨af d,u.length⟩ (.bi .bytes [(.ah 3)]) [.bytes data,.int v,.int (v/5:Nat),.ref u.length,x4] (u++N) (.bytes l) (u++N):=λhb hl' ht=>pC ⟨rfl⟩ (td (bJ rfl ht) (hl'▸ld) hb)
   simp only[am]at ne;by_cases h0:data=[]
   .refine Y ?_;refine⟨data,go (cu m5 h3 (cu m5 h4 (bG l1 rfl rfl (cu ne (aM _ (bp h0)) (dN (by' hd rfl rfl)))))),hd,i4 _⟩
   .have l0:=List.length_pos_iff.mpr h0
    have lt:v/5%(8*data.length)<8*data.length:=dK _ (lY (by decide) l0)
    have l8:=cU lt
    have ol:Ev ⟨af d,u.length⟩ (.bi .len [(.ah 3)]) [.bytes data,.int v,.int (v/5:Nat),.ref u.length,.av] (u++([aR data]++[.list []])) (.int data.length) (u++([aR data]++[.list []])):=by
     have q:=pC (C:=⟨af d,u.length⟩) (E:=[.bytes data,.int v,.int (v/5:Nat),.ref u.length,.av]) (ak (ag (j:=3) rfl) rfl aY) (xd (bJ (i:=0) rfl rfl:(u++([aR data]++[O.list []]))[u.length]?=some (aR data)) (by rw[aB];exact ld))
     rwa [aB]at q
    have s4:=je (ag (j:=2) rfl) (gr (bC 8) ol (aa rfl)) (lY (by decide) l0)
    have dx:=hd _ (bU (getD_at rfl l8))
    have m8:v/5%(8*data.length)%8<8:=dK _ (by decide)
    have xs:∀b∈data.set (v/5%(8*data.length)/8) (data.getD (v/5%(8*data.length)/8) 0^^^2^(v/5%(8*data.length)%8)),b<256:=λb hb=>by
     refine bN (kF hb) (λhb=>?_) λOn=>?_
     .exact hd b hb
     .subst On;exact Nat.xor_lt_two_pow dx (kj (aa rfl) m8)
    refine Y ?_;refine⟨data.set (v/5%(8*data.length)/8) (data.getD (v/5%(8*data.length)/8) 0^^^2^(v/5%(8*data.length)%8)),go (sw:=[.bytes data,.int v,.int (v/5:Nat),.ref u.length,.int (v/5%(8*data.length):Nat)]) (N:=[aR (data.set (v/5%(8*data.length)/8) (data.getD (v/5%(8*data.length)/8) 0^^^2^(v/5%(8*data.length)%8))),.list []]) (cu m5 h3 (cu m5 h4 (bG l1 rfl rfl (de ne (aM _ (bP h0)) (bG s4 rfl rfl ?_))))),xs,by rw[aV];exact i4 _⟩;refine vx (ag rfl) (j7 (ag rfl) (bC 8) (by decide) (aa rfl)) (show(u++([aR data]++[O.list []]))[u.length]?=some (aR data)from bJ (i:=0) rfl rfl) (Nw (aq l8 (ae hl (aa rfl)))) (lq (getD_at rfl l8)) (sM (je (ag rfl) (bC 8) (by decide)) (aK m8 (aa rfl))) (nC _ _) (show(u++([aR data]++[O.list []]))[u.length]?=some (aR data)from bJ (i:=0) rfl rfl) (by simp only[aB];exact l8) ?_;simp only[js,show(u++([aR data]++[O.list []])).set u.length _=_ from dI (i:=0)];exact dN (by' xs aV rfl)
structure AB(w h ka kb:Nat)(B:List Nat):Prop where
 len:B.length=w*h
 wH:∀p∈B,k9 p
 vV:kP w h B ka kb
 ne:ka≠kb
theorem AB.put{w h ka kb:Nat}{B:List Nat}(X:AB w h ka kb B){s p:Nat}(S:s<w*h)(h0:B.getD s 0=0)(hp:k9 p)(h6:p≠6)(h14:p≠14):AB w h ka kb (B.set s p):=by
 have sl:=X.len▸S
 have na:s≠ka:=λe=>by rw[(X.vV.a s).mpr e]at h0;exact nomatch h0
 have nb:s≠kb:=λe=>by rw[(X.vV.b s).mpr e]at h0;exact nomatch h0
 refine⟨by refine aV.trans ?_;exact X.len,λx hx=>(kF hx).elim (X.wH x) λe=>e▸hp,⟨X.vV.la,X.vV.lb,λi=>?_,λi=>?_⟩,X.ne⟩
 .rw[ju sl]
  split
  .rename_i e;exact⟨λq=>absurd q h6,λq=>absurd (e.trans q) na⟩
  .exact X.vV.a i
 .rw[ju sl]
  split
  .rename_i e;exact⟨λq=>absurd q h14,λq=>absurd (e.trans q) nb⟩
  .exact X.vV.b i
theorem yO{B:List Nat}{s p:Nat}(h0:B.getD s 0=0)(S:s<B.length):(B.set s p).set s 0=B:=by
 rw[dJ];refine P8 λi=>?_
 refine yB.trans ?_
 split
 .rename_i e;subst e;simp only[yt S,h0]
 .rfl
noncomputable def zm(w a b:Nat):Bool:=decide ((if((((a%w:Nat):Int)-(b%w:Nat)).natAbs:Int)<(((a/w:Nat):Int)-(b/w:Nat)).natAbs then((((a/w:Nat):Int)-(b/w:Nat)).natAbs:Int)else((((a%w:Nat):Int)-(b%w:Nat)).natAbs:Int))<2)
noncomputable def zx(w n a:Nat):Nat->Nat->Option Nat
 | 0,_=>none
 | m+1,b=>if zm w a b=true then zx w n a m ((b+1)%n)else some b
theorem HT{w n a m b:Nat}:zx w n a (m+1) b=if zm w a b=true then zx w n a m ((b+1)%n)else some b:=rfl
theorem JB{w h:Nat}(H:mX w h):∀a,a<w*h->∀b,b<w*h->(zx w (w*h) a 20 b).isSome=true:=kB (P:=λw h=>∀a,a<w*h->∀b,b<w*h->(zx w (w*h) a 20 b).isSome=true) (by decide +kernel) (by decide +kernel) (by decide +kernel) (by decide +kernel) H
theorem Jw{w a:Nat}:zm w a a=true:=by
 rw[zm,Vl,Vl];rfl
section
variable{d mk w h a U ka kb:Nat}{u:St}{B:List Nat}{E:List V}
theorem Hw{WK s p j:Nat}{e:ME}{ss:List MS}(dL:Sh w h)(kt:qG u)(X:AB w h ka kb B)(hB:u[a]?=some (aR B))(IN:U<2)(S:s<w*h)(h0:B.getD s 0=0)(hp:k9 p)(h6:p≠6)(h14:p≠14)(l0:eo E 0=some (.ref a))(l1:eo E 1=some (.int w))(l2:eo E 2=some (.int h))(l3:eo E 3=some (.int U))(lj:eo E j=some (.int s))(he:Ev ⟨af (d+2),WK⟩ e E u (.int p) u)(ha:19<a):
  ∃B',AB w h ka kb B'/\Xs ⟨af (d+2),WK⟩ (.assign (.sub (.ah 0) (.ah j)) e::.fB (.val (.call .qg [(.ah 0),(.ah 1),(.ah 2),(.ah 3)])) [.assign (.sub (.ah 0) (.ah j)) (.ai 0)] []::ss) E u (iH ⟨af (d+2),WK⟩ ss E (u.set a (aR B'))):=by
 have X':=X.put S h0 hp h6 h14
 have big:s<4096:=aq S (ae dL.sN (aa rfl))
 have sB:=X.len▸S
 have T':qG (u.set a (aR (B.set s p))):=λi o q=>by
  have:i<20:=(aJ.mp q).1
  refine(bQ (by lia)).trans ?_;exact kt i o q
 have op:=CP (d:=d) (mk:=WK) T' (fT hB) X'.len dL.w0 dL.w8 dL.h8 IN
 have st:∀ {q:Nat} {e:ME} {N:St} {f4:List Nat} {ss:List MS} {r:RX},Ev ⟨af (d+2),WK⟩ e E N (.int q) N->N[a]?=some (aR f4)->f4.length=w*h->Xs ⟨af (d+2),WK⟩ ss E (N.set a (aR (f4.set s q))) r->Xs ⟨af (d+2),WK⟩ (.assign (.sub (.ah 0) (.ah j)) e::ss) E N r:=λhe hM hl hr=>by
  refine sx he (ag l0) (ag lj) hM ⟨cL s,bK.mpr big,by simp only[aB,hl];exact S⟩ rfl ?_;rw[js];exact hr
 have ca:=j9 (bw (C:=⟨af (d+2),WK⟩) (f:=.qg) (ak (ag l0) rfl (ak (ag l1) rfl (ak (ag l2) rfl (ak (ag l3) rfl aY)))) op) rfl
 by_cases ho:sI w h (B.set s p) U=true
 .refine⟨B,X,st he hB X.len (de ca ho (st (q:=0) bh (fT hB) X'.len ?_))⟩;rw[dJ,yO h0 sB];exact⟨rfl⟩
 .exact⟨B.set s p,X',st he hB X.len (cu ca (bF ho) ⟨rfl⟩)⟩
end
section
variable{d mk w h:Nat}{u:St}
noncomputable def kq:MB:=.cy (.bi .Gj [(.bi .Iq [(.aQ .sub (.aQ .iq (.ah 8) (.ah 2)) (.aQ .iq (.ah 9) (.ah 2)))]),(.bi .Iq [(.aQ .sub (.aQ .ey (.ah 8) (.ah 2)) (.aQ .ey (.ah 9) (.ah 2)))])]) [.lt] [(.ai 2)]
noncomputable def Wd:List MS:=[.assign (.ah 9) (.aQ .iq (.aQ .ei (.ah 9) (.ai 1)) (.ah 4))]
theorem TZ{C:Cx}{E:List V}{N:St}{a b:Nat}(w0:0<w)(w8:w<=8)(l2:eo E 2=some (.int w))(l8:eo E 8=some (.int a))(l9:eo E 9=some (.int b)):Bo C kq E N (zm w a b) N:=by
 have w9:=az w8 (by decide:8<1073741824)
 have x:=pC (C:=C) (f:=.Iq) (ak (df (op:=.sub) (je (ag (u:=N) l8) (ag l2) w0) (je (ag l9) (ag l2) w0) rfl) rfl aY) rfl
 have y:=pC (C:=C) (f:=.Iq) (ak (df (op:=.sub) (j7 (ag (u:=N) l8) (ag l2) w0 w9) (j7 (ag l9) (ag l2) w0 w9) rfl) rfl aY) rfl
 exact dg (pC (ak x rfl (ak y rfl aY)) rfl) (pF bh)
theorem Jy{a n b':Nat}{x0 x1 x3 x5 x6 x7:V}(w0:0<w)(w8:w<=8)(hn:0<n):∀(m b:Nat),zx w n a m b=some b'->∀k,m<=k->whileLoop (λE u=>nA ⟨af d,mk⟩ kq E u) (λE u=>iH ⟨af d,mk⟩ Wd E u) k [x0,x1,.int w,x3,.int n,x5,x6,x7,.int a,.int b] u=.ok .next [x0,x1,.int w,x3,.int n,x5,x6,x7,.int a,.int b'] u/\zm w a b'=false:=by
 intro m;induction m with
 | zero=>intro b h;exact nomatch h
 | succ m ih=>
  intro b h k hk;obtain⟨k,rfl⟩:∃k',k=k'+1:=⟨k-1,(fH (ae (io (fe m)) hk)).symm⟩;have c:=TZ (C:=⟨af d,mk⟩) (E:=[x0,x1,.int w,x3,.int n,x5,x6,x7,.int a,.int b]) (N:=u) w0 w8 rfl rfl rfl;simp only[HT]at h;by_cases q:zm w a b=true
  .rw[aF q]at h;refine cJ (λe z=>?_) (ih _ h k (Kj hk));exact⟨Hs (c.to q) (bG (je ⟨rfl⟩ (ag rfl) hn) rfl rfl dQ) e,z⟩
  .rw[aZ q]at h;obtain rfl:=aD h;exact⟨Cw (c.to (bF q)),bF q⟩
theorem Ex{a n b':Nat}(hn:0<n):∀(m b:Nat),b<n->zx w n a m b=some b'->b'<n
 | 0,_,_,h=>by exact nomatch h
 | m+1,b,hb,h=>by
  simp only[HT]at h
  split at h
  .exact Ex hn m _ (dK _ hn) h
  .obtain rfl:=aD h;exact hb
theorem CM{l:List Int}{i:Nat}{m:Nat}(hm:0<m):∃cr:Nat,Ed l i m=cr/\cr<m:=by
 refine cJ (λh1 h2=>?_) (Oo (l:=l) (i:=i) (bK.mpr hm));refine cP (fy h1) λcr hu=>?_
 exact⟨cr,hu,bK.mp (hu▸h2)⟩
theorem JA{na i:Nat}{l:List Int}(dL:Sh w h)(hA:u[na]?=some (.list (l.map V.int)))(hl:l.length<=hV)(hi:i<4000):∃B ka kb,AB w h ka kb B/\af (d+2) mk .Iv [.ref na,.int i,.int w,.int h] u=.ok (.ref u.length) (u++[aR B]):=by
 refine d5 λGG Y=>?_
 have n0:=lY dL.w0 dL.h0
 have m3:0<3*(w*h):=lY (by decide) n0
 obtain⟨cr,eu,lu⟩:=CM m3;refine cP (CM (l:=l) (i:=i+1) m3) λv=>cJ λev' lv=>?_
 have w9:=az dL.w8 (by decide:8<4096)
 have ww:=tC w dL.h0
 have w2:w/2<w:=S7 dL.w0 (aa rfl)
 obtain⟨a,ea,la⟩:∃a,a=(if cr%3=0 then w/2 else cr/3)/\a<w*h:=⟨_,rfl,by split;exact aq w2 ww;exact cU lu⟩;obtain⟨b,eb,lb⟩:∃b,b=(if v%3=0 then w*h-w+w/2 else v/3)/\b<w*h:=⟨_,rfl,by
  split
  .exact aq (fg w2 _) (d0 (fH ww))
  .exact cU lv⟩
 refine cP (iN.mp (JB dL.ok a la b lb)) λb' hb'=>?_
 have lb':=Ex n0 20 b lb hb'
 refine cJ (λwl nr=>?_) (Jy (d:=d+1) (mk:=u.length) (u:=u++[.list [.int 0],aR (aw (w*h) 0)]) (x0:=.ref na) (x1:=.int i) (x3:=.int h) (x5:=.ref (u.length+1)) (x6:=.int cr) (x7:=.int v) dL.w0 dL.w8 n0 20 b hb' qn (aa rfl));have ne:a≠b':=λe=>by rw[e,Jw]at nr;exact nomatch nr
 have X:AB w h a b' (((aw (w*h) 0).set a 6).set b' 14):=by
  refine cJ (λC hB=>?_) (two_cor (u8:=λJ J=>0) (v:=j6 (w*h)) rfl rfl rfl la lb' ne);exact⟨C.len,C.wH,two_kings la lb' ne hB λJ J=>rfl,ne⟩
 have sz:∀ {N:St} {E:List V},eo E 2=some (.int w)->eo E 3=some (.int h)->Ev ⟨af (d+1),u.length⟩ (.aQ .fm (.ah 2) (.ah 3)) E N (.int (w*h:Nat)) N:=λh2 h3=>gr (ag h2) (ag h3) w9
 have pk:∀ {i cr:Nat} {N:St},i<4096->Ed l i (3*(w*h):Nat)=cr->af (d+1) u.length .iY [.ref na,.int i,.int (3*(w*h):Nat)] (u++N)=.ok (.int cr) (u++N):=λhi e=>e▸CN d u.length na _ _ l _ (bv hA) hl hi (bK.mpr m3)
 have rp:=yW (C:=⟨af (d+1),u.length⟩) (E:=[.ref na,.int i,.int w,.int h,.int (w*h:Nat),.av,.av,.av,.av,.av]) (u:=u) (iS (ak (bh (k:=0)) rfl aY)) (ae dL.sN (by decide)) (ag (j:=4) rfl)
 rw[show aw (w*h) (V.int 0)=(aw (w*h) 0).map λn:Nat=>V.int n by simp only[ql];rfl]at rp;have c3:∀ {E:List V} {N:St} {j x:Nat},eo E j=some (.int x)->Bo ⟨af (d+1),u.length⟩ (.cy (.aQ .iq (.ah j) (.ai 3)) [.eq] [(.ai 0)]) E N (decide (x%3=0)) N:=λhj=>w_eq (je (ag hj) (bC 3) (by decide)) (bC 0)
 have eA:Ev ⟨af (d+1),u.length⟩ (.ite (.cy (.aQ .iq (.ah 6) (.ai 3)) [.eq] [(.ai 0)]) (.aQ .ey (.ah 2) (.ai 2)) (.aQ .ey (.ah 6) (.ai 3))) [.ref na,.int i,.int w,.int h,.int (w*h:Nat),.ref (u.length+1),.int cr,.int v,.av,.av] (u++[.list [.int 0],aR (aw (w*h) 0)]) (.int a) (u++[.list [.int 0],aR (aw (w*h) 0)]):=by
  rw[ea];by_cases q:cr%3=0
  .rw[aF q];exact md (c3 rfl) (bp q) ⟨rfl⟩
  .rw[aZ q];exact mf (c3 rfl) (bP q) ⟨rfl⟩
 have eB:Ev ⟨af (d+1),u.length⟩ (.ite (.cy (.aQ .iq (.ah 7) (.ai 3)) [.eq] [(.ai 0)]) (.aQ .ei (.aQ .sub (.ah 4) (.ah 2)) (.aQ .ey (.ah 2) (.ai 2))) (.aQ .ey (.ah 7) (.ai 3))) [.ref na,.int i,.int w,.int h,.int (w*h:Nat),.ref (u.length+1),.int cr,.int v,.int a,.av] (u++[.list [.int 0],aR (aw (w*h) 0)]) (.int b) (u++[.list [.int 0],aR (aw (w*h) 0)]):=by
  rw[eb];by_cases q:v%3=0
  .rw[aF q];exact md (c3 rfl) (bp q) (jL (iT (ag rfl) (ag rfl) ww) ⟨rfl⟩)
  .rw[aZ q];exact mf (c3 rfl) (bP q) ⟨rfl⟩
 have ix:∀ {k:Nat},k<w*h->k<4096:=λq=>aq q (ae dL.sN (by decide))
 refine Y ?_;refine⟨_,a,b',X,tR (N:=[.list [.int 0],aR (((aw (w*h) 0).set a 6).set b' 14)]) (k:=1) (sw:=[.ref na,.int i,.int w,.int h,.int (w*h:Nat),.ref (u.length+1),.int cr,.int v,.int a,.int b']) B9 [.ref na,.int i,.int w,.int h,.av,.av,.av,.av,.av,.av] rfl rfl rfl rfl ?_ rfl⟩;refine bG (sz rfl rfl) rfl rfl (bG rp rfl rfl (bG (bw ⟨rfl⟩ (pk (aK hi (by decide)) eu)) rfl rfl (bG (bw ⟨rfl⟩ (pk (az hi (by decide)) ev')) rfl rfl (bG eA rfl rfl (bG eB rfl rfl (Hp wl ?_))))));refine sx (bC 6) (ag rfl) (ag rfl) (bJ rfl rfl) ⟨cL a,bK.mpr (ix la),by simp only[aB,cX];exact la⟩ rfl ?_;simp only[js,dI];refine sx (bC 14) (ag rfl) (ag rfl) (bJ rfl rfl) ⟨cL b',bK.mpr (ix lb'),by simp only[aB,aV,cX];exact lb'⟩ rfl ?_;simp only[js,dI];exact dN (ag rfl)
end
section
variable{d mk w h a U ka kb:Nat}{u:St}
noncomputable def RH(e:ME)(j:Nat):List MS:=[.assign (.sub (.ah 0) (.ah j)) e,.fB (.val (.call .qg [(.ah 0),(.ah 1),(.ah 2),(.ah 3)])) [.assign (.sub (.ah 0) (.ah j)) (.ai 0)] []]
theorem H4{f:V->List V->St->RX}{sK:Option (Nat×O)}{α:Type}(g:α->V)(I:List V->Prop)(S:∀B,same sK (u.set a (aR B))=true):∀ {l:List α},(∀x∈l,∀E B,I E->AB w h ka kb B->∃sw B',f (g x) E (u.set a (aR B))=.ok .next sw (u.set a (aR B'))/\I sw/\AB w h ka kb B') ->
  ∀ {E:List V} {B:List Nat},I E->AB w h ka kb B->∃sw B',forLoop f sK (l.map g) E (u.set a (aR B))=.ok .next sw (u.set a (aR B'))/\AB w h ka kb B'
 | [],_,E,B,_,X=>⟨E,B,jl (S B),X⟩
 | x::l,hb,E,B,hI,X=>by
  refine iJ (hb x (.head _) E B hI X) λρ1 B1=>jc λe1 I1 X1=>?_
  refine iJ (H4 g I S (λx hx=>hb x (.tail _ hx)) I1 X1) λρ2 B2=>cJ λe2 X2=>?_
  exact⟨ρ2,B2,dE (S B) e1 e2,X2⟩
theorem yK{B:List Nat}(kt:qG u)(ha:19<a):qG (u.set a (aR B)):=λi o q=>by
 have:i<20:=(aJ.mp q).1
 refine(bQ (ul (az (b8 this) ha))).trans ?_
 exact kt i o q
inductive Vx(a w h U m:Nat):List V->Prop
 | mk (x y:V):Vx a w h U m [.ref a,.int w,.int h,.int U,.int m,x,y]
theorem Jb{m:Nat}{B:List Nat}(dL:Sh w h)(kt:qG u)(ha:19<a)(hB:u[a]?=some (aR B))(X:AB w h ka kb B)(IN:U<2):∃B',AB w h ka kb B'/\af (d+3) mk .Iu [.ref a,.int w,.int h,.int U,.int m] u=.ok .none (u.set a (aR B')):=by
 refine d5 λGG Y=>?_
 have L:=H4 (f:=body ⟨af (d+2),u.length⟩ (.ah 5) [.assign (.ah 6) (.aQ .ei (.ite (.cy (.ah 5) [.lt] [(.ai 2)]) (.ai 0) (.aQ .fm (.ah 1) (.aQ .sub (.ah 2) (.ai 1)))) (.ite (.val (.aQ .iq (.ah 5) (.ai 2))) (.ai 0) (.aQ .sub (.ah 1) (.ai 1)))),.fB (.all [(.cy (.ah 1) [.gt] [(.ai 5)]),(.cy (.aQ .iq (.aQ .ey (.ah 4) (.aQ .qu (.ai 2) (.ah 5))) (.ai 2)) [.eq] [(.ai 0)]),(.cy (.sub (.ah 0) (.ah 6)) [.eq] [(.ai 0)])]) (RH (.aQ .ei (.ai 4) (.aQ .fm (.ai 8) (.aQ .ey (.ah 5) (.ai 2)))) 6) []]) (sK:=none)
  (λn:Nat=>V.int n) (Vx a w h U m) (λJ=>rfl) (l:=aI 4) (λi hi E B I X=>by
   cases I with | mk x y=>
   have hi:=bW.mp hi
   have i30:i<30:=aK hi (aa rfl)
   have cC:j0 w i<w:=by
    unfold j0
    split
    .exact ki dL.w0 (aa rfl)
    .exact dL.w0
   have sl:kW w h i+j0 w i<w*h:=Cv dL.h0 cC
   have hB':(u.set a (aR B))[a]?=some (aR B):=fT hB
   have e1:Ev ⟨af (d+2),u.length⟩ (.ite (.cy (.ah 5) [.lt] [(.ai 2)]) (.ai 0) (.aQ .fm (.ah 1) (.aQ .sub (.ah 2) (.ai 1)))) [.ref a,.int w,.int h,.int U,.int m,.int i,y] (u.set a (aR B)) (.int (kW w h i)) (u.set a (aR B)):=by
    unfold kW;by_cases q:i<2
    .rw[aF q];exact md (dg (ag rfl) (pF bh)) (LD q) bh
    .rw[aZ q];exact mf (dg (ag rfl) (pF bh)) (Uz (bZ q)) (gr (ag rfl) (iT (ag rfl) (bC 1) dL.h0) (az dL.w8 (by decide)))
   have e2:Ev ⟨af (d+2),u.length⟩ (.ite (.val (.aQ .iq (.ah 5) (.ai 2))) (.ai 0) (.aQ .sub (.ah 1) (.ai 1))) [.ref a,.int w,.int h,.int U,.int m,.int i,y] (u.set a (aR B)) (.int (j0 w i)) (u.set a (aR B)):=by
    have b:=j9 (je (ag (C:=⟨af (d+2),u.length⟩) (u:=u.set a (aR B)) (E:=[.ref a,.int w,.int h,.int U,.int m,.int i,y]) (j:=5) rfl) (bC 2) (by decide)) rfl
    unfold j0;by_cases q:i%2=0
    .rw[aF q];exact mf b (Uy q) (iT (ag rfl) (bC 1) dL.w0)
    .rw[aZ q];exact md b (neT q) bh
   have c:=MZ (dg (ag (C:=⟨af (d+2),u.length⟩) (E:=[.ref a,.int w,.int h,.int U,.int m,.int i,.int (kW w h i+j0 w i:Nat)]) (j:=1) rfl) (Dj (bC 5))) (w_eq (je (j7 (ag (j:=4) rfl) (sM (ag (j:=5) rfl) (aK i30 (aa rfl))) (eW i) (y9 i30)) (bC 2) (by decide)) (bC 0))
    (w_eq (et (ag (j:=0) rfl) (ag (j:=6) rfl) hB' (aq sl (ae dL.sN (aa rfl))) (getD_at X.len sl)) (bC 0))
   by_cases q:(decide (((5:Nat))<(w:Int))&&(decide (m/2^i%2=0)&&decide (B.getD (kW w h i+j0 w i) 0=0)))=true
   .have z:=q
    simp only[aH,aH,decide_eq_true_eq,decide_eq_true_eq,decide_eq_true_eq]at z;have i2:i/2=0\/i/2=1:=by lia
    refine cP (Hw (d:=d) (WK:=u.length) (ss:=[]) (p:=4+8*(i/2)) (j:=6) (e:=.aQ .ei (.ai 4) (.aQ .fm (.ai 8) (.aQ .ey (.ah 5) (.ai 2)))) (E:=[.ref a,.int w,.int h,.int U,.int m,.int i,.int (kW w h i+j0 w i:Nat)]) dL (yK kt ha) X hB' IN sl z.2.2 (by rcases i2 with e | e<;>rw[e]<;>exact .inr (bc rfl)) (by lia) (by lia) rfl rfl rfl rfl rfl ⟨rfl⟩ ha) λB'=>cJ λX' t=>?_
    simp only[dJ]at t;exact⟨_,B',cA rfl rfl (bG (jL e1 e2) rfl rfl (de c q t)),.mk _ _,X'⟩
   .exact⟨_,B,cA rfl rfl (bG (jL e1 e2) rfl rfl (cu c (bF q) dQ)),.mk _ _,X⟩) (E:=[.ref a,.int w,.int h,.int U,.int m,.av,.av]) (.mk _ _) X
 refine iJ L λsw B'=>cJ λe X'=>?_
 simp only[kZ hB]at e;have R:=ej (w:=4) (u:=u) (aa rfl);refine Y ?_;refine⟨B',X',b6 B8 [.ref a,.int w,.int h,.int U,.int m,.av,.av] rfl rfl rfl rfl (iQ (iR ⟨rfl⟩ R.1) R.2 e dQ) ?_⟩;exact aM _ (br (by simp only[aV];exact cH _))
end
section
variable{d mk w h a U ka kb:Nat}{u:St}
theorem EM{f:V->List V->St->RX}{sK:Option (Nat×O)}{α:Type}(g:α->V)(I:List V->Prop)(on:St->Prop)(S:∀B N,on N->same sK (u.set a (aR B)++N)=true):∀ {l:List α},(∀x∈l,∀E B N,I E->on N->AB w h ka kb B->∃sw B' SZ,f (g x) E (u.set a (aR B)++N)=.ok .next sw (u.set a (aR B')++SZ)/\I sw/\on SZ/\AB w h ka kb B') ->
  ∀ {E:List V} {B:List Nat} {N:St},I E->on N->AB w h ka kb B->∃sw B' SZ,forLoop f sK (l.map g) E (u.set a (aR B)++N)=.ok .next sw (u.set a (aR B')++SZ)/\AB w h ka kb B'
 | [],_,E,B,N,_,j,X=>⟨E,B,N,jl (S B N j),X⟩
 | x::l,hb,E,B,N,hI,j,X=>by
  refine nG (hb x (.head _) E B N hI j X) λρ1 B1 τ1=>mT λe1 I1 j1 X1=>?_
  refine nG (EM g I on S (λx hx=>hb x (.tail _ hx)) I1 j1 X1) λρ2 B2 τ2=>cJ λe2 X2=>?_
  exact⟨ρ2,B2,τ2,dE (S B N j) e1 e2,X2⟩
theorem MH{u:St}{b:Nat}{l:List Int}(h:u[b]?=some (.list (l.map V.int)))(s:Int):j8 .Km (.int s) (.ref b) u=some (!l.contains s):=by
 have I:∀l:List Int,jf (l.map V.int)=some l:=λl=>by
  induction l with
  | nil=>rfl
  | cons x l ih=>show(jf (l.map V.int)).map (x::·)=_;exact aM _ ih
 show(((u[b]?).bind O.seq?).bind λvs=>isIn (.int s) vs).map (!·)=_
 rw[h];show((jf (l.map V.int)).map λl=>l.contains s).map (!·)=_;rw[I];rfl
inductive Vy(a w h U:Nat)(ep:Int)(r n:Nat):List V->Prop
 | mk (x y z:V):Vy a w h U ep r n [.ref a,.int w,.int h,.int U,.int ep,.ref r,.ref n,x,y,z]
theorem Gi{x:Int}{m:Nat}(hm:0<m):∃s:Nat,x%(m:Int)=s/\s<m:=by
 have h1:=uM x (qk (bK.mpr hm))
 have h2:=ye x (bK.mpr hm)
 refine cP (fy h1) λs S=>?_
 exact⟨s,S,bK.mp (S▸h2)⟩
noncomputable def UY:List MS:=.fB (.all [(.cy (.ah 9) [.eq] [(.ai 1)]),(.cy (.aQ .ey (.ah 8) (.ah 1)) [.Gv] [(.eY [(.ai 0),(.aQ .sub (.ah 2) (.ai 1))])])]) [.assign (.ah 9) (.ai 4)] []::RH (.aQ .ei (.ah 9) (.aQ .fm (.ai 8) (.aQ .iq (.ah 7) (.ai 2)))) 8
theorem OR{s m r n:Nat}{v:V}{ep:Int}{H:St}{ss:List MS}(dL:Sh w h)(hm:1<=m/\m<=5):∃(N:St) (m':Nat),(1<=m'/\m'<=5)/\∀ {R:RX},Xs ⟨af d,mk⟩ ss [.ref a,.int w,.int h,.int U,.int ep,.ref r,.ref n,v,.int s,.int m'] (H++N) R->Xs ⟨af d,mk⟩ (.fB (.all [(.cy (.ah 9) [.eq] [(.ai 1)]),(.cy (.aQ .ey (.ah 8) (.ah 1)) [.Gv] [(.eY [(.ai 0),(.aQ .sub (.ah 2) (.ai 1))])])]) [.assign (.ah 9) (.ai 4)] []::ss) [.ref a,.int w,.int h,.int U,.int ep,.ref r,.ref n,v,.int s,.int m] H R:=by
 have c1:Bo ⟨af d,mk⟩ (.cy (.ah 9) [.eq] [(.ai 1)]) [.ref a,.int w,.int h,.int U,.int ep,.ref r,.ref n,v,.int s,.int m] H (decide (m=1)) H:=w_eq (ag rfl) (bC 1)
 by_cases q:m=1
 .have tp:=xA (ak (bC (C:=⟨af d,mk⟩) (E:=[.ref a,.int w,.int h,.int U,.int ep,.ref r,.ref n,v,.int s,.int m]) (u:=H) 0) rfl (ak (iT (ag (j:=2) rfl) (bC 1) dL.h0) rfl aY))
  have c2:=dg (j7 (ag (j:=8) rfl) (ag (j:=1) rfl) dL.w0 (az dL.w8 (aa rfl))) (gf tp (wc (l:=[0,h-1]) (dR _ _) rfl (s/w)))
  have c:=xg (c1.to (bp q)) (Dn c2)
  refine MR ([0,h-1].contains (s/w)) (λhc=>?_) λhc=>?_
  .exact⟨_,m,hm,λhR=>cu c hc hR⟩
  .exact⟨_,4,by decide,λhR=>de c hc (bG bh rfl rfl hR)⟩
 .exact⟨[],m,hm,λhR=>cu (xh (c1.to (bP q))) rfl (by simp only[aP]at hR;exact hR)⟩
theorem OO{r:Nat}{ep:Int}{B:List Nat}{l:List Int}(dL:Sh w h)(kt:qG u)(ha:19<a)(hB:u[a]?=some (aR B))(X:AB w h ka kb B)(IN:U<2)(hr:u[r]?=some (.list (l.map V.int)))(hl:l.length<=hV)(hra:a≠r):∃B',AB w h ka kb B'/\af (d+3) mk .QW [.ref a,.int w,.int h,.int U,.int ep,.ref r] u=.ok .none (u.set a (aR B')):=by
 refine d5 λGG Y=>?_
 have al:=(aJ.mp hB).1
 have n0:=lY dL.w0 dL.h0
 obtain⟨sh,τ0,hsh,esh⟩:∃(sh:List Int) (n:Nat),n=u.length/\Ev ⟨af (d+2),u.length⟩ (.ite (.cy (.ah 4) [.lt] [(.ai 0)]) (.list []) (.list [(.ah 4),(.aQ .sub (.aQ .ei (.ah 4) (.ah 1)) (.aQ .fm (.aQ .fm (.ai 2) (.ah 1)) (.ah 3)))])) [.ref a,.int w,.int h,.int U,.int ep,.ref r,.av,.av,.av,.av] u (.ref n) (u++[.list (sh.map V.int)]):=by
  by_cases q:ep<0
  .exact⟨[],_,rfl,md (dg (ag rfl) (pF bh)) (bp q) (iS aY)⟩
  .exact⟨[ep,ep+w-(2*w*U:Nat)],_,rfl,mf (dg (ag rfl) (pF bh)) (bP q) (iS (ak (ag rfl) rfl (ak (df (df (ag rfl) (ag rfl) rfl) (gr ⟨rfl⟩ (ag rfl) (az (bx 2 dL.w8) (aa rfl))) rfl) rfl aY)))⟩
 subst hsh;have L:=EM (f:=body ⟨af (d+2),u.length⟩ (.ah 7) [.assign (.ah 8) (.aQ .iq (.aQ .ey (.ah 7) (.ai 10)) (.aQ .fm (.ah 1) (.ah 2))),.fB (.all [(.cy (.sub (.ah 0) (.ah 8)) [.eq] [(.ai 0)]),(.cy (.ah 8) [.Km] [(.ah 6)])]) (.assign (.ah 9) (.aQ .ei (.aQ .iq (.aQ .ey (.ah 7) (.ai 2)) (.ai 5)) (.ai 1))::UY) []]) (sK:=some (r,.list (l.map V.int)))
  V.int (Vy a w h U ep r u.length) (λN=>N[0]?=some (.list (sh.map V.int))) (λB N J=>bp (bv (fS hra hr))) (l:=l) (λv J E B N I on X=>by
   refine d5 λGG Y=>?_
   cases I with | mk x y z=>
   refine cP (Gi (x:=v/10) n0) λs=>cJ λes ls=>?_
   refine cP (Gi (x:=v/2) (m:=5) (aa rfl)) λm=>cJ λem lm=>?_
   refine cP (Gi (x:=v) (m:=2) (aa rfl)) λv2=>cJ λe2 l2=>?_
   have hB':(u.set a (aR B)++N)[a]?=some (aR B):=bv (fT hB)
   have sE:Ev ⟨af (d+2),u.length⟩ (.aQ .iq (.aQ .ey (.ah 7) (.ai 10)) (.aQ .fm (.ah 1) (.ah 2))) [.ref a,.int w,.int h,.int U,.int ep,.ref r,.ref u.length,.int v,y,z] (u.set a (aR B)++N) (.int s) (u.set a (aR B)++N):=by
    exact es▸(df ⟨rfl⟩ (gr (ag rfl) (ag rfl) (az dL.w8 (by decide))) (rA (bK.mpr n0)))
   have mE:Ev ⟨af (d+2),u.length⟩ (.aQ .ei (.aQ .iq (.aQ .ey (.ah 7) (.ai 2)) (.ai 5)) (.ai 1)) [.ref a,.int w,.int h,.int U,.int ep,.ref r,.ref u.length,.int v,.int s,z] (u.set a (aR B)++N) (.int (m+1)) (u.set a (aR B)++N):=by
    have em:v/2%5=m:=em
    have q:=df (C:=⟨af (d+2),u.length⟩) (df (ag (E:=[.ref a,.int w,.int h,.int U,.int ep,.ref r,.ref u.length,.int v,.int s,z]) (u:=u.set a (aR B)++N) (j:=7) rfl) (bh (k:=2)) (M1 (bc rfl))) (bh (k:=5)) (rA (bc rfl))
    simp only[em]at q;exact jL q (bC 1)
   have c:=xi (w_eq (et (ag (C:=⟨af (d+2),u.length⟩) (E:=[.ref a,.int w,.int h,.int U,.int ep,.ref r,.ref u.length,.int v,.int s,z]) (j:=0) rfl) (ag (j:=8) rfl) hB' (aq ls (ae dL.sN (aa rfl))) (getD_at X.len ls)) (bC 0)) (dg (ag (j:=8) rfl) (gf (ag (j:=6) rfl) (MH (bJ aV on) s)))
   by_cases q:(decide (B.getD s 0=0)&&!sh.contains s)=true
   .have z':=q
    simp only[aH,decide_eq_true_eq]at z';refine iJ (OR (d:=d+2) (mk:=u.length) (a:=a) (U:=U) (s:=s) (r:=r) (n:=u.length) (v:=.int v) (ep:=ep) (H:=u.set a (aR B)++N) (ss:=RH (.aQ .ei (.ah 9) (.aQ .fm (.ai 8) (.aQ .iq (.ah 7) (.ai 2)))) 8) dL ⟨io (fe _),lm⟩) λτ1 m'=>cJ λhm' fx=>?_
    have e2:v%2=v2:=e2
    have pe:Ev ⟨af (d+2),u.length⟩ (.aQ .ei (.ah 9) (.aQ .fm (.ai 8) (.aQ .iq (.ah 7) (.ai 2)))) [.ref a,.int w,.int h,.int U,.int ep,.ref r,.ref u.length,.int v,.int s,.int m'] (u.set a (aR B)++N++τ1) (.int (m'+8*v2:Nat)) (u.set a (aR B)++N++τ1):=by
     have q:=df (C:=⟨af (d+2),u.length⟩) (ag (E:=[.ref a,.int w,.int h,.int U,.int ep,.ref r,.ref u.length,.int v,.int s,.int m']) (u:=u.set a (aR B)++N++τ1) (j:=7) rfl) (bh (k:=2)) (rA (bc rfl))
     simp only[e2]at q;exact jL (ag rfl) (gr (bC 8) q (by decide))
    have mo:=(by decide:∀m,m<6->∀v,v<2->1<=m->(m+8*v<15/\1<=(m+8*v)%8/\(m+8*v)%8<=6)/\¬m+8*v=6/\¬m+8*v=14) m' (hH hm'.2) v2 l2 hm'.1
    refine cP (Hw (ss:=[]) (j:=8) dL (((yK kt ha).ky _).ky _) X (bv hB') IN ls z'.1 (.inr mo.1) mo.2.1 mo.2.2 rfl rfl rfl rfl rfl pe ha) λB'=>cJ λX' t=>?_
    rw[am,nQ (by simp only[aV];exact al),dJ]at t;refine Y ?_;exact⟨_,B',N++τ1,cA rfl rfl (bG sE rfl rfl (de c q (bG mE rfl rfl (fx (by rw[am];exact t))))),.mk _ _ _,bv on,X'⟩
   .refine Y ?_;exact⟨_,B,N,cA rfl rfl (bG sE rfl rfl (cu c (bF q) dQ)),.mk _ _ _,on,X⟩) (E:=[.ref a,.int w,.int h,.int U,.int ep,.ref r,.ref u.length,.av,.av,.av]) (N:=[.list (sh.map V.int)]) (.mk _ _ _) rfl X
 refine nG L λsw B' SZ=>cJ λe X'=>?_
 simp only[kZ hB]at e;refine Y ?_;refine⟨B',X',b6 Im [.ref a,.int w,.int h,.int U,.int ep,.ref r,.av,.av,.av,.av] rfl rfl rfl rfl (bG esh rfl rfl (iQ (ag rfl) (iF (bv hr) (by rw[aB];exact hl)) e dQ)) ?_⟩;exact aM _ (cR aV)
end
theorem Px{u:St}{a b:Nat}{l m:List Nat}(ha:u[a]?=some (aR l))(hb:u[b]?=some (aR m)):j8 .ne (.ref a) (.ref b) u=some (!decide (l=m)):=by
 show(Gq u[a]? u[b]?).map (!·)=_
 simp only[ha,hb];show((jf (l.map λn:Nat=>V.int n)).bind λl=>(jf (m.map λn:Nat=>V.int n)).bind λm=>some (decide (l=m))).map (!·)=_;simp only[kN,kN];show some (!decide (l.map (λn:Nat=>(n:Int))=m.map λn:Nat=>(n:Int)))=_
 congr 2
 refine decide_eq_decide.mpr ⟨λe=>?_,λe=>by rw[e]⟩;have:=aM (Wn Wo) e;simp only[dY,dY]at this;have id':(Wo∘λn:Nat=>n)=id:=funext λn=>gA n
 rwa [id',Vi,Vi]at this
section
variable{d mk w h a U ka kb v:Nat}{u:St}{B:List Nat}
noncomputable def mq(a w h U v:Nat)(x5 x6 x7 x8 x9:V):List V:=[.ref a,.int w,.int h,.int U,.int v,x5,x6,x7,x8,x9,.av]
structure Uq(w h U v f g im E1 P pi:Nat)(up:Int):Prop where
 lf:f<w
 lg:g<w
 ne:g≠f
 lE:im<w*h
 Wc:E1<w*h
 lP:P<w*h
 lU:pi<w*h
 pu:P≠pi
 e1:(im:Int)+up=E1
 e2:(im:Int)-up=P
 e3:(P:Int)-f+g=pi
theorem Pd{h:Nat}(h5:5<=h):h-2<h/\h-4<h/\h-3<h/\h-2=h-3+1/\h-3=h-4+1:=by
 refine cP (si h5) λk Go=>?_;subst Go
 exact⟨ki (eP _) (aa rfl),ki (eP _) (aa rfl),ki (eP _) (aa rfl),rfl,rfl⟩
theorem Hx(r w f:Nat):((r*w+f:Nat):Int)+w=((r*w+w+f:Nat):Int):=aM A9 (eQ _ f w)
theorem F9{H:St}(dL:Sh w h)(h5:5<=h)(IN:U<2)(w2:2<=w):∃f g im E1 P pi up,Uq w h U v f g im E1 P pi up/\∀ {r:RX},Xs ⟨af d,mk⟩ (jR.drop 7) (mq a w h U v (.int f) (.int g) (.int up) (.int im) (.int P)) H r->Xs ⟨af d,mk⟩ (jR.drop 1) (mq a w h U v .av .av .av .av .av) H r:=by
 refine d5 λGG Y=>?_
 have w9:=az dL.w8 (by decide:8<1073741824)
 have hf:v/2%w<w:=dK _ dL.w0
 have fE:Ev ⟨af d,mk⟩ (.aQ .iq (.aQ .ey (.ah 4) (.ai 2)) (.ah 1)) (mq a w h U v .av .av .av .av .av) H (.int (v/2%w:Nat)) H:=je ⟨rfl⟩ (ag rfl) dL.w0
 generalize v/2%w=f at hf fE;obtain⟨g0,eg0,g0E⟩:∃g0:Nat,((0<f/\g0=f-1)\/g0=f+1)/\Ev ⟨af d,mk⟩ (.ite (.all [(.cy (.ah 5) [.gt] [(.ai 0)]),(.cy (.aQ .iq (.aQ .ey (.aQ .ey (.ah 4) (.ai 2)) (.ah 1)) (.ai 2)) [.eq] [(.ai 1)])]) (.aQ .sub (.ah 5) (.ai 1)) (.aQ .ei (.ah 5) (.ai 1))) (mq a w h U v (.int f) .av .av .av .av) H (.int g0) H:=by
  have c:=xi (dg (ag (C:=⟨af d,mk⟩) (E:=mq a w h U v (.int f) .av .av .av .av) (u:=H) (j:=5) rfl) (Dj (bC 0))) (w_eq (je (j7 (j7 (ag (j:=4) rfl) (bC 2) (by decide) (aa rfl)) (ag (j:=1) rfl) dL.w0 w9) (bC 2) (by decide)) (bC 1))
  by_cases q:(decide (((0:Nat))<(f:Int))&&decide (v/2/w%2=1))=true
  .have z:=q
   rw[aH,decide_eq_true_eq]at z;have f0:=bK.mp z.1;exact⟨f-1,.inl ⟨f0,rfl⟩,md c q (iT (ag rfl) (bC 1) f0)⟩
  .exact⟨f+1,.inr rfl,mf c (bF q) ⟨rfl⟩⟩
 obtain⟨g,hg,ne,gS⟩:∃g:Nat,g<w/\g≠f/\∀ {r:RX} {ss:List MS},Xs ⟨af d,mk⟩ ss (mq a w h U v (.int f) (.int g) .av .av .av) H r->Xs ⟨af d,mk⟩ (.fB (.cy (.ah 6) [.eq] [(.ah 1)]) [.assign (.ah 6) (.aQ .sub (.ah 5) (.ai 1))] []::ss) (mq a w h U v (.int f) (.int g0) .av .av .av) H r:=by
  have c:Bo ⟨af d,mk⟩ (.cy (.ah 6) [.eq] [(.ah 1)]) (mq a w h U v (.int f) (.int g0) .av .av .av) H (decide (g0=w)) H:=w_eq (ag rfl) (ag rfl)
  by_cases q:g0=w
  .have f1:=eg0.elim And.left λe=>Kj (ae w2 (d0 (q.symm.trans e)))
   exact⟨f-1,az (eH f 1) hf,uk (ki f1 (by decide)),λhr=>de c (bp q) (bG (iT (ag rfl) (bC 1) f1) rfl rfl hr)⟩
  .exact⟨g0,eg0.elim (λe=>e.2▸az (eH f 1) hf) λe=>qM (e▸hf) q,eg0.elim (λe=>e.2▸uk (ki e.1 (by decide))) λe=>e▸Nat.succ_ne_self f,λhr=>cu c (bP q) hr⟩
 have upE:Ev ⟨af d,mk⟩ (.aQ .sub (.ah 1) (.aQ .fm (.aQ .fm (.ai 2) (.ah 1)) (.ah 3))) (mq a w h U v (.int f) (.int g) .av .av .av) H (.int (w-(2*w*U:Nat))) H:=df (ag rfl) (gr ⟨rfl⟩ (ag rfl) (az (bx 2 dL.w8) (aa rfl))) rfl
 obtain⟨rk,r1,r2,hr1,hr2,hrk,ups,rE⟩:∃rk r1 r2:Nat,r1<h/\r2<h/\rk<h/\((r1=rk+1/\rk=r2+1/\(w:Int)-(2*w*U:Nat)=w)\/(rk=r1+1/\r2=rk+1/\(w:Int)-(2*w*U:Nat) = -w))/\∀ {E:List V},eo E 3=some (.int U)->eo E 2=some (.int h)->Ev ⟨af d,mk⟩ (.ite (.val (.ah 3)) (.ai 2) (.aQ .sub (.ah 2) (.ai 3))) E H (.int rk) H:=by
  refine bN (dO.mp IN) (λq=>?_) λOn=>?_
  .obtain rfl:U=0:=f3.mp q;have p:=Pd h5;exact⟨h-3,h-2,h-4,p.1,p.2.1,p.2.2.1,.inl ⟨p.2.2.2.1,p.2.2.2.2,by skip;exact Vk _⟩,λh3 h2=>mf (j9 (ag h3) rfl) rfl (iT (ag h2) (bC 3) (ae (aa rfl) h5))⟩
  .subst On;exact⟨2,1,3,aq (aa rfl) h5,aq (aa rfl) h5,aq (aa rfl) h5,.inr ⟨rfl,rfl,KL w⟩,λh3 h2=>md (j9 (ag h3) rfl) rfl (bC 2)⟩
 generalize (w:Int)-(2*w*U:Nat)=up at upE ups;have e1:((rk*w+f:Nat))+up=(r1*w+f:Nat):=by
  rcases ups with⟨q1,_,q3⟩ | ⟨q1,_,q3⟩<;>simp only[q3,q1,qi]
  .exact Hx rk w f
  .exact(aM (· + -(w:Int)) (Hx r1 w f).symm).trans (Int.add_neg_cancel_right _ _)
 have e2:((rk*w+f:Nat))-up=(r2*w+f:Nat):=by
  rcases ups with⟨_,q2,q3⟩ | ⟨_,q2,q3⟩<;>simp only[q3,q2,qi]
  .exact(aM (· - (w:Int)) (Hx r2 w f).symm).trans (fK _ _)
  .simp only[Cj];exact Hx rk w f
 refine Y ?_;refine⟨f,g,rk*w+f,r1*w+f,r2*w+f,r2*w+g,up,⟨hf,hg,ne,xu hf hrk,xu hf hr1,xu hf hr2,xu hg hr2,λq=>ne (xq q).symm,e1,e2,by rw[gF,fK];rfl⟩,λhr=>?_⟩;refine bG fE rfl rfl (bG g0E rfl rfl (gS (bG upE rfl rfl (bG (jL (gr (rE rfl rfl) (ag rfl) (aq hrk (ae dL.h8 (aa rfl)))) (ag rfl)) rfl rfl (bG (df (ag rfl) (ag rfl) (aM some e2)) rfl rfl hr)))))
end
section
variable{d mk w h a U ka kb v:Nat}{u:St}{B:List Nat}
theorem Jp(dL:Sh w h)(kt:qG u)(ha:19<a)(hB:u[a]?=some (aR B))(X:AB w h ka kb B)(IN:U<2)(w2:2<=w):∃(B':List Nat) (ep:Int),AB w h ka kb B'/\(ep = -1\/∃q:Nat,ep=q/\q<w*h)/\af (d+3) mk .Dr [.ref a,.int w,.int h,.int U,.int v] u=.ok (.int ep) (u.set a (aR B')):=by
 refine d5 λGG Y=>?_
 have al:=(aJ.mp hB).1
 have cutE:∀ {B':List Nat} {N:St},(u.set a (aR B')++N).take u.length=u.set a (aR B'):=cR aV
 have pZ:∀ {B':List Nat} {N:St} {ep:Int} {sw:List V},Xs ⟨af (d+2),u.length⟩ jR (mq a w h U v .av .av .av .av .av) u (.ok (.ret (.int ep)) sw (u.set a (aR B')++N))->af (d+3) mk .Dr [.ref a,.int w,.int h,.int U,.int v] u=.ok (.int ep) (u.set a (aR B')):=λhx=>
  b6 jR (mq a w h U v .av .av .av .av .av) rfl rfl rfl rfl hx (aM _ cutE)
 have same0:=kZ hB
 have c1:Bo ⟨af (d+2),u.length⟩ (.cy (.ah 2) [.lt] [(.ai 5)]) (mq a w h U v .av .av .av .av .av) u (decide (h<5)) u:=w_lt (ag rfl) (bC 5)
 have c2:Bo ⟨af (d+2),u.length⟩ (.cy (.aQ .iq (.ah 4) (.ai 2)) [.eq] [(.ai 0)]) (mq a w h U v .av .av .av .av .av) u (decide (v%2=0)) u:=w_eq ⟨rfl⟩ (bC 0)
 have c:=MY c1 (va c2)
 by_cases q:(decide (h<5)||decide (v%2=0))=true
 .refine Y ?_;refine⟨B,-1,X,.inl rfl,pZ (N:=[]) (sw:=mq a w h U v .av .av .av .av .av) ?_⟩;simp only[aP,same0];exact de c q (dN (kL bh))
 .have h5:=bZ λe=>q (by rw[bp e];rfl)
  obtain⟨f,g,im,E1,P,pi,up,R,hd⟩:=F9 (v:=v) dL h5 IN w2;have big:∀ {k},k<w*h->k<4096:=λq=>aq q (ae dL.sN (aa rfl))
  have uE:∀ {H:St},Ev ⟨af (d+2),u.length⟩ (.aQ .ei (.aQ .sub (.ah 9) (.ah 5)) (.ah 6)) (mq a w h U v (.int f) (.int g) (.int up) (.int im) (.int P)) H (.int pi) H:=df ⟨rfl⟩ (ag rfl) (aM some R.e3)
  have tp:=xA (u:=u) (ak (ag (j:=8) rfl) rfl (ak (df (op:=.ei) (ag (j:=8) rfl) (ag (j:=7) rfl) (aM some R.e1)) rfl (ak (ag (j:=9) rfl) rfl (ak uE rfl aY))))
  have cp:=wM (xL:=.sub (.ah 0) (.ah 10)) (s:=10) (λx=>match x with | .int i=>.int (B.getD i.toNat 0) | x=>x) tp (wY (vs:=[im,E1,P,pi].map λn:Nat=>V.int n) (dR _ _) (aa rfl)) (bp (dR _ _)) (λx hx=>by
   refine cP (bj.mp hx) λk=>cJ λhk zn=>?_;subst zn
   have lk:k<w*h:=by
    refine d5 λGG Y=>?_
    refine bN (aO.mp hk) (λKM=>?_) λhk=>?_
    .refine Y ?_;refine d5 λGG Y=>?_
     refine Y ?_;subst KM;exact R.lE
    .refine bN (aO.mp hk) (λKM=>?_) λhk=>?_
     .refine Y ?_;refine d5 λGG Y=>?_
      refine Y ?_;subst KM;exact R.Wc
     .rcases aO.mp hk with rfl | hk
      .refine Y ?_;exact R.lP
      .refine Y ?_;exact(bM.mp hk)▸R.lU
   exact⟨et (ag rfl) (ag rfl) (bv hB) (big lk) (getD_at X.len lk),rfl⟩) (aa rfl)
  have zr:=iS (C:=⟨af (d+2),u.length⟩) (E:=mq a w h U v (.int f) (.int g) (.int up) (.int im) (.int P)) (u:=u++[.eY ([im,E1,P,pi].map λn:Nat=>V.int n)]++[aR [B.getD im 0,B.getD E1 0,B.getD P 0,B.getD pi 0]]) (ak (bh (k:=0)) rfl (ak (bh (k:=0)) rfl (ak (bh (k:=0)) rfl (ak (bh (k:=0)) rfl aY))))
  have ct:=dg cp (gf zr (Px (m:=[0,0,0,0]) (bv (dR _ _)) (dR _ _)))
  simp only[am,am]at ct;have st0:∀ {r:RX},Xs ⟨af (d+2),u.length⟩ (jR.drop 7) (mq a w h U v (.int f) (.int g) (.int up) (.int im) (.int P)) u r->Xs ⟨af (d+2),u.length⟩ jR (mq a w h U v .av .av .av .av .av) u r:=λhr=>cu c (bF q) (hd hr)
  by_cases z:[B.getD im 0,B.getD E1 0,B.getD P 0,B.getD pi 0]=[0,0,0,0]
  .have zP:B.getD P 0=0:=aM (·.getD 2 0) z
   have zU:B.getD pi 0=0:=aM (·.getD 3 0) z
   have ct:=ct.to (by rw[bp z];rfl:_=false)
   have lP:=X.len▸R.lP
   have lU:=X.len▸R.lU
   have s01:=(dO.mp IN).imp f3.mp id
   have mo:=(by decide:∀s,s<2->(¬9-8*s=6/\¬9-8*s=14)/\¬1+8*s=6/\¬1+8*s=14) U IN
   have X1:=X.put R.lP zP (by rcases s01 with rfl | rfl<;>exact .inr (bc rfl)) mo.1.1 mo.1.2
   have zU1:(B.set P (9-8*U)).getD pi 0=0:=by refine(ju lP).trans ?_;refine(aZ R.pu).trans ?_;rw[zU]
   have X2:=X1.put R.lU zU1 (by rcases s01 with rfl | rfl<;>exact .inr (bc rfl)) mo.2.1 mo.2.2
   generalize hτ:[O.eY ([im,E1,P,pi].map λn:Nat=>V.int n)]++([aR [B.getD im 0,B.getD E1 0,B.getD P 0,B.getD pi 0]]++[O.list [V.int 0,V.int 0,V.int 0,V.int 0]])=N at ct;have put1:∀ {f4:List Nat} {q k:Nat} {e i:ME} {ss:List MS} {r:RX},f4.length=w*h->k<w*h->Ev ⟨af (d+2),u.length⟩ e (mq a w h U v (.int f) (.int g) (.int up) (.int im) (.int P)) (u.set a (aR f4)++N) (.int q) (u.set a (aR f4)++N)->Ev ⟨af (d+2),u.length⟩ i (mq a w h U v (.int f) (.int g) (.int up) (.int im) (.int P)) (u.set a (aR f4)++N) (.int k) (u.set a (aR f4)++N) ->
     Xs ⟨af (d+2),u.length⟩ ss (mq a w h U v (.int f) (.int g) (.int up) (.int im) (.int P)) (u.set a (aR (f4.set k q))++N) r->Xs ⟨af (d+2),u.length⟩ (.assign (.sub (.ah 0) i) e::ss) (mq a w h U v (.int f) (.int g) (.int up) (.int im) (.int P)) (u.set a (aR f4)++N) r:=λ{f4 q k e i ss r} hM hk he hi hr=>by
    refine sx he (ag rfl) hi (bv (fT hB)) ⟨cL k,bK.mpr (big hk),by simp only[aB,hM];exact hk⟩ rfl ?_;rw[js,nQ (by simp only[aV];exact al),dJ];exact hr
   have op:=CP (d:=d) (mk:=u.length) ((yK kt ha).ky N) (bv (fT hB)) X2.len dL.w0 dL.w8 dL.h8 IN
   have co:=j9 (bw (C:=⟨af (d+2),u.length⟩) (f:=.qg) (ak (ag (E:=mq a w h U v (.int f) (.int g) (.int up) (.int im) (.int P)) (j:=0) rfl) rfl (ak (ag (j:=1) rfl) rfl (ak (ag (j:=2) rfl) rfl (ak (ag (j:=3) rfl) rfl aY)))) op) rfl
   have go:∀ {r:RX},Xs ⟨af (d+2),u.length⟩ (jR.drop 10) (mq a w h U v (.int f) (.int g) (.int up) (.int im) (.int P)) (u.set a (aR ((B.set P (9-8*U)).set pi (1+8*U)))++N) r->Xs ⟨af (d+2),u.length⟩ jR (mq a w h U v .av .av .av .av .av) u r:=λ{r} hr=>by
    have q:=put1 X.len R.lP (iT (bC 9) (gr (bC 8) (ag (j:=3) rfl) (by decide)) (ae (bx 8 (b8 IN)) (aa rfl))) (ag (j:=9) rfl) (put1 X1.len R.lU (jL (bC 1) (gr (bC 8) (ag (j:=3) rfl) (by decide))) uE hr)
    rw[aM (· ++ N) same0]at q;exact st0 (cu ct rfl q)
   by_cases ho:sI w h ((B.set P (9-8*U)).set pi (1+8*U)) U=true
   .have bk:(((B.set P (9-8*U)).set pi (1+8*U)).set P 0).set pi 0=B:=by
     rw[FE _ _ R.pu.symm,yO zP lP,yO zU lU]
    refine Y ?_;refine⟨B,-1,X,.inl rfl,pZ (N:=N) (sw:=mq a w h U v (.int f) (.int g) (.int up) (.int im) (.int P)) (go (de co ho (put1 (q:=0) X2.len R.lP bh (ag rfl) (put1 (q:=0) (aV.trans X2.len) R.lU bh uE ?_))))⟩;rw[bk];exact dN (kL bh)
   .refine Y ?_;exact⟨_,im,X2,.inr ⟨im,rfl,R.lE⟩,pZ (go (cu co (bF ho) (dN (ag rfl))))⟩
  .have ct:=ct.to (by rw[bP z];rfl:_=true)
   have r:=st0 (de ct rfl ⟨rfl⟩)
   refine Y ?_;refine⟨B,-1,X,.inl rfl,pZ (N:=[.eY ([im,E1,P,pi].map λn:Nat=>V.int n)]++([aR [B.getD im 0,B.getD E1 0,B.getD P 0,B.getD pi 0]]++[.list [.int 0,.int 0,.int 0,.int 0]])) (sw:=mq a w h U v (.int f) (.int g) (.int up) (.int im) (.int P)) ?_⟩;simp only[same0];exact r
end
noncomputable def lH(ns:List Int)(X:St):St:=vv++(.lV (ns.map V.int)::X)
noncomputable def CL:Cx:=⟨af 19,21⟩
noncomputable def sP(v1 v2 v3 v4 v5 v6 v7 v8 v9 v10 v11 v12 v13 v14 v15 v16 v17:V):List V:=[.ref 20,v1,v2,v3,v4,v5,v6,v7,v8,v9,v10,v11,v12,v13,v14,v15,v16,v17,.av,.av,.av,.av,.av]
section
variable{ns:List Int}{X:St}
theorem sS{i:Nat}{o:O}(h:X[i]?=some o):(lH ns X)[i+21]?=some o:=by
 exact h
theorem yn:qG (lH ns X):=λi o q=>bv q
theorem U0{i:Nat}{o:O}:(lH ns X).set (i+21) o=lH ns (X.set i o):=by
 rfl
noncomputable def vU(ns:List Int):O:=.list ((ns.take 14).map V.int)
noncomputable def Ew:St:=[.eY [.int 3,.int 4],.eY [.int 4,.int 5],.eY [.int 8,.int 3],.eY [.int 5,.int 5],.list [.ref 22,.ref 23,.ref 24,.ref 25]]
theorem Eu:(ns.take 14).length<=hV:=by
 exact eZ▸(ae (DA ..) (aa rfl))
theorem wX{d mk i m:Nat}(hi:i<4096)(hm:0<m):∃cr:Nat,cr<m/\∀X:St,af (d+1) mk .iY [.ref 21,.int i,.int m] (lH ns (vU ns::X))=.ok (.int cr) (lH ns (vU ns::X)):=by
 refine cP (CM (l:=ns.take 14) (i:=i) hm) λcr=>cJ λhu q=>?_
 exact⟨cr,q,λX=>by refine(CN d mk 21 i m (ns.take 14) _ (sS rfl) Eu hi (bK.mpr hm)).trans ?_;rw[hu]⟩
theorem TY(hl:ns.length<=hV):∃w h,mX w h/\∀ {r:RX},Xs CL (jT.drop 2) (sP (.ref 21) (.int (w:Nat)) (.int (h:Nat)) .av .av .av .av .av .av .av .av .av .av .av .av .av .av) (lH ns (vU ns::Ew)) r->Xs CL jT (sP .av .av .av .av .av .av .av .av .av .av .av .av .av .av .av .av .av) (lH ns []) r:=by
 refine d5 λGG Y=>?_
 refine cP (wX (ns:=ns) (d:=18) (mk:=21) (i:=0) (m:=8) (aa rfl) (aa rfl)) λcr=>cJ λhu pk=>?_
 have sl:ji (.ref 20) .none (.int 14) (lH ns [])=.ok (.ref 21) (lH ns [vU ns]):=by
  have q:=slice_list (u:=lH ns []) (b:=20) (lo:=.none) (hi:=.int 14) rfl (by rw[aB];exact hl) rfl rfl
  refine q.trans ?_;rw[cut,<-xr];rfl
 have s1:∀ {r:RX},Xs CL (jT.drop 1) (sP (.ref 21) .av .av .av .av .av .av .av .av .av .av .av .av .av .av .av .av) (lH ns [vU ns]) r->Xs CL jT (sP .av .av .av .av .av .av .av .av .av .av .av .av .av .av .av .av .av) (lH ns []) r:=λhr=>bG (qT (ag rfl) rfl rfl sl) rfl rfl hr
 have sh:af 19 21 .Fm [] (lH ns [vU ns])=.ok (.ref 26) (lH ns (vU ns::Ew)):=rfl
 have go:∀ {w h q:Nat},cr/2=q->mX w h->Ew[q]?=some (.eY [.int w,.int h])->[V.ref 22,.ref 23,.ref 24,.ref 25][q]?=some (.ref (q+22))->∃w h,mX w h/\∀ {r:RX},Xs CL (jT.drop 2) (sP (.ref 21) (.int w) (.int h) .av .av .av .av .av .av .av .av .av .av .av .av .av .av) (lH ns (vU ns::Ew)) r->Xs CL jT (sP .av .av .av .av .av .av .av .av .av .av .av .av .av .av .av .av .av) (lH ns []) r:=λ{w h q} hq dL e1 e2=>by
  subst hq;exact⟨w,h,dL,λhr=>s1 (Ky (lT (bw aY sh) (j7 (bw ⟨rfl⟩ (pk _)) (bC 2) (aa rfl) (aa rfl)) (sS rfl) rfl (Nw (az (S8 ..) (aK hu (aa rfl)))) e2)
   (sS e1) rfl rfl hr)⟩
 have h4:cr/2=0\/cr/2=1\/cr/2=2\/cr/2=3:=by
  refine d5 λGG Y=>?_
  have:cr/2<4:=cU hu
  lia
 rcases h4 with e | e | e | e
 .refine Y ?_;exact go e (.inl ⟨rfl,rfl⟩) rfl rfl
 .refine Y ?_;exact go e (.inr (.inl ⟨rfl,rfl⟩)) rfl rfl
 .refine Y ?_;exact go e (.inr (.inr (.inl ⟨rfl,rfl⟩))) rfl rfl
 .refine Y ?_;exact go e (.inr (.inr (.inr ⟨rfl,rfl⟩))) rfl rfl
end
section
variable{ns:List Int}{w h:Nat}
theorem I9{u:St}{b i j:Nat}{vs:List V}{lo hi:V}(h:u[b]?=some (.list vs))(hl:vs.length<=hV)(h1:bound 0 lo=some i)(h2:bound vs.length hi=some j):ji (.ref b) lo hi u=.ok (.ref u.length) (u++[.list (cut vs i j)]):=by
 show(dc (bound 0 lo) λi=>dc ((u[b]?).bind O.uf) λvs=>dT (vs.length<=hV) (dc (bound vs.length hi) λj=>alloc (.list (cut vs i j)) u))=_
 rw[h1,h];show(dT (vs.length<=hV) (dc (bound vs.length hi) λj=>alloc (.list (cut vs i j)) u))=_;rw[h2];exact aF hl
noncomputable def lB(ns:List Int)(B:List Nat)(nw:St):St:=lH ns (vU ns::(Ew++aR B::nw))
theorem BB{B:List Nat}{nw:St}:(lB ns B nw)[27]?=some (aR B):=sS rfl
theorem LS{B:List Nat}{nw:St}:(lB ns B nw)[21]?=some (vU ns):=sS rfl
theorem TX(dL:Sh w h)(w2:2<=w):∃(U ka kb:Nat) (B:List Nat) (ep:Int) (o:O),U<2/\AB w h ka kb B/\(ep = -1\/∃q:Nat,ep=q/\q<w*h)/\∀ {r:RX},Xs CL (jT.drop 7) (sP (.ref 21) (.int (w:Nat)) (.int (h:Nat)) (.int U) (.ref 27) (.int ep) .av .av .av .av .av .av .av .av .av .av .av) (lB ns B [o]) r->Xs CL (jT.drop 2) (sP (.ref 21) (.int (w:Nat)) (.int (h:Nat)) .av .av .av .av .av .av .av .av .av .av .av .av .av .av) (lH ns (vU ns::Ew)) r:=by
 refine d5 λGG Y=>?_
 refine cP (wX (ns:=ns) (d:=18) (mk:=21) (i:=0) (m:=2) (aa rfl) (aa rfl)) λU=>cJ λIN pS=>?_
 refine cP (wX (ns:=ns) (d:=18) (mk:=21) (i:=5) (m:=4*w) (aa rfl) (lY (aa rfl) dL.w0)) λv5=>cJ λGo p5=>?_
 refine cP (wX (ns:=ns) (d:=18) (mk:=21) (i:=6) (m:=256) (aa rfl) (aa rfl)) λv6=>cJ λGo p6=>?_
 refine nG (JA (d:=17) (mk:=21) (u:=lH ns (vU ns::Ew)) (na:=21) (i:=3) dL (sS rfl) Eu (aa rfl)) λB1 ka kb=>cJ λX1 e1=>?_
 refine iJ (Jp (d:=16) (mk:=21) (u:=lB ns B1 []) (v:=v5) dL yn (by decide) BB X1 IN w2) λB2 ep=>jc λX2 hep e2=>?_
 refine cP (Jb (d:=16) (mk:=21) (u:=lB ns B2 []) (m:=v6/16) dL yn (by decide) BB X2 IN) λB3=>cJ λX3 e3=>?_
 have cl:cut ((ns.take 14).map V.int) 7 ((ns.take 14).map V.int).length=(((ns.take 14)).drop 7).map V.int:=by
  simp only[cut,aU,FG]
 refine cP (OO (d:=16) (mk:=21) (u:=lB ns B3 [.list (((ns.take 14).drop 7).map V.int)]) (r:=28) (ep:=ep) dL yn (by decide) BB X3 IN (sS rfl) (by rw[AF];exact ae (eH ..) Eu) (bc rfl)) λB4=>cJ λX4 e4=>?_
 have sl:ji (.ref 21) (.int 7) .none (lB ns B3 [])=.ok (.ref 28) (lB ns B3 [.list (((ns.take 14).drop 7).map V.int)]):=by
  refine(I9 (i:=7) LS (by rw[aB];exact Eu) rfl rfl).trans ?_;rw[cl];rfl
 refine Y ?_;refine⟨U,ka,kb,B4,ep,.list (((ns.take 14).drop 7).map V.int),IN,X4,hep,λhr=>?_⟩;refine bG (bw ⟨rfl⟩ (pS _)) rfl rfl ?_;refine bG (bw ⟨rfl⟩ e1) rfl rfl ?_;refine bG (bw (ak (ag rfl) rfl (ak (ag rfl) rfl (ak (ag rfl) rfl (ak (ag rfl) rfl (ak (bw ⟨rfl⟩ (p5 _)) rfl aY))))) e2) rfl rfl ?_;refine gb (bw (ak (ag rfl) rfl (ak (ag rfl) rfl (ak (ag rfl) rfl (ak (ag rfl) rfl (ak (j7 (bw ⟨rfl⟩ (p6 _)) (bC 16) (aa rfl) (aa rfl)) rfl aY))))) e3) ?_;refine gb (bw (ak (ag rfl) rfl (ak (ag rfl) rfl (ak (ag rfl) rfl (ak (ag rfl) rfl (ak (ag rfl) rfl (ak (qT (ag rfl) rfl rfl sl) rfl aY)))))) e4) hr
end
section
variable{ns:List Int}{w h:Nat}
theorem EL{f:V->List V->St->RX}{sK:Option (Nat×O)}{u:St}{α:Type}(g:α->V)(I:List V->Prop)(S:same sK u=true):∀ {l:List α},(∀x∈l,∀E,I E->∃sw,f (g x) E u=.ok .next sw u/\I sw)->∀ {E:List V},I E->∃sw,forLoop f sK (l.map g) E u=.ok .next sw u/\I sw
 | [],_,E,hI=>⟨E,jl S,hI⟩
 | x::l,hb,E,hI=>by
  refine d5 λGG Y=>?_
  refine cP (hb x (.head _) E hI) λρ1=>cJ λe1 I1=>?_
  refine cP (EL g I S (λx hx=>hb x (.tail _ hx)) I1) λρ2=>cJ λe2 I2=>?_
  refine Y ?_
  exact⟨ρ2,dE S e1 e2,I2⟩
inductive Vw(x2 x3 x4 x6:V):List V->Prop
 | mk (rt:Nat) (i:V):Vw x2 x3 x4 x6 (sP (.ref 21) x2 x3 x4 (.ref 27) x6 (.int rt) i .av .av .av .av .av .av .av .av .av)
theorem Sb{B:List Nat}{o:O}{x4 x6 i0:V}(dL:Sh w h)(hl:B.length=w*h):∃(rt:Nat) (i:V),forLoop (body CL (.ah 8) [.fB (.all [(.cy (.aQ .iq (.aQ .ey (.call .iY [(.ah 1),(.ai 6),(.ai 16)]) (.aQ .qu (.ai 2) (.ah 8))) (.ai 2)) [.eq] [(.ai 0)]),(.val (.call .vh [(.ah 5),(.ah 2),(.ah 3),(.ah 8)]))]) [.ig (.ah 7) .ei (.aQ .qu (.ai 2) (.ah 8))] []]) none ((aI 4).map λn:Nat=>V.int n) (sP (.ref 21) (.int w) (.int h) x4 (.ref 27) x6 (.int (0:Nat)) i0 .av .av .av .av .av .av .av .av .av) (lB ns B [o])
   = .ok .next (sP (.ref 21) (.int w) (.int h) x4 (.ref 27) x6 (.int rt) i .av .av .av .av .av .av .av .av .av) (lB ns B [o]):=by
 refine d5 λGG Y=>?_
 refine cP (wX (ns:=ns) (d:=18) (mk:=21) (i:=6) (m:=16) (aa rfl) (aa rfl)) λv=>cJ λGo pv=>?_
 have L:=EL (f:=body CL (.ah 8) [.fB (.all [(.cy (.aQ .iq (.aQ .ey (.call .iY [(.ah 1),(.ai 6),(.ai 16)]) (.aQ .qu (.ai 2) (.ah 8))) (.ai 2)) [.eq] [(.ai 0)]),(.val (.call .vh [(.ah 5),(.ah 2),(.ah 3),(.ah 8)]))]) [.ig (.ah 7) .ei (.aQ .qu (.ai 2) (.ah 8))] []]) (u:=lB ns B [o])
  (λn:Nat=>V.int n) (Vw (.int w) (.int h) x4 x6) (sK:=none) rfl (l:=aI 4) (λi hi E I=>by
   cases I with | mk rt y=>
   have hi:=bW.mp hi
   have i30:i<30:=aK hi (aa rfl)
   have c1:=w_eq (je (j7 (bw (C:=CL) (E:=sP (.ref 21) (.int w) (.int h) x4 (.ref 27) x6 (.int rt) (.int i) .av .av .av .av .av .av .av .av .av) (f:=.iY) (ak (ag (j:=1) rfl) rfl (ak (bh (k:=6)) rfl (ak (bh (k:=16)) rfl aY))) (pv (Ew++aR B::[o]))) (sM (ag (j:=8) rfl) (aK i30 (by decide))) (eW i) (y9 i30)) (bC 2) (aa rfl)) (bC 0)
   have c2:=j9 (bw (C:=CL) (E:=sP (.ref 21) (.int w) (.int h) x4 (.ref 27) x6 (.int rt) (.int i) .av .av .av .av .av .av .av .av .av) (f:=.vh) (ak (ag (j:=5) rfl) rfl (ak (ag (j:=2) rfl) rfl (ak (ag (j:=3) rfl) rfl (ak (ag (j:=8) rfl) rfl aY)))) (Hr 18 21 27 w h i B (lB ns B [o]) BB hl (ae dL.sN (aa rfl)) dL.w0 dL.h0 dL.w8 hi)) rfl
   by_cases q:v/2^i%2=0
   .have c:=xg (c1.to (bp q)) (Dn c2)
    by_cases p:FK w h B i=true
    .exact⟨_,cA rfl rfl (de c p (gU (m:=(rt+2^i:Nat)) rfl (sM (ag rfl) (aK i30 (by decide))) rfl rfl dQ)),.mk _ _⟩
    .exact⟨_,cA rfl rfl (cu c (bF p) dQ),.mk _ _⟩
   .exact⟨_,cA rfl rfl (cu (xh (c1.to (bP q))) rfl dQ),.mk _ _⟩) (.mk 0 i0)
 refine cP L λsw=>cJ λe I=>?_
 refine Y ?_;cases I with | mk rt i=>exact⟨rt,i,e⟩
theorem TV{B:List Nat}{o:O}{x4 x6:V}(dL:Sh w h)(hl:B.length=w*h):∃(rt hf fl:Nat) (i:V),hf<136/\∀ {r:RX},Xs CL (jT.drop 11) (sP (.ref 21) (.int w) (.int h) x4 (.ref 27) x6 (.int rt) i (.int hf) (.int fl) .av .av .av .av .av .av .av) (lB ns B [o]) r->Xs CL (jT.drop 7) (sP (.ref 21) (.int w) (.int h) x4 (.ref 27) x6 .av .av .av .av .av .av .av .av .av .av .av) (lB ns B [o]) r:=by
 refine iJ (Sb (ns:=ns) (o:=o) (x4:=x4) (x6:=x6) (i0:=.av) dL hl) λrt i e=>?_
 refine cP (wX (ns:=ns) (d:=18) (mk:=21) (i:=6) (m:=66000) (aa rfl) (by decide)) λv=>cJ λvl pv=>?_
 have R:=ej (w:=4) (u:=lB ns B [o]) (aa rfl)
 refine⟨rt,v*13%136,(1+v*977)%66000,i,dK _ (by decide),λhr=>?_⟩;refine bG (bC 0) rfl rfl (iQ (iR ⟨rfl⟩ R.1) R.2 e ?_);have pk:∀ {E:List V},eo E 1=some (.ref 21)->Ev CL (.call .iY [(.ah 1),(.ai 6),(.ai 66000)]) E (lB ns B [o]) (.int v) (lB ns B [o]):=λh1=>bw (ak (ag h1) rfl ⟨rfl⟩) (pv _)
 have ml:∀ {E:List V} {k:Nat},small k=true->eo E 1=some (.ref 21)->Ev CL (.aQ .fm (.call .iY [(.ah 1),(.ai 6),(.ai 66000)]) (.ai k)) E (lB ns B [o]) (.int (v*k)) (lB ns B [o]):=λ{E k} hk h1=>df (pk h1) bh ((Dp (by simp only[hk,fO])).trans rfl)
 exact bG (je (ml rfl rfl) (bC 136) (by decide)) rfl rfl (bG (je (jL (bC 1) (ml rfl rfl)) (bC 66000) (by decide)) rfl rfl hr)
end
section
variable{C:Cx}{E:List V}{u:St}
theorem BP{f:V->St->RE (List V)}(o:Nat->O):∀(m k:Nat),(∀i,k<=i->i<k+m->f (.int (i:Nat)) (u++(aI i).map o)=.ok [.ref (u.length+i)] (u++(aI (i+1)).map o)) ->
  compLoop f none ((jZ k m).map λn:Nat=>V.int n) (u++(aI k).map o)=.ok ((jZ k m).map λi=>V.ref (u.length+i)) (u++(aI (k+m)).map o)
 | 0,_,_=>rfl
 | m+1,k,h=>by
  show(match f (.int k) (u++(aI k).map o)with
   | .ok l u=>(match compLoop f none ((jZ (k+1) m).map λn:Nat=>V.int n) u with
    | .ok l' u=>RE.ok (l++l') u
    | _=>.cn)
   | _=>.cn)=_
  rw[h k (cH _) (hJ (eP m))]
  dsimp only
  have e:k+(m+1)=k+1+m:=by simp only[dA,b9 1]
  simp only[BP o m (k+1) λi h1 h2=>h i (Nat.le_of_succ_le h1) (e▸h2),e]
  rfl
theorem RQ{xL it:ME}{s n:Nat}{x:V}(o:Nat->O)(hi:Ev C it E u x u)(Tl:fU x u=some (none,(aI n).map λn:Nat=>V.int n))(hn:n<=hV)
  (h:∀i,i<n->Ev C xL (E.set s (.int (i:Nat))) (u++(aI i).map o) (.ref (u.length+i)) (u++(aI (i+1)).map o)) :
  Ev C (.gu xL s it none) E u (.ref (u.length+n)) (u++(aI n).map o++[.list ((aI n).map λi=>V.ref (u.length+i))]):=
 ⟨(by
  rw[hi.eq,RE.cV,Tl]
  dsimp only
  have q:=BP (f:=λv u=>(QM C none (E.set s v) u).bind λt u=>if t then(ev C xL (E.set s v) u).bind λr u=>if r.cD then .ok [r] u else .cn else .ok [] u) o n 0 λi J h2=>show(ev C xL (E.set s (.int i)) (u++(aI i).map o)).bind (λr u=>if r.cD then .ok [r] u else .cn)=_ by rw[(h i (P6 h2 (cx n))).eq];rfl
  rw[<-fD,cx,show u++(aI 0).map o=u from aP u]at q
  rw[q,RE.cV,aF (by simp only[aB,bV];exact hn)]
  refine aM (λk=>RE.ok (V.ref k) _) ?_
  simp only[aj,aB,bV]:(ev C it E u).bind (λx u=>match fU x u with
  | none=>.cn
  | some (sK,vs)=>(compLoop (λv u=>(QM C none (E.set s v) u).bind λt u=>if t then(ev C xL (E.set s v) u).bind λr u=>if r.cD then .ok [r] u else .cn else .ok [] u) sK vs u).bind λl u=>
    if l.length<=hV then alloc (.list l) u else .cn)=_)⟩
theorem F5{xL it:ME}{s n:Nat}{x:V}(g:Nat->Nat)(hi:Ev C it E u x u)(Tl:fU x u=some (none,(aI n).map λn:Nat=>V.int n))(hn:n<=hV)(h:∀i,i<n->Ev C xL (E.set s (.int (i:Nat))) u (.int (g i:Nat)) u):
  Ev C (.gu xL s it none) E u (.ref u.length) (u++[aR ((aI n).map g)]):=by
 have q:=wM (λx=>match x with | .int i=>.int (g i.toNat) | x=>x) hi Tl rfl (λv hv=>by
  refine cP (bj.mp hv) λk=>cJ λhk zn=>?_;subst zn
  exact⟨h k (bW.mp hk),rfl⟩) (by simp only[aB,bV];exact hn)
 rw[dY]at q;simp only[aR,dY];exact q
noncomputable def Ru(a b c k:Nat):List (eM×V):=[(.k8,.ref a),(.ep,.ref b),(.aX,.ref c),(.bL,.int k)]
theorem OF{d mk a b c k:Nat}{es:List ME}{re:St}(h:yv ⟨af (d+1),mk⟩ es E re [.ref a,.ref b,.ref c,.int k] u)(hm:mk<=u.length):
  Ev ⟨af (d+1),mk⟩ (.new .rF es) E re (.ref u.length) (u++[.inst .rF (Ru a b c k)]):=by
 refine HB h rfl ?_;refine(Di (f:=.wu) (wv:=[.ref u.length,.ref a,.ref b,.ref c,.int k]) tg [.ref u.length,.ref a,.ref b,.ref c,.int k] rfl rfl rfl rfl (fl:=.next) (sw:=[.ref u.length,.ref a,.ref b,.ref c,.int k]) ?_ rfl);exact jB (ag rfl) rfl (nT hm) rfl (jB (ag rfl) rfl (nT hm) rfl (jB (ag rfl) rfl (nT hm) rfl (jB (ag rfl) rfl rfl rfl dQ)))
end
noncomputable def ud(p s:Nat):Nat:=(p*64+s)*2654435761%4294967296
noncomputable def Mv(f:Nat):Nat:=2^(f+40)
noncomputable def Nv(r:Nat):Nat:=r*2^50
noncomputable def N7:Nat:=2^60
noncomputable def yC(m:Nat):St:=(aI 15).map λp=>aR ((aI m).map (ud p))
noncomputable def zO(n w m:Nat):St:=yC m++[.list ((aI 15).map λi=>V.ref (n+i)),aR ((aI w).map Mv),aR ((aI 16).map Nv),.inst .rF (Ru (n+15) (n+16) (n+17) N7)]
section
variable{w h:Nat}{H:St}
theorem Ba{m:Nat}:(yC m).length=15:=by simp only[yC,aB,bV]
theorem yD{n m i:Nat}{o:O}(h:[O.list ((aI 15).map λi=>V.ref (n+i)),aR ((aI w).map Mv),aR ((aI 16).map Nv),.inst .rF (Ru (n+15) (n+16) (n+17) N7)][i]?=some o):(zO n w m)[15+i]?=some o:=bJ Ba h
theorem TR{x4 x6 x7 x8 x9 KT KF:V}(dL:Sh w h)(hm:21<=H.length){r:RX}(hr:Xs CL (jT.drop 14) (sP (.ref 21) (.int w) (.int h) x4 (.ref 27) x6 x7 x8 x9 KT KF (.ref (H.length+15)) (.ref (H.length+18)) .av .av .av .av) (H++zO H.length w (w*h)) r):
  Xs CL (jT.drop 12) (sP (.ref 21) (.int w) (.int h) x4 (.ref 27) x6 x7 x8 x9 KT KF .av .av .av .av .av .av) H r:=by
 have R:=ej (w:=15) (u:=H) (aa rfl)
 have sN:=dL.sN
 have tJ:∀i,i<15->Ev CL (.gu (.aQ .iq (.aQ .fm (.aQ .ei (.aQ .fm (.ah 18) (.ai 64)) (.ah 19)) (.ai 2654435761)) (.ai 4294967296)) 19 (.gV [(.aQ .fm (.ah 2) (.ah 3))]) none) (sP (.ref 21) (.int w) (.int h) x4 (.ref 27) x6 x7 x8 x9 KT KF .av .av .av .av .av .av |>.set 18 (.int (i:Nat))) (H++(aI i).map λp=>aR ((aI (w*h)).map (ud p))) (.ref (H.length+i)) (H++(aI (i+1)).map λp=>aR ((aI (w*h)).map (ud p))):=λi hi=>by
  have Q:=ej (u:=H++(aI i).map λp=>aR ((aI (w*h)).map (ud p))) (ae sN (aa rfl))
  have q:=F5 (ud i) (s:=19) (iR (ak (gr (ag (C:=CL) (E:=sP (.ref 21) (.int w) (.int h) x4 (.ref 27) x6 x7 x8 x9 KT KF .av .av .av .av .av .av |>.set 18 (.int i)) (j:=2) rfl) (ag (j:=3) rfl) (az dL.w8 (aa rfl))) rfl aY) Q.1) Q.2 (ae sN (aa rfl)) λs S=>
   je (gr (jL (gr (ag (j:=18) rfl) (bC 64) (aK hi (aa rfl))) (ag (j:=19) rfl)) (bC 2654435761) (aq (Nat.add_lt_add (Nat.mul_lt_mul_of_pos_right hi (by decide:0<64)) (aq S sN)) (aa rfl))) (bC 4294967296) (aa rfl)
  simp only[aj,aB,bV]at q;rw[Ci,cb,<-am];exact q
 have e1:=RQ _ (iR (ak (bh (k:=15)) rfl aY) R.1) R.2 (aa rfl) tJ
 have l1:(H++yC (w*h)++[O.list ((aI 15).map λi=>V.ref (H.length+i))]).length=H.length+16:=by
  refine aj.trans ?_;exact aM _ aj
 have R2:=ej (u:=H++yC (w*h)++[.list ((aI 15).map λi=>V.ref (H.length+i))]) (ae dL.w8 (aa rfl))
 have e2:=F5 (C:=CL) (E:=sP (.ref 21) (.int w) (.int h) x4 (.ref 27) x6 x7 x8 x9 KT KF (.ref (H.length+15)) .av .av .av .av .av) (xL:=.aQ .qu (.ai 2) (.aQ .ei (.ah 20) (.ai 40))) Mv (s:=20) (iR (ak (ag (j:=2) rfl) rfl aY) R2.1) R2.2 (ae dL.w8 (aa rfl)) λf hf=>
  sM ⟨rfl⟩ (aq (pj (aq hf dL.w8) 40) (aa rfl))
 have R3:=ej (w:=16) (u:=H++yC (w*h)++[.list ((aI 15).map λi=>V.ref (H.length+i))]++[aR ((aI w).map Mv)]) (aa rfl)
 have e3:=F5 (C:=CL) (E:=sP (.ref 21) (.int w) (.int h) x4 (.ref 27) x6 x7 x8 x9 KT KF (.ref (H.length+15)) .av .av .av .av .av) (xL:=.aQ .fm (.ah 21) (.aQ .qu (.ai 2) (.ai 50))) Nv (s:=21) (iR (ak (bC 16) rfl aY) R3.1) R3.2 (aa rfl) λf hf=>
  gr (ag rfl) ⟨rfl⟩ (aK hf (aa rfl))
 have e4:=OF (k:=N7) (ak (ag (C:=CL) (j:=12) rfl) rfl (ak e2 rfl (ak e3 rfl (ak (sM (bC 60) (aa rfl)) rfl aY)))) (by simp only[aj,aj,l1];exact ae hm (aW H.length 18))
 simp only[aj,aj,l1]at e4;refine bG e1 rfl rfl (bG e4 rfl rfl ?_);rw[am,am,am,am];exact hr
theorem Rr{m:Nat}:oZ (H.length+18) ud m (λJ=>True) (H++zO H.length w m):=
 ⟨⟨_,H.length+15,_,bJ rfl (yD (i:=3) rfl),trivial,rfl,bJ rfl (yD (i:=0) rfl),trivial,λp hp=>⟨H.length+p,(aI m).map (ud p),by refine cZ.trans ?_;rw[fb hp];rfl,trivial,bJ rfl (by
  rw[zO,ci (Ba▸hp),yC,cZ,fb hp];rfl),λs S=>by refine cZ.trans ?_;exact aM _ (fb S)⟩⟩⟩
theorem Ta{m:Nat}:Fj (H.length+18) Nv Mv N7 w (H++zO H.length w m):=
 ⟨⟨_,H.length+17,(aI 16).map Nv,H.length+16,(aI w).map Mv,bJ rfl (yD (i:=3) rfl),rfl,bJ rfl (yD (i:=2) rfl),λi hi=>by refine cZ.trans ?_;rw[fb hi];rfl,rfl,bJ rfl (yD (i:=1) rfl),λf hf=>by refine cZ.trans ?_;rw[fb hf];rfl,rfl⟩⟩
end
noncomputable def pH(H:St)(g z:Nat)(v:Pv):St:=H++[.inst .gj (mW (gE H.length g z) v),.list [.int 0],aR v.aN,.list [.int 0],aR v.kinds,aR v.cQ,.list []]
section
variable{w h g z m:Nat}{H:St}{v v':Pv}{B:List Nat}
theorem Ln:eV (gE H.length g z) v (pH H g z v):=⟨bJ (i:=0) rfl rfl,bJ rfl rfl,bJ rfl rfl,bJ rfl rfl,bJ rfl rfl⟩
theorem RY:jJ (gE H.length g z) v' (pH H g z v)=pH H g z v':=by
 unfold jJ pH;rw[show ∀(N) o,(H++N).set (gE H.length g z).b o=H++N.set 2 o fromλN o=>dI];rw[show ∀(N) o,(H++N).set (gE H.length g z).k o=H++N.set 4 o fromλN o=>dI];rw[show ∀(N) o,(H++N).set (gE H.length g z).s o=H++N.set 5 o fromλN o=>dI];rw[show ∀(N) o,(H++N).set (gE H.length g z).p o=H++N.set 0 o fromλN o=>dI (i:=0)];rfl
theorem Lv{n:Nat}:(gE n g z).Ok:=by
 have k:∀ {a b:Nat},a≠b->n+a≠n+b:=λq e=>q (xq e)
 exact⟨⟨k (a:=0) (bc rfl),k (bc rfl),k (bc rfl),k (bc rfl)⟩,k (a:=0) (bc rfl),k (a:=0) (bc rfl),k (a:=0) (bc rfl),k (bc rfl),k (bc rfl),k (bc rfl)⟩
theorem Ow{n a:Nat}(ha:a<n):Off (gE n g z) a:=
 have k:=λb=>ul (aq ha (aW n b))
 ⟨k 0,k 2,k 4,k 5⟩
structure Fq(m:Nat)(B:List Nat)(s:Nat)(v:Pv):Prop where
 GP:xp m v
 at':∀t,v.aN.getD t 0=if t<s then B.getD t 0 else 0
theorem Mm:Fq m B 0 (j6 m):=by
 have z:∀s,(j6 m).aN.getD s 0=0:=λs=>by
  simp only[j6,bf,lS]
  split<;>rfl
 exact⟨⟨cX,λp hp=>.inl (rY hp),kK λJ=>rfl,kK λJ=>rfl⟩,z⟩
theorem JH{s:Nat}(F:Fq m B s v)(h0:B.getD s 0=0):Fq m B (s+1) v:=by
 refine⟨F.GP,λt=>?_⟩;rw[F.at'];by_cases q:t<s
 .refine(aF q).trans ?_;rw[aF (nq q)]
 .refine(aZ q).trans ?_;by_cases e:t=s
  .rw[e,h0,aF (gN s)]
  .rw[aZ λp=>q (qM (b8 p) e)]
theorem Ml{s:Nat}(F:Fq m B s v)(S:s<m)(hm:k9 (B.getD s 0))(h0:B.getD s 0≠0)(u8:Nat->Nat->Nat):Fq m B (s+1) (dU u8 v (B.getD s 0) s):=by
 refine jc (λp1 p2 p3=>?_) (hm.resolve_left h0);refine⟨F.GP.put u8 S ((F.at' ..).trans (aZ (i6 s))) p1 p2 p3,λt=>?_⟩;show(v.aN.set s (B.getD s 0)).getD t 0=_;refine(ju (F.GP.len▸S)).trans ?_;rw[F.at'];by_cases e:s=t
 .refine(aF e).trans ?_;rw[<-e,aF (gN s)]
 .refine(aZ e).trans ?_;by_cases q:t<s
  .refine(aF q).trans ?_;rw[aF (nq q)]
  .refine(aZ q).trans ?_;rw[aZ λp=>q (qM (b8 p) (Ne.symm e))]
theorem Mn{B:List Nat}(F:Fq m B m v)(hl:B.length=m):v.aN=B:=by
 refine P8 λt=>?_
 by_cases q:t<m
 .refine(getD_at F.GP.len q).trans ?_;rw[getD_at hl q,F.at',aF q]
 .refine(dS (F.GP.len▸bZ q)).trans ?_;simp only[dS (hl▸bZ q)]
end
noncomputable def Ue:List MS:=[.fB (.cy (.sub (.ah 5) (.ah 15)) [.ne] [(.ai 0)]) [.kx (.call .kM [(.ah 14),(.sub (.ah 5) (.ah 15)),(.ah 15)])] []]
section
variable{w h g z:Nat}{H:St}{B:List Nat}{x2 x3 x4 x6 x7 x8 x9 KT KF Uf x13:V}
theorem w5(dL:Sh w h)(hB:H[27]?=some (aR B))(hl:B.length=w*h)(hm:∀p∈B,k9 p)(Z:oZ z ud (w*h) (λJ=>True) H):∀(k s:Nat),s+k=w*h->∀ {v:Pv} {y:V},Fq (w*h) B s v ->
  ∃v' y',forLoop (body CL (.ah 15) Ue) none ((jZ s k).map λn:Nat=>V.int n) (sP (.ref 21) x2 x3 x4 (.ref 27) x6 x7 x8 x9 KT KF Uf x13 (.ref H.length) y .av .av) (pH H g z v)=.ok .next (sP (.ref 21) x2 x3 x4 (.ref 27) x6 x7 x8 x9 KT KF Uf x13 (.ref H.length) y' .av .av) (pH H g z v')/\Fq (w*h) B (w*h) v'
 | 0,s,e,v,y,F=>⟨v,y,rfl,e▸F⟩
 | k+1,s,e,v,y,F=>by
  have S:s<w*h:=e▸hJ (eP k)
  have cell:∀ {v:Pv},Ev CL (.sub (.ah 5) (.ah 15)) (sP (.ref 21) x2 x3 x4 (.ref 27) x6 x7 x8 x9 KT KF Uf x13 (.ref H.length) (.int s) .av .av) (pH H g z v) (.int (B.getD s 0)) (pH H g z v):=et (ag rfl) (ag rfl) (bv hB) (aq S (ae dL.sN (aa rfl))) (getD_at hl S)
  have c:=uc (cell (v:=v)) (bC 0)
  have e':s+1+k=w*h:=by simp only[dA,b9 1];exact e
  refine d5 λGG Y=>?_
  by_cases q:B.getD s 0=0
  .refine iJ (w5 dL hB hl hm Z k (s+1) e' (y:=.int s) (JH F q)) λv' y'=>cJ λe2 F2=>?_
   refine Y ?_
   exact⟨v',y',dE rfl (cA rfl rfl (cu c (aM _ (bp q)) dQ)) e2,F2⟩
  .refine jc (λp1 p2 p3=>?_) ((hm _ (bU (getD_at hl S))).resolve_left q)
   have F1:=Ml F S (.inr ⟨p1,p2,p3⟩) q ud
   have r:=vG 17 21 (B.getD s 0) s (w*h) ud (gE H.length g z) Lv v (pH H g z v) Ln ((Z.up (ok':=Off (gE H.length g z)) λa ha=>Ow ha).to λa o J=>bv) p1 S (az dL.sN (aa rfl)) F.GP.len F.GP.k.1 F.GP.s.1 (hH p3)
   simp only[RY]at r
   refine iJ (w5 dL hB hl hm Z k (s+1) e' (y:=.int s) F1) λv' y'=>cJ λe2 F2=>?_
   refine Y ?_
   exact⟨v',y',dE rfl (cA rfl rfl (de c (aM _ (bP q)) (gb (bw (ak (ag rfl) rfl (ak cell rfl (ak (ag rfl) rfl aY))) r) dQ))) e2,F2⟩
theorem TS{U rt hf fl:Nat}{ep:Int}{fs:List (eM×V)}(dL:Sh w h)(hB:H[27]?=some (aR B))(hl:B.length=w*h)(hm:∀p∈B,k9 p)(Z:oZ z ud (w*h) (λJ=>True) H)(hg:H[g]?=some (.inst .eE fs))(S:hP .size fs=some (.int (w*h:Nat)))(h21:21<=H.length):∃(v:Pv) (y:V),xp (w*h) v/\v.aN=B/\v.bL=U/\v.aX=rt/\v.ep=ep/\v.half=hf/\v.full=fl /\
  ∀ {r:RX},Xs CL (jT.drop 21) (sP (.ref 21) (.int w) (.int h) (.int U) (.ref 27) (.int ep) (.int rt) x8 (.int hf) (.int fl) (.ref g) Uf (.ref z) (.ref H.length) y .av .av) (pH H g z v) r->Xs CL (jT.drop 14) (sP (.ref 21) (.int w) (.int h) (.int U) (.ref 27) (.int ep) (.int rt) x8 (.int hf) (.int fl) (.ref g) Uf (.ref z) .av .av .av .av) H r:=by
 refine d5 λGG Y=>?_
 have n1000:w*h<=1000:=ae dL.sN (aa rfl)
 have R:=ej (u:=pH H g z (j6 (w*h))) n1000
 refine iJ (w5 (g:=g) (x2:=.int w) (x3:=.int h) (x4:=.int U) (x6:=.int ep) (x7:=.int rt) (x8:=x8) (x9:=.int hf) (KT:=.int fl) (KF:=.ref g) (Uf:=Uf) (x13:=.ref z) dL hB hl hm Z (w*h) 0 (cx _) (y:=.av) Mm) λv y=>cJ λe F=>?_
 rw[<-fD]at e;have P:=HJ (d:=18) (E:=sP (.ref 21) (.int w) (.int h) (.int U) (.ref 27) (.int ep) (.int rt) x8 (.int hf) (.int fl) (.ref g) Uf (.ref z) .av .av .av .av) (ag (j:=11) rfl) (ag (j:=13) rfl) hg S (ae n1000 (aa rfl)) h21;have at':∀ {cr:Pv},(pH H g z cr)[H.length]?=some (.inst .gj (mW (gE H.length g z) cr)):=bJ (i:=0) rfl rfl;have pv:∀ {cr u':Pv},cr.aN=u'.aN->cr.kinds=u'.kinds->cr.cQ=u'.cQ->(pH H g z cr).set H.length (.inst .gj (mW (gE H.length g z) u'))=pH H g z u':=λ{cr u'} a b c=>by
  unfold pH;simp only[show ∀(N) o,(H++N).set H.length o=H++N.set 0 o fromλN o=>dI (i:=0),a,b,c];rfl
 refine Y ?_;refine⟨{ v with bL:=U,aX:=rt,ep:=ep,half:=hf,full:=fl },y,⟨F.GP.len,F.GP.wH,F.GP.k,F.GP.s⟩,(Mn F hl:v.aN=B),rfl,rfl,rfl,rfl,rfl,λhr=>?_⟩;refine bG P rfl rfl (iQ (iR (ak (gr (ag rfl) (ag rfl) (az dL.w8 (aa rfl))) rfl aY) R.1) R.2 e ?_);have st:∀ {cr u':Pv} {f:eM} {j:Nat} {x:V} {ss:List MS} {r:RX},eo (sP (.ref 21) (.int w) (.int h) (.int U) (.ref 27) (.int ep) (.int rt) x8 (.int hf) (.int fl) (.ref g) Uf (.ref z) (.ref H.length) y .av .av) j=some x->fq 21 H.length x=true->qt f x (mW (gE H.length g z) cr)=mW (gE H.length g z) u'->cr.aN=u'.aN->cr.kinds=u'.kinds->cr.cQ=u'.cQ ->
   Xs CL ss (sP (.ref 21) (.int w) (.int h) (.int U) (.ref 27) (.int ep) (.int rt) x8 (.int hf) (.int fl) (.ref g) Uf (.ref z) (.ref H.length) y .av .av) (pH H g z u') r->Xs CL (.assign (.aS (.ah 14) f) (.ah j)::ss) (sP (.ref 21) (.int w) (.int h) (.int U) (.ref 27) (.int ep) (.int rt) x8 (.int hf) (.int fl) (.ref g) Uf (.ref z) (.ref H.length) y .av .av) (pH H g z cr) r:=λhx hy hf a b c hr=>by
  refine uS (ag hx) (ag rfl) at' hy rfl ?_;simp only[hf,pv a b c];exact hr
 refine st (u':={ v with bL:=U }) rfl rfl rfl rfl rfl rfl (st (u':={ v with bL:=U,aX:=rt }) rfl rfl rfl rfl rfl rfl (st (u':={ v with bL:=U,aX:=rt,ep:=ep }) rfl rfl rfl rfl rfl rfl (st (u':={ v with bL:=U,aX:=rt,ep:=ep,half:=hf }) rfl rfl rfl rfl rfl rfl (st (u':={ v with bL:=U,aX:=rt,ep:=ep,half:=hf,full:=fl }) rfl rfl rfl rfl rfl rfl hr))))
end
section
variable{C:Cx}{E sw ρ'':List V}{u po rs re UF:St}{a b e:ME}{es:List ME}{v:V}{bd hd ss:List MS}{r:RX}
theorem Qs(h:Ev C a E u (.bool true) po):Ev C (.MQ (a::b::es)) E u (.bool true) po:=by
 refine HC ?_;show(ev C a E u).bind _=_;rw[h.eq];rfl
theorem Qt(h:Ev C a E u (.bool false) po)(h2:Ev C (.MQ (b::es)) E po v rs):Ev C (.MQ (a::b::es)) E u v rs:=by
 refine HC ?_;show(ev C a E u).bind _=_;exact h.eq▸h2.eq
theorem TH(h:Ev C e E u v po):Ev C (.MQ [e]) E u v po:=HC h.eq
theorem TJ{x y z:Bool}{c:ME}(ha:Ev C a E u (.bool x) u)(hb:Ev C b E u (.bool y) u)(hc:Ev C c E u (.bool z) u):Ev C (.MQ [a,b,c]) E u (.bool (x||(y||z))) u:=by
 cases x with
 | true=>exact Qs ha
 | false=>
  refine Qt ha ?_;cases y with
  | true=>exact Qs hb
  | false=>exact Qt hb (TH hc)
theorem Rx(hb:Xs C bd E u (.fY sw re))(hh:Xs C hd sw re (.ok .next ρ'' UF))(hr:Xs C ss ρ'' UF r):Xs C (.try bd hd::ss) E u r:=
 ⟨(by rw[hb.eq];show(iH C hd sw re).next _=_;rw[hh.eq];exact hr.eq:(match iH C bd E u with | .fY E u=>iH C hd E u | r=>r).next _=_)⟩
theorem Rw{j:Nat}{C:Cx}(h:ev C e E u=.fY po):Xs C (.assign (.ah j) e::ss) E u (.fY E po):=
 ⟨(by rw[h];rfl:((ev C e E u).then E λv u=>store C (.ah j) v E u).next _=_)⟩
end
theorem El{x n:Nat}:(nS x n).length=n:=by simp only[nS,aB,bV]
theorem HH{x n b:Nat}(h:b∈nS x n):b<256:=by
 refine cP (bj.mp h) λi=>cJ λ_ zn=>?_;subst zn
 exact dK _ (aa rfl)
theorem LC{p:Nat}(h:p≠0):iU p=true:=by simp only[iU,bP h];rfl
theorem two_men:∀ {B:List Nat} {i j:Nat},i<j->B.getD i 0≠0->B.getD j 0≠0->2<=B.countP iU
 | [],_,_,_,h,_=>absurd rfl h
 | x::B,0,j+1,_,hi,hj=>by
  have l:=bq λq=>hj (by refine bf.trans ?_;rw[dS q];rfl:B.getD j 0=0)
  rw[List.countP_cons_of_pos (LC hi:iU x=true)]
  exact io (List.countP_pos_iff.mpr ⟨_,bU (yt l),LC hj⟩)
 | x::B,i+1,j+1,h,hi,hj=>by
  simp only[su]
  exact ae (two_men (um h) hi hj) (aW ..)
theorem Jz{w h ka kb:Nat}{B:List Nat}(K:kP w h B ka kb)(ne:ka≠kb):2<=B.countP iU:=by
 have a:B.getD ka 0≠0:=by rw[(K.a ka).mpr rfl];decide
 have b:B.getD kb 0≠0:=by rw[(K.b kb).mpr rfl];decide
 refine bN (P5 ne) (λq=>?_) λq=>?_
 .exact two_men q a b
 .exact two_men q b a
theorem N9{L b n c e:Nat}(h:L+10=1+2*b+n+4*c+28+e)(hn:2<=n)(hc:2<=c):1+2*b+(n-2)+4*(c-2)+28+e=L:=by
 refine cP (si hn) λn Go=>?_;subst Go
 refine cP (si hc) λc Go=>?_;subst Go
 refine Nat.add_right_cancel (Eq.trans ?_ h.symm);show 1+2*b+n+4*c+28+e+10=1+2*b+(n+2)+(4*c+8)+28+e;generalize 1+2*b=x;generalize 4*c=y;have e1:x+(n+2)+(y+8)=x+n+y+10:=wB (x+n) 2 y 8;exact((aM (· + 28+e) e1).trans ((aM (· + e) (eQ (x+n+y) 10 28)).trans (eQ (x+n+y+28) 10 e))).symm
theorem N8{L b n c e:Nat}(h:L+10=1+2*b+n+4*c+28+e)(hn:n<=25)(hc:c<=n)(hb:b<=5)(he:e<=b):(L+7)/8<=90:=by lia
theorem wL{w h:Nat}(dL:Sh w h):w*h-1<2^5/\Nu 5 (w*h-1)=aC (w*h)/\aC (w*h)<=5/\2<=w*h/\2<=w:=
 kB (P:=λw h=>w*h-1<2^5/\Nu 5 (w*h-1)=aC (w*h)/\aC (w*h)<=5/\2<=w*h/\2<=w) (bc rfl) (bc rfl) (bc rfl) (bc rfl) dL.ok
theorem Ev.tr{C:Cx}{E:List V}{u po:St}{e:ME}{t:Bool}(h:Ev C e E u (.bool t) po)(q:t=true):Ev C e E u (.bool true) po:=q▸h
theorem OP{n:Nat}{u:St}:∃m:Nat,builtin .Gj [.int 1,.int n] u=.ok (.int m) u:=by
 by_cases q:(1:Int)<n
 .exact⟨n,aM (λx=>RE.ok (V.int x) u) (aF q)⟩
 .exact⟨1,aM (λx=>RE.ok (V.int x) u) (aZ q)⟩
section
variable{w h z ka kb:Nat}{ns:List Int}{u:St}{A:Ad}{v:Pv}{x8 Uf y x17:V}
noncomputable def H7(w h:Nat)(v:Pv)(A:Ad)(z:Nat)(x8 Uf y x16 x17:V):List V:=sP (.ref 21) (.int w) (.int h) (.int v.bL) (.ref 27) (.int v.ep) (.int v.aX) x8 (.int v.half) (.int v.full) (.ref A.g) Uf (.ref z) (.ref A.p) y x16 x17
theorem HP(dL:Sh w h)(K:kP w h v.aN ka kb)(C:xp (w*h) v)(S:v.bL<2)(h27:u[27]?=some (aR v.aN)){hf fl:Nat}(hh:hf<128):af 19 21 .o7 [.int w,.int h,.ref 27,.int v.bL,.int v.aX,.int v.ep,.int hf,.int fl] u=.ok (.bytes (nS (d9 (iA w h ⟨v.aN,v.bL,v.aX,v.ep,hf,fl⟩ ka kb)) (((iA w h ⟨v.aN,v.bL,v.aX,v.ep,hf,fl⟩ ka kb).length+7)/8))) u:=
 Oz dL h27 C.len C.wH K S hh (wL dL).1 (wL dL).2.1
theorem OV(dL:Sh w h)(P:eV A v u)(db:Iw w h A.g u)(C:xp (w*h) v)(K:kP w h v.aN ka kb)(hep:v.ep<0\/∃q:Nat,v.ep=q)(S:v.bL<2)(h27:u[27]?=some (aR v.aN)){r:RX}
  (hr:Xs CL (jT.drop 22) (H7 w h v A z x8 Uf y (.bool true) .av) u r):Xs CL (jT.drop 21) (H7 w h v A z x8 Uf y .av .av) u r:=by
 have pp:=Bk (d:=14) (mk:=21) dL P C K db hep
 have ar:yv CL [.ah 14] (H7 w h v A z x8 Uf y .av .av) u [.ref A.p] u:=ak (ag rfl) rfl aY
 by_cases q:v.half<128/\1<=v.full/\v.full<65536
 .rw[aF q]at pp;have e1:=j5 (bw (f:=.gI) ar pp) (gf (op:=.eq) (bw (f:=.o7) (ak (ag (j:=2) rfl) rfl (ak (ag (j:=3) rfl) rfl (ak (ag (j:=5) rfl) rfl (ak (ag (j:=4) rfl) rfl (ak (ag (j:=7) rfl) rfl (ak (ag (j:=6) rfl) rfl (ak (ag (j:=9) rfl) rfl (ak (ag (j:=10) rfl) rfl aY)))))))) (HP dL K C S h27 q.1)) (aM some (bp rfl)));have e2:Ev CL (.nX [(.ah 16),(.cy (.ah 9) [.lt] [(.ai 128)]),(.cy (.ai 0) [.lt,.lt] [(.ah 10),(.ai 65536)])]) (H7 w h v A z x8 Uf y (.bool true) .av) u (.bool true) u:=
   mj (ag rfl) (mj ((j5 (ag rfl) (pF (bC 128))).tr (LD q.1)) (uW (j5 (bC 0) (Py (ag rfl) (aM some (LD q.2.1)) (gf (bC 65536) (aM some (LD q.2.2)))))))
  exact Kw (bG e1 rfl rfl (bG e2 rfl rfl dQ)) hr
 .rw[aZ q]at pp;have e1:ev CL (.cy (.call .gI [(.ah 14)]) [.eq] [(.call .o7 [(.ah 2),(.ah 3),(.ah 5),(.ah 4),(.ah 7),(.ah 6),(.ah 9),(.ah 10)])]) (H7 w h v A z x8 Uf y .av .av) u=.fY u:=by
   show((q9 CL [.ah 14] (H7 w h v A z x8 Uf y .av .av) u).bind λvs u=>CL.call CL.mark .gI vs u).bind _=_
   simp only[ar.eq,RE.cV,show CL.call CL.mark .gI [.ref A.p] u=.fY u from pp];rfl
  have e2:=TJ (j5 (ag (C:=CL) (u:=u) (E:=H7 w h v A z x8 Uf y .av .av) (j:=9) rfl) (Dj (bC 127))) (j5 (ag (j:=10) rfl) (pF (bC 1))) (j5 (ag (j:=10) rfl) (Dj (bC 65535)))
  refine Rx (Rw e1) (bG (e2.tr ?_) rfl rfl dQ) hr;by_cases a:v.half<128
  .by_cases b:1<=v.full
   .have c:=bZ λc=>q ⟨a,b,c⟩
    simp only[LD c,fO,fO]
   .simp only[LD (bq b),pW,fO]
  .rw[LD (bZ a)];rfl
end
section
variable{w h z ka kb:Nat}{ns:List Int}{u:St}{A:Ad}{v:Pv}{x8 Uf y:V}
theorem Qv{n:Nat}{data:List Nat}{E:List V}{e:ME}{N:St}(dL:Sh w h)(Q:World w h A.g z ud Nv Mv N7 (u++N))(he:Ev CL e E u (.bytes data) (u++N))(l2:eo E 2=some (.int w))(l3:eo E 3=some (.int h))(l11:eo E 11=some (.ref A.g))(l13:eo E 13=some (.ref z))(hd:∀b∈data,b<256)(hl:data.length<=n)(hn:n<=100):
  Ev CL (.call .lG [e,.ah 2,.ah 3,.ah 11,.ah 13]) E u (.bool true) (u++N):=
 bw (ak he rfl (ak (ag l2) rfl (ak (ag l3) rfl (ak (ag l11) rfl (ak (ag l13) rfl aY))))) (J5 dL Q hd (ae hl hn) (wL dL).1 (wL dL).2.1)
theorem F6{n:Nat}{data:List Nat}{E:List V}{e:ME}(dL:Sh w h)(Q:World w h A.g z ud Nv Mv N7 u)(he:Ev CL e E u (.bytes data) u)(l2:eo E 2=some (.int w))(l3:eo E 3=some (.int h))(l11:eo E 11=some (.ref A.g))(l13:eo E 13=some (.ref z))(hd:∀b∈data,b<256)(hl:data.length<=n)(hn:n<=100):
  Ev CL (.call .lG [e,.ah 2,.ah 3,.ah 11,.ah 13]) E u (.bool true) u:=by
 have q:=Qv (N:=[]) dL (by simp only[aP];exact Q) (by simp only[aP];exact he) l2 l3 l11 l13 hd hl hn
 simp only[aP]at q;exact q
theorem LQ(dL:Sh w h)(Q:World w h A.g z ud Nv Mv N7 u)(P:eV A v u)(C:xp (w*h) v)(K:kP w h v.aN ka kb)(ne:ka≠kb)(S:v.bL<2)(h27:u[27]?=some (aR v.aN)):∃D:List Nat,(∀b∈D,b<256)/\D.length<=90/\∀ {r:RX},
  Xs CL (jT.drop 24) (H7 w h v A z x8 Uf y (.bool true) (.bytes D)) u r->Xs CL (jT.drop 22) (H7 w h v A z x8 Uf y (.bool true) .av) u r:=by
 refine cP (OP (n:=v.full%65536) (u:=u)) λm hm=>?_
 have ol:=HP (fl:=m) dL K C S h27 (dK v.half (by decide))
 have F:=wL dL
 have two:=Jz K ne
 have len:=Ec (t:=⟨v.aN,v.bL,v.aX,v.ep,v.half%128,m⟩) dL C.len K ne
 have pk:=Js (d:=17) (mk:=21) dL P Q.qN C.len two F.2.2.2.1
 rw[N9 len F.2.2.2.1 two]at pk;have c25:v.aN.countP iU<=w*h:=C.len▸List.countP_le_length;have ep5:(if v.ep<0 then 0 else aC (w*h))<=aC (w*h):=by
  split
  .exact fe _
  .exact cH _
 have l90:=N8 len dL.sN c25 F.2.2.1 ep5
 generalize iA w h ⟨v.aN,v.bL,v.aX,v.ep,v.half%128,m⟩ ka kb=bits at ol pk l90;have hl:(nS (d9 bits) ((bits.length+7)/8)).length<=90:=by exact El▸l90
 refine⟨nS (d9 bits) ((bits.length+7)/8),λb=>HH,hl,λhr=>?_⟩;have e1:=bw (C:=CL) (f:=.o7) (ak (ag (E:=H7 w h v A z x8 Uf y (.bool true) .av) (j:=2) rfl) rfl (ak (ag (j:=3) rfl) rfl (ak (ag (j:=5) rfl) rfl (ak (ag (j:=4) rfl) rfl (ak (ag (j:=7) rfl) rfl (ak (ag (j:=6) rfl) rfl (ak (je (ag (j:=9) rfl) (bC 128) (by decide)) rfl (ak (pC (ak (bC 1) rfl (ak (je (ag (j:=10) rfl) (bC 65536) (aa rfl)) rfl aY)) hm) rfl aY)))))))) ol;refine bG e1 rfl rfl (bG (mj (ag rfl) (mj (Ev.tr (Lg (j7 (jL (bw (ak (ag rfl) rfl aY) pk) (bC 7)) (bC 8) (aa rfl) (aa rfl)) (pC (ak (ag rfl) rfl aY) (aF (ae hl (aa rfl))))) (bp El.symm)) (uW (F6 dL Q (ag rfl) rfl rfl rfl rfl (λb=>HH) hl (aa rfl))))) rfl rfl hr)
theorem Et{i n:Nat}{D:List Nat}{E:List V}(hi:i<4096)(h21:u[21]?=some (vU ns))(l1:eo E 1=some (.ref 21))(l17:eo E 17=some (.bytes D))(hd:∀b∈D,b<256)(hl:D.length<=n)(hn:n<=99):∃D':List Nat,(∀b∈D',b<256)/\D'.length<=n+1/\Ev CL (.call .Ap [.ah 17,.call .iY [.ah 1,.ai i,.ai 4000]]) E u (.bytes D') u:=by
 refine d5 λGG Y=>?_
 refine cP (CM (l:=ns.take 14) (i:=i) (m:=4000) (aa rfl)) λcr=>cJ λhu _=>?_
 refine cP (PE (d:=18) (mk:=21) (v:=cr) (u:=u) hd (ae hl (ae hn (aa rfl)))) λD'=>jc λe h1 h2=>?_
 have pk:=CN 18 21 21 i 4000 (ns.take 14) u h21 Eu hi (bc rfl)
 rw[show Ed (ns.take 14) i 4000=cr from hu]at pk;refine Y ?_;exact⟨D',h1,ae h2 (io hl),bw (ak (ag l17) rfl (ak (bw (ak (ag l1) rfl ⟨rfl⟩) pk) rfl aY)) e⟩
theorem OW{E:List V}(h20:u[20]?=some (.lV (ns.map V.int)))(hl:ns.length<=hV)(l0:eo E 0=some (.ref 20))(h22:22<E.length):∃(D:List Nat) (N:St),(∀b∈D,b<256)/\D.length<=24/\Ev CL (.bi .bytes [(.gu (.aQ .iq (.ah 22) (.ai 256)) 22 (.slice (.ah 0) none (some (.ai 24))) none)]) E u (.bytes D) (u++N):=by
 have sl:=slice_list (lo:=.none) (hi:=.int 24) (j:=24) h20 (by rw[aB];exact hl) rfl rfl
 rw[show cut (ns.map V.int) 0 24=(ns.take 24).map V.int by rw[cut,List.drop_zero,<-xr]]at sl;have l24:(ns.take 24).length<=24:=by rw[eZ];exact DA ..
 have cp:=wM (C:=CL) (xL:=.aQ .iq (.ah 22) (.ai 256)) (s:=22) (λx=>match x with | .int i=>.int (i%256).toNat | x=>x) (qT (lo:=none) (hi:=some (.ai 24)) (ag l0) rfl rfl sl) (iF (dR _ _) (by rw[aB];exact ae l24 (by decide))) (bp (dR _ _)) (λx hx=>by
  refine cP (bj.mp hx) λk=>cJ λ_ zn=>?_;subst zn
  refine⟨df (k:=k) (ag (by simp only[eo,cG h22])) bh ((rA (by decide)).trans ?_),rfl⟩;rw[fj (uM k (by decide))]) (by rw[aB];exact ae l24 (by decide))
 rw[am,dY]at cp;have lt:∀b∈(ns.take 24).map λi=>(i%256).toNat,b<256:=λb hb=>by
  refine cP (bj.mp hb) λk=>cJ λ_ zn=>?_;subst zn
  exact(Int.toNat_lt (uM k (by decide))).mpr (ye k (by decide))
 have bb:=td (u:=u++([.list ((ns.take 24).map V.int)]++[.list ((ns.take 24).map λi=>V.int ((i%256).toNat))])) (a:=(u++[O.list ((ns.take 24).map V.int)]).length) (by rw[dY,<-am];exact dR _ _) (by rw[aB];exact ae l24 (by decide)) lt
 exact⟨_,_,lt,by rw[aB];exact l24,pC (ak cp rfl aY) bb⟩
end
section
variable{w h z ka kb:Nat}{ns:List Int}{u:St}{A:Ad}{v:Pv}{x8 Uf y:V}
theorem TU(dL:Sh w h)(Q:World w h A.g z ud Nv Mv N7 u)(P:eV A v u)(C:xp (w*h) v)(K:kP w h v.aN ka kb)(ne:ka≠kb)(hep:v.ep<0\/∃q:Nat,v.ep=q)(S:v.bL<2)(h27:u[27]?=some (aR v.aN))(h21:u[21]?=some (vU ns))(h20:u[20]?=some (.lV (ns.map V.int)))(hl:ns.length<=hV):
  ∃sw re,Xs CL (jT.drop 21) (H7 w h v A z x8 Uf y .av .av) u (.ok (.ret (.bool true)) sw re):=by
 refine d5 λGG Y=>?_
 refine cP (LQ (x8:=x8) (Uf:=Uf) (y:=y) dL Q P C K ne S h27) λD0=>jc λa0 l0 s0=>?_
 refine cP (Et (i:=1) (E:=H7 w h v A z x8 Uf y (.bool true) (.bytes D0)) (aa rfl) h21 rfl rfl a0 l0 (aa rfl)) λD1=>jc λa1 l1 e1=>?_
 refine cP (Et (i:=2) (E:=H7 w h v A z x8 Uf y (.bool true) (.bytes D1)) (aa rfl) h21 rfl rfl a1 l1 (aa rfl)) λD2=>jc λa2 l2 e2=>?_
 refine iJ (OW (E:=H7 w h v A z x8 Uf y (.bool true) (.bytes D2)) h20 hl rfl (aa rfl)) λD3 N=>jc λa3 l3 e3=>?_
 refine Y ?_;exact⟨_,_,OV dL P Q.qN C K hep S h27 (s0 (bG e1 rfl rfl (bG (mj (ag rfl) (uW (F6 dL Q (ag rfl) rfl rfl rfl rfl a1 l1 (aa rfl)))) rfl rfl (bG e2 rfl rfl (dN (mj (ag rfl) (mj (F6 dL Q (ag rfl) rfl rfl rfl rfl a2 l2 (aa rfl)) (uW (Qv dL (Q.ky N) e3 rfl rfl rfl rfl a3 l3 (aa rfl))))))))))⟩
theorem LO(mg:∀ {w h:Nat} (B:List Nat) (o:O),mX w h->∃N,af 19 21 .mJ [.int w,.int h,.bool (decide (5<=h)),.bool true] (lB ns B [o])=.ok (.ref 29) (lB ns B (o::N))/\Iw w h 29 (lB ns B (o::N)))(hl:ns.length<=63):∃sw re,Xs CL jT (sP .av .av .av .av .av .av .av .av .av .av .av .av .av .av .av .av .av) (lH ns []) (.ok (.ret (.bool true)) sw re):=by
 refine d5 λGG Y=>?_
 have hl:ns.length<=hV:=ae hl (aa rfl)
 refine iJ (TY hl) λw h=>cJ λok sa=>?_
 have dL:=TB ok
 refine Ux (TX (ns:=ns) dL (wL dL).2.2.2.2) λU ka kb B ep o=>mT λIN X hep sb=>?_
 refine Kv (TV (ns:=ns) (o:=o) (x4:=.int U) (x6:=.int ep) dL X.len) λrt hf fl i=>cJ λob4 sc=>?_;clear ob4
 refine cP (mg B o ok) λN=>cJ λeg db=>?_
 have l21:21<=(lB ns B (o::N)).length:=by simp only[lB];exact jO ..
 have Z:=Rr (w:=w) (H:=lB ns B (o::N)) (m:=w*h)
 have ZK:=Ta (w:=w) (H:=lB ns B (o::N)) (m:=w*h)
 have Q:World w h 29 _ ud Nv Mv N7 (lB ns B (o::N)++zO (lB ns B (o::N)).length w (w*h)):=⟨λi o e=>bv (yn i o e),db.to λJ J=>bv,Z,ZK⟩
 refine iJ (TS (x8:=i) (Uf:=.ref ((lB ns B (o::N)).length+15)) (U:=U) (rt:=rt) (hf:=hf) (fl:=fl) (ep:=ep) dL (bv BB) X.len X.wH Z Q.qN.gi rfl (by simp only[aj];exact ae l21 (aW ..))) λv y=>Rv λC hb ob4 ob5 ob6 ob7 ob8 sp=>?_;subst ob4;subst ob5;subst ob6;subst ob7;subst ob8
 have hep':v.ep<0\/∃q:Nat,v.ep=q:=by
  refine bN hep (λe=>?_) λOn=>?_
  .exact e▸(.inl (bc rfl))
  .refine cP On λq=>cJ λe _=>?_;exact .inr ⟨q,e⟩
 refine iJ (TU (x8:=i) (Uf:=.ref ((lB ns B (o::N)).length+15)) (y:=y) (A:=gE _ 29 ((lB ns B (o::N)).length+18)) dL (Q.ky _) Ln C (hb▸X.vV) X.ne hep' IN (hb▸bv (bv BB)) (bv (bv LS)) (bv (bv rfl)) hl) λsw re e=>?_
 have e5:Ev CL (.cy (.ah 3) [.ge] [(.ai 5)]) (sP (.ref 21) (.int w) (.int h) (.int v.bL) (.ref 27) (.int v.ep) (.int v.aX) i (.int v.half) (.int v.full) .av .av .av .av .av .av .av) (lB ns B [o]) (.bool (decide (5<=h))) (lB ns B [o]):=by
  have q:=j5 (ag (C:=CL) (u:=lB ns B [o]) (E:=sP (.ref 21) (.int w) (.int h) (.int v.bL) (.ref 27) (.int v.ep) (.int v.aX) i (.int v.half) (.int v.full) .av .av .av .av .av .av .av) (j:=3) rfl) (u6 (bC 5))
  simp only[show decide (((5:Nat))<=(h:Int))=decide (5<=h)from decide_eq_decide.mpr kI]at q;exact q
 refine Y ?_;exact⟨_,_,sa (sb (sc (bG (bw (ak (ag rfl) rfl (ak (ag rfl) rfl (ak e5 rfl ⟨rfl⟩))) eg) rfl rfl (TR dL l21 (sp e)))))⟩
end
noncomputable def Ul(w:Nat):List V:=if w=8 then[.ref 72,.ref 73,.ref 74,.ref 75]else aw 4 .none
def Nb(w h:Nat)(X:St):Prop:=
 X[0]?=some (.inst .eE (Md w h 29))/\X[2]?=some (aR ((aI h).map (xx w)))/\X[3]?=some (.list ((aI 8).map λd=>V.ref (Ld 29 d))) /\
 (∀d,d<8->X[Ld 0 d]?=some (Qp w h (CE w h d)))/\X[12]?=some (Qp w h (LV w h))/\X[5]?=some (Qp w h (CV w h))/\X[8]?=some (.list [.ref 35,.ref 36]) /\
 (∀s,s<2->X[6+s]?=some (Qp w h (vI w h s)))/\X[9]?=some (.list (Ul w)) /\
 (w=8->X[43]?=some (.eY [.int 4,.int 6,.int 7,.int 5])/\X[44]?=some (.eY [.int 4,.int 2,.int 0,.int 3])/\X[45]?=some (.eY [.int 20,.int 22,.int 23,.int 21])/\X[46]?=some (.eY [.int 20,.int 18,.int 16,.int 19]))
noncomputable instance (w h:Nat) (X:St):Decidable (Nb w h X):=by unfold Nb;infer_instance
noncomputable def Me:RE V->St
 | .ok _ N=>N
 | _=>[]
noncomputable def Sn(w h:Nat):RE V->Bool
 | .ok v N=>decide (v=.ref 29)&&decide (Nb w h (N.drop 29))
 | _=>false
noncomputable def Ub(w h:Nat)(ns:List Int)(B:List Nat)(o:O):RE V:=af 19 21 .mJ [.int w,.int h,.bool (decide (5<=h)),.bool true] (lB ns B [o])
def O7(w h:Nat):Prop:=∀ns B o,(Sn w h (Ub w h ns B o),(Me (Ub w h ns B o)).take 29)=(true,lB ns B [o])
theorem Wh:O7 3 4:=λJ J J=>by kernel_rfl
theorem Wg:O7 4 5:=λJ J J=>by kernel_rfl
theorem We:O7 8 3:=λJ J J=>by kernel_rfl
theorem Wf:O7 5 5:=λJ J J=>by kernel_rfl
theorem U5{w h:Nat}{r:RE V}{P:St}(q:(Sn w h r,(Me r).take 29)=(true,P)):∃X,r=.ok (.ref 29) (P++X)/\Nb w h X:=by
 have q1:Sn w h r=true:=aM Prod.fst q
 have q2:(Me r).take 29=P:=aM Prod.snd q
 cases r with
 | ok v N=>
  have z:=(aH _ _).mp q1
  exact⟨N.drop 29,by rw[bc z.1,<-q2];exact aM _ (nF 29 N).symm,bc z.2⟩
 | fY _=>exact absurd q1 xQ
 | cn=>exact absurd q1 xQ
theorem Cu{w h i:Nat}{u:St}(q:((j0 w i:Int)-(w/2:Nat)).natAbs<3):xn w h u i .none:=.no λJ=>aF q
theorem Sl{w h:Nat}{u X:St}(ok:mX w h)(kt:Nb w h X)(hσ:∀ {i:Nat} {o:O},X[i]?=some o->u[29+i]?=some o):Iw w h 29 u:=by
 refine UH (λt0 t1 t2 t3 t4 t5 t6 t7 t8 t9=>?_) kt;clear kt;refine⟨hσ t0,hσ t1,hσ t2,λd hd=>?_,hσ t4,hσ t5,hσ t6,λs S=>?_,⟨_,hσ t8,λi hi=>?_⟩⟩
 .have q:=hσ (t3 d hd)
  simp only[Ld,cx]at q;exact q
 .simp only[dA];exact hσ (t7 s S)
 .have cI:i=0\/i=1\/i=2\/i=3:=by clear t0 t1 t2 t3 t4 t5 t6 t7 t8 t9 hσ ok;lia
  rcases ok with⟨rfl,rfl⟩ | ⟨rfl,rfl⟩ | ⟨rfl,rfl⟩ | ⟨rfl,rfl⟩
  .exact⟨.none,by rcases cI with rfl | rfl | rfl | rfl<;>rfl,Cu (by rcases cI with rfl | rfl | rfl | rfl<;>decide)⟩
  .exact⟨.none,by rcases cI with rfl | rfl | rfl | rfl<;>rfl,Cu (by rcases cI with rfl | rfl | rfl | rfl<;>decide)⟩
  .refine mT (λu0 u1 u2 u3=>?_) (t9 rfl);rcases cI with rfl | rfl | rfl | rfl
   .exact⟨_,rfl,.at' (k:=4) (hσ u0) (by decide) (aa rfl) λJ=>rfl⟩
   .exact⟨_,rfl,.at' (k:=4) (hσ u1) (by decide) (aa rfl) λJ=>rfl⟩
   .exact⟨_,rfl,.at' (k:=20) (hσ u2) (by decide) (aa rfl) λJ=>rfl⟩
   .exact⟨_,rfl,.at' (k:=20) (hσ u3) (by decide) (aa rfl) λJ=>rfl⟩
  .exact⟨.none,by rcases cI with rfl | rfl | rfl | rfl<;>rfl,Cu (by rcases cI with rfl | rfl | rfl | rfl<;>decide)⟩
theorem Mc{w h:Nat}{ns:List Int}(B:List Nat)(o:O)(ok:mX w h):∃N,af 19 21 .mJ [.int w,.int h,.bool (decide (5<=h)),.bool true] (lB ns B [o])=.ok (.ref 29) (lB ns B (o::N))/\Iw w h 29 (lB ns B (o::N)):=by
 refine cP (U5 (kB Wh Wg We Wf ok ns B o)) λX=>cJ λq kt=>?_
 exact⟨X,q,Sl ok kt λ{i o} h=>by rw[b9 29];exact sS h⟩
theorem LR{ns:List Int}(hl:ns.length<=63):∃sw re,Xs CL jT (sP .av .av .av .av .av .av .av .av .av .av .av .av .av .av .av .av .av) (lH ns []) (.ok (.ret (.bool true)) sw re):=LO (λB o ok=>Mc B o ok) hl
end Mine.Internal
namespace Mine.head
theorem q:True:=trivial
def tw12310735299239354703:=q
def tw13942192884097748152:=q
def tw12460202669355646752:=q
def tw11628534518673281344:=q
def tw3715584954343283195:=q
def tw3453547403478019728:=q
def tw2554682012703037696:=q
def tw8159583801465064534:=q
def tw16871623187472473471:=q
def tw14788773977795034992:=q
def tw6772502638888315869:=q
def tw15794997505209512671:=q
def tw2393098407364606883:=q
def tw18007968972792079559:=q
def tw4473611206160876864:=q
def tw2864405669816312776:=q
def tw9133290819911140118:=q
def tw18176413224385145225:=q
def tw9186546921256032858:=q
def tw5501060405047882677:=q
def tw3986194592780655508:=q
def tw14628233357713752721:=q
def tw14139502460874162764:=q
def tw3790771472595898956:=q
def tw3696042808614700290:=q
def tw7494366503370351645:=q
def tw15181326774706428367:=q
def tw7450023128482652576:=q
def tw18384547517478447814:=q
def tw12352672977532951062:=q
def tw1134157569726261602:=q
def tw12870424476946447624:=q
def tw69809265629811306:=q
def tw4834694072379752904:=q
def tw9449176361245260279:=q
def tw6088685845774392931:=q
def tw45052839361067614:=q
def tw10848362182705264496:=q
def tw8671685427711848851:=q
def tw4965378191221513410:=q
def tw14720509044617813951:=q
def tw10265929125382437317:=q
def tw1519320592345488741:=q
def tw1919001801439425371:=q
def tw6240353410654795137:=q
def tw8895791426145780158:=q
def tw8187629637223713605:=q
def tw17674571679781333832:=q
def tw15436542981012472205:=q
def tw13510609219080548989:=q
def tw11105056867450500199:=q
def tw15135619693733244150:=q
def tw16817119741492734445:=q
def tw7498250532897285284:=q
def tw2797894973233656403:=q
def tw7876399200375917224:=q
def tw10812213935944405949:=q
def tw17453365369857097546:=q
def tw9114333099845857663:=q
def tw8182079617134344778:=q
def tw17988201657351507238:=q
def tw6889739017440866108:=q
def tw4693820183103290663:=q
def tw16903022960794457021:=q
def tw17782148633632673465:=q
def tw9464831228461672588:=q
def tw18264441199730398920:=q
def tw709382114072422158:=q
def tw13357441389134331599:=q
def tw7161073391023584161:=q
def tw9853672686765084745:=q
def tw15035418422258542911:=q
def tw16659920880120507502:=q
def tw16072502192527678464:=q
def tw12601080634535202701:=q
def tw17444863063712431705:=q
def tw5425156493105757533:=q
def tw5508695066786827253:=q
def tw1714602735852981970:=q
def tw16966009324859112401:=q
def tw1212124681294104184:=q
def tw9388430590476628193:=q
def tw12182850187970735909:=q
def tw5515381820778694223:=q
def tw8402214883040486957:=q
def tw12822298378996975857:=q
def tw6521490308693473283:=q
def tw8169693465737517768:=q
def tw15798066900824788120:=q
def tw2907111362388958804:=q
def tw13335025841360890868:=q
def tw7758381527925395934:=q
def tw14597329475937083939:=q
def tw604627371996746742:=q
def tw16714887947964762639:=q
def tw10015159338476511836:=q
def tw3944913497352057107:=q
def tw12207028300977255130:=q
def tw11820730986300896962:=q
def tw17486074103640542121:=q
def tw9065935926736091543:=q
def tw12201952087667049370:=q
def tw3281809517304281197:=q
def tw17017319662998615:=q
def tw15539854500240908086:=q
def tw11427066125472700054:=q
def tw3062044705579621278:=q
def tw9987851973559822609:=q
def tw10706776884845955466:=q
def tw15604011560834605598:=q
def tw15735840784391694233:=q
def tw742351954350328859:=q
def tw1618804561499322139:=q
def tw6247268493268985975:=q
def tw12773685731770592110:=q
def tw13637325136056909300:=q
def tw7658410731251134818:=q
def tw14699756766385990792:=q
def tw11714945338242495837:=q
def tw13294958713779813728:=q
def tw6211381574409162282:=q
def tw17297054508065495485:=q
def tw6588589085864783938:=q
def tw14643560169476415855:=q
def tw9196398404247428943:=q
def tw16111715859725283846:=q
def tw1832916270232011604:=q
def tw7148437315225170067:=q
def tw14676189674455941282:=q
def tw12907341927284353242:=q
def tw15796087645652482245:=q
def tw9162278640276766204:=q
def tw10270352894671993868:=q
def tw12695399030622205104:=q
def tw15785421084128741142:=q
def tw7253898381062576733:=q
def tw12328230846540189838:=q
def tw1457377512435260902:=q
def tw8603420104599213669:=q
def tw12362083183470981646:=q
def tw4964814941381164201:=q
def tw3264716943610762504:=q
def tw7417405269818204032:=q
def tw739537129135343663:=q
def tw17552560543380974038:=q
def tw13295082483830516422:=q
def tw9062998866958442273:=q
def tw5111174896325423537:=q
def tw11063524718261073790:=q
def tw10021064610941686981:=q
def tw12478146576626367362:=q
def tw17539234302018041193:=q
def tw5651425540991249520:=q
def tw6079359036626576793:=q
def tw8382746154173761051:=q
def tw5019597260055213698:=q
def tw1315283587788430596:=q
def tw17173245716831642929:=q
def tw4433315090154635215:=q
def tw7802898811600756450:=q
def tw15305915472762889579:=q
def tw17844492200522320778:=q
def tw9625377726130185387:=q
def tw3501597964444990463:=q
def tw2581250870941146908:=q
def tw8541356943393881859:=q
def tw174166394780034911:=q
def tw3089916443595474862:=q
def tw3615648651819825313:=q
def tw5438144065070405397:=q
def tw15037083628117588352:=q
def tw7994106446794305319:=q
def tw1909714482019496454:=q
def tw8627200689577751383:=q
def tw13086575352542018947:=q
def tw1608297297296620843:=q
def tw4691952243595246448:=q
def tw5996384718915585738:=q
def tw8549075639274686408:=q
def tw4415685298772064003:=q
def tw17113217626458354986:=q
def tw17700853532424174462:=q
def tw5870146547769353613:=q
def tw807142644699662319:=q
def tw17789423225533864492:=q
def tw5096742575497195690:=q
def tw2879759524354350568:=q
def tw6402496994288996404:=q
def tw15647610678857825673:=q
def tw780477332936465449:=q
def tw16922147877168347812:=q
def tw12892129938458570674:=q
def tw12344544660321961925:=q
def tw5599997604879368025:=q
def tw2876011056497122456:=q
def tw1251892344508089249:=q
def tw5401097623525119610:=q
def tw6327039764776113722:=q
def tw5353729903917744248:=q
def tw6640010369347007910:=q
def tw14349913743752837093:=q
def tw15666658371737129944:=q
def tw8535708456716222715:=q
def tw1495726902847802894:=q
def tw15638870477510070732:=q
def tw9142320679590124636:=q
def tw10510622979536455646:=q
def tw9030979908501067730:=q
def tw693309671712327132:=q
def tw1506576300011279404:=q
def tw7704315382344345624:=q
def tw16894197260953374720:=q
def tw1643771367246577777:=q
def tw5986637957666399235:=q
def tw11194998557105285118:=q
def tw7805308653706644653:=q
def tw2825341998796452840:=q
def tw15039987702171664376:=q
def tw10988817232074504935:=q
def tw12364624919760631829:=q
def tw12611893724949602041:=q
def tw12475708393154427166:=q
def tw14512941343882779238:=q
def tw11484358847640170188:=q
def tw14061139507663348314:=q
def tw6053349399257934933:=q
def tw13276723143375012678:=q
def tw17854896373637125580:=q
def tw13743032657059413451:=q
def tw11582096051123008839:=q
def tw13353151263460963528:=q
def tw5927865893512547691:=q
def tw10079960370226730655:=q
def tw7512725033676591148:=q
def tw1224924573807776437:=q
def tw17888318370730626389:=q
def tw4708111749353345164:=q
def tw2400818531096893172:=q
def tw9082462177598256812:=q
def tw573967197379146972:=q
def tw8497721794823489343:=q
def tw11862927689305589065:=q
def tw10356212845559719233:=q
def tw13988103294471073821:=q
def tw1917425121527220963:=q
def tw1276956409769668328:=q
def tw3688799982635324794:=q
def tw17464823870196871000:=q
def tw14744981736328886265:=q
def tw10748227973586771634:=q
def tw14882813523228863612:=q
def tw4543076655600059902:=q
def tw6857060684267632606:=q
def tw13180129090757240718:=q
def tw9325057278558614444:=q
def tw14149427978524627653:=q
def tw6237802210402583469:=q
def tw1852205218256702202:=q
def tw6587087628758450585:=q
def tw2994366008111725845:=q
def tw12024539317367501503:=q
def tw48543519692965452:=q
def tw12147184966966947637:=q
def tw1858285994304674589:=q
def tw17725469503822016867:=q
def tw13137911371727378231:=q
def tw10005452208157733855:=q
def tw14943480678444902952:=q
def tw2350586252961548244:=q
def tw3185377453876500656:=q
def tw17197444120159719569:=q
def tw5788964047882338313:=q
def tw6426539377367359892:=q
def tw6053997905714604814:=q
def tw5638995163158488052:=q
def tw3160712208675142370:=q
def tw16474958459275807246:=q
def tw17826015225549371706:=q
def tw13605870324054321959:=q
def tw3512634313551410195:=q
def tw1748456618969930982:=q
def tw12359489953124434286:=q
def tw4421269845303654710:=q
def tw5506250874072839755:=q
def tw4381510469713062047:=q
def tw10070411193226618655:=q
def tw14877080517539528568:=q
def tw15840312062823119879:=q
def tw17821319399108415887:=q
def tw12704426703380559182:=q
def tw851385035628625539:=q
def tw4338482244790964999:=q
def tw8402328212356670530:=q
def tw6085824867444503733:=q
def tw13508044439285423174:=q
def tw10533634037010066435:=q
def tw8812732774380208333:=q
def tw16984083398119652359:=q
def tw2298694737197419510:=q
def tw12032222614953749359:=q
def tw16172288393029767808:=q
def tw2237326684586592538:=q
def tw9353324838224930552:=q
def tw17508272824862286709:=q
def tw9145527808636388435:=q
def tw14234965402570480558:=q
def tw7906546307943345882:=q
def tw4975070653579243887:=q
def tw262713603470380999:=q
def tw1626232751844553403:=q
def tw14168692526580214153:=q
def tw6846597200999610202:=q
def tw6110071263904590700:=q
def tw5629256929840616583:=q
def tw8874674299285249911:=q
def tw11124748197601291601:=q
def tw3304075619188804072:=q
def tw5973763720392745831:=q
def tw6776032007060665784:=q
def tw4554283584077286953:=q
def tw2326617092838664518:=q
def tw17577399041416155939:=q
def tw315434073420411817:=q
def tw779419810087314491:=q
def tw17243387458012846398:=q
def tw12205659690895024086:=q
def tw10987702880554017565:=q
def tw3821945547825155762:=q
def tw8216834362191484069:=q
def tw5479459121986351116:=q
def tw11988142204041823098:=q
def tw8414573866900348196:=q
def tw18332285231265401824:=q
def tw5797013207949663412:=q
def tw7523532297153676066:=q
def tw527386997569798941:=q
def tw9851633324533329740:=q
def tw14956371261235936329:=q
def tw10059252607514160932:=q
def tw10205530081349824492:=q
def tw15895748673760503845:=q
def tw5319049981483164881:=q
def tw9716329373054682134:=q
def tw10261356005730403935:=q
def tw10573961123116132518:=q
def tw18051680202136193954:=q
def tw2753283235347674219:=q
def tw11692735721529064706:=q
def tw4023466491090337370:=q
def tw2477160067735435323:=q
def tw10730805705081004914:=q
def tw1489404036187247834:=q
def tw12987040726578829979:=q
def tw6265338273532641288:=q
def tw12212823987433534256:=q
def tw9316954552087555400:=q
def tw7688317290187622652:=q
def tw10900948863051656163:=q
def tw15326552575505426906:=q
def tw14385403278947933607:=q
def tw13227620805987009915:=q
def tw4063747431996464497:=q
def tw11180365069992382532:=q
def tw17348764703882912863:=q
def tw6100774026682323163:=q
def tw12287978374625458572:=q
def tw4311042196063409733:=q
def tw3368030927266983236:=q
def tw14667470093908496907:=q
def tw17265401458761052179:=q
def tw17646911460466567920:=q
def tw6474009502463322548:=q
def tw17173873811939181491:=q
def tw13537664574400122534:=q
def tw9827913525700040407:=q
def tw16065720564569863766:=q
def tw3690969761935527329:=q
def tw17142359554024780413:=q
def tw6388477656530123435:=q
def tw3214411596750702033:=q
def tw5141578139466067413:=q
def tw10875119458065257276:=q
def tw12903917746401883607:=q
def tw16576625349610184965:=q
def tw3749026756887285471:=q
def tw16640130746408290383:=q
def tw2506711637615833298:=q
def tw140066278072042493:=q
def tw10898857373019930491:=q
def tw14982685227137828758:=q
def tw11925700103697007601:=q
def tw1687793838685487538:=q
def tw10736139440505347576:=q
def tw3088210815446039105:=q
def tw17854890406432584798:=q
def tw7096138990903361605:=q
def tw11923155195566972133:=q
def tw7556985902211873679:=q
def tw14969872817325187116:=q
def tw5274623360512300857:=q
def tw3581614266968435656:=q
def tw7901268698958117014:=q
def tw8773370040425892893:=q
def tw6298033893332097587:=q
def tw11305582741114486441:=q
def tw3991279037241028524:=q
def tw12741294794224977040:=q
def tw300626226527484142:=q
def tw11485113708198979986:=q
def tw2728595385866086531:=q
def tw6489421142724028100:=q
def tw9407594320385231609:=q
def tw466721876749952763:=q
def tw14432977821161478157:=q
def tw4976181008148175253:=q
def tw12398312691204496596:=q
def tw7789450098604059249:=q
def tw4764554697811233:=q
def tw11544532188706048022:=q
def tw7748693106545578708:=q
def tw10366927770000222440:=q
def tw18433677622606106133:=q
def tw5038994553942263901:=q
def tw6846866878297920324:=q
def tw7665377626809459311:=q
def tw4017301010375394790:=q
def tw9380374249521086144:=q
def tw12865059321931465230:=q
def tw6212921109956642855:=q
def tw3794523003379204399:=q
def tw4160124254940468481:=q
def tw7928285938522686346:=q
def tw18123143868385100064:=q
def tw10242447542790323104:=q
def tw9280153536138602973:=q
def tw7833285031277912329:=q
def tw13653928888864918839:=q
def tw6121141971511671821:=q
def tw17698105195316432488:=q
def tw5737951250597237232:=q
def tw14637134836413734856:=q
def tw1082313596108445148:=q
def tw18165431152234640623:=q
def tw8715499118904818895:=q
def tw1929634836878124385:=q
def tw13600378441667735501:=q
def tw11132487480926684733:=q
def tw6836605351468522007:=q
def tw5792407227767346561:=q
def tw7313386461004707312:=q
def tw9214367901419015226:=q
def tw4277651752456152607:=q
def tw5331137831679937033:=q
def tw2694075680205673411:=q
def tw14195316510222423288:=q
def tw1939405473400901271:=q
def tw13198292447841614426:=q
def tw3869590956505411354:=q
def tw5944575059761466720:=q
def tw13896987355042952010:=q
def tw1620002657737552111:=q
def tw17905491414393134947:=q
def tw14699528089545365996:=q
def tw6161856959107265637:=q
def tw8758324158161630591:=q
def tw2545145822199252752:=q
def tw10786079294511566085:=q
def tw5363715690607933:=q
def tw11426403942048686318:=q
def tw13689084217373910675:=q
def tw5346772772824661884:=q
def tw4972248218790579157:=q
def tw8299393411229908732:=q
def tw9074772780463953568:=q
def tw1522823579158628613:=q
def tw16441004959143088680:=q
def tw18364922244981856966:=q
def tw14393718171448925343:=q
def tw7404141018258913797:=q
def tw5617373736292572815:=q
def tw14112051064653734678:=q
def tw2355103038987944067:=q
def tw14969385696402013904:=q
def tw9777900189565919194:=q
def tw11308087075614649832:=q
def tw15468718075485040107:=q
def tw9563357645651160518:=q
def tw16800043278716471037:=q
def tw7732209734871044160:=q
def tw8264559056461403633:=q
def tw17188972718952451159:=q
def tw15841401105113185080:=q
def tw6207834228037699737:=q
def tw9515422150858430662:=q
def tw4945251732147069371:=q
def tw1992862871153497056:=q
def tw15210492658331258995:=q
def tw10668533816033670360:=q
def tw3547030090768783262:=q
def tw16610897072028732714:=q
def tw3665506230870052707:=q
def tw1319983325249436295:=q
def tw6891450509433485068:=q
def tw15253846138512369154:=q
def tw8534208459206503383:=q
def tw17002534310236347988:=q
def tw11290360913936777911:=q
def tw8866670633112419022:=q
def tw3973953319845086491:=q
def tw4839655697589452165:=q
def tw13955511503576765797:=q
def tw6684978435548883818:=q
def tw16014373381606645092:=q
def tw9325123708862168440:=q
def tw16172356507618199906:=q
def tw7599496313472250701:=q
def tw8101760021730824546:=q
def tw15064752311394979489:=q
def tw6202090305015876224:=q
def tw2491421050496283774:=q
def tw9592777112578238593:=q
def tw12763952150808568291:=q
def tw11821203517306503961:=q
def tw9702098958229961203:=q
def tw5764021196749891206:=q
def tw497287684792784471:=q
def tw4009957668330374740:=q
def tw16782820856776367440:=q
def tw940147379719373870:=q
def tw14679116673082234219:=q
def tw8988664977312594650:=q
def tw3368474557548986910:=q
def tw4857777746444614323:=q
def tw3980653432952411973:=q
def tw11338825007792423415:=q
def tw15895551434495452948:=q
def tw2973143901146584636:=q
def tw8185714761375850791:=q
def tw17014734716931888790:=q
def tw4607607821588926596:=q
def tw9083612298779875492:=q
def tw930087139818521243:=q
def tw4885112425497105109:=q
def tw2437478716016495240:=q
def tw1062042127530464391:=q
def tw270654066783972069:=q
def tw5467695095851852608:=q
def tw3547240966391284428:=q
def tw17093656651364094606:=q
def tw15148963937461231693:=q
def tw14492117785962260688:=q
def tw14843749296085226474:=q
def tw14205479233844494046:=q
def tw6871339299614917876:=q
def tw2340069552987342377:=q
def tw7680146299302783591:=q
def tw17958272820484234708:=q
def tw8997269238129315039:=q
def tw8476099583838051002:=q
def tw9196662364512725644:=q
def tw7277520189549225825:=q
def tw13986843968525588388:=q
def tw10010264046613662565:=q
def tw8912104118211102971:=q
def tw5015311536963163689:=q
def tw13801937863458859944:=q
def tw12949380547846470161:=q
def tw17362218986543327160:=q
def tw15410735652082386980:=q
def tw10608895561498820177:=q
def tw17411354535832351560:=q
def tw1315816938146588887:=q
def tw6737735255597943219:=q
def tw5987550445186205895:=q
def tw11434997419882176723:=q
def tw16031315777459398524:=q
def tw3103639331685909893:=q
def tw1673358830478937286:=q
def tw5593727005144783397:=q
def tw9101448428047585222:=q
def tw2529948359932261575:=q
def tw1211024037004892549:=q
def tw9743709737119245314:=q
def tw7119846925741900413:=q
def tw9978949632667528635:=q
def tw15506723302920939300:=q
def tw17015032458148788900:=q
def tw2525317073905713282:=q
def tw1503407388533364548:=q
def tw13199516396595161752:=q
def tw16106133796442146334:=q
def tw13213268828098156179:=q
def tw11081218982966106116:=q
def tw13002585709282622103:=q
def tw14646466228836335164:=q
def tw820421773197932041:=q
def tw13478637309914159250:=q
def tw12604462930493870256:=q
def tw13585267454733459922:=q
def tw3405375401864073989:=q
def tw9103479521544129834:=q
def tw14139617269561922093:=q
def tw15967466079928408925:=q
def tw10467814448475477596:=q
def tw4163069186122357367:=q
def tw5487235932777146282:=q
def tw9658139154387788515:=q
def tw3496171461512900480:=q
def tw5612995960945425718:=q
def tw14615432700455777464:=q
def tw15510365090734361527:=q
def tw14417885227837004991:=q
end Mine.head
open PySem PySem.W PySem.Calls PyProof.Rows Mine.Internal
set_option tactic.hygienic true in
set_option maxHeartbeats 0 in
theorem Mine.head:PySem.Challenge.rw_nt0455_01.Holds:=by
 w_on
 o_law
 k_head
 case hw=>w_witness2
 w_strict k_go0
 rename_i hg KX _ _ _ kt _ _ _ _ _ _ _ _ _ ns _ _ _ _ _ _ _ a xs _ hL _ _ _ hI _ hcond _ _ _ _ _ F c1 c2 d1 d2 N0 X0;obtain⟨sw,re,hx⟩:=LR (ns:=ns) (by omega);refine OX KX kt.g kt.b kt.builtins kt.nolimit (by kernel_rfl) (by kernel_rfl) (by kernel_rfl) (by kernel_rfl) (λ_ _ _ _ _=>by kernel_rfl) (λf=>PW.get (P:=λf=>o9 _ (ug f) (w3 f)) (k:=76) ?e5 f f.2) (by kernel_rfl) (bo 3 rfl (λ_ _ _=>by show _=_;kernel_rfl)) (bo 2 rfl (λ_ _=>by show _=_;kernel_rfl)) ⟨_,_,_,_,_,_,_,_,_,_,rfl,rfl⟩ ⟨_,_,_,_,_,_,_,_,_,_,rfl,rfl⟩ ⟨_,_,_,_,_,_,_,_,_,_,_,_,_,_,_,rfl⟩ (by kernel_rfl) hL hI rfl rfl rfl rfl rfl rfl rfl rfl F N0 X0 (by simp) hx.eq λs' m' n f=>?_
 case e5=>
   refine⟨?_,λJ=>bo 1 rfl (λ_=>by show _=_;kernel_rfl)⟩;refine⟨?_,λJ=>bo 2 rfl (λ_ _=>by show _=_;kernel_rfl)⟩;refine⟨?_,λJ=>bo 5 rfl (λ_ _ _ _ _=>by show _=_;kernel_rfl)⟩;refine⟨?_,λJ=>bo 5 rfl (λ_ _ _ _ _=>by show _=_;kernel_rfl)⟩;refine⟨?_,λJ=>bo 3 rfl (λ_ _ _=>by show _=_;kernel_rfl)⟩;refine⟨?_,λJ=>bo 2 rfl (λ_ _=>by show _=_;kernel_rfl)⟩;refine⟨?_,λJ=>bo 8 rfl (λ_ _ _ _ _ _ _ _=>by show _=_;kernel_rfl)⟩;refine⟨?_,λJ=>bo 1 rfl (λ_=>by show _=_;kernel_rfl)⟩;refine⟨?_,λJ=>bo 2 rfl (λ_ _=>by show _=_;kernel_rfl)⟩;refine⟨?_,λJ=>bo 4 rfl (λ_ _ _ _=>by show _=_;kernel_rfl)⟩;refine⟨?_,λJ=>bo 6 rfl (λ_ _ _ _ _ _=>by show _=_;kernel_rfl)⟩;refine⟨?_,λJ=>bo 5 rfl (λ_ _ _ _ _=>by show _=_;kernel_rfl)⟩;refine⟨?_,λJ=>bo 5 rfl (λ_ _ _ _ _=>by show _=_;kernel_rfl)⟩;refine⟨?_,λJ=>bo 4 rfl (λ_ _ _ _=>by show _=_;kernel_rfl)⟩;refine⟨?_,λJ=>bo 4 rfl (λ_ _ _ _=>by show _=_;kernel_rfl)⟩;refine⟨?_,λJ=>bo 4 rfl (λ_ _ _ _=>by show _=_;kernel_rfl)⟩;refine⟨?_,λJ=>bo 3 rfl (λ_ _ _=>by show _=_;kernel_rfl)⟩;refine⟨?_,λJ=>bo 0 rfl (by show _=_;kernel_rfl)⟩;refine⟨?_,λJ=>bo 1 rfl (λ_=>by show _=_;kernel_rfl)⟩;refine⟨?_,λJ=>bo 3 rfl (λ_ _ _=>by show _=_;kernel_rfl)⟩;refine⟨?_,λJ=>bo 2 rfl (λ_ _=>by show _=_;kernel_rfl)⟩;refine⟨?_,λJ=>bo 1 rfl (λ_=>by show _=_;kernel_rfl)⟩;refine⟨?_,λJ=>bo 1 rfl (λ_=>by show _=_;kernel_rfl)⟩;refine⟨?_,λJ=>bo 3 rfl (λ_ _ _=>by show _=_;kernel_rfl)⟩;refine⟨?_,λJ=>bo 2 rfl (λ_ _=>by show _=_;kernel_rfl)⟩;refine⟨?_,λJ=>bo 3 rfl (λ_ _ _=>by show _=_;kernel_rfl)⟩;refine⟨?_,λJ=>bo 2 rfl (λ_ _=>by show _=_;kernel_rfl)⟩;refine⟨?_,λJ=>bo 2 rfl (λ_ _=>by show _=_;kernel_rfl)⟩;refine⟨?_,λJ=>bo 1 rfl (λ_=>by show _=_;kernel_rfl)⟩;refine⟨?_,λJ=>bo 1 rfl (λ_=>by show _=_;kernel_rfl)⟩;refine⟨?_,λJ=>bo 1 rfl (λ_=>by show _=_;kernel_rfl)⟩;refine⟨?_,λJ=>bo 2 rfl (λ_ _=>by show _=_;kernel_rfl)⟩;refine⟨?_,λJ=>bo 2 rfl (λ_ _=>by show _=_;kernel_rfl)⟩;refine⟨?_,λJ=>bo 1 rfl (λ_=>by show _=_;kernel_rfl)⟩;refine⟨?_,λJ=>bo 3 rfl (λ_ _ _=>by show _=_;kernel_rfl)⟩;refine⟨?_,λJ=>bo 1 rfl (λ_=>by show _=_;kernel_rfl)⟩;refine⟨?_,λJ=>bo 2 rfl (λ_ _=>by show _=_;kernel_rfl)⟩;refine⟨?_,λJ=>bo 4 rfl (λ_ _ _ _=>by show _=_;kernel_rfl)⟩;refine⟨?_,λJ=>bo 3 rfl (λ_ _ _=>by show _=_;kernel_rfl)⟩;refine⟨?_,λJ=>bo 3 rfl (λ_ _ _=>by show _=_;kernel_rfl)⟩;refine⟨?_,λJ=>bo 1 rfl (λ_=>by show _=_;kernel_rfl)⟩;refine⟨?_,λJ=>bo 1 rfl (λ_=>by show _=_;kernel_rfl)⟩;refine⟨?_,λJ=>bo 1 rfl (λ_=>by show _=_;kernel_rfl)⟩;refine⟨?_,λJ=>bo 1 rfl (λ_=>by show _=_;kernel_rfl)⟩;refine⟨?_,λJ=>bo 1 rfl (λ_=>by show _=_;kernel_rfl)⟩;refine⟨?_,λJ=>bo 1 rfl (λ_=>by show _=_;kernel_rfl)⟩;refine⟨?_,λJ=>bo 1 rfl (λ_=>by show _=_;kernel_rfl)⟩;refine⟨?_,λJ=>bo 1 rfl (λ_=>by show _=_;kernel_rfl)⟩;refine⟨?_,λJ=>bo 2 rfl (λ_ _=>by show _=_;kernel_rfl)⟩;refine⟨?_,λJ=>bo 2 rfl (λ_ _=>by show _=_;kernel_rfl)⟩;refine⟨?_,λJ=>bo 1 rfl (λ_=>by show _=_;kernel_rfl)⟩;refine⟨?_,λJ=>bo 2 rfl (λ_ _=>by show _=_;kernel_rfl)⟩;refine⟨?_,λJ=>bo 3 rfl (λ_ _ _=>by show _=_;kernel_rfl)⟩;refine⟨?_,λJ=>bo 3 rfl (λ_ _ _=>by show _=_;kernel_rfl)⟩;refine⟨?_,λJ=>bo 3 rfl (λ_ _ _=>by show _=_;kernel_rfl)⟩;refine⟨?_,λJ=>bo 1 rfl (λ_=>by show _=_;kernel_rfl)⟩;refine⟨?_,λJ=>bo 1 rfl (λ_=>by show _=_;kernel_rfl)⟩;refine⟨?_,λJ=>bo 5 rfl (λ_ _ _ _ _=>by show _=_;kernel_rfl)⟩;refine⟨?_,λJ=>bo 1 rfl (λ_=>by show _=_;kernel_rfl)⟩;refine⟨?_,λJ=>bo 1 rfl (λ_=>by show _=_;kernel_rfl)⟩;refine⟨?_,λJ=>bo 1 rfl (λ_=>by show _=_;kernel_rfl)⟩;refine⟨?_,λJ=>bo 3 rfl (λ_ _ _=>by show _=_;kernel_rfl)⟩;refine⟨?_,λJ=>bo 3 rfl (λ_ _ _=>by show _=_;kernel_rfl)⟩;refine⟨?_,λJ=>bo 4 rfl (λ_ _ _ _=>by show _=_;kernel_rfl)⟩;refine⟨?_,λJ=>bo 4 rfl (λ_ _ _ _=>by show _=_;kernel_rfl)⟩;refine⟨?_,λJ=>bo 1 rfl (λ_=>by show _=_;kernel_rfl)⟩;refine⟨?_,λJ=>bo 1 rfl (λ_=>by show _=_;kernel_rfl)⟩;refine⟨?_,λJ=>bo 1 rfl (λ_=>by show _=_;kernel_rfl)⟩;refine⟨?_,λJ=>bo 1 rfl (λ_=>by show _=_;kernel_rfl)⟩;refine⟨?_,λJ=>bo 2 rfl (λ_ _=>by show _=_;kernel_rfl)⟩;refine⟨?_,λJ=>bo 1 rfl (λ_=>by show _=_;kernel_rfl)⟩;refine⟨?_,λJ=>bo 1 rfl (λ_=>by show _=_;kernel_rfl)⟩;refine⟨?_,λJ=>bo 5 rfl (λ_ _ _ _ _=>by show _=_;kernel_rfl)⟩;refine⟨?_,λJ=>bo 1 rfl (λ_=>by show _=_;kernel_rfl)⟩;refine⟨?_,λJ=>bo 1 rfl (λ_=>by show _=_;kernel_rfl)⟩;refine⟨?_,λJ=>bo 2 rfl (λ_ _=>by show _=_;kernel_rfl)⟩;exact True.intro
 clear F N0 X0 d1 d2;obtain⟨h,tk,rfl⟩:=n;show GoodW _ _ _ _ _ (.ok (.ret (.bool true))) _;refine goodW_bool f hg (raisesW_false ?_) ?_
 .wrow_none_raised
 .wrow_post
theorem PySem.Challenge.cw_nt0455_01_holds : PySem.Challenge.rw_nt0455_01.Holds :=
 Mine.head
