import PyProof.Rows.All
import Wide.All
import OpenK.AllK
import Wide.FinOn
import PySem.Challenge.RW_sa0520_01
set_option Elab.async false
set_option genSizeOf false
set_option genInjectivity false
set_option maxRecDepth 100000
open Nat renaming le_trans→TF, le_refl→TJ, le_of_eq→TL, lt_of_lt_of_le→TO, ble→Us, le_add_right→TZ, le_succ_of_le→TY, le_of_lt→Ud, le_succ→Uo, zero_le→Ur, le_add_left→Uc, not_lt→Ux, lt_succ_self→Uj, succ_le_succ→Um, ne_of_lt→UA, le_of_ble_eq_true→Uh, zero_add→UL, le_antisymm→UC, add_le_add_left→Uy, lt_of_le_of_lt→UB, add_le_add_right→Uw, le_of_succ_le→UD, not_le→Vd, succ_pos→Vb, add_le_add→Vf, beq→V8, ble_eq_true_of_le→UR, sub_add_cancel→UZ, le_add_of_sub_le→UU, add_comm→Vv, blt→Wx, le_of_not_lt→Vl, lt_add_of_pos_right→U4, add_assoc→VM, lt_succ_of_lt→VA, lt_irrefl→VY, zero_lt_of_lt→VB, le_of_lt_succ→VQ, lt_succ_of_le→VR, lt_of_succ_lt_succ→VF, mod_lt→W0, eq_of_beq_eq_true→VL, mul_le_mul_left→Wb, sub_self→W4, ne_of_gt→W5, add_sub_cancel→Wh, add_right_comm→Wi, div_add_mod→WH, mul_div_le→WV, zero_lt_one→WI, succ_ne_zero→Ww, lt_succ_iff_lt_or_eq→Wj, lt_trans→Xe, not_lt_zero→Xb, min_le_left→Xc, sub_zero→Xh, sub_lt_sub_left→WN, min_eq_right→W7, lt_of_mul_lt_mul_left→Wg, le_zero→Xi, not_succ_le_zero→WL
open List renaming length_map→TH, length_append→TG, mem_singleton→TK, mem_cons→TN, mem_cons_self→TM, mem_map→TX, map_append→TR, length_cons→TS, append_nil→TU, mem_cons_of_mem→TP, mem_append_right→TQ, map_map→Ua, range→Un, mem_map_of_mem→TV, mem_append→T6, append_assoc→T5, size_toArray→Ub, lookup_cons→Ue, flatMap_append→T7, mem_singleton_self→T1, replicate→Up, mem_flatMap→Uk, getElem?_map→Ui, getElem?_eq_getElem→T9, all_eq_true→Ut, flatMap_cons→Uu, mem_append_left→Uq, map_cons→UJ, mem_filter→UE, pairwise_append→Uz, getElem_mem→UN, length→Vc, flatMap_map→UO, any_cons→U6, map_congr_left→UK, lookup→Vm, nodup_cons→U8, contains_iff_mem→UQ, mem_range→Vg, filter_append→U0, length_reverse→U3, filter_cons→Ve, exists_cons_of_ne_nil→UG, length_filter_le→UX, map_inj_left→Va, getElem?_eq_some_iff→UT, find?_cons→Vp, pairwise_singleton→UY, flatMap→VH, length_eq_zero_iff→U5, any_eq_true→Vr, length_range→Vo, filter→V1, getD_eq_getElem?_getD→U7, lookup_cons_self→Vi, cons_ne_nil→VD, pairwise_cons→Vs, Sublist.length_le→Vh, countP→Wa, Pairwise.sublist→Vj, rec→W2, findIdx?_eq_some_iff_getElem→U1, map_id→Wr, lookup_eq_none_iff→Vn, countP_cons→VT, countP_append→VI, mem_of_mem_tail→Vx, map→Xd, take_of_length_le→VE, getElem?_append_left→Vt, drop_left→Wk, length_nil→Wf, filter_eq_self→VV, lookup_append→VZ, flatMap_singleton→VG, flatMap_def→V5, mem_flatten→V6, append_of_mem→V0, sublist_append_left→Vz, sublist_append_right→Vu, filter_sublist→VW, nodup_nil→WQ, length_set→WD, getElem?_set→Wn, filterMap→WR, length_replicate→V4, getElem?_append_right→VN, not_mem_nil→Wt, nil_append→WG, map_eq_cons_iff→V7, length_take→Wu, pairwise_map→Wo, nodup_append→Wq, append_eq_nil_iff→V2, filter_eq_nil_iff→V3, length_pos_iff→Wc, sublist_flatten_of_mem→VJ, map_flatMap→Wv, forIn_cons→Xa, map_fst_zip→W6, mem_of_getElem?→WJ, getElem_range→WX, getElem?_eq_none→Wy, foldl→Xj, any_eq_false→WZ, map_eq_nil_iff→WM, getElem?_cons_succ→Wl, length_singleton→Wz, perm_singleton→WO, append_cons→W8, concat_eq_append→WC, isEmpty_iff→W9
open Prod renaming fst→T8, mk.inj→Uv, snd→Vq
open Int renaming ofNat_le→Ul, natCast_nonneg→Ug, ofNat_lt→UH, not_lt→U2, le_trans→Vk, lt_iff_add_one_le→UI, le_of_eq→VS, toNat_of_nonneg→VU, le_antisymm→We, le_of_lt→W3, fmod_eq_emod_of_nonneg→VO, fdiv_eq_ediv_of_nonneg→VP, lt_of_le_of_lt→WW, toNat_le→Xg
open Bool renaming false_ne_true→T4, and_eq_true→UM, and_eq_true_iff→UP, eq_iff_iff→VK, false_or→VX, or_eq_false_iff→Vw, or_eq_true→Wd, or_false→WY, and_false→WU
open Option renaming some.inj→US, map_eq_some_iff→UW, none→V9, isNone_iff_eq_none→U9, some→Ws, isSome_iff_exists→Vy, map→Xk, bind_eq_some_iff→Wm
open Array renaming length_toList→VC, toList→Xf, toArray_toList→WK
open PySem renaming wpAny_bind→Xl, Shared→Xm, wpAny_pure→Xn, Heap.get?_push_of_some→Xo, Heap.size_push→Xp, Heap.get?_push_size→Xq, Heap.lt_size→Xr, wpAny_holding→Xs, Builtin.Bytes.order→Xu, Around→Xv, sizeLine_eq→Xw, Obj.mapSeq→Xy, Heap.SameBut.update→Xz, mainGlobals→XA, wpAny_mono→XC, Str.ofString→XD, DictEntry→XE, wpAny_standAt→XF, compEnvC→XG, Builtin.Range.rangeSize→XH, NameKind→XI, Value.type→XK, builtinLookup_eq_fast→XM, Builtin→XN, keeperOf→XO, intKind→XQ, Program→XS, builtinsNs→XT, typeLookup_type→XU, wpAny_truthy_bool→XW, clipAt→XX, Around.under_plainId→XZ, Value.ref→X0, wpAny_of_eq→X1, recursionLimit→X2, assign→X3, wpAny_specialOf→X4, wpAny_Call_Name_kw→X5, Heap.SameBut→X7, Arguments→X9, sysModules→Yc, IsTupleKey→Yd, Heap.size_update→Ye, Comprehension→Yg, valueAt→Yh, wpAny_execs_nil→Yi, codeAny_builtin→Yj, starEach→Yl, wpAny_comprehension_free→Ym, seqIndex?→Yn, F.slot_list_getattribute→Yo, holding→Yp, assignEach→Yq, codeAny→Yr, getMethod_builtin→Ys, NameKind.free→Yt, plainId_quiet→Yu, entryFor_of_tree→Yw, wpAny_isInstance→Yx, sizeLine→Yy, Heap.get?_update_self→Yz, Value.none→YA, wpAny_rule→YB, wpAny_newFunctionEnv→YC, call_meetsIn→YE, Builtin.Range.small→YH, Expr.Attribute.elim→YI, Expr.Subscript.elim→YJ, Heap.DictOfH.typeIs→YK, isSubtype_type→YL, Operator→YN, Keeper.machine→YO, wpAny_loadPart→YQ, PyData.keyHash→YR, Value.bytes→YS, tupleKind→YT, Expr.Constant.elim→YU, Expr.ListComp.elim→YV, Expr.DictComp.elim→YW, Builtin.List.listLengthHint→YX, Builtin.List.listExtendWith→YY, swapsWithSole→YZ, F.sub_bytes_bytes→Y1, Expr.UnaryOp.elim→Y2, Expr.Compare.elim→Y3, wpAny_newObj_type→Y5, wpAny_assign_Name→Y6, typeLookup→Y7, wpAny_call_entry→Y8, Expr.BoolOp.elim→Y9, Expr.Lambda.elim→Za, Stmt.Assign.elim→Zb, Stmt.Return.elim→Zc, backTo→Zd, wpAny_Dict_empty→Ze, Keeper.frame→Zf, pyNext→Zg, noFill_tuple_add→Zh, Builtin.List.listTooLong→Zi, wpAny_typeOf→Zj, Code.builtin→Zl, wpAny_list_append_plain→Zm, Builtin.Dict.updateFrom→Zn, compareOp→Zo, Expr.BinOp.elim→Zp, Expr.IfExp.elim→Zq, Expr.Tuple.elim→Zr, Expr.Slice.elim→Zs, Stmt.While.elim→Zt, letOwnedTupleGo→Zu, cellsFrom→Zv, importedModules→Zy, unpackItems→ZA, Obj.putName→ZD, Builtin.Dict.pairItems→ZE, Expr.Name.elim→ZG, Expr.Dict.elim→ZH, Expr.List.elim→ZI, Expr.Call.elim→ZJ, Stmt.Expr.elim→ZK, Result→ZL, OsState→ZO, reduceHash→ZP, wpAny_loadName_local→ZQ, Value.bool→ZR, closureFor→ZS, wpAny_call→ZT, IntMulOk→ZU, call_meets→ZV, signature?_of→Z0, Value.builtin→Z1, Stmt.For.elim→Z2, Stmt.Try.elim→Z3, wpAny_release→Z4, assignInOrder→Z5, swappedStores→Z6, seq_tuple_add→Z7, wpAny_newList→Z8, wpAny_isTrue_BoolOp→Z9, list_getitem_lookup→aaa, wpAny_dictSet_pairs→aab, Builtin.Int.intBits→aac, argsOk→aad, Stmt.If.elim→aaf, wpAny_mkText→aag, concat_meets→aai, Txt.count→aak, specialOf→aal, treeTable→aam, standAt→aan, interactive→aap, bm_if_false→aaq, F.bm_called→aar, entryFor→aas
open PyProof.Rows renaming seqObj→Xx, get?_update_seq→X6, SortedToK→Yb, listUpdate_at→Yv, pairsOf→ZM, sortedHeap→ZY, collect_list→aaj, oneType'→aat
open PySem.W renaming SharedT→XB, typeIs_bytes→XJ, boot_heap→XR, findIn→X8, lookIn→Yk, kitOne→YF, boot_drawn→YG, instObj→YM, Looks.of_peek→Y0, looks_findIn→Zk, emptyDict→Zw, boot_toks→Zx, WShape.hasItems→Zz, FB.owner_bytes→ZF, kla_obj→ZN, any_some→ZW, openEnds→ZZ, tabObj→aae, openGood→aau
open PySem.Calls renaming Name_function_global→XY, loadGlobal_global→Y4, spliced_cons→aah, spliced_nil→aao
open PySem.SeqAt renaming RcNeAt→YD
open PySem PySem.W PyProof.Rows PySem.Calls PySem.SeqAt
namespace Mine.Internal
theorem cS {p q r1:Prop}{b:Prop}(h:p/\q/\r1)(k:p->q->r1->b):b:=k h.1 h.2.1 h.2.2
theorem i7 {p q r1 r2:Prop}{b:Prop}(h:p/\q/\r1/\r2)(k:p->q->r1->r2->b):b:=k h.1 h.2.1 h.2.2.1 h.2.2.2
theorem Dm {p q r1 r2 r3:Prop}{b:Prop}(h:p/\q/\r1/\r2/\r3)(k:p->q->r1->r2->r3->b):b:=k h.1 h.2.1 h.2.2.1 h.2.2.2.1 h.2.2.2.2
theorem PQ {p q r1 r2 r3 r4:Prop}{b:Prop}(h:p/\q/\r1/\r2/\r3/\r4)(k:p->q->r1->r2->r3->r4->b):b:=k h.1 h.2.1 h.2.2.1 h.2.2.2.1 h.2.2.2.2.1 h.2.2.2.2.2
theorem Le {p q r1 r2 r3 r4 r5 r6:Prop}{b:Prop}(h:p/\q/\r1/\r2/\r3/\r4/\r5/\r6)(k:p->q->r1->r2->r3->r4->r5->r6->b):b:=k h.1 h.2.1 h.2.2.1 h.2.2.2.1 h.2.2.2.2.1 h.2.2.2.2.2.1 h.2.2.2.2.2.2.1 h.2.2.2.2.2.2.2
theorem ah {α:Sort _}{p q:α->Prop}{b:Prop}(h:∃x,p x/\q x)(k:∀x,p x->q x->b):b:=h.elim fun x h=>k x h.1 h.2
theorem bE {α:Sort _}{p q r1:α->Prop}{b:Prop}(h:∃x,p x/\q x/\r1 x)(k:∀x,p x->q x->r1 x->b):b:=h.elim fun x h=>k x h.1 h.2.1 h.2.2
theorem mM {α:Sort _}{p q r1 r2:α->Prop}{b:Prop}(h:∃x,p x/\q x/\r1 x/\r2 x)(k:∀x,p x->q x->r1 x->r2 x->b):b:=h.elim fun x h=>k x h.1 h.2.1 h.2.2.1 h.2.2.2
theorem zE {α:Sort _}{p q r1 r2 r3:α->Prop}{b:Prop}(h:∃x,p x/\q x/\r1 x/\r2 x/\r3 x)(k:∀x,p x->q x->r1 x->r2 x->r3 x->b):b:=h.elim fun x h=>k x h.1 h.2.1 h.2.2.1 h.2.2.2.1 h.2.2.2.2
theorem G5 {α:Sort _}{p q r1 r2 r3 r4:α->Prop}{b:Prop}(h:∃x,p x/\q x/\r1 x/\r2 x/\r3 x/\r4 x)(k:∀x,p x->q x->r1 x->r2 x->r3 x->r4 x->b):b:=h.elim fun x h=>k x h.1 h.2.1 h.2.2.1 h.2.2.2.1 h.2.2.2.2.1 h.2.2.2.2.2
theorem eJ {α β:Sort _}{p:α->β->Prop}{b:Prop}(h:∃x y,p x y)(k:∀x y,p x y->b):b:=h.elim fun x h=>h.elim fun y h=>k x y h
theorem dg {α β:Sort _}{p q:α->β->Prop}{b:Prop}(h:∃x y,p x y/\q x y)(k:∀x y,p x y->q x y->b):b:=h.elim fun x h=>h.elim fun y h=>k x y h.1 h.2
theorem cu {α β:Sort _}{p q r1:α->β->Prop}{b:Prop}(h:∃x y,p x y/\q x y/\r1 x y)(k:∀x y,p x y->q x y->r1 x y->b):b:=h.elim fun x h=>h.elim fun y h=>k x y h.1 h.2.1 h.2.2
theorem cn {α β:Sort _}{p q r1 r2:α->β->Prop}{b:Prop}(h:∃x y,p x y/\q x y/\r1 x y/\r2 x y)(k:∀x y,p x y->q x y->r1 x y->r2 x y->b):b:=h.elim fun x h=>h.elim fun y h=>k x y h.1 h.2.1 h.2.2.1 h.2.2.2
theorem qQ {α β:Sort _}{p q r1 r2 r3:α->β->Prop}{b:Prop}(h:∃x y,p x y/\q x y/\r1 x y/\r2 x y/\r3 x y)(k:∀x y,p x y->q x y->r1 x y->r2 x y->r3 x y->b):b:=h.elim fun x h=>h.elim fun y h=>k x y h.1 h.2.1 h.2.2.1 h.2.2.2.1 h.2.2.2.2
theorem qR {α β γ:Sort _}{p:α->β->γ->Prop}{b:Prop}(h:∃x y z,p x y z)(k:∀x y z,p x y z->b):b:=h.elim fun x h=>h.elim fun y h=>h.elim fun z h=>k x y z h
theorem jt {α β γ:Sort _}{p q:α->β->γ->Prop}{b:Prop}(h:∃x y z,p x y z/\q x y z)(k:∀x y z,p x y z->q x y z->b):b:=h.elim fun x h=>h.elim fun y h=>h.elim fun z h=>k x y z h.1 h.2
theorem mN {α β γ:Sort _}{p q r1:α->β->γ->Prop}{b:Prop}(h:∃x y z,p x y z/\q x y z/\r1 x y z)(k:∀x y z,p x y z->q x y z->r1 x y z->b):b:=h.elim fun x h=>h.elim fun y h=>h.elim fun z h=>k x y z h.1 h.2.1 h.2.2
theorem kK {α β γ:Sort _}{p q r1 r2:α->β->γ->Prop}{b:Prop}(h:∃x y z,p x y z/\q x y z/\r1 x y z/\r2 x y z)(k:∀x y z,p x y z->q x y z->r1 x y z->r2 x y z->b):b:=h.elim fun x h=>h.elim fun y h=>h.elim fun z h=>k x y z h.1 h.2.1 h.2.2.1 h.2.2.2
theorem PS {α β γ:Sort _}{p q r1 r2 r3:α->β->γ->Prop}{b:Prop}(h:∃x y z,p x y z/\q x y z/\r1 x y z/\r2 x y z/\r3 x y z)(k:∀x y z,p x y z->q x y z->r1 x y z->r2 x y z->r3 x y z->b):b:=h.elim fun x h=>h.elim fun y h=>h.elim fun z h=>k x y z h.1 h.2.1 h.2.2.1 h.2.2.2.1 h.2.2.2.2
theorem Lf {α β γ:Sort _}{p q r1 r2 r3 r4:α->β->γ->Prop}{b:Prop}(h:∃x y z,p x y z/\q x y z/\r1 x y z/\r2 x y z/\r3 x y z/\r4 x y z)(k:∀x y z,p x y z->q x y z->r1 x y z->r2 x y z->r3 x y z->r4 x y z->b):b:=h.elim fun x h=>h.elim fun y h=>h.elim fun z h=>k x y z h.1 h.2.1 h.2.2.1 h.2.2.2.1 h.2.2.2.2.1 h.2.2.2.2.2
theorem o5 {α β γ δ:Sort _}{p q:α->β->γ->δ->Prop}{b:Prop}(h:∃x y z u,p x y z u/\q x y z u)(k:∀x y z u,p x y z u->q x y z u->b):b:=h.elim fun x h=>h.elim fun y h=>h.elim fun z h=>h.elim fun u h=>k x y z u h.1 h.2
theorem G6 {α β γ δ:Sort _}{p q r1:α->β->γ->δ->Prop}{b:Prop}(h:∃x y z u,p x y z u/\q x y z u/\r1 x y z u)(k:∀x y z u,p x y z u->q x y z u->r1 x y z u->b):b:=h.elim fun x h=>h.elim fun y h=>h.elim fun z h=>h.elim fun u h=>k x y z u h.1 h.2.1 h.2.2
theorem Lg {α β γ δ:Sort _}{p q r1 r2 r3:α->β->γ->δ->Prop}{b:Prop}(h:∃x y z u,p x y z u/\q x y z u/\r1 x y z u/\r2 x y z u/\r3 x y z u)(k:∀x y z u,p x y z u->q x y z u->r1 x y z u->r2 x y z u->r3 x y z u->b):b:=h.elim fun x h=>h.elim fun y h=>h.elim fun z h=>h.elim fun u h=>k x y z u h.1 h.2.1 h.2.2.1 h.2.2.2.1 h.2.2.2.2
theorem G7 {α β γ δ:Sort _}{p q r1 r2 r3 r4:α->β->γ->δ->Prop}{b:Prop}(h:∃x y z u,p x y z u/\q x y z u/\r1 x y z u/\r2 x y z u/\r3 x y z u/\r4 x y z u)(k:∀x y z u,p x y z u->q x y z u->r1 x y z u->r2 x y z u->r3 x y z u->r4 x y z u->b):b:=h.elim fun x h=>h.elim fun y h=>h.elim fun z h=>h.elim fun u h=>k x y z u h.1 h.2.1 h.2.2.1 h.2.2.2.1 h.2.2.2.2.1 h.2.2.2.2.2
theorem zF {α β γ δ:Sort _}{p q r1 r2 r3 r4 r5:α->β->γ->δ->Prop}{b:Prop}(h:∃x y z u,p x y z u/\q x y z u/\r1 x y z u/\r2 x y z u/\r3 x y z u/\r4 x y z u/\r5 x y z u)(k:∀x y z u,p x y z u->q x y z u->r1 x y z u->r2 x y z u->r3 x y z u->r4 x y z u->r5 x y z u->b):b:=h.elim fun x h=>h.elim fun y h=>h.elim fun z h=>h.elim fun u h=>k x y z u h.1 h.2.1 h.2.2.1 h.2.2.2.1 h.2.2.2.2.1 h.2.2.2.2.2.1 h.2.2.2.2.2.2
theorem qS {α β γ δ:Sort _}{p q r1 r2 r3 r4 r5 r6:α->β->γ->δ->Prop}{b:Prop}(h:∃x y z u,p x y z u/\q x y z u/\r1 x y z u/\r2 x y z u/\r3 x y z u/\r4 x y z u/\r5 x y z u/\r6 x y z u)(k:∀x y z u,p x y z u->q x y z u->r1 x y z u->r2 x y z u->r3 x y z u->r4 x y z u->r5 x y z u->r6 x y z u->b):b:=h.elim fun x h=>h.elim fun y h=>h.elim fun z h=>h.elim fun u h=>k x y z u h.1 h.2.1 h.2.2.1 h.2.2.2.1 h.2.2.2.2.1 h.2.2.2.2.2.1 h.2.2.2.2.2.2.1 h.2.2.2.2.2.2.2
theorem FO {α β γ δ ε:Sort _}{p q r1 r2 r3 r4 r5 r6 r7 r8 r9 s1 s2 s3:α->β->γ->δ->ε->Prop}{b:Prop}(h:∃x y z u v,p x y z u v/\q x y z u v/\r1 x y z u v/\r2 x y z u v/\r3 x y z u v/\r4 x y z u v/\r5 x y z u v/\r6 x y z u v/\r7 x y z u v/\r8 x y z u v/\r9 x y z u v/\s1 x y z u v/\s2 x y z u v/\s3 x y z u v)(k:∀x y z u v,p x y z u v->q x y z u v->r1 x y z u v->r2 x y z u v->r3 x y z u v->r4 x y z u v->r5 x y z u v->r6 x y z u v->r7 x y z u v->r8 x y z u v->r9 x y z u v->s1 x y z u v->s2 x y z u v->s3 x y z u v->b):b:=h.elim fun x h=>h.elim fun y h=>h.elim fun z h=>h.elim fun u h=>h.elim fun v h=>k x y z u v h.1 h.2.1 h.2.2.1 h.2.2.2.1 h.2.2.2.2.1 h.2.2.2.2.2.1 h.2.2.2.2.2.2.1 h.2.2.2.2.2.2.2.1 h.2.2.2.2.2.2.2.2.1 h.2.2.2.2.2.2.2.2.2.1 h.2.2.2.2.2.2.2.2.2.2.1 h.2.2.2.2.2.2.2.2.2.2.2.1 h.2.2.2.2.2.2.2.2.2.2.2.2.1 h.2.2.2.2.2.2.2.2.2.2.2.2.2
theorem FP {α β γ δ ε ζ:Sort _}{p q r1 r2 r3 r4 r5 r6 r7 r8:α->β->γ->δ->ε->ζ->Prop}{b:Prop}(h:∃x y z u v w,p x y z u v w/\q x y z u v w/\r1 x y z u v w/\r2 x y z u v w/\r3 x y z u v w/\r4 x y z u v w/\r5 x y z u v w/\r6 x y z u v w/\r7 x y z u v w/\r8 x y z u v w)(k:∀x y z u v w,p x y z u v w->q x y z u v w->r1 x y z u v w->r2 x y z u v w->r3 x y z u v w->r4 x y z u v w->r5 x y z u v w->r6 x y z u v w->r7 x y z u v w->r8 x y z u v w->b):b:=h.elim fun x h=>h.elim fun y h=>h.elim fun z h=>h.elim fun u h=>h.elim fun v h=>h.elim fun w h=>k x y z u v w h.1 h.2.1 h.2.2.1 h.2.2.2.1 h.2.2.2.2.1 h.2.2.2.2.2.1 h.2.2.2.2.2.2.1 h.2.2.2.2.2.2.2.1 h.2.2.2.2.2.2.2.2.1 h.2.2.2.2.2.2.2.2.2
theorem PT {α β γ δ ε ζ η:Sort _}{p q r1 r2:α->β->γ->δ->ε->ζ->η->Prop}{b:Prop}(h:∃x y z u v w s,p x y z u v w s/\q x y z u v w s/\r1 x y z u v w s/\r2 x y z u v w s)(k:∀x y z u v w s,p x y z u v w s->q x y z u v w s->r1 x y z u v w s->r2 x y z u v w s->b):b:=h.elim fun x h=>h.elim fun y h=>h.elim fun z h=>h.elim fun u h=>h.elim fun v h=>h.elim fun w h=>h.elim fun s h=>k x y z u v w s h.1 h.2.1 h.2.2.1 h.2.2.2
theorem G8 {α β γ δ ε ζ η:Sort _}{p q r1 r2 r3 r4 r5 r6:α->β->γ->δ->ε->ζ->η->Prop}{b:Prop}(h:∃x y z u v w s,p x y z u v w s/\q x y z u v w s/\r1 x y z u v w s/\r2 x y z u v w s/\r3 x y z u v w s/\r4 x y z u v w s/\r5 x y z u v w s/\r6 x y z u v w s)(k:∀x y z u v w s,p x y z u v w s->q x y z u v w s->r1 x y z u v w s->r2 x y z u v w s->r3 x y z u v w s->r4 x y z u v w s->r5 x y z u v w s->r6 x y z u v w s->b):b:=h.elim fun x h=>h.elim fun y h=>h.elim fun z h=>h.elim fun u h=>h.elim fun v h=>h.elim fun w h=>h.elim fun s h=>k x y z u v w s h.1 h.2.1 h.2.2.1 h.2.2.2.1 h.2.2.2.2.1 h.2.2.2.2.2.1 h.2.2.2.2.2.2.1 h.2.2.2.2.2.2.2
theorem Lj {p q r s:Prop}(h0:p)(h1:q)(h2:r)(h3:s):p/\q/\r/\s:=⟨h0,h1,h2,h3⟩
theorem ai {α:Sort _}{p q:α->Prop}(x:α)(h0:p x)(h1:q x):∃x,p x/\q x:=⟨x,h0,h1⟩
theorem bW {α:Sort _}{p q r1:α->Prop}(x:α)(h0:p x)(h1:q x)(h2:r1 x):∃x,p x/\q x/\r1 x:=⟨x,h0,h1,h2⟩
theorem du {α:Sort _}{p q r1 r2:α->Prop}(x:α)(h0:p x)(h1:q x)(h2:r1 x)(h3:r2 x):∃x,p x/\q x/\r1 x/\r2 x:=⟨x,h0,h1,h2,h3⟩
theorem sI {α:Sort _}{p q r1 r2 r3:α->Prop}(x:α)(h0:p x)(h1:q x)(h2:r1 x)(h3:r2 x)(h4:r3 x):∃x,p x/\q x/\r1 x/\r2 x/\r3 x:=⟨x,h0,h1,h2,h3,h4⟩
theorem PX {α:Sort _}{p q r1 r2 r3 r4:α->Prop}(x:α)(h0:p x)(h1:q x)(h2:r1 x)(h3:r2 x)(h4:r3 x)(h5:r4 x):∃x,p x/\q x/\r1 x/\r2 x/\r3 x/\r4 x:=⟨x,h0,h1,h2,h3,h4,h5⟩
theorem Dp {α:Sort _}{p q r1 r2 r3 r4 r5:α->Prop}(x:α)(h0:p x)(h1:q x)(h2:r1 x)(h3:r2 x)(h4:r3 x)(h5:r4 x)(h6:r5 x):∃x,p x/\q x/\r1 x/\r2 x/\r3 x/\r4 x/\r5 x:=⟨x,h0,h1,h2,h3,h4,h5,h6⟩
theorem PY {α:Sort _}{p q r1 r2 r3 r4 r5 r6 r7:α->Prop}(x:α)(h0:p x)(h1:q x)(h2:r1 x)(h3:r2 x)(h4:r3 x)(h5:r4 x)(h6:r5 x)(h7:r6 x)(h8:r7 x):∃x,p x/\q x/\r1 x/\r2 x/\r3 x/\r4 x/\r5 x/\r6 x/\r7 x:=⟨x,h0,h1,h2,h3,h4,h5,h6,h7,h8⟩
theorem uX {α β:Sort _}{p:α->β->Prop}(x:α)(y:β)(h0:p x y):∃x y,p x y:=⟨x,y,h0⟩
theorem cg {α β:Sort _}{p q:α->β->Prop}(x:α)(y:β)(h0:p x y)(h1:q x y):∃x y,p x y/\q x y:=⟨x,y,h0,h1⟩
theorem bA {α β:Sort _}{p q r1:α->β->Prop}(x:α)(y:β)(h0:p x y)(h1:q x y)(h2:r1 x y):∃x y,p x y/\q x y/\r1 x y:=⟨x,y,h0,h1,h2⟩
theorem cD {α β:Sort _}{p q r1 r2:α->β->Prop}(x:α)(y:β)(h0:p x y)(h1:q x y)(h2:r1 x y)(h3:r2 x y):∃x y,p x y/\q x y/\r1 x y/\r2 x y:=⟨x,y,h0,h1,h2,h3⟩
theorem o6 {α β:Sort _}{p q r1 r2 r3:α->β->Prop}(x:α)(y:β)(h0:p x y)(h1:q x y)(h2:r1 x y)(h3:r2 x y)(h4:r3 x y):∃x y,p x y/\q x y/\r1 x y/\r2 x y/\r3 x y:=⟨x,y,h0,h1,h2,h3,h4⟩
theorem Hc {α β γ:Sort _}{p:α->β->γ->Prop}(x:α)(y:β)(z:γ)(h0:p x y z):∃x y z,p x y z:=⟨x,y,z,h0⟩
theorem cv {α β γ:Sort _}{p q:α->β->γ->Prop}(x:α)(y:β)(z:γ)(h0:p x y z)(h1:q x y z):∃x y z,p x y z/\q x y z:=⟨x,y,z,h0,h1⟩
theorem lW {α β γ:Sort _}{p q r1:α->β->γ->Prop}(x:α)(y:β)(z:γ)(h0:p x y z)(h1:q x y z)(h2:r1 x y z):∃x y z,p x y z/\q x y z/\r1 x y z:=⟨x,y,z,h0,h1,h2⟩
theorem o8 {α β γ:Sort _}{p q r1 r2:α->β->γ->Prop}(x:α)(y:β)(z:γ)(h0:p x y z)(h1:q x y z)(h2:r1 x y z)(h3:r2 x y z):∃x y z,p x y z/\q x y z/\r1 x y z/\r2 x y z:=⟨x,y,z,h0,h1,h2,h3⟩
theorem Hd {α β γ:Sort _}{p q r1 r2 r3:α->β->γ->Prop}(x:α)(y:β)(z:γ)(h0:p x y z)(h1:q x y z)(h2:r1 x y z)(h3:r2 x y z)(h4:r3 x y z):∃x y z,p x y z/\q x y z/\r1 x y z/\r2 x y z/\r3 x y z:=⟨x,y,z,h0,h1,h2,h3,h4⟩
theorem Hf {α β γ:Sort _}{p q r1 r2 r3 r4:α->β->γ->Prop}(x:α)(y:β)(z:γ)(h0:p x y z)(h1:q x y z)(h2:r1 x y z)(h3:r2 x y z)(h4:r3 x y z)(h5:r4 x y z):∃x y z,p x y z/\q x y z/\r1 x y z/\r2 x y z/\r3 x y z/\r4 x y z:=⟨x,y,z,h0,h1,h2,h3,h4,h5⟩
theorem Dq {α β γ δ:Sort _}{p q:α->β->γ->δ->Prop}(x:α)(y:β)(z:γ)(u:δ)(h0:p x y z u)(h1:q x y z u):∃x y z u,p x y z u/\q x y z u:=⟨x,y,z,u,h0,h1⟩
theorem Hg {α β γ δ:Sort _}{p q r1:α->β->γ->δ->Prop}(x:α)(y:β)(z:γ)(u:δ)(h0:p x y z u)(h1:q x y z u)(h2:r1 x y z u):∃x y z u,p x y z u/\q x y z u/\r1 x y z u:=⟨x,y,z,u,h0,h1,h2⟩
theorem Dr {α β γ δ:Sort _}{p q r1 r2 r3:α->β->γ->δ->Prop}(x:α)(y:β)(z:γ)(u:δ)(h0:p x y z u)(h1:q x y z u)(h2:r1 x y z u)(h3:r2 x y z u)(h4:r3 x y z u):∃x y z u,p x y z u/\q x y z u/\r1 x y z u/\r2 x y z u/\r3 x y z u:=⟨x,y,z,u,h0,h1,h2,h3,h4⟩
theorem PZ {α β γ δ:Sort _}{p q r1 r2 r3 r4:α->β->γ->δ->Prop}(x:α)(y:β)(z:γ)(u:δ)(h0:p x y z u)(h1:q x y z u)(h2:r1 x y z u)(h3:r2 x y z u)(h4:r3 x y z u)(h5:r4 x y z u):∃x y z u,p x y z u/\q x y z u/\r1 x y z u/\r2 x y z u/\r3 x y z u/\r4 x y z u:=⟨x,y,z,u,h0,h1,h2,h3,h4,h5⟩
theorem sJ {α β γ δ:Sort _}{p q r1 r2 r3 r4 r5:α->β->γ->δ->Prop}(x:α)(y:β)(z:γ)(u:δ)(h0:p x y z u)(h1:q x y z u)(h2:r1 x y z u)(h3:r2 x y z u)(h4:r3 x y z u)(h5:r4 x y z u)(h6:r5 x y z u):∃x y z u,p x y z u/\q x y z u/\r1 x y z u/\r2 x y z u/\r3 x y z u/\r4 x y z u/\r5 x y z u:=⟨x,y,z,u,h0,h1,h2,h3,h4,h5,h6⟩
theorem uY {α β γ δ:Sort _}{p q r1 r2 r3 r4 r5 r6:α->β->γ->δ->Prop}(x:α)(y:β)(z:γ)(u:δ)(h0:p x y z u)(h1:q x y z u)(h2:r1 x y z u)(h3:r2 x y z u)(h4:r3 x y z u)(h5:r4 x y z u)(h6:r5 x y z u)(h7:r6 x y z u):∃x y z u,p x y z u/\q x y z u/\r1 x y z u/\r2 x y z u/\r3 x y z u/\r4 x y z u/\r5 x y z u/\r6 x y z u:=⟨x,y,z,u,h0,h1,h2,h3,h4,h5,h6,h7⟩
theorem pM {α β γ δ ε ζ:Sort _}{p q r1 r2 r3 r4 r5 r6 r7 r8:α->β->γ->δ->ε->ζ->Prop}(x:α)(y:β)(z:γ)(u:δ)(v:ε)(w:ζ)(h0:p x y z u v w)(h1:q x y z u v w)(h2:r1 x y z u v w)(h3:r2 x y z u v w)(h4:r3 x y z u v w)(h5:r4 x y z u v w)(h6:r5 x y z u v w)(h7:r6 x y z u v w)(h8:r7 x y z u v w)(h9:r8 x y z u v w):∃x y z u v w,p x y z u v w/\q x y z u v w/\r1 x y z u v w/\r2 x y z u v w/\r3 x y z u v w/\r4 x y z u v w/\r5 x y z u v w/\r6 x y z u v w/\r7 x y z u v w/\r8 x y z u v w:=⟨x,y,z,u,v,w,h0,h1,h2,h3,h4,h5,h6,h7,h8,h9⟩
theorem sL {α β γ δ ε ζ η:Sort _}{p q r1 r2 r3 r4 r5 r6:α->β->γ->δ->ε->ζ->η->Prop}(x:α)(y:β)(z:γ)(u:δ)(v:ε)(w:ζ)(s:η)(h0:p x y z u v w s)(h1:q x y z u v w s)(h2:r1 x y z u v w s)(h3:r2 x y z u v w s)(h4:r3 x y z u v w s)(h5:r4 x y z u v w s)(h6:r5 x y z u v w s)(h7:r6 x y z u v w s):∃x y z u v w s,p x y z u v w s/\q x y z u v w s/\r1 x y z u v w s/\r2 x y z u v w s/\r3 x y z u v w s/\r4 x y z u v w s/\r5 x y z u v w s/\r6 x y z u v w s:=⟨x,y,z,u,v,w,s,h0,h1,h2,h3,h4,h5,h6,h7⟩
noncomputable abbrev LX:=Nat.Internal.Linear.Expr
noncomputable abbrev LC:=Lean.RArray Nat
noncomputable def lL:List (Nat × LX × LX)->LX:=W2 (.num 0) fun c O e=>.add (.mulL c.1 c.2.1) e
noncomputable def lR:List (Nat × LX × LX)->LX:=W2 (.num 0) fun c O e=>.add (.mulL c.1 c.2.2) e
noncomputable def lH (ctx:LC)(P:Prop):List (Nat × LX × LX)->Prop:=W2 P fun c O e=>c.2.1.denote ctx<=c.2.2.denote ctx->e
noncomputable def lB (cs:List (Nat × LX × LX))(a b:LX):Bool:=(Nat.Internal.Linear.ExprCnstr.mk false (.add a (lR cs)) (.add b (lL cs))).toNormPoly.isValid
theorem Jb {ctx:LC}{P:Prop}:∀{cs:List (Nat × LX × LX)},((lL cs).denote ctx<=(lR cs).denote ctx->P)->lH ctx P cs:=fun {cs}=>by
 induction cs generalizing P with
 | nil=>exact fun k=>k (TJ _)
 | cons c cs ih=>exact fun k h=>ih fun h2=>k (Vf (Wb c.1 h) h2)
theorem aH (ctx:LC)(cs:List (Nat × LX × LX))(a b:LX)(h:lB cs a b=true):lH ctx (a.denote ctx<=b.denote ctx) cs:=Jb fun k=>by
 have e:a.denote ctx+(lR cs).denote ctx<=b.denote ctx+(lL cs).denote ctx:=of_eq_true (Nat.Internal.Linear.ExprCnstr.eq_true_of_isValid ctx _ h);exact Nat.le_of_add_le_add_right (TF e (Uy k _))
noncomputable abbrev ZX:=Int.Internal.Linear.Expr
noncomputable abbrev ZC:=Lean.RArray Int
noncomputable def zL:List (Nat × ZX × ZX)->ZX:=W2 (.num 0) fun c O e=>.add (.mulL c.1 c.2.1) e
noncomputable def zR:List (Nat × ZX × ZX)->ZX:=W2 (.num 0) fun c O e=>.add (.mulL c.1 c.2.2) e
noncomputable def zH (ctx:ZC)(P:Prop):List (Nat × ZX × ZX)->Prop:=W2 P fun c O e=>c.2.1.denote ctx<=c.2.2.denote ctx->e
noncomputable def zB (cs:List (Nat × ZX × ZX))(a b:ZX):Bool:=(Int.Internal.Linear.Expr.sub (.add a (zR cs)) (.add b (zL cs))).norm.isValidLe
theorem Kt {ctx:ZC}{P:Prop}:∀{cs:List (Nat × ZX × ZX)},((zL cs).denote ctx<=(zR cs).denote ctx->P)->zH ctx P cs:=fun {cs}=>by
 induction cs generalizing P with
 | nil=>exact fun k=>k (Int.le_refl _)
 | cons c cs ih=>exact fun k h=>ih fun h2=>k (Int.add_le_add (Int.mul_le_mul_of_nonneg_left h (Ug c.1)) h2)
theorem eO (ctx:ZC)(cs:List (Nat × ZX × ZX))(a b:ZX)(h:zB cs a b=true):zH ctx (a.denote ctx<=b.denote ctx) cs:=Kt fun k=>by
 have e:a.denote ctx+(zR cs).denote ctx<=b.denote ctx+(zL cs).denote ctx:=of_eq_true (Int.Internal.Linear.le_eq_true ctx _ _ h);exact Int.le_of_add_le_add_right (Vk e (Int.add_le_add_left k _))
theorem TB {p:Prop}(h:(1:Int)<=0):p:=absurd h (by decide)
noncomputable def cP (a:Int):ZC:=.leaf a
noncomputable def lD (a b:Int):ZC:=.branch 1 (.leaf a) (.leaf b)
noncomputable def Ku (a b c:Int):ZC:=.branch 2 (lD a b) (.leaf c)
noncomputable def TC (a b c d:Int):ZC:=.branch 3 (Ku a b c) (.leaf d)
noncomputable def zqq5 (a b c d e:Int):ZC:=.branch 4 (TC a b c d) (.leaf e)
theorem NR (ctx:LC)(a b:LX)(h:(Nat.Internal.Linear.ExprCnstr.mk true a b).toNormPoly.isValid=true):a.denote ctx=b.denote ctx:=of_eq_true (Nat.Internal.Linear.ExprCnstr.eq_true_of_isValid ctx _ h)
noncomputable def bI (a:Nat):LC:=.leaf a
noncomputable def bc (a b:Nat):LC:=.branch 1 (.leaf a) (.leaf b)
noncomputable def bC (a b c:Nat):LC:=.branch 2 (bc a b) (.leaf c)
noncomputable def cm (a b c d:Nat):LC:=.branch 3 (bC a b c) (.leaf d)
noncomputable def ml (a b c d e:Nat):LC:=.branch 4 (cm a b c d) (.leaf e)
noncomputable def CF (a b c d e f:Nat):LC:=.branch 5 (ml a b c d e) (.leaf f)
noncomputable def SQ (a b c d e f g:Nat):LC:=.branch 6 (CF a b c d e f) (.leaf g)
noncomputable def SR (a b c d e f g h:Nat):LC:=.branch 7 (SQ a b c d e f g) (.leaf h)
noncomputable abbrev rH:LX:=.num 0
noncomputable abbrev ay:LX:=.num 1
noncomputable abbrev ia:LX:=.num 2
noncomputable abbrev aq:LX:=.var 0
noncomputable abbrev aw:LX:=.var 1
noncomputable abbrev aN:LX:=.var 2
noncomputable abbrev bL:LX:=.var 3
noncomputable abbrev jc:LX:=.var 4
noncomputable abbrev Dh:LX:=.var 5
noncomputable abbrev lv6:LX:=.var 6
noncomputable abbrev lv7:LX:=.var 7
noncomputable abbrev cG:ZX:=.num 0
noncomputable abbrev bD:ZX:=.num 1
noncomputable abbrev OU:ZX:=.num 2
noncomputable abbrev bg:ZX:=.var 0
noncomputable abbrev dT:ZX:=.var 1
noncomputable abbrev FL:ZX:=.var 2
@[elab_as_elim] theorem ab {α:Sort _}{a b:α}{p:α->Prop}(h:a=b)(x:p b):p a:=h▸x
@[elab_as_elim] theorem bk {α:Sort _}{a b:α}{p:α->Prop}(h:a=b)(x:p a):p b:=h▸x
theorem Be {a b c d:Nat}(hc:c=a+1)(hd:d=a+2)(h:b=a\/b=c):a<=b/\b<d:=by
 subst hc;subst hd;exact h.elim (fun e=>by subst e;exact ⟨TJ _,U4 (by decide)⟩) fun e=>by subst e;exact ⟨Uo _,Uj _⟩
theorem OO {k:Nat}(h:k<2):k=0\/k=1:=(Wj.mp h).elim (fun h=>.inl (Nat.lt_one_iff.mp h)) .inr
theorem CS {k:Nat}(h0:0<k)(h:k<4):k=1\/k=2\/k=3:=(Wj.mp h).elim (fun h=>(Wj.mp h).elim (fun h=>.inl (UC (VQ h) h0)) fun h=>.inr (.inl h)) fun h=>.inr (.inr h)
theorem Px {x:Int}(h0:0<=x)(h:x<=16777216): -(2 ^ 63)<=x/\x<2 ^ 63:=⟨Vk (by decide) h0,WW h (by decide)⟩
theorem PE {x n:Nat}(h:x<=n)(hn:n<=16777216):(x:Int)<2 ^ 63:=WW (Ul.mpr (TF h hn)) (by decide)
@[elab_as_elim] theorem O7 {α:Sort _}{a:α}{p:α->Prop}(k:∀x,a=x->p x):p a:=k a rfl
noncomputable abbrev LA {α ω:Sort _}(f:α->ω)(p:α->Prop)(u:ω):Prop:=∃x,u=f x/\p x
@[elab_as_elim] theorem mP {α ω:Sort _}{f:α->ω}{p:α->Prop}{u:ω}{m:ω->Prop}(h:LA f p u)(k:∀x,p x->m (f x)):m u:=ah h fun x e h0=>e▸k x h0
noncomputable abbrev LB {α ω:Sort _}(f:α->ω)(p:α->Prop)(u:ω):Prop:=∃x,p x/\u=f x
@[elab_as_elim] theorem P7 {α ω:Sort _}{f:α->ω}{p:α->Prop}{u:ω}{m:ω->Prop}(h:LB f p u)(k:∀x,p x->m (f x)):m u:=ah h fun x h0 e=>e▸k x h0
noncomputable abbrev LK {α ω:Sort _}(f:α->ω)(p:α->Prop)(u:ω):Prop:=∃x,p x/\f x=u
@[elab_as_elim] theorem bY {α ω:Sort _}{f:α->ω}{p:α->Prop}{u:ω}{m:ω->Prop}(h:LK f p u)(k:∀x,p x->m (f x)):m u:=ah h fun x h0 e=>e▸k x h0
noncomputable abbrev LI {α β ω:Sort _}(f:α->β->ω)(p q:α->β->Prop)(u:ω):Prop:=∃x y,u=f x y/\p x y/\q x y
@[elab_as_elim] theorem cy {α β ω:Sort _}{f:α->β->ω}{p q:α->β->Prop}{u:ω}{m:ω->Prop}(h:LI f p q u)(k:∀x y,p x y->q x y->m (f x y)):m u:=cu h fun x y e h0 h1=>e▸k x y h0 h1
noncomputable abbrev LJ {α β ω:Sort _}(f:α->β->ω)(p q r:α->β->Prop)(u:ω):Prop:=∃x y,u=f x y/\p x y/\q x y/\r x y
@[elab_as_elim] theorem fL {α β ω:Sort _}{f:α->β->ω}{p q r:α->β->Prop}{u:ω}{m:ω->Prop}(h:LJ f p q r u)(k:∀x y,p x y->q x y->r x y->m (f x y)):m u:=cn h fun x y e h0 h1 h2=>e▸k x y h0 h1 h2
noncomputable abbrev LG {α β ω:Sort _}(f:α->β->ω)(p:α->β->Prop)(u:ω):Prop:=∃x y,u=f x y/\p x y
@[elab_as_elim] theorem x6 {α β ω:Sort _}{f:α->β->ω}{p:α->β->Prop}{u:ω}{m:ω->Prop}(h:LG f p u)(k:∀x y,p x y->m (f x y)):m u:=dg h fun x y e h0=>e▸k x y h0
noncomputable abbrev LD {α ω:Sort _}(f:α->ω)(p q:α->Prop)(u:ω):Prop:=∃x,u=f x/\p x/\q x
@[elab_as_elim] theorem Du {α ω:Sort _}{f:α->ω}{p q:α->Prop}{u:ω}{m:ω->Prop}(h:LD f p q u)(k:∀x,p x->q x->m (f x)):m u:=bE h fun x e h0 h1=>e▸k x h0 h1
noncomputable abbrev LF {α β ω:Sort _}(f:α->β->ω)(u:ω):Prop:=∃x y,u=f x y
@[elab_as_elim] theorem Dv {α β ω:Sort _}{f:α->β->ω}{u:ω}{m:ω->Prop}(h:LF f u)(k:∀x y,m (f x y)):m u:=eJ h fun x y e=>e▸k x y
noncomputable abbrev blt (b c:Array UInt8):Bool:=Xu b.toList c.toList== .lt
theorem jF:∀a b:List UInt8,Xu b a=(Xu a b).swap
 | [],[]=>rfl
 | [],_::_=>rfl
 | _::_,[]=>rfl
 | x::a,y::b=>by
  simp only [Xu]
  by_cases h1:x<y
  ·have:¬y<x:=fun h=>absurd (UInt8.lt_trans h1 h) (UInt8.lt_irrefl _);simp [h1,this]
  ·by_cases h2:y<x
   ·simp [h1,h2]
   ·simp [h1,h2,jF a b]
theorem gQ:∀a b:List UInt8,Xu a b=.eq↔a=b
 | [],[]=>by simp [Xu]
 | [],_::_=>by simp [Xu]
 | _::_,[]=>by simp [Xu]
 | x::a,y::b=>by
  simp only [Xu]
  by_cases h1:x<y
  ·have:x≠y:=fun e=>by subst e;exact absurd h1 (UInt8.lt_irrefl _)
   simp [h1,this]
  ·by_cases h2:y<x
   ·have:x≠y:=fun e=>by subst e;exact absurd h2 (UInt8.lt_irrefl _)
    simp [h1,h2,this]
   ·have:x=y:=UInt8.le_antisymm (UInt8.not_lt.mp h2) (UInt8.not_lt.mp h1);simp [this,gQ a b]
theorem lO:∀a b c:List UInt8,Xu a b=.lt->Xu b c=.lt->Xu a c=.lt
 | [],_,c,_,h2=>by
  cases c with
  | nil=>rename_i b _;cases b <;> simp [Xu] at h2
  | cons=>rfl
 | x::a,[],c,h1,_=>by simp [Xu] at h1
 | x::a,y::b,[],_,h2=>by simp [Xu] at h2
 | x::a,y::b,z::c,h1,h2=>by
  simp only [Xu] at*
  by_cases Er:x<y
  ·by_cases IS:y<z
   ·simp [UInt8.lt_trans Er IS]
   ·by_cases NG:z<y
    ·simp [IS,NG] at h2
    ·have:y=z:=UInt8.le_antisymm (UInt8.not_lt.mp NG) (UInt8.not_lt.mp IS);subst this;simp [Er]
  ·by_cases Bk:y<x
   ·simp [Er,Bk] at h1
   ·have:x=y:=UInt8.le_antisymm (UInt8.not_lt.mp Bk) (UInt8.not_lt.mp Er);subst this
    by_cases IS:x<z
    ·simp [IS]
    ·by_cases NG:z<x
     ·simp [IS,NG] at h2
     ·simp only [Er,IS,NG,if_false] at h1 h2 ⊢;exact lO a b c h1 h2
theorem m6 (a:Array UInt8):blt a a=false:=by
 have:=(gQ a.toList a.toList).mpr rfl;simp [blt,this]
theorem kP {a b c:Array UInt8}(h1:blt a b=true)(h2:blt b c=true):blt a c=true:=by
 simp only [blt,beq_iff_eq] at*;exact lO _ _ _ h1 h2
theorem kO {a b:Array UInt8}(h1:blt a b=false)(h2:blt b a=false):a=b:=by
 simp only [blt] at*;have e:=jF a.toList b.toList
 cases h:Xu a.toList b.toList with
 | eq=>exact Array.toList_inj.mp ((gQ _ _).mp h)
 | lt=>rw [h] at h1;simp at h1
 | gt=>rw [h] at e;rw [e] at h2;simp at h2
theorem fQ:Slot "bytes" (cmpInfo .Lt).2.1 "bytes.__lt__":=
 .of (owner:="bytes") (n:="__lt__") (by refine ab (XU ..) (ab (XM ..) ?_);kernel_rfl) (by decide +kernel) (by decide +kernel) (by decide +kernel)
  (by first | exact .inl (by decide +kernel) | exact .inr (by decide +kernel)) (by refine ab (YL ..) ?_;kernel_rfl)
theorem iA:aas table "bytes.__lt__"=some XN.«bytes.__lt__»:=Yw (by kernel_rfl)
theorem jg (a b:Value):aad "bytes.__lt__" ⟨[a,b],[]⟩:=by
 unfold aad;refine ab (Z0 (id:="bytes.__lt__") (n:=['_', '_', 't', 'l', '_', '_']) (o:=['s', 'e', 't', 'y', 'b']) (by kernel_rfl) ZF) ?_;kernel_rfl
theorem pI:Slot "bytes" (cmpInfo .LtE).2.1 "bytes.__le__":=
 .of (owner:="bytes") (n:="__le__") (by refine ab (XU ..) (ab (XM ..) ?_);kernel_rfl) (by decide +kernel) (by decide +kernel) (by decide +kernel)
  (by first | exact .inl (by decide +kernel) | exact .inr (by decide +kernel)) (by refine ab (YL ..) ?_;kernel_rfl)
theorem nq:aas table "bytes.__le__"=some XN.«bytes.__le__»:=Yw (by kernel_rfl)
theorem pb (a b:Value):aad "bytes.__le__" ⟨[a,b],[]⟩:=by
 unfold aad;refine ab (Z0 (id:="bytes.__le__") (n:=['_', '_', 'e', 'l', '_', '_']) (o:=['s', 'e', 't', 'y', 'b']) (by kernel_rfl) ZF) ?_;kernel_rfl
theorem dq:Slot "bytes" "__hash__" "bytes.__hash__":=
 .of (owner:="bytes") (n:="__hash__") (by refine ab (XU ..) (ab (XM ..) ?_);kernel_rfl) (by decide +kernel) (by decide +kernel) (by decide +kernel)
  (by first | exact .inl (by decide +kernel) | exact .inr (by decide +kernel)) (by refine ab (YL ..) ?_;kernel_rfl)
theorem kY:aas table "bytes.__hash__"=some XN.«bytes.__hash__»:=Yw (by kernel_rfl)
theorem lY (a:Value):aad "bytes.__hash__" ⟨[a],[]⟩:=by
 unfold aad;refine ab (Z0 (id:="bytes.__hash__") (n:=['_', '_', 'h', 's', 'a', 'h', '_', '_']) (o:=['s', 'e', 't', 'y', 'b']) (by kernel_rfl) ZF) ?_;kernel_rfl
theorem nD (b c:Array UInt8)(t u:Tok):Gives (XN.«bytes.__lt__» ⟨[.bytes b t,.bytes c u],[]⟩) (.val (.bool (blt b c))):=by
 refine .of_wp fun M A E s Q hq=>?_;show wpAny M A (isInstance (.bytes c u) (.type "bytes") >>=fun r=>_) _ E s;refine Xl (Yx (XJ s c u) Y1 ?_);exact Xn (ai _ rfl hq)
theorem nC (b c:Array UInt8)(t u:Tok):Gives (XN.«bytes.__le__» ⟨[.bytes b t,.bytes c u],[]⟩) (.val (.bool (!blt c b))):=by
 refine .of_wp fun M A E s Q hq=>?_;show wpAny M A (isInstance (.bytes c u) (.type "bytes") >>=fun r=>_) _ E s;refine Xl (Yx (XJ s c u) Y1 ?_);refine Xn (ai _ rfl ?_);have e:=jF b.toList c.toList;have:(!blt c b)=(Xu b.toList c.toList != .gt):=by
  simp only [blt];refine ab e ?_;cases Xu b.toList c.toList <;> rfl
 rw [this] at hq;exact hq
section
variable {prog:XS}{w:World}{A:Xv}{E:Value->Xm->Prop}{s:Xm}{b c:Array UInt8}{t u:Tok}
theorem BW {Q:Value->Xm->Prop}(h:Q (.bool (blt b c)) s):wpAny (model prog w) A (Zo .Lt (.bytes b t) (.bytes c u)) Q E s:=
 compareOp_gives (op:=.Lt) (XJ s b t) (XJ s c u) fQ iA (jg _ _) (nD b c t u) (fun e=>nomatch e) h
theorem BQ {Q:Value->Xm->Prop}(h:Q (.bool (!blt c b)) s):wpAny (model prog w) A (Zo .LtE (.bytes b t) (.bytes c u)) Q E s:=
 compareOp_gives (op:=.LtE) (XJ s b t) (XJ s c u) pI nq (pb _ _) (nC b c t u) (fun e=>nomatch e) h
noncomputable def cF (w:World)(b:Array UInt8):Int:=if (b.map (·.toNat)).isEmpty=true then 0 else ZP (w.params.strHash (b.map (·.toNat)))
theorem ly (i:Int): -(2 ^ 63:Int)<=ZP i/\ZP i<2 ^ 63:=by
 unfold ZP;simp only [UM,decide_eq_true_eq,beq_iff_eq];have hm:(0:Int)<=(i.natAbs:Int) % (2 ^ 61 - 1):=Int.emod_nonneg _ (by decide);have Bc:(i.natAbs:Int) % (2 ^ 61 - 1)<2 ^ 61 - 1:=Int.emod_lt_of_pos _ (by decide)
 generalize (i.natAbs:Int) % (2 ^ 61 - 1)=x at*
 split
 ·split <;> omega
 ·split <;> (try split) <;> omega
theorem jJ: -(2 ^ 63:Int)<=cF w b/\cF w b<2 ^ 63:=by
 unfold cF;split
 ·decide
 ·exact ly _
noncomputable def qi (w:World)(b:Array UInt8):Int:=if cF w b== -1 then -2 else cF w b
theorem jN {Q:Int->Xm->Prop}(h:Q (qi w b) {s with toks:=s.toks+1}):
  wpAny (model prog w) A (pyHash (.bytes b t)) Q E s:=by
 have hr:=jJ (w:=w) (b:=b);unfold pyHash;have hv:[YS b t].any Value.onHeap=false:=rfl;refine Xl ?_;rw [cRoomFor,if_neg (by refine ab hv ?_;exact T4)];refine Xn ?_;refine Xl (X4 (XJ s b t) dq.lookup ?_);show wpAny _ _ (if (some (Z1 "bytes.__hash__")==some YA)=true then _ else _) Q E s;rw [if_neg (by refine ab (show (some (Z1 "bytes.__hash__")==some YA)=false from rfl) ?_;exact T4)];refine Xl (X4 (XJ s b t) dq.lookup ?_);show wpAny _ _ (callSpecialIfBoundUnlessNone? (.bytes b t) "__hash__" _ >>=_) Q E s;refine Xl (wpAny_callSpecialIfBoundUnlessNone?_slot (XJ s b t) dq
  (Y8 dq (XJ s b t) kY
   (show wpAny _ _ (strHash ⟨b.map (·.toNat)⟩ >>=fun i=>(do ret (<- mkInt i))) _ _ s from ?_) (lY _)))
 unfold strHash;refine Xl (Xl (wpAny_askSetting (Xn (wpAny_ret_mkInt ?_))));show wpAny _ _ (if (decide (-(2:Int) ^ 63<=cF w b)&&decide (cF w b<2 ^ 63))=true then _ else _) Q E _;rw [if_pos (by refine ab (decide_eq_true hr.1) (ab (decide_eq_true hr.2) ?_);rfl)];exact Xn h
theorem fo {Q:Bool->Xm->Prop}(h:Q (decide (b=c)) s):wpAny (model prog w) A (eqBool (.bytes b t) (.bytes c u)) Q E s:=by
 unfold eqBool;show wpAny _ _ (if (YS b t==YS c u)=true then _ else _) Q E s
 by_cases QO:(YS b t==YS c u)=true
 ·refine ab (if_pos QO) ?_;have e:b=c:=by have:=eq_of_beq QO;injection this
  subst e;exact Xl (YB (Xn (by simpa using h)))
 ·refine ab (if_neg QO) ?_;refine Xl (richCompare_gives (op:=.Eq) (T:="bytes") rfl rfl FB.slot_bytes_eq FB.entry_bytes_eq (FB.args_bytes_eq_2 _ _) (gives_bytes_eq b c t u) (fun x=>nomatch x) (XW ?_));have e:(b.toList==c.toList)=decide (b=c):=by
   by_cases aJ:b=c
   ·subst aJ;simp
   ·refine ab (decide_eq_false aJ) ?_;exact beq_eq_false_iff_ne.mpr fun hl=>aJ (Array.toList_inj.mp hl)
  refine ab e ?_;exact h
theorem ue {Q:Bool->Xm->Prop}(h:Q (blt b c) s):wpAny (model prog w) A (oneLt' true (.bytes b t) (.bytes c u)) Q E s:=by
 refine ab (oneLt'_eq ..) (ab (if_pos rfl) ?_);refine Xl (wpAny_cRoomFor_byValue rfl ?_);refine Xl (wpAny_callSpecialIfBound?_slot (XJ s b t) fQ ?_);refine Y8 fQ (XJ s b t) iA ?_ (jg _ _);show wpAny _ _ (isInstance (.bytes c u) (.type "bytes") >>=fun r=>_) _ _ _;refine Xl (Yx (XJ s c u) Y1 ?_);exact Xn (ai _ rfl (XW h))
end
theorem fb (h:Heap)(a:Addr)(f:Obj->Obj):(h.update a f).objs.size=h.objs.size:=(Xz (h:=h) (a:=a) (f:=f)).1
theorem gV (h:Heap)(o:Obj):(h.push o).objs.size=h.objs.size+1:=Xp h o
theorem sb {M:Model}{Γ:Ctx}{p:Pos}{t:Sem Fin}{fs:List Frame}{s s':Xm}{e:End}(h:Runs M Γ p t fs s e s'):s.heap.objs.size<=s'.heap.objs.size:=by
 induction h <;> (try simp only [Xm.setGen,fb,gV] at*) <;> omega
theorem CO {M:Model}{Γ:Ctx}{p:Pos}{g:Nat}{r:Resume}{s s':Xm}{res:GenResult}(h:Wakes M Γ p g r s res s'):s.heap.objs.size<=s'.heap.objs.size:=by
 unfold Wakes at h
 split at h
 ·exact h.elim
 ·split at h
  ·refine cn h fun e₁ s₁ hr O O gR=>?_;subst gR;exact (sb hr:(s.setGen g .running).heap.objs.size<=s₁.heap.objs.size)
  ·refine ab h.2 ?_;exact TJ _
  ·refine ab h.2 ?_;exact TJ _
 ·refine cn h fun e₁ s₁ hr O O iq=>?_;subst iq;exact (sb hr:(s.setGen g .running).heap.objs.size<=s₁.heap.objs.size)
 ·refine ab h.2 ?_;exact TJ _
 ·refine ab h.2 ?_;exact TJ _
theorem OF {α:Type}(M:Model)(Γ:Ctx)(n:Nat)(t:Sem α):∀(Q:α->Pos->Xm->Prop) (E:Value->Pos->Xm->Prop) (p:Pos) (s:Xm),n<=s.heap.objs.size->Sem.wp M Γ t Q E p s->
 Sem.wp M Γ t (fun a p' s'=>n<=s'.heap.objs.size/\Q a p' s') (fun e p' s'=>n<=s'.heap.objs.size/\E e p' s') p s:=by
 induction t with
 | pure a=>intro Q E p s hn h;exact ⟨hn,h⟩
 | raise e=>intro Q E p s hn h;exact ⟨hn,h⟩
 | unsupported _=>intro Q E p s _ h;exact h
 | finish _=>intro Q E p s _ h;exact h
 | rule _ k ih=>intro Q E p s hn h;exact ih () Q E p s hn h
 | «at» p' k ih=>intro Q E p s hn h;exact ih () Q E p' s hn h
 | load a _ k ih=>intro Q E p s hn h;refine ah h fun o ho h=>?_;exact (ai o ho (ih o Q E p s hn h))
 | update a _ f k ih=>intro Q E p s hn h;exact ⟨h.1,ih () Q E p _ (by show n<=(s.heap.update a f).objs.size;refine ab (fb ..) ?_;exact hn) h.2⟩
 | loadIfAlive a k ih=>intro Q E p s hn h;exact ih _ Q E p s hn h
 | point _ k ih=>intro Q E p s hn h;exact ih () Q E p s hn h
 | register _ _=>intro Q E p s _ h;exact h
 | alloc o k ih=>intro Q E p s hn h;exact ih _ Q E p _ (by show n<=(s.heap.push o).objs.size;refine ab (gV ..) ?_;exact TY hn) h
 | fresh k ih=>intro Q E p s hn h;exact ih _ Q E p _ hn h
 | ask k ih=>intro Q E p s hn h;exact ih _ Q E p s hn h
 | choose lT m k ih=>intro Q E p s hn h;exact ⟨h.1,ih _ Q E p _ hn h.2⟩
 | os q _ k ih=>intro Q E p s hn h;exact ih _ Q E p _ hn h
 | call c hd _ _ k ih=>intro Q E p s hn h;refine dg h fun r s' hr h=>?_;exact (cg r s' hr (ih r Q E p s' (TF hn (sb hr)) h))
 | handled own k ih=>intro Q E p s hn h;exact ih _ Q E p s hn h
 | genState g k ih=>intro Q E p s hn h;refine ah h fun st hs h=>?_;exact (ai st hs (ih _ Q E p s hn h))
 | newGen c k ih=>intro Q E p s hn h;exact ih _ Q E p _ hn h
 | resume g r _ k ih=>intro Q E p s hn h;refine dg h fun res s' hw h=>?_;exact (cg res s' hw (ih res Q E p s' (TF hn (CO hw)) h))
 | yield _ _ _ _=>intro Q E p s _ h;exact h
 | stack k ih=>intro Q E p s hn h;exact ih _ Q E p s hn h
 | fork _ _=>intro Q E p s _ h;exact h
 | thread k ih=>intro Q E p s hn h;exact ih _ Q E p s hn h
 | await _ _ _ _ _=>intro Q E p s _ h;exact h
theorem uL {α:Type}{M:Model}{A:Xv}{s:Xm}{t:Sem α}{Q:α->Xm->Prop}{E:Value->Xm->Prop}(h:wpAny M A t Q E s):
 wpAny M A t (fun a s'=>s.heap.objs.size<=s'.heap.objs.size/\Q a s') (fun e s'=>s.heap.objs.size<=s'.heap.objs.size/\E e s') s:=
 fun Γ p hΓ=>OF M Γ s.heap.objs.size t _ _ p s (TJ _) (h Γ p hΓ)
theorem eG {α:Type}{M:Model}{A:Xv}{s:Xm}{t:Sem α}{Q:α->Xm->Prop}{E:Value->Xm->Prop}(h:wpAny M A t (fun a s'=>s.heap.objs.size<=s'.heap.objs.size->Q a s') E s):wpAny M A t Q E s:=
 XC (uL h) (fun O O x=>x.2 x.1) fun O O x=>x.2
section
set_option genInjectivity true in
inductive SK where
 | int (i:Int)
 | str (s:Str)
 | bytes (b:Array UInt8)
 deriving DecidableEq,Inhabited
noncomputable def SK.tag (k:SK):Nat:=match k with
 | .int _=>0
 | .str _=>1
 | .bytes _=>2
noncomputable def isI (i:Int)(v:Value):Bool:=match v with | .int j _=>i==j | _=>false
noncomputable def isS (i:Str)(v:Value):Bool:=match v with | .str j _=>i==j | _=>false
noncomputable def isY (i:Array UInt8)(v:Value):Bool:=match v with | .bytes j _=>i==j | _=>false
noncomputable def SK.eV (k:SK):Value->Bool:=match k with
 | .int i=>isI i
 | .str i=>isS i
 | .bytes i=>isY i
theorem bf {P:Prop}(h:false=true):P:=Bool.noConfusion h
theorem SK.aG {i:Int}{v:Value}(h:(SK.int i).eV v=true):∃t,v=.int i t:=by
 cases v with | int j t=>exact ⟨t,eq_of_beq h▸rfl⟩ | _=>exact bf h
theorem SK.cp {i:Str}{v:Value}(h:(SK.str i).eV v=true):∃t,v=.str i t:=by
 cases v with | str j t=>exact ⟨t,eq_of_beq h▸rfl⟩ | _=>exact bf h
theorem SK.bP {i:Array UInt8}{v:Value}(h:(SK.bytes i).eV v=true):∃t,v=.bytes i t:=by
 cases v with | bytes j t=>exact ⟨t,eq_of_beq h▸rfl⟩ | _=>exact bf h
theorem SK.xb {v:Value}{a b:SK}(ha:a.eV v=true)(hb:b.eV v=true):a=b:=by
 cases a with
 | int i=>obtain ⟨t,rfl⟩:=aG ha;cases b with | int j=>exact congrArg SK.int (eq_of_beq hb).symm | _=>exact bf hb
 | str i=>obtain ⟨t,rfl⟩:=cp ha;cases b with | str j=>exact congrArg SK.str (eq_of_beq hb).symm | _=>exact bf hb
 | bytes i=>obtain ⟨t,rfl⟩:=bP ha;cases b with | bytes j=>exact congrArg SK.bytes (eq_of_beq hb).symm | _=>exact bf hb
noncomputable def A1 (w:World)(k:SK):Int:=match k with
 | .int i=>hashInt i
 | .str x=>hashStr w x
 | .bytes b=>qi w b
theorem Kb {k:SK}{v:Value}(h:k.eV v=true):carriedByValue v=true:=by
 cases k with
 | int i=>obtain ⟨t,rfl⟩:=SK.aG h;rfl
 | str i=>obtain ⟨t,rfl⟩:=SK.cp h;rfl
 | bytes i=>obtain ⟨t,rfl⟩:=SK.bP h;rfl
section
variable {prog:XS}{w:World}{A:Xv}{E:Value->Xm->Prop}{s:Xm}
theorem Fv {k:SK}{v:Value}{Q:Int->Xm->Prop}(hv:k.eV v=true)(h:Q (A1 w k) {s with toks:=s.toks+1}):wpAny (model prog w) A (PySem.pyHash v) Q E s:=by
 cases k with
 | int i=>obtain ⟨t,rfl⟩:=SK.aG hv;exact wpAny_pyHash_int h
 | str i=>obtain ⟨t,rfl⟩:=SK.cp hv;exact wpAny_pyHash_str h
 | bytes i=>obtain ⟨t,rfl⟩:=SK.bP hv;exact jN h
theorem DR {x y:Int}:decide (SK.int x=SK.int y)=(x==y):=by rw [VK];simp
theorem DS {x y:Str}:decide (SK.str x=SK.str y)=decide (x=y):=by simp
theorem ye {x y:Array UInt8}:decide (SK.bytes x=SK.bytes y)=decide (x=y):=by simp
theorem OD {a b:SK}{u v:Value}{Q:Bool->Xm->Prop}(e:a.tag=b.tag)(hu:a.eV u=true)(hv:b.eV v=true)(h:Q (decide (a=b)) s):wpAny (model prog w) A (PySem.eqBool u v) Q E s:=by
 cases a with
 | int x=>cases b with
  | int y=>obtain ⟨t,rfl⟩:=SK.aG hu;obtain ⟨t',rfl⟩:=SK.aG hv;exact wpAny_eqBool_int (DR▸h)
  | _=>exact nomatch e
 | str x=>cases b with
  | str y=>obtain ⟨t,rfl⟩:=SK.cp hu;obtain ⟨t',rfl⟩:=SK.cp hv;exact wpAny_eqBool_str (DS▸h)
  | _=>exact nomatch e
 | bytes x=>cases b with
  | bytes y=>obtain ⟨t,rfl⟩:=SK.bP hu;obtain ⟨t',rfl⟩:=SK.bP hv;exact fo (ye▸h)
  | _=>exact nomatch e
end
noncomputable def bT (prog:XS)(w:World)(t:Nat):PySem.KeyKind prog w SK where
 is k v:=k.tag==t&&k.eV v
 hash:=A1 w
 inj v a b ha hb:=SK.xb (UP.mp ha).2 (UP.mp hb).2
 byValue k v h:=Kb (UP.mp h).2
 pyHash:=fun hv h=>Fv (UP.mp hv).2 h
 eqBool:=fun hu hv h=>OD ((eq_of_beq (UP.mp hu).1).trans (eq_of_beq (UP.mp hv).1).symm) (UP.mp hu).2 (UP.mp hv).2 h
 «strs»:=fun k x t' v h=>by
  have hk:=UP.mp h
  cases k with
  | str y=>
   have e1:y=x:=eq_of_beq hk.2;have e2:1=t:=eq_of_beq hk.1;subst e1 e2
   cases v <;> first | rfl | exact Bool.beq_comm
  | _=>exact bf hk.2
inductive V where
 | none
 | bool (b:Bool)
 | sk (k:SK)
 | tup (l:List V)
 | ag (l:List V)
 | az (a:Addr) (es:List (SK × V))
 | cU (c:Nat) (fs:List (Str × V))
 | ref (a:Addr)
 deriving Inhabited
noncomputable abbrev V.int (i:Int):V:=.sk (.int i)
noncomputable abbrev V.str (s:Str):V:=.sk (.str s)
noncomputable abbrev V.bytes (b:Array UInt8):V:=.sk (.bytes b)
inductive bG where
 | list (l:List V)
 | dict (es:List (SK × V))
 | aO (es:List (List Int × V))
 | inst (c:Nat) (dx:Addr) (fs:List (Str × V))
 | own (a:Addr)
 | tab (fresh:Bool)
 | jK (a:Int) (n:Nat) (c:Int)
 | sE (l:List V)
noncomputable abbrev AH:=Addr->Option bG
structure aA where
 prog:XS
 w:World
 h0:Heap
 s0:Xm
 ca:Nat->Addr
 fa:Nat->Addr
 dW:Addr
 own:Addr->Prop
 K:Frag
variable (G:aA)
noncomputable def DictAt (h:Heap)(a:Addr)(kvs:List (SK × Value)):Prop:=∃t,h.DictOf (bT G.prog G.w t) a kvs
mutual
noncomputable def aC (h:Heap)(P:Addr->Prop):V->Value->Prop
 | .none,v=>v=.none
 | .bool b,v=>v=.bool b
 | .sk k,v=>k.eV v=true
 | .tup l,v=>∃a aj,v=.ref a/\(P a\/∃o,G.h0.get? a=some o)/\IsTup h a aj.toArray/\au h P l aj
 | .ag l,v=>∃a aj,v=.ref a/\P a/\h.PlainList a aj.toArray/\au h P l aj
 | .az a es,v=>v=.ref a/\P a/\∃kvs,DictAt G h a kvs/\aP h P es kvs
 | .cU c fs,v=>∃a dx dp od,v=.ref a/\P a/\P dx/\h.get? a=some (YM (G.ca c) dx)/\h.get? dx=some od/\(∀x,Yk x od=some (dp.lookup x))/\hG h P fs dp
 | .ref a,v=>v=.ref a
noncomputable def au (h:Heap)(P:Addr->Prop):List V->List Value->Prop
 | [],vs=>vs=[]
 | x::xs,vs=>∃v r,vs=v::r/\aC h P x v/\au h P xs r
noncomputable def aP (h:Heap)(P:Addr->Prop):List (SK × V)->List (SK × Value)->Prop
 | [],vs=>vs=[]
 | (k,x)::xs,vs=>∃v r,vs=(k,v)::r/\aC h P x v/\aP h P xs r
noncomputable def hG (h:Heap)(P:Addr->Prop):List (Str × V)->List (Str × Value)->Prop
 | [],vs=>vs=[]
 | (k,x)::xs,vs=>∃v r,vs=(k,v)::r/\aC h P x v/\hG h P xs r
end
structure fc (h:Heap)(P:Addr->Prop)(h':Heap)(P':Addr->Prop):Prop where
 tup:∀a o,h.get? a=some o->(∃o,G.h0.get? a=some o)->h'.get? a=some o
 mv:∀a o,h.get? a=some o->P a->h'.get? a=some o
 pp:∀a o,h.get? a=some o->P a->P' a
section
variable {G}{h h':Heap}{P P':Addr->Prop}
theorem vL (K:fc G h P h' P'){a:Addr}{aj:Array Value}(p:P a\/∃o,G.h0.get? a=some o)(x:IsTup h a aj):(P' a\/∃o,G.h0.get? a=some o)/\IsTup h' a aj:=by
 refine bE x fun o ho hc bN=>?_;obtain ⟨m,r⟩:=bN;rcases p with p | p
 ·exact ⟨.inl (K.pp _ _ ho p),bW o (K.mv a o ho p) hc ⟨m,r⟩⟩
 ·exact ⟨.inr p,bW o (K.tup a o ho p) hc ⟨m,r⟩⟩
theorem jy {a:Addr}{kvs:List (SK × Value)}(x:DictAt G h a kvs):∃o,h.get? a=some o/\o.ExactDict:=by
 refine G6 x fun t o es ep ho hx O=>?_;exact (ai o ho hx)
theorem kU {a:Addr}{kvs:List (SK × Value)}(x:DictAt G h a kvs)(k:∀o,h.get? a=some o->h'.get? a=some o):DictAt G h' a kvs:=by
 refine o5 x fun t o es ep ho r=>?_;exact (Dq t o es ep (k o ho) r)
mutual
theorem aC.kept (K:fc G h P h' P'):∀(x:V) {v:Value},aC G h P x v->aC G h' P' x v
 | .none,_,r=>r
 | .bool _,_,r=>r
 | .sk _,_,r=>r
 | .ref _,_,r=>r
 | .tup l,v,r=>by
  refine cn r fun a aj e p ht r=>?_;obtain ⟨p,ht⟩:=vL K p ht;exact (cD a aj e p ht (au.kept K l r))
 | .ag l,v,r=>by
  refine cn r fun a aj e hp Ki r=>?_;obtain ⟨n,hl⟩:=Ki;exact (cD a aj e (K.pp _ _ hl hp) ⟨n,K.mv _ _ hl hp⟩ (au.kept K l r))
 | .az a es,v,r=>by
  refine cS r fun e hp bN=>?_;refine ah bN fun kvs hd r=>?_;refine ah (jy hd) fun o ho O=>?_;exact ⟨e,K.pp _ _ ho hp,ai kvs (kU hd fun o e=>K.mv _ _ e hp) (aP.kept K es r)⟩
 | .cU c fs,v,r=>by
  refine zF r fun a dx dp od e pa pd ha hd hl r=>?_;exact (sJ a dx dp od e (K.pp _ _ ha pa) (K.pp _ _ hd pd) (K.mv _ _ ha pa) (K.mv _ _ hd pd) hl (hG.kept K fs r))
theorem au.kept (K:fc G h P h' P'):∀(xs:List V) {vs:List Value},au G h P xs vs->au G h' P' xs vs
 | [],_,r=>r
 | x::xs,_,r=>by
  refine cu r fun v r' e h1 h2=>?_;exact (bA v r' e (aC.kept K x h1) (au.kept K xs h2))
theorem aP.kept (K:fc G h P h' P'):∀(xs:List (SK × V)) {vs:List (SK × Value)},aP G h P xs vs->aP G h' P' xs vs
 | [],_,r=>r
 | (k,x)::xs,_,r=>by
  refine cu r fun v r' e h1 h2=>?_;exact (bA v r' e (aC.kept K x h1) (aP.kept K xs h2))
theorem hG.kept (K:fc G h P h' P'):∀(xs:List (Str × V)) {vs:List (Str × Value)},hG G h P xs vs->hG G h' P' xs vs
 | [],_,r=>r
 | (k,x)::xs,_,r=>by
  refine cu r fun v r' e h1 h2=>?_;exact (bA v r' e (aC.kept K x h1) (hG.kept K xs h2))
end
theorem au.length:∀{xs:List V} {vs:List Value},au G h P xs vs->vs.length=xs.length
 | [],_,r=>by refine ab (show _=[] from r) ?_;rfl
 | x::xs,_,r=>by
  refine cu r fun v r' e O h2=>?_;exact ab e (ab TS (ab TS (ab (au.length h2) rfl)))
theorem au.get:∀{xs:List V} {vs:List Value} {i:Nat} {x:V},au G h P xs vs->xs[i]? =some x->∃v,vs[i]? =some v/\aC G h P x v
 | [],_,_,_,_,e=>by simp at e
 | y::ys,_,0,x,r,e=>by
  refine cy r fun v r' h1 O=>?_;simp at e;subst e;exact (ai v rfl h1)
 | y::ys,_,i+1,x,r,e=>by
  refine cy r fun v r' O h2=>?_
  simpa using au.get h2 (by simpa using e)
theorem au.get':∀{xs:List V} {vs:List Value} {i:Nat} {v:Value},au G h P xs vs->vs[i]? =some v->∃x,xs[i]? =some x/\aC G h P x v
 | [],_,_,_,r,e=>by rw [show _=[] from r] at e;simp at e
 | y::ys,_,0,v,r,e=>by
  refine cu r fun v' r' pF h1 O=>?_;subst pF;simp at e;subst e;exact (ai y rfl h1)
 | y::ys,_,i+1,v,r,e=>by
  refine cu r fun v' r' lu O h2=>?_;subst lu
  simpa using au.get' h2 (by simpa using e)
theorem au.append:∀{xs ys:List V} {vs us:List Value},au G h P xs vs->au G h P ys us->au G h P (xs++ys) (vs++us)
 | [],ys,vs,us,r,q=>by refine ab (show vs=[] from r) ?_;exact q
 | x::xs,ys,vs,us,r,q=>by
  refine cy r fun v r' h1 h2=>?_;exact (bA v (r'++us) rfl h1 (au.append h2 q))
theorem au.one {x:V}{v:Value}(r:aC G h P x v):au G h P [x] [v]:=(bA v [] rfl r rfl)
theorem au.take:∀{xs:List V} {vs:List Value} (n:Nat),au G h P xs vs->au G h P (xs.take n) (vs.take n)
 | [],vs,n,r=>by refine ab (show vs=[] from r) ?_;simp;rfl
 | x::xs,vs,0,r=>by simp;rfl
 | x::xs,vs,n+1,r=>by
  refine cy r fun v r' h1 h2=>?_;exact (bA v (r'.take n) rfl h1 (au.take n h2))
theorem au.drop:∀{xs:List V} {vs:List Value} (n:Nat),au G h P xs vs->au G h P (xs.drop n) (vs.drop n)
 | [],vs,n,r=>by refine ab (show vs=[] from r) ?_;simp;rfl
 | x::xs,vs,0,r=>r
 | x::xs,vs,n+1,r=>by
  refine cy r fun v r' h1 h2=>?_
  simpa using au.drop n h2
theorem au.mW:∀{xs ys:List V} {vs:List Value},au G h P (xs++ys) vs->∃a b,vs=a++b/\au G h P xs a/\au G h P ys b
 | [],ys,vs,r=>(bA [] vs rfl rfl r)
 | x::xs,ys,vs,r=>by
  refine cy r fun v r' h1 h2=>?_;refine cy (au.mW h2) fun a b h3 h4=>?_;exact (bA (v::a) b rfl (bA v a rfl h1 h3) h4)
theorem aP.keys:∀{xs:List (SK × V)} {vs:List (SK × Value)},aP G h P xs vs->vs.map (·.1)=xs.map (·.1)
 | [],_,r=>by refine ab (show _=[] from r) ?_;rfl
 | (k,x)::xs,_,r=>by
  refine cy r fun v r' O h2=>?_;simp only [UJ,aP.keys h2]
theorem aP.append:∀{xs ys:List (SK × V)} {vs us:List (SK × Value)},aP G h P xs vs->aP G h P ys us->aP G h P (xs++ys) (vs++us)
 | [],ys,vs,us,r,q=>by refine ab (show vs=[] from r) ?_;exact q
 | (k,x)::xs,ys,vs,us,r,q=>by
  refine cy r fun v r' h1 h2=>?_;exact (bA v (r'++us) rfl h1 (aP.append h2 q))
end
noncomputable def Pf (H:AH)(a:Addr):Prop:=H a=none/\G.h0.get? a=none/\¬G.own a
noncomputable def jR (h:Heap)(a:Addr)(xs:List (List Int × Addr × Value)):Prop:=h.DictOfH (YT (XQ G.prog G.w)) a xs
noncomputable def cb (h:Heap)(P:Addr->Prop):List (List Int × V)->List (List Int × Addr × Value)->Prop
 | [],vs=>vs=[]
 | (k,x)::xs,vs=>∃a v r,vs=(k,a,v)::r/\aC G h P x v/\cb h P xs r
noncomputable def fK (h:Heap)(H:AH)(a:Addr):bG->Prop
 | .list l=>∃aj,h.PlainList a aj.toArray/\au G h (Pf G H) l aj
 | .dict es=>∃kvs,DictAt G h a kvs/\aP G h (Pf G H) es kvs
 | .aO es=>∃xs,jR G h a xs/\(∀x∈xs,Pf G H x.2.1\/∃o,G.h0.get? x.2.1=some o)/\cb G h (Pf G H) es xs
 | .inst c dx fs=>∃dp od es n,H dx=some (.own a)/\h.get? a=some (YM (G.ca c) dx)/\h.get? dx=some od/\od.cls=.type "dict"/\od.data=.dict es n/\es.size<=fs.length/\(∀x,Yk x od=some (dp.lookup x))/\hG G h (Pf G H) fs dp
 | .own _=>∃od,h.get? a=some od/\od.cls=.type "dict"
 | .tab fresh=>a=G.dW/\∃ps,h.get? a=some (aae ps)/\(fresh=true->ps= #[])
 | .jK lo n c=>∃b t u v,IsRange h a lo b c t u v/\YH lo b c=true/\XH lo b c=(n:Int)
 | .sE l=>∃L aj,h.get? a=some (revObj L ((aj.length:Int) - 1))/\Pf G H L/\h.PlainList L aj.toArray/\au G h (Pf G H) l aj
theorem fK.get {h:Heap}{H:AH}{a:Addr}{o:bG}:fK G h H a o->∃ob,h.get? a=some ob:=by
 intro r
 cases o with
 | list l=>refine ah r fun aj sd O=>?_;obtain ⟨n,hl⟩:=sd;exact ⟨_,hl⟩
 | dict es=>refine ah r fun kvs hd O=>?_;refine ah (jy hd) fun o ho hx=>?_;exact ⟨o,ho⟩
 | aO es=>refine ah r fun xs hd O=>?_;refine mN hd fun o O O ho hx O=>?_;exact ⟨o,ho⟩
 | inst c dx fs=>refine G6 r fun dp od es n O ha O=>?_;exact ⟨_,ha⟩
 | own _=>refine ah r fun od ho hc=>?_;exact ⟨_,ho⟩
 | tab f=>obtain ⟨_,bN⟩:=r;refine ah bN fun ps ho O=>?_;exact ⟨_,ho⟩
 | jK lo n c=>refine o5 r fun b t u v ho O=>?_;exact ⟨_,ho⟩
 | sE l=>refine dg r fun O ps ho O=>?_;exact ⟨_,ho⟩
structure ba (H:AH)(n:Nat)(s:Xm):Prop where
 base:s={G.s0 with heap:=s.heap,toks:=s.toks}
 size:n<=s.heap.objs.size
 objs:∀a o,H a=some o->fK G s.heap H a o
 glob:∀b o,G.h0.get? b=some o->s.heap.get? b=some o
 lo:∀a,H a≠none->G.h0.get? a=none/\¬G.own a
 own:∀a,G.own a->a<s.heap.objs.size/\G.h0.get? a=none/\H a=none
structure cz (H:AH)(h:Heap)(H':AH)(h':Heap):Prop where
 keep:∀b o,h.get? b=some o->H b=none->h'.get? b=some o
 u9:∀b,H' b≠none->H b≠none\/h.objs.size<=b
 size:h.objs.size<=h'.objs.size
theorem cz.refl (H:AH)(h:Heap):cz H h H h:=⟨fun O O e O=>e,fun O e=>.inl e,TJ _⟩
theorem cz.old {H H':AH}{h h':Heap}(S:cz H h H' h'){b:Addr}{o:Obj}(e:h.get? b=some o)(hb:H b=none):H' b=none:=by
 cases q:H' b with
 | none=>rfl
 | some _=>
  rcases S.u9 b (by refine ab q ?_;simp) with x | x
  ·exact absurd hb x
  ·exact absurd (Xr e) (Ux.mpr x)
theorem cz.trans {H H' Li:AH}{h h' Mz:Heap}(S:cz H h H' h')(T:cz H' h' Li Mz):cz H h Li Mz:=
 ⟨fun b o e hb=>T.keep b o (S.keep b o e hb) (S.old e hb),fun b e=>by
  rcases T.u9 b e with x | x
  ·exact S.u9 b x
  ·exact .inr (TF S.size x),TF S.size T.size⟩
variable {G}
theorem ba.kept {H H':AH}{n:Nat}{s:Xm}{h':Heap}(R:ba G H n s)(S:cz H s.heap H' h'):fc G s.heap (Pf G H) h' (Pf G H'):=by
 refine ⟨fun a o e hc=>?_,fun a o e hp=>S.keep a o e hp.1,fun a o e hp=>⟨S.old e hp.1,hp.2⟩⟩;refine S.keep a o e ?_
 cases q:H a with
 | none=>rfl
 | some ob=>
  obtain ⟨o',e'⟩:=hc;rw [(R.lo a (by refine ab q ?_;simp)).1] at e';injection e'
theorem ba.rel {H H':AH}{n:Nat}{s:Xm}{h':Heap}(R:ba G H n s)(S:cz H s.heap H' h'){x:V}{v:Value}(r:aC G s.heap (Pf G H) x v):aC G h' (Pf G H') x v:=aC.kept (R.kept S) x r
theorem ba.jd {H H':AH}{n:Nat}{s:Xm}{h':Heap}(R:ba G H n s)(S:cz H s.heap H' h'){x:List V}{v:List Value}(r:au G s.heap (Pf G H) x v):au G h' (Pf G H') x v:=au.kept (R.kept S) x r
noncomputable def aA.bo (G:aA)(F:Addr->Prop):aA:={G with own:=fun a=>G.own a\/F a}
section
variable {F:Addr->Prop}{h:Heap}{P:Addr->Prop}
mutual
theorem aC.bo:∀(x:V) {v:Value},aC (G.bo F) h P x v↔aC G h P x v
 | .none,_=>Iff.rfl
 | .bool _,_=>Iff.rfl
 | .sk _,_=>Iff.rfl
 | .ref _,_=>Iff.rfl
 | .tup l,v=>by
  constructor <;> rintro ⟨a,aj,e,p,ht,r⟩
  ·exact (cD a aj e p ht ((au.bo l).mp r))
  ·exact (cD a aj e p ht ((au.bo l).mpr r))
 | .ag l,v=>by
  constructor <;> rintro ⟨a,aj,e,p,ht,r⟩
  ·exact (cD a aj e p ht ((au.bo l).mp r))
  ·exact (cD a aj e p ht ((au.bo l).mpr r))
 | .az a es,v=>by
  constructor <;> rintro ⟨e,p,kvs,hd,r⟩
  ·exact ⟨e,p,ai kvs hd ((aP.bo es).mp r)⟩
  ·exact ⟨e,p,ai kvs hd ((aP.bo es).mpr r)⟩
 | .cU c fs,v=>by
  constructor <;> rintro ⟨a,dx,dp,od,e,pa,pd,ha,hd,hl,r⟩
  ·exact (sJ a dx dp od e pa pd ha hd hl ((hG.bo fs).mp r))
  ·exact (sJ a dx dp od e pa pd ha hd hl ((hG.bo fs).mpr r))
theorem au.bo:∀(xs:List V) {vs:List Value},au (G.bo F) h P xs vs↔au G h P xs vs
 | [],_=>Iff.rfl
 | x::xs,_=>by
  constructor <;> rintro ⟨v,r',e,h1,h2⟩
  ·exact (bA v r' e ((aC.bo x).mp h1) ((au.bo xs).mp h2))
  ·exact (bA v r' e ((aC.bo x).mpr h1) ((au.bo xs).mpr h2))
theorem aP.bo:∀(xs:List (SK × V)) {vs:List (SK × Value)},aP (G.bo F) h P xs vs↔aP G h P xs vs
 | [],_=>Iff.rfl
 | (k,x)::xs,_=>by
  constructor <;> rintro ⟨v,r',e,h1,h2⟩
  ·exact (bA v r' e ((aC.bo x).mp h1) ((aP.bo xs).mp h2))
  ·exact (bA v r' e ((aC.bo x).mpr h1) ((aP.bo xs).mpr h2))
theorem hG.bo:∀(xs:List (Str × V)) {vs:List (Str × Value)},hG (G.bo F) h P xs vs↔hG G h P xs vs
 | [],_=>Iff.rfl
 | (k,x)::xs,_=>by
  constructor <;> rintro ⟨v,r',e,h1,h2⟩
  ·exact (bA v r' e ((aC.bo x).mp h1) ((hG.bo xs).mp h2))
  ·exact (bA v r' e ((aC.bo x).mpr h1) ((hG.bo xs).mpr h2))
end
theorem cb.bo:∀{xs:List (List Int × V)} {vs:List (List Int × Addr × Value)},cb (G.bo F) h P xs vs↔cb G h P xs vs
 | [],_=>Iff.rfl
 | (k,x)::xs,_=>by
  constructor <;> rintro ⟨a,v,r',e,h1,h2⟩
  ·exact (lW a v r' e ((aC.bo x).mp h1) (cb.bo.mp h2))
  ·exact (lW a v r' e ((aC.bo x).mpr h1) (cb.bo.mpr h2))
theorem cb.kept {h h':Heap}{P P':Addr->Prop}(K:fc G h P h' P'):∀{es:List (List Int × V)} {xs:List (List Int × Addr × Value)},cb G h P es xs->cb G h' P' es xs
 | [],_,r=>r
 | (k,x)::es,_,r=>by
  refine mN r fun aa v r' e h1 h2=>?_;exact (lW aa v r' e (aC.kept K _ h1) (cb.kept K h2))
theorem jR.kept {h h':Heap}{P P':Addr->Prop}(K:fc G h P h' P'){a:Addr}{xs:List (List Int × Addr × Value)}(hd:jR G h a xs)(ht:∀x∈xs,P x.2.1\/∃o,G.h0.get? x.2.1=some o)(hk:∀o,h.get? a=some o->h'.get? a=some o):jR G h' a xs/\∀x∈xs,P' x.2.1\/∃o,G.h0.get? x.2.1=some o:=by
 refine Lf hd fun o es' ep h1 h2 h3 h4 h5 h6=>?_;refine ⟨Hf o es' ep (hk _ h1) h2 h3 h4 (fun x hx=>?_) h6,fun x hx=>?_⟩
 ·refine kK (h5 x hx) fun ok aj kk g1 g2 g3 g4=>?_;refine (o8 ok aj kk ?_ g2 g3 g4);rcases ht x hx with p | p
  ·exact K.mv _ _ g1 p
  ·exact K.tup _ _ g1 p
 ·refine kK (h5 x hx) fun ok aj kk g1 g2 g3 g4=>?_;exact (ht x hx).imp (K.pp _ _ g1) id
theorem fK.kept {h h':Heap}{H:AH}{P:AH}(K:fc G h (Pf G H) h' (Pf G P)){a:Addr}{o:bG}(r:fK G h H a o)(hk:∀b o,(b=a\/H b=some (.own a))->h.get? b=some o->h'.get? b=some o)(hO:∀b,H b=some (.own a)->P b=some (.own a)):fK G h' P a o:=by
 cases o with
 | list l=>refine ah r fun aj Tg r=>?_;obtain ⟨k,hl⟩:=Tg;exact (ai aj ⟨k,hk a _ (.inl rfl) hl⟩ (au.kept K _ r))
 | dict es=>refine ah r fun kvs hd r=>?_;exact (ai kvs (kU hd fun o e=>hk a _ (.inl rfl) e) (aP.kept K _ r))
 | aO es=>
  refine bE r fun xs hd ht r=>?_;obtain ⟨hd,ht⟩:=hd.kept K ht fun o e=>hk a _ (.inl rfl) e;exact (bW xs hd ht (cb.kept K r))
 | inst c dx fs=>
  refine qS r fun dp od es k h1 h2 h3 h4 h5 h6 h7 r=>?_;exact (uY dp od es k (hO _ h1) (hk a _ (.inl rfl) h2) (hk dx _ (.inr h1) h3) h4 h5 h6 h7 (hG.kept K _ r))
 | own a0=>refine ah r fun od h1 h2=>?_;exact (ai od (hk a _ (.inl rfl) h1) h2)
 | tab f=>obtain ⟨h1,bN⟩:=r;refine ah bN fun ps h2 h3=>?_;exact ⟨h1,ai ps (hk a _ (.inl rfl) h2) h3⟩
 | jK lo n c=>refine o5 r fun b t u v h1 h2=>?_;exact (Dq b t u v (hk a _ (.inl rfl) h1) h2)
 | sE l=>refine cn r fun L aj h1 h2 Th r=>?_;obtain ⟨nn,h3⟩:=Th;exact (cD L aj (hk a _ (.inl rfl) h1) (K.pp _ _ h3 h2) ⟨nn,K.mv _ _ h3 h2⟩ (au.kept K _ r))
theorem fK.bo {h:Heap}{H:AH}(hP:∀a,Pf (G.bo F) H a->Pf G H a){a:Addr}{o:bG}(r:fK (G.bo F) h H a o):fK G h H a o:=by
 have K:fc G h (Pf (G.bo F) H) h (Pf G H):=⟨fun O O e O=>e,fun O O e O=>e,fun O O O=>hP _⟩
 cases o with
 | list l=>refine ah r fun aj hl r=>?_;exact (ai aj hl (au.kept K _ ((au.bo _).mp r)))
 | dict es=>refine ah r fun kvs hd r=>?_;exact (ai kvs hd (aP.kept K _ ((aP.bo _).mp r)))
 | aO es=>refine bE r fun xs hd ht r=>?_;exact (bW xs hd (fun x hx=>(ht x hx).imp (hP _) id) (cb.kept K (cb.bo.mp r)))
 | inst c dx fs=>refine qS r fun dp od es k h1 h2 h3 h4 h5 h6 h7 r=>?_;exact (uY dp od es k h1 h2 h3 h4 h5 h6 h7 (hG.kept K _ ((hG.bo _).mp r)))
 | own a0=>exact r
 | tab f=>exact r
 | jK lo n c=>exact r
 | sE l=>refine cn r fun L aj h1 h2 h3 r=>?_;exact (cD L aj h1 (hP _ h2) h3 (au.kept K _ ((au.bo _).mp r)))
theorem fK.toF {h h':Heap}{H:AH}(K:fc G h (Pf G H) h' (Pf (G.bo F) H))(hk:∀b o,h.get? b=some o->h'.get? b=some o){a:Addr}{o:bG}(r:fK G h H a o):fK (G.bo F) h' H a o:=by
 cases o with
 | list l=>refine ah r fun aj CP r=>?_;obtain ⟨k,hl⟩:=CP;exact (ai aj ⟨k,hk _ _ hl⟩ ((au.bo _).mpr (au.kept K _ r)))
 | dict es=>refine ah r fun kvs hd r=>?_;exact (ai kvs (kU hd fun o e=>hk _ _ e) ((aP.bo _).mpr (aP.kept K _ r)))
 | aO es=>
  refine bE r fun xs hd ht r=>?_;obtain ⟨hd,ht⟩:=hd.kept K ht fun o e=>hk _ _ e;exact (bW xs hd ht (cb.bo.mpr (cb.kept K r)))
 | inst c dx fs=>refine qS r fun dp od es k h1 h2 h3 h4 h5 h6 h7 r=>?_;exact (uY dp od es k h1 (hk _ _ h2) (hk _ _ h3) h4 h5 h6 h7 ((hG.bo _).mpr (hG.kept K _ r)))
 | own a0=>refine ah r fun od h1 h2=>?_;exact (ai od (hk _ _ h1) h2)
 | tab f=>obtain ⟨h1,bN⟩:=r;refine ah bN fun ps h2 h3=>?_;exact ⟨h1,ai ps (hk _ _ h2) h3⟩
 | jK lo n c=>refine o5 r fun b t u v h1 h2=>?_;exact (Dq b t u v (hk _ _ h1) h2)
 | sE l=>refine cn r fun L aj h1 h2 Ti r=>?_;obtain ⟨nn,h3⟩:=Ti;exact (cD L aj (hk _ _ h1) (K.pp _ _ h3 h2) ⟨nn,K.mv _ _ h3 h2⟩ ((au.bo _).mpr (au.kept K _ r)))
end
end
set_option genSizeOf false
set_option genInjectivity false
inductive BN where
 | len | min | max | abs | int | str | bytes | bool | list | dict | tuple | sorted | reversed | range | lE
 deriving DecidableEq
noncomputable def BN.base:BN->BN | .lE=>.dict | b=>b
inductive MN where
 | append | pop | extend | get | count | pk | fn (f:Nat)
noncomputable def MN.str:MN->Str
 | .append=>"append"
 | .pop=>"pop"
 | .extend=>"extend"
 | .get=>"get"
 | .count=>"count"
 | .pk=>"pop"
 | .fn f=>(([(43,"fetch"),(44,"get"),(45,"add"),(46,"numbers"),(47,"told"),(49,"note"),(50,"is_new"),(51,"visit"),(52,"take_pairs"),(53,"hold_limits")]:List (Nat × Str)).lookup f).getD ""
inductive GN where
 | fn (i:Nat)
 | cls (c:Nat)
 | pB (i:Int)
 | bi (b:BN)
 deriving DecidableEq
noncomputable def sX:Nat->Nat | 7=>5 | c=>c
noncomputable def GN.isOk:GN->Bool | .cls _=>true | .bi _=>true | _=>false
structure cw where
 names:List (Str × XI)
 vars:List Str
 q8:Nat:=0
inductive IM where
 | pl | jK | rev
inductive X where
 | none
 | bool (b:Bool)
 | int (i:Int)
 | str (s:Str)
 | var (i:Nat)
 | md (i:Int)
 | bin (op:YN) (a b:X)
 | neg (a:X)
 | not (a:X)
 | cmp (op:CmpOp) (a b:X)
 | pf (a:X) (op:CmpOp) (b:X) (y6:CmpOp) (c:X)
 | gx (op:BoolOp) (xs:List X)
 | ite (c t e:X)
 | list (xs:List X)
 | cR (xs:List X)
 | tup (xs:List X)
 | dict (ks vs:List X)
 | jo
 | aO
 | sub (a i:X)
 | pH (a lo hi:X)
 | attr (a:X) (f:Str)
 | call (f:Nat) (args:List X)
 | new (c:Nat) (args:List X)
 | bi (b:BN) (args:List X)
 | fu (a:X) (g:GN)
 | lS (a:X)
 | bx (a:X) (m:MN) (args:List X)
 | lc (k:Nat) (fT cC:X) (im:IM) (dn ifs:List X)
 | dc (k:Nat) (key val cC:X) (im:IM) (dn ifs:List X)
 | mv (a:X)
open Mine.Internal renaming X→aav
inductive St where
 | bad
 | asg (t:X) (e:X)
 | pe (i k:Nat) (fT cC:X) (im:IM) (dn ifs:List X)
 | ex (e:X)
 | ite (c:X) (t e:List St)
 | wh (c:X) (b:List St)
 | fr (t:X) (im:IM) (dn:List X) (b:List St)
 | ret (e:X)
 | pG
 | Ko (b:List St)
 | fN (i:Nat)
 | dG
noncomputable def HZ:List (String × GN):=
 [("kind_of",.fn 0),("told_plain",.fn 1),("told",.fn 2),("told_objects",.fn 2),("key_object",.fn 3),("key_of",.fn 4),("node_of",.fn 5),("row_of",.fn 6),("node_pairs",.fn 7),("node_limits",.fn 8),("longer_way",.fn 9),
 ("tree_pairs",.fn 10),("first_at_least",.fn 11),("kid_for",.fn 12),("tree_find",.fn 13),("tree_span",.fn 14),("even_parts",.fn 15),("leaf_node",.fn 16),("inner_node",.fn 17),("as_root",.fn 18),("tree_built",.fn 19),
 ("own_pairs",.fn 20),("own_ends",.fn 21),("put_below",.fn 22),("tree_put",.fn 23),("dropped_below",.fn 24),("tree_dropped",.fn 25),("tree_laid",.fn 26),("tree_gathered",.fn 27),("tree_faults",.fn 28),
 ("_law_jar",.fn 29),("_law_next",.fn 30),("_law_key",.fn 31),("_law_rows",.fn 32),("_law_levels",.fn 33),("_law_nodes",.fn 34),("_law_fresh",.fn 35),("_law_deed",.fn 36),("_law_reads",.fn 37),("_law_laid_stays",.fn 38),("law",.fn 39),
 ("Decimal",.cls 0),("Name",.cls 1),("String",.cls 2),("Stream",.cls 3),("Reference",.cls 4),("Shelf",.cls 5),("TreeLook",.cls 6),
 ("MOST_HOPS",.pB 30),("MOST_DEEP",.pB 40),("MOST_PLACES",.pB 16),
 ("len",.bi .len),("min",.bi .min),("max",.bi .max),("abs",.bi .abs),("int",.bi .int),("str",.bi .str),("bytes",.bi .bytes),("bool",.bi .bool),("list",.bi .list),("dict",.bi .dict),("tuple",.bi .tuple),
 ("sorted",.bi .sorted),("reversed",.bi .reversed),("range",.bi .range)]
noncomputable def fF:List (Str × GN):=HZ.map fun p=>(XD p.1,p.2)
noncomputable def j3 (x:Str):Option GN:=fF.lookup x
noncomputable def ur (sc:Scope)(q8:Nat:=0):cw:=⟨sc.names,(sc.names.filter fun p=>p.2== .local || p.2== .cell).map (·.1),q8⟩
noncomputable def rI (sc:Scope):List Str:=(sc.names.filter fun p=>p.2== .local).map (·.1)
noncomputable def bj (σ:cw)(sc:Scope):cw:=⟨sc.names,σ.vars.map (fun x=>if sc.names.lookup x==some .free then x else ("..":Str))++rI sc,0⟩
noncomputable def i0:Option XI->Bool
 | some .local | some .cell | some .free=>true
 | _=>false
noncomputable def eL (sc:Scope):Bool:=sc.kind== .function&&sc.names.all (fun y=>y.2 != .cell)&&sc.names.all (fun y=>y.2 != .local || sc.names.lookup y.1==some .local)
noncomputable def cX (σ σ':cw):Bool:=σ'.names.all (fun p=>p.2 != .free || (σ.names.lookup p.1==some .cell&&σ'.names.lookup p.1==some .free))&&σ'.names.lookup ("..":Str)==none&&σ'.q8 != 19
noncomputable def cw.stores (σ:cw)(i:Nat):Bool:=match σ.vars[i]? with
 | some x=>σ.names.lookup x==some .local || σ.names.lookup x==some .cell
 | none=>false
noncomputable def eC (σ:cw)(x:Str):Option GN:=if x==("__debug__":Str) then none else if σ.names.lookup x==some .globalImplicit then j3 x else none
theorem dt {P M:Prop}[d:Decidable P]{f:P->Bool}(h:(if q:P then f q else false)=true)(k:∀q,f q=true->M):M:=by cases d with | isTrue q=>exact k q h | isFalse q=>exact bf h
section
variable {e:Expr}{M:Expr->Prop}
noncomputable def lq (e:Expr)(k:Const->Nat->Pos->Bool):Bool:=if h:e.ctorIdx=19 then YU (motive_1:=fun O=>Bool) e h k else false
theorem gd {k:Const->Nat->Pos->Bool}(h:lq e k=true)(c:∀a b d,k a b d=true->M (.Constant a b d)):M e:=dt h fun q h=>YU (motive_1:=fun e=>∀q:e.ctorIdx=19,YU (motive_1:=fun O=>Bool) e q k=true->M e) e q (fun a b d O h=>c a b d h) q h
noncomputable def gg (e:Expr)(k:Str->Pos->Bool):Bool:=if h:e.ctorIdx=23 then ZG (motive_1:=fun O=>Bool) e h k else false
theorem eE {k:Str->Pos->Bool}(h:gg e k=true)(c:∀a b,k a b=true->M (.Name a b)):M e:=dt h fun q h=>ZG (motive_1:=fun e=>∀q:e.ctorIdx=23,ZG (motive_1:=fun O=>Bool) e q k=true->M e) e q (fun a b O h=>c a b h) q h
noncomputable def GZ (e:Expr)(k:BoolOp->List Expr->Pos->Bool):Bool:=if h:e.ctorIdx=0 then Y9 (motive_1:=fun O=>Bool) e h k else false
theorem Cb {k:BoolOp->List Expr->Pos->Bool}(h:GZ e k=true)(c:∀a b d,k a b d=true->M (.BoolOp a b d)):M e:=dt h fun q h=>Y9 (motive_1:=fun e=>∀q:e.ctorIdx=0,Y9 (motive_1:=fun O=>Bool) e q k=true->M e) e q (fun a b d O h=>c a b d h) q h
noncomputable def N7 (e:Expr)(k:Expr->YN->Expr->Pos->Bool):Bool:=if h:e.ctorIdx=2 then Zp (motive_1:=fun O=>Bool) e h k else false
theorem E1 {k:Expr->YN->Expr->Pos->Bool}(h:N7 e k=true)(c:∀a b d f,k a b d f=true->M (.BinOp a b d f)):M e:=dt h fun q h=>Zp (motive_1:=fun e=>∀q:e.ctorIdx=2,Zp (motive_1:=fun O=>Bool) e q k=true->M e) e q (fun a b d f O h=>c a b d f h) q h
noncomputable def RL (e:Expr)(k:UnaryOp->Expr->Pos->Bool):Bool:=if h:e.ctorIdx=3 then Y2 (motive_1:=fun O=>Bool) e h k else false
theorem Cg {k:UnaryOp->Expr->Pos->Bool}(h:RL e k=true)(c:∀a b d,k a b d=true->M (.UnaryOp a b d)):M e:=dt h fun q h=>Y2 (motive_1:=fun e=>∀q:e.ctorIdx=3,Y2 (motive_1:=fun O=>Bool) e q k=true->M e) e q (fun a b d O h=>c a b d h) q h
noncomputable def oIf (e:Expr)(k:Expr->Expr->Expr->Pos->Bool):Bool:=if h:e.ctorIdx=5 then Zq (motive_1:=fun O=>Bool) e h k else false
theorem Js {k:Expr->Expr->Expr->Pos->Bool}(h:oIf e k=true)(c:∀a b d f,k a b d f=true->M (.IfExp a b d f)):M e:=dt h fun q h=>Zq (motive_1:=fun e=>∀q:e.ctorIdx=5,Zq (motive_1:=fun O=>Bool) e q k=true->M e) e q (fun a b d f O h=>c a b d f h) q h
noncomputable def xA (e:Expr)(k:List (Option Expr)->List Expr->Pos->Bool):Bool:=if h:e.ctorIdx=6 then ZH (motive_1:=fun O=>Bool) e h k else false
theorem uc {k:List (Option Expr)->List Expr->Pos->Bool}(h:xA e k=true)(c:∀a b d,k a b d=true->M (.Dict a b d)):M e:=dt h fun q h=>ZH (motive_1:=fun e=>∀q:e.ctorIdx=6,ZH (motive_1:=fun O=>Bool) e q k=true->M e) e q (fun a b d O h=>c a b d h) q h
noncomputable def Ce (e:Expr)(k:List Expr->Pos->Bool):Bool:=if h:e.ctorIdx=24 then ZI (motive_1:=fun O=>Bool) e h k else false
theorem ud {k:List Expr->Pos->Bool}(h:Ce e k=true)(c:∀a b,k a b=true->M (.List a b)):M e:=dt h fun q h=>ZI (motive_1:=fun e=>∀q:e.ctorIdx=24,ZI (motive_1:=fun O=>Bool) e q k=true->M e) e q (fun a b O h=>c a b h) q h
noncomputable def E7 (e:Expr)(k:List Expr->Nat->Pos->Bool):Bool:=if h:e.ctorIdx=25 then Zr (motive_1:=fun O=>Bool) e h k else false
theorem xC {k:List Expr->Nat->Pos->Bool}(h:E7 e k=true)(c:∀a b d,k a b d=true->M (.Tuple a b d)):M e:=dt h fun q h=>Zr (motive_1:=fun e=>∀q:e.ctorIdx=25,Zr (motive_1:=fun O=>Bool) e q k=true->M e) e q (fun a b d O h=>c a b d h) q h
noncomputable def Jo (e:Expr)(k:Expr->List CmpOp->List Expr->Pos->Bool):Bool:=if h:e.ctorIdx=15 then Y3 (motive_1:=fun O=>Bool) e h k else false
theorem xy {k:Expr->List CmpOp->List Expr->Pos->Bool}(h:Jo e k=true)(c:∀a b d f,k a b d f=true->M (.Compare a b d f)):M e:=dt h fun q h=>Y3 (motive_1:=fun e=>∀q:e.ctorIdx=15,Y3 (motive_1:=fun O=>Bool) e q k=true->M e) e q (fun a b d f O h=>c a b d f h) q h
noncomputable def Ca (e:Expr)(k:Expr->Str->Pos->Bool):Bool:=if h:e.ctorIdx=20 then YI (motive_1:=fun O=>Bool) e h k else false
theorem ub {k:Expr->Str->Pos->Bool}(h:Ca e k=true)(c:∀a b d,k a b d=true->M (.Attribute a b d)):M e:=dt h fun q h=>YI (motive_1:=fun e=>∀q:e.ctorIdx=20,YI (motive_1:=fun O=>Bool) e q k=true->M e) e q (fun a b d O h=>c a b d h) q h
noncomputable def E4 (e:Expr)(k:Expr->Expr->Pos->Bool):Bool:=if h:e.ctorIdx=21 then YJ (motive_1:=fun O=>Bool) e h k else false
theorem rR {k:Expr->Expr->Pos->Bool}(h:E4 e k=true)(c:∀a b d,k a b d=true->M (.Subscript a b d)):M e:=dt h fun q h=>YJ (motive_1:=fun e=>∀q:e.ctorIdx=21,YJ (motive_1:=fun O=>Bool) e q k=true->M e) e q (fun a b d O h=>c a b d h) q h
noncomputable def Cf (e:Expr)(k:Option Expr->Option Expr->Option Expr->Pos->Bool):Bool:=if h:e.ctorIdx=26 then Zs (motive_1:=fun O=>Bool) e h k else false
theorem y5 {k:Option Expr->Option Expr->Option Expr->Pos->Bool}(h:Cf e k=true)(c:∀a b d f,k a b d f=true->M (.Slice a b d f)):M e:=dt h fun q h=>Zs (motive_1:=fun e=>∀q:e.ctorIdx=26,Zs (motive_1:=fun O=>Bool) e q k=true->M e) e q (fun a b d f O h=>c a b d f h) q h
noncomputable def j9 (e:Expr)(k:Expr->List Expr->List Keyword->Pos->Bool):Bool:=if h:e.ctorIdx=16 then ZJ (motive_1:=fun O=>Bool) e h k else false
theorem kc {k:Expr->List Expr->List Keyword->Pos->Bool}(h:j9 e k=true)(c:∀a b d f,k a b d f=true->M (.Call a b d f)):M e:=dt h fun q h=>ZJ (motive_1:=fun e=>∀q:e.ctorIdx=16,ZJ (motive_1:=fun O=>Bool) e q k=true->M e) e q (fun a b d f O h=>c a b d f h) q h
noncomputable def RJ (e:Expr)(k:Expr->List Yg->Scope->Pos->Bool):Bool:=if h:e.ctorIdx=8 then YV (motive_1:=fun O=>Bool) e h k else false
theorem Cd {k:Expr->List Yg->Scope->Pos->Bool}(h:RJ e k=true)(c:∀a b d f,k a b d f=true->M (.ListComp a b d f)):M e:=dt h fun q h=>YV (motive_1:=fun e=>∀q:e.ctorIdx=8,YV (motive_1:=fun O=>Bool) e q k=true->M e) e q (fun a b d f O h=>c a b d f h) q h
noncomputable def oDC (e:Expr)(k:Expr->Expr->List Yg->Scope->Pos->Bool):Bool:=if h:e.ctorIdx=10 then YW (motive_1:=fun O=>Bool) e h k else false
theorem Jp {k:Expr->Expr->List Yg->Scope->Pos->Bool}(h:oDC e k=true)(c:∀a b d f g,k a b d f g=true->M (.DictComp a b d f g)):M e:=dt h fun q h=>YW (motive_1:=fun e=>∀q:e.ctorIdx=10,YW (motive_1:=fun O=>Bool) e q k=true->M e) e q (fun a b d f g O h=>c a b d f g h) q h
noncomputable def N9 (e:Expr)(k:X9->Expr->Scope->Pos->Bool):Bool:=if h:e.ctorIdx=4 then Za (motive_1:=fun O=>Bool) e h k else false
theorem E3 {k:X9->Expr->Scope->Pos->Bool}(h:N9 e k=true)(c:∀a b d f,k a b d f=true->M (.Lambda a b d f)):M e:=dt h fun q h=>Za (motive_1:=fun e=>∀q:e.ctorIdx=4,Za (motive_1:=fun O=>Bool) e q k=true->M e) e q (fun a b d f O h=>c a b d f h) q h
end
noncomputable def Gb:Const->Bool | .none=>true | _=>false
noncomputable def Ga (b:Bool):Const->Bool | .bool c=>b==c | _=>false
noncomputable def HB (b:Int):Const->Bool | .int c=>b==c | _=>false
noncomputable def Me (b:Str):Const->Bool | .str c=>b==c | _=>false
theorem An {c:Const}(h:Gb c=true):c=.none:=by cases c <;> first | rfl | exact absurd h T4
theorem Am {b:Bool}{c:Const}(h:Ga b c=true):c=.bool b:=by cases c <;> first | (exact bk (eq_of_beq h) rfl;done) | exact absurd h T4
theorem wM {b:Int}{c:Const}(h:HB b c=true):c=.int b:=by cases c <;> first | (exact bk (eq_of_beq h) rfl;done) | exact absurd h T4
theorem DL {b:Str}{c:Const}(h:Me b c=true):c=.str b:=by cases c <;> first | (exact bk (eq_of_beq h) rfl;done) | exact absurd h T4
noncomputable def iE (e:Expr):Bool:=[8,9,10].contains e.ctorIdx
noncomputable def oY (e:Expr):Bool:=[19,23,0,2,3,5,6,24,25,15,20,21,16,8,10].contains e.ctorIdx
noncomputable def GX (e:Expr):Bool:= !(V8 e.ctorIdx 26)
noncomputable def plE (e:Expr):Bool:=[23,20,21,16].contains e.ctorIdx
noncomputable def Kh (t v:Expr):Bool:= !(V8 t.ctorIdx 24)&& !(E7 t fun ts O O=>E7 v fun vs O O=>vs.all (constantsAlone 8) || ts.length==3)
noncomputable def X.I0 (x:X):Bool:=[8,9,10,11].contains x.ctorIdx
noncomputable def ic (x:X)(e:Expr):Bool:=x.I0 || plE e
noncomputable def X.isNone (x:X):Bool:=V8 x.ctorIdx 0
noncomputable def X.vr:X->Nat | .var i=>i | _=>0
noncomputable def X.isVar (x:X):Bool:=V8 x.ctorIdx 4
noncomputable def wL (e:Expr):Bool:=[23,20,21].contains e.ctorIdx
noncomputable def vV:List Nat->Bool
 | []=>true
 | x::xs=> !xs.contains x&&vV xs
noncomputable def gr (σ:cw):X->Bool
 | .var i=>σ.stores i
 | .sub _ _ | .attr _ _=>true
 | .tup xs=>xs.all (fun x=>x.isVar&&σ.stores x.vr)&&vV (xs.map X.vr)
 | _=>false
noncomputable def l1 {α:Type}(l:List α)(k:α->Bool):Bool:=match l with | [a]=>k a | _=>false
noncomputable def l2 {α:Type}(l:List α)(k:α->α->Bool):Bool:=match l with | [a,b]=>k a b | _=>false
noncomputable def GL {α:Type}(l:List α)(k:α->List α->Bool):Bool:=match l with | a::b=>k a b | _=>false
noncomputable def so {α:Type}(l:Option α)(k:α->Bool):Bool:=match l with | some a=>k a | none=>false
section
variable {α:Type}{M:List α->Prop}{l:List α}
theorem oe {k:α->List α->Bool}(h:GL l k=true)(c:∀a r,k a r=true->M (a::r)):M l:=by
 cases l with
 | nil=>exact bf h
 | cons a l=>exact c a l h
theorem gO (h:l.isEmpty=true)(c:M []):M l:=by cases l with | nil=>exact c | cons=>exact bf h
theorem lG {k:α->Bool}(h:l1 l k=true)(c:∀a,k a=true->M [a]):M l:=by
 cases l with
 | nil=>exact bf h
 | cons a l=>cases l with
  | nil=>exact c a h
  | cons=>exact bf h
theorem BK {k:α->α->Bool}(h:l2 l k=true)(c:∀a b,k a b=true->M [a,b]):M l:=by
 cases l with
 | nil=>exact bf h
 | cons a l=>cases l with
  | nil=>exact bf h
  | cons b l=>cases l with
   | nil=>exact c a b h
   | cons=>exact bf h
theorem xK {o:Option α}{M:Option α->Prop}{k:α->Bool}(h:so o k=true)(c:∀a,k a=true->M (some a)):M o:=by
 cases o with
 | none=>exact bf h
 | some a=>exact c a h
theorem xt {o:Option α}{M:Option α->Prop}(h:o.isNone=true)(c:M none):M o:=by cases o with | none=>exact c | some=>exact bf h
end
theorem eD {α:Type}{l:List α}(h:l.isEmpty=true):l=[]:=by cases l with | nil=>rfl | cons=>exact absurd h T4
theorem af {a b:Bool}(h:(a&&b)=true):a=true/\b=true:=by cases a <;> cases b <;> first | exact ⟨rfl,rfl⟩ | exact absurd h T4
noncomputable def LN (ar:X9):Bool:=ar.posonlyargs.isEmpty&&(ar.vararg.isNone&&(ar.kwonlyargs.isEmpty&&(ar.kw_defaults.isEmpty&&(ar.kwarg.isNone&&(ar.defaults.isEmpty&&l1 ar.args fun x=>x.annotation.isNone&&x.arg==("pair":Str))))))
noncomputable def L7 (body:Expr):Bool:=E4 body fun a i O=>gg a (fun s O=>s==("pair":Str))&&lq i fun c O O=>HB 0 c
noncomputable def iF (ar:X9)(body:Expr)(sc:Scope):Bool:=LN ar&&(L7 body&&(sc.names==[(("pair":Str),.local)]&&(sc.kind== .function&&(!sc.isGenerator&& !sc.isCoroutine))))
noncomputable def IM.bn:IM->BN
 | .rev=>.reversed
 | _=>.range
noncomputable def Aq (im:IM)(σ:cw)(e:Expr)(k:List Expr->Bool):Bool:=match im with
 | .pl=>k [e]
 | im=>j9 e fun f es ks O=>ks.isEmpty&&(gg f (fun x O=>eC σ x==some (.bi im.bn))&&k es)
mutual
noncomputable def fM:X->cw->Expr->Bool
 | .none,_,e=>lq e fun c O O=>Gb c
 | .bool b,_,e=>lq e fun c O O=>Ga b c
 | .int b,_,e=>lq e fun c O O=>HB b c
 | .str b,_,e=>lq e fun c O O=>Me b c
 | .var i,σ,e=>gg e fun x O=> !(x==("__debug__":Str))&&(i0 (σ.names.lookup x)&&(σ.vars.findIdx? (· ==x)==some i&& !(x==("__classdict__":Str))))
 | .md i,σ,e=>gg e fun x O=>eC σ x==some (.pB i)
 | .bin op a b,σ,e=>N7 e fun l o r O=>op==o&&(fM a σ l&&fM b σ r)
 | .neg a,σ,e=>RL e fun o x O=>o== .USub&&fM a σ x
 | .not a,σ,e=>RL e fun o x O=>o== .Not&&(ic a x&&fM a σ x)
 | .cmp op a b,σ,e=>Jo e fun l os rs O=>fM a σ l&&(l1 os (fun o=>op==o)&&l1 rs fun eb=>oY eb&&fM b σ eb)
 | .pf a op b y6 c,σ,e=>Jo e fun l os rs O=>fM a σ l&&(l2 os (fun o o2=>op==o&&y6==o2)&&l2 rs fun eb ec=>oY ec&&(fM b σ eb&&fM c σ ec))
 | .gx op xs,σ,e=>GZ e fun o es O=>op==o&&pU xs σ es
 | .ite c t f,σ,e=>oIf e fun ec et ef O=>ic c ec&&(fM c σ ec&&(fM t σ et&&fM f σ ef))
 | .list xs,σ,e=>Ce e fun es O=>decide (xs.length<=1000)&&gF xs σ es
 | .cR xs,σ,e=>Ce e fun es O=>decide (xs.length<=1000)&&gF xs σ es
 | .tup xs,σ,e=>E7 e fun es O O=>decide (xs.length<=1000)&&gF xs σ es
 | .dict ks vs,σ,e=>xA e fun xk xv O=>decide (ks.length<=15)&&(ks.length==vs.length&&(Ar ks σ xk&&gF vs σ xv))
 | .jo,_,e=>xA e fun ks vs O=>ks.isEmpty&&vs.isEmpty
 | .aO,_,e=>xA e fun ks vs O=>ks.isEmpty&&vs.isEmpty
 | .sub a i,σ,e=>E4 e fun x y O=>GX y&&(fM a σ x&&fM i σ y)
 | .pH a lo hi,σ,e=>E4 e fun x y O=>fM a σ x&&Cf y fun l r s O=>s.isNone&&((match l with | some e=>fM lo σ e | none=>lo.isNone)&&(match r with | some e=>fM hi σ e | none=>hi.isNone))
 | .attr a f,σ,e=>Ca e fun x g O=>f==g&&(wL x&&fM a σ x)
 | .call f xs,σ,e=>j9 e fun g es ks O=>ks.isEmpty&&(gg g (fun s O=>eC σ s==some (.fn f))&&gF xs σ es)
 | .new f xs,σ,e=>j9 e fun g es ks O=>ks.isEmpty&&(gg g (fun s O=>eC σ s==some (.cls (sX f)))&&gF xs σ es)
 | .bi f xs,σ,e=>j9 e fun g es ks O=>ks.isEmpty&&(gg g (fun s O=>eC σ s==some (.bi f.base))&&gF xs σ es)
 | .fu a g,σ,e=>j9 e fun f es ks O=>ks.isEmpty&&(gg f (fun s O=>s==("isinstance":Str)&&σ.names.lookup ("isinstance":Str)==some .globalImplicit)&&
   l2 es fun ea eg=>gg eg (fun s O=>eC σ s==some g&&g.isOk)&&(oY ea&&fM a σ ea))
 | .lS a,σ,e=>σ.q8==19&&j9 e fun f es ks O=>gg f (fun s O=>eC σ s==some (.bi .sorted))&&(l1 ks (fun k=>so k.arg (fun x=>x==("key":Str))&&N9 k.value fun l b sc O=>iF l b sc)&&l1 es fun ea=>oY ea&&fM a σ ea)
 | .bx o m xs,σ,e=>j9 e fun f es ks p=>ks.isEmpty&&(decide (xs.length<20)&&(Ca f (fun x g q=>m.str==g&&(q.endLine==p.line&&(wL x&&fM o σ x)))&&gF xs σ es))
 | .lc k fT cC im dn ifs,σ,e=>RJ e fun x gs sc O=>eL sc&&(cX σ (bj σ sc)&&(k==(rI sc).length&&(gr (bj σ sc) cC&&(fM fT (bj σ sc) x&&
   l1 gs fun g=>g.is_async==0&&(oY g.iter&&(fM cC (bj σ sc) g.target&&(Aq im σ g.iter (fun es=>gF dn σ es)&&pU ifs (bj σ sc) g.ifs)))))))
 | .dc k key val cC im dn ifs,σ,e=>oDC e fun x y gs sc O=>eL sc&&(cX σ (bj σ sc)&&(k==(rI sc).length&&(gr (bj σ sc) cC&&(fM key (bj σ sc) x&&(fM val (bj σ sc) y&&
   l1 gs fun g=>g.is_async==0&&(oY g.iter&&(fM cC (bj σ sc) g.target&&(Aq im σ g.iter (fun es=>gF dn σ es)&&pU ifs (bj σ sc) g.ifs))))))))
 | .mv a,σ,e=>fM a σ e
noncomputable def pU:List X->cw->List Expr->Bool
 | [],_,es=>es.isEmpty
 | x::xs,σ,es=>GL es fun e es=>ic x e&&(fM x σ e&&pU xs σ es)
noncomputable def gF:List X->cw->List Expr->Bool
 | [],_,es=>es.isEmpty
 | x::xs,σ,es=>GL es fun e es=>oY e&&(fM x σ e&&gF xs σ es)
noncomputable def Ar:List X->cw->List (Option Expr)->Bool
 | [],_,es=>es.isEmpty
 | x::xs,σ,es=>GL es fun o es=>so o (fun e=>oY e&&fM x σ e)&&Ar xs σ es
end
noncomputable abbrev cI (σ:cw)(e:Expr)(x:X):Prop:=fM x σ e=true
noncomputable abbrev d3 (σ:cw)(es:List Expr)(xs:List X):Prop:=gF xs σ es=true
noncomputable abbrev mS (σ:cw)(es:List Expr)(xs:List X):Prop:=pU xs σ es=true
section
variable {σ:cw}{e:Expr}{es:List Expr}{M:Expr->Prop}{Ml:List Expr->Prop}
theorem d6 {x:Str}{g:GN}(h:eC σ x=some g):(x==("__debug__":Str))=false/\σ.names.lookup x=some .globalImplicit/\j3 x=some g:=by
 unfold eC at h
 split at h
 ·injection h
 ·rename_i hd
  split at h
  ·rename_i hg;exact ⟨by simpa using hd,by simpa using hg,h⟩
  ·injection h
theorem not_true {b:Bool}(h:(!b)=true):b=false:=by cases b with | false=>rfl | true=>injection h
@[elab_as_elim] theorem Bu (h:cI σ e .none)(m:∀k p,M (.Constant .none k p)):M e:=gd h fun c k p h=>An h▸m k p
@[elab_as_elim] theorem Bo {b}(h:cI σ e (.bool b))(m:∀k p,M (.Constant (.bool b) k p)):M e:=gd h fun c k p h=>Am h▸m k p
@[elab_as_elim] theorem Ex {b}(h:cI σ e (.int b))(m:∀k p,M (.Constant (.int b) k p)):M e:=gd h fun c k p h=>wM h▸m k p
@[elab_as_elim] theorem EF {b}(h:cI σ e (.str b))(m:∀k p,M (.Constant (.str b) k p)):M e:=gd h fun c k p h=>DL h▸m k p
@[elab_as_elim] theorem gL {i}(h:cI σ e (.var i))(m:∀x p,(x==("__debug__":Str))=false->i0 (σ.names.lookup x)=true->σ.vars.findIdx? (· ==x)=some i->(x==("__classdict__":Str))=false->M (.Name x p)):M e:=
 eE h fun x p h=>m x p (not_true (af h).1) (af (af h).2).1 (eq_of_beq (af (af (af h).2).2).1) (not_true (af (af (af h).2).2).2)
@[elab_as_elim] theorem Bs {i}(h:cI σ e (.md i))(m:∀x p,eC σ x=some (.pB i)->M (.Name x p)):M e:=eE h fun x p h=>m x p (eq_of_beq h)
@[elab_as_elim] theorem Ew {op a b}(h:cI σ e (.bin op a b))(m:∀ea eb p,cI σ ea a->cI σ eb b->M (.BinOp ea op eb p)):M e:=
 E1 h fun l o r p h=>eq_of_beq (af h).1▸m l r p (af (af h).2).1 (af (af h).2).2
@[elab_as_elim] theorem EA {a}(h:cI σ e (.neg a))(m:∀ea p,cI σ ea a->M (.UnaryOp .USub ea p)):M e:=
 Cg h fun o x p h=>(eq_of_beq (af h).1).symm▸m x p (af h).2
@[elab_as_elim] theorem EC {a}(h:cI σ e (.not a))(m:∀ea p,ic a ea=true->cI σ ea a->M (.UnaryOp .Not ea p)):M e:=
 Cg h fun o x p h=>(eq_of_beq (af h).1).symm▸m x p (af (af h).2).1 (af (af h).2).2
@[elab_as_elim] theorem w9 {op a b}(h:cI σ e (.cmp op a b))(m:∀ea eb p,oY eb=true->cI σ ea a->cI σ eb b->M (.Compare ea [op] [eb] p)):M e:=
 xy h fun l os rs p h=>lG (M:=fun os=>M (.Compare l os rs p)) (af (af h).2).1 fun o ho=>lG (M:=fun rs=>M (.Compare l [o] rs p)) (af (af h).2).2 fun r hr=>eq_of_beq ho▸m l r p (af hr).1 (af h).1 (af hr).2
@[elab_as_elim] theorem Bq {a op b y6 c}(h:cI σ e (.pf a op b y6 c))(m:∀ea eb ec p,oY ec=true->cI σ ea a->cI σ eb b->cI σ ec c->M (.Compare ea [op,y6] [eb,ec] p)):M e:=
 xy h fun l os rs p h=>BK (M:=fun os=>M (.Compare l os rs p)) (af (af h).2).1 fun o o2 ho=>BK (M:=fun rs=>M (.Compare l [o,o2] rs p)) (af (af h).2).2 fun eb ec hr=>
  eq_of_beq (af ho).1▸eq_of_beq (af ho).2▸m l eb ec p (af hr).1 (af h).1 (af (af hr).2).1 (af (af hr).2).2
@[elab_as_elim] theorem rA {op xs}(h:cI σ e (.gx op xs))(m:∀es p,mS σ es xs->M (.BoolOp op es p)):M e:=Cb h fun o es p h=>eq_of_beq (af h).1▸m es p (af h).2
@[elab_as_elim] theorem Ez {c t f}(h:cI σ e (.ite c t f))(m:∀ec et ef p,ic c ec=true->cI σ ec c->cI σ et t->cI σ ef f->M (.IfExp ec et ef p)):M e:=
 Js h fun ec et ef p h=>m ec et ef p (af h).1 (af (af h).2).1 (af (af (af h).2).2).1 (af (af (af h).2).2).2
@[elab_as_elim] theorem tP {xs}(h:cI σ e (.list xs))(m:∀es p,xs.length<=1000->d3 σ es xs->M (.List es p)):M e:=ud h fun es p h=>m es p (of_decide_eq_true (af h).1) (af h).2
@[elab_as_elim] theorem qq {xs}(h:cI σ e (.cR xs))(m:∀es p,xs.length<=1000->d3 σ es xs->M (.List es p)):M e:=ud h fun es p h=>m es p (of_decide_eq_true (af h).1) (af h).2
@[elab_as_elim] theorem mC {xs}(h:cI σ e (.tup xs))(m:∀es k p,xs.length<=1000->d3 σ es xs->M (.Tuple es k p)):M e:=xC h fun es k p h=>m es k p (of_decide_eq_true (af h).1) (af h).2
theorem HS {xs}(h:cI σ e (.tup xs)):∃es k p,e=.Tuple es k p/\xs.length<=1000/\d3 σ es xs:=xC (M:=fun e=>∃es k p,e=.Tuple es k p/\xs.length<=1000/\d3 σ es xs) h fun es k p h=>⟨es,k,p,rfl,of_decide_eq_true (af h).1,(af h).2⟩
theorem BR {xs}(h:cI σ e (.list xs)):xs.length<=1000:=tP h fun O O h O=>h
theorem yY {xs}(h:cI σ e (.cR xs)):xs.length<=1000:=qq h fun O O h O=>h
theorem EP {xs}(h:cI σ e (.tup xs)):xs.length<=1000:=mC h fun O O O h O=>h
theorem u7 {xs:List X}:∀{os:List (Option Expr)},Ar xs σ os=true->∃es,os=es.map some/\d3 σ es xs:=by
 induction xs with
 | nil=>exact fun h=>⟨[],eD h,rfl⟩
 | cons x xs ih=>exact fun h=>oe (M:=fun os=>∃es,os=es.map some/\d3 σ es (x::xs)) h fun o r g=>xK (M:=fun o=>∃es,o::r=es.map some/\d3 σ es (x::xs)) (af g).1 fun e g3=>(ih (af g).2).elim fun es g4=>
   ⟨e::es,congrArg (some e:: ·) g4.1,by show (oY e&&(fM x σ e&&gF xs σ es))=true;refine ab ((af g3).1) (ab ((af g3).2) (ab (show gF xs σ es=true from g4.2) ?_));rfl⟩
@[elab_as_elim] theorem nS {xk xv}(h:cI σ e (.dict xk xv))(m:∀ks vs p,xk.length<=15->xk.length=xv.length->d3 σ ks xk->d3 σ vs xv->M (.Dict (Xd some ks) vs p)):M e:=
 uc h fun os vs p h=>(u7 (af (af (af h).2).2).1).elim fun ks hk=>hk.1▸m ks vs p (of_decide_eq_true (af h).1) (eq_of_beq (af (af h).2).1) hk.2 (af (af (af h).2).2).2
theorem tY {xk xv}(h:cI σ e (.dict xk xv)):xk.length<=15/\xk.length=xv.length:=nS h fun O O O h1 h2 O O=>⟨h1,h2⟩
@[elab_as_elim] theorem qp (h:cI σ e .jo)(m:∀p,M (.Dict [] [] p)):M e:=uc h fun os vs p h=>gO (M:=fun os=>M (.Dict os vs p)) (af h).1 (gO (M:=fun vs=>M (.Dict [] vs p)) (af h).2 (m p))
@[elab_as_elim] theorem yP (h:cI σ e .aO)(m:∀p,M (.Dict [] [] p)):M e:=qp (σ:=σ) h m
@[elab_as_elim] theorem mB {a i}(h:cI σ e (.sub a i))(m:∀ea ei p,GX ei=true->cI σ ea a->cI σ ei i->M (.Subscript ea ei p)):M e:=
 rR h fun x y p h=>m x y p (af h).1 (af (af h).2).1 (af (af h).2).2
noncomputable def Qe (σ:cw)(o:Option Expr)(x:X):Prop:=(match o with | some e=>fM x σ e | none=>x.isNone)=true
@[elab_as_elim] theorem EE {a lo hi}(h:cI σ e (.pH a lo hi))(m:∀ea l r p q,cI σ ea a->Qe σ l lo->Qe σ r hi->M (.Subscript ea (.Slice l r none p) q)):M e:=
 rR h fun x y q h=>y5 (M:=fun y=>M (.Subscript x y q)) (af h).2 fun l r s p g=>xt (M:=fun s=>M (.Subscript x (.Slice l r s p) q)) (af g).1 (m x l r p q (af h).1 (af (af g).2).1 (af (af g).2).2)
@[elab_as_elim] theorem nR {a f}(h:cI σ e (.attr a f))(m:∀ea p,wL ea=true->cI σ ea a->M (.Attribute ea f p)):M e:=
 ub h fun x g p h=>eq_of_beq (af h).1▸m x p (af (af h).2).1 (af (af h).2).2
theorem lb {g:GN}{xs:List X}(h:(j9 e fun f es ks O=>ks.isEmpty&&(gg f (fun s O=>eC σ s==some g)&&gF xs σ es))=true)(m:∀x p es q,eC σ x=some g->d3 σ es xs->M (.Call (.Name x p) es [] q)):M e:=
 kc h fun f es ks q h=>gO (M:=fun ks=>M (.Call f es ks q)) (af h).1 (eE (M:=fun f=>M (.Call f es [] q)) (af (af h).2).1 fun x p hx=>m x p es q (eq_of_beq hx) (af (af h).2).2)
@[elab_as_elim] theorem Bp {f xs}(h:cI σ e (.call f xs))(m:∀x p es q,eC σ x=some (.fn f)->d3 σ es xs->M (.Call (.Name x p) es [] q)):M e:=lb h m
@[elab_as_elim] theorem EB {f xs}(h:cI σ e (.new f xs))(m:∀x p es q,eC σ x=some (.cls (sX f))->d3 σ es xs->M (.Call (.Name x p) es [] q)):M e:=lb h m
@[elab_as_elim] theorem IU {f xs}(h:cI σ e (.bi f xs))(m:∀x p es q,eC σ x=some (.bi f.base)->d3 σ es xs->M (.Call (.Name x p) es [] q)):M e:=lb h m
@[elab_as_elim] theorem Ey {a g}(h:cI σ e (.fu a g))(m:∀y ea p p' q,σ.names.lookup ("isinstance":Str)=some .globalImplicit->eC σ y=some g->g.isOk=true->oY ea=true->cI σ ea a->M (.Call (.Name ("isinstance":Str) p) [ea,.Name y p'] [] q)):M e:=
 kc h fun f es ks q h=>gO (M:=fun ks=>M (.Call f es ks q)) (af h).1 (eE (M:=fun f=>M (.Call f es [] q)) (af (af h).2).1 fun x p hx=>BK (M:=fun es=>M (.Call (.Name x p) es [] q)) (af (af h).2).2 fun ea eg he=>
  eE (M:=fun eg=>M (.Call (.Name x p) [ea,eg] [] q)) (af he).1 fun y p' hy=>(eq_of_beq (af hx).1).symm▸m y ea p p' q (eq_of_beq (af hx).2) (eq_of_beq (af hy).1) (af hy).2 (af (af he).2).1 (af (af he).2).2)
@[elab_as_elim] theorem yO {a}(h:cI σ e (.lS a))(m:∀x ea GJ body sc p p' p'' q,eC σ x=some (.bi .sorted)->iF GJ body sc=true->oY ea=true->cI σ ea a->σ.q8=19->M (.Call (.Name x p) [ea] [⟨some ("key":Str),.Lambda GJ body sc p',p''⟩] q)):M e:=
 kc (af h).2 fun f es ks q g=>eE (M:=fun f=>M (.Call f es ks q)) (af g).1 fun x p hx=>lG (M:=fun ks=>M (.Call (.Name x p) es ks q)) (af (af g).2).1 fun kw hk=>lG (M:=fun es=>M (.Call (.Name x p) es [kw] q)) (af (af g).2).2 fun ea he=>by
  obtain ⟨ka,kv,kp⟩:=kw;exact xK (M:=fun ka=>M (.Call (.Name x p) [ea] [⟨ka,kv,kp⟩] q)) (af hk).1 fun kk me=>E3 (M:=fun kv=>M (.Call (.Name x p) [ea] [⟨some kk,kv,kp⟩] q)) (af hk).2 fun l b sc p' hl=>
   (eq_of_beq me).symm▸m x ea l b sc p p' kp q (eq_of_beq hx) hl (af he).1 (af he).2 (eq_of_beq (af h).1)
@[elab_as_elim] theorem Bt {o m' xs}(h:cI σ e (.bx o m' xs))(m:∀eo es p q,xs.length<20->(p.endLine==q.line)=true->wL eo=true->cI σ eo o->d3 σ es xs->M (.Call (.Attribute eo m'.str p) es [] q)):M e:=
 kc h fun f es ks q h=>gO (M:=fun ks=>M (.Call f es ks q)) (af h).1 (ub (M:=fun f=>M (.Call f es [] q)) (af (af (af h).2).2).1 fun x g p hx=>
  eq_of_beq (af hx).1▸m x es p q (of_decide_eq_true (af (af h).2).1) (af (af hx).2).1 (af (af (af hx).2).2).1 (af (af (af hx).2).2).2 (af (af (af h).2).2).2)
noncomputable abbrev Qd (σ:cw)(e:Expr)(im:IM)(dn:List X):Prop:=Aq im σ e (fun es=>gF dn σ es)=true
structure wC (σ:cw)(k:Nat)(cC:X)(im:IM)(dn ifs:List X)(et iT:Expr)(cZ:List Expr)(sc:Scope):Prop where
 ok:eL sc=true
 ck:cX σ (bj σ sc)=true
 len:k=(rI sc).length
 tg:gr (bj σ sc) cC=true
 it:oY iT=true
 tt:cI (bj σ sc) et cC
 ti:Qd σ iT im dn
 tf:mS (bj σ sc) cZ ifs
theorem Au {σ:cw}{k:Nat}{cC:X}{im:IM}{dn ifs:List X}{gs:List Yg}{sc:Scope}{b c d f:Bool}(hf:f=(l1 gs fun g=>g.is_async==0&&(oY g.iter&&(fM cC (bj σ sc) g.target&&(Aq im σ g.iter (fun es=>gF dn σ es)&&pU ifs (bj σ sc) g.ifs)))))
 (h1:eL sc=true) (h2:cX σ (bj σ sc)=true) (h3:(k==(rI sc).length)=true) (h4:gr (bj σ sc) cC=true) (h:f=true) {M:List Yg->Prop} (m:∀et iT cZ,wC σ k cC im dn ifs et iT cZ sc->M [⟨et,iT,cZ,0⟩]):M gs:=
 lG (hf▸h) fun g h=>by
  obtain ⟨et,iT,cZ,as⟩:=g;exact (eq_of_beq (af h).1:as=0)▸m et iT cZ ⟨h1,h2,eq_of_beq h3,h4,(af (af h).2).1,(af (af (af h).2).2).1,(af (af (af (af h).2).2).2).1,(af (af (af (af h).2).2).2).2⟩
@[elab_as_elim] theorem IY {k fT cC im dn ifs}(h:cI σ e (.lc k fT cC im dn ifs))(m:∀kX et iT cZ sc p,wC σ k cC im dn ifs et iT cZ sc->cI (bj σ sc) kX fT->M (.ListComp kX [⟨et,iT,cZ,0⟩] sc p)):M e:=
 Cd h fun x gs sc p h=>Au (b:=true) (c:=true) (d:=true) rfl (af h).1 (af (af h).2).1 (af (af (af h).2).2).1 (af (af (af (af h).2).2).2).1 (af (af (af (af (af h).2).2).2).2).2 (M:=fun gs=>M (.ListComp x gs sc p)) fun et iT cZ c=>m x et iT cZ sc p c (af (af (af (af (af h).2).2).2).2).1
@[elab_as_elim] theorem IV {k xk xv cC im dn ifs}(h:cI σ e (.dc k xk xv cC im dn ifs))(m:∀ek ev et iT cZ sc p,wC σ k cC im dn ifs et iT cZ sc->cI (bj σ sc) ek xk->cI (bj σ sc) ev xv->M (.DictComp ek ev [⟨et,iT,cZ,0⟩] sc p)):M e:=
 Jp h fun x y gs sc p h=>Au (b:=true) (c:=true) (d:=true) rfl (af h).1 (af (af h).2).1 (af (af (af h).2).2).1 (af (af (af (af h).2).2).2).1 (af (af (af (af (af (af h).2).2).2).2).2).2 (M:=fun gs=>M (.DictComp x y gs sc p)) fun et iT cZ c=>m x y et iT cZ sc p c (af (af (af (af (af h).2).2).2).2).1 (af (af (af (af (af (af h).2).2).2).2).2).1
theorem dN (h:d3 σ es []):es=[]:=eD h
@[elab_as_elim] theorem dm {x xs}(h:d3 σ es (x::xs))(m:∀e r,oY e=true->cI σ e x->d3 σ r xs->Ml (e::r)):Ml es:=oe h fun e r h=>m e r (af h).1 (af (af h).2).1 (af (af h).2).2
theorem j4 (h:mS σ es []):es=[]:=eD h
@[elab_as_elim] theorem e8 {x xs}(h:mS σ es (x::xs))(m:∀e r,ic x e=true->cI σ e x->mS σ r xs->Ml (e::r)):Ml es:=oe h fun e r h=>m e r (af h).1 (af (af h).2).1 (af (af h).2).2
end
section
variable {e:Stmt}{M:Stmt->Prop}
noncomputable def Jn (e:Stmt)(k:List Expr->Expr->Pos->Bool):Bool:=if h:e.ctorIdx=5 then Zb (motive_2:=fun O=>Bool) e h k else false
theorem xx {k:List Expr->Expr->Pos->Bool}(h:Jn e k=true)(c:∀a b d,k a b d=true->M (.Assign a b d)):M e:=dt h fun q h=>Zb (motive_2:=fun e=>∀q:e.ctorIdx=5,Zb (motive_2:=fun O=>Bool) e q k=true->M e) e q (fun a b d O h=>c a b d h) q h
noncomputable def oEx (e:Stmt)(k:Expr->Pos->Bool):Bool:=if h:e.ctorIdx=24 then ZK (motive_2:=fun O=>Bool) e h k else false
theorem Jq {k:Expr->Pos->Bool}(h:oEx e k=true)(c:∀a b,k a b=true->M (.Expr a b)):M e:=dt h fun q h=>ZK (motive_2:=fun e=>∀q:e.ctorIdx=24,ZK (motive_2:=fun O=>Bool) e q k=true->M e) e q (fun a b O h=>c a b h) q h
noncomputable def N8 (e:Stmt)(k:Expr->List Stmt->List Stmt->Pos->Bool):Bool:=if h:e.ctorIdx=12 then aaf (motive_2:=fun O=>Bool) e h k else false
theorem E2 {k:Expr->List Stmt->List Stmt->Pos->Bool}(h:N8 e k=true)(c:∀a b d f,k a b d f=true->M (.If a b d f)):M e:=dt h fun q h=>aaf (motive_2:=fun e=>∀q:e.ctorIdx=12,aaf (motive_2:=fun O=>Bool) e q k=true->M e) e q (fun a b d f O h=>c a b d f h) q h
noncomputable def oWh (e:Stmt)(k:Expr->List Stmt->List Stmt->Pos->Bool):Bool:=if h:e.ctorIdx=11 then Zt (motive_2:=fun O=>Bool) e h k else false
theorem Ju {k:Expr->List Stmt->List Stmt->Pos->Bool}(h:oWh e k=true)(c:∀a b d f,k a b d f=true->M (.While a b d f)):M e:=dt h fun q h=>Zt (motive_2:=fun e=>∀q:e.ctorIdx=11,Zt (motive_2:=fun O=>Bool) e q k=true->M e) e q (fun a b d f O h=>c a b d f h) q h
noncomputable def oFr (e:Stmt)(k:Expr->Expr->List Stmt->List Stmt->Pos->Bool):Bool:=if h:e.ctorIdx=9 then Z2 (motive_2:=fun O=>Bool) e h k else false
theorem Jr {k:Expr->Expr->List Stmt->List Stmt->Pos->Bool}(h:oFr e k=true)(c:∀a b d f g,k a b d f g=true->M (.For a b d f g)):M e:=dt h fun q h=>Z2 (motive_2:=fun e=>∀q:e.ctorIdx=9,Z2 (motive_2:=fun O=>Bool) e q k=true->M e) e q (fun a b d f g O h=>c a b d f g h) q h
noncomputable def Jt (e:Stmt)(k:Option Expr->Pos->Bool):Bool:=if h:e.ctorIdx=3 then Zc (motive_2:=fun O=>Bool) e h k else false
theorem xB {k:Option Expr->Pos->Bool}(h:Jt e k=true)(c:∀a b,k a b=true->M (.Return a b)):M e:=dt h fun q h=>Zc (motive_2:=fun e=>∀q:e.ctorIdx=3,Zc (motive_2:=fun O=>Bool) e q k=true->M e) e q (fun a b O h=>c a b h) q h
noncomputable def Oa (e:Stmt)(k:List Stmt->List ExceptHandler->List Stmt->List Stmt->Pos->Bool):Bool:=if h:e.ctorIdx=17 then Z3 (motive_2:=fun O=>Bool) e h k else false
theorem E6 {k:List Stmt->List ExceptHandler->List Stmt->List Stmt->Pos->Bool}(h:Oa e k=true)(c:∀a b d f g,k a b d f g=true->M (.Try a b d f g)):M e:=dt h fun q h=>Z3 (motive_2:=fun e=>∀q:e.ctorIdx=17,Z3 (motive_2:=fun O=>Bool) e q k=true->M e) e q (fun a b d f g O h=>c a b d f g h) q h
end
noncomputable def St.rB:St->Bool | .fN _=>true | .dG=>true | _=>false
noncomputable def OP (σ:cw):Bool:=(Un σ.vars.length).all fun i=>so σ.vars[i]? fun x=>i0 (σ.names.lookup x)&&σ.vars.findIdx? (· ==x)==some i
noncomputable def Mv (σ:cw):St->Bool | .dG=>OP σ | _=>true
noncomputable def X.isTup:X->Bool | .tup _=>true | _=>false
noncomputable def X.Jk:X->Bool | .tup _=>true | .sub _ _=>true | _=>false
mutual
noncomputable def DN:St->cw->Stmt->Bool
 | .bad,_,_=>true
 | .asg t e,σ,s=>Jn s fun ts ee O=>l1 ts fun te=>(!iE ee || t.Jk)&&(Kh te ee&&(gr σ t&&(fM t σ te&&fM e σ ee)))
 | .pe i k fT cC im dn ifs,σ,s=>Jn s fun ts ee O=>l1 ts fun te=>gg te fun x px=>RJ ee fun el gs sc q=>px.line==q.line&&(!(sc.names.any fun (n,k)=>n==x&&(k== .local || k== .cell))&&
   (σ.names.lookup x==some .local&&(σ.vars.findIdx? (· ==x)==some i&&fM (.lc k fT cC im dn ifs) σ (.ListComp el gs sc q))))
 | .ex e,σ,s=>oEx s fun x O=> !iE x&&fM e σ x
 | .ite c t e,σ,s=>N8 s fun ec et ee O=>ic c ec&&(fM c σ ec&&(hV t σ et&&hV e σ ee))
 | .wh c b,σ,s=>oWh s fun ec eb o O=>o.isEmpty&&(ic c ec&&(fM c σ ec&&hV b σ eb))
 | .fr t im dn b,σ,s=>oFr s fun et ee eb o O=>o.isEmpty&&(oY ee&&(gr σ t&&(fM t σ et&&(Aq im σ ee (fun es=>gF dn σ es)&&hV b σ eb))))
 | .ret e,σ,s=>Jt s fun o O=>so o fun x=>fM e σ x
 | .pG,_,s=>Jt s fun o O=>o.isNone
 | .Ko b,σ,s=>Oa s fun eb hs o f O=>GL hs (fun O O=>true)&&(o.isEmpty&&(f.isEmpty&&hV b σ eb))
 | .fN _,_,_=>false
 | .dG,_,_=>false
noncomputable def hV:List St->cw->List Stmt->Bool
 | [],_,ss=>ss.isEmpty
 | x::xs,σ,ss=>bif x.rB then Mv σ x&&hV xs σ ss else GL ss fun s r=>DN x σ s&&hV xs σ r
end
noncomputable abbrev zy (σ:cw)(s:Stmt)(x:St):Prop:=DN x σ s=true
noncomputable abbrev lX (σ:cw)(s:List Stmt)(x:List St):Prop:=hV x σ s=true
section
variable {σ:cw}{s:Stmt}{ss:List Stmt}{M:Stmt->Prop}{Ml:List Stmt->Prop}
@[elab_as_elim] theorem rz {t e}(h:zy σ s (.asg t e))(m:∀te ee p,(!iE ee || t.Jk)=true->Kh te ee=true->gr σ t=true->cI σ te t->cI σ ee e->M (.Assign [te] ee p)):M s:=
 xx h fun ts ee p h=>lG (M:=fun ts=>M (.Assign ts ee p)) h fun te h=>m te ee p (af h).1 (af (af h).2).1 (af (af (af h).2).2).1 (af (af (af (af h).2).2).2).1 (af (af (af (af h).2).2).2).2
theorem DD {t e}(h:zy σ s (.asg t e)):gr σ t=true:=rz h fun O O O O O h O O=>h
@[elab_as_elim] theorem Bn {i k fT cC im dn ifs}(h:zy σ s (.pe i k fT cC im dn ifs))(m:∀x kX et iT cZ sc p px q,wC σ k cC im dn ifs et iT cZ sc->cI (bj σ sc) kX fT->
 px.line=q.line->(sc.names.any fun (n,k)=>n==x&&(k== .local || k== .cell))=false->σ.names.lookup x=some .local->σ.vars.findIdx? (· ==x)=some i->M (.Assign [.Name x px] (.ListComp kX [⟨et,iT,cZ,0⟩] sc q) p)):M s:=
 xx h fun ts ee p h=>lG (M:=fun ts=>M (.Assign ts ee p)) h fun te h=>eE (M:=fun te=>M (.Assign [te] ee p)) h fun x px h=>Cd (M:=fun ee=>M (.Assign [.Name x px] ee p)) h fun el gs sc q h=>by
  have g:=(af (af (af (af h).2).2).2).2;exact Au (b:=true) (c:=true) (d:=true) rfl (af g).1 (af (af g).2).1 (af (af (af g).2).2).1 (af (af (af (af g).2).2).2).1 (af (af (af (af (af g).2).2).2).2).2 (M:=fun gs=>M (.Assign [.Name x px] (.ListComp el gs sc q) p)) fun et iT cZ c=>
   m x el et iT cZ sc p px q c (af (af (af (af (af g).2).2).2).2).1 (eq_of_beq (af h).1) (not_true (af (af h).2).1) (eq_of_beq (af (af (af h).2).2).1) (eq_of_beq (af (af (af (af h).2).2).2).1)
@[elab_as_elim] theorem IW {e}(h:zy σ s (.ex e))(m:∀ee p,iE ee=false->cI σ ee e->M (.Expr ee p)):M s:=Jq h fun x p h=>m x p (not_true (af h).1) (af h).2
@[elab_as_elim] theorem Bw {c t e}(h:zy σ s (.ite c t e))(m:∀ec et ee p,ic c ec=true->cI σ ec c->lX σ et t->lX σ ee e->M (.If ec et ee p)):M s:=
 E2 h fun ec et ee p h=>m ec et ee p (af h).1 (af (af h).2).1 (af (af (af h).2).2).1 (af (af (af h).2).2).2
@[elab_as_elim] theorem IZ {c b}(h:zy σ s (.wh c b))(m:∀ec eb p,ic c ec=true->cI σ ec c->lX σ eb b->M (.While ec eb [] p)):M s:=
 Ju h fun ec eb o p h=>gO (M:=fun o=>M (.While ec eb o p)) (af h).1 (m ec eb p (af (af h).2).1 (af (af (af h).2).2).1 (af (af (af h).2).2).2)
@[elab_as_elim] theorem IX {t im dn b}(h:zy σ s (.fr t im dn b))(m:∀et ee eb p,oY ee=true->gr σ t=true->cI σ et t->Qd σ ee im dn->lX σ eb b->M (.For et ee eb [] p)):M s:=
 Jr h fun et ee eb o p h=>gO (M:=fun o=>M (.For et ee eb o p)) (af h).1 (m et ee eb p (af (af h).2).1 (af (af (af h).2).2).1 (af (af (af (af h).2).2).2).1 (af (af (af (af (af h).2).2).2).2).1 (af (af (af (af (af h).2).2).2).2).2)
@[elab_as_elim] theorem ED {e}(h:zy σ s (.ret e))(m:∀ee p,cI σ ee e->M (.Return (some ee) p)):M s:=xB h fun o p h=>xK (M:=fun o=>M (.Return o p)) h fun ee h=>m ee p h
@[elab_as_elim] theorem Bv (h:zy σ s .pG)(m:∀p,M (.Return none p)):M s:=xB h fun o p h=>xt (M:=fun o=>M (.Return o p)) h (m p)
@[elab_as_elim] theorem EG {b}(h:zy σ s (.Ko b))(m:∀eb hd hs p,lX σ eb b->M (.Try eb (hd::hs) [] [] p)):M s:=
 E6 h fun eb hs o f p h=>oe (M:=fun hs=>M (.Try eb hs o f p)) (af h).1 fun hd hs O=>gO (M:=fun o=>M (.Try eb (hd::hs) o f p)) (af (af h).2).1 (gO (M:=fun f=>M (.Try eb (hd::hs) [] f p)) (af (af (af h).2).2).1 (m eb hd hs p (af (af (af h).2).2).2))
theorem tQ (h:lX σ ss []):ss=[]:=eD h
theorem CH {x xs}(h:lX σ ss (x::xs))(hx:x.rB=false):(GL ss fun s r=>DN x σ s&&hV xs σ r)=true:=by
 have h:(bif x.rB then Mv σ x&&hV xs σ ss else GL ss fun s r=>DN x σ s&&hV xs σ r)=true:=h;rwa [hx] at h
@[elab_as_elim] theorem qr {x xs}(h:lX σ ss (x::xs))(hx:x.rB=false)(m:∀s r,zy σ s x->lX σ r xs->Ml (s::r)):Ml ss:=oe (CH h hx) fun s r h=>m s r (af h).1 (af h).2
end
section
variable (G:aA)
structure cH (d:Nat)(A:Xv):Prop where
 hh:A.handled=none
 depth:A.depth+3*d+10<X2
 units:A.units+40*d+200<cLine
structure bQ (σ:cw)(env:Env):Prop where
 kind:env.scope.kind=.function
 loc:∀x,σ.names.lookup x=some .local->env.kindOf x=some .local
 Qr:∀x,(σ.names.lookup x=some .cell\/σ.names.lookup x=some .free)->(env.kindOf x=some .cell\/env.kindOf x=some .free)/\∃c,env.cells.lookup x=some c
 HD:∀x,σ.names.lookup x=some .cell->env.kindOf x=some .cell
 Kx:∀x,σ.names.lookup x=some .globalImplicit->env.kindOf x=some .globalImplicit
 globals:env.globals=XA
 builtins:env.builtins=XT
 apart:∀x y c e,(x,c)∈env.cells->(y,e)∈env.cells->x≠y->c≠e
 Cj:∀x c,(x,c)∈env.cells->c≠env.locals
 code:σ.q8=19->∃c,env.code=.ref c/\CodeHd G.h0 c G.dW
noncomputable def Holds (env:Env)(h:Heap)(x:Str)(v:Value):Prop:=
 (env.kindOf x=some .local/\∃m,h.Ns env.locals m/\m x=some v)\/
 ((env.kindOf x=some .cell\/env.kindOf x=some .free)/\∃c,env.cells.lookup x=some c/\h.IsCell c (some v))
noncomputable abbrev bt:=List (Option V)
structure df (σ:cw)(env:Env)(ρ:bt)(H:AH)(h:Heap):Prop where
 ns:∃m,h.Ns env.locals m
 vars:∀x i v,i0 (σ.names.lookup x)=true->σ.vars.findIdx? (· ==x)=some i->ρ[i]? =some (some v)->∃v',Holds env h x v'/\aC G h (Pf G H) v v'
 L:G.own env.locals
 cells:∀x c,(x,c)∈env.cells->G.own c/\∃v,h.IsCell c v
 len:ρ.length=σ.vars.length
noncomputable abbrev gC (H:AH)(n:Nat)(s:Xm)(Q:V->AH->Nat->Prop)(Q':Value->Xm->Prop):Prop:=
 ∀v H' n' v' s',Q v H' n'->aC G s'.heap (Pf G H') v v'->ba G H' n' s'->cz H s.heap H' s'.heap->n<=n'->Q' v' s'
noncomputable abbrev Ls (H:AH)(n:Nat)(s:Xm)(Q:AH->Nat->Prop)(Q':Unit->Xm->Prop):Prop:=
 ∀H' n' s',Q H' n'->ba G H' n' s'->cz H s.heap H' s'.heap->n<=n'->Q' () s'
noncomputable abbrev sM (H:AH)(n:Nat)(s:Xm)(Q:Bool->AH->Nat->Prop)(Q':Bool->Xm->Prop):Prop:=
 ∀b H' n' s',Q b H' n'->ba G H' n' s'->cz H s.heap H' s'.heap->n<=n'->Q' b s'
noncomputable abbrev zO (H:AH)(n:Nat)(s:Xm)(Q:List V->AH->Nat->Prop)(Q':List Value->Xm->Prop):Prop:=
 ∀v H' n' v' s',Q v H' n'->au G s'.heap (Pf G H') v v'->ba G H' n' s'->cz H s.heap H' s'.heap->n<=n'->Q' v' s'
noncomputable def cj (d:Nat)(vs:List V)(t:List Value->Sem Value)(H:AH)(n:Nat)(Q:V->AH->Nat->Prop):Prop:=
 ∀A s aD Q' E,cH d A->au G s.heap (Pf G H) vs aD->ba G H n s->gC G H n s Q Q'->wpAny (model G.prog G.w) A (t aD) Q' E s
noncomputable def Lx (d:Nat)(vs:List V)(t:List Value->Sem Unit)(H:AH)(n:Nat)(Q:AH->Nat->Prop):Prop:=
 ∀A s aD Q' E,cH d A->au G s.heap (Pf G H) vs aD->ba G H n s->Ls G H n s Q Q'->wpAny (model G.prog G.w) A (t aD) Q' E s
noncomputable def Qb (d:Nat)(vs:List V)(t:List Value->Sem Bool)(H:AH)(n:Nat)(Q:Bool->AH->Nat->Prop):Prop:=
 ∀A s aD Q' E,cH d A->au G s.heap (Pf G H) vs aD->ba G H n s->sM G H n s Q Q'->wpAny (model G.prog G.w) A (t aD) Q' E s
noncomputable def t1 {α:Type}[Inhabited α](f:Value->Sem α):List Value->Sem α
 | [a]=>f a
 | _=>.unsupported ""
noncomputable def t2 {α:Type}[Inhabited α](f:Value->Value->Sem α):List Value->Sem α
 | [a,b]=>f a b
 | _=>.unsupported ""
noncomputable def t3 {α:Type}[Inhabited α](f:Value->Value->Value->Sem α):List Value->Sem α
 | [a,b,c]=>f a b c
 | _=>.unsupported ""
noncomputable abbrev zu (d:Nat)(op:YN)(a b:V)(H:AH)(n:Nat)(Q:V->AH->Nat->Prop):Prop:=cj G d [a,b] (t2 (binaryOp op)) H n Q
noncomputable abbrev oU (d:Nat)(op:CmpOp)(a b:V)(H:AH)(n:Nat)(Q:V->AH->Nat->Prop):Prop:=cj G d [a,b] (t2 (Zo op)) H n Q
noncomputable abbrev zV (d:Nat)(a:V)(H:AH)(n:Nat)(Q:Bool->AH->Nat->Prop):Prop:=Qb G d [a] (t1 truthy) H n Q
noncomputable abbrev P6 (d:Nat)(a:V)(H:AH)(n:Nat)(Q:V->AH->Nat->Prop):Prop:=cj G d [a] (t1 (unaryOp .USub)) H n Q
noncomputable abbrev zT (d:Nat)(a i v:V)(H:AH)(n:Nat)(Q:AH->Nat->Prop):Prop:=Lx G d [a,i,v] (t3 setItem) H n Q
noncomputable def Lw (d:Nat)(f:Nat)(args:List V)(H:AH)(n:Nat)(Q:V->AH->Nat->Prop):Prop:=cj G d args (fun aD=>call (.ref (G.fa f)) aD) H n Q
noncomputable def aW (d:Nat)(f:Value)(args:List V)(H:AH)(n:Nat)(Q:V->AH->Nat->Prop):Prop:=cj G d args (fun aD=>call f aD) H n Q
noncomputable def bl (σ:cw)(d:Nat)(x:X)(ρ:bt)(H:AH)(n:Nat)(Q:V->AH->Nat->Prop):Prop:=
 ∀e env A s Q' E,cI σ e x->bQ G σ env->cH d A->df G σ env ρ H s.heap->ba G H n s->gC G H n s Q Q'->wpAny (model G.prog G.w) A (eval e env) Q' E s
noncomputable def sO (σ:cw)(d:Nat)(im:IM)(dn:List X)(ρ:bt)(H:AH)(n:Nat)(Q:V->AH->Nat->Prop):Prop:=
 ∀e env A s Q' E,Qd σ e im dn->bQ G σ env->cH d A->df G σ env ρ H s.heap->ba G H n s->gC G H n s Q Q'->wpAny (model G.prog G.w) A (eval e env) Q' E s
noncomputable def ik (σ:cw)(d:Nat)(x:X)(ρ:bt)(H:AH)(n:Nat)(Q:Bool->AH->Nat->Prop):Prop:=
 ∀e env A s Q' E,ic x e=true->cI σ e x->bQ G σ env->cH d A->df G σ env ρ H s.heap->ba G H n s->sM G H n s Q Q'->wpAny (model G.prog G.w) A (isTrue e env (eval e env)) Q' E s
noncomputable def eR (σ:cw)(d:Nat)(xs:List X)(ρ:bt)(H:AH)(n:Nat)(Q:List V->AH->Nat->Prop):Prop:=
 ∀es env A s p Q' E,d3 σ es xs->bQ G σ env->cH d A->df G σ env ρ H s.heap->ba G H n s->zO G H n s Q Q'->wpAny (model G.prog G.w) A (spliced (Zd p (Yl es env))) Q' E s
variable {G}
variable {σ:cw}{d:Nat}{ρ:bt}{H:AH}{n:Nat}
theorem df.step {env:Env}{H':AH}{s:Xm}{h':Heap}(F:df G σ env ρ H s.heap)(R:ba G H n s)(S:cz H s.heap H' h'):df G σ env ρ H' h':=by
 obtain ⟨⟨m,hm⟩,hv,hL,hc,IA⟩:=F;have N3:∀m,s.heap.Ns env.locals m->h'.Ns env.locals m:=fun m ⟨o,es,ep,ho,r⟩=>⟨o,es,ep,S.keep _ _ ho (R.own _ hL).2.2,r⟩;have Mf:∀x c v,(x,c)∈env.cells->s.heap.IsCell c v->h'.IsCell c v:=fun x c v hm ⟨o,ho,r⟩=>⟨o,S.keep _ _ ho (R.own _ (hc x c hm).1).2.2,r⟩;refine ⟨⟨m,N3 m hm⟩,fun x i v h1 h2 h3=>?_,hL,fun x c h=>?_,IA⟩
 ·refine ah (hv x i v h1 h2 h3) fun v' hh hr=>?_;refine (ai v' ?_ (R.rel S hr));rcases hh with ⟨hk,m,hm,e⟩ | ⟨hk,c,hl,tJ⟩
  ·exact .inl ⟨hk,ai m (N3 m hm) e⟩
  ·exact .inr ⟨hk,ai c hl (Mf x c _ (mem_of_lookup hl) tJ)⟩
 ·obtain ⟨h1,v,tJ⟩:=hc x c h;exact ⟨h1,v,Mf x c v h tJ⟩
theorem au.nil_inv {h:Heap}{P:Addr->Prop}{aD:List Value}(r:au G h P [] aD):aD=[]:=r
theorem au.cons_inv {h:Heap}{P:Addr->Prop}{x:V}{xs:List V}{aD:List Value}(r:au G h P (x::xs) aD):∃v r',aD=v::r'/\aC G h P x v/\au G h P xs r':=r
theorem bl.mono {x:X}{Q R:V->AH->Nat->Prop}(h:bl G σ d x ρ H n Q)(k:∀v H' n',Q v H' n'->R v H' n'):bl G σ d x ρ H n R:=
 fun e env A s Q' E ht he hr F Rp po=>h e env A s Q' E ht he hr F Rp fun v H' n' v' s' q=>po v H' n' v' s' (k _ _ _ q)
end
noncomputable def jT:BN->Value
 | .int=>.type "int"
 | .str=>.type "str"
 | .bytes=>.type "bytes"
 | .bool=>.type "bool"
 | .list=>.type "list"
 | .dict=>.type "dict"
 | .lE=>.type "dict"
 | .tuple=>.type "tuple"
 | .range=>.type "range"
 | .reversed=>.type "reversed"
 | .len=>.builtin "len"
 | .min=>.builtin "min"
 | .max=>.builtin "max"
 | .abs=>.builtin "abs"
 | .sorted=>.builtin "sorted"
structure eu (G:aA):Prop where
 rd:G.K.In G.h0
 Ao:∀c,G.ca (sX c)=G.ca c
 xr:G.h0.NoLimit
 FA:∃o,G.h0.get? Yc=some o
 glob:∃mg,G.h0.Ns XA mg/\(∀x i,j3 x=some (.fn i)->mg x=some (.ref (G.fa i)))/\(∀x c,j3 x=some (.cls c)->mg x=some (.ref (G.ca c)))/\
  (∀x i,j3 x=some (.pB i)->∃t,mg x=some (.int i t))/\(∀x b,j3 x=some (.bi b)->mg x=none)/\mg "isinstance"=none
 L0:∃mb,G.h0.Ns XT mb/\(∀x b,j3 x=some (.bi b)->mb x=some (jT b))/\mb "isinstance"=some (.builtin "isinstance")
 Qi:∃mg,G.h0.Ns XA mg/\G.h0.BuiltinsAt mg G.dW
 BH:∀x i,j3 x=some (.fn i)->Looks (model G.prog G.w) G.h0 (XO (.ref (G.fa i))) .frame
 BG:∀x i,j3 x=some (.cls i)->Looks (model G.prog G.w) G.h0 (XO (.ref (G.ca i))) .machine
theorem B4 {e:Expr}{op:CmpOp}(h:oY e=true):behindInMarks op e=false:=by
 cases e <;> first | rfl | exact absurd h T4
theorem iJ {e:Expr}(h:oY e=true)(env:Env)(fy:List Expr):Yl (e::fy) env=(false,eval e env)::Yl fy env:=by
 cases e <;> first | rfl | exact absurd h T4
theorem rN {e:Expr}(h:oY e=true)(env:Env)(v:Value):foldedSetIterable e env v=pure v:=by
 cases e <;> first | rfl | exact absurd h T4
section
variable {G:aA}{σ:cw}{d:Nat}{ρ:bt}{H:AH}{n:Nat}{Q:V->AH->Nat->Prop}
theorem HO (h:Q .none H n):bl G σ d .none ρ H n Q:=by
 intro e env A s Q' E ht he hr F R po;refine Bu ht fun k p=>?_;exact Xn (po _ _ _ .none s h rfl R (.refl _ _) (TJ _))
theorem HM {b:Bool}(h:Q (.bool b) H n):bl G σ d (.bool b) ρ H n Q:=by
 intro e env A s Q' E ht he hr F R po;refine Bo ht fun k p=>?_;exact Xn (po _ _ _ (.bool b) s h rfl R (.refl _ _) (TJ _))
theorem ba.toks {s:Xm}{t:Nat}(R:ba G H n s):ba G H n {s with toks:=t}:=
 ⟨by have:=R.base;exact ab this rfl,R.size,R.objs,R.glob,R.lo,R.own⟩
theorem Mm {i:Int}(h:Q (.int i) H n):bl G σ d (.int i) ρ H n Q:=by
 intro e env A s Q' E ht he hr F R po;refine Ex ht fun k p=>?_;exact wpAny_Constant_int (po _ _ _ _ _ h (beq_self_eq_true _) R.toks (.refl _ _) (TJ _))
theorem Gl {x:Str}(h:Q (.str x) H n):bl G σ d (.str x) ρ H n Q:=by
 intro e env A s Q' E ht he hr F R po;refine EF ht fun k p=>?_;show wpAny _ A (mkText x) _ _ _;exact aag (po _ _ _ _ _ h (beq_self_eq_true _) R.toks (.refl _ _) (TJ _))
theorem mm {M:Model}{A:Xv}{E:Value->Xm->Prop}{env:Env}{s:Xm}{x:Str}{v:Value}{Q:Value->Xm->Prop}(hk:env.scope.kind=.function)
 (h:Holds env s.heap x v) (q:Q v s) (yA:env.kindOf x=some .free->(x==("__classdict__":Str))=false):wpAny M A (loadName env x) Q E s:=by
 rcases h with ⟨hl,m,hm,hv⟩ | ⟨hl | hl,c,hc,hv⟩
 ·exact ZQ hk hl hm hv q
 ·exact wpAny_loadName_cell hk hl hc hv q
 ·exact wpAny_loadName_free hk hl hc hv q (yA hl)
theorem AG {i:Nat}{v:V}(hv:ρ[i]? =some (some v))(h:Q v H n):bl G σ d (.var i) ρ H n Q:=by
 intro e env A s Q' E ht he hr F R po;refine gL ht fun x p hd hk hi yA=>?_;refine ah (F.vars _ _ _ hk hi hv) fun v' hh Rm=>?_;exact wpAny_Name (mm he.kind hh (po _ _ _ _ _ h Rm R (.refl _ _) (TJ _)) fun O=>yA) hd
theorem HN {i:Int}(ok:eu G)(h:Q (.int i) H n):bl G σ d (.md i) ρ H n Q:=by
 intro e env A s Q' E ht he hr F R po;refine Bs ht fun x p hg=>?_;refine cS (d6 hg) fun hd hk hg=>?_;refine zE ok.glob fun mg hm O O hi O=>?_;obtain ⟨t,ht⟩:=hi _ _ hg;have Nb:s.heap.Ns env.globals mg:=he.globals▸hm.keeps R.glob;exact XY he.kind (he.Kx _ hk) (Y4 Nb ht (po _ _ _ _ _ h (beq_self_eq_true _) R (.refl _ _) (TJ _))) hd
theorem qE {h:Heap}{P:Addr->Prop}{a b:V}{u v:Value}(h1:aC G h P a u)(h2:aC G h P b v):au G h P [a,b] [u,v]:=(bA u [v] rfl h1 (bA v [] rfl h2 rfl))
theorem Ou {h:Heap}{P:Addr->Prop}{a b c:V}{u v w:Value}(h1:aC G h P a u)(h2:aC G h P b v)(h3:aC G h P c w):au G h P [a,b,c] [u,v,w]:=(bA u [v,w] rfl h1 (bA v [w] rfl h2 (bA w [] rfl h3 rfl)))
theorem Mj {op:YN}{a b:X}(h:bl G σ d a ρ H n fun va H1 n1=>bl G σ d b ρ H1 n1 fun vb H2 n2=>zu G d op va vb H2 n2 Q):bl G σ d (.bin op a b) ρ H n Q:=by
 intro e env A s Q' E ht he hr F R po;refine Ew ht fun ea eb p ta tb=>?_
 ·refine wpAny_BinOp (h _ _ _ _ _ _ ta he hr F R fun va H1 n1 kI s1 h1 ra R1 S1 l1=>?_);refine h1 _ _ _ _ _ _ tb he hr (F.step R S1) R1 fun vb H2 n2 CZ s2 h2 rb R2 S2 l2=>?_;exact h2 A s2 [kI,CZ] Q' E hr (qE (R1.rel S2 ra) rb) R2 fun v H3 n3 v' s3 q r R3 S3 l3=>po v H3 n3 v' s3 q r R3 ((S1.trans S2).trans S3) (TF (TF l1 l2) l3)
theorem Mo {a:X}(h:bl G σ d a ρ H n fun va H1 n1=>P6 G d va H1 n1 Q):bl G σ d (.neg a) ρ H n Q:=by
 intro e env A s Q' E ht he hr F R po;refine EA ht fun ea p ta=>?_
 ·refine wpAny_UnaryOp (h _ _ _ _ _ _ ta he hr F R fun va H1 n1 kI s1 h1 ra R1 S1 l1=>?_);exact h1 A s1 [kI] Q' E hr (au.one ra) R1 fun v H3 n3 v' s3 q r R3 S3 l3=>po v H3 n3 v' s3 q r R3 (S1.trans S3) (TF l1 l3)
theorem Mk {op:CmpOp}{a b:X}(h:bl G σ d a ρ H n fun va H1 n1=>bl G σ d b ρ H1 n1 fun vb H2 n2=>oU G d op va vb H2 n2 Q):bl G σ d (.cmp op a b) ρ H n Q:=by
 intro e env A s Q' E ht he hr F R po;refine w9 ht fun ea eb p hb ta tb=>?_
 ·refine wpAny_Compare1 (h _ _ _ _ _ _ ta he hr F R fun va H1 n1 kI s1 h1 ra R1 S1 l1=>?_) (B4 hb);refine h1 _ _ _ _ _ _ tb he hr (F.step R S1) R1 fun vb H2 n2 CZ s2 h2 rb R2 S2 l2=>?_;exact h2 A s2 [kI,CZ] Q' E hr (qE (R1.rel S2 ra) rb) R2 fun v H3 n3 v' s3 q r R3 S3 l3=>po v H3 n3 v' s3 q r R3 ((S1.trans S2).trans S3) (TF (TF l1 l2) l3)
theorem Mn {c t e:X}(h:ik G σ d c ρ H n fun b H1 n1=>if b then bl G σ d t ρ H1 n1 Q else bl G σ d e ρ H1 n1 Q):bl G σ d (.ite c t e) ρ H n Q:=by
 intro e env A s Q' E ht he hr F R po;refine Ez ht fun ec et ee p hx tc tt te=>?_
 ·refine wpAny_IfExp (h _ _ _ _ _ _ hx tc he hr F R fun b H1 n1 s1 h1 R1 S1 l1=>?_);have po':∀v H' n' v' s',Q v H' n'->aC G s'.heap (Pf G H') v v'->ba G H' n' s'->cz H1 s1.heap H' s'.heap->n1<=n'->Q' v' s':=fun v H3 n3 v' s3 q r R3 S3 l3=>po v H3 n3 v' s3 q r R3 (S1.trans S3) (TF l1 l3);cases b
  ·exact h1 _ _ _ _ _ _ te he hr (F.step R S1) R1 po'
  ·exact h1 _ _ _ _ _ _ tt he hr (F.step R S1) R1 po'
theorem OJ {op:CmpOp}{a b:X}{Q:Bool->AH->Nat->Prop}(h:bl G σ d a ρ H n fun va H1 n1=>bl G σ d b ρ H1 n1 fun vb H2 n2=>oU G d op va vb H2 n2 fun v H3 n3=>∃c,v=.bool c/\Q c H3 n3):
 ik G σ d (.cmp op a b) ρ H n Q:=by
 intro e env A s Q' E hx ht he hr F R po;refine w9 ht fun ea eb p hb ta tb=>?_
 ·refine wpAny_isTrue_Compare1 (h _ _ _ _ _ _ ta he hr F R fun va H1 n1 kI s1 h1 ra R1 S1 l1=>?_) (B4 hb);refine h1 _ _ _ _ _ _ tb he hr (F.step R S1) R1 fun vb H2 n2 CZ s2 h2 rb R2 S2 l2=>?_;refine h2 A s2 [kI,CZ] _ E hr (qE (R1.rel S2 ra) rb) R2 fun v H3 n3 v' s3 q r R3 S3 l3=>?_;obtain ⟨c,rfl,q⟩:=q;refine ab (show v'=ZR c from r) ?_;exact XW (po c H3 n3 s3 q R3 ((S1.trans S2).trans S3) (TF (TF l1 l2) l3))
theorem Kj {op y6:CmpOp}{a b c:X}{Q:Bool->AH->Nat->Prop}(h:bl G σ d a ρ H n fun va H1 n1=>bl G σ d b ρ H1 n1 fun vb H2 n2=>oU G d op va vb H2 n2 fun v H3 n3=>∃t,v=.bool t/\
 if t then bl G σ d c ρ H3 n3 fun vc H4 n4=>oU G d y6 vb vc H4 n4 fun v H5 n5=>∃c,v=.bool c/\Q c H5 n5 else Q false H3 n3):
 ik G σ d (.pf a op b y6 c) ρ H n Q:=by
 intro e env A s Q' E hx ht he hr F R po;refine Bq ht fun ea eb ec pos hc ta tb tc=>?_
 ·
  refine isTrue_chain (h _ _ _ _ _ _ ta he hr F R fun va H1 n1 kI s1 h1 ra R1 S1 l1=>?_) (by show behindInMarks y6 ec=false;exact B4 hc);show wpAny _ A (do let rv <- Yp [kI] (eval eb env);aan pos;let c <- Yp [kI,rv] (Zo op kI rv);release [kI,rv] [c];if <- Yp [c,rv] (truthy c) then testChain pos rv [y6] [eval ec env] else pure false) _ _ _;refine Xl (Xs ?_);refine h1 _ _ _ _ _ _ tb he hr (F.step R S1) R1 fun vb H2 n2 CZ s2 h2 rb R2 S2 l2=>?_;refine Xl (XF (Xl (Xs ?_)));refine h2 A s2 [kI,CZ] _ _ hr (qE (R1.rel S2 ra) rb) R2 fun v H3 n3 v' s3 q r R3 S3 l3=>?_;obtain ⟨t,rfl,q⟩:=q;refine ab (show v'=ZR t from r) ?_;refine Xl (Z4 (Xl (Xs (XW ?_))));cases t
  ·exact Xn (po false H3 n3 s3 q R3 ((S1.trans S2).trans S3) (TF (TF l1 l2) l3))
  ·
   show wpAny _ A (do let rv <- Yp [CZ] (eval ec env);aan pos;let c <- operate [CZ,rv] (Zo y6 CZ rv);Yp [c] (truthy c)) _ _ _;refine Xl (Xs ?_);refine q _ _ _ _ _ _ tc he hr (F.step R ((S1.trans S2).trans S3)) R3 fun vc H4 n4 vc' s4 h4 rc R4 S4 l4=>?_;refine Xl (XF (Xl ?_));refine wpAny_operating (h4 A s4 [CZ,vc'] _ _ hr (qE (R2.rel (S3.trans S4) rb) rc) R4 fun v H5 n5 v' s5 q r R5 S5 l5=>?_);obtain ⟨t,rfl,q⟩:=q;refine ab (show v'=ZR t from r) ?_;exact Xs (XW (po t H5 n5 s5 q R5 ((((S1.trans S2).trans S3).trans S4).trans S5) (aH (CF n n1 n2 n3 n4 n5) [(1,aq,aw),(1,aw,aN),(1,aN,bL),(1,bL,jc),(1,jc,Dh)] aq Dh rfl l1 l2 l3 l4 l5)))
theorem OK {a:X}{Q:Bool->AH->Nat->Prop}(h:ik G σ d a ρ H n fun b H1 n1=>Q (!b) H1 n1):ik G σ d (.not a) ρ H n Q:=by
 intro e env A s Q' E hx ht he hr F R po;refine EC ht fun ea p hy ta=>?_
 ·exact wpAny_isTrue_Not (h _ _ _ _ _ _ hy ta he hr F R fun b H1 n1 s1 q R1 S1 l1=>po _ H1 n1 s1 q R1 S1 l1)
theorem za {e:Expr}(h:plE e=true)(env:Env)(whole:Sem Value):isTrue e env whole=(do let v <- whole;aan e.pos;Yp [v] (truthy v)):=by
 cases e <;> first | rfl | exact absurd h T4
theorem OL {a:X}{Q:Bool->AH->Nat->Prop}(h:bl G σ d a ρ H n fun va H1 n1=>zV G d va H1 n1 Q)(ha:a.I0=false):ik G σ d a ρ H n Q:=by
 intro e env A s Q' E hx ht he hr F R po;refine wpAny_isTrue_value (h _ _ _ _ _ _ ht he hr F R fun va H1 n1 kI s1 h1 ra R1 S1 l1=>?_) (za (by unfold ic at hx;rw [ha] at hx;exact hx) env _);exact h1 A s1 [kI] Q' E hr (au.one ra) R1 fun b H3 n3 s3 q R3 S3 l3=>po b H3 n3 s3 q R3 (S1.trans S3) (TF l1 l3)
noncomputable def dZ (G:aA)(σ:cw)(d:Nat):List X->bt->AH->Nat->(Bool->AH->Nat->Prop)->Prop
 | [],_,H,n,Q=>Q true H n
 | x::xs,ρ,H,n,Q=>ik G σ d x ρ H n fun b H1 n1=>if b then dZ G σ d xs ρ H1 n1 Q else Q false H1 n1
noncomputable def wI (G:aA)(σ:cw)(d:Nat):List X->bt->AH->Nat->(Bool->AH->Nat->Prop)->Prop
 | [],_,H,n,Q=>Q false H n
 | x::xs,ρ,H,n,Q=>ik G σ d x ρ H n fun b H1 n1=>if b then Q true H1 n1 else wI G σ d xs ρ H1 n1 Q
theorem sT:∀{xs:List X} {es:List Expr} {H:AH} {n:Nat} {Q:Bool->AH->Nat->Prop} {env:Env} {A:Xv} {s:Xm} {Q':Bool->Xm->Prop} {E:Value->Xm->Prop},mS σ es xs->bQ G σ env->cH d A->df G σ env ρ H s.heap->ba G H n s->
 dZ G σ d xs ρ H n Q->sM G H n s Q Q'->wpAny (model G.prog G.w) A (allTrue .And es env) Q' E s:=by
 intro xs
 induction xs with
 | nil=>
 exact fun {es H n Q env A s Q' E} ht he hr F R h po=>by
  refine ab (j4 ht) ?_;exact wpAny_allTrue_And_nil (po _ _ _ _ h R (.refl _ _) (TJ _))
 | cons x xs ih=>
 exact fun {es H n Q env A s Q' E} ht he hr F R h po=>by
  refine e8 ht fun e es hx t1 t2=>?_
  ·refine wpAny_allTrue_And_cons (h _ _ _ _ _ _ hx t1 he hr F R fun b H1 n1 s1 h1 R1 S1 l1=>?_);cases b
   ·exact po _ _ _ _ h1 R1 S1 l1
   ·exact ih t2 he hr (F.step R S1) R1 h1 fun b H2 n2 s2 q R2 S2 l2=>po _ _ _ _ q R2 (S1.trans S2) (TF l1 l2)
theorem u0:∀{xs:List X} {es:List Expr} {H:AH} {n:Nat} {Q:Bool->AH->Nat->Prop} {env:Env} {A:Xv} {s:Xm} {Q':Bool->Xm->Prop} {E:Value->Xm->Prop},mS σ es xs->bQ G σ env->cH d A->df G σ env ρ H s.heap->ba G H n s->
 wI G σ d xs ρ H n Q->sM G H n s Q Q'->wpAny (model G.prog G.w) A (allTrue .Or es env) Q' E s:=by
 intro xs
 induction xs with
 | nil=>
 exact fun {es H n Q env A s Q' E} ht he hr F R h po=>by
  refine ab (j4 ht) ?_;exact wpAny_allTrue_Or_nil (po _ _ _ _ h R (.refl _ _) (TJ _))
 | cons x xs ih=>
 exact fun {es H n Q env A s Q' E} ht he hr F R h po=>by
  refine e8 ht fun e es hx t1 t2=>?_
  ·refine wpAny_allTrue_Or_cons (h _ _ _ _ _ _ hx t1 he hr F R fun b H1 n1 s1 h1 R1 S1 l1=>?_);cases b
   ·exact ih t2 he hr (F.step R S1) R1 h1 fun b H2 n2 s2 q R2 S2 l2=>po _ _ _ _ q R2 (S1.trans S2) (TF l1 l2)
   ·exact po _ _ _ _ h1 R1 S1 l1
theorem OI {xs:List X}{Q:Bool->AH->Nat->Prop}(h:dZ G σ d xs ρ H n Q):ik G σ d (.gx .And xs) ρ H n Q:=by
 intro e env A s Q' E hx ht he hr F R po;refine rA ht fun es p ts=>?_
 ·exact Z9 (sT ts he hr F R h po)
theorem Tq {xs:List X}{Q:Bool->AH->Nat->Prop}(h:wI G σ d xs ρ H n Q):ik G σ d (.gx .Or xs) ρ H n Q:=by
 intro e env A s Q' E hx ht he hr F R po;refine rA ht fun es p ts=>?_
 ·exact Z9 (u0 ts he hr F R h po)
theorem HR {Q:List V->AH->Nat->Prop}(h:Q [] H n):eR G σ d [] ρ H n Q:=by
 intro es env A s p Q' E ht he hr F R po;refine ab (dN ht) ?_;exact aao (po _ _ _ [] s h rfl R (.refl _ _) (TJ _))
theorem D0 {x:X}{xs:List X}{Q:List V->AH->Nat->Prop}(h:bl G σ d x ρ H n fun v H1 n1=>eR G σ d xs ρ H1 n1 fun vs H2 n2=>Q (v::vs) H2 n2):eR G σ d (x::xs) ρ H n Q:=by
 intro es env A s p Q' E ht he hr F R po;refine dm ht fun e es hx t1 t2=>?_;refine spliced_more (h _ _ _ _ _ _ t1 he hr F R fun v H1 n1 v' s1 h1 r1 R1 S1 l1=>?_) (iJ hx env es);exact h1 _ _ _ _ p _ _ t2 he hr (F.step R S1) R1 fun vs H2 n2 C3 s2 q r2 R2 S2 l2=>po _ _ _ _ _ q (bA v' C3 rfl (R1.rel S2 r1) r2) R2 (S1.trans S2) (TF l1 l2)
end
noncomputable def upd (H:AH)(a:Addr)(o:bG):AH:=fun b=>if b=a then some o else H b
noncomputable def cB (H:AH)(a:Addr):AH:=fun b=>if b=a then none else H b
@[simp] theorem ae {H:AH}{a:Addr}{o:bG}:upd H a o a=some o:=by simp [upd]
theorem ak {H:AH}{a b:Addr}{o:bG}(h:b≠a):upd H a o b=H b:=by simp [upd,h]
@[simp] theorem aX {H:AH}{a:Addr}{o o':bG}:upd (upd H a o) a o'=upd H a o':=by funext b;simp only [upd];split <;> rfl
@[simp] theorem cY {H:AH}{a:Addr}{o:bG}:cB (upd H a o) a=cB H a:=by funext b;simp only [upd,cB];split <;> rfl
theorem cJ {H:AH}{a:Addr}(h:H a=none):cB H a=H:=by funext b;simp only [cB];split <;> simp_all
@[simp] theorem dK {H:AH}{a:Addr}:cB H a a=none:=by simp [cB]
theorem cT {H:AH}{a b:Addr}(h:b≠a):cB H a b=H b:=by simp [cB,h]
section
variable {G:aA}{σ:cw}{d:Nat}{ρ:bt}{H:AH}{n:Nat}
theorem nB {h:Heap}{a:Addr}(ha:h.objs.size<=a):h.get? a=none:=by
 cases e:h.get? a with
 | none=>rfl
 | some o=>exact absurd (Xr e) (Ux.mpr ha)
theorem ba.aY {s:Xm}(R:ba G H n s){a:Addr}(ha:s.heap.objs.size<=a):H a=none/\G.h0.get? a=none/\¬G.own a:=by
 refine ⟨?_,?_,fun h=>absurd (R.own a h).1 (Ux.mpr ha)⟩
 ·cases e:H a with
  | none=>rfl
  | some o=>obtain ⟨ob,ho⟩:=fK.get G (R.objs a o e);rw [nB ha] at ho;injection ho
 ·cases e:G.h0.get? a with
  | none=>rfl
  | some o=>have:=R.glob a o e;rw [nB ha] at this;injection this
theorem ba.change {s:Xm}(R:ba G H n s)(T:List Addr){h':Heap}{H':AH}{n' tk:Nat}(hk:∀b,b∉T->∀o,s.heap.get? b=some o->h'.get? b=some o)(hH:∀b,b∉T->H' b=H b)
 (hm:∀x,x∈T->H x≠none\/s.heap.objs.size<=x) (gJ:∀x,x∈T->∀a0,H x=some (.own a0)->a0∈T) (hn:n'<=h'.objs.size) (hsz:s.heap.objs.size<=h'.objs.size)
 (ho:fc G s.heap (Pf G H) h' (Pf G H')->∀x,x∈T->∀o,H' x=some o->fK G h' H' x o) (h0:∀x,x∈T->H' x≠none->G.h0.get? x=none/\¬G.own x):
 ba G H' n' {s with heap:=h',toks:=tk}/\cz H s.heap H' h':=by
 have S:cz H s.heap H' h':=⟨fun b o e hb=>hk b (fun ht=>(hm b ht).elim (fun q=>q hb) fun q=>absurd (Xr e) (Ux.mpr q)) o e,fun b e=>by
  by_cases ht:b∈T
  ·exact hm b ht
  ·rw [hH b ht] at e;exact .inl e,hsz⟩
 have K:=R.kept S;refine ⟨⟨by exact ab R.base rfl,hn,fun a o e=>?_,fun b o e=>?_,fun a e=>?_,fun a e=>?_⟩,S⟩
 ·by_cases ht:a∈T
  ·exact ho K a ht o e
  ·rw [hH a ht] at e;have r:=R.objs a o e;have hx:∀b,(b=a\/H b=some (.own a))->b∉T:=fun b hb=>hb.elim (fun e=>e▸ht) fun e q=>ht (gJ b q a e);exact r.kept K (fun b o hb e=>hk b (hx b hb) o e) fun b hb=>(hH b (hx b (.inr hb))).trans hb
 ·refine hk b (fun ht=>?_) o (R.glob b o e);rcases hm b ht with q | q
  ·rw [(R.lo b q).1] at e;injection e
  ·rw [(R.aY q).2.1] at e;injection e
 ·by_cases ht:a∈T
  ·exact h0 a ht e
  ·rw [hH a ht] at e;exact R.lo a e
 ·refine cS (R.own a e) fun o1 o2 o3=>?_;refine ⟨TO o1 hsz,o2,?_⟩;exact (hH a fun ht=>(hm a ht).elim (fun q=>q o3) fun q=>absurd o1 (Ux.mpr q)).trans o3
theorem ba.push {s:Xm}(R:ba G H n s)(o:Obj){tk:Nat}:ba G H n {s with heap:=s.heap.push o,toks:=tk}/\cz H s.heap H (s.heap.push o):=by
 refine R.change [] (fun b O ob e=>Xo _ e) (fun b O=>rfl) (fun x hx=>nomatch hx) (fun x hx=>nomatch hx) ?_ ?_ (fun O x hx=>nomatch hx) fun x hx=>nomatch hx
 ·refine ab (Xp ..) ?_;exact TY R.size
 ·refine ab (Xp ..) ?_;exact Uo _
theorem ba.alloc {s:Xm}(R:ba G H n s)(o:Obj)(ao:bG){tk:Nat}(_hf:o.isFreed=false)
 (ho:fc G s.heap (Pf G H) (s.heap.push o) (Pf G (upd H s.heap.objs.size ao))->fK G (s.heap.push o) (upd H s.heap.objs.size ao) s.heap.objs.size ao):
 ba G (upd H s.heap.objs.size ao) (s.heap.objs.size+1) {s with heap:=s.heap.push o,toks:=tk}/\cz H s.heap (upd H s.heap.objs.size ao) (s.heap.push o):=by
 refine R.change [s.heap.objs.size] (fun b hb ob e=>Xo _ e) (fun b hb=>ak (by simpa using hb)) (fun x hx=>.inr (TL (TK.mp hx).symm)) (fun x hx a0 e=>?_) ?_ ?_ (fun K x hx o' e=>?_) fun x hx O=>?_
 ·simp at hx;rw [hx,(R.aY (TJ _)).1] at e;injection e
 ·refine ab (Xp ..) ?_;exact TJ _
 ·refine ab (Xp ..) ?_;exact Uo _
 ·simp at hx;subst hx;rw [ae] at e;(injection e with e;subst e);exact ho K
 ·simp at hx;subst hx;exact (R.aY (TJ _)).2
theorem gI {h:Heap}{a:Addr}{kvs:List (SK × Value)}{t:Nat}(x:DictAt G h a kvs)(ht:∀p∈kvs,p.1.tag=t):h.DictOf (bT G.prog G.w t) a kvs:=by
 refine G7 x fun t' o es ep ho hx hd hk hp hn=>?_
 by_cases e:kvs=[]
 ·subst e;refine (Hf o es ep ho hx hd (fun e he=>?_) ?_ hn)
  ·cases tM:es.toList with
   | nil=>
    have:e∈es.toList:=Array.mem_toList_iff.mpr he;rw [tM] at this;cases this
   | cons y ys=>rw [tM] at hp;cases hp
  ·cases tM:es.toList with
   | nil=>exact .nil
   | cons y ys=>rw [tM] at hp;cases hp
 ·have yN:t'=t:=by
   cases kvs with
   | nil=>exact absurd rfl e
   | cons p r=>
    cases tM:es.toList with
    | nil=>rw [tM] at hp;cases hp
    | cons y ys=>
     rw [tM] at hp
     cases hp with
     | cons h1 _ _=>
      have h1:(p.1.tag==t'&&p.1.eV y.key)=true:=h1;simp only [UM,beq_iff_eq] at h1;exact h1.1.symm.trans (ht p (.head _))
  subst yN;exact (Hf o es ep ho hx hd hk hp hn)
variable {Q:V->AH->Nat->Prop}
theorem gZ {M:Model}{A:Xv}{E:Value->Xm->Prop}{s:Xm}{T:String}{vs:List Value}{Q':Value->Xm->Prop}(hsz:vs.length<=16777216)
 (q:Q' (.ref s.heap.objs.size) {s with heap:=s.heap.push {cls:=.type T,data:=.seq vs.toArray}}):wpAny M A (newObj (.type T) (.seq vs.toArray)) Q' E s:=
 Y5 q (by show vs.toArray.size<=Yy;refine ab Ub (ab Xw ?_);exact hsz)
theorem Ms {xs:List X}(h:eR G σ d xs ρ H n fun vs H1 n1=>vs.length<=1000/\Q (.tup vs) H1 n1):bl G σ d (.tup xs) ρ H n Q:=by
 intro e env A s Q' E ht he hr F R po;refine mC ht fun es k p hx ts=>?_
 ·refine Tuple_ (h _ _ _ _ _ _ _ ts he hr F R fun vs H1 n1 C3 s1 q r R1 S1 l1=>?_);refine gZ (by have:=r.length;omega) ?_;obtain ⟨R2,S2⟩:=R1.push {cls:=.type "tuple",data:=.seq C3.toArray} (tk:=s1.toks);refine po _ _ _ _ _ q.2 ?_ R2 (S1.trans S2) l1;exact (cD _ C3 rfl (.inl (R1.aY (TJ _))) (bW _ (Xq _ rfl) rfl ⟨_,rfl⟩) (R1.jd S2 r))
theorem DV {xs:List X}(h:eR G σ d xs ρ H n fun vs H1 n1=>vs.length<=1000/\Q (.ag vs) H1 n1):bl G σ d (.list xs) ρ H n Q:=by
 intro e env A s Q' E ht he hr F R po;refine tP ht fun es p hx ts=>?_
 ·refine List_ (h _ _ _ _ _ _ _ ts he hr F R fun vs H1 n1 C3 s1 q r R1 S1 l1=>?_);refine gZ (by have:=r.length;omega) ?_;obtain ⟨R2,S2⟩:=R1.push {cls:=.type "list",data:=.seq C3.toArray} (tk:=s1.toks);refine po _ _ _ _ _ q.2 ?_ R2 (S1.trans S2) l1;exact (cD _ C3 rfl (R1.aY (TJ _)) ⟨_,Xq _ rfl⟩ (R1.jd S2 r))
theorem DW {xs:List X}(h:eR G σ d xs ρ H n fun vs H1 n1=>vs.length<=1000/\∀a,n1<=a->H1 a=none->Q (.ref a) (upd H1 a (.list vs)) (a+1)):bl G σ d (.cR xs) ρ H n Q:=by
 intro e env A s Q' E ht he hr F R po;refine qq ht fun es p hx ts=>?_
 ·refine List_ (h _ _ _ _ _ _ _ ts he hr F R fun vs H1 n1 C3 s1 q r R1 S1 l1=>?_);refine gZ (by have:=r.length;omega) ?_;obtain ⟨R2,S2⟩:=R1.alloc {cls:=.type "list",data:=.seq C3.toArray} (.list vs) (tk:=s1.toks) rfl fun K=>(ai C3 ⟨_,Xq _ rfl⟩ (au.kept K _ r));exact po _ _ _ _ _ (q.2 _ R1.size (R1.aY (TJ _)).1) rfl R2 (S1.trans S2) (TY (TF l1 R1.size))
theorem gH (h:Heap):DictAt G (h.push {cls:=.type "dict",data:=.dict #[]}) h.objs.size []:=
 (PZ 0 _ (#[]) 0 (Xq _ rfl) ⟨rfl,rfl,rfl⟩ rfl (fun O he=>by simp at he) Pairs.nil WQ)
theorem AE (h:∀a,n<=a->H a=none->Q (.ref a) (upd H a (.dict [])) (a+1)):bl G σ d .jo ρ H n Q:=by
 intro e env A s Q' E ht he hr F R po;refine qp ht fun p=>?_
 ·refine Ze ?_;obtain ⟨R2,S2⟩:=R.alloc {cls:=.type "dict",data:=.dict #[]} (.dict []) (tk:=s.toks) rfl fun K=>(ai [] (gH _) rfl);exact po _ _ _ _ _ (h _ R.size (R.aY (TJ _)).1) rfl R2 S2 (TY R.size)
theorem AB (h:∀a,n<=a->H a=none->Q (.az a []) H (a+1)):bl G σ d (.dict [] []) ρ H n Q:=by
 intro e env A s Q' E ht he hr F R po;refine nS ht fun ks vs p O O tk tv=>?_
 ·refine ab (dN tk) (ab (dN tv) ?_);refine Ze ?_;obtain ⟨R2,S2⟩:=R.push {cls:=.type "dict",data:=.dict #[]} (tk:=s.toks);refine po _ _ _ _ _ (h _ R.size (R.aY (TJ _)).1) ⟨rfl,R.aY (TJ _),ai [] (gH _) rfl⟩ ⟨R2.base,?_,R2.objs,R2.glob,R2.lo,R2.own⟩ S2 (TY R.size);show _<=(s.heap.push _).objs.size;refine ab (Xp ..) ?_;exact TJ _
noncomputable def gD (G:aA)(σ:cw)(d:Nat):List X->List X->bt->AH->Nat->(List (V × V)->AH->Nat->Prop)->Prop
 | [],[],_,H,n,Q=>Q [] H n
 | k::ks,v::vs,ρ,H,n,Q=>bl G σ d k ρ H n fun kv H1 n1=>bl G σ d v ρ H1 n1 fun vv H2 n2=>gD G σ d ks vs ρ H2 n2 fun r H3 n3=>Q ((kv,vv)::r) H3 n3
 | _,_,_,_,_,_=>False
noncomputable def zG (h:Heap)(P:Addr->Prop):List (V × V)->List (Value × Value)->Prop
 | [],r=>r=[]
 | (k,v)::xs,r=>∃k' v' r',r=(k',v')::r'/\aC G h P k k'/\aC G h P v v'/\zG h P xs r'
theorem jj:∀{xk xv:List X} {ks vs:List Expr} {H:AH} {n:Nat} {Q:List (V × V)->AH->Nat->Prop} {env:Env} {A:Xv} {s:Xm} {p:Pos} {Q':List (Value × Value)->Xm->Prop} {E:Value->Xm->Prop},d3 σ ks xk->d3 σ vs xv->bQ G σ env->cH d A->df G σ env ρ H s.heap->ba G H n s->
 gD G σ d xk xv ρ H n Q->(∀r H' n' r' s',Q r H' n'->zG (G:=G) s'.heap (Pf G H') r r'->ba G H' n' s'->cz H s.heap H' s'.heap->n<=n'->Q' r' s')->wpAny (model G.prog G.w) A (evalPairs (pairTrees (ks.map some) vs env p)) Q' E s
 | [],[],ks,vs,H,n,Q,env,A,s,p,Q',E,tk,tv,he,hr,F,R,h,po=>by
  refine ab (dN tk) (ab (dN tv) ?_);exact Xn (po _ _ _ [] s h rfl R (.refl _ _) (TJ _))
 | k::xk,v::xv,ks,vs,H,n,Q,env,A,s,p,Q',E,tk,tv,he,hr,F,R,h,po=>by
  refine dm tk fun ek eks O xP Km=>?_
  ·refine dm tv fun ev evs O tv1 tv2=>?_
   ·show wpAny _ A (evalPairs ((eval _ env,do let x <- eval _ env;aan p;pure x)::pairTrees _ _ env p)) _ _ _;unfold evalPairs;refine Xl (h _ _ _ _ _ _ xP he hr F R fun kv H1 n1 kv' s1 h1 r1 R1 S1 l1=>?_);refine Xl (Xs (Xl ?_));refine h1 _ _ _ _ _ _ tv1 he hr (F.step R S1) R1 fun vv H2 n2 vv' s2 h2 r2 R2 S2 l2=>?_;refine Xl (XF (Xn (Xl (Xs ?_))));refine jj Km tv2 he hr (F.step R (S1.trans S2)) R2 h2 fun r H3 n3 r' s3 q rr R3 S3 l3=>Xn ?_;exact po _ _ _ _ _ q (o8 kv' vv' r' rfl (R1.rel (S2.trans S3) r1) (R2.rel S3 r2) rr) R3 ((S1.trans S2).trans S3) (aH (cm n n1 n2 n3) [(1,aq,aw),(1,aw,aN),(1,aN,bL)] aq bL rfl l1 l2 l3)
 | [],_::_,_,_,_,_,_,_,_,_,_,_,_,_,_,_,_,_,_,h,_=>h.elim
 | _::_,[],_,_,_,_,_,_,_,_,_,_,_,_,_,_,_,_,_,h,_=>h.elim
theorem pC:∀{es:List (SK × V)} {h:Heap} {P:Addr->Prop} {r':List (Value × Value)} {t:Nat},zG (G:=G) h P (es.map fun p=>(V.sk p.1,p.2)) r'->(∀p∈es,p.1.tag=t)->
 ∃kvs:List (SK × Value),Carries (bT G.prog G.w t) r' kvs/\aP G h P es kvs/\kvs.map (·.1)=es.map (·.1):=by
 intro es
 induction es with
 | nil=>
 exact fun {O O r' O} k O=>by refine ab (show r'=[] from k) ?_;exact (bW [] trivial rfl rfl)
 | cons rU es ih=>
 obtain ⟨k,x⟩:=rU;exact fun {h P r' t} q ht=>by
  refine kK q fun k' v' G1 zc h1 h2 h3=>?_;subst zc;refine bE (ih h3 fun p hp=>ht p (.tail _ hp)) fun kvs c ve hm=>?_;refine (bW ((k,v')::kvs) ⟨?_,rfl,c⟩ (bA v' kvs rfl h2 ve) (by simp [hm]));show (k.tag==t&&k.eV k')=true;refine ab (UM ..) ?_;exact ⟨beq_iff_eq.mpr (ht (k,x) (.head _)),h1⟩
theorem bz {a:Addr}{h h':Heap}(hs:X7 a h h'):h'.objs.size=h.objs.size:=hs.1
theorem ba.turn {s:Xm}(R:ba G H n s){a:Addr}{h':Heap}{o:bG}{tk:Nat}(hs:X7 a s.heap h')(ha:H a≠none)(gJ:∀a0,H a≠some (.own a0))
 (ho:fc G s.heap (Pf G H) h' (Pf G (upd H a o))->fK G h' (upd H a o) a o):ba G (upd H a o) n {s with heap:=h',toks:=tk}/\cz H s.heap (upd H a o) h':=by
 refine R.change [a] (fun b hb ob e=>(hs.2 b (by simpa using hb)).trans e) (fun b hb=>ak (by simpa using hb)) (fun x hx=>.inl (by simp at hx;refine ab hx ?_;exact ha)) (fun x hx a0 e=>?_) ?_ ?_ (fun K x hx o' e=>?_) fun x hx O=>?_
 ·simp at hx;rw [hx] at e;exact absurd e (gJ a0)
 ·refine ab (bz hs) ?_;exact R.size
 ·refine ab (bz hs) ?_;exact TJ _
 ·simp at hx;subst hx;rw [ae] at e;(injection e with e;subst e);exact ho K
 ·simp at hx;subst hx;exact R.lo _ ha
theorem ba.freeze {s:Xm}(R:ba G H n s){a:Addr}{h':Heap}{tk:Nat}(hs:X7 a s.heap h')(ha:H a≠none)(gJ:∀a0,H a≠some (.own a0)):
 ba G (cB H a) n {s with heap:=h',toks:=tk}/\cz H s.heap (cB H a) h':=by
 refine R.change [a] (fun b hb ob e=>(hs.2 b (by simpa using hb)).trans e) (fun b hb=>cT (by simpa using hb)) (fun x hx=>.inl (by simp at hx;refine ab hx ?_;exact ha)) (fun x hx a0 e=>?_) ?_ ?_ (fun K x hx o' e=>?_) fun x hx q=>?_
 ·simp at hx;rw [hx] at e;exact absurd e (gJ a0)
 ·refine ab (bz hs) ?_;exact R.size
 ·refine ab (bz hs) ?_;exact TJ _
 ·simp at hx;subst hx;simp at e
 ·simp at hx;subst hx;exact R.lo _ ha
theorem j7 {es:List Expr}{xs:List X}(q:d3 σ es xs):es.length=xs.length:=by
 induction xs generalizing es with
 | nil=>refine ab (dN q) ?_;rfl
 | cons x xs ih=>
  refine dm q fun e r O O q2=>?_;exact ab TS (ab TS (ab (ih q2) rfl))
theorem DU {xk xv:List X}(t:Nat)(h:∀a,n<=a->H a=none->gD G σ d xk xv ρ (upd H a (.dict [])) (a+1) fun r H1 n1=>H1 a=some (.dict [])/\∃es:List (SK × V),r=es.map (fun p=>(V.sk p.1,p.2))/\(∀p∈es,p.1.tag=t)/\(es.map (·.1)).Nodup/\Q (.az a es) (cB H1 a) n1)
 (aJ:xk≠[]):bl G σ d (.dict xk xv) ρ H n Q:=by
 intro e env A s Q' E ht he hr F R po;refine nS ht fun ks vs pos aI hl tk tv=>?_
 ·have h1:=j7 tk;have h2:=j7 tv;refine wpAny_Dict_walk (keys:=ks.map some) (knd:=bT G.prog G.w t) (by simp) (by simp;omega) (by intro e;apply aJ;have e':ks=[]:=(by simpa using e);rw [e'] at h1;exact U5.mp h1.symm) (by simp;exact aH (bc xk.length ks.length) [(1,aq,.num 15),(1,aw,aq)] aw (.num 15) rfl aI (TL h1)) ?_;obtain ⟨R1,S1⟩:=R.alloc {cls:=.type "dict",data:=.dict #[]} (.dict []) (tk:=s.toks) rfl fun K=>(ai [] (gH _) rfl);have Dc:=R.aY (TJ s.heap.objs.size);refine jj tk tv he hr (F.step R S1) R1 (h _ R.size Dc.1) fun r H2 n2 r' s2 q rr R2 S2 l2=>?_;obtain ⟨MG,bN⟩:=q;refine mM bN fun es lr ht w3 q=>?_;subst lr;refine bE (pC rr ht) fun kvs hc hve zA=>?_;refine ah (R2.objs _ _ MG) fun RC hd0 pv=>?_;have pv:RC=[]:=pv;subst pv;refine (bW kvs hc (gI hd0 (fun p hp=>nomatch hp)) (fun h' vw sD=>?_));rw [merged_nil_of_nodup _ (by refine ab zA ?_;exact w3)] at vw;obtain ⟨R3,S3⟩:=R2.freeze (tk:=s2.toks+r'.length) sD (by refine ab MG ?_;simp) (by refine ab MG ?_;simp);refine po _ _ _ _ _ q ⟨rfl,⟨dK,Dc.2⟩,ai kvs ⟨t,vw⟩ (aP.kept (R2.kept S3) _ hve)⟩ R3 ((S1.trans S2).trans S3) ?_;have:=R.size;exact aH (bC s.heap.objs.size n n2) [(1,.add aq ay,aN),(1,aw,aq)] aw aN rfl l2 this
end
section
variable {G:aA}{σ:cw}{d:Nat}{ρ:bt}{H:AH}{n:Nat}{Q:V->AH->Nat->Prop}
theorem jH {env:Env}{p:Pos}:∀{xs:List X} {es:List Expr},d3 σ es xs->(Zd p (Yl es env)).any (·.1)=false
 | [],es,h=>by refine ab (dN h) ?_;rfl
 | x::xs,es,h=>by
  refine dm h fun e es hx t1 t2=>?_;refine ab (iJ hx ..) ?_;simp only [Zd,UJ,U6,VX];exact jH (p:=p) t2
theorem tE {xs:List X}{es:List Expr}{f:Value}{env:Env}{A:Xv}{s:Xm}{p:Pos}{Q:List V->AH->Nat->Prop}{Q':Args->Xm->Prop}{E:Value->Xm->Prop}(ts:d3 σ es xs)(he:bQ G σ env)(hr:cH d A)
 (F:df G σ env ρ H s.heap) (R:ba G H n s) (h:eR G σ d xs ρ H n Q) (po:zO G H n s Q fun aD s'=>Q' ⟨aD,[]⟩ s'):wpAny (model G.prog G.w) A (evalArgs f true (Zd p (Yl es env)) []) Q' E s:=by
 have h':=h es env A s p _ E ts he hr F R po
 cases xs with
 | nil=>rw [dN ts] at h' ⊢;exact fun Γ p hΓ=>h' Γ p hΓ
 | cons x xs=>
  revert h';refine dm ts fun e es hx t1 t2 h'=>?_;rw [iJ hx] at h' ⊢;exact evalArgs_plain h'
theorem fC {xs:List X}{es:List Expr}{f:Value}{first:List Value}{env:Env}{A:Xv}{s:Xm}{p q:Pos}{Q:List V->AH->Nat->Prop}{Q':Value->Xm->Prop}{E:Value->Xm->Prop}(ts:d3 σ es xs)(he:bQ G σ env)(hr:cH d A)
 (F:df G σ env ρ H s.heap) (R:ba G H n s) (hf:∃k,(k=Zf\/k=YO)/\Looks (model G.prog G.w) G.h0 (XO f) k) (h:eR G σ d xs ρ H n Q)
 (po:zO G H n s Q fun aD s'=>wpAny (model G.prog G.w) A (call f (first++aD)) Q' E s'):wpAny (model G.prog G.w) A (callWith q f first (Zd p (Yl es env)) []) Q' E s:=by
 refine callWith_of (P:=fun h=>∀b o,G.h0.get? b=some o->h.get? b=some o) ?_ (fun h hh=>?_) ?_
 ·refine ab (jH ts) ?_;rfl
 ·refine ah hf fun k hk L=>?_;exact (ai k (hk.elim (fun e=>.inl e) fun e=>.inr (.inl e)) (L.keeps hh))
 ·exact tE ts he hr F R h fun vs H1 n1 aD s1 q r R1 S1 l1=>⟨R1.glob,po _ _ _ _ _ q r R1 S1 l1⟩
theorem qy {M:Model}{A:Xv}{E:Value->Xm->Prop}{env:Env}{s:Xm}{x:Str}{p:Pos}{v:Value}{Q':Value->Xm->Prop}{mg:Str->Option Value}(he:bQ G σ env)(R:ba G H n s)(hd:(x==("__debug__":Str))=false)(hx:σ.names.lookup x=some .globalImplicit)
 (hm:G.h0.Ns XA mg) (hv:mg x=some v) (q:Q' v s):wpAny M A (eval (.Name x p) env) Q' E s:=
 XY he.kind (he.Kx _ hx) (Y4 (he.globals▸hm.keeps R.glob) hv q) hd
theorem rL {M:Model}{A:Xv}{E:Value->Xm->Prop}{env:Env}{s:Xm}{x:Str}{p:Pos}{v:Value}{Q':Value->Xm->Prop}{mg mb:Str->Option Value}(he:bQ G σ env)(R:ba G H n s)(hd:(x==("__debug__":Str))=false)(hx:σ.names.lookup x=some .globalImplicit)
 (hm:G.h0.Ns XA mg) (hn:mg x=none) (hb:G.h0.Ns XT mb) (hv:mb x=some v) (q:Q' v s):wpAny M A (eval (.Name x p) env) Q' E s:=
 XY he.kind (he.Kx _ hx) (loadGlobal_builtin (he.globals▸hm.keeps R.glob) hn (he.builtins▸hb.keeps R.glob) hv q) hd
theorem AA {f:Nat}{xs:List X}(ok:eu G)(h:eR G σ d xs ρ H n fun vs H1 n1=>Lw G d f vs H1 n1 Q):bl G σ d (.call f xs) ρ H n Q:=by
 intro e env A s Q' E ht he hr F R po;refine Bp ht fun x p es q hg ts=>?_
 ·refine cS (d6 hg) fun hd hk hg=>?_;refine bE ok.glob fun mg hm hfn O=>?_;refine X5 (qy he R hd hk hm (hfn _ _ hg) ?_);refine fC ts he hr F R (ai _ (.inl rfl) (ok.BH _ _ hg)) h fun vs H1 n1 aD s1 q r R1 S1 l1=>?_;exact q A s1 aD Q' E hr r R1 fun v H3 n3 v' s3 q r R3 S3 l3=>po v H3 n3 v' s3 q r R3 (S1.trans S3) (TF l1 l3)
theorem sU (b:BN):∃k,(k=Zf\/k=YO)/\∀M h,Looks M h (XO (jT b)) k:=by
 refine (ai .machine (.inr rfl) (fun M h=>Looks.of_pure ?_))
 cases b <;> rfl
theorem u6 (b:BN):jT b.base=jT b:=by cases b <;> rfl
theorem HL {b:BN}{xs:List X}(ok:eu G)(h:eR G σ d xs ρ H n fun vs H1 n1=>aW G d (jT b) vs H1 n1 Q):bl G σ d (.bi b xs) ρ H n Q:=by
 intro e env A s Q' E ht he hr F R po;refine IU ht fun x p es q hg ts=>?_
 ·refine cS (d6 hg) fun hd hk hg=>?_;refine G5 ok.glob fun mg hm O O O Bd O=>?_;refine bE ok.L0 fun mb KJ MS O=>?_;refine X5 (rL he R hd hk hm (Bd _ _ hg) KJ ((MS _ _ hg).trans (congrArg some (u6 b))) ?_);refine ah (sU b) fun k vB L=>?_;refine fC ts he hr F R (ai k vB (L _ _)) h fun vs H1 n1 aD s1 q r R1 S1 l1=>?_;exact q A s1 aD Q' E hr r R1 fun v H3 n3 v' s3 q r R3 S3 l3=>po v H3 n3 v' s3 q r R3 (S1.trans S3) (TF l1 l3)
noncomputable def mR (G:aA)(d:Nat)(c:Nat)(args:List V)(H:AH)(n:Nat)(Q:V->AH->Nat->Prop):Prop:=cj G d args (fun aD=>call (.ref (G.ca c)) aD) H n Q
theorem Mp {c:Nat}{xs:List X}(ok:eu G)(h:eR G σ d xs ρ H n fun vs H1 n1=>mR G d c vs H1 n1 Q):bl G σ d (.new c xs) ρ H n Q:=by
 intro e env A s Q' E ht he hr F R po;refine EB ht fun x p es q hg ts=>?_
 ·refine cS (d6 hg) fun hd hk hg=>?_;refine mM ok.glob fun mg hm O uQ O=>?_;refine X5 (qy he R hd hk hm ((uQ _ _ hg).trans (congrArg (fun a=>some (X0 a)) (ok.Ao c))) ?_);refine fC ts he hr F R (ai _ (.inr rfl) (ok.Ao c▸ok.BG _ _ hg)) h fun vs H1 n1 aD s1 q r R1 S1 l1=>?_;exact q A s1 aD Q' E hr r R1 fun v H3 n3 v' s3 q r R3 S3 l3=>po v H3 n3 v' s3 q r R3 (S1.trans S3) (TF l1 l3)
noncomputable def j2 (G:aA):GN->Value
 | .cls c=>.ref (G.ca c)
 | .bi b=>jT b
 | .fn i=>.ref (G.fa i)
 | .pB _=>.none
noncomputable def Isi (G:aA)(d:Nat)(a:V)(g:GN)(H:AH)(n:Nat)(Q:V->AH->Nat->Prop):Prop:=cj G d [a] (t1 fun v=>call (.builtin "isinstance") [v,j2 G g]) H n Q
theorem Gk {a:X}{g:GN}(ok:eu G)(h:bl G σ d a ρ H n fun va H1 n1=>Isi G d va g H1 n1 Q):bl G σ d (.fu a g) ρ H n Q:=by
 intro e env A s Q' E ht he hr F R po;refine Ey ht fun y ea p p' q' hi hg hg' ha ta=>?_
 ·refine cS (d6 hg) fun hd hk hg=>?_;refine G5 ok.glob fun mg hm hfn uQ O Bd hni=>?_;refine bE ok.L0 fun mb KJ MS QR=>?_;have Ng:∀(s:Xm) (Q':Value->Xm->Prop),(∀b o,G.h0.get? b=some o->s.heap.get? b=some o)->Q' (j2 G g) s->wpAny (model G.prog G.w) A (eval (.Name y p') env) Q' E s:=by
   intro s Q' hh q
   cases g with
   | cls c=>exact XY he.kind (he.Kx _ hk) (Y4 (he.globals▸hm.keeps hh) (uQ _ _ hg) q) hd
   | bi b=>exact XY he.kind (he.Kx _ hk) (loadGlobal_builtin (he.globals▸hm.keeps hh) (Bd _ _ hg) (he.builtins▸KJ.keeps hh) (MS _ _ hg) q) hd
   | fn i=>injection hg'
   | pB i=>injection hg'
  refine X5 (rL he R (by decide) hi hm hni KJ QR ?_);refine callWith_of (P:=fun O=>True) ?_ (fun h O=>(ai .machine (.inr (.inl rfl)) Looks.now)) ?_
  ·refine ab (iJ ha ..) ?_;rfl
  ·refine ab (iJ ha ..) ?_;refine evalArgs_plain (aah ?_);show wpAny _ A (eval ea env) _ _ _;refine h _ _ _ _ _ _ ta he hr F R fun va H1 n1 kI s1 h1 r1 R1 S1 l1=>?_;show wpAny _ A (spliced [(false,eval (.Name y p') env)]) _ _ _;refine aah (Ng s1 _ R1.glob (aao ⟨trivial,?_⟩));exact h1 A s1 [kI] Q' E hr (au.one r1) R1 fun v H3 n3 v' s3 q r R3 S3 l3=>po v H3 n3 v' s3 q r R3 (S1.trans S3) (TF l1 l3)
noncomputable def sG (G:aA)(d:Nat)(a i:V)(H:AH)(n:Nat)(Q:V->AH->Nat->Prop):Prop:=
 ∀A s va vi Q' E,cH d A->aC G s.heap (Pf G H) a va->aC G s.heap (Pf G H) i vi->ba G H n s->gC G H n s Q Q'->
  (∃T id,s.TypeIs va T/\Y7 (.type T) "__getitem__"=pure (some (.builtin id)))/\wpAny (model G.prog G.w) A (getItem va vi) Q' E s
theorem Mr {a i:X}(h:bl G σ d a ρ H n fun va H1 n1=>bl G σ d i ρ H1 n1 fun vi H2 n2=>sG G d va vi H2 n2 Q):bl G σ d (.sub a i) ρ H n Q:=by
 intro e env A s Q' E ht he hr F R po;refine mB ht fun ea ei pos hs ta ti=>?_
 ·refine Subscript_ (h _ _ _ _ _ _ ta he hr F R fun va H1 n1 kI s1 h1 ra R1 S1 l1=>?_);refine h1 _ _ _ _ _ _ ti he hr (F.step R S1) R1 fun vi H2 n2 PK s2 h2 ri R2 S2 l2=>?_;obtain ⟨⟨T,id,hT,hl⟩,hg⟩:=h2 A s2 kI PK Q' E hr (R1.rel S2 ra) ri R2 fun v H3 n3 v' s3 q r R3 S3 l3=>po v H3 n3 v' s3 q r R3 ((S1.trans S2).trans S3) (TF (TF l1 l2) l3);exact tail_any (ops:=[kI,PK]) hT hl hg (by cases ei <;> first | rfl | exact absurd hs T4)
noncomputable def fe (H:AH)(v:V)(l:List V):Prop:=v=.ag l\/∃a,v=.ref a/\H a=some (.list l)
theorem fe.frozen {l:List V}:fe H (.ag l) l:=.inl rfl
theorem fe.made {a:Addr}{l:List V}(h:H a=some (.list l)):fe H (.ref a) l:=.inr (ai a rfl h)
theorem fe.at {s:Xm}{v:V}{v':Value}{l:List V}(h:fe H v l)(R:ba G H n s)(r:aC G s.heap (Pf G H) v v'):∃a aj,v'=.ref a/\s.heap.PlainList a aj.toArray/\au G s.heap (Pf G H) l aj:=by
 rcases h with rfl | ⟨a,rfl,ha⟩
 ·refine cn r fun a aj e O hl r=>?_;exact (bA a aj e hl r)
 ·refine ah (R.objs _ _ ha) fun aj hl r'=>?_;exact (bA a aj r hl r')
inductive mO:V->Option Int->Prop
 | none:mO .none none
 | int (i:Int):mO (.int i) (some i)
theorem mO.is {v:V}{k:Option Int}{h:Heap}{P:Addr->Prop}{v':Value}(p:mO v k)(r:aC G h P v v'):IsPart v' k:=by
 cases p with
 | none=>refine ab (show v'=.none from r) ?_;exact .none
 | int i=>obtain ⟨t,rfl⟩:=SK.aG r;exact .int i t
noncomputable def iR (l:List V)(lo hi:Option Int):List V:=(l.drop (lo.elim 0 (XX l.length))).take (hi.elim l.length (XX l.length) - lo.elim 0 (XX l.length))
theorem nu {x:X}{o:Option Expr}{env:Env}{A:Xv}{s:Xm}{Q':Value->Xm->Prop}{E:Value->Xm->Prop}(t:Qe σ o x)(he:bQ G σ env)(hr:cH d A)(F:df G σ env ρ H s.heap)(R:ba G H n s)
 (h:bl G σ d x ρ H n Q) (po:gC G H n s Q Q'):wpAny (model G.prog G.w) A (evalPart o env) Q' E s:=by
 cases o with
 | none=>
  have hx:x=.none:=by cases x <;> first | rfl | exact absurd t T4
  subst hx;have:=h (.Constant .none 0 default) env A s Q' E rfl he hr F R po;exact this
 | some e=>exact h _ _ _ _ _ _ t he hr F R po
theorem Mq {a lo hi:X}(h:bl G σ d a ρ H n fun va H1 n1=>bl G σ d lo ρ H1 n1 fun vl H2 n2=>bl G σ d hi ρ H2 n2 fun vh H3 n3=>∃l kl kh,fe H3 va l/\l.length<=16777216/\mO vl kl/\mO vh kh/\Q (.ag (iR l kl kh)) H3 n3):
 bl G σ d (.pH a lo hi) ρ H n Q:=by
 intro e env A s Q' E ht he hr F R po;refine EE ht fun ea elo ehi pos q ta tl th=>?_
 ·refine Subscript_ (h _ _ _ _ _ _ ta he hr F R fun va H1 n1 kI s1 h1 ra R1 S1 l1=>?_);refine wpAny_Slice (nu tl he hr (F.step R S1) R1 h1 fun vl H2 n2 vl' s2 h2 rl R2 S2 l2=>?_);refine nu th he hr (F.step R (S1.trans S2)) R2 h2 fun vh H3 n3 vh' s3 h3 rh R3 S3 l3=>?_;refine PS h3 fun l kl kh Rn hsz pl ph q=>?_;refine cy (Rn.at R3 (R1.rel (S2.trans S3) ra)) fun a aj hl rl'=>?_;refine ab (evalPart_none ..) ?_;refine Xn ?_;have KH:=hl.isList;have aI:=rl'.length;refine tail_any (T:="list") (ops:=[.ref s3.heap.objs.size,.ref a]) (KH.push _).typeIs aaa (wpAny_getItem_list_slice (KH.push _) (Heap.IsSliceOf.new ..) (pl.is (R2.rel S3 rl)) (ph.is rh) .none (by simp) ?_ ?_) rfl
  ·obtain ⟨R4,S4⟩:=R3.push {cls:=.type "slice",data:=.fields #[vl',vh',.none]} (tk:=s3.toks);refine ab (slicePick_plain ..) ?_;obtain ⟨R5,S5⟩:=R4.push {cls:=.type "list",data:=.seq ((aj.toArray.toList.drop (kl.elim 0 (XX aj.toArray.size))).take (kh.elim aj.toArray.size (XX aj.toArray.size) - kl.elim 0 (XX aj.toArray.size))).toArray} (tk:=s3.toks);refine po _ _ _ _ _ q (cD _ _ rfl (R4.aY (TJ _)) ⟨_,Xq _ rfl⟩ ?_) R5 ((((S1.trans S2).trans S3).trans S4).trans S5) (aH (cm n n1 n2 n3) [(1,aq,aw),(1,aw,aN),(1,aN,bL)] aq bL rfl l1 l2 l3);have r5:=R4.jd S5 (R3.jd S4 rl');have e1:aj.toArray.size=l.length:=by simp [aI]
   simp only [e1] at r5 ⊢;exact au.take _ (au.drop _ r5)
  ·simp only [Ub,aI];refine ab Xw ?_;exact hsz
end
noncomputable def fZ (σ:cw)(env:Env)(a:Addr):Prop:=a=env.locals\/∃x,(x,a)∈env.cells/\σ.names.lookup x=some .cell
structure bJ (X:Addr->Prop)(H:AH)(h:Heap)(H':AH)(h':Heap):Prop where
 keep:∀b o,h.get? b=some o->H b=none->¬X b->h'.get? b=some o
 u9:∀b,H' b≠none->H b≠none\/h.objs.size<=b
 size:h.objs.size<=h'.objs.size
noncomputable abbrev ff (σ:cw)(env:Env):=bJ (fZ σ env)
section
variable {X Y:Addr->Prop}{H H' Li:AH}{h h' Mz:Heap}
theorem bJ.refl:bJ X H h H h:=⟨fun O O e O O=>e,fun O e=>.inl e,TJ _⟩
theorem bJ.old (S:bJ X H h H' h'){b:Addr}{o:Obj}(e:h.get? b=some o)(hb:H b=none):H' b=none:=by
 cases q:H' b with
 | none=>rfl
 | some _=>
  rcases S.u9 b (by refine ab q ?_;simp) with x | x
  ·exact absurd hb x
  ·exact absurd (Xr e) (Ux.mpr x)
theorem bJ.trans (S:bJ X H h H' h')(T:bJ X H' h' Li Mz):bJ X H h Li Mz:=
 ⟨fun b o e hb hm=>T.keep b o (S.keep b o e hb hm) (S.old e hb) hm,fun b e=>by
  rcases T.u9 b e with x | x
  ·exact S.u9 b x
  ·exact .inr (TF S.size x),TF S.size T.size⟩
theorem bJ.mono (S:bJ X H h H' h')(Er:∀b,X b->Y b):bJ Y H h H' h':=⟨fun b o e hb hm=>S.keep b o e hb fun q=>hm (Er b q),S.u9,S.size⟩
theorem bJ.less (S:bJ Y H h H' h')(Er:∀b o,Y b->h.get? b=some o->H b=none->X b):bJ X H h H' h':=⟨fun b o e hb hm=>S.keep b o e hb fun q=>hm (Er b o q e hb),S.u9,S.size⟩
theorem cz.gW (S:cz H h H' h'):bJ X H h H' h':=⟨fun b o e hb O=>S.keep b o e hb,S.u9,S.size⟩
theorem bJ.toStep (S:bJ X H h H' h')(hx:∀b o,X b->h.get? b=some o->H b≠none):cz H h H' h':=⟨fun b o e hb=>S.keep b o e hb fun q=>hx b o q e hb,S.u9,S.size⟩
end
theorem y4 {h:Heap}{a:Addr}{m m':Str->Option Value}(x:h.Ns a m)(y:h.Ns a m')(n:Str):m n=m' n:=by
 refine kK x fun o es ep ho hd O hf=>?_;refine kK y fun o' es' ep' yI vw O QZ=>?_;rw [ho] at yI;(injection yI with e;subst e);rw [hd] at vw;(injection vw with e1 e2;subst e1;subst e2);exact bk (hf ..) (bk (QZ ..) rfl)
section
variable {G:aA}{σ:cw}{d:Nat}{ρ:bt}{H:AH}{n:Nat}
theorem df.own {env:Env}{h:Heap}(F:df G σ env ρ H h){b:Addr}(hb:fZ σ env b):G.own b:=by
 rcases hb with rfl | ⟨x,hx⟩
 ·exact F.L
 ·exact (F.cells x b hx.1).1
theorem ba.fH {X:Addr->Prop}{s:Xm}{H':AH}{h':Heap}(R:ba G H n s)(hX:∀b,X b->G.own b)(S:bJ X H s.heap H' h'):fc G s.heap (Pf G H) h' (Pf G H'):=by
 refine ⟨fun a o e hd=>S.keep a o e ?_ fun hm=>?_,fun a o e hp=>S.keep a o e hp.1 fun hm=>hp.2.2 (hX a hm),fun a o e hp=>⟨S.old e hp.1,hp.2⟩⟩
 ·cases q:H a with
  | none=>rfl
  | some ob=>
   obtain ⟨o',e'⟩:=hd;rw [(R.lo a (by refine ab q ?_;simp)).1] at e';injection e'
 ·obtain ⟨o',e'⟩:=hd;rw [(R.own a (hX a hm)).2.1] at e';injection e'
theorem ba.Fl {X:Addr->Prop}{s:Xm}{H':AH}{h':Heap}(R:ba G H n s)(hX:∀b,X b->G.own b)(S:bJ X H s.heap H' h'){x:V}{v:Value}(r:aC G s.heap (Pf G H) x v):aC G h' (Pf G H') x v:=aC.kept (R.fH hX S) x r
theorem df.kept {env:Env}{s:Xm}{H':AH}{h':Heap}(F:df G σ env ρ H s.heap)(R:ba G H n s)(S:ff σ env H s.heap H' h'):fc G s.heap (Pf G H) h' (Pf G H'):=R.fH (fun O=>F.own) S
theorem df.rel {env:Env}{s:Xm}{H':AH}{h':Heap}(F:df G σ env ρ H s.heap)(R:ba G H n s)(S:ff σ env H s.heap H' h'){x:V}{v:Value}(r:aC G s.heap (Pf G H) x v):aC G h' (Pf G H') x v:=aC.kept (F.kept R S) x r
theorem df.jd {env:Env}{s:Xm}{H':AH}{h':Heap}(F:df G σ env ρ H s.heap)(R:ba G H n s)(S:ff σ env H s.heap H' h'){x:List V}{v:List Value}(r:au G s.heap (Pf G H) x v):au G h' (Pf G H') x v:=au.kept (F.kept R S) x r
theorem rJ:∀{l:List (Str × Addr)} {x y:Str} {c e:Addr},l.Pairwise (fun x y=>x.2≠y.2)->(x,c)∈l->(y,e)∈l->x≠y->c≠e:=by
 intro l
 induction l with
 | nil=>
 exact fun {O O O O} O h O O=>nomatch h
 | cons p l ih=>
 exact fun {x y c e} hp hx hy aJ=>by
  cases hp with
  | cons h1 h2=>
   rcases TN.mp hx with e1 | KZ <;> rcases TN.mp hy with e2 | hy1
   ·rw [<- e1] at e2;(injection e2 with e1 e2;subst e1;subst e2);exact absurd rfl aJ
   ·subst e1;exact h1 _ hy1
   ·subst e2;exact fun q=>h1 _ KZ q.symm
   ·exact ih h2 KZ hy1 aJ
theorem ba.j8 {X:Addr->Prop}{s:Xm}{h':Heap}{tk:Nat}(R:ba G H n s)(hX:∀b,X b->G.own b)(hk:∀b o,¬X b->s.heap.get? b=some o->h'.get? b=some o)(hz:s.heap.objs.size<=h'.objs.size):
 ba G H n {s with heap:=h',toks:=tk}/\bJ X H s.heap H h':=by
 have S:bJ X H s.heap H h':=⟨fun c o e O hm=>hk c o hm e,fun O e=>.inl e,hz⟩;have K:=R.fH hX S;have aJ:∀c,H c≠none->¬X c:=fun c hc q=>hc (R.own c (hX c q)).2.2;refine ⟨⟨by exact ab R.base rfl,TF R.size hz,fun a o e=>?_,fun c o e=>?_,R.lo,fun a e=>?_⟩,S⟩
 ·exact (R.objs a o e).kept K (fun c ob hc ec=>hk c ob (aJ c (by rcases hc with rfl | hc <;> simp_all)) ec) fun O q=>q
 ·exact hk c o (fun q=>by rw [(R.own c (hX c q)).2.1] at e;injection e) (R.glob c o e)
 ·obtain ⟨o1,o2⟩:=R.own a e;exact ⟨TO o1 hz,o2⟩
theorem ba.NY {env:Env}{s:Xm}{b:Addr}{h':Heap}{tk:Nat}(F:df G σ env ρ H s.heap)(R:ba G H n s)(hb:fZ σ env b)(hs:X7 b s.heap h'):ba G H n {s with heap:=h',toks:=tk}/\ff σ env H s.heap H h':=
 R.j8 (fun O=>F.own) (fun c o hm e=>(hs.2 c fun q=>hm (q▸hb)).trans e) (by refine ab (bz hs) ?_;exact TJ _)
theorem lF {l:List Str}{x y:Str}{i:Nat}(h1:l.findIdx? (· ==x)=some i)(h2:l.findIdx? (· ==y)=some i):x=y:=by
 refine ah (U1.mp h1) fun bO h1 O=>?_;refine ah (U1.mp h2) fun O h2 O=>?_;exact bk (beq_iff_eq.mp h1) (bk (beq_iff_eq.mp h2) rfl)
theorem fE {l:List Str}{x:Str}{i:Nat}(h1:l.findIdx? (· ==x)=some i):l[i]? =some x:=by
 refine ah (U1.mp h1) fun bO h1 O=>?_;exact ab (T9 bO) (ab (beq_iff_eq.mp h1) rfl)
theorem eF {env:Env}{A:Xv}{s:Xm}{x:Str}{i:Nat}{v:V}{v':Value}{Q':Unit->Xm->Prop}{E:Value->Xm->Prop}(he:bQ G σ env)(F:df G σ env ρ H s.heap)(R:ba G H n s)
 (hi:σ.vars.findIdx? (· ==x)=some i) (mh:σ.stores i=true) (hv:aC G s.heap (Pf G H) v v')
 (q:∀s',df G σ env (ρ.set i (some v)) H s'.heap->ba G H n s'->ff σ env H s.heap H s'.heap->Q' () s'):wpAny (model G.prog G.w) A (storeName env x v') Q' E s:=by
 unfold cw.stores at mh;rw [fE hi] at mh;simp only [Wd,beq_iff_eq] at mh;obtain ⟨m,hm⟩:=F.ns;rcases mh with hk | hk
 ·refine wpAny_storeName_local (he.loc x hk) hm (fun h' hn hs=>?_) (by refine ab he.kind ?_;rfl);obtain ⟨R',S⟩:=R.NY F (.inl rfl) hs (tk:=s.toks+1);refine q _ ⟨⟨_,hn⟩,fun y j u Q6 hj hu=>?_,F.L,fun y c hc=>?_,(WD ..).trans F.len⟩ R' S
  ·rw [Wn] at hu
   split at hu
   ·rename_i e;subst e;have:=lF hi hj;subst this
    split at hu
    ·cases hu
     exact (ai v' (.inl ⟨he.loc x hk,ai _ hn (by simp)⟩) (F.rel R S hv))
    ·injection hu
   ·rename_i e;have Bk:y≠x:=fun q=>e (by subst q;rw [hi] at hj;cases hj;rfl);refine ah (F.vars y j u Q6 hj hu) fun u' hh hr=>?_;refine (ai u' ?_ (F.rel R S hr));rcases hh with ⟨vB,m',Nb,e'⟩ | ⟨vB,c,hl,tJ⟩
    ·exact .inl ⟨vB,ai _ hn (by show (if y=x then _ else m y)=_;exact ab (if_neg Bk ..) (ab (y4 hm Nb ..) (ab (e' ..) rfl)))⟩
    ·exact .inr ⟨vB,ai c hl (tJ.sameBut hs (he.Cj _ _ (mem_of_lookup hl)))⟩
  ·obtain ⟨h1,w,hw⟩:=F.cells y c hc;exact ⟨h1,w,hw.sameBut hs (he.Cj _ _ hc)⟩
 ·obtain ⟨Gw,c,hl⟩:=he.Qr x (.inl hk);have Gw:env.kindOf x=some .cell\/env.kindOf x=some .free:=Gw;obtain ⟨h1,w,hw⟩:=F.cells x c (mem_of_lookup hl);refine wpAny_storeName_cell he.kind (he.HD x hk) hl hw fun h' hn hs=>?_
  (
   obtain ⟨R',S⟩:=R.NY F (.inr (ai x (mem_of_lookup hl) hk)) hs (tk:=s.toks);refine q _ ⟨⟨m,hm.sameBut hs fun q=>he.Cj _ _ (mem_of_lookup hl) q.symm⟩,fun y j u Q6 hj hu=>?_,F.L,fun y c' hc=>?_,(WD ..).trans F.len⟩ R' S
   ·rw [Wn] at hu
    split at hu
    ·rename_i e;subst e;have:=lF hi hj;subst this
     split at hu
     ·cases hu
      exact (ai v' (.inr ⟨Gw,ai c hl hn⟩) (F.rel R S hv))
     ·injection hu
    ·rename_i e;have Bk:y≠x:=fun q=>e (by subst q;rw [hi] at hj;cases hj;rfl);refine ah (F.vars y j u Q6 hj hu) fun u' hh hr=>?_;refine (ai u' ?_ (F.rel R S hr));rcases hh with ⟨vB,m',Nb,e'⟩ | ⟨vB,c2,De,tJ⟩
     ·exact .inl ⟨vB,ai m' (Nb.sameBut hs fun q=>he.Cj _ _ (mem_of_lookup hl) q.symm) e'⟩
     ·exact .inr ⟨vB,ai c2 De (tJ.sameBut hs (he.apart _ _ _ _ (mem_of_lookup De) (mem_of_lookup hl) Bk))⟩
   ·by_cases e:c'=c
    ·subst e;exact ⟨h1,_,hn⟩
    ·obtain ⟨h1',w',NF⟩:=F.cells y c' hc;exact ⟨h1',w',NF.sameBut hs e⟩)
end
section
variable (G:aA)(σ:cw)(d:Nat)
noncomputable abbrev pN (env:Env)(H:AH)(n:Nat)(s:Xm)(Q:bt->AH->Nat->Prop)(K:Xm->Prop):Prop:=
 ∀ρ' H' n' s',Q ρ' H' n'->df G σ env ρ' H' s'.heap->ba G H' n' s'->ff σ env H s.heap H' s'.heap->n<=n'->K s'
noncomputable abbrev sN (env:Env)(H:AH)(n:Nat)(s:Xm)(R:V->AH->Nat->Prop)(K:Value->Xm->Prop):Prop:=
 ∀v H' n' v' s',R v H' n'->aC G s'.heap (Pf G H') v v'->ba G H' n' s'->ff σ env H s.heap H' s'.heap->n<=n'->K v' s'
noncomputable def ij (t:X)(v:V)(ρ:bt)(H:AH)(n:Nat)(Q:bt->AH->Nat->Prop):Prop:=
 ∀te env A s v' Q' E,gr σ t=true->cI σ te t->bQ G σ env->cH d A->df G σ env ρ H s.heap->ba G H n s->aC G s.heap (Pf G H) v v'->pN G σ env H n s Q (Q' ())->wpAny (model G.prog G.w) A (X3 te env v') Q' E s
noncomputable def ja (st:St)(ρ:bt)(H:AH)(n:Nat)(Q:bt->AH->Nat->Prop)(R:V->AH->Nat->Prop):Prop:=
 ∀Fy env A s Q' E,zy σ Fy st->bQ G σ env->cH d A->df G σ env ρ H s.heap->ba G H n s->pN G σ env H n s Q (Q' .next)->sN G σ env H n s R (fun v'=>Q' (.ret v'))->wpAny (model G.prog G.w) A (exec Fy env) Q' E s
noncomputable def ez (dY:List St)(ρ:bt)(H:AH)(n:Nat)(Q:bt->AH->Nat->Prop)(R:V->AH->Nat->Prop):Prop:=
 ∀stmts env A s Q' E,lX σ stmts dY->bQ G σ env->cH d A->df G σ env ρ H s.heap->ba G H n s->pN G σ env H n s Q (Q' .next)->sN G σ env H n s R (fun v'=>Q' (.ret v'))->wpAny (model G.prog G.w) A (execs stmts env) Q' E s
noncomputable def dH (ne:Nat)(dY:List St)(ρ:bt)(H:AH)(n:Nat)(R:V->AH->Nat->Prop):Prop:=
 ∀stmts env A s (Q':Flow->Xm->Prop) E He he,lX σ stmts dY->bQ G σ env->cH d A->df G σ env ρ H s.heap->ba G H n s->ff σ env He he H s.heap->he.objs.size<=ne->
  (∀v H' n' v' s' f,R v H' n'->aC G s'.heap (Pf G H') v v'->ba G H' n' s'->ff σ env He he H' s'.heap->n<=n'->(f=.ret v'\/(f=.next/\v'=.none))->Q' f s')->wpAny (model G.prog G.w) A (execs stmts env) Q' E s
end
section
variable {G:aA}{σ:cw}{d:Nat}{ρ:bt}{H:AH}{n:Nat}
theorem pN.trans {env:Env}{H1:AH}{n1:Nat}{s s1:Xm}{Q:bt->AH->Nat->Prop}{K:Xm->Prop}(h:pN G σ env H n s Q K)(S:ff σ env H s.heap H1 s1.heap)(l:n<=n1):pN G σ env H1 n1 s1 Q K:=
 fun ρ' H' n' s' q F R S' l'=>h ρ' H' n' s' q F R (S.trans S') (TF l l')
theorem sN.trans {env:Env}{H1:AH}{n1:Nat}{s s1:Xm}{R:V->AH->Nat->Prop}{K:Value->Xm->Prop}(h:sN G σ env H n s R K)(S:ff σ env H s.heap H1 s1.heap)(l:n<=n1):sN G σ env H1 n1 s1 R K:=
 fun v H' n' v' s' q r R S' l'=>h v H' n' v' s' q r R (S.trans S') (TF l l')
theorem LM {i:Nat}{v:V}{Q:bt->AH->Nat->Prop}(h:Q (ρ.set i (some v)) H n):ij G σ d (.var i) v ρ H n Q:=by
 intro te env A s v' Q' E mh ht he hr F R rv po;refine gL ht fun x p hd hk hi O=>?_
 ·exact Y6 (eF he F R hi mh rv fun s' F' R' S'=>po _ _ _ _ h F' R' S' (TJ _))
theorem LL {a i:X}{v:V}{Q:bt->AH->Nat->Prop}(h:bl G σ d a ρ H n fun va H1 n1=>bl G σ d i ρ H1 n1 fun vi H2 n2=>zT G d va vi v H2 n2 fun H3 n3=>Q ρ H3 n3):ij G σ d (.sub a i) v ρ H n Q:=by
 intro te env A s v' Q' E _ ht he hr F R rv po;refine mB ht fun ea ei p hs ta ti=>?_
 ·refine ab (assign_Subscript ..) ?_;refine Xl (Xs (h _ _ _ _ _ _ ta he hr F R fun va H1 n1 kI s1 h1 ra R1 S1 l1=>?_));refine Xl (Xs (h1 _ _ _ _ _ _ ti he hr (F.step R S1) R1 fun vi H2 n2 PK s2 h2 ri R2 S2 l2=>?_));refine Xl (XF (Xl (Xs ?_)));refine h2 A s2 [kI,PK,v'] _ E hr (Ou (R1.rel S2 ra) ri (R.rel (S1.trans S2) rv)) R2 fun H3 n3 s3 q R3 S3 l3=>?_;exact Z4 (po _ _ _ _ q (F.step R ((S1.trans S2).trans S3)) R3 ((S1.trans S2).trans S3).gW (aH (cm n n1 n2 n3) [(1,aq,aw),(1,aw,aN),(1,aN,bL)] aq bL rfl l1 l2 l3))
noncomputable def zQ (G:aA)(d:Nat)(o:V)(f:Str)(v:V)(H:AH)(n:Nat)(Q:AH->Nat->Prop):Prop:=Lx G d [o,v] (t2 fun o v=>setAttr o f v) H n Q
theorem Hm {a:X}{f:Str}{v:V}{Q:bt->AH->Nat->Prop}(h:bl G σ d a ρ H n fun va H1 n1=>zQ G d va f v H1 n1 fun H3 n3=>Q ρ H3 n3):ij G σ d (.attr a f) v ρ H n Q:=by
 intro te env A s v' Q' E _ ht he hr F R rv po;refine nR ht fun ea p O ta=>?_
 ·refine ab (assign_Attribute ..) ?_;refine Xl (Xs (h _ _ _ _ _ _ ta he hr F R fun va H1 n1 kI s1 h1 ra R1 S1 l1=>?_));refine Xl (XF (Xl (Xs ?_)));refine h1 A s1 [kI,v'] _ E hr (qE ra (R.rel S1 rv)) R1 fun H3 n3 s3 q R3 S3 l3=>?_;exact Z4 (po _ _ _ _ q (F.step R (S1.trans S3)) R3 (S1.trans S3).gW (aH (bC n n1 n3) [(1,aq,aw),(1,aw,aN)] aq aN rfl l1 l3))
noncomputable def lz:bt->List Nat->List V->bt
 | ρ,i::is,v::vs=>lz (ρ.set i (some v)) is vs
 | ρ,_,_=>ρ
theorem qM:∀{is:List Nat} {es:List Expr},d3 σ es (is.map X.var)->∀env,(Yq es env).length=is.length/\(Yq es env).findIdx? (·.1)=none/\(Yq es env).map (·.2)=es.map fun e=>X3 e env
 | [],es,h,env=>by refine ab (dN h) ?_;exact ⟨rfl,rfl,rfl⟩
 | i::is,es,h,env=>by
  refine dm h fun e es O t1 t2=>?_;refine cS (qM t2 env) fun h1 h2 h3=>?_;refine gL t1 fun x p hd hk hi O=>?_;refine ⟨?_,?_,?_⟩
  ·exact congrArg Nat.succ h1
  ·show List.findIdx? (·.1) ((false,X3 (.Name x p) env)::Yq es env)=none;refine ab (List.findIdx?_cons ..) (ab h2 ?_);rfl
  ·exact congrArg (List.cons _) h3
theorem js:∀{is:List Nat} {es:List Expr} {vs:List V} {aD:List Value} {ρ:bt} {env:Env} {A:Xv} {s:Xm} {Q':Unit->Xm->Prop} {E:Value->Xm->Prop},d3 σ es (is.map X.var)->(∀i∈is,σ.stores i=true)->bQ G σ env->df G σ env ρ H s.heap->ba G H n s->
 au G s.heap (Pf G H) vs aD->is.length=vs.length->(∀s',df G σ env (lz ρ is vs) H s'.heap->ba G H n s'->ff σ env H s.heap H s'.heap->Q' () s')->wpAny (model G.prog G.w) A (Z5 (es.map fun e=>X3 e env) aD) Q' E s
 | [],es,vs,aD,ρ,env,A,s,Q',E,ht,mh,he,F,R,rv,hl,po=>by
  refine ab (dN ht) ?_
  cases vs with
  | nil=>refine ab (au.nil_inv rv) ?_;exact Xn (po s F R .refl)
  | cons=>injection hl
 | i::is,es,vs,aD,ρ,env,A,s,Q',E,ht,mh,he,F,R,rv,hl,po=>by
  refine dm ht fun e es O t1 t2=>?_
  cases vs with
  | nil=>injection hl
  | cons v vs=>
   refine cy (au.cons_inv rv) fun v' r' h1 h2=>?_;refine gL t1 fun x p hd hk hi O=>?_;show wpAny _ A (do Yp r' (X3 (.Name x p) env v');Z5 (es.map fun e=>X3 e env) r') _ _ _;refine Xl (Xs (Y6 (eF he F R hi (mh _ (.head _)) h1 fun s1 F1 R1 S1=>?_)));exact js t2 (fun j hj=>mh j (.tail _ hj)) he F1 R1 (F.jd R S1 h2) (by simpa using hl) fun s2 F2 R2 S2=>po s2 F2 R2 (S1.trans S2)
theorem ie {prog:XS}{w:World}{A:Xv}{E:Value->Xm->Prop}{it t:Addr}{aj:Array Value}(aJ:t≠it):∀(n i:Nat) (s:Xm) (Q:List Value->Xm->Prop),s.heap.IsListIter it t i->s.heap.IsList t aj->i+n<=aj.size->
 (∀h',h'.IsListIter it t (i+n)->X7 it s.heap h'->Q ((aj.toList.drop i).take n) {s with heap:=h'})->wpAny (model prog w) A (draw (.ref it) n) Q E s
 | 0=> @fun i s Q qk O O hQ=>by
  show wpAny _ _ (pure []) Q E s;exact Xn (by simpa using hQ s.heap qk (Heap.SameBut.refl ..))
 | n+1=> @fun i s Q qk ht KI hQ=>by
  have bO:i<aj.size:=by exact aH (bC i n aj.size) [(1,.add aq (.add aw ay),aN)] (.add aq ay) aN rfl KI
  show wpAny _ _ (Zg (.ref it) >>=_) Q E s;refine Xl (wpAny_pyNext_list_item qk ht (x:=aj[i]) (by simp [bO]) fun h₁ Iu Nz=>?_);refine Xl (Xs (ie aJ n (i+1) _ _ Iu (ht.extBut Nz.extBut aJ) (aH (bC i n aj.size) [(1,.add aq (.add aw ay),aN)] (.add (.add aq ay) aw) aN rfl KI) fun h₂ Q4 hs₂=>Xn ?_));have hd:aj.toList.drop i=aj[i]::aj.toList.drop (i+1):=by simp [List.drop_eq_getElem_cons,bO]
  have:=hQ h₂ (by refine ab (show i+(n+1)=i+1+n by exact UC (aH (bc i n) [] (.add aq (.add aw ay)) (.add (.add aq ay) aw) rfl) (aH (bc i n) [] (.add (.add aq ay) aw) (.add aq (.add aw ay)) rfl)) ?_;exact Q4) (Nz.trans hs₂);rw [hd,List.take_succ_cons] at this;exact this
theorem g9 {prog:XS}{w:World}{A:Xv}{E:Value->Xm->Prop}{s:Xm}{t:Addr}{aj:Array Value}{Q:List Value->Xm->Prop}(hh:A.handled=none)(ht:s.heap.IsList t aj)
 (hQ:∀h',Heap.ExtBut s.heap.objs.size s.heap h'->Q aj.toList {s with heap:=h'}):wpAny (model prog w) A (ZA (.ref t) aj.size none) Q E s:=by
 have bO:t≠s.heap.objs.size:=by refine ah ht fun o ho O=>?_;exact UA (Xr ho)
 unfold ZA;refine Xl ?_;unfold notIterableAtAll;refine Xl (X4 ht.typeIs slot_list_iter.lookup ?_);refine Xn ?_;refine Xl (Xs (wpAny_pyIter_list ht ?_));refine Xl (Xs (ie bO aj.size 0 _ _ (bW _ (Xq _ rfl) rfl rfl) (ht.push _) (aH (bI aj.size) [] (.add rH aq) aq rfl) fun h₁ Iu Nz=>?_));have eY:List.take aj.size (List.drop 0 aj.toList)=aj.toList:=by
  refine ab List.drop_zero ?_;exact VE (by simp)
 refine ab eY ?_;refine ab (if_neg (by simp)) ?_;have ht₁:h₁.IsList t aj:=(ht.push _).extBut Nz.extBut bO;refine Xl (Xs (wpAny_pyNext_list_end hh Iu ht₁ (by simp) fun h₂ he₂=>?_));exact Xn (hQ h₂ fun b o hb e=>he₂ b o hb (Nz.extBut b o hb (Xo _ e)))
theorem ba.gM {s:Xm}{h':Heap}{tk:Nat}(R:ba G H n s)(hk:∀b o,s.heap.get? b=some o->h'.get? b=some o)(hz:s.heap.objs.size<=h'.objs.size):ba G H n {s with heap:=h',toks:=tk}/\cz H s.heap H h':=by
 obtain ⟨R',S'⟩:=R.j8 (X:=fun O=>False) (tk:=tk) (fun O h=>h.elim) (fun b o O e=>hk b o e) hz;exact ⟨R',S'.toStep fun O O h=>h.elim⟩
theorem gu {env:Env}{A:Xv}{s:Xm}{v:V}{v':Value}{vs:List V}{k:Nat}{Q':List Value->Xm->Prop}{E:Value->Xm->Prop}(hr:cH d A)(R:ba G H n s)(hv:v=.tup vs\/fe H v vs)(hk:k=vs.length)
 (rv:aC G s.heap (Pf G H) v v') (po:∀aD s',ba G H n s'->cz H s.heap H s'.heap->au G s'.heap (Pf G H) vs aD->Q' aD s'):wpAny (model G.prog G.w) A (ZA v' k none) Q' E s:=by
 subst hk;refine eG ?_;rcases hv with rfl | hv
 ·refine fL rv fun a aj p ht r=>?_;have aI:=r.length;refine bk aI (bk Ub ?_);refine wpAny_unpackItems_tuple hr.hh ht fun h' hx hz=>?_;obtain ⟨R',S'⟩:=R.gM (tk:=s.toks) (fun b o e=>hx b o (UA (Xr e)) e) hz;exact po _ _ R' S' (by simpa using R.jd S' r)
 ·refine cy (hv.at R rv) fun a aj ht r=>?_;have aI:=r.length;refine bk aI (bk Ub ?_);refine g9 hr.hh ht.isList fun h' hx hz=>?_;obtain ⟨R',S'⟩:=R.gM (tk:=s.toks) (fun b o e=>hx b o (UA (Xr e)) e) hz;exact po _ _ R' S' (by simpa using R.jd S' r)
theorem oM {is:List Nat}(h:gr σ (.tup (is.map .var))=true):(∀i∈is,σ.stores i=true)/\vV is=true:=by
 obtain ⟨h1,h2⟩:=af h;have e:(is.map X.var).map X.vr=is:=by refine ab Ua ?_;exact Wr _
 rw [e] at h2;refine ⟨fun i hi=>?_,h2⟩;have:=Ut.mp h1 (.var i) (TV hi);exact this
theorem FW {is:List Nat}{v:V}{vs:List V}{Q:bt->AH->Nat->Prop}(hv:v=.tup vs\/fe H v vs)(hl:is.length=vs.length)(h:Q (lz ρ is vs) H n):ij G σ d (.tup (is.map .var)) v ρ H n Q:=by
 intro te env A s v' Q' E mh ht he hr F R rv po;obtain ⟨mh,_⟩:=oM mh;refine mC ht fun es k p O ts=>?_;refine cS (qM ts env) fun h1 h2 h3=>?_;refine ab (arm_assign_Tuple ..) ?_;refine Xl (XF ?_);unfold unpack;refine ab h2 (ab h1 (ab h3 ?_));refine Xl (Xs (gu (env:=env) hr R hv hl rv fun aD s1 R1 S1 r1=>?_));exact js ts mh he (F.step R S1) R1 r1 hl fun s2 F2 R2 S2=>po _ _ _ _ h F2 R2 (S1.gW.trans S2) (TJ _)
end
theorem jD {α:Type}{c:Prop}[d:Decidable c]{a b:α}{P:α->Prop}(h1:c->P a)(h2:¬c->P b):P (if c then a else b):=by cases d with | isTrue h=>exact h1 h | isFalse h=>exact h2 h
theorem zq {f:Expr->Option Str}{p q:Expr}{x y:Str}(h:(WR f [p,q]).length=2)(ha:f p=none\/f p=some x)(hb:f q=none\/f q=some y):WR f [p,q]=[x,y]:=by
 have h:(WR id [f p,f q]).length=2:=h;show WR id [f p,f q]=_;rcases ha with e | e <;> rcases hb with e2 | e2 <;> rw [e,e2] at h ⊢
 ·exact nomatch h
 ·exact nomatch h
 ·exact nomatch h
 ·rfl
noncomputable def xq (ts:List Expr)(env:Env):List Str:=ts.filterMap fun | .Name id pos=>if env.kindOf id==some .local&&pos.line==(ts.head?.map (·.pos.line)).getD 0 then some id else none | _=>none
noncomputable def Lz (ts:List Expr)(env:Env)(x:Sem (Option (List Str))):Prop:=x=pure none\/(x=pure (some (xq ts env))/\ts.length=2/\(xq ts env).length=ts.length)
theorem Lz.no {ts:List Expr}{env:Env}:Lz ts env (pure none):=.inl rfl
theorem wm {ts vs:List Expr}{k k':Nat}{p p':Pos}{env:Env}(h:(vs.all (constantsAlone 8) || ts.length==3)=false):Lz ts env (Z6 [.Tuple ts k p] (.Tuple vs k' p') env):=by
 have h:=(Vw ..).mp h;show Lz ts env (if _ then _ else _);refine jD (fun O=>.no) fun c1=>jD (fun O=>.no) fun O=>jD (fun O=>.no) fun c3=>jD (fun O=>.no) fun O=>jD (fun c=>?_) fun O=>.inr ⟨rfl,?_,?_⟩
 ·rw [h.1] at c;exact bf c
 ·have c1:=(Vw ..).mp ((Vw ..).mp (Bool.eq_false_iff.mpr c1)).1;have c2:(ts.length==2 || ts.length==3)=true:=by
   cases e:(ts.length==2 || ts.length==3) with | true=>rfl | false=>rw [e] at c1;exact bf c1.1.symm
  rw [h.2,WY] at c2;exact eq_of_beq c2
 ·have c3:((xq ts env).length != ts.length)=false:=((Vw ..).mp (Bool.eq_false_iff.mpr c3)).1;exact Decidable.not_not.mp fun q=>bf (c3.symm.trans (bne_iff_ne.mpr q))
theorem rZ {ts:List Expr}{k:Nat}{p:Pos}{e:Expr}{env:Env}(h:Kh (.Tuple ts k p) e=true):Lz ts env (Z6 [.Tuple ts k p] e env):=by
 cases e with
 | Tuple vs k' p'=>exact wm (not_true (af h).2)
 | _=>exact .no
section
variable {G:aA}{σ:cw}{d:Nat}{ρ:bt}{H:AH}{n:Nat}{Q:bt->AH->Nat->Prop}{R:V->AH->Nat->Prop}
theorem jh {M:Model}{A:Xv}{E:Value->Xm->Prop}{env:Env}{s:Xm}{te:Expr}{v:Value}{Q':Flow->Xm->Prop}(hn:(Yq [te] env).map (·.2)=[X3 te env])(h:wpAny M A (X3 te env v) (fun O=>Q' .next) E s):wpAny M A (assignStores env v none ((Yq [te] env).map (·.2))) Q' E s:=by
 refine ab hn ?_;show wpAny M A (do assignAll v [X3 te env];pure .next) Q' E s;exact Xl (XC h (fun O O q=>Xn q) fun O O q=>q)
theorem wR {e:Expr}{M:Expr->Prop}(h:iE e=true)(m1:∀a b c p,M (.ListComp a b c p))(m2:∀a b c p,M (.SetComp a b c p))(m3:∀a b c d p,M (.DictComp a b c d p)):M e:=by
 cases e with
 | ListComp=>exact m1 ..
 | SetComp=>exact m2 ..
 | DictComp=>exact m3 ..
 | _=>exact bf h
theorem CN {te ee:Expr}{n:Nat}(hc:iE ee=false)(env:Env):YZ [te] ee n env=pure false:=by
 cases ee <;> first | rfl | exact bf hc.symm
theorem uC {te ee:Expr}{t:X}{n:Nat}(h:(!iE ee || t.Jk)=true)(ht:cI σ te t)(env:Env):YZ [te] ee n env=pure false:=by
 cases hc:iE ee with
 | false=>exact CN hc env
 | true=>
  rw [hc] at h
  cases t with
  | tup xs=>
   refine mC ht fun es k p O O=>?_;exact wR (M:=fun ee=>YZ [.Tuple es k p] ee n env=pure false) hc (fun O O O O=>rfl) (fun O O O O=>rfl) fun O O O O O=>rfl
  | sub a i=>
   refine mB ht fun a b p O O O=>?_;exact wR (M:=fun ee=>YZ [.Subscript a b p] ee n env=pure false) hc (fun O O O O=>rfl) (fun O O O O=>rfl) fun O O O O O=>rfl
  | _=>exact bf h
theorem xn {α:Type}{l:List α}(h:l.length=2):∃a b,l=[a,b]:=by
 cases l with
 | nil=>exact nomatch h
 | cons a l=>cases l with
  | nil=>exact nomatch h
  | cons b l=>cases l with
   | nil=>exact ⟨a,b,rfl⟩
   | cons c l=>exact nomatch h
theorem Ox {t e:X}(ht:t.isTup=false)(h:bl G σ d e ρ H n fun v H1 n1=>ij G σ d t v ρ H1 n1 Q):ja G σ d (.asg t e) ρ H n Q R:=by
 intro st env A s Q' E mh he hr F Rp pn pr;refine rz mh fun t' e' p GC KQ mz tt te=>?_
 ·refine ab (exec_Assign_arm ..) (ab (uC GC tt ..) ?_);refine Xl (XF (Xl (Xn ?_)));refine ab (if_neg (by decide)) ?_;refine Xl (h _ _ _ _ _ _ te he hr F Rp fun v H1 n1 v' s1 h1 rv R1 S1 l1=>?_);have w1:Z6 [t'] e' env=pure none/\(Yq [t'] env).map (·.2)=[X3 t' env]:=by
   cases t with
   | var i=>refine gL tt fun x p O O O O=>?_;exact ⟨rfl,rfl⟩
   | sub a i=>refine mB tt fun a b p O O O=>?_;exact ⟨rfl,rfl⟩
   | attr a f=>refine nR tt fun a p O O=>?_;exact ⟨rfl,rfl⟩
   | tup=>exact absurd ht (by intro q;injection q)
   | _=>exact absurd mz T4
  refine ab w1.1 ?_;refine Xl (Xn (jh w1.2 ?_));exact h1 _ _ _ _ _ _ _ mz tt he hr (F.step Rp S1) R1 rv (pn.trans S1.gW l1)
theorem wb {ρ:bt}{i j:Nat}{a b:V}(h:i≠j):(ρ.set j (some b)).set i (some a)=lz ρ [i,j] [a,b]:=by
 show _=(ρ.set i (some a)).set j (some b);exact ab (List.set_comm _ _ h.symm) rfl
theorem J6 {is:List Nat}{e:X}(h:bl G σ d e ρ H n fun v H1 n1=>∃vs,(v=.tup vs\/fe H1 v vs)/\is.length=vs.length/\Q (lz ρ is vs) H1 n1):
 ja G σ d (.asg (.tup (is.map .var)) e) ρ H n Q R:=by
 intro st env A s Q' E hs he hr F Rp pn pr;refine rz hs fun t' e' p GC KQ mz tt te=>?_;refine ab (exec_Assign_arm ..) (ab (uC GC tt ..) ?_);refine Xl (XF (Xl (Xn ?_)));refine ab (if_neg (by decide)) ?_;refine Xl (h _ _ _ _ _ _ te he hr F Rp fun v H1 n1 v' s1 h1 rv R1 S1 l1=>?_);refine bE h1 fun vs hv hl q=>?_;refine mN (HS tt) fun ts k0 p0 zC O gB=>?_;subst zC;rcases rZ (env:=env) KQ with hn | ⟨hn,h2,vC⟩
 ·refine ab hn ?_;exact Xl (Xn (jh rfl (FW (d:=d) hv hl q _ _ _ _ _ _ _ mz tt he hr (F.step Rp S1) R1 rv (pn.trans S1.gW l1))))
 ·refine ab hn ?_;refine Xl (Xn ?_);obtain ⟨mh,w3⟩:=oM mz;have A6:is.length=2:=by have:=j7 gB;rw [TH] at this;refine bk this ?_;exact h2
  obtain ⟨v1,v2,rfl⟩:=xn (hl.symm.trans A6);obtain ⟨i,j,rfl⟩:=xn A6;clear hs KQ mz tt GC h2 hn;revert vC;refine dm gB fun a1 r1 O t1 gB=>dm gB fun a2 r2 O t2 gB=>?_;refine ab (dN gB) ?_;refine gL t1 fun x1 p1 KD Dd It O=>gL t2 fun x2 p2 Io my Ej O vC=>?_
  generalize hnm:xq [Expr.Name x1 p1,.Name x2 p2] env=names at vC
  have IE:names=[x1,x2]:=by
   rw [<- hnm] at vC ⊢;refine zq vC ?_ ?_
   ·show (if _ then _ else _)=_\/(if _ then _ else _)=_;exact jD (P:=fun z=>z=none\/z=some x1) (fun O=>.inr rfl) fun O=>.inl rfl
   ·show (if _ then _ else _)=_\/(if _ then _ else _)=_;exact jD (P:=fun z=>z=none\/z=some x2) (fun O=>.inr rfl) fun O=>.inl rfl
  clear hnm vC;subst IE;show wpAny _ A (rule "assign.swapped-stores" >>=fun O=>(ZA v' 2 none >>=fun aj=>(do Z5 ([x1,x2].reverse.map fun n=>bindName env n) aj.reverse;pure Flow.next))) _ _ _;refine Xl (YB (Xl (gu (env:=env) hr R1 hv rfl rv fun aD s2 R2 S2 r2=>?_)));obtain ⟨u1,r',rfl,g1,r2⟩:=au.cons_inv r2;obtain ⟨u2,r',rfl,g2,r2⟩:=au.cons_inv r2;refine ab (au.nil_inv r2) ?_;have F2:=F.step Rp (S1.trans S2);show wpAny _ A (do (do Yp [u1] (bindName env x2 u2);(do Yp [] (bindName env x1 u1);pure ()));pure Flow.next) _ _ _;refine Xl (Xl (Xs (wpAny_bindName (eF he F2 R2 Ej (mh _ (.tail _ (.head _))) g2 fun s3 F3 R3 S3=>?_))));refine Xl (Xs (wpAny_bindName (eF he F3 R3 It (mh _ (.head _)) (F2.rel R2 S3 g1) fun s4 F4 R4 S4=>Xn (Xn ?_))));refine pn _ _ _ _ q ?_ R4 ((((S1.trans S2).gW).trans S3).trans S4) l1;have M3:i≠j:=by
   rintro rfl;exact absurd w3 (by show ¬((!([i].contains i))&&true)=true;refine ab (List.contains_cons ..) (ab (beq_self_eq_true ..) ?_);exact T4)
  refine bk (wb M3) ?_;exact F4
theorem SV {e:X}(h:bl G σ d e ρ H n fun O H1 n1=>Q ρ H1 n1):ja G σ d (.ex e) ρ H n Q R:=by
 intro st env A s Q' E hs he hr F Rp pn pr;refine IW hs fun e' p hc te=>?_
 ·have hi:aap env=false:=by unfold aap;refine ab he.kind ?_;rfl
  have GC:swapsWith e' none p.line env=pure false:=by cases e' <;> first | rfl | exact absurd hc.symm T4
  have e0:exec (.Expr e' p) env=(do
   aan p
   if aap env then printExpr (eval e' env)
   else if <- swapsWith e' none p.line env then do evalThenUse e' env fun O=>point;pure .next
   else do dropValue e' p (<- eval e' env)):=rfl
  refine ab e0 (ab hi (ab GC ?_));refine Xl (XF ?_);refine ab (if_neg (by decide)) ?_;refine Xl (Xn ?_);refine ab (if_neg (by decide)) ?_;refine Xl (h _ _ _ _ _ _ te he hr F Rp fun v H1 n1 v' s1 q rv R1 S1 l1=>wpAny_dropValue ?_);exact pn _ _ _ _ q (F.step Rp S1) R1 S1.gW l1
theorem Oz {e:X}(h:bl G σ d e ρ H n R):ja G σ d (.ret e) ρ H n Q R:=by
 intro st env A s Q' E hs he hr F Rp pn pr;refine ED hs fun ee p te=>?_
 ·exact wpAny_Return_some (h _ _ _ _ _ _ te he hr F Rp fun v H1 n1 v' s1 q rv R1 S1 l1=>pr _ _ _ _ _ q rv R1 S1.gW l1)
theorem J7 (h:R .none H n):ja G σ d .pG ρ H n Q R:=by
 intro st env A s Q' E hs he hr F Rp pn pr;refine Bv hs fun p=>?_;exact wpAny_Return_none (pr _ _ _ _ _ h rfl Rp .refl (TJ _))
theorem Kf (h:Q ρ H n):ez G σ d [] ρ H n Q R:=by
 intro st env A s Q' E hs he hr F Rp pn pr;refine ab (tQ hs) ?_;exact Yi (pn _ _ _ _ h F Rp .refl (TJ _))
theorem Fw {st:St}{dY:List St}(hg:st.rB=false)(h:ja G σ d st ρ H n (fun ρ1 H1 n1=>ez G σ d dY ρ1 H1 n1 Q R) R):ez G σ d (st::dY) ρ H n Q R:=by
 intro ss env A s Q' E hs he hr F Rp pn pr;refine qr hs hg fun s0 ss0 t1 t2=>?_
 ·refine wpAny_execs_cons (h _ _ _ _ _ _ t1 he hr F Rp (fun ρ1 H1 n1 s1 h1 F1 R1 S1 l1=>?_) pr);exact h1 _ _ _ _ _ _ t2 he hr F1 R1 (pn.trans S1 l1) (pr.trans S1 l1)
theorem Oy {c:X}{t e:List St}(h:ik G σ d c ρ H n fun b H1 n1=>if b then ez G σ d t ρ H1 n1 Q R else ez G σ d e ρ H1 n1 Q R):ja G σ d (.ite c t e) ρ H n Q R:=by
 intro st env A s Q' E hs he hr F Rp pn pr;refine Bw hs fun ec et ee p hx tc tt te=>?_
 ·refine wpAny_If (h _ _ _ _ _ _ hx tc he hr F Rp fun b H1 n1 s1 h1 R1 S1 l1=>?_);cases b
  ·exact h1 _ _ _ _ _ _ te he hr (F.step Rp S1) R1 (pn.trans S1.gW l1) (pr.trans S1.gW l1)
  ·exact h1 _ _ _ _ _ _ tt he hr (F.step Rp S1) R1 (pn.trans S1.gW l1) (pr.trans S1.gW l1)
theorem OA {b:List St}(h:ez G σ d b ρ H n Q R):ja G σ d (.Ko b) ρ H n Q R:=by
 intro st env A s Q' E hs he hr F Rp pn pr;refine EG hs fun eb hd MX p tb=>?_
 ·exact wpAny_Try_except (h _ _ _ _ _ _ tb he hr F Rp (fun ρ1 H1 n1 s1 h1 F1 R1 S1 l1=>Yi (pn _ _ _ _ h1 F1 R1 S1 l1)) pr)
theorem J8 {ne:Nat}(h:R .none H n):dH G σ d ne [] ρ H n R:=by
 intro st env A s Q' E He he hs Iq hr F Rp S aJ po;refine ab (tQ hs) ?_;exact Yi (po _ _ _ _ _ _ h rfl Rp S (TJ _) (.inr ⟨rfl,rfl⟩))
theorem Fq {ne:Nat}{st:St}{dY:List St}(hg:st.rB=false)(h:ja G σ d st ρ H n (fun ρ1 H1 n1=>dH G σ d ne dY ρ1 H1 n1 R) R):dH G σ d ne (st::dY) ρ H n R:=by
 intro ss env A s Q' E He he hs Iq hr F Rp S aJ po;refine qr hs hg fun s0 ss0 t1 t2=>?_
 ·refine wpAny_execs_cons (h _ _ _ _ _ _ t1 Iq hr F Rp (fun ρ1 H1 n1 s1 h1 F1 R1 S1 l1=>?_) fun v H1 n1 v' s1 h1 r1 R1 S1 l1=>?_)
  ·exact h1 _ _ _ _ _ _ _ _ t2 Iq hr F1 R1 (S.trans S1) aJ fun v H' n' v' s' f q r R2 S2 l2 hf=>po v H' n' v' s' f q r R2 S2 (TF l1 l2) hf
  ·exact po v H1 n1 v' s1 _ h1 r1 R1 (S.trans S1) l1 (.inl rfl)
theorem SX {c:X}{b:List St}(I:Nat->bt->AH->Nat->Prop)(k:Nat)(h0:I k ρ H n)
 (step:∀k ρ H n,I k ρ H n->ik G σ d c ρ H n fun t H1 n1=>if t then ez G σ d b ρ H1 n1 (fun ρ2 H2 n2=>∃m,m<k/\I m ρ2 H2 n2) R else Q ρ H1 n1):ja G σ d (.wh c b) ρ H n Q R:=by
 intro st env A s Q' E hs he hr F Rp pn pr;refine IZ hs fun ec eb p hx tc tb=>?_
 ·refine wpAny_While (codeAny_whileLoop (fun k s'=>∃ρ' H' n',I k ρ' H' n'/\df G σ env ρ' H' s'.heap/\ba G H' n' s'/\ff σ env H s.heap H' s'.heap/\n<=n') ?_ k (Hd ρ H n h0 F Rp .refl (TJ _)));rintro k s1 ⟨ρ1,H1,n1,hI,F1,R1,S1,l1⟩;refine step k ρ1 H1 n1 hI _ _ _ _ _ _ hx tc he hr F1 R1 fun t H2 n2 s2 h2 R2 S2 l2=>?_;cases t
  ·exact Yi (pn _ _ _ _ h2 (F1.step R1 S2) R2 (S1.trans S2.gW) (TF l1 l2))
  ·refine h2 _ _ _ _ _ _ tb he hr (F1.step R1 S2) R2 (fun ρ3 H3 n3 s3 h3 F3 R3 S3 l3=>?_) fun v H3 n3 v' s3 h3 r3 R3 S3 l3=>?_
   ·refine ah h3 fun m hm hI=>?_;exact (ai m hm (Hd ρ3 H3 n3 hI F3 R3 ((S1.trans S2.gW).trans S3) (aH (cm n n1 n2 n3) [(1,aq,aw),(1,aw,aN),(1,aN,bL)] aq bL rfl l1 l2 l3)))
   ·exact pr _ _ _ _ _ h3 r3 R3 ((S1.trans S2.gW).trans S3) (aH (cm n n1 n2 n3) [(1,aq,aw),(1,aw,aN),(1,aN,bL)] aq bL rfl l1 l2 l3)
noncomputable def Gh (G:aA)(σ:cw)(ρ:bt)(H:AH)(ρ':bt)(H':AH):Prop:=
 ∀env s n,df G σ env ρ H s.heap->ba G H n s->df G σ env ρ' H' s.heap/\ba G H' n s/\cz H s.heap H' s.heap
theorem CL {ρ':bt}{H':AH}{dY:List St}(g:Gh G σ ρ H ρ' H')(h:ez G σ d dY ρ' H' n Q R):ez G σ d dY ρ H n Q R:=by
 intro ss env A s Q' E hs he hr F Rp pn pr;refine cS (g env s n F Rp) fun F' R' S'=>?_;exact h _ _ _ _ _ _ hs he hr F' R' (pn.trans S'.gW (TJ _)) (pr.trans S'.gW (TJ _))
theorem CG {ne:Nat}{ρ':bt}{H':AH}{dY:List St}(g:Gh G σ ρ H ρ' H')(h:dH G σ d ne dY ρ' H' n R):dH G σ d ne dY ρ H n R:=by
 intro ss env A s Q' E He he hs Iq hr F Rp S aJ po;refine cS (g env s n F Rp) fun F' R' S'=>?_;exact h _ _ _ _ _ _ _ _ hs Iq hr F' R' (S.trans S'.gW) aJ po
theorem ba.drop {s:Xm}(Rp:ba G H n s){a:Addr}{o:bG}(ha:H a=some o)(qn:∀b,o≠ .own b):ba G (cB H a) n s/\cz H s.heap (cB H a) s.heap:=by
 have:=Rp.freeze (a:=a) (h':=s.heap) (tk:=s.toks) (Heap.SameBut.refl ..) (by refine ab ha ?_;simp) (fun b e=>by rw [ha] at e;(injection e with e;subst e);exact qn b rfl);exact this
theorem tH {s:Xm}(Rp:ba G H n s){a:Addr}{l:List V}(ha:H a=some (.list l)):aC G s.heap (Pf G (cB H a)) (.ag l) (.ref a):=by
 obtain ⟨R',S'⟩:=Rp.drop ha (by simp);refine ah (Rp.objs _ _ ha) fun aj hl r=>?_;exact (cD a aj rfl ⟨dK,Rp.lo a (by refine ab ha ?_;simp)⟩ hl (au.kept (Rp.kept S') _ r))
theorem fV {s:Xm}(Rp:ba G H n s){a:Addr}{l:List (SK × V)}(ha:H a=some (.dict l)):aC G s.heap (Pf G (cB H a)) (.az a l) (.ref a):=by
 obtain ⟨R',S'⟩:=Rp.drop ha (by simp);refine ah (Rp.objs _ _ ha) fun kvs hl r=>?_;exact ⟨rfl,⟨dK,Rp.lo a (by refine ab ha ?_;simp)⟩,ai kvs hl (aP.kept (Rp.kept S') _ r)⟩
theorem df.rY {env:Env}{h:Heap}{i:Nat}{u v:V}(F:df G σ env ρ H h)(hu:ρ[i]? =some (some u))(hv:∀v',aC G h (Pf G H) u v'->aC G h (Pf G H) v v'):df G σ env (ρ.set i (some v)) H h:=by
 refine ⟨F.ns,fun x j w h1 h2 h3=>?_,F.L,F.cells,(WD ..).trans F.len⟩;rw [Wn] at h3
 split at h3
 ·rename_i e;subst e
  split at h3
  ·cases h3
   refine ah (F.vars x i u h1 h2 hu) fun v' hh hr=>?_;exact (ai v' hh (hv v' hr))
  ·injection h3
 ·exact F.vars x j w h1 h2 h3
theorem D7 {i:Nat}{a:Addr}{l:List V}(hi:ρ[i]? =some (some (.ref a)))(ha:H a=some (.list l)):Gh G σ ρ H (ρ.set i (some (.ag l))) (cB H a):=fun env s n F Rp=>by
 obtain ⟨R',S'⟩:=Rp.drop ha (by simp);exact ⟨(F.step Rp S').rY hi fun v' r=>by refine ab (show v'=.ref a from r) ?_;exact tH Rp ha,R',S'⟩
theorem D6 {i:Nat}{a:Addr}{l:List (SK × V)}(hi:ρ[i]? =some (some (.ref a)))(ha:H a=some (.dict l)):Gh G σ ρ H (ρ.set i (some (.az a l))) (cB H a):=fun env s n F Rp=>by
 obtain ⟨R',S'⟩:=Rp.drop ha (by simp);exact ⟨(F.step Rp S').rY hi fun v' r=>by refine ab (show v'=.ref a from r) ?_;exact fV Rp ha,R',S'⟩
theorem Fx {i:Nat}{ρ':bt}{H':AH}{dY:List St}(g:Gh G σ ρ H ρ' H')(h:ez G σ d dY ρ' H' n Q R):ez G σ d (.fN i::dY) ρ H n Q R:=
 fun ss env A s Q' E hs=>CL g h ss env A s Q' E hs
theorem Fs {i ne:Nat}{ρ':bt}{H':AH}{dY:List St}(g:Gh G σ ρ H ρ' H')(h:dH G σ d ne dY ρ' H' n R):dH G σ d ne (.fN i::dY) ρ H n R:=
 fun ss env A s Q' E He he hs=>CG g h ss env A s Q' E He he hs
inductive G9:V->AH->V->AH->Prop
 | refl {v:V} {H:AH}:G9 v H v H
 | list {a:Addr} {H:AH} {l:List V}:H a=some (.list l)->G9 (.ref a) H (.ag l) (cB H a)
 | dict {a:Addr} {H:AH} {l:List (SK × V)}:H a=some (.dict l)->G9 (.ref a) H (.az a l) (cB H a)
theorem G9.at {s:Xm}{v v2:V}{H2:AH}{v':Value}(f:G9 v H v2 H2)(Rp:ba G H n s)(r:aC G s.heap (Pf G H) v v'):ba G H2 n s/\cz H s.heap H2 s.heap/\aC G s.heap (Pf G H2) v2 v':=by
 cases f with
 | refl=>exact ⟨Rp,.refl _ _,r⟩
 | list ha=>obtain ⟨R',S'⟩:=Rp.drop ha (by simp);refine ab (show v'=.ref _ from r) ?_;exact ⟨R',S',tH Rp ha⟩
 | dict ha=>obtain ⟨R',S'⟩:=Rp.drop ha (by simp);refine ab (show v'=.ref _ from r) ?_;exact ⟨R',S',fV Rp ha⟩
theorem AD {e:X}{Q:V->AH->Nat->Prop}(h:bl G σ d e ρ H n fun v H1 n1=>∃v2 H2,G9 v H1 v2 H2/\Q v2 H2 n1):bl G σ d (.mv e) ρ H n Q:=by
 intro ex env A s Q' E ht he hr F Rp po;refine h _ _ _ _ _ _ ht he hr F Rp fun v H1 n1 v' s1 q rv R1 S1 l1=>?_;refine dg q fun v2 H2 f q=>?_;refine cS (f.at R1 rv) fun R2 S2 r2=>?_;exact po _ _ _ _ _ q r2 R2 (S1.trans S2) l1
theorem ja.mono {st:St}{Q':bt->AH->Nat->Prop}{R':V->AH->Nat->Prop}(h:ja G σ d st ρ H n Q R)(hq:∀ρ H n,Q ρ H n->Q' ρ H n)(hR:∀v H n,R v H n->R' v H n):ja G σ d st ρ H n Q' R':=
 fun O O O O O O hs he hr F Rp pn pr=>h _ _ _ _ _ _ hs he hr F Rp (fun O O O O q=>pn _ _ _ _ (hq _ _ _ q)) fun O O O O O q=>pr _ _ _ _ _ (hR _ _ _ q)
theorem ez.mono {st:List St}{Q':bt->AH->Nat->Prop}{R':V->AH->Nat->Prop}(h:ez G σ d st ρ H n Q R)(hq:∀ρ H n,Q ρ H n->Q' ρ H n)(hR:∀v H n,R v H n->R' v H n):ez G σ d st ρ H n Q' R':=
 fun O O O O O O hs he hr F Rp pn pr=>h _ _ _ _ _ _ hs he hr F Rp (fun O O O O q=>pn _ _ _ _ (hq _ _ _ q)) fun O O O O O q=>pr _ _ _ _ _ (hR _ _ _ q)
end
section
variable {G:aA}{X:Addr->Prop}{σ:cw}{d:Nat}{ρ:bt}{H H':AH}{n:Nat}{h:Heap}
theorem Cw {a:Addr}(p:Pf (G.bo X) H a):Pf G H a:=⟨p.1,p.2.1,fun q=>p.2.2 (.inl q)⟩
theorem nX:fc G h (Pf (G.bo X) H) h (Pf G H):=⟨fun O O e O=>e,fun O O e O=>e,fun O O O p=>Cw p⟩
theorem ba.out {s:Xm}(R:ba (G.bo X) H n s):ba G H n s:=
 ⟨R.base,R.size,fun a o e=>fK.bo (fun O=>Cw) (R.objs a o e),R.glob,fun a h=>⟨(R.lo a h).1,fun q=>(R.lo a h).2 (.inl q)⟩,fun a q=>R.own a (.inl q)⟩
theorem aC.out {x:V}{v:Value}(r:aC (G.bo X) h (Pf (G.bo X) H) x v):aC G h (Pf G H) x v:=aC.kept nX x ((aC.bo x).mp r)
theorem au.out {x:List V}{v:List Value}(r:au (G.bo X) h (Pf (G.bo X) H) x v):au G h (Pf G H) x v:=au.kept nX x ((au.bo x).mp r)
theorem bQ.bo {env:Env}(e:bQ G σ env):bQ (G.bo X) σ env:=⟨e.kind,e.loc,e.Qr,e.HD,e.Kx,e.globals,e.builtins,e.apart,e.Cj,e.code⟩
structure fU (G:aA)(X:Addr->Prop)(H:AH)(h:Heap)(H':AH)(h':Heap):Prop where
 keep:∀b o,h.get? b=some o->h'.get? b=some o
 size:h.objs.size<=h'.objs.size
 new:∀b,X b->(h.objs.size<=b\/H b≠none)/\b<h'.objs.size/\H' b=none/\∀a0,H b≠some (.own a0)
 same:∀b,¬X b->H' b=H b
theorem fU.step (I:fU G X H h H' h'):cz H h H' h':=⟨fun b o e O=>I.keep b o e,fun b e=>by
 by_cases q:X b
 ·exact absurd (I.new b q).2.2.1 e
 ·rw [I.same b q] at e;exact .inl e,I.size⟩
theorem fU.off (I:fU G X H h H' h'){a:Addr}{o:Obj}(e:h.get? a=some o)(hp:H a=none):¬X a:=fun q=>by
 rcases (I.new a q).1 with x | x
 ·exact absurd (Xr e) (Ux.mpr x)
 ·exact x hp
theorem fU.kept {h':Heap}(I:fU G X H h H' h'):fc G h (Pf G H) h' (Pf (G.bo X) H'):=
 ⟨fun b o e O=>I.keep b o e,fun b o e O=>I.keep b o e,fun b o e p=>by
  have q:=I.off e p.1;exact ⟨(I.same b q).trans p.1,p.2.1,fun r=>r.elim p.2.2 q⟩⟩
theorem ba.into {s:Xm}{h':Heap}{tk:Nat}(R:ba G H n s)(I:fU G X H s.heap H' h'):ba (G.bo X) H' n {s with heap:=h',toks:=tk}:=by
 have K1:fc G s.heap (Pf G H) h' (Pf (G.bo X) H):=⟨fun b o e O=>I.keep b o e,fun b o e O=>I.keep b o e,fun b o e p=>⟨p.1,p.2.1,fun r=>r.elim p.2.2 (I.off e p.1)⟩⟩;have K2:fc (G.bo X) h' (Pf (G.bo X) H) h' (Pf (G.bo X) H'):=⟨fun O O e O=>e,fun O O e O=>e,fun b o e p=>⟨(I.same b fun q=>p.2.2 (.inr q)).trans p.1,p.2⟩⟩;refine ⟨R.base▸rfl,TF R.size I.size,fun a o e=>?_,fun b o e=>I.keep b o (R.glob b o e),fun a e=>?_,fun a q=>?_⟩
 ·have hq:¬X a:=fun q=>by rw [(I.new a q).2.2.1] at e;injection e
  have e':H a=some o:=(I.same a hq).symm.trans e;exact ((R.objs a o e').toF K1 I.keep).kept K2 (fun O O O e=>e) fun b hb=>(I.same b fun q=>(I.new b q).2.2.2 a hb).trans hb
 ·have hq:¬X a:=fun q=>e (I.new a q).2.2.1;rw [I.same a hq] at e;exact ⟨(R.lo a e).1,fun r=>r.elim (R.lo a e).2 hq⟩
 ·by_cases hq:X a
  ·refine i7 (I.new a hq) fun h1 h2 h3 O=>?_;refine ⟨h2,?_,h3⟩;rcases h1 with x | x
   ·exact (R.aY x).2.1
   ·exact (R.lo a x).1
  ·have q:G.own a:=q.resolve_right hq;refine cS (R.own a q) fun h1 h2 h3=>?_;exact ⟨TO h1 I.size,h2,(I.same a hq).trans h3⟩
theorem aC.into {h':Heap}(I:fU G X H h H' h'){x:V}{v:Value}(r:aC G h (Pf G H) x v):aC (G.bo X) h' (Pf (G.bo X) H') x v:=(aC.bo x).mpr (aC.kept I.kept x r)
theorem df.into {env:Env}{s:Xm}{h':Heap}(F:df G σ env ρ H s.heap)(I:fU G X H s.heap H' h'):df (G.bo X) σ env ρ H' h':=by
 obtain ⟨⟨m,hm⟩,hv,hL,hc,IA⟩:=F;refine ⟨⟨m,hm.keeps I.keep⟩,fun x i v h1 h2 h3=>?_,.inl hL,fun x c h=>?_,IA⟩
 ·refine ah (hv x i v h1 h2 h3) fun v' hh hr=>?_;refine (ai v' ?_ (aC.into I hr));rcases hh with ⟨hk,m,hm,e⟩ | ⟨hk,c,hl,tJ⟩
  ·exact .inl ⟨hk,ai m (hm.keeps I.keep) e⟩
  ·exact .inr ⟨hk,ai c hl (tJ.keeps I.keep)⟩
 ·obtain ⟨h1,v,tJ⟩:=hc x c h;exact ⟨.inl h1,v,tJ.keeps I.keep⟩
theorem df.out {env:Env}{ρ0:bt}{H0:AH}{hp:Heap}(F0:df G σ env ρ0 H0 hp)(F:df (G.bo X) σ env ρ H h):df G σ env ρ H h:=by
 obtain ⟨mf,hv,hL,hc,IA⟩:=F;refine ⟨mf,fun x i v h1 h2 h3=>?_,F0.L,fun x c h=>⟨(F0.cells x c h).1,(hc x c h).2⟩,IA⟩;refine ah (hv x i v h1 h2 h3) fun v' hh hr=>?_;exact (ai v' hh (aC.out hr))
theorem df.iL {env:Env}{Y:Addr->Prop}{s:Xm}{h':Heap}(F:df G σ env ρ H s.heap)(R:ba G H n s)(S:bJ Y H s.heap H' h')(hY:∀b,Y b->G.own b/\b≠env.locals/\∀x,(x,b)∉env.cells):df G σ env ρ H' h':=by
 obtain ⟨⟨m,hm⟩,hv,hL,hc,IA⟩:=F;have N3:∀m,s.heap.Ns env.locals m->h'.Ns env.locals m:=fun m ⟨o,es,ep,ho,r⟩=>⟨o,es,ep,S.keep _ _ ho (R.own _ hL).2.2 fun q=>(hY _ q).2.1 rfl,r⟩;have Mf:∀x c v,(x,c)∈env.cells->s.heap.IsCell c v->h'.IsCell c v:=fun x c v hm ⟨o,ho,r⟩=>⟨o,S.keep _ _ ho (R.own _ (hc x c hm).1).2.2 fun q=>(hY _ q).2.2 x hm,r⟩;refine ⟨⟨m,N3 m hm⟩,fun x i v h1 h2 h3=>?_,hL,fun x c h=>?_,IA⟩
 ·refine ah (hv x i v h1 h2 h3) fun v' hh hr=>?_;refine (ai v' ?_ (R.Fl (fun b q=>(hY b q).1) S hr));rcases hh with ⟨hk,m,hm,e⟩ | ⟨hk,c,hl,tJ⟩
  ·exact .inl ⟨hk,ai m (N3 m hm) e⟩
  ·exact .inr ⟨hk,ai c hl (Mf x c _ (mem_of_lookup hl) tJ)⟩
 ·obtain ⟨h1,v,tJ⟩:=hc x c h;exact ⟨h1,v,Mf x c v h tJ⟩
noncomputable def Cy:List String:=["enumerate","zip","dict_itemiterator","dict_reverseitemiterator","odict_iterator","itertools.zip_longest","itertools.pairwise"]
noncomputable def bB (G:aA)(H:AH)(it:Value)(l:List V)(X:Addr->Prop)(h:Heap):Prop:=
 ∃I fp wr N P St i,it=.ref I/\(∀A:Xv,A.handled=none->Walks G.prog G.w A I fp wr N P St)/\St i h/\N=i+l.length/\(∀b∈fp,b<h.objs.size/\H b=none/\(¬G.own b\/X b))/\(∀b∈wr,X b)/\
  (∀j v,P (i+j) v->∀x,l[j]? =some x->aC G h (Pf G H) x v)/\(∀i h,St i h->∃o T,h.get? I=some o/\o.cls=.type T/\Cy.contains T=false)
theorem bB.keep {s:Xm}{it:Value}{l:List V}{Y:Addr->Prop}{h':Heap}(x:bB G H it l X s.heap)(R:ba G H n s)(S:bJ Y H s.heap H' h')(hY:∀b,Y b->G.own b/\¬X b):bB G H' it l X h':=by
 refine G8 x fun I fp wr N P St i gR W st hN Gu IP hP yE=>?_;subst gR;have hf:∀b∈fp,∀o,s.heap.get? b=some o->h'.get? b=some o:=fun b hb o e=>S.keep b o e (Gu b hb).2.1 fun q=>(Gu b hb).2.2.elim (fun z=>z (hY b q).1) (hY b q).2;refine (sL I fp wr N P St i rfl W ((W {depth:=0,handled:=none,units:=0} rfl).frame _ _ _ st hf) hN (fun b hb=>?_) IP (fun j v p x e=>R.Fl (fun b q=>(hY b q).1) S (hP j v p x e)) yE);refine cS (Gu b hb) fun h1 h2 h3=>?_;refine ⟨TO h1 S.size,?_,h3⟩
 cases q:H' b with
 | none=>rfl
 | some o=>
  rcases S.u9 b (by refine ab q ?_;simp) with x | x
  ·exact absurd h2 x
  ·exact absurd h1 (Ux.mpr x)
theorem bB.next {A:Xv}{s:Xm}{it:Value}{l:List V}{E:Value->Xm->Prop}{Q':Option Value->Xm->Prop}(hh:A.handled=none)(x:bB G H it l X s.heap)(R:ba G H n s)(hX:∀b,X b->G.own b)
 (h0:l=[]->∀s',ba G H n s'->bJ X H s.heap H s'.heap->Q' none s')
 (h1:∀x xs,l=x::xs->∀v s',aC G s'.heap (Pf G H) x v->bB G H it xs X s'.heap->ba G H n s'->bJ X H s.heap H s'.heap->Q' (some v) s'):wpAny (model G.prog G.w) A (Zg it) Q' E s:=by
 obtain ⟨I,fp,wr,N,P,St,i,rfl,W,st,hN,Gu,IP,hP,yE⟩:=x;refine eG ?_
 cases l with
 | nil=>
  have hi:i=N:=by simpa using hN.symm
  subst hi;refine (W A hh).done s _ _ st fun h' tk hk hz=>?_;obtain ⟨R',S'⟩:=R.j8 (tk:=tk) hX (fun b o hb e=>hk b o (fun q=>hb (IP b q)) e) hz;exact h0 rfl _ R' S'
 | cons x xs=>
  refine (W A hh).item i s _ _ (by simp at hN;exact aH (bC i xs.length N) [(1,.add aq (.add aw ay),aN)] (.add aq ay) aN rfl (TL hN.symm)) st fun v h' tk p uB hk hz=>?_;obtain ⟨R',S'⟩:=R.j8 (tk:=tk) hX (fun b o hb e=>hk b o (fun q=>hb (IP b q)) e) hz;refine h1 x xs rfl v _ (R.Fl hX S' (hP 0 v p x rfl)) ?_ R' S';refine (sL I fp wr N P St (i+1) rfl W uB (by simp at hN;exact UC (aH (bC N i xs.length) [(1,aq,.add aw (.add aN ay))] aq (.add (.add aw ay) aN) rfl (TL hN)) (aH (bC i xs.length N) [(1,.add aq (.add aw ay),aN)] (.add (.add aq ay) aw) aN rfl (TL hN.symm))) (fun b hb=>⟨TO (Gu b hb).1 hz,(Gu b hb).2⟩) IP (fun j v p y e=>R.Fl hX S' (hP (j+1) v ?_ y (by simpa using e))) yE);refine ab (show i+(j+1)=i+1+j by exact UC (aH (bc i j) [] (.add aq (.add aw ay)) (.add (.add aq ay) aw) rfl) (aH (bc i j) [] (.add (.add aq ay) aw) (.add aq (.add aw ay)) rfl)) ?_;exact p
theorem bB.self {A:Xv}{s:Xm}{it:Value}{l:List V}{E:Value->Xm->Prop}{Q':Value->Xm->Prop}(hh:A.handled=none)(x:bB G H it l X s.heap)(h:Q' it s):wpAny (model G.prog G.w) A (pyIter it) Q' E s:=by
 refine PT x fun I fp wr N P St i iq W st O=>?_;subst iq;exact (W A hh).self i s _ _ st h
theorem bB.go {A:Xv}{s:Xm}{it v:Value}{l:List V}{t:Expr}{E:Value->Xm->Prop}{Q':Unit->Xm->Prop}(x:bB G H it l X s.heap)(h:Q' () s):wpAny (model G.prog G.w) A (Zu t it v) Q' E s:=by
 refine G8 x fun I fp wr N P St i jI W st O O O O yE=>?_;subst jI;refine cu (yE i _ st) fun o T ho hc hT=>?_;have main:∀a,wpAny (model G.prog G.w) A (load I >>=fun o=>match o.cls,o.data with
   | .type n,.fields vs=>if (["enumerate","zip","dict_itemiterator","dict_reverseitemiterator","odict_iterator","itertools.zip_longest","itertools.pairwise"].contains n&&vs[0]? ==some (rawInt a))=true then (do rule "for.unpacks-the-owned-tuple";updateField I 0 .none) else pure ()
   | _,_=>pure ()) Q' E s:=fun a=>by
  refine Xl (wpAny_load ho ?_);refine ab hc ?_
  cases o.data with
  | fields vs=>
   have c:¬((["enumerate","zip","dict_itemiterator","dict_reverseitemiterator","odict_iterator","itertools.zip_longest","itertools.pairwise"].contains T&&vs[0]? ==some (rawInt a))=true):=fun q=>T4 (hT.symm.trans ((UM ..).mp q).1);show wpAny _ A (if (_:Bool)=true then _ else pure ()) Q' E s;exact ab (if_neg c) (Xn h)
  | _=>exact Xn h
 cases t with
 | Tuple=>cases v with | ref a=>exact main a | _=>exact Xn h
 | List=>cases v with | ref a=>exact main a | _=>exact Xn h
 | _=>exact Xn h
noncomputable def eP (G:aA)(lT:V)(H:AH)(l:List V)(H2:AH):Prop:=
 ∀(A:Xv) n s fz Q' E,A.handled=none->aC G s.heap (Pf G H) lT fz->ba G H n s->
  (∀it h' tk X,fU G X H s.heap H2 h'->bB (G.bo X) H2 it l X h'->Q' it {s with heap:=h',toks:=tk})->wpAny (model G.prog G.w) A (pyIter fz) Q' E s
noncomputable def qV (G:aA)(σ:cw)(d:Nat)(t:aav)(b:List St):List V->bt->AH->Nat->(bt->AH->Nat->Prop)->(V->AH->Nat->Prop)->Prop
 | [],ρ,H,n,Q,_=>Q ρ H n
 | x::xs,ρ,H,n,Q,R=>ij G σ d t x ρ H n fun ρ1 H1 n1=>ez G σ d b ρ1 H1 n1 (fun ρ2 H2 n2=>qV G σ d t b xs ρ2 H2 n2 Q R) R
variable {Q:bt->AH->Nat->Prop}{R:V->AH->Nat->Prop}
theorem SW {t:aav}{im:IM}{dn:List aav}{b:List St}(h:sO G σ d im dn ρ H n fun lT H1 n1=>∃l H2,eP G lT H1 l H2/\∀X,qV (G.bo X) σ d t b l ρ H2 n1 Q R):ja G σ d (.fr t im dn b) ρ H n Q R:=by
 intro st env A s Q' E hs he hr F Rp pn pr;refine IX hs fun et ee eb p hx mz tt te tb=>?_
 ·refine wpAny_For (h _ _ _ _ _ _ te he hr F Rp fun lT H1 n1 fz s1 h1 r1 R1 S1 l1=>?_) (rN hx env);refine dg h1 fun l H2 qk Ir=>?_;refine qk A n1 s1 fz _ _ hr.hh r1 R1 fun it h2 tk X I2 FT=>?_;have Ir:=Ir X;have F2:df (G.bo X) σ env ρ H2 h2:=(F.step Rp S1).into I2;have R2:ba (G.bo X) H2 n1 {s1 with heap:=h2,toks:=tk}:=R1.into I2;have Pk:bQ (G.bo X) σ env:=he.bo;have S2:cz H s.heap H2 h2:=S1.trans I2.step;have Rg:∀b,G.own b->¬X b:=fun b hb q=>by
   have o2:=R1.own b hb;rcases (I2.new b q).1 with x | x
   ·exact absurd o2.1 (Ux.mpr x)
   ·exact x o2.2.2
  have hmX:∀b,fZ σ env b->(G.bo X).own b/\¬X b:=fun b hb=>⟨.inl (F.own hb),Rg b (F.own hb)⟩;have Gq:∀b,X b->(G.bo X).own b/\b≠env.locals/\∀x,(x,b)∉env.cells:=fun b q=>⟨.inr q,fun e=>Rg b (e▸F.L) q,fun x hx=>Rg b (F.cells x b hx).1 q⟩;have less:∀{H':AH} {h':Heap},bJ (fun b=>fZ σ env b\/X b) H2 h2 H' h'->ff σ env H s.heap H' h':=fun S=>(S2.gW.trans S).less fun b o q e hb=>q.elim id fun q=>by
   have Pg:H1 b=none:=by
    cases z:H1 b with
    | none=>rfl
    | some _=>
     rcases S1.u9 b (by refine ab z ?_;simp) with x | x
     ·exact absurd hb x
     ·exact absurd (Xr e) (Ux.mpr x)
   exact absurd q (I2.off (S1.keep b o e hb) Pg)
  refine codeAny_forLoop_any (fun k s'=>∃xs ρ' H' n',k=xs.length/\qV (G.bo X) σ d t b xs ρ' H' n' Q R/\df (G.bo X) σ env ρ' H' s'.heap/\ba (G.bo X) H' n' s'/\bB (G.bo X) H' it xs X s'.heap/\bJ (fun b=>fZ σ env b\/X b) H2 h2 H' s'.heap/\n1<=n') ?_ l.length
   (sJ l ρ H2 n1 rfl Ir F2 R2 FT .refl (TJ _))
  rintro k s3 ⟨xs,ρ3,H3,n3,rfl,hf3,F3,R3,P0,S3,l3⟩;refine bB.next (G:=G.bo X) hr.hh P0 R3 (fun b q=>.inr q) (fun e s4 R4 S4=>?_) fun x pL e v s4 r4 wF R4 S4=>?_
  ·subst e;exact Yi (pn _ _ _ _ hf3 (F.out (F3.iL R3 S4 Gq)) R4.out (less (S3.trans (S4.mono fun b q=>.inr q))) (TF l1 l3))
  ·subst e;refine bB.go (G:=G.bo X) wF ?_;have F4:df (G.bo X) σ env ρ3 H3 s4.heap:=F3.iL R3 S4 Gq;refine hf3 _ _ _ _ _ _ _ mz tt Pk hr F4 R4 r4 fun ρ5 H5 n5 s5 h5 F5 R5 S5 l5=>?_;have Lm:=wF.keep R4 S5 hmX;refine h5 _ _ _ _ _ _ tb Pk hr F5 R5 (fun ρ6 H6 n6 s6 h6 F6 R6 S6 l6=>?_) fun v H6 n6 v' s6 h6 r6 R6 S6 l6=>?_
   ·refine (ai pL.length (by simp) (sJ pL ρ6 H6 n6 rfl h6 F6 R6 (Lm.keep R5 S6 hmX) ?_ (aH (cm n1 n3 n5 n6) [(1,aq,aw),(1,aw,aN),(1,aN,bL)] aq bL rfl l3 l5 l6)));exact ((S3.trans (S4.mono fun b q=>.inr q)).trans (S5.mono fun b q=>.inl q)).trans (S6.mono fun b q=>.inl q)
   ·refine pr _ _ _ _ _ h6 (aC.out r6) R6.out (less ?_) (aH (ml n n1 n3 n5 n6) [(1,aq,aw),(1,aw,aN),(1,aN,bL),(1,bL,jc)] aq jc rfl l1 l3 l5 l6);exact ((S3.trans (S4.mono fun b q=>.inr q)).trans (S5.mono fun b q=>.inl q)).trans (S6.mono fun b q=>.inl q)
end
noncomputable def bF (env:Env):List (Str × XI)->List (Str × Addr)->List (Str × Addr)
 | [],acc=>acc
 | (x,k)::r,acc=>if k== .free then bF env r ((x,(env.cells.lookup x).getD 0)::acc) else bF env r acc
theorem e6 {env:Env}:∀{names:List (Str × XI)} {acc:List (Str × Addr)} {x:Str} {c:Addr},(x,c)∈bF env names acc->(x,c)∈acc\/((x,.free)∈names/\c=(env.cells.lookup x).getD 0):=by
 intro names
 induction names with
 | nil=>
 exact fun {O O O} h=>.inl h
 | cons rU r ih=>
 obtain ⟨y,k⟩:=rU;exact fun {acc x c} h=>by
  have h2:(x,c)∈(if k== .free then bF env r ((y,(env.cells.lookup y).getD 0)::acc) else bF env r acc):=h
  by_cases hk:(k== .free)=true
  ·rw [if_pos hk] at h2;have hk:k=.free:=eq_of_beq hk;subst hk;rcases ih h2 with h | h
   ·rcases TN.mp h with h | h
    ·(injection h with e1 e2;subst e1;subst e2);exact .inr ⟨.head _,rfl⟩
    ·exact .inl h
   ·exact .inr ⟨.tail _ h.1,h.2⟩
  ·rw [if_neg hk] at h2;rcases ih h2 with h | h
   ·exact .inl h
   ·exact .inr ⟨.tail _ h.1,h.2⟩
theorem pV {env:Env}:∀{names:List (Str × XI)} {acc:List (Str × Addr)} {x:Str},((x,.free)∈names\/∃c,(x,c)∈acc)->∃c,(x,c)∈bF env names acc:=by
 intro names
 induction names with
 | nil=>
 exact fun {acc x} h=>by
  rcases h with h | h
  ·cases h
  ·exact h
 | cons rU r ih=>
 obtain ⟨y,k⟩:=rU;exact fun {acc x} h=>by
  show ∃c,(x,c)∈(if k== .free then bF env r ((y,(env.cells.lookup y).getD 0)::acc) else bF env r acc)
  by_cases hk:(k== .free)=true
  ·refine ab (if_pos hk) (ih ?_);have hk:k=.free:=eq_of_beq hk;subst hk;rcases h with h | ⟨c,h⟩
   ·rcases TN.mp h with h | h
    ·(injection h with e;subst e);exact .inr ⟨_,.head _⟩
    ·exact .inl h
   ·exact .inr ⟨c,.tail _ h⟩
  ·refine ab (if_neg hk) (ih ?_);rcases h with h | h
   ·rcases TN.mp h with h | h
    ·(injection h with e1 e2;subst e1;subst e2);exact absurd rfl hk
    ·exact .inl h
   ·exact .inr h
theorem lM {l:List (Str × Addr)}{x:Str}{c:Addr}(h:∃e,(x,e)∈l)(ho:∀e,(x,e)∈l->e=c):l.lookup x=some c:=by
 induction l with
 | nil=>obtain ⟨e,h⟩:=h;cases h
 | cons p l ih=>
  obtain ⟨y,v⟩:=p
  by_cases q:x=y
  ·subst q;simp [Ue,ho v (.head _)]
  ·refine ab Ue ?_;have:(x==y)=false:=by simpa using q
   refine ab this ?_;refine ih ?_ fun e he=>ho e (.tail _ he);obtain ⟨e,h⟩:=h;rcases TN.mp h with h | h
   ·(injection h with e1 e2;subst e1;subst e2);exact absurd rfl q
   ·exact ⟨e,h⟩
theorem ji {env:Env}:∀{names:List (Str × XI)} {acc:List (Str × Addr)},(∀x,(x,Yt)∈names->∃c,env.cells.lookup x=some c)->
  (forIn names acc fun (x:Str × XI) (cs:List (Str × Addr))=>(match x with | (name,kind)=>if kind== .free then do let a <- cellOf env name;pure (ForInStep.yield ((name,a)::cs)) else pure (ForInStep.yield cs):Sem (ForInStep (List (Str × Addr)))))=pure (bF env names acc)
 | [],acc,_=>rfl
 | (x,k)::r,acc,h=>by
  refine ab (Xa ..) ?_;have ih:=fun acc=>ji (env:=env) (names:=r) (acc:=acc) fun y hy=>h y (.tail _ hy);show _=pure (if k== .free then bF env r ((x,(env.cells.lookup x).getD 0)::acc) else bF env r acc)
  by_cases hk:(k==Yt)=true
  ·have vB:k=.free:=by simpa using hk
   subst vB;obtain ⟨c,hc⟩:=h x (.head _);simp only [beq_self_eq_true,if_true];have MU:cellOf env x=pure c:=by unfold cellOf;exact ab hc rfl
   refine ab MU (ab hc ?_);exact ih _
  ·simp only [hk];exact ih _
theorem lK {f:Str->XI->XI}:∀{names:List (Str × XI)} {x:Str},(names.map fun p=>(p.1,f p.1 p.2)).lookup x=(names.lookup x).map (f x)
 | [],_=>rfl
 | (y,k)::r,x=>by
  simp only [UJ,Ue]
  cases h:x==y with
  | true=>refine ab (eq_of_beq h) ?_;rfl
  | false=>exact lK
theorem e5 {scope:Scope}{env:Env}{C:Addr}{cl:List (Str × Addr)}(x:Str):(XG scope cl C env).kindOf x=(scope.names.lookup x).map fun k=>if (k== .free&&env.scope.kind== .function&&env.kindOf x==some .cell) then .cell else k:=by
 show ((relabel scope env).names).lookup x=_;unfold relabel;refine bk (lK (f:=fun x k=>if (k== .free&&env.scope.kind== .function&&env.kindOf x==some .cell) then .cell else k)) ?_
 congr 1
 apply UK;rintro ⟨y,k⟩ _;dsimp only
 split <;> rfl
theorem bS {names:List (Str × XI)}{x:Str}{k:XI}(h:names.lookup x=some k):(x,k)∈names:=by
 induction names with
 | nil=>injection h
 | cons p r ih=>
  obtain ⟨y,j⟩:=p;rw [Ue] at h
  cases q:x==y with
  | true=>rw [q] at h;(injection h with e;subst e);refine ab (eq_of_beq q) ?_;exact .head _
  | false=>rw [q] at h;exact .tail _ (ih h)
section
variable {G:aA}{X:Addr->Prop}{σ:cw}{d:Nat}{ρ:bt}{H H':AH}{n:Nat}{h:Heap}
theorem de {sc:Scope}{x:Str}{env:Env}(hc:cX σ (bj σ sc)=true)(he:bQ G σ env)(hx:(x,Yt)∈sc.names):sc.names.lookup x=some .free/\σ.names.lookup x=some .cell/\env.kindOf x=some .cell/\∃c,env.cells.lookup x=some c:=by
 unfold cX at hc;simp only [UM] at hc;have:=Ut.mp hc.1.1 (x,.free) hx;simp only [bne_self_eq_false,VX,UM,beq_iff_eq] at this;exact ⟨this.2,this.1,he.HD x this.1,(he.Qr x (.inl this.1)).2⟩
theorem kR {sc:Scope}{env:Env}(hc:cX σ (bj σ sc)=true)(he:bQ G σ env):ZS sc env=pure (bF env sc.names []):=by
 have:=ji (env:=env) (names:=sc.names) (acc:=[]) fun x hx=>(de hc he hx).2.2.2;have e:ZS sc env=(forIn sc.names [] (fun (x:Str × XI) (cs:List (Str × Addr))=>(match x with | (name,kind)=>if kind== .free then do let a <- cellOf env name;pure (ForInStep.yield ((name,a)::cs)) else pure (ForInStep.yield cs):Sem (ForInStep (List (Str × Addr))))) >>=fun s=>pure s):=rfl;refine ab e (ab this ?_);rfl
theorem td {sc:Scope}{env:Env}{C:Addr}(hc:cX σ (bj σ sc)=true)(hk:eL sc=true)(he:bQ G σ env)(hC:∀x c,(x,c)∈env.cells->c≠C):bQ G (bj σ sc) (XG sc (bF env sc.names []) C env):=by
 have Eg:=hc;unfold cX at hc;simp only [UM,bne_iff_ne] at hc;unfold eL at hk;simp only [UM,beq_iff_eq] at hk;have jB:∀x c,(x,c)∈bF env sc.names []->env.cells.lookup x=some c/\(x,Yt)∈sc.names:=fun x c h=>by
  rcases e6 h with h | ⟨h1,h2⟩
  ·cases h
  ·refine i7 (de Eg he h1) fun O O O bN=>?_;obtain ⟨c',nL⟩:=bN;rw [nL] at h2;subst h2;exact ⟨nL,h1⟩
 refine ⟨hk.1.1,fun x hx=>?_,fun x hx=>?_,fun x hx=>?_,fun x hx=>?_,he.globals,he.builtins,fun x y c e h1 h2 aJ=>?_,fun x c h=>?_,fun h=>absurd h hc.2⟩
 ·have hx:sc.names.lookup x=some .local:=hx;refine ab (e5 ..) (ab (hx ..) ?_);rfl
 ·have hx:sc.names.lookup x=some .free:=by
   rcases hx with hx | hx
   ·have:=Ut.mp hk.1.2 _ (bS (hx:sc.names.lookup x=some .cell));simp at this
   ·exact hx
  refine i7 (de Eg he (bS hx)) fun O O Gw bN=>?_;obtain ⟨c,uQ⟩:=bN;refine ⟨.inl ?_,c,lM (pV (.inl (bS hx))) fun e Eh=>?_⟩
  ·refine ab (e5 ..) (ab (hx ..) (ab (he.kind ..) (ab (Gw ..) ?_)));rfl
  ·have:=(jB x e Eh).1;rw [uQ] at this;(injection this with e;subst e);rfl
 ·have:=Ut.mp hk.1.2 _ (bS (hx:sc.names.lookup x=some .cell));simp at this
 ·have hx:sc.names.lookup x=some .globalImplicit:=hx;refine ab (e5 ..) (ab (hx ..) ?_);rfl
 ·exact he.apart x y c e (mem_of_lookup (jB x c h1).1) (mem_of_lookup (jB y e h2).1) aJ
 ·exact hC x c (mem_of_lookup (jB x c h).1)
theorem tn {sc:Scope}{env:Env}{C:Addr}{m:Str->Option Value}{k:Nat}(fW:k=(rI sc).length)(hc:cX σ (bj σ sc)=true)(he:bQ G σ env)(F:df G σ env ρ H h)(hn:h.Ns C m)(hC:G.own C):
 df G (bj σ sc) (XG sc (bF env sc.names []) C env) (ρ++Up k none) H h:=by
 have jB:∀x c,(x,c)∈bF env sc.names []->env.cells.lookup x=some c/\(x,Yt)∈sc.names:=fun x c h=>by
  rcases e6 h with h | ⟨h1,h2⟩
  ·cases h
  ·refine i7 (de hc he h1) fun O O O bN=>?_;obtain ⟨c',nL⟩:=bN;rw [nL] at h2;subst h2;exact ⟨nL,h1⟩
 have hρ:=F.len;refine ⟨⟨m,hn⟩,fun x i v h1 h2 h3=>?_,hC,fun x c hx=>F.cells x c (mem_of_lookup (jB x c hx).1),by show _=(σ.vars.map _++rI sc).length;exact ab (TG ..) (ab (TG ..) (ab (TH ..) (ab (V4 ..) (ab (hρ ..) (ab (fW ..) rfl)))))⟩;have hi:i<ρ.length:=by
  by_cases q:i<ρ.length
  ·exact q
  ·rw [VN (Ux.mp q),List.getElem?_replicate] at h3
   split at h3 <;> cases h3
 rw [Vt hi] at h3;have hdd:(bj σ sc).names.lookup ("..":Str)=none:=by
  unfold cX at hc;simp only [UM,beq_iff_eq] at hc;exact hc.1.2
 have vJ:=fE h2;have aI:i<σ.vars.length:=hρ▸hi;have key:∀j (hj:j<σ.vars.length),(bj σ sc).vars[j]? =some (if sc.names.lookup σ.vars[j]==some .free then σ.vars[j] else ("..":Str)):=fun j hj=>by
  show ((σ.vars.map _)++_)[j]? =_;refine ab (Vt (by simpa using hj)) (ab Ui (ab (T9 hj) ?_));rfl
 rw [key i aI] at vJ;simp only [Option.some.injEq] at vJ
 by_cases hf:(sc.names.lookup σ.vars[i]==some .free)=true
 ·rw [if_pos hf] at vJ;rw [vJ] at hf;have hf:sc.names.lookup x=some .free:=by simpa using hf
  refine i7 (de hc he (bS hf)) fun O hsc Gw bN=>?_;obtain ⟨c,uQ⟩:=bN;have MZ:σ.vars.findIdx? (· ==x)=some i:=by
   rw [U1];refine (ai aI (by refine ab vJ ?_;simp) (fun j hj=>?_));refine ah (U1.mp h2) fun De O Rb=>?_;have:=Rb j hj;have A8:=key j (Xe hj aI);rw [T9 (Xe hj De)] at A8;simp only [Option.some.injEq] at A8;intro q;have q:σ.vars[j]=x:=by simpa using q
   rw [q,if_pos (by simpa using hf)] at A8;rw [A8] at this;simp at this
  refine ah (F.vars x i v (by refine ab hsc ?_;rfl) MZ h3) fun v' hh hr=>?_;refine (ai v' ?_ hr);rcases hh with ⟨hl,_⟩ | ⟨_,c',hl,tJ⟩
  ·rw [Gw] at hl;cases hl
  ·rw [uQ] at hl;(injection hl with e;subst e);refine .inr ⟨.inl ?_,ai c (lM (pV (.inl (bS hf))) fun e Eh=>?_) tJ⟩
   ·refine ab (e5 ..) (ab (hf ..) (ab (he.kind ..) (ab (Gw ..) ?_)));rfl
   ·have:=(jB x e Eh).1;rw [uQ] at this;(injection this with e;subst e);rfl
 ·rw [if_neg hf] at vJ;rw [<- vJ,hdd] at h1;injection h1
end
theorem jb {prog:XS}{w:World}{A:Xv}{R:ZL->Xm->Prop}{s:Xm}{fT target iter:Expr}{ifs:List Expr}{scope:Scope}{pos:Pos}{it acc:Value}{env:Env}(I:Nat->Xm->Prop)
  (turn:∀n s E,I n s->wpAny (model prog w) A (Zg it) (fun r s₁=>match r with
   | none=>R (.ok .next) s₁
   | some v=>wpAny (model prog w) A (Zu target it v) (fun O OG=>wpAny (model prog w) A (X3 target env v) (fun O s₂=>
     wpAny (model prog w) A (forIn ifs true fun c r=>if r=true then do let ok <- isTrue c env (eval c env);pure (ForInStep.yield ok) else pure (ForInStep.yield r)) (fun ok s₃=>
      if ok=true then wpAny (model prog w) A (eval fT env) (fun x s₄=>
       wpAny (model prog w) A (call (.builtin "list.append") [acc,x]) (fun O s₅=>∃m,m<n/\I m s₅) E s₄) E s₃
      else ∃m,m<n/\I m s₃) E s₂) E OG) E s₁) E s)
  (n:Nat) (h:I n s):
  Yr (model prog w) A (.compLoop (.ListComp fT [⟨target,iter,ifs,0⟩] scope pos) 0 it acc env) R s:=by
 refine codeAny_loop rfl I (fun n s hI=>?_) n h;show wpAny _ A ((compTurn (.ListComp fT [⟨target,iter,ifs,0⟩] scope pos) 0 it acc env).onRaise (fun x=>do noteFrame x env;theTreesLotGoes x)) _ _ s;refine wpAny_noted ?_;refine ab (compTurn_list ..) ?_;refine Xl (XF (Xl (XC (turn n s _ hI) (fun r s₁ h₁=>?_) fun O O h'=>h')))
 cases r with
 | none=>exact Xn h₁
 | some v=>
  refine Xl (XC h₁ (fun O OG Rw=>?_) fun O O h'=>h');refine Xl (XC Rw (fun O s₂ h₂=>Xl (XC h₂ (fun ok s₃ h₃=>?_) fun O O h'=>h')) fun O O h'=>h')
  cases ok with
  | false=>exact Xn ⟨rfl,h₃⟩
  | true=>
   exact Xl (Xl (XC h₃ (fun x s₄ h₄=>Xl (XC h₄ (fun O s₅ h₅=>Xn (Xn ⟨rfl,h₅⟩)) fun O O h'=>h')) fun O O h'=>h'))
section
variable {G:aA}{X:Addr->Prop}{σ:cw}{d:Nat}{ρ:bt}{H H':AH}{n:Nat}
theorem qL:∀{xs:List aav} {es:List Expr} {H:AH} {n:Nat} {Q:Bool->AH->Nat->Prop} {env:Env} {A:Xv} {s:Xm} {Q':Bool->Xm->Prop} {E:Value->Xm->Prop},mS σ es xs->bQ G σ env->cH d A->df G σ env ρ H s.heap->ba G H n s->
 dZ G σ d xs ρ H n Q->sM G H n s Q Q'->wpAny (model G.prog G.w) A (forIn es true fun c r=>if r=true then do let ok <- isTrue c env (eval c env);pure (ForInStep.yield ok) else pure (ForInStep.yield r)) Q' E s:=by
 intro xs
 induction xs with
 | nil=>
 exact fun {es H n Q env A s Q' E} ht he hr F R h po=>by
  refine ab (j4 ht) ?_;exact Xn (po _ _ _ _ h R (.refl _ _) (TJ _))
 | cons x xs ih=>
 exact fun {es H n Q env A s Q' E} ht he hr F R h po=>by
  refine e8 ht fun e es hx t1 t2=>?_
  ·refine ab (Xa ..) ?_;refine Xl (Xl (h _ _ _ _ _ _ hx t1 he hr F R fun b H1 n1 s1 h1 R1 S1 l1=>Xn ?_));cases b
   ·have qn:∀(es:List Expr) (s:Xm),Q' false s->wpAny (model G.prog G.w) A (forIn es false fun c r=>if r=true then do let ok <- isTrue c env (eval c env);pure (ForInStep.yield ok) else pure (ForInStep.yield r)) Q' E s:=by
     intro es
     induction es with
     | nil=>intro s q;exact Xn q
     | cons e es ih=>intro s q;refine ab (Xa ..) ?_;exact Xl (Xn (ih s q))
    exact qn _ _ (po _ _ _ _ h1 R1 S1 l1)
   ·exact ih t2 he hr (F.step R S1) R1 h1 fun b H2 n2 s2 q R2 S2 l2=>po _ _ _ _ q R2 (S1.trans S2) (TF l1 l2)
theorem fU.more {Y:Addr->Prop}{s1:Xm}{h h':Heap}{tk:Nat}(R:ba G H n s1)(I:fU G X H s1.heap H' h)(hk:∀b o,h.get? b=some o->h'.get? b=some o)(hz:h.objs.size<=h'.objs.size)
 (hY:∀b,Y b->h.objs.size<=b/\b<h'.objs.size):fU G (fun b=>X b\/Y b) H s1.heap H' h':=by
 have R2:=R.into (tk:=tk) I;refine ⟨fun b o e=>hk b o (I.keep b o e),TF I.size hz,fun b q=>?_,fun b q=>I.same b fun z=>q (.inl z)⟩;rcases q with q | q
 ·refine cS (I.new b q) fun h1 h2 h3=>?_;exact ⟨h1,TO h2 hz,h3⟩
 ·obtain ⟨h1,h2⟩:=hY b q;refine ⟨.inl (TF I.size h1),h2,(R2.aY h1).1,fun a0 e=>?_⟩;rw [(R.aY (TF I.size h1)).1] at e;injection e
theorem bB.more {Y:Addr->Prop}{it:Value}{l:List V}{s:Xm}{h':Heap}(x:bB (G.bo X) H it l X s.heap)(hk:∀b o,s.heap.get? b=some o->h'.get? b=some o)
 (hz:s.heap.objs.size<=h'.objs.size) (hY:∀b,Y b->s.heap.objs.size<=b):bB (G.bo fun b=>X b\/Y b) H it l X h':=by
 refine G8 x fun I' fp wr N P St i iq W st hN Gu IP hP yE=>?_;subst iq;have K:fc (G.bo X) s.heap (Pf (G.bo X) H) h' (Pf (G.bo fun b=>X b\/Y b) H):=⟨fun b o e O=>hk b o e,fun b o e O=>hk b o e,fun b o e p=>⟨p.1,p.2.1,fun r=>r.elim (fun q=>p.2.2 (.inl q)) fun r=>r.elim (fun q=>p.2.2 (.inr q)) fun q=>absurd (Xr e) (Ux.mpr (hY b q))⟩⟩;refine (sL I' fp wr N P St i rfl W ((W {depth:=0,handled:=none,units:=0} rfl).frame _ _ _ st fun b O o e=>hk b o e) hN (fun b hb=>?_) IP (fun j v p x e=>?_) yE)
 ·refine cS (Gu b hb) fun h1 h2 h3=>?_;refine ⟨TO h1 hz,h2,?_⟩;rcases h3 with h3 | h3
  ·exact .inl fun r=>r.elim (fun q=>h3 (.inl q)) fun r=>r.elim (fun q=>h3 (.inr q)) fun q=>absurd h1 (Ux.mpr (hY b q))
  ·exact .inr h3
 ·exact (aC.bo (G:=G) x).mpr ((aC.bo (G:=G) x).mp (aC.kept K x (hP j v p x e)))
noncomputable def mQ (G:aA)(σ:cw)(d:Nat)(fT cC:aav)(ifs:List aav):List V->bt->AH->Nat->(List V->AH->Nat->Prop)->Prop
 | [],_,H,n,Q=>Q [] H n
 | x::xs,ρ,H,n,Q=>ij G σ d cC x ρ H n fun ρ1 H1 n1=>dZ G σ d ifs ρ1 H1 n1 fun b H2 n2=>
   if b then bl G σ d fT ρ1 H2 n2 fun v H3 n3=>mQ G σ d fT cC ifs xs ρ1 H3 n3 fun vs H4 n4=>Q (v::vs) H4 n4 else mQ G σ d fT cC ifs xs ρ1 H2 n2 Q
theorem au.push {h:Heap}{P:Addr->Prop}{xs:List V}{aD:List Value}{x:V}{v:Value}(r:au G h P xs aD)(q:aC G h P x v):au G h P (xs++[x]) (aD++[v]):=r.append (au.one q)
variable {Q:List V->AH->Nat->Prop}
theorem xl {sc:Scope}{fT cC:aav}{ifs:List aav}{kX vf iT:Expr}{cZ:List Expr}{pos:Pos}{env:Env}{A:Xv}{s:Xm}{E:Value->Xm->Prop}{RR:Value->Addr->ZL->Xm->Prop}{lT:V}{fz:Value}{l:List V}{H2:AH}{k:Nat}
 (CR:cI (bj σ sc) kX fT) (fW:k=(rI sc).length) (mz:gr (bj σ sc) cC=true) (Kp:cI (bj σ sc) vf cC) (Kl:mS (bj σ sc) cZ ifs)
 (hc:cX σ (bj σ sc)=true) (hk:eL sc=true) (he:bQ G σ env) (hr:cH d A) (F:df G σ env ρ H s.heap) (R:ba G H n s)
 (qk:eP G lT H l H2) (hsz:l.length<=16777216) (r:aC G s.heap (Pf G H) lT fz) (hb:∀X,mQ (G.bo X) (bj σ sc) d fT cC ifs l (ρ++Up k none) H2 n Q)
 (hK:∀Y D C vs aD H3 n3 s3 m,Y C->(∀b,Y b->¬G.own b)->D≠C->H3 D=none->G.h0.get? D=none->¬G.own D->(∀ρ',df G σ env ρ' H s.heap->df (G.bo Y) σ env ρ' H3 s3.heap)->ba (G.bo Y) H3 n3 s3->
 (∀Z H' h',bJ (fun b=>Y b\/Z b) H3 s3.heap H' h'->bJ Z H s.heap H' h')->n<=D->s3.heap.Ns C m->s3.heap.PlainList D aD.toArray->au (G.bo Y) s3.heap (Pf (G.bo Y) H3) vs aD->n<=n3->Q vs H3 n3->RR (.ref D) C (.ok .next) s3):
 wpAny (model G.prog G.w) A (pyIter fz) (fun it s₂=>wpAny (model G.prog G.w) A (newList []) (fun acc s₃=>wpAny (model G.prog G.w) A (newFunctionEnv sc env.globals (bF env sc.names []) [] env.qual none .none (some env)) (fun Ap s₄=>
 Yr (model G.prog G.w) A (.compStart (.ListComp kX [⟨vf,iT,cZ,0⟩] sc pos) 0 it acc {Ap with scope:=relabel sc env}) (RR acc Ap.locals) s₄) E s₃) E s₂) E s:=by
 refine qk A n s fz _ _ hr.hh r R fun it h2 tk X I2 FT=>?_;have pv:=hk;unfold eL at hk;simp only [UM,beq_iff_eq] at hk;have Nh:∀y∈sc.names,y.2≠ .cell:=fun y hy=>by have:=Ut.mp hk.1.2 y hy;simpa using this
 refine Y5 (YC Nh (by intro y hy;cases hy) (fun h4 rm k7=>?_) hk.1.1);dsimp only at rm k7 ⊢;revert rm k7;refine O7 (a:=h2.push {cls:=.type "list",dict:=none,data:=.seq ([]:List Value).toArray}) fun h3 KA rm k7=>?_;have hC:h3.objs.size=h2.objs.size+1:=by exact bk (KA ..) (ab (Xp ..) rfl)
 have vK:h4.objs.size=h2.objs.size+2:=by exact ab (bz k7 ..) (ab (Xp ..) (ab (hC ..) rfl))
 have vp:h2.objs.size≠h3.objs.size:=fun e=>UA (Uj _) (e.trans hC);have AY:¬h3.objs.size<h2.objs.size:=by exact Ux.mpr (aH (bc h2.objs.size h3.objs.size) [(1,.add aq ay,aw)] aq aw rfl (TL hC.symm))
 have old:∀b o,h2.get? b=some o->h4.get? b=some o:=fun b o e=>k7.extBut b o (UA (by refine ab hC ?_;exact VA (Xr e))) (Xo _ (KA▸Xo _ e));have Ie:h4.PlainList h2.objs.size #[]:=⟨_,k7.extBut _ _ vp (Xo _ (KA▸Xq _ rfl))⟩;have Bd:∀b,b=h2.objs.size\/b=h3.objs.size->h2.objs.size<=b/\b<h4.objs.size:=fun b hb=>Be hC vK hb;have I4:fU G (fun b=>X b\/(b=h2.objs.size\/b=h3.objs.size)) H s.heap H2 h4:=fU.more (tk:=tk) R I2 old (aH (bc h2.objs.size h4.objs.size) [(1,.add aq ia,aw)] aq aw rfl (TL vK.symm)) Bd;have R2:ba (G.bo X) H2 n {s with heap:=h2,toks:=tk}:=R.into I2;have wF:=FT.more (s:={s with heap:=h2,toks:=tk}) old (by show h2.objs.size<=_;exact aH (bc h2.objs.size h4.objs.size) [(1,.add aq ia,aw)] aq aw rfl (TL vK.symm)) fun b hb=>(Bd b hb).1;revert I4 wF;refine O7 (a:=fun b=>X b\/(b=h2.objs.size\/b=h3.objs.size)) fun Y hY I4 wF=>?_;have vq:∀b,X b->Y b:=fun b q=>by refine bk hY ?_;exact .inl q
 have kH:Y h2.objs.size:=by refine bk hY ?_;exact .inr (.inl rfl)
 have k5:Y h3.objs.size:=by refine bk hY ?_;exact .inr (.inr rfl)
 have nI:∀b,X b->b<h2.objs.size:=fun b q=>(I2.new b q).2.1;have qh:∀b,Y b->¬G.own b:=fun b q z=>by
  rcases (I4.new b q).1 with x | x
  ·exact absurd (R.own b z).1 (Ux.mpr x)
  ·exact x (R.own b z).2.2
 have hDf:=R.aY (TF I2.size (TJ h2.objs.size));have loop:∀s₃:Xm,s₃={s with heap:=h4,toks:=tk}->
   Yr (model G.prog G.w) A (.compLoop (.ListComp kX [⟨vf,iT,cZ,0⟩] sc pos) 0 it (.ref h2.objs.size) (XG sc (bF env sc.names []) h3.objs.size env)) (RR (.ref h2.objs.size) h3.objs.size) s₃:=by
  rintro s₃ rfl;have R4:ba (G.bo Y) H2 n {s with heap:=h4,toks:=tk}:=R.into I4;have F4:=F.into I4;have MY:bQ (G.bo Y) σ env:=he.bo;have QF:∀x c,(x,c)∈env.cells->c≠h3.objs.size:=fun x c hx q=>qh c (q▸k5) (F.cells x c hx).1;have Gs:=td (C:=h3.objs.size) hc pv MY QF;have Fc:df (G.bo Y) (bj σ sc) (XG sc (bF env sc.names []) h3.objs.size env) (ρ++Up k none) H2 h4:=tn fW hc MY F4 rm (.inr k5);have nN:∀b,fZ (bj σ sc) (XG sc (bF env sc.names []) h3.objs.size env) b->b=h3.objs.size:=fun b hb=>by
   rcases hb with rfl | ⟨x,_,hx⟩
   ·rfl
   ·exact absurd rfl (Nh _ (bS (hx:sc.names.lookup x=some .cell)))
  have Nc:∀b,fZ (bj σ sc) (XG sc (bF env sc.names []) h3.objs.size env) b->(G.bo Y).own b/\¬X b:=fun b hb=>by
   refine ab (nN b hb) ?_;exact ⟨.inr k5,fun q=>AY (nI _ q)⟩
  have Gq:∀b,X b->(G.bo Y).own b/\b≠(XG sc (bF env sc.names []) h3.objs.size env).locals/\∀x,(x,b)∉(XG sc (bF env sc.names []) h3.objs.size env).cells:=fun b q=>⟨.inr (vq b q),fun e=>AY (by have:=nI b q;rw [e] at this;exact this),fun x hx=>by
   have hx:(x,b)∈bF env sc.names []:=hx;rcases e6 hx with hx | ⟨h1,h2⟩
   ·cases hx
   ·refine i7 (de hc he h1) fun O O O bN=>?_;obtain ⟨c',nL⟩:=bN;rw [nL] at h2;subst h2;exact qh _ (vq _ q) (F.cells x _ (mem_of_lookup nL)).1⟩
  have ME:∀b,b=h2.objs.size->(G.bo Y).own b/\b≠(XG sc (bF env sc.names []) h3.objs.size env).locals/\∀x,(x,b)∉(XG sc (bF env sc.names []) h3.objs.size env).cells:=fun b q=>⟨.inr (q▸kH),fun e=>by
    have e:b=h3.objs.size:=e;exact vp (q.symm.trans e),fun x hx=>by
   have hx:(x,b)∈bF env sc.names []:=hx;rcases e6 hx with hx | ⟨h1,h2⟩
   ·cases hx
   ·refine i7 (de hc he h1) fun O O O bN=>?_;obtain ⟨c',nL⟩:=bN;rw [nL] at h2;subst h2;exact qh _ (q▸kH) (F.cells x _ (mem_of_lookup nL)).1⟩
  refine jb (fun j s'=>∃xs done aD ρ' H' n',j=xs.length/\mQ (G.bo Y) (bj σ sc) d fT cC ifs xs ρ' H' n' (fun ws=>Q (done++ws))/\df (G.bo Y) (bj σ sc) (XG sc (bF env sc.names []) h3.objs.size env) ρ' H' s'.heap/\ba (G.bo Y) H' n' s'/\bB (G.bo Y) H' it xs X s'.heap/\
   s'.heap.PlainList h2.objs.size aD.toArray/\au (G.bo Y) s'.heap (Pf (G.bo Y) H') done aD/\done.length+xs.length<=16777216/\bJ Y H2 h4 H' s'.heap/\n<=n') ?_ l.length
   (pM l [] [] _ H2 n rfl (hb Y) Fc R4 wF Ie rfl (by simpa using hsz) .refl (TJ _))
  refine fun j s5 E5 hI=>FP hI fun xs done aD ρ5 H5 n5 hj MO F5 R5 Lm MB r5 Em S5 l5=>?_;subst hj;have M6:∀{H6:AH} {h6:Heap} {Z:Addr->Prop} {aj:Array Value},bJ Z H5 s5.heap H6 h6->(∀b,Z b->b≠h2.objs.size)->s5.heap.PlainList h2.objs.size aj->h6.PlainList h2.objs.size aj:=fun S hZ ⟨nn,hp⟩=>⟨nn,S.keep _ _ hp (R5.own _ (.inr kH)).2.2 fun q=>hZ _ q rfl⟩;refine bB.next (G:=G.bo Y) hr.hh Lm R5 (fun b q=>.inr (vq b q)) (fun e s6 R6 S6=>?_) fun x pL e v s6 r6 Ln R6 S6=>?_
  ·subst e;have Dw:=S5.trans (S6.mono vq);have Ic:=M6 S6 (fun b q=>UA (nI b q)) MB;have r6:=au.kept (R5.fH (fun b q=>.inr (vq b q)) S6) _ r5;have F6:=F5.iL R5 S6 Gq;obtain ⟨m,hm⟩:=F6.ns;refine hK Y h2.objs.size h3.objs.size done aD H5 n5 s6 m k5 qh vp (R6.own _ (.inr kH)).2.2 (R6.own _ (.inr kH)).2.1 (qh _ kH) (fun ρ' F'=>?_) R6 (fun Z H' h' S=>?_) (TF R.size I2.size) hm Ic r6 l5 ((TU done)▸(show Q (done++[]) H5 n5 from MO))
   ·exact (F'.into I4).iL R4 Dw fun b q=>⟨.inr q,fun e=>qh b q (e▸F'.L),fun x hx=>qh b q (F'.cells x b hx).1⟩
   ·exact (((I4.step.gW (X:=fun b=>Y b\/Z b)).trans (Dw.mono fun b q=>.inl q)).trans S).less fun b o q e hb=>q.elim (fun q=>by
     rcases (I4.new b q).1 with z | z
     ·exact absurd (Xr e) (Ux.mpr z)
     ·exact absurd hb z) id
  ·subst e;have F6:=F5.iL R5 S6 Gq;have SN:=au.kept (R5.fH (fun b q=>.inr (vq b q)) S6) _ r5;have Ic:=M6 S6 (fun b q=>UA (nI b q)) MB;have Dw:=S5.trans (S6.mono vq);refine bB.go (G:=G.bo Y) Ln ?_;refine MO _ _ _ _ _ _ _ mz Kp Gs hr F6 R6 r6 fun ρ7 H7 n7 s7 h7 F7 R7 S7 l7=>?_;have P1:=Ln.keep R6 S7 Nc;have SO:=au.kept (R6.fH (fun b q=>(Nc b q).1) S7) _ SN;obtain ⟨nn,MF⟩:=Ic;have QG:s7.heap.PlainList h2.objs.size aD.toArray:=⟨nn,S7.keep _ _ MF (R6.own _ (.inr kH)).2.2 fun q=>vp (nN _ q)⟩;have P9:=Dw.trans (S7.mono fun b q=>by refine ab (nN b q) ?_;exact k5);refine qL (G:=G.bo Y) Kl Gs hr F7 R7 h7 fun b H8 n8 s8 h8 R8 S8 l8=>?_;have Lo:=P1.keep (Y:=fun O=>False) R7 S8.gW fun b q=>q.elim;have Ot:=R7.jd S8 SO;obtain ⟨nn,MF⟩:=QG;have MC:s8.heap.PlainList h2.objs.size aD.toArray:=⟨nn,S8.keep _ _ MF (R7.own _ (.inr kH)).2.2⟩;have Lu:=P9.trans S8.gW;have F8:=F7.step R7 S8;cases b
   ·
    exact (ai pL.length (by simp) (pM pL done aD ρ7 H8 n8 rfl h8 F8 R8 Lo MC Ot (by simp at Em;exact aH (bc done.length pL.length) [(1,.add aq (.add aw ay),.num 16777216)] (.add aq aw) (.num 16777216) rfl Em) Lu (aH (cm n n5 n7 n8) [(1,aq,aw),(1,aw,aN),(1,aN,bL)] aq bL rfl l5 l7 l8)))
   ·
    refine h8 _ _ _ _ _ _ CR Gs hr F8 R8 fun y H9 n9 y' s9 h9 r9 R9 S9 l9=>?_;have P2:=Lo.keep (Y:=fun O=>False) R8 S9.gW fun b q=>q.elim;have PH:=R8.jd S9 Ot;obtain ⟨nn,MF⟩:=MC;have QH:s9.heap.PlainList h2.objs.size aD.toArray:=⟨nn,S9.keep _ _ MF (R8.own _ (.inr kH)).2.2⟩;have Qa:=Lu.trans S9.gW;have F9:=F8.step R8 S9;have Bj:=PH.length;refine Zm QH (fun Ed Ib Bg=>?_) (by simp only [Ub];refine ab Xw ?_;exact aH (bC done.length pL.length aD.length) [(1,.add aq (.add aw ay),.num 16777216),(1,aN,aq)] aN (.num 16777216) rfl Em (TL Bj));obtain ⟨P8,x7⟩:=R9.j8 (X:=fun b=>b=h2.objs.size) (h':=Ed) (tk:=s9.toks) (fun b q=>.inr (q▸kH)) (fun b o q e=>(Bg.2 b q).trans e) (by refine ab (bz Bg) ?_;exact TJ _);refine (ai pL.length (by simp) (pM pL (done++[y]) (aD++[y']) ρ7 H9 n9 rfl (by simpa using h9) (F9.iL R9 x7 ME) P8 (P2.keep R9 x7 fun b q=>⟨.inr (q▸kH),fun z=>UA (nI b z) q⟩) (by simpa using Ib) ?_ (by refine ab (TG ..) ?_;exact aH (bc done.length pL.length) [(1,.add aq (.add aw ay),.num 16777216)] (.add (.add aq ay) aw) (.num 16777216) rfl Em) (Qa.trans (x7.mono fun b q=>q▸kH)) (TF l5 (TF l7 (TF l8 l9)))));exact au.kept (ba.fH (X:=fun b=>b=h2.objs.size) R9 (fun b q=>.inr (q▸kH)) x7) _ (PH.push r9)
 have It0:=wF;exact codeAny_compStart_list (loop _ rfl) (bB.self (G:=G.bo Y) hr.hh wF (loop _ rfl))
end
theorem iz {sc:Scope}(h:eL sc=true):sc.kind=.function:=eq_of_beq (af (af h).1).1
theorem jx {sc:Scope}(h:eL sc=true)(x:Str × XI)(hx:x∈sc.names)(hl:x.2=.local):sc.names.lookup x.1=some .local:=by
 have h:=Ut.mp (af h).2 x hx;rw [hl] at h;exact eq_of_beq h
theorem iy {prog:XS}{w:World}{A:Xv}{R:ZL->Xm->Prop}{s:Xm}{kx vx target iter:Expr}{ifs:List Expr}{scope:Scope}{pos:Pos}{it:Value}{D:Addr}{env:Env}(I:Nat->Xm->Prop)
  (turn:∀n s E,I n s->wpAny (model prog w) A (Zg it) (fun r s₁=>match r with
   | none=>R (.ok .next) s₁
   | some v=>wpAny (model prog w) A (Zu target it v) (fun O OG=>wpAny (model prog w) A (X3 target env v) (fun O s₂=>
     wpAny (model prog w) A (forIn ifs true fun c r=>if r=true then do let ok <- isTrue c env (eval c env);pure (ForInStep.yield ok) else pure (ForInStep.yield r)) (fun ok s₃=>
      if ok=true then wpAny (model prog w) A (eval kx env) (fun kv s₄=>wpAny (model prog w) A (eval vx env) (fun vv s₅=>
       wpAny (model prog w) A (dictSet D kv vv) (fun O s₆=>∃m,m<n/\I m s₆) E s₅) E s₄) E s₃
      else ∃m,m<n/\I m s₃) E s₂) E OG) E s₁) E s)
  (n:Nat) (h:I n s):
  Yr (model prog w) A (.compLoop (.DictComp kx vx [⟨target,iter,ifs,0⟩] scope pos) 0 it (.ref D) env) R s:=by
 refine codeAny_loop rfl I (fun n s hI=>?_) n h;show wpAny _ A ((compTurn (.DictComp kx vx [⟨target,iter,ifs,0⟩] scope pos) 0 it (.ref D) env).onRaise (fun x=>do noteFrame x env;theTreesLotGoes x)) _ _ s;refine wpAny_noted ?_;refine ab (compTurn_dict ..) ?_;refine Xl (XF (Xl (XC (turn n s _ hI) (fun r s₁ h₁=>?_) fun O O h'=>h')))
 cases r with
 | none=>exact Xn h₁
 | some v=>
  refine Xl (XC h₁ (fun O OG Rw=>?_) fun O O h'=>h');refine Xl (XC Rw (fun O s₂ h₂=>Xl (XC h₂ (fun ok s₃ h₃=>?_) fun O O h'=>h')) fun O O h'=>h')
  cases ok with
  | false=>exact Xn ⟨rfl,h₃⟩
  | true=>
   exact Xl (Xl (XC h₃ (fun kv s₄ h₄=>Xl (Xs (XC h₄ (fun vv s₅ h₅=>Xl (XF (Xs (XC h₅ (fun O s₆ h₆=>Xn ⟨rfl,h₆⟩) fun O O h'=>h')))) fun O O h'=>h'))) fun O O h'=>h'))
noncomputable def bM (es:List (SK × V))(k:SK)(v:V):List (SK × V):=if es.any (fun e=>e.1=k) then es.map (fun e=>if e.1=k then (e.1,v) else e) else es++[(k,v)]
theorem oH (es:List (SK × V))(k:SK)(v:V):(bM es k v).length<=es.length+1:=by
 unfold bM;split <;> simp
section
variable {G:aA}{X:Addr->Prop}{σ:cw}{d:Nat}{ρ:bt}{H H':AH}{n:Nat}{h:Heap}{P:Addr->Prop}
theorem aP.length:∀{es:List (SK × V)} {kvs:List (SK × Value)},aP G h P es kvs->kvs.length=es.length
 | [],_,r=>by refine ab (show _=[] from r) ?_;rfl
 | (k,x)::es,_,r=>by refine cy r fun v r' O h2=>?_;simp [aP.length h2]
theorem aP.map_set {k:SK}{x:V}{v:Value}(q:aC G h P x v):∀{es:List (SK × V)} {kvs:List (SK × Value)},aP G h P es kvs->aP G h P (es.map fun e=>if e.1=k then (e.1,x) else e) (kvs.map fun e=>if e.1=k then (e.1,v) else e):=by
 intro es
 induction es with
 | nil=>
 exact fun {O} r=>by refine ab (show _=[] from r) ?_;rfl
 | cons rU es ih=>
 obtain ⟨k',y⟩:=rU;exact fun {O} r=>by
  refine cy r fun u r' h1 h2=>?_;have ih:=ih h2;simp only [UJ]
  by_cases e:k'=k
  ·simp only [e,if_true];exact (bA v _ rfl q ih)
  ·simp only [e,if_false];exact (bA u _ rfl h1 ih)
theorem aP.any {k:SK}:∀{es:List (SK × V)} {kvs:List (SK × Value)},aP G h P es kvs->(kvs.any fun e=>e.1=k)=es.any fun e=>e.1=k
 | [],_,r=>by refine ab (show _=[] from r) ?_;rfl
 | (k',y)::es,_,r=>by
  refine cy r fun u r' h1 h2=>?_;simp only [U6,aP.any h2]
theorem aP.stored {es:List (SK × V)}{kvs:List (SK × Value)}{k:SK}{x:V}{v:Value}(r:aP G h P es kvs)(q:aC G h P x v):aP G h P (bM es k x) (stored kvs k v):=by
 unfold bM PySem.stored;refine ab r.any ?_;split
 ·exact aP.map_set q r
 ·exact r.append (bA v [] rfl q rfl)
noncomputable def pO (G:aA)(σ:cw)(d t:Nat)(xk xv cC:aav)(ifs:List aav):List V->List (SK × V)->bt->AH->Nat->(List (SK × V)->AH->Nat->Prop)->Prop
 | [],es,_,H,n,Q=>Q es H n
 | x::xs,es,ρ,H,n,Q=>ij G σ d cC x ρ H n fun ρ1 H1 n1=>dZ G σ d ifs ρ1 H1 n1 fun b H2 n2=>
   if b then bl G σ d xk ρ1 H2 n2 fun kv H3 n3=>∃kk,kv=.sk kk/\kk.tag=t/\bl G σ d xv ρ1 H3 n3 fun v H4 n4=>pO G σ d t xk xv cC ifs xs (bM es kk v) ρ1 H4 n4 Q else pO G σ d t xk xv cC ifs xs es ρ1 H2 n2 Q
theorem DQ {sc:Scope}{xk xv cC:aav}{ifs:List aav}{Qx Qy vf iT:Expr}{cZ:List Expr}{pos:Pos}{env:Env}{A:Xv}{s:Xm}{E:Value->Xm->Prop}{RR:Value->Addr->ZL->Xm->Prop}{lT:V}{fz:Value}{l:List V}{H2:AH}{k t:Nat}{Q:List (SK × V)->AH->Nat->Prop}
 (Ts:cI (bj σ sc) Qx xk) (Tx:cI (bj σ sc) Qy xv) (fW:k=(rI sc).length) (mz:gr (bj σ sc) cC=true) (Kp:cI (bj σ sc) vf cC) (Kl:mS (bj σ sc) cZ ifs)
 (hc:cX σ (bj σ sc)=true) (hk:eL sc=true) (he:bQ G σ env) (hr:cH d A) (F:df G σ env ρ H s.heap) (R:ba G H n s)
 (qk:eP G lT H l H2) (hsz:l.length<=16777216) (r:aC G s.heap (Pf G H) lT fz) (hb:∀X,pO (G.bo X) (bj σ sc) d t xk xv cC ifs l [] (ρ++Up k none) H2 n Q)
 (hK:∀Y D C es kvs H3 n3 s3 m,Y C->(∀b,Y b->¬G.own b)->D≠C->H3 D=none->G.h0.get? D=none->¬G.own D->(∀ρ',df G σ env ρ' H s.heap->df (G.bo Y) σ env ρ' H3 s3.heap)->ba (G.bo Y) H3 n3 s3->
 (∀Z H' h',bJ (fun b=>Y b\/Z b) H3 s3.heap H' h'->bJ Z H s.heap H' h')->n<=D->s3.heap.Ns C m->s3.heap.DictOf (bT G.prog G.w t) D kvs->aP (G.bo Y) s3.heap (Pf (G.bo Y) H3) es kvs->n<=n3->Q es H3 n3->RR (.ref D) C (.ok .next) s3):
 wpAny (model G.prog G.w) A (pyIter fz) (fun it s₂=>wpAny (model G.prog G.w) A newDict (fun acc s₃=>wpAny (model G.prog G.w) A (newFunctionEnv sc env.globals (bF env sc.names []) [] env.qual none .none (some env)) (fun Ap s₄=>
 Yr (model G.prog G.w) A (.compStart (.DictComp Qx Qy [⟨vf,iT,cZ,0⟩] sc pos) 0 it acc {Ap with scope:=relabel sc env}) (RR acc Ap.locals) s₄) E s₃) E s₂) E s:=by
 refine qk A n s fz _ _ hr.hh r R fun it h2 tk X I2 FT=>?_;have pv:=hk;unfold eL at hk;simp only [UM,beq_iff_eq] at hk;have Nh:∀y∈sc.names,y.2≠ .cell:=fun y hy=>by have:=Ut.mp hk.1.2 y hy;simpa using this
 refine Y5 (YC Nh (by intro y hy;cases hy) (fun h4 rm k7=>?_) hk.1.1);dsimp only at rm k7 ⊢;have yH:(h2.push {cls:=.type "dict",dict:=none,data:=.dict #[]}).DictOf (bT G.prog G.w t) h2.objs.size []:=Heap.DictOf.new h2;revert rm k7 yH;refine O7 (a:=h2.push {cls:=.type "dict",dict:=none,data:=.dict #[]}) fun h3 KA rm k7 yH=>?_;have hC:h3.objs.size=h2.objs.size+1:=by exact bk (KA ..) (ab (Xp ..) rfl)
 have vK:h4.objs.size=h2.objs.size+2:=by exact ab (bz k7 ..) (ab (Xp ..) (ab (hC ..) rfl))
 have vp:h2.objs.size≠h3.objs.size:=fun e=>UA (Uj _) (e.trans hC);have AY:¬h3.objs.size<h2.objs.size:=by exact Ux.mpr (aH (bc h2.objs.size h3.objs.size) [(1,.add aq ay,aw)] aq aw rfl (TL hC.symm))
 have old:∀b o,h2.get? b=some o->h4.get? b=some o:=fun b o e=>k7.extBut b o (UA (by refine ab hC ?_;exact VA (Xr e))) (Xo _ (KA▸Xo _ e));have Ie:h4.DictOf (bT G.prog G.w t) h2.objs.size []:=yH.at fun o e=>k7.extBut _ _ vp (Xo _ e);have Bd:∀b,b=h2.objs.size\/b=h3.objs.size->h2.objs.size<=b/\b<h4.objs.size:=fun b hb=>Be hC vK hb;have I4:fU G (fun b=>X b\/(b=h2.objs.size\/b=h3.objs.size)) H s.heap H2 h4:=fU.more (tk:=tk) R I2 old (aH (bc h2.objs.size h4.objs.size) [(1,.add aq ia,aw)] aq aw rfl (TL vK.symm)) Bd;have R2:ba (G.bo X) H2 n {s with heap:=h2,toks:=tk}:=R.into I2;have wF:=FT.more (s:={s with heap:=h2,toks:=tk}) old (by show h2.objs.size<=_;exact aH (bc h2.objs.size h4.objs.size) [(1,.add aq ia,aw)] aq aw rfl (TL vK.symm)) fun b hb=>(Bd b hb).1;revert I4 wF;refine O7 (a:=fun b=>X b\/(b=h2.objs.size\/b=h3.objs.size)) fun Y hY I4 wF=>?_;have vq:∀b,X b->Y b:=fun b q=>by refine bk hY ?_;exact .inl q
 have kH:Y h2.objs.size:=by refine bk hY ?_;exact .inr (.inl rfl)
 have k5:Y h3.objs.size:=by refine bk hY ?_;exact .inr (.inr rfl)
 have nI:∀b,X b->b<h2.objs.size:=fun b q=>(I2.new b q).2.1;have qh:∀b,Y b->¬G.own b:=fun b q z=>by
  rcases (I4.new b q).1 with x | x
  ·exact absurd (R.own b z).1 (Ux.mpr x)
  ·exact x (R.own b z).2.2
 have hDf:=R.aY (TF I2.size (TJ h2.objs.size));have loop:∀s₃:Xm,s₃={s with heap:=h4,toks:=tk}->
   Yr (model G.prog G.w) A (.compLoop (.DictComp Qx Qy [⟨vf,iT,cZ,0⟩] sc pos) 0 it (.ref h2.objs.size) (XG sc (bF env sc.names []) h3.objs.size env)) (RR (.ref h2.objs.size) h3.objs.size) s₃:=by
  rintro s₃ rfl;have R4:ba (G.bo Y) H2 n {s with heap:=h4,toks:=tk}:=R.into I4;have F4:=F.into I4;have MY:bQ (G.bo Y) σ env:=he.bo;have QF:∀x c,(x,c)∈env.cells->c≠h3.objs.size:=fun x c hx q=>qh c (q▸k5) (F.cells x c hx).1;have Gs:=td (C:=h3.objs.size) hc pv MY QF;have Fc:df (G.bo Y) (bj σ sc) (XG sc (bF env sc.names []) h3.objs.size env) (ρ++Up k none) H2 h4:=tn fW hc MY F4 rm (.inr k5);have nN:∀b,fZ (bj σ sc) (XG sc (bF env sc.names []) h3.objs.size env) b->b=h3.objs.size:=fun b hb=>by
   rcases hb with rfl | ⟨x,_,hx⟩
   ·rfl
   ·exact absurd rfl (Nh _ (bS (hx:sc.names.lookup x=some .cell)))
  have Nc:∀b,fZ (bj σ sc) (XG sc (bF env sc.names []) h3.objs.size env) b->(G.bo Y).own b/\¬X b:=fun b hb=>by
   refine ab (nN b hb) ?_;exact ⟨.inr k5,fun q=>AY (nI _ q)⟩
  have Gq:∀b,X b->(G.bo Y).own b/\b≠(XG sc (bF env sc.names []) h3.objs.size env).locals/\∀x,(x,b)∉(XG sc (bF env sc.names []) h3.objs.size env).cells:=fun b q=>⟨.inr (vq b q),fun e=>AY (by have:=nI b q;rw [e] at this;exact this),fun x hx=>by
   have hx:(x,b)∈bF env sc.names []:=hx;rcases e6 hx with hx | ⟨h1,h2⟩
   ·cases hx
   ·refine i7 (de hc he h1) fun O O O bN=>?_;obtain ⟨c',nL⟩:=bN;rw [nL] at h2;subst h2;exact qh _ (vq _ q) (F.cells x _ (mem_of_lookup nL)).1⟩
  have ME:∀b,b=h2.objs.size->(G.bo Y).own b/\b≠(XG sc (bF env sc.names []) h3.objs.size env).locals/\∀x,(x,b)∉(XG sc (bF env sc.names []) h3.objs.size env).cells:=fun b q=>⟨.inr (q▸kH),fun e=>by
    have e:b=h3.objs.size:=e;exact vp (q.symm.trans e),fun x hx=>by
   have hx:(x,b)∈bF env sc.names []:=hx;rcases e6 hx with hx | ⟨h1,h2⟩
   ·cases hx
   ·refine i7 (de hc he h1) fun O O O bN=>?_;obtain ⟨c',nL⟩:=bN;rw [nL] at h2;subst h2;exact qh _ (q▸kH) (F.cells x _ (mem_of_lookup nL)).1⟩
  refine iy (fun j s'=>∃xs done aD ρ' H' n',j=xs.length/\pO (G.bo Y) (bj σ sc) d t xk xv cC ifs xs done ρ' H' n' Q/\df (G.bo Y) (bj σ sc) (XG sc (bF env sc.names []) h3.objs.size env) ρ' H' s'.heap/\ba (G.bo Y) H' n' s'/\bB (G.bo Y) H' it xs X s'.heap/\
   s'.heap.DictOf (bT G.prog G.w t) h2.objs.size aD/\aP (G.bo Y) s'.heap (Pf (G.bo Y) H') done aD/\done.length+xs.length<=16777216/\bJ Y H2 h4 H' s'.heap/\n<=n') ?_ l.length
   (pM l [] [] _ H2 n rfl (hb Y) Fc R4 wF Ie rfl (by simpa using hsz) .refl (TJ _))
  refine fun j s5 E5 hI=>FP hI fun xs done aD ρ5 H5 n5 hj MO F5 R5 Lm MB r5 Em S5 l5=>?_;subst hj;have M6:∀{H6:AH} {h6:Heap} {Z:Addr->Prop} {aj:List (SK × Value)},bJ Z H5 s5.heap H6 h6->(∀b,Z b->b≠h2.objs.size)->s5.heap.DictOf (bT G.prog G.w t) h2.objs.size aj->h6.DictOf (bT G.prog G.w t) h2.objs.size aj:=fun S hZ hp=>hp.at fun o e=>S.keep _ _ e (R5.own _ (.inr kH)).2.2 fun q=>hZ _ q rfl;refine bB.next (G:=G.bo Y) hr.hh Lm R5 (fun b q=>.inr (vq b q)) (fun e s6 R6 S6=>?_) fun x pL e v s6 r6 Ln R6 S6=>?_
  ·subst e;have Dw:=S5.trans (S6.mono vq);have Ic:=M6 S6 (fun b q=>UA (nI b q)) MB;have r6:=aP.kept (R5.fH (fun b q=>.inr (vq b q)) S6) _ r5;have F6:=F5.iL R5 S6 Gq;obtain ⟨m,hm⟩:=F6.ns;refine hK Y h2.objs.size h3.objs.size done aD H5 n5 s6 m k5 qh vp (R6.own _ (.inr kH)).2.2 (R6.own _ (.inr kH)).2.1 (qh _ kH) (fun ρ' F'=>?_) R6 (fun Z H' h' S=>?_) (TF R.size I2.size) hm Ic r6 l5 MO
   ·exact (F'.into I4).iL R4 Dw fun b q=>⟨.inr q,fun e=>qh b q (e▸F'.L),fun x hx=>qh b q (F'.cells x b hx).1⟩
   ·exact (((I4.step.gW (X:=fun b=>Y b\/Z b)).trans (Dw.mono fun b q=>.inl q)).trans S).less fun b o q e hb=>q.elim (fun q=>by
     rcases (I4.new b q).1 with z | z
     ·exact absurd (Xr e) (Ux.mpr z)
     ·exact absurd hb z) id
  ·subst e;have F6:=F5.iL R5 S6 Gq;have SN:=aP.kept (R5.fH (fun b q=>.inr (vq b q)) S6) _ r5;have Ic:=M6 S6 (fun b q=>UA (nI b q)) MB;have Dw:=S5.trans (S6.mono vq);refine bB.go (G:=G.bo Y) Ln ?_;refine MO _ _ _ _ _ _ _ mz Kp Gs hr F6 R6 r6 fun ρ7 H7 n7 s7 h7 F7 R7 S7 l7=>?_;have P1:=Ln.keep R6 S7 Nc;have SO:=aP.kept (R6.fH (fun b q=>(Nc b q).1) S7) _ SN;have QG:s7.heap.DictOf (bT G.prog G.w t) h2.objs.size aD:=Ic.at fun o e=>S7.keep _ _ e (R6.own _ (.inr kH)).2.2 fun q=>vp (nN _ q);have P9:=Dw.trans (S7.mono fun b q=>by refine ab (nN b q) ?_;exact k5);refine qL (G:=G.bo Y) Kl Gs hr F7 R7 h7 fun b H8 n8 s8 h8 R8 S8 l8=>?_;have Lo:=P1.keep (Y:=fun O=>False) R7 S8.gW fun b q=>q.elim;have Ot:=aP.kept (R7.kept S8) _ SO;have MC:s8.heap.DictOf (bT G.prog G.w t) h2.objs.size aD:=QG.at fun o e=>S8.keep _ _ e (R7.own _ (.inr kH)).2.2;have Lu:=P9.trans S8.gW;have F8:=F7.step R7 S8;cases b
   ·
    exact (ai pL.length (by simp) (pM pL done aD ρ7 H8 n8 rfl h8 F8 R8 Lo MC Ot (by simp at Em;exact aH (bc done.length pL.length) [(1,.add aq (.add aw ay),.num 16777216)] (.add aq aw) (.num 16777216) rfl Em) Lu (aH (cm n n5 n7 n8) [(1,aq,aw),(1,aw,aN),(1,aN,bL)] aq bL rfl l5 l7 l8)))
   ·
    refine h8 _ _ _ _ _ _ Ts Gs hr F8 R8 fun y H9 n9 y' s9 h9 r9 R9 S9 l9=>?_;obtain ⟨kk,rfl,Q5,h9⟩:=h9;have P2:=Lo.keep (Y:=fun O=>False) R8 S9.gW fun b q=>q.elim;have PH:=aP.kept (R8.kept S9) _ Ot;have QH:s9.heap.DictOf (bT G.prog G.w t) h2.objs.size aD:=MC.at fun o e=>S9.keep _ _ e (R8.own _ (.inr kH)).2.2;have Qa:=Lu.trans S9.gW;have F9:=F8.step R8 S9;refine h9 _ _ _ _ _ _ Tx Gs hr F9 R9 fun z Ha na z' sa ha ra Ra Sa la=>?_;have Ita:=P2.keep (Y:=fun O=>False) R9 Sa.gW fun b q=>q.elim;have rad:=aP.kept (R9.kept Sa) _ PH;have hDa:sa.heap.DictOf (bT G.prog G.w t) h2.objs.size aD:=QH.at fun o e=>Sa.keep _ _ e (R9.own _ (.inr kH)).2.2;have S5a:=Qa.trans Sa.gW;have Fa:=F9.step R9 Sa;have Bj:=rad.length;have r9k:kk.eV y'=true:=r9;refine aab (knd:=bT G.prog G.w t) (k:=kk) (by show (kk.tag==t&&kk.eV y')=true;refine ab Q5 (ab r9k ?_);simp) hDa (fun Ed Ib Bg=>?_) (by refine ab Xw ?_;exact aH (bC done.length pL.length aD.length) [(1,.add aq (.add aw ay),.num 16777216),(1,aN,aq)] aN (.num 16777216) rfl Em (TL Bj));obtain ⟨P8,x7⟩:=Ra.j8 (X:=fun b=>b=h2.objs.size) (h':=Ed) (tk:=sa.toks+1) (fun b q=>.inr (q▸kH)) (fun b o q e=>(Bg.2 b q).trans e) (by refine ab (bz Bg) ?_;exact TJ _);have Nx:=oH done kk z;refine (ai pL.length (by simp) (pM pL (bM done kk z) (stored aD kk z') ρ7 Ha na rfl ha (Fa.iL Ra x7 ME) P8 (Ita.keep Ra x7 fun b q=>⟨.inr (q▸kH),fun z=>UA (nI b z) q⟩) Ib ?_ (aH (bC done.length pL.length (bM done kk z).length) [(1,.add aq (.add aw ay),.num 16777216),(1,aN,.add aq ay)] (.add aN aw) (.num 16777216) rfl Em Nx) (S5a.trans (x7.mono fun b q=>q▸kH)) (TF l5 (TF l7 (TF l8 (TF l9 la))))));exact aP.kept (ba.fH (X:=fun b=>b=h2.objs.size) Ra (fun b q=>.inr (q▸kH)) x7) _ (rad.stored ra)
 have It0:=wF;exact codeAny_compStart_dict (loop _ rfl) (bB.self (G:=G.bo Y) hr.hh wF (loop _ rfl))
theorem Qw {fT cC:aav}{im:IM}{dn ifs:List aav}{k:Nat}{Q:V->AH->Nat->Prop}(h:sO G σ d im dn ρ H n fun lT H1 n1=>∃l H2,eP G lT H1 l H2/\l.length<=16777216/\∀σ' X,mQ (G.bo X) σ' d fT cC ifs l (ρ++Up k none) H2 n1 fun vs H3 n3=>Q (.ag vs) H3 n3):bl G σ d (.lc k fT cC im dn ifs) ρ H n Q:=by
 intro e env A s Q' E ht he hr F R po;refine IY ht fun kX et iT cZ sc pos C0 CR=>?_
 ·refine ab (eval_ListComp ..) ?_;refine Ym (use:=none) rfl (rN C0.it env) (kR C0.ck he) (iz C0.ok) (fun x hx hl=>jx C0.ok x hx hl) ?_
  ·refine h _ _ _ _ _ _ C0.ti he hr F R fun lT H1 n1 fz s1 h1 r1 R1 S1 l1=>?_;refine cu h1 fun l H2 qk hsz hb=>?_;refine xl (RR:=fun acc C=>compPost (model G.prog G.w) A E none Q' acc C) CR C0.len C0.tg C0.tt C0.tf C0.ck C0.ok he hr (F.step R S1) R1 qk hsz r1 (hb _) fun Y D C vs aD H3 n3 s3 m k5 qh vp Gp MA Kz hF R3 hS Rc hm Df rv l3 q=>?_;refine (ai m hm (fun h' hs=>?_));obtain ⟨R4,S4⟩:=R3.j8 (X:=fun b=>b=C) (h':=h') (tk:=s3.toks) (fun b q=>.inr (q▸k5)) (fun b o q e=>(hs.2 b q).trans e) (by refine ab (bz hs) ?_;exact TJ _);have K:=ba.fH (X:=fun b=>b=C) R3 (fun b q=>.inr (q▸k5)) S4;refine po _ _ _ _ _ q (cD D aD rfl ⟨Gp,MA,Kz⟩ (Df.at fun o e=>(hs.2 D vp).trans e) (au.out (au.kept K _ rv))) R4.out (S1.trans ((hS (fun O=>False) _ _ (S4.mono fun b q=>.inl (q▸k5))).toStep fun O O q=>q.elim)) (aH (bC n n1 n3) [(1,aq,aw),(1,aw,aN)] aq aN rfl l1 l3)
theorem J0 {i:Nat}{fT cC:aav}{im:IM}{dn ifs:List aav}{k:Nat}{Q:bt->AH->Nat->Prop}{R:V->AH->Nat->Prop}(h:sO G σ d im dn ρ H n fun lT H1 n1=>∃l H2,eP G lT H1 l H2/\l.length<=16777216/\∀σ' X,mQ (G.bo X) σ' d fT cC ifs l (ρ++Up k none) H2 n1 fun vs H3 n3=>Q (ρ.set i (some (.ag vs))) H3 n3):ja G σ d (.pe i k fT cC im dn ifs) ρ H n Q R:=by
 intro st env A s Q' E hs he hr F Rp pn pr;refine Bn hs fun x kX et iT cZ sc p px q C0 CR Ba Ig Bb MZ=>?_
 ·have KC:env.blockKind=.function:=by unfold Env.blockKind;refine ab he.kind ?_;rfl
  have GC:swapsWith (.ListComp kX [⟨et,iT,cZ,0⟩] sc q) (some (.Name x px)) p.line env=pure true:=by
   show (pure (env.blockKind== .function&&env.kindOf x==some .local&&px.line==q.line&& !(sc.names.any fun (n,k)=>n==x&&(k== .local || k== .cell))):Sem Bool)=pure true;refine ab KC (ab (he.loc x Bb) (ab Ba (ab Ig ?_)));simp
  refine ab (exec_Assign_Name_used _ _ _ _ GC) ?_;refine Xl (XF (Xl ?_));show wpAny _ A (do let _ <- comprehension (.ListComp kX [⟨et,iT,cZ,0⟩] sc q) sc env _ (newList []) false (eval iT env) (some (X3 (.Name x px) env))) _ _ s;refine Xl (XC (Ym (use:=some (X3 (.Name x px) env)) (Q:=fun O s'=>Q' .next s') rfl (rN C0.it env) (kR C0.ck he) (iz C0.ok) (fun x hx hl=>jx C0.ok x hx hl) ?_) (fun O s' hq=>Xn (Xn hq)) fun O O e=>e)
  ·refine h _ _ _ _ _ _ C0.ti he hr F Rp fun lT H1 n1 fz s1 h1 r1 R1 S1 l1=>?_;refine cu h1 fun l H2 qk hsz hb=>?_;refine xl (RR:=fun acc C=>compPost (model G.prog G.w) A E (some (X3 (.Name x px) env)) (fun O s'=>Q' .next s') acc C) CR C0.len C0.tg C0.tt C0.tf C0.ck C0.ok he hr (F.step Rp S1) R1 qk hsz r1 (hb _) fun Y D C vs aD H3 n3 s3 m k5 qh vp Gp MA Kz hF R3 hS Rc hm Df rv l3 q=>?_;have F3:=hF _ (F.step Rp S1);refine Y6 (eF (G:=G.bo Y) he.bo F3 R3 MZ (by unfold cw.stores;refine ab (fE MZ) ?_;dsimp only;refine ab Bb ?_;rfl) (v:=.ref D) rfl fun s4 F4 R4 S4=>?_);have hmo:∀b,fZ σ env b->G.own b:=fun b hb=>F.own hb;have hCm:¬fZ σ env C:=fun z=>qh C k5 (hmo C z);have ME:¬fZ σ env D:=fun z=>Kz (hmo D z);have hm4:s4.heap.Ns C m:=by
    refine jt hm fun o es ep ho rr=>?_;exact (cv o es ep (S4.keep _ _ ho (R3.own _ (.inr k5)).2.2 hCm) rr)
   have Rh:s4.heap.PlainList D aD.toArray:=Df.at fun o e=>S4.keep _ _ e Gp ME;have rv4:=au.kept (F3.kept R3 S4) _ rv;refine (ai m hm4 (fun h' hs=>?_));obtain ⟨R5,S5⟩:=R4.j8 (X:=fun b=>b=C) (h':=h') (tk:=s4.toks) (fun b q=>.inr (q▸k5)) (fun b o q e=>(hs.2 b q).trans e) (by refine ab (bz hs) ?_;exact TJ _);have K:=ba.fH (X:=fun b=>b=C) R4 (fun b q=>.inr (q▸k5)) S5;have F5:df (G.bo Y) σ env (ρ.set i (some (.ref D))) H3 h':=F4.iL R4 S5 fun b z=>⟨.inr (z▸k5),fun e=>hCm (.inl (z.symm.trans e)),fun y hy=>qh C k5 (z▸(F.cells y b hy).1)⟩;have F6:df G σ env (ρ.set i (some (.ref D))) H3 h':=F.out F5;have rD:aC G h' (Pf G H3) (.ag vs) (.ref D):=(cD D aD rfl ⟨Gp,MA,Kz⟩ (Rh.at fun o e=>(hs.2 D vp).trans e) (au.out (au.kept K _ rv4)));have Q1:i<ρ.length:=by refine ab F.len ?_;exact (U1.mp MZ).1
   have F7:=F6.rY (i:=i) (u:=.ref D) (v:=.ag vs) (by exact ab (List.getElem?_set_self Q1) rfl) fun v' r=>by refine ab (show v'=.ref D from r) ?_;exact rD
   rw [List.set_set] at F7;refine pn _ _ _ _ q F7 R5.out (S1.gW.trans (hS _ _ _ ?_)) (aH (bC n n1 n3) [(1,aq,aw),(1,aw,aN)] aq aN rfl l1 l3);exact (S4.mono fun b q=>.inr q).trans (S5.mono fun b q=>.inl (q▸k5))
theorem ba.raise {s:Xm}{n':Nat}(R:ba G H n s)(h:n'<=s.heap.objs.size):ba G H n' s:=⟨R.base,h,R.objs,R.glob,R.lo,R.own⟩
theorem Qv {xk xv cC:aav}{im:IM}{dn ifs:List aav}{k:Nat}(t:Nat){Q:V->AH->Nat->Prop}(h:sO G σ d im dn ρ H n fun lT H1 n1=>∃l H2,eP G lT H1 l H2/\l.length<=16777216/\∀σ' X,pO (G.bo X) σ' d t xk xv cC ifs l [] (ρ++Up k none) H2 n1 fun es H3 n3=>∀D n4,n1<=D->D<n4->n3<=n4->Q (.az D es) H3 n4):bl G σ d (.dc k xk xv cC im dn ifs) ρ H n Q:=by
 intro e env A s Q' E ht he hr F R po;refine IV ht fun ek ev et iT cZ sc pos C0 Ts Tx=>?_
 ·refine ab (arm_eval_DictComp ..) ?_;refine Ym (use:=none) rfl (rN C0.it env) (kR C0.ck he) (iz C0.ok) (fun x hx hl=>jx C0.ok x hx hl) ?_
  ·refine h _ _ _ _ _ _ C0.ti he hr F R fun lT H1 n1 fz s1 h1 r1 R1 S1 l1=>?_;refine cu h1 fun l H2 qk hsz hb=>?_;refine DQ (RR:=fun acc C=>compPost (model G.prog G.w) A E none Q' acc C) Ts Tx C0.len C0.tg C0.tt C0.tf C0.ck C0.ok he hr (F.step R S1) R1 qk hsz r1 (hb _) fun Y D C vs aD H3 n3 s3 m k5 qh vp Gp MA Kz hF R3 hS Rc hm Df rv l3 q=>?_;refine (ai m hm (fun h' hs=>?_));obtain ⟨R4,S4⟩:=R3.j8 (X:=fun b=>b=C) (h':=h') (tk:=s3.toks) (fun b q=>.inr (q▸k5)) (fun b o q e=>(hs.2 b q).trans e) (by refine ab (bz hs) ?_;exact TJ _);have K:=ba.fH (X:=fun b=>b=C) R3 (fun b q=>.inr (q▸k5)) S4;have Nl:h'.DictOf (bT G.prog G.w t) D aD:=Df.at fun o e=>(hs.2 D vp).trans e;refine ah (jy (G:=G) ⟨t,Nl⟩) fun oD heD O=>?_;have hDz:D<h'.objs.size:=Xr heD;refine po _ _ _ _ _ (q D h'.objs.size Rc hDz R4.size) ⟨rfl,⟨Gp,MA,Kz⟩,ai aD ⟨t,Nl⟩ (aP.kept nX _ ((aP.bo _).mp (aP.kept K _ rv)))⟩ (R4.out.raise (TJ _)) (S1.trans ((hS (fun O=>False) _ _ (S4.mono fun b q=>.inl (q▸k5))).toStep fun O O q=>q.elim)) ?_;exact TF (TF l1 l3) R4.size
end
noncomputable def oq:List Str->Bool
 | []=>true
 | x::xs=> !xs.contains x&&oq xs
theorem ou {l:List Str}(h:oq l=true):l.Nodup:=by
 induction l with
 | nil=>exact WQ
 | cons x xs ih=>
  have h:(!xs.contains x&&oq xs)=true:=h;have h:=(UM ..).mp h;exact U8.mpr ⟨fun q=>by rw [UQ.mpr q] at h;exact T4 h.1,ih h.2⟩
noncomputable def AP (sc:Scope)(q8:Nat)(names:List Str):Bool:=
 sc.kind== .function&& !sc.isCoroutine&& !sc.isGenerator&&oq (sc.names.map (·.1))&&oq names&&sc.names.all (fun p=>p.2 != .free)&&names.all (fun x=>sc.names.lookup x==some .local || sc.names.lookup x==some .cell)&&
 (ur sc q8).vars.take names.length==names
theorem eZ {α:Type}{l:List (Str × α)}{x:Str}{c:α}(hn:(l.map (·.1)).Nodup)(h:(x,c)∈l):l.lookup x=some c:=by
 induction l with
 | nil=>cases h
 | cons p l ih=>
  obtain ⟨y,v⟩:=p;rw [UJ,U8] at hn;rcases TN.mp h with h | h1
  ·(injection h with e1 e2;subst e1;subst e2);simp
  ·have:(x==y)=false:=by
    simp only [beq_eq_false_iff_ne,ne_eq];intro q;subst q;exact hn.1 (TX.mpr (ai _ h1 rfl))
   refine ab Ue (ab this ?_);exact ih hn.2 h1
theorem nf:∀{names:List (Str × XI)} {k:Nat} {acc:List (Str × Addr)},(names.map (·.1)).Nodup->(acc.map (·.1)).Nodup->(∀x∈acc.map (·.1),x∉names.map (·.1))->((Zv k names acc).map (·.1)).Nodup:=by
 intro names
 induction names with
 | nil=>
 exact fun {O O} O h O=>h
 | cons rU r ih=>
 obtain ⟨x,kd⟩:=rU;exact fun {k acc} hn ha hd=>by
  rw [UJ,U8] at hn;unfold Zv;split
  ·refine ih hn.2 ?_ fun y hy=>?_
   ·rw [UJ,U8];exact ⟨fun q=>hd x q (.head _),ha⟩
   ·rcases TN.mp hy with rfl | hy
    ·exact hn.1
    ·exact fun q=>hd y hy (.tail _ q)
  ·exact ih hn.2 ha fun y hy q=>hd y hy (.tail _ q)
theorem dj:∀{names:List (Str × XI)} {k:Nat} {acc:List (Str × Addr)} {x:Str},((x,.cell)∈names\/∃c,(x,c)∈acc)->∃c,(x,c)∈Zv k names acc
 | [],_,_,_,h=>by rcases h with h | h;cases h;exact h
 | (y,kd)::r,k,acc,x,h=>by
  unfold Zv;split
  ·rename_i hk;refine dj ?_;rcases h with h | ⟨c,h⟩
   ·rcases TN.mp h with h | h
    ·(injection h with e1 e2;subst e1;subst e2);exact .inr ⟨_,.head _⟩
    ·exact .inl h
   ·exact .inr ⟨c,.tail _ h⟩
  ·rename_i hk;refine dj ?_;rcases h with h | h
   ·rcases TN.mp h with h | h
    ·(injection h with e1 e2;subst e1;subst e2);exact absurd rfl hk
    ·exact .inl h
   ·exact .inr h
theorem mZ {kd:Str->Option XI}:∀{dA:List (Str × Value)} {m:Str->Option Value} {x:Str},x∉dA.map (·.1)->bindL kd dA m x=m x
 | [],_,_,_=>rfl
 | (y,v)::r,m,x,h=>by
  rw [UJ,TN,not_or] at h;unfold bindL;refine ab (mZ h.2) ?_;split
  ·simp [h.1]
  ·rfl
theorem Aj {kd:Str->Option XI}:∀{dA:List (Str × Value)} {m:Str->Option Value} {x:Str} {v:Value},(dA.map (·.1)).Nodup->(x,v)∈dA->kd x=some .local->bindL kd dA m x=some v:=by
 intro dA
 induction dA with
 | nil=>exact fun O h O=>absurd h Wt
 | cons p r ih=>
  obtain ⟨y,u⟩:=p;intro m x v hn h hk;rw [UJ,U8] at hn;show bindL kd r _ x=_;rcases TN.mp h with h | h
  ·(injection h with e1 e2;subst e1;subst e2);refine ab (mZ hn.1) (ab (if_pos hk) ?_);simp
  ·exact ih hn.2 h hk
theorem mY {kd:Str->Option XI}:∀{dA:List (Str × Value)} {m:Str->Option Value} {x:Str},x∉dA.map (·.1)->bindC kd dA m x=m x
 | [],_,_,_=>rfl
 | (y,v)::r,m,x,h=>by
  rw [UJ,TN,not_or] at h;unfold bindC;refine ab (mY h.2) ?_;split
  ·rfl
  ·simp [h.1]
theorem Ai {kd:Str->Option XI}:∀{dA:List (Str × Value)} {m:Str->Option Value} {x:Str} {v:Value},(dA.map (·.1)).Nodup->(x,v)∈dA->kd x≠some .local->bindC kd dA m x=some v:=by
 intro dA
 induction dA with
 | nil=>exact fun O h O=>absurd h Wt
 | cons p r ih=>
  obtain ⟨y,u⟩:=p;intro m x v hn h hk;rw [UJ,U8] at hn;show bindC kd r _ x=_;rcases TN.mp h with h | h
  ·(injection h with e1 e2;subst e1;subst e2);refine ab (mY hn.1) (ab (if_neg hk) ?_);simp
  ·exact ih hn.2 h hk
structure qT (G:aA)(a:Addr)(σ:cw)(dY:List St)(k:Nat)(dV:List V):Prop where
 ex:∃o fd body names ds,G.h0.get? a=some o/\o.data=.func fd/\fd.body=.stmts body/\G.h0.CodeRec fd.code fd.qualname/\fd.closure=[]/\fd.globals=XA/\fd.builtins=XT/\σ=ur fd.scope σ.q8/\lX σ body dY/\
  AP fd.scope σ.q8 names=true/\names.length=k+dV.length/\(∀s:Xm,(∀b o,G.h0.get? b=some o->s.heap.get? b=some o)->∀aD,aD.length=k->BindsTo s fd ⟨aD,[]⟩ (names.zip (aD++ds)))/\
  (∀h:Heap,(∀b o,G.h0.get? b=some o->h.get? b=some o)->au G h (fun O=>False) dV ds)/\(σ.q8=19->∃c,fd.code=.ref c/\CodeHd G.h0 c G.dW)
section
variable {G:aA}{σ:cw}{d:Nat}{H:AH}{n:Nat}{R:V->AH->Nat->Prop}
theorem cH.deep {A:Xv}{env:Env}(r:cH (d+1) A):cH d (A.deeper env):=by
 obtain ⟨h1,h2,h3⟩:=r;exact ⟨h1,by show A.depth+1+_+_<_;exact aH (bC A.depth d X2) [(1,.add (.add (.add aq (.mulL 3 (.add aw ay))) (.num 10)) ay,aN)] (.add (.add (.add (.add aq ay) (.mulL 3 aw)) (.num 10)) ay) aN rfl h2,by show A.units+3+_+_<_;exact aH (bC A.units d cLine) [(1,.add (.add (.add aq (.mulL 40 (.add aw ay))) (.num 200)) ay,aN)] (.add (.add (.add (.add aq (.num 3)) (.mulL 40 aw)) (.num 200)) ay) aN rfl h3⟩
noncomputable def x8 (G:aA)(d:Nat)(f:Addr)(args:List V)(H:AH)(n:Nat)(R:V->AH->Nat->Prop):Prop:=
 ∀A s aD (R':ZL->Xm->Prop),cH d A->au G s.heap (Pf G H) args aD->ba G H n s->(∀v H' n' v' s',R v H' n'->aC G s'.heap (Pf G H') v v'->ba G H' n' s'->cz H s.heap H' s'.heap->n<=n'->R' (.ok (.ret v')) s')->Yr (model G.prog G.w) A (.call (.ref f) ⟨aD,[]⟩) R' s
theorem x8.toV {a:Addr}{args:List V}(h:x8 G d a args H n R):cj G d args (fun aD=>call (.ref a) aD) H n R:=
 fun A s aD O O hr rv Rp po=>ZT (h A s aD _ hr rv Rp po)
theorem HC {a:Addr}{dY:List St}{k m:Nat}{args dV:List V}(K:qT G a σ dY k dV)(ok:eu G)(aI:args.length=k)(hρ:(args++dV).length+m=σ.vars.length)
 (h:∀F ne,n<=ne->dH (G.bo F) σ d ne dY ((args++dV).map some++Up m none) H ne R):x8 G (d+1) a args H n R:=by
 intro A s aD RR hr rv Rp po;refine FO K.ex fun o fd body names ds ho MW MR qj QU M1 QR hσ mA Ik vC Ij MX h19=>?_;unfold AP at Ik;simp only [UM,beq_iff_eq,Bool.not_eq_true'] at Ik;obtain ⟨⟨⟨⟨⟨⟨⟨hk,MU⟩,yD⟩,w3⟩,Pn⟩,M0⟩,hnk⟩,NA⟩:=Ik;have w3:=ou w3;have Pn:=ou Pn;have Bj:aD.length=k:=by exact ab rv.length (ab aI rfl)
 have MX:=MX s.heap Rp.glob;have hdl:ds.length=dV.length:=MX.length;have Ru:(names.zip (aD++ds)).map (·.1)=names:=by
  rw [W6];simp;exact aH (ml names.length k dV.length aD.length ds.length) [(1,aq,.add aw aN),(1,aw,bL),(1,aN,jc)] aq (.add bL jc) rfl (TL vC) (TL Bj.symm) (TL hdl.symm)
 have qn:∀x∈names,fd.scope.names.lookup x=some .local\/fd.scope.names.lookup x=some .cell:=fun x hx=>by
  have:=Ut.mp hnk x hx
  simpa using this
 have ql:=nf (names:=fd.scope.names) (k:=s.heap.objs.size+1) (acc:=[]) w3 WQ (fun x hx=>nomatch hx);refine (codeAny_call_function (by have:=hr.depth;exact aH (bC A.depth d X2) [(1,.add (.add (.add aq (.mulL 3 (.add aw ay))) (.num 10)) ay,aN)] (.add aq ay) aN rfl this) (Rp.glob _ _ ho) MW MU yD MR (qj.keeps Rp.glob) (Ij s Rp.glob aD Bj _ _ _ _ ?_));refine ab QU ?_;refine wpAny_newFunctionEnv_cells hk (fun x hx=>?_) fun env A4 s1 C1=>?_
 ·have KZ:x.1∈names:=by refine bk Ru ?_;exact TV hx
  rcases qn _ KZ with q | q
  ·exact .inl q
  ·obtain ⟨c,hc⟩:=dj (k:=s.heap.objs.size+1) (acc:=[]) (.inl (bS q));exact .inr ⟨q,by refine ab (eZ ql hc) ?_;rfl⟩
 ·have vu:env.cells=Zv (s.heap.objs.size+1) fd.scope.names []:=by refine ab A4 ?_;rfl
  have Bh:env.scope=fd.scope:=by refine ab A4 ?_;rfl
  have d9:∀x,env.kindOf x=fd.scope.names.lookup x:=fun x=>by unfold Env.kindOf;exact ab Bh rfl
  have hL:s.heap.objs.size<=env.locals:=C1.toInCall.fresh;have MI:env.locals<s1.heap.objs.size:=C1.toInCall.ns.lt;have uQ:∀x c,(x,c)∈env.cells->env.cells.lookup x=some c:=fun x c hx=>by rw [vu] at hx ⊢;exact eZ ql hx
  refine eJ C1.toInCall.same fun h1 xP Dg=>?_;subst Dg;refine ⟨(ok.xr.keeps Rp.glob).keeps C1.toInCall.keep,codeAny_func ?_⟩;have I1:fU G (fun b=>b=env.locals\/∃x,(x,b)∈env.cells) H s.heap H h1:=by
   refine ⟨C1.toInCall.keep,TF hL (Ud MI),fun b hb=>?_,fun O O=>rfl⟩;have yD:s.heap.objs.size<=b/\b<h1.objs.size:=by
    rcases hb with rfl | ⟨x,hx⟩
    ·exact ⟨hL,MI⟩
    ·exact ⟨TF hL (Ud (C1.above x b hx)),(C1.cell x b (uQ x b hx)).lt⟩
   refine ⟨.inl yD.1,yD.2,(Rp.aY yD.1).1,fun a0 e=>?_⟩;rw [(Rp.aY yD.1).1] at e;injection e
  generalize hF:(fun b=>b=env.locals\/∃x,(x,b)∈env.cells)=F at I1
  have R1:ba (G.bo F) H n {s with heap:=h1,toks:=xP}:=Rp.into I1;have he:bQ (G.bo F) σ env:=by
   have Pw:σ.names=fd.scope.names:=by refine ab hσ ?_;rfl
   refine ⟨by refine ab Bh ?_;exact hk,fun x hx=>by refine ab (d9 ..) (bk (Pw ..) ?_);exact hx,fun x hx=>?_,fun x hx=>by refine ab (d9 ..) (bk (Pw ..) ?_);exact hx,fun x hx=>by refine ab (d9 ..) (bk (Pw ..) ?_);exact hx,by refine ab A4 ?_;exact M1,by refine ab A4 ?_;exact QR,fun x y c e h1 h2 aJ=>rJ C1.apart h1 h2 aJ,fun x c hx q=>?_,fun hf=>?_⟩
   ·rw [Pw] at hx;rcases hx with hx | hx
    ·refine ⟨.inl (by refine ab (d9 ..) ?_;exact hx),?_⟩;obtain ⟨c,hc⟩:=dj (k:=s.heap.objs.size+1) (acc:=[]) (.inl (bS hx));exact ⟨c,by refine ab vu ?_;exact eZ ql hc⟩
    ·have:=Ut.mp M0 _ (bS hx);simp at this
   ·exact absurd (C1.above x c hx) (by refine ab q ?_;exact VY _)
   ·refine ah (h19 hf) fun c hc hh=>?_;exact (ai c (by refine ab A4 ?_;exact hc) hh)
  have SP:au G s.heap (Pf G H) (args++dV) (aD++ds):=rv.append (au.kept ⟨fun O O e O=>e,fun O O O q=>q.elim,fun O O O q=>q.elim⟩ _ MX);have F1:df (G.bo F) σ env ((args++dV).map some++Up m none) H h1:=by
   refine ⟨⟨_,C1.toInCall.ns⟩,fun x i v hv hi hρ=>?_,.inr (by refine bk hF ?_;exact .inl rfl),fun x c hx=>⟨.inr (by refine bk hF ?_;exact .inr ⟨x,hx⟩),_,C1.cell x c (uQ x c hx)⟩,by refine ab (TG ..) (ab (TH ..) (ab (V4 ..) ?_));exact hρ⟩;have It:i<(args++dV).length:=by
    by_cases q:i<(args++dV).length
    ·exact q
    ·rw [VN (by simpa using q),List.getElem?_replicate] at hρ
     split at hρ <;> cases hρ
   rw [Vt (by simpa using It),Ui] at hρ;have hv1:(args++dV)[i]? =some v:=by
    cases e:(args++dV)[i]? with
    | none=>rw [e] at hρ;injection hρ
    | some w=>rw [e] at hρ;cases hρ;rfl
   refine ah (SP.get hv1) fun v' hv' Nq=>?_;refine (ai v' ?_ (aC.into I1 Nq));have hin:i<names.length:=by refine ab vC ?_;simp at It;exact aH (cm args.length i k dV.length) [(1,aq,aN),(1,.add aw ay,.add aq bL)] (.add aw ay) (.add aN bL) rfl (TL aI) It
   have hxi:names[i]? =some x:=by
    refine bk NA (ab List.getElem?_take (ab (if_pos hin) (bk hσ ?_)));exact fE hi
   have jB:(x,v')∈names.zip (aD++ds):=by
    rw [List.mem_iff_getElem?];refine ⟨i,?_⟩;rw [List.getElem?_zip_eq_some];exact ⟨hxi,hv'⟩
   have Pt:x∈names:=WJ hxi;rcases qn x Pt with q | q
   ·exact .inl ⟨by refine ab (d9 ..) ?_;exact q,ai _ C1.toInCall.ns (Aj (by refine ab Ru ?_;exact Pn) jB (by refine ab (d9 ..) ?_;exact q))⟩
   ·obtain ⟨c,hc⟩:=dj (k:=s.heap.objs.size+1) (acc:=[]) (.inl (bS q));have nL:env.cells.lookup x=some c:=by refine ab vu ?_;exact eZ ql hc
    refine .inr ⟨.inl (by refine ab (d9 ..) ?_;exact q),ai c nL ?_⟩;have:=C1.cell x c nL;rw [Ai (by refine ab Ru ?_;exact Pn) jB (by refine ab (d9 ..) (ab (q ..) ?_);simp)] at this;exact this
  have R2:ba (G.bo F) H s.heap.objs.size {s with heap:=h1,toks:=xP}:=R1.raise I1.size;refine h F s.heap.objs.size Rp.size body env (A.deeper env) _ _ _ H s.heap mA he hr.deep F1 R2 I1.step.gW (TJ _) fun v H' n' v' s' f q r R' S' l' hf=>?_;have fin:RR (.ok (.ret v')) s':=by
   refine po v H' n' v' s' q (aC.out r) R'.out (S'.toStep fun b o hb e=>?_) (TF Rp.size l');have:F b:=by
    refine bk hF ?_;exact hb.elim .inl fun ⟨x,hx,_⟩=>.inr ⟨x,hx⟩
   rcases (I1.new b this).1 with z | z
   ·exact absurd (Xr e) (Ux.mpr z)
   ·exact z
  rcases hf with rfl | ⟨rfl,rfl⟩
  ·exact fin
  ·exact fin
end
section
variable {G:aA}{σ:cw}{d:Nat}{H:AH}{n:Nat}
theorem iZ {h:Heap}{a:Addr}{aj:Array Value}(x:h.IsList a aj):a<h.objs.size:=let ⟨_,ho,_⟩:=x;Xr ho
theorem ba.iY {s:Xm}(R:ba G H n s)(o:Obj):fU G (fun b=>b=s.heap.objs.size) H s.heap H (s.heap.push o):=by
 have h0:=(R.aY (TJ s.heap.objs.size)).1;refine ⟨fun b ob e=>Xo _ e,by refine ab (Xp ..) ?_;exact Uo _,fun b hb=>?_,fun O O=>rfl⟩;subst hb;exact ⟨.inl (TJ _),by refine ab (Xp ..) ?_;exact Uj _,h0,fun a0 e=>by rw [h0] at e;injection e⟩
theorem yR {s:Xm}(R:ba G H n s){l:List V}{a:Addr}{aj:List Value}(hp:Pf G H a)(hl:s.heap.PlainList a aj.toArray)(r:au G s.heap (Pf G H) l aj):
 bB (G.bo fun b=>b=s.heap.objs.size) H (.ref s.heap.objs.size) l (fun b=>b=s.heap.objs.size) (s.heap.push {cls:=.type "list_iterator",data:=.fields #[.ref a,.int 0 0]}):=by
 have aJ:a≠s.heap.objs.size:=UA (iZ hl.isList);have I:=R.iY {cls:=.type "list_iterator",data:=.fields #[.ref a,.int 0 0]};refine (sL s.heap.objs.size _ _ _ _ _ 0 rfl (fun A hh=>Walks.list hh s.heap.objs.size a aJ aj.toArray) ⟨bW _ (Xq _ rfl) rfl rfl,hl.isList.push _⟩ ?_ (fun b hb=>?_) (fun b hb=>by simpa using hb) (fun j v p x e=>?_) (fun i h st=>?_))
 ·exact ab (Ub ..) (ab (r.length ..) (ab (UL ..) rfl))
 ·rcases TN.mp hb with rfl | hb
  ·exact ⟨by refine ab (Xp ..) ?_;exact Uj _,(R.aY (TJ _)).1,.inr rfl⟩
  ·have hb:b=a:=by simpa using hb
   subst hb;refine ⟨by refine ab (Xp ..) ?_;exact VA (iZ hl.isList),hp.1,.inl fun q=>q.elim hp.2.2 aJ⟩
 ·refine ah (r.get e) fun v' hv rv=>?_;have:v=v':=by simpa [hv] using p.symm
  subst this;exact aC.into I rv
 ·obtain ⟨⟨o,ho,hc,_⟩,_⟩:=st;exact (bA o _ ho hc (by decide))
theorem tS {l:List V}:eP G (.ag l) H l H:=by
 intro A n s fz Q' E hh r R k;obtain ⟨a,aj,rfl,hp,hl,r⟩:=r;exact wpAny_pyIter_list hl.isList (k _ _ s.toks _ (R.iY _) (yR R hp hl r))
theorem bX {h:Heap}{a:Addr}{aj:Array Value}(x:IsTup h a aj):h.IsTuple a aj:=by
 refine bE x fun o ho hc bN=>?_;obtain ⟨m,hd⟩:=bN;exact (bW o ho hc ⟨m,hd⟩)
theorem I7 {l:List V}:eP G (.tup l) H l H:=by
 intro A n s fz Q' E hh r R k;obtain ⟨a,aj,rfl,hp,ht,r⟩:=r;have hl:=bX ht;obtain ⟨o,ho,_⟩:=id ht;have bO:=Xr ho;have aJ:a≠s.heap.objs.size:=UA bO;refine wpAny_pyIter_tuple hl (k _ _ s.toks _ (R.iY _) ?_);have I:=R.iY {cls:=.type "tuple_iterator",data:=.fields #[.ref a,.int 0 0]};have IH:H a=none/\¬G.own a:=by
  rcases hp with hp | ⟨o',yI⟩
  ·exact ⟨hp.1,hp.2.2⟩
  ·refine ⟨?_,fun q=>by rw [(R.own a q).2.1] at yI;injection yI⟩
   cases q:H a with
   | none=>rfl
   | some x=>rw [(R.lo a (by refine ab q ?_;simp)).1] at yI;injection yI
 refine (sL s.heap.objs.size _ _ _ _ _ 0 rfl (fun A hh=>Walks.tuple hh s.heap.objs.size a aJ aj.toArray) ⟨bW _ (Xq _ rfl) rfl rfl,hl.push _⟩ ?_ (fun b hb=>?_) (fun b hb=>by simpa using hb) (fun j v p x e=>?_) (fun i h st=>?_))
 ·exact ab (Ub ..) (ab (r.length ..) (ab (UL ..) rfl))
 ·rcases TN.mp hb with rfl | hb
  ·exact ⟨by refine ab (Xp ..) ?_;exact Uj _,(R.aY (TJ _)).1,.inr rfl⟩
  ·have hb:b=a:=by simpa using hb
   subst hb;refine ⟨by refine ab (Xp ..) ?_;exact VA bO,IH.1,.inl fun q=>q.elim IH.2 aJ⟩
 ·obtain ⟨v',hv,rv⟩:=r.get e;have:v=v':=by simpa [hv] using p.symm
  subst this;exact aC.into I rv
 ·obtain ⟨⟨o,ho,hc,_⟩,_⟩:=st;exact (bA o _ ho hc (by decide))
theorem Fh {a:Addr}(ok:eu G)(hp:Pf G H a):(a==Yc)=false:=by
 obtain ⟨o,ho⟩:=ok.FA;rw [beq_eq_false_iff_ne];rintro rfl;rw [hp.2.1] at ho;injection ho
theorem p9 {K:Type}[DecidableEq K]{prog:XS}{w:World}{knd:PySem.KeyKind prog w K}{h:Heap}{a:Addr}{kvs:List (K × Value)}(x:h.DictOf knd a kvs):∃ep,h.DictAt knd a kvs ep:=by
 refine kK x fun o es ep ho hx hd r=>?_;exact (o8 ep o es ho hx hd r)
theorem BC {a:Addr}{es:List (SK × V)}(ok:eu G):eP G (.az a es) H (es.map fun e=>.sk e.1) H:=by
 intro A n s fz Q' E hh r R k;refine cS r fun gR hp bN=>?_;subst gR;refine ah bN fun kvs FC r=>?_;obtain ⟨t,hd⟩:=FC;obtain ⟨ep,hd⟩:=p9 hd;refine dg (id hd) fun o es' ho qo=>?_;have bO:=Xr ho;have aJ:a≠s.heap.objs.size:=UA bO;refine wpAny_pyIter_dict (Fh ok hp) hd (k _ _ s.toks _ (R.iY _) ?_);have I:=R.iY {cls:=.type "dict_keyiterator",data:=.fields #[.ref a,.int 0 0,.int kvs.length 0,.int ep 0]};refine (sL s.heap.objs.size _ _ _ _ _ 0 rfl (fun A hh=>Walks.dictKeys (knd:=bT G.prog G.w t) hh s.heap.objs.size a aJ kvs ep) ⟨bW _ (Xq _ rfl) rfl rfl,hd.at' fun o e=>Xo _ e⟩ ?_ (fun b hb=>?_) (fun b hb=>by simpa using hb) (fun j v p x e=>?_) (fun i h st=>?_))
 ·have:=aP.length r;simp;exact UC (aH (bc kvs.length es.length) [(1,aq,aw)] aq aw rfl (TL this)) (aH (bc es.length kvs.length) [(1,aq,aw)] aq aw rfl (TL this.symm))
 ·rcases TN.mp hb with rfl | hb
  ·exact ⟨by refine ab (Xp ..) ?_;exact Uj _,(R.aY (TJ _)).1,.inr rfl⟩
  ·have hb:b=a:=by simpa using hb
   subst hb;refine ⟨by refine ab (Xp ..) ?_;exact VA bO,hp.1,.inl fun q=>q.elim hp.2.2 aJ⟩
 ·refine dg p fun kk x' hk hi=>?_;have ql:=aP.keys r;have h1:(kvs.map (·.1))[0+j]? =some kk:=by refine ab Ui (ab hk ?_);rfl
  rw [ql,UL,Ui] at h1;rw [Ui] at e
  cases e2:es[j]? with
  | none=>rw [e2] at e;injection e
  | some p2=>
   rw [e2] at e h1
   (injection e with e;subst e);(injection h1 with e;subst e)
   have hi:(p2.1.tag==t&&p2.1.eV v)=true:=hi;rw [UM] at hi;exact hi.2
 ·obtain ⟨⟨o,ho,hc,_⟩,_⟩:=st;exact (bA o _ ho hc (by decide))
theorem I6 {a:Addr}{lo c:Int}{N:Nat}(ha:H a=some (.jK lo N c)):eP G (.ref a) H ((Un N).map fun (i:Nat)=>V.int (lo+(i:Int)*c)) (cB H a):=by
 intro A n s fz Q' E hh r R k;refine ab (show fz=.ref a from r) ?_;refine G6 (R.objs _ _ ha) fun b t u v hr hsm hsz=>?_;obtain ⟨R2,S2⟩:=R.drop ha (by simp);refine wpAny_pyIter_range hr hsm (k _ _ s.toks (fun b=>b=s.heap.objs.size\/b=a) ?_ ?_)
 ·have bO:a<s.heap.objs.size:=Xr hr;refine ⟨fun b ob e=>Xo _ e,by refine ab (Xp ..) ?_;exact Uo _,fun b hb=>?_,fun b hb=>cT fun q=>hb (.inr q)⟩;rcases hb with rfl | rfl
  ·have h0:=(R.aY (TJ s.heap.objs.size)).1;refine ⟨.inl (TJ _),by refine ab (Xp ..) ?_;exact Uj _,?_,fun a0 e=>by rw [h0] at e;injection e⟩;unfold cB;split <;> simp_all
  ·exact ⟨.inr (by refine ab ha ?_;simp),by refine ab (Xp ..) ?_;exact VA bO,dK,fun a0 e=>by rw [ha] at e;cases e⟩
 ·refine (sL s.heap.objs.size _ _ N _ _ 0 rfl (fun A hh=>(Walks.range hh s.heap.objs.size lo c N).bound) ?_ (by simp) (fun b hb=>?_) (fun b hb=>by rw [TK] at hb;exact .inl hb) (fun j v p x e=>?_) (fun i h st=>?_))
  ·show (s.heap.push _).get? _=some _;refine ab (Xq _ rfl) ?_;simp [hsz,rawInt]
  ·rw [TK] at hb;subst hb;refine ⟨by refine ab (Xp ..) ?_;exact Uj _,?_,.inr (.inl rfl)⟩;have h0:=(R.aY (TJ s.heap.objs.size)).1;unfold cB;split <;> simp_all
  ·obtain ⟨_,t,rfl⟩:=p;rw [Ui] at e
   cases e2:(Un N)[j]? with
   | none=>rw [e2] at e;injection e
   | some j'=>
    rw [e2] at e;have:j'=j:=by
     have h2:=UT.mp e2;obtain ⟨h3,h4⟩:=h2;rw [WX] at h4;exact h4.symm
    (injection e with e;subst e)
    refine ab this ?_;show (lo+(j:Int)*c==lo+((0+j:Nat):Int)*c)=true;refine ab (UL ..) ?_;exact beq_self_eq_true _
  ·exact (bA _ _ st rfl (by decide))
theorem BD {a:Addr}{l:List V}(ha:H a=some (.sE l)):eP G (.ref a) H l.reverse (cB H a):=by
 intro A n s fz Q' E hh r R k;refine ab (show fz=.ref a from r) ?_;refine cn (R.objs _ _ ha) fun L aj ho hp hl r=>?_;obtain ⟨R2,S2⟩:=R.drop ha (by simp);have qk:s.heap.IsRevIter a L ((aj.length:Int) - 1):=(bW _ ho rfl rfl);have bO:a<s.heap.objs.size:=Xr ho;have aJ:L≠a:=fun q=>by rw [q,] at hp;rw [hp.1] at ha;injection ha
 have I:fU G (fun b=>b=a) H s.heap (cB H a) s.heap:=⟨fun b ob e=>e,TJ _,fun b hb=>by
  subst hb;exact ⟨.inr (by refine ab ha ?_;simp),bO,dK,fun a0 e=>by rw [ha] at e;cases e⟩,fun b hb=>cT hb⟩
 refine wpAny_pyIter_revIter qk (k _ _ s.toks (fun b=>b=a) I ?_);refine (sL a _ _ aj.toArray.size _ _ 0 rfl (fun A hh=>Walks.listRev hh a L aJ aj.toArray) ⟨Ur _,by simpa using qk,hl.isList⟩ ?_ (fun b hb=>?_) (fun b hb=>by simpa using hb) (fun j v p x e=>?_) (fun i h st=>?_))
 ·have:=r.length;simp [this]
 ·rcases TN.mp hb with rfl | hb
  ·exact ⟨bO,dK,.inr rfl⟩
  ·have hb:b=L:=by simpa using hb
   subst hb;exact ⟨iZ hl.isList,(cT aJ).trans hp.1,.inl fun q=>q.elim hp.2.2 aJ⟩
 ·have aI:=r.length;have hj:j<l.length:=by
   by_cases q:j<l.length
   ·exact q
   ·rw [Wy (by simpa using q)] at e;injection e
  rw [List.getElem?_reverse hj] at e;refine ah (r.get e) fun v' hv rv=>?_;have:v=v':=by
   have p:aj.toArray[aj.toArray.size - 1 - (0+j)]? =some v:=p;simp only [Ub,List.getElem?_toArray,UL,aI] at p;rw [hv] at p;(injection p with e;subst e);rfl
  subst this;exact aC.into I rv
 ·refine cS st fun O tP3 O=>?_;obtain ⟨o,ho,hc,_⟩:=tP3;exact (bA o _ ho hc (by decide))
end
section
variable {G:aA}{d:Nat}{H:AH}{n:Nat}{Q:V->AH->Nat->Prop}
theorem cj.one {a:V}{t:Value->Sem Value}(h:∀A s va Q' E,cH d A->aC G s.heap (Pf G H) a va->ba G H n s->gC G H n s Q Q'->wpAny (model G.prog G.w) A (t va) Q' E s):cj G d [a] (t1 t) H n Q:=by
 intro A s aD Q' E hr r R po;obtain ⟨va,r',rfl,ra,r⟩:=r.cons_inv;refine ab r.nil_inv ?_;exact h A s va Q' E hr ra R po
theorem cj.two {a b:V}{t:Value->Value->Sem Value}(h:∀A s va vb Q' E,cH d A->aC G s.heap (Pf G H) a va->aC G s.heap (Pf G H) b vb->ba G H n s->gC G H n s Q Q'->wpAny (model G.prog G.w) A (t va vb) Q' E s):cj G d [a,b] (t2 t) H n Q:=by
 intro A s aD Q' E hr r R po;obtain ⟨va,r',rfl,ra,r⟩:=r.cons_inv;obtain ⟨vb,G1,rfl,rb,r⟩:=r.cons_inv;refine ab r.nil_inv ?_;exact h A s va vb Q' E hr ra rb R po
end
noncomputable def V.Ry (b:V):Bool:=match b with | .none=>true | _=>false
noncomputable def V.RO (b:V)(f:Bool->Bool):Bool:=match b with | .bool y=>f y | _=>false
noncomputable def V.RP (b:V)(f:SK->Bool):Bool:=match b with | .sk y=>f y | _=>false
noncomputable def V.RS (b:V)(f:List V->Bool):Bool:=match b with | .tup y=>f y | _=>false
noncomputable def V.RQ (b:V)(f:List V->Bool):Bool:=match b with | .ag y=>f y | _=>false
mutual
noncomputable def V.eqv:V->V->Bool
 | .none=>V.Ry
 | .bool x=>fun b=>b.RO fun y=>x==y
 | .sk x=>fun b=>b.RP fun y=>decide (x=y)
 | .tup l=>fun b=>b.RS (V.ma l)
 | .ag l=>fun b=>b.RQ (V.ma l)
 | _=>fun O=>false
noncomputable def V.ma:List V->List V->Bool
 | []=>List.isEmpty
 | x::xs=>fun m=>match m with | []=>false | y::ys=>V.eqv x y&&V.ma xs ys
end
mutual
noncomputable def V.gG:V->V->Bool
 | .none=>V.Ry
 | .bool _=>fun b=>b.RO fun O=>true
 | .sk x=>fun b=>b.RP fun y=>x.tag==y.tag
 | .tup l=>fun b=>b.RS (V.ng l)
 | .ag l=>fun b=>b.RQ (V.ng l)
 | _=>fun O=>false
noncomputable def V.ng:List V->List V->Bool
 | []=>fun O=>true
 | x::xs=>fun m=>match m with | []=>true | y::ys=>V.gG x y&&V.ng xs ys
end
mutual
noncomputable def V.dep:V->Nat
 | .tup l=>V.pj l+1
 | .ag l=>V.pj l+1
 | _=>0
noncomputable def V.pj:List V->Nat
 | []=>0
 | x::xs=>max (V.dep x) (V.pj xs)
end
section
variable {M:V->Prop}{b:V}
theorem Bx (h:b.Ry=true)(k:M .none):M b:=by cases b with | none=>exact k | _=>exact bf h
theorem Cm {f:Bool->Bool}(h:b.RO f=true)(k:∀y,f y=true->M (.bool y)):M b:=by cases b with | bool y=>exact k y h | _=>exact bf h
theorem Cn {f:SK->Bool}(h:b.RP f=true)(k:∀y,f y=true->M (.sk y)):M b:=by cases b with | sk y=>exact k y h | _=>exact bf h
theorem Cp {f:List V->Bool}(h:b.RS f=true)(k:∀y,f y=true->M (.tup y)):M b:=by cases b with | tup y=>exact k y h | _=>exact bf h
theorem Co {f:List V->Bool}(h:b.RQ f=true)(k:∀y,f y=true->M (.ag y)):M b:=by cases b with | ag y=>exact k y h | _=>exact bf h
end
theorem pW {M:V->V->Prop}(m0:M .none .none)(m1:∀x y,M (.bool x) (.bool y))(m2:∀x y:SK,(x.tag==y.tag)=true->M (.sk x) (.sk y))(m3:∀l m,V.ng l m=true->M (.tup l) (.tup m))(m4:∀l m,V.ng l m=true->M (.ag l) (.ag m)){a b:V}(h:V.gG a b=true):M a b:=by
 cases a with
 | none=>exact Bx h m0
 | bool x=>exact Cm h fun y O=>m1 x y
 | sk x=>exact Cn h (m2 x)
 | tup l=>exact Cp h (m3 l)
 | ag l=>exact Co h (m4 l)
 | _=>exact bf h
theorem jA:∀{l m:List V},((Un (min l.length m.length)).all (fun j=>V.eqv (l.getD j .none) (m.getD j .none))&&l.length==m.length)=V.ma l m
 | [],[]=>rfl
 | [],_::_=>rfl
 | _::_,[]=>rfl
 | x::xs,y::ys=>by
  have ih:= @jA xs ys;show _=(V.eqv x y&&V.ma xs ys);refine bk ih ?_;simp only [TS,Nat.succ_min_succ,List.range_succ_eq_map,List.all_cons,List.all_map,List.getD_cons_zero,Function.comp_def,List.getD_cons_succ,Bool.and_assoc]
  congr 1
  congr 1
  exact VK.mpr (by simp)
section
variable {G:aA}{σ:cw}{d:Nat}{H:AH}{n:Nat}{h:Heap}{P:Addr->Prop}
theorem rC {a:Addr}{i j:List Value}(x:IsTup h a i.toArray)(y:IsTup h a j.toArray):i=j:=
 x.elim fun o x=>y.elim fun o' y=>x.2.2.elim fun n e=>y.2.2.elim fun n' e'=>by
  have q:=US (x.1.symm.trans y.1);rw [q,e'] at e;injection e with e;exact (congrArg Xf e).symm
theorem FF {l m:List V}{v:Value}(h1:aC G h P (.tup l) v)(h2:aC G h P (.tup m) v):∃vs,au G h P l vs/\au G h P m vs:=
 cn h1 fun a i e O ht r=>cn h2 fun b j e2 O k8 r2=>by
  injection e.symm.trans e2 with q;rw [<- q] at k8;exact ⟨i,r,rC ht k8▸r2⟩
theorem yu {l m:List V}{v:Value}(h1:aC G h P (.ag l) v)(h2:aC G h P (.ag m) v):∃vs,au G h P l vs/\au G h P m vs:=
 cn h1 fun a i e O ht r=>cn h2 fun b j e2 O k8 r2=>by
  injection e.symm.trans e2 with q;rw [<- q] at k8;obtain ⟨n,ht⟩:=ht;obtain ⟨n',k8⟩:=k8;have q:=US (ht.symm.trans k8);injection q with _ _ q;injection q with q;have q:i=j:=congrArg Xf q;exact ⟨i,r,q▸r2⟩
theorem qc (k:Nat)(ih:∀{a b:V} {v:Value},a.dep<k->V.gG a b=true->aC G h P a v->aC G h P b v->V.eqv a b=true):∀{l m:List V} {vs:List Value},V.pj l<k->V.ng l m=true->au G h P l vs->au G h P m vs->V.ma l m=true:=by
 intro l
 induction l with
 | nil=>
  intro m vs _ _ h1 h2
  cases m with
  | nil=>rfl
  | cons y ys=>exact h2.elim fun v h2=>h2.elim fun r h2=>nomatch (show vs=[] from h1).symm.trans h2.1
 | cons x xs NH=>
  intro m vs hk hc h1 h2
  cases m with
  | nil=>exact h1.elim fun v h1=>h1.elim fun r h1=>nomatch (show vs=[] from h2).symm.trans h1.1
  | cons y ys=>
   refine cu h1 fun v r e h3 h4=>cu h2 fun v' r' e' h5 h6=>?_;injection e.symm.trans e' with q1 q2;have hc:=UP.mp (show (V.gG x y&&V.ng xs ys)=true from hc);exact UP.mpr ⟨ih (UB (Nat.le_max_left _ _) hk) hc.1 h3 (q1▸h5),NH (UB (Nat.le_max_right _ _) hk) hc.2 h4 (q2▸h6)⟩
theorem tD (k:Nat):∀{a b:V} {v:Value},a.dep<k->V.gG a b=true->aC G h P a v->aC G h P b v->V.eqv a b=true:=by
 induction k with
 | zero=>exact fun hk=>absurd hk (Xb _)
 | succ k ih=>
  refine fun {a b v} hk hc=>pW (M:=fun a b=>a.dep<k+1->aC G h P a v->aC G h P b v->V.eqv a b=true) ?_ ?_ ?_ ?_ ?_ hc hk
  ·exact fun O O O=>rfl
  ·exact fun x y O h1 h2=>by injection h1.symm.trans h2 with q;exact beq_iff_eq.mpr q
  ·exact fun x y O O h1 h2=>decide_eq_true (SK.xb h1 h2)
  ·exact fun l m hc hk h1 h2=>(FF h1 h2).elim fun vs r=>qc k ih (VF hk) hc r.1 r.2
  ·exact fun l m hc hk h1 h2=>(yu h1 h2).elim fun vs r=>qc k ih (VF hk) hc r.1 r.2
theorem wO:∀{l m:List V} {j:Nat} {x y:V},V.ng l m=true->l[j]? =some x->m[j]? =some y->V.gG x y=true:=by
 intro l
 induction l with
 | nil=>exact fun O h=>nomatch h
 | cons a l ih=>
  intro m j x y hc h1 h2
  cases m with
  | nil=>injection h2
  | cons b m=>
   have hc:=UP.mp (show (V.gG a b&&V.ng l m)=true from hc)
   cases j with
   | zero=>refine bk (US h1) (bk (US h2) ?_);exact hc.1
   | succ j=>exact ih hc.2 h1 h2
theorem wV {x:V}:∀{l:List V} {j:Nat},l[j]? =some x->x.dep<=V.pj l:=by
 intro l
 induction l with
 | nil=>exact fun h=>nomatch h
 | cons y l ih=>
  intro j h
  cases j with
  | zero=>refine bk (US h) ?_;exact Nat.le_max_left _ _
  | succ j=>exact TF (ih h) (Nat.le_max_right _ _)
structure PU (A:Xv)(s:Xm)(va vb:Value)(b:Bool):Prop where
 eq:EqAt A s va vb b
 rc:RcAt A s va vb b
 ne:YD A s va vb (!b)
theorem Ka {A:Xv}{s:Xm}{x y:SK}{va vb:Value}(e:(x.tag==y.tag)=true)(r1:x.eV va=true)(r2:y.eV vb=true):PU A s va vb (decide (x=y)):=by
 cases x with
 | int i=>cases y with
  | int j=>
   obtain ⟨t,rfl⟩:=SK.aG r1;obtain ⟨u,rfl⟩:=SK.aG r2;refine ab (show decide (SK.int i=SK.int j)=(i==j) by rw [VK];simp) ?_;exact ⟨EqAt.int_int _ _ _ _,RcAt.int_int _ _ _ _,YD.int_int _ _ _ _⟩
  | _=>exact bf e
 | str i=>cases y with
  | str j=>
   obtain ⟨t,rfl⟩:=SK.cp r1;obtain ⟨u,rfl⟩:=SK.cp r2;refine ab (show decide (SK.str i=SK.str j)=(i==j) by rw [VK];simp) ?_;exact ⟨EqAt.str_str _ _ _ _,RcAt.str_str _ _ _ _,YD.str_str _ _ _ _⟩
  | _=>exact bf e
 | bytes i=>cases y with
  | bytes j=>
   obtain ⟨t,rfl⟩:=SK.bP r1;obtain ⟨u,rfl⟩:=SK.bP r2;refine ab (show decide (SK.bytes i=SK.bytes j)=decide (i=j) by simp) ?_;have e3:(i.toList==j.toList)=decide (i=j):=by rw [VK];simp
   have e4:(i.toList != j.toList)= !decide (i=j):=by rw [bne,e3]
   exact ⟨fun prog w E Q q=>fo q,fun prog w E Q q=>eq_bytes (by refine ab e3 ?_;exact q),fun prog w E Q q=>ne_bytes (by refine ab e4 ?_;exact q)⟩
  | _=>exact bf e
noncomputable def wG (A:Xv)(s:Xm)(vs us:List Value)(l m:List V):Prop:=∀j (h1:j<vs.toArray.size) (h2:j<us.toArray.size),EqAt A.in1 s vs.toArray[j] us.toArray[j] (V.eqv (l.getD j .none) (m.getD j .none))
section
variable {A:Xv}{s:Xm}{a b:Addr}{vs us:List Value}{l m:List V}(h1:vs.length=l.length)(h2:us.length=m.length)(hu:A.units<cLine)(he:wG A s vs us l m)
include h1 h2 hu he
theorem FG (ha:IsTup s.heap a vs.toArray)(hb:IsTup s.heap b us.toArray):RcAt A s (.ref a) (.ref b) (V.ma l m)/\YD A s (.ref a) (.ref b) (!V.ma l m):=by
 have q1:=RcAt.tuples (bX ha) (bX hb) hu he;have q2:=YD.tuples (bX ha) (bX hb) hu he;rw [Ub,Ub,h1,h2,jA] at q1 q2;exact ⟨q1,q2⟩
theorem BU (ha:s.heap.IsList a vs.toArray)(hb:s.heap.IsList b us.toArray):RcAt A s (.ref a) (.ref b) (V.ma l m)/\YD A s (.ref a) (.ref b) (!V.ma l m):=by
 have e3:= @jA l m
 by_cases hs:l.length=m.length
 ·have hz:vs.toArray.size=us.toArray.size:=by exact ab Ub (ab Ub (ab h1 (ab h2 (ab hs rfl))))
  have q1:=RcAt.lists ha hb hz hu he;have q2:=YD.lists ha hb hz hu he;rw [hs,Nat.min_self,beq_self_eq_true,Bool.and_true] at e3;rw [Ub,h1,hs,e3] at q1 q2;exact ⟨q1,q2⟩
 ·rw [beq_eq_false_iff_ne.mpr hs,WU] at e3;have hz:(vs.toArray.size != us.toArray.size)=true:=by refine ab Ub (ab Ub (ab h1 (ab h2 ?_)));exact bne_iff_ne.mpr hs
  refine bk e3 ?_;exact ⟨RcAt.lists_lengths ha hb hz hu,YD.lists_lengths ha hb hz hu⟩
end
theorem tT {A:Xv}{s:Xm}{l m:List V}{vs us:List Value}(r1:au G s.heap P l vs)(r2:au G s.heap P m us)(h:∀{x y:V} {vx vy:Value} {j:Nat},l[j]? =some x->m[j]? =some y->aC G s.heap P x vx->aC G s.heap P y vy->EqAt A.in1 s vx vy (V.eqv x y)):wG A s vs us l m:=fun j h1 h2=>
 ah (r1.get' (T9 (show j<vs.length from h1))) fun x hx rx=>ah (r2.get' (T9 (show j<us.length from h2))) fun y hy ry=>by
  refine ab U7 (ab U7 (ab hx (ab hy ?_)));exact h hx hy rx ry
theorem wY (k:Nat):∀{A:Xv} {s:Xm} {a b:V} {va vb:Value},a.dep<k->V.gG a b=true->aC G s.heap P a va->aC G s.heap P b vb->A.units+k<=cLine->PU A s va vb (V.eqv a b):=by
 induction k with
 | zero=>exact fun hk=>absurd hk (Xb _)
 | succ k ih=>
  refine fun {A s a b va vb} hk hc ra rb hu=>pW (M:=fun a b=>V.gG a b=true->a.dep<k+1->aC G s.heap P a va->aC G s.heap P b vb->PU A s va vb (V.eqv a b)) ?_ ?_ ?_ ?_ ?_ hc hc hk ra rb
  ·intro _ _ ra rb;refine ab (show va=.none from ra) (ab (show vb=.none from rb) ?_);exact ⟨EqAt.same _,RcAt.none_none,YD.none_none⟩
  ·intro x y _ _ ra rb;refine ab (show va=.bool x from ra) (ab (show vb=.bool y from rb) ?_);exact ⟨EqAt.bool_bool _ _,RcAt.bool_bool _ _,YD.bool_bool _ _⟩
  ·exact fun x y e O O ra rb=>Ka e ra rb
  ·refine fun l m hc Eg hk ra rb=>cn ra fun p vs e1 O ht r=>cn rb fun q us e2 O k8 r2=>?_;have hi:wG A s vs us l m:=tT r r2 fun h1 h2 rx ry=>(ih (UB (wV h1) (VF hk)) (wO hc h1 h2) rx ry (by show A.units+1+k<=_;refine ab (VM ..) (ab (Vv 1 k ..) ?_);exact hu)).eq;have z:=FG r.length r2.length (TO (U4 (Vb k)) hu) hi ht k8;refine ⟨?_,e1▸e2▸z.1,e1▸e2▸z.2⟩
   by_cases II:p=q
   ·refine ab e1 (ab e2 (ab II (ab (tD (k+1) hk Eg ra (e1.trans (II▸e2.symm)▸rb)) ?_)));exact EqAt.same _
   ·exact e1▸e2▸EqAt.of_refs II z.1
  ·refine fun l m hc Eg hk ra rb=>cn ra fun p vs e1 O ht r=>cn rb fun q us e2 O k8 r2=>?_;have hi:wG A s vs us l m:=tT r r2 fun h1 h2 rx ry=>(ih (UB (wV h1) (VF hk)) (wO hc h1 h2) rx ry (by show A.units+1+k<=_;refine ab (VM ..) (ab (Vv 1 k ..) ?_);exact hu)).eq;have z:=BU r.length r2.length (TO (U4 (Vb k)) hu) hi ht.isList k8.isList;refine ⟨?_,e1▸e2▸z.1,e1▸e2▸z.2⟩
   by_cases II:p=q
   ·refine ab e1 (ab e2 (ab II (ab (tD (k+1) hk Eg ra (e1.trans (II▸e2.symm)▸rb)) ?_)));exact EqAt.same _
   ·exact e1▸e2▸EqAt.of_refs II z.1
variable {Q:V->AH->Nat->Prop}
theorem uJ {A:Xv}{a:V}(hr:cH d A)(hd:a.dep<=200):A.units+(a.dep+1)<=cLine:=by
 have:=hr.units;exact aH (cm a.dep A.units d cLine) [(1,aq,.num 200),(1,.add (.add (.add aw (.mulL 40 aN)) (.num 200)) ay,bL)] (.add aw (.add aq ay)) bL rfl hd this
theorem RT {a b:V}(q:Q (.bool (V.eqv a b)) H n)(hc:V.gG a b=true)(hd:a.dep<=200):oU G d .Eq a b H n Q:=cj.two fun A s va vb Q' E hr ra rb R po=>
 (wY (a.dep+1) (Uj _) hc ra rb (uJ hr hd)).rc _ _ _ _ (po _ _ _ _ _ q rfl R (.refl _ _) (TJ _))
theorem R0 {a b:V}(q:Q (.bool (!V.eqv a b)) H n)(hc:V.gG a b=true)(hd:a.dep<=200):oU G d .NotEq a b H n Q:=cj.two fun A s va vb Q' E hr ra rb R po=>
 (wY (a.dep+1) (Uj _) hc ra rb (uJ hr hd)).ne _ _ _ _ (po _ _ _ _ _ q rfl R (.refl _ _) (TJ _))
end
section
variable {G:aA}{σ:cw}{d:Nat}{H:AH}{n:Nat}{Q:V->AH->Nat->Prop}
theorem gC.sk {s:Xm}{Q':Value->Xm->Prop}{k:SK}{v:Value}{tk:Nat}(po:gC G H n s Q Q')(R:ba G H n s)(q:Q (.sk k) H n)(r:k.eV v=true):Q' v {s with toks:=tk}:=
 po (.sk k) H n v _ q r R.toks (.refl _ _) (TJ _)
theorem gC.bool {s:Xm}{Q':Value->Xm->Prop}{b:Bool}{tk:Nat}(po:gC G H n s Q Q')(R:ba G H n s)(q:Q (.bool b) H n):Q' (.bool b) {s with toks:=tk}:=
 po (.bool b) H n _ _ q rfl R.toks (.refl _ _) (TJ _)
theorem Ob {a b:Int}(q:Q (.int (a+b)) H n):zu G d .Add (.int a) (.int b) H n Q:=cj.two fun A s va vb Q' E hr ra rb R po=>by
 obtain ⟨t,rfl⟩:=SK.aG ra;obtain ⟨u,rfl⟩:=SK.aG rb;exact add_int (po.sk R q (beq_self_eq_true _))
theorem Om {a b:Int}(q:Q (.int (a - b)) H n):zu G d .Sub (.int a) (.int b) H n Q:=cj.two fun A s va vb Q' E hr ra rb R po=>by
 obtain ⟨t,rfl⟩:=SK.aG ra;obtain ⟨u,rfl⟩:=SK.aG rb;exact sub_int (po.sk R q (beq_self_eq_true _))
theorem Oh {a b:Int}(q:Q (.int (a*b)) H n)(hm:ZU a b):zu G d .Mult (.int a) (.int b) H n Q:=cj.two fun A s va vb Q' E hr ra rb R po=>by
 obtain ⟨t,rfl⟩:=SK.aG ra;obtain ⟨u,rfl⟩:=SK.aG rb;exact mul_int (po.sk R q (beq_self_eq_true _)) hm
theorem Og {a b:Int}(q:Q (.int (a.fmod b)) H n)(hb:b≠0):zu G d .Mod (.int a) (.int b) H n Q:=cj.two fun A s va vb Q' E hr ra rb R po=>by
 obtain ⟨t,rfl⟩:=SK.aG ra;obtain ⟨u,rfl⟩:=SK.aG rb;exact mod_int hb (po.sk R q (beq_self_eq_true _))
theorem Jv {a b:Int}(q:Q (.int (a.fdiv b)) H n)(hb:b≠0)(hs:b.natAbs<1073741824):zu G d .FloorDiv (.int a) (.int b) H n Q:=cj.two fun A s va vb Q' E hr ra rb R po=>by
 obtain ⟨t,rfl⟩:=SK.aG ra;obtain ⟨u,rfl⟩:=SK.aG rb;exact floordiv_int hb (po.sk R q (beq_self_eq_true _)) (.inl (PyProof.noPylong_small hs))
theorem Ol {a b:Int}(q:Q (.int (a ^ b.toNat)) H n)(hb:0<=b)(hs:(aac a:Int)*b<=2 ^ 27):zu G d .Pow (.int a) (.int b) H n Q:=cj.two fun A s va vb Q' E hr ra rb R po=>by
 obtain ⟨t,rfl⟩:=SK.aG ra;obtain ⟨u,rfl⟩:=SK.aG rb;exact pow_int hb hs (po.sk R q (beq_self_eq_true _))
theorem Oj {a:Int}(q:Q (.int (-a)) H n):P6 G d (.int a) H n Q:=cj.one fun A s va Q' E hr ra R po=>by
 obtain ⟨t,rfl⟩:=SK.aG ra;exact neg_int (po.sk R q (beq_self_eq_true _))
theorem RZ {a b:Int}(q:Q (.bool (decide (a<b))) H n):oU G d .Lt (.int a) (.int b) H n Q:=cj.two fun A s va vb Q' E hr ra rb R po=>by
 obtain ⟨t,rfl⟩:=SK.aG ra;obtain ⟨u,rfl⟩:=SK.aG rb;exact lt_int (po.bool R q)
theorem RY {a b:Int}(q:Q (.bool (decide (a<=b))) H n):oU G d .LtE (.int a) (.int b) H n Q:=cj.two fun A s va vb Q' E hr ra rb R po=>by
 obtain ⟨t,rfl⟩:=SK.aG ra;obtain ⟨u,rfl⟩:=SK.aG rb;exact le_int (po.bool R q)
theorem RV {a b:Int}(q:Q (.bool (decide (b<a))) H n):oU G d .Gt (.int a) (.int b) H n Q:=cj.two fun A s va vb Q' E hr ra rb R po=>by
 obtain ⟨t,rfl⟩:=SK.aG ra;obtain ⟨u,rfl⟩:=SK.aG rb;exact gt_int (po.bool R q)
theorem RU {a b:Int}(q:Q (.bool (decide (b<=a))) H n):oU G d .GtE (.int a) (.int b) H n Q:=cj.two fun A s va vb Q' E hr ra rb R po=>by
 obtain ⟨t,rfl⟩:=SK.aG ra;obtain ⟨u,rfl⟩:=SK.aG rb;exact ge_int (po.bool R q)
noncomputable def cL:SK->SK->Bool
 | .int a,.int b=>decide (a<b)
 | .bytes a,.bytes b=>blt a b
 | .str a,.str b=>decide (a.cps.toList<b.cps.toList)
 | _,_=>false
noncomputable def RA (a b:SK):Prop:=a.tag=b.tag/\a.tag≠1
theorem Of {a b:SK}(hk:RA a b)(q:Q (.bool (cL a b)) H n):oU G d .Lt (.sk a) (.sk b) H n Q:=by
 obtain ⟨h1,h2⟩:=hk
 cases a <;> cases b <;> simp [SK.tag] at h1 h2
 ·exact RZ q
 ·exact cj.two fun A s va vb Q' E hr ra rb R po=>by
   obtain ⟨t,rfl⟩:=SK.bP ra;obtain ⟨u,rfl⟩:=SK.bP rb;exact BW (po.bool R q)
theorem Oe {a b:SK}(hk:RA a b)(q:Q (.bool (!cL b a)) H n):oU G d .LtE (.sk a) (.sk b) H n Q:=by
 obtain ⟨h1,h2⟩:=hk
 cases a <;> cases b <;> simp [SK.tag] at h1 h2
 ·refine RY ?_;rename_i a b;have:decide (a<=b)= !cL (.int b) (.int a):=by unfold cL;rw [VK];simp
  refine ab this ?_;exact q
 ·exact cj.two fun A s va vb Q' E hr ra rb R po=>by
   obtain ⟨t,rfl⟩:=SK.bP ra;obtain ⟨u,rfl⟩:=SK.bP rb;exact BQ (po.bool R q)
noncomputable def V.isNone:V->Bool
 | .none=>true
 | _=>false
theorem V.xu {v:V}{h:Heap}{P:Addr->Prop}{v':Value}(r:aC G h P v v')(hn:v.isNone=false):v'≠ .none:=by
 rintro rfl
 cases v with
 | none=>injection hn
 | bool b=>cases (show YA=ZR b from r)
 | sk k=>cases k <;> cases (show _=true from r)
 | tup l=>refine dg r fun a O e O=>?_;injection e
 | ag l=>refine dg r fun a O e O=>?_;injection e
 | az a l=>obtain ⟨e,_⟩:=r;injection e
 | cU c l=>refine o5 r fun a O O O e O=>?_;injection e
 | ref a=>cases (show YA=.ref a from r)
theorem kg {v:V}{h:Heap}{P:Addr->Prop}{v':Value}(r:aC G h P v v'):plainIs v' .none=true:=by
 cases v with
 | none=>refine ab (show v'=.none from r) ?_;rfl
 | bool b=>refine ab (show v'=.bool b from r) ?_;rfl
 | sk k=>cases k <;> cases v' <;> first | rfl | cases (show _=true from r)
 | tup l=>refine x6 r fun a O O=>?_;rfl
 | ag l=>refine x6 r fun a O O=>?_;rfl
 | az a l=>obtain ⟨rfl,_⟩:=r;rfl
 | cU c l=>refine o5 r fun a O O O jI O=>?_;subst jI;rfl
 | ref a=>refine ab (show v'=.ref a from r) ?_;rfl
theorem RX {v:V}(q:Q (.bool v.isNone) H n):oU G d .Is v .none H n Q:=cj.two fun A s va vb Q' E hr ra rb R po=>by
 refine ab (show vb=.none from rb) ?_;refine wpAny_is_plain (kg ra) ?_
 cases hv:v.isNone with
 | true=>
  rw [hv] at q
  cases v <;> simp [V.isNone] at hv
  refine ab (show va=.none from ra) ?_;exact po.bool (tk:=s.toks) R q
 | false=>
  rw [hv] at q;have:=V.xu ra hv;have:(va==YA)=false:=by cases va <;> first | rfl | exact absurd rfl this
  refine ab this ?_;exact po.bool (tk:=s.toks) R q
theorem Od {v:V}(q:Q (.bool (!v.isNone)) H n):oU G d .IsNot v .none H n Q:=cj.two fun A s va vb Q' E hr ra rb R po=>by
 refine ab (show vb=.none from rb) ?_;refine wpAny_isNot_plain (kg ra) ?_
 cases hv:v.isNone with
 | true=>
  rw [hv] at q
  cases v <;> simp [V.isNone] at hv
  refine ab (show va=.none from ra) ?_;exact po.bool (tk:=s.toks) R q
 | false=>
  rw [hv] at q;have:=V.xu ra hv;have:(va==YA)=false:=by cases va <;> first | rfl | exact absurd rfl this
  refine ab this ?_;exact po.bool (tk:=s.toks) R q
theorem JC {b:Bool}{Q:Bool->AH->Nat->Prop}(q:Q b H n):zV G d (.bool b) H n Q:=by
 intro A s aD Q' E hr r R po;obtain ⟨va,r',rfl,ra,r⟩:=r.cons_inv;refine ab r.nil_inv (ab (show va=.bool b from ra) ?_);exact XW (po _ _ _ _ q R (.refl _ _) (TJ _))
theorem Cq {a b:Str}(q:Q (.str (a++b)) H n)(hz:a.length+b.length<=16777216):zu G d .Add (.str a) (.str b) H n Q:=cj.two fun A s va vb Q' E hr ra rb R po=>by
 obtain ⟨t,rfl⟩:=SK.cp ra;obtain ⟨u,rfl⟩:=SK.cp rb;exact SBL.add (fun t' k O=>po.sk R q (beq_self_eq_true _)) (by refine ab Xw ?_;exact hz)
theorem ba.newList {s:Xm}(R:ba G H n s){aD:List Value}{l:List V}(r:au G s.heap (Pf G H) l aD)(tk:Nat):
 ba G H n {s with heap:=s.heap.push {cls:=.type "list",data:=.seq aD.toArray},toks:=tk}/\cz H s.heap H (s.heap.push {cls:=.type "list",data:=.seq aD.toArray})/\aC G (s.heap.push {cls:=.type "list",data:=.seq aD.toArray}) (Pf G H) (.ag l) (.ref s.heap.objs.size):=by
 obtain ⟨R2,S2⟩:=R.push {cls:=.type "list",data:=.seq aD.toArray} (tk:=tk);exact ⟨R2,S2,cD _ aD rfl (R.aY (TJ _)) ⟨_,Xq _ rfl⟩ (R.jd S2 r)⟩
theorem y7 {a b:V}{l m:List V}(ha:fe H a l)(hb:fe H b m)(q:Q (.ag (l++m)) H n)(hz:l.length+m.length<=16777216):zu G d .Add a b H n Q:=cj.two fun A s va vb Q' E hr ra rb R po=>by
 refine cy (ha.at R ra) fun x i1 Tn r1=>?_;obtain ⟨n1,h1⟩:=Tn;refine cy (hb.at R rb) fun y i2 To r2=>?_;obtain ⟨n2,h2⟩:=To;have e1:=r1.length;have e2:=r2.length;refine P.add_list h1 h2 ?_ (by simp only [Ub];refine ab Xw ?_;exact aH (cm l.length m.length i1.length i2.length) [(1,.add aq aw,.num 16777216),(1,aN,aq),(1,bL,aw)] (.add aN bL) (.num 16777216) rfl hz (TL e1) (TL e2));have e:i1.toArray++i2.toArray=(i1++i2).toArray:=by simp
 refine ab e ?_;refine cS (R.newList (r1.append r2) s.toks) fun R2 S2 r=>?_;exact po _ _ _ _ _ q r R2 S2 (TJ _)
theorem Cr {l m:List V}(q:Q (.tup (l++m)) H n)(hz:l.length+m.length<=1000):zu G d .Add (.tup l) (.tup m) H n Q:=cj.two fun A s va vb Q' E hr ra rb R po=>by
 refine fL ra fun x i1 p1 h1 r1=>?_;refine fL rb fun y i2 p2 h2 r2=>?_;have e1:=r1.length;have e2:=r2.length;refine bE (id h1) fun Td ho hc bN=>?_;obtain ⟨cls,dd,data,sl⟩:=Td;obtain ⟨n1,hd⟩:=bN;refine bE (id h2) fun Te KO hc2 bN=>?_;obtain ⟨cls2,Qt,data2,Tc⟩:=Te;obtain ⟨n2,Io⟩:=bN;simp only at hc hd hc2 Io;subst hc hd hc2 Io
 by_cases hv:i1=[]
 ·subst hv;have hl:l=[]:=U5.mp (by simpa using e1.symm);subst hl;exact aai (ai _ ho rfl) (ai _ KO rfl) Zh Z7 PySem.F.slot_tuple_add PySem.F.entry_tuple_add (PySem.F.args_tuple_add_2 _ _)
   (tuple_addW0 x y [].toArray i2.toArray n1 n2 dd Qt sl Tc (by simp)) ⟨ho,KO,po _ _ _ _ _ q (cD y i2 rfl p2 h2 r2) R (.refl _ _) (TJ _)⟩
 ·by_cases hw:i2=[]
  ·subst hw;have hl:m=[]:=U5.mp (by simpa using e2.symm);subst hl;exact aai (ai _ ho rfl) (ai _ KO rfl) Zh Z7 PySem.F.slot_tuple_add PySem.F.entry_tuple_add (PySem.F.args_tuple_add_2 _ _)
    (tuple_addW1 x y i1.toArray [].toArray n1 n2 dd Qt sl Tc (by simpa using hv) (by simp)) ⟨ho,KO,po (.tup l) _ _ _ _ (by simpa using q) (cD x i1 rfl p1 h1 r1) R (.refl _ _) (TJ _)⟩
  ·refine aai (ai _ ho rfl) (ai _ KO rfl) Zh Z7 PySem.F.slot_tuple_add PySem.F.entry_tuple_add (PySem.F.args_tuple_add_2 _ _)
    (tuple_addW2 x y i1.toArray i2.toArray n1 n2 dd Qt sl Tc (by simpa using hv) (by simpa using hw) (by simp only [Ub];refine ab Xw ?_;exact aH (cm l.length m.length i1.length i2.length) [(1,.add aq aw,.num 1000),(1,aN,aq),(1,bL,aw)] (.add aN bL) (.num 16777216) rfl hz (TL e1) (TL e2))) ⟨ho,KO,?_⟩
   have e:i1.toArray++i2.toArray=(i1++i2).toArray:=by simp
   refine ab e ?_;obtain ⟨R2,S2⟩:=R.push {cls:=.type "tuple",data:=.seq (i1++i2).toArray} (tk:=s.toks);exact po _ _ _ _ _ q (cD _ _ rfl (.inl (R.aY (TJ _))) (bW _ (Xq _ rfl) rfl ⟨_,rfl⟩) (R.jd S2 (r1.append r2))) R2 S2 (TJ _)
theorem oh {a b:Nat}(h:a*b<=1000):¬Zi (a*b)=true:=by
 unfold Zi Yy;simp;exact aH (bI (a*b)) [(1,aq,.num 1000)] aq (.num 16777216) rfl h
theorem qg {α:Type}:∀(l:List (Array α)) (a:Array α),Xj (fun x1 x2=>x1++x2) a l=a++(l.map Xf).flatten.toArray
 | []=> @fun a=>by simp
 | x::l=> @fun a=>by
  refine ab (List.foldl_cons ..) (ab (qg l ..) ?_);apply Array.ext';simp
theorem y8 {a:V}{x:V}{k:Int}(ha:fe H a [x])(q:Q (.ag (Up k.toNat x)) H n)(hk:0<=k/\k<=1000):zu G d .Mult a (.int k) H n Q:=cj.two fun A s va vb Q' E hr ra rb R po=>by
 refine cy (ha.at R ra) fun l i1 sd r1=>?_;obtain ⟨n1,hl⟩:=sd;obtain ⟨u,rfl⟩:=SK.aG rb;have e1:=r1.length;refine cu r1.cons_inv fun v r' rX rx r'=>?_;subst rX;rw [r'.nil_inv] at hl;have hT:s.TypeIs (.ref l) "list":=(ai _ hl rfl);have h9:[v].toArray.size*k.toNat<=1000:=by
  have:[v].toArray.size=1:=rfl;refine ab this (ab (Nat.one_mul _) (Xg.mpr hk.2))
 refine wpAny_binaryOp_repeat_ref (T:="list") (U:="int") (by decide) hT (fun s'=>typeIs_int s' k u) noFill_list_mul F.fills_int_mul F.slot_int_rmul repeat_list F.slot_int_index.lookup
  (ZV F.slot_int_rmul (typeIs_int s k u) F.entry_int_rmul (F.args_int_rmul_2 _ _) (int___rmul___int_list k u l [v].toArray n1)
   ⟨hl,rfl,hT,ZV F.slot_list_mul hT F.entry_list_mul (F.args_list_mul_2 _ _)
    (AutoListH.list___mul___list_int_3 l [v].toArray n1 k u (by simp [Builtin.List.listFitsIndex];exact ⟨eO (cP k) [(1,cG,bg)] (.neg (.num 9223372036854775808)) bg rfl hk.1,UI.mpr (eO (cP k) [(1,bg,.num 1000)] (.add bg bD) (.num 9223372036854775808) rfl hk.2)⟩) (Ux.mpr (TF h9 (by decide))) (by exact oh h9))
    ⟨hl,?_⟩⟩)
 have e:Xj (fun x1 x2=>x1++x2) #[] (Up (if [v].toArray.isEmpty=true then 0 else k.toNat) [v].toArray)=(Up k.toNat v).toArray:=by
  refine ab (qg ..) ?_;apply Array.ext';simp
 refine ab e ?_;have rr:∀m:Nat,au G s.heap (Pf G H) (Up m x) (Up m v):=fun m=>by
  induction m with
  | zero=>rfl
  | succ m ih=>exact (bA v _ rfl rx ih)
 refine cS (R.newList (rr k.toNat) s.toks) fun R2 S2 r=>?_;exact po _ _ _ _ _ q r R2 S2 (TJ _)
end
section
variable {G:aA}{σ:cw}{d:Nat}{ρ:bt}{H:AH}{n:Nat}{Q:V->AH->Nat->Prop}
noncomputable def eK (G:aA)(o:V)(m:Str)(H:AH)(fv:Value):Prop:=
 (∃k,(k=Zf\/k=YO)/\Looks (model G.prog G.w) G.h0 (XO fv) k)/\
 ∀(A:Xv) (E:Value->Xm->Prop) n s ov pl (Q':Value × List Value->Xm->Prop),aC G s.heap (Pf G H) o ov->ba G H n s->Q' (fv,[ov]) s->wpAny (model G.prog G.w) A (getMethod ov m pl) Q' E s
theorem AF {o:X}{m:MN}{xs:List X}(h:bl G σ d o ρ H n fun vo H1 n1=>∃fv,eK G vo m.str H1 fv/\eR G σ d xs ρ H1 n1 fun vs H2 n2=>aW G d fv (vo::vs) H2 n2 Q):
 bl G σ d (.bx o m xs) ρ H n Q:=by
 intro e env A s Q' E ht he hr F R po;refine Bt ht fun eo es apos pos aI Ba hb to ts=>?_
 ·have MP:attributeBase eo m.str env (eval eo env)=eval eo env:=by cases eo <;> first | rfl | exact absurd hb T4
  refine ab (arm_eval_Call ..) (ab (MP ..) ?_);refine Xl (h _ _ _ _ _ _ to he hr F R fun vo H1 n1 Tz s1 h1 ro R1 S1 l1=>?_);refine ah h1 fun fv FC vz=>?_;obtain ⟨hk,hm⟩:=FC;refine Xl (XF ?_);have eY:(Zd pos (Yl es env)).all (fun x=> !x.1)=true:=by
   have:=jH (env:=env) (p:=pos) ts;rw [WZ] at this;rw [Ut];intro y hy;have:=this y hy;simpa using this
  have w1:methodCallForm (es.length+([]:List Keyword).length) (Zd pos (Yl es env)) (backToKw pos (keywordEach [] env))=true:=by
   show ((Zd pos (Yl es env)).all (fun x=> !x.1)&&true&&decide (es.length+0+0<30))=true;refine ab eY ?_;have:=j7 ts;simp;exact aH (bc xs.length es.length) [(1,.add aq ay,.num 20),(1,aw,aq)] (.add aw ay) (.num 30) rfl aI (TL this)
  have vD:methodCallPos true eo env apos pos=pure pos:=by unfold methodCallPos;simp [Ba]
  unfold methodCall;refine ab w1 ?_;refine Xl (Xs (hm A _ n1 s1 Tz _ _ ro R1 ?_));refine Xl (X1 vD ?_);refine fC ts he hr (F.step R S1) R1 hk vz fun vs H2 n2 aD s2 q r R2 S2 l2=>?_;exact q A s2 (Tz::aD) Q' E hr (bA Tz aD rfl (R1.rel S2 ro) r) R2 fun v H3 n3 v' s3 q r R3 S3 l3=>po v H3 n3 v' s3 q r R3 ((S1.trans S2).trans S3) (aH (cm n n1 n2 n3) [(1,aq,aw),(1,aw,aN),(1,aN,bL)] aq bL rfl l1 l2 l3)
theorem ew (id:String)(h:XO (.builtin id)=pure .machine:=by rfl):∃k,(k=Zf\/k=YO)/\Looks (model G.prog G.w) G.h0 (XO (.builtin id)) k:=
 (ai .machine (.inr rfl) (Looks.of_pure h))
noncomputable def cO (H:AH)(v:V)(es:List (SK × V)):Prop:=(∃a,v=.az a es)\/∃a,v=.ref a/\H a=some (.dict es)
theorem cO.frozen {a:Addr}{es:List (SK × V)}:cO H (.az a es) es:=.inl ⟨a,rfl⟩
theorem cO.made {a:Addr}{es:List (SK × V)}(h:H a=some (.dict es)):cO H (.ref a) es:=.inr (ai a rfl h)
theorem ow {a:Addr}(ok:eu G)(h:G.h0.get? a=none):(a==Yc)=false:=by
 obtain ⟨o,ho⟩:=ok.FA;rw [beq_eq_false_iff_ne];rintro rfl;rw [h] at ho;injection ho
theorem cO.at {s:Xm}{v:V}{v':Value}{es:List (SK × V)}(h:cO H v es)(ok:eu G)(R:ba G H n s)(r:aC G s.heap (Pf G H) v v'):∃a kvs,v'=.ref a/\(a==Yc)=false/\DictAt G s.heap a kvs/\aP G s.heap (Pf G H) es kvs:=by
 rcases h with ⟨a,rfl⟩ | ⟨a,rfl,ha⟩
 ·refine cS r fun e hp bN=>?_;refine ah bN fun kvs hd r=>?_;exact (cD a kvs e (ow ok hp.2.1) hd r)
 ·refine ah (R.objs _ _ ha) fun kvs hd r'=>?_;exact (cD a kvs r (ow ok (R.lo a (by refine ab ha ?_;simp)).1) hd r')
noncomputable def bw (es:List (SK × V))(k:SK):Option V:=es.lookup k
theorem sz {K:Type}[DecidableEq K](k k':K)(v:Value)(r:List (K × Value)):Yh ((k',v)::r) k=if k'=k then some v else Yh r k:=by
 unfold Yh
 by_cases h:k'=k <;> simp [Vp,h]
theorem dy {h:Heap}{P:Addr->Prop}{k:SK}:∀{es:List (SK × V)} {kvs:List (SK × Value)},aP G h P es kvs->(match bw es k with | none=>Yh kvs k=none | some x=>∃v,Yh kvs k=some v/\aC G h P x v)
 | [],_,r=>by refine ab (show _=[] from r) ?_;rfl
 | (k',x)::es,_,r=>by
  refine cy r fun v r' h1 h2=>?_;have ih:=dy (k:=k) h2;unfold bw at ih ⊢;refine ab (Ue ..) (ab (sz ..) ?_)
  by_cases e:k'=k
  ·subst e;simp;exact h1
  ·have:(k==k')=false:=by simpa using fun q=>e q.symm
   refine ab this (ab (if_neg e) ?_);exact ih
theorem iH {k:SK}{v:Value}(h:k.eV v=true):(bT G.prog G.w k.tag).is k v=true:=by
 show (k.tag==k.tag&&k.eV v)=true
 simpa using h
theorem cO.keyed {s:Xm}{v:V}{v':Value}{es:List (SK × V)}{k:SK}(h:cO H v es)(ok:eu G)(R:ba G H n s)(r:aC G s.heap (Pf G H) v v')(ht:∀p∈es,p.1.tag=k.tag):
 ∃a kvs,v'=.ref a/\(a==Yc)=false/\s.heap.DictOf (bT G.prog G.w k.tag) a kvs/\aP G s.heap (Pf G H) es kvs:=by
 refine cn (h.at ok R r) fun a kvs e hs hd rv=>?_;refine (cD a kvs e hs (gI hd fun p hp=>?_) rv);have hk:=aP.keys rv;have:p.1∈kvs.map (·.1):=TV hp;rw [hk] at this;refine ah (TX.mp this) fun p' tM e'=>?_;refine bk e' ?_;exact ht p' tM
theorem RW {v:V}{es:List (SK × V)}{k:SK}(ok:eu G)(h:cO H v es)(ht:∀p∈es,p.1.tag=k.tag)(q:Q (.bool (bw es k).isSome) H n):oU G d .In (.sk k) v H n Q:=cj.two fun A s va vb Q' E hr ra rb R po=>by
 refine cn (h.keyed ok R rb ht) fun a kvs pF hs hd rv=>?_;subst pF;refine wpAny_in_of (iH ra) hs hd.mapOf ?_;have:=dy (k:=k) rv;have e:(Yh kvs k).isSome=(bw es k).isSome:=by
  cases h:bw es k with
  | none=>rw [h] at this;refine ab (show Yh kvs k=none from this) ?_;rfl
  | some x=>rw [h] at this;refine ah this fun v e O=>?_;refine ab e ?_;rfl
 refine ab e ?_;exact po.bool R q
theorem Ff {v:V}{es:List (SK × V)}{k:SK}(ok:eu G)(h:cO H v es)(ht:∀p∈es,p.1.tag=k.tag)(q:Q (.bool (!(bw es k).isSome)) H n):oU G d .NotIn (.sk k) v H n Q:=cj.two fun A s va vb Q' E hr ra rb R po=>by
 refine cn (h.keyed ok R rb ht) fun a kvs lu hs hd rv=>?_;subst lu;refine wpAny_notIn_of (iH ra) hs hd.mapOf ?_;have:=dy (k:=k) rv;have e:(Yh kvs k).isSome=(bw es k).isSome:=by
  cases h:bw es k with
  | none=>rw [h] at this;refine ab (show Yh kvs k=none from this) ?_;rfl
  | some x=>rw [h] at this;refine ah this fun v e O=>?_;refine ab e ?_;rfl
 refine ab e ?_;exact po.bool R q
theorem Jw {v:V}{es:List (SK × V)}{k:SK}{x:V}(ok:eu G)(h:cO H v es)(ht:∀p∈es,p.1.tag=k.tag)(hx:bw es k=some x)(q:Q x H n):sG G d v (.sk k) H n Q:=by
 intro A s va vi Q' E hr ra ri R po;refine cn (h.keyed ok R ra ht) fun a kvs vZ hs hd rv=>?_;subst vZ;have:=dy (k:=k) rv;rw [hx] at this;refine ah this fun x' e rx=>?_;exact ⟨cg ("dict") _ hd.typeIs PySem.F.slot_dict_getitem.lookup,wpAny_getItem_of (iH ri) hd.mapOf e (po _ _ _ _ _ q rx R.toks (.refl _ _) (TJ _))⟩
theorem JA {a:Addr}{es:List (SK × V)}{k:SK}{x:V}{Q:AH->Nat->Prop}(ok:eu G)(h:H a=some (.dict es))(ht:∀p∈es,p.1.tag=k.tag)(hz:es.length<=1000)(q:Q (upd H a (.dict (bM es k x))) n):zT G d (.ref a) (.sk k) x H n Q:=by
 intro A s aD Q' E hr r R po;obtain ⟨va,r',rfl,ra,r⟩:=r.cons_inv;obtain ⟨vk,r',rfl,rk,r⟩:=r.cons_inv;obtain ⟨vx,r',rfl,rx,r⟩:=r.cons_inv;refine ab r.nil_inv ?_;refine cn ((cO.made h).keyed ok R ra ht) fun a' kvs zc hs hd rv=>?_;subst zc;have:a'=a:=by cases (show X0 a'=.ref a from ra);rfl
 subst this;have hl:=rv.length;refine wpAny_setItem_pairs (iH rk) hd (fun h' vw sD=>?_) (by refine ab Xw ?_;exact aH (bc es.length kvs.length) [(1,aq,.num 1000),(1,aw,aq)] aw (.num 16777216) rfl hz (TL hl));obtain ⟨R2,S2⟩:=R.turn (tk:=s.toks+1) (o:=.dict (bM es k x)) sD (by refine ab h ?_;simp) (by refine ab h ?_;simp) fun K=>(ai _ ⟨_,vw⟩ (aP.kept K _ (rv.stored rx)));exact po _ _ _ q R2 S2 (TJ _)
theorem BY {o:V}{es:List (SK × V)}{m:Str}{id:String}(ok:eu G)(h:cO H o es)(slot:Slot "dict" m id)(ty:typeOf (.builtin id)=pure (.type "method_descriptor"))(hk:XO (.builtin id)=pure .machine:=by rfl):eK G o m H (.builtin id):=
 ⟨ew id hk,fun A E n s ov pl Q' r R q=>by
  refine cn (h.at ok R r) fun a kvs CA hs tP9 rv=>?_;subst CA;obtain ⟨t,hd⟩:=tP9;exact Ys hd.typeIs PySem.F.plainAttrs_dict slot ty hd.mapOf.noDict q⟩
theorem GO {o:V}{es:List (SK × V)}(ok:eu G)(h:cO H o es):eK G o "get" H (.builtin "dict.get"):=BY ok h PySem.F.slot_dict_get PySem.F.type_dict_get
theorem Hv {o:V}{es:List (SK × V)}{k:SK}(ok:eu G)(h:cO H o es)(ht:∀p∈es,p.1.tag=k.tag)(q:Q ((bw es k).getD .none) H n):aW G d (.builtin "dict.get") [o,.sk k] H n Q:=by
 intro A s aD Q' E hr r R po;obtain ⟨va,r',rfl,ra,r⟩:=r.cons_inv;obtain ⟨vk,r',rfl,rk,r⟩:=r.cons_inv;refine ab r.nil_inv ?_;refine fL (h.keyed ok R ra ht) fun a kvs hs hd rv=>?_;refine YE PySem.F.slot_dict_get hd.typeIs PySem.F.entry_dict_get (PySem.F.args_dict_get_2 _ _) (meets_dict_get _ a (iH rk) hs) (ai _ hd.mapOf ?_);have:=dy (k:=k) rv
 cases e:bw es k with
 | none=>
  rw [e] at this q;refine ab (show Yh kvs k=none from this) ?_;exact po _ _ _ _ _ q rfl R.toks (.refl _ _) (TJ _)
 | some x=>
  rw [e] at this q;refine ah this fun x' e' rx=>?_;refine ab e' ?_;exact po _ _ _ _ _ q rx R.toks (.refl _ _) (TJ _)
theorem Hw {o:V}{es:List (SK × V)}{k:SK}{x:V}(ok:eu G)(h:cO H o es)(ht:∀p∈es,p.1.tag=k.tag)(q:Q ((bw es k).getD x) H n):aW G d (.builtin "dict.get") [o,.sk k,x] H n Q:=by
 intro A s aD Q' E hr r R po;obtain ⟨va,r',rfl,ra,r⟩:=r.cons_inv;obtain ⟨vk,r',rfl,rk,r⟩:=r.cons_inv;obtain ⟨vx,r',rfl,rx,r⟩:=r.cons_inv;refine ab r.nil_inv ?_;refine fL (h.keyed ok R ra ht) fun a kvs hs hd rv=>?_;refine YE PySem.F.slot_dict_get hd.typeIs PySem.F.entry_dict_get (PySem.F.args_dict_get_3 _ _ _) (meets_dict_get_default _ a (iH rk) hs _) (ai _ hd.mapOf ?_);have:=dy (k:=k) rv
 cases e:bw es k with
 | none=>
  rw [e] at this q;refine ab (show Yh kvs k=none from this) ?_;exact po _ _ _ _ _ q rx R.toks (.refl _ _) (TJ _)
 | some y=>
  rw [e] at this q;refine ah this fun x' e' rx'=>?_;refine ab e' ?_;exact po _ _ _ _ _ q rx' R.toks (.refl _ _) (TJ _)
theorem vT {o:V}{l:List V}{m:Str}{id:String}(h:fe H o l)(slot:Slot "list" m id)(ty:typeOf (.builtin id)=pure (.type "method_descriptor"))(hk:XO (.builtin id)=pure .machine:=by rfl):eK G o m H (.builtin id):=
 ⟨ew id hk,fun A E n s ov pl Q' r R q=>by
  refine cu (h.at R r) fun a aj rW sd rv=>?_;subst rW;obtain ⟨nn,hl⟩:=sd;exact Ys (ai _ hl rfl) PySem.F.plainAttrs_list slot ty (fun b e=>by (injection e with e;subst e);exact (ai _ hl rfl)) q⟩
theorem Jx {v:V}{l:List V}{i:Int}{j:Nat}{x:V}(h:fe H v l)(hj:(0<=i/\i.toNat=j)\/(i<0/\(i+l.length).toNat=j/\ -(l.length:Int)<=i))(hx:l[j]? =some x)(hz:l.length<=16777216)(q:Q x H n):sG G d v (.int i) H n Q:=by
 intro A s va vi Q' E hr ra ri R po;refine cy (h.at R ra) fun a aj hl rv=>?_;obtain ⟨t,rfl⟩:=SK.aG ri;refine ah (rv.get hx) fun x' KY rx=>?_;have aI:=rv.length;have hjl:j<l.length:=(UT.mp hx).1;refine ⟨cg ("list") _ hl.isList.typeIs aaa,?_⟩;rcases hj with ⟨h0,h1⟩ | ⟨h0,h1,h2⟩
 ·exact wpAny_getItem_list hl.isList h0 (by rw [<- VU h0,h1];exact PE (Ud hjl) hz) (by refine ab h1 ?_;simpa using KY) (po _ _ _ _ _ q rx R (.refl _ _) (TJ _))
 ·exact wpAny_getItem_list_neg hl.isList h0 (by simp only [Ub,aI];exact eO (lD ((l.length:Nat):Int) i) [(1,.neg bg,dT)] (.neg bg) dT rfl h2) (Vk (Int.neg_le_neg (Vk (Ul.mpr hz) (by decide))) h2) (by simp only [Ub,aI,h1];simpa using KY) (po _ _ _ _ _ q rx R (.refl _ _) (TJ _))
theorem Jy {l:List V}{i:Int}{j:Nat}{x:V}(hj:Yn i l.length=some j)(hx:l[j]? =some x)(hz: -(2 ^ 63)<=i/\i<2 ^ 63)(q:Q x H n):sG G d (.tup l) (.int i) H n Q:=by
 intro A s va vi Q' E hr ra ri R po;refine cn ra fun a aj vY O hl rv=>?_;subst vY;obtain ⟨t,rfl⟩:=SK.aG ri;refine ah (rv.get hx) fun x' KY rx=>?_;have aI:=rv.length;refine ⟨cg ("tuple") _ ((bX hl).typeIs) PySem.F.slot_tuple_getitem.lookup,?_⟩;exact PyProof.Rows.getItem_tuple hl hz.1 hz.2 (by simp only [Ub,aI];exact hj) (by simpa using KY) (po _ _ _ _ _ q rx R (.refl _ _) (TJ _))
theorem JB {a:Addr}{l:List V}{i:Nat}{x:V}{Q:AH->Nat->Prop}(h:H a=some (.list l))(hi:i<l.length)(hz:l.length<=1000)(q:Q (upd H a (.list (l.set i x))) n):zT G d (.ref a) (.int i) x H n Q:=by
 intro A s aD Q' E hr r R po;obtain ⟨va,r',rfl,ra,r⟩:=r.cons_inv;obtain ⟨vk,r',rfl,rk,r⟩:=r.cons_inv;obtain ⟨vx,r',rfl,rx,r⟩:=r.cons_inv;refine ab r.nil_inv (ab (show va=.ref a from ra) ?_);obtain ⟨t,rfl⟩:=SK.aG rk;refine ah (R.objs _ _ h) fun aj CP rv=>?_;obtain ⟨nn,hl⟩:=CP;have aI:=rv.length;refine ki_setAt hl (eO (cP ((i:Nat):Int)) [(1,cG,bg)] cG bg rfl (Ug i)) (PE (Ud hi) (TF hz (by decide))) (by simp only [Ub];exact UI.mpr (eO (Ku ((i:Nat):Int) ((l.length:Nat):Int) ((aj.length:Nat):Int)) [(1,.add bg bD,dT),(1,dT,FL)] (.add bg bD) FL rfl (Ul.mpr hi) (Ul.mpr (TL aI.symm)))) ?_;have GD:(s.heap.update a (Xy (·.setIfInBounds (i:Int).toNat vx))).PlainList a (aj.set i vx).toArray:=by
  refine ⟨nn,?_⟩;refine ab (Yz _ hl (by rfl)) ?_;simp [Xy]
 have SS:∀{h:Heap} {P:Addr->Prop} (l:List V) (aj:List Value) (i:Nat),au G h P l aj->aC G h P x vx->au G h P (l.set i x) (aj.set i vx):=by
  intro h P l
  induction l with
  | nil=>intro aj i r _;refine ab (show aj=[] from r) ?_;rfl
  | cons y l ih=>
   intro aj i r q;refine cy r fun v r' h1 h2=>?_
   cases i with
   | zero=>exact (bA vx r' rfl q h2)
   | succ i=>exact (bA v _ rfl h1 (ih r' i h2 q))
 obtain ⟨R2,S2⟩:=R.turn (tk:=s.toks) (o:=.list (l.set i x)) (Xz ..) (by refine ab h ?_;simp) (by refine ab h ?_;simp) fun K=>(ai _ GD (au.kept K _ (SS _ _ _ rv rx)));exact po _ _ _ q R2 S2 (TJ _)
theorem BX {o:V}{l:List V}(h:fe H o l):eK G o "append" H (.builtin "list.append"):=vT h PySem.slot_list_append PySem.type_list_append
theorem z9 {a:Addr}{l:List V}{x:V}(h:H a=some (.list l))(hz:l.length<=1000000)(q:Q .none (upd H a (.list (l++[x]))) n):aW G d (.builtin "list.append") [.ref a,x] H n Q:=by
 intro A s aD Q' E hr r R po;obtain ⟨va,r',rfl,ra,r⟩:=r.cons_inv;obtain ⟨vx,r',rfl,rx,r⟩:=r.cons_inv;refine ab r.nil_inv (ab (show va=.ref a from ra) ?_);refine ah (R.objs _ _ h) fun aj hl rv=>?_;have aI:=rv.length;refine Zm hl (fun h' KH hs=>?_) (by simp only [Ub];refine ab Xw ?_;exact aH (bc l.length aj.length) [(1,aq,.num 1000000),(1,aw,aq)] aw (.num 16777216) rfl hz (TL aI));obtain ⟨R2,S2⟩:=R.turn (tk:=s.toks) (o:=.list (l++[x])) hs (by refine ab h ?_;simp) (by refine ab h ?_;simp) fun K=>(ai (aj++[vx]) (by simpa using KH) (au.kept K _ (rv.push rx)));exact po _ _ _ _ _ q rfl R2 S2 (TJ _)
theorem aW.one {f:Value}{a:V}(h:∀A s va Q' E,cH d A->aC G s.heap (Pf G H) a va->ba G H n s->gC G H n s Q Q'->wpAny (model G.prog G.w) A (call f [va]) Q' E s):aW G d f [a] H n Q:=by
 intro A s aD Q' E hr r R po;obtain ⟨va,r',rfl,ra,r⟩:=r.cons_inv;refine ab r.nil_inv ?_;exact h A s va Q' E hr ra R po
theorem aW.two {f:Value}{a b:V}(h:∀A s va vb Q' E,cH d A->aC G s.heap (Pf G H) a va->aC G s.heap (Pf G H) b vb->ba G H n s->gC G H n s Q Q'->wpAny (model G.prog G.w) A (call f [va,vb]) Q' E s):aW G d f [a,b] H n Q:=by
 intro A s aD Q' E hr r R po;obtain ⟨va,r',rfl,ra,r⟩:=r.cons_inv;obtain ⟨vb,G1,rfl,rb,r⟩:=r.cons_inv;refine ab r.nil_inv ?_;exact h A s va vb Q' E hr ra rb R po
theorem gC.kept {s:Xm}{Q':Value->Xm->Prop}{v:V}{v':Value}{h':Heap}{tk:Nat}(po:gC G H n s Q Q')(R:ba G H n s)(hk:∀b o,s.heap.get? b=some o->h'.get? b=some o)(hz:s.heap.objs.size<=h'.objs.size)(q:Q v H n)(r:aC G h' (Pf G H) v v'):Q' v' {s with heap:=h',toks:=tk}:=by
 obtain ⟨R2,S2⟩:=R.gM (tk:=tk) hk hz;exact po v H n v' _ q r R2 S2 (TJ _)
theorem FY {v:V}{l:List V}(h:fe H v l)(hz:l.length<=16777216)(q:Q (.int l.length) H n):aW G d (.builtin "len") [v] H n Q:=aW.one fun A s va Q' E hr ra R po=>by
 refine cy (h.at R ra) fun a aj hl rv=>?_;have aI:=rv.length;refine call_len_list hl.isList (by exact PE (TL aI) hz) (po.sk R q ?_);refine bk aI ?_;exact beq_self_eq_true ((aj.length:Nat):Int)
theorem Hx {l:List V}(hz:l.length<=16777216)(q:Q (.int l.length) H n):aW G d (.builtin "len") [.tup l] H n Q:=aW.one fun A s va Q' E hr ra R po=>by
 refine fL ra fun a aj O hl rv=>?_;have aI:=rv.length;refine PyProof.Rows.len_tuple hl (by exact PE (TL aI) hz) (po.sk R q ?_);refine bk aI ?_;exact beq_self_eq_true ((aj.length:Nat):Int)
theorem LV {a b:Int}(q:Q (.int (if b<a then b else a)) H n):aW G d (.builtin "min") [.int a,.int b] H n Q:=aW.two fun A s va vb Q' E hr ra rb R po=>by
 obtain ⟨t,rfl⟩:=SK.aG ra;obtain ⟨u,rfl⟩:=SK.aG rb;refine eG (min_two_ints hr.hh fun h' tk hk hz=>po.kept R hk hz q ?_)
 split <;> exact beq_self_eq_true _
theorem LU {a b:Int}(q:Q (.int (if b > a then b else a)) H n):aW G d (.builtin "max") [.int a,.int b] H n Q:=aW.two fun A s va vb Q' E hr ra rb R po=>by
 obtain ⟨t,rfl⟩:=SK.aG ra;obtain ⟨u,rfl⟩:=SK.aG rb;refine eG (max_two_ints hr.hh fun h' tk hk hz=>po.kept R hk hz q ?_)
 split <;> exact beq_self_eq_true _
theorem LR {a:Int}(q:Q (.int (if a<0 then -a else a)) H n):aW G d (.builtin "abs") [.int a] H n Q:=aW.one fun A s va Q' E hr ra R po=>by
 obtain ⟨t,rfl⟩:=SK.aG ra;exact call_abs_int fun u tk=>po.sk R q (beq_self_eq_true _)
theorem LS {a:Int}(q:Q (.int a) H n):aW G d (.type "int") [.int a] H n Q:=aW.one fun A s va Q' E hr ra R po=>by
 obtain ⟨t,rfl⟩:=SK.aG ra;exact call_int_int (po.sk (tk:=s.toks) R q (beq_self_eq_true _))
theorem LY {a:Int}(ha:a.natAbs.log2<1920)(q:Q (.str (toString a)) H n):aW G d (.type "str") [.int a] H n Q:=aW.one fun A s va Q' E hr ra R po=>by
 obtain ⟨t,rfl⟩:=SK.aG ra;exact P.str_of_int ha (po.sk R q (beq_self_eq_true _))
theorem tN {h:Heap}{P:Addr->Prop}:∀{ns:List Int} {aD:List Value},au G h P (ns.map fun i=>V.int i) aD->IntsAre aD ns
 | [],_,r=>by refine ab (show _=[] from r) ?_;exact .nil
 | i::ns,_,r=>by
  refine cy r fun v r' h1 h2=>?_;obtain ⟨t,rfl⟩:=SK.aG h1;exact .cons _ _ (tN h2)
theorem DF {v:V}{ns:List Int}(h:fe H v (ns.map fun i=>V.int i))(hr:∀i∈ns,0<=i/\i<256)(hz:ns.length<=1000)(q:Q (.bytes (byteArr ns)) H n):aW G d (.type "bytes") [v] H n Q:=aW.one fun A s va Q' E Nq ra R po=>by
 refine cy (h.at R ra) fun a aj hl rv=>?_;have aI:=rv.length;refine eG (call_bytes_ints hl.isList (tN rv) hr (by refine ab Xw ?_;simp at aI;exact aH (bc ns.length aj.length) [(1,aq,.num 1000),(1,aw,aq)] aw (.num 16777216) rfl hz (TL aI)) Nq.hh fun h' t k hk hz=>po.kept R hk hz q (beq_self_eq_true _))
theorem lh:Y7 (.type "bytes") "__bytes__"=pure (some (.builtin "bytes.__bytes__")):=by refine ab (XU ..) (ab (XM ..) ?_);kernel_rfl
theorem lZ {prog:XS}{w:World}{A:Xv}{E:Value->Xm->Prop}{s:Xm}{b:Array UInt8}{t:Tok}{Q:Value->Xm->Prop}(h:Q (.bytes b t) s):Yr (model prog w) A (.call (.builtin "bytes.__new__") ⟨[.type "bytes",.bytes b t],[]⟩) (wants Q E) s:=by
 refine codeAny_of_tree ?_;show wpAny _ A.in1 (do checkBuiltinCall "bytes.__new__" ⟨[.type "bytes",.bytes b t],[]⟩;again (.builtin "bytes.__new__" ⟨[.type "bytes",.bytes b t],[]⟩)) _ _ s;refine Xl (X1 (F.bm_newCall _) (Xn ⟨Yu F.bm_plain _,Yj F.bm_entry ?_⟩));refine ab (XZ F.bm_plain _) ?_;have hT:s.TypeIs (.bytes b t) "bytes":=PySem.W.typeIs_bytes _ _ _;unfold XN.«bytes.__new__»;refine Xl (X1 (a:=true) rfl ?_);refine aaq rfl ?_;refine Xl (X1 F.bm_sub ?_);refine aaq rfl ?_;refine Xl (X1 (F.bm_bind _) ?_);refine Xl (X1 (a:=()) rfl ?_);refine Xl (X1 (a:=()) rfl ?_);refine aaq rfl ?_;refine Xl (X4 hT lh ?_);refine Xl (YB ?_);refine Xl (X1 (a:=.type "bytes") rfl ?_);refine bm_if_true rfl ?_;exact Xn h
theorem m8 {prog:XS}{w:World}{A:Xv}{E:Value->Xm->Prop}{s:Xm}{b:Array UInt8}{t:Tok}{Q:Value->Xm->Prop}(h:Q (.bytes b t) s):wpAny (model prog w) A (call (.type "bytes") [.bytes b t]) Q E s:=by
 refine callType_codes (Q₁:=fun obj s₁=>s₁.TypeIs obj "bytes"/\Q obj s₁) aar (F.bm_typeCall _) F.entry_object_init
  (lZ (Q:=fun obj s₁=>s₁.TypeIs obj "bytes"/\Q obj s₁) ⟨PySem.W.typeIs_bytes _ _ _,h⟩) fun obj s₁ h₁=>?_
 exact ⟨h₁.1,F.args_object_init_2 obj _,object_init_meets aar.init.lookup aar.made (by decide) prog w A.in1 _ s₁ ⟨h₁.1,rfl,h₁.2⟩⟩
theorem Aa {b:Array UInt8}(q:Q (.bytes b) H n):aW G d (.type "bytes") [.bytes b] H n Q:=aW.one fun A s va Q' E hr ra R po=>by
 obtain ⟨t,rfl⟩:=SK.bP ra;exact m8 (po.sk (tk:=s.toks) R q (beq_self_eq_true _))
theorem oj (l:Addr)(o:Obj)(vs:List Value)(n:Nat)(hc:o.cls=.type "list")(hd:o.data=.seq vs.toArray n)(hsz:vs.length<=Yy):
 Meets (XN.«tuple.__new__» ⟨[.type "tuple",.ref l],[]⟩)
 (fun O R s=>s.heap.get? l=some o/\R (.ok (.ret (.ref (s.heap.objs.size+1)))) {s with heap:=((s.heap.push (Xx "list" #[] 0)).update s.heap.objs.size (Xy (· ++vs.toArray))).push {cls:=.type "tuple",data:=.seq vs.toArray}}):=
 .of_wp fun prog w A R s h=>by
  obtain ⟨hp,g,d,tk,os⟩:=s;obtain ⟨ht,h⟩:=h;have nO:=sub_tuple_self;have hinit:=init_tuple_lookup;have hmh:=madeHere_tuple;have hT:Xm.TypeIs ⟨hp,g,d,tk,os⟩ (.ref l) "list":=(ai o ht hc);have hl:(⟨hp,g,d,tk,os⟩:Xm).heap.IsList l vs.toArray:=(bW o ht hc ⟨n,hd⟩)
  wp_walk using wpAny_loadPart' ht,Zj hT,aaj (hsz:=hsz) hl
  refine (ai _ rfl ?_);have e1:((hp.push (Xx "list" #[] 0)).update hp.objs.size (Xy (· ++vs.toArray))).objs.size=hp.objs.size+1:=by exact ab (fb ..) (ab (gV ..) rfl)
  show R (.ok (.ret (.ref ((hp.push (Xx "list" #[] 0)).update hp.objs.size (Xy (· ++vs.toArray))).objs.size))) _;refine ab e1 ?_;exact h
theorem DI {v:V}{l:List V}(h:fe H v l)(hz:l.length<=16777216)(q:Q (.tup l) H n):aW G d (.type "tuple") [v] H n Q:=aW.one fun A s va Q' E hr ra R po=>by
 refine cy (h.at R ra) fun a aj OH rv=>?_;obtain ⟨nn,hl⟩:=OH;have aI:=rv.length;refine callType_new PySem.F.called_tuple (by decide) (PySem.F.typeCall_tuple_1 _) (PySem.F.newCall_tuple_1 _) (fun obj=>PySem.F.args_object_init_2 obj _) PySem.F.entry_tuple_new
  (oj a _ aj nn rfl rfl (by refine ab Xw ?_;exact aH (bc l.length aj.length) [(1,aq,.num 16777216),(1,aw,aq)] aw (.num 16777216) rfl hz (TL aI))) ⟨hl,?_⟩
 have e1:((s.heap.push (Xx "list" #[] 0)).update s.heap.objs.size (Xy (· ++aj.toArray))).objs.size=s.heap.objs.size+1:=by exact ab (fb ..) (ab (gV ..) rfl)
 have hg:(((s.heap.push (Xx "list" #[] 0)).update s.heap.objs.size (Xy (· ++aj.toArray))).push {cls:=.type "tuple",data:=.seq aj.toArray}).get? (s.heap.objs.size+1)=some {cls:=.type "tuple",data:=.seq aj.toArray}:=by
  refine bk e1 ?_;exact Xq _ rfl
 have hk:∀b o,s.heap.get? b=some o->(((s.heap.push (Xx "list" #[] 0)).update s.heap.objs.size (Xy (· ++aj.toArray))).push {cls:=.type "tuple",data:=.seq aj.toArray}).get? b=some o:=fun b o e=>
  Xo _ (((Xz (h:=s.heap.push (Xx "list" #[] 0)) (a:=s.heap.objs.size) (f:=Xy (· ++aj.toArray))).2 b (UA (Xr e))).trans (Xo _ e))
 refine ⟨ai _ hg rfl,po.kept (tk:=s.toks) R hk (by refine ab (gV ..) (ab (e1 ..) ?_);exact aH (bI s.heap.objs.size) [] aq (.add (.add aq ay) ay) rfl) q ?_⟩;obtain ⟨R2,S2⟩:=R.gM (tk:=s.toks) hk (by refine ab (gV ..) (ab (e1 ..) ?_);exact aH (bI s.heap.objs.size) [] aq (.add (.add aq ay) ay) rfl);exact (cD _ aj rfl (.inl (R.aY (Uo _))) (bW _ hg rfl ⟨_,rfl⟩) (R.jd S2 rv))
theorem jM {a b c:Int}(ha:0<=a/\a<=16777216)(hb:0<=b/\b<=16777216)(hc:0<c/\c<=1000)(hs:XH a b c<=16777216/\0<=XH a b c):YH a b c=true:=by
 unfold YH;simp only [Builtin.Range.rangeFitsLong,UM,Wd,decide_eq_true_eq,beq_iff_eq,show c > 0 from hc.1,if_true];exact ⟨⟨⟨⟨Px ha.1 ha.2,Px hb.1 hb.2⟩,Px (W3 hc.1) (Vk hc.2 (by decide))⟩,Px hs.2 hs.1⟩,.inr ⟨Vk (by decide) (Int.add_nonneg hb.1 (Int.sub_nonneg_of_le hc.1)),WW (Int.add_le_add hb.2 (Vk (Int.sub_le_self c (by decide)) hc.2)) (by decide)⟩⟩
theorem Ad {b:Int}(hb:0<=b/\b<=16777216)(q:∀a,n<=a->H a=none->Q (.ref a) (upd H a (.jK 0 b.toNat 1)) (a+1)):aW G d (.type "range") [.int b] H n Q:=aW.one fun A s va Q' E hr ra R po=>by
 obtain ⟨t,rfl⟩:=SK.aG ra;refine call_range_1 ?_;have hsz:XH 0 b 1=(b.toNat:Int):=by
  refine ab (rangeSize_one ..) ?_
  by_cases g:(0:Int)<b
  ·exact ab (if_pos g) ((Int.sub_zero b).trans (VU hb.1).symm)
  ·exact ab (if_neg g) (congrArg Nat.cast (Int.toNat_of_nonpos (U2.mp g))).symm
 obtain ⟨R2,S2⟩:=R.alloc {cls:=.type "range",data:=.fields #[.int 0 s.toks,.int b t,.int 1 (s.toks+1)]} (.jK 0 b.toNat 1) (tk:=s.toks+1+1) rfl fun K=>(Hg b s.toks t (s.toks+1) (Xq _ rfl) (jM (⟨eO (cP 0) [] cG cG rfl,eO (cP 0) [] cG (.num 16777216) rfl⟩) hb (⟨UI.mpr (eO (cP 0) [] (.add cG bD) bD rfl),eO (cP 0) [] bD (.num 1000) rfl⟩) (by refine ab hsz ?_;exact ⟨Ul.mpr (Xg.mpr hb.2),Ug _⟩)) hsz);exact po _ _ _ _ _ (q _ R.size (R.aY (TJ _)).1) rfl R2 S2 (TY R.size)
theorem Ae {a b:Int}(ha:0<=a/\a<=16777216)(hb:0<=b/\b<=16777216)(q:∀x,n<=x->H x=none->Q (.ref x) (upd H x (.jK a (b - a).toNat 1)) (x+1)):aW G d (.type "range") [.int a,.int b] H n Q:=aW.two fun A s va vb Q' E hr ra rb R po=>by
 obtain ⟨t,rfl⟩:=SK.aG ra;obtain ⟨u,rfl⟩:=SK.aG rb;refine call_range_2 ?_;have hsz:XH a b 1=((b - a).toNat:Int):=by
  refine ab (rangeSize_one ..) ?_
  by_cases g:a<b
  ·exact ab (if_pos g) (VU (Int.sub_nonneg_of_le (W3 g))).symm
  ·exact ab (if_neg g) (congrArg Nat.cast (Int.toNat_of_nonpos (Int.sub_nonpos_of_le (U2.mp g)))).symm
 obtain ⟨R2,S2⟩:=R.alloc {cls:=.type "range",data:=.fields #[.int a t,.int b u,.int 1 s.toks]} (.jK a (b - a).toNat 1) (tk:=s.toks+1) rfl fun K=>(Hg b t u s.toks (Xq _ rfl) (jM ha hb (⟨UI.mpr (eO (cP 0) [] (.add cG bD) bD rfl),eO (cP 0) [] bD (.num 1000) rfl⟩) (by refine ab hsz ?_;exact ⟨Ul.mpr (Xg.mpr (Vk (Int.sub_le_self b ha.1) hb.2)),Ug _⟩)) hsz);exact po _ _ _ _ _ (q _ R.size (R.aY (TJ _)).1) rfl R2 S2 (TY R.size)
theorem jr (m:Nat):XH 0 (2*(m:Int)) 2=(m:Int):=by
 unfold XH;simp only [show (2:Int) > 0 by decide,if_true]
 split <;> omega
theorem Af {m:Nat}(hb:m<=1000000)(q:∀x,n<=x->H x=none->Q (.ref x) (upd H x (.jK 0 m 2)) (x+1)):aW G d (.type "range") [.int 0,.int (2*(m:Int)),.int 2] H n Q:=by
 intro A s aD Q' E hr r R po;obtain ⟨va,r',rfl,ra,r⟩:=r.cons_inv;obtain ⟨vk,r',rfl,rk,r⟩:=r.cons_inv;obtain ⟨vx,r',rfl,rx,r⟩:=r.cons_inv;refine ab r.nil_inv ?_;obtain ⟨t,rfl⟩:=SK.aG ra;obtain ⟨u,rfl⟩:=SK.aG rk;obtain ⟨v,rfl⟩:=SK.aG rx;refine call_range_3 (by decide) ?_ (.inl (PyProof.noPylong_small (by decide)));obtain ⟨R2,S2⟩:=R.alloc {cls:=.type "range",data:=.fields #[.int 0 t,.int (2*(m:Int)) u,.int 2 v]} (.jK 0 m 2) (tk:=s.toks) rfl fun K=>(Hg (2*(m:Int)) t u v (Xq _ rfl) (jM (⟨eO (cP 0) [] cG cG rfl,eO (cP 0) [] cG (.num 16777216) rfl⟩) (⟨eO (cP ((m:Nat):Int)) [(2,cG,bg)] cG (.mulL 2 bg) rfl (Ug m),eO (cP ((m:Nat):Int)) [(2,bg,.num 1000000)] (.mulL 2 bg) (.num 16777216) rfl (Ul.mpr hb)⟩) (⟨UI.mpr (eO (cP 0) [] (.add cG bD) OU rfl),eO (cP 0) [] OU (.num 1000) rfl⟩) (by refine ab (jr ..) ?_;exact ⟨eO (cP ((m:Nat):Int)) [(1,bg,.num 1000000)] bg (.num 16777216) rfl (Ul.mpr hb),eO (cP ((m:Nat):Int)) [(1,cG,bg)] cG bg rfl (Ug m)⟩)) (jr m));exact po _ _ _ _ _ (q _ R.size (R.aY (TJ _)).1) rfl R2 S2 (TY R.size)
theorem mX {l:List V}(q:∀x,n<=x->H x=none->Q (.ref x) (upd H x (.sE l)) (x+1)):aW G d (.type "reversed") [.ag l] H n Q:=aW.one fun A s va Q' E hr ra R po=>by
 refine fL ra fun L aj hp hl rv=>?_;refine call_reversed_list hl.isList ?_;have bO:=iZ hl.isList;obtain ⟨nn,yG⟩:=id hl;obtain ⟨R2,S2⟩:=R.alloc (revObj L ((aj.toArray.size:Int) - 1)) (.sE l) (tk:=s.toks) rfl fun K=>(cD L aj (by refine ab (Xq _ rfl) ?_;simp) ⟨(ak (UA bO)).trans hp.1,hp.2⟩ ⟨nn,Xo _ yG⟩ (au.kept K _ rv));exact po _ _ _ _ _ (q _ R.size (R.aY (TJ _)).1) rfl R2 S2 (TY R.size)
theorem NV {a:Addr}{l:List V}(h:H a=some (.list l)):eK G (.ref a) "pop" H (.builtin "list.pop"):=vT (.made h) PySem.F.slot_list_pop PySem.F.type_list_pop
theorem LW {a:Addr}{l:List V}{x:V}(h:H a=some (.list (l++[x])))(hz:l.length<=1000000)(q:Q x (upd H a (.list l)) n):aW G d (.builtin "list.pop") [.ref a] H n Q:=aW.one fun A s va Q' E hr ra R po=>by
 refine ab (show va=.ref a from ra) ?_;refine ah (R.objs _ _ h) fun aj FC rv=>?_;obtain ⟨nn,hl⟩:=FC;have aI:=rv.length;refine cu rv.mW fun is r' jI r1 r2=>?_;subst jI;obtain ⟨v,G1,rfl,rx,r2⟩:=r2.cons_inv;have:=r2.nil_inv;subst this;have tK:=r1.length;refine Copied.pop_at hl (y:=v) (by simp) (fun h' hs KH=>?_) (by simp only [Ub];refine ab Xw ?_;simp at aI ⊢;exact aH (bc l.length is.length) [(1,aq,.num 1000000),(1,aw,aq)] aw (.num 16777215) rfl hz (TL tK));obtain ⟨R2,S2⟩:=R.turn (tk:=s.toks) (o:=.list l) hs (by refine ab h ?_;simp) (by refine ab h ?_;simp) fun K=>(ai is ⟨nn+1,by refine ab KH ?_;simp⟩ (au.kept K _ r1));exact po _ _ _ _ _ q (R.rel S2 rx) R2 S2 (TJ _)
theorem BZ {a:Addr}{l:List V}(h:H a=some (.list l)):eK G (.ref a) "extend" H (.builtin "list.extend"):=vT (.made h) PySem.F.slot_list_extend PySem.F.type_list_extend
theorem Ac {a:Addr}{l m:List V}(h:H a=some (.list l))(hz:l.length+m.length<=1000000)(q:Q .none (upd H a (.list (l++m))) n):aW G d (.builtin "list.extend") [.ref a,.ag m] H n Q:=aW.two fun A s va vb Q' E hr ra rb R po=>by
 refine ab (show va=.ref a from ra) ?_;refine fL rb fun b vM hp Tn r2=>?_;obtain ⟨n2,hb⟩:=Tn;refine ah (R.objs _ _ h) fun aj OH rv=>?_;obtain ⟨nn,hl⟩:=OH;have aI:=rv.length;have M9:=r2.length;have Ny:aj.toArray.size+vM.toArray.size<=Yy:=by simp only [Ub];refine ab Xw ?_;exact aH (cm l.length m.length aj.length vM.length) [(1,.add aq aw,.num 1000000),(1,aN,aq),(1,bL,aw)] (.add aN bL) (.num 16777216) rfl hz (TL aI) (TL M9)
 refine ZV PySem.F.slot_list_extend (ai _ hl rfl) PySem.F.entry_list_extend (PySem.F.args_list_extend_2 _ _) (AutoSeq1.list_extend_list_list_0 a aj.toArray nn b vM.toArray n2 (extend_door Ny) (TF (TZ _ _) Ny)) ⟨hl,hb,?_⟩;have GD:(s.heap.update a (Xy fun x=>x++vM.toArray)).PlainList a (aj++vM).toArray:=by
  refine ⟨(if (aj.toArray++vM.toArray).size==aj.toArray.size then nn else nn+1),?_⟩;rw [Yz _ hl (by refine ab (mapSeq_app ..) ?_;rfl),mapSeq_app];simp
 obtain ⟨R2,S2⟩:=R.turn (tk:=s.toks) (o:=.list (l++m)) (Xz ..) (by refine ab h ?_;simp) (by refine ab h ?_;simp) fun K=>(ai (aj++vM) GD (au.kept K _ (rv.append r2)));exact po _ _ _ _ _ q rfl R2 S2 (TJ _)
theorem Ab {v:V}{es:List (SK × V)}(ok:eu G)(h:cO H v es)(hz:es.length<=1000)(q:∀x,n<=x->H x=none->Q (.ref x) (upd H x (.dict es)) (x+1)):aW G d (.type "dict") [v] H n Q:=aW.one fun A s va Q' E hr ra R po=>by
 refine fL (h.at ok R ra) fun a kvs hs Tp rv=>?_;obtain ⟨t,hd⟩:=Tp;have aI:=rv.length;refine kt_call_dict hs hd (by refine ab Xw ?_;exact aH (bc es.length kvs.length) [(1,aq,.num 1000),(1,aw,aq)] aw (.num 16777216) rfl hz (TL aI)) fun h' vw sD=>?_;have zD:h'.objs.size=s.heap.objs.size+1:=by exact ab (bz sD ..) (ab (gV ..) rfl)
 have hk:∀b o,s.heap.get? b=some o->h'.get? b=some o:=fun b o e=>sD.extBut b o (UA (Xr e)) (Xo _ e);obtain ⟨R2,S2⟩:=R.change [s.heap.objs.size] (h':=h') (H':=upd H s.heap.objs.size (.dict es)) (n':=s.heap.objs.size+1) (tk:=s.toks) (fun b hb ob e=>hk b ob e) (fun b hb=>ak (by simpa using hb)) (fun x hx=>.inr (TL (TK.mp hx).symm))
  (fun x hx a0 e=>by simp at hx;rw [hx,(R.aY (TJ _)).1] at e;injection e) (TL zD.symm) (aH (bc s.heap.objs.size h'.objs.size) [(1,.add aq ay,aw)] aq aw rfl (TL zD.symm)) (fun K x hx o' e=>by
   simp at hx;subst hx;rw [ae] at e;(injection e with e;subst e);exact (ai kvs ⟨t,vw⟩ (aP.kept K _ rv))) fun x hx O=>by simp at hx;subst hx;exact (R.aY (TJ _)).2
 exact po _ _ _ _ _ (q _ R.size (R.aY (TJ _)).1) rfl R2 S2 (TY R.size)
theorem EV {x:Str}:eK G (.str x) "count" H (.builtin "str.count"):=
 ⟨ew _,fun A E n s ov pl Q' r R q=>by
  obtain ⟨t,rfl⟩:=SK.cp r;exact Ys (typeIs_str _ _ _) PySem.F.plainAttrs_str PySem.F.slot_str_count PySem.F.type_str_count (fun a e=>nomatch e) q⟩
theorem DG {x y:Str}(q:Q (.int (aak x y)) H n):aW G d (.builtin "str.count") [.str x,.str y] H n Q:=aW.two fun A s va vb Q' E hr ra rb R po=>by
 obtain ⟨t,rfl⟩:=SK.cp ra;obtain ⟨u,rfl⟩:=SK.cp rb;exact SC.count (po.sk R q (beq_self_eq_true _))
end
noncomputable abbrev KV:=V->AH->Nat->Prop
noncomputable abbrev KL:=List V->AH->Nat->Prop
noncomputable abbrev KB:=Bool->AH->Nat->Prop
noncomputable abbrev KR:=bt->AH->Nat->Prop
noncomputable def aA.at (G:aA)(o:Addr->Prop):aA:={G with own:=o}
structure aE (G:aA)(d f:Nat)(args:List V)(H:AH)(n:Nat)(Q:KV):Prop where
 run:∀o,Lw (G.at o) d f args H n Q
structure o9 (G:aA)(d c:Nat)(args:List V)(H:AH)(n:Nat)(Q:KV):Prop where
 run:∀o,mR (G.at o) d c args H n Q
noncomputable def je:bt->Nat->Option V
 | [],_=>none
 | x::_,0=>x
 | _::xs,i+1=>je xs i
noncomputable def Br (b:Bool)(P Q:Prop):Prop:=match b with | true=>P | false=>Q
theorem Br.t {P Q:Prop}(h:Br true P Q):P:=h
theorem Br.f {P Q:Prop}(h:Br false P Q):Q:=h
theorem br {b:Bool}{P Q:Prop}(h:b=true->P)(k:b=false->Q):Br b P Q:=by
 unfold Br
 cases b with
 | true=>exact h rfl
 | false=>exact k rfl
theorem jU {b:Bool}{P Q:Prop}(e:b=true)(h:P):Br b P Q:=br (fun O=>h) fun q=>nomatch e.symm.trans q
theorem fB {b:Bool}{P Q:Prop}(e:b=false)(h:Q):Br b P Q:=br (fun q=>nomatch e.symm.trans q) fun O=>h
noncomputable def dC (b:Bool)(P:Prop):Prop:=match b with | true=>P | false=>False
theorem aL {b:Bool}{P:Prop}(e:b=true)(h:P):dC b P:=by subst e;exact h
theorem aK {b:Bool}{P:Prop}(h:dC b P):b=true/\P:=by
 cases b with
 | true=>exact ⟨rfl,h⟩
 | false=>exact False.elim h
theorem aV {a b:Nat}{P:Prop}(e:a<=b)(h:P):dC (Us a b) P:=aL (UR e) h
theorem bh {a b:Nat}{P:Prop}(h:dC (Us a b) P):a<=b/\P:=⟨Uh (aK h).1,(aK h).2⟩
noncomputable def oV {α:Type}(o:Option α)(K:α->Prop):Prop:=match o with | some x=>K x | none=>False
theorem dh {α:Type}{o:Option α}{x:α}{K:α->Prop}(e:o=some x)(h:K x):oV o K:=by subst e;exact h
theorem jq {α:Type}{o:Option α}{K:α->Prop}(h:oV o K):∃x,o=some x/\K x:=by
 cases o with
 | some x=>exact (ai x rfl h)
 | none=>exact False.elim h
noncomputable def oD (o:Option V)(x:V)(K:V->Prop):Prop:=match o with | some v=>K v | none=>K x
theorem K8 {o:Option V}{x v:V}{K:V->Prop}(e:o=some v)(h:K v):oD o x K:=by subst e;exact h
theorem RI {o:Option V}{x:V}{K:V->Prop}(e:o=none)(h:K x):oD o x K:=by subst e;exact h
theorem Cc {o:Option V}{x:V}{K:V->Prop}(h:oD o x K):K (o.getD x):=by
 cases o with
 | some v=>exact h
 | none=>exact h
noncomputable def bV (v:V)(K:Bool->Prop):Prop:=match v with | .bool b=>K b | _=>False
theorem pS {v:V}{K:Bool->Prop}(h:bV v K):∃b,v=.bool b/\K b:=by cases v with | bool b=>exact (ai b rfl h) | _=>exact False.elim h
noncomputable def kV (v:V)(K:SK->Prop):Prop:=match v with | .sk k=>K k | _=>False
noncomputable def iV (v:V)(K:Int->Prop):Prop:=kV v fun k=>match k with | .int i=>K i | _=>False
noncomputable def sV (v:V)(K:Str->Prop):Prop:=kV v fun k=>match k with | .str i=>K i | _=>False
noncomputable def lV (v:V)(K:List V->Prop):Prop:=match v with | .ag l=>K l | _=>False
noncomputable def tV (v:V)(K:List V->Prop):Prop:=match v with | .tup l=>K l | _=>False
noncomputable def rV (v:V)(K:Addr->Prop):Prop:=match v with | .ref a=>K a | _=>False
noncomputable def nV (v:V)(P:Prop):Prop:=match v with | .none=>P | _=>False
noncomputable def a0 (vs:List V)(K:Prop):Prop:=match vs with | []=>K | _=>False
noncomputable def a1 (vs:List V)(K:V->Prop):Prop:=match vs with | a::r=>a0 r (K a) | []=>False
noncomputable def a2 (vs:List V)(K:V->V->Prop):Prop:=match vs with | a::r=>a1 r (K a) | []=>False
theorem j5 {v:V}{K:SK->Prop}(h:kV v K):∃k,v=.sk k/\K k:=by cases v with | sk k=>exact (ai k rfl h) | _=>exact False.elim h
theorem bR {v:V}{K:Int->Prop}(h:iV v K):∃i,v=.int i/\K i:=by
 refine mP (j5 h) fun k h=>?_
 cases k with | int i=>exact (ai i rfl h) | _=>exact False.elim h
theorem uq {v:V}{K:Str->Prop}(h:sV v K):∃i,v=.str i/\K i:=by
 refine mP (j5 h) fun k h=>?_
 cases k with | str i=>exact (ai i rfl h) | _=>exact False.elim h
theorem BL {v:V}{K:List V->Prop}(h:lV v K):∃k,v=.ag k/\K k:=by cases v with | ag k=>exact (ai k rfl h) | _=>exact False.elim h
theorem CQ {v:V}{K:List V->Prop}(h:tV v K):∃k,v=.tup k/\K k:=by cases v with | tup k=>exact (ai k rfl h) | _=>exact False.elim h
theorem gh {v:V}{K:Addr->Prop}(h:rV v K):∃k,v=.ref k/\K k:=by cases v with | ref k=>exact (ai k rfl h) | _=>exact False.elim h
theorem GR {v:V}{P:Prop}(h:nV v P):v=.none/\P:=by cases v with | none=>exact ⟨rfl,h⟩ | _=>exact False.elim h
theorem zX {vs:List V}{K:Prop}(h:a0 vs K):vs=[]/\K:=by cases vs with | nil=>exact ⟨rfl,h⟩ | cons=>exact False.elim h
theorem eT {vs:List V}{K:V->Prop}(h:a1 vs K):∃a,vs=[a]/\K a:=by
 cases vs with
 | nil=>exact False.elim h
 | cons a r=>obtain ⟨rfl,h⟩:=zX h;exact (ai a rfl h)
theorem zY {vs:List V}{K:V->V->Prop}(h:a2 vs K):∃a b,vs=[a,b]/\K a b:=by
 cases vs with
 | nil=>exact False.elim h
 | cons a r=>refine mP (eT h) fun b h=>?_;exact (cg a b rfl h)
noncomputable def PM (a b:V)(H:AH)(n:Nat)(Q:KV):Prop:=match a with
 | .tup l=>tV b fun m=>dC (Us (l.length+m.length) 1000) (Q (.tup (l++m)) H n)
 | .ag l=>lV b fun m=>dC (Us (l.length+m.length) 16777216) (Q (.ag (l++m)) H n)
 | .sk k=>(match k with
  | .int a=>iV b fun b=>Q (.int (a+b)) H n
  | .str a=>sV b fun b=>a.length+b.length<=16777216/\Q (.str (a++b)) H n
  | _=>False)
 | _=>False
noncomputable def P5 (a b:V)(H:AH)(n:Nat)(Q:KV):Prop:=match a with
 | .ag l=>iV b fun k=>∃x,l=[x]/\0<=k/\k<=1000/\Q (.ag (Up k.toNat x)) H n
 | a=>iV a fun a=>iV b fun b=>ZU a b/\Q (.int (a*b)) H n
noncomputable def Ld (op:YN)(a b:V)(H:AH)(n:Nat)(Q:KV):Prop:=match op with
 | .Add=>PM a b H n Q
 | .Sub=>iV a fun a=>iV b fun b=>Q (.int (a - b)) H n
 | .Mult=>P5 a b H n Q
 | .Mod=>iV a fun a=>iV b fun b=>dC (!(b==0)) (Q (.int (a.fmod b)) H n)
 | .FloorDiv=>iV a fun a=>iV b fun b=>dC (!(b==0)) (dC (Us b.natAbs 1073741823) (Q (.int (a.fdiv b)) H n))
 | .Pow=>iV a fun a=>iV b fun b=>0<=b/\(aac a:Int)*b<=2 ^ 27/\Q (.int (a ^ b.toNat)) H n
 | _=>False
noncomputable def Lp (a:V)(H:AH)(n:Nat)(Q:KV):Prop:=iV a fun a=>Q (.int (-a)) H n
noncomputable def zP (H:AH)(v:V)(K:List V->Prop):Prop:=match v with
 | .ag l=>K l
 | .ref a=>∃l,H a=some (.list l)/\K l
 | _=>False
noncomputable def mL (H:AH)(v:V)(K:List (SK × V)->Prop):Prop:=match v with
 | .az _ es=>K es
 | .ref a=>∃es,H a=some (.dict es)/\K es
 | _=>False
noncomputable def aR (es:List (SK × V))(k:SK):Bool:=es.all fun p=>p.1.tag==k.tag
noncomputable def bq (l:List Int):List V:=l.map fun i=>.int i
noncomputable def InP (k c:V)(H:AH)(K:Bool->Prop):Prop:=match k with
 | .sk k=>mL H c fun es=>dC (aR es k) (K (bw es k).isSome)
 | .tup l=>(match c with
  | .ref a=>∃is es,l=bq is/\H a=some (.aO es)/\K (es.lookup is).isSome
  | .tup m=>∃(is:List Int) (ms:List (List Int)),l=bq is/\m=ms.map (fun k=>.tup (bq k))/\K (ms.any fun k=>decide (k=is))
  | _=>False)
 | _=>False
noncomputable def InN (k c:V)(H:AH)(K:Bool->Prop):Prop:=kV k fun k=>mL H c fun es=>dC (aR es k) (K (bw es k).isSome)
noncomputable def vQ (a b:SK):Bool:=a.tag==b.tag&& !(a.tag==1)
noncomputable def EH:V->Bool | .az _ es=>es.isEmpty | _=>false
noncomputable def xZ (op:CmpOp)(a b:V)(H:AH)(n:Nat)(Q:KV):Prop:=match op with
 | .Lt=>kV a fun a=>kV b fun b=>dC (vQ a b) (Q (.bool (cL a b)) H n)
 | .LtE=>kV a fun a=>kV b fun b=>dC (vQ a b) (Q (.bool (!cL b a)) H n)
 | .Gt=>iV a fun a=>iV b fun b=>Q (.bool (decide (b<a))) H n
 | .GtE=>iV a fun a=>iV b fun b=>Q (.bool (decide (b<=a))) H n
 | .Eq=>dC (V.gG a b) (dC (Us a.dep 200) (Q (.bool (V.eqv a b)) H n))
 | .NotEq=>Br (EH b) (mL H a fun es=>Q (.bool (!es.isEmpty)) H n) (dC (V.gG a b) (dC (Us a.dep 200) (Q (.bool (!V.eqv a b)) H n)))
 | .Is=>nV b (Q (.bool a.isNone) H n)
 | .IsNot=>nV b (Q (.bool (!a.isNone)) H n)
 | .In=>InP a b H fun b=>Q (.bool b) H n
 | .NotIn=>InN a b H fun b=>Q (.bool (!b)) H n
theorem xh {a b:SK}(h:vQ a b=true):RA a b:=by
 have h2:(!(a.tag==1))=true:=(af h).2;exact ⟨eq_of_beq (af h).1,fun e=>by rw [e] at h2;injection h2⟩
noncomputable def DE (l:List V):Int->Option V
 | .ofNat j=>l[j]?
 | .negSucc j=>bif Us (j+1) l.length then l[l.length - (j+1)]? else none
theorem Ht {l:List V}{i:Int}{x:V}(h:DE l i=some x):∃j:Nat,((0<=i/\i.toNat=j)\/(i<0/\(i+l.length).toNat=j/\ -(l.length:Int)<=i))/\l[j]? =some x:=by
 cases i with
 | ofNat j=>exact (ai j (.inl ⟨Ug _,rfl⟩) h)
 | negSucc j=>
  have h:(bif Us (j+1) l.length then l[l.length - (j+1)]? else none)=some x:=h
  cases e:Us (j+1) l.length with
  | false=>rw [e] at h;injection h
  | true=>
   rw [e] at h;have:=Uh e;exact (ai _ (.inr ⟨Int.negSucc_lt_zero j,congrArg Int.toNat (Int.subNatNat_of_le this),Int.neg_le_neg (Ul.mpr this)⟩) h)
theorem FX {l:List V}{x:V}:DE (l++[x]) (-1)=some x:=by
 show (bif Us 1 (l++[x]).length then (l++[x])[(l++[x]).length - 1]? else none)=_;refine ab TG ?_;show (l++[x])[l.length]? =_;refine ab (VN (TJ _) ..) (ab (W4 ..) ?_);rfl
noncomputable def zI (l:List V)(i:V)(K:V->Prop):Prop:=iV i fun i=>oV (DE l i) fun x=>dC (Us l.length 16777216) (K x)
noncomputable def wD (es:List (SK × V))(i:V)(K:V->Prop):Prop:=kV i fun k=>dC (aR es k) (oV (bw es k) K)
noncomputable def Dy (a i:V)(H:AH)(n:Nat)(Q:KV):Prop:=match a with
 | .ag l=>zI l i fun x=>Q x H n
 | .tup l=>iV i fun i=>oV (Yn i l.length) fun j=>oV l[j]? fun x=>dC (Us l.length 16777216) (Q x H n)
 | .az _ es=>wD es i fun x=>Q x H n
 | .ref a=>∃o,H a=some o/\(match o with
  | .list l=>zI l i fun x=>Q x H n
  | .dict es=>wD es i fun x=>Q x H n
  | .aO es=>tV i fun l=>∃is x,l=bq is/\es.lookup is=some x/\Q x H n
  | _=>False)
 | _=>False
noncomputable def gX (es:List (List Int × V))(k:List Int)(v:V):List (List Int × V):=if es.any (fun e=>e.1=k) then es.map (fun e=>if e.1=k then (e.1,v) else e) else es++[(k,v)]
noncomputable def Ly (a i v:V)(H:AH)(Q:AH->Prop):Prop:=rV a fun a=>∃o,H a=some o/\(match o with
  | .list l=>iV i fun i=>(match i with
   | .ofNat j=>dC (Us (j+1) l.length) (dC (Us l.length 1000) (Q (upd H a (.list (l.set j v)))))
   | _=>False)
  | .dict es=>kV i fun k=>dC (aR es k) (dC (Us es.length 1000) (Q (upd H a (.dict (bM es k v)))))
  | .aO es=>tV i fun l=>∃is,l=bq is/\dC (Us es.length 1000) (Q (upd H a (.aO (gX es is v))))
  | _=>False)
noncomputable def jL {α:Type}(fs:List (Str × α))(f:Str)(v:α):List (Str × α):=if fs.any (fun e=>e.1=f) then fs.map (fun e=>if e.1=f then (e.1,v) else e) else fs++[(f,v)]
noncomputable def iC:Nat->List Str
 | 2=>["octets","is_hex"]
 | 4=>["number","generation"]
 | 5=>["table","trailer"]
 | 6=>["shelf","word","faults","seen","keys"]
 | _=>[]
noncomputable def Dj (c:Nat):Bool:=c==2 || (c==4 || (c==5 || c==6))
noncomputable def jk (c:Nat)(f:Str):Bool:=Dj c&&(iC c).contains f
noncomputable def FN (a:V)(f:Str)(H:AH)(n:Nat)(Q:KV):Prop:=match a with
 | .cU c fs=>dC (jk c f) (oV (fs.lookup f) fun x=>Q x H n)
 | .ref a=>∃c dx fs,H a=some (.inst c dx fs)/\dC (jk c f) (oV (fs.lookup f) fun x=>Q x H n)
 | _=>False
noncomputable def zS (a:V)(f:Str)(v:V)(H:AH)(Q:AH->Prop):Prop:=rV a fun a=>∃c dx fs,H a=some (.inst c dx fs)/\dC (jk c f) (dC (Us fs.length 20) (Q (upd H a (.inst c dx (jL fs f v)))))
noncomputable def eV (v:V)(g:GN):Bool:=match v with
 | .bool _=>(match g with | .bi .bool=>true | .bi .int=>true | _=>false)
 | .sk k=>(match g with | .bi .int=>k.tag==0 | _=>false)
 | .ag _=>(match g with | .bi .list=>true | _=>false)
 | .az _ _=>(match g with | .bi .dict=>true | _=>false)
 | .cU c _=>(match g with | .cls c'=>c==c' | _=>false)
 | _=>false
noncomputable def I5:V->Bool
 | .sk k=>k.tag==0
 | .ag _=>true
 | .az _ _=>true
 | .cU c _=>c==2 || c==4
 | _=>false
noncomputable def tR:GN->Bool
 | .bi b=>[BN.bool,.int,.list,.dict].contains b
 | .cls c=>Wx c 5
 | _=>false
noncomputable def Ll (a:V)(g:GN)(H:AH)(n:Nat)(Q:KB):Prop:=dC (I5 a) (dC (tR g) (Q (eV a g) H n))
noncomputable def Lh (a:V)(H:AH)(K:V->AH->Prop):Prop:=match a with
 | .ref a=>∃o,H a=some o/\(match o with
  | .list l=>K (.ag l) (cB H a)
  | .dict es=>K (.az a es) (cB H a)
  | _=>False)
 | a=>K a H
noncomputable def ib (p:SK × V):V:=.tup [.sk p.1,p.2]
noncomputable def ju (l:List SK):Prop:=(∀x∈l,∀y∈l,x.tag=y.tag)/\l.length<64
noncomputable def dI (l:List SK):Prop:=l.Pairwise fun x y=>cL y x=false
noncomputable def Hk (G:aA)(a:V)(H:AH)(n:Nat)(Q:KV):Prop:=∃ps:List (SK × V),a=.ag (ps.map ib)/\ju (ps.map (·.1))/\H G.dW=some (.tab true)/\
 ∀jO:List (SK × V),jO.Perm ps->dI (jO.map (·.1))->Q (.ag (jO.map ib)) (upd H G.dW (.tab false)) n
noncomputable def P4 (v:V)(H:AH)(n:Nat)(Q:KV):Prop:=match v with
 | .tup l=>dC (Us l.length 16777216) (Q (.int l.length) H n)
 | v=>zP H v fun l=>dC (Us l.length 16777216) (Q (.int l.length) H n)
noncomputable def PN (v:V)(H:AH)(n:Nat)(Q:KV):Prop:=match v with
 | .ag l=>∃ns,l=bq ns/\(∀i∈ns,0<=i/\i<256)/\ns.length<=1000/\Q (.bytes (byteArr ns)) H n
 | v=>kV v fun k=>match k with | .bytes b=>Q (.bytes b) H n | _=>False
noncomputable def PO (v:V)(H:AH)(n:Nat)(Q:KV):Prop:=match v with
 | .ag l=>∃ps:List (SK × V),∃t,l=ps.map ib/\(∀p∈ps,p.1.tag=t)/\(ps.map (·.1)).Nodup/\ps.length<=1000/\∀x,n<=x->H x=none->Q (.az x ps) H (x+1)
 | v=>mL H v fun es=>dC (Us es.length 1000) (∀x,n<=x->H x=none->Q (.az x es) H (x+1))
noncomputable def Qc (v:V)(H:AH)(n:Nat)(Q:KV):Prop:=match v with
 | .ag l=>∃ks,l=ks.map V.sk/\ju ks/\∀jE,jE.Perm ks->dI jE->Q (.ag (jE.map V.sk)) H n
 | v=>mL H v fun es=>ju (es.map (·.1))/\∀jE,jE.Perm (es.map (·.1))->dI jE->Q (.ag (jE.map V.sk)) H n
noncomputable def BiP (b:BN)(vs:List V)(H:AH)(n:Nat)(Q:KV):Prop:=match b with
 | .len=>a1 vs fun v=>P4 v H n Q
 | .min=>a2 vs fun a b=>iV a fun a=>iV b fun b=>Q (.int (if b<a then b else a)) H n
 | .max=>a2 vs fun a b=>iV a fun a=>iV b fun b=>Q (.int (if b > a then b else a)) H n
 | .abs=>a1 vs fun a=>iV a fun a=>Q (.int (if a<0 then -a else a)) H n
 | .int=>a1 vs fun a=>iV a fun a=>Q (.int a) H n
 | .str=>a1 vs fun a=>iV a fun a=>a.natAbs.log2<1920/\Q (.str (toString a)) H n
 | .bytes=>a1 vs fun v=>PN v H n Q
 | .tuple=>a1 vs fun v=>zP H v fun l=>dC (Us l.length 16777216) (Q (.tup l) H n)
 | .dict=>a1 vs fun v=>mL H v fun es=>dC (Us es.length 1000) (∀x,n<=x->H x=none->Q (.ref x) (upd H x (.dict es)) (x+1))
 | .lE=>a1 vs fun v=>PO v H n Q
 | .sorted=>a1 vs fun v=>Qc v H n Q
 | .reversed=>a1 vs fun v=>lV v fun l=>∀x,n<=x->H x=none->Q (.ref x) (upd H x (.sE l)) (x+1)
 | _=>False
noncomputable def eN (f:Nat):Nat:=bif Wx f 48 then 5 else 6
noncomputable def PV (a:Addr)(v:V)(H:AH)(n:Nat)(Q:KV):Prop:=match v with
 | .ag m=>∃l,H a=some (.list l)/\dC (Us (l.length+m.length) 1000000) (Q .none (upd H a (.list (l++m))) n)
 | v=>rV v fun r=>∃l m,H a=some (.list l)/\H r=some (.sE m)/\dC (Us (l.length+m.length) 1000000) (Q .none (upd (cB H r) a (.list (l++m.reverse))) n)
noncomputable def PW (o:V)(vs:List V)(H:AH)(n:Nat)(Q:KV):Prop:=match vs with
 | .tup l::r=>rV o fun a=>a1 r fun x=>∃is es,l=bq is/\H a=some (.aO es)/\oD (es.lookup is) x fun v=>Q v H n
 | .sk k::r=>mL H o fun es=>dC (aR es k) (match r with
  | []=>oD (bw es k) .none fun v=>Q v H n
  | x::r=>a0 r (oD (bw es k) x fun v=>Q v H n))
 | _=>False
noncomputable def RH (f:Nat):Bool:=([43,44,45,46,47,49,50,51,52,53]:List Nat).contains f
noncomputable def wH (H:AH)(o:V)(m:MN)(K:Prop):Prop:=match m with
 | .append=>rV o fun a=>∃l,H a=some (.list l)/\K
 | .pop=>rV o fun a=>∃l,H a=some (.list l)/\K
 | .extend=>rV o fun a=>∃l,H a=some (.list l)/\K
 | .get=>(match o with
  | .az _ _=>K
  | .ref a=>∃b,H a=some b/\(match b with
   | .dict _=>K
   | .aO _=>K
   | _=>False)
  | _=>False)
 | .count=>sV o fun O=>K
 | .pk=>rV o fun a=>∃es,H a=some (.dict es)/\K
 | .fn f=>dC (RH f) (match o with
  | .cU c fs=>dC (c==eN f) (dC (fs.map (·.1)==iC (eN f)) K)
  | o=>rV o fun a=>∃dx fs,H a=some (.inst (eN f) dx fs)/\dC (fs.map (·.1)==iC (eN f)) K)
noncomputable def zK (G:aA)(d:Nat)(o:V)(m:MN)(vs:List V)(H:AH)(n:Nat)(Q:KV):Prop:=match m with
 | .append=>rV o fun a=>a1 vs fun x=>∃l,H a=some (.list l)/\dC (Us l.length 1000000) (Q .none (upd H a (.list (l++[x]))) n)
 | .pop=>rV o fun a=>a0 vs (∃l x,H a=some (.list (l++[x]))/\dC (Us l.length 1000000) (Q x (upd H a (.list l)) n))
 | .extend=>rV o fun a=>a1 vs fun v=>PV a v H n Q
 | .get=>PW o vs H n Q
 | .count=>sV o fun x=>a1 vs fun y=>sV y fun y=>Q (.int (aak x y)) H n
 | .pk=>rV o fun a=>a2 vs fun k x=>sV k fun k=>∃es,H a=some (.dict es)/\dC (aR es (.str k)) (dC (Us es.length 1000) (Q ((bw es (.str k)).getD x) (upd H a (.dict (es.filter fun p=> !decide (p.1=.str k)))) n))
 | .fn f=>aE G d f (o::vs) H n Q
noncomputable def zN (v:V)(K:Option Int->Prop):Prop:=match v with
 | .none=>K none
 | v=>iV v fun i=>K (some i)
noncomputable def C8 (im:IM)(vs:List V)(_H:AH)(K:List V->Prop):Prop:=match im with
 | .pl=>a1 vs fun v=>(match v with
  | .ag l=>K l
  | .tup l=>K l
  | .az _ es=>K (es.map fun e=>.sk e.1)
  | _=>False)
 | .jK=>(match vs with
  | [b]=>iV b fun b=>(match b with
   | .ofNat m=>dC (Us m 16777216) (K ((Un m).map fun (i:Nat)=>.int i))
   | _=>False)
  | [a,b]=>iV a fun a=>iV b fun b=>∃k m:Nat,a=k/\b=m/\k<=16777216/\m<=16777216/\K ((Un (m - k)).map fun (i:Nat)=>.int (k+i:Nat))
  | [a,b,c]=>iV a fun a=>iV b fun b=>iV c fun c=>∃m:Nat,a=0/\b=2*(m:Int)/\c=2/\m<=1000000/\K ((Un m).map fun (i:Nat)=>.int (2*i:Nat))
  | _=>False)
 | .rev=>a1 vs fun v=>lV v fun l=>K l.reverse
@[irreducible] noncomputable def ny (step:V->bt->AH->Nat->KR->Prop)(l:List V)(ρ:bt)(H:AH)(n:Nat)(Q:KR):Prop:=
 ∃I:List V->KR,I l ρ H n/\(∀x xs ρ H n,I (x::xs) ρ H n->step x ρ H n (I xs))/\∀ρ H n,I [] ρ H n->Q ρ H n
@[irreducible] noncomputable def fg (step:V->AH->Nat->KV->(AH->Nat->Prop)->Prop)(l:List V)(H:AH)(n:Nat)(Q:KL):Prop:=
 ∃I:List V->List V->AH->Nat->Prop,I [] l H n/\(∀ds x xs H n,I ds (x::xs) H n->step x H n (fun v H1 n1=>I (ds++[v]) xs H1 n1) (fun H1 n1=>I ds xs H1 n1))/\∀ds H n,I ds [] H n->Q ds H n
@[irreducible] noncomputable def O3 (step:V->AH->Nat->(SK->V->AH->Nat->Prop)->(AH->Nat->Prop)->Prop)(t:Nat)(l:List V)(H:AH)(n:Nat)(Q:List (SK × V)->AH->Nat->Prop):Prop:=
 ∃I:List (SK × V)->List V->AH->Nat->Prop,I [] l H n/\(∀es x xs H n,I es (x::xs) H n->step x H n (fun k v H1 n1=>k.tag=t/\k∉es.map (·.1)/\I (es++[(k,v)]) xs H1 n1) (fun H1 n1=>I es xs H1 n1))/\∀es H n,I es [] H n->Q es H n
noncomputable def La (ρ:bt):X->Bool
 | .var i=>(je ρ i).isNone
 | .tup xs=>xs.all fun x=>(je ρ x.vr).isNone
 | _=>false
noncomputable def I9 (ρ:bt):X->Option SK
 | .str s=>some (.str s)
 | .var i=>(je ρ i).bind fun v=>match v with | .sk k=>some k | _=>none
 | _=>none
noncomputable def xe (ρ:bt):List X->Option (List SK)
 | []=>some []
 | x::xs=>(I9 ρ x).bind fun k=>(xe ρ xs).map fun ks=>k::ks
noncomputable def Ja:List SK->Bool
 | []=>true
 | k::r=>(r.all fun j=>j.tag==k.tag)&&(!r.contains k&&Ja r)
@[irreducible] noncomputable def xX (c:bt->AH->Nat->KB->Prop)(b:bt->AH->Nat->KR->Prop)(ρ:bt)(H:AH)(n:Nat)(Q:KR):Prop:=
 ∃I:Nat->KR,∃k,I k ρ H n/\∀k ρ H n,I k ρ H n->c ρ H n fun t H1 n1=>Br t (b ρ H1 n1 fun ρ2 H2 n2=>∃m,m<k/\I m ρ2 H2 n2) (Q ρ H1 n1)
noncomputable def km:List X->List V->bt->Option bt
 | [],vs,ρ=>match vs with | []=>some ρ | _::_=>none
 | x::xs,vs,ρ=>match vs with | []=>none | v::vs=>bif x.isVar then km xs vs (ρ.set x.vr (some v)) else none
noncomputable def Dz (v:V)(H:AH)(K:List V->Prop):Prop:=match v with
 | .tup l=>K l
 | v=>zP H v K
mutual
noncomputable def WE (G:aA)(d:Nat):X->bt->AH->Nat->KV->Prop
 | .none,_,H,n,Q=>Q .none H n
 | .bool b,_,H,n,Q=>Q (.bool b) H n
 | .int i,_,H,n,Q=>Q (.int i) H n
 | .str i,_,H,n,Q=>Q (.str i) H n
 | .var i,ρ,H,n,Q=>(match je ρ i with
  | some v=>Q v H n
  | .none=>False)
 | .md i,_,H,n,Q=>Q (.int i) H n
 | .bin op a b,ρ,H,n,Q=>WE G d a ρ H n fun va H1 n1=>WE G d b ρ H1 n1 fun vb H2 n2=>Ld op va vb H2 n2 Q
 | .neg a,ρ,H,n,Q=>WE G d a ρ H n fun va H1 n1=>Lp va H1 n1 Q
 | .cmp op a b,ρ,H,n,Q=>WE G d a ρ H n fun va H1 n1=>WE G d b ρ H1 n1 fun vb H2 n2=>xZ op va vb H2 n2 Q
 | .gx .And xs,ρ,H,n,Q=>zW G d xs ρ H n Q
 | .ite c t e,ρ,H,n,Q=>WT G d c ρ H n fun b H1 n1=>Br b (WE G d t ρ H1 n1 Q) (WE G d e ρ H1 n1 Q)
 | .list xs,ρ,H,n,Q=>sC G d xs ρ H n fun vs H1 n1=>Q (.ag vs) H1 n1
 | .cR xs,ρ,H,n,Q=>sC G d xs ρ H n fun vs H1 n1=>∀a,n1<=a->H1 a=.none->Q (.ref a) (upd H1 a (.list vs)) (a+1)
 | .tup xs,ρ,H,n,Q=>sC G d xs ρ H n fun vs H1 n1=>Q (.tup vs) H1 n1
 | .dict [] _,_,H,n,Q=>∀a,n<=a->H a=.none->Q (.az a []) H (a+1)
 | .dict (k::ks) vs,ρ,H,n,Q=>oV (xe ρ (k::ks)) fun kk=>dC (Ja kk) (∀a,n<=a->H a=.none->sC G d vs ρ (upd H a (.dict [])) (a+1) fun vv H1 n1=>H1=upd H a (.dict [])/\dC (kk.length==vv.length) (Q (.az a (kk.zip vv)) H n1))
 | .jo,_,H,n,Q=>∀a,n<=a->H a=.none->Q (.ref a) (upd H a (.dict [])) (a+1)
 | .aO,_,H,n,Q=>∀a,n<=a->H a=.none->Q (.ref a) (upd H a (.aO [])) (a+1)
 | .sub a i,ρ,H,n,Q=>WE G d a ρ H n fun va H1 n1=>WE G d i ρ H1 n1 fun vi H2 n2=>Dy va vi H2 n2 Q
 | .pH a lo hi,ρ,H,n,Q=>WE G d a ρ H n fun va H1 n1=>WE G d lo ρ H1 n1 fun vl H2 n2=>WE G d hi ρ H2 n2 fun vh H3 n3=>zP H3 va fun l=>dC (Us l.length 16777216) (zN vl fun kl=>zN vh fun kh=>Q (.ag (iR l kl kh)) H3 n3)
 | .attr a f,ρ,H,n,Q=>WE G d a ρ H n fun va H1 n1=>FN va f H1 n1 Q
 | .call f xs,ρ,H,n,Q=>sC G d xs ρ H n fun vs H1 n1=>aE G d f vs H1 n1 Q
 | .new c xs,ρ,H,n,Q=>sC G d xs ρ H n fun vs H1 n1=>o9 G d c vs H1 n1 Q
 | .bi b xs,ρ,H,n,Q=>sC G d xs ρ H n fun vs H1 n1=>BiP b vs H1 n1 Q
 | .fu a g,ρ,H,n,Q=>WE G d a ρ H n fun va H1 n1=>Ll va g H1 n1 fun b H2 n2=>Q (.bool b) H2 n2
 | .lS a,ρ,H,n,Q=>WE G d a ρ H n fun va H1 n1=>Hk G va H1 n1 Q
 | .bx o m xs,ρ,H,n,Q=>WE G d o ρ H n fun vo H1 n1=>wH H1 vo m (sC G d xs ρ H1 n1 fun vs H2 n2=>zK G d vo m vs H2 n2 Q)
 | .lc k fT cC im dn ifs,ρ,H,n,Q=>sC G d dn ρ H n fun vs H1 n1=>C8 im vs H1 fun l=>∀n2,n1<=n2->(dC (La (ρ++Up k (V9:Option V)) cC) <| dC (Us l.length 16777216) <| fg (fun x H n K K2=>WA G d cC x (ρ++Up k .none) H n fun ρ1 H1 n1=>mT G d ifs ρ1 H1 n1 fun b H2 n2=>Br b (WE G d fT ρ1 H2 n2 K) (K2 H2 n2)) l H1 n2 fun vs H2 n2=>Q (.ag vs) H2 n2)
 | .dc k xk xv cC im dn ifs,ρ,H,n,Q=>∃t,sC G d dn ρ H n fun vs H1 n1=>C8 im vs H1 fun l=>∀n2,n1<=n2->(dC (La (ρ++Up k (V9:Option V)) cC) <| dC (Us l.length 16777216) <| O3 (fun x H n K K2=>WA G d cC x (ρ++Up k .none) H n fun ρ1 H1 n1=>mT G d ifs ρ1 H1 n1 fun b H2 n2=>Br b (WE G d xk ρ1 H2 n2 fun kv H3 n3=>kV kv fun kk=>kk.tag=t/\WE G d xv ρ1 H3 n3 fun v H4 n4=>K kk v H4 n4) (K2 H2 n2)) t l H1 n2 fun es H2 n3=>
   ∀D n4,n2<=D->D<n4->n3<=n4->Q (.az D es) H2 n4)
 | .mv a,ρ,H,n,Q=>WE G d a ρ H n fun va H1 n1=>Lh va H1 fun v H2=>Q v H2 n1
 | _,_,_,_,_=>False
noncomputable def WT (G:aA)(d:Nat):X->bt->AH->Nat->KB->Prop
 | .not a,ρ,H,n,Q=>WT G d a ρ H n fun b H1 n1=>Q (!b) H1 n1
 | .cmp op a b,ρ,H,n,Q=>WE G d a ρ H n fun va H1 n1=>WE G d b ρ H1 n1 fun vb H2 n2=>xZ op va vb H2 n2 fun v H3 n3=>bV v fun c=>Q c H3 n3
 | .pf a op b y6 c,ρ,H,n,Q=>WE G d a ρ H n fun va H1 n1=>WE G d b ρ H1 n1 fun vb H2 n2=>xZ op va vb H2 n2 fun v H3 n3=>bV v fun t=>
   Br t (WE G d c ρ H3 n3 fun vc H4 n4=>xZ y6 vb vc H4 n4 fun v H5 n5=>bV v fun c=>Q c H5 n5) (Q false H3 n3)
 | .gx .And xs,ρ,H,n,Q=>mT G d xs ρ H n Q
 | .gx .Or xs,ρ,H,n,Q=>Qf G d xs ρ H n Q
 | .fu a g,ρ,H,n,Q=>WE G d a ρ H n fun va H1 n1=>Ll va g H1 n1 Q
 | .call f xs,ρ,H,n,Q=>sC G d xs ρ H n fun vs H1 n1=>aE G d f vs H1 n1 fun v H2 n2=>bV v fun c=>Q c H2 n2
 | .bx o m xs,ρ,H,n,Q=>WE G d o ρ H n fun vo H1 n1=>wH H1 vo m (sC G d xs ρ H1 n1 fun vs H2 n2=>zK G d vo m vs H2 n2 fun v H2 n2=>bV v fun c=>Q c H2 n2)
 | .var i,ρ,H,n,Q=>(match je ρ i with
  | some (.bool b)=>Q b H n
  | _=>False)
 | _,_,_,_,_=>False
noncomputable def sC (G:aA)(d:Nat):List X->bt->AH->Nat->KL->Prop
 | [],_,H,n,Q=>Q [] H n
 | x::xs,ρ,H,n,Q=>WE G d x ρ H n fun v H1 n1=>sC G d xs ρ H1 n1 fun vs H2 n2=>Q (v::vs) H2 n2
noncomputable def mT (G:aA)(d:Nat):List X->bt->AH->Nat->KB->Prop
 | [],_,H,n,Q=>Q true H n
 | x::xs,ρ,H,n,Q=>WT G d x ρ H n fun b H1 n1=>Br b (mT G d xs ρ H1 n1 Q) (Q false H1 n1)
noncomputable def Qf (G:aA)(d:Nat):List X->bt->AH->Nat->KB->Prop
 | [],_,H,n,Q=>Q false H n
 | x::xs,ρ,H,n,Q=>WT G d x ρ H n fun b H1 n1=>Br b (Q true H1 n1) (Qf G d xs ρ H1 n1 Q)
noncomputable def zW (G:aA)(d:Nat):List X->bt->AH->Nat->KV->Prop
 | [],_,_,_,_=>False
 | x::xs,ρ,H,n,Q=>WE G d x ρ H n fun v H1 n1=>match xs with
  | []=>Q v H1 n1
  | _::_=>bV v fun b=>Br b (zW G d xs ρ H1 n1 Q) (Q (.bool false) H1 n1)
noncomputable def WA (G:aA)(d:Nat):X->V->bt->AH->Nat->KR->Prop
 | .var i,v,ρ,H,n,Q=>Q (ρ.set i (some v)) H n
 | .sub a i,v,ρ,H,n,Q=>WE G d a ρ H n fun va H1 n1=>WE G d i ρ H1 n1 fun vi H2 n2=>Ly va vi v H2 fun H3=>Q ρ H3 n2
 | .attr a f,v,ρ,H,n,Q=>WE G d a ρ H n fun va H1 n1=>zS va f v H1 fun H2=>Q ρ H2 n1
 | .tup xs,v,ρ,H,n,Q=>Dz v H fun vs=>oV (km xs vs ρ) fun ρ'=>Q ρ' H n
 | _,_,_,_,_,_=>False
end
noncomputable def f2P (fs:List (Str × V))(K:Str->V->Str->V->Prop):Prop:=match fs with
 | []=>False
 | p::fs=>match fs with
  | []=>False
  | q::fs=>match fs with
   | []=>K p.1 p.2 q.1 q.2
   | _::_=>False
noncomputable def OV (ρ:bt)(i:Nat)(H:AH)(K:bt->AH->Prop):Prop:=∃a o,je ρ i=some (.ref a)/\H a=some o/\(match o with
  | .list l=>K (ρ.set i (some (.ag l))) (cB H a)
  | .dict es=>K (ρ.set i (some (.az a es))) (cB H a)
  | .inst c dx fs=>f2P fs fun f1 v1 f2 v2=>rV v1 fun t=>rV v2 fun r=>∃es er,H t=some (.dict es)/\H r=some (.dict er)/\t≠r/\K (ρ.set i (some (.cU c [(f1,.az t es),(f2,.az r er)]))) (cB (cB (cB (cB H a) dx) t) r)
  | _=>False)
mutual
noncomputable def WS (G:aA)(d:Nat):St->bt->AH->Nat->KR->KV->Prop
 | .asg t e,ρ,H,n,Q,_=>WE G d e ρ H n fun v H1 n1=>WA G d t v ρ H1 n1 Q
 | .pe i k fT cC im dn ifs,ρ,H,n,Q,_=>sC G d dn ρ H n fun vs H1 n1=>C8 im vs H1 fun l=>∀n2,n1<=n2->(dC (La (ρ++Up k (V9:Option V)) cC) <| dC (Us l.length 16777216) <| fg (fun x H n K K2=>WA G d cC x (ρ++Up k none) H n fun ρ1 H1 n1=>mT G d ifs ρ1 H1 n1 fun b H2 n2=>Br b (WE G d fT ρ1 H2 n2 K) (K2 H2 n2)) l H1 n2 fun vs H2 n2=>Q (ρ.set i (some (.ag vs))) H2 n2)
 | .ex e,ρ,H,n,Q,_=>WE G d e ρ H n fun O H1 n1=>Q ρ H1 n1
 | .ite c t e,ρ,H,n,Q,R=>WT G d c ρ H n fun b H1 n1=>Br b (kN G d t ρ H1 n1 Q R) (kN G d e ρ H1 n1 Q R)
 | .wh c b,ρ,H,n,Q,R=>xX (fun ρ H n K=>WT G d c ρ H n K) (fun ρ H n K=>kN G d b ρ H n K R) ρ H n Q
 | .fr t im dn b,ρ,H,n,Q,R=>sC G d dn ρ H n fun vs H1 n1=>C8 im vs H1 fun l=>∀n2,n1<=n2->ny (fun x ρ H n K=>WA G d t x ρ H n fun ρ1 H1 n1=>kN G d b ρ1 H1 n1 K R) l ρ H1 n2 Q
 | .ret e,ρ,H,n,_,R=>WE G d e ρ H n R
 | .pG,_,H,n,_,R=>R .none H n
 | .Ko b,ρ,H,n,Q,R=>kN G d b ρ H n Q R
 | .fN i,ρ,H,n,Q,_=>OV ρ i H fun ρ' H'=>Q ρ' H' n
 | .bad,_,_,_,_,_=>False
 | .dG,_,_,_,_,_=>False
noncomputable def kN (G:aA)(d:Nat):List St->bt->AH->Nat->KR->KV->Prop
 | [],ρ,H,n,Q,_=>Q ρ H n
 | x::xs,ρ,H,n,Q,R=>WS G d x ρ H n (fun ρ1 H1 n1=>kN G d xs ρ1 H1 n1 Q R) R
end
section
variable {G:aA}{σ:cw}{d:Nat}{ρ:bt}{H:AH}{n:Nat}{Q:KV}{h:Heap}{P:Addr->Prop}
theorem nQ:∀{is:List Int} {aD:List Value},au G h P (bq is) aD->ItemsAre (XQ G.prog G.w) is aD
 | [],_,r=>by refine ab (show _=[] from r) ?_;exact .nil
 | i::is,_,r=>by
  refine cy r fun v r' h1 h2=>?_;obtain ⟨t,rfl⟩:=SK.aG h1;exact .cons (by simp [XQ,Value.isInt]) (nQ h2)
theorem i6 {is:List Int}{v:Value}(r:aC G h P (.tup (bq is)) v):∃a,v=.ref a/\Yd (XQ G.prog G.w) h is a/\(P a\/∃o,G.h0.get? a=some o):=by
 obtain ⟨a,aj,rfl,hp,⟨o,ho,hc,m,hd⟩,r⟩:=r;exact (bW a rfl (o8 o _ m ho hc hd (by simpa using nQ r)) hp)
theorem oK {k:List Int}:∀{es:List (List Int × V)} {xs:List (List Int × Addr × Value)},cb G h P es xs->(match es.lookup k with | none=>atKey xs k=none | some x=>∃a v,atKey xs k=some (a,v)/\aC G h P x v):=by
 intro es
 induction es with
 | nil=>
 exact fun {O} r=>by refine ab (show _=[] from r) ?_;rfl
 | cons rU es ih=>
 obtain ⟨k',x⟩:=rU;exact fun {O} r=>by
  refine mN r fun a v r' iq h1 h2=>?_;subst iq;have ih:=ih h2;refine ab Ue ?_
  by_cases e:k'=k
  ·subst e;refine ab (beq_self_eq_true ..) ?_;exact (cg a v (by simp [atKey]) h1)
  ·have:(k==k')=false:=by simpa using fun q=>e q.symm
   refine ab this ?_;have e2:atKey ((k',a,v)::r') k=atKey r' k:=by simp [atKey,e]
   refine ab e2 ?_;exact ih
theorem oL {k:List Int}{es:List (List Int × V)}{xs:List (List Int × Addr × Value)}(r:cb G h P es xs):(atKey xs k).isSome=(es.lookup k).isSome:=by
 have:=oK (k:=k) r
 cases e:es.lookup k with
 | none=>rw [e] at this;refine ab (show atKey xs k=none from this) ?_;rfl
 | some x=>rw [e] at this;refine dg this fun a v q O=>?_;refine ab q ?_;rfl
theorem qI {k:List Int}:∀{es:List (List Int × V)},(es.any fun e=>e.1=k)=(es.lookup k).isSome
 | []=>rfl
 | (k',x)::es=>by
  refine ab U6 (ab Ue (ab (qI (es:=es)) ?_))
  by_cases e:k'=k
  ·subst e;simp
  ·have:(k==k')=false:=by simpa using fun q=>e q.symm
   refine ab this ?_;simp [e]
theorem zo {k:List Int}{x:V}{v:Value}(q:aC G h P x v):∀{es:List (List Int × V)} {xs:List (List Int × Addr × Value)},cb G h P es xs->cb G h P (es.map fun e=>if e.1=k then (e.1,x) else e) (xs.map (putAt k v)):=by
 intro es
 induction es with
 | nil=>
 exact fun {O} r=>by refine ab (show _=[] from r) ?_;rfl
 | cons rU es ih=>
 obtain ⟨k',y⟩:=rU;exact fun {O} r=>by
  refine mN r fun a u r' jI h1 h2=>?_;subst jI;have ih:=ih h2;simp only [UJ,putAt]
  by_cases e:k'=k
  ·simp only [e,if_true];exact (lW a v _ rfl q ih)
  ·simp only [e,if_false];exact (lW a u _ rfl h1 ih)
theorem ku:∀{es:List (List Int × V)} {xs:List (List Int × Addr × Value)} {es':List (List Int × V)} {pL:List (List Int × Addr × Value)},cb G h P es xs->cb G h P es' pL->cb G h P (es++es') (xs++pL)
 | [],_,_,_,r,q=>by refine ab (show _=[] from r) ?_;exact q
 | (k,x)::es,_,_,_,r,q=>by
  refine mN r fun a v r' pF h1 h2=>?_;subst pF;exact (lW a v _ rfl h1 (ku h2 q))
theorem sg {k:List Int}{x:V}{v:Value}{a:Addr}{es:List (List Int × V)}{xs:List (List Int × Addr × Value)}(r:cb G h P es xs)(q:aC G h P x v):cb G h P (gX es k x) (storedH xs k a v):=by
 unfold gX storedH;refine ab qI (ab (oL r) ?_);split
 ·exact zo q r
 ·exact ku r (lW a v [] rfl q rfl)
theorem qJ:∀{es:List (List Int × V)} {xs:List (List Int × Addr × Value)},cb G h P es xs->xs.length=es.length
 | [],_,r=>by refine ab (show _=[] from r) ?_;rfl
 | (k,x)::es,_,r=>by refine mN r fun a v r' lu h1 h2=>?_;subst lu;exact ab TS (ab TS (ab (qJ h2) rfl))
theorem cH.u1 {A:Xv}(hr:cH d A):A.in1.units<cLine:=by
 have:=hr.units;show A.units+1<cLine;exact aH (bC A.units d cLine) [(1,.add (.add (.add aq (.mulL 40 aw)) (.num 200)) ay,aN)] (.add (.add aq ay) ay) aN rfl this
theorem ba.aO {s:Xm}{a:Addr}{es:List (List Int × V)}(R:ba G H n s)(ok:eu G)(h:H a=some (.aO es)):(a==Yc)=false/\∃xs,jR G s.heap a xs/\(∀x∈xs,Pf G H x.2.1\/∃o,G.h0.get? x.2.1=some o)/\cb G s.heap (Pf G H) es xs:=
 ⟨ow ok (R.lo a (by refine ab h ?_;simp)).1,R.objs _ _ h⟩
theorem Oc {a:Addr}{is:List Int}{es:List (List Int × V)}(ok:eu G)(h:H a=some (.aO es))(q:Q (.bool (es.lookup is).isSome) H n):oU G d .In (.tup (bq is)) (.ref a) H n Q:=cj.two fun A s va vb Q' E hr ra rb R po=>by
 refine ab (show vb=.ref a from rb) ?_;refine bE (i6 ra) fun k vZ hk O=>?_;subst vZ;obtain ⟨hs,bN⟩:=R.aO ok h;refine bE bN fun xs hd O ht=>?_;refine wpAny_in_heap (knd:=YT (XQ G.prog G.w)) hr.u1 hk hs hd ?_;refine ab (oL ht) ?_;exact po.bool R q
theorem Fd {a:Addr}{is:List Int}{es:List (List Int × V)}{x:V}(ok:eu G)(h:H a=some (.aO es))(hx:es.lookup is=some x)(q:Q x H n):sG G d (.ref a) (.tup (bq is)) H n Q:=by
 intro A s va vi Q' E hr ra ri R po;refine ab (show va=.ref a from ra) ?_;refine Du (i6 ri) fun k hk O=>?_;obtain ⟨hs,bN⟩:=R.aO ok h;refine bE bN fun xs hd O ht=>?_;have:=oK (k:=is) ht;rw [hx] at this;refine dg this fun b v hb rv=>?_;exact ⟨cg ("dict") _ (YK hd) PySem.F.slot_dict_getitem.lookup,wpAny_getItem_heap (knd:=YT (XQ G.prog G.w)) hr.u1 hk hd hb (po _ _ _ _ _ q rv R.toks (.refl _ _) (TJ _))⟩
theorem Fg {a:Addr}{is:List Int}{es:List (List Int × V)}{x:V}{Q:AH->Nat->Prop}(ok:eu G)(h:H a=some (.aO es))(hz:es.length<=1000)(q:Q (upd H a (.aO (gX es is x))) n):zT G d (.ref a) (.tup (bq is)) x H n Q:=by
 intro A s aD Q' E hr r R po;obtain ⟨va,r',rfl,ra,r⟩:=r.cons_inv;obtain ⟨vk,r',rfl,rk,r⟩:=r.cons_inv;obtain ⟨vx,r',rfl,rx,r⟩:=r.cons_inv;refine ab r.nil_inv (ab (show va=.ref a from ra) ?_);refine Du (i6 rk) fun k hk Bf=>?_;obtain ⟨hs,bN⟩:=R.aO ok h;refine bE bN fun xs hd hp ht=>?_;have hl:=qJ ht;refine wpAny_setItem_heap (knd:=YT (XQ G.prog G.w)) hr.u1 hk hd (fun h' vw sD=>?_) (by refine ab Xw ?_;exact aH (bc es.length xs.length) [(1,aq,.num 1000),(1,aw,aq)] aw (.num 16777216) rfl hz (TL hl));have aJ:∀b,Pf G H b->b≠a:=fun b hb e=>by rw [e] at hb;rw [hb.1] at h;injection h
 have Po:∀y∈storedH xs is k vx,Pf G (upd H a (.aO (gX es is x))) y.2.1\/∃o,G.h0.get? y.2.1=some o:=fun y hy=>by
  have GD:∀b,Pf G H b->Pf G (upd H a (.aO (gX es is x))) b:=fun b hb=>⟨(ak (aJ b hb)).trans hb.1,hb.2⟩;rcases mem_storedH hy with ⟨z,hz,_,e⟩ | ⟨_,e⟩
  ·refine ab e ?_;exact (hp z hz).imp (GD _) id
  ·refine ab e ?_;exact Bf.imp (GD _) id
 obtain ⟨R2,S2⟩:=R.turn (tk:=s.toks+(YT (XQ G.prog G.w)).draws is) (o:=.aO (gX es is x)) sD (by refine ab h ?_;simp) (by refine ab h ?_;simp) fun K=>(bW _ vw Po (sg (cb.kept K ht) (aC.kept K _ rx)));exact po _ _ _ q R2 S2 (TJ _)
theorem Jd {a:Addr}{es:List (List Int × V)}(ok:eu G)(h:H a=some (.aO es)):eK G (.ref a) "get" H (.builtin "dict.get"):=
 ⟨ew _,fun A E n s ov pl Q' r R q=>by
  refine ab (show ov=.ref a from r) ?_;rw [show ov=.ref a from r] at q;obtain ⟨hs,bN⟩:=R.aO ok h;refine bE bN fun xs hd O ht=>?_;exact Ys (YK hd) PySem.F.plainAttrs_dict PySem.F.slot_dict_get PySem.F.type_dict_get (dictOfH_noDict hd) q⟩
theorem Hy {a:Addr}{is:List Int}{es:List (List Int × V)}{x:V}(ok:eu G)(h:H a=some (.aO es))(q:Q ((es.lookup is).getD x) H n):aW G d (.builtin "dict.get") [.ref a,.tup (bq is),x] H n Q:=by
 intro A s aD Q' E hr r R po;obtain ⟨va,r',rfl,ra,r⟩:=r.cons_inv;obtain ⟨vk,r',rfl,rk,r⟩:=r.cons_inv;obtain ⟨vx,r',rfl,rx,r⟩:=r.cons_inv;refine ab r.nil_inv (ab (show va=.ref a from ra) ?_);refine bE (i6 rk) fun k lr hk Bf=>?_;subst lr;obtain ⟨hs,bN⟩:=R.aO ok h;refine bE bN fun xs hd hp ht=>?_;refine YE PySem.F.slot_dict_get (YK hd) PySem.F.entry_dict_get (PySem.F.args_dict_get_3 _ _ _) (meetsH_dict_get_default (YT (XQ G.prog G.w)) a k hs vx) ⟨hr.u1,bA is xs hk hd ?_⟩;have:=oK (k:=is) ht
 cases e:es.lookup is with
 | none=>
  rw [e] at this q;refine ab (show atKey xs is=none from this) ?_;exact po _ _ _ _ _ q rx R.toks (.refl _ _) (TJ _)
 | some y=>
  rw [e] at this q;refine dg this fun b v hb rv=>?_;refine ab hb ?_;exact po _ _ _ _ _ q rv R.toks (.refl _ _) (TJ _)
theorem DY (h:∀a,n<=a->H a=none->Q (.ref a) (upd H a (.aO [])) (a+1)):bl G σ d .aO ρ H n Q:=by
 intro e env A s Q' E ht he hr F R po;refine yP ht fun p=>?_;refine Ze ?_;obtain ⟨R2,S2⟩:=R.alloc {cls:=.type "dict",data:=.dict #[]} (.aO []) (tk:=s.toks) rfl fun K=>(bW [] (Heap.DictOfH.new _) (fun x hx=>(nomatch hx)) rfl);exact po _ _ _ _ _ (h _ R.size (R.aY (TJ _)).1) rfl R2 S2 (TY R.size)
theorem CV {prog w Oq w'}{h:Heap}{ks:List Int}{a:Addr}(x:Yd (XQ prog w) h ks a):Yd (XQ Oq w') h ks a:=by
 obtain ⟨o,aj,n,h1,h2,h3,h4⟩:=x;refine (o8 o aj n h1 h2 h3 ?_);clear h3
 generalize aj.toList=l at h4
 induction h4 with
 | nil=>exact .nil
 | cons h _ ih=>exact .cons h ih
theorem Fe {is:List Int}{ms:List (List Int)}(q:Q (.bool (ms.any fun k=>decide (k=is))) H n):oU G d .In (.tup (bq is)) (.tup (ms.map fun k=>.tup (bq k))) H n Q:=cj.two fun A s va vb Q' E hr ra rb R po=>by
 refine fL rb fun a aj O hl rv=>?_;refine Du (i6 ra) fun k hk O=>?_;have hu:=hr.units
 classical
 have key:∀(ms:List (List Int)) (aj:List Value),au G s.heap (Pf G H) (ms.map fun k=>.tup (bq k)) aj->
   (∀v∈aj,EqAt A.in1 s v (.ref k) (decide (∃b,v=.ref b/\Yd (XQ G.prog G.w) s.heap is b)))/\aj.any (fun v=>decide (∃b,v=.ref b/\Yd (XQ G.prog G.w) s.heap is b))=ms.any fun k=>decide (k=is):=by
  intro ms
  induction ms with
  | nil=>intro aj r;refine ab (show aj=[] from r) ?_;exact ⟨fun v hv=>(nomatch hv),rfl⟩
  | cons m ms ih=>
   intro aj r;refine cy r fun v r' h1 h2=>?_;obtain ⟨i1,i2⟩:=ih r' h2;refine Du (i6 h1) fun b hb O=>?_;have e:decide (∃c,X0 b=.ref c/\Yd (XQ G.prog G.w) s.heap is c)=decide (m=is):=by
    by_cases q:m=is
    ·subst q;exact ab (decide_eq_true ((ai b rfl hb):∃c,X0 b=.ref c/\_)) (ab (decide_eq_true rfl) rfl)
    ·rw [decide_eq_false q,decide_eq_false];rintro ⟨c,e,hc⟩
     (injection e with e;subst e)
     exact q (hb.inj hc)
   refine ⟨fun v hv=>?_,by exact ab U6 (ab U6 (ab i2 (ab e rfl)))⟩;rcases TN.mp hv with rfl | hv
   ·refine ab e ?_;intro prog w E Q q;exact wpAny_eqBool_tuple (knd:=XQ prog w) (by show A.units+1<_;exact aH (bC A.units d cLine) [(1,.add (.add (.add aq (.mulL 40 aw)) (.num 200)) ay,aN)] (.add (.add aq ay) ay) aN rfl hu) (CV hb) (CV hk) q
   ·exact i1 v hv
 obtain ⟨h1,h2⟩:=key ms aj rv;refine in_tupleAt _ (bX hl) (fun y hy=>h1 y (by simpa using hy)) ?_;refine ab (show aj.toArray.any (fun v=>decide (∃b,v=.ref b/\Yd (XQ G.prog G.w) s.heap is b))=aj.any (fun v=>decide (∃b,v=.ref b/\Yd (XQ G.prog G.w) s.heap is b)) by simp) (ab h2 ?_);exact po.bool (tk:=s.toks) R q
theorem Oi {v w:V}{es:List (SK × V)}(ok:eu G)(h:cO H v es)(hw:cO H w [])(q:Q (.bool (!es.isEmpty)) H n):oU G d .NotEq v w H n Q:=cj.two fun A s va vb Q' E hr ra rb R po=>by
 refine fL (h.at ok R ra) fun a ka hs CP rv=>?_;obtain ⟨t,da⟩:=CP;refine fL (hw.at ok R rb) fun b kb Nt db SU=>?_;have El:kb=[]:=SU;subst El;have db:=gI (t:=t) db fun p hp=>nomatch hp;have hu:=hr.units;have hl:=rv.length;refine keq_ne (r:=true) hs Nt da db (aH (bC A.units d cLine) [(1,.add (.add (.add aq (.mulL 40 aw)) (.num 200)) ay,aN)] (.add aq ay) aN rfl hu) (fun e=>?_) ?_
 ·have:ka=[]:=U5.mp e;refine ab this ?_;exact .nil
 ·have e:(!(ka.length==([]:List (SK × Value)).length&&true))= !es.isEmpty:=by
   refine ab (Bool.and_true ..) (ab (hl ..) ?_);cases es <;> rfl
  refine ab e ?_;exact po.bool (tk:=s.toks) R q
end
section
open Builtin Builtin.ObjectAttr
structure jf (G:aA)(c ru:Nat):Prop where
 makes:makesIn G.K (G.ca c)=true
 init:X8 G.K (.ref (G.ca c)) "__init__"=some (some (.ref (G.fa ru)))
 GI:typeIn G.K (.ref (G.fa ru))=some (.type "function")
 HX:X8 G.K (.ref (G.ca c)) "__getattribute__"=some (some (.builtin "object.__getattribute__"))
 getattr:X8 G.K (.ref (G.ca c)) "__getattr__"=some none
 OB:X8 G.K (.ref (G.ca c)) "__setattr__"=some (some (.builtin "object.__setattr__"))
 over:plainOver G.K (G.ca c)=true
 Ih:(clsIn G.K (G.ca c)).any (·.hasDict)=true
 HU:∀f,jk c f=true->X8 G.K (.ref (G.ca c)) f=some none
structure FU (G:aA)(f:Nat):Prop where
 find:X8 G.K (.ref (G.ca (eN f))) (MN.fn f).str=some (some (.ref (G.fa f)))
 isF:typeIn G.K (.ref (G.fa f))=some (.type "function")
 keep:Looks (model G.prog G.w) G.h0 (XO (.ref (G.fa f))) .frame
 B5:jk (eN f) (MN.fn f).str=false
section
variable {G:aA}{σ:cw}{d:Nat}{ρ:bt}{H:AH}{n:Nat}{Q:KV}{h:Heap}{P:Addr->Prop}
theorem ba.rd {s:Xm}(R:ba G H n s)(ok:eu G):G.K.In s.heap:=fun a o e=>R.glob a o (ok.rd a o e)
theorem gY {f:Str}:∀{fs:List (Str × V)} {dp:List (Str × Value)},hG G h P fs dp->(match fs.lookup f with | none=>dp.lookup f=none | some x=>∃v,dp.lookup f=some v/\aC G h P x v)
 | [],_,r=>by refine ab (show _=[] from r) ?_;rfl
 | (k,x)::fs,_,r=>by
  refine cy r fun v r' h1 h2=>?_;have ih:=gY (f:=f) h2;refine ab Ue (ab Ue ?_)
  cases e:f==k with
  | true=>exact (ai v rfl h1)
  | false=>exact ih
theorem xV {f:Str}:∀{fs:List (Str × V)} {dp:List (Str × Value)},hG G h P fs dp->(dp.any fun e=>e.1=f)=fs.any fun e=>e.1=f
 | [],_,r=>by refine ab (show _=[] from r) ?_;rfl
 | (k,x)::fs,_,r=>by
  refine cy r fun v r' h1 h2=>?_;simp only [U6,xV h2]
theorem xW:∀{fs:List (Str × V)} {dp:List (Str × Value)},hG G h P fs dp->dp.length=fs.length
 | [],_,r=>by refine ab (show _=[] from r) ?_;rfl
 | (k,x)::fs,_,r=>by
  refine cy r fun v r' h1 h2=>?_;exact ab TS (ab TS (ab (xW h2) rfl))
theorem FJ {f:Str}{x:V}{v:Value}(q:aC G h P x v):∀{fs:List (Str × V)} {dp:List (Str × Value)},hG G h P fs dp->hG G h P (fs.map fun e=>if e.1=f then (e.1,x) else e) (dp.map fun e=>if e.1=f then (e.1,v) else e):=by
 intro fs
 induction fs with
 | nil=>
 exact fun {O} r=>by refine ab (show _=[] from r) ?_;rfl
 | cons rU fs ih=>
 obtain ⟨k,y⟩:=rU;exact fun {O} r=>by
  refine cy r fun u r' h1 h2=>?_;have ih:=ih h2;simp only [UJ]
  by_cases e:k=f
  ·simp only [e,if_true];exact (bA v _ rfl q ih)
  ·simp only [e,if_false];exact (bA u _ rfl h1 ih)
theorem oS:∀{fs gs:List (Str × V)} {dp gvs:List (Str × Value)},hG G h P fs dp->hG G h P gs gvs->hG G h P (fs++gs) (dp++gvs)
 | [],_,_,_,r,q=>by refine ab (show _=[] from r) ?_;exact q
 | (k,x)::fs,_,_,_,r,q=>by
  refine cy r fun v r' h1 h2=>?_;exact (bA v _ rfl h1 (oS h2 q))
theorem FK {f:Str}{x:V}{v:Value}{fs:List (Str × V)}{dp:List (Str × Value)}(r:hG G h P fs dp)(q:aC G h P x v):hG G h P (jL fs f x) (jL dp f v):=by
 unfold jL;refine ab (xV r) ?_;split
 ·exact FJ q r
 ·exact oS r (bA v [] rfl q rfl)
theorem ux {α:Type}{f x:Str}{v:α}(fs:List (Str × α)):(jL fs f v).lookup x=if x=f then some v else fs.lookup x:=by
 have h1:∀fs:List (Str × α),(fs.map fun e=>if e.1=f then (e.1,v) else e).lookup x=if x=f/\(fs.any fun e=>e.1=f)=true then some v else fs.lookup x:=by
  intro fs
  induction fs with
  | nil=>simp
  | cons p fs ih=>
   obtain ⟨k,y⟩:=p;refine ab UJ ?_
   by_cases e:k=f
   ·subst e;refine ab (if_pos rfl) (ab Ue (ab ih (ab Ue ?_)))
    by_cases e2:x=k
    ·subst e2;simp
    ·have:(x==k)=false:=by simpa using e2
     refine ab this ?_;simp [e2]
   ·refine ab (if_neg e) (ab Ue (ab ih (ab Ue ?_)))
    cases e2:x==k with
    | true=>
     have:x≠f:=fun q=>e (by refine bk q ?_;exact (eq_of_beq e2).symm);simp [this]
    | false=>
     have:((k,y)::fs).any (fun e=>decide (e.1=f))=fs.any fun e=>decide (e.1=f):=by exact ab (U6 ..) (ab (decide_eq_false e ..) (ab (VX ..) rfl))
     exact ab this rfl
 have h2:∀fs:List (Str × α),(fs.any fun e=>e.1=f)=false->(fs++[(f,v)]).lookup x=if x=f then some v else fs.lookup x:=by
  intro fs
  induction fs with
  | nil=>
   intro _;refine ab (WG ..) (ab (Ue ..) ?_)
   by_cases e2:x=f
   ·subst e2;simp
   ·have:(x==f)=false:=by simpa using e2
    refine ab this ?_;simp [e2]
  | cons p fs ih=>
   intro hn;obtain ⟨k,y⟩:=p;rw [U6,Vw] at hn;refine ab List.cons_append (ab Ue (ab (ih hn.2) (ab Ue ?_)))
   cases e2:x==k with
   | true=>
    have e1:k≠f:=by simpa using hn.1
    have:x≠f:=fun q=>e1 (by refine bk q ?_;exact (eq_of_beq e2).symm);simp [this]
   | false=>rfl
 unfold jL
 cases hc:fs.any (fun e=>e.1=f) with
 | true=>refine ab (if_pos rfl ..) (ab (h1 ..) ?_);simp only [hc,and_true]
 | false=>refine ab (if_neg T4) ?_;exact h2 fs hc
theorem uw {α:Type}{f:Str}{v:α}(fs:List (Str × α)):(jL fs f v).length=if (fs.lookup f).isSome then fs.length else fs.length+1:=by
 have:(fs.any fun e=>e.1=f)=(fs.lookup f).isSome:=by
  induction fs with
  | nil=>rfl
  | cons p fs ih=>
   obtain ⟨k,y⟩:=p;refine ab U6 (ab Ue (ab ih ?_))
   by_cases e:k=f
   ·subst e;simp
   ·have e2:(f==k)=false:=by simpa using fun q=>e q.symm
    refine ab e2 ?_;simp [e]
 unfold jL;refine ab this ?_
 split <;> simp
theorem v5 {x:V}{v:Value}(r:aC G h P x v):handedIn v=true:=by
 cases x with
 | none=>refine ab (show v=.none from r) ?_;rfl
 | bool b=>refine ab (show v=.bool b from r) ?_;rfl
 | sk k=>cases k <;> cases v <;> first | rfl | exact absurd r T4
 | tup l=>refine x6 r fun a O O=>?_;rfl
 | ag l=>refine x6 r fun a O O=>?_;rfl
 | az a l=>obtain ⟨rfl,_⟩:=r;rfl
 | cU c l=>refine o5 r fun a O O O CA O=>?_;subst CA;rfl
 | ref a=>refine ab (show v=.ref a from r) ?_;rfl
noncomputable def Ds (H:AH)(v:V)(c:Nat)(fs:List (Str × V)):Prop:=v=.cU c fs\/∃a dx,v=.ref a/\H a=some (.inst c dx fs)
theorem Ds.at {s:Xm}{v:V}{v':Value}{c:Nat}{fs:List (Str × V)}(x:Ds H v c fs)(R:ba G H n s)(r:aC G s.heap (Pf G H) v v'):
 ∃a dx dp od,v'=.ref a/\InstAt s.heap a (YM (G.ca c) dx) (G.ca c) (some od)/\s.heap.get? dx=some od/\(∀x,Yk x od=some (dp.lookup x))/\hG G s.heap (Pf G H) fs dp:=by
 rcases x with rfl | ⟨a,dx,rfl,ha⟩
 ·refine zF r fun a dx dp od e O O h1 h2 h3 h4=>?_;exact (Dr a dx dp od e ⟨h1,rfl,rfl,h2⟩ h2 h3 h4)
 ·refine qS (R.objs _ _ ha) fun dp od es k O h1 h2 O O O h3 h4=>?_;exact (Dr a dx dp od r ⟨h1,rfl,rfl,h2⟩ h2 h3 h4)
noncomputable def Hb (G:aA)(d:Nat)(a:V)(f:Str)(H:AH)(n:Nat)(Q:KV):Prop:=cj G d [a] (t1 fun v=>getAttr v f true) H n Q
theorem HK {a:X}{f:Str}(h:bl G σ d a ρ H n fun va H1 n1=>Hb G d va f H1 n1 Q):bl G σ d (.attr a f) ρ H n Q:=by
 intro e env A s Q' E ht he hr F R po;refine nR ht fun ea p hb ta=>?_;have key:wpAny (model G.prog G.w) A (eval ea env) (fun o s₁=>wpAny (model G.prog G.w) A (getAttr o f true) Q' E s₁) E s:=
  h _ _ _ _ _ _ ta he hr F R fun va H1 n1 kI s1 h1 ra R1 S1 l1=>h1 A s1 [kI] Q' E hr (au.one ra) R1 fun v H3 n3 v' s3 q r R3 S3 l3=>po v H3 n3 v' s3 q r R3 (S1.trans S3) (TF l1 l3)
 refine Attribute_any_ key ?_
 cases ea <;> first | exact absurd hb T4 | with_unfolding_all rfl
theorem vg {c ru:Nat}{f:Str}{od:Obj}{v:Value}(C:jf G c ru)(hf:jk c f=true)(hl:Yk f od=some (some v)):findObj G.K (G.ca c) (some od) f=some (.value v):=by
 refine ah (ZW C.Ih) fun cd yA hd=>?_;unfold findObj;refine ab (yA ..) (ab (Option.bind_some ..) (ab (C.HU f hf ..) (ab (Option.bind_some ..) ?_)));show (PySem.W.ownOf cd (some od) f).bind _=_;unfold PySem.W.ownOf;refine ab hd (ab (if_pos rfl) ?_);dsimp only;refine ab hl ?_;rfl
theorem Cs {a:V}{c ru:Nat}{fs:List (Str × V)}{f:Str}{x:V}(ok:eu G)(C:jf G c ru)(ha:Ds H a c fs)(hf:jk c f=true)(hx:fs.lookup f=some x)(q:Q x H n):Hb G d a f H n Q:=cj.one fun A s va Q' E hr ra R po=>by
 refine Lg (ha.at R ra) fun b dx dp od lr I O hl hv=>?_;subst lr;have:=gY (f:=f) hv;rw [hx] at this;refine ah this fun v hv rv=>?_;exact get_value (R.rd ok) I C.HX (vg C hf ((hl f).trans (congrArg some hv))) (v5 rv) (po _ _ _ _ _ q rv R.toks (.refl _ _) (TJ _))
theorem GP {o:V}{f ru:Nat}{fs:List (Str × V)}(ok:eu G)(C:jf G (eN f) ru)(M:FU G f)(ho:Ds H o (eN f) fs)(hfs:fs.lookup (MN.fn f).str=none):eK G o (MN.fn f).str H (.ref (G.fa f)):=
 ⟨ai .frame (.inl rfl) M.keep,fun A E n s ov pl Q' r R q=>by
  refine Lg (ho.at R r) fun b dx dp od oB I QX hl hv=>?_;subst oB;have Ni:Yk (MN.fn f).str od=some none:=by
   have:=gY (f:=(MN.fn f).str) hv;rw [hfs] at this;exact ab (hl ..) (ab (show dp.lookup (MN.fn f).str=none from this ..) rfl)
  have X:=R.rd ok;have L1:Looks (model G.prog G.w) s.heap (aal (.ref b) "__getattribute__") (some (.builtin "object.__getattribute__")):=I.type.andThen (Zk X C.HX);have L2:Looks (model G.prog G.w) s.heap (aal (.ref b) "__getattr__") none:=I.type.andThen (Zk X C.getattr);have L3:Looks (model G.prog G.w) s.heap (aal (.ref b) (MN.fn f).str) (some (.ref (G.fa f))):=I.type.andThen (Zk X M.find);have L4:=looks_typeIn (M:=model G.prog G.w) X M.isF;have hx:=I.at_;unfold getMethod;refine Xl (L1.here ?_);dsimp only;have QS:(Manifest.canonical "object.__getattribute__" != "object.__getattribute__")=false:=by kernel_rfl
  refine ab QS ?_;refine Xl (L2.here ?_);refine Xl (L3.here ?_);refine Xl (L4.here ?_);have ht:(XK "function" != XK "function"&&XK "function" != XK "method_descriptor"&&XK "function" != XK "wrapper_descriptor")=false:=by decide
  refine ab ht ?_;refine Xl (YQ hx ?_);refine Xl ?_;have mf:wpAny (model G.prog G.w) A (nsGet dx (MN.fn f).str) (fun r s'=>r=none/\s'=s) E s:=by
   unfold nsGet;refine Xl (YQ QX ?_);refine ab (nsLook_of Ni) ?_;exact Xn ⟨rfl,rfl⟩
  refine XC mf (fun r s' z=>?_) fun O O z=>z;obtain ⟨rfl,rfl⟩:=z;exact Xl (YB (Xn q))⟩
noncomputable abbrev Dk (f:Str)(v:Value)(x:XE)(l:List XE):List XE:=putIn (fun e:XE=>e.key.isStr f) (fun e=>{e with val:=v}) x l
theorem mH {f:Str}{v:Value}{x e:XE}{l:List XE}(h:e.key.isStr f=true):Dk f v x (e::l)={e with val:=v}::l:=putIn_hit (fun e:XE=>e.key.isStr f) _ _ _ _ h
theorem ke {f:Str}{v:Value}{x e:XE}{l:List XE}(h:e.key.isStr f=false):Dk f v x (e::l)=e::Dk f v x l:=putIn_miss (fun e:XE=>e.key.isStr f) _ _ _ _ h
theorem Bz {v:Value}{f x:Str}(h:v.isStr f=true)(q:x≠f):v.isStr x=false:=by
 cases v <;> first
  | exact absurd h T4
  | (have e:=eq_of_beq (α:=Str) h;subst e;exact beq_eq_false_iff_ne.mpr fun z=>q z.symm)
theorem ug {f:Str}{v:Value}{hh:Int}{tk:Tok}:∀(l:List XE),∃e,(Dk f v ⟨hh,.str f tk,v⟩ l).find? (fun e=>e.key.isStr f)=some e/\e.val=v
 | []=>(ai ⟨hh,.str f tk,v⟩ (by show ([⟨hh,.str f tk,v⟩]:List XE).find? _=_;refine ab Vp (ab (show (Value.str f tk).isStr f=true from beq_self_eq_true f) ?_);rfl) rfl)
 | e::l=>by
  cases he:e.key.isStr f with
  | true=>refine ab (mH he) ?_;exact (ai {e with val:=v} (by refine ab Vp ?_;simp [he]) rfl)
  | false=>
   refine ah (ug (f:=f) (v:=v) (hh:=hh) (tk:=tk) l) fun e' h1 h2=>?_;refine ab (ke he) ?_;exact (ai e' (by refine ab Vp (ab he ?_);exact h1) h2)
theorem qA {f x:Str}{v:Value}{hh:Int}{tk:Tok}(q:x≠f):∀(l:List XE),(Dk f v ⟨hh,.str f tk,v⟩ l).find? (fun e=>e.key.isStr x)=l.find? (fun e=>e.key.isStr x)
 | []=>by
  show ([⟨hh,.str f tk,v⟩]:List XE).find? _=none;refine ab Vp (ab (show (Value.str f tk).isStr x=false from beq_eq_false_iff_ne.mpr fun z=>q z.symm) ?_);rfl
 | e::l=>by
  cases he:e.key.isStr f with
  | true=>
   have hx:=Bz he q;refine ab (mH he) (ab Vp (ab Vp ?_));simp [hx]
  | false=>exact ab (ke he) (ab Vp (ab Vp (ab (qA q l) rfl)))
theorem xE {f:Str}{v:Value}{hh:Int}{tk:Tok}:∀(l:List XE),(Dk f v ⟨hh,.str f tk,v⟩ l).any (·.refKey)=l.any (·.refKey)
 | []=>rfl
 | e::l=>by
  cases he:e.key.isStr f with
  | true=>refine ab (mH he) ?_;rfl
  | false=>exact ab (ke he) (ab U6 (ab U6 (ab (xE l) rfl)))
theorem qD {f:Str}{v:Value}{x:XE}:∀(l:List XE),(Dk f v x l).length=if (l.any (fun e=>e.key.isStr f)) then l.length else l.length+1
 | []=>rfl
 | e::l=>by
  cases he:e.key.isStr f with
  | true=>refine ab (mH he) (ab U6 (ab he ?_));rfl
  | false=>
   refine ab (ke he ..) (ab (U6 ..) (ab (he ..) (ab (VX ..) (ab (TS ..) (ab (qD l ..) (ab (TS ..) ?_))))))
   split <;> rfl
theorem vS {c:Value}{dd:Option Addr}{sl:Array (Option Value)}{f x:Str}{v:Value}{hh:Int}{tk:Tok}(k k':Nat)(l:List XE){r:Option Value}(hl:Yk x ⟨c,dd,.dict l.toArray k,sl⟩=some r):
 Yk x ⟨c,dd,.dict (Dk f v ⟨hh,.str f tk,v⟩ l).toArray k',sl⟩=some (if x=f then some v else r):=by
 unfold Yk at hl ⊢;dsimp only at hl ⊢
 by_cases q:x=f
 ·subst q;refine ah (ug (f:=x) (v:=v) (hh:=hh) (tk:=tk) l) fun e he hv=>?_;refine ab he (ab (if_pos rfl) ?_);dsimp only;exact ab hv rfl
 ·refine ab (if_neg q ..) (ab (qA q ..) (ab (xE ..) ?_));exact hl
theorem Jz {a dx:Addr}{c ru:Nat}{fs:List (Str × V)}{f:Str}{x:V}{Q:AH->Nat->Prop}(ok:eu G)(C:jf G c ru)(ha:H a=some (.inst c dx fs))(hf:jk c f=true)(hz:fs.length<=20)(q:Q (upd H a (.inst c dx (jL fs f x))) n):zQ G d (.ref a) f x H n Q:=by
 intro A s aD Q' E hr r R po;obtain ⟨va,r',rfl,ra,r⟩:=r.cons_inv;obtain ⟨vx,r',rfl,rx,r⟩:=r.cons_inv;refine ab r.nil_inv (ab (show va=.ref a from ra) ?_);refine qS (R.objs _ _ ha) fun dp od es k gJ h1 h2 Il A2 hsz hl hv=>?_;have X:=R.rd ok;have I:InstAt s.heap a (YM (G.ca c) dx) (G.ca c) (some od):=⟨h1,rfl,rfl,h2⟩;have Bj:=xW hv;obtain ⟨oc,odd,oda,osl⟩:=od;dsimp only at Il A2;subst Il A2;refine ah (ZW C.Ih) fun cd yA hd=>?_;refine set_plain X I C.OB ?_;refine osa_open (s:={s with toks:=s.toks+1}) X I C.over (r:=none) (by unfold takerIn;refine ab (C.HU f hf) ?_;rfl) fun b=>?_;refine Xl (Xn (Xl (Xl (YQ h1 (Xl (Looks.here (s:={s with toks:=s.toks+1}) (looks_clsIn (M:=model G.prog G.w) X yA) ?_))))));refine ab hd ?_;refine Xn (a:=some dx) (Xl (Xn (Xl ?_)));unfold nsSet;refine Xl (Xl (wpAny_askSetting (Xn (Xl (aag (Xl (YQ h2 ?_)))))));have uR:=hl f;dsimp only;have c':(!es.any (·.key.isStr f)&&es.any (·.refKey))=false:=by
  refine bk Array.any_toList (bk Array.any_toList ?_);unfold Yk at uR;dsimp only at uR
  split at uR
  ·rename_i en he;refine ab (Vr.mpr (ai en (List.mem_of_find?_eq_some he) (List.find?_some he))) ?_;rfl
  ·split at uR
   ·injection uR
   ·rename_i z;rw [Bool.not_eq_true] at z;exact ab (z ..) (ab (WU ..) rfl)
 refine ab (aRefKeyMayBeTheName_at ..) (ab (c' ..) ?_);refine wpAny_updatePart h2 ?_;have vz:es=es.toList.toArray:=by simp
 have En:∀hh tk,ZD f hh (.str f tk) vx ⟨.type "dict",odd,.dict es k,osl⟩=⟨.type "dict",odd,.dict (Dk f vx ⟨hh,.str f tk,vx⟩ es.toList).toArray (if es.toList.any (·.key.isStr f) then k else k+1),osl⟩:=fun hh tk=>by
  conv=>lhs;rw [vz]
  exact putName_eq f hh (.str f tk) vx _ _ _ _ _
 have Ig:es.toList.any (·.key.isStr f)=(fs.lookup f).isSome:=by
  have e1:=gY (f:=f) hv;unfold Yk at uR;dsimp only at uR
  cases hq:es.toList.find? (·.key.isStr f) with
  | some en=>
   rw [hq] at uR;refine ab (Vr.mpr (ai en (List.mem_of_find?_eq_some hq) (List.find?_some hq))) ?_
   cases hw:fs.lookup f with
   | some _=>rfl
   | none=>rw [hw] at e1;rw [show dp.lookup f=none from e1] at uR;cases uR
  | none=>
   rw [hq] at uR;have:es.toList.any (·.key.isStr f)=false:=by rw [WZ];exact fun y hy=>List.find?_eq_none.mp hq y hy
   refine ab this ?_;dsimp only at uR
   split at uR
   ·injection uR
   ·cases hw:fs.lookup f with
    | none=>rfl
    | some _=>rw [hw] at e1;refine ah e1 fun v e1 O=>?_;rw [e1] at uR;cases uR
 have aI:∀hh tk,(Dk f vx ⟨hh,.str f tk,vx⟩ es.toList).length<=(jL fs f x).length:=fun hh tk=>by
  refine ab (qD ..) (ab (uw ..) (ab (Ig ..) ?_));have:es.toList.length=es.size:=by simp
  have hh:es.toList.length<=fs.length:=TF (TL this) hsz;split
  ·exact hh
  ·exact Um hh
 have vA:=Yz (ZD f (YR G.w.params f) (.str f (s.toks+1)) vx) h2 (by refine ab (En ..) ?_;rfl);refine Xl (wpAny_lookBehind vA ?_ ?_)
 ·refine ab (En ..) ?_;refine pastItsLine_dict ?_;refine ab Ub (ab Xw ?_);have:=aI (YR G.w.params f) (s.toks+1);have h3:=uw (f:=f) (v:=x) fs;exact TF this (TF (TL h3) (by split;exact TF hz (by decide);exact TF (Um hz) (by decide)))
 ·have aJ:a≠dx:=fun e=>by rw [<- e,ha] at gJ;cases gJ
  have Eo:X7 dx s.heap (s.heap.update dx (ZD f (YR G.w.params f) (.str f (s.toks+1)) vx)):=Xz ..;obtain ⟨R2,S2⟩:=R.change [a,dx] (H':=upd H a (.inst c dx (jL fs f x))) (h':=s.heap.update dx (ZD f (YR G.w.params f) (.str f (s.toks+1)) vx)) (n':=n) (tk:=s.toks+1+1) (fun b hb o e=>(Eo.2 b fun e=>hb (by refine ab e ?_;exact .tail _ (.head _))).trans e)
   (fun b hb=>ak fun e=>hb (by refine ab e ?_;exact .head _)) (fun y hy=>by
    rcases TN.mp hy with rfl | hy
    ·exact .inl (by refine ab ha ?_;simp)
    ·refine ab (TK.mp hy) ?_;exact .inl (by refine ab gJ ?_;simp))
   (fun y hy a0 e=>by
    rcases TN.mp hy with rfl | hy
    ·rw [ha] at e;cases e
    ·rw [TK.mp hy,gJ] at e;cases e;exact .head _)
   (by refine ab (fb ..) ?_;exact R.size) (by refine ab (fb ..) ?_;exact TJ _) (fun K y hy o e=>by
    rcases TN.mp hy with rfl | hy
    ·rw [ae] at e;(injection e with e;subst e);refine (uY (jL dp f vx) _ _ _ ((ak fun e=>aJ e.symm).trans gJ) ((Eo.2 _ aJ).trans h1) (vA.trans (congrArg some (En _ _))) rfl rfl ?_ (fun z=>?_) (FK (hG.kept K _ hv) (aC.kept K _ rx)))
     ·refine ab Ub ?_;exact aI _ _
     ·have hlz:=hl z;rw [vz] at hlz;exact ab (vS k _ es.toList hlz ..) (ab (ux ..) rfl)
    ·rw [TK.mp hy] at e ⊢;rw [ak fun e=>aJ e.symm,gJ] at e;(injection e with e;subst e);exact (ai _ vA (by exact ab (En ..) rfl)))
   (fun y hy O=>by
    rcases TN.mp hy with rfl | hy
    ·exact R.lo _ (by refine ab ha ?_;simp)
    ·refine ab (TK.mp hy) ?_;exact R.lo _ (by refine ab gJ ?_;simp))
  exact Xn (po _ _ _ q R2 S2 (TJ _))
end
end
section
open Builtin Builtin.ObjectAttr
structure FR (G:aA):Prop where
 int:∀g,tR g=true->YF G.K (.type "int") (j2 G g)=some (eV (.int 0) g)
 list:∀g,tR g=true->YF G.K (.type "list") (j2 G g)=some (eV (.ag []) g)
 dict:∀g,tR g=true->YF G.K (.type "dict") (j2 G g)=some (eV (.az 0 []) g)
 own:∀c g,(c==2 || c==4)=true->tR g=true->YF G.K (.ref (G.ca c)) (j2 G g)=some (eV (.cU c []) g)
 Oo:∀c,(c==2 || c==4)=true->plainGet G.K (G.ca c) "__class__"=true/\hasDictIn G.K (G.ca c)=true/\X8 G.K (.ref (G.ca c)) "__class__"=some (some (.builtin "object.__class__"))/\mroIn G.K (G.ca c) (.type "object")=some true
 getset:specialIn G.K (.builtin "object.__class__") "__get__"=some (some (.builtin "getset_descriptor.__get__"))
 takes:takesIn G.K (.builtin "object.__class__")=some true
section
variable {G:aA}{σ:cw}{d:Nat}{ρ:bt}{H:AH}{n:Nat}{Q:KV}{h:Heap}{P:Addr->Prop}
theorem rE {x t:Value}{Hp:Heap->Prop}{b:Bool}{g:GN}(ok:eu G){A:Xv}{s:Xm}{Q':Value->Xm->Prop}{E:Value->Xm->Prop}(R:ba G H n s)(Z:KitX G.K x t Hp)(p:Hp s.heap)
 (e:YF G.K t (j2 G g)=some b) (hx:x≠ .builtin "__main__.__loader__#opaque") (po:gC G H n s Q Q') (q:Q (.bool b) H n):wpAny (model G.prog G.w) A (call (.builtin "isinstance") [x,j2 G g]) Q' E s:=
 kia_one Z (R.rd ok) p e hx fun O=>po.bool R q
theorem G0 {a:V}{g:GN}(ok:eu G)(I:FR G)(ha:I5 a=true)(hg:tR g=true)(q:Q (.bool (eV a g)) H n):Isi G d a g H n Q:=cj.one fun A s va Q' E hr ra R po=>by
 cases a with
 | sk k=>
  cases k with
  | int i=>
   obtain ⟨t,rfl⟩:=SK.aG ra;exact rE ok R kitx_int trivial (I.int g hg) (fun e=>nomatch e) po q
  | str i=>exact absurd ha T4
  | bytes i=>exact absurd ha T4
 | ag l=>
  refine fL ra fun a aj O FC O=>?_;obtain ⟨k,hl⟩:=FC;exact rE ok R kitx_list (ai _ hl rfl) (I.list g hg) (fun e=>nomatch e) po q
 | az a l=>
  refine cS ra fun jI O bN=>?_;subst jI;refine ah bN fun kvs Tj O=>?_;obtain ⟨t,hd⟩:=Tj;exact rE ok R kitx_dict (show KitAt a "dict" s.heap from hd.typeIs) (I.dict g hg) (fun e=>nomatch e) po q
 | cU c fs=>
  refine G7 ra fun a dx dp od lu O O h1 h2 O=>?_;subst lu;refine i7 (I.Oo c ha) fun k1 k2 k3 k4=>?_;exact rE ok R (kitx_own (ox:=YM (G.ca c) dx) (od:=od) k1 k2 k3 I.getset I.takes k4) ⟨h1,rfl,rfl,h2⟩ (I.own c g ha hg) (fun e=>nomatch e) po q
 | none=>exact absurd ha T4
 | bool=>exact absurd ha T4
 | tup=>exact absurd ha T4
 | ref=>exact absurd ha T4
theorem cH.make {A:Xv}{C:Addr}{fy:List Value}(hr:cH (d+1) A):cH d (A.under (.builtin "type.__call__" ⟨.ref C::fy,[]⟩)):=by
 have h1:=hr.depth;have h2:=hr.units;refine ⟨hr.hh,?_,?_⟩
 ·show A.depth+1+3*d+10<_;exact aH (bC A.depth d X2) [(1,.add (.add (.add aq (.mulL 3 (.add aw ay))) (.num 10)) ay,aN)] (.add (.add (.add (.add aq ay) (.mulL 3 aw)) (.num 10)) ay) aN rfl h1
 ·show A.units+_+40*d+200<_;have:(Zl "type.__call__" ⟨.ref C::fy,[]⟩).cUnits<=40:=by
   have:(Zl "type.__call__" ⟨.ref C::fy,[]⟩).cUnits=(Zl "type.__call__" ⟨[.ref C],[]⟩).cUnits:=rfl;refine ab this ?_;exact Uh rfl
  exact aH (cm A.units d ((Zl "type.__call__" {pos:=X0 C::fy}).cUnits) cLine) [(1,.add (.add (.add aq (.mulL 40 (.add aw ay))) (.num 200)) ay,bL),(1,aN,.num 40)] (.add (.add (.add (.add aq aN) (.mulL 40 aw)) (.num 200)) ay) bL rfl h2 this
theorem ba.inst {s:Xm}(R:ba G H n s)(c:Nat)(tk:Nat):let dx:=s.heap.objs.size;let h':=(s.heap.push Zw).push (YM (G.ca c) dx);
  ba G (upd (upd H dx (.own (dx+1))) (dx+1) (.inst c dx [])) (dx+2) {s with heap:=h',toks:=tk}/\cz H s.heap (upd (upd H dx (.own (dx+1))) (dx+1) (.inst c dx [])) h':=by
 intro dx h';have hz:h'.objs.size=dx+2:=by show ((s.heap.push Zw).push _).objs.size=_;exact ab (Xp ..) (ab (Xp ..) rfl)
 have h1:h'.get? (dx+1)=some (YM (G.ca c) dx):=by
  have:=Xq (s.heap.push Zw) (o:=YM (G.ca c) dx) rfl;rwa [Xp] at this
 have h2:h'.get? dx=some Zw:=Xo _ (Xq s.heap rfl);have fr:=R.aY (TJ dx);have O6:=R.aY (Uo dx);refine R.change [dx,dx+1] (fun b O o e=>Xo _ (Xo _ e)) (fun b hb=>?_) (fun x hx=>?_) (fun x hx a0 e=>?_) (TL hz.symm) (by refine ab hz ?_;exact TZ _ _) (fun K x hx o e=>?_) fun x hx O=>?_
 ·rw [ak fun e=>hb (by refine ab e ?_;exact .tail _ (.head _)),ak fun e=>hb (by refine ab e ?_;exact .head _)]
 ·rcases TN.mp hx with rfl | hx
  ·exact .inr (TJ _)
  ·refine ab (TK.mp hx) ?_;exact .inr (Uo _)
 ·rcases TN.mp hx with rfl | hx
  ·rw [fr.1] at e;injection e
  ·rw [TK.mp hx,O6.1] at e;injection e
 ·rcases TN.mp hx with rfl | hx
  ·rw [ak (UA (Uj _)),ae] at e;(injection e with e;subst e);exact (ai _ h2 rfl)
  ·rw [TK.mp hx,ae] at e;refine ab (TK.mp hx) ?_
   (injection e with e;subst e)
   exact (uY [] Zw (#[]) 0 ((ak (UA (Uj _))).trans ae) h1 h2 rfl rfl (TJ _) (fun O=>rfl) rfl)
 ·rcases TN.mp hx with rfl | hx
  ·exact fr.2
  ·refine ab (TK.mp hx) ?_;exact O6.2
theorem GS {c ru:Nat}{args:List V}(ok:eu G)(C:jf G c ru)(h:∀dx x,n<=dx->dx≠x->n<=x->H dx=none->H x=none->x8 G d (G.fa ru) (.ref x::args) (upd (upd H dx (.own x)) x (.inst c dx [])) (x+1) fun v H' n'=>v=.none/\Q (.ref x) H' n'):mR G (d+1) c args H n Q:=by
 intro A s aD Q' E hr r R po;obtain ⟨hh,g,dd,t,os⟩:=s;obtain ⟨R1,S1⟩:=R.inst c t;have X:=R.rd ok;refine ZT (make_core (makes_of X C.makes) (Zk X C.init) (fun self=>bind_fn X self C.GI) (.inl rfl) ?_);have fr:=R.aY (TJ _);have O6:=R.aY (Uo _);refine h hh.objs.size (hh.objs.size+1) R.size (UA (Uj _)) (TY R.size) fr.1 O6.1 _ _ (.ref (hh.objs.size+1)::aD) _ hr.make (bA _ _ rfl rfl (au.kept (R.kept S1) _ r)) R1 fun v H' n' v' s' q rv R' S' l'=>?_;obtain ⟨rfl,q⟩:=q;exact ⟨rv,po _ _ _ _ _ q rfl R' (S1.trans S') (TF (TF R.size (TZ _ 2)) l')⟩
end
end
@[reducible] noncomputable def NK:PyProof.Rows.KeyKind where
 α:=Int
 blt a b:=decide (a<b)
 irrefl a:=by simp
 trans a b c h1 h2:=by simp only [decide_eq_true_eq] at*;exact UI.mpr (eO (Ku a b c) [(1,.add bg bD,dT),(1,.add dT bD,FL)] (.add bg bD) FL rfl (UI.mp h1) (UI.mp h2))
 negTrans a b c h:=by simp only [decide_eq_true_eq] at*;omega
 total a b h1 h2:=by simp only [decide_eq_false_iff_not] at*;exact We (eO (lD a b) [(1,bg,dT)] bg dT rfl (U2.mp h2)) (eO (lD b a) [(1,bg,dT)] bg dT rfl (U2.mp h1))
 keyOf v:=match v with | .int x _=>some x | _=>none
 dflt:=0
@[reducible] noncomputable def NJ:PyProof.Rows.KeyKind where
 α:=Array UInt8
 blt:=blt
 irrefl:=m6
 trans a b c h1 h2:=kP h1 h2
 negTrans a b c h:=by
  cases h1:blt a b with
  | true=>exact .inl rfl
  | false=>
   right
   cases h2:blt b a with
   | true=>exact kP h2 h
   | false=>refine bk (kO h1 h2) ?_;exact h
 total a b h1 h2:=kO h1 h2
 keyOf v:=match v with | .bytes x _=>some x | _=>none
 dflt:= #[]
theorem vP:NK.OneLt:=by
 intro prog w A E s x y a b Q ha hb h
 cases x with
 | int x t=>cases y with
  | int y u=>(injection ha with e;subst e);(injection hb with e;subst e);exact oneLt_int h
  | _=>injection hb
 | _=>injection ha
theorem vO:NJ.OneLt:=by
 intro prog w A E s x y a b Q ha hb h
 cases x with
 | bytes x t=>cases y with
  | bytes y u=>(injection ha with e;subst e);(injection hb with e;subst e);exact ue h
  | _=>injection hb
 | _=>injection ha
structure jQ (κ:PyProof.Rows.KeyKind)(cN:κ.α->SK)(T:String):Prop where
 one:κ.OneLt
 key:∀a v,(cN a).eV v=true->κ.keyOf v=some a
 lt:∀a b,cL (cN a) (cN b)=κ.blt a b
 first:∀a v,(cN a).eV v=true->firstOfTuple' v=pure none
 type:∀a v,(cN a).eV v=true->typeOf v=pure (.type T)
theorem CK:jQ NK SK.int "int":=⟨vP,fun a v h=>by obtain ⟨t,rfl⟩:=SK.aG h;rfl,fun O O=>rfl,fun a v h=>by obtain ⟨t,rfl⟩:=SK.aG h;rfl,fun a v h=>by obtain ⟨t,rfl⟩:=SK.aG h;rfl⟩
theorem Kc:jQ NJ SK.bytes "bytes":=⟨vO,fun a v h=>by obtain ⟨t,rfl⟩:=SK.bP h;rfl,fun O O=>rfl,fun a v h=>by obtain ⟨t,rfl⟩:=SK.bP h;rfl,fun a v h=>by obtain ⟨t,rfl⟩:=SK.bP h;rfl⟩
theorem Ke:jQ strKind (fun l=>SK.str ⟨l.toArray⟩) "str":=⟨strKind_oneLt,fun a v h=>by obtain ⟨t,rfl⟩:=SK.cp h;rfl,fun O O=>rfl,fun a v h=>by obtain ⟨t,rfl⟩:=SK.cp h;rfl,fun a v h=>by obtain ⟨t,rfl⟩:=SK.cp h;rfl⟩
section
variable {G:aA}{κ:PyProof.Rows.KeyKind}{cN:κ.α->SK}{T:String}{h:Heap}{P:Addr->Prop}
theorem jQ.kind (K:jQ κ cN T){v₁ v₂:Value}{fy:List Value}(hk:∀v∈v₁::v₂::fy,∃a,(cN a).eV v=true):keyKind' (v₁::v₂::fy).toArray=pure aat:=by
 have m1:∀l:List Value,(∀v∈l,∃a,(cN a).eV v=true)->l.mapM firstOfTuple'=pure (l.map fun O=>none):=by
  intro l
  induction l with
  | nil=>intro _;simp
  | cons v l ih=>
   intro h;obtain ⟨a,ha⟩:=h v (TM ..);refine ab List.mapM_cons (ab (K.first a v ha) (ab (ih fun u hu=>h u (TP _ hu)) ?_));simp
 have m2:∀l:List Value,(∀v∈l,∃a,(cN a).eV v=true)->l.mapM typeOf=pure (l.map fun O=>XK T):=by
  intro l
  induction l with
  | nil=>intro _;simp
  | cons v l ih=>
   intro h;obtain ⟨a,ha⟩:=h v (TM ..);refine ab List.mapM_cons (ab (K.type a v ha) (ab (ih fun u hu=>h u (TP _ hu)) ?_));simp
 refine ab (keyKind'_eq ..) (ab (List.mapM_toArray ..) (ab (m1 _ hk ..) ?_));simp only [map_pure,pure_bind];refine ab (if_neg (by simp)) (ab (if_neg (by simp)) ?_);refine ab (oneTypeOnly'_eq ..) (ab (List.mapM_toArray ..) (ab (m2 _ hk ..) ?_));simp only [map_pure,pure_bind];have eY:((Xd (fun O=>XK T) (v₁::v₂::fy)).toArray.all fun x=>x==XK T)=true:=by
  simp only [List.all_toArray,List.all_map,Ut];intro _ _;exact beq_self_eq_true _
 have h0:(Xd (fun O=>XK T) (v₁::v₂::fy)).toArray[0]? =some (XK T):=by simp
 refine ab h0 ?_;simp only [eY,if_true,pure_bind,Option.isSome_some]
noncomputable def Dt {β:Type}(G:aA)(key:β->SK)(val:β->V)(h:Heap)(P:Addr->Prop):List Keyed->List β->Prop
 | [],l=>l=[]
 | p::ps,l=>∃b r,l=b::r/\(key b).eV p.1=true/\aC G h P (val b) p.2/\Dt G key val h P ps r
section
variable {β:Type}{key:β->SK}{val:β->V}
theorem tW {l l':List Keyed}(hp:l.Perm l'):∀{q:List β},Dt G key val h P l' q->∃q',q'.Perm q/\Dt G key val h P l q':=by
 induction hp with
 | nil=>intro q r;exact (ai q (.refl _) r)
 | cons x _ ih=>
  intro q r;refine fL r fun y r' h1 h2 h3=>?_;refine ah (ih h3) fun q' p k=>?_;exact (ai _ (p.cons _) (cD y q' rfl h1 h2 k))
 | swap x y l=>
  intro q r;refine fL r fun u r' h1 h2 bN=>?_;refine fL bN fun v G1 h3 h4 h5=>?_;exact (ai _ (.swap ..) (cD v _ rfl h3 h4 (cD u G1 rfl h1 h2 h5)))
 | trans _ _ Rx NH=>
  intro q r;refine ah (NH r) fun q1 p1 k1=>?_;refine ah (Rx k1) fun q2 p2 k2=>?_;exact (ai q2 (p2.trans p1) k2)
theorem oa:∀{l:List Keyed} {q:List β},Dt G key val h P l q->au G h P (q.map val) (l.map (·.2))
 | [],_,r=>by refine ab (show _=[] from r) ?_;rfl
 | _::_,_,r=>by refine fL r fun x r' O h2 h3=>?_;exact (bA _ _ rfl h2 (oa h3))
theorem BI:∀{l:List Keyed} {q:List β} {i:Nat} {p:β},Dt G key val h P l q->q[i]? =some p->∃k,l[i]? =some k/\(key p).eV k.1=true
 | [],_,_,_,r,e=>by rw [show _=[] from r] at e;simp at e
 | k::_,_,0,_,r,e=>by refine cn r fun x r' lu h1 O h3=>?_;subst lu;simp at e;subst e;exact (ai k rfl h1)
 | _::_,_,i+1,_,r,e=>by refine cn r fun x r' vZ O O h3=>?_;subst vZ;simpa using BI h3 (by simpa using e)
theorem tU:∀{l:List Keyed} {q:List β},Dt G key val h P l q->∀p∈l,∃b∈q,(key b).eV p.1=true
 | [],_,_=>fun p hp=>nomatch hp
 | _::_,_,r=>fun p hp=>by
  refine fL r fun x r' h1 O h3=>?_;rcases TN.mp hp with rfl | hp
  ·exact (ai x (TM ..) h1)
  ·refine ah (tU h3 p hp) fun b hb h4=>?_;exact (ai b (TP _ hb) h4)
theorem nZ:∀{ks:List β} {keys vs:List Value},au G h P (ks.map fun k=>.sk (key k)) keys->au G h P (ks.map val) vs->Dt G key val h P (keys.zip vs) ks
 | [],_,_,r,_=>by refine ab (show _=[] from r) ?_;rfl
 | a::as,_,_,r,q=>by
  refine cy r fun v r' h1 h2=>?_;refine cy q fun u q' h3 h4=>?_;exact (cD _ _ rfl h1 h3 (nZ h2 h4))
theorem jQ.sorted (K:jQ κ cN T){arr:Array Keyed}{q:List β}(r:Dt G key val h P arr.toList q)(hw:∀b∈q,∃a,key b=cN a){n:Nat}(hn:n=arr.size)(hs:Yb κ arr n):q.Pairwise fun x y=>cL (key y) (key x)=false:=by
 subst hn;rw [List.pairwise_iff_getElem];intro i j hi hj M3;have kk:∀i (hi:i<q.length),key q[i]=cN (KK κ arr i)/\i<arr.size:=fun i hi=>by
  refine ah (BI r (T9 hi)) fun k hk hv=>?_;obtain ⟨a,ha⟩:=hw _ (UN hi);unfold KK;refine bk Array.getElem?_toList (ab hk ?_);rw [ha] at hv;refine ⟨?_,?_⟩
  ·refine ab ha ?_;show _=cN ((κ.keyOf k.1).getD _);refine ab (K.key _ _ hv) ?_;rfl
  ·refine bk VC ?_;exact (UT.mp hk).1
 have:=hs i j (Ud M3) (kk j hj).2;refine ab ((kk i hi).1 ..) (ab ((kk j hj).1 ..) (ab (K.lt ..) ?_));exact this
end
section
variable {prog:XS}{w:World}{A:Xv}{E:Value->Xm->Prop}{s:Xm}
theorem gS {a:Addr}{h h':Heap}{o:Obj}(hs:X7 a (h.push o) h')(ha:h.objs.size<=a){b:Addr}{ob:Obj}(e:h.get? b=some ob):h'.get? b=some ob:=
 (hs.2 b fun q=>absurd (Xr e) (by refine ab q ?_;exact Ux.mpr ha)).trans (Xo _ e)
theorem uz {κ:PyProof.Rows.KeyKind}(hO:κ.OneLt){v:Value}{W:List Value->Prop}{Q:Value->Xm->Prop}(h0:∀vs,W vs->KeysOf κ (ZM vs)/\(∀v₁ v₂ fy,vs=v₁::v₂::fy->keyKind' (v₁::v₂::fy).toArray=pure aat)/\vs.length<64)
 (hc:∀R:List Value->Xm->Prop,(∀vs h' tk,W vs->(∀b o,s.heap.get? b=some o->h'.get? b=some o)->s.heap.objs.size<=h'.objs.size->R vs {s with heap:=h',toks:=tk})->wpAny (model prog w) A.in1 (collect v) R E s)
 (h:∀vs (uB:SortSt) h' tk D,W vs->s.heap.objs.size<=D->(arrOf uB).Perm (ZM vs)->Yb κ (arrOf uB) (ZM vs).size->(∀b o,s.heap.get? b=some o->h'.get? b=some o)->s.heap.objs.size<=h'.objs.size->h'.PlainList D ((arrOf uB).map (·.2))->Q (.ref D) {s with heap:=h',toks:=tk}):
 wpAny (model prog w) A (call (.builtin "sorted") [v]) Q E s:=by
 refine Calls.call_function_entry kind_sorted plain_sorted entry_sorted (args_sorted1 _) ?_;unfold XN.«sorted»;refine Xl (m:=checkCount "sorted" 1 1 _) (Xn ?_);refine Xl (hc _ fun vs h1 tk hW hk hz=>?_);refine cS (h0 vs hW) fun h0 me jl=>?_;refine Xl (Z8 ?_);have KP:(h1.push (Xx "list" vs.toArray 0)).get? h1.objs.size=some (Xx "list" vs.toArray 0):=Xq _ rfl;show wpAny _ _ _ _ _ {s with heap:=h1.push (Xx "list" vs.toArray 0),toks:=tk};refine Xl (Xs (Y8 slot_list_sort (ai _ KP rfl) entry_list_sort (list_sort_treeK hO KP h0 me jl fun uB a1 a2=>(ai _ rfl ?_)) (args_list_sort _)));refine Xn (ai _ rfl ?_);have z1:=Xz (h1.push (Xx "list" vs.toArray 0)) h1.objs.size (Xy fun O=>(#[]:Array Value));have e1:∃c,((h1.push (Xx "list" vs.toArray 0)).update h1.objs.size (Xy fun O=>(#[]:Array Value))).get? h1.objs.size=some (Xx "list" #[] c):=⟨_,X6 KP (fun O=> #[])⟩;obtain ⟨c1,e1⟩:=e1;have e2:=Xo (Xx "list" #[] 0) (Xo (Xx "tuple" vs.toArray 0) e1);refine h vs uB (ZY (h1.push (Xx "list" vs.toArray 0)) h1.objs.size vs ((arrOf uB).map (·.2))) tk h1.objs.size hW hz a1 a2 (fun b o e=>?_) ?_ ?_
 ·have hb:b≠h1.objs.size:=fun q=>absurd (Xr (hk b o e)) (by refine ab q ?_;exact VY _);unfold ZY;refine ab ((Xz _ h1.objs.size _).2 b hb) ?_;exact Xo _ (Xo _ (gS z1 (TJ _) (hk b o e)))
 ·unfold ZY;refine ab (Ye ..) (ab (Xp ..) (ab (Xp ..) (ab (Ye ..) (ab (Xp ..) ?_))));exact aH (bc s.heap.objs.size h1.objs.size) [(1,aq,aw)] aq (.add (.add (.add aw ay) ay) ay) rfl hz
 ·have e3:=X6 e2 (fun O=>(arrOf uB).map (·.2));unfold ZY;exact ⟨_,e3⟩
end
end
section
variable {G:aA}{d:Nat}{H:AH}{n:Nat}{Q:KV}{κ:PyProof.Rows.KeyKind}{cN:κ.α->SK}{T:String}{h:Heap}{P:Addr->Prop}
theorem nY {ks:List SK}(hk:∀x∈ks,∀y∈ks,x.tag=y.tag):∃(κ:PyProof.Rows.KeyKind) (cN:κ.α->SK) (T:String),jQ κ cN T/\∀k∈ks,∃a,k=cN a:=by
 cases ks with
 | nil=>exact ⟨_,_,_,CK,fun k h=>nomatch h⟩
 | cons x l=>
  have hx:=fun k (h:k∈x::l)=>hk k h x (TM (a:=x) (l:=l))
  cases x with
  | int i=>exact ⟨_,_,_,CK,fun k h=>by
    cases k with
    | int i=>exact ⟨i,rfl⟩
    | _=>exact nomatch hx _ h⟩
  | str i=>exact ⟨_,_,_,Ke,fun k h=>by
    cases k with
    | str i=>exact ⟨i.cps.toList,rfl⟩
    | _=>exact nomatch hx _ h⟩
  | bytes i=>exact ⟨_,_,_,Kc,fun k h=>by
    cases k with
    | bytes i=>exact ⟨i,rfl⟩
    | _=>exact nomatch hx _ h⟩
theorem zh {A:Xv}{s:Xm}{Q':Value->Xm->Prop}{E:Value->Xm->Prop}(K:jQ κ cN T){ks:List SK}{v:Value}{W:List Value->Prop}(R:ba G H n s)(hw:∀k∈ks,∃a,k=cN a)(rv:∀vs,W vs->au G s.heap (Pf G H) (ks.map .sk) vs)(jl:ks.length<64)
 (hc:∀R:List Value->Xm->Prop,(∀vs h' tk,W vs->(∀b o,s.heap.get? b=some o->h'.get? b=some o)->s.heap.objs.size<=h'.objs.size->R vs {s with heap:=h',toks:=tk})->wpAny (model G.prog G.w) A.in1 (collect v) R E s)
 (po:gC G H n s Q Q') (q:∀jE,jE.Perm ks->dI jE->Q (.ag (jE.map .sk)) H n):wpAny (model G.prog G.w) A (call (.builtin "sorted") [v]) Q' E s:=by
 have pre:∀vs,W vs->Dt G id V.sk s.heap (Pf G H) (ZM vs).toList ks:=fun vs hW=>by refine ab (pairsOf_toList ..) ?_;exact nZ (key:=id) (rv vs hW) (rv vs hW)
 refine uz K.one (W:=W) (fun vs hW=>?_) hc fun vs uB h' tk D hW hD hp hs hk hz hl=>?_
 ·have nM:∀p∈(ZM vs).toList,∃a,(cN a).eV p.1=true:=fun p hp=>by
   refine ah (tU (pre vs hW) p hp) fun b hb h1=>?_;obtain ⟨a,rfl⟩:=hw b hb;exact ⟨a,h1⟩
  have Bj:vs.length=ks.length:=by exact ab ((rv vs hW).length ..) (ab (TH ..) rfl)
  have eY:∀v∈vs,∃a,(cN a).eV v=true:=fun v hv=>nM (v,v) (by
   refine ab (pairsOf_toList ..) ?_;obtain ⟨i,hi,e⟩:=List.getElem_of_mem hv;exact List.mem_iff_getElem.mpr ⟨i,by simpa using hi,by simp [e]⟩)
  refine ⟨fun p hp=>?_,fun v₁ v₂ fy e=>K.kind (by refine bk e ?_;exact eY),by exact aH (bc ks.length vs.length) [(1,.add aq ay,.num 64),(1,aw,aq)] (.add aw ay) (.num 64) rfl jl (TL Bj)⟩;obtain ⟨a,ha⟩:=nM p hp;exact ⟨a,K.key _ _ ha⟩
 ·refine ah (tW (Array.perm_iff_toList_perm.mp hp) (pre vs hW)) fun q' pq kq=>?_;have Rj:=K.sorted kq (fun b hb=>hw b (pq.mem_iff.mp hb)) (n:=(ZM vs).size) hp.size_eq.symm hs;obtain ⟨R2,S2⟩:=R.gM hk hz (tk:=tk);refine po (.ag (q'.map V.sk)) H n _ _ (q _ pq Rj) (cD D (((arrOf uB).map (·.2)).toList) rfl (R.aY hD) (by refine ab WK ?_;exact hl) ?_) R2 S2 (TJ _);refine ab Array.toList_map ?_;exact au.kept (R.kept S2) _ (oa kq)
theorem yd {A:Xv}{s:Xm}{E:Value->Xm->Prop}{l:Addr}{vs:List Value}(hl:s.heap.IsList l vs.toArray)(hz:vs.length<=1000)(R:List Value->Xm->Prop)
 (h:∀h' tk,(∀b o,s.heap.get? b=some o->h'.get? b=some o)->s.heap.objs.size<=h'.objs.size->R vs {s with heap:=h',toks:=tk}):wpAny (model G.prog G.w) A (collect (.ref l)) R E s:=
 aaj hl (h _ s.toks (fun b o e=>gS (Xz (s.heap.push (Xx "list" #[] 0)) s.heap.objs.size _) (TJ _) e) (by refine ab (Ye ..) (ab (Xp ..) ?_);exact Uo _)) (by refine ab Xw ?_;exact aH (bI vs.length) [(1,aq,.num 1000)] aq (.num 16777216) rfl hz)
theorem oE {A:Xv}{s:Xm}{Q':Value->Xm->Prop}{E:Value->Xm->Prop}{ks:List SK}{v:Value}{W:List Value->Prop}(R:ba G H n s)(hk:∀x∈ks,∀y∈ks,x.tag=y.tag)(jl:ks.length<64)(rv:∀vs,W vs->au G s.heap (Pf G H) (ks.map .sk) vs)
 (hc:∀R:List Value->Xm->Prop,(∀vs h' tk,W vs->(∀b o,s.heap.get? b=some o->h'.get? b=some o)->s.heap.objs.size<=h'.objs.size->R vs {s with heap:=h',toks:=tk})->wpAny (model G.prog G.w) A.in1 (collect v) R E s)
 (po:gC G H n s Q Q') (q:∀jE,jE.Perm ks->dI jE->Q (.ag (jE.map .sk)) H n):wpAny (model G.prog G.w) A (call (.builtin "sorted") [v]) Q' E s:=by
 obtain ⟨κ,cN,T,K,hw⟩:=nY hk;exact zh K R hw rv jl hc po q
theorem Ag {v:V}{ks:List SK}(h:fe H v (ks.map .sk))(hk:∀x∈ks,∀y∈ks,x.tag=y.tag)(jl:ks.length<64)(q:∀jE,jE.Perm ks->dI jE->Q (.ag (jE.map .sk)) H n):aW G d (.builtin "sorted") [v] H n Q:=aW.one fun A s va Q' E hr ra R po=>by
 refine cy (h.at R ra) fun a aj hl rv=>?_;have hz:aj.length=ks.length:=by exact ab (rv.length ..) (ab (TH ..) rfl)
 exact oE (W:=fun vs=>vs=aj) R hk jl (fun vs e=>by refine ab e ?_;exact rv) (fun R' h'=>yd hl.isList (aH (bc ks.length aj.length) [(1,.add aq ay,.num 64),(1,aw,aq)] aw (.num 1000) rfl jl (TL hz)) R' fun h1 tk=>h' aj h1 tk rfl) po q
theorem pT {v:V}{es:List (SK × V)}(ok:eu G)(h:cO H v es)(hk:∀x∈es.map (·.1),∀y∈es.map (·.1),x.tag=y.tag)(jl:(es.map (·.1)).length<64)(q:∀jE,jE.Perm (es.map (·.1))->dI jE->Q (.ag (jE.map .sk)) H n):
 aW G d (.builtin "sorted") [v] H n Q:=aW.one fun A s va Q' E hr ra R po=>by
 refine fL (h.at ok R ra) fun a kvs hs Tf rv=>?_;obtain ⟨t,hd⟩:=Tf;obtain ⟨ep,MV⟩:=p9 hd;have hkv:=rv.keys;have hl:=rv.length;rw [TH] at jl;have qk:∀{es:List (SK × V)} {kvs:List (SK × Value)} {l:List Value},kvs.map (·.1)=es.map (·.1)->l.length=kvs.length->(∀(i:Nat) v,l[i]? =some v->∃k x,kvs[i]? =some (k,x)/\(bT G.prog G.w t).is k v=true)->au G s.heap (Pf G H) ((es.map (·.1)).map .sk) l:=by
  intro es
  induction es with
  | nil=>intro kvs l e1 e2 _;rw [WM.mp e1] at e2;exact U5.mp e2
  | cons e es ih=>
   intro kvs l e1 e2 hv;refine cu (V7.mp e1) fun sd kvs rX Dd my=>?_;obtain ⟨k,x⟩:=sd;subst rX
   cases l with
   | nil=>injection e2
   | cons v l=>
    refine dg (hv 0 v rfl) fun k' x' h1 h2=>?_;cases h1;refine (bA v l rfl ?_ (ih my (by simpa using e2) fun i u hu=>hv (i+1) u (by simpa using hu)));show e.1.eV v=true;refine bk (show k=e.1 from Dd) ?_;exact (af h2).2
 refine oE (W:=fun vs=>vs.length=kvs.length/\∀(i:Nat) v,vs[i]? =some v->∃k x,kvs[i]? =some (k,x)/\(bT G.prog G.w t).is k v=true) R hk (by refine ab (TH ..) ?_;exact jl) (fun vs hW=>qk hkv hW.1 hW.2) (fun R' h'=>?_) po q;refine eG (kdu_collect (kdl_dict (kvs:=kvs) (ep:=ep) hs) (show A.in1.handled=none from hr.hh) MV (by refine ab Xw ?_;exact aH (bc es.length kvs.length) [(1,.add aq ay,.num 64),(1,aw,aq)] aw (.num 16777216) rfl jl (TL hl)) fun h1 tk acc Dd ha hz=>h' _ _ _ ⟨ha.1,fun i v e=>ha.2 i v (by refine bk Array.getElem?_toList ?_;exact e)⟩ Dd hz)
end
noncomputable abbrev cQ (h h':Heap):Prop:=∀b o,h.get? b=some o->h'.get? b=some o
section
variable {G:aA}{A:Xv}{E:Value->Xm->Prop}{s:Xm}{κ:PyProof.Rows.KeyKind}{cN:κ.α->SK}{T:String}{base:Heap}{a kS:Addr}{f:Value}{vs:List Value}{ks:List SK}{e e1:Nat}{Pp:PySem.Fin->Xm->Prop}
theorem iW {h:Heap}{b:Addr}{g:Obj->Obj}(hk:cQ base h)(hb:base.objs.size<=b):cQ base (h.update b g):=fun c o e=>((Xz h b g).2 c fun q=>absurd (Xr e) (by refine ab q ?_;exact Ux.mpr hb)).trans (hk c o e)
noncomputable abbrev x5 (G:aA)(base:Heap)(ks:List SK)(keys:List Value):Prop:=au G base (fun O=>False) (ks.map .sk) keys
theorem yS {ks:List SK}{keys:List Value}(hw:∀k∈ks,∃a,k=cN a)(r:x5 G base ks keys):∀v∈keys,∃a,(cN a).eV v=true:=fun v hv=>by
 obtain ⟨i,hi⟩:=List.mem_iff_getElem?.mp hv;refine ah (r.get' hi) fun x hx hr=>?_;rw [Ui] at hx
 cases q:ks[i]? with
 | none=>rw [q] at hx;injection hx
 | some k=>
  rw [q] at hx;(injection hx with e;subst e);obtain ⟨a,rfl⟩:=hw k (WJ q);exact ⟨a,hr⟩
theorem qu {st:SortSt}{keys:Array Value}(hk:cQ base s.heap)(ha:base.objs.size<=a)(hS:base.objs.size<=kS)(Iw:kS≠a)(h1:s.heap.get? kS=some (Xx "list" keys e))(h2:s.heap.get? a=some (Xx "list" #[] e1))
 (hz:keys.size<64) (hp:(arrOf st).toList.Perm (keys.toList.zip vs)) (hs:Yb κ (arrOf st) (arrOf st).size) (KG:failedOf st=none)
 (done:∀(arr:Array Keyed) h' tk c,cQ base h'->arr.toList.Perm (keys.toList.zip vs)->Yb κ arr arr.size->h'.get? a=some (Xx "list" (arr.map (·.2)) c)->Pp (.done (.ret .none)) {s with heap:=h',toks:=tk}):
 wpAny (model G.prog G.w) A (ksk_tail a false e1 (.ref kS) st) Pp E s:=by
 have s1:=Xz s.heap kS (Xy fun O=>(#[]:Array Value));have h3:(s.heap.update kS (Xy fun O=>(#[]:Array Value))).get? a=some (Xx "list" #[] e1):=(s1.2 a Iw.symm).trans h2;have hsz:(arrOf st).size<=keys.size:=by
  have:=hp.length_eq;rw [VC,List.length_zip,VC] at this;exact TF (TL this) (Xc _ _)
 unfold ksk_tail;refine Xl (Yv h1 rfl ?_ (by rw [Xw];exact aH (bI keys.size) [(1,.add aq ay,.num 64)] aq (.num 16777216) rfl hz) (Ur _));refine Xl (wpAny_letGo ?_);refine Xl (seqEpoch_at h3 rfl ?_);refine Xl (Yv h3 rfl ?_ (Ur _) (by rw [if_neg T4,Array.size_map,Xw];exact aH (bc keys.size ((arrOf st).size)) [(1,.add aq ay,.num 64),(1,aw,aq)] aw (.add (.num 16777216) ay) rfl hz hsz));rw [KG];simp only [bne_self_eq_false,Bool.false_eq_true,if_false];have h4:=X6 h3 (fun O=>(arrOf st).map (·.2));exact Xn (done (arrOf st) _ s.toks _ (iW (iW hk hS) ha) hp hs h4)
theorem BJ (K:jQ κ cN T)(hw:∀k∈ks,∃a,k=cN a){keys:Array Value}(hk:cQ base s.heap)(ha:base.objs.size<=a)(hS:base.objs.size<=kS)(Iw:kS≠a)(h1:s.heap.get? kS=some (Xx "list" keys e))(h2:s.heap.get? a=some (Xx "list" #[] e1))
 (r:x5 G base ks keys.toList) (aI:ks.length=vs.length) (jl:vs.length<64)
 (done:∀(arr:Array Keyed) h' tk c,cQ base h'->arr.toList.Perm (keys.toList.zip vs)->Yb κ arr arr.size->h'.get? a=some (Xx "list" (arr.map (·.2)) c)->Pp (.done (.ret .none)) {s with heap:=h',toks:=tk}):
 wpAny (model G.prog G.w) A (ksk_end a false vs.toArray e1 (.ref kS) keys) Pp E s:=by
 have hsz:keys.size=vs.length:=by
  have:=r.length;rw [VC,TH] at this;exact UC (aH (bC ks.length keys.size vs.length) [(1,aq,aN),(1,aw,aq)] aw aN rfl (TL aI) (TL this)) (aH (bC vs.length ks.length keys.size) [(1,aq,aw),(1,aw,aN)] aq aN rfl (TL aI.symm) (TL this.symm))
 have Rv:(keys.zip vs.toArray).size=vs.length:=by rw [Array.size_zip,hsz,Ub,Nat.min_self]
 have nM:=yS hw r;unfold ksk_end;dsimp only;refine wpAny_ite_false rfl ?_
 by_cases bO:vs.toArray.size<2
 ·rw [if_pos bO,if_pos bO];refine Xl (Xn ?_);refine ab (StateT.run_pure ..) ?_;refine Xl (Xn ?_);refine qu (κ:=κ) (st:=SortSt.mk' general' (keys.zip vs.toArray) #[] 7 none) hk ha hS Iw h1 h2 (aH (bc vs.length keys.size) [(1,.add aq ay,.num 64),(1,aw,aq)] (.add aw ay) (.num 64) rfl jl (TL hsz)) (by rw [<- ksk_zip]) ?_ rfl done;intro i j M3 hj;have A8:j<(keys.zip vs.toArray).size:=hj;rw [Rv] at A8;rw [Ub] at bO;have:i=j:=by exact UC (aH (bc i j) [(1,aq,aw)] aq aw rfl M3) (aH (bC vs.length j i) [(1,.add aq ay,ia),(1,.add aw ay,aq)] aw aN rfl bO A8)
  subst this;exact KeyOrd.kle_refl _
 ·refine ab (if_neg bO) (ab (if_neg bO) ?_);rw [Ub] at bO;have M8:keyKind' keys=pure aat:=by
   obtain ⟨v₁,v₂,fy,e⟩:∃v₁ v₂ fy,keys.toList=v₁::v₂::fy:=by
    have hl:2<=keys.toList.length:=by refine ab VC ?_;exact aH (bc vs.length keys.size) [(1,aq,aw),(1,ia,aq)] ia aw rfl (TL hsz.symm) (Vl bO)
    match keys.toList,hl with
    | v₁::v₂::fy,_=>exact (Hc v₁ v₂ fy rfl)
   rw [show keys=(v₁::v₂::fy).toArray by exact bk e (ab WK rfl)];exact K.kind (by refine bk e ?_;exact nM)
  refine ab M8 ?_;refine Xl (Xn ?_);refine Xl (XC (wpS_sortRunsK (κ:=κ) K.one (a₀:=keys.zip vs.toArray) (st:=SortSt.mk' aat (keys.zip vs.toArray) #[] 7 none)
   (Q:=fun O uB=>(arrOf uB).Perm (keys.zip vs.toArray)/\failedOf uB=none/\Yb κ (arrOf uB) (keys.zip vs.toArray).size)
   (fun p hp=>?_) ⟨Array.Perm.refl _,rfl,rfl,rfl⟩ (by refine ab Rv ?_;exact aH (bI vs.length) [(1,ia,aq)] ia aq rfl (Vl bO)) (by refine ab Rv ?_;exact jl) fun uB a1 a2 a3=>⟨a1,a2,a3⟩) ?_ fun O O e=>e)
  ·rw [ksk_zip] at hp;obtain ⟨b,hb⟩:=nM p.1 (List.of_mem_zip (a:=p.1) (b:=p.2) hp).1;exact ⟨b,K.key _ _ hb⟩
  ·rintro ⟨⟨⟩,uB⟩ s' ⟨rfl,hp,hf,hs⟩;exact qu hk ha hS Iw h1 h2 (aH (bc vs.length keys.size) [(1,.add aq ay,.num 64),(1,aw,aq)] (.add aw ay) (.num 64) rfl jl (TL hsz)) (by refine bk (ksk_zip ..) ?_;exact Array.perm_iff_toList_perm.mp hp) (by refine ab hp.size_eq ?_;exact hs) hf done
theorem yU (K:jQ κ cN T)(hw:∀k∈ks,∃a,k=cN a)(hk:cQ base s.heap)(ha:base.objs.size<=a)(hS:base.objs.size<=kS)(Iw:kS≠a)(h1:s.heap.get? kS=some (Xx "list" #[] 0))(h2:s.heap.get? a=some (Xx "list" #[] e1))
 (aI:ks.length=vs.length) (jl:vs.length<64)
 (turn:∀(i:Nat) (v:Value) (k:SK),vs[i]? =some v->ks[i]? =some k->∀(h:Heap) (tk:Nat),cQ base h->wpAny (model G.prog G.w) A (call f [v]) (fun r s'=>∃h' Dl,s'={s with heap:=h',toks:=Dl}/\k.eV r=true/\cQ h h') (fun O O=>False) {s with heap:=h,toks:=tk})
 (done:∀(keys:Array Value) (arr:Array Keyed) h' tk c,x5 G base ks keys.toList->cQ base h'->arr.toList.Perm (keys.toList.zip vs)->Yb κ arr arr.size->h'.get? a=some (Xx "list" (arr.map (·.2)) c)->Pp (.done (.ret .none)) {s with heap:=h',toks:=tk}):
 wpAny (model G.prog G.w) A (ksk_rest a f false vs.toArray e1 (.ref kS)) Pp E s:=by
 unfold ksk_rest;refine Xl (YB ?_);refine ab (List.forIn_toArray ..) ?_;refine Xl (ksk_fold (fun i s'=>∃h' tk kA e,s'={s with heap:=h',toks:=tk}/\cQ base h'/\h'.get? kS=some (Xx "list" kA e)/\h'.get? a=some (Xx "list" #[] e1)/\x5 G base (ks.take i) kA.toList) vs 0 s (Dr s.heap s.toks (#[]) 0 rfl hk h1 h2 rfl) ?step ?done)
 case step=>
  rintro j x s' hx ⟨h',tk,kA,e,rfl,k',g1,g2,r⟩;simp only [UL] at r ⊢;have hj:j<vs.length:=(UT.mp hx).1;obtain ⟨k,hkj⟩:∃k,ks[j]? =some k:=⟨_,T9 (aH (bC vs.length j ks.length) [(1,aq,aN),(1,.add aw ay,aq)] (.add aw ay) aN rfl (TL aI.symm) hj)⟩;have hz:kA.size<=vs.length:=by
   have:=r.length;rw [VC,TH,Wu] at this;exact TF (TL this) (TF (Nat.min_le_right _ _) (TL aI))
  refine Xl (wpAny_attempt (XC (turn j x k hx hkj h' tk k') (fun v s'' he=>?_) fun O O hF=>hF.elim));refine cu he fun g Km gR hv k2=>?_;subst gR;refine Xl (Yv (k2 _ _ g1) rfl ?_ (by refine ab Xw ?_;exact aH (bc vs.length kA.size) [(1,.add aq ay,.num 64),(1,aw,aq)] aw (.num 16777216) rfl jl hz) (TF (TL (Array.size_push ..)) (by refine ab Xw ?_;exact aH (bc vs.length kA.size) [(1,.add aq ay,.num 64),(1,aw,aq)] (.add aw ay) (.add (.num 16777216) ay) rfl jl hz)));have h4:=X6 (k2 _ _ g1) (·.push v);refine Xn ⟨rfl,Dr _ _ (kA.push v) _ rfl (iW (fun b o e=>k2 b o (k' b o e)) hS) h4 (((Xz g kS _).2 a Iw.symm).trans (k2 _ _ g2)) ?_⟩;refine ab Array.toList_push (ab List.take_add_one (ab hkj ?_));show au G base _ ((ks.take j++[k]).map _) _;refine ab TR ?_;exact r.append (bA _ _ rfl hv rfl)
 case done=>
  rintro s' ⟨h',tk,kA,e,rfl,k',g1,g2,r⟩;rw [show ks.take (0+vs.length)=ks from VE (aH (bc ks.length vs.length) [(1,aq,aw)] aq (.add rH aw) rfl (TL aI))] at r;refine Xl (listItems_at g1 rfl ?_);exact BJ K hw k' ha hS Iw g1 g2 r aI jl fun arr h3 CU c z1 z2 z3 z4=>done kA arr h3 CU c r z1 z2 z3 z4
theorem yV (K:jQ κ cN T)(hw:∀k∈ks,∃a,k=cN a)(hk:cQ base s.heap)(ha:base.objs.size<=a)(ho:s.heap.get? a=some (Xx "list" vs.toArray e))
 (aI:ks.length=vs.length) (jl:vs.length<64)
 (turn:∀(i:Nat) (v:Value) (k:SK),vs[i]? =some v->ks[i]? =some k->∀(h:Heap) (tk:Nat),cQ base h->wpAny (model G.prog G.w) A (call f [v]) (fun r s'=>∃h' Dl,s'={s with heap:=h',toks:=Dl}/\k.eV r=true/\cQ h h') (fun O O=>False) {s with heap:=h,toks:=tk})
 (done:∀(keys:Array Value) (arr:Array Keyed) h' tk c,x5 G base ks keys.toList->cQ base h'->arr.toList.Perm (keys.toList.zip vs)->Yb κ arr arr.size->h'.get? a=some (Xx "list" (arr.map (·.2)) c)->Pp (.done (.ret .none)) {s with heap:=h',toks:=tk}):
 wpAny (model G.prog G.w) A (ksk_tree a f false) Pp E s:=by
 have bO:=Xr ho;have Dd:cQ base (s.heap.update a (Xy fun O=>(#[]:Array Value))):=iW hk ha;obtain ⟨e1,ho1⟩:∃e1,(s.heap.update a (Xy fun O=>(#[]:Array Value))).get? a=some (Xx "list" #[] e1):=⟨_,X6 ho fun O=> #[]⟩;have hz:(s.heap.update a (Xy fun O=>(#[]:Array Value))).objs.size=s.heap.objs.size:=Ye ..;have my:cQ base (((s.heap.update a (Xy fun O=>(#[]:Array Value))).push (Xx "tuple" vs.toArray 0)).push (Xx "list" #[] 0)):=fun b o e=>Xo _ (Xo _ (Dd b o e));have Pu:((s.heap.update a (Xy fun O=>(#[]:Array Value))).push (Xx "tuple" vs.toArray 0)).objs.size=s.heap.objs.size+1:=by exact ab (Xp ..) (ab (hz ..) rfl)
 have hbz:base.objs.size<=s.heap.objs.size:=TF ha (Ud bO);unfold ksk_tree;refine Xl (listItems_at ho rfl ?_);refine Xl (Yv ho rfl ?_ (by refine ab Ub (ab Xw ?_);exact aH (bI vs.length) [(1,.add aq ay,.num 64)] aq (.num 16777216) rfl jl) (Ur _));refine Xl (seqEpoch_at ho1 rfl ?_);refine Xl (wpAny_newTuple ?_ (by show vs.length<=_;refine ab Xw ?_;exact aH (bI vs.length) [(1,.add aq ay,.num 64)] aq (.num 16777216) rfl jl));refine Xl (Z8 ?_ (Ur _));refine Xs ?_;exact yU (s:={s with heap:=((s.heap.update a (Xy fun O=>(#[]:Array Value))).push (Xx "tuple" vs.toArray 0)).push (Xx "list" #[] 0)}) (kS:=((s.heap.update a (Xy fun O=>(#[]:Array Value))).push (Xx "tuple" vs.toArray 0)).objs.size) K hw my ha
  (by refine ab Pu ?_;exact aH (bc base.objs.size s.heap.objs.size) [(1,aq,aw)] aq (.add aw ay) rfl hbz) (by refine ab Pu ?_;exact W5 (VA bO)) (Xq _ rfl) (Xo _ (Xo _ ho1)) aI jl turn done
theorem tX {l q:Addr}{Q:Value->Xm->Prop}(K:jQ κ cN T)(hw:∀k∈ks,∃a,k=cN a)(hl:s.heap.IsList l vs.toArray)(aI:ks.length=vs.length)(jl:vs.length<64)
 (turn:∀(i:Nat) (v:Value) (k:SK),vs[i]? =some v->ks[i]? =some k->∀(h:Heap) (tk:Nat),cQ s.heap h->wpAny (model G.prog G.w) A.in1.in1 (call (.ref q) [v]) (fun r s'=>∃h' Dl,s'={s with heap:=h',toks:=Dl}/\k.eV r=true/\cQ h h') (fun O O=>False) {s with heap:=h,toks:=tk})
 (done:∀(keys:Array Value) (arr:Array Keyed) h' tk D,s.heap.objs.size<=D->x5 G s.heap ks keys.toList->cQ s.heap h'->arr.toList.Perm (keys.toList.zip vs)->Yb κ arr arr.size->h'.PlainList D (arr.map (·.2))->Q (.ref D) {s with heap:=h',toks:=tk}):
 wpAny (model G.prog G.w) A (call (.builtin "sorted") [.ref l] [(XD "key",.ref q)]) Q E s:=by
 refine call_function_entry_kw kind_sorted plain_sorted entry_sorted (ksk_s1 _ _) ?_;unfold XN.«sorted»;refine Xl (m:=checkCount "sorted" 1 1 _) (Xn ?_);refine Xl (aaj hl ?_ (by refine ab Xw ?_;exact aH (bI vs.length) [(1,.add aq ay,.num 64)] aq (.num 16777216) rfl jl));refine Xl (Z8 ?_ (by refine ab Xw ?_;exact aH (bI vs.length) [(1,.add aq ay,.num 64)] aq (.num 16777216) rfl jl));have hsz:((s.heap.push (Xx "list" #[] 0)).update s.heap.objs.size (Xy (· ++vs.toArray))).objs.size=s.heap.objs.size+1:=by
  exact ab (Ye ..) (ab (Xp ..) rfl)
 have KP:(((s.heap.push (Xx "list" #[] 0)).update s.heap.objs.size (Xy (· ++vs.toArray))).push (Xx "list" vs.toArray 0)).get? (s.heap.objs.size+1)=some (Xx "list" vs.toArray 0):=by
  refine bk hsz ?_;exact Xq _ rfl
 have keep:cQ s.heap (((s.heap.push (Xx "list" #[] 0)).update s.heap.objs.size (Xy (· ++vs.toArray))).push (Xx "list" vs.toArray 0)):=fun b o q=>Xo _ (gS (Xz ..) (TJ _) q);show wpAny _ _ _ _ _ {s with heap:=((s.heap.push (Xx "list" #[] 0)).update s.heap.objs.size (Xy (· ++vs.toArray))).push (Xx "list" vs.toArray 0)};refine ab hsz ?_;refine Xl (Xs (wpAny_call_entry_kw slot_list_sort (ai _ KP rfl) entry_list_sort ?body (ksk_l1 _ _)))
 case body=>
  show wpAny (model G.prog G.w) A.in1.in1 (XN.«list.sort» ⟨[.ref (s.heap.objs.size+1)],_⟩) _ _ _;refine ab (ksk_t1 ..) ?_;refine yV (s:={s with heap:=((s.heap.push (Xx "list" #[] 0)).update s.heap.objs.size (Xy (· ++vs.toArray))).push (Xx "list" vs.toArray 0)}) K hw keep (Uo _) KP aI jl turn fun keys arr h' tk c r k' z1 z2 z3=>(ai _ rfl ?_);exact Xn (ai _ rfl (done keys arr h' tk _ (Uo _) r k' z1 z2 ⟨c,z3⟩))
end
theorem DB {ar:X9}(h:LN ar=true):∃tp,ar=⟨[],[⟨("pair":Str),none,tp⟩],none,[],[],none,[]⟩:=by
 obtain ⟨a1,a2,a3,a4,a5,a6,a7⟩:=ar;have h1:=af (show (a1.isEmpty&&(a3.isNone&&(a4.isEmpty&&(a5.isEmpty&&(a6.isNone&&(a7.isEmpty&&l1 a2 fun x=>x.annotation.isNone&&x.arg==("pair":Str)))))))=true from h);have h2:=af h1.2;have h3:=af h2.2;have h4:=af h3.2;have h5:=af h4.2;have h6:=af h5.2;refine ab (eD h1.1) (ab (U9.mp h2.1) (ab (eD h3.1) (ab (eD h4.1) (ab (U9.mp h5.1) (ab (eD h6.1) ?_)))));refine lG (M:=fun a2=>∃tp,X9.mk [] a2 none [] [] none []=⟨[],[⟨("pair":Str),none,tp⟩],none,[],[],none,[]⟩) h6.2 fun a g=>?_;obtain ⟨x,an,tp⟩:=a;exact ⟨tp,by exact ab (show an=none from U9.mp (af g).1) (ab (show x=("pair":Str) from eq_of_beq (af g).2) rfl)⟩
theorem DK {body:Expr}(h:L7 body=true):∃q1 q2 q3 k,body=.Subscript (.Name ("pair":Str) q1) (.Constant (.int 0) k q2) q3:=
 rR (M:=fun body=>∃q1 q2 q3 k,body=.Subscript (.Name ("pair":Str) q1) (.Constant (.int 0) k q2) q3) h fun a i q3 h=>eE (M:=fun a=>∃q1 q2 Se k,Expr.Subscript a i q3=.Subscript (.Name ("pair":Str) q1) (.Constant (.int 0) k q2) Se) (af h).1 fun y q1 hy=>
  gd (M:=fun i=>∃q1' q2 Se k,Expr.Subscript (.Name y q1) i q3=.Subscript (.Name ("pair":Str) q1') (.Constant (.int 0) k q2) Se) (af h).2 fun c k q2 hc=>⟨q1,q2,q3,k,by exact ab (eq_of_beq hy) (ab (wM hc) rfl)⟩
theorem xa {ar:X9}{body:Expr}{sc:Scope}(h:iF ar body sc=true):(∃tp,ar=⟨[],[⟨("pair":Str),none,tp⟩],none,[],[],none,[]⟩)/\(∃q1 q2 q3 k,body=.Subscript (.Name ("pair":Str) q1) (.Constant (.int 0) k q2) q3)/\
 sc.names=[(("pair":Str),.local)]/\sc.kind=.function/\sc.isGenerator=false/\sc.isCoroutine=false:=
 ⟨DB (af h).1,DK (af (af h).2).1,eq_of_beq (af (af (af h).2).2).1,eq_of_beq (af (af (af (af h).2).2).2).1,not_true (af (af (af (af (af h).2).2).2).2).1,not_true (af (af (af (af (af h).2).2).2).2).2⟩
section
variable {G:aA}{A:Xv}{E:Value->Xm->Prop}{s:Xm}
theorem Ta {n:Nat}(h:0<n):Yn 0 n=some 0:=by
 have h1:n≠0:=W5 h;simp [Yn,h1]
theorem BM {q a c':Addr}{qual:Str}{ar:X9}{body:Expr}{sc:Scope}{pm Gf r:Value}{aj:Array Value}(hL:iF ar body sc=true)(Dc:A.depth+1<X2)(vC:s.heap.NoLimit)
 (ho:s.heap.get? q=some (ZN "<lambda>" qual ar body sc [] pm c' Gf)) (yA:s.heap.CodeRec (.ref c') qual) (ht:IsTup s.heap a aj) (h0:aj[0]? =some r):
 wpAny (model G.prog G.w) A (call (.ref q) [.ref a]) (fun v s'=>∃h' Dl,s'={s with heap:=h',toks:=Dl}/\v=r/\cQ s.heap h') E s:=by
 refine PQ (xa hL) fun OH To hn hk hg MU=>?_;obtain ⟨tp,rfl⟩:=OH;obtain ⟨q1,q2,q3,k,rfl⟩:=To;have Bb:sc.names.lookup ("pair":Str)=some .local:=by refine ab hn ?_;rfl
 refine ZT (kla_callFunE (aH (bc A.depth X2) [(1,.add (.add aq ay) ay,aw)] (.add aq ay) aw rfl Dc) ho rfl MU hg rfl yA ?_);refine XC (Q:=fun dA s₁=>dA=[(("pair":Str),X0 a)]/\s₁=s) ?_ (fun dA s₁ e=>?_) fun O O e=>e
 ·exact Xn ⟨rfl,rfl⟩
 ·obtain ⟨rfl,rfl⟩:=e;refine YC (by refine ab hn ?_;intro x hx;refine ab (TK.mp hx) ?_;intro e;injection e) (fun x hx=>by refine ab (TK.mp hx) ?_;exact Bb) (fun h₁ mf Eo=>⟨vC.fresh _ Eo,?_⟩) hk;have hk₁:cQ s₁.heap h₁:=fun b o e=>Eo.extBut b o (UA (Xr e)) (Xo _ e);refine bE ht fun ot hot hc bN=>?_;obtain ⟨m,hd⟩:=bN;have rp:h₁.IsTuple a aj:=bX (bW ot (hk₁ _ _ hot) hc ⟨m,hd⟩);refine kla_codeExpr ?_;refine Subscript_ (wpAny_Name (ZQ (m:=fun x=>[(("pair":Str),X0 a)].reverse.lookup x) hk Bb mf rfl ?_) (by decide));refine wpAny_Constant_int ?_;refine tail_any (ops:=[.ref a,_]) (T:="tuple") rp.typeIs PySem.F.slot_tuple_getitem.lookup ?_ rfl;exact PyProof.Rows.getItem_tuple (j:=0) rp (by decide) (by decide) (by
   have:0<aj.size:=by
    rcases Nat.lt_or_ge 0 aj.size with h | h
    ·exact h
    ·rw [Array.getElem?_eq_none h] at h0;injection h0
   exact Ta this) h0 (bA h₁ _ rfl rfl hk₁)
theorem CJ {σ:cw}{d:Nat}{H:AH}{n:Nat}{κ:PyProof.Rows.KeyKind}{cN:κ.α->SK}{T:String}{Q':Value->Xm->Prop}{ps:List (SK × V)}{l f c':Addr}{aj:List Value}{qual:Str}{ar:X9}{body:Expr}{sc:Scope}{pm Gf:Value}
 (K:jQ κ cN T) (hw:∀k∈ps.map (·.1),∃a,k=cN a) (ok:eu G) (hr:cH d A) (R:ba G H n s) (hl:s.heap.IsList l aj.toArray) (rv:au G s.heap (Pf G H) (ps.map ib) aj) (jl:ps.length<64)
 (hL:iF ar body sc=true) (ho:s.heap.get? f=some (ZN "<lambda>" qual ar body sc [] pm c' Gf)) (yA:s.heap.CodeRec (.ref c') qual)
 (q:∀(jO:List (SK × V)) h' tk v',jO.Perm ps->dI (jO.map (·.1))->aC G h' (Pf G H) (.ag (jO.map ib)) v'->ba G H n {s with heap:=h',toks:=tk}->cz H s.heap H h'->Q' v' {s with heap:=h',toks:=tk}):
 wpAny (model G.prog G.w) A (call (.builtin "sorted") [.ref l] [(XD "key",.ref f)]) Q' E s:=by
 have A6:aj.length=ps.length:=by exact ab (rv.length ..) (ab (TH ..) rfl)
 refine eG (tX (ks:=ps.map (·.1)) K hw hl (by exact ab (TH ..) (ab (A6 ..) rfl)) (aH (bc ps.length aj.length) [(1,.add aq ay,.num 64),(1,aw,aq)] (.add aw ay) (.num 64) rfl jl (TL A6)) (fun i v k hv hk h tk hh=>?_) fun keys arr h3 CU D hD r Iv hp hs hl3 hz=>?_)
 ·refine ah (rv.get' hv) fun x hx rx=>?_;rw [Ui] at hx hk
  cases e:ps[i]? with
  | none=>rw [e] at hx;injection hx
  | some p=>
   rw [e] at hx hk;(injection hx with e;subst e);(injection hk with e;subst e);refine cn rx fun a' dn CA O ht ri=>?_;subst CA;refine cu ri fun r0 Rz JX h0 O=>?_;subst JX;refine ah ht fun ot g1 g2=>?_;have hdp:=hr.depth;refine XC (BM (s:={s with heap:=h,toks:=tk}) hL (show A.depth+1<_ by exact aH (bC A.depth d X2) [(1,.add (.add (.add aq (.mulL 3 aw)) (.num 10)) ay,aN)] (.add (.add aq ay) ay) aN rfl hdp) ((ok.xr.keeps R.glob).keeps hh) (hh _ _ ho) (yA.keeps hh) (ai ot (hh _ _ g1) g2) (by simp:(r0::Rz).toArray[0]? =some r0)) (fun v s' e=>?_) fun O O e=>e;refine cu e fun h4 tk4 lr oB M5=>?_;subst lr;subst oB;exact (bA h4 tk4 rfl h0 M5)
 ·obtain ⟨R3,S3⟩:=R.gM Iv hz (tk:=CU);have r3:au G h3 (Pf G H) (ps.map fun p=>V.sk p.1) keys.toList:=by
   have:=au.kept (G:=G) (P':=Pf G H) (h':=h3) ⟨fun a o e O=>Iv a o e,fun O O O e=>e.elim,fun O O O e=>e.elim⟩ _ r;rw [Ua] at this;exact this
  refine ah (tW hp (nZ (key:=fun p:SK × V=>p.1) (val:=ib) r3 (R.jd S3 rv))) fun q' pq kq=>?_;have Rj:=K.sorted kq (fun b hb=>hw _ (TV (pq.mem_iff.mp hb))) rfl hs;refine q q' h3 CU (.ref D) pq (by show List.Pairwise _ _;rw [Wo];exact Rj) (cD D ((arr.map (·.2)).toList) rfl (R.aY hD |> fun e=>⟨e.1,e.2⟩) (by refine ab WK ?_;exact hl3) ?_) R3 S3;refine ab Array.toList_map ?_;exact oa kq
theorem DX {σ:cw}{d:Nat}{ρ:bt}{H:AH}{n:Nat}{Q:KV}{a:X}(ok:eu G)(h:bl G σ d a ρ H n fun va H1 n1=>∃ps:List (SK × V),va=.ag (ps.map ib)/\ju (ps.map (·.1))/\H1 G.dW=some (.tab true)/\
 ∀jO:List (SK × V),jO.Perm ps->dI (jO.map (·.1))->Q (.ag (jO.map ib)) (upd H1 G.dW (.tab false)) n1):bl G σ d (.lS a) ρ H n Q:=by
 intro e env A s Q' E ht he hr F R po;refine yO ht fun x ea ar body sc p p' kp pos hg hL QY ta hσ=>?_;refine cS (d6 hg) fun hd hk hg=>?_;refine G5 ok.glob fun mg hm O O O Bd O=>?_;refine bE ok.L0 fun mb KJ MS O=>?_;refine ah ok.Qi fun NX Bc QQ=>?_;refine ah (he.code hσ) fun c qj C=>?_;refine X5 (rL he R hd hk hm (Bd _ _ hg) KJ (MS _ _ hg) ?_);refine callWith_kw (he:=by refine ab (iJ QY ..) ?_;rfl) (hplain:=by refine ab (iJ QY ..) ?_;rfl) ?_;refine ab (iJ QY ..) ?_;refine aah ?_;show wpAny _ A (eval ea env) _ _ _;refine h _ _ _ _ _ _ ta he hr F R fun va H1 n1 kI s1 q1 ra R1 S1 l1=>?_;refine aao ?_;refine i7 (xa hL) fun sd O hn O=>?_;obtain ⟨tp,Pe⟩:=sd;refine kws_cons (kla_eval (by refine ab Pe ?_;rfl) ?_);refine mM q1 fun ps rX KQ gK q=>?_;subst rX;refine cn ra fun l aj vY hp hl rv=>?_;subst vY;obtain ⟨_,bN⟩:=R1.objs _ _ gK;refine ah bN fun tps mz htf=>?_;have Rq:=htf rfl;subst Rq;have h0t:G.h0.get? G.dW=none:=(R1.lo _ (by refine ab gK ?_;simp)).1;have hgP:XA≠G.dW:=fun e=>by
  refine jt Bc fun o es ep e2 O=>?_;rw [e,h0t] at e2;injection e2
 have uQ:ZS sc env=pure []:=by unfold ZS;refine ab hn ?_;rfl
 refine kla_makeFunction (mg:=NX) uQ he.globals (Bc.keeps R1.glob) qj (C.keeps R1.glob) mz trivial rfl hgP (QQ.keeps R1.glob) fun c' Gf h' tk hx yD bO Rl htb=>?_;refine kws_nil ?_;have hsz:s1.heap.objs.size<=h'.objs.size:=TF yD (Ud bO);obtain ⟨R2,S2⟩:=R1.change [G.dW] (h':=h'.push (ZN "<lambda>" (env.qual++"<lambda>") ar body sc [] ((NX "__name__").getD .none) c' Gf)) (H':=upd H1 G.dW (.tab false)) (n':=n1) (tk:=tk)
  (fun b hb o e=>Xo _ (hx b o (by simpa using hb) e)) (fun b hb=>ak (by simpa using hb)) (fun x hx=>by refine ab (TK.mp hx) (ab gK ?_);exact .inl (by simp)) (fun x hx a0 e=>by rw [TK.mp hx,gK] at e;cases e)
  (by refine ab (Xp ..) ?_;exact TF R1.size (TY hsz)) (by refine ab (Xp ..) ?_;exact TY hsz)
  (fun K x hx o e=>by
   rw [TK.mp hx] at e ⊢;rw [ae] at e;(injection e with e;subst e);exact ⟨rfl,ai _ (Xo _ htb) (fun e=>nomatch e)⟩)
  (fun x hx O=>by refine ab (TK.mp hx) ?_;exact R1.lo _ (by refine ab gK ?_;simp))
 have De:(h'.push (ZN "<lambda>" (env.qual++"<lambda>") ar body sc [] ((NX "__name__").getD .none) c' Gf)).IsList l aj.toArray:=by
  obtain ⟨k,hl⟩:=hl;exact (show Heap.PlainList _ _ _ from ⟨k,S2.keep _ _ hl hp.1⟩).isList
 have fin:∀(jO:List (SK × V)) h3 CU v',jO.Perm ps->dI (jO.map (·.1))->aC G h3 (Pf G (upd H1 G.dW (.tab false))) (.ag (jO.map ib)) v'->ba G (upd H1 G.dW (.tab false)) n1 {s1 with heap:=h3,toks:=CU}->cz (upd H1 G.dW (.tab false)) (h'.push (ZN "<lambda>" (env.qual++"<lambda>") ar body sc [] ((NX "__name__").getD .none) c' Gf)) (upd H1 G.dW (.tab false)) h3->Q' v' {s1 with heap:=h3,toks:=CU}:=
  fun jO h3 CU v' z1 z2 z3 z4 z5=>po _ _ _ _ _ (q jO z1 z2) z3 z4 ((S1.trans S2).trans z5) l1
 have jl:ps.length<64:=by have:=KQ.2;rwa [TH] at this
 obtain ⟨κ,cN,T,K,hw⟩:=nY KQ.1;exact CJ (s:={s1 with heap:=h'.push (ZN "<lambda>" (env.qual++"<lambda>") ar body sc [] ((NX "__name__").getD .none) c' Gf),toks:=tk}) (σ:=σ) K hw ok hr R2 De (R1.jd S2 rv) jl hL (Xq _ rfl) (Rl.push _) fin
end
theorem oi:Y7 (.type "list") "keys"=pure none:=by refine ab (XU ..) (ab (XM ..) ?_);kernel_rfl
section
variable {G:aA}{A:Xv}{E:Value->Xm->Prop}{s:Xm}
theorem D5 {a:Addr}{xs:Array Value}{k:Nat}{Q:Option Value->Xm->Prop}(hx:s.heap.get? a=some {cls:=.type "list",data:=.seq xs k}) (hA:A.handled=none) (h:∀h' tk,cQ s.heap h'->Q none {s with heap:=h',toks:=tk}):
 wpAny (model G.prog G.w) A (getAttr? (.ref a) "keys") Q E s:=by
 obtain ⟨hp,g,d,tk,os⟩:=s;unfold getAttr? getAttrBy?;refine Xl (aag (Xl (wpAny_attempt ?_)));have hT:∀Dl,(⟨hp,g,d,Dl,os⟩:Xm).TypeIs (.ref a) "list":=fun O=>(ai _ hx rfl);have f1:=sub_AttributeError;have f3:=Yo.lookup;have f4:=Yo.bind (.ref a);have f5:=am_list_getattr_none;unfold getAttrBy
 repeat (any_goals (first | assumption | exact hT _ | ((with_reducible show wpAny _ _ (call (Z1 "list.__getattribute__") _ _) _ _ _);refine ZV Yo (hT _) am_entry_list_getattribute (F.args_list_getattribute_2 _ _) (meets_getattribute_miss_list a xs k #[] "keys" _ oi (by decide)) ⟨hx,hA,fun h' Dl e KY=>?_⟩) | wp_step))
 have z:=KY.of;refine cn z.there fun Ki vs g1 g2 g3 g4=>?_;obtain ⟨c,d2,dt,sl⟩:=Ki;dsimp only at g2 g3;subst g2 g3;show wpAny _ _ (getattributeRaised _ _ _ _ _ _ _) _ _ _;unfold getattributeRaised
 repeat (any_goals (first | assumption | wp_step))
 all_goals exact h _ _ fun b o e=>z.keeps b o e
theorem dQ:plainId "dict.update.loop"=true:=by decide +kernel
theorem iB:aas table "dict.update.loop"=some XN.«dict.update.loop»:=Yw (by kernel_rfl)
theorem lU {es:List (SK × V)}{k:SK}{v:V}(h:k∉es.map (·.1)):bM es k v=es++[(k,v)]:=by
 unfold bM;rw [if_neg];intro e;refine ah (Vr.mp e) fun p hp e=>?_;exact h (TX.mpr (ai p hp (by simpa using e)))
theorem vW {a:Addr}{x y:Value}{Q:List Value->Xm->Prop}(ht:IsTup s.heap a #[x,y])(h:Q [x,y] s):wpAny (model G.prog G.w) A (ZE (.ref a)) Q E s:=by
 refine bE ht fun o ho hc bN=>?_;obtain ⟨m,hd⟩:=bN;unfold ZE;refine Xl (Zj (T:="tuple") (ai o ho hc) ?_);refine ab (if_pos (by decide)) ?_;refine Xl ?_;unfold seqItems?;refine Xl (wpAny_load ho ?_);refine ab hd ?_;exact Xn (Xn h)
theorem FD {h:Heap}{P:Addr->Prop}{es:List (SK × V)}{kvs:List (SK × Value)}{t:Nat}(hv:aP G h P es kvs)(ht:∀p∈es,p.1.tag=t):∀p∈kvs,p.1.tag=t:=fun p hp=>by
 have hk:p.1∈kvs.map (·.1):=TV hp;rw [hv.keys] at hk;refine ah (TX.mp hk) fun q hq e=>?_;refine bk e ?_;exact ht q hq
theorem CX {X:Addr->Prop}{H:AH}{n t:Nat}{D:Addr}{it:Value}{RR:ZL->Xm->Prop}(hh:A.handled=none)(hX:∀b,X b->G.own b):∀(l es:List (SK × V)) (i:Int) (tk:Tok) (s:Xm),ba G (upd H D (.dict es)) n s->bB G (upd H D (.dict es)) it (l.map ib) X s.heap->
 (∀p∈es++l,p.1.tag=t)->((es++l).map (·.1)).Nodup->(es++l).length<=1000->
 (∀s',ba G (upd H D (.dict (es++l))) n s'->bJ X (upd H D (.dict es)) s.heap (upd H D (.dict (es++l))) s'.heap->RR (.ok (.ret .none)) s')->
 Yr (model G.prog G.w) A (.builtin "dict.update.loop" ⟨[.ref D,it,.int i tk,.none],[]⟩) RR s:=by
 intro l
 induction l with
 | nil=>
 exact fun es i tk s R I ht hn hz k=>by
  refine Yj iB ?_;refine ab (XZ dQ _) ?_;show wpAny _ A.in1 (Zg it >>=_) _ _ s;refine Xl (bB.next (show A.in1.handled=none from hh) I R hX (fun e s' R' S'=>?_) fun x xs e v s' rv I' R' S'=>nomatch e);exact Xl (Xn (Xn (k s' (by refine ab (TU ..) ?_;exact R') (by refine ab (TU ..) ?_;exact S'))))
 | cons rU l' ih=>
 obtain ⟨kk,y⟩:=rU;exact fun es i tk s R I ht hn hz k=>by
  refine Yj iB ?_;refine ab (XZ dQ _) ?_;show wpAny _ A.in1 (Zg it >>=_) _ _ s;refine Xl (bB.next (show A.in1.handled=none from hh) I R hX (fun e s' R' S'=>nomatch e) fun x xs e v s' rv I' R' S'=>?_)
  (injection e with e1 e2;subst e1;subst e2)
  refine cn rv fun a aj iq hpa hta ri=>?_;subst iq;obtain ⟨vk,r',rfl,rk,ri⟩:=ri;obtain ⟨vx,r',rfl,rx,ri⟩:=ri;have ri:r'=[]:=ri;subst ri;refine Xl (Xs (Xl (wpAny_tryCatch (vW hta ?_))));show wpAny _ _ (Yp [vk,vx] (dictSet D vk vx)) _ _ _;refine Xs ?_;refine ah (R'.objs D _ ae) fun kvs MV hv=>?_;have MV:=gI (t:=t) MV (FD hv fun q hq=>ht q (Uq _ hq));have Q5:kk.tag=t:=ht (kk,y) (TQ _ (TM ..));have Rd:kk∉es.map (·.1):=fun hm=>by
   rw [TR,Wq] at hn;exact hn.2.2 kk hm kk (TM ..) rfl
  have Bj:=hv.length;have hzz:kvs.length<=Yy:=by refine ab Xw (ab Bj ?_);rw [TG] at hz;exact aH (bc es.length l'.length) [(1,.add aq (.add aw ay),.num 1000)] aq (.num 16777216) rfl hz
  refine aab (knd:=bT G.prog G.w t) (k:=kk) (by subst Q5;exact iH rk) MV (fun h' vw sD=>?_) hzz;obtain ⟨R2,S2⟩:=R'.turn (tk:=s'.toks+1) (o:=.dict (es++[(kk,y)])) sD (by refine ab ae ?_;simp) (by refine ab ae ?_;simp) fun K=>(ai _ ⟨_,vw⟩ (aP.kept K _ (by refine bk (lU Rd) ?_;exact hv.stored rx)));rw [aX] at R2 S2;have e2:es++(kk,y)::l'=es++[(kk,y)]++l':=by refine ab (T5 ..) ?_;rfl
  rw [e2] at ht hn hz k;exact Xn ⟨Yu dQ _,ih (es++[(kk,y)]) (i+1) _ _ R2 (I'.keep (Y:=fun O=>False) R' S2.gW fun b hb=>hb.elim) ht hn hz fun s3 R3 S3=>k s3 R3 ((S'.trans S2.gW).trans S3)⟩
end
section
variable {G:aA}{d:Nat}{H:AH}{n:Nat}{Q:KV}
theorem tu {H:AH}{a:Addr}{o:bG}(h:H a=none):cB (upd H a o) a=H:=by exact ab cY (ab (cJ h) rfl)
theorem DH {ps:List (SK × V)}{t:Nat}(ht:∀p∈ps,p.1.tag=t)(hn:(ps.map (·.1)).Nodup)(hz:ps.length<=1000)(q:∀x,n<=x->H x=none->Q (.az x ps) H (x+1)):aW G d (.type "dict") [.ag (ps.map ib)] H n Q:=aW.one fun A s va Q' E hr ra R po=>by
 refine fL ra fun a aj hp hl rv=>?_;have fr:=R.aY (TJ s.heap.objs.size);refine callType_codes (Q₁:=fun obj s₁=>obj=.ref s.heap.objs.size/\s₁={s with heap:=s.heap.push {cls:=.type "dict",data:=.dict #[]}}) F.kt_called_dict (F.kt_typeCall_dict_1 _) F.entry_dict_init (kt_code_dict_new _ ⟨rfl,rfl⟩) ?_;rintro obj s₁ ⟨rfl,rfl⟩;obtain ⟨R1,S1⟩:=R.alloc {cls:=.type "dict",data:=.dict #[]} (.dict []) (tk:=s.toks) rfl fun K=>(ai [] (gH _) rfl);have yH:(s.heap.push {cls:=.type "dict",data:=.dict #[]}).DictOf (bT G.prog G.w 0) s.heap.objs.size []:=Heap.DictOf.new s.heap;refine ⟨yH.typeIs,F.args_dict_init_2 _ _,?_⟩;unfold XN.«dict.__init__»;refine Xl ?_;unfold XN.Dict.selfAndRest;refine Xl (wpAny_notOrdered_dict yH.typeIs ?_);show wpAny _ _ (pure (s.heap.objs.size,[X0 a])) _ _ _;refine Xn ?_;show wpAny _ _ (Zn "dict.__init__" s.heap.objs.size (.ref a) [] .none) _ _ _;obtain ⟨k,hla⟩:=hl;have tK:(s.heap.push {cls:=.type "dict",data:=.dict #[]}).get? a=some {cls:=.type "list",data:=.seq aj.toArray k}:=Xo _ hla;unfold Zn;refine Xl (Zj (T:="list") (ai _ tK rfl) ?_);refine ab (if_pos (by decide)) ?_;refine Xl (eG (D5 tK (show A.in1.in1.handled=none from hr.hh) fun h2 Km my nP=>?_));refine ab (if_pos (show (none:Option Value).isNone=true from rfl)) ?_;refine Xl (YB ?_);obtain ⟨R2,S2⟩:=R1.gM (tk:=Km) my nP;have SU:=(R.jd (S1.trans S2) rv);have w4:Pf G (upd H s.heap.objs.size (.dict [])) a:=⟨(ak (UA (Xr hla))).trans hp.1,hp.2⟩;refine Xl (tS (G:=G) A.in1.in1 _ {s with heap:=h2,toks:=Km} (.ref a) _ _ (show A.in1.in1.handled=none from hr.hh) (cD a aj rfl w4 ⟨k,my _ _ tK⟩ SU) R2 fun it h3 CU X I3 P0=>?_);have R3:=R2.into (tk:=CU) I3;refine Xn ⟨Yu dQ _,CX (G:=G.bo X) (t:=t) (show A.in1.handled=none from hr.hh) (fun b hb=>.inr hb) ps [] 0 _ {s with heap:=h3,toks:=CU} R3 P0 ht hn hz fun s4 R4 S4=>?_⟩;refine ⟨rfl,?_⟩;rw [WG] at R4 S4;have R5:=R4.out;have S5:=((I3.step.gW (X:=X)).trans S4).toStep fun b o hb e=>by
  rcases (I3.new b hb).1 with z | z
  ·exact absurd (Xr e) (Ux.mpr z)
  ·exact z
 obtain ⟨R6,S6⟩:=R5.drop (a:=s.heap.objs.size) (o:=.dict ps) ae (by simp);have r6:=fV R5 (a:=s.heap.objs.size) (l:=ps) ae;rw [tu fr.1] at R6 S6 r6;exact po _ _ _ _ _ (q _ R.size fr.1) r6 R6 (((S1.trans S2).trans S5).trans S6) (TY R.size)
theorem wK {v:V}{es:List (SK × V)}(ok:eu G)(h:cO H v es)(hz:es.length<=1000)(q:∀x,n<=x->H x=none->Q (.az x es) H (x+1)):aW G d (.type "dict") [v] H n Q:=by
 intro A s aD Q' E hr rv R po;refine Ab (Q:=fun r H' n'=>∃x,n<=x/\H x=none/\r=.ref x/\H'=upd H x (.dict es)/\n'=x+1) ok h hz (fun x h1 h2=>(sI x h1 h2 rfl rfl rfl)) A s aD Q' E hr rv R fun v H' n' v' s' e r R' S' l'=>?_;refine zE e fun x h1 h2 pF lu vZ=>?_;subst pF;subst lu;subst vZ;obtain ⟨R6,S6⟩:=R'.drop (a:=x) (o:=.dict es) ae (by simp);have r6:=fV R' (a:=x) (l:=es) ae;rw [tu h2] at R6 S6 r6;refine ab (show v'=.ref x from r) ?_;exact po _ _ _ _ _ (q x h1 h2) r6 R6 (S'.trans S6) l'
end
theorem y3:Y7 (.type "list_reverseiterator") "__len__"=pure none:=by refine ab (XU ..) (ab (XM ..) ?_);kernel_rfl
theorem A7:Y7 (.type "list_reverseiterator") "__length_hint__"=pure (some (.builtin "list_reverseiterator.__length_hint__")):=by refine ab (XU ..) (ab (XM ..) ?_);kernel_rfl
section
variable {G:aA}{A:Xv}{E:Value->Xm->Prop}{s:Xm}
theorem BV {a:Addr}{Q:Bool->Xm->Prop}(hT:s.TypeIs (.ref a) "list_reverseiterator")(h:Q false s):wpAny (model G.prog G.w) A (YX (.ref a)) Q E s:=by
 unfold YX;refine Xl (X4 hT y3 ?_);show wpAny _ _ (aal (X0 a) (XD "__length_hint__") >>=_) _ _ _;refine Xl (X4 hT A7 ?_)
 (generalize Q3:("list_reverseiterator.__length_hint__":String)=id0;(fail_if_success (clear Q3 id0));wp_delta;refine ab (show splitId id0=some ("list_reverseiterator","__length_hint__") from by subst Q3;decide +kernel) ?_;subst Q3)
 refine Xl (Yx (b:=true) hT (by refine ab (YL ..) ?_;kernel_rfl) ?_);exact Xn h
theorem AL {X:Addr->Prop}{H:AH}{n:Nat}{a:Addr}{it:Value}{RR:ZL->Xm->Prop}(hh:A.handled=none)(hX:∀b,X b->G.own b):∀(m l:List V) (s:Xm),ba G (upd H a (.list l)) n s->bB G (upd H a (.list l)) it m X s.heap->
 l.length+m.length<=1000000->
 (∀s',ba G (upd H a (.list (l++m))) n s'->bJ X (upd H a (.list l)) s.heap (upd H a (.list (l++m))) s'.heap->RR (.ok (.ret .none)) s')->
 Yr (model G.prog G.w) A (.builtin "list.extend.loop" ⟨[.ref a,it,.none],[]⟩) RR s:=by
 intro m
 induction m with
 | nil=>
 exact fun l s R I hz k=>by
  refine Yj PySem.F.entry_extend_loop ?_;refine ab (XZ PySem.F.plain_extend_loop _) ?_;show wpAny _ A.in1 (Zg it >>=_) _ _ s;refine Xl (bB.next (show A.in1.handled=none from hh) I R hX (fun e s' R' S'=>?_) fun x xs e v s' rv I' R' S'=>nomatch e);exact Xn (k s' (by refine ab (TU ..) ?_;exact R') (by refine ab (TU ..) ?_;exact S'))
 | cons y m ih=>
 exact fun l s R I hz k=>by
  refine Yj PySem.F.entry_extend_loop ?_;refine ab (XZ PySem.F.plain_extend_loop _) ?_;show wpAny _ A.in1 (Zg it >>=_) _ _ s;refine Xl (bB.next (show A.in1.handled=none from hh) I R hX (fun e s' R' S'=>nomatch e) fun x xs e v s' rv I' R' S'=>?_)
  (injection e with e1 e2;subst e1;subst e2)
  refine ah (R'.objs a _ ae) fun aj Ki ri=>?_;obtain ⟨nn,hl⟩:=Ki;have A6:=ri.length;rw [TS] at hz;have h1:aj.toArray.size<=Yy:=by refine ab Ub (ab A6 (ab Xw ?_));exact aH (bc l.length m.length) [(1,.add aq (.add aw ay),.num 1000000)] aq (.num 16777216) rfl hz
  have h2:(aj.toArray.push v).size<=Yy+1:=by refine ab (Array.size_push ..) ?_;exact aH (bc aj.toArray.size Yy) [(1,aq,aw)] (.add aq ay) (.add aw ay) rfl h1
  have GD:=X6 hl (·.push v);refine Xl (Yv hl rfl ?_ h1 h2);obtain ⟨R2,S2⟩:=R'.turn (tk:=s'.toks) (o:=.list (l++[y])) (Xz s'.heap a (Xy (·.push v))) (by refine ab ae ?_;simp) (by refine ab ae ?_;simp) fun K=>(ai (aj++[v]) ⟨_,by refine bk (List.push_toArray ..) ?_;exact GD⟩ (au.kept K _ (ri.append (au.one rv))));rw [aX] at R2 S2;have e2:l++y::m=l++[y]++m:=by refine ab (T5 ..) ?_;rfl
  rw [e2] at k;exact Xn ⟨Yu PySem.F.plain_extend_loop _,ih (l++[y]) _ R2 (I'.keep (Y:=fun O=>False) R' S2.gW fun b hb=>hb.elim) (by refine ab TG ?_;show l.length+1+_<=_;exact aH (bc l.length m.length) [(1,.add aq (.add aw ay),.num 1000000)] (.add (.add aq ay) aw) (.num 1000000) rfl hz) fun s3 R3 S3=>k s3 R3 ((S'.trans S2.gW).trans S3)⟩
end
section
variable {G:aA}{d:Nat}{H:AH}{n:Nat}{Q:KV}
theorem yb {a r:Addr}{l m:List V}(h:H a=some (.list l))(yL:H r=some (.sE m))(hz:l.length+m.length<=1000000)(q:Q .none (upd (cB H r) a (.list (l++m.reverse))) n):aW G d (.builtin "list.extend") [.ref a,.ref r] H n Q:=aW.two fun A s va vb Q' E hr ra rb R po=>by
 refine ab (show va=.ref a from ra) (ab (show vb=.ref r from rb) ?_);have Pe:r≠a:=fun e=>by rw [e,h] at yL;cases yL
 refine ah (R.objs _ _ h) fun aj FC rv=>?_;obtain ⟨nn,hl⟩:=FC;refine dg (R.objs _ _ yL) fun L dn ho O=>?_;have hTr:s.TypeIs (.ref r) "list_reverseiterator":=(ai _ ho rfl);refine ZT (codeAny_call_builtin PySem.F.slot_list_extend.plain PySem.F.entry_list_extend (PySem.F.slot_list_extend.check _ _ _ _ _ _ _ _ (ai _ hl rfl) (PySem.F.args_list_extend_2 _ _) ?_));unfold XN.«list.extend»;refine Xl (X1 (a:=(X0 a,X0 r)) rfl ?_);show wpAny _ _ (YY (.ref a) (.ref r) .none) _ _ _;unfold YY;refine Xl (Zj hTr ?_);refine ab (if_neg (by simp [XN.List.listSameRef,Pe.symm])) ?_;refine Xl (BD yL A.in1 n s (.ref r) _ _ (show A.in1.handled=none from hr.hh) rfl R fun it h2 Km X I2 FT=>?_);have R2:=R.into (tk:=Km) I2;refine Xl (Xs (BV (ai _ (I2.keep _ _ ho) rfl) ?_));refine ab (if_neg (by decide)) ?_;have hH:cB H r=upd (cB H r) a (.list l):=by
  funext b
  by_cases e:b=a
  ·exact ab e (ab ae (ab (cT Pe.symm) (ab h rfl)))
  ·exact ab (ak e) rfl
 rw [hH] at R2 FT;refine Xn ⟨Yu PySem.F.plain_extend_loop _,AL (G:=G.bo X) (show A.handled=none from hr.hh) (fun b hb=>.inr hb) m.reverse l _ R2 FT (by refine ab U3 ?_;exact hz) fun s4 R4 S4=>?_⟩;rw [<- hH] at S4;have S5:=((I2.step.gW (X:=X)).trans S4).toStep fun b o hb e=>by
  rcases (I2.new b hb).1 with z | z
  ·exact absurd (Xr e) (Ux.mpr z)
  ·exact z
 exact po _ _ _ _ _ q rfl R4.out S5 (TJ _)
end
theorem dS {H:AH}{a:Addr}{o:bG}(h:H a=some o):upd H a o=H:=by
 funext b
 by_cases e:b=a
 ·exact ab e (ab ae (ab h rfl))
 ·exact ab (ak e) rfl
section
variable {G:aA}{d:Nat}{H:AH}{n:Nat}{Q:KV}{h:Heap}{P:Addr->Prop}
theorem pK {k:SK}:∀{es:List (SK × V)} {kvs:List (SK × Value)},aP G h P es kvs->aP G h P (es.filter fun p=> !decide (p.1=k)) (without kvs k):=by
 intro es
 induction es with
 | nil=>
 exact fun {O} r=>by refine ab (show _=[] from r) ?_;rfl
 | cons rU es ih=>
 obtain ⟨k',x⟩:=rU;exact fun {O} r=>by
  refine cy r fun v r' h1 h2=>?_;have ih:=ih h2;unfold without at ih ⊢
  by_cases e:k'=k
  ·simp only [Ve,e,decide_true,Bool.not_true,ne_eq,not_true_eq_false,decide_false,Bool.false_eq_true,if_false];exact ih
  ·simp only [Ve,e,decide_false,Bool.not_false,ne_eq,not_false_eq_true,decide_true,if_true];exact (bA v _ rfl h1 ih)
theorem pZ {k:SK}:∀{es:List (SK × V)},bw es k=none->es.filter (fun p=> !decide (p.1=k))=es
 | []=> @fun O=>rfl
 | (k',x)::es=> @fun e=>by
  unfold bw at e;rw [Ue] at e
  by_cases q:k'=k
  ·subst q;rw [beq_self_eq_true] at e;injection e
  ·have e2:(k==k')=false:=by simpa using fun z=>q z.symm
   rw [e2] at e;exact ab Ve (ab (if_pos (by simpa using q)) (ab (pZ e) rfl))
theorem Jc {a:Addr}{es:List (SK × V)}(ok:eu G)(h:H a=some (.dict es)):eK G (.ref a) "pop" H (.builtin "dict.pop"):=BY ok (.made h) PySem.F.slot_dict_pop PySem.F.type_dict_pop
theorem Hu {a:Addr}{es:List (SK × V)}{k:Str}{x:V}(ok:eu G)(h:H a=some (.dict es))(ht:∀p∈es,p.1.tag=1)(hz:es.length<=1000)(q:Q ((bw es (.str k)).getD x) (upd H a (.dict (es.filter fun p=> !decide (p.1=.str k)))) n):
 aW G d (.builtin "dict.pop") [.ref a,.str k,x] H n Q:=by
 intro A s aD Q' E hr r R po;obtain ⟨va,r',rfl,ra,r⟩:=r.cons_inv;obtain ⟨vk,r',rfl,rk,r⟩:=r.cons_inv;obtain ⟨vx,r',rfl,rx,r⟩:=r.cons_inv;refine ab r.nil_inv (ab (show va=.ref a from ra) ?_);obtain ⟨tk,rfl⟩:=SK.cp rk;refine cn ((cO.made h).keyed (k:=.str k) ok R (show aC G s.heap (Pf G H) (.ref a) (.ref a) from rfl) ht) fun a' kvs e hs hd rv=>?_
 (injection e with e;subst e)
 have hl:=rv.length;have hv:=dy (k:=.str k) rv;have nM:(bT G.prog G.w (SK.str k).tag).is (.str k) (.str k tk)=true:=iH rk
 cases e:bw es (.str k) with
 | none=>
  rw [e] at hv q;refine YE PySem.F.slot_dict_pop hd.typeIs PySem.F.entry_dict_pop (PySem.F.args_dict_pop_3 _ _ _) (meets_dict_pop_default _ _ nM hs rfl vx) (bW kvs hd hv ?_);rw [pZ e,dS h] at q;exact po _ _ _ _ _ q rx R.toks (.refl _ _) (TJ _)
 | some y=>
  rw [e] at hv q;refine ah hv fun v hv rv'=>?_;refine YE PySem.F.slot_dict_pop hd.typeIs PySem.F.entry_dict_pop (PySem.F.args_dict_pop_3 _ _ _) (meets_dict_pop_there _ _ nM [vx] (.inr ⟨_,rfl⟩) rfl) (cD kvs v hd (by refine ab Xw ?_;exact aH (bc es.length kvs.length) [(1,aq,.num 1000),(1,aw,aq)] aw (.num 16777216) rfl hz (TL hl)) hv (fun h' vw sD=>?_));obtain ⟨R2,S2⟩:=R.turn (tk:=s.toks+1) (o:=.dict (es.filter fun p=> !decide (p.1=.str k))) sD (by refine ab h ?_;simp) (by refine ab h ?_;simp) fun K=>(ai _ ⟨_,vw⟩ (aP.kept K _ (pK rv)));exact po _ _ _ _ _ q (R.rel S2 rv') R2 S2 (TJ _)
end
section
variable {G:aA}{σ:cw}{d:Nat}{ρ:bt}{H:AH}{n:Nat}{Q:KV}
noncomputable def mq (G:aA)(σ:cw)(d:Nat):List X->bt->AH->Nat->KV->Prop
 | [],_,_,_,_=>False
 | [x],ρ,H,n,Q=>bl G σ d x ρ H n Q
 | x::y::xs,ρ,H,n,Q=>bl G σ d x ρ H n fun v H1 n1=>∃b,v=.bool b/\(if b then mq G σ d (y::xs) ρ H1 n1 Q else Q (.bool false) H1 n1)
theorem wJ:∀{xs:List X} {es:List Expr} {H:AH} {n:Nat} {pos:Pos} {env:Env} {A:Xv} {s:Xm} {Q':Value->Xm->Prop} {E:Value->Xm->Prop},mS σ es xs->bQ G σ env->cH d A->df G σ env ρ H s.heap->ba G H n s->
 mq G σ d xs ρ H n Q->gC G H n s Q Q'->wpAny (model G.prog G.w) A (eval (.BoolOp .And es pos) env) Q' E s
 | [],_,_,_,_,_,_,_,_,_,_,_,_,_,_,h,_=>h.elim
 | [x],es,H,n,pos,env,A,s,Q',E,ht,he,hr,F,R,h,po=>by
  refine e8 ht fun e es hx t1 t2=>?_;refine ab (j4 t2) ?_;exact BoolOp_one (h _ _ _ _ _ _ t1 he hr F R po)
 | x::y::xs,es,H,n,pos,env,A,s,Q',E,ht,he,hr,F,R,h,po=>by
  refine e8 ht fun e es hx t1 t2=>?_;have t5:=t2;revert t5;refine e8 t2 fun e2 es vJ t3 t4 t5=>?_;refine BoolOp_and (h _ _ _ _ _ _ t1 he hr F R fun v H1 n1 v' s1 h1 rv R1 S1 l1=>?_);obtain ⟨b,rfl,h1⟩:=h1;refine ab (show v'=.bool b from rv) ?_;refine Xn ?_
  cases b with
  | false=>exact po _ _ _ _ _ h1 rfl R1 S1 l1
  | true=>exact wJ t5 he hr (F.step R S1) R1 h1 fun v H2 n2 v' s2 q r R2 S2 l2=>po _ _ _ _ _ q r R2 (S1.trans S2) (TF l1 l2)
theorem HJ {xs:List X}(h:mq G σ d xs ρ H n Q):bl G σ d (.gx .And xs) ρ H n Q:=by
 intro e env A s Q' E ht he hr F R po;refine rA ht fun es p ts=>?_;exact wJ ts he hr F R h po
theorem ba.Gj {s:Xm}(R:ba G H n s){a c dx:Addr}{fs:List (Str × V)}(ha:H a=some (.inst c dx fs)):
 ba G (cB (cB H a) dx) n s/\cz H s.heap (cB (cB H a) dx) s.heap/\aC G s.heap (Pf G (cB (cB H a) dx)) (.cU c fs) (.ref a):=by
 refine qS (R.objs _ _ ha) fun dp od es k gJ h1 h2 Il A2 hsz hl hv=>?_;have z:∀x,x∈[a,dx]->cB (cB H a) dx x=none:=fun x hx=>by
  rcases TN.mp hx with rfl | hx
  ·by_cases e:x=dx
   ·exact ab e (ab dK rfl)
   ·exact ab (cT e) (ab dK rfl)
  ·exact ab (TK.mp hx) (ab dK rfl)
 have aJ:∀x,x∈[a,dx]->H x≠none:=fun x hx=>by
  rcases TN.mp hx with rfl | hx
  ·refine ab ha ?_;simp
  ·refine ab (TK.mp hx) (ab gJ ?_);simp
 obtain ⟨R2,S2⟩:=R.change [a,dx] (h':=s.heap) (H':=cB (cB H a) dx) (n':=n) (tk:=s.toks) (fun b O o e=>e) (fun b hb=>by
   rw [cT fun e=>hb (by refine ab e ?_;exact .tail _ (.head _)),cT fun e=>hb (by refine ab e ?_;exact .head _)]) (fun x hx=>.inl (aJ x hx))
  (fun x hx a0 e=>by
   rcases TN.mp hx with rfl | hx
   ·rw [ha] at e;cases e
   ·rw [TK.mp hx,gJ] at e;cases e;exact .head _)
  R.size (TJ _) (fun K x hx o e=>by rw [z x hx] at e;injection e) (fun x hx e=>absurd (z x hx) e)
 refine ⟨R2,S2,sJ a dx dp od rfl ⟨z _ (.head _),R.lo _ (aJ _ (.head _))⟩ ⟨z _ (.tail _ (.head _)),R.lo _ (aJ _ (.tail _ (.head _)))⟩ h1 h2 hl (hG.kept (R.kept S2) _ hv)⟩
theorem AV {i:Nat}{a dx t r c:Addr}{f1 f2:Str}{es er:List (SK × V)}(hi:ρ[i]? =some (some (.ref a)))(ha:H a=some (.inst c dx [(f1,.ref t),(f2,.ref r)]))(ht:H t=some (.dict es))(hr:H r=some (.dict er))(aJ:t≠r):
 Gh G σ ρ H (ρ.set i (some (.cU c [(f1,.az t es),(f2,.az r er)]))) (cB (cB (cB (cB H a) dx) t) r):=fun env s n F R=>by
 refine o5 (R.objs _ _ ha) fun dp od es' k gJ O=>?_;refine cS (R.Gj ha) fun R1 S1 r1=>?_;have hta:t≠a:=fun e=>by rw [e,ha] at ht;cases ht
 have htd:t≠dx:=fun e=>by rw [e,gJ] at ht;cases ht
 have IJ:r≠a:=fun e=>by rw [e,ha] at hr;cases hr
 have Rk:r≠dx:=fun e=>by rw [e,gJ] at hr;cases hr
 have rp:cB (cB H a) dx t=some (.dict es):=by exact ab (cT htd) (ab (cT hta) (ab ht rfl))
 obtain ⟨R2,S2⟩:=R1.drop rp (by simp);have rt:=fV R1 rp;have hr2:cB (cB (cB H a) dx) t r=some (.dict er):=by exact ab (cT aJ.symm) (ab (cT Rk) (ab (cT IJ) (ab hr rfl)))
 obtain ⟨R3,S3⟩:=R2.drop hr2 (by simp);have rr:=fV R2 hr2;refine ⟨(F.step R ((S1.trans S2).trans S3)).rY hi fun v' e=>?_,R3,(S1.trans S2).trans S3⟩;refine ab (show v'=.ref a from e) ?_;refine zF (R2.rel S3 (R1.rel S2 r1)) fun b uO dp od e p1 p2 g1 g2 g3 g4=>?_;refine cu g4 fun v1 r' gR e1 bN=>?_;subst gR;refine cu bN fun v2 G1 iq e2 e3=>?_;subst iq;rw [show v1=.ref t from e1,show v2=.ref r from e2] at g3;exact (sJ b uO _ od e p1 p2 g1 g2 g3 (bA _ _ rfl (R2.rel S3 rt) (bA _ _ rfl rr e3)))
theorem NZ {c c' ru:Nat}{args:List V}(ok:eu G)(MT:G.ca c'=G.ca c)(C:jf G c ru)(h:∀dx x,n<=dx->dx≠x->n<=x->H dx=none->H x=none->x8 G d (G.fa ru) (.ref x::args) (upd (upd H dx (.own x)) x (.inst c dx [])) (x+1) fun v H' n'=>v=.none/\∃uO fs,H' x=some (.inst c uO fs)/\Q (.cU c fs) (cB (cB H' x) uO) n'):
 mR G (d+1) c' args H n Q:=by
 unfold mR;refine ab MT ?_;intro A s aD Q' E hr rv R po;refine GS (Q:=fun v H' n'=>∃x uO fs,v=.ref x/\H' x=some (.inst c uO fs)/\Q (.cU c fs) (cB (cB H' x) uO) n') ok C (fun dx x h1 h2 h3 h4 h5=>?_) A s aD Q' E hr rv R fun v H' n' v' s' q r R' S' l'=>?_
 ·intro A s aD R' hr rv R po;refine h dx x h1 h2 h3 h4 h5 A s aD R' hr rv R fun v H' n' v' s' q=>?_;obtain ⟨jI,bN⟩:=q;subst jI;refine dg bN fun uO fs h6 h7=>?_;exact po .none H' n' v' s' ⟨rfl,lW x uO fs rfl h6 h7⟩
 ·refine mN q fun x uO fs pF h6 h7=>?_;subst pF;refine cS (R'.Gj h6) fun R2 S2 r2=>?_;refine ab (show v'=.ref x from r) ?_;exact po _ _ _ _ _ h7 r2 R2 (S'.trans S2) l'
end
mutual
noncomputable def V.dG (S:Addr->Bool):V->V
 | .tup l=>.tup (oP S l)
 | .ag l=>.ag (oP S l)
 | .az a es=>if S a then .ref a else .az a (dX S es)
 | .cU c fs=>.cU c (CT S fs)
 | .none=>.none
 | .bool b=>.bool b
 | .sk k=>.sk k
 | .ref a=>.ref a
noncomputable def oP (S:Addr->Bool):List V->List V
 | []=>[]
 | x::xs=>x.dG S::oP S xs
noncomputable def dX (S:Addr->Bool):List (SK × V)->List (SK × V)
 | []=>[]
 | (k,x)::xs=>(k,x.dG S)::dX S xs
noncomputable def CT (S:Addr->Bool):List (Str × V)->List (Str × V)
 | []=>[]
 | (k,x)::xs=>(k,x.dG S)::CT S xs
end
noncomputable def t8 (k:Str):Bool:=k==("Kids":Str) || (k==("Names":Str) || k==("Nums":Str))
mutual
noncomputable def V.fw:V->Bool
 | .tup l=>pE l
 | .ag l=>pE l
 | .az _ es=>ip es
 | .cU _ fs=>Ck fs
 | _=>true
noncomputable def pE:List V->Bool
 | []=>true
 | x::xs=>x.fw&&pE xs
noncomputable def ip:List (SK × V)->Bool
 | []=>true
 | (_,x)::xs=>x.fw&&ip xs
noncomputable def Ck:List (Str × V)->Bool
 | []=>true
 | (k,x)::xs=> !t8 k&&(x.fw&&Ck xs)
end
mutual
noncomputable def V.has (q:V->Prop):V->Prop
 | .tup l=>vt q l
 | .ag l=>vt q l
 | .az a es=>q (.az a es)\/A0 q es
 | .cU _ fs=>Ee q fs
 | _=>False
noncomputable def vt (q:V->Prop):List V->Prop
 | []=>False
 | x::xs=>x.has q\/vt q xs
noncomputable def A0 (q:V->Prop):List (SK × V)->Prop
 | []=>False
 | (_,x)::xs=>x.has q\/A0 q xs
noncomputable def Ee (q:V->Prop):List (Str × V)->Prop
 | []=>False
 | (_,x)::xs=>x.has q\/Ee q xs
end
section
variable {G:aA}{h:Heap}{P P':Addr->Prop}{S:Addr->Bool}{y:V->Prop}
mutual
theorem mx:∀(x:V) {v:Value},aC G h P x v->x.has y->∃z v',y z/\aC G h P z v'
 | .tup l,_,r,q=>by refine cn r fun O O O O O r=>?_;exact iD l r q
 | .ag l,_,r,q=>by refine cn r fun O O O O O r=>?_;exact iD l r q
 | .az a es,_,r,q=>q.elim (fun e=>(cg _ _ e r)) fun q=>by refine cS r fun O O bN=>?_;refine ah bN fun O O r=>?_;exact nJ es r q
 | .cU c fs,_,r,q=>by refine zF r fun O O O O O O O O O O r=>?_;exact nK fs r q
 | .none,_,_,q=>q.elim
 | .bool _,_,_,q=>q.elim
 | .sk _,_,_,q=>q.elim
 | .ref _,_,_,q=>q.elim
theorem iD:∀(x:List V) {v:List Value},au G h P x v->vt y x->∃z v',y z/\aC G h P z v'
 | [],_,_,q=>q.elim
 | x::xs,_,r,q=>by refine cy r fun v r' h1 h2=>?_;exact q.elim (mx x h1) (iD xs h2)
theorem nJ:∀(x:List (SK × V)) {v:List (SK × Value)},aP G h P x v->A0 y x->∃z v',y z/\aC G h P z v'
 | [],_,_,q=>q.elim
 | (_,x)::xs,_,r,q=>by refine cu r fun v r' iq h1 h2=>?_;subst iq;exact q.elim (mx x h1) (nJ xs h2)
theorem nK:∀(x:List (Str × V)) {v:List (Str × Value)},hG G h P x v->Ee y x->∃z v',y z/\aC G h P z v'
 | [],_,_,q=>q.elim
 | (_,x)::xs,_,r,q=>by refine cu r fun v r' jI h1 h2=>?_;subst jI;exact q.elim (mx x h1) (nK xs h2)
end
noncomputable def iw (h:Heap)(a:Addr):Prop:=∃o,h.get? a=some o/\o.cls=.type "dict"/\∃k v,t8 k=true/\Yk k o=some (some v)
theorem qB {t:Nat}{k:Str}:∀{es:List XE} {kvs:List (SK × Value)},Pairs (bT G.prog G.w t) es kvs->SK.str k∈kvs.map (·.1)->∃e∈es,e.key.isStr k=true
 | [],_=> @fun r h=>by cases r;exact nomatch h
 | e::es,[]=> @fun O h=>nomatch h
 | e::es,kv::kvs=> @fun r h=>by
  cases r with | cons h1 _ h2=>?_
  rcases TN.mp h with h | h
  ·have h3:=(af h1).2;rw [<- show SK.str k=kv.1 from h] at h3;obtain ⟨tk,h3⟩:=SK.cp h3;exact (ai e (TM ..) (by refine ab h3 ?_;exact beq_self_eq_true _))
  ·refine ah (qB h2 h) fun e' h4 h5=>?_;exact (ai e' (TP _ h4) h5)
theorem y2 {a:Addr}{kvs:List (SK × Value)}{k:Str}(hd:DictAt G h a kvs)(hk:SK.str k∈kvs.map (·.1))(hn:t8 k=true):iw h a:=by
 refine G7 hd fun t o es ep ho hx A2 hh hp O=>?_;refine ah (qB hp hk) fun e he hs=>?_
 cases q:es.toList.find? (·.key.isStr k) with
 | none=>exact absurd hs (List.find?_eq_none.mp q e he)
 | some e'=>exact (bW o ho hx.1 (cg k e'.val hn (by unfold Yk;refine ab A2 ?_;dsimp only;exact ab q rfl)))
theorem qO {k:Str}(hk:t8 k=true):∀{fs:List (Str × V)} {dp:List (Str × Value)},Ck fs=true->hG G h P fs dp->dp.lookup k=none
 | [],_,_,r=>by refine ab (show _=[] from r) ?_;rfl
 | (k',x)::fs,_,e,r=>by
  refine cu r fun v r' pF h1 h2=>?_;subst pF;obtain ⟨e1,e2⟩:=af e;obtain ⟨_,e3⟩:=af e2;refine ab Ue ?_;have:(k==k')=false:=by
   cases q:k==k' with
   | false=>rfl
   | true=>rw [<- eq_of_beq q,hk] at e1;injection e1
  refine ab this ?_;exact qO hk e3 h2
mutual
theorem kB (hS:∀a,S a=true->iw h a)(hP:∀a,P a->S a=false->P' a):∀(x:V) {v:Value},x.fw=true->aC G h P x v->aC G h P' (x.dG S) v
 | .tup l,_,k,r=>by
  refine cn r fun a aj e p ht r=>?_;refine (cD a aj e (p.imp_left fun p=>hP _ p ?_) ht (iM hS hP l k r))
  cases q:S a with
  | false=>rfl
  | true=>
   refine bE (hS a q) fun o ho hc O=>?_;refine bE ht fun o' yI nL O=>?_;rw [ho] at yI;(injection yI with e;subst e);rw [hc] at nL;exact absurd nL (by decide)
 | .ag l,_,k,r=>by
  refine cn r fun a aj e p ht r=>?_;refine (cD a aj e (hP _ p ?_) ht (iM hS hP l k r))
  cases q:S a with
  | false=>rfl
  | true=>
   refine bE (hS a q) fun o ho hc O=>?_;obtain ⟨n,yI⟩:=ht;rw [ho] at yI;(injection yI with e;subst e);exact absurd (show XK "list"=XK "dict" from hc) (by decide)
 | .az a es,v,k,r=>by
  show aC G h P' (if S a then .ref a else .az a (dX S es)) v;refine cS r fun e p bN=>?_;refine ah bN fun kvs hd r=>?_
  cases q:S a with
  | true=>exact e
  | false=>exact ⟨e,hP _ p q,ai kvs hd (kD hS hP es k r)⟩
 | .cU c fs,_,k,r=>by
  refine zF r fun a dx dp od e p1 p2 g1 g2 g3 r=>?_;refine (sJ a dx dp od e (hP _ p1 ?_) (hP _ p2 ?_) g1 g2 g3 (oO hS hP fs k r))
  ·cases q:S a with
   | false=>rfl
   | true=>
    refine bE (hS a q) fun o ho hc O=>?_;rw [ho] at g1;(injection g1 with e;subst e);injection hc
  ·cases q:S dx with
   | false=>rfl
   | true=>
    refine bE (hS dx q) fun o ho hc bN=>?_;refine dg bN fun kk v hk hl=>?_;rw [ho] at g2;(injection g2 with e;subst e);rw [g3,qO hk k r] at hl;cases hl
 | .none,_,_,r=>r
 | .bool _,_,_,r=>r
 | .sk _,_,_,r=>r
 | .ref _,_,_,r=>r
theorem iM (hS:∀a,S a=true->iw h a)(hP:∀a,P a->S a=false->P' a):∀(x:List V) {v:List Value},pE x=true->au G h P x v->au G h P' (oP S x) v
 | [],_,_,r=>r
 | x::xs,_,k,r=>by refine cu r fun v r' lu h1 h2=>?_;subst lu;exact (bA v r' rfl (kB hS hP x (af k).1 h1) (iM hS hP xs (af k).2 h2))
theorem kD (hS:∀a,S a=true->iw h a)(hP:∀a,P a->S a=false->P' a):∀(x:List (SK × V)) {v:List (SK × Value)},ip x=true->aP G h P x v->aP G h P' (dX S x) v
 | [],_,_,r=>r
 | (_,x)::xs,_,k,r=>by refine cu r fun v r' vZ h1 h2=>?_;subst vZ;exact (bA v r' rfl (kB hS hP x (af k).1 h1) (kD hS hP xs (af k).2 h2))
theorem oO (hS:∀a,S a=true->iw h a)(hP:∀a,P a->S a=false->P' a):∀(x:List (Str × V)) {v:List (Str × Value)},Ck x=true->hG G h P x v->hG G h P' (CT S x) v
 | [],_,_,r=>r
 | (_,x)::xs,_,k,r=>by refine cu r fun v r' zc h1 h2=>?_;subst zc;exact (bA v r' rfl (kB hS hP x (af (af k).2).1 h1) (oO hS hP xs (af (af k).2).2 h2))
end
end
theorem uF {S:Addr->Bool}:∀(fs:List (Str × V)),(CT S fs).length=fs.length
 | []=>rfl
 | (_,_)::fs=>congrArg (· +1) (uF fs)
noncomputable def OM (S:Addr->Bool)(es:List (List Int × V)):List (List Int × V):=es.map fun e=>(e.1,e.2.dG S)
noncomputable def bG.dG (S:Addr->Bool):bG->bG
 | .list l=>.list (oP S l)
 | .dict es=>.dict (dX S es)
 | .aO es=>.aO (OM S es)
 | .inst c dx fs=>.inst c dx (CT S fs)
 | .sE l=>.sE (oP S l)
 | .own a=>.own a
 | .tab b=>.tab b
 | .jK a b c=>.jK a b c
noncomputable def bG.fw:bG->Bool
 | .list l=>pE l
 | .dict es=>ip es
 | .aO es=>es.all fun e=>e.2.fw
 | .inst _ _ fs=>Ck fs
 | .sE l=>pE l
 | _=>true
noncomputable def bG.has (q:V->Prop):bG->Prop
 | .list l=>vt q l
 | .dict es=>A0 q es
 | .inst _ _ fs=>Ee q fs
 | .sE l=>vt q l
 | _=>False
noncomputable def cV (T:List (Addr × List (SK × V)))(a:Addr):Bool:=(T.lookup a).isSome
noncomputable def ir (T:List (Addr × List (SK × V)))(H:AH):AH:=fun a=>match T.lookup a with
 | some es=>some (.dict (dX (cV T) es))
 | none=>(H a).map (bG.dG (cV T))
noncomputable def zp (T:List (Addr × List (SK × V)))(ρ:bt):bt:=ρ.map (Xk (V.dG (cV T)))
structure FV (ne:Nat)(ρ:bt)(H:AH)(T:List (Addr × List (SK × V))):Prop where
 node:∀a es,T.lookup a=some es->ne<=a/\ip es=true/\(∃k,t8 k=true/\SK.str k∈es.map (·.1))/\((∃(i:Nat) (x:V),ρ[i]? =some (some x)/\x.has fun z=>z=.az a es)\/∃b o,H b=some o/\o.has fun z=>z=.az a es)
 okR:∀(i:Nat) (x:V),ρ[i]? =some (some x)->x.fw=true
 okH:∀b o,H b=some o->o.fw=true
section
variable {G:aA}{σ:cw}{d:Nat}{ρ:bt}{H:AH}{n ne:Nat}{T:List (Addr × List (SK × V))}
theorem qK {h:Heap}{P P':Addr->Prop}{S:Addr->Bool}(hS:∀a,S a=true->iw h a)(hP:∀a,P a->S a=false->P' a):∀{es:List (List Int × V)} {xs:List (List Int × Addr × Value)},(es.all fun e=>e.2.fw)=true->cb G h P es xs->cb G h P' (OM S es) xs
 | [],_,_,r=>r
 | (k,x)::es,_,q,r=>by
  refine mN r fun a v r' e h1 h2=>?_;exact (lW a v r' e (kB hS hP x (af q).1 h1) (qK hS hP (af q).2 h2))
theorem E8 {h:Heap}{a:Addr}{o:bG}{y:V->Prop}(r:fK G h H a o)(q:o.has y):∃z v',y z/\aC G h (Pf G H) z v':=by
 cases o with
 | list l=>refine ah r fun aj O r=>?_;exact iD l r q
 | dict es=>refine ah r fun kvs O r=>?_;exact nJ es r q
 | inst c dx fs=>refine qS r fun dp od es n O O O O O O O r=>?_;exact nK fs r q
 | sE l=>refine cn r fun L aj O O O r=>?_;exact iD l r q
 | aO=>exact q.elim
 | own=>exact q.elim
 | tab=>exact q.elim
 | jK=>exact q.elim
theorem J9 {dY:List St}{R:KV}(K:FV ne ρ H T)(hb:dH G σ d ne dY (zp T ρ) (ir T H) n R):dH G σ d ne (.dG::dY) ρ H n R:=by
 intro ss env A s Q' E He he hs Iq hr F Rp St aJ po;have node:∀a es,T.lookup a=some es->Pf G H a/\iw s.heap a/\ip es=true/\ne<=a/\∃kvs,DictAt G s.heap a kvs/\aP G s.heap (Pf G H) es kvs:=fun a es e=>by
  refine i7 (K.node a es e) fun h1 h2 Tp h3=>?_;obtain ⟨k,hk,hm⟩:=Tp;have:∃v',aC G s.heap (Pf G H) (.az a es) v':=by
   rcases h3 with ⟨i,x,hi,hx⟩ | ⟨b,o,hb,ho⟩
   ·have hv:OP σ=true:=(af hs).1;have A6:i<σ.vars.length:=by refine bk F.len ?_;exact (UT.mp hi).1
    have:=Ut.mp hv i (Vg.mpr A6);refine xK (M:=fun O=>_) this fun nm h4=>?_;obtain ⟨h5,h6⟩:=af h4;refine ah (F.vars nm i x h5 (eq_of_beq h6) hi) fun w O r=>?_;refine dg (mx x r hx) fun z v' JX r=>?_;subst JX;exact ⟨v',r⟩
   ·refine dg (E8 (Rp.objs b o hb) ho) fun z v' lr r=>?_;subst lr;exact ⟨v',r⟩
  refine bE this fun v' O hp bN=>?_;refine ah bN fun kvs hd r=>?_;exact ⟨hp,y2 hd (by refine ab r.keys ?_;exact hm) hk,h2,h1,ai kvs hd r⟩
 have hS:∀a,cV T a=true->iw s.heap a:=fun a e=>by
  obtain ⟨es,e⟩:=Vy.mp e;exact (node a es e).2.1
 have qn:∀a,cV T a=true->H a=none:=fun a e=>by
  obtain ⟨es,e⟩:=Vy.mp e;exact (node a es e).1.1
 have off:∀a,cV T a=false->ir T H a=(H a).map (bG.dG (cV T)):=fun a e=>by
  unfold ir;have:T.lookup a=none:=Option.isSome_eq_false_iff.mp e |> U9.mp;exact ab this rfl
 have on:∀a es,T.lookup a=some es->ir T H a=some (.dict (dX (cV T) es)):=fun a es e=>by unfold ir;exact ab e rfl
 have hP:∀a,Pf G H a->cV T a=false->Pf G (ir T H) a:=fun a p e=>⟨by refine ab (off a e) (ab p.1 ?_);rfl,p.2⟩;have hof:∀a o,H a=some o->cV T a=false:=fun a o e=>by
  cases q:cV T a with
  | false=>rfl
  | true=>rw [qn a q] at e;injection e
 have some_of:∀a,ir T H a≠none->(∃es,T.lookup a=some es)\/H a≠none:=fun a e=>by
  cases q:T.lookup a with
  | some es=>exact .inl ⟨es,rfl⟩
  | none=>
   refine .inr fun z=>e ?_;rw [off a (by unfold cV;refine ab q ?_;rfl),z];rfl
 have R2:ba G (ir T H) n s:=by
  refine ⟨Rp.base,Rp.size,fun a o e=>?_,Rp.glob,fun a e=>?_,fun a e=>?_⟩
  ·cases q:T.lookup a with
   | some es=>
    rw [on a es q] at e;(injection e with e;subst e);refine Dm (node a es q) fun O O ho O bN=>?_;refine ah bN fun kvs hd r=>?_;exact (ai kvs hd (kD hS hP es ho r))
   | none=>
    have qm:cV T a=false:=by unfold cV;refine ab q ?_;rfl
    rw [off a qm] at e;refine ah (UW.mp e) fun o1 e1 oB=>?_;subst oB;have r:=Rp.objs a o1 e1;have k:=K.okH a o1 e1
    cases o1 with
    | list l=>refine ah r fun aj hl r=>?_;exact (ai aj hl (iM hS hP l k r))
    | dict es=>refine ah r fun kvs hl r=>?_;exact (ai kvs hl (kD hS hP es k r))
    | aO es=>
     refine bE r fun xs hd hx r=>?_;refine (bW xs hd (fun x Pt=>(hx x Pt).imp_left fun p=>hP _ p ?_) (qK hS hP k r))
     cases q2:cV T x.2.1 with
     | false=>rfl
     | true=>
      refine bE (hS _ q2) fun o ho hc O=>?_;refine Lf hd fun o' es' ep h1 h2 h3 h4 h5 h6=>?_;refine kK (h5 x Pt) fun ok aj kk g1 g2 g3 g4=>?_;rw [ho] at g1;(injection g1 with e;subst e);rw [hc] at g2;exact absurd g2 (by decide)
    | inst c dx fs=>
     refine qS r fun dp od es k' h1 h2 h3 h4 h5 h6 h7 r=>?_;refine (uY dp od es k' ?_ h2 h3 h4 h5 ?_ h7 (oO hS hP fs k r))
     ·refine ab (off dx (hof dx _ h1)) (ab h1 ?_);rfl
     ·refine ab (uF ..) ?_;exact h6
    | sE l=>
     refine cn r fun L aj h1 h2 h3 r=>?_;refine (cD L aj h1 (hP _ h2 ?_) h3 (iM hS hP l k r))
     cases q2:cV T L with
     | false=>rfl
     | true=>
      refine bE (hS _ q2) fun o ho hc O=>?_;obtain ⟨nn,h3⟩:=h3;rw [ho] at h3;(injection h3 with e;subst e);exact absurd (show XK "list"=XK "dict" from hc) (by decide)
    | own a0=>exact r
    | tab b=>exact r
    | jK x y z=>exact r
  ·rcases some_of a e with ⟨es,q⟩ | q
   ·exact (node a es q).1.2
   ·exact Rp.lo a q
  ·refine cS (Rp.own a e) fun o1 o2 o3=>?_;refine ⟨o1,o2,?_⟩
   cases q:cV T a with
   | false=>refine ab (off a q) (ab o3 ?_);rfl
   | true=>
    obtain ⟨es,q⟩:=Vy.mp q;exact absurd e (node a es q).1.2.2
 have F2:df G σ env (zp T ρ) (ir T H) s.heap:=by
  refine ⟨F.ns,fun x i v h1 h2 h3=>?_,F.L,F.cells,(TH ..).trans F.len⟩;unfold zp at h3;rw [Ui] at h3;refine ah (UW.mp h3) fun w h4 h5=>?_;refine ah (UW.mp h5) fun u rW Cz=>?_;subst rW;subst Cz;refine ah (F.vars x i u h1 h2 h4) fun v' hh hr=>?_;exact (ai v' hh (kB hS hP u (K.okR i u h4) hr))
 have S2:ff σ env He he (ir T H) s.heap:=⟨St.keep,fun b e=>by
  rcases some_of b e with ⟨es,q⟩ | q
  ·exact .inr (TF aJ (node b es q).2.2.2.1)
  ·exact St.u9 b q,St.size⟩
 exact hb ss env A s Q' E He he (af hs).2 Iq hr F2 R2 S2 aJ po
end
structure aZ (G:aA):Prop where
 ok:eu G
 cls:∀c,Dj c=true->jf G c (60+c)
 met:∀f,RH f=true->FU G f
 fu:FR G
theorem eu.at {G:aA}(h:eu G)(o:Addr->Prop):eu (G.at o):=⟨h.rd,h.Ao,h.xr,h.FA,h.glob,h.L0,h.Qi,h.BH,h.BG⟩
theorem jf.at {G:aA}{c ru:Nat}(h:jf G c ru)(o:Addr->Prop):jf (G.at o) c ru:=⟨h.makes,h.init,h.GI,h.HX,h.getattr,h.OB,h.over,h.Ih,h.HU⟩
theorem aZ.at {G:aA}(h:aZ G)(o:Addr->Prop):aZ (G.at o):=
 ⟨h.ok.at o,fun c hc=>(h.cls c hc).at o,fun f hf=>⟨(h.met f hf).find,(h.met f hf).isF,(h.met f hf).keep,(h.met f hf).B5⟩,⟨h.fu.int,h.fu.list,h.fu.dict,h.fu.own,h.fu.Oo,h.fu.getset,h.fu.takes⟩⟩
theorem kj:∀{ρ:bt} {i:Nat} {v:V},je ρ i=some v->ρ[i]? =some (some v)
 | [],_,_,h=>nomatch h
 | _::_,0,_,h=>congrArg some h
 | _::xs,i+1,_,h=>by refine ab Wl ?_;exact kj (ρ:=xs) h
theorem xI {H:AH}{v:V}{K:List V->Prop}(h:zP H v K):∃l,fe H v l/\K l:=by
 cases v with
 | ag l=>exact (ai l .frozen h)
 | ref a=>refine ah h fun l ha h=>?_;exact (ai l (.made ha) h)
 | _=>exact False.elim h
theorem jY {H:AH}{v:V}{K:List (SK × V)->Prop}(h:mL H v K):∃l,cO H v l/\K l:=by
 cases v with
 | az a l=>exact (ai l .frozen h)
 | ref a=>refine ah h fun l ha h=>?_;exact (ai l (.made ha) h)
 | _=>exact False.elim h
theorem eh {es:List (SK × V)}{k:SK}(h:aR es k=true):∀p∈es,p.1.tag=k.tag:=fun p hp=>eq_of_beq (Ut.mp h p hp)
section
variable {G:aA}{σ:cw}{d:Nat}{ρ:bt}{H:AH}{n:Nat}{Q:KV}
theorem GU {b:Int}(h:(!(b==0))=true):b≠0:=fun e=>by rw [e] at h;injection h
theorem yc {op:YN}{a b:V}(h:Ld op a b H n Q):zu G d op a b H n Q:=by
 cases op with
 | Add=>cases a with
  | tup l=>refine ah (CQ h) fun m gR h1=>?_;subst gR;exact Cr (bh h1).2 (bh h1).1
  | ag l=>refine ah (BL h) fun m iq h1=>?_;subst iq;exact y7 .frozen .frozen (bh h1).2 (bh h1).1
  | sk k=>cases k with
   | int a=>refine ah (bR h) fun b jI h1=>?_;subst jI;exact Ob h1
   | str a=>refine bE (uq h) fun b pF h1 h2=>?_;subst pF;exact Cq h2 h1
   | bytes=>exact False.elim h
  | _=>exact False.elim h
 | Sub=>refine ah (bR h) fun a lu h1=>?_;subst lu;refine ah (bR h1) fun b vZ h2=>?_;subst vZ;exact Om h2
 | Mult=>cases a with
  | ag l=>refine ah (bR h) fun k zc bN=>?_;subst zc;refine mM bN fun x CA h1 h2 h3=>?_;subst CA;exact y8 .frozen h3 ⟨h1,h2⟩
  | sk k=>
   have h0:iV (.sk k) fun a=>iV b fun b=>ZU a b/\Q (.int (a*b)) H n:=h;refine ah (bR h0) fun a e h1=>?_;(injection e with e;subst e);refine bE (bR h1) fun b JX h2 h3=>?_;subst JX;exact Oh h3 h2
  | _=>exact False.elim h
 | Mod=>refine ah (bR h) fun a lr h1=>?_;subst lr;refine ah (bR h1) fun b oB h2=>?_;subst oB;exact Og (aK h2).2 (GU (aK h2).1)
 | FloorDiv=>refine ah (bR h) fun a rW h1=>?_;subst rW;refine ah (bR h1) fun b Cz h2=>?_;subst Cz;exact Jv (bh (aK h2).2).2 (GU (aK h2).1) (VR (bh (aK h2).2).1)
 | Pow=>refine ah (bR h) fun a rX h1=>?_;subst rX;refine mM (bR h1) fun b vY h2 h3 h4=>?_;subst vY;exact Ol h4 h2 h3
 | _=>exact False.elim h
theorem y1 {a:V}(h:Lp a H n Q):P6 G d a H n Q:=by
 refine ah (bR h) fun a JF h1=>?_;subst JF;exact Oj h1
theorem Bl {k c:V}(ok:eu G)(h:InP k c H fun b=>Q (.bool b) H n):oU G d .In k c H n Q:=by
 cases k with
 | sk k=>refine ah (jY h) fun es hd h=>?_;exact RW ok hd (eh (aK h).1) (aK h).2
 | tup l=>cases c with
  | ref a=>refine cu h fun is es JG ha h1=>?_;subst JG;exact Oc ok ha h1
  | tup m=>refine cu h fun is ms JH JI h1=>?_;subst JH;subst JI;exact Fe h1
  | _=>exact False.elim h
 | _=>exact False.elim h
theorem t9 {k c:V}(ok:eu G)(h:InN k c H fun b=>Q (.bool (!b)) H n):oU G d .NotIn k c H n Q:=by
 cases k with
 | sk k=>refine ah (jY h) fun es hd h=>?_;exact Ff ok hd (eh (aK h).1) (aK h).2
 | _=>exact False.elim h
theorem iP {op:CmpOp}{a b:V}(ok:eu G)(h:xZ op a b H n Q):oU G d op a b H n Q:=by
 cases op with
 | Lt=>refine ah (j5 h) fun a JJ h1=>?_;subst JJ;refine ah (j5 h1) fun b JK h2=>?_;subst JK;exact Of (xh (aK h2).1) (aK h2).2
 | LtE=>refine ah (j5 h) fun a JL h1=>?_;subst JL;refine ah (j5 h1) fun b JM h2=>?_;subst JM;exact Oe (xh (aK h2).1) (aK h2).2
 | Gt=>refine ah (bR h) fun a JN h1=>?_;subst JN;refine ah (bR h1) fun b JO h2=>?_;subst JO;exact RV h2
 | GtE=>refine ah (bR h) fun a JP h1=>?_;subst JP;refine ah (bR h1) fun b JQ h2=>?_;subst JQ;exact RU h2
 | Eq=>exact RT (bh (aK h).2).2 (aK h).1 (bh (aK h).2).1
 | NotEq=>
  have h0:Br (EH b) (mL H a fun es=>Q (.bool (!es.isEmpty)) H n) (dC (V.gG a b) (dC (Us a.dep 200) (Q (.bool (!V.eqv a b)) H n))):=h
  cases e:EH b with
  | true=>
   rw [e] at h0;refine ah (jY h0.t) fun es hd h1=>?_;have hb:∃x,b=.az x []:=by
    cases b with
    | az x es=>cases es with | nil=>exact ⟨x,rfl⟩ | cons=>exact absurd e T4
    | _=>exact absurd e T4
   obtain ⟨x,rfl⟩:=hb;exact Oi ok hd .frozen h1
  | false=>
   rw [e] at h0;exact R0 (bh (aK h0.f).2).2 (aK h0.f).1 (bh (aK h0.f).2).1
 | Is=>obtain ⟨rfl,h1⟩:=GR h;exact RX h1
 | IsNot=>obtain ⟨rfl,h1⟩:=GR h;exact Od h1
 | In=>exact Bl ok h
 | NotIn=>exact t9 ok h
theorem tZ {v:V}{l:List V}{i:V}(hv:fe H v l)(h:zI l i fun x=>Q x H n):sG G d v i H n Q:=by
 refine ah (bR h) fun i JR h1=>?_;subst JR;refine ah (jq h1) fun x hx h2=>?_;refine ah (Ht hx) fun j hj hx=>?_;exact Jx hv hj hx (bh h2).1 (bh h2).2
theorem tw {v:V}{es:List (SK × V)}{i:V}(ok:eu G)(hv:cO H v es)(h:wD es i fun x=>Q x H n):sG G d v i H n Q:=by
 refine ah (j5 h) fun k JS h1=>?_;subst JS;refine ah (jq (aK h1).2) fun x hx h2=>?_;exact Jw ok hv (eh (aK h1).1) hx h2
theorem zf {i:Int}{n j:Nat}(h:Yn i n=some j)(hz:n<=16777216): -(2 ^ 63)<=i/\i<2 ^ 63:=by
 unfold Yn at h
 by_cases hi:i<0
 ·simp only [hi,if_true] at h
  by_cases h1:0<=i+n
  ·exact ⟨Vk (by decide: -(2 ^ 63:Int)<= -16777216) (eO (lD i ((n:Nat):Int)) [(1,cG,.add bg dT),(1,dT,.num 16777216)] (.neg (.num 16777216)) bg rfl h1 (Ul.mpr hz)),Int.lt_of_lt_of_le hi (by decide)⟩
  ·rw [decide_eq_false h1] at h;injection h
 ·simp only [hi,if_false] at h
  by_cases h1:i<n
  ·exact ⟨Vk (by decide) (U2.mp hi),Int.lt_of_lt_of_le h1 (Vk (Ul.mpr hz) (by decide))⟩
  ·rw [decide_eq_false h1,WU] at h;injection h
theorem zl {a i:V}(ok:eu G)(h:Dy a i H n Q):sG G d a i H n Q:=by
 cases a with
 | ag l=>exact tZ .frozen h
 | tup l=>
  refine ah (bR h) fun i JT h1=>?_;subst JT;refine ah (jq h1) fun j hj h2=>?_;refine ah (jq h2) fun x hx h3=>?_;exact Jy hj hx (zf hj (bh h3).1) (bh h3).2
 | az a es=>exact tw ok .frozen h
 | ref a=>
  refine ah h fun o ho h1=>?_
  cases o with
  | list l=>exact tZ (.made ho) h1
  | dict es=>exact tw ok (.made ho) h1
  | aO es=>refine ah (CQ h1) fun l JU bN=>?_;subst JU;refine cu bN fun is x JV hx h2=>?_;subst JV;exact Fd ok ho hx h2
  | _=>exact False.elim h1
 | _=>exact False.elim h
theorem zg {a i v:V}{K:AH->Nat->Prop}(ok:eu G)(h:Ly a i v H fun H1=>K H1 n):zT G d a i v H n K:=by
 refine ah (gh h) fun a JW bN=>?_;subst JW;refine ah bN fun o ho h1=>?_
 cases o with
 | list l=>
  refine ah (bR h1) fun i Sf h2=>?_;subst Sf
  cases i with
  | ofNat j=>exact JB ho (bh h2).1 (bh (bh h2).2).1 (bh (bh h2).2).2
  | negSucc j=>exact False.elim h2
 | dict es=>refine ah (j5 h1) fun k Sg h2=>?_;subst Sg;exact JA ok ho (eh (aK h2).1) (bh (aK h2).2).1 (bh (aK h2).2).2
 | aO es=>obtain ⟨l,rfl,is,rfl,h2⟩:=CQ h1;exact Fg ok ho (bh h2).1 (bh h2).2
 | _=>exact False.elim h1
theorem u5 {a:V}{f:Str}(ok:aZ G)(h:FN a f H n Q):Hb G d a f H n Q:=by
 cases a with
 | cU c fs=>
  refine ah (jq (aK h).2) fun x hx h1=>?_;exact Cs ok.ok (ok.cls c (af (aK h).1).1) (.inl rfl) (aK h).1 hx h1
 | ref a=>
  refine jt h fun c dx fs ha h=>?_;refine ah (jq (aK h).2) fun x hx h1=>?_;exact Cs ok.ok (ok.cls c (af (aK h).1).1) (.inr (cg a dx rfl ha)) (aK h).1 hx h1
 | _=>exact False.elim h
theorem uy {a v:V}{f:Str}{K:AH->Nat->Prop}(ok:aZ G)(h:zS a f v H fun H1=>K H1 n):zQ G d a f v H n K:=by
 refine ah (gh h) fun a Si bN=>?_;subst Si;refine jt bN fun c dx fs ha h1=>?_;exact Jz ok.ok (ok.cls c (af (aK h1).1).1) ha (aK h1).1 (bh (aK h1).2).1 (bh (aK h1).2).2
theorem yx {a:V}{K:V->AH->Prop}(h:Lh a H K):∃v2 H2,G9 a H v2 H2/\K v2 H2:=by
 cases a with
 | ref a=>
  refine ah h fun o ho h1=>?_
  cases o with
  | list l=>exact (cg _ _ (.list ho) h1)
  | dict l=>exact (cg _ _ (.dict ho) h1)
  | _=>exact False.elim h1
 | _=>exact (cg _ _ .refl h)
theorem Ah {b:BN}{vs:List V}(ok:eu G)(h:BiP b vs H n Q):aW G d (jT b) vs H n Q:=by
 cases b with
 | len=>
  refine ah (eT h) fun v Sj h1=>?_;subst Sj
  cases v with
  | tup l=>exact Hx (bh h1).1 (bh h1).2
  | ag l=>exact FY .frozen (bh h1).1 (bh h1).2
  | ref a=>refine ah h1 fun l ha h2=>?_;exact FY (.made ha) (bh h2).1 (bh h2).2
  | _=>exact False.elim h1
 | min=>refine dg (zY h) fun a b Sk h1=>?_;subst Sk;refine ah (bR h1) fun a Sl h2=>?_;subst Sl;refine ah (bR h2) fun b Sm h3=>?_;subst Sm;exact LV h3
 | max=>refine dg (zY h) fun a b Sn h1=>?_;subst Sn;refine ah (bR h1) fun a So h2=>?_;subst So;refine ah (bR h2) fun b Sp h3=>?_;subst Sp;exact LU h3
 | abs=>refine ah (eT h) fun a Sq h1=>?_;subst Sq;refine ah (bR h1) fun a Sr h2=>?_;subst Sr;exact LR h2
 | int=>refine ah (eT h) fun a Ss h1=>?_;subst Ss;refine ah (bR h1) fun a Su h2=>?_;subst Su;exact LS h2
 | str=>refine ah (eT h) fun a Sv h1=>?_;subst Sv;refine bE (bR h1) fun a Sw h2 h3=>?_;subst Sw;exact LY h2 h3
 | bytes=>
  refine ah (eT h) fun v Sx h1=>?_;subst Sx
  cases v with
  | ag l=>refine mM h1 fun ns Sy h2 h3 h4=>?_;subst Sy;exact DF .frozen h2 h3 h4
  | sk k=>cases k with
   | bytes b=>exact Aa h1
   | _=>exact False.elim h1
  | _=>exact False.elim h1
 | tuple=>
  refine ah (eT h) fun v Sz h1=>?_;subst Sz;refine ah (xI h1) fun l hv h2=>?_;exact DI hv (bh h2).1 (bh h2).2
 | dict=>
  refine ah (eT h) fun v SA h1=>?_;subst SA;refine ah (jY h1) fun l hv h2=>?_;exact Ab ok hv (bh h2).1 (bh h2).2
 | lE=>
  refine ah (eT h) fun v SE h1=>?_;subst SE
  cases v with
  | ag l=>refine qQ h1 fun ps t SF h2 h3 h4 h5=>?_;subst SF;exact DH h2 h3 h4 h5
  | az a es=>exact wK ok .frozen (bh h1).1 (bh h1).2
  | ref a=>refine ah h1 fun es ha h2=>?_;exact wK ok (.made ha) (bh h2).1 (bh h2).2
  | _=>exact False.elim h1
 | sorted=>
  refine ah (eT h) fun v SG h1=>?_;subst SG
  cases v with
  | ag l=>refine bE h1 fun ks SH h2 h3=>?_;subst SH;exact Ag .frozen h2.1 h2.2 h3
  | az a es=>exact pT ok .frozen h1.1.1 h1.1.2 h1.2
  | ref a=>refine bE h1 fun es ha h2 h3=>?_;exact pT ok (.made ha) h2.1 h2.2 h3
  | _=>exact False.elim h1
 | reversed=>
  refine ah (eT h) fun v SI h1=>?_;subst SI;refine ah (BL h1) fun l SJ h2=>?_;subst SJ;exact mX h2
 | _=>exact False.elim h
end
section
variable {G:aA}{σ:cw}{d:Nat}{ρ:bt}{H:AH}{n:Nat}{Q Q2:KV}
theorem cj.mono {vs:List V}{t:List Value->Sem Value}(h:cj G d vs t H n Q)(k:∀v H n,Q v H n->Q2 v H n):cj G d vs t H n Q2:=
 fun A s aD Q' E hr rv R po=>h A s aD Q' E hr rv R fun v H' n' v' s' q=>po v H' n' v' s' (k _ _ _ q)
theorem ik.mono {x:X}{Q Q2:KB}(h:ik G σ d x ρ H n Q)(k:∀v H n,Q v H n->Q2 v H n):ik G σ d x ρ H n Q2:=
 fun e env A s Q' E hx ht he hr F R po=>h e env A s Q' E hx ht he hr F R fun v H' n' s' q=>po v H' n' s' (k _ _ _ q)
theorem eR.mono {x:List X}{Q Q2:KL}(h:eR G σ d x ρ H n Q)(k:∀v H n,Q v H n->Q2 v H n):eR G σ d x ρ H n Q2:=
 fun e env A s p Q' E ht he hr F R po=>h e env A s p Q' E ht he hr F R fun v H' n' v' s' q=>po v H' n' v' s' (k _ _ _ q)
theorem ij.mono {x:X}{v:V}{Q Q2:KR}(h:ij G σ d x v ρ H n Q)(k:∀v H n,Q v H n->Q2 v H n):ij G σ d x v ρ H n Q2:=
 fun te env A s v' Q' E mz ht he hr F R rv po=>h te env A s v' Q' E mz ht he hr F R rv fun ρ' H' n' s' q=>po ρ' H' n' s' (k _ _ _ q)
theorem dZ.mono:∀{xs:List X} {ρ:bt} {H:AH} {n:Nat} {Q Q2:KB},dZ G σ d xs ρ H n Q->(∀v H n,Q v H n->Q2 v H n)->dZ G σ d xs ρ H n Q2
 | [],_,_,_,_,_,h,k=>k _ _ _ h
 | x::xs,_,_,_,_,_,h,k=>ik.mono h fun b H1 n1 h1=>by
  cases b with
  | true=>exact dZ.mono (xs:=xs) h1 k
  | false=>exact k _ _ _ h1
theorem Jf {α:Type}{a:α}{P:Prop}(e:none=some a):P:=absurd e.symm (Option.some_ne_none a)
noncomputable def kM (ρ0 ρ1:bt):Prop:=ρ0.length=ρ1.length/\∀(i:Nat) v,ρ0[i]? =some (some v)->ρ1[i]? =some (some v)
theorem kM.refl (ρ:bt):kM ρ ρ:=⟨rfl,fun O O h=>h⟩
theorem qF:∀{ρ:bt} {i:Nat} {v:V},je ρ i=none->ρ[i]? ≠some (some v)
 | [],_,_,_=>by simp
 | x::_,0,_,h=>by refine ab (show x=none from h) ?_;simp
 | _::xs,i+1,_,h=>by refine ab Wl ?_;exact qF (ρ:=xs) h
theorem kM.set {ρ0 ρ:bt}{i:Nat}{v:V}(h:kM ρ0 ρ)(hi:je ρ0 i=none):kM ρ0 (ρ.set i (some v)):=
 ⟨h.1.trans (WD ..).symm,fun j w e=>by
  refine ab Wn ?_
  by_cases q:i=j
  ·subst q;exact absurd e (qF hi)
  ·refine ab (if_neg q) ?_;exact h.2 j w e⟩
theorem ij.forget {x:X}{v:V}{ρ0:bt}{Q:KR}(h:ij G σ d x v ρ0 H n Q)(hs:kM ρ0 ρ):ij G σ d x v ρ H n Q:=
 fun te env A s v' Q' E mz ht he hr F R rv po=>h te env A s v' Q' E mz ht he hr ⟨F.ns,fun y i w h1 h2 h3=>F.vars y i w h1 h2 (hs.2 i w h3),F.L,F.cells,hs.1.trans F.len⟩ R rv po
theorem uv {ρ0:bt}:∀(xs:List X) (vs:List V) (ρ ρ':bt),kM ρ0 ρ->(xs.all fun x=>(je ρ0 x.vr).isNone)=true->km xs vs ρ=some ρ'->kM ρ0 ρ':=by
 intro xs
 induction xs with
 | nil=>
  intro vs ρ ρ' h _ e
  cases vs with
  | nil=>(injection e with e;subst e);exact h
  | cons=>exact Jf e
 | cons x xs ih=>
  intro vs ρ ρ' h k e
  cases vs with
  | nil=>exact Jf e
  | cons v vs=>
   have e:(bif x.isVar then km xs vs (ρ.set x.vr (some v)) else none)=some ρ':=e
   cases q:x.isVar with
   | false=>rw [q] at e;exact Jf e
   | true=>rw [q] at e;exact ih _ _ _ (h.set (U9.mp (af k).1)) (af k).2 e
theorem zt {v:V}{K K2:List V->Prop}(h:Dz v H K)(k:∀l,K l->K2 l):Dz v H K2:=by
 cases v with
 | tup l=>exact k _ h
 | ag l=>exact k _ h
 | ref a=>refine ah h fun l ha h=>?_;exact (ai l ha (k _ h))
 | _=>exact False.elim h
theorem C5 {t:X}{v:V}{Q:KR}(hf:La ρ t=true)(h:WA G d t v ρ H n Q):WA G d t v ρ H n fun ρ1 H1 n1=>kM ρ ρ1/\Q ρ1 H1 n1:=by
 cases t with
 | var i=>exact ⟨(kM.refl ρ).set (U9.mp hf),h⟩
 | tup xs=>exact zt h fun l h=>by refine ah (jq h) fun ρ' e h=>?_;exact dh e ⟨uv _ _ _ _ (kM.refl ρ) hf e,h⟩
 | _=>exact absurd hf T4
theorem xm {σ':cw}{G':aA}{fT cC:X}{ifs:List X}{ρ0:bt}(hA:∀{v H n K},WA G d cC v ρ0 H n K->ij G' σ' d cC v ρ0 H n K)(hB:∀{ρ H n K},mT G d ifs ρ H n K->dZ G' σ' d ifs ρ H n K)(hC:∀{ρ H n K},WE G d fT ρ H n K->bl G' σ' d fT ρ H n K)
 (fr:La ρ0 cC=true) {I:List V->List V->AH->Nat->Prop} {Q:KL} (step:∀ds x xs H n,I ds (x::xs) H n->WA G d cC x ρ0 H n fun ρ1 H1 n1=>mT G d ifs ρ1 H1 n1 fun b H2 n2=>Br b (WE G d fT ρ1 H2 n2 fun v H1 n1=>I (ds++[v]) xs H1 n1) (I ds xs H2 n2)) (pD:∀ds H n,I ds [] H n->Q ds H n):
 ∀(l ds:List V) (ρ:bt) (H:AH) (n:Nat),kM ρ0 ρ->I ds l H n->mQ G' σ' d fT cC ifs l ρ H n fun vs H n=>Q (ds++vs) H n
 | []=> @fun ds O H n O h=>by
  show Q (ds++[]) H n;refine ab (TU ..) ?_;exact pD ds H n h
 | x::xs=> @fun ds ρ H n hs h=>((hA (C5 fr (step ds x xs H n h))).forget hs).mono fun ρ1 H1 n1 h1=>(hB h1.2).mono fun b H2 n2 h2=>by
  cases b with
  | true=>
   exact (hC h2.t).mono fun v H3 n3 h3=>by
    have:=xm hA hB hC fr step pD xs (ds++[v]) ρ1 H3 n3 h1.1 h3;simp only [T5,List.singleton_append] at this;exact this
  | false=>exact xm hA hB hC fr step pD xs ds ρ1 H2 n2 h1.1 h2.f
theorem Aw {σ':cw}{G':aA}{xk xv cC:X}{ifs:List X}{ρ0:bt}{t:Nat}(hA:∀{v H n K},WA G d cC v ρ0 H n K->ij G' σ' d cC v ρ0 H n K)(hB:∀{ρ H n K},mT G d ifs ρ H n K->dZ G' σ' d ifs ρ H n K)(hC:∀{ρ H n K},WE G d xk ρ H n K->bl G' σ' d xk ρ H n K)
 (hD:∀{ρ H n K},WE G d xv ρ H n K->bl G' σ' d xv ρ H n K) (fr:La ρ0 cC=true) {I:List (SK × V)->List V->AH->Nat->Prop} {Q:List (SK × V)->AH->Nat->Prop} (step:∀es x xs H n,I es (x::xs) H n->WA G d cC x ρ0 H n fun ρ1 H1 n1=>mT G d ifs ρ1 H1 n1 fun b H2 n2=>
 Br b (WE G d xk ρ1 H2 n2 fun kv H3 n3=>kV kv fun kk=>kk.tag=t/\WE G d xv ρ1 H3 n3 fun v H4 n4=>kk.tag=t/\kk∉es.map (·.1)/\I (es++[(kk,v)]) xs H4 n4) (I es xs H2 n2)) (pD:∀ds H n,I ds [] H n->Q ds H n):
 ∀(l:List V) (es:List (SK × V)) (ρ:bt) (H:AH) (n:Nat),kM ρ0 ρ->I es l H n->pO G' σ' d t xk xv cC ifs l es ρ H n Q
 | []=> @fun es O H n O h=>pD es H n h
 | x::xs=> @fun es ρ H n hs h=>((hA (C5 fr (step es x xs H n h))).forget hs).mono fun ρ1 H1 n1 h1=>(hB h1.2).mono fun b H2 n2 h2=>by
  cases b with
  | true=>
   exact (hC h2.t).mono fun kv H3 n3 h3=>by
    refine bE (j5 h3) fun kk gR h4 h5=>?_;subst gR;exact (bW kk rfl h4 ((hD h5).mono fun v H4 n4 h6=>by
     refine ab (lU h6.2.1) ?_;exact Aw hA hB hC hD fr step pD xs (es++[(kk,v)]) ρ1 H4 n4 h1.1 h6.2.2))
  | false=>exact Aw hA hB hC hD fr step pD xs es ρ1 H2 n2 h1.1 h2.f
theorem AQ {G':aA}{t:X}{b:List St}{R:KV}(hA:∀{v ρ H n K},WA G d t v ρ H n K->ij G' σ d t v ρ H n K)(hB:∀{ρ H n K},kN G d b ρ H n K R->ez G' σ d b ρ H n K R){I:List V->KR}{Q:KR}
 (step:∀x xs ρ H n,I (x::xs) ρ H n->WA G d t x ρ H n fun ρ1 H1 n1=>kN G d b ρ1 H1 n1 (I xs) R) (pD:∀ρ H n,I [] ρ H n->Q ρ H n):∀(l:List V) (ρ:bt) (H:AH) (n:Nat),I l ρ H n->qV G' σ d t b l ρ H n Q R
 | []=> @fun ρ H n h=>pD ρ H n h
 | x::xs=> @fun ρ H n h=>(hA (step x xs ρ H n h)).mono fun ρ1 H1 n1 h1=>(hB h1).mono (fun ρ2 H2 n2 h2=>AQ hA hB step pD xs ρ2 H2 n2 h2) fun O O O r=>r
end
noncomputable def GQ (G:aA):MN->Value
 | .append=>.builtin "list.append"
 | .pop=>.builtin "list.pop"
 | .extend=>.builtin "list.extend"
 | .get=>.builtin "dict.get"
 | .count=>.builtin "str.count"
 | .pk=>.builtin "dict.pop"
 | .fn f=>.ref (G.fa f)
section
variable {G:aA}{σ:cw}{d:Nat}{ρ:bt}{H:AH}{n:Nat}{Q:KV}
theorem qf {fs:List (Str × V)}{c:Nat}{m:Str}(hf:fs.map (·.1)=iC c)(hc:Dj c=true)(hm:jk c m=false):fs.lookup m=none:=by
 have h1:(iC c).contains m=false:=by
  have:(Dj c&&(iC c).contains m)=false:=hm;rw [hc] at this;exact this
 rw [<- hf] at h1;clear hf
 induction fs with
 | nil=>rfl
 | cons p fs ih=>
  rw [UJ,List.contains_cons,Vw] at h1;refine ab Ue (ab h1.1 ?_);exact ih h1.2
theorem Ci (f:Nat):Dj (eN f)=true:=by
 unfold eN
 cases Wx f 48 <;> rfl
theorem mF {o:V}{m:MN}{K:Prop}(ok:aZ G)(h:wH H o m K):eK G o m.str H (GQ G m)/\K:=by
 cases m with
 | append=>refine ah (gh h) fun a gR bN=>?_;subst gR;refine ah bN fun l ha h=>?_;exact ⟨BX (.made ha),h⟩
 | pop=>refine ah (gh h) fun a iq bN=>?_;subst iq;refine ah bN fun l ha h=>?_;exact ⟨NV ha,h⟩
 | extend=>refine ah (gh h) fun a jI bN=>?_;subst jI;refine ah bN fun l ha h=>?_;exact ⟨BZ ha,h⟩
 | get=>cases o with
  | az a es=>exact ⟨GO ok.ok .frozen,h⟩
  | ref a=>
   refine ah h fun b ha h1=>?_
   cases b with
   | dict es=>exact ⟨GO ok.ok (.made ha),h1⟩
   | aO es=>exact ⟨Jd ok.ok ha,h1⟩
   | _=>exact False.elim h1
  | _=>exact False.elim h
 | count=>refine ah (uq h) fun x pF h=>?_;subst pF;exact ⟨EV,h⟩
 | pk=>refine ah (gh h) fun a lu bN=>?_;subst lu;refine ah bN fun l ha h=>?_;exact ⟨Jc ok.ok ha,h⟩
 | fn f=>
  obtain ⟨hm,h⟩:=aK h;have M:=ok.met f hm;have C:=ok.cls _ (Ci f)
  cases o with
  | cU c fs=>
   obtain ⟨hc,h1⟩:=aK h;obtain ⟨hf,h2⟩:=aK h1;refine ab (eq_of_beq hc) ?_;exact ⟨GP ok.ok C M (.inl rfl) (qf (eq_of_beq hf) (Ci f) M.B5),h2⟩
  | ref a=>
   refine dg h fun dx fs ha h=>?_;exact ⟨GP ok.ok C M (.inr (cg a dx rfl ha)) (qf (eq_of_beq (aK h).1) (Ci f) M.B5),(aK h).2⟩
  | _=>exact False.elim h
theorem om {o:V}{m:MN}{vs:List V}{own:Addr->Prop}(ok:aZ (G.at own))(h:zK G d o m vs H n Q):aW (G.at own) d (GQ G m) (o::vs) H n Q:=by
 cases m with
 | append=>refine ah (gh h) fun a vZ h1=>?_;subst vZ;refine ah (eT h1) fun x zc bN=>?_;subst zc;refine ah bN fun l ha h2=>?_;exact z9 ha (bh h2).1 (bh h2).2
 | pop=>refine ah (gh h) fun a CA h1=>?_;subst CA;obtain ⟨JX,bN⟩:=zX h1;subst JX;refine dg bN fun l x ha h2=>?_;exact LW ha (bh h2).1 (bh h2).2
 | extend=>
  refine ah (gh h) fun a lr h1=>?_;subst lr;refine ah (eT h1) fun v oB h2=>?_;subst oB
  cases v with
  | ag m=>refine ah h2 fun l ha h3=>?_;exact Ac ha (bh h3).1 (bh h3).2
  | ref r=>refine cu h2 fun l m ha hr h3=>?_;exact yb ha hr (bh h3).1 (bh h3).2
  | _=>exact False.elim h2
 | get=>
  cases vs with
  | nil=>exact False.elim h
  | cons v r=>cases v with
   | tup l=>
    refine ah (gh h) fun a rW h1=>?_;subst rW;refine ah (eT h1) fun x Cz bN=>?_;subst Cz;refine cu bN fun is es rX ha h2=>?_;subst rX;exact Hy ok.ok ha (Cc (K:=fun v=>Q v H n) h2)
   | sk k=>
    refine ah (jY h) fun es hd h1=>?_;obtain ⟨ht,h1⟩:=aK h1
    cases r with
    | nil=>exact Hv ok.ok hd (eh ht) (Cc (K:=fun v=>Q v H n) h1)
    | cons x r=>obtain ⟨rfl,h2⟩:=zX h1;exact Hw ok.ok hd (eh ht) (Cc (K:=fun v=>Q v H n) h2)
   | _=>exact False.elim h
 | count=>refine ah (uq h) fun x vY h1=>?_;subst vY;refine ah (eT h1) fun y JF h2=>?_;subst JF;refine ah (uq h2) fun y JG h3=>?_;subst JG;exact DG h3
 | pk=>refine ah (gh h) fun a JH h1=>?_;subst JH;refine dg (zY h1) fun k x JI h2=>?_;subst JI;refine ah (uq h2) fun k JJ bN=>?_;subst JJ;refine ah bN fun es ha h3=>?_;exact Hu ok.ok ha (eh (aK h3).1) (bh (aK h3).2).1 (bh (aK h3).2).2
 | fn f=>exact h.run own
theorem ll {m:Nat}{f g:Nat->V}(h:∀i,f i=g i):(Un m).map f=(Un m).map g:=UK fun i O=>h i
theorem ui {vs:List V}{P:List V->AH->Nat->Prop}(h:C8 .jK vs H fun l=>∀n2,n<=n2->P l H n2):aW G d (.type "range") vs H n fun lT H1 n1=>∃l H2,eP G lT H1 l H2/\P l H2 n1:=by
 have fin:∀{x:Addr} {lo c:Int} {N:Nat} {l:List V},(Un N).map (fun (i:Nat)=>V.int (lo+(i:Int)*c))=l->n<=x->H x=none->(∀n2,n<=n2->P l H n2)->∃l H2,eP G (.ref x) (upd H x (.jK lo N c)) l H2/\P l H2 (x+1):=fun e hx h0 hp=>by
  refine (cg _ _ (e▸I6 ae) ?_);refine ab cY (ab (cJ h0) ?_);exact hp _ (TY hx)
 cases vs with
 | nil=>exact False.elim h
 | cons a vs=>cases vs with
  | nil=>
   refine ah (bR h) fun b JK h1=>?_;subst JK
   cases b with
   | ofNat m=>
    obtain ⟨hm,h1⟩:=bh h1;exact Ad ⟨Ug m,by show (m:Int)<=_;exact eO (cP ((m:Nat):Int)) [(1,bg,.num 16777216)] bg (.num 16777216) rfl (Ul.mpr hm)⟩ fun x hx h0=>fin (ll fun i=>by exact ab (Int.mul_one ..) (ab (Int.zero_add ..) rfl)) hx h0 h1
   | negSucc m=>exact False.elim h1
  | cons b vs=>cases vs with
   | nil=>
    refine ah (bR h) fun a JL h1=>?_;subst JL;refine ah (bR h1) fun b JM bN=>?_;subst JM;refine qQ bN fun k m JN JO hk hm h2=>?_;subst JN;subst JO;exact Ae ⟨Ug _,by exact eO (cP ((k:Nat):Int)) [(1,bg,.num 16777216)] bg (.num 16777216) rfl (Ul.mpr hk)⟩ ⟨Ug _,by exact eO (cP ((m:Nat):Int)) [(1,bg,.num 16777216)] bg (.num 16777216) rfl (Ul.mpr hm)⟩ fun x hx h0=>fin (by refine ab (show ((m:Int) - k).toNat=m - k from Int.toNat_sub m k) ?_;exact ll fun i=>by refine ab (Int.mul_one ..) ?_;rfl) hx h0 h2
   | cons c vs=>cases vs with
    | nil=>
     refine ah (bR h) fun a JP h1=>?_;subst JP;refine ah (bR h1) fun b JQ h2=>?_;subst JQ;refine ah (bR h2) fun c JR bN=>?_;subst JR;refine zE bN fun m JS JT JU hm h3=>?_;subst JS;subst JT;subst JU;exact Af hm fun x hx h0=>fin (ll fun i=>by refine ab (Int.zero_add ..) (ab (Int.mul_comm ..) ?_);rfl) hx h0 h3
    | cons=>exact False.elim h
theorem ze {vs:List V}{P:List V->AH->Nat->Prop}(h:C8 .rev vs H fun l=>∀n2,n<=n2->P l H n2):aW G d (.type "reversed") vs H n fun lT H1 n1=>∃l H2,eP G lT H1 l H2/\P l H2 n1:=by
 refine ah (eT h) fun v JV h1=>?_;subst JV;refine ah (BL h1) fun l JW h2=>?_;subst JW;exact mX fun x hx h0=>(cg _ _ (BD ae) (by refine ab cY (ab (cJ h0) ?_);exact h2 _ (TY hx)))
theorem Cx {v:V}{P:List V->AH->Nat->Prop}(ok:eu G)(h:C8 .pl [v] H fun l=>∀n2,n<=n2->P l H n2):∃l H2,eP G v H l H2/\P l H2 n:=by
 cases v with
 | ag l=>exact (cg _ _ tS (h _ (TJ _)))
 | tup l=>exact (cg _ _ I7 (h _ (TJ _)))
 | az a es=>exact (cg _ _ (BC ok) (h _ (TJ _)))
 | _=>exact False.elim h
end
section
section
variable {G:aA}{σ:cw}{d:Nat}{ρ:bt}{H:AH}{n:Nat}{Q:KV}
theorem se {a:X}{Q:KB}(ha:a.I0=false)(h:bl G σ d a ρ H n fun v H1 n1=>∃c,v=.bool c/\Q c H1 n1):ik G σ d a ρ H n Q:=
 OL (h.mono fun v H1 n1 h1=>by refine ah h1 fun c gR q=>?_;subst gR;exact JC q) ha
theorem yT {x:X}{k:SK}(e:I9 ρ x=some k)(h:Q (.sk k) H n):bl G σ d x ρ H n Q:=by
 cases x with
 | str s=>(injection e with e;subst e);exact Gl h
 | var i=>
  have e:(je ρ i).bind (fun v=>match v with | .sk k=>some k | _=>none)=some k:=e;refine ah (Wm.mp e) fun v h1 h2=>?_
  cases v with
  | sk k'=>(injection h2 with e;subst e);exact AG (kj h1) h
  | _=>exact Jf h2
 | _=>exact Jf e
theorem sO.mono {im:IM}{dn:List X}{Q2:KV}(h:sO G σ d im dn ρ H n Q)(k:∀v H n,Q v H n->Q2 v H n):sO G σ d im dn ρ H n Q2:=
 fun e env A s Q' E ht he hr F R po=>h e env A s Q' E ht he hr F R fun v H' n' v' s' q=>po v H' n' v' s' (k _ _ _ q)
theorem lP:∀(is:List Nat) (vs:List V) (ρ ρ':bt),km (is.map .var) vs ρ=some ρ'->is.length=vs.length/\lz ρ is vs=ρ':=by
 intro is
 induction is with
 | nil=>
  intro vs ρ ρ' e
  cases vs with
  | nil=>(injection e with e;subst e);exact ⟨rfl,rfl⟩
  | cons=>exact Jf e
 | cons i is ih=>
  intro vs ρ ρ' e
  cases vs with
  | nil=>exact Jf e
  | cons v vs=>
   obtain ⟨h1,h2⟩:=ih vs _ _ e;exact ⟨congrArg (· +1) h1,h2⟩
theorem Kr {x:X}(h:x.isVar=true):x=.var x.vr:=by
 cases x with
 | var i=>rfl
 | _=>exact Bool.noConfusion h
theorem xU {xs:List X}(h:(xs.all fun x=>x.isVar&&σ.stores x.vr)=true):xs=(xs.map X.vr).map .var:=by
 induction xs with
 | nil=>rfl
 | cons x xs ih=>
  have h1:=af h;show x::xs=.var x.vr::(xs.map X.vr).map .var;exact bk (ih h1.2) (bk (Kr (af h1.1).1) rfl)
theorem xT {v:V}{K:List V->Prop}(h:Dz v H K):∃vs,(v=.tup vs\/fe H v vs)/\K vs:=by
 cases v with
 | tup l=>exact (ai l (.inl rfl) h)
 | ag l=>exact (ai l (.inr .frozen) h)
 | ref a=>refine ah h fun l ha h=>?_;exact (ai l (.inr (.made ha)) h)
 | _=>exact False.elim h
theorem gD.mono:∀{ks vs:List X} {ρ:bt} {H:AH} {n:Nat} {Q Q2:List (V × V)->AH->Nat->Prop},gD G σ d ks vs ρ H n Q->(∀v H n,Q v H n->Q2 v H n)->gD G σ d ks vs ρ H n Q2
 | [],[],_,_,_,_,_,h,k=>k _ _ _ h
 | [],_::_,_,_,_,_,_,h,_=>h.elim
 | _::_,[],_,_,_,_,_,h,_=>h.elim
 | _::_,_::_,_,_,_,_,_,h,k=>bl.mono h fun O O O h1=>bl.mono h1 fun O O O h2=>gD.mono h2 fun O O O h3=>k _ _ _ h3
theorem uh {v:V}{K:Option Int->Prop}(h:zN v K):∃k,mO v k/\K k:=by
 cases v with
 | none=>exact (ai _ .none h)
 | sk k=>
  refine ah (bR (v:=.sk k) h) fun i e h1=>?_
  (injection e with e;subst e)
  exact (ai _ (.int i) h1)
 | _=>exact False.elim h
end
theorem xg:∀{kk:List SK},Ja kk=true->∃t,(∀p∈kk,p.tag=t)/\kk.Nodup
 | []=> @fun O=>(ai 0 (fun p h=>(nomatch h)) .nil)
 | k::r=> @fun h=>by
  obtain ⟨h1,h⟩:=af h;obtain ⟨h2,h3⟩:=af h;refine ah (xg h3) fun O O hn=>?_;exact (ai k.tag (fun p hp=>(TN.mp hp).elim (fun e=>e▸rfl) fun hp=>eq_of_beq (Ut.mp h1 p hp)) (U8.mpr ⟨fun hk=>(by rw [UQ.mpr hk] at h2;injection h2),hn⟩))
noncomputable def x9 (G:aA)(d:Nat)(x:X):Prop:=∀(ρ:bt) (H:AH) (n:Nat) (Q:KV),WE G d x ρ H n Q->∀o σ,bl (G.at o) σ d x ρ H n Q
noncomputable def Dx (G:aA)(d:Nat)(x:X):Prop:=∀(ρ:bt) (H:AH) (n:Nat) (Q:KB),WT G d x ρ H n Q->∀o σ,ik (G.at o) σ d x ρ H n Q
section
variable {G:aA}{d:Nat}
theorem fm:∀{x:List X} {ρ:bt} {H:AH} {n:Nat} {Q:KL},(∀y∈x,x9 G d y)->sC G d x ρ H n Q->∀o σ,eR (G.at o) σ d x ρ H n fun vs H1 n1=>vs.length=x.length/\Q vs H1 n1:=by
 intro x
 induction x with
 | nil=>
 exact fun {O O O O} O h O O=>HR ⟨rfl,h⟩
 | cons x xs ih=>
 exact fun {O O O O} k h o σ=>D0 ((k x (TM ..) _ _ _ _ h o σ).mono fun O O O h1=>(ih (fun y hy=>k y (TP _ hy)) h1 o σ).mono fun O O O h2=>⟨congrArg (· +1) h2.1,h2.2⟩)
theorem kG:∀{x:List X} {ρ:bt} {H:AH} {n:Nat} {Q:KB},(∀y∈x,Dx G d y)->mT G d x ρ H n Q->∀o σ,dZ (G.at o) σ d x ρ H n Q
 | [],_,_,_,_,_,h,_,_=>h
 | x::xs,_,_,_,_,k,h,o,σ=>(k x (TM ..) _ _ _ _ h o σ).mono fun b O O h1=>match b,h1 with
  | true,h1=>kG (fun y hy=>k y (TP _ hy)) h1.t o σ
  | false,h1=>h1.f
theorem Ks:∀{x:List X} {ρ:bt} {H:AH} {n:Nat} {Q:KB},(∀y∈x,Dx G d y)->Qf G d x ρ H n Q->∀o σ,wI (G.at o) σ d x ρ H n Q:=by
 intro x
 induction x with
 | nil=>
 exact fun {O O O O} O h O O=>h
 | cons x xs ih=>
 exact fun {O O O O} k h o σ=>(k x (TM ..) _ _ _ _ h o σ).mono fun b O O h1=>match b,h1 with
  | true,h1=>h1.t
  | false,h1=>ih (fun y hy=>k y (TP _ hy)) h1.f o σ
theorem uK:∀{x:List X} {ρ:bt} {H:AH} {n:Nat} {Q:KV},(∀y∈x,x9 G d y)->zW G d x ρ H n Q->∀o σ,mq (G.at o) σ d x ρ H n Q
 | [],_,_,_,_,_,h,_,_=>h.elim
 | [x],_,_,_,_,k,h,o,σ=>k x (TM ..) _ _ _ _ h o σ
 | x::y::xs,_,_,_,_,k,h,o,σ=>(k x (TM ..) _ _ _ _ h o σ).mono fun O O O h1=>by
  refine ah (pS h1) fun b iq h2=>?_;subst iq;exact (ai b rfl (match b,h2 with
   | true,h2=>uK (fun y hy=>k y (TP _ hy)) h2.t o σ
   | false,h2=>h2.f))
theorem xY (ok:aZ G){x:List X}{im:IM}{ρ:bt}{H:AH}{n:Nat}{P:List V->AH->Nat->Prop}(k:∀y∈x,x9 G d y)(h:sC G d x ρ H n fun vs H1 n1=>C8 im vs H1 fun l=>∀n2,n1<=n2->P l H1 n2)(o:Addr->Prop)(σ:cw):sO (G.at o) σ d im x ρ H n fun lT H1 n1=>∃l H2,eP (G.at o) lT H1 l H2/\P l H2 n1:=by
 cases im with
 | jK=>exact HL (b:=.range) (ok.at o).ok ((fm k h o σ).mono fun O O O h1=>ui h1.2)
 | rev=>exact HL (b:=.reversed) (ok.at o).ok ((fm k h o σ).mono fun O O O h1=>ze h1.2)
 | pl=>
  cases x with
  | nil=>exact False.elim h
  | cons x xs=>
   intro e env A s Q' E ht;have g:=af (af (show (oY e&&(fM x σ e&&gF xs σ []))=true from ht)).2
   cases xs with
   | nil=>exact ((k x (TM ..) _ _ _ _ h o σ).mono fun O O O h1=>Cx (ok.at o).ok h1) e env A s Q' E g.1
   | cons y r=>exact bf g.2
theorem NP {ρ:bt}{o:Addr->Prop}{σ:cw}:∀{vs ks:List X} {kk:List SK} {H:AH} {n:Nat} {K:KL},(∀y∈vs,x9 G d y)->xe ρ ks=some kk->ks.length=vs.length->sC G d vs ρ H n K->
 gD (G.at o) σ d ks vs ρ H n fun r H1 n1=>∃vv,r=(kk.zip vv).map (fun p=>(V.sk p.1,p.2))/\K vv H1 n1:=by
 intro vs
 induction vs with
 | nil=>
 exact fun {ks kk O O O} O e hl h=>by
  cases U5.mp hl
  (injection e with e;subst e)
  exact (ai [] rfl h)
 | cons v vs ih=>
 exact fun {ks kk O O O} k e hl h=>by
  cases ks with
  | nil=>injection hl
  | cons x ks=>
   have e:((I9 ρ x).bind fun k=>(xe ρ ks).map fun ks=>k::ks)=some kk:=e;refine ah (Wm.mp e) fun k0 e1 e2=>?_;refine ah (UW.mp e2) fun kk' e3 jI=>?_;subst jI;exact yT e1 ((k v (TM ..) _ _ _ _ h o σ).mono fun O O O h1=>gD.mono (ih (fun y hy=>k y (TP _ hy)) e3 (Nat.succ.inj hl) h1) fun r H1 n1 h2=>by
    refine ah h2 fun vv pF h3=>?_;subst pF;exact (ai (_::vv) rfl h3))
end
variable {G:aA}{d:Nat}(ok:aZ G)
include ok
mutual
theorem cW:∀(x:X),x9 G d x
 | .none=> @fun O O O O h O O=>HO h
 | .bool _=> @fun O O O O h O O=>HM h
 | .int _=> @fun O O O O h O O=>Mm h
 | .str _=> @fun O O O O h O O=>Gl h
 | .var i=> @fun ρ H n Q h O O=>by
  have h:(match je ρ i with | some v=>Q v H n | .none=>False):=h
  cases e:je ρ i with
  | none=>rw [e] at h;exact h.elim
  | some v=>rw [e] at h;exact AG (kj e) h
 | .md _=> @fun O O O O h o O=>HN (ok.at o).ok h
 | .bin _ a b=> @fun O O O O h o σ=>Mj ((cW a _ _ _ _ h o σ).mono fun O O O h1=>(cW b _ _ _ _ h1 o σ).mono fun O O O h2=>yc h2)
 | .neg a=> @fun O O O O h o σ=>Mo ((cW a _ _ _ _ h o σ).mono fun O O O h1=>y1 h1)
 | .not _=> @fun O O O O h O O=>False.elim h
 | .cmp _ a b=> @fun O O O O h o σ=>Mk ((cW a _ _ _ _ h o σ).mono fun O O O h1=>(cW b _ _ _ _ h1 o σ).mono fun O O O h2=>iP (ok.at o).ok h2)
 | .pf .. => @fun O O O O h O O=>False.elim h
 | .gx .And xs=> @fun O O O O h o σ=>HJ (uK (fun x hx=>(fR xs x hx).1) h o σ)
 | .gx .Or _=> @fun O O O O h O O=>False.elim h
 | .ite c t e=> @fun O O O O h o σ=>Mn ((C7 c _ _ _ _ h o σ).mono fun b O O h1=>match b,h1 with
  | true,h1=>cW t _ _ _ _ h1.t o σ
  | false,h1=>cW e _ _ _ _ h1.f o σ)
 | .list xs=> @fun O O O O h o σ=>fun e env A s Q' E ht=>DV ((fm (fun x hx=>(fR xs x hx).1) h o σ).mono fun O O O h1=>⟨h1.1▸BR ht,h1.2⟩) e env A s Q' E ht
 | .cR xs=> @fun O O O O h o σ=>fun e env A s Q' E ht=>DW ((fm (fun x hx=>(fR xs x hx).1) h o σ).mono fun O O O h1=>⟨h1.1▸yY ht,h1.2⟩) e env A s Q' E ht
 | .tup xs=> @fun O O O O h o σ=>fun e env A s Q' E ht=>Ms ((fm (fun x hx=>(fR xs x hx).1) h o σ).mono fun O O O h1=>⟨h1.1▸EP ht,h1.2⟩) e env A s Q' E ht
 | .dict [] vs=> @fun O O O O h o σ=>fun e env A s Q' E ht=>by
  cases vs with
  | nil=>exact AB h e env A s Q' E ht
  | cons=>exact nomatch (tY ht).2
 | .dict (k::ks) vs=> @fun ρ H n Q h o σ=>fun e env A s Q' E ht=>by
  have hl:=(tY ht).2;refine ah (jq h) fun kk he h=>?_;obtain ⟨me,h⟩:=aK h;obtain ⟨t,htg,hn⟩:=xg me;exact DU t (fun a ha h0=>(NP (fun x hx=>(fR vs x hx).1) he hl (h a ha h0)).mono fun r H1 n1 h1=>by
   obtain ⟨vv,rfl,rfl,h1⟩:=h1;obtain ⟨aI,q⟩:=aK h1;have aI:=eq_of_beq aI;exact ⟨ae,du (kk.zip vv) rfl (fun p hp=>htg _ (List.of_mem_zip (a:=p.1) (b:=p.2) hp).1) (by refine ab (W6 (TL aI)) ?_;exact hn) (by refine ab cY (ab (cJ h0) ?_);exact q)⟩) (fun e=>nomatch e) e env A s Q' E ht
 | .jo=> @fun O O O O h O O=>AE h
 | .aO=> @fun O O O O h O O=>DY h
 | .sub a i=> @fun O O O O h o σ=>Mr ((cW a _ _ _ _ h o σ).mono fun O O O h1=>(cW i _ _ _ _ h1 o σ).mono fun O O O h2=>zl (ok.at o).ok h2)
 | .pH a lo hi=> @fun O O O O h o σ=>Mq ((cW a _ _ _ _ h o σ).mono fun O O O h1=>(cW lo _ _ _ _ h1 o σ).mono fun O O O h2=>(cW hi _ _ _ _ h2 o σ).mono fun O O O h3=>by
  refine ah (xI h3) fun l hv h4=>?_;obtain ⟨hz,h4⟩:=bh h4;refine ah (uh h4) fun kl hl h5=>?_;refine ah (uh h5) fun kh hh h6=>?_;exact (Hd l kl kh hv hz hl hh h6))
 | .attr a _=> @fun O O O O h o σ=>HK ((cW a _ _ _ _ h o σ).mono fun O O O h1=>u5 (ok.at o) h1)
 | .call _ xs=> @fun O O O O h o σ=>AA (ok.at o).ok ((fm (fun x hx=>(fR xs x hx).1) h o σ).mono fun O O O h1=>h1.2.run o)
 | .new _ xs=> @fun O O O O h o σ=>Mp (ok.at o).ok ((fm (fun x hx=>(fR xs x hx).1) h o σ).mono fun O O O h1=>h1.2.run o)
 | .bi _ xs=> @fun O O O O h o σ=>HL (ok.at o).ok ((fm (fun x hx=>(fR xs x hx).1) h o σ).mono fun O O O h1=>Ah (ok.at o).ok h1.2)
 | .fu a _=> @fun O O O O h o σ=>Gk (ok.at o).ok ((cW a _ _ _ _ h o σ).mono fun O O O h1=>G0 (ok.at o).ok (ok.at o).fu (aK h1).1 (aK (aK h1).2).1 (aK (aK h1).2).2)
 | .lS a=> @fun O O O O h o σ=>DX (ok.at o).ok (cW a _ _ _ _ h o σ)
 | .bx a m xs=> @fun O O O O h o σ=>AF ((cW a _ _ _ _ h o σ).mono fun O O O h1=>(ai _ ((mF (ok.at o) h1).1) ((fm (fun x hx=>(fR xs x hx).1) (mF (ok.at o) h1).2 o σ).mono fun O O O h2=>om (ok.at o) h2.2)))
 | .lc k fT cC im dn ifs=> @fun ρ O O O h o σ=>Qw ((xY ok (fun x hx=>(fR dn x hx).1) h o σ).mono fun O O O h1=>by
  refine dg h1 fun l H2 hi h1=>?_;obtain ⟨hf,h1⟩:=aK h1;obtain ⟨hz,h1⟩:=bh h1;unfold fg at h1;refine bE h1 fun I h0 hs hl=>?_;exact (bA l H2 hi hz (fun σ' X=>xm (fun h=>C4 cC h _ σ') (fun h=>kG (fun x hx=>(fR ifs x hx).2) h _ σ') (fun h=>cW fT _ _ _ _ h _ σ') hf hs hl l [] _ _ _ (.refl _) h0)))
 | .dc k xk xv cC im dn ifs=> @fun ρ O O O h o σ=>by
  obtain ⟨t,h⟩:=h;exact Qv t ((xY ok (fun x hx=>(fR dn x hx).1) h o σ).mono fun O O O h1=>by
   refine dg h1 fun l H2 hi h1=>?_;obtain ⟨hf,h1⟩:=aK h1;obtain ⟨hz,h1⟩:=bh h1;unfold O3 at h1;refine bE h1 fun I h0 hs hl=>?_;exact (bA l H2 hi hz (fun σ' X=>Aw (fun h=>C4 cC h _ σ') (fun h=>kG (fun x hx=>(fR ifs x hx).2) h _ σ') (fun h=>cW xk _ _ _ _ h _ σ') (fun h=>cW xv _ _ _ _ h _ σ') hf hs hl l [] _ _ _ (.refl _) h0)))
 | .mv a=> @fun O O O O h o σ=>AD ((cW a _ _ _ _ h o σ).mono fun O O O h1=>yx h1)
theorem C7:∀(x:X),Dx G d x
 | .not a=>fun O O O O h o σ=>OK (C7 a _ _ _ _ h o σ)
 | .cmp _ a b=>fun O O O O h o σ=>OJ ((cW a _ _ _ _ h o σ).mono fun O O O h1=>(cW b _ _ _ _ h1 o σ).mono fun O O O h2=>(iP (ok.at o).ok h2).mono fun O O O h3=>pS h3)
 | .pf a _ b _ c=>fun O O O O h o σ=>Kj ((cW a _ _ _ _ h o σ).mono fun O O O h1=>(cW b _ _ _ _ h1 o σ).mono fun O O O h2=>(iP (ok.at o).ok h2).mono fun O O O h3=>by
  refine ah (pS h3) fun t lu h4=>?_;subst lu;exact (ai t rfl (match t,h4 with
   | true,h4=>(cW c _ _ _ _ h4.t o σ).mono fun O O O h5=>(iP (ok.at o).ok h5).mono fun O O O h6=>pS h6
   | false,h4=>h4.f)))
 | .gx .And xs=>fun O O O O h o σ=>OI (kG (fun x hx=>(fR xs x hx).2) h o σ)
 | .gx .Or xs=>fun O O O O h o σ=>Tq (Ks (fun x hx=>(fR xs x hx).2) h o σ)
 | .fu a _=>fun O O O O h o σ=>se rfl (Gk (ok.at o).ok ((cW a _ _ _ _ h o σ).mono fun O O O h1=>G0 (ok.at o).ok (ok.at o).fu (aK h1).1 (aK (aK h1).2).1 (ai _ rfl ((aK (aK h1).2).2))))
 | .call _ xs=>fun O O O O h o σ=>se rfl (AA (ok.at o).ok ((fm (fun x hx=>(fR xs x hx).1) h o σ).mono fun O O O h1=>(h1.2.run o).mono fun O O O h2=>pS h2))
 | .bx a m xs=>fun O O O O h o σ=>se rfl (AF ((cW a _ _ _ _ h o σ).mono fun O O O h1=>(ai _ ((mF (ok.at o) h1).1) ((fm (fun x hx=>(fR xs x hx).1) (mF (ok.at o) h1).2 o σ).mono fun O O O h2=>(om (ok.at o) h2.2).mono fun O O O h3=>pS h3))))
 | .var i=>fun ρ H n Q h O O=>by
  have h:(match je ρ i with | some (.bool b)=>Q b H n | _=>False):=h
  cases e:je ρ i with
  | none=>rw [e] at h;exact h.elim
  | some v=>
   rw [e] at h
   cases v with
   | bool b=>exact se rfl (AG (kj e) (ai b rfl h))
   | _=>exact False.elim h
 | .none | .bool _ | .int _ | .str _ | .md _ | .bin .. | .neg _ | .ite .. =>fun O O O O h O O=>False.elim h
 | .list _ | .cR _ | .tup _ | .dict .. | .jo | .aO | .sub .. | .pH .. =>fun O O O O h O O=>False.elim h
 | .attr .. | .new .. | .bi .. | .lS _ | .lc .. | .dc .. | .mv _=>fun O O O O h O O=>False.elim h
theorem fR:∀(xs:List X) (x:X),x∈xs->x9 G d x/\Dx G d x
 | []=> @fun O h=>nomatch h
 | y::ys=> @fun x h=>(TN.mp h).elim (fun e=>e▸⟨cW y,C7 y⟩) fun h=>fR ys x h
theorem C4:∀(x:X) {v:V} {ρ:bt} {H:AH} {n:Nat} {Q:KR},WA G d x v ρ H n Q->∀o σ,ij (G.at o) σ d x v ρ H n Q
 | .var _=>fun h O O=>LM h
 | .sub a i=>fun h o σ=>LL ((cW a _ _ _ _ h o σ).mono fun O O O h1=>(cW i _ _ _ _ h1 o σ).mono fun O O O h2=>zg (ok.at o).ok h2)
 | .attr a _=>fun h o σ=>Hm ((cW a _ _ _ _ h o σ).mono fun O O O h1=>uy (ok.at o) h1)
 | .tup xs=>fun h o σ=>fun te env A s v' Q' E mz=>by
  have e:=xU (af mz).1;refine ah (xT h) fun vs hv h=>?_;refine ah (jq h) fun ρ' h1 h2=>?_;rw [e] at h1 mz ⊢;obtain ⟨h3,h4⟩:=lP _ _ _ _ h1;exact FW hv h3 (h4▸h2) te env A s v' Q' E mz
 | .none | .bool _ | .int _ | .str _ | .md _ | .bin .. | .neg _ | .ite .. =>fun h O O=>False.elim h
 | .list _ | .cR _ | .not _ | .dict .. | .jo | .aO | .cmp .. | .pH .. =>fun h O O=>False.elim h
 | .pf .. | .gx .. | .call .. | .fu .. | .bx .. =>fun h O O=>False.elim h
 | .new .. | .bi .. | .lS _ | .lc .. | .dc .. | .mv _=>fun h O O=>False.elim h
end
end
section
theorem HT {fs:List (Str × V)}{K:Str->V->Str->V->Prop}(h:f2P fs K):∃f1 v1 f2 v2,fs=[(f1,v1),(f2,v2)]/\K f1 v1 f2 v2:=by
 cases fs with
 | nil=>exact False.elim h
 | cons p fs=>cases fs with
  | nil=>exact False.elim h
  | cons q fs=>cases fs with
   | nil=>exact (Dq _ _ _ _ rfl h)
   | cons=>exact False.elim h
theorem tI {ρ:bt}{i:Nat}{H:AH}{K:bt->AH->Prop}(h:OV ρ i H K):∃ρ' H',(∀(G:aA) (σ:cw),Gh G σ ρ H ρ' H')/\K ρ' H':=by
 refine cu h fun a o hr ho h1=>?_;have hi:=kj hr
 cases o with
 | list l=>exact (cg _ _ (fun G σ=>D7 hi ho) h1)
 | dict l=>exact (cg _ _ (fun G σ=>D6 hi ho) h1)
 | inst c dx fs=>
  refine o5 (HT h1) fun f1 v1 f2 v2 gR h2=>?_;subst gR;refine ah (gh h2) fun t iq h3=>?_;subst iq;refine ah (gh h3) fun r jI bN=>?_;subst jI;refine cn bN fun es er h4 h5 h6 h7=>?_;exact (cg _ _ (fun G σ=>AV hi ho h4 h5 h6) h7)
 | _=>exact False.elim h1
variable {G:aA}{d:Nat}(ok:aZ G)
include ok
mutual
theorem OT:∀(x:St) (ρ:bt) (H:AH) (n:Nat) (Q:KR) (R:KV),x.rB=false->WS G d x ρ H n Q R->∀o σ,ja (G.at o) σ d x ρ H n Q R
 | .asg t e=> @fun ρ H n Q R O h o σ=>by
  have h1:=cW ok e _ _ _ _ h o σ
  cases ht:t.isTup with
  | false=>exact Ox ht (h1.mono fun O O O h1=>C4 ok t h1 o σ)
  | true=>
   cases t with
   | tup xs=>
    intro Fy env A s Q' E hs;have mz:=DD hs;have e:=xU (af mz).1;rw [e] at hs;refine J6 (h1.mono fun v H1 n1 h1=>?_) Fy env A s Q' E hs;refine ah (xT h1) fun vs hv h1=>?_;refine ah (jq h1) fun ρ' h2 h3=>?_;rw [e] at h2;obtain ⟨h4,h5⟩:=lP _ _ _ _ h2;exact (bW vs hv h4 (h5▸h3))
   | _=>exact nomatch ht
 | .pe i k fT cC im dn ifs=> @fun ρ H n Q R O h o σ=>J0 ((xY ok (fun x hx=>(fR ok dn x hx).1) h o σ).mono fun O O O h1=>by
   refine dg h1 fun l H2 hi h1=>?_;obtain ⟨hf,h1⟩:=aK h1;obtain ⟨hz,h1⟩:=bh h1;unfold fg at h1;refine bE h1 fun I h0 hs hl=>?_;exact (bA l H2 hi hz (fun σ' X=>xm (fun h=>C4 ok cC h _ σ') (fun h=>kG (fun x hx=>(fR ok ifs x hx).2) h _ σ') (fun h=>cW ok fT _ _ _ _ h _ σ') hf hs hl l [] _ _ _ (.refl _) h0)))
 | .ex e=> @fun O O O O O O h o σ=>SV (cW ok e _ _ _ _ h o σ)
 | .ite c t e=> @fun O O O O O O h o σ=>Oy ((C7 ok c _ _ _ _ h o σ).mono fun b O O h1=>match b,h1 with
  | true,h1=>oT t _ _ _ _ _ h1.t o σ
  | false,h1=>oT e _ _ _ _ _ h1.f o σ)
 | .wh c b=> @fun O O O O O O h o σ=>by
  have h:xX _ _ _ _ _ _:=h;unfold xX at h;refine dg h fun I k h0 h1=>?_;exact SX I k h0 fun k ρ H n hI=>(C7 ok c _ _ _ _ (h1 k ρ H n hI) o σ).mono fun t O O h2=>match t,h2 with
   | true,h2=>oT b _ _ _ _ _ h2.t o σ
   | false,h2=>h2.f
 | .fr t im dn b=> @fun O O O O O O h o σ=>SW ((xY ok (fun x hx=>(fR ok dn x hx).1) h o σ).mono fun O O O h1=>by
   refine dg h1 fun l H2 hi h1=>?_;unfold ny at h1;refine bE h1 fun I h0 hs hl=>?_;exact (cg l H2 hi (fun X=>AQ (fun h=>C4 ok t h _ σ) (fun h=>oT b _ _ _ _ _ h _ σ) hs hl l _ _ _ h0)))
 | .ret e=> @fun O O O O O O h o σ=>Oz (cW ok e _ _ _ _ h o σ)
 | .pG=> @fun O O O O O O h O O=>J7 h
 | .Ko b=> @fun O O O O O O h o σ=>OA (oT b _ _ _ _ _ h o σ)
 | .fN _=> @fun O O O O O e O O O=>nomatch e
 | .dG=> @fun O O O O O e O O O=>nomatch e
 | .bad=> @fun O O O O O O h O O=>False.elim h
theorem oT:∀(x:List St) (ρ:bt) (H:AH) (n:Nat) (Q:KR) (R:KV),kN G d x ρ H n Q R->∀o σ,ez (G.at o) σ d x ρ H n Q R
 | []=> @fun O O O O O h O O=>Kf h
 | x::xs=> @fun ρ H n Q R h o σ=>by
  cases e:x.rB with
  | false=>exact Fw e ((OT x _ _ _ _ _ e h o σ).mono (fun O O O h1=>oT xs _ _ _ _ _ h1 o σ) fun O O O h1=>h1)
  | true=>
   have ih:=fun ρ H=>oT xs ρ H n Q R
   cases x with
   | fN i=>
    refine dg (tI (show OV ρ i H fun ρ' H'=>kN G d xs ρ' H' n Q R from h)) fun ρ' H' g h1=>?_;exact Fx (g _ σ) (ih _ _ h1 o σ)
   | dG=>exact False.elim h
   | _=>exact nomatch e
end
end
noncomputable def WB (G:aA)(d ne:Nat):List St->bt->AH->Nat->KV->Prop
 | [],_,H,n,R=>R .none H n
 | x::xs,ρ,H,n,R=>match x with
  | .dG=>∃T,FV ne ρ H T/\WB G d ne xs (zp T ρ) (ir T H) n R
  | x=>WS G d x ρ H n (fun ρ1 H1 n1=>WB G d ne xs ρ1 H1 n1 R) R
section
variable {G:aA}{d ne:Nat}(ok:aZ G)
include ok
theorem OQ:∀(x:List St) (ρ:bt) (H:AH) (n:Nat) (R:KV),WB G d ne x ρ H n R->∀o σ,dH (G.at o) σ d ne x ρ H n R
 | []=> @fun O O O O h O O=>J8 h
 | x::xs=> @fun ρ H n R h o σ=>by
  have ih:=fun ρ H n=>OQ xs ρ H n R
  cases e:x.rB with
  | false=>
   have h:WS G d x ρ H n (fun ρ1 H1 n1=>WB G d ne xs ρ1 H1 n1 R) R:=by cases x <;> first | exact h | exact nomatch e
   exact Fq e ((OT ok x _ _ _ _ _ e h o σ).mono (fun O O O h1=>ih _ _ _ h1 o σ) fun O O O h1=>h1)
  | true=>
   cases x with
   | fN i=>
    refine dg (tI (show OV ρ i H fun ρ' H'=>WB G d ne xs ρ' H' n R from h)) fun ρ' H' g h1=>?_;exact Fs (g _ σ) (ih _ _ _ h1 o σ)
   | dG=>
    refine ah h fun T hT h1=>?_;exact J9 hT (ih _ _ _ h1 o σ)
   | _=>exact nomatch e
end
theorem z7 (G:aA)(o:Addr->Prop):(G.at fun O=>False).bo o=G.at o:=
 congrArg (fun w=>G.at w) (funext fun a=>propext ⟨fun h=>h.elim False.elim id,.inr⟩:(fun a=>False\/o a)=o)
theorem au.at {G:aA}{h:Heap}{P:Addr->Prop}{xs:List V}{vs:List Value}(o:Addr->Prop)(r:au G h P xs vs):au (G.at o) h P xs vs:=by
 refine bk (z7 ..) ?_;refine (au.bo xs).mpr ?_;have r:au (G.at G.own) h P xs vs:=r;rw [<- z7] at r;exact (au.bo xs).mp r
theorem qT.at {G:aA}{a:Addr}{σ:cw}{dY:List St}{k:Nat}{dV:List V}(K:qT G a σ dY k dV)(o:Addr->Prop):qT (G.at o) a σ dY k dV:=by
 refine FO K.ex fun ob fd body names ds h1 h2 h3 h4 h5 h6 h7 h8 h9 Ed O9 uP yz QC=>?_;exact ⟨ob,fd,body,names,ds,h1,h2,h3,h4,h5,h6,h7,h8,h9,Ed,O9,uP,fun h hh=>(yz h hh).at o,QC⟩
section
variable {G:aA}{d:Nat}{σ:cw}{dY:List St}{k m:Nat}{dV args:List V}{H:AH}{n:Nat}{Q:KV}(ok:aZ G)
include ok
theorem nc {a:Addr}(K:qT G a σ dY k dV)(aI:args.length=k)(hρ:(args++dV).length+m=σ.vars.length)
 (h:∀ne,n<=ne->WB G d ne dY ((args++dV).map some++Up m none) H ne Q) (o:Addr->Prop):x8 (G.at o) (d+1) a args H n Q:=
 HC (K.at o) (ok.at o).ok aI hρ fun F ne aJ=>OQ ok dY _ _ _ _ (h ne aJ) (fun a=>o a\/F a) σ
theorem DM {f:Nat}(K:qT G (G.fa f) σ dY k dV)(aI:args.length=k)(hρ:(args++dV).length+m=σ.vars.length)
 (h:∀ne,n<=ne->WB G d ne dY ((args++dV).map some++Up m none) H ne Q):aE G (d+1) f args H n Q:=
 ⟨fun o=>(nc ok K aI hρ h o).toV⟩
theorem Jj {c:Nat}(hc:Dj c=true)(K:qT G (G.fa (60+c)) σ dY k dV)(aI:args.length+1=k)(hρ:(args++dV).length+1+m=σ.vars.length)
 (h:∀dx x ne,n<=dx->dx≠x->n<=x->H dx=none->H x=none->x+1<=ne->WB G d ne dY (some (.ref x)::(args++dV).map some++Up m none) (upd (upd H dx (.own x)) x (.inst c dx [])) ne fun v H' n'=>v=.none/\Q (.ref x) H' n'):o9 G (d+2) c args H n Q:=
 ⟨fun o=>GS (ok.at o).ok ((ok.at o).cls c hc) fun dx x h1 h2 h3 h4 h5=>nc (args:=.ref x::args) ok K aI (by refine bk hρ ?_;show ((.ref x::(args++dV):List V)).length+m=_;exact ab TS rfl) (fun ne aJ=>h dx x ne h1 h2 h3 h4 h5 aJ) o⟩
theorem EY {c c':Nat}(hc:Dj c=true)(MT:G.ca c'=G.ca c)(K:qT G (G.fa (60+c)) σ dY k dV)(aI:args.length+1=k)(hρ:(args++dV).length+1+m=σ.vars.length)
 (h:∀dx x ne,n<=dx->dx≠x->n<=x->H dx=none->H x=none->x+1<=ne->WB G d ne dY (some (.ref x)::(args++dV).map some++Up m none) (upd (upd H dx (.own x)) x (.inst c dx [])) ne fun v H' n'=>v=.none/\∃uO fs,H' x=some (.inst c uO fs)/\Q (.cU c fs) (cB (cB H' x) uO) n'):o9 G (d+2) c' args H n Q:=
 ⟨fun o=>NZ (ok.at o).ok MT ((ok.at o).cls c hc) fun dx x h1 h2 h3 h4 h5=>nc (args:=.ref x::args) ok K aI (by refine bk hρ ?_;show ((.ref x::(args++dV):List V)).length+m=_;exact ab TS rfl) (fun ne aJ=>h dx x ne h1 h2 h3 h4 h5 aJ) o⟩
end
noncomputable def b0:List St:=[
 .ite (.cmp .Is (.var 0) .none) [.ret (.str "null")] [],
 .ite (.fu (.var 0) (.bi .bool)) [.ret (.str "truth")] [],
 .ite (.fu (.var 0) (.bi .int)) [.ret (.str "int")] [],
 .ite (.fu (.var 0) (.cls 0)) [.ret (.str "real")] [],
 .ite (.fu (.var 0) (.cls 1)) [.ret (.str "name")] [],
 .ite (.fu (.var 0) (.cls 2)) [.ret (.str "string")] [],
 .ite (.fu (.var 0) (.bi .list)) [.ret (.str "array")] [],
 .ite (.fu (.var 0) (.bi .dict)) [.ret (.str "dict")] [],
 .ite (.fu (.var 0) (.cls 3)) [.ret (.str "stream")] [],
 .ite (.fu (.var 0) (.cls 4)) [.ret (.str "ref")] [],
 .bad]
noncomputable def b1:List St:=[
 .ite (.cmp .Eq (.var 0) (.str "null")) [.ret (.tup [.str "null"])] [],
 .ite (.cmp .Eq (.var 0) (.str "truth")) [.ret (.tup [.str "truth",.ite (.var 1) (.int 1) (.int 0)])] [],
 .ite (.cmp .Eq (.var 0) (.str "int")) [.ret (.tup [.str "int",.var 1])] [],
 .ite (.cmp .Eq (.var 0) (.str "real")) [.ret (.tup [.str "real",.attr (.var 1) "top",.attr (.var 1) "places"])] [],
 .ite (.cmp .Eq (.var 0) (.str "name")) [.ret (.tup [.str "name",.attr (.var 1) "text"])] [],
 .ite (.cmp .Eq (.var 0) (.str "string")) [.ret (.tup [.str "string",.bi .bytes [.attr (.var 1) "octets"]])] [],
 .ret (.tup [.str "ref",.attr (.var 1) "number",.attr (.var 1) "generation"])]
noncomputable def b2:List St:=[
 .asg (.var 1) (.call 0 [.var 0]),
 .ite (.cmp .Eq (.var 1) (.str "array")) [.ret (.bin .Add (.tup [.str "array"]) (.bi .tuple [.lc 2 (.call 2 [.var 3]) (.var 3) .pl [.var 0] []]))] [],
 .ite (.cmp .Eq (.var 1) (.str "dict")) [.ret (.bin .Add (.tup [.str "dict"]) (.bi .tuple [.lc 2 (.tup [.var 3,.call 2 [.sub (.var 0) (.var 3)]]) (.var 3) .pl [.bi .sorted [.var 0]] [.cmp .IsNot (.sub (.var 0) (.var 3)) .none]]))] [],
 .ite (.cmp .Eq (.var 1) (.str "stream")) [.ret (.tup [.str "stream",.call 2 [.attr (.var 0) "head"],.bi .bytes [.attr (.var 0) "octets"]])] [],
 .ret (.call 1 [.var 1,.var 0])]
noncomputable def b3:List St:=[
 .ret (.ite (.cmp .Eq (.var 0) (.str "Names")) (.new 2 [.var 1]) (.var 1))]
noncomputable def b4:List St:=[
 .ite (.gx .And [.cmp .Eq (.var 0) (.str "Names"),.fu (.var 1) (.cls 2)]) [.ret (.attr (.var 1) "octets")] [],
 .ite (.gx .And [.cmp .Eq (.var 0) (.str "Nums"),.fu (.var 1) (.bi .int),.not (.fu (.var 1) (.bi .bool))]) [.ret (.var 1)] [],
 .bad]
noncomputable def b5:List St:=[
 .asg (.var 2) (.bx (.var 0) (.fn 43) [.var 1]),
 .ite (.not (.fu (.var 2) (.bi .dict))) [.bad] [],
 .ret (.var 2)]
noncomputable def b6:List St:=[
 .asg (.var 3) (.bx (.var 0) (.fn 44) [.var 1,.var 2]),
 .ite (.not (.fu (.var 3) (.bi .list))) [.bad] [],
 .ret (.var 3)]
noncomputable def b7:List St:=[
 .ite (.cmp .NotIn (.var 2) (.var 1)) [.ret (.list [])] [],
 .asg (.var 3) (.call 6 [.var 0,.var 1,.var 2]),
 .ite (.cmp .NotEq (.bin .Mod (.bi .len [.var 3]) (.int 2)) (.int 0)) [.bad] [],
 .ret (.lc 2 (.tup [.call 4 [.var 2,.bx (.var 0) (.fn 43) [.sub (.var 3) (.var 5)]],.sub (.var 3) (.bin .Add (.var 5) (.int 1))]) (.var 5) .jK [.int 0,.bi .len [.var 3],.int 2] [])]
noncomputable def b8:List St:=[
 .asg (.var 3) (.call 6 [.var 0,.var 1,.str "Limits"]),
 .ite (.cmp .NotEq (.bi .len [.var 3]) (.int 2)) [.bad] [],
 .ret (.tup [.call 4 [.var 2,.bx (.var 0) (.fn 43) [.sub (.var 3) (.int 0)]],.call 4 [.var 2,.bx (.var 0) (.fn 43) [.sub (.var 3) (.int 1)]]])]
noncomputable def b9:List St:=[
 .asg (.var 3) (.tup [.neg (.int 1),.neg (.int 1)]),
 .ite (.fu (.var 1) (.cls 4)) [.asg (.var 3) (.tup [.attr (.var 1) "number",.attr (.var 1) "generation"]),.ite (.cmp .In (.var 3) (.var 0)) [.bad] [],.asg (.sub (.var 2) (.var 3)) (.bin .Add (.bx (.var 2) .get [.var 3,.int 0]) (.int 1)),.ite (.cmp .Gt (.sub (.var 2) (.var 3)) (.md 16)) [.bad] []] [],
 .ite (.cmp .Gt (.bi .len [.var 0]) (.md 40)) [.bad] [],
 .ret (.bin .Add (.var 0) (.tup [.var 3]))]
noncomputable def b10:List St:=[
 .asg (.var 3) (.cR []),
 .asg (.var 4) .aO,
 .asg (.var 5) (.cR [.tup [.var 1,.tup []]]),
 .wh (.cmp .Gt (.bi .len [.var 5]) (.int 0)) [.asg (.tup [.var 6,.var 7]) (.bx (.var 5) .pop []),.asg (.var 7) (.call 9 [.var 7,.var 6,.var 4]),.asg (.var 8) (.call 5 [.var 0,.var 6]),.ite (.cmp .In (.str "Kids") (.var 8)) [.ex (.bx (.var 5) .extend [.lc 2 (.tup [.var 10,.var 7]) (.var 10) .rev [.call 6 [.var 0,.var 8,.str "Kids"]] []])] [.ex (.bx (.var 3) .extend [.call 7 [.var 0,.var 8,.var 2]])]],
 .ret (.mv (.var 3))]
noncomputable def b11:List St:=[
 .asg (.var 2) (.int 0),
 .asg (.var 3) (.bi .len [.var 0]),
 .wh (.cmp .Lt (.var 2) (.var 3)) [.asg (.var 4) (.bin .FloorDiv (.bin .Add (.var 2) (.var 3)) (.int 2)),.ite (.cmp .Lt (.sub (.var 0) (.var 4)) (.var 1)) [.asg (.var 2) (.bin .Add (.var 4) (.int 1))] [.asg (.var 3) (.var 4)]],
 .ret (.var 2)]
noncomputable def b12:List St:=[
 .asg (.var 4) (.int 0),
 .asg (.var 5) (.bi .len [.var 1]),
 .wh (.cmp .Lt (.var 4) (.var 5)) [.asg (.var 6) (.bin .FloorDiv (.bin .Add (.var 4) (.var 5)) (.int 2)),.ite (.cmp .Lt (.sub (.call 8 [.var 0,.call 5 [.var 0,.sub (.var 1) (.var 6)],.var 2]) (.int 1)) (.var 3)) [.asg (.var 4) (.bin .Add (.var 6) (.int 1))] [.asg (.var 5) (.var 6)]],
 .ret (.var 4)]
noncomputable def b13:List St:=[
 .asg (.var 5) (.var 1),
 .fr (.var 6) .jK [.bin .Add (.md 40) (.int 1)] [.asg (.var 7) (.call 5 [.var 0,.var 5]),.ite (.cmp .NotIn (.str "Kids") (.var 7)) [.asg (.var 8) (.call 7 [.var 0,.var 7,.var 2]),.asg (.var 9) (.call 11 [.lc 2 (.sub (.var 12) (.int 0)) (.var 12) .pl [.var 8] [],.var 3]),.ret (.ite (.gx .And [.cmp .Lt (.var 9) (.bi .len [.var 8]),.cmp .Eq (.sub (.sub (.var 8) (.var 9)) (.int 0)) (.var 3)]) (.sub (.sub (.var 8) (.var 9)) (.int 1)) (.var 4))] [],.asg (.var 10) (.call 6 [.var 0,.var 7,.str "Kids"]),.asg (.var 9) (.call 12 [.var 0,.var 10,.var 2,.var 3]),.ite (.gx .Or [.cmp .Eq (.var 9) (.bi .len [.var 10]),.cmp .Lt (.var 3) (.sub (.call 8 [.var 0,.call 5 [.var 0,.sub (.var 10) (.var 9)],.var 2]) (.int 0))]) [.ret (.var 4)] [],.asg (.var 5) (.sub (.var 10) (.var 9))],
 .bad]
noncomputable def b14:List St:=[
 .asg (.var 5) (.cR []),
 .asg (.var 6) .aO,
 .asg (.var 7) (.cR [.tup [.var 1,.tup []]]),
 .wh (.cmp .Gt (.bi .len [.var 7]) (.int 0)) [.asg (.tup [.var 8,.var 9]) (.bx (.var 7) .pop []),.asg (.var 9) (.call 9 [.var 9,.var 8,.var 6]),.asg (.var 10) (.call 5 [.var 0,.var 8]),.ite (.cmp .In (.str "Kids") (.var 10)) [.asg (.var 11) (.call 6 [.var 0,.var 10,.str "Kids"]),.asg (.var 12) (.call 12 [.var 0,.var 11,.var 2,.var 3]),.asg (.var 13) (.cR []),.wh (.gx .And [.cmp .Lt (.var 12) (.bi .len [.var 11]),.cmp .LtE (.sub (.call 8 [.var 0,.call 5 [.var 0,.sub (.var 11) (.var 12)],.var 2]) (.int 0)) (.var 4)]) [.ex (.bx (.var 13) .append [.tup [.sub (.var 11) (.var 12),.var 9]]),.asg (.var 12) (.bin .Add (.var 12) (.int 1))],.fN 13,.ex (.bx (.var 7) .extend [.bi .reversed [.var 13]])] [.ex (.bx (.var 5) .extend [.lc 2 (.var 15) (.var 15) .pl [.call 7 [.var 0,.var 10,.var 2]] [.pf (.var 3) .LtE (.sub (.var 15) (.int 0)) .LtE (.var 4)]])]],
 .ret (.mv (.var 5))]
noncomputable def b15:List St:=[
 .asg (.var 2) (.bin .FloorDiv (.bin .Sub (.bin .Add (.bi .len [.var 0]) (.var 1)) (.int 1)) (.var 1)),
 .asg (.var 3) (.cR []),
 .asg (.var 4) (.int 0),
 .fr (.var 5) .jK [.var 2] [.asg (.var 6) (.bin .Add (.bin .Add (.var 4) (.bin .FloorDiv (.bi .len [.var 0]) (.var 2))) (.ite (.cmp .Lt (.var 5) (.bin .Mod (.bi .len [.var 0]) (.var 2))) (.int 1) (.int 0))),.ex (.bx (.var 3) .append [.pH (.var 0) (.var 4) (.var 6)]),.asg (.var 4) (.var 6)],
 .ret (.mv (.var 3))]
noncomputable def b16:List St:=[
 .asg (.var 2) (.cR []),
 .fr (.tup [.var 3,.var 4]) .pl [.var 1] [.ex (.bx (.var 2) .append [.call 3 [.var 0,.var 3]]),.ex (.bx (.var 2) .append [.var 4])],
 .fN 2,
 .ret (.dict [.str "Limits",.var 0] [.list [.call 3 [.var 0,.sub (.sub (.var 1) (.int 0)) (.int 0)],.call 3 [.var 0,.sub (.sub (.var 1) (.neg (.int 1))) (.int 0)]],.var 2])]
noncomputable def b17:List St:=[
 .ret (.dict [.str "Limits",.str "Kids"] [.list [.sub (.sub (.sub (.var 0) (.int 0)) (.str "Limits")) (.int 0),.sub (.sub (.sub (.var 0) (.neg (.int 1))) (.str "Limits")) (.int 1)],.var 0])]
noncomputable def b18:List St:=[
 .ret (.dc 2 (.var 2) (.sub (.var 0) (.var 2)) (.var 2) .pl [.var 0] [.cmp .NotEq (.var 2) (.str "Limits")])]
noncomputable def b19:List St:=[
 .ite (.cmp .Lt (.var 2) (.int 2)) [.bad] [],
 .asg (.var 3) (.lS (.var 0)),
 .fr (.var 4) .jK [.int 1,.bi .len [.var 3]] [.ite (.cmp .Eq (.sub (.sub (.var 3) (.bin .Sub (.var 4) (.int 1))) (.int 0)) (.sub (.sub (.var 3) (.var 4)) (.int 0))) [.bad] []],
 .ite (.cmp .Eq (.bi .len [.var 3]) (.int 0)) [.ret (.dict [.var 1] [.list []])] [],
 .pe 5 2 (.call 16 [.var 1,.var 7]) (.var 7) .pl [.call 15 [.var 3,.var 2]] [],
 .wh (.cmp .Gt (.bi .len [.var 5]) (.int 1)) [.pe 5 2 (.call 17 [.var 7]) (.var 7) .pl [.call 15 [.var 5,.var 2]] []],
 .ret (.call 18 [.sub (.var 5) (.int 0)])]
noncomputable def b20:List St:=[
 .asg (.var 2) (.bx (.var 0) .get [.var 1,.list []]),
 .ite (.gx .Or [.not (.fu (.var 2) (.bi .list)),.cmp .NotEq (.bin .Mod (.bi .len [.var 2]) (.int 2)) (.int 0)]) [.bad] [],
 .ret (.lc 2 (.tup [.call 4 [.var 1,.sub (.var 2) (.var 4)],.sub (.var 2) (.bin .Add (.var 4) (.int 1))]) (.var 4) .jK [.int 0,.bi .len [.var 2],.int 2] [])]
noncomputable def b21:List St:=[
 .fr (.var 2) .pl [.var 0] [.ite (.gx .Or [.not (.fu (.bx (.var 2) .get [.str "Limits"]) (.bi .list)),.cmp .NotEq (.bi .len [.sub (.var 2) (.str "Limits")]) (.int 2)]) [.bad] []],
 .ret (.lc 2 (.call 4 [.var 1,.sub (.sub (.var 4) (.str "Limits")) (.int 1)]) (.var 4) .pl [.var 0] [])]
noncomputable def b22:List St:=[
 .ite (.gx .Or [.cmp .NotIn (.str "Kids") (.var 0),.cmp .Eq (.sub (.var 0) (.str "Kids")) (.list [])]) [.asg (.var 4) (.ite (.cmp .NotIn (.str "Kids") (.var 0)) (.call 20 [.var 0,.var 1]) (.list [])),.asg (.var 5) (.call 11 [.lc 2 (.sub (.var 9) (.int 0)) (.var 9) .pl [.var 4] [],.sub (.var 2) (.int 0)]),.asg (.var 6) (.ite (.gx .And [.cmp .Lt (.var 5) (.bi .len [.var 4]),.cmp .Eq (.sub (.sub (.var 4) (.var 5)) (.int 0)) (.sub (.var 2) (.int 0))]) (.bin .Add (.var 5) (.int 1)) (.var 5)),.ret (.lc 2 (.call 16 [.var 1,.var 9]) (.var 9) .pl [.call 15 [.bin .Add (.bin .Add (.pH (.var 4) .none (.var 5)) (.list [.var 2])) (.pH (.var 4) (.var 6) .none),.var 3]] [])] [],
 .asg (.var 7) (.sub (.var 0) (.str "Kids")),
 .asg (.var 5) (.bi .min [.call 11 [.call 21 [.var 7,.var 1],.sub (.var 2) (.int 0)],.bin .Sub (.bi .len [.var 7]) (.int 1)]),
 .asg (.var 7) (.bin .Add (.bin .Add (.pH (.var 7) .none (.var 5)) (.call 22 [.sub (.var 7) (.var 5),.var 1,.var 2,.var 3])) (.pH (.var 7) (.bin .Add (.var 5) (.int 1)) .none)),
 .ret (.lc 2 (.call 17 [.var 9]) (.var 9) .pl [.call 15 [.var 7,.var 3]] [])]
noncomputable def b23:List St:=[
 .ite (.cmp .Lt (.var 4) (.int 2)) [.bad] [],
 .asg (.var 5) (.call 22 [.var 0,.var 1,.tup [.var 2,.var 3],.var 4]),
 .ret (.ite (.cmp .Eq (.bi .len [.var 5]) (.int 1)) (.call 18 [.sub (.var 5) (.int 0)]) (.dict [.str "Kids"] [.var 5]))]
noncomputable def b24:List St:=[
 .ite (.cmp .NotIn (.str "Kids") (.var 0)) [.pe 3 2 (.var 8) (.var 8) .pl [.call 20 [.var 0,.var 1]] [.cmp .NotEq (.sub (.var 8) (.int 0)) (.var 2)],.ret (.ite (.cmp .Gt (.bi .len [.var 3]) (.int 0)) (.call 16 [.var 1,.var 3]) .none)] [],
 .asg (.var 4) (.sub (.var 0) (.str "Kids")),
 .asg (.var 5) (.call 11 [.call 21 [.var 4,.var 1],.var 2]),
 .ite (.cmp .Eq (.var 5) (.bi .len [.var 4])) [.ret (.var 0)] [],
 .asg (.var 6) (.call 24 [.sub (.var 4) (.var 5),.var 1,.var 2]),
 .asg (.var 4) (.bin .Add (.bin .Add (.pH (.var 4) .none (.var 5)) (.ite (.cmp .IsNot (.var 6) .none) (.list [.var 6]) (.list []))) (.pH (.var 4) (.bin .Add (.var 5) (.int 1)) .none)),
 .ret (.ite (.cmp .Gt (.bi .len [.var 4]) (.int 0)) (.call 17 [.var 4]) .none)]
noncomputable def b25:List St:=[
 .asg (.var 3) (.call 24 [.var 0,.var 1,.var 2]),
 .ite (.cmp .Is (.var 3) .none) [.ret (.dict [.var 1] [.list []])] [],
 .wh (.gx .And [.cmp .In (.str "Kids") (.var 3),.cmp .Eq (.bi .len [.sub (.var 3) (.str "Kids")]) (.int 1)]) [.asg (.var 3) (.sub (.sub (.var 3) (.str "Kids")) (.int 0))],
 .ret (.call 18 [.var 3])]
noncomputable def b26:List St:=[
 .ite (.cmp .NotIn (.str "Kids") (.var 1)) [.ret (.bi .lE [.var 1])] [],
 .asg (.var 2) (.bi .dict [.var 1]),
 .asg (.sub (.var 2) (.str "Kids")) (.lc 2 (.bx (.var 0) (.fn 45) [.call 26 [.var 0,.var 4]]) (.var 4) .pl [.sub (.var 1) (.str "Kids")] []),
 .ret (.mv (.var 2))]
noncomputable def b27:List St:=[
 .asg (.var 4) (.ite (.cmp .Is (.var 3) .none) .aO (.var 3)),
 .asg (.var 5) (.call 9 [.var 2,.var 1,.var 4]),
 .asg (.var 6) (.bi .dict [.call 5 [.var 0,.var 1]]),
 .ite (.cmp .In (.str "Kids") (.var 6)) [.asg (.var 7) (.cR []),.fr (.var 8) .pl [.call 6 [.var 0,.var 6,.str "Kids"]] [.ex (.bx (.var 7) .append [.call 27 [.var 0,.var 8,.var 5,.var 4]])],.fN 7,.asg (.sub (.var 6) (.str "Kids")) (.var 7)] [],
 .ret (.mv (.var 6))]
noncomputable def b28:List St:=[
 .asg (.var 3) (.new 6 [.var 0,.var 2]),
 .ex (.bx (.var 3) (.fn 51) [.var 1,.str "root"]),
 .ret (.mv (.attr (.var 3) "faults"))]
noncomputable def b29:List St:=[
 .ret (.cR [.lc 2 (.bi .int [.var 2]) (.var 2) .pl [.pH (.var 0) .none (.int 63)] [],.int 0,.int 0])]
noncomputable def b30:List St:=[
 .asg (.tup [.var 2,.var 3]) (.tup [.sub (.var 0) (.int 0),.sub (.var 0) (.int 1)]),
 .ite (.cmp .Eq (.sub (.var 0) (.int 2)) (.int 0)) [.asg (.sub (.var 0) (.int 1)) (.bin .Add (.var 3) (.int 1)),.asg (.var 4) (.ite (.cmp .Lt (.var 3) (.bi .len [.var 2])) (.sub (.var 2) (.var 3)) (.bin .Add (.bin .Add (.bin .Mult (.int 11) (.var 3)) (.bin .FloorDiv (.bin .Mult (.var 3) (.var 3)) (.int 3))) (.ite (.cmp .NotEq (.var 2) (.list [])) (.sub (.var 2) (.bin .Mod (.var 3) (.bi .len [.var 2]))) (.int 2)))),.ite (.gx .Or [.cmp .GtE (.var 3) (.bi .len [.var 2]),.cmp .Lt (.bi .abs [.var 4]) (.bin .Pow (.int 10) (.int 18))]) [.ret (.bin .Mod (.var 4) (.var 1))] [],.asg (.sub (.var 0) (.int 2)) (.bin .Sub (.bi .abs [.var 4]) (.bin .Pow (.int 10) (.int 18)))] [],
 .asg (.var 5) (.bin .Mod (.sub (.var 0) (.int 2)) (.var 1)),
 .asg (.sub (.var 0) (.int 2)) (.bin .FloorDiv (.sub (.var 0) (.int 2)) (.var 1)),
 .ret (.var 5)]
noncomputable def b31:List St:=[
 .ite (.cmp .Eq (.var 0) (.str "Nums")) [.ret (.bin .Mult (.bin .Sub (.var 1) (.int 9)) (.sub (.tup [.int 1,.bin .Pow (.int 10) (.int 30)]) (.bin .Mod (.var 1) (.int 2))))] [],
 .ret (.bi .bytes [.bin .Add (.bin .Mult (.list [.bin .Add (.int 65) (.bin .Mod (.var 1) (.int 3))]) (.bin .FloorDiv (.var 1) (.int 3))) (.list [.bin .Add (.int 97) (.var 1)])])]
noncomputable def b32:List St:=[
 .ret (.lc 2 (.tup [.var 2,.sub (.var 0) (.var 2)]) (.var 2) .pl [.bi .sorted [.var 0]] [])]
noncomputable def b33:List St:=[
 .ret (.ite (.cmp .In (.str "Kids") (.var 0)) (.bin .Add (.int 1) (.call 33 [.sub (.sub (.var 0) (.str "Kids")) (.int 0)])) (.int 1))]
noncomputable def b34:List St:=[
 .asg (.var 1) (.list [.var 0]),
 .fr (.var 2) .pl [.bx (.var 0) .get [.str "Kids",.list []]] [.asg (.var 1) (.bin .Add (.var 1) (.call 34 [.var 2]))],
 .ret (.var 1)]
noncomputable def b35:List St:=[
 .pe 2 2 (.var 4) (.var 4) .pl [.call 34 [.var 0]] [.cmp .NotIn (.str "Mark") (.var 4)],
 .fr (.var 1) .pl [.var 2] [.asg (.sub (.var 1) (.str "Mark")) (.int 1)],
 .ret (.bi .len [.var 2])]
noncomputable def b36:List St:=[
 .asg (.tup [.var 5,.var 6,.var 7]) (.sub (.var 1) (.neg (.int 1))),
 .asg (.var 8) (.bi .sorted [.var 6]),
 .ite (.gx .Or [.cmp .Eq (.var 4) (.int 0),.cmp .Eq (.var 8) (.list [])]) [.asg (.var 9) (.ite (.gx .Or [.cmp .Eq (.var 8) (.list []),.cmp .Gt (.call 30 [.var 0,.int 4]) (.int 0)]) (.call 31 [.var 2,.call 30 [.var 0,.int 19]]) (.sub (.var 8) (.call 30 [.var 0,.bi .len [.var 8]]))),.asg (.var 10) (.call 23 [.var 5,.var 2,.var 9,.bin .Add (.int 50) (.bi .len [.var 1]),.var 3]),.asg (.var 11) (.bi .dict [.var 6]),.asg (.sub (.var 11) (.var 9)) (.bin .Add (.int 50) (.bi .len [.var 1])),.fN 11,.ex (.bx (.var 1) .append [.tup [.var 10,.var 11,.bin .Add (.call 33 [.var 5]) (.bi .max [.int 0,.bin .Sub (.bi .len [.call 34 [.var 10]]) (.bi .len [.call 34 [.var 5]])])]]),.pG] [],
 .asg (.var 9) (.ite (.cmp .Lt (.var 4) (.int 4)) (.sub (.var 8) (.sub (.tup [.int 0,.bin .FloorDiv (.bi .len [.var 8]) (.int 2),.neg (.int 1)]) (.bin .Sub (.var 4) (.int 1)))) (.call 31 [.var 2,.call 30 [.var 0,.int 19]])),
 .asg (.var 12) (.bi .lE [.lc 2 (.tup [.var 14,.sub (.var 6) (.var 14)]) (.var 14) .pl [.var 8] [.cmp .NotEq (.var 14) (.var 9)]]),
 .ex (.bx (.var 1) .append [.tup [.call 25 [.var 5,.var 2,.var 9],.var 12,.call 33 [.var 5]]])]
noncomputable def b37:List St:=[
 .asg (.tup [.var 5,.var 6]) (.tup [.new 7 [],.call 32 [.var 2]]),
 .ite (.gx .Or [.cmp .NotEq (.call 10 [.var 5,.var 1,.var 0]) (.var 6),.cmp .NotEq (.call 28 [.var 5,.var 1,.var 0]) (.list [])]) [.ret (.bool false)] [],
 .ite (.cmp .NotEq (.call 14 [.var 5,.var 1,.var 0,.var 3,.var 4]) (.lc 2 (.var 8) (.var 8) .pl [.var 6] [.pf (.var 3) .LtE (.sub (.var 8) (.int 0)) .LtE (.var 4)])) [.ret (.bool false)] [],
 .ret (.cmp .Eq (.lc 2 (.call 13 [.var 5,.var 1,.var 0,.var 8,.str "none"]) (.var 8) .pl [.tup [.var 3,.var 4]] []) (.lc 2 (.bx (.var 2) .get [.var 8,.str "none"]) (.var 8) .pl [.tup [.var 3,.var 4]] []))]
noncomputable def Qh:List St:=[
 .asg (.tup [.var 5,.var 6]) (.tup [.new 5 [],.call 31 [.var 1,.call 30 [.var 0,.int 19]]]),
 .asg (.var 7) (.call 26 [.var 5,.var 3]),
 .fN 5,
 .asg (.tup [.var 8,.var 9]) (.tup [.bx (.var 5) (.fn 47) [],.call 2 [.var 7]]),
 .asg (.var 10) (.call 27 [.var 5,.var 7]),
 .ite (.cmp .NotEq (.call 2 [.var 10]) (.call 2 [.var 3])) [.ret (.bool false)] [],
 .asg (.tup [.var 11,.var 12]) (.tup [.bi .dict [.var 4],.bi .lE [.lc 2 (.tup [.var 15,.sub (.var 4) (.var 15)]) (.var 15) .pl [.var 4] [.cmp .NotEq (.var 15) (.var 6)]]]),
 .asg (.sub (.var 11) (.var 6)) (.int 7),
 .ite (.cmp .NotEq (.call 10 [.var 5,.call 23 [.var 10,.var 1,.var 6,.int 7,.var 2],.var 1]) (.call 32 [.var 11])) [.ret (.bool false)] [],
 .ite (.cmp .NotEq (.call 10 [.var 5,.call 25 [.var 10,.var 1,.var 6],.var 1]) (.call 32 [.var 12])) [.ret (.bool false)] [],
 .dG,
 .asg (.sub (.var 10) (.str "Mark")) (.int 1),
 .fr (.var 13) .pl [.call 34 [.var 10]] [.ex (.bx (.var 13) .pk [.str "Limits",.none])],
 .ret (.gx .And [.cmp .Eq (.bx (.var 5) (.fn 47) []) (.var 8),.cmp .Eq (.call 2 [.var 7]) (.var 9),.cmp .Eq (.call 10 [.var 5,.var 7,.var 1]) (.call 32 [.var 4])])]
noncomputable def LP:List St:=[
 .asg (.var 1) (.call 29 [.var 0]),
 .asg (.tup [.var 2,.var 3,.var 4,.var 5]) (.tup [.sub (.tup [.str "Names",.str "Nums"]) (.call 30 [.var 1,.int 2]),.call 30 [.var 1,.int 9],.bin .Add (.int 2) (.call 30 [.var 1,.int 3]),.call 30 [.var 1,.int 5]]),
 .asg (.var 6) .jo,
 .fr (.var 7) .jK [.var 3] [.asg (.sub (.var 6) (.call 31 [.var 2,.call 30 [.var 1,.int 19]])) (.var 7)],
 .fN 6,
 .asg (.var 8) (.cR [.tup [.call 19 [.lc 2 (.tup [.var 16,.sub (.var 6) (.var 16)]) (.var 16) .pl [.var 6] [],.var 2,.var 4],.var 6,.int 0]]),
 .fr (.var 7) .jK [.var 5] [.ex (.call 36 [.var 1,.var 8,.var 2,.var 4,.call 30 [.var 1,.int 5]])],
 .wh (.cmp .NotEq (.sub (.sub (.var 8) (.neg (.int 1))) (.int 1)) (.dict [] [])) [.ex (.call 36 [.var 1,.var 8,.var 2,.var 4,.bin .Add (.int 1) (.call 30 [.var 1,.int 3])])],
 .fN 8,
 .asg (.tup [.var 9,.var 10]) (.bi .sorted [.list [.call 31 [.var 2,.call 30 [.var 1,.int 19]],.call 31 [.var 2,.call 30 [.var 1,.int 19]]]]),
 .ite (.cmp .NotEq (.call 2 [.sub (.sub (.var 8) (.neg (.int 1))) (.int 0)]) (.call 2 [.dict [.var 2] [.list []]])) [.ret (.bool false)] [],
 .asg (.var 11) (.call 30 [.var 1,.bi .len [.var 8]]),
 .ite (.not (.call 38 [.var 1,.var 2,.var 4,.sub (.sub (.var 8) (.var 11)) (.int 0),.sub (.sub (.var 8) (.var 11)) (.int 1)])) [.ret (.bool false)] [],
 .fr (.tup [.var 12,.var 13,.var 14]) .pl [.var 8] [.ite (.not (.call 37 [.var 2,.var 12,.var 13,.var 9,.var 10])) [.ret (.bool false)] []],
 .dG,
 .ex (.call 35 [.sub (.sub (.var 8) (.int 0)) (.int 0)]),
 .ret (.cmp .Eq (.lc 4 (.var 18) (.tup [.var 16,.var 17,.var 18]) .pl [.pH (.var 8) (.int 1) .none] [.cmp .Gt (.call 35 [.var 16]) (.var 18)]) (.list []))]
noncomputable def b43:List St:=[
 .asg (.var 2) (.var 1),
 .fr (.var 3) .jK [.md 30] [.ite (.not (.fu (.var 2) (.cls 4))) [.ret (.var 2)] [],.asg (.tup [.var 4,.var 5]) (.bx (.attr (.var 0) "table") .get [.attr (.var 2) "number",.tup [.neg (.int 1),.none]]),.ite (.cmp .NotEq (.var 4) (.attr (.var 2) "generation")) [.ret .none] [],.asg (.var 2) (.var 5)],
 .ret (.ite (.fu (.var 2) (.cls 4)) .none (.var 2))]
noncomputable def b44:List St:=[
 .ret (.bx (.var 0) (.fn 43) [.bx (.var 1) .get [.var 2]])]
noncomputable def b45:List St:=[
 .asg (.var 2) (.int 1),
 .wh (.cmp .In (.var 2) (.attr (.var 0) "table")) [.asg (.var 2) (.bin .Add (.var 2) (.int 1))],
 .asg (.sub (.attr (.var 0) "table") (.var 2)) (.tup [.int 0,.var 1]),
 .ret (.new 4 [.var 2,.int 0])]
noncomputable def b46:List St:=[
 .ret (.bi .sorted [.attr (.var 0) "table"])]
noncomputable def b47:List St:=[
 .asg (.var 1) (.bi .tuple [.lc 2 (.tup [.var 3,.sub (.sub (.attr (.var 0) "table") (.var 3)) (.int 0),.call 2 [.sub (.sub (.attr (.var 0) "table") (.var 3)) (.int 1)]]) (.var 3) .pl [.bx (.var 0) (.fn 46) []] []]),
 .ret (.tup [.var 1,.call 2 [.attr (.var 0) "trailer"]])]
noncomputable def b50:List St:=[
 .ite (.cmp .Gt (.bx (.var 2) .count [.str "."]) (.md 40)) [.ex (.bx (.var 0) (.fn 49) [.var 2,.str "too deep"]),.ret (.bool false)] [],
 .ite (.fu (.var 1) (.cls 4)) [.ite (.cmp .In (.tup [.attr (.var 1) "number",.attr (.var 1) "generation"]) (.attr (.var 0) "seen")) [.ex (.bx (.var 0) (.fn 49) [.var 2,.str "met before"]),.ret (.bool false)] [],.asg (.sub (.attr (.var 0) "seen") (.tup [.attr (.var 1) "number",.attr (.var 1) "generation"])) (.bool true)] [],
 .ret (.bool true)]
noncomputable def b51:List St:=[
 .ite (.not (.bx (.var 0) (.fn 50) [.var 1,.var 2])) [.pG] [],
 .asg (.var 3) (.bx (.attr (.var 0) "shelf") (.fn 43) [.var 1]),
 .ite (.not (.fu (.var 3) (.bi .dict))) [.ex (.bx (.var 0) (.fn 49) [.var 2,.str "no dict"]),.pG] [],
 .ite (.cmp .Eq (.cmp .In (.str "Kids") (.var 3)) (.cmp .In (.attr (.var 0) "word") (.var 3))) [.ex (.bx (.var 0) (.fn 49) [.var 2,.ite (.cmp .In (.str "Kids") (.var 3)) (.bin .Add (.str "both Kids and ") (.attr (.var 0) "word")) (.bin .Add (.str "neither Kids nor ") (.attr (.var 0) "word"))])] [],
 .asg (.var 4) (.bi .len [.attr (.var 0) "keys"]),
 .Ko [.ex (.bx (.var 0) (.fn 52) [.var 3,.var 2]),.asg (.var 5) (.ite (.cmp .In (.str "Kids") (.var 3)) (.call 6 [.attr (.var 0) "shelf",.var 3,.str "Kids"]) (.list []))],
 .fr (.var 7) .jK [.bi .len [.var 5]] [.ex (.bx (.var 0) (.fn 51) [.sub (.var 5) (.var 7),.bin .Add (.bin .Add (.var 2) (.str ".")) (.bi .str [.var 7])])],
 .ex (.bx (.var 0) (.fn 53) [.var 3,.var 2,.pH (.attr (.var 0) "keys") (.var 4) .none])]
noncomputable def b52:List St:=[
 .fr (.tup [.var 3,.var 4]) .pl [.call 7 [.attr (.var 0) "shelf",.var 1,.attr (.var 0) "word"]] [.ite (.gx .And [.cmp .Gt (.bi .len [.attr (.var 0) "keys"]) (.int 0),.not (.cmp .Lt (.sub (.attr (.var 0) "keys") (.neg (.int 1))) (.var 3))]) [.ex (.bx (.var 0) (.fn 49) [.var 2,.str "a key out of order"])] [],.ex (.bx (.attr (.var 0) "keys") .append [.var 3])]]
noncomputable def b53:List St:=[
 .ite (.cmp .Eq (.var 2) (.str "root")) [.ite (.cmp .In (.str "Limits") (.var 1)) [.ex (.bx (.var 0) (.fn 49) [.var 2,.str "Limits at the root"])] []] [.ite (.cmp .NotIn (.str "Limits") (.var 1)) [.ex (.bx (.var 0) (.fn 49) [.var 2,.str "no Limits"])] [.ite (.cmp .Gt (.bi .len [.var 3]) (.int 0)) [.Ko [.ite (.cmp .NotEq (.call 8 [.attr (.var 0) "shelf",.var 1,.attr (.var 0) "word"]) (.tup [.sub (.var 3) (.int 0),.sub (.var 3) (.neg (.int 1))])) [.ex (.bx (.var 0) (.fn 49) [.var 2,.str "wrong Limits"])] []]] []]]]
noncomputable def b62:List St:=[
 .asg (.attr (.var 0) "octets") (.var 1),
 .asg (.attr (.var 0) "is_hex") (.var 2)]
noncomputable def b64:List St:=[
 .asg (.attr (.var 0) "number") (.var 1),
 .asg (.attr (.var 0) "generation") (.var 2)]
noncomputable def b65:List St:=[
 .asg (.attr (.var 0) "table") (.ite (.cmp .Is (.var 1) .none) .jo (.var 1)),
 .asg (.attr (.var 0) "trailer") (.ite (.cmp .Is (.var 2) .none) .jo (.var 2))]
noncomputable def b66:List St:=[
 .asg (.attr (.var 0) "shelf") (.var 1),
 .asg (.attr (.var 0) "word") (.var 2),
 .asg (.attr (.var 0) "faults") (.cR []),
 .asg (.attr (.var 0) "seen") .aO,
 .asg (.attr (.var 0) "keys") (.cR [])]
noncomputable def LQ:List St:=[
 .asg (.attr (.var 0) "table") (.ite (.cmp .Is (.var 1) .none) (.dict [] []) (.var 1)),
 .asg (.attr (.var 0) "trailer") (.ite (.cmp .Is (.var 2) .none) (.dict [] []) (.var 2))]
noncomputable def LO:List St:=[
 .asg (.var 4) (.ite (.cmp .Is (.var 3) .none) .aO (.var 3)),
 .asg (.var 5) (.call 9 [.var 2,.var 1,.var 4]),
 .asg (.var 6) (.bi .dict [.call 5 [.var 0,.var 1]]),
 .ite (.cmp .In (.str "Kids") (.var 6)) [.asg (.var 7) (.cR []),.fr (.var 8) .pl [.call 6 [.var 0,.var 6,.str "Kids"]] [.ex (.bx (.var 7) .append [.call 27 [.var 0,.var 8,.var 5,.var 4]])],.fN 7,.asg (.sub (.var 6) (.str "Kids")) (.var 7)] [],
 .ret (.mv (.var 6))]
noncomputable def dF (G:aA)(a:Addr)(dY:List St)(k:Nat)(dV:List V)(nv:Nat):Prop:=∃σ:cw,qT G a σ dY k dV/\σ.vars.length=nv/\k+dV.length<=nv
structure fJ (G:aA):Prop where
 f0:dF G (G.fa 0) b0 1 [] 1
 f1:dF G (G.fa 1) b1 2 [] 2
 f2:dF G (G.fa 2) b2 1 [] 2
 f3:dF G (G.fa 3) b3 2 [] 2
 f4:dF G (G.fa 4) b4 2 [] 2
 f5:dF G (G.fa 5) b5 2 [] 3
 f6:dF G (G.fa 6) b6 3 [] 4
 f7:dF G (G.fa 7) b7 3 [] 4
 f8:dF G (G.fa 8) b8 3 [] 4
 f9:dF G (G.fa 9) b9 3 [] 4
 f10:dF G (G.fa 10) b10 3 [] 9
 f11:dF G (G.fa 11) b11 2 [] 5
 f12:dF G (G.fa 12) b12 4 [] 7
 f13:dF G (G.fa 13) b13 5 [] 11
 f14:dF G (G.fa 14) b14 5 [] 14
 f15:dF G (G.fa 15) b15 2 [] 7
 f16:dF G (G.fa 16) b16 2 [] 5
 f17:dF G (G.fa 17) b17 1 [] 1
 f18:dF G (G.fa 18) b18 1 [] 1
 f19:dF G (G.fa 19) b19 3 [] 6
 f20:dF G (G.fa 20) b20 2 [] 3
 f21:dF G (G.fa 21) b21 2 [] 3
 f22:dF G (G.fa 22) b22 4 [] 8
 f23:dF G (G.fa 23) b23 5 [] 6
 f24:dF G (G.fa 24) b24 3 [] 7
 f25:dF G (G.fa 25) b25 3 [] 4
 f26:dF G (G.fa 26) b26 2 [] 3
 f27:dF G (G.fa 27) b27 4 [] 9
 Qz:dF G (G.fa 27) LO 2 [.tup [],.none] 9
 f28:dF G (G.fa 28) b28 3 [] 4
 f29:dF G (G.fa 29) b29 1 [] 1
 f30:dF G (G.fa 30) b30 2 [] 6
 f31:dF G (G.fa 31) b31 2 [] 2
 f32:dF G (G.fa 32) b32 1 [] 1
 f33:dF G (G.fa 33) b33 1 [] 1
 f34:dF G (G.fa 34) b34 1 [] 3
 f35:dF G (G.fa 35) b35 1 [] 3
 f36:dF G (G.fa 36) b36 5 [] 13
 f37:dF G (G.fa 37) b37 5 [] 7
 f38:dF G (G.fa 38) Qh 5 [] 14
 f39:dF G (G.fa 39) LP 1 [] 15
 f43:dF G (G.fa 43) b43 2 [] 6
 f44:dF G (G.fa 44) b44 3 [] 3
 f45:dF G (G.fa 45) b45 2 [] 3
 f46:dF G (G.fa 46) b46 1 [] 1
 f47:dF G (G.fa 47) b47 1 [] 2
 f50:dF G (G.fa 50) b50 3 [] 3
 f51:dF G (G.fa 51) b51 3 [] 8
 f52:dF G (G.fa 52) b52 3 [] 5
 f53:dF G (G.fa 53) b53 4 [] 5
 f62:dF G (G.fa 62) b62 2 [.bool false] 3
 f64:dF G (G.fa 64) b64 3 [] 3
 f65:dF G (G.fa 65) b65 1 [.none,.none] 3
 QA:dF G (G.fa 65) LQ 1 [.none,.none] 3
 f66:dF G (G.fa 66) b66 3 [] 3
noncomputable def JZ (args dV:List V)(nv:Nat):bt:=(args++dV).map some++Up (nv - (args++dV).length) none
theorem tB {k d:Nat}(h:k+1<=d):∃e,d=e+1/\k<=e:=(ai (d - 1) ((Nat.succ_pred_eq_of_pos (TF (Uc 1 k) h)).symm) (Nat.le_pred_of_lt h))
section
variable {G:aA}{d f:Nat}{dY:List St}{k kd nv c:Nat}{dV args:List V}{H:AH}{n:Nat}{Q:KV}(ok:aZ G)
include ok
theorem aF (K:dF G (G.fa f) dY k dV nv)(hd:kd+1<=d)(aI:args.length=k)(h:∀d,kd<=d->∀ne,n<=ne->WB G d ne dY (JZ args dV nv) H ne Q):aE G d f args H n Q:=by
 refine bE K fun σ K hv hk=>?_;refine mP (tB hd) fun d KD=>?_;refine DM (m:=nv - (args++dV).length) ok K aI ?_ (h d KD);refine ab hv (ab TG (ab aI ?_));exact Nat.add_sub_of_le hk
theorem B2 {c':Nat}(hc:Dj c=true)(MT:G.ca c'=G.ca c)(K:dF G (G.fa (60+c)) dY k dV nv)(hd:kd+2<=d)(aI:args.length+1=k)
 (h:∀d,kd<=d->∀dx x,n<=x->H dx=none->H x=none->∀ne,x+1<=ne->WB G d ne dY (JZ (.ref x::args) dV nv) (upd (upd H dx (.own x)) x (.inst c dx [])) ne fun v H' n'=>v=.none/\∃uO fs,H' x=some (.inst c uO fs)/\Q (.cU c fs) (cB (cB H' x) uO) n'):o9 G d c' args H n Q:=by
 refine bE K fun σ K hv hk=>?_;refine mP (tB hd) fun d KD=>?_;refine mP (tB KD) fun d Io=>?_;refine EY (m:=nv - (.ref 0::(args++dV)).length) ok hc MT K aI ?_ fun dx x ne h1 h2 h3 h4 h5 h6=>h d Io dx x h3 h4 h5 ne h6;refine ab hv (ab TS (ab TG ?_));exact UC (aH (cm (nv - ((args.length+dV.length)+1)) args.length dV.length nv) [(1,.add aq (.add (.add aw aN) ay),bL)] (.add (.add (.add aw aN) ay) aq) bL rfl (TL (UZ (aH (cm args.length k dV.length nv) [(1,.add aq ay,aw),(1,.add aw aN,bL)] (.add (.add aq aN) ay) bL rfl (TL aI) hk)))) (aH (cm nv (nv - ((args.length+dV.length)+1)) args.length dV.length) [(1,aq,.add aw (.add (.add aN bL) ay))] aq (.add (.add (.add aN bL) ay) aw) rfl (UU (TJ (nv - ((args.length+dV.length)+1)))))
end
theorem aE.mono {G:aA}{d f:Nat}{args:List V}{H:AH}{n:Nat}{Q Q':KV}(h:aE G d f args H n Q)(k:∀v H n,Q v H n->Q' v H n):aE G d f args H n Q':=
 ⟨fun o=>cj.mono (h.run o) k⟩
theorem fK.less {G:aA}{h:Heap}{H P:AH}(K:fc G h (Pf G H) h (Pf G P)){a:Addr}{o:bG}(r:fK G h H a o)(hO:∀c dx fs,o=.inst c dx fs->P dx=H dx):fK G h P a o:=by
 cases o with
 | list l=>refine ah r fun aj hl r=>?_;exact (ai aj hl (au.kept K _ r))
 | dict es=>refine ah r fun kvs hd r=>?_;exact (ai kvs hd (aP.kept K _ r))
 | aO es=>
  refine bE r fun xs hd ht r=>?_;obtain ⟨hd,ht⟩:=hd.kept K ht fun O e=>e;exact (bW xs hd ht (cb.kept K r))
 | inst c dx fs=>refine qS r fun dp od es k h1 h2 h3 h4 h5 h6 h7 r=>?_;exact (uY dp od es k ((hO _ _ _ rfl).trans h1) h2 h3 h4 h5 h6 h7 (hG.kept K _ r))
 | own a0=>exact r
 | tab f=>exact r
 | jK lo n c=>exact r
 | sE l=>refine cn r fun L aj h1 h2 Tj r=>?_;obtain ⟨nn,h3⟩:=Tj;exact (cD L aj h1 (K.pp _ _ h3 h2) ⟨nn,h3⟩ (au.kept K _ r))
theorem aE.gc {G:aA}{d f:Nat}{args:List V}{H:AH}{n:Nat}{Q:KV}(h:aE G d f args H n fun v H' n'=>∃H2:AH,(∀a o,H2 a=some o->H' a=some o)/\(∀b c dx fs,H2 b=some (.inst c dx fs)->H2 dx=H' dx)/\Q v H2 n'):aE G d f args H n Q:=
 ⟨fun o A s aD Q' E hr rv R po=>h.run o A s aD Q' E hr rv R fun v H' n' v' s' q r R2 S l=>by
  refine bE q fun H2 h1 h2 q=>?_;have hn:∀a,H' a=none->H2 a=none:=fun a e=>by
   cases z:H2 a with
   | none=>rfl
   | some o=>rw [h1 a o z] at e;injection e
  have K:fc (G.at o) s'.heap (Pf (G.at o) H') s'.heap (Pf (G.at o) H2):=⟨fun O O e O=>e,fun O O e O=>e,fun O O O p=>⟨hn _ p.1,p.2⟩⟩;exact po v H2 n' v' s' q (aC.kept K v r) ⟨R2.base,R2.size,fun a ob e=>(R2.objs a ob (h1 a ob e)).less K fun c dx fs z=>h2 a c dx fs (z▸e),R2.glob,fun a e=>R2.lo a fun z=>e (hn a z),fun a e=>⟨(R2.own a e).1,(R2.own a e).2.1,hn a (R2.own a e).2.2⟩⟩ ⟨S.keep,fun b e=>S.u9 b fun z=>e (hn b z),S.size⟩ l⟩
noncomputable def pQ (H:AH)(Q:KV):KV:=fun v H' n'=>(∀a o,H a=some o->H' a=some o)/\Q v H n'
theorem aE.pure {G:aA}{d f:Nat}{args:List V}{H:AH}{n:Nat}{Q:KV}(h:aE G d f args H n (pQ H Q)):aE G d f args H n Q:=
 ⟨fun o A s aD Q' E hr rv R po=>(aE.gc (Q:=Q) ((show aE G d f args H n _ from h).mono fun v H' n' q=>(bW H q.1 (fun b c dx fs e=>by
  refine o5 (R.objs b _ e) fun O O O O z O=>?_;exact ab z (ab (q.1 _ _ z) rfl)) q.2))).run o A s aD Q' E hr rv R po⟩
noncomputable def HW (step:V->bt->AH->Nat->KR->Prop):List V->bt->AH->Nat->KR->Prop
 | [],ρ,H,n,Q=>Q ρ H n
 | x::xs,ρ,H,n,Q=>step x ρ H n fun ρ H n=>HW step xs ρ H n Q
theorem q9 {step:V->bt->AH->Nat->KR->Prop}{l:List V}{ρ:bt}{H:AH}{n:Nat}{Q:KR}(h:HW step l ρ H n Q):ny step l ρ H n Q:=by
 unfold ny;exact (bW (fun l ρ H n=>HW step l ρ H n Q) h (fun O O O O O h=>h) (fun O O O h=>h))
noncomputable def pX (step:V->AH->Nat->KV->(AH->Nat->Prop)->Prop):List V->List V->AH->Nat->KL->Prop
 | [],ds,H,n,Q=>Q ds H n
 | x::xs,ds,H,n,Q=>step x H n (fun v H1 n1=>pX step xs (ds++[v]) H1 n1 Q) fun H1 n1=>pX step xs ds H1 n1 Q
theorem sZ {step:V->AH->Nat->KV->(AH->Nat->Prop)->Prop}{l:List V}{H:AH}{n:Nat}{Q:KL}(h:pX step l [] H n Q):fg step l H n Q:=by
 unfold fg;exact (bW (fun ds l H n=>pX step l ds H n Q) h (fun O O O O O h=>h) (fun O O O h=>h))
theorem Lc {α:Type}{c:bt->AH->Nat->KB->Prop}{b:bt->AH->Nat->KR->Prop}{ρ:bt}{H:AH}{n:Nat}{Q:KR}(f:α->bt)(g:α->AH)(m:α->Nat)(P:Nat->α->Prop)(s0:α)(e1:ρ=f s0)(e2:H=g s0)(h0:P n s0)
 (step:∀s n1,P n1 s->c (f s) (g s) n1 fun t H1 n2=>Br t (b (f s) H1 n2 fun ρ2 H2 n3=>∃s',ρ2=f s'/\H2=g s'/\P n3 s'/\m s'<m s) (Q (f s) H1 n2)):xX c b ρ H n Q:=by
 subst e1;subst e2;unfold xX;refine (cg (fun k ρ H n1=>∃s,ρ=f s/\H=g s/\P n1 s/\m s=k) (m s0) (du s0 rfl rfl h0 rfl) ?_);refine fun k ρ H n1 h0=>mM h0 fun s q1 q2 h1 q3=>?_;subst q1;subst q2;subst q3;have:∀s:α,(fun ρ2 H2 n3=>∃s',ρ2=f s'/\H2=g s'/\P n3 s'/\m s'<m s)=fun ρ2 H2 n2=>∃m_1,m_1<m s/\∃s,ρ2=f s/\H2=g s/\P n2 s/\m s=m_1:=fun s=>funext fun ρ=>funext fun H=>funext fun n=>propext ⟨fun h=>mM h fun s h1 h2 h3 h4=>ai _ h4 (du s h1 h2 h3 rfl),fun h=>ah h fun k h4 h=>mM h fun s h1 h2 h3 e=>du s h1 h2 h3 (e▸h4)⟩;refine bk (this ..) ?_;exact step s n1 h1
theorem PL {α:Type}{c:bt->AH->Nat->KB->Prop}{b:bt->AH->Nat->KR->Prop}{ρ:bt}{H:AH}{n:Nat}{Q:KR}(f:α->bt)(g:α->AH)(m:α->Nat)(P:α->Prop)(s0:α)(e1:ρ=f s0)(e2:H=g s0)(h0:P s0)
 (step:∀s n1,n<=n1->P s->c (f s) (g s) n1 fun t H1 n2=>Br t (b (f s) H1 n2 fun ρ2 H2 n3=>∃s',ρ2=f s'/\H2=g s'/\(n<=n3/\P s')/\m s'<m s) (Q (f s) H1 n2)):xX c b ρ H n Q:=
 Lc f g m (fun n1 s=>n<=n1/\P s) s0 e1 e2 ⟨TJ _,h0⟩ fun s n1 h=>step s n1 h.1 h.2
theorem yv {α β:Type}{step:V->bt->AH->Nat->KR->Prop}{l:List V}{ρ:bt}{H:AH}{n:Nat}{Q:KR}(e:β->V)(bs:List β)(f:α->bt)(g:α->AH)(P:List β->Nat->α->Prop)(s0:α)(el:l=bs.map e)(e1:ρ=f s0)(e2:H=g s0)(h0:P bs n s0)
 (hs:∀x xs s n1,P (x::xs) n1 s->step (e x) (f s) (g s) n1 fun ρ2 H2 n3=>∃s',ρ2=f s'/\H2=g s'/\P xs n3 s') (hl:∀s n1,P [] n1 s->Q (f s) (g s) n1):ny step l ρ H n Q:=by
 subst e1;subst e2;subst el;unfold ny;refine (bW (fun l ρ H n1=>(∃as r,bs=as++r/\l=r.map e)/\∃s,ρ=f s/\H=g s/\P (bs.drop (bs.length - l.length)) n1 s) ⟨cg [] bs rfl rfl,bW s0 rfl rfl (by refine ab (TH ..) (ab (W4 ..) ?_);exact h0)⟩ ?_ ?_)
 ·rintro x xs ρ H n1 ⟨⟨as,r,hr,hx⟩,s,rfl,rfl,h1⟩
  cases r with
  | nil=>injection hx
  | cons b r=>
   (injection hx with e1 e2;subst e1;subst e2)
   have e1:bs.drop (bs.length - (e b::r.map e).length)=b::r:=by
    exact ab (hr ..) (ab (TG ..) (ab (TS ..) (ab (TS ..) (ab (TH ..) (ab (Wh ..) (ab (Wk ..) rfl))))))
   have e2:bs.drop (bs.length - (r.map e).length)=r:=by
    rw [show bs=(as++[b])++r by refine ab (hr ..) (ab (T5 ..) ?_);rfl,TG,TH,Wh,Wk]
   rw [e1] at h1;have:(fun ρ2 H2 n3=>∃s',ρ2=f s'/\H2=g s'/\P r n3 s')=fun ρ2 H2 n3=>(∃as r',bs=as++r'/\r.map e=r'.map e)/\∃s',ρ2=f s'/\H2=g s'/\P (bs.drop (bs.length - (r.map e).length)) n3 s':=by
    refine ab e2 ?_;exact funext fun ρ=>funext fun H=>funext fun n=>propext ⟨fun h=>⟨cg (as++[b]) r (by refine ab (hr ..) (ab (T5 ..) ?_);rfl) rfl,h⟩,fun h=>h.2⟩
   exact (congrArg (step (e b) (f s) (g s) n1) this).mp (hs b r s n1 h1)
 ·rintro ρ H n1 ⟨_,s,rfl,rfl,h1⟩;rw [Wf,Xh,List.drop_length] at h1;exact hl s n1 h1
theorem nA {α β:Type}{step:V->bt->AH->Nat->KR->Prop}{l:List V}{ρ:bt}{H:AH}{n:Nat}{Q:KR}(e:β->V)(bs:List β)(f:α->bt)(g:α->AH)(P:List β->α->Prop)(s0:α)(el:l=bs.map e)(e1:ρ=f s0)(e2:H=g s0)(h0:P bs s0)
 (hs:∀x xs s n1,n<=n1->P (x::xs) s->step (e x) (f s) (g s) n1 fun ρ2 H2 n3=>∃s',ρ2=f s'/\H2=g s'/\n<=n3/\P xs s') (hl:∀s n1,n<=n1->P [] s->Q (f s) (g s) n1):ny step l ρ H n Q:=
 yv e bs f g (fun r n1 s=>n<=n1/\P r s) s0 el e1 e2 ⟨TJ _,h0⟩ (fun x xs s n1 h=>hs x xs s n1 h.1 h.2) fun s n1 h=>hl s n1 h.1 h.2
noncomputable def O4 (step:V->AH->Nat->(SK->V->AH->Nat->Prop)->(AH->Nat->Prop)->Prop)(t:Nat):List V->List (SK × V)->AH->Nat->(List (SK × V)->AH->Nat->Prop)->Prop
 | [],es,H,n,Q=>Q es H n
 | x::xs,es,H,n,Q=>step x H n (fun k v H1 n1=>k.tag=t/\k∉es.map (·.1)/\O4 step t xs (es++[(k,v)]) H1 n1 Q) fun H1 n1=>O4 step t xs es H1 n1 Q
theorem Av {step:V->AH->Nat->(SK->V->AH->Nat->Prop)->(AH->Nat->Prop)->Prop}{t:Nat}{l:List V}{H:AH}{n:Nat}{Q:List (SK × V)->AH->Nat->Prop}(h:O4 step t l [] H n Q):O3 step t l H n Q:=by
 unfold O3;exact (bW (fun es l H n=>O4 step t l es H n Q) h (fun O O O O O h=>h) (fun O O O h=>h))
theorem cA {α:Type}{step:V->AH->Nat->KV->(AH->Nat->Prop)->Prop}{H:AH}{Q:KL}(p:α->Bool)(f g:α->V):∀{n:Nat} (xs:List α),(∀x∈xs,∀n1 K K2,n<=n1->(p x=true->∀n2,n1<=n2->K (f x) H n2)->(p x=false->∀n2,n1<=n2->K2 H n2)->step (g x) H n1 K K2)->
 (∀n1,n<=n1->Q ((xs.filter p).map f) H n1)->fg step (xs.map g) H n Q:=fun {n} xs h q=>sZ <| by
 suffices ∀(l:List α) ds n1,n<=n1->(∀x∈l,x∈xs)->(∀n2,n1<=n2->Q (ds++(l.filter p).map f) H n2)->pX step (l.map g) ds H n1 Q from this xs [] n (TJ _) (fun O h=>h) q
 intro l
 induction l with
 | nil=>
  intro ds n1 _ _ hq;have:=hq n1 (TJ _);rw [List.filter_nil,List.map_nil,TU] at this;exact this
 | cons x l ih=>
  intro ds n1 hn hm hq;refine h x (hm x (TM ..)) n1 _ _ hn (fun e n2 h2=>?_) (fun e n2 h2=>?_)
  ·refine ih _ n2 (TF hn h2) (fun y hy=>hm y (TP _ hy)) fun n3 h3=>?_;have:=hq n3 (TF h2 h3);rw [Ve,if_pos e,UJ] at this;refine ab (T5 ..) ?_;exact this
  ·refine ih _ n2 (TF hn h2) (fun y hy=>hm y (TP _ hy)) fun n3 h3=>?_;have:=hq n3 (TF h2 h3);rw [Ve,if_neg (by refine ab e ?_;exact T4)] at this;exact this
theorem cx {α:Type}{step:V->AH->Nat->KV->(AH->Nat->Prop)->Prop}{H:AH}{Q:KL}(f g:α->V){n:Nat}(xs:List α)(h:∀x∈xs,∀n1 K K2,n<=n1->(∀n2,n1<=n2->K (f x) H n2)->step (g x) H n1 K K2)
 (q:∀n1,n<=n1->Q (xs.map f) H n1):fg step (xs.map g) H n Q:=
 cA (fun O=>true) f g xs (fun x hx n1 K K2 hn k O=>h x hx n1 K K2 hn (k rfl)) fun n1 hn=>by refine ab (VV.mpr fun O O=>rfl) ?_;exact q n1 hn
noncomputable def FQ (n:Nat)(as:List Addr)(m:Nat):Prop:=as.Pairwise (· < ·)/\∀a∈as,n<=a/\a<m
theorem jX {γ:Type}{step:V->AH->Nat->KV->(AH->Nat->Prop)->Prop}{H:AH}{Q:KL}(f:Addr × γ->V)(g:γ->V){n:Nat}(xs:List γ)(h:∀x∈xs,∀n1 K K2,n<=n1->(∀a n2,n1<=a->a<n2->K (f (a,x)) H n2)->step (g x) H n1 K K2)
 (q:∀(ts:List (Addr × γ)) n1,n<=n1->ts.map (·.2)=xs->FQ n (ts.map (·.1)) n1->Q (ts.map f) H n1):fg step (xs.map g) H n Q:=sZ <| by
 suffices ∀(l:List γ) (ts:List (Addr × γ)) n1,n<=n1->ts.map (·.2)++l=xs->FQ n (ts.map (·.1)) n1->pX step (l.map g) (ts.map f) H n1 Q from this xs [] n (TJ _) rfl ⟨.nil,fun O h=>nomatch h⟩
 intro l
 induction l with
 | nil=>intro ts n1 hn ht hi;exact q ts n1 hn (by exact bk (ht ..) (ab (TU ..) rfl)) hi
 | cons x l ih=>
  intro ts n1 hn ht hi;refine h x (ht▸TQ _ (TM ..)) n1 _ _ hn fun a n2 ha bO=>?_;have:=ih (ts++[(a,x)]) n2 (TF hn (TF ha (Ud bO))) (by refine bk (ht ..) (ab (TR ..) (ab (T5 ..) ?_));rfl) (by
   refine ab TR ?_;refine ⟨Uz.mpr ⟨hi.1,UY ..,fun b hb c hc=>?_⟩,fun b hb=>?_⟩
   ·refine ab (TK.mp hc) ?_;exact TO (hi.2 b hb).2 ha
   ·rcases T6.mp hb with hb | hb
    ·exact ⟨(hi.2 b hb).1,TO (hi.2 b hb).2 (TF ha (Ud bO))⟩
    ·refine ab (TK.mp hb) ?_;exact ⟨TF hn ha,bO⟩)
  rw [TR] at this;exact this
theorem zd {α β:Type}(f:α->β)(g:Nat->β):∀(l:List α),(∀i x,l[i]? =some x->g i=f x)->(Un l.length).map g=l.map f:=fun l h=>by
 refine List.ext_getElem (by exact ab (TH ..) (ab (Vo ..) (ab (TH ..) rfl))) fun i h1 h2=>?_;refine ab (List.getElem_map ..) (ab (List.getElem_map ..) (ab (WX ..) ?_));exact h i _ (T9 _)
noncomputable def wd (w:Bool):Str:=bif w then "Names" else "Nums"
noncomputable def kt (w:Bool):Nat:=bif w then 2 else 0
noncomputable def mi (w:Bool)(k:SK):V:=bif w then .cU 2 [("octets",.sk k),("is_hex",.bool false)] else .sk k
noncomputable def oC (i:Int):V:=.cU 4 [("number",.int i),("generation",.int 0)]
noncomputable def eW (t r:Addr)(es:List (SK × V)):V:=.cU 5 [("table",.az t es),("trailer",.az r [])]
noncomputable def N2 (v:V):Bool:=I5 v&& !eV v (.cls 4)
noncomputable def Rs (es:List (SK × V))(v x:V):Prop:=(v=x\/∃i,v=oC i/\bw es (.int i)=some (.tup [.int 0,x]))/\N2 x=true
theorem Rs.self {es:List (SK × V)}{x:V}(h:N2 x=true):Rs es x x:=⟨.inl rfl,h⟩
theorem rQ {w:Bool}{k:SK}(h:k.tag=kt w):N2 (mi w k)=true:=by
 cases w with
 | true=>rfl
 | false=>cases k with
  | int i=>rfl
  | _=>exact nomatch h
section
variable {H:AH}{a dx:Addr}{o o' o'' o3:bG}
theorem k9 (h1:H dx=none)(h2:H a=none):cB (cB (upd (upd (upd (upd H dx o) a o') a o'') a o3) a) dx=H:=by
 refine ab aX (ab aX (ab cY ?_))
 funext b
 show (if b=dx then none else if b=a then none else if b=dx then some o else H b)=H b
 by_cases e:b=dx
 ·exact ab (if_pos e) (ab e (ab h1 rfl))
 ·refine ab (if_neg e) (ab (if_neg e) ?_)
  by_cases e:b=a
  ·exact ab (if_pos e) (ab e (ab h2 rfl))
  ·exact ab (if_neg e) rfl
end
section
variable {G:aA}{d:Nat}{H:AH}{n:Nat}{Q:KV}{w:Bool}{k:SK}{t r:Addr}{es:List (SK × V)}{v x:V}(ok:aZ G)(fn:fJ G)
include ok fn
theorem c62 (hd:2<=d)(h:∀n',n<=n'->Q (mi true k) H n'):o9 G d 2 [.sk k] H n Q:=
 B2 (c:=2) ok rfl rfl fn.f62 hd rfl fun O O dx O h3 h4 h5 ne h6=>
  cv _ dx _ ae (cv _ dx _ ae ⟨rfl,cg dx _ ae ((k9 h4 h5).symm▸h ne (TF h3 (UD h6)))⟩)
theorem c64 {i:Int}(hd:2<=d)(h:∀n',n<=n'->Q (oC i) H n'):o9 G d 4 [.int i,.int 0] H n Q:=
 B2 (c:=4) ok rfl rfl fn.f64 hd rfl fun O O dx O h3 h4 h5 ne h6=>
  cv _ dx _ ae (cv _ dx _ ae ⟨rfl,cg dx _ ae ((k9 h4 h5).symm▸h ne (TF h3 (UD h6)))⟩)
theorem c3 (hd:3<=d)(h:∀n',n<=n'->Q (mi w k) H n'):aE G d 3 [.str (wd w),.sk k] H n Q:=
 aF ok fn.f3 hd rfl fun d d1 ne aJ=>by
  cases w with
  | true=>exact c62 ok fn d1 fun n' h'=>h n' (TF aJ h')
  | false=>exact h ne aJ
theorem c4 (hd:1<=d)(hk:k.tag=kt w)(h:∀n',n<=n'->Q (.sk k) H n'):aE G d 4 [.str (wd w),mi w k] H n Q:=
 aF ok fn.f4 hd rfl fun d d1 ne aJ=>by
  cases w with
  | true=>exact h ne aJ
  | false=>cases k with
   | int i=>exact h ne aJ
   | _=>exact nomatch hk
theorem HA (hd:1<=d)(ht:aR es (.int 0)=true)(hr:Rs es v x)(h:∀n',n<=n'->Q x H n'):aE G d 43 [eW t r es,v] H n Q:=by
 obtain ⟨hv,hx⟩:=hr;obtain ⟨h1,h2⟩:=af hx;rcases hv with rfl | ⟨i,rfl,hi⟩
 ·exact aF ok fn.f43 hd rfl fun d d1 ne aJ n2 w2=>q9 (aL h1 (jU h2 (h n2 (TF aJ w2))))
 ·exact aF ok fn.f43 hd rfl fun d d1 ne aJ n2 w2=>q9 (aL ht (K8 hi (aL h1 (jU h2 (h n2 (TF aJ w2))))))
end
noncomputable abbrev PR:=SK × Int
noncomputable def aB (p:PR):V:=.tup [.sk p.1,.int p.2]
noncomputable def gj (w:Bool)(ps:List PR):List V:=ps.flatMap fun p=>[mi w p.1,.int p.2]
noncomputable def EL (lim:Bool)(l:V)(k:Str)(v:V):List (SK × V):=bif lim then [(.str "Limits",l),(.str k,v)] else [(.str k,v)]
noncomputable def Kd (w:Bool)(ps:List PR):Prop:=∀p∈ps,p.1.tag=kt w
theorem iK {w:Bool}:∀(ps:List PR),(gj w ps).length=2*ps.length
 | []=>rfl
 | p::ps=>by
  show (gj w ps).length+2=2*(ps.length+1);refine ab (iK ps) ?_;rfl
theorem uk {w:Bool}:∀(ps:List PR) (i:Nat) (p:PR),ps[i]? =some p->(gj w ps)[2*i]? =some (mi w p.1)/\(gj w ps)[2*i+1]? =some (.int p.2)
 | [],i=> @fun p h=>by rw [List.getElem?_nil] at h;injection h
 | q::ps,0=> @fun p h=>by (injection h with e;subst e);exact ⟨rfl,rfl⟩
 | q::ps,i+1=> @fun p h=>uk ps i p h
theorem RG (m:Nat):((2*m:Nat):Int).fmod 2=0:=by
 refine ab (VO _ (by decide)) ?_;exact (Int.mul_emod_right 2 (m:Int):_)
theorem uj {w:Bool}{ps:List PR}(hz:ps.length<=1000):(gj w ps).length<=16777216:=by refine ab (iK ..) ?_;exact aH (bI ps.length) [(2,aq,.num 1000)] (.mulL 2 aq) (.num 16777216) rfl hz
theorem uo {w:Bool}(ps:List PR):(!V.eqv (.int (((gj w ps).length:Int).fmod 2)) (.int 0))=false:=by refine ab (iK ..) (ab (RG ..) ?_);rfl
theorem xF {w:Bool}(ps:List PR):((gj w ps).length:Int)=2*(ps.length:Int):=by refine ab (iK ..) ?_;rfl
noncomputable def mJ (ps:List PR)(i:Nat):V:=aB (ps.getD i default)
theorem xG {ps:List PR}{f:Nat->V}(hz:ps.length<=1000):((Un ps.length).map f).length<=16777216:=by refine ab (TH ..) (ab (Vo ..) ?_);exact TF hz (by decide)
theorem CC {w:Bool}{ps:List PR}{i:Nat}(hi:i∈Un ps.length):ps.getD i default∈ps/\(gj w ps)[2*i]? =some (mi w (ps.getD i default).1)/\(gj w ps)[2*i+1]? =some (.int (ps.getD i default).2):=by
 have hp:=T9 (Vg.mp hi);have e:ps.getD i default=ps[i]'(Vg.mp hi):=by refine ab U7 (ab hp ?_);rfl
 refine ab e ?_;exact ⟨UN (Vg.mp hi),uk (w:=w) ps i _ hp⟩
theorem um (ps:List PR):(Un ps.length).map (mJ ps)=ps.map aB:=zd aB _ ps fun i x e=>by unfold mJ;refine ab U7 (ab e ?_);rfl
theorem OX {l:List V}{j:Nat}{x:V}(h:l[j]? =some x):DE l (j:Int)=some x:=h
theorem cO.DT {H:AH}{v:V}{es:List (SK × V)}{K:List (SK × V)->Prop}(h:cO H v es)(k:K es):mL H v K:=by
 rcases h with ⟨a,rfl⟩ | ⟨a,rfl,ha⟩
 ·exact k
 ·exact (ai es ha k)
theorem cO.sub {H:AH}{v i:V}{es:List (SK × V)}{n:Nat}{Q:KV}(h:cO H v es)(k:wD es i fun x=>Q x H n):Dy v i H n Q:=by
 rcases h with ⟨a,rfl⟩ | ⟨a,rfl,ha⟩
 ·exact k
 ·exact (ai _ ha k)
theorem cO.get {H:AH}{v:V}{es:List (SK × V)}{K:Prop}(h:cO H v es)(k:K):wH H v .get K:=by
 rcases h with ⟨a,rfl⟩ | ⟨a,rfl,ha⟩
 ·exact k
 ·exact (ai _ ha k)
section
variable {lim w:Bool}{l v:V}{k:Str}
theorem fD:bw (EL lim l "Kids" v) (.str "Kids")=some v:=by cases lim <;> rfl
theorem jz:bw (EL lim l (wd w) v) (.str (wd w))=some v:=by cases lim <;> cases w <;> rfl
theorem iU:bw (EL lim l (wd w) v) (.str "Kids")=none:=by cases lim <;> cases w <;> rfl
theorem tC:bw (EL lim l "Kids" v) (.str (wd w))=none:=by cases lim <;> cases w <;> rfl
theorem HP:bw (EL true l k v) (.str "Limits")=some l:=rfl
theorem AI:bw (EL false l "Kids" v) (.str "Limits")=none:=rfl
theorem yl:bw (EL false l (wd w) v) (.str "Limits")=none:=by cases w <;> rfl
theorem nk {s:Str}:aR (EL lim l k v) (.str s)=true:=by cases lim <;> rfl
end
section
variable {G:aA}{d:Nat}{H:AH}{n:Nat}{Q:KV}{w:Bool}{k:SK}{t r a:Addr}{es ns:List (SK × V)}{v x:V}(ok:aZ G)(fn:fJ G)
include ok fn
theorem c44 {key:Str}{ND:V}(hd:2<=d)(hx:cO H ND ns)(ht:aR es (.int 0)=true)(hn:aR ns (.str key)=true)(hv:bw ns (.str key)=some v)(hr:Rs es v x)(h:∀n',n<=n'->Q x H n'):aE G d 44 [eW t r es,ND,.str key] H n Q:=
 aF ok fn.f44 hd rfl fun d d1 ne aJ=>hx.get (hx.DT (aL hn (K8 hv (HA ok fn d1 ht hr fun n' h'=>h n' (TF aJ h')))))
theorem c5 (hd:2<=d)(ht:aR es (.int 0)=true)(hr:Rs es v (.az a ns))(h:∀n',n<=n'->Q (.az a ns) H n'):aE G d 5 [eW t r es,v] H n Q:=
 aF ok fn.f5 hd rfl fun d d1 ne aJ=>HA ok fn d1 ht hr fun n' h'=>h n' (TF aJ h')
theorem c6 {key:Str}{l:List V}{ND:V}(hd:3<=d)(hx:cO H ND ns)(ht:aR es (.int 0)=true)(hn:aR ns (.str key)=true)(hv:bw ns (.str key)=some (.ag l))(h:∀n',n<=n'->Q (.ag l) H n'):aE G d 6 [eW t r es,ND,.str key] H n Q:=
 aF ok fn.f6 hd rfl fun d d1 ne aJ=>c44 ok fn d1 hx ht hn hv (.self rfl) fun n' h'=>h n' (TF aJ h')
theorem c7n (hd:1<=d)(hn:aR ns (.str (wd w))=true)(hv:bw ns (.str (wd w))=none)(h:∀n',n<=n'->Q (.ag []) H n'):aE G d 7 [eW t r es,.az a ns,.str (wd w)] H n Q:=
 aF ok fn.f7 hd rfl fun d d1 ne aJ=>aL hn (jU (by refine ab hv ?_;rfl) (h ne aJ))
theorem c7 {ps:List PR}(hd:4<=d)(ht:aR es (.int 0)=true)(hn:aR ns (.str (wd w))=true)(hv:bw ns (.str (wd w))=some (.ag (gj w ps)))(hk:Kd w ps)(hz:ps.length<=1000)(h:∀n',n<=n'->Q (.ag (ps.map aB)) H n'):
 aE G d 7 [eW t r es,.az a ns,.str (wd w)] H n Q:=
 have hl:=uj (w:=w) hz
 aF ok fn.f7 hd rfl fun d d1 ne aJ=>aL hn (fB (by refine ab hv ?_;rfl) (c6 ok fn d1 .frozen ht hn hv fun n1 h1=>aV hl (fB (uo ps) (aV hl
  (sI ps.length rfl (xF ps) rfl (TF hz (by decide)) (fun n2 h2=>aV (xG hz) (cx (mJ ps) _ (Un ps.length) (fun i hi n3 K K2 h3 hK=>by
   have hp:=CC (w:=w) hi;exact dh (OX hp.2.1) (aV hl (HA ok fn (UD (UD d1)) ht (.self (rQ (hk _ hp.1))) fun n4 h4=>c4 ok fn (UD (UD d1)) (hk _ hp.1) fun n5 h5=>dh (OX hp.2.2) (aV hl (hK n5 (TF h4 h5)))))) fun n3 h3=>um ps▸h n3 (TF aJ (TF h1 (TF h2 h3))))))))))
end
noncomputable def cf (ws:List (List Int)):List V:=ws.map fun k=>.tup (bq k)
theorem oR {ws:List (List Int)}{p:List Int}:cf ws++[.tup (bq p)]=cf (ws++[p]):=(TR (l₁:=ws) (l₂:=[p])).symm
theorem uI {ws:List (List Int)}(hz:ws.length<=40):decide ((40:Int)<((cf ws).length:Int))=false:=by
 refine ab (show (cf ws).length=ws.length from TH ..) ?_;exact decide_eq_false (U2.mpr (Ul.mpr hz))
theorem lC {ws:List (List Int)}{m:Nat}(hz:ws.length<=40)(hm:40<=m):(cf ws).length<=m:=by
 refine ab (show (cf ws).length=ws.length from TH ..) ?_;exact TF hz hm
theorem qN {ws:List (List Int)}{v:V}(hz:ws.length<=40):(cf ws).length+[v].length<=1000:=TF (Um (lC hz (TJ 40))) (by decide)
theorem tlk {ts:List (List Int × V)}{k:List Int}(h2:k∉ts.map (·.1)):ts.lookup k=none:=Vn.mpr fun p hp=>by
 refine bne_iff_ne.mpr fun e=>h2 ?_;refine ab e ?_;exact TV hp
theorem tst {ts:List (List Int × V)}{k:List Int}{v:V}(h2:k∉ts.map (·.1)):gX ts k v=ts++[(k,v)]:=if_neg fun e=>by
 refine ah (Vr.mp e) fun p hp e=>?_;refine h2 ?_;refine bk (of_decide_eq_true e) ?_;exact TV hp
theorem Tu {ts:List (List Int × V)}{k:List Int}{v:V}(h2:k∉ts.map (·.1)):(ts++[(k,v)]).lookup k=some v:=by
 refine ab VZ (ab (tlk h2) ?_);show Vm k [(k,v)]=_;exact ab Vi rfl
theorem nx (a b:Nat):((a:Int)+b).fdiv 2=((a+b) / 2:Nat):=VP _ (by decide)
theorem ML {lo hi:Nat}(h:lo<hi):lo<=(lo+hi) / 2/\(lo+hi) / 2<hi:=⟨(Nat.le_div_iff_mul_le (by decide)).mpr (aH (bc lo hi) [(1,.add aq ay,aw)] (.mulR aq 2) (.add aq aw) rfl h),Nat.div_lt_of_lt_mul (aH (bc lo hi) [(1,.add aq ay,aw)] (.add (.add aq aw) ay) (.mulL 2 aw) rfl h)⟩
theorem l5a {a b c e:Option V}{x y:Int}(h:x=y):[a,b,some (V.int (x+1)),c,e]=[a,b,some (.int (y+1)),c,e]:=by exact ab h rfl
theorem l5b {a b c e:Option V}{x y:Int}(h:x=y):[a,b,c,some (V.int x),e]=[a,b,c,some (.int y),e]:=by exact ab h rfl
theorem xJ {l:List SK}{j:Nat}{k:SK}(h:l[j]? =some k):(l.map V.sk)[j]? =some (.sk k):=by refine ab Ui (ab h ?_);rfl
section
variable {G:aA}{d:Nat}{H:AH}{n:Nat}{Q:KV}{w:Bool}{k:SK}{t r a:Addr}{es ns:List (SK × V)}{v x:V}(ok:aZ G)(fn:fJ G)
include ok fn
theorem c20 {ps:List PR}(hd:2<=d)(hn:aR ns (.str (wd w))=true)(hv:bw ns (.str (wd w))=some (.ag (gj w ps)))(hk:Kd w ps)(hz:ps.length<=1000)(h:∀n',n<=n'->Q (.ag (ps.map aB)) H n'):
 aE G d 20 [.az a ns,.str (wd w)] H n Q:=
 have hl:=uj (w:=w) hz
 aF ok fn.f20 hd rfl fun d d1 ne aJ=>aL hn (K8 hv (aV hl (fB (uo ps) (aV hl
  (sI ps.length rfl (xF ps) rfl (TF hz (by decide)) (fun n2 h2=>aV (xG hz) (cx (mJ ps) _ (Un ps.length) (fun i hi n3 K K2 h3 hK=>by
   have hp:=CC (w:=w) hi;exact dh (OX hp.2.1) (aV hl (c4 ok fn d1 (hk _ hp.1) fun n5 h5=>dh (OX hp.2.2) (aV hl (hK n5 h5))))) fun n3 h3=>um ps▸h n3 (TF aJ (TF h2 h3)))))))))
theorem c8 {k1 k2:SK}(hd:4<=d)(ht:aR es (.int 0)=true)(hn:aR ns (.str "Limits")=true)(hv:bw ns (.str "Limits")=some (.ag [mi w k1,mi w k2]))(h1:k1.tag=kt w)(h2:k2.tag=kt w)(h:∀n',n<=n'->Q (.tup [.sk k1,.sk k2]) H n'):
 aE G d 8 [eW t r es,.az a ns,.str (wd w)] H n Q:=
 aF ok fn.f8 hd rfl fun d d1 ne aJ=>by
  have d2:=UD (UD d1);exact c6 ok fn d1 .frozen ht hn hv fun n1 l1=>HA ok fn d2 ht (.self (rQ h1)) fun n2 l2=>c4 ok fn d2 h1 fun n3 l3=>HA ok fn d2 ht (.self (rQ h2)) fun n4 l4=>c4 ok fn d2 h2 fun n5 l5=>
   h n5 (TF aJ (TF l1 (TF l2 (TF l3 (TF l4 l5)))))
theorem c9 {ws:List (List Int)}{tm:V}(hd:1<=d)(hv:N2 v=true)(hz:ws.length<=40)(h:∀n',n<=n'->Q (.tup (cf (ws++[[-1, -1]]))) H n'):aE G d 9 [.tup (cf ws),v,tm] H n Q:=
 aF ok fn.f9 hd rfl fun d d1 ne aJ=>aL (af hv).1 (fB (not_true (af hv).2) (aV (lC hz (by decide)) (fB (uI hz) (aV (qN hz) (show Q (.tup (cf ws++[.tup (bq [-1, -1])])) H ne from oR.symm▸h ne aJ)))))
theorem Qq {ws:List (List Int)}{tm:Addr}{i:Int}{ts:List (List Int × V)}(hd:1<=d)(uS:H tm=some (.aO ts))(h1:[i,0]∉ws)(h2:[i,0]∉ts.map (·.1))(hz:ws.length<=40)(Pr:ts.length<=1000)(h:∀n',n<=n'->Q (.tup (cf (ws++[[i,0]]))) (upd H tm (.aO (ts++[([i,0],.int 1)]))) n'):aE G d 9 [.tup (cf ws),oC i,.ref tm] H n Q:=
 aF ok fn.f9 hd rfl fun d d1 ne aJ=>(bA [i,0] ws rfl rfl (fB (WZ.mpr fun k hk e=>h1 (of_decide_eq_true e▸hk)) <| by exact ai _ uS (bA [i,0] ts rfl uS (RI (tlk h2) (ai _ uS (ai [i,0] rfl (aV Pr
  (ai _ ae (bA [i,0] (.int 1) rfl (tst (v:=.int 1) h2▸Tu h2) (aV (lC hz (by decide)) (fB (uI hz) (aV (qN hz) (show Q (.tup (cf ws++[.tup (bq [i,0])])) (upd H tm (.aO (gX ts [i,0] (.int 1)))) ne from (tst (v:=.int 1) h2).symm▸oR.symm▸h ne aJ)))))))))))))
theorem OZ {xs ys:List SK}(hd:1<=d)(hx:∀x∈xs,vQ x k=true/\cL x k=true)(hy:∀x∈ys,vQ x k=true/\cL x k=false)(hz:(xs++ys).length<=1000)(h:∀n',n<=n'->Q (.int xs.length) H n'):aE G d 11 [.ag ((xs++ys).map .sk),.sk k] H n Q:=
 have hl:((xs++ys).map V.sk).length<=16777216:=by refine ab (TH ..) ?_;exact TF hz (by decide)
 aF ok fn.f11 hd rfl fun d d1 ne aJ=>by
 refine aV hl ?_;show xX _ _ _ _ _ _;refine PL (fun s:Nat × Nat × Option V=>[some (.ag ((xs++ys).map .sk)),some (.sk k),some (.int (s.1:Nat)),some (.int (s.2.1:Nat)),s.2.2]) (fun O=>H) (fun s=>s.2.1 - s.1)
  (fun s=>s.1<=xs.length/\xs.length<=s.2.1/\s.2.1<=(xs++ys).length) (0,((xs++ys).map V.sk).length,none) ?_ ?_ ⟨Ur _,by refine ab (TH ..) (ab (TG ..) ?_);exact TZ ..,TL (TH ..)⟩
  ?_
 ·rfl
 ·rfl
 exact fun s n' hn hs=>br (fun e=>by
   have hm:=ML (UH.mp (of_decide_eq_true e));have hj:=TO hm.2 hs.2.2
   by_cases hc:(s.1+s.2.1) / 2<xs.length
   ·have hg:=hx _ (UN hc);rw [<- List.getElem_append_left (bs:=ys) hc (h':=hj)] at hg;exact dh ((congrArg (DE _) (nx s.1 s.2.1)).trans (xJ (T9 hj))) (aV hl (aL hg.1 (jU hg.2 (du ((s.1+s.2.1) / 2+1,s.2.1,some (.int (((s.1:Int)+s.2.1).fdiv 2))) (l5a (nx s.1 s.2.1)) rfl ⟨hn,hc,hs.2⟩ (WN (UB hm.1 hm.2) (VR hm.1))))))
   ·have hc:=Ux.mp hc;have hg:=hy _ (UN (Nat.sub_lt_left_of_lt_add hc ((TG (as:=xs) (bs:=ys))▸hj):(s.1+s.2.1) / 2 - xs.length<ys.length));rw [<- List.getElem_append_right (as:=xs) hc (h₂:=hj)] at hg;exact dh ((congrArg (DE _) (nx s.1 s.2.1)).trans (xJ (T9 hj))) (aV hl (aL hg.1 (fB hg.2 (du (s.1,(s.1+s.2.1) / 2,some (.int (((s.1:Int)+s.2.1).fdiv 2))) (l5b (nx s.1 s.2.1)) rfl ⟨hn,hs.1,hc,Ud hj⟩ (Nat.sub_lt_sub_right hm.1 hm.2)))))) fun e=>by
   refine ab (UC hs.1 (TF hs.2.1 (Ul.mp (U2.mp (of_decide_eq_false e))))) ?_;exact h n' (TF aJ hn)
end
noncomputable def Tr:Nat->Type
 | 0=>Addr × List PR
 | d+1=>Addr × List (Tr d)
noncomputable def sR:(d:Nat)->Tr d->Addr
 | 0,t=>t.1
 | _+1,t=>t.1
noncomputable def av:(d:Nat)->Tr d->List PR
 | 0,t=>t.2
 | d+1,t=>t.2.flatMap (av d)
noncomputable def bu:(d:Nat)->Tr d->List Addr
 | 0,t=>[t.1]
 | d+1,t=>t.1::t.2.flatMap (bu d)
noncomputable def Tr.at:(d:Nat)->Tr d->Addr->Tr d
 | 0,t,a=>(a,t.2)
 | _+1,t,a=>(a,t.2)
noncomputable def fk (ps:List PR):SK:=(ps.head?.map (·.1)).getD default
noncomputable def lk (ps:List PR):SK:=(ps.getLast?.map (·.1)).getD default
noncomputable def fP (w:Bool)(ps:List PR):V:=.ag [mi w (fk ps),mi w (lk ps)]
noncomputable def ents (w:Bool):Bool->(d:Nat)->Tr d->List (SK × V)
 | lim,0,t=>EL lim (fP w t.2) (wd w) (.ag (gj w t.2))
 | lim,d+1,t=>EL lim (fP w (t.2.flatMap (av d))) "Kids" (.ag (t.2.map fun k=>.az (sR d k) (ents w true d k)))
noncomputable def aS (w lim:Bool)(d:Nat)(t:Tr d):V:=.az (sR d t) (ents w lim d t)
noncomputable def Ne:(d:Nat)->Tr d->Prop
 | 0,t=>t.2≠[]
 | d+1,t=>t.2≠[]/\∀k∈t.2,Ne d k
theorem fj:∀(d:Nat) (t:Tr d),Ne d t->av d t≠[]
 | 0=>fun O h=>h
 | d+1=>fun t h=>by
  refine eJ (UG h.1) fun k r e=>?_;show t.2.flatMap (av d)≠[];refine ab e (ab Uu ?_);intro e2;exact fj d k (h.2 k (e▸TM ..)) (V2.mp e2).1
theorem yr {a b:List PR}(h:a≠[]):fk (a++b)=fk a:=by
 refine Dv (UG h) fun k r=>?_;rfl
theorem gT {α:Type}{l:List α}(h:l≠[]):∃a x,l=a++[x]:=(uX l.dropLast (l.getLast h) ((List.dropLast_concat_getLast h).symm))
theorem qw {a b:List PR}(h:b≠[]):lk (a++b)=lk b:=by
 refine Dv (gT h) fun b x=>?_;unfold lk;exact bk (T5 ..) (ab (List.getLast?_concat ..) (ab (List.getLast?_concat ..) rfl))
theorem rG {a:List PR}{p:PR}:lk (a++[p])=p.1:=qw (VD _ _)
theorem vj {ps:List PR}(h:ps≠[]):∃p∈ps,p.1=fk ps:=by
 refine eJ (UG h) fun k r jI=>?_;subst jI;exact (ai k (TM ..) rfl)
theorem rF {ps:List PR}(h:ps≠[]):∃p∈ps,p.1=lk ps:=by
 refine (ai (ps.getLast h) (List.getLast_mem h) ?_);unfold lk;refine ab (List.getLast?_eq_some_getLast h) ?_;rfl
theorem D3 {d:Nat}{k:Tr d}{r:List (Tr d)}(h:Ne d k):fk ((k::r).flatMap (av d))=fk (av d k):=by refine ab Uu ?_;exact yr (fj d k h)
theorem ER {d:Nat}{k:Tr d}{r:List (Tr d)}(h:Ne d k):lk ((r++[k]).flatMap (av d))=lk (av d k):=by refine ab (T7 ..) (ab (VG ..) ?_);exact qw (fj d k h)
section
variable {w lim:Bool}{d:Nat}{t:Tr d}
theorem ax {s:Str}:aR (ents w lim d t) (.str s)=true:=by cases d <;> exact nk
theorem dk:bw (ents w true d t) (.str "Limits")=some (fP w (av d t)):=by cases d <;> exact HP
theorem vd:bw (ents w false d t) (.str "Limits")=none:=by cases d <;> first | exact AI | exact yl
end
theorem BS {w:Bool}{ps:List PR}{k1 k2:SK}(h1:fk ps=k1)(h2:lk ps=k2):fP w ps=.ag [mi w k1,mi w k2]:=by unfold fP;exact ab h1 (ab h2 rfl)
section
variable {G:aA}{d:Nat}{H:AH}{n:Nat}{Q:KV}{w lim:Bool}(ok:aZ G)(fn:fJ G)
theorem CD {ps:List PR}{p:PR}:gj w (ps++[p])=gj w ps++[mi w p.1]++[.int p.2]:=by
 unfold gj;refine ab (T7 ..) (ab (VG ..) (ab (T5 ..) ?_));rfl
include ok fn
theorem Qk {ps:List PR}(hd:4<=d)(h0:ps≠[])(hz:ps.length<=1000)(h:∀a n',n<=a->a<n'->Q (aS w true 0 (a,ps)) H n'):aE G d 16 [.str (wd w),.ag (ps.map aB)] H n Q:=
 aF ok fn.f16 hd rfl fun d d1 ne aJ a ha h1 n2 w2=>by
  refine nA (α:=List PR × Option V × Option V) aB ps (fun s=>[some (.str (wd w)),some (.ag (ps.map aB)),some (.ref a),s.2.1,s.2.2]) (fun s=>upd H a (.list (gj w s.1))) (fun r s=>s.1++r=ps) ([],none,none) rfl rfl rfl rfl ?_ ?_
  ·intro p r s n3 h3 hs;have hl:(gj w s.1).length+1<=1000000:=by
    have:=congrArg Vc hs;rw [TG,TS] at this;refine ab (iK ..) ?_;exact aH (bC ps.length s.fst.length r.length) [(2,aq,.num 1000),(2,.add aw (.add aN ay),aq)] (.add (.mulL 2 aw) ay) (.num 1000000) rfl hz (TL this)
   exact (ai _ ae (c3 ok fn d1 fun n4 h4=>(ai _ ae (aV (UD hl) (ai _ ae (ai _ ae (aV (by refine ab TG ?_;exact hl) (du (s.1++[p],_,_) rfl (by exact ab aX (ab aX (ab CD rfl))) (TF h3 h4) (by refine bk (hs ..) (ab (T5 ..) ?_);rfl)))))))))
  ·intro s n3 h3 hs;have hs:s.1=ps:=by exact bk (hs ..) (ab (TU ..) rfl)
   refine eJ (UG h0) fun p r e0=>?_;refine eJ (gT h0) fun q l e1=>?_;refine (bA a _ rfl ae ?_);refine ab hs (ab cY (ab (cJ h1) ?_));have aI:(ps.map aB).length<=16777216:=by refine ab (TH ..) ?_;exact TF hz (by decide)
   refine aL (by cases w <;> rfl) fun a2 h4 h5=>dh (x:=aB p) (by refine ab e0 ?_;rfl) (aV aI (c3 ok fn d1 fun n5 h6=>dh (x:=aB l) (by refine ab e1 (ab TR ?_);exact FX) (aV aI (c3 ok fn d1 fun n6 h7=>⟨rfl,?_⟩))))
   have:=h a2 n6 (TF aJ (TF ha (TF (Uo _) (TF w2 (TF h3 h4))))) (TF h6 h7);rw [show aS w true 0 (a2,ps)=.az a2 (EL true (fP w ps) (wd w) (.ag (gj w ps))) from rfl,BS (k1:=p.1) (k2:=l.1) (by refine ab e0 ?_;rfl) (by refine ab e1 ?_;exact rG)] at this;exact this
theorem Ql {e:Nat}{ks:List (Tr e)}(hd:1<=d)(h0:ks≠[])(hn:∀k∈ks,Ne e k)(hz:ks.length<=1000)(h:∀a n',n<=a->a<n'->Q (aS w true (e+1) (a,ks)) H n'):aE G d 17 [.ag (ks.map (aS w true e))] H n Q:=
 aF ok fn.f17 hd rfl fun d d1 ne aJ a ha h1=>by
  refine eJ (UG h0) fun p r e0=>?_;refine eJ (gT h0) fun l q e1=>?_;have aI:(ks.map (aS w true e)).length<=16777216:=by refine ab (TH ..) ?_;exact TF hz (by decide)
  refine dh (x:=aS w true e p) (by refine ab e0 ?_;rfl) (aV aI (aL ax (dh dk ?_)));refine dh (x:=aS w true e q) (by refine ab e1 (ab TR ?_);exact FX) (aV aI (aL ax (dh dk ⟨rfl,?_⟩)));have:=h a (a+1) (TF aJ ha) (Uj a);rw [show aS w true (e+1) (a,ks)=.az a (EL true (fP w (ks.flatMap (av e))) "Kids" (.ag (ks.map (aS w true e)))) from rfl,BS (k1:=fk (av e p)) (k2:=lk (av e q)) (by refine ab e0 ?_;exact D3 (hn p (e0▸TM ..))) (by refine ab e1 ?_;exact ER (hn q (e1▸TQ _ (T1 _))))] at this;exact this
theorem Qm {e:Nat}{t:Tr e}(hd:1<=d)(h:∀a n',n<=a->a<n'->Q (aS w false e (t.at e a)) H n'):aE G d 18 [aS w lim e t] H n Q:=
 aF ok fn.f18 hd rfl fun d d1 ne aJ=>by
  have h:=fun a n' (ha:ne<=a) hn=>h a n' (TF aJ ha) hn;have fin:∀n2,ne<=n2->∀D n4,n2<=D->D<n4->n2<=n4->Q (aS w false e (t.at e D)) H n4:=fun n2 h2 D n4 hD bO O=>h D n4 (TF h2 hD) bO
  cases e with
  | zero=>cases lim <;> cases w <;> exact ⟨1,fun n2 h2=>Av (Lj rfl rfl Wt (fin n2 h2))⟩
  | succ e=>cases lim <;> exact ⟨1,fun n2 h2=>Av (Lj rfl rfl Wt (fin n2 h2))⟩
end
noncomputable def gE (L c i:Nat):Nat:=i*(L / c)+min i (L % c)
theorem m7 (L c i:Nat):gE L c (i+1)=gE L c i+L / c+(if i<L % c then 1 else 0):=by
 unfold gE;refine ab (Nat.succ_mul ..) ?_
 by_cases h:i<L % c
 ·refine ab (if_pos h) (ab (Nat.min_eq_left h) (ab (Nat.min_eq_left (Ud h)) ?_));exact NR (bC (i*(L / c)) (L / c) i) (.add (.add (.var 0) (.var 1)) (.add (.var 2) (.num 1))) (.add (.add (.add (.var 0) (.var 2)) (.var 1)) (.num 1)) rfl
 ·have g:=Vl h;refine ab (if_neg h) (ab (W7 g) (ab (W7 (TY g)) ?_));exact Wi ..
theorem Ak {L c i:Nat}(hi:i<=c):gE L c i<=L:=by
 unfold gE;have h1:=WH L c;have h2:i*(L / c)<=c*(L / c):=Nat.mul_le_mul_right _ hi;exact TF (Vf h2 (Nat.min_le_right _ _)) (TL h1)
theorem DJ {L c:Nat}(hc:0<c):gE L c c=L:=by
 unfold gE;refine ab (W7 (Ud (W0 L hc))) ?_;exact WH L c
theorem sW {L c:Nat}:gE L c 0=0:=by unfold gE;rw [Nat.zero_mul,Nat.zero_min]
noncomputable def cnt (L W:Nat):Nat:=(L+W - 1) / W
theorem qX {L W:Nat}(hL:0<L)(hW:2<=W):cnt L W<=L/\0<cnt L W:=by
 unfold cnt;refine ⟨?_,Nat.div_pos (aH (bC L W ((L+W) - 1)) [(1,.add rH ay,aq),(1,.add aq aw,.add aN ay)] aw aN rfl hL (UU (TJ ((L+W) - 1)))) (aH (bI W) [(1,ia,aq)] (.add rH ay) aq rfl hW)⟩;rw [Nat.div_le_iff_le_mul_add_pred (VB hW)];have:1*L<=W*L:=Nat.mul_le_mul_right _ (aH (bI W) [(1,ia,aq)] ay aq rfl hW);exact aH (ml L W ((L+W) - 1) (W*L) (W - 1)) [(1,.mulL 1 aq,bL),(1,aw,.add jc ay),(1,.add aN ay,.add aq aw)] aN (.add bL jc) rfl this (UU (TJ (W - 1))) (TL (UZ (aH (bc W L) [(1,ia,aq)] ay (.add aw aq) rfl hW)))
theorem HF {L W:Nat}(hL:2<=L)(hW:2<=W):cnt L W<L:=by
 unfold cnt;rw [Nat.div_lt_iff_lt_mul (VB hW)];obtain ⟨l,rfl⟩:=Nat.exists_eq_add_of_le hL;obtain ⟨v,rfl⟩:=Nat.exists_eq_add_of_le hW;refine ab (Nat.add_mul ..) (ab (Nat.mul_add l ..) ?_);exact aH (cm (((2+l)+(2+v)) - 1) l v (l*v)) [(1,.add aq ay,.add (.add ia aw) (.add ia aN))] (.add aq ay) (.add (.mulL 2 (.add ia aN)) (.add (.mulR aw 2) bL)) rfl (TL (UZ (aH (bc l v) [] ay (.add (.add ia aq) (.add ia aw)) rfl)))
theorem sY {W:Nat}(hW:2<=W):cnt 0 W=0:=by
 unfold cnt;exact Nat.div_eq_of_lt (aH (bc ((0+W) - 1) W) [(1,.add aq ay,.add rH aw)] (.add aq ay) aw rfl (TL (UZ (aH (bI W) [(1,ia,aq)] ay (.add rH aq) rfl hW))))
theorem DP {L W:Nat}(hW:2<=W):L<=cnt L W*W:=by
 unfold cnt;have h1:=WH (L+W - 1) W;have h2:=W0 (L+W - 1) (show 0<W by exact aH (bI W) [(1,ia,aq)] (.add rH ay) aq rfl hW);rw [Nat.mul_comm] at h1;exact aH (ml L W (L+W - 1) ((L+W - 1) / W*W) ((L+W - 1) % W)) [(1,.add aq aw,.add aN ay),(1,aN,.add bL jc),(1,.add jc ay,aw)] aq bL rfl (UU (TJ _)) (TL h1.symm) h2
theorem nh {L W:Nat}(hL:1<=L)(hW:2<=W):2*cnt L W<=L+1:=by
 unfold cnt;have h:(L+W - 1) / W=(L - 1) / W+1:=by
  exact ab (show L+W - 1=(L - 1)+W by exact UC (aH (cm L ((L+W) - 1) (L - 1) W) [(1,aq,.add aN ay),(1,.add aw ay,.add aq bL)] aw (.add aN bL) rfl (UU (TJ (L - 1))) (TL (UZ (aH (bc W L) [(1,ia,aq)] ay (.add aw aq) rfl hW)))) (aH (cm L W (L - 1) ((L+W) - 1)) [(1,.add aq aw,.add bL ay),(1,.add aN ay,aq)] (.add aN aw) bL rfl (UU (TJ ((L+W) - 1))) (TL (UZ (aH (bI L) [(1,ay,aq)] ay aq rfl hL))))) (ab (Nat.add_div_right _ (aH (bI W) [(1,ia,aq)] (.add rH ay) aq rfl hW)) rfl)
 have h2:(L - 1) / W<=(L - 1) / 2:=Nat.div_le_div_left hW (by decide);refine ab h ?_;exact aH (cm ((L - 1) / W) ((L - 1) / 2) (L - 1) L) [(2,aq,aw),(1,.mulL 2 aw,aN),(1,.add aN ay,bL)] (.mulL 2 (.add aq ay)) (.add bL ay) rfl h2 (WV _ 2) (TL (UZ hL))
theorem wQ {L W:Nat}(hL:L<=W+1)(hW:2<=W):cnt L W<=2:=by
 unfold cnt;rw [Nat.div_le_iff_le_mul_add_pred (VB hW)];exact aH (cm L ((L+W) - 1) W (W - 1)) [(1,aq,.add aN ay),(1,.add aw ay,.add aq aN)] aw (.add (.mulR aN 2) bL) rfl hL (TL (UZ (aH (bc W L) [(1,ia,aq)] ay (.add aw aq) rfl hW)))
theorem DO {L W:Nat}(hW:2<=W):((L:Int)+W - 1).fdiv W=(cnt L W:Nat):=by
 refine ab (VP _ (Ug _)) ?_;unfold cnt;refine ab (Int.natCast_ediv ..) ?_;exact congrArg (fun z=>z / (W:Int)) (Int.ofNat_sub (TF (UD hW) (Uc W L))).symm
theorem jV {n i:Nat}(h:i<=n):XX n (i:Int)=i:=by
 unfold XX;refine ab (if_neg (U2.mpr (eO (cP ((i:Nat):Int)) [(1,cG,bg)] cG bg rfl (Ug i)))) (ab (Int.min_eq_left (Ul.mpr h)) (ab (Int.max_eq_right (Ug _)) ?_));rfl
theorem wU {α:Type}{f:α->V}{xs:List α}{b e:Nat}(hb:b<=e)(he:e<=xs.length):iR (xs.map f) (some (b:Int)) (some (e:Int))=((xs.drop b).take (e - b)).map f:=by
 unfold iR;show ((xs.map f).drop (XX (xs.map f).length b)).take (XX (xs.map f).length e - XX (xs.map f).length b)=_;exact ab (TH ..) (ab (jV he ..) (ab (jV (TF hb he) ..) (bk (List.map_drop ..) (bk (List.map_take ..) rfl))))
theorem nz {c:Nat}(h:0<c):(!((c:Int)==0))=true:=by
 cases c with
 | zero=>exact absurd h (VY 0)
 | succ c=>rfl
theorem yj {c k:Nat}{x:Nat}{r:List Nat}(h:x::r=(Un c).drop k):x=k/\k<c/\r=(Un c).drop (k+1):=by
 have hk:k<(Un c).length:=Nat.lt_of_not_le fun h2=>by rw [List.drop_eq_nil_of_le h2] at h;injection h
 rw [List.drop_eq_getElem_cons hk,WX] at h;injection h with h1 h2;exact ⟨h1,by rw [Vo] at hk;exact hk,h2⟩
theorem vX {L c W i:Nat}(hc:0<c)(h:L<=c*W):L / c+(if i<L % c then 1 else 0)<=W:=by
 have h1:=WH L c
 by_cases g:i<L % c
 ·refine ab (if_pos g) (Wg (a:=c) ?_);exact TO (TO (U4 (VB g)) (TL h1)) h
 ·refine ab (if_neg g) (ab (Nat.add_zero ..) ?_);exact Nat.le_of_mul_le_mul_left (c:=c) (TF (TF (TZ _ _) (TL h1)) h) hc
theorem y9 {α:Type}{xs:List α}{tp:List (List α)}{c W:Nat}(hc:c<=xs.length)(hw:xs.length<=c*W)(hk:tp.length<c)(h1:tp.flatten=xs.take (gE xs.length c tp.length))(h2:∀p∈tp,p≠[]/\p.length<=W):
 gE xs.length c tp.length<=gE xs.length c (tp.length+1)/\gE xs.length c (tp.length+1)<=xs.length/\(tp++[(xs.drop (gE xs.length c tp.length)).take (gE xs.length c (tp.length+1) - gE xs.length c tp.length)]).flatten=xs.take (gE xs.length c (tp.length+1))/\
 ∀p∈tp++[(xs.drop (gE xs.length c tp.length)).take (gE xs.length c (tp.length+1) - gE xs.length c tp.length)],p≠[]/\p.length<=W:=by
 have hq:0<xs.length / c:=Nat.div_pos hc (VB hk);have hs:=m7 xs.length c tp.length;have hl:=Ak (L:=xs.length) (i:=tp.length+1) hk;have bO:gE xs.length c tp.length<gE xs.length c (tp.length+1):=TO (U4 hq) (TF (TZ _ _) (TL hs.symm));refine ⟨Ud bO,hl,?_,fun p hp=>?_⟩
 ·exact ab List.flatten_append (ab h1 (ab List.flatten_singleton (bk List.take_add (ab (Nat.add_sub_cancel' (Ud bO)) rfl))))
 ·rcases T6.mp hp with hp | hp
  ·exact h2 p hp
  ·refine ab (TK.mp hp) ?_;have hW:gE xs.length c (tp.length+1) - gE xs.length c tp.length<=W:=by
    refine ab (hs ..) (ab (VM ..) (ab (Nat.add_sub_cancel_left ..) ?_));exact vX (VB hk) hw
   refine ⟨fun e=>?_,TF (List.length_take_le _ _) hW⟩;have:=congrArg Vc e;rw [Wu,List.length_drop,Wf] at this;exact W5 (Nat.lt_min.mpr ⟨Nat.sub_pos_of_lt bO,Nat.sub_pos_of_lt (TO bO hl)⟩) this
theorem mr {α:Type}{f:α->V}{xs:List α}{c:Nat}:((xs.map f).length:Int).fdiv c=(xs.length / c:Nat)/\((xs.map f).length:Int).fmod c=(xs.length % c:Nat):=by
 refine ab (TH ..) (ab (VP _ (Ug _) ..) (ab (VO _ (Ug _) ..) ?_));exact ⟨rfl,rfl⟩
theorem DZ {α:Type}{f:α->V}{xs:List α}{c i:Nat}(h:(i:Int)<((xs.map f).length:Int).fmod c):((gE xs.length c i:Nat):Int)+((xs.map f).length:Int).fdiv c+1=(gE xs.length c (i+1):Nat):=by
 rw [mr.2] at h;refine ab (mr.1 ..) (ab (m7 ..) (ab (if_pos (UH.mp h) ..) ?_));rfl
theorem AJ {α:Type}{f:α->V}{xs:List α}{c i:Nat}(h:¬(i:Int)<((xs.map f).length:Int).fmod c):((gE xs.length c i:Nat):Int)+((xs.map f).length:Int).fdiv c+0=(gE xs.length c (i+1):Nat):=by
 rw [mr.2] at h;refine ab (mr.1 ..) (ab (m7 ..) (ab (if_neg fun h2=>h (UH.mpr h2) ..) ?_));rfl
theorem l7 {a b c d e:Option V}{x:Int}{y z:Nat}(h:x=(y:Nat))(h2:y=z):[a,b,c,d,some (V.int x),e,some (V.int x)]=[a,b,c,d,some (.int (z:Nat)),e,some (.int (y:Nat))]:=by exact ab h (ab h2 rfl)
theorem Cu {α:Type}{f:α->V}{xs:List α}{tp:List (List α)}{H:AH}{a:Addr}{E:Int}{b e:Nat}(h:E=(e:Nat))(hb:b<=e)(he:e<=xs.length):
 upd H a (.list ((tp.map fun p=>V.ag (p.map f))++[.ag (iR (xs.map f) (some (b:Int)) (some E))]))=upd H a (.list ((tp++[(xs.drop b).take (e - b)]).map fun p=>.ag (p.map f))):=by
 refine ab h (ab (wU hb he) (ab TR ?_));rfl
noncomputable def JD {α:Type}(f:α->V)(tp:List (List α)):V:=.ag (tp.map fun p=>.ag (p.map f))
section
variable {G:aA}{d:Nat}{H:AH}{n:Nat}{Q:KV}(ok:aZ G)(fn:fJ G)
include ok fn
theorem O0 {α:Type}{f:α->V}{xs:List α}{W:Nat}(hd:1<=d)(hW:2<=W)(fG:W<=1000)(hz:xs.length<=1000)(h:∀tp n',n<=n'->tp.flatten=xs->(∀p∈tp,p≠[]/\p.length<=W)->tp.length=cnt xs.length W->Q (JD f tp) H n'):
 aE G d 15 [.ag (xs.map f),.int W] H n Q:=
 have hl:(xs.map f).length<=16777216:=by refine ab (TH ..) ?_;exact TF hz (by decide)
 aF ok fn.f15 hd rfl fun d d1 ne aJ=>by
  refine aV hl (aL (nz (TO (by decide) hW)) (aV (TF fG (by decide)) ?_));refine ab (TH ..) (ab (DO hW ..) ?_);intro a ha h1;have hc:cnt xs.length W<=xs.length:=by
   cases e:xs.length with
   | zero=>refine ab (sY hW) ?_;exact TJ _
   | succ m=>exact (qX (Vb m) hW).1
  refine aV (TF hc (TF hz (by decide))) fun n2 w2=>?_;refine nA (α:=List (List α) × Option V × Option V) (fun i:Nat=>.int i) (Un (cnt xs.length W)) (fun s=>[some (.ag (xs.map f)),some (.int W),some (.int (cnt xs.length W:Nat)),some (.ref a),some (.int (gE xs.length (cnt xs.length W) s.1.length:Nat)),s.2.1,s.2.2]) (fun s=>upd H a (.list (s.1.map fun p=>.ag (p.map f))))
   (fun r s=>r=(Un (cnt xs.length W)).drop s.1.length/\s.1.length<=cnt xs.length W/\s.1.flatten=xs.take (gE xs.length (cnt xs.length W) s.1.length)/\∀p∈s.1,p≠[]/\p.length<=W) ([],none,none) rfl ?_ rfl ⟨rfl,Ur _,?_,fun p hp=>nomatch hp⟩ ?_ ?_
  ·show _=[_,_,_,_,some (V.int (gE xs.length (cnt xs.length W) 0:Nat)),_,_];refine ab sW ?_;rfl
  ·show []=_;exact ab (show ([]:List (List α)).length=0 from rfl) (ab sW (ab List.take_zero rfl))
  ·intro i r s n3 h3 hs;refine i7 hs fun hr KI hf hp=>?_;obtain ⟨rfl,hk,hr⟩:=yj hr;have hm:=y9 hc (DP hW) hk hf hp;have Eg:=VB hk;have hcz:Us ((cnt xs.length W:Nat):Int).natAbs 1073741823=true:=UR (TF hc (TF hz (by decide)));have aI:(s.1.map fun p=>V.ag (p.map f)).length<=1000000:=by refine ab (TH ..) ?_;exact TF KI (TF hc (TF hz (by decide)))
   have Dg:(s.1++[(xs.drop (gE xs.length (cnt xs.length W) s.1.length)).take (gE xs.length (cnt xs.length W) (s.1.length+1) - gE xs.length (cnt xs.length W) s.1.length)]).length=s.1.length+1:=TG;refine aV hl (aL (nz Eg) (aL hcz (aV hl (aL (nz Eg) (br (fun e=>?_) fun e=>?_)))))
   ·have hE:=DZ (f:=f) (of_decide_eq_true e);exact (ai _ ae (aV hl (ai _ ae (aV aI (Dp (s.1++[_],some (.int s.1.length),some (.int (gE xs.length (cnt xs.length W) (s.1.length+1):Nat))) (l7 hE (congrArg (gE _ _) Dg.symm)) (aX.trans (Cu hE hm.1 hm.2.1)) h3 (Dg.symm▸hr) (Dg.symm▸hk) (Dg.symm▸hm.2.2.1) hm.2.2.2)))))
   ·have hE:=AJ (f:=f) (of_decide_eq_false e);exact (ai _ ae (aV hl (ai _ ae (aV aI (Dp (s.1++[_],some (.int s.1.length),some (.int (gE xs.length (cnt xs.length W) (s.1.length+1):Nat))) (l7 hE (congrArg (gE _ _) Dg.symm)) (aX.trans (Cu hE hm.1 hm.2.1)) h3 (Dg.symm▸hr) (Dg.symm▸hk) (Dg.symm▸hm.2.2.1) hm.2.2.2)))))
  ·intro s n3 h3 hs;refine i7 hs fun hr KI hf hp=>?_;have aI:s.1.length=cnt xs.length W:=UC KI (by
    have:=congrArg Vc hr;rw [List.length_drop,Vo,Wf] at this;exact aH (bC ((cnt xs.length W) - s.fst.length) (cnt xs.length W) s.fst.length) [(1,aq,rH),(1,aw,.add aq aN)] aw aN rfl (TL this.symm) (UU (TJ ((cnt xs.length W) - s.fst.length))))
   have eY:gE xs.length (cnt xs.length W) s.1.length=xs.length:=by
    refine ab aI ?_
    cases e:xs.length with
    | zero=>refine ab (sY hW) ?_;exact Xi.mp (Ak (TJ 0))
    | succ m=>exact DJ (qX (Vb m) hW).2
   refine (ai _ ae ?_);refine ab cY (ab (cJ h1) ?_);exact h s.1 n3 (TF aJ (TF ha (TF (Uo _) (TF w2 h3)))) (by exact ab hf (ab eY (ab List.take_length rfl))) hp aI
end
noncomputable def aM (d:Nat)(ts:List (Tr d)):List PR:=ts.flatMap (av d)
noncomputable def aT (d:Nat)(ts:List (Tr d)):List Addr:=ts.flatMap (bu d)
noncomputable abbrev eS:=Addr->List (SK × V)
noncomputable def jv (W:Nat):(d:Nat)->Tr d->Prop
 | 0,t=>t.2.length<=W
 | d+1,t=>t.2.length<=W/\∀k∈t.2,jv W d k
noncomputable def di (C:eS)(w:Bool):Bool->(d:Nat)->Tr d->Nat->Prop
 | lim,0,t,n=>t.1<n/\C t.1=ents w lim 0 t
 | lim,d+1,t,n=>t.1<n/\C t.1=ents w lim (d+1) t/\∀k∈t.2,di C w true d k n
noncomputable def fS (n:Nat)(C C':eS):Prop:=∀a,a<n->C' a=C a
theorem fS.trans {n m:Nat}{C C' uM:eS}(h:fS n C C')(k:fS m C' uM)(l:n<=m):fS n C uM:=fun a ha=>(k a (TO ha l)).trans (h a ha)
theorem di.mono {C C':eS}{w:Bool}{n n':Nat}(hC:fS n C C')(hn:n<=n'):∀{lim:Bool} (d:Nat) (t:Tr d),di C w lim d t n->di C' w lim d t n'
 | _,0=> @fun t h=>⟨TO h.1 hn,(hC _ h.1).trans h.2⟩
 | _,d+1=> @fun t h=>⟨TO h.1 hn,(hC _ h.1).trans h.2.1,fun k hk=>di.mono hC hn d k (h.2.2 k hk)⟩
theorem di.lt {C:eS}{w:Bool}{n:Nat}:∀{lim:Bool} (d:Nat) (t:Tr d),di C w lim d t n->∀a∈bu d t,a<n
 | _,0=> @fun t h a ha=>by refine ab (TK.mp ha) ?_;exact h.1
 | _,d+1=> @fun t h a ha=>by
  rcases TN.mp ha with rfl | ha
  ·exact h.1
  ·refine ah (Uk.mp ha) fun k hk ha=>?_;exact di.lt d k (h.2.2 k hk) a ha
noncomputable def kZ (C:eS)(l:List (Addr × List (SK × V))):eS:=fun a=>(l.lookup a).getD (C a)
theorem eB {C:eS}{l:List (Addr × List (SK × V))}{n:Nat}(h:∀p∈l,n<=p.1):fS n C (kZ C l):=fun a ha=>by
 unfold kZ;have:l.lookup a=none:=Vn.mpr fun p hp=>bne_iff_ne.mpr fun (e:a=p.1)=>absurd (h p hp) (by refine bk e ?_;exact Vd.mpr ha);refine ab this ?_;rfl
theorem dM {C:eS}:∀{l:List (Addr × List (SK × V))},(l.map (·.1)).Pairwise (· < ·)->∀p∈l,kZ C l p.1=p.2
 | []=> @fun O p h=>nomatch h
 | q::l=> @fun hi p h=>by
  obtain ⟨h1,h2⟩:=Vs.mp hi;rcases TN.mp h with rfl | h
  ·show ((p::l).lookup p.1).getD _=_;refine ab (show (p::l).lookup p.1=some p.2 from Vi) ?_;rfl
  ·have:=W5 (h1 p.1 (TV h));have ih:=dM (C:=C) h2 p h;unfold kZ at ih ⊢;refine ab Ue (ab (show (p.1==q.1)=false from beq_eq_false_iff_ne.mpr this) ?_);exact ih
theorem Jg {C:eS}{w:Bool}{n m:Nat}{ts:List (Tr 0)}(hi:FQ n (ts.map T8) m):∃C',fS n C C'/\∀t∈ts,di C' w true 0 t m:=by
 refine (ai (kZ C (ts.map fun t=>(t.1,ents w true 0 t))) (eB fun p hp=>?_) (fun t ht=>⟨(hi.2 _ (TV ht)).2,?_⟩))
 ·refine bY (TX.mp hp) fun t ht=>?_;exact (hi.2 _ (TV ht)).1
 ·exact dM (by refine ab Ua ?_;exact hi.1) (t.1,ents w true 0 t) (TV ht)
theorem Jh {C:eS}{w:Bool}{n m e:Nat}{ts:List (Tr (e+1))}(hi:FQ n (ts.map T8) m)(hn:n<=m)(hk:∀t∈ts,∀k∈t.2,di C w true e k n):∃C',fS n C C'/\∀t∈ts,di C' w true (e+1) t m:=by
 have ho:fS n C (kZ C (ts.map fun t=>(t.1,ents w true (e+1) t))):=eB fun p hp=>by
  refine bY (TX.mp hp) fun t ht=>?_;exact (hi.2 _ (TV ht)).1
 exact (ai _ ho (fun t ht=>⟨(hi.2 _ (TV ht)).2,dM (by refine ab Ua ?_;exact hi.1) (t.1,ents w true (e+1) t) (TV ht),fun k vB=>di.mono ho hn e k (hk t ht k vB)⟩))
theorem OY {w lim:Bool}{a:Addr}:∀(e:Nat) (t:Tr e),ents w lim e (t.at e a)=ents w lim e t
 | 0,_=>rfl
 | _+1,_=>rfl
theorem u3 {a:Addr}:∀(e:Nat) (t:Tr e),av e (t.at e a)=av e t
 | 0,_=>rfl
 | _+1,_=>rfl
theorem z8 {a:Addr}:∀(e:Nat) (t:Tr e),Ne e (t.at e a)↔Ne e t
 | 0,_=>Iff.rfl
 | _+1,_=>Iff.rfl
theorem u4 {W:Nat}{a:Addr}:∀(e:Nat) (t:Tr e),jv W e (t.at e a)↔jv W e t
 | 0,_=>Iff.rfl
 | _+1,_=>Iff.rfl
theorem Ji {C:eS}{w lim:Bool}{n m a:Nat}(ha:n<=a)(hm:a<m):∀(e:Nat) (t:Tr e),di C w lim e t n->∃C',fS n C C'/\di C' w false e (t.at e a) m:=fun e t h=>by
 have ho:fS n C (kZ C [(a,ents w false e t)]):=eB fun p hp=>by refine ab (TK.mp hp) ?_;exact ha
 have hw:kZ C [(a,ents w false e t)] a=ents w false e t:=dM (UY ..) (a,ents w false e t) (T1 _);refine (ai _ ho ?_)
 cases e with
 | zero=>exact ⟨hm,hw⟩
 | succ e=>exact ⟨hm,hw,fun k hk=>di.mono ho (TF ha (Ud hm)) e k (h.2.2 k hk)⟩
noncomputable def K6 (e:Nat)(t:Tr (e+1)):List (Tr e):=t.2
noncomputable def nU (e:Nat)(ts:List (Tr (e+1))):List (Tr e):=ts.flatMap (K6 e)
theorem oz {e:Nat}(ts:List (Tr (e+1))):aM (e+1) ts=aM e (nU e ts):=List.flatMap_assoc.symm
theorem jG {α β:Type}{ts:List (α × List β)}{tp:List (List β)}(h:ts.map Vq=tp):ts.flatMap Vq=tp.flatten:=by exact bk h (ab V5 rfl)
theorem nW {e:Nat}{ts:List (Tr (e+1))}{tp:List (List (Tr e))}(h:ts.map Vq=tp):nU e ts=tp.flatten:=jG h
theorem fI {a:SK}:cL a a=false:=by
 cases a with
 | int i=>exact decide_eq_false (Int.lt_irrefl i)
 | bytes b=>exact m6 b
 | str s=>exact decide_eq_false (List.lt_irrefl _)
theorem dE {a b c:SK}(h1:cL a b=true)(h2:cL b c=true):cL a c=true:=by
 cases a with
 | int i=>cases b with
  | int j=>cases c with
   | int k=>exact decide_eq_true (Int.lt_trans (of_decide_eq_true h1) (of_decide_eq_true h2))
   | _=>exact nomatch h2
  | _=>exact nomatch h1
 | bytes i=>cases b with
  | bytes j=>cases c with
   | bytes k=>exact kP h1 h2
   | _=>exact nomatch h2
  | _=>exact nomatch h1
 | str i=>cases b with
  | str j=>cases c with
   | str k=>exact decide_eq_true (List.lt_trans (of_decide_eq_true h1) (of_decide_eq_true h2))
   | _=>exact nomatch h2
  | _=>exact nomatch h1
theorem mE {w:Bool}{a b:SK}(ha:a.tag=kt w)(hb:b.tag=kt w)(h1:cL a b=false)(h2:cL b a=false):a=b:=by
 cases w with
 | true=>cases a with
  | bytes i=>cases b with
   | bytes j=>exact ab (kO h1 h2) rfl
   | _=>exact nomatch hb
  | _=>exact nomatch ha
 | false=>cases a with
  | int i=>cases b with
   | int j=>exact ab (We (U2.mp (of_decide_eq_false h2)) (U2.mp (of_decide_eq_false h1))) rfl
   | _=>exact nomatch hb
  | _=>exact nomatch ha
theorem fi {a b:SK}(h:cL a b=true):cL b a=false:=by
 cases e:cL b a with
 | false=>rfl
 | true=>have:=dE h e;rw [fI] at this;injection this
theorem ct {w:Bool}{a b:SK}(ha:a.tag=kt w)(hb:b.tag=kt w):vQ a b=true:=by
 unfold vQ;refine ab ha (ab hb ?_)
 cases w <;> rfl
noncomputable def fq (ps:List PR):Prop:=ps.Pairwise fun x y=>cL x.1 y.1=true
noncomputable def fY (k:SK)(p:PR):Bool:=cL p.1 k
noncomputable def gy (k:SK)(p:PR):Bool:=cL k p.1
noncomputable def ins (ps:List PR)(k:SK)(x:Int):List PR:=ps.filter (fY k)++(k,x)::ps.filter (gy k)
noncomputable def iu (ps:List PR)(k:SK):List PR:=ps.filter fun p=> !decide (p.1=k)
theorem GW {b:Bool}(h:b=false):¬b=true:=fun e=>by rw [h] at e;injection e
section
variable {ps:List PR}{k:SK}
theorem rK (h:∀p∈ps,cL k p.1=true):ps.filter (fY k)=[]:=V3.mpr fun q hq=>GW (show fY k q=false from fi (h q hq))
theorem EU (h:∀p∈ps,cL p.1 k=true):ps.filter (fY k)=ps:=VV.mpr h
theorem D9 (h:∀p∈ps,cL p.1 k=true):ps.filter (gy k)=[]:=V3.mpr fun q hq=>GW (show gy k q=false from fi (h q hq))
theorem rf (h:∀p∈ps,cL k p.1=true):ps.filter (gy k)=ps:=VV.mpr h
end
theorem wc {w:Bool}{k:SK}(hk:k.tag=kt w):∀{ps:List PR},fq ps->Kd w ps->∃M,ps=ps.filter (fY k)++(M++ps.filter (gy k))/\(M=[]\/∃y,M=[(k,y)]):=by
 intro ps
 induction ps with
 | nil=>
 exact fun O O=>(ai [] rfl (.inl rfl))
 | cons p ps ih=>
 exact fun hs hd=>by
  obtain ⟨h1,h2⟩:=Vs.mp hs
  cases e:cL p.1 k with
  | true=>
   refine ah (ih h2 fun q hq=>hd q (TP _ hq)) fun M h3 h4=>?_;refine (ai M ?_ h4);exact ab Ve (ab (if_pos (show fY k p=true from e)) (ab Ve (ab (if_neg (GW (show gy k p=false from fi e))) (ab List.cons_append (bk h3 rfl)))))
  | false=>
   refine ab Ve (ab (if_neg (GW (show fY k p=false from e))) ?_)
   cases e2:cL k p.1 with
   | true=>
    have g:∀q∈ps,cL k q.1=true:=fun q hq=>dE e2 (h1 q hq);refine (ai [] ?_ (.inl rfl));refine ab (rK g) (ab Ve (ab (if_pos (show gy k p=true from e2)) (ab (rf g) ?_)));rfl
   | false=>
    have Bf:p.1=k:=mE (hd p (TM ..)) hk e e2;have g:∀q∈ps,cL k q.1=true:=fun q hq=>Bf▸h1 q hq;refine (ai [p] ?_ (.inr ⟨p.2,by exact bk Bf rfl⟩));refine ab (rK g) (ab Ve (ab (if_neg (GW (show gy k p=false from e2))) (ab (rf g) ?_)));rfl
theorem dO {e:Nat}:∀(ts:List (Tr e)),(∀t∈ts,Ne e t)->ts.length<=(aM e ts).length
 | []=> @fun O=>Ur _
 | t::ts=> @fun h=>by
  show ts.length+1<=(av e t++aM e ts).length;refine ab (TG ..) (ab (Vv ..) ?_);exact Vf (Wc.mpr (fj e t (h t (TM ..)))) (dO ts fun t ht=>h t (TP _ ht))
noncomputable def jn (e:Nat)(t:Tr e):SK:=lk (av e t)
theorem ES {ps:List PR}(hs:fq ps):∀p∈ps,cL p.1 (lk ps)=true\/p.1=lk ps:=fun p hp=>by
 refine eJ (gT (List.ne_nil_of_mem hp)) fun a x gR=>?_;subst gR;refine ab rG ?_;rcases T6.mp hp with hp | hp
 ·exact .inl ((Uz.mp hs).2.2 p hp x (T1 _))
 ·refine ab (TK.mp hp) ?_;exact .inr rfl
theorem tG {ps:List PR}(hs:fq ps):∀p∈ps,cL (fk ps) p.1=true\/p.1=fk ps:=fun p hp=>by
 cases ps with
 | nil=>exact nomatch hp
 | cons q ps=>
  rcases TN.mp hp with rfl | hp
  ·exact .inr rfl
  ·exact .inl ((Vs.mp hs).1 p hp)
theorem gU {w:Bool}{e:Nat}{k:SK}(hk:k.tag=kt w):∀(ks:List (Tr e)),(∀t∈ks,Ne e t)->fq (aM e ks)->Kd w (aM e ks)->∃A B,ks=A++B/\(∀t∈A,cL (jn e t) k=true)/\(∀t∈B,cL (jn e t) k=false)/\(∀p∈aM e A,cL p.1 k=true)/\∀b B',B=b::B'->∀p∈aM e B',cL k p.1=true:=by
 intro ks
 induction ks with
 | nil=>
 exact fun O O O=>(o6 [] [] rfl (fun O h=>(nomatch h)) (fun O h=>(nomatch h)) (fun O h=>(nomatch h)) (fun O O h=>nomatch h))
 | cons t ks ih=>
 exact fun hn hs hd=>by
  have sD:fq (av e t++aM e ks):=hs;refine cS (Uz.mp sD) fun s1 s2 s3=>?_;have hnt:=fj e t (hn t (TM ..));refine ah (rF hnt) fun q hq hql=>?_
  cases c:cL (jn e t) k with
  | true=>
   refine qQ (ih (fun t ht=>hn t (TP _ ht)) s2 fun p hp=>hd p (TQ (av e t) hp)) fun A B h1 h2 h3 h4 h5=>?_;refine (o6 (t::A) B (by refine ab h1 ?_;rfl) (fun u hu=>(TN.mp hu).elim (fun e=>e▸c) (h2 u)) h3 (fun p hp=>?_) h5);rcases T6.mp (show p∈av e t++aM e A from hp) with hp | hp
   ·rcases ES s1 p hp with h | h
    ·exact dE h c
    ·refine ab h ?_;exact c
   ·exact h4 p hp
  | false=>
   have yD:∀p∈aM e ks,cL k p.1=true:=fun p hp=>by
    have h6:cL (lk (av e t)) p.1=true:=hql▸s3 q hq p hp
    cases c2:cL k (jn e t) with
    | true=>exact dE c2 h6
    | false=>
     have:jn e t=k:=mE (by show (lk (av e t)).tag=_;refine bk hql ?_;exact hd q (Uq (aM e ks) hq)) hk c c2;refine bk this ?_;exact h6
   refine (o6 [] (t::ks) rfl (fun O h=>(nomatch h)) (fun u hu=>?_) (fun O h=>(nomatch h)) (fun b B' h=>by (injection h with e1 e2;subst e1;subst e2);exact yD));rcases TN.mp hu with rfl | hu
   ·exact c
   ·refine ah (rF (fj e u (hn u (TP _ hu)))) fun r hr Pq=>?_;show cL (lk (av e u)) k=false;refine bk Pq ?_;exact fi (yD r (Uk.mpr (ai u hu hr)))
theorem zb {e:Nat}{k:SK}{ks:List (Tr e)}(h0:ks≠[]){A B:List (Tr e)}(h1:ks=A++B)(h4:∀p∈aM e A,cL p.1 k=true)(h5:∀b B',B=b::B'->∀p∈aM e B',cL k p.1=true):
 ∃L dU R,ks=L++dU::R/\(if ((ks.length:Int) - 1)<(A.length:Int) then ((ks.length:Int) - 1) else (A.length:Int))=(L.length:Nat)/\(∀p∈aM e L,cL p.1 k=true)/\∀p∈aM e R,cL k p.1=true:=by
 cases B with
 | cons b B=>
  refine (o8 A b B h1 (if_neg ?_) h4 (h5 b B rfl));refine ab h1 (ab TG (ab TS ?_));exact U2.mpr (eO (lD ((B.length:Nat):Int) ((A.length:Nat):Int)) [(1,cG,bg)] dT (.sub (.add dT (.add bg bD)) bD) rfl (Ug B.length))
 | nil=>
  refine eJ (gT h0) fun L dU iq=>?_;subst iq;rw [TU] at h1;refine (o8 L dU [] rfl ?_ (fun p hp=>h4 p ?_) (fun O h=>nomatch h))
  ·refine bk h1 (ab TG (ab Wz (ab (if_pos (UI.mpr (eO (cP ((L.length:Nat):Int)) [] (.add (.sub (.add bg bD) bD) bD) (.add bg bD) rfl))) ?_)));exact We (eO (cP ((L.length:Nat):Int)) [] (.sub (.add bg bD) bD) bg rfl) (eO (cP ((L.length:Nat):Int)) [] bg (.sub (.add bg bD) bD) rfl)
  ·refine bk h1 ?_;exact Uk.mpr (by refine ah (Uk.mp hp) fun t ht hp=>?_;exact (ai t (Uq _ ht) hp))
theorem Es {k:SK}{x:Int}{a b c:List PR}(ha:∀p∈a,cL p.1 k=true)(hc:∀p∈c,cL k p.1=true):ins (a++(b++c)) k x=a++(ins b k x++c):=by
 unfold ins;refine ab (U0 ..) (ab (U0 ..) (ab (U0 ..) (ab (U0 ..) (ab (EU ha ..) (ab (rf hc ..) (ab (D9 ha ..) (ab (rK hc ..) ?_)))))));rw [TU,WG,T5,T5];rfl
theorem kT:∀{l:List V},(∀v∈l,v.dep=0)->V.pj l=0
 | []=> @fun O=>rfl
 | v::l=> @fun h=>by
  show max v.dep (V.pj l)=0;refine ab (h v (TM ..)) (ab (kT fun u hu=>h u (TP _ hu)) ?_);rfl
theorem yh {w:Bool}{e:Nat}{ks:List (Tr e)}:(V.ag (ks.map (aS w true e))).dep<=200:=by
 show V.pj _+1<=200;refine ab (kT fun v hv=>by refine ah (TX.mp hv) fun t O gR=>?_;subst gR;rfl) ?_;decide
theorem jW:∀(l:List V),V.gG (.ag l) (.ag [])=true
 | []=>rfl
 | _::_=>rfl
theorem iG {w:Bool}{e:Nat}{t:Tr e}(hn:Ne e t)(hk:Kd w (av e t)):(jn e t).tag=kt w:=by
 refine ah (rF (fj e t hn)) fun q hq h=>?_;show (lk (av e t)).tag=_;refine bk h ?_;exact hk q hq
theorem j6 {w:Bool}{e:Nat}{t:Tr e}(hn:Ne e t)(hk:Kd w (av e t)):(fk (av e t)).tag=kt w:=by
 refine ah (vj (fj e t hn)) fun q hq h=>?_;refine bk h ?_;exact hk q hq
theorem eM {w:Bool}{e:Nat}{ks:List (Tr e)}(h:Kd w (aM e ks)):∀t∈ks,Kd w (av e t):=fun t ht p hp=>h p (Uk.mpr (ai t ht hp))
theorem fX {α:Type}:∀(tp:List (List α)),(∀p∈tp,p≠[])->tp.length<=tp.flatten.length
 | []=> @fun O=>Ur _
 | p::tp=> @fun h=>by
  refine ab (List.flatten_cons ..) (ab (TG ..) (ab (TS ..) (ab (Vv ..) ?_)));exact Vf (Wc.mpr (h p (TM ..))) (fX tp fun q hq=>h q (TP _ hq))
section
variable {w lim:Bool}{e:Nat}
theorem N1 {t:Tr 0}:(!(bw (ents w lim 0 t) (.str "Kids")).isSome)=true:=by refine ab (show bw (ents w lim 0 t) (.str "Kids")=none from iU) ?_;rfl
theorem IT {t:Tr 0}:(bw (ents w lim 0 t) (.str "Kids")).isSome=false:=by refine ab (show bw (ents w lim 0 t) (.str "Kids")=none from iU) ?_;rfl
theorem PF {t:Tr (e+1)}:(!(bw (ents w lim (e+1) t) (.str "Kids")).isSome)=false:=by refine ab (show bw (ents w lim (e+1) t) (.str "Kids")=_ from fD) ?_;rfl
theorem NI {t:Tr (e+1)}:(bw (ents w lim (e+1) t) (.str "Kids")).isSome=true:=by refine ab (show bw (ents w lim (e+1) t) (.str "Kids")=_ from fD) ?_;rfl
theorem iI {t:Tr (e+1)}:bw (ents w lim (e+1) t) (.str "Kids")=some (.ag (t.2.map (aS w true e))):=fD
end
structure sA (C:eS)(w:Bool)(W:Nat)(n n' e:Nat)(ps:List PR)(as:List Addr)(ts:List (Tr e)):Prop where
 ne:∀t∈ts,Ne e t
 pairs:aM e ts=ps
 fresh:(aT e ts).countP (Us n)+as.length<=(aT e ts).length+(e+1)
 old:∀a∈aT e ts,a<n->a∈as
 typ:∃C',fS n C C'/\∀t∈ts,di C' w true e t n'
 new:∀t∈ts,n<=sR e t
 fA:∀t∈ts,jv W e t
 eU:ts.length<=2
 grow:(aT e ts).length<=as.length+(e+1)
theorem Ho (ts:List (Tr 0)):aT 0 ts=ts.map T8:=by
 show ts.flatMap (fun t=>[t.1])=_;refine bk List.map_eq_flatMap ?_;rfl
theorem mK {β γ:Type}{ts:List (β × γ)}{tp:List γ}(h:ts.map Vq=tp):tp.length=ts.length:=by subst h;exact TH ..
theorem sA.leaf {C:eS}{w:Bool}{W n n' m:Nat}{ps:List PR}{a:Addr}{ts:List (Tr 0)}{tp:List (List PR)}(h1:ts.map Vq=tp)(h2:tp.flatten=ps)(h3:∀p∈tp,p≠[]/\p.length<=W)(h5:tp.length<=2)(h4:FQ m (ts.map T8) n')(hm:n<=m):sA C w W n n' 0 ps [a] ts where
 ne t ht:=(h3 t.2 (h1▸TV ht)).1
 fA t ht:=(h3 t.2 (h1▸TV ht)).2
 eU:=mK h1▸h5
 grow:=by refine ab (Ho ..) ?_;exact TF (TL (TH ..)) (mK h1▸h5)
 pairs:=(jG h1).trans h2
 fresh:=Uw List.countP_le_length _
 old b hb bO:=by
  rw [Ho] at hb;exact absurd (TF hm (h4.2 b hb).1) (Vd.mpr bO)
 typ:=by
  refine ah (Jg (C:=C) (w:=w) h4) fun C' hC h=>?_;exact (ai C' (fun a ha=>hC a (TO ha hm)) h)
 new t ht:=TF hm (h4.2 t.1 (TV ht)).1
theorem eX {α:Type}{a c:List α}{b:α}:(a++b::c)[a.length]? =some b:=by refine ab (VN (TJ _) ..) (ab (W4 ..) ?_);rfl
theorem eA {w:Bool}{a b:SK}(ha:a.tag=kt w)(hb:b.tag=kt w):V.gG (.sk a) (.sk b)=true:=by
 show (a.tag==b.tag)=true;refine ab ha (ab hb ?_);exact beq_self_eq_true _
theorem qY {α:Type}{f:α->V}{a b:List α}:iR ((a++b).map f) none (some (a.length:Int))=a.map f:=by
 have:=wU (f:=f) (xs:=a++b) (Ur a.length) (by refine ab TG ?_;exact TZ ..);rw [List.drop_zero,Xh,List.take_left] at this;refine bk this ?_;rfl
theorem iS {α:Type}{f:α->V}{a b:List α}:iR ((a++b).map f) (some (a.length:Int)) none=b.map f:=by
 unfold iR;show (((a++b).map f).drop (XX ((a++b).map f).length a.length)).take (((a++b).map f).length - XX ((a++b).map f).length a.length)=_;rw [TH,jV (by refine ab TG ?_;exact TZ ..),TG,Nat.add_sub_cancel_left, <- List.map_drop,Wk,VE (by refine ab (TH ..) ?_;exact TJ _)]
section
variable {G:aA}{d:Nat}{H:AH}{n:Nat}{Q:KV}{w lim:Bool}(ok:aZ G)(fn:fJ G)
include ok fn
theorem c21 {e:Nat}{ks:List (Tr e)}(hd:2<=d)(hn:∀t∈ks,Ne e t)(hk:Kd w (aM e ks))(hz:ks.length<=1000)(h:∀n',n<=n'->Q (.ag ((ks.map (jn e)).map .sk)) H n'):aE G d 21 [.ag (ks.map (aS w true e)),.str (wd w)] H n Q:=
 aF ok fn.f21 hd rfl fun d d1 ne aJ n1 h1=>nA (aS w true e) ks (fun s:Option V=>[some (.ag (ks.map (aS w true e))),some (.str (wd w)),s]) (fun O=>H) (fun r O=>∀t∈r,t∈ks) none rfl rfl rfl (fun O h=>h)
  (fun t r s n2 h2 hs=>aL ax (K8 dk (aL rfl (aL rfl (aL ax (dh dk (du _ rfl rfl h2 (fun u hu=>hs u (TP _ hu)))))))))
  fun s n2 h2 O n3 h3=>aV (by refine ab (TH ..) ?_;exact TF hz (by decide)) (cx (fun t=>V.sk (jn e t)) (aS w true e) ks (fun t ht n4 K K2 h4 hK=>aL ax (dh dk (c4 ok fn d1 (iG (hn t ht) (eM hk t ht)) fun n5 h5=>hK n5 h5)))
   fun n4 h4=>by rw [show ks.map (fun t=>V.sk (jn e t))=(ks.map (jn e)).map .sk by refine ab Ua ?_;rfl];exact h n4 (TF aJ (TF h1 (TF h2 (TF h3 h4)))))
theorem oA {ps A B:List PR}{k:SK}{x:Int}{W m:Nat}{u:V}(hd:4<=d)(hW:2<=W)(fG:W<=1000)(hz:ps.length<=900)(hzA:A.length+B.length<=900)(hA1:iR (ps.map aB) none (some (A.length:Int))=A.map aB)(hB1:iR (ps.map aB) (some (m:Int)) none=B.map aB)
 (h:∀(ts:List (Tr 0)) tp n',n<=n'->ts.map Vq=tp->tp.flatten=A++(k,x)::B->(∀p∈tp,p≠[]/\p.length<=W)->tp.length=cnt (A++(k,x)::B).length W->FQ n (ts.map T8) n'->Q (.ag (ts.map (aS w true 0))) H n'):
 WE G d (.lc 2 (.call 16 [.var 1,.var 9]) (.var 9) .pl [.call 15 [.bin .Add (.bin .Add (.pH (.var 4) .none (.var 5)) (.list [.var 2])) (.pH (.var 4) (.var 6) .none),.var 3]] [])
 [some u,some (.str (wd w)),some (aB (k,x)),some (.int W),some (.ag (ps.map aB)),some (.int (A.length:Nat)),some (.int (m:Nat)),none] H n Q:=by
 have hl:(ps.map aB).length<=16777216:=by refine ab (TH ..) ?_;exact TF hz (by decide)
 have e:iR (ps.map aB) none (some (A.length:Int))++[aB (k,x)]++iR (ps.map aB) (some (m:Int)) none=(A++(k,x)::B).map aB:=by
  refine ab (hA1 ..) (ab (hB1 ..) (ab (TR ..) (ab (T5 ..) ?_)));rfl
 have nP:(A++(k,x)::B).length<=1000:=by
  refine ab TG (ab TS ?_);exact aH (bc A.length B.length) [(1,.add aq aw,.num 900)] (.add aq (.add aw ay)) (.num 1000) rfl hzA
 have w7:(iR (ps.map aB) none (some (A.length:Int))++[aB (k,x)]).length+(iR (ps.map aB) (some (m:Int)) none).length<=16777216:=by
  refine bk (TG ..) (ab (e ..) (ab (TH ..) ?_));exact TF nP (by decide)
 refine aV hl (aV (TF (TZ _ _) (by rw [TG] at w7;exact w7)) (aV hl (aV w7 ?_)));have AW:aE G d 15 [.ag ((A++(k,x)::B).map aB),.int W] H n fun v H1 n1=>C8 .pl [v] H1 fun l=>∀n2,n1<=n2->dC (Us l.length 16777216) (fg (fun x H n K O=>aE G d 16 [.str (wd w),x] H n K) l H1 n2 fun vs H2 n2=>Q (.ag vs) H2 n2):=
  O0 ok fn (TF (by decide) hd) hW fG nP fun tp n1 h1 hf aJ hc n2 h2=>aV (by refine ab (TH ..) ?_;exact TF (fX tp fun p hp=>(aJ p hp).1) (by refine ab hf ?_;exact TF nP (by decide))) (jX (aS w true 0) (fun p=>.ag (p.map aB)) tp (fun p hp n3 K K2 h3 hK=>Qk ok fn hd (aJ p hp).1 (TF (Vh (VJ hp)) (by refine ab hf ?_;exact nP)) fun a n4 ha bO=>hK a n4 ha bO) fun ts n3 h3 ht hi=>h ts tp n3 (TF h1 (TF h2 h3)) ht hf aJ hc ⟨hi.1,fun a ha=>⟨TF (TF h1 h2) (hi.2 a ha).1,(hi.2 a ha).2⟩⟩)
 rw [<- e] at AW;exact AW
theorem L8 {C:eS}{k:SK}{x:Int}{W:Nat}{t:Tr 0}(hd:5<=d)(cK:jv W 0 t)(hW:2<=W)(fG:W<=1000)(hk:k.tag=kt w)(hs:fq (av 0 t))(d9:Kd w (av 0 t))(hz:(av 0 t).length<=900)
 (h:∀ts n',n<=n'->sA C w W n n' 0 (ins (av 0 t) k x) (bu 0 t) ts->Q (.ag (ts.map (aS w true 0))) H n'):aE G d 22 [aS w lim 0 t,.str (wd w),aB (k,x),.int W] H n Q:=
 aF ok fn.f22 hd rfl fun d d1 ne aJ=>by
  refine aL ax (jU N1 (aL ax (jU N1 (c20 ok fn (TF (by decide) d1) ax jz d9 (TF hz (by decide)) fun n1 h1 n2 h2=>aV (by refine ab (TH ..) ?_;exact TF hz (by decide)) (cx (fun p:PR=>V.sk p.1) aB (av 0 t) (fun p hp n3 K K2 h3 hK=>hK n3 (TJ _)) fun n3 h3=>?_)))));refine ah (wc hk hs d9) fun M hM MJ=>?_;have e1:(av 0 t).map (fun p:PR=>V.sk p.1)=(((av 0 t).filter (fY k)).map T8++(M++(av 0 t).filter (gy k)).map T8).map V.sk:=by
   refine bk TR (bk hM (ab Ua ?_));rfl
  refine ab e1 ?_;refine OZ ok fn (TF (by decide) d1) (fun y hy=>?_) (fun y hy=>?_) ?_ fun n4 h4=>aV (by refine ab (TH ..) ?_;exact TF hz (by decide)) ?_
  ·refine ah (TX.mp hy) fun p hp iq=>?_;subst iq;obtain ⟨hp,bO⟩:=UE.mp hp;exact ⟨ct (d9 p hp) hk,bO⟩
  ·refine ah (TX.mp hy) fun p hp jI=>?_;subst jI;have hpm:p∈av 0 t:=hM▸TQ _ hp;refine ⟨ct (d9 p hpm) hk,?_⟩;rcases T6.mp hp with hp | hp
   ·rcases MJ with rfl | ⟨y,rfl⟩
    ·exact nomatch hp
    ·refine ab (TK.mp hp) ?_;exact fI
   ·exact fi (UE.mp hp).2
  ·refine bk (TR ..) (bk (hM ..) (ab (TH ..) ?_));exact TF hz (by decide)
  refine ab (TH ..) ?_;have hl:((av 0 t).map aB).length<=16777216:=by refine ab (TH ..) ?_;exact TF hz (by decide)
  have aI:((av 0 t).filter (fY k)).length+(M++(av 0 t).filter (gy k)).length=(av 0 t).length:=by exact bk TG (bk hM rfl)
  have iv:((av 0 t).filter (fY k)).length+((av 0 t).filter (gy k)).length<=900:=by rw [TG] at aI;exact aH (cm ((av 0 t).length) ((V1 (fY k) (av 0 t)).length) M.length ((V1 (gy k) (av 0 t)).length)) [(1,aq,.num 900),(1,.add aw (.add aN bL),aq)] (.add aw bL) (.num 900) rfl hz (TL aI)
  have n4n:n<=n4:=TF aJ (TF h1 (TF h2 (TF h3 h4)));have c1:iR ((av 0 t).map aB) none (some (((av 0 t).filter (fY k)).length:Int))=((av 0 t).filter (fY k)).map aB:=by
   have:=qY (f:=aB) (a:=(av 0 t).filter (fY k)) (b:=M++(av 0 t).filter (gy k));rwa [<- hM] at this
  have fin:∀(ts:List (Tr 0)) tp n',n4<=n'->ts.map Vq=tp->tp.flatten=(av 0 t).filter (fY k)++(k,x)::(av 0 t).filter (gy k)->(∀p∈tp,p≠[]/\p.length<=W)->tp.length=cnt ((av 0 t).filter (fY k)++(k,x)::(av 0 t).filter (gy k)).length W->FQ n4 (ts.map T8) n'->Q (.ag (ts.map (aS w true 0))) H n':=
   fun ts tp n' jm q1 q2 q3 q5 q4=>h ts n' (TF n4n jm) (sA.leaf q1 q2 q3 (by
    refine ab q5 ?_;refine wQ ?_ hW;have cK:(av 0 t).length<=W:=cK;rw [TG] at aI;refine ab TG (ab TS ?_);exact aH (ml ((V1 (fY k) (av 0 t)).length) M.length ((V1 (gy k) (av 0 t)).length) ((av 0 t).length) W) [(1,.add aq (.add aw aN),bL),(1,bL,jc)] (.add aq (.add aN ay)) (.add jc ay) rfl (TL aI) cK) q4 n4n)
  rcases MJ with rfl | ⟨y,rfl⟩
  ·have c2:iR ((av 0 t).map aB) (some (((av 0 t).filter (fY k)).length:Int)) none=((av 0 t).filter (gy k)).map aB:=by
    have:=iS (f:=aB) (a:=(av 0 t).filter (fY k)) (b:=(av 0 t).filter (gy k));rwa [show (av 0 t).filter (fY k)++(av 0 t).filter (gy k)=av 0 t from hM.symm] at this
   refine br (fun e=>?_) fun e=>oA ok fn d1 hW fG hz iv c1 c2 fin;obtain ⟨b,B,hB⟩:∃b B,(av 0 t).filter (gy k)=b::B:=by
    refine UG fun e2=>?_;have e3:((av 0 t).filter (fY k)).length<((av 0 t).map aB).length:=UH.mp (of_decide_eq_true e);rw [TH, <- aI,e2] at e3;exact VY _ e3
   obtain ⟨Ef,MQ⟩:=UE.mp (hB▸TM .. :b∈(av 0 t).filter (gy k));refine dh (x:=aB b) ?_ (aV hl (aL (eA (d9 b Ef) hk) (fB ?_ (oA ok fn d1 hW fG hz iv c1 c2 fin))))
   ·show ((av 0 t).map aB)[((av 0 t).filter (fY k)).length]? =_;refine ab Ui ?_;have:=eX (a:=(av 0 t).filter (fY k)) (b:=b) (c:=B);rw [<- hB,show (av 0 t).filter (fY k)++(av 0 t).filter (gy k)=av 0 t from hM.symm] at this;refine ab this ?_;rfl
   ·exact decide_eq_false fun e=>by rw [show gy k b=cL k b.1 from rfl,e,fI] at MQ;injection MQ
  ·have c2:iR ((av 0 t).map aB) (some ((((av 0 t).filter (fY k)).length+1:Nat):Int)) none=((av 0 t).filter (gy k)).map aB:=by
    have:=iS (f:=aB) (a:=(av 0 t).filter (fY k)++[(k,y)]) (b:=(av 0 t).filter (gy k));rwa [T5, <- hM,TG] at this
   refine jU ?_ (dh (x:=aB (k,y)) ?_ (aV hl (aL (eA hk hk) (jU ?_ (oA ok fn d1 hW fG hz iv c1 c2 fin)))))
   ·have e3:((av 0 t).filter (fY k)).length<((av 0 t).map aB).length:=by
     refine ab (TH ..) ?_;exact Nat.lt_of_lt_of_eq (U4 (by refine ab TG ?_;exact TO WI (TZ 1 _))) aI
    exact decide_eq_true (UH.mpr e3)
   ·show ((av 0 t).map aB)[((av 0 t).filter (fY k)).length]? =_;refine ab Ui ?_;have:=eX (a:=(av 0 t).filter (fY k)) (b:=(k,y)) (c:=(av 0 t).filter (gy k));rw [show (av 0 t).filter (fY k)++(k,y)::(av 0 t).filter (gy k)=av 0 t from hM.symm] at this;refine ab this ?_;rfl
   ·exact decide_eq_true rfl
end
theorem pR {e:Nat}(t:Tr (e+1))(ts:List (Tr (e+1))):aT (e+1) (t::ts)=t.1::(aT e (K6 e t)++aT (e+1) ts):=rfl
theorem qt {e:Nat}(t:Tr (e+1))(ts:List (Tr (e+1))):aT e (nU e (t::ts))=aT e (K6 e t)++aT e (nU e ts):=by
 unfold aT nU;exact ab Uu (ab T7 rfl)
theorem jS {e:Nat}:∀(ts:List (Tr (e+1))),(aT (e+1) ts).length=ts.length+(aT e (nU e ts)).length
 | []=>rfl
 | t::ts=>by
  refine ab (pR ..) (ab (qt ..) (ab (TS ..) (ab (TG ..) (ab (TG ..) (ab (jS ts ..) (ab (TS ..) ?_))))));exact UC (aH (bC ((aT e (K6 e t)).length) ts.length ((aT e (nU e ts)).length)) [] (.add (.add aq (.add aw aN)) ay) (.add (.add aw ay) (.add aq aN)) rfl) (aH (bC ts.length ((aT e (K6 e t)).length) ((aT e (nU e ts)).length)) [] (.add (.add aq ay) (.add aw aN)) (.add (.add aw (.add aq aN)) ay) rfl)
theorem sS {e:Nat}{p:Addr->Bool}:∀(ts:List (Tr (e+1))),(aT (e+1) ts).countP p<=ts.length+(aT e (nU e ts)).countP p
 | []=>TJ _
 | t::ts=>by
  have ih:=sS (p:=p) ts;refine ab (pR ..) (ab (qt ..) (ab (VT ..) (ab (VI ..) (ab (VI ..) (ab (TS ..) ?_)))));have:(if p t.1=true then 1 else 0)<=1:=by split <;> decide
  exact aH (ml (Wa p (aT (e+1) ts)) (if p t.fst=true then 1 else 0) ts.length (Wa p (aT e (nU e ts))) (Wa p (aT e (K6 e t)))) [(1,aq,.add aN bL),(1,aw,ay)] (.add (.add jc aq) aw) (.add (.add aN ay) (.add jc bL)) rfl ih this
theorem iQ {n:Nat}{as:List Addr}(h:∀a∈as,a<n):as.countP (Us n)=0:=List.countP_eq_zero.mpr fun a ha e=>absurd (Uh e) (Vd.mpr (h a ha))
theorem w8 (ps:List PR)(k:SK)(x:Int):(ins ps k x).length<=2*ps.length+1:=by
 unfold ins;refine ab TG (ab TS ?_);have h1:=UX (fY k) ps;have h2:=UX (gy k) ps;exact aH (bC ((V1 (fY k) ps).length) ((V1 (gy k) ps).length) ps.length) [(1,aq,aN),(1,aw,aN)] (.add aq (.add aw ay)) (.add (.mulL 2 aN) ay) rfl h1 h2
theorem sA.mono {C:eS}{w:Bool}{W m n n' e:Nat}{ps:List PR}{as:List Addr}{ts:List (Tr e)}(h:sA C w W m n' e ps as ts)(l:n<=m)(ho:∀a∈as,a<n):sA C w W n n' e ps as ts where
 ne:=h.ne
 pairs:=h.pairs
 fresh:=by
  refine ab (List.countP_congr (q:=Us m) fun a ha=>⟨fun e=>UR (Vl fun q=>absurd (Uh e) (Vd.mpr (ho a (h.old a ha q)))),fun e=>UR (TF l (Uh e))⟩) ?_;exact h.fresh
 old a ha q:=h.old a ha (TO q l)
 typ:=by
  refine ah h.typ fun C' hC ht=>?_;exact (ai C' (fun a ha=>hC a (TO ha l)) ht)
 new t ht:=TF l (h.new t ht)
 fA:=h.fA
 eU:=h.eU
 grow:=h.grow
section
variable {C:eS}{w lim:Bool}{W n n1 m n' e:Nat}{ps:List PR}{dU:Tr e}{L R ts:List (Tr e)}{gB:List (Tr (e+1))}{tp:List (List (Tr e))}
theorem d4:aT e (L++ts++R)=aT e L++aT e ts++aT e R:=by unfold aT;exact ab T7 (ab T7 rfl)
theorem sA.up {a:Addr}{k:SK}{x:Int}(hp:sA C w W n n1 e (ins (av e dU) k x) (bu e dU) ts)(hL:∀p∈aM e L,cL p.1 k=true)(hR:∀p∈aM e R,cL k p.1=true)(hn:∀t∈L++dU::R,Ne e t)(hT:∀t∈L++dU::R,di C w true e t n)(h1:n<=n1)(h2:n1<=m)(h3:m<=n')
 (g1:gB.map Vq=tp) (g2:tp.flatten=L++ts++R) (g3:∀p∈tp,p≠[]/\p.length<=W) (hw:∀t∈L++dU::R,jv W e t) (g5:tp.length<=2) (g4:FQ m (gB.map T8) n'):sA C w W n n' (e+1) (ins (aM e (L++dU::R)) k x) (a::aT e (L++dU::R)) gB:=by
 have hf:nU e gB=L++ts++R:=(nW g1).trans g2;have vU:∀{P:Tr e->Prop},(∀t∈L++dU::R,P t)->(∀t∈ts,P t)->∀t∈L++ts++R,P t:=fun h1 h2 t ht=>by
  rcases T6.mp ht with ht | ht
  ·rcases T6.mp ht with ht | ht
   ·exact h1 t (Uq _ ht)
   ·exact h2 t ht
  ·exact h1 t (TQ _ (TP _ ht))
 have EM:∀t∈gB,∀k∈t.2,k∈L++ts++R:=fun t ht k hk=>hf▸Uk.mpr (ai t ht hk);have QJ:∀a∈aT e L,a<n:=fun a ha=>by
  refine ah (Uk.mp ha) fun t ht ha=>?_;exact (hT t (Uq _ ht)).lt e t a ha
 have QK:∀a∈aT e R,a<n:=fun a ha=>by
  refine ah (Uk.mp ha) fun t ht ha=>?_;exact (hT t (TQ _ (TP _ ht))).lt e t a ha
 have hold:aT e (L++dU::R)=aT e L++(bu e dU++aT e R):=by unfold aT;exact ab T7 (ab Uu rfl)
 refine ⟨fun t ht=>⟨(g3 t.2 (g1▸TV ht)).1,fun k hk=>vU hn hp.ne k (EM t ht k hk)⟩,?_,?_,fun b hb bO=>?_,?_,fun t ht=>TF (TF h1 h2) (g4.2 t.1 (TV ht)).1,fun t ht=>⟨(g3 t.2 (g1▸TV ht)).2,fun k hk=>vU hw hp.fA k (EM t ht k hk)⟩,mK g1▸g5,?_⟩
 ·rw [oz,hf,show aM e (L++dU::R)=aM e L++(av e dU++aM e R) by unfold aM;exact ab T7 (ab Uu rfl),Es hL hR, <- hp.pairs];unfold aM;exact ab (T7 ..) (ab (T7 ..) (ab (T5 ..) rfl))
 ·have c1:=sS (p:=Us n) gB;have c2:=jS gB;rw [hf,d4,VI,VI,iQ QJ,iQ QK] at c1;rw [hf,d4,TG,TG] at c2;have c3:=hp.fresh;refine ab hold (ab TS (ab TG (ab TG (ab c2 ?_))));exact aH (SR (Wa n.ble (aT (e+1) gB)) (Wa n.ble (aT e ts)) ((bu e dU).length) gB.length ((aT e ts).length) e ((aT e L).length) ((aT e R).length)) [(1,aq,.add bL (.add (.add rH aw) rH)),(1,.add aw aN,.add jc (.add Dh ay))] (.add aq (.add (.add lv6 (.add aN lv7)) ay)) (.add (.add bL (.add (.add lv6 jc) lv7)) (.add (.add Dh ay) ay)) rfl c1 c3
 ·refine ah (Uk.mp hb) fun t ht hb=>?_;rcases TN.mp hb with rfl | hb
  ·exact absurd (TF (TF h1 h2) (g4.2 _ (TV ht)).1) (Vd.mpr bO)
  ·refine ah (Uk.mp hb) fun k hk hb=>?_;refine TP _ (hold▸?_);rcases T6.mp (EM t ht k hk) with hk | hk
   ·rcases T6.mp hk with hk | hk
    ·exact Uq _ (Uk.mpr (ai k hk hb))
    ·exact TQ _ (Uq _ (hp.old b (Uk.mpr (ai k hk hb)) bO))
   ·exact TQ _ (TQ _ (Uk.mpr (ai k hk hb)))
 ·refine ah hp.typ fun C' hC uT=>?_;refine ah (Jh (C:=C') (w:=w) g4 h3 fun t ht k hk=>(vU (P:=fun t=>di C' w true e t n1) (fun t ht=>di.mono hC h1 e t (hT t ht)) uT k (EM t ht k hk)).mono (fun O O=>rfl) h2) fun uM nH IL=>?_;exact (ai uM (hC.trans nH (TF h1 h2)) IL)
 ·have c2:=jS gB;have c4:gB.length<=2:=mK g1▸g5;rw [hf,d4,TG,TG] at c2;have c3:=hp.grow;refine ab hold (ab TS (ab TG (ab TG (ab c2 ?_))));exact aH (CF gB.length ((aT e ts).length) ((bu e dU).length) e ((aT e L).length) ((aT e R).length)) [(1,aq,ia),(1,aw,.add aN (.add bL ay))] (.add aq (.add (.add jc aw) Dh)) (.add (.add (.add jc (.add aN Dh)) ay) (.add (.add bL ay) ay)) rfl c4 c3
end
section
variable {G:aA}{d:Nat}{H:AH}{n:Nat}{Q:KV}{w lim:Bool}(ok:aZ G)(fn:fJ G)
include ok fn
theorem L9 {C:eS}{k:SK}{x:Int}{W e:Nat}{t:Tr (e+1)}(hd:6+e<=d)(cK:jv W (e+1) t)(hW:2<=W)(fG:W<=1000)(hk:k.tag=kt w)(hn:Ne (e+1) t)(hs:fq (av (e+1) t))(d9:Kd w (av (e+1) t))(hz:(av (e+1) t).length<=200)(hT:di C w lim (e+1) t n)
 (ih:∀{d n:Nat} {Q:KV} (t:Tr e),5+e<=d->jv W e t->Ne e t->fq (av e t)->Kd w (av e t)->(av e t).length<=200->di C w true e t n->(∀ts n',n<=n'->sA C w W n n' e (ins (av e t) k x) (bu e t) ts->Q (.ag (ts.map (aS w true e))) H n')->aE G d 22 [aS w true e t,.str (wd w),aB (k,x),.int W] H n Q)
 (h:∀ts n',n<=n'->sA C w W n n' (e+1) (ins (av (e+1) t) k x) (bu (e+1) t) ts->Q (.ag (ts.map (aS w true (e+1)))) H n'):aE G d 22 [aS w lim (e+1) t,.str (wd w),aB (k,x),.int W] H n Q:=by
 obtain ⟨a,ks⟩:=t;have fW:ks.length<=200:=TF (dO ks hn.2) hz;have hl:(ks.map (aS w true e)).length<=16777216:=by refine ab (TH ..) ?_;exact TF fW (by decide)
 refine qQ (gU hk ks hn.2 hs d9) fun A B iv hA hB AX C9=>?_;refine kK (zb (ks:=ks) hn.1 iv AX C9) fun L dU R yF MM hL hR=>?_;have NM:∀t∈ks,(jn e t).tag=kt w:=fun t ht=>iG (hn.2 t ht) (eM d9 t ht);refine aF ok fn.f22 (kd:=5+e) (by refine ab (Wi ..) ?_;exact hd) rfl fun d d1 ne aJ=>aL ax (fB PF (aL ax (dh iI (aL (jW _) (aV yh (fB ?_ (aL ax (dh iI ?_))))))))
 ·refine eJ (UG hn.1) fun k0 r e0=>?_;show V.eqv (.ag (ks.map (aS w true e))) (.ag [])=false;refine ab (show ks=k0::r from e0) ?_;rfl
 ·refine c21 ok fn (TF (TF (by decide) (TZ 5 e)) d1) hn.2 d9 (TF fW (by decide)) fun n1 h1=>?_;have e1:(ks.map (jn e)).map V.sk=(A.map (jn e)++B.map (jn e)).map V.sk:=by exact bk TR (bk iv rfl)
  have QP:(if ((ks.map (aS w true e)).length:Int) - 1<((A.map (jn e)).length:Int) then ((ks.map (aS w true e)).length:Int) - 1 else ((A.map (jn e)).length:Int))=(L.length:Nat):=by refine ab (TH ..) (ab (TH ..) ?_);exact MM
  have c1:iR (ks.map (aS w true e)) none (some (L.length:Int))=L.map (aS w true e):=by refine ab yF ?_;exact qY
  have c2:iR (ks.map (aS w true e)) (some ((L.length+1:Nat):Int)) none=R.map (aS w true e):=by
   have:=iS (f:=aS w true e) (a:=L++[dU]) (b:=R);rwa [T5,show [dU]++R=dU::R from rfl, <- yF,TG] at this
  have vA:(ks.map (aS w true e))[L.length]? =some (aS w true e dU):=by refine ab Ui (ab yF (ab eX ?_));rfl
  have hLR:L.length+R.length<=200:=by rw [yF,TG,TS] at fW;exact aH (bc L.length R.length) [(1,.add aq (.add aw ay),.num 200)] (.add aq aw) (.num 200) rfl fW
  have zA:dU∈ks:=yF▸TQ _ (TM ..);have Nw:fq (av e dU)/\(av e dU).length<=200:=by
   have:aM e ks=aM e L++(av e dU++aM e R):=by refine ab yF ?_;unfold aM;exact ab T7 (ab Uu rfl)
   refine ⟨(Uz.mp (Uz.mp (show fq (aM e L++(av e dU++aM e R)) from this▸hs)).2.1).1,?_⟩;have h2:(aM e ks).length<=200:=hz;rw [this,TG,TG] at h2;exact aH (bC ((aM e L).length) ((av e dU).length) ((aM e R).length)) [(1,.add aq (.add aw aN),.num 200)] aw (.num 200) rfl h2
  refine ab e1 ?_;refine OZ ok fn (TF (TF (by decide) (TZ 5 e)) d1) (fun y hy=>?_) (fun y hy=>?_) (by refine bk (TR ..) (bk (iv ..) (ab (TH ..) ?_));exact TF fW (by decide)) fun n2 h2=>aV hl ?_
  ·refine ah (TX.mp hy) fun t ht gR=>?_;subst gR;exact ⟨ct (NM t (iv▸Uq _ ht)) hk,hA t ht⟩
  ·refine ah (TX.mp hy) fun t ht iq=>?_;subst iq;exact ⟨ct (NM t (iv▸TQ _ ht)) hk,hB t ht⟩
  have Di:n<=n2:=TF aJ (TF h1 h2);refine aV hl ?_;refine ab QP ?_;refine (dh vA (aV hl (ih dU d1 (cK.2 dU zA) (hn.2 dU zA) Nw.1 (eM d9 dU zA) Nw.2 ((hT.2.2 dU zA).mono (fun O O=>rfl) Di) fun ts n3 h3 hp=>?_)));have e2:iR (ks.map (aS w true e)) none (some (L.length:Int))++ts.map (aS w true e)++iR (ks.map (aS w true e)) (some ((L.length:Int)+1)) none=(L++ts++R).map (aS w true e):=by
   exact ab c1 (ab (show (L.length:Int)+1=((L.length+1:Nat):Int) from rfl) (ab c2 (ab TR (ab TR rfl))))
  have nP:(L++ts++R).length<=1000:=by
   have g1:=dO ts hp.ne;rw [hp.pairs] at g1;have g2:=w8 (av e dU) k x;refine ab TG (ab TG ?_);exact aH (ml L.length R.length ((av e dU).length) ts.length ((ins (av e dU) k x).length)) [(1,.add aq aw,.num 200),(2,aN,.num 200),(1,bL,jc),(1,jc,.add (.mulL 2 aN) ay)] (.add (.add aq bL) aw) (.num 1000) rfl hLR Nw.2 g1 g2
  have w7:(iR (ks.map (aS w true e)) none (some (L.length:Int))++ts.map (aS w true e)).length+(iR (ks.map (aS w true e)) (some ((L.length:Int)+1)) none).length<=16777216:=by
   refine bk (TG ..) (ab (e2 ..) (ab (TH ..) ?_));exact TF nP (by decide)
  refine aV (TF (TZ _ _) (by rw [TG] at w7;exact w7)) (aV hl (aV w7 ?_));have nn3:n<=n3:=TF Di h3;have AW:aE G d 15 [.ag ((L++ts++R).map (aS w true e)),.int W] H n3 fun v H1 n1=>C8 .pl [v] H1 fun l=>∀n2,n1<=n2->dC (Us l.length 16777216) (fg (fun x H n K O=>aE G d 17 [x] H n K) l H1 n2 fun vs H2 n2=>Q (.ag vs) H2 n2):=
   O0 ok fn (TF (TF (by decide) (TZ 5 e)) d1) hW fG nP fun tp n4 h4 hf k6 hc n5 h5=>aV (by refine ab (TH ..) ?_;exact TF (fX tp fun p hp=>(k6 p hp).1) (by refine ab hf ?_;exact TF nP (by decide))) (jX (aS w true (e+1)) (fun p=>.ag (p.map (aS w true e))) tp (fun p tM n6 K K2 h6 hK=>Ql ok fn (TF (TF (by decide) (TZ 5 e)) d1) (k6 p tM).1 (fun q hq=>by
     have hq:q∈L++ts++R:=hf▸V6.mpr (ai p tM hq);rcases T6.mp hq with hq | hq
     ·rcases T6.mp hq with hq | hq
      ·exact hn.2 q (yF▸Uq _ hq)
      ·exact hp.ne q hq
     ·exact hn.2 q (yF▸TQ _ (TP _ hq))) (TF (Vh (VJ tM)) (by refine ab hf ?_;exact nP)) fun a n4 ha bO=>hK a n4 ha bO)
    fun gB n6 h6 ht hi=>h gB n6 (TF nn3 (TF h4 (TF h5 h6))) (by
     show sA C w W n n6 (e+1) (ins (aM e ks) k x) (a::aT e ks) gB;refine ab yF ?_;exact (hp.mono Di ((hT.2.2 dU zA).lt e dU)).up hL hR (yF▸hn.2) (yF▸hT.2.2) nn3 (TF h4 h5) h6 ht hf k6 (yF▸cK.2) (by
      refine ab hc ?_;refine wQ ?_ hW;have KX:ks.length<=W:=cK.1;have GF:=hp.eU;rw [yF,TG,TS] at KX;refine ab TG (ab TG ?_);exact aH (cm L.length R.length ts.length W) [(1,.add aq (.add aw ay),bL),(1,aN,ia)] (.add (.add aq aN) aw) (.add bL ay) rfl KX GF) hi))
  rw [<- e2] at AW;exact AW
theorem c22 {C:eS}{k:SK}{x:Int}{W:Nat}(hW:2<=W)(fG:W<=1000)(hk:k.tag=kt w):∀(e:Nat) {d n:Nat} {Q:KV} {lim:Bool} (t:Tr e),5+e<=d->jv W e t->(e=0\/Ne e t)->fq (av e t)->Kd w (av e t)->(av e t).length<=200->di C w lim e t n->
 (∀ts n',n<=n'->sA C w W n n' e (ins (av e t) k x) (bu e t) ts->Q (.ag (ts.map (aS w true e))) H n')->aE G d 22 [aS w lim e t,.str (wd w),aB (k,x),.int W] H n Q:=by
 intro e
 induction e with
 | zero=>
 exact fun {O O O O} t hd cK O hs d9 hz O h=>L8 ok fn hd cK hW fG hk hs d9 (TF hz (by decide)) h
 | succ e ih=>
 exact fun {O O O O} t hd cK hn hs d9 hz hT h=>L9 ok fn (aH (bc e _) [(1,.add (.num 5) (.add aq ay),aw)] (.add (.num 6) aq) aw rfl hd) cK hW fG hk (hn.elim (fun e=>nomatch e) id) hs d9 hz hT (fun t hd cK hn hs d9 hz hT h=>ih t hd cK (.inr hn) hs d9 hz hT h) h
end
structure uZ (C:eS)(w:Bool)(W n n' e:Nat)(ps:List PR)(as:List Addr)(m s:Nat)(t:Tr e):Prop where
 ne:e=0\/Ne e t
 pairs:av e t=ps
 fresh:(bu e t).countP (Us n)<=m
 old:∀a∈bu e t,a<n->a∈as
 typ:∃C',fS n C C'/\di C' w false e t n'
 fA:jv W e t
 size:(bu e t).length<=s
theorem dJ:∀(e:Nat) (t:Tr e),bu e t=sR e t::(bu e t).tail
 | 0,_=>rfl
 | _+1,_=>rfl
theorem jw {a:Addr}:∀(e:Nat) (t:Tr e),bu e (t.at e a)=a::(bu e t).tail
 | 0,_=>rfl
 | _+1,_=>rfl
theorem N0 {C:eS}{w:Bool}{n m a e:Nat}{ts:List (Tr e)}(ha:n<=a)(hm:a<m)(h:∀t∈ts,di C w true e t n):∃C',fS n C C'/\di C' w false (e+1) (a,ts) m:=by
 have ho:fS n C (kZ C [(a,ents w false (e+1) (a,ts))]):=eB fun p hp=>by refine ab (TK.mp hp) ?_;exact ha
 exact (du _ ho hm (dM (UY ..) (a,ents w false (e+1) (a,ts)) (T1 _)) (fun k hk=>di.mono ho (TF ha (Ud hm)) e k (h k hk)))
theorem sA.one {C:eS}{w:Bool}{W n n1 n' e a:Nat}{ps:List PR}{as:List Addr}{t:Tr e}(h:sA C w W n n1 e ps as [t])(hn:n<=n1)(ha:n1<=a)(bO:a<n'):uZ C w W n n' e ps as (e+1+((bu e (t.at e a)).length - as.length)) (as.length+(e+2)) (t.at e a) where
 fA:=(u4 e t).mpr (h.fA t (T1 _))
 size:=by
  have h1:=h.grow;rw [show aT e [t]=bu e t from TU _,dJ,TS] at h1;refine ab (jw ..) (ab (TS ..) ?_);exact aH (bC ((bu e t).tail.length) as.length e) [(1,.add aq ay,.add aw (.add aN ay))] (.add aq ay) (.add aw (.add aN ia)) rfl h1
 ne:=.inr ((z8 e t).mpr (h.ne t (T1 _)))
 pairs:=(u3 e t).trans (by refine bk h.pairs ?_;exact (TU _).symm)
 fresh:=by
  have h1:=h.fresh;have h2:=h.new t (T1 _);rw [show aT e [t]=bu e t from TU _,dJ,VT,if_pos (UR h2),TS] at h1;refine ab (jw ..) (ab (VT ..) (ab (if_pos (UR (TF hn ha)) ..) (ab (TS ..) ?_)));exact aH (ml (Wa n.ble (bu e t).tail) as.length ((bu e t).tail.length) e ((((bu e t).tail.length)+1) - as.length)) [(1,.add (.add aq ay) aw,.add (.add aN ay) (.add bL ay)),(1,.add aN ay,.add jc aw)] (.add aq ay) (.add (.add bL ay) jc) rfl h1 (UU (TJ ((((bu e t).tail.length)+1) - as.length)))
 old b hb zz:=by
  rw [jw] at hb;rcases TN.mp hb with rfl | hb
  ·exact absurd (TF hn ha) (Vd.mpr zz)
  ·exact h.old b (show b∈bu e t++[] by refine ab (TU ..) (ab (dJ ..) ?_);exact TP _ hb) zz
 typ:=by
  refine ah h.typ fun C' hC ht=>?_;refine ah (Ji (w:=w) ha bO e t (ht t (T1 _))) fun uM nH k8=>?_;exact (ai uM (hC.trans nH hn) k8)
theorem sA.two {C:eS}{w:Bool}{W n n1 n' e a:Nat}{ps:List PR}{as:List Addr}{ts:List (Tr e)}(h:sA C w W n n1 e ps as ts)(hW:2<=W)(h0:ts≠[])(hn:n<=n1)(ha:n1<=a)(bO:a<n'):uZ C w W n n' (e+1) ps as (e+1+((bu (e+1) (a,ts)).length - as.length)) (as.length+(e+2)) (a,ts) where
 fA:=⟨TF h.eU hW,h.fA⟩
 size:=Um h.grow
 ne:=.inr ⟨h0,h.ne⟩
 pairs:=h.pairs
 fresh:=by
  have h1:=h.fresh;show (a::aT e ts).countP _<=e+1+((a::aT e ts).length - as.length);refine ab VT (ab (if_pos (UR (TF hn ha))) (ab TS ?_));exact aH (ml (Wa n.ble (aT e ts)) as.length ((aT e ts).length) e ((((aT e ts).length)+1) - as.length)) [(1,.add aq aw,.add aN (.add bL ay)),(1,.add aN ay,.add jc aw)] (.add aq ay) (.add (.add bL ay) jc) rfl h1 (UU (TJ ((((aT e ts).length)+1) - as.length)))
 old b hb zz:=by
  rcases TN.mp hb with rfl | hb
  ·exact absurd (TF hn ha) (Vd.mpr zz)
  ·exact h.old b hb zz
 typ:=by
  refine ah h.typ fun C' hC ht=>?_;refine ah (N0 (w:=w) ha bO ht) fun uM nH k8=>?_;exact (ai uM (hC.trans nH hn) k8)
section
variable {G:aA}{d:Nat}{H:AH}{n:Nat}{Q:KV}{w:Bool}(ok:aZ G)(fn:fJ G)
include ok fn
theorem c23 {C:eS}{k:SK}{x:Int}{W e:Nat}{t:Tr e}(hd:6+e<=d)(cK:jv W e t)(hW:2<=W)(fG:W<=1000)(hk:k.tag=kt w)(hn:e=0\/Ne e t)(hs:fq (av e t))(d9:Kd w (av e t))(hz:(av e t).length<=200)(hT:di C w false e t n)
 (h:∀e' (t':Tr e') n',n<=n'->e'<=e+1->uZ C w W n n' e' (ins (av e t) k x) (bu e t) (e+1+((bu e' t').length - (bu e t).length)) ((bu e t).length+(e+2)) t'->Q (aS w false e' t') H n'):aE G d 23 [aS w false e t,.str (wd w),.sk k,.int x,.int W] H n Q:=
 aF ok fn.f23 (kd:=5+e) (aH (bc e d) [(1,.add (.num 6) aq,aw)] (.add (.add (.num 5) aq) ay) aw rfl hd) rfl fun d d1 ne aJ=>fB (decide_eq_false fun q=>absurd (UH.mp q) (Ux.mpr hW)) (c22 ok fn hW fG hk e t d1 cK hn hs d9 hz (hT.mono (fun O O=>rfl) aJ) fun ts n1 h1 hp=>by
  have hp:=hp.mono aJ (hT.lt e t);have nP:(ts.map (aS w true e)).length<=16777216:=by
   have g1:=dO ts hp.ne;rw [hp.pairs] at g1;have g2:=w8 (av e t) k x;refine ab (TH ..) ?_;exact aH (bC ((av e t).length) ts.length ((ins (av e t) k x).length)) [(2,aq,.num 200),(1,aw,aN),(1,aN,.add (.mulL 2 aq) ay)] aw (.num 16777216) rfl hz g1 g2
  match ts,hp,nP with
  | [],hp,_=>exact absurd (hp.pairs.symm) (by unfold ins;exact List.append_ne_nil_of_right_ne_nil _ (VD _ _))
  | [t1],hp,_=>exact Qm ok fn (TF (TF (by decide) (TZ 5 e)) d1) fun a n2 ha bO=>h e _ n2 (TF (TF aJ h1) (TF ha (Ud bO))) (Uo e) (hp.one (TF aJ h1) ha bO)
  | t1::t2::r,hp,nP=>
   refine aV nP ?_;exact fun a ha h0=>⟨rfl,h (e+1) (a,t1::t2::r) (a+1) (TF (TF aJ h1) (TY ha)) (TJ _) (hp.two hW (VD _ _) (TF aJ h1) ha (Uj a))⟩)
end
structure x4 (C:eS)(w:Bool)(W n n' e:Nat)(ps:List PR)(as:List Addr)(t:Tr e):Prop where
 ne:Ne e t
 pairs:av e t=ps
 fresh:(bu e t).tail.countP (Us n)<=e
 old:∀a∈bu e t,a<n->a∈as
 typ:∃C',fS n C C'/\di C' w true e t n'
 fA:jv W e t
 size:(bu e t).length<=as.length
theorem jZ {ps:List PR}{k:SK}(h:∀p∈ps,p.1≠k):iu ps k=ps:=VV.mpr fun p hp=>by refine ab (decide_eq_false (h p hp)) ?_;rfl
theorem lN {a k:SK}(h:cL a k=true):a≠k:=fun e=>by rw [e,fI] at h;injection h
theorem oo {a k:SK}(h:cL k a=true):a≠k:=fun e=>by rw [e,fI] at h;injection h
theorem wW {k:SK}{a b c:List PR}(ha:∀p∈a,cL p.1 k=true)(hc:∀p∈c,cL k p.1=true):iu (a++(b++c)) k=a++(iu b k++c):=by
 unfold iu;refine ab (U0 ..) (ab (U0 ..) ?_)
 congr 1
 ·exact jZ fun p hp=>lN (ha p hp)
 ·congr 1
  exact jZ fun p hp=>oo (hc p hp)
theorem Mg {p:Addr->Bool}{a:Addr}{as:List Addr}{m:Nat}(h:as.countP p<=m):(a::as).countP p<=m+1:=by
 refine ab VT ?_;refine Vf h ?_
 split <;> decide
theorem Qs {p:Addr->Bool}:∀{as:List Addr},as.tail.countP p<=as.countP p
 | []=>TJ _
 | a::as=>by refine ab VT ?_;exact TZ ..
theorem cE {e:Nat}{L R:List (Tr e)}{dU:Tr e}:aM e (L++dU::R)=aM e L++(av e dU++aM e R):=by unfold aM;exact ab T7 (ab Uu rfl)
structure Kw (C:eS)(w:Bool)(W n n1 e:Nat)(ps:List PR)(as:List Addr)(mid:List (Tr e)):Prop where
 ne:∀t∈mid,Ne e t
 pairs:aM e mid=ps
 fresh:(aT e mid).countP (Us n)<=e+1
 old:∀a∈aT e mid,a<n->a∈as
 typ:∃C',fS n C C'/\∀t∈mid,di C' w true e t n1
 fA:∀t∈mid,jv W e t
 size:(aT e mid).length<=as.length
 eU:mid.length<=1
section
variable {C:eS}{w:Bool}{W n n1 n' e a a0:Nat}{ps:List PR}{as:List Addr}
theorem Kw.none (h:ps=[]):Kw C w W n n1 e ps as []:=⟨fun O h=>(nomatch h),h.symm,Ur _,fun O h=>(nomatch h),ai C (fun O O=>rfl) (fun O h=>nomatch h),fun O h=>(nomatch h),Ur _,Ur _⟩
theorem x4.mid {t:Tr e}(h:x4 C w W n n1 e ps as t):Kw C w W n n1 e ps as [t] where
 fA u hu:=TK.mp hu▸h.fA
 size:=(show aT e [t]=bu e t from TU _)▸h.size
 eU:=TJ 1
 ne u hu:=TK.mp hu▸h.ne
 pairs:=(TU _).trans h.pairs
 fresh:=by
  refine ab (show aT e [t]=bu e t from TU _ ..) (ab (dJ ..) ?_);exact Mg h.fresh
 old b hb:=h.old b (by rwa [show aT e [t]=bu e t from TU _] at hb)
 typ:=by
  refine ah h.typ fun C' hC ht=>?_;exact (ai C' hC (fun u hu=>TK.mp hu▸ht))
theorem x4.mono {t:Tr e}{m:Nat}(h:x4 C w W m n' e ps as t)(l:n<=m)(ho:∀a∈as,a<n):x4 C w W n n' e ps as t where
 fA:=h.fA
 size:=h.size
 ne:=h.ne
 pairs:=h.pairs
 fresh:=by
  refine ab (List.countP_congr (q:=Us m) fun a ha=>⟨fun e=>UR (Vl fun q=>absurd (Uh e) (Vd.mpr (ho a (h.old a (Vx ha) q)))),fun e=>UR (TF l (Uh e))⟩) ?_;exact h.fresh
 old a ha q:=h.old a ha (TO q l)
 typ:=by
  refine ah h.typ fun C' hC ht=>?_;exact (ai C' (fun a ha=>hC a (TO ha l)) ht)
theorem x4.same {t:Tr e}{k:SK}{n0:Nat}(cK:jv W e t)(hn:Ne e t)(hT:di C w true e t n0)(h0:n0<=n)(h1:n0<=n1)(hk:∀p∈av e t,cL p.1 k=true):x4 C w W n n1 e (iu (av e t) k) (bu e t) t where
 fA:=cK
 size:=TJ _
 ne:=hn
 pairs:=(jZ fun p hp=>lN (hk p hp)).symm
 fresh:=by refine ab (iQ fun a ha=>TO (hT.lt e t a (Vx ha)) h0) ?_;exact Ur _
 old _ h _:=h
 typ:=(ai C (fun O O=>rfl) (hT.mono (fun O O=>rfl) h1))
theorem Kw.up {k:SK}{dU:Tr e}{L R mid:List (Tr e)}(hp:Kw C w W n n1 e (iu (av e dU) k) (bu e dU) mid)(hw:jv W (e+1) (a0,L++dU::R))(hL:∀p∈aM e L,cL p.1 k=true)(hR:∀p∈aM e R,cL k p.1=true)(hn:∀t∈L++dU::R,Ne e t)(hT:∀t∈L++dU::R,di C w true e t n)(h1:n<=n1)(h2:n1<=a)(h3:a<n')(h0:L++mid++R≠[]):
 x4 C w W n n' (e+1) (iu (aM e (L++dU::R)) k) (bu (e+1) (a0,L++dU::R)) (a,L++mid++R):=by
 have vU:∀{P:Tr e->Prop},(∀t∈L++dU::R,P t)->(∀t∈mid,P t)->∀t∈L++mid++R,P t:=fun h1 h2 t ht=>by
  rcases T6.mp ht with ht | ht
  ·rcases T6.mp ht with ht | ht
   ·exact h1 t (Uq _ ht)
   ·exact h2 t ht
  ·exact h1 t (TQ _ (TP _ ht))
 have QJ:∀a∈aT e L,a<n:=fun a ha=>by
  refine ah (Uk.mp ha) fun t ht ha=>?_;exact (hT t (Uq _ ht)).lt e t a ha
 have QK:∀a∈aT e R,a<n:=fun a ha=>by
  refine ah (Uk.mp ha) fun t ht ha=>?_;exact (hT t (TQ _ (TP _ ht))).lt e t a ha
 have hold:aT e (L++dU::R)=aT e L++(bu e dU++aT e R):=by unfold aT;exact ab T7 (ab Uu rfl)
 refine ⟨⟨h0,vU hn hp.ne⟩,?_,?_,fun b hb bO=>?_,?_,⟨?_,vU hw.2 hp.fA⟩,?_⟩
 ·show aM e (L++mid++R)=_;refine ab cE (ab (wW hL hR) (bk hp.pairs ?_));unfold aM;exact ab (T7 ..) (ab (T7 ..) (ab (T5 ..) rfl))
 ·show (aT e (L++mid++R)).countP _<=_;refine ab (d4 ..) (ab (VI ..) (ab (VI ..) (ab (iQ QJ ..) (ab (iQ QK ..) (ab (UL ..) ?_)))));exact hp.fresh
 ·rcases TN.mp hb with rfl | hb
  ·exact absurd (TF h1 h2) (Vd.mpr bO)
  ·refine TP _ (show b∈aT e (L++dU::R) from ?_);refine ab hold ?_;have hb:b∈aT e (L++mid++R):=hb;rw [d4] at hb;rcases T6.mp hb with hb | hb
   ·rcases T6.mp hb with hb | hb
    ·exact Uq _ hb
    ·exact TQ _ (Uq _ (hp.old b hb bO))
   ·exact TQ _ (TQ _ hb)
 ·refine ah hp.typ fun C' hC uT=>?_;refine ah (Jh (C:=C') (w:=w) (n:=n1) (m:=n') (ts:=[(a,L++mid++R)]) ⟨UY ..,fun b hb=>by refine ab (TK.mp hb) ?_;exact ⟨h2,h3⟩⟩ (TF h2 (Ud h3)) fun t ht k hk=>by
   rw [TK.mp ht] at hk;exact vU (P:=fun t=>di C' w true e t n1) (fun t ht=>di.mono hC h1 e t (hT t ht)) uT k hk) fun uM nH IL=>?_
  exact (ai uM (hC.trans nH h1) (IL _ (T1 _)))
 ·have h4:(L++dU::R).length<=W:=hw.1;have h5:=hp.eU;show (L++mid++R).length<=W;rw [TG,TS] at h4;refine ab TG (ab TG ?_);exact aH (cm L.length R.length mid.length W) [(1,.add aq (.add aw ay),bL),(1,aN,ay)] (.add (.add aq aN) aw) bL rfl h4 h5
 ·show (aT e (L++mid++R)).length+1<=(aT e (L++dU::R)).length+1;have h5:=hp.size;refine ab hold (ab d4 (ab TG (ab TG (ab TG (ab TG ?_)))));exact aH (cm ((aT e mid).length) ((bu e dU).length) ((aT e L).length) ((aT e R).length)) [(1,aq,aw)] (.add (.add (.add aN aq) bL) ay) (.add (.add aN (.add aw bL)) ay) rfl h5
end
structure SD where
 e:Nat
 t:Tr e
 l:Bool
structure ID (C:eS)(w:Bool)(W n n0 e N:Nat)(ps:List PR)(as:List Addr)(n1:Nat)(s:SD):Prop where
 g1:n<=n1
 g2:s.e<=e
 fA:jv W s.e s.t
 size:(bu s.e s.t).length<=N
 ne:Ne s.e s.t
 pairs:av s.e s.t=ps
 fresh:(bu s.e s.t).tail.countP (Us n0)<=e
 old:∀a∈(bu s.e s.t).tail,a<n0->a∈as
 typ:∃C',fS n0 C C'/\di C' w s.l s.e s.t n1
section
variable {G:aA}{d:Nat}{H:AH}{n:Nat}{Q:KV}{w lim:Bool}(ok:aZ G)(fn:fJ G)
include ok fn
theorem Ma {C:eS}{W:Nat}{k:SK}{t:Tr 0}(hd:5<=d)(cK:jv W 0 t)(hk:k.tag=kt w)(d9:Kd w (av 0 t))(hz:(av 0 t).length<=200)
 (h0:∀n',n<=n'->iu (av 0 t) k=[]->Q .none H n') (h:∀t' n',n<=n'->x4 C w W n n' 0 (iu (av 0 t) k) (bu 0 t) t'->Q (aS w true 0 t') H n'):aE G d 24 [aS w lim 0 t,.str (wd w),.sk k] H n Q:=
 aF ok fn.f24 hd rfl fun d d1 ne aJ=>aL ax (jU N1 (c20 ok fn (TF (by decide) d1) ax jz d9 (TF hz (by decide)) fun n1 h1 n2 h2=>aV (by refine ab (TH ..) ?_;exact TF hz (by decide))
  (cA (fun p:PR=> !decide (p.1=k)) aB aB (av 0 t) (fun p hp n3 K K2 h3 hT hF=>aL (eA (d9 p hp) hk) (br (fun e=>hT e n3 (TJ _)) fun e=>hF e n3 (TJ _))) fun n3 h3=>by
   have nP:(iu (av 0 t) k).length<=200:=TF (UX _ _) hz;have w7:((iu (av 0 t) k).map aB).length<=16777216:=by refine ab (TH ..) ?_;exact TF nP (by decide)
   have nn:n<=n3:=TF aJ (TF h1 (TF h2 h3));refine aV w7 (br (fun e=>?_) fun e=>?_)
   ·have jC:iu (av 0 t) k≠[]:=fun q=>by
     have e:=of_decide_eq_true e;rw [show ((av 0 t).filter fun p:PR=> !decide (p.1=k))=[] from q] at e;exact nomatch e
    exact Qk ok fn d1 jC (TF nP (by decide)) fun a n4 ha bO=>h (a,iu (av 0 t) k) n4 (TF nn (TF ha (Ud bO))) ⟨jC,rfl,TJ _,fun b hb zz=>absurd (TF nn (TK.mp hb▸ha)) (Vd.mpr zz),by
     refine ah (Jg (C:=C) (w:=w) (n:=n) (m:=n4) (ts:=[(a,iu (av 0 t) k)]) ⟨UY ..,fun b hb=>by refine ab (TK.mp hb) ?_;exact ⟨TF nn ha,bO⟩⟩) fun C' hC ht=>?_;exact (ai C' hC (ht _ (T1 _))),TF (UX _ _) cK,TJ _⟩
   ·refine h0 n3 nn ?_;have e:=U2.mp (of_decide_eq_false e);rw [TH] at e;exact U5.mp (Xi.mp (Ul.mp e)))))
theorem yk {e:Nat}{ks:List (Tr e)}{r0 r1 r2 r3 r5 r6:Option V}(hd:1<=d)(hz:ks.length<=1000)(hn:∀k∈ks,Ne e k)(h0:ks=[]->Q .none H n)(h:ks≠[]->∀a n',n<=a->a<n'->Q (aS w true (e+1) (a,ks)) H n'):
 WE G d (.ite (.cmp .Gt (.bi .len [.var 4]) (.int 0)) (.call 17 [.var 4]) .none) [r0,r1,r2,r3,some (.ag (ks.map (aS w true e))),r5,r6] H n Q:=by
 have hl:(ks.map (aS w true e)).length<=16777216:=by refine ab (TH ..) ?_;exact TF hz (by decide)
 cases ks with
 | nil=>exact h0 rfl
 | cons k r=>exact aV hl (jU (decide_eq_true (UH.mpr (Nat.zero_lt_succ _))) (Ql ok fn hd (VD _ _) hn hz (h (VD _ _))))
theorem Mb {C:eS}{W:Nat}{k:SK}{e:Nat}{t:Tr (e+1)}(hd:6+e<=d)(cK:jv W (e+1) t)(hk:k.tag=kt w)(hn:Ne (e+1) t)(hs:fq (av (e+1) t))(d9:Kd w (av (e+1) t))(hz:(av (e+1) t).length<=200)(hT:di C w lim (e+1) t n)
 (ih:∀{d n:Nat} {Q:KV} (t:Tr e),5+e<=d->jv W e t->Ne e t->fq (av e t)->Kd w (av e t)->(av e t).length<=200->di C w true e t n->(∀n',n<=n'->iu (av e t) k=[]->Q .none H n')->(∀t' n',n<=n'->x4 C w W n n' e (iu (av e t) k) (bu e t) t'->Q (aS w true e t') H n')->aE G d 24 [aS w true e t,.str (wd w),.sk k] H n Q)
 (h0:∀n',n<=n'->iu (av (e+1) t) k=[]->Q .none H n') (h:∀t' n',n<=n'->x4 C w W n n' (e+1) (iu (av (e+1) t) k) (bu (e+1) t) t'->Q (aS w true (e+1) t') H n')
 (h2:∀n',n<=n'->(∀p∈av (e+1) t,cL p.1 k=true)->Q (aS w lim (e+1) t) H n'):aE G d 24 [aS w lim (e+1) t,.str (wd w),.sk k] H n Q:=by
 obtain ⟨a,ks⟩:=t;have fW:ks.length<=200:=TF (dO ks hn.2) hz;have hl:(ks.map (aS w true e)).length<=16777216:=by refine ab (TH ..) ?_;exact TF fW (by decide)
 refine qQ (gU hk ks hn.2 hs d9) fun A B iv hA hB AX C9=>?_;have NM:∀t∈ks,(jn e t).tag=kt w:=fun t ht=>iG (hn.2 t ht) (eM d9 t ht);have e1:(ks.map (jn e)).map V.sk=(A.map (jn e)++B.map (jn e)).map V.sk:=by exact bk TR (bk iv rfl)
 refine aF ok fn.f24 (kd:=5+e) (aH (bc e d) [(1,.add (.num 6) aq,aw)] (.add (.add (.num 5) aq) ay) aw rfl hd) rfl fun d d1 ne aJ=>aL ax (fB PF (aL ax (dh iI (c21 ok fn (TF (TF (by decide) (TZ 5 e)) d1) hn.2 d9 (TF fW (by decide)) fun n1 h1=>?_))));refine ab e1 ?_;refine OZ ok fn (TF (TF (by decide) (TZ 5 e)) d1) (fun y hy=>?_) (fun y hy=>?_) (by refine bk (TR ..) (bk (iv ..) (ab (TH ..) ?_));exact TF fW (by decide)) fun n2 QD=>aV hl ?_
 ·refine ah (TX.mp hy) fun t ht gR=>?_;subst gR;exact ⟨ct (NM t (iv▸Uq _ ht)) hk,hA t ht⟩
 ·refine ah (TX.mp hy) fun t ht iq=>?_;subst iq;exact ⟨ct (NM t (iv▸TQ _ ht)) hk,hB t ht⟩
 have Di:n<=n2:=TF aJ (TF h1 QD)
 cases B with
 | nil=>
  rw [TU] at iv;refine jU (decide_eq_true ?_) (h2 n2 Di fun p hp=>AX p (iv▸hp));exact ab (TH ..) (ab (TH ..) (bk (iv ..) rfl))
 | cons b B=>
  have hb:=C9 b B rfl;have Ef:b∈ks:=iv▸TQ _ (TM ..);have aI:ks.length=A.length+(B.length+1):=by exact ab iv (ab TG (ab TS rfl))
  have vA:(ks.map (aS w true e))[(A.map (jn e)).length]? =some (aS w true e b):=by refine ab (TH ..) (ab (Ui ..) (ab (iv ..) (ab (eX ..) ?_)));rfl
  have vG:aM e ks=aM e A++(av e b++aM e B):=by refine ab iv ?_;exact cE
  have Eo:fq (av e b):=(Uz.mp (Uz.mp (show fq (aM e A++(av e b++aM e B)) from vG▸hs)).2.1).1;have hzb:(av e b).length<=200:=by
   have g:(aM e ks).length<=200:=hz;rw [vG,TG,TG] at g;exact aH (bC ((aM e A).length) ((av e b).length) ((aM e B).length)) [(1,.add aq (.add aw aN),.num 200)] aw (.num 200) rfl g
  have c1:iR (ks.map (aS w true e)) none (some ((A.map (jn e)).length:Int))=A.map (aS w true e):=by refine ab (TH ..) (ab (iv ..) ?_);exact qY
  have c2:iR (ks.map (aS w true e)) (some (((A.map (jn e)).length:Int)+1)) none=B.map (aS w true e):=by
   have:=iS (f:=aS w true e) (a:=A++[b]) (b:=B);rw [T5,show [b]++B=b::B from rfl, <- iv,TG] at this;refine ab (TH ..) ?_;exact this
  have fin:∀(mid:List (Tr e)) n3,n2<=n3->mid.length<=1->Kw C w W n n3 e (iu (av e b) k) (bu e b) mid->∀r0 r1 r2 r3 r5 r6,WE G d (.ite (.cmp .Gt (.bi .len [.var 4]) (.int 0)) (.call 17 [.var 4]) .none) [r0,r1,r2,r3,some (.ag ((A++mid++B).map (aS w true e))),r5,r6] H n3 Q:=fun mid n3 h3 hm IC r0 r1 r2 r3 r5 r6=>
   yk ok fn (TF (TF (by decide) (TZ 5 e)) d1) (by refine ab TG (ab TG ?_);exact aH (cm ks.length A.length B.length mid.length) [(1,aq,.num 200),(1,.add aw (.add aN ay),aq),(1,bL,ay)] (.add (.add aw bL) aN) (.num 1000) rfl fW (TL aI.symm) hm) (fun t ht=>by
    rcases T6.mp ht with ht | ht
    ·rcases T6.mp ht with ht | ht
     ·exact hn.2 t (iv▸Uq _ ht)
     ·exact IC.ne t ht
    ·exact hn.2 t (iv▸TQ _ (TP _ ht)))
    (fun e0=>h0 n3 (TF Di h3) (by
     show iu (aM e ks) k=[];refine ab vG (ab (wW AX hb) (bk IC.pairs ?_));obtain ⟨e2,rfl⟩:=V2.mp e0;obtain ⟨rfl,rfl⟩:=V2.mp e2;rfl))
    fun e0 a2 n4 ha bO=>h (a2,A++mid++B) n4 (TF (TF Di h3) (TF ha (Ud bO))) (by
     have GF:jv W (e+1) (a,ks):=cK;show x4 C w W n n4 (e+1) (iu (aM e ks) k) (a::aT e ks) (a2,A++mid++B);refine ab iv ?_;rw [iv] at GF;exact IC.up GF AX hb (iv▸hn.2) (iv▸hT.2.2) (TF Di h3) ha bO e0)
  have e2:∀mid:List (Tr e),iR (ks.map (aS w true e)) none (some ((A.map (jn e)).length:Int))++mid.map (aS w true e)++iR (ks.map (aS w true e)) (some (((A.map (jn e)).length:Int)+1)) none=(A++mid++B).map (aS w true e):=fun mid=>by exact ab c1 (ab c2 (ab TR (ab TR rfl)))
  have w7:∀mid:List (Tr e),mid.length<=1->(iR (ks.map (aS w true e)) none (some ((A.map (jn e)).length:Int))).length+(mid.map (aS w true e)).length<=16777216/\(iR (ks.map (aS w true e)) none (some ((A.map (jn e)).length:Int))++mid.map (aS w true e)).length+(iR (ks.map (aS w true e)) (some (((A.map (jn e)).length:Int)+1)) none).length<=16777216:=fun mid hm=>by
   refine bk (TG ..) (bk (TG ..) (ab (e2 ..) (ab (c1 ..) (bk (TR ..) (ab (TH ..) (ab (TH ..) (ab (TG ..) (ab (TG ..) (ab (TG ..) ?_)))))))));exact ⟨aH (cm ks.length A.length B.length mid.length) [(1,aq,.num 200),(1,.add aw (.add aN ay),aq),(1,bL,ay)] (.add aw bL) (.num 16777216) rfl fW (TL aI.symm) hm,aH (cm ks.length A.length B.length mid.length) [(1,aq,.num 200),(1,.add aw (.add aN ay),aq),(1,bL,ay)] (.add (.add aw bL) aN) (.num 16777216) rfl fW (TL aI.symm) hm⟩
  refine fB (decide_eq_false ?_) (dh vA (aV hl (ih b d1 (cK.2 b Ef) (hn.2 b Ef) Eo (eM d9 b Ef) hzb ((hT.2.2 b Ef).mono (fun O O=>rfl) Di) (fun n3 h3 IF=>?_) fun t' n3 h3 hp=>?_)))
  ·intro q;have q:=Int.ofNat.inj (SK.int.inj q);rw [TH,TH] at q;have q:A.length=ks.length:=q;exact absurd (aH (bC A.length B.length ks.length) [(1,.add aq (.add aw ay),aN),(1,aN,aq)] ay rH rfl (TL aI.symm) (TL q.symm)) (WL 0)
  ·refine aV hl (aV (w7 [] (Ur _)).1 (aV hl (aV (w7 [] (Ur _)).2 ?_)));have:=fin [] n3 h3 (Ur _) (.none IF) (some (aS w lim (e+1) (a,ks))) (some (.str (wd w))) (some (.sk k)) none (some (.int (A.map (jn e)).length)) (some .none);rw [<- e2] at this;exact this
  ·refine aV hl (aV (w7 [t'] (TJ _)).1 (aV hl (aV (w7 [t'] (TJ _)).2 ?_)));have:=fin [t'] n3 h3 (TJ _) (hp.mono Di ((hT.2.2 b Ef).lt e b)).mid (some (aS w lim (e+1) (a,ks))) (some (.str (wd w))) (some (.sk k)) none (some (.int (A.map (jn e)).length)) (some (aS w true e t'));rw [<- e2] at this;exact this
theorem c24 {C:eS}{W:Nat}{k:SK}(hk:k.tag=kt w):∀(e:Nat) {d n:Nat} {Q:KV} {lim:Bool} (t:Tr e),5+e<=d->jv W e t->(e=0\/Ne e t)->fq (av e t)->Kd w (av e t)->(av e t).length<=200->di C w lim e t n->
 (∀n',n<=n'->iu (av e t) k=[]->Q .none H n')->(∀t' n',n<=n'->x4 C w W n n' e (iu (av e t) k) (bu e t) t'->Q (aS w true e t') H n')->(∀n',n<=n'->Ne e t->(∀p∈av e t,cL p.1 k=true)->Q (aS w lim e t) H n')->aE G d 24 [aS w lim e t,.str (wd w),.sk k] H n Q:=by
 intro e
 induction e with
 | zero=>
 exact fun {O O O O} t hd cK O O d9 hz O h0 h O=>Ma ok fn hd cK hk d9 hz h0 h
 | succ e ih=>
 exact fun {O O O O} t hd cK hn hs d9 hz hT h0 h h2=>
  have hn:=hn.elim (fun e=>nomatch e) id
  Mb ok fn (aH (bc e _) [(1,.add (.num 5) (.add aq ay),aw)] (.add (.num 6) aq) aw rfl hd) cK hk hn hs d9 hz hT (fun t hd cK hn hs d9 hz hT h0 h=>ih t hd cK (.inr hn) hs d9 hz hT h0 h fun n' jm hn bO=>h t n' jm (.same cK hn hT (TJ _) jm bO)) h0 h fun n' jm=>h2 n' jm hn
theorem Mi {C:eS}{W n n0 e N:Nat}{ps:List PR}{as:List Addr}{ne:Nat}{r0 r1 r2:Option V}{e1:Nat}{t1:Tr e1}{l1:Bool}(hd:1<=d)(hz:ps.length<=200)(tL:n0<=n)(he1:e1<=e)(cK:jv W e1 t1)(hsz:(bu e1 t1).length<=N)(aJ:Ne e1 t1)(IG:av e1 t1=ps)(Dc:(bu e1 t1).tail.countP (Us n0)<=e)(hold:∀a∈(bu e1 t1).tail,a<n0->a∈as)(hT:∃C',fS n0 C C'/\di C' w l1 e1 t1 n)
 (h:∀e' (t':Tr e') n',n<=n'->e'<=e->uZ C w W n0 n' e' ps as (e+1) N t'->Q (aS w false e' t') H n'):
 WB G d ne [.wh (.gx .And [.cmp .In (.str "Kids") (.var 3),.cmp .Eq (.bi .len [.sub (.var 3) (.str "Kids")]) (.int 1)]) [.asg (.var 3) (.sub (.sub (.var 3) (.str "Kids")) (.int 0))],.ret (.call 18 [.var 3])] [r0,r1,r2,some (aS w l1 e1 t1)] H n Q:=by
 show xX _ _ _ _ _ _;refine Lc (α:=SD) (fun s=>[r0,r1,r2,some (aS w s.l s.e s.t)]) (fun O=>H) SD.e (fun n1 s=>ID C w W n n0 e N ps as n1 s) ⟨e1,t1,l1⟩ rfl rfl ⟨TJ _,he1,cK,hsz,aJ,IG,Dc,hold,hT⟩ fun s n1 g=>?_;have fin:aE G d 18 [aS w s.l s.e s.t] H n1 Q:=Qm ok fn hd fun a n2 ha bO=>h s.e (s.t.at s.e a) n2 (TF g.g1 (TF ha (Ud bO))) g.g2 {
  fA:=(u4 s.e s.t).mpr g.fA
  size:=by
   have:=g.size;rw [dJ,TS] at this;refine ab (jw ..) (ab (TS ..) ?_);exact this
  ne:=.inr ((z8 s.e s.t).mpr g.ne)
  pairs:=(u3 s.e s.t).trans g.pairs
  fresh:=by
   refine ab (jw ..) ?_;exact Mg g.fresh
  old:=fun b hb zz=>by
   rw [jw] at hb;rcases TN.mp hb with rfl | hb
   ·exact absurd (TF tL (TF g.g1 ha)) (Vd.mpr zz)
   ·exact g.old b hb zz
  typ:=by
   refine ah g.typ fun C' g7 g8=>?_;refine ah (Ji (w:=w) ha bO s.e s.t g8) fun uM nH k8=>?_;exact (ai uM (g7.trans nH (TF tL g.g1)) k8)}
 obtain ⟨e2,t2,l2⟩:=s
 cases e2 with
 | zero=>exact aL ax (fB IT (fB rfl fin))
 | succ e2=>
  refine aL ax (jU NI (aL ax (dh iI ?_)));obtain ⟨a2,ks⟩:=t2
  cases ks with
  | nil=>exact absurd rfl (show Ne (e2+1) (a2,[]) from g.ne).1
  | cons k r=>
   cases r with
   | nil=>
    refine aL ax (dh iI ?_);have g3:Ne (e2+1) (a2,[k]):=g.ne;have gw:jv W (e2+1) (a2,[k]):=g.fA;refine ah g.typ fun C' g7 g8=>?_;have g8:di C' w l2 (e2+1) (a2,[k]) n1:=g8;refine du (⟨e2,k,true⟩:SD) rfl rfl ⟨g.g1,UD g.g2,gw.2 k (T1 _),?_,g3.2 k (T1 _),?_,?_,fun b hb=>g.old b ?_,ai C' g7 (g8.2.2 k (T1 _))⟩ (Uj e2)
    ·have h5:(bu e2 k++[]).length+1<=N:=g.size;rw [TU] at h5;exact UD h5
    ·exact (TU _).symm.trans g.pairs
    ·have h5:(bu (e2+1) (a2,[k])).tail.countP (Us n0)<=e:=g.fresh;rw [show (bu (e2+1) (a2,[k])).tail=bu e2 k from TU _] at h5;exact TF Qs h5
    ·show b∈bu e2 k++[];refine ab (TU ..) ?_;exact Vx hb
   | cons k2 r=>
    refine aV ?_ fin;refine ab (TH ..) ?_;exact TF (dO (k::k2::r) (show Ne (e2+1) (a2,k::k2::r) from g.ne).2) (TF (TF (TL (congrArg Vc (show aM e2 (k::k2::r)=ps from g.pairs))) hz) (by decide))
theorem c25 {C:eS}{W:Nat}{k:SK}{e:Nat}{t:Tr e}(hd:6+e<=d)(cK:jv W e t)(hk:k.tag=kt w)(hn:e=0\/Ne e t)(hs:fq (av e t))(d9:Kd w (av e t))(hz:(av e t).length<=200)(hT:di C w false e t n)
 (h:∀e' (t':Tr e') n',n<=n'->e'<=e->uZ C w W n n' e' (iu (av e t) k) (bu e t) (e+1) (bu e t).length t'->Q (aS w false e' t') H n'):aE G d 25 [aS w false e t,.str (wd w),.sk k] H n Q:=
 have nP:(iu (av e t) k).length<=200:=TF (UX _ _) hz
 aF ok fn.f25 (kd:=5+e) (aH (bc e d) [(1,.add (.num 6) aq,aw)] (.add (.add (.num 5) aq) ay) aw rfl hd) rfl fun d d1 ne aJ=>c24 ok fn hk e t d1 cK hn hs d9 hz (hT.mono (fun O O=>rfl) aJ)
  (fun n1 h1 IF a ha h0=>⟨rfl,h 0 (a,[]) (a+1) (TF (TF aJ h1) (TY ha)) (Ur _) {
   fA:=Ur _
   size:=by refine ab (dJ e t) ?_;exact Um (Ur _)
   ne:=.inl rfl
   pairs:=IF.symm
   fresh:=TF List.countP_le_length (Uc 1 e)
   old:=fun b hb zz=>absurd (TF (TF aJ h1) (TK.mp hb▸ha)) (Vd.mpr zz)
   typ:=by
    have ho:fS n C (kZ C [(a,ents w false 0 (a,[]))]):=eB fun p hp=>by refine ab (TK.mp hp) ?_;exact TF (TF aJ h1) ha
    exact (bW _ ho (Uj a) (dM (UY ..) (a,ents w false 0 (a,[])) (T1 _)))}⟩)
  (fun t' n1 h1 hp=>by
   have hp:=hp.mono aJ (hT.lt e t);exact Mi ok fn (C:=C) (l1:=true) (TF (TF (by decide) (TZ 5 e)) d1) nP (TF aJ h1) (TJ e) hp.fA hp.size hp.ne hp.pairs hp.fresh (fun a ha=>hp.old a (Vx ha)) hp.typ fun e' t' n2 h2=>h e' t' n2 (TF (TF aJ h1) h2))
  fun n1 h1 hn bO=>Mi ok fn (C:=C) (l1:=false) (TF (TF (by decide) (TZ 5 e)) d1) nP (TF aJ h1) (TJ e) cK (TJ _) hn (jZ fun p hp=>lN (bO p hp)).symm (by refine ab (iQ fun a ha=>hT.lt e t a (Vx ha)) ?_;exact Ur _) (fun a ha O=>Vx ha) (ai C (fun O O=>rfl) (hT.mono (fun O O=>rfl) (TF aJ h1))) fun e' t' n2 h2=>h e' t' n2 (TF (TF aJ h1) h2)
end
theorem kn {w:Bool}{ps:List PR}{jO:List (SK × V)}(hp:jO.Perm (ps.map fun p=>(p.1,V.int p.2)))(hs:dI (jO.map (·.1)))(hn:(ps.map T8).Nodup)(hk:Kd w ps):∃qs:List PR,qs.Perm ps/\jO=qs.map (fun p=>(p.1,V.int p.2))/\fq qs:=by
 have g:∀p:PR,(fun q:SK × V=>(q.1,(match q.2 with | .sk (.int i)=>i | _=>0:Int))) (p.1,V.int p.2)=p:=fun p=>rfl;have h1:=hp.map fun q:SK × V=>(q.1,(match q.2 with | .sk (.int i)=>i | _=>0:Int));rw [Ua,show (fun q:SK × V=>(q.1,(match q.2 with | .sk (.int i)=>i | _=>0:Int)))∘(fun p:PR=>(p.1,V.int p.2))=id from funext g,Wr] at h1;have h2:jO=(jO.map fun q:SK × V=>(q.1,(match q.2 with | .sk (.int i)=>i | _=>0:Int))).map fun p:PR=>(p.1,V.int p.2):=by
  refine ab Ua ?_;refine (Wr jO).symm.trans (UK fun q hq=>?_);refine bY (TX.mp (hp.mem_iff.mp hq)) fun p O=>?_;rfl
 refine (bW _ h1 h2 ?_);have h3:(jO.map (·.1)).Nodup:=(hp.map T8).nodup_iff.mpr (by refine ab Ua ?_;exact hn);have h4:∀k∈jO.map (·.1),k.tag=kt w:=fun k vB=>by
  refine bY (TX.mp vB) fun q hq=>?_;refine bY (TX.mp (hp.mem_iff.mp hq)) fun p w4=>?_;exact hk p w4
 have h5:∀l:List SK,dI l->l.Nodup->(∀k∈l,k.tag=kt w)->l.Pairwise fun x y=>cL x y=true:=by
  intro l
  induction l with
  | nil=>intro _ _ _;exact .nil
  | cons x l ih=>
   intro s n t;obtain ⟨s1,s2⟩:=Vs.mp s;obtain ⟨n1,n2⟩:=U8.mp n;refine Vs.mpr ⟨fun y hy=>?_,ih s2 n2 fun k hk=>t k (TP _ hk)⟩
   cases c:cL x y with
   | true=>rfl
   | false=>exact absurd (mE (t x (TM ..)) (t y (TP _ hy)) c (s1 y hy)▸hy) n1
 have h6:=h5 _ hs h3 h4;unfold fq;rw [Wo] at h6 ⊢;exact h6
structure SB where
 e:Nat
 ts:List (Tr e)
structure IB (C:eS)(w:Bool)(W n n0 B S:Nat)(qs:List PR)(n1:Nat)(s:SB):Prop where
 g1:n<=n1
 fA:∀t∈s.ts,jv W s.e t
 size:(aT s.e s.ts).length+2*s.ts.length<=S
 nn:s.ts≠[]
 z:s.ts.length<=1000
 ne:∀t∈s.ts,Ne s.e t
 pairs:aM s.e s.ts=qs
 bb:s.e+s.ts.length<=B
 typ:∃C',fS n0 C C'/\∀t∈s.ts,di C' w true s.e t n1
section
variable {G:aA}{d:Nat}{H:AH}{n:Nat}{Q:KV}{w:Bool}(ok:aZ G)(fn:fJ G)
include ok fn
theorem Al {C:eS}{n0 W ne B S:Nat}{qs:List PR}{r0 r1 r3 r4:Option V}{e:Nat}{ts:List (Tr e)}(hd:1<=d)(hW:2<=W)(fG:W<=1000)(hz:ts.length<=1000)(tL:n0<=n)(cK:∀t∈ts,jv W e t)(hS:(aT e ts).length+2*ts.length<=S)(h0:ts≠[])(aJ:∀t∈ts,Ne e t)(hp:aM e ts=qs)(hB:e+ts.length<=B)(hT:∃C',fS n0 C C'/\∀t∈ts,di C' w true e t n)
 (h:∀e' (t':Tr e') n',n<=n'->e'<B->jv W e' t'->(bu e' t').length+2<=S->av e' t'=qs->Ne e' t'->(∃C',fS n0 C C'/\di C' w false e' t' n')->Q (aS w false e' t') H n'):
 WB G d ne [.wh (.cmp .Gt (.bi .len [.var 5]) (.int 1)) [.pe 5 2 (.call 17 [.var 7]) (.var 7) .pl [.call 15 [.var 5,.var 2]] []],.ret (.call 18 [.sub (.var 5) (.int 0)])] [r0,r1,some (.int W),r3,r4,some (.ag (ts.map (aS w true e)))] H n Q:=by
 show xX _ _ _ _ _ _;refine Lc (α:=SB) (fun s=>[r0,r1,some (.int W),r3,r4,some (.ag (s.ts.map (aS w true s.e)))]) (fun O=>H) (fun s=>s.ts.length) (fun n1 s=>IB C w W n n0 B S qs n1 s) ⟨e,ts⟩ rfl rfl ⟨TJ _,cK,hS,h0,hz,aJ,hp,hB,hT⟩ fun s n1 g=>?_;obtain ⟨e2,ts⟩:=s;have g1:=g.g1;have Mu:ts.length<=1000:=g.z;have g3:∀t∈ts,Ne e2 t:=g.ne;have hl:(ts.map (aS w true e2)).length<=16777216:=by refine ab (TH ..) ?_;exact TF Mu (by decide)
 refine aV hl (br (fun c=>?_) fun c=>?_)
 ·have hc:1<ts.length:=by
   have:=UH.mp (of_decide_eq_true c);rwa [TH] at this
  refine O0 ok fn hd hW fG Mu fun tp n2 h2 (hf:tp.flatten=ts) k6 Im n3 h3=>aV (by refine ab (TH ..) ?_;exact TF (fX tp fun p hp=>(k6 p hp).1) (by refine ab hf ?_;exact TF Mu (by decide))) (jX (aS w true (e2+1)) (fun p=>.ag (p.map (aS w true e2))) tp (fun p hp n4 K K2 h4 hK=>Ql ok fn hd (k6 p hp).1 (fun t ht=>g3 t (hf▸V6.mpr (ai p hp ht))) (TF (Vh (VJ hp)) (by refine ab hf ?_;exact Mu)) hK) fun gB n4 h4 ht hi=>?_);have aI:gB.length=cnt ts.length W:=by exact bk (Im ..) (bk (ht ..) (ab (TH ..) rfl))
  have bO:=HF hc hW;refine (du ⟨e2+1,gB⟩ rfl rfl ⟨TF g1 (TF h2 (TF h3 h4)),fun t yN=>⟨(k6 t.2 (ht▸TV yN)).2,fun k hk=>g.fA k (hf▸V6.mpr (ai t.2 (ht▸TV yN) hk))⟩,?_,?_,?_,?_,?_,?_,?_⟩ ?_)
  ·have c1:(aT (e2+1) gB).length=Vc (α:=Tr (e2+1)) gB+(aT e2 ts).length:=(jS (e:=e2) gB).trans (congrArg (fun l=>Vc (α:=Tr (e2+1)) gB+(aT e2 l).length) ((nW (e:=e2) ht).trans hf));have c2:(aT e2 ts).length+2*ts.length<=S:=g.size;have c3:=nh (L:=ts.length) (W:=W) (Ud hc) hW;have c4:Vc (α:=Tr (e2+1)) gB=cnt ts.length W:=aI;show (aT (e2+1) gB).length+2*Vc (α:=Tr (e2+1)) gB<=S;exact aH (CF _ _ _ ((aT (e2+1) gB).length) gB.length S) [(1,.add aq (.mulL 2 aw),Dh),(1,.add aN ay,aw),(1,bL,.add jc aq),(1,.mulL 2 aN,.add aw ay),(3,jc,aN)] (.add bL (.mulL 2 jc)) Dh rfl c2 bO (TL c1) c3 (TL c4)
  ·exact List.ne_nil_of_length_pos (show 0<gB.length by refine ab aI ?_;exact (qX (Xe WI hc) hW).2)
  ·show gB.length<=1000;refine ab aI ?_;exact TF (Ud bO) Mu
  ·exact fun t yN=>⟨(k6 t.2 (ht▸TV yN)).1,fun k hk=>g3 k (hf▸V6.mpr (ai t.2 (ht▸TV yN) hk))⟩
  ·show aM (e2+1) gB=qs;exact ((oz (e:=e2) gB).trans (congrArg (aM e2) ((nW (e:=e2) ht).trans hf))).trans g.pairs
  ·show e2+1+gB.length<=B;refine ab aI ?_;have g5:e2+ts.length<=B:=g.bb;exact aH (cm (cnt ts.length W) e2 _ B) [(1,.add aq ay,aN),(1,.add aw aN,bL)] (.add (.add aw ay) aq) bL rfl bO g5
  ·refine ah g.typ fun C' g7 g8=>?_;refine ah (Jh (C:=C') (w:=w) (e:=e2) hi h4 fun t yN k hk=>(g8 k (hf▸V6.mpr (ai t.2 (ht▸TV yN) hk))).mono (fun O O=>rfl) (TF h2 h3)) fun uM nH k8=>?_;exact (ai uM (g7.trans nH (TF tL (TF g1 (TF h2 h3)))) k8)
  ·show gB.length<ts.length;refine ab aI ?_;exact bO
 ·have hc:ts.length<=1:=by
   have:=Ul.mp (U2.mp (of_decide_eq_false c));rwa [TH] at this
  cases ts with
  | nil=>exact absurd rfl g.nn
  | cons t r=>
   cases r with
   | cons=>exact absurd hc (by refine ab TS (ab TS ?_);exact Vd.mpr (aH (bI _) [] (.add ay ay) (.add (.add aq ay) ay) rfl))
   | nil=>
    exact Qm ok fn hd fun a n2 ha bO=>h e2 (t.at e2 a) n2 (TF g1 (TF ha (Ud bO))) (Nat.lt_of_succ_le g.bb) ((u4 e2 t).mpr (g.fA t (T1 _))) (by
     have h5:(bu e2 t++[]).length+2*1<=S:=g.size;rw [TU,dJ,TS] at h5;refine ab (jw ..) (ab (TS ..) ?_);exact h5) ((u3 e2 t).trans ((TU _).symm.trans g.pairs)) ((z8 e2 t).mpr (g3 t (T1 _))) (by
     refine ah g.typ fun C' g7 g8=>?_;refine ah (Ji (w:=w) ha bO e2 t (g8 t (T1 _))) fun uM nH k8=>?_;exact (ai uM (g7.trans nH (TF tL g1)) k8))
theorem c19 {C:eS}{W:Nat}{ps:List PR}(hd:6<=d)(hW:2<=W)(fG:W<=1000)(hk:Kd w ps)(w3:(ps.map T8).Nodup)(hz:ps.length<64)(gK:H G.dW=some (.tab true))
 (h:∀e' (t':Tr e') n',n<=n'->2*e'<=ps.length+1->jv W e' t'->2*(bu e' t').length<=3*(ps.length+1)->(av e' t').Perm ps->fq (av e' t')->(e'=0\/Ne e' t')->(∃C',fS n C C'/\di C' w false e' t' n')->Q (aS w false e' t') (upd H G.dW (.tab false)) n'):aE G d 19 [.ag (ps.map aB),.str (wd w),.int W] H n Q:=
 aF ok fn.f19 hd rfl fun d d1 ne aJ=>fB (decide_eq_false fun q=>absurd (UH.mp q) (Ux.mpr hW)) (du (ps.map fun p=>(p.1,V.int p.2)) (congrArg V.ag (by refine ab Ua ?_;rfl)) ⟨fun x hx y hy=>by
   refine bY (TX.mp hx) fun p hp=>?_;refine bY (TX.mp hp) fun p w4=>?_;refine bY (TX.mp hy) fun q hq=>?_;refine bY (TX.mp hq) fun q Nn=>?_;exact (hk p w4).trans (hk q Nn).symm,by refine ab (TH ..) (ab (TH ..) ?_);exact hz⟩ gK (fun jO tM sD=>by
  refine bE (kn tM sD w3 hk) fun qs Np CA yK=>?_;subst CA;have hkq:Kd w qs:=fun p hp=>hk p (Np.mem_iff.mp hp);have K4:qs.length<64:=by refine ab Np.length_eq ?_;exact hz
  have hl:(qs.map aB).length<=16777216:=by refine ab (TH ..) ?_;exact TF (Ud K4) (by decide)
  rw [show (qs.map fun p=>(p.1,V.int p.2)).map ib=qs.map aB by refine ab Ua ?_;rfl];refine aV hl (o6 1 qs.length rfl (by exact ab (TH ..) rfl) (by decide) (TF (Ud K4) (by decide)) (fun n1 h1=>?_));refine nA (α:=Option V) (fun i:Nat=>.int (1+i:Nat)) (Un (qs.length - 1)) (fun s=>[some (.ag (ps.map aB)),some (.str (wd w)),some (.int W),some (.ag (qs.map aB)),s,none]) (fun O=>upd H G.dW (.tab false)) (fun r s=>∀i∈r,i+1<qs.length) none rfl rfl rfl (fun i hi=>by have:=Vg.mp hi;exact aH (bC i (qs.length - 1) qs.length) [(1,.add aq ay,aw),(1,.add aw ay,aN)] (.add (.add aq ay) ay) aN rfl this (TL (UZ (aH (bC i (qs.length - 1) qs.length) [(1,.add aq ay,aw),(1,aw,aN)] ay aN rfl this (Nat.sub_le qs.length 1))))) (fun i r s n2 h2 hs=>?_) fun s n2 h2 O=>?_
  ·have hi:=hs i (TM ..);have g1:(qs.map aB)[i]? =some (aB qs[i]):=by refine ab Ui (ab (T9 (Nat.lt_of_succ_lt hi)) ?_);rfl
   have g2:(qs.map aB)[1+i]? =some (aB qs[i+1]):=by refine ab (Vv ..) (ab (Ui ..) (ab (T9 hi ..) ?_));rfl
   have g3:((1+i:Nat):Int) - 1=(i:Nat):=by exact We (eO (cP ((i:Nat):Int)) [] (.sub (.add bD bg) bD) bg rfl) (eO (cP ((i:Nat):Int)) [] bg (.sub (.add bD bg) bD) rfl)
   refine dh ((congrArg (DE _) g3).trans g1) (aV hl (dh g2 (aV hl (aL (eA (hkq _ (UN _)) (hkq _ (UN _))) (fB (decide_eq_false fun q=>?_) (du _ rfl rfl h2 (fun j hj=>hs j (TP _ hj))))))));exact lN (List.pairwise_iff_getElem.mp yK i (i+1) (Nat.lt_of_succ_lt hi) hi (Uj i)) q
  have nn:n<=n2:=TF aJ (TF h1 h2)
  cases qs with
  | nil=>exact fun a ha h0=>⟨rfl,h 0 (a,[]) (a+1) (TF nn (TY ha)) (Ur _) (Ur _) (by show 2*1<=3*(ps.length+1);exact aH (bI ps.length) [] (.mulL 2 ay) (.mulL 3 (.add aq ay)) rfl) Np yK (.inl rfl) (by
    have ho:fS n C (kZ C [(a,ents w false 0 (a,[]))]):=eB fun p hp=>by refine ab (TK.mp hp) ?_;exact TF nn ha
    exact (bW _ ho (Uj a) (dM (UY ..) (a,ents w false 0 (a,[])) (T1 _))))⟩
  | cons q qs=>
   refine aV hl (O0 ok fn (TF (by decide) d1) hW fG (TF (Ud K4) (by decide)) fun tp n3 h3 hf k6 Im n4 h4=>aV (by refine ab (TH ..) ?_;exact TF (fX tp fun p hp=>(k6 p hp).1) (by refine ab hf ?_;exact TF (Ud K4) (by decide))) (jX (aS w true 0) (fun p=>.ag (p.map aB)) tp (fun p hp n5 K K2 h5 hK=>Qk ok fn (TF (by decide) d1) (k6 p hp).1 (TF (Vh (VJ hp)) (by refine ab hf ?_;exact TF (Ud K4) (by decide))) hK) fun ts n5 h5 ht hi=>?_));have aI:ts.length=cnt (q::qs).length W:=by exact bk (Im ..) (bk (ht ..) (ab (TH ..) rfl))
   have uQ:=qX (L:=(q::qs).length) (W:=W) (Vb _) hW;have Gz:=Np.length_eq;exact Al ok fn (C:=C) (n0:=n) (B:=cnt (q::qs).length W) (S:=3*cnt (q::qs).length W) (qs:=q::qs) (e:=0) (ts:=ts) (TF (by decide) d1) hW fG (TF (TL aI) (TF uQ.1 (TF (Ud K4) (by decide)))) (TF nn (TF h3 (TF h4 h5))) (fun t yN=>(k6 t.2 (ht▸TV yN)).2) (by
     have c1:(aT 0 ts).length=ts.length:=(congrArg Vc (Ho ts)).trans (TH ..);refine ab c1 ?_;have c2:Vc (α:=Tr 0) ts=cnt (q::qs).length W:=aI;refine ab c2 ?_;exact aH (bI (cnt (q::qs).length W)) [] (.add aq (.mulL 2 aq)) (.mulL 3 aq) rfl) (List.ne_nil_of_length_pos (Nat.lt_of_lt_of_eq uQ.2 aI.symm)) (fun t yN=>(k6 t.2 (ht▸TV yN)).1) ((jG ht).trans hf) (TL ((UL _).trans aI))
    (by
     refine ah (Jg (C:=C) (w:=w) hi) fun C' hC k8=>?_;exact (ai C' (fun a ha=>hC a (TO ha (TF nn (TF h3 h4)))) k8))
    fun e' t' n6 h6 Eh NF sD Po jC hT=>h e' t' n6 (TF (TF nn (TF h3 (TF h4 h5))) h6) (by have c3:=nh (L:=(q::qs).length) (W:=W) (Vb _) hW;exact aH (cm qs.length e' (cnt (q::qs).length W) ps.length) [(1,.add aq ay,bL),(2,.add aw ay,aN),(1,.mulL 2 aN,.add (.add aq ay) ay)] (.mulL 2 aw) (.add bL ay) rfl (TL Gz) Eh c3) NF (by have c3:=nh (L:=(q::qs).length) (W:=W) (Vb _) hW;exact aH (cm qs.length ((bu e' t').length) (cnt (q::qs).length W) ps.length) [(3,.add aq ay,bL),(2,.add aw ia,.mulL 3 aN),(3,.mulL 2 aN,.add (.add aq ay) ay)] (.mulL 2 aw) (.mulL 3 (.add bL ay)) rfl (TL Gz) sD c3) (Po▸Np) (Po▸yK) (.inr jC) hT))
end
noncomputable def pA (cs:List Int)(i r:Nat):bG:=.list [.ag (bq cs),.int i,.int r]
noncomputable def i8 (H:AH)(j:Addr)(m:Nat):Prop:=∃cs i r,H j=some (pA cs i r)/\cs.length<=63/\i<=m
theorem y0 {k:Nat}{b:Int}(h:k<=1000):ZU (k:Int) b:=.of_left (intBits_cast_le (TF h (by decide)))
theorem AO {a:Int}{m:Nat}(hm:0<m):∃r:Nat,a.fmod m=(r:Int)/\r<m:=by
 refine ab (VO _ (Ug m)) ?_;have h1:=Int.emod_nonneg a (show (m:Int)≠0 by exact fun qe=>TB (eO (cP ((m:Nat):Int)) [(1,.add cG bD,bg),(1,bg,cG)] bD cG rfl (Ul.mpr hm) (VS qe)));have h2:=Int.emod_lt_of_pos a (show (0:Int)<m by exact UI.mpr (eO (cP ((m:Nat):Int)) [(1,.add cG bD,bg)] (.add cG bD) bg rfl (Ul.mpr hm)));exact (ai ((a % m).toNat) ((VU h1).symm) ((Int.toNat_lt h1).mpr h2))
theorem mu {a m:Nat}:(a:Int).fmod m=(a % m:Nat):=VO _ (Ug m)
theorem q7 {a m:Nat}:(a:Int).fdiv m=(a / m:Nat):=VP _ (Ug m)
theorem tO {cs:List Int}{i:Nat}(h:i<cs.length):(bq cs)[i]? =some (.int cs[i]):=by
 unfold bq;refine ab Ui (ab (T9 h) ?_);rfl
theorem yi {cs:List Int}:(V.ag (bq cs)).dep<=200:=by
 show V.pj _+1<=200;refine ab (kT fun v hv=>by refine bY (TX.mp hv) fun t O=>?_;rfl) ?_;decide
section
variable {G:aA}{d:Nat}{H:AH}{n:Nat}{Q:KV}{w:Bool}(ok:aZ G)(fn:fJ G)
include ok fn
theorem t6 {ne j many:Nat}{cs:List Int}{i r:Nat}{r2 r3 r4 r5:Option V}(hm:0<many)(Bc:many<=1000)(hj:H j=some (pA cs i r))
 (h:∀(k r':Nat) n',n<=n'->k<many->Q (.int k) (upd H j (pA cs i r')) n'):
 WB G d ne [.asg (.var 5) (.bin .Mod (.sub (.var 0) (.int 2)) (.var 1)),.asg (.sub (.var 0) (.int 2)) (.bin .FloorDiv (.sub (.var 0) (.int 2)) (.var 1)),.ret (.var 5)] [some (.ref j),some (.int many),r2,r3,r4,r5] H n Q:=by
 have hb:Us ((many:Nat):Int).natAbs 1073741823=true:=UR (TF Bc (by decide));refine (ai _ hj (aL (nz hm) (ai _ hj (aL (nz hm) (aL hb (ai _ hj ?_))))));refine ab mu (ab q7 ?_);exact h (r % many) (r / many) n (TJ _) (W0 r hm)
theorem t7 {ne j many:Nat}{cs:List Int}{i:Nat}{cell:Int}(hm:0<many)(Bc:many<=1000)(hc:cs.length<=63)(hj:H j=some (pA cs (i+1) 0))
 (h:∀(k r':Nat) n',n<=n'->k<many->Q (.int k) (upd H j (pA cs (i+1) r')) n'):
 kN G d [.ite (.gx .Or [.cmp .GtE (.var 3) (.bi .len [.var 2]),.cmp .Lt (.bi .abs [.var 4]) (.bin .Pow (.int 10) (.int 18))]) [.ret (.bin .Mod (.var 4) (.var 1))] [],.asg (.sub (.var 0) (.int 2)) (.bin .Sub (.bi .abs [.var 4]) (.bin .Pow (.int 10) (.int 18)))]
 [some (.ref j),some (.int many),some (.ag (bq cs)),some (.int i),some (.int cell),none] H n (fun ρ1 H1 n1=>WB G d ne [.asg (.var 5) (.bin .Mod (.sub (.var 0) (.int 2)) (.var 1)),.asg (.sub (.var 0) (.int 2)) (.bin .FloorDiv (.sub (.var 0) (.int 2)) (.var 1)),.ret (.var 5)] ρ1 H1 n1 Q) Q:=by
 have hl:(bq cs).length<=16777216:=by unfold bq;refine ab (TH ..) ?_;exact TF hc (by decide)
 refine ah (AO (a:=cell) hm) fun k hk bO=>?_;have hr:Q (.int (cell.fmod many)) H n:=by
  have:=h k 0 n (TJ _) bO;rw [show upd H j (pA cs (i+1) 0)=H from funext fun b=>by
   unfold upd
   by_cases e:b=j
   ·exact ab (if_pos e) (ab e (ab hj rfl))
   ·exact ab (if_neg e) rfl] at this
  refine ab hk ?_;exact this
 refine aV hl (br (fun O=>aL (nz hm) hr) fun O=>⟨by decide,by decide,br (fun O=>aL (nz hm) hr) fun e=>⟨by decide,by decide,ai _ hj ?_⟩⟩);obtain ⟨r',Nq⟩:∃r':Nat,(if cell<0 then -cell else cell) - 10 ^ (18:Int).toNat=(r':Int):=⟨((if cell<0 then -cell else cell) - 10 ^ (18:Int).toNat).toNat,(VU (Int.sub_nonneg.mpr (U2.mp (of_decide_eq_false e)))).symm⟩;refine ab Nq ?_;refine t6 ok fn hm Bc ae fun k G1 n' jm hk=>?_;refine ab aX ?_;exact h k G1 n' jm hk
theorem uN {j many m:Nat}(hd:1<=d)(hm:0<many)(Bc:many<=1000)(hm3:m<=900)(hj:i8 H j m)(h:∀(k:Nat) J n',n<=n'->k<many->i8 (upd H j J) j (m+1)->Q (.int k) (upd H j J) n'):aE G d 30 [.ref j,.int many] H n Q:=by
 refine mN hj fun cs i r hj hc hi=>?_;have hl:(bq cs).length<=16777216:=by unfold bq;refine ab (TH ..) ?_;exact TF hc (by decide)
 have fin:∀n1,n<=n1->∀i',i'<=m+1->∀(k r':Nat) n',n1<=n'->k<many->Q (.int k) (upd H j (pA cs i' r')) n':=fun n1 h1 i' Q1 k r' n' jm hk=>h k _ n' (TF h1 jm) hk (lW cs i' r' ae hc Q1);refine aF ok fn.f30 hd rfl fun d d1 ne aJ=>ai _ hj (ai _ hj (ai _ hj (br (fun e=>?_) fun e=>t6 ok fn hm Bc hj (fin ne aJ i (TY hi)))));have hr:r=0:=Int.ofNat.inj (SK.int.inj (of_decide_eq_true e));subst hr;refine (ai _ hj (aV hl (br (fun c=>?_) fun c=>?_)))
 ·have bO:i<cs.length:=by
   have:=UH.mp (of_decide_eq_true c);unfold bq at this;rwa [TH] at this
  refine dh (tO bO) (aV hl (t7 ok fn hm Bc hc ae fun k r' n' jm hk=>?_));refine ab aX ?_;exact fin ne aJ (i+1) (Um hi) k r' n' jm hk
 ·have mid:∀cell:Int,kN G d [.ite (.gx .Or [.cmp .GtE (.var 3) (.bi .len [.var 2]),.cmp .Lt (.bi .abs [.var 4]) (.bin .Pow (.int 10) (.int 18))]) [.ret (.bin .Mod (.var 4) (.var 1))] [],.asg (.sub (.var 0) (.int 2)) (.bin .Sub (.bi .abs [.var 4]) (.bin .Pow (.int 10) (.int 18)))]
   [some (.ref j),some (.int many),some (.ag (bq cs)),some (.int i),some (.int cell),none] (upd H j (pA cs (i+1) 0)) ne (fun ρ1 H1 n1=>WB G d ne [.asg (.var 5) (.bin .Mod (.sub (.var 0) (.int 2)) (.var 1)),.asg (.sub (.var 0) (.int 2)) (.bin .FloorDiv (.sub (.var 0) (.int 2)) (.var 1)),.ret (.var 5)] ρ1 H1 n1 Q) Q:=fun cell=>t7 ok fn hm Bc hc ae fun k r' n' jm hk=>by
    refine ab aX ?_;exact fin ne aJ (i+1) (Um hi) k r' n' jm hk
  have vD:(!V.eqv (.ag (bq cs)) (.ag []))=true->0<cs.length:=fun q=>by
   cases cs with
   | nil=>injection q
   | cons=>exact Vb _
  have aI:(bq cs).length=cs.length:=TH ..;refine ⟨.of_left (by decide),y0 (TF hi (TF hm3 (by decide))),aL (jW _) (aV yi (br (fun c2=>?_) fun c2=>mid _))⟩;have hp:=vD c2;refine aV hl (aL (nz (aI▸hp)) (dh ((congrArg (DE _) mu).trans (tO (aI▸W0 i (aI▸hp)))) (aV hl (mid _))))
end
theorem rS {α β:Type}{f:α->β}{l' m:List β}(h:l'.Perm m):∀{l:List α},m=l.map f->∃Pz:List α,Pz.Perm l/\l'=Pz.map f:=by
 induction h with
 | nil=>intro l e;exact (ai [] ((WM.mp e.symm)▸ .refl _) rfl)
 | cons x _ ih=>
  intro l e;refine cy (V7.mp e.symm) fun a l1 iq h2=>?_;subst iq;refine P7 (ih h2.symm) fun Pz p=>?_;exact (ai (a::Pz) (p.cons a) rfl)
 | swap x y l=>
  intro l e;refine cy (V7.mp e.symm) fun a l1 lu h2=>?_;subst lu;refine cy (V7.mp h2) fun b l2 zc h3=>?_;subst zc;exact (ai (b::a::l2) (.swap ..) (by refine bk h3 ?_;rfl))
 | trans _ _ Rx NH=>
  intro l e;refine ah (NH e) fun l2 p2 e2=>?_;refine ah (Rx e2) fun l1 p1 e1=>?_;exact (ai l1 (p1.trans p2) e1)
noncomputable def aQ (ps:List PR):List (SK × V):=ps.map fun p=>(p.1,V.int p.2)
theorem dz (ps:List PR):(aQ ps).map (·.1)=ps.map T8:=Ua ..
theorem e7 {ps:List PR}(hn:(ps.map T8).Nodup):∀p∈ps,bw (aQ ps) p.1=some (.int p.2):=by
 induction ps with
 | nil=>intro p h;exact nomatch h
 | cons q ps ih=>
  intro p hp;obtain ⟨h1,h2⟩:=U8.mp hn;show Vm p.1 ((q.1,V.int q.2)::aQ ps)=_;rcases TN.mp hp with rfl | hp
  ·exact Vi
  ·rw [Ue,beq_eq_false_iff_ne.mpr fun (e:p.1=q.1)=>h1 (by refine bk e ?_;exact TV hp)];exact ih h2 p hp
theorem dD {w:Bool}{ps:List PR}{k:SK}(h:Kd w ps)(hk:k.tag=kt w):aR (aQ ps) k=true:=Ut.mpr fun e he=>by
 refine bY (TX.mp he) fun p hp=>?_;exact beq_iff_eq.mpr ((h p hp).trans hk.symm)
structure Dn (w:Bool)(ps:List PR):Prop where
 kd:Kd w ps
 nd:(ps.map T8).Nodup
 eU:ps.length<64
theorem xf {w:Bool}{ps:List PR}(h:Dn w ps):ju (ps.map T8):=⟨fun x hx y hy=>by
  refine bY (TX.mp hx) fun p hp=>?_;refine bY (TX.mp hy) fun q hq=>?_;exact (h.kd p hp).trans (h.kd q hq).symm,by refine ab (TH ..) ?_;exact h.eU⟩
theorem lQ {w:Bool}{ps:List PR}(h:Dn w ps){ks:List SK}(hp:ks.Perm (ps.map T8))(hs:dI ks):∃qs:List PR,qs.Perm ps/\ks=qs.map T8/\fq qs:=by
 refine ah (rS hp rfl) fun qs hq oB=>?_;subst oB;refine bE (kn (w:=w) (ps:=qs) (.refl _) (by refine ab Ua ?_;exact hs) ((hq.map T8).nodup_iff.mpr h.nd) fun p hp=>h.kd p (hq.mem_iff.mp hp)) fun rs h1 h2 h3=>?_;refine (bW rs (h1.trans hq) ?_ h3);have:=congrArg (Xd T8) h2;rwa [Ua,Ua] at this
section
variable {G:aA}{d:Nat}{H:AH}{n:Nat}{Q:KV}{w:Bool}(ok:aZ G)(fn:fJ G)
include ok fn
theorem Qo {v:V}{ps:List PR}(hd:1<=d)(hh:Dn w ps)(hv:cO H v (aQ ps))(h:∀qs n',n<=n'->qs.Perm ps->fq qs->Q (.ag (qs.map aB)) H n'):aE G d 32 [v] H n Q:=
 aF ok fn.f32 hd rfl fun d d1 ne aJ=>by
  have go:mL H v fun es=>ju (es.map (·.1))/\∀jE,jE.Perm (es.map (·.1))->dI jE->∀n2,ne<=n2->dC (Us (jE.map V.sk).length 16777216) (fg (fun x H n K O=>Dy v x H n fun y H n=>K (.tup [x,y]) H n) (jE.map V.sk) H n2 fun vs H2 n2=>Q (.ag vs) H2 n2):=hv.DT ⟨by refine ab (dz ..) ?_;exact xf hh,fun jE hp hs n2 h2=>by
   rw [dz] at hp;refine bE (lQ hh hp hs) fun qs hq rW yK=>?_;subst rW;refine aV (by refine ab (TH ..) (ab (TH ..) (ab (hq.length_eq ..) ?_));exact TF (Ud hh.eU) (by decide)) ?_;refine ab Ua ?_;refine cx aB _ qs (fun p hp n3 K K2 h3 hK=>hv.sub (aL (dD hh.kd (hh.kd p (hq.mem_iff.mp hp))) (dh (e7 hh.nd p (hq.mem_iff.mp hp)) (hK n3 (TJ _))))) fun n3 h3=>h qs n3 (TF aJ (TF h2 h3)) hq yK⟩
  rcases hv with ⟨a,rfl⟩ | ⟨a,rfl,ha⟩
  ·exact go
  ·exact go
end
noncomputable def NT (H:AH):Nat->V->List V->Prop
 | 0,x,l=>∃es,cO H x es/\aR es (.str "Kids")=true/\bw es (.str "Kids")=none/\l=[x]
 | e+1,x,l=>∃es,∃L:List (V × List V),cO H x es/\aR es (.str "Kids")=true/\bw es (.str "Kids")=some (.ag (L.map T8))/\(∀p∈L,NT H e p.1 p.2)/\l=x::L.flatMap Vq
section
variable {G:aA}{d:Nat}{H:AH}{n:Nat}{Q:KV}{w lim:Bool}(ok:aZ G)(fn:fJ G)
include ok fn
theorem Hz {r:Nat}(hd:1<=d)(hr:r<19)(h:∀k n',n<=n'->k.tag=kt w->Q (.sk k) H n'):aE G d 31 [.str (wd w),.int r] H n Q:=
 aF ok fn.f31 hd rfl fun d d1 ne aJ=>by
  cases w with
  | true=>
   refine (ai (.int (65+(r:Int).fmod 3)) rfl ?_);refine ab (show (r:Int).fdiv 3=(r / 3:Nat) from q7) ?_;refine ⟨Ug _,by exact eO (lD ((r:Nat):Int) (((r / 3):Nat):Int)) [(1,.add bg bD,.num 19),(2,cG,dT),(1,.mulL 3 dT,bg)] dT (.num 1000) rfl (Ul.mpr hr) (Ug (r / 3)) (Ul.mpr (WV r 3)),aV ?_ (du ((Up (r / 3) (65+(r:Int).fmod 3))++[97+(r:Int)]) ?_ ?_ ?_ (h _ ne aJ rfl))⟩
   ·refine ab (V4 ..) (ab (Int.toNat_natCast ..) ?_);show r / 3+1<=16777216;exact aH (bc r (r / 3)) [(1,.add aq ay,.num 19),(1,.mulL 3 aw,aq)] (.add aw ay) (.num 16777216) rfl hr (WV r 3)
   ·unfold bq;refine ab TR (ab List.map_replicate ?_);rfl
   ·intro i hi;rcases T6.mp hi with hi | hi
    ·refine ab ((List.mem_replicate.mp hi).2) (ab (show (r:Int).fmod 3=(r % 3:Nat) from mu) ?_);exact ⟨eO (cP (((r % 3):Nat):Int)) [(1,cG,bg)] cG (.add (.num 65) bg) rfl (Ug (r % 3)),UI.mpr (eO (cP (((r % 3):Nat):Int)) [(1,.add bg bD,.num 3)] (.add (.add (.num 65) bg) bD) (.num 256) rfl (Ul.mpr (W0 r (y:=3) (by decide))))⟩
    ·refine ab (TK.mp hi) ?_;exact ⟨eO (cP ((r:Nat):Int)) [(1,cG,bg)] cG (.add (.num 97) bg) rfl (Ug r),UI.mpr (eO (cP ((r:Nat):Int)) [(1,.add bg bD,.num 19)] (.add (.add (.num 97) bg) bD) (.num 256) rfl (Ul.mpr hr))⟩
   ·refine ab TG (ab V4 ?_);show r / 3+1<=1000;exact aH (bc r (r / 3)) [(1,.add aq ay,.num 19),(1,.mulL 3 aw,aq)] (.add aw ay) (.num 1000) rfl hr (WV r 3)
  | false=>
   refine ⟨by decide,by decide,?_⟩;have hm:Yn ((r:Int).fmod 2) 2=some (r % 2):=by
    refine ab (show (r:Int).fmod 2=(r % 2:Nat) from mu) ?_;rcases Nat.mod_two_eq_zero_or_one r with e | e <;> refine ab e ?_ <;> rfl
   have hb:ZU ((r:Int) - 9) (if r % 2=0 then 1 else 10 ^ (30:Int).toNat):=.of_left (intBits_le_iff.mpr (UB ((by decide:∀r:Nat,r<19->((r:Int) - 9).natAbs<=9) r hr) (by decide)));refine dh hm (dh (x:=.int (if r % 2=0 then 1 else 10 ^ (30:Int).toNat)) ?_ ?_)
   rotate_left
   ·exact ⟨hb,h _ ne aJ rfl⟩
   rcases Nat.mod_two_eq_zero_or_one r with e | e <;> refine ab e ?_ <;> rfl
theorem c33:∀{e:Nat} {d n:Nat} {Q:KV} {lim:Bool} {t:Tr e},e+1<=d->(e=0\/Ne e t)->(av e t).length<=1000->(∀n',n<=n'->Q (.int ((e:Int)+1)) H n')->aE G d 33 [aS w lim e t] H n Q:=by
 intro e
 induction e with
 | zero=>
 exact fun {O O O O O} hd O O h=>aF ok fn.f33 hd rfl fun d d1 ne aJ=>aL ax (fB IT (h ne aJ))
 | succ e ih=>
 exact fun {O O O O t} hd hn hz h=>aF ok fn.f33 hd rfl fun d d1 ne aJ=>by
  obtain ⟨a,ks⟩:=t;have hn:Ne (e+1) (a,ks):=hn.elim (fun e=>nomatch e) id;have fW:ks.length<=1000:=TF (dO ks hn.2) hz;refine eJ (UG hn.1) fun k r e0=>?_;have hg:(ks.map (aS w true e))[0]? =some (aS w true e k):=by refine ab (show ks=k::r from e0) ?_;rfl
  have hkz:(av e k).length<=1000:=by
   have:(aM e ks).length<=1000:=hz;rw [show ks=k::r from e0] at this;exact TF (TG▸TZ (av e k).length (aM e r).length) this
  refine aL ax (jU NI (aL ax (dh iI (dh hg (aV (by refine ab (TH ..) ?_;exact TF fW (by decide)) (ih (lim:=true) d1 (.inr (hn.2 k (e0▸TM ..))) hkz fun n' jm=>?_))))));have:=h n' (TF aJ jm);rw [show ((e+1:Nat):Int)+1=1+((e:Int)+1) by exact We (eO (cP ((e:Nat):Int)) [] (.add (.add bg bD) bD) (.add bD (.add bg bD)) rfl) (eO (cP ((e:Nat):Int)) [] (.add bD (.add bg bD)) (.add (.add bg bD) bD) rfl)] at this;exact this
theorem O1:∀{e:Nat} {d n:Nat} {Q:KV} {x:V} {l:List V},e+1<=d->NT H e x l->l.length<=1000->(∀n',n<=n'->Q (.ag l) H n')->aE G d 34 [x] H n Q:=by
 intro e
 induction e with
 | zero=>
 exact fun {O O O x O} hd h0 hz h=>mM h0 fun es hx ht hk hl=>aF ok fn.f34 hd rfl fun d d1 ne aJ=>hx.get (hx.DT (aL ht (RI hk fun n1 h1=>q9 (by
   have:=h n1 (TF aJ h1);rw [hl] at this;exact this))))
 | succ e ih=>
 exact fun {O O O x O} hd h0 hz h=>qQ h0 fun es L hx ht hk hL hl=>aF ok fn.f34 hd rfl fun d d1 ne aJ=>hx.get (hx.DT (aL ht (K8 hk fun n1 h1=>by
   refine nA (α:=List V × Option V) T8 L (fun s=>[some x,some (.ag s.1),s.2]) (fun O=>H) (fun r s=>s.1++r.flatMap Vq=x::L.flatMap Vq/\∀p∈r,p∈L) ([x],none) rfl rfl rfl ⟨rfl,fun O h=>h⟩ (fun p r s n2 h2 hs=>?_) fun s n2 h2 hs=>?_
   ·rw [hl, <- hs.1,Uu,TG,TG] at hz;refine ih d1 (hL p (hs.2 p (TM ..))) (aH (bC s.fst.length p.snd.length ((VH Vq r).length)) [(1,.add aq (.add aw aN),.num 1000)] aw (.num 1000) rfl hz) fun n3 h3=>aV (aH (bC s.fst.length p.snd.length ((VH Vq r).length)) [(1,.add aq (.add aw aN),.num 1000)] (.add aq aw) (.num 16777216) rfl hz) (sI (s.1++p.2,_) rfl rfl (TF h2 h3) (by refine bk (hs.1 ..) (ab (T5 ..) ?_);rfl) (fun q hq=>hs.2 q (TP _ hq)))
   ·have:=h n2 (TF aJ (TF h1 h2));rw [hl, <- hs.1,List.flatMap_nil,TU] at this;exact this)))
end
noncomputable def mU (es:List (SK × V))(b:Bool):List (SK × V):=bif b then es++[(.str "Mark",.int 1)] else es
noncomputable def qx (H0:AH)(M:Addr->Bool):AH:=fun a=>(H0 a).map fun o=>match o with
 | .dict es=>.dict (mU es (M a))
 | o=>o
structure zJ (H0:AH)(a:Addr)(es:List (SK × V)):Prop where
 at_:H0 a=some (.dict es)
 tag:aR es (.str "Mark")=true
 no:bw es (.str "Mark")=none
 eU:es.length<=900
theorem pg {l:List Addr}{a b:Addr}:(l++[a]).contains b=(l.contains b || b==a):=by
 refine ab List.contains_append ?_
 congr 1
 exact WY _
section
variable {H0:AH}{M:Addr->Bool}{a:Addr}{es:List (SK × V)}
theorem lp (h:H0 a=some (.dict es)):qx H0 M a=some (.dict (mU es (M a))):=by unfold qx;refine ab h ?_;rfl
theorem ix {b:Bool}{s:Str}(h:aR es (.str s)=true):aR (mU es b) (.str s)=true:=by
 cases b with
 | false=>exact h
 | true=>exact List.all_append.trans (by refine ab (show (es.all fun p=>p.1.tag==(SK.str s).tag)=true from h) ?_;rfl)
theorem sP {b:Bool}:bw (mU es b) (.str "Kids")=bw es (.str "Kids"):=by
 cases b with
 | false=>rfl
 | true=>
  show Vm _ (es++_)=Vm _ es;refine ab VZ ?_
  cases Vm (SK.str "Kids") es with
  | none=>rfl
  | some=>rfl
theorem sQ {b:Bool}(h:bw es (.str "Mark")=none):(bw (mU es b) (.str "Mark")).isSome=b:=by
 cases b with
 | false=>refine ab (show mU es false=es from rfl) (ab h ?_);rfl
 | true=>
  show (Vm _ (es++_)).isSome=true;refine ab VZ (ab (show Vm (SK.str "Mark") es=none from h) (ab Vi ?_));rfl
theorem gN {k:SK}:∀{es:List (SK × V)},(es.any fun e=>e.1=k)=(bw es k).isSome
 | []=>rfl
 | e::es=>by
  show _=(Vm k (e::es)).isSome;refine ab U6 (ab Ue (ab gN ?_))
  by_cases q:e.1=k
  ·refine ab (decide_eq_true q ..) (ab (q ..) (ab (beq_self_eq_true ..) ?_));rfl
  ·refine ab (decide_eq_false q) (ab (beq_eq_false_iff_ne.mpr fun e2=>q e2.symm) ?_);rfl
theorem mV {b:Bool}(h:bw es (.str "Mark")=none):bM (mU es b) (.str "Mark") (.int 1)=mU es true:=by
 have hn:∀e∈es,¬e.1=SK.str "Mark":=fun e he q=>by
  have:(es.any fun e=>e.1=SK.str "Mark")=true:=Vr.mpr (ai e he (decide_eq_true q));rw [gN,h] at this;injection this
 unfold bM;refine ab gN (ab (sQ h) ?_)
 cases b with
 | false=>rfl
 | true=>
  refine ab (if_pos rfl) ?_;show (es++[_]).map _=es++[_];refine ab TR ?_
  congr 1
  exact (UK fun e he=>if_neg (hn e he)).trans (Wr es)
theorem CY (h:H0 a=some (.dict es)){M':Addr->Bool}(hM:∀b,M' b=(M b || b==a)):upd (qx H0 M) a (.dict (mU es true))=qx H0 M':=funext fun b=>by
 by_cases e:b=a
 ·exact ab (e ..) (ab (ae ..) (ab (lp h ..) (ab (hM a ..) (ab (beq_self_eq_true ..) (ab (Bool.or_true ..) rfl)))))
 ·refine ab (ak e) ?_;unfold qx;exact ab (hM b ..) (ab (beq_eq_false_iff_ne.mpr e ..) (ab (WY ..) rfl))
theorem NT.mk:∀{e:Nat} {x:V} {l:List V},NT H0 e x l->NT (qx H0 M) e x l:=by
 intro e
 induction e with
 | zero=>
 exact fun {x O} h0=>by
  refine mM h0 fun es hx ht hk hl=>?_;rcases hx with ⟨a,rfl⟩ | ⟨a,rfl,ha⟩
  ·exact (du es .frozen ht hk hl)
  ·exact (du _ (.made (lp ha)) (ix ht) (sP.trans hk) hl)
 | succ e ih=>
 exact fun {x O} h0=>by
  refine qQ h0 fun es L hx ht hk hL hl=>?_;rcases hx with ⟨a,rfl⟩ | ⟨a,rfl,ha⟩
  ·exact (o6 es L .frozen ht hk (fun p hp=>ih (hL p hp)) hl)
  ·exact (o6 _ L (.made (lp ha)) (ix ht) (sP.trans hk) (fun p hp=>ih (hL p hp)) hl)
end
section
variable {G:aA}{d:Nat}{n:Nat}{Q:KV}(ok:aZ G)(fn:fJ G)
include ok fn
theorem c35 {H0:AH}{M:Addr->Bool}{e:Nat}{x:V}{as:List Addr}(hd:e+2<=d)(hx:NT H0 e x (as.map .ref))(hm:∀a∈as,∃es,zJ H0 a es)(hz:as.length<=1000)
 (h:∀n',n<=n'->Q (.int ((as.countP fun a=> !M a):Nat)) (qx H0 fun a=>M a || as.contains a) n'):aE G d 35 [x] (qx H0 M) n Q:=
 aF ok fn.f35 hd rfl fun d d1 ne aJ=>O1 ok fn d1 hx.mk (by refine ab (TH ..) ?_;exact hz) fun n1 h1 n2 h2=>aV (by refine ab (TH ..) ?_;exact TF hz (by decide)) (cA (fun a=> !M a) V.ref V.ref as (fun a ha n3 K K2 h3 hT hF=>by
   obtain ⟨es,vz⟩:=hm a ha;refine (ai _ (lp vz.at_) (aL (ix vz.tag) ?_));refine ab (sQ vz.no) ?_;exact br (fun e=>hT e n3 (TJ _)) fun e=>hF e n3 (TJ _)) fun n3 h3 n4 h4=>by
  refine nA (α:=List Addr × Option V) V.ref (as.filter fun a=> !M a) (fun s=>[some x,s.2,some (.ag ((as.filter fun a=> !M a).map .ref))]) (fun s=>qx H0 fun a=>M a || s.1.contains a) (fun r s=>s.1++r=as.filter fun a=> !M a) ([],none) rfl rfl ?_ rfl (fun a r s n5 h5 hs=>?_) fun s n5 h5 hs=>?_
  ·exact congrArg (qx H0) (funext fun a=>(WY _).symm)
  ·obtain ⟨es,vz⟩:=hm a (UE.mp (hs▸TQ _ (TM ..))).1;refine (ai _ (lp vz.at_) (aL (ix vz.tag) (aV ?_ (du (s.1++[a],_) rfl ?_ h5 (by refine bk (hs ..) (ab (T5 ..) ?_);rfl)))))
   ·cases (M a || s.1.contains a) with
    | false=>exact TF vz.eU (by decide)
    | true=>
     show (es++[_]).length<=1000;refine ab TG ?_;exact TF (Um vz.eU) (by decide)
   ·refine ab (mV vz.no) ?_;exact CY vz.at_ fun b=>by
     show (M b || (s.1++[a]).contains b)=_;refine ab (Bool.or_assoc ..) ?_
     congr 1
     exact pg
  ·rw [TU] at hs;refine aV (by refine ab (TH ..) ?_;exact TF (UX _ _) (TF hz (by decide))) ?_;have:=h n5 (TF aJ (TF h1 (TF h2 (TF h3 (TF h4 h5)))));refine ab (TH ..) (bk (List.countP_eq_length_filter ..) ?_);refine ab hs ?_;rw [show (fun a=>M a || as.contains a)=fun a=>M a || (as.filter fun a=> !M a).contains a from funext fun a=>by
    cases c:M a with
    | true=>rfl
    | false=>rw [VX,VX,VK,UQ,UQ,UE,c];exact ⟨fun h=>⟨h,rfl⟩,fun h=>h.1⟩] at this
   exact this)
end
noncomputable def NO:V->Str
 | .sk _=>"int"
 | .ag _=>"array"
 | .az _ _=>"dict"
 | .cU c _=>bif c==2 then "string" else "ref"
 | _=>""
inductive Tl:Nat->V->V->Prop
 | int {k:Nat} {i:Int}:Tl k (.int i) (.tup [.str "int",.int i])
 | str {k:Nat} {b:Array UInt8}:Tl k (mi true (.bytes b)) (.tup [.str "string",.bytes b])
 | ref {k:Nat} {i:Int}:Tl k (oC i) (.tup [.str "ref",.int i,.int 0])
 | arr {k:Nat} {L:List (V × V)}:(∀p∈L,Tl k p.1 p.2)->L.length<=900->Tl (k+1) (.ag (L.map T8)) (.tup (.str "array"::L.map Vq))
 | Gg {k:Nat} {a:Addr} {es:List (SK × V)} {L:List (Str × V × V)}:(∀q∈L,Tl k q.2.1 q.2.2)->(∀q∈L,bw es (.str q.1)=some q.2.1)->(∀s,aR es (.str s)=true)->ju (es.map (·.1))->(∀ks,ks.Perm (es.map (·.1))->dI ks->ks=L.map fun q=>.str q.1)->L.length<=900->
   Tl (k+1) (.az a es) (.tup (.str "dict"::L.map fun q=>.tup [.str q.1,q.2.2]))
theorem Tl.OE {k:Nat}{v r:V}(h:Tl k v r):(!v.isNone)=true:=by cases h <;> rfl
section
variable {G:aA}{d:Nat}{H:AH}{n:Nat}{Q:KV}(ok:aZ G)(fn:fJ G)
include ok fn
theorem c0 {k:Nat}{v r:V}(hd:1<=d)(hv:Tl k v r)(h:∀n',n<=n'->Q (.str (NO v)) H n'):aE G d 0 [v] H n Q:=
 aF ok fn.f0 hd rfl fun d d1 ne aJ=>by
  cases hv with
  | int=>exact h ne aJ
  | str=>exact h ne aJ
  | ref=>exact h ne aJ
  | arr=>exact h ne aJ
  | Gg=>exact h ne aJ
theorem c2 {k:Nat}{v r:V}(hv:Tl k v r):∀{d n:Nat} {Q:KV},k+2<=d->(∀n',n<=n'->Q r H n')->aE G d 2 [v] H n Q:=by
 induction hv with
 | @int k i=>exact fun hd h=>aF ok fn.f2 (kd:=k+1) hd rfl fun d d1 ne aJ=>c0 ok fn (TF (Uc 1 k) d1) (Tl.int (k:=0)) fun n1 h1=>aF ok fn.f1 (TF (Uc 1 k) d1) rfl fun d d2 n2 h2=>h n2 (TF aJ (TF h1 h2))
 | @str k i=>exact fun hd h=>aF ok fn.f2 (kd:=k+1) hd rfl fun d d1 ne aJ=>c0 ok fn (TF (Uc 1 k) d1) (Tl.str (k:=0)) fun n1 h1=>aF ok fn.f1 (TF (Uc 1 k) d1) rfl fun d d2 n2 h2=>h n2 (TF aJ (TF h1 h2))
 | @ref k i=>exact fun hd h=>aF ok fn.f2 (kd:=k+1) hd rfl fun d d1 ne aJ=>c0 ok fn (TF (Uc 1 k) d1) (Tl.ref (k:=0)) fun n1 h1=>aF ok fn.f1 (TF (Uc 1 k) d1) rfl fun d d2 n2 h2=>h n2 (TF aJ (TF h1 h2))
 | @arr k L hL hz ih=>
  exact fun hd h=>aF ok fn.f2 (kd:=k+2) hd rfl fun d d1 ne aJ=>c0 ok fn (TF (aH (bI k) [] ay (.add aq ia) rfl) d1) (Tl.arr hL hz) fun n1 h1=>by
   refine fun n2 h2=>aV (by refine ab (TH ..) ?_;exact TF hz (by decide)) (cx Vq T8 L (fun p hp n3 K K2 h3 hK=>ih p hp d1 hK) fun n3 h3=>aV (by refine ab (TH ..) ?_;exact TF hz (by decide)) (aV ?_ (h n3 (TF aJ (TF h1 (TF h2 h3))))));refine ab (TH ..) ?_;show 1+L.length<=1000;exact aH (bI L.length) [(1,aq,.num 900)] (.add ay aq) (.num 1000) rfl hz
 | @Gg k a es L hL hg ht hk hs hz ih=>
  exact fun hd h=>aF ok fn.f2 (kd:=k+2) hd rfl fun d d1 ne aJ=>c0 ok fn (TF (aH (bI k) [] ay (.add aq ia) rfl) d1) (Tl.Gg (a:=a) hL hg ht hk hs hz) fun n1 h1=>by
   refine ⟨hk,fun ks hp w5 n2 h2=>?_⟩;refine ab (hs ks hp w5) (ab Ua ?_);have e:∀p:Str × V × V->Bool,(∀q∈L,p q=true)->L.filter p=L:=fun p h=>VV.mpr h;refine aV (by refine ab (TH ..) ?_;exact TF hz (by decide)) (cA (fun O=>true) (fun q:Str × V × V=>V.tup [.str q.1,q.2.2]) (V.sk∘fun q:Str × V × V=>SK.str q.1) L (fun q hq n3 K K2 h3 hT hF=>aL (ht _) (dh (hg q hq) (jU (hL q hq).OE (aL (ht _) (dh (hg q hq) (ih q hq d1 fun n4 h4=>hT rfl n4 h4)))))) fun n3 h3=>?_);refine ab (e _ fun O O=>rfl) ?_;refine aV (by refine ab (TH ..) ?_;exact TF hz (by decide)) (aV ?_ (h n3 (TF aJ (TF h1 (TF h2 h3)))));refine ab (TH ..) ?_;show 1+L.length<=1000;exact aH (bI L.length) [(1,aq,.num 900)] (.add ay aq) (.num 1000) rfl hz
end
noncomputable def Kn (i:Int):V:=.tup [.str "int",.int i]
noncomputable def uG (w:Bool)(k:SK):V:=.tup [.str (bif w then "string" else "int"),.sk k]
noncomputable def wy (l:List V):V:=.tup (.str "array"::l)
noncomputable def wz (lim first:Bool)(rl:V)(key:Str)(rv:V):V:=.tup (.str "dict"::(bif lim then (bif first then [.tup [.str key,rv],.tup [.str "Limits",rl]] else [.tup [.str "Limits",rl],.tup [.str key,rv]]) else [.tup [.str key,rv]]))
noncomputable def lA (w:Bool)(ps:List PR):V:=wy [uG w (fk ps),uG w (lk ps)]
noncomputable def wA (w:Bool)(ps:List PR):V:=wy (ps.flatMap fun p=>[uG w p.1,Kn p.2])
noncomputable def uH (w:Bool):Bool->(d:Nat)->Tr d->V
 | lim,0,t=>wz lim false (lA w t.2) (wd w) (wA w t.2)
 | lim,d+1,t=>wz lim true (lA w (t.2.flatMap (av d))) "Kids" (wy (t.2.map (uH w true d)))
theorem sj {k:Nat}{a:Addr}{key:Str}{v rv:V}(hv:Tl k v rv):Tl (k+1) (.az a [(.str key,v)]) (.tup [.str "dict",.tup [.str key,rv]]):=
 Tl.Gg (L:=[(key,v,rv)]) (fun q hq=>TK.mp hq▸hv) (fun q hq=>TK.mp hq▸Vi) (fun s=>rfl) ⟨fun x hx y hy=>TK.mp hx▸TK.mp hy▸rfl,Uh rfl⟩ (fun ks hp O=>WO.mp hp) (Uh rfl)
theorem Cv {α:Type}{l:List α}{x y:α}(h:l.Perm [x,y]):l=[x,y]\/l=[y,x]:=by
 match l,h.length_eq with
 | [a,b],_=>
  have ha:=h.mem_iff.mp (TM (a:=a) (l:=[b]));rcases TN.mp ha with rfl | ha
  ·exact .inl (by exact ab (WO.mp ((List.perm_cons a).mp h)) rfl)
  ·cases TK.mp ha
   exact .inr (by exact ab (WO.mp ((List.perm_cons _).mp (h.trans (.swap ..)))) rfl)
theorem wx {k:Nat}{a:Addr}{x y:Str}{vx vy rx ry:V}{es:List (SK × V)}(hx:Tl k vx rx)(hy:Tl k vy ry)(bO:cL (.str x) (.str y)=true)(h1:bw es (.str x)=some vx)(h2:bw es (.str y)=some vy)(hp:(es.map (·.1)).Perm [.str x,.str y]):
 Tl (k+1) (.az a es) (.tup [.str "dict",.tup [.str x,rx],.tup [.str y,ry]]):=by
 have hm:∀q∈es.map (·.1),q=.str x\/q=.str y:=fun q hq=>by
  rcases TN.mp (hp.mem_iff.mp hq) with h | h
  ·exact .inl h
  ·exact .inr (TK.mp h)
 have ht:∀q∈es.map (·.1),q.tag=1:=fun q hq=>by rcases hm q hq with rfl | rfl <;> rfl
 refine Tl.Gg (L:=[(x,vx,rx),(y,vy,ry)]) (fun q hq=>?_) (fun q hq=>?_) (fun s=>Ut.mpr fun e he=>beq_iff_eq.mpr (ht e.1 (TV he))) ⟨fun p tM q hq=>(ht p tM).trans (ht q hq).symm,by refine ab hp.length_eq ?_;exact Uh rfl⟩ (fun ks hk hs=>?_) (Uh rfl)
 ·rcases TN.mp hq with rfl | hq
  ·exact hx
  ·refine ab (TK.mp hq) ?_;exact hy
 ·rcases TN.mp hq with rfl | hq
  ·exact h1
  ·refine ab (TK.mp hq) ?_;exact h2
 ·rcases Cv (hk.trans hp) with rfl | rfl
  ·rfl
  ·have:=(Vs.mp hs).1 (.str x) (T1 _);rw [bO] at this;injection this
theorem xQ {k:Nat}{a:Addr}{lim:Bool}{l rl v rv:V}(hl:Tl k l rl)(hv:Tl k v rv):Tl (k+1) (.az a (EL lim l "Kids" v)) (wz lim true rl "Kids" rv):=by
 cases lim with
 | false=>exact sj hv
 | true=>exact wx hv hl (by decide +kernel) rfl rfl (.swap ..)
theorem xR {k:Nat}{a:Addr}{lim w:Bool}{l rl v rv:V}(hl:Tl k l rl)(hv:Tl k v rv):Tl (k+1) (.az a (EL lim l (wd w) v)) (wz lim false rl (wd w) rv):=by
 cases lim with
 | false=>exact sj hv
 | true=>cases w with
  | false=>exact wx hl hv (by decide +kernel) rfl rfl (.refl _)
  | true=>exact wx hl hv (by decide +kernel) rfl rfl (.refl _)
theorem wu {k:Nat}{w:Bool}{key:SK}(h:key.tag=kt w):Tl k (mi w key) (uG w key):=by
 cases w with
 | true=>cases key with
  | bytes b=>exact .str
  | _=>exact nomatch h
 | false=>cases key with
  | int i=>exact .int
  | _=>exact nomatch h
theorem si {k:Nat}{w:Bool}{ps:List PR}(h1:(fk ps).tag=kt w)(h2:(lk ps).tag=kt w):Tl (k+1) (fP w ps) (lA w ps):=
 Tl.arr (L:=[(mi w (fk ps),uG w (fk ps)),(mi w (lk ps),uG w (lk ps))]) (fun p hp=>by
  rcases TN.mp hp with rfl | hp
  ·exact wu h1
  ·refine ab (TK.mp hp) ?_;exact wu h2) (Uh rfl)
theorem sm {k:Nat}{w:Bool}{ps:List PR}(h:Kd w ps)(hz:ps.length<=400):Tl (k+1) (.ag (gj w ps)) (wA w ps):=by
 have:=Tl.arr (k:=k) (L:=ps.flatMap fun p=>[(mi w p.1,uG w p.1),(.int p.2,Kn p.2)]) (fun q hq=>by
  refine ah (Uk.mp hq) fun p hp hq=>?_;rcases TN.mp hq with rfl | hq
  ·exact wu (h p hp)
  ·refine ab (TK.mp hq) ?_;exact .int) (by
  have:(ps.flatMap fun p=>[(mi w p.1,uG w p.1),(V.int p.2,Kn p.2)]).length=2*ps.length:=by
   clear h hz
   induction ps with
   | nil=>rfl
   | cons p ps ih=>
    refine ab Uu (ab TG (ab ih (ab TS ?_)));show 2+2*ps.length=2*(ps.length+1);exact UC (aH (bI ps.length) [] (.add ia (.mulL 2 aq)) (.mulL 2 (.add aq ay)) rfl) (aH (bI ps.length) [] (.mulL 2 (.add aq ay)) (.add ia (.mulL 2 aq)) rfl)
  refine ab this ?_;exact aH (bI ps.length) [(2,aq,.num 400)] (.mulL 2 aq) (.num 900) rfl hz)
 rw [Wv,Wv] at this;exact this
theorem kF {w:Bool}:∀{lim:Bool} {e:Nat} {t:Tr e},(lim=false\/Ne e t)->(e=0\/Ne e t)->Kd w (av e t)->(av e t).length<=400->Tl (2*e+2) (aS w lim e t) (uH w lim e t)
 | lim,0,t,hl,_,hk,hz=>by
  rcases hl with rfl | hn
  ·exact sj (sm hk hz)
  ·exact xR (si (j6 hn hk) (iG hn hk)) (sm hk hz)
 | lim,e+1,t,_,hn,hk,hz=>by
  obtain ⟨a,ks⟩:=t;have hn:Ne (e+1) (a,ks):=hn.elim (fun e=>nomatch e) id;have hzk:∀k∈ks,(av e k).length<=400:=fun k hk=>TF (Vh (by
   refine Dv (V0 hk) fun s t=>?_;show (av e k).Sublist ((s++k::t).flatMap (av e));refine ab T7 (ab Uu ?_);exact (Vz ..).trans (Vu ..))) hz
  have me:Tl (2*e+2+1) (.ag (ks.map (aS w true e))) (wy (ks.map (uH w true e))):=by
   have:=Tl.arr (k:=2*e+2) (L:=ks.map fun k=>(aS w true e k,uH w true e k)) (fun p hp=>by
    refine bY (TX.mp hp) fun k my=>?_;exact kF (.inr (hn.2 k my)) (.inr (hn.2 k my)) (eM hk k my) (hzk k my)) (by refine ab (TH ..) ?_;exact TF (dO ks hn.2) (TF hz (by decide)))
   rw [Ua,Ua] at this;exact this
  exact xQ (si (j6 hn hk) (iG hn hk)) me
noncomputable def pP:(d:Nat)->Tr d->Tr d->Prop
 | 0,t,u=>t.2=u.2
 | d+1,t,u=>∃L:List (Tr d × Tr d),t.2=L.map T8/\u.2=L.map Vq/\∀p∈L,pP d p.1 p.2
theorem pP.av:∀{d:Nat} {t u:Tr d},pP d t u->av d t=av d u
 | 0,_,_,h=>h
 | d+1,t,u,⟨L,h1,h2,h3⟩=>by
  show t.2.flatMap (Internal.av d)=u.2.flatMap (Internal.av d);refine ab (h1 ..) (ab (h2 ..) (ab (UO ..) (ab (UO ..) ?_)));exact ab V5 (ab V5 (ab (UK fun p hp=>(h3 p hp).av) rfl))
theorem pP.Tv {w:Bool}:∀{lim:Bool} {d:Nat} {t u:Tr d},pP d t u->uH w lim d t=uH w lim d u
 | _,0,t,u,h=>by
  show wz _ false (lA w t.2) _ (wA w t.2)=_;refine ab (show t.2=u.2 from h) ?_;rfl
 | _,d+1,t,u,h=>by
  have hp:=h.av;refine bE h fun L h1 h2 h3=>?_;show wz _ true (lA w (t.2.flatMap (Internal.av d))) _ (wy (t.2.map (uH w true d)))=wz _ true (lA w (u.2.flatMap (Internal.av d))) _ (wy (u.2.map (uH w true d)));refine ab (show t.2.flatMap (Internal.av d)=u.2.flatMap (Internal.av d) from hp) (ab h1 (ab h2 (ab Ua (ab Ua ?_))))
  congr 2
  exact UK fun p hp=>(h3 p hp).Tv
theorem kQ:∀{l:List V},(∀x∈l,V.gG x x=true/\V.eqv x x=true)->V.ng l l=true/\V.ma l l=true
 | []=> @fun O=>⟨rfl,rfl⟩
 | x::l=> @fun h=>by
  obtain ⟨h1,h2⟩:=h x (TM ..);obtain ⟨h3,h4⟩:=kQ fun y hy=>h y (TP x hy);constructor
  ·show (V.gG x x&&V.ng l l)=true;refine ab h1 (ab h3 ?_);rfl
  ·show (V.eqv x x&&V.ma l l)=true;refine ab h2 (ab h4 ?_);rfl
theorem qZ {m:Nat}:∀{l:List V},(∀x∈l,x.dep<=m)->V.pj l<=m
 | []=> @fun O=>Ur _
 | x::l=> @fun h=>Nat.max_le.mpr ⟨h x (TM ..),qZ fun y hy=>h y (TP x hy)⟩
structure bZ (m:Nat)(v:V):Prop where
 cmp:V.gG v v=true
 eqv:V.eqv v v=true
 dep:v.dep<=m
theorem bZ.tup {m:Nat}{l:List V}(h:∀x∈l,bZ m x):bZ (m+1) (.tup l):=
 have g:=kQ fun x hx=>⟨(h x hx).cmp,(h x hx).eqv⟩
 ⟨g.1,g.2,Um (qZ fun x hx=>(h x hx).dep)⟩
theorem bZ.ag {m:Nat}{l:List V}(h:∀x∈l,bZ m x):bZ (m+1) (.ag l):=
 have g:=kQ fun x hx=>⟨(h x hx).cmp,(h x hx).eqv⟩
 ⟨g.1,g.2,Um (qZ fun x hx=>(h x hx).dep)⟩
theorem bZ.sk {m:Nat}{k:SK}:bZ m (.sk k):=⟨beq_self_eq_true k.tag,decide_eq_true rfl,Ur _⟩
theorem bZ.mono {m m':Nat}{v:V}(h:bZ m v)(l:m<=m'):bZ m' v:=⟨h.cmp,h.eqv,TF h.dep l⟩
theorem Tl.self {k:Nat}{v r:V}(h:Tl k v r):bZ (2*k+1) r:=by
 induction h with
 | int=>exact (bZ.tup (m:=0) fun x hx=>by rcases TN.mp hx with rfl | hx;exact .sk;refine ab (TK.mp hx) ?_;exact .sk).mono (Uc 1 _)
 | str=>exact (bZ.tup (m:=0) fun x hx=>by rcases TN.mp hx with rfl | hx;exact .sk;refine ab (TK.mp hx) ?_;exact .sk).mono (Uc 1 _)
 | ref=>exact (bZ.tup (m:=0) fun x hx=>by
   rcases TN.mp hx with rfl | hx
   ·exact .sk
   ·rcases TN.mp hx with rfl | hx
    ·exact .sk
    ·refine ab (TK.mp hx) ?_;exact .sk).mono (Uc 1 _)
 | @arr k L _ _ ih=>
  refine (bZ.tup (m:=2*k+1) fun x hx=>?_).mono (aH (bI k) [] (.add (.add (.mulL 2 aq) ay) ay) (.add (.mulL 2 (.add aq ay)) ay) rfl);rcases TN.mp hx with rfl | hx
  ·exact .sk
  ·refine bY (TX.mp hx) fun p hp=>?_;exact ih p hp
 | @Gg k a es L _ _ _ _ _ _ ih=>
  refine (bZ.tup (m:=2*k+2) fun x hx=>?_).mono (aH (bI k) [] (.add (.add (.mulL 2 aq) ia) ay) (.add (.mulL 2 (.add aq ay)) ay) rfl);rcases TN.mp hx with rfl | hx
  ·exact .sk
  ·refine bY (TX.mp hx) fun q hq=>?_;refine bZ.tup (m:=2*k+1) fun y hy=>?_;rcases TN.mp hy with rfl | hy
   ·exact .sk
   ·refine ab (TK.mp hy) ?_;exact ih q hq
theorem bZ.pair {p:PR}:bZ 1 (aB p):=bZ.tup (m:=0) fun x hx=>by
 rcases TN.mp hx with rfl | hx
 ·exact .sk
 ·refine ab (TK.mp hx) ?_;exact .sk
theorem bZ.pairs {ps:List PR}:bZ 2 (.ag (ps.map aB)):=bZ.ag fun x hx=>by
 refine bY (TX.mp hx) fun p O=>?_;exact .pair
noncomputable def bU (k:Nat):List V->List (SK × V)
 | []=>[]
 | x::xs=>(.int ((k:Int)+1),.tup [.int 0,x])::bU (k+1) xs
theorem qG:∀{k:Nat} {xs:List V} {x:V},bU k (xs++[x])=bU k xs++[(.int (((k+xs.length:Nat):Int)+1),.tup [.int 0,x])]
 | k,[],x=>rfl
 | k,y::xs,x=>by
  show _::bU (k+1) (xs++[x])=_::(bU (k+1) xs++_);exact ab (qG ..) (ab (TS ..) (ab (Wi ..) (ab (VM ..) rfl)))
theorem cM:∀{k:Nat} {xs:List V} {i:Int},aR (bU k xs) (.int i)=true
 | _,[],_=>rfl
 | k,_::xs,i=>cM (k:=k+1) (xs:=xs)
theorem oJ:∀{k:Nat} {xs:List V},(bU k xs).length=xs.length
 | _,[]=>rfl
 | k,_::xs=>congrArg (· +1) (oJ (k:=k+1) (xs:=xs))
theorem uD:∀{xs:List V} {k i:Nat},bw (bU k xs) (.int (((k+i:Nat):Int)+1))=(xs[i]?).map fun x=>V.tup [.int 0,x]
 | [],_,_=>rfl
 | x::xs,k,0=>Vi
 | x::xs,k,i+1=>by
  show Vm _ ((SK.int ((k:Int)+1),_)::bU (k+1) xs)=_;refine ab Ue (ab (beq_eq_false_iff_ne.mpr fun e=>by have:=SK.int.inj e;exact TB (eO (lD ((k:Nat):Int) ((i:Nat):Int)) [(1,.add (.add bg (.add dT bD)) bD,.add bg bD),(1,cG,dT)] bD cG rfl (VS this) (Ug i))) ?_);refine ab (Wl ..) (bk (uD (k:=k+1) ..) (ab (Wi ..) (ab (VM ..) ?_)));rfl
theorem gm {xs:List V}{i:Nat}:bw (bU 0 xs) (.int ((i:Int)+1))=(xs[i]?).map fun x=>V.tup [.int 0,x]:=by
 have:=uD (xs:=xs) (k:=0) (i:=i);rwa [UL] at this
structure Sh (H:AH)(sh t:Addr)(xs:List V):Prop where
 at_:∃dx r,H sh=some (.inst 5 dx [("table",.ref t),("trailer",.ref r)])
 tab:H t=some (.dict (bU 0 xs))
theorem G2 {H:AH}{sh t:Addr}{xs:List V}(h:Sh H sh t xs):sh≠t:=fun e=>by
 refine eJ h.at_ fun dx r h1=>?_;rw [e,h.tab] at h1;cases h1
section
variable {G:aA}{d:Nat}{H:AH}{n:Nat}{Q:KV}(ok:aZ G)(fn:fJ G)
include ok fn
theorem c45 {sh t:Addr}{xs:List V}{v:V}(hd:3<=d)(hs:Sh H sh t xs)(hz:xs.length<=900)(h:∀n',n<=n'->Q (oC ((xs.length:Int)+1)) (upd H t (.dict (bU 0 (xs++[v])))) n'):aE G d 45 [.ref sh,v] H n Q:=
 aF ok fn.f45 hd rfl fun d d1 ne aJ=>by
  refine eJ hs.at_ fun dx r h1=>?_;show xX _ _ _ _ _ _;refine PL (α:=Nat) (fun s=>[some (.ref sh),some v,some (.int ((s:Int)+1))]) (fun O=>H) (fun s=>xs.length - s) (fun s=>s<=xs.length) 0 ?_ ?_ (Ur _) fun s n1 hn Nx=>cv _ _ _ h1 (ai _ hs.tab (aL cM (br (fun e=>?_) fun e=>?_)))
  ·rfl
  ·rfl
  ·rw [gm] at e;have bO:s<xs.length:=Nat.lt_of_not_le fun q=>by rw [Wy q] at e;injection e
   exact (du (s+1) rfl rfl ⟨hn,bO⟩ (WN bO (Uj s)))
  ·rw [gm] at e;have yD:s=xs.length:=UC Nx (Vl fun q=>by rw [T9 q] at e;injection e);subst yD;refine cv _ _ _ h1 (ai _ hs.tab (aL cM (aV (by refine ab oJ ?_;exact TF hz (by decide)) (c64 ok fn d1 fun n2 h2=>?_))));have mh:bM (bU 0 xs) (.int ((xs.length:Int)+1)) (.tup [.int 0,v])=bU 0 (xs++[v]):=by
    unfold bM;refine ab (gN ..) (ab (gm ..) (ab (Wy (TJ _) ..) (ab (qG ..) (ab (UL ..) ?_))));rfl
   refine ab mh ?_;exact h n2 (TF aJ (TF hn h2))
end
theorem uA {w:Bool}{l l':List SK}(ht:∀k∈l',k.tag=kt w)(h:dI l)(h':dI l')(p:l.Perm l'):l=l':=
 List.Perm.eq_of_pairwise (fun a b ha hb h1 h2=>mE (ht a (p.mem_iff.mp ha)) (ht b hb) h2 h1) h h' p
theorem gp:∀{k:Nat} {xs:List V},(bU k xs).map (·.1)=(Un xs.length).map fun i=>SK.int (((k+i:Nat):Int)+1)
 | _,[]=>rfl
 | k,x::xs=>by
  show SK.int ((k:Int)+1)::(bU (k+1) xs).map (·.1)=_;refine ab gp (ab TS (ab List.range_succ_eq_map (ab UJ (ab Ua ?_))))
  congr 1
  refine UK fun i O=>?_;show SK.int (((k+1+i:Nat):Int)+1)=SK.int (((k+(i+1):Nat):Int)+1);exact ab (VM ..) (ab (Vv 1 i ..) rfl)
theorem zm {xs:List V}:dI ((bU 0 xs).map (·.1)):=by
 refine ab gp ?_;unfold dI;rw [Wo];refine List.pairwise_lt_range.imp fun {a b} h=>?_;exact decide_eq_false (U2.mpr (eO (lD ((a:Nat):Int) ((b:Nat):Int)) [(1,.add bg bD,dT)] (.add (.add cG bg) bD) (.add (.add cG dT) bD) rfl (Ul.mpr h)))
noncomputable def CE (rs:List V):V:=.tup ((Un rs.length).map fun (i:Nat)=>.tup [.int ((i:Int)+1),.int 0,rs.getD i .none])
section
variable {G:aA}{d:Nat}{H:AH}{n:Nat}{Q:KV}(ok:aZ G)(fn:fJ G)
include ok fn
theorem c46 {t r:Addr}{xs:List V}(hd:1<=d)(hz:xs.length<64)(h:∀n',n<=n'->Q (.ag (((Un xs.length).map fun (i:Nat)=>SK.int ((i:Int)+1)).map .sk)) H n'):aE G d 46 [eW t r (bU 0 xs)] H n Q:=
 aF ok fn.f46 hd rfl fun d d1 ne aJ=>⟨⟨fun x hx y hy=>by
   rw [gp] at hx hy;refine bY (TX.mp hx) fun i O=>?_;refine bY (TX.mp hy) fun j O=>?_;rfl,by refine ab (TH ..) (ab (oJ ..) ?_);exact hz⟩,fun ks hp hs=>by
  have e:=uA (w:=false) (fun k hk=>by
   rw [gp] at hk;refine bY (TX.mp hk) fun i O=>?_;rfl) hs zm hp
  refine ab e (ab gp ?_);have:=h ne aJ;rw [show (fun (i:Nat)=>SK.int ((i:Int)+1))=fun i=>SK.int (((0+i:Nat):Int)+1) from funext fun i=>by exact ab (UL ..) rfl] at this;exact this⟩
theorem c47 {t r:Addr}{xs rs:List V}{k:Nat}(hd:k+3<=d)(hk:1<=k)(hz:xs.length<64)(hl:rs.length=xs.length)(ht:∀(i:Nat) x y,xs[i]? =some x->rs[i]? =some y->Tl k x y)(h:∀n',n<=n'->Q (.tup [CE rs,.tup [.str "dict"]]) H n'):aE G d 47 [eW t r (bU 0 xs)] H n Q:=
 aF ok fn.f47 (kd:=k+2) hd rfl fun d d1 ne aJ=>c46 ok fn (TF (Uc 1 (k+1)) d1) hz fun n1 h1 n2 h2=>by
  have aI:((Un xs.length).map fun (i:Nat)=>V.tup [.int ((i:Int)+1),.int 0,rs.getD i .none]).length<=16777216:=by refine ab (TH ..) (ab (Vo ..) ?_);exact TF (Ud hz) (by decide)
  refine ab Ua ?_;refine aV (by refine ab (TH ..) (ab (Vo ..) ?_);exact TF (Ud hz) (by decide)) (cx (fun (i:Nat)=>V.tup [.int ((i:Int)+1),.int 0,rs.getD i .none]) _ (Un xs.length) (fun i hi n3 K K2 h3 hK=>?_) fun n3 h3=>aV aI (c2 ok fn (Tl.Gg (k:=0) (a:=r) (es:=[]) (L:=[]) (fun O h=>(nomatch h)) (fun O h=>(nomatch h)) (fun O=>rfl) ⟨fun O h=>(nomatch h),by decide⟩ (fun ks hp O=>List.perm_nil.mp hp) (by decide)) (TF (aH (bI k) [(1,ay,aq)] (.add (.add rH ay) ia) (.add aq ia) rfl hk) d1) fun n4 h4=>?_))
  ·have hi:=Vg.mp hi;have hx:=T9 hi;have hy:=T9 (hl▸hi:i<rs.length);have hg:bw (bU 0 xs) (.int ((i:Int)+1))=some (.tup [.int 0,xs[i]]):=by refine ab gm (ab hx ?_);rfl
   refine aL cM (dh hg (aL cM (dh hg (c2 ok fn (ht i _ _ hx hy) d1 fun n4 h4=>?_))));have:=hK n4 h4;rw [U7,hy] at this;exact this
  ·have:=h n4 (TF aJ (TF h1 (TF h2 (TF h3 h4))));unfold CE at this;rw [hl] at this;exact this
end
noncomputable def RN (xs:List V)(w:Bool):Bool->(d:Nat)->Tr d->V->List Nat->Prop
 | lim,0,t,v,ns=>∃a,v=.az a (ents w lim 0 t)/\ns=[]
 | lim,d+1,t,v,ns=>∃a,∃L:List (Tr d × V × List Nat),v=.az a (EL lim (fP w (t.2.flatMap (av d))) "Kids" (.ag (L.map fun p=>p.2.1)))/\t.2=L.map (fun p=>p.1)/\ns=L.flatMap (fun p=>p.2.2)/\
  ∀p∈L,RN xs w true d p.1 p.2.1 p.2.2\/∃(i:Nat) (nd:V) (gA:List Nat),p.2.1=oC ((i:Int)+1)/\xs[i]? =some nd/\p.2.2=i::gA/\RN xs w true d p.1 nd gA
noncomputable def RK (xs:List V)(w lim:Bool)(d:Nat)(t:Tr d)(v:V)(ns:List Nat):Prop:=RN xs w lim d t v ns\/∃(i:Nat) (nd:V) (gA:List Nat),v=oC ((i:Int)+1)/\xs[i]? =some nd/\ns=i::gA/\RN xs w lim d t nd gA
theorem RN.mono {xs ys:List V}{w:Bool}:∀{lim:Bool} {d:Nat} {t:Tr d} {v:V} {ns:List Nat},RN xs w lim d t v ns->RN (xs++ys) w lim d t v ns
 | _,0,_,_,_,h=>h
 | _,d+1,_,_,_,h0=>cn h0 fun a L h1 h2 h3 h4=>cD a L h1 h2 h3 fun p hp=>(h4 p hp).imp RN.mono fun g0=>kK g0 fun i nd gA g1 g2 g3 g4=>o8 i nd gA g1 ((Vt (UT.mp g2).1).trans g2) g3 g4.mono
theorem RN.plain {xs:List V}{w:Bool}:∀{lim:Bool} {d:Nat} {t:Tr d},RN xs w lim d t (aS w lim d t) []
 | _,0,_=>(ai _ rfl rfl)
 | _,d+1,t=>(cD _ (t.2.map fun k=>(k,aS w true d k,[])) (by refine ab Ua ?_;rfl) (by refine ab Ua ?_;exact (Wr _).symm) (by refine ab (UO ..) ?_;exact (List.flatMap_eq_nil_iff.mpr fun O O=>rfl).symm) (fun p hp=>by
   refine bY (TX.mp hp) fun k O=>?_;exact .inl .plain))
theorem Ge {α β:Type}{step:V->AH->Nat->KV->(AH->Nat->Prop)->Prop}{l:List V}{H:AH}{n:Nat}{Q:KL}(e:β->V)(bs:List β)(g:α->AH)(P:List β->List V->Nat->α->Prop)(s0:α)(el:l=bs.map e)(e2:H=g s0)(h0:P bs [] n s0)
 (hs:∀x xs ds s n1,P (x::xs) ds n1 s->step (e x) (g s) n1 (fun v H2 n3=>∃s',H2=g s'/\P xs (ds++[v]) n3 s') fun H2 n3=>∃s',H2=g s'/\P xs ds n3 s') (hl:∀ds s n1,P [] ds n1 s->Q ds (g s) n1):fg step l H n Q:=by
 subst e2;subst el;unfold fg;refine (bW (fun ds l H n1=>(∃as r,bs=as++r/\l=r.map e)/\∃s,H=g s/\P (bs.drop (bs.length - l.length)) ds n1 s) ⟨cg [] bs rfl rfl,ai s0 rfl (by refine ab (TH ..) (ab (W4 ..) ?_);exact h0)⟩ ?_ ?_)
 ·rintro ds x xs H n1 ⟨⟨as,r,hr,hx⟩,s,rfl,h1⟩
  cases r with
  | nil=>injection hx
  | cons b r=>
   (injection hx with e1 e2;subst e1;subst e2)
   have e1:bs.drop (bs.length - (e b::r.map e).length)=b::r:=by
    exact ab (hr ..) (ab (TG ..) (ab (TS ..) (ab (TS ..) (ab (TH ..) (ab (Wh ..) (ab (Wk ..) rfl))))))
   have e2:bs.drop (bs.length - (r.map e).length)=r:=by
    rw [show bs=(as++[b])++r by refine ab (hr ..) (ab (T5 ..) ?_);rfl,TG,TH,Wh,Wk]
   rw [e1] at h1;have:∀ds,(fun H2 n3=>∃s',H2=g s'/\P r ds n3 s')=fun H2 n3=>(∃as r',bs=as++r'/\r.map e=r'.map e)/\∃s',H2=g s'/\P (bs.drop (bs.length - (r.map e).length)) ds n3 s':=fun ds=>by
    refine ab e2 ?_;exact funext fun H=>funext fun n=>propext ⟨fun h=>⟨cg (as++[b]) r (by refine ab (hr ..) (ab (T5 ..) ?_);rfl) rfl,h⟩,fun h=>h.2⟩
   have h2:=hs b r ds s n1 h1;rw [this ds,show (fun v H2 n3=>∃s',H2=g s'/\P r (ds++[v]) n3 s')=fun v H2 n3=>(∃as r',bs=as++r'/\r.map e=r'.map e)/\∃s',H2=g s'/\P (bs.drop (bs.length - (r.map e).length)) (ds++[v]) n3 s' from funext fun v=>this (ds++[v])] at h2;exact h2
 ·rintro ds H n1 ⟨_,s,rfl,h1⟩;rw [Wf,Xh,List.drop_length] at h1;exact hl ds s n1 h1
theorem RN.lt {xs:List V}{w:Bool}:∀{lim:Bool} {d:Nat} {t:Tr d} {v:V} {ns:List Nat},RN xs w lim d t v ns->∀i∈ns,i<xs.length
 | _,0,_,_,_,h0,i,hi=>by
  refine ah h0 fun O O h=>?_;rw [h] at hi;exact nomatch hi
 | _,d+1,_,_,_,h0,i,hi=>by
  refine cn h0 fun a L h1 h2 h3 h4=>?_;rw [h3] at hi;refine ah (Uk.mp hi) fun p hp hi=>?_;rcases h4 p hp with h | ⟨j,nd,gA,_,g2,g3,g4⟩
  ·exact h.lt i hi
  ·rw [g3] at hi;rcases TN.mp hi with rfl | hi
   ·exact (UT.mp g2).1
   ·exact g4.lt i hi
structure bp (v:V):Prop where
 dG:∀S,v.dG S=v
 fw:v.fw=true
theorem bp.seq {l:List V}(h:∀x∈l,bp x):(∀S,oP S l=l)/\pE l=true:=by
 induction l with
 | nil=>exact ⟨fun O=>rfl,rfl⟩
 | cons x l ih=>
  obtain ⟨h1,h2⟩:=ih fun y hy=>h y (TP _ hy);have h3:=h x (TM ..);refine ⟨fun S=>?_,?_⟩
  ·show x.dG S::oP S l=_;exact ab (h3.dG ..) (ab (h1 ..) rfl)
  ·show (x.fw&&pE l)=true;refine ab h3.fw (ab h2 ?_);rfl
theorem bp.ag {l:List V}(h:∀x∈l,bp x):bp (.ag l):=⟨fun S=>congrArg V.ag ((bp.seq h).1 S),(bp.seq h).2⟩
theorem bp.tup {l:List V}(h:∀x∈l,bp x):bp (.tup l):=⟨fun S=>congrArg V.tup ((bp.seq h).1 S),(bp.seq h).2⟩
theorem bp.sk {k:SK}:bp (.sk k):=⟨fun O=>rfl,rfl⟩
theorem bp.mi {w:Bool}{k:SK}:bp (mi w k):=by cases w <;> exact ⟨fun O=>rfl,rfl⟩
theorem bp.ref {i:Int}:bp (oC i):=⟨fun O=>rfl,rfl⟩
theorem bp.lim {w:Bool}{ps:List PR}:bp (fP w ps):=bp.ag fun x hx=>by
 rcases TN.mp hx with rfl | hx
 ·exact .mi
 ·refine ab (TK.mp hx) ?_;exact .mi
theorem bp.row {w:Bool}{ps:List PR}:bp (.ag (gj w ps)):=bp.ag fun x hx=>by
 refine ah (Uk.mp hx) fun p O hx=>?_;rcases TN.mp hx with rfl | hx
 ·exact .mi
 ·refine ab (TK.mp hx) ?_;exact .sk
theorem bp.ents {es:List (SK × V)}(h:∀e∈es,bp e.2):(∀S,dX S es=es)/\ip es=true:=by
 induction es with
 | nil=>exact ⟨fun O=>rfl,rfl⟩
 | cons e es ih=>
  obtain ⟨h1,h2⟩:=ih fun y hy=>h y (TP _ hy);have h3:=h e (TM ..);refine ⟨fun S=>?_,?_⟩
  ·show (e.1,e.2.dG S)::dX S es=_;exact ab (h3.dG ..) (ab (h1 ..) rfl)
  ·show (e.2.fw&&ip es)=true;refine ab h3.fw (ab h2 ?_);rfl
theorem bp.el {lim:Bool}{l v:V}{k:Str}(h1:bp l)(h2:bp v):(∀S,dX S (EL lim l k v)=EL lim l k v)/\ip (EL lim l k v)=true:=bp.ents fun e he=>by
 cases lim with
 | false=>refine ab (TK.mp he) ?_;exact h2
 | true=>
  rcases TN.mp he with rfl | he
  ·exact h1
  ·refine ab (TK.mp he) ?_;exact h2
structure kL (m:Nat)(v:V):Prop where
 dG:∀S:Addr->Bool,(∀a,a<m->S a=false)->v.dG S=v
 fw:v.fw=true
theorem kL.mono {m m':Nat}{v:V}(h:kL m v)(hm:m<=m'):kL m' v:=⟨fun S hS=>h.dG S fun a ha=>hS a (TO ha hm),h.fw⟩
theorem kL.dict {m a:Nat}{es:List (SK × V)}(ha:a<m)(h:∀S,dX S es=es)(h2:ip es=true):kL m (.az a es):=⟨fun S hS=>by
 show (if S a=true then V.ref a else .az a (dX S es))=_;refine ab (hS a ha ..) (ab (h ..) ?_);rfl,h2⟩
structure Hi (m:Nat)(v:V):Prop where
 tl:∃r,Tl 2 v r
 st:kL m v
theorem Hi.mono {m m':Nat}{v:V}(h:Hi m v)(hm:m<=m'):Hi m' v:=⟨h.tl,h.st.mono hm⟩
structure Hh (m:Nat)(xs:List V)(w lim:Bool)(e:Nat)(t:Tr e)(ys:List V)(v:V)(ns:List Nat):Prop where
 rn:RN (xs++ys) w lim e t v ns
 nd:ns.Nodup
 lo:∀i∈ns,xs.length<=i
 len:ys.length+1=(bu e t).length
 tl:∀y∈ys,Hi m y
 tv:Hi m v
theorem QB {H:AH}{x t:Addr}{o1 o2 o3:bG}(h:H x=none)(aJ:x≠t):cB (upd (upd (upd H x o1) t o2) x o3) x=upd H t o2:=funext fun b=>by
 show (if b=x then none else if b=x then some o3 else if b=t then some o2 else if b=x then some o1 else H b)=if b=t then some o2 else H b
 by_cases e:b=x
 ·exact ab (if_pos e) (ab e (ab (if_neg aJ) (ab h rfl)))
 ·exact ab (if_neg e) (ab (if_neg e) (ab (if_neg e) rfl))
theorem j1 {w lim:Bool}{d:Nat}{t:Tr d}:(ents w lim d t).length<=1000:=by
 cases d <;> cases lim <;> exact Uh rfl
section
variable {G:aA}{d:Nat}{H:AH}{n:Nat}{Q:KV}(ok:aZ G)(fn:fJ G)
include ok fn
theorem c26 {w:Bool}{sh t0:Addr}:∀{e:Nat} {lim:Bool} {t:Tr e} {xs:List V} {d n:Nat} {H:AH} {Q:KV},e+4<=d->(lim=false\/Ne e t)->(e=0\/Ne e t)->Kd w (av e t)->(av e t).length<=400->Sh H sh t0 xs->xs.length+(bu e t).length<=900->
 (∀ys v ns n',n<=n'->Hh n' xs w lim e t ys v ns->Q v (upd H t0 (.dict (bU 0 (xs++ys)))) n')->aE G d 26 [.ref sh,aS w lim e t] H n Q:=by
 intro e
 induction e with
 | zero=>
 exact fun {lim t xs O O O O} hd hl O hk hz hs hx h=>aF ok fn.f26 hd rfl fun d d1 ne aJ=>aL ax (jU N1 (aV j1 fun a ha h0=>by
   have:=h [] (.az a (ents w lim 0 t)) [] (a+1) (TF aJ (TY ha)) ⟨ai a rfl rfl,.nil,fun O h=>(nomatch h),rfl,fun O h=>(nomatch h),by
    refine ⟨?_,kL.dict (Uj a) (bp.el .lim .row).1 (bp.el .lim .row).2⟩;rcases hl with rfl | hn
    ·exact ⟨_,sj (sm (k:=0) hk hz)⟩
    ·exact ⟨_,xR (si (j6 hn hk) (iG hn hk)) (sm (k:=0) hk hz)⟩⟩
   rw [TU,dS hs.tab] at this;exact this))
 | succ e ih=>
 exact fun {lim t xs O n H O} hd O hn hk hz hs hx h=>aF ok fn.f26 (kd:=e+4) hd rfl fun d d1 ne aJ=>aL ax (fB PF (aV j1 fun x IQ h0=>by
   obtain ⟨a,ks⟩:=t;have hn:Ne (e+1) (a,ks):=hn.elim (fun e=>nomatch e) id;have fW:=dO ks hn.2;have zD:(aM e ks).length<=400:=hz;have GG:x≠t0:=fun q=>by rw [q,hs.tab] at h0;injection h0
   refine aL ax (dh iI fun n2 h2=>aV (by refine ab (TH ..) ?_;exact TF fW (TF zD (by decide))) ?_);refine Ge (α:=List V × List (Tr e × V × List Nat)) (aS w true e) ks (fun s=>upd (upd H x (.dict (ents w lim (e+1) (a,ks)))) t0 (.dict (bU 0 (xs++s.1))))
    (fun r ds n1 s=>(x<n1/\n<=n1)/\s.2.map (fun p=>p.1)++r=ks/\ds=s.2.map (fun p=>p.2.1)/\(∀p∈s.2,∃(i:Nat) (nd:V) (gA:List Nat),p.2.1=oC ((i:Int)+1)/\(xs++s.1)[i]? =some nd/\p.2.2=i::gA/\RN (xs++s.1) w true e p.1 nd gA)/\(s.2.flatMap fun p=>p.2.2).Nodup/\(∀i∈s.2.flatMap (fun p=>p.2.2),xs.length<=i/\i<(xs++s.1).length)/\s.1.length=(aT e (s.2.map fun p=>p.1)).length/\∀y∈s.1,Hi n1 y)
    ([],[]) rfl ?_ ⟨⟨h2,TF aJ (TF IQ (TF (Uo x) h2))⟩,rfl,rfl,fun O h=>(nomatch h),.nil,fun O h=>(nomatch h),rfl,fun O h=>nomatch h⟩ (fun k r ds s n3 hP=>?_) fun ds s n3 hP=>?_
   ·refine ab (TU ..) ?_;exact (dS ((ak GG.symm).trans hs.tab)).symm
   ·refine Le hP fun p1 p2 p3 p4 p5 p6 p7 p8=>?_;have zA:k∈ks:=p2▸TQ _ (TM ..);have hsz:(aT e (s.2.map fun p=>p.1)).length+(bu e k).length<=(aT e ks).length:=by
     refine bk p2 ?_;unfold aT;refine ab T7 (ab TG (ab Uu (ab TG ?_)));exact Uy (TZ ..) _
    have vJ:xs.length+((aT e ks).length+1)<=900:=hx;refine eJ hs.at_ fun dx fr Bi=>?_;have Nv:sh≠x:=fun q=>by rw [q,h0] at Bi;injection Bi
    have shg:∀(zs:List V),Sh (upd (upd H x (.dict (ents w lim (e+1) (a,ks)))) t0 (.dict (bU 0 zs))) sh t0 zs:=fun zs=>⟨uX dx fr (by refine ab (ak (G2 hs)) (ab (ak Nv) ?_);exact Bi),ae⟩;refine (cg dx _ ((ak (G2 hs)).trans ((ak Nv).trans Bi)) (ih (lim:=true) (t:=k) (xs:=xs++s.1) d1 (.inr (hn.2 k zA)) (.inr (hn.2 k zA)) (eM hk k zA) (TF (Vh (by
      refine eJ (V0 zA) fun u v e0=>?_;show (av e k).Sublist (aM e ks);refine ab e0 (ab cE ?_);exact (Vz ..).trans (Vu ..))) zD) (shg _) (by refine ab TG ?_;exact aH (ml s.fst.length _ ((bu e k).length) xs.length ((aT e ks).length)) [(1,aq,aw),(1,.add aw aN,jc),(1,.add bL (.add jc ay),.num 900)] (.add (.add bL aq) aN) (.num 900) rfl (TL p7) hsz vJ) fun ys v ns n4 h4 hL=>?_))
    refine ab aX ?_;refine c45 ok fn (TF (aH (bI e) [] (.num 3) (.add aq (.num 4)) rfl) d1) (shg _) (by refine ab TG (ab TG ?_);have:=hL.len;exact aH (CF s.fst.length _ ((bu e k).length) xs.length ((aT e ks).length) ys.length) [(1,aq,aw),(1,.add aw aN,jc),(1,.add bL (.add jc ay),.num 900),(1,.add Dh ay,aN)] (.add (.add bL aq) Dh) (.num 900) rfl (TL p7) hsz vJ (TL this)) fun n5 h5=>?_;refine ab aX ?_;have e1:xs++s.1++ys++[v]=xs++(s.1++ys++[v]):=by exact ab (T5 ..) (ab (T5 ..) (ab (T5 ..) rfl))
    have e2:xs++s.1++(ys++[v])=xs++(s.1++ys++[v]):=by exact bk (e1 ..) (ab (T5 (xs++s.1) ..) rfl)
    have bO:=hL.rn.lt;refine (PY (s.1++ys++[v],s.2++[(k,oC (((xs++s.1++ys).length:Int)+1),(xs++s.1++ys).length::ns)]) (by exact ab e1 rfl) ⟨TO p1.1 (TF h4 h5),TF p1.2 (TF h4 h5)⟩ ?_ ?_ ?_ ?_ ?_ ?_ ?_)
    ·refine bk (p2 ..) (ab (TR ..) (ab (T5 ..) ?_));rfl
    ·refine ab p3 (ab TR ?_);rfl
    ·intro p hp;rcases T6.mp hp with hp | hp
     ·refine kK (p4 p hp) fun i nd gA q1 q2 q3 q4=>?_;refine (o8 i nd gA q1 ?_ q3 ?_)
      ·show (xs++(s.1++ys++[v]))[i]? =_;refine bk e2 ?_;exact (Vt (UT.mp q2).1).trans q2
      ·show RN (xs++(s.1++ys++[v])) w true e p.1 nd gA;refine bk e2 ?_;exact q4.mono
     ·refine ab (TK.mp hp) ?_;refine (o8 _ v ns rfl ?_ rfl ?_)
      ·show (xs++(s.1++ys++[v]))[(xs++s.1++ys).length]? =_;refine bk e1 ?_;exact eX
      ·show RN (xs++(s.1++ys++[v])) w true e k v ns;refine bk e1 ?_;exact hL.rn.mono
    ·refine ab (T7 ..) (ab (VG ..) ?_);refine Wq.mpr ⟨p5,U8.mpr ⟨fun q=>VY _ (bO _ q),hL.nd⟩,fun i hi j hj q=>?_⟩;have h6:=(p6 i hi).2;rcases TN.mp hj with hj | hj
     ·rw [q,hj,TG (as:=xs++s.1)] at h6;exact absurd (aH (bc ((xs++s.fst).length) ys.length) [(1,.add (.add aq aw) ay,aq)] ay rH rfl h6) (WL 0)
     ·have:=hL.lo j hj;exact absurd (aH (bC j i ((xs++s.fst).length)) [(1,aq,aw),(1,.add aw ay,aN),(1,aN,aq)] ay rH rfl (TL q.symm) h6 this) (WL 0)
    ·intro i hi;show xs.length<=i/\i<(xs++(s.1++ys++[v])).length;refine bk e1 (ab (TG (bs:=[v])) (ab (TG (bs:=ys)) ?_));rw [T7,VG] at hi;rcases T6.mp hi with hi | hi
     ·have:=p6 i hi;exact ⟨this.1,by exact aH (cm i ((xs++s.fst).length) ys.length ([].length)) [(1,.add aq ay,aw)] (.add aq ay) (.add (.add aw aN) (.add bL ay)) rfl this.2⟩
     ·rcases TN.mp hi with hi | hi
      ·refine ab hi (ab (TG (bs:=ys)) (ab TG ?_));exact ⟨by exact aH (bC xs.length s.fst.length ys.length) [] aq (.add (.add aq aw) aN) rfl,Uj _⟩
      ·have h7:=hL.lo i hi;have h8:=bO i hi;rw [TG] at h7;rw [TG (bs:=ys)] at h8;exact ⟨by exact aH (bC xs.length s.fst.length i) [(1,.add aq aw,aN)] aq aN rfl h7,by exact aH (cm i ((xs++s.fst).length) ys.length ([].length)) [(1,.add aq ay,.add aw aN)] (.add aq ay) (.add (.add aw aN) (.add bL ay)) rfl h8⟩
    ·refine ab TR ?_;unfold aT;refine ab T7 (ab TG (ab TG (ab TG ?_)));have:=hL.len;show s.1.length+ys.length+1=_+(bu e k++[]).length;refine ab (TU ..) (ab (p7 ..) ?_);unfold aT;exact UC (aH (bC ys.length ((bu e k).length) _) [(1,.add aq ay,aw)] (.add (.add aN aq) ay) (.add aN aw) rfl (TL this)) (aH (bC ((bu e k).length) ys.length _) [(1,aq,.add aw ay)] (.add aN aq) (.add (.add aN aw) ay) rfl (TL this.symm))
    ·intro y hy;rcases T6.mp hy with hy | hy
     ·rcases T6.mp hy with hy | hy
      ·exact (p8 y hy).mono (TF h4 h5)
      ·exact (hL.tl y hy).mono h5
     ·refine ab (TK.mp hy) ?_;exact hL.tv.mono h5
   ·refine Le hP fun Ki p2 p3 p4 p5 p6 p7 p8=>?_;obtain ⟨p0,p1⟩:=Ki;rw [TU] at p2;refine (ai _ ((ak GG).trans ae) (aL ax (aV j1 (ai _ ae ?_))));refine ab (QB h0 GG) ?_;have mh:bM (ents w lim (e+1) (a,ks)) (.str "Kids") (.ag ds)=EL lim (fP w (aM e ks)) "Kids" (.ag ds):=by cases lim <;> rfl
    refine ab mh ?_;refine h s.1 _ _ n3 p1 ⟨cD x s.2 (by refine ab p3 ?_;rfl) p2.symm rfl (fun p hp=>.inr (p4 p hp)),p5,fun i hi=>(p6 i hi).1,?_,p8,?_⟩
    ·show s.1.length+1=(aT e ks).length+1;exact ab p7 (ab p2 rfl)
    ·have me:Tl 1 (.ag ds) (wy (s.2.map fun p=>match p.2.2 with | i::_=>.tup [.str "ref",.int ((i:Int)+1),.int 0] | []=>.none)):=by
      have:=Tl.arr (k:=0) (L:=s.2.map fun p=>(p.2.1,match p.2.2 with | i::_=>.tup [.str "ref",.int ((i:Int)+1),.int 0] | []=>V.none)) (fun q hq=>by
       refine bY (TX.mp hq) fun p hp=>?_;refine kK (p4 p hp) fun i nd gA q1 q2 q3 q4=>?_;refine ab q1 (ab q3 ?_);exact .ref) (by
       refine ab (TH ..) ?_;have:(s.2.map fun p=>p.1).length=ks.length:=by exact ab p2 rfl
       rw [TH] at this;exact aH (bC ks.length ((aM e ks).length) s.snd.length) [(1,aq,aw),(1,aw,.num 400),(1,aN,aq)] aN (.num 900) rfl fW zD (TL this))
      rw [Ua,Ua] at this;refine ab p3 ?_;exact this
     have KG:bp (.ag ds):=bp.ag fun z hz=>by
      rw [p3] at hz;refine bY (TX.mp hz) fun p hp=>?_;refine jt (p4 p hp) fun i nd gA q1 O=>?_;refine ab q1 ?_;exact .ref
     refine ⟨?_,kL.dict p0 (bp.el .lim KG).1 (bp.el .lim KG).2⟩;exact ⟨_,xQ (si (j6 (e:=e+1) hn hk) (iG (e:=e+1) hn hk)) me⟩))
end
noncomputable def xP (i:Nat):List Int × V:=([(i:Int)+1,0],.int 1)
noncomputable def hU (ws:List (List Int))(ts:List (List Int × V)):Prop:=∀p∈ws,p=[-1, -1]\/p∈ts.map (·.1)
theorem hU.more {ws:List (List Int)}{ts us:List (List Int × V)}(h:hU ws ts):hU ws (ts++us):=fun p hp=>(h p hp).imp_right fun h=>by refine ab TR ?_;exact Uq _ h
noncomputable def eQ (ns:List Nat)(ts:List (List Int × V)):Prop:=ns.Nodup/\∀i∈ns,[(i:Int)+1,0]∉ts.map (·.1)
theorem eQ.way {i:Nat}{ns:List Nat}{ws:List (List Int)}{ts:List (List Int × V)}(h:eQ (i::ns) ts)(hw:hU ws ts):[(i:Int)+1,0]∉ws:=fun q=>by
 rcases hw _ q with e | e
 ·injection e with e1 e2;exact TB (eO (cP ((i:Nat):Int)) [(1,.add bg bD,.neg bD),(1,cG,bg)] bD cG rfl (VS e1) (Ug i))
 ·exact h.2 i (TM ..) e
theorem eQ.tail {i:Nat}{ns:List Nat}{ts:List (List Int × V)}(h:eQ (i::ns) ts):eQ ns (ts++[xP i]):=by
 obtain ⟨h1,h2⟩:=U8.mp h.1;refine ⟨h2,fun j hj q=>?_⟩;rw [TR] at q;rcases T6.mp q with q | q
 ·exact h.2 j (TP _ hj) q
 ·have q:=TK.mp q;injection q with e1 e2;have:j=i:=by exact UC (Ul.mp (eO (lD ((j:Nat):Int) ((i:Nat):Int)) [(1,.add bg bD,.add dT bD)] bg dT rfl (VS e1))) (Ul.mp (eO (lD ((i:Nat):Int) ((j:Nat):Int)) [(1,.add bg bD,.add dT bD)] bg dT rfl (VS e1.symm)))
  exact h1 (this▸hj)
theorem eQ.split {a b:List Nat}{ts:List (List Int × V)}(h:eQ (a++b) ts):eQ a ts/\eQ b (ts++a.map xP):=by
 refine cS (Wq.mp h.1) fun h1 h2 h3=>?_;refine ⟨⟨h1,fun i hi=>h.2 i (Uq _ hi)⟩,h2,fun j hj q=>?_⟩;rw [TR] at q;rcases T6.mp q with q | q
 ·exact h.2 j (TQ _ hj) q
 ·rw [Ua] at q;refine ah (TX.mp q) fun i hi e=>?_;have e:[(i:Int)+1,0]=[(j:Int)+1,0]:=e;injection e with e1 e2;exact h3 i hi j hj (UC (Ul.mp (eO (lD ((i:Nat):Int) ((j:Nat):Int)) [(1,.add bg bD,.add dT bD)] bg dT rfl (VS e1))) (Ul.mp (eO (lD ((j:Nat):Int) ((i:Nat):Int)) [(1,.add bg bD,.add dT bD)] bg dT rfl (VS e1.symm))))
theorem RK.rs {xs:List V}{w lim:Bool}{d:Nat}{t:Tr d}{v:V}{ns:List Nat}(h:RK xs w lim d t v ns):∃nd gA,RN xs w lim d t nd gA/\Rs (bU 0 xs) v nd/\((v=nd/\ns=gA)\/∃i:Nat,v=oC ((i:Int)+1)/\ns=i::gA):=by
 have nr:∀{nd:V} {gA},RN xs w lim d t nd gA->N2 nd=true:=fun {nd gA} h=>by
  cases d with
  | zero=>refine mP h fun a O=>?_;rfl
  | succ d=>refine x6 h fun a L O=>?_;rfl
 rcases h with h | ⟨i,nd,gA,rfl,h2,h3,h4⟩
 ·exact (bA v ns h (.self (nr h)) (.inl ⟨rfl,rfl⟩))
 ·exact (bA nd gA h4 ⟨.inr (ai _ rfl (by refine ab gm (ab h2 ?_);rfl)),nr h4⟩ (.inr (ai i rfl h3)))
theorem Qu {H:AH}{x y tm:Addr}{o1 o2 o3 o4:bG}(hx:H x=none)(hy:H y=none)(h1:x≠tm)(h2:y≠tm):cB (upd (cB (upd (upd (upd H x o1) y o2) tm o3) y) x o4) x=upd H tm o3:=funext fun b=>by
 show (if b=x then none else if b=x then some o4 else if b=y then none else if b=tm then some o3 else if b=y then some o2 else if b=x then some o1 else H b)=if b=tm then some o3 else H b
 by_cases e:b=x
 ·exact ab (if_pos e) (ab e (ab (if_neg h1) (ab hx rfl)))
 ·refine ab (if_neg e) (ab (if_neg e) ?_)
  by_cases e2:b=y
  ·exact ab (if_pos e2) (ab e2 (ab (if_neg h2) (ab hy rfl)))
  ·exact ab (if_neg e2) (ab (if_neg e2) (ab (if_neg e) rfl))
theorem CW {H:AH}{a b:Addr}{o p:bG}(h:a≠b):upd (upd H a o) b p=upd (upd H b p) a o:=funext fun c=>by
 show (if c=b then some p else if c=a then some o else H c)=if c=a then some o else if c=b then some p else H c
 by_cases e:c=b
 ·exact ab (if_pos e) (ab (if_neg fun q=>h (q.symm.trans e)) (ab (if_pos e) rfl))
 ·exact ab (if_neg e) (ab (if_neg e) rfl)
section
variable (G:aA)(xs:List V)(w:Bool)(t0 r0 tm:Addr)
noncomputable def GK (e:Nat):Prop:=∀{d n:Nat} {H:AH} {Q:KV} {t:Tr e} {v:V} {ns:List Nat} {ts:List (List Int × V)} {ws:List (List Int)},e+5<=d->RK xs w true e t v ns->Ne e t->(av e t).length<=400->H tm=some (.aO ts)->eQ ns ts->hU ws ts->ws.length+e<=39->ts.length+ns.length<=900->
 (∀t' n',n<=n'->pP e t t'->(∀C,∃C',fS n C C'/\di C' w true e t' n')->Q (aS w true e t') (upd H tm (.aO (ts++ns.map xP))) n')->aE G d 27 [eW t0 r0 (bU 0 xs),v,.tup (cf ws),.ref tm] H n Q
end
section
variable {G:aA}{d:Nat}{H:AH}{n:Nat}{Q:KV}(ok:aZ G)(fn:fJ G)
include ok fn
theorem AS {xs:List V}{w lim:Bool}{t0 r0 tm:Addr}{ne:Nat}{t:Tr 0}{v nd:V}{ns:List Nat}{r2 r3 r5:Option V}(hd:4<=d)(hr:RN xs w lim 0 t nd ns)(hv:Rs (bU 0 xs) v nd)
 (h:∀t' n',n<=n'->pP 0 t t'->(∀C,∃C',fS n C C'/\di C' w lim 0 t' n')->Q (aS w lim 0 t') H n'):
 WB G d ne [.asg (.var 6) (.bi .dict [.call 5 [.var 0,.var 1]]),.ite (.cmp .In (.str "Kids") (.var 6)) [.asg (.var 7) (.cR []),.fr (.var 8) .pl [.call 6 [.var 0,.var 6,.str "Kids"]] [.ex (.bx (.var 7) .append [.call 27 [.var 0,.var 8,.var 5,.var 4]])],.fN 7,.asg (.sub (.var 6) (.str "Kids")) (.var 7)] [],.ret (.mv (.var 6))]
 [some (eW t0 r0 (bU 0 xs)),some v,r2,r3,some (.ref tm),r5,none,none,none] H n Q:=by
 refine ah hr fun a jI pF=>?_;subst jI;subst pF;refine c5 ok fn (TF (by decide) hd) cM hv fun n1 h1=>aV j1 fun x hx h0=>(ai _ ae (aL ax (fB IT (ai _ ae ?_))));refine ab cY (ab (cJ h0) ?_);refine h (x,t.2) (x+1) (TF h1 (TY hx)) rfl fun C=>?_;have ho:fS n C (kZ C [(x,ents w lim 0 (x,t.2))]):=eB fun p hp=>by refine ab (TK.mp hp) ?_;exact TF h1 hx
 exact (bW _ ho (Uj x) (dM (UY ..) (x,ents w lim 0 (x,t.2)) (T1 _)))
theorem AU {xs:List V}{w lim:Bool}{t0 r0 tm:Addr}{ne e:Nat}{t:Tr (e+1)}{v nd:V}{ns:List Nat}{ts:List (List Int × V)}{ws:List (List Int)}{r2 r3:Option V}(ih:GK G xs w t0 r0 tm e)(hd:e+5<=d)(hr:RN xs w lim (e+1) t nd ns)(hv:Rs (bU 0 xs) v nd)(hn:Ne (e+1) t)(hz:(av (e+1) t).length<=400)
 (uS:H tm=some (.aO ts)) (mf:eQ ns ts) (vI:hU ws ts) (vH:ws.length+e<=39) (w6:ts.length+ns.length<=900)
 (h:∀t' n',n<=n'->pP (e+1) t t'->(∀C,∃C',fS n C C'/\di C' w lim (e+1) t' n')->Q (aS w lim (e+1) t') (upd H tm (.aO (ts++ns.map xP))) n'):
 WB G d ne [.asg (.var 6) (.bi .dict [.call 5 [.var 0,.var 1]]),.ite (.cmp .In (.str "Kids") (.var 6)) [.asg (.var 7) (.cR []),.fr (.var 8) .pl [.call 6 [.var 0,.var 6,.str "Kids"]] [.ex (.bx (.var 7) .append [.call 27 [.var 0,.var 8,.var 5,.var 4]])],.fN 7,.asg (.sub (.var 6) (.str "Kids")) (.var 7)] [],.ret (.mv (.var 6))]
 [some (eW t0 r0 (bU 0 xs)),some v,r2,r3,some (.ref tm),some (.tup (cf ws)),none,none,none] H n Q:=by
 obtain ⟨a,ks⟩:=t;refine cn hr fun a2 L lu hL vZ A9=>?_;subst lu;subst vZ;have hL:ks=L.map fun p=>p.1:=hL;have zD:(aM e ks).length<=400:=hz;have fW:=dO ks hn.2;have Kk:∀{s:Str},aR (EL lim (fP w (aM e ks)) "Kids" (.ag (L.map fun p=>p.2.1))) (.str s)=true:=nk;have NQ:∀{v:V},(EL lim (fP w (aM e ks)) "Kids" v).length<=1000:=by cases lim <;> exact Uh rfl
 refine c5 ok fn (TF (aH (bI e) [] ia (.add aq (.num 5)) rfl) hd) cM hv fun n1 h1=>aV NQ fun x hx h0=>(ai _ ae (aL Kk (jU (by refine ab fD ?_;rfl) fun y hy K0=>?_)));have GG:x≠tm:=fun q=>by rw [q,uS] at h0;injection h0
 have Bk:y≠x:=fun q=>by rw [q,ae] at K0;injection K0
 have K3:y≠tm:=fun q=>by rw [q,ak GG.symm,uS] at K0;injection K0
 have hyn:H y=none:=by rw [ak Bk] at K0;exact K0
 refine c6 ok fn (TF (aH (bI e) [] (.num 3) (.add aq (.num 5)) rfl) hd) (.made ((ak Bk.symm).trans ae)) cM Kk fD fun n2 h2 n3 h3=>?_;refine yv (α:=List (Tr e) × List (Tr e × V × List Nat) × Option V) (fun p:Tr e × V × List Nat=>p.2.1) L
  (fun s=>[some (eW t0 r0 (bU 0 xs)),some v,r2,r3,some (.ref tm),some (.tup (cf ws)),some (.ref x),some (.ref y),s.2.2])
  (fun s=>upd (upd (upd H x (.dict (EL lim (fP w (aM e ks)) "Kids" (.ag (L.map fun p=>p.2.1))))) y (.list (s.1.map (aS w true e)))) tm (.aO (ts++(s.2.1.flatMap fun p=>p.2.2).map xP)))
  (fun r n4 s=>n2<=n4/\s.2.1++r=L/\s.1.length=s.2.1.length/\(∀p∈(s.2.1.map fun p=>p.1).zip s.1,pP e p.1 p.2)/\∀C,∃C',fS n2 C C'/\∀k∈s.1,di C' w true e k n4)
  ([],[],none) rfl ?_ ?_ ⟨h3,rfl,rfl,fun O h=>(nomatch h),fun C=>(ai C (fun O O=>rfl) (fun O h=>nomatch h))⟩ (fun p r s n4 hP=>?_) fun s n4 hP=>?_
 ·rfl
 ·refine Eq.symm ?_;show upd _ tm (.aO (ts++[]))=_;refine ab (TU ..) ?_;exact dS ((ak K3.symm).trans ((ak GG.symm).trans uS))
 ·refine Dm hP fun q1 q2 q3 q4 q5=>?_;have hp:p∈L:=q2▸TQ _ (TM ..);have Bf:p.1∈ks:=hL▸TV hp;have KG:L.flatMap (fun p=>p.2.2)=s.2.1.flatMap (fun p=>p.2.2)++(p.2.2++r.flatMap fun p=>p.2.2):=by exact bk q2 (ab T7 (ab Uu rfl))
  rw [KG] at mf w6;have nP:(av e p.1).length<=400:=TF (Vh (by
   refine eJ (V0 Bf) fun u v e0=>?_;show (av e p.1).Sublist (aM e ks);refine ab e0 (ab cE ?_);exact (Vz ..).trans (Vu ..))) zD
  have hgy:upd (upd (upd H x (.dict (EL lim (fP w (aM e ks)) "Kids" (.ag (L.map fun p=>p.2.1))))) y (.list (s.1.map (aS w true e)))) tm (.aO (ts++(s.2.1.flatMap fun p=>p.2.2).map xP)) y=some (.list (s.1.map (aS w true e))):=(ak K3).trans ae;refine (ai _ hgy (ih hd (A9 p hp) (hn.2 p.1 Bf) nP ae mf.split.2.split.1 vI.more vH (by
    rw [TG,TG] at w6;refine ab (TG ..) (ab (TH ..) ?_);exact aH (cm ts.length _ p.snd.snd.length _) [(1,.add aq (.add aw (.add aN bL)),.num 900)] (.add (.add aq aw) aN) (.num 900) rfl w6) fun t' n5 h5 fO hT=>?_))
  refine ab aX ?_;have Nx:s.1.length<=400:=by
   have:(s.2.1.map fun p=>p.1).length<=ks.length:=by refine ab hL (bk q2 (ab TR (ab TG ?_)));exact TZ ..
   rw [TH] at this;exact aH (cm ((aM e ks).length) ks.length s.fst.length s.snd.fst.length) [(1,aq,.num 400),(1,aw,aq),(1,aN,bL),(1,bL,aw)] aN (.num 400) rfl zD fW (TL hP.2.2.1) this
  refine (ai _ ((ak K3).trans ae) (aV (by refine ab (TH ..) ?_;exact TF Nx (by decide)) (Dp (s.1++[t'],s.2.1++[p],some p.2.1) rfl ?_ (TF q1 h5) (by refine bk (q2 ..) (ab (T5 ..) ?_);rfl) (by refine ab TG (ab TG (ab q3 ?_));rfl) ?_ (fun C=>?_))))
  ·refine ab (CW K3.symm ..) (ab (aX ..) (ab (T7 ..) (ab (VG ..) (ab (TR ..) (ab (T5 ..) (ab (TR ..) ?_))))));rfl
  ·intro q hq;rw [TR,List.zip_append (by refine ab (TH ..) ?_;exact q3.symm)] at hq;rcases T6.mp hq with hq | hq
   ·exact q4 q hq
   ·refine ab (TK.mp hq) ?_;exact fO
  ·refine ah (q5 C) fun C1 Ia rp=>?_;refine ah (hT C1) fun C2 nH k8=>?_;refine (ai C2 (Ia.trans nH q1) (fun k hk=>?_));rcases T6.mp hk with hk | hk
   ·exact (rp k hk).mono nH h5
   ·refine ab (TK.mp hk) ?_;exact k8
 ·refine Dm hP fun q1 q2 q3 q4 q5=>?_;rw [TU] at q2;have hgx:cB (upd (upd (upd H x (.dict (EL lim (fP w (aM e ks)) "Kids" (.ag (L.map fun p=>p.2.1))))) y (.list (s.1.map (aS w true e)))) tm (.aO (ts++(s.2.1.flatMap fun p=>p.2.2).map xP))) y x=some (.dict (EL lim (fP w (aM e ks)) "Kids" (.ag (L.map fun p=>p.2.1)))):=(cT Bk.symm).trans ((ak GG).trans ((ak Bk.symm).trans ae));refine ⟨y,_,rfl,(ak K3).trans ae,_,hgx,aL Kk (aV NQ (ai _ ae ?_))⟩;refine ab (Qu h0 hyn GG K3) ?_;have mh:bM (EL lim (fP w (aM e ks)) "Kids" (.ag (L.map fun p=>p.2.1))) (.str "Kids") (.ag (s.1.map (aS w true e)))=EL lim (fP w (aM e ks)) "Kids" (.ag (s.1.map (aS w true e))):=by cases lim <;> rfl
  have fO:pP (e+1) (a,ks) (x,s.1):=(bW ((s.2.1.map fun p=>p.1).zip s.1) (by rw [W6 (TL (by refine ab (TH ..) ?_;exact q3.symm)),q2];exact hL) ((List.map_snd_zip (TL (by refine ab (TH ..) ?_;exact q3))).symm) q4);have Nm:aM e ks=aM e s.1:=fO.av;refine ab mh ?_;have:=h (x,s.1) n4 (TF h1 (TF hx (TF (Uo x) (TF hy (TF (Uo y) (TF h2 q1)))))) fO fun C=>by
   refine ah (q5 (kZ C [(x,ents w lim (e+1) (x,s.1))])) fun C' hC ht=>?_;have vJ:x<n2:=TO (Nat.lt_of_succ_le hy) (TF (Uo y) h2);refine (du C' (fun b hb=>(hC b (TO hb (TF h1 (TF hx (Ud vJ))))).trans ?_) (TO vJ q1) ((hC x vJ).trans (dM (UY ..) (x,ents w lim (e+1) (x,s.1)) (T1 _))) ht);exact eB (n:=n) (fun p hp=>by refine ab (TK.mp hp) ?_;exact TF h1 hx) b hb
  refine ab q2 (ab Nm ?_);exact this
theorem gk {xs:List V}{w:Bool}{t0 r0 tm:Addr}(e:Nat):GK G xs w t0 r0 tm e:=by
 induction e with
 | zero=>
  intro d n H Q t v ns ts ws hd hr hn hz uS mf vI vH w6 h;refine cu hr.rs fun nd gA vE yM hc=>?_;refine aF ok fn.f27 (kd:=4) hd rfl fun d d1 ne aJ=>?_;have Nj:gA=[]:=by refine ah vE fun O O e=>?_;exact e
  rcases hc with ⟨rfl,rfl⟩ | ⟨i,rfl,rfl⟩
  ·refine c9 ok fn (TF (by decide) d1) yM.2 (TF vH (by decide)) fun n1 h1=>AS ok fn d1 vE yM fun t' n' jm fO hT=>?_;have:=h t' n' (TF aJ (TF h1 jm)) fO fun C=>by
    refine ah (hT C) fun C' hC ht=>?_;exact (ai C' (fun a ha=>hC a (TO ha (TF aJ h1))) ht)
   rw [Nj,List.map_nil,TU,dS uS] at this;exact this
  ·refine Qq ok fn (TF (by decide) d1) uS (mf.way vI) (mf.2 i (TM ..)) (TF vH (by decide)) (by rw [TS] at w6;exact aH (bc ts.length gA.length) [(1,.add aq (.add aw ay),.num 900)] aq (.num 1000) rfl w6) fun n1 h1=>AS ok fn d1 vE yM fun t' n' jm fO hT=>?_;have:=h t' n' (TF aJ (TF h1 jm)) fO fun C=>by
    refine ah (hT C) fun C' hC ht=>?_;exact (ai C' (fun a ha=>hC a (TO ha (TF aJ h1))) ht)
   rw [Nj] at this;exact this
 | succ e ih=>
  intro d n H Q t v ns ts ws hd hr hn hz uS mf vI vH w6 h;refine cu hr.rs fun nd gA vE yM hc=>?_;refine aF ok fn.f27 (kd:=e+5) (aH (bc e d) [(1,.add (.add aq ay) (.num 5),aw)] (.add (.add aq (.num 5)) ay) aw rfl hd) rfl fun d d1 ne aJ=>?_;rcases hc with ⟨rfl,rfl⟩ | ⟨i,rfl,rfl⟩
  ·refine c9 ok fn (TF (aH (bI e) [] ay (.add aq (.num 5)) rfl) d1) yM.2 (TF (TZ _ _) (TF vH (by decide))) fun n1 h1=>AU ok fn (ts:=ts) ih d1 vE yM hn hz uS mf ?_ (by refine ab TG ?_;show ws.length+1+e<=39;exact aH (bc ws.length e) [(1,.add aq (.add aw ay),.num 39)] (.add (.add aq ay) aw) (.num 39) rfl vH) w6 fun t' n' jm fO hT=>?_
   ·intro p hp;rcases T6.mp hp with hp | hp
    ·exact vI p hp
    ·exact .inl (TK.mp hp)
   ·exact h t' n' (TF aJ (TF h1 jm)) fO fun C=>by
     refine ah (hT C) fun C' hC ht=>?_;exact (ai C' (fun a ha=>hC a (TO ha (TF aJ h1))) ht)
  ·refine Qq ok fn (TF (aH (bI e) [] ay (.add aq (.num 5)) rfl) d1) uS (mf.way vI) (mf.2 i (TM ..)) (TF (TZ _ _) (TF vH (by decide))) (by rw [TS] at w6;exact aH (bc ts.length gA.length) [(1,.add aq (.add aw ay),.num 900)] aq (.num 1000) rfl w6) fun n1 h1=>AU ok fn (ts:=ts++[xP i]) ih d1 vE yM hn hz ae mf.tail ?_ (by refine ab TG ?_;show ws.length+1+e<=39;exact aH (bc ws.length e) [(1,.add aq (.add aw ay),.num 39)] (.add (.add aq ay) aw) (.num 39) rfl vH) (by refine ab TG (ab Wz ?_);rw [TS] at w6;exact aH (bc ts.length gA.length) [(1,.add aq (.add aw ay),.num 900)] (.add (.add aq ay) aw) (.num 900) rfl w6) fun t' n' jm fO hT=>?_
   ·intro p hp;rcases T6.mp hp with hp | hp
    ·exact vI.more p hp
    ·refine ab (TK.mp hp) (ab TR ?_);exact .inr (TQ _ (T1 _))
   ·have:=h t' n' (TF aJ (TF h1 jm)) fO fun C=>by
     refine ah (hT C) fun C' hC ht=>?_;exact (ai C' (fun a ha=>hC a (TO ha (TF aJ h1))) ht)
    refine ab (aX ..) (ab (T5 ..) ?_);exact this
theorem Qn {xs:List V}{w lim:Bool}{t0 r0:Addr}{e:Nat}{t:Tr e}{v:V}{ns:List Nat}(hd:e+6<=d)(hr:RN xs w lim e t v ns)(hn:e=0\/Ne e t)(hz:(av e t).length<=400)(mf:ns.Nodup)(he:e<=30)(vC:ns.length<=900)
 (h:∀t' n',n<=n'->pP e t t'->(∀C,∃C',fS n C C'/\di C' w lim e t' n')->Q (aS w lim e t') H n'):aE G d 27 [eW t0 r0 (bU 0 xs),v] H n Q:=by
 refine cu (RK.rs (.inl hr:RK xs w lim e t v ns)) fun nd gA vE yM hc=>?_;have IK:Rs (bU 0 xs) v v:=by
  rcases hc with ⟨rfl,_⟩ | ⟨i,rfl,_⟩
  ·exact yM
  ·cases e with
   | zero=>refine ah hr fun a h O=>?_;injection h
   | succ e=>refine dg hr fun a L h O=>?_;injection h
 refine aE.pure (aF ok fn.Qz (kd:=e+5) hd rfl fun d d1 ne aJ tm Ep NB=>?_);have keep:∀T:bG,∀a o,H a=some o->upd (upd H tm (.aO [])) tm T a=some o:=fun T a o ho=>by
  refine ab aX ?_;exact (ak fun q=>by rw [q,NB] at ho;injection ho).trans ho
 have NN:∀a o,H a=some o->upd H tm (.aO []) a=some o:=fun a o ho=>(ak fun q=>by rw [q,NB] at ho;injection ho).trans ho;refine c9 ok fn (ws:=[]) (TF (aH (bI e) [] ay (.add aq (.num 5)) rfl) d1) IK.2 (Ur _) fun n1 h1=>?_
 cases e with
 | zero=>exact AS ok fn (TF (by decide) d1) hr IK fun t' n' jm fO hT=>⟨NN,h t' n' (TF aJ (TF Ep (TF (Uo tm) (TF h1 jm)))) fO fun C=>by
   refine ah (hT C) fun C' hC ht=>?_;exact (ai C' (fun a ha=>hC a (TO ha (TF aJ (TF Ep (TF (Uo tm) h1))))) ht)⟩
 | succ e=>exact AU ok fn (ts:=[]) (ws:=[[-1, -1]]) (gk ok fn e) (TF (aH (bI e) [] (.add aq (.num 5)) (.add (.add aq ay) (.num 5)) rfl) d1) hr IK (hn.elim (fun e=>nomatch e) id) hz ae ⟨mf,fun O O h=>nomatch h⟩ (fun p hp=>.inl (TK.mp hp)) (by show 1+e<=39;exact aH (bI e) [(1,.add aq ay,.num 30)] (.add ay aq) (.num 39) rfl he) (by show 0+ns.length<=900;exact aH (bI ns.length) [(1,aq,.num 900)] (.add rH aq) (.num 900) rfl vC) fun t' n' jm fO hT=>⟨keep _,h t' n' (TF aJ (TF Ep (TF (Uo tm) (TF h1 jm)))) fO fun C=>by
   refine ah (hT C) fun C' hC ht=>?_;exact (ai C' (fun a ha=>hC a (TO ha (TF aJ (TF Ep (TF (Uo tm) h1))))) ht)⟩
end
structure i9 (H H':AH)(f tm l:Addr)(F:List V)(T:List (List Int × V))(L:List V):Prop where
 found:H' f=some (.list F)
 times:H' tm=some (.aO T)
 line:H' l=some (.list L)
 keep:∀a o,H a=some o->H' a=some o
structure zM (H:AH)(f tm l:Addr):Prop where
 f0:H f=none
 t0:H tm=none
 l0:H l=none
 ft:f≠tm
 fl:f≠l
 tl:tm≠l
section
variable {H H':AH}{f tm l:Addr}{F:List V}{T:List (List Int × V)}{L:List V}
theorem bH (h:∀a o,H a=some o->H' a=some o){b:Addr}{o:bG}(hb:H b=none):∀a o',H a=some o'->upd H' b o a=some o':=fun a o' e=>(ak fun q=>by rw [q,hb] at e;injection e).trans (h a o' e)
theorem i9.Ft (h:i9 H H' f tm l F T L)(n:zM H f tm l)(L':List V):i9 H (upd H' l (.list L')) f tm l F T L':=⟨(ak n.fl).trans h.found,(ak n.tl).trans h.times,ae,bH h.keep n.l0⟩
theorem i9.Tb (h:i9 H H' f tm l F T L)(n:zM H f tm l)(T':List (List Int × V)):i9 H (upd H' tm (.aO T')) f tm l F T' L:=⟨(ak n.ft).trans h.found,ae,(ak n.tl.symm).trans h.line,bH h.keep n.t0⟩
theorem i9.jL (h:i9 H H' f tm l F T L)(n:zM H f tm l)(F':List V):i9 H (upd H' f (.list F')) f tm l F' T L:=⟨ae,(ak n.ft.symm).trans h.times,(ak n.fl.symm).trans h.line,bH h.keep n.f0⟩
end
noncomputable abbrev bK:=(e:Nat) × (Tr e × Bool × V × List Nat × List (List Int))
noncomputable def bK.v (i:bK):V:=.tup [i.2.2.2.1,.tup (cf i.2.2.2.2.2)]
noncomputable def bK.av (i:bK):List PR:=Internal.av i.1 i.2.1
noncomputable def bK.bu (i:bK):List Addr:=Internal.bu i.1 i.2.1
noncomputable abbrev bK.ns (i:bK):List Nat:=i.2.2.2.2.1
noncomputable abbrev bK.ws (i:bK):List (List Int):=i.2.2.2.2.2
structure qU (xs:List V)(w:Bool)(i:bK):Prop where
 rk:RK xs w i.2.2.1 i.1 i.2.1 i.2.2.2.1 i.ns
 ne:i.1=0\/Ne i.1 i.2.1
 kd:Kd w (Internal.av i.1 i.2.1)
 eU:(Internal.av i.1 i.2.1).length<=400
 way:i.ws.length+i.1<=40
theorem i4:∀(l:List bK),l.length<=(l.flatMap bK.bu).length
 | []=>Ur _
 | i::l=>by
  refine ab (Uu ..) (ab (TG ..) (ab (TS ..) (ab (Vv ..) ?_)));exact Vf (by show 1<=(Internal.bu i.1 i.2.1).length;refine ab (dJ ..) ?_;exact Um (Ur _)) (i4 l)
structure x7 where
 H:AH
 done:List PR
 ts:List (List Int × V)
 oZ:List bK
 r6:Option V
 r7:Option V
 r8:Option V
structure I10 (H:AH)(xs:List V)(w:Bool)(f tm l:Addr)(ps:List PR)(n n1:Nat)(s:x7):Prop where
 g1:n<=n1
 g2:i9 H s.H f tm l (s.done.map aB) s.ts (s.oZ.map bK.v).reverse
 g3:s.done++s.oZ.flatMap bK.av=ps
 g4:(s.oZ.flatMap bK.bu).length<=900
 g5:∀i∈s.oZ,qU xs w i/\hU i.ws s.ts
 g6:eQ (s.oZ.flatMap bK.ns) s.ts
 g7:s.ts.length+(s.oZ.flatMap bK.ns).length<=900
section
variable {G:aA}{d:Nat}{H:AH}{n:Nat}{Q:KV}(ok:aZ G)(fn:fJ G)
include ok fn
theorem C6 {xs:List V}{w lim:Bool}{t0 r0 tm:Addr}{e:Nat}{t:Tr e}{v:V}{ns R:List Nat}{ts:List (List Int × V)}{ws:List (List Int)}{Q:V->KV}(hd:2<=d)(hr:RK xs w lim e t v ns)(uS:H tm=some (.aO ts))(mf:eQ (ns++R) ts)(vI:hU ws ts)(vH:ws.length<=40)(w6:ts.length<=1000)
 (h:∀nd gA us sF n',n<=n'->RN xs w lim e t nd gA->eQ (gA++R) (ts++us)->hU (ws++[sF]) (ts++us)->us.length+gA.length=ns.length->Q (.tup (cf (ws++[sF]))) nd (upd H tm (.aO (ts++us))) n'):
 aE G d 9 [.tup (cf ws),v,.ref tm] H n fun wv H1 n1=>aE G d 5 [eW t0 r0 (bU 0 xs),v] H1 n1 fun nd H2 n2=>Q wv nd H2 n2:=by
 refine cu hr.rs fun nd gA vE yM hc=>?_;have w3:∃a es,nd=.az a es:=by
  cases e with
  | zero=>refine mP vE fun a O=>?_;exact (uX _ _ rfl)
  | succ e=>refine x6 vE fun a L O=>?_;exact (uX _ _ rfl)
 refine eJ w3 fun a es jI=>?_;subst jI;rcases hc with ⟨rfl,rfl⟩ | ⟨i,rfl,rfl⟩
 ·refine c9 ok fn (TF (by decide) hd) yM.2 vH fun n1 h1=>c5 ok fn hd cM yM fun n2 h2=>?_;have:=h _ ns [] [-1, -1] n2 (TF h1 h2) vE (by refine ab (TU ..) ?_;exact mf) (fun p hp=>by
   refine ab (TU ..) ?_;rcases T6.mp hp with hp | hp
   ·exact vI p hp
   ·exact .inl (TK.mp hp)) (UL _)
  rw [TU,dS uS] at this;exact this
 ·refine Qq ok fn (TF (by decide) hd) uS (mf.way vI) (mf.2 i (TM ..)) vH w6 fun n1 h1=>c5 ok fn hd cM yM fun n2 h2=>?_;exact h _ gA [xP i] [(i:Int)+1,0] n2 (TF h1 h2) vE mf.tail (fun p hp=>by
   rcases T6.mp hp with hp | hp
   ·exact vI.more p hp
   ·refine ab (TK.mp hp) (ab TR ?_);exact .inr (TQ _ (T1 _))) (Vv 1 _)
noncomputable def cc {e:Nat}(L:List (Tr e × V × List Nat))(ws:List (List Int)):List bK:=L.map fun p=>⟨e,p.1,true,p.2.1,p.2.2,ws⟩
theorem Qj {xs:List V}{w lim:Bool}{t0 r0:Addr}{e:Nat}{t:Tr e}{v:V}{ns:List Nat}(hd:5<=d)(hi:qU xs w ⟨e,t,lim,v,ns,[]⟩)(mf:ns.Nodup)(hsz:(bu e t).length<=900)(vC:ns.length<=900)
 (h:∀n',n<=n'->Q (.ag ((av e t).map aB)) H n'):aE G d 10 [eW t0 r0 (bU 0 xs),v,.str (wd w)] H n Q:=by
 refine aE.pure (aF ok fn.f10 hd rfl fun d d1 ne aJ f yB Q0 tm zC rp l Q8 tK=>?_);have n3:zM H f tm l:=by
  have ft:f≠tm:=fun q=>by rw [<- q,ae] at rp;injection rp
  have fl:f≠l:=fun q=>by rw [<- q,ak ft,ae] at tK;injection tK
  have tl:tm≠l:=fun q=>by rw [<- q,ae] at tK;injection tK
  exact ⟨Q0,by refine bk (ak (H:=H) (o:=.list []) ft.symm) ?_;exact rp,by refine bk (ak (H:=H) (o:=.list []) fl.symm) (bk (ak (H:=upd H f (.list [])) (o:=.aO []) tl.symm) ?_);exact tK,ft,fl,tl⟩
 have KN:n<=l+1:=TF aJ (TF yB (TF (Uo f) (TF zC (TF (Uo tm) (TY Q8)))));show xX _ _ _ _ _ _;refine Lc (α:=x7) (fun s=>[some (eW t0 r0 (bU 0 xs)),some v,some (.str (wd w)),some (.ref f),some (.ref tm),some (.ref l),s.r6,s.r7,s.r8]) x7.H (fun s=>(s.oZ.flatMap bK.bu).length)
  (fun n1 s=>I10 H xs w f tm l (av e t) n n1 s)
  ⟨upd (upd (upd H f (.list [])) tm (.aO [])) l (.list [.tup [v,.tup []]]),[],[],[⟨e,t,lim,v,ns,[]⟩],none,none,none⟩ ?_ ?_ ⟨KN,⟨(ak n3.fl).trans ((ak n3.ft).trans ae),(ak n3.tl).trans ae,ae,bH (bH (bH (fun O O h=>h) n3.f0) n3.t0) n3.l0⟩,TU _,by show (bu e t++[]).length<=900;refine ab (TU ..) ?_;exact hsz,fun i h=>by refine ab (TK.mp h) ?_;exact ⟨hi,fun O h=>(nomatch h)⟩,⟨by show (ns++[]).Nodup;refine ab (TU ..) ?_;exact mf,fun O O h=>(nomatch h)⟩,by show 0+(ns++[]).length<=900;refine ab (TU ..) (ab (UL ..) ?_);exact vC⟩ ?_
 ·rfl
 ·rfl
 intro s n1 g;have aI:((s.oZ.map bK.v).reverse).length<=900:=by refine ab (U3 ..) (ab (TH ..) ?_);exact TF (i4 s.oZ) g.g4
 refine (ai _ g.g2.line (aV (TF aI (by decide)) (br (fun c=>?_) fun c=>?_)))
 ·cases hs:s.oZ with
  | nil=>rw [hs] at c;injection c
  | cons i r=>
   obtain ⟨e1,t1,l1,v1,GY,kJ⟩:=i;have g1:=g.g1;have g2:i9 H s.H f tm l (s.done.map aB) s.ts ((r.map bK.v).reverse++[.tup [v1,.tup (cf kJ)]]):=by
    have q:=g.g2;rw [hs,UJ,List.reverse_cons] at q;exact q
   have g5:∀i∈(⟨e1,t1,l1,v1,GY,kJ⟩:bK)::r,qU xs w i/\hU (bK.ws i) s.ts:=hs▸g.g5;have g0:=g5 _ (TM ..);have hk:RK xs w l1 e1 t1 v1 GY:=g0.1.rk;have jC:e1=0\/Ne e1 t1:=g0.1.ne;have d9:Kd w (av e1 t1):=g0.1.kd;have yC:(av e1 t1).length<=400:=g0.1.eU;have rq:kJ.length+e1<=40:=g0.1.way;have hwo:hU kJ s.ts:=g0.2;have hm:(s.oZ.flatMap bK.bu).length=(bu e1 t1++r.flatMap bK.bu).length:=by rw [hs];rfl
   have rj:(bu e1 t1).length+(r.flatMap bK.bu).length<=900:=TF (TL (TG.symm.trans hm.symm)) g.g4;have gl:=g2.line;have Nr:(r.flatMap bK.bu).length<=900:=TF (Uc ..) rj;have Rf:eQ (GY++r.flatMap bK.ns) s.ts:=by have q:=g.g6;rw [hs] at q;exact q
   have Pr:s.ts.length+(GY.length+(r.flatMap bK.ns).length)<=900:=by
    have q:=g.g7;rw [hs,Uu,TG] at q;exact q
   have eY:s.done++(av e1 t1++r.flatMap bK.av)=av e t:=by have q:=g.g3;rw [hs] at q;exact q
   refine (ai _ gl (cg _ _ gl (aV (by refine ab (U3 ..) (ab (TH ..) ?_);exact TF (i4 r) (TF Nr (by decide))) ?_)));have o1:=g2.Ft n3 (r.map bK.v).reverse;refine C6 ok fn (TF (by decide) d1) hk o1.times Rf hwo (TF (TZ _ _) rq) (aH (bc _ _) [(1,.add aq aw,.num 900)] aq (.num 1000) rfl g.g7) fun nd gA us sF n2 h2 vE qn Rt KW=>?_;have o2:=o1.Tb n3 (s.ts++us);have qo:∀i∈r,qU xs w i/\hU i.ws (s.ts++us):=fun i hi=>⟨(g5 i (TP _ hi)).1,(g5 i (TP _ hi)).2.more⟩
   cases e1 with
   | zero=>
    refine mP vE fun a lu=>?_;subst lu;refine aL ax (fB IT (ai _ o2.found (c7 ok fn d1 cM ax jz d9 (TF yC (by decide)) fun n5 h5=>(ai _ o2.found (aV ?_ (du ⟨upd (upd (upd s.H l (.list (r.map bK.v).reverse)) tm (.aO (s.ts++us))) f (.list (s.done.map aB++(av 0 t1).map aB)),s.done++t1.2,s.ts++us,r,_,_,_⟩ rfl rfl ⟨TF g1 (TF h2 h5),?_,?_,Nr,qo,?_,?_⟩ ?_))))))
    ·refine bk (TG ..) (bk (TR ..) (ab (TH ..) ?_));have h9:=hi.eU;rw [show Internal.av e t=s.done++(av 0 t1++r.flatMap bK.av) from eY.symm, <- T5,TG] at h9;exact TF (TF (TZ _ _) h9) (by decide)
    ·show i9 H _ f tm l ((s.done++t1.2).map aB) _ _;refine ab TR ?_;exact o2.jL n3 _
    ·show s.done++t1.2++_=_;refine ab (T5 ..) ?_;exact eY
    ·exact qn
    ·show (s.ts++us).length+(r.flatMap bK.ns).length<=900;have KW:us.length+0=GY.length:=KW;refine ab TG ?_;exact aH (cm s.ts.length GY.length ((VH bK.ns r).length) us.length) [(1,.add aq (.add aw aN),.num 900),(1,.add bL rH,aw)] (.add (.add aq bL) aN) (.num 900) rfl Pr (TL KW)
    ·show (r.flatMap bK.bu).length<((bu 0 t1)++r.flatMap bK.bu).length;refine ab TG ?_;exact Nat.lt_add_of_pos_left WI
   | succ e1=>
    obtain ⟨a,ks⟩:=t1;refine fL vE fun a2 L hL zc A9=>?_;subst zc;have hL:ks=L.map fun p=>p.1:=hL;have w2:Ne (e1+1) (a,ks):=jC.elim (fun e=>nomatch e) id;have zD:(aM e1 ks).length<=400:=yC;have fW:=dO ks w2.2;have hLl:L.length<=400:=by
     have:ks.length=L.length:=by exact ab (hL ..) (ab (TH ..) rfl)
     exact aH (bC ((aM e1 ks).length) ks.length L.length) [(1,aq,.num 400),(1,aw,aq),(1,aN,aw)] aN (.num 400) rfl zD fW (TL this.symm)
    have NL:(cc L (kJ++[sF])).flatMap bK.bu=aT e1 ks:=by
     unfold cc aT;refine ab (hL ..) (ab (UO ..) (ab (UO ..) ?_));rfl
    have RB:(cc L (kJ++[sF])).flatMap bK.av=aM e1 ks:=by
     unfold cc aM;refine ab (hL ..) (ab (UO ..) (ab (UO ..) ?_));rfl
    have kns:(cc L (kJ++[sF])).flatMap bK.ns=L.flatMap fun p=>p.2.2:=by
     unfold cc;exact ab (UO ..) rfl
    have Gr:(aT e1 ks).length+1+(r.flatMap bK.bu).length<=900:=rj;refine aL nk (jU (by refine ab fD ?_;rfl) (ai _ o2.line (c6 ok fn (TF (by decide) d1) .frozen cM nk fD fun n5 h5 n6 h6=>aV (by refine ab (U3 ..) (ab (TH ..) ?_);exact TF hLl (by decide)) ?_)));refine bk List.map_reverse ?_;refine cx (fun p:Tr e1 × V × List Nat=>V.tup [p.2.1,.tup (cf (kJ++[sF]))]) _ L.reverse (fun p hp n7 K K2 h7 hK=>hK n7 (TJ _)) fun n7 h7=>(ai _ o2.line (aV ?_ (du ⟨upd (upd (upd s.H l (.list (r.map bK.v).reverse)) tm (.aO (s.ts++us))) l (.list ((r.map bK.v).reverse++L.reverse.map fun p:Tr e1 × V × List Nat=>V.tup [p.2.1,.tup (cf (kJ++[sF]))])),s.done,s.ts++us,cc L (kJ++[sF])++r,_,_,_⟩ rfl rfl ⟨TF g1 (TF h2 (TF h5 (TF h6 h7))),?_,?_,?_,fun i hi=>?_,?_,?_⟩ ?_)))
    ·refine ab (U3 ..) (ab (TH ..) (ab (TH ..) (ab (U3 ..) ?_)));have:=i4 r;exact aH (cm L.length ((aT e1 ks).length) ((VH bK.bu r).length) r.length) [(1,aq,.num 400),(1,.add (.add aw ay) aN,.num 900),(1,bL,aN)] (.add bL aq) (.num 1000000) rfl hLl Gr this
    ·have e9:((cc L (kJ++[sF])++r).map bK.v).reverse=(r.map bK.v).reverse++L.reverse.map fun p:Tr e1 × V × List Nat=>V.tup [p.2.1,.tup (cf (kJ++[sF]))]:=by
      unfold cc;refine ab TR (ab List.reverse_append (ab Ua (bk (List.map_reverse (l:=L)) ?_)));rfl
     show i9 H _ f tm l _ _ ((cc L (kJ++[sF])++r).map bK.v).reverse;refine ab e9 ?_;exact o2.Ft n3 _
    ·show s.done++(cc L (kJ++[sF])++r).flatMap bK.av=_;refine ab T7 (ab RB ?_);exact eY
    ·show ((cc L (kJ++[sF])++r).flatMap bK.bu).length<=900;refine ab T7 (ab NL (ab TG ?_));exact aH (bc ((aT e1 ks).length) ((VH bK.bu r).length)) [(1,.add (.add aq ay) aw,.num 900)] (.add aq aw) (.num 900) rfl Gr
    ·rcases T6.mp hi with hi | hi
     ·refine bY (TX.mp hi) fun p hp=>?_;have Bf:p.1∈ks:=hL▸TV hp;have nO:(av e1 p.1).Sublist (aM e1 ks):=by
       refine eJ (V0 Bf) fun u v e0=>?_;refine ab e0 (ab cE ?_);exact (Vz ..).trans (Vu ..)
      refine ⟨⟨A9 p hp,.inr (w2.2 p.1 Bf),fun q hq=>d9 q (nO.subset hq),TF nO.length_le zD,?_⟩,Rt⟩;show (kJ++[sF]).length+e1<=40;have:kJ.length+(e1+1)<=40:=rq;refine ab TG (ab Wz ?_);exact aH (bc kJ.length e1) [(1,.add aq (.add aw ay),.num 40)] (.add (.add aq ay) aw) (.num 40) rfl this
     ·exact qo i hi
    ·show eQ ((cc L (kJ++[sF])++r).flatMap bK.ns) _;refine ab T7 (ab kns ?_);exact qn
    ·show (s.ts++us).length+((cc L (kJ++[sF])++r).flatMap bK.ns).length<=900;refine ab T7 (ab kns (ab TG (ab TG ?_)));have KW:us.length+(L.flatMap fun p=>p.2.2).length=GY.length:=KW;exact aH (ml s.ts.length GY.length ((VH bK.ns r).length) us.length _) [(1,.add aq (.add aw aN),.num 900),(1,.add bL jc,aw)] (.add (.add aq bL) (.add jc aN)) (.num 900) rfl Pr (TL KW)
    ·show ((cc L (kJ++[sF])++r).flatMap bK.bu).length<(bu (e1+1) (a,ks)++r.flatMap bK.bu).length;refine ab T7 (ab NL (ab TG (ab TG ?_)));exact Nat.add_lt_add_right (Uj _) _
 ·cases hs:s.oZ with
  | cons i r=>
   rw [hs] at c;have:=of_decide_eq_false c;rw [U3] at this;exact absurd (UH.mpr (Vb _)) this
  | nil=>
   have eY:s.done=av e t:=by have q:=g.g3;rw [hs] at q;exact (TU _).symm.trans q
   have g2:=g.g2;refine ⟨_,g2.found,fun a o ho=>(cT fun q=>by rw [q,n3.f0] at ho;injection ho).trans (g2.keep a o ho),?_⟩;show Q (.ag (s.done.map aB)) H n1;refine ab eY ?_;exact h n1 g.g1
end
theorem l7a {a b c d e f:Option V}{x y:Int}(h:x=y):[a,b,c,d,some (V.int (x+1)),e,f]=[a,b,c,d,some (.int (y+1)),e,f]:=by exact ab h rfl
theorem l7b {a b c d e f:Option V}{x y:Int}(h:x=y):[a,b,c,d,e,some (V.int x),f]=[a,b,c,d,e,some (.int y),f]:=by exact ab h rfl
theorem EZ {w:Bool}{e:Nat}{ks:List (Tr e)}{j:Nat}(h:j<ks.length):(ks.map (aS w true e))[j]? =some (aS w true e ks[j]):=by refine ab Ui (ab (T9 h) ?_);rfl
noncomputable def mc (ps:List PR)(k:SK)(dv:V):V:=match ps.lookup k with | some i=>.int i | none=>dv
theorem lj {ps:List PR}{k:SK}(h:∀p∈ps,p.1≠k):ps.lookup k=none:=Vn.mpr fun p hp=>bne_iff_ne.mpr fun e=>h p hp e.symm
theorem wZ {a b c:List PR}{k:SK}{dv:V}(ha:∀p∈a,cL p.1 k=true)(hc:∀p∈c,p.1≠k):mc (a++(b++c)) k dv=mc b k dv:=by
 unfold mc;refine ab VZ (ab (lj fun p hp=>lN (ha p hp)) (ab VZ (ab (lj hc) ?_)));show (match (b.lookup k).or none with | some i=>V.int i | none=>dv)=_;exact ab Option.or_none rfl
theorem vm {ps:List PR}{k:SK}{dv:V}(h:∀p∈ps,p.1≠k):mc ps k dv=dv:=by unfold mc;exact ab (lj h) rfl
theorem D4 {ps M:List PR}{k:SK}{dv:V}(h:ps=ps.filter (fY k)++(M++ps.filter (gy k))):mc ps k dv=mc M k dv:=
 (congrArg (fun x=>mc x k dv) h).trans (wZ (fun p hp=>(UE.mp hp).2) fun p hp=>oo (UE.mp hp).2)
theorem mD {e:Nat}{b:Tr e}{ks:List (Tr e)}(h:b∈ks):(av e b).Sublist (aM e ks):=by
 refine Dv (V0 h) fun u v=>?_;refine ab cE ?_;exact (Vz ..).trans (Vu ..)
section
variable {G:aA}{d:Nat}{H:AH}{n:Nat}{Q:KV}{w:Bool}{k:SK}{t0 r0:Addr}{es:List (SK × V)}(ok:aZ G)(fn:fJ G)
include ok fn
theorem c12 {e:Nat}{A B:List (Tr e)}(hd:5<=d)(ht:aR es (.int 0)=true)(hn:∀t∈A++B,Ne e t)(hk:Kd w (aM e (A++B)))(me:k.tag=kt w)(hx:∀t∈A,cL (jn e t) k=true)(hy:∀t∈B,cL (jn e t) k=false)(hz:(A++B).length<=1000)(h:∀n',n<=n'->Q (.int A.length) H n'):
 aE G d 12 [eW t0 r0 es,.ag ((A++B).map (aS w true e)),.str (wd w),.sk k] H n Q:=
 have hl:((A++B).map (aS w true e)).length<=16777216:=by refine ab (TH ..) ?_;exact TF hz (by decide)
 aF ok fn.f12 hd rfl fun d d1 ne aJ=>by
 refine aV hl ?_;show xX _ _ _ _ _ _;refine PL (fun s:Nat × Nat × Option V=>[some (eW t0 r0 es),some (.ag ((A++B).map (aS w true e))),some (.str (wd w)),some (.sk k),some (.int (s.1:Nat)),some (.int (s.2.1:Nat)),s.2.2]) (fun O=>H) (fun s=>s.2.1 - s.1)
  (fun s=>s.1<=A.length/\A.length<=s.2.1/\s.2.1<=(A++B).length) (0,((A++B).map (aS w true e)).length,none) ?_ ?_ ⟨Ur _,by refine ab (TH ..) (ab (TG ..) ?_);exact TZ ..,TL (TH ..)⟩ ?_
 ·rfl
 ·rfl
 exact fun s n' jm hs=>br (fun c=>by
   have hm:=ML (UH.mp (of_decide_eq_true c));have hj:=TO hm.2 hs.2.2;have jB:=UN hj;have jC:=hn _ jB;have Iy:=eM hk _ jB;refine dh ((congrArg (DE _) (nx s.1 s.2.1)).trans (EZ hj)) (aV hl (c5 ok fn (TF (by decide) d1) ht (.self rfl) fun n1 h1=>c8 ok fn d1 ht ax dk (j6 jC Iy) (iG jC Iy) fun n2 h2=>aL (ct (iG jC Iy) me) ?_))
   by_cases hc:(s.1+s.2.1) / 2<A.length
   ·have hg:=hx _ (UN hc);rw [<- List.getElem_append_left (bs:=B) hc (h':=hj)] at hg;exact jU hg (du ((s.1+s.2.1) / 2+1,s.2.1,some (.int (((s.1:Int)+s.2.1).fdiv 2))) (l7a (nx s.1 s.2.1)) rfl ⟨TF jm (TF h1 h2),hc,hs.2⟩ (WN (UB hm.1 hm.2) (VR hm.1)))
   ·have hc:=Ux.mp hc;have hg:=hy _ (UN (Nat.sub_lt_left_of_lt_add hc ((TG (as:=A) (bs:=B))▸hj):(s.1+s.2.1) / 2 - A.length<B.length));rw [<- List.getElem_append_right (as:=A) hc (h₂:=hj)] at hg;exact fB hg (du (s.1,(s.1+s.2.1) / 2,some (.int (((s.1:Int)+s.2.1).fdiv 2))) (l7b (nx s.1 s.2.1)) rfl ⟨TF jm (TF h1 h2),hs.1,hc,Ud hj⟩ (Nat.sub_lt_sub_right hm.1 hm.2))) fun c=>by
   refine ab (UC hs.1 (TF hs.2.1 (Ul.mp (U2.mp (of_decide_eq_false c))))) ?_;exact h n' (TF aJ jm)
structure FSt where
 e:Nat
 lim:Bool
 t:Tr e
 v6:Option V
 v7:Option V
 v8:Option V
 v9:Option V
 v10:Option V
structure FOk (w:Bool)(k:SK)(dv:V)(ps:List PR)(m:Nat)(s:FSt):Prop where
 eU:s.e<m
 ne:s.e=0\/Ne s.e s.t
 ko:fq (av s.e s.t)
 kd:Kd w (av s.e s.t)
 len:(av s.e s.t).length<=400
 mc:mc (av s.e s.t) k dv=Internal.mc ps k dv
theorem yq {lim:Bool}{t:Tr 0}{dv:V}{r1 r5 r6 r8 r9 mj:Option V}{K:KR}{R:KV}(hd:4<=d)(ht:aR es (.int 0)=true)(me:k.tag=kt w)(hs:fq (av 0 t))(hk:Kd w (av 0 t))(hz:(av 0 t).length<=400)(h:∀n',n<=n'->R (mc (av 0 t) k dv) H n'):
 kN G d [.asg (.var 8) (.call 7 [.var 0,.var 7,.var 2]),.asg (.var 9) (.call 11 [.lc 2 (.sub (.var 12) (.int 0)) (.var 12) .pl [.var 8] [],.var 3]),.ret (.ite (.gx .And [.cmp .Lt (.var 9) (.bi .len [.var 8]),.cmp .Eq (.sub (.sub (.var 8) (.var 9)) (.int 0)) (.var 3)]) (.sub (.sub (.var 8) (.var 9)) (.int 1)) (.var 4))]
 [some (eW t0 r0 es),r1,some (.str (wd w)),some (.sk k),some dv,r5,r6,some (aS w lim 0 t),r8,r9,mj] H n K R:=by
 have hl:((av 0 t).map aB).length<=16777216:=by refine ab (TH ..) ?_;exact TF hz (by decide)
 refine ah (wc me hs hk) fun M hM MJ=>?_;have aI:((av 0 t).filter (fY k)).length+(M++(av 0 t).filter (gy k)).length=(av 0 t).length:=by exact bk TG (bk hM rfl)
 refine c7 ok fn hd ht ax jz hk (TF hz (by decide)) fun n1 h1 n2 h2=>aV hl (cx (fun p:PR=>V.sk p.1) aB (av 0 t) (fun p hp n3 K K2 h3 hK=>hK n3 (TJ _)) fun n3 h3=>?_);rw [show (av 0 t).map (fun p:PR=>V.sk p.1)=(((av 0 t).filter (fY k)).map T8++(M++(av 0 t).filter (gy k)).map T8).map V.sk by refine bk TR (bk hM (ab Ua ?_));rfl];refine OZ ok fn (TF (by decide) hd) (fun y hy=>?_) (fun y hy=>?_) (by refine bk (TR ..) (bk (hM ..) (ab (TH ..) ?_));exact TF hz (by decide)) fun n4 h4=>aV hl ?_
 ·refine bY (TX.mp hy) fun p hp=>?_;exact ⟨ct (hk p (UE.mp hp).1) me,(UE.mp hp).2⟩
 ·refine bY (TX.mp hy) fun p hp=>?_;refine ⟨ct (hk p (hM▸TQ _ hp)) me,?_⟩;rcases T6.mp hp with hp | hp
  ·rcases MJ with rfl | ⟨y,rfl⟩
   ·exact nomatch hp
   ·refine ab (TK.mp hp) ?_;exact fI
  ·exact fi (UE.mp hp).2
 have hR:=h n4 (TF h1 (TF h2 (TF h3 h4)));rw [D4 hM] at hR;have get:∀b B,M++(av 0 t).filter (gy k)=b::B->((av 0 t).map aB)[(((av 0 t).filter (fY k)).map T8).length]? =some (aB b):=fun b B hB=>by
  have:=eX (a:=(av 0 t).filter (fY k)) (b:=b) (c:=B);rw [<- hB, <- hM] at this;refine ab (TH ..) (ab (Ui ..) (ab (this ..) ?_));rfl
 rcases MJ with rfl | ⟨y,rfl⟩
 ·refine br (fun c=>?_) fun c=>hR;obtain ⟨b,B,hB⟩:∃b B,[]++(av 0 t).filter (gy k)=b::B:=by
   refine UG fun e2=>?_;have e3:=UH.mp (of_decide_eq_true c);rw [TH,TH,show Vc (t.2)=(av 0 t).length from rfl, <- aI,e2] at e3;exact VY _ e3
  obtain ⟨Ef,MQ⟩:=UE.mp (show b∈(av 0 t).filter (gy k) from (show (av 0 t).filter (gy k)=b::B from hB)▸TM ..);exact dh (get b B hB) (aV hl (aL (eA (hk b Ef) me) (fB (decide_eq_false fun e=>by rw [show gy k b=cL k b.1 from rfl,e,fI] at MQ;injection MQ) hR)))
 ·refine jU ?_ (dh (get (k,y) _ rfl) (aV hl (aL (eA me me) (jU (decide_eq_true rfl) (dh (get (k,y) _ rfl) (aV hl ?_))))))
  ·have e3:(((av 0 t).filter (fY k)).map T8).length<((av 0 t).map aB).length:=by
    refine ab (TH ..) (ab (TH ..) (bk (aI ..) ?_));exact U4 (Vb _)
   exact decide_eq_true (UH.mpr e3)
  ·unfold mc at hR;rw [Vi] at hR;exact hR
theorem yp {e:Nat}{t:Tr (e+1)}{lim:Bool}{dv:V}{r1 r5 r6 r8 r9 mj:Option V}{K:KR}{R:KV}(hd:5<=d)(ht:aR es (.int 0)=true)(me:k.tag=kt w)(hn:Ne (e+1) t)(hs:fq (av (e+1) t))(hk:Kd w (av (e+1) t))(hz:(av (e+1) t).length<=400)
 (qn:mc (av (e+1) t) k dv=dv->∀n',n<=n'->R dv H n') (yE:∀b∈t.2,mc (av (e+1) t) k dv=mc (av e b) k dv->∀n' v9 v10,n<=n'->K [some (eW t0 r0 es),r1,some (.str (wd w)),some (.sk k),some dv,some (aS w true e b),r6,some (aS w lim (e+1) t),r8,v9,v10] H n'):
 kN G d [.asg (.var 10) (.call 6 [.var 0,.var 7,.str "Kids"]),.asg (.var 9) (.call 12 [.var 0,.var 10,.var 2,.var 3]),.ite (.gx .Or [.cmp .Eq (.var 9) (.bi .len [.var 10]),.cmp .Lt (.var 3) (.sub (.call 8 [.var 0,.call 5 [.var 0,.sub (.var 10) (.var 9)],.var 2]) (.int 0))]) [.ret (.var 4)] [],.asg (.var 5) (.sub (.var 10) (.var 9))]
 [some (eW t0 r0 es),r1,some (.str (wd w)),some (.sk k),some dv,r5,r6,some (aS w lim (e+1) t),r8,r9,mj] H n K R:=by
 obtain ⟨a,ks⟩:=t;refine qQ (gU me ks hn.2 hs hk) fun A B iv hA hB AX C9=>?_;have fW:(A++B).length<=400:=iv▸TF (dO ks hn.2) hz;have hl:((A++B).map (aS w true e)).length<=16777216:=by refine ab (TH ..) ?_;exact TF fW (by decide)
 subst iv;refine c6 ok fn (TF (by decide) hd) .frozen ht ax iI fun n1 h1=>c12 ok fn hd ht hn.2 hk me hA hB (TF fW (by decide)) fun n2 h2=>aV hl ?_;have w2:=TF h1 h2
 cases B with
 | nil=>
  refine jU (decide_eq_true ?_) (qn (vm fun p hp=>lN (AX p ?_)) n2 w2)
  ·exact ab (TH ..) (ab (TU ..) rfl)
  ·rw [show av (e+1) (a,A++[])=aM e (A++[]) from rfl,TU] at hp;exact hp
 | cons b B=>
  have hb:b∈A++b::B:=TQ _ (TM ..);have hg:((A++b::B).map (aS w true e))[A.length]? =some (aS w true e b):=by refine ab Ui (ab eX ?_);rfl
  have El:=eM hk b hb;have Nm:av (e+1) (a,A++b::B)=aM e A++(av e b++aM e B):=cE;have Eo:fq (av e b):=((Uz.mp ((Uz.mp (show fq (aM e A++(av e b++aM e B)) from Nm▸hs)).2.1)).1);refine fB (decide_eq_false ?_) (dh hg (aV hl (c5 ok fn (TF (by decide) hd) ht (.self rfl) fun n3 h3=>c8 ok fn (TF (by decide) hd) ht ax dk (j6 (hn.2 b hb) El) (iG (hn.2 b hb) El) fun n4 h4=>aL (ct me (j6 (hn.2 b hb) El)) (br (fun c=>?_) fun c=>dh hg (aV hl ?_)))))
  ·refine ab (TH ..) (ab (TG ..) ?_);exact fun e0=>absurd (Int.ofNat_inj.mp (SK.int.inj e0)) (UA (U4 (Vb _)))
  ·refine qn (vm fun p hp=>?_) n4 (TF w2 (TF h3 h4));rw [Nm] at hp;rcases T6.mp hp with hp | hp
   ·exact lN (AX p hp)
   ·rcases T6.mp hp with hp | hp
    ·rcases tG Eo p hp with h | h
     ·exact oo (dE c h)
     ·exact oo (h▸c)
    ·exact oo (C9 b B rfl p hp)
  ·exact yE b hb (Nm▸wZ AX fun p hp=>oo (C9 b B rfl p hp)) n4 _ _ (TF w2 (TF h3 h4))
theorem c13 {e:Nat}{t:Tr e}{lim:Bool}{dv:V}(hd:6<=d)(ht:aR es (.int 0)=true)(me:k.tag=kt w)(hn:e=0\/Ne e t)(hs:fq (av e t))(hk:Kd w (av e t))(hz:(av e t).length<=400)(he:e<=40)(h:∀n',n<=n'->Q (mc (av e t) k dv) H n'):
 aE G d 13 [eW t0 r0 es,aS w lim e t,.str (wd w),.sk k,dv] H n Q:=
 aF ok fn.f13 hd rfl fun d d1 ne aJ=>by
 refine aV (show (41:Int).toNat<=16777216 by decide) fun n0 h0=>?_;refine yv (α:=FSt) (fun i:Nat=>.int i) (Un 41) (fun s=>[some (eW t0 r0 es),some (aS w lim e t),some (.str (wd w)),some (.sk k),some dv,some (aS w s.lim s.e s.t),s.v6,s.v7,s.v8,s.v9,s.v10]) (fun O=>H)
  (fun r n1 s=>n<=n1/\FOk w k dv (av e t) r.length s) ⟨e,lim,t,none,none,none,none,none⟩ rfl rfl rfl ⟨TF aJ h0,VR he,hn,hs,hk,hz,rfl⟩ (fun i r s n1 hs=>?_) fun s n1 hs=>absurd hs.2.eU (Xb _)
 obtain ⟨e1,l1,t1,v6,v7,v8,v9,v10⟩:=s;obtain ⟨g1,gf,gn,gs,gk,gz,gq⟩:=hs;refine c5 ok fn (TF (by decide) d1) ht (.self rfl) fun n2 h2=>?_
 cases e1 with
 | zero=>exact aL ax (jU N1 (yq ok fn (TF (by decide) d1) ht me gs gk gz fun n3 h3=>gq▸h n3 (TF g1 (TF h2 h3))))
 | succ e1=>
  have KN:=gn.resolve_left (Ww _);have uP:=TF g1 h2;exact aL ax (fB PF (yp ok fn d1 ht me KN gs gk gz (fun e0 n3 h3=>e0▸gq▸h n3 (TF uP h3)) fun b hb e0 n3 v9 v10 h3=>⟨⟨e1,true,b,_,_,_,_,_⟩,rfl,rfl,TF uP h3,VF gf,.inr (KN.2 b hb),Vj (mD hb) gs,eM gk b hb,TF (mD hb).length_le gz,e0▸gq⟩))
end
noncomputable def rg (lo hi:SK)(p:PR):Bool:= !cL p.1 lo&& !cL hi p.1
theorem l14 {a0 a1 a2 a3 a4 a5 a6 a7 a8 a9 b0 b1 b2:Option V}{x y:Int}(h:x=y):[a0,a1,a2,a3,a4,a5,a6,a7,a8,a9,b0,b1,some (V.int x),b2]=[a0,a1,a2,a3,a4,a5,a6,a7,a8,a9,b0,b1,some (.int y),b2]:=by exact ab h rfl
theorem ki {e:Nat}{A B:List (Tr e)}:aM e (A++B)=aM e A++aM e B:=T7 ..
noncomputable def K5 (w:Bool)(e:Nat)(ws:List (List Int))(t:Tr e):V:=.tup [aS w true e t,.tup (cf ws)]
section
variable {G:aA}{d:Nat}{H:AH}{n:Nat}{Q:KV}{w:Bool}{k lo hi:SK}{t0 r0:Addr}{es:List (SK × V)}(ok:aZ G)(fn:fJ G)
include ok fn
theorem zk {e:Nat}{A B:List (Tr e)}{ws:List (List Int)}{wa:Addr}{r1 r3 r5 r6 r7 r8 mj:Option V}{K:KR}{R:KV}(hd:4<=d)(ht:aR es (.int 0)=true)(Gx:hi.tag=kt w)(hn:∀t∈A++B,Ne e t)(hk:Kd w (aM e (A++B)))(hz:(A++B).length<=1000)
 (h:∀W R n',n<=n'->B=W++R->(∀b R',R=b::R'->cL hi (fk (av e b))=true)->K [some (eW t0 r0 es),r1,some (.str (wd w)),r3,some (.sk hi),r5,r6,r7,r8,some (.tup (cf ws)),mj,some (.ag ((A++B).map (aS w true e))),some (.int (A.length+W.length:Nat)),some (.ref wa)] (upd H wa (.list (W.map (K5 w e ws)))) n'):
 xX (fun ρ H n K=>WT G d (.gx .And [.cmp .Lt (.var 12) (.bi .len [.var 11]),.cmp .LtE (.sub (.call 8 [.var 0,.call 5 [.var 0,.sub (.var 11) (.var 12)],.var 2]) (.int 0)) (.var 4)]) ρ H n K) (fun ρ H n K=>kN G d [.ex (.bx (.var 13) .append [.tup [.sub (.var 11) (.var 12),.var 9]]),.asg (.var 12) (.bin .Add (.var 12) (.int 1))] ρ H n K R)
 [some (eW t0 r0 es),r1,some (.str (wd w)),r3,some (.sk hi),r5,r6,r7,r8,some (.tup (cf ws)),mj,some (.ag ((A++B).map (aS w true e))),some (.int (A.length:Nat)),some (.ref wa)] (upd H wa (.list [])) n K:=by
 have hl:((A++B).map (aS w true e)).length<=16777216:=by refine ab (TH ..) ?_;exact TF hz (by decide)
 refine PL (α:=List (Tr e)) (fun W=>[some (eW t0 r0 es),r1,some (.str (wd w)),r3,some (.sk hi),r5,r6,r7,r8,some (.tup (cf ws)),mj,some (.ag ((A++B).map (aS w true e))),some (.int (A.length+W.length:Nat)),some (.ref wa)]) (fun W=>upd H wa (.list (W.map (K5 w e ws)))) (fun W=>B.length - W.length) (fun W=>∃R,B=W++R) [] rfl rfl ⟨B,rfl⟩ ?_;rintro W n1 h1 ⟨R,rfl⟩;refine aV hl ?_
 cases R with
 | nil=>
  refine fB (decide_eq_false ?_) (h W [] n1 h1 rfl fun O O h=>nomatch h);refine ab (TH ..) (ab (TU ..) (ab (TG ..) ?_));exact fun e0=>VY _ (UH.mp e0)
 | cons b R=>
  have hb:b∈A++(W++b::R):=TQ _ (TQ _ (TM ..));have hg:((A++(W++b::R)).map (aS w true e))[A.length+W.length]? =some (aS w true e b):=by refine ab (Ui ..) (bk (TG ..) (bk (T5 ..) (ab (eX ..) ?_)));rfl
  have El:=eM hk b hb;have QM:W.length<=1000:=TF (by refine ab TG (ab TG ?_);exact TF (TZ _ _) (Uc _ _)) hz;have bO:A.length+W.length<((A++(W++b::R)).map (aS w true e)).length:=(UT.mp hg).1;refine jU (decide_eq_true (UH.mpr bO)) (dh hg (aV hl (c5 ok fn (TF (by decide) hd) ht (.self rfl) fun n2 h2=>c8 ok fn hd ht ax dk (j6 (hn b hb) El) (iG (hn b hb) El) fun n3 h3=>aL (ct (j6 (hn b hb) El) Gx) ?_)));have yz:=TF h1 (TF h2 h3)
  cases c:cL hi (fk (av e b)) with
  | true=>exact h W (b::R) n3 yz rfl fun b' R' e0=>by (injection e0 with e1 e2;subst e1;subst e2);exact c
  | false=>
   refine (ai _ ae (dh hg (aV hl (ai _ ae (aV (by refine ab (TH ..) ?_;exact TF QM (by decide)) (du (W++[b]) (l14 ?_) ?_ ⟨yz,R,W8 ..⟩ ?_))))))
   ·refine ab TG ?_;rfl
   ·refine ab aX (ab TR ?_);rfl
   ·refine ab TG (ab TG ?_);show W.length+(R.length+1) - (W.length+1)<W.length+(R.length+1) - W.length;exact aH (cm W.length R.length ((W.length+(R.length+1)) - (W.length+1)) ((W.length+(R.length+1)) - W.length)) [(1,.add aq (.add aw ay),.add bL aq),(1,.add aN (.add aq ay),.add aq (.add aw ay))] (.add aN ay) bL rfl (UU (TJ ((W.length+(R.length+1)) - W.length))) (TL (UZ (aH (bc W.length R.length) [] (.add aq ay) (.add aq (.add aw ay)) rfl)))
theorem zi {e:Nat}{t:Tr (e+1)}{lim:Bool}{ws:List (List Int)}{l:Addr}{L:List V}{r1 r5 r6 r8 mI lx CB:Option V}{K:KR}{R:KV}(hd:5<=d)(ht:aR es (.int 0)=true)(fW:lo.tag=kt w)(Gx:hi.tag=kt w)(hn:Ne (e+1) t)(hs:fq (av (e+1) t))(hk:Kd w (av (e+1) t))(hz:(av (e+1) t).length<=400)(hH:H l=some (.list L))(hL:L.length<=1000)
 (yE:∀A W R n' v11 uV sy,t.2=A++(W++R)->(∀p∈aM e A,cL p.1 lo=true)->(∀p∈aM e R,cL hi p.1=true)->n<=n'->K [some (eW t0 r0 es),r1,some (.str (wd w)),some (.sk lo),some (.sk hi),r5,r6,some (.ref l),r8,some (.tup (cf ws)),some (aS w lim (e+1) t),v11,uV,sy] (upd H l (.list (L++(W.map (K5 w e ws)).reverse))) n'):
 kN G d [.asg (.var 11) (.call 6 [.var 0,.var 10,.str "Kids"]),.asg (.var 12) (.call 12 [.var 0,.var 11,.var 2,.var 3]),.asg (.var 13) (.cR []),.wh (.gx .And [.cmp .Lt (.var 12) (.bi .len [.var 11]),.cmp .LtE (.sub (.call 8 [.var 0,.call 5 [.var 0,.sub (.var 11) (.var 12)],.var 2]) (.int 0)) (.var 4)]) [.ex (.bx (.var 13) .append [.tup [.sub (.var 11) (.var 12),.var 9]]),.asg (.var 12) (.bin .Add (.var 12) (.int 1))],.fN 13,.ex (.bx (.var 7) .extend [.bi .reversed [.var 13]])]
 [some (eW t0 r0 es),r1,some (.str (wd w)),some (.sk lo),some (.sk hi),r5,r6,some (.ref l),r8,some (.tup (cf ws)),some (aS w lim (e+1) t),mI,lx,CB] H n K R:=by
 obtain ⟨a,ks⟩:=t;refine qQ (gU fW ks hn.2 hs hk) fun A B gR hA hB AX C9=>?_;subst gR;have Iz:(A++B).length<=400:=TF (dO _ hn.2) hz;refine c6 ok fn (TF (by decide) hd) .frozen ht ax iI fun n1 h1=>c12 ok fn hd ht hn.2 hk fW hA hB (TF Iz (by decide)) fun n2 h2 wa hwa h0=>?_;refine zk ok fn (TF (by decide) hd) ht Gx hn.2 hk (TF Iz (by decide)) fun W R n3 h3 Pa hR=>(bA _ _ rfl ae ?_);refine ab (show cB (upd H wa (.list (W.map (K5 w e ws)))) wa=H from (cY ..).trans (cJ h0)) ?_;have QM:W.length<=400:=TF (by refine ab Pa (ab TG (ab TG ?_));exact TF (TZ _ _) (Uc _ _)) Iz;refine (ai _ hH (fun x hx IQ=>?_));have hxl:x≠l:=fun e0=>by rw [e0,hH] at IQ;injection IQ
 refine (bA _ _ ((ak hxl.symm).trans hH) ae (aV ?_ ?_))
 ·refine ab (TH ..) ?_;exact TF (Vf hL QM) (by decide)
 refine ab cY (ab (cJ IQ) ?_);refine yE A W R (x+1) _ _ _ (Pa▸rfl) AX (fun p hp=>?_) (TF h1 (TF h2 (TF (TY hwa) (TF h3 (TY hx)))))
 ·cases R with
  | nil=>exact nomatch hp
  | cons b R=>
   have w5:fq (av e b++aM e R):=by
    have h8:fq (aM e A++(aM e W++(av e b++aM e R))):=by
     refine bk cE (bk ki (bk Pa ?_));exact hs
    exact (Uz.mp (Uz.mp h8).2.1).2.1
   have h9:=hR b R rfl;refine ah (vj (fj e b (hn.2 b (Pa▸TQ _ (TQ _ (TM ..)))))) fun q hq Nn=>?_;rcases T6.mp (show p∈av e b++aM e R from hp) with hp | hp
   ·rcases tG (Uz.mp w5).1 p hp with h | h
    ·exact dE h9 h
    ·exact h▸h9
   ·exact dE h9 (Nn▸(Uz.mp w5).2.2 q hq p hp)
end
structure iN where
 e:Nat
 t:Tr e
 lim:Bool
 ws:List (List Int)
noncomputable def iN.v (w:Bool)(i:iN):V:=.tup [aS w i.lim i.e i.t,.tup (cf i.ws)]
noncomputable def iN.av (i:iN):List PR:=Internal.av i.e i.t
noncomputable def iN.bu (i:iN):List Addr:=Internal.bu i.e i.t
structure Lr (w:Bool)(i:iN):Prop where
 ne:i.e=0\/Ne i.e i.t
 kd:Kd w i.av
 ko:fq i.av
 eU:i.av.length<=400
 way:i.ws.length+i.e<=40
structure Lv where
 H:AH
 done:List PR
 oZ:List iN
 v8:Option V
 v9:Option V
 v10:Option V
 v11:Option V
 uV:Option V
 sy:Option V
noncomputable def Lv.ρ (w:Bool)(lo hi:SK)(x y:V)(f tm l:Addr)(s:Lv):bt:=[some x,some y,some (.str (wd w)),some (.sk lo),some (.sk hi),some (.ref f),some (.ref tm),some (.ref l),s.v8,s.v9,s.v10,s.v11,s.uV,s.sy]
structure SOk (w:Bool)(lo hi:SK)(H:AH)(f tm l:Addr)(all:List PR)(s:Lv):Prop where
 own:i9 H s.H f tm l (s.done.map aB) [] (s.oZ.map (iN.v w)).reverse
 all:s.done++(s.oZ.flatMap iN.av).filter (rg lo hi)=all.filter (rg lo hi)
 eU:(s.oZ.flatMap iN.bu).length<=900
 ok:∀i∈s.oZ,Lr w i
theorem rT:∀(l:List iN),l.length<=(l.flatMap iN.bu).length
 | []=>Ur _
 | i::l=>by
  refine ab (Uu ..) (ab (TG ..) (ab (TS ..) (ab (Vv ..) ?_)));exact Vf (by show 1<=(Internal.bu i.e i.t).length;refine ab (dJ ..) ?_;exact Um (Ur _)) (rT l)
noncomputable def push (e:Nat)(ws:List (List Int))(W:List (Tr e))(r:List iN):List iN:=(W.map fun t=>⟨e,t,true,ws⟩)++r
theorem JE {w:Bool}{e:Nat}{r:List iN}{ws:List (List Int)}(W:List (Tr e)):((push e ws W r).map (iN.v w)).reverse=(r.map (iN.v w)).reverse++(W.map (K5 w e ws)).reverse/\(push e ws W r).flatMap iN.av=aM e W++r.flatMap iN.av/\(push e ws W r).flatMap iN.bu=aT e W++r.flatMap iN.bu:=
 ⟨by unfold push;refine ab TR (ab List.reverse_append (ab Ua ?_));rfl,by unfold push;refine ab (T7 ..) (ab (UO ..) ?_);rfl,by unfold push;refine ab (T7 ..) (ab (UO ..) ?_);rfl⟩
theorem qC {e:Nat}{a:Addr}{X:List Addr}(A W R:List (Tr e)):(aT e W++X).length<(bu (e+1) (a,A++(W++R))++X).length:=by
 refine ab TG (ab TG ?_);refine Nat.add_lt_add_right (VR ?_) _;show _<=(VH _ (A++(W++R))).length;refine ab T7 (ab T7 (ab TG (ab TG ?_)));exact TF (TZ _ _) (Uc _ _)
theorem Ow {lo hi:SK}{ps:List PR}(h:∀p∈ps,cL p.1 lo=true):ps.filter (rg lo hi)=[]:=V3.mpr fun p hp=>GW (by unfold rg;refine ab (h p hp) ?_;rfl)
theorem Ov {lo hi:SK}{ps:List PR}(h:∀p∈ps,cL hi p.1=true):ps.filter (rg lo hi)=[]:=V3.mpr fun p hp=>GW (by unfold rg;exact ab (h p hp ..) (ab (Bool.not_true ..) (ab (WU ..) rfl)))
section
variable {G:aA}{d:Nat}{H:AH}{n:Nat}{Q:KV}{w:Bool}{k lo hi:SK}{t0 r0:Addr}{es:List (SK × V)}(ok:aZ G)(fn:fJ G)
include ok fn
theorem zj {t:Tr 0}{lim:Bool}{f:Addr}{D:List PR}{r1 r6 r7 r8 r9 mI lx CB:Option V}{K:KR}{R:KV}(hd:4<=d)(ht:aR es (.int 0)=true)(fW:lo.tag=kt w)(Gx:hi.tag=kt w)(hk:Kd w (av 0 t))(hz:(av 0 t).length<=400)(hH:H f=some (.list (D.map aB)))(hD:D.length<=1000)
 (yE:∀n',n<=n'->K [some (eW t0 r0 es),r1,some (.str (wd w)),some (.sk lo),some (.sk hi),some (.ref f),r6,r7,r8,r9,some (aS w lim 0 t),mI,lx,CB] (upd H f (.list ((D++(av 0 t).filter (rg lo hi)).map aB))) n'):
 kN G d [.ex (.bx (.var 5) .extend [.lc 2 (.var 15) (.var 15) .pl [.call 7 [.var 0,.var 10,.var 2]] [.pf (.var 3) .LtE (.sub (.var 15) (.int 0)) .LtE (.var 4)]])]
 [some (eW t0 r0 es),r1,some (.str (wd w)),some (.sk lo),some (.sk hi),some (.ref f),r6,r7,r8,r9,some (aS w lim 0 t),mI,lx,CB] H n K R:=by
 refine (ai _ hH (c7 ok fn hd ht ax jz hk (TF hz (by decide)) fun n1 h1 n2 h2=>aV (by refine ab (TH ..) ?_;exact TF hz (by decide)) (cA (rg lo hi) aB aB (av 0 t) (fun p hp n3 K1 K2 h3 hT hF=>aL (ct fW (hk p hp)) (br (fun c1=>aL (ct (hk p hp) Gx) (br (fun c2=>hT (by unfold rg;refine ab c1 (ab c2 ?_);rfl) n3 (TJ _)) fun c2=>hF (by unfold rg;refine ab c1 (ab c2 ?_);rfl) n3 (TJ _))) fun c1=>hF (by unfold rg;refine ab c1 ?_;rfl) n3 (TJ _))) fun n3 h3=>(ai _ hH (aV ?_ ?_)))))
 ·refine ab (TH ..) (ab (TH ..) ?_);exact TF (Vf hD (TF (UX ..) hz)) (by decide)
 ·refine bk TR ?_;exact yE n3 (TF h1 (TF h2 h3))
theorem c14 {e:Nat}{t:Tr e}{lim:Bool}(hd:6<=d)(ht:aR es (.int 0)=true)(fW:lo.tag=kt w)(Gx:hi.tag=kt w)(hn:e=0\/Ne e t)(hs:fq (av e t))(hk:Kd w (av e t))(hz:(av e t).length<=400)(he:e<=40)(hsz:(bu e t).length<=900)
 (h:∀n',n<=n'->Q (.ag (((av e t).filter (rg lo hi)).map aB)) H n'):aE G d 14 [eW t0 r0 es,aS w lim e t,.str (wd w),.sk lo,.sk hi] H n Q:=by
 refine aE.pure (aF ok fn.f14 hd rfl fun d d1 ne aJ f yB Q0 tm zC rp l Q8 tK=>?_);have n3:zM H f tm l:=by
  have ft:f≠tm:=fun q=>by rw [<- q,ae] at rp;injection rp
  have fl:f≠l:=fun q=>by rw [<- q,ak ft,ae] at tK;injection tK
  have tl:tm≠l:=fun q=>by rw [<- q,ae] at tK;injection tK
  exact ⟨Q0,by refine bk (ak (H:=H) (o:=.list []) ft.symm) ?_;exact rp,by refine bk (ak (H:=H) (o:=.list []) fl.symm) (bk (ak (H:=upd H f (.list [])) (o:=.aO []) tl.symm) ?_);exact tK,ft,fl,tl⟩
 have KN:n<=l+1:=TF aJ (TF yB (TF (Uo f) (TF zC (TF (Uo tm) (TY Q8)))));refine Lc (Lv.ρ w lo hi (eW t0 r0 es) (aS w lim e t) f tm l) Lv.H (fun s=>(s.oZ.flatMap iN.bu).length) (fun n1 s=>n<=n1/\SOk w lo hi H f tm l (av e t) s)
  ⟨upd (upd (upd H f (.list [])) tm (.aO [])) l (.list [.tup [aS w lim e t,.tup []]]),[],[⟨e,t,lim,[]⟩],none,none,none,none,none,none⟩ rfl rfl ⟨KN,⟨(ak n3.fl).trans ((ak n3.ft).trans ae),(ak n3.tl).trans ae,ae,bH (bH (bH (fun O O h=>h) n3.f0) n3.t0) n3.l0⟩,?_,?_,fun i h=>by refine ab (TK.mp h) ?_;exact ⟨hn,hk,hs,hz,by show 0+e<=40;refine ab (UL ..) ?_;exact he⟩⟩ fun s n1 hs=>?_
 ·show []++V1 _ (av e t++[])=_;refine ab (TU ..) ?_;rfl
 ·show (bu e t++[]).length<=900;refine ab (TU ..) ?_;exact hsz
 have g1:=hs.1;have aI:((s.oZ.map (iN.v w)).reverse).length<=900:=by refine ab (U3 ..) (ab (TH ..) ?_);exact TF (rT s.oZ) hs.2.eU
 refine (ai _ hs.2.own.line (aV (TF aI (by decide)) (br (fun c=>?_) fun c=>?_)))
 ·cases hq:s.oZ with
  | nil=>rw [hq] at c;injection c
  | cons i r=>
   obtain ⟨e1,t1,l1,kJ⟩:=i;have Mw:=hs.2.ok;rw [hq] at Mw;have gi:=Mw _ (TM ..);have jC:e1=0\/Ne e1 t1:=gi.ne;have d9:Kd w (av e1 t1):=gi.kd;have w5:fq (av e1 t1):=gi.ko;have yC:(av e1 t1).length<=400:=gi.eU;have rq:kJ.length+e1<=40:=gi.way;have o0:i9 H s.H f tm l (s.done.map aB) [] ((r.map (iN.v w)).reverse++[.tup [aS w l1 e1 t1,.tup (cf kJ)]]):=by
    have q:=hs.2.own;rw [hq,UJ,List.reverse_cons] at q;exact q
   have gl:=o0.line;have rj:(bu e1 t1).length+(r.flatMap iN.bu).length<=900:=by
    have q:=hs.2.eU;rw [hq,Uu,TG] at q;exact q
   have Nr:=TF (Uc _ _) rj;have Pq:((r.map (iN.v w)).reverse).length<=900:=by refine ab (U3 ..) (ab (TH ..) ?_);exact TF (rT r) Nr
   refine (ai _ gl (cg _ _ gl (aV (TF Pq (by decide)) ?_)));have eY:s.done++(av e1 t1++r.flatMap iN.av).filter (rg lo hi)=(av e t).filter (rg lo hi):=by have q:=hs.2.all;rw [hq] at q;exact q
   have MD:s.done.length<=400:=TF (by refine bk (TG.symm.trans (congrArg Vc eY)) ?_;exact TZ _ _) (TF (UX (rg lo hi) (av e t)) hz);have o1:=o0.Ft n3 (r.map (iN.v w)).reverse;refine c9 ok fn (TF (by decide) d1) rfl (TF (TZ _ _) rq) fun n2 h2=>c5 ok fn (TF (by decide) d1) ht (.self rfl) fun n3' h3=>?_;have yz:=TF g1 (TF h2 h3);have qo:=fun i hi=>Mw i (TP _ hi)
   cases e1 with
   | zero=>
    refine aL ax (fB IT (zj ok fn (TF (by decide) d1) ht fW Gx d9 yC o1.found ?_ fun n4 h4=>(du ⟨upd (upd s.H l (.list (r.map (iN.v w)).reverse)) f (.list ((s.done++(av 0 t1).filter (rg lo hi)).map aB)),s.done++(av 0 t1).filter (rg lo hi),r,_,_,_,s.v11,s.uV,s.sy⟩ rfl rfl ⟨TF yz h4,o1.jL n3 _,?_,Nr,qo⟩ ?_)))
    ·exact TF MD (by decide)
    ·rw [U0, <- T5] at eY;exact eY
    ·show (r.flatMap iN.bu).length<((bu 0 t1)++r.flatMap iN.bu).length;refine ab TG ?_;exact Nat.lt_add_of_pos_left WI
   | succ e1=>
    refine aL ax (jU NI (zi ok fn d1 ht fW Gx (jC.resolve_left (Ww _)) w5 d9 yC o1.line (TF Pq (by decide)) fun A W R n4 v11 uV sy iv hA hR h4=>?_));obtain ⟨a,ks⟩:=t1;have iv:ks=A++(W++R):=iv;subst iv;have hW:=JE (w:=w) (e:=e1) (r:=r) (ws:=kJ++[[-1, -1]]) W;refine (du ⟨upd (upd s.H l (.list (r.map (iN.v w)).reverse)) l (.list ((r.map (iN.v w)).reverse++(W.map (K5 w e1 (kJ++[[-1, -1]]))).reverse)),s.done,push e1 (kJ++[[-1, -1]]) W r,_,_,_,v11,uV,sy⟩ rfl rfl ⟨TF yz h4,?_,?_,?_,fun i hi=>?_⟩ ?_)
    ·show i9 H _ f tm l _ _ _;refine ab hW.1 ?_;exact o1.Ft n3 _
    ·show s.done++V1 _ _=_
     rewrite [hW.2.1, <- eY,U0,U0]
     rewrite [show av (e1+1) (a,A++(W++R))=aM e1 A++(aM e1 W++aM e1 R) from ki.trans (congrArg _ ki),U0,U0,Ow hA,Ov hR,WG,TU];rfl
    ·show (VH _ _).length<=900;refine ab hW.2.2 ?_;exact TF (Ud (qC A W R)) (TF (TL TG) rj)
    ·rcases T6.mp hi with hi | hi
     ·refine bY (TX.mp hi) fun b hb=>?_;have KC:b∈A++(W++R):=TQ _ (Uq _ hb);refine ⟨.inr ((jC.resolve_left (Ww _)).2 b KC),eM d9 b KC,Vj (mD KC) w5,TF (mD KC).length_le yC,?_⟩;show (kJ++[[-1, -1]]).length+e1<=40;refine ab (TG ..) (ab (VM ..) (ab (Vv _ e1 ..) ?_));exact rq
     ·exact qo i hi
    ·show (VH _ _).length<_;refine ab hW.2.2 ?_;exact qC A W R
 ·cases hq:s.oZ with
  | cons i r=>
   rw [hq] at c;have:=of_decide_eq_false c;rw [U3] at this;exact absurd (UH.mpr (Vb _)) this
  | nil=>
   have eY:s.done=(av e t).filter (rg lo hi):=by have q:=hs.2.all;rw [hq] at q;exact (TU _).symm.trans q
   have o0:=hs.2.own;refine ⟨_,o0.found,fun a o ho=>(cT fun q=>by rw [q,n3.f0] at ho;injection ho).trans (o0.keep a o ho),?_⟩;show Q (.ag (s.done.map aB)) H n1;refine ab eY ?_;exact h n1 g1
end
noncomputable def ni (pl:Str):Int:=aak pl (XD ".")
noncomputable def K9 (pl:Str)(i:Nat):Str:=(pl++XD ".")++XD (toString (i:Int))
theorem tA {pl:Str}{i:Nat}:ni (K9 pl i)=ni pl+1:=by
 unfold ni K9;refine ab (show XD "."=⟨#[46]⟩ from rfl ..) (ab (count_cnt ..) (ab (cps_toList_append ..) (ab (cps_toList_append ..) (ab (cnt_append ..) (ab (cnt_append ..) (ab (cnt_intText_46 ..) (ab (count_cnt ..) (ab (Int.add_zero ..) ?_))))))));exact congrArg _ (show PyProof.Rows.cnt 46 [46]=1 from rfl)
theorem kW:ni (XD "root")=0:=by
 unfold ni;refine ab (show XD "."=⟨#[46]⟩ from rfl ..) (ab (count_cnt ..) ?_);rfl
structure Lk (H:AH)(w:Bool)(PJ:V)(sl kz:Addr)(ks:List SK):Prop where
 at_:∃dx f s,H sl=some (.inst 6 dx [("shelf",PJ),("word",.str (wd w)),("faults",.ref f),("seen",.ref s),("keys",.ref kz)])
 keys:H kz=some (.list (ks.map .sk))
theorem Lk.put {H:AH}{w:Bool}{PJ:V}{sl kz:Addr}{ks ks2:List SK}(h:Lk H w PJ sl kz ks):Lk (upd H kz (.list (ks2.map .sk))) w PJ sl kz ks2:=by
 refine qR h.at_ fun dx f s h1=>?_;exact ⟨Hc dx f s ((ak fun e=>by rw [e,h.keys] at h1;cases h1).trans h1),ae⟩
theorem Fi {pl:Str}{i:Nat}(hi:i<1000):(pl++XD ".").length<=pl.length+1/\(XD (toString (i:Int))).length<=4/\(K9 pl i).length<=pl.length+5:=by
 have h1:(XD (toString (i:Int))).length<=4:=by
  refine ab (PySem.ofString_length ..) ?_;exact PySem.int_text_length_le10 (by decide) (show (i:Int).natAbs<10 ^ 3 from hi)
 have h2:∀a b:Str,(a++b).length=a.length+b.length:=fun a b=>Array.size_append;refine ⟨TL (h2 ..),h1,?_⟩;unfold K9;refine ab (h2 ..) (ab (h2 ..) ?_);refine ab (VM ..) ?_;exact Uy (Uy h1 1) pl.length
structure KSt where
 D:List PR
 v3:Option V
 v4:Option V
section
variable {G:aA}{d:Nat}{H:AH}{n:Nat}{Q:KV}{w:Bool}{t0 r0 sl kz:Addr}{es:List (SK × V)}{ks:List SK}{pl:Str}(ok:aZ G)(fn:fJ G)
include ok
theorem GV {k kd nv c:Nat}{dY:List St}{dV args:List V}(hc:Dj c=true)(K:dF G (G.fa (60+c)) dY k dV nv)(hd:kd+2<=d)(aI:args.length+1=k)
 (h:∀d,kd<=d->∀dx x,n<=x->dx≠x->H dx=none->H x=none->∀ne,x+1<=ne->WB G d ne dY (JZ (.ref x::args) dV nv) (upd (upd H dx (.own x)) x (.inst c dx [])) ne fun v H' n'=>v=.none/\Q (.ref x) H' n'):o9 G d c args H n Q:=by
 refine bE K fun σ K hv hk=>?_;refine mP (tB hd) fun d KD=>?_;refine mP (tB KD) fun d Io=>?_;refine Jj (m:=nv - (.ref 0::(args++dV)).length) ok hc K aI ?_ fun dx x ne h1 h2 h3 h4 h5 h6=>h d Io dx x h3 h2 h4 h5 ne h6;refine ab hv (ab TS (ab TG ?_));exact UC (aH (cm (nv - ((args.length+dV.length)+1)) args.length dV.length nv) [(1,.add aq (.add (.add aw aN) ay),bL)] (.add (.add (.add aw aN) ay) aq) bL rfl (TL (UZ (aH (cm args.length k dV.length nv) [(1,.add aq ay,aw),(1,.add aw aN,bL)] (.add (.add aq aN) ay) bL rfl (TL aI) hk)))) (aH (cm nv (nv - ((args.length+dV.length)+1)) args.length dV.length) [(1,aq,.add aw (.add (.add aN bL) ay))] aq (.add (.add (.add aN bL) ay) aw) rfl (UU (TJ (nv - ((args.length+dV.length)+1)))))
include fn
theorem c50 {e:Nat}{t:Tr e}{lim:Bool}(hd:1<=d)(hp:aak pl (XD ".")<=40)(h:∀n',n<=n'->Q (.bool true) H n'):aE G d 50 [.ref sl,aS w lim e t,.str pl] H n Q:=
 aF ok fn.f50 hd rfl fun d d1 ne aJ=>fB (decide_eq_false (U2.mpr hp)) (h ne aJ)
theorem Mc {t:Tr 0}{lim:Bool}{D:List PR}(hd:5<=d)(hs:Lk H w (eW t0 r0 es) sl kz (D.map (·.1)))(ht:aR es (.int 0)=true)(hk:Kd w (D++av 0 t))(w5:fq (D++av 0 t))(hz:(D++av 0 t).length<=400)
 (h:∀n',n<=n'->Q .none (upd H kz (.list (((D++av 0 t).map (·.1)).map .sk))) n'):aE G d 52 [.ref sl,aS w lim 0 t,.str pl] H n Q:=
 aF ok fn.f52 hd rfl fun d d1 ne aJ=>by
  have Pu:(av 0 t).length<=400:=TF (TG▸Uc _ _) hz;refine qR hs.at_ fun dx f s g0=>?_;refine cv _ _ _ g0 (cv _ _ _ g0 (c7 ok fn d1 ht ax jz (fun p hp=>hk p (TQ _ hp)) (TF Pu (by decide)) fun n1 h1 n2 h2=>?_));refine nA (α:=KSt) aB (av 0 t) (fun s=>[some (.ref sl),some (aS w lim 0 t),some (.str pl),s.v3,s.v4]) (fun s=>upd H kz (.list ((s.D.map (·.1)).map .sk))) (fun r s=>s.D++r=D++av 0 t) ⟨D,none,none⟩ rfl rfl (dS hs.keys).symm rfl (fun p r s n3 h3 he=>?_) fun s n3 h3 he=>?_
  ·obtain ⟨D1,v3,v4⟩:=s;have he:D1++p::r=D++av 0 t:=he;have Gp:D1.length<=400:=TF (by refine bk he (ab TG ?_);exact TZ _ _) hz;have hl:((D1.map (·.1)).map V.sk).length<=1000:=by refine ab (TH ..) (ab (TH ..) ?_);exact TF Gp (by decide)
   refine qR ((hs.put (ks2:=D1.map (·.1))).at_) fun dx f s g1=>?_;have g2:=(hs.put (ks2:=D1.map (·.1))).keys;have fin:kN G d [.ex (.bx (.attr (.var 0) "keys") .append [.var 3])] [some (.ref sl),some (aS w lim 0 t),some (.str pl),some (.sk p.1),some (.int p.2)] (upd H kz (.list ((D1.map (·.1)).map .sk))) n3 (fun ρ2 H2 n4=>∃s':KSt,ρ2=[some (.ref sl),some (aS w lim 0 t),some (.str pl),s'.v3,s'.v4]/\H2=upd H kz (.list ((s'.D.map (·.1)).map .sk))/\n2<=n4/\s'.D++r=D++av 0 t) Q:=by
    refine cv _ _ _ g1 (ai _ g2 (ai _ g2 (aV (TF hl (by decide)) (du ⟨D1++[p],_,_⟩ rfl ?_ h3 ((W8 ..).symm.trans he)))));refine ab aX (ab TR (ab TR ?_));rfl
   refine cv _ _ _ g1 (ai _ g2 (aV (TF hl (by decide)) (br (fun c=>?_) fun c=>fin)));rcases List.eq_nil_or_concat D1 with rfl | ⟨D2,q,rfl⟩
   ·injection c
   ·have hq:cL q.1 p.1=true:=by
     have h8:fq ((D2++[q])++p::r):=by refine bk WC (ab he ?_);exact w5
     exact (Uz.mp h8).2.2 q (TQ _ (T1 _)) p (TM ..)
    refine cv _ _ _ g1 (ai _ g2 (dh (x:=.sk q.1) ?_ (aV (TF hl (by decide)) (aL (ct (hk q (he▸?_)) (hk p (he▸TQ _ (TM ..)))) ?_))))
    ·refine ab WC (ab TR (ab TR ?_));exact FX
    ·refine ab WC ?_;exact Uq _ (TQ _ (T1 _))
    ·show Br (!cL q.1 p.1) _ _;refine ab hq ?_;exact fin
  ·obtain ⟨D1,v3,v4⟩:=s;have he:D1=D++av 0 t:=(TU _).symm.trans he;subst he;exact h n3 (TF aJ (TF h1 (TF h2 h3)))
end
theorem Mt {ps:List PR}(h:ps≠[]):∃a b,ps.map (·.1)=fk ps::a/\ps.map (·.1)=b++[lk ps]:=by
 refine eJ (gT h) fun a x e=>?_;refine eJ (UG h) fun p r e2=>?_;exact (cg (r.map (·.1)) (a.map (·.1)) (by refine ab e2 ?_;rfl) (by refine ab e (ab rG (ab TR ?_));rfl))
section
variable {G:aA}{d:Nat}{H:AH}{n:Nat}{Q:KV}{w:Bool}{t0 r0 sl kz:Addr}{es:List (SK × V)}{ks:List SK}{pl:Str}(ok:aZ G)(fn:fJ G)
include ok fn
theorem Md {e:Nat}{t:Tr (e+1)}{lim:Bool}(hd:2<=d)(hs:Lk H w (eW t0 r0 es) sl kz ks)(h:∀n',n<=n'->Q .none H n'):aE G d 52 [.ref sl,aS w lim (e+1) t,.str pl] H n Q:=
 aF ok fn.f52 hd rfl fun d d1 ne aJ=>by
  refine qR hs.at_ fun dx f s g0=>?_;refine cv _ _ _ g0 (cv _ _ _ g0 (c7n ok fn d1 ax tC fun n1 h1 n2 h2=>?_));exact nA (α:=Unit) (β:=Unit) (fun O=>.none) [] (fun O=>[some (.ref sl),some (aS w lim (e+1) t),some (.str pl),none,none]) (fun O=>H) (fun r O=>r=[]) () rfl rfl rfl rfl (fun O O O O O h=>nomatch h) fun O n3 h3 O=>h n3 (TF aJ (TF h1 (TF h2 h3)))
theorem c53 {e:Nat}{t:Tr e}{lim:Bool}(hd:5<=d)(hs:Lk H w (eW t0 r0 es) sl kz ks)(ht:aR es (.int 0)=true)(h0:lim=true->av e t≠[])(hk:Kd w (av e t))(hz:(av e t).length<=400)(hp:pl=XD "root"/\lim=false\/0<ni pl/\lim=true)
 (h:∀n',n<=n'->Q .none H n'):aE G d 53 [.ref sl,aS w lim e t,.str pl,.ag (((av e t).map (·.1)).map .sk)] H n Q:=
 aF ok fn.f53 hd rfl fun d d1 ne aJ=>by
  have hl:(((av e t).map (·.1)).map V.sk).length<=16777216:=by refine ab (TH ..) (ab (TH ..) ?_);exact TF hz (by decide)
  rcases hp with ⟨rfl,rfl⟩ | ⟨hp,rfl⟩
  ·refine aL ax (fB ?_ (h ne aJ));refine ab vd ?_;rfl
  ·have h0:=h0 rfl;refine dg (Mt h0) fun a b ha hb=>?_;refine ah (vj h0) fun p KS w4=>?_;refine ah (rF h0) fun q Gy Nn=>?_;refine fB (decide_eq_false fun e0=>?_) (aL ax (fB (by refine ab dk ?_;rfl) (aV hl (jU ?_ ?_))))
   ·rw [SK.str.inj e0,kW] at hp;exact absurd hp (by decide)
   ·refine ab ha ?_;exact decide_eq_true (UH.mpr (Vb _))
   refine qR hs.at_ fun dx f s g0=>?_;refine cv _ _ _ g0 (cv _ _ _ g0 (c8 ok fn d1 ht ax dk (w4▸hk p KS) (Nn▸hk q Gy) fun n1 h1=>dh (x:=.sk (fk (av e t))) (by refine ab ha ?_;rfl) (aV hl (dh (x:=.sk (lk (av e t))) (by refine ab hb (ab TR ?_);exact FX) (aV hl ?_)))));have g:bZ 1 (.tup [.sk (fk (av e t)),.sk (lk (av e t))]):=bZ.tup (m:=0) fun x hx=>by
    rcases TN.mp hx with rfl | hx
    ·exact .sk
    ·refine ab (TK.mp hx) ?_;exact .sk
   exact aL g.cmp (aV (TF g.dep (by decide)) (fB (show (!V.eqv _ _)=false by refine ab g.eqv ?_;rfl) (h n1 (TF aJ h1))))
end
structure KVt (e:Nat) where
 A:List (Tr e)
 v7:Option V
noncomputable def Py (D:List PR):bG:=.list ((D.map (·.1)).map .sk)
theorem OR {w lim:Bool}{t:Tr 0}:(bw (ents w lim 0 t) (.str (wd w))).isSome=true:=by
 refine ab (show bw (ents w lim 0 t) (.str (wd w))=_ from jz) ?_;rfl
theorem OS {w lim:Bool}{e:Nat}{t:Tr (e+1)}:(bw (ents w lim (e+1) t) (.str (wd w))).isSome=false:=by
 refine ab (show bw (ents w lim (e+1) t) (.str (wd w))=none from tC) ?_;rfl
section
variable {G:aA}{w:Bool}{t0 r0 sl kz:Addr}{es:List (SK × V)}(ok:aZ G)(fn:fJ G)
include ok fn
theorem qP {d:Nat}{H:AH}{n:Nat}{K:KR}{R:KV}{e:Nat}{t:Tr e}{lim:Bool}{D:List PR}{pl:Str}{r1 r5 r6 r7:Option V}(hd:5<=d)(hs:Lk H w (eW t0 r0 es) sl kz ((D++av e t).map (·.1)))(ht:aR es (.int 0)=true)(h0:lim=true->av e t≠[])(hk:Kd w (av e t))(hz:(D++av e t).length<=400)(hp:pl=XD "root"/\lim=false\/0<ni pl/\lim=true)
 (h:∀n',n<=n'->K [some (.ref sl),r1,some (.str pl),some (aS w lim e t),some (.int D.length),r5,r6,r7] H n'):
 kN G d [.ex (.bx (.var 0) (.fn 53) [.var 3,.var 2,.pH (.attr (.var 0) "keys") (.var 4) .none])] [some (.ref sl),r1,some (.str pl),some (aS w lim e t),some (.int D.length),r5,r6,r7] H n K R:=by
 refine qR hs.at_ fun dx f s g0=>?_;have hl:(((D++av e t).map (·.1)).map V.sk).length<=16777216:=by refine ab (TH ..) (ab (TH ..) ?_);exact TF hz (by decide)
 refine cg _ _ g0 (cv _ _ _ g0 (ai _ hs.keys (aV hl ?_)));have e1:iR (((D++av e t).map (·.1)).map V.sk) (some (D.length:Int)) none=((av e t).map (·.1)).map V.sk:=by
  refine ab Ua (ab Ua ?_);exact iS
 show aE G d 53 [.ref sl,aS w lim e t,.str pl,.ag (iR (((D++av e t).map (·.1)).map V.sk) (some (D.length:Int)) none)] H n _;refine ab e1 ?_;exact c53 ok fn hd hs ht h0 hk (TF (TG▸Uc _ _) hz) hp fun n' h'=>h n' h'
theorem c51:∀(e:Nat) {t:Tr e} {lim:Bool} {d:Nat} {H:AH} {n:Nat} {Q:KV} {D:List PR} {pl:Str},e+7<=d->Lk H w (eW t0 r0 es) sl kz (D.map (·.1))->aR es (.int 0)=true->(e=0/\lim=false\/Ne e t)->Kd w (D++av e t)->fq (D++av e t)->(D++av e t).length<=400->(pl=XD "root"/\lim=false\/0<ni pl/\lim=true)->ni pl+e<=40->pl.length+5*e<=1000->
 (∀n',n<=n'->Q .none (upd H kz (Py (D++av e t))) n')->aE G d 51 [.ref sl,aS w lim e t,.str pl] H n Q:=by
 intro e
 induction e with
 | zero=>
 exact fun {t lim d H n Q D pl} hd hs ht hn hk w5 hz hp Pj Df h=>
  aF ok fn.f51 hd rfl fun d d1 ne aJ=>by
   refine qR hs.at_ fun dx f s g0=>?_;have MD:D.length<=400:=TF (TG▸TZ _ _) hz;refine (cg _ _ g0 (c50 ok fn (TF (by decide) d1) (by rwa [show ((0:Nat):Int)=0 from rfl,Int.add_zero] at Pj) fun n1 h1=>?_));refine (cv _ _ _ g0 (HA ok fn (TF (by decide) d1) ht (.self rfl) fun n2 h2=>aL ax (cv _ _ _ g0 (aL rfl (dh rfl (aL ax ?_))))));refine ab IT (ab OR ?_);refine cv _ _ _ g0 (ai _ hs.keys (aV (by refine ab (TH ..) (ab (TH ..) ?_);exact TF MD (by decide)) ?_));refine ab (TH ..) (ab (TH ..) ?_);refine (cg _ _ g0 (Mc ok fn (TF (by decide) d1) hs ht hk w5 hz fun n3 h3=>?_));refine aL ax (fB IT fun n4 h4=>?_);have QC:n<=n4:=TF aJ (TF h1 (TF h2 (TF h3 h4)));refine nA (α:=Unit) (β:=Unit) (fun O=>.none) [] (fun O=>[some (.ref sl),some (aS w lim 0 t),some (.str pl),some (aS w lim 0 t),some (.int D.length),some (.ag []),none,none]) (fun O=>upd H kz (Py (D++av 0 t))) (fun r O=>r=[]) () rfl rfl rfl rfl (fun O O O O O h=>nomatch h) fun O n5 h5 O=>?_;exact qP ok fn (TF (by decide) d1) hs.put ht (fun e0=>hn.elim (fun g=>nomatch g.2.symm.trans e0) id) (fun p hp=>hk p (TQ _ hp)) hz hp fun n6 h6=>h n6 (TF QC (TF h5 h6))
 | succ e ih=>
 exact fun {t lim d H n Q D pl} hd hs ht hn hk w5 hz hp Pj Df h=>
  aF ok fn.f51 (TF (TL (Nat.succ_add e 7).symm) hd:e+7+1<=d) rfl fun d d1 ne aJ=>by
   refine qR hs.at_ fun dx f s g0=>?_;have d7:7<=d:=TF (Uc _ _) d1;have hn:Ne (e+1) t:=hn.resolve_left fun g=>nomatch g.1;have MD:D.length<=400:=TF (TG▸TZ _ _) hz;have hc:ni pl<=40:=Vk (Int.le_add_of_nonneg_right (Ug _)) Pj;refine (cg _ _ g0 (c50 ok fn (TF (by decide) d7) hc fun n1 h1=>?_));refine (cv _ _ _ g0 (HA ok fn (TF (by decide) d7) ht (.self rfl) fun n2 h2=>aL ax (cv _ _ _ g0 (aL rfl (dh rfl (aL ax ?_))))));refine ab NI (ab OS ?_);refine cv _ _ _ g0 (ai _ hs.keys (aV (by refine ab (TH ..) (ab (TH ..) ?_);exact TF MD (by decide)) ?_));refine ab (TH ..) (ab (TH ..) ?_);refine (cg _ _ g0 (Md ok fn (TF (by decide) d7) hs fun n3 h3=>?_));obtain ⟨a,ks⟩:=t;have fW:ks.length<=400:=TF (dO ks hn.2) (TF (TG▸Uc _ _) hz);have hl:(ks.map (aS w true e)).length<=16777216:=by refine ab (TH ..) ?_;exact TF fW (by decide)
   refine aL ax (jU NI (cv _ _ _ g0 (c6 ok fn (TF (by decide) d7) .frozen ht ax iI fun n4 h4=>aV hl (aV hl fun n5 h5=>?_))));have Gn:n<=n5:=TF aJ (TF h1 (TF h2 (TF h3 (TF h4 h5))));refine nA (α:=KVt e) (fun i:Nat=>.int i) (Un ks.length) (fun s=>[some (.ref sl),some (aS w lim (e+1) (a,ks)),some (.str pl),some (aS w lim (e+1) (a,ks)),some (.int D.length),some (.ag (ks.map (aS w true e))),none,s.v7]) (fun s=>upd H kz (Py (D++aM e s.A))) (fun r s=>∃B,ks=s.A++B/\r=List.range' s.A.length B.length) ⟨[],none⟩ ?_ rfl ?_ (ai ks rfl List.range_eq_range') (fun i r s n6 h6 he=>?_) fun s n6 h6 he=>?_
   ·exact ab (TH ..) rfl
   ·refine ab (show D++aM e []=D from TU D) ?_;exact (dS hs.keys).symm
   ·obtain ⟨A,v7⟩:=s;refine ah he fun B gR hr=>?_;subst gR
    cases B with
    | nil=>injection hr
    | cons b B=>
     obtain ⟨rfl,rfl⟩:=List.cons.inj hr;have hA:av (e+1) (a,A++b::B)=aM e A++(av e b++aM e B):=cE;have eY:D++av (e+1) (a,A++b::B)=(D++aM e A++av e b)++aM e B:=by refine ab hA ?_;simp only [T5]
     rw [eY] at hk w5 hz;have hb:b∈A++b::B:=TQ _ (TM ..);have hAl:A.length<=400:=TF (TG▸TZ _ _) fW;have IH:=Fi (pl:=pl) (i:=A.length) (UB hAl (by decide));refine qR ((hs.put (ks2:=(D++aM e A).map (·.1))).at_) fun dx f s g1=>?_;refine (cg _ _ g1 (dh (x:=aS w true e b) (by show (Xd _ _)[A.length]? =_;refine ab Ui (ab eX ?_);rfl) (aV hl ⟨TF (Uw (TF (TZ _ _) Df) 1) (by decide),UB (Nat.log2_le_self _) (UB hAl (by decide)),TF (Vf IH.1 IH.2.1) (aH (bc pl.length e) [(1,.add aq (.mulL 5 (.add aw ay)),.num 1000)] (.add (.add aq ay) (.num 4)) (.num 16777216) rfl Df),?_⟩)));refine ih (pl:=K9 pl A.length) d1 hs.put ht (.inr (hn.2 b hb)) (fun p hp=>hk p (Uq _ hp)) (Uz.mp w5).1 (by rw [TG] at hz;exact TF (TZ _ _) hz) (.inr ⟨?_,rfl⟩) ?_ (by have:=IH.2.2;exact aH (bC pl.length e ((K9 pl A.length).length)) [(1,.add aq (.mulL 5 (.add aw ay)),.num 1000),(1,aN,.add aq (.num 5))] (.add aN (.mulL 5 aw)) (.num 1000) rfl Df IH.2.2) fun n7 h7=>(du ⟨A++[b],_⟩ rfl ?_ (TF h6 h7) (ai B (W8 ..) ?_))
     ·have h0:0<=ni pl:=hp.elim (fun g=>by refine ab g.1 (ab kW ?_);decide) fun g=>W3 g.1;refine ab tA ?_;exact Int.lt_add_one_of_le h0
     ·refine ab (tA ..) (ab (Int.add_assoc ..) (ab (Int.add_comm 1 ..) ?_));exact Pj
     ·exact ab (aX ..) (ab (T5 ..) (ab (ki ..) (ab (show aM e [b]=av e b from TU _ ..) rfl)))
     ·refine ab TG ?_;rfl
   ·obtain ⟨A,v7⟩:=s;refine ah he fun B iq hr=>?_;subst iq
    cases B with
    | cons b B=>injection hr
    | nil=>
     have e0:av (e+1) (a,A++[])=aM e A:=congrArg (aM e) (TU A);exact qP ok fn (TF (by decide) d7) (by refine ab e0 ?_;exact hs.put) ht (fun O=>fj _ _ hn) (fun p hp=>hk p (TQ _ hp)) hz hp fun n6 h6=>by
      have:=h n6 (TF Gn (TF ‹n5<=_› h6));rw [e0] at this;exact this
end
theorem aU {H:AH}{a b:Addr}{o:bG}(h:upd H a o b=none):b≠a/\H b=none:=by
 have e:b≠a:=fun e=>by rw [e,ae] at h;injection h
 exact ⟨e,by rwa [ak e] at h⟩
section
variable {G:aA}{d:Nat}{H:AH}{n:Nat}{Q:KV}{w:Bool}{t0 r0:Addr}{es:List (SK × V)}(ok:aZ G)(fn:fJ G)
include ok fn
theorem c66 (hd:2<=d)(h:∀sl f kz H' n',n<=n'->(∀a o,H a=some o->H' a=some o)->Lk H' w (eW t0 r0 es) sl kz []->H' f=some (.list [])->(∃dx s,H' sl=some (.inst 6 dx [("shelf",eW t0 r0 es),("word",.str (wd w)),("faults",.ref f),("seen",.ref s),("keys",.ref kz)]))->H f=none->H kz=none->kz≠f->Q (.ref sl) H' n'):o9 G d 6 [eW t0 r0 es,.str (wd w)] H n Q:=
 GV (c:=6) ok rfl fn.f66 hd rfl fun d d1 dx x hx QX h0 h1 ne aJ=>by
  refine cv _ dx _ ae (cv _ dx _ ae fun f hf yB=>(cv _ dx _ ((ak (aU yB).1.symm).trans ae) (fun s hs GA=>(cv _ dx _ ((ak (aU GA).1.symm).trans ae) (fun k hk pv=>(cv _ dx _ ((ak (aU pv).1.symm).trans ae) ?_))))));obtain ⟨kx,pv⟩:=aU pv;obtain ⟨ks,pv⟩:=aU pv;obtain ⟨_,pv⟩:=aU pv;obtain ⟨kf,pv⟩:=aU pv;have pv:=(aU (aU (aU (aU pv).2).2).2).2;obtain ⟨sx,GA⟩:=aU GA;obtain ⟨sf,GA⟩:=aU GA;have GA:=(aU (aU (aU (aU GA).2).2).2).2;obtain ⟨fx,yB⟩:=aU yB;have yB:=(aU (aU (aU yB).2).2).2;exact ⟨rfl,h x f k _ (k+1) (TF hx (TF (Uo x) (TF aJ (TF hf (TF (Uo f) (TF hs (TF (Uo s) (TY hk)))))))) (bH (bH (bH (bH (bH (bH (bH (bH (bH (bH (fun O O h=>h) h0) h1) h1) h1) yB) h1) GA) h1) pv) h1) ⟨Hc dx f s ae,(ak kx).trans ae⟩ ((ak fx).trans ((ak kf.symm).trans ((ak fx).trans ((ak sf.symm).trans ((ak fx).trans ae))))) (uX dx s ae) yB pv kf⟩
theorem c28 {e:Nat}{t:Tr e}(hd:e+8<=d)(ht:aR es (.int 0)=true)(hn:e=0\/Ne e t)(hk:Kd w (av e t))(hs:fq (av e t))(hz:(av e t).length<=400)(he:e<=40)(h:∀n',n<=n'->Q (.ag []) H n'):aE G d 28 [eW t0 r0 es,aS w false e t,.str (wd w)] H n Q:=
 aE.pure (aF ok fn.f28 (kd:=e+7) hd rfl fun d d1 ne aJ=>c66 ok fn (TF (Uc 2 (e+5)) d1) fun sl f kz H1 n1 h1 M7 hL hf MM yB Q7 hkf=>by
  refine eJ MM fun dx s g0=>?_;refine (cg _ _ g0 (c51 ok fn e (D:=[]) (pl:=XD "root") d1 hL ht (hn.elim (fun e=>.inl ⟨e,rfl⟩) .inr) hk hs hz (.inl ⟨rfl,rfl⟩) (by refine ab kW ?_;exact eO (cP ((e:Nat):Int)) [(1,bg,.num 40)] (.add cG bg) (.num 40) rfl (Ul.mpr he)) (by show 4+5*e<=1000;exact aH (bI e) [(5,aq,.num 40)] (.add (.num 4) (.mulL 5 aq)) (.num 1000) rfl he) fun n2 h2=>?_));have k2:∀a,a≠kz->upd H1 kz (Py (av e t)) a=H1 a:=fun a ha=>ak ha;have Nw:sl≠kz:=fun e0=>by rw [e0,hL.keys] at g0;cases g0
  refine cv _ dx _ ((k2 sl Nw).trans g0) ⟨_,(k2 f hkf.symm).trans hf,fun a o ho=>(cT fun q=>by rw [q,yB] at ho;injection ho).trans ((ak fun q=>by rw [q,Q7] at ho;injection ho).trans (M7 a o ho)),h n2 (TF aJ (TF h1 h2))⟩)
end
structure eI (w:Bool)(W r e:Nat)(t:Tr e)(ps:List PR):Prop where
 perm:(av e t).Perm ps
 ko:fq (av e t)
 ne:e=0\/Ne e t
 kd:Kd w ps
 rank:r<=5
 eU:ps.length<=8+r
 deep:e<=4+r
 size:(bu e t).length<=13+12*r
 fA:jv W e t
theorem we {ps:List PR}(h:fq ps):(ps.map T8).Nodup:=Wo.mpr (h.imp fun {a b} h e=>by rw [e,fI] at h;injection h)
theorem kr {a b:List PR}(h:fq a)(h':fq b)(p:a.Perm b):a=b:=
 List.Perm.eq_of_pairwise (fun x y O O h1 h2=>absurd h2 (GW (fi h1))) h h' p
section
variable {w:Bool}{W r e:Nat}{t:Tr e}{ps:List PR}
theorem eI.nT (h:eI w W r e t ps):Kd w (av e t):=fun p hp=>h.kd p (h.perm.mem_iff.mp hp)
theorem eI.tF (h:eI w W r e t ps):ps.length<=60:=TF h.eU (TF (Uy h.rank 8) (by decide))
theorem eI.fh (h:eI w W r e t ps):e<=20:=TF h.deep (TF (Uy h.rank 4) (by decide))
theorem eI.dR (h:eI w W r e t ps):(bu e t).length<=300:=TF h.size (TF (Uy (Wb 12 h.rank) 13) (by decide))
theorem eI.len (h:eI w W r e t ps):(av e t).length<=60:=h.perm.length_eq▸h.tF
theorem eI.nd (h:eI w W r e t ps):(ps.map T8).Nodup:=(h.perm.map T8).nodup_iff.mp (we h.ko)
theorem eI.held (h:eI w W r e t ps):Dn w ps:=⟨h.kd,h.nd,UB h.tF (by decide)⟩
end
theorem lJ {k:SK}:∀ps:List PR,bw (aQ ps) k=(ps.lookup k).map fun i=>V.int i
 | []=>rfl
 | p::ps=>by
  show Vm k ((p.1,V.int p.2)::aQ ps)=Xk _ (Vm k ((p.1,p.2)::ps));refine ab Ue (ab Ue ?_)
  cases k==p.1
  ·exact lJ ps
  ·rfl
theorem A3 {ps qs:List PR}{k:SK}{dv:V}(hn:(ps.map T8).Nodup)(hq:(qs.map T8).Nodup)(p:qs.Perm ps):(bw (aQ ps) k=none/\mc qs k dv=dv)\/∃i,bw (aQ ps) k=some (.int i)/\mc qs k dv=.int i:=by
 have hh:∀(k:SK) (i:Int),bw (aQ qs) k=some (.int i)->mc qs k dv=.int i:=fun k i e=>by
  rw [lJ] at e;unfold mc
  cases e2:qs.lookup k with
  | none=>rw [e2] at e;injection e
  | some j=>rw [e2] at e;exact US e
 by_cases h:k∈ps.map T8
 ·refine bY (TX.mp h) fun q Gy=>?_;refine .inr (ai q.2 (e7 hn q Gy) (hh _ _ (e7 hq q (p.mem_iff.mpr Gy))))
 ·refine .inl ⟨?_,vm fun q Gy e=>h (e▸TV (p.mem_iff.mp Gy))⟩;refine Vn.mpr fun q Gy=>bne_iff_ne.mpr fun e=>h ?_;refine ab (e ..) (bk (dz ..) ?_);exact TV Gy
section
variable {G:aA}{d:Nat}{H:AH}{n:Nat}{Q:KV}{w:Bool}(ok:aZ G)(fn:fJ G)
include ok fn
theorem Qp (hd:2<=d)(h:∀t r n',n<=n'->Q (eW t r []) H n'):o9 G d 7 [] H n Q:=
 B2 (c:=5) ok rfl (ok.ok.Ao 7).symm fn.QA hd rfl fun O O dx x h3 h4 h5 ne h6 a ha O=>(cv _ dx _ ae (fun b hb O=>cv _ dx _ ae ⟨rfl,cg dx _ ae ((k9 h4 h5).symm▸h a b (b+1) (TF h3 (TF (Uo x) (TF h6 (TF ha (TF (Uo a) (TY hb)))))))⟩))
theorem c37 {W r e:Nat}{t:Tr e}{ps:List PR}{a:Addr}{lo hi:SK}(hd:e+9<=d)(T:eI w W r e t ps)(yG:lo.tag=kt w)(Ei:hi.tag=kt w)(h:∀n',n<=n'->Q (.bool true) H n'):aE G d 37 [.str (wd w),aS w false e t,.az a (aQ ps),.sk lo,.sk hi] H n Q:=
 aF ok fn.f37 (kd:=e+8) hd rfl fun d d1 ne aJ=>by
  have d8:8<=d:=TF (Uc _ _) d1;have vK:=TF T.len (show 60<=400 by decide);refine Qp ok fn (TF (by decide) d8) fun t0 r0 n1 h1=>Qo ok fn (TF (by decide) d8) T.held .frozen fun qs n2 h2 hq yK=>?_;obtain rfl:av e t=qs:=kr T.ko yK (T.perm.trans hq.symm);refine Qj (xs:=[]) ok fn (TF (by decide) d8) ⟨.inl .plain,T.ne,T.nT,vK,by show 0+e<=40;have:=T.fh;exact aH (bI e) [(1,aq,.num 20)] (.add rH aq) (.num 40) rfl this⟩ .nil (TF T.dR (by decide)) (Ur _) fun n3 h3=>?_;have sp:bZ 2 (.ag ((av e t).map aB)):=.pairs;refine aL sp.cmp (aV (TF sp.dep (by decide)) (fB (show (!V.eqv _ _)=false by refine ab sp.eqv ?_;rfl) ?_));refine c28 ok fn d1 rfl T.ne T.nT T.ko vK (TF T.fh (by decide)) fun n4 h4=>?_;have hl:((av e t).map aB).length<=16777216:=by refine ab (TH ..) ?_;exact TF vK (by decide)
  refine c14 ok fn (TF (by decide) d8) rfl yG Ei T.ne T.ko T.nT vK (TF T.fh (by decide)) (TF T.dR (by decide)) fun n5 h5 n6 h6=>aV hl (cA (rg lo hi) aB aB (av e t) (fun p hp n3 K1 K2 h3 hT hF=>aL (ct yG (T.nT p hp)) (br (fun c1=>aL (ct (T.nT p hp) Ei) (br (fun c2=>hT (by unfold rg;refine ab c1 (ab c2 ?_);rfl) n3 (TJ _)) fun c2=>hF (by unfold rg;refine ab c1 (ab c2 ?_);rfl) n3 (TJ _))) fun c1=>hF (by unfold rg;refine ab c1 ?_;rfl) n3 (TJ _))) fun n7 h7=>?_);have sq:bZ 2 (.ag (((av e t).filter (rg lo hi)).map aB)):=.pairs;refine aL sq.cmp (aV (TF sq.dep (by decide)) (fB (show (!V.eqv _ _)=false by refine ab sq.eqv ?_;rfl) fun n8 h8=>?_));have h18:n<=n8:=TF aJ (TF h1 (TF h2 (TF h3 (TF h4 (TF h5 (TF h6 (TF h7 h8)))))));have my:∀k∈[lo,hi],k.tag=kt w:=fun k hk=>by
   rcases TN.mp hk with rfl | hk
   ·exact yG
   ·refine ab (TK.mp hk) ?_;exact Ei
  refine cx (fun k:SK=>mc (av e t) k (.str "none")) V.sk [lo,hi] (fun k hk n9 K K2 h9 hK=>c13 ok fn (TF (by decide) d8) rfl (my k hk) T.ne T.ko T.nT vK (TF T.fh (by decide)) hK) fun n9 h9 n10 Ed=>?_;refine cx (fun k:SK=>mc (av e t) k (.str "none")) V.sk [lo,hi] (fun k hk PD K K2 O9 hK=>aL (dD T.kd (my k hk)) ?_) fun PD O9=>?_
  ·rcases A3 (k:=k) (dv:=.str "none") T.nd (we T.ko) T.perm with ⟨g1,g2⟩ | ⟨i,g1,g2⟩
   ·exact RI g1 (g2▸hK PD (TJ _))
   ·exact K8 g1 (g2▸hK PD (TJ _))
  ·have sr:bZ 1 (.ag ([lo,hi].map fun k:SK=>mc (av e t) k (.str "none"))):=bZ.ag (m:=0) fun x hx=>by
    refine bY (TX.mp hx) fun k O=>?_;unfold mc
    cases (av e t).lookup k <;> exact .sk
   refine aL sr.cmp (aV (TF sr.dep (by decide)) ?_);have:=h PD (TF h18 (TF h9 (TF Ed O9)));rw [<- sr.eqv] at this;exact this
end
noncomputable def qz (w:Bool):Bool->(e:Nat)->Tr e->List V
 | lim,0,t=>[aS w lim 0 t]
 | lim,e+1,t=>aS w lim (e+1) t::t.2.flatMap (qz w true e)
theorem NT.aS {H:AH}{w:Bool}:∀{lim:Bool} (e:Nat) (t:Tr e),NT H e (aS w lim e t) (qz w lim e t)
 | _,0,_=>(du _ .frozen ax iU rfl)
 | _,e+1,t=>(o6 _ (t.2.map fun k=>(Internal.aS w true e k,qz w true e k)) .frozen ax (iI.trans (by refine ab Ua ?_;rfl)) (fun p hp=>by
   refine bY (TX.mp hp) fun k O=>?_;exact NT.aS e k) (by refine ab (UO ..) ?_;rfl))
theorem og {α β γ:Type}{f:α->List β}{g:α->List γ}:∀{l:List α},(∀x∈l,(f x).length=(g x).length)->(l.flatMap f).length=(l.flatMap g).length
 | []=> @fun O=>rfl
 | x::l=> @fun h=>by
  exact ab Uu (ab Uu (ab TG (ab TG (ab (h x (TM ..)) (ab (og fun y hy=>h y (TP _ hy)) rfl)))))
theorem gb {w:Bool}:∀{lim:Bool} (e:Nat) (t:Tr e),(qz w lim e t).length=(bu e t).length
 | _,0,_=>rfl
 | _,e+1,t=>congrArg (· +1) (og fun k O=>gb e k)
noncomputable def oF (k:SK)(i:Int)(p:PR):PR:=if p.1=k then (p.1,i) else p
noncomputable def xN (ps:List PR)(k:SK)(i:Int):List PR:=if ps.any (fun p=>p.1=k) then ps.map (oF k i) else ps++[(k,i)]
theorem oG {ps:List PR}{k:SK}{i:Int}:bM (aQ ps) k (.int i)=aQ (xN ps k i):=by
 have e1:(aQ ps).any (fun e=>e.1=k)=ps.any fun p=>p.1=k:=List.any_map ..;unfold bM xN;refine ab e1 ?_
 by_cases h:(ps.any fun p=>decide (p.1=k))=true
 ·refine ab (if_pos h) (ab (if_pos h) ?_);unfold aQ;refine ab Ua (ab Ua ?_);refine UK fun p O=>?_;show (if p.1=k then (p.1,V.int i) else (p.1,.int p.2))=((oF k i p).1,V.int (oF k i p).2);unfold oF
  by_cases e:p.1=k
  ·exact ab (if_pos e) (ab (if_pos e) rfl)
  ·exact ab (if_neg e) (ab (if_neg e) rfl)
 ·refine ab (if_neg h) (ab (if_neg h) ?_);unfold aQ;refine ab TR ?_;rfl
theorem Fz {k:SK}{i:Int}{p:PR}(h:p.1≠k):oF k i p=p:=if_neg h
theorem Eu {w:Bool}{qs ps:List PR}{k:SK}{i:Int}(hk:k.tag=kt w)(hs:fq qs)(hd:Kd w qs)(hp:qs.Perm ps):(ins qs k i).Perm (xN ps k i):=by
 refine ah (wc hk hs hd) fun M hM h2=>?_;have hl:∀p∈qs.filter (fY k),p.1≠k:=fun p hp=>lN (UE.mp hp).2;have hg:∀p∈qs.filter (gy k),p.1≠k:=fun p hp=>oo (UE.mp hp).2;unfold xN ins;rcases h2 with rfl | ⟨y,rfl⟩
 ·rw [if_neg (fun h=>by
   refine ah (Vr.mp h) fun p w4 e=>?_;have hp3:=hp.mem_iff.mpr w4;rw [hM] at hp3;rcases T6.mp hp3 with h | h
   ·exact hl p h (of_decide_eq_true e)
   ·exact hg p h (of_decide_eq_true e))]
  refine List.perm_middle.trans ?_;refine ((List.Perm.cons (k,i) ((show qs=qs.filter (fY k)++qs.filter (gy k) from hM)▸hp:(qs.filter (fY k)++qs.filter (gy k)).Perm ps))).trans ?_;exact (List.perm_append_singleton ..).symm
 ·refine ab (if_pos (Vr.mpr (ai (k,y) (hp.mem_iff.mp (hM▸TQ _ (TM ..))) (decide_eq_true rfl)))) ?_;have GH:∀{l:List PR},(∀p∈l,p.1≠k)->l.map (oF k i)=l:=fun h=>(UK (g:=id) fun p hp=>Fz (h p hp)).trans (Wr _);have:=hp.map (oF k i);rw [hM,TR,TR,GH hl,GH hg,show [(k,y)].map (oF k i)=[(k,i)] from congrArg (fun x=>[x]) (if_pos rfl)] at this;exact this
theorem xO {ps:List PR}{k:SK}{i:Int}:(xN ps k i).length<=ps.length+1:=by
 unfold xN
 by_cases h:(ps.any fun p=>decide (p.1=k))=true
 ·refine ab (if_pos h ..) (ab (TH ..) ?_);exact Uo _
 ·refine ab (if_neg h) (ab TG ?_);exact TJ _
theorem CM {w:Bool}{ps:List PR}{k:SK}{i:Int}(hk:k.tag=kt w)(h:Kd w ps):Kd w (xN ps k i):=fun p hp=>by
 unfold xN at hp
 by_cases c:(ps.any fun p=>decide (p.1=k))=true
 ·rw [if_pos c] at hp;refine bY (TX.mp hp) fun q hq=>?_;unfold oF
  by_cases e:q.1=k
  ·refine ab (if_pos e) ?_;exact h q hq
  ·refine ab (if_neg e) ?_;exact h q hq
 ·rw [if_neg c] at hp;rcases T6.mp hp with hp | hp
  ·exact h p hp
  ·refine ab (TK.mp hp) ?_;exact hk
structure cq where
 e:Nat
 t:Tr e
 ps:List PR
 a:Addr
 m:Nat
noncomputable def cq.v (w:Bool)(x:cq):V:=.tup [aS w false x.e x.t,.az x.a (aQ x.ps),.int x.m]
noncomputable def Fr (x y:cq):Prop:=(bu y.e y.t).countP (fun a=> !(bu x.e x.t).contains a)<=y.m
theorem Gm {n m:Nat}{as bs:List Addr}(h1:bs.countP (Us n)<=m)(h2:∀a∈bs,a<n->a∈as):bs.countP (fun a=> !as.contains a)<=m:=
 TF (List.countP_mono_left fun a ha h=>UR (Vl fun q=>by rw [UQ.mpr (h2 a ha q)] at h;injection h)) h1
noncomputable def zv:List cq->Prop
 | []=>True
 | [_]=>True
 | x::y::l=>Fr x y/\zv (y::l)
theorem zv.snoc {x y:cq}:∀{L:List cq},zv (L++[x])->Fr x y->zv (L++[x]++[y])
 | []=> @fun O h=>⟨h,trivial⟩
 | [z]=> @fun h h2=>⟨h.1,h2,trivial⟩
 | z::u::L=> @fun h h2=>⟨h.1,zv.snoc (L:=u::L) h.2 h2⟩
theorem Et {qs:List PR}{k:SK}{i:Int}(h:fq qs):fq (ins qs k i):=by
 refine Uz.mpr ⟨Vj VW h,Vs.mpr ⟨fun p hp=>(UE.mp hp).2,Vj VW h⟩,fun a ha b hb=>?_⟩;have ha:=(UE.mp ha).2;rcases TN.mp hb with rfl | hb
 ·exact ha
 ·exact dE ha (UE.mp hb).2
theorem eI.put {w:Bool}{W r n n' e e' m:Nat}{t:Tr e}{t':Tr e'}{ps:List PR}{k:SK}{i:Int}{C:eS}{as:List Addr}(h:eI w W r e t ps)(hr:r<=4)(hk:k.tag=kt w)(he:e'<=e+1)(g:uZ C w W n n' e' (ins (av e t) k i) as m ((bu e t).length+(e+2)) t'):eI w W (r+1) e' t' (xN ps k i) where
 perm:=g.pairs▸Eu hk h.ko h.nT h.perm
 ko:=g.pairs▸Et h.ko
 ne:=g.ne
 kd:=CM hk h.kd
 rank:=Um hr
 eU:=TF xO (Um h.eU)
 deep:=TF he (Um h.deep)
 size:=by
  exact aH (cm (bu e t).length e r (bu e' t').length) [(1,bL,.add aq (.add aw ia)),(1,aq,.add (.num 13) (.mulL 12 aN)),(1,aw,.add (.num 4) aN),(1,aN,.num 4)] bL (.add (.num 13) (.mulL 12 (.add aN ay))) rfl g.size h.size h.deep hr
 fA:=g.fA
theorem eI.drop {w:Bool}{W r n n' e e' m:Nat}{t:Tr e}{t':Tr e'}{ps:List PR}{k:SK}{C:eS}{as:List Addr}(h:eI w W r e t ps)(he:e'<=e)(g:uZ C w W n n' e' (iu (av e t) k) as m (bu e t).length t'):eI w W r e' t' (iu (av e t) k) where
 perm:=g.pairs▸ .refl _
 ko:=g.pairs▸Vj VW h.ko
 ne:=g.ne
 kd:=fun p hp=>h.nT p (UE.mp hp).1
 rank:=h.rank
 eU:=TF (UX ..) (h.perm.length_eq▸h.eU)
 deep:=TF he h.deep
 size:=TF g.size h.size
 fA:=g.fA
theorem i8.le {H:AH}{j:Addr}{m m':Nat}(h:i8 H j m)(hm:m<=m'):i8 H j m':=by
 refine mN h fun cs i r h1 h2 h3=>?_;exact (lW cs i r h1 h2 (TF h3 hm))
theorem RE {e p q:Nat}:((e:Int)+1)+(if (p:Int) - q > 0 then (p:Int) - q else 0)=((e+1+(p - q):Nat):Int):=by
 by_cases h:(p:Int) - q > 0
 ·exact ab (if_pos h) (congrArg (fun z=>(e:Int)+1+z) (Int.ofNat_sub (Ul.mp (W3 (Int.lt_of_sub_pos h)))).symm)
 ·refine ab (if_neg h) (congrArg (fun z:Nat=>((e+1+z:Nat):Int)) (Nat.sub_eq_zero_of_le (Ul.mp (Int.le_of_sub_nonpos (U2.mp h)))).symm)
section
variable {G:aA}{d:Nat}{H:AH}{n:Nat}{Q:KV}{w:Bool}(ok:aZ G)(fn:fJ G)
include ok fn
theorem Ay {C:eS}{W r:Nat}{tr:Addr}{L:List cq}{x:cq}{k:SK}{r0 r4 r7 r8 mj mI lx:Option V}{K:KR}{R:KV}(hd:x.e+8<=d)(hk:k.tag=kt w)(mA:H tr=some (.list ((L++[x]).map (cq.v w))))(hx:eI w W r x.e x.t x.ps)(hr:r<=4)(hT:di C w false x.e x.t n)(hW:2<=W)(fG:W<=1000)(hL:L.length<=100)
 (h:∀y n',n<=n'->(∃C',fS n C C'/\di C' w false y.e y.t n')/\y.a<n'->eI w W (r+1) y.e y.t y.ps->Fr x y->R .none (upd H tr (.list ((L++[x]++[y]).map (cq.v w)))) n'):
 kN G d [.asg (.var 10) (.call 23 [.var 5,.var 2,.var 9,.bin .Add (.int 50) (.bi .len [.var 1]),.var 3]),.asg (.var 11) (.bi .dict [.var 6]),.asg (.sub (.var 11) (.var 9)) (.bin .Add (.int 50) (.bi .len [.var 1])),.fN 11,.ex (.bx (.var 1) .append [.tup [.var 10,.var 11,.bin .Add (.call 33 [.var 5]) (.bi .max [.int 0,.bin .Sub (.bi .len [.call 34 [.var 10]]) (.bi .len [.call 34 [.var 5]])])]]),.pG]
 [r0,some (.ref tr),some (.str (wd w)),some (.int W),r4,some (aS w false x.e x.t),some (.az x.a (aQ x.ps)),r7,r8,some (.sk k),mj,mI,lx] H n K R:=by
 have hl:((L++[x]).map (cq.v w)).length<=1000:=by refine ab (TH ..) (ab (TG ..) ?_);exact TF (Uw hL 1) (by decide)
 refine (ai _ mA (aV (TF hl (by decide)) ?_));refine c23 ok fn (TF (aH (bI x.e) [] (.add (.num 6) aq) (.add aq (.num 8)) rfl) hd) hx.fA hW fG hk hx.ne hx.ko hx.nT (TF hx.len (by decide)) hT fun e' t' n1 h1 he g=>?_;have Gv:(aQ x.ps).length<=1000:=by unfold aQ;refine ab (TH ..) ?_;exact TF hx.tF (by decide)
 refine aV Gv fun a ha h0=>?_;have MM:tr≠a:=fun e=>by rw [<- e,mA] at h0;injection h0
 refine (ai _ ((ak MM).trans mA) (aV (TF hl (by decide)) (ai _ ae (aL (dD hx.kd hk) (aV Gv (bA _ _ rfl ae ?_))))));refine ab oG (ab aX (ab cY (ab (cJ h0) ?_)));have T:=hx.put (k:=k) hr hk he g;have z1:(qz w false e' t').length<=1000:=by refine ab (gb ..) ?_;exact TF T.dR (by decide)
 have z2:(qz w false x.e x.t).length<=1000:=by refine ab (gb ..) ?_;exact TF hx.dR (by decide)
 refine (ai _ mA (c33 ok fn (TF (aH (bI x.e) [] (.add aq ay) (.add aq (.num 8)) rfl) hd) hx.ne (TF hx.len (by decide)) fun n3 h3=>O1 ok fn (TF (aH (bc e' x.e) [(1,aq,.add aw ay)] (.add aq ay) (.add aw (.num 8)) rfl he) hd) (.aS e' t') z1 fun n4 h4=>aV (TF z1 (by decide)) (O1 ok fn (TF (aH (bI x.e) [] (.add aq ay) (.add aq (.num 8)) rfl) hd) (.aS x.e x.t) z2 fun n5 h5=>aV (TF z2 (by decide)) (ai _ mA (aV (TF hl (by decide)) ?_)))));refine ab (gb ..) (ab (gb ..) ?_);have Gn:n1<=n5:=TF (TY ha) (TF h3 (TF h4 h5));refine ah g.typ fun C' hC QL=>?_;have:=h ⟨e',t',xN x.ps k (50+((L++[x]).map (cq.v w)).length),a,x.e+1+((bu e' t').length - (bu x.e x.t).length)⟩ n5 (TF h1 Gn) ⟨ai C' hC (QL.mono (fun O O=>rfl) Gn),TF h3 (TF h4 h5)⟩ T (Gm g.fresh g.old);rw [TR (l₂:=[_])] at this;exact (congrArg (fun z=>R .none (upd H tr (.list ((L++[x]).map (cq.v w)++[.tup [aS w false e' t',.az a (aQ (xN x.ps k (50+((L++[x]).map (cq.v w)).length))),.int z]]))) n5) RE).mpr this
theorem yf {C:eS}{W r:Nat}{tr:Addr}{L:List cq}{x:cq}{k:SK}{r0 r3 r4 r7 mj mI lx:Option V}{K:KR}{R:KV}(hd:x.e+8<=d)(hk:k.tag=kt w)(mA:H tr=some (.list ((L++[x]).map (cq.v w))))(hx:eI w W r x.e x.t x.ps)(hT:di C w false x.e x.t n)(hL:L.length<=100)
 (h:∀y n' v8 uV,n<=n'->(∃C',fS n C C'/\di C' w false y.e y.t n')/\y.a<n'->eI w W r y.e y.t y.ps->Fr x y->y.ps=iu (av x.e x.t) k->K [r0,some (.ref tr),some (.str (wd w)),r3,r4,some (aS w false x.e x.t),some (.az x.a (aQ x.ps)),r7,v8,some (.sk k),mj,mI,uV] (upd H tr (.list ((L++[x]++[y]).map (cq.v w)))) n'):
 kN G d [.asg (.var 12) (.bi .lE [.lc 2 (.tup [.var 14,.sub (.var 6) (.var 14)]) (.var 14) .pl [.var 8] [.cmp .NotEq (.var 14) (.var 9)]]),.ex (.bx (.var 1) .append [.tup [.call 25 [.var 5,.var 2,.var 9],.var 12,.call 33 [.var 5]]])]
 [r0,some (.ref tr),some (.str (wd w)),r3,r4,some (aS w false x.e x.t),some (.az x.a (aQ x.ps)),r7,some (.ag (((av x.e x.t).map T8).map .sk)),some (.sk k),mj,mI,lx] H n K R:=by
 have hl:((L++[x]).map (cq.v w)).length<=1000:=by refine ab (TH ..) (ab (TG ..) ?_);exact TF (Uw hL 1) (by decide)
 have hz:(((av x.e x.t).map T8).map V.sk).length<=1000:=by refine ab (TH ..) (ab (TH ..) ?_);exact TF hx.len (by decide)
 intro n1 h1;refine aV (TF hz (by decide)) ?_;refine ab Ua ?_;refine cA (fun p:PR=> !decide (p.1=k)) aB (V.sk∘T8) (av x.e x.t) (fun p hp n3 K K2 h3 hT hF=>aL (eA (hx.nT p hp) hk) (br (fun e=>aL (dD hx.kd (hx.nT p hp)) (dh (e7 hx.nd p (hx.perm.mem_iff.mp hp)) (hT e n3 (TJ _)))) fun e=>hF e n3 (TJ _))) fun n2 h2=>?_;have nO:List.Sublist (iu (av x.e x.t) k) (av x.e x.t):=VW;refine (o6 (aQ (iu (av x.e x.t) k)) (kt w) ?_ (fun p hp=>?_) ?_ ?_ (fun a ha h0=>?_))
 ·unfold aQ;refine ab Ua ?_;rfl
 ·refine bY (TX.mp hp) fun q hq=>?_;exact hx.nT q (nO.subset hq)
 ·refine ab (dz ..) ?_;exact Vj (nO.map T8) (we hx.ko)
 ·unfold aQ;refine ab (TH ..) ?_;exact TF nO.length_le (TF hx.len (by decide))
 have uP:n<=a+1:=TF h1 (TF h2 (TY ha));refine (ai _ mA (c25 ok fn (TF (aH (bI x.e) [] (.add (.num 6) aq) (.add aq (.num 8)) rfl) hd) hx.fA hk hx.ne hx.ko hx.nT (TF hx.len (by decide)) (hT.mono (fun O O=>rfl) uP) fun e' t' n3 h3 he g=>c33 ok fn (TF (aH (bI x.e) [] (.add aq ay) (.add aq (.num 8)) rfl) hd) hx.ne (TF hx.len (by decide)) fun n4 h4=>(ai _ mA (aV (TF hl (by decide)) ?_))));refine ah g.typ fun C' hC QL=>?_;have:=h ⟨e',t',iu (av x.e x.t) k,a,x.e+1⟩ n4 (some (.ag ((av x.e x.t).map (V.sk∘T8)))) (some (.az a (aQ (iu (av x.e x.t) k)))) (TF uP (TF h3 h4)) ⟨ai C' (fun b hb=>hC b (TO hb uP)) (QL.mono (fun O O=>rfl) h4),TF h3 h4⟩ (hx.drop he g) (Gm g.fresh g.old) rfl;rw [TR (l₂:=[_])] at this;exact this
theorem Ax {m:Nat}{j:Addr}{ps:List PR}{r1 r3 r4 r5 r6 r7 r9 mj mI lx:Option V}{K:KR}{R:KV}(hd:2<=d)(hj:i8 H j m)(hm:m<=500)(hk:Kd w ps)(hz:ps.length<=60)
 (h:∀k J n',n<=n'->k.tag=kt w->i8 (upd H j J) j (m+3)->K [some (.ref j),r1,some (.str (wd w)),r3,r4,r5,r6,r7,some (.ag ((ps.map T8).map .sk)),some (.sk k),mj,mI,lx] (upd H j J) n'):
 WS G d (.asg (.var 9) (.ite (.gx .Or [.cmp .Eq (.var 8) (.list []),.cmp .Gt (.call 30 [.var 0,.int 4]) (.int 0)]) (.call 31 [.var 2,.call 30 [.var 0,.int 19]]) (.sub (.var 8) (.call 30 [.var 0,.bi .len [.var 8]]))))
 [some (.ref j),r1,some (.str (wd w)),r3,r4,r5,r6,r7,some (.ag ((ps.map T8).map .sk)),r9,mj,mI,lx] H n K R:=by
 have hl:((ps.map T8).map V.sk).length<=1000:=by refine ab (TH ..) (ab (TH ..) ?_);exact TF hz (by decide)
 have Ip:(V.ag ((ps.map T8).map V.sk)).dep<=200:=TF (bZ.ag (m:=0) fun x hx=>by refine bY (TX.mp hx) fun k O=>?_;exact .sk).dep (by decide);have d1:=TF (show 1<=2 by decide) hd;refine aL (jW _) (aV Ip (br (fun c=>?_) fun c=>?_))
 ·refine uN ok fn d1 (by decide) (by decide) (TF hm (by decide)) hj fun i J n1 h1 hi hJ=>Hz ok fn d1 hi fun k n2 h2 hk=>h k J n2 (TF h1 h2) hk (hJ.le (Uy (show 1<=3 by decide) m))
 ·refine uN ok fn d1 (by decide) (by decide) (TF hm (by decide)) hj fun i J n1 h1 hi hJ=>br (fun c2=>?_) fun c2=>?_
  ·refine uN ok fn d1 (by decide) (by decide) (TF (Um hm) (by decide)) hJ fun i2 J2 n2 h2 Ej mw=>Hz ok fn d1 Ej fun k n3 h3 hk=>?_;rw [aX] at mw ⊢;exact h k J2 n3 (TF h1 (TF h2 h3)) hk (mw.le (Uy (show 2<=3 by decide) m))
  ·refine aV (TF hl (by decide)) (uN ok fn d1 (many:=((ps.map T8).map V.sk).length) ?_ hl (TF (Um hm) (by decide)) hJ fun i2 J2 n2 h2 Ej mw=>?_)
   ·cases ps with
    | nil=>injection c
    | cons p ps=>exact Vb _
   ·have hi3:i2<ps.length:=by rwa [TH,TH] at Ej
    refine dh (x:=.sk ps[i2].1) ?_ (aV (TF hl (by decide)) ?_)
    ·show ((ps.map T8).map V.sk)[i2]? =_;refine ab Ui (ab Ui (ab (T9 hi3) ?_));rfl
    ·rw [aX] at mw ⊢;exact h _ J2 n2 (TF h1 h2) (hk _ (UN hi3)) (mw.le (Uy (show 2<=3 by decide) m))
theorem yg {m way:Nat}{j:Addr}{ps:List PR}{r1 r3 r5 r6 r7 r9 mj mI lx:Option V}{K:KR}{R:KV}(hd:2<=d)(hj:i8 H j m)(hm:m<=500)(hk:Kd w ps)(hz:ps.length<=60)(h0:ps≠[])(hw:0<way)(hw4:way<=4)
 (h:∀k J n',n<=n'->k.tag=kt w->i8 (upd H j J) j (m+3)->(way<4->∃p∈ps,p.1=k)->K [some (.ref j),r1,some (.str (wd w)),r3,some (.int way),r5,r6,r7,some (.ag ((ps.map T8).map .sk)),some (.sk k),mj,mI,lx] (upd H j J) n'):
 WS G d (.asg (.var 9) (.ite (.cmp .Lt (.var 4) (.int 4)) (.sub (.var 8) (.sub (.tup [.int 0,.bin .FloorDiv (.bi .len [.var 8]) (.int 2),.neg (.int 1)]) (.bin .Sub (.var 4) (.int 1)))) (.call 31 [.var 2,.call 30 [.var 0,.int 19]])))
 [some (.ref j),r1,some (.str (wd w)),r3,some (.int way),r5,r6,r7,some (.ag ((ps.map T8).map .sk)),r9,mj,mI,lx] H n K R:=by
 have hl:((ps.map T8).map V.sk).length<=1000:=by refine ab (TH ..) (ab (TH ..) ?_);exact TF hz (by decide)
 have d1:=TF (show 1<=2 by decide) hd;obtain ⟨o,ho,GB⟩:∃o,H j=some o/\upd H j o=H:=by
  refine jt hj fun cs i r e O=>?_;exact (ai _ e (dS e))
 have go:∀k,(∃p∈ps,p.1=k)->K [some (.ref j),r1,some (.str (wd w)),r3,some (.int way),r5,r6,r7,some (.ag ((ps.map T8).map .sk)),some (.sk k),mj,mI,lx] H n:=fun k hp=>by
  refine ah hp fun p KS w4=>?_;have:=h k o n (TJ _) (w4▸hk p KS) (by refine ab GB ?_;exact hj.le (TZ m 3)) fun O=>(ai p KS w4);rw [GB] at this;exact this
 have l1:((ps.map T8).map V.sk).length=ps.length:=by exact ab (TH ..) (ab (TH ..) rfl)
 have get:∀i (hi:i<ps.length),((ps.map T8).map V.sk)[i]? =some (.sk ps[i].1):=fun i hi=>by
  refine ab Ui (ab Ui (ab (T9 hi) ?_));rfl
 have vD:0<ps.length:=Wc.mpr h0;rcases Nat.lt_or_ge way 4 with c | c
 ·refine jU (decide_eq_true (UH.mpr c)) (aV (TF hl (by decide)) ?_);rcases (CS hw c) with rfl | rfl | rfl
  ·exact dh (get 0 vD) (aV (TF hl (by decide)) (go _ (ai _ (UN vD) rfl)))
  ·have hh:ps.length / 2<ps.length:=Nat.div_lt_self vD (by decide);refine dh (x:=.sk (ps[ps.length / 2]'hh).1) ?_ (aV (TF hl (by decide)) ?_)
   ·refine ab l1 (ab (show ((ps.length:Int).fdiv 2)=(ps.length / 2:Nat) from q7) ?_);exact get _ hh
   ·exact go _ (ai _ (UN hh) rfl)
  ·refine eJ (gT h0) fun a x e=>?_;refine dh (x:=.sk x.1) ?_ (aV (TF hl (by decide)) ?_)
   ·refine ab e (ab TR (ab TR ?_));exact FX
   ·exact go _ (ai x (e▸TQ _ (T1 _)) rfl)
 ·refine fB (decide_eq_false (U2.mpr (Ul.mpr c))) (uN ok fn d1 (by decide) (by decide) (TF hm (by decide)) hj fun i J n1 h1 hi hJ=>Hz ok fn d1 hi fun k n2 h2 hk=>h k J n2 (TF h1 h2) hk (hJ.le (Uy (show 1<=3 by decide) m)) fun q=>absurd q (Ux.mpr c))
theorem tq {C:eS}{W r m n0:Nat}{j tr:Addr}{L:List cq}{x:cq}{r4 r7 r9 mj mI lx:Option V}{K:KR}{R:KV}(hd:x.e+8<=d)(hj:i8 H j m)(hm:m<=500)(iX:j≠tr)(mA:H tr=some (.list ((L++[x]).map (cq.v w))))(hx:eI w W r x.e x.t x.ps)(hr:r<=4)(hT:di C w false x.e x.t n0)(aJ:n0<=n)(hW:2<=W)(fG:W<=1000)(hL:L.length<=100)
 (h:∀y J n',n<=n'->i8 (upd H j J) j (m+3)->(∃C',fS n0 C C'/\di C' w false y.e y.t n')/\y.a<n'->eI w W (r+1) y.e y.t y.ps->Fr x y->R .none (upd (upd H j J) tr (.list ((L++[x]++[y]).map (cq.v w)))) n'):
 kN G d [.asg (.var 9) (.ite (.gx .Or [.cmp .Eq (.var 8) (.list []),.cmp .Gt (.call 30 [.var 0,.int 4]) (.int 0)]) (.call 31 [.var 2,.call 30 [.var 0,.int 19]]) (.sub (.var 8) (.call 30 [.var 0,.bi .len [.var 8]]))),.asg (.var 10) (.call 23 [.var 5,.var 2,.var 9,.bin .Add (.int 50) (.bi .len [.var 1]),.var 3]),.asg (.var 11) (.bi .dict [.var 6]),.asg (.sub (.var 11) (.var 9)) (.bin .Add (.int 50) (.bi .len [.var 1])),.fN 11,.ex (.bx (.var 1) .append [.tup [.var 10,.var 11,.bin .Add (.call 33 [.var 5]) (.bi .max [.int 0,.bin .Sub (.bi .len [.call 34 [.var 10]]) (.bi .len [.call 34 [.var 5]])])]]),.pG]
 [some (.ref j),some (.ref tr),some (.str (wd w)),some (.int W),r4,some (aS w false x.e x.t),some (.az x.a (aQ x.ps)),r7,some (.ag (((av x.e x.t).map T8).map .sk)),r9,mj,mI,lx] H n K R:=
 Ax ok fn (TF (Uc 2 (x.e+6)) hd) hj hm hx.nT hx.len fun k J n1 h1 hk hJ=>Ay ok fn hd hk ((ak iX.symm).trans mA) hx hr (hT.mono (fun O O=>rfl) (TF aJ h1)) hW fG hL fun y n2 h2 uT AZ Dc=>h y J n2 (TF h1 h2) hJ (by obtain ⟨⟨C',a1,a2⟩,a3⟩:=uT;exact ⟨ai C' (fun b hb=>a1 b (TO hb (TF aJ h1))) a2,a3⟩) AZ Dc
theorem c36 {C:eS}{W r m way:Nat}{j tr:Addr}{L:List cq}{x:cq}(hd:x.e+20<=d)(hj:i8 H j m)(hm:m<=500)(iX:j≠tr)(mA:H tr=some (.list ((L++[x]).map (cq.v w))))(hx:eI w W r x.e x.t x.ps)(hr:r<=4)(hT:di C w false x.e x.t n)(hW:2<=W)(fG:W<=1000)(rq:way<=4)(hL:L.length<=100)
 (h:∀y J n',n<=n'->i8 (upd H j J) j (m+3)->(∃C',fS n C C'/\di C' w false y.e y.t n')/\y.a<n'->(eI w W (r+1) y.e y.t y.ps)->(0<way->x.ps≠[]->eI w W r y.e y.t y.ps/\(way<4->y.ps.length<x.ps.length))->Fr x y->Q .none (upd (upd H j J) tr (.list ((L++[x]++[y]).map (cq.v w)))) n'):
 aE G d 36 [.ref j,.ref tr,.str (wd w),.int W,.int way] H n Q:=
 aF ok fn.f36 (kd:=x.e+19) hd rfl fun d d1 ne aJ=>by
  have hl:((L++[x]).map (cq.v w)).length<=1000:=by refine ab (TH ..) (ab (TG ..) ?_);exact TF (Uw hL 1) (by decide)
  refine (ai _ mA (dh (x:=x.v w) (by refine ab TR ?_;exact FX) (aV (TF hl (by decide)) ?_)));refine ⟨by refine ab (dz ..) ?_;exact xf hx.held,fun jE hp hs=>?_⟩;rw [dz] at hp;refine bE (lQ hx.held hp hs) fun qs hq jI yK=>?_;subst jI;obtain rfl:av x.e x.t=qs:=kr hx.ko yK (hx.perm.trans hq.symm);have d8:x.e+8<=d:=TF (Uy (by decide) _) d1;have d2:2<=d:=TF (Uc _ _) (TF (Uy (show 2<=19 by decide) _) d1);have Ip:(V.ag (((av x.e x.t).map T8).map V.sk)).dep<=200:=TF (bZ.ag (m:=0) fun x hx=>by refine bY (TX.mp hx) fun k O=>?_;exact .sk).dep (by decide);have go:=fun (qn:¬(0<way/\x.ps≠[])) y J n2 h1 h2 h3 h4 h5=>h y J n2 (TF aJ h1) h2 h3 h4 (fun a b=>absurd ⟨a,b⟩ qn) h5;refine br (fun c=>tq ok fn d8 hj hm iX mA hx hr hT aJ hW fG hL (go fun qn=>?_)) fun c=>aL (jW _) (aV Ip (br (fun c2=>tq ok fn d8 hj hm iX mA hx hr hT aJ hW fG hL (go fun qn=>?_)) fun c2=>?_))
  ·have e0:(way:Int)=0:=SK.int.inj (of_decide_eq_true c);exact absurd qn.1 (Ux.mpr (Ul.mp (eO (cP ((way:Nat):Int)) [(1,bg,cG)] bg cG rfl (VS e0))))
  ·have e0:av x.e x.t=[]:=by
    cases e:av x.e x.t with
    | nil=>rfl
    | cons p ps=>rw [e] at c2;injection c2
   exact qn.2 (List.nil_perm.mp (e0▸hx.perm))
  ·have hw0:0<way:=Nat.pos_of_ne_zero fun e=>by rw [e] at c;injection c
   have h0:av x.e x.t≠[]:=fun e=>by rw [e] at c2;injection c2
   refine yg (R:=Q) ok fn d2 hj hm hx.nT hx.len h0 hw0 rq fun k J n1 h1 hk hJ jB=>?_;refine yf (K:=fun O H1 n1=>Q .none H1 n1) (R:=Q) ok fn d8 hk ((ak iX.symm).trans mA) hx (hT.mono (fun O O=>rfl) (TF aJ h1)) hL fun y n2 v8 uV h2 uT AZ Dc yJ=>h y J n2 (TF aJ (TF h1 h2)) hJ (by obtain ⟨⟨C',a1,a2⟩,a3⟩:=uT;exact ⟨ai C' (fun b hb=>a1 b (TO hb (TF aJ h1))) a2,a3⟩) ⟨AZ.perm,AZ.ko,AZ.ne,AZ.kd,Um hr,TY AZ.eU,TY AZ.deep,TF AZ.size (aH (bI r) [] (.add (.num 13) (.mulL 12 aq)) (.add (.num 13) (.mulL 12 (.add aq ay))) rfl),AZ.fA⟩ (fun O O=>⟨AZ,fun q=>?_⟩) Dc;refine ah (jB q) fun p KS w4=>?_;refine ab yJ (bk hx.perm.length_eq ?_);exact List.length_filter_lt_length_iff_exists.mpr (ai p KS (by refine ab (decide_eq_true w4) ?_;exact T4))
end
theorem Tl.flat {k:Nat}{v r:V}(h:Tl k v r):bp r:=by
 induction h with
 | int=>exact bp.tup fun x hx=>by rcases TN.mp hx with rfl | hx;exact .sk;refine ab (TK.mp hx) ?_;exact .sk
 | str=>exact bp.tup fun x hx=>by rcases TN.mp hx with rfl | hx;exact .sk;refine ab (TK.mp hx) ?_;exact .sk
 | ref=>
  exact bp.tup fun x hx=>by
   rcases TN.mp hx with rfl | hx
   ·exact .sk
   ·rcases TN.mp hx with rfl | hx
    ·exact .sk
    ·refine ab (TK.mp hx) ?_;exact .sk
 | arr _ _ ih=>
  exact bp.tup fun x hx=>by
   rcases TN.mp hx with rfl | hx
   ·exact .sk
   ·refine bY (TX.mp hx) fun p hp=>?_;exact ih p hp
 | Gg _ _ _ _ _ _ ih=>
  exact bp.tup fun x hx=>by
   rcases TN.mp hx with rfl | hx
   ·exact .sk
   ·refine bY (TX.mp hx) fun q hq=>?_;refine bp.tup fun y hy=>?_;rcases TN.mp hy with rfl | hy
    ·exact .sk
    ·refine ab (TK.mp hy) ?_;exact ih q hq
noncomputable def uU (w:Bool):Bool->(e:Nat)->Tr e->List (Addr × List (SK × V))
 | lim,0,t=>[(sR 0 t,ents w lim 0 t)]
 | lim,e+1,t=>(sR (e+1) t,ents w lim (e+1) t)::t.2.flatMap (uU w true e)
theorem dP {w:Bool}:∀{lim:Bool} (e:Nat) (t:Tr e),(uU w lim e t).map T8=bu e t
 | _,0=>fun O=>rfl
 | _,e+1=>fun t=>by
  show _::(t.2.flatMap (uU w true e)).map T8=_::t.2.flatMap (bu e);refine ab Wv (ab V5 (ab V5 (ab (UK fun k O=>dP e k) ?_)));rfl
theorem mG {C:eS}{w:Bool}{n:Nat}:∀{lim:Bool} (e:Nat) (t:Tr e),di C w lim e t n->∀p∈uU w lim e t,C p.1=p.2
 | _,0=> @fun t h p hp=>by refine ab (TK.mp hp) ?_;exact h.2
 | _,e+1=> @fun t h p hp=>by
  rcases TN.mp hp with rfl | hp
  ·exact h.2.1
  ·refine ah (Uk.mp hp) fun k hk hp=>?_;exact mG e k (h.2.2 k hk) p hp
theorem ey {w:Bool}:∀{lim:Bool} (e:Nat) (t:Tr e),∀p∈uU w lim e t,(∃k,t8 k=true/\SK.str k∈p.2.map (·.1))/\(∀s,aR p.2 (.str s)=true)/\bw p.2 (.str "Mark")=none/\p.2.length<=900/\p.2≠[]
 | lim,0,t,p,hp=>by
  refine ab (TK.mp hp) ?_;refine ⟨ai (wd w) (by cases w <;> rfl) ?_,fun s=>ax,?_,?_,?_⟩
  ·cases lim <;> cases w <;> first | exact TM .. | exact TP _ (TM ..)
  ·cases lim <;> cases w <;> rfl
  ·cases lim <;> exact Uh rfl
  ·cases lim <;> exact VD _ _
 | lim,e+1,t,p,hp=>by
  rcases TN.mp hp with rfl | hp
  ·refine ⟨ai ("Kids") rfl ?_,fun s=>ax,?_,?_,?_⟩
   ·cases lim <;> first | exact TM .. | exact TP _ (TM ..)
   ·cases lim <;> rfl
   ·cases lim <;> exact Uh rfl
   ·cases lim <;> exact VD _ _
  ·refine ah (Uk.mp hp) fun k hk hp=>?_;exact ey e k p hp
theorem xD {l:List V}(h:∀x∈l,x.fw=true):pE l=true:=by
 induction l with
 | nil=>rfl
 | cons x l ih=>
  show (x.fw&&pE l)=true;refine ab (h x (TM ..)) (ab (ih fun y hy=>h y (TP _ hy)) ?_);rfl
theorem E9 {lim:Bool}{l v:V}{k:Str}(h1:l.fw=true)(h2:v.fw=true):ip (EL lim l k v)=true:=by
 cases lim
 ·show (v.fw&&true)=true;refine ab h2 ?_;rfl
 ·show (l.fw&&(v.fw&&true))=true;refine ab h1 (ab h2 ?_);rfl
theorem gP {w:Bool}:∀{lim:Bool} (e:Nat) (t:Tr e),(aS w lim e t).fw=true
 | _,0=> @fun t=>(bp.el .lim .row).2
 | _,e+1=> @fun t=>E9 bp.lim.fw (xD fun x hx=>by
   refine bY (TX.mp hx) fun k O=>?_;exact gP e k)
theorem rM {w:Bool}:∀{lim:Bool} (e:Nat) (t:Tr e),∀p∈uU w lim e t,ip p.2=true
 | _,0,t,p,hp=>by refine ab (TK.mp hp) ?_;exact gP 0 t
 | _,e+1,t,p,hp=>by
  rcases TN.mp hp with rfl | hp
  ·exact gP (e+1) t
  ·refine ah (Uk.mp hp) fun k hk hp=>?_;exact rM e k p hp
theorem w0 {q:V->Prop}{l:List V}{x:V}(hx:x∈l)(h:x.has q):vt q l:=by
 induction l with
 | nil=>exact nomatch hx
 | cons y l ih=>
  rcases TN.mp hx with rfl | hx
  ·exact .inl h
  ·exact .inr (ih hx)
theorem Ii {q:V->Prop}{lim:Bool}{l v:V}{k:Str}(h:v.has q):A0 q (EL lim l k v):=by
 cases lim
 ·exact .inl h
 ·exact .inr (.inl h)
theorem rO {w:Bool}:∀{lim:Bool} (e:Nat) (t:Tr e),∀p∈uU w lim e t,(aS w lim e t).has fun z=>z=.az p.1 p.2
 | _,0,t,p,hp=>by refine ab (TK.mp hp) ?_;exact .inl rfl
 | _,e+1,t,p,hp=>by
  rcases TN.mp hp with rfl | hp
  ·exact .inl rfl
  ·refine ah (Uk.mp hp) fun k hk hp=>?_;exact .inr (Ii (w0 (TV hk) (rO e k p hp)))
theorem rP {w:Bool}{S:Addr->Bool}{lim:Bool}{e:Nat}{t:Tr e}(h:S (sR e t)=true):(aS w lim e t).dG S=.ref (sR e t):=if_pos h
theorem FE {S:Addr->Bool}{lim:Bool}{l v:V}{k:Str}:dX S (EL lim l k v)=EL lim (l.dG S) k (v.dG S):=by cases lim <;> rfl
theorem oQ {S:Addr->Bool}:∀(l:List V),oP S l=l.map (V.dG S)
 | []=>rfl
 | x::l=>congrArg (x.dG S:: ·) (oQ l)
theorem qa {w:Bool}{S:Addr->Bool}{lim:Bool}{t:Tr 0}:dX S (ents w lim 0 t)=ents w lim 0 t:=(bp.el .lim .row).1 S
theorem yo {w:Bool}{S:Addr->Bool}{lim:Bool}{e:Nat}{t:Tr (e+1)}(h:∀k∈t.2,S (sR e k)=true):dX S (ents w lim (e+1) t)=EL lim (fP w (av (e+1) t)) "Kids" (.ag (t.2.map fun k=>.ref (sR e k))):=by
 show dX S (EL lim (fP w _) "Kids" (.ag (t.2.map (aS w true e))))=_;refine ab (FE ..) (ab (bp.lim.dG ..) ?_)
 congr 1
 show V.ag (oP S (t.2.map (aS w true e)))=_;refine ab (oQ ..) (ab (Ua ..) ?_);exact congrArg V.ag (UK fun k hk=>rP (h k hk))
theorem iO:∀(e:Nat) (t:Tr e),sR e t∈bu e t
 | 0=> @fun O=>TM ..
 | _+1=> @fun O=>TM ..
theorem NT.wq {H:AH}{w:Bool}{S:Addr->Bool}:∀{lim:Bool} (e:Nat) (t:Tr e),(∀a∈bu e t,S a=true)->(∀p∈uU w lim e t,H p.1=some (.dict (dX S p.2)))->NT H e (.ref (sR e t)) ((bu e t).map .ref)
 | lim,0=> @fun t hS hH=>(du _ (.made (hH _ (T1 _))) (by refine ab qa ?_;exact ax) (by refine ab qa ?_;exact iU) rfl)
 | lim,e+1=> @fun t hS hH=>by
  have hk:∀k∈t.2,∀a∈bu e k,S a=true:=fun k hk a ha=>hS a (TP _ (Uk.mpr (ai k hk ha)));have he:=yo (w:=w) (lim:=lim) (t:=t) fun k h=>hk k h _ (iO e k);refine (o6 _ (t.2.map fun k=>(.ref (sR e k),(bu e k).map .ref)) (.made (hH (sR (e+1) t,_) (TM ..))) ?_ ?_ (fun p hp=>?_) ?_)
  ·refine ab he ?_;exact nk
  ·refine ab he (ab Ua ?_);exact fD
  ·refine bY (TX.mp hp) fun k h=>?_;exact NT.wq e k (hk k h) fun p hp=>hH p (TP _ (Uk.mpr (ai k h hp)))
  ·refine ab (UO ..) ?_;show V.ref _::(t.2.flatMap (bu e)).map V.ref=_;refine ab Wv ?_;rfl
theorem oN {S:Addr->Bool}{k:SK}:∀(es:List (SK × V)),bw (dX S es) k=(bw es k).map (V.dG S)
 | []=>rfl
 | (j,x)::es=>by
  show Vm k ((j,x.dG S)::dX S es)=Xk _ (Vm k ((j,x)::es));refine ab Ue (ab Ue ?_)
  cases k==j
  ·exact oN es
  ·rfl
theorem kE {S:Addr->Bool}{k:SK}:∀{es:List (SK × V)},aR es k=true->aR (dX S es) k=true
 | []=> @fun O=>rfl
 | (j,x)::es=> @fun h=>by
  have h:((j.tag==k.tag)&&aR es k)=true:=h;show ((j.tag==k.tag)&&aR (dX S es) k)=true;refine ab ((af h).1) (ab (kE (af h).2) ?_);rfl
theorem kC {S:Addr->Bool}:∀(es:List (SK × V)),(dX S es).length=es.length
 | []=>rfl
 | (_,_)::es=>congrArg (· +1) (kC es)
theorem sv {C':eS}{w lim:Bool}{n n' e:Nat}{t:Tr e}(hC:fS n (fun O=>[]) C')(hT:di C' w lim e t n'):∀a∈bu e t,n<=a:=fun a ha=>Vl fun bO=>by
 rw [<- dP (w:=w) (lim:=lim)] at ha;refine ah (TX.mp ha) fun p hp lu=>?_;subst lu;exact (ey e t p hp).2.2.2.2 ((mG e t hT p hp).symm.trans (hC _ bO))
structure jP (H H':AH)(sh dx t r:Addr)(es:List (SK × V)):Prop where
 at_:H' sh=some (.inst 5 dx [("table",.ref t),("trailer",.ref r)])
 tab:H' t=some (.dict es)
 Tw:H' r=some (.dict [])
 tr:t≠r
 st:sh≠t
 s0:H sh=none
 d0:H dx=none
 t0:H t=none
 r0:H r=none
 keep:∀a,a≠sh->a≠dx->a≠t->a≠r->H' a=H a
theorem jP.put {H H':AH}{sh dx t r:Addr}{es es':List (SK × V)}(h:jP H H' sh dx t r es):jP H (upd H' t (.dict es')) sh dx t r es':=
 ⟨(ak h.st).trans h.at_,ae,(ak h.tr.symm).trans h.Tw,h.tr,h.st,h.s0,h.d0,h.t0,h.r0,fun a h1 h2 h3 h4=>(ak h3).trans (h.keep a h1 h2 h3 h4)⟩
theorem jP.pz {H H':AH}{sh dx t r j:Addr}{es:List (SK × V)}{o J:bG}(h:jP H H' sh dx t r es)(hj:H j=some o):jP (upd H j J) (upd H' j J) sh dx t r es:=by
 have n:∀a,H a=none->a≠j:=fun a e q=>by rw [q,hj] at e;injection e
 refine ⟨(ak (n _ h.s0)).trans h.at_,(ak (n _ h.t0)).trans h.tab,(ak (n _ h.r0)).trans h.Tw,h.tr,h.st,(ak (n _ h.s0)).trans h.s0,(ak (n _ h.d0)).trans h.d0,(ak (n _ h.t0)).trans h.t0,(ak (n _ h.r0)).trans h.r0,fun a h1 h2 h3 h4=>?_⟩
 by_cases e:a=j
 ·exact ab e (ab ae (ab ae rfl))
 ·refine ab (ak e) (ab (ak e) ?_);exact h.keep a h1 h2 h3 h4
theorem jP.back {H H':AH}{sh dx t r:Addr}{es:List (SK × V)}(h:jP H H' sh dx t r es):cB (cB (cB (cB H' sh) dx) t) r=H:=funext fun b=>by
 show (if b=r then none else if b=t then none else if b=dx then none else if b=sh then none else H' b)=H b
 by_cases e1:b=r
 ·exact ab (if_pos e1) (ab e1 (ab h.r0 rfl))
 refine ab (if_neg e1) ?_
 by_cases e2:b=t
 ·exact ab (if_pos e2) (ab e2 (ab h.t0 rfl))
 refine ab (if_neg e2) ?_
 by_cases e3:b=dx
 ·exact ab (if_pos e3) (ab e3 (ab h.d0 rfl))
 refine ab (if_neg e3) ?_
 by_cases e4:b=sh
 ·exact ab (if_pos e4) (ab e4 (ab h.s0 rfl))
 refine ab (if_neg e4) ?_;exact h.keep b e4 e3 e2 e1
section
variable {G:aA}{d:Nat}{H:AH}{n:Nat}{Q:KV}{w:Bool}(ok:aZ G)(fn:fJ G)
include ok fn
theorem c65 (hd:2<=d)(h:∀sh dx t r H' n',n<=n'->t<n'->r<n'->jP H H' sh dx t r []->Q (.ref sh) H' n'):o9 G d 5 [] H n Q:=
 GV (c:=5) ok rfl fn.f65 hd rfl fun d d1 dx x hx QX h0 h1 ne aJ t ht zC=>(cv _ dx _ ((ak (aU zC).1.symm).trans ae) (fun r hr yL=>(cv _ dx _ ((ak (aU yL).1.symm).trans ae) (by
  obtain ⟨rx,yL⟩:=aU yL;obtain ⟨rt,yL⟩:=aU yL;have yL:=(aU (aU yL).2).2;obtain ⟨tx,zC⟩:=aU zC;have zC:=(aU zC).2;exact ⟨rfl,h x dx t r _ (r+1) (TF hx (TF (Uo x) (TF aJ (TF ht (TF (Uo t) (TY hr)))))) (VR (TF (Uo t) hr)) (Uj r) ⟨ae,(ak tx).trans ((ak rt.symm).trans ((ak tx).trans ae)),(ak rx).trans ae,rt.symm,tx.symm,h1,h0,zC,yL,fun a e1 e2 e3 e4=>(ak e1).trans ((ak e4).trans ((ak e1).trans ((ak e3).trans ((ak e1).trans (ak e2)))))⟩⟩))))
end
theorem lI {α β γ:Type}{f:α->List β}{g:α->List γ}:∀{l:List α},(∀x∈l,(f x).length<=(g x).length)->(l.flatMap f).length<=(l.flatMap g).length
 | []=> @fun O=>TJ _
 | x::l=> @fun h=>by
  refine ab Uu (ab Uu (ab TG (ab TG ?_)));exact Vf (h x (TM ..)) (lI fun y hy=>h y (TP _ hy))
theorem RN.eU {xs:List V}{w:Bool}:∀{lim:Bool} {e:Nat} {t:Tr e} {v:V} {ns:List Nat},RN xs w lim e t v ns->ns.length+1<=(bu e t).length
 | _,0,_,_,_,h0=>by
  refine ah h0 fun O O h=>?_;refine ab h ?_;exact TJ _
 | _,e+1,t,_,_,h0=>by
  refine cn h0 fun a L h1 h2 h3 h4=>?_;refine ab h3 ?_;show _+1<=(t.2.flatMap (bu e)).length+1;refine ab (h2 ..) (ab (UO ..) ?_);refine Um (lI fun p hp=>?_);rcases h4 p hp with h | ⟨i,nd,gA,_,_,g3,g4⟩
  ·exact UD h.eU
  ·refine ab g3 ?_;exact g4.eU
theorem B1 {H:AH}:qx H (fun O=>false)=H:=funext fun a=>by
 unfold qx
 cases e:H a with
 | none=>rfl
 | some o=>cases o <;> rfl
structure Nd (H:AH)(a:Addr):Prop where
 ex:∃es,H a=some (.dict es)/\(∀s,aR es (.str s)=true)/\es.length<=1000
theorem wo {es:List (SK × V)}{k:SK}{p:SK × V->Bool}(h:aR es k=true):aR (es.filter p) k=true:=
 Ut.mpr fun e he=>Ut.mp h e (UE.mp he).1
structure PSt where
 H:AH
 sy:Option V
section
variable {G:aA}{d:Nat}{H:AH}{n:Nat}{Q:KV}{w:Bool}(ok:aZ G)(fn:fJ G)
include ok fn
theorem Sd {as:List Addr}{K:KR}{R:KV}{r0 r1 r2 r3 r4 r5 r6 r7 r8 r9 mj mI lx CB:Option V}(ha:∀a∈as,Nd H a)(h:∀H' n' sy,n<=n'->(∀b,b∉as->H' b=H b)->K [r0,r1,r2,r3,r4,r5,r6,r7,r8,r9,mj,mI,lx,sy] H' n'):
 ny (fun x ρ H n K=>WA G d (.var 13) x ρ H n fun ρ1 H1 n1=>kN G d [.ex (.bx (.var 13) .pk [.str "Limits",.none])] ρ1 H1 n1 K R) (as.map .ref) [r0,r1,r2,r3,r4,r5,r6,r7,r8,r9,mj,mI,lx,CB] H n K:=by
 refine yv (α:=PSt) V.ref as (fun s=>[r0,r1,r2,r3,r4,r5,r6,r7,r8,r9,mj,mI,lx,s.sy]) PSt.H (fun r n1 s=>n<=n1/\(∀a∈as,Nd s.H a)/\(∀b,b∉as->s.H b=H b)/\∀a∈r,a∈as) ⟨H,CB⟩ rfl rfl rfl ⟨TJ _,ha,fun O O=>rfl,fun O h=>h⟩ (fun a r s n1 hs=>?_) fun s n1 hs=>h s.H n1 s.sy hs.1 hs.2.2.1;refine i7 hs fun g1 g2 g3 g4=>?_;have haa:=g4 a (TM ..);refine bE ((g2 a haa).ex) fun es e1 e2 e3=>?_;refine (ai _ e1 (ai _ e1 (aL (e2 _) (aV e3 (PX ⟨upd s.H a (.dict (es.filter fun p=> !decide (p.1=.str "Limits"))),some (.ref a)⟩ rfl rfl g1 (fun b hb=>?_) (fun b hb=>?_) (fun b hb=>g4 b (TP _ hb)))))))
 ·by_cases e:b=a
  ·exact ⟨_,by refine ab e ?_;exact ae,fun s=>wo (e2 s),TF (UX ..) e3⟩
  ·refine ah ((g2 b hb).ex) fun es' f1 f2=>?_;exact ⟨es',(ak e).trans f1,f2⟩
 ·exact (ak fun e=>hb (by refine ab e ?_;exact haa)).trans (g3 b hb)
end
noncomputable def pJ (rs:List V):V:=.tup [CE rs,.tup [.str "dict"]]
theorem bZ.pJ {rs:List V}(h:∀y∈rs,bZ 5 y):bZ 8 (Internal.pJ rs):=bZ.tup (m:=7) fun x hx=>by
 rcases TN.mp hx with rfl | hx
 ·refine bZ.tup (m:=6) fun y hy=>?_;refine bY (TX.mp hy) fun i hi=>?_;have hi:=Vg.mp hi;refine bZ.tup (m:=5) fun z hz=>?_;rcases TN.mp hz with rfl | hz
  ·exact bZ.sk
  ·rcases TN.mp hz with rfl | hz
   ·exact bZ.sk
   ·refine ab (TK.mp hz) (ab U7 (ab (T9 hi) ?_));exact h _ (UN hi)
 ·refine ab (TK.mp hx) ?_;exact (bZ.tup (m:=0) fun y hy=>by refine ab (TK.mp hy) ?_;exact .sk).mono (by decide)
structure zU (w:Bool)(m e:Nat)(t:Tr e)(ys rs:List V)(v tv:V)(ns:List Nat):Prop where
 laid:Hh m [] w false e t ys v ns
 eU:ys.length<64
 len:rs.length=ys.length
 row:∀(i:Nat) x y,ys[i]? =some x->rs[i]? =some y->Tl 2 x y
 self:∀y∈rs,bZ 5 y
 flat:∀y∈rs,bp y
 tv:Tl 2 v tv
theorem EX {H:AH}{M:Addr->Bool}{b:Addr}(h:M b=false):qx H M b=H b:=by
 unfold qx;refine ab h ?_
 cases q:H b with
 | none=>rfl
 | some o=>cases o <;> rfl
section
variable {G:aA}{d:Nat}{H:AH}{n:Nat}{Q:KV}{w:Bool}(ok:aZ G)(fn:fJ G)
include ok fn
theorem yW {W r e m:Nat}{t:Tr e}{ps:List PR}{ys rs:List V}{v tv:V}{ns:List Nat}{ta ra:Addr}{hv:V}{Q:V->KV}(hd:5<=d)(T:eI w W r e t ps)(S:zU w m e t ys rs v tv ns)(QW:cO H hv (aQ ps))
 (h:∀n',n<=n'->Q (.ag ((av e t).map aB)) (.ag ((av e t).map aB)) H n'):aE G d 10 [eW ta ra (bU 0 ys),v,.str (wd w)] H n fun a H1 n1=>aE G d 32 [hv] H1 n1 fun b H2 n2=>Q a b H2 n2:=
 Qj ok fn hd ⟨.inl S.laid.rn,T.ne,T.nT,TF T.len (by decide),by show 0+e<=40;refine ab (UL ..) ?_;exact TF T.fh (by decide)⟩ S.laid.nd (TF T.dR (by decide)) (TF (UD S.laid.rn.eU) (TF T.dR (by decide))) fun n1 h1=>Qo ok fn (TF (by decide) hd) T.held QW fun qs n2 h2 hq yK=>by
  obtain rfl:av e t=qs:=kr T.ko yK (T.perm.trans hq.symm);exact h n2 (TF h1 h2)
theorem wi {W r e e' m ne:Nat}{t:Tr e}{ps:List PR}{ys rs:List V}{v tv:V}{ns:List Nat}{ta ra root a4:Addr}{as:List Addr}{es:List (SK × V)}{r0 r2 r3 r6 mI lx:Option V}(hd:10<=d)(T:eI w W r e t ps)(S:zU w m e t ys rs v tv ns)(hN:NT H e' (.ref root) (as.map .ref))(Eh:e'+1<=d)(hM:zJ H root es)(KU:root∈as)(hNd:∀a∈as,∃es,H a=some (.dict es)/\(∀s,aR es (.str s)=true)/\es.length<=900)(hz:as.length<=1000)
 (h:∀H' n',n<=n'->(∀b,b∉as->H' b=H b)->Q (.bool true) H' n'):
 WB G d ne [.asg (.sub (.var 10) (.str "Mark")) (.int 1),.fr (.var 13) .pl [.call 34 [.var 10]] [.ex (.bx (.var 13) .pk [.str "Limits",.none])],.ret (.gx .And [.cmp .Eq (.bx (.var 5) (.fn 47) []) (.var 8),.cmp .Eq (.call 2 [.var 7]) (.var 9),.cmp .Eq (.call 10 [.var 5,.var 7,.var 1]) (.call 32 [.var 4])])]
 [r0,some (.str (wd w)),r2,r3,some (.az a4 (aQ ps)),some (eW ta ra (bU 0 ys)),r6,some v,some (pJ rs),some tv,some (.ref root),mI,lx,none] H n Q:=by
 refine (ai _ hM.at_ (aL hM.tag (aV (TF hM.eU (by decide)) ?_)));have eH:upd H root (.dict (bM es (.str "Mark") (.int 1)))=qx H fun b=>b==root:=by
  refine ab (show bM es (.str "Mark") (.int 1)=mU es true from mV (b:=false) hM.no) ?_;have:=CY (M:=fun O=>false) hM.at_ (M':=fun b=>b==root) fun b=>(VX _).symm;rwa [B1] at this
 refine ab eH ?_;refine O1 ok fn Eh hN.mk (by refine ab (TH ..) ?_;exact hz) fun n1 h1 n2 h2=>?_;refine Sd ok fn (fun a ha=>?_) fun H' n3 sy h3 hk=>?_
 ·refine bE (hNd a ha) fun es' f1 f2 f3=>?_;exact ⟨_,lp f1,fun s=>ix (f2 s),by
   unfold mU
   cases a==root
   ·exact TF f3 (by decide)
   ·show (es'++[_]).length<=1000;refine ab TG ?_;exact TF (Uw f3 1) (by decide)⟩
 have yz:=TF h1 (TF h2 h3);have my:∀b,b∉as->H' b=H b:=fun b hb=>(hk b hb).trans (by
  exact EX (M:=fun b=>b==root) (beq_eq_false_iff_ne.mpr fun e=>hb (e▸KU)))
 have s1:=bZ.pJ S.self;have s2:=S.tv.self;have s3:bZ 2 (.ag ((av e t).map aB)):=.pairs;refine c47 (k:=2) ok fn (TF (by decide) hd) (by decide) S.eU S.len S.row fun n4 h4=>aL s1.cmp (aV (TF s1.dep (by decide)) (jU s1.eqv ?_));refine c2 ok fn S.tv (TF (by decide) hd) fun n5 h5=>aL s2.cmp (aV (TF s2.dep (by decide)) (jU s2.eqv ?_));refine yW ok fn (Q:=fun a b H n=>xZ .Eq a b H n Q) (TF (by decide) hd) T S .frozen fun n6 h6=>aL s3.cmp (aV (TF s3.dep (by decide)) ?_);have:=h H' n6 (TF yz (TF h4 (TF h5 h6))) my;rw [<- s3.eqv] at this;exact this
end
inductive zw:bt->Prop
 | nil:zw []
 | none {ρ:bt}:zw ρ->zw (V9::ρ)
 | some {x:V} {ρ:bt}:x.fw=true->zw ρ->zw (Ws x::ρ)
theorem zw.get {ρ:bt}(h:zw ρ):∀(i:Nat) (x:V),ρ[i]? =Ws (Ws x)->x.fw=true:=by
 induction h with
 | nil=>intro i x e;injection e
 | none _ ih=>
  intro i x e
  cases i with
  | zero=>cases e
  | succ i=>exact ih i x e
 | some h _ ih=>
  intro i x e
  cases i with
  | zero=>cases e;exact h
  | succ i=>exact ih i x e
inductive zx (S:Addr->Bool):bt->bt->Prop
 | nil:zx S [] []
 | none {ρ ρ':bt}:zx S ρ ρ'->zx S (V9::ρ) (V9::ρ')
 | some {x y:V} {ρ ρ':bt}:x.dG S=y->zx S ρ ρ'->zx S (Ws x::ρ) (Ws y::ρ')
theorem zx.eq {T:List (Addr × List (SK × V))}{ρ ρ':bt}(h:zx (cV T) ρ ρ'):zp T ρ=ρ':=by
 induction h with
 | nil=>rfl
 | none _ ih=>exact congrArg (V9:: ·) ih
 | @some x y ρ ρ' h _ ih=>
  show Ws (x.dG _)::zp T ρ=_;exact ab h (ab ih rfl)
theorem j0 {a:Addr}{es:List (SK × V)}:∀{T:List (Addr × List (SK × V))},T.lookup a=some es->(a,es)∈T
 | []=>fun h=>nomatch h
 | (b,fs)::T=>fun h=>by
  rw [Ue] at h
  cases e:a==b with
  | true=>
   rw [e] at h;refine ab (eq_of_beq e) (ab (show fs=es from US h) ?_);exact TM ..
  | false=>rw [e] at h;exact TP _ (j0 h)
theorem yZ {C:eS}{T:List (Addr × List (SK × V))}(hC:∀p∈T,C p.1=p.2):∀p∈T,T.lookup p.1=some p.2:=fun p hp=>by
 cases e:T.lookup p.1 with
 | none=>exact absurd rfl (bne_iff_ne.mp (Vn.mp e p hp))
 | some es=>exact congrArg some ((hC (p.1,es) (j0 e)).symm.trans (hC p hp))
theorem su {T:List (Addr × List (SK × V))}{a:Addr}:cV T a=true↔a∈T.map T8:=by
 refine ⟨fun h=>?_,fun h=>?_⟩
 ·obtain ⟨es,e⟩:=Vy.mp h;exact TX.mpr (ai _ (j0 e) rfl)
 ·refine bY (TX.mp h) fun p hp=>?_
  cases e:T.lookup p.1 with
  | none=>exact absurd rfl (bne_iff_ne.mp (Vn.mp e p hp))
  | some es=>unfold cV;refine ab e ?_;rfl
theorem xS {T:List (Addr × List (SK × V))}{a:Addr}(h:a∉T.map T8):cV T a=false:=by
 cases e:cV T a with
 | false=>rfl
 | true=>exact absurd (su.mp e) h
theorem uE {T:List (Addr × List (SK × V))}{H:AH}{a:Addr}(h:a∉T.map T8):ir T H a=(H a).map (bG.dG (cV T)):=by
 have:=xS h;unfold ir;exact ab (show T.lookup a=none from U9.mp (Option.isSome_eq_false_iff.mp this)) rfl
theorem ky {C:eS}{T:List (Addr × List (SK × V))}{H:AH}(hC:∀p∈T,C p.1=p.2){p:Addr × List (SK × V)}(hp:p∈T):ir T H p.1=some (.dict (dX (cV T) p.2)):=by
 unfold ir;exact ab (yZ hC p hp) rfl
structure uW (H:AH):Prop where
 dG:∀b o,H b=some o->∀S,o.dG S=o
 fw:∀b o,H b=some o->o.fw=true
 inst:∀b c dx fs,H b≠some (.inst c dx fs)
theorem uW.upd {H:AH}{a:Addr}{o:bG}(h:uW H)(h1:∀S,o.dG S=o)(h2:o.fw=true)(h3:∀c dx fs,o≠ .inst c dx fs):uW (upd H a o):=by
 refine ⟨fun b p e=>?_,fun b p e=>?_,fun b c dx fs e=>?_⟩
 all_goals by_cases q:b=a
 ·rw [q,ae] at e;(injection e with e;subst e);exact h1
 ·rw [ak q] at e;exact h.dG b p e
 ·rw [q,ae] at e;(injection e with e;subst e);exact h2
 ·rw [ak q] at e;exact h.fw b p e
 ·rw [q,ae] at e;exact h3 _ _ _ (US e)
 ·rw [ak q] at e;exact h.inst _ _ _ _ e
theorem bp.ints {l:List Int}:bp (.ag (bq l)):=bp.ag fun x hx=>by
 refine bY (TX.mp hx) fun i O=>?_;exact .sk
theorem uW.pz {H:AH}{j:Addr}{J:bG}{m:Nat}(h:uW H)(hj:i8 (Internal.upd H j J) j m):uW (Internal.upd H j J):=by
 refine jt hj fun cs i r e O=>?_;rw [ae] at e;have e:=US e;subst e;have f:∀x∈[V.ag (bq cs),.int i,.int r],bp x:=fun x hx=>by
  rcases TN.mp hx with rfl | hx
  ·exact .ints
  ·rcases TN.mp hx with rfl | hx
   ·exact .sk
   ·refine ab (TK.mp hx) ?_;exact .sk
 exact h.upd (fun S=>congrArg bG.list ((bp.seq f).1 S)) (bp.seq f).2 fun O O O e=>nomatch e
theorem bp.aQ {ps:List PR}:(∀S,dX S (aQ ps)=aQ ps)/\ip (aQ ps)=true:=bp.ents fun e he=>by
 refine bY (TX.mp he) fun p O=>?_;exact .sk
theorem qH {m:Nat}:∀{k:Nat} {ys:List V},(∀y∈ys,kL m y)->(∀S:Addr->Bool,(∀a,a<m->S a=false)->dX S (bU k ys)=bU k ys)/\ip (bU k ys)=true
 | _,[]=>fun O=>⟨fun O O=>rfl,rfl⟩
 | k,y::ys=>fun h=>by
  obtain ⟨h1,h2⟩:=qH (k:=k+1) fun z hz=>h z (TP y hz);have h3:=h y (TM ..);refine ⟨fun S hS=>?_,?_⟩
  ·show (SK.int ((k:Int)+1),V.tup [.int 0,y.dG S])::dX S (bU (k+1) ys)=_;refine ab (h3.dG S hS) (ab (h1 S hS) ?_);rfl
  ·show ((y.fw&&true)&&ip (bU (k+1) ys))=true;refine ab h3.fw (ab h2 ?_);rfl
theorem CI {m ta ra:Nat}{ys:List V}(h:∀y∈ys,kL m y)(ht:ta<m)(hr:ra<m):kL m (eW ta ra (bU 0 ys)):=by
 obtain ⟨h1,h2⟩:=qH (k:=0) h;refine ⟨fun S hS=>?_,?_⟩
 ·show V.cU 5 [("table",if S ta=true then V.ref ta else .az ta (dX S (bU 0 ys))),("trailer",if S ra=true then V.ref ra else .az ra [])]=_;refine ab (hS ta ht) (ab (hS ra hr) (ab (h1 S hS) ?_));rfl
 ·show (!t8 "table"&&(ip (bU 0 ys)&&(!t8 "trailer"&&(ip []&&true))))=true;refine ab h2 ?_;rfl
theorem bp.pJ {rs:List V}(h:∀y∈rs,bp y):bp (Internal.pJ rs):=bp.tup fun x hx=>by
 rcases TN.mp hx with rfl | hx
 ·refine bp.tup fun y hy=>?_;refine bY (TX.mp hy) fun i hi=>?_;have hi:=Vg.mp hi;refine bp.tup fun z hz=>?_;rcases TN.mp hz with rfl | hz
  ·exact .sk
  ·rcases TN.mp hz with rfl | hz
   ·exact .sk
   ·refine ab (TK.mp hz) (ab U7 (ab (T9 hi) ?_));exact h _ (UN hi)
 ·refine ab (TK.mp hx) ?_;exact bp.tup fun y hy=>by refine ab (TK.mp hy) ?_;exact .sk
section
variable {G:aA}{d:Nat}{H:AH}{n:Nat}{Q:KV}{w:Bool}(ok:aZ G)(fn:fJ G)
include ok fn
theorem wj {C':eS}{W r e e' m ne n1 n2:Nat}{t:Tr e}{t':Tr e'}{ps p11 p12:List PR}{ys rs:List V}{v tv:V}{ns:List Nat}{j ta ra x a4 Qg:Addr}{k:SK}(hd:10<=d)(Eh:e'+1<=d)(T:eI w W r e t ps)(S:zU w m e t ys rs v tv ns)(hm:m<=n1)(hta:ta<n1)(IJ:ra<n1)(h4:a4<n1)(aJ:ne<=n1)(hC:fS n1 (fun O=>[]) C')(hT:di C' w false e' t' n2)(hx:n2<=x)(hH:uW H)(il:∀b o,H b=some o->b<n1)(rj:(bu e' t').length<=900)
 (h:∀H' n',n<=n'->(∀b o,H b=some o->H' b=some o)->Q (.bool true) H' n'):
 WB G d ne [.dG,.asg (.sub (.var 10) (.str "Mark")) (.int 1),.fr (.var 13) .pl [.call 34 [.var 10]] [.ex (.bx (.var 13) .pk [.str "Limits",.none])],.ret (.gx .And [.cmp .Eq (.bx (.var 5) (.fn 47) []) (.var 8),.cmp .Eq (.call 2 [.var 7]) (.var 9),.cmp .Eq (.call 10 [.var 5,.var 7,.var 1]) (.call 32 [.var 4])])]
 [some (.ref j),some (.str (wd w)),some (.int W),some (aS w false e t),some (.az a4 (aQ ps)),some (eW ta ra (bU 0 ys)),some (.sk k),some v,some (pJ rs),some tv,some (aS w false e' t'),some (.ref x),some (.az Qg (aQ p12)),none] (upd H x (.dict (aQ p11))) n Q:=by
 have nH:=mG e' t' hT;have PA:=sv hC hT;have up:=hT.lt e' t';have mem:∀p∈uU w false e' t',p.1∈bu e' t':=fun p hp=>dP (w:=w) (lim:=false) e' t'▸TV hp;have hS:∀a,a<n1->cV (uU w false e' t') a=false:=fun a ha=>xS fun q=>absurd (PA a (dP (w:=w) (lim:=false) e' t'▸q)) (Vd.mpr ha);have MK:∀a∈bu e' t',cV (uU w false e' t') a=true:=fun a ha=>su.mpr (by refine ab (dP ..) ?_;exact ha);have sh:kL n1 (eW ta ra (bU 0 ys)):=CI (fun y hy=>((S.laid.tl y hy).st).mono hm) hta IJ;have MG:uW (upd H x (.dict (aQ p11))):=hH.upd (fun S=>congrArg bG.dict (bp.aQ.1 S)) bp.aQ.2 (fun O O O e=>nomatch e);refine (ai (uU w false e' t') ⟨fun a es e=>?_,zw.get (.some rfl (.some rfl (.some rfl (.some (gP e t) (.some bp.aQ.2 (.some sh.fw (.some rfl (.some S.laid.tv.st.fw (.some (bp.pJ S.flat).fw (.some S.tv.flat.fw (.some (gP e' t') (.some rfl (.some bp.aQ.2 (.none .nil)))))))))))))),MG.fw⟩ ?_)
 ·have hp:=j0 e;exact ⟨TF aJ (PA a (mem _ hp)),rM e' t' _ hp,(ey e' t' _ hp).1,.inl (cg 10 _ rfl (rO e' t' _ hp))⟩
 rw [zx.eq (.some rfl (.some rfl (.some rfl (.some rfl (.some ((kL.dict h4 bp.aQ.1 bp.aQ.2).dG _ hS) (.some (sh.dG _ hS) (.some rfl (.some ((S.laid.tv.st.mono hm).dG _ hS) (.some ((bp.pJ S.flat).dG _) (.some (S.tv.flat.dG _) (.some (rP (MK _ (iO e' t'))) (.some rfl (.some rfl (.none .nil))))))))))))))];have KU:(sR e' t',ents w false e' t')∈uU w false e' t':=by cases e' <;> exact TM ..
 have bO:=UB (PA _ (iO e' t')) (up _ (iO e' t'));refine wi ok fn hd T S (NT.wq e' t' MK fun p hp=>ky nH hp) Eh (es:=dX (cV (uU w false e' t')) (ents w false e' t')) ⟨ky nH KU,kE ((ey e' t' _ KU).2.1 _),?_,?_⟩ (iO e' t') (fun a ha=>?_) (TF rj (by decide)) fun H' n' hn hk=>h H' n' hn fun b o hb=>?_
 ·refine ab (oN ..) (ab ((ey e' t' _ KU).2.2.1 ..) ?_);rfl
 ·refine ab (kC ..) ?_;exact (ey e' t' _ KU).2.2.2.1
 ·rw [<- dP (w:=w) (lim:=false)] at ha;refine bY (TX.mp ha) fun p hp=>?_;exact (bW _ (ky nH hp) (fun s=>kE ((ey e' t' p hp).2.1 s)) (by refine ab (kC ..) ?_;exact (ey e' t' p hp).2.2.2.1))
 ·have hbl:=il b o hb;have Pg:b∉bu e' t':=fun q=>absurd (PA b q) (Vd.mpr hbl);rw [hk b Pg,uE (by refine ab (dP ..) ?_;exact Pg),ak (UA (TO hbl (TF (Ud bO) hx))),hb];exact congrArg some (hH.dG b o hb _)
end
theorem pP.len:∀{e:Nat} {t u:Tr e},pP e t u->(bu e t).length=(bu e u).length
 | 0,_,_,_=>rfl
 | e+1,t,u,⟨L,h1,h2,h3⟩=>by
  show (t.2.flatMap (bu e)).length+1=(u.2.flatMap (bu e)).length+1;exact ab (h1 ..) (ab (h2 ..) (ab (UO ..) (ab (UO ..) (ab (og fun p hp=>(h3 p hp).len ..) rfl))))
theorem pP.ne:∀{e:Nat} {t u:Tr e},pP e t u->Ne e t->Ne e u
 | 0,t,u,h=>fun hn=>by
  show u.2≠[];refine bk (show t.2=u.2 from h) ?_;exact hn
 | e+1,t,u,⟨L,h1,h2,h3⟩=>fun hn=>by
  refine ⟨fun q=>hn.1 ?_,fun k hk=>?_⟩
  ·refine ab h1 (ab (WM.mp (h2.symm.trans q)) ?_);rfl
  ·rw [h2] at hk;refine ah (TX.mp hk) fun p hp gR=>?_;subst gR;exact (h3 p hp).ne (hn.2 p.1 (h1▸TV hp))
theorem pP.fA {W:Nat}:∀{e:Nat} {t u:Tr e},pP e t u->jv W e t->jv W e u
 | 0,t,u,h=>fun hn=>by
  show u.2.length<=W;refine bk (show t.2=u.2 from h) ?_;exact hn
 | e+1,t,u,⟨L,h1,h2,h3⟩=>fun hn=>by
  refine ⟨?_,fun k hk=>?_⟩
  ·have:=hn.1;rw [h1,TH] at this;refine ab (h2 ..) (ab (TH ..) ?_);exact this
  ·rw [h2] at hk;refine ah (TX.mp hk) fun p hp iq=>?_;subst iq;exact (h3 p hp).fA (hn.2 p.1 (h1▸TV hp))
theorem eI.sim {w:Bool}{W r e:Nat}{t u:Tr e}{ps:List PR}(h:eI w W r e t ps)(s:pP e t u):eI w W r e u ps where
 perm:=s.av▸h.perm
 ko:=s.av▸h.ko
 ne:=h.ne.imp id s.ne
 kd:=h.kd
 rank:=h.rank
 eU:=h.eU
 deep:=h.deep
 size:=s.len▸h.size
 fA:=s.fA h.fA
theorem eI.JY {w:Bool}{W r e:Nat}{t:Tr e}{ps jO:List PR}(h:eI w W r e t ps)(p:ps.Perm jO):eI w W r e t jO where
 perm:=h.perm.trans p
 ko:=h.ko
 ne:=h.ne
 kd:=fun q hq=>h.kd q (p.mem_iff.mpr hq)
 rank:=h.rank
 eU:=p.length_eq▸h.eU
 deep:=h.deep
 size:=h.size
 fA:=h.fA
theorem xH {m:Nat}:∀{ys:List V},(∀y∈ys,Hi m y)->∃rs:List V,rs.length=ys.length/\(∀(i:Nat) x y,ys[i]? =some x->rs[i]? =some y->Tl 2 x y)/\∀y∈rs,bZ 5 y/\bp y
 | []=>fun O=>(bW [] rfl (fun O O O e=>by injection e) (fun O h=>nomatch h))
 | y::ys=>fun h=>by
  refine bE (xH fun z hz=>h z (TP y hz)) fun rs h1 h2 h3=>?_;obtain ⟨r,hr⟩:=(h y (TM ..)).tl;refine (bW (r::rs) (congrArg (· +1) h1) (fun i x z e1 e2=>?_) (fun z hz=>?_))
  ·cases i with
   | zero=>(injection e1 with e;subst e);(injection e2 with e;subst e);exact hr
   | succ i=>exact h2 i x z e1 e2
  ·rcases TN.mp hz with rfl | hz
   ·exact ⟨hr.self,hr.flat⟩
   ·exact h3 z hz
theorem OC {w:Bool}{m e r W:Nat}{t:Tr e}{ps:List PR}{ys:List V}{v:V}{ns:List Nat}(T:eI w W r e t ps)(hr:r<=4)(hL:Hh m [] w false e t ys v ns):∃rs tv,zU w m e t ys rs v tv ns:=by
 refine bE (xH hL.tl) fun rs h1 h2 h3=>?_;obtain ⟨tv,h4⟩:=hL.tv.tl;refine ⟨rs,tv,hL,?_,h1,h2,fun y hy=>(h3 y hy).1,fun y hy=>(h3 y hy).2,h4⟩;have h5:=hL.len;have h6:=T.size;exact aH (bC ys.length (bu e t).length r) [(1,.add aq ay,aw),(1,aw,.add (.num 13) (.mulL 12 aN)),(12,aN,.num 4)] (.add aq ay) (.num 64) rfl (TL h5) h6 hr
theorem Tl.d0 {k:Nat}{v r:V}(h:Tl k v r):EH r=false:=by cases h <;> rfl
section
variable {G:aA}{d:Nat}{H:AH}{n:Nat}{Q:KV}{w:Bool}(ok:aZ G)(fn:fJ G)
include ok fn
theorem oy {W r e:Nat}{t:Tr e}{ps:List PR}{ys:List V}{ta ra:Addr}{hv:V}{Q:V->KV}(hd:5<=d)(T:eI w W r e t ps)(QW:cO H hv (aQ ps))
 (h:∀n',n<=n'->Q (.ag ((av e t).map aB)) (.ag ((av e t).map aB)) H n'):aE G d 10 [eW ta ra (bU 0 ys),aS w false e t,.str (wd w)] H n fun a H1 n1=>aE G d 32 [hv] H1 n1 fun b H2 n2=>Q a b H2 n2:=
 Qj ok fn hd ⟨.inl .plain,T.ne,T.nT,TF T.len (by decide),by show 0+e<=40;refine ab (UL ..) ?_;exact TF T.fh (by decide)⟩ .nil (TF T.dR (by decide)) (Ur _) fun n1 h1=>Qo ok fn (TF (by decide) hd) T.held QW fun qs n2 h2 hq yK=>by
  obtain rfl:av e t=qs:=kr T.ko yK (T.perm.trans hq.symm);exact h n2 (TF h1 h2)
theorem wg {C':eS}{W r e m ne n1:Nat}{t t':Tr e}{ps:List PR}{ys rs:List V}{v tv:V}{ns:List Nat}{j ta ra a4:Addr}{k:SK}(hd:e+20<=d)(T:eI w W r e t ps)(hr:r<=4)(hk:k.tag=kt w)(hW:2<=W)(fG:W<=1000)(S:zU w m e t ys rs v tv ns)(hm:m<=n1)(hta:ta<n1)(IJ:ra<n1)(h4:a4<n1)(aJ:ne<=n1)(fO:pP e t t')(hC:fS n1 (fun O=>[]) C')(hT:di C' w false e t' n)(hH:uW H)(il:∀b o,H b=some o->b<n1)
 (h:∀H' n',n<=n'->(∀b o,H b=some o->H' b=some o)->Q (.bool true) H' n'):
 WB G d ne (Qh.drop 5) [some (.ref j),some (.str (wd w)),some (.int W),some (aS w false e t),some (.az a4 (aQ ps)),some (eW ta ra (bU 0 ys)),some (.sk k),some v,some (pJ rs),some tv,some (aS w false e t'),none,none,none] H n Q:=by
 have T':=T.sim fO;have vK:=TF T.len (show 60<=400 by decide);have Tt:=kF (w:=w) (lim:=false) (.inl rfl) T.ne T.nT vK;have tl2:=kF (w:=w) (lim:=false) (.inl rfl) T'.ne T'.nT (TF T'.len (show 60<=400 by decide));have Ph:=T.deep;have d2:2*e+4<=d:=by exact aH (bC e r d) [(1,.add aq (.num 20),aN),(1,aw,.num 4),(1,aq,.add (.num 4) aw)] (.add (.mulL 2 aq) (.num 4)) aN rfl hd hr Ph
 refine c2 ok fn tl2 d2 fun n2 h2=>c2 ok fn Tt d2 fun n3 h3=>?_;refine bk fO.Tv ?_;have s1:=Tt.self;refine fB Tt.d0 (aL s1.cmp (aV (TF s1.dep (show 2*(2*e+2)+1<=200 by exact aH (bc r e) [(4,aq,.num 4),(4,aw,.add (.num 4) aq)] (.add (.mulL 2 (.add (.mulL 2 aw) ia)) ay) (.num 200) rfl hr Ph)) (fB (show (!V.eqv _ _)=false by refine ab s1.eqv ?_;rfl) ?_)));have Gv:(aQ ps).length<=1000:=by unfold aQ;refine ab (TH ..) ?_;exact TF T.tF (by decide)
 refine aV Gv fun x hx h0 n4 h4'=>aV ?_ ?_
 ·refine ab (TH ..) ?_;exact TF Gv (by decide)
 refine ab (show (aQ ps).map (fun e=>V.sk e.1)=ps.map (V.sk∘T8) from Ua ..) ?_;refine cA (fun p:PR=> !decide (p.1=k)) aB (V.sk∘T8) ps (fun p hp n3 K K2 h3 hT hF=>aL (eA (T.kd p hp) hk) (br (fun e=>aL (dD T.kd (T.kd p hp)) (dh (e7 T.nd p hp) (hT e n3 (TJ _)))) fun e=>hF e n3 (TJ _))) fun n5 h5=>?_;have nO:List.Sublist (iu ps k) ps:=VW;refine (o6 (aQ (iu ps k)) (kt w) ?_ (fun p hp=>?_) ?_ ?_ (fun Qg QN O=>(ai _ ae (aL (dD T.kd hk) (aV Gv ?_)))))
 ·unfold aQ;refine ab Ua ?_;rfl
 ·refine bY (TX.mp hp) fun q hq=>?_;exact T.kd q (nO.subset hq)
 ·refine ab (dz ..) ?_;exact Vj (nO.map T8) T.nd
 ·unfold aQ;refine ab (TH ..) ?_;exact TF nO.length_le (TF T.tF (by decide))
 refine ab aX (ab oG ?_);have Gn:n<=Qg+1:=TF h2 (TF h3 (TF hx (TF (Uo x) (TF h4' (TF h5 (TY QN))))));refine c23 ok fn (TF (aH (bI e) [] (.add (.num 6) aq) (.add aq (.num 20)) rfl) hd) T'.fA hW fG hk T'.ne T'.ko T'.nT (TF T'.len (by decide)) (hT.mono (fun O O=>rfl) Gn) fun e2 t2 n6 h6 Pk g2=>?_;have T2:=T'.put (k:=k) hr hk Pk g2;refine oy ok fn (TF (Uc 5 (e+15)) hd) T2 (.made ae) fun n7 h7=>?_;have s2:bZ 2 (.ag ((av e2 t2).map aB)):=.pairs;refine aL s2.cmp (aV (TF s2.dep (by decide)) (fB (show (!V.eqv _ _)=false by refine ab s2.eqv ?_;rfl) ?_));refine c25 ok fn (TF (aH (bI e) [] (.add (.num 6) aq) (.add aq (.num 20)) rfl) hd) T'.fA hk T'.ne T'.ko T'.nT (TF T'.len (by decide)) (hT.mono (fun O O=>rfl) (TF Gn (TF h6 h7))) fun e3 t3 n8 h8 he3 g3=>?_;have T3:=(T'.drop he3 g3).JY (show (iu (av e t') k).Perm (iu ps k) from T'.perm.filter fun p:PR=> !decide (p.1=k));refine oy ok fn (TF (Uc 5 (e+15)) hd) T3 .frozen fun n9 h9=>?_;have s3:bZ 2 (.ag ((av e3 t3).map aB)):=.pairs;refine aL s3.cmp (aV (TF s3.dep (by decide)) (fB (show (!V.eqv _ _)=false by refine ab s3.eqv ?_;rfl) ?_));have h69:n<=n9:=TF Gn (TF h6 (TF h7 (TF h8 h9)));exact wj ok fn (TF (Uc 10 (e+10)) hd) (TF (aH (bI e) [] (.add aq ay) (.add aq (.num 20)) rfl) hd) T S hm hta IJ h4 aJ hC hT (TF h2 (TF h3 hx)) hH il (TF T'.dR (by decide)) fun H' n' hn hk=>h H' n' (TF h69 hn) hk
theorem c38 {W r e m:Nat}{t:Tr e}{ps:List PR}{j a4:Addr}(hd:e+30<=d)(hj:i8 H j m)(hm:m<=500)(T:eI w W r e t ps)(hr:r<=4)(hW:2<=W)(fG:W<=1000)(h4:a4<n)(hH:uW H)(il:∀b o,H b=some o->b<n)
 (h:∀J n',n<=n'->i8 (upd H j J) j (m+1)->Q (.bool true) (upd H j J) n'):aE G d 38 [.ref j,.str (wd w),.int W,aS w false e t,.az a4 (aQ ps)] H n Q:=by
 refine aE.gc (aF ok fn.f38 (kd:=e+29) hd rfl fun d d1 ne aJ=>?_);obtain ⟨o,M4⟩:∃o,H j=some o:=by refine jt hj fun cs i r e O=>?_;exact ⟨_,e⟩
 refine c65 ok fn (TF (Uc 2 (e+27)) d1) fun sh dx ta ra H1 n1 h1 hta IJ Bi=>?_;have nj:∀a,H a=none->j≠a:=fun a e q=>by rw [<- q,M4] at e;injection e
 have ej:H1 j=H j:=Bi.keep j (nj _ Bi.s0) (nj _ Bi.d0) (nj _ Bi.t0) (nj _ Bi.r0);have Pl:i8 H1 j m:=by refine jt hj fun cs i r e q=>?_;exact (cv cs i r (ej.trans e) q)
 refine uN ok fn (TF (Uc 1 (e+28)) d1) (by decide) (by decide) (TF hm (by decide)) Pl fun i J n2 h2 hi hJ=>Hz ok fn (TF (Uc 1 (e+28)) d1) hi fun k n3 h3 hk=>?_;have mw:i8 (upd H j J) j (m+1):=by refine jt hJ fun cs i r e q=>?_;exact (cv cs i r (ae.trans (ae.symm.trans e)) q)
 have Nt:=Bi.pz (J:=J) M4;refine c26 (xs:=[]) ok fn (TF (aH (bI e) [] (.add aq (.num 4)) (.add aq (.num 29)) rfl) d1) (.inl rfl) T.ne T.nT (TF T.len (by decide)) ⟨uX dx ra Nt.at_,Nt.tab⟩ (by refine ab (Wf ..) (ab (UL ..) ?_);exact TF T.dR (by decide)) fun ys v ns n4 hn4 hL=>?_;have Nu:=Nt.put (es':=bU 0 ys);refine ⟨_,_,rfl,Nu.at_,_,_,Nu.tab,Nu.Tw,Nu.tr,?_⟩;refine ab (show cB (cB (cB (cB (upd (upd H1 j J) ta (.dict (bU 0 ([]++ys)))) sh) dx) ta) ra=upd H j J from Nu.back) ?_;refine eJ (OC T hr hL) fun rs tv S=>?_;have Ph:=T.fh;refine c47 (k:=2) ok fn (TF (Uc 5 (e+24)) d1) (by decide) S.eU S.len S.row fun n5 h5=>c2 ok fn S.tv (TF (Uc 4 (e+25)) d1) fun n6 h6=>?_;have PC:n1<=n4:=TF h2 (TF h3 hn4);have NU:n4<=n6:=TF h5 h6;have PB:n<=n6:=TF aJ (TF h1 (TF PC NU));refine Qn ok fn (TF (aH (bI e) [] (.add aq (.num 6)) (.add aq (.num 29)) rfl) d1) hL.rn T.ne (TF T.len (by decide)) hL.nd (TF Ph (by decide)) (TF (UD hL.rn.eU) (TF T.dR (by decide))) fun t' n7 h7 fO uT=>?_;refine ah (uT (fun O=>[])) fun C' hC hT=>?_;exact wg ok fn (n1:=n6) (TF (Uy (by decide) e) d1) T hr hk hW fG S NU (TO hta (TF PC NU)) (TO IJ (TF PC NU)) (TO h4 PB) (TF h1 (TF PC NU)) fO hC hT (hH.pz mw) (fun b o hb=>by
  by_cases q:b=j
  ·refine ab q ?_;exact TO (il j _ M4) PB
  ·rw [ak q] at hb;exact TO (il b o hb) PB) fun H' n' hn hk=>(bW (upd H j J) hk (fun b c dx fs q=>absurd q ((hH.pz mw).inst b c dx fs)) (h J n' (TF PB (TF h7 hn)) mw))
end
theorem Mh (xs:List Int):iR (bq xs) none (some (63:Int))=bq (xs.take 63):=by
 unfold bq;refine ab List.map_take ?_
 generalize xs.map (fun i=>V.int i)=l
 show l.take (XX l.length 63)=l.take 63
 by_cases h:63<=l.length
 ·exact ab (show XX l.length 63=63 from jV (i:=63) h) rfl
 ·have h:=Vd.mp h;have e:XX l.length 63=l.length:=by
   unfold XX;refine ab (if_neg (by decide)) (ab (Int.min_eq_right (Ul.mpr (Ud h))) (ab (Int.max_eq_right (Ug _)) ?_));rfl
  exact ab e (ab (VE (TJ _)) (ab (VE (Ud h)) rfl))
section
variable {G:aA}{d:Nat}{H:AH}{n:Nat}{Q:KV}{w:Bool}(ok:aZ G)(fn:fJ G)
include ok fn
theorem c29 {xs:List Int}(hd:1<=d)(hz:xs.length<=16777216)(h:∀j n',n<=j->j<n'->H j=none->i8 (upd H j (pA (xs.take 63) 0 0)) j 0->Q (.ref j) (upd H j (pA (xs.take 63) 0 0)) n'):aE G d 29 [.ag (bq xs)] H n Q:=
 aF ok fn.f29 hd rfl fun d d1 ne aJ=>by
  have hl:(bq xs).length<=16777216:=by unfold bq;refine ab (TH ..) ?_;exact hz
  have e1:=Mh xs;refine aV hl ?_;intro n1 h1;refine aV ?_ ?_
  ·refine ab e1 ?_;unfold bq;refine ab (TH ..) (ab (Wu ..) ?_);exact TF (Xc ..) (by decide)
  refine ab e1 ?_;refine cx (fun i:Int=>V.int i) (fun i=>.int i) (xs.take 63) (fun i hi n3 K K2 h3 hK=>hK n3 (TJ _)) fun n2 h2 j hj h0=>h j (j+1) (TF aJ (TF h1 (TF h2 hj))) (Uj j) h0 (lW _ 0 0 ae ?_ (TJ _));refine ab Wu ?_;exact Xc ..
end
noncomputable def cq.tv (S:Addr->Bool)(x:cq):V:=.tup [.ref (sR x.e x.t),(V.az x.a (aQ x.ps)).dG S,.int x.m]
structure Lq (d:Nat)(H:AH)(x:cq):Prop where
 nt:NT H x.e (.ref (sR x.e x.t)) ((bu x.e x.t).map .ref)
 node:∀a∈bu x.e x.t,∃es,zJ H a es
 eU:(bu x.e x.t).length<=1000
 deep:x.e+2<=d
theorem zv.tail {x:cq}:∀{L:List cq},zv (x::L)->zv L
 | [],_=>trivial
 | _::_,h=>h.2
section
variable {G:aA}{d:Nat}{H:AH}{n:Nat}{Q:KL}{w:Bool}(ok:aZ G)(fn:fJ G)
include ok fn
theorem yw {S:Addr->Bool}{L:List cq}{x0:cq}{M:Addr->Bool}{r0 r1 r2 r3 r4 r5 r6 r7 r8 r9 q0 q1 q2 q3 q4:Option V}(hN:∀x∈L,Lq d H x)(hC:zv (x0::L))(hM:∀a∈bu x0.e x0.t,M a=true)(h:∀M' n',n<=n'->Q [] (qx H M') n'):
 fg (fun x H n K K2=>WA G d (.tup [.var 16,.var 17,.var 18]) x ([r0,r1,r2,r3,r4,r5,r6,r7,r8,r9,q0,q1,q2,q3,q4]++Up 4 none) H n fun ρ1 H1 n1=>mT G d [.cmp .Gt (.call 35 [.var 16]) (.var 18)] ρ1 H1 n1 fun b H2 n2=>Br b (WE G d (.var 18) ρ1 H2 n2 K) (K2 H2 n2)) (L.map (cq.tv S)) (qx H M) n Q:=by
 refine Ge (α:=Addr->Bool) (cq.tv S) L (qx H) (fun r ds n1 M=>n<=n1/\ds=[]/\(∀x∈r,x∈L)/\∃p,zv (p::r)/\∀a∈bu p.e p.t,M a=true) M rfl rfl ⟨TJ _,rfl,fun O h=>h,ai x0 hC hM⟩ (fun x r ds M n1 hs=>?_) fun ds M n1 hs=>?_
 ·refine i7 hs fun g1 gR g3 bN=>?_;subst gR;refine ah bN fun p g4 g5=>?_;have hx:=hN x (g3 x (TM ..));refine c35 ok fn hx.deep hx.nt hx.node hx.eU fun n2 h2=>fB (decide_eq_false ?_) ⟨_,rfl,TF g1 h2,rfl,fun y hy=>g3 y (TP _ hy),x,g4.tail,fun a ha=>?_⟩
  ·refine fun q=>absurd (UH.mp q) (Ux.mpr (TF (List.countP_mono_left fun a ha h=>?_) g4.1))
   cases e:(bu p.e p.t).contains a with
   | false=>rfl
   | true=>rw [g5 a (UQ.mp e)] at h;injection h
  ·exact ab (UQ.mpr ha ..) (ab (Bool.or_true ..) rfl)
 ·refine cS hs fun g1 iq O=>?_;subst iq;exact h M n1 g1
end
theorem eI.mono {w:Bool}{W r r' e:Nat}{t:Tr e}{ps:List PR}(h:eI w W r e t ps)(hr:r<=r')(h5:r'<=5):eI w W r' e t ps where
 perm:=h.perm
 ko:=h.ko
 ne:=h.ne
 kd:=h.kd
 rank:=h5
 eU:=TF h.eU (Uy hr 8)
 deep:=TF h.deep (Uy hr 4)
 size:=TF h.size (Uy (Wb 12 hr) 13)
 fA:=h.fA
noncomputable def LH (w:Bool)(B:AH)(j tr:Addr)(J:bG)(L:List cq):AH:=upd (upd B j J) tr (.list (L.map (cq.v w)))
section
variable {w:Bool}{B:AH}{j tr:Addr}{J J2:bG}{L:List cq}{m:Nat}
theorem LH.pz (iX:j≠tr):upd (LH w B j tr J L) j J2=LH w B j tr J2 L:=funext fun b=>by
 unfold LH
 by_cases e:b=j
 ·exact ab e (ab ae (ab (ak iX) (ab ae rfl)))
 ·refine ab (ak e) ?_
  by_cases e2:b=tr
  ·exact ab e2 (ab ae (ab ae rfl))
  ·exact ab (ak e2) (ab (ak e2) (ab (ak e) (ab (ak e) rfl)))
theorem LH.put {L2:List cq}:upd (LH w B j tr J L) tr (.list (L2.map (cq.v w)))=LH w B j tr J L2:=aX
theorem LH.BF (iX:j≠tr)(h:i8 (upd B j J) j m):i8 (LH w B j tr J L) j m:=by
 refine jt h fun cs i r e q=>?_;exact (cv cs i r ((ak iX).trans e) q)
theorem LH.BE (iX:j≠tr)(h:i8 (LH w B j tr J L) j m):i8 (upd B j J) j m:=by
 refine jt h fun cs i r e q=>?_;exact (cv cs i r ((ak iX).symm.trans e) q)
end
structure ig (w:Bool)(W r m n0 n:Nat)(B:AH)(j:Addr)(J:bG)(L:List cq):Prop where
 pz:i8 (upd B j J) j m
 ents:∀x∈L,eI w W r x.e x.t x.ps/\x.a<n
 typ:∃C,fS n0 (fun O=>[]) C/\∀x∈L,di C w false x.e x.t n
 HE:zv L
theorem ig.mono {w:Bool}{W r m m' n0 n n':Nat}{B:AH}{j:Addr}{J:bG}{L:List cq}(h:ig w W r m n0 n B j J L)(hm:m<=m')(hn:n<=n'):ig w W r m' n0 n' B j J L:=
 ⟨h.pz.le hm,fun x hx=>⟨(h.ents x hx).1,TO (h.ents x hx).2 hn⟩,h.typ.imp fun C hC=>⟨hC.1,fun x hx=>(hC.2 x hx).mono (fun O O=>rfl) hn⟩,h.HE⟩
theorem ig.snoc {w:Bool}{W r r' m m' n0 n n':Nat}{B:AH}{j:Addr}{J J2:bG}{L:List cq}{x y:cq}{C:eS}(h:ig w W r m n0 n B j J (L++[x]))(tL:n0<=n)(hn:n<=n')(hr:r<=r')(h5:r'<=5)(hJ:i8 (upd B j J2) j m')(Pb:fS n0 (fun O=>[]) C)(Ia:∀z∈L++[x],di C w false z.e z.t n)(uT:(∃C',fS n C C'/\di C' w false y.e y.t n')/\y.a<n')(hy:eI w W r' y.e y.t y.ps)(hf:Fr x y):ig w W r' m' n0 n' B j J2 (L++[x]++[y]):=by
 obtain ⟨⟨C',hA,hT⟩,hya⟩:=uT;refine ⟨hJ,fun z hz=>?_,ai C' (fun a ha=>(hA a (TO ha tL)).trans (Pb a ha)) (fun z hz=>?_),h.HE.snoc hf⟩
 ·rcases T6.mp hz with hz | hz
  ·exact ⟨(h.ents z hz).1.mono hr h5,TO (h.ents z hz).2 hn⟩
  ·refine ab (TK.mp hz) ?_;exact ⟨hy,hya⟩
 ·rcases T6.mp hz with hz | hz
  ·exact (Ia z hz).mono hA hn
  ·refine ab (TK.mp hz) ?_;exact hT
section
variable {G:aA}{d:Nat}{n:Nat}{Q:KV}{w:Bool}(ok:aZ G)(fn:fJ G)
include ok fn
theorem pY {W r m n0 way:Nat}{B:AH}{j tr:Addr}{J:bG}{L:List cq}{x:cq}(hd:40<=d)(h0:ig w W r m n0 n B j J (L++[x]))(tL:n0<=n)(hr:r<=4)(hm:m<=500)(iX:j≠tr)(hW:2<=W)(fG:W<=1000)(rq:way<=4)(hL:L.length<=100)
 (h:∀y J2 n',n<=n'->(ig w W (r+1) (m+3) n0 n' B j J2 (L++[x]++[y]))->(0<way->x.ps≠[]->ig w W r (m+3) n0 n' B j J2 (L++[x]++[y])/\(way<4->y.ps.length<x.ps.length))->Q .none (LH w B j tr J2 (L++[x]++[y])) n'):
 aE G d 36 [.ref j,.ref tr,.str (wd w),.int W,.int way] (LH w B j tr J (L++[x])) n Q:=by
 have hx:x∈L++[x]:=TQ _ (T1 _);refine ah h0.typ fun C Pb Ia=>?_;have hT:=(h0.ents x hx).1;refine c36 ok fn (TF (Uw hT.fh 20) hd) (LH.BF iX h0.pz) hm iX ae hT hr (Ia x hx) hW fG rq hL fun y J2 n' hn hJ uT hy hs hf=>?_;rw [LH.pz iX] at hJ ⊢;refine ab LH.put ?_;have mw:=LH.BE iX hJ;exact h y J2 n' hn (h0.snoc tL hn (Uo r) (Um hr) mw Pb Ia uT hy hf) fun a b=>⟨h0.snoc tL hn (TJ r) (TY hr) mw Pb Ia uT (hs a b).1 hf,(hs a b).2⟩
end
noncomputable def mn (v:Option V):Prop:=∀x,v=some x->x.fw=true
structure DSt where
 J:bG
 L:List cq
 x:cq
 v7:Option V
section
variable {G:aA}{d:Nat}{n:Nat}{w:Bool}(ok:aZ G)(fn:fJ G)
include ok fn
theorem HH {W m0 n0 k:Nat}{B:AH}{j tr:Addr}{J:bG}{x0:cq}{r0 r3 r6 r7 r9 q0 q1 q2 q3 q4:Option V}{K:KR}{R:KV}(hd:40<=d)(o7:mn r7)(hk:k<=4)(h0:ig w W 0 m0 n0 n B j J [x0])(tL:n0<=n)(hm:m0<=100)(iX:j≠tr)(hW:2<=W)(fG:W<=1000)
 (h:∀J2 L x n' v7,n<=n'->mn v7->ig w W 4 (m0+16) n0 n' B j J2 (L++[x])->L.length<=4->K [r0,some (.ref j),some (.str (wd w)),r3,some (.int W),some (.int k),r6,v7,some (.ref tr),r9,q0,q1,q2,q3,q4] (LH w B j tr J2 (L++[x])) n'):
 ny (fun x ρ H n K=>WA G d (.var 7) x ρ H n fun ρ1 H1 n1=>kN G d [.ex (.call 36 [.var 1,.var 8,.var 2,.var 4,.call 30 [.var 1,.int 5]])] ρ1 H1 n1 K R) ((Un k).map fun (i:Nat)=>.int i) [r0,some (.ref j),some (.str (wd w)),r3,some (.int W),some (.int k),r6,r7,some (.ref tr),r9,q0,q1,q2,q3,q4] (LH w B j tr J [x0]) n K:=by
 have d1:1<=d:=TF (by decide) hd;refine yv (α:=DSt) (fun i:Nat=>.int i) (Un k) (fun s=>[r0,some (.ref j),some (.str (wd w)),r3,some (.int W),some (.int k),r6,s.v7,some (.ref tr),r9,q0,q1,q2,q3,q4]) (fun s=>LH w B j tr s.J (s.L++[s.x]))
  (fun r n1 s=>n<=n1/\mn s.v7/\∃q,q+r.length<=4/\s.L.length=q/\ig w W q (m0+4*q) n0 n1 B j s.J (s.L++[s.x])) ⟨J,[],x0,r7⟩ rfl rfl rfl ⟨TJ _,o7,bW 0 (by refine ab (Vo ..) (ab (UL ..) ?_);exact hk) rfl h0⟩ (fun i r s n1 hs=>?_) fun s n1 hs=>?_
 ·refine cS hs fun g1 O bN=>?_;refine bE bN fun q g2 g3 g4=>?_;have g2:q+(r.length+1)<=4:=g2;refine uN ok fn d1 (by decide) (by decide) (show m0+4*q<=900 by exact aH (bC m0 q r.length) [(1,aq,.num 100),(4,.add aw (.add aN ay),.num 4)] (.add aq (.mulL 4 aw)) (.num 900) rfl hm g2) (LH.BF iX g4.pz) fun way J2 n2 h2 hw hJ=>?_;rw [LH.pz iX] at hJ ⊢;have hJ:=LH.BE iX hJ;refine pY ok fn hd (m:=m0+4*q+1) ⟨hJ,(g4.mono (TJ _) h2).ents,(g4.mono (TJ _) h2).typ,g4.HE⟩ (TF tL (TF g1 h2)) (aH (bc q r.length) [(1,.add aq (.add aw ay),.num 4)] aq (.num 4) rfl g2) (aH (bC m0 q r.length) [(1,aq,.num 100),(4,.add aw (.add aN ay),.num 4)] (.add (.add aq (.mulL 4 aw)) ay) (.num 500) rfl hm g2) iX hW fG (VQ hw) (aH (bC s.L.length q r.length) [(1,aq,aw),(1,.add aw (.add aN ay),.num 4)] aq (.num 100) rfl (TL g3) g2) fun y J3 n3 h3 hI O=>(sI ⟨J3,s.L++[s.x],y,_⟩ rfl rfl (TF g1 (TF h2 h3)) (fun O e=>by (injection e with e;subst e);rfl) (bW (q+1) (aH (bc q r.length) [(1,.add aq (.add aw ay),.num 4)] (.add (.add aq ay) aw) (.num 4) rfl g2) (by refine ab TG (ab g3 ?_);rfl) (hI.mono (aH (bc m0 q) [] (.add (.add (.add aq (.mulL 4 aw)) ay) (.num 3)) (.add aq (.mulL 4 (.add aw ay))) rfl) (TJ _))))
 ·refine cS hs fun g1 o7 bN=>?_;refine bE bN fun q g2 g3 g4=>?_;have hq:q<=4:=g2;exact h s.J s.L s.x n1 s.v7 g1 o7 ⟨g4.pz.le (aH (bC q (Vc []) m0) [(4,.add aq aw,.num 4)] (.add aN (.mulL 4 aq)) (.add aN (.num 16)) rfl g2),fun z hz=>⟨(g4.ents z hz).1.mono hq (by decide),(g4.ents z hz).2⟩,g4.typ,g4.HE⟩ (aH (bC q (Vc []) s.L.length) [(1,.add aq aw,.num 4),(1,aN,aq)] aN (.num 4) rfl g2 (TL g3))
theorem HI {W m0 n0:Nat}{B:AH}{j tr:Addr}{J:bG}{L:List cq}{x:cq}{r0 r3 r5 r6 r7 r9 q0 q1 q2 q3 q4:Option V}{K:KR}{R:KV}(hd:40<=d)(h0:ig w W 4 m0 n0 n B j J (L++[x]))(tL:n0<=n)(hL:L.length<=4)(hm:m0<=200)(iX:j≠tr)(hW:2<=W)(fG:W<=1000)
 (h:∀J2 L x n',n<=n'->ig w W 4 (m0+48) n0 n' B j J2 (L++[x])->L.length<=16->x.ps=[]->K [r0,some (.ref j),some (.str (wd w)),r3,some (.int W),r5,r6,r7,some (.ref tr),r9,q0,q1,q2,q3,q4] (LH w B j tr J2 (L++[x])) n'):
 xX (fun ρ H n K=>WT G d (.cmp .NotEq (.sub (.sub (.var 8) (.neg (.int 1))) (.int 1)) (.dict [] [])) ρ H n K) (fun ρ H n K=>kN G d [.ex (.call 36 [.var 1,.var 8,.var 2,.var 4,.bin .Add (.int 1) (.call 30 [.var 1,.int 3])])] ρ H n K R)
 [r0,some (.ref j),some (.str (wd w)),r3,some (.int W),r5,r6,r7,some (.ref tr),r9,q0,q1,q2,q3,q4] (LH w B j tr J (L++[x])) n K:=by
 have d1:1<=d:=TF (by decide) hd;refine Lc (α:=DSt) (fun s=>[r0,some (.ref j),some (.str (wd w)),r3,some (.int W),r5,r6,r7,some (.ref tr),r9,q0,q1,q2,q3,q4]) (fun s=>LH w B j tr s.J (s.L++[s.x])) (fun s=>s.x.ps.length)
  (fun n1 s=>n<=n1/\∃c,c+s.x.ps.length<=12/\s.L.length<=4+c/\ig w W 4 (m0+4*c) n0 n1 B j s.J (s.L++[s.x])) ⟨J,L,x,none⟩ rfl rfl ⟨TJ _,bW 0 (by refine ab (UL ..) ?_;exact (h0.ents x (TQ _ (T1 _))).1.eU) hL h0⟩ fun s n1 hs=>?_
 obtain ⟨g1,bN⟩:=hs;refine bE bN fun c g2 g3 g4=>?_;have hl:((s.L++[s.x]).map (cq.v w)).length<=16777216:=by refine ab (TH ..) (ab (TG ..) ?_);exact TF (Uw g3 1) (by have:c<=12:=TF (TZ _ _) g2;show 4+c+1<=_;exact aH (bc c s.x.ps.length) [(1,.add aq aw,.num 12)] (.add (.add (.num 4) aq) ay) (.num 16777216) rfl g2)
 refine (ai _ ae (dh (x:=s.x.v w) (by refine ab TR ?_;exact FX) (aV hl ?_)));refine fun a ha O=>br (fun e=>?_) fun e=>?_
 ·have aJ:s.x.ps≠[]:=fun q=>by rw [q] at e;injection e
  refine uN ok fn d1 (by decide) (by decide) (show m0+4*c<=900 by exact aH (bC m0 c s.x.ps.length) [(1,aq,.num 200),(4,.add aw aN,.num 12)] (.add aq (.mulL 4 aw)) (.num 900) rfl hm g2) (LH.BF iX g4.pz) fun k J2 n2 h2 hk hJ=>?_;have hk:k<3:=hk;rw [LH.pz iX] at hJ ⊢;have hJ:=LH.BE iX hJ;have uP:n1<=n2:=TF (TY ha) h2;refine pY ok fn (way:=1+k) hd (m:=m0+4*c+1) ⟨hJ,(g4.mono (TJ _) uP).ents,(g4.mono (TJ _) uP).typ,g4.HE⟩ (TF tL (TF g1 uP)) (by decide) (aH (bC m0 c s.x.ps.length) [(1,aq,.num 200),(4,.add aw aN,.num 12)] (.add (.add aq (.mulL 4 aw)) ay) (.num 500) rfl hm g2) iX hW fG (aH (bI k) [(1,.add aq ay,.num 3)] (.add ay aq) (.num 4) rfl hk) (aH (bC c s.x.ps.length s.L.length) [(1,.add aq aw,.num 12),(1,aN,.add (.num 4) aq)] aN (.num 100) rfl g2 g3) fun y J3 n3 h3 O hI=>?_;obtain ⟨hI,bO⟩:=hI (aH (bI k) [] (.add rH ay) (.add ay aq) rfl) aJ;have bO:=bO (aH (bI k) [(1,.add aq ay,.num 3)] (.add (.add ay aq) ay) (.num 4) rfl hk);exact (du ⟨J3,s.L++[s.x],y,none⟩ rfl rfl ⟨TF g1 (TF uP h3),bW (c+1) (by show c+1+y.ps.length<=12;exact aH (bC c s.x.ps.length y.ps.length) [(1,.add aq aw,.num 12),(1,.add aN ay,aw)] (.add (.add aq ay) aN) (.num 12) rfl g2 bO) (by refine ab TG ?_;exact Um g3) (hI.mono (aH (bc m0 c) [] (.add (.add (.add aq (.mulL 4 aw)) ay) (.num 3)) (.add aq (.mulL 4 (.add aw ay))) rfl) (TJ _))⟩ bO)
 ·have he:s.x.ps=[]:=by
   cases q:s.x.ps with
   | nil=>rfl
   | cons p ps=>rw [q] at e;injection e
  exact h s.J s.L s.x _ (TF g1 (TY ha)) (g4.mono (aH (bC c s.x.ps.length m0) [(4,.add aq aw,.num 12)] (.add aN (.mulL 4 aq)) (.add aN (.num 48)) rfl g2) (TY ha)) (aH (bC c s.x.ps.length s.L.length) [(1,.add aq aw,.num 12),(1,aN,.add (.num 4) aq)] aN (.num 16) rfl g2 g3) he
end
theorem FH {B:AH}{j x:Addr}{J J2 o:bG}(Ek:j≠x):upd (upd (upd B j J) x o) j J2=upd (upd B j J2) x o:=funext fun b=>by
 by_cases e:b=j
 ·exact ab e (ab ae (ab (ak Ek) (ab ae rfl)))
 ·refine ab (ak e) ?_
  by_cases e2:b=x
  ·exact ab e2 (ab ae (ab ae rfl))
  ·exact ab (ak e2) (ab (ak e2) (ab (ak e) (ab (ak e) rfl)))
theorem I8 {B:AH}{j x:Addr}{J o:bG}{m:Nat}(Ek:j≠x)(h:i8 (upd B j J) j m):i8 (upd (upd B j J) x o) j m:=by
 refine jt h fun cs i r e q=>?_;exact (cv cs i r ((ak Ek).trans e) q)
theorem EK {B:AH}{j x:Addr}{J o:bG}{m:Nat}(Ek:j≠x)(h:i8 (upd (upd B j J) x o) j m):i8 (upd B j J) j m:=by
 refine jt h fun cs i r e q=>?_;exact (cv cs i r ((ak Ek).symm.trans e) q)
theorem Kg {ps:List PR}{k:SK}{i:Int}(h:(ps.map T8).Nodup):((xN ps k i).map T8).Nodup:=by
 unfold xN
 by_cases c:(ps.any fun p=>decide (p.1=k))=true
 ·rewrite [if_pos c,Ua,UK (g:=T8) fun p O=>?_]
  ·exact h
  ·show (oF k i p).1=p.1;unfold oF
   by_cases e:p.1=k
   ·exact ab (if_pos e) rfl
   ·exact ab (if_neg e) rfl
 ·refine ab (if_neg c) (ab TR ?_);refine Wq.mpr ⟨h,U8.mpr ⟨(fun h=>nomatch h),.nil⟩,fun a ha b hb e=>c ?_⟩;refine ah (TX.mp ha) fun p hp gR=>?_;subst gR;exact Vr.mpr (ai p hp (decide_eq_true (e.trans (TK.mp hb))))
structure HSt where
 J:bG
 ps:List PR
 v7:Option V
section
variable {G:aA}{d:Nat}{n:Nat}{w:Bool}(ok:aZ G)(fn:fJ G)
include ok fn
theorem HG {m0 k:Nat}{B:AH}{j x:Addr}{J:bG}{r0 r3 r4 r5 r7 r8 r9 q0 q1 q2 q3 q4:Option V}{K:KR}{R:KV}(hd:2<=d)(o7:mn r7)(hk:k<=8)(hJ:i8 (upd B j J) j m0)(hm:m0<=50)(Ek:j≠x)
 (h:∀J2 ps n' v7,n<=n'->mn v7->i8 (upd B j J2) j (m0+8)->Kd w ps->(ps.map T8).Nodup->ps.length<=8->K [r0,some (.ref j),some (.str (wd w)),r3,r4,r5,some (.ref x),v7,r8,r9,q0,q1,q2,q3,q4] (upd (upd B j J2) x (.dict (aQ ps))) n'):
 ny (fun v ρ H n K=>WA G d (.var 7) v ρ H n fun ρ1 H1 n1=>kN G d [.asg (.sub (.var 6) (.call 31 [.var 2,.call 30 [.var 1,.int 19]])) (.var 7)] ρ1 H1 n1 K R) ((Un k).map fun (i:Nat)=>.int i) [r0,some (.ref j),some (.str (wd w)),r3,r4,r5,some (.ref x),r7,r8,r9,q0,q1,q2,q3,q4] (upd (upd B j J) x (.dict (aQ []))) n K:=by
 refine yv (α:=HSt) (fun i:Nat=>.int i) (Un k) (fun s=>[r0,some (.ref j),some (.str (wd w)),r3,r4,r5,some (.ref x),s.v7,r8,r9,q0,q1,q2,q3,q4]) (fun s=>upd (upd B j s.J) x (.dict (aQ s.ps)))
  (fun r n1 s=>n<=n1/\mn s.v7/\∃c,c+r.length<=8/\s.ps.length<=c/\i8 (upd B j s.J) j (m0+c)/\Kd w s.ps/\(s.ps.map T8).Nodup) ⟨J,[],r7⟩ rfl rfl rfl ⟨TJ _,o7,sI 0 (by refine ab (Vo ..) (ab (UL ..) ?_);exact hk) (TJ _) hJ (fun O h=>(nomatch h)) .nil⟩ (fun i r s n1 hs=>?_) fun s n1 hs=>?_
 ·refine cS hs fun g1 O bN=>?_;refine zE bN fun c g2 g3 g4 g5 g6=>?_;have g2:c+(r.length+1)<=8:=g2;refine uN ok fn (TF (by decide) hd) (by decide) (by decide) (show m0+c<=900 by exact aH (bC m0 c r.length) [(1,aq,.num 50),(1,.add aw (.add aN ay),.num 8)] (.add aq aw) (.num 900) rfl hm g2) (I8 Ek g4) fun q J2 n2 h2 hq mw=>?_;rw [FH Ek] at mw ⊢;have mw:=EK Ek mw;refine Hz ok fn (TF (by decide) hd) hq fun key n3 h3 nM=>(ai _ ae (aL (dD g5 nM) (aV (by unfold aQ;refine ab (TH ..) ?_;exact aH (bC s.ps.length c r.length) [(1,aq,aw),(1,.add aw (.add aN ay),.num 8)] aq (.num 1000) rfl g3 g2) ?_)));refine ab aX (ab oG ?_);exact (sI ⟨J2,xN s.ps key i,_⟩ rfl rfl (TF g1 (TF h2 h3)) (fun O e=>by (injection e with e;subst e);rfl) (sI (c+1) (aH (bc c r.length) [(1,.add aq (.add aw ay),.num 8)] (.add (.add aq ay) aw) (.num 8) rfl g2) (TF xO (Um g3)) (mw.le (aH (bc m0 c) [] (.add (.add aq aw) ay) (.add aq (.add aw ay)) rfl)) (CM nM g5) (Kg g6)))
 ·refine cS hs fun g1 o7 bN=>?_;refine zE bN fun c g2 g3 g4 g5 g6=>?_;have hc:c<=8:=g2;exact h s.J s.ps n1 s.v7 g1 o7 (g4.le (aH (bC c (Vc []) m0) [(1,.add aq aw,.num 8)] (.add aN aq) (.add aN (.num 8)) rfl g2)) g5 g6 (TF g3 hc)
end
theorem zw.opt {v:Option V}{ρ:bt}(h:mn v)(r:zw ρ):zw (v::ρ):=by
 cases v with
 | none=>exact .none r
 | some x=>exact .some (h x rfl) r
theorem zx.opt {S:Addr->Bool}{v:Option V}{ρ ρ':bt}(r:zx S ρ ρ'):zx S (v::ρ) (v.map (V.dG S)::ρ'):=by
 cases v with
 | none=>exact .none r
 | some x=>exact .some rfl r
noncomputable def dw (w:Bool)(L:List cq):List (Addr × List (SK × V)):=L.flatMap fun x=>uU w false x.e x.t
section
variable {w:Bool}{L:List cq}
theorem qW {x:cq}(hx:x∈L):∀p∈uU w false x.e x.t,p∈dw w L:=fun p hp=>Uk.mpr (ai x hx hp)
theorem z0 {x:cq}(hx:x∈L):∀a∈bu x.e x.t,cV (dw w L) a=true:=fun a ha=>by
 rw [<- dP (w:=w) (lim:=false)] at ha;refine bY (TX.mp ha) fun p hp=>?_;exact su.mpr (TV (qW hx p hp))
theorem DA:oP (cV (dw w L)) (L.map (cq.v w))=L.map (cq.tv (cV (dw w L))):=by
 refine ab (oQ ..) (ab (Ua ..) ?_);refine UK fun x hx=>?_;show V.tup [(aS w false x.e x.t).dG _,_,_]=_;refine ab (rP (z0 hx _ (iO x.e x.t))) ?_;rfl
theorem z6:(V.ag (L.map (cq.v w))).dG (cV (dw w L))=.ag (L.map (cq.tv (cV (dw w L)))):=congrArg V.ag DA
theorem Hq:(V.ag (L.map (cq.v w))).fw=true:=xD fun z hz=>by
 refine bY (TX.mp hz) fun x O=>?_;show ((aS w false x.e x.t).fw&&(ip (aQ x.ps)&&true))=true;refine ab (gP ..) (ab (bp.aQ.2 ..) ?_);rfl
end
section
variable {G:aA}{d:Nat}{n:Nat}{Q:KV}{w:Bool}(ok:aZ G)(fn:fJ G)
include ok fn
theorem BO {C:eS}{W r n0 n1 ne:Nat}{H:AH}{j:Addr}{L:List cq}{x0:cq}{xs:List Int}{a6:Addr}{p6:List PR}{lo hi:SK}{i3 i5 i11:Int}{v7 uV sy Lb:Option V}(hd:40<=d)(hE:∀x∈x0::L,eI w W r x.e x.t x.ps)(aJ:ne<=n0)(hC:fS n0 (fun O=>[]) C)(hT:∀x∈x0::L,di C w false x.e x.t n1)(QT:zv (x0::L))(hL:L.length<=100)(hH:uW H)(o7:mn v7)(N4:mn uV)(N5:mn sy)(N6:mn Lb)
 {ta:Addr} {tf:Bool} (htb:H ta=some (.tab tf)) (hta:ta<n0) (h:∀H' n',n<=n'->H' ta=some (.tab tf)->Q (.bool true) H' n'):
 WB G d ne [.dG,.ex (.call 35 [.sub (.sub (.var 8) (.int 0)) (.int 0)]),.ret (.cmp .Eq (.lc 4 (.var 18) (.tup [.var 16,.var 17,.var 18]) .pl [.pH (.var 8) (.int 1) .none] [.cmp .Gt (.call 35 [.var 16]) (.var 18)]) (.list []))]
 [some (.ag (bq xs)),some (.ref j),some (.str (wd w)),some (.int i3),some (.int W),some (.int i5),some (.az a6 (aQ p6)),v7,some (.ag ((x0::L).map (cq.v w))),some (.sk lo),some (.sk hi),some (.int i11),uV,sy,Lb] H n Q:=by
 have nH:∀p∈dw w (x0::L),C p.1=p.2:=fun p hp=>by
  refine ah (Uk.mp hp) fun x hx hp=>?_;exact mG x.e x.t (hT x hx) p hp
 have hN:∀x∈x0::L,Lq d (ir (dw w (x0::L)) H) x:=fun x hx=>⟨NT.wq x.e x.t (z0 hx) fun p hp=>ky nH (qW hx p hp),fun a ha=>by
  rw [<- dP (w:=w) (lim:=false)] at ha;refine bY (TX.mp ha) fun p hp=>?_;refine Dm (ey x.e x.t p hp) fun O t2 t3 t4 O=>?_;exact ⟨_,ky nH (qW hx p hp),kE (t2 _),by refine ab (oN ..) (ab (t3 ..) ?_);rfl,by refine ab (kC ..) ?_;exact t4⟩,TF (hE x hx).dR (by decide),TF (Uw (hE x hx).fh 2) (TF (by decide) hd)⟩
 refine (ai (dw w (x0::L)) ⟨fun a es e=>?_,zw.get (.some bp.ints.fw (.some rfl (.some rfl (.some rfl (.some rfl (.some rfl (.some bp.aQ.2 (.opt o7 (.some Hq (.some rfl (.some rfl (.some rfl (.opt N4 (.opt N5 (.opt N6 .nil))))))))))))))),hH.fw⟩ ?_)
 ·have hp:=j0 e;refine ah (Uk.mp hp) fun x hx hp=>?_;have ha:a∈bu x.e x.t:=dP (w:=w) (lim:=false) x.e x.t▸TV (f:=T8) hp;exact ⟨TF aJ (sv hC (hT x hx) a ha),rM x.e x.t _ hp,(ey x.e x.t _ hp).1,.inl (cg 8 _ rfl (w0 (TV hx) (.inl (rO x.e x.t _ hp))))⟩
 refine ab (zx.eq (T:=dw w (x0::L)) (.some (bp.ints.dG _) (.some rfl (.some rfl (.some rfl (.some rfl (.some rfl (.some rfl (.opt (.some z6 (.some rfl (.some rfl (.some rfl (.opt (.opt (.opt .nil)))))))))))))))) ?_;have hl:((x0::L).map (cq.tv (cV (dw w (x0::L))))).length<=16777216:=by refine ab (TH ..) ?_;exact TF (Um hL) (by decide)
 have h0:=hN x0 (TM ..);refine aV hl ?_;have e0:ir (dw w (x0::L)) H=qx (ir (dw w (x0::L)) H) fun O=>false:=B1.symm;refine ab e0 ?_;refine c35 ok fn h0.deep h0.nt h0.node h0.eU fun n2 h2=>aV hl ?_;have e1:iR ((x0::L).map (cq.tv (cV (dw w (x0::L))))) (some (1:Int)) none=L.map (cq.tv (cV (dw w (x0::L)))):=iS (a:=[x0]);intro n3 h3;refine aV ?_ ?_
 ·refine ab (e1 ..) (ab (TH ..) ?_);exact TF hL (by decide)
 refine ab e1 ?_;exact yw ok fn (fun x hx=>hN x (TP x0 hx)) QT (fun a ha=>by refine ab (UQ.mpr ha) ?_;rfl) fun M' n4 h4=>h _ n4 (TF h2 (TF h3 h4)) (by
  unfold qx
  rewrite [uE fun q=>?_,htb];rfl
  refine ah (TX.mp q) fun p hp pF=>?_;subst pF;refine ah (Uk.mp hp) fun x hx hp=>?_;exact absurd hta (Ux.mpr (sv hC (hT x hx) p.1 (dP (w:=w) (lim:=false) x.e x.t▸TV (f:=T8) hp))))
theorem ya {W r:Nat}{H:AH}{L:List cq}{r0 r1 r3 r4 r5 r6 r7 q1 lx CB SM:Option V}{lo hi:SK}{K:KR}{R:KV}(hd:40<=d)(hE:∀x∈L,eI w W r x.e x.t x.ps)(yG:lo.tag=kt w)(Ei:hi.tag=kt w)(N4:mn lx)(N5:mn CB)(N6:mn SM)
 (h:∀n' uV sy Lb,n<=n'->mn uV->mn sy->mn Lb->K [r0,r1,some (.str (wd w)),r3,r4,r5,r6,r7,some (.ag (L.map (cq.v w))),some (.sk lo),some (.sk hi),q1,uV,sy,Lb] H n'):
 ny (fun x ρ H n K=>WA G d (.tup [.var 12,.var 13,.var 14]) x ρ H n fun ρ1 H1 n1=>kN G d [.ite (.not (.call 37 [.var 2,.var 12,.var 13,.var 9,.var 10])) [.ret (.bool false)] []] ρ1 H1 n1 K R) (L.map (cq.v w)) [r0,r1,some (.str (wd w)),r3,r4,r5,r6,r7,some (.ag (L.map (cq.v w))),some (.sk lo),some (.sk hi),q1,lx,CB,SM] H n K:=by
 refine nA (α:=Option V × Option V × Option V) (cq.v w) L (fun s=>[r0,r1,some (.str (wd w)),r3,r4,r5,r6,r7,some (.ag (L.map (cq.v w))),some (.sk lo),some (.sk hi),q1,s.1,s.2.1,s.2.2]) (fun O=>H) (fun r s=>(∀x∈r,x∈L)/\mn s.1/\mn s.2.1/\mn s.2.2) (lx,CB,SM) rfl rfl rfl ⟨fun O h=>h,N4,N5,N6⟩ (fun x r s n1 h1 hs=>?_) fun s n1 h1 hs=>h n1 _ _ _ h1 hs.2.1 hs.2.2.1 hs.2.2.2;have T:=hE x (hs.1 x (TM ..));refine c37 ok fn (TF (Uw T.fh 9) (TF (by decide) hd)) T yG Ei fun n2 h2=>(Dp (some (aS w false x.e x.t),some (.az x.a (aQ x.ps)),some (.int x.m)) rfl rfl (TF h1 h2) (fun y hy=>hs.1 y (TP _ hy)) (fun z e=>?_) (fun z e=>?_) (fun z e=>?_))
 ·(injection e with e;subst e);exact gP x.e x.t
 ·(injection e with e;subst e);exact bp.aQ.2
 ·(injection e with e;subst e);rfl
theorem EN {W m n0 ne:Nat}{B:AH}{j:Addr}{J:bG}{L:List cq}{xs:List Int}{a6:Addr}{p6:List PR}{lo hi:SK}{i3 i5:Int}{v7:Option V}(hd:60<=d)(hI:ig w W 4 m n0 n B j J L)(aJ:ne<=n0)(hW:2<=W)(fG:W<=1000)(hL:L.length<=20)(hL0:L≠[])(hm:m<=400)(hB:uW (upd B j J))(il:∀b o,upd B j J b=some o->b<n)(yG:lo.tag=kt w)(Ei:hi.tag=kt w)(o7:mn v7)
 {ta:Addr} {tf:Bool} (htj:ta≠j) (htb:B ta=some (.tab tf)) (hta:ta<n0) (h:∀H' n',n<=n'->H' ta=some (.tab tf)->Q (.bool true) H' n'):
 WB G d ne (LP.drop 11) [some (.ag (bq xs)),some (.ref j),some (.str (wd w)),some (.int i3),some (.int W),some (.int i5),some (.az a6 (aQ p6)),v7,some (.ag (L.map (cq.v w))),some (.sk lo),some (.sk hi),none,none,none,none] (upd B j J) n Q:=by
 have hl:(L.map (cq.v w)).length<=1000:=by refine ab (TH ..) ?_;exact TF hL (by decide)
 have De:=TF hl (show 1000<=16777216 by decide);refine aV De (uN ok fn (many:=(L.map (cq.v w)).length) (TF (by decide) hd) (by refine ab (TH ..) ?_;exact Wc.mpr hL0) hl (TF hm (by decide)) hI.pz fun i J2 n2 h2 Ej hJ=>?_);have QE:=hB.pz hJ;rw [aX] at hJ QE ⊢;have hiL:i<L.length:=by rwa [TH] at Ej
 have hx:=hI.ents L[i] (UN hiL);have hg:(L.map (cq.v w))[i]? =some (cq.v w L[i]):=by refine ab Ui (ab (T9 hiL) ?_);rfl
 have QV:L[i].e+30<=d:=TF (Uw hx.1.fh 30) (TF (by decide) hd);obtain ⟨o,M4⟩:∃o,upd B j J j=some o:=⟨_,ae⟩;have Na:∀b o,upd B j J2 b=some o->b<n2:=fun b o hb=>by
  by_cases q:b=j
  ·refine ab q ?_;exact TO (il j _ M4) h2
  ·rw [ak q] at hb;exact TO (il b o ((ak q).trans hb)) h2
 refine dh hg (aV De (dh hg (aV De ?_)));refine c38 ok fn QV hJ (TF (Um hm) (by decide)) hx.1 (TJ 4) hW fG (TO hx.2 h2) QE Na fun J3 n3 h3 Pd=>?_;have hB3:=QE.pz Pd;intro n3' h3';have RM:mn none:=fun O e=>by injection e
 refine ya (R:=Q) ok fn (TF (by decide) hd) (fun x hx=>(hI.ents x hx).1) yG Ei RM RM RM fun n4 uV sy Lb h4 N4 N5 N6=>?_;refine ah hI.typ fun C hC hT=>?_;have QT:=hI.HE
 cases L with
 | nil=>exact absurd rfl hL0
 | cons x0 L=>exact BO (htb:=(ak htj).trans ((ak htj).trans htb)) (hta:=hta) ok fn (TF (by decide) hd) (fun x hx=>(hI.ents x hx).1) aJ hC hT QT (TF (UD hL) (by decide)) hB3 o7 N4 N5 N6 fun H' n5 h5 vF=>h H' n5 (TF h2 (TF h3 (TF h3' (TF h4 h5)))) vF
end
theorem Kq {α:Type}{a b:α}{l:List α}(h:l.Perm [a,b]):∃x y,l=[x,y]:=by
 have:=h.length_eq
 match l,this with
 | [x,y],_=>exact (uX x y rfl)
theorem ym {w:Bool}{W r e:Nat}{t:Tr e}(h:eI w W r e t []):∃tv,Tl 2 (aS w false e t) tv/\∀a,Tl 2 (aS w false 0 (a,[])) tv:=by
 have hp:av e t=[]:=List.perm_nil.mp h.perm
 cases e with
 | succ e=>exact absurd hp (fj _ t (h.ne.resolve_left (Ww _)))
 | zero=>
  refine (ai _ (kF (lim:=false) (e:=0) (t:=t) (.inl rfl) (.inl rfl) h.nT (TF h.len (by decide))) (fun a=>?_));refine ab (pP.Tv (d:=0) (u:=((a,[]):Tr 0)) (show t.2=[] from hp)) ?_;exact kF (lim:=false) (e:=0) (t:=((a,[]):Tr 0)) (.inl rfl) (.inl rfl) (fun O h=>nomatch h) (Ur _)
section
variable {G:aA}{d:Nat}{n:Nat}{Q:KV}{w:Bool}(ok:aZ G)(fn:fJ G)
include ok fn
theorem EO {W m n0 ne:Nat}{B:AH}{j tr:Addr}{J:bG}{L:List cq}{x:cq}{xs:List Int}{a6:Addr}{p6:List PR}{i3 i5:Int}{v7:Option V}(hd:60<=d)(hI:ig w W 4 m n0 n B j J (L++[x]))(yJ:x.ps=[])(aJ:ne<=n0)(hW:2<=W)(fG:W<=1000)(hL:L.length<=16)(hm:m<=300)(hB:uW (upd B j J))(il:∀b o,upd B j J b=some o->b<n)(mA:upd B j J tr=none)(o7:mn v7)
 {ta:Addr} {tf:Bool} (htj:ta≠j) (htb:B ta=some (.tab tf)) (hta:ta<n0) (h:∀H' n',n<=n'->H' ta=some (.tab tf)->Q (.bool true) H' n'):
 WB G d ne (LP.drop 8) [some (.ag (bq xs)),some (.ref j),some (.str (wd w)),some (.int i3),some (.int W),some (.int i5),some (.az a6 (aQ p6)),v7,some (.ref tr),none,none,none,none,none,none] (LH w B j tr J (L++[x])) n Q:=by
 refine (bA _ _ rfl ae ?_);unfold LH;refine ab cY (ab (cJ mA) ?_);have d1:1<=d:=TF (by decide) hd;refine uN ok fn d1 (by decide) (by decide) (TF hm (by decide)) hI.pz fun i1 J1 n1 h1 It Pc=>Hz ok fn d1 It fun k1 n2 h2 Dd=>?_;refine uN ok fn d1 (by decide) (by decide) (TF (Um hm) (by decide)) Pc fun i2 J2 n3 h3 Ej mw=>Hz ok fn d1 Ej fun k2 n4 h4 my=>?_;rw [aX,aX] at mw ⊢;have hh:∀a∈[k1,k2],a.tag=kt w:=fun a ha=>by
  rcases TN.mp ha with rfl | ha
  ·exact Dd
  ·refine ab (TK.mp ha) ?_;exact my
 refine (bW [k1,k2] rfl ⟨fun a ha b hb=>?_,show 2<64 by decide⟩ (fun jE hp hs=>?_))
 ·exact (hh a ha).trans (hh b hb).symm
 refine eJ (Kq hp) fun lo hi gR=>?_;subst gR;have yG:=hh lo (hp.mem_iff.mp (TM ..));have Ei:=hh hi (hp.mem_iff.mp (TP _ (TM ..)));have hl:((L++[x]).map (cq.v w)).length<=16777216:=by refine ab (TH ..) (ab (TG ..) ?_);exact TF (Uw hL 1) (by decide)
 have hx:=(hI.ents x (TQ _ (T1 _))).1;rw [yJ] at hx;refine ah (ym hx) fun tv rp k8=>?_;refine dh (x:=x.v w) (by refine ab TR ?_;exact FX) (aV hl ?_);refine c2 ok fn rp (TF (by decide) hd) fun n5 h5 a ha h0=>⟨rfl,c2 ok fn (k8 a) (TF (by decide) hd) fun n6 h6=>?_⟩;have s1:=rp.self;have Pm:n<=n6:=TF h1 (TF h2 (TF h3 (TF h4 (TF h5 (TF ha (TF (Uo a) h6))))));refine fB rp.d0 (aL s1.cmp (aV (TF s1.dep (by decide)) (fB (show (!V.eqv tv tv)=false by refine ab s1.eqv ?_;rfl) ?_)));have MH:=hI.mono (TJ m) Pm;have C9:=hB.pz (J:=J2) (m:=m+1+1) (by refine ab aX ?_;exact mw);rw [aX] at C9;exact EN (htj:=htj) (htb:=htb) (hta:=hta) ok fn hd ⟨mw,MH.ents,MH.typ,MH.HE⟩ aJ hW fG (by refine ab TG ?_;exact TF (Uw hL 1) (by decide)) (fun q=>by cases (V2.mp q).2) (TF (Uw hm 2) (by decide)) C9 (fun b o hb=>by
  by_cases q:b=j
  ·refine ab q ?_;exact TO (il j J ae) Pm
  ·rw [ak q] at hb;exact TO (il b o ((ak q).trans hb)) Pm) yG Ei o7 fun H' n' hn vF=>h H' n' (TF Pm hn) vF
theorem yX {W m n0 ne k:Nat}{B:AH}{j tr:Addr}{J:bG}{x0:cq}{xs:List Int}{a6:Addr}{p6:List PR}{i3:Int}{v7:Option V}(hd:60<=d)(hk:k<=4)(hI:ig w W 0 m n0 n B j J [x0])(aJ:ne<=n0)(tL:n0<=n)(hW:2<=W)(fG:W<=1000)(hm:m<=100)(hB:uW B)(hjn:j<n)(il:∀b o,B b=some o->b<n)(iX:j≠tr)(mA:B tr=none)(o7:mn v7)
 {ta:Addr} {tf:Bool} (htj:ta≠j) (htb:B ta=some (.tab tf)) (hta:ta<n0) (h:∀H' n',n<=n'->H' ta=some (.tab tf)->Q (.bool true) H' n'):
 WB G d ne (LP.drop 6) [some (.ag (bq xs)),some (.ref j),some (.str (wd w)),some (.int i3),some (.int W),some (.int k),some (.az a6 (aQ p6)),v7,some (.ref tr),none,none,none,none,none,none] (LH w B j tr J [x0]) n Q:=by
 have hd4:40<=d:=TF (by decide) hd;refine aV (TF hk (by decide)) fun n1 h1=>HH (R:=Q) ok fn hd4 o7 hk (hI.mono (TJ _) h1) (TF tL h1) hm iX hW fG fun J2 L x n2 v7 h2 o7 MH hL=>?_;have uP:=TF h1 h2;refine HI (R:=Q) ok fn hd4 MH (TF tL uP) hL (TF (Uw hm 16) (by decide)) iX hW fG fun J3 L3 x3 n3 h3 hI3 hL3 yJ=>?_;have yz:=TF uP h3;exact EO (htj:=htj) (htb:=htb) (hta:=hta) ok fn hd hI3 yJ aJ hW fG hL3 (TF (Uw (Uw hm 16) 48) (by decide)) (hB.pz hI3.pz) (fun b o hb=>by
  by_cases q:b=j
  ·refine ab q ?_;exact TO hjn yz
  ·rw [ak q] at hb;exact TO (il b o hb) yz) ((ak iX.symm).trans mA) o7 fun H' n' hn vF=>h H' n' (TF yz hn) vF
end
theorem zr {k:Nat}(h:k<2):∃w,Yn (k:Int) 2=some k/\[V.str "Names",.str "Nums"][k]? =some (.str (wd w)):=by
 rcases (OO h) with rfl | rfl
 ·exact (ai true rfl rfl)
 ·exact (ai false rfl rfl)
section
variable {G:aA}{d:Nat}{H:AH}{n:Nat}{Q:KV}(ok:aZ G)(fn:fJ G)
include ok fn
theorem c39 {xs:List Int}(hd:62<=d)(hz:xs.length<=16777216)(gK:H G.dW=some (.tab true))(hH:uW H)(il:∀b o,H b=some o->b<n)(h:∀H' n',n<=n'->H' G.dW=some (.tab false)->Q (.bool true) H' n'):aE G d 39 [.ag (bq xs)] H n Q:=
 aF ok fn.f39 (kd:=61) hd rfl fun d d1 ne aJ=>by
  have e1:1<=d:=TF (by decide) d1;refine c29 ok fn e1 hz fun j n1 Pl A8 hj0 hJ0=>?_;refine uN ok fn e1 (by decide) (by decide) (by decide) hJ0 fun k1 J1 n2 h2 Dd Pc=>?_;rw [aX] at Pc ⊢;refine ah (zr Dd) fun w KX GF=>?_;refine dh KX (dh GF (aV (by decide) ?_));refine uN ok fn e1 (by decide) (by decide) (by decide) Pc fun k2 J2 n3 h3 my mw=>?_;rw [aX] at mw ⊢;refine uN ok fn e1 (by decide) (by decide) (by decide) mw fun k3 J3 n4 h4 Iv Pd=>?_;rw [aX] at Pd ⊢;refine uN ok fn e1 (by decide) (by decide) (by decide) Pd fun k4 J4 n5 h5 M5 hJ4=>?_;rw [aX] at hJ4 ⊢;intro x hx IQ;obtain ⟨xj,KZ⟩:=aU IQ;have m15:n1<=n5:=TF h2 (TF h3 (TF h4 h5));have my:k2<9:=my;refine aV (TF (Ud my) (by decide)) fun n6 h6=>?_;refine HG (w:=w) (R:=Q) ok fn (TF (by decide) d1) (fun O e=>by injection e) (VQ my) hJ4 (by decide) xj.symm fun J5 ps n7 v7 h7 o7 hJ5 d9 w3 yJ=>?_;refine (bA _ _ rfl ae ?_);refine ab cY (ab (cJ ((ak xj).trans KZ)) ?_);have Gv:(aQ ps).length<=16777216:=by unfold aQ;refine ab (TH ..) ?_;exact TF yJ (by decide)
  intro n8 h8;refine aV (by refine ab (TH ..) ?_;exact Gv) ?_;refine ab (show (aQ ps).map (fun e=>V.sk e.1)=ps.map (V.sk∘T8) from Ua ..) ?_;refine cx aB (V.sk∘T8) ps (fun p hp n9 K K2 h9 hK=>aL (dD d9 (d9 p hp)) (dh (e7 w3 p hp) (hK n9 (TJ _)))) fun n9 h9=>?_;have iX:j≠G.dW:=fun q=>by rw [q,gK] at hj0;injection hj0
  refine c19 (C:=fun O=>[]) (W:=2+k3) ok fn (TF (by decide) d1) (TZ 2 k3) (by have:k3<3:=Iv;exact aH (bI k3) [(1,.add aq ay,.num 3)] (.add ia aq) (.num 1000) rfl Iv) d9 w3 (UB yJ (by decide)) ((ak iX.symm).trans gK) fun e t n10 Ed he cK rj Nk Ro jC uT=>?_;intro tr mA NC;have hB:upd (upd H j J5) G.dW (.tab false)=upd (upd H G.dW (.tab false)) j J5:=funext fun b=>by
   by_cases q1:b=j
   ·exact ab q1 (ab ae (ab (ak iX) (ab ae rfl)))
   ·refine ab (ak q1) ?_
    by_cases q2:b=G.dW
    ·exact ab q2 (ab ae (ab ae rfl))
    ·exact ab (ak q2) (ab (ak q2) (ab (ak q1) rfl))
  rw [hB] at NC ⊢;have QI:i8 (upd (upd H G.dW (.tab false)) j J5) j (0+1+1+1+1+8):=by refine jt hJ5 fun cs i r e q=>?_;exact (cv cs i r (ae.trans (ae.symm.trans e)) q)
  obtain ⟨tj,Rr⟩:=aU NC;refine ah uT fun C' hC hT=>?_;have M5:k4<5:=M5;have m5:n<=n1:=TF aJ (TF Pl (Ud A8));have m9:n1<=n9:=TF m15 (TF (TY hx) (TF h6 (TF h7 (TF h8 h9))));have NS:n9<=tr+1:=TF Ed (TY mA);have T:eI w (2+k3) 0 e t ps:=⟨Nk,Ro,jC,d9,Ur _,yJ,VQ (Wg (a:=2) (UB he (UB (Um yJ) (by decide)))),VQ (Wg (a:=2) (UB rj (UB (Wb 3 (Um yJ)) (by decide)))),cK⟩;refine yX (htj:=iX.symm) (htb:=ae) (hta:=TO (il _ _ gK) (TF m5 m9)) (x0:=⟨e,t,ps,x,0⟩) (n0:=n9) (B:=upd H G.dW (.tab false)) (W:=2+k3) (k:=k4) ok fn (TF (by decide) d1) (VQ M5) ⟨QI,fun z hz=>?_,ai C' hC (fun z hz=>?_),trivial⟩ ?_ NS (TZ 2 k3) ?_ ?_ ?_ ?_ ?_ tj.symm Rr o7 fun H' n' hn vF=>h H' n' ?_ vF
  ·refine ab (TK.mp hz) ?_;exact ⟨T,TO (Uj x) (TF h6 (TF h7 (TF h8 (TF h9 NS))))⟩
  ·refine ab (TK.mp hz) ?_;exact hT.mono (fun O O=>rfl) (TY mA)
  ·exact TF (TF Pl (Ud A8)) m9
  ·have:k3<3:=Iv;exact aH (bI k3) [(1,.add aq ay,.num 3)] (.add ia aq) (.num 1000) rfl Iv
  ·decide
  ·exact hH.upd (fun O=>rfl) rfl fun O O O e=>nomatch e
  ·exact TO A8 (TF m9 NS)
  ·intro b o hb;have m1:=TF m5 (TF m9 NS)
   by_cases q:b=G.dW
   ·refine ab q ?_;exact TO (il _ _ gK) m1
   ·rw [ak q] at hb;exact TO (il b o hb) m1
  ·exact TF (TF m5 (TF m9 NS)) hn
end
noncomputable abbrev pw:XS:=PySem.Challenge.pw_sa0520_01
set_option genSizeOf false in
set_option genInjectivity false in
structure Kv where
 i:Nat
 k:Nat
 nv:Nat
 q8:Nat
 dY:List St
 dV:List V
 names:List Str
 ds:List Value
noncomputable def T0 (P:Params):BT:=(Xj (fun (p:BT × Nat) o=>(p.1.ins p.2 o,p.2+1)) (.nil,0) (XR P).objs.toList).1
theorem Hl (P:Params):absHeap (T0 P) 11 (XR P).life=XR P:=by kernel_rfl
noncomputable def S0 (w:World)(os:ZO):XB:=⟨T0 w.params,11,(XR w.params).life, #[],YG,Zx,os⟩
noncomputable def gt (t:XB)(a:Addr):Option Obj:=match Wx a t.n with
 | true=>(match t.tree.get a with | some o=>alive o | none=>none)
 | false=>none
noncomputable def caL:List Nat:=[155,190,212,233,261,370,580,370]
noncomputable def faL:List Nat:=[272,279,284,379,386,393,400,405,412,419,424,431,438,444,449,456,463,470,475,480,485,490,495,502,507,514,519,528,591,596,603,610,615,622,629,634,639,644,649,654,0,0,0,306,313,341,355,367,0,549,556,563,570,577,0,0,0,0,0,0,0,0,209,0,251,299,542]
noncomputable def HV:List Kv:=[
 ⟨0,1,1,0,b0,[],["value"],[]⟩,
 ⟨1,2,2,0,b1,[],["kind","value"],[]⟩,
 ⟨2,1,2,0,b2,[],["value"],[]⟩,
 ⟨3,2,2,0,b3,[],["word","key"],[]⟩,
 ⟨4,2,2,0,b4,[],["word","value"],[]⟩,
 ⟨5,2,3,0,b5,[],["shelf","value"],[]⟩,
 ⟨6,3,4,0,b6,[],["shelf","node","key"],[]⟩,
 ⟨7,3,4,0,b7,[],["shelf","node","word"],[]⟩,
 ⟨8,3,4,0,b8,[],["shelf","node","word"],[]⟩,
 ⟨9,3,4,0,b9,[],["way","value","times"],[]⟩,
 ⟨10,3,9,0,b10,[],["shelf","root","word"],[]⟩,
 ⟨11,2,5,0,b11,[],["keys","key"],[]⟩,
 ⟨12,4,7,0,b12,[],["shelf","kids","word","key"],[]⟩,
 ⟨13,5,11,0,b13,[],["shelf","root","word","key","default"],[]⟩,
 ⟨14,5,14,0,b14,[],["shelf","root","word","low","high"],[]⟩,
 ⟨15,2,7,0,b15,[],["items","width"],[]⟩,
 ⟨16,2,5,0,b16,[],["word","pairs"],[]⟩,
 ⟨17,1,1,0,b17,[],["kids"],[]⟩,
 ⟨18,1,1,0,b18,[],["node"],[]⟩,
 ⟨19,3,6,19,b19,[],["pairs","word","width"],[]⟩,
 ⟨20,2,3,0,b20,[],["node","word"],[]⟩,
 ⟨21,2,3,0,b21,[],["kids","word"],[]⟩,
 ⟨22,4,8,0,b22,[],["node","word","pair","width"],[]⟩,
 ⟨23,5,6,0,b23,[],["root","word","key","value","width"],[]⟩,
 ⟨24,3,7,0,b24,[],["node","word","key"],[]⟩,
 ⟨25,3,4,0,b25,[],["root","word","key"],[]⟩,
 ⟨26,2,3,0,b26,[],["shelf","root"],[]⟩,
 ⟨27,4,9,0,b27,[],["shelf","root","way","met_places"],[]⟩,
 ⟨27,2,9,0,LO,[.tup [],.none],["shelf","root","way","met_places"],[.ref 520,.none]⟩,
 ⟨28,3,4,0,b28,[],["shelf","root","word"],[]⟩,
 ⟨29,1,1,0,b29,[],["script"],[]⟩,
 ⟨30,2,6,0,b30,[],["jar","many"],[]⟩,
 ⟨31,2,2,0,b31,[],["word","number"],[]⟩,
 ⟨32,1,1,0,b32,[],["held"],[]⟩,
 ⟨33,1,1,0,b33,[],["node"],[]⟩,
 ⟨34,1,3,0,b34,[],["node"],[]⟩,
 ⟨35,1,3,0,b35,[],["root"],[]⟩,
 ⟨36,5,13,0,b36,[],["jar","trees","word","width","way"],[]⟩,
 ⟨37,5,7,0,b37,[],["word","root","held","low","high"],[]⟩,
 ⟨38,5,14,0,Qh,[],["jar","word","width","root","held"],[]⟩,
 ⟨39,1,15,0,LP,[],["script"],[]⟩,
 ⟨43,2,6,0,b43,[],["self","value"],[]⟩,
 ⟨44,3,3,0,b44,[],["self","head","key"],[]⟩,
 ⟨45,2,3,0,b45,[],["self","value"],[]⟩,
 ⟨46,1,1,0,b46,[],["self"],[]⟩,
 ⟨47,1,2,0,b47,[],["self"],[]⟩,
 ⟨50,3,3,0,b50,[],["self","value","place"],[]⟩,
 ⟨51,3,8,0,b51,[],["self","value","place"],[]⟩,
 ⟨52,3,5,0,b52,[],["self","node","place"],[]⟩,
 ⟨53,4,5,0,b53,[],["self","node","place","keys"],[]⟩,
 ⟨62,2,3,0,b62,[.bool false],["self","octets","is_hex"],[.bool false]⟩,
 ⟨64,3,3,0,b64,[],["self","number","generation"],[]⟩,
 ⟨65,1,3,0,b65,[.none,.none],["self","table","trailer"],[.none,.none]⟩,
 ⟨65,1,3,0,LQ,[.none,.none],["self","table","trailer"],[.none,.none]⟩,
 ⟨66,3,3,0,b66,[],["self","shelf","word"],[]⟩]
noncomputable def vN:List Nat:=[272,271,279,278,284,283,379,378,386,385,393,392,400,399,405,404,412,411,419,418,424,423,431,430,438,437,444,443,449,448,456,455,463,462,470,469,475,474,480,479,485,484,490,489,495,494,502,501,507,506,514,513,519,518,528,527,591,590,596,595,603,602,610,609,615,614,622,621,629,628,634,633,639,638,644,643,649,648,654,653,306,305,313,312,341,340,355,354,367,366,556,555,563,562,570,569,577,576,209,208,251,250,299,298,542,541,549,548,190,189,212,211,261,260,370,369,316,315,580,579,155,154,233,232,202,292,439,521,520]
noncomputable def oW (c:Nat):Addr:=caL.getD c 0
noncomputable def qd (i:Nat):Addr:=faL.getD i 0
noncomputable def oX (t:XB):Frag:=vN.filterMap fun a=>(gt t a).map fun o=>(a,o)
noncomputable def AR (d:Data):Option FuncData:=match d with | .func fd=>some fd | _=>none
noncomputable def AK (d:Data):Option (Array XE):=match d with | .dict es _=>some es | _=>none
noncomputable def AN (d:Data):Option (Array Value):=match d with | .fields vs=>some vs | _=>none
noncomputable def xM (b:FuncBody):Option (List Stmt):=match b with | .stmts l=>some l | _=>none
noncomputable def By (v:Value):Bool:=match v with | .str _ _=>true | _=>false
noncomputable def O5 (t:XB)(a:Addr):Option FuncData:=(gt t a).bind fun o=>AR o.data
noncomputable def Gi (t:XB)(a:Addr):Option (Array XE):=(gt t a).bind fun o=>AK o.data
noncomputable def B9 (t:XB)(a:Addr)(x:Str):Option Value:=(Gi t a).bind fun es=>nsFind es x
noncomputable def oI (t:XB)(a:Addr):Bool:=(Gi t a).any fun es=>es.all fun e=>By e.key
noncomputable def Jm (v:Value):Value:=match v with | .int i _=>.int i 0 | v=>v
noncomputable def K7 (v:Option Value):Option Value:=v.map Jm
noncomputable def B3 (o:Obj):Bool:=o.cls != .type "list"
noncomputable def fnB (t:XB)(f:Kv):Bool:=(O5 t (qd f.i)).any fun fd=>(xM fd.body).any fun body=>codeIn (oX t) fd.code fd.qualname&&(fd.closure.isEmpty&&(V8 fd.globals XA&&(V8 fd.builtins XT&&(hV f.dY (ur fd.scope f.q8) body&&(AP fd.scope f.q8 f.names&&
   (V8 f.names.length (f.k+f.dV.length)&&(V8 (ur fd.scope f.q8).vars.length f.nv&&Us (f.k+f.dV.length) f.nv)))))))
noncomputable def HY:Str × GN->Option Value
 | (_,.fn i)=>some (.ref (qd i))
 | (_,.cls c)=>some (.ref (oW c))
 | (_,.pB i)=>some (.int i 0)
 | (_,.bi _)=>none
noncomputable def O8:List GN:=[.bi .bool,.bi .int,.bi .list,.bi .dict,.cls 0,.cls 1,.cls 2,.cls 3,.cls 4]
noncomputable def Ky:GN->Value
 | .cls c=>.ref (oW c)
 | .bi b=>jT b
 | .fn i=>.ref (qd i)
 | .pB _=>.none
noncomputable def NW:List Nat:=[43,44,45,46,47,49,50,51,52,53]
noncomputable def As (K:Frag)(c:Nat):=(makesIn K (oW c),X8 K (.ref (oW c)) "__init__",typeIn K (.ref (qd (60+c))),X8 K (.ref (oW c)) "__getattribute__",X8 K (.ref (oW c)) "__getattr__",X8 K (.ref (oW c)) "__setattr__",plainOver K (oW c),(clsIn K (oW c)).any (·.hasDict),(iC c).map (X8 K (.ref (oW c))))
noncomputable def wN (c:Nat):Bool × Option (Option Value) × Option Value × Option (Option Value) × Option (Option Value) × Option (Option Value) × Bool × Bool × List (Option (Option Value)):=
 (true,some (some (.ref (qd (60+c)))),some (.type "function"),some (some (.builtin "object.__getattribute__")),some none,some (some (.builtin "object.__setattr__")),true,true,(iC c).map fun O=>some none)
noncomputable def B0 (w:World)(K:Frag)(f:Nat):=(X8 K (.ref (oW (eN f))) (MN.fn f).str,typeIn K (.ref (qd f)),peek K ⟨pw,w.params⟩ (XO (.ref (qd f))),jk (eN f) (MN.fn f).str)
noncomputable def xo (f:Nat):Option (Option Value) × Option Value × Option Keeper × Bool:=(some (some (.ref (qd f))),some (.type "function"),some .frame,false)
noncomputable def BA (K:Frag)(g:GN):=(YF K (.type "int") (Ky g),YF K (.type "list") (Ky g),YF K (.type "dict") (Ky g),YF K (.ref (oW 2)) (Ky g),YF K (.ref (oW 4)) (Ky g))
noncomputable def xc (g:GN):Option Bool × Option Bool × Option Bool × Option Bool × Option Bool:=(some (eV (.int 0) g),some (eV (.ag []) g),some (eV (.az 0 []) g),some (eV (.cU 2 []) g),some (eV (.cU 4 []) g))
noncomputable def BB (K:Frag)(c:Nat):=(plainGet K (oW c) "__class__",hasDictIn K (oW c),X8 K (.ref (oW c)) "__class__",mroIn K (oW c) (.type "object"))
noncomputable def xd (_:Nat):Bool × Bool × Option (Option Value) × Option Bool:=(true,true,some (some (.builtin "object.__class__")),some true)
noncomputable def cdP (t:XB):Option (Value × Option Value × Value × Value × Value × Value × Value):=(gt t 479).bind fun o=>(AN o.data).map fun vs=>(o.cls,vs[11]?,vs.getD 11 .none,vs.getD 18 .none,vs.getD 7 .none,vs.getD 9 .none,vs.getD 10 .none)
noncomputable def LZ (t:XB)(p:Str × GN):Option Value:=match p.2 with | .bi _=>B9 t XT p.1 | _=>none
noncomputable def FZ (p:Str × GN):Option Value:=match p.2 with | .bi b=>some (jT b) | _=>none
noncomputable def PG (t:XB):Bool:=HV.all (fnB t)&&(oI t XA&&(oI t XT&&(oI t cStatics&&((gt t Yc).isSome&&(Un t.n).all fun a=>B3 ((t.tree.get a).getD default)))))
noncomputable def L5 (S:Setting)(t:XB)(V:List Value)(f:Kv):=peek (oX t) S (bindArgs ((O5 t (qd f.i)).getD default) ⟨V.take f.k,[]⟩)
noncomputable def L6 (V:List Value)(f:Kv):Option (List (Str × Value)):=some (f.names.zip (V.take f.k++f.ds))
noncomputable def Mx (w:World)(t:XB)(S:Setting)(V:List Value):=(PG t,HV.map (L5 S t V),fF.map (fun p=>K7 (B9 t XA p.1)),fF.map (LZ t),[4,5,2,6].map (As (oX t)),NW.map (B0 w (oX t)),O8.map (BA (oX t)))
noncomputable def G3 (V:List Value):=(true,HV.map (L6 V),fF.map HY,fF.map FZ,[4,5,2,6].map wN,NW.map xo,O8.map xc)
noncomputable def My (w:World)(t:XB):=([2,4].map (BB (oX t)),(Un 40).map (fun i=>peek (oX t) ⟨pw,w.params⟩ (XO (.ref (qd i)))),(Un 7).map (fun i=>peek (oX t) ⟨pw,w.params⟩ (XO (.ref (oW i)))),specialIn (oX t) (.builtin "object.__class__") "__get__",takesIn (oX t) (.builtin "object.__class__"),
 B9 t XA "isinstance",B9 t XA "__builtins__",B9 t XA "law",B9 t XT "isinstance",B9 t cStatics "sys.recursionlimit",(gt t 4).map (fun o=>(o.cls,o.dict,o.data)),gt t 477,cdP t,(O5 t 480).map (·.code),(gt t 520).map fun o=>(o.cls,o.data))
noncomputable def G4:List (Bool × Bool × Option (Option Value) × Option Bool) × List (Option Keeper) × List (Option Keeper) × Option (Option Value) × Option Bool × Option Value × Option Value × Option Value × Option Value × Option Value × Option (Value × Option Addr × Data) × Option Obj × Option (Value × Option Value × Value × Value × Value × Value × Value) × Option Value × Option (Value × Data):=([2,4].map xd,(Un 40).map (fun O=>some .frame),(Un 7).map (fun O=>some .machine),some (some (.builtin "getset_descriptor.__get__")),some true,
 none,some (.ref 4),some (.ref 654),some (.builtin "isinstance"),none,some (.type "module",some XT,.plain),some (aae #[]),some (.type "code",some (.ref 477),.ref 477,.str "/claim/cut.py" 804,.int 3 0,.bool true,.int 181 0),some (.ref 479),some (.type "tuple",.seq #[]))
noncomputable def OW (w:World)(os:ZO):=Fast.tw10110043849684766642 Fast.tw14364793385576792824 pw w 11 (some (.ref 6)) 0 4500 (S0 w os) (topStub pw)
theorem Hr (w:World):(XR w.params).nsMap XA "__annotations__"=some (.ref 6):=by kernel_rfl
noncomputable def Ec (t:XB):Heap:=ghostOf t.abs.heap [(479,477)]
noncomputable def GT (w:World)(t:XB)(s:Xm):aA:=⟨pw,w,Ec t,s,oW,qd,477,fun O=>False,oX t⟩
theorem vn {t:XB}{a:Addr}{o:Obj}(h:gt t a=some o):t.abs.heap.get? a=some o:=by
 unfold gt at h
 cases e:Wx a t.n with
 | false=>rw [e] at h;injection h
 | true=>
  rw [e] at h
  cases g:t.tree.get a with
  | none=>rw [g] at h;injection h
  | some x=>rw [g] at h;exact (abs_get (Uh e) g).trans h
theorem nE {t:XB}{a:Addr}{o:Obj}(h:gt t a=some o)(ha:a≠477):(Ec t).get? a=some o:=
 ghost_ne (vn h) fun q=>ha (TK.mp q)
theorem nG {t:XB}{a:Addr}{o:Obj}(h:(Ec t).get? a=some o):t.abs.heap.get? a=some o:=of_hideAll _ h
theorem EW {t:XB}{a:Addr}{o:Obj}(h:(a,o)∈oX t):a∈vN/\gt t a=some o:=by
 obtain ⟨b,hb,e⟩:=List.mem_filterMap.mp h
 cases g:gt t b with
 | none=>rw [g] at e;injection e
 | some x=>rw [g] at e;cases e;exact ⟨hb,g⟩
theorem lg {t:XB}:(oX t).In (Ec t):=fun a o e=>
 have h:=EW (mem_of_lookupK e)
 nE h.2 fun q=>by
  have:vN.contains 477=false:=by decide +kernel
  rw [<- q] at this;rw [UQ.mpr h.1] at this;injection this
theorem bind_some {α β:Type}{o:Option α}{f:α->Option β}{b:β}(h:o.bind f=some b):∃a,o=some a/\f a=some b:=Wm.mp h
theorem yy {d:Data}{fd:FuncData}(h:AR d=some fd):d=.func fd:=by cases d with | func f=>(injection h with e;subst e);rfl | _=>exact nomatch h
theorem yn {d:Data}{es:Array XE}(h:AK d=some es):∃n,d=.dict es n:=by cases d with | dict f n=>(injection h with e;subst e);exact ⟨n,rfl⟩ | _=>exact nomatch h
theorem yt {d:Data}{vs:Array Value}(h:AN d=some vs):d=.fields vs:=by cases d with | fields f=>(injection h with e;subst e);rfl | _=>exact nomatch h
theorem wk {b:FuncBody}{l:List Stmt}(h:xM b=some l):b=.stmts l:=by cases b with | stmts f=>(injection h with e;subst e);rfl | _=>exact nomatch h
theorem yQ {v:Value}(h:By v=true):∃x t,v=.str x t:=by cases v with | str x t=>exact ⟨x,t,rfl⟩ | _=>exact bf h
theorem ua {t:XB}{a:Addr}(h:oI t a=true)(ha:a≠477):(Ec t).Ns a (B9 t a):=by
 refine ah (ZW h) fun es e hs=>ah (bind_some e) fun o g hd=>(yn hd).elim fun n hd=>?_;refine ⟨o,es,n,nE g ha,hd,fun e he=>yQ (Array.all_eq_true_iff_forall_mem.mp hs e he),fun x=>?_⟩;unfold B9;refine ab e ?_;rfl
theorem B8 {v:Option Value}(h:K7 v=none):v=none:=Option.map_eq_none_iff.mp h
theorem B7 {v:Value}{a:Addr}(h:Jm v=.ref a):v=.ref a:=by cases v with | ref b=>exact h | _=>exact nomatch h
theorem B6 {v:Value}{i:Int}(h:Jm v=.int i 0):∃t,v=.int i t:=by cases v with | int j t=>(injection h with e;subst e);exact ⟨t,rfl⟩ | _=>exact nomatch h
theorem xw {v:Option Value}{a:Addr}(h:K7 v=some (.ref a)):v=some (.ref a):=
 ah (UW.mp h) fun x e q=>by exact ab e (ab (B7 q) rfl)
theorem E0 {v:Option Value}{i:Int}(h:K7 v=some (.int i 0)):∃t,v=some (.int i t):=
 ah (UW.mp h) fun x e q=>(B6 q).elim fun t q=>⟨t,by exact ab e (ab q rfl)⟩
structure Gd (w:World)(t:XB):Prop where
 one:∀(S:Setting) (v0 v1 v2 v3 v4:Value),Mx w t S [v0,v1,v2,v3,v4]=G3 [v0,v1,v2,v3,v4]
 two:My w t=G4
theorem nF {x:Str}{y:GN}(h:j3 x=some y):(x,y)∈fF:=by
 unfold j3 at h
 generalize fF=l at h
 induction l with
 | nil=>injection h
 | cons p l ih=>
  rw [Ue] at h
  cases e:x==p.1 with
  | true=>rw [e] at h;(injection h with e;subst e);refine ab (eq_of_beq e) ?_;exact .head _
  | false=>rw [e] at h;exact .tail _ (ih h)
theorem EJ {y:GN}(h:tR y=true):y∈O8:=by
 unfold O8
 cases y with
 | bi b=>cases b <;> first | (injection h;done) | (repeat (first | exact List.Mem.head _ | apply List.Mem.tail))
 | cls c=>
  have h:c<5:=Uh h;rcases c with _ | _ | _ | _ | _ | c
  all_goals first | omega | (repeat (first | exact List.Mem.head _ | apply List.Mem.tail))
 | _=>injection h
theorem Eb {x:Str}{i:Nat}(h:j3 x=some (.fn i)):i<40:=by
 have hm:(x,GN.fn i)∈fF:=nF h;have:fF.all (fun p=>match p.2 with | .fn i=>Wx i 40 | .cls i=>Wx i 7 | _=>true)=true:=by decide +kernel
 exact Uh (Ut.mp this _ hm)
theorem Ea {x:Str}{i:Nat}(h:j3 x=some (.cls i)):i<7:=by
 have hm:(x,GN.cls i)∈fF:=nF h;have:fF.all (fun p=>match p.2 with | .fn i=>Wx i 40 | .cls i=>Wx i 7 | _=>true)=true:=by decide +kernel
 exact Uh (Ut.mp this _ hm)
section
variable {w:World}{t:XB}{s:Xm}(g:Gd w t)
include g
theorem Gd.PG:PG t=true:=congrArg T8 (g.one ⟨pw,w.params⟩ .none .none .none .none .none)
theorem Gd.parts:HV.all (fnB t)=true/\oI t XA=true/\oI t XT=true/\oI t cStatics=true/\(gt t Yc).isSome=true/\(Un t.n).all (fun a=>B3 ((t.tree.get a).getD default))=true:=by
 have h:=af g.PG;have h1:=af h.2;have h2:=af h1.2;have h3:=af h2.2;have h4:=af h3.2;exact ⟨h.1,h1.1,h2.1,h3.1,h4.1,h4.2⟩
theorem Gd.glob {x:Str}{y:GN}(h:j3 x=some y):K7 (B9 t XA x)=HY (x,y)/\LZ t (x,y)=FZ (x,y):=by
 have e:=g.one ⟨pw,w.params⟩ .none .none .none .none .none;have hm:(x,y)∈fF:=nF h;exact ⟨Va.mp (show fF.map (fun p=>K7 (B9 t XA p.1))=fF.map HY from congrArg (fun p=>p.2.2.1) e) _ hm,Va.mp (congrArg (fun p=>p.2.2.2.1) e) _ hm⟩
theorem Gd.cls (c:Nat)(h:Dj c=true):As (oX t) c=wN c:=by
 have e:=g.one ⟨pw,w.params⟩ .none .none .none .none .none;refine Va.mp (congrArg (fun p=>p.2.2.2.2.1) e) c ?_
 match c,h with
 | 4,_=>exact .head _
 | 5,_=>exact .tail _ (.head _)
 | 2,_=>exact .tail _ (.tail _ (.head _))
 | 6,_=>exact .tail _ (.tail _ (.tail _ (.head _)))
theorem Gd.met (f:Nat)(h:RH f=true):B0 w (oX t) f=xo f:=by
 have e:=g.one ⟨pw,w.params⟩ .none .none .none .none .none;exact Va.mp (congrArg (fun p=>p.2.2.2.2.2.1) e) f (UQ.mp h)
theorem Gd.fu (y:GN)(h:tR y=true):BA (oX t) y=xc y:=by
 have e:=g.one ⟨pw,w.params⟩ .none .none .none .none .none;exact Va.mp (congrArg (fun p=>p.2.2.2.2.2.2) e) y (EJ h)
theorem Gd.iso (c:Nat)(h:(c==2 || c==4)=true):BB (oX t) c=xd c:=by
 refine Va.mp (congrArg (fun p=>p.1) g.two) c ?_;simp only [Wd,beq_iff_eq] at h;rcases h with rfl | rfl <;> simp
theorem Gd.Mw:eu (GT w t s) where
 rd:=lg
 Ao:=fun c=>by
  show oW (sX c)=oW c
  by_cases q:c=7
  ·subst q;rfl
  ·unfold sX;split
   ·exact absurd rfl q
   ·rfl
 xr:=⟨_,ua g.parts.2.2.2.1 (by decide),congrArg (fun p=>p.2.2.2.2.2.2.2.2.2.1) g.two⟩
 FA:=by
  obtain ⟨o,h⟩:=Vy.mp g.parts.2.2.2.2.1;exact ⟨o,nE h (by decide)⟩
 glob:=⟨_,ua g.parts.2.1 (by decide),fun x i h=>xw (g.glob h).1,fun x c h=>xw (g.glob h).1,fun x i h=>E0 (g.glob h).1,fun x b h=>B8 (g.glob h).1,congrArg (fun p=>p.2.2.2.2.2.1) g.two⟩
 L0:=⟨_,ua g.parts.2.2.1 (by decide),fun x b h=>(g.glob h).2,congrArg (fun p=>p.2.2.2.2.2.2.2.2.1) g.two⟩
 Qi:=by
  refine ⟨_,ua g.parts.2.1 (by decide),?_⟩;have e:(gt t 4).map (fun o=>(o.cls,o.dict,o.data))=some (.type "module",some XT,.plain):=congrArg (fun p=>p.2.2.2.2.2.2.2.2.2.2.1) g.two;obtain ⟨o,ho,e⟩:=UW.mp e;exact ⟨4,o,congrArg (fun p=>p.2.2.2.2.2.2.1) g.two,by decide,by decide,(by decide:(4:Nat)≠477),nE ho (by decide),congrArg (fun p=>p.1) e,congrArg (fun p=>p.2.1) e,congrArg (fun p=>p.2.2) e⟩
 BH:=fun x i h=>Y0 (K:=oX t) lg (Va.mp (show (Un 40).map (fun i=>peek (oX t) ⟨pw,w.params⟩ (XO (.ref (qd i))))=(Un 40).map fun O=>some .frame from congrArg (fun p=>p.2.1) g.two) i (Vg.mpr (Eb h)))
 BG:=fun x i h=>Y0 (K:=oX t) lg (Va.mp (show (Un 7).map (fun i=>peek (oX t) ⟨pw,w.params⟩ (XO (.ref (oW i))))=(Un 7).map fun O=>some .machine from congrArg (fun p=>p.2.2.1) g.two) i (Vg.mpr (Ea h)))
theorem Gd.facts:aZ (GT w t s) where
 ok:=g.Mw
 cls:=fun c h=>by
  have e:=g.cls c h;exact ⟨congrArg (fun p=>p.1) e,congrArg (fun p=>p.2.1) e,congrArg (fun p=>p.2.2.1) e,congrArg (fun p=>p.2.2.2.1) e,congrArg (fun p=>p.2.2.2.2.1) e,congrArg (fun p=>p.2.2.2.2.2.1) e,congrArg (fun p=>p.2.2.2.2.2.2.1) e,congrArg (fun p=>p.2.2.2.2.2.2.2.1) e,
   fun f hf=>Va.mp (congrArg (fun p=>p.2.2.2.2.2.2.2.2) e) f (UQ.mp (af hf).2)⟩
 met:=fun f h=>by
  have e:=g.met f h;exact ⟨congrArg (fun p=>p.1) e,congrArg (fun p=>p.2.1) e,Y0 (K:=oX t) lg (congrArg (fun p=>p.2.2.1) e),congrArg (fun p=>p.2.2.2) e⟩
 fu:=by
  have gv:∀y,j2 (GT w t s) y=Ky y:=fun y=>by cases y <;> rfl
  refine ⟨fun y h=>?_,fun y h=>?_,fun y h=>?_,fun c y hc h=>?_,fun c hc=>?_,congrArg (fun p=>p.2.2.2.1) g.two,congrArg (fun p=>p.2.2.2.2.1) g.two⟩
  ·refine ab (gv ..) ?_;exact congrArg (fun p=>p.1) (g.fu y h)
  ·refine ab (gv ..) ?_;exact congrArg (fun p=>p.2.1) (g.fu y h)
  ·refine ab (gv ..) ?_;exact congrArg (fun p=>p.2.2.1) (g.fu y h)
  ·refine ab (gv ..) ?_;simp only [Wd,beq_iff_eq] at hc;rcases hc with rfl | rfl
   ·exact congrArg (fun p=>p.2.2.2.1) (g.fu y h)
   ·exact congrArg (fun p=>p.2.2.2.2) (g.fu y h)
  ·have e:=g.iso c hc;exact ⟨congrArg (fun p=>p.1) e,congrArg (fun p=>p.2.1) e,congrArg (fun p=>p.2.2.1) e,congrArg (fun p=>p.2.2.2) e⟩
end
noncomputable def dB (x:V)(y:Value):Bool:=match x with
 | .none=>y== .none
 | .bool a=>y== .bool a
 | .tup l=>l.isEmpty&&y== .ref 520
 | _=>false
noncomputable def O2:List V->List Value->Bool
 | []=>List.isEmpty
 | x::xs=>fun l=>match l with | []=>false | y::ys=>dB x y&&O2 xs ys
noncomputable def pad:Nat->List Value->List Value
 | 0,_=>[]
 | n+1,l=>l.headD .none::pad n l.tail
theorem Ct:∀(n:Nat) (l:List Value),l.length<=n->(pad n l).take l.length=l:=fun n=>by
 induction n with
 | zero=>exact fun l h=>by refine ab (U5.mp (Xi.mp h)) ?_;rfl
 | succ n ih=>
  intro l h
  cases l with
  | nil=>rfl
  | cons x l=>exact congrArg (x:: ·) (ih l (Nat.le_of_succ_le_succ h))
theorem Sb {aD:List Value}{k:Nat}(hk:k<=5)(h:aD.length=k):∃v0 v1 v2 v3 v4,[v0,v1,v2,v3,v4].take k=aD:=by
 subst h;exact ⟨_,_,_,_,_,Ct 5 aD hk⟩
section
variable {w:World}{t:XB}{s:Xm}(g:Gd w t)
include g
theorem Gd.code:CodeHd (Ec t) 479 477:=by
 have e:cdP t=_:=congrArg (fun p=>p.2.2.2.2.2.2.2.2.2.2.2.2.1) g.two;refine ah (bind_some e) fun o h1 h2=>ah (UW.mp h2) fun vs hv q=>?_;have q1:=(Uv q).2;have q2:=(Uv q1).2;have q3:=(Uv q2).2;have q4:=(Uv q3).2;have q5:=(Uv q4).2;exact ⟨o,vs,_,_,_,_,_,_,_,nE h1 (by decide),(Uv q).1,yt hv,(Uv q1).1,(Uv q2).1,(Uv q3).1,(Uv q4).1,(Uv q5).1,(Uv q5).2,by decide⟩
theorem Gd.d1 {h:Heap}(hk:∀b o,(Ec t).get? b=some o->h.get? b=some o){x:V}{y:Value}(e:dB x y=true):aC (GT w t s) h (fun O=>False) x y:=by
 cases x with
 | none=>exact eq_of_beq e
 | bool b=>exact eq_of_beq e
 | tup l=>
  have e:=af e;have e2:y=.ref 520:=eq_of_beq e.2;refine ah (UW.mp (show (gt t 520).map (fun o=>(o.cls,o.data))=some (.type "tuple",.seq #[]) from congrArg (fun p=>p.2.2.2.2.2.2.2.2.2.2.2.2.2.2) g.two)) fun o ho q=>?_;have q1:=nE ho (by decide);exact ⟨520,[],e2,.inr ⟨_,q1⟩,⟨o,hk _ _ q1,(Uv q).1,_,(Uv q).2⟩,W9.mp e.1▸rfl⟩
 | _=>exact bf e
theorem Gd.dOf {h:Heap}(hk:∀b o,(Ec t).get? b=some o->h.get? b=some o){xs:List V}:∀{ys:List Value},O2 xs ys=true->au (GT w t s) h (fun O=>False) xs ys:=by
 induction xs with
 | nil=>exact fun e=>W9.mp e
 | cons x xs ih=>
  intro ys e
  cases ys with
  | nil=>exact bf e
  | cons y ys=>exact ⟨y,ys,rfl,g.d1 hk (af e).1,ih (af e).2⟩
theorem Gd.fn {e:Kv}(he:e∈HV):dF (GT w t s) (qd e.i) e.dY e.k e.dV e.nv:=by
 have h:=Ut.mp g.parts.1 e he;have hc:(qd e.i != 477&&Us e.k 5&&O2 e.dV e.ds&&(e.q8 != 19 || V8 (qd e.i) 480))=true:=Ut.mp (show HV.all (fun e=>qd e.i != 477&&Us e.k 5&&O2 e.dV e.ds&&(e.q8 != 19 || V8 (qd e.i) 480))=true by decide +kernel) e he;have c4:=af hc;have c3:=af c4.1;have c2:=af c3.1;have c1:=bne_iff_ne.mp c2.1;have c2:=c2.2;have c3:=c3.2;have c4:e.q8≠19\/V8 (qd e.i) 480=true:=((Wd ..).mp c4.2).imp bne_iff_ne.mp id;refine ah (ZW h) fun fd hf h=>ah (ZW h) fun body qb h=>ah (bind_some hf) fun o q hd=>?_;have h1:=af h;have h2:=af h1.2;have h3:=af h2.2;have h4:=af h3.2;have h5:=af h4.2;have h6:=af h5.2;have h7:=af h6.2;have h8:=af h7.2;refine ⟨ur fd.scope e.q8,⟨⟨o,fd,body,e.names,e.ds,nE q c1,yy hd,wk qb,codeRec_of lg h1.1,W9.mp h2.1,VL h3.1,VL h4.1,rfl,h5.1,h6.1,VL h7.1,fun s' hk aD hv=>?_,fun h hk=>g.dOf hk c3,fun QZ=>?_⟩⟩,VL h8.1,Uh h8.2⟩
 ·obtain ⟨v0,v1,v2,v3,v4,hv⟩:=Sb (Uh c2) hv;refine fun M A E Q q=>Y0 (M:=M) (lg (t:=t)) ?_ A Q E s' hk q;have z:=Va.mp (congrArg (fun p=>p.2.1) (g.one ⟨M.prog,M.w.params⟩ v0 v1 v2 v3 v4)) e he;unfold L5 L6 at z;rw [hf,hv] at z;exact z
 ·have e1:qd e.i=480:=c4.elim (fun q=>absurd QZ q) VL;have qj:(O5 t 480).map (·.code)=some (.ref 479):=congrArg (fun p=>p.2.2.2.2.2.2.2.2.2.2.2.2.2.1) g.two;rw [<- e1,hf] at qj;exact ⟨479,US qj,g.code⟩
end
theorem Gd.d5 {w:World}{t:XB}{s:Xm}(g:Gd w t)(i:Nat){e:Kv}(h:HV[i]? =some e):dF (GT w t s) (qd e.i) e.dY e.k e.dV e.nv:=g.fn (WJ h)
theorem Gd.fns {w:World}{t:XB}{s:Xm}(g:Gd w t):fJ (GT w t s):=
 ⟨g.d5 0 rfl,g.d5 1 rfl,g.d5 2 rfl,g.d5 3 rfl,g.d5 4 rfl,g.d5 5 rfl,g.d5 6 rfl,g.d5 7 rfl,g.d5 8 rfl,g.d5 9 rfl,g.d5 10 rfl,g.d5 11 rfl,g.d5 12 rfl,g.d5 13 rfl,g.d5 14 rfl,g.d5 15 rfl,g.d5 16 rfl,g.d5 17 rfl,g.d5 18 rfl,g.d5 19 rfl,g.d5 20 rfl,g.d5 21 rfl,g.d5 22 rfl,g.d5 23 rfl,g.d5 24 rfl,g.d5 25 rfl,g.d5 26 rfl,g.d5 27 rfl,g.d5 28 rfl,g.d5 29 rfl,g.d5 30 rfl,g.d5 31 rfl,g.d5 32 rfl,g.d5 33 rfl,g.d5 34 rfl,g.d5 35 rfl,g.d5 36 rfl,g.d5 37 rfl,g.d5 38 rfl,g.d5 39 rfl,g.d5 40 rfl,g.d5 41 rfl,g.d5 42 rfl,g.d5 43 rfl,g.d5 44 rfl,g.d5 45 rfl,g.d5 46 rfl,g.d5 47 rfl,g.d5 48 rfl,g.d5 49 rfl,g.d5 50 rfl,g.d5 51 rfl,g.d5 52 rfl,g.d5 53 rfl,g.d5 54 rfl⟩
noncomputable def qv:XS:=view pw [pw.main.body.length - 1]
noncomputable def ET:List Str:=pw.boundNames
noncomputable def ON (w:World)(s:Xm):Bool:=staticsOk [] (XR w.params) s.heap&&namesBound pw s.heap&&gensDone s&&laidKept (XR w.params) s.heap
noncomputable def uu (s:Xm):=Fast.tw4187177175401517315 qv ET [] (fun O=>true) true s
theorem Fm (w:World)(os:ZO)(S:Setting)(v0 v1 v2 v3 v4:Value):(match OW w os with | some r=>some (Mx w r.2.1 S [v0,v1,v2,v3,v4],My w r.2.1,ON w r.2.1.abs,uu r.2.1.abs) | none=>none)=some (G3 [v0,v1,v2,v3,v4],G4,true,aau qv ET):=by kernel_rfl
theorem wt (t:Thread):through t=(endAt 0 t).isSome:=by
 obtain ⟨cur,code,pos,st⟩:=t
 cases st with
 | cons=>rfl
 | nil=>cases cur with | pure x=>cases x <;> rfl | _=>rfl
theorem wB {tb:String->Option XN}{p:XS}{w:World}{n₀:Nat}{ann:Option Value}{s':Xm}{f:Flow}{c:Code}{q:Pos}{n:Nat}:∀{s:Xm} {t:Thread},segRun tb p w n₀ ann 0 n s t=some (f,s',c,q)->topRun tb p w n₀ ann n s t=some s':=by
 induction n with
 | zero=>exact fun h=>nomatch h
 | succ n ih=>
  intro s t h;unfold segRun at h;unfold topRun;refine ab (wt ..) ?_
  cases he:endAt 0 t with
  | some x=>rw [he] at h;exact congrArg (fun x=>some x.2.1) (US h)
  | none=>
   rw [he] at h;show (match stepOk n₀ ann t with | false=>none | true=>_)=_
   cases hk:stepOk n₀ ann t with
   | false=>rw [hk] at h;injection h
   | true=>
    rw [hk] at h
    cases hs:step (denote tb) p w s t with
    | halt o s₂=>rw [hs] at h;injection h
    | go s₂ t₂=>rw [hs] at h;exact ih h
theorem uf {tb:String->Option XN}{p:XS}{w:World}{N m:Nat}{ann:Option Value}{s₀ s₁:Xm}(h1:fencedOpening tb p w N=some s₀)(h2:s₀.heap.isNs XA=true)(QD:s₀.gens= #[])(h3:s₀.heap.objs.size=m)
 (h4:s₀.heap.nsMap XA "__annotations__"=ann) (h5:topRun tb p w m ann N s₀ (topStub p)=some s₁) (h6:(staticsOk (Zy p.main.body) s₀.heap s₁.heap&&namesBound p s₁.heap&&gensDone s₁&&laidKept s₀.heap s₁.heap)=true):
 ZZ tb p w N=some s₁:=by
 subst h3 h4;unfold ZZ;refine ab h1 ?_;show topFrom tb p w N s₀=_;unfold topFrom;refine ab h2 (ab QD ?_);show Option.bind (topRun tb p w _ _ N s₀ (topStub p)) _=_;refine ab h5 ?_;show (match staticsOk (Zy p.main.body) s₀.heap s₁.heap&&namesBound p s₁.heap&&gensDone s₁&&laidKept s₀.heap s₁.heap with | true=>some s₁ | false=>none)=_;exact ab h6 rfl
theorem EI (w:World):(XR w.params).isNs XA=true:=by kernel_rfl
theorem Fu (w:World):(XR w.params).objs.size=11:=by kernel_rfl
theorem xp:Zy pw.main.body=[]:=by kernel_rfl
theorem Fb:opening pw=plainProg pw.main.scope.names:=by kernel_rfl
theorem AM (s:Xm):fenceModules? pw s=some s:=by kernel_rfl
theorem Hj (w:World)(os:ZO):(S0 w os).abs=⟨XR w.params, #[],YG,Zx,os⟩:=by
 show Xm.mk (absHeap (T0 w.params) 11 (XR w.params).life) #[] YG Zx os=_;exact ab (Hl ..) rfl
theorem Fo {w:World}{os:ZO}{r:Flow × XB × Code × Pos}(h:OW w os=some r):topRun aam pw w 11 (some (.ref 6)) 4500 ⟨XR w.params, #[],YG,Zx,os⟩ (topStub pw)=some r.2.1.abs:=by
 obtain ⟨f,t,c,p⟩:=r;refine bk (Hj ..) ?_;refine wB (f:=f) (c:=c) (q:=p) (segRun_of ?_);refine ab Fast.te10110043849684766642 (ab Fast.te14364793385576792824 ?_);exact h
theorem Fn {w:World}{os:ZO}:∃r,OW w os=some r/\Gd w r.2.1/\ON w r.2.1.abs=true/\uu r.2.1.abs=aau qv ET:=by
 have hr:=Fm w os
 generalize OW w os=o at hr
 cases o with
 | none=>cases hr ⟨pw,w.params⟩ .none .none .none .none .none
 | some r=>
  have hd:=fun S v0 v1 v2 v3 v4=>US (hr S v0 v1 v2 v3 v4);have h0:=hd ⟨pw,w.params⟩ .none .none .none .none .none;exact ⟨r,rfl,⟨fun S v0 v1 v2 v3 v4=>(Uv (hd S v0 v1 v2 v3 v4)).1,(Uv (Uv h0).2).1⟩,(Uv (Uv (Uv h0).2).2).1,(Uv (Uv (Uv h0).2).2).2⟩
theorem HQ (w:World):∃t,ZZ aam pw w 4500=some t.abs/\Gd w t/\uu t.abs=aau qv ET:=by
 obtain ⟨⟨h,gs,dr,tk,os⟩,e,e1⟩:=UW.mp (boot_open (p:=pw) (N:=4500) Fb rfl AM w);obtain ⟨e1,e2,e3,e4⟩:h=XR w.params/\gs= #[]/\dr=YG/\tk=Zx:=
  ⟨(Uv e1).1,(Uv (Uv e1).2).1,(Uv (Uv (Uv e1).2).2).1,(Uv (Uv (Uv e1).2).2).2⟩
 subst e1 e2 e3 e4;obtain ⟨r,h1,h2,h3,h4⟩:=Fn (w:=w) (os:=os);exact ⟨r.2.1,uf e (EI w) rfl (Fu w) (Hr w) (Fo h1) (by refine ab xp ?_;exact h3),h2,h4⟩
noncomputable def Hs:AH:=fun a=>if a=477 then some (.tab true) else none
theorem sH {b:Addr}{o:bG}(h:Hs b=some o):b=477/\o=.tab true:=by
 unfold Hs at h
 by_cases q:b=477
 ·rw [if_pos q] at h;(injection h with e;subst e);exact ⟨q,rfl⟩
 ·rw [if_neg q] at h;injection h
theorem zZ {x o:Obj}(h:(match some x with | some ⟨_,_,.freed,_⟩=>none | o=>o)=some o):o=x:=by
 obtain ⟨c,d,dt,sl⟩:=x
 cases dt with | freed=>exact nomatch h | _=>exact (US h).symm
theorem Hn {t:XB}{a:Addr}{o:Obj}(h:t.abs.heap.get? a=some o):a<t.n/\o=(t.tree.get a).getD default:=by
 unfold Heap.get? at h;rw [show t.abs.heap.objs[a]? =_ from absHeap_at t.tree t.n t.life a] at h
 by_cases q:a<t.n
 ·rw [if_pos q] at h;exact ⟨q,zZ h⟩
 ·rw [if_neg q] at h;exact nomatch h
theorem Jl {w:World}{t:XB}(g:Gd w t){a:Addr}{o:Obj}(h:t.abs.heap.get? a=some o)(hc:o.cls=.type "list"):False:=by
 have q:=Hn h;have h2:=Ut.mp g.parts.2.2.2.2.2 a (Vg.mpr q.1);rw [<- q.2] at h2;exact absurd hc (bne_iff_ne.mp h2)
theorem Bm {p:Params}{h':Heap}{vs:List Value}:∀{xs:List WData},WellAll p h' vs xs->Zz [] xs .int=true->∃is:List Int,is.length=xs.length/\∀G h P,au G h P (bq is) vs:=by
 induction vs with
 | nil=>exact fun hw O=>by cases hw;exact ⟨[],rfl,fun O O O=>rfl⟩
 | cons v vs ih=>
  intro xs hw hs
  cases xs with
  | nil=>cases hw
  | cons x xs=>
   obtain ⟨KX,GF⟩:=wellAll_head hw;have hs:=af (show (WShape.has [] x .int&&Zz [] xs .int)=true from hs);obtain ⟨i,rfl⟩:=hasW_int hs.1;refine ah (ih GF hs.2) fun is hl r=>?_
   cases KX with
   | int _ tk=>exact ⟨i::is,congrArg Nat.succ hl,fun G h P=>⟨_,_,rfl,beq_self_eq_true i,r G h P⟩⟩
theorem BP {w:World}{t:XB}{s₁:Xm}(g:Gd w t)(k:∀b o,t.abs.heap.get? b=some o->s₁.heap.get? b=some o){a:Addr}{vs:List Value}{xs:List Int}(ha:s₁.heap.get? a=some {cls:=.type "list",data:=.seq vs.toArray})
 (hv:∀G h P,au G h P (bq xs) vs) (hz:xs.length<=16777216) {E:Value->Xm->Prop}:
 wpAny (model pw w) callerA (call (.ref 654) [.ref a]) (fun v s'=>v=.bool true/\(∀b o,b≠477->s₁.heap.get? b=some o->s'.heap.get? b=some o)/\(∃ps,s'.heap.get? 477=some (aae ps))/\s'={s₁ with heap:=s'.heap,toks:=s'.toks}) E s₁:=by
 have gK:s₁.heap.get? 477=some (aae #[]):=k _ _ (vn (congrArg (fun p=>p.2.2.2.2.2.2.2.2.2.2.2.1) g.two));have ha7:a≠477:=fun q=>by rw [q,gK] at ha;cases ha
 have R:ba (GT w t s₁) Hs s₁.heap.objs.size s₁:=by
  refine ⟨rfl,TJ _,fun b o hb=>?_,fun b o hb=>k _ _ (nG hb),fun b hb=>⟨?_,id⟩,fun b hb=>hb.elim⟩
  ·obtain ⟨q,rfl⟩:=sH hb;exact ⟨q, #[],q▸gK,fun O=>rfl⟩
  ·by_cases q:b=477
   ·refine ab q ?_;exact hideAll_none _ (.head _)
   ·exact absurd (if_neg q) hb
 have C:aE (GT w t s₁) 62 39 [.ag (bq xs)] Hs s₁.heap.objs.size fun v H' O=>v=.bool true/\H' 477=some (.tab false):=
  c39 g.facts g.fns (TJ _) hz rfl ⟨fun b o hb S=>by refine ab ((sH hb).2) ?_;rfl,fun b o hb=>by refine ab ((sH hb).2) ?_;rfl,fun b c dx fs hb=>nomatch (sH hb).2⟩ (fun b o hb=>by refine ab ((sH hb).1) ?_;exact Xr gK) fun H' n' O hb=>⟨rfl,hb⟩
 have hP:Pf (GT w t s₁) Hs a:=⟨if_neg ha7,by
  cases e:(Ec t).get? a with
  | none=>exact e
  | some o=>exact (Jl g (nG e) (by rw [k _ _ (nG e)] at ha;(injection ha with e;subst e);rfl)).elim,id⟩
 refine C.run (fun O=>False) callerA s₁ [.ref a] _ E ⟨rfl,by decide,by decide⟩ ⟨_,_,rfl,⟨a,vs,rfl,hP,⟨0,ha⟩,hv _ _ _⟩,rfl⟩ R fun v H' n' v' s' q r R' S l=>?_;obtain ⟨rfl,hb⟩:=q;obtain ⟨_,ps,yJ,_⟩:=R'.objs 477 _ hb;exact ⟨r,fun b o hb e=>S.keep b o e (if_neg hb),⟨ps,yJ⟩,R'.base⟩
noncomputable abbrev PI:OpenRow:=PySem.Challenge.rw_sa0520_01.row
theorem Az:(defOf qv "law").isSome=true:=by kernel_rfl
noncomputable def vR:DefRec × List (Str × Expr):=(defOf qv "law").get Az
theorem xi:defOf qv PI.name=some (vR.1,vR.2):=by
 show defOf qv "law"=some vR;exact (Option.some_get Az).symm
noncomputable def q6 (w:World):Xm:=((ZZ aam pw w 4500).getD ⟨{}, #[],YG,0,default⟩)
noncomputable def Yf (s:Xm):World->Prop:=fun w=>∃t,s=t.abs/\Gd w t
theorem wX (w:World):ZZ aam pw w 4500=some (q6 w)/\Yf (q6 w) w/\uu (q6 w)=aau qv ET:=by
 obtain ⟨t,h1,h2,h3⟩:=HQ w;have e:q6 w=t.abs:=by unfold q6;refine ab h1 ?_;rfl
 refine ab e ?_;exact ⟨h1,⟨t,rfl,h2⟩,h3⟩
theorem RD:LeftO pw qv ET (fun O=>true) Yf (fun w=>Yf (q6 w)) 4500:=fun w=>by
 obtain ⟨h1,h2,h3⟩:=wX w;refine ab h1 ?_;unfold uu at h3;refine ab xp ?_;show some (openSeen qv ET [] (fun O=>true) true (q6 w),Yf (q6 w))=_;exact ab Fast.te4187177175401517315 (ab h3 rfl)
noncomputable def YP (w:World)(h:Heap):Prop:=∃t,Gd w t/\∀b o,t.abs.heap.get? b=some o->h.get? b=some o
theorem Fj {xs:List WData}(h:(PySem.Challenge.rw_sa0520_01.pre).holds [] {args:=[.list xs]}=true):xs.length<=63:=by
 have h:(PySem.W.WTm.and (.not (.lt (.lit (.int 63)) (.len (.arg 0)))) (.lit (.bool true))).holds [] {args:=[.list xs]}=true:=h;have h:=(holds_andW h).1;rw [holdsW_of_value (w_not (w_lt w_lit (w_len_list (w_arg rfl))))] at h;exact Vl fun q=>of_decide_eq_false ((Bool.not_eq_true' _).mp h) (UH.mpr q)
theorem Je {w:World}{t:XB}{h:Heap}{mg:Str->Option Value}(g:Gd w t)(k:∀b o,t.abs.heap.get? b=some o->h.get? b=some o)(hn:h.Ns XA mg):mg "law"=some (.ref 654):=
 kK hn fun o1 es1 O e1 d1 O m1=>kK (ua g.parts.2.1 (by decide)) fun o2 es2 O e2 d2 O m2=>by
  have e:=US ((k _ _ (nG e2)).symm.trans e1);rw [e,d1] at d2;injection d2 with d2;refine bk (m1 ..) (ab (d2 ..) (ab (m2 ..) ?_));exact congrArg (fun p=>p.2.2.2.2.2.2.2.1) g.two
theorem DC {args:List WData}(h:PI.toRowW.claim.pre args=true):∃xs,args=[.list xs]/\Zz [] xs .int=true/\xs.length<=63:=by
 have h:=pre_splitW h;refine cu (hasAllW_cons h.1) fun d r e h3 h4=>ah (hasW_list h3) fun xs ed h5=>?_;rw [ed,hasAllW_nil h4] at e;rw [e] at h;exact ⟨xs,e,h5,Fj h.2⟩
theorem FI {p:Params}{h:Heap}{aD:List Value}{xs:List WData}(hw:WellAll p h aD [.list xs]):∃a vs,aD=[.ref a]/\h.get? a=some {cls:=.type "list",data:=.seq vs.toArray}/\WellAll p h vs xs:=by
 refine cu (wellAll_cons_inv hw) fun v C3 e hw NF=>?_;cases NF
 cases hw with
 | list hg vI=>exact ⟨_,_,e,hg,vI⟩
theorem D8 {w:World}{t:XB}{s₁ s':Xm}{cl:Str->Option Addr}{RF:ExcName->Option Value}{args:List WData}{v:Value}(g:Gd w t)(k:∀b o,t.abs.heap.get? b=some o->s₁.heap.get? b=some o)(A5:s₁.gens= #[])
 (hv:v=.bool true) (q1:∀b o,b≠477->s₁.heap.get? b=some o->s'.heap.get? b=some o) (q2:∃ps,s'.heap.get? 477=some (aae ps)) (q3:s'={s₁ with heap:=s'.heap,toks:=s'.toks}):GoodWG PI.toRowW.claim cl RF args s₁ (.ok (.ret v)) s':=by
 have gK:s₁.heap.get? 477=some (aae #[]):=k _ _ (vn (congrArg (fun p=>p.2.2.2.2.2.2.2.2.2.2.2.1) g.two));have hct:isCodeTable s₁.heap 477:=(CodeHd.tab (g.code.keeps fun b o e=>k _ _ (nG e)) gK).isCodeTable;refine ⟨.inl ⟨v,.bool true,[],rfl,fun O=>rfl,hv▸ .bool true,by kernel_rfl,fun O=>⟨WQ,fun O h=>nomatch h⟩⟩,⟨fun b o e=>?_,fun b o e=>?_⟩,by exact ab q3 rfl,.of_eq (by refine ab q3 ?_;exact A5)⟩
 ·by_cases hb:b=477
  ·rw [hb] at e;refine ab hb ?_;have eo:=US (e.symm.trans gK);refine ab eo ?_;exact .inr (.inl ⟨hct,rfl,q2.elim fun ps q2=>⟨#[],ps,rfl,by refine ab Array.empty_append ?_;exact q2⟩⟩)
  ·exact .inl (q1 b o hb e)
 ·by_cases hb:b=477
  ·exact q2.elim fun ps q2=>⟨_,hb▸q2⟩
  ·exact ⟨o,q1 b o hb e⟩
theorem TA:WalkO qv ET (fun O O=>True) YP PI.toRowW vR.1 vR.2 fun f vs=>PySem.call f vs:=by
 intro w s₀ s₁ mg mb G Y a o pm cd doc dV kV ho hd yA hD Nf A5 args aD as Ri Q9 Rk vH yG;have hT:=G.T.g;clear ho hd yA hD G Q9 Rk yG;refine Y.elim fun t Y=>bE (DC Ri) fun xs ea h5 h63=>?_;rw [ea] at vH;refine cu (FI vH) fun b vs ev hg vI=>ah (Bm vI h5) fun is A6 hvr=>?_;have Nf:=Nf.symm.trans (((congrArg mg (defOf_name xi))).trans (Je Y.1 Y.2 hT));injection Nf with Nf;refine ab ev (ab Nf ?_);exact XC (BP (xs:=is) Y.1 Y.2 hg hvr (by refine ab A6 ?_;exact TF h63 (by decide)) (E:=fun O O=>False)) (fun v s' q=>D8 Y.1 Y.2 A5 q.1 q.2.1 q.2.2.1 q.2.2.2) fun O O q=>q.elim
theorem Fp:PySem.Challenge.rw_sa0520_01.wellSaid=true:=(congrFun Fast.te9446332074065402090 _).trans (by kernel_rfl)
end Mine.Internal
open Mine.Internal
theorem PySem.Challenge.cw_sa0520_01_holds : PySem.Challenge.rw_sa0520_01.Holds := by
 refine holds_law Fp fun SY=>holds_open (q:=qv) (loose:=ET) (Xt:=fun O=>true) (XP:=fun O O=>True) (Yf:=Yf) (Ya:=fun w=>Yf (q6 w)) (YP:=YP) (d:=vR.1) (kwd:=vR.2) (N:=4500) RD (fun w s e=>?_) (fun w h h'=>?_) (fun O O=>trivial) (fun O O O O O=>trivial) xi ?_ ?_ (fun O O=>recFacts_nil rfl) rfl SY ?_ ?_ ?_ TA
 ·have:=(wX w).2.1;rw [<- e] at this;obtain ⟨t,rfl,g⟩:=this;exact ⟨t,g,fun O O e=>e⟩
 ·exact fun ⟨t,g,k⟩ k'=>⟨t,g,fun b o e=>k' b o (k b o e)⟩
 ·kernel_rfl
 ·kernel_rfl
 ·kernel_rfl
 ·exact ⟨rfl,rfl,rfl,rfl,rfl,by decide +kernel⟩
 ·exact ⟨[.list []],by decide +kernel,by decide +kernel⟩
