import PyProof.Rows.All
import Wide.All
import OpenK.AllK
import Wide.FinOn
import PySem.Challenge.RW_pb0609_01
set_option Elab.async false
set_option autoImplicit false
set_option linter.unusedVariables false
set_option maxRecDepth 100000
set_option tactic.hygienic false
set_option bootstrap.genMatcherCode false
set_option genSizeOf false
set_option genInjectivity false
set_option backward.linearNoConfusionType false
namespace Mine.Internal
open PySem PySem.Calls PyProof.Rows PySem.W
open And renaming intro -> Ae
open _root_.Array renaming length_toList -> DC, getElem?_toList -> Mh, mk -> QQ, getElem?_eq_getElem -> U6, any_toList -> Va, toList_push -> Vd, toList_extract -> Vo, getElem?_eq_some_iff -> VI, toArray_toList -> Abl, range -> AbD, getElem?_eq_none_iff -> Ab3, getElem_toList -> ApN, toList_append -> ApY, toList_inj -> Ap1, getElem?_eq_none -> Ap8
open _root_.Bool renaming and_eq_true -> Bf, false_ne_true -> CD, not_eq_true' -> Fc, false_eq_true -> JH, and_eq_true_iff -> Og, and_false -> Oo, eq_false_iff -> Rb, or_eq_true -> Vj, not_true -> Vw, false_or -> Abr, true_and -> AbF, eq_iff_iff -> AbG, and_true -> ApB
open Classical renaming propDecidable -> OW
open Decidable renaming byContradiction -> Vh
open Eq renaming refl -> Bi
open Exists renaming intro -> JL
open ForInStep renaming yield -> OO
open _root_.Int renaming lt_of_le_of_lt -> IE, ofNat_le -> IG, le_trans -> KD, ofNat_lt -> Me, toNat_natCast -> Rh, lt_of_lt_of_le -> UY, natCast_nonneg -> Aa6, lt_trans -> Aa7, ofNat_sub -> Apo, le_natAbs -> Apt, toNat_of_nonneg -> Aqf, eq_ofNat_of_zero_le -> AqQ
open _root_.Int.ofNat renaming inj -> UX
open LawfulBEq renaming eq_of_beq -> KP
open LawfulMonad renaming pure_bind -> Rm
open _root_.List renaming range -> As, length_map -> AJ, mem_cons -> AV, length_append -> Bl, map_cons -> Bo, mem_map -> BH, lookup_cons -> BI, mem_append -> BM, length_cons -> BN, map_append -> BP, length_range -> BY, all_eq_true -> B7, mem_append_left -> Cg, getElem?_eq_getElem -> Ci, mem_singleton -> Cx, mem_append_right -> CC, mem_flatMap -> CN, map_map -> C5, mem_cons_self -> Dq, mem_map_of_mem -> Du, nodup_cons -> Dv, append_nil -> Dw, mem_range -> Dx, getElem?_eq_some_iff -> DT, length_nil -> DU, replicate -> D9, getD_eq_getElem?_getD -> ET, nodup_append -> F7, mem_cons_of_mem -> Ga, append_assoc -> Gd, mem_of_getElem? -> Gg, getElem?_append_left -> GH, getElem?_eq_none -> GI, getElem?_set_ne -> Hg, length_set -> Hh, map -> Hl, mem_filter -> Hm, nodup_nil -> Ho, getElem?_map -> Hp, zip_cons_cons -> HX, length -> IH, pairwise_cons -> IJ, mem_filterMap -> IK, getElem?_append_right -> JC, size_toArray -> KH, not_mem_nil -> Mn, map_congr_left -> Mp, pairwise_lt_range -> Mr, count_cons -> Ms, idxOf_lt_length_of_mem -> Mt, any_cons -> Ot, length_take -> Ox, reverse_cons -> Oz, foldl_append -> ON, flatMap_cons -> OV, foldl_cons -> QP, length_drop -> QZ, getElem?_eq_none_iff -> Rl, getElem?_set_self' -> Ro, getElem?_range -> Rp, flatMap_append -> Rq, pairwise_map -> Rr, getElem_mem -> Rt, getElem_idxOf -> Ru, replicate_succ -> U4, flatten_cons -> U5, contains_iff_mem -> Vn, take_of_length_le -> Vp, forIn_cons -> Vy, drop -> VE, of_mem_zip -> VH, getElem?_take_of_lt -> VO, map_filterMap -> VP, perm_ext_iff_of_nodup -> VQ, getElem_inj -> VS, getElem?_set_self -> Aa9, drop_nil -> Abj, append_of_mem -> Abk, find?_cons -> Abn, getElem?_cons_zero -> Abo, getElem?_cons_succ -> Abp, length_eq_zero_iff -> Aby, map_drop -> AbH, take_length -> Ab0, lookup -> Ab6, filter_cons -> Ab7, lookup_append -> Acj, filterMap_cons -> Ack, isEmpty_iff -> Acl, getElem?_inj -> Acv, ext_getElem? -> Acw, getElem?_drop -> Acx, length_filter_le -> AcA, getElem_of_mem -> AcB, idxOf_cons -> AcC, idxOf_append -> AcD, map_id -> AcE, take_nil -> Apz, any_toArray -> ApD, any_eq_true -> ApX, map_take -> ApZ, mem_of_mem_take -> Ap0, take_succ_eq_append_getElem -> Aqm, findIdx?_cons -> Aqo, zip_nil_right -> Aqu, contains_cons -> AqA, dropLast_eq_take -> AqE, length_zipIdx -> AqF, getElem?_zipIdx -> AqG, drop_drop -> AqI, getElem?_take_eq_none -> AqJ, nodup_range -> AqK, any_eq_false -> AqN, nil_append -> AqO, zipIdx_map -> AqP, filterMap_map -> AqR, flatMap_map -> AqS, map_flatMap -> AqT, length_singleton -> AqV
open _root_.List.Pairwise renaming filter -> KS
open _root_.List.Perm renaming refl -> Abw, swap -> ApI, map -> AqL
open _root_.List.cons renaming injEq -> JK
open Min renaming min -> UT
open _root_.Nat renaming le_trans -> AE, le_refl -> AM, lt_irrefl -> BX, ne_of_lt -> Cb, add_le_add -> DH, le_of_lt -> DI, not_lt -> DJ, beq -> EP, lt_of_lt_of_le -> Fb, succ_le_succ -> FA, lt_of_le_of_lt -> F6, zero_le -> GG, add_le_add_left -> He, le_add_right -> Hf, mul_le_mul_left -> HT, le_succ -> HU, lt_succ_self -> JI, zero_add -> KC, le_of_eq -> Md, sub_self -> Mf, lt_trans -> Mm, ne_of_gt -> Mo, le_of_ble_eq_true -> Oi, sub_le -> Oj, one_mul -> Ol, not_lt_zero -> OB, lt_succ_of_lt -> OK, eq_of_beq_eq_true -> OU, ble -> QR, add_comm -> QT, lt_of_succ_lt_succ -> QU, le_of_not_lt -> QV, add_right_comm -> UO, le_of_succ_le -> UU, add_le_add_right -> UW, lt_trichotomy -> U0, add_assoc -> Aa5, lt_or_ge -> Aa8, succ -> Abi, add_zero -> AbE, sub_zero -> Acm, sub_add_cancel -> Apj, min_le_right -> Apk, le_succ_of_le -> Apl, sub_add_eq -> Apm, sub_pos_of_lt -> Apn, sub_lt_left_of_lt_add -> Apq, le_antisymm -> Apr, sub_eq_zero_iff_le -> Aps, le_add_left -> ApW, le_of_sub_eq_zero -> AqH, succ_ne_zero -> AqM, add_sub_cancel_left -> AqU
open _root_.Nat.succ renaming inj -> AbI
open Ne renaming symm -> ER
open _root_.Option renaming map_eq_some_iff -> HS, isSome_iff_exists -> KN, bind_eq_some_iff -> QY, map_some -> Rn, bind_some -> Acp, some_get -> Acu, isNone_iff_eq_none -> Aqt
open _root_.Option.some renaming inj -> Ay, injEq -> Aba
open Prod.mk renaming inj -> D8, injEq -> Abm
open Pure renaming pure -> Om
open PyProof renaming noPylong_small -> ApA
open PyProof.Rows renaming News -> CL, rangeInts -> DV, IntsAre -> JF, subscriptTail -> Ov, wpAny_release' -> Vg, CellsAre -> VG, tail_any -> Abt, markedEach_of_false -> ApK, rangeSize_nat -> ApP
open PyProof.Rows.F renaming plain_set_update_loop -> AbL, entry_set_update_loop -> Ap4
open PyProof.Rows.IntsAre renaming length -> AqD
open PyProof.Rows.LCg renaming NsObj -> Hk
open PySem renaming Str -> Ac, Value -> Ad, Addr -> Af, wpAny_bind -> Aj, Shared -> Aq, wpAny_pure -> AD, Stmt -> AN, Obj -> AU, Heap -> Bb, World -> BK, Program -> CJ, Around -> CK, wpAny_holding -> Dp, mainGlobals -> El, DictEntry -> Em, CmpOp -> Fz, Flow -> FE, wpAny_standAt -> F8, sizeLine_eq -> F9, assignEach -> Ge, cellsFrom -> Gf, NameKind -> GJ, Result -> Hc, OsState -> Hd, Comprehension -> Hi, isSubtype -> Hj, Operator -> HV, compareOp -> JE, noteFrame -> JJ, Model -> KG, wpAny_call -> KI, isInstance -> KJ, wpAny_mono -> KL, assignInOrder -> KO, wpAny_execs_cons -> KQ, wpAny_field -> KR, importedModules -> Mc, ExceptHandler -> Mg, wpAny_Name -> Mj, GenState -> Oh, seqIndex? -> Ou, wpAny_newObj_type -> Oy, lastMarks -> OA, intKind_is -> OD, wpAny_setState_of -> OE, codeAny_builtin -> OG, wpAny_askSetting -> OH, wpAny_typeOf -> OI, wpAny_isInstance -> OJ, wpAny_setField -> OL, wpAny_execs_nil -> OP, interactive -> OQ, Arguments -> QN, wpAny_loadName_local -> QW, getMethod -> Rc, wpAny_ite_split -> Rf, wpAny_attempt -> Ri, treeTable -> UN, sysModules -> UZ, Keyword -> U3, plainId_quiet -> Vr, codeAny_call_builtin -> Vs, wpAny_call_entry -> Vu, swapsWith -> Vz, cameBackBy -> VA, setFlight -> VD, wpAny_loadPart -> VL, bootBuiltins -> Aa1, wpAny_truthy_bool -> Abq, newFields -> Abv, compareChain -> Abz, testChain -> AbA, wpAny_rule -> AbJ, codeAny_of_tree -> AbM, checkBuiltinCall -> AbN, codeAny_mono -> AbP, wpAny_pyIter_list -> AbR, typeLookup_type -> AbS, builtinLookup_eq_fast -> AbT, isSubtype_type -> AbU, pickOrder -> AbV, setsByText -> AbW, wpAny_mkText -> AbZ, letOwnedTupleGo -> Ab1, wpAny_load -> Ab2, wpAny_assign_Name -> Ab4, wpAny_storeName_local -> Ab5, comprehension -> Ab8, firstAsync -> Ab9, firstIter -> Aca, storeName -> Acb, foldedForSure -> Acd, constantsAlone -> Ace, swappedStores -> Acf, wpAny_Expr_any -> Acg, isExcClass -> Ach, arm_exec_Assign -> Aci, fenceModules? -> Aph, importedNames -> Api, arm_eval_UnaryOp -> ApJ, arm_eval_Attribute -> ApL, arm_eval_Slice -> ApM, methodCallForm -> ApR, methodCallPos -> ApS, wpAny_storeSet_of -> Ap2, entryFor_of_tree -> Ap6, entryFor_alias -> Ap7, wpAny_setEntries_of -> Ap9, wpAny_callSpecial?_slot -> Aqa, firstArgMember -> Aqb, wpAny_pyIter_slot -> Aqc, callGetattribute -> Aqg, boundAndCalled -> Aqh, getattributeRaised -> Aqi, sub_AttributeError -> Aqj, wpAny_pyIter_enum -> Aqn, wpAny_assign_Tuple -> Aqp, arm_assign_Attribute -> Aqr, wpAny_Return_some -> Aqs, recursionLimit -> Aqv, wpAny_loadPart_at -> AqB
open PySem.Around renaming under_plainId -> Rd, in1_units -> U9
open PySem.Bind renaming madeBy -> Aco, staticBase -> Aqy
open PySem.Builtin.Dict renaming updateFrom -> Aqk
open PySem.Builtin.List renaming listTooLong -> Abx, listLengthHint -> Aqd
open PySem.Builtin.Range renaming small -> AbB, rangeSize -> AbC
open PySem.Calls renaming Name_function_global -> Mk, loadGlobal_global -> QX, evalArgs_plain -> ApH, loadGlobal_builtin -> ApQ
open PySem.Code renaming builtin -> Vi, quiet_builtin -> AbO
open PySem.EntryCells renaming newEntry -> Aqw
open PySem.Expr.Attribute renaming elim -> Apv
open PySem.Expr.Call renaming elim -> Abb
open PySem.Expr.ListComp renaming elim -> Abh
open PySem.Expr.Name renaming elim -> Apu
open PySem.Expr.Slice renaming elim -> Apy
open PySem.Expr.Subscript renaming elim -> Apx
open PySem.Expr.Tuple renaming elim -> Abd
open PySem.F renaming slot_list_getattribute -> AbY, plain_set_new -> Ap5, slot_set_iter -> Aqe, attr_Exception -> AqC
open PySem.Heap renaming lt_size -> BE, get?_push_of_some -> Eo, get?_push_size -> JG, dictOf_iff -> Oq, get?_update_self -> OF, get?_update_other -> OM, size_push -> Rg, ExtBut -> Rk, SameBut -> Vq, push -> Aa2, get?_none_of_le -> Aql
open PySem.Heap.SameBut renaming update -> Ve
open PySem.Heap.UpToSlots renaming of_keeps -> Aqx
open PySem.Keeper renaming machine -> ApF, boundFrame -> ApG
open PySem.NameKind renaming free -> ES, cell -> Vx, globalImplicit -> ApO
open PySem.Obj renaming mapFields -> HW, data_mapFields -> Rj, isFreed_of_fields -> Vv, putSet -> AbK, cls_mapFields -> AbX
open PySem.PyData renaming keyHash -> Ml
open PySem.ScopeKind renaming function -> Aqq
open PySem.SeqAt renaming EqAt -> JD, RcAt -> U7, RcNeAt -> U8
open PySem.SeqAt.EqAt renaming of_refs -> ApC
open PySem.SetTable renaming insertAt -> FD, below -> OC, fill -> Vm, grown -> ApU, fits -> ApV, tooFull -> Ap3
open PySem.Shared renaming TypeIs -> AbQ
open PySem.Stmt.Assign renaming elim -> Abg
open PySem.Stmt.Expr renaming elim -> Abe
open PySem.Stmt.For renaming elim -> Acy
open PySem.Stmt.Return renaming elim -> Abf
open PySem.Stmt.Try renaming elim -> Apw
open PySem.Stmt.While renaming elim -> Acz
open PySem.Str renaming ofString -> Ab
open PySem.Value renaming ref -> CZ, type -> EO, builtin -> F5, none -> Gb, int -> Hn, isInt -> Vb, isStr -> Vc
open PySem.W renaming Frag -> Bk, Looks -> BR, boot_heap -> D7, SharedT -> ID, topRead_of -> II, TopRead -> Mi, kms_lo -> Ow, looks_mroIn -> OS, emptyDict -> OT, hasDictIn -> QO, namesMeet -> QS, kms_pick -> Ra, boot_drawn -> UP, boot_toks -> UQ, looksOpen -> US, keeps_K -> Vl, kts_self -> VJ, looks_clsIn -> VK, any_some -> VM, looks_findIn -> VN, noRoadLSs -> Aa3, builtinNamed -> Aa4, kda_dict -> Abu, of_hideAll -> Acn, check_slot -> Acq, news_upd -> Acr, looks_subIn -> Acs, kms_slice_lit -> ApE, method_of_cls -> ApT
open PySem.W.Fast renaming tw6613529449190102663 -> Apd, tw10156331382660048174 -> Ape, tw11892475500146522536 -> Apf, tw14364793385576792824 -> Apg
open PySem.W.InstAt renaming of_news -> Abs
open PySem.W.Looks renaming ld -> Mq, of_pure -> Vk
open PySem.callAny renaming viaDunder -> Aqz
open PySem.pickOrder renaming go -> Vt
variable {x0 x1 x2 n a i x3 x4 x5 d acc:Nat}{α β A B δ γ:Type}{v:Ad}{vs ws:List Ad}{s:Aq}{x xn name cn:Ac}{o ob' o' oC oe:AU}{pos p1 p3 apos p5 p4:Pos}{es ifs:List Expr}{E Q:Ad->Aq->Prop}{b:Bool}{e target elt value iter:Expr}{K:Bk}{D:Af->Prop}{C I:Af}{t:Sem Ad}{h':Bb}{is:List Int}{post:List (Af×AU)}{scope:Scope}{op:Fz}{xs:List Ac}{ps kvs:List (Int×Ad)}{env cenv:Env}{R:Hc->Aq->Prop}{fs us ρ0 ys:List Nat}{w:BK}{ops:List Fz}{u:Unit}{items:Array Ad}{m₀:Ac->Option Ad}{body:List AN}{Z:Nat->Prop}
theorem Au{A0 A1:Prop}{R:Prop}(h:A0/\A1)(k:A0->A1->R):R:=k h.1 h.2
theorem C6{A0 A1 A2:Prop}{R:Prop}(h:A0/\A1/\A2)(k:A0->A1->A2->R):R:=k h.1 h.2.1 h.2.2
theorem VU{A0 A1 A2 A3:Prop}{R:Prop}(h:A0/\A1/\A2/\A3)(k:A0->A1->A2->A3->R):R:=k h.1 h.2.1 h.2.2.1 h.2.2.2
theorem VV{A0 A1 A2 A3 A4:Prop}{R:Prop}(h:A0/\A1/\A2/\A3/\A4)(k:A0->A1->A2->A3->A4->R):R:=k h.1 h.2.1 h.2.2.1 h.2.2.2.1 h.2.2.2.2
theorem Q06{A0 A1 A2 A3 A4 A5:Prop}{R:Prop}(h:A0/\A1/\A2/\A3/\A4/\A5)(k:A0->A1->A2->A3->A4->A5->R):R:=k h.1 h.2.1 h.2.2.1 h.2.2.2.1 h.2.2.2.2.1 h.2.2.2.2.2
theorem VW{A0 A1 A2 A3 A4 A5 A6 A7:Prop}{R:Prop}(h:A0/\A1/\A2/\A3/\A4/\A5/\A6/\A7)(k:A0->A1->A2->A3->A4->A5->A6->A7->R):R:=k h.1 h.2.1 h.2.2.1 h.2.2.2.1 h.2.2.2.2.1 h.2.2.2.2.2.1 h.2.2.2.2.2.2.1 h.2.2.2.2.2.2.2
theorem AK{α0:Sort _}{A0:α0->Prop}{R:Prop}(h:∃x0,A0 x0)(k:∀x0,A0 x0->R):R:=h.elim λx0 h=>k x0 h
theorem Ah{α0:Sort _}{A0 A1:α0->Prop}{R:Prop}(h:∃x0,A0 x0/\A1 x0)(k:∀x0,A0 x0->A1 x0->R):R:=h.elim λx0 h=>k x0 h.1 h.2
theorem AG{α0:Sort _}{A0 A1 A2:α0->Prop}{R:Prop}(h:∃x0,A0 x0/\A1 x0/\A2 x0)(k:∀x0,A0 x0->A1 x0->A2 x0->R):R:=h.elim λx0 h=>k x0 h.1 h.2.1 h.2.2
theorem BS{α0:Sort _}{A0 A1 A2 A3:α0->Prop}{R:Prop}(h:∃x0,A0 x0/\A1 x0/\A2 x0/\A3 x0)(k:∀x0,A0 x0->A1 x0->A2 x0->A3 x0->R):R:=h.elim λx0 h=>k x0 h.1 h.2.1 h.2.2.1 h.2.2.2
theorem IL{α0:Sort _}{A0 A1 A2 A3 A4:α0->Prop}{R:Prop}(h:∃x0,A0 x0/\A1 x0/\A2 x0/\A3 x0/\A4 x0)(k:∀x0,A0 x0->A1 x0->A2 x0->A3 x0->A4 x0->R):R:=h.elim λx0 h=>k x0 h.1 h.2.1 h.2.2.1 h.2.2.2.1 h.2.2.2.2
theorem HY{α0 α1:Sort _}{A0:α0->α1->Prop}{R:Prop}(h:∃x0 x1,A0 x0 x1)(k:∀x0 x1,A0 x0 x1->R):R:=h.elim λx0 h=>h.elim λx1 h=>k x0 x1 h
theorem Bg{α0 α1:Sort _}{A0 A1:α0->α1->Prop}{R:Prop}(h:∃x0 x1,A0 x0 x1/\A1 x0 x1)(k:∀x0 x1,A0 x0 x1->A1 x0 x1->R):R:=h.elim λx0 h=>h.elim λx1 h=>k x0 x1 h.1 h.2
theorem Br{α0 α1:Sort _}{A0 A1 A2:α0->α1->Prop}{R:Prop}(h:∃x0 x1,A0 x0 x1/\A1 x0 x1/\A2 x0 x1)(k:∀x0 x1,A0 x0 x1->A1 x0 x1->A2 x0 x1->R):R:=h.elim λx0 h=>h.elim λx1 h=>k x0 x1 h.1 h.2.1 h.2.2
theorem Cq{α0 α1:Sort _}{A0 A1 A2 A3:α0->α1->Prop}{R:Prop}(h:∃x0 x1,A0 x0 x1/\A1 x0 x1/\A2 x0 x1/\A3 x0 x1)(k:∀x0 x1,A0 x0 x1->A1 x0 x1->A2 x0 x1->A3 x0 x1->R):R:=h.elim λx0 h=>h.elim λx1 h=>k x0 x1 h.1 h.2.1 h.2.2.1 h.2.2.2
theorem JM{α0 α1:Sort _}{A0 A1 A2 A3 A4:α0->α1->Prop}{R:Prop}(h:∃x0 x1,A0 x0 x1/\A1 x0 x1/\A2 x0 x1/\A3 x0 x1/\A4 x0 x1)(k:∀x0 x1,A0 x0 x1->A1 x0 x1->A2 x0 x1->A3 x0 x1->A4 x0 x1->R):R:=h.elim λx0 h=>h.elim λx1 h=>k x0 x1 h.1 h.2.1 h.2.2.1 h.2.2.2.1 h.2.2.2.2
theorem Q26{α0 α1:Sort _}{A0 A1 A2 A3 A4 A5:α0->α1->Prop}{R:Prop}(h:∃x0 x1,A0 x0 x1/\A1 x0 x1/\A2 x0 x1/\A3 x0 x1/\A4 x0 x1/\A5 x0 x1)(k:∀x0 x1,A0 x0 x1->A1 x0 x1->A2 x0 x1->A3 x0 x1->A4 x0 x1->A5 x0 x1->R):R:=h.elim λx0 h=>h.elim λx1 h=>k x0 x1 h.1 h.2.1 h.2.2.1 h.2.2.2.1 h.2.2.2.2.1 h.2.2.2.2.2
theorem KU{α0 α1:Sort _}{A0 A1 A2 A3 A4 A5 A6:α0->α1->Prop}{R:Prop}(h:∃x0 x1,A0 x0 x1/\A1 x0 x1/\A2 x0 x1/\A3 x0 x1/\A4 x0 x1/\A5 x0 x1/\A6 x0 x1)(k:∀x0 x1,A0 x0 x1->A1 x0 x1->A2 x0 x1->A3 x0 x1->A4 x0 x1->A5 x0 x1->A6 x0 x1->R):R:=h.elim λx0 h=>h.elim λx1 h=>k x0 x1 h.1 h.2.1 h.2.2.1 h.2.2.2.1 h.2.2.2.2.1 h.2.2.2.2.2.1 h.2.2.2.2.2.2
theorem Q31{α0 α1 α2:Sort _}{A0:α0->α1->α2->Prop}{R:Prop}(h:∃x0 x1 x2,A0 x0 x1 x2)(k:∀x0 x1 x2,A0 x0 x1 x2->R):R:=h.elim λx0 h=>h.elim λx1 h=>h.elim λx2 h=>k x0 x1 x2 h
theorem Ep{α0 α1 α2:Sort _}{A0 A1:α0->α1->α2->Prop}{R:Prop}(h:∃x0 x1 x2,A0 x0 x1 x2/\A1 x0 x1 x2)(k:∀x0 x1 x2,A0 x0 x1 x2->A1 x0 x1 x2->R):R:=h.elim λx0 h=>h.elim λx1 h=>h.elim λx2 h=>k x0 x1 x2 h.1 h.2
theorem CP{α0 α1 α2:Sort _}{A0 A1 A2:α0->α1->α2->Prop}{R:Prop}(h:∃x0 x1 x2,A0 x0 x1 x2/\A1 x0 x1 x2/\A2 x0 x1 x2)(k:∀x0 x1 x2,A0 x0 x1 x2->A1 x0 x1 x2->A2 x0 x1 x2->R):R:=h.elim λx0 h=>h.elim λx1 h=>h.elim λx2 h=>k x0 x1 x2 h.1 h.2.1 h.2.2
theorem Fd{α0 α1 α2:Sort _}{A0 A1 A2 A3:α0->α1->α2->Prop}{R:Prop}(h:∃x0 x1 x2,A0 x0 x1 x2/\A1 x0 x1 x2/\A2 x0 x1 x2/\A3 x0 x1 x2)(k:∀x0 x1 x2,A0 x0 x1 x2->A1 x0 x1 x2->A2 x0 x1 x2->A3 x0 x1 x2->R):R:=h.elim λx0 h=>h.elim λx1 h=>h.elim λx2 h=>k x0 x1 x2 h.1 h.2.1 h.2.2.1 h.2.2.2
theorem VX{α0 α1 α2:Sort _}{A0 A1 A2 A3 A4:α0->α1->α2->Prop}{R:Prop}(h:∃x0 x1 x2,A0 x0 x1 x2/\A1 x0 x1 x2/\A2 x0 x1 x2/\A3 x0 x1 x2/\A4 x0 x1 x2)(k:∀x0 x1 x2,A0 x0 x1 x2->A1 x0 x1 x2->A2 x0 x1 x2->A3 x0 x1 x2->A4 x0 x1 x2->R):R:=h.elim λx0 h=>h.elim λx1 h=>h.elim λx2 h=>k x0 x1 x2 h.1 h.2.1 h.2.2.1 h.2.2.2.1 h.2.2.2.2
theorem VY{α0 α1 α2:Sort _}{A0 A1 A2 A3 A4 A5:α0->α1->α2->Prop}{R:Prop}(h:∃x0 x1 x2,A0 x0 x1 x2/\A1 x0 x1 x2/\A2 x0 x1 x2/\A3 x0 x1 x2/\A4 x0 x1 x2/\A5 x0 x1 x2)(k:∀x0 x1 x2,A0 x0 x1 x2->A1 x0 x1 x2->A2 x0 x1 x2->A3 x0 x1 x2->A4 x0 x1 x2->A5 x0 x1 x2->R):R:=h.elim λx0 h=>h.elim λx1 h=>h.elim λx2 h=>k x0 x1 x2 h.1 h.2.1 h.2.2.1 h.2.2.2.1 h.2.2.2.2.1 h.2.2.2.2.2
theorem KV{α0 α1 α2:Sort _}{A0 A1 A2 A3 A4 A5 A6:α0->α1->α2->Prop}{R:Prop}(h:∃x0 x1 x2,A0 x0 x1 x2/\A1 x0 x1 x2/\A2 x0 x1 x2/\A3 x0 x1 x2/\A4 x0 x1 x2/\A5 x0 x1 x2/\A6 x0 x1 x2)(k:∀x0 x1 x2,A0 x0 x1 x2->A1 x0 x1 x2->A2 x0 x1 x2->A3 x0 x1 x2->A4 x0 x1 x2->A5 x0 x1 x2->A6 x0 x1 x2->R):R:=h.elim λx0 h=>h.elim λx1 h=>h.elim λx2 h=>k x0 x1 x2 h.1 h.2.1 h.2.2.1 h.2.2.2.1 h.2.2.2.2.1 h.2.2.2.2.2.1 h.2.2.2.2.2.2
theorem Q38{α0 α1 α2:Sort _}{A0 A1 A2 A3 A4 A5 A6 A7:α0->α1->α2->Prop}{R:Prop}(h:∃x0 x1 x2,A0 x0 x1 x2/\A1 x0 x1 x2/\A2 x0 x1 x2/\A3 x0 x1 x2/\A4 x0 x1 x2/\A5 x0 x1 x2/\A6 x0 x1 x2/\A7 x0 x1 x2)(k:∀x0 x1 x2,A0 x0 x1 x2->A1 x0 x1 x2->A2 x0 x1 x2->A3 x0 x1 x2->A4 x0 x1 x2->A5 x0 x1 x2->A6 x0 x1 x2->A7 x0 x1 x2->R):R:=h.elim λx0 h=>h.elim λx1 h=>h.elim λx2 h=>k x0 x1 x2 h.1 h.2.1 h.2.2.1 h.2.2.2.1 h.2.2.2.2.1 h.2.2.2.2.2.1 h.2.2.2.2.2.2.1 h.2.2.2.2.2.2.2
theorem Q41{α0 α1 α2 α3:Sort _}{A0:α0->α1->α2->α3->Prop}{R:Prop}(h:∃x0 x1 x2 x3,A0 x0 x1 x2 x3)(k:∀x0 x1 x2 x3,A0 x0 x1 x2 x3->R):R:=h.elim λx0 h=>h.elim λx1 h=>h.elim λx2 h=>h.elim λx3 h=>k x0 x1 x2 x3 h
theorem VZ{α0 α1 α2 α3:Sort _}{A0 A1 A2:α0->α1->α2->α3->Prop}{R:Prop}(h:∃x0 x1 x2 x3,A0 x0 x1 x2 x3/\A1 x0 x1 x2 x3/\A2 x0 x1 x2 x3)(k:∀x0 x1 x2 x3,A0 x0 x1 x2 x3->A1 x0 x1 x2 x3->A2 x0 x1 x2 x3->R):R:=h.elim λx0 h=>h.elim λx1 h=>h.elim λx2 h=>h.elim λx3 h=>k x0 x1 x2 x3 h.1 h.2.1 h.2.2
theorem Q44{α0 α1 α2 α3:Sort _}{A0 A1 A2 A3:α0->α1->α2->α3->Prop}{R:Prop}(h:∃x0 x1 x2 x3,A0 x0 x1 x2 x3/\A1 x0 x1 x2 x3/\A2 x0 x1 x2 x3/\A3 x0 x1 x2 x3)(k:∀x0 x1 x2 x3,A0 x0 x1 x2 x3->A1 x0 x1 x2 x3->A2 x0 x1 x2 x3->A3 x0 x1 x2 x3->R):R:=h.elim λx0 h=>h.elim λx1 h=>h.elim λx2 h=>h.elim λx3 h=>k x0 x1 x2 x3 h.1 h.2.1 h.2.2.1 h.2.2.2
theorem OX{α0 α1 α2 α3:Sort _}{A0 A1 A2 A3 A4 A5:α0->α1->α2->α3->Prop}{R:Prop}(h:∃x0 x1 x2 x3,A0 x0 x1 x2 x3/\A1 x0 x1 x2 x3/\A2 x0 x1 x2 x3/\A3 x0 x1 x2 x3/\A4 x0 x1 x2 x3/\A5 x0 x1 x2 x3)(k:∀x0 x1 x2 x3,A0 x0 x1 x2 x3->A1 x0 x1 x2 x3->A2 x0 x1 x2 x3->A3 x0 x1 x2 x3->A4 x0 x1 x2 x3->A5 x0 x1 x2 x3->R):R:=h.elim λx0 h=>h.elim λx1 h=>h.elim λx2 h=>h.elim λx3 h=>k x0 x1 x2 x3 h.1 h.2.1 h.2.2.1 h.2.2.2.1 h.2.2.2.2.1 h.2.2.2.2.2
theorem Q47{α0 α1 α2 α3:Sort _}{A0 A1 A2 A3 A4 A5 A6:α0->α1->α2->α3->Prop}{R:Prop}(h:∃x0 x1 x2 x3,A0 x0 x1 x2 x3/\A1 x0 x1 x2 x3/\A2 x0 x1 x2 x3/\A3 x0 x1 x2 x3/\A4 x0 x1 x2 x3/\A5 x0 x1 x2 x3/\A6 x0 x1 x2 x3)(k:∀x0 x1 x2 x3,A0 x0 x1 x2 x3->A1 x0 x1 x2 x3->A2 x0 x1 x2 x3->A3 x0 x1 x2 x3->A4 x0 x1 x2 x3->A5 x0 x1 x2 x3->A6 x0 x1 x2 x3->R):R:=h.elim λx0 h=>h.elim λx1 h=>h.elim λx2 h=>h.elim λx3 h=>k x0 x1 x2 x3 h.1 h.2.1 h.2.2.1 h.2.2.2.1 h.2.2.2.2.1 h.2.2.2.2.2.1 h.2.2.2.2.2.2
theorem V0{α0 α1 α2 α3 α4:Sort _}{A0:α0->α1->α2->α3->α4->Prop}{R:Prop}(h:∃x0 x1 x2 x3 x4,A0 x0 x1 x2 x3 x4)(k:∀x0 x1 x2 x3 x4,A0 x0 x1 x2 x3 x4->R):R:=h.elim λx0 h=>h.elim λx1 h=>h.elim λx2 h=>h.elim λx3 h=>h.elim λx4 h=>k x0 x1 x2 x3 x4 h
theorem OY{α0 α1 α2 α3 α4:Sort _}{A0 A1 A2:α0->α1->α2->α3->α4->Prop}{R:Prop}(h:∃x0 x1 x2 x3 x4,A0 x0 x1 x2 x3 x4/\A1 x0 x1 x2 x3 x4/\A2 x0 x1 x2 x3 x4)(k:∀x0 x1 x2 x3 x4,A0 x0 x1 x2 x3 x4->A1 x0 x1 x2 x3 x4->A2 x0 x1 x2 x3 x4->R):R:=h.elim λx0 h=>h.elim λx1 h=>h.elim λx2 h=>h.elim λx3 h=>h.elim λx4 h=>k x0 x1 x2 x3 x4 h.1 h.2.1 h.2.2
theorem V1{α0 α1 α2 α3 α4:Sort _}{A0 A1 A2 A3:α0->α1->α2->α3->α4->Prop}{R:Prop}(h:∃x0 x1 x2 x3 x4,A0 x0 x1 x2 x3 x4/\A1 x0 x1 x2 x3 x4/\A2 x0 x1 x2 x3 x4/\A3 x0 x1 x2 x3 x4)(k:∀x0 x1 x2 x3 x4,A0 x0 x1 x2 x3 x4->A1 x0 x1 x2 x3 x4->A2 x0 x1 x2 x3 x4->A3 x0 x1 x2 x3 x4->R):R:=h.elim λx0 h=>h.elim λx1 h=>h.elim λx2 h=>h.elim λx3 h=>h.elim λx4 h=>k x0 x1 x2 x3 x4 h.1 h.2.1 h.2.2.1 h.2.2.2
theorem Rw{α0 α1 α2 α3 α4:Sort _}{A0 A1 A2 A3 A4:α0->α1->α2->α3->α4->Prop}{R:Prop}(h:∃x0 x1 x2 x3 x4,A0 x0 x1 x2 x3 x4/\A1 x0 x1 x2 x3 x4/\A2 x0 x1 x2 x3 x4/\A3 x0 x1 x2 x3 x4/\A4 x0 x1 x2 x3 x4)(k:∀x0 x1 x2 x3 x4,A0 x0 x1 x2 x3 x4->A1 x0 x1 x2 x3 x4->A2 x0 x1 x2 x3 x4->A3 x0 x1 x2 x3 x4->A4 x0 x1 x2 x3 x4->R):R:=h.elim λx0 h=>h.elim λx1 h=>h.elim λx2 h=>h.elim λx3 h=>h.elim λx4 h=>k x0 x1 x2 x3 x4 h.1 h.2.1 h.2.2.1 h.2.2.2.1 h.2.2.2.2
theorem Q57{α0 α1 α2 α3 α4:Sort _}{A0 A1 A2 A3 A4 A5 A6:α0->α1->α2->α3->α4->Prop}{R:Prop}(h:∃x0 x1 x2 x3 x4,A0 x0 x1 x2 x3 x4/\A1 x0 x1 x2 x3 x4/\A2 x0 x1 x2 x3 x4/\A3 x0 x1 x2 x3 x4/\A4 x0 x1 x2 x3 x4/\A5 x0 x1 x2 x3 x4/\A6 x0 x1 x2 x3 x4)(k:∀x0 x1 x2 x3 x4,A0 x0 x1 x2 x3 x4->A1 x0 x1 x2 x3 x4->A2 x0 x1 x2 x3 x4->A3 x0 x1 x2 x3 x4->A4 x0 x1 x2 x3 x4->A5 x0 x1 x2 x3 x4->A6 x0 x1 x2 x3 x4->R):R:=h.elim λx0 h=>h.elim λx1 h=>h.elim λx2 h=>h.elim λx3 h=>h.elim λx4 h=>k x0 x1 x2 x3 x4 h.1 h.2.1 h.2.2.1 h.2.2.2.1 h.2.2.2.2.1 h.2.2.2.2.2.1 h.2.2.2.2.2.2
theorem Rx{α0 α1 α2 α3 α4:Sort _}{A0 A1 A2 A3 A4 A5 A6 A7:α0->α1->α2->α3->α4->Prop}{R:Prop}(h:∃x0 x1 x2 x3 x4,A0 x0 x1 x2 x3 x4/\A1 x0 x1 x2 x3 x4/\A2 x0 x1 x2 x3 x4/\A3 x0 x1 x2 x3 x4/\A4 x0 x1 x2 x3 x4/\A5 x0 x1 x2 x3 x4/\A6 x0 x1 x2 x3 x4/\A7 x0 x1 x2 x3 x4)(k:∀x0 x1 x2 x3 x4,A0 x0 x1 x2 x3 x4->A1 x0 x1 x2 x3 x4->A2 x0 x1 x2 x3 x4->A3 x0 x1 x2 x3 x4->A4 x0 x1 x2 x3 x4->A5 x0 x1 x2 x3 x4->A6 x0 x1 x2 x3 x4->A7 x0 x1 x2 x3 x4->R):R:=h.elim λx0 h=>h.elim λx1 h=>h.elim λx2 h=>h.elim λx3 h=>h.elim λx4 h=>k x0 x1 x2 x3 x4 h.1 h.2.1 h.2.2.1 h.2.2.2.1 h.2.2.2.2.1 h.2.2.2.2.2.1 h.2.2.2.2.2.2.1 h.2.2.2.2.2.2.2
theorem V3{α0 α1 α2 α3 α4 α5:Sort _}{A0 A1:α0->α1->α2->α3->α4->α5->Prop}{R:Prop}(h:∃x0 x1 x2 x3 x4 x5,A0 x0 x1 x2 x3 x4 x5/\A1 x0 x1 x2 x3 x4 x5)(k:∀x0 x1 x2 x3 x4 x5,A0 x0 x1 x2 x3 x4 x5->A1 x0 x1 x2 x3 x4 x5->R):R:=h.elim λx0 h=>h.elim λx1 h=>h.elim λx2 h=>h.elim λx3 h=>h.elim λx4 h=>h.elim λx5 h=>k x0 x1 x2 x3 x4 x5 h.1 h.2
theorem Q68{α0 α1 α2 α3 α4 α5:Sort _}{A0 A1 A2 A3 A4 A5 A6 A7:α0->α1->α2->α3->α4->α5->Prop}{R:Prop}(h:∃x0 x1 x2 x3 x4 x5,A0 x0 x1 x2 x3 x4 x5/\A1 x0 x1 x2 x3 x4 x5/\A2 x0 x1 x2 x3 x4 x5/\A3 x0 x1 x2 x3 x4 x5/\A4 x0 x1 x2 x3 x4 x5/\A5 x0 x1 x2 x3 x4 x5/\A6 x0 x1 x2 x3 x4 x5/\A7 x0 x1 x2 x3 x4 x5)(k:∀x0 x1 x2 x3 x4 x5,A0 x0 x1 x2 x3 x4 x5->A1 x0 x1 x2 x3 x4 x5->A2 x0 x1 x2 x3 x4 x5->A3 x0 x1 x2 x3 x4 x5->A4 x0 x1 x2 x3 x4 x5->A5 x0 x1 x2 x3 x4 x5->A6 x0 x1 x2 x3 x4 x5->A7 x0 x1 x2 x3 x4 x5->R):R:=h.elim λx0 h=>h.elim λx1 h=>h.elim λx2 h=>h.elim λx3 h=>h.elim λx4 h=>h.elim λx5 h=>k x0 x1 x2 x3 x4 x5 h.1 h.2.1 h.2.2.1 h.2.2.2.1 h.2.2.2.2.1 h.2.2.2.2.2.1 h.2.2.2.2.2.2.1 h.2.2.2.2.2.2.2
theorem V4{α0 α1 α2 α3 α4 α5 α6:Sort _}{A0:α0->α1->α2->α3->α4->α5->α6->Prop}{R:Prop}(h:∃x0 x1 x2 x3 x4 x5 x6,A0 x0 x1 x2 x3 x4 x5 x6)(k:∀x0 x1 x2 x3 x4 x5 x6,A0 x0 x1 x2 x3 x4 x5 x6->R):R:=h.elim λx0 h=>h.elim λx1 h=>h.elim λx2 h=>h.elim λx3 h=>h.elim λx4 h=>h.elim λx5 h=>h.elim λx6 h=>k x0 x1 x2 x3 x4 x5 x6 h

noncomputable abbrev ob(x:Option α)(f:α->Option β):Option β:=match x with
 | some a=>f a
 | none=>none
inductive Bd where
 | int (i:Int)
 | ref (a:Af)
structure C0 where
 name:Ac
 qual:Ac
 params:QN
 body:List AN
 scope:Scope
noncomputable def Mu(K:Bk)(C:Af)(x:Ac):Bool:=plainGet K C x && QO K C && (findIn K (.ref C) x == some none)
noncomputable def Ry(K:Bk)(C:Af)(x:Ac):Bool:=plainOver K C && (takerIn K C x == some none) && (clsIn K C).any (·.hasDict) && (findIn K (.ref C) "__setattr__" == some (some (.builtin "object.__setattr__")))
noncomputable def Rz(K:Bk)(C:Af)(x:Ac)(f:Af):Bool:=plainGet K C x && (findIn K (.ref C) x == some (some (.ref f))) && isFn K (.ref f) && keepIn K (.ref f)
noncomputable def RA(K:Bk)(C f:Af):Bool:=makesIn K C && (findIn K (.ref C) "__init__" == some (some (.ref f))) && isFn K (.ref f)
noncomputable def IM(K:Bk)(C:Af)(x:Ac)(f:Af):Bool:=(specialIn K (.ref C) "__getattribute__" == some (some (.builtin "type.__getattribute__"))) && keepIn K (.ref f) && (match typeIn K (.ref C)with
 | some mc=>readsIn K C mc && (match findCls K (.ref C) mc x with | some (.val v)=>v == .ref f | _=>false)
 | none=>false)
noncomputable def Gh:List (Ac×Bd):=[(Ab "I32",Bd.int (-1)),(Ab "I64",Bd.int (-2)),(Ab "FUNCREF",Bd.int (-16)),(Ab "EXTERNREF",Bd.int (-17)),(Ab "EMPTY",Bd.int (-64)),(Ab "FUNCTION_kinds",Bd.int (0)),(Ab "TABLE",Bd.int (1)),(Ab "MEMORY",Bd.int (2)),(Ab "GLOBAL",Bd.int (3)),(Ab "BLOCK",Bd.int (2)),(Ab "LOOP",Bd.int (3)),(Ab "IF",Bd.int (4)),(Ab "ELSE",Bd.int (5)),(Ab "CALL",Bd.int (16)),(Ab "CALL_INDIRECT",Bd.int (17)),(Ab "RETURN_CALL",Bd.int (18)),(Ab "RETURN_CALL_INDIRECT",Bd.int (19)),(Ab "REF_FUNC",Bd.int (210)),(Ab "UNKNOWN",Bd.int (0)),(Ab "FUNCTION_stackcheck",Bd.int (-1)),(Ab "ACTIVE",Bd.int (1)),(Ab "is_block",Bd.ref 115),(Ab "Invalid",Bd.ref 152),(Ab "Block",Bd.ref 185),(Ab "StackCheck",Bd.ref 381),(Ab "Scope",Bd.ref 411),(Ab "Checker",Bd.ref 523),(Ab "checker_of",Bd.ref 532),(Ab "check_function",Bd.ref 539),(Ab "Import",Bd.ref 563),(Ab "Func",Bd.ref 591),(Ab "Global",Bd.ref 619),(Ab "Elem",Bd.ref 645),(Ab "Data",Bd.ref 673),(Ab "Custom",Bd.ref 701),(Ab "Module",Bd.ref 810),(Ab "parts_of",Bd.ref 819),(Ab "copied_body",Bd.ref 826),(Ab "copied_elem",Bd.ref 831),(Ab "note_functions",Bd.ref 838),(Ab "declared_functions",Bd.ref 845),(Ab "scope_of",Bd.ref 850),(Ab "functions_in",Bd.ref 855),(Ab "used_functions",Bd.ref 860),(Ab "kinds_in",Bd.ref 867),(Ab "Numbers",Bd.ref 908),(Ab "without_unused",Bd.ref 917),(Ab "_law_cell",Bd.ref 924),(Ab "_law_digit",Bd.ref 931),(Ab "_law_deed",Bd.ref 938),(Ab "_law_reference",Bd.ref 945),(Ab "_law_imports",Bd.ref 952),(Ab "_law_module",Bd.ref 957),(Ab "_law_closed",Bd.ref 962),(Ab "_law_renamed",Bd.ref 967),(Ab "_law_checked",Bd.ref 974),(Ab "_law_due",Bd.ref 981),(Ab "_law_fields",Bd.ref 988),(Ab "law",Bd.ref 993)]
noncomputable def EU:List (Ac×Ad):=[(Ab "len",F5 "len"),(Ab "list",EO "list"),(Ab "tuple",EO "tuple"),(Ab "sorted",F5 "sorted"),(Ab "min",F5 "min"),(Ab "str",EO "str"),(Ab "range",EO "range"),(Ab "enumerate",EO "enumerate"),(Ab "set",EO "set"),(Ab "dict",EO "dict")]
noncomputable def KW:List (Af×List Ac):=[(810,[Ab "kinds",Ab "imports",Ab "funcs",Ab "tables",Ab "memories",Ab "globals",Ab "exports",Ab "start",Ab "elems",Ab "datas",Ab "customs"]),(563,[Ab "place",Ab "name",Ab "sort",Ab "about"]),(591,[Ab "kind",Ab "locals",Ab "body"]),(619,[Ab "kind",Ab "mutable",Ab "body"]),(645,[Ab "mode",Ab "table",Ab "offset",Ab "kind",Ab "inits"]),(411,[Ab "kinds",Ab "funcs",Ab "tables",Ab "memories",Ab "globals",Ab "elems",Ab "datas",Ab "declared"]),(908,[Ab "many",Ab "kept",Ab "funcs",Ab "kinds",Ab "rows"]),(523,[Ab "kinds",Ab "funcs",Ab "function",Ab "locals",Ab "results",Ab "values",Ab "blocks",Ab "at",Ab "scope"]),(185,[Ab "code",Ab "params",Ab "results",Ab "height",Ab "is_dead",Ab "is_buried"])]
noncomputable def HZ:List (Af×List (Ac×Af)):=[(523,[(Ab "fail",210),(Ab "push",217),(Ab "pop_any",231),(Ab "pop_all",245),(Ab "close",259),(Ab "end",350),(Ab "local",371),(Ab "func_at",294),(Ab "type_at",287),(Ab "check",308),(Ab "step",315),(Ab "control",336),(Ab "more",471),(Ab "reference",506)]),(563,[(Ab "plain",560)]),(591,[(Ab "plain",588)]),(619,[(Ab "plain",616)]),(645,[(Ab "plain",642)]),(810,[(Ab "imported",726),(Ab "abouts",731),(Ab "func_kinds",736),(Ab "table_kinds",743),(Ab "memory_kinds",750),(Ab "global_kinds",755),(Ab "plain",790),(Ab "copy",807)]),(908,[(Ab "body",886),(Ab "imported",893),(Ab "elem",898),(Ab "export",905)])]
noncomputable def GK:List (Af×Af):=[(185,175),(411,408),(523,429),(563,553),(591,581),(619,609),(645,637),(673,663),(701,691),(810,719),(908,879)]
noncomputable def KY:List (Af×List (Ac×Af)):=[(381,[(Ab "__init__",203)])]
noncomputable def V5(K:Bk)(p:Ac×Bd):Bool:=match nsIn K El p.1,p.2 with
 | some (some (.int i _)),.int j=>i == j
 | some (some (.ref a)),.ref b=>a == b && keepIn K (.ref b)
 | _,_=>false
noncomputable def OZ(K:Bk)(p:Ac×Ad):Bool:=nsIn K El p.1 == some none && Aa1 p.1 == some p.2 && !(p.1 == "__name__") && (match p.2 with | .builtin _=>true | .type _=>true | _=>false)
noncomputable def V6(K:Bk)(p:Af×List Ac):Bool:=p.2.all λx=>Mu K p.1 x && Ry K p.1 x
noncomputable def V7(K:Bk)(p:Af×List (Ac×Af)):Bool:=p.2.all λq=>Rz K p.1 q.1 q.2
noncomputable def V8(K:Bk)(p:Af×Af):Bool:=RA K p.1 p.2
noncomputable def V9(K:Bk)(p:Af×List (Ac×Af)):Bool:=p.2.all λq=>IM K p.1 q.1 q.2
noncomputable def Er(K:Bk)(f:Af):Option C0:=match K.lookup f with
 | some ⟨_,_,.func fd,_⟩=>(match fd.body with
  | .stmts b=>if(fd.globals == El && fd.closure.isEmpty && fd.defaults == .none && fd.builtins == builtinsNs && codeIn K fd.code fd.qualname)=true then some ⟨fd.name,fd.qualname,fd.params,b,fd.scope⟩else none
  | _=>none)
 | _=>none
section
set_option maxHeartbeats 1000000
open Builtin Builtin.ObjectAttr Builtin.Getset_descriptor
noncomputable def IP(K:Bk)(C:Af):Bool:=match K.lookup C with
 | some ⟨_,_,.cls cd,sl⟩ => !cd.abstract && !cd.hasDel && (sl.toList[4]?).join == some (.builtin "Exception.__new__") && !cd.mro.isEmpty && cd.mro.contains (.ref C) && cd.mro.contains (.type "Exception") && !cd.mro.contains (.type "AttributeError") && !cd.mro.contains (.type "NameError") && cd.mro.contains (.type "BaseException") &&
   specialIn K (.ref C) "__call__" == some (some (.builtin "type.__call__")) && instIn K (.ref C) (.type "type") == some true
 | _=>false
end
section
set_option maxHeartbeats 1000000
open Builtin Builtin.ObjectAttr Builtin.Getset_descriptor
noncomputable def O0:List Ad->Bool
 | .ref _::r=>O0 r
 | l=>l == [.type "Exception",.type "BaseException",.type "object"]
noncomputable def O1(K:Bk)(C:Af):Bool:=(clsIn K C).any λcd=>O0 cd.mro && cd.hasDict
end
section
set_option maxHeartbeats 1000000
open Builtin Builtin.ObjectAttr Builtin.Getset_descriptor
noncomputable def IQ(K:Bk)(C:Af)(x:Ac):Bool:=(findIn K (.ref C) "__setattr__" == some (some (.builtin "object.__setattr__"))) && O1 K C && (takerIn K C x == some none)
end
noncomputable def IS(p:CJ)(w:BK)(n₀:Nat)(ann:Option Ad):Nat->ID->Thread->Option ID
 | 0,_,_=>none
 | n+1,s,t=>match through t with
  | true=>some s
  | false=>match Apd n₀ ann t with
   | false=>none
   | true=>match Ape (Apf Apg) p w s t with
    | some x=>IS p w n₀ ann n x.1 x.2
    | none=>none
theorem AcF:∀(p:CJ) (w:BK) (n₀:Nat) (ann:Option Ad) (x:ID) (x_1:Thread) (n:Nat),IS p w n₀ ann n.succ x x_1=match through x_1 with | true=>some x | false=>match Apd n₀ ann x_1 with | false=>none | true=>match Ape (Apf Apg) p w x x_1 with | some x=>IS p w n₀ ann n x.fst x.snd | none=>none:=by intros;rfl
theorem AcG{p:CJ}{n₀:Nat}{ann:Option Ad}:∀(n:Nat) (s:ID) (t:Thread) (s':ID),IS p w n₀ ann n s t=some s'->topRun UN p w n₀ ann n s.abs t=some s'.abs:=by
 intro z1
 induction z1 with
 | zero =>
  intro z2 z3 z4 h;exfalso;injection h
 | succ n ih =>
  intro s t s' h;rw[AcF]at h;unfold topRun;rcases ht:through t with _ | _
  ·rw[ht,<- Fast.te6613529449190102663]at h;rcases hk:stepOk n₀ ann t with _ | _
   ·rw[hk]at h;(exfalso;injection h)
   ·rw[hk,<- Fast.te10156331382660048174,<- Fast.te11892475500146522536,<- Fast.te14364793385576792824]at h;rcases hs:stepT (denote UN) p w s t with _ | r
    ·rw[hs]at h;(exfalso;injection h)
    ·rw[hs]at h;rw[stepT_spec hs];exact ih _ _ s' h
  ·rw[ht]at h;(injection h with za;subst za);rfl
noncomputable def Mv:List AU->BT->Nat->BT
 | [],t,_=>t
 | o::r,t,n=>Mv r (t.ins n o) (n+1)
noncomputable def RB:List AU->BT->Nat->Bool
 | [],_,_=>true
 | o::r,t,n=>((t.ins n o).get n).isSome && RB r (t.ins n o) (n+1)
theorem AcH(life:Life):∀(l:List AU) (t:BT) (n:Nat),RB l t n=true->absHeap (Mv l t n) (n+l.length) life=l.foldl Aa2 (absHeap t n life):=by
 intro z1
 induction z1 with
 | nil =>
  intro t n z2;exact rfl
 | cons o r ih =>
  intro t n h;rcases Og.mp h with⟨h1,h2⟩
  have e:=ih (t.ins n o) (n+1) h2;rw[show n+(o::r).length=n+1+r.length from(UO n 1 r.length).symm,QP,<- absHeap_ins h1];exact e
theorem AcI(life:Life):∀(l m:List AU),l.foldl Aa2 ⟨m.toArray,life⟩=⟨(m++l).toArray,life⟩:=by
 intro z1
 induction z1 with
 | nil =>
  intro m;simp
 | cons o r ih =>
  intro m;rw[QP];have:(Aa2 ⟨m.toArray,life⟩ o)=⟨(m++[o]).toArray,life⟩:=by
   show Heap.mk _ _=Heap.mk _ _;simp
  rw[this,ih];simp
theorem AcJ(H:Bb)(h:RB H.objs.toList .nil 0=true):absHeap (Mv H.objs.toList .nil 0) H.objs.toList.length H.life=H:=by
 have e:=AcH H.life H.objs.toList .nil 0 h;rw[KC]at e;rw[e];have z:absHeap .nil 0 H.life=⟨([]:List AU).toArray,H.life⟩:=rfl;rw[z,AcI];simp
noncomputable def s0(w:BK)(os:Hd):ID:=⟨Mv (D7 w.params).objs.toList .nil 0,11,(D7 w.params).life,QQ [],UP,UQ,os⟩
theorem AcK(w:BK)(os:Hd):(s0 w os).abs=⟨D7 w.params,QQ [],UP,UQ,os⟩:=by
 have e:=AcJ (D7 w.params) (by kernel_rfl)
 rw[show(D7 w.params).objs.toList.length=11 by kernel_rfl]at e
 show Shared.mk _ _ _ _ _=_;rw[show(s0 w os).tree=Mv (D7 w.params).objs.toList .nil 0 from rfl,show(s0 w os).n=11 from rfl,show(s0 w os).life=(D7 w.params).life from rfl,e];rfl
noncomputable def O2(p q:CJ)(loose:List Ac)(Xt:Aq->Bool)(Yf:Aq->α)(H₀:Bb)(s:Aq) :=
 ((staticsOk (Mc p.main.body) H₀ s.heap && namesBound p s.heap && gensDone s && laidKept H₀ s.heap,openSeen q loose (Mc p.main.body) Xt true s),Yf s)
theorem AcL{p q:CJ}{loose:List Ac}{Xt:Aq->Bool}{Yf:Aq->α}{Ya:BK->α}{N:Nat}
  (e:opening p=plainProg p.main.scope.names) (hN:QR 600 N=true) (f:∀s,Aph p s=some s)
  (h:∀w os,(IS p w 11 (some (.ref 6)) N (s0 w os) (topStub p)).map (λs=>O2 p q loose Xt Yf (D7 w.params) s.abs)=some ((true,openGood q loose),Ya w)):LeftO p q loose Xt Yf Ya N:=λw=>by
 rcases HS.mp (boot_open e hN f w)with⟨s,e1,e2⟩
 rcases s with⟨h0,gs,d,k,os⟩
 obtain⟨rfl,rfl,rfl,rfl⟩:h0=D7 w.params/\gs=QQ []/\d=UP/\k=UQ:=by simpa using e2
 rcases HS.mp (h w os)with⟨s1,h1,h2⟩
 have r:=AcG _ _ _ _ h1;rw[AcK]at r;unfold O2 at h2;rcases D8 h2 with⟨h3,h4⟩
 rcases D8 h3 with⟨h5,h6⟩
 have t:topFrom UN p w N ⟨D7 w.params,QQ [],UP,UQ,os⟩=some s1.abs:=by
  unfold topFrom;rw[show((D7 w.params).isNs El && (QQ []:Array Oh).size == 0)=true by kernel_rfl]
  dsimp only;rw[show(D7 w.params).objs.size=11 by kernel_rfl,show(D7 w.params).nsMap El "__annotations__" = some (.ref 6)by kernel_rfl,r]
  show(match staticsOk (Mc p.main.body) (D7 w.params) s1.abs.heap && namesBound p s1.abs.heap && gensDone s1.abs && laidKept (D7 w.params) s1.abs.heap with | true=>_ | false=>_)=_
  rw[h5]
 unfold openEnds;rw[e1];show(topFrom UN p w N _).map _=_;rw[t];exact congrArg some (Prod.ext h6 h4)
section
set_option maxHeartbeats 0
noncomputable abbrev pw:CJ:=PySem.Challenge.pw_pb0609_01
noncomputable def qv:CJ:=view pw [82]
noncomputable def GL:List Ac:=pw.boundNames.filter λn=>n != Ab "law"
theorem AcM:opening pw=plainProg pw.main.scope.names:=by kernel_rfl
theorem AcN(s:Aq):Aph pw s=some s:=by kernel_rfl
end
noncomputable def Wa:Nat->Nat->List Af->List Af
 | 0,_,as=>as
 | n+1,m,as=>Wa n m (bif m.testBit n then n::as else as)
noncomputable def asL:List Af:=Wa 994 135289826165628143860511867460692324510887460771863492507999989973221766619193598758427903320272006567747382136703824808519160519391792461547017255443787984448013396011287448206087169880961148252586300290473139869572249591627892711316558144010261006684045712066396192147502866772483122459511876911116 []
noncomputable def Hq:List AU->Nat->List Af->Bk
 | [],_,_=>[]
 | _::_,_,[]=>[]
 | o::r,n,a::as=>match EP n a with
  | true=>(match alive o with
   | some o'=>(a,o')::Hq r (n+1) as
   | none=>Hq r (n+1) as)
  | false=>Hq r (n+1) (a::as)
noncomputable def KZ(h:Bb):Bk:=Hq h.objs.toList 0 asL
noncomputable def Gi:List (Af×List Nat):=[(115,[30]),(129,[32,0]),(149,[33,0]),(175,[38,0]),(203,[39,0]),(210,[39,1]),(217,[39,2]),(231,[39,4]),(245,[39,6]),(259,[39,8]),(287,[39,12]),(294,[39,13]),(308,[39,15]),(315,[39,16]),(336,[39,19]),(350,[39,21]),(371,[39,24]),(408,[44,0]),(429,[45,0]),(471,[45,6]),(506,[45,11]),(532,[46]),(539,[47]),(553,[50,0]),(560,[50,1]),(581,[51,0]),(588,[51,1]),(609,[52,0]),(616,[52,1]),(637,[53,0]),(642,[53,1]),(719,[56,0]),(726,[56,1]),(731,[56,2]),(736,[56,3]),(743,[56,4]),(750,[56,5]),(755,[56,6]),(790,[56,11]),(807,[56,14]),(819,[57]),(826,[58]),(831,[59]),(838,[61]),(845,[62]),(850,[63]),(855,[65]),(860,[66]),(867,[67]),(879,[68,0]),(886,[68,1]),(893,[68,2]),(898,[68,3]),(905,[68,4]),(917,[69]),(924,[71]),(931,[72]),(938,[73]),(945,[74]),(952,[75]),(957,[76]),(962,[77]),(967,[78]),(974,[79]),(981,[80]),(988,[81]),(993,[82])]
noncomputable def Wb(s:AN):Option (Ac×QN×List AN×Scope):=if h:s.ctorIdx=0 then some (Stmt.FunctionDef.elim (motive_2:=λz=>Ac×QN×List AN×Scope) s h λn a b z z z sc z z z=>(n,a,b,sc))else none
noncomputable def AcO(s:AN):Option (Ac×List AN):=if h:s.ctorIdx=2 then some (Stmt.ClassDef.elim (motive_2:=λz=>Ac×List AN) s h λcn z z b z z z z z z z=>(cn,b))else none
noncomputable def Hr(p:CJ):List Nat->Option C0
 | [i]=>ob p.main.body[i]? λs=>ob (Wb s) λq=>some ⟨q.1,q.1,q.2.1,q.2.2.1,q.2.2.2⟩
 | [i,j]=>ob p.main.body[i]? λs=>ob (AcO s) λc=>ob c.2[j]? λs=>ob (Wb s) λq=>some ⟨q.1,c.1++Ab "." ++ q.1,q.2.1,q.2.2.1,q.2.2.2⟩
 | _=>none
noncomputable def Ht:List Ac:=[Ab "why",Ab "function",Ab "at"]
noncomputable def Wc(K:Bk):Bool:=Gh.all (V5 K) && EU.all (OZ K) && KW.all (V6 K) && HZ.all (V7 K) && GK.all (V8 K) && KY.all (V9 K)
noncomputable def Wd(K:Bk):Bool:=IP K 152 && (findIn K (.ref 152) "__init__" == some (some (.ref 149))) && (typeIn K (.ref 149) == some (.type "function")) && (typeIn K (.ref 152) == some (.type "type")) && (nsIn K El "Exception" == some none) &&
 (nsIn K El "WasmFault" == some (some (.ref 132))) && IM K 132 "__init__" 129 && Ht.all (IQ K 152)
noncomputable def We(K:Bk):Bool:=(findIn K (.ref 152) "__getattribute__" == some (some (.builtin "BaseException.__getattribute__"))) && (findIn K (.ref 152) "__getattr__" == some none) && (subIn K (.ref 152) (.type "BaseException") == some true) &&
 (subIn K (.ref 152) (.ref 152) == some true) && QO K 152 && Ht.all (λy=>findIn K (.ref 152) y == some none)
noncomputable def JN(K:Bk):Bool:=Wc K && Wd K && We K
noncomputable def Mw(s:Aq):Bool×List (Option C0):=(JN (KZ s.heap),Gi.map λp=>Er (KZ s.heap) p.1)
noncomputable def Mx(_:BK):Bool×List (Option C0):=(true,Gi.map λp=>Hr pw p.2)
inductive Kd where
 | tup
 | lst
 | dct (ks:List Int)
 | ins (C:Af) (xs:List Ac)
inductive T where
 | none
 | bool (b:Bool)
 | int (i:Int)
 | str (x:Ac)
 | node (k:Kd) (ts:List T)
inductive W where
 | own (n:Nat)
 | fz (t:T)
 | junk
section
set_option maxHeartbeats 0
theorem O3{S:Type}{o:Option S}{f:S->A}{g:S->B}{a:A}{b:B}(h:o.map f=some a)(k:o.map g=some b):o.map (λs=>(f s,g s))=some (a,b):=by
 rcases o with _ | s
 ·cases h
 ·exact congrArg some (Prod.ext (Ay h) (Ay k))
noncomputable abbrev K2(w:BK)(os:Hd):Option ID:=IS pw w 11 (some (.ref 6)) 7200 (s0 w os) (topStub pw)
noncomputable abbrev Wg(w:BK)(s:ID):=(staticsOk (Mc pw.main.body) (D7 w.params) s.abs.heap && namesBound pw s.abs.heap && gensDone s.abs && laidKept (D7 w.params) s.abs.heap,openSeen qv GL (Mc pw.main.body) (λz=>true) true s.abs)
noncomputable abbrev Wh(s:ID):Bool:=JN (KZ s.abs.heap)
noncomputable abbrev Wi(s:ID):List (Option C0):=Gi.map λp=>Er (KZ s.abs.heap) p.1
theorem AcP(w:BK)(os:Hd):(K2 (w.withFollow "special-get-raises" false) os).map (Wg (w.withFollow "special-get-raises" false))=some (true,openGood qv GL):=by kernel_rfl
theorem AcQ(w:BK)(os:Hd):(K2 (w.withFollow "special-get-raises" false) os).map Wh=some true:=by kernel_rfl
theorem AcR(w:BK)(os:Hd):(K2 (w.withFollow "special-get-raises" false) os).map Wi=some (Gi.map λp=>Hr pw p.2):=by kernel_rfl
theorem AcS(w:BK)(os:Hd):(K2 (w.withFollow "special-get-raises" true) os).map (Wg (w.withFollow "special-get-raises" true))=some (true,openGood qv GL):=by kernel_rfl
theorem AcT(w:BK)(os:Hd):(K2 (w.withFollow "special-get-raises" true) os).map Wh=some true:=by kernel_rfl
theorem AcU(w:BK)(os:Hd):(K2 (w.withFollow "special-get-raises" true) os).map Wi=some (Gi.map λp=>Hr pw p.2):=by kernel_rfl
theorem AcV(w:BK)(os:Hd):(IS pw (w.withFollow "special-get-raises" false) 11 (some (.ref 6)) 7200 (s0 (w.withFollow "special-get-raises" false) os) (topStub pw)).map (λs=>O2 pw qv GL (λz=>true) Mw (D7 (w.withFollow "special-get-raises" false).params) s.abs)=some ((true,openGood qv GL),Mx (w.withFollow "special-get-raises" false)):=O3 (AcP w os) (O3 (AcQ w os) (AcR w os))
theorem AcW(w:BK)(os:Hd):(IS pw (w.withFollow "special-get-raises" true) 11 (some (.ref 6)) 7200 (s0 (w.withFollow "special-get-raises" true) os) (topStub pw)).map (λs=>O2 pw qv GL (λz=>true) Mw (D7 (w.withFollow "special-get-raises" true).params) s.abs)=some ((true,openGood qv GL),Mx (w.withFollow "special-get-raises" true)):=O3 (AcS w os) (O3 (AcT w os) (AcU w os))
theorem AcX:LeftO pw qv GL (λz=>true) Mw Mx 7200:=AcL AcM (by kernel_rfl) AcN (byRow2 "special-get-raises" (P:=λw=>∀os,_) AcV AcW)
end
section
set_option maxHeartbeats 1000000
theorem AcY{p:CJ}(a:(sreFenced p.main && ((moduleNames p.main.body).isEmpty || lookedIntoSs (moduleNames p.main.body) p.main.body))=true)(b:namesResolve p=true)(c:p.boundNames.all (λn => !worldNames.contains n)=true)
  (d:Aa3 { strict := !(Mc p.main.body).all cThrough.contains,foot:=none,bare:=(["vars","dir","locals"]:List Ac).filter (readsOut p p.main.body) } p.main.body=true) (e:QS p p.main.body (λz n=>attrL n)=true):US p=true:=by
 unfold US;rw[a,b,c,d,e];rfl
theorem AcZ{r:OpenRow}(h:US r.prog=true)(k:(true && r.loose.isEmpty && r.makers.isEmpty &&
 (r.records.isEmpty || r.raises.all λct=>ct.1 != .builtin "AttributeError" && ct.1 != .builtin "TypeError") &&
 (r.raises.all λct=>match ct.1 with | .builtin n => !r.prog.boundNames.contains (Ab n) && !ofTheWorld.contains n | .own _=>true) &&
 decide (r.records.map (·.1)).Nodup && (r.records.all λx => !x.1.opensWith "__" && !Aa4 x.1 && r.prog.boundNames.contains x.1 && x.2.all λf => !f.1.opensWith "__") &&
 r.toRowW.solid && r.pre.litsOk && r.post.litsOk && r.raises.all (·.2.litsOk) &&
 r.mutates.all (λi=>match r.args[i]? with
  | some sh => !sh.arms.any WShape.isObj
  | none=>false) &&
 r.within.all (λi=>decide (i<r.args.length)) && r.same.all (λi=>decide (i<r.args.length)))=true):r.partSaid=true:=by
 unfold OpenRow.partSaid;rw[h];exact k
theorem Ac0{r:OpenRow}(h:r.partSaid=true)(k:(true && r.prog.boundNames.contains r.name && !startupNames.contains r.name)=true):r.wellSaid=true:=by
 unfold OpenRow.wellSaid;rw[h];exact k
theorem Ac1{l:OpenLaw}(h:l.row.wellSaid=true)(k:(true && decide (l.foot<=(behindTheImports l.prog).length) && l.footing.all footLine && noClassBlock l.prog l.footing &&
 l.most.all (λn=>decide (63<=n)) && l.bound.all (λn=>decide (2 ^ 63<=n)) &&
 Aa3 { strict:=true,foot:=some l.bound',writes:=l.writes,may:=l.may } l.footing &&
 defStands l.about l.above && l.namesIt &&
 (["type","isinstance","issubclass","getattr","hasattr"]:List Ac).all (λn=>l.about != [n]) && l.bound'.all (λn => !Aa4 n || l.about == [n] || !l.reads n) && (!l.writes || (l.prog.main.body.flatMap Api).all λn => !l.reads n) && (l.prog.main.body.flatMap Api).all (λn => !l.reads n || (drawsOf n l.prog.main.body).all λmn=>mn.2 != ("attrgetter" : Ac) && mn.2 != ("methodcaller" : Ac)) &&
 QS l.prog l.footing (λsc n=>(!(["type","isinstance","issubclass","getattr","hasattr"]:List Ac).contains n || sc.names.lookup n == some .globalImplicit) &&
  (l.may != some n || sc.kind == .module || sc.names.lookup n == some .globalImplicit)) &&
 l.own.contains l.name && l.own.eraseDups.length == l.own.length && l.own.all (λn => !Aa4 n) &&
 QS l.prog l.above (λz n => !l.own.contains n) && QS l.prog l.footing λsc n=>sc.kind == .module || sc.names.lookup n != some .globalExplicit)=true):l.wellSaid=true:=by
 unfold OpenLaw.wellSaid;rw[h];exact k
theorem Ac2:namesResolve PySem.Challenge.rw_pb0609_01.row.prog=true:=by kernel_rfl
theorem Ac3:Aa3 { strict := !(Mc PySem.Challenge.rw_pb0609_01.row.prog.main.body).all cThrough.contains,foot:=none,bare:=(["vars","dir","locals"]:List Ac).filter (readsOut PySem.Challenge.rw_pb0609_01.row.prog PySem.Challenge.rw_pb0609_01.row.prog.main.body) } PySem.Challenge.rw_pb0609_01.row.prog.main.body=true:=by kernel_rfl
theorem Ac4:QS PySem.Challenge.rw_pb0609_01.row.prog PySem.Challenge.rw_pb0609_01.row.prog.main.body (λz n=>attrL n)=true:=by kernel_rfl
theorem Ac5:US PySem.Challenge.rw_pb0609_01.row.prog=true:=AcY (by kernel_rfl) Ac2 (by kernel_rfl) Ac3 Ac4
theorem Ac6:PySem.Challenge.rw_pb0609_01.row.wellSaid=true:=Ac0 (AcZ Ac5 (by kernel_rfl)) (by kernel_rfl)
theorem Ac7:PySem.Challenge.rw_pb0609_01.wellSaid=true:=Ac1 Ac6 (by kernel_rfl)
end
section
theorem T'{b c:Nat}(h:a<=b)(k:b<=c):a<=c:=AE h k
theorem A'{b c:Nat}(h:a<=b)(k:c<=d):a+c<=b+d:=DH h k
theorem L'{b:Nat}(h:a<b):a<=b:=DI h
theorem M'(n:Nat){a b:Nat}(h:a<=b):n*a<=n*b:=HT n h
theorem Q'{b:Nat}(h:a=b):a<=b:=Md h
theorem D'{b:Nat}(h:QR a b=true):a<=b:=Oi h
theorem S'{x y b:Nat}(h:a<=b):x+a+y<=x+(y+b):=by rw[Aa5,QT a y];exact A' (AM x) (A' (AM y) h)
theorem Wj:x0<=4000->x0<4100:=by intros;exact F6 (by assumption) (by decide)
theorem RC:x0+1<x1+1->x0<x1:=by intros;exact QU (by assumption)
theorem O4:x0<x1->x1=x1-1+1:=λh=>(Apj (F6 (GG _) h)).symm
theorem om3:x0<=x1->UT x0 x1=x0:=by intros;simp_all
theorem om4:UT x0 (x1-x2)<=x1:=AE (Apk _ _) (Oj _ _)
theorem om5:x0<=1000->x0=x1->x1<=1000:=by intros;subst_vars;assumption
theorem om6:x0<64->x0<=4000:=by decide +revert
theorem om7:x0<=4000->0+x0<=4000:=by intros;simp +arith at *;first | done | assumption
theorem Ac8:x0<=x1->x2<=4000->x1<x2->x0<=4000:=λa b c=>T' a (T' (L' c) b)
theorem Ac9:x0<=x1->x0<=x1+1:=by intros;exact Apl (by assumption)
theorem RD:¬x0<x1->x1<=x0:=by intros;simp +arith at *;first | done | assumption
theorem Wk:x0+1<=x1->x1-x0=x1-(x0+1)+1:=λh=>by
 rw[Apm];exact(Apj (Apn h)).symm
theorem Ada:x0+1<=x1->x0<=x1:=by intros;exact UU (by assumption)
theorem Adb:x0<5->x0=0\/x0=1\/x0=2\/x0=3\/x0=4:=by decide +revert
theorem Adc:x0<4->x0=0\/x0=1\/x0=2\/x0=3:=by decide +revert
theorem Wl:x0<3->x0=0\/x0=1\/x0=2:=by decide +revert
theorem Wm:x0<2->x0=0\/x0=1:=by decide +revert
theorem Wn:2<=7:=by intros;simp +arith at *;first | done | assumption
theorem Ade:x0<=7->x0+1<=4000:=by intros;exact F6 (by assumption) (by decide)
theorem Adf:x0<x1->x1<=x2->x2<=7->x0<=7:=λa b c=>T' (L' a) (T' b c)
theorem Wo:x0<x1->x1<=7->x0-x2<=4000:=λh1 h2=>AE (Oj _ _) (AE (DI h1) (AE h2 (by decide)))
theorem RE:x0<=x1->(↑x1:Int)-(↑x0:Int)=(↑(x1-x0):Int):=λh=>(Apo h).symm
theorem Adg:x0<=x1->¬x1<x0:=by intros;simp +arith at *;first | done | assumption
theorem Wq:0<=2:=by intros;simp +arith at *;first | done | assumption
theorem RF:2<=2:=by intros;simp +arith at *;first | done | assumption
theorem My:1<=2:=by simp +arith
theorem Adh:x0<=100->x1<=x0->x2<=2->x1+x2<=4000:=λa b c=>T' (A' (T' b a) c) (D' rfl)
theorem Adi:x0<=100->x1<=2->x0+x1<=4000:=λa b=>T' (A' a b) (D' rfl)
theorem Adj:x0<=2*x1->x2<=2->x0+x2<=2*(x1+1):=λa b=>A' a b
theorem Adk:0<x0->x0<=100->(↑x0:Int)≠0/\(↑x0:Int).natAbs<1073741824:=λh1 h2=>⟨Int.ne_of_gt (Me.mpr h1),F6 h2 (by decide)⟩
theorem Adl:0<x0->(↑x0:Int)≠0:=by lia
theorem Adm{x0:Int}:x0<(↑x1:Int)->x0=(↑x2:Int)->x2<x1:=by intros;simp_all
theorem Wr:0<x0->0<(↑x0:Int):=by intros;simp_all
theorem Adn:x0<=100->x1<=100->x1+x0+1<=4000:=λa b=>T' (FA (A' b a)) (D' rfl)
theorem K3:x0<=100->x0+1<=4000:=by intros;exact F6 (by assumption) (by decide)
theorem Ado:x0<4->x1<=2*x0->x1+(0+1)<=4000:=by lia
theorem Adp:x0<4->x0<=4000:=by decide +revert
theorem Adq:x0<4->x1<x0->x2<=2*x1->x2<=100:=λa b c=>T' c (T' (M' 2 (T' (L' b) (L' a))) (D' rfl))
theorem Adr:¬x0<x1->¬(↑x0:Int)<(↑x1:Int):=by intros;simp +arith at *;first | done | assumption
theorem Ads:x0<=63->x1<x0->x1<=4000:=by lia
theorem RG:x0<x1->(↑x0:Int)<(↑x1:Int):=by intros;simp +arith at *;first | done | assumption
theorem Adt:x0<=100->x1<=300->x2<=1*x0->x3<=1->x2+x1+0+x3<=4000:=λa b c d=>by
 rw[Ol]at c;exact AE (DH (DH (DH (AE c a) b) (AM 0)) d) (by decide)
theorem Adu:x0<=100->x1<=1*x0->x2<=1->x1+0+0+x2<=4000:=λa b c=>T' (A' (T' b (M' 1 a)) c) (D' rfl)
theorem Adv:x0<3->(↑x0:Int).natAbs<9223372036854775808:=by intros;exact AE (by assumption) (by decide)
theorem Adw:x0<=900->x1<3->x2<1+x1->x3<=2*x2->x0+x3<=1000:=λa b c d=>T' (A' a (T' d (M' 2 (T' (L' c) (He (L' b) 1))))) (D' rfl)
theorem Adx:x0<3->x1<1+x0->x1<=100:=by lia
theorem Ady:x0<3->1+x0<=4000:=by decide +revert
theorem Adz:x0<=1000->x1<=1->x0+x1<=4000:=λa b=>T' (A' a b) (D' rfl)
theorem AdA:x0<=100->x1<3->x2<=6*x1->x0+x2<=900:=λa b c=>T' (A' a (T' c (M' 6 (L' b)))) (D' rfl)
theorem RH:x0<3->x1<=1*x0->x1<=100:=λa b=>T' b (T' (M' 1 (L' a)) (D' rfl))
theorem AdB:x0<3->x1<=2*x0->x1<=300:=λa b=>T' b (T' (M' 2 (L' a)) (D' rfl))
theorem AdC:0<x0->¬x0=0:=by lia
theorem AdD:x0<=4->x1<x0->x1<=100:=λa b=>T' (L' b) (T' a (D' rfl))
theorem AdE:x0<=6*x1->x1<=1*x2->x0<=6*x2:=λa b=>T' a (M' 6 (T' b (Q' (Ol _))))
theorem O5:x0<=2*x1->x1<=3->x0<=6:=by lia
theorem AdF:x0<=2*x1->x1<=1*x2->x0<=2*x2:=λa b=>T' a (M' 2 (T' b (Q' (Ol _))))
theorem AdG:x0<3->1+x0<=3:=by decide +revert
theorem Mz:x0<3->0<x1/\x1<=4->x2=x0+x1->x2<=100:=λa b c=>c▸AE (DH (DI a) b.2) (by decide)
theorem O6:x0<3->x0<=100:=by decide +revert
theorem AdH:x0<=1*3->x1<=2*3->x2<=1*x0->x2+x1<=100:=λa b c=>T' (A' (T' c (M' 1 a)) b) (D' rfl)
theorem AdI:x0<=1*3->x0<=100:=by intros;exact AE (by assumption) (by decide)
theorem AdJ:0<x0/\x0<=4->x0<=4000:=λa=>T' a.2 (D' rfl)
theorem AdK:x0<x1->x0<x1+x2:=λa=>T' a (Hf _ _)
theorem AdL:x0<=2*x1->x1<4->x0+(0+1)<=7:=λa b=>UW (T' a (M' 2 (Nat.le_of_lt_succ b))) 1
theorem AdM:x0<4->0<1+x0/\1+x0<=4:=by decide +revert
theorem AdN:0<x0+(1+x1):=by intros;simp +arith at *;first | done | assumption
theorem AdO:(↑x0:Int)=(↑x1:Int)↔x0=x1:=⟨λa=>UX a,λa=>congrArg _ a⟩
theorem Ws:x0=x1->(↑x1:Int)=(↑x0:Int):=by intros;simp_all
theorem Wt:(↑x0:Int)=(↑x1:Int)->x1=x0:=by lia
theorem Wu:x0<3->x0<=4000:=by decide +revert
theorem AdP:x0<=7->(↑x1:Int)<(↑x0:Int)->x1<=4000:=λa b=>T' (L' (Me.mp b)) (T' a (D' rfl))
theorem AdQ:(↑x0:Int)<(↑x1:Int)->x0<x1:=by intros;simp +arith at *;first | done | assumption
theorem Wv:x0<=100->x1=x0->x1<=100:=by intros;subst_vars;assumption
theorem AdR:x0=x1->x2<x1->x2<x0:=by intros;subst_vars;assumption
theorem AdS:x0<=100->x0<=4000:=by intros;exact AE (by assumption) (by decide)
theorem AdT:x0<x1->x2=x1->x0<x2:=by intros;subst_vars;assumption
theorem AdU:x0<x1->x1<=100->x0<=4000:=λa b=>T' (L' a) (T' b (D' rfl))
theorem AdV:x0<x1->x2=x1->0<=(↑x0:Int)/\(↑x0:Int)<(↑x2:Int):=by intros;simp_all
theorem AdW:x0<=x1->x1<x2->x0+1<=x2:=λa b=>T' (FA a) b
theorem AdX:x0<=x1->x0<=x1:=by intros;subst_vars;assumption
theorem AdY:x0<=x1->x0<x1+1:=by intros;exact FA (by assumption)
theorem AdZ:¬x0+x1<x0:=by intros;simp_all
theorem Ad0:x0+x1=x2->¬x3<x1->x2<=x0+x3:=λa b=>a▸He (DJ.mp b) _
theorem Ad1:x0+x1=x2->x3<x1->x0+x3<x2:=λa b=>a▸Nat.add_lt_add_left b _
theorem RI:x0<=63->x0<=4000:=by intros;exact AE (by assumption) (by decide)
theorem Ad2:x0<3->x1<=7->x2<=1->x0+x1+x2<=4000:=λa b c=>T' (A' (A' (L' a) b) c) (D' rfl)
theorem Ad3:¬x0<=x1->¬(↑x0:Int)<=(↑x1:Int):=by intros;simp +arith at *;first | done | assumption
theorem Ad4:x0<=x1->(↑x0:Int)<=(↑x1:Int):=by intros;simp +arith at *;first | done | assumption
theorem Ad5:x0<=7->x1<x0->x1-x2<=4000:=λh2 h1=>AE (Oj _ _) (AE (DI h1) (AE h2 (by decide)))
theorem Ad6:7<=4000:=by simp +arith
theorem Ww:x0<=7->x0<64:=by intros;exact F6 (by assumption) (by decide)
theorem Ad7:x0<=7->x0<=100:=by intros;exact AE (by assumption) (by decide)
theorem Ad8:x0<3->x1<=7->x0+x1<=4000:=by lia
theorem Ad9:x0<=7->x0+3<=4000:=by decide +revert
theorem Aea:x0<=7->x0+2<=4000:=by decide +revert
theorem Aeb:((↑x0:Int)+2 - -1).toNat=x0+3:=rfl
theorem Wx:7<=1000:=by intros;simp +arith at *;first | done | assumption
theorem RJ:x0<=3->x0<=4000:=by intros;exact AE (by assumption) (by decide)
theorem Aec:x0<=3->1*(↑x0:Int).toNat<=256/\-9223372036854775808<=(↑x0:Int)/\(↑x0:Int)<9223372036854775808:=by decide +revert
theorem Aed:x0<=3->x1<=3->x1+x0<=4000:=by lia
theorem Aee{x0:Int}:0<=x0/\x0<=2->1*x0.toNat<=256/\-9223372036854775808<=x0/\x0<9223372036854775808:=λa=>⟨T' (Q' (Ol _)) (T' (Int.toNat_le.mpr a.2) (D' rfl)),KD (by decide) a.1,IE a.2 (by decide)⟩
theorem Aef:x0<3->x1<=4->x0+x1<=4000:=by lia
theorem Aeg:(↑(x0+x1):Int)-(↑x1:Int)=(↑x0:Int):=by intros;simp_all
theorem Aeh:x0<=0+x1->x1<=1*x2->x3<=x0+x4->x4<=2*x5->x2<=3->x5<=3->x3<=100:=λa b c d e f=>by
 rw[KC]at a;rw[Ol]at b;exact AE c (AE (DH (AE a (AE b e)) (AE d (HT 2 f))) (by decide))
theorem Aei:x0<=0+x1->x1<=1*x2->x2<=3->x0<=100:=λa b c=>T' a (T' (He (T' b (M' 1 c)) 0) (D' rfl))
theorem Aej:x0<=100->x1<=x0+x2->x2<=6*x3->x3<x4->x4<=3->x1<=1000:=λa b c d e=>AE b (AE (DH a (AE c (HT 6 (AE (DI d) e)))) (by decide))
theorem Aek:x0<=1000->x1<=3->x2<=x0+x3->x3<=2*x4->x4<x1->x5<=2->x2+x5<=4000:=λa b c d e f=>AE (DH (AE c (DH a (AE d (HT 2 (AE (DI e) b))))) f) (by decide)
theorem Ael:x0<=100->x1<=x0+x2->x2<=2*x3->x3<x4->x4<=3->x5<=2->x1+x5<=4000:=λa b c d e f=>T' (A' (T' b (A' a (T' c (M' 2 (T' (L' d) e))))) f) (D' rfl)
theorem Aem:x0<=0+x1->x1<=1*x2->x2<x3->x3<=3->x0<=4000:=λa b c d=>by
 rw[KC]at a;rw[Ol]at b;exact AE a (AE b (AE (DI c) (AE d (by decide))))
theorem Aen:x0<x0+(x1+1):=by intros;simp_all
theorem Aeo:x0<=x1->x2<=x3->x2+x0<=x1+x3:=λa b=>T' (A' b a) (Q' (QT _ _))
theorem Aep:x0+x1<=4000->x2<=x0+x3->x3<=x4->x4+x5=x1->x2<=4000:=λa b c d=>T' (T' b (He (T' c (d▸Hf _ _)) _)) a
theorem Wy:x0<=x1+1->x0+x2<=x1+(x2+1):=by intros;simp +arith at *;first | done | assumption
theorem Wz:x0<=x0+1:=by intros;simp_all
theorem RK:¬x0=x1->¬(↑x0:Int)=(↑x1:Int):=λa b=>a (UX b)
theorem Aeq:0<=(↑x0:Int):=by intros;simp_all
theorem WA:¬(↑x0:Int)<0:=by intros;simp_all
theorem Aer:x0<=4000->-9223372036854775808<=(↑x0:Int)/\(↑x0:Int)<9223372036854775808:=λa=>⟨KD (by decide) (Aa6 x0),IE (IG.mpr a) (by decide)⟩
theorem Aes:x0<=4000->-2 ^ 62<=(↑x0:Int)/\(↑x0:Int)<2 ^ 62:=λa=>⟨KD (by decide) (Aa6 x0),IE (IG.mpr a) (by decide)⟩
theorem Aet:x0+x1<=4000->x2<=x1->x0+x2<=4000:=λa b=>T' (He b _) a
theorem Aeu:x0<=4000->x0-x1<=4000:=λh=>AE (Oj _ _) h
theorem Aev:¬x0<x1->(↑x0:Int)-(↑x1:Int)=(↑(x0-x1):Int):=λh=>(Apo (QV h)).symm
theorem Aew:¬x0<x1->(↑x1:Int)<=(↑x0:Int):=by intros;simp +arith at *;first | done | assumption
theorem Aex:x0<x1->¬(↑x1:Int)<=(↑x0:Int):=by intros;simp_all
theorem Aey:x0<=100->x1<=6*x2->x2<x3->x3<=3->x0+x1<=1000:=λa b c d=>T' (A' a (T' b (M' 6 (T' (L' c) d)))) (D' rfl)
theorem Aez:x0<=1000->x1<=3->x2<=2*x3->x3<x1->x4<=2->x5<=x4->x0+x2+x5<=4000:=λa b c d e f=>AE (DH (DH a (AE c (HT 2 (AE (DI d) b)))) (AE f e)) (by decide)
theorem AeA:x0<=100->x1<=2*x2->x2<x3->x3<=3->x4<=2->x5<=x4->x0+x1+x5<=4000:=λa b c d e f=>AE (DH (DH a (AE b (HT 2 (AE (DI c) d)))) (AE f e)) (by decide)
theorem AeB:x0<=3->x1<=3->x0+x1+1<=4000:=λa b=>T' (FA (A' a b)) (D' rfl)
theorem AeC:x0<=7->x1<=x0->x1<=4000:=by lia
theorem AeD:x0<=3->x1<=3->x2<=1->x3<=2*x4->x4<=3->x0+x1+x2+x3<=100:=λa b c d e=>T' (A' (A' (A' a b) c) (T' d (M' 2 e))) (D' rfl)
theorem AeE:x0<=3->x1<=3->x2<=1->x0+x1+x2<=100:=λa b c=>T' (A' (A' a b) c) (D' rfl)
theorem AeF:x0<=7->x1<=100->x1+7*(x0-0)<1000:=λh1 h2=>F6 (DH h2 (HT 7 h1)) (by decide)
theorem AeG{x6:Nat}:x0<=3->x1<=3->x2<=1->x3<=2*x4->x4<=3->x5<=6*x6->x6<=3->x0+x1+x2+x3+x5<=100:=λa b c d e f g=>AE (DH (DH (DH (DH a b) c) (AE d (HT 2 e))) (AE f (HT 6 g))) (by decide)
theorem AeH:x0<=3->x1<=3->x0+x1<=4000:=by lia
theorem AeI:x0<=x1->x1<=7->x0<64:=λa b=>T' (FA (T' a b)) (D' rfl)
theorem AeJ:x0+1<=1000->x1+(0+1)+7*(x2-x3)<x0+1->x4<=7->x1+x4<=4000:=λa h c=>AE (DH (AE (AE (Hf x1 1) (Hf _ _)) (AE (DI h) a)) c) (by decide)
theorem AeK:x0<=7->x1<x0->x1<=4000:=λa b=>AE (DI b) (AE a (by decide))
theorem WB:x0<=7->x1+(0+1)<=x0->x1<=4000:=by lia
theorem RL:x0+1<=1000->x0<=1000:=by intros;exact UU (by assumption)
theorem AeL:x0+(0+1)+7*(x1-x2)<x3+1->x2+(0+1)<=x1->x4<=7->x5<=x4->x0+x5+7*(x1-(x2+(0+1)))<x3:=λh h1 h2 h3=>by
 rw[Wk h1,Nat.mul_succ,UO]at h;rw[Aa5,QT x5];exact F6 (He (He (AE h3 h2) _) _) (QU h)
theorem AeM:x0<x1+x2->¬x0<x1->x0-x1<x2:=λa b=>Apq (QV b) a
theorem AeN:x0+(0+1)+7*(x1-x2)<x3+1->x0+7*(x1-(x2+(0+1)))<x3:=λh=>by
 rw[UO]at h;exact F6 (He (HT 7 (Nat.sub_le_sub_left (HU x2) x1)) x0) (QU h)
theorem AeO:x0+(0+1)+7*(x1-x2)<x3+1->x0+7*(x1-x2)<x3:=by intros;simp +arith at *;first | done | assumption
theorem AeP:x0<=x0+x1:=by intros;simp +arith at *;first | done | assumption
theorem AeQ:x0+1+x1=x0+(x1+1):=by intros;simp +arith at *;first | done | assumption
theorem AeR:x0<7->(↑x0:Int)<7:=by decide +revert
theorem AeS:3<=7:=by intros;simp +arith at *;first | done | assumption
theorem AeT:x0<=3->x1<x0->x2<=0+x1->x2+1<=4000:=λa b c=>T' (FA (T' c (Q' (KC _)))) (T' (T' b a) (D' rfl))
theorem AeU:x0<=3->x1<x0->x1<=4000:=λa b=>T' (L' b) (T' a (D' rfl))
theorem AeV:x0<x1->x1<=3->x0<=4000:=by lia
theorem AeW:x0<=100->x0+(0+1)+0<=4000:=by intros;exact F6 (by assumption) (by decide)
theorem AeX:x0+(x1+1)=x2->x3+x2<=10->x3+x0<=100:=λe h=>AE (AE (He (e▸Hf x0 (x1+1)) x3) h) (by decide)
theorem AeY:x0<=7->x1<=3->x2<=x0->x3<=x1->x3+x2<=10:=λa b c d=>T' (A' (T' d b) (T' c a)) (D' rfl)
theorem AeZ:x0<=x1->x1<x0+x2->x1-x0<x2:=λa b=>Apq a b
theorem Ae0:x0<=7->x1<x0->x1+1<=4000:=by lia
theorem Ae1:x0 ≥ x1->x0-x1=0->x0=x1:=λh e=>Apr (Aps.mp e) h
theorem Ae2:x0<x1->1<=x1-x0:=λa=>Apn a
theorem WC:x0+100*x1<=9000->x2=9900->x0+1+20<x2:=λa b=>T' (UW (T' (Hf _ _) a) 22) (T' (D' rfl) (Q' b.symm))
theorem Ae3:x0<x1->x2<=4000->x1=x2->(↑x0:Int)<2 ^ 63-1:=λa b c=>IE (IG.mpr (T' (L' a) (T' (Q' c) b))) (by decide)
theorem Ae4:x0<x1->x1=x2->x0<x2:=by intros;simp_all
theorem Ae5:x0<x1->x0+1<x1+1:=by intros;exact FA (by assumption)
theorem Ae6:x0=x1->x1<=x2+1->x2<900->x0<=1000:=λa b c=>T' (T' (Q' a) (T' b c)) (D' rfl)
theorem Ae7:x0<=x1+1->x0+1<=x1+1+1:=by intros;exact FA (by assumption)
theorem Ae8:x0+100*(x1+1)<=9000->x0+(1+3*0)+100*x1<=9000:=λa=>T' (S' (D' rfl)) a
theorem Ae9:x0<=1->x1+10*(x2+1)<=900->x1+x0+10*x2<=900:=λa b=>T' (S' (T' a (D' rfl))) b
theorem Afa:x0<=x1->x2+100*x1<=9000->x2+100*x0<=9000:=λa b=>T' (He (M' 100 a) _) b
theorem Afb:x0<=x1->x2+10*x1<=900->x2+10*x0<=900:=λa h=>AE (He (HT 10 a) x2) h
theorem Afc:x0<=4000->x0<=2 ^ 24:=by intros;exact AE (by assumption) (by decide)
theorem Afd{x0 x1:Int}:x0<2 ^ 62->-2 ^ 62<=x1->x0-x1<2 ^ 63:=λa b=>UY (Int.sub_lt_sub_of_lt_of_le a b) (by decide)
theorem RM:x0<=x1->x2=x0->x2<=x1:=by intros;subst_vars;assumption
theorem Afe:¬x0<x1->(↑x1:Int)-(↑x0:Int)<=0:=λa=>Int.sub_nonpos_of_le (IG.mpr (DJ.mp a))
theorem Afg:(↑x0:Int)-((↑x1:Int)+1)=(↑x0:Int)-(↑x1:Int)-1:=by intros;simp +arith at *;first | done | assumption
theorem Afh:x0<x1->0<(↑x1:Int)-(↑x0:Int):=by intros;simp_all
theorem Afi:x0=x1->x2=x0->x1=x2:=by intros;simp_all
theorem Afj:x0=x1->¬x1>x0:=by intros;simp_all
theorem WD:x0+1<=x0+2:=by intros;simp +arith at *;first | done | assumption
theorem WE:2<=x0->3<=x0+1:=by intros;exact FA (by assumption)
theorem Afk:x0+10*x1<=900->x0<1000:=λa=>T' (FA (T' (Hf _ _) a)) (D' rfl)
theorem Afl:x0+100*(x1+2)<=9000->x0+3+100*(x1+1)<=9000:=λa=>T' (S' (D' rfl)) a
theorem Afm:x0+10*(x1+2)<=900->x0+1+10*(x1+1)<=900:=λa=>T' (S' (D' rfl)) a
theorem Afn:2<=2*(x0+1):=by intros;simp +arith at *;first | done | assumption
theorem Afo:x0<=16777216->¬x0>16777216:=by intros;simp_all
theorem Afp:x0<=1000->x0<=16777216+1:=by intros;exact AE (by assumption) (by decide)
theorem Afq:x0<900->x1=x2->x2<=x0+1->x1<=1000:=λa b c=>T' (T' (Q' b) (T' c a)) (D' rfl)
theorem WG:x0<30->x0<=16777216:=by decide +revert
theorem Afr:x0=x1->x2=x1->x0=x2:=by intros;simp_all
theorem Afs:x0+100*(x1+1)<=9000->x0+3+100*x1<=9000:=λa=>T' (S' (D' rfl)) a
theorem Aft:x0+10*(x1+1)<=900->x0+1+10*x1<=900:=λa=>T' (S' (D' rfl)) a
theorem Afu:x0+10*(x1+1)<=900->x0<1000:=by lia
theorem Afv:x0+x1<=4000->x2+1=x0->x3+1=x1->x2+1+(x3+1)<=16384:=by
 rintro h rfl rfl;exact AE h (by decide)
theorem Afw:x0+1=x1->x1+0<=4000->x0+1+0<=16384:=λa b=>T' (T' (Q' a) b) (D' rfl)
theorem Afx:x0=x1->0+x1<=4000->0+x0<=16384:=λa b=>T' (He (Q' a) 0) (T' b (D' rfl))
theorem Afy{x0:Int}:x0.natAbs<9223372036854775808->x0<2 ^ 64:=λa=>IE Apt (Aa7 (Me.mpr a) (by decide))
theorem Afz{x0:Int}:x0.natAbs<9223372036854775808->-2 ^ 64<x0:=λa=>Int.neg_lt_of_neg_lt (IE (Int.natAbs_neg x0▸Apt) (Aa7 (Me.mpr a) (by decide)))
theorem AfA:x0<=4000->x0<=16777216:=by intros;exact AE (by assumption) (by decide)
theorem AfB:x0=4->x0+1<=16777216:=by intros;simp_all
theorem AfC:x0<=7->x0+1<=16777216:=by intros;exact F6 (by assumption) (by decide)
theorem AfD:x0<=7->x1=x0->x1<4096:=λa b=>T' (FA (T' (Q' b) a)) (D' rfl)
theorem AfE:(↑x0:Int)=(↑x1:Int)->x0=x1:=by lia
theorem AfF:x0=0\/x0=1\/x0=2\/x0=3\/x0=4\/x0=5\/x0=6->x0<7:=by
 rintro(rfl | rfl | rfl | rfl | rfl | rfl | rfl)<;>decide
theorem WH:x0-0=x0-0:=by intros;simp +arith at *;first | done | assumption
theorem WI:x0-x1=x2+1->x0-(x1+1)=x2:=λh=>by
 rw[Apm,h];rfl
theorem WJ:x0-x1=x2+1->x1<x0:=λh=>Nat.sub_pos_iff_lt.mp (by rw[h];exact Nat.succ_pos _)
theorem WK:x0-x1=0->x1<=x0->x1=x0:=λe h=>Apr h (Aps.mp e)
theorem AfG:x0=x1+1->x0-1=x1:=by intros;simp_all
theorem AfH:x0=x1+1->0<x0:=by intros;simp_all
theorem AfI:x0<=7->x0<=16777216:=by intros;exact AE (by assumption) (by decide)
theorem AfJ{x0:Int}:0<=x0/\x0<7->x0.toNat<7:=by intros;simp_all
theorem AfK:x0<=1000->x1<x0->x2<=x1->x2<=16777216:=λa b c=>T' (T' c (T' (L' b) a)) (D' rfl)
theorem WL:x0+(x1+1)<x2->x0<x2:=λa=>F6 (Hf _ _) a
theorem AfL:x0+(x1+1)<x2->x0+1+x1<x2:=by intros;simp +arith at *;first | done | assumption
theorem WM:x0+100*x1<=9000->x2=9900->x0+19+1<x2:=λa b=>b▸F6 (UW (AE (Hf _ _) a) 20) (by decide)
theorem AfM:x0+x1+1<x2->x0<x2:=by lia
theorem AfN:x0+x1+1<x2->x0+1+x1<x2:=by intros;simp +arith at *;first | done | assumption
theorem AfO:x0<=x1->x1<=4000->x0<=4000:=by lia
theorem AfP:UT (x0-x1) (x2-x1)<=x2:=AE (Apk _ _) (Oj _ _)
theorem AfQ{x0:Int}:¬x0<0->0<=x0:=by intros;simp_all
theorem AfR:x0=x1->x1<=4000->(↑x0:Int)<2 ^ 63:=λa b=>IE (IG.mpr (T' (Q' a) b)) (by decide)
theorem AfS{x0:Int}:0<=x0/\x0<(↑x1:Int)->x2=x1->x0<(↑x2:Int):=by intros;simp_all
theorem AfT{x0:Int}:0<=x0/\x0<(↑x1:Int)->x1<=4000->x0<2 ^ 63:=λa b=>Aa7 a.2 (IE (IG.mpr b) (by decide))
theorem AfU:x0=x1->x2=x3->x1<=4000->x3<=4000->x4=16777216->x0+x2<=x4+1:=by
 rintro rfl rfl a b rfl;exact AE (DH a b) (by decide)
theorem AfV:x0=x1->x2=x3->x1<=4000->x3<=4000->x0+x2<=8000:=λa b c d=>T' (A' (T' (Q' a) c) (T' (Q' b) d)) (D' rfl)
theorem AfW:x0=x1->x1<=4000->x2=16777216->x3=x4->x4<=4000->x0+x3<=x2+1:=λa b c d e=>T' (A' (T' (Q' a) b) (T' (Q' d) e)) (T' (D' rfl) (FA (Q' c.symm)))
theorem AfX:x0=x1->x1<=4000->x2=x3->x3<=4000->x0+x2<=8000:=by
 rintro rfl a rfl b;exact AE (DH a b) (by decide)
theorem AfY:x0+x1<=8000->x2=16777216->¬x0+x1>x2:=λa b=>DJ.mpr (T' a (T' (D' rfl) (Q' b.symm)))
theorem AfZ:x0<64->x0<=16777216:=by decide +revert
theorem Af0{x0 x1:Int}:¬x0<=x1->x1<=x0:=λa=>Int.le_of_lt (Int.not_le.mp a)
theorem Af1{x0 x1 x2:Int}:x0<=x1->x1<=x2->x0<=x2:=λa b=>KD a b
theorem Af2:x0=x1->x1<=4000->x0<=16384:=by lia
theorem Af3:x0<=4000->x1=x0->(↑x1:Int)<2 ^ 63:=λa b=>IE (IG.mpr (T' (Q' b) a)) (by decide)
theorem Af4:x0<=4000->x1=x0->(↑x1:Int)<9223372036854775808:=λa b=>IE (IG.mpr (T' (Q' b) a)) (by decide)
theorem Af5:38+2<=42:=by simp +arith
theorem Af6:2<=38:=by intros;simp +arith at *;first | done | assumption
theorem Af7:x0<=63->x1=x0->x1<=16777216:=λa b=>T' (Q' b) (T' a (D' rfl))
theorem Af8:x0<=63->x1=x0->x1<=UT 63 x1:=by intros;simp_all
theorem Af9:3<=43:=by intros;simp +arith at *;first | done | assumption
theorem Aga:¬(↑63:Int)<(↑x0:Int)->x0<=63:=λa=>DJ.mp λh=>a (Me.mpr h)
noncomputable abbrev put(s:Aq)(h:Bb)(t:Nat):Aq:={ s with heap:=h,toks:=t }
inductive CV where
 | none
 | bool (b:Bool)
 | int (i:Int)
 | str (x:Ac)
 | tup (vs:List CV)
 | ref (n:Nat)
inductive CO where
 | list (vs:List CV)
 | dict (es:List (Int×CV))
 | inst (C:Af) (as:List (Ac×CV))
noncomputable abbrev CH:=List CO
structure Am where
 Φ:List (Af×AU)
 σ:CH
 ad:Nat->Bool->Af
noncomputable def CO.isInst:CO->Bool
 | .inst _ _=>true
 | _=>false
def Hu(σ:CH)(i:Nat)(b:Bool):Prop:=∃o,σ[i]? = some o/\(b=true->o.isInst=true)
def AS(l:Am)(p:Af×AU):Prop:=p∈l.Φ/\∀i b,Hu l.σ i b->l.ad i b≠p.1
noncomputable abbrev Cy(vs:List Ad)(k:Nat):AU:={ cls:=.type "tuple",data:=.seq vs.toArray k }
mutual
inductive VR(l:Am):Ad->CV->Prop
 | none:VR l .none .none
 | bool (b:Bool):VR l (.bool b) (.bool b)
 | int (i:Int) (t:Tok):VR l (.int i t) (.int i)
 | str (x:Ac) (t:Tok):VR l (.str x t) (.str x)
 | tup {a:Af} {vs:List Ad} {k:Nat} {cvs:List CV}:AS l (a,Cy vs k)->AA l vs cvs->VR l (.ref a) (.tup cvs)
 | ref {a:Af} {n:Nat}:n<l.σ.length->l.ad n false=a->VR l (.ref a) (.ref n)
inductive AA(l:Am):List Ad->List CV->Prop
 | nil:AA l [] []
 | cons {v:Ad} {vs:List Ad} {c:CV} {cs:List CV}:VR l v c->AA l vs cs->AA l (v::vs) (c::cs)
end
theorem VR.ref_inv{l:Am}(h:VR l v (.ref n)):∃a,v=.ref a/\n<l.σ.length/\l.ad n false=a:=by
 rcases h with _ | _ | _ | _ | _ | ⟨h1,h2⟩
 ·exact⟨_,rfl,h1,h2⟩
theorem VR.ref_ad{l:Am}{a:Af}(h:VR l (.ref a) (.ref n)):n<l.σ.length/\l.ad n false=a:=by
 rcases h with _ | _ | _ | _ | _ | ⟨h1,h2⟩
 ·exact⟨h1,h2⟩
theorem VR.tup_inv{l:Am}{cvs:List CV}(h:VR l v (.tup cvs)):∃a vs k,v=.ref a/\AS l (a,Cy vs k)/\AA l vs cvs:=by
 rcases h with _ | _ | _ | _ | ⟨h1,h2⟩ | _
 ·exact⟨_,_,_,rfl,h1,h2⟩
theorem VR.none_inv{l:Am}(h:VR l v .none):v=.none:=by
 rcases h with _ | _ | _ | _ | _ | _
 ·rfl
theorem VR.bool_inv{l:Am}(h:VR l v (.bool b)):v=.bool b:=by
 rcases h with _ | b | _ | _ | _ | _
 ·rfl
theorem VR.int_inv{l:Am}{i:Int}(h:VR l v (.int i)):∃t,v=.int i t:=by
 rcases h with _ | _ | ⟨_,t⟩ | _ | _ | _
 ·exact⟨t,rfl⟩
theorem VR.str_inv{l:Am}(h:VR l v (.str x)):∃t,v=.str x t:=by
 rcases h with _ | _ | _ | ⟨_,t⟩ | _ | _
 ·exact⟨t,rfl⟩
inductive Dr(l:Am):List Em->List (Ac×CV)->Prop
 | nil:Dr l [] []
 | cons {h:Int} {x:Ac} {t:Tok} {v:Ad} {c:CV} {es:List Em} {as:List (Ac×CV)}:VR l v c->Dr l es as->Dr l (⟨h,.str x t,v⟩::es) ((x,c)::as)
inductive BJ(l:Am):List (Int×Ad)->List (Int×CV)->Prop
 | nil:BJ l [] []
 | cons {k:Int} {v:Ad} {c:CV} {es:List (Int×Ad)} {as:List (Int×CV)}:VR l v c->BJ l es as->BJ l ((k,v)::es) ((k,c)::as)
def OR(prog:CJ)(w:BK)(l:Am)(i:Nat):CO->Prop
 | .list vs=>∃ws k,(l.ad i false,listOf ws k)∈l.Φ/\AA l ws.toList vs
 | .dict es=>∃o kvs,(l.ad i false,o)∈l.Φ/\(l.ad i false == UZ)=false/\o.IsDictOf (intKind prog w) kvs/\BJ l kvs es
 | .inst C as=>∃es k,(l.ad i false,instObj C (l.ad i true))∈l.Φ/\(l.ad i true,dictOf es k)∈l.Φ/\Dr l es as
structure LR(prog:CJ)(w:BK)(l:Am):Prop where
 nd:(l.Φ.map (·.1)).Nodup
 inj:∀i j a b,Hu l.σ i a->Hu l.σ j b->l.ad i a=l.ad j b->i=j/\a=b
 obj:∀i o,l.σ[i]? = some o->OR prog w l i o
abbrev No:Af->Prop:=λz=>False
structure Ap(D:Af->Prop)(l l':Am):Prop where
 len:l.σ.length<=l'.σ.length
 kind:∀(i:Nat) (o:CO),l.σ[i]? = some o->∃o':CO,l'.σ[i]? = some o'/\CO.isInst o'=CO.isInst o
 ad:∀i b,i<l.σ.length->l'.ad i b=l.ad i b
 oth:∀p,AS l p->((∃vs k,p.2=Cy vs k)\/¬D p.1)->AS l' p
theorem K4(h:o.cls≠.type "tuple"):∀vs k,o≠Cy vs k:=λvs k e=>h (by rw[e])
theorem GN{fs:Array Ad}(h:o.data=.fields fs):∀vs k,o≠Cy vs k:=λvs k e=>by rw[e]at h;(exfalso;injection h)
theorem WO{es:Array Em}(h:o.data=.dict es n):∀vs k,o≠Cy vs k:=λvs k e=>by rw[e]at h;(exfalso;injection h)
theorem Agb{u:Option Ad}(h:o.data=.cell u):∀vs k,o≠Cy vs k:=λvs k e=>by rw[e]at h;(exfalso;injection h)
theorem Ap.refl(l:Am):Ap D l l:=⟨AM _,λz o h=>⟨o,h,rfl⟩,λz z z=>rfl,λz h z=>h⟩
theorem Ap.weaken{l l':Am}(x:Ap No l l'):Ap D l l':=⟨x.len,x.kind,x.ad,λp h z=>x.oth p h (.inr id)⟩
theorem Ap.widen{D':Af->Prop}{l l':Am}(x:Ap D l l')(h:∀a,D a->D' a):Ap D' l l':=⟨x.len,x.kind,x.ad,λp hp q=>x.oth p hp (q.imp id λn d=>n (h _ d))⟩
theorem Ap.narrow{D':Af->Prop}{l l':Am}(x:Ap D l l')(h:∀p,AS l p->D p.1->D' p.1):Ap D' l l':=⟨x.len,x.kind,x.ad,λp hp q=>x.oth p hp (q.imp id λn d=>n (h _ hp d))⟩
theorem Ap.all{l l':Am}(x:Ap No l l'){p:Af×AU}(h:AS l p):AS l' p:=x.oth p h (.inr id)
theorem Ap.trans{a b c:Am}(x:Ap D a b)(y:Ap D b c):Ap D a c :=
 ⟨AE x.len y.len,
   λi o h=>by
  refine Ah (x.kind i o h) ?_;rintro o' h' e;refine Ah (y.kind i o' h') ?_;rintro o'' h'' e';exact⟨o'',h'',e'.trans e⟩,
   λi b h=>(y.ad i b (Fb h x.len)).trans (x.ad i b h),λp h q=>y.oth p (x.oth p h q) q⟩
theorem AA.ind{l:Am}{P:List Ad->List CV->Prop}(hn:P [] [])(hc:∀{v vs c cs},VR l v c->AA l vs cs->P vs cs->P (v::vs) (c::cs)){vs:List Ad}{cs:List CV}(h:AA l vs cs):P vs cs :=
 AA.rec (motive_1:=λz z z=>True) (motive_2:=λvs cs z=>P vs cs) trivial (λz=>trivial) (λz z=>trivial) (λz z=>trivial) (λz z z=>trivial) (λz z=>trivial) hn (λa r z ih=>hc a r ih) h
theorem AA.cons_inv{l:Am}{c:CV}{cs:List CV}(h:AA l vs (c::cs)):∃v ws,vs=v::ws/\VR l v c/\AA l ws cs:=by
 rcases h with _ | ⟨a,r⟩
 exact⟨_,_,rfl,a,r⟩
theorem AA.nil_inv{l:Am}(h:AA l vs []):vs=[]:=by
 rcases h with _ | _
 rfl
theorem VR.mono{l l':Am}(x:Ap D l l'){v:Ad}{c:CV}(h:VR l v c):VR l' v c :=
 VR.rec (motive_1:=λv c z=>VR l' v c) (motive_2:=λvs cs z=>AA l' vs cs) .none .bool .int .str (λh z r=>.tup (x.oth _ h (.inl ⟨_,_,rfl⟩)) r) (λh e=>.ref (Fb h x.len) ((x.ad _ _ h).trans e)) .nil (λz z a b=>.cons a b) h
theorem AA.mono{l l':Am}(x:Ap D l l'){vs:List Ad}{cs:List CV}(h:AA l vs cs):AA l' vs cs :=
 AA.rec (motive_1:=λv c z=>VR l' v c) (motive_2:=λvs cs z=>AA l' vs cs) .none .bool .int .str (λh z r=>.tup (x.oth _ h (.inl ⟨_,_,rfl⟩)) r) (λh e=>.ref (Fb h x.len) ((x.ad _ _ h).trans e)) .nil (λz z a b=>.cons a b) h
theorem Dr.mono{l l':Am}(x:Ap D l l'){es:List Em}{as:List (Ac×CV)}(h:Dr l es as):Dr l' es as :=
 Dr.rec (motive:=λes as z=>Dr l' es as) .nil (λa z r=>.cons (a.mono x) r) h
theorem BJ.mono{l l':Am}(x:Ap D l l'){es:List (Int×Ad)}{as:List (Int×CV)}(h:BJ l es as):BJ l' es as :=
 BJ.rec (motive:=λes as z=>BJ l' es as) .nil (λa z r=>.cons (a.mono x) r) h
section
variable {prog:CJ}{w:BK}{l l':Am}
theorem LR.own(R:LR prog w l){i:Nat}{b:Bool}(h:Hu l.σ i b):∃ob,(l.ad i b,ob)∈l.Φ:=by
 refine Ah h ?_;clear h;rintro o h hb;have z:=R.obj i o h;rcases o with vs | es | ⟨C,as⟩
 ·refine Bg z ?_;clear z;rintro ws k hm _;rcases b with _ | _
  ·exact⟨_,hm⟩
  ·have z0:_=_:=hb rfl;exfalso;injection z0
 ·refine Bg z ?_;clear z;rintro ob kvs hm _;rcases b with _ | _
  ·exact⟨_,hm⟩
  ·have z0:_=_:=hb rfl;exfalso;injection z0
 ·refine Br z ?_;clear z;rintro es k hm hm' _;rcases b with _ | _
  ·exact⟨_,hm⟩
  ·exact⟨_,hm'⟩
theorem OR.mono(x:Ap D l l'){i:Nat}{o:CO}(hi:i<l.σ.length)(z:OR prog w l i o)(hs:∀b ob,(b=true->o.isInst=true)->(l.ad i b,ob)∈l.Φ->(l.ad i b,ob)∈l'.Φ):OR prog w l' i o:=by
 have e:=λb=>x.ad i b hi;rcases o with vs | es | ⟨C,as⟩
 ·refine Bg z ?_;clear z;rintro ws k hm r;exact⟨ws,k,by rw[e];exact hs _ _ (λz=>nomatch z) hm,r.mono x⟩
 ·refine Cq z ?_;clear z;rintro ob kvs hm c d r;exact⟨ob,kvs,by rw[e];exact hs _ _ (λz=>nomatch z) hm,by rw[e];exact c,d,r.mono x⟩
 ·refine Br z ?_;clear z;rintro es k hm hm' r;exact⟨es,k,by rw[e,e];exact hs _ _ (λz=>nomatch z) hm,by rw[e];exact hs _ _ (λq=>rfl) hm',r.mono x⟩
theorem Ap.junk{N:List (Af×AU)}(e:l'={ l with Φ:=N++l.Φ }):Ap No l l':=by
 subst e;exact⟨AM _,λz o h=>⟨o,h,rfl⟩,λz z z=>rfl,λp h z=>⟨CC _ h.1,h.2⟩⟩
theorem LR.junk(R:LR prog w l){N:List (Af×AU)}(e:l'={ l with Φ:=N++l.Φ })(nd:((N++l.Φ).map (·.1)).Nodup):LR prog w l':=by
 have x:=Ap.junk e;subst e;exact⟨nd,R.inj,λi o h=>OR.mono x (DT.mp h).1 (R.obj i o h) λz z z hm=>CC _ hm⟩
theorem LR.junk_oth(R:LR prog w l){N:List (Af×AU)}(e:l'={ l with Φ:=N++l.Φ })(nd:((N++l.Φ).map (·.1)).Nodup){p:Af×AU}(hp:p∈N):AS l' p:=by
 subst e;refine⟨Cg _ hp,λi b ho q => ?_⟩;refine AK (R.own ho) ?_;rintro ob hm;rw[BP]at nd;exact(F7.mp nd).2.2 p.1 (Du (f:=(·.1)) hp) _ (Du (f:=(·.1)) hm) q.symm
theorem RN{σ:CH}{co:CO}(h:Hu (σ++[co]) i b):(i<σ.length/\Hu σ i b)\/(i=σ.length/\(b=true->co.isInst=true)):=by
 refine Ah h ?_;clear h;rintro o h hb;rcases U0 i σ.length with q | q | q
 ·rw[GH q]at h;exact .inl ⟨q,o,h,hb⟩
 ·subst q;rw[JC (AM _),Mf]at h;injection h with za;subst za
  exact .inr ⟨rfl,hb⟩
 ·rw[JC (DI q),GI (by simp;exact Ae2 q)]at h
  exfalso;injection h
structure K5(l l':Am)(co:CO)(N:List (Af×AU)):Prop where
 Φ:l'.Φ=N++l.Φ
 σ:l'.σ=l.σ++[co]
 ad:∀i b,i<l.σ.length->l'.ad i b=l.ad i b
 new:∀b,(b=true->co.isInst=true)->l'.ad l.σ.length b∈N.map (·.1)
 nd:((N++l.Φ).map (·.1)).Nodup
 apart:l'.ad l.σ.length false=l'.ad l.σ.length true->co.isInst=false
theorem K5.ext{co:CO}{N:List (Af×AU)}(g:K5 l l' co N):Ap No l l':=by
 refine⟨by rw[g.σ,Bl];exact Hf _ _,λi o h=>⟨o,by rw[g.σ,GH (DT.mp h).1,h],rfl⟩,g.ad,λp h z=>⟨by rw[g.Φ];exact CC _ h.1,λi b ho q => ?_⟩⟩
 rw[g.σ]at ho;rcases RN ho with⟨hi,ho⟩ | ⟨rfl,hb⟩
 ·rw[g.ad i b hi]at q;exact h.2 i b ho q
 ·have nd:=g.nd;rw[BP]at nd;exact(F7.mp nd).2.2 _ (g.new b hb) _ (Du (f:=(·.1)) h.1) q
theorem K5.lr{co:CO}{N:List (Af×AU)}(g:K5 l l' co N)(R:LR prog w l)(o:OR prog w l' l.σ.length co):LR prog w l':=by
 have x:=g.ext;have nd:=g.nd;have nd':=nd;rw[BP]at nd';have dis:∀i b c,Hu l.σ i b->(c=true->co.isInst=true)->l.ad i b≠l'.ad l.σ.length c:=λi b c ho hc q=>by
  refine AK (R.own ho) ?_;rintro ob hm;exact(F7.mp nd').2.2 _ (g.new c hc) _ (Du (f:=(·.1)) hm) q.symm
 refine⟨by rw[g.Φ];exact nd,λi j a b hi hj q => ?_,λi o' h => ?_⟩
 ·rw[g.σ]at hi hj;rcases RN hi with⟨li,hi⟩ | ⟨rfl,ha⟩<;>rcases RN hj with⟨lj,hj⟩ | ⟨rfl,hb⟩
  ·rw[g.ad i a li,g.ad j b lj]at q;exact R.inj i j a b hi hj q
  ·rw[g.ad i a li]at q;exact absurd q (dis i a b hi hb)
  ·rw[g.ad j b lj]at q;exact absurd q.symm (dis j b a hj ha)
  ·refine⟨rfl,?_⟩;rcases a with⟨⟩<;>rcases b with⟨⟩
   ·rfl
   ·have z:=g.apart q;rw[hb rfl]at z;(exfalso;injection z)
   ·have z:=g.apart q.symm;rw[ha rfl]at z;(exfalso;injection z)
   ·rfl
 ·rw[g.σ]at h;rcases Aa8 i l.σ.length with li | li
  ·rw[GH li]at h;exact OR.mono x li (R.obj i o' h) λy y y hm=>by rw[g.Φ];exact CC _ hm
  ·rw[JC li]at h;have:i=l.σ.length:=by
    have:=(DT.mp h).1;simp at this;exact Ae1 li this
   subst this;rw[Mf]at h;injection h with za;subst za
   exact o
theorem RO{σ:CH}{co co':CO}(h:σ[i]? = some co)(k:co'.isInst=co.isInst){j:Nat}{b:Bool}:Hu (σ.set i co') j b↔Hu σ j b:=by
 unfold Hu
 by_cases q:i=j
 ·subst q;have:=(DT.mp h).1;rw[Aa9 this,h];simp only[Aba,exists_eq_left'];rw[k]
 ·rw[Hg q]
structure GO(l l':Am)(i:Nat)(co co':CO)(b:Bool)(ob ob':AU):Prop where
 at_:l.σ[i]? = some co
 kind:co'.isInst=co.isInst
 own:b=true->co.isInst=true
 σ:l'.σ=l.σ.set i co'
 ad:l'.ad=l.ad
 Φ:∃pre post,l.Φ=pre++(l.ad i b,ob)::post/\l'.Φ=pre++(l.ad i b,ob')::post
theorem GO.mem{co co':CO}{ob:AU}(t:GO l l' i co co' b ob ob'){p:Af×AU}(h:p∈l.Φ)(n:p.1≠l.ad i b):p∈l'.Φ:=by
 refine Bg t.Φ ?_;rintro pre post e e';rw[e]at h;rw[e'];rcases BM.mp h with h | h
 ·exact Cg _ h
 ·rcases AV.mp h with rfl | h
  ·exact absurd rfl n
  ·exact CC _ (.tail _ h)
theorem GO.new{co co':CO}{ob:AU}(t:GO l l' i co co' b ob ob'):(l.ad i b,ob')∈l'.Φ:=by
 refine Bg t.Φ ?_;rintro pre post e e';rw[e'];exact CC _ (.head _)
theorem GO.keys{co co':CO}{ob:AU}(t:GO l l' i co co' b ob ob'):l'.Φ.map (·.1)=l.Φ.map (·.1):=by
 refine Bg t.Φ ?_;rintro pre post e e';rw[e,e'];simp
theorem GO.ext{co co':CO}{ob:AU}(t:GO l l' i co co' b ob ob'):Ap No l l':=by
 refine⟨by rw[t.σ,Hh];exact AM _,λj o h => ?_,λj c z=>by rw[t.ad],λp h z=>⟨t.mem h.1 λq=>h.2 i b ⟨co,t.at_,t.own⟩ q.symm,λj c ho => ?_⟩⟩
 ·by_cases q:i=j
  ·subst q;rw[t.at_]at h;injection h with za;subst za
   exact⟨co',by rw[t.σ,Aa9 (DT.mp t.at_).1],t.kind⟩
  ·exact⟨o,by rw[t.σ,Hg q,h],rfl⟩
 ·rw[t.σ]at ho;rw[t.ad];exact h.2 j c ((RO t.at_ t.kind).mp ho)
theorem GO.lr{co co':CO}{ob:AU}(t:GO l l' i co co' b ob ob')(R:LR prog w l)(o:OR prog w l' i co'):LR prog w l':=by
 have x:=t.ext;refine⟨by rw[t.keys];exact R.nd,λj k a c hj hk q => ?_,λj o' h => ?_⟩
 ·rw[t.σ]at hj hk;rw[t.ad]at q;exact R.inj j k a c ((RO t.at_ t.kind).mp hj) ((RO t.at_ t.kind).mp hk) q
 ·rw[t.σ]at h
  by_cases q:i=j
  ·subst q;rw[Aa9 (DT.mp t.at_).1]at h;injection h with za;subst za
   exact o
  ·rw[Hg q]at h;refine OR.mono x (DT.mp h).1 (R.obj j o' h) λc ob'' hc hm=>t.mem hm λe => ?_;exact q (R.inj j i c b ⟨o',h,hc⟩ ⟨co,t.at_,t.own⟩ e).1.symm
theorem WQ{a:Af}{pre:List (Af×AU)}(R:LR prog w l)(e:l.Φ=pre++(a,o)::post)(h1:∀p∈pre,p.1≠a)(h2:∀p∈post,p.1≠a)(ho:AS l (a,o))(hc:∀vs k,o≠Cy vs k)
  (e':l'={ l with Φ:=pre++(a,o')::post }):Ap (·=a) l l'/\LR prog w l'/\AS l' (a,o'):=by
 have mem:∀p∈l.Φ,p.1≠a->p∈l'.Φ:=λp hp hn=>by
  rw[e]at hp;subst e';rcases BM.mp hp with hp | hp
  ·exact Cg _ hp
  ·rcases AV.mp hp with rfl | hp
   ·exact absurd rfl hn
   ·exact CC _ (.tail _ hp)
 have new:(a,o')∈l'.Φ:=by subst e';exact CC _ (.head _)
 have hσ:l'.σ=l.σ:=by subst e';rfl
 have had:l'.ad=l.ad:=by subst e';rfl
 have x:Ap (·=a) l l':=by
  refine⟨by rw[hσ];exact AM _,λi o h=>⟨o,by rw[hσ];exact h,rfl⟩,λy y y=>by rw[had],λp hp hq=>⟨mem p hp.1 λea => ?_,λi b hi => ?_⟩⟩
  ·rcases hq with hq | hq
   ·have:p=(a,o):=by
     have hp1:=hp.1;rw[e]at hp1;rcases BM.mp hp1 with z | z
     ·exact absurd ea (h1 p z)
     ·rcases AV.mp z with rfl | z
      ·rfl
      ·exact absurd ea (h2 p z)
    subst this;refine HY hq ?_;clear hq;rintro vs k hq;exact hc vs k hq
   ·exact hq ea
  ·rw[hσ]at hi;rw[had];exact hp.2 i b hi
 refine⟨x,⟨?_,?_,?_⟩,new,λi b hi => ?_⟩
 ·have nd:=R.nd;rw[e]at nd;subst e'
  simpa using nd
 ·intro i j a b hi hj q;rw[hσ]at hi hj;rw[had]at q;exact R.inj i j a b hi hj q
 ·intro i co h;rw[hσ]at h;refine OR.mono x (DT.mp h).1 (R.obj i co h) λb ob hb hm=>mem _ hm λea=>ho.2 i b ⟨co,h,hb⟩ ea
 ·rw[hσ]at hi;rw[had];exact ho.2 i b hi
end
end
variable {cs cvs:List CV}{l l' l0 l1:Am}{σ σ' σ0:CH}{co co':CO}{as:List (Ac×CV)}{cv:CV}
section
theorem Ax{x:α}(h:(none:Option α)=some x):False:=nomatch h
structure CX where
 cls:Af
 as:List (Ac×CV)
inductive B8(α:Type) where
 | stuck
 | ok (a:α) (σ:CH)
 | exc (x:CX) (σ:CH)
theorem B8.ok_inj{a b:α}{τ:CH}(h:B8.ok a σ=.ok b τ):a=b/\σ=τ:=by(injection h with za zb;subst za;subst zb);exact⟨rfl,rfl⟩
noncomputable abbrev CM(α:Type):=CH->B8 α
noncomputable def ret(a:α):CM α:=λσ=>.ok a σ
noncomputable def Ar:CM α:=λz=>.stuck
noncomputable def bnd(x:CM α)(f:α->CM β):CM β:=λσ=>match x σ with
 | .ok a σ'=>f a σ'
 | .exc x σ'=>.exc x σ'
 | .stuck=>.stuck
structure FC where
 prog:CJ
 w:BK
 K:Bk
 p:CJ
 loose:List Ac
 mean:ExcName->Option Ad
 mg:Ac->Option Ad
 mb:Ac->Option Ad
 A:CK
 A₀:CK
 base:Bb
 outer:List Env
 h₀:Bb
 L:Af
 fenv:Env
noncomputable abbrev FC.M(c:FC):KG:=model c.prog c.w
structure AL(c:FC)(d:Nat):Prop where
 below:Below c.A₀ c.base c.outer c.h₀
 kin:c.K.In c.h₀
 top:Top c.p c.loose c.mean c.mg c.mb c.h₀
 frames:c.A.frames=some (c.fenv::c.outer)
 frame:c.fenv.frame=some c.L
 kind:c.fenv.scope.kind=.function
 depth:c.A.depth+10*d<=900
 units:c.A.units+100*d<=9000
 handled:c.A.handled=none
structure St(c:FC)(m:Ac->Option Ad)(l:Am)(h:Bb):Prop where
 fr:Fr c.h₀ c.L h m
 nw:CL c.h₀ c.L h l.Φ
 lr:LR c.prog c.w l
noncomputable abbrev Bm:=Am->CX->Ad->Bb->Prop
def Aa(c:FC)(FX:Bm)(m:Ac->Option Ad)(l:Am)(t:Sem α)(f:CM β)(V:Am->α->β->Prop):Prop :=
 ∀(s:Aq) (Q:α->Aq->Prop) (E:Ad->Aq->Prop),St c m l s.heap ->
  (∀b l' a h' tk,f l.σ=.ok b l'.σ->St c m l' h'->Ap No l l'->V l' a b->Q a (put s h' tk)) ->
  (∀x l' e h' tk,f l.σ=.exc x l'.σ->Ap No l l'->FX l' x e h'->E e (put s h' tk)) ->
  f l.σ≠.stuck->wpAny c.M c.A t Q E s
section
variable {α β γ δ:Type}{c:FC}{FX:Bm}{m:Ac->Option Ad}{l:Am}
theorem Aa.pure{a:α}{b:β}{V:Am->α->β->Prop}(h:V l a b):Aa c FX m l (Om a:Sem α) (ret b) V :=
 λs Q E st ok z z=>AD (ok b l a s.heap s.toks rfl st (Ap.refl l) h)
theorem Aa.bind{t:Sem α}{f:CM β}{g:α->Sem γ}{k:β->CM δ}{V:Am->α->β->Prop}{V2:Am->γ->δ->Prop}(h:Aa c FX m l t f V)
  (h2:∀a b l',f l.σ=.ok b l'.σ->Ap No l l'->V l' a b->Aa c FX m l' (g a) (k b) V2):Aa c FX m l (t >>= g) (bnd f k) V2:=by
 intro s Q E st ok exc ns;refine Aj (h s _ E st (λb l' a h' tk e st' x v => ?_) (λx l' e h' tk hx xx fx => ?_) ?_)
 ·have eb:bnd f k l.σ=k b l'.σ:=by unfold bnd;rw[e]
  rw[eb]at ok exc ns;refine h2 a b l' e x v _ Q E st' (λb2 l2 a2 h2' tk2 e2 st2 x2 v2 => ?_) (λx2 l2 e2 h2' tk2 hx2 xx2 fx2 => ?_) ns
  ·exact ok b2 l2 a2 h2' tk2 e2 st2 (x.trans x2) v2
  ·exact exc x2 l2 e2 h2' tk2 hx2 (x.trans xx2) fx2
 ·exact exc x l' e h' tk (by unfold bnd;rw[hx]) xx fx
 ·intro q;exact ns (by unfold bnd;rw[q])
theorem Aa.mono{t:Sem α}{f:CM β}{V V':Am->α->β->Prop}(h:Aa c FX m l t f V)(hv:∀l' a b,V l' a b->V' l' a b):Aa c FX m l t f V' :=
 λs Q E st ok exc ns=>h s Q E st (λb l' a h' tk e st' x v=>ok b l' a h' tk e st' x (hv _ _ _ v)) exc ns
theorem Aa.hold{t:Sem α}{f:CM β}{V:Am->α->β->Prop}(vs:List Ad)(h:Aa c FX m l t f V):Aa c FX m l (holding vs t) f V :=
 λs Q E st ok exc ns=>Dp (h s Q E st ok exc ns)
theorem Aa.stand{t:Sem α}{f:CM β}{V:Am->α->β->Prop}(pos:Pos)(h:Aa c FX m l t f V):Aa c FX m l (standAt pos >>= λz=>t) f V :=
 λs Q E st ok exc ns=>Aj (F8 (h s Q E st ok exc ns))
theorem Aa.stuck{t:Sem α}{V:Am->α->β->Prop}:Aa c FX m l t Ar V:=λz z z z z z ns=>absurd rfl ns
theorem Aa.operate{f:CM β}{V:Am->Ad->β->Prop}(h:Aa c FX m l t f V):Aa c FX m l (operate vs t) f V :=
 λs Q E st ok exc ns=>wpAny_operate' (h s Q E st ok exc ns)
theorem Aa.of_eq{t:Sem α}{f f':CM β}{V:Am->α->β->Prop}(h:Aa c FX m l t f' V)(e:f=f'):Aa c FX m l t f V:=e▸h
theorem Aa.now{t:Sem α}{b:β}{V:Am->α->β->Prop}(h:∀(s:Aq) (Q:α->Aq->Prop) (E:Ad->Aq->Prop),St c m l s.heap->(∀a tk,V l a b->Q a { s with toks:=tk })->wpAny c.M c.A t Q E s) :
  Aa c FX m l t (ret b) V:=λs Q E st ok z z=>h s Q E st λa tk v=>ok b l a s.heap tk rfl st (Ap.refl l) v
end
theorem RP{c:Prop}[Decidable c]{a k:α}(h:(if c then some a else none)=some k):c/\a=k:=by
 by_cases q:c
 ·exact⟨q,Ay ((if_pos q).symm.trans h)⟩
 ·exact(Ax ((if_neg q).symm.trans h)).elim
theorem WS{c:Prop}[Decidable c]{a b r:α}(h:(if c then a else b)=r):(c/\a=r)\/b=r:=by
 by_cases q:c
 ·exact .inl ⟨q,(if_pos q).symm.trans h⟩
 ·exact .inr ((if_neg q).symm.trans h)
noncomputable def Cc(e:Expr):Option (Ac×Pos):=if h:e.ctorIdx=23 then some (Apu (motive_1:=λz=>Ac×Pos) e h λx p=>(x,p))else none
theorem FH{q:Ac×Pos}(h:Cc e=some q):e=.Name q.1 q.2:=by
 by_cases K:e.ctorIdx=23
 ·have K0:=K;revert h K;refine Apu (motive_1:=λe=>Cc e=some q->e.ctorIdx=23->e=.Name q.1 q.2) e K0 λx p h k0 => ?_;obtain rfl:(x,p)=q:=Ay ((dif_pos k0).symm.trans h);rfl
 ·exact(Ax ((dif_neg K).symm.trans h)).elim
noncomputable def MA(e:Expr):Option (Expr×List Expr×List U3×Pos):=if h:e.ctorIdx=16 then some (Abb (motive_1:=λz=>Expr×List Expr×List U3×Pos) e h λf a k p=>(f,a,k,p))else none
theorem WT{q:Expr×List Expr×List U3×Pos}(h:MA e=some q):e=.Call q.1 q.2.1 q.2.2.1 q.2.2.2:=by
 by_cases K:e.ctorIdx=16
 ·have K0:=K;revert h K;refine Abb (motive_1:=λe=>MA e=some q->e.ctorIdx=16->e=.Call q.1 q.2.1 q.2.2.1 q.2.2.2) e K0 λf a k p h k0 => ?_;obtain rfl:(f,a,k,p)=q:=Ay ((dif_pos k0).symm.trans h);rfl
 ·exact(Ax ((dif_neg K).symm.trans h)).elim
noncomputable def Fe(e:Expr):Option (Expr×Ac×Pos):=if h:e.ctorIdx=20 then some (Apv (motive_1:=λz=>Expr×Ac×Pos) e h λo a p=>(o,a,p))else none
theorem MB{q:Expr×Ac×Pos}(h:Fe e=some q):e=.Attribute q.1 q.2.1 q.2.2:=by
 by_cases K:e.ctorIdx=20
 ·have K0:=K;revert h K;refine Apv (motive_1:=λe=>Fe e=some q->e.ctorIdx=20->e=.Attribute q.1 q.2.1 q.2.2) e K0 λo a p h k0 => ?_;obtain rfl:(o,a,p)=q:=Ay ((dif_pos k0).symm.trans h);rfl
 ·exact(Ax ((dif_neg K).symm.trans h)).elim
noncomputable def FI(e:Expr):Option (List Expr×Nat×Pos):=if h:e.ctorIdx=25 then some (Abd (motive_1:=λz=>List Expr×Nat×Pos) e h λes c p=>(es,c,p))else none
theorem MC{q:List Expr×Nat×Pos}(h:FI e=some q):e=.Tuple q.1 q.2.1 q.2.2:=by
 by_cases K:e.ctorIdx=25
 ·have K0:=K;revert h K;refine Abd (motive_1:=λe=>FI e=some q->e.ctorIdx=25->e=.Tuple q.1 q.2.1 q.2.2) e K0 λes c p h k0 => ?_;obtain rfl:(es,c,p)=q:=Ay ((dif_pos k0).symm.trans h);rfl
 ·exact(Ax ((dif_neg K).symm.trans h)).elim
noncomputable def O7(e:AN):Option (Expr×Pos):=if h:e.ctorIdx=24 then some (Abe (motive_2:=λz=>Expr×Pos) e h λe p=>(e,p))else none
theorem WU{e:AN}{q:Expr×Pos}(h:O7 e=some q):e=.Expr q.1 q.2:=by
 by_cases K:e.ctorIdx=24
 ·have K0:=K;revert h K;refine Abe (motive_2:=λe=>O7 e=some q->e.ctorIdx=24->e=.Expr q.1 q.2) e K0 λe p h k0 => ?_;obtain rfl:(e,p)=q:=Ay ((dif_pos k0).symm.trans h);rfl
 ·exact(Ax ((dif_neg K).symm.trans h)).elim
noncomputable def RQ(e:AN):Option (Option Expr×Pos):=if h:e.ctorIdx=3 then some (Abf (motive_2:=λz=>Option Expr×Pos) e h λv p=>(v,p))else none
theorem Agc{e:AN}{q:Option Expr×Pos}(h:RQ e=some q):e=.Return q.1 q.2:=by
 by_cases K:e.ctorIdx=3
 ·have K0:=K;revert h K;refine Abf (motive_2:=λe=>RQ e=some q->e.ctorIdx=3->e=.Return q.1 q.2) e K0 λv p h k0 => ?_;obtain rfl:(v,p)=q:=Ay ((dif_pos k0).symm.trans h);rfl
 ·exact(Ax ((dif_neg K).symm.trans h)).elim
noncomputable def RS(e:AN):Option (List AN×List Mg×List AN×List AN×Pos):=if h:e.ctorIdx=17 then some (Apw (motive_2:=λz=>List AN×List Mg×List AN×List AN×Pos) e h λb hs o f p=>(b,hs,o,f,p))else none
theorem Agd{e:AN}{q:List AN×List Mg×List AN×List AN×Pos}(h:RS e=some q):e=.Try q.1 q.2.1 q.2.2.1 q.2.2.2.1 q.2.2.2.2:=by
 by_cases K:e.ctorIdx=17
 ·have K0:=K;revert h K;refine Apw (motive_2:=λe=>RS e=some q->e.ctorIdx=17->e=.Try q.1 q.2.1 q.2.2.1 q.2.2.2.1 q.2.2.2.2) e K0 λb hs o f p h k0 => ?_;obtain rfl:(b,hs,o,f,p)=q:=Ay ((dif_pos k0).symm.trans h);rfl
 ·exact(Ax ((dif_neg K).symm.trans h)).elim
noncomputable def RT(e:AN):Option (List Expr×Expr×Pos):=if h:e.ctorIdx=5 then some (Abg (motive_2:=λz=>List Expr×Expr×Pos) e h λt v p=>(t,v,p))else none
theorem Age{e:AN}{q:List Expr×Expr×Pos}(h:RT e=some q):e=.Assign q.1 q.2.1 q.2.2:=by
 by_cases K:e.ctorIdx=5
 ·have K0:=K;revert h K;refine Abg (motive_2:=λe=>RT e=some q->e.ctorIdx=5->e=.Assign q.1 q.2.1 q.2.2) e K0 λt v p h k0 => ?_;obtain rfl:(t,v,p)=q:=Ay ((dif_pos k0).symm.trans h);rfl
 ·exact(Ax ((dif_neg K).symm.trans h)).elim
noncomputable def O8(e:Expr):Option (Expr×List Hi×Scope×Pos):=if h:e.ctorIdx=8 then some (Abh (motive_1:=λz=>Expr×List Hi×Scope×Pos) e h λa b c d=>(a,b,c,d))else none
theorem Agf{q:Expr×List Hi×Scope×Pos}(h:O8 e=some q):e=.ListComp q.1 q.2.1 q.2.2.1 q.2.2.2:=by
 by_cases K:e.ctorIdx=8
 ·have K0:=K;revert h K;refine Abh (motive_1:=λe=>O8 e=some q->e.ctorIdx=8->e=.ListComp q.1 q.2.1 q.2.2.1 q.2.2.2) e K0 λa b c d h k0 => ?_;obtain rfl:(a,b,c,d)=q:=Ay ((dif_pos k0).symm.trans h);rfl
 ·exact(Ax ((dif_neg K).symm.trans h)).elim
noncomputable def K6(e:Expr):Option (Expr×Expr×Pos):=if h:e.ctorIdx=21 then some (Apx (motive_1:=λz=>Expr×Expr×Pos) e h λo i p=>(o,i,p))else none
theorem Agg{q:Expr×Expr×Pos}(h:K6 e=some q):e=.Subscript q.1 q.2.1 q.2.2:=by
 by_cases K:e.ctorIdx=21
 ·have K0:=K;revert h K;refine Apx (motive_1:=λe=>K6 e=some q->e.ctorIdx=21->e=.Subscript q.1 q.2.1 q.2.2) e K0 λo i p h k0 => ?_;obtain rfl:(o,i,p)=q:=Ay ((dif_pos k0).symm.trans h);rfl
 ·exact(Ax ((dif_neg K).symm.trans h)).elim
noncomputable def K7(e:Expr):Option (Option Expr×Option Expr×Option Expr×Pos):=if h:e.ctorIdx=26 then some (Apy (motive_1:=λz=>Option Expr×Option Expr×Option Expr×Pos) e h λa b st p=>(a,b,st,p))else none
theorem Agh{q:Option Expr×Option Expr×Option Expr×Pos}(h:K7 e=some q):e=.Slice q.1 q.2.1 q.2.2.1 q.2.2.2:=by
 by_cases K:e.ctorIdx=26
 ·have K0:=K;revert h K;refine Apy (motive_1:=λe=>K7 e=some q->e.ctorIdx=26->e=.Slice q.1 q.2.1 q.2.2.1 q.2.2.2) e K0 λa b st p h k0 => ?_;obtain rfl:(a,b,st,p)=q:=Ay ((dif_pos k0).symm.trans h);rfl
 ·exact(Ax ((dif_neg K).symm.trans h)).elim
theorem AQ{x:Option α}{f:α->Option β}{b:β}{R:Prop}(h:ob x f=some b)(k:∀a,x=some a->f a=some b->R):R:=by
 rcases x with _ | a
 ·exact(Ax h).elim
 ·exact k a rfl h
noncomputable def RU:List α->Option (α×List α)
 | a::r=>some (a,r)
 | []=>none
theorem WV{l:List α}{q:α×List α}(h:RU l=some q):l=q.1::q.2:=by
 rcases l with _ | ⟨a,r⟩
 ·exact(Ax h).elim
 ·obtain rfl:=Ay h;rfl
noncomputable def FJ:List α->Option α
 | [a]=>some a
 | _=>none
theorem JO{l:List α}{a:α}(h:FJ l=some a):l=[a]:=by
 rcases l with _ | ⟨b,_ | ⟨_,_⟩⟩
 ·exact(Ax h).elim
 ·obtain rfl:=Ay h;rfl
 ·exact(Ax h).elim
noncomputable def MD(gens:List Hi):Option (Expr×Expr×List Expr):=match FJ gens with
 | some g=>if g.is_async=0 then some (g.target,g.iter,g.ifs)else none
 | none=>none
theorem WW{gens:List Hi}{q:Expr×Expr×List Expr}(h:MD gens=some q):gens=[⟨q.1,q.2.1,q.2.2,0⟩]:=by
 unfold MD at h;rcases e:FJ gens with _ | g
 ·rw[e]at h;(exfalso;injection h)
 ·rw[e]at h;rcases g with⟨a,b,c,n⟩
  by_cases hn:n=0
  ·rw[<- Ay ((if_pos hn).symm.trans h),JO e,hn]
  ·have z0:_=_:=(if_neg hn).symm.trans h;exfalso;injection z0
noncomputable def ME:List α->Option Unit
 | []=>some ()
 | _=>none
theorem O9{l:List α}(h:ME l=some u):l=[]:=by
 rcases l with _ | ⟨_,_⟩
 ·rfl
 ·exact(Ax h).elim
noncomputable def JP(e:Expr):Option (Ac×Pos×List Expr×Pos):=ob (MA e) λk=>ob (Cc k.1) λf=>ob (ME k.2.2.1) λz=>some (f.1,f.2,k.2.1,k.2.2.2)
theorem WX{q:Ac×Pos×List Expr×Pos}(h:JP e=some q):e=.Call (.Name q.1 q.2.1) q.2.2.1 [] q.2.2.2:=by
 refine AQ h λk e1 h=>AQ h λf e2 h=>AQ h λz e3 h => ?_;obtain rfl:=Ay h;rw[WT e1,FH e2,O9 e3]
noncomputable def Pa:CV->Option (List CV)
 | .tup vs=>some vs
 | _=>none
theorem WY{v:CV}{vs:List CV}(h:Pa v=some vs):v=.tup vs:=by
 rcases v with _ | _ | _ | _ | ws | _
 case tup=>obtain rfl:=Ay h;rfl
 all_goals exact(Ax h).elim
end
variable {f:Expr->CM CV}{c c1:FC}{FX:FC->Bm}{g:Expr->CM Bool}{y:CX}
section
section
variable {c:FC}{m:Ac->Option Ad}{l:Am}{h h':Bb}
theorem AA.length(h:AA l vs cs):vs.length=cs.length :=
 h.ind (P:=λvs cs=>vs.length=cs.length) rfl λz z ih=>congrArg Abi ih
theorem AA.append{ds:List CV}(h:AA l vs cs)(k:AA l ws ds):AA l (vs++ws) (cs++ds) :=
 h.ind (P:=λvs cs=>AA l (vs++ws) (cs++ds)) k λa z ih=>.cons a ih
theorem AA.get{x:CV}(h:AA l vs cs):cs[i]? = some x->∃v,vs[i]? = some v/\VR l v x :=
 h.ind (P:=λvs cs=>∀i,cs[i]? = some x->∃v,vs[i]? = some v/\VR l v x) (λz e=>(Ax e).elim) (λa z ih i e=>by
  rcases i with _ | i
  ·obtain rfl:=Ay e;exact⟨_,rfl,a⟩
  ·exact ih i e) i
theorem AA.drop(n:Nat){vs:List Ad}{cs:List CV}(k:AA l vs cs):AA l (vs.drop n) (cs.drop n):=by
 revert n;refine AA.ind (P:=λvs cs=>∀n,AA l (vs.drop n) (cs.drop n)) (λn => ?_) (λh r ih n => ?_) k
 ·rw[Abj,Abj];exact .nil
 ·rcases n with _ | n
  ·exact .cons h r
  ·exact ih n
theorem AA.take(n:Nat){vs:List Ad}{cs:List CV}(k:AA l vs cs):AA l (vs.take n) (cs.take n):=by
 revert n;refine AA.ind (P:=λvs cs=>∀n,AA l (vs.take n) (cs.take n)) (λn => ?_) (λh r ih n => ?_) k
 ·rw[Apz,Apz];exact .nil
 ·rcases n with _ | n
  ·exact .nil
  ·exact .cons h (ih n)
theorem AA.flat(k:AA l vs cs):∀n,AA l (D9 n vs).flatten (D9 n cs).flatten:=by
 intro z1
 induction z1 with
 | zero =>
  exact .nil
 | succ n ih =>
  rw[U4,U4,U5,U5];exact k.append (ih)
theorem St.addL{D:Af}(st:St c m l h)(F':Fr c.h₀ c.L h' m)(N':CL c.h₀ c.L h' ((D,o)::l.Φ))(fr:∀p∈l.Φ,p.1≠D)(hi:co.isInst=false)
  (ho:∀l':Am,Ap No l l'->(D,o)∈l'.Φ->l'.ad l.σ.length false=D->OR c.prog c.w l' l.σ.length co) :
  ∃l':Am,l'.σ=l.σ++[co]/\St c m l' h'/\Ap No l l'/\VR l' (.ref D) (.ref l.σ.length):=by
 let l':Am:=⟨(D,o)::l.Φ,l.σ++[co],λi b=>if i=l.σ.length then(if b then D+1 else D)else l.ad i b⟩
 have g:K5 l l' co [(D,o)]:=by
  refine⟨rfl,rfl,λi b hi => ?_,λb hb => ?_,?_,λz=>hi⟩
  ·show(if i=l.σ.length then _ else _)=_;rw[if_neg (Cb hi)]
  ·rcases b with _ | _
   ·show(if l.σ.length=l.σ.length then _ else _)∈_;rw[if_pos rfl];exact .head _
   ·rw[hb rfl]at hi;(exfalso;injection hi)
  ·show(D::l.Φ.map (·.1)).Nodup;refine Dv.mpr ⟨λhm => ?_,st.lr.nd⟩;refine Ah (BH.mp hm) ?_;rintro p hp e;exact fr p hp e
 have ha:l'.ad l.σ.length false=D:=by show(if l.σ.length=l.σ.length then _ else _)=_;rw[if_pos rfl];rfl
 refine⟨l',rfl,⟨F',N',g.lr st.lr (ho l' g.ext (.head _) ha)⟩,g.ext,.ref ?_ ha⟩;show l.σ.length<(l.σ++[co]).length;simp
theorem St.addList{D:Af}{k:Nat}(st:St c m l h)(F':Fr c.h₀ c.L h' m)(N':CL c.h₀ c.L h' ((D,listOf ws.toArray k)::l.Φ))(fr:∀p∈l.Φ,p.1<D)(hv:AA l ws cs) :
  ∃l':Am,l'.σ=l.σ++[.list cs]/\St c m l' h'/\Ap No l l'/\VR l' (.ref D) (.ref l.σ.length) :=
 st.addL F' N' (λp hp=>Cb (fr p hp)) rfl λl' x hm ha=>⟨ws.toArray,k,by rw[ha];exact hm,by simpa using hv.mono x⟩
theorem St.addJ{D:Af}(st:St c m l h)(F':Fr c.h₀ c.L h' m)(N':CL c.h₀ c.L h' ((D,o)::l.Φ))(fr:∀p∈l.Φ,p.1≠D) :
  ∃l':Am,l'.σ=l.σ/\St c m l' h'/\Ap No l l'/\AS l' (D,o):=by
 have nd:(([(D,o)]++l.Φ).map (·.1)).Nodup:=by
  refine Dv.mpr ⟨λhm => ?_,st.lr.nd⟩;refine Ah (BH.mp hm) ?_;rintro p hp e;exact fr p hp e
 exact⟨{ l with Φ:=[(D,o)]++l.Φ },rfl,⟨F',N',st.lr.junk rfl nd⟩,Ap.junk rfl,st.lr.junk_oth rfl nd (.head _)⟩
theorem St.addTup{D:Af}{k:Nat}(st:St c m l h)(F':Fr c.h₀ c.L h' m)(N':CL c.h₀ c.L h' ((D,Cy ws k)::l.Φ))(fr:∀p∈l.Φ,p.1<D)(hv:AA l ws cs) :
  ∃l':Am,l'.σ=l.σ/\St c m l' h'/\Ap No l l'/\VR l' (.ref D) (.tup cs):=by
 refine BS (st.addJ F' N' λp hp=>Cb (fr p hp)) ?_;rintro l' e st' x ho;exact⟨l',e,st',x,.tup ho (hv.mono x)⟩
theorem St.list{a:Af}{vs:List CV}(st:St c m l h)(hv:VR l (.ref a) (.ref n))(hs:l.σ[n]? = some (.list vs)):∃ws k,(a,listOf ws k)∈l.Φ/\AA l ws.toList vs:=by
 rcases hv with _ | _ | _ | _ | _ | ⟨hl,ha⟩
 ·subst ha;exact st.lr.obj n _ hs
theorem St.isList{a:Af}{ws:Array Ad}{k:Nat}(st:St c m l h)(hm:(a,listOf ws k)∈l.Φ):h.IsList a ws:=⟨_,(st.nw _ hm).1,rfl,_,rfl⟩
theorem St.isTup{a:Af}{k:Nat}(st:St c m l h)(hm:AS l (a,Cy ws k)):IsTup h a ws.toArray:=⟨_,(st.nw _ hm.1).1,rfl,_,rfl⟩
theorem St.split{d:Af}(st:St c m l h)(hm:(d,o)∈l.Φ):∃pre post,l.Φ=pre++(d,o)::post/\(∀p∈pre,p.1≠d)/\∀p∈post,p.1≠d:=by
 refine HY (Abk hm) ?_;rintro pre post e;have nd:=st.lr.nd;rw[e,BP,Bo]at nd;have z:=F7.mp nd;refine⟨pre,post,e,λp hp q => ?_,λp hp q => ?_⟩
 ·exact z.2.2 p.1 (Du (f:=(·.1)) hp) d (.head _) q
 ·have:=(Dv.mp z.2.1).1;exact this (q▸Du (f:=(·.1)) hp)
theorem K8{d:Af}:∀{pre post:List (Af×AU)},(∀p∈pre,p.1≠d)->(∀p∈post,p.1≠d)->Upd d o o' (pre++(d,o)::post) (pre++(d,o')::post):=by
 intro z1
 induction z1 with
 | nil =>
  intro z4 z5 h2;exact .head h2
 | cons z2 z3 ih =>
  intro z6 h1 h2;exact .tail (h1 _ (.head _)) (ih (λp hp=>h1 p (.tail _ hp)) h2)
theorem Agi{d:Af}:∀{pre post:List (Af×AU)},(∀p∈pre,p.1≠d)->(∀p∈post,p.1≠d)->UpdF d o (pre++(d,o)::post) (λo'=>pre++(d,o')::post):=by
 intro z1
 induction z1 with
 | nil =>
  intro z4 z5 h2;exact .head h2
 | cons z2 z3 ih =>
  intro z6 h1 h2;exact .tail (h1 _ (.head _)) (ih (λp hp=>h1 p (.tail _ hp)) h2)
theorem St.turn{pre:List (Af×AU)}(st:St c m l h)(hs:l.σ[i]? = some co)(hk:co'.isInst=co.isInst)(hb:b=true->co.isInst=true)
  (e:l.Φ=pre++(l.ad i b,o)::post) (F':Fr c.h₀ c.L h' m) (N':CL c.h₀ c.L h' (pre++(l.ad i b,o')::post))
  (ho:∀l':Am,Ap No l l'->l'.ad=l.ad->(l.ad i b,o')∈l'.Φ->(∀p∈l.Φ,p.1≠l.ad i b->p∈l'.Φ)->OR c.prog c.w l' i co') :
  ∃l':Am,l'.σ=l.σ.set i co'/\St c m l' h'/\Ap No l l':=by
 let l':Am:=⟨pre++(l.ad i b,o')::post,l.σ.set i co',l.ad⟩
 have t:GO l l' i co co' b o o':=⟨hs,hk,hb,rfl,rfl,pre,post,e,rfl⟩;exact⟨l',rfl,⟨F',N',t.lr st.lr (ho l' t.ext rfl t.new λp hp n=>t.mem hp n)⟩,t.ext⟩
theorem St.turnList{cs':List CV}{ws ws':Array Ad}{k k':Nat}{pre:List (Af×AU)}(st:St c m l h)(hs:l.σ[i]? = some (.list cs))
  (e:l.Φ=pre++(l.ad i false,listOf ws k)::post) (F':Fr c.h₀ c.L h' m) (N':CL c.h₀ c.L h' (pre++(l.ad i false,listOf ws' k')::post)) (hv:AA l ws'.toList cs') :
  ∃l':Am,l'.σ=l.σ.set i (.list cs')/\St c m l' h'/\Ap No l l' :=
 st.turn (b:=false) hs rfl (λq=>nomatch q) e F' N' λl' x ea hm z=>⟨ws',k',by rw[ea];exact hm,hv.mono x⟩
end
end
section
noncomputable def small(n:Nat):Bool:=decide (n<=4000)
noncomputable def B2(vs:List CV):CM CV:=λσ=>if small vs.length=true then .ok (.ref σ.length) (σ++[.list vs])else .stuck
noncomputable def EV(vs:List CV):CM CV:=if small vs.length=true then ret (.tup vs)else Ar
noncomputable def WZ:CM CV:=λσ=>.ok (.ref σ.length) (σ++[.dict []])
noncomputable def listC(n:Nat):CM (List CV):=λσ=>match σ[n]? with
 | some (.list vs)=>if small vs.length=true then .ok vs σ else .stuck
 | _=>.stuck
noncomputable def Gj(op:HV)(a b:CV):CM CV:=match op,a,b with
 | .Add,.int x,.int y=>ret (.int (x+y))
 | .Sub,.int x,.int y=>ret (.int (x-y))
 | .Mult,.int x,.int y=>if x.natAbs<9223372036854775808 then ret (.int (x*y))else Ar
 | .FloorDiv,.int x,.int y=>if y≠0/\y.natAbs<1073741824 then ret (.int (x.fdiv y))else Ar
 | .Mod,.int x,.int y=>if y≠0 then ret (.int (x.fmod y))else Ar
 | .Add,.str x,.str y=>if small (x.length+y.length)=true then ret (.str (x++y))else Ar
 | .Add,.tup xs,.tup ys=>if small (xs.length+ys.length)=true then ret (.tup (xs++ys))else Ar
 | .Add,.ref i,.ref j=>bnd (listC i) λxs=>bnd (listC j) λys=>B2 (xs++ys)
 | .Mult,.ref i,.int n=>bnd (listC i) λxs=>if xs.length*n.toNat<=256/\-9223372036854775808<=n/\n<9223372036854775808 then B2 (D9 n.toNat xs).flatten else Ar
 | _,_,_=>Ar
section
variable {c:FC}{FX:Bm}{m:Ac->Option Ad}{l:Am}
theorem Gk(h:small n=true):n<=sizeLine:=by
 have:=of_decide_eq_true h;rw[F9];exact AfA this
theorem W0(hv:AA l vs cs):Aa c FX m l (newList vs) (B2 cs) VR:=by
 intro s Q E st ok exc ns;unfold B2 at ok ns
 by_cases hs:small cs.length=true
 ·rw[if_pos hs]at ok;refine newList_K st.fr st.nw (λD h' F' N' fr => ?_) (by rw[hv.length];exact Gk hs)
  refine BS (st.addList F' N' fr hv) ?_;rintro l' e st' x v;exact ok (.ref l.σ.length) l' _ h' s.toks (by rw[e]) st' x v
 ·rw[if_neg hs]at ns;exact absurd rfl ns
theorem Agj(hv:AA l vs cs):Aa c FX m l (newTuple vs) (EV cs) VR:=by
 intro s Q E st ok exc ns;unfold EV at ok ns
 by_cases hs:small cs.length=true
 ·rw[if_pos hs]at ok;refine newTuple_N st.fr st.nw (λh' F' N' => ?_) (by rw[hv.length];exact Gk hs)
  refine BS (st.addTup F' N' (λp hp=>BE (st.nw p hp).1) hv) ?_;rintro l' e st' x v;exact ok (.tup cs) l' _ h' s.toks (by rw[e];rfl) st' x v
 ·rw[if_neg hs]at ns;exact absurd rfl ns
set_option tactic.hygienic true in
theorem St.listC{a:Af}{h:Bb}(st:St c m l h)(hv:VR l (.ref a) (.ref n))(e:listC n l.σ=.ok cs σ') :
  σ'=l.σ/\l.σ[n]? = some (.list cs)/\small cs.length=true/\l.ad n false=a/\∃ws k,(a,listOf ws k)∈l.Φ/\AA l ws.toList cs:=by
 unfold Mine.Internal.listC at e
 split at e
 ·rename_i vs hs
  split at e
  ·rename_i hz;injection e with za zb;subst za;subst zb
   refine⟨rfl,hs,hz,?_,st.list hv hs⟩;rcases hv with _ | _ | _ | _ | _ | ⟨_,ha⟩
   ·exact ha
  ·exfalso;injection e
 ·exfalso;injection e
theorem W3{x:CX}:listC n σ≠.exc x σ':=by
 unfold listC
 split
 ·split<;>(intro q;(exfalso;injection q))
 ·intro q;(exfalso;injection q)
theorem Agk{x:Int}(h:x.natAbs<9223372036854775808):Builtin.Int.intBits x<=64:=intBits_le_64 (Afz h) (Afy h)
theorem Aa.getList{t:Sem α}{f:List CV->CM β}{V:Am->α->β->Prop}{a:Af}(hv:VR l (.ref a) (.ref n))
  (h:∀cs ws k,l.σ[n]? = some (.list cs)->small cs.length=true->l.ad n false=a->(a,listOf ws k)∈l.Φ->AA l ws.toList cs->Aa c FX m l t (f cs) V):Aa c FX m l t (bnd (listC n) f) V:=by
 intro s Q E st ok exc ns;rcases e:listC n l.σ with _ | ⟨cs,σ'⟩ | ⟨x,σ'⟩
 ·exact absurd (by unfold bnd;rw[e]) ns
 ·rcases st.listC hv e with⟨rfl,hs,hz,ha,ws,k,hm,hr⟩
  have eq:bnd (listC n) f l.σ=f cs l.σ:=by unfold bnd;rw[e]
  rw[eq]at ok exc ns;exact h cs ws k hs hz ha hm hr s Q E st ok exc ns
 ·exact absurd e W3
theorem Aa.guard{t:Sem α}{f:CM β}{V:Am->α->β->Prop}{p:Prop}[Decidable p](h:p->Aa c FX m l t f V):Aa c FX m l t (if p then f else Ar) V:=by
 by_cases hp:p
 ·rw[if_pos hp];exact h hp
 ·rw[if_neg hp];exact Aa.stuck
theorem Aa.ofRet{b:CV}(h:∀(s:Aq) (Q:Ad->Aq->Prop) (E:Ad->Aq->Prop),(∀a tk,VR l a b->Q a { s with toks:=tk })->St c m l s.heap->wpAny c.M c.A t Q E s):Aa c FX m l t (ret b) VR :=
 λs Q E st ok z z=>h s Q E (λa tk v=>ok b l a s.heap tk rfl st (Ap.refl l) v) st
set_option tactic.hygienic true in
theorem Agl{op:HV}{w:Ad}{a b:CV}(hv:VR l v a)(hw:VR l w b):Aa c FX m l (binaryOp op v w) (Gj op a b) VR:=by
 rcases op with _ | _ | _ | _ | _ | _ | _ | _ | _ | _ | _ | _ | _
 case Add =>
  rcases a with _ | _ | x | x | xs | i
  case int =>
   rcases b with _ | _ | y | _ | _ | _
   case int =>
    refine AK hv.int_inv ?_;rintro _ rfl;(refine AK hw.int_inv ?_;rintro _ rfl);exact Aa.ofRet λs Q E ok z=>PySem.P.add_int (ok _ _ (.int _ _))
   all_goals exact Aa.stuck
  case str =>
   rcases b with _ | _ | _ | y | _ | _
   case str =>
    refine AK hv.str_inv ?_;rintro _ rfl;(refine AK hw.str_inv ?_;rintro _ rfl);exact Aa.guard λhx=>Aa.ofRet λs Q E ok z=>PySem.SB.add (λt' k=>ok _ _ (.str _ _)) (Gk hx)
   all_goals exact Aa.stuck
  case tup =>
   rcases b with _ | _ | _ | _ | ys | _
   case tup =>
    refine Aa.guard λhx => ?_;refine CP hv.tup_inv ?_;rintro _ _ _ rfl ho hr;refine CP hw.tup_inv ?_;rintro _ _ _ rfl ho2 hr2;have hz:=of_decide_eq_true hx;have e1:=hr.length;have e2:=hr2.length;rename_i a1 vs1 k1 a2 vs2 k2;intro s Q E st ok _ _;have t1:=st.isTup ho;have t2:=st.isTup ho2;rcases vs1 with _ | ⟨v1,vs1⟩
    ·rcases hr with⟨⟩
     exact kde_addT0 st.fr st.nw t1 t2 rfl (by simp only[DU]at *;exact Afx e2 hz) (ok _ l _ s.heap s.toks rfl st (Ap.refl l) (.tup ho2 hr2))
    ·rcases vs2 with _ | ⟨v2,vs2⟩
     ·rcases hr2 with⟨⟩
      refine kde_addT1 st.fr st.nw t1 t2 (by simp) rfl (by simp only[BN,DU]at *;exact Afw e1 hz) (ok _ l _ s.heap s.toks rfl st (Ap.refl l) ?_)
      rw[Dw];exact .tup ho hr
     ·refine kde_addT st.fr st.nw t1 t2 (by simp) (by simp) (by simp only[BN]at *;exact Afv hz e1 e2) rfl λD h' F' N' fr => ?_
      refine BS (st.addTup F' N' fr (hr.append hr2)) ?_;rintro l' e st' x v;exact ok _ l' _ h' s.toks (by rw[e];rfl) st' x v
   all_goals exact Aa.stuck
  case ref =>
   rcases b with _ | _ | _ | _ | _ | j
   case ref =>
    refine AG hv.ref_inv ?_;rintro _ rfl hl ha;refine AG hw.ref_inv ?_;rintro _ rfl hl2 ha2;refine Aa.getList (.ref hl ha) λxs ws k hs hz z hm hr=>Aa.getList (.ref hl2 ha2) λys ws2 k2 hs2 hz2 z hm2 hr2 => ?_;intro s Q E st ok _ ns;unfold B2 at ok ns
    by_cases hx:small (xs++ys).length=true
    ·rw[if_pos hx]at ok;have e1:=hr.length;have e2:=hr2.length;refine kmk_add_lit st.fr st.nw (st.isList hm) (st.isList hm2) rfl (λD h' F' N' fr => ?_) (by rw[e1,e2,<- Bl];exact Gk hx)
     refine BS (st.addList F' N' fr (hr.append hr2)) ?_;rintro l' e st' x v;exact ok _ l' _ h' s.toks (by rw[e]) st' x v
    ·rw[if_neg hx]at ns;exact absurd rfl ns
   all_goals exact Aa.stuck
  all_goals exact Aa.stuck
 case Sub =>
  rcases a with _ | _ | x | _ | _ | _
  case int =>
   rcases b with _ | _ | y | _ | _ | _
   case int =>
    refine AK hv.int_inv ?_;rintro _ rfl;(refine AK hw.int_inv ?_;rintro _ rfl);exact Aa.ofRet λs Q E ok z=>PySem.P.sub_int (ok _ _ (.int _ _))
   all_goals exact Aa.stuck
  all_goals exact Aa.stuck
 case Mult =>
  rcases a with _ | _ | x | _ | _ | i
  case int =>
   rcases b with _ | _ | y | _ | _ | _
   case int =>
    refine AK hv.int_inv ?_;rintro _ rfl;(refine AK hw.int_inv ?_;rintro _ rfl);exact Aa.guard λhx=>Aa.ofRet λs Q E ok z=>PySem.P.mul_int (ok _ _ (.int _ _)) (.of_left (Agk hx))
   all_goals exact Aa.stuck
  case ref =>
   rcases b with _ | _ | n | _ | _ | _
   case int =>
    refine AG hv.ref_inv ?_;rintro _ rfl hl ha;refine AK hw.int_inv ?_;rintro t rfl;refine Aa.getList (.ref hl ha) λxs ws k hs hz z hm hr=>Aa.guard λhq => ?_;intro s Q E st ok _ ns;unfold B2 at ok ns
    by_cases hx:small (D9 n.toNat xs).flatten.length=true
    ·rw[if_pos hx]at ok;have hl':=st.isList hm;have e1:=hr.length;obtain⟨li,rfl⟩:∃li:List Ad,ws=li.toArray:=⟨ws.toList,by rw[Abl]⟩
     refine KMa.mul st.fr st.nw hl' hq.2.1 hq.2.2 (by simp at e1;rw[e1];exact hq.1) rfl λD h' F' N' fr => ?_
     refine BS (st.addList F' N' fr (AA.flat (by simpa using hr) n.toNat)) ?_;rintro l' e st' x v
     exact ok _ l' _ h' s.toks (by rw[e]) st' x v
    ·rw[if_neg hx]at ns;exact absurd rfl ns
   all_goals exact Aa.stuck
  all_goals exact Aa.stuck
 case FloorDiv =>
  rcases a with _ | _ | x | _ | _ | _
  case int =>
   rcases b with _ | _ | y | _ | _ | _
   case int =>
    refine AK hv.int_inv ?_;rintro _ rfl;(refine AK hw.int_inv ?_;rintro _ rfl);exact Aa.guard λhx=>Aa.ofRet λs Q E ok z=>AutoIntOps.floordiv_1 (by simpa using hx.1) (by rw[ApA hx.2];decide) (ok _ _ (.int _ _))
   all_goals exact Aa.stuck
  all_goals exact Aa.stuck
 case Mod =>
  rcases a with _ | _ | x | _ | _ | _
  case int =>
   rcases b with _ | _ | y | _ | _ | _
   case int =>
    refine AK hv.int_inv ?_;rintro _ rfl;(refine AK hw.int_inv ?_;rintro _ rfl);exact Aa.guard λhx=>Aa.ofRet λs Q E ok z=>PyProof.Rows.mod_int hx (ok _ _ (.int _ _))
   all_goals exact Aa.stuck
  all_goals exact Aa.stuck
 all_goals exact Aa.stuck
end
end
section
noncomputable def Hv(f:CV->CV->Option Bool):List CV->List CV->Option Bool
 | [],[]=>some true
 | [],_::_=>some false
 | _::_,[]=>some false
 | x::xs,y::ys=>match f x y,Hv f xs ys with
  | some a,some b=>some (a && b)
  | _,_=>none
theorem RV:∀(f:CV->CV->Option Bool) (x_2:CV) (xs:List CV) (y:CV) (ys:List CV),Hv f (x_2::xs) (y::ys)=match f x_2 y,Hv f xs ys with | some a,some b=>some (a && b) | x,x_1=>none:=by intros;rfl
noncomputable def EW(es:List (Int×CV))(k:Int):Option CV:=match es with
 | []=>none
 | (j,v)::r=>if j=k then some v else EW r k
theorem RW:∀(k j:Int) (v:CV) (r:List (Int×CV)),EW ((j,v)::r) k=if j=k then some v else EW r k:=by intros;rfl
noncomputable def GP(f:CV->CV->Option Bool)(fs:List (Int×CV)):List (Int×CV)->Option Bool
 | []=>some true
 | (k,v)::r=>match EW fs k with
  | none=>some false
  | some y=>match f v y,GP f fs r with
   | some a,some b=>some (a && b)
   | _,_=>none
theorem RX:∀(f:CV->CV->Option Bool) (fs:List (Int×CV)) (j:Int) (v:CV) (r:List (Int×CV)),GP f fs ((j,v)::r)=match EW fs j with | none=>some false | some y=>match f v y,GP f fs r with | some a,some b=>some (a && b) | x,x_1=>none:=by intros;rfl
noncomputable def JQ(f:CV->CV->Option Bool)(x y:Option CO):Option Bool:=match x with
 | some (.list xs)=>(match y with
  | some (.list ys)=>if xs.length=ys.length then Hv f xs ys else some false
  | _=>none)
 | some (.dict es)=>(match y with
  | some (.dict fs)=>if es.length=fs.length then GP f fs es else some false
  | _=>none)
 | _=>none
theorem W4{f:CV->CV->Option Bool}{x y:Option CO}{r:Bool}(h:JQ f x y=some r):(∃xs ys,x=some (.list xs)/\y=some (.list ys)/\(if xs.length=ys.length then Hv f xs ys else some false)=some r)\/∃es fs,x=some (.dict es)/\y=some (.dict fs)/\(if es.length=fs.length then GP f fs es else some false)=some r:=by
 rcases x with _ | o
 ·exact(Ax h).elim
 ·rcases o with xs | es | ⟨_,_⟩
  ·rcases y with _ | p
   ·exact(Ax h).elim
   ·rcases p with ys | _ | ⟨_,_⟩
    ·exact .inl ⟨_,_,rfl,rfl,h⟩
    ·exact(Ax h).elim
    ·exact(Ax h).elim
  ·rcases y with _ | p
   ·exact(Ax h).elim
   ·rcases p with _ | fs | ⟨_,_⟩
    ·exact(Ax h).elim
    ·exact .inr ⟨_,_,rfl,rfl,h⟩
    ·exact(Ax h).elim
  ·exact(Ax h).elim
theorem RY{p:Prop}[Decidable p]{x:Option Bool}{r:Bool}(h:(if p then x else some false)=some r):(p/\x=some r)\/(¬p/\r=false):=by
 by_cases q:p
 ·exact .inl ⟨q,(if_pos q).symm.trans h⟩
 ·exact .inr ⟨q,(Ay ((if_neg q).symm.trans h)).symm⟩
noncomputable def Cj(σ:CH):Nat->CV->CV->Option Bool
 | 0,_,_=>none
 | n+1,a,b=>match a,b with
  | .none,.none=>some true
  | .bool x,.bool y=>some (x == y)
  | .int x,.int y=>some (x == y)
  | .str x,.str y=>some (x == y)
  | .tup xs,.tup ys=>Hv (Cj σ n) xs ys
  | .ref i,.ref j=>JQ (Cj σ n) σ[i]? σ[j]?
  | _,_=>none
section
variable {c:FC}{FX:Bm}{m:Ac->Option Ad}{l:Am}
theorem Agm{Φ:List (Af×AU)}(nd:(Φ.map (·.1)).Nodup){p q:Af×AU}(hp:p∈Φ)(hq:q∈Φ)(e:p.1=q.1):p=q:=by
 induction Φ with
 | nil=>(rcases hp with⟨⟩)
 | cons r Φ ih =>
  rw[Bo]at nd;have z:=Dv.mp nd;rcases AV.mp hp with e1 | hp'<;>rcases AV.mp hq with e2 | hq'
  ·rw[e1,e2]
  ·exact absurd (by rw[<- e1,e];exact Du (f:=(·.1)) hq') z.1
  ·exact absurd (by rw[<- e2,<- e];exact Du (f:=(·.1)) hp') z.1
  ·exact ih z.2 hp' hq'
theorem VR.ref_not{a:Af}(h:VR l (.ref a) (.tup cvs))(k:VR l (.ref a) (.ref n)):False:=by
 refine CP h.tup_inv ?_;rintro _ _ _ e h1 _;refine Au k.ref_ad ?_;rintro h2 h3;injection e with e
 exact h1.2 n false ⟨_,Ci h2,λq=>nomatch q⟩ (h3.trans e)
theorem VR.func(R:LR c.prog c.w l){v:Ad}{a b:CV}(h:VR l v a)(k:VR l v b):a=b:=by
 refine VR.rec (motive_1:=λv a z=>∀b,VR l v b->a=b) (motive_2:=λvs a z=>∀b,AA l vs b->a=b) ?_ ?_ ?_ ?_ ?_ ?_ ?_ ?_ h b k
 ·intro b k;rcases k with⟨⟩;rfl
 ·intro x b k;rcases k with⟨⟩;rfl
 ·intro x t b k;rcases k with⟨⟩;rfl
 ·intro x t b k;rcases k with⟨⟩;rfl
 ·intro a vs n cvs h r ih b k;rcases b with _ | _ | _ | _ | cs | m
  ·exfalso;injection k.none_inv
  ·exfalso;injection k.bool_inv
  ·refine AK k.int_inv ?_;rintro _ e;exfalso;injection e
  ·refine AK k.str_inv ?_;rintro _ e;exfalso;injection e
  ·refine CP k.tup_inv ?_;rintro _ ws m e h' r';injection e with e
   subst e;have e:=Agm R.nd h.1 h'.1 rfl;simp only[Abm,Obj.mk.injEq,Data.seq.injEq,true_and,and_true]at e;obtain rfl:=List.toArray_inj e.1;rw[ih _ r']
  ·exact(VR.ref_not (.tup h r) k).elim
 ·intro a n hl ha b k;rcases b with _ | _ | _ | _ | cs | m
  ·exfalso;injection k.none_inv
  ·exfalso;injection k.bool_inv
  ·refine AK k.int_inv ?_;rintro _ e;exfalso;injection e
  ·refine AK k.str_inv ?_;rintro _ e;exfalso;injection e
  ·exact(VR.ref_not k (.ref hl ha)).elim
  ·refine Au k.ref_ad ?_;rintro hl' ha';have:=R.inj _ _ false false ⟨_,Ci hl,λq=>nomatch q⟩ ⟨_,Ci hl',λq=>nomatch q⟩ (ha.trans ha'.symm)
   rw[this.1]
 ·intro b k;rcases k with⟨⟩;rfl
 ·intro v vs c cs h r ih1 ih2 b k;rcases k with _ | ⟨h',r'⟩
  rw[ih1 _ h',ih2 _ r']
set_option tactic.hygienic true in
theorem W5{f:CV->CV->Option Bool}(hf:∀x b,f x x=some b->b=true):∀{xs:List CV} {b:Bool},Hv f xs xs=some b->b=true:=by
 intro z1
 induction z1 with
 | nil =>
  intro z2 e;injection e with za;subst za;rfl
 | cons x xs ih =>
  intro b e;rw[RV]at e
  split at e
  ·rename_i a b' ea eb;injection e with za;subst za
   rw[hf _ _ ea,ih eb];rfl
  ·exfalso;injection e
theorem Agn:∀{es:List (Int×CV)} {k:Int} {v:CV},(es.map (·.1)).Nodup->(k,v)∈es->EW es k=some v:=by
 intro z1
 induction z1 with
 | nil=>intros;contradiction
 | cons z2 r ih =>
  rcases z2 with⟨j,u⟩
  intro k v nd hm;rw[RW];have z:=Dv.mp nd;rcases AV.mp hm with e | hm
  ·injection e with za zb;subst za;subst zb
   rw[if_pos rfl]
  ·rw[if_neg λ(e:j=k)=>z.1 (by rw[e];exact Du (f:=(·.1)) hm)]
   exact ih z.2 hm
set_option tactic.hygienic true in
theorem Ago{f:CV->CV->Option Bool}(hf:∀x b,f x x=some b->b=true){fs:List (Int×CV)}(nd:(fs.map (·.1)).Nodup):∀{es:List (Int×CV)} {b:Bool},(∀p∈es,p∈fs)->GP f fs es=some b->b=true:=by
 intro z1
 induction z1 with
 | nil =>
  intro z3 z4 e;injection e with za;subst za;rfl
 | cons z2 r ih =>
  rcases z2 with⟨k,v⟩
  intro b hs e;rw[RX]at e;rw[Agn nd (hs _ (.head _))]at e;dsimp only at e
  split at e
  ·rename_i a b' ea eb;injection e with za;subst za
   rw[hf _ _ ea,ih (λp hp=>hs p (.tail _ hp)) eb];rfl
  ·exfalso;injection e
theorem BJ.keys{es:List (Int×CV)}(h:BJ l kvs es):kvs.map (·.1)=es.map (·.1) :=
 BJ.rec (motive:=λkvs es z=>kvs.map (·.1)=es.map (·.1)) rfl (λz z ih=>by rw[Bo,Bo,ih]) h
theorem BJ.length{es:List (Int×CV)}(k:BJ l kvs es):kvs.length=es.length:=by
 have:=congrArg IH k.keys
 simpa using this
theorem BJ.look{es:List (Int×CV)}(k:Int)(h:BJ l kvs es):(EW es k=none/\valueAt kvs k=none)\/∃v x,EW es k=some x/\valueAt kvs k=some v/\VR l v x:=by
 refine BJ.rec (motive:=λkvs es z=>(EW es k=none/\valueAt kvs k=none)\/∃v x,EW es k=some x/\valueAt kvs k=some v/\VR l v x) (.inl ⟨rfl,rfl⟩) (λ{j v x kvs as} h r ih => ?_) h;rw[RW,valueAt]
 by_cases e:j=k
 ·subst e;refine .inr ⟨v,x,by rw[if_pos rfl],?_,h⟩
  simp
 ·rw[if_neg e];rw[Abn];have d:decide (j=k)=false:=decide_eq_false e;simp only[d];exact ih
theorem Agp(dk:∀(i:Nat) (es:List (Int×CV)),σ[i]? = some (CO.dict es)->(es.map (·.1)).Nodup):∀(n:Nat) (x:CV) (b:Bool),Cj σ n x x=some b->b=true:=by
 intro z1
 induction z1 with
 | zero =>
  intro z2 z3 e;exfalso;injection e
 | succ n ih =>
  intro x b e;rcases x with _ | y | y | y | xs | i
  ·exact(Ay e).symm
  ·exact(Ay e).symm.trans (beq_self_eq_true y)
  ·exact(Ay e).symm.trans (beq_self_eq_true y)
  ·exact(Ay e).symm.trans (beq_self_eq_true y)
  ·exact W5 (ih) e
  ·have e:JQ (Cj σ n) σ[i]? σ[i]? = some b:=e;rcases W4 e with⟨xs,ys,h1,h2,h⟩ | ⟨xs,ys,h1,h2,h⟩
   ·obtain rfl:xs=ys:=by
     have:=h1.symm.trans h2;injection this with this
     injection this
    rw[if_pos rfl]at h;exact W5 (ih) h
   ·obtain rfl:xs=ys:=by
     have:=h1.symm.trans h2;injection this with this
     injection this
    rw[if_pos rfl]at h;exact Ago (ih) (dk _ _ h1) (λz h=>h) h
noncomputable def ej(f:CV->CV->Option Bool)(xs ys:List CV)(j:Nat):Bool:=match xs[j]?,ys[j]? with
 | some x,some y=>(f x y).getD true
 | _,_=>true
set_option tactic.hygienic true in
theorem W6{f:CV->CV->Option Bool}:∀{xs ys:List CV} {r:Bool},Hv f xs ys=some r ->
  (∀(j:Nat) x y,xs[j]? = some x->ys[j]? = some y->f x y=some (ej f xs ys j))/\r=((As (min xs.length ys.length)).all (ej f xs ys) && xs.length == ys.length):=by
 intro z1
 induction z1 with
 | nil =>
  intro z2;rcases z2 with _ | ⟨z3,z4⟩
  ·intro r e;injection e with za;subst za;exact⟨λz z z h=>by simp at h,by simp⟩
  ·intro r e;injection e with za;subst za;exact⟨λz z z h=>by simp at h,by simp⟩
 | cons x xs ih =>
  intro z5;rcases z5 with _ | ⟨y,ys⟩
  ·intro r e;injection e with za;subst za;exact⟨λz z z z h=>by simp at h,by simp⟩
  ·intro r e;rw[RV]at e
   split at e
   ·rename_i a b ea eb;injection e with za;subst za
    refine Au (ih eb) ?_;rintro h1 h2;refine⟨λj x' y' hx hy => ?_,?_⟩
    ·rcases j with _ | j
     ·simp only[Abo,Aba]at hx hy;subst hx hy;unfold ej;simp[ea]
     ·rw[Abp]at hx hy;have:=h1 j x' y' hx hy;unfold ej at this ⊢;simp only[Abp];exact this
    ·have e0:ej f (x::xs) (y::ys) 0=a:=by unfold ej;simp[ea]
     have e1:(λj=>ej f (x::xs) (y::ys) (j+1))=ej f xs ys:=by funext j;unfold ej;simp
     rw[BN,BN,Nat.succ_min_succ,List.range_succ_eq_map,List.all_cons,List.all_map,e0,h2];show _=(a && (As (min xs.length ys.length)).all (λj=>ej f (x::xs) (y::ys) (j+1)) && _);rw[e1];simp[Bool.and_assoc]
   ·exfalso;injection e
theorem Pb{prog prog':CJ}{w':BK}(h:o.IsDictOf (intKind prog w) kvs):o.IsDictOf (intKind prog' w') kvs:=by
 refine JM h ?_;clear h;rintro es ep a b c d e;refine⟨es,ep,a,b,c,?_,e⟩
 generalize es.toList=l at d
 clear a b c e
 induction d with
 | nil=>exact .nil
 | cons h1 h2 _ ih=>exact .cons h1 h2 ih
theorem LR.dictKeys(R:LR c.prog c.w l):∀(i:Nat) (es:List (Int×CV)),l.σ[i]? = some (CO.dict es)->(es.map (·.1)).Nodup:=λi es h=>by
 refine Cq (R.obj i _ h) ?_;rintro o kvs _ _ hd r;refine JM hd ?_;clear hd;rintro _ _ _ _ _ _ e;rw[<- r.keys];exact e
theorem AA.arr{ws:Array Ad}(h:AA l ws.toList cs){j:Nat}(hj:j<ws.size):∃x,cs[j]? = some x/\VR l ws[j] x:=by
 have hl:=h.length;rw[DC]at hl;have hc:j<cs.length:=hl▸hj;refine⟨cs[j],Ci hc,?_⟩;refine Ah (h.get (Ci hc)) ?_;rintro v e r;rw[Mh,U6 hj]at e;injection e with za;subst za
 exact r
set_option tactic.hygienic true in
theorem W7{A:CK}{f:CV->CV->Option Bool}{kb:List (Int×Ad)}{fs:List (Int×CV)}(kf:BJ l kb fs)(hf:∀v w a b r,f a b=some r->VR l v a->VR l w b->JD A s v w r)
  {ka:List (Int×Ad)} {es:List (Int×CV)} {r:Bool} (h:BJ l ka es) (e:GP f fs es=some r):KeqHits A s kb ka r:=by
 revert r;refine BJ.rec (motive:=λka es z=>∀{r:Bool},GP f fs es=some r->KeqHits A s kb ka r) (λ{r} e => ?_) (λ{k v c ka as} h rr ih r e => ?_) h
 ·injection e with za;subst za;exact .nil
 ·rw[RX]at e;rcases kf.look k with⟨h1,h2⟩ | ⟨v',x,h1,h2,h3⟩
  ·rw[h1]at e;injection e with za;subst za
   exact .miss h2
  ·rw[h1]at e;dsimp only at e
   split at e
   ·rename_i a b ea eb;injection e with za;subst za
    exact .hit h2 (hf _ _ _ _ _ ea h h3) (ih eb)
   ·exfalso;injection e
theorem Agq(R:LR c.prog c.w l){s:Aq}(N:CL c.h₀ c.L s.heap l.Φ){A:CK}{f:CV->CV->Option Bool}{i j:Nat}{r:Bool}{xs ys:List CV}(ih:∀(v w:Ad) (a b:CV) (r:Bool),f a b=some r->VR l v a->VR l w b->JD A.in1 s v w r)(e1:l.σ[i]? = some (.list xs))(e2:l.σ[j]? = some (.list ys))
  (e:(if xs.length=ys.length then Hv f xs ys else some false)=some r) (hu':A.units<cLine):U7 A s (.ref (l.ad i false)) (.ref (l.ad j false)) r/\U8 A s (.ref (l.ad i false)) (.ref (l.ad j false)) (!r):=by
 refine Bg (R.obj _ _ e1) ?_;rintro ws1 k1 m1 r1;refine Bg (R.obj _ _ e2) ?_;rintro ws2 k2 m2 r2;have t1:s.heap.IsList _ ws1:=⟨_,(N _ m1).1,rfl,_,rfl⟩;have t2:s.heap.IsList _ ws2:=⟨_,(N _ m2).1,rfl,_,rfl⟩;have z1:ws1.size=xs.length:=by rw[<- DC];exact r1.length
 have z2:ws2.size=ys.length:=by rw[<- DC];exact r2.length
 rcases RY e with⟨hlen,e⟩ | ⟨hlen,rfl⟩
 ·refine Au (W6 e) ?_;rintro h1 h2;have he:∀j (q1:j<ws1.size) (q2:j<ws2.size),JD A.in1 s ws1[j] ws2[j] (ej f xs ys j):=λj q1 q2=>by
   refine Ah (AA.arr r1 q1) ?_;rintro x ex rx;refine Ah (AA.arr r2 q2) ?_;rintro y ey ry;exact ih _ _ _ _ _ (h1 j x y ex ey) rx ry
  have hz:ws1.size=ws2.size:=z1.trans (hlen.trans z2.symm);have z:=SeqAt.RcAt.lists t1 t2 hz hu' he;have z':=SeqAt.RcNeAt.lists t1 t2 hz hu' he;rw[h2,hlen,Nat.min_self];simp only[beq_self_eq_true,ApB];rw[z1,hlen]at z z';exact⟨z,z'⟩
 ·have hz:(ws1.size != ws2.size)=true:=bne_iff_ne.mpr λq=>hlen (z1.symm.trans (q.trans z2));exact⟨SeqAt.RcAt.lists_lengths t1 t2 hz hu',SeqAt.RcNeAt.lists_lengths t1 t2 hz hu'⟩
theorem Agr(R:LR c.prog c.w l){s:Aq}(N:CL c.h₀ c.L s.heap l.Φ){A:CK}{f:CV->CV->Option Bool}{i j:Nat}{r:Bool}{es fs:List (Int×CV)}(ih:∀(v w:Ad) (a b:CV) (r:Bool),f a b=some r->VR l v a->VR l w b->JD A.in1 s v w r)(e1:l.σ[i]? = some (.dict es))(e2:l.σ[j]? = some (.dict fs))
  (e:(if es.length=fs.length then GP f fs es else some false)=some r) (hu':A.units<cLine):U7 A s (.ref (l.ad i false)) (.ref (l.ad j false)) r/\U8 A s (.ref (l.ad i false)) (.ref (l.ad j false)) (!r):=by
 refine Cq (R.obj _ _ e1) ?_;rintro o1 kv1 m1 s1 d1 r1;refine Cq (R.obj _ _ e2) ?_;rintro o2 kv2 m2 s2 d2 r2;have hl:(kv1.length == kv2.length)=(es.length == fs.length):=by rw[r1.length,r2.length]
 have key:((kv1.length == kv2.length) && r)=r:=by
  rcases RY e with⟨hlen,_⟩ | ⟨_,rfl⟩
  ·rw[hl,beq_iff_eq.mpr hlen];rfl
  ·exact Oo _
 have hit:kv1.length=kv2.length->GP f fs es=some r:=λq=>by
  rcases RY e with⟨_,e⟩ | ⟨hlen,_⟩
  ·exact e
  ·exact absurd (by rw[<- r1.length,<- r2.length];exact q) hlen
 refine⟨λprog w E Q hq => ?_,λprog w E Q hq => ?_⟩
 ·have D1:s.heap.DictOf (intKind prog w) _ kv1:=Oq.mpr ⟨o1,(N _ m1).1,Pb d1⟩;have D2:s.heap.DictOf (intKind prog w) _ kv2:=Oq.mpr ⟨o2,(N _ m2).1,Pb d2⟩;refine keq_eq (r:=r) s1 s2 D1 D2 hu' (λq=>W7 r2 ih r1 (hit q)) ?_;rw[key];exact hq
 ·have D1:s.heap.DictOf (intKind prog w) _ kv1:=Oq.mpr ⟨o1,(N _ m1).1,Pb d1⟩;have D2:s.heap.DictOf (intKind prog w) _ kv2:=Oq.mpr ⟨o2,(N _ m2).1,Pb d2⟩;refine keq_ne (r:=r) s1 s2 D1 D2 hu' (λq=>W7 r2 ih r1 (hit q)) ?_;rw[key];exact hq
theorem W8(R:LR c.prog c.w l){s:Aq}(N:CL c.h₀ c.L s.heap l.Φ){n:Nat}{A:CK}{v w:Ad}{a b:CV}{r:Bool}(ih:∀(v w:Ad) (a b:CV) (r:Bool),Cj l.σ n a b=some r->VR l v a->VR l w b->JD A.in1 s v w r)(e:Cj l.σ (n+1) a b=some r)(hv:VR l v a)(hw:VR l w b)(hu':A.units<cLine) :
  U7 A s v w r/\U8 A s v w (!r):=by
 rcases a with _ | x | x | x | xs | i
 ·rcases b with _ | _ | _ | _ | _ | _
  case none =>
   obtain rfl:=hv.none_inv;obtain rfl:=hw.none_inv;obtain rfl:=Ay e;exact⟨SeqAt.RcAt.none_none,SeqAt.RcNeAt.none_none⟩
  all_goals exact(Ax e).elim
 ·rcases b with _ | y | _ | _ | _ | _
  case bool =>
   obtain rfl:=hv.bool_inv;obtain rfl:=hw.bool_inv;obtain rfl:=Ay e;exact⟨SeqAt.RcAt.bool_bool _ _,SeqAt.RcNeAt.bool_bool _ _⟩
  all_goals exact(Ax e).elim
 ·rcases b with _ | _ | y | _ | _ | _
  case int =>
   refine AK hv.int_inv ?_;rintro _ rfl;refine AK hw.int_inv ?_;rintro _ rfl;obtain rfl:=Ay e;exact⟨SeqAt.RcAt.int_int _ _ _ _,SeqAt.RcNeAt.int_int _ _ _ _⟩
  all_goals exact(Ax e).elim
 ·rcases b with _ | _ | _ | y | _ | _
  case str =>
   refine AK hv.str_inv ?_;rintro _ rfl;refine AK hw.str_inv ?_;rintro _ rfl;obtain rfl:=Ay e;exact⟨SeqAt.RcAt.str_str _ _ _ _,SeqAt.RcNeAt.str_str _ _ _ _⟩
  all_goals exact(Ax e).elim
 ·rcases b with _ | _ | _ | _ | ys | _
  case tup =>
   refine CP hv.tup_inv ?_;rintro a1 vs1 k1 rfl ho hr;refine CP hw.tup_inv ?_;rintro a2 vs2 k2 rfl ho2 hr2;refine Au (W6 e) ?_;rintro h1 h2;have t1:s.heap.IsTuple a1 vs1.toArray:=⟨_,(N _ ho.1).1,rfl,_,rfl⟩;have t2:s.heap.IsTuple a2 vs2.toArray:=⟨_,(N _ ho2.1).1,rfl,_,rfl⟩;have he:∀j (q1:j<vs1.toArray.size) (q2:j<vs2.toArray.size),JD A.in1 s vs1.toArray[j] vs2.toArray[j] (ej (Cj l.σ n) xs ys j):=λj q1 q2=>by
    refine Ah (AA.arr (ws:=vs1.toArray) (by simpa using hr) q1) ?_;rintro x ex rx
    refine Ah (AA.arr (ws:=vs2.toArray) (by simpa using hr2) q2) ?_;rintro y ey ry
    exact ih _ _ _ _ _ (h1 j x y ex ey) rx ry
   have z:=SeqAt.RcAt.tuples t1 t2 hu' he;have z2:=SeqAt.RcNeAt.tuples t1 t2 hu' he;rw[h2];simp only[KH,hr.length,hr2.length]at z z2;exact⟨z,z2⟩
  all_goals exact(Ax e).elim
 ·rcases b with _ | _ | _ | _ | _ | j
  case ref =>
   refine AG hv.ref_inv ?_;rintro _ rfl _ rfl;refine AG hw.ref_inv ?_;rintro _ rfl _ rfl;rcases W4 e with⟨xs,ys,e1,e2,h⟩ | ⟨es,fs,e1,e2,h⟩
   ·exact Agq R N ih e1 e2 h hu'
   ·exact Agr R N ih e1 e2 h hu'
  all_goals exact(Ax e).elim
theorem RZ(R:LR c.prog c.w l){s:Aq}(N:CL c.h₀ c.L s.heap l.Φ):∀(n:Nat) {A:CK} {v w:Ad} {a b:CV} {r:Bool},Cj l.σ n a b=some r->VR l v a->VR l w b->A.units+n<cLine->JD A s v w r:=by
 intro z1
 induction z1 with
 | zero =>
  intro z2 z3 z4 z5 z6 z7 e z8 z9 z10;exfalso;injection e
 | succ n ih =>
  intro A v w a b r e hv hw hu
  by_cases hvw:v=w
  ·subst hvw;have:=VR.func R hv hw;subst this;rw[Agp R.dictKeys (n+1) _ _ e];exact SeqAt.EqAt.same v
  have z:=(W8 (A:=A) R N (λv w a b r e hv hw=>ih e hv hw (by rw[U9];exact AfL hu)) e hv hw (WL hu)).1
  rcases a with _ | x | x | x | xs | i
  ·rcases b with _ | _ | _ | _ | _ | _
   case none=>exact absurd (hv.none_inv.trans hw.none_inv.symm) hvw
   all_goals exact(Ax e).elim
  ·rcases b with _ | y | _ | _ | _ | _
   case bool =>
    obtain rfl:=hv.bool_inv;obtain rfl:=hw.bool_inv;obtain rfl:=Ay e;exact SeqAt.EqAt.bool_bool _ _
   all_goals exact(Ax e).elim
  ·rcases b with _ | _ | y | _ | _ | _
   case int =>
    refine AK hv.int_inv ?_;rintro _ rfl;refine AK hw.int_inv ?_;rintro _ rfl;obtain rfl:=Ay e;exact SeqAt.EqAt.int_int _ _ _ _
   all_goals exact(Ax e).elim
  ·rcases b with _ | _ | _ | y | _ | _
   case str =>
    refine AK hv.str_inv ?_;rintro _ rfl;refine AK hw.str_inv ?_;rintro _ rfl;obtain rfl:=Ay e;exact SeqAt.EqAt.str_str _ _ _ _
   all_goals exact(Ax e).elim
  ·rcases b with _ | _ | _ | _ | ys | _
   case tup =>
    refine CP hv.tup_inv ?_;rintro _ _ _ rfl _ _;refine CP hw.tup_inv ?_;rintro _ _ _ rfl _ _;exact ApC (λq=>hvw (congrArg CZ q)) z
   all_goals exact(Ax e).elim
  ·rcases b with _ | _ | _ | _ | _ | j
   case ref =>
    refine AG hv.ref_inv ?_;rintro _ rfl _ _;refine AG hw.ref_inv ?_;rintro _ rfl _ _;exact ApC (λq=>hvw (congrArg CZ q)) z
   all_goals exact(Ax e).elim
end
end
section
noncomputable def Es(f:CV->CV->Option Bool)(x:CV):List CV->Option Bool
 | []=>some false
 | y::ys=>match f y x,Es f x ys with
  | some a,some b=>some (a || b)
  | _,_=>none
theorem W9:∀(f:CV->CV->Option Bool) (x y:CV) (ys:List CV),Es f x (y::ys)=match f y x,Es f x ys with | some a,some b=>some (a || b) | x,x_1=>none:=by intros;rfl
noncomputable def GQ(σ:CH)(a b:CV):Option Bool:=match b with
 | .tup ys=>Es (Cj σ 20) a ys
 | .ref j=>match σ[j]? with
  | some (.list ys)=>Es (Cj σ 20) a ys
  | some (.dict es)=>match a with
   | .int k=>some (EW es k).isSome
   | _=>none
  | _=>none
 | _=>none
noncomputable def isNone(a:CV):Bool:=match a with | .none=>true | _=>false
noncomputable def H3(o:Option Bool):CM Bool:=match o with
 | some r=>ret r
 | none=>Ar
noncomputable def Et(op:Fz)(a b:CV):CM Bool:=match op with
 | .Eq=>λσ=>H3 (Cj σ 20 a b) σ
 | .NotEq=>λσ=>H3 ((Cj σ 20 a b).map (!·)) σ
 | .Lt=>match a,b with | .int x,.int y=>ret (decide (x<y)) | _,_=>Ar
 | .LtE=>match a,b with | .int x,.int y=>ret (decide (x<=y)) | _,_=>Ar
 | .Gt=>match a,b with | .int x,.int y=>ret (decide (y<x)) | _,_=>Ar
 | .GtE=>match a,b with | .int x,.int y=>ret (decide (y<=x)) | _,_=>Ar
 | .Is=>match b with | .none=>ret (isNone a) | _=>Ar
 | .IsNot=>match b with | .none=>ret (!isNone a) | _=>Ar
 | .In=>λσ=>H3 (GQ σ a b) σ
 | .NotIn=>λσ=>H3 ((GQ σ a b).map (!·)) σ
def VB(_:Am)(v:Ad)(b:Bool):Prop:=v=.bool b
section
variable {c:FC}{FX:Bm}{m:Ac->Option Ad}{l:Am}{d:Nat}
theorem Xa(R:LR c.prog c.w l){s:Aq}(N:CL c.h₀ c.L s.heap l.Φ){n:Nat}{A:CK}{v w:Ad}{a b:CV}{r:Bool}(e:Cj l.σ (n+1) a b=some r)(hv:VR l v a)(hw:VR l w b)(hu:A.units+n+1<cLine) :
  U7 A s v w r/\U8 A s v w (!r) :=
 W8 R N (λv w a b r e hv hw=>RZ R N n e hv hw (by rw[U9];exact AfN hu)) e hv hw (AfM hu)
theorem Aa.heapRet{f:CM Bool}{V:Am->Ad->Bool->Prop}(o:Option Bool)(hf:f l.σ=H3 o l.σ)
  (h:∀r,o=some r->∀(s:Aq) (Q:Ad->Aq->Prop) (E:Ad->Aq->Prop),St c m l s.heap->(∀a tk,V l a r->Q a { s with toks:=tk })->wpAny c.M c.A t Q E s):Aa c FX m l t f V:=by
 intro s Q E st ok exc ns;rw[hf]at ok ns;rcases o with _ | r
 ·exact absurd rfl ns
 ·exact h r rfl s Q E st λa tk v=>ok r l a s.heap tk rfl st (Ap.refl l) v
open Classical in
theorem Xb{f:CV->CV->Option Bool}(R:LR c.prog c.w l){x:CV}{vs:List Ad}{ys:List CV}{r:Bool}(hv:AA l vs ys):Es f x ys=some r ->
  (∀y∈vs,∃cy b,VR l y cy/\f cy x=some b/\decide (∃cy,VR l y cy/\f cy x=some true)=b)/\vs.any (λy=>decide (∃cy,VR l y cy/\f cy x=some true))=r :=
 hv.ind (P:=λvs ys=>∀r,Es f x ys=some r->(∀y∈vs,∃cy b,VR l y cy/\f cy x=some b/\decide (∃cy,VR l y cy/\f cy x=some true)=b)/\vs.any (λy=>decide (∃cy,VR l y cy/\f cy x=some true))=r)
  (λr e=>⟨λz h=>(nomatch h),Ay e⟩) (λ{v vs cy cs} h _ ih r e=>by
   have e:(match f cy x,Es f x cs with | some a,some b=>some (a || b) | _,_=>none)=some r:=e
   rcases ea:f cy x with _ | a
   ·rw[ea]at e;exact(Ax e).elim
   ·rcases eb:Es f x cs with _ | b
    ·rw[ea,eb]at e;exact(Ax e).elim
    ·rw[ea,eb]at e;obtain rfl:=Ay e;refine Au (ih b eb) ?_;rintro h1 h2;have hd:decide (∃cy,VR l v cy/\f cy x=some true)=a:=by
      rcases a with _ | _
      ·refine decide_eq_false λzz => ?_;refine Ah zz ?_;clear zz;rintro cy' h' e';rw[<- VR.func R h h',ea]at e';injection e' with za;exfalso;injection za
      ·exact decide_eq_true ⟨cy,h,ea⟩
     refine⟨λy hy => ?_,?_⟩
     ·rcases AV.mp hy with rfl | hy
      ·exact⟨cy,a,h,ea,hd⟩
      ·exact h1 y hy
     ·rw[Ot,hd,h2]) r
open Classical in
set_option tactic.hygienic true in
theorem Xc(ok:AL c d){s:Aq}(st:St c m l s.heap){v w:Ad}{a b:CV}{r:Bool}(e:GQ l.σ a b=some r)(hv:VR l v a)(hw:VR l w b)(Q:Ad->Aq->Prop)(E:Ad->Aq->Prop) :
  ((∀tk,Q (.bool r) { s with toks:=tk })->wpAny c.M c.A (JE .In v w) Q E s)/\((∀tk,Q (.bool (!r)) { s with toks:=tk })->wpAny c.M c.A (JE .NotIn v w) Q E s):=by
 have hu:=ok.units;have hcl:cLine=9900:=rfl;have ih:∀{ys:List CV} {vs:List Ad} {r:Bool},AA l vs ys->Es (Cj l.σ 20) a ys=some r->∃e:Ad->Bool,(∀y∈vs,JD c.A.in1 s y v (e y))/\vs.any e=r:=λhr ha=>by
  refine Au (Xb st.lr hr ha) ?_;rintro h1 h2;refine⟨_,λy hy => ?_,h2⟩;refine Br (h1 y hy) ?_;rintro cy b hb he hd;rw[hd];exact RZ st.lr st.nw 20 he hb hv (by rw[U9];exact WC hu hcl)
 unfold GQ at e
 split at e
 ·refine CP hw.tup_inv ?_;rintro _ _ _ rfl ho hr
  ·refine Ah (ih hr e) ?_;rintro e' h1 h2;have t:s.heap.IsTuple _ _:=⟨_,(st.nw _ ho.1).1,rfl,_,rfl⟩;refine⟨λk=>SeqAt.in_tupleAt e' t (λy hy=>h1 y (by simpa using hy)) ?_,λk=>SeqAt.notIn_tupleAt e' t (λy hy=>h1 y (by simpa using hy)) ?_⟩
   ·rw[ApD,h2];exact k s.toks
   ·rw[ApD,h2];exact k s.toks
 ·refine AG hw.ref_inv ?_;rintro _ rfl hl ha
  ·split at e
   ·rename_i ys hs;refine Bg (st.list (.ref hl ha) hs) ?_;rintro ws k' hm hr;refine Ah (ih hr e) ?_;rintro e' h1 h2;have t:=st.isList hm;refine⟨λk=>SeqAt.in_listAt e' t (λy hy=>h1 y (by simpa using hy)) ?_,λk=>SeqAt.notIn_listAt e' t (λy hy=>h1 y (by simpa using hy)) ?_⟩
    ·rw[<- Va,h2];exact k s.toks
    ·rw[<- Va,h2];exact k s.toks
   ·rename_i es hs;refine Cq (st.lr.obj _ _ hs) ?_;rintro o kvs hm hsys hd hr;rw[ha]at hm hsys
    split at e
    ·rename_i k;refine AK hv.int_inv ?_;rintro t rfl;injection e with za;subst za
     have D:s.heap.DictOf (intKind c.prog c.w) _ kvs:=Oq.mpr ⟨o,(st.nw _ hm).1,hd⟩;have hk:(intKind c.prog c.w).is k (.int k t)=true:=by simp[intKind,Vb]
     have hb:(valueAt kvs k).isSome=(EW es k).isSome:=by
      rcases hr.look k with⟨h1,h2⟩ | ⟨v',x,h1,h2,_⟩<;>rw[h1,h2]<;>rfl
     exact⟨λq=>wpAny_in_of hk hsys D.mapOf (by rw[hb];exact q _),λq=>wpAny_notIn_of hk hsys D.mapOf (by rw[hb];exact q _)⟩
    ·exfalso;injection e
   ·exfalso;injection e
 ·exfalso;injection e
noncomputable def Ags(f:Int->Int->Bool)(a b:CV):CM Bool:=match a,b with | .int x,.int y=>ret (f x y) | _,_=>Ar
theorem Pc{f:Int->Int->Bool}{w:Ad}{a b:CV}(hs:∀x y t u (s:Aq) (Q:Ad->Aq->Prop) (E:Ad->Aq->Prop),Q (.bool (f x y)) s->wpAny c.M c.A (JE op (.int x t) (.int y u)) Q E s)(hv:VR l v a)(hw:VR l w b) :
  Aa c FX m l (JE op v w) (Ags f a b) VB:=by
 rcases a with⟨⟩<;>try exact Aa.stuck
 rcases b with⟨⟩<;>try exact Aa.stuck
 refine AK hv.int_inv ?_;rintro t e1;refine AK hw.int_inv ?_;rintro u e2;rw[e1,e2];exact Aa.heapRet (some _) rfl λr e s Q E st k=>hs _ _ _ _ _ _ _ (k _ _ (Ay e▸rfl))
theorem Xd{a:CV}(hv:VR l v a):(v == .none)=isNone a:=by rcases hv with⟨⟩<;>rfl
theorem Pd(ok:AL c d){op:Fz}{v w:Ad}{a b:CV}(hv:VR l v a)(hw:VR l w b):Aa c FX m l (JE op v w) (Et op a b) VB:=by
 have hu:=ok.units;have hcl:cLine=9900:=rfl;rcases op with _ | _ | _ | _ | _ | _ | _ | _ | _ | _
 ·refine Aa.heapRet (Cj l.σ 20 a b) rfl λr e s Q E st k => ?_;exact(Xa st.lr st.nw e hv hw (WM hu hcl)).1 _ _ _ _ (k _ _ rfl)
 ·refine Aa.heapRet ((Cj l.σ 20 a b).map (!·)) rfl λr e s Q E st k => ?_;refine Ah (HS.mp e) ?_;rintro r' e' rfl;exact(Xa st.lr st.nw e' hv hw (WM hu hcl)).2 _ _ _ _ (k _ _ rfl)
 ·exact Pc (f:=λx y=>decide (x<y)) (λz z z z z z z h=>PyProof.Rows.lt_int h) hv hw
 ·exact Pc (f:=λx y=>decide (x<=y)) (λz z z z z z z h=>PyProof.Rows.le_int h) hv hw
 ·exact Pc (f:=λx y=>decide (y<x)) (λz z z z z z z h=>PyProof.Rows.gt_int h) hv hw
 ·exact Pc (f:=λx y=>decide (y<=x)) (λz z z z z z z h=>PyProof.Rows.ge_int h) hv hw
 ·rcases b with⟨⟩<;>try exact Aa.stuck
  rw[hw.none_inv];exact Aa.heapRet (some (isNone a)) rfl λr e s Q E st k=>PyProof.Rows.is_none_gen (k _ s.toks (congrArg Value.bool ((Xd hv).trans (Ay e))))
 ·rcases b with⟨⟩<;>try exact Aa.stuck
  rw[hw.none_inv];exact Aa.heapRet (some (!isNone a)) rfl λr e s Q E st k=>PyProof.Rows.isnot_none_gen (k _ s.toks (congrArg Value.bool ((congrArg (!·) (Xd hv)).trans (Ay e))))
 ·refine Aa.heapRet (GQ l.σ a b) rfl λr e s Q E st k => ?_;exact(Xc ok st e hv hw Q E).1 λtk=>k _ _ rfl
 ·refine Aa.heapRet ((GQ l.σ a b).map (!·)) rfl λr e s Q E st k => ?_;refine Ah (HS.mp e) ?_;rintro r' e' rfl;exact(Xc ok st e' hv hw Q E).2 λtk=>k _ _ rfl
end
end
noncomputable abbrev GR(C t:Af)(od:Option Af):AU:={ cls:=.ref C,dict:=od,data:=.fields #[.ref t,.none,.none,.none,.bool false,.none] }
def XS(b0:Af)(l:Am)(x C:Af)(as:List (Ac×CV)):Prop:=b0<=x/\∃t od,AS l (x,GR C t od)/\match od with
 | none=>as=[]
 | some dx=>b0<=dx/\dx≠x/\∃es k,AS l (dx,dictOf es k)/\Dr l es as
theorem XS.mono{b0 x:Af}(e:Ap No l l')(z:XS b0 l x C as):XS b0 l' x C as:=by
 rcases z with⟨hb,t,od,ho,r⟩
 refine⟨hb,t,od,e.all ho,?_⟩;rcases od with _ | dx
 ·exact r
 ·rcases r with⟨r1,r2,es,k,r3,r4⟩
  exact⟨r1,r2,es,k,e.all r3,r4.mono e⟩
def Agt(K:Bk)(C:Af)(names:List Ac):Prop:=∀(c:FC) (m:Ac->Option Ad) (l:Am) (vs:List Ad) (cs:List CV) (s:Aq) (R:Hc->Aq->Prop),c.K=K->AL c 3->St c m l s.heap->AA l vs cs->cs.length=names.length ->
 (∀l' x b0 h' tk,l'.σ=l.σ->St c m l' h'->Ap No l l'->(∀p∈l.Φ,p.1<b0)->XS b0 l' x C (names.zip cs)->R (.ok (.ret (.ref x))) (put s h' tk)) ->
 codeAny c.M c.A (.call (.ref C) ⟨vs,[]⟩) R s
structure Pe(K:Bk)(C:Af)(names:List Ac):Prop where
 ne:names≠[]
 base:∀M h,K.In h->BR M h (Hj (.ref C) (.type "BaseException")) true
 typ:∀M h,K.In h->BR M h (typeOf (.ref C)) (.type "type")
 make:Agt K C names
section
noncomputable abbrev Ao:=List (Ac×CV)
noncomputable abbrev AF:=List (Ac×GJ)
def JR(K:Bk)(f:Af)(D:C0):Prop:=∃oc od osl kV doc pm an cdv ct,K.lookup f=some ⟨oc,od,.func (fnOf D.name D.qual D.params D.body D.scope .none kV doc pm an cdv ct),osl⟩/\codeIn K cdv D.qual=true
structure AP where
 top:List (Ac×Bd)
 bins:List (Ac×Ad)
 attrs:List (Af×List Ac)
 meths:List (Af×List (Ac×Af))
 inits:List (Af×Af)
 clsfn:List (Af×List (Ac×Af))
 excs:List (Af×List Ac)
 defs:Af->Option C0
 fn:Af->Option (List CV->CM CV)
structure Bs(K:Bk)(Γ:AP):Prop where
 top:∀x v,Γ.top.lookup x=some v->∃w,nsIn K El x=some (some w)/\(match v with | .int i=>∃t,w=.int i t | .ref a=>w=.ref a/\keepIn K (.ref a)=true)
 bins:∀x v,Γ.bins.lookup x=some v->nsIn K El x=some none/\Aa1 x=some v/\x≠"__name__"
 attrs:∀C xs x,Γ.attrs.lookup C=some xs->xs.contains x=true->Mu K C x=true/\Ry K C x=true
 meths:∀C ms x f,Γ.meths.lookup C=some ms->ms.lookup x=some f->Rz K C x f=true
 inits:∀C f,Γ.inits.lookup C=some f->RA K C f=true
 clsfn:∀C ms x f,Γ.clsfn.lookup C=some ms->ms.lookup x=some f->IM K C x f=true
 defs:∀f D,Γ.defs f=some D->JR K f D
 excs:∀C names,Γ.excs.lookup C=some names->Pe K C names
noncomputable def Dg(x:Ac):Bool := !(x == ("__debug__" : Ac)) && !(x == ("__classdict__" : Ac))
noncomputable def GS(Γ:AP)(ks:AF)(loc:Ao)(x:Ac):CM CV :=
 if Dg x=true then match ks.lookup x with
  | some .globalImplicit=>match Γ.top.lookup x with
   | some (.int i)=>ret (.int i)
   | _=>Ar
  | some .local | some .cell | some .free=>match loc.lookup x with
   | some v=>ret v
   | none=>Ar
  | _=>Ar
 else Ar
noncomputable def Pf:Const->CM CV
 | .none=>ret .none
 | .bool b=>ret (.bool b)
 | .int i=>ret (.int i)
 | .str x=>ret (.str x)
 | _=>Ar
noncomputable def Pg:CV->CM CV
 | .int i=>ret (.int (-i))
 | _=>Ar
noncomputable def GU(v:CV):CM Bool:=match v with
 | .none=>ret false
 | .bool b=>ret b
 | .int i=>ret (i != 0)
 | .ref n=>bnd (listC n) λvs=>ret (!vs.isEmpty)
 | _=>Ar
noncomputable def R0(k:Int):Bool:=decide (-9223372036854775808<=k/\k<9223372036854775808)
noncomputable def K9(vs:List CV)(k:Int):CM CV:=if R0 k=true then match (Ou k vs.length).bind (vs[·]?)with
 | some x=>ret x
 | none=>Ar
 else Ar
noncomputable def FK(n:Nat):CM (List (Int×CV)):=λσ=>match σ[n]? with
 | some (.dict es)=>.ok es σ
 | _=>.stuck
noncomputable def Hw(n:Nat)(σ:CH):Bool:=match σ[n]? with | some (.list _)=>true | _=>false
noncomputable def H4(o i:CV):CM CV:=match o,i with
 | .tup vs,.int k=>K9 vs k
 | .ref n,.int k=>λσ=>if Hw n σ=true then bnd (listC n) (λvs=>K9 vs k) σ else bnd (FK n) (λes=>match EW es k with | some x=>ret x | none=>Ar) σ
 | _,_=>Ar
noncomputable def GV(n:Nat):CM (Af×List (Ac×CV)):=λσ=>match σ[n]? with
 | some (.inst C as)=>.ok (C,as) σ
 | _=>.stuck
noncomputable def FL(Γ:AP)(C:Af)(x:Ac):Bool:=match Γ.attrs.lookup C with
 | some xs=>xs.contains x
 | none=>false
noncomputable def H5(Γ:AP)(o:CV)(x:Ac):CM CV:=match o with
 | .ref n=>bnd (GV n) λp=>if FL Γ p.1 x=true then match p.2.lookup x with
  | some v=>ret v
  | none=>Ar
  else Ar
 | _=>Ar
def H6(c:FC)(m:Ac->Option Ad)(env:Env)(l:Am)(x:Ac)(k:GJ)(v:CV):Prop:=match k with
 | .local=>(env.locals=c.L/\∃w,m x=some w/\VR l w v)\/∃oC m₂ w,AS l (env.locals,oC)/\(∀u,oC.data≠.cell u)/\Hk oC m₂/\m₂ x=some w/\VR l w v
 | .cell=>∃a o w,env.cells.lookup x=some a/\AS l (a,o)/\o.data=.cell (some w)/\VR l w v
 | .free=>∃a o w,env.cells.lookup x=some a/\AS l (a,o)/\o.data=.cell (some w)/\VR l w v
 | _=>False
structure Cd(c:FC)(m:Ac->Option Ad)(env:Env)(l:Am)(loc:Ao):Prop where
 nm:∀x v k,loc.lookup x=some v->env.kindOf x=some k->H6 c m env l x k v
 lo:env.locals=c.L\/∃o,AS l (env.locals,o)
structure Ck(c:FC)(env:Env):Prop where
 globals:env.globals=El
 builtins:env.builtins=builtinsNs
 kind:env.scope.kind=.function
 frame:env.frame=some c.L
section
variable {c:FC}{FX:Bm}{m:Ac->Option Ad}{l l':Am}{d:Nat}{env:Env}{loc:Ao}{Γ:AP}
theorem H6.mono(x:Ap No l l'){n:Ac}{k:GJ}{v:CV}(h:H6 c m env l n k v):H6 c m env l' n k v:=by
 rcases k with _ | _ | _ | _ | _
 case «local» =>
  rcases h with⟨e,w,hm,hv⟩ | ⟨oC,m₂,w,ho,hc,hn,hm,hv⟩
  ·exact .inl ⟨e,w,hm,hv.mono x⟩
  ·exact .inr ⟨oC,m₂,w,x.all ho,hc,hn,hm,hv.mono x⟩
 case cell =>
  refine Fd h ?_;clear h;rintro a o w e ho hd hv;exact⟨a,o,w,e,x.all ho,hd,hv.mono x⟩
 case free =>
  refine Fd h ?_;clear h;rintro a o w e ho hd hv;exact⟨a,o,w,e,x.all ho,hd,hv.mono x⟩
 all_goals exact h
theorem Cd.mono(x:Ap No l l')(h:Cd c m env l loc):Cd c m env l' loc:=⟨λn v k e q=>(h.nm n v k e q).mono x,h.lo.imp id λ⟨o,ho⟩=>⟨o,x.all ho⟩⟩
theorem R3(ok:AL c d)(g:Bs c.K Γ)(eo:Ck c env)(er:Cd c m env l loc){x:Ac}{pos:Pos}:Aa c FX m l (eval (.Name x pos) env) (GS Γ env.scope.names loc x) VR:=by
 unfold GS;refine Aa.guard λhx => ?_;simp only[Dg,Bf,Fc]at hx;have T:Mi c.p c.loose c.mg c.mb c.h₀:=II ok.top;have lo:∀k,env.kindOf x=some k->(k=.local\/k=.cell\/k=.free)->Aa c FX m l (eval (.Name x pos) env) (match loc.lookup x with | some v=>ret v | none=>Ar) VR:=λk hk hk'=>by
  rcases hv:loc.lookup x with _ | v
  ·exact Aa.stuck
  ·have z:=er.nm x v k hv hk;refine Aa.ofRet λs Q E q st => ?_;rcases hk' with rfl | rfl | rfl
   ·rcases z with⟨e,w,hm,hr⟩ | ⟨oC,m₂,w,ho,_,hn,hm,hr⟩
    ·exact Mj (QW eo.kind hk (e▸st.fr.ns) hm (q w s.toks hr)) hx.1
    ·exact Mj (QW eo.kind hk (hn.ns (st.nw _ ho.1).1) hm (q w s.toks hr)) hx.1
   ·refine Fd z ?_;clear z;rintro a o w e ho hd hr;exact Mj (wpAny_loadName_cell eo.kind hk e ⟨o,(st.nw _ ho.1).1,hd⟩ (q w s.toks hr)) hx.1
   ·refine Fd z ?_;clear z;rintro a o w e ho hd hr;exact Mj (wpAny_loadName_free eo.kind hk e ⟨o,(st.nw _ ho.1).1,hd⟩ (q w s.toks hr) hx.2) hx.1
 rcases hk:env.scope.names.lookup x with _ | k
 ·exact Aa.stuck
 rcases k with _ | _ | _ | _ | _
 case «local»=>exact lo _ hk (.inl rfl)
 case cell=>exact lo _ hk (.inr (.inl rfl))
 case free=>exact lo _ hk (.inr (.inr rfl))
 case globalExplicit=>exact Aa.stuck
 case globalImplicit =>
  dsimp only;rcases hi:Γ.top.lookup x with _ | (i | _)
  case some.int =>
   rcases g.top x _ hi with⟨w,hw,t,rfl⟩
   exact Aa.ofRet λs Q E q st=>Mk eo.kind hk (QX (by rw[eo.globals];exact T.g.keeps st.fr.keep) (mg_of ok.kin T.g hw) (q _ s.toks (.int _ _))) hx.1
  all_goals exact Aa.stuck
theorem Xe{k:Const}:Aa c FX m l (eval (.Constant k n pos) env) (Pf k) VR:=by
 rcases k with _ | _ | _ | _ | _ | _ | _ | _
 case none=>exact Aa.ofRet λs Q E q st=>Constant_none (q _ s.toks .none)
 case bool=>exact Aa.ofRet λs Q E q st=>Constant_bool (q _ s.toks (.bool _))
 case int =>
  exact Aa.ofRet λs Q E q st=>fun Γ p hΓ=>by
   exact q (.int _ s.toks) (s.toks+1) (.int _ _)
 case str=>exact Aa.ofRet λs Q E q st=>Constant_str (q _ _ (.str _ _))
 all_goals exact Aa.stuck
theorem Agu{a:CV}(hv:VR l v a):Aa c FX m l (unaryOp .USub v) (Pg a) VR:=by
 unfold Pg
 split
 ·rcases hv with⟨⟩
  exact Aa.ofRet λs Q E q st=>PySem.P.neg_int (q _ _ (.int _ _))
 ·exact Aa.stuck
theorem R4{a:CV}(hv:VR l v a):Aa c FX m l (truthy v) (GU a) (λz r b=>r=b):=by
 rcases a with _ | b | i | _ | _ | n
 ·obtain rfl:=hv.none_inv;exact Aa.now λs Q E st q=>truthy_none (q _ s.toks rfl)
 ·obtain rfl:=hv.bool_inv;exact Aa.now λs Q E st q=>Abq (q _ s.toks rfl)
 ·refine AK hv.int_inv ?_;rintro _ rfl;exact Aa.now λs Q E st q=>PyProof.Rows.truthy_int (q _ s.toks rfl)
 ·exact Aa.stuck
 ·exact Aa.stuck
 ·refine AG hv.ref_inv ?_;rintro _ rfl hl ha;refine Aa.getList (.ref hl ha) λcs ws k hs hz z hm hr=>Aa.now λs Q E st q => ?_;have e:=hr.length;rw[DC]at e;have hz':=of_decide_eq_true hz;refine wpAny_truthy_list (st.isList hm) (AfR e hz') (q _ _ ?_);rcases cs with _ | ⟨c,cs⟩
  ·simp at e;simp[e]
  ·simp at e;have:ws≠#[]:=λq=>by rw[q]at e;simp at e
   simp[this]
theorem St.inst{a:Af}{h:Bb}(st:St c m l h)(hv:VR l (.ref a) (.ref n))(hs:l.σ[n]? = some (.inst C as)) :
  ∃es k,(a,instObj C (l.ad n true))∈l.Φ/\(l.ad n true,dictOf es k)∈l.Φ/\Dr l es as/\l.ad n false=a:=by
 rcases hv with _ | _ | _ | _ | _ | ⟨hl,ha⟩
 ·refine Br (st.lr.obj _ _ hs) ?_;rintro es k h1 h2 h3;exact⟨es,k,ha▸h1,h2,h3,ha⟩
theorem Aa.getInst{t:Sem α}{f:Af×List (Ac×CV)->CM β}{V:Am->α->β->Prop}(h:∀C as,l.σ[n]? = some (.inst C as)->Aa c FX m l t (f (C,as)) V):Aa c FX m l t (bnd (GV n) f) V:=by
 intro s Q E st ok exc ns;rcases e:l.σ[n]? with _ | o
 ·exact absurd (by unfold bnd GV;rw[e]) ns
 ·rcases o with _ | _ | ⟨C,as⟩
  ·exact absurd (by unfold bnd GV;rw[e]) ns
  ·exact absurd (by unfold bnd GV;rw[e]) ns
  ·have eq:bnd (GV n) f l.σ=f (C,as) l.σ:=by unfold bnd GV;rw[e]
   rw[eq]at ok exc ns;exact h C as e s Q E st ok exc ns
theorem Aa.getDict{t:Sem α}{f:List (Int×CV)->CM β}{V:Am->α->β->Prop}(h:∀es,l.σ[n]? = some (.dict es)->Aa c FX m l t (f es) V):Aa c FX m l t (bnd (FK n) f) V:=by
 intro s Q E st ok exc ns;rcases e:l.σ[n]? with _ | o
 ·exact absurd (by unfold bnd FK;rw[e]) ns
 ·rcases o with _ | es | ⟨_,_⟩
  ·exact absurd (by unfold bnd FK;rw[e]) ns
  ·have eq:bnd (FK n) f l.σ=f es l.σ:=by unfold bnd FK;rw[e]
   rw[eq]at ok exc ns;exact h es e s Q E st ok exc ns
  ·exact absurd (by unfold bnd FK;rw[e]) ns
theorem Agv{e:Em}{es:List Em}(h1:e.key.isStr x=false)(h2:e.refKey=false):getL x (e::es)=getL x es:=by
 unfold getL;rw[Abn,h1,Ot,h2,Abr]
theorem Agw{e:Em}{es:List Em}(h1:e.key.isStr x=true):getL x (e::es)=some (some e.val):=by
 unfold getL;rw[Abn,h1]
set_option tactic.hygienic true in
theorem Dr.get{es:List Em}(h:Dr l es as)(x:Ac):(∃v w,as.lookup x=some v/\getL x es=some (some w)/\VR l w v)\/(as.lookup x=none/\getL x es=some none):=by
 induction h with
 | nil=>exact .inr ⟨rfl,rfl⟩
 | cons hv hr ih =>
  rename_i hh y t v cv es as;rw[BI]
  by_cases e:x=y
  ·subst e;refine .inl ⟨cv,v,by simp,?_,hv⟩
   exact Agw (by simp[Vc])
  ·have e1:(x == y)=false:=beq_eq_false_iff_ne.mpr e;have e2:(y == x)=false:=beq_eq_false_iff_ne.mpr (ER e);rw[Agv (by simp[Vc,e2]) rfl,e1]
   exact ih
theorem VR.handed{a:CV}(h:VR l v a):handedIn v=true:=by rcases h with⟨⟩<;>rfl
set_option tactic.hygienic true in
theorem Agx(ok:AL c d)(g:Bs c.K Γ){v:Ad}{a:CV}{x:Ac}{expr:Bool}(hv:VR l v a):Aa c FX m l (getAttr v x expr) (H5 Γ a x) VR:=by
 unfold H5
 split
 ·rename_i n;refine Aa.getInst λC as hs=>Aa.guard λha => ?_;unfold FL at ha
  split at ha
  ·rename_i xs hx;refine Au (g.attrs C xs x hx ha) ?_;rintro h1 _;simp only[Mu,Bf,beq_iff_eq]at h1;refine AG hv.ref_inv ?_;rintro _ rfl hl had
   split
   ·rename_i cv hc;refine Aa.ofRet λs Q E q st => ?_;refine Cq (st.inst (.ref hl had) hs) ?_;rintro es k m1 m2 r _;rcases r.get x with⟨v',w,e1,hw,hr⟩ | ⟨e1,_⟩
    ·have e2:some v'=some cv:=e1.symm.trans hc;injection e2 with za;subst za
     exact get_own st.fr ok.kin (Abs st.nw m1 m2) h1.1.1 h1.1.2 h1.2 rfl hw hr.handed (q w _ hr)
    ·have e2:none=some cv:=e1.symm.trans hc;exfalso;injection e2
   ·exact Aa.stuck
  ·exfalso;injection ha
 ·exact Aa.stuck
set_option tactic.hygienic true in
theorem Agy(slice:Expr)(o i:Ad):∃ops,subscripted slice false o i=operate ops (getItem o i):=by
 rcases slice with⟨⟩<;>try exact⟨_,rfl⟩
 rename_i lo hi st p;rcases st with⟨⟩<;>exact⟨_,rfl⟩
theorem Aa.getListOr{t:Sem α}{f:CM β}{g:CM β}{V:Am->α->β->Prop}(h1:Aa c FX m l t f V)(h2:Aa c FX m l t g V):Aa c FX m l t (λσ=>if Hw n σ=true then f σ else g σ) V:=by
 intro s Q E st ok exc ns;dsimp only at ok exc ns
 by_cases hp:Hw n l.σ=true
 ·rw[if_pos hp]at ok exc ns;exact h1 s Q E st ok exc ns
 ·rw[if_neg hp]at ok exc ns;exact h2 s Q E st ok exc ns
set_option tactic.hygienic true in
theorem Agz{slice:Expr}{o i:Ad}{a b:CV}(ho:VR l o a)(hi:VR l i b):Aa c FX m l (Ov value slice o i) (H4 a b) VR:=by
 refine AK (Agy slice o i) ?_;rintro ops hops;unfold H4;rcases a with _ | _ | _ | _ | xs | n
 case tup =>
  rcases b with _ | _ | k | _ | _ | _
  all_goals try exact Aa.stuck
  dsimp only;refine CP ho.tup_inv ?_;rintro _ _ _ rfl hoth hr;refine AK hi.int_inv ?_;rintro t rfl;unfold K9;refine Aa.guard λhk => ?_;have hk':=of_decide_eq_true hk
  split
  ·rename_i x hx;refine Ah (QY.mp hx) ?_;rintro j hj hx';refine Ah (hr.get hx') ?_;rintro v hv hr';rw[<- hr.length]at hj;refine Aa.ofRet λs Q E q st => ?_;have T:=st.isTup hoth;exact Abt T.typeIs slot_tuple_getitem.lookup (getItem_tuple T hk'.1 hk'.2 (by simpa using hj) (by simpa using hv) (q v s.toks hr')) hops
  ·exact Aa.stuck
 case ref =>
  rcases b with _ | _ | k | _ | _ | _
  all_goals try exact Aa.stuck
  dsimp only;refine AG ho.ref_inv ?_;rintro _ rfl hl had;refine AK hi.int_inv ?_;rintro t rfl;refine Aa.getListOr ?_ ?_
  ·refine Aa.getList (.ref hl had) λcs ws kk hs hz z hm hr => ?_;unfold K9;refine Aa.guard λhk => ?_;have hk':=of_decide_eq_true hk
   split
   ·rename_i x hx;refine Ah (QY.mp hx) ?_;rintro j hj hx';refine Ah (hr.get hx') ?_;rintro v hv hr';rw[<- hr.length]at hj;refine Aa.ofRet λs Q E q st => ?_;have T:=st.isList hm;obtain⟨li,rfl⟩:∃li:List Ad,ws=li.toArray:=⟨ws.toList,by rw[Abl]⟩
    refine Abt T.typeIs slot_list_getitem.lookup ?_ hops
    by_cases h0:k<0
    ·exact kde_getNeg T h0 hk'.1 (by simpa using hj) (by simpa using hv) (q v s.toks hr')
    ·have hj':j=k.toNat:=by
      unfold Ou at hj;rw[if_neg h0]at hj;dsimp only at hj
      split at hj
      ·injection hj with za;subst za;rfl
      ·exfalso;injection hj
     subst hj';exact wpAny_getItem_list T (AfQ h0) hk'.2 (by simpa using hv) (q v s.toks hr')
   ·exact Aa.stuck
  ·refine Aa.getDict λes hs => ?_
   split
   ·rename_i x hx;refine Aa.ofRet λs Q E q st => ?_;refine Cq (st.lr.obj _ _ hs) ?_;rintro ob kvs hm hsys hd hr;rw[had]at hm hsys;rcases hr.look k with⟨h1,_⟩ | ⟨v',x',h1,h2,h3⟩
    ·rw[h1]at hx;(exfalso;injection hx)
    ·rw[h1]at hx;injection hx with za;subst za
     have D:=Abu st.nw hm hd;have hk:(intKind c.prog c.w).is k (.int k t)=true:=by simp[intKind,Vb]
     exact Abt D.typeIs slot_dict_getitem.lookup (wpAny_getItem_of hk D.mapOf h2 (q v' _ h3)) hops
   ·exact Aa.stuck
 all_goals exact Aa.stuck
noncomputable def La(a:CV):Option (Option Int):=match a with
 | .none=>some none
 | .int i=>some (some i)
 | _=>none
noncomputable def IT(vs:List CV)(lo hi:Option Int):List CV:=(vs.drop (Ow lo vs.length)).take (kms_hi hi vs.length-Ow lo vs.length)
noncomputable def MF(o a b:CV):CM CV:=match La a with
 | some lo=>(match La b with
  | some hi=>(match o with
   | .ref n=>bnd (listC n) λvs=>B2 (IT vs lo hi)
   | _=>Ar)
  | none=>Ar)
 | none=>Ar
theorem Ph{a:CV}{o:Option Int}(h:La a=some o)(hv:VR l v a):IsPart v o:=by
 rcases a with _ | _ | i | _ | _ | _
 case none =>
  obtain rfl:=Ay h;obtain rfl:=hv.none_inv;exact .none
 case int =>
  obtain rfl:=Ay h;refine AK hv.int_inv ?_;rintro _ rfl;exact .int _ _
 all_goals exact(Ax h).elim
theorem AgA{e1 e2:Option Expr}{p:Pos}{o v1 v2:Ad}{a a1 a2:CV}(ho:VR l o a)(h1:VR l v1 a1)(h2:VR l v2 a2) :
  Aa c FX m l (Abv "slice" [v1,v2,.none] >>= λi=>standAt pos >>= λz=>Ov value (.Slice e1 e2 none p) o i) (MF a a1 a2) VR:=by
 unfold MF;rcases e1:La a1 with _ | lo
 ·exact Aa.stuck
 rcases e2:La a2 with _ | hi
 ·exact Aa.stuck
 rcases a with _ | _ | _ | _ | _ | n
 case ref =>
  dsimp only;refine AG ho.ref_inv ?_;rintro _ rfl hl had;refine Aa.getList (.ref hl had) λcs ws k hs hz z hm hr => ?_;have len:=hr.length;have hcut:(IT cs lo hi).length<=cs.length:=by
   unfold IT;rw[Ox,QZ];exact AfP
  intro s Q E st ok exc ns;unfold B2 at ok ns;have hx:small (IT cs lo hi).length=true:=by
   have:=of_decide_eq_true hz;exact decide_eq_true (AfO hcut this)
  rw[if_pos hx]at ok;refine Aj (Oy (Aj (F8 ?_)) (by simp[sizeOk,sizeLine]))
  refine kba_turn (value':=Expr.Name (PySem.Str.ofString "_") ⟨0,0,0,0⟩) (λz=>rfl) ?_;refine ApE st.fr st.nw (st.isList hm) (Ph e1 h1) (Ph e2 h2) rfl (λD h' F' N' fr => ?_) rfl (λz=>rfl) ?_
  ·have hv:AA l (Ra ws.toList lo hi) (IT cs lo hi):=by
    unfold Ra IT;rw[len];exact(hr.drop _).take _
   refine BS (st.addList F' N' fr hv) ?_;rintro l' e st' x v;exact ok _ l' _ h' s.toks (by rw[e]) st' x v
  ·rw[<- DC,len];exact Gk hz
 all_goals exact Aa.stuck
end
end
variable {Γ:AP}{ks names:AF}{vars base loc:Ao}
section
noncomputable def Dh(e:Expr):Bool:=EP e.ctorIdx 22
noncomputable def BC(f:Expr->CM CV):List Expr->CM (List CV)
 | []=>ret []
 | e::r=>if Dh e=true then Ar else bnd (f e) λv=>bnd (BC f r) λvs=>ret (v::vs)
theorem R5:∀(f:Expr->CM CV) (e:Expr) (r:List Expr),BC f (e::r)=if Dh e=true then Ar else bnd (f e) λ(v:CV)=>bnd (BC f r) λ(vs:List CV)=>ret (v::vs):=by intros;rfl
section
variable {c:FC}{FX:Bm}{m:Ac->Option Ad}{l l':Am}{d:Nat}{env:Env}{loc:Ao}{Γ:AP}
def Bz(c:FC)(FX:Bm)(m:Ac->Option Ad)(env:Env)(l:Am)(f:Expr->CM CV):Prop:=∀e l',Ap No l l'->Aa c FX m l' (eval e env) (f e) VR
theorem Bz.mono(h:Bz c FX m env l f)(x:Ap No l l'):Bz c FX m env l' f:=λe l2 x2=>h e l2 (x.trans x2)
theorem Bz.here(h:Bz c FX m env l f)(e:Expr):Aa c FX m l (eval e env) (f e) VR:=h e l (Ap.refl l)
theorem Aa.nstk{t:Sem α}{f:CM β}{V:Am->α->β->Prop}{p:Prop}[Decidable p](h:¬p->Aa c FX m l t f V):Aa c FX m l t (if p then Ar else f) V:=by
 by_cases hp:p
 ·rw[if_pos hp];exact Aa.stuck
 ·rw[if_neg hp];exact h hp
theorem JS{r:List Expr}(h:Dh e=false):starEach (e::r) env=(false,eval e env)::starEach r env:=by
 rcases e with⟨⟩<;>first | rfl | (exfalso;injection h)
theorem R6{x:Sem Ad}{rest:List (Bool×Sem Ad)}:spliced ((false,x)::rest)=(x >>= λv=>holding [v] (spliced rest) >>= λvs=>pure (v::vs)):=by
 rfl
theorem Hx:∀(es:List Expr) {l:Am},Bz c FX m env l f->Aa c FX m l (spliced (backTo pos (starEach es env))) (BC f es) AA:=by
 intro z1
 induction z1 with
 | nil =>
  intro l z2;exact Aa.pure (V:=AA) .nil
 | cons e r ih =>
  intro l h;rw[R5];refine Aa.nstk λhs => ?_;rw[JS (Rb.mpr hs)];show Aa c FX m l (spliced ((false,eval e env)::backTo pos (starEach r env))) _ _;rw[R6];refine Aa.bind (h.here e) λv a l' z x hv => ?_;refine Aa.bind (Aa.hold _ (ih (h.mono x))) λvs as l2 z x2 hvs => ?_;exact Aa.pure (V:=AA) (.cons (hv.mono x2) hvs)
theorem Xf:∀(es:List Expr),(∀e∈es,Dh e=false)->(backTo pos (starEach es env)).any (·.1)=false:=by
 intro z1
 induction z1 with
 | nil =>
  intro z2;exact rfl
 | cons e r ih =>
  intro h;rw[JS (h e (.head _))];show(false || (backTo pos (starEach r env)).any (·.1))=false;rw[ih λx hx=>h x (.tail _ hx)];rfl
noncomputable def noStar:List Expr->Bool
 | []=>true
 | e::r => !Dh e && noStar r
theorem MG:∀{es:List Expr},noStar es=true->∀e∈es,Dh e=false:=by
 intro z1
 induction z1 with
 | nil=>intros;contradiction
 | cons e r ih =>
  intro h x hx;simp only[noStar,Bf,Fc]at h;rcases AV.mp hx with rfl | hx
  ·exact h.1
  ·exact ih h.2 x hx
def Xg(c:FC)(FX:Bm)(m:Ac->Option Ad)(l:Am)(f:Ad)(spec:List CV->CM CV):Prop:=∀l' vs cs,Ap No l l'->AA l' vs cs->Aa c FX m l' (call f vs) (spec cs) VR
theorem MH{P:Bb->Prop}{fv:Ad}{first:List Ad}{fa:CM α}{k:α->CM δ}{W:Am->List Ad->α->Prop}{V:Am->Ad->δ->Prop}(hn:noStar es=true)
  (hP:∀l' h,St c m l' h->Ap No l l'->P h) (hk:∀h,P h->∃k,(k=Keeper.frame\/k=ApF\/k=ApG)/\BR c.M h (keeperOf fv) k)
  (hargs:Aa c FX m l (spliced (backTo pos (starEach es env))) fa W) (body:∀vs a l',Ap No l l'->W l' vs a->Aa c FX m l' (call fv (first++vs)) (k a) V) :
  Aa c FX m l (callWith pos fv first (backTo pos (starEach es env)) []) (bnd fa k) V:=by
 intro s Q E st ok exc ns;have plain:((backTo pos (starEach es env)).any (·.1) || ([]:List (Option Ac×Sem Ad)).any (·.1.isNone))=false:=by
  rw[Xf es (MG hn)];rfl
 refine callWith_of (P:=P) plain hk ?_;have main:wpAny c.M c.A (spliced (backTo pos (starEach es env))) (λvs s₁=>P s₁.heap/\wpAny c.M c.A (call fv (first++vs) []) Q E s₁) E s:=by
  refine hargs s _ E st (λas l' vs h' tk e st' x hv=>⟨hP l' h' st' x,?_⟩) (λx l' e h' tk hx xx fx => ?_) λq => ?_
  ·have eb:bnd fa k l.σ=k as l'.σ:=by unfold bnd;rw[e]
   rw[eb]at ok exc ns;exact body vs as l' x hv _ Q E st' (λb l2 a h2 tk2 e2 st2 x2 v2=>ok b l2 a h2 tk2 e2 st2 (x.trans x2) v2) (λx2 l2 e2 h2 tk2 hx2 xx2 fx2=>exc x2 l2 e2 h2 tk2 hx2 (x.trans xx2) fx2) ns
  ·exact exc x l' e h' tk (by unfold bnd;rw[hx]) xx fx
  ·exact ns (by unfold bnd;rw[q])
 rcases es with _ | ⟨e,r⟩
 ·have z:backTo pos (starEach [] env)=[]:=rfl;rw[z]at main ⊢;refine evalArgs_nil3 ?_;have main':wpAny c.M c.A (pure []:Sem (List Ad)) (λvs s₁=>P s₁.heap/\wpAny c.M c.A (call fv (first++vs) []) Q E s₁) E s:=main
  exact⟨hP l _ st (Ap.refl l),fun Γ p hΓ=>(main' Γ p hΓ).2 Γ p hΓ⟩
 ·rw[JS (MG hn e (.head _))]at main ⊢;exact ApH main
end
end
section
noncomputable def Lb(a:CV):CM CV:=match a with
 | .tup vs=>if small vs.length=true then ret (.int vs.length)else Ar
 | .ref n=>bnd (listC n) λvs=>ret (.int vs.length)
 | _=>Ar
noncomputable def IU(a:CV):CM CV:=match a with
 | .ref n=>λσ=>if Hw n σ=true then bnd (listC n) (λvs=>B2 vs) σ else bnd (FK n) (λes=>B2 (es.map λp=>.int p.1)) σ
 | _=>Ar
noncomputable def Pj(a:CV):CM CV:=match a with
 | .tup vs=>ret (.tup vs)
 | .ref n=>bnd (listC n) λvs=>EV vs
 | _=>Ar
noncomputable def Ff:List CV->Option (List Int)
 | []=>some []
 | .int i::r=>match Ff r with
  | some is=>some (i::is)
  | none=>none
 | _=>none
noncomputable def Hy(x:Int):List Int->List Int
 | []=>[x]
 | y::r=>if x<=y then x::y::r else y::Hy x r
theorem R7:∀(x y:Int) (r:List Int),Hy x (y::r)=if x<=y then x::y::r else y::Hy x r:=by intros;rfl
noncomputable def EX:List Int->List Int
 | []=>[]
 | x::r=>Hy x (EX r)
noncomputable def Lc(is:List Int):CM CV:=if is.length<64 then B2 ((EX is).map .int)else Ar
noncomputable def JT(a:CV):CM CV:=match a with
 | .ref n=>λσ=>if Hw n σ=true then bnd (listC n) (λvs=>match Ff vs with | some is=>Lc is | none=>Ar) σ else bnd (FK n) (λes=>Lc (es.map (·.1))) σ
 | _=>Ar
noncomputable def MI(a b:CV):CM CV:=match a,b with
 | .int x,.int y=>ret (.int (if y<x then y else x))
 | _,_=>Ar
noncomputable def MJ(a:CV):CM CV:=match a with
 | .int x=>if x.natAbs<9223372036854775808 then ret (.str (Ab (toString x)))else Ar
 | _=>Ar
noncomputable def IV(n:Nat)(o:CO):CM CV:=λσ=>.ok .none (σ.set n o)
noncomputable def Hz(n:Nat)(v:CV):CM CV:=bnd (listC n) λvs=>IV n (.list (vs++[v]))
noncomputable def Ld(n:Nat)(v:CV):CM CV:=match v with
 | .ref k=>if n=k then Ar else bnd (listC n) λvs=>bnd (listC k) λws=>IV n (.list (vs++ws))
 | _=>Ar
noncomputable def MK(n:Nat):CM CV:=bnd (listC n) λvs=>match vs.getLast? with
 | some y=>bnd (IV n (.list vs.dropLast)) λz=>ret y
 | none=>Ar
noncomputable def ML(n:Nat):CM CV:=bnd (listC n) λvs=>IV n (.list vs.reverse)
noncomputable def EY(es:List (Int×CV))(k:Int)(v:CV):List (Int×CV):=if(es.any λp=>decide (p.1=k))=true then es.map (λp=>if p.1=k then(p.1,v)else p)else es++[(k,v)]
noncomputable def IW(o i v:CV):CM CV:=match o,i with
 | .ref n,.int k=>λσ=>if Hw n σ=true then bnd (listC n) (λvs=>if 0<=k/\k<vs.length then IV n (.list (vs.set k.toNat v))else Ar) σ
  else bnd (FK n) (λes=>if small es.length=true then IV n (.dict (EY es k v))else Ar) σ
 | _,_=>Ar
section
variable {c:FC}{FX:Bm}{m:Ac->Option Ad}{l l':Am}{d:Nat}{env:Env}{loc:Ao}{Γ:AP}
theorem AgB{a:CV}(hv:VR l v a):Aa c FX m l (call (.builtin "len") [v]) (Lb a) VR:=by
 unfold Lb
 split
 ·refine Aa.guard λhz => ?_;have hz':=of_decide_eq_true hz;refine CP hv.tup_inv ?_;rintro _ _ _ rfl ho hr;have e:=hr.length;refine Aa.ofRet λs Q E q st=>PyProof.Rows.len_tuple (st.isTup ho) (by simp;exact Af4 hz' e) ?_
  have:=q (.int _ (s.toks+1)) (s.toks+2) (.int _ _);simp only[KH,e];exact this
 ·refine AG hv.ref_inv ?_;rintro _ rfl hl ha;refine Aa.getList (.ref hl ha) λcs ws k hs hz z hm hr => ?_;have hz':=of_decide_eq_true hz;have e:=hr.length;rw[DC]at e;refine Aa.ofRet λs Q E q st=>call_len_list (st.isList hm) (Af3 hz' e) ?_;have:=q (.int _ (s.toks+1)) (s.toks+2) (.int _ _);rw[e];exact this
 ·exact Aa.stuck
theorem Aa.newL(h:small cs.length=true->∀(s:Aq) (Q:Ad->Aq->Prop) (E:Ad->Aq->Prop),St c m l s.heap ->
  (∀(D:Af) (h':Bb) (k tk:Nat) (ws:List Ad),Fr c.h₀ c.L h' m->CL c.h₀ c.L h' ((D,listOf ws.toArray k)::l.Φ)->(∀p∈l.Φ,p.1<D)->AA l ws cs->Q (.ref D) (put s h' tk)) ->
  wpAny c.M c.A t Q E s):Aa c FX m l t (B2 cs) VR:=by
 intro s Q E st ok exc ns;unfold B2 at ok ns
 by_cases hz:small cs.length=true
 ·rw[if_pos hz]at ok;refine h hz s Q E st λD h' k tk ws F' N' fr hv => ?_;refine BS (st.addList F' N' fr hv) ?_;rintro l' e st' x v;exact ok _ l' _ h' tk (by rw[e]) st' x v
 ·rw[if_neg hz]at ns;exact absurd rfl ns
theorem BJ.keyAt{es:List (Int×CV)}(h:BJ l ps es):∀{ws:List Ad},ws.length=ps.length->(∀(j:Nat) (v:Ad),ws[j]? = some v->∃k x,ps[j]? = some (k,x)/\(intKind c.prog c.w).is k v=true)->AA l ws (es.map λp=>.int p.1):=by
 induction h with
 | nil=>intro ws hl _;cases ws with | nil=>exact .nil | cons _ _=>(exfalso;injection hl)
 | cons hv r ih =>
  intro ws hl hj;rcases ws with _ | ⟨w0,ws⟩
  ·exfalso;injection hl
  ·refine Bg (hj 0 w0 rfl) ?_;rintro k' x e hk;rw[Abo]at e;injection e with za;injection za with za zb;subst za;subst zb
   refine .cons ?_ (ih (by simpa using hl) λj v e=>by simpa using hj (j+1) v (by simpa using e))
   rcases w0 with⟨⟩<;>simp[intKind,Vb]at hk
   subst hk;exact .int _ _
theorem Aa.getDictR{t:Sem α}{f:List (Int×CV)->CM β}{V:Am->α->β->Prop}{a:Af}(hv:VR l (.ref a) (.ref n))
  (h:∀es ob kvs,l.σ[n]? = some (.dict es)->l.ad n false=a->(a,ob)∈l.Φ->(a == UZ)=false->ob.IsDictOf (intKind c.prog c.w) kvs->BJ l kvs es->Aa c FX m l t (f es) V):Aa c FX m l t (bnd (FK n) f) V:=by
 refine Au hv.ref_ad ?_;rintro hl had;refine Aa.getDict λes hs => ?_;intro s Q E st;refine Cq (st.lr.obj _ _ hs) ?_;rintro ob kvs hm hsys hd hr;rw[had]at hm hsys;exact h es ob kvs hs had hm hsys hd hr s Q E st
theorem AgC(ok:AL c d){v:Ad}{a:CV}(hv:VR l v a):Aa c FX m l (call (.type "list") [v]) (IU a) VR:=by
 unfold IU
 split
 ·refine AG hv.ref_inv ?_;rintro _ rfl hl ha;refine Aa.getListOr ?_ ?_
  ·refine Aa.getList (.ref hl ha) λcs ws k hs hz z hm hr=>Aa.newL λhz s Q E st q => ?_;exact kup_listOf st.fr st.nw hm rfl (λD k' h' F' N' fr=>q D h' k' s.toks _ F' N' fr hr) (by rw[hr.length];exact Gk hz)
  ·refine Aa.getDictR (.ref hl ha) λes ob kvs hs had hm hsys hd hr=>Aa.newL λhz s Q E st q => ?_;have D:=Abu st.nw hm hd;refine AK D.dictAt ?_;rintro ep D';have e:=hr.length;rw[AJ]at hz;refine kdl_N (kdl_dict (knd:=intKind c.prog c.w) (ep:=ep) hsys) ok.handled st.fr st.nw D' (by rw[e];exact Gk hz) λD k' h' tk vs F' N' fr hl' hj=>q D h' k' tk vs F' N' fr (BJ.keyAt hr hl' hj)
 ·exact Aa.stuck
theorem AgD{a:CV}(hv:VR l v a):Aa c FX m l (call (.type "tuple") [v]) (Pj a) VR:=by
 unfold Pj
 split
 ·rcases hv with _ | _ | _ | _ | ⟨ho,hr⟩ | _
  ·exact Aa.ofRet λs Q E q st=>call_tuple_tup (st.isTup ho) (q _ s.toks (.tup ho hr))
 ·refine AG hv.ref_inv ?_;rintro _ rfl hl ha;refine Aa.getList (.ref hl ha) λcs ws k hs hz z hm hr => ?_;have e:=hr.length;have hz':=of_decide_eq_true hz;rw[DC]at e;intro s Q E st ok exc ns;unfold EV at ok;rw[if_pos hz]at ok;refine kde_tupleOf st.fr st.nw (st.isList hm) (Af2 e hz') rfl λD h' F' N' fr => ?_;refine BS (st.addTup F' N' fr hr) ?_;rintro l' e st' x v;exact ok (.tup cs) l' _ h' s.toks (by rw[e];rfl) st' x v
 ·exact Aa.stuck
set_option tactic.hygienic true in
theorem AA.ints(e:Ff cs=some is)(h:AA l vs cs):JF vs is :=
 h.ind (P:=λvs cs=>∀is,Ff cs=some is->JF vs is) (λis e=>by
  obtain rfl:=Ay e;exact .nil) (λ{v vs c cs} a _ ih is e=>by
  rcases c with⟨⟩<;>try exact(Ax e).elim
  rename_i i;have e:(match Ff cs with | some is=>some (i::is) | none=>none)=some is:=e
  rcases q:Ff cs with _ | js
  ·rw[q]at e;exact(Ax e).elim
  ·rw[q]at e;obtain rfl:=Ay e;refine AK a.int_inv ?_;rintro _ rfl;exact .cons _ _ (ih js q)) is e
theorem AgE:∀{cs:List CV} {is:List Int},Ff cs=some is->cs=is.map .int:=by
 intro cs
 induction cs with
 | nil=>intro is h;obtain rfl:=Ay h;rfl
 | cons c cs ih =>
  intro is h;rcases c with _ | _ | i | _ | _ | _
  case int =>
   have h:(match Ff cs with | some is=>some (i::is) | none=>none)=some is:=h
   rcases e:Ff cs with _ | js
   ·rw[e]at h;exact(Ax h).elim
   ·rw[e]at h;obtain rfl:=Ay h;rw[ih e];rfl
  all_goals exact(Ax h).elim
theorem Xh:∀is:List Int,Ff (is.map .int)=some is:=by
 intro z1
 induction z1 with
 | nil =>
  exact rfl
 | cons i r ih =>
  show(match Ff (r.map .int)with | some is=>some (i::is) | none=>none)=_
  rw[ih]
theorem Pk(h:JF vs is):AA l vs (is.map .int):=by
 induction h with
 | nil=>exact .nil
 | cons _ _ _ ih=>exact .cons (.int _ _) ih
theorem Xi(x:Int):∀l:List Int,(Hy x l).Perm (x::l):=by
 intro z1
 induction z1 with
 | nil =>
  exact Abw _
 | cons y r ih =>
  rw[R7]
  split
  ·exact Abw _
  ·exact((ih).cons y).trans (ApI x y r)
theorem AgF:∀l:List Int,(EX l).Perm l:=by
 intro z1
 induction z1 with
 | nil =>
  exact Abw _
 | cons x r ih =>
  exact(Xi x _).trans ((ih).cons x)
theorem AgG{x y:Int}{l:List Int}(h:y∈Hy x l):y=x\/y∈l:=by
 have:=(Xi x l).mem_iff.mp h
 simpa using this
set_option tactic.hygienic true in
theorem AgH(x:Int):∀{l:List Int},l.Pairwise (λa b=>a<=b)->(Hy x l).Pairwise (λa b=>a<=b):=by
 intro z1
 induction z1 with
 | nil =>
  intro z2;simp[Hy]
 | cons y r ih =>
  intro h;rw[R7]
  split
  ·rename_i hxy;refine IJ.mpr ⟨λz hz => ?_,h⟩;rcases AV.mp hz with rfl | hz
   ·exact hxy
   ·have:=(IJ.mp h).1 z hz;exact Af1 hxy this
  ·rename_i hxy;refine Au (IJ.mp h) ?_;rintro h1 h2;refine IJ.mpr ⟨λz hz => ?_,ih h2⟩;rcases AgG hz with rfl | hz
   ·exact Af0 hxy
   ·exact h1 z hz
theorem AgI:∀l:List Int,(EX l).Pairwise (λa b=>a<=b):=by
 intro z1
 induction z1 with
 | nil =>
  exact List.Pairwise.nil
 | cons x r ih =>
  exact AgH x (ih)
theorem Pl{a b:List Int}(h:a.Perm b)(s:a.Pairwise (λa b=>a<=b)):a=EX b:=lks_uniq (h.trans (AgF b).symm) s (AgI b)
set_option tactic.hygienic true in
theorem AgJ(ok:AL c d){v:Ad}{a:CV}(hv:VR l v a):Aa c FX m l (call (.builtin "sorted") [v]) (JT a) VR:=by
 unfold JT
 split
 ·refine AG hv.ref_inv ?_;rintro _ rfl hl ha;refine Aa.getListOr ?_ ?_
  ·refine Aa.getList (.ref hl ha) λcs ws k hs hz z hm hr => ?_
   split
   ·rename_i is hi;unfold Lc;refine Aa.guard λh64=>Aa.newL λhz s Q E st q => ?_;have I:=AA.ints hi hr;have L:=st.isList hm;rw[<- Abl (xs:=ws)]at L;refine kso_sorted st.fr st.nw L I h64 λD vs' ns' k' h' F' N' fr I' z hp hs' z => ?_;have e:=Pl hp hs';subst e;exact q D h' k' s.toks _ F' N' fr (Pk I')
   ·exact Aa.stuck
  ·refine Aa.getDictR (.ref hl ha) λes ob kvs hs had hm hsys hd hr => ?_;unfold Lc;refine Aa.guard λh64=>Aa.newL λhz s Q E st q => ?_;have D:=Abu st.nw hm hd;refine AK D.dictAt ?_;rintro ep D';have e:=hr.length;rw[AJ]at h64;refine kdu_sorted (kdl_dict (knd:=intKind c.prog c.w) (ep:=ep) hsys) ok.handled st.fr st.nw D' (by rw[e,F9];exact AfZ h64) λD h' tk vs F' N' fr hl' hj => ?_
   have V:AA l vs ((es.map (·.1)).map .int):=by
    rw[C5];exact BJ.keyAt hr hl' hj
   have I:JF vs (es.map (·.1)):=AA.ints (Xh _) V;refine ksk_lsort F' N' (λo=>.head λp hp=>Cb (fr p hp)) (by simp) I (by rw[AJ];exact h64) λvs' ns' k' h2 F2 N2 I' z hp hs' z => ?_
   have e:=Pl hp hs';subst e;exact q D h2 k' tk _ F2 N2 fr (Pk I')
 ·exact Aa.stuck
theorem AgK(ok:AL c d){v w:Ad}{a b:CV}(hv:VR l v a)(hw:VR l w b):Aa c FX m l (call (.builtin "min") [v,w]) (MI a b) VR:=by
 unfold MI
 split
 ·rcases hv with⟨⟩;rcases hw with⟨⟩
  intro s Q E st q _ _;exact min_two_N ok.handled st.fr st.nw λh' tk F' N'=>q _ l _ h' tk rfl ⟨F',N',st.lr⟩ (Ap.refl l) (.int _ _)
 ·exact Aa.stuck
set_option tactic.hygienic true in
theorem AgL{a:CV}(hv:VR l v a):Aa c FX m l (call (.type "str") [v]) (MJ a) VR:=by
 unfold MJ
 split
 ·refine Aa.guard λhx => ?_;rcases hv with⟨⟩
  rename_i x t;refine Aa.ofRet λs Q E q st=>P.str_of_int (shown_abs (N:=9223372036854775808) (by split<;>omega) (by decide +kernel)) (q _ _ (.str _ _))
 ·exact Aa.stuck
theorem Aa.setList{a:Af}{cs':List CV}{ws:Array Ad}{k:Nat}(hs:l.σ[n]? = some (.list cs))(ha:l.ad n false=a)(hm:(a,listOf ws k)∈l.Φ)
  (h:∀(s:Aq) (Q:Ad->Aq->Prop) (E:Ad->Aq->Prop) (pre post:List (Af×AU)),St c m l s.heap->l.Φ=pre++(a,listOf ws k)::post->(∀p∈pre,p.1≠a)->(∀p∈post,p.1≠a) ->
   (∀(h':Bb) (k' tk:Nat) (ws':Array Ad),Fr c.h₀ c.L h' m->CL c.h₀ c.L h' (pre++(a,listOf ws' k')::post)->AA l ws'.toList cs'->Q .none (put s h' tk)) ->
   wpAny c.M c.A t Q E s):Aa c FX m l t (IV n (.list cs')) VR:=by
 intro s Q E st ok exc ns;refine Br (st.split hm) ?_;rintro pre post e h1 h2;refine h s Q E pre post st e h1 h2 λh' k' tk ws' F' N' hv => ?_;subst ha;refine AG (st.turnList hs e F' N' hv) ?_;rintro l' e' st' x;exact ok .none l' _ h' tk (by show B8.ok _ _=_;rw[e']) st' x .none
theorem AA.size{ws:Array Ad}(h:AA l ws.toList cs):ws.size=cs.length:=by rw[<- DC];exact h.length
theorem Xj{D:Af}{a:CV}(hd:VR l (.ref D) (.ref n))(hv:VR l v a):Aa c FX m l (call (.builtin "list.append") [.ref D,v]) (Hz n a) VR:=by
 unfold Hz;refine Aa.getList hd λcs ws k hs hz had hm hr=>Aa.setList hs had hm λs Q E pre post st e h1 h2 q => ?_;have N:=st.nw;rw[e]at N;refine append_K st.fr N (K8 h1 h2) (λh' F' N'=>q h' _ s.toks _ F' N' ?_) (by rw[hr.size];exact Gk hz)
 rw[Vd];exact hr.append (.cons hv .nil)
theorem AA.nil_iff(h:AA l vs cs)(e:vs=[]):cs=[]:=by subst e;rcases h with⟨⟩;rfl
theorem Xk{b:Nat}(h:a+b<=8000)(x:Bool):¬(x && Abx (a+b))=true:=by
 have:Abx (a+b)=false:=by
  unfold Abx;have:=F9;exact decide_eq_false (AfY h this)
 rw[this,Oo];exact CD
set_option tactic.hygienic true in
theorem AgM{D:Af}{a:CV}(hd:VR l (.ref D) (.ref n))(hv:VR l v a):Aa c FX m l (call (.builtin "list.extend") [.ref D,v]) (Ld n a) VR:=by
 unfold Ld
 split
 ·rename_i j;refine Aa.nstk λhne => ?_;refine AG hv.ref_inv ?_;rintro _ rfl hl2 ha2;refine Aa.getList hd λcs ws k hs hz had hm hr=>Aa.getList (.ref hl2 ha2) λcs2 ws2 k2 hs2 hz2 had2 hm2 hr2=>Aa.setList hs had hm λs Q E pre post st e h1 h2 q => ?_;have N:=st.nw;rw[e]at N hm2;have z1:=hr.size;have z2:=hr2.size;have y1:=of_decide_eq_true hz;have y2:=of_decide_eq_true hz2;have ys1:=Gk hz;have hl:=F9
  by_cases he:ws2.toList=[]
  ·have:=hr2.nil_iff he;subst this;refine kxn_extend st.fr N hm2 he (K8 h1 h2) (Xk (AfX z1 y1 z2 y2) _) (by rw[hr.length];exact ys1) (AfW z1 y1 hl z2 y2) λh' F' N'=>q h' _ s.toks _ F' N' ?_
   rw[Dw];exact hr
  ·refine kl_extend st.fr N hm2 rfl (λq=>he (Aby.mp q)) (K8 h1 h2) (Xk (AfV z1 z2 y1 y2) _) (by rw[hr.length];exact ys1) (AfU z1 z2 y1 y2 hl) λh' F' N'=>q h' _ s.toks _ F' N' ?_
   exact hr.append hr2
 ·exact Aa.stuck
theorem AA.last{y:CV}(h:AA l vs cs)(e:cs.getLast? = some y):∃p v,vs=p++[v]/\AA l p cs.dropLast/\VR l v y:=by
 revert e;refine AA.ind (P:=λvs cs=>cs.getLast? = some y->∃p v,vs=p++[v]/\AA l p cs.dropLast/\VR l v y) (λe=>nomatch e) (λ{v vs c cs} hv r ih e => ?_) h
 rcases cs with _ | ⟨c2,cs⟩
 ·obtain rfl:=r.nil_inv;obtain rfl:=Ay e;exact⟨[],v,rfl,.nil,hv⟩
 ·rw[List.getLast?_cons_cons]at e;refine Br (ih e) ?_;rintro p u e1 h1 h2;exact⟨v::p,u,by rw[e1];rfl,.cons hv h1,h2⟩
set_option tactic.hygienic true in
theorem AgN{D:Af}(hd:VR l (.ref D) (.ref n)):Aa c FX m l (call (.builtin "list.pop") [.ref D]) (MK n) VR:=by
 unfold MK;refine Aa.getList hd λcs ws k hs hz had hm hr => ?_
 split
 ·rename_i y hy;intro s Q E st ok exc ns;refine Br (hr.last hy) ?_;rintro p v e1 h1 h2;refine Br (st.split hm) ?_;rintro pre post e g1 g2;have N:=st.nw;rw[e]at N;refine kl_pop st.fr N (by rw[e1];exact kpa_last v p) (K8 g1 g2) (by rw[hr.length];exact Gk hz) λh' F' N' => ?_
  subst had;refine AG (st.turnList hs e F' N' (cs':=cs.dropLast) (by simpa using h1)) ?_;rintro l' e' st' x
  exact ok y l' _ h' s.toks (by show B8.ok _ _=_;rw[e']) st' x (h2.mono x)
 ·exact Aa.stuck
theorem AA.rev(h:AA l vs cs):AA l vs.reverse cs.reverse :=
 AA.ind (P:=λvs cs=>AA l vs.reverse cs.reverse) .nil (λhv z ih=>by rw[Oz,Oz];exact ih.append (.cons hv .nil)) h
theorem AgO{D:Af}(hd:VR l (.ref D) (.ref n)):Aa c FX m l (call (.builtin "list.reverse") [.ref D]) (ML n) VR:=by
 unfold ML;refine Aa.getList hd λcs ws k hs hz had hm hr=>Aa.setList hs had hm λs Q E pre post st e h1 h2 q => ?_;have N:=st.nw;rw[e]at N;refine kl_reverse st.fr N rfl (K8 h1 h2) (by rw[hr.length];exact Gk hz) λh' F' N'=>q h' _ s.toks _ F' N' ?_
 simpa using hr.rev
theorem AA.set{a:CV}(h:AA l vs cs)(hv:VR l v a):∀i,AA l (vs.set i v) (cs.set i a) :=
 h.ind (P:=λvs cs=>∀i,AA l (vs.set i v) (cs.set i a)) (λz=>.nil) λa r ih i=>by
  rcases i with _ | i
  ·exact .cons hv r
  ·exact .cons a (ih i)
theorem BJ.any{es:List (Int×CV)}(h:BJ l ps es)(k:Int):(ps.any λp=>decide (p.1=k))=es.any λp=>decide (p.1=k):=by
 induction h with
 | nil=>rfl
 | cons _ _ ih=>rw[Ot,Ot,ih]
theorem BJ.app{qs:List (Int×Ad)}{es fs:List (Int×CV)}(h:BJ l ps es)(h2:BJ l qs fs):BJ l (ps++qs) (es++fs):=by
 induction h with
 | nil=>exact h2
 | cons hv _ ih=>exact .cons hv ih
theorem BJ.put{es:List (Int×CV)}{a:CV}(h:BJ l ps es)(hv:VR l v a)(k:Int):BJ l (ps.map λp=>if p.1=k then(p.1,v)else p) (es.map λp=>if p.1=k then(p.1,a)else p):=by
 induction h with
 | nil=>exact .nil
 | cons h1 _ ih =>
  rw[Bo,Bo]
  split
  ·exact .cons hv ih
  ·exact .cons h1 ih
theorem BJ.stored{es:List (Int×CV)}{a:CV}(h:BJ l ps es)(hv:VR l v a)(k:Int) :
  BJ l (PySem.stored ps k v) (EY es k a):=by
 unfold PySem.stored EY;rw[h.any]
 split
 ·exact h.put hv k
 ·exact h.app (.cons hv .nil)
set_option tactic.hygienic true in
theorem AgP{o i:Ad}{a b e:CV}(ho:VR l o a)(hi:VR l i b)(hv:VR l v e):Aa c FX m l (setItem o i v) (IW a b e) (λj j j=>True):=by
 unfold IW
 split
 ·rename_i n k;refine AG ho.ref_inv ?_;rintro _ rfl hl had;refine AK hi.int_inv ?_;rintro t rfl;refine Aa.getListOr ?_ ?_
  ·refine Aa.getList (.ref hl had) λcs ws kk hs hz j hm hr=>Aa.guard λhk => ?_;intro s Q E st ok exc ns;refine Br (st.split hm) ?_;rintro pre post e g1 g2;have N:=st.nw;have z:=hr.size;have y:=of_decide_eq_true hz;refine ki_setAt (st.nw _ hm).1 hk.1 (AfT hk y) (AfS hk z) ?_;rw[e]at N;have nz:=N _ (CC _ (.head _));subst had;refine AG (st.turnList hs e (st.fr.change (Ve ..) nz.2.1 nz.2.2) (ki_turn (λx=>x.setIfInBounds k.toNat v) N g1 g2 rfl rfl) (cs':=cs.set k.toNat _) (by rw[Array.toList_setIfInBounds];exact hr.set hv _)) ?_;rintro l' e' st' x
   exact ok .none l' _ _ s.toks (by show B8.ok _ _=_;rw[e']) st' x trivial
  ·refine Aa.getDictR (.ref hl had) λes ob kvs hs had hm hsys hd hr=>Aa.guard λhz => ?_;intro s Q E st ok exc ns;refine Br (st.split hm) ?_;rintro pre post e g1 g2;have N:=st.nw;rw[e]at N;have hk:(intKind c.prog c.w).is k (.int k t)=true:=by simp[intKind,Vb]
   refine kda_set st.fr N (Agi g1 g2) hd hk (by rw[hr.length];exact Gk hz) λh' o' F' N' hd' => ?_
   subst had;refine AG (st.turn (b:=false) (co':=.dict (EY es k _)) hs rfl (λq=>nomatch q) e F' N' λl' x ea hm' j=>by
    exact⟨o',_,by rw[ea];exact hm',by rw[ea];exact hsys,hd',(hr.stored hv k).mono x⟩) ?_;rintro l' e' st' x
   exact ok .none l' _ _ _ (by show B8.ok _ _=_;rw[e']) st' x trivial
 ·exact Aa.stuck
theorem AgQ(ok:AL c d){pos:Pos}:Aa c FX m l (eval (.Dict [] [] pos) env) WZ VR:=by
 intro s Q E st q exc ns;refine newDict_K st.fr st.nw (II ok.top).nolimit λD h' o F' N' fr hsys z z hd z => ?_;refine BS (st.addL (co:=.dict []) F' N' (λp hp=>Cb (fr p hp)) rfl λl' x hm ha=>⟨o,[],by rw[ha];exact hm,by rw[ha];exact hsys,hd,.nil⟩) ?_;rintro l' e st' x v
 exact q _ l' _ h' s.toks (by show B8.ok _ _=_;rw[e]) st' x v
end
end
section
abbrev Eu:Am->Bool->Bool->Prop:=λz r b=>r=b
abbrev EZ:Am->α->β->Prop:=λz z z=>True
noncomputable def MM(f:Expr->CM CV)(op:BoolOp):List Expr->CM CV
 | []=>Ar
 | e::r=>match r with
  | []=>f e
  | _=>bnd (f e) λv=>bnd (GU v) λt=>match op,t with
   | .And,false=>ret v
   | .Or,true=>ret v
   | _,_=>MM f op r
noncomputable def HA(f:Expr->CM CV)(a:CV):List Fz->List Expr->CM CV
 | [op],[e]=>bnd (f e) λb=>bnd (Et op a b) λt=>ret (.bool t)
 | op::ops,e::es=>bnd (f e) λb=>bnd (Et op a b) λt=>if t=true then HA f b ops es else ret (.bool t)
 | _,_=>Ar
noncomputable def FN(f:Expr->CM CV)(a:CV):List Fz->List Expr->CM Bool
 | [op],[e]=>bnd (f e) λb=>Et op a b
 | op::ops,e::es=>bnd (f e) λb=>bnd (Et op a b) λt=>if t=true then FN f b ops es else ret t
 | _,_=>Ar
noncomputable def Le(g:Expr->CM Bool)(op:BoolOp):List Expr->CM Bool
 | []=>ret (op == .And)
 | e::r=>bnd (g e) λt=>match op,t with
  | .And,false=>ret false
  | .Or,true=>ret true
  | _,_=>Le g op r
theorem Xl:∀(g:Expr->CM Bool) (op:BoolOp) (e:Expr) (r:List Expr),Le g op (e::r)=bnd (g e) λ(t:Bool)=>match op,t with | BoolOp.And,false=>ret false | BoolOp.Or,true=>ret true | x,x_1=>Le g op r:=by intros;rfl
set_option tactic.hygienic true in
theorem R8(x:CM α):bnd x ret=x:=by
 funext σ
 unfold bnd ret;cases (x σ)<;>rfl
section
variable {c:FC}{FX:Bm}{m:Ac->Option Ad}{l l':Am}{d:Nat}{env:Env}{loc:Ao}{Γ:AP}
def Ea(c:FC)(FX:Bm)(m:Ac->Option Ad)(env:Env)(l:Am)(g:Expr->CM Bool):Prop:=∀e l',Ap No l l'->Aa c FX m l' (isTrue e env (eval e env)) (g e) Eu
theorem Ea.mono{f:Expr->CM Bool}(h:Ea c FX m env l f)(x:Ap No l l'):Ea c FX m env l' f:=λe l2 x2=>h e l2 (x.trans x2)
theorem Ea.here{f:Expr->CM Bool}(h:Ea c FX m env l f)(e:Expr):Aa c FX m l (isTrue e env (eval e env)) (f e) Eu:=h e l (Ap.refl l)
theorem Aa.release{t:Sem α}{f:CM β}{V:Am->α->β->Prop}{ks:List Ad}(h:Aa c FX m l t f V):Aa c FX m l (PySem.release vs ks >>= λz=>t) f V :=
 λs Q E st ok exc ns=>Aj (Vg (h s Q E st ok exc ns))
theorem AgR(h:Bz c FX m env l f){a b:Expr}{op:HV}{pos:Pos}:Aa c FX m l (eval (.BinOp a op b pos) env) (bnd (f a) λx=>bnd (f b) λy=>Gj op x y) VR:=by
 rw[arm_eval_BinOp];refine Aa.bind (h.here a) λv x l1 z e1 hv=>Aa.bind (Aa.hold _ ((h.mono e1).here b)) λw y l2 z e2 hw => ?_;exact Aa.stand _ (Aa.operate (Agl (hv.mono e2) hw))
theorem AgS(h:Bz c FX m env l f){a:Expr}{pos:Pos}:Aa c FX m l (eval (.UnaryOp .USub a pos) env) (bnd (f a) Pg) VR:=by
 rw[ApJ];exact Aa.bind (h.here a) λv x l1 z e1 hv=>Aa.stand _ (Aa.hold _ (Agu hv))
theorem AgT(v:Ad):unaryOp .Not v=holding [v] (truthy v >>= λb=>pure (.bool (!b))):=rfl
theorem AgU(h:Bz c FX m env l f){a:Expr}{pos:Pos}:Aa c FX m l (eval (.UnaryOp .Not a pos) env) (bnd (f a) λv=>bnd (GU v) λb=>ret (.bool !b)) VR:=by
 rw[ApJ];refine Aa.bind (h.here a) λv x l1 z e1 hv=>Aa.stand _ (Aa.hold _ ?_);rw[AgT];refine Aa.hold _ (Aa.bind (R4 hv) λr b l2 z z e => ?_);subst e;exact Aa.pure (V:=VR) (.bool _)
theorem R9(e:Expr)(r:List Expr):evalEach (e::r) env=eval e env::evalEach r env:=rfl
theorem AgV{op:BoolOp}:∀(es:List Expr) {l:Am},Bz c FX m env l f->Aa c FX m l (boolOp pos op (evalEach es env)) (MM f op es) VR:=by
 intro es
 induction es with
 | nil=>intro _ _;exact Aa.stuck
 | cons e r ih0 =>
  intro l h;rcases r with _ | ⟨e2,r⟩
  ·exact h.here e
  ·show Aa c FX m l (eval e env >>= λv=>standAt pos >>= λz=>holding [v] (truthy v) >>= λt=>match op,t with | .And,false | .Or,true=>pure v | _,_=>boolOp pos op (evalEach (e2::r) env)) (bnd (f e) λv=>bnd (GU v) λt=>match op,t with
    | .And,false=>ret v
    | .Or,true=>ret v
    | _,_=>MM f op (e2::r)) VR
   refine Aa.bind (h.here e) λv x l1 z e1 hv=>Aa.stand _ (Aa.bind (Aa.hold _ (R4 hv)) λt b l2 z x2 q => ?_);subst q;have ih:=ih0 (h.mono (e1.trans x2));rcases op with⟨⟩<;>rcases t with⟨⟩
   ·exact Aa.pure (V:=VR) (hv.mono x2)
   ·exact ih
   ·exact ih
   ·exact Aa.pure (V:=VR) (hv.mono x2)
theorem Aa.mapC{t:Sem α}{f:CM β}{g:β->γ}{V:Am->α->β->Prop}{V2:Am->α->γ->Prop}(h:Aa c FX m l t f V)(hg:∀l' a b,V l' a b->V2 l' a (g b)):Aa c FX m l t (bnd f λb=>ret (g b)) V2:=by
 intro s Q E st ok exc ns;refine h s Q E st (λb l' a h' tk e st' x v => ?_) (λx l' e h' tk hx xx fx => ?_) λq => ?_
 ·exact ok (g b) l' a h' tk (by unfold bnd;rw[e];rfl) st' x (hg _ _ _ v)
 ·exact exc x l' e h' tk (by unfold bnd;rw[hx]) xx fx
 ·exact ns (by unfold bnd;rw[q])
theorem Aa.truthB{X:Bool->Sem α}{Y:CM β}{V:Am->α->β->Prop}(h:Aa c FX m l (X b) Y V):Aa c FX m l (holding vs (truthy (.bool b)) >>= X) Y V :=
 λs Q E st ok exc ns=>Aj (Dp (Abq (h s Q E st ok exc ns)))
theorem AgW{x:Sem Ad}{xs:List (Sem Ad)}(h:ops≠[]\/xs≠[]):Abz pos v (op::ops) (x::xs) =
  (holding [v] x >>= λrv=>standAt pos >>= λz=>holding [v,rv] (JE op v rv) >>= λc=>PySem.release [v,rv] [c] >>= λz=>holding [c,rv] (truthy c) >>= λt=>if t=true then Abz pos rv ops xs else pure c):=by
 rcases ops with⟨⟩<;>rcases xs with⟨⟩<;>first | rfl | (rcases h with h | h<;>exact absurd rfl h)
theorem AgX{x:Sem Ad}{xs:List (Sem Ad)}(h:ops≠[]\/xs≠[]):AbA pos v (op::ops) (x::xs) =
  (holding [v] x >>= λrv=>standAt pos >>= λz=>holding [v,rv] (JE op v rv) >>= λc=>PySem.release [v,rv] [c] >>= λz=>holding [c,rv] (truthy c) >>= λt=>if t=true then AbA pos rv ops xs else pure false):=by
 rcases ops with⟨⟩<;>rcases xs with⟨⟩<;>first | rfl | (rcases h with h | h<;>exact absurd rfl h)
theorem AgY{a:CV}(h:ops≠[]\/es≠[]):HA f a (op::ops) (e::es)=bnd (f e) λb=>bnd (Et op a b) λt=>if t=true then HA f b ops es else ret (.bool t):=by
 rcases ops with⟨⟩<;>rcases es with⟨⟩<;>first | rfl | (rcases h with h | h<;>exact absurd rfl h)
theorem AgZ{a:CV}(h:ops≠[]\/es≠[]):FN f a (op::ops) (e::es)=bnd (f e) λb=>bnd (Et op a b) λt=>if t=true then FN f b ops es else ret t:=by
 rcases ops with⟨⟩<;>rcases es with⟨⟩<;>first | rfl | (rcases h with h | h<;>exact absurd rfl h)
theorem Xm(h:es≠[]):evalEach es env≠[]:=by
 rcases es with _ | ⟨e,r⟩
 ·exact absurd rfl h
 ·rw[R9];exact List.cons_ne_nil _ _
theorem Ag0(ok:AL c d){f:Expr->CM CV}{pos:Pos}:∀(ops:List Fz) (es:List Expr) {l:Am} {v:Ad} {a:CV},Bz c FX m env l f->VR l v a->Aa c FX m l (Abz pos v ops (evalEach es env)) (HA f a ops es) VR:=by
 intro z1
 induction z1 with
 | nil =>
  intro es z2 z3 z4 z5 z6;rcases es with⟨⟩<;>exact Aa.stuck
 | cons op ops ih =>
  intro z7;rcases z7 with _ | ⟨e,es⟩
  ·intro z8 z9 z10 z11 z12;rcases ops with⟨⟩<;>exact Aa.stuck
  ·intro l v a h hv
   by_cases hh:ops≠[]\/es≠[]
   ·rw[AgY hh,R9,AgW (hh.imp id Xm)];refine Aa.bind (Aa.hold _ (h.here e)) λw b l1 z e1 hw=>Aa.stand _ (Aa.bind (Aa.hold _ (Pd ok (hv.mono e1) hw)) λcv t l2 z e2 hc=>Aa.release ?_);have hc':cv=.bool t:=hc;subst hc';refine Aa.truthB ?_;rcases t with⟨⟩
    ·exact Aa.pure (V:=VR) (.bool _)
    ·exact ih es (h.mono (e1.trans e2)) (hw.mono e2)
   ·have h1:ops=[]:=Vh λq=>hh (.inl q);have h2:es=[]:=Vh λq=>hh (.inr q);subst h1 h2;show Aa c FX m l (holding [v] (eval e env) >>= λrv=>standAt pos >>= λz=>operate [v,rv] (JE op v rv)) (bnd (f e) λb=>bnd (Et op a b) λt=>ret (.bool t)) VR;exact Aa.bind (Aa.hold _ (h.here e)) λw b l1 z e1 hw=>Aa.stand _ (Aa.operate (Aa.mapC (Pd ok (hv.mono e1) hw) λl' cv t hc=>by
     have hc':cv=.bool t:=hc;subst hc';exact .bool _))
theorem Ag1(ok:AL c d){f:Expr->CM CV}{pos:Pos}:∀(ops:List Fz) (es:List Expr) {l:Am} {v:Ad} {a:CV},Bz c FX m env l f->VR l v a->Aa c FX m l (AbA pos v ops (evalEach es env)) (FN f a ops es) Eu:=by
 intro z1
 induction z1 with
 | nil =>
  intro es z2 z3 z4 z5 z6;rcases es with⟨⟩<;>exact Aa.stuck
 | cons op ops ih =>
  intro z7;rcases z7 with _ | ⟨e,es⟩
  ·intro z8 z9 z10 z11 z12;rcases ops with⟨⟩<;>exact Aa.stuck
  ·intro l v a h hv
   by_cases hh:ops≠[]\/es≠[]
   ·rw[AgZ hh,R9,AgX (hh.imp id Xm)];refine Aa.bind (Aa.hold _ (h.here e)) λw b l1 z e1 hw=>Aa.stand _ (Aa.bind (Aa.hold _ (Pd ok (hv.mono e1) hw)) λcv t l2 z e2 hc=>Aa.release ?_);have hc':cv=.bool t:=hc;subst hc';refine Aa.truthB ?_;rcases t with⟨⟩
    ·exact Aa.pure (V:=Eu) rfl
    ·exact ih es (h.mono (e1.trans e2)) (hw.mono e2)
   ·have h1:ops=[]:=Vh λq=>hh (.inl q);have h2:es=[]:=Vh λq=>hh (.inr q);subst h1 h2;show Aa c FX m l (holding [v] (eval e env) >>= λrv=>standAt pos >>= λz=>operate [v,rv] (JE op v rv) >>= λcv=>holding [cv] (truthy cv)) (bnd (f e) λb=>Et op a b) Eu;refine Aa.bind (Aa.hold _ (h.here e)) λw b l1 z e1 hw=>Aa.stand _ (Aa.of_eq (f':=bnd (Et op a b) ret) (Aa.bind (Aa.operate (Pd ok (hv.mono e1) hw)) λcv t l2 z e2 hc => ?_) (R8 _).symm);have hc':cv=.bool t:=hc;subst hc';exact Aa.hold _ (Aa.now λs Q E st q=>Abq (q _ s.toks rfl))
theorem Ag2(ok:AL c d){f:Expr->CM CV}(h:Bz c FX m env l f){a:Expr}{ops:List Fz}{es:List Expr}{pos:Pos} :
  Aa c FX m l (eval (.Compare a ops es pos) env) (if OA ops es=true then Ar else bnd (f a) λv=>HA f v ops es) VR:=by
 refine Aa.nstk λhm => ?_;rw[arm_eval_Compare,ApK ops es _ (Rb.mpr hm)];exact Aa.bind (h.here a) λv x l1 z e1 hv=>Ag0 ok ops es (h.mono e1) hv
theorem Ag3(ok:AL c d){f:Expr->CM CV}(h:Bz c FX m env l f){a:Expr}{ops:List Fz}{es:List Expr}{pos:Pos}{t:Sem Ad} :
  Aa c FX m l (isTrue (.Compare a ops es pos) env t) (if OA ops es=true then Ar else bnd (f a) λv=>FN f v ops es) Eu:=by
 refine Aa.nstk λhm => ?_;rw[arm_isTrue_Compare,ApK ops es _ (Rb.mpr hm)];exact Aa.bind (h.here a) λv x l1 z e1 hv=>Ag1 ok ops es (h.mono e1) hv
theorem Ag4{op:BoolOp}:∀(es:List Expr) {l:Am},Ea c FX m env l g->Aa c FX m l (allTrue op es env) (Le g op es) Eu:=by
 intro es
 induction es with
 | nil=>intro l _;exact Aa.pure (V:=Eu) rfl
 | cons e r ih0 =>
  intro l h;rw[arm_allTrue_cons];rw[Xl];refine Aa.bind (h.here e) λt b l1 z e1 q => ?_;subst q;have ih:=ih0 (h.mono e1);rcases op with⟨⟩<;>rcases t with⟨⟩
  ·exact Aa.pure (V:=Eu) rfl
  ·exact ih
  ·exact ih
  ·exact Aa.pure (V:=Eu) rfl
theorem Ag5(h:Bz c FX m env l f)(hg:Ea c FX m env l g){t a b:Expr}{pos:Pos}:Aa c FX m l (eval (.IfExp t a b pos) env) (bnd (g t) λq=>if q=true then f a else f b) VR:=by
 rw[arm_eval_IfExp];refine Aa.bind (hg.here t) λr q l1 z e1 hq => ?_;subst hq;rcases r with⟨⟩
 ·exact(h.mono e1).here b
 ·exact(h.mono e1).here a
theorem Ag6(hg:Ea c FX m env l g){t a b:Expr}{pos:Pos}{w:Sem Ad}:Aa c FX m l (isTrue (.IfExp t a b pos) env w) (bnd (g t) λq=>if q=true then g a else g b) Eu:=by
 rw[arm_isTrue_IfExp];refine Aa.bind (hg.here t) λr q l1 z e1 hq => ?_;subst hq;rcases r with⟨⟩
 ·exact(hg.mono e1).here b
 ·exact(hg.mono e1).here a
theorem Ag7(hg:Ea c FX m env l g){a:Expr}{pos:Pos}{w:Sem Ad}:Aa c FX m l (isTrue (.UnaryOp .Not a pos) env w) (bnd (g a) λq=>ret !q) Eu:=by
 rw[arm_isTrue_UnaryOp];refine Aa.bind (hg.here a) λr q l1 z e1 hq => ?_;subst hq;exact Aa.pure (V:=Eu) rfl
theorem Xn(h:Bz c FX m env l f){e:Expr}(he:isTrue e env (eval e env)=(eval e env >>= λv=>standAt e.pos >>= λz=>holding [v] (truthy v))):Aa c FX m l (isTrue e env (eval e env)) (bnd (f e) GU) Eu:=by
 rw[he];exact Aa.bind (h.here e) λv x l1 z e1 hv=>Aa.stand _ (Aa.hold _ (R4 hv))
theorem Xo(h:Bz c FX m env l f){es:List Expr}{n:Nat}{pos:Pos}:Aa c FX m l (eval (.Tuple es n pos) env) (bnd (BC f es) EV) VR:=by
 rw[arm_eval_Tuple];exact Aa.stand _ (Aa.bind (Hx es h) λvs cs l1 z e1 hv=>Agj hv)
theorem Ag8(h:Bz c FX m env l f){es:List Expr}{pos:Pos}:Aa c FX m l (eval (.List es pos) env) (bnd (BC f es) B2) VR:=by
 rw[arm_eval_List];exact Aa.stand _ (Aa.bind (Hx es h) λvs cs l1 z e1 hv=>W0 hv)
noncomputable def IX(e:Expr):Bool:=match MA e with
 | some q => !(q.2.1.isEmpty && q.2.2.1.isEmpty)
 | none=>true
set_option tactic.hygienic true in
theorem Sa{o:Expr}{w:Sem Ad}(h:IX o=true):attributeBase o x env w=w:=by
 rcases o with⟨⟩<;>try rfl
 rename_i fn as kw p;rcases as with _ | ⟨_,_⟩
 ·rcases kw with _ | ⟨_,_⟩
  ·exact(CD h).elim
  ·rcases fn with⟨⟩<;>rfl
 ·rcases fn with⟨⟩<;>rfl
theorem Aa.letGo{t:Expr}{o r:Ad}{b:CV}(hv:VR l r b):Aa c FX m l (letTemporaryGo t o r >>= λz=>(Om r:Sem Ad)) (ret b) VR :=
 Aa.ofRet λs z z q z=>Aj (wpAny_letTemporaryGo (AD (q r s.toks hv)))
theorem Aa.holdBind{X:Sem α}{k:α->Sem β}{f:CM γ}{V:Am->β->γ->Prop}(h:Aa c FX m l (X >>= k) f V):Aa c FX m l (holding vs X >>= k) f V :=
 λs Q E st ok exc ns=>fun Γ p hΓ=>by
  have:=h s Q E st ok exc ns Γ p hΓ
  simpa only[Sem.wp_bind',Sem.wp_holding] using this
theorem Aa.assoc{X:Sem α}{Y:α->Sem β}{k:β->Sem γ}{f:CM δ}{V:Am->γ->δ->Prop}(h:Aa c FX m l (X >>= λa=>Y a >>= k) f V):Aa c FX m l ((X >>= Y) >>= k) f V :=
 λs Q E st ok exc ns=>fun Γ p hΓ=>by
  have:=h s Q E st ok exc ns Γ p hΓ
  simpa only[Sem.wp_bind'] using this
theorem Ag9(ok:AL c d)(g:Bs c.K Γ){f:Expr->CM CV}(h:Bz c FX m env l f){o:Expr}{x:Ac}{pos:Pos}:Aa c FX m l (eval (.Attribute o x pos) env) (if IX o=true then bnd (f o) λv=>H5 Γ v x else Ar) VR:=by
 refine Aa.guard λhb => ?_;rw[ApL,Sa hb];refine Aa.bind (h.here o) λv a l1 z e1 hv=>Aa.stand _ (Aa.of_eq (f':=bnd (H5 Γ a x) ret) (Aa.bind (Aa.hold _ (Agx ok g hv)) λr b l2 z e2 hr=>Aa.letGo hr) (R8 _).symm)
noncomputable def Pm(f:Expr->CM CV):Option Expr->CM CV
 | none=>ret .none
 | some e=>f e
theorem Xq(h:Bz c FX m env l f){o:Option Expr}:Aa c FX m l (valueOrNone (evalOpt o env)) (Pm f o) VR:=by
 rcases o with _ | e
 ·exact Aa.pure (V:=VR) .none
 ·exact h.here e
noncomputable def MN(f:Expr->CM CV)(o i:Expr):CM CV:=match K7 i with
 | some q=>(match q.2.2.1 with
  | none=>bnd (f o) λv=>bnd (Pm f q.1) λx=>bnd (Pm f q.2.1) λy=>MF v x y
  | some _=>Ar)
 | none=>bnd (f o) λv=>bnd (f i) λk=>H4 v k
theorem Aha(h:Bz c FX m env l f){o i:Expr}{pos:Pos}:Aa c FX m l (eval (.Subscript o i pos) env) (MN f o i) VR:=by
 have e:eval (.Subscript o i pos) env=(eval o env >>= λv=>holding [v] (eval i env) >>= λk=>standAt pos >>= λq=>Ov o i v k):=rfl;rw[e];have df:Aa c FX m l (eval o env >>= λv=>holding [v] (eval i env) >>= λk=>standAt pos >>= λq=>Ov o i v k) (bnd (f o) λv=>bnd (f i) λk=>H4 v k) VR:=by
  exact Aa.bind (h.here o) λv x l1 q e1 hv=>Aa.bind (Aa.hold _ ((h.mono e1).here i)) λk y l2 q e2 hk=>Aa.stand _ (Agz (hv.mono e2) hk)
 unfold MN;rcases hq:K7 i with _ | ⟨a,b,st,p⟩
 ·exact df
 obtain rfl:i=.Slice a b st p:=Agh hq;clear hq df e;dsimp only;rcases st with _ | _
 ·refine Aa.bind (h.here o) λv x l1 q e1 hv=>Aa.holdBind ?_;rw[ApM];refine Aa.assoc (Aa.bind (Xq (h.mono e1)) λv1 x1 l2 q e2 hv1=>Aa.assoc (Aa.bind (Aa.hold _ (Xq (h.mono (e1.trans e2)))) λv2 x2 l3 q e3 hv2 => ?_));have z:=AgA (c:=c) (FX:=FX) (m:=m) (value:=o) (e1:=a) (e2:=b) (p:=p) (pos:=pos) (hv.mono (e2.trans e3)) (hv1.mono e3) hv2;exact Aa.assoc (λs Q E st ok exc ns=>Aj (Dp (AD (z s Q E st ok exc ns))))
 ·exact Aa.stuck
end
end
section
noncomputable def Fg(es:List Expr)(apos pos:Pos):Bool:=noStar es && decide (es.length<30) && apos.endLine == pos.line
def MO(c:FC)(FX:Bm)(f:Af)(spec:List CV->CM CV):Prop:=∀(m:Ac->Option Ad) (l:Am) (vs:List Ad) (cs:List CV) (s:Aq) (R:Hc->Aq->Prop),AA l vs cs->St c m l s.heap ->
 (∀b l' v h' tk,spec cs l.σ=.ok b l'.σ->St c m l' h'->Ap No l l'->VR l' v b->R (.ok (.ret v)) (put s h' tk)) ->
 (∀x l' e h' tk,spec cs l.σ=.exc x l'.σ->Ap No l l'->FX l' x e h'->R (.error e) (put s h' tk)) ->
 spec cs l.σ≠.stuck->codeAny c.M c.A (.call (.ref f) ⟨vs,[]⟩) R s
def Lf(FX:FC->Bm)(Γ:AP)(d:Nat):Prop:=∀(c:FC),Bs c.K Γ->AL c d->∀f spec,Γ.fn f=some spec->MO c (FX c) f spec
def HB(FX:FC->Bm)(Γ:AP)(d:Nat)(c:FC):Prop:=∀(c':FC),c'.outer=c.outer/\c'.base=c.base/\c'.h₀=c.h₀/\c'.K=c.K->Bs c'.K Γ->AL c' d->∀f spec,Γ.fn f=some spec->MO c' (FX c') f spec
theorem Lf.here(h:Lf FX Γ d)(c:FC):HB FX Γ d c:=λc' z=>h c'
noncomputable def Di(Γ:AP)(f:Af)(vs:List CV):CM CV:=match Γ.fn f with
 | some spec=>spec vs
 | none=>Ar
noncomputable def newC(Γ:AP)(C:Af)(vs:List CV):CM CV:=match Γ.inits.lookup C with
 | some f=>λσ=>match Di Γ f (.ref σ.length::vs) (σ++[.inst C []])with
  | .ok .none σ'=>.ok (.ref σ.length) σ'
  | _=>.stuck
 | none=>Ar
noncomputable def CQ(x:Ac)(v:CV):List (Ac×CV)->List (Ac×CV)
 | []=>[(x,v)]
 | (y,w)::r=>if y=x then(x,v)::r else(y,w)::CQ x v r
theorem MP:∀(x:Ac) (v:CV) (y:Ac) (w:CV) (r:List (Ac×CV)),CQ x v ((y,w)::r)=if y=x then(x,v)::r else(y,w)::CQ x v r:=by intros;rfl
theorem Ahb:∀(x:Ac) (v:CV),CQ x v []=[(x,v)]:=by intros;rfl
noncomputable def MQ(Γ:AP)(o:CV)(x:Ac)(v:CV):CM CV:=match o with
 | .ref n=>bnd (GV n) λp=>if FL Γ p.1 x=true/\p.2.length<900 then IV n (.inst p.1 (CQ x v p.2))else Ar
 | _=>Ar
noncomputable def H7(f:CV->CV->Option Bool)(v:CV):List CV->Nat
 | []=>0
 | y::r=>if f y v=some true then 0 else H7 f v r+1
theorem Xr:∀(f:CV->CV->Option Bool) (v y:CV) (r:List CV),H7 f v (y::r)=if f y v=some true then 0 else H7 f v r+1:=by intros;rfl
noncomputable def JU(n:Nat)(v:CV):CM CV:=bnd (listC n) λvs=>λσ=>if Es (Cj σ 20) v vs=some true then .ok (.int (H7 (Cj σ 20) v vs)) σ else .stuck
noncomputable def Lg(k:CM CV):List CV->CM CV
 | []=>k
 | _=>Ar
noncomputable def DK(k:CV->CM CV):List CV->CM CV
 | [v]=>k v
 | _=>Ar
noncomputable def Xu(k:CV->CV->CM CV):List CV->CM CV
 | [v,w]=>k v w
 | _=>Ar
noncomputable def FO(n:Nat)(x:Ac)(vs:List CV):CM CV :=
 if x = "append" then DK (Hz n) vs
 else if x = "extend" then DK (Ld n) vs
 else if x = "pop" then Lg (MK n) vs
 else if x = "reverse" then Lg (ML n) vs
 else if x = "index" then DK (JU n) vs
 else Ar
noncomputable def Pn(v:Ad)(vs:List CV):CM CV :=
 if v=.builtin "len" then DK Lb vs
 else if v=.type "list" then DK IU vs
 else if v=.type "tuple" then DK Pj vs
 else if v=.builtin "sorted" then DK JT vs
 else if v=.builtin "min" then Xu MI vs
 else if v=.type "str" then DK MJ vs
 else Ar
section
variable {c:FC}{FX:Bm}{m:Ac->Option Ad}{l l':Am}{d:Nat}{env:Env}{loc:Ao}{Γ:AP}
theorem MO.call{f:Af}{spec:List CV->CM CV}(h:MO c FX f spec):Xg c FX m l (.ref f) spec:=λz vs cs z hv s z z st ok exc ns =>
 KI (h m _ vs cs s _ hv st (λb l' v h' tk e st' x r=>ok b l' v h' tk e st' x r) (λx l' e h' tk hx xx fx=>exc x l' e h' tk hx xx fx) ns)
theorem AL.weaken{e:Nat}(h:AL c e)(hd:d<=e):AL c d:={ h with depth:=by have:=h.depth;exact Afb hd this,units:=by have:=h.units;exact Afa hd this }
noncomputable def FC.under(c:FC)(k:Code):FC:={ c with A:=c.A.under k }
theorem AL.newC{a:Ad}(h:AL c (d+1)):AL (c.under (.builtin "type.__call__" ⟨a::vs,[]⟩)) d:=by
 have hg:(Vi "type.__call__" ⟨a::vs,[]⟩).isGuard=false:=by show guardIds.contains "type.__call__" = false;decide +kernel
 have hf:(Vi "type.__call__" ⟨a::vs,[]⟩).frames=0:=rfl;have hc:(Vi "type.__call__" ⟨a::vs,[]⟩).isCaller=false:=rfl;have hw:(Vi "type.__call__" ⟨a::vs,[]⟩).weight<=1:=by
  unfold Code.weight;rw[hg,hf,hc]
  split<;>simp
 have h1:=h.depth;have h2:=h.units;refine { below:=h.below,kin:=h.kin,top:=h.top,frames := ?_,frame:=h.frame,kind:=h.kind,depth := ?_,units := ?_,handled:=h.handled }
 ·show pushEnvs [] c.A.frames=_;rw[h.frames];rfl
 ·show c.A.depth+_+10*d<=900;exact Ae9 hw h1
 ·show c.A.units+(1+3*_)+100*d<=9000;rw[hf];exact Ae8 h2
theorem VR.noneEq(h:VR l v .none):v=.none:=by rcases h with⟨⟩;rfl
set_option tactic.hygienic true in
theorem Dr.put{es:List Em}{hsh:Int}{t:Tok}{a:CV}(h:Dr l es as)(hv:VR l v a):Dr l (putL x hsh (.str x t) v es) (CQ x a as):=by
 induction h with
 | nil=>exact .cons hv .nil
 | cons h1 _ ih =>
  rename_i hh y t' v' c' es as h2;rw[putL,MP]
  by_cases e:y=x
  ·subst e;rw[if_pos rfl,if_pos (by simp[Vc])]
   exact .cons hv ‹_›
  ·rw[if_neg e,if_neg (by simp[Vc,e])]
   exact .cons h1 ih
theorem Dr.length{es:List Em}(h:Dr l es as):es.length=as.length:=by
 induction h with
 | nil=>rfl
 | cons _ _ ih=>rw[BN,BN,ih]
theorem Sb(x:Ac)(v:CV):∀as:List (Ac×CV),(CQ x v as).length<=as.length+1:=by
 intro z1
 induction z1 with
 | nil =>
  simp[CQ]
 | cons z2 r ih =>
  rcases z2 with⟨y,w⟩
  rw[MP]
  split
  ·simp
  ·have:=ih;simp only[BN];exact Ae7 this
set_option tactic.hygienic true in
theorem Ahc(ok:AL c d)(g:Bs c.K Γ){o v:Ad}{a b:CV}{x:Ac}(ho:VR l o a)(hv:VR l v b):Aa c FX m l (setAttr o x v) (MQ Γ a x b) EZ:=by
 unfold MQ
 split
 ·rename_i n;refine Aa.getInst λC as hs=>Aa.guard λha => ?_;refine Au ha ?_;clear ha;rintro ha hz;unfold FL at ha
  split at ha
  ·rename_i xs hx;refine Au (g.attrs C xs x hx ha) ?_;rintro _ h1;simp only[Ry,Bf,beq_iff_eq]at h1;refine AG ho.ref_inv ?_;rintro _ rfl hl had;intro s Q E st q _ _;refine Cq (st.inst (.ref hl had) hs) ?_;rintro es k m1 m2 r _;refine Br (st.split m2) ?_;rintro pre post e g1 g2;have hl':(getL x es).isSome=true:=by
    rcases r.get x with⟨_,_,_,hw,_⟩ | ⟨_,hw⟩<;>rw[hw]<;>rfl
   have hlen:=(r.put (x:=x) (hsh:=Ml c.w.params x) (t:=s.toks+1) hv).length;have hp:=Sb x b as;have N:=st.nw;rw[e]at N;have hd1:QO c.K C=true:=by
    simp only[Mu,Bf]at *;exact(g.attrs C xs x hx ha).1 |> λz=>by simp only[Mu,Bf]at z;exact z.1.2
   have hz':as.length<900:=hz;refine set_dict st.fr ok.kin N (Abs st.nw m1 m2) rfl h1.2 h1.1.1.1 h1.1.1.2 hd1 hl' rfl (K8 g1 g2) (Ae6 hlen hp hz') λh' F' N' => ?_;refine AG (st.turn (b:=true) (co':=.inst C (CQ x b as)) hs rfl (λy=>rfl) e F' N' λl' x' ea hm' hoth=>by
    refine⟨_,_,?_,by rw[ea];exact hm',(r.put hv).mono x'⟩
    rw[ea,had];refine hoth _ m1 λq => ?_;have:=(st.lr.inj n n false true ⟨_,hs,λq=>nomatch q⟩ ⟨_,hs,λy=>rfl⟩ (had.trans q)).2
    exfalso;injection this) ?_;rintro l' e' st' x'
   exact q .none l' _ h' _ (by show B8.ok _ _=_;rw[e']) st' x' trivial
  ·exfalso;injection ha
 ·exact Aa.stuck
open Classical in
set_option tactic.hygienic true in
theorem Ahd{f:CV->CV->Option Bool}(R:LR c.prog c.w l){x:CV}{vs:List Ad}{cs:List CV}(h:AA l vs cs)(e:Es f x cs=some true) :
  ∃i,∃hi:i<vs.length,H7 f x cs=i/\decide (∃cy,VR l vs[i] cy/\f cy x=some true)=true/\∀j (hj:j<vs.length),j<i->decide (∃cy,VR l vs[j] cy/\f cy x=some true)=false:=by
 revert e;refine AA.ind (P:=λvs cs=>Es f x cs=some true->∃i,∃hi:i<vs.length,H7 f x cs=i/\decide (∃cy,VR l vs[i] cy/\f cy x=some true)=true/\∀j (hj:j<vs.length),j<i->decide (∃cy,VR l vs[j] cy/\f cy x=some true)=false) (λe=>nomatch e) (λ{v vs cy cs} h rr ih e => ?_) h
 rw[W9]at e
 split at e
 ·rename_i a b ea eb;simp only[Aba]at e
  by_cases ha:f cy x=some true
  ·refine⟨0,by simp,if_pos ha,decide_eq_true ⟨cy,h,ha⟩,λj z hj=>absurd hj (OB _)⟩
  ·have hb:b=true:=by
    rcases a with⟨⟩
    ·simpa using e
    ·exact absurd ea ha
   subst hb;rcases ih eb with⟨i,h1,hi,h2,h3⟩
   refine⟨i+1,by simp only[BN];exact Ae5 h1,by rw[Xr];rw[if_neg ha,hi],by simpa using h2,λj hj hlt => ?_⟩
   rcases j with _ | j
   ·refine decide_eq_false λzz => ?_;refine Ah zz ?_;clear zz;rintro cy' h' e';have:cy=cy':=VR.func R h h';exact ha (this▸e')
   ·exact h3 j (by simpa using hj) (RC hlt)
 ·exfalso;injection e
open Classical in
theorem Ahe(ok:AL c d){D:Af}{n:Nat}{v:Ad}{a:CV}(hd:VR l (.ref D) (.ref n))(hv:VR l v a):Aa c FX m l (call (.builtin "list.index") [.ref D,v]) (JU n a) VR:=by
 unfold JU;refine Aa.getList hd λcs ws k hs hz had hm hr => ?_;intro s Q E st q _ ns;dsimp only at q ns
 by_cases hf:Es (Cj l.σ 20) a cs=some true
 ·rw[if_pos hf]at q;have hu:=ok.units;have hcl:cLine=9900:=rfl;refine Au (Xb st.lr hr hf) ?_;rintro h1 _;rcases Ahd st.lr hr hf with⟨i,hi,h4,h2,h3⟩
  rw[h4]at q;have hsz:ws.toList.length=ws.size:=DC;have hz':=of_decide_eq_true hz;have e1:=hr.length;refine call_meets PySem.F.slot_list_index ⟨_,(st.nw _ hm).1,rfl⟩ PySem.F.entry_list_index (PySem.F.args_list_index_2 _ _)
   (SeqAt.list_indexAt D ws k none #[] v (λy=>decide (∃cy,VR l y cy/\Cj l.σ 20 cy a=some true)) i (Ae4 hi hsz) (Ae3 hi hz' e1) (by have:=h2;rwa [ApN]at this) λj hj hlt=>by have:=h3 j (by rw[hsz];exact hj) hlt;rwa [ApN]at this) ⟨(st.nw _ hm).1,λy hy => ?_,?_⟩
  ·refine Br (h1 y (by simpa using hy)) ?_;rintro cy b hb he hdd
   show JD _ _ y v (decide (∃cy,VR l y cy/\Cj l.σ 20 cy a=some true));rw[hdd];exact RZ st.lr st.nw 20 he hb hv (by rw[U9];exact WC hu hcl)
  ·exact q _ l _ s.heap _ rfl st (Ap.refl l) (.int _ _)
 ·rw[if_neg hf]at ns;exact absurd rfl ns
set_option tactic.hygienic true in
theorem Ahf{FX:FC->Bm}(ok:AL c (d+1))(g:Bs c.K Γ)(fn:HB FX Γ d c){C:Af}:Xg c (FX c) m l (.ref C) (newC Γ C):=by
 intro l1 vs cs x1 hv;unfold newC
 split
 ·rename_i f hf;have hi:=g.inits C f hf;simp only[RA,Bf,beq_iff_eq]at hi;rcases hsp:Γ.fn f with _ | spec
  ·have efn:∀a,Di Γ f a=Ar:=λa=>by unfold Di;rw[hsp]
   intro s Q E st q exc ns;simp only[efn]at ns;exact absurd rfl ns
  ·have efn:∀a,Di Γ f a=spec a:=λa=>by unfold Di;rw[hsp]
   intro s Q E st q exc ns;simp only[efn]at q exc ns;refine call_cls st.fr ok.kin st.nw hi.1.1 hi.1.2 hi.2 λX dx h' F' N' h1 h2 => ?_;have hok:=ok.newC (a:=.ref C) (vs:=vs);have key:=fn (c.under (.builtin "type.__call__" ⟨.ref C::vs,[]⟩)) ⟨rfl,rfl,rfl,rfl⟩ g hok f spec hsp
   let l2:Am:=⟨(X,instObj C dx)::(dx,dictOf [] 0)::l1.Φ,l1.σ++[.inst C []],λi b=>if i=l1.σ.length then(if b then dx else X)else l1.ad i b⟩
   have ha:l2.ad l1.σ.length false=X:=by show(if _ then _ else _)=_;rw[if_pos rfl];rfl
   have hb:l2.ad l1.σ.length true=dx:=by show(if _ then _ else _)=_;rw[if_pos rfl];rfl
   have G:K5 l1 l2 (.inst C []) [(X,instObj C dx),(dx,dictOf [] 0)]:=by
    refine⟨rfl,rfl,λi b hi => ?_,λb z => ?_,?_,λe => ?_⟩
    ·show(if i=l1.σ.length then _ else _)=_;rw[if_neg (Cb hi)]
    ·rcases b with⟨⟩
     ·rw[ha];simp
     ·rw[hb];simp
    ·show(X::dx::l1.Φ.map (·.1)).Nodup;have lt:∀a∈l1.Φ.map (·.1),a<dx:=λa ham=>by
      refine Ah (BH.mp ham) ?_;rintro p hp e;exact e▸h1 p hp
     refine Dv.mpr ⟨λhm => ?_,Dv.mpr ⟨λhm=>BX _ (lt _ hm),st.lr.nd⟩⟩;rcases AV.mp hm with e | hm
     ·rw[e]at h2;exact BX _ h2
     ·have:=lt _ hm;exact absurd (Mm h2 this) (BX _)
    ·rw[ha,hb]at e;rw[e]at h2;exact absurd h2 (BX _)
   have st2:St c m l2 h':=⟨F',N',G.lr st.lr ⟨[],0,by rw[ha,hb];exact .head _,by rw[hb];exact .tail _ (.head _),.nil⟩⟩
   have hX:VR l2 (.ref X) (.ref l1.σ.length):=.ref (by show _<(l1.σ++[_]).length;simp) ha
   refine key m l2 (.ref X::vs) (.ref l1.σ.length::cs) { s with heap:=h' } _ (.cons hX (hv.mono G.ext)) ⟨st2.fr,st2.nw,st2.lr⟩ (λb l3 v h3 tk e st3 x3 r => ?_) (λx l3 e h3 tk hx xx fx => ?_) λqq => ?_
   ·have e':spec (.ref l1.σ.length::cs) (l1.σ++[.inst C []])=.ok b l3.σ:=e;rw[e']at q ns;rcases b with _ | _ | _ | _ | _ | _
    case none =>
     have:=r.noneEq;subst this;exact⟨rfl,q (.ref l1.σ.length) l3 (.ref X) h3 tk rfl ⟨st3.fr,st3.nw,st3.lr⟩ (G.ext.trans x3) (hX.mono x3)⟩
    all_goals exact absurd rfl ns
   ·have e':spec (.ref l1.σ.length::cs) (l1.σ++[.inst C []])=.exc x l3.σ:=hx;rw[e']at ns;exact absurd rfl ns
   ·have e':spec (.ref l1.σ.length::cs) (l1.σ++[.inst C []])=.stuck:=qq;rw[e']at ns;exact absurd rfl ns
 ·exact Aa.stuck
end
end
section
noncomputable def Ew(a:Int):Bool:=decide (-(2 ^ 62)<=a/\a<2 ^ 62)
noncomputable def FP:List Int->Option (Int×Int×Nat)
 | [n]=>if Ew n=true/\n.toNat<=4000 then some (0,1,n.toNat)else none
 | [a,b]=>if Ew a=true/\Ew b=true/\(b-a).toNat<=4000 then some (a,1,(b-a).toNat)else none
 | [a,b,c]=>if c = -1/\Ew a=true/\Ew b=true/\(a-b).toNat<=4000 then some (a,-1,(a-b).toNat)else none
 | _=>none
noncomputable def MR(cs:List CV):Option (Int×Int×Nat):=ob (Ff cs) FP
noncomputable def H8(vs:List CV):CM (Int×Int×Nat):=match MR vs with
 | some r=>ret r
 | none=>Ar
noncomputable def Xv(a b c:Int)(t u v:Tok):AU:={ cls:=.type "range",dict:=none,data:=.fields #[.int a t,.int b u,.int c v],slots:=#[] }
def RR(l:Am)(v:Ad)(r:Int×Int×Nat):Prop:=∃D b t u w,v=.ref D/\AS l (D,Xv r.1 b r.2.1 t u w)/\AbB r.1 b r.2.1=true/\AbC r.1 b r.2.1=(r.2.2:Int)/\r.2.2<=4000
noncomputable def E2(ks:AF)(x:Ac):Bool:=Dg x && (ks.lookup x == some ApO)
noncomputable def C1(Γ:AP)(ks:AF)(x:Ac)(v:Ad):Bool:=E2 ks x && (Γ.top.lookup x).isNone && (Γ.bins.lookup x == some v)
section
variable {c:FC}{FX:Bm}{m:Ac->Option Ad}{l l':Am}{d:Nat}{env:Env}{loc:Ao}{Γ:AP}
set_option tactic.hygienic true in
theorem Ahg{a b:Int}(ha : -(2 ^ 62)<=a)(ha':a<2 ^ 62)(hb : -(2 ^ 62)<=b)(hb':b<2 ^ 62):AbB a b (-1)=true:=by
 unfold AbB;rw[rangeSize_down];simp only[Builtin.Range.rangeFitsLong,Bf,Vj,decide_eq_true_eq,beq_iff_eq,show ¬(-1:Int)>0 by decide,if_false]
 have l1:(-(2 ^ 63):Int)<=-(2 ^ 62):=by decide
 have l2:(2 ^ 62:Int)<=2 ^ 63:=by decide
 refine⟨⟨⟨⟨⟨KD l1 ha,UY ha' l2⟩,KD l1 hb,UY hb' l2⟩,by decide,by decide⟩,?_⟩,.inr ?_⟩
 ·split
  ·rename_i q;exact⟨KD (by decide) (Int.sub_nonneg_of_le (Int.le_of_lt q)),(Afd ha' hb)⟩
  ·exact⟨by decide,by decide⟩
 ·rw[show b+(-1+1)=b from Int.add_zero b];exact⟨KD l1 hb,UY hb' l2⟩
theorem St.addRange{D:Af}{h:Bb}{a b cc:Int}{t u v:Tok}(st:St c m l h)(F':Fr c.h₀ c.L h' m)(N':CL c.h₀ c.L h' l.Φ)(hr:IsRange h' D a b cc t u v)(hD:D=h.objs.size) :
  ∃l':Am,l'.σ=l.σ/\St c m l' h'/\Ap No l l'/\AS l' (D,Xv a b cc t u v):=by
 have fr:∀p∈l.Φ,p.1≠D:=λp hp=>hD▸Cb (BE (st.nw p hp).1);have hn:c.h₀.get? D=none:=by
  rcases q:c.h₀.get? D with _ | o
  ·rfl
  ·exact absurd (BE (st.fr.keep D o q)) (by rw[hD];exact BX _)
 have hL:D≠c.L:=λe=>by
  refine Ep st.fr.ns ?_;rintro oL _ _ ho _;exact absurd (BE ho) (by rw[<- e,hD];exact BX _)
 exact st.addJ F' (λp hp=>by
  rcases AV.mp hp with rfl | hp
  ·exact⟨hr,hL,hn⟩
  ·exact N' p hp) fr
theorem Ahh{a:Int}{r:Int×Int×Nat}(hv:AA l vs [.int a])(h0:FP [a]=some r):Aa c FX m l (call (.type "range") vs) (ret r) RR:=by
 refine Br hv.cons_inv ?_;rintro _ _ e1 v1 v2;rw[e1,v2.nil_inv];clear hv e1 v2
 by_cases h:Ew a=true/\a.toNat<=4000
 ·rw[<- Ay ((if_pos h).symm.trans h0)];clear h0;have h1:=of_decide_eq_true h.1;refine AK v1.int_inv ?_;rintro _ e;rw[e];intro s Q E st q _ _;refine range1_rows st.fr st.nw λh' tk t u w hr F' N' hk => ?_;refine BS (st.addRange F' N' hr rfl) ?_;rintro l' e st' x ho;exact q _ l' _ h' tk (by rw[e];rfl) st' x ⟨_,_,_,_,_,rfl,ho,small_one (a:=0) (by decide +kernel) (by decide +kernel) h1.1 h1.2,by rw[ApP];simp,h.2⟩
 ·exact(Ax ((if_neg h).symm.trans h0)).elim
theorem Ahi{a b:Int}{r:Int×Int×Nat}(hv:AA l vs [.int a,.int b])(h0:FP [a,b]=some r):Aa c FX m l (call (.type "range") vs) (ret r) RR:=by
 refine Br hv.cons_inv ?_;rintro _ _ e1 v1 w1;refine Br w1.cons_inv ?_;rintro _ _ e2 v2 w2;rw[e1,e2,w2.nil_inv];clear hv e1 e2 w1 w2
 by_cases h:Ew a=true/\Ew b=true/\(b-a).toNat<=4000
 ·rw[<- Ay ((if_pos h).symm.trans h0)];clear h0;have h1:=of_decide_eq_true h.1;have h3:=of_decide_eq_true h.2.1;refine AK v1.int_inv ?_;rintro _ e1;refine AK v2.int_inv ?_;rintro _ e2;rw[e1,e2];clear v1 v2 e1 e2;intro s Q E st q _ _;refine range2_rows st.fr st.nw λh' tk t u w hr F' N' hk => ?_;refine BS (st.addRange F' N' hr rfl) ?_;rintro l' e st' x ho;exact q _ l' _ h' tk (by rw[e];rfl) st' x ⟨_,_,_,_,_,rfl,ho,small_one h1.1 h1.2 h3.1 h3.2,ApP _ _,h.2.2⟩
 ·exact(Ax ((if_neg h).symm.trans h0)).elim
theorem Ahj{a b k:Int}{r:Int×Int×Nat}(hv:AA l vs [.int a,.int b,.int k])(h0:FP [a,b,k]=some r):Aa c FX m l (call (.type "range") vs) (ret r) RR:=by
 refine Br hv.cons_inv ?_;rintro _ _ e1 v1 w1;refine Br w1.cons_inv ?_;rintro _ _ e2 v2 w2;refine Br w2.cons_inv ?_;rintro _ _ e3 v3 w3;rw[e1,e2,e3,w3.nil_inv];clear hv e1 e2 e3 w1 w2 w3
 by_cases h:k = -1/\Ew a=true/\Ew b=true/\(a-b).toNat<=4000
 ·rw[<- Ay ((if_pos h).symm.trans h0)];clear h0;have h1:=of_decide_eq_true h.2.1;have h3:=of_decide_eq_true h.2.2.1;refine AK v1.int_inv ?_;rintro _ e1;refine AK v2.int_inv ?_;rintro _ e2;refine AK v3.int_inv ?_;rintro _ e3;rw[e1,e2,e3,h.1];clear v1 v2 v3 e1 e2 e3;intro s Q E st q _ _;refine range3_rows st.fr st.nw (by decide) (λh' tk t u w hr F' N' hk => ?_) (.inl (ApA (by decide)))
  refine BS (st.addRange F' N' hr rfl) ?_;rintro l' e st' x ho;exact q _ l' _ h' tk (by rw[e];rfl) st' x ⟨_,_,_,_,_,rfl,ho,Ahg h1.1 h1.2 h3.1 h3.2,rangeSize_downNat _ _,h.2.2.2⟩
 ·exact(Ax ((if_neg h).symm.trans h0)).elim
theorem Ahk(hv:AA l vs cs):Aa c FX m l (call (.type "range") vs) (H8 cs) RR:=by
 unfold H8;rcases hr:MR cs with _ | r
 ·exact Aa.stuck
 refine AQ hr λis e h0 => ?_;rw[AgE e]at hv;clear hr e;rcases is with _ | ⟨a,_ | ⟨b,_ | ⟨k,_ | ⟨_,_⟩⟩⟩⟩
 ·exact(Ax h0).elim
 ·exact Ahh hv h0
 ·exact Ahi hv h0
 ·exact Ahj hv h0
 ·exact(Ax h0).elim
theorem Ahl:∀{ys:List Ad} {is:List Int},CarriedAll ys (is.map PyData.int)->AA l ys (is.map .int):=by
 intro ys is
 induction is generalizing ys with
 | nil=>intro h;rcases h with⟨⟩;exact .nil
 | cons i is ih =>
  intro h;rcases h with _ | ⟨a,r⟩
  ·rcases a with⟨⟩
   exact .cons (.int _ _) (ih r)
theorem Ahm(ok:AL c d){v:Ad}{r:Int×Int×Nat}(hv:RR l v r):Aa c FX m l (call (.type "list") [v]) (B2 ((DV r.1 r.2.1 r.2.2).map .int)) VR:=by
 refine Rw hv ?_;clear hv;rintro D b t u w rfl ho h1 h2 h3;refine Aa.newL λhz s Q E st q => ?_;refine list_rangeD ok.handled st.fr st.nw (st.nw _ ho.1).1 h1 h2 (Afc h3) λh' tk ys F' N' hk hn hl np ca => ?_;refine Au np ?_;clear np;rintro⟨k,hp⟩ hd;refine q _ h' k tk ys F' (λp hp' => ?_) (λp hp=>BE (st.nw p hp).1) (Ahl ca);rcases AV.mp hp' with rfl | hp'
 ·refine⟨hp,λe => ?_,hn⟩;refine Ep st.fr.ns ?_;rintro oL _ _ ho _;exact absurd (BE ho) (by rw[<- e];exact BX _)
 ·exact N' p hp'
theorem JV(ok:AL c d)(g:Bs c.K Γ)(eo:Ck c env){x:Ac}{p pos:Pos}{es:List Expr}{bv:Ad}{fa:CM δ}{W:Am->List Ad->δ->Prop}{ε:Type}{k:δ->CM ε}{V:Am->Ad->ε->Prop}
  (hb:C1 Γ env.scope.names x bv=true) (hbv:∃s,bv=.builtin s\/bv=.type s) (hn:noStar es=true) (ha:Aa c FX m l (spliced (backTo pos (starEach es env))) fa W)
  (hc:∀vs a l',Ap No l l'->W l' vs a->Aa c FX m l' (call bv vs) (k a) V):Aa c FX m l (eval (.Call (.Name x p) es [] pos) env) (bnd fa k) V:=by
 simp only[C1,E2,Dg,Bf,Fc,beq_iff_eq]at hb;refine Au hb ?_;clear hb;rintro⟨⟨⟨hd1,hd2⟩,hk⟩,_⟩ hl;refine C6 (g.bins x bv hl) ?_;rintro b1 b2 b3;have T:Mi c.p c.loose c.mg c.mb c.h₀:=II ok.top;have key:Aa c FX m l (callWith pos bv [] (backTo pos (starEach es env)) []) (bnd fa k) V:=by
  refine MH (P:=λz=>True) hn (λz z z z=>trivial) (λh z=>⟨.machine,.inr (.inl rfl),?_⟩) ha λvs a l' x hw=>hc vs a l' x hw
  (refine AK hbv ?_;clear hbv;rintro s (rfl | rfl))<;>exact Vk rfl
 intro s Q E st q exc ns;refine Call_ (Mk eo.kind hk ?_ hd1);exact ApQ (by rw[eo.globals];exact T.g.keeps st.fr.keep) (mg_none_of ok.kin T.g b1) (by rw[eo.builtins];exact T.b.keeps st.fr.keep) ((T.builtins x b3).trans b2) (key s Q E st q exc ns)
theorem Xw(ok:AL c d)(g:Bs c.K Γ)(eo:Ck c env){x:Ac}{p pos:Pos}{es:List Expr}{a:Af}{fa:CM δ}{W:Am->List Ad->δ->Prop}{ε:Type}{k:δ->CM ε}{V:Am->Ad->ε->Prop}
  (hb:E2 env.scope.names x=true) (ht:Γ.top.lookup x=some (.ref a)) (hn:noStar es=true) (ha:Aa c FX m l (spliced (backTo pos (starEach es env))) fa W)
  (hc:∀vs a' l',Ap No l l'->W l' vs a'->Aa c FX m l' (call (.ref a) vs) (k a') V):Aa c FX m l (eval (.Call (.Name x p) es [] pos) env) (bnd fa k) V:=by
 simp only[E2,Dg,Bf,Fc,beq_iff_eq]at hb;refine Au hb ?_;clear hb;rintro⟨hd1,hd2⟩ hk;refine AG (g.top x _ ht) ?_;rintro w hw rfl hkp;have T:Mi c.p c.loose c.mg c.mb c.h₀:=II ok.top;have key:Aa c FX m l (callWith pos (.ref a) [] (backTo pos (starEach es env)) []) (bnd fa k) V :=
  MH (P:=λh=>c.K.In h) hn (λz h st z=>ok.kin.keeps st.fr.keep) (λh X=>Vl hkp h X) ha λvs a' l' x hw=>hc vs a' l' x hw
 intro s Q E st q exc ns;refine Call_ (Mk eo.kind hk ?_ hd1);exact QX (by rw[eo.globals];exact T.g.keeps st.fr.keep) (mg_of ok.kin T.g hw) (key s Q E st q exc ns)
theorem IY{f:CV->CM CV}(hv:AA l vs cs)(k:∀v a,vs=[v]->VR l v a->Aa c FX m l t (f a) VR):Aa c FX m l t (DK f cs) VR:=by
 rcases cs with _ | ⟨a,_ | ⟨_,_⟩⟩
 ·exact Aa.stuck
 ·refine Br hv.cons_inv ?_;rintro v ws rfl h1 h2;obtain rfl:=h2.nil_inv;exact k v a rfl h1
 ·exact Aa.stuck
set_option tactic.hygienic true in
theorem Ahn(ok:AL c d){v:Ad}{vs:List Ad}{cs:List CV}(hv:AA l vs cs):Aa c FX m l (call v vs) (Pn v cs) VR:=by
 unfold Pn
 split
 ·rename_i e;subst e;exact IY hv λv a e h1=>by subst e;exact AgB h1
 split
 ·rename_i e;subst e;exact IY hv λv a e h1=>by subst e;exact AgC ok h1
 split
 ·rename_i e;subst e;exact IY hv λv a e h1=>by subst e;exact AgD h1
 split
 ·rename_i e;subst e;exact IY hv λv a e h1=>by subst e;exact AgJ ok h1
 split
 ·rename_i e;subst e;rcases cs with _ | ⟨a,_ | ⟨b,_ | ⟨_,_⟩⟩⟩
  ·exact Aa.stuck
  ·exact Aa.stuck
  ·refine Br hv.cons_inv ?_;rintro v ws rfl h1 r1;refine Br r1.cons_inv ?_;rintro w ws rfl h2 r2;obtain rfl:=r2.nil_inv;exact AgK ok h1 h2
  ·exact Aa.stuck
 split
 ·rename_i e;subst e;exact IY hv λv a e h1=>by subst e;exact AgL h1
 ·exact Aa.stuck
set_option tactic.hygienic true in
theorem Sd{FX:FC->Bm}(ok:AL c d)(g:Bs c.K Γ)(fn:HB FX Γ d c){f:Af}{vs:List Ad}{cs:List CV}(hv:AA l vs cs):Aa c (FX c) m l (call (.ref f) vs) (Di Γ f cs) VR:=by
 unfold Di
 split
 ·rename_i spec hs;exact(fn c ⟨rfl,rfl,rfl,rfl⟩ g ok f spec hs).call (m:=m) (l:=l) l vs cs (Ap.refl l) hv
 ·exact Aa.stuck
noncomputable def MS(f:Expr->CM CV)(Γ:AP)(ks:AF)(x:Ac)(es:List Expr):CM CV :=
 if E2 ks x=true/\noStar es=true then match Γ.top.lookup x with
  | some (.ref a)=>bnd (BC f es) λvs=>match Γ.inits.lookup a with
   | some _=>newC Γ a vs
   | none=>Di Γ a vs
  | some _=>Ar
  | none=>match Γ.bins.lookup x with
   | some v=>bnd (BC f es) λvs=>Pn v vs
   | none=>Ar
 else Ar
set_option tactic.hygienic true in
theorem Aho{FX:FC->Bm}(ok:AL c (d+1))(g:Bs c.K Γ)(fn:HB FX Γ d c)(eo:Ck c env){f:Expr->CM CV}(h:Bz c (FX c) m env l f){x:Ac}{p pos:Pos}{es:List Expr}(hb:∀x v,Γ.bins.lookup x=some v->∃s,v=.builtin s\/v=.type s) :
  Aa c (FX c) m l (eval (.Call (.Name x p) es [] pos) env) (MS f Γ env.scope.names x es) VR:=by
 unfold MS;refine Aa.guard λzz => ?_;refine Au zz ?_;clear zz;rintro h1 h2
 split
 ·rename_i a ht;refine Xw ok g eo h1 ht h2 (Hx es h) λvs cs l' x' hw => ?_
  split
  ·exact Ahf ok g fn l' vs cs (Ap.refl _) hw
  ·exact Sd (ok.weaken (HU d)) g fn hw
 ·exact Aa.stuck
 ·rename_i ht
  split
  ·rename_i v hl;refine JV ok g eo (Γ:=Γ) (bv:=v) ?_ (hb x v hl) h2 (Hx es h) λvs cs l' x' hw=>Ahn ok hw;unfold C1;rw[h1,ht,hl];simp
  ·exact Aa.stuck
theorem Ahp:∀{es:List Expr},noStar es=true->(backTo pos (starEach es env)).all (!·.1)=true:=by
 intro z1
 induction z1 with
 | nil =>
  intro z2;exact rfl
 | cons e r ih =>
  intro h;simp only[noStar,Bf,Fc]at h;rw[JS h.1];show(!false && (backTo pos (starEach r env)).all (!·.1))=true;rw[ih h.2];rfl
theorem Po{o:Expr}(h:Fg es apos pos=true)(hb:IX o=true):eval (.Call (.Attribute o x apos) es [] pos) env =
  (eval o env >>= λov=>standAt apos.atName >>= λz=>holding [ov] (Rc ov x (do return (<- importBound o env).getD true)) >>= λp=>callWith pos p.1 p.2 (backTo pos (starEach es env)) []):=by
 simp only[Fg,Bf,decide_eq_true_eq]at h;have hf:ApR (es.length+([]:List U3).length) (backTo pos (starEach es env)) (backToKw pos (keywordEach [] env))=true:=by
  unfold ApR;rw[Ahp h.1.1];show(true && true && decide (es.length+0+0<30))=true;exact decide_eq_true (by omega)
 rw[arm_eval_Call,Sa hb];unfold methodCall;rw[hf];have hp:ApS true o env apos pos=pure pos:=by
  unfold ApS;rw[h.2];rfl
 rw[hp];rfl
noncomputable def Lh(x:Ac):Bool:=x == "append" || x == "extend" || x == "pop" || x == "reverse" || x == "index"
noncomputable def Fh(f:Expr->CM CV)(Γ:AP)(n:Nat)(x:Ac)(es:List Expr):CM CV:=λσ=>match σ[n]? with
 | some (.inst C as)=>(match (Γ.meths.lookup C).bind (·.lookup x),as.lookup x with
  | some g,none=>bnd (BC f es) (λvs=>Di Γ g (.ref n::vs)) σ
  | _,_=>.stuck)
 | some (.list _)=>if Lh x=true then bnd (BC f es) (λvs=>FO n x vs) σ else .stuck
 | _=>.stuck
theorem Aa.getMeth{o:Ad}{pl:Sem Bool}{k:Ad×List Ad->Sem α}{f:CM β}{V:Am->α->β->Prop}{g:Ad}{first:List Ad}
  (hm:∀(s:Aq) (Q:Ad×List Ad->Aq->Prop) (E:Ad->Aq->Prop),St c m l s.heap->Q (g,first) s->wpAny c.M c.A (Rc o x pl) Q E s)
  (h:Aa c FX m l (k (g,first)) f V):Aa c FX m l (holding [o] (Rc o x pl) >>= k) f V :=
 λs Q E st ok exc ns=>Aj (Dp (hm s _ E st (h s Q E st ok exc ns)))
theorem Ahq:FO n "append" = DK (Hz n):=by kernel_rfl
theorem Ahr:FO n "extend" = DK (Ld n):=by kernel_rfl
theorem Ahs:FO n "pop" = Lg (MK n):=by kernel_rfl
theorem Aht:FO n "reverse" = Lg (ML n):=by kernel_rfl
theorem Ahu:FO n "index" = DK (JU n):=by kernel_rfl
theorem Xx{f:CM CV}(hv:AA l vs cs)(k:vs=[]->Aa c FX m l t f VR):Aa c FX m l t (Lg f cs) VR:=by
 rcases cs with _ | ⟨a,cs⟩
 ·exact k hv.nil_inv
 ·exact Aa.stuck
theorem Ahv{pl:Sem Bool}{D:Af}{vs0:List CV}(ok:AL c d)(h:Bz c FX m env l f)(hn:noStar es=true)(hv:VR l (.ref D) (.ref n))(hs:l.σ[n]? = some (.list vs0))(hx:Lh x=true) :
  Aa c FX m l (holding [.ref D] (Rc (.ref D) x pl) >>= λp=>callWith pos p.1 p.2 (backTo pos (starEach es env)) []) (bnd (BC f es) λvs=>FO n x vs) VR:=by
 have keep:∀(y:Ac) (id:String) (spec:List CV->CM CV),x=y->FO n y=spec->(Slot "list" y id)->(typeOf (.builtin id)=pure (.type "method_descriptor"))->(∀l' vs cs,Ap No l l'->AA l' vs cs->Aa c FX m l' (call (.builtin id) (.ref D::vs)) (spec cs) VR) ->
   Aa c FX m l (holding [.ref D] (Rc (.ref D) x pl) >>= λp=>callWith pos p.1 p.2 (backTo pos (starEach es env)) []) (bnd (BC f es) (FO n x)) VR:=λy id spec e1 e2 sl ty hc=>by
  rw[e1,e2];refine Aa.getMeth (g:=.builtin id) (first:=[.ref D]) (λs Q E st q => ?_) ?_
  ·refine Bg (st.list hv hs) ?_;rintro ws k hm _;exact listMethod_K st.nw hm sl ty q
  ·exact MH (P:=λz=>True) hn (λz z z z=>trivial) (λh z=>⟨.machine,.inr (.inl rfl),Vk rfl⟩) (Hx es h) λvs cs l' x hw=>hc l' vs cs x hw
 clear h hn hs
 by_cases h1:x = "append"
 ·exact keep _ _ _ h1 Ahq PySem.F.slot_list_append PySem.F.type_list_append λl' vs cs x' hw=>IY hw λv a e ha=>e▸Xj (hv.mono x') ha
 by_cases h2:x = "extend"
 ·exact keep _ _ _ h2 Ahr PySem.F.slot_list_extend PySem.F.type_list_extend λl' vs cs x' hw=>IY hw λv a e ha=>e▸AgM (hv.mono x') ha
 by_cases h3:x = "pop"
 ·exact keep _ _ _ h3 Ahs PySem.F.slot_list_pop PySem.F.type_list_pop λl' vs cs x' hw=>Xx hw λe=>e▸AgN (hv.mono x')
 by_cases h4:x = "reverse"
 ·exact keep _ _ _ h4 Aht PySem.F.slot_list_reverse PySem.F.type_list_reverse λl' vs cs x' hw=>Xx hw λe=>e▸AgO (hv.mono x')
 by_cases h5:x = "index"
 ·exact keep _ _ _ h5 Ahu PySem.F.slot_list_index PySem.F.type_list_index λl' vs cs x' hw=>IY hw λv a e ha=>e▸Ahe ok (hv.mono x') ha
 ·simp[Lh,h1,h2,h3,h4,h5]at hx
noncomputable def Li(f:Expr->CM CV)(Γ:AP)(o:Expr)(x:Ac)(apos:Pos)(es:List Expr)(pos:Pos):CM CV :=
 if Fg es apos pos=true/\IX o=true then bnd (f o) λov=>match ov with
  | .ref n=>Fh f Γ n x es
  | _=>Ar
 else Ar
theorem Aa.atHeap{t:Sem α}{f g:CM β}{V:Am->α->β->Prop}(e:f l.σ=g l.σ)(h:Aa c FX m l t g V):Aa c FX m l t f V:=by
 intro s Q E st ok exc ns;rw[e]at ok exc ns;exact h s Q E st ok exc ns
set_option tactic.hygienic true in
theorem Xy{FX:FC->Bm}(ok:AL c (d+1))(g:Bs c.K Γ)(fn:HB FX Γ d c)(eo:Ck c env){f:Expr->CM CV}(h:Bz c (FX c) m env l f){o:Expr}{x:Ac}{apos pos:Pos}{es:List Expr} :
  Aa c (FX c) m l (eval (.Call (.Attribute o x apos) es [] pos) env) (Li f Γ o x apos es pos) VR:=by
 unfold Li;refine Aa.guard λzz => ?_;refine Au zz ?_;clear zz;rintro h1 h2;have h3:=h1;simp only[Fg,Bf,decide_eq_true_eq]at h3;rw[Po h1 h2];refine Aa.bind (h.here o) λov a l1 hq x1 hov=>Aa.stand _ ?_;clear hq
 split
 ·rename_i n;refine AG hov.ref_inv ?_;rintro _ rfl hl had;rename_i D;have hv:VR l1 (.ref D) (.ref n):=.ref hl had;rcases e:l1.σ[n]? with _ | co
  ·exact Aa.atHeap (g:=Ar) (by unfold Fh;rw[e];rfl) Aa.stuck
  ·rcases co with vs0 | _ | ⟨C,as⟩
   ·by_cases hx:Lh x=true
    ·exact Aa.atHeap (g:=bnd (BC f es) λvs=>FO n x vs) (by unfold Fh;rw[e];simp only[if_pos hx]) (Ahv ok (h.mono x1) h3.1.1 hv e hx)
    ·exact Aa.atHeap (g:=Ar) (by unfold Fh;rw[e];simp only[if_neg hx];rfl) Aa.stuck
   ·exact Aa.atHeap (g:=Ar) (by unfold Fh;rw[e];rfl) Aa.stuck
   ·rcases e1:(Γ.meths.lookup C).bind (·.lookup x)with _ | fa
    ·exact Aa.atHeap (g:=Ar) (by unfold Fh;rw[e];simp only[e1];rfl) Aa.stuck
    ·rcases e2:as.lookup x with _ | _
     ·refine Aa.atHeap (g:=bnd (BC f es) (λvs=>Di Γ fa (.ref n::vs))) (by unfold Fh;rw[e];simp only[e1,e2]) ?_
      refine Ah (QY.mp e1) ?_;rintro ms hm1 hm2;have hm:=g.meths C ms x fa hm1 hm2;simp only[Rz,Bf,beq_iff_eq]at hm;refine Au hm ?_;clear hm;rintro hm hk;refine Aa.getMeth (g:=.ref fa) (first:=[.ref D]) (λs Q E st q => ?_) ?_
      ·refine Cq (st.inst hv e) ?_;rintro es' k m1 m2 r _;refine method_inst st.fr ok.kin (Abs st.nw m1 m2) hm.1.1 hm.1.2 hm.2 ?_ q;rcases r.get x with⟨_,_,q1,_⟩ | ⟨_,q2⟩
       ·rw[e2]at q1;(exfalso;injection q1)
       ·exact q2
      ·exact MH (P:=λh=>c.K.In h) h3.1.1 (λz h st z=>ok.kin.keeps st.fr.keep) (λh X=>Vl hk h X) (Hx es (h.mono x1)) λvs cs l' x' hw=>Sd (ok.weaken (HU d)) g fn (.cons (hv.mono x') hw)
     ·exact Aa.atHeap (g:=Ar) (by unfold Fh;rw[e];simp only[e1,e2];rfl) Aa.stuck
 ·exact Aa.stuck
noncomputable def H9(Γ:AP)(ks:AF)(cn x:Ac):Option Af:=if E2 ks cn=true then match Γ.top.lookup cn with
 | some (.ref C)=>(Γ.clsfn.lookup C).bind (·.lookup x)
 | _=>none
 else none
noncomputable def Pp(f:Expr->CM CV)(Γ:AP)(g:Af)(apos:Pos)(es:List Expr)(pos:Pos):CM CV:=if Fg es apos pos=true then bnd (BC f es) λvs=>Di Γ g vs else Ar
set_option tactic.hygienic true in
theorem Ahw{FX:FC->Bm}(ok:AL c (d+1))(g:Bs c.K Γ)(fn:HB FX Γ d c)(eo:Ck c env){f:Expr->CM CV}(h:Bz c (FX c) m env l f){cn x:Ac}{p apos pos:Pos}{es:List Expr}{fa:Af}(hc:H9 Γ env.scope.names cn x=some fa) :
  Aa c (FX c) m l (eval (.Call (.Attribute (.Name cn p) x apos) es [] pos) env) (Pp f Γ fa apos es pos) VR:=by
 unfold Pp;refine Aa.guard λh1 => ?_;have h3:=h1;simp only[Fg,Bf,decide_eq_true_eq]at h3;rw[Po h1 rfl];unfold H9 at hc
 split at hc
 ·rename_i hb
  split at hc
  ·rename_i C ht;refine Ah (QY.mp hc) ?_;rintro ms hm1 hm2;have hm:=g.clsfn C ms x fa hm1 hm2;simp only[IM,Bf,beq_iff_eq]at hm;refine Au hm ?_;clear hm;rintro⟨q1,q2⟩ q3;simp only[E2,Dg,Bf,Fc,beq_iff_eq]at hb;refine Au hb ?_;clear hb;rintro⟨hd1,hd2⟩ hk;refine AG (g.top cn _ ht) ?_;rintro w hw rfl hkp;have T:Mi c.p c.loose c.mg c.mb c.h₀:=II ok.top;have key:Aa c (FX c) m l (callWith pos (.ref fa) [] (backTo pos (starEach es env)) []) (bnd (BC f es) λvs=>Di Γ fa vs) VR :=
    MH (P:=λh=>c.K.In h) h3.1.1 (λz h st z=>ok.kin.keeps st.fr.keep) (λh X=>Vl q2 h X) (Hx es h) λvs cs l' x' hw=>Sd (ok.weaken (HU d)) g fn hw
   intro s Q E st q exc ns;refine Aj (Mk eo.kind hk ?_ hd1);refine QX (by rw[eo.globals];exact T.g.keeps st.fr.keep) (mg_of ok.kin T.g hw) ?_
   refine Aj (F8 (Aj (Dp ?_)))
   split at q3
   ·rename_i mc hmc;simp only[Bf]at q3;refine Au q3 ?_;clear q3;rintro q3 q4
    split at q4
    ·rename_i v hv;have hv':v=.ref fa:=beq_iff_eq.mp q4;subst hv';exact ApT st.fr ok.kin q1 (cls_val st.fr ok.kin hmc q3 hv rfl (key { s with toks:=s.toks+1 } Q E ⟨st.fr,st.nw,st.lr⟩ (λb l' a h' tk=>q b l' a h' tk) (λx l' e h' tk=>exc x l' e h' tk) ns))
    ·exfalso;injection q4
   ·exfalso;injection q3
  ·exfalso;injection hc
 ·exfalso;injection hc
noncomputable def Xz(f:Expr->CM CV)(rs:List Expr):CM CV:=bnd (bnd (BC f rs) H8) λr=>B2 ((DV r.1 r.2.1 r.2.2).map .int)
theorem XB(ok:AL c d)(g:Bs c.K Γ)(eo:Ck c env){f:Expr->CM CV}(h:Bz c FX m env l f){p pos:Pos}{rs:List Expr}(hb:C1 Γ env.scope.names "range" (.type "range")=true)(hn:noStar rs=true) :
  Aa c FX m l (eval (.Call (.Name "range" p) rs [] pos) env) (bnd (BC f rs) H8) RR :=
 JV ok g eo hb ⟨_,.inr rfl⟩ hn (Hx rs h) λvs cs l' x hw=>Ahk hw
theorem MT{fa:CM δ}{V:Am->Ad->δ->Prop}(he:Dh e=false)(h:Aa c FX m l (eval e env) fa V):Aa c FX m l (spliced (backTo pos (starEach [e] env))) fa (λl' vs r=>∃v,vs=[v]/\V l' v r):=by
 rw[JS he];show Aa c FX m l (spliced ((false,eval e env)::backTo pos (starEach [] env))) _ _;rw[R6];refine Aa.of_eq (f':=bnd fa ret) (Aa.bind h λv r l1 z x hv => ?_) (R8 _).symm;exact Aa.holdBind (Aa.pure (V:=λl' vs r=>∃v,vs=[v]/\V l' v r) ⟨v,rfl,hv⟩)
theorem Ahx(ok:AL c d)(g:Bs c.K Γ)(eo:Ck c env){f:Expr->CM CV}(h:Bz c FX m env l f){p p2 pos pos2:Pos}{rs:List Expr}(hb:C1 Γ env.scope.names "range" (.type "range")=true)(hl:C1 Γ env.scope.names "list" (.type "list")=true)(hn:noStar rs=true) :
  Aa c FX m l (eval (.Call (.Name "list" p) [.Call (.Name "range" p2) rs [] pos2] [] pos) env) (Xz f rs) VR :=
 JV ok g eo hl ⟨_,.inr rfl⟩ rfl (MT rfl (XB ok g eo h hb hn)) λvs r l' x ⟨v,e,hr⟩=>by subst e;exact Ahm ok hr
end
end
section
set_option maxHeartbeats 1000000
noncomputable def C2(v:Nat):List Nat->List Nat
 | []=>[v]
 | x::r=>if v<=x then v::x::r else x::C2 v r
theorem Pq:∀(v x_1:Nat) (r:List Nat),C2 v (x_1::r)=if v<=x_1 then v::x_1::r else x_1::C2 v r:=by intros;rfl
noncomputable def Gl(v:Nat)(vs:List Nat):List Nat:=if vs.contains v then vs else C2 v vs
noncomputable def IZ:List Nat->List (List Nat)
 | []=>[[]]
 | x::r=>(IZ r).map (x::·)++IZ r
theorem Ahy:∀(x_1:Nat) (r:List Nat),IZ (x_1::r)=Hl (λ(x:List Nat)=>x_1::x) (IZ r)++IZ r:=by intros;rfl
noncomputable def DL:List (List Nat):=IZ [0,1,2,3,4,5,6]
noncomputable def C7(n:Nat):Nat:=if n<5 then 7 else 31
noncomputable def C8(vs:List Nat)(mask:Nat)(led:Bool)(moves:Nat):SetTable:=⟨mask,vs.toArray,#[],0,led,moves,true⟩
noncomputable def Ex(vs:List Nat)(v:Nat):Nat:=OC vs.toArray v
theorem Ahz:DL.all (λvs=>(As 7).all λv=>DL.contains (Gl v vs))=true:=by decide +kernel
theorem AhA(led:Bool)(moves:Nat):DL.all (λvs=>(As 7).all λv=>vs.contains v || ((C8 vs (C7 vs.length) led moves).freeSlot (v:Int) == some (v,false)))=true:=by kernel_rfl
theorem AhB:DL.all (λvs=>(As 7).all λv=>vs.contains v || (Ex vs v<=vs.length && C2 v vs == vs.take (Ex vs v)++v::vs.drop (Ex vs v)))=true:=by decide +kernel
set_option tactic.hygienic true in
theorem AhC:DL.all (λvs=>(As 7).all λi=>(match vs[i]? with | some p=>OC vs.toArray (p+1) == i+1 | none=>true))=true:=by decide +kernel
theorem sub_zero:DL.all (λvs=>OC vs.toArray 0 == 0)=true:=by decide +kernel
theorem AhD:DL.all (λvs=>vs.length<=7)=true:=by decide +kernel
theorem AhE(led:Bool)(moves:Nat):(DL.filter λvs=>vs.length == 5).all (λvs=>match (C8 vs 7 led moves).relaid (vs.map λv=>((v:Nat):Int)).toArray (ApU 5)with
  | some (t,order)=>t.place == vs.toArray && t.dummies == #[] && t.mask == 31 && t.finger == 0 && t.plain && order == AbD 5
  | none=>false)=true:=by kernel_rfl
end
section
set_option maxHeartbeats 1000000
def Ey(vs:List Nat)(es:List (Int×Ad)):Prop:=es.map (·.1)=vs.map (λv=>((v:Nat):Int))/\∀e∈es,∃t,e.2=.int e.1 t
noncomputable abbrev Pr(es:Array (Int×Ad))(ep:Nat)(vs:List Nat)(led:Bool)(moves:Nat):AU:={ cls:=.type "set",dict:=none,data:=.set es ep (C8 vs (C7 vs.length) led moves),slots:=#[] }
def Ja(h:Bb)(a:Af)(led:Bool)(vs:List Nat)(es:Array (Int×Ad))(ep:Nat):Prop:=∃moves,vs∈DL/\Ey vs es.toList/\h.get? a=some (Pr es ep vs led moves)
def Lj(h:Bb)(a:Af)(led:Bool)(vs:List Nat):Prop:=∃es ep,Ja h a led vs es ep
theorem JW{vs:List Nat}(h:vs∈DL):vs.length<=7:=of_decide_eq_true (B7.mp AhD vs h)
theorem Ey.len{vs:List Nat}{es:List (Int×Ad)}(r:Ey vs es):es.length=vs.length:=by
 have:=congrArg IH r.1
 simpa using this
theorem MU{vs:List Nat}(h:vs∈DL)(led:Bool)(moves:Nat){n:Nat}(hn:n=vs.length):(C8 vs (C7 vs.length) led moves).fits n=true:=by
 have:=JW h;subst hn;unfold ApV Vm C8 C7;simp only[KH,DU,AbE,beq_self_eq_true,AbF,decide_eq_true_eq]
 by_cases q:vs.length<5
 ·rw[if_pos q];exact this
 ·rw[if_neg q];exact AE this (by decide)
section
variable {prog:CJ}{w:BK}{A:CK}{E:Ad->Aq->Prop}{s:Aq}{a:Af}{led:Bool}{vs:List Nat}{es:Array (Int×Ad)}{ep moves v:Nat}
theorem XC(hv:v<7):(intKind prog w).hash ((v:Nat):Int)=(v:Int):=by
 rcases v with _ | _ | _ | _ | _ | _ | _ | v
 ·kernel_rfl
 ·kernel_rfl
 ·kernel_rfl
 ·kernel_rfl
 ·kernel_rfl
 ·kernel_rfl
 ·kernel_rfl
 ·exact absurd hv (DJ.mpr (ApW 7 v))
theorem AhF:∀{l:List Nat} {x:List Nat},x∈IZ l->∀v∈x,v∈l:=by
 intro z1
 induction z1 with
 | nil =>
  intro x h v hv;have:x=[]:=by simpa [IZ] using h
  subst this;(rcases hv with⟨⟩)
 | cons y r ih =>
  intro x h v hv;rw[Ahy]at h;rcases BM.mp h with h | h
  ·refine Ah (BH.mp h) ?_;rintro z hz rfl;rcases AV.mp hv with rfl | hv
   ·exact .head _
   ·exact .tail _ (ih hz v hv)
  ·exact .tail _ (ih h v hv)
theorem AhG(h:vs∈DL)(hv:v∈vs):v<7:=by
 have:=AhF h v hv;simp only[AV,Mn,or_false]at this;exact AfF this
theorem Ey.elems(r:Ey vs es.toList)(h:vs∈DL):ElemsOf (intKind prog w) es.toList:=λe he=>by
 refine AK (r.2 e he) ?_;rintro t ht;have hm:e.1∈es.toList.map (·.1):=Du he;rw[r.1]at hm;refine Ah (BH.mp hm) ?_;rintro v hv e1;refine⟨⟨e.1,?_,?_⟩,?_⟩
 ·rw[ht];exact OD _ _ _ _
 ·rw[<- e1,XC (AhG h hv)]
 ·rw[ht];rfl
theorem Ey.find(r:Ey vs es.toList)(v:Nat):(es.toList.findIdx? (λe=>(intKind prog w).is (v:Int) e.2)).isSome=vs.contains v:=by
 have key:∀e∈es.toList,(intKind prog w).is (v:Int) e.2=(e.1 == (v:Int)):=λe he=>by
  refine AK (r.2 e he) ?_;rintro t ht;rw[ht,KeyKind.is_eq_decide (k:=e.1) (OD _ _ _ _)]
  by_cases q:(v:Int)=e.1
  ·rw[decide_eq_true q,<- q];simp
  ·rw[decide_eq_false q];simp[ER q]
 rw[List.findIdx?_isSome,AbG,ApX,Vn];constructor
 ·rintro⟨e,he,q⟩;rw[key e he,beq_iff_eq]at q;have hm:e.1∈es.toList.map (·.1):=Du he;rw[r.1,q]at hm;refine Ah (BH.mp hm) ?_;rintro v' hv e1;have:v'=v:=AfE e1;exact this▸hv
 ·intro hv;have hm:(v:Int)∈vs.map (λv=>((v:Nat):Int)):=Du hv;rw[<- r.1]at hm;refine Ah (BH.mp hm) ?_;rintro e he q;exact⟨e,he,by rw[key e he];simpa using q⟩
theorem Ey.insert(r:Ey vs es.toList){p:Nat}{tok:Tok}{vs':List Nat}(hp:p<=vs.length)(hvs:vs'=vs.take p++v::vs.drop p):Ey vs' (FD es p ((v:Int),.int (v:Int) tok)).toList:=by
 have hl:=r.len;have e0:(FD es p ((v:Int),.int (v:Int) tok)).toList=es.toList.take p++((v:Int),.int (v:Int) tok)::es.toList.drop p:=by
  unfold FD;rw[ApY,Vd,Vo,Vo];simp;exact Vp (by simp)
 rw[e0,hvs];refine⟨?_,λe he => ?_⟩
 ·rw[BP,Bo,ApZ,AbH,r.1,BP,Bo,ApZ,AbH]
 ·rcases BM.mp he with he | he
  ·exact r.2 e (Ap0 he)
  ·rcases AV.mp he with rfl | he
   ·exact⟨tok,rfl⟩
   ·exact r.2 e (List.mem_of_mem_drop he)
theorem AhH{t t':SetTable}{hs:Array Int}{wanted:Nat}{order:Array Nat}(h:t.relaid hs wanted=some (t',order)):t'.led=t.led:=by
 unfold SetTable.relaid SetTable.laid at h;rcases q:SetTable.layClean (SetTable.sizeAbove wanted-1) hs with _ | o
 ·rw[q]at h;(exfalso;injection h)
 ·rw[q]at h;have h':=Ay h;have:=congrArg (λx=>x.1.led) h';exact this.symm
theorem MV{A:Type}{l:List A}(h:l.length=n+1):∃a r,l=a::r/\r.length=n:=by
 rcases l with _ | ⟨a,r⟩
 ·exfalso;injection h
 ·exact⟨a,r,rfl,AbI h⟩
theorem AhI{A:Type}{l:List A}(h:l.length=5):∃a b c d e,l=[a,b,c,d,e]:=by
 refine Bg (MV h) ?_;rintro a l1 e1 h1;refine Bg (MV h1) ?_;rintro b l2 e2 h2;refine Bg (MV h2) ?_;rintro c l3 e3 h3;refine Bg (MV h3) ?_;rintro d l4 e4 h4;refine Bg (MV h4) ?_;rintro e l5 e5 h5;rcases l5 with _ | ⟨_,_⟩
 ·exact⟨a,b,c,d,e,by rw[e1,e2,e3,e4,e5]⟩
 ·exfalso;injection h5
set_option tactic.hygienic true in
theorem AhJ{vs:List Nat}{es:Array (Int×Ad)}(hvs:vs∈DL)(hl:vs.length=5)(r:Ey vs es.toList)(led:Bool)(moves:Nat):∃moves',relayAll (C8 vs 7 led moves) es (ApU es.size)=(es,C8 vs 31 led moves',false):=by
 have hes:es.size=5:=by rw[<- DC,r.len,hl]
 have z:=B7.mp (AhE led moves) vs (Hm.mpr ⟨hvs,by simpa using hl⟩)
 have eh:es.map (·.1)=(vs.map λv=>((v:Nat):Int)).toArray:=by
  apply Ap1.mp;rw[Array.toList_map];exact r.1
 unfold relayAll;rw[hes,eh]
 split at z
 ·rename_i t order q;rw[q];have hled:=AhH q;simp only[Bf,beq_iff_eq]at z;refine Au z ?_;clear z;rintro⟨⟨⟨⟨z1,z2⟩,z3⟩,z4⟩,z5⟩ z6;subst z6;have e2:(AbD 5).filterMap (es[·]?)=es:=by
   obtain⟨l⟩:=es;refine V0 (AhI hes) ?_;rintro a b c d e rfl;rfl
  dsimp only;have ht:t=C8 vs 31 led t.moves:=by
   rcases t with⟨a1,a2,a3,a4,a5,a6,a7⟩
   dsimp only at z1 z2 z3 z4 z5 hled;subst z1 z2 z3 z4 z5;rw[hled];rfl
  have hc:coversAll (AbD 5) 5=true:=by decide +kernel
  have hf:t.fits 5=true:=by
   rw[ht];have:=MU hvs led t.moves hl.symm
   rwa [show C7 vs.length=31 by rw[hl];rfl]at this
  refine⟨t.moves,?_⟩;rw[e2,hes,hc,hf,if_pos (show(true && true)=true from rfl),<- ht]
 ·exfalso;injection z
theorem Jb(v:Nat):∀vs:List Nat,(C2 v vs).length=vs.length+1:=by
 intro z1
 induction z1 with
 | nil =>
  exact rfl
 | cons x r ih =>
  rw[Pq]
  split
  ·rfl
  ·rw[BN,ih,BN]
theorem AhK{tok:Tok}{Q:Bool->Aq->Prop}(hv:v<7)(hS:Lj s.heap a led vs)
  (h:∀h' b,Vq a s.heap h'->Lj h' a led (Gl v vs)->Q b (put s h' (s.toks+1))):wpAny (model prog w) A (setAdd a (.int (v:Int) tok)) Q E s:=by
 refine CP hS ?_;clear hS;rintro es ep moves hvs r ho;have hvr:v∈As 7:=Dx.mpr hv;have hz:vs.length<=7:=JW hvs;unfold setAdd;refine Dp (Aj ((intKind prog w).pyHash (k:=(v:Int)) (OD _ _ _ _) ?_));have hf:=MU (n:=es.size) hvs led moves (by rw[<- DC,r.len])
 have hel:=r.elems (prog:=prog) (w:=w) hvs;unfold setAddHashed setAddHashedIn;refine Dp (Aj (OE (s:={ s with toks:=s.toks+1 }) ho rfl hf ?_))
 dsimp only;have hes:es.size=vs.length:=by rw[<- DC,r.len]
 rw[byScan_of (knd:=intKind prog w) rfl (by unfold scanBound;exact AfD hz hes) hel]
 simp only[↓reduceIte];unfold setAddByScan;refine Aj (Aj (AbJ ?_));refine Aj (wpAny_setScan_of (knd:=intKind prog w) (s:={ s with toks:=s.toks+1 }) (OD _ _ _ _) ho rfl hf hel ?_)
 have hfind:=r.find (prog:=prog) (w:=w) v;rcases hr:List.findIdx? (λe=>(intKind prog w).is (v:Int) e.2) es.toList with _ | j
 ·rw[hr]at hfind ⊢;have hc:vs.contains v=false:=hfind.symm;have ha:Gl v vs=C2 v vs:=by unfold Gl;rw[hc];rfl
  have hsub:C2 v vs∈DL:=by
   have:=B7.mp (B7.mp Ahz vs hvs) v hvr;rw[Vn,ha]at this;exact this
  have hfree:=B7.mp (B7.mp (AhA led moves) vs hvs) v hvr;rw[hc,Abr,beq_iff_eq]at hfree;have hpl:=B7.mp (B7.mp AhB vs hvs) v hvr;rw[hc,Abr,Bf,decide_eq_true_eq,beq_iff_eq]at hpl;refine Au hpl ?_;clear hpl;rintro hp1 hp2;dsimp only;rw[XC hv];have hput:(C8 vs (C7 vs.length) led moves).put v=(C8 (C2 v vs) (C7 vs.length) led moves,Ex vs v):=by
   unfold SetTable.put;have e1:SetTable.has (C8 vs (C7 vs.length) led moves).dummies v=false:=rfl;rw[e1];have e2:FD vs.toArray (Ex vs v) v=(C2 v vs).toArray:=by
    apply Ap1.mp;rw[hp2];unfold FD;rw[ApY,Vd,Vo,Vo];simp;exact Vp (by simp)
   show({ (C8 vs (C7 vs.length) led moves)with place:=FD vs.toArray (Ex vs v) v,dummies:=#[] },Ex vs v)=_
   rw[e2];rfl
  have r':Ey (C2 v vs) (FD es (Ex vs v) ((v:Int),.int (v:Int) tok)).toList:=r.insert hp1 hp2;have hsz':(FD es (Ex vs v) ((v:Int),.int (v:Int) tok)).size=vs.length+1:=by rw[<- DC,r'.len,Jb]
  have hfit1:(C8 (C2 v vs) (C7 vs.length) led moves).fits (vs.length+1)=true:=by
   have hz':vs.length+1<=7:=by rw[<- Jb v vs];exact JW hsub
   unfold ApV Vm C8 C7;simp only[KH,Jb,DU,AbE,beq_self_eq_true,AbF,decide_eq_true_eq]
   by_cases q:vs.length<5
   ·rw[if_pos q];exact hz'
   ·rw[if_neg q];exact AE hz' (by decide)
  have hlay:layNew (C8 vs (C7 vs.length) led moves) es (v:Int) (.int (v:Int) tok)=(FD es (Ex vs v) ((v:Int),.int (v:Int) tok),C8 (C2 v vs) (C7 vs.length) led moves,false,false):=by
   unfold layNew;rw[hfree];dsimp only;rw[hput];dsimp only;unfold SetTable.orStandIn;rw[hsz',hfit1];rfl
  rw[hlay];dsimp only;refine Aj (AD ?_);have hpl:(C8 (C2 v vs) (C7 vs.length) led moves).plain=true:=rfl;rw[hpl];simp only[↓reduceIte];refine Aj ?_;rw[hashByValue_scannable 8 rfl];refine AD ?_;simp only[show plainKind (Hn (v:Int) tok)=true from rfl,↓reduceIte];show wpAny _ _ (storeSet a (FD es (Ex vs v) ((v:Int),.int (v:Int) tok)) (C8 (C2 v vs) (C7 vs.length) led moves) >>= _) _ _ _;refine Aj (Ap2 (s:={ s with toks:=s.toks+1 }) ho rfl ?_ (by rw[hsz',F9];exact AfC hz))
  have ho1:=OF (AbK (FD es (Ex vs v) ((v:Int),.int (v:Int) tok)) (C8 (C2 v vs) (C7 vs.length) led moves)) ho rfl;have hsb1:=Ve s.heap a (AbK (FD es (Ex vs v) ((v:Int),.int (v:Int) tok)) (C8 (C2 v vs) (C7 vs.length) led moves))
  by_cases h5:vs.length=4
  ·have hm:C7 vs.length=7:=by rw[h5];rfl
   have hl5:(C2 v vs).length=5:=by rw[Jb,h5]
   have htf:(!false && (C8 (C2 v vs) (C7 vs.length) led moves).tooFull)=true:=by
    rw[hm];unfold Ap3 Vm C8;simp[hl5]
   rw[if_pos htf];rw[hm]at ho1 hsb1 ⊢;refine AK (AhJ hsub hl5 r' led moves) ?_;rintro moves' hre;rw[hre];refine Aj (AD ?_);refine Aj (Ap2 ho1 rfl ?_ (by rw[hsz',F9];exact AfB h5))
   have ho2:=OF (AbK (FD es (Ex vs v) ((v:Int),.int (v:Int) tok)) (C8 (C2 v vs) 31 led moves')) ho1 rfl;refine AD (AD (h _ _ (hsb1.trans (Ve _ a _)) ⟨FD es (Ex vs v) ((v:Int),.int (v:Int) tok),ep+1+1,moves',?_,?_,?_⟩))
   ·rw[ha];exact hsub
   ·rw[ha];exact r'
   ·rw[ha];unfold Pr;rw[show C7 (C2 v vs).length=31 by rw[hl5];rfl];exact ho2
  ·have htf:(!false && (C8 (C2 v vs) (C7 vs.length) led moves).tooFull)=false:=by
    have hz':vs.length+1<=7:=by rw[<- Jb v vs];exact JW hsub
    unfold Ap3 Vm C8 C7;simp only[KH,Jb,DU,AbE,Bool.not_false,AbF,decide_eq_false_iff_not];exact(show ∀n,n<7->n≠4->¬(n+1)*5 ≥ (if n<5 then 7 else 31)*3 by decide) _ hz' h5
   rw[if_neg (by rw[htf];decide)]
   refine AD (AD (h _ _ hsb1 ⟨FD es (Ex vs v) ((v:Int),.int (v:Int) tok),ep+1,moves,?_,?_,?_⟩))
   ·rw[ha];exact hsub
   ·rw[ha];exact r'
   ·have hm:C7 (C2 v vs).length=C7 vs.length:=by
     rw[Jb];unfold C7;exact(show ∀n,n<7->n≠4->(if n+1<5 then 7 else 31)=(if n<5 then 7 else 31)by decide) _ (show vs.length+1<=7 by rw[<- Jb v vs];exact JW hsub) h5
    rw[ha];unfold Pr;rw[hm];exact ho1
 ·rw[hr]at hfind ⊢;have hc:vs.contains v=true:=hfind.symm;refine AD (AD ?_);refine h s.heap _ (Heap.SameBut.refl a s.heap) ⟨es,ep,moves,?_,?_,?_⟩
  ·unfold Gl;rw[if_pos hc];exact hvs
  ·unfold Gl;rw[if_pos hc];exact r
  ·unfold Gl;rw[if_pos hc];exact ho
end
end
section
set_option maxHeartbeats 1000000
noncomputable def Gm(val:Nat->Nat):Nat->List Nat
 | 0=>[]
 | i+1=>Gl (val i) (Gm val i)
noncomputable def Dj(w:BK):Bool := !w.params.followText "set-order"
section
variable {prog:CJ}{w:BK}{A:CK}{R:Hc->Aq->Prop}{I:Af}{fp wr:List Af}{G:Array Oh->Array Oh->Prop}{n:Nat}{P:Nat->Ad->Prop}{St:Nat->Aq->Prop}
theorem AhL{led:Bool}(W:WalksS prog w A.in1 I fp wr G n P St)(S:Af)(hSf:S∉fp)(val:Nat->Nat)(hval:∀i v,P i v->∃t,v=.int (val i:Int) t)(h7:∀i,i<n->val i<7) :
  ∀(k i:Nat) (s:Aq),n-i=k->i<=n->St i s->Lj s.heap S led (Gm val i)->(∀s',Moved (S::wr) G s s'->Lj s'.heap S led (Gm val n)->R (.ok (.ret .none)) s') ->
   codeAny (model prog w) A (.builtin "set.update.loop" ⟨[.ref S,.ref I],[]⟩) R s:=by
 have hSw:S∉wr:=λh=>hSf (W.sub _ h);have hsub:∀b∈wr,b∈S::wr:=λb hb=>Ga _ hb;intro k
 induction k with
 | zero =>
  intro i s hk hi hst hS hR;have hin:i=n:=WK hk hi;subst hin;refine OG Ap4 ?_;rw[Rd AbL _];show wpAny _ A.in1 (pyNext (.ref I) >>= _) _ _ s;refine Aj (W.done s _ _ hst λs' hm => ?_);show wpAny _ A.in1 (PySem.ret Gb) _ _ s';refine CP hS ?_;clear hS;rintro es ep mv h1 h2 ho;exact AD (hR s' (hm.mono hsub) ⟨es,ep,mv,h1,h2,hm.heap S _ hSw ho⟩)
 | succ k ih =>
  intro i s hk hi hst hS hR;have hlt:i<n:=WJ hk;refine OG Ap4 ?_;rw[Rd AbL _];show wpAny _ A.in1 (pyNext (.ref I) >>= _) _ _ s;refine Aj (W.item i s _ _ hlt hst λv s' hP hst' hm => ?_);refine AK (hval i v hP) ?_;rintro t rfl;refine CP hS ?_;clear hS;rintro es ep mv h1 h2 ho;have hS':Lj s'.heap S led (Gm val i):=⟨es,ep,mv,h1,h2,hm.heap S _ hSw ho⟩;show wpAny _ A.in1 (holding [Hn (val i) t] (setAdd S (.int (val i) t)) >>= _) _ _ s';refine Aj (Dp ?_);refine AhK (h7 i hlt) hS' λh' b hsb hSi => ?_;refine AD ⟨Vr AbL _,ih (i+1) _ (WI hk) hlt (W.frame _ s' _ _ hst' (HU _) λb hb o e => ?_) hSi λs'' hm'' hS'' => ?_⟩
  ·rw[hsb.2 b (λh:b=S=>hSf (by rw[<- h];exact hb))];exact e
  ·refine hR s'' (Moved.trans W.gtrans ((hm.mono hsub).then_heap (HU _) λb o hb e => ?_) hm'') hS'';rw[hsb.2 b (λh:b=S=>hb (by rw[h];exact Dq))];exact e
end
section
variable {prog:CJ}{w:BK}{A:CK}{E:Ad->Aq->Prop}{s:Aq}
theorem AhM(a:Ad){Q₁:Ad->Aq->Prop}
  (h:Q₁ (.ref s.heap.objs.size) { s with heap:=s.heap.push { cls:=.type "set",dict:=none,data:=.set #[] 0 (.fresh 0 0 (Dj w)) } }) :
  codeAny (model prog w) A (.call (.builtin "set.__new__") ⟨[.type "set",a],[]⟩) (wants Q₁ E) s:=by
 refine AbM ?_;show wpAny _ A.in1 (do AbN "set.__new__" ⟨[.type "set",a],[]⟩;again (.builtin "set.__new__" ⟨[.type "set",a],[]⟩)) _ _ s
 refine Aj (wpAny_of_eq (F.newCall_set_1 a) (AD ⟨Vr Ap5 _,OG F.entry_set_new ?_⟩));rw[Rd Ap5 _];unfold Builtin.«set.__new__» Builtin.Frozenset.newClass;have hsub:=sub_set_self;rcases s with⟨hp,g,d,tk,os⟩
 dsimp only
 wp_walk
 refine OH (AD ?_);dsimp only;simp only[newObj];refine Aj (wpAny_alloc (AD ?_));exact AD h
set_option tactic.hygienic true in
theorem AhN{T newId initId:String}{args:List Ad}{Q₁:Ad->Aq->Prop}(ft:TypeCalled T newId initId)(hct:checkTypeCall T ⟨args,[]⟩=pure ())
  (hnew:codeAny (model prog w) A.in1 (.call (.builtin newId) ⟨.type T::args,[]⟩) (wants Q₁ E) s)
  (hnext:∀obj s₁,Q₁ obj s₁->s₁.TypeIs obj T/\codeAny (model prog w) A.in1 (.call (.builtin initId) ⟨obj::args,[]⟩) (wants (λr s₂=>r=.none/\Q obj s₂) E) s₁) :
  wpAny (model prog w) A (call (.type T) args) Q E s:=by
 refine HY ft.mro ?_;rintro c tl hmro;have hmade:=ft.made;have hsub:=ft.sub;refine KI (AbM ?_);show wpAny _ _ (callAny (.type T) _) _ _ _;refine AD ⟨AbO _ (by decide +kernel),OG F.entry_type_call ?_⟩
 rw[Around.under_plain (weight_type_call_type T args []) rfl];have h1:=ft.notType;have h2:=ft.canCreate
 repeat (any_goals (first | assumption | wp_step))
 refine AbP hnew λr s₁ hr => ?_;rcases r with e | fl
 ·exact hr
 ·rcases fl with _ | _ | _ | obj
  case ret =>
   refine Au (hnext _ _ hr) ?_;rintro hT hsi;have hli:=ft.init.lookup;have hbi:=ft.init.bind obj
   repeat (any_goals (first | assumption | wp_step))
   refine AbP hsi λr₂ s₂ hr₂ => ?_;rcases r₂ with e | fl₂
   ·exact hr₂
   ·rcases fl₂ with _ | _ | _ | r
    case ret =>
     refine Au hr₂ ?_;clear hr₂;rintro rfl hq
     repeat (any_goals (first | assumption | wp_step))
    all_goals exact hr₂.elim
  all_goals exact hr.elim
theorem AhO{l:Af}{val:Nat->Nat}(hh:A.handled=none)(hl:s.heap.IsList l items)(hval:∀(i:Nat) (v:Ad),items[i]? = some v->∃t:Tok,v=Hn (val i:Int) t)(h7:∀i,i<items.size->val i<7)
  (h:∀(h':Bb) (tk:Nat),Lj h' s.heap.objs.size (Dj w) (Gm val items.size)->(∀b o,b<s.heap.objs.size->s.heap.get? b=some o->h'.get? b=some o)->Q (.ref s.heap.objs.size) (put s h' tk)) :
  wpAny (model prog w) A (call (.type "set") [.ref l]) Q E s:=by
 refine AhN (Q₁:=λobj s₁=>obj=.ref s.heap.objs.size/\s₁={ s with heap:=s.heap.push { cls:=.type "set",dict:=none,data:=.set #[] 0 (.fresh 0 0 (Dj w)) } }) F.called_set (F.typeCall_set_1 _) (AhM (.ref l) ⟨rfl,rfl⟩) λobj s₁ h₁ => ?_
 refine Au h₁ ?_;clear h₁;rintro rfl rfl;have hS:(s.heap.push { cls:=.type "set",dict:=none,data:=.set #[] 0 (.fresh 0 0 (Dj w)) }).get? s.heap.objs.size=some { cls:=.type "set",dict:=none,data:=.set #[] 0 (.fresh 0 0 (Dj w)) }:=JG _ rfl;have hT:AbQ { s with heap:=s.heap.push { cls:=.type "set",dict:=none,data:=.set #[] 0 (.fresh 0 0 (Dj w)) } } (.ref s.heap.objs.size) "set" := ⟨_,hS,rfl⟩
 refine⟨hT,Vs F.called_set.init.plain F.entry_set_init (check_set_init_1 hT ?_)⟩;rcases id hl with⟨ol,hol,hcl,nl,hdl⟩
 have hlS:l<s.heap.objs.size:=BE hol;have hl1:(s.heap.push { cls:=.type "set",dict:=none,data:=.set #[] 0 (.fresh 0 0 (Dj w)) }).IsList l items:=hl.push _;have hTl:AbQ { s with heap:=s.heap.push { cls:=.type "set",dict:=none,data:=.set #[] 0 (.fresh 0 0 (Dj w)) } } (.ref l) "list" := ⟨_,Eo _ hol,hcl⟩
 unfold Builtin.«set.__init__»;refine Aj (AD ?_);refine Aj ?_;unfold typeNameOfCut shownTypeOf;refine Aj (Aj (OI hT ?_));simp only[show(EO "set" == EO "builtin_function_or_method")=false by decide,JH,if_false]
 refine AD ?_;have e:typeNameCut 200 (.type "set")=pure "set" := by unfold typeNameCut typeName;rw[find?_eq_fast];kernel_rfl
 rw[e];refine AD (Aj (AD ?_));refine Aj (AD ?_);refine Aj ?_;unfold setUsed;refine Aj (OE hS rfl rfl (AD ?_));refine Rf (λq=>absurd q (show ¬(false=true)from CD)) (λz => ?_);refine Aj ?_;unfold Builtin.Frozenset.updateFrom;have hs1:Hj (.type "list") (.type "set")=pure false:=F.sub_list_set;have hs2:Hj (.type "list") (.type "frozenset")=pure false:=F.sub_list_frozenset;refine Aj (Aj (OJ hTl hs1 ?_));show wpAny _ _ (KJ (.ref l) (.type "frozenset")) _ _ _;refine OJ hTl hs2 ?_;rw[if_neg (by decide)]
 refine Aj (OI hTl ?_);rw[if_neg (by decide)]
 refine Aj (AbR hl1 ?_);refine Aj (wpAny_runValue ?_);have hh3:A.in1.in1.in1.handled=none:=by simp[hh]
 have hneI:l≠(s.heap.push { cls:=.type "set",dict:=none,data:=.set #[] 0 (.fresh 0 0 (Dj w)) }).objs.size:=by
  rw[Rg];exact Cb (OK hlS)
 have hSf:s.heap.objs.size∉[(s.heap.push { cls:=.type "set",dict:=none,data:=.set #[] 0 (.fresh 0 0 (Dj w)) }).objs.size,l]:=by
  rw[Rg];simp only[AV,Cx,Mn,or_false,not_or];exact⟨Cb (JI _),Mo hlS⟩
 refine AhL (led:=Dj w) ((Walks.list hh3 _ l hneI items).toS) s.heap.objs.size hSf val hval h7 (items.size-0) 0 _ (WH) (GG _) ⟨⟨_,JG _ rfl,rfl,rfl⟩,(hl1.push _)⟩
  ⟨#[],0,0,show([]:List Nat)∈DL by decide,⟨rfl,λe he=>by rcases he with⟨⟩⟩,Eo _ hS⟩ λs' hm hS' => ?_
 rcases s' with⟨h',g',d',tk',os'⟩
 have eg:g'=s.gens:=hm.gens;have ed:d'=s.drawn:=hm.drawn;have eo:os'=s.os:=hm.os;subst eg;subst ed;subst eo;refine AD (AD ⟨rfl,h h' tk' hS' λb o hb e => ?_⟩);have hb1:b≠s.heap.objs.size:=Cb hb;have hb2:b≠(s.heap.push { cls:=.type "set",dict:=none,data:=.set #[] 0 (.fresh 0 0 (Dj w)) }).objs.size:=by
  rw[Rg];exact Cb (OK hb)
 exact hm.heap b o (by simp only[AV,Mn,or_false,not_or];exact⟨hb1,hb2⟩) (Eo _ (Eo _ e))
end
end
section
set_option maxHeartbeats 1000000
set_option tactic.hygienic true in
theorem Lk:Slot "set_iterator" "__next__" "set_iterator.__next__" :=
 .of (owner := "set_iterator") (n := "__next__") (by rw[AbS,AbT];kernel_rfl) (by decide +kernel) (by decide +kernel) (by decide +kernel)
  (by first | exact .inl (by decide +kernel) | exact .inr (by decide +kernel)) (by rw[AbU];kernel_rfl)
set_option tactic.hygienic true in
theorem XD:entryFor table "set_iterator.__next__" = some Builtin.«set_iterator.__next__»:=Ap6 (by kernel_rfl)
set_option tactic.hygienic true in
theorem XE(a:Ad):argsOk "set_iterator.__next__" ⟨[a],[]⟩:=by unfold argsOk;kernel_rfl
theorem XF:Slot "set_iterator" "__iter__" "set_iterator.__iter__" :=
 .of (owner := "set_iterator") (n := "__iter__") (by rw[AbS,AbT];kernel_rfl) (by decide +kernel) (by decide +kernel) (by decide +kernel)
  (by first | exact .inl (by decide +kernel) | exact .inr (by decide +kernel)) (by rw[AbU];kernel_rfl)
theorem AhP:entryFor table "set_iterator.__iter__" = some Builtin.«dict_keyiterator.__iter__»:=Ap7 (id' := "dict_keyiterator.__iter__") (by kernel_rfl) rfl (by decide +kernel) (by kernel_rfl)
theorem AhQ(a:Ad):argsOk "set_iterator.__iter__" ⟨[a],[]⟩:=by unfold argsOk;kernel_rfl
theorem AhR:entryFor table "set.__iter__" = some Builtin.«frozenset.__iter__»:=Ap7 (id' := "frozenset.__iter__") (by kernel_rfl) rfl (by decide +kernel) (by kernel_rfl)
theorem AhS:∀(l:List α) (i:Nat) (h:i<l.length),(l[i]::l.eraseIdx i).Perm l:=by
 intro z1
 induction z1 with
 | nil=>intros;contradiction
 | cons x r ih =>
  intro z2;rcases z2 with _ | i
  ·intro z3;exact .refl _
  ·intro h;rw[List.eraseIdx_cons_succ,List.getElem_cons_succ];exact(ApI _ _ _).trans (.cons _ (ih i (by simpa using h)))
set_option tactic.hygienic true in
theorem AhT{next:Nat->Nat}{fuel k:Nat}{left:List α}{out:Array α}{x:α}(h:left[next k % left.length]? = some x):Vt next (fuel+1) k left out=Vt next fuel (k+1) (left.eraseIdx (next k % left.length)) (out.push x):=by
 show(match left[next k % left.length]? with
  | some x=>Vt next fuel (k+1) (left.eraseIdx (next k % left.length)) (out.push x)
  | none=>out)=_
 rw[h]
set_option tactic.hygienic true in
theorem AhU(next:Nat->Nat)(xs:Array α):(AbV next xs).toList.Perm xs.toList:=by
 have key:∀(fuel k:Nat) (left:List α) (out:Array α),left.length=fuel->(Vt next fuel k left out).toList.Perm (out.toList++left):=by
  intro fuel
  induction fuel with
  | zero =>
   intro k left out h;rw[Aby.mp h,Dw];exact .refl _
  | succ n ih =>
   intro k left out h;have hp:0<left.length:=AfH h;have hlt:next k % left.length<left.length:=Nat.mod_lt _ hp
   rw[AhT (Ci hlt)];refine(ih (k+1) _ _ (by rw[List.length_eraseIdx_of_lt hlt];exact AfG h)).trans ?_
   rw[Vd,Gd];refine List.Perm.append_left _ ?_;exact AhS _ _ hlt
 exact key xs.size 0 xs.toList #[] (by simp)
noncomputable def Fi(w:BK)(r:Af)(ep:Nat)(es:Array (Int×Ad)):Array (Int×Ad):=if w.params.followText "set-order" = true then AbV (w.params.setOrder r ep) es else es
theorem Se(w:BK)(r:Af)(ep:Nat)(es:Array (Int×Ad)):(Fi w r ep es).toList.Perm es.toList:=by
 unfold Fi
 split
 ·exact AhU _ _
 ·exact .refl _
noncomputable def Dy(w:BK)(vs:List Nat)(i:Nat):Nat:=if w.params.followText "set-order" = true then 0 else match i with
 | 0=>0
 | i+1=>(vs[i]?).getD 0+1
def Sf(w:BK)(h:Bb)(I r:Af)(vs:List Nat)(ep i:Nat):Prop:=∃o:AU,h.get? I=some o/\o.cls=.type "set_iterator" /\ o.data=.fields #[.int (Dy w vs i:Int) 0,.int (i:Int) 0,.ref r,.int (vs.length:Int) 0,.int (ep:Int) 0]
def WN(w:BK)(h:Bb)(I r:Af)(vs:List Nat)(es:Array (Int×Ad))(ep i:Nat):Prop:=Sf w h I r vs ep i/\Ja h r (Dj w) vs es ep
end
section
set_option maxHeartbeats 1000000
section
variable {prog:CJ}{w:BK}{A:CK}{E:Ad->Aq->Prop}{s:Aq}{I r:Af}{vs:List Nat}{es:Array (Int×Ad)}{ep i:Nat}
set_option tactic.hygienic true in
theorem AhV(hS:Ja s.heap r (Dj w) vs es ep)(hi:i<=vs.length){Q:Option (Ad×Nat)->Aq->Prop}
  (h:Q (((Fi w r ep es)[i]?).map λe=>(e.2,Dy w vs (i+1))) s):wpAny (model prog w) A (setNext r (Dy w vs i) i ep) Q E s:=by
 refine AG hS ?_;clear hS;rintro moves hvs R ho;have hf:=MU (n:=es.size) hvs (Dj w) moves (by rw[<- DC,R.len])
 have hes:es.size=vs.length:=by rw[<- DC,R.len]
 unfold setNext;refine Aj (OE ho rfl hf ?_);dsimp only;unfold AbW;refine Aj (Aj (OH (AD ?_)));dsimp only;rcases hb:w.params.followText "set-order" with _ | _
 ·have e1:(model prog w).w.params.followText "set-order" = false:=hb;rw[e1,if_neg (by decide)]
  have hl:Dj w=true:=by unfold Dj;rw[hb];rfl
  refine Rf (λq=>absurd q (show ¬(false=true)from CD)) (λz => ?_);refine Aj ?_;show wpAny _ _ (if(!(Dj w) && !es.isEmpty)=true then unsupported "set:maker-not-led" else Om ()) _ _ _;rw[hl,if_neg (show ¬((!true && !es.isEmpty)=true)from CD)];refine AD ?_;have e2:Fi w r ep es=es:=by unfold Fi;rw[if_neg (by rw[hb];decide)]
  have hbel:OC vs.toArray (Dy w vs i)=i:=by
   unfold Dy;rw[if_neg (by rw[hb];decide)]
   rcases i with _ | j
   ·have:=B7.mp sub_zero vs hvs
    simpa using this
   ·have hj:j<vs.length:=hi;have:=B7.mp (B7.mp AhC vs hvs) j (Dx.mpr (Fb hj (JW hvs)));rw[Ci hj]at this;dsimp only;rw[Ci hj]
    simpa using this
  show wpAny _ _ (Om (match es[OC vs.toArray (Dy w vs i)]?,vs.toArray[OC vs.toArray (Dy w vs i)]? with
   | some (_,x),some j=>some (x,j+1)
   | _,_=>none)) _ _ _
  rw[hbel];rw[e2]at h;refine AD ?_;rcases Aa8 i vs.length with hlt | hge
  ·have hlt':i<es.size:=by rw[hes];exact hlt
   rw[U6 hlt',List.getElem?_toArray,Ci hlt];rw[U6 hlt']at h;have e3:Dy w vs (i+1)=vs[i]+1:=by
    unfold Dy;rw[if_neg (by rw[hb];decide)]
    dsimp only;rw[Ci hlt];rfl
   rw[e3]at h;exact h
  ·rw[Ap8 (by rw[hes];exact hge)]at h ⊢
   exact h
 ·have e1:(model prog w).w.params.followText "set-order" = true:=hb;rw[e1,if_pos rfl,if_neg (by simp)]
  unfold setWalk;refine Aj (Aj (OE ho rfl hf ?_));dsimp only;unfold AbW;refine Aj (Aj (OH (AD ?_)));dsimp only;rw[e1,if_pos rfl];refine Aj (OH (AD ?_));refine AD ?_;have e2:Fi w r ep es=AbV (w.params.setOrder r ep) es:=by unfold Fi;rw[if_pos hb]
  rw[e2]at h;have e3:Dy w vs i=Dy w vs (i+1):=by unfold Dy;rw[if_pos hb,if_pos hb]
  rw[e3];exact h
theorem Sf.typeIs(h:Sf w s.heap I r vs ep i):s.TypeIs (.ref I) "set_iterator" := let ⟨o,ho,hc,_⟩:=h;⟨o,ho,hc⟩
theorem Ja.keep{h:Bb}{led:Bool}(hS:Ja h r led vs es ep)(k:∀o,h.get? r=some o->h'.get? r=some o):Ja h' r led vs es ep:=by
 refine AG hS ?_;clear hS;rintro moves h1 h2 h3;exact⟨moves,h1,h2,k _ h3⟩
theorem XG(hW:WN w s.heap I r vs es ep i)(hi:i<=vs.length){Q:PySem.Fin->Aq->Prop}
  (hn:(Fi w r ep es)[i]? = none->wpAny (model prog w) A (setField (.ref I) 2 .none) (λq s'=>wpAny (model prog w) A (newExc (.type "StopIteration") []) (λe s''=>wpAny (model prog w) A (raiseNew e:Sem PySem.Fin) Q E s'') E s') E s)
  (hs:∀e,(Fi w r ep es)[i]? = some e->wpAny (model prog w) A (setField (.ref I) 0 (rawInt (Dy w vs (i+1)))) (λq s'=>wpAny (model prog w) A (setField (.ref I) 1 (rawInt ((i:Int)+1))) (λq s''=>Q (.done (.ret e.2)) s'') E s') E s) :
  wpAny (model prog w) A (Builtin.«set_iterator.__next__» ⟨[.ref I],[]⟩) Q E s:=by
 refine Au hW ?_;clear hW;rintro⟨o,ho,hc,hd⟩ hS;refine AG (id hS) ?_;rintro moves hvs R hr;have hes:es.size=vs.length:=by rw[<- DC,R.len]
 have hf:=MU (n:=es.size) hvs (Dj w) moves hes;unfold Builtin.«set_iterator.__next__»;refine Aj (AD ?_);refine Aj (wpAny_fieldsOf ho hd ?_);dsimp only;refine Aj (Ap9 hr rfl hf ?_);rw[if_neg (by rw[hes];simp)]
 rw[show((Dy w vs i:Int)).toNat=Dy w vs i from Rh _,show((i:Int)).toNat=i from Rh _,show((ep:Int)).toNat=ep from Rh _];refine Aj (AhV hS hi ?_);rcases hq:(Fi w r ep es)[i]? with _ | e
 ·exact Aj (KL (hn hq) (λq q z=>Aj z) λq q z=>z)
 ·exact Aj (KL (hs e hq) (λq q z=>Aj (KL z (λq q y=>AD y) λq q y=>y)) λq q z=>z)
end
end
section
set_option maxHeartbeats 1000000
section
variable {prog:CJ}{w:BK}{A:CK}{E:Ad->Aq->Prop}{s:Aq}{I r:Af}{vs:List Nat}{es:Array (Int×Ad)}{ep i:Nat}
theorem Pt(R:Ey vs es.toList):(Fi w r ep es).size=vs.length:=by
 rw[<- DC,(Se w r ep es).length_eq,R.len]
set_option tactic.hygienic true in
theorem WN.walks(hh:A.handled=none)(I r:Af)(hne:r≠I)(vs:List Nat)(es:Array (Int×Ad))(ep:Nat) :
  Walks prog w A I [I,r] [I] vs.length (λi v=>∃e,(Fi w r ep es)[i]? = some e/\v=e.2) (λi h=>WN w h I r vs es ep i) where
 sub:=λb hb=>by simp at hb;simp[hb]
 frame:=λi h h' st hk=>⟨let ⟨o,ho,q⟩:=st.1;⟨o,hk I (by simp) o ho,q⟩,st.2.keep λo e=>hk r (by simp) o e⟩
 item:=λi s Q E hi st hQ=>by
  refine AG (id st.1) ?_;rintro o ho hc hd;have hR:Ey vs es.toList:=let ⟨_,_,h,_⟩:=st.2;h
  unfold pyNext;refine Aj (Ri (Aqa (name:=Ab "__next__") st.1.typeIs Lk (Vu Lk st.1.typeIs XD ?_ (XE _))));refine XG st (DI hi) (λq => ?_) λe he => ?_
  ·rw[U6 (by rw[Pt hR];exact hi)]at q;(exfalso;injection q)
  ·refine OL ho hd (by simp) ?_
   have hd1:=Rj hd (·.setIfInBounds 0 (rawInt (Dy w vs (i+1))));have ho1:=OF (HW (·.setIfInBounds 0 (rawInt (Dy w vs (i+1))))) ho (Vv hd1);refine OL ho1 hd1 (by simp) ?_
   have hd2:=Rj hd1 (·.setIfInBounds 1 (rawInt ((i:Int)+1)));have ho2:=OF (HW (·.setIfInBounds 1 (rawInt ((i:Int)+1)))) ho1 (Vv hd2);have oth:∀b,b≠I->((s.heap.update I (HW (·.setIfInBounds 0 (rawInt (Dy w vs (i+1)))))).update I (HW (·.setIfInBounds 1 (rawInt ((i:Int)+1))))).get? b=s.heap.get? b:=λb hb=>by
    rw[OM _ _ (ER hb),OM _ _ (ER hb)]
   refine⟨_,rfl,AD (hQ _ _ s.toks ⟨e,he,rfl⟩ ⟨⟨_,ho2,?_,?_⟩,st.2.keep λo e=>(oth r hne).trans e⟩ λb o hb e=>(oth b λh=>hb (by simp[h])).trans e)⟩
   ·rw[AbX,AbX];exact hc
   ·rw[hd2];simp[rawInt]
 done:=λs Q E st hQ=>by
  refine AG (id st.1) ?_;rintro o ho hc hd;have hR:Ey vs es.toList:=let ⟨_,_,h,_⟩:=st.2;h
  unfold pyNext;refine Aj (Ri (Aqa (name:=Ab "__next__") st.1.typeIs Lk (Vu Lk st.1.typeIs XD ?_ (XE _))));refine XG st (AM _) (λq => ?_) λe he => ?_
  ·refine OL ho hd (by simp) ?_
   simp only[newExc,newTuple];refine Aj (Oy ?_ (by size_fits))
   refine Aj (m:=Aqb _ _) (wpAny_of_eq (a:=Gb) (by first | rfl | (simp only[Aqb];rfl)) ?_)
   refine Oy ?_ (by size_fits)
   unfold raiseNew;refine Aj (wpAny_handled ?_);rw[show A.in1.handled=none from hh];refine Aj (AD (wpAny_throw ?_));refine Aj (OJ (T := "StopIteration") (b:=true) ⟨_,JG _ rfl,rfl⟩ isSubtype_stop ?_);exact AD (hQ _ _ λb o hb e=>(((Ve ..).extBut.push _).push _) b o (λh=>hb (by simp[h])) e)
  ·rw[Ap8 (by rw[Pt hR];exact AM _)]at he;(exfalso;injection he)
 self:=λi s Q E st hQ=>by
  refine Aqc st.1.typeIs XF (Vu XF st.1.typeIs AhP ?_ (AhQ _));show wpAny _ _ (PySem.ret (.ref I)) _ _ s;exact AD ⟨_,rfl,"set_iterator",_,st.1.typeIs,Lk.lookup,hQ⟩
theorem AhW{Q:Bool->Aq->Prop}(hT:s.TypeIs (.ref r) "set")(h:Q false s):wpAny (model prog w) A (Aqd (.ref r)) Q E s:=by
 unfold Aqd;refine Aj (wpAny_specialOf hT F.slot_set_len.lookup ?_)
 generalize hid:("set.__len__" : String)=id0
 wp_delta
 rw[show splitId id0=some ("set","__len__")from by subst hid;decide +kernel]
 subst hid;refine Aj (OJ (T := "set") (b:=true) hT (by rw[AbU];kernel_rfl) ?_)
 refine Rf (λhab=>absurd hab (by decide)) (λz => ?_)
 refine Rf (λz => ?_) (λhab=>absurd (by decide +kernel) hab)
 refine Aj (OI hT ?_);exact AD h
theorem AhX:KdlSrc prog w "set" r r vs.length (λi v=>∃e,(Fi w r ep es)[i]? = some e/\v=e.2) (λh=>Ja h r (Dj w) vs es ep) where
 type:=λs hm=>let ⟨_,_,_,ho⟩:=hm;⟨_,ho,rfl⟩
 there:=λh hm=>let ⟨_,_,_,ho⟩:=hm;⟨BE ho,BE ho⟩
 keep:=λh h' hm hk=>hm.keep λo e=>hk r (.inl rfl) o e
 notList:=by decide
 notTuple:=by decide
 hint:=λA E s Q hm hq=>AhW (let ⟨_,_,_,ho⟩:=hm;⟨_,ho,rfl⟩) hq
 iter:=λA s hh hm=>by
  refine AG (id hm) ?_;rintro moves hvs hR ho;have hlt:=BE ho;refine⟨{ cls:=.type "set_iterator",data:=.fields #[.int 0 0,.int 0 0,.ref r,.int vs.length 0,.int ep 0] },λi h=>WN w h s.heap.objs.size r vs es ep i,λE Q hq => ?_,WN.walks hh _ r (Cb hlt) vs es ep,⟨⟨_,JG _ rfl,rfl,?_⟩,hm.keep λo e=>Eo _ e⟩⟩
  ·have hT:s.TypeIs (.ref r) "set" := ⟨_,ho,rfl⟩;have hes:es.size=vs.length:=by rw[<- DC,hR.len]
   have hf:=MU (n:=es.size) hvs (Dj w) moves hes;refine Aqc hT Aqe (Vu Aqe hT AhR ?_ (F.args_set_iter_1 _));unfold Builtin.«frozenset.__iter__»;refine Aj ?_;unfold Builtin.Frozenset.slot0 slotArgs;simp only[List.isEmpty_nil,Vw,JH,↓reduceIte,bind_assoc,DU,bne_self_eq_false];unfold Builtin.Frozenset.addrOf;refine Aj (AD ?_)
   try dsimp only
   refine AD ?_;unfold Builtin.Frozenset.sizeOf;refine Aj (Aj (Ap9 ho rfl hf (AD ?_)));unfold setDrawn;refine Aj (Aj (OE ho rfl hf ?_));unfold AbW;refine Aj (Aj (OH (AD ?_)));refine AD ?_;refine Rf (λq=>absurd q (show ¬((!w.params.followText "set-order" && false)=true)by rw[Oo];exact CD)) (λz => ?_)
   refine Aj (AD ?_);unfold setEpoch;refine Aj (Aj (OE ho rfl hf (AD ?_)));refine Aj (Oy (AD ⟨_,rfl,"set_iterator",_,⟨_,JG _ rfl,rfl⟩,Lk.lookup,?_⟩))
   simpa [rawInt,hes] using hq
  ·show Data.fields #[.int 0 0,.int 0 0,.ref r,.int vs.length 0,.int ep 0]=.fields #[.int (Dy w vs 0:Int) 0,.int ((0:Nat):Int) 0,.ref r,.int (vs.length:Int) 0,.int (ep:Int) 0];have:Dy w vs 0=0:=by unfold Dy;split<;>rfl
   rw[this];rfl
end
end
section
set_option maxHeartbeats 1000000
noncomputable def Ia:List CV->Option (List Nat)
 | []=>some []
 | .int i::r=>if 0<=i/\i<7 then(match Ia r with
  | some l=>some (i.toNat::l)
  | none=>none)else none
 | _=>none
theorem AhY:∀(i:Int) (r:List CV),Ia (CV.int i::r)=if 0<=i/\i<7 then match Ia r with | some l=>some (i.toNat::l) | none=>none else none:=by intros;rfl
noncomputable def HC(l:List Nat):List Nat:=Gm (λi=>l.getD i 0) l.length
noncomputable def JX(a:CV):CM (List Nat):=match a with
 | .ref n=>bnd (listC n) λcs=>match Ia cs with
  | some l=>ret (HC l)
  | none=>Ar
 | _=>Ar
noncomputable def MW(L:List Nat):CM CV:=B2 (L.map λ(v:Nat)=>CV.int ((v:Nat):Int))
def Sg(c:FC)(l:Am)(v:Ad)(L:List Nat):Prop:=∃S es ep moves,v=.ref S/\L∈DL/\Ey L es.toList/\AS l (S,Pr es ep L (Dj c.w) moves)
theorem AhZ{vs:List Nat}(h:vs∈DL):(vs.map λv=>((v:Nat):Int)).Pairwise (·<=·):=by
 have all:DL.all (λvs=>decide ((vs.map λv=>((v:Nat):Int)).Pairwise (·<=·)))=true:=by decide +kernel
 exact of_decide_eq_true (B7.mp all vs h)
section
variable {c:FC}{FX:Bm}{m:Ac->Option Ad}{l l':Am}{d:Nat}{env:Env}{loc:Ao}{Γ:AP}
set_option tactic.hygienic true in
theorem Ah0{L:List Nat}(e:Ia cs=some L)(h:AA l ws cs):L.length=ws.length/\∀(i:Nat) (v:Ad),ws[i]? = some v->∃t:Tok,v=Hn (L.getD i 0:Nat) t/\L.getD i 0<7 :=
 h.ind (P:=λws cs=>∀L,Ia cs=some L->L.length=ws.length/\∀(i:Nat) (v:Ad),ws[i]? = some v->∃t:Tok,v=Hn (L.getD i 0:Nat) t/\L.getD i 0<7)
  (λL e=>by
   obtain rfl:=Ay e;exact⟨rfl,λi v h=>(Ax h).elim⟩) (λ{w ws c cs} a _ ih L e=>by
   rcases c with⟨⟩<;>try exact(Ax e).elim
   rename_i x;refine AK a.int_inv ?_;rintro t rfl;have e:(if 0<=x/\x<7 then(match Ia cs with | some l=>some (x.toNat::l) | none=>none)else none)=some L:=e
   by_cases hx:0<=x/\x<7
   ·rw[if_pos hx]at e;rcases q:Ia cs with _ | l'
    ·rw[q]at e;exact(Ax e).elim
    ·rw[q]at e;obtain rfl:=Ay e;refine Au (ih l' q) ?_;rintro h1 h2;refine⟨congrArg Abi h1,λi v hv => ?_⟩;rcases i with _ | j
     ·obtain rfl:=Ay hv;refine⟨_,congrArg (λz=>Hn z _) (Aqf hx.1).symm,?_⟩;show x.toNat<7;exact AfJ hx
     ·exact h2 j v hv
   ·rw[if_neg hx]at e;exact(Ax e).elim) L e
set_option tactic.hygienic true in
theorem Ah1(ok:AL c d){v:Ad}{a:CV}(hv:VR l v a):Aa c FX m l (call (.type "set") [v]) (JX a) (Sg c):=by
 unfold JX
 split
 ·refine AG hv.ref_inv ?_;rintro _ rfl hl ha;refine Aa.getList (.ref hl ha) λcs ws k hs hz z hm hr => ?_
  split
  ·rename_i L hL;refine Au (Ah0 hL hr) ?_;rintro hlen hval;intro s Q E st okk _ _;have hsz:ws.size=L.length:=by rw[<- DC];exact hlen.symm
   refine AhO (val:=λi=>L.getD i 0) ok.handled (st.isList hm) (λi v h => ?_) (λi hi => ?_) λh' tk hS hk => ?_
   ·refine Ah (hval i v (by rw[Mh];exact h)) ?_;rintro t h1 _
    exact⟨t,h1⟩
   ·refine Ah (hval i ws[i] (by rw[Mh];simp[hi])) ?_;rintro t _ h2
    exact h2
   ·refine CP hS ?_;clear hS;rintro es ep moves hvs R ho;rw[hsz]at hvs R ho;have keep:∀b o,s.heap.get? b=some o->h'.get? b=some o:=λb o e=>hk b o (BE e) e;have F':=st.fr.keeps keep;have fr:∀p∈l.Φ,p.1≠s.heap.objs.size:=λp hp=>Cb (BE (st.nw p hp).1);refine BS (st.addJ (D:=s.heap.objs.size) F' (λp hp=>by
     rcases AV.mp hp with rfl | hp
     ·refine⟨ho,Mo st.fr.ns.lt,?_⟩;rcases q:c.h₀.get? s.heap.objs.size with _ | o
      ·rfl
      ·exact absurd (BE (st.fr.keep _ _ q)) (BX _)
     ·exact⟨keep _ _ (st.nw p hp).1,(st.nw p hp).2⟩) fr) ?_;rintro l1 e1 st1 x1 o1
    exact okk (HC L) l1 _ h' tk (by rw[e1];rfl) st1 x1 ⟨_,es,ep,moves,rfl,hvs,R,o1⟩
  ·exact Aa.stuck
 ·exact Aa.stuck
theorem Ah2:∀{vs:List Ad} {A:List (Int×Ad)},vs.length=A.length->(∀(j:Nat) (v:Ad),vs[j]? = some v->∃e,A[j]? = some e/\v=e.2)->(∀e∈A,∃t,e.2=Hn e.1 t)->JF vs (A.map (·.1)):=by
 intro vs A
 induction A generalizing vs with
 | nil =>
  intro hl _ _;rcases vs with _ | ⟨_,_⟩
  ·exact .nil
  ·exfalso;injection hl
 | cons e A ih =>
  intro hl hj ht;rcases vs with _ | ⟨v,vs⟩
  ·exfalso;injection hl
  ·refine Ah (hj 0 v rfl) ?_;rintro e' h1 h2;rw[Abo]at h1;injection h1 with za;subst za
   refine AK (ht e (.head _)) ?_;rintro t h3;rw[h2,h3];exact .cons _ _ (ih (AbI hl) (λj w hw=>hj (j+1) w hw) λe he=>ht e (.tail _ he))
theorem Ah3(ok:AL c d){v:Ad}{L:List Nat}(hv:Sg c l v L):Aa c FX m l (call (.builtin "sorted") [v]) (MW L) VR:=by
 refine Q44 hv ?_;clear hv;rintro S es ep moves rfl hvs R ho;unfold MW;refine Aa.newL λhz s Q E st q => ?_;have hX:Ja s.heap S (Dj c.w) L es ep:=⟨moves,hvs,R,(st.nw _ ho.1).1⟩;have h7:=JW hvs;refine kdu_sorted (AhX (vs:=L) (es:=es) (ep:=ep)) ok.handled st.fr st.nw hX (by rw[F9];exact AfI h7) λD h' tk vs F' N' fr hl' hj => ?_
 have I:JF vs ((Fi c.w S ep es).toList.map (·.1)):=Ah2 (hl'.trans ((Pt (w:=c.w) (r:=S) (ep:=ep) R).symm.trans DC.symm)) (λj v hv=>by
  refine Ah (hj j v hv) ?_;rintro e h1 h2;exact⟨e,by rw[Mh];exact h1,h2⟩) λe he=>R.2 e ((Se c.w S ep es).mem_iff.mp he)
 refine ksk_lsort F' N' (λo=>.head λp hp=>Cb (fr p hp)) (by simp) I (by rw[AJ,DC,Pt R];exact Ww h7) λvs' ns' k' h2 F2 N2 I' z hp hs' z => ?_
 have e:ns'=L.map λv=>((v:Nat):Int):=by
  refine lks_uniq (hp.trans ?_) hs' (AhZ hvs);have:=(Se c.w S ep es).map (·.1);rw[R.1]at this;exact this
 subst e;have V:=Pk (l:=l) I';rw[C5]at V;exact q D h2 k' tk _ F2 N2 fr V
noncomputable def XH(f:Expr->CM CV)(e:Expr):CM CV:=bnd (bnd (f e) JX) MW
theorem Ah4(ok:AL c d)(g:Bs c.K Γ)(eo:Ck c env){f:Expr->CM CV}(h:Bz c FX m env l f){p p2 pos pos2:Pos}{e:Expr}(hb:C1 Γ env.scope.names "set" (.type "set")=true)(hl:C1 Γ env.scope.names "sorted" (.builtin "sorted")=true)(hn:Dh e=false) :
  Aa c FX m l (eval (.Call (.Name "sorted" p) [.Call (.Name "set" p2) [e] [] pos2] [] pos) env) (XH f e) VR:=by
 have inner:Aa c FX m l (eval (.Call (.Name "set" p2) [e] [] pos2) env) (bnd (f e) JX) (Sg c) :=
  JV ok g eo hb ⟨_,.inr rfl⟩ (by unfold noStar;rw[hn];rfl) (MT hn (h.here e)) λvs r l' x ⟨v,e,hr⟩=>by subst e;exact Ah1 ok hr
 refine JV ok g eo hl ⟨_,.inl rfl⟩ rfl (MT rfl inner) λvs r l' x zz => ?_;refine Ah zz ?_;clear zz;rintro v e hr;exact(by subst e;exact Ah3 ok hr)
end
end
section
set_option maxHeartbeats 4000000
theorem Ah5:typeLookup (.type "list") "keys" = pure none:=by rw[AbS,AbT];kernel_rfl
section
variable {prog:CJ}{w:BK}{A:CK}{E:Ad->Aq->Prop}{s:Aq}{a:Af}{o:AU}{xs:Array Ad}{k:Nat}
theorem Ah6{Q:Option Ad->Aq->Prop}(hx:s.heap.get? a=some o)(hc:o.cls=.type "list")(hdat:o.data=.seq xs k)(hd:o.dict=none)(hA:A.handled=none)
  (h:∀h' tk,(∀b o,s.heap.get? b=some o->h'.get? b=some o)->Q none (put s h' tk)):wpAny (model prog w) A (getAttr? (.ref a) "keys") Q E s:=by
 rcases o with⟨c,dct,dat,sl⟩
 simp only at hc hdat hd;subst hc hdat hd;rcases s with⟨hp,g,d,tk,os⟩
 have hT:∀tk',(⟨hp,g,d,tk',os⟩:Aq).TypeIs (.ref a) "list" := λz=>⟨_,hx,rfl⟩;have f3:=AbY.lookup;have f4:=AbY.bind (.ref a);have f5:=am_list_getattr_none;unfold getAttr?;refine Aj (AbZ ?_);unfold getAttrBy?;refine Aj (Ri ?_);unfold getAttrBy;refine Dp (Aj (OI (hT _) ?_));rw[f3];refine Aj (AD ?_);dsimp only;rw[if_neg (by decide +kernel)]
 unfold getAttrByItsOwn;refine Aj (AD (Aj (Ri (Dp ?_))));unfold Aqg;rw[if_neg (by decide)]
 unfold Aqh;rw[f4];refine Aj (AD ?_);show wpAny _ _ (call (.builtin "list.__getattribute__") [.ref a,.str "keys" tk]) _ _ _;refine call_meets AbY (hT _) am_entry_list_getattribute (F.args_list_getattribute_2 _ _) (meets_getattribute_miss_list a xs k sl "keys" _ Ah5 (by decide +kernel) (by size_fits)) ⟨hx,hA,λh' tk' e hn => ?_⟩
 refine HY hn.there ?_;rintro t u he;have ht:∀tk',(⟨h',g,d,tk',os⟩:Aq).TypeIs (.ref e) "AttributeError" := λz=>⟨_,he,rfl⟩;show wpAny _ _ (Aqi _ _ _ _ _ _ _) _ _ _;unfold Aqi;refine Aj (OJ (ht _) Aqj ?_);rw[if_pos rfl];unfold hookBehind;rw[if_neg (by decide)]
 rw[f5];refine Aj (AD ?_);unfold hookOrError;dsimp only;unfold attributeErrorLeaves;dsimp only;rw[if_pos (show(!false)=true from rfl)];refine Aj (wpAny_throw ?_);refine Aj (OJ (ht _) Aqj ?_);rw[if_pos rfl];exact AD (h _ _ hn.keeps)
end
end
section
set_option maxHeartbeats 1000000
noncomputable def Fj(PV:List (Int×Ad)):Nat->List (Int×Ad)
 | 0=>[]
 | i+1=>match PV[i]? with
  | some p=>PySem.stored (Fj PV i) p.1 p.2
  | none=>Fj PV i
theorem Sh:∀(PV:List (Int×Ad)) (i:Nat),Fj PV i.succ=match PV[i]? with | some p=>stored (Fj PV i) p.fst p.snd | none=>Fj PV i:=by intros;rfl
theorem XI:entryFor table "dict.update.loop" = some Builtin.«dict.update.loop»:=Ap6 (by kernel_rfl)
theorem Pu:plainId "dict.update.loop" = true:=by decide +kernel
theorem Ah7(kvs:List (Int×Ad))(k:Int)(v:Ad):(PySem.stored kvs k v).length<=kvs.length+1:=by
 unfold PySem.stored
 split<;>simp
theorem Ah8(PV:List (Int×Ad)):∀i,(Fj PV i).length<=i:=by
 intro z1
 induction z1 with
 | zero =>
  exact AM _
 | succ i ih =>
  rw[Sh]
  split
  ·exact AE (Ah7 _ _ _) (FA (ih))
  ·exact Apl (ih)
section
variable {prog:CJ}{w:BK}{A:CK}{R:Hc->Aq->Prop}{I:Af}{fp wr:List Af}{G:Array Oh->Array Oh->Prop}{n:Nat}{St:Nat->Aq->Prop}
theorem Ah9{H0:Bb}{PV:List (Int×Ad)}(W:WalksS prog w A.in1 I fp wr G n (λi v=>items[i]? = some v) St)(d:Af)(hdf:d∉fp)(hd0:H0.get? d=none)(hw0:∀b∈wr,H0.get? b=none)
  (hP:∀(i:Nat) (v:Ad),items[i]? = some v->∃t kk k tk x,v=CZ t/\H0.get? t=some (Cy [Hn k tk,x] kk)/\PV[i]? = some (k,x)) (hn:n<=1000) :
  ∀(k i:Nat) (s:Aq) (it:Tok),n-i=k->i<=n->St i s->(∀b o,H0.get? b=some o->s.heap.get? b=some o)->s.heap.DictOf (intKind prog w) d (Fj PV i) ->
   (∀s',Moved (d::wr) G s s'->s'.heap.DictOf (intKind prog w) d (Fj PV n)->R (.ok (.ret .none)) s') ->
   codeAny (model prog w) A (.builtin "dict.update.loop" ⟨[.ref d,.ref I,.int (i:Int) it,.none],[]⟩) R s:=by
 have hdw:d∉wr:=λh=>hdf (W.sub _ h);have hsub:∀b∈wr,b∈d::wr:=λb hb=>Ga _ hb;intro k
 induction k with
 | zero =>
  intro i s it hk hi hst hH hD hR;have hin:i=n:=WK hk hi;subst hin;refine OG XI ?_;rw[Rd Pu _];unfold Builtin.«dict.update.loop»;refine Aj (W.done s _ _ hst λs' hm => ?_);refine Aj (AD (AD (hR s' (hm.mono hsub) ?_)));refine Ep hD ?_;clear hD;rintro o es ep ho r;exact⟨o,es,ep,hm.heap d _ hdw ho,r⟩
 | succ k ih =>
  intro i s it hk hi hst hH hD hR;have hlt:i<n:=WJ hk;refine OG XI ?_;rw[Rd Pu _];unfold Builtin.«dict.update.loop»;refine Aj (W.item i s _ _ hlt hst λv s' hv hst' hm => ?_);refine OY (hP i v hv) ?_;rintro t kk key tk x rfl ht hpv;have hH':∀b o,H0.get? b=some o->s'.heap.get? b=some o:=λb o e=>hm.heap b o (λq=>by rw[hw0 b q]at e;(exfalso;injection e)) (hH b o e)
  have hD':s'.heap.DictOf (intKind prog w) d (Fj PV i):=by
   refine Ep hD ?_;clear hD;rintro o es ep ho r;exact⟨o,es,ep,hm.heap d _ hdw ho,r⟩
  have hT:s'.TypeIs (.ref t) "tuple" := ⟨_,hH' _ _ ht,rfl⟩;have hlen:(Fj PV i).length<=sizeLine:=by
   have:=Ah8 PV i;rw[F9];exact AfK hn hlt this
  refine Aj (Dp ?_);refine Aj (wpAny_tryCatch ?_);unfold Builtin.Dict.pairItems;refine Aj (OI hT ?_);rw[if_pos (by decide)]
  refine Aj (wpAny_seqItems (hH' _ _ ht) rfl (AD ?_));show wpAny _ _ (holding [Hn key tk,x] (dictSet d (.int key tk) x)) _ _ _;refine Dp ?_;unfold dictSet;refine Dp (Aj ((intKind prog w).pyHash (k:=key) (OD _ _ _ _) ?_));refine wpAny_dictSetHashed_pairs (knd:=intKind prog w) (s:={ s' with toks:=s'.toks+1 }) (OD _ _ _ _) hD' (λh' hd' hsb => ?_) hlen
  have hD2:h'.DictOf (intKind prog w) d (Fj PV (i+1)):=by
   rw[Sh];rw[hpv];exact hd'
  refine AD ⟨Vr Pu _,?_⟩;show codeAny _ _ (.builtin "dict.update.loop" ⟨[.ref d,.ref I,.int ((i:Int)+1) 0,.none],[]⟩) _ _;rw[show((i:Int)+1)=((i+1:Nat):Int)from rfl];refine ih (i+1) _ _ (WI hk) hlt (W.frame _ s' _ _ hst' (HU _) λb hb o e => ?_) (λb o e => ?_) hD2 λs'' hm'' hD'' => ?_
  ·rw[hsb.2 b (λh:b=d=>hdf (h▸hb))];exact e
  ·rw[hsb.2 b (λh:b=d=>by rw[h,hd0]at e;(exfalso;injection e))];exact hH' b o e
  ·refine hR s'' (Moved.trans W.gtrans ((hm.mono hsub).then_heap (HU _) λb o hb e => ?_) hm'') hD'';rw[hsb.2 b (λh:b=d=>hb (by rw[h];exact Dq))];exact e
end
section
variable {prog:CJ}{w:BK}{A:CK}{E:Ad->Aq->Prop}{s:Aq}
theorem Aia{l:Af}{kk0:Nat}{PV:List (Int×Ad)}(hh:A.handled=none)(hl:s.heap.get? l=some (listOf items kk0))
  (hP:∀(i:Nat) (v:Ad),items[i]? = some v->∃t kk k tk x,v=CZ t/\s.heap.get? t=some (Cy [Hn k tk,x] kk)/\PV[i]? = some (k,x)) (hn:items.size<=1000)
  (h:∀(h':Bb) (tk:Nat),h'.DictOf (intKind prog w) s.heap.objs.size (Fj PV items.size)->(∀b o,s.heap.get? b=some o->h'.get? b=some o)->Q (.ref s.heap.objs.size) (put s h' tk)) :
  wpAny (model prog w) A (call (.type "dict") [.ref l]) Q E s:=by
 refine callType_codes (Q₁:=λobj s₁=>obj=.ref s.heap.objs.size/\s₁={ s with heap:=s.heap.push { cls:=.type "dict",data:=.dict #[] } }) F.kt_called_dict (F.kt_typeCall_dict_1 _) F.entry_dict_init (kt_code_dict_new _ ⟨rfl,rfl⟩) ?_
 rintro obj s₁ ⟨rfl,rfl⟩;have hnew:(s.heap.push { cls:=.type "dict",data:=.dict #[] }).DictOf (intKind prog w) s.heap.objs.size []:=Heap.DictOf.new s.heap;have hl1:(s.heap.push { cls:=.type "dict",data:=.dict #[] }).get? l=some (listOf items kk0):=Eo _ hl;have hT:AbQ { s with heap:=s.heap.push { cls:=.type "dict",data:=.dict #[] } } (.ref l) "list" := ⟨_,hl1,rfl⟩
 refine⟨hnew.typeIs,F.args_dict_init_2 _ _,?_⟩;unfold Builtin.«dict.__init__»;refine Aj ?_;unfold Builtin.Dict.selfAndRest;refine Aj (wpAny_notOrdered_dict hnew.typeIs ?_);show wpAny _ _ (Om (s.heap.objs.size,[CZ l])) _ _ _;refine AD ?_;show wpAny _ _ (Aqk "dict.__init__" s.heap.objs.size (.ref l) [] .none) _ _ _;unfold Aqk;refine Aj (OI hT ?_);rw[if_pos (by decide)]
 refine Aj (Ah6 (A:=A.in1.in1) hl1 rfl rfl rfl (by simp[hh]) λh' tk hk => ?_)
 rw[if_pos (show(none:Option Ad).isNone=true from rfl)];refine Aj (AbJ ?_);have hl2:h'.IsList l items:=⟨_,hk _ _ hl1,rfl,_,rfl⟩;refine Aj (AbR (s:=(put s h' tk)) hl2 ?_);have hlS:l<s.heap.objs.size:=BE hl;have hsz:s.heap.objs.size<h'.objs.size:=BE (hk _ _ (JG _ rfl));have hne:l≠h'.objs.size:=Cb (Mm hlS hsz);refine AD ⟨Vr Pu _,?_⟩;have hH:∀b o,s.heap.get? b=some o->(h'.push { cls:=.type "list_iterator",data:=.fields #[.ref l,.int 0 0] }).get? b=some o:=λb o e=>Eo _ (hk _ _ (Eo _ e));have hh3:A.in1.in1.handled=none:=by simp[hh]
 refine Ah9 (H0:=s.heap) (PV:=PV) (items:=items) ((Walks.list hh3 _ l hne items).toS) s.heap.objs.size ?_ (Aql (AM _)) (λb hb => ?_) hP hn (items.size-0) 0 _ 0 (WH) (GG _) ⟨⟨_,JG _ rfl,rfl,rfl⟩,hl2.push _⟩ hH ?_ λs' hm hD => ?_
 ·simp only[AV,Mn,or_false,not_or];exact⟨Cb hsz,Mo hlS⟩
 ·rw[Cx.mp hb];exact Aql (DI hsz)
 ·exact(Heap.DictOf.keep hnew hk).push _
 ·rcases s' with⟨h2,g',d',tk',os'⟩
  have eg:g'=s.gens:=hm.gens;have ed:d'=s.drawn:=hm.drawn;have eo:os'=s.os:=hm.os;subst eg;subst ed;subst eo;refine⟨rfl,h h2 tk' hD λb o e=>hm.heap b o ?_ (hH b o e)⟩;simp only[AV,Mn,or_false,not_or];exact⟨Cb (BE e),Cb (Mm (BE e) hsz)⟩
end
noncomputable def Pw:CV->Option (Int×CV)
 | .tup [.int k,v]=>some (k,v)
 | _=>none
set_option tactic.hygienic true in
theorem Aib{c v:CV}{k:Int}(h:Pw c=some (k,v)):c=.tup [.int k,v]:=by
 rcases c with⟨⟩<;>try exact(Ax h).elim
 rename_i cs;rcases cs with _ | ⟨a,r⟩
 ·exact(Ax h).elim
 ·rcases a with⟨⟩<;>try exact(Ax h).elim
  rcases r with _ | ⟨b,r⟩
  ·exact(Ax h).elim
  ·rcases r with _ | ⟨_,_⟩
   ·refine Au (D8 (Ay h)) ?_;rintro rfl rfl;rfl
   ·exact(Ax h).elim
noncomputable def Gn:List CV->Option (List (Int×CV))
 | []=>some []
 | c::r=>match Pw c with
  | some p=>(match Gn r with
   | some ps=>some (p::ps)
   | none=>none)
  | none=>none
theorem Aic{c:CV}{r:List CV}{ps:List (Int×CV)}(h:Gn (c::r)=some ps):∃k v qs,c=.tup [.int k,v]/\Gn r=some qs/\ps=(k,v)::qs:=by
 have h:(match Pw c with
  | some p=>(match Gn r with
   | some ps=>some (p::ps)
   | none=>none)
  | none=>none)=some ps:=h
 rcases q:Pw c with _ | p
 ·rw[q]at h;exact(Ax h).elim
 ·rcases p with⟨k,v⟩
  rw[q]at h;dsimp only at h;rcases q2:Gn r with _ | qs
  ·rw[q2]at h;exact(Ax h).elim
  ·rw[q2]at h;exact⟨k,v,qs,Aib q,rfl,(Ay h).symm⟩
noncomputable def Si(ps:List (Int×CV)):List (Int×CV):=ps.foldl (λes p=>EY es p.1 p.2) []
noncomputable def Px(a:CV):CM CV:=match a with
 | .ref n=>bnd (listC n) λcs=>match Gn cs with
  | some ps=>if ps.length<=1000 then λσ=>.ok (.ref σ.length) (σ++[.dict (Si ps)])else Ar
  | none=>Ar
 | _=>Ar
section
variable {c:FC}{FX:Bm}{m:Ac->Option Ad}{l l':Am}{d:Nat}{env:Env}{loc:Ao}{Γ:AP}
theorem Aid{h:Bb}(st:St c m l h){cs:List CV}{ps:List (Int×CV)}{ws:List Ad}(e:Gn cs=some ps)(hv:AA l ws cs):∃PV:List (Int×Ad),BJ l PV ps/\PV.length=ws.length /\
  ∀(i:Nat) (v:Ad),ws[i]? = some v->∃t kk k tk x,v=CZ t/\h.get? t=some (Cy [Hn k tk,x] kk)/\PV[i]? = some (k,x) :=
 hv.ind (P:=λws cs=>∀ps,Gn cs=some ps->∃PV:List (Int×Ad),BJ l PV ps/\PV.length=ws.length/\∀(i:Nat) (v:Ad),ws[i]? = some v->∃t kk k tk x,v=CZ t/\h.get? t=some (Cy [Hn k tk,x] kk)/\PV[i]? = some (k,x))
  (λps e=>by
   obtain rfl:=Ay e;exact⟨[],.nil,rfl,λi v h=>(Ax h).elim⟩) (λ{w ws cv cs} a _ ih ps e=>by
   refine CP (Aic e) ?_;rintro k v qs rfl e2 rfl;refine AG (ih qs e2) ?_;rintro PV h1 h2 h3;refine CP a.tup_inv ?_;rintro t vs kk rfl ho hq;refine Br hq.cons_inv ?_;rintro v1 w1 rfl ha hb;refine AK ha.int_inv ?_;rintro tk rfl;refine Br hb.cons_inv ?_;rintro v2 w2 rfl hb2 hn;obtain rfl:=hn.nil_inv;refine⟨_::PV,.cons hb2 h1,congrArg Abi h2,λi w hw => ?_⟩;rcases i with _ | j
   ·obtain rfl:=Ay hw;exact⟨_,_,_,_,_,rfl,(st.nw _ ho.1).1,rfl⟩
   ·exact h3 j w hw) ps e
theorem Aie:∀(ps:List (Int×CV)) (PV:List (Int×Ad)) (es:List (Int×CV)) (kv:List (Int×Ad)),BJ l PV ps->BJ l kv es->BJ l (PV.foldl (λa p=>PySem.stored a p.1 p.2) kv) (ps.foldl (λa p=>EY a p.1 p.2) es):=by
 intro ps PV es kv h
 induction h generalizing es kv with
 | nil=>exact λh=>h
 | cons hv r ih=>exact λh=>ih _ _ (h.stored hv _)
theorem Aif(PV:List (Int×Ad)):Fj PV PV.length=PV.foldl (λa p=>PySem.stored a p.1 p.2) []:=by
 have key:∀i,i<=PV.length->Fj PV i=(PV.take i).foldl (λa p=>PySem.stored a p.1 p.2) []:=by
  intro i
  induction i with
  | zero=>intro _;rfl
  | succ i ih =>
   intro hi;have hlt:i<PV.length:=hi;rw[Sh];rw[Ci hlt,Aqm hlt,ON,ih (DI hlt)];rfl
 rw[key _ (AM _),Ab0]
set_option tactic.hygienic true in
theorem Aig(ok:AL c d){v:Ad}{a:CV}(hv:VR l v a):Aa c FX m l (call (.type "dict") [v]) (Px a) VR:=by
 unfold Px
 split
 ·refine AG hv.ref_inv ?_;rintro _ rfl hl ha;refine Aa.getList (.ref hl ha) λcs ws k hs hz z hm hr => ?_
  split
  ·rename_i ps hp;refine Aa.guard λh1000 => ?_;intro s Q E st okk _ _;refine AG (Aid st hp hr) ?_;rintro PV h1 h2 h3;have hsz:ws.size=PV.length:=by rw[<- DC];exact h2.symm
   refine Aia (PV:=PV) ok.handled (st.nw _ hm).1 (λi v h=>h3 i v (by rw[Mh];exact h)) (by rw[hsz,h1.length];exact h1000) λh' tk hD keep => ?_
   rw[hsz,Aif]at hD;refine Ah (Oq.mp hD) ?_;rintro o ho hd;have F':=st.fr.keeps keep;have fr:∀p∈l.Φ,p.1≠s.heap.objs.size:=λp hp=>Cb (BE (st.nw p hp).1);have N':CL c.h₀ c.L h' ((s.heap.objs.size,o)::l.Φ):=λp hp=>by
    rcases AV.mp hp with rfl | hp
    ·refine⟨ho,Mo st.fr.ns.lt,?_⟩;rcases q:c.h₀.get? s.heap.objs.size with _ | o
     ·rfl
     ·exact absurd (BE (st.fr.keep _ _ q)) (BX _)
    ·exact⟨keep _ _ (st.nw p hp).1,(st.nw p hp).2⟩
   have hsys:(s.heap.objs.size == UZ)=false:=st.fr.notModules (modules_low (II ok.top).nolimit);refine BS (st.addL (co:=.dict (Si ps)) F' N' fr rfl λl' x hm ha=>⟨o,_,by rw[ha];exact hm,by rw[ha];exact hsys,hd,(Aie ps PV [] [] h1 .nil).mono x⟩) ?_;rintro l1 e1 st1 x1 v1
   exact okk _ l1 _ h' tk (by show B8.ok _ _=_;rw[e1]) st1 x1 v1
  ·exact Aa.stuck
 ·exact Aa.stuck
noncomputable def XJ(f:Expr->CM CV)(e:Expr):CM CV:=bnd (f e) Px
theorem Aih(ok:AL c d)(g:Bs c.K Γ)(eo:Ck c env){f:Expr->CM CV}(h:Bz c FX m env l f){p pos:Pos}{e:Expr}(hb:C1 Γ env.scope.names "dict" (.type "dict")=true)(hn:Dh e=false) :
  Aa c FX m l (eval (.Call (.Name "dict" p) [e] [] pos) env) (XJ f e) VR :=
 JV ok g eo hb ⟨_,.inr rfl⟩ (by unfold noStar;rw[hn];rfl) (MT hn (h.here e)) λvs r l' x ⟨v,e,hr⟩=>by subst e;exact Aig ok hr
end
end
section
inductive Cr where
 | lst (n:Nat)
 | tup (vs:List CV)
 | rng (a step:Int) (n:Nat)
 | enm (n:Nat)
noncomputable def listAt(σ:CH)(n:Nat):Option (List CV):=match σ[n]? with
 | some (.list vs)=>if small vs.length=true then some vs else none
 | _=>none
noncomputable def Ce(σ:CH)(i:Nat):Cr->Option (Option CV)
 | .lst n=>(listAt σ n).map λvs=>vs[i]?
 | .tup vs=>if small vs.length=true then some vs[i]? else none
 | .rng a c n=>if i<n then some (some (.int (a+i*c)))else some none
 | .enm n=>(listAt σ n).map λvs=>(vs[i]?).map λv=>.tup [.int i,v]
def Sj(o:AU)(a:Af)(i:Nat):Prop:=o.cls=.type "list_iterator" /\ o.data=.fields #[.ref a,.int i 0]
noncomputable abbrev Ll(it:Af)(i:Int)(old:Ad):AU:={ cls:=.type "enumerate",dict:=none,data:=.fields #[.none,.bool false,.ref it,rawInt i,.none,old],slots:=#[] }
noncomputable abbrev XK(x left step:Int):AU:={ cls:=.type "range_iterator",dict:=none,data:=.fields #[rawInt x,rawInt left,rawInt step],slots:=#[] }
def Gp(J:Af->Prop)(l:Am)(i:Nat)(I:Af):Cr->Prop
 | .lst n=>∃o,AS l (I,o)/\J I/\Sj o (l.ad n false) i/\n<l.σ.length
 | .tup vs=>∃o a ws k,AS l (I,o)/\J I/\o.cls=.type "tuple_iterator" /\ o.data=.fields #[.ref a,.int i 0]/\AS l (a,Cy ws k)/\AA l ws vs
 | .rng a c n=>AS l (I,XK (a+i*c) ((n:Int)-i) c)/\J I/\i<=n
 | .enm n=>∃it oi old,it≠I/\AS l (I,Ll it i old)/\J I/\AS l (it,oi)/\J it/\Sj oi (l.ad n false) i/\n<l.σ.length
section
variable {c:FC}{FX:Bm}{m:Ac->Option Ad}{l l':Am}{d:Nat}{env:Env}{loc:Ao}{Γ:AP}{J:Af->Prop}
theorem Gp.mono{src:Cr}(x:Ap D l l')(hd:∀a,J a->¬D a)(h:Gp J l i I src):Gp J l' i I src:=by
 rcases src with n | vs | ⟨a,cc,n⟩ | n
 ·refine BS h ?_;clear h;rintro o ho hj hl hn;exact⟨o,x.oth _ ho (.inr (hd _ hj)),hj,by rw[x.ad _ _ hn];exact hl,Fb hn x.len⟩
 ·refine OX h ?_;clear h;rintro o a ws k ho hj h1 h2 ht hv;exact⟨o,a,ws,k,x.oth _ ho (.inr (hd _ hj)),hj,h1,h2,x.oth _ ht (.inl ⟨_,_,rfl⟩),hv.mono x⟩
 ·exact⟨x.oth _ h.1 (.inr (hd _ h.2.1)),h.2⟩
 ·refine KV h ?_;clear h;rintro it oi old hne ho hj hi hj2 hl hn;exact⟨it,oi,old,hne,x.oth _ ho (.inr (hd _ hj)),hj,x.oth _ hi (.inr (hd _ hj2)),hj2,by rw[x.ad _ _ hn];exact hl,Fb hn x.len⟩
theorem St.oth_facts{h:Bb}{a:Af}(st:St c m l h)(ho:AS l (a,o)):h.get? a=some o/\a≠c.L/\c.h₀.get? a=none:=st.nw _ ho.1
theorem Am.turn{a:Af}(R:LR c.prog c.w l)(ho:AS l (a,o))(hc:∀vs k,o≠Cy vs k)(o':AU) :
  ∃l':Am,l'.σ=l.σ/\LR c.prog c.w l'/\Ap (·=a) l l'/\AS l' (a,o')/\∀p∈l'.Φ,p=(a,o')\/(p∈l.Φ/\p.1≠a):=by
 refine HY (Abk ho.1) ?_;rintro pre post e;have nd:=R.nd;rw[e,BP,Bo]at nd;have z:=F7.mp nd;have h1:∀p∈pre,p.1≠a:=λp hp q=>z.2.2 p.1 (Du (f:=(·.1)) hp) a (.head _) q;have h2:∀p∈post,p.1≠a:=λp hp q=>(Dv.mp z.2.1).1 (q▸Du (f:=(·.1)) hp);refine C6 (WQ (l':={ l with Φ:=pre++(a,o')::post }) R e h1 h2 ho hc rfl) ?_;rintro x R' o2
 refine⟨{ l with Φ:=pre++(a,o')::post },rfl,R',x,o2,λp hp => ?_⟩
 have hp':p∈pre++(a,o')::post:=hp;rw[e];rcases BM.mp hp' with hp | hp
 ·exact .inr ⟨Cg _ hp,h1 p hp⟩
 ·rcases AV.mp hp with rfl | hp
  ·exact .inl rfl
  ·exact .inr ⟨CC _ (.tail _ hp),h2 p hp⟩
theorem St.turnOth{h:Bb}{a:Af}(st:St c m l h)(ho:AS l (a,o))(hc:∀vs k,o≠Cy vs k)(hs:Vq a h h')(hg:h'.get? a=some o') :
  ∃l':Am,l'.σ=l.σ/\St c m l' h'/\Ap (·=a) l l'/\AS l' (a,o'):=by
 refine IL (Am.turn st.lr ho hc o') ?_;rintro l' e R x o2 hm;have z:=st.oth_facts ho;refine⟨l',e,⟨st.fr.change hs z.2.1 z.2.2,λp hp => ?_,R⟩,x,o2⟩;rcases hm p hp with rfl | ⟨q1,q2⟩
 ·exact⟨hg,z.2⟩
 ·have y:=st.nw p q1;exact⟨(hs.2 _ q2).trans y.1,y.2⟩
theorem Fr.but{h₀ h:Bb}{L a:Af}{m:Ac->Option Ad}(F:Fr h₀ L h m)(hs:Rk a h h')(hL:a≠L)(hn:h₀.get? a=none):Fr h₀ L h' m :=
 ⟨F.ns.extBut hs (ER hL),λb o e=>hs b o (λq=>by rw[q,hn]at e;(exfalso;injection e)) (F.keep b o e),F.above⟩
theorem St.dropOth'{h:Bb}{a:Af}(st:St c m l h)(ho:AS l (a,o))(hc:∀vs k,o≠Cy vs k)(hs:Rk a h h') :
  ∃l':Am,(∀q∈l'.Φ,q.1≠a)/\l'.σ=l.σ/\St c m l' h'/\Ap (·=a) l l':=by
 refine Br (st.split ho.1) ?_;rintro pre post e h1 h2;have z:=st.oth_facts ho;have mem:∀p∈l.Φ,p.1≠a->p∈pre++post:=λp hp hn=>by
  rw[e]at hp;rcases BM.mp hp with hp | hp
  ·exact Cg _ hp
  ·rcases AV.mp hp with rfl | hp
   ·exact absurd rfl hn
   ·exact CC _ hp
 have sub:∀p∈pre++post,p∈l.Φ/\p.1≠a:=λp hp=>by
  rw[e];rcases BM.mp hp with hp | hp
  ·exact⟨Cg _ hp,h1 p hp⟩
  ·exact⟨CC _ (.tail _ hp),h2 p hp⟩
 have x:Ap (·=a) l { l with Φ:=pre++post }:=by
  refine⟨AM _,λj o h=>⟨o,h,rfl⟩,λj j j=>rfl,λp hp hq=>⟨mem p hp.1 λea => ?_,hp.2⟩⟩;rcases hq with hq | hq
  ·have:p=(a,o):=by
    have hp1:=hp.1;rw[e]at hp1;rcases BM.mp hp1 with z | z
    ·exact absurd ea (h1 p z)
    ·rcases AV.mp z with rfl | z
     ·rfl
     ·exact absurd ea (h2 p z)
   subst this;refine HY hq ?_;clear hq;rintro vs k hq;exact hc vs k hq
  ·exact hq ea
 refine⟨{ l with Φ:=pre++post },λp hp=>(sub p hp).2,rfl,⟨Fr.but st.fr hs z.2.1 z.2.2,λp hp => ?_,?_⟩,x⟩
 ·refine Au (sub p hp) ?_;rintro q1 q2;have y:=st.nw p q1;exact⟨hs _ _ q2 y.1,y.2⟩
 ·refine⟨?_,st.lr.inj,λi co h=>OR.mono x (DT.mp h).1 (st.lr.obj i co h) λb ob hb hm=>mem _ hm λea=>ho.2 i b ⟨co,h,hb⟩ ea⟩;have nd:=st.lr.nd;rw[e]at nd;rw[BP,Bo]at nd;rw[BP];have z:=F7.mp nd;refine F7.mpr ⟨z.1,(Dv.mp z.2.1).2,λx hx y hy=>z.2.2 x hx y (.tail _ hy)⟩
theorem St.dropOth{h:Bb}{a:Af}(st:St c m l h)(ho:AS l (a,o))(hc:∀vs k,o≠Cy vs k)(hs:Rk a h h') :
  ∃l':Am,l'.σ=l.σ/\St c m l' h'/\Ap (·=a) l l' :=
 let ⟨l',_,e,st',x⟩:=st.dropOth' ho hc hs
 ⟨l',e,st',x⟩
theorem Sk{A:CK}{T:String}{vs:Array Ad}{Q:Unit->Aq->Prop}(ho:s.heap.get? I=some o)(hc:o.cls=.type T)(hd:o.data=.fields vs)
  (hT:(["enumerate","zip","dict_itemiterator","dict_reverseitemiterator","odict_iterator","itertools.zip_longest","itertools.pairwise"].contains T)=false) (hQ:Q () s) :
  wpAny c.M A (Ab1 target (.ref I) v) Q E s:=by
 have key:wpAny c.M A (do
   let (.ref r,.ref a):=(CZ I,v) | return
   let o <- load r
   match o.cls,o.data with
   | .type n,.fields vs =>
    if["enumerate","zip","dict_itemiterator","dict_reverseitemiterator","odict_iterator","itertools.zip_longest","itertools.pairwise"].contains n && vs[0]? == some (rawInt a)then
     rule "for.unpacks-the-owned-tuple"
     updateField r 0 .none
   | _,_=>pure ():Sem Unit) Q E s:=by
  rcases v with _ | _ | _ | _ | _ | a
  case ref =>
   refine Aj (Ab2 ho ?_);rw[hc,hd];show wpAny _ A (if _=true then _ else _) Q E s;rw[hT];exact AD hQ
  all_goals exact AD hQ
 rcases target with⟨⟩<;>first | exact key | exact AD hQ
def Aii(c:FC)(m:Ac->Option Ad)(J:Af->Prop)(l:Am)(i:Nat)(I:Af)(src:Cr)(s:Aq)(cv:CV)(v:Ad)(s₂:Aq):Prop :=
 ∃l' h' tk,s₂=(put s h' tk)/\St c m l' h'/\Ap J l l'/\l'.σ=l.σ/\Gp J l' (i+1) I src/\VR l' v cv
noncomputable def Py(e:Expr):Bool:=(FI e).isSome
noncomputable def HD(t:Expr):Cr->Bool
 | .enm _=>Py t
 | _=>true
set_option tactic.hygienic true in
theorem St.listAt{h:Bb}{vs:List CV}(st:St c m l h)(hn:n<l.σ.length)(e:Mine.Internal.listAt l.σ n=some vs):∃ws k,(l.ad n false,listOf ws k)∈l.Φ/\AA l ws.toList vs:=by
 unfold Mine.Internal.listAt at e
 split at e
 ·rename_i vs' hs
  split at e
  ·injection e with za;subst za
   exact st.list (.ref hn rfl) hs
  ·exfalso;injection e
 ·exfalso;injection e
set_option tactic.hygienic true in
theorem XM{E₀ E₁:Ad->Aq->Prop}{src:Cr}{Q:Option Ad->Aq->Prop}{Q2:Ad->Aq->Prop}(st:St c m l s.heap)(hi:Gp J l i I src)(hf:HD target src=true)(e:Ce l.σ i src=some (some cv))
  (hq:∀v s₂,Aii c m J l i I src s cv v s₂->Q2 v s₂) (hQ:∀v s₁,wpAny c.M c.A (Ab1 target (.ref I) v) (λj s₂=>Q2 v s₂) E₁ s₁->Q (some v) s₁) :
  wpAny c.M c.A (pyNext (.ref I)) Q E₀ s:=by
 rcases src with n | vs | ⟨a,cc,n⟩ | n
 ·refine BS hi ?_;clear hi;rintro o ho hj ⟨hc,hd⟩ hn;simp only[Ce]at e;refine Ah (HS.mp e) ?_;rintro vs e1 e2;refine Bg (st.listAt hn e1) ?_;rintro ws k hm hr;refine Ah (hr.get e2) ?_;rintro v hv hvr;have z:=st.oth_facts ho;refine wpAny_pyNext_list_item (x:=v) ⟨o,z.1,hc,hd⟩ (st.isList hm) (by simpa using hv) λh' hit' hs' => ?_
  refine AG hit' ?_;clear hit';rintro o' ho' hc' hd';refine BS (st.turnOth ho (K4 (by rw[hc];decide)) hs' ho') ?_;rintro l' e' st' x oo
  refine hQ _ _ (Sk (s:={ s with heap:=h' }) ho' hc' hd' (by decide) (hq _ _ ⟨l',h',s.toks,rfl,st',x.widen λa q=>q▸hj,e',⟨o',oo,hj,⟨hc',?_⟩,?_⟩,hvr.mono x⟩))
  ·rw[x.ad _ _ hn];exact hd'
  ·rw[e'];exact hn
 ·refine OX hi ?_;clear hi;rintro o a ws k ho hj hc hd ht hr;simp only[Ce]at e
  split at e
  ·have e2:=Ay e;refine Ah (hr.get e2) ?_;rintro v hv hvr;have z:=st.oth_facts ho;refine wpAny_pyNext_tuple_item (x:=v) ⟨o,z.1,hc,hd⟩ ⟨_,(st.nw _ ht.1).1,rfl,_,rfl⟩ (by simpa using hv) λh' hit' hs' => ?_
   refine AG hit' ?_;clear hit';rintro o' ho' hc' hd';refine BS (st.turnOth ho (K4 (by rw[hc];decide)) hs' ho') ?_;rintro l' e' st' x oo
   exact hQ _ _ (Sk (s:={ s with heap:=h' }) ho' hc' hd' (by decide) (hq _ _ ⟨l',h',s.toks,rfl,st',x.widen λa q=>q▸hj,e',⟨o',a,ws,k,oo,hj,hc',hd',x.oth _ ht (.inl ⟨_,_,rfl⟩),hr.mono x⟩,hvr.mono x⟩))
  ·exfalso;injection e
 ·refine C6 hi ?_;clear hi;rintro ho hj hle;simp only[Ce]at e
  split at e
  ·rename_i hlt;injection e with za;injection za with za;subst za
   have z:=st.oth_facts ho;refine wpAny_pyNext_range_item z.1 (Afh hlt) λh' hit' hs' => ?_;refine BS (st.turnOth ho (GN rfl) hs' hit') ?_;rintro l' e' st' x oo;refine hQ _ _ (Sk (s:=(put s h' (s.toks+1))) hit' rfl rfl (by decide) (hq _ _ ⟨l',h',_,rfl,st',x.widen λa q=>q▸hj,e',⟨?_,hj,hlt⟩,.int _ _⟩))
   have e1:a+((i+1:Nat):Int)*cc=a+(i:Int)*cc+cc:=by push_cast;rw[Int.add_mul,Int.one_mul,Int.add_assoc]
   have e2:(n:Int)-((i+1:Nat):Int)=(n:Int)-(i:Int)-1:=by push_cast;exact Afg
   rw[e1,e2];exact oo
  ·injection e with za;exfalso;injection za
 ·refine KV hi ?_;clear hi;rintro it oi old hne ho hj hoi hj2 ⟨hc,hd⟩ hn;simp only[Ce]at e;refine Ah (HS.mp e) ?_;rintro vs e1 e2;refine Ah (HS.mp e2) ?_;rintro cx e3 e4;refine Bg (st.listAt hn e1) ?_;rintro ws k hm hr;refine Ah (hr.get e3) ?_;rintro v hv hvr;have z:=st.oth_facts ho;have zi:=st.oth_facts hoi;subst e4;refine wpAny_pyNext_enum_item (x:=v) z.1 ⟨oi,zi.1,hc,hd⟩ (st.isList hm) (by simpa using hv) (ER hne) λh' heo hit' ht' hz' hk' => ?_
  refine AG hit' ?_;clear hit';rintro oi' hoi' hci' hdi';refine hQ _ _ ?_;refine AK (KN.mp (show(FI target).isSome=true from hf)) ?_;rintro⟨elts,x1,pos⟩ hq;obtain rfl:target=.Tuple elts x1 pos:=MC hq;clear hq hf;refine wpAny_letOwnedTupleGo_enum (s:=(put s h' (s.toks+1))) heo λh2 he2 hs2=>hq _ _ ?_;have hlt:=BE z.1;have hlti:=BE zi.1;have gi:h2.get? it=some oi':=(hs2.2 it hne).trans hoi';have gt:h2.get? s.heap.objs.size=some (Cy [.int i s.toks,v] 0):=(hs2.2 _ (Mo hlt)).trans ht';refine IL (Am.turn st.lr ho (GN rfl) (Ll it ((i:Int)+1) v)) ?_;rintro l1 s1 R1 x1 o1 m1;refine IL (Am.turn R1 (x1.oth _ hoi (.inr hne)) (K4 (by rw[hc];decide)) oi') ?_;rintro l2 s2 R2 x2 o2 m2
  have x12:Ap J l l2:=(x1.widen λa q=>q▸hj).trans (x2.widen λa q=>q▸hj2);have old:∀p∈l2.Φ,p.1<s.heap.objs.size:=λp hp=>by
   rcases m2 p hp with rfl | ⟨q1,_⟩
   ·exact hlti
   ·rcases m1 p q1 with rfl | ⟨q1,_⟩
    ·exact hlt
    ·exact BE (st.nw p q1).1
  have keep:∀b o,b≠I->b≠it->s.heap.get? b=some o->h2.get? b=some o:=λb o q1 q2 q=>(hs2.2 b q1).trans (hk' b o q1 q2 q);have F2:Fr c.h₀ c.L h2 m:=⟨st.fr.ns.at' λo q=>keep _ o (ER z.2.1) (ER zi.2.1) q,λb o q=>keep b o (λe=>by rw[e,z.2.2]at q;(exfalso;injection q)) (λe=>by rw[e,zi.2.2]at q;(exfalso;injection q)) (st.fr.keep b o q),st.fr.above⟩
  have N2:CL c.h₀ c.L h2 l2.Φ:=λp hp=>by
   rcases m2 p hp with rfl | ⟨q1,q2⟩
   ·exact⟨gi,zi.2⟩
   ·rcases m1 p q1 with rfl | ⟨q1,q3⟩
    ·exact⟨he2,z.2⟩
    ·have y:=st.nw p q1;exact⟨keep _ _ q3 q2 y.1,y.2⟩
  have st2:St c m l2 h2:=⟨F2,N2,R2⟩;have N3:CL c.h₀ c.L h2 ((s.heap.objs.size,Cy [.int i s.toks,v] 0)::l2.Φ):=λp hp=>by
   rcases AV.mp hp with rfl | hp
   ·refine⟨gt,λq => ?_,?_⟩
    ·refine Ep st.fr.ns ?_;rintro oL _ _ hoL _;exact absurd (BE hoL) (by rw[<- q];exact BX _)
    ·rcases q:c.h₀.get? s.heap.objs.size with _ | o
     ·rfl
     ·exact absurd (BE (st.fr.keep _ o q)) (BX _)
   ·exact N2 p hp
  refine BS (st2.addTup F2 N3 old (.cons (.int (i:Int) s.toks) (.cons (hvr.mono x12) .nil))) ?_;rintro l3 e3 st3 x3 v3;refine⟨l3,h2,_,rfl,st3,x12.trans x3.weaken,by rw[e3,s2,s1],⟨it,oi',v,hne,x3.all (x2.oth _ o1 (.inr (ER hne))),hj,x3.all o2,hj2,⟨hci',?_⟩,?_⟩,v3⟩
  ·rw[(x12.trans x3.weaken).ad _ _ hn];exact hdi'
  ·rw[e3,s2,s1];exact hn
set_option tactic.hygienic true in
theorem XN{E₀:Ad->Aq->Prop}{src:Cr}{Q:Option Ad->Aq->Prop}(hh:c.A.handled=none)(st:St c m l s.heap)(hi:Gp J l i I src)(e:Ce l.σ i src=some none)
  (hQ:∀l' h' tk,St c m l' h'->Ap J l l'->l'.σ=l.σ->Q none (put s h' tk)):wpAny c.M c.A (pyNext (.ref I)) Q E₀ s:=by
 rcases src with n | vs | ⟨a,cc,n⟩ | n
 ·refine BS hi ?_;clear hi;rintro o ho hj ⟨hc,hd⟩ hn;simp only[Ce]at e;refine Ah (HS.mp e) ?_;rintro vs e1 e2;refine Bg (st.listAt hn e1) ?_;rintro ws k hm hr;have z:=st.oth_facts ho;have hl:=hr.size;have hv:ws[i]? = none:=by
   rw[Rl]at e2;rw[Ab3];exact RM e2 hl
  refine wpAny_pyNext_list_end hh ⟨o,z.1,hc,hd⟩ (st.isList hm) hv λh' hs' => ?_;refine AG (st.dropOth ho (K4 (by rw[hc];decide)) hs') ?_;rintro l' e' st' x
  exact hQ l' h' s.toks st' (x.widen λa q=>q▸hj) e'
 ·refine OX hi ?_;clear hi;rintro o a ws k ho hj hc hd ht hr;simp only[Ce]at e
  split at e
  ·have e2:=Ay e;have z:=st.oth_facts ho;have hl:=hr.length;have hv:ws.toArray[i]? = none:=by
    rw[Rl]at e2;rw[Ab3];simp;exact RM e2 hl
   refine wpAny_pyNext_tuple_end hh ⟨o,z.1,hc,hd⟩ ⟨_,(st.nw _ ht.1).1,rfl,_,rfl⟩ hv λh' hs' => ?_;refine AG (st.dropOth ho (K4 (by rw[hc];decide)) hs') ?_;rintro l' e' st' x
   exact hQ l' h' s.toks st' (x.widen λa q=>q▸hj) e'
  ·exfalso;injection e
 ·refine C6 hi ?_;clear hi;rintro ho hj hle;simp only[Ce]at e
  split at e
  ·injection e with za;exfalso;injection za
  ·rename_i hlt;have z:=st.oth_facts ho;refine wpAny_pyNext_range_end hh z.1 (Afe hlt) λh' hs' => ?_;refine AG (st.dropOth ho (GN rfl) hs') ?_;rintro l' e' st' x;exact hQ l' h' s.toks st' (x.widen λa q=>q▸hj) e'
 ·refine KV hi ?_;clear hi;rintro it oi old hne ho hj hoi hj2 ⟨hc,hd⟩ hn;simp only[Ce]at e;refine Ah (HS.mp e) ?_;rintro vs e1 e2;have e3:=Option.map_eq_none_iff.mp e2;refine Bg (st.listAt hn e1) ?_;rintro ws k hm hr;have z:=st.oth_facts ho;have zi:=st.oth_facts hoi;have hl:=hr.size;have hv:ws[i]? = none:=by
   rw[Rl]at e3;rw[Ab3];exact RM e3 hl
  refine wpAny_pyNext_enum_end hh z.1 ⟨oi,zi.1,hc,hd⟩ (st.isList hm) hv λh' hs' => ?_;refine AG (st.dropOth hoi (K4 (by rw[hc];decide)) hs') ?_;rintro l' e' st' x
  exact hQ l' h' s.toks st' (x.widen λa q=>q▸hj2) e'
def HE(l0 l:Am)(v:Ad):Cr->Prop
 | .lst n=>∃vs,VR l v (.ref n)/\l.σ[n]? = some (.list vs)
 | .tup vs=>VR l v (.tup vs)
 | .rng a c n=>RR l v (a,c,n)
 | .enm n=>∃I it oi,v=.ref I/\it≠I/\AS l (I,Ll it 0 .none)/\AS l (it,oi)/\Sj oi (l.ad n false) 0/\n<l.σ.length/\∀p,AS l0 p->p.1≠I/\p.1≠it
theorem HE.up{l2:Am}{src:Cr}(x:Ap No l0 l1)(h:HE l1 l2 v src):HE l0 l2 v src:=by
 rcases src with _ | _ | _ | n
 case enm =>
  refine KV h ?_;clear h;rintro I it oi e hne ho hoi hli hn hf;exact⟨I,it,oi,e,hne,ho,hoi,hli,hn,λp hp=>hf p (x.all hp)⟩
 all_goals exact h
theorem St.pushJ{h:Bb}(st:St c m l h)(hf:o.isFreed=false) :
  ∃l':Am,l'.σ=l.σ/\St c m l' (h.push o)/\Ap No l l'/\AS l' (h.objs.size,o):=by
 refine st.addJ (st.fr.push o) (λp hp => ?_) λp hp=>Cb (BE (st.nw p hp).1);rcases AV.mp hp with rfl | hp
 ·refine⟨JG _ hf,λq => ?_,?_⟩
  ·refine Ep st.fr.ns ?_;rintro oL _ _ hoL _;exact absurd (BE hoL) (by rw[<- q];exact BX _)
  ·rcases q:c.h₀.get? h.objs.size with _ | o
   ·rfl
   ·exact absurd (BE (st.fr.keep _ o q)) (BX _)
 ·exact⟨Eo _ (st.nw p hp).1,(st.nw p hp).2⟩
set_option tactic.hygienic true in
theorem XO{src:Cr}(st:St c m l s.heap)(x0:Ap No l0 l)(hv:HE l0 l v src)
  (hQ:∀I l' h' tk (J:Af->Prop),St c m l' h'->Ap No l l'->l'.σ=l.σ->Gp J l' 0 I src->(∀a,J a->∃o,AS l' (a,o)/\(∀u,o.data≠.cell u)/\∀vs k,o≠Cy vs k)->(∀p,AS l0 p->¬J p.1)->Q (.ref I) (put s h' tk)):wpAny c.M c.A (pyIter v) Q E s:=by
 have fr:∀p,AS l0 p->p.1≠s.heap.objs.size:=λp hp=>Cb (BE (st.nw p (x0.all hp).1).1);rcases src with n | vs | ⟨a,cc,n⟩ | n
 ·refine Ah hv ?_;clear hv;rintro vs hv hs;refine AG hv.ref_inv ?_;rintro _ rfl hl ha;subst ha;refine Bg (st.list (.ref hl rfl) hs) ?_;rintro ws k hm hr;refine AbR (st.isList hm) ?_;refine BS (st.pushJ (o:={ cls:=.type "list_iterator",data:=.fields #[.ref (l.ad n false),.int 0 0] }) rfl) ?_;rintro l' e st' x ho;exact hQ _ l' _ s.toks (·=s.heap.objs.size) st' x e ⟨_,ho,rfl,⟨rfl,by rw[x.ad _ _ hl];rfl⟩,by rw[e];exact hl⟩ (λa q=>⟨_,q▸ho,λu q=>(by simp at q),GN rfl⟩) fr
 ·refine CP hv.tup_inv ?_;rintro _ _ _ rfl ho hr;rename_i a ws k;refine wpAny_pyIter_tuple (t:=a) ⟨_,(st.nw _ ho.1).1,rfl,_,rfl⟩ ?_;refine BS (st.pushJ (o:={ cls:=.type "tuple_iterator",data:=.fields #[.ref a,.int 0 0] }) rfl) ?_;rintro l' e st' x ho';exact hQ _ l' _ s.toks (·=s.heap.objs.size) st' x e ⟨_,a,ws,k,ho',rfl,rfl,rfl,x.all ho,hr.mono x⟩ (λa q=>⟨_,q▸ho',λu q=>(by simp at q),GN rfl⟩) fr
 ·refine Rw hv ?_;clear hv;rintro D b t u w rfl ho h1 h2 h3;refine wpAny_pyIter_range (st.nw _ ho.1).1 h1 ?_;refine BS (st.pushJ (o:=XK a (AbC a b cc) cc) rfl) ?_;rintro l' e st' x ho';refine hQ _ l' _ s.toks (·=s.heap.objs.size) st' x e ⟨?_,rfl,GG _⟩ (λa q=>⟨_,q▸ho',λu q=>(by simp at q),GN rfl⟩) fr
  have h2':AbC a b cc=(n:Int):=h2;rw[h2']at ho'
  simpa using ho'
 ·refine KV hv ?_;clear hv;rintro I it oi rfl hne ho hoi hli hn hfr;exact Aqn (st.nw _ ho.1).1 (hQ I l s.heap s.toks (λa=>a=I\/a=it) st (Ap.refl l) rfl ⟨it,oi,.none,hne,ho,.inl rfl,hoi,.inr rfl,hli,hn⟩ (λa q=>by
   rcases q with rfl | rfl
   ·exact⟨_,ho,λu q=>(by simp at q),GN rfl⟩
   ·exact⟨_,hoi,λu q=>(by rw[hli.2]at q;(exfalso;injection q)),GN hli.2⟩) λp hp q=>q.elim (hfr p hp).1 (hfr p hp).2)
noncomputable def Pz(v:CV):CM Nat:=match v with
 | .ref n=>bnd (listC n) λz=>ret n
 | _=>Ar
set_option tactic.hygienic true in
theorem Aij{a:CV}(hv:VR l v a):Aa c FX m l (call (.type "enumerate") [v]) (Pz a) (λl' v n=>HE l l' v (.enm n)):=by
 unfold Pz
 split
 ·rename_i n;refine AG hv.ref_inv ?_;rintro _ rfl hl ha;refine Aa.getList (.ref hl ha) λcs ws k hs hz z hm hr => ?_;intro s Q E st q _ _;subst ha;refine call_enumerate_list (st.isList hm) λh' he hit hsz hk => ?_;refine AG hit ?_;clear hit;rintro oi hoi hc hd;have F':Fr c.h₀ c.L h' m:=st.fr.keeps hk;have fresh:∀D,s.heap.objs.size<=D->D≠c.L/\c.h₀.get? D=none/\∀p∈l.Φ,p.1≠D:=λD hD=>by
   refine⟨λq => ?_,?_,λp hp q => ?_⟩
   ·refine Ep st.fr.ns ?_;rintro oL _ _ hoL _;have:=BE hoL;rw[<- q]at this;exact absurd this (DJ.mpr hD)
   ·rcases q:c.h₀.get? D with _ | o
    ·rfl
    ·exact absurd (BE (st.fr.keep _ o q)) (DJ.mpr hD)
   ·have:=BE (st.nw p hp).1;rw[q]at this;exact absurd this (DJ.mpr hD)
  have f1:=fresh s.heap.objs.size (AM _);have f2:=fresh (s.heap.objs.size+1) (HU _);have nd:(([(s.heap.objs.size+1,Ll s.heap.objs.size 0 .none),(s.heap.objs.size,oi)]++l.Φ).map (·.1)).Nodup:=by
   show((s.heap.objs.size+1)::s.heap.objs.size::l.Φ.map (·.1)).Nodup;refine Dv.mpr ⟨λhm => ?_,Dv.mpr ⟨λhm => ?_,st.lr.nd⟩⟩
   ·rcases AV.mp hm with e | hm
    ·exact absurd e (Nat.succ_ne_self _)
    ·refine Ah (BH.mp hm) ?_;rintro p hp e;exact f2.2.2 p hp e
   ·refine Ah (BH.mp hm) ?_;rintro p hp e;exact f1.2.2 p hp e
  have x:Ap No l { l with Φ:=[(s.heap.objs.size+1,Ll s.heap.objs.size 0 .none),(s.heap.objs.size,oi)]++l.Φ }:=Ap.junk rfl
  refine q n { l with Φ:=[(s.heap.objs.size+1,Ll s.heap.objs.size 0 .none),(s.heap.objs.size,oi)]++l.Φ } _ h' s.toks rfl ⟨F',λp hp => ?_,st.lr.junk rfl nd⟩ x
   ⟨_,_,oi,rfl,Cb (JI _),st.lr.junk_oth rfl nd (.head _),st.lr.junk_oth rfl nd (.tail _ (.head _)),⟨hc,hd⟩,hl,λp hp=>⟨f2.2.2 p hp.1,f1.2.2 p hp.1⟩⟩
  rcases AV.mp hp with rfl | hp
  ·exact⟨he,f2.1,f2.2.1⟩
  ·rcases AV.mp hp with rfl | hp
   ·exact⟨hoi,f1.1,f1.2.1⟩
   ·exact⟨hk _ _ (st.nw p hp).1,(st.nw p hp).2⟩
 ·exact Aa.stuck
theorem Aik{src:Cr}(st:St c m l s.heap)(hi:Gp J l i I src)(hQ:Q (.ref I) s):wpAny c.M c.A (pyIter (.ref I)) Q E s:=by
 rcases src with n | vs | ⟨a,cc,n⟩ | n
 ·refine BS hi ?_;clear hi;rintro o ho hj ⟨hc,hd⟩ hn;exact wpAny_pyIter_listiter ⟨o,(st.nw _ ho.1).1,hc,hd⟩ hQ
 ·refine OX hi ?_;clear hi;rintro o a ws k ho hj hc hd ht hr;exact wpAny_pyIter_tupleiter ⟨o,(st.nw _ ho.1).1,hc,hd⟩ hQ
 ·exact wpAny_pyIter_rangeiter (st.nw _ hi.1.1).1 hQ
 ·refine KV hi ?_;clear hi;rintro it oi old hne ho hj hoi hj2 _ hn;exact Aqn (st.nw _ ho.1).1 hQ
end
end
variable {src:Cr}
section
section
variable {prog:CJ}{w:BK}{A:CK}{R:Hc->Aq->Prop}{s:Aq}
theorem Ail{it acc:Ad}(I:Nat->Aq->Prop)
  (turn:∀n s (E:Ad->Aq->Prop) (Q0:Option Ad->Aq->Prop) (Q1:Ad->Aq->Prop) (Q2:Aq->Prop) (Q3:Bool->Aq->Prop) (Q4:Ad->Aq->Prop),I n s ->
   (∀s,R (.ok .next) s->Q0 none s)->(∀v s,wpAny (model prog w) A (Ab1 target it v) (λz s=>Q1 v s) E s->Q0 (some v) s) ->
   (∀v s,wpAny (model prog w) A (assign target env v) (λz=>Q2) E s->Q1 v s) ->
   (∀s,wpAny (model prog w) A (forIn ifs true λc r=>if r=true then do let ok <- isTrue c env (eval c env);pure (OO ok)else pure (OO r)) Q3 E s->Q2 s) ->
   (∀s m,m<n->I m s->Q3 false s)->(∀s,wpAny (model prog w) A (eval elt env) Q4 E s->Q3 true s) ->
   (∀x s,wpAny (model prog w) A (call (.builtin "list.append") [acc,x]) (λz s=>∃m,m<n/\I m s) E s->Q4 x s)->wpAny (model prog w) A (pyNext it) Q0 E s)
  (n:Nat) (h:I n s) :
  codeAny (model prog w) A (.compLoop (.ListComp elt [⟨target,iter,ifs,0⟩] scope pos) 0 it acc env) R s:=by
 refine codeAny_loop rfl I (λn s hI => ?_) n h;show wpAny _ A ((compTurn (.ListComp elt [⟨target,iter,ifs,0⟩] scope pos) 0 it acc env).onRaise (λx=>do JJ x env;theTreesLotGoes x)) _ _ s
 refine wpAny_noted ?_;rw[compTurn_list];refine Aj (F8 (Aj (turn n s _ _ (λv s=>wpAny (model prog w) A _ _ _ s) (λs=>wpAny (model prog w) A _ _ _ s) (λok s=>wpAny (model prog w) A _ _ _ s) (λx s=>wpAny (model prog w) A _ _ _ s) hI (λs h=>AD h) (λv s h=>Aj h) (λv s h=>Aj h) (λs h=>Aj h) (λs m h1 h2=>AD ⟨rfl,m,h1,h2⟩) (λs h=>Aj (Aj h)) (λx s h=>Aj (KL h (λz s h=>AD (AD ⟨rfl,h⟩)) λz z h=>h)))))
end
noncomputable def JY(x:CM α):CM α:=λσ=>match x σ with
 | .exc _ _=>.stuck
 | r=>r
noncomputable def Ib:List Expr->List CV->Option Ao
 | [],[]=>some []
 | e::es,v::vs=>ob (Cc e) λq=>ob (Ib es vs) λr=>some ((q.1,v)::r)
 | [],_::_=>none
 | _::_,[]=>none
noncomputable def JZ(e:Expr)(v:CV):Option Ao:=match Cc e with
 | some q=>some [(q.1,v)]
 | none=>ob (FI e) λq=>ob (Pa v) λvs=>Ib q.1 vs
noncomputable def Dk(ks names:AF):AF:=names.map λ(n,k)=>if(k == ES && ks.lookup n == some .cell)then(n,.cell)else(n,k)
noncomputable def MX(ks':AF)(loc:Ao):Ao:=loc.filter λp=>ks'.lookup p.1 == some Vx || ks'.lookup p.1 == some ES
noncomputable def MY(names:AF)(vars:Ao):Bool:=vars.all (λp=>names.lookup p.1 == some NameKind.local) && decide ((vars.map (·.1)).Nodup)
noncomputable def MZ(g:Expr->CM Bool):List Expr->CM Bool
 | []=>ret true
 | [e]=>g e
 | _=>Ar
noncomputable def GW:Nat:=4100
noncomputable def Lm(acc:Nat)(k:CM CV):Option CV->CM CV
 | some y=>bnd (Hz acc y) λz=>k
 | none=>k
noncomputable def E3(src:Cr)(bf:CV->CM (Option CV))(acc:Nat):Nat->Nat->CM CV
 | 0,_=>Ar
 | n+1,i=>λσ=>match Ce σ i src with
  | none=>.stuck
  | some none=>.ok (.ref acc) σ
  | some (some v)=>bnd (bf v) (Lm acc (E3 src bf acc n (i+1))) σ
theorem XQ:∀(src:Cr) (bf:CV->CM (Option CV)) (acc x n:Nat),E3 src bf acc n.succ x=λ(σ:CH)=>match Ce σ x src with | none=>B8.stuck | some none=>B8.ok (CV.ref acc) σ | some (some v)=>bnd (bf v) (Lm acc (E3 src bf acc n (x+1))) σ:=by intros;rfl
noncomputable def GX(fv:Ao->Expr->CM CV)(ft:Ao->Expr->CM Bool)(base:Ao)(names:AF)(target elt:Expr)(ifs:List Expr)(v:CV):CM (Option CV):=match JZ target v with
 | none=>Ar
 | some vars=>if MY names vars=true then bnd (JY (MZ (ft (vars++base)) ifs)) λok=>if ok=true then bnd (JY (fv (vars++base) elt)) λy=>ret (some y)else ret none
  else Ar
noncomputable def Sl(fv:Ao->Expr->CM CV)(ft:Ao->Expr->CM Bool)(base:Ao)(names:AF)(target elt:Expr)(ifs:List Expr)(acc:Nat)(src:Cr)(n i:Nat):CM CV:=E3 src (GX fv ft base names target elt ifs) acc n i
set_option tactic.hygienic true in
theorem Ez(x:CM α)(f:α->CM β)(g:β->CM γ):bnd (bnd x f) g=bnd x λa=>bnd (f a) g:=by
 funext σ
 unfold bnd;cases (x σ)<;>rfl
set_option tactic.hygienic true in
theorem Ln{x:CM α}{f g:α->CM β}(h:∀a,f a=g a):bnd x f=bnd x g:=by rw[funext h]
theorem Aim{bf:CV->CM (Option CV)}{R:B8 CV}(e:E3 src bf acc (n+1) i σ=R)(ns:R≠.stuck) :
  (Ce σ i src=some none/\R=.ok (.ref acc) σ)\/∃v,Ce σ i src=some (some v)/\bnd (bf v) (Lm acc (E3 src bf acc n (i+1))) σ=R:=by
 have e:(match Ce σ i src with
  | none=>.stuck
  | some none=>.ok (.ref acc) σ
  | some (some v)=>bnd (bf v) (Lm acc (E3 src bf acc n (i+1))) σ)=R:=e
 generalize Lm acc (E3 src bf acc n (i+1))=k at *
 rcases q:Ce σ i src with _ | o
 ·rw[q]at e;exact absurd e.symm ns
 ·rw[q]at e;rcases o with _ | v
  ·exact .inl ⟨rfl,e.symm⟩
  ·exact .inr ⟨v,rfl,e⟩
section
variable {c:FC}{FX:Bm}{m:Ac->Option Ad}{l l':Am}{d:Nat}{env:Env}{loc:Ao}{Γ:AP}{J:Af->Prop}
theorem XR{x:CM α}(h:JY x σ≠.stuck):∃a σ',x σ=.ok a σ'/\JY x σ=.ok a σ':=by
 unfold JY at h ⊢;rcases e:x σ with _ | ⟨a,σ'⟩ | ⟨y,σ'⟩
 ·rw[e]at h;exact absurd rfl h
 ·exact⟨a,σ',rfl,rfl⟩
 ·rw[e]at h;exact absurd rfl h
theorem Aa.run{t:Sem α}{f:CM β}{V:Am->α->β->Prop}{Q:α->Aq->Prop}{a:β}(h:Aa c FX m l t f V)(st:St c m l s.heap)(e:f l.σ=.ok a σ')
  (hQ:∀l' v h' tk,l'.σ=σ'->St c m l' h'->Ap No l l'->V l' v a->Q v (put s h' tk)):wpAny c.M c.A t Q E s:=by
 refine h s Q E st (λb l' v h' tk e' st' x hv => ?_) (λx l' z z z hx z z => ?_) ?_
 ·rw[e]at e';injection e' with za zb;subst za;subst zb
  exact hQ l' v h' tk rfl st' x hv
 ·rw[e]at hx;(exfalso;injection hx)
 ·rw[e];intro q;(exfalso;injection q)
def Sn(c:FC)(m:Ac->Option Ad)(C:Af)(m₀:Ac->Option Ad)(l:Am)(vars:Ao)(s s':Aq):Prop :=
 ∃l' h' tk oC m',s'=(put s h' tk)/\St c m l' h'/\Ap (·=C) l l'/\l'.σ=l.σ/\AS l' (C,oC)/\Hk oC m'/\(∀x cv,(x,cv)∈vars->∃w,m' x=some w/\VR l' w cv)/\∀x,x∉vars.map (·.1)->m' x=m₀ x
theorem So{m:Ac->Option Ad}(h:Hk o m):∀vs k,o≠Cy vs k:=by
 refine Bg h ?_;clear h;rintro es ep hd _;exact WO hd
theorem XU{Q:Unit->Aq->Prop}(st:St c m l s.heap)(ho:AS l (cenv.locals,oC))(hn:Hk oC m₀)(hk:cenv.kindOf x=some .local)(hf:cenv.scope.kind=.function)
  (hv:VR l v cv) (hQ:∀s',Sn c m cenv.locals m₀ l [(x,cv)] s s'->Q () s') {p:Pos}:wpAny c.M c.A (assign (.Name x p) cenv v) Q E s:=by
 refine Ab4 (Ab5 hk (hn.ns (st.nw _ ho.1).1) (λh' hn' hs'=>hQ _ ?_) (by rw[hf];rfl))
 refine Ah (LCg.ns_obj hn') ?_;rintro oC' hg hnn;refine BS (st.turnOth ho (So hn) hs' hg) ?_;rintro l' e st' x' o';refine⟨l',h',_,oC',_,rfl,st',x',e,o',hnn,λy cy hy => ?_,λy hy => ?_⟩
 ·rcases AV.mp hy with q | q
  ·injection q with za zb;subst za;subst zb
   exact⟨v,if_pos rfl,hv.mono x'⟩
  ·rcases q with⟨⟩
 ·exact if_neg λq=>hy (by rw[q];exact .head _)
theorem St.keeps{h:Bb}(st:St c m l h)(hk:∀b o,h.get? b=some o->h'.get? b=some o):St c m l h':=⟨st.fr.keeps hk,λp hp=>⟨hk _ _ (st.nw p hp).1,(st.nw p hp).2⟩,st.lr⟩
theorem XW(h:Ib (e::es) cvs=some vars):∃x p cv cs r,e=.Name x p/\cvs=cv::cs/\Ib es cs=some r/\vars=(x,cv)::r:=by
 rcases cvs with _ | ⟨cv,cs⟩
 ·exact(Ax h).elim
 ·have h:ob (Cc e) (λq=>ob (Ib es cs) λr=>some ((q.1,cv)::r))=some vars:=h;refine AQ h λq hq h=>AQ h λr hr h => ?_;obtain rfl:=Ay h;exact⟨_,_,cv,cs,r,FH hq,rfl,hr,rfl⟩
theorem Ain(hf:cenv.scope.kind=.function)(es:List Expr):∀(cvs:List CV) (vs:List Ad) (vars:Ao) (s:Aq) (l:Am) (oC:AU) (m₀:Ac->Option Ad) (Q:Unit->Aq->Prop),Ib es cvs=some vars->AA l vs cvs ->
  (∀p∈vars,cenv.kindOf p.1=some .local)->(vars.map (·.1)).Nodup->St c m l s.heap->AS l (cenv.locals,oC)->Hk oC m₀->(∀s',Sn c m cenv.locals m₀ l vars s s'->Q () s') ->
  wpAny c.M c.A (KO ((Ge es cenv).map (·.2)) vs) Q E s:=by
 induction es with
 | nil =>
  intro cvs vs vars s l oC m₀ Q e hv;rcases cvs with _ | ⟨_,_⟩
  ·rw[hv.nil_inv,<- Ay e];exact λhl nd st ho hn hQ=>AD (hQ s ⟨l,s.heap,s.toks,oC,m₀,rfl,st,Ap.refl l,rfl,ho,hn,(λz z h=>nomatch h),λz z=>rfl⟩)
  ·exact(Ax e).elim
 | cons t es ih =>
  intro cvs vs vars s l oC m₀ Q e;refine V1 (XW e) ?_;rintro x p cv cs r rfl rfl hr' rfl;intro hv0;refine Br hv0.cons_inv ?_;rintro v vs rfl hv hr;clear e hv0;intro hl nd st ho hn hQ;refine Au (Dv.mp nd) ?_;rintro n1 n2;show wpAny _ _ (do holding vs (assign (.Name x p) cenv v);KO ((Ge es cenv).map (·.2)) vs) _ _ _
  refine Aj (Dp (XU st ho hn (hl _ (.head _)) hf hv λs' hb => ?_));refine Rx hb ?_;clear hb;rintro l' h' tk oC' m' rfl st' x' e' o' n' b1 b2;refine ih cs vs r _ l' oC' m' Q hr' (hr.mono x') (λq hq=>hl q (.tail _ hq)) n2 st' o' n' λs2 hb2=>hQ s2 ?_;refine Rx hb2 ?_;clear hb2;rintro l2 h2 tk2 oC2 m2 rfl st2 x2 e2 o2 nn2 c1 c2;refine⟨l2,h2,tk2,oC2,m2,rfl,st2,x'.trans x2,e2.trans e',o2,nn2,λy cy hy => ?_,λy hy => ?_⟩
  ·rcases AV.mp hy with q | q
   ·injection q with za zb;subst za;subst zb
    refine Ah (b1 _ _ (.head _)) ?_;rintro w q1 q2;exact⟨w,(c2 _ n1).trans q1,q2.mono x2⟩
   ·exact c1 y cy q
  ·rw[Bo]at hy;rw[c2 y λq=>hy (.tail _ q)];exact b2 y λq=>hy (by
    rcases AV.mp q with q | q
    ·rw[q];exact .head _
    ·rcases q with⟨⟩)
theorem Aio(es:List Expr):∀{cvs:List CV} {vars:Ao},Ib es cvs=some vars->es.length=cvs.length/\(∀e∈es,∃x p,e=.Name x p):=by
 induction es with
 | nil =>
  intro cvs vars e;rcases cvs with _ | ⟨_,_⟩
  ·exact⟨rfl,λz h=>nomatch h⟩
  ·exfalso;injection e
 | cons t es ih =>
  intro cvs vars e;refine V1 (XW e) ?_;rintro x p cv cs r rfl rfl hr rfl;refine Au (ih hr) ?_;rintro h1 h2;refine⟨by rw[BN,BN,h1],λe he => ?_⟩
  rcases AV.mp he with rfl | he
  ·exact⟨x,p,rfl⟩
  ·exact h2 e he
theorem Aip:∀(es:List Expr),(∀e∈es,∃x p,e=.Name x p)->(Ge es env).length=es.length/\(Ge es env).findIdx? (·.1)=none:=by
 intro z1
 induction z1 with
 | nil =>
  intro z2;exact⟨rfl,rfl⟩
 | cons e es ih =>
  intro h;refine HY (h e (.head _)) ?_;rintro x p rfl;refine Au (ih λe he=>h e (.tail _ he)) ?_;rintro h1 h2;have z:Ge (.Name x p::es) env=(false,assign (.Name x p) env)::Ge es env:=rfl;rw[z];refine⟨by rw[BN,h1];rfl,?_⟩
  rw[Aqo];simp[h2]
theorem Aiq{Q:Unit->Aq->Prop}(hh:c.A.handled=none)(hf:cenv.scope.kind=.function)(e:JZ target cv=some vars)(hv:VR l v cv)
  (hl:∀p∈vars,cenv.kindOf p.1=some .local) (nd:(vars.map (·.1)).Nodup) (st:St c m l s.heap) (ho:AS l (cenv.locals,oC)) (hn:Hk oC m₀) (hQ:∀s',Sn c m cenv.locals m₀ l vars s s'->Q () s') :
  wpAny c.M c.A (assign target cenv v) Q E s:=by
 unfold JZ at e;rcases hq:Cc target with _ | q
 ·rw[hq]at e;refine AQ e λq hq e=>AQ e λcvs hc e => ?_;obtain rfl:=MC hq;obtain rfl:=WY hc;refine CP hv.tup_inv ?_;rintro _ _ _ rfl hot hr;refine Au (Aio q.1 e) ?_;rintro z1 z2;refine Au (Aip (env:=cenv) q.1 z2) ?_;rintro y1 y2;refine Aqp hh ⟨_,(st.nw _ hot.1).1,rfl,_,rfl⟩ (by rw[y1,z1,<- hr.length];simp) y2 λh' ex => ?_
  have st':St c m l h':=st.keeps λb o q=>ex b o (Cb (BE q)) q;exact Ain hf q.1 _ _ _ _ _ _ _ _ e hr hl nd st' ho hn λs' hb=>hQ s' hb
 ·rw[hq]at e;obtain rfl:=FH hq;obtain rfl:=Ay e;exact XU st ho hn (hl _ (.head _)) hf hv hQ
theorem CT{x:CM α}{k:α->CM β}{a:α}(h:x σ=.ok a σ'):bnd x k σ=k a σ':=by unfold bnd;rw[h]
theorem Dl{x:CM α}{k:α->CM β}(h:x σ=.stuck):bnd x k σ=.stuck:=by unfold bnd;rw[h]
theorem DM{x:CM α}{k:α->CM β}(h:x σ=.exc y σ'):bnd x k σ=.exc y σ':=by unfold bnd;rw[h]
theorem Air{v:CV}:Hz n v σ≠.exc y σ':=by
 intro q;unfold Hz bnd at q;rcases e:listC n σ with _ | ⟨a,s⟩ | ⟨_,_⟩
 ·rw[e]at q;(exfalso;injection q)
 ·rw[e]at q;(exfalso;injection q)
 ·exact W3 e
theorem Ais{v:CV}:∀{a b:Ao},(a++b).lookup x=some v->(x,v)∈a\/(x∉a.map (·.1)/\b.lookup x=some v):=by
 intro z1
 induction z1 with
 | nil =>
  intro b h;exact .inr ⟨by simp,h⟩
 | cons z2 r ih =>
  rcases z2 with⟨y,w⟩
  intro b h;rw[List.cons_append,BI]at h
  by_cases e:x=y
  ·subst e;simp at h;subst h;exact .inl (.head _)
  ·have e1:(x == y)=false:=beq_eq_false_iff_ne.mpr e;rw[e1]at h;rcases ih h with q | ⟨q1,q2⟩
   ·exact .inl (.tail _ q)
   ·refine .inr ⟨?_,q2⟩;rw[Bo,AV,not_or];exact⟨e,q1⟩
theorem Ait{FX:Bm}(h:Ea c FX m env l g)(ifs:List Expr):Aa c FX m l (forIn ifs true λc r=>if r=true then do let ok <- isTrue c env (eval c env);pure (OO ok)else pure (OO r)) (MZ g ifs) Eu:=by
 unfold MZ
 split
 ·exact λs Q E st ok exc ns=>wpAny_tests_nil (ok true l true s.heap s.toks rfl st (Ap.refl l) rfl)
 ·exact λs Q E st ok exc ns=>wpAny_tests_one (h.here _ s Q E st ok exc ns)
 ·exact Aa.stuck
theorem Aiu{fv:Ao->Expr->CM CV}{ft:Ao->Expr->CM Bool}{v:CV}{k:Option CV->CM CV}{R:B8 CV}(e:bnd (GX fv ft base names target elt ifs v) k σ=R)(ns:R≠.stuck) :
  ∃vars ok σ1,JZ target v=some vars/\MY names vars=true/\MZ (ft (vars++base)) ifs σ=.ok ok σ1/\(ok=false->k none σ1=R)/\(ok=true->∃y σ2,fv (vars++base) elt σ1=.ok y σ2/\k (some y) σ2=R):=by
 unfold GX at e;rcases hb:JZ target v with _ | vars
 ·rw[hb]at e;exact absurd e.symm ns
 ·rw[hb]at e;dsimp only at e
  by_cases hv:MY names vars=true
  ·rw[if_pos hv,Ez]at e;refine Bg (XR λq=>ns (e.symm.trans (Dl q))) ?_;rintro ok σ1 t1 t2;rw[CT t2]at e;refine⟨vars,ok,σ1,rfl,hv,t1,λq => ?_,λq => ?_⟩
   ·subst q;exact e
   ·subst q;rw[if_pos rfl,Ez]at e;refine Bg (XR λq=>ns (e.symm.trans (Dl q))) ?_;rintro y σ2 t3 t4;rw[CT t4]at e;exact⟨y,σ2,t3,e⟩
  ·rw[if_neg hv]at e;exact absurd e.symm ns
theorem Aiv{m':Ac->Option Ad}(hvk:∀p∈vars,cenv.kindOf p.1=some .local)(hb:∀x v k,base.lookup x=some v->cenv.kindOf x=some k->H6 c m cenv l x k v)(ho:AS l (cenv.locals,oC))(hn:Hk oC m')
  (hv:∀x cv,(x,cv)∈vars->∃w,m' x=some w/\VR l w cv):Cd c m cenv l (vars++base):=by
 refine⟨λx v k hx hk => ?_,.inr ⟨oC,ho⟩⟩;rcases Ais hx with q | ⟨_,q2⟩
 ·refine Ah (hv x v q) ?_;rintro w w1 w2;have z0:_=_:=hk.symm.trans (hvk _ q);injection z0 with za;subst za
  refine .inr ⟨oC,m',w,ho,λu hu => ?_,hn,w1,w2⟩;refine Bg hn ?_;clear hn;rintro _ _ hd _;rw[hd]at hu;exfalso;injection hu
 ·exact hb x v k q2 hk
theorem Aiw{FX:Bm}{D:Af}{fv:Ao->Expr->CM CV}{ft:Ao->Expr->CM Bool}
  {RES:B8 CV} {X:Af->Prop} (hX:∀a,J a->X a) (hXC:∀a,a=cenv.locals->X a) (hh:c.A.handled=none) (hf:cenv.scope.kind=.function)
  (hfv:∀l' loc',Cd c m cenv l' loc'->Bz c FX m cenv l' (fv loc')) (hft:∀l' loc',Cd c m cenv l' loc'->Ea c FX m cenv l' (ft loc'))
  (hbase:∀l',Ap X l0 l'->∀x v k,base.lookup x=some v->cenv.kindOf x=some k->H6 c m cenv l' x k v) (hJC:¬J cenv.locals) (hfit:HD target src=true)
  (st:St c m l s.heap) (x0:Ap X l0 l) (hi:Gp J l 0 I src) (ho:AS l (cenv.locals,oC)) (hn:Hk oC m₀) (hD:VR l (.ref D) (.ref acc))
  (e:Sl fv ft base cenv.scope.names target elt ifs acc src n 0 l.σ=RES) (ns:RES≠.stuck)
  (hR:∀l' h' tk oC m',St c m l' h'->Ap X l0 l'->AS l' (cenv.locals,oC)->Hk oC m'->RES=.ok (.ref acc) l'.σ->VR l' (.ref D) (.ref acc)->R (.ok .next) (put s h' tk)) :
  codeAny c.M c.A (.compLoop (.ListComp elt [⟨target,iter,ifs,0⟩] scope pos) 0 (.ref I) (.ref D) cenv) R s:=by
 have e:E3 src (GX fv ft base cenv.scope.names target elt ifs) acc n 0 l.σ=RES:=e;have hin:∀{v k σ},bnd (GX fv ft base cenv.scope.names target elt ifs v) k σ=RES->_:=λe=>Aiu e ns
 generalize GX fv ft base cenv.scope.names target elt ifs=bf at e hin
 obtain⟨W,hW⟩:∃W:Nat->Aq->Prop,∀k s',W k s'↔∃l h' tk i oC m',s'=put s h' tk/\St c m l h'/\Ap X l0 l/\Gp J l i I src/\AS l (cenv.locals,oC)/\Hk oC m'/\VR l (.ref D) (.ref acc)/\E3 src bf acc k i l.σ=RES:=⟨_,λz z=>Iff.rfl⟩;refine Ail W (λk s' E Q0 Q1 Q2 Q3 Q4 hs q0 q1 q2 q3 q4 q5 q6 => ?_) n ((hW _ _).mpr ⟨l,s.heap,s.toks,0,oC,m₀,rfl,st,x0,hi,ho,hn,hD,e⟩);refine Q68 ((hW _ _).mp hs) ?_;rintro l h' tk i oC m' rfl st x0 hi ho hn hD e;rcases k with _ | k
 ·exact absurd e.symm ns
 ·rcases Aim e ns with⟨hit,e⟩ | ⟨cv,hit,e⟩
  ·exact XN hh st hi hit λl' h2 tk2 st' x' e'=>q0 _ (hR l' h2 tk2 oC m' st' (x0.trans (x'.widen hX)) (x'.oth _ ho (.inr hJC)) hn (by rw[e',e]) (hD.mono x'))
  ·refine VX (hin e) ?_;rintro vars ok σ1 hb hvk t1 t2 t3;have hvk':=Og.mp hvk;have hvk1:∀p∈vars,cenv.kindOf p.1=some .local:=λp hp=>KP (B7.mp hvk'.1 p hp);refine XM st hi hfit hit (Q2:=Q1) (λv s₂ hN=>q2 _ _ ?_) q1;refine VY hN ?_;clear hN;rintro l1 h1 tk1 rfl st1 x1 e1 hi1 hv1;refine Aiq hh hf hb hv1 hvk1 (of_decide_eq_true hvk'.2) st1 (x1.oth _ ho (.inr hJC)) hn λs3 hB=>q3 _ ?_;refine Rx hB ?_;clear hB;rintro l2 h2 tk2 oC2 m2 rfl st2 x2 e2 o2 n2 b1 _;have x02:=(x0.trans (x1.widen hX)).trans (x2.widen hXC);have hE:=Aiv hvk1 (hbase l2 x02) o2 n2 b1;refine(Ait (hft l2 _ hE) ifs).run st2 (by rw[e2,e1];exact t1) λl3 r h3 tk3 e3 st3 x3 hr => ?_
   have hr:r=ok:=hr;subst hr;have hi3:=(hi1.mono x2 λa q q'=>hJC (q'▸q)).mono x3 λz z q=>q;have hD3:=((hD.mono x1).mono x2).mono x3;rcases r with _ | _
   ·exact q4 _ k (JI _) ((hW _ _).mpr ⟨l3,h3,tk3,i+1,oC2,m2,rfl,st3,x02.trans x3.weaken,hi3,x3.all o2,n2,hD3,by rw[e3];exact t2 rfl⟩)
   ·refine Bg (t3 rfl) ?_;rintro y σ2 t3 t4;refine q5 _ (((hfv l2 _ hE) elt l3 x3).run st3 (by rw[e3];exact t3) λl4 v4 h4 tk4 e4 st4 x4 hv4=>q6 _ _ ?_)
    have e':bnd (Hz acc y) (λz=>E3 src bf acc k (i+1)) l4.σ=RES:=by rw[e4];exact t4
    refine Xj (FX:=FX) (hD3.mono x4) hv4 _ _ _ st4 (λb l5 v5 h5 tk5 e5 st5 x5 hv5 => ?_) (λy l5 z z z hx z z=>absurd hx Air) λq=>ns (e'.symm.trans (Dl q));rw[CT e5]at e';have x35:=x4.trans x5;exact⟨k,JI _,(hW _ _).mpr ⟨l5,h5,tk5,i+1,oC2,m2,rfl,st5,(x02.trans x3.weaken).trans x35.weaken,hi3.mono x35 λz z q=>q,x35.all (x3.all o2),n2,hD3.mono x35,e'⟩⟩
end
end
section
noncomputable def FQ(cells:List (Ac×Af)):AF->List (Ac×Af)->List (Ac×Af)
 | [],cs=>cs
 | (n,k)::r,cs=>FQ cells r (if(k == ES)=true then match cells.lookup n with
  | some a=>(n,a)::cs
  | none=>cs else cs)
theorem XX:∀(cells x:List (Ac×Af)) (n:Ac) (k:GJ) (r:List (Ac×GJ)),FQ cells ((n,k)::r) x=FQ cells r (if(k == ES)=true then match Ab6 n cells with | some a=>(n,a)::x | none=>x else x):=by intros;rfl
theorem Aix:∀(cells x:List (Ac×Af)),FQ cells [] x=x:=by intros;rfl
theorem Aiy(cells:List (Ac×Af)):∀(names:AF) (cs:List (Ac×Af)),(∀n a,cs.lookup n=some a->cells.lookup n=some a)->∀n,((n,ES)∈names\/(cs.lookup n).isSome=true)->(∀n,(n,ES)∈names->(cells.lookup n).isSome=true) ->
  (FQ cells names cs).lookup n=cells.lookup n:=by
 intro z1
 induction z1 with
 | nil =>
  intro cs h n hn z3;rcases hn with hn | hn
  ·rcases hn with⟨⟩
  ·rw[Aix];refine AK (KN.mp hn) ?_;rintro a e;rw[e,h n a e]
 | cons z2 r ih =>
  rcases z2 with⟨y,k⟩
  intro cs h n hn hc;rw[XX]
  by_cases hk:(k == ES)=true
  ·rw[if_pos hk];have hk':k=.free:=KP hk;subst hk';refine AK (KN.mp (hc y (.head _))) ?_;rintro a ea;rw[ea];dsimp only;refine ih ((y,a)::cs) (λn' a' e => ?_) n ?_ λn' hn'=>hc n' (.tail _ hn')
   ·rw[BI]at e
    by_cases q:n'=y
    ·subst q;simp at e;subst e;exact ea
    ·have q1:(n' == y)=false:=beq_eq_false_iff_ne.mpr q;rw[q1]at e;exact h n' a' e
   ·by_cases q:n=y
    ·subst q
     right
     simp
    ·have q1:(n == y)=false:=beq_eq_false_iff_ne.mpr q;rcases hn with hn | hn
     ·rcases AV.mp hn with hn | hn
      ·injection hn with za zb;subst za;rcases zb with⟨⟩;exact absurd rfl q
      ·exact .inl hn
     ·right
      rw[BI,q1];exact hn
  ·rw[if_neg hk];refine ih cs h n ?_ λn' hn'=>hc n' (.tail _ hn');rcases hn with hn | hn
   ·rcases AV.mp hn with hn | hn
    ·injection hn with za zb;subst za;subst zb;exact absurd rfl hk
    ·exact .inl hn
   ·exact .inr hn
theorem Aiz(hc:∀n,(n,ES)∈scope.names->(env.cells.lookup n).isSome=true):closureFor scope env=pure (FQ env.cells scope.names []):=by
 have key:∀(names:AF) (cs:List (Ac×Af)),(∀n,(n,ES)∈names->(env.cells.lookup n).isSome=true) ->
   (forIn names cs λx cs=>(do
    let (name,kind):=x
    if kind == .free then pure (OO ((name,<- cellOf env name)::cs))else pure (OO cs):Sem (ForInStep (List (Ac×Af)))))=pure (FQ env.cells names cs):=by
  intro names
  induction names with
  | nil=>intro cs _;rfl
  | cons p r ih =>
   intro cs hc;rcases p with⟨n,k⟩
   have ih':=λcs=>ih cs λn' hn'=>hc n' (.tail _ hn');rw[Vy];rw[XX]
   by_cases hk:(k == ES)=true
   ·have hk':k=.free:=KP hk;refine AK (KN.mp (hc n (by rw[hk'];exact .head _))) ?_;rintro a ea
    simp only[hk,if_true,cellOf,ea,Rm];exact ih' _
   ·simp only[hk,if_false,Rm,JH];exact ih' _
 unfold closureFor;exact(congrArg (· >>= λs=>(pure s:Sem (List (Ac×Af)))) (key scope.names [] hc)).trans rfl
noncomputable def M0(t:CM CV):CM Cr:=bnd t λv=>match v with
 | .tup vs=>ret (.tup vs)
 | .ref n=>bnd (listC n) λz=>ret (.lst n)
 | _=>Ar
noncomputable def GY(f:Expr->CM CV)(Γ:AP)(ks:AF)(e:Expr):CM Cr:=match JP e with
 | some q=>if q.1 = "range" then(if C1 Γ ks "range" (.type "range")=true/\noStar q.2.2.1=true then bnd (bnd (BC f q.2.2.1) H8) λr=>ret (.rng r.1 r.2.1 r.2.2)else Ar)
  else if q.1 = "enumerate" then(match FJ q.2.2.1 with
   | some a=>if C1 Γ ks "enumerate" (.type "enumerate")=true/\Dh a=false then bnd (bnd (f a) Pz) λn=>ret (.enm n)else Ar
   | none=>Ar)
  else M0 (f e)
 | none=>M0 (f e)
section
variable {c:FC}{FX:Bm}{m:Ac->Option Ad}{l l':Am}{d:Nat}{env:Env}{loc:Ao}{Γ:AP}{J:Af->Prop}
set_option tactic.hygienic true in
theorem AiA{f:CM CV}(h:Aa c FX m l t f VR):Aa c FX m l t (M0 f) (HE l):=by
 have:t=(t >>= pure):=(bind_pure t).symm;rw[this];unfold M0;refine Aa.bind h λv a l1 z x hv => ?_
 split
 ·exact Aa.pure (V:=HE l) hv
 ·rename_i n;refine AG hv.ref_inv ?_;rintro _ rfl hl ha;exact Aa.getList (.ref hl ha) λcs ws k hs hz z hm hr=>Aa.pure (V:=HE l) ⟨cs,.ref hl ha,hs⟩
 ·exact Aa.stuck
theorem XY(ok:AL c d)(g:Bs c.K Γ)(eo:Ck c env){f:Expr->CM CV}(h:Bz c FX m env l f)(e:Expr):Aa c FX m l (eval e env) (GY f Γ env.scope.names e) (HE l):=by
 have df:=AiA (h.here e);unfold GY;rcases hq:JP e with _ | ⟨x,p,rs,p2⟩
 ·exact df
 ·obtain rfl:=WX hq;clear hq;dsimp only
  by_cases hx:x = "range"
  ·rw[if_pos hx];subst hx;refine Aa.guard λzz => ?_;refine Au zz ?_;clear zz;rintro h1 h2;exact Aa.mapC (XB ok g eo h h1 h2) λl' v r hr=>hr
  rw[if_neg hx]
  by_cases hx2:x = "enumerate"
  ·rw[if_pos hx2];subst hx2;rcases ho:FJ rs with _ | a
   ·exact Aa.stuck
   ·obtain rfl:=JO ho;clear ho;refine Aa.guard λzz => ?_;refine Au zz ?_;clear zz;rintro h1 h2;refine Aa.mapC (g:=λn=>Cr.enm n) (V:=λl' v n=>HE l l' v (.enm n)) ?_ λl' v r hr=>hr;refine JV ok g eo h1 ⟨_,.inr rfl⟩ (by simp[noStar,h2]) (MT h2 (h.here a)) λvs a' l' x' zz => ?_
    refine Ah zz ?_;clear zz;rintro v e hv;subst e;exact(Aij hv).mono λl2 v2 n hs=>hs.up x'
  ·rw[if_neg hx2];exact df
noncomputable def HF(e:Expr):Bool := !EP e.ctorIdx 7
theorem XZ(h:HF e=true)(v:Ad):foldedSetIterable e env v=pure v:=by
 rcases e with⟨⟩<;>first | rfl | (exfalso;injection h)
noncomputable def Jc(ks:AF)(loc:Ao)(scope:Scope):Bool:=(scope.kind == .function) && scope.names.all λp=>(p.2 != .cell) && (p.2 != .local || scope.names.lookup p.1 == some .local) && (p.2 != .free || ((loc.lookup p.1).isSome && (ks.lookup p.1 == some .cell || ks.lookup p.1 == some .free)))
noncomputable def DW(Γ:AP)(f:Expr->CM CV)(fv:AF->Ao->Expr->CM CV)(ft:AF->Ao->Expr->CM Bool)(ks:AF)(loc:Ao)(elt:Expr)(gens:List Hi)(scope:Scope):CM CV:=match MD gens with
 | some q=>if Jc ks loc scope=true/\HF q.2.1=true then bnd (GY f Γ ks q.2.1) λsrc=>if HD q.1 src=true then
   bnd (B2 []) λa=>match a with
    | .ref acc=>Sl (fv (Dk ks scope.names)) (ft (Dk ks scope.names)) (MX (Dk ks scope.names) loc) (Dk ks scope.names) q.1 elt q.2.2 acc src GW 0
    | _=>Ar
   else Ar else Ar
 | none=>Ar
theorem AiB{k:GJ}:∀{ns:AF},ns.lookup x=some k->(x,k)∈ns:=by
 intro z1
 induction z1 with
 | nil=>intros;contradiction
 | cons z2 r ih =>
  rcases z2 with⟨n,k'⟩
  intro h;rw[BI]at h
  by_cases e:x=n
  ·subst e;simp at h;subst h;exact .head _
  ·rw[beq_eq_false_iff_ne.mpr e]at h;exact .tail _ (ih h)
set_option tactic.hygienic true in
theorem AiC{k:GJ}(h:(x,k)∈Dk ks names):(x,k)∈names\/(k=.cell/\(x,ES)∈names/\ks.lookup x=some .cell):=by
 refine Ah (BH.mp h) ?_;rintro p hp e;rcases p with⟨n,k'⟩
 dsimp only at e
 split at e
 ·rename_i hc;simp only[Bf,beq_iff_eq]at hc;injection e with za zb;subst za;subst zb
  exact .inr ⟨rfl,by rw[<- hc.1];exact hp,hc.2⟩
 ·injection e with za zb;subst za;subst zb
  exact .inl hp
theorem AiD(eo:Ck c env)(scope:Scope):(relabel scope env).names=Dk env.scope.names scope.names:=by
 show scope.names.map _=scope.names.map _;refine Mp λp hp => ?_;rcases p with⟨n,k⟩
 have h2:(Aqq == Aqq)=true:=rfl;dsimp only;rw[eo.kind,h2,ApB];rfl
set_option tactic.hygienic true in
theorem AiE{ks':AF}{v:CV}:∀{loc:Ao},(MX ks' loc).lookup x=some v->loc.lookup x=some v/\(ks'.lookup x=some .cell\/ks'.lookup x=some .free):=by
 intro z1
 induction z1 with
 | nil =>
  intro h;exfalso;injection h
 | cons z2 r ih =>
  rcases z2 with⟨y,w⟩
  intro h;unfold MX at h;rw[Ab7]at h
  by_cases e:x=y
  ·subst e
   split at h
   ·rename_i hc;simp at h;subst h;refine⟨by simp,?_⟩
    simpa using hc
   ·rename_i hc;exfalso;have:=(ih h).2;exact hc (by simpa using this)
  ·have e1:(x == y)=false:=beq_eq_false_iff_ne.mpr e;rw[BI,e1]
   split at h
   ·rw[BI,e1]at h;exact ih h
   ·exact ih h
theorem Sp:∀{Φ:List (Af×AU)} {p q:Af×AU},(Φ.map (·.1)).Nodup->p∈Φ->q∈Φ->p.1=q.1->p=q:=by
 intro z1
 induction z1 with
 | nil =>
  intro z2 z3 z4 h z5 z6
  (rcases h with⟨⟩)
 | cons a r ih =>
  intro p q nd hp hq e;rw[Bo]at nd;refine Au (Dv.mp nd) ?_;rintro n1 n2;rcases AV.mp hp with h1 | h1<;>rcases AV.mp hq with h2 | h2
  ·rw[h1,h2]
  ·exact absurd (by rw[<- h1,e];exact Du (f:=(·.1)) h2) n1
  ·exact absurd (by rw[<- h2,<- e];exact Du (f:=(·.1)) h1) n1
  ·exact ih n2 h1 h2 e
noncomputable def Na(fv:AF->Ao->Expr->CM CV)(ft:AF->Ao->Expr->CM Bool)(ks:AF)(loc:Ao)(elt target:Expr)(ifs:List Expr)(scope:Scope)(src:Cr):CM CV:=if HD target src=true then
   bnd (B2 []) λa=>match a with
    | .ref acc=>Sl (fv (Dk ks scope.names)) (ft (Dk ks scope.names)) (MX (Dk ks scope.names) loc) (Dk ks scope.names) target elt ifs acc src GW 0
    | _=>Ar
   else Ar
theorem AiF{fv:AF->Ao->Expr->CM CV}{ft:AF->Ao->Expr->CM Bool}{gens:List Hi}(ns:DW Γ f fv ft ks loc elt gens scope σ≠.stuck) :
  ∃target iter ifs,gens=[⟨target,iter,ifs,0⟩]/\Jc ks loc scope=true/\HF iter=true/\DW Γ f fv ft ks loc elt gens scope=bnd (GY f Γ ks iter) (Na fv ft ks loc elt target ifs scope):=by
 rcases e:MD gens with _ | q
 ·have z:DW Γ f fv ft ks loc elt gens scope=Ar:=by unfold DW;rw[e]
  rw[z]at ns;exact absurd rfl ns
 ·have z:DW Γ f fv ft ks loc elt gens scope=if Jc ks loc scope=true/\HF q.2.1=true then bnd (GY f Γ ks q.2.1) (Na fv ft ks loc elt q.1 q.2.2 scope)else Ar:=by unfold DW;rw[e];rfl
  rw[z]at ns
  by_cases hc:Jc ks loc scope=true/\HF q.2.1=true
  ·exact⟨q.1,q.2.1,q.2.2,WW e,hc.1,hc.2,z.trans (if_pos hc)⟩
  ·rw[if_neg hc]at ns;exact absurd rfl ns
set_option tactic.hygienic true in
theorem X0{FX:Bm}(ok:AL c d)(g:Bs c.K Γ)(eo:Ck c env)(er:Cd c m env l loc){f:Expr->CM CV}(h:Bz c FX m env l f){fv:AF->Ao->Expr->CM CV}{ft:AF->Ao->Expr->CM Bool}
  (hfv:∀env' l' loc',Ck c env'->Cd c m env' l' loc'->Bz c FX m env' l' (fv env'.scope.names loc')) (hft:∀env' l' loc',Ck c env'->Cd c m env' l' loc'->Ea c FX m env' l' (ft env'.scope.names loc'))
  {elt:Expr} {gens:List Hi} {scope:Scope} {pos p2:Pos} {use:Option (Ad->Sem Unit)} {s:Aq} {Q:Ad->Aq->Prop} {E:Ad->Aq->Prop} (st:St c m l s.heap)
  (hok:∀b l1 D h' tk C oC m',DW Γ f fv ft env.scope.names loc elt gens scope l.σ=.ok b l1.σ->St c m l1 h'->Ap No l l1->VR l1 (.ref D) b->AS l1 (C,oC)->Hk oC m'->C≠env.locals->(∀p,AS l p->p.1≠C) ->
   compPost c.M c.A E use Q (.ref D) C (.ok .next) (put s h' tk))
  (hexc:∀x l' e h' tk,DW Γ f fv ft env.scope.names loc elt gens scope l.σ=.exc x l'.σ->Ap No l l'->FX l' x e h'->E e (put s h' tk))
  (ns:DW Γ f fv ft env.scope.names loc elt gens scope l.σ≠.stuck) :
  wpAny c.M c.A (Ab8 (.ListComp elt gens scope pos) scope env p2 (newList []) (Ab9 gens) (Aca gens env) use) Q E s:=by
 refine Fd (AiF ns) ?_;rintro target iter ifs rfl hc hset eC;rw[eC]at hok hexc ns;simp only[Jc,Bf,B7,beq_iff_eq,Vj,bne_iff_ne,ne_eq]at hc;refine Au hc ?_;clear hc;rintro hk hnm;have hfree:∀n,(n,ES)∈scope.names->∃v,loc.lookup n=some v/\(env.scope.names.lookup n=some .cell\/env.scope.names.lookup n=some .free):=λn hn=>by
  have z:=(hnm _ hn).2;rcases z with z | z
  ·exact absurd rfl z
  ·refine AK (KN.mp z.1) ?_;rintro v e;exact⟨v,e,z.2⟩
 have hcells:∀n,(n,ES)∈scope.names->(env.cells.lookup n).isSome=true:=λn hn=>by
  refine Ah (hfree n hn) ?_;rintro v e hk;rcases hk with hk | hk
  ·refine Ep (er.nm n v _ e hk) ?_;rintro a o w e1 _;rw[e1];rfl
  ·refine Ep (er.nm n v _ e hk) ?_;rintro a o w e1 _;rw[e1];rfl
 have hlook:=Aiy env.cells scope.names [] (λj j q=>by(exfalso;injection q))
 refine wpAny_comprehension_free (g:=⟨target,iter,ifs,0⟩) (gs:=[]) rfl (XZ hset) (Aiz hcells) hk (λx hx hl => ?_) ?_
 ·rcases(hnm _ hx).1.2 with z | z
  ·exact absurd hl z
  ·exact z
 refine XY ok g eo h iter s _ E st (λsrc l1 v h1 tk1 e1 st1 x1 hsrc => ?_) (λx l' e h' tk hx xx fx=>hexc x l' e h' tk (DM hx) xx fx) λq=>ns (Dl q);rw[CT e1]at ns hok;unfold Na at ns hok
 by_cases hfit:HD target src=true
 ·rw[if_pos hfit]at ns hok;refine XO st1 x1 hsrc λI l2 h2 tk2 J st2 x2 e2 hi hJ hJ0 => ?_;rw[<- e2]at ns hok;refine W0 (c:=c) (FX:=FX) (l:=l2) (vs:=[]) (cs:=[]) .nil _ _ _ st2 (λb l3 v3 h3 tk3 e3 st3 x3 hv3 => ?_) (λx l' j j j hx j j => ?_) (λq=>ns (Dl q))
  ·rw[CT e3]at ns hok;have hb:b=.ref l2.σ.length:=by
    have:B2 [] l2.σ=.ok (.ref l2.σ.length) (l2.σ++[.list []]):=rfl;exact(B8.ok_inj (this.symm.trans e3)).1.symm
   subst hb;dsimp only at ns hok;refine AG hv3.ref_inv ?_;rintro _ rfl hl3 ha3;rename_i D;have hD:VR l3 (.ref D) (.ref l2.σ.length):=.ref hl3 ha3;refine wpAny_newFunctionEnv (λx hx => ?_) (λy hy=>by rcases hy with⟨⟩) (λh4 hns4 hs4 => ?_) hk
   ·exact(hnm _ hx).1.1
   dsimp only at hns4 hs4;have hCfresh:∀p∈l3.Φ,p.1<h3.objs.size:=λp hp=>BE (st3.nw p hp).1;refine Ah (LCg.ns_obj hns4) ?_;rintro oC hgC hnC;have k4:∀b o,h3.get? b=some o->h4.get? b=some o:=λb o q=>hs4.extBut b o (Cb (BE q)) (Eo _ q);have st4:St c m l3 h4:=st3.keeps k4;have hCL:h3.objs.size≠c.L:=λq=>by
    refine Ep st3.fr.ns ?_;rintro oL _ _ hoL _;exact absurd (BE hoL) (by rw[<- q];exact BX _)
   have hC0:c.h₀.get? h3.objs.size=none:=by
    rcases q:c.h₀.get? h3.objs.size with _ | o
    ·rfl
    ·exact absurd (BE (st3.fr.keep _ o q)) (BX _)
   refine BS (st4.addJ (D:=h3.objs.size) (o:=oC) st4.fr (λp hp=>by
    rcases AV.mp hp with rfl | hp
    ·exact⟨hgC,hCL,hC0⟩
    ·exact st4.nw p hp) λp hp=>Cb (hCfresh p hp)) ?_;rintro l5 e5 st5 x5 o5
   show codeAny _ _ (.compStart _ 0 (.ref I) (.ref D) (compEnvC scope (FQ env.cells scope.names []) h3.objs.size env)) _ _;have x03:Ap No l l3:=(x1.trans x2).trans x3;have hCe:h3.objs.size≠env.locals:=λq=>by
    rcases er.lo with e | ⟨o,ho⟩
    ·exact hCL (q.trans e)
    ·have:=hCfresh _ (x03.all ho).1;rw[<- q]at this;exact absurd this (BX _)
   have hJC:¬J h3.objs.size:=λq=>by
    refine Ah (hJ _ q) ?_;rintro o ho _;exact absurd (hCfresh _ (x3.all ho).1) (BX _)
   have x05:Ap No l l5:=((x1.trans x2).trans x3).trans x5;have eo':Ck c (compEnvC scope (FQ env.cells scope.names []) h3.objs.size env):=⟨eo.globals,eo.builtins,hk,eo.frame⟩;have hnames:(compEnvC scope (FQ env.cells scope.names []) h3.objs.size env).scope.names=Dk env.scope.names scope.names:=AiD eo scope;have loop:codeAny c.M c.A (.compLoop (.ListComp elt [⟨target,iter,ifs,0⟩] scope pos) 0 (.ref I) (.ref D) (compEnvC scope (FQ env.cells scope.names []) h3.objs.size env)) (compPost c.M c.A E use Q (.ref D) h3.objs.size) (put s h4 (tk3+([]:List (Ac×Ad)).length)):=by
    refine Aiw (l0:=l5) (l:=l5) (fv:=fv (Dk env.scope.names scope.names)) (ft:=ft (Dk env.scope.names scope.names)) (base:=MX (Dk env.scope.names scope.names) loc) (J:=J) (src:=src) (oC:=oC) (n:=GW) (X:=λa=>J a\/a=h3.objs.size)
     (λj=>.inl) (λj=>.inr) ok.handled hk (λl' loc' er'=>by have:=hfv _ l' loc' eo' er';rw[hnames]at this;exact this) (λl' loc' er'=>by have:=hft _ l' loc' eo' er';rw[hnames]at this;exact this) (λl' xd x v k hx hkx => ?_) ?_ hfit st5 (Ap.refl l5) ((hi.mono x3 λj j q=>q).mono x5 λj j q=>q) o5 hnC (hD.mono x5) (by rw[hnames,e5]) ns λl' h' tk oC' m' st' xd ho' hn' er hD' => ?_
    ·have hkx':(Dk env.scope.names scope.names).lookup x=some k:=by rw[<- hnames];exact hkx
     refine Au (AiE hx) ?_;rintro hx1 hx2;have hfr:(x,ES)∈scope.names/\(k=.cell\/k=.free):=by
      rcases AiC (AiB hkx')with q | ⟨q1,q2,_⟩
      ·have hne:=(hnm _ q).1.1;rw[hkx']at hx2;rcases hx2 with z | z
       ·exact absurd (Ay z) hne
       ·have:=Ay z;subst this;exact⟨q,.inr rfl⟩
      ·exact⟨q2,.inl q1⟩
     refine Ah (hfree x hfr.1) ?_;rintro v' hv' hkk;have hvv:v'=v:=Ay (hv'.symm.trans hx1);subst hvv;have key:∃a o w,env.cells.lookup x=some a/\AS l (a,o)/\o.data=.cell (some w)/\VR l w v':=by
      rcases hkk with hkk | hkk
      ·exact er.nm x v' _ hx1 hkk
      ·exact er.nm x v' _ hx1 hkk
     refine Fd key ?_;clear key;rintro a o w e1 ho hd hv;have hcl:(FQ env.cells scope.names []).lookup x=some a:=by rw[hlook x (.inl hfr.1) hcells];exact e1
     have ho5:=x05.all ho;have ho':AS l' (a,o):=xd.oth _ ho5 (.inr λq=>by
      rcases q with q | q
      ·refine AG (hJ _ q) ?_;rintro o2 ho2 hn2 _;have:=Sp st2.lr.nd ho2.1 ((x1.trans x2).all ho).1 rfl;injection this with za zb;rcases za with⟨⟩;subst zb
       exact hn2 _ hd
      ·have:=hCfresh _ (x03.all ho).1;have q':a=h3.objs.size:=q;rw[q']at this;exact absurd this (BX _))
     have fin:∃a o w,(FQ env.cells scope.names []).lookup x=some a/\AS l' (a,o)/\o.data=.cell (some w)/\VR l' w v':=⟨a,o,w,hcl,ho',hd,(hv.mono x05).mono xd⟩;rcases hfr.2 with rfl | rfl
     ·exact fin
     ·exact fin
    ·exact hJC
    ·have xN:Ap No l l':=((x05.weaken).trans xd).narrow λp hp q=>by
      rcases q with q | q
      ·exact absurd q (hJ0 p hp)
      ·have:=hCfresh _ (x03.all hp).1;have q':p.1=h3.objs.size:=q;rw[q']at this;exact absurd this (BX _)
     exact hok _ l' D h' tk _ oC' m' er st' xN hD' ho' hn' hCe λp hp q=>by
      have:=hCfresh _ (x03.all hp).1;rw[q]at this;exact absurd this (BX _)
   exact codeAny_compStart_list loop (Aik (J:=J) (s:=(put s h4 (tk3+([]:List (Ac×Ad)).length))) st5 ((hi.mono x3 λj j q=>q).mono x5 λj j q=>q) loop)
  ·unfold B2 at hx
   split at hx<;>(exfalso;injection hx)
 ·rw[if_neg hfit]at ns;exact absurd rfl ns
theorem St.comp_end{h:Bb}{mC:Ac->Option Ad}(st:St c m l h)(x:Ap No l0 l)(ho:AS l (C,oC))(hn:Hk oC mC)(hf:∀p,AS l0 p->p.1≠C)(hs:Vq C h h') :
  ∃l':Am,l'.σ=l.σ/\St c m l' h'/\Ap No l0 l'/\Ap (·=C) l l':=by
 refine AG (st.dropOth ho (So hn) hs.extBut) ?_;rintro l' e st' x';exact⟨l',e,st',(x.weaken.trans x').narrow λp hp q=>absurd q (hf p hp),x'⟩
theorem AiG{FX:Bm}(ok:AL c d)(g:Bs c.K Γ)(eo:Ck c env)(er:Cd c m env l loc){f:Expr->CM CV}(h:Bz c FX m env l f){fv:AF->Ao->Expr->CM CV}{ft:AF->Ao->Expr->CM Bool}
  (hfv:∀env' l' loc',Ck c env'->Cd c m env' l' loc'->Bz c FX m env' l' (fv env'.scope.names loc')) (hft:∀env' l' loc',Ck c env'->Cd c m env' l' loc'->Ea c FX m env' l' (ft env'.scope.names loc'))
  {elt:Expr} {gens:List Hi} {scope:Scope} {pos:Pos}:Aa c FX m l (eval (.ListComp elt gens scope pos) env) (DW Γ f fv ft env.scope.names loc elt gens scope) VR:=by
 intro s Q E st q exc ns;rw[arm_eval_ListComp];refine X0 ok g eo er h hfv hft st (λb l1 D h' tk C oC m' e st' x hD ho hn hCe hf => ?_) exc ns;refine⟨m',hn.ns (st'.nw _ ho.1).1,λh2 hs => ?_⟩;refine BS (st'.comp_end x ho hn hf hs) ?_;rintro l2 e2 st2 x2 x3;exact q b l2 (.ref D) h2 tk (by rw[e2];exact e) st2 x2 (hD.mono x3)
end
end
section
inductive J0 where
 | rng (rs:List Expr)
 | sset (e:Expr)
 | dct (e:Expr)
noncomputable def Nb:List Expr->Option Expr
 | [e]=>some e
 | _=>none
theorem X2(h:Nb es=some e):es=[e]:=by
 rcases es with _ | ⟨a,r⟩
 ·exfalso;injection h
 ·rcases r with _ | ⟨_,_⟩
  ·injection h with za;subst za;rfl
  ·exfalso;injection h
noncomputable def J1(Γ:AP)(ks:AF)(x:Ac)(es:List Expr):Option J0:=match Nb es with
 | none=>none
 | some e=>match JP e with
  | some (y,_,rs,_)=>if x=Ab "list" /\ y=Ab "range" /\ C1 Γ ks (Ab "range") (.type "range")=true/\C1 Γ ks (Ab "list") (.type "list")=true/\noStar rs=true then some (.rng rs)
   else if x=Ab "sorted" /\ y=Ab "set" /\ C1 Γ ks (Ab "set") (.type "set")=true/\C1 Γ ks (Ab "sorted") (.builtin "sorted")=true then(match Nb rs with
    | some e=>if Dh e=false then some (.sset e)else none
    | none=>none)else none
  | none=>if x=Ab "dict" /\ C1 Γ ks (Ab "dict") (.type "dict")=true/\Dh e=false then some (.dct e)else none
noncomputable def X3(f:Expr->CM CV):J0->CM CV
 | .rng rs=>Xz f rs
 | .sset e=>XH f e
 | .dct e=>XJ f e
inductive SpR(Γ:AP)(ks:AF)(x:Ac)(es:List Expr)(k:J0):Prop
 | rng (p:Pos) (rs:List Expr) (q:Pos) (h1:k=.rng rs) (h2:es=[.Call (.Name (Ab "range") p) rs [] q]) (h3:x=Ab "list") (h4:C1 Γ ks (Ab "range") (.type "range")=true) (h5:C1 Γ ks (Ab "list") (.type "list")=true) (h6:noStar rs=true)
 | sset (p:Pos) (e:Expr) (q:Pos) (h1:k=.sset e) (h2:es=[.Call (.Name (Ab "set") p) [e] [] q]) (h3:x=Ab "sorted") (h4:C1 Γ ks (Ab "set") (.type "set")=true) (h5:C1 Γ ks (Ab "sorted") (.builtin "sorted")=true) (h6:Dh e=false)
 | dct (e:Expr) (h1:k=.dct e) (h2:es=[e]) (h3:x=Ab "dict") (h4:C1 Γ ks (Ab "dict") (.type "dict")=true) (h5:Dh e=false)
theorem AiH{k:J0}(h:J1 Γ ks x es=some k):SpR Γ ks x es k:=by
 unfold J1 at h;rcases q1:Nb es with _ | e
 ·rw[q1]at h;exact(Ax h).elim
 ·rw[q1]at h;dsimp only at h;obtain rfl:=X2 q1;clear q1;rcases q2:JP e with _ | ⟨y,p,rs,q⟩
  ·rw[q2]at h;rcases RP h with⟨c,h⟩
   exact .dct e h.symm rfl c.1 c.2.1 c.2.2
  ·rw[q2]at h;dsimp only at h;obtain rfl:=WX q2;clear q2;rcases WS h with⟨c,g⟩ | g
   ·rcases c with⟨c1,rfl,c2,c3,c4⟩
    exact .rng p rs q (Ay g).symm rfl c1 c2 c3 c4
   ·clear h;rcases WS g with⟨c,h⟩ | h
    ·rcases c with⟨c3,rfl,c4,c5⟩
     clear g;rcases q3:Nb rs with _ | e'
     ·rw[q3]at h;exact(Ax h).elim
     ·rw[q3]at h;dsimp only at h;obtain rfl:=X2 q3;rcases RP h with⟨c,h⟩
      exact .sset p e' q h.symm rfl c3 c4 c5 c
    ·exact(Ax h).elim
noncomputable def Nc(f:Expr->CM CV)(Γ:AP)(ks:AF)(fe:Expr)(es:List Expr)(pos:Pos):CM CV:=match Cc fe with
 | some q=>(match J1 Γ ks q.1 es with
  | some k=>X3 f k
  | none=>MS f Γ ks q.1 es)
 | none=>match Fe fe with
  | some q=>(match Cc q.1 with
   | some w=>(match H9 Γ ks w.1 q.2.1 with
    | some g=>Pp f Γ g q.2.2 es pos
    | none=>Li f Γ q.1 q.2.1 q.2.2 es pos)
   | none=>Li f Γ q.1 q.2.1 q.2.2 es pos)
  | none=>Ar
noncomputable abbrev BU:=AF->Ao->Expr->CM CV
noncomputable abbrev C3:=AF->Ao->Expr->CM Bool
noncomputable def Sq(Γ:AP)(f:BU)(g:C3):BU:=λks loc e=>match e with
 | .Constant k _ _=>Pf k
 | .Name x _=>GS Γ ks loc x
 | .UnaryOp .USub a _=>bnd (f ks loc a) Pg
 | .UnaryOp .Not a _=>bnd (f ks loc a) λv=>bnd (GU v) λb=>ret (.bool !b)
 | .BinOp a op b _=>bnd (f ks loc a) λx=>bnd (f ks loc b) λy=>Gj op x y
 | .BoolOp op es _=>MM (f ks loc) op es
 | .Compare a ops es _=>if OA ops es=true then Ar else bnd (f ks loc a) λv=>HA (f ks loc) v ops es
 | .IfExp t a b _=>bnd (g ks loc t) λq=>if q=true then f ks loc a else f ks loc b
 | .Tuple es _ _=>bnd (BC (f ks loc) es) EV
 | .List es _=>bnd (BC (f ks loc) es) B2
 | .Dict [] [] _=>WZ
 | .Attribute o x _=>if IX o=true then bnd (f ks loc o) λv=>H5 Γ v x else Ar
 | .Subscript o i _=>MN (f ks loc) o i
 | .Call fe es [] pos=>Nc (f ks loc) Γ ks fe es pos
 | .ListComp elt gens scope _=>DW Γ (f ks loc) f g ks loc elt gens scope
 | _=>Ar
noncomputable def Sr(f:BU)(g:C3):C3:=λks loc e=>match e with
 | .UnaryOp .Not a _=>bnd (g ks loc a) λq=>ret !q
 | .BoolOp op es _=>Le (g ks loc) op es
 | .IfExp t a b _=>bnd (g ks loc t) λq=>if q=true then g ks loc a else g ks loc b
 | .Compare a ops es _=>if OA ops es=true then Ar else bnd (f ks loc a) λv=>FN (f ks loc) v ops es
 | e=>bnd (f ks loc e) GU
noncomputable def Bu(Γ:AP):Nat->BU×C3
 | 0=>(λz z z=>Ar,λz z z=>Ar)
 | n+1=>(Sq Γ (Bu Γ n).1 (Bu Γ n).2,Sr (Bu Γ n).1 (Bu Γ n).2)
structure J2(Γ:AP):Prop where
 bins:∀x v,Γ.bins.lookup x=some v->∃s,v=.builtin s\/v=.type s
section
variable {c:FC}{m:Ac->Option Ad}{l l':Am}{d:Nat}{env:Env}{loc:Ao}{Γ:AP}{FX:FC->Bm}
theorem AiI(gk:J2 Γ)(ok:AL c (d+1))(g:Bs c.K Γ)(fn:HB FX Γ d c)(eo:Ck c env){f:Expr->CM CV}(h:Bz c (FX c) m env l f){fe:Expr}{es:List Expr}{pos:Pos} :
  Aa c (FX c) m l (eval (.Call fe es [] pos) env) (Nc f Γ env.scope.names fe es pos) VR:=by
 unfold Nc;rcases hq:Cc fe with _ | ⟨x,p⟩
 ·rcases ha:Fe fe with _ | ⟨o,x,apos⟩
  ·exact Aa.stuck
  obtain rfl:fe=.Attribute o x apos:=MB ha;clear ha hq;dsimp only;rcases hw:Cc o with _ | ⟨cn,p⟩
  ·exact Xy ok g fn eo h
  obtain rfl:o=.Name cn p:=FH hw;clear hw;dsimp only;rcases hc:H9 Γ env.scope.names cn x with _ | fa
  ·exact Xy ok g fn eo h
  ·exact Ahw ok g fn eo h hc
 ·obtain rfl:fe=.Name x p:=FH hq;clear hq;dsimp only;rcases hk:J1 Γ env.scope.names x es with _ | k
  ·exact Aho ok g fn eo h gk.bins
  ·rcases AiH hk with⟨p2,rs,q,rfl,rfl,rfl,h1,h2,h3⟩ | ⟨p2,e,q,rfl,rfl,rfl,h1,h2,h3⟩ | ⟨e,rfl,rfl,rfl,h1,h2⟩
   ·exact Ahx ok g eo h h1 h2 h3
   ·exact Ah4 ok g eo h h1 h2 h3
   ·exact Aih ok g eo h h1 h2
theorem Lo(gk:J2 Γ)(ok:AL c (d+1))(g:Bs c.K Γ)(fn:HB FX Γ d c)(n:Nat):∀(env:Env) (l:Am) (loc:Ao),Ck c env->Cd c m env l loc ->
  Bz c (FX c) m env l ((Bu Γ n).1 env.scope.names loc)/\Ea c (FX c) m env l ((Bu Γ n).2 env.scope.names loc):=by
 induction n with
 | zero=>exact λenv l loc eo er=>⟨λe l' x=>Aa.stuck,λe l' x=>Aa.stuck⟩
 | succ n ih =>
  intro env l loc eo er;refine Au (ih env l loc eo er) ?_;rintro hE hT;have hfv:∀env' l' loc',Ck c env'->Cd c m env' l' loc'->Bz c (FX c) m env' l' ((Bu Γ n).1 env'.scope.names loc'):=λenv' l' loc' eo' er'=>(ih env' l' loc' eo' er').1;have hft:∀env' l' loc',Ck c env'->Cd c m env' l' loc'->Ea c (FX c) m env' l' ((Bu Γ n).2 env'.scope.names loc'):=λenv' l' loc' eo' er'=>(ih env' l' loc' eo' er').2;refine⟨λe l' x => ?_,λe l' x => ?_⟩
  ·have er':=er.mono x;have hE':=hE.mono x;have hT':=hT.mono x;show Aa c (FX c) m l' (eval e env) (Sq Γ (Bu Γ n).1 (Bu Γ n).2 env.scope.names loc e) VR;rcases e with⟨op,es,p⟩ | _ | ⟨a,op,b,p⟩ | ⟨op,a,p⟩ | _ | ⟨t,a,b,p⟩ | ⟨ks,vs,p⟩ | _ | ⟨elt,gens,scope,p⟩ | _ | _ | _ | _ | _ | _ | ⟨a,ops,es,p⟩ | ⟨fe,es,kw,p⟩ | _ | _ | ⟨k,n,p⟩ | ⟨o,y,p⟩ | ⟨o,i,p⟩ | _ | ⟨y,p⟩ | ⟨es,p⟩ | ⟨es,k,p⟩ | _
   case Constant=>exact Xe
   case Name=>exact R3 ok g eo er'
   case UnaryOp =>
    rcases op with _ | _ | _ | _
    case USub=>exact AgS hE'
    case Not=>exact AgU hE'
    all_goals exact Aa.stuck
   case BinOp=>exact AgR hE'
   case BoolOp=>rw[arm_eval_BoolOp];exact AgV _ hE'
   case Compare=>exact Ag2 ok hE'
   case IfExp=>exact Ag5 hE' hT'
   case Tuple=>exact Xo hE'
   case List=>exact Ag8 hE'
   case Dict =>
    rcases ks with _ | ⟨_,_⟩
    ·rcases vs with _ | ⟨_,_⟩
     ·exact AgQ ok
     ·exact Aa.stuck
    ·exact Aa.stuck
   case Attribute=>exact Ag9 ok g hE'
   case Subscript=>exact Aha hE'
   case Call =>
    rcases kw with _ | ⟨_,_⟩
    ·exact AiI gk ok g fn eo hE'
    ·exact Aa.stuck
   case ListComp=>exact AiG ok g eo er' hE' hfv hft
   all_goals exact Aa.stuck
  ·have er':=er.mono x;have hE':=hE.mono x;have hT':=hT.mono x;show Aa c (FX c) m l' (isTrue e env (eval e env)) (Sr (Bu Γ n).1 (Bu Γ n).2 env.scope.names loc e) Eu;rcases e with⟨op,es,p⟩ | _ | _ | ⟨op,a,p⟩ | _ | ⟨t,a,b,p⟩ | _ | _ | _ | _ | _ | _ | _ | _ | _ | ⟨a,ops,es,p⟩ | _ | _ | _ | _ | _ | _ | _ | _ | _ | _ | _
   case UnaryOp =>
    rcases op with _ | _ | _ | _
    case Not=>exact Ag7 hT'
    all_goals exact Xn hE' rfl
   case BoolOp=>rw[arm_isTrue_BoolOp];exact Ag4 _ hT'
   case IfExp=>exact Ag6 hT'
   case Compare=>exact Ag3 ok hE'
   all_goals exact Xn hE' rfl
end
end
section
structure FT(env:Env)(l:Am):Prop where
 at_:∀x a,env.cells.lookup x=some a->∃o u,AS l (a,o)/\o.data=.cell u
 has:∀x,env.kindOf x=some .cell->∃a,env.cells.lookup x=some a
 inj:∀x y a,env.cells.lookup x=some a->env.cells.lookup y=some a->x=y
def Dc(env:Env)(a:Af):Prop:=∃x,env.cells.lookup x=some a
structure DD(c:FC)(env:Env):Prop where
 eo:Ck c env
 loc:env.locals=c.L
 fen:env=c.fenv
def AI(c:FC)(FX:Bm)(env:Env)(m:Ac->Option Ad)(l:Am)(loc:Ao)(t:Sem α)(f:CM (β×Ao))(V:Am->α->β->Prop):Prop :=
 ∀(s:Aq) (Q:α->Aq->Prop) (E:Ad->Aq->Prop),St c m l s.heap->Cd c m env l loc->FT env l ->
  (∀b loc' l' m' a h' tk,f l.σ=.ok (b,loc') l'.σ->St c m' l' h'->Ap (Dc env) l l'->Cd c m' env l' loc'->FT env l'->V l' a b->Q a (put s h' tk)) ->
  (∀x l' e h' tk,f l.σ=.exc x l'.σ->Ap (Dc env) l l'->FX l' x e h'->E e (put s h' tk)) ->
  f l.σ≠.stuck->wpAny c.M c.A t Q E s
noncomputable def Nd(loc:Ao)(f:CM α):CM (α×Ao):=bnd f λb=>ret (b,loc)
section
variable {c:FC}{m:Ac->Option Ad}{l l':Am}{d:Nat}{env:Env}{loc:Ao}{Γ:AP}{FX:Bm}
theorem FT.mono(x:Ap No l l')(h:FT env l):FT env l':=⟨λy a hy=>by
 refine Bg (h.at_ y a hy) ?_;rintro o u ho hd;exact⟨o,u,x.all ho,hd⟩,h.has,h.inj⟩
theorem AI.lift{t:Sem α}{f:CM β}{V:Am->α->β->Prop}(h:Aa c FX m l t f V):AI c FX env m l loc t (Nd loc f) V:=by
 intro s Q E st er cr ok exc ns;refine h s Q E st (λb l' a h' tk e st' x v => ?_) (λx l' e h' tk hx xx fx => ?_) λq=>ns (Dl q)
 ·exact ok b loc l' m a h' tk (CT e) st' x.weaken (er.mono x) (cr.mono x) v
 ·exact exc x l' e h' tk (DM hx) xx.weaken fx
theorem AI.bind{t:Sem α}{f:CM (β×Ao)}{g:α->Sem γ}{k:β×Ao->CM (δ×Ao)}{V:Am->α->β->Prop}{V2:Am->γ->δ->Prop}(h:AI c FX env m l loc t f V)
  (h2:∀a b loc' m' l',f l.σ=.ok (b,loc') l'.σ->Ap (Dc env) l l'->V l' a b->AI c FX env m' l' loc' (g a) (k (b,loc')) V2):AI c FX env m l loc (t >>= g) (bnd f k) V2:=by
 intro s Q E st er cr ok exc ns;refine Aj (h s _ E st er cr (λb loc' l' m' a h' tk e st' x er' cr' v => ?_) (λx l' e h' tk hx xx fx=>exc x l' e h' tk (DM hx) xx fx) λq=>ns (Dl q));rw[CT e]at ok exc ns;exact h2 a b loc' m' l' e x v _ Q E st' er' cr' (λb2 loc2 l2 m2 a2 h2' tk2 e2 st2 x2 er2 cr2 v2=>ok b2 loc2 l2 m2 a2 h2' tk2 e2 st2 (x.trans x2) er2 cr2 v2)
  (λx2 l2 e2 h2' tk2 hx2 xx2 fx2=>exc x2 l2 e2 h2' tk2 hx2 (x.trans xx2) fx2) ns
theorem AI.eval{t:Sem α}{f:CM β}{g:α->Sem γ}{k:β->CM (δ×Ao)}{V:Am->α->β->Prop}{V2:Am->γ->δ->Prop}(h:Aa c FX m l t f V)
  (h2:∀a b l',f l.σ=.ok b l'.σ->Ap No l l'->V l' a b->AI c FX env m l' loc (g a) (k b) V2):AI c FX env m l loc (t >>= g) (bnd f k) V2:=by
 intro s Q E st er cr ok exc ns;refine Aj (h s _ E st (λb l' a h' tk e st' x v => ?_) (λx l' e h' tk hx xx fx=>exc x l' e h' tk (DM hx) xx.weaken fx) λq=>ns (Dl q));rw[CT e]at ok exc ns;exact h2 a b l' e x v _ Q E st' (er.mono x) (cr.mono x) (λb2 loc2 l2 m2 a2 h2' tk2 e2 st2 x2 er2 cr2 v2=>ok b2 loc2 l2 m2 a2 h2' tk2 e2 st2 (x.weaken.trans x2) er2 cr2 v2)
  (λx2 l2 e2 h2' tk2 hx2 xx2 fx2=>exc x2 l2 e2 h2' tk2 hx2 (x.weaken.trans xx2) fx2) ns
theorem AI.pure{a:α}{b:β}{V:Am->α->β->Prop}(h:V l a b):AI c FX env m l loc (Om a:Sem α) (ret (b,loc)) V :=
 λs Q E st er cr ok z z=>AD (ok b loc l m a s.heap s.toks rfl st (Ap.refl l) er cr h)
theorem AI.stuck{t:Sem α}{V:Am->α->β->Prop}:AI c FX env m l loc t Ar V:=λz z z z z z z z ns=>absurd rfl ns
theorem AI.guard{t:Sem α}{f:CM (β×Ao)}{V:Am->α->β->Prop}{p:Prop}[Decidable p](h:p->AI c FX env m l loc t f V):AI c FX env m l loc t (if p then f else Ar) V:=by
 by_cases hp:p
 ·rw[if_pos hp];exact h hp
 ·rw[if_neg hp];exact AI.stuck
theorem AI.stand{t:Sem α}{f:CM (β×Ao)}{V:Am->α->β->Prop}(pos:Pos)(h:AI c FX env m l loc t f V):AI c FX env m l loc (standAt pos >>= λz=>t) f V :=
 λs Q E st er cr ok exc ns=>Aj (F8 (h s Q E st er cr ok exc ns))
theorem AI.of_eq{t:Sem α}{f f':CM (β×Ao)}{V:Am->α->β->Prop}(h:AI c FX env m l loc t f' V)(e:f=f'):AI c FX env m l loc t f V:=e▸h
theorem AI.hold{t:Sem α}{f:CM (β×Ao)}{V:Am->α->β->Prop}(vs:List Ad)(h:AI c FX env m l loc t f V):AI c FX env m l loc (holding vs t) f V :=
 λs Q E st er cr ok exc ns=>Dp (h s Q E st er cr ok exc ns)
noncomputable def Fl(ks:AF)(x:Ac)(v:CV)(loc:Ao):CM (Unit×Ao):=match ks.lookup x with
 | some .local | some .cell=>ret ((),CQ x v loc)
 | _=>Ar
theorem X4{y:Ac}{v:CV}:∀{loc:Ao},(CQ x v loc).lookup y=if y=x then some v else loc.lookup y:=by
 intro z1
 induction z1 with
 | nil =>
  rw[Ahb];rw[BI]
  by_cases e:y=x
  ·subst e;simp
  ·have:(y == x)=false:=beq_eq_false_iff_ne.mpr e;rw[this,if_neg e]
 | cons z2 r ih0 =>
  rcases z2 with⟨z,w⟩
  rw[MP];have ih:=ih0
  by_cases e:z=x
  ·subst e;rw[if_pos rfl]
   by_cases e2:y=z
   ·subst e2;simp
   ·rw[BI,BI,if_neg e2];have:(y == z)=false:=beq_eq_false_iff_ne.mpr e2;rw[this]
  ·rw[if_neg e,BI,BI]
   by_cases e2:y=z
   ·subst e2;rw[if_neg e];simp
   ·have:(y == z)=false:=beq_eq_false_iff_ne.mpr e2;rw[this,ih]
set_option tactic.hygienic true in
theorem Ss(fe:DD c env){x:Ac}{v:Ad}{a:CV}(hv:VR l v a):AI c FX env m l loc (Acb env x v) (Fl env.scope.names x a loc) EZ:=by
 unfold Fl;have lc:env.kindOf x=env.scope.names.lookup x:=rfl;have loCase:env.scope.names.lookup x=some .local->AI c FX env m l loc (Acb env x v) (ret ((),CQ x a loc)) EZ:=λhk=>by
  intro s Q E st er cr ok _ _;refine Ab5 hk (by rw[fe.loc];exact st.fr.ns) (λh' hn hs => ?_) (by rw[fe.eo.kind];rfl)
  rw[fe.loc]at hn hs;refine ok () _ l _ () h' _ rfl ⟨st.fr.set hn hs,st.nw.set hs,st.lr⟩ (Ap.refl l) ⟨λy w k hy hk' => ?_,.inl fe.loc⟩ cr trivial;rw[X4]at hy
  by_cases e:y=x
  ·subst e;rw[if_pos rfl]at hy;injection hy with za;subst za
   have hkk:k=.local:=Ay (hk'.symm.trans hk);subst hkk;exact .inl ⟨fe.loc,v,if_pos rfl,hv⟩
  ·rw[if_neg e]at hy;have z:=er.nm y w k hy hk';rcases k with _ | _ | _ | _ | _
   case «local» =>
    rcases z with⟨q,w',hm,hr⟩ | z
    ·exact .inl ⟨q,w',(if_neg e).trans hm,hr⟩
    ·exact .inr z
   all_goals exact z
 have ceCase:env.scope.names.lookup x=some .cell->AI c FX env m l loc (Acb env x v) (ret ((),CQ x a loc)) EZ:=λhk=>by
  intro s Q E st er cr ok _ _;refine AK (cr.has x hk) ?_;rintro ad e1;refine Bg (cr.at_ x ad e1) ?_;rintro o u ho hd;refine wpAny_storeName_cell fe.eo.kind hk e1 ⟨o,(st.nw _ ho.1).1,hd⟩ λh' hc hs => ?_;refine Ah hc ?_;clear hc;rintro o' ho' hd';refine BS (st.turnOth ho (Agb hd) hs ho') ?_;rintro l' e' st' x' oo;have apart:∀y a',y≠x->env.cells.lookup y=some a'->¬a'=ad:=λy a' hy hl q=>hy (cr.inj y x ad (q▸hl) e1);refine ok () _ l' m () h' _ (by rw[e'];rfl) st' (x'.widen λb q=>⟨x,by rw[e1,q]⟩) ⟨λy w k hy hk' => ?_,.inl fe.loc⟩ ⟨λy a' hy => ?_,cr.has,cr.inj⟩ trivial
  ·rw[X4]at hy
   by_cases e:y=x
   ·subst e;rw[if_pos rfl]at hy;injection hy with za;subst za
    have hkk:k=.cell:=Ay (hk'.symm.trans hk);subst hkk;exact⟨ad,o',v,e1,oo,hd',hv.mono x'⟩
   ·rw[if_neg e]at hy;have z:=er.nm y w k hy hk';rcases k with _ | _ | _ | _ | _
    case «local» =>
     rcases z with⟨q,w',hm,hr⟩ | ⟨oC,m₂,w',q1,q2,q3,q4,q5⟩
     ·exact .inl ⟨q,w',hm,hr.mono x'⟩
     ·refine .inr ⟨oC,m₂,w',x'.oth _ q1 (.inr λq => ?_),q2,q3,q4,q5.mono x'⟩;have q':env.locals=ad:=q;have:=Sp st.lr.nd q1.1 ho.1 q';rw[Abm]at this;rw[this.2]at q2;exact q2 _ hd
    case cell =>
     refine Fd z ?_;clear z;rintro a' o2 w' q1 q2 q3 q4;exact⟨a',o2,w',q1,x'.oth _ q2 (.inr (apart y a' e q1)),q3,q4.mono x'⟩
    case free =>
     refine Fd z ?_;clear z;rintro a' o2 w' q1 q2 q3 q4;exact⟨a',o2,w',q1,x'.oth _ q2 (.inr (apart y a' e q1)),q3,q4.mono x'⟩
    all_goals exact z
  ·by_cases e:y=x
   ·subst e;have:a'=ad:=Ay (hy.symm.trans e1);subst this;exact⟨o',_,oo,hd'⟩
   ·refine Bg (cr.at_ y a' hy) ?_;rintro o2 u2 q2 q3;exact⟨o2,u2,x'.oth _ q2 (.inr (apart y a' e hy)),q3⟩
 split
 ·rename_i hk;exact loCase hk
 ·rename_i hk;exact ceCase hk
 ·exact AI.stuck
noncomputable def J3(Γ:AP)(f:BU)(ks:AF)(t:Expr)(v:CV)(loc:Ao):CM (Unit×Ao):=match Cc t with
 | some q=>Fl ks q.1 v loc
 | none=>match Fe t with
  | some q=>Nd loc (bnd (f ks loc q.1) λov=>bnd (MQ Γ ov q.2.1 v) λz=>ret ())
  | none=>match K6 t with
   | some q=>Nd loc (bnd (f ks loc q.1) λov=>bnd (f ks loc q.2.1) λiv=>bnd (IW ov iv v) λz=>ret ())
   | none=>Ar
noncomputable def Lp(Γ:AP)(f:BU)(ks:AF):List Expr->List CV->Ao->CM (Unit×Ao)
 | [],[],loc=>ret ((),loc)
 | t::ts,v::vs,loc=>bnd (J3 Γ f ks t v loc) λp=>Lp Γ f ks ts vs p.2
 | _,_,_=>Ar
noncomputable def GZ(Γ:AP)(f:BU)(ks:AF)(t:Expr)(v:CV)(loc:Ao):CM (Unit×Ao):=match FI t with
 | some q=>(match Pa v with
  | some vs=>if q.1.length=vs.length/\noStar q.1=true then Lp Γ f ks q.1 vs loc else Ar
  | none=>Ar)
 | none=>J3 Γ f ks t v loc
abbrev HG(c:FC)(FX:Bm)(env:Env)(f:BU):Prop:=∀m l loc,Cd c m env l loc->Bz c FX m env l (f env.scope.names loc)
theorem X5(fe:DD c env)(ok:AL c d)(g:Bs c.K Γ){f:BU}(hf:HG c FX env f){t:Expr}{v:Ad}{a:CV}(hv:VR l v a):AI c FX env m l loc (assign t env v) (J3 Γ f env.scope.names t a loc) EZ:=by
 unfold J3;rcases hq:Cc t with _ | q
 ·rcases ha:Fe t with _ | q
  ·rcases hs:K6 t with _ | q
   ·exact AI.stuck
   ·obtain rfl:=Agg hs;clear hs ha hq;dsimp only;intro s Q E st er;refine AI.lift (V:=EZ) ?_ s Q E st er;rw[arm_assign_Subscript];refine Aa.bind (Aa.hold _ ((hf m l loc er).here q.1)) λov b l1 z x1 hov=>Aa.bind (Aa.hold _ (((hf m l loc er).mono x1).here q.2.1)) λiv b2 l2 z x2 hiv => ?_;refine Aa.stand _ (Aa.bind (Aa.hold _ (AgP (hov.mono x2) hiv ((hv.mono x1).mono x2))) λz z l3 z z z => ?_);exact Aa.now λs Q E st q=>Vg (q () s.toks trivial)
  ·obtain rfl:=MB ha;clear ha hq;dsimp only;intro s Q E st er;refine AI.lift (V:=EZ) ?_ s Q E st er;rw[Aqr];refine Aa.bind (Aa.hold _ ((hf m l loc er).here q.1)) λov b l1 z x1 hov=>Aa.stand _ (Aa.bind (Aa.hold _ (Ahc ok g hov (hv.mono x1))) λz z l2 z z z => ?_);exact Aa.now λs Q E st q=>Vg (q () s.toks trivial)
 ·obtain rfl:=FH hq;clear hq;exact λs Q E st er cr ok exc ns=>Ab4 (Ss fe hv s Q E st er cr ok exc ns)
theorem Su{t:Expr}{ts:List Expr}(h:Dh t=false):Ge (t::ts) env=(false,assign t env)::Ge ts env:=by
 rcases t with⟨⟩<;>first | rfl | (exfalso;injection h)
theorem AiJ:∀(ts:List Expr),noStar ts=true->(Ge ts env).length=ts.length/\(Ge ts env).findIdx? (·.1)=none:=by
 intro z1
 induction z1 with
 | nil =>
  intro z2;exact⟨rfl,rfl⟩
 | cons t ts ih =>
  intro h;have h0:=MG h t (.head _);simp only[noStar,Bf]at h;refine Au (ih h.2) ?_;rintro h1 h2;rw[Su h0];refine⟨by rw[BN,BN,h1],?_⟩
  rw[Aqo];simp[h2]
set_option tactic.hygienic true in
theorem AiK(fe:DD c env)(ok:AL c d)(g:Bs c.K Γ){f:BU}(hf:HG c FX env f):∀(ts:List Expr) (vs:List Ad) (cs:List CV) (m:Ac->Option Ad) (l:Am) (loc:Ao),noStar ts=true->AA l vs cs ->
  AI c FX env m l loc (KO ((Ge ts env).map (·.2)) vs) (Lp Γ f env.scope.names ts cs loc) EZ:=by
 intro z1
 induction z1 with
 | nil =>
  intro z2;rcases z2 with _ | ⟨z3,z4⟩
  ·intro cs m l loc z5 hv;rcases hv with⟨⟩
   exact AI.pure (V:=EZ) trivial
  ·intro cs m l loc z6 hv;rcases hv with⟨⟩
   exact AI.stuck
 | cons t ts ih =>
  intro z7;rcases z7 with _ | ⟨v,vs⟩
  ·intro cs m l loc z8 hv;rcases hv with⟨⟩
   exact AI.stuck
  ·intro cs m l loc hn hv;rcases hv with _ | ⟨h1,h2⟩
   rename_i c0 cs;have h0:=MG hn t (.head _);simp only[noStar,Bf]at hn;rw[Su h0];show AI c FX env m l loc (holding vs (assign t env v) >>= λz=>KO ((Ge ts env).map (·.2)) vs) (bnd (J3 Γ f env.scope.names t c0 loc) λp=>Lp Γ f env.scope.names ts cs p.2) EZ;exact AI.bind (AI.hold _ (X5 fe ok g hf h1)) λz z loc' m' l' z x z=>ih vs cs m' l' loc' hn.2 (h2.mono x)
theorem X6(fe:DD c env)(ok:AL c d)(g:Bs c.K Γ){f:BU}(hf:HG c FX env f){t:Expr}{v:Ad}{a:CV}(hv:VR l v a):AI c FX env m l loc (assign t env v) (GZ Γ f env.scope.names t a loc) EZ:=by
 unfold GZ;rcases hq:FI t with _ | ⟨ts,k,p⟩
 case some =>
  obtain rfl:t=.Tuple ts k p:=MC hq;clear hq;dsimp only;rcases hc:Pa a with _ | cvs
  ·exact AI.stuck
  ·obtain rfl:=WY hc;clear hc;refine AI.guard λzz => ?_;refine Au zz ?_;clear zz;rintro h1 h2;refine CP hv.tup_inv ?_;rintro _ _ _ rfl ho hr;intro s Q E st er cr okk exc ns;refine Au (AiJ (env:=env) ts h2) ?_;rintro y1 y2;refine Aqp ok.handled ⟨_,(st.nw _ ho.1).1,rfl,_,rfl⟩ (by rw[y1,h1,<- hr.length];simp) y2 λh' ex => ?_
   have st':St c m l h':=st.keeps λb o q=>ex b o (Cb (BE q)) q;have:=AiK fe ok g hf ts _ _ m l loc h2 hr { s with heap:=h' } Q E st' er cr (λb loc' l' m' a h'' tk e st2 x er' cr' v=>okk b loc' l' m' a h'' tk e st2 x er' cr' v) (λx l' e h'' tk hx xx fx=>exc x l' e h'' tk hx xx fx) ns
   exact this
 ·exact X5 fe ok g hf hv
end
end
section
inductive Bp where
 | next
 | ret (v:CV)
set_option tactic.hygienic true in
noncomputable def FR(l:Am)(a:FE):Bp->Prop
 | .next=>a=.next
 | .ret v=>∃w,a=.ret w/\VR l w v
noncomputable def Sv(targets:List Expr)(value:Expr):Option (List Expr×List Expr):=match targets,value with
 | [.Tuple ts _ _],.Tuple vs _ _ | [.List ts _],.Tuple vs _ _=>some (ts,vs)
 | _,_=>none
noncomputable def Gq(ks:AF)(ts:List Expr):List Ac:=ts.filterMap fun
 | .Name id pos=>if ks.lookup id == some NameKind.local && pos.line == (ts.head?.map (·.pos.line)).getD 0 then some id else none
 | _=>none
noncomputable def Lq(ks:AF)(targets:List Expr)(value:Expr):Option (Option (List Ac)):=match Sv targets value with
 | some (ts,vs)=>if(!(ts.length == 2 || ts.length == 3) || vs.length != ts.length)=true then some none
  else if(vs.any fun | .Starred ..=>true | _=>false)=true then some none
  else if((Gq ks ts).length != ts.length || (Gq ks ts).eraseDups.length != (Gq ks ts).length)=true then some none
  else if vs.all (Acd 8)=true then some none
  else if vs.all (Ace 8)=true then none
  else some (some (Gq ks ts))
 | none=>some none
theorem X7(hk:env.blockKind=.function){targets:List Expr}{value:Expr}{r:Option (List Ac)}(h:Lq env.scope.names targets value=some r):Acf targets value env=pure r:=by
 have hb:(env.blockKind != .function)=false:=by rw[hk];rfl
 have e:Acf targets value env=(match Sv targets value with
  | some (ts,vs)=>if(!(ts.length == 2 || ts.length == 3) || vs.length != ts.length || env.blockKind != .function)=true then pure none
   else if(vs.any fun | .Starred ..=>true | _=>false)=true then pure none
   else if((Gq env.scope.names ts).length != ts.length || (Gq env.scope.names ts).eraseDups.length != (Gq env.scope.names ts).length)=true then pure none
   else if vs.all (Acd 8)=true then pure none
   else if vs.all (Ace 8)=true then(unsupported "assign.tuple-of-constant-expressions:order-of-the-stores" >>= λ(_:PUnit)=>pure (some (Gq env.scope.names ts)))
   else pure (some (Gq env.scope.names ts))
  | none=>pure none:Sem (Option (List Ac))):=by
  rcases targets with _ | ⟨t,r⟩
  ·rfl
  ·rcases r with _ | ⟨_,_⟩
   ·rcases t with⟨⟩<;>first | rfl | (rcases value with⟨⟩<;>rfl)
   ·rcases t with⟨⟩<;>rfl
 rw[e];unfold Lq at h;rw[hb];rcases hp:Sv targets value with _ | p
 ·rw[hp]at h;(injection h with za;subst za);rfl
 ·rcases p with⟨ts,vs⟩
  rw[hp]at h;dsimp only at h ⊢;rw[Bool.or_false]
  by_cases h1:(!(ts.length == 2 || ts.length == 3) || vs.length != ts.length)=true
  ·rw[if_pos h1]at h ⊢;(injection h with za;subst za);rfl
  rw[if_neg h1]at h ⊢
  by_cases h2:(vs.any fun | .Starred ..=>true | _=>false)=true
  ·rw[if_pos h2]at h ⊢;(injection h with za;subst za);rfl
  rw[if_neg h2]at h ⊢
  by_cases h3:((Gq env.scope.names ts).length != ts.length || (Gq env.scope.names ts).eraseDups.length != (Gq env.scope.names ts).length)=true
  ·rw[if_pos h3]at h ⊢;(injection h with za;subst za);rfl
  rw[if_neg h3]at h ⊢
  by_cases h4:vs.all (Acd 8)=true
  ·rw[if_pos h4]at h ⊢;(injection h with za;subst za);rfl
  rw[if_neg h4]at h ⊢
  by_cases h5:vs.all (Ace 8)=true
  ·rw[if_pos h5]at h;(exfalso;injection h)
  rw[if_neg h5]at h ⊢;injection h with za;subst za;rfl
noncomputable def Ic(ks:AF)(value t:Expr):Bool:=match O8 value with
 | some q=>(match Cc t with
  | some w=>(ks.lookup w.1 == some NameKind.local) && w.2.line == q.2.2.2.line && !(q.2.2.1.names.any λ(n,k)=>n == w.1 && (k == .local || k == .cell))
  | none=>false)
 | none=>false
noncomputable def Lr(e:Expr):Bool := !(EP e.ctorIdx 8 || EP e.ctorIdx 9 || EP e.ctorIdx 10)
noncomputable def PA(e:Expr):Bool := !(EP e.ctorIdx 9 || EP e.ctorIdx 10)
noncomputable def Ls(ks:AF):List Ac->List CV->Ao->CM (Unit×Ao)
 | [],[],loc=>ret ((),loc)
 | x::xs,v::vs,loc=>bnd (Fl ks x v loc) λp=>Ls ks xs vs p.2
 | _,_,_=>Ar
noncomputable def J4(Γ:AP)(f:BU)(ks:AF)(t value:Expr)(v:CV)(loc:Ao):CM (Unit×Ao):=match Lq ks [t] value with
 | none=>Ar
 | some none=>GZ Γ f ks t v loc
 | some (some names)=>(match v with
  | .tup vs=>if vs.length=names.length then Ls ks names.reverse vs.reverse loc else Ar
  | _=>Ar)
section
variable {c:FC}{m:Ac->Option Ad}{l l':Am}{d:Nat}{env:Env}{loc:Ao}{Γ:AP}{FX:Bm}
theorem Sw(fe:DD c env):env.blockKind=.function:=by
 simp only[Env.blockKind,fe.eo.kind,ScopeKind.isAnnotationScope,Bool.false_and,JH,if_false]
theorem PC(fe:DD c env){value t:Expr}{n:Nat}(h:PA value=true):swapsWithSole [t] value n env=pure (Ic env.scope.names value t):=by
 show Vz value (some t) n env=_;have kk:∀x,env.kindOf x=env.scope.names.lookup x:=λz=>rfl;have bk:=Sw fe;unfold Vz Ic;rcases value with⟨⟩<;>first | rfl | ((first | (exfalso;injection h;done) | (rcases h with⟨⟩));done) | skip
 rcases t with⟨⟩<;>first | rfl | skip
 simp only[bk,kk];rfl
set_option tactic.hygienic true in
theorem AiL(fe:DD c env):∀(xs:List Ac) (vs:List Ad) (cs:List CV) (m:Ac->Option Ad) (l:Am) (loc:Ao),AA l vs cs ->
  AI c FX env m l loc (KO (xs.map λn=>bindName env n) vs) (Ls env.scope.names xs cs loc) EZ:=by
 intro z1
 induction z1 with
 | nil =>
  intro z2;rcases z2 with _ | ⟨z3,z4⟩
  ·intro cs m l loc hv;rcases hv with⟨⟩
   exact AI.pure (V:=EZ) trivial
  ·intro cs m l loc hv;rcases hv with⟨⟩
   exact AI.stuck
 | cons x xs ih =>
  intro z5;rcases z5 with _ | ⟨v,vs⟩
  ·intro cs m l loc hv;rcases hv with⟨⟩
   exact AI.stuck
  ·intro cs m l loc hv;rcases hv with _ | ⟨h1,h2⟩
   rename_i c0 cs;show AI c FX env m l loc (holding vs (bindName env x v) >>= λz=>KO (xs.map λn=>bindName env n) vs) (bnd (Fl env.scope.names x c0 loc) λp=>Ls env.scope.names xs cs p.2) EZ;exact AI.bind (AI.hold _ λs Q E st er cr ok exc ns=>wpAny_bindName (Ss fe h1 s Q E st er cr ok exc ns)) λz z loc' m' l' z x' z=>ih vs cs m' l' loc' (h2.mono x')
set_option tactic.hygienic true in
theorem X8(fe:DD c env)(ok:AL c d)(g:Bs c.K Γ){f:BU}(hf:HG c FX env f){t value:Expr}{v:Ad}{a:CV}(hv:VR l v a) :
  AI c FX env m l loc (Acf [t] value env >>= λsw=>assignStores env v sw ((Ge [t] env).map (·.2))) (bnd (J4 Γ f env.scope.names t value a loc) λp=>ret (Bp.next,p.2)) (λl'=>FR l'):=by
 unfold J4;rcases hs:Lq env.scope.names [t] value with _ | r
 ·exact AI.stuck
 ·rw[X7 (Sw fe) hs];rcases r with _ | names
  ·have key:AI c FX env m l loc (assign t env v >>= λz=>(pure .next:Sem FE)) (bnd (GZ Γ f env.scope.names t a loc) λp=>ret (Bp.next,p.2)) (λl'=>FR l') :=
    AI.bind (X6 fe ok g hf hv) λz z loc' m' l' z x z=>AI.pure (V:=λl'=>FR l') rfl
   by_cases hst:Dh t=true
   ·rcases t with⟨⟩<;>first | ((first | (exfalso;injection hst;done) | (rcases hst with⟨⟩));done) | exact AI.of_eq AI.stuck rfl
   ·have e:(Ge [t] env).map (·.2)=[assign t env]:=by rw[Su (Rb.mpr hst)];rfl
    rw[e];exact key
  ·rcases a with _ | _ | _ | _ | cvs | _
   case tup =>
    intro s Q E st er cr okk exc ns;refine CP hv.tup_inv ?_;rintro _ _ _ rfl ho hr;rename_i ad ws k
    by_cases hl:cvs.length=names.length
    ·simp only[if_pos hl]at okk exc ns;have hlen:=hr.length;refine Aj (AD ?_);show wpAny _ _ (rule "assign.swapped-stores" >>= λz=>unpackItems (.ref ad) names.length none >>= λitems=>KO (names.reverse.map λn=>bindName env n) items.reverse >>= λz=>(pure .next:Sem FE)) Q E s
     refine Aj (AbJ (Aj ?_));have hsz:names.length=ws.toArray.size:=by simp;exact Afi hl hlen
     rw[hsz];refine unpackItems_tuple ok.handled (st.isTup ho) λh' ex => ?_;have st':St c m l h':=st.keeps λb o q=>ex b o (Cb (BE q)) q;have key:AI c FX env m l loc (KO (names.reverse.map λn=>bindName env n) ws.reverse >>= λz=>(pure .next:Sem FE)) (bnd (Ls env.scope.names names.reverse cvs.reverse loc) λp=>ret (Bp.next,p.2)) (λl'=>FR l') :=
      AI.bind (AiL fe _ _ _ m l loc hr.rev) λz z loc' m' l' z x z=>AI.pure (V:=λl'=>FR l') rfl
     have e:ws.toArray.toList.reverse=ws.reverse:=by simp
     rw[e];exact key { s with heap:=h' } Q E st' er cr (λb loc' l' m' a h'' tk e=>okk b loc' l' m' a h'' tk e) (λx l' e h'' tk=>exc x l' e h'' tk) ns
    ·simp only[if_neg hl]at ns;exact absurd rfl ns
   all_goals exact AI.of_eq AI.stuck rfl
end
end
variable {Bc:CV->Ao->CM (Bp×Ao)}
section
abbrev FV:Am->FE->Bp->Prop:=λl=>FR l
noncomputable abbrev XT:=List AN->Ao->CM (Bp×Ao)
structure J5(c:FC)(FX:Bm):Prop where
 own:∀(env:Env) (l:Am) (x:CX) (e:Ad) (s:Aq) (E:Ad->Aq->Prop),env=c.fenv->FX l x e s.heap->(∀h',FX l x e h'->E e { s with heap:=h' })->notedBy c.M c.A env (VA c.M c.A env E) e s
 raised:∀(m:Ac->Option Ad) (l:Am) (b0 x C:Af) (as:List (Ac×CV)) (h:Bb),as≠[]->St c m l h->XS b0 l x C as->∃l':Am,l'.σ=l.σ/\Ap (·=x) l l'/\FX l' ⟨C,as⟩ (.ref x) h
set_option tactic.hygienic true in
noncomputable def Lu(S:AN->Ao->CM (Bp×Ao)):XT
 | [],loc=>ret (.next,loc)
 | s::r,loc=>bnd (S s loc) λp=>match p.1 with
  | .next=>Lu S r p.2
  | .ret v=>ret (.ret v,p.2)
set_option tactic.hygienic true in
theorem AiM:∀(S:AN->Ao->CM (Bp×Ao)) (x:Ao) (s:AN) (r:List AN),Lu S (s::r) x=bnd (S s x) λ(p:Bp×Ao)=>match p.fst with | Bp.next=>Lu S r p.snd | Bp.ret v=>ret (Bp.ret v,p.snd):=by intros;rfl
set_option tactic.hygienic true in
noncomputable def Jd(g:C3)(X:XT)(ks:AF)(test:Expr)(body:List AN):Nat->Ao->CM (Bp×Ao)
 | 0,_=>Ar
 | n+1,loc=>bnd (g ks loc test) λq=>if q=true then bnd (X body loc) λp=>match p.1 with
   | .next=>Jd g X ks test body n p.2
   | .ret v=>ret (.ret v,p.2)
  else ret (.next,loc)
set_option tactic.hygienic true in
theorem X9:∀(g:C3) (X:XT) (ks:AF) (test:Expr) (body:List AN) (x:Ao) (n:Nat),Jd g X ks test body n.succ x=bnd (g ks x test) λ(q:Bool)=>if q=true then bnd (X body x) λ(p:Bp×Ao)=>match p.fst with | Bp.next=>Jd g X ks test body n p.snd | Bp.ret v=>ret (Bp.ret v,p.snd)else ret (Bp.next,x):=by intros;rfl
set_option tactic.hygienic true in
noncomputable def Gr(step:CV->Ao->CM (Bp×Ao))(src:Cr):Nat->Nat->Ao->CM (Bp×Ao)
 | 0,_,_=>Ar
 | n+1,i,loc=>λσ=>match Ce σ i src with
  | none=>.stuck
  | some none=>.ok (.next,loc) σ
  | some (some v)=>bnd (step v loc) (λq=>match q.1 with
   | .next=>Gr step src n (i+1) q.2
   | .ret v=>ret (.ret v,q.2)) σ
set_option tactic.hygienic true in
theorem AiN:∀(step:CV->Ao->CM (Bp×Ao)) (src:Cr) (x:Nat) (x_1:Ao) (n:Nat),Gr step src n.succ x x_1=λ(σ:CH)=>match Ce σ x src with | none=>B8.stuck | some none=>B8.ok (Bp.next,x_1) σ | some (some v)=>bnd (step v x_1) (λ(q:Bp×Ao)=>match q.fst with | Bp.next=>Gr step src n (x+1) q.snd | Bp.ret v=>ret (Bp.ret v,q.snd)) σ:=by intros;rfl
noncomputable def Je(Γ:AP)(f:BU)(X:XT)(ks:AF)(target:Expr)(body:List AN)(src:Cr)(n i:Nat)(loc:Ao):CM (Bp×Ao):=Gr (λv loc=>bnd (GZ Γ f ks target v loc) λp=>X body p.2) src n i loc
set_option tactic.hygienic true in
theorem AiO{f:BU}{X:XT}:Je Γ f X ks target body src (n+1) i loc σ=match Ce σ i src with
  | none=>B8.stuck
  | some none=>B8.ok (Bp.next,loc) σ
  | some (some v)=>bnd (GZ Γ f ks target v loc) (λp=>bnd (X body p.2) λq=>match q.1 with
   | .next=>Je Γ f X ks target body src n (i+1) q.2
   | .ret v=>ret (.ret v,q.2)) σ:=by
 unfold Je;show(match Ce σ i src with
  | none=>B8.stuck
  | some none=>B8.ok (Bp.next,loc) σ
  | some (some v)=>bnd (bnd (GZ Γ f ks target v loc) λp=>X body p.2) (λq=>match q.1 with
   | .next=>Gr (λv loc=>bnd (GZ Γ f ks target v loc) λp=>X body p.2) src n (i+1) q.2
   | .ret v=>ret (.ret v,q.2)) σ)=_
 rcases Ce σ i src with _ | o
 ·rfl
 ·rcases o with _ | v
  ·rfl
  ·dsimp only;rw[Ez]
section
variable {c:FC}{m:Ac->Option Ad}{l l':Am}{d:Nat}{env:Env}{loc:Ao}{Γ:AP}{FX:Bm}
abbrev Sx(c:FC)(FX:Bm)(env:Env)(g:C3):Prop:=∀m l loc,Cd c m env l loc->Ea c FX m env l (g env.scope.names loc)
abbrev Nf(c:FC)(FX:Bm)(env:Env)(X:XT):Prop:=∀body m l loc,AI c FX env m l loc (execs body env) (X body loc) FV
set_option tactic.hygienic true in
theorem AiP{S:AN->Ao->CM (Bp×Ao)}(h:∀st m l loc,AI c FX env m l loc (exec st env) (S st loc) FV):∀(body:List AN) (m:Ac->Option Ad) (l:Am) (loc:Ao),AI c FX env m l loc (execs body env) (Lu S body loc) FV:=by
 intro z1
 induction z1 with
 | nil =>
  intro m l loc;exact λs Q E st er cr ok z z=>OP (ok .next loc l m .next s.heap s.toks rfl st (Ap.refl l) er cr rfl)
 | cons st r ih =>
  intro m l loc s Q E Kr er cr ok exc ns;rw[AiM]at ok exc ns;refine KQ (h st m l loc s _ E Kr er cr (λfl loc' l' m' fl' h' tk e st' x er' cr' v => ?_) (λx l' e h' tk hx xx fx=>exc x l' e h' tk (DM hx) xx fx) λq=>ns (Dl q));rw[CT e]at ok exc ns;rcases fl with _ | cv
  ·have v':fl'=.next:=v
   subst v';exact ih m' l' loc' _ Q E st' er' cr' (λb loc2 l2 m2 a2 h2 tk2 e2 st2 x2 er2 cr2 v2=>ok b loc2 l2 m2 a2 h2 tk2 e2 st2 (x.trans x2) er2 cr2 v2) (λy l2 e2 h2 tk2 hx2 xx2 fx2=>exc y l2 e2 h2 tk2 hx2 (x.trans xx2) fx2) ns
  ·refine Ah v ?_;clear v;rintro w rfl hw;exact ok (.ret cv) loc' l' m' (.ret w) h' tk rfl st' x er' cr' ⟨w,rfl,hw⟩
theorem AiQ{g:C3}{X:XT}(hg:Sx c FX env g)(hX:Nf c FX env X){test:Expr}{a b:List AN}{pos:Pos} :
  AI c FX env m l loc (exec (.If test a b pos) env) (bnd (g env.scope.names loc test) λq=>if q=true then X a loc else X b loc) FV:=by
 intro s Q E st er cr ok exc ns;refine wpAny_If ((hg m l loc er).here test s _ E st (λq l' r h' tk e st' x v => ?_) (λx l' e h' tk hx xx fx=>exc x l' e h' tk (DM hx) xx.weaken fx) λq=>ns (Dl q));have v':r=q:=v;subst v';rw[CT e]at ok exc ns;rcases r with _ | _
 ·rw[if_neg CD]at ok exc ns;rw[if_neg CD];exact hX b m l' loc _ Q E st' (er.mono x) (cr.mono x) (λb loc2 l2 m2 a2 h2 tk2 e2 st2 x2 er2 cr2 v2=>ok b loc2 l2 m2 a2 h2 tk2 e2 st2 (x.weaken.trans x2) er2 cr2 v2) (λy l2 e2 h2 tk2 hx2 xx2 fx2=>exc y l2 e2 h2 tk2 hx2 (x.weaken.trans xx2) fx2) ns
 ·rw[if_pos rfl]at ok exc ns;rw[if_pos rfl];exact hX a m l' loc _ Q E st' (er.mono x) (cr.mono x) (λb loc2 l2 m2 a2 h2 tk2 e2 st2 x2 er2 cr2 v2=>ok b loc2 l2 m2 a2 h2 tk2 e2 st2 (x.weaken.trans x2) er2 cr2 v2) (λy l2 e2 h2 tk2 hx2 xx2 fx2=>exc y l2 e2 h2 tk2 hx2 (x.weaken.trans xx2) fx2) ns
theorem AiR{f:BU}(hf:HG c FX env f){e:Expr}{pos:Pos}:AI c FX env m l loc (exec (.Return (some e) pos) env) (bnd (f env.scope.names loc e) λv=>ret (.ret v,loc)) FV:=by
 intro s Q E st er cr ok exc ns;refine Aqs ((hf m l loc er).here e s _ E st (λv l' w h' tk e st' x hv => ?_) (λx l' e h' tk hx xx fx=>exc x l' e h' tk (DM hx) xx.weaken fx) λq=>ns (Dl q));exact ok (.ret v) loc l' m (.ret w) h' tk (CT e) st' x.weaken (er.mono x) (cr.mono x) ⟨w,rfl,hv⟩
theorem AiS:AI c FX env m l loc (exec (.Return none pos) env) (ret (.ret .none,loc)) FV :=
 λs Q E st er cr ok z z=>wpAny_Return_none (ok (.ret .none) loc l m (.ret .none) s.heap s.toks rfl st (Ap.refl l) er cr ⟨.none,rfl,.none⟩)
set_option tactic.hygienic true in
theorem AiT:AI c FX env m l loc (exec (.Pass pos) env) (ret (.next,loc)) FV :=
 λs Q E st er cr ok z z=>wpAny_Pass (ok .next loc l m .next s.heap s.toks rfl st (Ap.refl l) er cr rfl)
theorem Sy(h:Lr value=true):Vz value none n env=pure false:=by
 unfold Vz;rcases value with⟨⟩<;>first | rfl | (exfalso;injection h)
set_option tactic.hygienic true in
theorem Yb(fe:DD c env){f:BU}(hf:HG c FX env f){e:Expr}{pos:Pos}:AI c FX env m l loc (exec (.Expr e pos) env) (if Lr e=true then bnd (f env.scope.names loc e) λz=>ret (.next,loc)else Ar) FV:=by
 refine AI.guard λhn => ?_;intro s Q E st er cr ok exc ns;have hi:OQ env=false:=by unfold OQ;rw[fe.eo.kind];rfl
 refine Acg ((hf m l loc er).here e s _ E st (λv l' w h' tk e st' x hv => ?_) (λx l' e h' tk hx xx fx=>exc x l' e h' tk (DM hx) xx.weaken fx) λq=>ns (Dl q)) hi (Sy hn);exact ok .next loc l' m .next h' tk (CT e) st' x.weaken (er.mono x) (cr.mono x) rfl
inductive Yc(c:FC)(env:Env)(l:Am)(s:Aq)(F:Nat->Ao->CM (Bp×Ao))(RES:B8 (Bp×Ao))(k:Nat):Aq->Prop
 | mk (l1:Am) (h':Bb) (tk:Nat) (m1:Ac->Option Ad) (EG:Ao) (st:St c m1 l1 h') (x:Ap (Dc env) l l1) (er:Cd c m1 env l1 EG) (cr:FT env l1) (e:F k EG l1.σ=RES):Yc c env l s F RES k (put s h' tk)
set_option tactic.hygienic true in
theorem AiU(fx:J5 c FX)(fe:DD c env){g:C3}{X:XT}(hg:Sx c FX env g)(hX:Nf c FX env X){test:Expr}{body:List AN}{pos:Pos}{N:Nat} :
  AI c FX env m l loc (exec (.While test body [] pos) env) (Jd g X env.scope.names test body N loc) FV:=by
 intro s Q E st er cr ok exc ns
 generalize hR:Jd g X env.scope.names test body N loc l.σ=RES at ns
 have ok':=ok;refine wpAny_While (codeAny_whileLoop (Yc c env l s (Jd g X env.scope.names test body) RES) ?_ N (.mk l s.heap s.toks m loc st (Ap.refl l) er cr hR));rintro k s' ⟨l1,h1,tk1,m1,EG,st1,x1,er1,cr1,e1⟩;have raise:∀x l' e h' tk,RES=.exc x l'.σ->Ap (Dc env) l l'->FX l' x e h'->notedBy c.M c.A env (λe s'=>VA c.M c.A env E e s') e (put s h' tk):=λx l' e h' tk hx xx hfx =>
  fx.own env l' x e _ E fe.fen hfx λh2 hfx2=>exc x l' e h2 tk (hR.trans hx) xx hfx2
 rcases k with _ | k
 ·exact absurd e1.symm ns
 ·rw[X9]at e1;refine(hg m1 l1 EG er1).here test _ _ _ st1 (λq l2 r h2 tk2 e2 st2 x2 v => ?_) (λx l' e h' tk hx xx hfx=>raise x l' e h' tk (e1.symm.trans (DM hx)) (x1.trans xx.weaken) hfx) λq=>ns (e1.symm.trans (Dl q));have v':r=q:=v;subst v';rw[CT e2]at e1;have x12:=x1.trans (x2.weaken (D:=Dc env));rcases r with _ | _
  ·rw[if_neg CD]at e1;rw[if_neg CD];exact OP (ok .next EG l2 m1 .next h2 tk2 (hR.trans e1.symm) st2 x12 (er1.mono x2) (cr1.mono x2) rfl)
  ·rw[if_pos rfl]at e1;rw[if_pos rfl];refine hX body m1 l2 EG _ _ _ st2 (er1.mono x2) (cr1.mono x2) (λfl loc3 l3 m3 fl' h3 tk3 e3 st3 x3 er3 cr3 v3 => ?_) (λx l' e h' tk hx xx hfx=>raise x l' e h' tk (e1.symm.trans (DM hx)) (x12.trans xx) hfx) λq=>ns (e1.symm.trans (Dl q));rw[CT e3]at e1;rcases fl with _ | cv
   ·have v':fl'=.next:=v3
    subst v';exact⟨k,JI _,.mk l3 h3 tk3 m3 loc3 st3 (x12.trans x3) er3 cr3 e1⟩
   ·refine Ah v3 ?_;clear v3;rintro w rfl hw;exact ok (.ret cv) loc3 l3 m3 (.ret w) h3 tk3 (hR.trans e1.symm) st3 (x12.trans x3) er3 cr3 ⟨w,rfl,hw⟩
end
end
section
section
variable {c:FC}{m:Ac->Option Ad}{l l':Am}{d:Nat}{env:Env}{loc:Ao}{Γ:AP}{FX:Bm}
theorem H6.monoA(x:Ap D l l')(h1:∀y a,env.cells.lookup y=some a->¬D a)(h2:¬D env.locals){n:Ac}{k:GJ}{v:CV}(h:H6 c m env l n k v):H6 c m env l' n k v:=by
 rcases k with _ | _ | _ | _ | _
 case «local» =>
  rcases h with⟨e,w,hm,hv⟩ | ⟨oC,m₂,w,ho,hc,hn,hm,hv⟩
  ·exact .inl ⟨e,w,hm,hv.mono x⟩
  ·exact .inr ⟨oC,m₂,w,x.oth _ ho (.inr h2),hc,hn,hm,hv.mono x⟩
 case cell =>
  refine Fd h ?_;clear h;rintro a o w e ho hd hv;exact⟨a,o,w,e,x.oth _ ho (.inr (h1 _ _ e)),hd,hv.mono x⟩
 case free =>
  refine Fd h ?_;clear h;rintro a o w e ho hd hv;exact⟨a,o,w,e,x.oth _ ho (.inr (h1 _ _ e)),hd,hv.mono x⟩
 all_goals exact h
theorem Cd.monoA(x:Ap D l l')(h1:∀y a,env.cells.lookup y=some a->¬D a)(h2:¬D env.locals)(h:Cd c m env l loc):Cd c m env l' loc :=
 ⟨λy v k e q=>(h.nm y v k e q).monoA x h1 h2,h.lo.imp id λ⟨o,ho⟩=>⟨o,x.oth _ ho (.inr h2)⟩⟩
theorem FT.monoA(x:Ap D l l')(h1:∀y a,env.cells.lookup y=some a->¬D a)(h:FT env l):FT env l' :=
 ⟨λy a hy=>by
  refine Bg (h.at_ y a hy) ?_;rintro o u ho hd;exact⟨o,u,x.oth _ ho (.inr (h1 _ _ hy)),hd⟩,h.has,h.inj⟩
inductive Yd(c:FC)(env:Env)(J:Af->Prop)(l2:Am)(I:Af)(src:Cr)(s:Aq)(F:Nat->Nat->Ao->CM (Bp×Ao))(RES:B8 (Bp×Ao))(k:Nat):Aq->Prop
 | mk (l1:Am) (h':Bb) (tk:Nat) (m1:Ac->Option Ad) (EG:Ao) (i:Nat) (st:St c m1 l1 h') (x:Ap (λa=>J a\/Dc env a) l2 l1) (er:Cd c m1 env l1 EG) (cr:FT env l1) (hi:Gp J l1 i I src) (e:F k i EG l1.σ=RES):Yd c env J l2 I src s F RES k (put s h' tk)
set_option tactic.hygienic true in
theorem AiV(fx:J5 c FX)(fe:DD c env)(ok:AL c d)(g:Bs c.K Γ){f:BU}(hf:HG c FX env f){X:XT}(hX:Nf c FX env X){target iter:Expr}{body:List AN}{pos:Pos}{N:Nat} :
  AI c FX env m l loc (exec (.For target iter body [] pos) env) (if HF iter=true then bnd (GY (f env.scope.names loc) Γ env.scope.names iter) λsrc=>if HD target src=true then Je Γ f X env.scope.names target body src N 0 loc else Ar else Ar) FV:=by
 refine AI.guard λhset => ?_;intro s Q E st er cr okk exc ns;refine wpAny_For ?_ (XZ hset);refine XY ok g fe.eo (hf m l loc er) iter s _ E st (λsrc l1 v h1 tk1 e1 st1 x1 hsrc => ?_) (λx l' e h' tk hx xx fx=>exc x l' e h' tk (DM hx) xx.weaken fx) λq=>ns (Dl q);rw[CT e1]at okk exc ns
 by_cases hfit:HD target src=true
 ·rw[if_pos hfit]at okk exc ns;refine XO st1 x1 hsrc λI l2 h2 tk2 J st2 x2 e2 hi hJ hJ0 => ?_;rw[<- e2]at okk exc ns;have x02:Ap No l l2:=x1.trans x2;have hJc:∀y a,env.cells.lookup y=some a->¬J a:=λy a hy=>by
   refine Bg (cr.at_ y a hy) ?_;rintro o u ho _;exact hJ0 _ ho
  have hJl:¬J env.locals:=λq=>by
   refine Ah (hJ _ q) ?_;rintro o ho _;exact(st2.nw _ ho.1).2.1 fe.loc
  have hJD:∀a,J a->¬Dc env a:=λa q ⟨y,hy⟩=>hJc y a hy q;have all:∀l',Ap (λa=>J a\/Dc env a) l2 l'->Ap (Dc env) l l':=λl' x=>((x02.weaken).trans x).narrow λp hp q=>q.elim (λq=>absurd q (hJ0 p hp)) id
  generalize hR:Je Γ f X env.scope.names target body src N 0 loc l2.σ=RES at ns
  have raise:∀x l' e h' tk,RES=.exc x l'.σ->Ap (λa=>J a\/Dc env a) l2 l'->FX l' x e h'->notedBy c.M c.A env (λe s'=>VA c.M c.A env E e s') e (put s h' tk):=λx l' e h' tk hx xx hfx =>
   fx.own env l' x e _ E fe.fen hfx λh2 hfx2=>exc x l' e h2 tk (hR.trans hx) (all l' xx) hfx2
  refine codeAny_forLoop_any (Yd c env J l2 I src s (Je Γ f X env.scope.names target body src) RES) ?_ N (.mk l2 h2 tk2 m loc 0 st2 (Ap.refl l2) (er.mono x02) (cr.mono x02) hi hR);rintro k s' ⟨l3,h3,tk3,m3,loc3,i,st3,x3,er3,cr3,hi3,e3⟩;rcases k with _ | k
  ·exact absurd e3.symm ns
  ·rw[AiO]at e3;rcases hit:Ce l3.σ i src with _ | o
   ·rw[hit]at e3;exact absurd e3.symm ns
   ·rw[hit]at e3;rcases o with _ | cv
    ·dsimp only at e3;refine XN ok.handled st3 hi3 hit λl4 h4 tk4 st4 x4 e4 => ?_;refine OP (okk .next loc3 l4 m3 .next h4 tk4 (by rw[hR,<- e3,e4]) st4 (all l4 (x3.trans (x4.widen λa q=>.inl q))) (er3.monoA x4 hJc hJl) (cr3.monoA x4 hJc) rfl)
    ·dsimp only at e3;refine XM st3 hi3 hfit hit (Q2:=λv s₂=>wpAny c.M c.A (assign target env v) _ _ s₂) (λv s₂ hN => ?_) λv s₁ h=>h;refine VY hN ?_;clear hN;rintro l4 h4 tk4 rfl st4 x4 e4 hi4 hv4;have er4:=er3.monoA x4 hJc hJl;have cr4:=cr3.monoA x4 hJc;have x34:=x3.trans (x4.widen (D':=λa=>J a\/Dc env a) λa q=>.inl q);rw[<- e4]at e3;refine X6 fe ok g hf hv4 _ _ _ st4 er4 cr4 (λb loc5 l5 m5 a5 h5 tk5 e5 st5 x5 er5 cr5 v5 => ?_) (λx l' e h' tk hx xx hfx=>raise x l' e h' tk (e3.symm.trans (DM hx)) (x34.trans (xx.widen λa q=>.inr q)) hfx) λq=>ns (e3.symm.trans (Dl q));rw[CT e5]at e3;have x35:=x34.trans (x5.widen (D':=λa=>J a\/Dc env a) λa q=>.inr q);have hi5:Gp J l5 (i+1) I src:=hi4.mono x5 hJD;refine hX body m5 l5 loc5 _ _ _ st5 er5 cr5 (λfl loc6 l6 m6 fl' h6 tk6 e6 st6 x6 er6 cr6 v6 => ?_) (λx l' e h' tk hx xx hfx=>raise x l' e h' tk (e3.symm.trans (DM hx)) (x35.trans (xx.widen λa q=>.inr q)) hfx) λq=>ns (e3.symm.trans (Dl q));rw[CT e6]at e3;have x36:=x35.trans (x6.widen (D':=λa=>J a\/Dc env a) λa q=>.inr q);rcases fl with _ | cv
     ·have v':fl'=.next:=v6
      subst v';exact⟨k,JI _,.mk l6 h6 tk6 m6 loc6 (i+1) st6 x36 er6 cr6 (hi5.mono x6 hJD) e3⟩
     ·refine Ah v6 ?_;clear v6;rintro w rfl hw;exact okk (.ret cv) loc6 l6 m6 (.ret w) h6 tk6 (hR.trans e3.symm) st6 (all l6 x36) er6 cr6 ⟨w,rfl,hw⟩
 ·rw[if_neg hfit]at ns;exact absurd rfl ns
end
end
section
set_option maxHeartbeats 1000000
open Builtin
theorem SA{x:CM α}{k:α->CM β}{b:β}(h:bnd x k σ=.ok b σ'):∃a σ1,x σ=.ok a σ1/\k a σ1=.ok b σ':=by
 unfold bnd at h;rcases e:x σ with _ | ⟨a,σ1⟩ | ⟨_,_⟩
 ·rw[e]at h;(exfalso;injection h)
 ·rw[e]at h;exact⟨a,σ1,rfl,h⟩
 ·rw[e]at h;(exfalso;injection h)
theorem SD{x:CM α}{k:α->CM β}(h:bnd x k σ=.exc y σ'):x σ=.exc y σ'\/∃a σ1,x σ=.ok a σ1/\k a σ1=.exc y σ':=by
 unfold bnd at h;rcases e:x σ with _ | ⟨a,σ1⟩ | ⟨z,τ⟩
 ·rw[e]at h;(exfalso;injection h)
 ·rw[e]at h;exact .inr ⟨a,σ1,rfl,h⟩
 ·rw[e]at h;have h':(B8.exc z τ:B8 β)=.exc y σ':=h;injection h' with za zb;subst za;subst zb
  left;rfl
theorem SE{x:CM α}{k:α->CM β}(h:bnd x k σ=.stuck):x σ=.stuck\/∃a σ1,x σ=.ok a σ1/\k a σ1=.stuck:=by
 unfold bnd at h;rcases e:x σ with _ | ⟨a,σ1⟩ | ⟨_,_⟩
 ·exact .inl rfl
 ·rw[e]at h;exact .inr ⟨a,σ1,rfl,h⟩
 ·rw[e]at h;(exfalso;injection h)
theorem AiW{M:KG}{A:CK}{Q:FE->Aq->Prop}(hh:A.handled=none)
  (h:wpAny M A t (λv s₁=>∃e oe fs,v=.ref e/\s₁.heap.get? e=some oe/\oe.cls=.ref C/\oe.data=.fields fs/\fs[1]? = some .none/\BR M s₁.heap (Hj (.ref C) (.type "BaseException")) true/\BR M s₁.heap (typeOf (.ref C)) (.type "type")/\E (.ref e) s₁) E s) :
  wpAny M A (raiseStmt env (some t) none) Q E s:=by
 unfold raiseStmt;refine Aj (KL h (λv s₁ h₁ => ?_) λz z x=>x);refine Q38 h₁ ?_;clear h₁;rintro e oe fs rfl he hc hd h1 hb ht hE;rcases oe with⟨oc,od,oda,osl⟩
 dsimp only at hc hd;subst hc hd;have it:BR M s₁.heap (PySem.isType (.ref e)) false:=(Mq he).andThen .now;have to:BR M s₁.heap (typeOf (.ref e)) (.ref C):=(Mq he).andThen .now;have ii:BR M s₁.heap (KJ (.ref e) (.type "BaseException")) true:=to.andThen hb;refine Aj (AD (Aj (Dp ?_)));unfold excFromValue Ach;refine Aj (Aj (it.here (AD ?_)));rw[if_neg CD];refine Aj (ii.here ?_);rw[if_pos rfl];refine AD ?_;refine Aj (it.here ?_);rw[if_neg CD];unfold raisedInstance;refine Aj (Aj (to.here (Aj (ht.here ?_))));rw[if_pos (by decide)]
 refine AD ?_;unfold VD;refine Aj (Aj (KR he rfl h1 ?_));rw[if_neg (by decide)]
 exact AD (wpAny_raiseNew_none hh hE)
noncomputable def Ng(Γ:AP)(f:BU)(ks:AF)(cn:Ac)(es:List Expr)(loc:Ao):CM (Bp×Ao):=if noStar es=true/\E2 ks cn=true then(match Γ.top.lookup cn with
 | some (.ref C)=>(match Γ.excs.lookup C with
  | some names=>bnd (BC (f ks loc) es) λvs=>if vs.length=names.length then λσ=>.exc ⟨C,names.zip vs⟩ σ else Ar
  | none=>Ar)
 | _=>Ar)else Ar
section
variable {c:FC}{m:Ac->Option Ad}{l l':Am}{d:Nat}{env:Env}{loc:Ao}{Γ:AP}{FX:Bm}
set_option tactic.hygienic true in
theorem AiX(fx:J5 c FX)(fe:DD c env)(ok:AL c d)(ok3:AL c 3)(g:Bs c.K Γ){f:BU}(hf:HG c FX env f){cn:Ac}{p cpos pos:Pos}{es:List Expr} :
  AI c FX env m l loc (exec (.Raise (some (.Call (.Name cn p) es [] cpos)) none pos) env) (Ng Γ f env.scope.names cn es loc) FV:=by
 unfold Ng;refine AI.guard λzz => ?_;refine Au zz ?_;clear zz;rintro hn hb
 split
 ·rename_i C ht
  split
  ·rename_i names hx;have X:=g.excs C names hx;intro s Q E st er cr okk exc ns;have key:Aa c FX m l (eval (.Call (.Name cn p) es [] cpos) env) (bnd (BC (f env.scope.names loc) es) λvs=>if vs.length=names.length then ret vs else Ar) (λl' v a=>∃x b0,v=.ref x/\a.length=names.length/\XS b0 l' x C (names.zip a)/\∀q,AS l q->q.1<b0):=by
    refine Xw ok g fe.eo hb ht hn (Hx es (hf m l loc er)) λvs cs l1 x1 hv => ?_;refine Aa.guard λhl => ?_;intro s1 Q1 E1 st1 ok1 exc1 ns1;refine KI (X.make c m l1 vs cs s1 _ rfl ok3 st1 hv hl λl2 x b0 h2 tk2 e2 st2 x2 hlt z => ?_);exact ok1 cs l2 (.ref x) h2 tk2 (by show B8.ok cs l1.σ=_;rw[e2]) st2 x2 ⟨x,b0,rfl,hl,z,λq hq=>hlt q (x1.all hq).1⟩
   rw[arm_exec_Raise];refine Aj (F8 (AiW (C:=C) ok.handled ?_));refine Aj ?_;refine key s _ E st (λa l1 v h1 tk1 e1 st1 x1 hV => ?_) (λy l1 e h1 tk1 hx1 xx fx1 => ?_) λq => ?_
   ·refine Cq hV ?_;clear hV;rintro x b0 rfl hl z hlt;refine AG (fx.raised m l1 b0 x C (names.zip a) h1 (by
     intro q;have:=congrArg IH q;rw[List.length_zip,hl,Nat.min_self]at this;exact X.ne (Aby.mp this)) st1 z) ?_;rintro l2 e2 x2 hfx
    refine Bg (SA e1) ?_;rintro a' σ1 e3 e4;have:a'.length=names.length/\a'=a/\σ1=l1.σ:=by
     by_cases q:a'.length=names.length
     ·rw[if_pos q]at e4;injection e4 with e5 e6
      exact⟨q,e5,e6⟩
     ·rw[if_neg q]at e4;(exfalso;injection e4)
    refine C6 this ?_;clear this;rintro q1 rfl rfl;have hEx:E (.ref x) (put s h1 tk1):=by
     refine exc ⟨C,names.zip a'⟩ l2 (.ref x) h1 tk1 ?_ ?_ hfx
     ·rw[CT e3,if_pos q1,e2]
     ·exact(Ap.trans (x1.weaken (D:=(·=x))) x2).narrow λq hq e=>by
       have:=hlt q hq;rw[e]at this;exact absurd (Fb this z.1) (BX _)
    rcases z with⟨hb0,t,od,ho,_⟩
    refine Aj (F8 (AD ?_));exact⟨x,GR C t od,_,rfl,(st1.nw _ ho.1).1,rfl,rfl,rfl,X.base _ _ (ok.kin.keeps st1.fr.keep),X.typ _ _ (ok.kin.keeps st1.fr.keep),hEx⟩
   ·rcases SD hx1 with q | ⟨a1,σ1,q1,q2⟩
    ·exact exc y l1 e h1 tk1 (DM q) xx.weaken fx1
    ·by_cases q:a1.length=names.length
     ·rw[if_pos q]at q2;(exfalso;injection q2)
     ·rw[if_neg q]at q2;(exfalso;injection q2)
   ·rcases SE q with q | ⟨a1,σ1,q1,q2⟩
    ·exact ns (Dl q)
    ·by_cases q:a1.length=names.length
     ·rw[if_pos q]at q2;(exfalso;injection q2)
     ·exact ns (by rw[CT q1,if_neg q];rfl)
  ·exact AI.stuck
 ·exact AI.stuck
end
end
section
noncomputable def Nh(Γ:AP)(f:BU)(g:C3)(ks:AF)(t value:Expr)(loc:Ao):CM (Bp×Ao) :=
 if Ic ks value t=true then(match value,t with
  | .ListComp elt gens scope _,.Name x _=>bnd (DW Γ (f ks loc) f g ks loc elt gens scope) λv=>bnd (Fl ks x v loc) λp=>ret (.next,p.2)
  | _,_=>Ar)
 else if PA value=true then bnd (f ks loc value) λv=>bnd (J4 Γ f ks t value v loc) λp=>ret (.next,p.2)
 else Ar
noncomputable def SG(Γ:AP)(f:BU)(g:C3)(ks:AF)(X:XT)(st:AN)(loc:Ao):CM (Bp×Ao):=match st with
 | .Expr e _=>if Lr e=true then bnd (f ks loc e) λz=>ret (.next,loc)else Ar
 | .Pass _=>ret (.next,loc)
 | .Return (some e) _=>bnd (f ks loc e) λv=>ret (.ret v,loc)
 | .Return none _=>ret (.ret .none,loc)
 | .Assign [t] value _=>Nh Γ f g ks t value loc
 | .Raise (some (.Call (.Name cn _) es [] _)) none _=>Ng Γ f ks cn es loc
 | .If t a b _=>bnd (g ks loc t) λq=>if q=true then X a loc else X b loc
 | .While t b [] _=>Jd g X ks t b 1000 loc
 | .For target iter b [] _=>if HF iter=true then bnd (GY (f ks loc) Γ ks iter) λsrc=>if HD target src=true then Je Γ f X ks target b src GW 0 loc else Ar else Ar
 | _=>Ar
noncomputable def G1(Γ:AP)(f:BU)(g:C3)(ks:AF):Nat->XT
 | 0=>λz z=>Ar
 | n+1=>Lu (SG Γ f g ks (G1 Γ f g ks n))
section
variable {c:FC}{m:Ac->Option Ad}{l l':Am}{d:Nat}{env:Env}{loc:Ao}{Γ:AP}{FX:Bm}
structure J6(c:FC)(FX:Bm)(f:BU)(g:C3):Prop where
 ev:∀env m l loc,Ck c env->Cd c m env l loc->Bz c FX m env l (f env.scope.names loc)
 ts:∀env m l loc,Ck c env->Cd c m env l loc->Ea c FX m env l (g env.scope.names loc)
theorem AiY(fe:DD c env)(ok:AL c d)(gk:Bs c.K Γ){f:BU}{g:C3}(ha:J6 c FX f g){x:Ac}{p vp p2:Pos}{elt:Expr}{gens:List Hi}{scope:Scope} :
  AI c FX env m l loc (Ab8 (.ListComp elt gens scope vp) scope env p2 (newList []) (Ab9 gens) (Aca gens env) (some (assign (.Name x p) env))) (bnd (DW Γ (f env.scope.names loc) f g env.scope.names loc elt gens scope) λv=>Fl env.scope.names x v loc) EZ:=by
 intro s Q E st er cr okk exc ns;refine X0 (use:=some (assign (.Name x p) env)) (Q:=λv s'=>Q v s') ok gk fe.eo er (ha.ev env m l loc fe.eo er) (λenv' l' loc' eo' er'=>ha.ev env' m l' loc' eo' er') (λenv' l' loc' eo' er'=>ha.ts env' m l' loc' eo' er') st
  (λb l1 D h' tk C oC m' e st1 x1 hD ho hn hCe hCf => ?_) (λx l' e h' tk hx xx fx=>exc x l' e h' tk (DM hx) xx.weaken fx) λq=>ns (Dl q)
 rw[CT e]at okk exc ns;show wpAny _ _ (assign (.Name x p) env (.ref D)) _ _ _;have er1:=er.mono x1;have cr1:=cr.mono x1;refine Ab4 (Ss fe hD _ _ _ st1 er1 cr1 (λu loc2 l2 m2 a2 h2 tk2 e2 st2 x2 er2 cr2 z => ?_) (λy l2 e2 h2 tk2 hx2 xx2 fx2=>exc y l2 e2 h2 tk2 hx2 (x1.weaken.trans xx2) fx2) ns);have hCD:¬Dc env C:=λ⟨y,hy⟩=>by
  refine Bg (cr1.at_ y C hy) ?_;rintro o u ho2 hd;have:=Sp st1.lr.nd ho.1 ho2.1 rfl;rw[Abm]at this;refine Bg hn ?_;clear hn;rintro _ _ hd2 _;rw[this.2,hd]at hd2;exfalso;injection hd2
 have ho2:AS l2 (C,oC):=x2.oth _ ho (.inr hCD);refine⟨m',hn.ns (st2.nw _ ho2.1).1,λh3 hs3 => ?_⟩;refine AG (st2.dropOth ho2 (So hn) hs3.extBut) ?_;rintro l3 e3 st3 x3;have hCl:¬C=env.locals:=hCe;refine okk () loc2 l3 m2 .none h3 _ (by rw[e3];exact e2) st3 ?_ (er2.monoA x3 (λy a hy q=>hCD ⟨y,q▸hy⟩) (λq=>hCl q.symm)) (cr2.monoA x3 λy a hy q=>hCD ⟨y,q▸hy⟩) trivial
 exact(((x1.weaken).trans (x2.widen (D':=λa=>Dc env a\/a=C) λa q=>.inl q)).trans (x3.widen λa q=>.inr q)).narrow λp hp q=>q.elim id λq=>absurd q (hCf p hp)
theorem Ye{t:Expr}(h:Ic ks value t=true):∃elt gens scope vp x p,value=.ListComp elt gens scope vp/\t=.Name x p:=by
 unfold Ic at h;rcases hq:O8 value with _ | q
 ·rw[hq]at h;exact(CD h).elim
 ·rw[hq]at h;dsimp only at h;rcases hw:Cc t with _ | w
  ·rw[hw]at h;exact(CD h).elim
  ·exact⟨_,_,_,_,_,_,Agf hq,FH hw⟩
set_option tactic.hygienic true in
theorem AiZ(fe:DD c env)(ok:AL c d)(gk:Bs c.K Γ){f:BU}{g:C3}(ha:J6 c FX f g){t value:Expr}{pos:Pos} :
  AI c FX env m l loc (exec (.Assign [t] value pos) env) (Nh Γ f g env.scope.names t value loc) FV:=by
 have hf:HG c FX env f:=λm l loc er=>ha.ev env m l loc fe.eo er;unfold Nh
 by_cases hc:Ic env.scope.names value t=true
 ·rw[if_pos hc];refine V3 (Ye hc) ?_;rintro elt gens scope vp x p rfl rfl;rw[exec_Assign_Name_used _ _ _ _ (by have:=PC (t:=.Name x p) (n:=pos.line) fe (value:=.ListComp elt gens scope vp) rfl;rw[hc]at this;exact this)]
  intro s Q E st er cr okk exc ns;have key:wpAny c.M c.A (Ab8 (.ListComp elt gens scope vp) scope env (firstIterPos gens vp) (newList []) (Ab9 gens) (Aca gens env) (some (assign (.Name x p) env))) (λz s'=>Q .next s') E s:=by
   refine AiY (p2:=firstIterPos gens vp) (vp:=vp) fe ok gk ha s (λz s'=>Q .next s') E st er cr (λb loc' l' m' a h' tk e st' x' er' cr' v => ?_) (λy l' e h' tk hx xx fx => ?_) λq => ?_
   ·refine okk .next loc' l' m' .next h' tk ?_ st' x' er' cr' rfl
    show bnd (DW Γ (f env.scope.names loc) f g env.scope.names loc elt gens scope) (λv=>bnd (Fl env.scope.names x v loc) λp=>ret (Bp.next,p.2)) l.σ=_
    rcases SA e with⟨a1,σ1,e1,e2⟩
    rw[CT e1,CT e2];rfl
   ·refine exc y l' e h' tk ?_ xx fx;show bnd (DW Γ (f env.scope.names loc) f g env.scope.names loc elt gens scope) (λv=>bnd (Fl env.scope.names x v loc) λp=>ret (Bp.next,p.2)) l.σ=_
    rcases SD hx with e1 | ⟨a1,σ1,e1,e2⟩
    ·exact DM e1
    ·rw[CT e1];exact DM e2
   ·refine ns ?_;show bnd (DW Γ (f env.scope.names loc) f g env.scope.names loc elt gens scope) (λv=>bnd (Fl env.scope.names x v loc) λp=>ret (Bp.next,p.2)) l.σ=_
    rcases SE q with e1 | ⟨a1,σ1,e1,e2⟩
    ·exact Dl e1
    ·rw[CT e1];exact Dl e2
  exact Aj (F8 (Aj (Aj (KL key (λz s' h=>AD (AD h)) λz z e=>e))))
 ·rw[if_neg hc];refine AI.guard λho => ?_;rw[Aci];refine AI.stand _ ?_;rw[PC fe ho,Rb.mpr hc];intro s Q E st er cr okk exc ns;refine Aj (AD ?_);rw[if_neg CD];exact AI.eval ((hf m l loc er).here value) (λv a l' z x hv=>X8 fe ok gk hf hv) s Q E st er cr okk exc ns
set_option tactic.hygienic true in
theorem Ai0(fx:J5 c FX)(fe:DD c env)(ok:AL c d)(ok3:AL c 3)(gk:Bs c.K Γ){f:BU}{g:C3}(ha:J6 c FX f g){X:XT}(hX:Nf c FX env X)(st:AN)(m:Ac->Option Ad)(l:Am)(loc:Ao) :
  AI c FX env m l loc (exec st env) (SG Γ f g env.scope.names X st loc) FV:=by
 have hf:HG c FX env f:=λm l loc er=>ha.ev env m l loc fe.eo er;have hg:Sx c FX env g:=λm l loc er=>ha.ts env m l loc fe.eo er;rcases st with _ | _ | _ | ⟨e,p⟩ | _ | ⟨ts,v,p⟩ | _ | _ | _ | ⟨t,i,b,e,p⟩ | _ | ⟨t,b,e,p⟩ | ⟨t,a,b,p⟩ | _ | _ | _ | ⟨e,c,p⟩ | _ | _ | _ | _ | _ | _ | _ | ⟨e,p⟩ | p | _ | _
 case Expr=>exact Yb fe hf
 case Pass=>exact AiT
 case Return =>
  rcases e with _ | e
  ·exact AiS
  ·exact AiR hf
 case Assign =>
  rcases ts with _ | ⟨t,r⟩
  ·exact AI.stuck
  ·rcases r with _ | ⟨_,_⟩
   ·exact AiZ fe ok gk ha
   ·exact AI.stuck
 case Raise =>
  rcases e with _ | e
  ·exact AI.stuck
  ·rcases e with⟨⟩<;>try exact AI.stuck
   rename_i fn es kw q2;rcases fn with⟨⟩<;>try exact AI.stuck
   rcases kw with⟨⟩<;>try exact AI.stuck
   rcases c with⟨⟩<;>try exact AI.stuck
   exact AiX fx fe ok ok3 gk hf
 case If=>exact AiQ hg hX
 case While =>
  rcases e with _ | ⟨_,_⟩
  ·exact AiU fx fe hg hX
  ·exact AI.stuck
 case For =>
  rcases e with _ | ⟨_,_⟩
  ·exact AiV fx fe ok gk hf hX
  ·exact AI.stuck
 all_goals exact AI.stuck
theorem SH(fx:J5 c FX)(fe:DD c env)(ok:AL c d)(ok3:AL c 3)(gk:Bs c.K Γ){f:BU}{g:C3}(ha:J6 c FX f g)(n:Nat):Nf c FX env (G1 Γ f g env.scope.names n):=by
 induction n with
 | zero=>exact λbody m l loc=>AI.stuck
 | succ n ih=>exact λbody m l loc=>AiP (λst m l loc=>Ai0 fx fe ok ok3 gk ha ih st m l loc) body m l loc
end
end
theorem Ai1:∀{xs:List Ac} {vs:List Ad},xs.length=vs.length->∀x∈xs,((xs.zip vs).lookup x).isSome=true:=by
 intro z1
 induction z1 with
 | nil =>
  intro z2 z3 z4 h;exact nomatch h
 | cons y xs ih =>
  intro z5;rcases z5 with _ | ⟨v,vs⟩
  ·intro h z6 z7;exfalso;injection h
  ·intro h x hx;rw[HX,BI]
   by_cases e:x=y
   ·subst e;simp
   ·have:(x == y)=false:=beq_eq_false_iff_ne.mpr e;rw[this];rcases AV.mp hx with q | q
    ·exact absurd q e
    ·exact ih (by simpa using h) x q
theorem Ai2:∀{xs:List Ac} {vs:List Ad},xs.length=vs.length->xs.Nodup->xs.filterMap (λn=>((xs.zip vs).lookup n).map (n,·))=xs.zip vs:=by
 have key:∀(ys:List Ac) (ws:List Ad) (pre:List (Ac×Ad)),ys.length=ws.length->ys.Nodup->(∀y∈ys,pre.lookup y=none)->ys.filterMap (λn=>((pre++ys.zip ws).lookup n).map (n,·))=ys.zip ws:=by
  intro ys
  induction ys with
  | nil=>intro ws pre _ _ _;rfl
  | cons y ys ih =>
   intro ws pre hl nd hp;rcases ws with _ | ⟨w,ws⟩
   ·exfalso;injection hl
   ·refine Au (Dv.mp nd) ?_;rintro n1 n2;have hy:(pre++(y::ys).zip (w::ws)).lookup y=some w:=by
     rw[Acj,hp y (.head _),HX,BI];simp
    rw[Ack,hy];simp only[Rn];rw[HX]
    congr 1
    have:=ih ws (pre++[(y,w)]) (by simpa using hl) n2 (λz hz=>by
     rw[Acj,hp z (.tail _ hz),BI];have hne:z≠y:=λq=>n1 (q▸hz);have:(z == y)=false:=beq_eq_false_iff_ne.mpr hne;rw[this];rfl)
    rw[Gd]at this;exact this
 intro xs vs hl nd;exact key xs vs [] hl nd λx x=>rfl
noncomputable def Ni(p:QN):Bool:=p.posonlyargs.isEmpty && p.kwonlyargs.isEmpty && p.vararg.isNone && p.kwarg.isNone && decide ((p.args.map (·.arg)).Nodup)
theorem Ai3{m:Type->Type}[Monad m]{L:List α}{s:β}{f:α->β->m (ForInStep β)}(h:L=[]):forIn L s f=pure s:=by subst h;rfl
theorem SI{fd:FuncData}(hp:Ni fd.params=true)(hd:fd.defaults=.none)(hl:(fd.params.args.map (·.arg)).length=vs.length):BindsTo s fd ⟨vs,[]⟩ ((fd.params.args.map (·.arg)).zip vs):=by
 simp only[Ni,Bf,Acl,Aqt,decide_eq_true_eq]at hp;refine Au hp ?_;clear hp;rintro⟨⟨⟨h1,h2⟩,h3⟩,h4⟩ nd;rcases fd with⟨a1,a2,⟨po,ar,va,ko,kd,ka,de⟩,a4,a5,a6,a7,dV,a9,a10,a11,a12,a13,a14,a15⟩
 dsimp only at h1 h2 h3 h4 nd hd hl ⊢;subst h1 h2 h3 h4
 generalize hxs:ar.map (·.arg)=xs at *
 have e1:=Ai2 hl nd;have e2:xs.filter (λn=>((xs.zip vs).lookup n).isNone)=[]:=by
  rw[List.filter_eq_nil_iff];intro x hx;have:=Ai1 hl x hx;rcases q:(xs.zip vs).lookup x with _ | _
  ·rw[q]at this;(exfalso;injection this)
  ·simp[q]
 have hle:¬vs.length>xs.length:=Afj hl;have D0:VE (([]:List Ad).length-xs.length) ([]:List Ad)=[]:=Abj;have c1:¬((decide (vs.length>xs.length) && true)=true):=by rw[decide_eq_false hle];exact CD
 have c2:¬((!(((xs.take (xs.length-(VE (([]:List Ad).length-xs.length) ([]:List Ad)).length)).filter λn=>((xs.zip vs).lookup n).isNone).isEmpty))=true):=by rw[D0,DU,Acm,Ab0,e2];exact CD
 have c3:(xs.drop (xs.length-(VE (([]:List Ad).length-xs.length) ([]:List Ad)).length)).zip (VE (([]:List Ad).length-xs.length) ([]:List Ad))=[]:=by rw[D0,Aqu]
 have c4:(xs++[]).filterMap (λn=>((xs.zip vs).lookup n).map (n,·))=xs.zip vs:=by rw[Dw,e1]
 clear e1 e2 hle D0 nd hl;subst hxs;exact BindsTo.of_eq ((show bindArgs _ ⟨vs,[]⟩=seqItems? dV >>= _ from rfl).trans ((congrArg (λm=>m >>= _) (show seqItems? dV=pure none from hd▸rfl)).trans ((Rm _ _).trans ((if_neg c1).trans ((if_neg c2).trans ((congrArg (λm=>m >>= _) (Ai3 c3)).trans ((Rm _ _).trans ((Rm _ _).trans (congrArg pure c4)))))))))
noncomputable def Ie(D:C0):Bool:=Ni D.params && (D.scope.kind == .function) && !D.scope.isCoroutine && !D.scope.isGenerator &&
 (D.params.args.all λa=>D.scope.names.lookup a.arg == some .local || D.scope.names.lookup a.arg == some .cell) && decide (((Gf 0 D.scope.names []).map (·.1)).Nodup)
set_option tactic.hygienic true in
noncomputable def J7(Γ:AP)(N:Nat)(D:C0)(vs:List CV):CM CV:=if Ie D=true/\(D.params.args.map (·.arg)).length=vs.length then
 bnd (G1 Γ (Bu Γ N).1 (Bu Γ N).2 D.scope.names N D.body ((D.params.args.map (·.arg)).zip vs)) λp=>match p.1 with
  | .next=>ret .none
  | .ret v=>ret v
 else Ar
theorem Yg:∀(names:List (Ac×GJ)) (n:Nat) (acc:List (Ac×Af)),(acc.map (·.2)).Nodup->(∀p∈acc,p.2<n)->((Gf n names acc).map (·.2)).Nodup/\∀p∈Gf n names acc,p∈acc\/n<=p.2:=by
 intro z1
 induction z1 with
 | nil =>
  intro n acc nd h;exact⟨nd,λp hp=>.inl hp⟩
 | cons z2 r ih =>
  rcases z2 with⟨x,k⟩
  intro n acc nd h;rw[cellsFrom.eq_2]
  split
  ·refine Au (ih (n+1) ((x,n)::acc) (by
    rw[Bo];refine Dv.mpr ⟨λq => ?_,nd⟩;refine Ah (BH.mp q) ?_;rintro p hp e;have:=h p hp;rw[e]at this;exact BX _ this) (λp hp=>by
    rcases AV.mp hp with rfl | hp
    ·exact JI _
    ·exact OK (h p hp))) ?_;rintro h1 h2
   refine⟨h1,λp hp => ?_⟩;rcases h2 p hp with q | q
   ·rcases AV.mp q with rfl | q
    ·exact .inr (AM _)
    ·exact .inl q
   ·exact .inr (UU q)
  ·exact ih n acc nd h
theorem cellsFrom_names:∀(names:List (Ac×GJ)) (n n':Nat) (acc acc':List (Ac×Af)),acc.map (·.1)=acc'.map (·.1)->(Gf n names acc).map (·.1)=(Gf n' names acc').map (·.1):=by
 intro z1
 induction z1 with
 | nil =>
  intro z3 z4 z5 z6 h;exact h
 | cons z2 r ih =>
  rcases z2 with⟨x,k⟩
  intro n n' acc acc' h;rw[cellsFrom.eq_2,cellsFrom.eq_2]
  split
  ·exact ih _ _ _ _ (by rw[Bo,Bo,h])
  ·exact ih _ _ _ _ h
theorem Yh{cm:Ac->Option Ad}{cs:List (Ac×Af)}{cells:List (Af×AU)}(h:VG cm cs cells):cells.map (·.1)=cs.map (·.2):=by
 induction h with
 | nil=>rfl
 | cons _ _ ih=>rw[Bo,Bo,ih]
theorem SJ{cm:Ac->Option Ad}{cs:List (Ac×Af)}{cells:List (Af×AU)}{a:Af}(hc:VG cm cs cells):cs.lookup x=some a->∃o,(a,o)∈cells/\o.data=.cell (cm x):=by
 induction hc with
 | nil=>exact λh=>nomatch h
 | @cons n c o _ _ hd r ih =>
  intro h;rw[BI]at h
  by_cases e:x=n
  ·subst e;simp at h;subst h;exact⟨o,.head _,hd⟩
  ·rw[beq_eq_false_iff_ne.mpr e]at h;refine Ah (ih h) ?_;rintro o' h1 h2;exact⟨o',.tail _ h1,h2⟩
theorem Yi:∀{cs:List (Ac×Af)} {x y:Ac} {a:Af},(cs.map (·.2)).Nodup->cs.lookup x=some a->cs.lookup y=some a->x=y:=by
 intro z1
 induction z1 with
 | nil =>
  intro z3 z4 z5 z6 h z7;exfalso;injection h
 | cons z2 r ih0 =>
  rcases z2 with⟨n,b⟩
  intro x y a nd h1 h2;rw[Bo]at nd;refine Au (Dv.mp nd) ?_;rintro n1 n2;have mem:∀{z:Ac},r.lookup z=some a->a∈r.map (·.2):=λ{z} h=>by
   clear n1 n2 nd h1 h2 ih0
   induction r with
   | nil=>(exfalso;injection h)
   | cons p r ih =>
    rcases p with⟨q,b'⟩
    rw[BI]at h
    by_cases e:z=q
    ·subst e;simp at h;subst h;simp
    ·rw[beq_eq_false_iff_ne.mpr e]at h;rw[Bo];exact .tail _ (ih h)
  rw[BI]at h1 h2
  by_cases e1:x=n<;>by_cases e2:y=n
  ·rw[e1,e2]
  ·rw[beq_eq_false_iff_ne.mpr e2]at h2;subst e1;simp at h1;subst h1;exact absurd (mem h2) n1
  ·rw[beq_eq_false_iff_ne.mpr e1]at h1;subst e2;simp at h2;subst h2;exact absurd (mem h1) n1
  ·rw[beq_eq_false_iff_ne.mpr e1]at h1;rw[beq_eq_false_iff_ne.mpr e2]at h2;exact ih0 n2 h1 h2
theorem PD:∀(names:List (Ac×GJ)) (n:Nat) (acc:List (Ac×Af)) (x:Ac),(names.lookup x=some .cell\/(acc.lookup x).isSome=true)->((Gf n names acc).lookup x).isSome=true:=λnames n acc x h=>cellsFrom_some names n acc h
set_option tactic.hygienic true in
theorem Yj{kindOf:Ac->Option GJ}:∀(xs:List Ac) (vs:List Ad) (cs:List CV) (m cm:Ac->Option Ad) (l:Am),xs.length=vs.length->xs.Nodup->AA l vs cs->∀x a,(xs.zip cs).lookup x=some a ->
  ∃v,VR l v a/\(if kindOf x=some .local then bindL kindOf (xs.zip vs) m x=some v else bindC kindOf (xs.zip vs) cm x=some v):=by
 have keep:∀(xs:List Ac) (vs:List Ad) (m cm:Ac->Option Ad) (x:Ac),x∉xs->bindL kindOf (xs.zip vs) m x=m x/\bindC kindOf (xs.zip vs) cm x=cm x:=by
  intro xs
  induction xs with
  | nil=>intro vs m cm x _;exact⟨rfl,rfl⟩
  | cons y ys ih =>
   intro vs m cm x hx;rcases vs with _ | ⟨v,vs⟩
   ·exact⟨rfl,rfl⟩
   ·rw[AV,not_or]at hx;rw[HX];rw[bindL.eq_2,bindC.eq_2];refine Au (ih vs (if kindOf y=some .local then λz=>if z=y then some v else m z else m) (if kindOf y=some .local then cm else λz=>if z=y then some v else cm z) x hx.2) ?_;rintro h1 h2;rw[h1,h2];constructor
    ·split
     ·exact if_neg hx.1
     ·rfl
    ·split
     ·rfl
     ·exact if_neg hx.1
 intro xs
 induction xs with
 | nil=>intro vs cs m cm l _ _ hv x a h;(exfalso;injection h)
 | cons y ys ih =>
  intro vs cs m cm l hl nd hv x a h;rcases hv with _ | ⟨hv,hr⟩
  ·exfalso;injection hl
  ·rename_i v vs c0 cs;refine Au (Dv.mp nd) ?_;rintro n1 n2;rw[HX]at h;rw[BI]at h;rw[HX];rw[bindL.eq_2,bindC.eq_2]
   by_cases e:x=y
   ·subst e;simp at h;subst h;refine⟨v,hv,?_⟩;refine Au (keep ys vs (if kindOf x=some .local then λz=>if z=x then some v else m z else m) (if kindOf x=some .local then cm else λz=>if z=x then some v else cm z) x n1) ?_;rintro h1 h2;rw[h1,h2]
    split
    ·exact if_pos rfl
    ·exact if_pos rfl
   ·rw[beq_eq_false_iff_ne.mpr e]at h;exact ih vs cs _ _ l (by simpa using hl) n2 hr x a h
noncomputable def FC.callee(c:FC)(g:Bb)(L:Af)(env:Env):FC:={ c with A:=c.A.deeper env,A₀:=c.A,outer:=c.fenv::c.outer,h₀:=g,L:=L,fenv:=env }
structure SK(FX:FC->Bm):Prop where
 own:∀c d,AL c d->J5 c (FX c)
 leave:∀(c:FC) (d:Nat) (m:Ac->Option Ad) (g:Bb) (L:Af) (env:Env) (l0 l:Am) (x:CX) (e:Ad) (s:Aq) (Q:Unit->Aq->Prop) (E:Ad->Aq->Prop),AL c d->AL (c.callee g L env) d->Fr c.h₀ c.L g m->env.frame=some L->env.scope.kind=.function ->
  FX (c.callee g L env) l x e s.heap->(∀h',FX c l x e h'->Q () { s with heap:=h' })->wpAny c.M (c.A.deeper env) (leaving env e) Q E s
structure PE(D:C0):Prop where
 hp:Ni D.params=true
 hk:D.scope.kind=.function
 hco:D.scope.isCoroutine=false
 hgen:D.scope.isGenerator=false
 hnd:((Gf 0 D.scope.names []).map (·.1)).Nodup
 hxs:(D.params.args.map (·.arg)).Nodup
 kinds:∀x∈D.params.args.map (·.arg),D.scope.names.lookup x=some .local\/D.scope.names.lookup x=some .cell
theorem Yk{D:C0}(h:Ie D=true):PE D:=by
 simp only[Ie,Bf,Fc,beq_iff_eq,decide_eq_true_eq]at h;refine⟨h.1.1.1.1.1,h.1.1.1.1.2,h.1.1.1.2,h.1.1.2,h.2,of_decide_eq_true (Og.mp h.1.1.1.1.1).2,λx hx => ?_⟩;refine Ah (BH.mp hx) ?_;rintro a ha rfl;have:=B7.mp h.1.2 a ha
 simpa using this
theorem PE.binds{D:C0}(G:PE D)(vs:List Ad):(((D.params.args.map (·.arg)).zip vs).all λy=>D.scope.names.lookup y.1 == some .local || D.scope.names.lookup y.1 == some .cell)=true:=by
 rw[B7];rintro⟨x,v⟩ hx;have:=G.kinds x (VH hx).1
 simpa using this
theorem Ai4{a:α}:∀{ps:List (Ac×α)},ps.lookup x=some a->(x,a)∈ps:=λ{ps} hx=>by
 induction ps with
 | nil=>(exfalso;injection hx)
 | cons p r ih =>
  rcases p with⟨y,b⟩
  rw[BI]at hx
  by_cases e:x=y
  ·subst e;simp at hx;subst hx;exact .head _
  ·rw[beq_eq_false_iff_ne.mpr e]at hx;exact .tail _ (ih hx)
structure Ai5(c c':FC)(env:Env)(m:Ac->Option Ad)(l l1:Am)(h:Bb)(loc:Ao)(d:Nat):Prop where
 ok:AL c' (d+1)
 fe:DD c' env
 st:St c' m l1 h
 er:Cd c' m env l1 loc
 cr:FT env l1
 all:∀l',Ap (Dc env) l1 l'->Ap No l l'
theorem Yl{f:Af}{D:C0}{cdv:Ad}{g1 h h₁:Bb}{L':Af}{cells:List (Af×AU)}{m:Ac->Option Ad}(G:PE D)(ok:AL c (d+2))(st:St c m l h)(hv:AA l vs cs)(hlen:(D.params.args.map (·.arg)).length=vs.length)
  (F1:Fr g1 L' h₁ (bindL (envOfC D.qual D.scope L' f cdv).kindOf ((D.params.args.map (·.arg)).zip vs) λj=>none)) (N1:CL g1 L' h₁ (cells++l.Φ))
  (CA:VG (bindC (envOfC D.qual D.scope L' f cdv).kindOf ((D.params.args.map (·.arg)).zip vs) λj=>none) (Gf (L' + 1) D.scope.names []) cells) (B1:Below c.A c.base (c.fenv::c.outer) g1) (K1:c.K.In g1) (T1:Top c.p c.loose c.mean c.mg c.mb g1) (hlt:∀p∈l.Φ,p.1<L') :
  Ai5 c (c.callee g1 L' (envOfC D.qual D.scope L' f cdv)) (envOfC D.qual D.scope L' f cdv) (bindL (envOfC D.qual D.scope L' f cdv).kindOf ((D.params.args.map (·.arg)).zip vs) λj=>none) l { l with Φ:=cells++l.Φ } h₁ ((D.params.args.map (·.arg)).zip cs) d:=by
 refine Au (Yg D.scope.names (L' + 1) [] Ho (λp hp=>by rcases hp with⟨⟩)) ?_;rintro ca1 ca2
 have hkeys:=Yh CA;have cge:∀p∈cells,L'<p.1:=λp hp=>by
  have:p.1∈(Gf (L' + 1) D.scope.names []).map (·.2):=hkeys▸Du (f:=(·.1)) hp;refine Ah (BH.mp this) ?_;rintro q hq e;rcases ca2 q hq with z | z
  ·rcases z with⟨⟩
  ·rw[<- e];exact z
 have nd:((cells++l.Φ).map (·.1)).Nodup:=by
  rw[BP];refine F7.mpr ⟨by rw[hkeys];exact ca1,st.lr.nd,λa ha b hb q => ?_⟩
  refine Ah (BH.mp ha) ?_;rintro p hp e;refine Ah (BH.mp hb) ?_;rintro p2 hp2 e2;exact absurd (Mm (cge p hp) (e.trans (q.trans e2.symm)▸hlt p2 hp2)) (BX _)
 have x1:Ap No l { l with Φ:=cells++l.Φ }:=Ap.junk rfl
 have cell_at:∀x a,(envOfC D.qual D.scope L' f cdv).cells.lookup x=some a->∃o,AS { l with Φ:=cells++l.Φ } (a,o)/\o.data=.cell (bindC (envOfC D.qual D.scope L' f cdv).kindOf ((D.params.args.map (·.arg)).zip vs) (λj=>none) x):=λx a h=>by
  refine Ah (SJ CA h) ?_;rintro o h1 h2;exact⟨o,st.lr.junk_oth rfl nd h1,h2⟩
 refine⟨⟨B1,K1,T1,?_,rfl,G.hk,?_,?_,ok.handled⟩,⟨⟨rfl,rfl,G.hk,rfl⟩,rfl,rfl⟩,⟨F1,N1,st.lr.junk rfl nd⟩,⟨λx a k hx hkx => ?_,.inl rfl⟩,⟨λx a h => ?_,λx hx => ?_,λx y a h1 h2=>Yi ca1 h1 h2⟩,λl' x => ?_⟩
 ·show Option.map _ c.A.frames=_;rw[ok.frames];rfl
 ·have:=ok.depth;show c.A.depth+1+10*(d+1)<=900;exact Afm this
 ·have:=ok.units;show c.A.units+3+100*(d+1)<=9000;exact Afl this
 ·have hxm:x∈D.params.args.map (·.arg):=(VH (Ai4 hx)).1;refine Ah (Yj (kindOf:=(envOfC D.qual D.scope L' f cdv).kindOf) _ vs cs (λj=>none) (λj=>none) l hlen G.hxs hv x a hx) ?_;rintro v hva hb;have hkx':D.scope.names.lookup x=some k:=hkx;rcases G.kinds x hxm with q | q
  ·obtain rfl:k=.local:=Ay (hkx'.symm.trans q);rw[if_pos hkx]at hb;exact .inl ⟨rfl,v,hb,hva.mono x1⟩
  ·obtain rfl:k=.cell:=Ay (hkx'.symm.trans q);rw[if_neg (by rw[hkx];intro q;(injection q with za;exfalso;injection za))]at hb
   refine AK (KN.mp (PD D.scope.names (L' + 1) [] x (.inl q))) ?_;rintro ad had;refine Ah (cell_at x ad had) ?_;rintro o ho hd;rw[hb]at hd;exact⟨ad,o,v,had,ho,hd,hva.mono x1⟩
 ·refine Ah (cell_at x a h) ?_;rintro o ho hd;exact⟨o,_,ho,hd⟩
 ·exact KN.mp (PD D.scope.names (L' + 1) [] x (.inl hx))
 ·refine(x1.weaken.trans x).narrow λp hp zz => ?_;refine AK zz ?_;clear zz;rintro y hy;refine Ah (SJ CA hy) ?_;rintro o h1 _;exact absurd (Mm (cge _ h1) (hlt p hp.1)) (BX _)
theorem Ym(ok:AL c d):c.A.depth<Aqv:=by
 have:=ok.depth;show c.A.depth<1000;exact Afk this
set_option tactic.hygienic true in
theorem Ai6(fx:SK FX){Γ Γ':AP}(gk:J2 Γ){d N:Nat}(h3:2<=d)(hΓ:∀K,Bs K Γ'->Bs K Γ/\∀f spec,Γ'.fn f=some spec->∃D,JR K f D/\spec=J7 Γ N D)(fn:Lf FX Γ d):Lf FX Γ' (d+2):=by
 intro c g0 ok f spec hf;refine Au (hΓ c.K g0) ?_;rintro g hD;refine Ah (hD f spec hf) ?_;rintro D ⟨oc,od,osl,kV,doc,pm,an,cdv,ct,hK,hcd⟩ rfl;intro m l vs cs s R hv st okk exc ns;unfold J7 at okk exc ns
 by_cases hg:Ie D=true/\(D.params.args.map (·.arg)).length=cs.length
 ·rw[if_pos hg]at okk exc ns;refine Au hg ?_;clear hg;rintro hgood hlen;have G:=Yk hgood;have hlen':(D.params.args.map (·.arg)).length=vs.length:=hlen.trans hv.length.symm;refine code_defC (binds:=(D.params.args.map (·.arg)).zip vs) ok.below st.fr ok.kin st.nw ok.top ok.frames ok.frame ok.kind hK hcd (Ym ok) (SI G.hp rfl hlen') (G.binds vs) G.hnd ?_ G.hco G.hgen G.hk;intro g1 L' h₁ tk cells F0 F1 N1 CA B1 K1 T1 hlt;have En:=Yl G ok st hv hlen' F1 N1 CA B1 K1 T1 hlt;clear F1 N1 CA B1 K1 T1 hlt hv;rcases En with⟨ok',fe,st1,er,cr,all⟩
  have ha:J6 (c.callee g1 L' (envOfC D.qual D.scope L' f cdv)) (FX (c.callee g1 L' (envOfC D.qual D.scope L' f cdv))) (Bu Γ N).1 (Bu Γ N).2 :=
   ⟨λenv m l loc eo er=>(Lo gk ok' g (fn.here _) N env l loc eo er).1,λenv m l loc eo er=>(Lo gk ok' g (fn.here _) N env l loc eo er).2⟩
  refine SH (fx.own _ _ ok') fe ok' (ok'.weaken (WE h3)) g ha N D.body _ _ _ _ _ _ st1 er cr (λfl loc' l' m' fl' h' tk' e st' x er' cr' v => ?_) (λx l' e h' tk' hx xx hfx => ?_) λq=>ns (Dl q)
  ·have e':G1 Γ (Bu Γ N).1 (Bu Γ N).2 D.scope.names N D.body ((D.params.args.map (·.arg)).zip cs) l.σ=.ok (fl,loc') l'.σ:=e;rw[CT e']at okk;refine⟨L',m',l'.Φ,st'.fr,st'.nw,λFF NN => ?_⟩;rcases fl with _ | cv
   ·have v':fl'=.next:=v
    subst v';exact okk .none l' .none h' tk' rfl ⟨FF,NN,st'.lr⟩ (all l' x) .none
   ·refine Ah v ?_;clear v;rintro w rfl hw;exact okk cv l' w h' tk' rfl ⟨FF,NN,st'.lr⟩ (all l' x) hw
  ·exact fx.leave c (d+1) m g1 L' _ l l' x e _ _ _ (ok.weaken (WD)) ok' F0 rfl G.hk hfx λh2 hfx2=>exc x l' e h2 tk' (DM hx) (all l' xx) hfx2
 ·rw[if_neg hg]at ns;exact absurd rfl ns
section
def HH(h base:Bb)(a:Af)(C:Ad)(t dx:Af)(fl:Ad):Prop :=
 ∃oe vs T oT ts,h.get? a=some oe/\oe.cls=C/\oe.dict=some dx/\oe.data=.fields vs/\vs[0]? = some (.ref t)/\vs[1]? = some (.ref T)/\base.get? T=none/\T≠a/\h.get? T=some oT/\oT.data=.fields ts/\ts[3]? = some fl
section
variable {M:KG}{A:CK}{E:Ad->Aq->Prop}{s:Aq}{base:Bb}{l outer:List Env}{env:Env}{L a:Af}{C:Ad}{t dx:Af}{fl:Ad}{Q:Unit->Aq->Prop}
theorem Ai7(o:AU)(f:Array Ad->Array Ad):(HW f o).dict=o.dict:=by
 rcases o with⟨c,d,dt,sl⟩
 rcases dt with⟨⟩<;>rfl
theorem Yn{vs:Array Ad}{head:Ad}{hadNext:Bool}(hfr:A.frames=some (env::outer))(hl:s.heap.FunFrames base (env::outer))(hf:env.frame=some L)
  (he:s.heap.get? a=some oe) (hkb:base.StaysIn s.heap) (hen:base.get? a=none) (hc:oe.cls=C) (hdc:oe.dict=some dx) (hd:oe.data=.fields vs) (hsz:1<vs.size) (h0:vs[0]? = some (.ref t))
  (h:∀h',base.StaysIn h'->h'.FunFrames base (env::outer)->HH h' base a C t dx (rawInt L)->s.heap.UpToSlots h'->Q () { s with heap:=h' }) :
  wpAny M A (do let b <- frameOf env;let pl <- entryPlaceOf L hadNext;let b <- Aqw head b .none (rawInt L) .none pl;setField (.ref a) 1 b) Q E s:=by
 have hene:a∉(env::outer).filterMap (·.frame):=λhm=>by
  rcases hl.mem hm with⟨_,o,ho,hnf⟩
  rw[he]at ho;injection ho with ho;subst ho;exact hnf vs hd
 refine Aj (wpAny_frameOf_fun hfr hl hf λh₁ hs₁ => ?_);refine Aj (wpAny_entryPlaceOf λpl hpl => ?_);unfold Aqw Abv;refine Aj (Oy ?_ (hpl.sizeOk5 _ _ _ _ _));have he₁:h₁.get? a=some oe:=(hs₁.2.1 a hene).trans he;have kb₁:base.StaysIn h₁:=λb o hbo=>(hs₁.2.1 b λhm=>by rw[(hl.mem hm).1]at hbo;(exfalso;injection hbo)).trans (hkb b o hbo)
 have he₂:=Eo (h:=h₁) { cls:=.type "traceback",dict:=none,data:=.fields ([head,.ref L,.none,rawInt L,.none]++(if pl.isEmpty then D9 6 Gb else pl)).toArray } he₁;refine OL he₂ hd hsz (h _ ?_ ?_ ?_ ?_)
 all_goals
  have hTe:h₁.objs.size≠a:=Mo (BE he₁);have hd₃:=Rj hd (·.setIfInBounds 1 (CZ h₁.objs.size));have he₃:=OF (HW (·.setIfInBounds 1 (CZ h₁.objs.size))) he₂ (Vv hd₃);have hT₃:=(OM (h₁.push { cls:=.type "traceback",dict:=none,data:=.fields ([head,.ref L,.none,rawInt L,.none]++(if pl.isEmpty then D9 6 Gb else pl)).toArray })
   (HW (·.setIfInBounds 1 (CZ h₁.objs.size))) (ER hTe)).trans (JG h₁ rfl)
  have keep:∀b o,b≠a->h₁.get? b=some o ->
    ((h₁.push { cls:=.type "traceback",dict:=none,data:=.fields ([head,.ref L,.none,rawInt L,.none]++(if pl.isEmpty then D9 6 Gb else pl)).toArray }).update a (HW (·.setIfInBounds 1 (CZ h₁.objs.size)))).get? b=some o :=
   λb o hbe hb=>by
    rw[OM _ _ (ER hbe)];exact Eo _ hb
  have noRecord:∀b o,s.heap.get? b=some o->(∀vs,o.data≠.fields vs)->b≠a:=λb o hb hnf q=>by
   rw[q,he]at hb;injection hb with hb;subst hb;exact hnf vs hd
 ·exact λb o hbo=>keep b o (λq=>by rw[q,hen]at hbo;(exfalso;injection hbo)) (kb₁ b o hbo)
 ·exact hl.of_keeps λb o hb hnf=>by
   refine AK (hs₁.2.2 b o hb) ?_;rintro sl hs;exact⟨_,keep b _ (noRecord b o hb hnf) hs,rfl⟩
 ·exact⟨_,_,h₁.objs.size,_,_,he₃,(AbX _ _).trans hc,(Ai7 _ _).trans hdc,hd₃,by rw[Array.getElem?_setIfInBounds_ne (by decide)];exact h0,by simp[hsz],kb₁.fresh,hTe,hT₃,rfl,by first | (simp;done) | (rcases hpl with rfl | ⟨_,_,_,_,_,_,_,rfl⟩<;>simp)⟩
 ·intro b o hb hnf;refine AK (hs₁.2.2 b o hb) ?_;rintro sl hs;exact⟨sl,keep b _ (noRecord b o hb hnf) hs⟩
theorem Ai8(hfr:A.frames=some (env::outer))(hl:s.heap.FunFrames base (env::outer))(hf:env.frame=some L)(ht:HH s.heap base a C t dx .none)(hkb:base.StaysIn s.heap)(hen:base.get? a=none)
  (h:∀h',base.StaysIn h'->h'.FunFrames base (env::outer)->HH h' base a C t dx (rawInt L)->s.heap.UpToSlots h'->Q () { s with heap:=h' }):wpAny M A (JJ (.ref a) env) Q E s:=by
 rcases ht with⟨oe,vs,T,oT,ts,he,hcls,hdc,hd,h0,h1,hnT,hTe,hT,hdT,h3⟩
 unfold JJ;simp only[hf];refine Aj (KR he hd h1 ?_);rw[if_pos (show(CZ T != Gb)=true from by simp)]
 refine Aj (KR hT hdT h3 ?_);rw[if_neg (show ¬((Gb == rawInt L)=true)from by simp[rawInt])]
 refine Aj (OL hT hdT (VI.mp h3).1 ?_);have other:∀b,b≠T->(s.heap.update T (HW (·.setIfInBounds 3 Gb))).get? b=s.heap.get? b:=λb hb=>OM _ _ (ER hb);have noRecord:∀b o,s.heap.get? b=some o->(∀vs,o.data≠.fields vs)->b≠T:=λb o hb hnf q=>by
  rw[q,hT]at hb;injection hb with hb;subst hb;exact hnf ts hdT
 refine Yn hfr (hl.of_keeps λb o hb hnf=>⟨o,(other b (noRecord b o hb hnf)).trans hb,rfl⟩) hf ((other a (ER hTe)).trans he)
  (λb o hbo=>(other b λq=>by rw[q,hnT]at hbo;(exfalso;injection hbo)).trans (hkb b o hbo)) hen hcls hdc hd (VI.mp h1).1 h0
  λh' x1 x2 x3 x4=>h h' x1 x2 x3 λb o hb hnf=>x4 b o ((other b (noRecord b o hb hnf)).trans hb) hnf
theorem Ai9(hf:env.frame=some L)(ht:HH s.heap base a C t dx (rawInt L))(h:Q () s):wpAny M A (JJ (.ref a) env) Q E s:=by
 rcases ht with⟨oe,vs,T,oT,ts,he,hcls,hdc,hd,h0,h1,hnT,hTe,hT,hdT,h3⟩
 unfold JJ;simp only[hf];refine Aj (KR he hd h1 ?_);rw[if_pos (show(CZ T != Gb)=true from by simp)]
 refine Aj (KR hT hdT h3 ?_);rw[if_pos (show((rawInt L == rawInt L)=true)from by simp[rawInt])]
 exact AD h
def Yo(h:Bb)(a:Af)(C:Ad)(t dx:Af):Prop :=
 ∃oe vs,h.get? a=some oe/\oe.cls=C/\oe.dict=some dx/\oe.data=.fields vs/\vs[0]? = some (.ref t)/\vs[1]? = some .none
theorem Aja(hfr:A.frames=some (env::outer))(hl:s.heap.FunFrames base (env::outer))(hf:env.frame=some L)(ht:Yo s.heap a C t dx)(hkb:base.StaysIn s.heap)(hen:base.get? a=none)
  (h:∀h',base.StaysIn h'->h'.FunFrames base (env::outer)->HH h' base a C t dx (rawInt L)->s.heap.UpToSlots h'->Q () { s with heap:=h' }):wpAny M A (JJ (.ref a) env) Q E s:=by
 refine Q26 ht ?_;clear ht;rintro oe vs he hcls hdc hd h0 h1;unfold JJ;simp only[hf];refine Aj (KR he hd h1 ?_);rw[if_neg (show ¬((Gb != Gb)=true)from by simp)]
 exact Yn hfr hl hf he hkb hen hcls hdc hd (VI.mp h1).1 h0 h
theorem PG{fl':Option Af}(hkb:base.StaysIn s.heap)(hl:s.heap.FunFrames base l)(ht:HH s.heap base a C t dx fl)
  (h:∀h',base.StaysIn h'->h'.FunFrames base l->HH h' base a C t dx (fl'.elim .none λf=>rawInt f)->s.heap.UpToSlots h'->Q () { s with heap:=h' }) :
  wpAny M A (VD (.ref a) fl') Q E s:=by
 rcases ht with⟨oe,vs,T,oT,ts,he,hcls,hdc,hd,h0,h1,hnT,hTe,hT,hdT,h3⟩
 have hsz3:3<ts.size:=(VI.mp h3).1;have other:∀b,b≠T->(s.heap.update T (HW (·.setIfInBounds 3 (fl'.elim Gb λf=>rawInt f)))).get? b=s.heap.get? b :=
  λb hb=>OM _ _ (ER hb)
 have noRecord:∀b o,s.heap.get? b=some o->(∀vs,o.data≠.fields vs)->b≠T:=λb o hb hnf q=>by
  rw[q,hT]at hb;injection hb with hb;subst hb;exact hnf ts hdT
 unfold VD;refine Aj (KR he hd h1 ?_);rw[if_pos (show(CZ T != Gb)=true from by simp)]
 refine OL hT hdT hsz3 (h _ (λb o hbo=>(other b λq=>by rw[q,hnT]at hbo;(exfalso;injection hbo)).trans (hkb b o hbo))
  (hl.of_keeps λb o hb hnf=>⟨o,(other b (noRecord b o hb hnf)).trans hb,rfl⟩) ?_ λb o hb hnf=>⟨o.slots,(other b (noRecord b o hb hnf)).trans hb⟩)
 exact⟨oe,vs,T,_,_,(other a (ER hTe)).trans he,hcls,hdc,hd,h0,h1,hnT,hTe,OF _ hT (Vv (Rj hdT _)),Rj hdT _,by simp[hsz3]⟩
end
end
section
noncomputable def DX(c:FC):Bm:=λl x e h=>∃a t dx B es k g m,e=.ref a/\c.base.StaysIn B/\(∀q∈l.Φ,B.get? q.1=some q.2/\q.1≠c.L/\c.h₀.get? q.1=none)/\B.StaysIn h/\B.get? a=none/\h.FunFrames B (c.fenv::c.outer) /\
 ((∃fl,HH h B a (.ref x.cls) t dx fl/\(fl=.none\/fl=rawInt c.L))\/Yo h a (.ref x.cls) t dx)/\LR c.prog c.w l/\AS l (dx,dictOf es k)/\Dr l es x.as/\Fr c.h₀ c.L g m/\g.UpToSlots h
section
variable {c:FC}{d:Nat}{l:Am}{x:CX}{e:Ad}{s:Aq}{E E0:Ad->Aq->Prop}
theorem DX.note(ok:AL c d){Q:Unit->Aq->Prop}(h:DX c l x e s.heap)(hf:c.fenv.frame=some c.L)(hQ:∀a t dx B es k g m h',e=.ref a->c.base.StaysIn B->(∀q∈l.Φ,B.get? q.1=some q.2/\q.1≠c.L/\c.h₀.get? q.1=none)->B.StaysIn h'->B.get? a=none->h'.FunFrames B (c.fenv::c.outer) ->
  HH h' B a (.ref x.cls) t dx (rawInt c.L)->LR c.prog c.w l->AS l (dx,dictOf es k)->Dr l es x.as->Fr c.h₀ c.L g m->g.UpToSlots h'->Q () { s with heap:=h' }):wpAny c.M c.A (JJ e c.fenv) Q E0 s:=by
 rcases h with⟨a,t,dx,B,es,k,g,m,ea,b1,b2,b3,b4,b5,b6,b8,b9,b10,b11,b12⟩
 have key:=λh' y1 y2 y3 (y4:s.heap.UpToSlots h')=>hQ a t dx B es k g m h' ea b1 b2 y1 b4 y2 y3 b8 b9 b10 b11 (b12.trans y4);rw[ea];clear hQ b1 b2 b8 b9 b10 b11 b12;rcases b6 with⟨fl,b6,e1 | e1⟩ | b6
 ·rw[e1]at b6;exact Ai8 ok.frames b5 hf b6 b3 b4 key
 ·rw[e1]at b6;exact Ai9 hf b6 (key _ b3 b5 b6 (Heap.UpToSlots.refl _))
 ·exact Aja ok.frames b5 hf b6 b3 b4 key
theorem Ajb(ok:AL c d)(m:Ac->Option Ad)(l:Am)(b0 x C:Af)(as:List (Ac×CV))(h:Bb)(ne:as≠[])(st:St c m l h)(z:XS b0 l x C as):∃l':Am,l'.σ=l.σ/\Ap (·=x) l l'/\DX c l' ⟨C,as⟩ (.ref x) h:=by
 rcases z with⟨hb,t,od,ho,r⟩
 cases od with
 | none=>exact absurd r ne
 | some dx =>
 rcases r with⟨r1,r2,es,k,r3,r4⟩
 refine BS (st.dropOth' ho (GN rfl) (λb o y e=>e:Rk x h h)) ?_;rintro l' hnx e' st' x';refine⟨l',e',x',?_⟩;have hL:c.base.get? c.L=none:=by
  rcases q:c.base.get? c.L with _ | o
  ·rfl
  ·have:=ok.below.stays _ o q;rw[VJ st.fr]at this;(exfalso;injection this)
 have hin:∀env∈(c.fenv::c.outer),∀b,env.frame=some b->b∈x::(c.fenv::c.outer).filterMap (·.frame):=λenv he b hb=>.tail _ (IK.mpr ⟨env,he,hb⟩);have hframes:h.FunFrames c.base (c.fenv::c.outer):=by
  refine CP st.fr.ns ?_;rintro oL esL ep hoL hdL _;refine⟨(λq=>by rw[ok.kind]at q;(exfalso;injection q)),⟨c.L,oL,ok.frame,hL,hoL,(λvs q=>by rw[hdL]at q;(exfalso;injection q))⟩,Heap.FunFrames.of_keeps (λb o hb' y=>⟨o,st.fr.keep b o hb',rfl⟩) ok.below.frames⟩
 have hmem:∀b,b∈(c.fenv::c.outer).filterMap (·.frame)->b=c.L\/b∈c.outer.filterMap (·.frame):=λb hm=>by
  refine Ah (IK.mp hm) ?_;rintro env he hf;rcases AV.mp he with rfl | he
  ·exact .inl (Ay (hf.symm.trans ok.frame))
  ·exact .inr (IK.mpr ⟨env,he,hf⟩)
 have hx0:=(st.nw _ ho.1).2;refine⟨x,t,dx,hideAll h (x::(c.fenv::c.outer).filterMap (·.frame)),es,k,h,m,rfl,λb o q=>hideAll_get _ (st.fr.keep b o (ok.below.stays b o q)) λhm => ?_,λq hq => ?_,λb o q=>Acn _ q,hideAll_none _ (.head _),funFrames_hide hframes hin,.inr ⟨_,_,(st.nw _ ho.1).1,rfl,rfl,rfl,rfl,rfl⟩,st'.lr,x'.oth _ r3 (.inr λq=>r2 q),r4.mono x',st'.fr,Aqx λy y e=>e⟩
 ·rcases AV.mp hm with rfl | hm
  ·have:=ok.below.stays _ o q;rw[hx0.2]at this;(exfalso;injection this)
  ·rw[(hframes.mem hm).1]at q;(exfalso;injection q)
 ·have hq':=st'.nw q hq;refine⟨hideAll_get _ hq'.1 λhm => ?_,hq'.2.1,hq'.2.2⟩;rcases AV.mp hm with e | hm
  ·exact hnx q hq e
  ·rcases hmem _ hm with e | hm
   ·exact hq'.2.1 e
   ·refine Ah ((ok.below.frames.mem hm).2) ?_;rintro o ho' _;rw[hq'.2.2]at ho';(exfalso;injection ho')
theorem Yp(ok:AL c d):J5 c (DX c):=⟨λenv l x e s E he h hE=>by
 subst he;unfold notedBy;refine DX.note ok h ok.frame λa t dx B es k g m h' ea b1 b2 b3 b4 b5 b6 b8 b9 b10 b11 b12 => ?_;subst ea;unfold VA;refine Q57 (id b6) ?_;rintro oe vs T oT ts he hcls hdc hd h0 h1 r;refine Aj (KR he hd h1 ?_);rw[if_neg (show ¬((CZ T == Gb)=true)from by simp)]
 rw[ok.frame];refine PG (fl':=some c.L) b3 b5 b6 λh2 y1 y2 y3 y4=>hE h2 ⟨a,t,dx,B,es,k,g,m,rfl,b1,b2,y1,b4,y2,.inl ⟨_,y3,.inr rfl⟩,b8,b9,b10,b11,b12.trans y4⟩,Ajb ok⟩
theorem SM:SK DX:=by
 refine⟨λc d ok=>Yp ok,λc d m g L env l0 l x e s Q E ok ok' F hf hk h hQ => ?_⟩;unfold leaving;refine Aj ?_;refine DX.note (c:=c.callee g L env) ok' h hf λa t dx B es k g2 m2 h' ea b1 b2 b3 b4 b5 b6 b8 b9 b10 b11 b12 => ?_;subst ea;refine PG (fl':=none) b3 b5 b6 λh2 y1 y2 y3 y4=>hQ h2 ⟨a,t,dx,B,es,k,g,m,rfl,b1,λq hq => ?_,y1,b4,y2.2.2,.inl ⟨.none,y3,.inl rfl⟩,b8,b9,b10,F,?_⟩
 ·refine C6 (b2 q hq) ?_;rintro z1 z2 z3;have z3':g.get? q.1=none:=z3;refine⟨z1,λe => ?_,?_⟩
  ·refine Ep F.ns ?_;rintro o _ _ ho _;rw[<- e,z3']at ho;exfalso;injection ho
  ·rcases z:c.h₀.get? q.1 with _ | o
   ·rfl
   ·have:=F.keep _ o z;rw[z3']at this;(exfalso;injection this)
 ·have b11':Fr g L g2 m2:=b11;exact(Aqx b11'.keep).trans (b12.trans y4)
end
end
set_option tactic.hygienic true in
theorem PH{f:Af}{D:C0}(h:Er K f=some D):JR K f D:=by
 unfold Er at h
 split at h
 ·rename_i oc od fd osl ho
  split at h
  ·rename_i b hb
   split at h
   ·rename_i hc;simp only[Bf,beq_iff_eq,Acl]at hc;refine Au hc ?_;clear hc;rintro⟨⟨⟨h1,h2⟩,h3⟩,h4⟩ h5;injection h with za;subst za
    rcases fd with⟨a1,a2,a3,a4,a5,a6,a7,a8,a9,a10,a11,a12,a13,a14,a15⟩
    dsimp only at hb h1 h2 h3 h4 h5;subst hb h1 h2 h3 h4;exact⟨oc,od,osl,_,_,_,_,_,_,ho,h5⟩
   ·exfalso;injection h
  ·exfalso;injection h
 ·exfalso;injection h
noncomputable def HI:List (Af×List Ac):=[(152,[Ab "why",Ab "function",Ab "at"])]
noncomputable def Ig(K:Bk):AP:={ top:=Gh,bins:=EU,attrs:=KW,meths:=HZ,inits:=GK,clsfn:=KY,excs:=HI,defs:=Er K,fn:=λz=>none }
theorem Gs[BEq α][LawfulBEq α]{x:α}{v:β}:∀{l:List (α×β)},l.lookup x=some v->(x,v)∈l:=by
 intro z1
 induction z1 with
 | nil=>intros;contradiction
 | cons z2 r ih =>
  rcases z2 with⟨y,w⟩
  intro h;rw[BI]at h
  by_cases e:(x == y)=true
  ·rw[e]at h;have:=KP e;injection h with za;subst za
   rw[this];exact .head _
  ·have e':(x == y)=false:=by simpa using e
   rw[e']at h;exact .tail _ (ih h)
structure Tabs0(K:Bk):Prop where
 top:Gh.all (V5 K)=true
 bins:EU.all (OZ K)=true
 attrs:KW.all (V6 K)=true
 meths:HZ.all (V7 K)=true
 inits:GK.all (V8 K)=true
 clsfn:KY.all (V9 K)=true
structure Lv(K:Bk):Prop extends Tabs0 K where
 excs:∀C names,HI.lookup C=some names->Pe K C names
theorem Yq(T:Tabs0 K)(ex:List (Af×List Ac))(hex:∀C names,ex.lookup C=some names->Pe K C names)(fn:Af->Option (List CV->CM CV)):Bs K { Ig K with excs:=ex,fn:=fn }:=by
 refine⟨λx v h => ?_,λx v h => ?_,λC xs x h hx => ?_,λC ms x f h h2 => ?_,λC f h => ?_,λC ms x f h h2 => ?_,λf D h=>PH h,hex⟩
 ·have z:=B7.mp T.top _ (Gs h);have z:(match (generalizing:=false) nsIn K El x,v with
   | some (some (.int i _)),.int j=>i == j
   | some (some (.ref a)),.ref b=>a == b && keepIn K (.ref b)
   | _,_=>false)=true:=z
  rcases q:nsIn K El x with _ | o
  ·rw[q]at z;(exfalso;injection z)
  ·rcases o with _ | u
   ·rw[q]at z;(exfalso;injection z)
   ·rw[q]at z;rcases v with j | b
    ·rcases u with⟨⟩<;>try exact(CD z).elim
     dsimp only at z;rw[beq_iff_eq]at z;subst z;exact⟨_,rfl,_,rfl⟩
    ·rcases u with⟨⟩<;>try exact(CD z).elim
     simp only[Bf,beq_iff_eq]at z;refine Au z ?_;clear z;rintro rfl z;exact⟨_,rfl,rfl,z⟩
 ·have z:=B7.mp T.bins _ (Gs h);simp only[OZ,Bf,beq_iff_eq,Fc,beq_eq_false_iff_ne]at z;exact⟨z.1.1.1,z.1.1.2,z.1.2⟩
 ·have z:=B7.mp (B7.mp T.attrs _ (Gs h)) x (by simpa using hx)
  simpa using z
 ·exact B7.mp (B7.mp T.meths _ (Gs h)) (x,f) (Gs h2)
 ·exact B7.mp T.inits _ (Gs h)
 ·exact B7.mp (B7.mp T.clsfn _ (Gs h)) (x,f) (Gs h2)
theorem Yr(T:Lv K)(fn:Af->Option (List CV->CM CV)):J2 { Ig K with fn:=fn }:=⟨λx v h=>by
 have z:=B7.mp T.bins _ (Gs h);simp only[OZ,Bf]at z;have z2:=z.2
 split at z2
 ·exact⟨_,.inl rfl⟩
 ·exact⟨_,.inr rfl⟩
 ·exfalso;injection z2⟩
noncomputable def BW(K:Bk)(N:Nat):Nat->AP
 | 0=>Ig K
 | k+1=>{ Ig K with fn:=λf=>(Er K f).map (J7 (BW K N k) N) }
theorem Jf(K:Bk)(N k:Nat):∃fn,BW K N k={ Ig K with fn:=fn }:=by
 rcases k with _ | k
 ·exact⟨_,rfl⟩
 ·exact⟨_,rfl⟩
theorem Ys(T:Lv K)(N k:Nat):J2 (BW K N k):=by
 refine AK (Jf K N k) ?_;rintro fn e;rw[e];exact Yr T _
theorem Yt{K':Bk}{fn fn':Af->Option (List CV->CM CV)}(g:Bs K' { Ig K with fn:=fn }):Bs K' { Ig K with fn:=fn' }:=⟨g.top,g.bins,g.attrs,g.meths,g.inits,g.clsfn,g.defs,g.excs⟩
theorem Yu(T:Lv K){FX:FC->Bm}(fx:SK FX)(N:Nat):∀k,Lf FX (BW K N k) (2*k+2):=by
 intro z1
 induction z1 with
 | zero =>
  exact λc g ok f spec h=>by(exfalso;injection h)
 | succ k ih =>
  refine Ai6 fx (Ys T N k) (N:=N) (Afn) (λK' g=>⟨?_,λf spec h => ?_⟩) (ih)
  ·refine AK (Jf K N k) ?_;rintro fn e;rw[e];exact Yt g
  ·have h':(Er K f).map (J7 (BW K N k) N)=some spec:=h;refine Ah (HS.mp h') ?_;rintro D hD rfl;exact⟨D,g.defs f D hD,rfl⟩
section
section
variable {Γ:AP}{n:Nat}{ks:AF}{loc:Ao}{f:BU}{g:C3}{X:XT}
end
theorem Ajc(K:Bk)(N k:Nat):(BW K N k).top=Gh:=by rcases k with⟨⟩<;>rfl
theorem Ajd(K:Bk)(N k:Nat):(BW K N k).bins=EU:=by rcases k with⟨⟩<;>rfl
theorem Aje(K:Bk)(N k:Nat):(BW K N k).attrs=KW:=by rcases k with⟨⟩<;>rfl
theorem Ajf(K:Bk)(N k:Nat):(BW K N k).meths=HZ:=by rcases k with⟨⟩<;>rfl
theorem Yv(K:Bk)(N k:Nat):(BW K N k).inits=GK:=by rcases k with⟨⟩<;>rfl
theorem Ajg(K:Bk)(N k:Nat):(BW K N k).clsfn=KY:=by rcases k with⟨⟩<;>rfl
end
theorem Ajh(K:Bk)(N k:Nat)(f:Af)(vs:List CV){D:C0}(h:Er K f=some D):Di (BW K N (k+1)) f vs=J7 (BW K N k) N D vs:=by
 unfold Di;have:(BW K N (k+1)).fn f=some (J7 (BW K N k) N D):=by
  show(Er K f).map _=_;rw[h];rfl
 rw[this]
section
set_option maxHeartbeats 1000000
open Builtin Builtin.ObjectAttr Builtin.Getset_descriptor
structure SN(M:KG)(h:Bb)(C:Af):Prop where
 obj:∃oc od cd sl,h.get? C=some ⟨oc,od,.cls cd,sl⟩/\cd.abstract=false/\cd.hasDel=false/\cd.mro.isEmpty=false
 made:BR M h (Aco (.ref C)) (some "Exception.__new__")
 base:BR M h (Aqy (.ref C)) (.ref C)
 self:BR M h (Hj (.ref C) (.ref C)) true
 exc:BR M h (Hj (.ref C) (.type "Exception")) true
 att:BR M h (Hj (.ref C) (.type "AttributeError")) false
 nam:BR M h (Hj (.ref C) (.type "NameError")) false
 bexc:BR M h (Hj (.ref C) (.type "BaseException")) true
 call:BR M h (specialOf (.ref C) "__call__") (some (.builtin "type.__call__"))
 typ:BR M h (KJ (.ref C) (.type "type")) true
set_option tactic.hygienic true in
theorem SO{M:KG}{h:Bb}(X:K.In h){C:Af}(e:IP K C=true):SN M h C:=by
 unfold IP at e;rcases ho:K.lookup C with _ | ⟨oc,od,dt,sl⟩
 ·rw[ho]at e;exact(CD e).elim
 rw[ho]at e;rcases dt with⟨⟩
 case cls cd =>
  simp only[Bf,Fc,beq_iff_eq]at e;refine Au e ?_;clear e;rintro⟨⟨⟨⟨⟨⟨⟨⟨⟨e1,e2⟩,e3⟩,e4⟩,e5⟩,e6⟩,e7⟩,e8⟩,e9⟩,e10⟩ e11;have hc:clsIn K C=some cd:=by unfold clsIn;rw[ho]
  have hm:BR M h (mroOf (.ref C)) cd.mro:=(VK X hc).andThen .now;obtain⟨c,l,hl⟩:∃c l,cd.mro=c::l:=by cases q:cd.mro with | nil=>rw[q]at e4;(exfalso;injection e4) | cons c l=>exact⟨c,l,rfl⟩
  have made:BR M h (Aco (.ref C)) (some "Exception.__new__"):=by
   intro A Q E s k q;unfold Aco;refine Aj (hm A _ E s k ?_);rw[hl,Vy];refine Aj (Aj (Aj (Aj (VL (k _ _ (X _ _ ho)) (AD ?_)))));dsimp only;rw[<- Mh,e3];exact AD (AD (AD q))
  have mr:∀b r,cd.mro.contains b=r->mroIn K C b=some r:=λb r q=>by unfold mroIn;rw[hc,Acp,if_neg (by rw[e4];decide),q]
  refine⟨⟨oc,od,cd,sl,X _ _ ho,e1,e2,e4⟩,made,?_,OS X (mr _ _ e5),OS X (mr _ _ e6),OS X (mr _ _ e7),OS X (mr _ _ e8),OS X (mr _ _ e9),looks_specialIn X e10,looks_instIn X e11⟩;intro A Q E s k q;unfold Aqy;refine Aj (hm A _ E s k ?_);rw[hl,Vy];exact Aj (Aj (Aj (made A _ E s k (AD (AD (AD q))))))
 all_goals exact(CD e).elim
noncomputable abbrev Lw(C:Af)(t:Af):AU:={ cls:=.ref C,data:=.fields #[.ref t,.none,.none,.none,.bool false,.none] }
section
variable {prog:CJ}{w:BK}{A:CK}{K:Bk}{C:Af}{R:Hc->Aq->Prop}{h:Bb}{g:Array Oh}{d:Drawn}{t:Nat}{os:Hd}
theorem Aji{rest:List Ad}(Y:SN (model prog w) h C)(hz:rest.length<=sizeLine)
  (hq:R (.ok (.ret (.ref (h.objs.size+1)))) ⟨(h.push { cls:=.type "tuple",data:=.seq rest.toArray }).push (Lw C h.objs.size),g,d,t,os⟩) :
  codeAny (model prog w) A (.call (.builtin "Exception.__new__") ⟨.ref C::rest,[]⟩) R ⟨h,g,d,t,os⟩:=by
 rcases Y with⟨⟨oc,od,cd,sl,hC,e1,e2,e4⟩,made,base,self,exc,att,nam,bexc,call,typ⟩
 have F:=PySem.F.excBase_Exception;have hstar:=F.noStar;have here:BR (model prog w) h (Bind.madeHere "BaseException.__new__" (.ref C)) ():=base.andThen (made.andThen (Vk (by simp only[Rn,F.canon,bne_self_eq_false,JH,if_false])))
 refine codeAny_call_builtin_code (AbO _ F.quiet) ?_;simp only[AbN,F.newKind,F.newSplit,F.newRow]
 repeat (first | simp only[bne_self_eq_false,JH,if_false,Vw] | lk)
 refine codeAny_builtinAt F.entry ?_;unfold Builtin.«BaseException.__new__»;refine PySem.wpAt_bind ?_;show PySem.wpAt _ _ _ (stack >>= _) _ _ _;refine PySem.wpAt_bind (PySem.wpAt_stack λp below=>PySem.wpAt_of_wpAny ?_);have hends:=F.ends
 wp_walk
 refine PySem.wpAt_of_wpAny ?_;rw[F.owner]
 repeat (first | simp only[bne_self_eq_false,JH,if_false,Vw] | lk)
 rw[if_neg (by rw[F9]at hz;rw[KH,F9];exact Afo hz)]
 unfold newObjAsIs classHasDel
 repeat (first | simp only[bne_self_eq_false,JH,if_false,Vw] | lk)
 refine Ab2 (Eo _ (Eo _ hC)) (AD ?_);rw[e2];refine AD ?_;refine AD ?_;show R _ _;rw[Rg];exact hq
theorem Ajj{rest:List Ad}{init:Ad}(Y:SN (model prog w) h C)(hz:rest.length<=sizeLine)(hi:BR (model prog w) h (typeLookup (.ref C) "__init__") (some init))
  (hb:∀self,BR (model prog w) h (bindSpecial init self) (init,[self]))
  (hq:codeAny (model prog w) (A.under (.builtin "type.__call__" ⟨.ref C::rest,[]⟩)) (.call init ⟨.ref (h.objs.size+1)::rest,[]⟩) (InitBack (h.objs.size+1) R) ⟨(h.push { cls:=.type "tuple",data:=.seq rest.toArray }).push (Lw C h.objs.size),g,d,t,os⟩) :
  codeAny (model prog w) A (.call (.ref C) ⟨rest,[]⟩) R ⟨h,g,d,t,os⟩:=by
 have Y':=Y;rcases Y with⟨⟨oc,od,cd,sl,hC,e1,e2,e4⟩,made,base,self,exc,att,nam,bexc,call,typ⟩
 refine AbM ?_;show wpAny _ _ (callAny (.ref C) _) _ _ _;refine nd_load hC ?_;show wpAny _ _ (Aqz (.ref C) _) _ _ _;unfold Aqz;refine Aj (call.at ?_);dsimp only;rw[tc_bind];refine Aj (AD (Aj (AD ?_)));refine AD (a:=Fin.again (.call (.builtin "type.__call__") ⟨.ref C::rest,[]⟩)) (Ae rfl ?_);refine codeAny_call_builtin_at (AbO _ (by decide +kernel)) entry_typeCall (Acq tc_kind tc_split typ (tc_args _ _ _) ?_)
 unfold Builtin.«type.__call__»;have hm:BR (model prog w) h (mroOf (.ref C)) cd.mro:=((Mq (part:=none) hC).andThen .now).andThen .now
 repeat (first | simp only[e4,JH,if_false] | with_reducible refine KI ?_ | lk)
 refine Aji Y' hz ?_;have k:∀b o,h.get? b=some o->((h.push { cls:=.type "tuple",data:=.seq rest.toArray }).push (Lw C h.objs.size)).get? b=some o:=λb o e=>Eo _ (Eo _ e);have hx:((h.push { cls:=.type "tuple",data:=.seq rest.toArray }).push (Lw C h.objs.size)).get? (h.objs.size+1)=some (Lw C h.objs.size):=by heap_get
 have t1:BR (model prog w) ((h.push { cls:=.type "tuple",data:=.seq rest.toArray }).push (Lw C h.objs.size)) (typeOf (.ref (h.objs.size+1))) (.ref C):=(Mq hx).andThen .now;have s1:=self.keeps k;have i1:=hi.keeps k;have b1:=(hb (.ref (h.objs.size+1))).keeps k;unfold KJ callSpecial? specialOf
 repeat (first | with_reducible refine KI ?_ | lk)
 refine AbP hq λr s' z => ?_;rcases r with e | (v | _ | _ | _)<;>first | exact z | exact z.elim | skip
 refine Au z ?_;clear z;rintro rfl z;exact AD (AD z)
end
end
section
set_option maxHeartbeats 1000000
open Builtin Builtin.ObjectAttr Builtin.Getset_descriptor
theorem Ajk(self:Ad):∀{l:List Ad},O0 l=true->refuseLoop self "__setattr__" l=pure ():=by
 intro l
 induction l with
 | nil=>intro e;(exfalso;injection e)
 | cons v r ih =>
  intro e;cases v with
  | ref c=>rw[refuseLoop_ref];exact ih e
  | type n =>
   have:(EO n::r)=[.type "Exception",.type "BaseException",.type "object"]:=KP e;rw[this];exact PySem.F.store_Exception.passes self
  | _=>(exfalso;injection e)
theorem Ajl:∀{l:List Ad},O0 l=true->l.contains (.type "object")=true:=by
 intro l
 induction l with
 | nil=>intro e;(exfalso;injection e)
 | cons v r ih =>
  intro e;cases v with
  | ref c=>rw[AqA,ih e,Bool.or_true]
  | type n =>
   have:(EO n::r)=[.type "Exception",.type "BaseException",.type "object"]:=KP e;rw[this];decide +kernel
  | _=>(exfalso;injection e)
section
variable {prog:CJ}{w:BK}{A A₀:CK}{E:Ad->Aq->Prop}{s:Aq}{K:Bk}{x C dx L:Af}{h₀:Bb}{m:Ac->Option Ad}{news news':List (Af×AU)}{ox od:AU}{es es':List Em}{n n':Nat}{name:Ac}{v:Ad}{R:Hc->Aq->Prop}
theorem Yw{ox:AU}{od:Option AU}{tk:Tok}{r:Option Ad}(X:K.In s.heap)(I:InstAt s.heap x ox C od)(hp:O1 K C=true)(ht:takerIn K C name=some r)
  (h:∀b,wpAny (model prog w) A.in1 (match r with | some a=>setByDescriptor a (.ref x) v | none=>storeInOwnDict (.ref x) (.ref C) (.str name tk) name v b)
   (λfin s'=>match fin with | .done f=>R (.ok f) s' | .again c'=>c'.quiet=true/\codeAny (model prog w) A c' R s') (λe s'=>R (.error e) s') s) :
  codeAny (model prog w) A (.call (.builtin "object.__setattr__") ⟨[.ref x,.str name tk,v],[]⟩) R s:=by
 have SF:=PySem.F.store_object;refine Ah (VM hp) ?_;rintro cd hc ho;refine Au (Og.mp ho) ?_;rintro ho -;have ne:cd.mro.isEmpty=false:=by cases q:cd.mro with | nil=>rw[q]at ho;(exfalso;injection ho) | cons _ _=>rfl
 have sub:BR (model prog w) s.heap (KJ (.ref x) (.type "object")) true:=I.type.andThen (OS X (by unfold mroIn;rw[hc,Acp,if_neg (by rw[ne];decide),Ajl ho]))
 refine Vs SF.slot.plain SF.entry (@Acq (model prog w) _ _ s "object.__setattr__" "object" "__setattr__" (.ref x) [.str name tk,v] [] _ SF.kind SF.split sub (SF.args (.ref x) (.str name tk) v) ?_);refine Ah (QY.mp ht) ?_;rintro attr ha hr;have hm:BR (model prog w) s.heap (mroOf (.ref C)) cd.mro:=(VK X hc).andThen .now;have L3:BR (model prog w) s.heap (storeTaker? attr) r:=by
  rcases attr with _ | a
  ·injection hr with za;subst za;exact .now
  ·refine Ah (HS.mp hr) ?_;rintro b hb rfl;refine(looks_takesIn X hb).andThen ?_;rcases b with⟨⟩<;>exact .now
 rw[osa_eq,refuse_eq];refine Aj (Aj (I.type.here (Aj (hm.here ?_))));rw[Ajk _ ho];refine AD (Aj (I.type.here (Aj ((VN X ha).here (Aj (L3.here ?_))))));exact h _
set_option tactic.hygienic true in
theorem Yx{Q:Fin->Aq->Prop}{od od':AU}{tk:Tok}{pre:List (Af×AU)}{es:List Em}(F:Fr h₀ L s.heap m)(N:CL h₀ L s.heap (pre++(dx,od)::post))
  (hl:(lookIn name od).isSome=true) (h1:∀p∈pre,p.1≠dx) (h2:∀p∈post,p.1≠dx)
  (e:Obj.putName name (Ml w.params name) (.str name s.toks) v od=od') (e':od'.data=.dict es.toArray n) (hz:es.length<=1000)
  (h:∀h',Fr h₀ L h' m->CL h₀ L h' (pre++(dx,od')::post)->Q (.done (.ret .none)) (put s h' (s.toks+1))) :
  wpAny (model prog w) A (storeInDict dx (.str name tk) name v) Q E s:=by
 refine Au (Acr (f:=Obj.putName name (Ml w.params name) (.str name s.toks) v) F N h1 h2 e (by rcases od' with⟨_,_,dd,_⟩;subst e';rfl)) ?_;rintro U1 U2
 have D:=(N (dx,od) (by simp)).1
 have D':=(U2 (dx,od') (by simp)).1
 unfold storeInDict newKeyGuard;refine Aj (AD (Aj ?_));unfold nsSet;refine Aj (Aj (OH (AD (Aj (AbZ (Aj (VL D ?_)))))));unfold lookIn at hl
 split at hl
 ·rename_i es₀ n₀ q;rw[q];dsimp only;have c:(!es₀.any (·.key.isStr name) && es₀.any (·.refKey))=false:=by
   rw[<- Va,<- Va]
   split at hl
   ·rename_i en he;rw[ApX.mpr ⟨en,List.mem_of_find?_eq_some he,List.find?_some he⟩];rfl
   ·split at hl
    ·exfalso;injection hl
    ·rename_i z;rw[Bool.not_eq_true]at z;rw[z,Oo]
  rw[aRefKeyMayBeTheName_at,c];refine wpAny_updatePart D ?_;refine Aj (wpAny_lookBehind D' (by rw[e'];exact pastItsLine_dict (by rw[KH,F9];exact Afp hz)) ?_)
  exact AD (h _ U1 U2)
 ·exfalso;injection hl
theorem Ajm{Q:Unit->Aq->Prop}{pre:List (Af×AU)}(F:Fr h₀ L s.heap m)(X₀:K.In h₀)(N:CL h₀ L s.heap (pre++(dx,dictOf es n)::post))(I:InstAt s.heap x ox C (some (dictOf es n)))(hd:ox.dict=some dx)
  (hs:findIn K (.ref C) "__setattr__" = some (some (.builtin "object.__setattr__"))) (hp:O1 K C=true) (ht:takerIn K C name=some none) (hl:(getL name es).isSome=true)
  (h1:∀p∈pre,p.1≠dx) (h2:∀p∈post,p.1≠dx) (hz:(putL name (Ml w.params name) (.str name (s.toks+1)) v es).length<=1000)
  (h:∀h',Fr h₀ L h' m->CL h₀ L h' (pre++(dx,dictOf (putL name (Ml w.params name) (.str name (s.toks+1)) v es) (putN name es n))::post)->Q () (put s h' (s.toks+2))) :
  wpAny (model prog w) A (setAttr (.ref x) name v) Q E s:=by
 have X:=X₀.keeps F.keep;refine set_plain X I hs (Yw (s:={ s with toks:=s.toks+1 }) X I hp ht λb => ?_)
 refine Ah (VM hp) ?_;rintro cd hc hd';refine Au (Og.mp hd') ?_;rintro-hd';rcases I with⟨hx,hcl,hn,-⟩
 rcases ox with⟨oc,odi,oda,osl⟩
 dsimp only at hcl hd;subst hcl hd;refine Aj (AD (Aj (Aj (VL hx (Aj ((VK X hc) _ _ _ _ (λz z e=>e) ?_))))));rw[hd'];refine AD (a:=some dx) ?_;refine Yx (s:={ s with toks:=s.toks+1 }) F N hl h1 h2 (by rw[putName_dict]) rfl hz λh' F' N' => ?_
 exact h h' F' N'
theorem Ajn{Q:Unit->Aq->Prop}{pre:List (Af×AU)}(F:Fr h₀ L s.heap m)(X₀:K.In h₀)(N:CL h₀ L s.heap (pre++(x,ox)::post))(hcl:ox.cls=.ref C)(hn:notCls ox=true)(hd:ox.dict=none)(hfr:ox.isFreed=false)
  (hs:findIn K (.ref C) "__setattr__" = some (some (.builtin "object.__setattr__"))) (hp:O1 K C=true) (ht:takerIn K C name=some none)
  (h1:∀p∈pre,p.1≠x) (h2:∀p∈post,p.1≠x)
  (h:∀d h',Fr h₀ L h' m->CL h₀ L h' ((d,dictOf [⟨Ml w.params name,.str name (s.toks+1),v⟩] 1)::(pre++(x,{ ox with dict:=some d })::post))->(∀p∈pre++(x,ox)::post,p.1<d)->Q () (put s h' (s.toks+2))) :
  wpAny (model prog w) A (setAttr (.ref x) name v) Q E s:=by
 have X:=X₀.keeps F.keep;have hx:=(N (x,ox) (by simp)).1
 have I:InstAt s.heap x ox C none:=⟨hx,hcl,hn,by rw[hd];trivial⟩
 refine set_plain X I hs (Yw (s:={ s with toks:=s.toks+1 }) X I hp ht λb => ?_)
 refine Ah (VM hp) ?_;rintro cd hc hd';refine Au (Og.mp hd') ?_;rintro-hd';have F1:=F.push (o:=OT);have N1:=N.push F OT;have lt:∀p∈pre++(x,ox)::post,p.1<s.heap.objs.size:=λp hp=>BE (N p hp).1;refine Au (Acr (pre:=(s.heap.objs.size,OT)::pre) (post:=post) (f:=λo=>{ o with dict:=some s.heap.objs.size }) (o':={ ox with dict:=some s.heap.objs.size }) F1 N1 (λp hp=>by
  rcases AV.mp hp with rfl | hp
  ·exact λq=>BX _ (q▸lt (x,ox) (by simp))
  ·exact h1 p hp) h2 rfl (by rcases ox with⟨_,_,dt,_⟩;rcases dt with⟨⟩<;>first | rfl | exact hfr)) ?_;rintro F2 N2
 rcases ox with⟨oc,odi,oda,osl⟩
 dsimp only at hcl hd;subst hcl hd;refine Aj (AD (Aj (Aj (VL hx (Aj ((VK X hc) _ _ _ _ (λz z e=>e) ?_))))));rw[hd'];have hpush:(s.heap.push OT).get? x=some { cls:=CZ C,data:=oda,slots:=osl }:=Eo _ hx;have fin:wpAny (model prog w) A.in1 (storeInDict s.heap.objs.size (.str name s.toks) name v) (λfin s'=>match fin with
   | .done f=>(match (Except.ok f:Hc)with | .ok (.ret _)=>Q () s' | .ok _=>False | .error e=>E e s')
   | .again c'=>c'.quiet=true/\codeAny (model prog w) A c' (λr s'=>match r with | .ok (.ret _)=>Q () s' | .ok _=>False | .error e=>E e s') s') (λe s'=>E e s')
   { heap:=(s.heap.push OT).update x λo=>{ cls:=o.cls,dict:=some s.heap.objs.size,data:=o.data,slots:=o.slots },gens:=s.gens,drawn:=s.drawn,toks:=s.toks+1,os:=s.os }:=by
  refine Yx (pre:=[]) (s:={ heap:=(s.heap.push OT).update x λo=>{ cls:=o.cls,dict:=some s.heap.objs.size,data:=o.data,slots:=o.slots },gens:=s.gens,drawn:=s.drawn,toks:=s.toks+1,os:=s.os }) F2 (od:=dictOf [] 0) N2 rfl (λp hp=>by rcases hp with⟨⟩) (λp hp => ?_) (by rw[putName_dict];rfl) rfl (by simp) λh' F' N'=>h _ h' F' N' lt
  have:p.1<s.heap.objs.size:=by
   rcases BM.mp hp with q | q
   ·exact lt p (Cg _ q)
   ·rcases AV.mp q with rfl | q
    ·exact lt (x,{ cls:=CZ C,data:=oda,slots:=osl }) (by simp)
    ·exact lt p (CC _ (.tail _ q))
  exact Cb this
 rcases oda with⟨⟩<;>first
  | (first | (exfalso;injection hn;done) | (rcases hn with⟨⟩));done
  | exact Aj (wpAny_alloc (Aj (wpAny_update' hpush (AD fin))))
end
end
section
set_option maxHeartbeats 1000000
open Builtin Builtin.ObjectAttr Builtin.Getset_descriptor
section
variable {c:FC}{FX:Bm}{m:Ac->Option Ad}{l l':Am}{d:Nat}{h h':Bb}{x C b0:Af}{as:List (Ac×CV)}
theorem St.turnN{a:Af}{pre:List (Af×AU)}(st:St c m l h)(e:l.Φ=pre++(a,o)::post)(h1:∀p∈pre,p.1≠a)(h2:∀p∈post,p.1≠a)(ho:AS l (a,o))(hc:∀vs k,o≠Cy vs k)
  (F':Fr c.h₀ c.L h' m) (N':CL c.h₀ c.L h' (pre++(a,o')::post)):∃l':Am,l'.σ=l.σ/\l'.Φ=pre++(a,o')::post/\St c m l' h'/\Ap (·=a) l l'/\AS l' (a,o'):=by
 refine C6 (WQ (l':={ l with Φ:=pre++(a,o')::post }) st.lr e h1 h2 ho hc rfl) ?_;rintro x' R' o2
 exact⟨{ l with Φ:=pre++(a,o')::post },rfl,rfl,⟨F',N',R'⟩,x',o2⟩
theorem Ajo{Q:Unit->Aq->Prop}{a:CV}(ok:AL c d)(hk:IQ c.K C name=true)(st:St c m l s.heap)(z:XS b0 l x C as)(hv:VR l v a)(hz:as.length<900)
  (hQ:∀l' h' tk,l'.σ=l.σ->St c m l' h'->Ap (b0<=·) l l'->XS b0 l' x C (CQ name a as)->Q () (put s h' tk)) :
  wpAny c.M c.A (setAttr (.ref x) name v) Q E s:=by
 simp only[IQ,Bf,beq_iff_eq]at hk;refine Au hk ?_;clear hk;rintro⟨k1,k2⟩ k3;rcases z with⟨hb,t,od,ho,r⟩
 rcases od with _ | dx
 ·have r:as=[]:=r;subst r;refine Br (st.split ho.1) ?_;rintro pre post e g1 g2;have N:=st.nw;rw[e]at N;refine Ajn st.fr ok.kin N rfl rfl rfl rfl k1 k2 k3 g1 g2 λdx h' F' N' hlt => ?_;refine IL (st.turnN e g1 g2 ho (GN rfl) F' (λp hp=>N' p (.tail _ hp))) ?_;rintro l1 s1 e1 st1 x1 o1;have hlt':∀p∈l1.Φ,p.1<dx:=λp hp=>by
   rw[e1]at hp;rcases BM.mp hp with q | q
   ·exact hlt p (Cg _ q)
   ·rcases AV.mp q with rfl | q
    ·exact hlt (x,GR C t none) (by simp)
    ·exact hlt p (CC _ (.tail _ q))
  refine BS (st1.addJ F' (by rw[e1];exact N') λp hp=>Cb (hlt' p hp)) ?_;rintro l2 s2 st2 x2 o2
  have x1':Ap (b0<=·) l l1:=x1.widen λa q=>q▸hb;have hxd:x<dx:=hlt' _ o1.1;refine hQ l2 h' _ (s2.trans s1) st2 (x1'.trans x2.weaken) ⟨hb,t,some dx,x2.all o1,AE hb (DI hxd),Mo hxd,_,_,o2,?_⟩;exact .cons ((hv.mono x1).mono x2) .nil
 ·rcases r with⟨r1,r2,es,k,r3,r4⟩
  refine Br (st.split r3.1) ?_;rintro pre post e g1 g2;have N:=st.nw;rw[e]at N;have I:InstAt s.heap x (GR C t (some dx)) C (some (dictOf es k)):=⟨(st.nw _ ho.1).1,rfl,rfl,(st.nw _ r3.1).1⟩;have hl':(getL name es).isSome=true:=by
   rcases r4.get name with⟨_,_,_,hw,_⟩ | ⟨_,hw⟩<;>rw[hw]<;>rfl
  have hlen:=(r4.put (x:=name) (hsh:=Ml c.w.params name) (t:=s.toks+1) hv).length;have hp:=Sb name a as;refine Ajm st.fr ok.kin N I rfl k1 k2 k3 hl' g1 g2 (Afq hz hlen hp) λh' F' N' => ?_;refine IL (st.turnN e g1 g2 r3 (WO rfl) F' N') ?_;rintro l1 s1 e1 st1 x1 o1;refine hQ l1 h' _ s1 st1 (x1.widen λa q=>q▸r1) ⟨hb,t,some dx,x1.oth _ ho (.inr λq=>r2 q.symm),r1,r2,_,_,o1,(r4.put hv).mono x1⟩
end
end
section
set_option maxHeartbeats 1000000
open Builtin Builtin.ObjectAttr Builtin.Getset_descriptor
structure Fm(c:FC)(m:Ac->Option Ad)(env:Env)(l:Am)(loc:Ao)(slf:Ac)(x:Af):Prop where
 eo:Ck c env
 er:Cd c m env l loc
 lo:env.locals=c.L
 fen:env=c.fenv
 kind:env.kindOf slf=some .local
 good:Dg slf=true
 at_:m slf=some (.ref x)
 cells:env.cells=[]
section
variable {c:FC}{FX:Bm}{m:Ac->Option Ad}{l l':Am}{d:Nat}{h h':Bb}{x C b0:Af}{as:List (Ac×CV)}{env:Env}{loc:Ao}{slf:Ac}{Γ:AP}
theorem Fm.mono(e:Ap No l l')(z:Fm c m env l loc slf x):Fm c m env l' loc slf x:={ z with er:=z.er.mono e }
theorem Fm.keep(e:Ap D l l')(st:St c m l h)(z:Fm c m env l loc slf x):Fm c m env l' loc slf x:=by
 refine { z with er:=⟨λn v k e1 e2 => ?_,.inl z.lo⟩ }
 have y:=z.er.nm n v k e1 e2;rcases k with _ | _ | _ | _ | _
 case «local» =>
  rcases y with⟨q,w,hm,hv⟩ | ⟨oC,m₂,w,ho,_⟩
  ·exact .inl ⟨q,w,hm,hv.mono e⟩
  ·exact absurd z.lo (st.nw _ ho.1).2.1
 case cell =>
  refine Ep y ?_;clear y;rintro a o w q _;rw[z.cells]at q;exfalso;injection q
 case free =>
  refine Ep y ?_;clear y;rintro a o w q _;rw[z.cells]at q;exfalso;injection q
 all_goals exact y
theorem Yy{p:Pos}(xf:Fm c m env l loc slf x)(st:St c m l s.heap)(h:Q (.ref x) s):wpAny c.M c.A (eval (.Name slf p) env) Q E s:=by
 have hg:=xf.good;simp only[Dg,Bf,Fc]at hg;exact Mj (QW xf.eo.kind xf.kind (xf.lo▸st.fr.ns) xf.at_ h) hg.1
theorem Ajp{Q:List Ad->Aq->Prop}{p:Pos}(xf:Fm c m env l loc slf x)(st:St c m l s.heap)(hf:Bz c FX m env l f)(he:BC f es l.σ=.ok cs l.σ)
  (h:∀l' vs h' tk,l'.σ=l.σ->St c m l' h'->Ap No l l'->AA l' vs cs->Q (.ref x::vs) (put s h' tk)) :
  wpAny c.M c.A (spliced (backTo pos (starEach (.Name slf p::es) env))) Q E s:=by
 rw[JS rfl];show wpAny _ _ (spliced ((false,eval (.Name slf p) env)::backTo pos (starEach es env))) _ _ _;rw[R6];refine Aj (Yy xf st ?_);refine Aj (Dp (Hx es hf s _ E st (λb l' a h' tk e st' x' hv => ?_) (λy l' e h' tk hx xx fx => ?_) λq => ?_))
 ·rw[he]at e;injection e with e1 e2
  subst e1;exact AD (h l' a h' tk e2.symm st' x' hv)
 ·rw[he]at hx;(exfalso;injection hx)
 ·rw[he]at q;(exfalso;injection q)
theorem Ajq(ok:AL c d)(hC:IP c.K C=true)(st:St c m l s.heap)(z:XS b0 l x C as)(hz:ws.length<=sizeLine)
  (hQ:∀l' h',l'.σ=l.σ->St c m l' h'->Ap (b0<=·) l l'->XS b0 l' x C as->Q .none { s with heap:=h' }) :
  wpAny c.M c.A (call (.builtin "Exception.__init__") (.ref x::ws)) Q E s:=by
 have F:=PySem.F.excBase_Exception;have Y:=SO (M:=c.M) (ok.kin.keeps st.fr.keep) hC;rcases z with⟨hb,t,od,ho,r⟩
 rcases s with⟨hh,g,dr,tk,os⟩
 have hx:=(st.nw _ ho.1).1;have T:BR c.M hh (KJ (.ref x) (.type "Exception")) true:=((Mq hx).andThen .now:BR _ _ (typeOf (.ref x)) (.ref C)).andThen Y.exc;refine Br (st.split ho.1) ?_;rintro pre post e g1 g2;have N:=st.nw;rw[e]at N;have lt:∀p∈pre++(x,GR C t od)::post,p.1<hh.objs.size:=λp hp=>BE (N p hp).1;have N1:=N.push st.fr (Cy ws 0);refine Au (Acr (pre:=(hh.objs.size,Cy ws 0)::pre) (post:=post) (f:=HW (·.setIfInBounds 0 (.ref hh.objs.size))) (o':=GR C hh.objs.size od) (st.fr.push (Cy ws 0)) N1 (λp hp=>by
  rcases AV.mp hp with rfl | hp
  ·exact λq=>BX _ (q▸lt (x,GR C t od) (by simp))
  ·exact g1 p hp) g2 rfl rfl) ?_;rintro F2 N2
 refine KI (Vs F.init.plain F.initEntry ?_);have hshort:=F.noStar;simp only[AbN,F.initKind,F.initSplit,F.initRow];refine Aj (T.here ?_);rw[if_neg (by decide)]
 rcases id Y with⟨⟨oc,odc,cd,sl,hCC,e1,e2,e4⟩,-⟩
 repeat (first | with_reducible refine Ab2 hCC ?_ | with_reducible refine AqB hx ?_ | with_reducible refine AqB hCC ?_ | wp_step)
 refine wpAny_onRaise ?_;rw[show ∀(a b:String) (n:Nat),Bind.check ⟨.positional,"*","Exception",.self,[⟨"args",.varPos,false⟩]⟩ a b n (Hl (λx=>x.fst) ({ pos:=CZ x::ws }:Args).kw)=pure ()from
  λa b n=>check_star_args _ _ _ _ _ _]
 refine AD ?_;have hx1:(hh.push (Cy ws 0)).get? x=some (GR C t od):=Eo _ hx;unfold Builtin.«BaseException.__init__»
 wp_walk
 show Q .none _;refine IL (st.turnN e g1 g2 ho (GN rfl) F2 (λp hp=>N2 p (.tail _ hp))) ?_;rintro l1 s1 e1 st1 x1 o1;have hlt':∀p∈l1.Φ,p.1<hh.objs.size:=λp hp=>by
  rw[e1]at hp;rcases BM.mp hp with q | q
  ·exact lt p (Cg _ q)
  ·rcases AV.mp q with rfl | q
   ·exact lt (x,GR C t od) (by simp)
   ·exact lt p (CC _ (.tail _ q))
 refine BS (st1.addJ F2 (by rw[e1];exact N2) λp hp=>Cb (hlt' p hp)) ?_;rintro l2 s2 st2 x2 o2
 have x1':Ap (b0<=·) l l1:=x1.widen λa q=>q▸hb;refine hQ l2 _ (s2.trans s1) st2 (x1'.trans x2.weaken) ⟨hb,hh.objs.size,od,x2.all o1,?_⟩;rcases od with _ | dx
 ·exact r
 ·rcases r with⟨r1,r2,es,k,r3,r4⟩
  exact⟨r1,r2,es,k,x2.all (x1.oth _ r3 (.inr λq=>r2 q)),(r4.mono x1).mono x2⟩
end
end
section
set_option maxHeartbeats 1000000
open Builtin Builtin.ObjectAttr Builtin.Getset_descriptor
section
variable {c:FC}{FX:Bm}{m:Ac->Option Ad}{l l':Am}{d:Nat}{h h':Bb}{x C b0:Af}{as:List (Ac×CV)}{env:Env}{loc:Ao}{slf:Ac}{Γ:AP}
set_option tactic.hygienic true in
theorem Ajr{Q:FE->Aq->Prop}{a n:Ac}{p2:Pos}{v:CV}(ok:AL c d)(g:Bs c.K Γ)(xf:Fm c m env l loc slf x)(hk:IQ c.K C a=true)(st:St c m l s.heap)(z:XS b0 l x C as)(hz:as.length<900)
  (hn:GS Γ env.scope.names loc n l.σ=.ok v l.σ)
  (hQ:∀l' h' tk,l'.σ=l.σ->St c m l' h'->Ap (b0<=·) l l'->XS b0 l' x C (CQ a v as)->Q .next (put s h' tk)) :
  wpAny c.M c.A (exec (.Assign [.Attribute (.Name slf p1) a p2] (.Name n p3) pos) env) Q E s:=by
 have fe:DD c env:=⟨xf.eo,xf.lo,xf.fen⟩;rw[Aci];refine Aj (F8 ?_);rw[PC fe (value:=.Name n p3) rfl];refine Aj (AD ?_);rw[if_neg (show ¬(Ic env.scope.names (.Name n p3) (.Attribute (.Name slf p1) a p2)=true)from CD)];refine Aj (R3 (FX:=λj j j j=>False) ok g xf.eo xf.er s _ E st (λb l1 w h1 tk1 e st1 x1 hw => ?_) (λy l' e h' tk hx xx fx=>fx.elim) λq=>by rw[hn]at q;(exfalso;injection q))
 rw[hn]at e;injection e with e1 e2
 subst e1;rw[X7 (Sw fe) (r:=none) rfl];refine Aj (AD ?_);show wpAny _ _ (assign (.Attribute (.Name slf p1) a p2) env w >>= λj=>(pure .next:Sem FE)) Q E _
 rw[Aqr];refine Aj (Aj (Dp (Yy (xf.mono x1) st1 (Aj (F8 (Aj (Dp ?_)))))));refine Ajo ok hk st1 (z.mono x1) hw hz λl2 h2 tk2 s2 st2 x2 z2 => ?_;exact Vg (AD (hQ l2 h2 tk2 (s2.trans e2.symm) st2 ((x1.weaken).trans x2) z2))
theorem Ajs(K:Bk):findCls K (.type "Exception") (.type "type") "__init__" = some (.val (.builtin "Exception.__init__")):=by kernel_rfl
theorem Ajt:typeOf (.type "Exception")=pure (.type "type"):=by kernel_rfl
theorem Aju:Manifest.isStub "Exception" = false:=by kernel_rfl
theorem Ajv:Aa1 "Exception" = some (.type "Exception"):=by kernel_rfl
theorem Yz{P:Bb->Prop}{p:Pos}{fv:Ad}(hn:noStar es=true)(xf:Fm c m env l loc slf x)(st:St c m l s.heap)(hf:Bz c FX m env l f)(he:BC f es l.σ=.ok cs l.σ)
  (hP:∀l' h,St c m l' h->P h) (hk:∀h,P h->∃k,(k=Keeper.frame\/k=ApF\/k=ApG)/\BR c.M h (keeperOf fv) k)
  (h:∀l' vs h' tk,l'.σ=l.σ->St c m l' h'->Ap No l l'->AA l' vs cs->wpAny c.M c.A (call fv (.ref x::vs)) Q E (put s h' tk)) :
  wpAny c.M c.A (callWith pos fv [] (backTo pos (starEach (.Name slf p::es) env)) []) Q E s:=by
 have hns:noStar (.Name slf p::es)=true:=by simp only[noStar,Bf];exact⟨rfl,hn⟩
 have plain:((backTo pos (starEach (.Name slf p::es) env)).any (·.1) || ([]:List (Option Ac×Sem Ad)).any (·.1.isNone))=false:=by
  rw[Xf _ (MG hns)];rfl
 refine callWith_of (P:=P) plain hk ?_;have main:=Ajp (Q:=λvs s₁=>P s₁.heap/\wpAny c.M c.A (call fv ([]++vs) []) Q E s₁) (E:=E) (p:=p) (pos:=pos) xf st hf he λl' vs h' tk e st' x' hv=>⟨hP l' h' st',h l' vs h' tk e st' x' hv⟩;rw[JS rfl]at main ⊢;exact ApH main
set_option tactic.hygienic true in
theorem Ajw{Q:FE->Aq->Prop}{p0 epos:Pos}(ok:AL c d)(xf:Fm c m env l loc slf x)(hC:IP c.K C=true)(hg:nsIn c.K El "Exception" = some none)
  (hn:noStar es=true) (hc:Fg (.Name slf p1::es) apos pos=true) (hkn:env.kindOf "Exception" = some .globalImplicit) (st:St c m l s.heap) (z:XS b0 l x C as) (hf:Bz c FX m env l f) (he:BC f es l.σ=.ok cs l.σ) (hl:cs.length<30)
  (hQ:∀l' h' tk,l'.σ=l.σ->St c m l' h'->Ap (b0<=·) l l'->XS b0 l' x C as->Q .next (put s h' tk)) :
  wpAny c.M c.A (exec (.Expr (.Call (.Attribute (.Name "Exception" p0) "__init__" apos) (.Name slf p1::es) [] pos) epos) env) Q E s:=by
 have T:Mi c.p c.loose c.mg c.mb c.h₀:=II ok.top;have hi:OQ env=false:=by unfold OQ;rw[xf.eo.kind];rfl
 refine Acg ?_ hi (Sy rfl);rw[Po hc rfl];refine Aj (Mk xf.eo.kind hkn ?_ (by decide))
 refine ApQ (by rw[xf.eo.globals];exact T.g.keeps st.fr.keep) (mg_none_of ok.kin T.g hg) (by rw[xf.eo.builtins];exact T.b.keeps st.fr.keep) ((T.builtins "Exception" (by decide)).trans Ajv) ?_
 refine Aj (F8 (Aj (Dp ?_)));refine method_type st.fr ok.kin Ajt Aju (Ajs _) rfl ?_;refine Yz (s:={ s with toks:=s.toks+1 }) (P:=λq=>True) hn xf st hf he (λq q q=>trivial) (λh q=>⟨.machine,.inr (.inl rfl),Vk rfl⟩) λl1 vs h1 tk1 e1 st1 x1 hv => ?_
 refine Ajq ok hC st1 (z.mono x1) (by rw[hv.length,F9];exact WG hl) λl2 h2 e2 st2 x2 z2 => ?_
 exact hQ l2 h2 tk1 (e2.trans e1) st2 (x1.weaken.trans x2) z2
def Jg(c:FC)(C:Af)(f:Af)(cs:List CV)(as as':List (Ac×CV)):Prop:=∀(m:Ac->Option Ad) (l:Am) (b0 x:Af) (ws:List Ad) (s:Aq) (R:Hc->Aq->Prop),St c m l s.heap->XS b0 l x C as->AA l ws cs ->
 (∀l' h' tk,l'.σ=l.σ->St c m l' h'->Ap (b0<=·) l l'->XS b0 l' x C as'->R (.ok (.ret .none)) (put s h' tk))->codeAny c.M c.A (.call (.ref f) ⟨.ref x::ws,[]⟩) R s
set_option tactic.hygienic true in
theorem Ajx{Q:FE->Aq->Prop}{p0 epos:Pos}{B g:Af}{as':List (Ac×CV)}(ok:AL c d)(xf:Fm c m env l loc slf x)(hg:nsIn c.K El cn=some (some (.ref B)))(hm:IM c.K B "__init__" g=true)
  (hn:noStar es=true) (hgn:Dg cn=true) (hc:Fg (.Name slf p1::es) apos pos=true) (hkn:env.kindOf cn=some .globalImplicit) (st:St c m l s.heap) (z:XS b0 l x C as) (hf:Bz c FX m env l f) (he:BC f es l.σ=.ok cs l.σ) (hi:Jg c C g cs as as')
  (hQ:∀l' h' tk,l'.σ=l.σ->St c m l' h'->Ap (b0<=·) l l'->XS b0 l' x C as'->Q .next (put s h' tk)) :
  wpAny c.M c.A (exec (.Expr (.Call (.Attribute (.Name cn p0) "__init__" apos) (.Name slf p1::es) [] pos) epos) env) Q E s:=by
 have T:Mi c.p c.loose c.mg c.mb c.h₀:=II ok.top;have hin:OQ env=false:=by unfold OQ;rw[xf.eo.kind];rfl
 simp only[Dg,Bf,Fc]at hgn;refine Acg ?_ hin (Sy rfl);rw[Po hc rfl];simp only[IM,Bf,beq_iff_eq]at hm;refine Au hm ?_;clear hm;rintro⟨q1,q2⟩ q3;have key:∀s':Aq,s'.heap=s.heap->s'={ s with toks:=s'.toks }->wpAny c.M c.A (callWith pos (.ref g) [] (backTo pos (starEach (.Name slf p1::es) env)) []) (λq=>Q .next) E s':=λs' e1 e2=>by
  refine Yz (s:=s') (P:=λh=>c.K.In h) hn xf (e1▸st) hf he (λl' h st'=>ok.kin.keeps st'.fr.keep) (λh X=>Vl q2 h X) λl1 vs h1 tk1 e1 st1 x1 hv => ?_;refine KI (hi m l1 b0 x vs _ _ st1 (z.mono x1) hv λl2 h2 tk2 s2 st2 x2 z2 => ?_);have:=hQ l2 h2 tk2 (s2.trans e1) st2 (x1.weaken.trans x2) z2;rw[e2];exact this
 refine Aj (Mk xf.eo.kind hkn ?_ hgn.1);refine QX (by rw[xf.eo.globals];exact T.g.keeps st.fr.keep) (mg_of ok.kin T.g hg) ?_
 refine Aj (F8 (Aj (Dp ?_)))
 split at q3
 ·rename_i mc hmc;simp only[Bf]at q3;refine Au q3 ?_;clear q3;rintro q3 q4
  split at q4
  ·rename_i v hv;have hv':v=.ref g:=beq_iff_eq.mp q4;subst hv';exact ApT st.fr ok.kin q1 (cls_val st.fr ok.kin hmc q3 hv rfl (key { s with toks:=s.toks+1 } rfl rfl))
  ·exfalso;injection q4
 ·exfalso;injection q3
end
end
section
set_option maxHeartbeats 1000000
open Builtin Builtin.ObjectAttr Builtin.Getset_descriptor
noncomputable def Lx(D:C0)(slf:Ac)(xs:List Ac):Bool:=Ie D && (D.params.args.map (·.arg) == slf::xs) && (Gf 0 D.scope.names []).isEmpty && (D.scope.names.lookup slf == some .local) && Dg slf
theorem Ajy{kindOf:Ac->Option GJ}:∀(xs:List Ac) (vs:List Ad) (m:Ac->Option Ad) (x:Ac),x∉xs->bindL kindOf (xs.zip vs) m x=m x:=by
 intro xs
 induction xs with
 | nil=>intro vs m x _;rfl
 | cons y ys ih =>
  intro vs m x hx;rcases vs with _ | ⟨v,vs⟩
  ·rfl
  ·rw[AV,not_or]at hx;rw[HX];rw[bindL.eq_2];rw[ih vs (if kindOf y=some .local then λz=>if z=y then some v else m z else m) x hx.2]
   split
   ·exact if_neg hx.1
   ·rfl
set_option tactic.hygienic true in
noncomputable def Ajz(c:FC)(C:Af)(D:C0)(slf:Ac)(xs:List Ac)(cs:List CV)(as as':List (Ac×CV)):Prop:=∀(m:Ac->Option Ad) (l:Am) (b0 x:Af) (env:Env) (s:Aq) (Q:FE->Aq->Prop) (E:Ad->Aq->Prop),env.scope=D.scope->Fm c m env l (xs.zip cs) slf x->St c m l s.heap->XS b0 l x C as ->
 (∀l' h' tk,l'.σ=l.σ->St c m l' h'->Ap (b0<=·) l l'->XS b0 l' x C as'->Q .next (put s h' tk))->wpAny c.M c.A (execs D.body env) Q E s
theorem YA{f:Af}{D:C0}{slf:Ac}{as':List (Ac×CV)}(ok:AL c (d+1))(hD:JR c.K f D)(hg:Lx D slf xs=true)(hl:xs.length=cs.length)
  (hb:∀g L env,AL (c.callee g L env) d->Ajz (c.callee g L env) C D slf xs cs as as'):Jg c C f cs as as':=by
 intro m l b0 x ws s R st z hv hR;rcases hD with⟨oc,od,osl,kV,doc,pm,an,cdv,ct,hK,hcd⟩
 simp only[Lx,Bf,beq_iff_eq,Acl]at hg;refine Au hg ?_;clear hg;rintro⟨⟨⟨hgood,hargs⟩,hcell⟩,hself⟩ hgn;simp only[Ie,Bf,Fc,beq_iff_eq,decide_eq_true_eq]at hgood;refine Au hgood ?_;clear hgood;rintro⟨⟨⟨⟨hp,hk⟩,hco⟩,hgen⟩,hall⟩ hnd;have hxs:(D.params.args.map (·.arg)).Nodup:=by
  simp only[Ni,Bf,decide_eq_true_eq]at hp;exact hp.2
 have hwl:ws.length=cs.length:=hv.length;have hlen':(D.params.args.map (·.arg)).length=(CZ x::ws).length:=by rw[hargs,BN,BN,hl,hwl]
 have hkinds:∀y∈D.params.args.map (·.arg),D.scope.names.lookup y=some .local\/D.scope.names.lookup y=some .cell:=λy hy=>by
  refine Ah (BH.mp hy) ?_;rintro a ha rfl;have:=B7.mp hall a ha
  simpa using this
 have hdep:=ok.depth;refine code_defC (binds:=(D.params.args.map (·.arg)).zip (CZ x::ws)) ok.below st.fr ok.kin st.nw ok.top ok.frames ok.frame ok.kind hK hcd (by show c.A.depth<1000;exact Afu hdep) (SI hp rfl hlen') ?_ hnd ?_ hco hgen hk
 ·rw[B7];rintro⟨y,v⟩ hy;have:=hkinds y (VH hy).1
  simpa using this
 intro g1 L' h₁ tk cells F0 F1 N1 CA B1 K1 T1 hlt;have cz:Gf (L' + 1) D.scope.names []=[]:=by
  have:=cellsFrom_names D.scope.names (L' + 1) 0 [] [] rfl;rw[hcell]at this;exact List.map_eq_nil_iff.mp this
 rw[cz]at CA;rcases CA with⟨⟩
 have nocell:∀y,D.scope.names.lookup y≠some .cell:=λy hy=>by
  have:=PD D.scope.names 0 [] y (.inl hy);rw[hcell]at this;exfalso;injection this
 have ok':AL (c.callee g1 L' (envOfC D.qual D.scope L' f cdv)) d:=by
  have h2:=ok.units;refine⟨B1,K1,T1,?_,rfl,hk,?_,?_,ok.handled⟩
  ·show Option.map _ c.A.frames=_;rw[ok.frames];rfl
  ·show c.A.depth+1+10*d<=900;exact Aft hdep
  ·show c.A.units+3+100*d<=9000;exact Afs h2
 have eo:Ck (c.callee g1 L' (envOfC D.qual D.scope L' f cdv)) (envOfC D.qual D.scope L' f cdv):=⟨rfl,rfl,hk,rfl⟩;have st1:St (c.callee g1 L' (envOfC D.qual D.scope L' f cdv)) (bindL (envOfC D.qual D.scope L' f cdv).kindOf ((D.params.args.map (·.arg)).zip (CZ x::ws)) λj=>none) l h₁:=⟨F1,N1,st.lr⟩;rw[hargs]at hxs st1 hkinds;refine Au (Dv.mp hxs) ?_;rintro n1 n2;have er:Cd (c.callee g1 L' (envOfC D.qual D.scope L' f cdv)) (bindL (envOfC D.qual D.scope L' f cdv).kindOf ((slf::xs).zip (CZ x::ws)) λj=>none) (envOfC D.qual D.scope L' f cdv) l (xs.zip cs):=by
  refine⟨λy a k hy hky => ?_,.inl rfl⟩;have hym:y∈xs:=by
   have:(y,a)∈xs.zip cs:=by
    clear hky
    generalize xs.zip cs=ps at hy
    induction ps with
    | nil=>(exfalso;injection hy)
    | cons p r ih =>
     rcases p with⟨y',b⟩
     rw[BI]at hy
     by_cases e:y=y'
     ·subst e;simp at hy;subst hy;exact .head _
     ·rw[beq_eq_false_iff_ne.mpr e]at hy;exact .tail _ (ih hy)
   exact(VH this).1
  have hky':D.scope.names.lookup y=some k:=hky;rw[HX];rw[bindL.eq_2];refine Ah (Yj (kindOf:=(envOfC D.qual D.scope L' f cdv).kindOf) xs ws cs (if(envOfC D.qual D.scope L' f cdv).kindOf slf=some .local then λz=>if z=slf then some (CZ x)else none else λj=>none) (λj=>none) l (Afr hl hwl) n2 hv y a hy) ?_;rintro v hva hb;rcases hkinds y (.tail _ hym)with q | q
  ·have:k=.local:=Ay (hky'.symm.trans q);subst this;rw[if_pos hky]at hb;exact .inl ⟨rfl,v,hb,hva⟩
  ·exact absurd q (nocell y)
 have hat:bindL (envOfC D.qual D.scope L' f cdv).kindOf ((slf::xs).zip (CZ x::ws)) (λj=>none) slf=some (.ref x):=by
  rw[HX];rw[bindL.eq_2];rw[Ajy xs ws _ slf n1];rw[if_pos (show(envOfC D.qual D.scope L' f cdv).kindOf slf=some .local from hself)];exact if_pos rfl
 refine hb g1 L' _ ok' _ l b0 x _ _ _ _ rfl ⟨eo,er,rfl,rfl,hself,hgn,hat,cz⟩ st1 z λl2 h2 tk2 s2 st2 x2 z2 => ?_;exact⟨L',_,l2.Φ,st2.fr,st2.nw,λFF NN=>hR l2 h2 tk2 s2 ⟨FF,NN,st2.lr⟩ x2 z2⟩
end
section
set_option maxHeartbeats 1000000
open Builtin Builtin.ObjectAttr Builtin.Getset_descriptor
noncomputable def J8(b:AN):Option (Ac×Ac×Ac):=ob (RT b) λt=>ob (FJ t.1) λx=>ob (Fe x) λq=>ob (Cc q.1) λs=>ob (Cc t.2.1) λn=>some (s.1,q.2.1,n.1)
theorem AjA{b:AN}{q:Ac×Ac×Ac}(e:J8 b=some q):∃p1 p2 p3 pos,b=.Assign [.Attribute (.Name q.1 p1) q.2.1 p2] (.Name q.2.2 p3) pos:=by
 refine AQ e λt e1 e=>AQ e λx e2 e=>AQ e λq e3 e=>AQ e λs' e4 e=>AQ e λn' e5 e => ?_;obtain rfl:=Ay e;rw[Age e1,JO e2,MB e3,FH e4,FH e5];exact⟨_,_,_,_,rfl⟩
theorem AjB{b:AN}{s a n:Ac}(e:J8 b=some (s,a,n)):∃p1 p2 p3 pos,b=.Assign [.Attribute (.Name s p1) a p2] (.Name n p3) pos:=AjA e
noncomputable def SP(pairs:List (Ac×Ac×CV))(as:List (Ac×CV)):List (Ac×CV):=pairs.foldl (λas p=>CQ p.1 p.2.2 as) as
section
variable {c:FC}{FX:Bm}{m:Ac->Option Ad}{l l':Am}{d:Nat}{h h':Bb}{x C b0:Af}{env:Env}{loc:Ao}{slf:Ac}{Γ:AP}
set_option tactic.hygienic true in
theorem YB(ok:AL c d)(g:Bs c.K Γ):∀(body:List AN) (pairs:List (Ac×Ac×CV)) (as:List (Ac×CV)) (l:Am) (s:Aq) (Q:FE->Aq->Prop) (E:Ad->Aq->Prop),body.map J8=pairs.map (λp=>some (slf,p.1,p.2.1)) ->
  (∀p∈pairs,IQ c.K C p.1=true/\GS Γ env.scope.names loc p.2.1=ret p.2.2)->as.length+pairs.length<900->Fm c m env l loc slf x->St c m l s.heap->XS b0 l x C as ->
  (∀l' h' tk,l'.σ=l.σ->St c m l' h'->Ap (b0<=·) l l'->XS b0 l' x C (SP pairs as)->Q .next (put s h' tk))->wpAny c.M c.A (execs body env) Q E s:=by
 intro z1
 induction z1 with
 | nil =>
  intro z2;rcases z2 with _ | ⟨z3,z4⟩
  ·intro as l s Q E z5 z6 z7 xf st z hQ;exact OP (hQ l s.heap s.toks rfl st (Ap.refl l) z)
  ·intro as l s Q E e z8 z9 xf st z hQ;exfalso;injection e
 | cons b bs ih =>
  intro z10;rcases z10 with _ | ⟨p,ps⟩
  ·intro as l s Q E e z11 z12 xf st z hQ;exfalso;injection e
  ·intro as l s Q E e hp hz xf st z hQ;rw[Bo,Bo]at e;injection e with e1 e2
   have⟨h1,h2⟩:=hp p (.head _);rw[BN]at hz;refine Q41 (AjB e1) ?_;rintro p1 p2 p3 pos rfl;refine KQ (Ajr ok g xf h1 st z (WL hz) (by rw[h2];rfl) λl1 h1 tk1 s1 st1 x1 z1 => ?_)
   refine ih ps _ l1 _ Q E e2 (λq hq=>hp q (.tail _ hq)) (F6 (T' (UW (Sb p.1 p.2.2 as) _) (Q' ((Aa5 _ _ _).trans (congrArg _ (QT _ _))))) hz) (xf.keep x1 st) st1 z1 λl2 h2 tk2 s2 st2 x2 z2 => ?_;exact hQ l2 h2 tk2 (s2.trans s1) st2 (x1.trans x2) z2
noncomputable def Nj(Γ:AP)(ks:AF)(loc:Ao):Expr->CM CV
 | .Name n _=>GS Γ ks loc n
 | _=>Ar
theorem YC(ok:AL c d)(g:Bs c.K Γ)(eo:Ck c env)(er:Cd c m env l loc):Bz c FX m env l (Nj Γ env.scope.names loc):=λe l' x'=>by
 rcases e with⟨⟩<;>first | exact Aa.stuck | exact R3 ok g eo (er.mono x')
noncomputable def YD(e:Expr):Option ((Ac×Pos)×Ac×Pos×List Expr×Pos):=ob (MA e) λk=>ob (Fe k.1) λt=>ob (Cc t.1) λn=>ob (ME k.2.2.1) λz=>some (n,t.2.1,t.2.2,k.2.1,k.2.2.2)
theorem AjC{q:(Ac×Pos)×Ac×Pos×List Expr×Pos}(h:YD e=some q):e=.Call (.Attribute (.Name q.1.1 q.1.2) q.2.1 q.2.2.1) q.2.2.2.1 [] q.2.2.2.2:=by
 refine AQ h λk e1 h=>AQ h λt e2 h=>AQ h λn e3 h=>AQ h λz e4 h => ?_;obtain rfl:=Ay h;rw[WT e1,MB e2,FH e3,O9 e4]
noncomputable def Ly(b:AN):Option (Ac×Ac×List Expr):=ob (O7 b) λv=>ob (YD v.1) λk=>ob (RU k.2.2.2.1) λas=>ob (Cc as.1) λs =>
 if k.2.1=("__init__" : Ac)/\Fg (.Name s.1 s.2::as.2) k.2.2.1 k.2.2.2.2=true/\noStar as.2=true then some (k.1.1,s.1,as.2)else none
theorem AjD{b:AN}{q:Ac×Ac×List Expr}(e:Ly b=some q):∃p0 apos p1 pos epos,b=.Expr (.Call (.Attribute (.Name q.1 p0) "__init__" apos) (.Name q.2.1 p1::q.2.2) [] pos) epos/\Fg (.Name q.2.1 p1::q.2.2) apos pos=true/\noStar q.2.2=true:=by
 refine AQ e λv e1 e=>AQ e λk e2 e=>AQ e λas e5 e=>AQ e λs' e6 e => ?_;refine Au (RP e) ?_;rintro q e;subst e;have k2:=AjC e2;rw[WV e5,FH e6,q.1]at k2;exact⟨_,_,_,_,_,(WU e1).trans (congrArg (λx=>Stmt.Expr x _) k2),q.2⟩
theorem YE{b:AN}{s:Ac}(e:Ly b=some (cn,s,es)):∃p0 apos p1 pos epos,b=.Expr (.Call (.Attribute (.Name cn p0) "__init__" apos) (.Name s p1::es) [] pos) epos/\Fg (.Name s p1::es) apos pos=true/\noStar es=true:=AjD e
theorem AjE{f:Af}{D:C0}{cs0:List CV}{b:AN}{bs:List AN}{pairs:List (Ac×Ac×CV)}(ok:AL c (d+1))(g:Bs c.K Γ)(hD:JR c.K f D)(hg:Lx D slf xs=true)(hl:xs.length=cs.length)
  (hC:IP c.K C=true) (hge:nsIn c.K El "Exception" = some none) (hke:D.scope.names.lookup (Ab "Exception")=some ApO)
  (hb:D.body=b::bs) (h1:Ly b=some (Ab "Exception",slf,es)) (he:BC (Nj Γ D.scope.names (xs.zip cs)) es=ret cs0) (hl0:cs0.length<30)
  (h2:bs.map J8=pairs.map (λp=>some (slf,p.1,p.2.1))) (hp:∀p∈pairs,IQ c.K C p.1=true/\GS Γ D.scope.names (xs.zip cs) p.2.1=ret p.2.2) (hz:as.length+pairs.length<900) :
  Jg c C f cs as (SP pairs as):=by
 refine YA ok hD hg hl λg0 L0 env0 ok' m l b0 x env s Q E hs xf st z hQ => ?_;have gk:Bs (c.callee g0 L0 env0).K Γ:=g;refine OY (YE h1) ?_;rintro p0 apos p1 pos epos rfl c1 c2;rw[hb];refine KQ (Ajw (FX:=λq q q q=>False) (cs:=cs0) ok' xf hC hge c2 c1 (by show env.scope.names.lookup _=_;rw[hs];exact hke) st z (YC ok' gk xf.eo xf.er) (by rw[hs,he];rfl) hl0 λl1 h1 tk1 s1 st1 x1 z1 => ?_)
 refine YB ok' gk bs pairs as l1 _ Q E h2 (by rw[hs];exact hp) hz (xf.keep x1 st) st1 z1 λl2 h2 tk2 s2 st2 x2 z2 => ?_
 exact hQ l2 h2 tk2 (s2.trans s1) st2 (x1.trans x2) z2
theorem AjF{f B fB:Af}{D:C0}{cs0:List CV}{as1:List (Ac×CV)}{b:AN}{bs:List AN}{pairs:List (Ac×Ac×CV)}(ok:AL c (d+1))(g:Bs c.K Γ)(hD:JR c.K f D)(hg:Lx D slf xs=true)(hl:xs.length=cs.length)
  (hge:nsIn c.K El cn=some (some (.ref B))) (hgn:Dg cn=true) (hm:IM c.K B "__init__" fB=true) (hke:D.scope.names.lookup cn=some .globalImplicit) (hi:∀c':FC,c'.K=c.K->AL c' d->Jg c' C fB cs0 as as1)
  (hb:D.body=b::bs) (h1:Ly b=some (cn,slf,es)) (he:BC (Nj Γ D.scope.names (xs.zip cs)) es=ret cs0)
  (h2:bs.map J8=pairs.map (λp=>some (slf,p.1,p.2.1))) (hp:∀p∈pairs,IQ c.K C p.1=true/\GS Γ D.scope.names (xs.zip cs) p.2.1=ret p.2.2) (hz:as1.length+pairs.length<900) :
  Jg c C f cs as (SP pairs as1):=by
 refine YA ok hD hg hl λg0 L0 env0 ok' m l b0 x env s Q E hs xf st z hQ => ?_;have gk:Bs (c.callee g0 L0 env0).K Γ:=g;refine OY (YE h1) ?_;rintro p0 apos p1 pos epos rfl c1 c2;rw[hb];refine KQ (Ajx (FX:=λq q q q=>False) (cs:=cs0) ok' xf hge hm c2 hgn c1 (by show env.scope.names.lookup _=_;rw[hs];exact hke) st z (YC ok' gk xf.eo xf.er) (by rw[hs,he];rfl) (hi _ rfl ok') λl1 h1 tk1 s1 st1 x1 z1 => ?_)
 refine YB ok' gk bs pairs as1 l1 _ Q E h2 (by rw[hs];exact hp) hz (xf.keep x1 st) st1 z1 λl2 h2 tk2 s2 st2 x2 z2 => ?_
 exact hQ l2 h2 tk2 (s2.trans s1) st2 (x1.trans x2) z2
theorem AjG{fI:Af}(ok:AL c (d+1))(hC:IP c.K C=true)(hi:findIn c.K (.ref C) "__init__" = some (some (.ref fI)))(hf:typeIn c.K (.ref fI)=some (.type "function"))
  (hI:∀c':FC,c'.K=c.K->AL c' d->Jg c' C fI cs [] as) (st:St c m l s.heap) (hv:AA l vs cs) (hz:cs.length<30)
  (hR:∀l' x b0 h' tk,l'.σ=l.σ->St c m l' h'->Ap No l l'->(∀p∈l.Φ,p.1<b0)->XS b0 l' x C as->R (.ok (.ret (.ref x))) (put s h' tk)) :
  codeAny c.M c.A (.call (.ref C) ⟨vs,[]⟩) R s:=by
 rcases s with⟨hh,gg,dr,tk,os⟩
 have X:=ok.kin.keeps st.fr.keep;have lt:∀p∈l.Φ,p.1<hh.objs.size:=λp hp=>BE (st.nw p hp).1;have Y:=SO (M:=c.M) X hC;refine Ajj Y (by rw[hv.length,F9];exact WG hz) (VN X hi) (λself=>bind_fn X self hf) ?_
 refine BS (st.addJ (st.fr.push (Cy vs 0)) (st.nw.push st.fr (Cy vs 0)) λp hp=>Cb (lt p hp)) ?_;rintro l1 s1 st1 x1 o1;have N2:=st1.nw.push st1.fr (GR C hh.objs.size none);refine BS (st1.addJ (st1.fr.push (GR C hh.objs.size none)) N2 λp hp=>Cb (BE (st1.nw p hp).1)) ?_;rintro l2 s2 st2 x2 o2;have x12:=x1.trans x2;rw[Rg]at o2;refine hI (c.under (.builtin "type.__call__" ⟨.ref C::vs,[]⟩)) rfl ok.newC m l2 hh.objs.size (hh.objs.size+1) vs _ _ ⟨st2.fr,st2.nw,st2.lr⟩ ⟨HU _,_,none,o2,rfl⟩ (hv.mono x12) λl3 h3 tk3 s3 st3 x3 z3 => ?_;refine⟨rfl,hR l3 _ hh.objs.size h3 tk3 (s3.trans (s2.trans s1)) ⟨st3.fr,st3.nw,st3.lr⟩ ?_ lt z3⟩;exact((x12.weaken).trans x3).narrow λp hp q=>absurd (lt p hp.1) (DJ.mpr q)
end
end
section
set_option maxHeartbeats 1000000
open Builtin
section
variable {prog:CJ}{w:BK}{A:CK}{E:Ad->Aq->Prop}{s:Aq}{K:Bk}{x C:Af}{ox:AU}{od:Option AU}{name:Ac}{expr:Bool}{Q:Ad->Aq->Prop}{v:Ad}
theorem AjH(X:K.In s.heap)(I:InstAt s.heap x ox C od)(hga:findIn K (.ref C) "__getattribute__" = some (some (.builtin "BaseException.__getattribute__")))(hgt:findIn K (.ref C) "__getattr__" = some none)
  (hb:BR (model prog w) s.heap (Hj (.ref C) (.type "BaseException")) true) (hf:findObj K C od name=some (.value v)) (hh:handedIn v=true) (h:Q v { s with toks:=s.toks+1 }) :
  wpAny (model prog w) A (getAttr (.ref x) name expr) Q E s:=by
 rcases s with⟨hp,g,d,t,os⟩
 have L0:=I.type (M:=model prog w);have L1:=VN (M:=model prog w) X hga;have L2:=VN (M:=model prog w) X hgt;have ii:BR (model prog w) hp (KJ (.ref x) (.type "BaseException")) true:=L0.andThen hb;have hne:(onTheHeap (.ref C) && F5 "BaseException.__getattribute__" == F5 "object.__getattribute__")=false:=by
  rw[show(F5 "BaseException.__getattribute__" == F5 "object.__getattribute__")=false from by decide +kernel,Oo]
 unfold getAttr getAttrBy;refine Aj (AbZ (Dp (Aj (L0.at (Aj (L1.at ?_))))));dsimp only;rw[hne,if_neg (by decide)]
 have hbk:BR (model prog w) hp (hookBefore (.ref C)) none:=L2;refine Aj (hbk.at (Aj (Ri (Dp ?_))));unfold Aqg;rw[show(expr && onTheHeap (F5 "BaseException.__getattribute__"))=false from Oo _,if_neg (by decide)]
 unfold Aqh;rw[AqC.ga.bind];refine Aj (AD ?_);show wpAny _ _ (call (.builtin "BaseException.__getattribute__") [.ref x,.str name t]) _ _ _;refine KI ?_;refine Vs AqC.ga.plain F.entry_bexc_ga ?_;refine @Acq (model prog w) _ _ _ "BaseException.__getattribute__" "BaseException" "__getattribute__" (.ref x) [.str name t] [] _ (by decide +kernel) (by decide +kernel) ii (F.args_bexc_ga _ _) ?_
 unfold Builtin.«object.__getattribute__»;have L3:=looks_find (M:=model prog w) X I hf;refine Aj (AD (Aj (AD (Aj (L0.at (Aj (L3.at ?_)))))));refine AD ?_;show wpAny _ _ (handedOut v) _ _ _;rw[handedOut_of hh];exact AD h
end
end
section
set_option maxHeartbeats 1000000
open Builtin
section
variable {prog:CJ}{w:BK}{A₀ A:CK}{s:Aq}{base h₀:Bb}{outer:List Env}{L:Af}{m:Ac->Option Ad}{env:Env}{news:List (Af×AU)}{K:Bk}{p:CJ}{loose:List Ac}{mean:ExcName->Option Ad}{mg mb:Ac->Option Ad}
theorem AjI{qual:Ac}{params:QN}{dV kV doc pm cdv ct oc:Ad}{an od:Option Af}{osl:Array (Option Ad)}{f:Af}{args:Args}{binds:List (Ac×Ad)}
  (B:Below A₀ base outer h₀) (F:Fr h₀ L s.heap m) (X₀:K.In h₀) (N:CL h₀ L s.heap news) (T:Top p loose mean mg mb h₀) (hA:A.frames=some (env::outer)) (hf:env.frame=some L) (hke:env.scope.kind=.function)
  (ho:K.lookup f=some ⟨oc,od,.func (fnOf name qual params body scope dV kV doc pm an cdv ct),osl⟩) (hcd:codeIn K cdv qual=true) (hroom:A.depth<Aqv)
  (hbind:BindsTo s (fnOf name qual params body scope dV kV doc pm an cdv ct) args binds) (hkind:(binds.all λy=>scope.names.lookup y.1 == some .local || scope.names.lookup y.1 == some .cell)=true)
  (hnd:((Gf 0 scope.names []).map (·.1)).Nodup)
  (h:∀g L' h₁ tk cells,Fr h₀ L g m->Fr g L' h₁ (bindL (envOfC qual scope L' f cdv).kindOf binds λz=>none)->CL g L' h₁ (cells++news) ->
   VG (bindC (envOfC qual scope L' f cdv).kindOf binds λz=>none) (Gf (L' + 1) scope.names []) cells->Below A base (env::outer) g->K.In g->Top p loose mean mg mb g->(∀p∈news,p.1<L') ->
   (∀v s',LeaveK h₀ L m g R v s'->R (.ok (.ret v)) s') ->
   wpAny (model prog w) (A.deeper (envOfC qual scope L' f cdv)) (execs body (envOfC qual scope L' f cdv))
    (λfl s'=>R (.ok (.ret (match fl with | .ret v=>v | _=>.none))) s')
    (λe s'=>wpAny (model prog w) (A.deeper (envOfC qual scope L' f cdv)) (leaving (envOfC qual scope L' f cdv) e) (λz s''=>R (.error e) s'') (λe' s''=>R (.error e') s'') s')
    (put s h₁ tk))
  (hco:scope.isCoroutine=false) (hgen:scope.isGenerator=false) (hk:scope.kind=.function):codeAny (model prog w) A (.call (.ref f) args) R s:=by
 refine VU (groundX (R:=R) B F N hA hf hke) ?_;rintro FG BG st lv;refine codeAny_call_function hroom ((X₀.keeps F.keep) _ _ ho) rfl hco hgen rfl (codeRec_of (X₀.keeps F.keep) hcd) (hbind _ _ _ _ ?_);refine wpAny_newFunctionEnv_cells hk (kindsX hkind _) λenv' he s' x => ?_;subst he;refine⟨(T.nolimit.keeps F.keep).keeps x.toInCall.keep,codeAny_func ?_⟩;refine Bg x.done ?_;rintro h₁ tk rfl _;have hk₁:=x.toInCall.keep;refine Ah (Cl.news (h₀:=s.heap) (AM _) λn c hm=>⟨x.cell n c (PyProof.Rows.lookup_of_mem_nodup (PyProof.Rows.cellsFrom_names scope.names 0 (s.heap.objs.size+1) [] [] rfl▸hnd) hm),x.above n c hm⟩) ?_;rintro cells NC Y;refine KL (h _ s.heap.objs.size h₁ tk cells FG ⟨x.toInCall.ns,λb o e=>hk₁ b o (Acn _ e),Md (hideAll_size _ _)⟩ (λp hp => ?_) Y BG (X₀.keeps st) (T.keeps st) (λp hp=>BE (N p hp).1) lv) (λfl s' hl=>hl) λz z y=>y;rcases BM.mp hp with hp | hp
 ·refine⟨(NC p hp).1,(NC p hp).2.1,?_⟩;rcases q:(hideAll s.heap (news.map (·.1))).get? p.1 with _ | o
  ·exact q
  ·have:=Acn _ q;rw[(NC p hp).2.2]at this;(exfalso;injection this)
 ·exact⟨hk₁ _ _ (N p hp).1,Cb (BE (N p hp).1),hideAll_none _ (Du hp)⟩
end
structure J9(K:Bk)(C:Af):Prop where
 ga:findIn K (.ref C) "__getattribute__" = some (some (.builtin "BaseException.__getattribute__"))
 gt:findIn K (.ref C) "__getattr__" = some none
 sub:subIn K (.ref C) (.type "BaseException")=some true
 own:subIn K (.ref C) (.ref C)=some true
 typ:typeIn K (.ref C)=some (.type "type")
 dict:QO K C=true
section
variable {M:KG}{h:Bb}{K:Bk}{C a:Af}{oe:AU}
theorem AjJ(X:K.In h)(Y:J9 K C)(he:h.get? a=some oe)(hc:oe.cls=.ref C):BR M h (excMatches (.ref a) (.ref C)) true:=by
 have nt:Hj (.type "type") (.type "tuple")=pure false:=tc_notTuple;have t0:BR M h (typeOf (.ref C)) (.type "type"):=looks_typeIn X Y.typ;have i0:BR M h (KJ (.ref C) (.type "tuple")) false:=t0.andThen (by rw[nt];exact .now)
 have i1:BR M h (PySem.isType (.ref C)) true:=by
  obtain⟨cd,hcd⟩:∃cd,clsIn K C=some cd:=by
   have:=Y.dict;unfold QO at this;refine Ah (VM this) ?_;rintro cd h1 _;exact⟨cd,h1⟩
  unfold clsIn at hcd;rcases ho:K.lookup C with _ | ⟨oc,od,dt,sl⟩
  ·rw[ho]at hcd;exact(Ax hcd).elim
  ·rw[ho]at hcd;rcases dt with⟨⟩
   case cls=>exact(Mq (part:=none) (X _ _ ho)).andThen .now
   all_goals exact(Ax hcd).elim
 have i2:BR M h (Ach (.ref C)) true:=by
  unfold Ach;refine i1.andThen ?_;rw[if_pos rfl];exact Acs X Y.sub
 have t1:BR M h (typeOf (.ref a)) (.ref C):=hc▸(Mq he).andThen .now;have s1:BR M h (Hj (.ref C) (.ref C)) true:=Acs X Y.own;intro A Q E s k q;unfold excMatches;refine Aj (i0 A _ E s k ?_);dsimp only;rw[if_neg CD];refine Aj (AD ?_);simp only[Vy,List.forIn_nil];refine Aj (Aj (Aj (i2 A _ E s k ?_)));rw[if_neg (by decide)]
 refine AD (AD ?_);refine Aj (t1 A _ E s k ?_);refine Aj (Aj (Aj (s1 A _ E s k ?_)));rw[if_pos rfl];exact AD (AD (AD q))
end
noncomputable def Nk(n:Ac)(as:List (Ac×CV))(e:Expr):CM CV:=match ob (Fe e) λq=>ob (Cc q.1) λw=>if w.1=n then as.lookup q.2.1 else none with
 | some v=>ret v
 | none=>Ar
section
variable {c:FC}{FX:Bm}{m:Ac->Option Ad}{l l':Am}{env:Env}{n:Ac}{a dx C:Af}{oe:AU}{es:List Em}{k:Nat}{as:List (Ac×CV)}
theorem AjK(hk:env.scope.kind=.function)(hl:env.kindOf n=some .local)(hloc:env.locals=c.L)(hgn:Dg n=true)(hm:m n=some (.ref a))(X:c.K.In c.h₀)(Y:J9 c.K C)
  (hatt:∀x v,as.lookup x=some v->findIn c.K (.ref C) x=some none) (ho:AS l (a,oe)) (hoc:oe.cls=.ref C) (hno:notCls oe=true) (hd:oe.dict=some dx) (hdx:AS l (dx,dictOf es k)) (r:Dr l es as) :
  Bz c FX m env l (Nk n as):=by
 intro e l' x;unfold Nk;rcases ha:(ob (Fe e) λq=>ob (Cc q.1) λw=>if w.1=n then as.lookup q.2.1 else none)with _ | v
 ·exact Aa.stuck
 refine AQ ha λq hq h2=>AQ h2 λw hw h3 => ?_
 by_cases hn:w.1=n
 ·have hv:as.lookup q.2.1=some v:=(if_pos hn).symm.trans h3;obtain rfl:=MB hq;clear h2 h3 ha hq;rw[FH hw,hn];rcases q with⟨_,y,pos⟩
  rcases w with⟨_,p⟩
  clear hw hn;show Aa c FX m l' (eval (.Attribute (.Name n p) y pos) env) (ret v) VR;rw[ApL,Sa rfl];refine Aa.of_eq (f':=bnd (ret ()) λz=>bnd (ret v) ret) (Aa.bind (V:=λz w z=>w=.ref a) ?_ λw u l1 e1 x1 hw => ?_) rfl
  ·intro s Q E st ok _ _;simp only[Dg,Bf,Fc]at hgn;exact Mj (QW hk hl (hloc▸st.fr.ns) hm (ok () l' (.ref a) s.heap s.toks rfl st (Ap.refl l') rfl)) hgn.1
  ·subst hw;refine Aa.stand _ (Aa.bind (Aa.hold _ (Aa.ofRet λs Q E q st => ?_)) λr b l2 z e2 hr=>Aa.letGo hr);have ho1:=x1.all (x.all ho);have hd1:=x1.all (x.all hdx);have r1:=(r.mono x).mono x1;have Xs:=X.keeps st.fr.keep;have I:W.InstAt s.heap a oe C (some (dictOf es k)):=⟨(st.nw _ ho1.1).1,hoc,hno,by rw[hd];exact(st.nw _ hd1.1).1⟩
   rcases r1.get y with⟨v',w,e1,hw,hr⟩ | ⟨e1,_⟩
   ·have e2:some v'=some v:=e1.symm.trans hv;injection e2 with za;subst za
    exact AjH Xs I Y.ga Y.gt (Acs Xs Y.sub) (findObj_own Y.dict (hatt y _ hv) rfl hw) hr.handed (q w _ hr)
   ·exact(Ax (e1.symm.trans hv)).elim
 ·exact(Ax ((if_neg hn).symm.trans h3)).elim
end
end
section
set_option maxHeartbeats 1000000
open Builtin
noncomputable def Ka:Mg->Option Expr×Option Ac×List AN×Pos
 | .ExceptHandler t n b p=>(t,n,b,p)
theorem AjL(h:Mg):h=.ExceptHandler (Ka h).1 (Ka h).2.1 (Ka h).2.2.1 (Ka h).2.2.2:=by
 rcases h with⟨_,_,_,_⟩
 rfl
noncomputable def YF(l:List AN):Option Expr:=ob (FJ l) λs=>ob (O7 s) λe=>some e.1
theorem AjM{l:List AN}(h:YF l=some e):∃p,l=[.Expr e p]:=by
 refine AQ h λs e1 h=>AQ h λc e2 h => ?_;obtain rfl:=Ay h;rw[JO e1,WU e2];exact⟨_,rfl⟩
noncomputable def YG(l:List AN):Option (List Expr):=ob (FJ l) λs=>ob (RQ s) λv=>ob v.1 λv=>ob (FI v) λes=>some es.1
theorem AjN{l:List AN}(h:YG l=some es):∃n p q,l=[.Return (some (.Tuple es n p)) q]:=by
 refine AQ h λs e1 h=>AQ h λv e2 h=>AQ h λw e3 h=>AQ h λes' e4 h => ?_;obtain rfl:=Ay h;rw[JO e1,Agc e2,e3,MC e4];exact⟨_,_,_,rfl⟩
noncomputable def YH(l:List Mg):Option (Ac×Ac×List Expr):=ob (FJ l) λh=>ob (Ka h).1 λty=>ob (Cc ty) λxn=>ob (Ka h).2.1 λn=>ob (YG (Ka h).2.2.1) λes=>some (xn.1,n,es)
theorem AjO{l:List Mg}{q:Ac×Ac×List Expr}(h:YH l=some q):∃p2 nn p3 p4 p5,l=[.ExceptHandler (some (.Name q.1 p2)) (some q.2.1) [.Return (some (.Tuple q.2.2 nn p3)) p4] p5]:=by
 refine AQ h λhd e5 h=>AQ h λty e6 h=>AQ h λx e7 h=>AQ h λm e8 h=>AQ h λs2 e9 h => ?_;obtain rfl:=Ay h;refine Q31 (AjN e9) ?_;rintro n p q e10;have k:=AjL hd;rw[e6,e8,e10,FH e7]at k;rw[JO e5,k];exact⟨_,_,_,_,_,rfl⟩
noncomputable def Lz(b:List AN):Option (Expr×Ac×Ac×List Expr×List AN) :=
 ob (RU b) λr=>ob (RS r.1) λt=>ob (YF t.1) λce=>ob (YH t.2.1) λh=>ob (ME t.2.2.1) λz=>ob (ME t.2.2.2.1) λz=>some (ce,h.1,h.2.1,h.2.2,r.2)
theorem AjP{b:List AN}{q:Expr×Ac×Ac×List Expr×List AN}(h:Lz b=some q) :
  ∃p1 p2 nn p3 p4 p5 p6,b=.Try [.Expr q.1 p1] [.ExceptHandler (some (.Name q.2.1 p2)) (some q.2.2.1) [.Return (some (.Tuple q.2.2.2.1 nn p3)) p4] p5] [] [] p6::q.2.2.2.2:=by
 refine AQ h λr e1 h=>AQ h λt e2 h=>AQ h λc e3 h=>AQ h λq e4 h=>AQ h λz e5 h=>AQ h λz e6 h => ?_;obtain rfl:=Ay h;clear h;refine AK (AjM e3) ?_;rintro p1 e3;refine V0 (AjO e4) ?_;rintro p2 nn p3 p4 p5 e4;have k:=Agd e2;rw[e3,e4,O9 e5,O9 e6]at k;exact⟨p1,p2,nn,p3,p4,p5,_,(WV e1).trans (congrArg (·::r.2) k)⟩
theorem AjQ{b:List AN}{ce:Expr}{n:Ac}{rest:List AN}(h:Lz b=some (ce,xn,n,es,rest)) :
  ∃p1 p2 nn p3 p4 p5 p6,b=.Try [.Expr ce p1] [.ExceptHandler (some (.Name xn p2)) (some n) [.Return (some (.Tuple es nn p3)) p4] p5] [] [] p6::rest:=AjP h
noncomputable def PI(Γ:AP)(xn:Ac)(C:Af):Bool:=match Γ.top.lookup xn with
 | some (.ref C')=>C' == C
 | _=>false
set_option tactic.hygienic true in
theorem AjR(h:PI Γ xn C=true):Γ.top.lookup xn=some (.ref C):=by
 unfold PI at h
 split at h
 ·rename_i C' e;rw[e,beq_iff_eq.mp h]
 ·exfalso;injection h
noncomputable def Kb(Γ:AP)(xn n:Ac)(es:List Expr)(x:CX):CM CV:=if PI Γ xn x.cls=true/\Γ.excs.lookup x.cls=some (x.as.map (·.1))then bnd (BC (Nk n x.as) es) EV else Ar
set_option tactic.hygienic true in
noncomputable def Jh(Γ:AP)(N:Nat)(D:C0)(vs:List CV):CM CV:=match Lz D.body with
 | some (ce,xn,n,es,rest)=>if Ie D=true/\(D.params.args.map (·.arg)).length=vs.length/\Lr ce=true/\E2 D.scope.names xn=true/\Dg n=true/\D.scope.names.lookup n=some .local then λσ =>
   match (Bu Γ N).1 D.scope.names ((D.params.args.map (·.arg)).zip vs) ce σ with
   | .ok _ σ1=>bnd (G1 Γ (Bu Γ N).1 (Bu Γ N).2 D.scope.names N rest ((D.params.args.map (·.arg)).zip vs)) (λp=>match p.1 with
    | .next=>ret .none
    | .ret v=>ret v) σ1
   | .exc x σ1=>Kb Γ xn n es x σ1
   | .stuck=>.stuck
  else Ar
 | none=>Ar
theorem AjS{h:Bb}{L:Af}{m:Ac->Option Ad}(hn:h.Ns L m)(u:h.UpToSlots h'):h'.Ns L m:=by
 refine CP hn ?_;clear hn;rintro o es ep ho hd r;refine AK (u L o ho λvs q=>by rw[hd]at q;(exfalso;injection q)) ?_;rintro sl hs
 exact⟨_,es,ep,hs,hd,r⟩
theorem LA{a:α}{R:Prop}(h:none=some a):R:=by(exfalso;injection h)
theorem SQ{vs:Array Ad}{es:Array Em}{ep:Nat}{R:Prop}(h:Data.dict es ep=.fields vs):R:=by(exfalso;injection h)
theorem YI{prog:CJ}{a:Af}(R:LR prog w l)(n:∀p∈l.Φ,p.1≠a):∃l',l'.Φ=(a,o)::l.Φ/\l'.σ=l.σ/\Ap No l l'/\LR prog w l'/\AS l' (a,o) :=
 have nd:(([(a,o)]++l.Φ).map (·.1)).Nodup:=Dv.mpr ⟨λq=>(BH.mp q).elim λp hp=>n p hp.1 hp.2,R.nd⟩
 ⟨{ l with Φ:=[(a,o)]++l.Φ },rfl,rfl,Ap.junk (N:=[(a,o)]) rfl,R.junk rfl nd,R.junk_oth rfl nd (.head _)⟩
theorem AjT{A:CK}{m mm:Ac->Option Ad}{B gg h3 h4:Bb}{a:Af}{vs:Array Ad}{n:Ac}
  (F0:Fr c.h₀ c.L c1.h₀ m) (b1:c.h₀.StaysIn B) (b2:CL c1.h₀ c1.L B l1.Φ) (b4:B.get? a=none) (b8:LR c1.prog c1.w l1) (b11:Fr c1.h₀ c1.L gg mm) (up3:gg.UpToSlots h3) (z1:B.StaysIn h3)
  (he3:h3.get? a=some oe) (hd3:oe.data=.fields vs) (nsL':h3.Ns c1.L mm) (hn4:h4.Ns c1.L λx=>if x=n then some (.ref a)else mm x) (hs4:Vq c1.L h3 h4) :
  ∃(l2:Am) (oL:AU) (es:Array Em) (ep:Nat),l2.σ=l1.σ/\Ap No l1 l2/\AS l2 (a,oe)/\AS l2 (c.L,oL)/\oL.data=.dict es ep/\(StrKeys es/\∀name,nsFind es name=m name)/\St { c1 with A:=A,h₀:=c.h₀ } (λy=>if y=n then some (.ref a)else mm y) l2 h4:=by
 refine CP F0.ns ?_;rintro oL0 esL epL hL0 hLd hLr;refine AK (up3 c.L oL0 (b11.keep _ _ hL0) λvs q=>SQ (hLd.symm.trans q)) ?_;rintro sl hL3;have hLne:c.L≠c1.L:=λq=>LA ((VJ b11).symm.trans (q▸hL0));have haL:a≠c.L:=λq=>by
  rw[q,hL3]at he3;rw[<- Ay he3]at hd3;exact SQ (hLd.symm.trans hd3)
 have haL':a≠c1.L:=λq=>by
  refine CP nsL' ?_;clear nsL';rintro o es0 ep0 ho0 hd0 _;rw[<- q,he3]at ho0;rw[<- Ay ho0]at hd0;exact SQ (hd0.symm.trans hd3)
 have h0:∀b,B.get? b=none->c.h₀.get? b=none:=λb q=>by
  rcases z:c.h₀.get? b with _ | o
  ·rfl
  ·exact LA (q.symm.trans (b1 _ o z))
 have h0B:∀b,c1.h₀.get? b=none->c.h₀.get? b=none:=λb q=>by
  rcases z:c.h₀.get? b with _ | o
  ·rfl
  ·exact LA (q.symm.trans (F0.keep _ o z))
 have st4:c.h₀.StaysIn h4:=λb o q=>(hs4.2 b λz=>LA ((VJ b11).symm.trans (z▸F0.keep b o q))).trans (z1 b o (b1 b o q));refine IL (YI (a:=c.L) (o:={ oL0 with slots:=sl }) b8 λp hp q=>LA ((b2 p hp).2.2.symm.trans (q▸hL0))) ?_;rintro l2 p2 s2 x2 r2 o2
 refine IL (YI (a:=a) (o:=oe) r2 λp hp q=>by
  rw[p2]at hp;rcases AV.mp hp with rfl | hp
  ·exact haL q.symm
  ·exact LA (b4.symm.trans (q▸(b2 p hp).1))) ?_;rintro l3 p3 s3 x3 r3 o3
 refine⟨l3,_,_,_,s3.trans s2,x2.trans x3,o3,x3.all o2,hLd,hLr,⟨hn4,st4,AE F0.above (DI (Fb F0.ns.lt b11.above))⟩,λq hq => ?_,r3⟩;rw[p3,p2]at hq;rcases AV.mp hq with rfl | hq
 ·exact⟨(hs4.2 _ haL').trans he3,haL',h0 a b4⟩
 rcases AV.mp hq with rfl | hq
 ·exact⟨(hs4.2 _ hLne).trans hL3,hLne,VJ F0⟩
 ·refine C6 (b2 q hq) ?_;rintro w1 w2 w3;exact⟨(hs4.2 _ w2).trans (z1 _ _ w1),w2,h0B _ w3⟩
theorem AjU{A:CK}{m mm:Ac->Option Ad}{l3:Am}{h1 h6:Bb}{oL:AU}{es:Array Em}{ep:Nat}(F0:Fr c.h₀ c.L h1 m)(hp:c1.prog=c.prog)(hw:c1.w=c.w)
  (st:St { c1 with A:=A,h₀:=c.h₀ } mm l3 h6) (hLd:oL.data=.dict es ep) (hLr:StrKeys es/\∀name,nsFind es name=m name) (oo:AS l3 (c.L,oL)) (hnL:∀q,AS l q->q.1≠c.L) (xx:Ap No l l3) :
  ∃l4:Am,l4.σ=l3.σ/\St c m l4 h6/\Ap No l l4/\Ap (·=c.L) l3 l4:=by
 refine BS (st.dropOth' oo (λvs q e=>by(have z0:_=_:=hLd.symm.trans (congrArg Obj.data e);exfalso;injection z0)) (λb o x e=>e:Rk c.L h6 h6)) ?_;rintro l4 hnx e4 st8 x8
 refine⟨l4,e4,⟨⟨⟨_,es,ep,(st.nw _ oo.1).1,hLd,hLr⟩,st8.fr.keep,F0.above⟩,λq hq=>⟨(st8.nw q hq).1,hnx q hq,(st8.nw q hq).2.2⟩,?_⟩,(xx.weaken.trans x8).narrow λq hq z=>hnL q hq z,x8⟩;have:=st8.lr;rw[<- hp,<- hw];exact this
theorem SR{M:KG}{A:CK}{t:Sem α}{Q:α->Aq->Prop}(h:wpAny M A t Q (λz z=>False) s):wpAny M A t Q E s :=
 KL h (λz z q=>q) λz z q=>q.elim
theorem AjV{A:CK}{h:Bb}{a:Af}{p2:Pos}
  (T:Mi c.p c.loose c.mg c.mb h) (kin:c.K.In h) (hv:c.mg xn=some (.ref C)) (eo:Ck c1 c1.fenv) (Y:J9 c.K C) (hg:E2 c1.fenv.scope.names xn=true) (st:h.StaysIn s.heap)
  (he:s.heap.get? a=some oe) (hcls:oe.cls=.ref C) (hq:R (.ok .brk) s) :
  codeAny (model c1.prog c1.w) A (.handlers (.ref a) [.ExceptHandler (some (.Name xn p2)) none [] p5] c1.fenv) R s:=by
 simp only[E2,Dg,Bf,beq_iff_eq,Fc]at hg;exact codeAny_handlers_test (Mk eo.kind hg.2 (QX (by rw[eo.globals];exact T.g.keeps st) hv (AjJ (kin.keeps st) Y he hcls _ _ _ _ (λz z q=>q) hq)) hg.1.1)
theorem AjW{A:CK}{m mm:Ac->Option Ad}{x:CX}{a:Af}{n:Ac}{nn:Nat}{B gg:Bb}{t dx:Af}{es':List Em}{k:Nat}
  (hK:c1.K.In c.h₀) (Y:J9 c1.K x.cls) (hatt:∀y v,x.as.lookup y=some v->findIn c1.K (.ref x.cls) y=some none) (F0:Fr c.h₀ c.L c1.h₀ m) (eo:Ck c1 c1.fenv) (hloc:c1.fenv.locals=c1.L) (hgn:Dg n=true) (hl:c1.fenv.kindOf n=some .local)
  (b1:c.h₀.StaysIn B) (b2:CL c1.h₀ c1.L B l1.Φ) (b4:B.get? a=none) (b8:LR c1.prog c1.w l1) (b9:AS l1 (dx,dictOf es' k)) (b10:Dr l1 es' x.as) (b11:Fr c1.h₀ c1.L gg mm) (up:gg.UpToSlots s.heap)
  (y1:B.StaysIn s.heap) (y2:s.heap.FunFrames B (c1.fenv::c1.outer)) (y3:HH s.heap B a (.ref x.cls) t dx v)
  (ns:bnd (BC (Nk n x.as) es) EV l1.σ≠.stuck)
  (hq:∀l2 oL esL epL b l3 v h5 tk5 mm',Ap No l1 l2->AS l2 (c.L,oL)->oL.data=.dict esL epL->(StrKeys esL/\∀name,nsFind esL name=m name)->bnd (BC (Nk n x.as) es) EV l1.σ=.ok b l3.σ->St { c1 with A:=A,h₀:=c.h₀ } mm' l3 h5->Ap No l2 l3->VR l3 v b->R (.ok (.ret v)) (put s h5 tk5)) :
  codeAny (model c1.prog c1.w) A (.handlers (.ref a) [.ExceptHandler none (some n) [.Return (some (.Tuple es nn p3)) p4] p5] c1.fenv) R s:=by
 refine codeAny_handlers_suite_as (SR (PG (fl':=none) y1 y2 y3 λh3 z1 z2 z3 z4 => ?_));have up3:=up.trans z4;have nsL':h3.Ns c1.L mm:=AjS b11.ns up3;refine SR (Ab5 (s:=put s h3 s.toks) hl (hloc▸nsL') (λh4 hn4 hs4=>SR ?_) (by rw[eo.kind];rfl))
 rw[hloc]at hn4 hs4;refine Rw z3 ?_;clear z3;rintro oe3 vs3 _ _ _ he3 hcls3 hdc3 hd3 _;refine Q47 (AjT (A:=A) F0 b1 b2 b4 b8 b11 up3 z1 he3 hd3 nsL' hn4 hs4) ?_;rintro l2 oL esL epL s2 x2 oa oL2 hLd hLr st5;clear b1 b2 b4 b8 b11 up3 up z1 z2 z4 he3 nsL' hn4 hs4 y1 y2 y3;have hno:notCls oe3=true:=by
  rcases oe3 with⟨_,_,dt,_⟩
  dsimp only at hd3;subst hd3;rfl
 rw[<- s2]at ns hq;have es0:=AjK (c:={ c1 with A:=A,h₀:=c.h₀ }) (FX:=λz z z z=>False) (m:=λy=>if y=n then some (.ref a)else mm y) (l:=l2) (C:=x.cls) eo.kind hl hloc hgn (if_pos rfl) hK Y hatt oa hcls3 hno hdc3 (x2.all b9) (b10.mono x2)
 clear hatt oa hcls3 hno hdc3 b9 b10 hd3 Y;exact KQ (Aqs (Xo es0 _ _ _ st5 (λb l3 v h5 tk5 e5 st6 x6 hv=>hq _ _ _ _ b l3 v h5 tk5 _ x2 oL2 hLd hLr e5 st6 x6 hv) (λz z z z z z z hf=>hf.elim) ns))
theorem AjX{M:KG}{A:CK}{e:Ad}{t:Expr}{n:Ac}{Q:FE->Aq->Prop}
  (h1:∀R:Hc->Aq->Prop,R (.ok .brk) s->codeAny M (A.mark (some e)) (.handlers e [.ExceptHandler (some t) none [] pos] env) R s)
  (h2:∀R:Hc->Aq->Prop,(∀f s2,wpAny M A (do bindName env n .none;unbindBehindTheSuite env n pos) (λz s₃=>Q f s₃) E s2->R (.ok f) s2)->codeAny M (A.mark (some e)) (.handlers e [.ExceptHandler none (some n) body pos] env) R s) (hnb:e≠byPass) :
  wpAny M A (handleBy e env [.ExceptHandler (some t) (some n) body pos]) Q E s :=
 wpAny_handleBy_cons (h1 _ (h2 _ λz z q=>q)) hnb
theorem AjY{d':Nat}{m:Ac->Option Ad}{x:CX}{e:Ad}{Q:FE->Aq->Prop}{n:Ac}{nn:Nat}{p2:Pos}
  (ok:AL c d) (g:Bs c.K Γ) (ok':AL c1 d') (hcc:c1.prog=c.prog/\c1.w=c.w/\c1.base=c.h₀/\c1.K=c.K) (F0:Fr c.h₀ c.L c1.h₀ m) (eo:Ck c1 c1.fenv) (hloc:c1.fenv.locals=c1.L)
  (hY:∀C names,Γ.excs.lookup C=some names->J9 c.K C/\∀y∈names,findIn c.K (.ref C) y=some none)
  (hg:E2 c1.fenv.scope.names xn=true) (hgn:Dg n=true) (hl:c1.fenv.kindOf n=some .local) (xx:Ap No l l1) (hnL:∀q,AS l q->q.1≠c.L) (hfx:DX c1 l1 x e s.heap) (ns:Kb Γ xn n es x l1.σ≠.stuck)
  (okk:∀b l' v h' tk,Kb Γ xn n es x l1.σ=.ok b l'.σ->St c m l' h'->Ap No l l'->VR l' v b->Q (.ret v) (put s h' tk)) :
  wpAny (model c1.prog c1.w) c1.A (JJ e c1.fenv) (λz s₂=>wpAny (model c1.prog c1.w) c1.A (VD e none) (λz s₃ =>
   wpAny (model c1.prog c1.w) c1.A (handleBy e c1.fenv [.ExceptHandler (some (.Name xn p2)) (some n) [.Return (some (.Tuple es nn p3)) p4] p5]) Q E s₃) E s₂) E s:=by
 refine VU hcc ?_;clear hcc;rintro hp hw hb hK;unfold Kb at ns okk
 by_cases hx:PI Γ xn x.cls=true/\Γ.excs.lookup x.cls=some (x.as.map (·.1))
 case neg=>rw[if_neg hx]at ns;exact absurd rfl ns
 rw[if_pos hx]at ns okk;refine Au (hY _ _ hx.2) ?_;rintro Y hatt;refine DX.note ok' hfx ok'.frame λa t dx B es' k gg mm h' ea b1 b2 b3 b4 b5 b6 b8 b9 b10 b11 b12 => ?_;subst ea;rw[hb]at b1;refine AG (g.top xn _ (AjR hx.1)) ?_;rintro v0 hv0 rfl hkp;clear hkp hx;refine PG (s:=put s h' s.toks) (fl':=none) b3 b5 b6 λh2 y1 y2 y3 y4 => ?_;clear b3 b5 b6;have st2:c.h₀.StaysIn h2:=λb o q=>y1 b o (b1 b o q);have up2:=b12.trans y4;clear y4 b12;refine OY (id y3) ?_;rintro oe _ _ _ _ he hcls _;refine AjX (s:=put s h2 s.toks) (λR q=>AjV (II ok.top) ok.kin (mg_of ok.kin (II ok.top).g hv0) eo Y hg st2 he hcls q) (λR hR => ?_) (by intro q;(exfalso;injection q))
 clear st2 he hcls;refine AjW (c:=c) (by rw[hK];exact ok.kin) (by rw[hK];exact Y) (λy v q=>by rw[hK];exact hatt y (BH.mpr ⟨_,Gs q,rfl⟩)) F0 eo hloc hgn hl b1 b2 b4 b8 b9 b10 b11 up2 y1 y2 y3 ns λl2 oL esL epL b l3 v h5 tk5 mm' x2 oL2 hLd hLr e5 st6 x6 hv=>hR _ _ ?_
 clear b1 b2 b4 b8 b9 b10 b11 up2 y1 y2 y3;refine wpAny_nameGoes (s:=put s h5 tk5) hl (hloc▸st6.fr.ns) (by rw[eo.kind];rfl) λh6 m6 hn6 hs6 => ?_
 rw[hloc]at hn6 hs6;refine BS (AjU F0 hp hw (⟨st6.fr.set hn6 hs6,st6.nw.set hs6,st6.lr⟩:St _ m6 l3 h6) hLd hLr (x6.all oL2) hnL ((xx.trans x2).trans x6)) ?_;rintro l4 e4 st8 x4 x8;exact okk b l4 v h6 _ (by rw[e4];exact e5) st8 x4 (hv.mono x8)
end
section
set_option maxHeartbeats 1000000
set_option tactic.hygienic true in
theorem AjZ{f:Af}{D:C0}(gk:J2 Γ){d N:Nat}(h3:2<=d)(fn:Lf DX Γ d)(g:Bs c.K Γ)(ok:AL c (d+2))(hbase:c.base=c.h₀)(hDin:JR c.K f D)
  (hY:∀C names,Γ.excs.lookup C=some names->J9 c.K C/\∀y∈names,findIn c.K (.ref C) y=some none):MO c (DX c) f (Jh Γ N D):=by
 have fx:=SM;rcases hDin with⟨oc,od,osl,kV,doc,pm,an,cdv,ct,hK,hcd⟩
 intro m l vs cs s R hv st okk exc ns;unfold Jh at okk exc ns;cases hsh:Lz D.body with
 | none=>rw[hsh]at ns;exact absurd rfl ns
 | some sh =>
 rcases sh with⟨ce,xn,n,es,rest⟩
 refine V4 (AjQ hsh) ?_;rintro p1 p2 nn p3 p4 p5 p6 hbody;rw[hsh]at okk exc ns;dsimp only at okk exc ns
 by_cases hg:Ie D=true/\(D.params.args.map (·.arg)).length=cs.length/\Lr ce=true/\E2 D.scope.names xn=true/\Dg n=true/\D.scope.names.lookup n=some .local
 ·rw[if_pos hg]at okk exc ns;refine Q06 hg ?_;clear hg;rintro hgood hlen hnc hxn hgn hln;have G:=Yk hgood;have hlen':(D.params.args.map (·.arg)).length=vs.length:=hlen.trans hv.length.symm;refine AjI (binds:=(D.params.args.map (·.arg)).zip vs) ok.below st.fr ok.kin st.nw ok.top ok.frames ok.frame ok.kind hK hcd (Ym ok) (SI G.hp rfl hlen') (G.binds vs) G.hnd ?_ G.hco G.hgen G.hk;intro g1 L' h₁ tk cells F0 F1 N1 CA B1 K1 T1 hlt lv;have En:=Yl G ok st hv hlen' F1 N1 CA B1 K1 T1 hlt;clear F1 N1 CA B1 K1 T1 hlt hv;rcases En with⟨ok',fe,st1,er,cr,all⟩
  have eo:=fe.eo;have ha:J6 (c.callee g1 L' (envOfC D.qual D.scope L' f cdv)) (DX (c.callee g1 L' (envOfC D.qual D.scope L' f cdv))) (Bu Γ N).1 (Bu Γ N).2 :=
   ⟨λenv m l loc eo er=>(Lo gk ok' g (fn.here _) N env l loc eo er).1,λenv m l loc eo er=>(Lo gk ok' g (fn.here _) N env l loc eo er).2⟩
  have lvv:∀v l' m' h' tk',St (c.callee g1 L' (envOfC D.qual D.scope L' f cdv)) m' l' h'->(St c m l' h'->R (.ok (.ret v)) (put s h' tk'))->R (.ok (.ret v)) (put s h' tk'):=λv l' m' h' tk' st' k =>
   lv v (put s h' tk') ⟨L',m',l'.Φ,st'.fr,st'.nw,λFF NN=>k ⟨FF,NN,st'.lr⟩⟩
  rw[hbody];have e0:(Bu Γ N).1 D.scope.names ((D.params.args.map (·.arg)).zip cs) ce l.σ≠.stuck:=λq=>ns (by rw[q])
  refine KQ (wpAny_Try_except (KQ ?_));refine Yb (FX:=DX (c.callee g1 L' (envOfC D.qual D.scope L' f cdv))) (f:=(Bu Γ N).1) (e:=ce) (pos:=p1) fe (λm l loc er=>ha.ev _ m l loc eo er) _ _ _ st1 er cr (λfl loc' l' m' fl' h' tk' e st' x er' cr' v => ?_) (λx l' e h' tk' hx xx hfx => ?_) ?_
  ·rw[if_pos hnc]at e;refine Bg (SA e) ?_;rintro b σ1 e1 e2;have e1:(Bu Γ N).1 D.scope.names ((D.params.args.map (·.arg)).zip cs) ce l.σ=.ok b σ1:=e1;have e2':(B8.ok (Bp.next,(D.params.args.map (·.arg)).zip cs) σ1:B8 (Bp×Ao))=.ok (fl,loc') l'.σ:=e2
   injection e2' with q1 q2
   refine Au (D8 q1) ?_;rintro rfl rfl;subst q2;have v':fl'=.next:=v
   subst v';rw[e1]at okk exc ns;dsimp only at okk exc ns;refine OP (OP ?_);refine SH (fx.own _ _ ok') fe ok' (ok'.weaken (WE h3)) g ha N rest _ _ _ _ _ _ st' er' cr' (λfl loc2 l2 m2 fl2 h2 tk2 e st2 x2 er2 cr2 v2 => ?_) (λy l2 e2 h2 tk2 hx2 xx2 hfx2 => ?_) λq=>ns (Dl q)
   ·have e':G1 Γ (Bu Γ N).1 (Bu Γ N).2 D.scope.names N rest ((D.params.args.map (·.arg)).zip cs) l'.σ=.ok (fl,loc2) l2.σ:=e;rw[CT e']at okk;rcases fl with _ | cv
    ·have v':fl2=.next:=v2
     subst v';exact lvv .none l2 m2 h2 tk2 st2 λS=>okk .none l2 .none h2 tk2 rfl S (all l2 (x.trans x2)) .none
    ·refine Ah v2 ?_;clear v2;rintro w rfl hw;exact lvv w l2 m2 h2 tk2 st2 λS=>okk cv l2 w h2 tk2 rfl S (all l2 (x.trans x2)) hw
   ·exact fx.leave c (d+1) m g1 L' _ l l2 y e2 _ _ _ (ok.weaken (WD)) ok' F0 rfl G.hk hfx2 λh3 hfx3=>exc y l2 e2 h3 tk2 (DM hx2) (all l2 (x.trans xx2)) hfx3
  ·rw[if_pos hnc]at hx;have hx1:(Bu Γ N).1 D.scope.names ((D.params.args.map (·.arg)).zip cs) ce l.σ=.exc x l'.σ:=by
    rcases SD hx with q | ⟨_,_,_,q2⟩
    ·exact q
    ·exfalso;injection q2
   rw[hx1]at okk exc ns;dsimp only at okk exc ns;refine AjY (l:=l) (c:=c) (c1:=c.callee g1 L' (envOfC D.qual D.scope L' f cdv)) ok g ok' ⟨rfl,rfl,hbase,rfl⟩ F0 eo rfl hY hxn hgn hln (all l' xx) (λq hq=>(st.nw q hq.1).2.1) hfx ns λb l2 v h2 tk2 e2 S2 x2 v2 => ?_;exact okk b l2 v h2 tk2 e2 S2 x2 v2
  ·rw[if_pos hnc];intro q;rcases SE q with q | ⟨_,_,_,q2⟩
   ·exact e0 q
   ·exfalso;injection q2
 ·rw[if_neg hg]at ns;exact absurd rfl ns
end
section
set_option maxHeartbeats 0
noncomputable def BF:DefRec×List (Ac×Expr):=(defOf qv (Ab "law")).get (by kernel_rfl)
theorem Aj0:defOf qv (Ab "law")=some BF:=(Acu _).symm
theorem YJ:BF.2=[]:=by kernel_rfl
theorem Aj1:pw.theDef (Ab "law")=some (BF.1.params,BF.1.body,BF.1.scope):=by kernel_rfl
theorem Aj2:kwWritten? BF.1.params.kwonlyargs BF.1.params.kw_defaults=some []:=by kernel_rfl
end
theorem Aj3:∀(x:Nat) (o:AU) (r:List AU) (a:Af) (as:List Af),Hq (o::r) x (a::as)=match x.beq a with | true=>(match alive o with | some o'=>(a,o')::Hq r (x+1) as | none=>Hq r (x+1) as) | false=>Hq r (x+1) (a::as):=by intros;rfl
theorem Aj4:∀(l:List AU) (n:Nat) (as:List Nat),((a,o):Nat×AU)∈Hq l n as->n<=a/\∃x,l[a-n]? = some x/\alive x=some o:=by
 intro z1
 induction z1 with
 | nil =>
  intro n as h;exact absurd (show((a,o):Nat×AU)∈([]:List (Nat×AU))from h) Mn
 | cons x r ih =>
  intro n z2;rcases z2 with _ | ⟨b,as⟩
  ·intro h;exact absurd (show((a,o):Nat×AU)∈([]:List (Nat×AU))from h) Mn
  ·intro h;have up:∀as':List Nat,((a,o):Nat×AU)∈Hq r (n+1) as'->n<=a/\∃y,(x::r)[a-n]? = some y/\alive y=some o:=λas' h'=>by
    rcases ih (n+1) as' h' with⟨h1,y,h2,h3⟩
    refine⟨(Ada h1),y,?_,h3⟩;rw[show a-n=(a-(n+1))+1 from(Wk h1),Abp];exact h2
   rw[Aj3]at h;rcases e:EP n b with _ | _
   ·rw[e]at h;exact up _ h
   ·rw[e]at h;obtain rfl:n=b:=OU e;rcases ha:alive x with _ | o'
    ·rw[ha]at h;exact up _ h
    ·rw[ha]at h;rcases AV.mp h with h | h
     ·injection h with za zb;subst za;subst zb
      exact⟨AM _,x,by simp,ha⟩
     ·exact up _ h
theorem Aj5(h:Bb):(KZ h).In h:=λa o e=>by
 rcases Aj4 _ _ _ (Gs e)with⟨_,x,h1,h2⟩
 rw[Acm,Mh]at h1;unfold Heap.get?;rw[h1];rcases x with⟨c,d,dt,sl⟩
 rcases dt with⟨⟩<;>first | exact h2 | cases h2
def Nl(h:Bb):Prop:=∃K:Bk,K.In h/\JN K=true/\Gi.map (λp=>Er K p.1)=Gi.map λp=>Hr pw p.2
theorem Aj6(w:BK)(s:Aq)(h:Mw s=Mx w):Nl s.heap:=⟨KZ s.heap,Aj5 _,(D8 h).1,(D8 h).2⟩
theorem Aj7(w:BK)(h h':Bb)(x:Nl h)(k:∀b o,h.get? b=some o->h'.get? b=some o):Nl h':=by
 refine Ah x ?_;clear x;rintro K h1 h2;exact⟨K,h1.keeps k,h2⟩
section
structure B3(K:Bk):Prop where
 all:JN K=true
 defs:Gi.map (λp=>Er K p.1)=Gi.map λp=>Hr pw p.2
section
variable {K:Bk}
theorem B3.tabs(F:B3 K):Tabs0 K:=by
 have h:=F.all;simp only[JN,Wc,Bf]at h;refine Au h ?_;clear h;rintro⟨⟨⟨⟨⟨⟨h1,h2⟩,h3⟩,h4⟩,h5⟩,h6⟩,_⟩ _;exact⟨h1,h2,h3,h4,h5,h6⟩
theorem B3.more(F:B3 K):IP K 152=true/\findIn K (.ref 152) "__init__" = some (some (.ref 149))/\typeIn K (.ref 149)=some (.type "function")/\typeIn K (.ref 152)=some (.type "type")/\nsIn K El "Exception" = some none /\
  nsIn K El "WasmFault" = some (some (.ref 132))/\IM K 132 "__init__" 129=true/\∀x∈Ht,IQ K 152 x=true:=by
 have h:=F.all;simp only[JN,Wd,Bf,beq_iff_eq]at h;refine Au h ?_;clear h;rintro⟨_,⟨⟨⟨⟨⟨⟨⟨h1,h2⟩,h3⟩,h4⟩,h5⟩,h6⟩,h7⟩,h8⟩⟩ _;exact⟨h1,h2,h3,h4,h5,h6,h7,B7.mp h8⟩
theorem B3.catch(F:B3 K):J9 K 152/\∀y∈Ht,findIn K (.ref 152) y=some none:=by
 have h:=F.all;simp only[JN,We,Bf,beq_iff_eq]at h;refine Au h ?_;clear h;rintro _ ⟨⟨⟨⟨⟨h1,h2⟩,h3⟩,h4⟩,h5⟩,h6⟩;exact⟨⟨h1,h2,h3,h4,F.more.2.2.2.1,h5⟩,λy hy=>by have:=B7.mp h6 y hy;simpa using this⟩
theorem B3.def(F:B3 K){f:Af}{pth:List Nat}(h:(f,pth)∈Gi):Er K f=Hr pw pth:=List.map_inj_left.mp F.defs (f,pth) h
noncomputable def PJ:C0:=(Hr pw [32,0]).get (by kernel_rfl)
noncomputable def PK:C0:=(Hr pw [33,0]).get (by kernel_rfl)
theorem B3.d129(F:B3 K):Er K 129=some PJ:=(F.def (pth:=[32,0]) (by decide)).trans (Acu _).symm
theorem B3.d149(F:B3 K):Er K 149=some PK:=(F.def (pth:=[33,0]) (by decide)).trans (Acu _).symm
noncomputable def Nm(K:Bk):AP:={ Ig K with excs:=[],fn:=λz=>none }
theorem B3.gokX(F:B3 K):Bs K (Nm K):=Yq F.tabs [] (by simp) _
theorem x9:Lx PJ "self" ["why"]=true:=by kernel_rfl
theorem x10:Lx PK "self" ["why","function","at"]=true:=by kernel_rfl
theorem Aj8:∃b bs es,PJ.body=b::bs/\Ly b=some (Ab "Exception",Ab "self",es)/\(∀a,BC (Nj (Nm K) PJ.scope.names ([Ab "why"].zip [a])) es=ret [a])/\bs.map J8=[some (Ab "self",Ab "why",Ab "why")] :=
 ⟨_,_,_,rfl,rfl,λa=>by kernel_rfl,by kernel_rfl⟩
theorem Aj9:∃b bs es,PK.body=b::bs/\Ly b=some (Ab "WasmFault",Ab "self",es)/\(∀a1 a2 a3,BC (Nj (Nm K) PK.scope.names ([Ab "why",Ab "function",Ab "at"].zip [a1,a2,a3])) es=ret [a1]) /\
  bs.map J8=[some (Ab "self",Ab "function",Ab "function"),some (Ab "self",Ab "at",Ab "at")]:=⟨_,_,_,rfl,rfl,λa1 a2 a3=>by kernel_rfl,by kernel_rfl⟩
theorem Aka(F:B3 K){c:FC}{d:Nat}(hK:c.K=K)(ok:AL c (d+1))(a:CV):Jg c 152 129 [a] [] [(Ab "why",a)]:=by
 refine Fd (Aj8 (K:=K)) ?_;rintro b bs es h1 h2 h3 h4;refine VW F.more ?_;rintro k1 _ _ _ k5 _ _ k8;exact AjE (Γ:=Nm K) (xs:=[Ab "why"]) (pairs:=[(Ab "why",Ab "why",a)]) ok (by rw[hK];exact F.gokX) (by rw[hK];exact PH F.d129) x9 rfl (by rw[hK];exact k1) (by rw[hK];exact k5) (by kernel_rfl) h1 h2 (h3 a) (by simp) h4
  (λp hp=>by
   rcases Cx.mp hp with rfl
   exact⟨by rw[hK];exact k8 _ (.head _),by kernel_rfl⟩) (by simp)
theorem Akb(F:B3 K){c:FC}{d:Nat}(hK:c.K=K)(ok:AL c (d+2))(a1 a2 a3:CV):Jg c 152 149 [a1,a2,a3] [] [(Ab "why",a1),(Ab "function",a2),(Ab "at",a3)]:=by
 refine Fd (Aj9 (K:=K)) ?_;rintro b bs es h1 h2 h3 h4;refine VW F.more ?_;rintro _ _ _ _ _ k6 k7 k8;refine AjF (Γ:=Nm K) (xs:=[Ab "why",Ab "function",Ab "at"]) (as1:=[(Ab "why",a1)]) (pairs:=[(Ab "function",Ab "function",a2),(Ab "at",Ab "at",a3)]) ok (by rw[hK];exact F.gokX) (by rw[hK];exact PH F.d149) x10 rfl (by rw[hK];exact k6) (by decide) (by rw[hK];exact k7) (by kernel_rfl)
  (λc' e ok'=>Aka F (e.trans hK) ok' a1) h1 h2 (h3 a1 a2 a3) h4 (λp hp => ?_) (by simp)
 rcases AV.mp hp with rfl | hp
 ·exact⟨by rw[hK];exact k8 _ (.tail _ (.head _)),by kernel_rfl⟩
 ·rcases Cx.mp hp with rfl
  exact⟨by rw[hK];exact k8 _ (.tail _ (.tail _ (.head _))),by kernel_rfl⟩
theorem B3.excCls(F:B3 K):Pe K 152 Ht:=by
 refine VV F.more ?_;rintro k1 k2 k3 k4 _;refine⟨by simp[Ht],λM h X=>(SO X k1).bexc,λM h X=>looks_typeIn X k4,?_⟩
 intro c m l vs cs s R hK ok st hv hl hR;obtain⟨a1,a2,a3,rfl⟩:∃a1 a2 a3,cs=[a1,a2,a3]:=by
  rcases cs with _ | ⟨a1,_ | ⟨a2,_ | ⟨a3,_ | ⟨a4,r⟩⟩⟩⟩
  ·exact absurd (show(0:Nat)=3 from hl) (by decide)
  ·exact absurd (show(1:Nat)=3 from hl) (by decide)
  ·exact absurd (show(2:Nat)=3 from hl) (by decide)
  ·exact⟨a1,a2,a3,rfl⟩
  ·exact absurd (Md (show r.length+4=3 from hl)) (Nat.not_le.mpr (Fb (by decide:3<4) (ApW 4 _)))
 exact AjG (d:=2) ok (by rw[hK];exact k1) (by rw[hK];exact k2) (by rw[hK];exact k3) (λc' e ok'=>Akb F (e.trans hK) ok' a1 a2 a3) st hv (by simp) hR
theorem B3.tab(F:B3 K):Lv K:={ F.tabs with
 excs:=λC names h=>by
  unfold HI at h
  by_cases e:C=152
  ·subst e;have:Ht=names:=by simpa [Ht] using h
   exact this▸F.excCls
  ·have:(C == 152)=false:=beq_eq_false_iff_ne.mpr e;rw[BI,this]at h;exfalso;injection h }
end
end
section
set_option maxHeartbeats 1000000
section
variable {c:FC}{FX:Bm}{m:Ac->Option Ad}{l:Am}{env:Env}
theorem Akc{la:Af}{p2:Pos}{k:Nat}(hk:env.scope.kind=.function)(hl:env.kindOf x=some .local)(hloc:env.locals=c.L)(hgn:Dg x=true)(hm:m x=some (.ref la))
  (hlst:c.h₀.IsList la vs.toArray) (hI:JF vs is) (hz:is.length<=63) :
  Aa c FX m l (eval (.Subscript (.Name x p1) (.Slice none (some (.Constant (.int 63) k p2)) none p3) p4) env) (B2 (is.map .int)) VR:=by
 have e:eval (.Subscript (.Name x p1) (.Slice none (some (.Constant (.int 63) k p2)) none p3) p4) env=(eval (.Name x p1) env >>= λv=>holding [v] (eval (.Slice none (some (.Constant (.int 63) k p2)) none p3) env) >>= λk'=>standAt p4 >>= λq=>Ov (.Name x p1) (.Slice none (some (.Constant (.int 63) k p2)) none p3) v k'):=rfl;rw[e];simp only[Dg,Bf,Fc]at hgn;refine Aa.of_eq (f':=bnd (ret ()) λq=>bnd (ret CV.none) λq=>bnd (ret (CV.int 63)) λq=>B2 (is.map .int)) ?_ rfl;refine Aa.bind (V:=λq w q=>w=.ref la) (λs Q E st ok q q=>Mj (QW hk hl (hloc▸st.fr.ns) hm (ok () l (.ref la) s.heap s.toks rfl st (Ap.refl l) rfl)) hgn.1) λv q l1 q e1 hv=>Aa.holdBind ?_;subst hv;rw[ApM];refine Aa.assoc (Aa.bind (V:=VR) (Aa.pure (V:=VR) .none) λv1 x1 l2 q2 e2 hv1=>Aa.assoc (Aa.bind (Aa.hold _ (Xe (k:=.int 63) (n:=k) (pos:=p2))) λv2 x2 l3 q3 e3 hv2 => ?_));have x1e:CV.none=x1:=(B8.ok_inj q2).1;have x2e:CV.int 63=x2:=(B8.ok_inj q3).1;subst x1e x2e;have z:Aa c FX m l3 (Abv "slice" [v1,v2,.none] >>= λi=>standAt p4 >>= λq=>Ov (.Name x p1) (.Slice none (some (.Constant (.int 63) k p2)) none p3) (.ref la) i) (B2 (is.map .int)) VR:=by
  intro s Q E st ok exc ns;have hz':(is.map CV.int).length<=63:=by rw[AJ];exact hz
  have hx:small (is.map CV.int).length=true:=decide_eq_true (RI hz');unfold B2 at ok;rw[if_pos hx]at ok;refine Aj (Oy (Aj (F8 ?_)) (by simp[sizeOk,sizeLine]))
  refine ApE st.fr st.nw ((hlst.at λo e=>st.fr.keep _ o e)) (Ph (a:=.none) rfl hv1) (Ph (a:=.int 63) rfl hv2) rfl (λD h' F' N' fr => ?_) rfl (λq=>rfl) ?_
  ·have hv:AA l3 (Ra vs.toArray.toList none (some 63)) (is.map .int):=by
    have hlen:vs.length=is.length:=AqD hI;have e:Ra vs.toArray.toList none (some 63)=vs:=by
     rw[List.toList_toArray];unfold Ra Ow kms_hi;simp only[List.drop_zero,Acm];rw[if_neg (by decide)]
     rw[Vp];show vs.length<=min (63:Int).toNat vs.length;rw[show(63:Int).toNat=63 from rfl];exact Af8 hz hlen
    rw[e];exact Pk hI
   refine BS (st.addList F' N' fr hv) ?_;rintro l' e st' x v;exact ok _ l' _ h' s.toks (by rw[e]) st' x v
  ·have hlen:vs.length=is.length:=AqD hI;rw[KH,F9];exact Af7 hz hlen
 exact Aa.assoc (λs Q E st ok exc ns=>Aj (Dp (AD (z s Q E st ok exc ns))))
end
noncomputable def EB:{D // Hr pw [79]=some D}:=⟨_,rfl⟩
noncomputable def NL:Nat:=40
noncomputable def CU(K:Bk):AP:={ BW K NL 20 with fn:=λf=>if f=974 then some (Jh (BW K NL 18) NL EB.1)else(BW K NL 20).fn f }
theorem Akd(T:Lv K):Bs K (CU K):=by
 refine AK (Jf K NL 20) ?_;rintro fn e;unfold CU;rw[e];exact Yq T.toTabs0 HI T.excs _
theorem YK(T:Lv K):J2 (CU K):=by
 refine AK (Jf K NL 20) ?_;rintro fn e;unfold CU;rw[e];exact Yr T _
theorem Ake(F:B3 K){c:FC}(hK:c.K=K)(hb:c.base=c.h₀):HB DX (CU K) 42 c:=by
 intro c' ⟨h1,h2,h3,h4⟩ g ok f spec hf;have gl:∀k,Bs c'.K (BW K NL k):=λk=>by
  refine AK (Jf K NL k) ?_;rintro fn e;refine AK (Jf K NL 20) ?_;rintro fn2 e2;rw[e];unfold CU at g;rw[e2]at g;exact Yt g
 have hf':(if f=974 then some (Jh (BW K NL 18) NL EB.1)else(BW K NL 20).fn f)=some spec:=hf
 by_cases e:f=974
 ·rw[if_pos e]at hf';injection hf' with za;subst za
  subst e;have hd:Er K 974=some EB.1:=(F.def (pth:=[79]) (by decide)).trans EB.2
  refine AjZ (d:=38) (Ys F.tab NL 18) (Af6) (Yu F.tab SM NL 18) (gl 18) (ok.weaken (Af5)) (by rw[h2,h3,hb]) (by rw[h4,hK];exact PH hd) λC names h => ?_
  refine AK (Jf K NL 18) ?_;rintro fn e;rw[e]at h;have h':HI.lookup C=some names:=h;unfold HI at h'
  by_cases e:C=152
  ·subst e;have e2:Ht=names:=by simpa [Ht] using h'
   subst e2;rw[h4,hK];exact F.catch
  ·have:(C == 152)=false:=beq_eq_false_iff_ne.mpr e;rw[BI,this]at h';exfalso;injection h'
 ·rw[if_neg e]at hf';exact Yu F.tab SM NL 20 c' (gl 20) ok f spec hf'
def PM(K:Bk)(is:List Int):Prop:=∃loc σ,G1 (CU K) (Bu (CU K) NL).1 (Bu (CU K) NL).2 BF.1.scope.names NL BF.1.body.tail [(Ab "script",CV.ref 0)] [.list (is.map .int)]=.ok (.ret (.bool true),loc) σ
theorem Akf:∃p p1 p2 p3 p4 p5 k,BF.1.body=.Assign [.Name (Ab "script") p] (.Subscript (.Name (Ab "script") p1) (.Slice none (some (.Constant (.int 63) k p2)) none p3) p4) p5::BF.1.body.tail:=⟨_,_,_,_,_,_,_,rfl⟩
theorem Akg:BF.1.params.defaults=[]:=by kernel_rfl
end
section
set_option maxHeartbeats 1000000
theorem Akh(pm cd doc:Ad)(v:Ad):bindArgs (docDef BF.1.name BF.1.params BF.1.body BF.1.scope pm cd doc) ⟨[v],[]⟩=pure [(Ab "script",v)]:=by kernel_rfl
theorem SS:BF.1.scope.names.lookup (Ab "script")=some .local:=by kernel_rfl
theorem Aki:((Gf 0 BF.1.scope.names []).map (·.1)).Nodup:=by decide +kernel
theorem Akj:BF.1.scope.isCoroutine=false/\BF.1.scope.isGenerator=false/\BF.1.scope.kind=.function:=⟨by kernel_rfl,by kernel_rfl,by kernel_rfl⟩
theorem Akk(K:Bk)(cs:List CV)(p p1 p2 p3 p4:Pos)(k:Nat):(λ(v:CV)=>bnd (J4 (CU K) (Bu (CU K) NL).1 BF.1.scope.names (.Name (Ab "script") p) (.Subscript (.Name (Ab "script") p1) (.Slice none (some (.Constant (.int 63) k p2)) none p3) p4) v []) λq=>ret (Bp.next,q.2)) (.ref 0) [.list cs]=.ok (.next,[(Ab "script",.ref 0)]) [.list cs]:=by kernel_rfl
set_option tactic.hygienic true in
theorem Akl{mm:Ac->Option Ad}{la:Af}{Q:FE->Aq->Prop}{loc':Ao}
  (F:B3 c.K) (hb:c.base=c.h₀) (ok:AL c 43) (fe:DD c c.fenv) (hs:c.fenv.scope=BF.1.scope) (hl0:l0.σ=[]) (st:St c mm l0 s.heap) (er:Cd c mm c.fenv l0 []) (cr:FT c.fenv l0) (hm0:mm (Ab "script")=some (.ref la)) (hlst:c.h₀.IsList la vs.toArray) (hI:JF vs is) (h63:is.length<=63)
  (hlaw:G1 (CU c.K) (Bu (CU c.K) NL).1 (Bu (CU c.K) NL).2 BF.1.scope.names NL BF.1.body.tail [(Ab "script",CV.ref 0)] [.list (is.map .int)]=.ok (.ret (.bool true),loc') σ')
  (hq:∀h3 tk3,c.h₀.StaysIn h3->Q (.ret (.bool true)) (put s h3 tk3)) :
  wpAny (model c.prog c.w) c.A (execs BF.1.body c.fenv) Q E s:=by
 have gk:Bs c.K (CU c.K):=Akd F.tab;have fnA:HB DX (CU c.K) 42 c:=Ake F rfl hb;have ha:J6 c (DX c) (Bu (CU c.K) NL).1 (Bu (CU c.K) NL).2 :=
  ⟨λenv m l loc eo er=>(Lo (YK F.tab) ok gk fnA NL env l loc eo er).1,λenv m l loc eo er=>(Lo (YK F.tab) ok gk fnA NL env l loc eo er).2⟩
 clear hb F fnA;refine V4 Akf ?_;rintro p p1 p2 p3 p4 p5 k hshape;have e0:(bnd (B2 (is.map CV.int)) λv=>bnd (J4 (CU c.K) (Bu (CU c.K) NL).1 c.fenv.scope.names (.Name (Ab "script") p) (.Subscript (.Name (Ab "script") p1) (.Slice none (some (.Constant (.int 63) k p2)) none p3) p4) v []) λq=>ret (Bp.next,q.2)) l0.σ=.ok (.next,[(Ab "script",.ref 0)]) [.list (is.map CV.int)]:=by
  rw[hl0,hs];refine(CT (a:=CV.ref 0) (σ':=[.list (is.map CV.int)]) ?_).trans (Akk c.K (is.map CV.int) p p1 p2 p3 p4 k);unfold B2;rw[if_pos (by rw[AJ];exact decide_eq_true (RI h63))]
  rfl
 rw[<- hs]at hlaw;clear hl0;have hsc:c.fenv.kindOf (Ab "script")=some .local:=by
  show c.fenv.scope.names.lookup _=_;rw[hs];exact SS
 have S:=Akc (c:=c) (FX:=DX c) (l:=l0) (env:=c.fenv) (p1:=p1) (p2:=p2) (p3:=p3) (p4:=p4) (k:=k) fe.eo.kind hsc fe.loc (by decide +kernel) hm0 hlst hI h63
 rw[hshape];clear hshape hs hsc hm0 hlst hI h63;refine KQ ?_;rw[Aci];refine Aj (F8 ?_);rw[PC fe (rfl:PA (.Subscript (.Name (Ab "script") p1) (.Slice none (some (.Constant (.int 63) k p2)) none p3) p4)=true)];refine Aj (AD ?_);refine AI.eval (loc:=[]) S (λv a l' z x hv=>X8 (Γ:=CU c.K) fe ok gk (λm l loc er=>ha.ev c.fenv m l loc fe.eo er) hv) _ _ _ st er cr (λfl EG l1 m1 fl' h2 tk2 e st1 x1 er1 cr1 v1 => ?_) (λx l' e h' tk hx xx fx=>by(have z0:_=_:=e0.symm.trans hx;exfalso;injection z0)) (λq=>by(have z0:_=_:=e0.symm.trans q;exfalso;injection z0))
 injection e0.symm.trans e with q1 q2
 refine Au (D8 q1) ?_;rintro rfl rfl;rw[show fl'=.next from v1]
 rw[q2]at hlaw;refine SH (FX:=DX c) (Yp ok) fe ok (ok.weaken (Af9)) gk ha NL BF.1.body.tail _ _ _ _ _ _ st1 er1 cr1 (λfl2 loc2 l2 m2 fl2' h3 tk3 e2 st2 x2 er2 cr2 v2 => ?_) (λx l' e h' tk hx xx fx=>by(have z0:_=_:=hlaw.symm.trans hx;exfalso;injection z0)) (λq=>by(have z0:_=_:=hlaw.symm.trans q;exfalso;injection z0))
 injection hlaw.symm.trans e2 with q3 q4
 refine Au (D8 q3) ?_;rintro rfl rfl;refine Ah v2 ?_;clear v2;rintro wv rfl hw;rw[hw.bool_inv];exact hq h3 tk3 st2.fr.keep
set_option tactic.hygienic true in
theorem Akm{s₀ s₁:Aq}{args:List WData}{vals:List Ad}{as:List Af}(hpre:PySem.Challenge.rw_pb0609_01.row.claim.pre args=true)(hlay:WData.layableAll args=true)
  (hrd:ReadsAllW PySem.Challenge.rw_pb0609_01.row.records (classAt s₀.heap) s₁.heap vals args as) (hwl:WellAll w.params s₁.heap vals args) (hlo:∀a∈as,(a == UZ)=false) :
  ∃is la vs,args=[ofPy (.list (is.map .int))]/\vals=[.ref la]/\s₁.heap.IsList la vs.toArray/\JF vs is/\is.length<=63:=by
 wrow_args hpre hlay hrd hwl hlo
 rename_i is hs hlay0 hL1 hr1 hl2 w4 w3 la vs w5 hlst ra w1 r0 hI hr hcond hcond';exact⟨is,la,vs,rfl,rfl,hlst,hI,Aga hcond⟩
theorem Akn(law:∀K,B3 K->∀is:List Int,is.length<=63->PM K is):WalkO qv GL (λz z=>True) (λz h=>Nl h) PySem.Challenge.rw_pb0609_01.row.toRowW BF.1 BF.2 (λf vs=>PySem.call f vs):=by
 intro w s₀ s₁ mg mb G Y fa o pm cd doc dV kV ho hd hcd hD hmg hg args vals as hpre hlay hrd hwl hlo;refine VX (Akm hpre hlay hrd hwl hlo) ?_;rintro is la vs rfl rfl hlst hI h63;clear hpre hlay hrd hwl hlo;refine AG Y ?_;clear Y;rintro K KX hF1 hF2;have F:B3 K:=⟨hF1,hF2⟩;refine Ground.open G ?_;intro T B D TE TW;clear G B D TE TW;refine HY (law K F is h63) ?_;rintro loc' σ' hlaw;have he:=Dflts.none hD Akg;subst he;have he:=Dflts.noKw (by rw[YJ]at hD;exact hD)
 subst he;refine C6 Akj ?_;rintro hco hgen hk;refine enter_call ?_;refine call_cellsN (by decide) ho (fd_plain hd) (Top.nolimit T) hcd (Akh pm cd doc _) (λx hx => ?_) Aki (λh₁ tk cells F1 N1 X1 => ?_) hco hgen hk
 ·rcases Cx.mp hx with rfl
  exact .inl SS
 let env:=envOfC BF.1.name BF.1.scope s₁.heap.objs.size fa cd
 let c:FC:={ prog:=PySem.Challenge.rw_pb0609_01.row.prog,w:=w,K:=K,p:=qv,loose:=looseW qv GL,mean:=ExcName.means s₀.heap,mg:=mg,mb:=mb,A:=callerA.deeper env,A₀:=callerA,base:=s₁.heap,outer:=[],h₀:=s₁.heap,L:=s₁.heap.objs.size,fenv:=env }
 have ok:AL c 43:=⟨below_caller s₁.heap,KX,T,rfl,rfl,hk,show callerA.depth+1+10*43<=900 by decide,show callerA.units+3+100*43<=9000 by decide,rfl⟩
 have fe:DD c env:=⟨⟨rfl,rfl,hk,rfl⟩,rfl,rfl⟩;refine Au (Yg BF.1.scope.names (s₁.heap.objs.size+1) [] Ho (λp hp=>by rcases hp with⟨⟩)) ?_;rintro ca1 ca2
 have hkeys:=Yh X1
 let l0:Am:={ Φ:=cells,σ:=[],ad:=λz z=>0 }
 have lr:LR c.prog c.w l0:=⟨by show(cells.map (·.1)).Nodup;rw[hkeys];exact ca1,λi j a b h=>(nomatch h),λi o h=>by simp[l0]at h⟩
 have st:St c (bindL env.kindOf [(Ab "script",CZ la)] λz=>none) l0 h₁:=⟨F1,N1,lr⟩;have er:Cd c (bindL env.kindOf [(Ab "script",CZ la)] λz=>none) env l0 []:=⟨λx v k hx=>by simp at hx,.inl rfl⟩
 have oth0:∀p∈cells,AS l0 p:=λp hp=>⟨hp,λi b q=>nomatch q⟩
 have cr:FT env l0:=by
  refine⟨λx a h => ?_,λx hx => ?_,λx y a h1 h2=>Yi ca1 h1 h2⟩
  ·refine Ah (SJ X1 h) ?_;rintro o h1 h2;exact⟨o,_,oth0 _ h1,h2⟩
  ·exact KN.mp (PD BF.1.scope.names (s₁.heap.objs.size+1) [] x (.inl hx))
 have hm0:(bindL env.kindOf [(Ab "script",CZ la)] λz=>none) (Ab "script")=some (.ref la):=by
  unfold bindL;rw[if_pos (show env.kindOf (Ab "script")=some .local from SS)];unfold bindL;exact if_pos rfl
 exact Akl (c:=c) F rfl ok fe rfl rfl st er cr hm0 hlst hI h63 hlaw λh3 tk3 keep=>⟨.inl ⟨_,.bool true,[],rfl,raisesW_false allW_false_nil,.bool true,by kernel_rfl,λz=>⟨.nil,λa h=>nomatch h⟩⟩,.of_keep keep,rfl,.of_eq hg⟩
end
section
inductive V where
 | w (x:W)
 | tup (xs:List W)
inductive AO where
 | lst (ts:List T)
 | dct (es:List (Int×T))
 | ins (C:Af) (as:List (Ac×W))
 | dead
noncomputable abbrev AH:=List AO
noncomputable abbrev An:=List (Ac×W)
noncomputable def PN:CO->Kd×List CV
 | .list vs=>(.lst,vs)
 | .dict es=>(.dct (es.map (·.1)),es.map (·.2))
 | .inst C as=>(.ins C (as.map (·.1)),as.map (·.2))
noncomputable def Ako:Kd->Nat->Bool
 | .lst,n=>small n
 | _,_=>true
mutual
inductive TR(X:Nat->Prop)(σ:CH):CV->T->Prop
 | none:TR X σ .none .none
 | bool (b:Bool):TR X σ (.bool b) (.bool b)
 | int (i:Int):TR X σ (.int i) (.int i)
 | str (x:Ac):TR X σ (.str x) (.str x)
 | tup {vs:List CV} {ts:List T}:small vs.length=true->AB X σ vs ts->TR X σ (.tup vs) (.node .tup ts)
 | obj {a:Nat} {o:CO} {ts:List T}:¬X a->σ[a]? = some o->Ako (PN o).1 (PN o).2.length=true->AB X σ (PN o).2 ts->TR X σ (.ref a) (.node (PN o).1 ts)
inductive AB(X:Nat->Prop)(σ:CH):List CV->List T->Prop
 | nil:AB X σ [] []
 | cons {v:CV} {t:T} {vs:List CV} {ts:List T}:TR X σ v t->AB X σ vs ts->AB X σ (v::vs) (t::ts)
end
section
variable {X X':Nat->Prop}{σ σ':CH}
theorem TR.mono(h:∀a o,σ[a]? = some o->¬X a->σ'[a]? = some o/\¬X' a){v:CV}{t:T}(r:TR X σ v t):TR X' σ' v t :=
 TR.rec (motive_1:=λv t z=>TR X' σ' v t) (motive_2:=λvs ts z=>AB X' σ' vs ts) .none .bool .int .str (λs z r=>.tup s r) (λn e s z r=>.obj (h _ _ e n).2 (h _ _ e n).1 s r) .nil (λz z a b=>.cons a b) r
theorem AB.mono(h:∀a o,σ[a]? = some o->¬X a->σ'[a]? = some o/\¬X' a){vs:List CV}{ts:List T}(r:AB X σ vs ts):AB X' σ' vs ts :=
 AB.rec (motive_1:=λv t z=>TR X' σ' v t) (motive_2:=λvs ts z=>AB X' σ' vs ts) .none .bool .int .str (λs z r=>.tup s r) (λn e s z r=>.obj (h _ _ e n).2 (h _ _ e n).1 s r) .nil (λz z a b=>.cons a b) r
theorem AB.nil_inv{vs:List CV}(r:AB X σ vs []):vs=[]:=by
 rcases r with _ | _
 rfl
theorem AB.cons_inv{vs:List CV}{t:T}{ts:List T}(r:AB X σ vs (t::ts)):∃v ws,vs=v::ws/\TR X σ v t/\AB X σ ws ts:=by
 rcases r with _ | ⟨a,r⟩
 exact⟨_,_,rfl,a,r⟩
theorem AB.ind{P:List CV->List T->Prop}(hn:P [] [])(hc:∀{v t vs ts},TR X σ v t->AB X σ vs ts->P vs ts->P (v::vs) (t::ts)){vs:List CV}{ts:List T}(h:AB X σ vs ts):P vs ts:=by
 induction ts generalizing vs with
 | nil=>obtain rfl:=h.nil_inv;exact hn
 | cons t ts ih=>(refine Br h.cons_inv ?_;rintro v ws rfl a r);exact hc a r (ih r)
theorem TR.int_inv{v:CV}{i:Int}(h:TR X σ v (.int i)):v=.int i:=by
 rcases h with _ | _ | _ | _ | _ | _
 rfl
theorem AB.len{vs:List CV}{ts:List T}(h:AB X σ vs ts):vs.length=ts.length:=by
 induction ts generalizing vs with
 | nil=>rcases h with⟨⟩;rfl
 | cons t ts ih=>cases h with | cons a r=>rw[BN,BN,ih r]
theorem AB.app{vs ws:List CV}{ts us:List T}(h:AB X σ vs ts)(g:AB X σ ws us):AB X σ (vs++ws) (ts++us):=by
 induction ts generalizing vs with
 | nil=>rcases h with⟨⟩;exact g
 | cons t ts ih=>cases h with | cons a r=>exact .cons a (ih r)
theorem AB.at{vs:List CV}{ts:List T}(h:AB X σ vs ts){i:Nat}{t:T}(e:ts[i]? = some t):∃v,vs[i]? = some v/\TR X σ v t:=by
 induction ts generalizing vs i with
 | nil=>(exfalso;injection e)
 | cons u us ih =>
  rcases h with _ | ⟨a,r⟩
  ·rcases i with _ | i
   ·injection e with za;subst za;exact⟨_,rfl,a⟩
   ·exact ih r e
theorem AB.drop{vs:List CV}{ts:List T}(h:AB X σ vs ts):∀n,AB X σ (vs.drop n) (ts.drop n):=by
 induction ts generalizing vs with
 | nil=>rcases h with⟨⟩;intro n;rcases n with⟨⟩<;>exact .nil
 | cons u us ih =>
  rcases h with _ | ⟨a,r⟩
  ·intro n;rcases n with _ | n
   ·exact .cons a r
   ·exact ih r n
theorem AB.take{vs:List CV}{ts:List T}(h:AB X σ vs ts):∀n,AB X σ (vs.take n) (ts.take n):=by
 induction ts generalizing vs with
 | nil=>rcases h with⟨⟩;intro n;rcases n with⟨⟩<;>exact .nil
 | cons u us ih =>
  rcases h with _ | ⟨a,r⟩
  ·intro n;rcases n with _ | n
   ·exact .nil
   ·exact .cons a (ih r n)
theorem AB.rev{vs:List CV}{ts:List T}(h:AB X σ vs ts):AB X σ vs.reverse ts.reverse:=by
 induction ts generalizing vs with
 | nil=>rcases h with⟨⟩;exact .nil
 | cons u us ih =>
  rcases h with _ | ⟨a,r⟩
  ·rw[Oz,Oz];exact(ih r).app (.cons a .nil)
theorem AB.set{vs:List CV}{ts:List T}(h:AB X σ vs ts){v:CV}{t:T}(q:TR X σ v t):∀n,AB X σ (vs.set n v) (ts.set n t):=by
 induction ts generalizing vs with
 | nil=>rcases h with⟨⟩;intro n;rcases n with⟨⟩<;>exact .nil
 | cons u us ih =>
  rcases h with _ | ⟨a,r⟩
  ·intro n;rcases n with _ | n
   ·exact .cons q r
   ·exact .cons a (ih r n)
theorem AB.ints(is:List Int):AB X σ (is.map .int) (is.map .int):=by
 induction is with
 | nil=>exact .nil
 | cons i is ih=>exact .cons (.int i) ih
set_option tactic.hygienic true in
theorem TR.list{ts:List T}(h:TR X σ (.ref a) (.node .lst ts)):¬X a/\∃vs,σ[a]? = some (.list vs)/\small vs.length=true/\AB X σ vs ts:=by
 generalize ek:T.node .lst ts=t at h
 rcases h with _ | _ | _ | _ | _ | ⟨n,e,s,r⟩
 ·rename_i o us;rcases o with vs | es | ⟨C,as⟩
  ·injection ek with za zb;rcases za with⟨⟩;subst zb;exact⟨n,vs,e,s,r⟩
  ·injection ek with za;exfalso;injection za
  ·injection ek with za;exfalso;injection za
theorem TR.ofList{vs:List CV}{ts:List T}(n:¬X a)(e:σ[a]? = some (.list vs))(s:small vs.length=true)(r:AB X σ vs ts):TR X σ (.ref a) (.node .lst ts):=.obj (o:=.list vs) n e s r
set_option tactic.hygienic true in
theorem TR.dict{ks:List Int}{ts:List T}(h:TR X σ (.ref a) (.node (.dct ks) ts)):¬X a/\∃es:List (Int×CV),σ[a]? = some (.dict es)/\ks=es.map (·.1)/\AB X σ (es.map (·.2)) ts:=by
 generalize ek:T.node (.dct ks) ts=t at h
 rcases h with _ | _ | _ | _ | _ | ⟨n,e,s,r⟩
 ·rename_i o us;rcases o with vs | es | ⟨C,as⟩
  ·injection ek with za;exfalso;injection za
  ·injection ek with za zb;injection za with za;subst za;subst zb;exact⟨n,es,e,rfl,r⟩
  ·injection ek with za;exfalso;injection za
theorem TR.ofDict{es:List (Int×CV)}{ts:List T}(n:¬X a)(e:σ[a]? = some (.dict es))(r:AB X σ (es.map (·.2)) ts):TR X σ (.ref a) (.node (.dct (es.map (·.1))) ts):=.obj (o:=.dict es) n e rfl r
set_option tactic.hygienic true in
theorem TR.inst{ts:List T}(h:TR X σ (.ref a) (.node (.ins C xs) ts)):¬X a/\∃as:List (Ac×CV),σ[a]? = some (.inst C as)/\xs=as.map (·.1)/\AB X σ (as.map (·.2)) ts:=by
 generalize ek:T.node (.ins C xs) ts=t at h
 rcases h with _ | _ | _ | _ | _ | ⟨n,e,s,r⟩
 ·rename_i o us;rcases o with vs | es | ⟨C,as⟩
  ·injection ek with za;exfalso;injection za
  ·injection ek with za;exfalso;injection za
  ·injection ek with za zb;injection za with za zb;subst za;subst zb;subst zb;exact⟨n,as,e,rfl,r⟩
theorem TR.ofInst{ts:List T}(n:¬X a)(e:σ[a]? = some (.inst C as))(r:AB X σ (as.map (·.2)) ts):TR X σ (.ref a) (.node (.ins C (as.map (·.1))) ts):=.obj (o:=.inst C as) n e rfl r
set_option tactic.hygienic true in
theorem TR.node_inv{k:Kd}{ts:List T}{v:CV}(h:TR X σ v (.node k ts)):(k=.tup/\∃vs,v=.tup vs/\small vs.length=true/\AB X σ vs ts)\/(k≠.tup/\∃a,v=.ref a):=by
 generalize ek:T.node k ts=t at h
 rcases h with _ | _ | _ | _ | ⟨s,r⟩ | ⟨n,e,s,r⟩
 case tup=>(injection ek with za zb;subst za;subst zb);exact .inl ⟨rfl,_,rfl,s,r⟩
 case obj =>
  rename_i a o us;refine .inr ⟨?_,_,rfl⟩;rintro rfl;rcases o with⟨⟩<;>(injection ek with za;exfalso;injection za)
 all_goals (exfalso;injection ek)
theorem TR.lst_ref{ts:List T}{v:CV}(h:TR X σ v (.node .lst ts)):∃a,v=.ref a:=by
 rcases h.node_inv with⟨q,_⟩ | ⟨_,q⟩
 ·exfalso;injection q
 ·exact q
theorem TR.tup_inv{ts:List T}{v:CV}(h:TR X σ v (.node .tup ts)):∃vs,v=.tup vs/\small vs.length=true/\AB X σ vs ts:=by
 rcases h.node_inv with⟨_,q⟩ | ⟨q,_⟩
 ·exact q
 ·exact absurd rfl q
theorem TR.dct_ref{ks:List Int}{ts:List T}{v:CV}(h:TR X σ v (.node (.dct ks) ts)):∃a,v=.ref a:=by
 rcases h.node_inv with⟨q,_⟩ | ⟨_,q⟩
 ·exfalso;injection q
 ·exact q
theorem TR.ins_ref{ts:List T}{v:CV}(h:TR X σ v (.node (.ins C xs) ts)):∃a,v=.ref a:=by
 rcases h.node_inv with⟨q,_⟩ | ⟨_,q⟩
 ·exfalso;injection q
 ·exact q
end
def Eb(ρ:List Nat)(α:AH)(a:Nat):Prop:=∃(k:Nat) (o:AO),ρ[k]? = some a/\α[k]? = some o/\o≠AO.dead
def Zx(X:Nat->Prop)(ρ:List Nat)(α:AH)(a:Nat):Prop:=X a\/Eb ρ α a
def WR(Z:Nat->Prop)(ρ:List Nat)(σ:CH)(v:CV):W->Prop
 | .own k=>∃a,ρ[k]? = some a/\v=.ref a
 | .fz t=>TR Z σ v t
 | .junk=>True
noncomputable def Ds(Z:Nat->Prop)(ρ:List Nat)(σ:CH):List CV->List W->Prop
 | [],[]=>True
 | v::vs,w::ws=>WR Z ρ σ v w/\Ds Z ρ σ vs ws
 | _,_=>False
def UR(Z:Nat->Prop)(ρ:List Nat)(σ:CH)(v:CV):V->Prop
 | .w x=>WR Z ρ σ v x
 | .tup xs=>∃vs,v=.tup vs/\small vs.length=true/\Ds Z ρ σ vs xs
noncomputable def BA(Z:Nat->Prop)(ρ:List Nat)(σ:CH):List CV->List V->Prop
 | [],[]=>True
 | v::vs,w::ws=>UR Z ρ σ v w/\BA Z ρ σ vs ws
 | _,_=>False
def LB(Z:Nat->Prop)(ρ:List Nat)(σ:CH)(a:Nat):AO->Prop
 | .lst ts=>∃vs,σ[a]? = some (.list vs)/\small vs.length=true/\AB Z σ vs ts
 | .dct es=>∃cs:List (Int×CV),σ[a]? = some (.dict cs)/\es.map (·.1)=cs.map (·.1)/\AB Z σ (cs.map (·.2)) (es.map (·.2))
 | .ins C as=>∃cs:List (Ac×CV),σ[a]? = some (.inst C cs)/\as.map (·.1)=cs.map (·.1)/\Ds Z ρ σ (cs.map (·.2)) (as.map (·.2))
 | .dead=>True
structure Av(X:Nat->Prop)(ρ:List Nat)(α:AH)(σ:CH):Prop where
 len:ρ.length=α.length
 nd:ρ.Nodup
 lt:∀a∈ρ,a<σ.length
 nx:∀a∈ρ,¬X a
 xlt:∀a,X a->a<σ.length
 ob:∀(k a:Nat) (o:AO),ρ[k]? = some a->α[k]? = some o->LB (Zx X ρ α) ρ σ a o
def AZ(Z:Nat->Prop)(ρ:List Nat)(σ:CH)(cloc:Ao)(loc:An):Prop:=∀x w,loc.lookup x=some w->w≠.junk->∃v,cloc.lookup x=some v/\WR Z ρ σ v w
structure AW(ρ:List Nat)(α:AH)(σ:CH)(ρ':List Nat)(α':AH)(σ':CH):Prop where
 len:σ.length<=σ'.length
 keep:∀a o,σ[a]? = some o->¬Eb ρ α a->σ'[a]? = some o
 pre:∀(k a:Nat),ρ[k]? = some a->ρ'[k]? = some a
 live:∀a,Eb ρ' α' a->Eb ρ α a\/σ.length<=a
section
variable {X X' Z:Nat->Prop}{ρ ρ' ρ2:List Nat}{α α' α2:AH}{σ σ' σ2:CH}
theorem AW.refl:AW ρ α σ ρ α σ:=⟨AM _,λz z h z=>h,λz z h=>h,λz h=>.inl h⟩
theorem HJ{o:CO}(h:σ[a]? = some o):a<σ.length:=(DT.mp h).1
theorem AW.trans(s:AW ρ α σ ρ' α' σ')(t:AW ρ' α' σ' ρ2 α2 σ2):AW ρ α σ ρ2 α2 σ2:=by
 refine⟨AE s.len t.len,λa o h n=>t.keep a o (s.keep a o h n) λq => ?_,λk a h=>t.pre k a (s.pre k a h),λa q => ?_⟩
 ·rcases s.live a q with q | q
  ·exact n q
  ·exact absurd (HJ h) (DJ.mpr q)
 ·rcases t.live a q with q | q
  ·exact s.live a q
  ·exact .inr (AE s.len q)
theorem AW.tr(s:AW ρ α σ ρ' α' σ'){a:Nat}{o:CO}(h:σ[a]? = some o)(n:¬Zx X ρ α a):σ'[a]? = some o/\¬Zx X ρ' α' a:=by
 refine⟨s.keep a o h λq=>n (.inr q),λq => ?_⟩;rcases q with q | q
 ·exact n (.inl q)
 ·rcases s.live a q with q | q
  ·exact n (.inr q)
  ·exact absurd (HJ h) (DJ.mpr q)
theorem WR.mono(h:∀a o,σ[a]? = some o->¬Z a->σ'[a]? = some o/\¬X' a)(p:∀(k a:Nat),ρ[k]? = some a->ρ'[k]? = some a){v:CV}{w:W}(q:WR Z ρ σ v w):WR X' ρ' σ' v w:=by
 rcases w with k | t | _
 ·refine Ah q ?_;clear q;rintro a e r;exact⟨a,p k a e,r⟩
 ·exact TR.mono h q
 ·trivial
theorem Ds.mono(h:∀a o,σ[a]? = some o->¬Z a->σ'[a]? = some o/\¬X' a)(p:∀(k a:Nat),ρ[k]? = some a->ρ'[k]? = some a):∀{vs:List CV} {ws:List W},Ds Z ρ σ vs ws->Ds X' ρ' σ' vs ws:=by
 intro z1
 induction z1 with
 | nil =>
  intro z4;rcases z4 with _ | ⟨z5,z6⟩
  ·intro z7;exact trivial
  ·intro q;exact q.elim
 | cons z2 z3 ih =>
  intro z8;rcases z8 with _ | ⟨z9,z10⟩
  ·intro q;exact q.elim
  ·intro q;exact⟨q.1.mono h p,ih q.2⟩
theorem UR.mono(h:∀a o,σ[a]? = some o->¬Z a->σ'[a]? = some o/\¬X' a)(p:∀(k a:Nat),ρ[k]? = some a->ρ'[k]? = some a){v:CV}{w:V}(q:UR Z ρ σ v w):UR X' ρ' σ' v w:=by
 rcases w with x | xs
 ·exact WR.mono (w:=x) h p q
 ·refine AG q ?_;clear q;rintro vs e s r;exact⟨vs,e,s,r.mono h p⟩
theorem BA.mono(h:∀a o,σ[a]? = some o->¬Z a->σ'[a]? = some o/\¬X' a)(p:∀(k a:Nat),ρ[k]? = some a->ρ'[k]? = some a):∀{vs:List CV} {ws:List V},BA Z ρ σ vs ws->BA X' ρ' σ' vs ws:=by
 intro z1
 induction z1 with
 | nil =>
  intro z4;rcases z4 with _ | ⟨z5,z6⟩
  ·intro z7;exact trivial
  ·intro q;exact q.elim
 | cons z2 z3 ih =>
  intro z8;rcases z8 with _ | ⟨z9,z10⟩
  ·intro q;exact q.elim
  ·intro q;exact⟨q.1.mono h p,ih q.2⟩
theorem UR.stp(s:AW ρ α σ ρ' α' σ'){v:CV}{w:V}(q:UR (Zx X ρ α) ρ σ v w):UR (Zx X ρ' α') ρ' σ' v w:=q.mono (λz z h n=>s.tr h n) s.pre
theorem BA.stp(s:AW ρ α σ ρ' α' σ'){v:List CV}{w:List V}(q:BA (Zx X ρ α) ρ σ v w):BA (Zx X ρ' α') ρ' σ' v w:=q.mono (λz z h n=>s.tr h n) s.pre
theorem WR.stp(s:AW ρ α σ ρ' α' σ'){v:CV}{w:W}(q:WR (Zx X ρ α) ρ σ v w):WR (Zx X ρ' α') ρ' σ' v w:=q.mono (λz z h n=>s.tr h n) s.pre
theorem AZ.stp(s:AW ρ α σ ρ' α' σ'){cloc:Ao}{loc:An}(q:AZ (Zx X ρ α) ρ σ cloc loc):AZ (Zx X ρ' α') ρ' σ' cloc loc:=λx w h n=>by
 refine Ah (q x w h n) ?_;rintro v e r;exact⟨v,e,r.stp s⟩
theorem LB.mono(h:∀a o,σ[a]? = some o->¬Z a->σ'[a]? = some o/\¬X' a)(p:∀(k a:Nat),ρ[k]? = some a->ρ'[k]? = some a){a:Nat}{o:AO}(e:o≠.dead->σ'[a]? = σ[a]?)(q:LB Z ρ σ a o):LB X' ρ' σ' a o:=by
 rcases o with ts | es | ⟨C,as⟩ | _
 ·refine AG q ?_;clear q;rintro vs h1 h2 h3;exact⟨vs,(e (λz=>nomatch z)).trans h1,h2,h3.mono h⟩
 ·refine AG q ?_;clear q;rintro cs h1 h2 h3;exact⟨cs,(e (λz=>nomatch z)).trans h1,h2,h3.mono h⟩
 ·refine AG q ?_;clear q;rintro cs h1 h2 h3;exact⟨cs,(e (λz=>nomatch z)).trans h1,h2,h3.mono h p⟩
 ·trivial
end
def Sm(E:CX->Prop)(ρ:List Nat)(α:AH)(σ:CH)(x:CM β)(P:β->List Nat->AH->CH->Prop):Prop:=match x σ with
 | .ok b σ'=>∃ρ' α',AW ρ α σ ρ' α' σ'/\P b ρ' α' σ'
 | .exc x σ'=>(∀a o,σ[a]? = some o->¬Eb ρ α a->σ'[a]? = some o)/\E x
 | .stuck=>False
section
variable {β γ:Type}{E:CX->Prop}{X Z:Nat->Prop}{ρ ρ':List Nat}{α α':AH}{σ σ':CH}
theorem Sm.ret{b:β}{P:β->List Nat->AH->CH->Prop}(h:P b ρ α σ):Sm E ρ α σ (ret b) P:=⟨ρ,α,AW.refl,h⟩
theorem Sm.ok{x:CM β}{b:β}{P:β->List Nat->AH->CH->Prop}(e:x σ=.ok b σ')(s:AW ρ α σ ρ' α' σ')(h:P b ρ' α' σ'):Sm E ρ α σ x P:=by
 unfold Sm;rw[e];exact⟨ρ',α',s,h⟩
theorem Sm.bnd{x:CM β}{f:β->CM γ}{P:β->List Nat->AH->CH->Prop}{Q:γ->List Nat->AH->CH->Prop}(h:Sm E ρ α σ x P)
  (k:∀b ρ' α' σ',AW ρ α σ ρ' α' σ'->P b ρ' α' σ'->Sm E ρ' α' σ' (f b) Q):Sm E ρ α σ (bnd x f) Q:=by
 unfold Sm at h ⊢;unfold Mine.Internal.bnd;rcases e:x σ with _ | ⟨b,σ1⟩ | ⟨y,σ1⟩
 ·rw[e]at h;exact h.elim
 ·rw[e]at h;refine Bg h ?_;clear h;rintro ρ1 α1 s hp;have z:=k b ρ1 α1 σ1 s hp;unfold Sm at z;dsimp only;rcases e2:f b σ1 with _ | ⟨c,σ2⟩ | ⟨y,σ2⟩
  ·rw[e2]at z;exact z.elim
  ·rw[e2]at z;refine Bg z ?_;clear z;rintro ρ2 α2 s2 hq;exact⟨ρ2,α2,s.trans s2,hq⟩
  ·rw[e2]at z;refine⟨λa o h n=>z.1 a o (s.keep a o h n) λq => ?_,z.2⟩;rcases s.live a q with q | q
   ·exact n q
   ·exact absurd (HJ h) (DJ.mpr q)
 ·rw[e]at h;exact h
theorem Sm.mono{x:CM β}{P Q:β->List Nat->AH->CH->Prop}(h:Sm E ρ α σ x P)(k:∀b ρ' α' σ',AW ρ α σ ρ' α' σ'->P b ρ' α' σ'->Q b ρ' α' σ'):Sm E ρ α σ x Q:=by
 unfold Sm at h ⊢
 split at h
 ·refine Bg h ?_;clear h;rintro ρ1 α1 s hp;exact⟨ρ1,α1,s,k _ _ _ _ s hp⟩
 ·exact h
 ·exact h
theorem Sm.eq{x y:CM β}{P:β->List Nat->AH->CH->Prop}(e:y σ=x σ)(h:Sm E ρ α σ x P):Sm E ρ α σ y P:=by
 unfold Sm at h ⊢;rw[e];exact h
set_option tactic.hygienic true in
theorem Sm.out{x:CM β}{P:β->List Nat->AH->CH->Prop}(h:Sm (λz=>False) ρ α σ x P):∃b σ' ρ' α',x σ=.ok b σ'/\AW ρ α σ ρ' α' σ'/\P b ρ' α' σ':=by
 unfold Sm at h
 split at h
 ·rename_i b σ' e;refine Bg h ?_;clear h;rintro ρ' α' s p;exact⟨b,σ',ρ',α',e,s,p⟩
 ·exact h.2.elim
 ·exact h.elim
end
end
variable {ao:AO}{α0:AH}
inductive Al where
 | a
 | b (x:Bool)
 | t (x:T)
 | l (xs:List T)
 | d (es:List (Int×T))
 | st (loc:An) (h:AH)
 | go
 | q (x:T)
inductive Rv where
 | v (x:V)
 | l (ts:List T)
 | d (es:List (Int×T))
variable {r:Rv}
noncomputable abbrev Kq(A:Type):=A->AH->List Al->Prop
noncomputable abbrev EA:=AF->An->Expr->AH->List Al->Kq Rv->Prop
noncomputable abbrev TA:=AF->An->Expr->AH->List Al->Kq Bool->Prop
inductive BZ where
 | next
 | ret (v:V)
noncomputable abbrev XA:=List AN->An->AH->List Al->(BZ->An->AH->List Al->Prop)->Prop
def Bv(x:Option A)(Q:A->Prop):Prop:=match x with
 | some r=>Q r
 | none=>False
def Ec(dec:Al->Option A)(x:Option A)(as:List Al)(Q:A->List Al->Prop):Prop:=match as with
 | []=>Bv x λr=>Q r []
 | an::r=>match dec an with
  | some y=>x=some y/\Q y r
  | none=>match an with
   | .a=>Bv x λy=>Q y r
   | an=>Bv x λy=>Q y (an::r)
noncomputable def LC:Al->Option Bool | .b x=>some x | _=>none
noncomputable def PO:Al->Option T | .t x=>some x | _=>none
noncomputable def PT:Al->Option (List T) | .l x=>some x | _=>none
noncomputable def Akp:Al->Option (List (Int×T)) | .d x=>some x | _=>none
def Cm(b:Bool)(P:Prop):Prop:=match b with
 | true=>P
 | false=>False
def Ji(g:Bool)(as:List Al)(Q:List Al->Prop):Prop:=Ec LC (some g) as λb as=>Cm b (Q as)
noncomputable abbrev Vf(t:T):V:=.w (.fz t)
def YL(r:Rv)(as:List Al)(Q:Rv->List Al->Prop):Prop:=match as with
 | .q y::as=>r=.v (Vf y)/\Q (.v (Vf y)) as
 | as=>Q r as
noncomputable def frz:Rv->V
 | .v x=>x
 | .l ts=>Vf (.node .lst ts)
 | .d es=>Vf (.node (.dct (es.map (·.1))) (es.map (·.2)))
noncomputable def LD(α:AH):W->Option (T×AH)
 | .fz t=>some (t,α)
 | .own k=>match α[k]? with
  | some (.lst ts)=>some (.node .lst ts,α.set k .dead)
  | some (.dct es)=>some (.node (.dct (es.map (·.1))) (es.map (·.2)),α.set k .dead)
  | _=>none
 | .junk=>none
noncomputable def LF(α:AH):List W->Option (List T×AH)
 | []=>some ([],α)
 | w::r=>match LD α w with
  | some (t,α')=>match LF α' r with
   | some (ts,α2)=>some (t::ts,α2)
   | none=>none
  | none=>none
theorem Akq:∀(α:AH) (w:W) (r:List W),LF α (w::r)=match LD α w with | some (t,α')=>(match LF α' r with | some (ts,α2)=>some (t::ts,α2) | none=>none) | none=>none:=by intros;rfl
noncomputable def Jj(α:AH):V->Option (T×AH)
 | .w (.own k)=>match α[k]? with
  | some (.ins C as)=>match LF (α.set k .dead) (as.map (·.2))with
   | some (ts,α')=>some (.node (.ins C (as.map (·.1))) ts,α')
   | none=>none
  | _=>LD α (.own k)
 | .w x=>LD α x
 | .tup ws=>none
noncomputable def Gu(α:AH):List V->Option (List T×AH)
 | []=>some ([],α)
 | v::r=>match Jj α v with
  | some (t,α')=>match Gu α' r with
   | some (ts,α2)=>some (t::ts,α2)
   | none=>none
  | none=>none
theorem Akr:∀(α:AH) (v:V) (r:List V),Gu α (v::r)=match Jj α v with | some (t,α')=>(match Gu α' r with | some (ts,α2)=>some (t::ts,α2) | none=>none) | none=>none:=by intros;rfl
noncomputable def DE(α:AH):V->Option (List T)
 | .w (.own k)=>match α[k]? with
  | some (.lst ts)=>some ts
  | _=>none
 | .w (.fz (.node .lst ts))=>some ts
 | _=>none
noncomputable def HK(α:AH):V->Option T
 | .w (.own k)=>match α[k]? with
  | some (.lst ts)=>some (.node .lst ts)
  | some (.dct es)=>some (.node (.dct (es.map (·.1))) (es.map (·.2)))
  | _=>none
 | .w (.fz t)=>some t
 | _=>none
noncomputable def LG(α:AH):V->Option (List (Int×T))
 | .w (.own k)=>match α[k]? with
  | some (.dct es)=>some es
  | _=>none
 | .w (.fz (.node (.dct ks) ts))=>some (ks.zip ts)
 | _=>none
noncomputable def SU:T->Option (List T)
 | .node .tup ts=>some ts
 | _=>none
noncomputable def FU:V->Option (List T)
 | .w (.fz t)=>SU t
 | _=>none
noncomputable def SV:V->Option T
 | .w (.fz t)=>some t
 | _=>none
noncomputable def YM:T->Option Int
 | .int i=>some i
 | _=>none
abbrev Gv(vs:List V)(P:V->Prop):Prop:=match FJ vs with
 | some v=>P v
 | none=>False
noncomputable def LH:List V->Option (List W)
 | []=>some []
 | .w x::r=>match LH r with
  | some ws=>some (x::ws)
  | none=>none
 | _=>none
noncomputable def G0:AP:={ top:=Gh,bins:=EU,attrs:=KW,meths:=HZ,inits:=GK,clsfn:=KY,excs:=HI,defs:=λz=>none,fn:=λz=>none }
noncomputable def YN:Const->Option T
 | .none=>some .none
 | .bool b=>some (.bool b)
 | .int i=>some (.int i)
 | .str x=>some (.str x)
 | _=>none
noncomputable def SW(ks:AF)(loc:An)(x:Ac):Option W:=match Dg x with
 | true=>match ks.lookup x with
  | some .globalImplicit=>match Gh.lookup x with
   | some (.int i)=>some (.fz (.int i))
   | _=>none
  | some .local | some .cell | some .free=>match loc.lookup x with
   | some .junk=>none
   | o=>o
  | _=>none
 | false=>none
noncomputable def SX:V->Option Bool
 | .w (.fz .none)=>some false
 | .w (.fz (.bool b))=>some b
 | .w (.fz (.int i))=>some (i != 0)
 | _=>none
noncomputable def Kc(α:AH)(v:V):Option Bool:=match SX v with
 | some b=>some b
 | none=>ob (DE α v) λts=>some !ts.isEmpty
noncomputable def Cs:V->Option Int
 | .w (.fz (.int i))=>some i
 | _=>none
noncomputable def YO(op:HV)(x y:Int):Option (Bool×Int):=match op with
 | .Add=>some (true,x+y)
 | .Sub=>some (true,x-y)
 | .Mult=>some (decide (x.natAbs<9223372036854775808),x*y)
 | .FloorDiv=>some (decide (y≠0/\y.natAbs<1073741824),x.fdiv y)
 | .Mod=>some (decide (y≠0),x.fmod y)
 | _=>none
noncomputable def SY:HV->Option Unit
 | .Add=>some ()
 | _=>none
noncomputable def Nn:V->Option Ac
 | .w (.fz (.str x))=>some x
 | _=>none
noncomputable def Np(op:HV)(α:AH)(a b:V):Option (Bool×Rv):=match op with
 | .Add=>ob (DE α a) λxs=>ob (DE α b) λys=>some (small (xs.length+ys.length),.l (xs++ys))
 | .Mult=>ob (DE α a) λxs=>ob (Cs b) λn=>some (decide (xs.length*n.toNat<=256/\-9223372036854775808<=n/\n<9223372036854775808) && small (D9 n.toNat xs).flatten.length,.l (D9 n.toNat xs).flatten)
 | _=>none
noncomputable def S0(op:HV)(α:AH)(a b:V):Option (Bool×Rv):=match Cs a with
 | some x=>(match Cs b with
  | some y=>ob (YO op x y) λq=>some (q.1,.v (Vf (.int q.2)))
  | none=>Np op α a b)
 | none=>match Nn a with
  | some x=>(match Nn b with
   | some y=>ob (SY op) λz=>some (small (x.length+y.length),.v (Vf (.str (x++y))))
   | none=>Np op α a b)
  | none=>match FU a with
   | some xs=>(match FU b with
    | some ys=>ob (SY op) λz=>some (small (xs.length+ys.length),.v (Vf (.node .tup (xs++ys))))
    | none=>Np op α a b)
   | none=>Np op α a b
noncomputable def EC(f:T->T->Option Bool):List T->List T->Option Bool
 | [],[]=>some true
 | [],_::_=>some false
 | _::_,[]=>some false
 | x::xs,y::ys=>match f x y,EC f xs ys with
  | some a,some b=>some (a && b)
  | _,_=>none
noncomputable def Cz(es:List (Int×T))(k:Int):Option T:=match es with
 | []=>none
 | (j,v)::r=>if j=k then some v else Cz r k
theorem Aks:∀(k j:Int) (v:T) (r:List (Int×T)),Cz ((j,v)::r) k=if j=k then some v else Cz r k:=by intros;rfl
noncomputable def Ih(f:T->T->Option Bool)(fs:List (Int×T)):List (Int×T)->Option Bool
 | []=>some true
 | (k,v)::r=>match Cz fs k with
  | none=>some false
  | some y=>match f v y,Ih f fs r with
   | some a,some b=>some (a && b)
   | _,_=>none
theorem Akt:∀(f:T->T->Option Bool) (fs:List (Int×T)) (j:Int) (v:T) (r:List (Int×T)),Ih f fs ((j,v)::r)=match Cz fs j with | none=>some false | some y=>match f v y,Ih f fs r with | some a,some b=>some (a && b) | x,x_1=>none:=by intros;rfl
noncomputable def Bw:Nat->T->T->Option Bool
 | 0,_,_=>none
 | n+1,a,b=>match a,b with
  | .none,.none=>some true
  | .bool x,.bool y=>some (x == y)
  | .int x,.int y=>some (x == y)
  | .str x,.str y=>some (x == y)
  | .node .tup xs,.node .tup ys=>EC (Bw n) xs ys
  | .node .lst xs,.node .lst ys=>if xs.length=ys.length then EC (Bw n) xs ys else some false
  | .node (.dct ks) xs,.node (.dct js) ys=>if xs.length=ys.length then Ih (Bw n) (js.zip ys) (ks.zip xs)else some false
  | _,_=>none
noncomputable def Ed(f:T->T->Option Bool)(x:T):List T->Option Bool
 | []=>some false
 | y::ys=>match f y x,Ed f x ys with
  | some a,some b=>some (a || b)
  | _,_=>none
theorem YQ:∀(f:T->T->Option Bool) (x y:T) (ys:List T),Ed f x (y::ys)=match f y x,Ed f x ys with | some a,some b=>some (a || b) | x,x_1=>none:=by intros;rfl
noncomputable def Ke(α:AH)(t:T)(b:V):Option Bool:=match FU b with
 | some ys=>Ed (Bw 20) t ys
 | none=>match DE α b with
  | some ys=>Ed (Bw 20) t ys
  | none=>ob (LG α b) λes=>ob (YM t) λk=>some (Cz es k).isSome
noncomputable def LI:V->Option Bool
 | .w (.fz .none)=>some true
 | .w (.fz _)=>some false
 | .w (.own _)=>some false
 | _=>none
noncomputable def Nq(α:AH)(a b:V):Option Bool:=ob (HK α a) λx=>ob (HK α b) λy=>Bw 20 x y
noncomputable def Nr:V->Option Unit
 | .w (.fz .none)=>some ()
 | _=>none
noncomputable def Kf(op:Fz)(α:AH)(a b:V):Option Bool:=match op with
 | .Eq=>Nq α a b
 | .NotEq=>(Nq α a b).map (!·)
 | .Lt=>ob (Cs a) λx=>ob (Cs b) λy=>some (decide (x<y))
 | .LtE=>ob (Cs a) λx=>ob (Cs b) λy=>some (decide (x<=y))
 | .Gt=>ob (Cs a) λx=>ob (Cs b) λy=>some (decide (y<x))
 | .GtE=>ob (Cs a) λx=>ob (Cs b) λy=>some (decide (y<=x))
 | .Is=>ob (Nr b) λz=>LI a
 | .IsNot=>ob (Nr b) λz=>(LI a).map (!·)
 | .In=>ob (HK α a) λt=>Ke α t b
 | .NotIn=>ob (HK α a) λt=>(Ke α t b).map (!·)
noncomputable def E4(ts:List T)(k:Int):Option T:=if R0 k=true then(Ou k ts.length).bind (ts[·]?)else none
noncomputable def PU(α:AH)(o i:V):Option T:=ob (Cs i) λk=>match FU o with
 | some ts=>E4 ts k
 | none=>match DE α o with
  | some ts=>E4 ts k
  | none=>ob (LG α o) λes=>Cz es k
noncomputable def S1(α:AH)(v:V)(x:Ac):Option W:=match v with
 | .w (.own k)=>match α[k]? with
  | some (.ins C as)=>match FL G0 C x with
   | true=>as.lookup x
   | false=>none
  | _=>none
 | .w (.fz (.node (.ins C xs) ts))=>match FL G0 C x with
  | true=>((xs.zip ts).lookup x).map .fz
  | false=>none
 | _=>none
noncomputable def S3:V->Option (Option Int)
 | .w (.fz .none)=>some none
 | .w (.fz (.int i))=>some (some i)
 | _=>none
noncomputable def Nt(ts:List T)(lo hi:Option Int):List T:=(ts.drop (Ow lo ts.length)).take (kms_hi hi ts.length-Ow lo ts.length)
noncomputable def S4(α:AH)(o a b:V):Option (List T):=ob (DE α o) λts=>ob (S3 a) λlo=>ob (S3 b) λhi=>some (Nt ts lo hi)
noncomputable def Ii:List T->Option (List Int)
 | []=>some []
 | .int i::r=>match Ii r with
  | some is=>some (i::is)
  | none=>none
 | _=>none
noncomputable def Kg:List V->Option (List Int)
 | []=>some []
 | v::r=>match Cs v,Kg r with
  | some i,some is=>some (i::is)
  | _,_=>none
noncomputable def G2(vs:List V):Option (List T):=match Kg vs with
 | some is=>(match FP is with
  | some (a,c,n)=>some ((DV a c n).map .int)
  | none=>none)
 | none=>none
noncomputable def S5(α:AH)(v:V):Option (List Int):=match DE α v with
 | some ts=>Ii ts
 | none=>match LG α v with
  | some es=>some (es.map λp=>p.1)
  | none=>none
noncomputable def S6(α:AH)(v:V):Option (List T):=match S5 α v with
 | some is=>if is.length<64 then some ((EX is).map .int)else none
 | none=>none
noncomputable def FW:List T->Option (List Nat)
 | []=>some []
 | .int i::r=>if 0<=i/\i<7 then(match FW r with
  | some l=>some (i.toNat::l)
  | none=>none)else none
 | _=>none
noncomputable def S7(α:AH)(v:V):Option (List T):=match DE α v with
 | some ts=>match FW ts with
  | some l=>some ((HC l).map λ(n:Nat)=>T.int (n:Int))
  | none=>none
 | none=>none
noncomputable def Nu:T->Option (Int×T)
 | .node .tup [.int k,v]=>some (k,v)
 | _=>none
noncomputable def Fn:List T->Option (List (Int×T))
 | []=>some []
 | t::r=>match Nu t with
  | some p=>(match Fn r with
   | some ps=>some (p::ps)
   | none=>none)
  | none=>none
noncomputable def Cn(es:List (Int×T))(k:Int)(v:T):List (Int×T):=if(es.any λp=>decide (p.1=k))=true then es.map (λp=>if p.1=k then(p.1,v)else p)else es++[(k,v)]
noncomputable def S8(α:AH)(v:V):Option (List (Int×T)):=match DE α v with
 | some ts=>match Fn ts with
  | some ps=>if ps.length<=1000 then some (ps.foldl (λes p=>Cn es p.1 p.2) [])else none
  | none=>none
 | none=>none
noncomputable def HL(f:T->T->Option Bool)(v:T):List T->Nat
 | []=>0
 | y::r=>if f y v=some true then 0 else HL f v r+1
theorem Aku:∀(f:T->T->Option Bool) (v y:T) (ys:List T),HL f v (y::ys)=if f y v=some true then 0 else HL f v ys+1:=by intros;rfl
noncomputable def Kh(ts:List T)(t:T):Option T:=if Ed (Bw 20) t ts=some true then some (.int (HL (Bw 20) t ts))else none
noncomputable def Gw(ts:List T):List T:=ts.zipIdx.map λp=>.node .tup [.int (p.2:Int),p.1]
structure Hs where
 fn:Af->List V->AH->List Al->Kq V->Prop
 cls:Af->List V->AH->List Al->Kq V->Prop
 quiet:Bool
def B0(f:EA)(ks:AF)(loc:An)(e:Expr)(α:AH)(as:List Al)(Q:Kq V):Prop:=f ks loc e α as λr α as=>Q (frz r) α as
noncomputable def Ee(f:EA)(ks:AF)(loc:An):List Expr->AH->List Al->Kq (List V)->Prop
 | [],α,as,Q=>Q [] α as
 | e::r,α,as,Q=>match Dh e with
  | true=>False
  | false=>B0 f ks loc e α as λv α as=>Ee f ks loc r α as λvs α as=>Q (v::vs) α as
theorem Akv:∀(f:EA) (ks:AF) (loc:An) (x:AH) (x_1:List Al) (x_2:Kq (List V)) (e:Expr) (r:List Expr),Ee f ks loc (e::r) x x_1 x_2=match Dh e with | true=>False | false=>B0 f ks loc e x x_1 λ(v:V) (α:AH) (as:List Al)=>Ee f ks loc r α as λ(vs:List V) (α:AH) (as:List Al)=>x_2 (v::vs) α as:=by intros;rfl
abbrev YR(α:AH)(vs:List V)(as:List Al)(Q:Rv->List Al->Prop):Prop:=Gv vs λv=>match FU v with
  | some ts=>Q (.v (Vf (.int ts.length))) as
  | none=>Bv (DE α v) λts=>Q (.v (Vf (.int ts.length))) as
abbrev YS(α:AH)(vs:List V)(as:List Al)(Q:Rv->List Al->Prop):Prop:=Gv vs λv=>match DE α v with
   | some ts=>Q (.l ts) as
   | none=>Bv (LG α v) λes=>Ji (small es.length) as λas=>Q (.l (es.map λp=>.int p.1)) as
abbrev YT(α:AH)(vs:List V)(as:List Al)(Q:Rv->List Al->Prop):Prop:=Gv vs λv=>match FU v with
  | some ts=>Q (.v (Vf (.node .tup ts))) as
  | none=>Bv (DE α v) λts=>Q (.v (Vf (.node .tup ts))) as
abbrev YU(α:AH)(vs:List V)(as:List Al)(Q:Rv->List Al->Prop):Prop:=Gv vs λv=>Ec PT (S6 α v) as λts as=>Q (.l ts) as
abbrev YV(α:AH)(vs:List V)(as:List Al)(Q:Rv->List Al->Prop):Prop:=match vs with
  | [a,b]=>Bv (Cs a) λx=>Bv (Cs b) λy=>Q (.v (Vf (.int (if y<x then y else x)))) as
  | _=>False
abbrev YW(α:AH)(vs:List V)(as:List Al)(Q:Rv->List Al->Prop):Prop:=Gv vs λa=>Bv (Cs a) λx=>Ji (decide (x.natAbs<9223372036854775808)) as λas=>Q (.v (Vf (.str (Ab (toString x))))) as
def S9(x:Ac)(α:AH)(vs:List V)(as:List Al)(Q:Rv->List Al->Prop):Prop :=
 if x=Ab "len" then YR α vs as Q
 else if x=Ab "list" then YS α vs as Q
 else if x=Ab "tuple" then YT α vs as Q
 else if x=Ab "sorted" then YU α vs as Q
 else if x=Ab "min" then YV α vs as Q
 else if x=Ab "str" then YW α vs as Q
 else False
def YX(H:Hs)(f:EA)(ks:AF)(loc:An)(x:Ac)(es:List Expr)(α:AH)(as:List Al)(Q:Kq Rv):Prop:=Cm (E2 ks x && noStar es) (match Gh.lookup x with
 | some (.ref a)=>Ee f ks loc es α as λvs α as=>(match GK.lookup a with
  | some _=>H.cls a vs α as λv α as=>Q (.v v) α as
  | none=>H.fn a vs α as λv α as=>Q (.v v) α as)
 | some _=>False
 | none=>match (EU.lookup x).isSome with
  | true=>Ee f ks loc es α as λvs α as=>S9 x α vs as λr as=>Q r α as
  | false=>False)
noncomputable def PW(ks:AF)(x:Ac)(es:List Expr):Option J0:=J1 G0 ks x es
def PX(f:EA)(ks:AF)(loc:An)(k:J0)(α:AH)(as:List Al)(Q:Kq Rv):Prop:=match k with
 | .rng rs=>Ee f ks loc rs α as λvs α as=>Ec PT (G2 vs) as λts as=>Q (.l ts) α as
 | .sset e=>B0 f ks loc e α as λv α as=>Ec PT (S7 α v) as λts as=>Q (.l ts) α as
 | .dct e=>B0 f ks loc e α as λv α as=>Ec Akp (S8 α v) as λes as=>Q (.d es) α as
abbrev Jk(o:Option AO)(F:List T->Prop):Prop:=match o with
 | some (.lst ts)=>F ts
 | _=>False
abbrev PY(vs:List V)(P:Prop):Prop:=match vs with
 | []=>P
 | _=>False
abbrev YY(k:Nat)(α:AH)(as:List Al)(Q:Kq Rv)(v:V):Prop:=Bv (Jj α v) λp=>Jk p.2[k]? λts=>Ji (small (ts.length+1)) as λas=>Q (.v (Vf .none)) (p.2.set k (.lst (ts++[p.1]))) as
abbrev Ta(k:Nat)(α:AH)(as:List Al)(Q:Kq Rv)(ts us:List T):Prop:=Ji (small (ts.length+us.length)) as λas=>Q (.v (Vf .none)) (α.set k (.lst (ts++us))) as
abbrev YZ(k:Nat)(α:AH)(as:List Al)(Q:Kq Rv)(v:V):Prop:=match v with
 | .w (.own j)=>Jk α[k]? λts=>Jk α[j]? λus=>Cm (!EP k j) (Ta k α as Q ts us)
 | .w (.fz (.node .lst us))=>Jk α[k]? λts=>Ta k α as Q ts us
 | _=>False
abbrev Y0(k:Nat)(α:AH)(as:List Al)(Q:Kq Rv):Prop:=Jk α[k]? λts=>Ec PO ts.getLast? as λt as=>Q (.v (Vf t)) (α.set k (.lst ts.dropLast)) as
abbrev Y1(k:Nat)(α:AH)(as:List Al)(Q:Kq Rv):Prop:=Jk α[k]? λts=>Q (.v (Vf .none)) (α.set k (.lst ts.reverse)) as
abbrev Tb(α:AH)(as:List Al)(Q:Kq Rv)(ts:List T)(v:V):Prop:=Bv (HK α v) λt=>Ec PO (Kh ts t) as λr as=>Q (.v (Vf r)) α as
def Tc(k:Nat)(x:Ac)(vs:List V)(α:AH)(as:List Al)(Q:Kq Rv):Prop :=
 if x=Ab "append" then Gv vs (YY k α as Q)
 else if x=Ab "extend" then Gv vs (YZ k α as Q)
 else if x=Ab "pop" then PY vs (Y0 k α as Q)
 else if x=Ab "reverse" then PY vs (Y1 k α as Q)
 else if x=Ab "index" then Gv vs λv=>Jk α[k]? λts=>Tb α as Q ts v
 else False
abbrev Td(H:Hs)(f:EA)(ks:AF)(loc:An)(ov:V)(es:List Expr)(α:AH)(as:List Al)(Q:Kq Rv)(g:Af):Prop:=Ee f ks loc es α as λvs α as=>H.fn g (ov::vs) α as λv α as=>Q (.v v) α as
abbrev Y2(H:Hs)(f:EA)(ks:AF)(loc:An)(k:Nat)(x:Ac)(es:List Expr)(α:AH)(as:List Al)(Q:Kq Rv)(o:Option AO):Prop:=match o with
 | some (.ins C cs)=>Bv ((HZ.lookup C).bind (·.lookup x)) λg=>Cm (cs.lookup x).isNone (Td H f ks loc (.w (.own k)) es α as Q g)
 | some (.lst _)=>Cm (Lh x) (Ee f ks loc es α as λvs α as=>Tc k x vs α as Q)
 | _=>False
def Te(H:Hs)(f:EA)(ks:AF)(loc:An)(ov:V)(x:Ac)(es:List Expr)(α:AH)(as:List Al)(Q:Kq Rv):Prop:=match ov with
 | .w (.own k)=>Y2 H f ks loc k x es α as Q α[k]?
 | .w (.fz (.node (.ins C xs) ts))=>Bv ((HZ.lookup C).bind (·.lookup x)) λg=>Cm (!xs.contains x) (Td H f ks loc ov es α as Q g)
 | .w (.fz (.node .lst ts))=>Cm (decide (x=Ab "index")) (Ee f ks loc es α as λvs α as=>Gv vs λv=>Tb α as Q ts v)
 | _=>False
def Tf(H:Hs)(f:EA)(ks:AF)(loc:An)(fe:Expr)(es:List Expr)(pos:Pos)(α:AH)(as:List Al)(Q:Kq Rv):Prop :=
 let meth:=λ(o:Expr) (x:Ac) (apos:Pos)=>Cm (Fg es apos pos && IX o) (B0 f ks loc o α as λov α as=>Te H f ks loc ov x es α as Q)
 match Cc fe with
 | some q=>(match PW ks q.1 es with
  | some k=>PX f ks loc k α as Q
  | none=>YX H f ks loc q.1 es α as Q)
 | none=>match Fe fe with
  | some q=>(match Cc q.1 with
   | some w=>(match H9 G0 ks w.1 q.2.1 with
    | some g=>Cm (Fg es q.2.2 pos) (Ee f ks loc es α as λvs α as=>H.fn g vs α as λv α as=>Q (.v v) α as)
    | none=>meth q.1 q.2.1 q.2.2)
   | none=>meth q.1 q.2.1 q.2.2)
  | none=>False
noncomputable def Tg:V->Option (List T)
 | .w (.fz (.node .lst ts))=>some ts
 | .w (.fz (.node .tup ts))=>some ts
 | _=>none
def PZ(f:EA)(ks:AF)(loc:An)(target e:Expr)(α:AH)(as:List Al)(Q:Kq (List T)):Prop :=
 let plain:=B0 f ks loc e α as λv α as=>Bv (Tg v) λts=>Q ts α as
 match JP e with
 | some q=>if q.1=Ab "range" then Cm (C1 G0 ks (Ab "range") (.type "range") && noStar q.2.2.1) (Ee f ks loc q.2.2.1 α as λvs α as=>Ec PT (G2 vs) as λts as=>Q ts α as)
  else if q.1=Ab "enumerate" then(match FJ q.2.2.1 with
   | some a=>Cm (C1 G0 ks (Ab "enumerate") (.type "enumerate") && !Dh a && Py target) (B0 f ks loc a α as λv α as=>match v with
    | .w (.fz (.node .lst ts))=>Q (Gw ts) α as
    | _=>False)
   | none=>False)
  else plain
 | none=>plain
noncomputable def P0:List Expr->List T->Option An
 | [],[]=>some []
 | e::es,v::vs=>ob (Cc e) λq=>ob (P0 es vs) λr=>some ((q.1,.fz v)::r)
 | [],_::_=>none
 | _::_,[]=>none
noncomputable def P1(e:Expr)(t:T):Option An:=match Cc e with
 | some q=>some [(q.1,.fz t)]
 | none=>ob (FI e) λq=>ob (SU t) λvs=>P0 q.1 vs
noncomputable def Akw(ks':AF)(loc:An):An:=loc.filter λp=>ks'.lookup p.1 == some Vx || ks'.lookup p.1 == some ES
noncomputable def Th(names:AF)(vars:An):Bool:=vars.all (λp=>names.lookup p.1 == some NameKind.local) && decide ((vars.map (·.1)).Nodup)
noncomputable def Y3(loc:An)(x:Ac):Bool:=match loc.lookup x with
 | none=>false
 | some .junk=>false
 | some _=>true
noncomputable def Ti(ks:AF)(loc:An)(scope:Scope):Bool:=(scope.kind == .function) && scope.names.all λp=>(p.2 != .cell) && (p.2 != .local || scope.names.lookup p.1 == some .local) && (p.2 != .free || (Y3 loc p.1 && (ks.lookup p.1 == some .cell || ks.lookup p.1 == some .free)))
def Y4(g:TA)(ks:AF)(loc:An)(es:List Expr)(α:AH)(as:List Al)(Q:Kq Bool):Prop:=match es with
 | []=>Q true α as
 | [e]=>g ks loc e α as Q
 | _=>False
def Ki(f:EA)(g:TA)(names:AF)(base:An)(target elt:Expr)(ifs:List Expr)(α:AH)(t:T)(as:List Al)(K:Option T->Prop):Prop:=match P1 target t with
 | some vars=>Cm (Th names vars) (Y4 g names (vars++base) ifs α as λq α1 as=>match q with
  | true=>B0 f names (vars++base) elt α1 as λv α2 z=>(match v with
   | .w (.fz y)=>α2=α/\K (some y)
   | _=>False)
  | false=>α1=α/\K none)
 | none=>False
noncomputable def CB(B:T->List Al->(Option T->Prop)->Prop):List T->List T->Prop
 | [],rs=>rs=[]
 | t::ts,rs=>∃as o,B t as (λo'=>o'=o)/\match o with
  | some y=>∃rs',rs=y::rs'/\CB B ts rs'
  | none=>CB B ts rs
noncomputable def Akx:List Al->Option (List T×List Al)
 | .l rs::as=>some (rs,as)
 | _=>none
def Tj(H:Hs)(f:EA)(g:TA)(ks:AF)(loc:An)(elt:Expr)(gens:List Hi)(scope:Scope)(α:AH)(as:List Al)(Q:Kq Rv):Prop:=Bv (MD gens) λq=>Cm (Ti ks loc scope && HF q.2.1 && H.quiet) (PZ f ks loc q.1 q.2.1 α as λts α as=>Bv (Akx as) λp=>CB (Ki f g (Dk ks scope.names) (Akw (Dk ks scope.names) loc) q.1 elt q.2.2 α) ts p.1/\Q (.l p.1) α p.2)
noncomputable def P2(f:EA)(ks:AF)(loc:An)(op:BoolOp):List Expr->AH->List Al->Kq V->Prop
 | [],_,_,_=>False
 | e::r,α,as,Q=>match r with
  | []=>B0 f ks loc e α as Q
  | _=>B0 f ks loc e α as λv α as=>Bv (Kc α v) λt=>match op,t with
   | .And,false=>Q v α as
   | .Or,true=>Q v α as
   | _,_=>P2 f ks loc op r α as Q
noncomputable def LJ(f:EA)(ks:AF)(loc:An)(a:V):List Fz->List Expr->AH->List Al->Kq Bool->Prop
 | [op],[e],α,as,Q=>B0 f ks loc e α as λb α as=>Ec LC (Kf op α a b) as λt as=>Q t α as
 | op::ops,e::es,α,as,Q=>B0 f ks loc e α as λb α as=>Ec LC (Kf op α a b) as λt as=>match t with
  | true=>LJ f ks loc b ops es α as Q
  | false=>Q false α as
 | _,_,_,_,_=>False
noncomputable def Nv(g:TA)(ks:AF)(loc:An)(op:BoolOp):List Expr->AH->List Al->Kq Bool->Prop
 | [],α,as,Q=>Q (op == .And) α as
 | e::r,α,as,Q=>g ks loc e α as λt α as=>match op,t with
  | .And,false=>Q false α as
  | .Or,true=>Q true α as
  | _,_=>Nv g ks loc op r α as Q
theorem Aky:∀(g:TA) (ks:AF) (loc:An) (op:BoolOp) (x:AH) (x_1:List Al) (x_2:Kq Bool) (e:Expr) (r:List Expr),Nv g ks loc op (e::r) x x_1 x_2=g ks loc e x x_1 λ(t:Bool) (α:AH) (as:List Al)=>match op,t with | BoolOp.And,false=>x_2 false α as | BoolOp.Or,true=>x_2 true α as | x,x_3=>Nv g ks loc op r α as x_2:=by intros;rfl
def Nw(f:EA)(ks:AF)(loc:An)(o:Option Expr)(α:AH)(as:List Al)(Q:Kq V):Prop:=match o with
 | none=>Q (Vf .none) α as
 | some e=>B0 f ks loc e α as Q
def Tn(f:EA)(ks:AF)(loc:An)(o i:Expr)(α:AH)(as:List Al)(Q:Kq Rv):Prop:=match K7 i with
 | some q=>(match q.2.2.1 with
  | none=>B0 f ks loc o α as λv α as=>Nw f ks loc q.1 α as λx α as=>Nw f ks loc q.2.1 α as λy α as=>Bv (S4 α v x y) λts=>Q (.l ts) α as
  | some _=>False)
 | none=>B0 f ks loc o α as λv α as=>B0 f ks loc i α as λk α as=>Ec PO (PU α v k) as λt as=>Q (.v (Vf t)) α as
noncomputable def Nx(H:Hs)(f:EA)(g:TA):EA:=λks loc e α as Q=>match e with
 | .Constant k _ _=>Bv (YN k) λt=>Q (.v (Vf t)) α as
 | .Name x _=>Bv (SW ks loc x) λw=>Q (.v (.w w)) α as
 | .UnaryOp .USub a _=>B0 f ks loc a α as λv α as=>Bv (Cs v) λi=>Q (.v (Vf (.int (-i)))) α as
 | .UnaryOp .Not a _=>B0 f ks loc a α as λv α as=>Bv (Kc α v) λb=>Q (.v (Vf (.bool !b))) α as
 | .BinOp a op b _=>B0 f ks loc a α as λx α as=>B0 f ks loc b α as λy α as=>Bv (S0 op α x y) λp=>Ji p.1 as λas=>YL p.2 as λr as=>Q r α as
 | .BoolOp op es _=>P2 f ks loc op es α as λv α as=>Q (.v v) α as
 | .Compare a ops es _=>Cm (!OA ops es) (B0 f ks loc a α as λv α as=>LJ f ks loc v ops es α as λt α as=>Q (.v (Vf (.bool t))) α as)
 | .IfExp t a b _=>g ks loc t α as λq α as=>match q with
  | true=>f ks loc a α as Q
  | false=>f ks loc b α as Q
 | .Tuple es _ _=>Ee f ks loc es α as λvs α as=>Bv (Gu α vs) λp=>Cm (small p.1.length) (Q (.v (Vf (.node .tup p.1))) p.2 as)
 | .List es _=>Ee f ks loc es α as λvs α as=>Bv (Gu α vs) λp=>Cm (small p.1.length) (Q (.l p.1) p.2 as)
 | .Dict [] [] _=>Q (.d []) α as
 | .Attribute o x _=>Cm (IX o) (B0 f ks loc o α as λv α as=>Bv (S1 α v x) λw=>Q (.v (.w w)) α as)
 | .Subscript o i _=>Tn f ks loc o i α as Q
 | .Call fe es [] pos=>Tf H f ks loc fe es pos α as Q
 | .ListComp elt gens scope _=>Tj H f g ks loc elt gens scope α as Q
 | _=>False
noncomputable def Y5(f:EA)(g:TA):TA:=λks loc e α as Q=>match e with
 | .UnaryOp .Not a _=>g ks loc a α as λq α as=>Q (!q) α as
 | .BoolOp op es _=>Nv g ks loc op es α as Q
 | .IfExp t a b _=>g ks loc t α as λq α as=>match q with
  | true=>g ks loc a α as Q
  | false=>g ks loc b α as Q
 | .Compare a ops es _=>Cm (!OA ops es) (B0 f ks loc a α as λv α as=>LJ f ks loc v ops es α as Q)
 | e=>B0 f ks loc e α as λv α as=>Bv (Kc α v) λb=>Q b α as
noncomputable def DY(H:Hs):Nat->EA×TA
 | 0=>(λz z z z z z=>False,λz z z z z z=>False)
 | n+1=>(Nx H (DY H n).1 (DY H n).2,Y5 (DY H n).1 (DY H n).2)
noncomputable def Gx(x:Ac)(v:W):An->An
 | []=>[(x,v)]
 | (y,w)::r=>if y=x then(x,v)::r else(y,w)::Gx x v r
theorem Y6:∀(x:Ac) (v:W) (y:Ac) (w:W) (r:List (Ac×W)),Gx x v ((y,w)::r)=if y=x then(x,v)::r else(y,w)::Gx x v r:=by intros;rfl
def Kj(ks:AF)(x:Ac)(v:V)(loc:An)(K:An->Prop):Prop:=match v with
 | .w w=>(match ks.lookup x with
  | some .local | some .cell=>K (Gx x w loc)
  | _=>False)
 | _=>False
def P4(f:EA)(ks:AF)(t:Expr)(v:V)(loc:An)(α:AH)(as:List Al)(Q:Kq An):Prop:=match Cc t with
 | some q=>Kj ks q.1 v loc λl=>Q l α as
 | none=>match Fe t with
  | some q=>B0 f ks loc q.1 α as λov α as=>(match ov,v with
   | .w (.own k),.w w=>(match α[k]? with
    | some (.ins C cs)=>Cm (FL G0 C q.2.1 && decide (cs.length<900)) (Q loc (α.set k (.ins C (Gx q.2.1 w cs))) as)
    | _=>False)
   | _,_=>False)
  | none=>match K6 t with
   | some q=>B0 f ks loc q.1 α as λov α as=>B0 f ks loc q.2.1 α as λiv α as=>Bv (Cs iv) λj=>(match ov with
    | .w (.own k)=>Bv (Jj α v) λp=>(match p.2[k]? with
     | some (.lst ts)=>Ji (decide (0<=j/\j<ts.length)) as λas=>Q loc (p.2.set k (.lst (ts.set j.toNat p.1))) as
     | some (.dct es)=>Ji (small es.length) as λas=>Q loc (p.2.set k (.dct (Cn es j p.1))) as
     | _=>False)
    | _=>False)
   | none=>False
noncomputable def To(f:EA)(ks:AF):List Expr->List V->An->AH->List Al->Kq An->Prop
 | [],[],loc,α,as,Q=>Q loc α as
 | t::ts,v::vs,loc,α,as,Q=>P4 f ks t v loc α as λloc α as=>To f ks ts vs loc α as Q
 | _,_,_,_,_,_=>False
noncomputable def Tp:V->Option (List V)
 | .tup ws=>some (ws.map .w)
 | .w (.fz (.node .tup ts))=>some (ts.map Vf)
 | _=>none
def Jl(f:EA)(ks:AF)(t:Expr)(v:V)(loc:An)(α:AH)(as:List Al)(Q:Kq An):Prop:=match FI t with
 | some q=>Bv (Tp v) λvs=>Cm (EP q.1.length vs.length && noStar q.1) (To f ks q.1 vs loc α as Q)
 | none=>P4 f ks t v loc α as Q
noncomputable def Tq(ks:AF):List Ac->List V->An->(An->Prop)->Prop
 | [],[],loc,K=>K loc
 | x::xs,v::vs,loc,K=>Kj ks x v loc λloc=>Tq ks xs vs loc K
 | _,_,_,_=>False
def Tr(f:EA)(ks:AF)(t value:Expr)(v:V)(loc:An)(α:AH)(as:List Al)(Q:Kq An):Prop:=match Lq ks [t] value with
 | none=>False
 | some none=>Jl f ks t v loc α as Q
 | some (some names)=>Bv (Tp v) λvs=>Cm (EP vs.length names.length) (Tq ks names.reverse vs.reverse loc λl=>Q l α as)
def Ts(r:Rv)(α:AH)(K:V->AH->Prop):Prop:=match r with
 | .v x=>K x α
 | .l ts=>K (.w (.own α.length)) (α++[.lst ts])
 | .d es=>K (.w (.own α.length)) (α++[.dct es])
def Ny(f:EA)(ks:AF)(loc:An)(e:Expr)(α:AH)(as:List Al)(Q:Kq V):Prop:=f ks loc e α as λr α as=>Ts r α λv α=>Q v α as
noncomputable def Nz(f:EA)(ks:AF)(loc:An):List Expr->AH->List Al->Kq (List V)->Prop
 | [],α,as,Q=>Q [] α as
 | e::r,α,as,Q=>match Dh e with
  | true=>False
  | false=>Ny f ks loc e α as λv α as=>Nz f ks loc r α as λvs α as=>Q (v::vs) α as
theorem Akz:∀(f:EA) (ks:AF) (loc:An) (x:AH) (x_1:List Al) (x_2:Kq (List V)) (e:Expr) (r:List Expr),Nz f ks loc (e::r) x x_1 x_2=match Dh e with | true=>False | false=>Ny f ks loc e x x_1 λ(v:V) (α:AH) (as:List Al)=>Nz f ks loc r α as λ(vs:List V) (α:AH) (as:List Al)=>x_2 (v::vs) α as:=by intros;rfl
def Tt(f f':EA)(ks:AF)(loc:An)(t e:Expr)(α:AH)(as:List Al)(Q:Kq V):Prop:=match Py t with
 | true=>(match FI e with
  | some q=>Nz f' ks loc q.1 α as λvs α as=>Bv (LH vs) λws=>Cm (small ws.length) (Q (.tup ws) α as)
  | none=>Ny f ks loc e α as Q)
 | false=>Ny f ks loc e α as Q
noncomputable def Kk(n:Nat):W->W
 | .own k=>if k<n then .own k else .junk
 | w=>w
noncomputable def Kl(n:Nat)(ks:List Ac)(l:An):An:=ks.map λx=>(x,match l.lookup x with
 | some w=>Kk n w
 | none=>.junk)
noncomputable def AkA(n:Nat):AO->AO
 | .ins C as=>.ins C (as.map λp=>(p.1,Kk n p.2))
 | o=>o
noncomputable def ED(n:Nat)(h:AH):AH:=(h.take n).map (AkA n)
set_option tactic.hygienic true in
noncomputable def B4(B:T->An->AH->List Al->(BZ->An->AH->List Al->Prop)->Prop)(n:Nat)(ks:List Ac):List T->An->AH->An->AH->Prop
 | [],l,a,l',a'=>l=l'/\a=a'
 | t::ts,l,a,l',a'=>∃as l1 a1,B t l a as (λfl l2 a2 z=>fl=.next/\Kl n ks l2=l1/\ED n a2=a1/\n<=a2.length)/\B4 B n ks ts l1 a1 l' a'
set_option tactic.hygienic true in
noncomputable def NA(B:T->An->AH->List Al->(BZ->An->AH->List Al->Prop)->Prop):List T->An->AH->List Al->(BZ->An->AH->List Al->Prop)->Prop
 | [],l,a,as,Q=>Q .next l a as
 | t::ts,l,a,as,Q=>B t l a as λfl l a as=>match fl with
  | .next=>NA B ts l a as Q
  | .ret v=>Q (.ret v) l a as
set_option tactic.hygienic true in
noncomputable def Ij(g:An->AH->List Al->Kq Bool->Prop)(B:An->AH->List Al->(BZ->An->AH->List Al->Prop)->Prop):Nat->An->AH->An->AH->Prop
 | 0,_,_,_,_=>False
 | n+1,l,a,l',a'=>∃as q a1,g l a as (λq' a2 z=>q'=q/\a2=a1)/\match q with
  | false=>l=l'/\a1=a'
  | true=>∃as l2 a2,B l a1 as (λfl l3 a3 z=>fl=.next/\l3=l2/\a3=a2)/\Ij g B n l2 a2 l' a'
noncomputable def Tu:T->Option CV
 | .none=>some .none
 | .bool b=>some (.bool b)
 | .int i=>some (.int i)
 | .str x=>some (.str x)
 | _=>none
noncomputable def P5:List V->Option (List CV)
 | []=>some []
 | v::r=>ob (SV v) λt=>ob (Tu t) λc=>ob (P5 r) λcs=>some (c::cs)
def Tv(E:CX->Prop)(f:EA)(ks:AF)(cn:Ac)(es:List Expr)(loc:An)(α:AH)(as:List Al):Prop:=Cm (noStar es && E2 ks cn) (match Gh.lookup cn with
 | some (.ref C)=>(match HI.lookup C with
  | some names=>Ee f ks loc es α as λvs α as=>Bv (P5 vs) λcs=>Cm (EP cs.length names.length) (E ⟨C,names.zip cs⟩)
  | none=>False)
 | _=>False)
set_option tactic.hygienic true in
noncomputable def LK(E:CX->Prop)(H:Hs)(f f':EA)(g:TA)(ks:AF)(X:XA)(st:AN)(loc:An)(α:AH)(as:List Al)(Q:BZ->An->AH->List Al->Prop):Prop:=match st with
 | .Expr e _=>Cm (Lr e) (B0 f ks loc e α as λz α as=>Q .next loc α as)
 | .Pass _=>Q .next loc α as
 | .Return (some e) _=>B0 f ks loc e α as λv α as=>Q (.ret v) loc α as
 | .Return none _=>Q (.ret (Vf .none)) loc α as
 | .Assign [t] value _=>(match Ic ks value t with
  | true=>(match value,t with
   | .ListComp elt gens scope _,.Name x _=>Tj H f g ks loc elt gens scope α as λr α as=>Ts r α λv α=>Kj ks x v loc λl=>Q .next l α as
   | _,_=>False)
  | false=>Cm (PA value) (Tt f f' ks loc t value α as λv α as=>Tr f ks t value v loc α as λl α as=>Q .next l α as))
 | .Raise (some (.Call (.Name cn _) es [] _)) none _=>Tv E f ks cn es loc α as
 | .If t a b _=>g ks loc t α as λq α as=>match q with
  | true=>X a loc α as Q
  | false=>X b loc α as Q
 | .While t b [] _=>(match as with
  | .st l h::as=>Ij (λl=>g ks l t) (X b) 1000 loc α l h/\Q .next l h as
  | _=>False)
 | .For target iter b [] _=>Cm (HF iter) (PZ f ks loc target iter α as λts α as=>match as with
  | .st l h::as=>B4 (λt l a as Q=>Jl f ks target (Vf t) l a as λl a as=>X b l a as Q) α.length (loc.map (·.1)) ts loc α l h/\Q .next l h as
  | as=>NA (λt l a as Q=>Jl f ks target (Vf t) l a as λl a as=>X b l a as Q) ts loc α as Q)
 | _=>False
set_option tactic.hygienic true in
noncomputable def Tw(S:AN->An->AH->List Al->(BZ->An->AH->List Al->Prop)->Prop):XA
 | [],loc,α,as,Q=>Q .next loc α as
 | s::r,loc,α,as,Q=>S s loc α as λfl loc α as=>match fl with
  | .next=>Tw S r loc α as Q
  | .ret v=>Q (.ret v) loc α as
noncomputable def Jm(E:CX->Prop)(H:Hs)(N:Nat)(ks:AF):Nat->XA
 | 0=>λz z z z z=>False
 | n+1=>Tw (LK E H (DY H (N+1)).1 (DY H N).1 (DY H (N+1)).2 ks (Jm E H N ks n))
def VF(k:Nat)(f:Af)(ts:List T)(r:T):Prop:=∀K,B3 K->∀(X:Nat->Prop) σ vs,(∀a,X a->a<σ.length)->AB X σ vs ts->∃v σ',Di (BW K NL k) f vs σ=.ok v σ'/\(∀(a:Nat) o,σ[a]? = some o->σ'[a]? = some o)/\TR X σ' v r
def VC(k:Nat)(C:Af)(ts:List T)(r:T):Prop:=∀K,B3 K->∀(X:Nat->Prop) σ vs,(∀a,X a->a<σ.length)->AB X σ vs ts->∃v σ',newC (BW K NL k) C vs σ=.ok v σ'/\(∀(a:Nat) o,σ[a]? = some o->σ'[a]? = some o)/\TR X σ' v r
noncomputable def NB(f:Af):Option C0:=(Gi.lookup f).bind (Hr pw)
set_option tactic.hygienic true in
noncomputable def LL(E:CX->Prop)(H:Hs)(f:Af)(vs:List V)(α:AH)(as:List Al)(Q:Kq V):Prop:=Bv (NB f) λD=>Bv (LH vs) λws=>Cm (Ie D && EP (D.params.args.map (·.arg)).length ws.length)
 (Jm E H 39 D.scope.names NL D.body ((D.params.args.map (·.arg)).zip ws) α as λfl z α as=>match fl with
  | .next=>Q (Vf .none) α as
  | .ret v=>Q v α as)
noncomputable def LM(E:CX->Prop)(qt:Bool):Nat->(Af->List V->AH->List Al->Kq V->Prop)×(Af->List V->AH->List Al->Kq V->Prop)
 | 0=>(λz z z z z=>False,λz z z z z=>False)
 | k+1=>(λf vs α as Q=>match as with
   | .t r::as=>Bv (Gu α vs) λp=>VF (k+1) f p.1 r/\Q (Vf r) p.2 as
   | .go::as=>LL E ⟨(LM E qt k).1,(LM E qt k).2,qt⟩ f vs α as Q
   | _=>False,
  λC vs α as Q=>match as with
   | .t r::as=>Bv (Gu α vs) λp=>VC (k+1) C p.1 r/\Q (Vf r) p.2 as
   | .go::as=>Bv (GK.lookup C) λf=>LL (λz=>False) ⟨(LM (λz=>False) true k).1,(LM (λz=>False) true k).2,true⟩ f (.w (.own α.length)::vs) (α++[.ins C []]) as λv α' as=>(match v with
    | .w (.fz .none)=>Q (.w (.own α.length)) α' as
    | _=>False)
   | _=>False)
noncomputable def Fo(E:CX->Prop)(qt:Bool)(k:Nat):Hs:=⟨(LM E qt k).1,(LM E qt k).2,qt⟩
section
theorem BL{x:Option A}{Q:A->Prop}(h:Bv x Q):∃y,x=some y/\Q y:=by
 rcases x with _ | y
 ·exact h.elim
 ·exact⟨y,rfl,h⟩
theorem Gy{dec:Al->Option A}{x:Option A}{as:List Al}{Q:A->List Al->Prop}(h:Ec dec x as Q):∃y as',x=some y/\Q y as':=by
 unfold Ec at h
 split at h
 ·refine Ah (BL h) ?_;rintro y e q;exact⟨y,_,e,q⟩
 ·split at h
  ·exact⟨_,_,h.1,h.2⟩
  ·split at h
   ·refine Ah (BL h) ?_;rintro y e q;exact⟨y,_,e,q⟩
   ·refine Ah (BL h) ?_;rintro y e q;exact⟨y,_,e,q⟩
theorem AkB{as:List Al}{Q:Rv->List Al->Prop}(h:YL r as Q):∃as',Q r as':=by
 rcases as with _ | ⟨a,as⟩
 ·exact⟨_,h⟩
 ·rcases a with _ | _ | _ | _ | _ | _ | _ | _<;>first | exact⟨_,h⟩ | exact⟨_,h.1▸h.2⟩
theorem CE{P:Prop}(h:Cm b P):b=true/\P:=by
 rcases b with _ | _
 ·exact h.elim
 ·exact⟨rfl,h⟩
theorem Km{g:Bool}{as:List Al}{Q:List Al->Prop}(h:Ji g as Q):g=true/\∃as',Q as':=by
 refine Bg (Gy h) ?_;rintro y as' e q;injection e with za;subst za
 exact⟨(CE q).1,_,(CE q).2⟩
abbrev Xp(X:Nat->Prop)(a:Nat):Nat->Prop:=λb=>X b\/b=a
section
variable {β γ:Type}{E:CX->Prop}{X Z:Nat->Prop}{ρ ρ':List Nat}{α α':AH}{σ σ':CH}
theorem Sm.re{x:CM β}{P Q:β->List Nat->AH->CH->Prop}(h:Sm E ρ α σ x P)(k:∀b ρ' α' σ',AW ρ α σ ρ' α' σ'->P b ρ' α' σ'->∃ρ2 α2,AW ρ α σ ρ2 α2 σ'/\Q b ρ2 α2 σ'):Sm E ρ α σ x Q:=by
 unfold Sm at h ⊢
 split at h
 ·refine Bg h ?_;clear h;rintro ρ1 α1 s hp;exact k _ _ _ _ s hp
 ·exact h
 ·exact h
theorem Sm.pre{x:CM β}{P:β->List Nat->AH->CH->Prop}(s:AW ρ α σ ρ' α' σ)(h:Sm E ρ' α' σ x P):Sm E ρ α σ x P:=by
 unfold Sm at h ⊢
 split at h
 ·refine Bg h ?_;clear h;rintro ρ1 α1 t hp;exact⟨ρ1,α1,s.trans t,hp⟩
 ·refine⟨λa o e n=>h.1 a o e λq => ?_,h.2⟩;rcases s.live a q with q | q
  ·exact n q
  ·exact absurd (HJ e) (DJ.mpr q)
 ·exact h
theorem Tx{k:Nat}(h:Eb ρ (α.set k ao) a):Eb ρ α a\/(ρ[k]? = some a/\k<α.length/\ao≠.dead):=by
 refine Br h ?_;clear h;rintro j o h1 h2 h3
 by_cases e:k=j
 ·subst e;rw[Ro]at h2;rcases q:α[k]? with _ | o'
  ·rw[q]at h2;(exfalso;injection h2)
  ·rw[q]at h2;(injection h2 with za;subst za);exact .inr ⟨h1,(DT.mp q).1,h3⟩
 ·rw[Hg e]at h2;exact .inl ⟨j,o,h1,h2,h3⟩
theorem P6{k:Nat}(h:Eb ρ (α.set k .dead) a):Eb ρ α a:=by
 rcases Tx h with h | ⟨_,_,h⟩
 ·exact h
 ·exact absurd rfl h
theorem AW.dead{k:Nat}:AW ρ α σ ρ (α.set k .dead) σ:=⟨AM _,λz z h z=>h,λz z h=>h,λz h=>.inl (P6 h)⟩
theorem Tz(s:Av X ρ α σ){k a:Nat}(h:ρ[k]? = some a):¬Zx X ρ (α.set k .dead) a:=by
 rintro(q | ⟨j,o,h1,h2,h3⟩)
 ·exact s.nx a (Gg h) q
 ·have e:j=k:=by
   have hj:=(DT.mp h1).1;have hk:=(DT.mp h).1;exact(Acv hj s.nd).mp (h1.trans h.symm)
  subst e;rw[Ro]at h2;rcases q:α[j]? with _ | o'
  ·rw[q]at h2;(exfalso;injection h2)
  ·rw[q]at h2;(injection h2 with za;subst za);exact h3 rfl
theorem Av.dead(s:Av X ρ α σ){k:Nat}:Av X ρ (α.set k .dead) σ:=by
 refine⟨by rw[Hh];exact s.len,s.nd,s.lt,s.nx,s.xlt,λj a o h1 h2 => ?_⟩
 by_cases e:k=j
 ·subst e;rw[Ro]at h2;rcases q:α[k]? with _ | o'
  ·rw[q]at h2;(exfalso;injection h2)
  ·rw[q]at h2;(injection h2 with za;subst za);trivial
 ·rw[Hg e]at h2;exact(s.ob j a o h1 h2).mono (λb ob hb n=>⟨hb,λq=>n (q.imp id P6)⟩) (λz z h=>h) λz=>rfl
theorem AkC(s:Av X ρ α σ){k a:Nat}{ts:List T}(h:ρ[k]? = some a)(ha:α[k]? = some (.lst ts)):TR (Zx X ρ (α.set k .dead)) σ (.ref a) (.node .lst ts):=by
 refine AG (s.ob k a _ h ha) ?_;rintro vs h1 h2 h3;exact .ofList (Tz s h) h1 h2 (h3.mono λb ob hb n=>⟨hb,λq=>n (q.imp id P6)⟩)
theorem AkD(s:Av X ρ α σ){k a:Nat}{es:List (Int×T)}(h:ρ[k]? = some a)(ha:α[k]? = some (.dct es)):TR (Zx X ρ (α.set k .dead)) σ (.ref a) (.node (.dct (es.map (·.1))) (es.map (·.2))):=by
 refine AG (s.ob k a _ h ha) ?_;rintro cs h1 h2 h3;rw[h2];exact .ofDict (Tz s h) h1 (h3.mono λb ob hb n=>⟨hb,λq=>n (q.imp id P6)⟩)
theorem P7{w:W}{t:T}{v:CV}(h:LD α w=some (t,α'))(s:Av X ρ α σ)(r:WR (Zx X ρ α) ρ σ v w):Av X ρ α' σ/\AW ρ α σ ρ α' σ/\TR (Zx X ρ α') σ v t:=by
 unfold LD at h;rcases w with k | t' | _
 ·refine Ah r ?_;clear r;rintro a h1 rfl;dsimp only at h;rcases q:α[k]? with _ | (ts | es | _ | _)
  case some.lst =>
   rw[q]at h;injection h with za;injection za with za zb;subst za;subst zb
   exact⟨s.dead,AW.dead,AkC s h1 q⟩
  case some.dct =>
   rw[q]at h;injection h with za;injection za with za zb;subst za;subst zb
   exact⟨s.dead,AW.dead,AkD s h1 q⟩
  all_goals (rw[q]at h;exact(Ax h).elim)
 ·injection h with za;injection za with za zb;subst za;subst zb;exact⟨s,AW.refl,r⟩
 ·exact(Ax h).elim
set_option tactic.hygienic true in
theorem AkE:∀{ws:List W} {vs:List CV} {α α':AH} {ts:List T},LF α ws=some (ts,α')->Av X ρ α σ->Ds (Zx X ρ α) ρ σ vs ws->Av X ρ α' σ/\AW ρ α σ ρ α' σ/\AB (Zx X ρ α') σ vs ts:=by
 intro z1
 induction z1 with
 | nil =>
  intro z2;rcases z2 with _ | ⟨z3,z4⟩
  ·intro α α' ts h s r;injection h with za;injection za with za zb;subst za;subst zb;exact⟨s,AW.refl,.nil⟩
  ·intro α α' ts h s r;exact r.elim
 | cons w ws ih =>
  intro z5;rcases z5 with _ | ⟨v,vs⟩
  ·intro α α' ts h s r;exact r.elim
  ·intro α α' ts h s r;rw[Akq]at h
   split at h
   ·rename_i t α1 e
    split at h
    ·rename_i us α2 e2;injection h with za;injection za with za zb;subst za;subst zb
     refine C6 (P7 e s r.1) ?_;rintro s1 p1 t1;refine C6 (ih e2 s1 (r.2.mono (λz z h n=>p1.tr h n) p1.pre)) ?_;rintro s2 p2 t2;exact⟨s2,p1.trans p2,.cons (t1.mono λz z h n=>p2.tr h n) t2⟩
    ·exfalso;injection h
   ·exfalso;injection h
theorem P8{w:V}{t:T}{v:CV}(h:Jj α w=some (t,α'))(s:Av X ρ α σ)(r:UR (Zx X ρ α) ρ σ v w):Av X ρ α' σ/\AW ρ α σ ρ α' σ/\TR (Zx X ρ α') σ v t:=by
 unfold Jj at h;rcases w with(k | _ | _) | _
 ·dsimp only at h;rcases q:α[k]? with _ | (_ | _ | ⟨C,as⟩ | _)
  case some.ins =>
   rw[q]at h;dsimp only at h;rcases e:LF (α.set k .dead) (as.map (·.2))with _ | ⟨ts,α1⟩
   ·rw[e]at h;exact(Ax h).elim
   ·rw[e]at h;injection h with za;injection za with za zb;subst za;subst zb
    refine Ah r ?_;clear r;rintro a h1 rfl;refine AG (s.ob k a _ h1 q) ?_;rintro cs g1 g2 g3;have d:AW ρ α σ ρ (α.set k .dead) σ:=AW.dead;refine C6 (AkE e s.dead (g3.mono (λz z h n=>d.tr h n) d.pre)) ?_;rintro s2 p2 t2;refine⟨s2,d.trans p2,?_⟩;rw[g2];exact .ofInst (p2.tr g1 (Tz s h1)).2 g1 t2
  all_goals (rw[q]at h;exact P7 h s r)
 ·exact P7 h s r
 ·exact P7 h s r
 ·exact(Ax h).elim
set_option tactic.hygienic true in
theorem TB:∀{ws:List V} {vs:List CV} {α α':AH} {ts:List T},Gu α ws=some (ts,α')->Av X ρ α σ->BA (Zx X ρ α) ρ σ vs ws->Av X ρ α' σ/\AW ρ α σ ρ α' σ/\AB (Zx X ρ α') σ vs ts:=by
 intro z1
 induction z1 with
 | nil =>
  intro z2;rcases z2 with _ | ⟨z3,z4⟩
  ·intro α α' ts h s r;injection h with za;injection za with za zb;subst za;subst zb;exact⟨s,AW.refl,.nil⟩
  ·intro α α' ts h s r;exact r.elim
 | cons w ws ih =>
  intro z5;rcases z5 with _ | ⟨v,vs⟩
  ·intro α α' ts h s r;exact r.elim
  ·intro α α' ts h s r;rw[Akr]at h
   split at h
   ·rename_i t α1 e
    split at h
    ·rename_i us α2 e2;injection h with za;injection za with za zb;subst za;subst zb
     refine C6 (P8 e s r.1) ?_;rintro s1 p1 t1;refine C6 (ih e2 s1 (r.2.mono (λz z h n=>p1.tr h n) p1.pre)) ?_;rintro s2 p2 t2;exact⟨s2,p1.trans p2,.cons (t1.mono λz z h n=>p2.tr h n) t2⟩
    ·exfalso;injection h
   ·exfalso;injection h
theorem P9(s:Av X ρ α σ){k a:Nat}{ao ao':AO}(o':CO)(hk:ρ[k]? = some a)(ha:α[k]? = some ao)(hl:ao≠.dead){b:Nat}{o:CO}(hb:σ[b]? = some o)(n:¬Zx X ρ α b):(σ.set a o')[b]? = some o/\¬Zx X ρ (α.set k ao') b:=by
 have hne:b≠a:=λe=>n (.inr ⟨k,ao,e▸hk,ha,hl⟩);refine⟨by rw[Hg (ER hne)];exact hb,λq=>n (q.imp id λq => ?_)⟩
 rcases Tx q with q | ⟨q,_,_⟩
 ·exact q
 ·rw[hk]at q;injection q with za;subst za
  exact absurd rfl hne
theorem Av.put(s:Av X ρ α σ){k a:Nat}{ao ao':AO}(o':CO)(hk:ρ[k]? = some a)(ha:α[k]? = some ao)(hl:ao≠.dead)(hr:LB (Zx X ρ (α.set k ao')) ρ (σ.set a o') a ao'):Av X ρ (α.set k ao') (σ.set a o'):=by
 refine⟨by rw[Hh];exact s.len,s.nd,λb hb=>by rw[Hh];exact s.lt b hb,s.nx,λb hb=>by rw[Hh];exact s.xlt b hb,λj b o h1 h2 => ?_⟩
 by_cases e:k=j
 ·subst e;rw[Ro,ha]at h2;injection h2 with za;subst za
  rw[hk]at h1;injection h1 with za;subst za
  exact hr
 ·rw[Hg e]at h2;refine(s.ob j b o h1 h2).mono (λc oc hc n=>P9 s o' hk ha hl hc n) (λz z h=>h) λz => ?_;refine Hg λq=>e ?_;subst q;exact(Acv (DT.mp hk).1 s.nd).mp (hk.trans h1.symm)
theorem AW.put(s:Av X ρ α σ){k a:Nat}{ao ao':AO}(o':CO)(hk:ρ[k]? = some a)(ha:α[k]? = some ao)(hl:ao≠.dead):AW ρ α σ ρ (α.set k ao') (σ.set a o'):=by
 refine⟨by rw[Hh];exact AM _,λb o hb n => ?_,λz z h=>h,λb q=>.inl ?_⟩
 ·rw[Hg (λe:a=b=>n ⟨k,ao,e▸hk,ha,hl⟩)];exact hb
 ·rcases Tx q with q | ⟨q,_,_⟩
  ·exact q
  ·exact⟨k,ao,q,ha,hl⟩
theorem Qa{o o':CO}(h:σ[a]? = some o):(σ.set a o')[a]? = some o':=by
 rw[Ro,h];rfl
theorem Qb(s:Av X ρ α σ)(o':CO){b:Nat}{o:CO}(hb:σ[b]? = some o)(n:¬Zx X ρ α b):(σ++[o'])[b]? = some o/\¬Zx (Xp X σ.length) ρ α b:=by
 refine⟨by rw[GH (HJ hb)];exact hb,?_⟩
 rintro((q | q) | q)
 ·exact n (.inl q)
 ·exact absurd (HJ hb) (by rw[q];exact BX _)
 ·exact n (.inr q)
theorem Qc(o':CO):(σ++[o'])[σ.length]? = some o':=by
 rw[JC (AM _),Mf];rfl
theorem Av.lay(s:Av X ρ α σ)(o':CO):Av (Xp X σ.length) ρ α (σ++[o']):=by
 have hl:(σ++[o']).length=σ.length+1:=by rw[Bl];rfl
 refine⟨s.len,s.nd,λb hb=>by rw[hl];exact OK (s.lt b hb),λb hb => ?_,λb hb => ?_,λj b o h1 h2 => ?_⟩
 ·rintro(q | q)
  ·exact s.nx b hb q
  ·exact absurd (s.lt b hb) (by rw[q];exact BX _)
 ·rw[hl];rcases hb with q | q
  ·exact OK (s.xlt b q)
  ·rw[q];exact JI _
 ·exact(s.ob j b o h1 h2).mono (λc oc hc n=>Qb s o' hc n) (λz z h=>h) λz=>GH (s.lt b (Gg h1))
theorem AW.lay(o':CO):AW ρ α σ ρ α (σ++[o']) :=
 ⟨by rw[Bl];exact Hf _ _,λb o hb n=>by rw[GH (HJ hb)];exact hb,λz z h=>h,λb q=>.inl q⟩
theorem Av.free(s:Av (Xp X a) ρ α σ):Av X ρ α σ :=
 ⟨s.len,s.nd,s.lt,λb hb q=>s.nx b hb (.inl q),λb hb=>s.xlt b (.inl hb),λj b o h1 h2=>(s.ob j b o h1 h2).mono (λc oc hc n=>⟨hc,λq=>n (q.imp .inl id)⟩) (λz z h=>h) λz=>rfl⟩
theorem Y7{b:Nat}(hlen:ρ.length=α.length)(h:Eb (ρ++[a]) (α++[ao]) b):Eb ρ α b\/b=a:=by
 refine Br h ?_;clear h;rintro j o h1 h2 h3;rcases U0 j ρ.length with q | q | q
 ·rw[GH q]at h1;rw[GH (hlen▸q)]at h2;exact .inl ⟨j,o,h1,h2,h3⟩
 ·subst q;rw[JC (AM _),Mf]at h1;injection h1 with za;subst za
  exact .inr rfl
 ·rw[GI (by rw[Bl];exact q)]at h1
  exfalso;injection h1
theorem TC(s:Av (Xp X a) ρ α σ){b:Nat}{o:CO}(hb:σ[b]? = some o)(n:¬Zx (Xp X a) ρ α b):σ[b]? = some o/\¬Zx X (ρ++[a]) (α++[ao]) b:=by
 refine⟨hb,?_⟩;rintro(q | q)
 ·exact n (.inl (.inl q))
 ·rcases Y7 s.len q with q | q
  ·exact n (.inr q)
  ·exact n (.inl (.inr q))
theorem Y8(j b:Nat)(h:ρ[j]? = some b):(ρ++[a])[j]? = some b:=by
 rw[GH (DT.mp h).1];exact h
theorem Av.own(s:Av (Xp X a) ρ α σ)(hX:¬X a)(hr:LB (Zx X (ρ++[a]) (α++[ao])) (ρ++[a]) σ a ao):Av X (ρ++[a]) (α++[ao]) σ:=by
 have hna:a∉ρ:=λh=>s.nx a h (.inr rfl);refine⟨by rw[Bl,Bl,s.len];rfl,?_,λb hb => ?_,λb hb q => ?_,λb hb=>s.xlt b (.inl hb),λj b o h1 h2 => ?_⟩
 ·refine F7.mpr ⟨s.nd,Dv.mpr ⟨nofun,Ho⟩,λb hb c hc => ?_⟩
  rw[Cx]at hc;rintro rfl;exact hna (hc▸hb)
 ·rcases BM.mp hb with hb | hb
  ·exact s.lt b hb
  ·rw[Cx]at hb;rw[hb];exact s.xlt a (.inr rfl)
 ·rcases BM.mp hb with hb | hb
  ·exact s.nx b hb (.inl q)
  ·rw[Cx]at hb;exact hX (hb▸q)
 ·rcases U0 j ρ.length with q | q | q
  ·rw[GH q]at h1;rw[GH (s.len▸q)]at h2;exact(s.ob j b o h1 h2).mono (λc oc hc n=>TC s hc n) Y8 λz=>rfl
  ·subst q;rw[JC (AM _),Mf]at h1;rw[s.len,JC (AM _),Mf]at h2;injection h1 with za;subst za
   injection h2 with za;subst za
   exact hr
  ·rw[GI (by rw[Bl];exact q)]at h1
   exfalso;injection h1
def EE(X:Nat->Prop)(n:Nat)(ρ:List Nat)(α:AH)(σ:CH)(b:CV):Rv->Prop
 | .v x=>Av X ρ α σ/\UR (Zx X ρ α) ρ σ b x
 | .l ts=>∃a vs,b=.ref a/\n<=a/\¬X a/\σ[a]? = some (.list vs)/\small vs.length=true/\Av (Xp X a) ρ α σ/\AB (Zx (Xp X a) ρ α) σ vs ts
 | .d es=>∃(a:Nat) (cs:List (Int×CV)),b=.ref a/\n<=a/\¬X a/\σ[a]? = some (.dict cs)/\es.map (·.1)=cs.map (·.1)/\Av (Xp X a) ρ α σ/\AB (Zx (Xp X a) ρ α) σ (cs.map (·.2)) (es.map (·.2))
theorem Y9(s:Av (Xp X a) ρ α σ)(hX:¬X a):¬Zx X ρ α a:=by
 rintro(q | ⟨j,o,h1,_⟩)
 ·exact hX q
 ·exact s.nx a (Gg h1) (.inr rfl)
theorem EE.frz{b:CV}(h:EE X n ρ α σ b r):Av X ρ α σ/\UR (Zx X ρ α) ρ σ b (frz r):=by
 rcases r with x | ts | es
 ·exact h
 ·refine KU h ?_;clear h;rintro a vs rfl h1 hX h2 h3 s h4;exact⟨s.free,TR.ofList (Y9 s hX) h2 h3 (h4.mono λc oc hc n=>⟨hc,λq=>n (q.imp .inl id)⟩)⟩
 ·refine KU h ?_;clear h;rintro a cs rfl h1 hX h2 h3 s h4;refine⟨s.free,?_⟩;show TR _ σ (.ref a) (.node (.dct (es.map (·.1))) (es.map (·.2)));rw[h3];exact TR.ofDict (Y9 s hX) h2 (h4.mono λc oc hc n=>⟨hc,λq=>n (q.imp .inl id)⟩)
theorem TF(h:ρ.length=α.length)(a:Nat):(ρ++[a])[α.length]? = some a:=by
 rw[<- h,JC (AM _),Mf];rfl
theorem AW.own(p:AW ρ0 α0 σ0 ρ α σ)(hlen:ρ.length=α.length)(h:σ0.length<=a):AW ρ0 α0 σ0 (ρ++[a]) (α++[ao]) σ :=
 ⟨p.len,p.keep,λk b e=>Y8 k b (p.pre k b e),λb q=>(Y7 hlen q).elim (λq=>p.live b q) λq=>.inr (q▸h)⟩
theorem EE.own{b:CV}{K:V->AH->Prop}(p:AW ρ0 α0 σ0 ρ α σ)(h:EE X σ0.length ρ α σ b r)(k:Ts r α K):∃ρ' α' v,AW ρ0 α0 σ0 ρ' α' σ/\Av X ρ' α' σ/\UR (Zx X ρ' α') ρ' σ b v/\K v α':=by
 rcases r with x | ts | es
 ·exact⟨ρ,α,x,p,h.1,h.2,k⟩
 ·refine KU h ?_;clear h;rintro a vs rfl h1 hX h2 h3 s h4;exact⟨ρ++[a],α++[AO.lst ts],.w (.own α.length),p.own s.len h1,s.own (ao:=.lst ts) hX ⟨vs,h2,h3,h4.mono λc oc hc n=>TC s hc n⟩,⟨a,TF s.len a,rfl⟩,k⟩
 ·refine KU h ?_;clear h;rintro a cs rfl h1 hX h2 h3 s h4;exact⟨ρ++[a],α++[AO.dct es],.w (.own α.length),p.own s.len h1,s.own (ao:=.dct es) hX ⟨cs,h2,h3,h4.mono λc oc hc n=>TC s hc n⟩,⟨a,TF s.len a,rfl⟩,k⟩
theorem EE.newList(s:Av X ρ α σ){vs:List CV}{ts:List T}(h:AB (Zx X ρ α) σ vs ts)(z:small vs.length=true){n:Nat}(hn:n<=σ.length):EE X n ρ α (σ++[.list vs]) (.ref σ.length) (.l ts) :=
 ⟨σ.length,vs,rfl,hn,λq=>BX _ (s.xlt _ q),Qc _,z,s.lay _,h.mono λx x hc n=>Qb s _ hc n⟩
theorem EE.newDict(s:Av X ρ α σ){cs:List (Int×CV)}{es:List (Int×T)}(e:es.map (·.1)=cs.map (·.1))(h:AB (Zx X ρ α) σ (cs.map (·.2)) (es.map (·.2))){n:Nat}(hn:n<=σ.length):EE X n ρ α (σ++[.dict cs]) (.ref σ.length) (.d es) :=
 ⟨σ.length,cs,rfl,hn,λq=>BX _ (s.xlt _ q),Qc _,e,s.lay _,h.mono λz z hc n=>Qb s _ hc n⟩
theorem EE.le{m:Nat}{b:CV}(h:EE X n ρ α σ b r)(e:m<=n):EE X m ρ α σ b r:=by
 rcases r with x | ts | es
 ·exact h
 ·refine Br h ?_;clear h;rintro a vs h0 h1 h;exact⟨a,vs,h0,AE e h1,h⟩
 ·refine Br h ?_;clear h;rintro a vs h0 h1 h;exact⟨a,vs,h0,AE e h1,h⟩
end
end
section
abbrev DZ:Nat->Prop:=λz=>False
section
variable {E:CX->Prop}{X Z:Nat->Prop}{ρ ρ':List Nat}{α α':AH}{σ σ':CH}
theorem TR.any{v:CV}{t:T}(h:TR Z σ v t):TR DZ σ v t:=h.mono λz z e z=>⟨e,id⟩
theorem AB.any{v:List CV}{t:List T}(h:AB Z σ v t):AB DZ σ v t:=h.mono λz z e z=>⟨e,id⟩
theorem Dt{vs:List CV}(e:σ[a]? = some (.list vs))(z:small vs.length=true):listC a σ=.ok vs σ:=by
 unfold listC;rw[e];exact if_pos z
theorem Qd{vs:List CV}(e:σ[a]? = some (.list vs)):Hw a σ=true:=by unfold Hw;rw[e]
theorem Qe{cs:List (Int×CV)}(e:σ[a]? = some (.dict cs)):Hw a σ=false:=by unfold Hw;rw[e]
theorem Qf{cs:List (Int×CV)}(e:σ[a]? = some (.dict cs)):FK a σ=.ok cs σ:=by unfold FK;rw[e]
theorem Za{cs:List (Ac×CV)}(e:σ[a]? = some (.inst C cs)):GV a σ=.ok (C,cs) σ:=by unfold GV;rw[e]
theorem TG(s:Av X ρ α σ){k:Nat}{ts:List T}{v:CV}(h:α[k]? = some (.lst ts))(r:WR (Zx X ρ α) ρ σ v (.own k)):∃a vs,v=.ref a/\ρ[k]? = some a/\σ[a]? = some (.list vs)/\small vs.length=true/\AB (Zx X ρ α) σ vs ts:=by
 refine Ah r ?_;clear r;rintro a h1 rfl;refine AG (s.ob k a _ h1 h) ?_;rintro vs h2 h3 h4;exact⟨a,vs,rfl,h1,h2,h3,h4⟩
theorem TH(s:Av X ρ α σ){k:Nat}{es:List (Int×T)}{v:CV}(h:α[k]? = some (.dct es))(r:WR (Zx X ρ α) ρ σ v (.own k)):∃(a:Nat) (cs:List (Int×CV)),v=.ref a/\ρ[k]? = some a/\σ[a]? = some (.dict cs)/\es.map (·.1)=cs.map (·.1)/\AB (Zx X ρ α) σ (cs.map (·.2)) (es.map (·.2)):=by
 refine Ah r ?_;clear r;rintro a h1 rfl;refine AG (s.ob k a _ h1 h) ?_;rintro vs h2 h3 h4;exact⟨a,vs,rfl,h1,h2,h3,h4⟩
theorem FY(s:Av X ρ α σ){v:V}{ts:List T}{cv:CV}(h:DE α v=some ts)(r:UR (Zx X ρ α) ρ σ cv v):∃a vs,cv=.ref a/\σ[a]? = some (.list vs)/\small vs.length=true/\AB (Zx X ρ α) σ vs ts:=by
 rcases v with p | _
 ·rcases p with k | t | _
  ·have h:(match α[k]? with | some (.lst ts)=>some ts | _=>none)=some ts:=h
   rcases e:α[k]? with _ | o
   ·rw[e]at h;(exfalso;injection h)
   ·rw[e]at h;rcases o with us | _ | _ | _
    case lst =>
     injection h with za;subst za
     refine Br (TG s e r) ?_;rintro a vs h1 _ h2;exact⟨a,vs,h1,h2⟩
    all_goals (exfalso;injection h)
  ·rcases t with _ | _ | _ | _ | ⟨k,us⟩
   case node =>
    rcases k with _ | _ | _ | _
    case lst =>
     obtain rfl:=(Ay h).symm;have r':TR (Zx X ρ α) σ cv (.node .lst ts):=r;refine AK r'.lst_ref ?_;rintro a rfl;rcases r'.list with⟨_,vs,h1,h2,h3⟩
     exact⟨a,vs,rfl,h1,h2,h3⟩
    all_goals (exfalso;injection h)
   all_goals (exfalso;injection h)
  ·exfalso;injection h
 ·exfalso;injection h
theorem TJ{ks:List Int}{ts:List T}(h:ks.length=ts.length):(ks.zip ts).map (·.1)=ks:=List.map_fst_zip (Md h)
theorem TK{ks:List Int}{ts:List T}(h:ks.length=ts.length):(ks.zip ts).map (·.2)=ts:=List.map_snd_zip (Md h.symm)
theorem Qg(s:Av X ρ α σ){v:V}{es:List (Int×T)}{cv:CV}(h:LG α v=some es)(r:UR (Zx X ρ α) ρ σ cv v):∃(a:Nat) (cs:List (Int×CV)),cv=.ref a/\σ[a]? = some (.dict cs)/\es.map (·.1)=cs.map (·.1)/\AB (Zx X ρ α) σ (cs.map (·.2)) (es.map (·.2)):=by
 rcases v with p | _
 ·rcases p with k | t | _
  ·have h:(match α[k]? with | some (.dct es)=>some es | _=>none)=some es:=h
   rcases e:α[k]? with _ | o
   ·rw[e]at h;(exfalso;injection h)
   ·rw[e]at h;rcases o with _ | us | _ | _
    case dct =>
     injection h with za;subst za
     refine Br (TH s e r) ?_;rintro a vs h1 _ h2;exact⟨a,vs,h1,h2⟩
    all_goals (exfalso;injection h)
  ·rcases t with _ | _ | _ | _ | ⟨k,ts⟩
   case node =>
    rcases k with _ | _ | ks | _
    case dct =>
     injection h with za;subst za
     have r':TR (Zx X ρ α) σ cv (.node (.dct ks) ts):=r;refine AK r'.dct_ref ?_;rintro a rfl;rcases r'.dict with⟨_,cs,h1,h2,h3⟩
     have hl:ks.length=ts.length:=by rw[h2,<- h3.len,AJ,AJ]
     exact⟨a,cs,rfl,h1,by rw[TJ hl,h2],by rw[TK hl];exact h3⟩
    all_goals (exfalso;injection h)
   all_goals (exfalso;injection h)
  ·exfalso;injection h
 ·exfalso;injection h
theorem ND(s:Av X ρ α σ){v:V}{t:T}{cv:CV}(h:HK α v=some t)(r:UR (Zx X ρ α) ρ σ cv v):TR DZ σ cv t:=by
 unfold HK at h;rcases v with(k | _ | _) | _
 ·dsimp only at h;rcases e:α[k]? with _ | (_ | _ | _ | _)
  case some.lst =>
   rw[e]at h;injection h with za;subst za
   refine JM (TG s e r) ?_;rintro a vs rfl _ h2 h3 h4;exact .ofList id h2 h3 h4.any
  case some.dct =>
   rw[e]at h;injection h with za;subst za
   refine JM (TH s e r) ?_;rintro a vs rfl _ h2 h3 h4;rw[h3];exact .ofDict id h2 h4.any
  all_goals (rw[e]at h;exact(Ax h).elim)
 ·injection h with za;subst za
  exact TR.any r
 ·exact(Ax h).elim
 ·exact(Ax h).elim
theorem AkF{f:T->T->Option Bool}{t u:T}{ts us:List T}(h:EC f (t::ts) (u::us)=some b):∃x y,f t u=some x/\EC f ts us=some y/\b=(x && y):=by
 have h:(match f t u,EC f ts us with | some a,some b=>some (a && b) | _,_=>none)=some b:=h
 rcases e1:f t u with _ | x
 ·rw[e1]at h;(exfalso;injection h)
 ·rcases e2:EC f ts us with _ | y
  ·rw[e1,e2]at h;(exfalso;injection h)
  ·rw[e1,e2]at h;exact⟨x,y,rfl,rfl,(Ay h).symm⟩
theorem Zb{f:T->T->Option Bool}{g:CV->CV->Option Bool}(hf:∀{v w:CV} {t u:T} {b:Bool},TR DZ σ v t->TR DZ σ w u->f t u=some b->g v w=some b):∀{vs ws:List CV} {ts us:List T} {b:Bool},AB DZ σ vs ts->AB DZ σ ws us->EC f ts us=some b->Hv g vs ws=some b:=by
 intro vs ws ts us b h1
 induction ts generalizing vs ws us b with
 | nil =>
  rw[h1.nil_inv];intro h2 h;rcases us with _ | ⟨_,_⟩
  ·rw[h2.nil_inv];exact h
  ·refine Br h2.cons_inv ?_;rintro _ _ e _ _;rw[e];exact h
 | cons t ts ih =>
  refine Br h1.cons_inv ?_;rintro v vs e a r;rw[e];intro h2 h;rcases us with _ | ⟨u,us⟩
  ·rw[h2.nil_inv];exact h
  ·refine Br h2.cons_inv ?_;rintro w ws e a' r';refine Br (AkF h) ?_;rintro x y e1 e2 e3;rw[e,e3,RV,hf a a' e1,ih r r' e2]
theorem TL:∀{es:List (Int×T)} {cs:List (Int×CV)} {k:Int},es.map (·.1)=cs.map (·.1)->AB Z σ (cs.map (·.2)) (es.map (·.2))->match Cz es k with
  | none=>EW cs k=none
  | some t=>∃v,EW cs k=some v/\TR Z σ v t:=by
 intro z1
 induction z1 with
 | nil =>
  intro z3;rcases z3 with _ | ⟨z4,z5⟩
  ·intro k e r;exact rfl
  ·intro k e r;exfalso;injection e
 | cons z2 es ih =>
  rcases z2 with⟨j,t⟩
  intro z6;rcases z6 with _ | ⟨z7,cs⟩
  ·intro k e r;exfalso;injection e
  ·rcases z7 with⟨j',v⟩
   intro k e r;rw[Bo,Bo,JK]at e;refine Au e ?_;clear e;rintro e1 e2;subst e1;rcases r with _ | ⟨a,r⟩
   ·rw[Aks,RW]
    by_cases q:j=k
    ·rw[if_pos q,if_pos q];exact⟨_,rfl,a⟩
    ·rw[if_neg q,if_neg q];exact ih e2 r
set_option tactic.hygienic true in
theorem AkG{f:T->T->Option Bool}{g:CV->CV->Option Bool}(hf:∀{v w:CV} {t u:T} {b:Bool},TR DZ σ v t->TR DZ σ w u->f t u=some b->g v w=some b){fs:List (Int×T)}{gs:List (Int×CV)}(e0:fs.map (·.1)=gs.map (·.1))(r0:AB DZ σ (gs.map (·.2)) (fs.map (·.2))) :
  ∀{es:List (Int×T)} {cs:List (Int×CV)} {b:Bool},es.map (·.1)=cs.map (·.1)->AB DZ σ (cs.map (·.2)) (es.map (·.2))->Ih f fs es=some b->GP g gs cs=some b:=by
 intro es
 induction es with
 | nil =>
  intro cs b e r h;rcases cs with _ | _
  ·exact h
  ·exfalso;injection e
 | cons p es ih =>
  rcases p with⟨j,t⟩
  intro cs b e r h;rcases cs with _ | ⟨⟨j',v⟩,cs⟩
  ·exfalso;injection e
  ·rw[Bo,Bo,JK]at e;refine Au e ?_;clear e;rintro e1 e2;subst e1;refine Br r.cons_inv ?_;rintro v' ws e9 a r;refine Au (List.cons.inj e9) ?_;rintro rfl rfl;have z:=TL (k:=j) e0 r0;rw[Akt]at h;rw[RX];rcases q:Cz fs j with _ | u
   ·rw[q]at z h;rw[z];exact h
   ·rw[q]at z h;refine Ah z ?_;clear z;rintro w hw hr;rw[hw];dsimp only at h ⊢
    split at h
    ·rename_i x y h1 h2;rw[hf a hr h1,ih e2 r h2];exact h
    ·exfalso;injection h
inductive Jn(f:T->T->Option Bool):T->T->Bool->Prop
 | none:Jn f .none .none true
 | bool (x y:Bool):Jn f (.bool x) (.bool y) (x == y)
 | int (x y:Int):Jn f (.int x) (.int y) (x == y)
 | str (x y:Ac):Jn f (.str x) (.str y) (x == y)
 | tup {xs ys:List T} {b:Bool} (h:EC f xs ys=some b):Jn f (.node .tup xs) (.node .tup ys) b
 | lst {xs ys:List T} {b:Bool} (h:(if xs.length=ys.length then EC f xs ys else some false)=some b):Jn f (.node .lst xs) (.node .lst ys) b
 | dct {ks js:List Int} {xs ys:List T} {b:Bool} (h:(if xs.length=ys.length then Ih f (js.zip ys) (ks.zip xs)else some false)=some b):Jn f (.node (.dct ks) xs) (.node (.dct js) ys) b
theorem AkH{t u:T}(h:Bw (n+1) t u=some b):Jn (Bw n) t u b:=by
 rcases t with _ | x | x | x | ⟨k,xs⟩
 ·rcases u with _ | _ | _ | _ | ⟨_,_⟩
  case none=>obtain rfl:=Ay h;exact .none
  all_goals exact(Ax h).elim
 ·rcases u with _ | y | _ | _ | ⟨_,_⟩
  case bool=>obtain rfl:=Ay h;exact .bool x y
  all_goals exact(Ax h).elim
 ·rcases u with _ | _ | y | _ | ⟨_,_⟩
  case int=>obtain rfl:=Ay h;exact .int x y
  all_goals exact(Ax h).elim
 ·rcases u with _ | _ | _ | y | ⟨_,_⟩
  case str=>obtain rfl:=Ay h;exact .str x y
  all_goals exact(Ax h).elim
 ·rcases k with _ | _ | ks | ⟨C,zs⟩
  ·rcases u with _ | _ | _ | _ | ⟨_ | _ | _ | ⟨_,_⟩,ys⟩
   case node.tup=>exact .tup h
   all_goals exact(Ax h).elim
  ·rcases u with _ | _ | _ | _ | ⟨_ | _ | _ | ⟨_,_⟩,ys⟩
   case node.lst=>exact .lst h
   all_goals exact(Ax h).elim
  ·rcases u with _ | _ | _ | _ | ⟨_ | _ | js | ⟨_,_⟩,ys⟩
   case node.dct=>exact .dct h
   all_goals exact(Ax h).elim
  ·exact(Ax h).elim
theorem TR.none_inv{v:CV}(h:TR X σ v .none):v=.none:=by
 rcases h with _ | _ | _ | _ | _ | _
 rfl
theorem TR.bool_inv{v:CV}{x:Bool}(h:TR X σ v (.bool x)):v=.bool x:=by
 rcases h with _ | _ | _ | _ | _ | _
 rfl
theorem TR.str_inv{v:CV}(h:TR X σ v (.str x)):v=.str x:=by
 rcases h with _ | _ | _ | _ | _ | _
 rfl
set_option tactic.hygienic true in
theorem TM:∀(n:Nat) {v w:CV} {t u:T} {b:Bool},TR DZ σ v t->TR DZ σ w u->Bw n t u=some b->Cj σ n v w=some b:=by
 intro n
 induction n with
 | zero=>intro v w t u b _ _ h;exact(Ax h).elim
 | succ n ih =>
  intro v w t u b hv hw h;have q:=AkH h;clear h;rcases q with _ | ⟨x,y⟩ | ⟨x,y⟩ | ⟨x,y⟩ | h | h | h
  ·rw[hv.none_inv,hw.none_inv];rfl
  ·rw[hv.bool_inv,hw.bool_inv];rfl
  ·rw[hv.int_inv,hw.int_inv];rfl
  ·rw[hv.str_inv,hw.str_inv];rfl
  ·refine AG hv.tup_inv ?_;rintro vs e1 _ r1;refine AG hw.tup_inv ?_;rintro ws e2 _ r2;rw[e1,e2];exact Zb ih r1 r2 h
  ·refine AK hv.lst_ref ?_;rintro a rfl;refine AK hw.lst_ref ?_;rintro a' rfl;rcases hv.list with⟨_,vs,h1,_,r1⟩
   rcases hw.list with⟨_,ws,h2,_,r2⟩
   show JQ (Cj σ n) σ[a]? σ[a']? = some b;unfold JQ;rw[h1,h2];dsimp only;rw[r1.len,r2.len]
   split at h
   ·rename_i q;rw[if_pos q];exact Zb ih r1 r2 h
   ·rename_i q;rw[if_neg q];exact h
  ·rename_i ks js xs ys;refine AK hv.dct_ref ?_;rintro a rfl;refine AK hw.dct_ref ?_;rintro a' rfl;rcases hv.dict with⟨_,cs,h1,e1,r1⟩
   rcases hw.dict with⟨_,ds,h2,e2,r2⟩
   have l1:xs.length=cs.length:=by rw[<- r1.len,AJ]
   have l2:ys.length=ds.length:=by rw[<- r2.len,AJ]
   have k1:ks.length=xs.length:=by rw[e1,AJ,l1]
   have k2:js.length=ys.length:=by rw[e2,AJ,l2]
   show JQ (Cj σ n) σ[a]? σ[a']? = some b;unfold JQ;rw[h1,h2];dsimp only;rw[<- l1,<- l2]
   split at h
   ·rename_i q;rw[if_pos q];exact AkG ih ((TJ k2).trans e2) (by rw[TK k2];exact r2) ((TJ k1).trans e1) (by rw[TK k1];exact r1) h
   ·rename_i q;rw[if_neg q];exact h
set_option tactic.hygienic true in
theorem TN{v:CV}{t:T}(hv:TR DZ σ v t){vs:List CV}{ts:List T}{b:Bool}(r:AB DZ σ vs ts)(h:Ed (Bw n) t ts=some b):Es (Cj σ n) v vs=some b:=by
 revert b;refine AB.ind (P:=λvs ts=>∀{b},Ed (Bw n) t ts=some b->Es (Cj σ n) v vs=some b) (λh=>h) (λa r ih b h => ?_) r;rw[YQ]at h
 split at h
 ·rename_i x y e1 e2;rw[W9];rw[TM n a hv e1,ih e2];exact h
 ·exfalso;injection h
theorem Zc{t:T}{ts:List T}(h:SU t=some ts):t=.node .tup ts:=by
 rcases t with _ | _ | _ | _ | ⟨_ | _ | _ | _,us⟩
 case node.tup=>obtain rfl:=Ay h;rfl
 all_goals exact(Ax h).elim
theorem LN{v:V}{ts:List T}(h:FU v=some ts):v=.w (.fz (.node .tup ts)):=by
 rcases v with(_ | t | _) | _
 case w.fz=>rw[Zc h]
 all_goals exact(Ax h).elim
theorem AkI{v:V}{t:T}(h:SV v=some t):v=.w (.fz t):=by
 rcases v with(_ | t | _) | _
 case w.fz=>obtain rfl:=Ay h;rfl
 all_goals exact(Ax h).elim
theorem Zd{v:V}(h:Nr v=some u):v=.w (.fz .none):=by
 rcases v with(_ | (_ | _ | _ | _ | _) | _) | _
 case w.fz.none=>rfl
 all_goals exact(Ax h).elim
theorem AkJ{t:T}{i:Int}(h:YM t=some i):t=.int i:=by
 rcases t with _ | _ | _ | _ | _
 case int=>obtain rfl:=Ay h;rfl
 all_goals exact(Ax h).elim
theorem Kn{vs:List V}{P:V->Prop}(h:Gv vs P):∃v,vs=[v]/\P v:=by
 unfold Gv at h;rcases q:FJ vs with _ | v
 ·rw[q]at h;exact h.elim
 ·rw[q]at h;exact⟨v,JO q,h⟩
theorem Ze(s:Av X ρ α σ){b:V}{cb ca:CV}{t:T}{q:Bool}(h:Ke α t b=some q)(ra:TR DZ σ ca t)(r:UR (Zx X ρ α) ρ σ cb b):GQ σ ca cb=some q:=by
 unfold Ke at h;rcases e0:FU b with _ | ys
 ·rw[e0]at h;dsimp only at h;rcases e:DE α b with _ | ys
  ·rw[e]at h;refine AQ h λes e h'=>AQ h' λk ek hk => ?_;clear h h';obtain rfl:=AkJ ek;obtain rfl:=ra.int_inv;refine Cq (Qg s e r) ?_;rintro a cs rfl h1 h2 h3;unfold GQ;dsimp only;rw[h1];have z:=TL (k:=k) h2 h3;rcases q2:Cz es k with _ | u
   ·rw[q2]at z hk;dsimp only;rw[z];exact hk
   ·rw[q2]at z hk;refine Ah z ?_;clear z;rintro w hw _;dsimp only;rw[hw];exact hk
  ·rw[e]at h;refine Cq (FY s e r) ?_;rintro a vs rfl h1 h2 h3;unfold GQ;dsimp only;rw[h1];exact TN ra h3.any h
 ·rw[e0]at h;obtain rfl:=LN e0;refine AG (TR.tup_inv r) ?_;rintro vs rfl _ r1;exact TN ra r1.any h
theorem Zf{v:V}(h:LI v=some b)(r:UR Z ρ σ cv v):isNone cv=b:=by
 rcases v with(_ | t | _) | _
 ·refine Ah r ?_;clear r;rintro a _ rfl;exact Ay h
 ·have r':TR Z σ cv t:=r;rcases r' with _ | _ | _ | _ | _ | _<;>exact Ay h
 ·exact(Ax h).elim
 ·exact(Ax h).elim
theorem D3{v:V}{i:Int}(h:Cs v=some i)(r:UR Z ρ σ cv v):cv=.int i:=by
 rcases v with(_ | (_ | _ | _ | _ | _) | _) | _
 case w.fz.int =>
  obtain rfl:=Ay h;exact TR.int_inv r
 all_goals exact(Ax h).elim
theorem Zg(s:Av X ρ α σ){a b:V}{ca cb:CV}{q:Bool}(h:Nq α a b=some q)(ra:UR (Zx X ρ α) ρ σ ca a)(rb:UR (Zx X ρ α) ρ σ cb b):Cj σ 20 ca cb=some q :=
 AQ h λz e1 h=>AQ h λz e2 h=>TM 20 (ND s e1 ra) (ND s e2 rb) h
theorem TO(s:Av X ρ α σ){op:Fz}{a b:V}{ca cb:CV}{q:Bool}(h:Kf op α a b=some q)(ra:UR (Zx X ρ α) ρ σ ca a)(rb:UR (Zx X ρ α) ρ σ cb b):Et op ca cb σ=.ok q σ:=by
 have neg:∀{o:Option Bool},o.map (!·)=some q->∃q',o=some q'/\(!q')=q:=λ{o} h=>by
  rcases o with _ | q'
  ·exact(Ax h).elim
  ·exact⟨q',rfl,Ay h⟩
 rcases op with _ | _ | _ | _ | _ | _ | _ | _ | _ | _
 ·have h:Nq α a b=some q:=h;show H3 (Cj σ 20 ca cb) σ=_;rw[Zg s h ra rb];rfl
 ·refine Ah (neg (o:=Nq α a b) h) ?_;rintro q' h e;show H3 ((Cj σ 20 ca cb).map (!·)) σ=_;rw[Zg s h ra rb,<- e];rfl
 ·have h:ob (Cs a) (λx=>ob (Cs b) λy=>some (decide (x<y)))=some q:=h;refine AQ h λx e1 h=>AQ h λy e2 h => ?_;obtain rfl:=D3 e1 ra;obtain rfl:=D3 e2 rb;obtain rfl:=Ay h;rfl
 ·have h:ob (Cs a) (λx=>ob (Cs b) λy=>some (decide (x<=y)))=some q:=h;refine AQ h λx e1 h=>AQ h λy e2 h => ?_;obtain rfl:=D3 e1 ra;obtain rfl:=D3 e2 rb;obtain rfl:=Ay h;rfl
 ·have h:ob (Cs a) (λx=>ob (Cs b) λy=>some (decide (y<x)))=some q:=h;refine AQ h λx e1 h=>AQ h λy e2 h => ?_;obtain rfl:=D3 e1 ra;obtain rfl:=D3 e2 rb;obtain rfl:=Ay h;rfl
 ·have h:ob (Cs a) (λx=>ob (Cs b) λy=>some (decide (y<=x)))=some q:=h;refine AQ h λx e1 h=>AQ h λy e2 h => ?_;obtain rfl:=D3 e1 ra;obtain rfl:=D3 e2 rb;obtain rfl:=Ay h;rfl
 ·have h:ob (Nr b) (λz=>LI a)=some q:=h;refine AQ h λz e0 h => ?_;obtain rfl:=Zd e0;obtain rfl:=TR.none_inv (rb:TR (Zx X ρ α) σ cb .none);show ret (isNone ca) σ=_;rw[Zf h ra];rfl
 ·have h:ob (Nr b) (λz=>(LI a).map (!·))=some q:=h;refine AQ h λz e0 h => ?_;obtain rfl:=Zd e0;obtain rfl:=TR.none_inv (rb:TR (Zx X ρ α) σ cb .none);refine Ah (neg (o:=LI a) h) ?_;rintro q' h e;show ret (!isNone ca) σ=_;rw[Zf h ra,e];rfl
 ·have h:ob (HK α a) (λt=>Ke α t b)=some q:=h;refine AQ h λt e h => ?_;show H3 (GQ σ ca cb) σ=_;rw[Ze s h (ND s e ra) rb];rfl
 ·have h:ob (HK α a) (λt=>(Ke α t b).map (!·))=some q:=h;refine AQ h λt e h => ?_;refine Ah (neg (o:=Ke α t b) h) ?_;rintro q' h e2;show H3 ((GQ σ ca cb).map (!·)) σ=_;rw[Ze s h (ND s e ra) rb,<- e2];rfl
theorem AkK{t:T}(r:TR Z σ cv t):SX (.w (.fz t))=some b->GU cv σ=.ok b σ:=by
 rcases r with⟨⟩<;>intro q<;>first | exact(Ax q).elim | (rw[<- Ay q];rfl)
theorem TP(s:Av X ρ α σ){v:V}{cv:CV}{b:Bool}(h:Kc α v=some b)(r:UR (Zx X ρ α) ρ σ cv v):GU cv σ=.ok b σ:=by
 unfold Kc at h;rcases q:SX v with _ | b'
 ·rw[q]at h;refine AQ h λts e h => ?_;obtain rfl:=Ay h;refine Cq (FY s e r) ?_;rintro a vs rfl h1 h2 h3;unfold GU;dsimp only;unfold bnd;rw[Dt h1 h2];have:vs.isEmpty=ts.isEmpty:=by
   rcases h3 with _ | _<;>rfl
  show B8.ok (!vs.isEmpty) σ=_;rw[this]
 ·rw[q]at h;obtain rfl:=Ay h;rcases v with(_ | t | _) | _
  case w.fz =>
   exact AkK r q
  all_goals exact(Ax q).elim
end
end
section
def PR(X:Nat->Prop)(n:Nat)(α₁:AH)(r:Rv):CV->List Nat->AH->CH->Prop:=λb ρ' α' σ'=>α'=α₁/\EE X n ρ' α' σ' b r
section
variable {E:CX->Prop}{X Z:Nat->Prop}{ρ ρ':List Nat}{α α':AH}{σ σ':CH}{n:Nat}
theorem G3{x:CM CV}{b:CV}{t:T}(s:Av X ρ α σ)(e:x σ=.ok b σ)(h:TR (Zx X ρ α) σ b t):Sm E ρ α σ x (PR X n α (.v (Vf t))):=Sm.ok e AW.refl ⟨rfl,s,h⟩
theorem Ik{x:CM CV}{vs:List CV}{ts:List T}(s:Av X ρ α σ)(e:x σ=B2 vs σ)(h:AB (Zx X ρ α) σ vs ts)(z:small ts.length=true)(hn:n<=σ.length):Sm E ρ α σ x (PR X n α (.l ts)):=by
 have z':small vs.length=true:=by rw[h.len];exact z
 refine Sm.ok (e.trans (if_pos z')) (AW.lay _) ⟨rfl,EE.newList s h z' hn⟩
theorem Il{ts:List T}{vs:List CV}(h:AB Z σ vs ts)(z:small vs.length=true):small ts.length=true:=by rw[<- h.len];exact z
theorem AkL{a b:CV}{xs ys:List CV}{j:Nat}(ei:σ[i]? = some (.list xs))(zi:small xs.length=true)(ej:σ[j]? = some (.list ys))(zj:small ys.length=true):Gj .Add (.ref i) (.ref j) σ=B2 (xs++ys) σ:=by
 show bnd (listC i) _ σ=_;unfold bnd;rw[Dt ei zi];show bnd (listC j) _ σ=_;unfold bnd;rw[Dt ej zj]
theorem AB.rep{vs:List CV}{ts:List T}(h:AB Z σ vs ts):∀n,AB Z σ (D9 n vs).flatten (D9 n ts).flatten:=by
 intro z1
 induction z1 with
 | zero =>
  exact .nil
 | succ n ih =>
  rw[U4,U4,U5,U5];exact h.app (ih)
theorem AkM{op:HV}{x y z:Int}{g:Bool}(h:YO op x y=some (g,z))(hg:g=true):Gj op (.int x) (.int y) σ=.ok (.int z) σ:=by
 subst hg;rcases op with _ | _ | _ | _ | _ | _ | _ | _ | _ | _ | _ | _ | _
 case Add=>(refine Au (D8 (Ay h)) ?_;rintro _ rfl);rfl
 case Sub=>(refine Au (D8 (Ay h)) ?_;rintro _ rfl);rfl
 case Mult =>
  refine Au (D8 (Ay h)) ?_;rintro h1 rfl;exact congrFun (if_pos (of_decide_eq_true h1):Gj .Mult (.int x) (.int y)=ret _) σ
 case Mod =>
  refine Au (D8 (Ay h)) ?_;rintro h1 rfl;exact congrFun (if_pos (of_decide_eq_true h1):Gj .Mod (.int x) (.int y)=ret _) σ
 case FloorDiv =>
  refine Au (D8 (Ay h)) ?_;rintro h1 rfl;exact congrFun (if_pos (of_decide_eq_true h1):Gj .FloorDiv (.int x) (.int y)=ret _) σ
 all_goals exact(Ax h).elim
theorem Zh{op:HV}(h:SY op=some u):op=.Add:=by
 rcases op with _ | _ | _ | _ | _ | _ | _ | _ | _ | _ | _ | _ | _
 case Add=>rfl
 all_goals exact(Ax h).elim
theorem Zi{v:V}(h:Nn v=some x)(r:UR Z ρ σ cv v):cv=.str x:=by
 rcases v with(_ | (_ | _ | _ | _ | _) | _) | _
 case w.fz.str =>
  obtain rfl:=Ay h;have r':TR Z σ cv (.str _):=r;rcases r' with _ | _ | _ | _ | _ | _
  rfl
 all_goals exact(Ax h).elim
theorem Qh(s:Av X ρ α σ){op:HV}{a b:V}{ca cb:CV}{r:Rv}(h:Np op α a b=some (true,r))(ra:UR (Zx X ρ α) ρ σ ca a)(rb:UR (Zx X ρ α) ρ σ cb b)(hn:n<=σ.length):Sm E ρ α σ (Gj op ca cb) (PR X n α r):=by
 rcases op with _ | _ | _ | _ | _ | _ | _ | _ | _ | _ | _ | _ | _
 case Add =>
  refine AQ h λxs e1 h=>AQ h λys e2 h => ?_;refine Au (D8 (Ay h)) ?_;rintro h1 h2;refine Cq (FY s e1 ra) ?_;rintro i vs f1 a1 a2 a3;refine Cq (FY s e2 rb) ?_;rintro j ws f2 b1 b2 b3;rw[<- h2,f1,f2];exact Ik s (AkL (a:=.none) (b:=.none) a1 a2 b1 b2) (a3.app b3) (by rw[Bl];exact h1) hn
 case Mult =>
  refine AQ h λxs e1 h=>AQ h λn' e2 h => ?_;refine Au (D8 (Ay h)) ?_;rintro h1 h2;refine Cq (FY s e1 ra) ?_;rintro i vs f1 a1 a2 a3;rw[<- h2,f1,D3 e2 rb];rw[Bf,decide_eq_true_eq,<- a3.len]at h1;refine Ik s ?_ (a3.rep _) h1.2 hn;show bnd (listC i) _ σ=_;unfold bnd;rw[Dt a1 a2];exact congrFun (if_pos h1.1) σ
 all_goals exact(Ax h).elim
theorem AkN(s:Av X ρ α σ){op:HV}{a b:V}{ca cb:CV}{g:Bool}{r:Rv}(h:S0 op α a b=some (g,r))(hg:g=true)(ra:UR (Zx X ρ α) ρ σ ca a)(rb:UR (Zx X ρ α) ρ σ cb b)(hn:n<=σ.length):Sm E ρ α σ (Gj op ca cb) (PR X n α r):=by
 rw[hg]at h;unfold S0 at h;rcases e1:Cs a with _ | x
 ·rw[e1]at h;dsimp only at h;rcases e2:Nn a with _ | x
  ·rw[e2]at h;dsimp only at h;rcases e3:FU a with _ | xs
   ·rw[e3]at h;exact Qh s h ra rb hn
   ·rw[e3]at h;dsimp only at h;rcases e4:FU b with _ | ys
    ·rw[e4]at h;exact Qh s h ra rb hn
    ·rw[e4]at h;refine AQ h λj e h' => ?_;refine Au (D8 (Ay h')) ?_;rintro h1 h2;rw[LN e3]at ra;rw[LN e4]at rb;refine AG (TR.tup_inv ra) ?_;rintro vs f1 z1 r1;refine AG (TR.tup_inv rb) ?_;rintro ws f2 z2 r2;rw[Zh e,<- h2,f1,f2];have z:small (vs.length+ws.length)=true:=by rw[r1.len,r2.len];exact h1
     exact G3 s (congrFun (if_pos z:Gj .Add (.tup vs) (.tup ws)=ret _) σ) (.tup (by rw[Bl];exact z) (r1.app r2))
  ·rw[e2]at h;dsimp only at h;rcases e4:Nn b with _ | y
   ·rw[e4]at h;exact Qh s h ra rb hn
   ·rw[e4]at h;refine AQ h λj e h' => ?_;refine Au (D8 (Ay h')) ?_;rintro h1 h2;rw[Zh e,<- h2,Zi e2 ra,Zi e4 rb];exact G3 s (congrFun (if_pos h1:Gj .Add (.str x) (.str y)=ret _) σ) (.str _)
 ·rw[e1]at h;dsimp only at h;rcases e4:Cs b with _ | y
  ·rw[e4]at h;exact Qh s h ra rb hn
  ·rw[e4]at h;refine AQ h λq e h' => ?_;refine Au (D8 (Ay h')) ?_;rintro h1 h2;rw[<- h2,D3 e1 ra,D3 e4 rb];rcases q with⟨g,z⟩
   exact G3 s (AkM e h1) (.int _)
set_option tactic.hygienic true in
theorem Zj{ts:List T}{vs:List CV}{k:Int}{t:T}(h:E4 ts k=some t)(r:AB Z σ vs ts):∃v,K9 vs k σ=.ok v σ/\TR Z σ v t:=by
 unfold E4 at h
 split at h
 ·rename_i q;unfold K9;rw[if_pos q,r.len];rcases e:Ou k ts.length with _ | j
  ·rw[e]at h;(exfalso;injection h)
  ·rw[e]at h;refine Ah (r.at (i:=j) h) ?_;rintro v h1 h2;refine⟨v,?_,h2⟩;rw[Acp,h1];rfl
 ·exfalso;injection h
theorem AkO(s:Av X ρ α σ){o i:V}{co ci:CV}{t:T}(h:PU α o i=some t)(ro:UR (Zx X ρ α) ρ σ co o)(ri:UR (Zx X ρ α) ρ σ ci i):∃v,H4 co ci σ=.ok v σ/\TR (Zx X ρ α) σ v t:=by
 refine AQ h λk e h => ?_;obtain rfl:=D3 e ri;rcases e0:FU o with _ | ts
 ·rw[e0]at h;dsimp only at h;rcases e:DE α o with _ | ts
  ·rw[e]at h;refine AQ h λes e h => ?_;refine Cq (Qg s e ro) ?_;rintro a cs rfl h1 h2 h3;have z:=TL (k:=k) h2 h3;rw[h]at z;refine Ah z ?_;clear z;rintro v g1 g2;refine⟨v,?_,g2⟩;unfold H4;dsimp only;rw[if_neg (by rw[Qe h1];exact CD)]
   unfold bnd;rw[Qf h1];dsimp only;rw[g1];rfl
  ·rw[e]at h;refine Cq (FY s e ro) ?_;rintro a vs rfl h1 h2 h3;refine Ah (Zj h h3) ?_;rintro v g1 g2;refine⟨v,?_,g2⟩;unfold H4;dsimp only;rw[if_pos (Qd h1)];unfold bnd;rw[Dt h1 h2];exact g1
 ·rw[e0]at h;obtain rfl:=LN e0;refine AG (TR.tup_inv ro) ?_;rintro vs rfl _ r1;exact Zj h r1
theorem AkP(s:Av X ρ α σ){o i:V}{co ci:CV}{t:T}(h:PU α o i=some t)(ro:UR (Zx X ρ α) ρ σ co o)(ri:UR (Zx X ρ α) ρ σ ci i):Sm E ρ α σ (H4 co ci) (PR X n α (.v (Vf t))):=by
 refine Ah (AkO s h ro ri) ?_;rintro v h1 h2;exact G3 s h1 h2
theorem Zk{Y:Nat->Prop}:∀{as:List (Ac×W)} {cs:List (Ac×CV)} {x:Ac} {w:W},as.map (·.1)=cs.map (·.1)->Ds Y ρ σ (cs.map (·.2)) (as.map (·.2))->as.lookup x=some w->∃v,cs.lookup x=some v/\WR Y ρ σ v w:=by
 intro z1
 induction z1 with
 | nil =>
  intro z3;rcases z3 with _ | ⟨z4,z5⟩
  ·intro x w e r h;exfalso;injection h
  ·intro x w e r h;exfalso;injection e
 | cons z2 as ih =>
  rcases z2 with⟨y,w'⟩
  intro z6;rcases z6 with _ | ⟨z7,cs⟩
  ·intro x w e r h;exfalso;injection e
  ·rcases z7 with⟨y',v⟩
   intro x w e r h;rw[Bo,Bo,JK]at e;refine Au e ?_;clear e;rintro e1 e2;subst e1;rw[BI]at h ⊢;rcases q:x == y with _ | _
   ·rw[q]at h;exact ih e2 r.2 h
   ·rw[q]at h;injection h with za;subst za
    exact⟨v,rfl,r.1⟩
theorem AkQ{Y:Nat->Prop}:∀{xs:List Ac} {ts:List T} {cs:List (Ac×CV)} {x:Ac} {t:T},xs=cs.map (·.1)->AB Y σ (cs.map (·.2)) ts->(xs.zip ts).lookup x=some t->∃v,cs.lookup x=some v/\TR Y σ v t:=by
 intro z1
 induction z1 with
 | nil =>
  intro ts z2;rcases z2 with _ | ⟨z3,z4⟩
  ·intro x t e r h;exfalso;injection h
  ·intro x t e r h;exfalso;injection e
 | cons y xs ih =>
  intro ts z5;rcases z5 with _ | ⟨z6,cs⟩
  ·intro x t e r h;exfalso;injection e
  ·rcases z6 with⟨y',v⟩
   intro x t e r h;rw[Bo,JK]at e;refine Au e ?_;clear e;rintro e1 e2;subst e1;rcases r with _ | ⟨a,r⟩
   ·rw[HX,BI]at h;rw[BI];rcases q:x == y with _ | _
    ·rw[q]at h;exact ih e2 r h
    ·rw[q]at h;injection h with za;subst za
     exact⟨v,rfl,a⟩
structure GT(Γ:AP):Prop where
 top:Γ.top=Gh
 bins:Γ.bins=EU
 attrs:Γ.attrs=KW
 meths:Γ.meths=HZ
 inits:Γ.inits=GK
 clsfn:Γ.clsfn=KY
 excs:Γ.excs=HI
theorem NF(K:Bk)(N k:Nat):GT (BW K N k):=⟨Ajc _ _ _,Ajd _ _ _,Aje _ _ _,Ajf _ _ _,Yv _ _ _,Ajg _ _ _,by rcases k with⟨⟩<;>rfl⟩
theorem GT.has(g:GT Γ){C:Af}{x:Ac}:FL Γ C x=FL G0 C x:=by unfold FL;rw[g.attrs];rfl
theorem AkR(g:GT Γ)(s:Av X ρ α σ){v:V}{cv:CV}{x:Ac}{w:W}(h:S1 α v x=some w)(r:UR (Zx X ρ α) ρ σ cv v):∃c,H5 Γ cv x σ=.ok c σ/\WR (Zx X ρ α) ρ σ c w:=by
 have key:∀{a:Nat} {C:Af} {cs:List (Ac×CV)} {c:CV},σ[a]? = some (.inst C cs)->FL G0 C x=true->cs.lookup x=some c->H5 Γ (.ref a) x σ=.ok c σ:=λ{a C cs c} e1 e2 e3=>by
  unfold H5;dsimp only;unfold bnd;rw[Za e1];dsimp only;rw[g.has,if_pos e2,e3];rfl
 unfold S1 at h;rcases v with(k | t | _) | _
 ·dsimp only at h;rcases e:α[k]? with _ | (_ | _ | ⟨C,as⟩ | _)
  case some.ins =>
   rw[e]at h;dsimp only at h;refine Ah r ?_;clear r;rintro a h1 rfl;refine AG (s.ob _ a _ h1 e) ?_;rintro cs h2 h3 h4;rcases hh:FL G0 C x with _ | _
   ·rw[hh]at h;exact(Ax h).elim
   ·rw[hh]at h;refine Ah (Zk h3 h4 h) ?_;rintro c h5 h6;exact⟨c,key h2 hh h5,h6⟩
  all_goals (rw[e]at h;exact(Ax h).elim)
 ·rcases t with _ | _ | _ | _ | ⟨_ | _ | _ | ⟨C,xs⟩,ts⟩
  case node.ins =>
   dsimp only at h;have r':TR (Zx X ρ α) σ cv (.node (.ins C xs) ts):=r;refine AK r'.ins_ref ?_;rintro a rfl;rcases r'.inst with⟨_,cs,h2,h3,h4⟩
   rcases hh:FL G0 C x with _ | _
   ·rw[hh]at h;exact(Ax h).elim
   ·rw[hh]at h;dsimp only at h;rcases q:(xs.zip ts).lookup x with _ | t
    ·rw[q]at h;exact(Ax h).elim
    ·rw[q]at h;injection h with za;subst za
     refine Ah (AkQ h3 h4 q) ?_;rintro c h5 h6;exact⟨c,key h2 hh h5,h6⟩
  all_goals exact(Ax h).elim
 ·exact(Ax h).elim
 ·exact(Ax h).elim
theorem Zl{v:V}{o:Option Int}(h:S3 v=some o)(r:UR Z ρ σ cv v):La cv=some o:=by
 rcases v with(_ | t | _) | _
 case w.fz =>
  have r':TR Z σ cv t:=r;rcases r' with _ | _ | _ | _ | _ | _<;>first | exact(Ax h).elim | (obtain rfl:=Ay h;rfl)
 all_goals exact(Ax h).elim
theorem AkS(n m:Nat)(ts:List T):((ts.drop n).take m).length<=ts.length:=by
 rw[Ox,QZ];exact om4
theorem TQ{m:Nat}(h:small n=true)(e:m<=n):small m=true:=by
 unfold small at *;rw[decide_eq_true_eq]at *;exact AE e h
theorem AkT(s:Av X ρ α σ){o a b:V}{co ca cb:CV}{ts:List T}(h:S4 α o a b=some ts)(ro:UR (Zx X ρ α) ρ σ co o)(ra:UR (Zx X ρ α) ρ σ ca a)(rb:UR (Zx X ρ α) ρ σ cb b)(hn:n<=σ.length):Sm E ρ α σ (MF co ca cb) (PR X n α (.l ts)):=by
 refine AQ h λus e1 h=>AQ h λlo e2 h=>AQ h λhi e3 h => ?_;obtain rfl:=Ay h;refine Cq (FY s e1 ro) ?_;rintro i vs rfl h1 h2 h3;refine Ik (vs:=IT vs lo hi) s ?_ ?_ (TQ (Il h3 h2) (AkS _ _ _)) hn
 ·unfold MF;rw[Zl e2 ra,Zl e3 rb];dsimp only;unfold Mine.Internal.bnd;rw[Dt h1 h2]
 ·unfold IT Nt;rw[h3.len];exact(h3.drop _).take _
end
end
section
section
variable {E:CX->Prop}{X Z:Nat->Prop}{ρ ρ':List Nat}{α α':AH}{σ σ':CH}{n:Nat}
theorem Co{x:CM β}{f:β->CM γ}{b:β}(e:x σ=.ok b σ'):bnd x f σ=f b σ':=by
 unfold bnd;rw[e]
theorem Ko{vs:List CV}{v:V}(r:BA Z ρ σ vs [v]):∃c,vs=[c]/\UR Z ρ σ c v:=by
 match vs,r with
 | [c],r=>exact⟨c,rfl,r.1⟩
theorem AkU{vs:List CV}{v w:V}(r:BA Z ρ σ vs [v,w]):∃c d,vs=[c,d]/\UR Z ρ σ c v/\UR Z ρ σ d w:=by
 match vs,r with
 | [c,d],r=>exact⟨c,d,rfl,r.1,r.2.1⟩
theorem AkV{vs:List CV}(r:BA Z ρ σ vs []):vs=[]:=by
 match vs,r with
 | [],r=>rfl
theorem AkW:∀{ts:List T} {vs:List CV} {is:List Int},Ii ts=some is->AB Z σ vs ts->Ff vs=some is:=by
 intro z1
 induction z1 with
 | nil =>
  intro z2 is h z3;obtain rfl:=z3.nil_inv;exact h
 | cons t ts ih =>
  intro z4 is h z5;refine Br z5.cons_inv ?_;rintro z6 z7 rfl a r;rcases t with _ | _ | i | _ | _
  case int =>
   have h:(match Ii ts with | some is=>some (i::is) | none=>none)=some is:=h
   obtain rfl:=a.int_inv;rcases e2:Ii ts with _ | js
   ·rw[e2]at h;exact(Ax h).elim
   ·rw[e2]at h;obtain rfl:=Ay h;show(match Ff z7 with | some is=>some (i::is) | none=>none)=_
    rw[ih e2 r]
  all_goals exact(Ax h).elim
theorem AkX(es:List (Int×CV)):AB Z σ (es.map λp=>CV.int p.1) ((es.map (·.1)).map T.int):=by
 induction es with
 | nil=>exact .nil
 | cons p r ih=>exact .cons (.int _) ih
theorem AkY(is:List Int):(EX is).length=is.length:=by
 have ins:∀(x:Int) (l:List Int),(Hy x l).length=l.length+1:=by
  intro x l
  induction l with
  | nil=>rfl
  | cons y r ih =>
   rw[R7]
   split
   ·rfl
   ·rw[BN,ih];rfl
 induction is with
 | nil=>rfl
 | cons x r ih =>
  show(Hy x (EX r)).length=_;rw[ins,ih];rfl
theorem AkZ(s:Av X ρ α σ){v:V}{cv:CV}{ts:List T}(h:S6 α v=some ts)(r:UR (Zx X ρ α) ρ σ cv v)(hn:n<=σ.length):Sm E ρ α σ (JT cv) (PR X n α (.l ts)):=by
 unfold S6 at h;rcases q:S5 α v with _ | is
 ·rw[q]at h;(exfalso;injection h)
 ·rw[q]at h;dsimp only at h
  by_cases hl:is.length<64
  ·rw[if_pos hl]at h;injection h with za;subst za
   refine Ik (vs:=(EX is).map .int) s ?_ (AB.ints _) ?_ hn
   ·have fin:Lc is σ=B2 ((EX is).map .int) σ:=by unfold Lc;rw[if_pos hl]
    unfold S5 at q;rcases ql:DE α v with _ | us
    ·rw[ql]at q;rcases qd:LG α v with _ | es
     ·rw[qd]at q;(exfalso;injection q)
     ·rw[qd]at q;injection q with za;subst za
      refine Cq (Qg s qd r) ?_;rintro a cs rfl h1 h2 h3;unfold JT;dsimp only;rw[if_neg (by rw[Qe h1];exact CD),Co (Qf h1),show cs.map (·.1)=es.map λp=>p.1 from h2.symm]
      exact fin
    ·rw[ql]at q;refine Cq (FY s ql r) ?_;rintro a vs rfl h1 h2 h3;unfold JT;dsimp only;rw[if_pos (Qd h1),Co (Dt h1 h2),AkW q h3];exact fin
   ·unfold small;rw[decide_eq_true_eq,AJ,AkY];exact om6 hl
  ·rw[if_neg hl]at h;exfalso;injection h
theorem Ak0(s:Av X ρ α σ){x y:Int}:Sm E ρ α σ (MI (.int x) (.int y)) (PR X n α (.v (Vf (.int (if y<x then y else x))))):=G3 s rfl (.int _)
abbrev BQ(X:Nat->Prop)(n:Nat)(α:AH)(Q:Rv->List Al->Prop):CV->List Nat->AH->CH->Prop:=λb ρ' α' σ'=>∃rv as',PR X n α rv b ρ' α' σ'/\Q rv as'
theorem Ak1(s:Av X ρ α σ){vs:List V}{cvs:List CV}{as:List Al}{Q:Rv->List Al->Prop}(h:YR α vs as Q)(r:BA (Zx X ρ α) ρ σ cvs vs)(hn:n<=σ.length):Sm E ρ α σ (DK Lb cvs) (BQ X n α Q):=by
 refine Ah (Kn h) ?_;rintro w rfl h;refine Ah (Ko r) ?_;rintro c rfl q;rcases e0:FU w with _ | ts
 ·rw[e0]at h;refine Ah (BL h) ?_;rintro ts e h;refine Cq (FY s e q) ?_;rintro a us rfl h1 h2 h3;rw[<- h3.len]at h;have e2:DK Lb [.ref a] σ=.ok (.int us.length) σ:=by
   show bnd (listC a) _ σ=_;rw[Co (Dt h1 h2)];rfl
  exact(G3 s e2 (.int _)).mono λx x x x x p=>⟨_,_,p,h⟩
 ·rw[e0]at h;obtain rfl:=LN e0;refine AG (TR.tup_inv q) ?_;rintro us rfl z r1;dsimp only at h;rw[<- r1.len]at h;exact(G3 s (congrFun (if_pos z:Lb (.tup us)=ret _) σ) (.int _)).mono λx x x x x p=>⟨_,_,p,h⟩
theorem Ak2(s:Av X ρ α σ){vs:List V}{cvs:List CV}{as:List Al}{Q:Rv->List Al->Prop}(h:YS α vs as Q)(r:BA (Zx X ρ α) ρ σ cvs vs)(hn:n<=σ.length):Sm E ρ α σ (DK IU cvs) (BQ X n α Q):=by
 refine Ah (Kn h) ?_;rintro w rfl h
 ·refine Ah (Ko r) ?_;rintro c rfl q;rcases e:DE α w with _ | ts
  case some =>
   rw[e]at h;refine Cq (FY s e q) ?_;rintro a us rfl h1 h2 h3;refine(Ik s (vs:=us) ?_ h3 (Il h3 h2) hn).mono λz z z z z p=>⟨_,_,p,h⟩;show IU (.ref a) σ=_;unfold IU;dsimp only;rw[if_pos (Qd h1),Co (Dt h1 h2)]
  ·rw[e]at h;refine Ah (BL h) ?_;rintro es e h;rcases Km h with⟨g,as',h⟩
   refine Cq (Qg s e q) ?_;rintro a cs rfl h1 h2 h3;have e2:es.map (λp=>T.int p.1)=(cs.map (·.1)).map T.int:=by rw[<- h2,C5];rfl
   rw[e2]at h;refine(Ik s (vs:=cs.map λp=>.int p.1) ?_ (AkX cs) ?_ hn).mono λz z z z z p=>⟨_,_,p,h⟩
   ·show IU (.ref a) σ=_;unfold IU;dsimp only;rw[if_neg (by rw[Qe h1];exact CD),Co (Qf h1)]
   ·have:=congrArg IH h2;rw[AJ,AJ]at this;rw[AJ,AJ,<- this];exact g
theorem Ak3(s:Av X ρ α σ){vs:List V}{cvs:List CV}{as:List Al}{Q:Rv->List Al->Prop}(h:YT α vs as Q)(r:BA (Zx X ρ α) ρ σ cvs vs)(hn:n<=σ.length):Sm E ρ α σ (DK Pj cvs) (BQ X n α Q):=by
 refine Ah (Kn h) ?_;rintro w rfl h;refine Ah (Ko r) ?_;rintro c rfl q;rcases e0:FU w with _ | ts
 case some =>
  rw[e0]at h;obtain rfl:=LN e0;refine AG (TR.tup_inv q) ?_;rintro us rfl z r1;exact(G3 s rfl (.tup z r1)).mono λx x x x x p=>⟨_,_,p,h⟩
 ·rw[e0]at h;refine Ah (BL h) ?_;rintro ts e h;refine Cq (FY s e q) ?_;rintro a us rfl h1 h2 h3;refine(G3 s (b:=.tup us) ?_ (.tup h2 h3)).mono λx x x x x p=>⟨_,_,p,h⟩;show bnd (listC a) EV σ=_;rw[Co (Dt h1 h2)];exact congrFun (if_pos h2) σ
theorem Ak4(s:Av X ρ α σ){vs:List V}{cvs:List CV}{as:List Al}{Q:Rv->List Al->Prop}(h:YU α vs as Q)(r:BA (Zx X ρ α) ρ σ cvs vs)(hn:n<=σ.length):Sm E ρ α σ (DK JT cvs) (BQ X n α Q):=by
 refine Ah (Kn h) ?_;rintro w rfl h;refine Ah (Ko r) ?_;rintro c rfl q;refine Bg (Gy h) ?_;rintro ts as' e h;exact(AkZ s e q hn).mono λz z z z z p=>⟨_,_,p,h⟩
theorem Ak5(s:Av X ρ α σ){vs:List V}{cvs:List CV}{as:List Al}{Q:Rv->List Al->Prop}(h:YV α vs as Q)(r:BA (Zx X ρ α) ρ σ cvs vs)(hn:n<=σ.length):Sm E ρ α σ (Xu MI cvs) (BQ X n α Q):=by
 rcases vs with _ | ⟨_,_ | ⟨_,_ | ⟨_,_⟩⟩⟩
 ·exact h.elim
 ·exact h.elim
 ·refine Br (AkU r) ?_;rintro c d rfl r1 r2;refine Ah (BL h) ?_;rintro x e1 h;refine Ah (BL h) ?_;rintro y e2 h;rcases D3 e1 r1 with rfl
  rcases D3 e2 r2 with rfl
  exact(Ak0 s).mono λz z z z z p=>⟨_,_,p,h⟩
 ·exact h.elim
theorem Ak6(s:Av X ρ α σ){vs:List V}{cvs:List CV}{as:List Al}{Q:Rv->List Al->Prop}(h:YW α vs as Q)(r:BA (Zx X ρ α) ρ σ cvs vs)(hn:n<=σ.length):Sm E ρ α σ (DK MJ cvs) (BQ X n α Q):=by
 refine Ah (Kn h) ?_;rintro w rfl h
 ·refine Ah (Ko r) ?_;rintro c rfl q;refine Ah (BL h) ?_;rintro x e1 h;rcases Km h with⟨g,as',h⟩
  rcases D3 e1 q with rfl
  rw[decide_eq_true_eq]at g;exact(G3 s (congrFun (if_pos g:MJ (.int x)=ret _) σ) (.str _)).mono λz z z z z p=>⟨_,_,p,h⟩
theorem Ak7(s:Av X ρ α σ){x:Ac}{v:Ad}(hv:EU.lookup x=some v){vs:List V}{cvs:List CV}{as:List Al}{Q:Rv->List Al->Prop}(h:S9 x α vs as Q)(r:BA (Zx X ρ α) ρ σ cvs vs)(hn:n<=σ.length) :
  Sm E ρ α σ (Pn v cvs) (BQ X n α Q):=by
 unfold S9 at h
 by_cases e:x=Ab "len"
 ·rw[if_pos e]at h;subst e;obtain rfl:F5 "len" = v:=Ay ((by kernel_rfl:some (F5 "len")=EU.lookup (Ab "len")).trans hv)
  exact Ak1 s h r hn
 rw[if_neg e]at h
 by_cases e:x=Ab "list"
 ·rw[if_pos e]at h;subst e;obtain rfl:EO "list" = v:=Ay ((by kernel_rfl:some (EO "list")=EU.lookup (Ab "list")).trans hv)
  exact Ak2 s h r hn
 rw[if_neg e]at h
 by_cases e:x=Ab "tuple"
 ·rw[if_pos e]at h;subst e;obtain rfl:EO "tuple" = v:=Ay ((by kernel_rfl:some (EO "tuple")=EU.lookup (Ab "tuple")).trans hv)
  exact Ak3 s h r hn
 rw[if_neg e]at h
 by_cases e:x=Ab "sorted"
 ·rw[if_pos e]at h;subst e;obtain rfl:F5 "sorted" = v:=Ay ((by kernel_rfl:some (F5 "sorted")=EU.lookup (Ab "sorted")).trans hv)
  exact Ak4 s h r hn
 rw[if_neg e]at h
 by_cases e:x=Ab "min"
 ·rw[if_pos e]at h;subst e;obtain rfl:F5 "min" = v:=Ay ((by kernel_rfl:some (F5 "min")=EU.lookup (Ab "min")).trans hv)
  exact Ak5 s h r hn
 rw[if_neg e]at h
 by_cases e:x=Ab "str"
 ·rw[if_pos e]at h;subst e;obtain rfl:EO "str" = v:=Ay ((by kernel_rfl:some (EO "str")=EU.lookup (Ab "str")).trans hv)
  exact Ak6 s h r hn
 rw[if_neg e]at h;exact h.elim
theorem Zm(a c:Int)(n:Nat):(DV a c n).length=n:=by
 unfold DV;rw[AJ,BY]
theorem Ak8:∀{vs:List V} {cvs:List CV} {is:List Int},Kg vs=some is->BA Z ρ σ cvs vs->cvs=is.map .int:=by
 intro z1
 induction z1 with
 | nil =>
  intro z2;rcases z2 with _ | ⟨z3,z4⟩
  ·intro is h z5;injection h with za;subst za;rfl
  ·intro z6 z7 r;exact r.elim
 | cons v vs ih =>
  intro z8;rcases z8 with _ | ⟨c,cs⟩
  ·intro z9 z10 r;exact r.elim
  ·intro is h r;have h:(match Cs v,Kg vs with | some i,some is=>some (i::is) | _,_=>none)=some is:=h
   rcases e1:Cs v with _ | i
   ·rw[e1]at h;(exfalso;injection h)
   ·rcases e2:Kg vs with _ | js
    ·rw[e1,e2]at h;(exfalso;injection h)
    ·rw[e1,e2]at h;injection h with za;subst za
     rw[D3 e1 r.1,ih e2 r.2];rfl
theorem Zn{a c:Int}{m:Nat}(h:FP is=some (a,c,m)):MR (is.map .int)=some (a,c,m)/\m<=4000:=by
 refine⟨by unfold MR;rw[Xh];exact h,?_⟩
 rcases is with _ | ⟨x,_ | ⟨y,_ | ⟨z,_ | ⟨u,r⟩⟩⟩⟩
 ·exact(Ax h).elim
 ·by_cases q:Ew x=true/\x.toNat<=4000
  ·have z0:_=_:=(if_pos q).symm.trans h;injection z0 with za;injection za with za zb;subst za;injection zb with za zb;subst za;subst zb
   exact q.2
  ·have z0:_=_:=(if_neg q).symm.trans h;exfalso;injection z0
 ·by_cases q:Ew x=true/\Ew y=true/\(y-x).toNat<=4000
  ·have z0:_=_:=(if_pos q).symm.trans h;injection z0 with za;injection za with za zb;subst za;injection zb with za zb;subst za;subst zb
   exact q.2.2
  ·have z0:_=_:=(if_neg q).symm.trans h;exfalso;injection z0
 ·by_cases q:z = -1/\Ew x=true/\Ew y=true/\(x-y).toNat<=4000
  ·have z0:_=_:=(if_pos q).symm.trans h;injection z0 with za;injection za with za zb;subst za;injection zb with za zb;subst za;subst zb
   exact q.2.2.2
  ·have z0:_=_:=(if_neg q).symm.trans h;exfalso;injection z0
 ·exact(Ax h).elim
theorem Zo{vs:List V}{ts:List T}(h:G2 vs=some ts)(r:BA Z ρ σ cvs vs):∃a c m,MR cvs=some (a,c,m)/\m<=4000/\ts=(DV a c m).map .int:=by
 unfold G2 at h;rcases e1:Kg vs with _ | is
 ·rw[e1]at h;(exfalso;injection h)
 ·rw[e1]at h;have h:(match FP is with | some (a,c,n)=>some ((DV a c n).map T.int) | none=>none)=some ts:=h
  rcases e2:FP is with _ | p
  ·rw[e2]at h;(exfalso;injection h)
  ·rcases p with⟨a,c,m⟩
   rw[e2]at h;injection h with za;subst za
   rcases Ak8 e1 r with rfl
   exact⟨a,c,m,(Zn e2).1,(Zn e2).2,rfl⟩
theorem Zp{t:T}{ts:List T}{l:List Nat}(h:FW (t::ts)=some l):∃i l',t=.int i/\(0<=i/\i<7)/\FW ts=some l'/\l=i.toNat::l':=by
 rcases t with _ | _ | i | _ | _
 case int =>
  by_cases q:0<=i/\i<7
  ·have h:=(if_pos q).symm.trans h;rcases e:FW ts with _ | l'
   ·rw[e]at h;exact(Ax h).elim
   ·rw[e]at h;obtain rfl:=Ay h;exact⟨i,l',rfl,q,rfl,rfl⟩
  ·exact(Ax ((if_neg q).symm.trans h)).elim
 all_goals exact(Ax h).elim
theorem Ak9:∀{ts:List T} {vs:List CV} {l:List Nat},FW ts=some l->AB Z σ vs ts->Ia vs=some l:=by
 intro z1
 induction z1 with
 | nil =>
  intro z2 l h z3;obtain rfl:=z3.nil_inv;exact h
 | cons t ts ih =>
  intro z4 l h z5;refine Br z5.cons_inv ?_;rintro z6 z7 rfl a r;refine Cq (Zp h) ?_;rintro i l' rfl q e2 rfl;obtain rfl:=a.int_inv;rw[AhY];rw[if_pos q,ih e2 r]
theorem Ala(l:List Nat):AB Z σ (l.map λn:Nat=>CV.int (n:Int)) (l.map λn:Nat=>T.int (n:Int)):=by
 induction l with
 | nil=>exact .nil
 | cons n r ih=>exact .cons (.int _) ih
theorem Alb(v:Nat)(l:List Nat):(Gl v l).length<=l.length+1:=by
 have ins:∀l:List Nat,(C2 v l).length=l.length+1:=by
  intro l
  induction l with
  | nil=>rfl
  | cons y r ih =>
   rw[Pq]
   split
   ·rfl
   ·rw[BN,ih];rfl
 unfold Gl
 split
 ·exact HU _
 ·rw[ins];exact AM _
theorem Alc(l:List Nat):(HC l).length<=l.length:=by
 have:∀(f:Nat->Nat) (n:Nat),(Gm f n).length<=n:=by
  intro f n
  induction n with
  | zero=>exact AM _
  | succ n ih=>exact AE (Alb _ _) (FA ih)
 exact this _ _
theorem Ald:∀{ts:List T} {l:List Nat},FW ts=some l->l.length=ts.length:=by
 intro z1
 induction z1 with
 | nil =>
  intro l h;injection h with za;subst za;rfl
 | cons t ts ih =>
  intro l h;refine Cq (Zp h) ?_;rintro i l' rfl q e2 rfl;rw[BN,BN,ih e2]
theorem Ale(s:Av X ρ α σ){v:V}{cv:CV}{ts:List T}(h:S7 α v=some ts)(r:UR (Zx X ρ α) ρ σ cv v)(hn:n<=σ.length):Sm E ρ α σ (bnd (JX cv) MW) (PR X n α (.l ts)):=by
 unfold S7 at h;rcases q:DE α v with _ | us
 ·rw[q]at h;(exfalso;injection h)
 ·rw[q]at h;dsimp only at h;rcases q2:FW us with _ | l
  ·rw[q2]at h;(exfalso;injection h)
  ·rw[q2]at h;injection h with za;subst za
   refine Cq (FY s q r) ?_;rintro a vs rfl h1 h2 h3;refine Ik s (vs:=(HC l).map λn:Nat=>CV.int (n:Int)) ?_ (Ala _) ?_ hn
   ·have e:JX (.ref a) σ=.ok (HC l) σ:=by
     show Mine.Internal.bnd (listC a) _ σ=_;rw[Co (Dt h1 h2),Ak9 q2 h3];rfl
    rw[Co e];rfl
   ·refine TQ (Il h3 h2) ?_;rw[AJ];exact AE (Alc _) (Md (Ald q2))
theorem Zq{es:List (Int×T)}{cs:List (Int×CV)}{k:Int}{v:CV}{t:T}(e:es.map (·.1)=cs.map (·.1))(r:AB Z σ (cs.map (·.2)) (es.map (·.2)))(a:TR Z σ v t) :
  (Cn es k t).map (·.1)=(EY cs k v).map (·.1)/\AB Z σ ((EY cs k v).map (·.2)) ((Cn es k t).map (·.2)):=by
 have any:∀{es:List (Int×T)} {cs:List (Int×CV)},es.map (·.1)=cs.map (·.1)->(es.any λp=>decide (p.1=k))=cs.any λp=>decide (p.1=k):=by
  intro es
  induction es with
  | nil=>intro cs e;cases cs with | nil=>rfl | cons _ _=>(exfalso;injection e)
  | cons p es ih =>
   intro cs e;rcases cs with _ | ⟨q,cs⟩
   ·exfalso;injection e
   ·rw[Bo,Bo,JK]at e;rw[Ot,Ot,ih e.2,e.1]
 have rep:∀{es:List (Int×T)} {cs:List (Int×CV)},es.map (·.1)=cs.map (·.1)->AB Z σ (cs.map (·.2)) (es.map (·.2)) ->
   (es.map λp=>if p.1=k then(p.1,t)else p).map (·.1)=(cs.map λp=>if p.1=k then(p.1,v)else p).map (·.1)/\AB Z σ ((cs.map λp=>if p.1=k then(p.1,v)else p).map (·.2)) ((es.map λp=>if p.1=k then(p.1,t)else p).map (·.2)):=by
  intro es
  induction es with
  | nil=>intro cs e r;cases cs with | nil=>exact⟨rfl,.nil⟩ | cons _ _=>(exfalso;injection e)
  | cons p es ih =>
   intro cs e r;rcases cs with _ | ⟨q,cs⟩
   ·exfalso;injection e
   ·rw[Bo,Bo,JK]at e;rcases r with _ | ⟨a',r⟩
    ·refine Au (ih e.2 r) ?_;rintro i1 i2;rw[Bo,Bo,Bo,Bo,Bo,Bo,i1,e.1]
     by_cases h:q.1=k
     ·rw[if_pos h,if_pos h];exact⟨rfl,.cons a i2⟩
     ·rw[if_neg h,if_neg h];exact⟨by rw[e.1],.cons a' i2⟩
 unfold Cn EY;rw[any e]
 split
 ·exact rep e r
 ·rw[BP,BP,BP,BP,e];exact⟨rfl,r.app (.cons a .nil)⟩
set_option tactic.hygienic true in
theorem Alf{t v:T}{k:Int}(h:Nu t=some (k,v)):t=.node .tup [.int k,v]:=by
 rcases t with⟨⟩<;>try exact(Ax h).elim
 rename_i kd ts;rcases kd with⟨⟩<;>try exact(Ax h).elim
 rcases ts with _ | ⟨a,r⟩
 ·exact(Ax h).elim
 ·rcases a with⟨⟩<;>try exact(Ax h).elim
  rcases r with _ | ⟨b,r⟩
  ·exact(Ax h).elim
  ·rcases r with _ | ⟨_,_⟩
   ·refine Au (D8 (Ay h)) ?_;rintro rfl rfl;rfl
   ·exact(Ax h).elim
theorem Alh{t:T}{ts:List T}{ps:List (Int×T)}(h:Fn (t::ts)=some ps):∃k u us,Nu t=some (k,u)/\Fn ts=some us/\ps=(k,u)::us:=by
 have h:(match Nu t with
  | some p=>(match Fn ts with
   | some ps=>some (p::ps)
   | none=>none)
  | none=>none)=some ps:=h
 rcases q:Nu t with _ | p
 ·rw[q]at h;exact(Ax h).elim
 ·rw[q]at h;rcases q2:Fn ts with _ | us
  ·rw[q2]at h;exact(Ax h).elim
  ·rw[q2]at h;exact⟨p.1,p.2,us,rfl,rfl,(Ay h).symm⟩
theorem Ali{k:Int}{v:CV}{vs:List CV}{qs:List (Int×CV)}(h:Gn vs=some qs):Gn (.tup [.int k,v]::vs)=some ((k,v)::qs):=by
 show(match Gn _ with | some ps=>some ((k,v)::ps) | none=>none)=_
 rw[h]
theorem Alj{ts:List T}{vs:List CV}{ps:List (Int×T)}(h:Fn ts=some ps)(r:AB Z σ vs ts):∃qs,Gn vs=some qs/\ps.map (·.1)=qs.map (·.1)/\AB Z σ (qs.map (·.2)) (ps.map (·.2)):=by
 induction ts generalizing vs ps with
 | nil =>
  obtain rfl:=Ay h;obtain rfl:=r.nil_inv;exact⟨[],rfl,rfl,.nil⟩
 | cons t ts ih =>
  refine CP (Alh h) ?_;rintro k u us q q2 rfl;clear h;refine Br r.cons_inv ?_;rintro v ws rfl a r;refine AG (ih q2 r) ?_;rintro qs g1 g2 g3;clear ih q2 r;rw[Alf q]at a;refine AG a.tup_inv ?_;rintro xs rfl _ r1;refine Br r1.cons_inv ?_;rintro v1 ys rfl b1 r1;refine Br r1.cons_inv ?_;rintro v2 zs rfl b2 r1;obtain rfl:=r1.nil_inv;obtain rfl:=b1.int_inv;exact⟨(k,v2)::qs,Ali g1,congrArg (k::·) g2,.cons b2 g3⟩
theorem Alk:∀{ps:List (Int×T)} {qs:List (Int×CV)} {es:List (Int×T)} {cs:List (Int×CV)},ps.map (·.1)=qs.map (·.1)->AB Z σ (qs.map (·.2)) (ps.map (·.2))->es.map (·.1)=cs.map (·.1)->AB Z σ (cs.map (·.2)) (es.map (·.2)) ->
  (ps.foldl (λes p=>Cn es p.1 p.2) es).map (·.1)=(qs.foldl (λes p=>EY es p.1 p.2) cs).map (·.1)/\AB Z σ ((qs.foldl (λes p=>EY es p.1 p.2) cs).map (·.2)) ((ps.foldl (λes p=>Cn es p.1 p.2) es).map (·.2)):=by
 intro z1
 induction z1 with
 | nil =>
  intro z2;rcases z2 with _ | ⟨z3,z4⟩
  ·intro es cs z5 z6 e r;exact⟨e,r⟩
  ·intro es cs h z7 e r;exfalso;injection h
 | cons p ps ih =>
  intro z8;rcases z8 with _ | ⟨q,qs⟩
  ·intro es cs h z9 e r;exfalso;injection h
  ·intro es cs h hr e r;rw[Bo,Bo,JK]at h;rcases hr with _ | ⟨a,hr⟩
   ·refine Au (Zq (k:=p.1) e r a) ?_;rintro h1 h2;rw[QP,QP,<- h.1];exact ih h.2 hr h1 h2
theorem Alm(s:Av X ρ α σ){v:V}{cv:CV}{es:List (Int×T)}(h:S8 α v=some es)(r:UR (Zx X ρ α) ρ σ cv v)(hn:n<=σ.length):Sm E ρ α σ (Px cv) (PR X n α (.d es)):=by
 unfold S8 at h;rcases q:DE α v with _ | us
 ·rw[q]at h;(exfalso;injection h)
 ·rw[q]at h;dsimp only at h;rcases q2:Fn us with _ | ps
  ·rw[q2]at h;(exfalso;injection h)
  ·rw[q2]at h;dsimp only at h
   by_cases hl:ps.length<=1000
   ·rw[if_pos hl]at h;injection h with za;subst za
    refine Cq (FY s q r) ?_;rintro a vs rfl h1 h2 h3;refine AG (Alj q2 h3) ?_;rintro qs g1 g2 g3;refine Au (Alk (es:=[]) (cs:=[]) g2 g3 rfl .nil) ?_;rintro f1 f2;have hl':qs.length<=1000:=by
     have:=congrArg IH g2;rw[AJ,AJ]at this;exact om5 hl this
    refine Sm.ok ?_ (AW.lay _) ⟨rfl,EE.newDict s (cs:=Si qs) f1 f2 hn⟩;show Mine.Internal.bnd (listC a) _ σ=_;rw[Co (Dt h1 h2),g1];dsimp only;rw[if_pos hl']
   ·rw[if_neg hl]at h;exfalso;injection h
set_option tactic.hygienic true in
theorem Aln{v:CV}{t:T}(hv:TR DZ σ v t){vs:List CV}{ts:List T}{b:Bool}(r:AB DZ σ vs ts)(h:Ed (Bw n) t ts=some b):H7 (Cj σ n) v vs=HL (Bw n) t ts:=by
 revert b;refine AB.ind (P:=λvs ts=>∀{b},Ed (Bw n) t ts=some b->H7 (Cj σ n) v vs=HL (Bw n) t ts) (λh=>rfl) (λa r ih b h => ?_) r;rw[YQ]at h
 split at h
 ·rename_i x y e1 e2;rw[Xr,Aku];rw[TM n a hv e1,e1,ih e2]
 ·exfalso;injection h
theorem Alo(s:Av X ρ α σ){ts:List T}{vs:List CV}{a:Nat}{v:V}{cv:CV}{t r:T}(hr:HK α v=some t)(h:Kh ts t=some r)(h1:σ[a]? = some (.list vs))(h2:small vs.length=true)(h3:AB (Zx X ρ α) σ vs ts)(rv:UR (Zx X ρ α) ρ σ cv v):Sm E ρ α σ (JU a cv) (PR X n α (.v (Vf r))):=by
 unfold Kh at h
 by_cases q:Ed (Bw 20) t ts=some true
 ·rw[if_pos q]at h;injection h with za;subst za
  have ht:=ND s hr rv;refine G3 s (b:=.int (H7 (Cj σ 20) cv vs)) ?_ (by rw[Aln ht h3.any q];exact .int _)
  unfold JU;rw[Co (Dt h1 h2),if_pos (TN ht h3.any q)]
 ·rw[if_neg q]at h;exfalso;injection h
end
end
section
noncomputable abbrev TS(β:Type):=β->List Nat->AH->CH->Prop
inductive PQ(X:Nat->Prop)(n:Nat)(Q:Kq Rv)(b:CV)(ρ':List Nat)(α':AH)(σ':CH):Prop
 | mk (r:Rv) (as':List Al) (h:EE X n ρ' α' σ' b r) (q:Q r α' as'):PQ X n Q b ρ' α' σ'
inductive PV(X:Nat->Prop)(Q:Kq V)(b:CV)(ρ':List Nat)(α':AH)(σ':CH):Prop
 | mk (v:V) (as':List Al) (s:Av X ρ' α' σ') (r:UR (Zx X ρ' α') ρ' σ' b v) (q:Q v α' as'):PV X Q b ρ' α' σ'
inductive TU(X:Nat->Prop)(Q:Kq (List V))(b:List CV)(ρ':List Nat)(α':AH)(σ':CH):Prop
 | mk (v:List V) (as':List Al) (s:Av X ρ' α' σ') (r:BA (Zx X ρ' α') ρ' σ' b v) (q:Q v α' as'):TU X Q b ρ' α' σ'
inductive PB(X:Nat->Prop)(Q:Kq Bool)(b:Bool)(ρ':List Nat)(α':AH)(σ':CH):Prop
 | mk (as':List Al) (s:Av X ρ' α' σ') (q:Q b α' as'):PB X Q b ρ' α' σ'
def B9(E:CX->Prop)(f:EA)(fc:BU):Prop:=∀ks loc e α as Q,f ks loc e α as Q->∀X ρ σ cloc,Av X ρ α σ->AZ (Zx X ρ α) ρ σ cloc loc->Sm E ρ α σ (fc ks cloc e) (PQ X σ.length Q)
def FZ(E:CX->Prop)(g:TA)(gc:C3):Prop:=∀ks loc e α as Q,g ks loc e α as Q->∀X ρ σ cloc,Av X ρ α σ->AZ (Zx X ρ α) ρ σ cloc loc->Sm E ρ α σ (gc ks cloc e) (PB X Q)
structure E5(E:CX->Prop)(H:Hs)(Γ:AP):Prop where
 quiet:H.quiet=true->∀x,¬E x
 gt:GT Γ
 fn:∀f vs α as Q,H.fn f vs α as Q->∀X ρ σ cvs,Av X ρ α σ->BA (Zx X ρ α) ρ σ cvs vs->Sm E ρ α σ (Di Γ f cvs) (PV X Q)
 cls:∀C vs α as Q,H.cls C vs α as Q->∀X ρ σ cvs,Av X ρ α σ->BA (Zx X ρ α) ρ σ cvs vs->Sm E ρ α σ (newC Γ C cvs) (PV X Q)
section
variable {E:CX->Prop}{X:Nat->Prop}{ρ:List Nat}{α:AH}{σ:CH}{n:Nat}{f:EA}{g:TA}{fc:BU}{gc:C3}{H:Hs}{Γ:AP}{ks:AF}{loc:An}{cloc:Ao}{as:List Al}
theorem CF(hf:B9 E f fc){e:Expr}{Q:Kq V}(h:B0 f ks loc e α as Q)(s:Av X ρ α σ)(l:AZ (Zx X ρ α) ρ σ cloc loc):Sm E ρ α σ (fc ks cloc e) (PV X Q) :=
 (hf ks loc e α as _ h X ρ σ cloc s l).mono λb ρ' α' σ' _ ⟨r,as',h1,h2⟩=>⟨_,as',h1.frz.1,h1.frz.2,h2⟩
theorem Gz(hf:B9 E f fc):∀{es:List Expr} {α:AH} {as:List Al} {ρ:List Nat} {σ:CH} {Q:Kq (List V)},Ee f ks loc es α as Q->Av X ρ α σ->AZ (Zx X ρ α) ρ σ cloc loc->Sm E ρ α σ (BC (fc ks cloc) es) (TU X Q):=by
 intro z1
 induction z1 with
 | nil =>
  intro α as ρ σ Q h s l;exact .ret ⟨[],as,s,trivial,h⟩
 | cons e es ih =>
  intro α as ρ σ Q h s l;rw[Akv]at h;rcases hs:Dh e with _ | _
  ·rw[hs]at h;rw[R5];rw[if_neg (by rw[hs];exact CD)]
   refine(CF hf h s l).bnd λc ρ1 α1 σ1 p zz => ?_;rcases zz with⟨v,as1,s1,r1,h1⟩
   refine(ih h1 s1 (l.stp p)).bnd λcs ρ2 α2 σ2 p2 zz => ?_;rcases zz with⟨vs,as2,s2,r2,h2⟩
   exact .ret ⟨v::vs,as2,s2,⟨r1.stp p2,r2⟩,h2⟩
  ·rw[hs]at h;exact h.elim
theorem Im{x:CM CV}{Q:Kq Rv}{m:Nat}(h:Sm E ρ α σ x (PR X m α r))(q:Q r α as)(e:n<=m):Sm E ρ α σ x (PQ X n Q):=h.mono λb ρ' α' σ' _ ⟨e1,h1⟩=>by subst e1;exact⟨r,as,h1.le e,q⟩
theorem NG{x:CM CV}{Q:Kq Rv}(h:Sm E ρ α σ x (PV X λv α as=>Q (.v v) α as)):Sm E ρ α σ x (PQ X n Q):=h.mono λb ρ' α' σ' _ ⟨v,as',s,r,q⟩=>⟨.v v,as',⟨s,r⟩,q⟩
theorem PQ.le{m:Nat}{x:CM CV}{Q:Kq Rv}(h:Sm E ρ α σ x (PQ X m Q))(e:n<=m):Sm E ρ α σ x (PQ X n Q):=h.mono λb ρ' α' σ' _ ⟨r,as',h1,q⟩=>⟨r,as',h1.le e,q⟩
theorem Alp{k:Const}{t:T}(h:YN k=some t){Z:Nat->Prop}:∃c,Pf k=ret c/\TR Z σ c t:=by
 rcases k with⟨⟩<;>first | (first | (exfalso;injection h;done) | (injection h with za;subst za)) | skip
 ·exact⟨_,rfl,.none⟩
 ·exact⟨_,rfl,.bool _⟩
 ·exact⟨_,rfl,.int _⟩
 ·exact⟨_,rfl,.str _⟩
theorem Alq(g:GT Γ){Z:Nat->Prop}{x:Ac}{w:W}(h:SW ks loc x=some w)(l:AZ Z ρ σ cloc loc):∃c,GS Γ ks cloc x=ret c/\WR Z ρ σ c w:=by
 have lo:(match loc.lookup x with | some .junk=>none | o=>o)=some w->∃c,(match cloc.lookup x with | some v=>ret v | none=>Ar)=ret c/\WR Z ρ σ c w:=λh=>by
  rcases q:loc.lookup x with _ | w'
  ·rw[q]at h;(exfalso;injection h)
  ·rw[q]at h;have e:w'=w/\w'≠.junk:=by rcases w' with⟨⟩<;>first | ((first | (exfalso;injection h;done) | (injection h with za;subst za));exact⟨rfl,λz=>nomatch z⟩) | (exfalso;injection h)
   refine Ah (l x w' q e.2) ?_;rintro c h1 h2;rw[h1];exact⟨c,rfl,e.1▸h2⟩
 unfold SW at h;unfold GS;rcases hg:Dg x with _ | _
 ·rw[hg]at h;(exfalso;injection h)
 ·rw[hg]at h;rw[if_pos rfl];rcases hk:ks.lookup x with _ | k
  ·rw[hk]at h;(exfalso;injection h)
  ·rw[hk]at h;rcases k with⟨⟩<;>first | exact lo h | (exfalso;injection h) | skip
   dsimp only at h ⊢;rw[g.top];rcases ht:Gh.lookup x with _ | v
   ·rw[ht]at h;(exfalso;injection h)
   ·rw[ht]at h;rcases v with i | a
    ·injection h with za;subst za;exact⟨_,rfl,.int _⟩
    ·exfalso;injection h
theorem Alr(hf:B9 E f fc){op:BoolOp}:∀{es:List Expr} {α:AH} {as:List Al} {ρ:List Nat} {σ:CH} {Q:Kq V},P2 f ks loc op es α as Q->Av X ρ α σ->AZ (Zx X ρ α) ρ σ cloc loc->Sm E ρ α σ (MM (fc ks cloc) op es) (PV X Q):=by
 intro es
 induction es with
 | nil=>intro α as ρ σ Q h s l;exact h.elim
 | cons e es ih =>
  intro α as ρ σ Q h s l;rcases es with _ | ⟨e',es⟩
  ·exact CF hf h s l
  ·have h:B0 f ks loc e α as (λv α as=>Bv (Kc α v) λt=>match (generalizing:=false) op,t with
     | .And,false=>Q v α as
     | .Or,true=>Q v α as
     | _,_=>P2 f ks loc op (e'::es) α as Q):=h
   refine(CF hf h s l).bnd λc ρ1 α1 σ1 p zz => ?_;rcases zz with⟨v,as1,s1,r1,h1⟩
   refine Ah (BL h1) ?_;rintro t ht h1;refine Sm.eq (Co (TP s1 ht r1)) ?_;have go:=λh=>ih (α:=α1) (as:=as1) (Q:=Q) h s1 (l.stp p);rcases op with⟨⟩<;>rcases t with⟨⟩
   ·exact .ret ⟨v,as1,s1,r1,h1⟩
   ·exact go h1
   ·exact go h1
   ·exact .ret ⟨v,as1,s1,r1,h1⟩
theorem Als{a b:V}{ca cb:CV}{t:Bool}{Q:Kq Bool}(s:Av X ρ α σ)(h:Kf op α a b=some t)(ra:UR (Zx X ρ α) ρ σ ca a)(rb:UR (Zx X ρ α) ρ σ cb b)(q:Q t α as):Sm E ρ α σ (Et op ca cb) (PB X Q):=.ok (TO s h ra rb) AW.refl ⟨as,s,q⟩
theorem Zr(hf:B9 E f fc):∀{ops:List Fz} {es:List Expr} {a:V} {ca:CV} {α:AH} {as:List Al} {ρ:List Nat} {σ:CH} {Q:Kq Bool},LJ f ks loc a ops es α as Q->Av X ρ α σ->AZ (Zx X ρ α) ρ σ cloc loc->UR (Zx X ρ α) ρ σ ca a->Sm E ρ α σ (FN (fc ks cloc) ca ops es) (PB X Q):=by
 intro ops
 induction ops with
 | nil =>
  intro es a ca α as ρ σ Q h s l ra;rcases es with _ | ⟨_,_⟩
  ·exact h.elim
  ·exact h.elim
 | cons op ops ih =>
  intro es a ca α as ρ σ Q h s l ra;rcases es with _ | ⟨e,es⟩
  ·rcases ops with _ | ⟨op',ops⟩
   ·exact h.elim
   ·exact h.elim
  ·rcases ops with _ | ⟨op',ops⟩
   ·rcases es with _ | ⟨e',es⟩
    ·refine(CF hf (Q:=λb α as=>Ec LC (Kf op α a b) as λt as=>Q t α as) h s l).bnd λc ρ1 α1 σ1 p zz => ?_;rcases zz with⟨v,as1,s1,r1,h1⟩
     refine Bg (Gy h1) ?_;rintro t as2 ht h1;exact Als s1 ht (ra.stp p) r1 h1
    ·refine(CF hf (Q:=λb α as=>Ec LC (Kf op α a b) as λt as=>match t with
      | true=>LJ f ks loc b [] (e'::es) α as Q
      | false=>Q false α as) h s l).bnd λc ρ1 α1 σ1 p zz => ?_
     rcases zz with⟨v,as1,s1,r1,h1⟩
     refine Bg (Gy h1) ?_;rintro t as2 ht h1;refine Sm.eq (x:=if t=true then FN (fc ks cloc) c [] (e'::es)else ret t) (Co (TO s1 ht (ra.stp p) r1)) ?_;rcases t with _ | _
     ·exact .ret ⟨as2,s1,h1⟩
     ·exact ih (ca:=c) h1 s1 (l.stp p) r1
   ·refine(CF hf (Q:=λb α as=>Ec LC (Kf op α a b) as λt as=>match t with
     | true=>LJ f ks loc b (op'::ops) es α as Q
     | false=>Q false α as) h s l).bnd λc ρ1 α1 σ1 p zz => ?_
    rcases zz with⟨v,as1,s1,r1,h1⟩
    refine Bg (Gy h1) ?_;rintro t as2 ht h1;refine Sm.eq (x:=if t=true then FN (fc ks cloc) c (op'::ops) es else ret t) (Co (TO s1 ht (ra.stp p) r1)) ?_;rcases t with _ | _
    ·exact .ret ⟨as2,s1,h1⟩
    ·exact ih (ca:=c) h1 s1 (l.stp p) r1
theorem Alu{fe:Expr->CM CV}:∀{ops:List Fz} {es:List Expr} {a:CV},HA fe a ops es=bnd (FN fe a ops es) λt=>ret (.bool t):=by
 intro ops
 induction ops with
 | nil =>
  intro es a;rcases es with _ | ⟨_,_⟩
  ·rfl
  ·rfl
 | cons op ops ih =>
  intro es a;rcases es with _ | ⟨e,es⟩
  ·rcases ops with _ | ⟨op',ops⟩
   ·rfl
   ·rfl
  ·rcases ops with _ | ⟨op',ops⟩
   ·rcases es with _ | ⟨e',es⟩
    ·exact(Ez _ _ _).symm
    ·show bnd (fe e) (λb=>bnd (Et op a b) λt=>if t=true then HA fe b [] (e'::es)else ret (.bool t))=bnd (bnd (fe e) λb=>bnd (Et op a b) λt=>if t=true then FN fe b [] (e'::es)else ret t) _;rw[Ez];refine Ln λb => ?_;rw[Ez];refine Ln λt => ?_;rcases t with⟨⟩
     ·rfl
     ·exact ih (es:=e'::es) (a:=b)
   ·show bnd (fe e) (λb=>bnd (Et op a b) λt=>if t=true then HA fe b (op'::ops) es else ret (.bool t))=bnd (bnd (fe e) λb=>bnd (Et op a b) λt=>if t=true then FN fe b (op'::ops) es else ret t) _;rw[Ez];refine Ln λb => ?_;rw[Ez];refine Ln λt => ?_;rcases t with⟨⟩
    ·rfl
    ·exact ih (es:=es) (a:=b)
theorem Alv(hg:FZ E g gc){op:BoolOp}:∀{es:List Expr} {α:AH} {as:List Al} {ρ:List Nat} {σ:CH} {Q:Kq Bool},Nv g ks loc op es α as Q->Av X ρ α σ->AZ (Zx X ρ α) ρ σ cloc loc->Sm E ρ α σ (Le (gc ks cloc) op es) (PB X Q):=by
 intro z1
 induction z1 with
 | nil =>
  intro α as ρ σ Q h s l;exact .ret ⟨as,s,h⟩
 | cons e es ih =>
  intro α as ρ σ Q h s l;rw[Aky]at h;rw[Xl];refine(hg ks loc e α as _ h X ρ σ cloc s l).bnd λt ρ1 α1 σ1 p zz => ?_;rcases zz with⟨as1,s1,h1⟩
  have go:=λh=>ih (α:=α1) (as:=as1) (Q:=Q) h s1 (l.stp p);rcases op with⟨⟩<;>rcases t with⟨⟩
  ·exact .ret ⟨as1,s1,h1⟩
  ·exact go h1
  ·exact go h1
  ·exact .ret ⟨as1,s1,h1⟩
theorem Zs(hf:B9 E f fc){o:Option Expr}{Q:Kq V}(h:Nw f ks loc o α as Q)(s:Av X ρ α σ)(l:AZ (Zx X ρ α) ρ σ cloc loc):Sm E ρ α σ (Pm (fc ks cloc) o) (PV X Q):=by
 rcases o with _ | e
 ·exact .ret ⟨Vf .none,as,s,TR.none,h⟩
 ·exact CF hf h s l
theorem Alw(hf:B9 E f fc){o i:Expr}{Q:Kq Rv}(h:Tn f ks loc o i α as Q)(s:Av X ρ α σ)(l:AZ (Zx X ρ α) ρ σ cloc loc):Sm E ρ α σ (MN (fc ks cloc) o i) (PQ X σ.length Q):=by
 have plain:(B0 f ks loc o α as λv α as=>B0 f ks loc i α as λk α as=>Ec PO (PU α v k) as λt as=>Q (.v (Vf t)) α as)->Sm E ρ α σ (bnd (fc ks cloc o) λv=>bnd (fc ks cloc i) λk=>H4 v k) (PQ X σ.length Q):=λh=>by
  refine(CF hf h s l).bnd λc ρ1 α1 σ1 p zz => ?_;rcases zz with⟨v,as1,s1,r1,h1⟩
  refine(CF hf h1 s1 (l.stp p)).bnd λd ρ2 α2 σ2 p2 zz => ?_;rcases zz with⟨w,as2,s2,r2,h2⟩
  refine Bg (Gy h2) ?_;rintro t as3 ht h2;exact Im (m:=σ.length) (AkP s2 ht (r1.stp p2) r2) h2 (AM _)
 unfold Tn at h;unfold MN;rcases hq:K7 i with _ | ⟨a,b,st,pos⟩
 ·rw[hq]at h;exact plain h
 ·rw[hq]at h;clear plain;dsimp only at h ⊢;rcases st with _ | st
  ·refine(CF hf (Q:=λv α as=>Nw f ks loc a α as λx α as=>Nw f ks loc b α as λy α as=>Bv (S4 α v x y) λts=>Q (.l ts) α as) h s l).bnd λc ρ1 α1 σ1 p zz => ?_;rcases zz with⟨v,as1,s1,r1,h1⟩
   refine(Zs hf h1 s1 (l.stp p)).bnd λd ρ2 α2 σ2 p2 zz => ?_;rcases zz with⟨x,as2,s2,r2,h2⟩
   refine(Zs hf h2 s2 (l.stp (p.trans p2))).bnd λd3 ρ3 α3 σ3 p3 zz => ?_;rcases zz with⟨y,as3,s3,r3,h3⟩
   refine Ah (BL h3) ?_;rintro ts ht h3;have hn:=(p.trans (p2.trans p3)).len;exact Im (AkT s3 ht (r1.stp (p2.trans p3)) (r2.stp p3) r3 hn) h3 (AM _)
  ·exact h.elim
end
end
section
section
variable {E:CX->Prop}{X:Nat->Prop}{ρ:List Nat}{α:AH}{σ:CH}{n:Nat}{f:EA}{g:TA}{fc:BU}{gc:C3}{H:Hs}{Γ:AP}{ks:AF}{loc:An}{cloc:Ao}{as:List Al}
theorem Zt(s:Av X ρ α σ){k a:Nat}{ao:AO}{vs:List CV}{ts:List T}(hk:ρ[k]? = some a)(ha:α[k]? = some ao)(hl:ao≠.dead){o:CO}(ho:σ[a]? = some o)(r:AB (Zx X ρ α) σ vs ts)(z:small ts.length=true) :
  Av X ρ (α.set k (.lst ts)) (σ.set a (.list vs))/\AW ρ α σ ρ (α.set k (.lst ts)) (σ.set a (.list vs)) :=
 ⟨s.put _ hk ha hl ⟨vs,Qa ho,by rw[r.len];exact z,r.mono λb o hb n=>P9 s _ hk ha hl hb n⟩,.put s _ hk ha hl⟩
theorem Qi{x:CM CV}{b:CV}{t:T}(s:Av X ρ α σ){k a:Nat}{ao:AO}{vs:List CV}{ts:List T}(hk:ρ[k]? = some a)(ha:α[k]? = some ao)(hl:ao≠.dead){o:CO}(ho:σ[a]? = some o)(r:AB (Zx X ρ α) σ vs ts)(z:small ts.length=true)
  (e:x σ=.ok b (σ.set a (.list vs))) (rb:TR (Zx X ρ α) σ b t) {Q:Kq Rv} (q:Q (.v (Vf t)) (α.set k (.lst ts)) as):Sm E ρ α σ x (PQ X n Q):=by
 refine Au (Zt s hk ha hl ho r z) ?_;rintro s' p;exact .ok e p ⟨.v (Vf t),as,⟨s',TR.mono (λy y h n=>p.tr h n) rb⟩,q⟩
theorem Alx{vs:List CV}{ts:List T}(h:AB Z σ vs ts):AB Z σ vs.dropLast ts.dropLast:=by
 rw[AqE,AqE,h.len];exact h.take _
theorem Aly{vs:List CV}{ts:List T}{t:T}(h:AB Z σ vs ts)(e:ts.getLast? = some t):∃v,vs.getLast? = some v/\TR Z σ v t:=by
 rw[List.getLast?_eq_getElem?]at e ⊢;rw[h.len];exact h.at e
theorem Kp{o:Option AO}{F:List T->Prop}(h:Jk o F):∃ts,o=some (.lst ts)/\F ts:=by
 rcases o with _ | (ts | _ | _ | _)<;>first | exact h.elim | exact⟨_,rfl,h⟩
theorem Alz{vs:List V}{P:Prop}(h:PY vs P):vs=[]/\P:=by
 rcases vs with _ | _
 ·exact⟨rfl,h⟩
 ·exact h.elim
theorem AlA(s:Av X ρ α σ){k a:Nat}{v:V}{c:CV}{Q:Kq Rv}(h:YY k α as Q v)(hk:ρ[k]? = some a)(rv:UR (Zx X ρ α) ρ σ c v):Sm E ρ α σ (Hz a c) (PQ X n Q):=by
 refine Ah (BL h) ?_;rintro⟨t,α1⟩ e h;refine C6 (P8 e s rv) ?_;rintro s1 p1 t1;refine Sm.pre p1 ?_;refine Ah (Kp h) ?_;rintro ts q h;rcases Km h with⟨g,as',h⟩
 refine AG (s1.ob k a _ hk q) ?_;rintro us e2 e3 e4;refine Qi s1 hk q (λz=>nomatch z) e2 (e4.app (.cons t1 .nil)) (by rw[Bl];exact g) (b:=.none) ?_ .none h
 show bnd (listC a) _ σ=_;rw[Co (Dt e2 e3)];rfl
theorem Zu(s:Av X ρ α σ){k a b:Nat}{ws:List CV}{ts us:List T}{Q:Kq Rv}(hk:ρ[k]? = some a)(hα:α[k]? = some (.lst ts))(hne:a≠b)(hb:σ[b]? = some (.list ws))(zb:small ws.length=true)(rb:AB (Zx X ρ α) σ ws us)(h:Ta k α as Q ts us) :
  Sm E ρ α σ (Ld a (.ref b)) (PQ X n Q):=by
 rcases Km h with⟨g,as',h⟩
 refine AG (s.ob k a _ hk hα) ?_;rintro xs e2 e3 e4;refine Qi s hk hα (λz=>nomatch z) e2 (e4.app rb) (by rw[Bl];exact g) (b:=.none) ?_ .none h
 show(if a=b then Ar else _) σ=_;rw[if_neg hne,Co (Dt e2 e3),Co (Dt hb zb)];rfl
theorem AlB(s:Av X ρ α σ){k a:Nat}{v:V}{c:CV}{Q:Kq Rv}(h:YZ k α as Q v)(hk:ρ[k]? = some a)(rv:UR (Zx X ρ α) ρ σ c v):Sm E ρ α σ (Ld a c) (PQ X n Q):=by
 rcases v with(j | (_ | _ | _ | _ | ⟨_ | _ | _ | _,us⟩) | _) | _
 case w.own =>
  refine Ah rv ?_;clear rv;rintro b hb rfl;refine Ah (Kp h) ?_;rintro ts q1 h;refine Ah (Kp h) ?_;rintro us q2 h;refine Au (CE h) ?_;rintro g1 h;refine AG (s.ob j b _ hb q2) ?_;rintro ws e2 e3 e4;refine Zu s hk q1 (λe => ?_) e2 e3 e4 h;rw[<- e]at hb;rw[(Acv (DT.mp hk).1 s.nd).mp (hk.trans hb.symm),Nat.beq_refl]at g1;exfalso;injection g1
 case w.fz.node.lst =>
  have rv':TR (Zx X ρ α) σ c (.node .lst us):=rv;refine AK rv'.lst_ref ?_;rintro b rfl;rcases rv'.list with⟨n1,ws,e2,e3,e4⟩
  refine Ah (Kp h) ?_;rintro ts q1 h;exact Zu s hk q1 (λe=>n1 (.inr ⟨k,_,e▸hk,q1,λz=>nomatch z⟩)) e2 e3 e4 h
 all_goals exact(h:False).elim
theorem AlC(s:Av X ρ α σ){k a:Nat}{Q:Kq Rv}(h:Y0 k α as Q)(hk:ρ[k]? = some a):Sm E ρ α σ (MK a) (PQ X n Q):=by
 refine Ah (Kp h) ?_;rintro ts q h;refine Bg (Gy h) ?_;rintro t as' e h;refine AG (s.ob k a _ hk q) ?_;rintro us e2 e3 e4;refine Ah (Aly e4 e) ?_;rintro v g1 g2;refine Qi s hk q (λz=>nomatch z) e2 (Alx e4) (TQ (Il e4 e3) (by rw[List.length_dropLast];exact Oj _ _)) (b:=v) ?_ g2 h
 show bnd (listC a) _ σ=_;rw[Co (Dt e2 e3),g1];rfl
theorem AlD(s:Av X ρ α σ){k a:Nat}{Q:Kq Rv}(h:Y1 k α as Q)(hk:ρ[k]? = some a):Sm E ρ α σ (ML a) (PQ X n Q):=by
 refine Ah (Kp h) ?_;rintro ts q h;refine AG (s.ob k a _ hk q) ?_;rintro us e2 e3 e4;refine Qi s hk q (λz=>nomatch z) e2 e4.rev (by rw[List.length_reverse];exact Il e4 e3) (b:=.none) ?_ .none h
 show bnd (listC a) _ σ=_;rw[Co (Dt e2 e3)];rfl
theorem Zv(s:Av X ρ α σ){a:Nat}{v:V}{c:CV}{ts:List T}{us:List CV}{Q:Kq Rv}(h:Tb α as Q ts v)(rv:UR (Zx X ρ α) ρ σ c v)(e2:σ[a]? = some (.list us))(e3:small us.length=true)(e4:AB (Zx X ρ α) σ us ts):Sm E ρ α σ (JU a c) (PQ X n Q):=by
 refine Ah (BL h) ?_;rintro t g1 h;refine Bg (Gy h) ?_;rintro rr as2 g2 h;exact Im (m:=n) (Alo s g1 g2 e2 e3 e4 rv) h (AM _)
theorem AlE(s:Av X ρ α σ){k a:Nat}{x:Ac}{vs:List V}{cvs:List CV}{Q:Kq Rv}(h:Tc k x vs α as Q)(hk:ρ[k]? = some a)(r:BA (Zx X ρ α) ρ σ cvs vs):Sm E ρ α σ (FO a x cvs) (PQ X n Q):=by
 have one:∀{P:V->Prop} {f:CV->CM CV},Gv vs P->(∀v c,P v->UR (Zx X ρ α) ρ σ c v->Sm E ρ α σ (f c) (PQ X n Q))->Sm E ρ α σ (DK f cvs) (PQ X n Q):=λ{P f} h k=>by
  refine Ah (Kn h) ?_;rintro v e h;rw[e]at r;refine Ah (Ko r) ?_;rintro c e rv;rw[e];exact k v c h rv
 have non:∀{P:Prop} {f:CM CV},PY vs P->(P->Sm E ρ α σ f (PQ X n Q))->Sm E ρ α σ (Lg f cvs) (PQ X n Q):=λ{P f} h k=>by
  refine Au (Alz h) ?_;rintro e h;rw[e]at r;rw[AkV r];exact k h
 clear r;unfold Tc at h;unfold FO
 by_cases e:x=Ab "append"
 ·rw[if_pos e]at h ⊢;exact one h λv c h rv=>AlA s h hk rv
 rw[if_neg e]at h ⊢;clear e
 by_cases e:x=Ab "extend"
 ·rw[if_pos e]at h ⊢;exact one h λv c h rv=>AlB s h hk rv
 rw[if_neg e]at h ⊢;clear e
 by_cases e:x=Ab "pop"
 ·rw[if_pos e]at h ⊢;exact non h λh=>AlC s h hk
 rw[if_neg e]at h ⊢;clear e
 by_cases e:x=Ab "reverse"
 ·rw[if_pos e]at h ⊢;exact non h λh=>AlD s h hk
 rw[if_neg e]at h ⊢;clear e
 by_cases e:x=Ab "index"
 ·rw[if_pos e]at h ⊢;refine one h λv c h rv => ?_;refine Ah (Kp h) ?_;rintro ts q h;refine AG (s.ob k a _ hk q) ?_;rintro us e2 e3 e4;exact Zv s h rv e2 e3 e4
 rw[if_neg e]at h;exact h.elim
theorem TV(g:GT Γ){x:Ac}{v:Ad}:C1 Γ ks x v=C1 G0 ks x v:=by unfold C1;rw[g.top,g.bins];rfl
theorem AlF(g:GT Γ){c x:Ac}:H9 Γ ks c x=H9 G0 ks c x:=by unfold H9;rw[g.top,g.clsfn];rfl
theorem AlG(g:GT Γ){x:Ac}{es:List Expr}:J1 Γ ks x es=PW ks x es:=by
 unfold PW J1;simp only[TV g]
theorem AlH(g:GT Γ)(hf:B9 E f fc){k:J0}{Q:Kq Rv}(h:PX f ks loc k α as Q)(s:Av X ρ α σ)(l:AZ (Zx X ρ α) ρ σ cloc loc):Sm E ρ α σ (X3 (fc ks cloc) k) (PQ X σ.length Q):=by
 rcases k with rs | e | e
 ·refine Sm.eq (x:=bnd (BC (fc ks cloc) rs) λvs=>bnd (H8 vs) λr=>B2 ((DV r.1 r.2.1 r.2.2).map .int)) (congrFun (Ez _ _ _) _) ?_;refine(Gz hf h s l).bnd λcs ρ1 α1 σ1 p zz => ?_;rcases zz with⟨vs,as1,s1,r1,h1⟩
  refine Bg (Gy h1) ?_;rintro ts as2 e h1;refine CP (Zo e r1) ?_;rintro a c m e1 e2 rfl;refine Sm.eq (x:=B2 ((DV a c m).map .int)) ?_ (Im (Ik s1 rfl (AB.ints _) ?_ p.len) h1 (AM _))
  ·unfold H8;rw[e1];rfl
  ·rw[AJ,Zm];exact decide_eq_true e2
 ·dsimp only[PX]at h;refine Sm.eq (x:=bnd (fc ks cloc e) λv=>bnd (JX v) MW) (congrFun (Ez _ _ _) _) ?_;refine(CF hf h s l).bnd λc ρ1 α1 σ1 p zz => ?_;rcases zz with⟨v,as1,s1,r1,h1⟩
  refine Bg (Gy h1) ?_;rintro ts as2 e h1;exact Im (Ale s1 e r1 p.len) h1 (AM _)
 ·dsimp only[PX]at h;refine(CF hf h s l).bnd λc ρ1 α1 σ1 p zz => ?_;rcases zz with⟨v,as1,s1,r1,h1⟩
  refine Bg (Gy h1) ?_;rintro ts as2 e h1;exact Im (Alm s1 e r1 p.len) h1 (AM _)
theorem AlI(hH:E5 E H Γ)(hf:B9 E f fc){x:Ac}{es:List Expr}{Q:Kq Rv}(h:YX H f ks loc x es α as Q)(s:Av X ρ α σ)(l:AZ (Zx X ρ α) ρ σ cloc loc):Sm E ρ α σ (MS (fc ks cloc) Γ ks x es) (PQ X σ.length Q):=by
 refine Au (CE h) ?_;rintro e h;rw[Bf]at e;unfold MS;rw[if_pos e,hH.gt.top,hH.gt.inits,hH.gt.bins];rcases q:Gh.lookup x with _ | v
 ·rw[q]at h;dsimp only at h ⊢;rcases q2:EU.lookup x with _ | v
  ·rw[q2]at h;exact h.elim
  ·rw[q2]at h;refine(Gz hf h s l).bnd λcs ρ1 α1 σ1 p zz => ?_;rcases zz with⟨vs,as1,s1,r1,h1⟩
   refine(Ak7 s1 q2 h1 r1 p.len).mono λb ρ' α' σ' z zz => ?_;refine Bg zz ?_;clear zz;rintro rv as' e1 h2;exact⟨rv,as',e1.2,by rw[e1.1];exact h2⟩
 ·rw[q]at h;rcases v with i | a
  ·exact h.elim
  ·dsimp only at h ⊢;rcases q3:GK.lookup a with _ | v
   ·rw[q3]at h;refine(Gz hf h s l).bnd λcs ρ1 α1 σ1 p zz => ?_;rcases zz with⟨vs,as1,s1,r1,h1⟩
    exact NG (hH.fn _ _ _ _ _ h1 X ρ1 σ1 cs s1 r1)
   ·rw[q3]at h;refine(Gz hf h s l).bnd λcs ρ1 α1 σ1 p zz => ?_;rcases zz with⟨vs,as1,s1,r1,h1⟩
    exact NG (hH.cls _ _ _ _ _ h1 X ρ1 σ1 cs s1 r1)
theorem Zw:∀{as:List (Ac×W)} {cs:List (Ac×CV)} {x:Ac},as.map (·.1)=cs.map (·.1)->as.lookup x=none->cs.lookup x=none:=by
 intro z1
 induction z1 with
 | nil =>
  intro z3;rcases z3 with _ | ⟨z4,z5⟩
  ·intro x e h;exact rfl
  ·intro x e h;exfalso;injection e
 | cons z2 as ih =>
  rcases z2 with⟨y,w'⟩
  intro z6;rcases z6 with _ | ⟨z7,cs⟩
  ·intro x e h;exfalso;injection e
  ·rcases z7 with⟨y',v⟩
   intro x e h;rw[Bo,Bo,JK]at e;refine Au e ?_;clear e;rintro e1 e2;subst e1;rw[BI]at h ⊢;rcases q:x == y with _ | _
   ·rw[q]at h;exact ih e2 h
   ·rw[q]at h;(exfalso;injection h)
theorem AlJ:∀{cs:List (Ac×CV)} {x:Ac},(cs.map (·.1)).contains x=false->cs.lookup x=none:=by
 intro z1
 induction z1 with
 | nil =>
  intro x h;exact rfl
 | cons z2 cs ih =>
  rcases z2 with⟨y,v⟩
  intro x h;rw[Bo,AqA,Bool.or_eq_false_iff]at h;rw[BI,h.1];exact ih h.2
theorem Zy(hH:E5 E H Γ)(hf:B9 E f fc){ov:V}{x:Ac}{es:List Expr}{Q:Kq Rv}{a:Nat}{C:Af}{g:Af}{cs:List (Ac×CV)}(s:Av X ρ α σ)(l:AZ (Zx X ρ α) ρ σ cloc loc)(r:UR (Zx X ρ α) ρ σ (.ref a) ov)(e1:σ[a]? = some (.inst C cs))(e2:(HZ.lookup C).bind (·.lookup x)=some g)(e3:cs.lookup x=none)
  (h:Td H f ks loc ov es α as Q g):Sm E ρ α σ (Fh (fc ks cloc) Γ a x es) (PQ X n Q):=by
 refine Sm.eq (x:=bnd (BC (fc ks cloc) es) λvs=>Di Γ g (.ref a::vs)) ?_ ?_
 ·unfold Fh;rw[e1];dsimp only;rw[hH.gt.meths,e2,e3]
 ·refine(Gz hf h s l).bnd λcs ρ1 α1 σ1 p zz => ?_;rcases zz with⟨vs,as1,s1,r1,h1⟩
  exact NG (hH.fn _ _ _ _ _ h1 X ρ1 σ1 _ s1 ⟨r.stp p,r1⟩)
theorem Zz{f:Expr->CM CV}{vs:List CV}(h2:σ[a]? = some (.list vs))(hl:Lh x=true):Fh f Γ a x es σ=bnd (BC f es) (λvs=>FO a x vs) σ:=by
 unfold Fh;rw[h2];exact if_pos hl
theorem AlK(hH:E5 E H Γ)(hf:B9 E f fc){k a:Nat}{x:Ac}{es:List Expr}{Q:Kq Rv}(h:Y2 H f ks loc k x es α as Q α[k]?)(s:Av X ρ α σ)(l:AZ (Zx X ρ α) ρ σ cloc loc)(hk:ρ[k]? = some a):Sm E ρ α σ (Fh (fc ks cloc) Γ a x es) (PQ X n Q):=by
 rcases q:α[k]? with _ | (ts | _ | ⟨C,as'⟩ | _)
 all_goals rw[q]at h
 case some.ins =>
  refine AG (s.ob k a _ hk q) ?_;rintro cs h2 h3 h4;refine Ah (BL h) ?_;rintro g q1 h;refine Au (CE h) ?_;rintro q2 h;exact Zy (ov:=.w (.own k)) hH hf s l ⟨a,hk,rfl⟩ h2 q1 (Zw h3 (Aqt.mp q2)) h
 case some.lst =>
  refine Au (CE h) ?_;rintro hl h;refine AG (s.ob k a _ hk q) ?_;rintro vs h2 h3 h4;refine Sm.eq (Zz h2 hl) ?_;refine(Gz hf h s l).bnd λcs ρ1 α1 σ1 p zz => ?_;rcases zz with⟨vs,as1,s1,r1,h1⟩
  exact AlE s1 h1 (p.pre k a hk) r1
 all_goals exact h.elim
theorem AlL(hH:E5 E H Γ)(hf:B9 E f fc){ov:V}{c:CV}{x:Ac}{es:List Expr}{Q:Kq Rv}(h:Te H f ks loc ov x es α as Q)(s:Av X ρ α σ)(l:AZ (Zx X ρ α) ρ σ cloc loc)(r:UR (Zx X ρ α) ρ σ c ov) :
  Sm E ρ α σ (match c with | .ref n=>Fh (fc ks cloc) Γ n x es | _=>Ar) (PQ X n Q):=by
 rcases ov with(k | (_ | _ | _ | _ | ⟨_ | _ | _ | ⟨C,xs⟩,ts⟩) | _) | _
 case w.own =>
  refine Ah r ?_;clear r;rintro a hk e;rw[e];exact AlK hH hf h s l hk
 case w.fz.node.ins =>
  have r':TR (Zx X ρ α) σ c (.node (.ins C xs) ts):=r;refine AK r'.ins_ref ?_;rintro a rfl;rcases r'.inst with⟨_,cs,h2,h3,h4⟩
  refine Ah (BL h) ?_;rintro g q1 h;refine Au (CE h) ?_;rintro q2 h;exact Zy hH hf s l r h2 q1 (AlJ (h3▸(Fc _).mp q2)) h
 case w.fz.node.lst =>
  have r':TR (Zx X ρ α) σ c (.node .lst ts):=r;refine AK r'.lst_ref ?_;rintro a rfl;rcases r'.list with⟨_,vs,h2,h3,h4⟩
  refine Au (CE h) ?_;rintro e h;rw[of_decide_eq_true e];refine Sm.eq (Zz h2 (by kernel_rfl)) ?_
  refine(Gz hf h s l).bnd λcs ρ1 α1 σ1 p zz => ?_;rcases zz with⟨vs,as1,s1,r1,h1⟩
  refine Ah (Kn h1) ?_;rintro v e h1;rw[e]at r1;refine Ah (Ko r1) ?_;rintro c e rv;rw[e];have r2:TR (Zx X ρ1 α1) σ1 (.ref a) (.node .lst ts):=TR.mono (λz z h n=>p.tr h n) r';rcases r2.list with⟨_,us,h5,h6,h7⟩
  exact Zv s1 h1 rv h5 h6 h7
 all_goals exact(h:False).elim
theorem AlM(hH:E5 E H Γ)(hf:B9 E f fc){fe:Expr}{es:List Expr}{pos:Pos}{Q:Kq Rv}(h:Tf H f ks loc fe es pos α as Q)(s:Av X ρ α σ)(l:AZ (Zx X ρ α) ρ σ cloc loc):Sm E ρ α σ (Nc (fc ks cloc) Γ ks fe es pos) (PQ X σ.length Q):=by
 have meth:∀{o:Expr} {x:Ac} {apos:Pos},Cm (Fg es apos pos && IX o) (B0 f ks loc o α as λov α as=>Te H f ks loc ov x es α as Q)->Sm E ρ α σ (Li (fc ks cloc) Γ o x apos es pos) (PQ X σ.length Q):=λ{o x apos} h=>by
  refine Au (CE h) ?_;rintro e h;rw[Bf]at e;unfold Li;rw[if_pos e];refine(CF hf h s l).bnd λc ρ1 α1 σ1 p zz => ?_;rcases zz with⟨v,as1,s1,r1,h1⟩
  exact AlL hH hf h1 s1 (l.stp p) r1
 unfold Tf at h;unfold Nc;rcases hq:Cc fe with _ | ⟨x,p⟩
 ·rw[hq]at h;rcases ha:Fe fe with _ | ⟨o,x,apos⟩
  ·rw[ha]at h;exact h.elim
  rw[ha]at h;dsimp only at h ⊢;rcases hw:Cc o with _ | ⟨cn,p⟩
  ·rw[hw]at h;exact meth h
  ·rw[hw]at h;dsimp only at h ⊢;rw[AlF hH.gt];rcases q:H9 G0 ks cn x with _ | g
   ·rw[q]at h;exact meth h
   ·rw[q]at h;refine Au (CE h) ?_;rintro e h;dsimp only;unfold Pp;rw[if_pos e];refine(Gz hf h s l).bnd λcs ρ1 α1 σ1 p zz => ?_;rcases zz with⟨vs,as1,s1,r1,h1⟩
    exact NG (hH.fn _ _ _ _ _ h1 X ρ1 σ1 cs s1 r1)
 ·rw[hq]at h;dsimp only at h ⊢;rw[AlG hH.gt];rcases q:PW ks x es with _ | k
  ·rw[q]at h;exact AlI hH hf h s l
  ·rw[q]at h;exact AlH hH.gt hf h s l
end
end
section
def EF(Z:Nat->Prop)(σ:CH)(ts:List T):Cr->Prop
 | .lst n=>TR Z σ (.ref n) (.node .lst ts)
 | .tup vs=>small vs.length=true/\AB Z σ vs ts
 | .rng a c n=>n<=4000/\ts=(DV a c n).map .int
 | .enm n=>∃us,TR Z σ (.ref n) (.node .lst us)/\ts=Gw us
section
variable {E:CX->Prop}{X Z Z':Nat->Prop}{ρ:List Nat}{α:AH}{σ σ':CH}{n:Nat}{f:EA}{g:TA}{fc:BU}{gc:C3}{H:Hs}{Γ:AP}{ks:AF}{loc:An}{cloc:Ao}{as:List Al}
theorem EF.mono(h:∀a o,σ[a]? = some o->¬Z a->σ'[a]? = some o/\¬Z' a){ts:List T}{src:Cr}(q:EF Z σ ts src):EF Z' σ' ts src:=by
 rcases src with n | vs | ⟨a,c,n⟩ | n
 ·exact TR.mono h q
 ·exact⟨q.1,q.2.mono h⟩
 ·exact q
 ·refine Ah q ?_;clear q;rintro us q1 q2;exact⟨us,q1.mono h,q2⟩
theorem TX(h:small n=true):n<=4000:=of_decide_eq_true h
theorem AlN(ts:List T):(Gw ts).length=ts.length:=by
 unfold Gw;rw[AJ,AqF]
theorem EF.le{ts:List T}(q:EF Z σ ts src):ts.length<=4000:=by
 rcases src with n | vs | ⟨a,c,n⟩ | n
 ·rcases TR.list q with⟨_,vs,_,h2,h3⟩;exact TX (Il h3 h2)
 ·exact TX (Il q.2 q.1)
 ·rw[q.2,AJ,Zm];exact q.1
 ·refine Ah q ?_;clear q;rintro us q1 q2;rcases q1.list with⟨_,vs,_,h2,h3⟩
  rw[q2,AlN];exact TX (Il h3 h2)
theorem ZA{vs:List CV}(e:σ[a]? = some (.list vs))(z:small vs.length=true):listAt σ a=some vs:=by
 unfold listAt;rw[e];exact if_pos z
theorem AB.at_none{vs:List CV}{ts:List T}(h:AB Z σ vs ts){i:Nat}(e:ts[i]? = none):vs[i]? = none:=by
 rw[Rl]at e ⊢;rw[h.len];exact e
theorem EF.item{ts:List T}(q:EF Z σ ts src)(i:Nat):(ts[i]? = none->Ce σ i src=some none)/\∀t,ts[i]? = some t->∃v,Ce σ i src=some (some v)/\TR Z σ v t:=by
 rcases src with n | vs | ⟨a,c,n⟩ | n
 ·rcases TR.list q with⟨_,vs,h1,h2,h3⟩
  unfold Ce;dsimp only;rw[ZA h1 h2];refine⟨λe=>by rw[Rn,h3.at_none e],λt e => ?_⟩
  refine Ah (h3.at e) ?_;rintro v g1 g2;exact⟨v,by rw[Rn,g1],g2⟩
 ·unfold Ce;dsimp only;rw[if_pos q.1];refine⟨λe=>by rw[q.2.at_none e],λt e => ?_⟩
  refine Ah (q.2.at e) ?_;rintro v g1 g2;exact⟨v,by rw[g1],g2⟩
 ·refine Au q ?_;clear q;rintro _ rfl;unfold Ce DV;dsimp only;rw[C5,Hp]
  by_cases h:i<n
  ·rw[if_pos h,Rp h];refine⟨λe=>(nomatch e),λt e => ?_⟩
   injection e with za;subst za
   exact⟨_,rfl,.int _⟩
  ·rw[if_neg h,GI (by rw[BY];exact RD h)]
   exact⟨λz=>rfl,λt e=>(nomatch e)⟩
 ·refine Ah q ?_;clear q;rintro us q1 rfl;rcases q1.list with⟨_,vs,h1,h2,h3⟩
  unfold Ce Gw;dsimp only;rw[ZA h1 h2,Hp,AqG,Rn];rcases e:us[i]? with _ | u
  ·exact⟨λz=>by rw[h3.at_none e];rfl,λt e=>by(exfalso;injection e)⟩
  ·refine Ah (h3.at e) ?_;rintro v g1 g2;refine⟨λe=>(nomatch e),λt e => ?_⟩
   injection e with za;subst za
   rw[g1];refine⟨_,rfl,.tup rfl (.cons ?_ (.cons g2 .nil))⟩;rw[KC];exact .int _
inductive PS(X:Nat->Prop)(target:Expr)(Q:Kq (List T))(src:Cr)(ρ':List Nat)(α':AH)(σ':CH):Prop
 | mk (ts:List T) (as':List Al) (s:Av X ρ' α' σ') (r:EF (Zx X ρ' α') σ' ts src) (e:HD target src=true) (q:Q ts α' as'):PS X target Q src ρ' α' σ'
theorem AlO{v:V}{ts:List T}(h:Tg v=some ts):v=.w (.fz (.node .lst ts))\/v=.w (.fz (.node .tup ts)):=by
 rcases v with(_ | (_ | _ | _ | _ | ⟨_ | _ | _ | _,us⟩) | _) | _
 all_goals first | exact(Ax h).elim | (obtain rfl:=Ay h;first | exact .inl rfl | exact .inr rfl)
theorem AlP(v:V):(∃ts,v=.w (.fz (.node .lst ts)))\/∀{P:List T->Prop},(match v with | .w (.fz (.node .lst ts))=>P ts | _=>False)->False:=by
 rcases v with(_ | (_ | _ | _ | _ | ⟨_ | _ | _ | _,us⟩) | _) | _
 case w.fz.node.lst=>exact .inl ⟨_,rfl⟩
 all_goals exact .inr id
theorem ZC(hg:GT Γ)(hf:B9 E f fc){target e:Expr}{Q:Kq (List T)}(h:PZ f ks loc target e α as Q)(s:Av X ρ α σ)(l:AZ (Zx X ρ α) ρ σ cloc loc):Sm E ρ α σ (GY (fc ks cloc) Γ ks e) (PS X target Q):=by
 have plain:∀{e:Expr},(B0 f ks loc e α as λv α as=>Bv (Tg v) λts=>Q ts α as)->Sm E ρ α σ (M0 (fc ks cloc e)) (PS X target Q):=λ{e} h=>by
  refine(CF hf h s l).bnd λc ρ1 α1 σ1 p zz => ?_;rcases zz with⟨v,as1,s1,r1,h1⟩
  refine Ah (BL h1) ?_;rintro ts e h1;rcases AlO e with rfl | rfl
  ·have r:TR (Zx X ρ1 α1) σ1 c (.node .lst ts):=r1;refine AK r.lst_ref ?_;rintro a rfl;rcases r.list with⟨_,vs,g1,g2,g3⟩
   exact .ok (Co (Dt g1 g2)) AW.refl ⟨ts,as1,s1,(r:EF _ _ ts (.lst a)),rfl,h1⟩
  ·refine AG (TR.tup_inv r1) ?_;rintro vs rfl g1 g2;exact .ret ⟨ts,as1,s1,(⟨g1,g2⟩:EF _ _ ts (.tup vs)),rfl,h1⟩
 unfold PZ at h;unfold GY;rcases hq:JP e with _ | ⟨x,p,rs,pos⟩
 ·rw[hq]at h;exact plain h
 ·rw[hq]at h;dsimp only at h ⊢
  by_cases ex:x=Ab "range"
  ·rw[if_pos ex]at h;rw[if_pos ex];refine Au (CE h) ?_;rintro e h;rw[Bf]at e;rw[if_pos ⟨(TV hg).trans e.1,e.2⟩];refine Sm.eq (x:=bnd (BC (fc ks cloc) rs) λvs=>bnd (H8 vs) λr=>ret (.rng r.1 r.2.1 r.2.2)) (congrFun (Ez _ _ _) _) ?_;refine(Gz hf h s l).bnd λcs ρ1 α1 σ1 p zz => ?_;rcases zz with⟨vs,as1,s1,r1,h1⟩
   refine Bg (Gy h1) ?_;rintro ts as2 e h1;refine CP (Zo e r1) ?_;rintro a c m e1 e2 rfl;refine .ok (b:=Cr.rng a c m) ?_ AW.refl ⟨_,as2,s1,(⟨e2,rfl⟩:EF _ _ _ (.rng a c m)),rfl,h1⟩;unfold H8;rw[e1];rfl
  ·rw[if_neg ex]at h;rw[if_neg ex]
   by_cases ey:x=Ab "enumerate"
   ·rw[if_pos ey]at h;rw[if_pos ey];rcases ho:FJ rs with _ | a
    ·rw[ho]at h;exact h.elim
    ·rw[ho]at h;dsimp only at h ⊢;refine Au (CE h) ?_;rintro e h;rw[Bf,Bf]at e;rw[if_pos ⟨(TV hg).trans e.1.1,by simpa using e.1.2⟩]
     refine Sm.eq (x:=bnd (fc ks cloc a) λv=>bnd (Pz v) λn=>ret (.enm n)) (congrFun (Ez _ _ _) _) ?_;refine(CF hf h s l).bnd λc ρ1 α1 σ1 p zz => ?_;rcases zz with⟨v,as1,s1,r1,h1⟩
     rcases AlP v with⟨ts,rfl⟩ | hn
     ·have r:TR (Zx X ρ1 α1) σ1 c (.node .lst ts):=r1;refine AK r.lst_ref ?_;rintro a' rfl;rcases r.list with⟨_,vs,g1,g2,g3⟩
      refine .ok (b:=Cr.enm a') ?_ AW.refl ⟨_,as1,s1,(⟨ts,r,rfl⟩:EF _ _ (Gw ts) (.enm a')),e.2,h1⟩;rw[Co (b:=a') (σ':=σ1) ?_]
      ·rfl
      ·exact Co (Dt g1 g2)
     ·exact(hn h1).elim
   ·rw[if_neg ey]at h;rw[if_neg ey];exact plain h
theorem AlQ{cv:Ao}{vs:An}(e:vs.map (·.1)=cv.map (·.1))(r:Ds Z ρ σ (cv.map (·.2)) (vs.map (·.2)))(l:AZ Z ρ σ cloc loc):AZ Z ρ σ (cv++cloc) (vs++loc):=by
 intro x w h hn;rw[Acj]at h ⊢;rcases q:vs.lookup x with _ | w'
 ·rw[q]at h;rw[Zw e q];exact l x w h hn
 ·rw[q]at h;injection h with za;subst za
  refine Ah (Zk e r q) ?_;rintro v h1 h2;rw[h1];exact⟨v,rfl,h2⟩
theorem AlR(p:Ac->Bool):∀(l:List (Ac×β)) (x:Ac),(l.filter λq=>p q.1).lookup x=if p x=true then l.lookup x else none:=by
 intro z1
 induction z1 with
 | nil =>
  intro x
  split<;>rfl
 | cons z2 r ih =>
  rcases z2 with⟨y,v⟩
  intro x;rw[Ab7,BI];rcases q:x == y with _ | _
  ·by_cases h:p y=true
   ·rw[if_pos h,BI,q];exact ih x
   ·rw[if_neg h];exact ih x
  ·have e:=KP q;subst e
   by_cases h:p x=true
   ·rw[if_pos h,if_pos h,BI,q]
   ·rw[if_neg h,if_neg h,ih x,if_neg h]
theorem AlS(p:Ac->Bool)(l:AZ Z ρ σ cloc loc):AZ Z ρ σ (cloc.filter λq=>p q.1) (loc.filter λq=>p q.1):=by
 intro x w h hn;rw[AlR]at h ⊢
 by_cases q:p x=true
 ·rw[if_pos q]at h ⊢;exact l x w h hn
 ·rw[if_neg q]at h;exfalso;injection h
theorem AlT:∀{es:List Expr} {ts:List T} {vs:List CV} {vars:An},P0 es ts=some vars->AB Z σ vs ts->∃cv,Ib es vs=some cv/\vars.map (·.1)=cv.map (·.1)/\Ds Z ρ σ (cv.map (·.2)) (vars.map (·.2)):=by
 intro z1
 induction z1 with
 | nil =>
  intro z2;rcases z2 with _ | ⟨z3,z4⟩
  ·intro vs vars h r;rcases r with⟨⟩;(injection h with za;subst za);exact⟨[],rfl,rfl,trivial⟩
  ·intro vs vars h r;exfalso;injection h
 | cons e es ih =>
  intro z5;rcases z5 with _ | ⟨t,ts⟩
  ·intro vs vars h r;exact(Ax h).elim
  ·intro vs vars h r;refine Br r.cons_inv ?_;rintro v ws rfl a r;have h:ob (Cc e) (λq=>ob (P0 es ts) λr=>some ((q.1,W.fz t)::r))=some vars:=h;refine AQ h λq hq h=>AQ h λvr q2 h => ?_;obtain rfl:=Ay h;refine AG (ih q2 r) ?_;rintro cv h1 h2 h3;refine⟨(q.1,v)::cv,?_,by rw[Bo,Bo,h2],a,h3⟩
   show ob (Cc e) (λq=>ob (Ib es ws) λr=>some ((q.1,v)::r))=_;rw[hq,h1]
theorem AlU{t:T}{v:CV}{vars:An}(h:P1 target t=some vars)(r:TR Z σ v t):∃cv,JZ target v=some cv/\vars.map (·.1)=cv.map (·.1)/\Ds Z ρ σ (cv.map (·.2)) (vars.map (·.2)):=by
 unfold P1 at h;unfold JZ;rcases hq:Cc target with _ | q
 ·rw[hq]at h;refine AQ h λq hq2 h=>AQ h λts ht h => ?_;obtain rfl:=Zc ht;refine AG (TR.tup_inv r) ?_;rintro vs rfl _ r1;refine Ah (AlT (ρ:=ρ) h r1) ?_;rintro cv h1 h2;refine⟨cv,?_,h2⟩;rw[hq2];exact h1
 ·rw[hq]at h;obtain rfl:=Ay h;exact⟨[(q.1,v)],rfl,rfl,r,trivial⟩
theorem AlV{vars:An}{cv:Ao}(e:vars.map (·.1)=cv.map (·.1)):MY names cv=Th names vars:=by
 have key:∀{β:Type} (l:List (Ac×β)),(l.all λp=>names.lookup p.1 == some NameKind.local)=(l.map (·.1)).all λx=>names.lookup x == some NameKind.local:=λl=>by rw[List.all_map];rfl
 unfold MY Th;rw[key,key,e]
theorem AlW(hg:FZ E g gc){es:List Expr}{Q:Kq Bool}(h:Y4 g ks loc es α as Q)(s:Av X ρ α σ)(l:AZ (Zx X ρ α) ρ σ cloc loc):Sm E ρ α σ (MZ (gc ks cloc) es) (PB X Q):=by
 match es,h with
 | [],h=>exact .ret ⟨as,s,h⟩
 | [e],h=>exact hg ks loc e α as Q h X ρ σ cloc s l
theorem ZD{x:CM β}{P:TS β}(hE:∀x,¬E x)(h:Sm E ρ α σ x P):Sm E ρ α σ (JY x) P:=by
 unfold Sm at h;unfold Sm JY;rcases e:x σ with _ | ⟨b,σ1⟩ | ⟨y,σ1⟩
 ·rw[e]at h;exact h
 ·rw[e]at h;exact h
 ·rw[e]at h;exact(hE _ h.2).elim
theorem AlX(hE:∀x,¬E x)(hf:B9 E f fc)(hg:FZ E g gc){names:AF}{base:An}{cbase:Ao}{target elt:Expr}{ifs:List Expr}{t:T}{v:CV}{K:Option T->Prop}(h:Ki f g names base target elt ifs α t as K)(s:Av X ρ α σ)(l:AZ (Zx X ρ α) ρ σ cbase base)(r:TR (Zx X ρ α) σ v t) :
  Sm E ρ α σ (GX (fc names) (gc names) cbase names target elt ifs v) (λo ρ' α' σ'=>α'=α/\Av X ρ' α' σ'/\∃yo,K yo/\match o,yo with
   | some y,some t=>TR (Zx X ρ' α') σ' y t
   | none,none=>True
   | _,_=>False):=by
 unfold Ki at h;rcases q:P1 target t with _ | vars
 ·rw[q]at h;exact h.elim
 ·rw[q]at h;refine Au (CE h) ?_;rintro e1 h;refine AG (AlU (ρ:=ρ) q r) ?_;rintro cv h1 h2 h3;unfold GX;rw[h1];dsimp only;rw[if_pos ((AlV h2).trans e1)];have l':=AlQ h2 h3 l;refine(ZD hE (AlW hg h s l')).bnd λok ρ1 α1 σ1 p zz => ?_;rcases zz with⟨as1,s1,h1⟩
  rcases ok with _ | _
  ·refine Au h1 ?_;clear h1;rintro h1 h4;exact .ret ⟨h1,s1,none,h4,trivial⟩
  ·refine(ZD hE (CF hf h1 s1 (l'.stp p))).bnd λy ρ2 α2 σ2 p2 zz => ?_;rcases zz with⟨v2,as2,s2,r2,h2⟩
   try dsimp only at h2
   rcases v2 with(_ | t2 | _) | _
   case w.fz=>exact .ret ⟨h2.1,s2,some t2,h2.2,r2⟩
   all_goals exact h2.elim
theorem AlY(s:Av X ρ α σ){ρ':List Nat}{X':Nat->Prop}{σ':CH}(s':Av X' ρ' α σ')(p:∀(k a:Nat),ρ[k]? = some a->ρ'[k]? = some a):ρ'=ρ:=by
 refine Acw λk => ?_;rcases q:ρ[k]? with _ | a
 ·rw[Rl]at q ⊢;rw[s'.len,<- s.len];exact q
 ·exact p k a q
theorem ZE(hX:X a)(o':CO){b:Nat}{o:CO}(hb:σ[b]? = some o)(n:¬Zx X ρ α b):(σ.set a o')[b]? = some o/\¬Zx X ρ α b:=⟨by rw[Hg (λe:a=b=>n (.inl (e▸hX)))];exact hb,n⟩
theorem Av.xset(s:Av X ρ α σ){a:Nat}(hX:X a)(o':CO):Av X ρ α (σ.set a o'):=by
 refine⟨s.len,s.nd,λb hb=>by rw[Hh];exact s.lt b hb,s.nx,λb hb=>by rw[Hh];exact s.xlt b hb,λj b o h1 h2 => ?_⟩
 refine(s.ob j b o h1 h2).mono (λc oc hc n=>ZE hX o' hc n) (λz z h=>h) λz => ?_;exact Hg λe:a=b=>s.nx b (Gg h1) (e▸hX)
def Qj(X:Nat->Prop)(ρ:List Nat)(α:AH)(acc:Nat)(σ:CH)(qs:List T)(b:Nat)(r:B8 CV):Prop:=∃σ' vs',r=.ok (.ref acc) σ'/\Av X ρ α σ'/\σ'[acc]? = some (.list vs')/\AB (Zx X ρ α) σ' vs' qs/\qs.length<=b/\σ.length<=σ'.length/\∀a o,σ[a]? = some o->a≠acc->¬Eb ρ α a->σ'[a]? = some o
theorem Qj.pre{σ1:CH}{qs:List T}{b b':Nat}{r r':B8 CV}(h:Qj X ρ α acc σ1 qs b r)(e:r'=r)(hb:b<=b')(hl:σ.length<=σ1.length)(hk:∀a o,σ[a]? = some o->a≠acc->¬Eb ρ α a->σ1[a]? = some o):Qj X ρ α acc σ qs b' r':=by
 refine KU h ?_;clear h;rintro σ2 vs2 k1 k2 k3 k4 k5 k6 k7;exact⟨σ2,vs2,e.trans k1,k2,k3,k4,AE k5 hb,AE hl k6,λa o ho hne hnl=>k7 a o (hk a o ho hne hnl) hne hnl⟩
theorem AlZ{body:CV->CM (Option CV)}{m:Nat}(hi:Ce σ i src=some none):E3 src body acc (m+1) i σ=.ok (.ref acc) σ:=by
 rw[XQ];dsimp only;rw[hi]
theorem Al0{body:CV->CM (Option CV)}{m:Nat}{v:CV}{o:Option CV}{σ1:CH}(hi:Ce σ i src=some (some v))(eb:body v σ=.ok o σ1):E3 src body acc (m+1) i σ=Lm acc (E3 src body acc m (i+1)) o σ1:=by
 rw[XQ];dsimp only;rw[hi];exact Co eb
def Al1(Z:Nat->Prop)(σ1:CH)(co:Option CV):Option T->Prop
 | some t=>∃y,co=some y/\TR Z σ1 y t
 | none=>co=none
theorem Al2(hE:∀x,¬E x)(hf:B9 E f fc)(hg:FZ E g gc){names:AF}{base:An}{cbase:Ao}{target elt:Expr}{ifs:List Expr}{t:T}{v:CV}{o:Option T}(h:Ki f g names base target elt ifs α t as λo'=>o'=o)(s:Av X ρ α σ)(l:AZ (Zx X ρ α) ρ σ cbase base)(r:TR (Zx X ρ α) σ v t) :
  ∃co σ1,GX (fc names) (gc names) cbase names target elt ifs v σ=.ok co σ1/\AW ρ α σ ρ α σ1/\Av X ρ α σ1/\Al1 (Zx X ρ α) σ1 co o:=by
 have body:=AlX hE hf hg h s l r;unfold Sm at body;rcases eb:GX (fc names) (gc names) cbase names target elt ifs v σ with _ | ⟨co,σ1⟩ | ⟨y,σ1⟩
 ·rw[eb]at body;exact body.elim
 ·rw[eb]at body;rcases body with⟨ρ1,α1,p,e1,s1,yo,e2,hm2⟩
  rw[e1]at p s1 hm2;have er:=AlY s s1 p.pre;rw[er]at p s1 hm2;refine⟨co,σ1,rfl,p,s1,?_⟩;rw[<- e2];rcases yo with _ | y<;>rcases co with _ | cy
  ·rfl
  ·exact hm2.elim
  ·exact hm2.elim
  ·exact⟨_,rfl,hm2⟩
 ·rw[eb]at body;exact(hE _ body.2).elim
theorem Al3(hE:∀x,¬E x)(hf:B9 E f fc)(hg:FZ E g gc){names:AF}{base:An}{cbase:Ao}{target elt:Expr}{ifs:List Expr}{acc:Nat}{src:Cr}{ts:List T}:∀(us rs:List T),CB (Ki f g names base target elt ifs α) us rs->∀(i m:Nat) (σ:CH) (vs:List CV) (qs:List T),us.length<m->ts.drop i=us->qs.length<=i ->
  Av X ρ α σ->AZ (Zx X ρ α) ρ σ cbase base->EF (Zx X ρ α) σ ts src->X acc->σ[acc]? = some (.list vs)->AB (Zx X ρ α) σ vs qs ->
  Qj X ρ α acc σ (qs++rs) (i+us.length) (E3 src (GX (fc names) (gc names) cbase names target elt ifs) acc m i σ):=by
 intro us
 induction us with
 | nil =>
  intro rs h i m σ vs qs hm hd hq s l sr hX ha hr;have hi:ts[i]? = none:=GI (by have:=congrArg IH hd;rw[QZ]at this;exact AqH this)
  rw[show rs=[]from h,Dw];rcases m with _ | m
  ·exact absurd hm (OB _)
  ·exact⟨σ,vs,AlZ ((sr.item i).1 hi),s,ha,hr,hq,AM _,λa o h q q=>h⟩
 | cons u us ih =>
  intro rs h i m σ vs qs hm hd hq s l sr hX ha hr;refine Bg h ?_;clear h;rintro as o hb h;rcases m with _ | m
  ·exact absurd hm (OB _)
  have hm:=QU hm;have hi:ts[i]? = some u:=by
   have:=congrArg (·[0]?) hd;rw[Acx]at this;exact this
  have hd':ts.drop (i+1)=us:=by rw[<- AqI,hd];rfl
  have hlen:=sr.le;have hil:i<ts.length:=(DT.mp hi).1;refine Ah ((sr.item i).2 u hi) ?_;rintro v g1 g2;clear hi hd;refine Cq (Al2 hE hf hg hb s l g2) ?_;rintro co σ1 eb p s1 ho;have e:=Al0 (acc:=acc) (m:=m) g1 eb;clear hb g1 g2 eb;have hk:∀a o,σ[a]? = some o->a≠acc->¬Eb ρ α a->σ1[a]? = some o:=λa o h q hn=>p.keep a o h hn;have ha1:=p.keep acc _ ha λ⟨j,_,h1,_⟩=>s.nx acc (Gg h1) hX;have l1:=l.stp p;have sr1:EF (Zx X ρ α) σ1 ts src:=sr.mono λa o h n=>p.tr h n;have hr1:AB (Zx X ρ α) σ1 vs qs:=hr.mono λa o h n=>p.tr h n;have pl:=p.len;have hz:small vs.length=true:=decide_eq_true (by rw[hr.len];exact Ac8 hq hlen hil)
  clear ha l sr hr p s hlen hil;have hb:=Md (UO i 1 us.length);rcases o with _ | y
  ·rw[show co=none from ho]at e;exact(ih rs h (i+1) m σ1 vs qs hm hd' (Ac9 hq) s1 l1 sr1 hX ha1 hr1).pre e hb pl hk
  ·refine Ah ho ?_;clear ho;rintro cy rfl hy;refine Ah h ?_;clear h;rintro rs' rfl h;have happ:Hz acc cy σ1=.ok .none (σ1.set acc (.list (vs++[cy]))):=(Co (Dt ha1 hz)).trans rfl;have mono2:∀(a:Nat) o,σ1[a]? = some o->¬Zx X ρ α a->(σ1.set acc (.list (vs++[cy])))[a]? = some o/\¬Zx X ρ α a:=λa o h n=>ZE hX _ h n;have z:=ih rs' h (i+1) m (σ1.set acc (.list (vs++[cy]))) (vs++[cy]) (qs++[y]) hm hd' (by rw[Bl];exact FA hq) (s1.xset hX _)
    (λx w hx hn=>by(refine Ah (l1 x w hx hn) ?_;rintro c c1 c2);exact⟨c,c1,c2.mono mono2 λq q h=>h⟩) (sr1.mono mono2) hX (Qa ha1) ((hr1.mono mono2).app (.cons (hy.mono mono2) .nil))
   rw[Gd]at z;exact z.pre (e.trans (Co happ)) hb (by rw[Hh];exact pl) λa o h hne hn=>(Hg (ER hne)).trans (hk a o h hne hn)
theorem Al4(h:Ti ks loc scope=true)(l:AZ Z ρ σ cloc loc):Jc ks cloc scope=true:=by
 unfold Ti at h;unfold Jc;rw[Bf]at h ⊢;refine⟨h.1,B7.mpr λp hp => ?_⟩;have z:=B7.mp h.2 p hp;rw[Bf,Vj,Bf,Bf]at z ⊢;refine⟨z.1,z.2.imp id λz=>⟨?_,z.2⟩⟩;have z:=z.1;unfold Y3 at z;rcases q:loc.lookup p.1 with _ | w
 ·rw[q]at z;(exfalso;injection z)
 ·rw[q]at z;refine Ah (l p.1 w q (λe=>by subst e;(exfalso;injection z))) ?_;rintro v e _
  rw[e];rfl
theorem Al5{f:Expr->CM CV}{fv:BU}{ft:C3}{loc:Ao}:DW Γ f fv ft ks loc elt [⟨target,iter,ifs,0⟩] scope=if Jc ks loc scope=true/\HF iter=true then bnd (GY f Γ ks iter) (Na fv ft ks loc elt target ifs scope)else Ar:=rfl
theorem ZF(hH:E5 E H Γ)(hf:B9 E f fc)(hg:FZ E g gc){elt:Expr}{gens:List Hi}{scope:Scope}{Q:Kq Rv}(h:Tj H f g ks loc elt gens scope α as Q)(s:Av X ρ α σ)(l:AZ (Zx X ρ α) ρ σ cloc loc):Sm E ρ α σ (DW Γ (fc ks cloc) fc gc ks cloc elt gens scope) (PQ X σ.length Q):=by
 refine Ah (BL h) ?_;rintro⟨target,iter,ifs⟩ eg h;rw[WW eg];refine Au (CE h) ?_;rintro e h;rw[Bf,Bf]at e;have hE:=hH.quiet e.2;rw[Al5,if_pos ⟨Al4 e.1.1 l,e.1.2⟩];refine(ZC hH.gt hf h s l).bnd λsrc ρ1 α1 σ1 p zz => ?_;rcases zz with⟨ts,as1,s1,sr,hfit,h1⟩
 unfold Na;rw[if_pos hfit];refine AG (BL h1) ?_;rintro⟨rs,as2⟩ _ hc hQ;have hx:B2 [] σ1=.ok (.ref σ1.length) (σ1++[.list []]):=rfl;have s2:=s1.lay (.list []);have mono:∀(a:Nat) o,σ1[a]? = some o->¬Zx X ρ1 α1 a->(σ1++[CO.list []])[a]? = some o/\¬Zx (Xp X σ1.length) ρ1 α1 a:=λa o h n=>Qb s1 _ h n;refine KU (Al3 hE hf hg (acc:=σ1.length) (src:=src) ts rs hc 0 GW (σ1++[.list []]) [] [] (by have:=sr.le;unfold GW;exact Wj this) rfl (AM _) s2
  (λx w hx hn=>by
   have hx':(loc.filter λq=>(Dk ks scope.names).lookup q.1 == some Vx || (Dk ks scope.names).lookup q.1 == some ES).lookup x=some w:=hx;refine Ah (AlS (λy=>(Dk ks scope.names).lookup y == some Vx || (Dk ks scope.names).lookup y == some ES) (l.stp p) x w hx' hn) ?_;rintro c c1 c2;exact⟨c,c1,c2.mono mono λz z h=>h⟩) (sr.mono mono) (.inr rfl) (Qc _) .nil) ?_;rintro σ2 vs k1 k2 k3 k4 k5 k6 k7
 have hle:=sr.le;refine .ok (b:=.ref σ1.length) (ρ':=ρ1) (α':=α1) (σ':=σ2) ?_ ⟨by rw[Bl]at k6;exact AE (Hf _ _) k6,λa o ha hn=>k7 a o (by rw[GH (HJ ha)];exact ha) (λe=>BX _ (e▸HJ ha)) hn,λz z h=>h,λa h=>.inl h⟩ ⟨.l rs,as2,⟨σ1.length,vs,rfl,p.len,λq=>BX _ (s1.xlt _ q),k3,decide_eq_true (by rw[k4.len];exact AE k5 (om7 hle)),k2,k4⟩,hQ⟩
 rw[Co hx];exact k1
end
end
section
section
variable {E:CX->Prop}{X Z Z':Nat->Prop}{ρ:List Nat}{α:AH}{σ σ':CH}{n:Nat}{f:EA}{g:TA}{fc:BU}{gc:C3}{H:Hs}{Γ:AP}{ks:AF}{loc:An}{cloc:Ao}{as:List Al}
theorem ZG(h:(!b)=true):¬b=true:=by
 rcases b with⟨⟩
 ·exact CD
 ·exfalso;injection h
theorem Al6(hf:B9 E f fc){es:List Expr}{Q:Kq Rv}(h:Ee f ks loc es α as λvs α as=>Bv (Gu α vs) λp=>Cm (small p.1.length) (Q (.v (Vf (.node .tup p.1))) p.2 as))(s:Av X ρ α σ)(l:AZ (Zx X ρ α) ρ σ cloc loc):Sm E ρ α σ (bnd (BC (fc ks cloc) es) EV) (PQ X n Q):=by
 refine(Gz hf h s l).bnd λcs ρ1 α1 σ1 p zz => ?_;rcases zz with⟨vs,as1,s1,r1,h1⟩
 refine Ah (BL h1) ?_;rintro⟨ts,α2⟩ e h1;refine Au (CE h1) ?_;rintro z h1;refine C6 (TB e s1 r1) ?_;rintro s2 p2 t2;have z':small cs.length=true:=by rw[t2.len];exact z
 exact .ok (congrFun (if_pos z':EV cs=ret (.tup cs)) σ1) p2 ⟨.v (Vf (.node .tup ts)),as1,⟨s2,TR.tup z' t2⟩,h1⟩
theorem Al7(hf:B9 E f fc){es:List Expr}{Q:Kq Rv}(h:Ee f ks loc es α as λvs α as=>Bv (Gu α vs) λp=>Cm (small p.1.length) (Q (.l p.1) p.2 as))(s:Av X ρ α σ)(l:AZ (Zx X ρ α) ρ σ cloc loc)(hn:n<=σ.length):Sm E ρ α σ (bnd (BC (fc ks cloc) es) B2) (PQ X n Q):=by
 refine(Gz hf h s l).bnd λcs ρ1 α1 σ1 p zz => ?_;rcases zz with⟨vs,as1,s1,r1,h1⟩
 refine Ah (BL h1) ?_;rintro⟨ts,α2⟩ e h1;refine Au (CE h1) ?_;rintro z h1;refine C6 (TB e s1 r1) ?_;rintro s2 p2 t2;exact Sm.pre p2 (Im (Ik s2 rfl t2 z (AE hn p.len)) h1 (AM _))
theorem TY(hg:FZ E g gc){β:Type}{P:TS β}{t:Expr}{A B:AH->List Al->Prop}{ca cb:CM β}(h:g ks loc t α as λq α as=>match q with | true=>A α as | false=>B α as)(s:Av X ρ α σ)(l:AZ (Zx X ρ α) ρ σ cloc loc)
  (ha:∀ρ' α' σ' as',AW ρ α σ ρ' α' σ'->Av X ρ' α' σ'->AZ (Zx X ρ' α') ρ' σ' cloc loc->A α' as'->Sm E ρ' α' σ' ca P)
  (hb:∀ρ' α' σ' as',AW ρ α σ ρ' α' σ'->Av X ρ' α' σ'->AZ (Zx X ρ' α') ρ' σ' cloc loc->B α' as'->Sm E ρ' α' σ' cb P):Sm E ρ α σ (bnd (gc ks cloc t) λq=>if q=true then ca else cb) P:=by
 refine(hg ks loc t α as _ h X ρ σ cloc s l).bnd λq ρ1 α1 σ1 p zz => ?_;rcases zz with⟨as1,s1,h1⟩
 rcases q with _ | _
 ·exact hb ρ1 α1 σ1 as1 p s1 (l.stp p) h1
 ·exact ha ρ1 α1 σ1 as1 p s1 (l.stp p) h1
theorem Al8(hH:E5 E H Γ)(hf:B9 E f fc)(hg:FZ E g gc):B9 E (Nx H f g) (Sq Γ fc gc):=by
 intro ks loc e α as Q h X ρ σ cloc s l;rcases e with⟨op,es,p⟩ | _ | ⟨a,op,b,p⟩ | ⟨op,a,p⟩ | _ | ⟨t,a,b,p⟩ | ⟨ks',vs,p⟩ | _ | ⟨elt,gens,scope,p⟩ | _ | _ | _ | _ | _ | _ | ⟨a,ops,es,p⟩ | ⟨fe,es,kw,p⟩ | _ | _ | ⟨k,m,p⟩ | ⟨o,x,p⟩ | ⟨o,i,p⟩ | _ | ⟨x,p⟩ | ⟨es,p⟩ | ⟨es,m,p⟩ | _
 case Constant =>
  refine Ah (BL h) ?_;rintro t e h;rcases Alp (Z:=Zx X ρ α) e with⟨c,e2,r⟩
  show Sm E ρ α σ (Pf k) _;rw[e2];exact .ret ⟨.v (Vf t),as,⟨s,r⟩,h⟩
 case Name =>
  refine Ah (BL h) ?_;rintro w e h;refine Ah (Alq hH.gt e l) ?_;rintro c e2 r;show Sm E ρ α σ (GS Γ ks cloc x) _;rw[e2];exact .ret ⟨.v (.w w),as,⟨s,r⟩,h⟩
 case UnaryOp =>
  rcases op with _ | _ | _ | _
  case USub =>
   dsimp only[Nx]at h;refine Sm.bnd (CF hf h s l) λc ρ1 α1 σ1 p zz => ?_;rcases zz with⟨v,as1,s1,r1,h1⟩
   refine Ah (BL h1) ?_;rintro i e h1;rcases D3 e r1 with rfl
   exact .ret ⟨.v (Vf (.int (-i))),as1,⟨s1,TR.int _⟩,h1⟩
  case Not =>
   dsimp only[Nx]at h;refine Sm.bnd (CF hf h s l) λc ρ1 α1 σ1 p zz => ?_;rcases zz with⟨v,as1,s1,r1,h1⟩
   refine Ah (BL h1) ?_;rintro b e h1;exact .ok (Co (TP s1 e r1)) AW.refl ⟨.v (Vf (.bool !b)),as1,⟨s1,TR.bool _⟩,h1⟩
  all_goals exact h.elim
 case BinOp =>
  dsimp only[Nx]at h;refine Sm.bnd (CF hf h s l) λc ρ1 α1 σ1 p1 zz => ?_;rcases zz with⟨v,as1,s1,r1,h1⟩
  refine Sm.bnd (CF hf h1 s1 (l.stp p1)) λd ρ2 α2 σ2 p2 zz => ?_;rcases zz with⟨w,as2,s2,r2,h2⟩
  refine Ah (BL h2) ?_;rintro⟨gd,r⟩ e h2;rcases Km h2 with⟨hgd,as3,h2⟩
  refine AK (AkB h2) ?_;rintro as4 h2;exact Im (AkN s2 e hgd (r1.stp p2) r2 (p1.trans p2).len) h2 (AM _)
 case BoolOp=>exact NG (Alr hf h s l)
 case Compare =>
  refine Au (CE h) ?_;rintro e h;refine Sm.eq (x:=bnd (fc ks cloc a) λv=>HA (fc ks cloc) v ops es) (congrFun (if_neg (ZG e)) σ) ?_;refine Sm.bnd (CF hf h s l) λc ρ1 α1 σ1 p1 zz => ?_;rcases zz with⟨v,as1,s1,r1,h1⟩
  rw[Alu];refine Sm.bnd (Zr hf h1 s1 (l.stp p1) r1) λt ρ2 α2 σ2 p2 zz => ?_;rcases zz with⟨as2,s2,h2⟩
  exact .ret ⟨.v (Vf (.bool t)),as2,⟨s2,TR.bool _⟩,h2⟩
 case IfExp=>exact TY hg h s l (λρ' α' σ' as' p s' l' h=>PQ.le (hf ks loc a α' as' Q h X ρ' σ' cloc s' l') p.len) λρ' α' σ' as' p s' l' h=>PQ.le (hf ks loc b α' as' Q h X ρ' σ' cloc s' l') p.len
 case Tuple=>exact Al6 hf h s l
 case List=>exact Al7 hf h s l (AM _)
 case Dict =>
  match ks',vs,h with
  | [],[],h=>exact Im (r:=.d []) (m:=σ.length) (.ok rfl (AW.lay _) ⟨rfl,EE.newDict s (cs:=[]) (es:=[]) rfl .nil (AM _)⟩) h (AM _)
 case Attribute =>
  refine Au (CE h) ?_;rintro e h;refine Sm.eq (x:=bnd (fc ks cloc o) λv=>H5 Γ v x) (congrFun (if_pos e) σ) ?_;refine Sm.bnd (CF hf h s l) λc ρ1 α1 σ1 p1 zz => ?_;rcases zz with⟨v,as1,s1,r1,h1⟩
  refine Ah (BL h1) ?_;rintro w e h1;refine Ah (AkR hH.gt s1 e r1) ?_;rintro d e2 r;exact .ok e2 AW.refl ⟨.v (.w w),as1,⟨s1,r⟩,h1⟩
 case Subscript=>exact Alw hf h s l
 case Call =>
  match kw,h with
  | [],h=>exact AlM hH hf h s l
 case ListComp=>exact ZF hH hf hg h s l
 all_goals exact h.elim
theorem Al9(hf:B9 E f fc)(hg:FZ E g gc):FZ E (Y5 f g) (Sr fc gc):=by
 intro ks loc e α as Q h X ρ σ cloc s l;have plain:(B0 f ks loc e α as λv α as=>Bv (Kc α v) λb=>Q b α as)->Sm E ρ α σ (bnd (fc ks cloc e) GU) (PB X Q):=λh=>by
  refine Sm.bnd (CF hf h s l) λc ρ1 α1 σ1 p zz => ?_;rcases zz with⟨v,as1,s1,r1,h1⟩
  refine Ah (BL h1) ?_;rintro b e h1;exact .ok (TP s1 e r1) AW.refl ⟨as1,s1,h1⟩
 rcases e with⟨op,es,p⟩ | _ | _ | ⟨op,a,p⟩ | _ | ⟨t,a,b,p⟩ | _ | _ | _ | _ | _ | _ | _ | _ | _ | ⟨a,ops,es,p⟩ | _ | _ | _ | _ | _ | _ | _ | _ | _ | _ | _
 case UnaryOp =>
  rcases op with _ | _ | _ | _
  case Not=>exact Sm.bnd (hg ks loc a α as _ h X ρ σ cloc s l) λq ρ1 α1 σ1 p ⟨as1,s1,h1⟩=>.ret ⟨as1,s1,h1⟩
  all_goals exact plain h
 case BoolOp=>exact Alv hg h s l
 case IfExp=>exact TY hg h s l (λρ' α' σ' as' p s' l' h=>hg ks loc a α' as' Q h X ρ' σ' cloc s' l') λρ' α' σ' as' p s' l' h=>hg ks loc b α' as' Q h X ρ' σ' cloc s' l'
 case Compare =>
  refine Au (CE h) ?_;rintro e h;refine Sm.eq (x:=bnd (fc ks cloc a) λv=>FN (fc ks cloc) v ops es) (congrFun (if_neg (ZG e)) σ) ?_;refine Sm.bnd (CF hf h s l) λc ρ1 α1 σ1 p1 zz => ?_;rcases zz with⟨v,as1,s1,r1,h1⟩
  exact Zr hf h1 s1 (l.stp p1) r1
 all_goals exact plain h
theorem NH(hH:E5 E H Γ):∀n,B9 E (DY H n).1 (Bu Γ n).1/\FZ E (DY H n).2 (Bu Γ n).2:=by
 intro z1
 induction z1 with
 | zero =>
  exact⟨λz z z z z z h=>h.elim,λz z z z z z h=>h.elim⟩
 | succ n ih =>
  exact⟨Al8 hH (ih).1 (ih).2,Al9 (ih).1 (ih).2⟩
end
end
section
set_option tactic.hygienic true in
noncomputable def FlR(Z:Nat->Prop)(ρ:List Nat)(σ:CH):Bp->BZ->Prop
 | .next,.next=>True
 | .ret v,.ret w=>UR Z ρ σ v w
 | _,_=>False
inductive PF(X:Nat->Prop)(Q:BZ->An->AH->List Al->Prop)(p:Bp×Ao)(ρ':List Nat)(α':AH)(σ':CH):Prop
 | mk (fl:BZ) (loc':An) (as':List Al) (s:Av X ρ' α' σ') (r:FlR (Zx X ρ' α') ρ' σ' p.1 fl) (l:AZ (Zx X ρ' α') ρ' σ' p.2 loc') (q:Q fl loc' α' as'):PF X Q p ρ' α' σ'
inductive PL(X:Nat->Prop)(Q:Kq An)(p:Unit×Ao)(ρ':List Nat)(α':AH)(σ':CH):Prop
 | mk (loc':An) (as':List Al) (s:Av X ρ' α' σ') (l:AZ (Zx X ρ' α') ρ' σ' p.2 loc') (q:Q loc' α' as'):PL X Q p ρ' α' σ'
def Qk(E:CX->Prop)(x:XA)(xc:XT):Prop:=∀body loc α as Q,x body loc α as Q->∀X ρ σ cloc,Av X ρ α σ->AZ (Zx X ρ α) ρ σ cloc loc->Sm E ρ α σ (xc body cloc) (PF X Q)
section
variable {E:CX->Prop}{X Z Z':Nat->Prop}{ρ:List Nat}{α:AH}{σ σ':CH}{n:Nat}{f:EA}{g:TA}{fc:BU}{gc:C3}{H:Hs}{Γ:AP}{ks:AF}{loc:An}{cloc:Ao}{as:List Al}
theorem Ama(x:Ac)(v:CV):∀(l:Ao) (y:Ac),(CQ x v l).lookup y=if y=x then some v else l.lookup y:=by
 intro z1
 induction z1 with
 | nil =>
  intro y;show Ab6 y [(x,v)]=_;rw[BI]
  by_cases e:y=x
  ·rw[if_pos e,e,beq_self_eq_true]
  ·rw[if_neg e,beq_eq_false_iff_ne.mpr e]
 | cons z2 r ih =>
  rcases z2 with⟨z,w⟩
  intro y;rw[MP]
  by_cases e:z=x
  ·rw[if_pos e,BI,BI];subst e
   by_cases e2:y=z
   ·rw[if_pos e2,e2,beq_self_eq_true]
   ·rw[if_neg e2,beq_eq_false_iff_ne.mpr e2]
  ·rw[if_neg e,BI,BI,ih y]
   by_cases e2:y=z
   ·rw[e2,beq_self_eq_true];dsimp only;rw[if_neg e]
   ·rw[beq_eq_false_iff_ne.mpr e2]
theorem Amb(x:Ac)(v:W):∀(l:An) (y:Ac),(Gx x v l).lookup y=if y=x then some v else l.lookup y:=by
 intro z1
 induction z1 with
 | nil =>
  intro y;show Ab6 y [(x,v)]=_;rw[BI]
  by_cases e:y=x
  ·rw[if_pos e,e,beq_self_eq_true]
  ·rw[if_neg e,beq_eq_false_iff_ne.mpr e]
 | cons z2 r ih =>
  rcases z2 with⟨z,w⟩
  intro y;rw[Y6]
  by_cases e:z=x
  ·rw[if_pos e,BI,BI];subst e
   by_cases e2:y=z
   ·rw[if_pos e2,e2,beq_self_eq_true]
   ·rw[if_neg e2,beq_eq_false_iff_ne.mpr e2]
  ·rw[if_neg e,BI,BI,ih y]
   by_cases e2:y=z
   ·rw[e2,beq_self_eq_true];dsimp only;rw[if_neg e]
   ·rw[beq_eq_false_iff_ne.mpr e2]
theorem Amc{v:CV}{w:W}(r:WR Z ρ σ v w)(l:AZ Z ρ σ cloc loc):AZ Z ρ σ (CQ x v cloc) (Gx x w loc):=by
 intro y u h hn;rw[Amb]at h;rw[Ama]
 by_cases e:y=x
 ·rw[if_pos e]at h ⊢;injection h with za;subst za
  exact⟨v,rfl,r⟩
 ·rw[if_neg e]at h ⊢;exact l y u h hn
theorem Amd{v:CV}{w:W}(r:WR Z ρ σ v w):∀{as:List (Ac×W)} {cs:List (Ac×CV)},as.map (·.1)=cs.map (·.1)->Ds Z ρ σ (cs.map (·.2)) (as.map (·.2))->(Gx x w as).map (·.1)=(CQ x v cs).map (·.1)/\Ds Z ρ σ ((CQ x v cs).map (·.2)) ((Gx x w as).map (·.2)):=by
 intro z1
 induction z1 with
 | nil =>
  intro z3;rcases z3 with _ | ⟨z4,z5⟩
  ·intro z6 z7;exact⟨rfl,r,trivial⟩
  ·intro e z8;exfalso;injection e
 | cons z2 as ih =>
  rcases z2 with⟨y,u⟩
  intro z9;rcases z9 with _ | ⟨z10,cs⟩
  ·intro e z11;exfalso;injection e
  ·rcases z10 with⟨y',c⟩
   intro e q;rw[Bo,Bo,JK]at e;refine Au e ?_;clear e;rintro e1 e2;subst e1;rw[Y6,MP]
   by_cases h:y=x
   ·rw[if_pos h,if_pos h];exact⟨by rw[Bo,Bo,e2],r,q.2⟩
   ·rw[if_neg h,if_neg h];refine Au (ih e2 q.2) ?_;rintro i1 i2;exact⟨by rw[Bo,Bo,i1],q.1,i2⟩
theorem TZ{v:V}{c:CV}{K:An->Prop}(h:Kj ks x v loc K)(r:UR Z ρ σ c v)(l:AZ Z ρ σ cloc loc):Fl ks x c cloc=ret ((),CQ x c cloc)/\∃loc',AZ Z ρ σ (CQ x c cloc) loc'/\K loc':=by
 unfold Kj at h;unfold Fl;rcases v with w | _
 ·dsimp only at h;rcases q:ks.lookup x with _ | k
  ·rw[q]at h;exact h.elim
  ·rw[q]at h;rcases k with⟨⟩<;>first | exact⟨rfl,_,Amc r l,h⟩ | exact h.elim
 ·exact h.elim
theorem ZH{as:List (β×γ)}{cs:List (β×δ)}(e:as.map (·.1)=cs.map (·.1)):as.length=cs.length:=by
 have:=congrArg IH e
 rwa [AJ,AJ]at this
theorem ZI(hG:GT Γ)(hf:B9 E f fc){t:Expr}{v:V}{c:CV}{Q:Kq An}(h:P4 f ks t v loc α as Q)(s:Av X ρ α σ)(l:AZ (Zx X ρ α) ρ σ cloc loc)(r:UR (Zx X ρ α) ρ σ c v):Sm E ρ α σ (J3 Γ fc ks t c cloc) (PL X Q):=by
 unfold P4 at h;unfold J3;rcases hq:Cc t with _ | ⟨x,p⟩
 ·rw[hq]at h;dsimp only at h ⊢;rcases ha:Fe t with _ | ⟨o,x,p⟩
  ·rw[ha]at h;dsimp only at h ⊢;rcases hs:K6 t with _ | ⟨o,i,p⟩
   ·rw[hs]at h;exact h.elim
   ·rw[hs]at h;dsimp only at h ⊢;refine Sm.eq (x:=bnd (fc ks cloc o) λov=>bnd (fc ks cloc i) λiv=>bnd (IW ov iv c) λy=>ret ((),cloc)) ?_ ?_
    ·show Nd cloc _ σ=_;unfold Nd;rw[Ez];refine congrFun (Ln λov => ?_) σ;rw[Ez];refine Ln λiv => ?_;rw[Ez];rfl
    refine Sm.bnd (CF hf h s l) λoc ρ1 α1 σ1 p1 zz => ?_;rcases zz with⟨ov,as1,s1,r1,h1⟩
    refine Sm.bnd (CF hf h1 s1 (l.stp p1)) λic ρ2 α2 σ2 p2 zz => ?_;rcases zz with⟨iv,as2,s2,r2,h2⟩
    refine Ah (BL h2) ?_;rintro j ej h2;rcases D3 ej r2 with rfl
    rcases ov with ow | _
    ·rcases ow with k | _ | _
     ·refine Ah r1 ?_;clear r1;rintro a hk rfl;refine Ah (BL h2) ?_;rintro⟨t,α3⟩ eg h2;refine C6 (P8 eg s2 (r.stp (p1.trans p2))) ?_;rintro s3 p3 rt;have hk2:=p2.pre k a hk;refine Sm.pre p3 ?_;dsimp only at h2;have fin:∀{σ3:CH} {α4:AH},IW (.ref a) (.int j) c σ2=.ok .none σ3->AW ρ2 α3 σ2 ρ2 α4 σ3->Av X ρ2 α4 σ3->(∃as,Q loc α4 as)->Sm E ρ2 α3 σ2 (bnd (IW (.ref a) (.int j) c) λy=>ret ((),cloc)) (PL X Q):=λ{σ3 α4} e p4 s4 ⟨as,hq⟩ =>
       .ok (Co e) p4 ⟨loc,as,s4,(((l.stp p1).stp p2).stp p3).stp p4,hq⟩
      rcases q:α3[k]? with _ | o
      ·rw[q]at h2;exact h2.elim
      ·rw[q]at h2;rcases o with ts | es | _ | _
       case lst =>
        rcases Km h2 with⟨hg,as3,h2⟩
        rw[decide_eq_true_eq]at hg;refine JM (TG (v:=.ref a) s3 q ⟨a,hk2,rfl⟩) ?_;rintro _ us e0 e1 e2 e3 e4;injection e0 with za;subst za
        rw[hk2]at e1;injection e1 with za;rcases za with⟨⟩
        refine Au (Zt s3 hk2 q (λz=>nomatch z) e2 (e4.set rt j.toNat) (by rw[Hh];exact Il e4 e3)) ?_;rintro s4 p4
        refine fin ?_ p4 s4 ⟨as3,h2⟩;unfold IW;dsimp only;rw[if_pos (Qd e2),Co (Dt e2 e3),if_pos (by rw[e4.len];exact hg)]
        rfl
       case dct =>
        rcases Km h2 with⟨hg,as3,h2⟩
        refine JM (TH (v:=.ref a) s3 q ⟨a,hk2,rfl⟩) ?_;rintro _ us e0 e1 e2 e3 e4;injection e0 with za;subst za
        rw[hk2]at e1;injection e1 with za;rcases za with⟨⟩
        refine Au (Zq (k:=j) e3 e4 rt) ?_;rintro i1 i2;have tr:=λ(b:Nat) o (hb:σ2[b]? = some o) (n:¬Zx X ρ2 α3 b)=>P9 s3 (.dict (EY us j c)) hk2 q (ao':=.dct (Cn es j t)) (λz=>nomatch z) hb n
        refine fin ?_ (AW.put s3 (.dict (EY us j c)) hk2 q (ao':=.dct (Cn es j t)) (λz=>nomatch z)) (s3.put (.dict (EY us j c)) hk2 q (ao':=.dct (Cn es j t)) (λz=>nomatch z) ⟨EY us j c,Qa e2,i1,i2.mono tr⟩) ⟨as3,h2⟩
        unfold IW;dsimp only;rw[if_neg (by rw[Qe e2];exact CD),Co (Qf e2),if_pos (by rw[<- ZH e3];exact hg)]
        rfl
       all_goals exact h2.elim
     ·exact h2.elim
     ·exact h2.elim
    ·exact h2.elim
  ·rw[ha]at h;dsimp only at h ⊢;refine Sm.eq (x:=bnd (fc ks cloc o) λov=>bnd (bnd (MQ Γ ov x c) λy=>ret ()) λb=>ret (b,cloc)) (congrFun (Ez _ _ _) σ) ?_;refine Sm.bnd (CF hf h s l) λoc ρ1 α1 σ1 p1 zz => ?_;rcases zz with⟨ov,as1,s1,r1,h1⟩
   rcases ov with(k | _ | _) | _
   case w.own =>
    rcases v with w | _
    case tup=>exact h1.elim
    dsimp only at h1;refine Ah r1 ?_;clear r1;rintro a hk rfl;rcases q:α1[k]? with _ | o
    ·rw[q]at h1;exact h1.elim
    ·rw[q]at h1;rcases o with _ | _ | ⟨C,cs⟩ | _
     case ins =>
      refine Au (CE h1) ?_;rintro e h1;rw[Bf,decide_eq_true_eq]at e;refine AG (s1.ob k a _ hk q) ?_;rintro ds g1 g2 g3;have rv:WR (Zx X ρ1 α1) ρ1 σ1 c w:=(r.stp p1:UR _ _ _ _ (.w w));refine Au (Amd (x:=x) rv g2 g3) ?_;rintro i1 i2;have tr:=λ(b:Nat) o (hb:σ1[b]? = some o) (n:¬Zx X ρ1 α1 b)=>P9 s1 (.inst C (CQ x c ds)) hk q (ao':=.ins C (Gx x w cs)) (λz=>nomatch z) hb n
      have s2:=s1.put (.inst C (CQ x c ds)) hk q (ao':=.ins C (Gx x w cs)) (λz=>nomatch z) ⟨CQ x c ds,Qa g1,i1,i2.mono tr λy y h=>h⟩
      have p2:=AW.put s1 (.inst C (CQ x c ds)) hk q (ao':=.ins C (Gx x w cs)) (λz=>nomatch z)
      refine .ok (b:=((),cloc)) ?_ p2 ⟨loc,as1,s2,(l.stp p1).stp p2,h1⟩;have e3:MQ Γ (.ref a) x c σ1=.ok .none (σ1.set a (.inst C (CQ x c ds))):=by
       show bnd (GV a) _ σ1=_;rw[Co (Za g1)];dsimp only;rw[hG.has,if_pos ⟨e.1,by rw[<- ZH g2];exact e.2⟩]
       rfl
      rw[Co (b:=()) (σ':=σ1.set a (.inst C (CQ x c ds))) (by rw[Co e3];rfl)]
      rfl
     all_goals exact h1.elim
   all_goals exact h1.elim
 ·rw[hq]at h;dsimp only at h;rcases TZ h r l with⟨e,loc',l',h⟩
  dsimp only;rw[e];exact .ret ⟨loc',as,s,l',h⟩
theorem Ame(hG:GT Γ)(hf:B9 E f fc):∀{ts:List Expr} {vs:List V} {cs:List CV} {loc:An} {cloc:Ao} {α:AH} {as:List Al} {ρ:List Nat} {σ:CH} {Q:Kq An},To f ks ts vs loc α as Q->Av X ρ α σ->AZ (Zx X ρ α) ρ σ cloc loc->BA (Zx X ρ α) ρ σ cs vs->Sm E ρ α σ (Lp Γ fc ks ts cs cloc) (PL X Q):=by
 intro z1
 induction z1 with
 | nil =>
  intro z2;rcases z2 with _ | ⟨z3,z4⟩
  ·intro z5;rcases z5 with _ | ⟨z6,z7⟩
   ·intro loc cloc α as ρ σ Q h s l r;exact .ret ⟨loc,as,s,l,h⟩
   ·intro loc cloc α as ρ σ Q h s l r;exact r.elim
  ·intro z8 loc cloc α as ρ σ Q h s l r;exact h.elim
 | cons t ts ih =>
  intro z9;rcases z9 with _ | ⟨v,vs⟩
  ·intro z10 loc cloc α as ρ σ Q h s l r;exact h.elim
  ·intro z11;rcases z11 with _ | ⟨c,cs⟩
   ·intro loc cloc α as ρ σ Q h s l r;exact r.elim
   ·intro loc cloc α as ρ σ Q h s l r;refine Sm.bnd (ZI hG hf h s l r.1) λp ρ1 α1 σ1 p1 zz => ?_;rcases zz with⟨EG,as1,s1,l1,h1⟩
    exact ih h1 s1 l1 (r.2.stp p1)
theorem ZJ{v:V}{c:CV}{vs:List V}(h:Tp v=some vs)(r:UR Z ρ σ c v):∃cs,c=.tup cs/\BA Z ρ σ cs vs:=by
 have one:∀{ws:List W} {cs:List CV},Ds Z ρ σ cs ws->BA Z ρ σ cs (ws.map .w):=λ{ws}=>by
  induction ws with
  | nil=>intro cs r;cases cs with | nil=>trivial | cons _ _=>exact r.elim
  | cons w ws ih=>intro cs r;cases cs with | nil=>exact r.elim | cons c cs=>exact⟨r.1,ih r.2⟩
 have two:∀{ts:List T} {cs:List CV},AB Z σ cs ts->BA Z ρ σ cs (ts.map Vf):=λ{ts}=>by
  induction ts with
  | nil=>intro cs r;rcases r with⟨⟩;trivial
  | cons t ts ih=>intro cs r;cases r with | cons a r=>exact⟨a,ih r⟩
 rcases v with(_ | (_ | _ | _ | _ | ⟨_ | _ | _ | _,ts⟩) | _) | ws
 case w.fz.node.tup =>
  injection h with za;subst za
  refine AG (TR.tup_inv r) ?_;rintro cs e _ r;exact⟨cs,e,two r⟩
 case tup =>
  injection h with za;subst za
  refine AG r ?_;clear r;rintro cs e _ r;exact⟨cs,e,one r⟩
 all_goals exact(Ax h).elim
theorem BA.len:∀{cs:List CV} {vs:List V},BA Z ρ σ cs vs->cs.length=vs.length:=by
 intro z1
 induction z1 with
 | nil =>
  intro z4;rcases z4 with _ | ⟨z5,z6⟩
  ·intro z7;exact rfl
  ·intro r;exact r.elim
 | cons z2 z3 ih =>
  intro z8;rcases z8 with _ | ⟨z9,z10⟩
  ·intro r;exact r.elim
  ·intro r;exact congrArg (· + 1) (ih r.2)
theorem BA.app:∀{cs ds:List CV} {vs ws:List V},BA Z ρ σ cs vs->BA Z ρ σ ds ws->BA Z ρ σ (cs++ds) (vs++ws):=by
 intro z1
 induction z1 with
 | nil =>
  intro z4 z5;rcases z5 with _ | ⟨z6,z7⟩
  ·intro z8 z9 q;exact q
  ·intro z10 r z11;exact r.elim
 | cons z2 z3 ih =>
  intro z12 z13;rcases z13 with _ | ⟨z14,z15⟩
  ·intro z16 r z17;exact r.elim
  ·intro z18 r q;exact⟨r.1,ih r.2 q⟩
theorem BA.rev:∀{cs:List CV} {vs:List V},BA Z ρ σ cs vs->BA Z ρ σ cs.reverse vs.reverse:=by
 intro z1
 induction z1 with
 | nil =>
  intro z4;rcases z4 with _ | ⟨z5,z6⟩
  ·intro z7;exact trivial
  ·intro r;exact r.elim
 | cons z2 z3 ih =>
  intro z8;rcases z8 with _ | ⟨z9,z10⟩
  ·intro r;exact r.elim
  ·intro r;rw[Oz,Oz];exact(ih r.2).app ⟨r.1,trivial⟩
theorem ZK(hG:GT Γ)(hf:B9 E f fc){t:Expr}{v:V}{c:CV}{Q:Kq An}(h:Jl f ks t v loc α as Q)(s:Av X ρ α σ)(l:AZ (Zx X ρ α) ρ σ cloc loc)(r:UR (Zx X ρ α) ρ σ c v):Sm E ρ α σ (GZ Γ fc ks t c cloc) (PL X Q):=by
 unfold Jl at h;unfold GZ;rcases hq:FI t with _ | ⟨ts,m,p⟩
 ·rw[hq]at h;exact ZI hG hf h s l r
 ·rw[hq]at h;refine Ah (BL h) ?_;rintro vs e h;refine Au (CE h) ?_;rintro e2 h;rw[Bf]at e2;refine Ah (ZJ e r) ?_;rintro cs rfl q;refine Sm.eq (x:=Lp Γ fc ks ts cs cloc) (congrFun (if_pos ⟨by rw[q.len];exact OU e2.1,e2.2⟩) σ) ?_
  exact Ame hG hf h s l q
theorem Amf:∀{xs:List Ac} {vs:List V} {cs:List CV} {loc:An} {cloc:Ao} {K:An->Prop},Tq ks xs vs loc K->AZ Z ρ σ cloc loc->BA Z ρ σ cs vs->∃cloc',Ls ks xs cs cloc=ret ((),cloc')/\∃loc',AZ Z ρ σ cloc' loc'/\K loc':=by
 intro z1
 induction z1 with
 | nil =>
  intro z2;rcases z2 with _ | ⟨z3,z4⟩
  ·intro z5;rcases z5 with _ | ⟨z6,z7⟩
   ·intro loc cloc K h l r;exact⟨cloc,rfl,loc,l,h⟩
   ·intro loc cloc K h l r;exact r.elim
  ·intro z8 loc cloc K h l r;exact h.elim
 | cons x xs ih =>
  intro z9;rcases z9 with _ | ⟨v,vs⟩
  ·intro z10 loc cloc K h l r;exact h.elim
  ·intro z11;rcases z11 with _ | ⟨c,cs⟩
   ·intro loc cloc K h l r;exact r.elim
   ·intro loc cloc K h l r;rcases TZ h r.1 l with⟨e,loc',l',h⟩
    refine Ah (ih h l' r.2) ?_;rintro cl e2 h2;refine⟨cl,?_,h2⟩;show bnd (Fl _ _ _ _) _=_;rw[e];exact e2
theorem Amg(hG:GT Γ)(hf:B9 E f fc){t value:Expr}{v:V}{c:CV}{Q:Kq An}(h:Tr f ks t value v loc α as Q)(s:Av X ρ α σ)(l:AZ (Zx X ρ α) ρ σ cloc loc)(r:UR (Zx X ρ α) ρ σ c v):Sm E ρ α σ (J4 Γ fc ks t value c cloc) (PL X Q):=by
 unfold Tr at h;unfold J4;rcases q:Lq ks [t] value with _ | o
 ·rw[q]at h;exact h.elim
 ·rw[q]at h;rcases o with _ | names
  ·exact ZK hG hf h s l r
  ·refine Ah (BL h) ?_;rintro vs e h;refine Au (CE h) ?_;rintro e2 h;refine Ah (ZJ e r) ?_;rintro cs rfl q;dsimp only;rw[if_pos (by rw[q.len];exact OU e2)]
   rcases Amf h l q.rev with⟨cl,e3,loc',l',h⟩
   rw[e3];exact .ret ⟨loc',as,s,l',h⟩
theorem T2(hf:B9 E f fc){e:Expr}{Q:Kq V}(h:Ny f ks loc e α as Q)(s:Av X ρ α σ)(l:AZ (Zx X ρ α) ρ σ cloc loc):Sm E ρ α σ (fc ks cloc e) (PV X Q) :=
 (hf ks loc e α as _ h X ρ σ cloc s l).re λb ρ' α' σ' p ⟨r,as',h1,h2⟩=>by
  refine Fd (h1.own p h2) ?_;rintro ρ2 α2 v p2 s2 r2 q;exact⟨ρ2,α2,p2,v,as',s2,r2,q⟩
theorem Amh(hf:B9 E f fc):∀{es:List Expr} {α:AH} {as:List Al} {ρ:List Nat} {σ:CH} {Q:Kq (List V)},Nz f ks loc es α as Q->Av X ρ α σ->AZ (Zx X ρ α) ρ σ cloc loc->Sm E ρ α σ (BC (fc ks cloc) es) (TU X Q):=by
 intro z1
 induction z1 with
 | nil =>
  intro α as ρ σ Q h s l;exact .ret ⟨[],as,s,trivial,h⟩
 | cons e es ih =>
  intro α as ρ σ Q h s l;rw[Akz]at h;rcases hs:Dh e with _ | _
  ·rw[hs]at h;rw[R5];rw[if_neg (by rw[hs];exact CD)]
   refine(T2 hf h s l).bnd λc ρ1 α1 σ1 p zz => ?_;rcases zz with⟨v,as1,s1,r1,h1⟩
   refine(ih h1 s1 (l.stp p)).bnd λcs ρ2 α2 σ2 p2 zz => ?_;rcases zz with⟨vs,as2,s2,r2,h2⟩
   exact .ret ⟨v::vs,as2,s2,⟨r1.stp p2,r2⟩,h2⟩
  ·rw[hs]at h;exact h.elim
theorem ZL:∀{vs:List V} {ws:List W} {cs:List CV},LH vs=some ws->BA Z ρ σ cs vs->Ds Z ρ σ cs ws/\cs.length=ws.length:=by
 intro z1
 induction z1 with
 | nil =>
  intro ws z2;rcases z2 with _ | ⟨z3,z4⟩
  ·intro h r;injection h with za;subst za;exact⟨trivial,rfl⟩
  ·intro h r;exact r.elim
 | cons v vs ih =>
  intro ws z5;rcases z5 with _ | ⟨c,cs⟩
  ·intro h r;exact r.elim
  ·intro h r;rcases v with x | _
   ·have h:(match LH vs with | some us=>some (x::us) | none=>none)=some ws:=h
    rcases q:LH vs with _ | us
    ·rw[q]at h;(exfalso;injection h)
    ·rw[q]at h;injection h with za;subst za
     refine Au (ih q r.2) ?_;rintro i1 i2;exact⟨⟨r.1,i1⟩,congrArg (· + 1) i2⟩
   ·exfalso;injection h
theorem Ami(hf:B9 E f fc){f':EA}{fc':BU}(hf':B9 E f' fc')(ht:∀ks cloc es m p,fc ks cloc (.Tuple es m p)=bnd (BC (fc' ks cloc) es) EV){t e:Expr}{Q:Kq V}(h:Tt f f' ks loc t e α as Q)(s:Av X ρ α σ)(l:AZ (Zx X ρ α) ρ σ cloc loc):Sm E ρ α σ (fc ks cloc e) (PV X Q):=by
 unfold Tt at h;rcases ht2:Py t with _ | _
 ·rw[ht2]at h;exact T2 hf h s l
 ·rw[ht2]at h;dsimp only at h;rcases hq:FI e with _ | q
  ·rw[hq]at h;exact T2 hf h s l
  ·rw[hq]at h;obtain rfl:=MC hq;rw[ht];refine Sm.bnd (Amh hf' h s l) λcs ρ1 α1 σ1 p zz => ?_;rcases zz with⟨vs,as1,s1,r1,h1⟩
   refine Ah (BL h1) ?_;rintro ws e h1;refine Au (CE h1) ?_;rintro z h1;refine Au (ZL e r1) ?_;rintro r2 e2;have z':small cs.length=true:=by rw[e2];exact z
   exact .ok (congrFun (if_pos z':EV cs=ret (.tup cs)) σ1) AW.refl ⟨.tup ws,as1,s1,⟨cs,rfl,z',r2⟩,h1⟩
end
end
section
section
variable {E:CX->Prop}{X Z Z':Nat->Prop}{ρ:List Nat}{α:AH}{σ σ':CH}{n:Nat}{f f':EA}{g:TA}{fc fc':BU}{gc:C3}{H:Hs}{Γ:AP}{ks:AF}{loc:An}{cloc:Ao}{as:List Al}
theorem ZM{m:Nat}(h:Eb (ρ.take m) (ED m α) a):Eb ρ α a:=by
 refine Br h ?_;clear h;rintro k o h1 h2 h3;unfold ED at h2;rw[Hp]at h2
 by_cases hk:k<m
 ·rw[VO hk]at h1 h2;rcases q:α[k]? with _ | o'
  ·rw[q]at h2;(exfalso;injection h2)
  ·rw[q]at h2;injection h2 with za;subst za
   exact⟨k,o',h1,q,λe=>h3 (by rw[e];rfl)⟩
 ·rw[AqJ (QV hk)]at h1;exfalso;injection h1
theorem ZN{m:Nat}{v:CV}{w:W}(h:WR Z ρ σ v w):WR Z (ρ.take m) σ v (Kk m w):=by
 rcases w with k | t | _
 ·unfold Kk;dsimp only
  by_cases hk:k<m
  ·rw[if_pos hk];refine Ah h ?_;clear h;rintro a h1 h2;exact⟨a,by rw[VO hk];exact h1,h2⟩
  ·rw[if_neg hk];trivial
 ·exact h
 ·trivial
theorem Amj{m:Nat}:∀{vs:List CV} {ws:List W},Ds Z ρ σ vs ws->Ds Z (ρ.take m) σ vs (ws.map (Kk m)):=by
 intro z1
 induction z1 with
 | nil =>
  intro z4;rcases z4 with _ | ⟨z5,z6⟩
  ·intro z7;exact trivial
  ·intro r;exact r.elim
 | cons z2 z3 ih =>
  intro z8;rcases z8 with _ | ⟨z9,z10⟩
  ·intro r;exact r.elim
  ·intro r;exact⟨ZN r.1,ih r.2⟩
theorem Ql{m:Nat}{b:Nat}{o:CO}(hb:σ[b]? = some o)(h:¬Zx X ρ α b):σ[b]? = some o/\¬Zx X (ρ.take m) (ED m α) b:=⟨hb,λq=>h (q.imp id ZM)⟩
theorem Ds.z(h:∀(a:Nat) o,σ[a]? = some o->¬Z a->σ[a]? = some o/\¬Z' a):∀{vs:List CV} {ws:List W},Ds Z ρ σ vs ws->Ds Z' ρ σ vs ws:=λr=>r.mono h λq q h=>h
theorem Av.cut(s:Av X ρ α σ){m:Nat}(hm:m<=α.length):Av X (ρ.take m) (ED m α) σ:=by
 have hρ:∀a∈ρ.take m,a∈ρ:=λa h=>Ap0 h;refine⟨by unfold ED;rw[Ox,AJ,Ox,s.len],s.nd.sublist (List.take_sublist _ _),λa h=>s.lt a (hρ a h),λa h=>s.nx a (hρ a h),s.xlt,λk a o h1 h2 => ?_⟩
 unfold ED at h2;rw[Hp]at h2
 by_cases hk:k<m
 ·rw[VO hk]at h1 h2;rcases q:α[k]? with _ | o'
  ·rw[q]at h2;(exfalso;injection h2)
  ·rw[q]at h2;injection h2 with za;subst za
   have z:=s.ob k a o' h1 q;rcases o' with ts | es | ⟨C,as⟩ | _
   ·refine AG z ?_;clear z;rintro vs g1 g2 g3;exact⟨vs,g1,g2,g3.mono λx x h n=>Ql h n⟩
   ·refine AG z ?_;clear z;rintro vs g1 g2 g3;exact⟨vs,g1,g2,g3.mono λx x h n=>Ql h n⟩
   ·refine AG z ?_;clear z;rintro cs g1 g2 g3;refine⟨cs,g1,by rw[C5];exact g2,?_⟩
    have:=Amj (m:=m) (Ds.z (λx x h n=>Ql (m:=m) h n) g3);rw[C5]at this ⊢;exact this
   ·trivial
 ·rw[AqJ (QV hk)]at h1;exfalso;injection h1
theorem AW.cut(p:AW ρ0 α0 σ0 ρ α σ){m:Nat}(h:ρ0.length<=m):AW ρ0 α0 σ0 (ρ.take m) (ED m α) σ :=
 ⟨p.len,p.keep,λk a e=>by rw[VO (Fb (DT.mp e).1 h)];exact p.pre k a e,λa q=>p.live a (ZM q)⟩
theorem Amk{m:Nat}(l:AZ (Zx X ρ α) ρ σ cloc loc):AZ (Zx X (ρ.take m) (ED m α)) (ρ.take m) σ cloc (Kl m xs loc):=by
 intro x w h hn;have key:∀ys:List Ac,(ys.map λy=>(y,match loc.lookup y with | some w=>Kk m w | none=>.junk)).lookup x=some w->w=(match loc.lookup x with | some w=>Kk m w | none=>.junk):=λys=>by
  induction ys with
  | nil=>intro h;(exfalso;injection h)
  | cons y ys ih =>
   intro h;rw[Bo,BI]at h;rcases q:x == y with _ | _
   ·rw[q]at h;exact ih h
   ·rw[q]at h;injection h with za;subst za
    rw[KP q]
 have e:=key xs h;rcases q:loc.lookup x with _ | u
 ·rw[q]at e;exact absurd e hn
 ·rw[q]at e;dsimp only at e;have hu:u≠.junk:=λz=>hn (by rw[e,z];rfl)
  refine Ah (l x u q hu) ?_;rintro v h1 h2;exact⟨v,h1,e▸(ZN h2).mono (λj j h n=>Ql h n) λj j h=>h⟩
def T3(E:CX->Prop)(X:Nat->Prop)(B:T->An->AH->List Al->(BZ->An->AH->List Al->Prop)->Prop)(Bc:CV->Ao->CM (Bp×Ao)):Prop:=∀t v l a as Q ρ σ cl,B t l a as Q->Av X ρ a σ->AZ (Zx X ρ a) ρ σ cl l->TR (Zx X ρ a) σ v t->Sm E ρ a σ (Bc v cl) (PF X Q)
set_option tactic.hygienic true in
theorem ZO{m:Nat}{v:CV}(h:Ce σ i src=some (some v)):Gr Bc src (m+1) i cloc σ=bnd (Bc v cloc) (λq=>match q.1 with
  | .next=>Gr Bc src m (i+1) q.2
  | .ret v=>ret (.ret v,q.2)) σ:=by
 rw[show Gr Bc src (m+1) i cloc σ=(match Ce σ i src with
  | none=>.stuck
  | some none=>.ok (.next,cloc) σ
  | some (some v)=>bnd (Bc v cloc) (λq=>match q.1 with
   | .next=>Gr Bc src m (i+1) q.2
   | .ret v=>ret (.ret v,q.2)) σ)from rfl,h]
theorem ZP{m:Nat}(h:Ce σ i src=some none):Gr Bc src (m+1) i cloc σ=.ok (.next,cloc) σ:=by
 rw[AiN];dsimp only;rw[h]
theorem ZQ{ts us:List T}{u:T}(hd:ts.drop i=u::us):ts[i]? = some u/\ts.drop (i+1)=us:=by
 constructor
 ·have:=congrArg (·[0]?) hd;rw[Acx]at this;exact this
 ·rw[<- AqI,hd];rfl
theorem ZR{ts:List T}(hd:ts.drop i=[]):ts[i]? = none:=GI (by have:=congrArg IH hd;rw[QZ]at this;exact AqH this)
set_option tactic.hygienic true in
theorem Aml{B:T->An->AH->List Al->(BZ->An->AH->List Al->Prop)->Prop}(hB:T3 E X B Bc){nn:Nat}{xs:List Ac}{ts:List T}{src:Cr}:∀(us:List T) (l:An) (a:AH) (l':An) (a':AH),B4 B nn xs us l a l' a'->∀(i m:Nat) (ρ:List Nat) (σ:CH) (cl:Ao),us.length<m->ts.drop i=us->a.length=nn ->
  Av X ρ a σ->AZ (Zx X ρ a) ρ σ cl l->EF (Zx X ρ a) σ ts src->Sm E ρ a σ (Gr Bc src m i cl) (λp ρ' α' σ'=>α'=a'/\Av X ρ' α' σ'/\p.1=.next/\AZ (Zx X ρ' α') ρ' σ' p.2 l'):=by
 intro us
 induction us with
 | nil =>
  intro l a l' a' h i m ρ σ cl hm hd hn s lr sr;refine Au h ?_;clear h;rintro rfl rfl;obtain⟨m,rfl⟩:∃k,m=k+1:=⟨m-1,(O4 hm)⟩;exact .ok (ZP ((sr.item i).1 (ZR hd))) AW.refl ⟨rfl,s,rfl,lr⟩
 | cons u us ih =>
  intro l a l' a' h i m ρ σ cl hm hd hn s lr sr;refine Ep h ?_;clear h;rintro as l1 a1 hb h;obtain⟨m,rfl⟩:∃k,m=k+1:=⟨m-1,(O4 hm)⟩;refine Au (ZQ hd) ?_;rintro hi hd';refine Ah ((sr.item i).2 u hi) ?_;rintro v g1 g2;refine Sm.eq (ZO g1) ?_;have body:=(hB u v l a as _ ρ σ cl hb s lr g2).re (Q:=λp ρ' α' σ'=>α'=a1/\a1.length=nn/\Av X ρ' α' σ'/\p.1=.next/\AZ (Zx X ρ' α') ρ' σ' p.2 l1) λp ρ2 α2 σ2 st ⟨fl,l2,as2,s2,r2,lr2,e1,e2,e3,e4⟩=>by
   subst e1 e2 e3;refine⟨ρ2.take nn,ED nn α2,st.cut (by rw[s.len,hn];exact AM _),rfl,by unfold ED;rw[AJ,Ox];exact om3 e4,s2.cut e4,?_,Amk lr2⟩
   rcases p with⟨fc,cl2⟩
   rcases fc with _ | v
   ·rfl
   ·exact r2.elim
  refine body.bnd λp ρ1 α1 σ1 st zz => ?_;refine VV zz ?_;clear zz;rintro e1 e2 s1 e3 lr1;subst e1;rcases p with⟨fl,cl1⟩
  subst e3;exact ih l1 α1 l' a' h (i+1) m ρ1 σ1 cl1 (by simp only[BN]at hm;exact RC hm) hd' e2 s1 lr1 (sr.mono λz z h n=>st.tr h n)
theorem Amm{B:T->An->AH->List Al->(BZ->An->AH->List Al->Prop)->Prop}(hB:T3 E X B Bc){ts:List T}{src:Cr}{Q:BZ->An->AH->List Al->Prop}:∀(us:List T) (l:An) (a:AH) (as:List Al),NA B us l a as Q->∀(i m:Nat) (ρ:List Nat) (σ:CH) (cl:Ao),us.length<m->ts.drop i=us ->
  Av X ρ a σ->AZ (Zx X ρ a) ρ σ cl l->EF (Zx X ρ a) σ ts src->Sm E ρ a σ (Gr Bc src m i cl) (PF X Q):=by
 intro us
 induction us with
 | nil =>
  intro l a as h i m ρ σ cl hm hd s lr sr;obtain⟨m,rfl⟩:∃k,m=k+1:=⟨m-1,(O4 hm)⟩;exact .ok (ZP ((sr.item i).1 (ZR hd))) AW.refl ⟨.next,l,as,s,trivial,lr,h⟩
 | cons u us ih =>
  intro l a as h i m ρ σ cl hm hd s lr sr;obtain⟨m,rfl⟩:∃k,m=k+1:=⟨m-1,(O4 hm)⟩;refine Au (ZQ hd) ?_;rintro hi hd';refine Ah ((sr.item i).2 u hi) ?_;rintro v g1 g2;refine Sm.eq (ZO g1) ?_;refine(hB u v l a as _ ρ σ cl h s lr g2).bnd λp ρ1 α1 σ1 st zz => ?_;rcases zz with⟨fl,l1,as1,s1,r1,lr1,h1⟩
  rcases p with⟨fc,cl1⟩
  rcases fl with _ | w
  ·rcases fc with _ | _
   ·exact ih l1 α1 as1 h1 (i+1) m ρ1 σ1 cl1 (by simp only[BN]at hm;exact RC hm) hd' s1 lr1 (sr.mono λz z h n=>st.tr h n)
   ·exact r1.elim
  ·rcases fc with _ | c
   ·exact r1.elim
   ·exact .ret ⟨.ret w,l1,as1,s1,r1,lr1,h1⟩
set_option tactic.hygienic true in
theorem Amn(hg:FZ E g gc){x:XA}{xc:XT}(hX:Qk E x xc){t:Expr}{b:List AN}:∀(m:Nat) (l:An) (a:AH) (l':An) (a':AH),Ij (λl=>g ks l t) (x b) m l a l' a'->∀(ρ:List Nat) (σ:CH) (cl:Ao),
  Av X ρ a σ->AZ (Zx X ρ a) ρ σ cl l->Sm E ρ a σ (Jd gc xc ks t b m cl) (λp ρ' α' σ'=>α'=a'/\Av X ρ' α' σ'/\p.1=.next/\AZ (Zx X ρ' α') ρ' σ' p.2 l'):=by
 intro m
 induction m with
 | zero=>intro l a l' a' h;exact h.elim
 | succ m ih =>
  intro l a l' a' h ρ σ cl s lr;refine Ep h ?_;clear h;rintro as q a1 h1 h;rw[X9];refine(hg ks l t a as _ h1 X ρ σ cl s lr).bnd λq' ρ1 α1 σ1 p zz => ?_;rcases zz with⟨as1,s1,e1,e2⟩
  subst e1 e2;rcases q' with _ | _
  ·refine Au h ?_;clear h;rintro rfl rfl;exact .ret ⟨rfl,s1,rfl,lr.stp p⟩
  ·refine Ep h ?_;clear h;rintro as2 l2 a2 h2 h;rw[if_pos rfl];refine(hX b l α1 as2 _ h2 X ρ1 σ1 cl s1 (lr.stp p)).bnd λr ρ2 α2 σ2 p2 zz => ?_;rcases zz with⟨fl,l3,as3,s2,r2,lr2,e1,e2,e3⟩
   subst e1 e2 e3;rcases r with⟨fc,cl2⟩
   rcases fc with _ | _
   ·exact ih l3 α2 l' a' h ρ2 σ2 cl2 s2 lr2
   ·exact r2.elim
theorem Amo{t:T}{c v:CV}(h:Tu t=some c)(r:TR Z σ v t):v=c:=by
 rcases r with⟨⟩<;>first | exact Ay h | exact(Ax h).elim
theorem Amp:∀{vs:List V} {cs ds:List CV},P5 vs=some cs->BA Z ρ σ ds vs->ds=cs:=by
 intro z1
 induction z1 with
 | nil =>
  intro cs z2;rcases z2 with _ | ⟨z3,z4⟩
  ·intro h r;rcases h with⟨⟩;rfl
  ·intro h r;exact r.elim
 | cons v vs ih =>
  intro cs z5;rcases z5 with _ | ⟨d,ds⟩
  ·intro h r;exact r.elim
  ·intro h r;have h:ob (SV v) (λt=>ob (Tu t) λc=>ob (P5 vs) λcs=>some (c::cs))=some cs:=h;refine AQ h λt q0 h=>AQ h λc q1 h=>AQ h λcs' q2 h => ?_;obtain rfl:=Ay h;obtain rfl:=AkI q0;rw[Amo q1 r.1,ih q2 r.2]
theorem Amq(hG:GT Γ)(hf:B9 E f fc){cn:Ac}{es:List Expr}{P:TS (Bp×Ao)}(h:Tv E f ks cn es loc α as)(s:Av X ρ α σ)(l:AZ (Zx X ρ α) ρ σ cloc loc):Sm E ρ α σ (Ng Γ fc ks cn es cloc) P:=by
 refine Au (CE h) ?_;rintro e h;rw[Bf]at e;unfold Ng;rw[if_pos e,hG.top,hG.excs];rcases q:Gh.lookup cn with _ | v
 ·rw[q]at h;exact h.elim
 ·rw[q]at h;rcases v with _ | C
  ·exact h.elim
  ·dsimp only at h ⊢;rcases q2:HI.lookup C with _ | names
   ·rw[q2]at h;exact h.elim
   ·rw[q2]at h;dsimp only at h ⊢;refine(Gz hf h s l).bnd λcs ρ1 α1 σ1 p zz => ?_;rcases zz with⟨vs,as1,s1,r1,h1⟩
    refine Ah (BL h1) ?_;rintro ds e1 h1;refine Au (CE h1) ?_;rintro e2 h1;rcases Amp e1 r1 with rfl
    rw[if_pos (OU e2)];exact⟨λa o h z=>h,h1⟩
set_option tactic.hygienic true in
theorem Amr{v:V}{c:CV}{Q:BZ->An->AH->List Al->Prop}(h:Kj ks x v loc λl=>Q .next l α as)(s:Av X ρ α σ)(l:AZ (Zx X ρ α) ρ σ cloc loc)(r:UR (Zx X ρ α) ρ σ c v):Sm E ρ α σ (bnd (Fl ks x c cloc) λp=>ret (.next,p.2)) (PF X Q):=by
 rcases TZ h r l with⟨e,loc',l',h⟩
 rw[e];exact .ret ⟨.next,loc',as,s,trivial,l',h⟩
set_option tactic.hygienic true in
theorem Ams{E:CX->Prop}{H:Hs}{f f':EA}{g:TA}{x:XA}{e c:Option Expr}{p:Pos}{loc:An}{α:AH}{as:List Al}{Q:BZ->An->AH->List Al->Prop}(h:LK E H f f' g ks x (.Raise e c p) loc α as Q):∃cn q1 es q2,e=some (.Call (.Name cn q1) es [] q2)/\c=none/\Tv E f ks cn es loc α as:=by
 rcases e with _ | e
 ·exact(h:False).elim
 ·rcases e with⟨⟩<;>try exact(h:False).elim
  rename_i fn es kw q2;rcases fn with⟨⟩<;>try exact(h:False).elim
  rename_i cn q1;rcases kw with⟨⟩<;>try exact(h:False).elim
  rcases c with⟨⟩<;>try exact(h:False).elim
  exact⟨cn,q1,es,q2,rfl,rfl,h⟩
set_option tactic.hygienic true in
theorem Amt{E:CX->Prop}{H:Hs}{f f':EA}{g:TA}{x:XA}{t:Expr}{b e:List AN}{p:Pos}{loc:An}{α:AH}{as:List Al}{Q:BZ->An->AH->List Al->Prop}(h:LK E H f f' g ks x (.While t b e p) loc α as Q):e=[]/\∃l1 h1 as',Ij (λl=>g ks l t) (x b) 1000 loc α l1 h1/\Q .next l1 h1 as':=by
 rcases e with⟨⟩<;>try exact(h:False).elim
 rcases as with⟨⟩<;>try exact(h:False).elim
 rename_i a as;rcases a with⟨⟩<;>try exact(h:False).elim
 exact⟨rfl,_,_,_,h⟩
set_option tactic.hygienic true in
theorem Amu{B:T->An->AH->List Al->(BZ->An->AH->List Al->Prop)->Prop}{ks:List Ac}{ts:List T}{loc:An}{α:AH}{as:List Al}{Q:BZ->An->AH->List Al->Prop}(h:(match as with
   | .st l h::as=>B4 B n ks ts loc α l h/\Q .next l h as
   | as=>NA B ts loc α as Q)):(∃l h as',B4 B n ks ts loc α l h/\Q .next l h as')\/∃as',NA B ts loc α as' Q:=by
 rcases as with _ | ⟨a,as⟩
 ·exact .inr ⟨_,h⟩
 ·rcases a with⟨⟩<;>first | exact .inl ⟨_,_,_,h⟩ | exact .inr ⟨_,h⟩
set_option tactic.hygienic true in
theorem Amv(hH:E5 E H Γ)(hf:B9 E f fc)(hf':B9 E f' fc')(hg:FZ E g gc)(ht:∀ks cloc es m p,fc ks cloc (.Tuple es m p)=bnd (BC (fc' ks cloc) es) EV){x:XA}{xc:XT}(hX:Qk E x xc){st:AN}{Q:BZ->An->AH->List Al->Prop}(h:LK E H f f' g ks x st loc α as Q)(s:Av X ρ α σ)(l:AZ (Zx X ρ α) ρ σ cloc loc) :
  Sm E ρ α σ (SG Γ fc gc ks xc st cloc) (PF X Q):=by
 rcases st with _ | _ | _ | ⟨e,p⟩ | _ | ⟨ts,value,p⟩ | _ | _ | _ | ⟨target,iter,b,e,p⟩ | _ | ⟨t,b,e,p⟩ | ⟨t,a,b,p⟩ | _ | _ | _ | ⟨e,c,p⟩ | _ | _ | _ | _ | _ | _ | _ | ⟨e,p⟩ | p | _ | _
 case Expr =>
  refine Au (CE h) ?_;rintro e1 h;refine Sm.eq (x:=bnd (fc ks cloc e) λz=>ret (Bp.next,cloc)) (congrFun (if_pos e1) σ) ?_
  refine(CF hf h s l).bnd λc ρ1 α1 σ1 p zz => ?_;rcases zz with⟨v,as1,s1,r1,h1⟩
  exact .ret ⟨.next,loc,as1,s1,trivial,l.stp p,h1⟩
 case Pass=>exact .ret ⟨.next,loc,as,s,trivial,l,h⟩
 case Return =>
  rcases e with _ | e
  ·exact .ret ⟨.ret (Vf .none),loc,as,s,(TR.none:TR _ _ _ _),l,h⟩
  ·dsimp only[LK]at h;refine Sm.bnd (CF hf h s l) λc ρ1 α1 σ1 p zz => ?_;rcases zz with⟨v,as1,s1,r1,h1⟩
   exact .ret ⟨.ret v,loc,as1,s1,r1,l.stp p,h1⟩
 case Assign =>
  rcases ts with _ | ⟨t,r⟩
  ·exact(h:False).elim
  ·rcases r with _ | ⟨_,_⟩
   ·dsimp only[LK]at h;show Sm E ρ α σ (Nh Γ fc gc ks t value cloc) _;unfold Nh;rcases q:Ic ks value t with _ | _
    ·rw[q]at h;refine Au (CE h) ?_;rintro e1 h;rw[if_neg CD,if_pos e1];refine Sm.bnd (Ami hf hf' ht h s l) λc ρ1 α1 σ1 p zz => ?_;rcases zz with⟨v,as1,s1,r1,h1⟩
     refine Sm.bnd (Amg hH.gt hf h1 s1 (l.stp p) r1) λu ρ2 α2 σ2 p2 zz => ?_;rcases zz with⟨loc2,as2,s2,l2,h2⟩
     exact .ret ⟨.next,loc2,as2,s2,trivial,l2,h2⟩
    ·rw[q]at h;refine V3 (Ye q) ?_;rintro elt gens scope vp x p rfl rfl;rw[if_pos rfl];have c:=(ZF hH hf hg h s l).re (Q:=PV X λv α as=>Kj ks x v loc λl=>Q .next l α as) λb ρ' α' σ' p ⟨r,as',h1,h2⟩=>by
      refine Fd (h1.own p h2) ?_;rintro ρ2 α2 v p2 s2 r2 q;exact⟨ρ2,α2,p2,v,as',s2,r2,q⟩
     refine Sm.bnd c λc ρ1 α1 σ1 p zz => ?_;rcases zz with⟨v,as1,s1,r1,h1⟩
     exact Amr h1 s1 (l.stp p) r1
   ·exact(h:False).elim
 case Raise =>
  refine VZ (Ams h) ?_;rintro cn q1 es q2 rfl rfl h;exact Amq hH.gt hf h s l
 case If=>exact TY hg h s l (λρ' α' σ' as' p s' l' h=>hX a loc α' as' Q h X ρ' σ' cloc s' l') λρ' α' σ' as' p s' l' h=>hX b loc α' as' Q h X ρ' σ' cloc s' l'
 case While =>
  rcases Amt h with⟨rfl,l1,h1,as',h,hq⟩
  exact(Amn hg hX 1000 loc α l1 h1 h ρ σ cloc s l).mono λr ρ' α' σ' p ⟨e1,s1,e2,l'⟩=>by
   subst e1;rcases r with⟨fl,cl⟩
   subst e2;exact⟨.next,l1,as',s1,trivial,l',hq⟩
 case For =>
  rcases e with _ | ⟨_,_⟩
  ·refine Au (CE h) ?_;rintro e1 h;refine Sm.eq (x:=bnd (GY (fc ks cloc) Γ ks iter) λsrc=>if HD target src=true then Je Γ fc xc ks target b src GW 0 cloc else Ar) (congrFun (if_pos e1) σ) ?_;refine Sm.bnd (ZC hH.gt hf h s l) λsrc ρ1 α1 σ1 p zz => ?_;rcases zz with⟨ts,as1,s1,sr,hfit,h1⟩
   rw[if_pos hfit];have hB:T3 E X (λt l a as Q=>Jl f ks target (Vf t) l a as λl a as=>x b l a as Q) (λv loc=>bnd (GZ Γ fc ks target v loc) λp=>xc b p.2):=λt v l a as Q ρ σ cl h s lr r =>
    Sm.bnd (ZK hH.gt hf h s lr r) λu ρ2 α2 σ2 p2 ⟨loc2,as2,s2,l2,h2⟩=>hX b loc2 α2 as2 Q h2 X ρ2 σ2 u.2 s2 l2
   have hl:=sr.le;have hb:ts.length<GW:=by unfold GW;exact Wj hl
   rcases Amu h1 with⟨l2,h2,as2,h1,hq⟩ | ⟨as2,h1⟩
   ·exact(Aml hB ts loc α1 l2 h2 h1 0 GW ρ1 σ1 cloc hb rfl rfl s1 (l.stp p) sr).mono λr ρ' α' σ' p ⟨e1,s1,e2,l'⟩=>by
     subst e1;rcases r with⟨fl,cl⟩
     subst e2;exact⟨.next,l2,as2,s1,trivial,l',hq⟩
   ·exact Amm hB ts loc α1 _ h1 0 GW ρ1 σ1 cloc hb rfl s1 (l.stp p) sr
  ·exact(h:False).elim
 all_goals exact h.elim
theorem Amw{S:AN->An->AH->List Al->(BZ->An->AH->List Al->Prop)->Prop}{Sc:AN->Ao->CM (Bp×Ao)}(hS:∀st loc α as Q,S st loc α as Q->∀X ρ σ cloc,Av X ρ α σ->AZ (Zx X ρ α) ρ σ cloc loc->Sm E ρ α σ (Sc st cloc) (PF X Q)):Qk E (Tw S) (Lu Sc):=by
 intro body
 induction body with
 | nil=>intro loc α as Q h X ρ σ cloc s l;exact .ret ⟨.next,loc,as,s,trivial,l,h⟩
 | cons st r ih =>
  intro loc α as Q h X ρ σ cloc s l;refine Sm.bnd (hS st loc α as _ h X ρ σ cloc s l) λp ρ1 α1 σ1 st zz => ?_;rcases zz with⟨fl,l1,as1,s1,r1,lr1,h1⟩
  rcases p with⟨fc,cl1⟩
  rcases fl with _ | w
  ·rcases fc with _ | _
   ·exact ih l1 α1 as1 Q h1 X ρ1 σ1 cl1 s1 lr1
   ·exact r1.elim
  ·rcases fc with _ | c
   ·exact r1.elim
   ·exact .ret ⟨.ret w,l1,as1,s1,r1,lr1,h1⟩
theorem ZS(hH:E5 E H Γ){N:Nat}:∀n,Qk E (Jm E H N ks n) (G1 Γ (Bu Γ (N+1)).1 (Bu Γ (N+1)).2 ks n):=by
 intro z1
 induction z1 with
 | zero =>
  exact λz z z z z h=>h.elim
 | succ n ih =>
  exact Amw λst loc α as Q h X ρ σ cloc s l=>Amv hH (NH hH (N+1)).1 (NH hH N).1 (NH hH (N+1)).2 (λz z z z z=>rfl) (ih) h s l
end
end
section
section
variable {E:CX->Prop}{X Z Z':Nat->Prop}{ρ:List Nat}{α:AH}{σ σ':CH}{n:Nat}{H:Hs}{Γ:AP}{ks:AF}{loc:An}{cloc:Ao}{as:List Al}
theorem Qm:∀{xs:List Ac} {vs:List CV} {ws:List W},Ds Z ρ σ vs ws->AZ Z ρ σ (xs.zip vs) (xs.zip ws):=by
 intro z1
 induction z1 with
 | nil =>
  intro vs ws r;exact λx w h=>by rw[List.zip_nil_left]at h;(exfalso;injection h)
 | cons x xs ih =>
  intro z2;rcases z2 with _ | ⟨v,vs⟩
  ·intro z3;rcases z3 with _ | ⟨z4,z5⟩
   ·intro r;exact λy w h=>by rw[Aqu]at h;(exfalso;injection h)
   ·intro r;exact r.elim
  ·intro z6;rcases z6 with _ | ⟨w,ws⟩
   ·intro r;exact r.elim
   ·intro r;exact λy u h hn=>by
      rw[HX,BI]at h ⊢;rcases q:y == x with _ | _
      ·rw[q]at h;exact ih r.2 y u h hn
      ·rw[q]at h;(injection h with za;subst za);exact⟨v,rfl,r.1⟩
theorem Amx(F:B3 K){f:Af}{D:C0}(h:NB f=some D):Er K f=some D:=by
 unfold NB at h;rcases q:Gi.lookup f with _ | p
 ·rw[q]at h;(exfalso;injection h)
 ·rw[q]at h;exact(F.def (Gs q)).trans h
theorem Qn(F:B3 K){k:Nat}(hH:E5 E H (BW K NL k)){f:Af}{vs:List V}{cs:List CV}{Q:Kq V}(h:LL E H f vs α as Q)(s:Av X ρ α σ)(r:BA (Zx X ρ α) ρ σ cs vs):Sm E ρ α σ (Di (BW K NL (k+1)) f cs) (PV X Q):=by
 refine Ah (BL h) ?_;rintro D e h;refine Ah (BL h) ?_;rintro ws e2 h;refine Au (CE h) ?_;rintro e3 h;rw[Bf]at e3;refine Au (ZL e2 r) ?_;rintro rw_ hl;rw[Ajh K NL k f cs (Amx F e)];unfold J7;rw[if_pos ⟨e3.1,by rw[hl];exact OU e3.2⟩]
 refine(ZS hH NL D.body _ α as _ h X ρ σ _ s (Qm rw_)).bnd λp ρ1 α1 σ1 st zz => ?_;rcases zz with⟨fl,l1,as1,s1,r1,lr1,h1⟩
 rcases p with⟨fc,cl1⟩
 rcases fl with _ | w
 ·rcases fc with _ | _
  ·exact .ret ⟨Vf .none,as1,s1,(TR.none:TR _ _ _ _),h1⟩
  ·exact r1.elim
 ·rcases fc with _ | c
  ·exact r1.elim
  ·exact .ret ⟨w,as1,s1,r1,h1⟩
theorem NI{x:CM CV}{vs:List V}{ts:List T}{r:T}{α':AH}{Q:Kq V}(hv:∀(Y:Nat->Prop) σ cs,(∀a,Y a->a<σ.length)->AB Y σ cs ts->True)(s:Av X ρ α σ)(e:Gu α vs=some (ts,α'))(hr:BA (Zx X ρ α) ρ σ cs vs)
  (h:AB (Zx X ρ α') σ cs ts->(∀a,Zx X ρ α' a->a<σ.length)->∃v σ',x σ=.ok v σ'/\(∀(a:Nat) o,σ[a]? = some o->σ'[a]? = some o)/\TR (Zx X ρ α') σ' v r) (q:Q (Vf r) α' as):Sm E ρ α σ x (PV X Q):=by
 refine C6 (TB e s hr) ?_;rintro s1 p t;have zlt:∀a,Zx X ρ α' a->a<σ.length:=λa z=>z.elim (s1.xlt a) λ⟨k,o,h1,_⟩=>s1.lt a (Gg h1);refine Br (h t zlt) ?_;rintro v σ' e1 kp tv;have hlen:σ.length<=σ'.length:=by
  refine QV λhlt => ?_;have e:σ[σ'.length]? = some σ[σ'.length]:=Ci hlt;exact BX _ (HJ (kp _ _ e))
 have p2:AW ρ α' σ ρ α' σ':=⟨hlen,λa o h y=>kp a o h,λy y h=>h,λy h=>.inl h⟩;refine .ok e1 (p.trans p2) ⟨Vf r,as,?_,tv,q⟩;exact⟨s1.len,s1.nd,λa h=>Fb (s1.lt a h) hlen,s1.nx,λa h=>Fb (s1.xlt a h) hlen,λk a o h1 h2=>(s1.ob k a o h1 h2).mono (λb ob hb n=>⟨kp b ob hb,n⟩) (λy y h=>h) λy=>by
  have hlt:=s1.lt a (Gg h1);have e:σ[a]? = some σ[a]:=Ci hlt;rw[e];exact kp _ _ e⟩
theorem T4(F:B3 K){k:Nat}(hH:E5 (λz=>False) H (BW K NL k)){C:Af}{vs:List V}{cs:List CV}{Q:Kq V}(h:Bv (GK.lookup C) λf=>LL (λz=>False) H f (.w (.own α.length)::vs) (α++[.ins C []]) as λv α' as=>(match v with
    | .w (.fz .none)=>Q (.w (.own α.length)) α' as
    | _=>False)) (s:Av X ρ α σ) (r:BA (Zx X ρ α) ρ σ cs vs):Sm E ρ α σ (newC (BW K NL (k+1)) C cs) (PV X Q):=by
 refine Ah (BL h) ?_;rintro f e h;have s1:=(s.lay (.inst C [])).own (ao:=.ins C []) (λq=>BX _ (s.xlt _ q)) ⟨[],Qc _,rfl,trivial⟩;have p1:AW ρ α σ (ρ++[σ.length]) (α++[.ins C []]) (σ++[.inst C []]):=(AW.lay _).own s.len (AM _);have ra:UR (Zx X (ρ++[σ.length]) (α++[.ins C []])) (ρ++[σ.length]) (σ++[.inst C []]) (.ref σ.length) (.w (.own α.length)):=⟨σ.length,TF s.len _,rfl⟩;rcases(Qn F hH (cs:=.ref σ.length::cs) h s1 ⟨ra,r.stp p1⟩).out with⟨c,σ2,ρ2,α2,e2,p2,v,as2,s2,r2,h2⟩
 split at h2
 ·have r3:TR (Zx X ρ2 α2) σ2 c .none:=r2;rcases r3 with⟨⟩
  refine .ok (b:=.ref σ.length) ?_ (p1.trans p2) ⟨_,as2,s2,ra.stp p2,h2⟩;unfold newC;rw[Yv,e];dsimp only;rw[e2]
 ·exact h2.elim
theorem NJ(F:B3 K){qt:Bool}(hE:qt=true->∀x,¬E x):∀k,E5 E (Fo E qt k) (BW K NL k):=by
 have q:∀k,E5 (λy=>False) (Fo (λy=>False) true k) (BW K NL k):=by
  intro k
  induction k with
  | zero=>exact⟨λy y h=>h,NF _ _ _,λy y y y y h=>h.elim,λy y y y y h=>h.elim⟩
  | succ k ih =>
   refine⟨λy y h=>h,NF _ _ _,λf vs α as Q h X ρ σ cs s r => ?_,λC vs α as Q h X ρ σ cs s r => ?_⟩
   ·match as,h with
    | .t t::as,h =>
     refine AG (BL h) ?_;rintro⟨ts,α'⟩ e h1 h2;exact NI (λy y y y y=>trivial) s e r (λt z=>h1 K F _ σ cs z t) h2
    | .go::as,h=>exact Qn F ih h s r
   ·match as,h with
    | .t t::as,h =>
     refine AG (BL h) ?_;rintro⟨ts,α'⟩ e h1 h2;exact NI (λy y y y y=>trivial) s e r (λt z=>h1 K F _ σ cs z t) h2
    | .go::as,h=>exact T4 F ih h s r
 intro k
 induction k with
 | zero=>exact⟨hE,NF _ _ _,λy y y y y h=>h.elim,λy y y y y h=>h.elim⟩
 | succ k ih =>
  refine⟨hE,NF _ _ _,λf vs α as Q h X ρ σ cs s r => ?_,λC vs α as Q h X ρ σ cs s r => ?_⟩
  ·match as,h with
   | .t t::as,h =>
    refine AG (BL h) ?_;rintro⟨ts,α'⟩ e h1 h2;exact NI (λy y y y y=>trivial) s e r (λt z=>h1 K F _ σ cs z t) h2
   | .go::as,h=>exact Qn F ih h s r
  ·match as,h with
   | .t t::as,h =>
    refine AG (BL h) ?_;rintro⟨ts,α'⟩ e h1 h2;exact NI (λy y y y y=>trivial) s e r (λt z=>h1 K F _ σ cs z t) h2
   | .go::as,h=>exact T4 F (q k) h s r
abbrev Dz:CX->Prop:=λz=>False
noncomputable def Fin(r:T):Kq V:=λv α z=>match Jj α v with
 | some p=>p.1=r
 | none=>False
theorem kc{A B:Prop}(a:A)(h:A=B):B:=h▸a
theorem Kr(hX:∀a,X a->a<σ.length):Av X [] [] σ:=⟨rfl,Ho,nofun,nofun,hX,nofun⟩
theorem Qo:¬Eb [] [] a:=λ⟨k,o,h,_⟩=>by(exfalso;injection h)
theorem zx0(h:Zx X [] [] a):X a:=h.elim id λh=>(Qo h).elim
theorem NK{ts:List T}(h:AB X σ cs ts):BA (Zx X [] []) [] σ cs (ts.map Vf) :=
 AB.ind (P:=λcs ts=>BA (Zx X [] []) [] σ cs (ts.map Vf)) trivial (λa z ih=>⟨TR.mono (λb o h n=>⟨h,λq=>n (zx0 q)⟩) a,ih⟩) h
theorem ZT{x:CM CV}{r:T}(hX:∀a,X a->a<σ.length)(h:Sm Dz [] [] σ x (PV X (Fin r))):∃v σ',x σ=.ok v σ'/\(∀(a:Nat) o,σ[a]? = some o->σ'[a]? = some o)/\TR X σ' v r:=by
 rcases h.out with⟨c,σ2,ρ2,α2,e2,p2,v,as2,s2,r2,h2⟩
 unfold Fin at h2;cases q:Jj α2 v with
 | none=>rw[q]at h2;exact h2.elim
 | some p =>
 rw[q]at h2;rcases p with⟨t,α3⟩
 subst h2;refine C6 (P8 q s2 r2) ?_;rintro s3 p3 t;exact⟨c,σ2,e2,λa o h=>p2.keep a o h Qo,t.mono λb o h n=>⟨h,λq=>n (.inl q)⟩⟩
theorem Bx{k:Nat}{f:Af}{ts:List T}{r:T}(as:List Al)(h:LL Dz (Fo Dz true k) f (ts.map Vf) [] as (Fin r)):VF (k+1) f ts r:=λK F X σ cs hX t=>ZT hX (Qn F (NJ F (λz z h=>h) k) h (Kr hX) (NK t))
theorem LO{k:Nat}{ts:List T}{r:T}(as:List Al)(h:Bv (GK.lookup C) λf=>LL Dz (Fo Dz true k) f (.w (.own 0)::ts.map Vf) [.ins C []] as λv α' as=>(match v with
    | .w (.fz .none)=>Fin r (.w (.own 0)) α' as
    | _=>False)):VC (k+1) C ts r:=λK F X σ cs hX t=>ZT hX (T4 (α:=[]) F (NJ F (λz z h=>h) k) h (Kr hX) (NK t))
end
end
theorem Qp(h:n<2):n=0\/n=1:=Wm h
theorem LP(h:n<3):n=0\/n=1\/n=2:=Wl h
theorem ZU(h:n<4):n=0\/n=1\/n=2\/n=3:=Adc h
theorem lt5(h:n<5):n=0\/n=1\/n=2\/n=3\/n=4:=Adb h
noncomputable def p0:Pos:=⟨0,0,0,0⟩
noncomputable def xE:Expr:=.Name (Ab "") p0
noncomputable def atE(es:List Expr)(i:Nat):Expr:=match es[i]? with
 | some e=>e
 | none=>xE
noncomputable def Amy(e:Expr):List Expr:=if h:e.ctorIdx=16 then Abb (motive_1:=λz=>List Expr) e h λg es z z=>g::es else if h:e.ctorIdx=25 then Abd (motive_1:=λz=>List Expr) e h λes z z=>es else if h:e.ctorIdx=24 then Expr.List.elim (motive_1:=λz=>List Expr) e h λes z=>es else if h:e.ctorIdx=2 then Expr.BinOp.elim (motive_1:=λz=>List Expr) e h λa z b z=>[a,b]else if h:e.ctorIdx=15 then Expr.Compare.elim (motive_1:=λz=>List Expr) e h λa z es z=>a::es else if h:e.ctorIdx=5 then Expr.IfExp.elim (motive_1:=λz=>List Expr) e h λa b c z=>[a,b,c]else if h:e.ctorIdx=0 then Expr.BoolOp.elim (motive_1:=λz=>List Expr) e h λz es z=>es else[]
noncomputable def DN(e:Expr)(i:Nat):Expr:=if h:e.ctorIdx=8 then Abh (motive_1:=λz=>Expr) e h λe z z z=>e else atE (Amy e) i
noncomputable def B5(s:AN):Expr:=if h:s.ctorIdx=3 then Abf (motive_2:=λz=>Expr) s h λo z=>o.getD xE else if h:s.ctorIdx=5 then Abg (motive_2:=λz=>Expr) s h λz e z=>e else if h:s.ctorIdx=24 then Abe (motive_2:=λz=>Expr) s h λe z=>e else if h:s.ctorIdx=9 then Acy (motive_2:=λz=>Expr) s h λz e z z z=>e else if h:s.ctorIdx=12 then Stmt.If.elim (motive_2:=λz=>Expr) s h λe z z z=>e else if h:s.ctorIdx=11 then Acz (motive_2:=λz=>Expr) s h λe z z z=>e else xE
noncomputable def D4(s:AN):List AN:=if h:s.ctorIdx=9 then Acy (motive_2:=λz=>List AN) s h λz z b z z=>b else if h:s.ctorIdx=12 then Stmt.If.elim (motive_2:=λz=>List AN) s h λz b z z=>b else if h:s.ctorIdx=11 then Acz (motive_2:=λz=>List AN) s h λz b z z=>b else[]
noncomputable def T5(s:AN):Expr:=if h:s.ctorIdx=9 then Acy (motive_2:=λz=>Expr) s h λt z z z z=>t else if h:s.ctorIdx=11 then Acz (motive_2:=λz=>Expr) s h λt z z z=>t else xE
noncomputable def Ef(b:List AN)(i:Nat):AN:=match b[i]? with
 | some s=>s
 | none=>.Pass p0
noncomputable def AR(f:Af)(i:Nat):AN:=match NB f with
 | some D=>Ef D.body i
 | none=>.Pass p0
noncomputable def NM(f:Af):AF:=match NB f with
 | some D=>D.scope.names
 | none=>[]
def cB(k n:Nat)(f:Af)(base:An)(α:AH)(e:Expr):T->List Al->(Option T->Prop)->Prop:=match e with
 | .ListComp elt [⟨target,iter,ifs,0⟩] scope _=>Ki (DY (Fo Dz true k) n).1 (DY (Fo Dz true k) n).2 (Dk (NM f) scope.names) base target elt ifs α
 | _=>λz z z=>False
def fB(k n:Nat)(f:Af)(s:AN)(t:T)(l:An)(a:AH)(as:List Al)(Q:BZ->An->AH->List Al->Prop):Prop :=
 Jl (DY (Fo Dz true k) 40).1 (NM f) (T5 s) (Vf t) l a as λl a as=>Jm Dz (Fo Dz true k) 39 (NM f) n (D4 s) l a as Q
theorem tr(α:A)(o:B):α=α/\o=o:=⟨rfl,rfl⟩
theorem Io{B:T->List Al->(Option T->Prop)->Prop}(en:A->T)(G:A->Option T):∀(xs:List A),(∀a,a∈xs->∃as,B (en a) as (λo=>o=G a))->CB B (xs.map en) (xs.filterMap G):=by
 intro z1
 induction z1 with
 | nil =>
  intro z2;exact rfl
 | cons x xs ih =>
  intro h;refine AK (h x Dq) ?_;rintro as q;have r:=ih λa m=>h a (Ga _ m);refine⟨as,G x,q,?_⟩;rw[Ack];rcases G x with _ | y
  ·exact r
  ·exact⟨_,rfl,r⟩
theorem De{B:T->List Al->(Option T->Prop)->Prop}(en:A->T)(G:A->T):∀(xs:List A),(∀a,a∈xs->∃as,B (en a) as (λo=>o=some (G a)))->CB B (xs.map en) (xs.map G):=by
 intro z1
 induction z1 with
 | nil =>
  intro z2;exact rfl
 | cons x xs ih =>
  intro h;refine AK (h x Dq) ?_;rintro as q;exact⟨as,some (G x),q,_,rfl,ih λa m=>h a (Ga _ m)⟩
set_option tactic.hygienic true in
theorem Dm{B:T->An->AH->List Al->(BZ->An->AH->List Al->Prop)->Prop}{ks:List Ac}(en:A->T)(L:List A->An)(S:List A->AH)(xs w:List A)
  (h:∀ys a zs,ys++a::zs=xs->∃as,B (en a) (L ys) (S ys) as (λfl l2 a2 z=>fl=.next/\Kl n ks l2=L (ys++[a])/\ED n a2=S (ys++[a])/\n<=a2.length)) :
  ∀ys zs,ys++zs=xs->B4 B n ks (zs.map en) (L ys) (S ys) (L xs) (S xs):=by
 intro ys zs
 induction zs generalizing ys with
 | nil =>
  intro e;rw[Dw]at e;subst e;exact⟨rfl,rfl⟩
 | cons a zs ih =>
  intro e;refine AK (h ys a zs e) ?_;rintro as q;exact⟨as,_,_,q,ih (ys++[a]) (by rw[Gd];exact e)⟩
noncomputable def nm(xs:List String):List Ac:=xs.map Ab
noncomputable def EG(xs:List String)(ts:List T):An:=(nm xs).zip (ts.map .fz)
inductive Ba where
 | call (t:Bool) (n:Nat)
 | rf (n:Nat)
 | drop
 | con (n:Nat)
 | nul
 | fin
noncomputable abbrev Az(ts:List T):T:=.node .tup ts
noncomputable abbrev Ak(ts:List T):T:=.node .lst ts
noncomputable abbrev Ag(n:Nat):T:=.int n
noncomputable abbrev Ai(xs:List Nat):List T:=xs.map Ag
noncomputable def sT(x:String):T:=.str (Ab x)
noncomputable def By:Ba->T
 | .call true n=>Az [.int 18,Ag n]
 | .call false n=>Az [.int 16,Ag n]
 | .rf n=>Az [.int 210,Ag n]
 | .drop=>Az [.int 26]
 | .con n=>Az [.int 65,Ag n]
 | .nul=>Az [.int 208,.int (-16)]
 | .fin=>Az [.int 11]
noncomputable def AX(b:List Ba):T:=Ak (b.map By)
inductive Dn where
 | f (k:Nat)
 | g
structure CW where
 kind:Nat
 body:List Ba
structure CY where
 mu:Nat
 body:List Ba
inductive NO where
 | m0 | m1 | m2
structure Ct where
 mode:NO
 inits:List (List Ba)
inductive CG where
 | f (x:Ac) (i:Nat)
 | m (x:Ac)
structure Mod where
 kinds:List Bool
 imports:List Dn
 funcs:List CW
 globs:List CY
 exps:List CG
 start:Option Nat
 elems:List Ct
variable {m:Mod}
noncomputable def Qq(ts:List T):T:=.node (.ins 563 (nm ["place","name","sort","about"])) ts
noncomputable def Jo(ts:List T):T:=.node (.ins 591 (nm ["kind","locals","body"])) ts
noncomputable def NP(ts:List T):T:=.node (.ins 619 (nm ["kind","mutable","body"])) ts
noncomputable def T6(ts:List T):T:=.node (.ins 645 (nm ["mode","table","offset","kind","inits"])) ts
noncomputable def Amz(ts:List T):T:=.node (.ins 810 (nm ["kinds","imports","funcs","tables","memories","globals","exports","start","elems","datas","customs"])) ts
noncomputable def NQ(ts:List T):T:=.node (.ins 411 (nm ["kinds","funcs","tables","memories","globals","elems","datas","declared"])) ts
noncomputable def HM:T:=Az [.int (-16),.int 0]
noncomputable def BB:Dn->T
 | .f k=>Qq [sT "h",sT "f",.int 0,Ag k]
 | .g=>Qq [sT "h",sT "g",.int 3,HM]
noncomputable def Bn(f:CW):T:=Jo [Ag f.kind,Az [],AX f.body]
noncomputable def BO(g:CY):T:=NP [.int (-16),Ag g.mu,AX g.body]
noncomputable def NR:NO->T
 | .m0=>.int 0
 | .m1=>.int 1
 | .m2=>.int 2
noncomputable def E6:NO->T
 | .m1=>AX [.con 3,.fin]
 | _=>.none
noncomputable def Bj(e:Ct):T:=T6 [NR e.mode,.int 0,E6 e.mode,.int (-16),Ak (e.inits.map AX)]
noncomputable def Cp:CG->T
 | .f x i=>Az [.str x,.int 0,Ag i]
 | .m x=>Az [.str x,.int 2,.int 0]
noncomputable def Be:Bool->T
 | false=>Az [Az [],Az []]
 | true=>Az [Az [.int (-1)],Az [.int (-1)]]
noncomputable def D5:Option Nat->T
 | none=>.none
 | some n=>Ag n
noncomputable def Eg:T:=Az [.int (-16),.int 9,.none]
noncomputable def Eh:T:=Az [.int 1,.none]
noncomputable def B6(m:Mod):T:=Amz [Ak (m.kinds.map Be),Ak (m.imports.map BB),Ak (m.funcs.map Bn),Ak [Eg],Ak [Eh],Ak (m.globs.map BO),Ak (m.exps.map Cp),D5 m.start,Ak (m.elems.map Bj),Ak [],Ak []]
theorem LQ(k:Nat)(a b c d:T):VC (k+1) 563 [a,b,c,d] (Qq [a,b,c,d]):=LO [] (kc (Bi (Qq [a,b,c,d])) (by kernel_rfl))
theorem Qr(k:Nat)(a b c:T):VC (k+1) 591 [a,b,c] (Jo [a,b,c]):=LO [] (kc (Bi (Jo [a,b,c])) (by kernel_rfl))
theorem Qs(k:Nat)(a b c:T):VC (k+1) 619 [a,b,c] (NP [a,b,c]):=LO [] (kc (Bi (NP [a,b,c])) (by kernel_rfl))
theorem T7(k:Nat)(a b c d e:T):VC (k+1) 645 [a,b,c,d,e] (T6 [a,b,c,d,e]):=LO [] (kc (Bi (T6 [a,b,c,d,e])) (by kernel_rfl))
theorem AmA(k:Nat)(a b c d e f g h:T):VC (k+1) 411 [a,b,c,d,e,f,g,h] (NQ [a,b,c,d,e,f,g,h]):=LO [] (kc (Bi (NQ [a,b,c,d,e,f,g,h])) (by kernel_rfl))
noncomputable def Dn.k:Dn->Option Nat
 | .f j=>some j
 | .g=>none
noncomputable def Dn.gl:Dn->Option T
 | .f _=>none
 | .g=>some HM
noncomputable def Mod.ik(m:Mod):List T:=m.imports.filterMap λi=>i.k.map Ag
noncomputable def Mod.iks(m:Mod):List Nat:=m.imports.filterMap Dn.k
theorem Mod.ik_eq(m:Mod):m.ik=Ai m.iks:=VP.symm
noncomputable def Mod.ig(m:Mod):List T:=m.imports.filterMap Dn.gl
theorem ZV(k:Nat)(m:Mod):VF (k+1) 731 [B6 m,.int 0] (Ak m.ik) :=
 Bx [.l m.ik] (kc (Ae (Io (B:=cB k 39 731 (EG ["sort"] [.int 0]) [] (B5 (AR 731 0))) BB (λi=>i.k.map Ag) m.imports λa z=>by
  rcases a with j | _
  ·exact⟨[],kc (tr ([]:AH) (some (Ag j))) (by kernel_rfl)⟩
  ·exact⟨[],kc (tr ([]:AH) (none:Option T)) (by kernel_rfl)⟩) (Bi (Ak m.ik))) (by kernel_rfl))
theorem ZW(k:Nat)(m:Mod)(s:Int)(hs:s=1\/s=2):VF (k+1) 731 [B6 m,.int s] (Ak []):=by
 have e:m.imports.filterMap (λz=>(none:Option T))=[]:=by induction m.imports with
  | nil=>rfl
  | cons a r ih=>exact ih
 rcases hs with rfl | rfl
 ·exact Bx [.l (m.imports.filterMap λz=>none)] (kc (Ae (Io (B:=cB k 39 731 (EG ["sort"] [.int 1]) [] (B5 (AR 731 0))) BB (λz=>none) m.imports λa z=>by rcases a with⟨⟩<;>exact⟨[],kc (tr ([]:AH) (none:Option T)) (by kernel_rfl)⟩) (congrArg Ak e)) (by kernel_rfl))
 ·exact Bx [.l (m.imports.filterMap λz=>none)] (kc (Ae (Io (B:=cB k 39 731 (EG ["sort"] [.int 2]) [] (B5 (AR 731 0))) BB (λz=>none) m.imports λa z=>by rcases a with⟨⟩<;>exact⟨[],kc (tr ([]:AH) (none:Option T)) (by kernel_rfl)⟩) (congrArg Ak e)) (by kernel_rfl))
theorem AmB(k:Nat)(m:Mod):VF (k+1) 731 [B6 m,.int 3] (Ak m.ig) :=
 Bx [.l m.ig] (kc (Ae (Io (B:=cB k 39 731 (EG ["sort"] [.int 3]) [] (B5 (AR 731 0))) BB Dn.gl m.imports λa z=>by
  rcases a with j | _
  ·exact⟨[],kc (tr ([]:AH) (none:Option T)) (by kernel_rfl)⟩
  ·exact⟨[],kc (tr ([]:AH) (some HM)) (by kernel_rfl)⟩) (Bi (Ak m.ig))) (by kernel_rfl))
noncomputable def Fp(b:List Ba):T:=Az (b.map By)
noncomputable def GA:Dn->T
 | .f k=>Az [sT "h",sT "f",.int 0,Ag k]
 | .g=>Az [sT "h",sT "g",.int 3,HM]
noncomputable def Ip(f:CW):T:=Az [Ag f.kind,Az [],Fp f.body]
noncomputable def Iq(g:CY):T:=Az [.int (-16),Ag g.mu,Fp g.body]
noncomputable def ZX:NO->T
 | .m1=>Fp [.con 3,.fin]
 | _=>.none
noncomputable def G4(e:Ct):T:=Az [NR e.mode,.int 0,ZX e.mode,.int (-16),Az (e.inits.map Fp)]
theorem AmC(k:Nat)(i:Dn):VF (k+1) 560 [BB i] (GA i):=by
 rcases i with j | _
 ·exact Bx [] (kc (Bi (GA (.f j))) (by kernel_rfl))
 ·exact Bx [] (kc (Bi (GA .g)) (by kernel_rfl))
theorem AmD(k:Nat)(f:CW):VF (k+1) 588 [Bn f] (Ip f):=Bx [] (kc (Bi (Ip f)) (by kernel_rfl))
theorem AmE(k:Nat)(f:CY):VF (k+1) 616 [BO f] (Iq f):=Bx [] (kc (Bi (Iq f)) (by kernel_rfl))
theorem AmF(k:Nat)(e:Ct):VF (k+1) 642 [Bj e] (G4 e):=by
 rcases e with⟨mo,bs⟩
 have c:=De (B:=cB k 37 642 [] [] (DN (DN (B5 (AR 642 1)) 4) 1)) AX Fp bs λa z=>⟨[],kc (tr ([]:AH) (some (Fp a))) (by kernel_rfl)⟩
 rcases mo with _ | _ | _
 ·exact Bx [.a,.l (bs.map Fp)] (kc (Ae c (Bi (G4 ⟨.m0,bs⟩))) (by kernel_rfl))
 ·exact Bx [.a,.l (bs.map Fp)] (kc (Ae c (Bi (G4 ⟨.m1,bs⟩))) (by kernel_rfl))
 ·exact Bx [.a,.l (bs.map Fp)] (kc (Ae c (Bi (G4 ⟨.m2,bs⟩))) (by kernel_rfl))
theorem NS(k:Nat)(en pl:A->T)(xs:List A)(h:∀a,a∈xs->∃as,cB (k+1) 38 819 [] [] (DN (B5 (AR 819 0)) 1) (en a) as (λo=>o=some (pl a))):VF (k+2) 819 [Ak (xs.map en)] (Az (xs.map pl)) :=
 Bx [.l (xs.map pl)] (kc (Ae (De en pl xs h) (Bi (Az (xs.map pl)))) (by kernel_rfl))
theorem AmG(k:Nat)(xs:List Dn):VF (k+2) 819 [Ak (xs.map BB)] (Az (xs.map GA)):=NS k _ _ _ λa z=>by
 have v:=AmC k a;rcases a with j | _
 ·exact⟨[.t (GA (.f j))],kc (Ae v (tr ([]:AH) (some (GA (.f j))))) (by kernel_rfl)⟩
 ·exact⟨[.t (GA .g)],kc (Ae v (tr ([]:AH) (some (GA .g)))) (by kernel_rfl)⟩
theorem AmH(k:Nat)(xs:List CW):VF (k+2) 819 [Ak (xs.map Bn)] (Az (xs.map Ip)):=NS k _ _ _ λa z=>⟨[.t (Ip a)],kc (Ae (AmD k a) (tr ([]:AH) (some (Ip a)))) (by kernel_rfl)⟩
theorem AmI(k:Nat)(xs:List CY):VF (k+2) 819 [Ak (xs.map BO)] (Az (xs.map Iq)):=NS k _ _ _ λa z=>⟨[.t (Iq a)],kc (Ae (AmE k a) (tr ([]:AH) (some (Iq a)))) (by kernel_rfl)⟩
theorem AmJ(k:Nat)(xs:List Ct):VF (k+2) 819 [Ak (xs.map Bj)] (Az (xs.map G4)):=NS k _ _ _ λa z=>⟨[.t (G4 a)],kc (Ae (AmF k a) (tr ([]:AH) (some (G4 a)))) (by kernel_rfl)⟩
theorem ZY(k:Nat):VF (k+2) 819 [Ak []] (Az []):=NS k id id [] λz h=>nomatch h
noncomputable def Jp(m:Mod):T:=Az [Az (m.kinds.map Be),Az (m.imports.map GA),Az (m.funcs.map Ip),Az [Eg],Az [Eh],Az (m.globs.map Iq),Az (m.exps.map Cp),D5 m.start,Az (m.elems.map G4),Az [],Az []]
theorem ZZ(k:Nat)(m:Mod):VF (k+3) 790 [B6 m] (Jp m) :=
 Bx [.t (Az (m.imports.map GA)),.t (Az (m.funcs.map Ip)),.t (Az (m.globs.map Iq)),.t (Az (m.elems.map G4)),.t (Az []),.t (Az [])]
  (kc (Ae (AmG k m.imports) (Ae (AmH k m.funcs) (Ae (AmI k m.globs) (Ae (AmJ k m.elems) (Ae (ZY k) (Ae (ZY k) (Bi (Jp m)))))))) (by kernel_rfl))
structure Mod.Sz(m:Mod):Prop where
 kinds:m.kinds.length<=3
 imps:m.imports.length<=3
 funcs:m.funcs.length<=4
 globs:m.globs.length<=3
 exps:m.exps.length<=3
 elems:m.elems.length<=3
 gb:∀g,g∈m.globs->g.body.length<=2
 ei:∀e,e∈m.elems->e.inits.length<=3
 eb:∀e,e∈m.elems->∀b,b∈e.inits->b.length<=2
 fb:∀f,f∈m.funcs->f.body.length<=7
theorem Ca(h:n<=4000):some (small n)=some true:=congrArg some (decide_eq_true h)
theorem Qt(f:A->Option B):∀xs:List A,(xs.filterMap f).length<=xs.length:=List.length_filterMap_le f
theorem Mod.ik_len(m:Mod):m.ik.length<=m.imports.length:=Qt _ _
theorem Mod.ig_len(m:Mod):m.ig.length<=m.imports.length:=Qt _ _
theorem Z0(k:Nat)(m:Mod):VF (k+2) 726 [B6 m,.int 0] (Ag m.ik.length):=Bx [.t (Ak m.ik)] (kc (Ae (ZV k m) (Bi (Ag m.ik.length))) (by kernel_rfl))
noncomputable def Mod.fk(m:Mod):List T:=m.funcs.map λf=>Ag f.kind
noncomputable def Mod.gk(m:Mod):List T:=m.globs.map λg=>Az [.int (-16),Ag g.mu]
theorem AmK(k:Nat)(m:Mod)(z:m.Sz):VF (k+2) 736 [B6 m] (Ak (m.ik++m.fk)) :=
 Bx [.t (Ak m.ik),.l m.fk,.b true] (kc (Ae (ZV k m) (Ae (De (B:=cB (k+1) 38 736 [] [] (DN (B5 (AR 736 0)) 1)) Bn (λf=>Ag f.kind) m.funcs λa q=>⟨[],kc (tr ([]:AH) (some (Ag a.kind))) (by kernel_rfl)⟩) (Ae (Ca (n:=m.ik.length+m.fk.length) (by
  have:=m.ik_len;have:=z.imps;have:=z.funcs;unfold Mod.fk;rw[AJ];omega)) (Bi (Ak (m.ik++m.fk)))))) (by kernel_rfl))
theorem AmL(k:Nat)(m:Mod):VF (k+2) 743 [B6 m] (Ak [Eg]):=Bx [.t (Ak [])] (kc (Ae (ZW k m 1 (.inl rfl)) (Bi (Ak [Eg]))) (by kernel_rfl))
theorem AmM(k:Nat)(m:Mod):VF (k+2) 750 [B6 m] (Ak [Eh]):=Bx [.t (Ak [])] (kc (Ae (ZW k m 2 (.inr rfl)) (Bi (Ak [Eh]))) (by kernel_rfl))
theorem AmN(k:Nat)(m:Mod)(z:m.Sz):VF (k+2) 755 [B6 m] (Ak (m.ig++m.gk)) :=
 Bx [.t (Ak m.ig),.l m.gk,.b true] (kc (Ae (AmB k m) (Ae (De (B:=cB (k+1) 38 755 [] [] (DN (B5 (AR 755 0)) 1)) BO (λg=>Az [.int (-16),Ag g.mu]) m.globs λa q=>⟨[],kc (tr ([]:AH) (some (Az [.int (-16),Ag a.mu]))) (by kernel_rfl)⟩) (Ae (Ca (n:=m.ig.length+m.gk.length) (by
  have:=m.ig_len;have:=z.imps;have:=z.globs;unfold Mod.gk;rw[AJ];omega)) (Bi (Ak (m.ig++m.gk)))))) (by kernel_rfl))
noncomputable def Ba.rfs:Ba->List Nat
 | .rf n=>[n]
 | _=>[]
noncomputable def Ba.fns:Ba->Option Nat
 | .call _ n=>some n
 | .rf n=>some n
 | _=>none
noncomputable def Cf(b:List Ba):List Nat:=b.flatMap Ba.rfs
noncomputable def Bh(b:List Ba):List Nat:=b.filterMap Ba.fns
noncomputable def CG.idx:CG->List Nat
 | .f _ i=>[i]
 | .m _=>[]
noncomputable def note(es:List (Int×T))(ns:List Nat):List (Int×T):=ns.foldl (λ(es:List (Int×T)) (n:Nat)=>Cn es (n:Int) (.bool true)) es
theorem Jq(es:List (Int×T))(a b:List Nat):note es (a++b)=note (note es a) b:=ON
theorem Qu(k:Nat)(b:List Ba):VF (k+1) 855 [AX b] (Ak ((Bh b).map Ag)):=by
 have e:(Bh b).map Ag=b.filterMap (λi=>i.fns.map Ag):=VP;rw[e];exact Bx [.l (b.filterMap λi=>i.fns.map Ag)] (kc (Ae (Io (B:=cB k 39 855 [] [] (B5 (AR 855 0))) By (λi=>i.fns.map Ag) b λa z=>by
  rcases a with⟨t,n⟩ | n | _ | n | _ | _
  ·rcases t with⟨⟩<;>exact⟨[],kc (tr ([]:AH) (some (Ag n))) (by kernel_rfl)⟩
  ·exact⟨[],kc (tr ([]:AH) (some (Ag n))) (by kernel_rfl)⟩
  ·exact⟨[],kc (tr ([]:AH) (none:Option T)) (by kernel_rfl)⟩
  ·exact⟨[],kc (tr ([]:AH) (none:Option T)) (by kernel_rfl)⟩
  ·exact⟨[],kc (tr ([]:AH) (none:Option T)) (by kernel_rfl)⟩
  ·exact⟨[],kc (tr ([]:AH) (none:Option T)) (by kernel_rfl)⟩) (Bi (Ak (b.filterMap λi=>i.fns.map Ag)))) (by kernel_rfl))
set_option tactic.hygienic true in
theorem f4{L:An}{S S':AH}(n:Nat)(h:S=S')(hn:n<=S.length):BZ.next=.next/\L=L/\S=S'/\n<=S.length:=⟨rfl,rfl,h,hn⟩
theorem AmO(es:List (Int×T))(k:Int)(v:T):(Cn es k v).length<=es.length+1:=by
 unfold Cn
 split
 ·rw[AJ];exact Wz
 ·rw[Bl];exact AM _
theorem Ks:∀(ns:List Nat) (es:List (Int×T)),(note es ns).length<=es.length+ns.length:=by
 intro z1
 induction z1 with
 | nil =>
  intro es;exact AM _
 | cons n ns ih =>
  intro es;exact AE (ih (Cn es n (.bool true))) (by
    have:=AmO es n (.bool true);rw[BN];exact Wy this)
theorem Jr:∀b:List Ba,(Cf b).length<=b.length:=by
 intro z1
 induction z1 with
 | nil =>
  exact AM _
 | cons i b ih =>
  have:=ih;unfold Cf at this ⊢;rw[OV,Bl,BN];rcases i with⟨⟩<;>simp only[Ba.rfs,DU,BN]<;>omega
theorem Z1(a b:List Ba):Cf (a++b)=Cf a++Cf b:=Rq
noncomputable abbrev GB(b:List Ba):An:=[(Ab "found",.own 0),(Ab "body",.fz (AX b))]
theorem Z2(k:Nat)(es:List (Int×T))(b:List Ba)(hs:es.length+b.length<=4000):B4 (fB k 39 838 (AR 838 0)) 1 (nm ["found","body"]) (b.map By) (GB b) [.dct es] (GB b) [.dct (note es (Cf b))] :=
 Dm By (λz=>GB b) (λys=>[.dct (note es (Cf ys))]) b b (λys a zs e=>by
  have st:∀n,note es (Cf (ys++[Ba.rf n]))=Cn (note es (Cf ys)) n (.bool true):=λn=>by rw[Z1,Jq];rfl
  have nst:∀i:Ba,i.rfs=[]->note es (Cf (ys++[i]))=note es (Cf ys):=λi h=>by
   rw[Z1,Jq];unfold Cf;rw[OV,h];rfl
  have no:∀i:Ba,i.rfs=[]->[AO.dct (note es (Cf ys))]=[AO.dct (note es (Cf (ys++[i])))]:=λi h=>by rw[nst i h]
  rcases a with⟨t,n⟩ | n | _ | n | _ | _
  ·rcases t with _ | _
   ·exact⟨[],kc (f4 (L:=GB b) 1 (no (.call false n) rfl) (AM 1)) (by kernel_rfl)⟩
   ·exact⟨[],kc (f4 (L:=GB b) 1 (no (.call true n) rfl) (AM 1)) (by kernel_rfl)⟩
  ·have hl:(note es (Cf ys)).length<=4000:=by
    have h1:=Ks (Cf ys) es;have h2:=Jr ys;have h3:=congrArg IH e;rw[Bl]at h3;exact Aep hs h1 h2 h3
   exact⟨[.a,.a,.b true],kc (Ae (Ca hl) (f4 (L:=GB b) 1 (congrArg (λd=>[AO.dct d]) (st n).symm) (AM 1))) (by kernel_rfl)⟩
  ·exact⟨[],kc (f4 (L:=GB b) 1 (no .drop rfl) (AM 1)) (by kernel_rfl)⟩
  ·exact⟨[],kc (f4 (L:=GB b) 1 (no (.con n) rfl) (AM 1)) (by kernel_rfl)⟩
  ·exact⟨[],kc (f4 (L:=GB b) 1 (no .nul rfl) (AM 1)) (by kernel_rfl)⟩
  ·exact⟨[],kc (f4 (L:=GB b) 1 (no .fin rfl) (AM 1)) (by kernel_rfl)⟩) [] b rfl
theorem DF(f:A->List B)(c:Nat):∀xs:List A,(∀x,x∈xs->(f x).length<=c)->(xs.flatMap f).length<=c*xs.length:=by
 intro z1
 induction z1 with
 | nil =>
  intro z2;exact AM _
 | cons x xs ih =>
  intro h;have h1:=ih λy m=>h y (Ga _ m);have h2:=h x Dq;rw[OV,Bl,BN,Nat.mul_succ];exact Aeo h1 h2
noncomputable def AY(xs:List CG):List Nat:=xs.flatMap CG.idx
noncomputable def BD(gs:List CY):List Nat:=gs.flatMap λg=>Cf g.body
noncomputable def C9(bs:List (List Ba)):List Nat:=bs.flatMap Cf
noncomputable def BV(es:List Ct):List Nat:=es.flatMap λe=>C9 e.inits
noncomputable def Mod.decl(m:Mod):List Nat:=AY m.exps++BD m.globs++BV m.elems
noncomputable def Fq(m:Mod):List (Int×T):=note [] m.decl
theorem LS(xs:List CG):(AY xs).length<=1*xs.length:=DF _ 1 xs λx z=>by rcases x with⟨⟩<;>simp[CG.idx]
theorem G5(f:A->List B)(xs:List A)(a:A):(xs++[a]).flatMap f=xs.flatMap f++f a:=by
 rw[Rq,OV,List.flatMap_nil,Dw]
theorem EH{ys zs xs:List A}{a:A}(e:ys++a::zs=xs):ys.length<xs.length:=by
 rw[<- e,Bl,BN];exact Aen
theorem Ei{ys zs xs:List A}{a:A}(e:ys++a::zs=xs):a∈xs:=e▸CC _ Dq
theorem Js{ys zs xs:List A}(e:ys++zs=xs){a:A}(h:a∈ys):a∈xs:=e▸Cg _ h
noncomputable abbrev EI(m:Mod):An:=[(Ab "module",.fz (B6 m)),(Ab "found",.own 0)]
noncomputable abbrev T8:List Ac:=nm ["module","found"]
theorem AmP(k:Nat)(m:Mod)(z:m.Sz):B4 (fB (k+1) 39 845 (AR 845 1)) 1 T8 (m.exps.map Cp) (EI m) [.dct []] (EI m) [.dct (note [] (AY m.exps))] :=
 Dm Cp (λq=>EI m) (λys=>[.dct (note [] (AY ys))]) m.exps m.exps (λys a zs e=>by
  have st:note [] (AY (ys++[a]))=note (note [] (AY ys)) a.idx:=by unfold AY;rw[G5,Jq]
  rcases a with⟨x,i⟩ | x
  ·have hl:(note [] (AY ys)).length<=4000:=by
    have h1:=Ks (AY ys) [];have h2:=LS ys;have h3:=EH e;have h4:=z.exps;simp only[DU]at h1;exact Aem h1 h2 h3 h4
   exact⟨[.a,.b true],kc (Ae (Ca hl) (f4 (L:=EI m) 1 (congrArg (λd=>[AO.dct d]) st.symm) (AM 1))) (by kernel_rfl)⟩
  ·exact⟨[],kc (f4 (L:=EI m) 1 (congrArg (λd=>[AO.dct d]) st.symm) (AM 1)) (by kernel_rfl)⟩) [] m.exps rfl
theorem AmQ(k:Nat)(m:Mod)(z:m.Sz)(es:List (Int×T))(hs:es.length<=100):B4 (fB (k+1) 39 845 (AR 845 2)) 1 T8 (m.globs.map BO) (EI m) [.dct es] (EI m) [.dct (note es (BD m.globs))] :=
 Dm BO (λq=>EI m) (λys=>[.dct (note es (BD ys))]) m.globs m.globs (λys a zs e=>by
  have st:note es (BD (ys++[a]))=note (note es (BD ys)) (Cf a.body):=by unfold BD;rw[G5,Jq]
  have hl:(note es (BD ys)).length+a.body.length<=4000:=by
   have h1:=Ks (BD ys) es;have h2:(BD ys).length<=2*ys.length:=DF _ 2 ys λg h=>AE (Jr _) (z.gb g (Js e h));have h3:=EH e;have h4:=z.globs;have h5:=z.gb a (Ei e);exact Ael hs h1 h2 h3 h4 h5
  exact⟨[.go,.st (GB a.body) [.dct (note (note es (BD ys)) (Cf a.body))]],kc (Ae (Z2 k _ a.body hl) (f4 (L:=EI m) 1 (congrArg (λd=>[AO.dct d]) st.symm) (AM 1))) (by kernel_rfl)⟩) [] m.globs rfl
noncomputable abbrev Kt(m:Mod)(e:Ct):An:=[(Ab "module",.fz (B6 m)),(Ab "found",.own 0),(Ab "elem",.fz (Bj e))]
noncomputable abbrev AmR:List Ac:=nm ["module","found","elem"]
theorem AmS(k:Nat)(m:Mod)(mo:Ct)(bs:List (List Ba))(es:List (Int×T))(hs:es.length<=1000)(h3:bs.length<=3)(h2:∀b,b∈bs->b.length<=2) :
  B4 (fB (k+1) 38 845 (Ef (D4 (AR 845 3)) 0)) 1 AmR (bs.map AX) (Kt m mo) [.dct es] (Kt m mo) [.dct (note es (C9 bs))] :=
 Dm AX (λz=>Kt m mo) (λys=>[.dct (note es (C9 ys))]) bs bs (λys a zs e=>by
  have st:note es (C9 (ys++[a]))=note (note es (C9 ys)) (Cf a):=by unfold C9;rw[G5,Jq]
  have hl:(note es (C9 ys)).length+a.length<=4000:=by
   have g1:=Ks (C9 ys) es;have g2:(C9 ys).length<=2*ys.length:=DF _ 2 ys λg h=>AE (Jr _) (h2 g (Js e h));have g3:=EH e;have g5:=h2 a (Ei e);exact Aek hs h3 g1 g2 g3 g5
  exact⟨[.go,.st (GB a) [.dct (note (note es (C9 ys)) (Cf a))]],kc (Ae (Z2 k _ a hl) (f4 (L:=Kt m mo) 1 (congrArg (λd=>[AO.dct d]) st.symm) (AM 1))) (by kernel_rfl)⟩) [] bs rfl
theorem AmT(k:Nat)(m:Mod)(z:m.Sz)(es:List (Int×T))(hs:es.length<=100):B4 (fB (k+1) 39 845 (AR 845 3)) 1 T8 (m.elems.map Bj) (EI m) [.dct es] (EI m) [.dct (note es (BV m.elems))] :=
 Dm Bj (λx=>EI m) (λys=>[.dct (note es (BV ys))]) m.elems m.elems (λys a zs e=>by
  have st:note es (BV (ys++[a]))=note (note es (BV ys)) (C9 a.inits):=by unfold BV;rw[G5,Jq]
  have hl:(note es (BV ys)).length<=1000:=by
   have h1:=Ks (BV ys) es;have h2:(BV ys).length<=6*ys.length:=DF _ 6 ys λg h=>by
    have q:(C9 g.inits).length<=2*g.inits.length:=DF _ 2 g.inits λb hb=>AE (Jr _) (z.eb g (Js e h) b hb);have q2:=z.ei g (Js e h);exact O5 q q2
   have h3:=EH e;have h4:=z.elems;exact Aej hs h1 h2 h3 h4
  have c:=AmS k m a a.inits _ hl (z.ei a (Ei e)) (z.eb a (Ei e));rcases a with⟨mo,bs⟩
  have fin:=f4 (L:=EI m) 1 (congrArg (λd=>[AO.dct d]) st.symm) (AM 1);rcases mo with _ | _ | _
  ·exact⟨[.st (Kt m ⟨.m0,bs⟩) [.dct (note (note es (BV ys)) (C9 bs))]],kc (Ae c fin) (by kernel_rfl)⟩
  ·exact⟨[.st (Kt m ⟨.m1,bs⟩) [.dct (note (note es (BV ys)) (C9 bs))],.a,.go],kc (Ae c fin) (by kernel_rfl)⟩
  ·exact⟨[.st (Kt m ⟨.m2,bs⟩) [.dct (note (note es (BV ys)) (C9 bs))]],kc (Ae c fin) (by kernel_rfl)⟩) [] m.elems rfl
noncomputable def DG(es:List (Int×T)):T:=.node (.dct (es.map (·.1))) (es.map (·.2))
theorem AmU(k:Nat)(m:Mod)(z:m.Sz):VF (k+2) 845 [B6 m] (DG (Fq m)):=by
 have h1:=Ks (AY m.exps) [];have h2:=LS m.exps;have h3:=Ks (BD m.globs) (note [] (AY m.exps));have h4:(BD m.globs).length<=2*m.globs.length:=DF _ 2 m.globs λg h=>AE (Jr _) (z.gb g h);have h5:=z.exps;have h6:=z.globs;simp only[DU]at h1;have e:note (note (note [] (AY m.exps)) (BD m.globs)) (BV m.elems)=Fq m:=by
  unfold Fq Mod.decl;rw[Jq,Jq]
 exact Bx [.st (EI m) [.dct (note [] (AY m.exps))],.st (EI m) [.dct (note (note [] (AY m.exps)) (BD m.globs))],.st (EI m) [.dct (note (note (note [] (AY m.exps)) (BD m.globs)) (BV m.elems))]]
  (kc (Ae (AmP k m z) (Ae (AmQ k m z (note [] (AY m.exps)) (Aei h1 h2 h5)) (Ae (AmT k m z (note (note [] (AY m.exps)) (BD m.globs)) (Aeh h1 h2 h3 h4 h5 h6)) (congrArg DG e)))) (by kernel_rfl))
noncomputable def Ir(m:Mod):T:=NQ [Ak (m.kinds.map Be),Ak (m.ik++m.fk),Ak [Eg],Ak [Eh],Ak (m.ig++m.gk),Ak (m.elems.map λz=>.int (-16)),.int 0,DG (Fq m)]
theorem Z3(k:Nat)(m:Mod)(z:m.Sz):VF (k+3) 850 [B6 m] (Ir m) :=
 Bx [.t (Ak (m.ik++m.fk)),.t (Ak [Eg]),.t (Ak [Eh]),.t (Ak (m.ig++m.gk)),.l (m.elems.map λq=>.int (-16)),.t (DG (Fq m)),.t (Ir m)]
  (kc (Ae (AmK k m z) (Ae (AmL k m) (Ae (AmM k m) (Ae (AmN k m z) (Ae (De (B:=cB (k+2) 38 850 [] [] (DN (B5 (AR 850 0)) 6)) Bj (λq=>.int (-16)) m.elems λa q=>⟨[],kc (tr ([]:AH) (some (T.int (-16)))) (by kernel_rfl)⟩)
   (Ae (AmU k m z) (Ae (AmA (k+1) (Ak (m.kinds.map Be)) (Ak (m.ik++m.fk)) (Ak [Eg]) (Ak [Eh]) (Ak (m.ig++m.gk)) (Ak (m.elems.map λq=>.int (-16))) (.int 0) (DG (Fq m))) (Bi (Ir m))))))))) (by kernel_rfl))
inductive CI(nx:Nat->List Nat)(roots:List Nat):Nat->Prop
 | root {i:Nat}:i∈roots->CI nx roots i
 | step {i j:Nat}:CI nx roots i->j∈nx i->CI nx roots j
theorem AmV{nx:Nat->List Nat}{roots:List Nat}(h1:∀i,i∈roots->i∈fs)(h2:∀i,i∈fs->∀j,j∈nx i->j∈fs)(h3:∀i,i∈fs->CI nx roots i)(i:Nat):i∈fs↔CI nx roots i :=
 ⟨h3 i,λh=>by
  induction h with
  | root m=>exact h1 _ m
  | step _ m ih=>exact h2 _ ih _ m⟩
noncomputable def Mod.N(m:Mod):Nat:=m.ik.length+m.funcs.length
noncomputable def Mod.nx(m:Mod)(i:Nat):List Nat:=if i<m.ik.length then[]else match m.funcs[i-m.ik.length]? with
 | some f=>Bh f.body
 | none=>[]
noncomputable def DO(gs:List CY):List Nat:=gs.flatMap λg=>Bh g.body
noncomputable def Fs(bs:List (List Ba)):List Nat:=bs.flatMap Bh
noncomputable def EJ(es:List Ct):List Nat:=es.flatMap λe=>Fs e.inits
noncomputable def Mod.roots(m:Mod):List Nat:=As m.ik.length++AY m.exps++m.start.toList++DO m.globs++EJ m.elems
structure Mod.Wf(m:Mod):Prop extends m.Sz where
 rts:∀i,i∈m.roots->i<m.N
 nxt:∀f,f∈m.funcs->∀j,j∈Bh f.body->j<m.N
 kfn:∀f,f∈m.funcs->f.kind<m.kinds.length
 kim:∀i,i∈m.iks->i<m.kinds.length
noncomputable def Mod.used(m:Mod):List Nat:=(As m.N).filter λi=>@decide (CI m.nx m.roots i) (OW _)
set_option tactic.hygienic true in
theorem Mod.Wf.nx_lt(z:m.Wf){i j:Nat}(h:j∈m.nx i):j<m.N:=by
 unfold Mod.nx at h
 split at h
 ·rcases h with⟨⟩
 ·split at h
  ·rename_i f e;exact z.nxt f (Gg e) j h
  ·rcases h with⟨⟩
theorem Mod.Wf.reach_lt(z:m.Wf){i:Nat}(h:CI m.nx m.roots i):i<m.N:=by
 rcases h with q | ⟨_,q⟩
 ·exact z.rts _ q
 ·exact z.nx_lt q
theorem Ft(z:m.Wf){i:Nat}:i∈m.used↔CI m.nx m.roots i:=by
 unfold Mod.used;rw[Hm,Dx];exact⟨λh=>@of_decide_eq_true _ (OW _) h.2,λh=>⟨z.reach_lt h,@decide_eq_true _ (OW _) h⟩⟩
theorem Z4(h:n<=4000):Ew (n:Int)=true:=decide_eq_true (Aes h)
theorem Z5{vs:List V}{a c:Int}(h1:Kg vs=some is)(h2:FP is=some (a,c,n)):G2 vs=some ((DV a c n).map T.int):=by
 unfold G2;rw[h1];dsimp only;rw[h2]
theorem Ku(h:n<=4000):G2 [Vf (Ag n)]=some ((As n).map Ag):=by
 have e1:FP [(n:Int)]=some (0,1,n):=by
  have h':(n:Int).toNat<=4000:=by rw[Rh];exact h
  unfold FP;dsimp only;rw[if_pos ⟨Z4 h,h'⟩,Rh]
 have e2:(DV 0 1 n).map T.int=(As n).map Ag:=by
  unfold DV;rw[C5];refine Mp λi z => ?_;show T.int (0+(i:Int)*1)=T.int i;rw[Int.zero_add,Int.mul_one]
 rw[<- e2];exact Z5 rfl e1
theorem It(en:A->T)(xs:List A){k:Int}{n:Nat}{a:A}(hk:k=n)(hn:n<=4000)(e:xs[n]? = some a):E4 (xs.map en) k=some (en a):=by
 subst hk;have hlt:n<xs.length:=(DT.mp e).1;have e1:R0 (n:Int)=true:=decide_eq_true (Aer hn);have e2:Ou (n:Int) (xs.map en).length=some n:=by
  unfold Ou;rw[AJ];have h1:¬((n:Int)<0):=WA;have h2:(decide ((0:Int)<=n) && decide ((n:Int)<(xs.length:Nat)))=true:=by
   rw[Bf];exact⟨decide_eq_true (Aeq),decide_eq_true (RG hlt)⟩
  simp only[if_neg h1];rw[if_pos h2];rfl
 unfold E4;rw[if_pos e1,e2];show(xs.map en)[n]? = _;rw[Hp,e];rfl
noncomputable def eF(fs:List Nat):List (Int×T):=fs.map λ(n:Nat)=>((n:Int),T.bool true)
theorem NT(fs:List Nat)(i:Nat):(Cz (eF fs) i).isSome=decide (i∈fs):=by
 induction fs with
 | nil=>rfl
 | cons n fs ih =>
  show(if((n:Int)=i)then some (T.bool true)else Cz (eF fs) i).isSome=_
  by_cases h:n=i
  ·subst h;simp
  ·rw[if_neg (RK h),ih]
   congr 1
   apply propext;rw[AV];exact⟨.inr,λq=>q.elim (λq=>absurd q.symm h) id⟩
theorem Z6(fs:List Nat)(i:Nat):((eF fs).any λp=>decide (p.1=(i:Int)))=decide (i∈fs):=by
 induction fs with
 | nil=>rfl
 | cons n fs ih =>
  show(decide ((n:Int)=i) || (eF fs).any _)=_;rw[ih,<- Bool.decide_or]
  congr 1
  apply propext;rw[AV];exact⟨λq=>q.imp (λq=>(Wt q)) id,λq=>q.imp (λq=>(Ws q)) id⟩
theorem T9(h:i∉fs):Cn (eF fs) i (.bool true)=eF (fs++[i]):=by
 unfold Cn;rw[Z6,if_neg (by simp[h])]
 unfold eF;rw[BP];rfl
theorem AmW(h:i∈fs):Cn (eF fs) i (.bool true)=eF fs:=by
 unfold Cn;rw[Z6,if_pos (by simp[h])]
 unfold eF;rw[C5];refine Mp λn z => ?_;dsimp only[Function.comp]
 split<;>rfl
theorem HN{N:Nat}(h:fs.Nodup)(b:∀i,i∈fs->i<N):fs.length<=N:=by
 have q:fs.Perm ((As N).filter λi=>decide (i∈fs)):=(VQ h (KS _ AqK)).mpr λi=>by
  rw[Hm,Dx,decide_eq_true_iff];exact⟨λm=>⟨b i m,m⟩,λm=>m.2⟩
 have e:=AcA (λi=>decide (i∈fs)) (As N);rw[<- q.length_eq,BY]at e;exact e
theorem AmX{N:Nat}{p:Nat->Bool}(h:fs.Nodup)(e:∀i,i∈fs↔i<N/\p i=true):EX (fs.map λ(n:Nat)=>(n:Int))=((As N).filter p).map λ(n:Nat)=>(n:Int):=by
 refine(Pl ?_ ?_).symm
 ·refine AqL _ ((VQ (KS _ AqK) h).mpr λi => ?_);rw[Hm,Dx];exact(e i).symm
 ·refine Rr.mpr (List.Pairwise.imp (λ{a b} q => ?_) (KS p Mr));exact IG.mpr (DI q)
theorem AmY(us:List Nat):Ii (us.map Ag)=some (us.map λ(n:Nat)=>(n:Int)):=by
 induction us with
 | nil=>rfl
 | cons u us ih =>
  show(match Ii (us.map Ag)with | some is=>some ((u:Int)::is) | none=>none)=_
  rw[ih];rfl
def wG(k:Nat)(f:Af)(s:AN)(l:An):AH->List Al->Kq Bool->Prop:=(DY (Fo Dz true k) 40).2 (NM f) l (T5 s)
def wB(k n:Nat)(f:Af)(s:AN):An->AH->List Al->(BZ->An->AH->List Al->Prop)->Prop:=Jm Dz (Fo Dz true k) 39 (NM f) n (D4 s)
theorem AmZ(k:Nat)(b:List Ba):VF (k+1) 867 [AX b] (Ak []):=by
 have c:B4 (fB k 39 867 (AR 867 1)) 1 (nm ["body","found"]) (b.map By) [(Ab "body",.fz (AX b)),(Ab "found",.own 0)] [.lst []] [(Ab "body",.fz (AX b)),(Ab "found",.own 0)] [.lst []] :=
  Dm By (λz=>[(Ab "body",.fz (AX b)),(Ab "found",.own 0)]) (λz=>[.lst []]) b b (λys a zs e=>by
   have fin:=f4 (L:=[(Ab "body",.fz (AX b)),(Ab "found",.own 0)]) 1 (Bi [AO.lst []]) (AM 1);rcases a with⟨t,n⟩ | _ | _ | _ | _ | _
   case call=>rcases t with⟨⟩<;>exact⟨[],kc fin (by kernel_rfl)⟩
   all_goals exact⟨[],kc fin (by kernel_rfl)⟩) [] b rfl
 exact Bx [.st [(Ab "body",.fz (AX b)),(Ab "found",.own 0)] [.lst []]] (kc (Ae c (Bi (Ak []))) (by kernel_rfl))
noncomputable abbrev Fu(m:Mod):An:=[(Ab "module",.fz (B6 m)),(Ab "many",.fz (Ag m.ik.length)),(Ab "waiting",.own 0)]
noncomputable abbrev Qv:List Ac:=nm ["module","many","waiting"]
theorem Ej(a b:List Nat):Ai a++Ai b=Ai (a++b):=BP.symm
theorem Cu(a:List Nat):(Ai a).length=a.length:=AJ _
theorem G6(b:List Ba):(Bh b).length<=b.length:=Qt _ _
theorem Am0(k:Nat)(m:Mod)(z:m.Sz)(ws:List Nat)(hs:ws.length<=100):B4 (fB (k+1) 39 860 (AR 860 3)) 1 Qv (m.globs.map BO) (Fu m) [.lst (Ai ws)] (Fu m) [.lst (Ai (ws++DO m.globs))]:=by
 have e0:Ai ws=Ai (ws++DO []):=by rw[show DO []=[]from rfl,Dw]
 rw[e0];exact Dm BO (λq=>Fu m) (λys=>[.lst (Ai (ws++DO ys))]) m.globs m.globs (λys a zs e=>by
  have st:Ai (ws++DO ys)++Ai (Bh a.body)=Ai (ws++DO (ys++[a])):=by unfold DO;rw[G5,Ej,Gd]
  have hl:(Ai (ws++DO ys)).length+(Ai (Bh a.body)).length<=4000:=by
   have h2:(DO ys).length<=2*ys.length:=DF _ 2 ys λg h=>AE (G6 _) (z.gb g (Js e h));have h3:=EH e;have h4:=z.globs;have h5:=z.gb a (Ei e);have h6:=G6 a.body;rw[Cu,Cu,Bl];exact AeA hs h2 h3 h4 h5 h6
  exact⟨[.t (Ak (Ai (Bh a.body))),.b true],kc (Ae (Qu k a.body) (Ae (Ca hl) (f4 (L:=Fu m) 1 (congrArg (λd=>[AO.lst d]) st) (AM 1)))) (by kernel_rfl)⟩) [] m.globs rfl
noncomputable abbrev NU(m:Mod)(e:Ct):An:=[(Ab "module",.fz (B6 m)),(Ab "many",.fz (Ag m.ik.length)),(Ab "waiting",.own 0),(Ab "elem",.fz (Bj e))]
noncomputable abbrev Am1:List Ac:=nm ["module","many","waiting","elem"]
theorem Am2(k:Nat)(m:Mod)(mo:Ct)(bs:List (List Ba))(ws:List Nat)(hs:ws.length<=1000)(h3:bs.length<=3)(h2:∀b,b∈bs->b.length<=2):B4 (fB (k+1) 38 860 (Ef (D4 (AR 860 4)) 0)) 1 Am1 (bs.map AX) (NU m mo) [.lst (Ai ws)] (NU m mo) [.lst (Ai (ws++Fs bs))]:=by
 have e0:Ai ws=Ai (ws++Fs []):=by rw[show Fs []=[]from rfl,Dw]
 rw[e0];exact Dm AX (λz=>NU m mo) (λys=>[.lst (Ai (ws++Fs ys))]) bs bs (λys a zs e=>by
  have st:Ai (ws++Fs ys)++Ai (Bh a)=Ai (ws++Fs (ys++[a])):=by unfold Fs;rw[G5,Ej,Gd]
  have hl:(Ai (ws++Fs ys)).length+(Ai (Bh a)).length<=4000:=by
   have g2:(Fs ys).length<=2*ys.length:=DF _ 2 ys λg h=>AE (G6 _) (h2 g (Js e h));have g3:=EH e;have g5:=h2 a (Ei e);have h6:=G6 a;rw[Cu,Cu,Bl];exact Aez hs h3 g2 g3 g5 h6
  exact⟨[.t (Ak (Ai (Bh a))),.b true],kc (Ae (Qu k a) (Ae (Ca hl) (f4 (L:=NU m mo) 1 (congrArg (λd=>[AO.lst d]) st) (AM 1)))) (by kernel_rfl)⟩) [] bs rfl
theorem Am3(k:Nat)(m:Mod)(z:m.Sz)(ws:List Nat)(hs:ws.length<=100):B4 (fB (k+1) 39 860 (AR 860 4)) 1 Qv (m.elems.map Bj) (Fu m) [.lst (Ai ws)] (Fu m) [.lst (Ai (ws++EJ m.elems))]:=by
 have e0:Ai ws=Ai (ws++EJ []):=by rw[show EJ []=[]from rfl,Dw]
 rw[e0];exact Dm Bj (λx=>Fu m) (λys=>[.lst (Ai (ws++EJ ys))]) m.elems m.elems (λys a zs e=>by
  have st:Ai ((ws++EJ ys)++Fs a.inits)=Ai (ws++EJ (ys++[a])):=by unfold EJ;rw[G5,Gd]
  have hl:(ws++EJ ys).length<=1000:=by
   have h2:(EJ ys).length<=6*ys.length:=DF _ 6 ys λg h=>by
    have q:(Fs g.inits).length<=2*g.inits.length:=DF _ 2 g.inits λb hb=>AE (G6 _) (z.eb g (Js e h) b hb);have q2:=z.ei g (Js e h);exact O5 q q2
   have h3:=EH e;have h4:=z.elems;rw[Bl];exact Aey hs h2 h3 h4
  exact⟨[.st (NU m a) [.lst (Ai ((ws++EJ ys)++Fs a.inits))]],kc (Ae (Am2 k m a a.inits _ hl (z.ei a (Ei e)) (z.eb a (Ei e))) (f4 (L:=Fu m) 1 (congrArg (λd=>[AO.lst d]) st) (AM 1))) (by kernel_rfl)⟩) [] m.elems rfl
noncomputable def lW(m:Mod):Option Nat->An
 | none=>[(Ab "module",.fz (B6 m)),(Ab "many",.fz (Ag m.ik.length)),(Ab "waiting",.own 0),(Ab "found",.own 1)]
 | some i=>[(Ab "module",.fz (B6 m)),(Ab "many",.fz (Ag m.ik.length)),(Ab "waiting",.own 0),(Ab "found",.own 1),(Ab "index",.fz (Ag i))]
noncomputable abbrev sW(ws fs:List Nat):AH:=[.lst (Ai ws),.dct (eF fs)]
theorem t3{C:Type}(a:A)(b:B){c c':C}(h:c=c'):a=a/\b=b/\c=c':=⟨rfl,rfl,h⟩
theorem Am4(k:Nat)(m:Mod)(ix:Option Nat)(fs:List Nat):wG (k+1) 860 (AR 860 6) (lW m ix) (sW [] fs) [] (λq' a2 z=>q'=false/\a2=sW [] fs):=by
 rcases ix with _ | j
 ·exact kc (tr false (sW [] fs)) (by kernel_rfl)
 ·exact kc (tr false (sW [] fs)) (by kernel_rfl)
theorem Ua(k:Nat)(m:Mod)(ix:Option Nat)(ws:List Nat)(i:Nat)(fs:List Nat):wG (k+1) 860 (AR 860 6) (lW m ix) (sW (ws++[i]) fs) [.b true] (λq' a2 z=>q'=true/\a2=sW (ws++[i]) fs):=by
 have e:(Bw 20 (.node .lst (Ai (ws++[i]))) (.node .lst [])).map (!·)=some true:=by
  have q:¬(Ai (ws++[i])).length=([]:List T).length:=by rw[Cu,Bl];exact AqM _
  show(if(Ai (ws++[i])).length=([]:List T).length then _ else some false).map (!·)=some true;rw[if_neg q];rfl
 rcases ix with _ | j
 ·exact kc (Ae e (tr true (sW (ws++[i]) fs))) (by kernel_rfl)
 ·exact kc (Ae e (tr true (sW (ws++[i]) fs))) (by kernel_rfl)
theorem LU(ws:List Nat)(i:Nat):(Ai (ws++[i])).getLast? = some (Ag i):=by rw[<- Ej];exact List.getLast?_concat
theorem Qw(ws:List Nat)(i:Nat):(Ai (ws++[i])).dropLast=Ai ws:=by rw[<- Ej];exact List.dropLast_concat
set_option tactic.hygienic true in
theorem Am5(k:Nat)(m:Mod)(ix:Option Nat)(ws:List Nat)(i:Nat)(fs:List Nat)(h:i∈fs):wB (k+1) 39 860 (AR 860 6) (lW m ix) (sW (ws++[i]) fs) [.t (Ag i),.b false] (λfl l3 a3 z=>fl=.next/\l3=lW m (some i)/\a3=sW ws fs):=by
 have e:(some (Cz (eF fs) i).isSome).map (!·)=some false:=by rw[NT,decide_eq_true h];rfl
 have s:=congrArg (λd=>[AO.lst d,.dct (eF fs)]) (Qw ws i);rcases ix with _ | j
 ·exact kc (Ae (LU ws i) (Ae e (t3 BZ.next (lW m (some i)) s))) (by kernel_rfl)
 ·exact kc (Ae (LU ws i) (Ae e (t3 BZ.next (lW m (some i)) s))) (by kernel_rfl)
set_option tactic.hygienic true in
theorem Am6(k:Nat)(m:Mod)(ix:Option Nat)(ws:List Nat)(i:Nat)(fs:List Nat)(h:i∉fs)(hs:fs.length<=4000)(hi:i<m.ik.length):wB (k+1) 39 860 (AR 860 6) (lW m ix) (sW (ws++[i]) fs) [.t (Ag i),.b true,.b true,.b false] (λfl l3 a3 z=>fl=.next/\l3=lW m (some i)/\a3=sW ws (fs++[i])):=by
 have e:(some (Cz (eF fs) i).isSome).map (!·)=some true:=by rw[NT,decide_eq_false h];rfl
 have g:some (small (eF fs).length)=some true:=Ca (by unfold eF;rwa [AJ])
 have c:some (decide ((m.ik.length:Int)<=(i:Int)))=some false:=congrArg some (decide_eq_false (Aex hi));have s:[AO.lst (Ai (ws++[i])).dropLast,.dct (Cn (eF fs) i (.bool true))]=sW ws (fs++[i]):=by rw[Qw,T9 h]
 rcases ix with _ | j
 ·exact kc (Ae (LU ws i) (Ae e (Ae g (Ae c (t3 BZ.next (lW m (some i)) s))))) (by kernel_rfl)
 ·exact kc (Ae (LU ws i) (Ae e (Ae g (Ae c (t3 BZ.next (lW m (some i)) s))))) (by kernel_rfl)
set_option tactic.hygienic true in
theorem Am7(k:Nat)(m:Mod)(ix:Option Nat)(ws:List Nat)(i:Nat)(fs:List Nat)(f:CW)(h:i∉fs)(hs:fs.length<=4000)(hi:¬i<m.ik.length)(h4:i<=4000)(ef:m.funcs[i-m.ik.length]? = some f)(hl:ws.length+f.body.length<=4000) :
  wB (k+1) 39 860 (AR 860 6) (lW m ix) (sW (ws++[i]) fs) [.t (Ag i),.b true,.b true,.b true,.t (Bn f),.t (Ak (Ai (Bh f.body))),.b true] (λfl l3 a3 z=>fl=.next/\l3=lW m (some i)/\a3=sW (ws++Bh f.body) (fs++[i])):=by
 have e:(some (Cz (eF fs) i).isSome).map (!·)=some true:=by rw[NT,decide_eq_false h];rfl
 have g:some (small (eF fs).length)=some true:=Ca (by unfold eF;rwa [AJ])
 have c:some (decide ((m.ik.length:Int)<=(i:Int)))=some true:=congrArg some (decide_eq_true (Aew hi));have p:E4 (m.funcs.map Bn) ((i:Int)-(m.ik.length:Int))=some (Bn f):=It Bn m.funcs (n:=i-m.ik.length) (Aev hi) (Aeu h4) ef;have x:some (small ((Ai (ws++[i])).dropLast.length+(Ai (Bh f.body)).length))=some true:=Ca (by
  have:=G6 f.body;rw[Qw,Cu,Cu];exact Aet hl this)
 have s:[AO.lst ((Ai (ws++[i])).dropLast++Ai (Bh f.body)),.dct (Cn (eF fs) i (.bool true))]=sW (ws++Bh f.body) (fs++[i]):=by rw[Qw,T9 h,Ej]
 rcases ix with _ | j
 ·exact kc (Ae (LU ws i) (Ae e (Ae g (Ae c (Ae p (Ae (Qu k f.body) (Ae x (t3 BZ.next (lW m (some i)) s)))))))) (by kernel_rfl)
 ·exact kc (Ae (LU ws i) (Ae e (Ae g (Ae c (Ae p (Ae (Qu k f.body) (Ae x (t3 BZ.next (lW m (some i)) s)))))))) (by kernel_rfl)
theorem Mod.Wf.n_le(z:m.Wf):m.N<=7:=by
 unfold Mod.N;exact A' (T' m.ik_len z.imps) z.funcs
theorem Am8{g:An->AH->List Al->Kq Bool->Prop}{B:An->AH->List Al->(BZ->An->AH->List Al->Prop)->Prop}{l:An}{a a1:AH}(as:List Al)(h:g l a as (λq' a2 z=>q'=false/\a2=a1)):Ij g B (n+1) l a l a1:=JL as (JL false (JL a1 (Ae h (Ae rfl rfl))))
set_option tactic.hygienic true in
theorem Ub{g:An->AH->List Al->Kq Bool->Prop}{B:An->AH->List Al->(BZ->An->AH->List Al->Prop)->Prop}{l l2 l':An}{a a1 a2 a':AH}(as as2:List Al)(h:g l a as (λq' a2 z=>q'=true/\a2=a1))(h2:B l a1 as2 (λfl l3 a3 z=>fl=.next/\l3=l2/\a3=a2))(r:Ij g B n l2 a2 l' a'):Ij g B (n+1) l a l' a':=JL as (JL true (JL a1 (Ae h (JL as2 (JL l2 (JL a2 (Ae h2 r)))))))
theorem Am9(k:Nat)(m:Mod)(z:m.Wf):∀(n:Nat) (ix:Option Nat) (ws fs:List Nat),fs.Nodup->(∀i,i∈fs->CI m.nx m.roots i)->(∀i,i∈ws->CI m.nx m.roots i)->(∀i,i∈fs->∀j,j∈m.nx i->j∈fs\/j∈ws)->(∀i,i∈m.roots->i∈fs\/i∈ws) ->
  ws.length+7*(m.N-fs.length)<n->n<=1000->∃ix' fs',Ij (wG (k+1) 860 (AR 860 6)) (wB (k+1) 39 860 (AR 860 6)) n (lW m ix) (sW ws fs) (lW m ix') (sW [] fs')/\fs'.Nodup/\∀i,i∈fs'↔CI m.nx m.roots i:=by
 intro z1
 induction z1 with
 | zero =>
  intro z2 z3 z4 z5 z6 z7 z8 z9 hn z10;exact absurd hn (OB _)
 | succ n ih =>
  intro ix ws fs nd hf hw cl rt hn hb;rcases ws.eq_nil_or_concat with rfl | ⟨ws0,i,ew⟩
  ·exact⟨ix,fs,Am8 _ (Am4 k m ix fs),nd,AmV (λi h=>(rt i h).elim id λh=>nomatch h) (λi h j q=>(cl i h j q).elim id λh=>nomatch h) hf⟩
  ·rw[List.concat_eq_append]at ew;subst ew
   generalize ws0=ws at *
   rw[Bl,BN,DU]at hn;have hN:=z.n_le;have hl:=HN nd (N:=m.N) λi h=>z.reach_lt (hf i h);have ri:CI m.nx m.roots i:=hw i (CC _ Dq);have hi:=z.reach_lt ri;have hw':∀j,j∈ws->CI m.nx m.roots j:=λj h=>hw j (Cg _ h)
   by_cases q:i∈fs
   ·have sub:∀j,j∈fs\/j∈ws++[i]->j∈fs\/j∈ws:=λj h=>h.elim .inl λh=>(BM.mp h).elim .inr λh=>.inl (Cx.mp h▸q);refine Bg (ih (some i) ws fs nd hf hw' (λa h j p=>sub j (cl a h j p)) (λa h=>sub a (rt a h)) (AeO hn) (RL hb)) ?_;rintro ix' fs' h1 h2;exact⟨ix',fs',Ub _ _ (Ua k m ix ws i fs) (Am5 k m ix ws i fs q) h1,h2⟩
   ·have nd':(fs++[i]).Nodup:=F7.mpr ⟨nd,Dv.mpr ⟨(λh=>nomatch h),Ho⟩,λa ha b hb=>by rintro rfl;exact q (Cx.mp hb▸ha)⟩
    have hf':∀j,j∈fs++[i]->CI m.nx m.roots j:=λj h=>(BM.mp h).elim (hf j) λh=>Cx.mp h▸ri;have hl':=HN nd' (N:=m.N) λi h=>z.reach_lt (hf' i h);rw[Bl,BN,DU]at hl';have mv:∀(us:List Nat) (j:Nat),j∈fs\/j∈ws++[i]->j∈fs++[i]\/j∈ws++us:=λus j h=>h.elim (λh=>.inl (Cg _ h)) λh=>(BM.mp h).elim (λh=>.inr (Cg _ h)) λh=>.inl (CC _ h)
    by_cases c:i<m.ik.length
    ·have e:m.nx i=[]:=if_pos c;have mv0:∀(j:Nat),j∈fs\/j∈ws++[i]->j∈fs++[i]\/j∈ws:=λj h=>(mv [] j h).imp id λh=>by rwa [Dw]at h
     refine Bg (ih (some i) ws (fs++[i]) nd' hf' hw' (λa h j p=>(BM.mp h).elim (λh=>mv0 j (cl a h j p)) λh=>by
      rw[Cx.mp h,e]at p;rcases p with⟨⟩) (λa h=>mv0 a (rt a h)) (by rw[Bl,BN,DU];exact AeN hn) (RL hb)) ?_;rintro ix' fs' h1 h2
     exact⟨ix',fs',Ub _ _ (Ua k m ix ws i fs) (Am6 k m ix ws i fs q (WB hN hl') c) h1,h2⟩
    ·have lt:i-m.ik.length<m.funcs.length:=by unfold Mod.N at hi;exact AeM hi c
     have ef:m.funcs[i-m.ik.length]? = some m.funcs[i-m.ik.length]:=Ci lt
     generalize m.funcs[i-m.ik.length]=f at ef
     have e:m.nx i=Bh f.body:=by unfold Mod.nx;rw[if_neg c,ef]
     have b7:f.body.length<=7:=z.fb f (Gg ef);have b8:=G6 f.body;refine Bg (ih (some i) (ws++Bh f.body) (fs++[i]) nd' hf' (λj h=>(BM.mp h).elim (hw' j) λh=>.step ri (e▸h))
      (λa h j p=>(BM.mp h).elim (λh=>mv _ j (cl a h j p)) λh=>by
       rw[Cx.mp h,e]at p;exact .inr (CC _ p)) (λa h=>mv _ a (rt a h)) (by rw[Bl,Bl,BN,DU];exact AeL hn hl' b7 b8) (RL hb)) ?_;rintro ix' fs' h1 h2
     exact⟨ix',fs',Ub _ _ (Ua k m ix ws i fs) (Am7 k m ix ws i fs f q (WB hN hl') c (AeK hN hi) ef (AeJ hb hn b7)) h1,h2⟩
theorem Ana(xs:List CG):xs.filterMap (λx=>match x with | .f _ i=>some (Ag i) | .m _=>none)=Ai (AY xs):=by
 induction xs with
 | nil=>rfl
 | cons x xs ih =>
  rcases x with⟨s,i⟩ | s
  ·exact congrArg (Ag i::·) ih
  ·exact ih
theorem Anb(z:m.Wf){fs:List Nat}(nd:fs.Nodup)(h:∀i,i∈fs↔CI m.nx m.roots i):(match Ii ((eF fs).map λp=>T.int p.1)with
  | some is=>if is.length<64 then some ((EX is).map T.int)else none
  | none=>none)=some (Ai m.used):=by
 have e:(eF fs).map (λp=>T.int p.1)=fs.map Ag:=by unfold eF;rw[C5];rfl
 have hl:=HN nd (N:=m.N) λi q=>z.reach_lt ((h i).mp q);have hN:=z.n_le;rw[e,AmY];dsimp only;rw[AJ,if_pos (AeI hl hN),AmX (N:=m.N) (p:=λi=>@decide (CI m.nx m.roots i) (OW _)) nd λi=>⟨λq=>⟨z.reach_lt ((h i).mp q),@decide_eq_true _ (OW _) ((h i).mp q)⟩,λq=>(h i).mpr (@of_decide_eq_true _ (OW _) q.2)⟩];unfold Ai Mod.used;rw[C5];rfl
theorem Z7{o:Option Nat}{R:Prop}{G:Nat->Prop}(hR:R)(hG:∀s,o=some s->G s):(match (generalizing:=false) o with
  | none=>R
  | some s=>G s/\R):=by
 rcases o with _ | s
 ·exact hR
 ·exact⟨hG s rfl,hR⟩
theorem Uc(k:Nat)(m:Mod)(z:m.Wf):VF (k+3) 860 [B6 m] (Ak (Ai m.used)):=by
 have hM:m.ik.length<=3:=AE m.ik_len z.imps;have hE:(AY m.exps).length<=3:=T' (LS m.exps) (T' (M' 1 z.exps) (D' rfl));have e0:Ai (As m.ik.length)++Ai (AY m.exps)=Ai (As m.ik.length++AY m.exps):=Ej _ _;have g0:some (small ((Ai (As m.ik.length)).length+(Ai (AY m.exps)).length))=some true:=Ca (by rw[Cu,Cu,BY];exact AeH hM hE)
 have cE:CB (cB (k+2) 38 860 [] [] (DN (B5 (AR 860 1)) 1)) (m.exps.map Cp) (Ai (AY m.exps)):=by
  rw[<- Ana];exact Io Cp (λx=>match x with | .f _ i=>some (Ag i) | .m _=>none) m.exps λa y=>by
   rcases a with⟨x,i⟩ | x
   ·exact⟨[],kc (tr ([]:AH) (some (Ag i))) (by kernel_rfl)⟩
   ·exact⟨[],kc (tr ([]:AH) (none:Option T)) (by kernel_rfl)⟩
 have rest:∀(st:List Nat) (ts:List T),m.start.toList=st->ts=Ai (As m.ik.length++AY m.exps++st)->∃ix fs,B4 (fB (k+2) 39 860 (AR 860 3)) 1 Qv (m.globs.map BO) (Fu m) [.lst ts] (Fu m) [.lst (Ai (As m.ik.length++AY m.exps++st++DO m.globs))] /\
   B4 (fB (k+2) 39 860 (AR 860 4)) 1 Qv (m.elems.map Bj) (Fu m) [.lst (Ai (As m.ik.length++AY m.exps++st++DO m.globs))] (Fu m) [.lst (Ai m.roots)] /\
   Ij (wG (k+2) 860 (AR 860 6)) (wB (k+2) 39 860 (AR 860 6)) 1000 (lW m none) (sW m.roots []) (lW m ix) (sW [] fs)/\some (small (eF fs).length)=some true/\(match Ii ((eF fs).map λp=>T.int p.1)with
    | some is=>if is.length<64 then some ((EX is).map T.int)else none
    | none=>none)=some (Ai m.used):=λst ts hst ets=>by
  subst ets;have hS:st.length<=1:=by rw[<- hst];rcases m.start with⟨⟩<;>simp
  have hG:(DO m.globs).length<=2*m.globs.length:=DF _ 2 _ λg h=>AE (G6 _) (z.gb g h);have hG2:=z.globs;have hEl:(EJ m.elems).length<=6*m.elems.length:=DF _ 6 _ λg h=>by
   have q:(Fs g.inits).length<=2*g.inits.length:=DF _ 2 g.inits λb hb=>AE (G6 _) (z.eb g h b hb);have q2:=z.ei g h;exact O5 q q2
  have hEl2:=z.elems;have hN:=z.n_le;have er:As m.ik.length++AY m.exps++st++DO m.globs++EJ m.elems=m.roots:=by unfold Mod.roots;rw[hst]
  have hr:m.roots.length<=100:=by rw[<- er];simp only[Bl,BY];exact AeG hM hE hS hG hG2 hEl hEl2
  refine Br (Am9 (k+1) m z 1000 none m.roots [] Ho (λy h=>nomatch h) (λi h=>.root h) (λy h=>nomatch h) (λi h=>.inr h) (by rw[DU];exact AeF hN hr) (AM _)) ?_;rintro ix fs h1 h2 h3
  refine⟨ix,fs,Am0 (k+1) m z.toSz _ (by simp only[Bl,BY];exact AeE hM hE hS),?_,h1,?_,Anb z h2 h3⟩
  ·have:=Am3 (k+1) m z.toSz (As m.ik.length++AY m.exps++st++DO m.globs) (by simp only[Bl,BY];exact AeD hM hE hS hG hG2)
   rw[er]at this;exact this
  ·exact Ca (by
    have:=HN h2 (N:=m.N) λi q=>z.reach_lt ((h3 i).mp q);unfold eF;rw[AJ];exact AeC hN this)
 refine JM (rest m.start.toList (match m.start with
  | none=>Ai (As m.ik.length)++Ai (AY m.exps)
  | some s=>Ai (As m.ik.length)++Ai (AY m.exps)++[Ag s]) rfl (by
   rcases m.start with _ | s
   ·show Ai (As m.ik.length)++Ai (AY m.exps)=Ai (As m.ik.length++AY m.exps++[]);rw[Dw,Ej]
   ·show Ai (As m.ik.length)++Ai (AY m.exps)++[Ag s]=Ai (As m.ik.length++AY m.exps++[s]);rw[Ej,show[Ag s]=Ai [s]from rfl,Ej])) ?_;rintro ix fs h1 h2 h3 h4 h5
 have hr:=Ku (n:=m.ik.length) (RJ hM);have v:=Z0 k m;have g1:some (small ((Ai (As m.ik.length)++Ai (AY m.exps)).length+1))=some true:=Ca (by rw[Bl,Cu,Cu,BY];exact AeB hM hE)
 have tl:=Z7 (o:=m.start) (G:=λy=>some (small ((Ai (As m.ik.length)++Ai (AY m.exps)).length+1))=some true) (Ae h1 (Ae h2 (Ae h3 (Ae h4 (Ae h5 (Bi (Ak (Ai m.used)))))))) λy y=>g1;refine Bx (k:=k+2) (f:=860) (ts:=[B6 m]) (r:=Ak (Ai m.used)) ([.t (Ag m.ik.length),.l (Ai (As m.ik.length)),.l (Ai (AY m.exps)),.b true]++(match m.start with
  | none=>[]
  | some _=>[.a,.b true])++[.st (Fu m) [.lst (Ai (As m.ik.length++AY m.exps++m.start.toList++DO m.globs))],.st (Fu m) [.lst (Ai m.roots)],.st (lW m ix) (sW [] fs),.b true,.l (Ai m.used)]) (kc (Ae v (Ae hr (Ae cE (Ae g0 tl)))) ?_)
 clear tl h1 h2 h3 h4 h5 g1 rest v hr cE g0 e0 hE hM z;rcases m with⟨ki,im,fu,gl,ex,start,el⟩
 rcases start with _ | s
 ·rcases ix with _ | i
  ·kernel_rfl
  ·kernel_rfl
 ·rcases ix with _ | i
  ·kernel_rfl
  ·kernel_rfl
theorem NV:∀{a b:List Nat},a.Pairwise (· < ·)->b.Pairwise (· < ·)->(∀i,i∈a↔i∈b)->a=b:=by
 intro z1
 induction z1 with
 | nil =>
  intro z2;rcases z2 with _ | ⟨y,ys⟩
  ·intro z3 z4 z5;exact rfl
  ·intro z6 z7 h;exact nomatch (h y).mpr Dq
 | cons x xs ih =>
  intro z8;rcases z8 with _ | ⟨y,ys⟩
  ·intro z9 z10 h;exact nomatch (h x).mp Dq
  ·intro ha hb h;have ha':=IJ.mp ha;have hb':=IJ.mp hb;have e:x=y:=by
    rcases AV.mp ((h x).mp Dq)with e | m
    ·exact e
    ·rcases AV.mp ((h y).mpr Dq)with e | n
     ·exact e.symm
     ·exact absurd (ha'.1 y n) (DJ.mpr (DI (hb'.1 x m)))
   subst e;refine congrArg (x::·) (ih ha'.2 hb'.2 λi=>⟨λm => ?_,λm => ?_⟩)
   ·exact(AV.mp ((h i).mp (Ga _ m))).elim (λe=>absurd (ha'.1 i m) (e▸BX _)) id
   ·exact(AV.mp ((h i).mpr (Ga _ m))).elim (λe=>absurd (hb'.1 i m) (e▸BX _)) id
theorem HO{a:List Nat}(h:a.Pairwise (· < ·)):a.Nodup:=h.imp λ{a b} q=>Cb q
noncomputable def Jt(N:Nat)(l:List Nat):List Nat:=(As N).filter λi=>decide (i∈l)
theorem Ud{N:Nat}{l:List Nat}(h:∀i,i∈l->i<N){i:Nat}:i∈Jt N l↔i∈l:=by
 unfold Jt;rw[Hm,Dx,decide_eq_true_iff];exact⟨λq=>q.2,λq=>⟨h i q,q⟩⟩
theorem Iu(N:Nat)(l:List Nat):(Jt N l).Pairwise (· < ·):=KS _ Mr
theorem Z8(v:Nat):∀(l:List Nat) (i:Nat),i∈C2 v l↔i=v\/i∈l:=by
 intro z1
 induction z1 with
 | nil =>
  intro i;exact AV
 | cons x r ih =>
  intro i;rw[Pq]
  split
  ·exact AV
  ·rw[AV,ih i,AV];exact⟨λh=>h.elim (λh=>.inr (.inl h)) λh=>h.elim .inl λh=>.inr (.inr h),λh=>h.elim (λh=>.inr (.inl h)) λh=>h.elim .inl λh=>.inr (.inr h)⟩
set_option tactic.hygienic true in
theorem Anc(v:Nat):∀(l:List Nat),l.Pairwise (· < ·)->v∉l->(C2 v l).Pairwise (· < ·):=by
 intro z1
 induction z1 with
 | nil =>
  intro z2 z3;exact IJ.mpr ⟨(λz h=>nomatch h),.nil⟩
 | cons x r ih =>
  intro h hv;rw[Pq];have h':=IJ.mp h;have hx:v≠x:=λe=>hv (e▸Dq)
  split
  ·rename_i q;have q':v<x:=Nat.lt_of_le_of_ne q hx;exact IJ.mpr ⟨λi m=>(AV.mp m).elim (λe=>e▸q') λm=>Mm q' (h'.1 i m),h⟩
  ·rename_i q;exact IJ.mpr ⟨λi m=>((Z8 v r i).mp m).elim (λe=>e▸Nat.not_le.mp q) (h'.1 i),ih h'.2 λm=>hv (Ga _ m)⟩
set_option tactic.hygienic true in
theorem Ane(f:Nat->Nat):∀n,(Gm f n).Pairwise (· < ·)/\∀i,i∈Gm f n↔∃j,j<n/\f j=i:=by
 intro z1
 induction z1 with
 | zero =>
  exact⟨.nil,λi=>⟨(λh=>nomatch h),λ⟨j,h,_⟩=>absurd h (OB _)⟩⟩
 | succ n ih =>
  refine Au ih ?_;clear ih;rintro h1 h2;have e:Gm f (n+1)=Gl (f n) (Gm f n):=rfl;rw[e];unfold Gl;have key:∀i,(i=f n\/i∈Gm f n)↔∃j,j<n+1/\f j=i:=λi=>by
   rw[h2 i];exact⟨λh=>h.elim (λh=>⟨n,JI _,h.symm⟩) λ⟨j,h,e⟩=>⟨j,OK h,e⟩,λ⟨j,h,e⟩=>(Nat.lt_succ_iff_lt_or_eq.mp h).elim (λh=>.inr ⟨j,h,e⟩) λh=>.inl (h▸e.symm)⟩
  split
  ·rename_i c;refine⟨h1,λi => ?_⟩;rw[<- key i];exact⟨.inr,λh=>h.elim (λe=>e▸Vn.mp c) id⟩
  ·rename_i c;refine⟨Anc _ _ h1 λm=>c (Vn.mpr m),λi => ?_⟩;rw[Z8];exact key i
theorem Z9{N:Nat}{l:List Nat}(h:∀i,i∈l->i<N):HC l=Jt N l:=by
 refine Au (Ane (λi=>l.getD i 0) l.length) ?_;rintro h1 h2;refine NV h1 (Iu N l) λi => ?_;rw[Ud h];refine(h2 i).trans ⟨λ⟨j,hj,e⟩ => ?_,λm => ?_⟩
 ·rw[ET,Ci hj]at e;exact e▸Rt hj
 ·rcases AcB m with⟨j,hj,e⟩
  exact⟨j,hj,by rw[ET,Ci hj];exact e⟩
theorem Aaa:∀{l:List Nat},(∀i,i∈l->i<7)->FW (Ai l)=some l:=by
 intro z1
 induction z1 with
 | nil =>
  intro z2;exact rfl
 | cons x l ih =>
  intro h;have hx:=h x Dq;show(if 0<=(x:Int)/\(x:Int)<7 then(match FW (Ai l)with | some l=>some ((x:Int).toNat::l) | none=>none)else none)=_
  rw[if_pos ⟨Aa6 x,(AeR hx)⟩,ih λi m=>h i (Ga _ m)];rfl
theorem Anf{N:Nat}{l:List Nat}(h:∀i,i∈l->i<N)(hN:N<=7):(match FW (Ai l)with
  | some l=>some ((HC l).map λ(n:Nat)=>T.int (n:Int))
  | none=>none)=some (Ai (Jt N l)):=by
 rw[Aaa λi m=>Fb (h i m) hN];dsimp only;rw[Z9 h]
theorem Aab:∀(ps es:List (Int×T)),((es++ps).map (·.1)).Nodup->ps.foldl (λes p=>Cn es p.1 p.2) es=es++ps:=by
 intro z1
 induction z1 with
 | nil =>
  intro es z2;exact(Dw _).symm
 | cons p ps ih =>
  intro es h;have q:(es.any λr=>decide (r.1=p.1))=false:=by
   rw[AqN];intro r hr e;rw[BP]at h;exact(F7.mp h).2.2 r.1 (Du hr) p.1 Dq (of_decide_eq_true e)
  have e:Cn es p.1 p.2=es++[p]:=by
   unfold Cn;rw[q];exact if_neg (λh=>nomatch h)
  show ps.foldl _ (Cn es p.1 p.2)=_;rw[e,ih (es++[p]) (by rw[Gd];exact h),Gd]
  rfl
theorem Ang:∀(us:List Nat) (k:Nat),Fn ((us.zipIdx k).map λp=>Az [Ag p.1,Ag p.2])=some ((us.zipIdx k).map λp=>((p.1:Int),Ag p.2)):=by
 intro z1
 induction z1 with
 | nil =>
  intro z2;exact rfl
 | cons u us ih =>
  intro k;show(match Fn ((us.zipIdx (k+1)).map λp=>Az [Ag p.1,Ag p.2])with | some ps=>some (((u:Int),Ag k)::ps) | none=>none)=_
  rw[ih (k+1)];rfl
noncomputable def Fv(us:List Nat):List (Int×T):=us.zipIdx.map λp=>((p.1:Int),Ag p.2)
theorem Anh(us:List Nat):(Fv us).map (·.1)=us.map λ(n:Nat)=>(n:Int):=by
 have:∀(us:List Nat) (k:Nat),((us.zipIdx k).map λp=>((p.1:Int),Ag p.2)).map (·.1)=us.map λ(n:Nat)=>(n:Int):=λus=>by
  induction us with
  | nil=>exact λz=>rfl
  | cons u us ih=>exact λk=>congrArg ((u:Int)::·) (ih (k+1))
 exact this us 0
theorem Aac(h:us.Nodup):(us.map λ(n:Nat)=>(n:Int)).Nodup:=Rr.mpr (h.imp λ{a b} q e=>q (UX e))
theorem Ani(h:us.Nodup)(hl:us.length<=1000):(match Fn (us.zipIdx.map λp=>Az [Ag p.1,Ag p.2])with
  | some ps=>if ps.length<=1000 then some (ps.foldl (λes p=>Cn es p.1 p.2) [])else none
  | none=>none)=some (Fv us):=by
 rw[Ang];dsimp only;rw[AJ,AqF,if_pos hl];refine congrArg some ((Aab _ [] ?_).trans rfl);rw[AqO];show((Fv us).map (·.1)).Nodup;rw[Anh];exact Aac h
theorem Anj(h:n∈us):Cz (Fv us) n=some (Ag (us.idxOf n)):=by
 have:∀(us:List Nat) (k:Nat),n∈us->Cz ((us.zipIdx k).map λp=>((p.1:Int),Ag p.2)) n=some (Ag (k+us.idxOf n)):=λus=>by
  induction us with
  | nil=>exact λz h=>nomatch h
  | cons u us ih =>
   intro k h;show(if(u:Int)=n then some (Ag k)else Cz ((us.zipIdx (k+1)).map λp=>((p.1:Int),Ag p.2)) n)=_
   by_cases e:u=n
   ·subst e;rw[if_pos rfl,List.idxOf_cons_self];rfl
   ·rw[if_neg (RK e),ih (k+1) ((AV.mp h).elim (λq=>absurd q.symm e) id),AcC,beq_eq_false_iff_ne.mpr e];dsimp only[cond];rw[show k+1+us.idxOf n=k+(us.idxOf n+1)from AeQ]
 have q:=this us 0 h
 rwa [KC]at q
theorem Iv(m:Mod):m.used.Pairwise (· < ·):=KS _ Mr
noncomputable def Mod.own(m:Mod):List Nat:=m.used.filter λi=>decide (m.ik.length<=i)
theorem Mod.Wf.used_app(z:m.Wf):m.used=As m.ik.length++m.own:=by
 refine NV (Iv m) (List.pairwise_append.mpr ⟨Mr,KS _ (Iv m),λa ha b hb => ?_⟩) λi => ?_
 ·exact Fb (Dx.mp ha) (of_decide_eq_true (Hm.mp hb).2)
 ·rw[BM,Dx];unfold Mod.own;rw[Hm,decide_eq_true_iff];refine⟨λh=>(Aa8 i m.ik.length).imp id λq=>⟨h,q⟩,λh=>h.elim (λq=>(Ft z).mpr (.root ?_)) λq=>q.1⟩;unfold Mod.roots;exact Cg _ (Cg _ (Cg _ (Cg _ (Dx.mpr q))))
theorem Mod.Wf.used_drop(z:m.Wf):m.used.drop m.ik.length=m.own:=by
 rw[z.used_app,List.drop_left' BY]
theorem Aad(h:n<=us.length):Nt (Ai us) (some (n:Int)) none=Ai (us.drop n):=by
 have e:Ow (some (n:Int)) (Ai us).length=n:=by
  show(if(n:Int)<0 then(Ai us).length-(-(n:Int)).toNat else min (n:Int).toNat (Ai us).length)=n;rw[if_neg (WA),Cu];exact Nat.min_eq_left h
 unfold Nt;rw[e];show((Ai us).drop n).take ((Ai us).length-n)=_;rw[Vp (by rw[QZ];exact AM _)]
 exact AbH.symm
theorem Mod.Wf.len_used(z:m.Wf):m.ik.length<=m.used.length:=by
 rw[z.used_app,Bl,BY];exact AeP
theorem Mod.Wf.used_le(z:m.Wf):m.used.length<=7:=AE (HN (HO (Iv m)) λi h=>z.reach_lt ((Ft z).mp h)) z.n_le
noncomputable def Mod.fn(m:Mod)(i:Nat):CW:=m.funcs.getD (i-m.ik.length) ⟨0,[]⟩
noncomputable def Mod.kf(m:Mod):List CW:=m.own.map m.fn
noncomputable def Mod.ku(m:Mod):List Nat:=m.iks++m.kf.map (·.kind)
noncomputable def Mod.S(m:Mod):List Nat:=Jt m.kinds.length m.ku
noncomputable def D6(kinds:List Bool)(rows:List Bool)(i:Nat):List Bool:=if kinds.getD i false∈rows then rows else rows++[kinds.getD i false]
noncomputable def Cv(kinds:List Bool)(S:List Nat):List Bool:=S.foldl (D6 kinds) []
noncomputable def Mod.rows(m:Mod):List Bool:=Cv m.kinds m.S
noncomputable def Fw(kinds rows:List Bool)(ys:List Nat):List (Int×T):=ys.map λ(i:Nat)=>((i:Int),Ag (rows.idxOf (kinds.getD i false)))
noncomputable def G7(m:Mod):T:=.node (.ins 908 (nm ["many","kept","funcs","kinds","rows"])) [Ag m.ik.length,Ak (Ai m.used),DG (Fv m.used),DG (Fw m.kinds m.rows m.S),Ak (m.rows.map Be)]
theorem HP(z:m.Wf){i:Nat}(h:i∈m.own):m.funcs[i-m.ik.length]? = some (m.fn i)/\m.ik.length<=i/\i<m.N:=by
 have h1:=Hm.mp h;have h2:=of_decide_eq_true h1.2;have h3:=z.reach_lt ((Ft z).mp h1.1);have h4:i-m.ik.length<m.funcs.length:=by unfold Mod.N at h3;exact AeZ h2 h3
 refine⟨?_,h2,h3⟩;unfold Mod.fn;rw[ET,Ci h4];rfl
theorem NW(z:m.Wf)(i:Nat)(h:i∈m.ku):i<m.kinds.length:=by
 rcases BM.mp h with h | h
 ·exact z.kim i h
 ·refine Ah (BH.mp h) ?_;rintro f hf rfl;refine Ah (BH.mp hf) ?_;rintro j hj rfl;exact z.kfn _ (Gg (HP z hj).1)
theorem Iw(z:m.Wf){i:Nat}:i∈m.S↔i∈m.ku:=Ud (NW z)
theorem Aae(a b:Bool)(n:Nat):Bw (n+4) (Be a) (Be b)=some (a == b):=by rcases a with⟨⟩<;>rcases b with⟨⟩<;>rfl
theorem Ue(b:Bool):∀rows:List Bool,Ed (Bw 20) (Be b) (rows.map Be)=some (decide (b∈rows)):=by
 intro z1
 induction z1 with
 | nil =>
  exact rfl
 | cons a rows ih =>
  show(match Bw 20 (Be a) (Be b),Ed (Bw 20) (Be b) (rows.map Be)with | some a,some b=>some (a || b) | _,_=>none)=_
  rw[Aae a b 16,ih];dsimp only
  congr 1
  rcases a with⟨⟩<;>rcases b with⟨⟩<;>simp
theorem Ank(b:Bool):∀rows:List Bool,HL (Bw 20) (Be b) (rows.map Be)=rows.idxOf b:=by
 intro z1
 induction z1 with
 | nil =>
  exact rfl
 | cons a rows ih =>
  show(if Bw 20 (Be a) (Be b)=some true then 0 else HL (Bw 20) (Be b) (rows.map Be)+1)=_;rw[Aae a b 16,ih,AcC];rcases a with⟨⟩<;>rcases b with⟨⟩<;>rfl
theorem Aaf{rows:List Bool}(h:b∈rows):Kh (rows.map Be) (Be b)=some (Ag (rows.idxOf b)):=by
 unfold Kh;rw[Ue,Ank,if_pos (by rw[decide_eq_true h])]
theorem Anl{kinds rows:List Bool}(h:b∈rows):b∈D6 kinds rows i/\(D6 kinds rows i).idxOf b=rows.idxOf b:=by
 unfold D6
 split
 ·exact⟨h,rfl⟩
 ·refine⟨Cg _ h,?_⟩;rw[AcD,if_pos h]
theorem Qx(kinds:List Bool)(S:List Nat)(i:Nat):Cv kinds (S++[i])=D6 kinds (Cv kinds S) i:=ON
set_option tactic.hygienic true in
theorem Ug(kinds:List Bool):∀(S:List Nat) (rows:List Bool) (b:Bool),b∈S.foldl (D6 kinds) rows↔b∈rows\/∃i,i∈S/\kinds.getD i false=b:=by
 intro z1
 induction z1 with
 | nil =>
  intro rows b;exact⟨.inl,λh=>h.elim id λ⟨_,h,_⟩=>nomatch h⟩
 | cons x S ih =>
  intro rows b;refine(ih (D6 kinds rows x) b).trans ?_;have e:b∈D6 kinds rows x↔b∈rows\/kinds.getD x false=b:=by
   unfold D6
   split
   ·rename_i q;exact⟨.inl,λh=>h.elim id λe=>e▸q⟩
   ·rw[BM,Cx];exact or_congr Iff.rfl eq_comm
  rw[e];exact⟨λh=>h.elim (λh=>h.imp id λh=>⟨x,Dq,h⟩) λ⟨i,h,e⟩=>.inr ⟨i,Ga _ h,e⟩,λh=>h.elim (λh=>.inl (.inl h)) λ⟨i,h,e⟩=>(AV.mp h).elim (λq=>.inl (.inr (q▸e))) λh=>.inr ⟨i,h,e⟩⟩
theorem Anm(h:i∈m.S):m.kinds.getD i false∈m.rows:=(Ug _ _ _ _).mpr (.inr ⟨i,h,rfl⟩)
theorem Ann{kinds:List Bool}(h:i∉ys):Cn (Fw kinds (Cv kinds ys) ys) i (Ag ((Cv kinds (ys++[i])).idxOf (kinds.getD i false)))=Fw kinds (Cv kinds (ys++[i])) (ys++[i]):=by
 have q:((Fw kinds (Cv kinds ys) ys).any λp=>decide (p.1=(i:Int)))=false:=by
  rw[AqN];intro p hp e;refine Ah (BH.mp hp) ?_;rintro j hj rfl;exact h (UX (of_decide_eq_true e)▸hj)
 unfold Cn;rw[q,if_neg (λh=>nomatch h)]
 unfold Fw;rw[BP]
 congr 1
 refine Mp λj hj => ?_;rw[Qx];exact congrArg (λ(x:Nat)=>((j:Int),Ag x)) (Anl (kinds:=kinds) (rows:=Cv kinds ys) (i:=i) ((Ug kinds ys [] (kinds.getD j false)).mpr (.inr ⟨j,hj,rfl⟩))).2.symm
theorem Aag(kinds:List Bool):∀(S:List Nat) (rows:List Bool),(S.foldl (D6 kinds) rows).length<=rows.length+S.length:=by
 intro z1
 induction z1 with
 | nil =>
  intro z2;exact AM _
 | cons x S ih =>
  intro rows;exact AE (ih (D6 kinds rows x)) (by
    have:(D6 kinds rows x).length<=rows.length+1:=by
     unfold D6
     split
     ·exact Wz
     ·rw[Bl];exact AM _
    rw[BN];exact Wy this)
noncomputable abbrev G8(m:Mod):An:=[(Ab "self",.own 0),(Ab "module",.fz (B6 m)),(Ab "used",.own 2)]
noncomputable abbrev Aah:List Ac:=nm ["self","module","used"]
noncomputable abbrev LV(m:Mod):List (Ac×W):=[(Ab "many",.fz (Ag m.ik.length)),(Ab "kept",.fz (Ak (Ai m.used))),(Ab "funcs",.own 1)]
noncomputable abbrev HQ(m:Mod)(ks:List Nat):AH:=[.ins 908 (LV m),.dct (Fv m.used),.lst (Ai ks)]
theorem Ano(z:m.Wf):m.ku.length<=10:=by
 unfold Mod.ku Mod.kf;rw[Bl,AJ,AJ];have h1:=AcA (λi=>decide (m.ik.length<=i)) m.used;have h2:=z.used_le;have h3:=Qt Dn.k m.imports;have h4:=z.imps;have h5:m.own.length<=m.used.length:=h1;have h6:m.iks.length<=m.imports.length:=h3;exact AeY h2 h4 h5 h6
theorem Anp(k:Nat)(m:Mod)(z:m.Wf):B4 (fB (k+3) 39 879 (AR 879 4)) 3 Aah (m.own.map Ag) (G8 m) (HQ m m.iks) (G8 m) (HQ m m.ku):=by
 have e0:HQ m m.iks=HQ m (m.iks++(([]:List Nat).map m.fn).map (·.kind)):=by rw[List.map_nil,List.map_nil,Dw]
 rw[e0];exact Dm Ag (λq=>G8 m) (λys=>HQ m (m.iks++(ys.map m.fn).map (·.kind))) m.own m.own (λys i zs e=>by
  refine C6 (HP z (Ei e)) ?_;rintro h1 h2 h3;have hN:=z.n_le;have p:E4 (m.funcs.map Bn) ((i:Int)-(m.ik.length:Int))=some (Bn (m.fn i)):=It Bn m.funcs (n:=i-m.ik.length) (RE h2) (Wo h3 hN) h1;have hl:(m.iks++(ys.map m.fn).map (·.kind)).length<=100:=by
   have g:=congrArg IH e;have g2:=Ano z;unfold Mod.ku Mod.kf at g2;rw[Bl,BN]at g;rw[Bl,AJ,AJ]at g2 ⊢;exact AeX g g2
  have g1:some (small ((Ai (m.iks++(ys.map m.fn).map (·.kind))).length+1))=some true:=Ca (by rw[Cu];exact K3 hl)
  have g2:some (small ((Ai (m.iks++(ys.map m.fn).map (·.kind))++[Ag (m.fn i).kind]).length+([]:List T).length))=some true:=Ca (by rw[Bl,Cu];simp only[BN,DU];exact AeW hl)
  have st:HQ m (m.iks++((ys++[i]).map m.fn).map (·.kind))=[.ins 908 (LV m),.dct (Fv m.used),.lst (Ai (m.iks++(ys.map m.fn).map (·.kind))++[Ag (m.fn i).kind]++[])]:=by
   have e1:m.iks++((ys++[i]).map m.fn).map (·.kind)=(m.iks++(ys.map m.fn).map (·.kind))++[(m.fn i).kind]:=by rw[BP,BP,Gd];rfl
   rw[Dw,e1];exact congrArg (λd=>[AO.ins 908 (LV m),.dct (Fv m.used),.lst d]) (Ej _ [(m.fn i).kind]).symm
  exact⟨[.t (Bn (m.fn i)),.b true,.t (Ak []),.b true],kc (Ae p (Ae g1 (Ae (AmZ (k+2) (m.fn i).body) (Ae g2 (f4 (L:=G8 m) 3 st.symm (AM 3)))))) (by kernel_rfl)⟩) [] m.own rfl
noncomputable abbrev Ju(m:Mod)(ys:List Nat):AH:=[.ins 908 (LV m++[(Ab "kinds",.own 3),(Ab "rows",.own 4)]),.dct (Fv m.used),.lst (Ai m.ku),.dct (Fw m.kinds (Cv m.kinds ys) ys),.lst ((Cv m.kinds ys).map Be)]
theorem Anq(k:Nat)(m:Mod)(z:m.Wf):B4 (fB (k+3) 39 879 (AR 879 6)) 5 Aah (m.S.map Ag) (G8 m) (Ju m []) (G8 m) (Ju m m.S) :=
 Dm Ag (λy=>G8 m) (λys=>Ju m ys) m.S m.S (λys i zs e=>by
  have hi:i<m.kinds.length:=NW z i ((Iw z).mp (Ei e));have hk:=z.kinds;have hS:m.S.length<=3:=AE (HN (HO (Iu _ _)) λj h=>NW z j ((Iw z).mp h)) hk;have hy:=EH e;have hni:i∉ys:=λh=>by
   have nd:m.S.Nodup:=HO (Iu _ _);rw[<- e]at nd;exact(F7.mp nd).2.2 i h i Dq rfl
  have p:E4 (m.kinds.map Be) (i:Int)=some (Be (m.kinds.getD i false)):=It Be m.kinds rfl (AeV hi hk) (by rw[ET,Ci hi];rfl)
  have hr:=Aag m.kinds ys [];have g2:some (small (Fw m.kinds (Cv m.kinds ys) ys).length)=some true:=Ca (by unfold Fw;rw[AJ];exact AeU hS hy)
  have ek:=Ann (kinds:=m.kinds) hni
  by_cases q:m.kinds.getD i false∈Cv m.kinds ys
  ·have er:Cv m.kinds (ys++[i])=Cv m.kinds ys:=by rw[Qx];unfold D6;rw[if_pos q]
   rw[er]at ek;have c:(Ed (Bw 20) (Be (m.kinds.getD i false)) ((Cv m.kinds ys).map Be)).map (!·)=some false:=by rw[Ue,decide_eq_true q];rfl
   have x:=Aaf q;have st:[.ins 908 (LV m++[(Ab "kinds",.own 3),(Ab "rows",.own 4)]),.dct (Fv m.used),.lst (Ai m.ku),.dct (Cn (Fw m.kinds (Cv m.kinds ys) ys) i (Ag ((Cv m.kinds ys).idxOf (m.kinds.getD i false)))),.lst ((Cv m.kinds ys).map Be)]=Ju m (ys++[i]):=by
    rw[ek];unfold Ju;rw[er]
   exact⟨[.t (Be (m.kinds.getD i false)),.b false,.t (Ag ((Cv m.kinds ys).idxOf (m.kinds.getD i false))),.b true],kc (Ae p (Ae c (Ae x (Ae g2 (f4 (L:=G8 m) 5 st (AM 5)))))) (by kernel_rfl)⟩
  ·have er:Cv m.kinds (ys++[i])=Cv m.kinds ys++[m.kinds.getD i false]:=by rw[Qx];unfold D6;rw[if_neg q]
   rw[er]at ek;have c:(Ed (Bw 20) (Be (m.kinds.getD i false)) ((Cv m.kinds ys).map Be)).map (!·)=some true:=by rw[Ue,decide_eq_false q];rfl
   have x:=Aaf (b:=m.kinds.getD i false) (rows:=Cv m.kinds ys++[m.kinds.getD i false]) (CC _ Dq);rw[BP]at x;have g1:some (small (((Cv m.kinds ys).map Be).length+1))=some true:=Ca (by
    rw[AJ];have:(Cv m.kinds ys).length<=([]:List Bool).length+ys.length:=hr;rw[DU]at this;exact AeT hS hy this)
   have st:[.ins 908 (LV m++[(Ab "kinds",.own 3),(Ab "rows",.own 4)]),.dct (Fv m.used),.lst (Ai m.ku),.dct (Cn (Fw m.kinds (Cv m.kinds ys) ys) i (Ag ((Cv m.kinds ys++[m.kinds.getD i false]).idxOf (m.kinds.getD i false)))),.lst ((Cv m.kinds ys).map Be++[Be (m.kinds.getD i false)])]=Ju m (ys++[i]):=by
    rw[ek];unfold Ju;rw[er,BP];rfl
   exact⟨[.t (Be (m.kinds.getD i false)),.b true,.b true,.t (Ag ((Cv m.kinds ys++[m.kinds.getD i false]).idxOf (m.kinds.getD i false))),.b true],kc (Ae p (Ae c (Ae g1 (Ae x (Ae g2 (f4 (L:=G8 m) 5 st (AM 5))))))) (by kernel_rfl)⟩) [] m.S rfl
theorem Anr(us:List Nat):Gw (Ai us)=us.zipIdx.map λp=>Az [Ag p.2,Ag p.1]:=by
 unfold Gw Ai;rw[AqP,C5];rfl
theorem Ant(k:Nat)(m:Mod)(z:m.Wf):VC (k+4) 908 [B6 m] (G7 m):=by
 have h1:CB (cB (k+3) 38 879 [] [.ins 908 [(Ab "many",.fz (Ag m.ik.length)),(Ab "kept",.fz (Ak (Ai m.used)))]] (DN (B5 (AR 879 2)) 1)) (Gw (Ai m.used)) (m.used.zipIdx.map λp=>Az [Ag p.1,Ag p.2]):=by
  rw[Anr];exact De (λp:Nat×Nat=>Az [Ag p.2,Ag p.1]) (λp=>Az [Ag p.1,Ag p.2]) m.used.zipIdx λp q=>⟨[],kc (tr [AO.ins 908 [(Ab "many",.fz (Ag m.ik.length)),(Ab "kept",.fz (Ak (Ai m.used)))]] (some (Az [Ag p.1,Ag p.2]))) (by kernel_rfl)⟩
 have h2:=Ani (HO (Iv m)) (AE z.used_le (Wx));have h3:CB (cB (k+3) 40 879 [] (HQ m []).dropLast (B5 (AR 879 3))) (m.imports.map BB) (Ai m.iks):=by
  rw[<- m.ik_eq];exact Io BB (λi=>i.k.map Ag) m.imports λa q=>by
   rcases a with j | _
   ·exact⟨[],kc (tr (HQ m []).dropLast (some (Ag j))) (by kernel_rfl)⟩
   ·exact⟨[],kc (tr (HQ m []).dropLast (none:Option T)) (by kernel_rfl)⟩
 have h4:=Anp k m z;rw[<- z.used_drop,show(m.used.drop m.ik.length).map Ag=Ai (m.used.drop m.ik.length)from rfl,<- Aad z.len_used]at h4;have h5:=Anf (N:=m.kinds.length) (NW z) (AE z.kinds (AeS));exact LO [.t (Ag m.ik.length),.t (Ak (Ai m.used)),.l (m.used.zipIdx.map λp=>Az [Ag p.1,Ag p.2]),.d (Fv m.used),.l (Ai m.iks),.st (G8 m) (HQ m m.ku),.l (Ai m.S),.st (G8 m) (Ju m m.S)]
  (kc (Ae (Z0 (k+1) m) (Ae (Uc k m z) (Ae h1 (Ae h2 (Ae h3 (Ae h4 (Ae h5 (Ae (Anq k m z) (Bi (G7 m)))))))))) (by kernel_rfl))
noncomputable def Mod.fi(m:Mod)(n:Nat):Nat:=m.used.idxOf n
noncomputable def Mod.ki(m:Mod)(i:Nat):Nat:=m.rows.idxOf (m.kinds.getD i false)
noncomputable def Qy(m:Mod):Ba->Ba
 | .call t n=>.call t (m.fi n)
 | .rf n=>.rf (m.fi n)
 | i=>i
noncomputable def Bq(m:Mod)(b:List Ba):List Ba:=b.map (Qy m)
noncomputable def DP(m:Mod):Dn->Dn
 | .f k=>.f (m.ki k)
 | .g=>.g
noncomputable def Df(m:Mod)(f:CW):CW:=⟨m.ki f.kind,Bq m f.body⟩
noncomputable def F3(m:Mod)(g:CY):CY:=⟨g.mu,Bq m g.body⟩
noncomputable def GC(m:Mod):CG->CG
 | .f x i=>.f x (m.fi i)
 | .m x=>.m x
noncomputable def EK(m:Mod)(e:Ct):Ct:=⟨e.mode,e.inits.map (Bq m)⟩
noncomputable def Mod.less(m:Mod):Mod:=⟨m.rows,m.imports.map (DP m),m.kf.map (Df m),m.globs.map (F3 m),m.exps.map (GC m),m.start.map m.fi,m.elems.map (EK m)⟩
theorem LX:∀es:List (A×B),(es.map (·.1)).zip (es.map (·.2))=es:=by
 intro z1
 induction z1 with
 | nil =>
  exact rfl
 | cons p es ih =>
  exact congrArg (p::·) (ih)
theorem NX(h:n∈m.used):Cz (((Fv m.used).map (·.1)).zip ((Fv m.used).map (·.2))) n=some (Ag (m.fi n)):=by
 rw[LX];exact Anj h
theorem Anu(kinds rows:List Bool):∀{S:List Nat} {i:Nat},i∈S->Cz (Fw kinds rows S) i=some (Ag (rows.idxOf (kinds.getD i false))):=by
 intro z1
 induction z1 with
 | nil=>intros;contradiction
 | cons j S ih =>
  intro i h;show(if(j:Int)=i then some (Ag (rows.idxOf (kinds.getD j false)))else Cz (Fw kinds rows S) i)=_
  by_cases e:j=i
  ·subst e;rw[if_pos rfl]
  ·rw[if_neg (RK e)];exact ih ((AV.mp h).elim (λq=>absurd q.symm e) id)
theorem Aai(h:i∈m.S):Cz (((Fw m.kinds m.rows m.S).map (·.1)).zip ((Fw m.kinds m.rows m.S).map (·.2))) i=some (Ag (m.ki i)):=by
 rw[LX];exact Anu _ _ h
noncomputable abbrev NY(m:Mod)(b:List Ba):An:=[(Ab "self",.fz (G7 m)),(Ab "body",.fz (AX b)),(Ab "found",.own 0)]
theorem Anv(a b:List Ba):a.map By++b.map By=(a++b).map By:=BP.symm
theorem Uh(k:Nat)(m:Mod)(b:List Ba)(h:∀n,n∈Bh b->n∈m.used)(hl:b.length<=7):VF (k+1) 886 [G7 m,AX b] (AX (Bq m b)):=by
 have c:B4 (fB k 39 886 (AR 886 1)) 1 (nm ["self","body","found"]) (b.map By) (NY m b) [.lst []] (NY m b) [.lst ((Bq m b).map By)] :=
  Dm By (λz=>NY m b) (λys=>[.lst ((Bq m ys).map By)]) b b (λys a zs e=>by
   have g:some (small (((Bq m ys).map By).length+1))=some true:=Ca (by
    have:=EH e;unfold Bq;rw[AJ,AJ];exact Ae0 hl this)
   have st:[AO.lst ((Bq m ys).map By++[By (Qy m a)])]=[.lst ((Bq m (ys++[a])).map By)]:=by
    unfold Bq;rw[BP,BP];rfl
   have fin:=f4 (L:=NY m b) 1 st (AM 1);have hn:∀n,a.fns=some n->n∈m.used:=λn q=>h n (IK.mpr ⟨a,Ei e,q⟩);rcases a with⟨t,n⟩ | n | _ | _ | _ | _
   case call =>
    rcases t with _ | _
    ·exact⟨[.a,.a,.a,.a,.t (Ag (m.fi n)),.b true],kc (Ae (NX (hn n rfl)) (Ae g fin)) (by kernel_rfl)⟩
    ·exact⟨[.a,.a,.a,.a,.t (Ag (m.fi n)),.b true],kc (Ae (NX (hn n rfl)) (Ae g fin)) (by kernel_rfl)⟩
   case rf=>exact⟨[.a,.a,.a,.a,.t (Ag (m.fi n)),.b true],kc (Ae (NX (hn n rfl)) (Ae g fin)) (by kernel_rfl)⟩
   all_goals exact⟨[.a,.a,.a,.a,.a,.a,.b true],kc (Ae g fin) (by kernel_rfl)⟩) [] b rfl
 exact Bx [.st (NY m b) [.lst ((Bq m b).map By)]] (kc (Ae c (Bi (AX (Bq m b)))) (by kernel_rfl))
theorem Anw(k:Nat)(m:Mod)(i:Dn)(h:∀j,i.k=some j->j∈m.S):VF (k+2) 893 [G7 m,BB i] (BB (DP m i)):=by
 rcases i with j | _
 ·exact Bx [.t (Ag (m.ki j)),.t (BB (DP m (.f j)))] (kc (Ae (Aai (h j rfl)) (Ae (LQ k (sT "h") (sT "f") (.int 0) (Ag (m.ki j))) (Bi (BB (DP m (.f j)))))) (by kernel_rfl))
 ·exact Bx [] (kc (Bi (BB .g)) (by kernel_rfl))
theorem Anx(k:Nat)(m:Mod)(x:CG)(h:∀j,j∈x.idx->j∈m.used):VF (k+1) 905 [G7 m,Cp x] (Cp (GC m x)):=by
 rcases x with⟨x,i⟩ | x
 ·exact Bx [.t (Ag (m.fi i))] (kc (Ae (NX (h i Dq)) (Bi (Cp (.f x (m.fi i))))) (by kernel_rfl))
 ·exact Bx [] (kc (Bi (Cp (.m x))) (by kernel_rfl))
theorem Anz(k:Nat)(m:Mod)(e:Ct)(h:∀b,b∈e.inits->(∀n,n∈Bh b->n∈m.used)/\b.length<=7):VF (k+2) 898 [G7 m,Bj e] (Bj (EK m e)):=by
 rcases e with⟨mo,bs⟩
 have c:CB (cB (k+1) 40 898 [(Ab "self",.fz (G7 m))] [] (B5 (AR 898 0))) (bs.map AX) (bs.map λb=>AX (Bq m b)):=De AX (λb=>AX (Bq m b)) bs λb hb=>⟨[.t (AX (Bq m b))],kc (Ae (Uh k m b (h b hb).1 (h b hb).2) (tr ([]:AH) (some (AX (Bq m b))))) (by kernel_rfl)⟩
 have e2:(bs.map λb=>AX (Bq m b))=(bs.map (Bq m)).map AX:=by rw[C5];rfl
 rw[e2]at c;have v:=T7 k (NR mo) (.int 0) (E6 mo) (.int (-16)) (Ak ((bs.map (Bq m)).map AX));rcases mo with _ | _ | _
 ·exact Bx [.l ((bs.map (Bq m)).map AX),.t (Bj (EK m ⟨.m0,bs⟩))] (kc (Ae c (Ae v (Bi (Bj (EK m ⟨.m0,bs⟩))))) (by kernel_rfl))
 ·exact Bx [.l ((bs.map (Bq m)).map AX),.t (Bj (EK m ⟨.m1,bs⟩))] (kc (Ae c (Ae v (Bi (Bj (EK m ⟨.m1,bs⟩))))) (by kernel_rfl))
 ·exact Bx [.l ((bs.map (Bq m)).map AX),.t (Bj (EK m ⟨.m2,bs⟩))] (kc (Ae c (Ae v (Bi (Bj (EK m ⟨.m2,bs⟩))))) (by kernel_rfl))
theorem AnA(k:Nat)(e:Ct):VF (k+2) 831 [Bj e] (Bj e):=by
 rcases e with⟨mo,bs⟩
 have c:CB (cB (k+1) 38 831 [] [] (DN (B5 (AR 831 0)) 5)) (bs.map AX) (bs.map AX):=De AX AX bs λb hb=>⟨[],kc (tr ([]:AH) (some (AX b))) (by kernel_rfl)⟩
 have v:=T7 k (NR mo) (.int 0) (E6 mo) (.int (-16)) (Ak (bs.map AX));rcases mo with _ | _ | _
 ·exact Bx [.t (E6 .m0),.l (bs.map AX),.t (Bj ⟨.m0,bs⟩)] (kc (Ae (Bx (k:=k) (f:=826) (ts:=[E6 .m0]) (r:=E6 .m0) [] (kc (Bi (E6 .m0)) (by kernel_rfl))) (Ae c (Ae v (Bi (Bj ⟨.m0,bs⟩))))) (by kernel_rfl))
 ·exact Bx [.t (E6 .m1),.l (bs.map AX),.t (Bj ⟨.m1,bs⟩)] (kc (Ae (Bx (k:=k) (f:=826) (ts:=[E6 .m1]) (r:=E6 .m1) [] (kc (Bi (E6 .m1)) (by kernel_rfl))) (Ae c (Ae v (Bi (Bj ⟨.m1,bs⟩))))) (by kernel_rfl))
 ·exact Bx [.t (E6 .m2),.l (bs.map AX),.t (Bj ⟨.m2,bs⟩)] (kc (Ae (Bx (k:=k) (f:=826) (ts:=[E6 .m2]) (r:=E6 .m2) [] (kc (Bi (E6 .m2)) (by kernel_rfl))) (Ae c (Ae v (Bi (Bj ⟨.m2,bs⟩))))) (by kernel_rfl))
noncomputable def Ui:List Ac:=nm ["kinds","imports","funcs","tables","memories","globals","exports","start","elems","datas","customs"]
noncomputable def hM(m:Mod)(kw:W)(i f g x e d c:Nat)(st:T)(rest:AH):AH:=.ins 810 (Ui.zip [kw,.own i,.own f,.own 13,.own 14,.own g,.own x,.fz st,.own e,.own d,.own c])::(D9 10 (.lst [])++[.lst (m.kinds.map Be),.lst (m.exps.map Cp),.lst [Eg],.lst [Eh]]++rest)
noncomputable abbrev iL(m:Mod):AO:=.lst (m.imports.map BB)
noncomputable abbrev fL(m:Mod):AO:=.lst (m.funcs.map Bn)
noncomputable abbrev gL(m:Mod):AO:=.lst (m.globs.map BO)
noncomputable abbrev eL(m:Mod):AO:=.lst (m.elems.map Bj)
noncomputable abbrev nB(m:Mod):An:=[(Ab "numbers",.fz (G7 m))]
theorem Qz(z:m.Wf){b:List Ba}(h:∀n,n∈Bh b->CI m.nx m.roots n)(n:Nat)(q:n∈Bh b):n∈m.used:=(Ft z).mpr (h n q)
theorem Aaj{g:CY}(h:g∈m.globs)(n:Nat)(q:n∈Bh g.body):CI m.nx m.roots n:=.root (by
 unfold Mod.roots;exact Cg _ (CC _ (CN.mpr ⟨g,h,q⟩)))
theorem Aak{e:Ct}(h:e∈m.elems){b:List Ba}(hb:b∈e.inits)(n:Nat)(q:n∈Bh b):CI m.nx m.roots n:=.root (by
 unfold Mod.roots;exact CC _ (CN.mpr ⟨e,h,CN.mpr ⟨b,hb,q⟩⟩))
theorem Aal{x:CG}(h:x∈m.exps)(n:Nat)(q:n∈x.idx):CI m.nx m.roots n:=.root (by
 unfold Mod.roots;exact Cg _ (Cg _ (Cg _ (CC _ (CN.mpr ⟨x,h,q⟩)))))
theorem Aam{s:Nat}(h:m.start=some s):CI m.nx m.roots s:=.root (by
 unfold Mod.roots;rw[h];exact Cg _ (Cg _ (CC _ Dq)))
theorem Uj(z:m.Wf){i:Nat}(h:i∈m.own)(n:Nat)(q:n∈Bh (m.fn i).body):CI m.nx m.roots n:=by
 refine C6 (HP z h) ?_;rintro h1 h2 h3;refine .step ((Ft z).mp (Hm.mp h).1) (j:=n) ?_;unfold Mod.nx;rw[if_neg (Adg h2),h1];exact q
theorem Aan(z:m.Wf){i:Nat}(h:i∈m.own):(m.fn i).kind∈m.S:=(Iw z).mpr (CC _ (Du (Du h)))
theorem AnB(z:m.Wf){i:Dn}(h:i∈m.imports)(j:Nat)(q:i.k=some j):j∈m.S:=(Iw z).mpr (Cg _ (IK.mpr ⟨i,h,q⟩))
theorem mm(f:A->A)(g:A->B)(xs:List A):xs.map (λx=>g (f x))=(xs.map f).map g:=by rw[C5];rfl
noncomputable abbrev NZ(m:Mod):An:=[(Ab "module",.fz (B6 m)),(Ab "numbers",.fz (G7 m)),(Ab "found",.own 0)]
noncomputable abbrev Jv(m:Mod)(st:T)(fs:List CW):AH:=hM m (.fz (Ak (m.rows.map Be))) 21 22 17 12 18 19 20 st [iL m,fL m,gL m,eL m,.lst [],.lst [],.lst ((m.imports.map (DP m)).map BB),.lst (fs.map Bn)]
theorem AnC(k:Nat)(m:Mod)(z:m.Wf)(st:T):B4 (fB (k+4) 39 917 (AR 917 4)) 23 (nm ["module","numbers","found"]) (Nt (Ai m.used) (some (m.ik.length:Int)) none) (NZ m) (Jv m st []) (NZ m) (Jv m st (m.kf.map (Df m))):=by
 rw[Aad z.len_used,z.used_drop];have e0:m.kf.map (Df m)=m.own.map (λi=>Df m (m.fn i)):=by unfold Mod.kf;rw[C5];rfl
 rw[e0];exact Dm Ag (λq=>NZ m) (λys=>Jv m st (ys.map λi=>Df m (m.fn i))) m.own m.own (λys i zs e=>by
  refine C6 (HP z (Ei e)) ?_;rintro h1 h2 h3;have hN:=z.n_le;have p:E4 (m.funcs.map Bn) ((i:Int)-(m.ik.length:Int))=some (Bn (m.fn i)):=It Bn m.funcs (n:=i-m.ik.length) (RE h2) (Wo h3 hN) h1;have hl:ys.length<=7:=by
   have g:=EH e;have g1:=AcA (λi=>decide (m.ik.length<=i)) m.used;have g2:m.own.length<=m.used.length:=g1;have g3:=z.used_le;exact Adf g g2 g3
  have g1:some (small (((ys.map λi=>Df m (m.fn i)).map Bn).length+1))=some true:=Ca (by rw[AJ,AJ];exact Ade hl)
  have v:=Uh (k+3) m (m.fn i).body (Qz z (Uj z (Ei e))) (z.fb _ (Gg h1));have st2:hM m (.fz (Ak (m.rows.map Be))) 21 22 17 12 18 19 20 st [iL m,fL m,gL m,eL m,.lst [],.lst [],.lst ((m.imports.map (DP m)).map BB),.lst ((ys.map λi=>Df m (m.fn i)).map Bn++[Bn (Df m (m.fn i))])]=Jv m st ((ys++[i]).map λi=>Df m (m.fn i)):=by
   unfold Jv;rw[BP,BP];rfl
  exact⟨[.t (Bn (m.fn i)),.t (Ag (m.ki (m.fn i).kind)),.t (AX (Bq m (m.fn i).body)),.t (Bn (Df m (m.fn i))),.b true],kc (Ae p (Ae (Aai (Aan z (Ei e))) (Ae v (Ae (Qr (k+3) (Ag (m.ki (m.fn i).kind)) (Az []) (AX (Bq m (m.fn i).body))) (Ae g1 (f4 (L:=NZ m) 23 st2 (Oi rfl))))))) (by kernel_rfl)⟩) [] m.own rfl
theorem Aao(k:Nat)(m:Mod)(z:m.Wf):VF (k+5) 917 [B6 m] (B6 m.less):=by
 have hst:m.less.start=m.start.map m.fi:=rfl;have all:=λ(st:T) (P:Prop) (tl:P) =>
  have c1:CB (cB (k+3) 39 807 [] (hM m (.own 11) 2 3 6 12 8 9 10 st []) (B5 (AR 807 3))) (m.imports.map BB) (m.imports.map BB):=De BB BB m.imports λa x=>by
   rcases a with j | _
   ·exact⟨[.t (BB (.f j))],kc (Ae (LQ (k+2) (sT "h") (sT "f") (.int 0) (Ag j)) (tr (hM m (.own 11) 2 3 6 12 8 9 10 st []) (some (BB (.f j))))) (by kernel_rfl)⟩
   ·exact⟨[.t (BB .g)],kc (Ae (LQ (k+2) (sT "h") (sT "g") (.int 3) HM) (tr (hM m (.own 11) 2 3 6 12 8 9 10 st []) (some (BB .g)))) (by kernel_rfl)⟩
  have c2:CB (cB (k+3) 39 807 [] (hM m (.own 11) 15 3 6 12 8 9 10 st [iL m]) (B5 (AR 807 4))) (m.funcs.map Bn) (m.funcs.map Bn):=De Bn Bn m.funcs λa x=>⟨[.t (Bn a)],kc (Ae (Qr (k+2) (Ag a.kind) (Az []) (AX a.body)) (tr (hM m (.own 11) 15 3 6 12 8 9 10 st [iL m]) (some (Bn a)))) (by kernel_rfl)⟩
  have c3:CB (cB (k+3) 39 807 [] (hM m (.own 11) 15 16 6 12 8 9 10 st [iL m,fL m]) (B5 (AR 807 5))) (m.globs.map BO) (m.globs.map BO):=De BO BO m.globs λa x=>⟨[.t (BO a)],kc (Ae (Qs (k+2) (.int (-16)) (Ag a.mu) (AX a.body)) (tr (hM m (.own 11) 15 16 6 12 8 9 10 st [iL m,fL m]) (some (BO a)))) (by kernel_rfl)⟩
  have c4:CB (cB (k+3) 39 807 [] (hM m (.own 11) 15 16 17 12 8 9 10 st [iL m,fL m,gL m]) (B5 (AR 807 6))) (m.elems.map Bj) (m.elems.map Bj):=De Bj Bj m.elems λa x=>⟨[.t (Bj a)],kc (Ae (AnA (k+1) a) (tr (hM m (.own 11) 15 16 17 12 8 9 10 st [iL m,fL m,gL m]) (some (Bj a)))) (by kernel_rfl)⟩
  have c5:CB (cB (k+4) 39 917 (nB m) (hM m (.fz (Ak (m.rows.map Be))) 15 16 17 12 18 19 20 st [iL m,fL m,gL m,eL m,.lst [],.lst []]) (B5 (AR 917 2))) (m.imports.map BB) ((m.imports.map (DP m)).map BB):=by
   rw[<- mm (DP m) BB m.imports];exact De BB (λa=>BB (DP m a)) m.imports λa ha=>⟨[.t (BB (DP m a))],kc (Ae (Anw (k+2) m a (AnB z ha)) (tr (hM m (.fz (Ak (m.rows.map Be))) 15 16 17 12 18 19 20 st [iL m,fL m,gL m,eL m,.lst [],.lst []]) (some (BB (DP m a))))) (by kernel_rfl)⟩
  have c6:CB (cB (k+4) 39 917 (nB m) (Jv m st (m.kf.map (Df m))) (B5 (AR 917 5))) (m.globs.map BO) ((m.globs.map (F3 m)).map BO):=by
   rw[<- mm (F3 m) BO m.globs];exact De BO (λa=>BO (F3 m a)) m.globs λa ha=>⟨[.t (AX (Bq m a.body)),.t (BO (F3 m a))],kc (Ae (Uh (k+3) m a.body (Qz z (Aaj ha)) (AE (z.gb a ha) (Wn))) (Ae (Qs (k+3) (.int (-16)) (Ag a.mu) (AX (Bq m a.body))) (tr (Jv m st (m.kf.map (Df m))) (some (BO (F3 m a)))))) (by kernel_rfl)⟩
  have c7:CB (cB (k+4) 39 917 (nB m) (hM m (.fz (Ak (m.rows.map Be))) 21 22 23 12 18 19 20 st [iL m,fL m,gL m,eL m,.lst [],.lst [],.lst ((m.imports.map (DP m)).map BB),.lst ((m.kf.map (Df m)).map Bn),.lst ((m.globs.map (F3 m)).map BO)]) (B5 (AR 917 6))) (m.exps.map Cp) ((m.exps.map (GC m)).map Cp):=by
   rw[<- mm (GC m) Cp m.exps];exact De Cp (λa=>Cp (GC m a)) m.exps λa ha=>⟨[.t (Cp (GC m a))],kc (Ae (Anx (k+3) m a λj q=>(Ft z).mpr (Aal ha j q)) (tr (hM m (.fz (Ak (m.rows.map Be))) 21 22 23 12 18 19 20 st [iL m,fL m,gL m,eL m,.lst [],.lst [],.lst ((m.imports.map (DP m)).map BB),.lst ((m.kf.map (Df m)).map Bn),.lst ((m.globs.map (F3 m)).map BO)]) (some (Cp (GC m a))))) (by kernel_rfl)⟩
  have c8:CB (cB (k+4) 39 917 (nB m) (hM m (.fz (Ak (m.rows.map Be))) 21 22 23 24 18 19 20 st [iL m,fL m,gL m,eL m,.lst [],.lst [],.lst ((m.imports.map (DP m)).map BB),.lst ((m.kf.map (Df m)).map Bn),.lst ((m.globs.map (F3 m)).map BO),.lst ((m.exps.map (GC m)).map Cp)]) (B5 (AR 917 7))) (m.elems.map Bj) ((m.elems.map (EK m)).map Bj):=by
   rw[<- mm (EK m) Bj m.elems];exact De Bj (λa=>Bj (EK m a)) m.elems λa ha=>⟨[.t (Bj (EK m a))],kc (Ae (Anz (k+2) m a λb hb=>⟨Qz z (Aak ha hb),AE (z.eb a ha b hb) (Wn)⟩) (tr (hM m (.fz (Ak (m.rows.map Be))) 21 22 23 24 18 19 20 st [iL m,fL m,gL m,eL m,.lst [],.lst [],.lst ((m.imports.map (DP m)).map BB),.lst ((m.kf.map (Df m)).map Bn),.lst ((m.globs.map (F3 m)).map BO),.lst ((m.exps.map (GC m)).map Cp)]) (some (Bj (EK m a))))) (by kernel_rfl)⟩
  Ae (Ant k m z) (Ae c1 (Ae c2 (Ae c3 (Ae c4 (Ae (Bi ([]:List T)) (Ae (Bi ([]:List T)) (Ae c5 (Ae (AnC k m z st) (Ae c6 (Ae c7 (Ae c8 tl)))))))))))
 have sr:=λs (h:m.start=some s)=>NX ((Ft z).mpr (Aam h));have tl:=Z7 (Bi (B6 m.less)) sr;refine Bx (k:=k+4) (f:=917) (ts:=[B6 m]) (r:=B6 m.less) (.t (G7 m)::.go::.go::.l (m.imports.map BB)::.l (m.funcs.map Bn)::.l (m.globs.map BO)::.l (m.elems.map Bj)::.l []::.l []::.l ((m.imports.map (DP m)).map BB)::.st (NZ m) (Jv m (D5 m.start) (m.kf.map (Df m)))::.l ((m.globs.map (F3 m)).map BO)::.l ((m.exps.map (GC m)).map Cp)::.l ((m.elems.map (EK m)).map Bj)::(match m.start with
  | none=>[]
  | some s=>[.t (Ag (m.fi s))])) (kc (all (D5 m.start) _ tl) ?_)
 clear tl all sr hst z;rcases m with⟨ki,im,fu,gl,ex,start,el⟩
 rcases start with _ | s
 ·kernel_rfl
 ·kernel_rfl
noncomputable def Bt(z:Int)(n:Nat):Nat:=(z.fmod n).toNat
noncomputable def Aw(z:Int)(n:Nat):Int:=z.fdiv n
theorem Aap(z:Int){n:Nat}(h:0<n):z.fmod n=(Bt z n:Int):=(Aqf (Int.fmod_nonneg_of_pos z (Wr h))).symm
theorem DA(z:Int){n:Nat}(h:0<n):Bt z n<n:=by
 have h1:=Int.fmod_lt_of_pos z (b:=n) (Wr h);have h2:=Aap z h;exact Adm h1 h2
theorem qd{z:Int}(h0:0<n)(h:Bt z n=d):Rv.v (Vf (.int (z.fmod n)))=Rv.v (Vf (Ag d)):=by rw[Aap z h0,h]
theorem gm{N:Nat}(h:0<N):some (decide ((N:Int)≠0))=some true:=congrArg some (decide_eq_true (Adl h))
theorem gd{N:Nat}(h:0<N)(h2:N<=100):some (decide ((N:Int)≠0/\(N:Int).natAbs<1073741824))=some true:=congrArg some (decide_eq_true (Adk h h2))
noncomputable def dA(n:Nat):List Al:=[.go,.q (Ag n),.a,.a,.a]
noncomputable def dN(n:Nat):List Al:=[.go,.b true,.q (Ag n),.a,.b true,.a]
noncomputable def Kv:Nat->List Dn
 | 0=>[]
 | 1=>[.f 0,.g]
 | _=>[.f 0,.g,.f 1]
noncomputable def EL(M:Nat)(fs:List CW):List T:=(As M).map (λz=>Ak [])++fs.map λf=>Ak (Ai (Bh f.body))
noncomputable def hR(z:Int)(st:T)(M:Nat)(fl nl xl gl el dl:List T)(rest:AH):AH :=
 [.lst [.int z],.ins 810 (Ui.zip [.own 14,.own 3,.own 4,.own 15,.own 16,.own 7,.own 8,.fz st,.own 9,.own 10,.own 11]),.lst [],.lst ((Kv M).map BB),.lst fl,.lst [],.lst [],.lst gl,.lst xl,.lst el,.lst [],.lst [],.lst dl,.lst nl,.lst ([false,true,false].map Be),.lst [Eg],.lst [Eh]]++rest
noncomputable def hL(z:Int)(st:T)(M:Nat)(fs:List CW)(xs:List CG)(gs:List CY)(es:List Ct)(rest:AH):AH :=
 hR z st M (fs.map Bn) (EL M fs) (xs.map Cp) (gs.map BO) (es.map Bj) (Ai (AY xs++BD gs++BV es)) rest
noncomputable def lB(sc:List T)(w:W)(own M N:Nat)(r:An):An:=[(Ab "script",.fz (Ak sc)),(Ab "declared",.own 12),(Ab "module",.own 1),(Ab "bag",w),(Ab "own",.fz (Ag own)),(Ab "ahead",.fz (Ag M)),(Ab "named",.own 13),(Ab "many",.fz (Ag N))]++r
noncomputable abbrev kB:List String:=["script","declared","module","bag","own","ahead","named","many"]
noncomputable def E7(N:Nat)(z:Int):List Ba:=match Bt z 5 with
 | 0=>[.rf (Bt (Aw z 5) N),.drop]
 | 1=>[.call false (Bt (Aw z 5) N)]
 | 2=>[.call true (Bt (Aw z 5) N)]
 | 3=>[.con (Bt (Aw z 5) N),.drop]
 | _=>[.nul,.drop]
noncomputable def QA(N:Nat)(z:Int):Int:=Aw (Aw z 5) N
noncomputable def Iy(N:Nat)(z:Int):Nat->Int
 | 0=>z
 | j+1=>QA N (Iy N z j)
noncomputable def G9(N:Nat)(z:Int):Nat->List Ba
 | 0=>[]
 | j+1=>G9 N z j++E7 N (Iy N z j)
noncomputable abbrev lD(sc:List T)(own M N a kd:Nat):An:=lB sc (.own 17) own M N [(Ab "at",.fz (Ag a)),(Ab "names",.own 19),(Ab "body",.own 18),(Ab "kind",.fz (Ag kd))]
noncomputable abbrev kD:List Ac:=nm (kB++["at","names","body","kind"])
noncomputable abbrev sD(z:Int)(b:List Ba):AH:=[.lst [.int z],.lst (b.map By),.lst (Ai (Bh b))]
theorem N0(a b:List Ba):Bh (a++b)=Bh a++Bh b:=List.filterMap_append
theorem AnD(N:Nat)(z:Int):(E7 N z).length<=2:=by
 unfold E7
 split<;>simp
theorem Uk(N:Nat)(z:Int):∀j,(G9 N z j).length<=2*j:=by
 intro z1
 induction z1 with
 | zero =>
  exact AM _
 | succ j ih =>
  have h1:=ih;have h2:=AnD N (Iy N z j);show(G9 N z j++E7 N (Iy N z j)).length<=_;rw[Bl];exact Adj h1 h2
set_option tactic.hygienic true in
theorem AnE(k:Nat)(sc:List T)(z0:Int)(st:T)(own M N a kd:Nat)(fs:List CW)(xs:List CG)(gs:List CY)(es:List Ct)(hN:0<N)(hN2:N<=100)(z:Int)(b:List Ba)(hb:b.length<=100)(t:Nat) :
  ∃as,fB (k+2) 38 957 (Ef (D4 (AR 957 6)) 2) (Ag t) (lD sc own M N a kd) (hL z0 st M fs xs gs es (sD z b)) as (λfl l2 a2 x=>fl=.next/\Kl 20 kD l2=lD sc own M N a kd/\ED 20 a2=hL z0 st M fs xs gs es (sD (QA N z) (b++E7 N z))/\20<=a2.length):=by
 have hw:=DA z (n:=5) (by decide)
 generalize hd:Bt z 5=way at hw
 generalize hn:Bt (Aw z 5) N=n
 have hfb:=G6 b;have q2:=qd (z:=Aw z 5) hN hn;have g:∀c:Nat,c<=2->some (small ((b.map By).length+c))=some true:=λc hc=>Ca (by rw[AJ];exact Adi hb hc)
 have g2:∀c:Nat,c<=2->some (small ((Ai (Bh b)).length+c))=some true:=λc hc=>Ca (by rw[Cu];exact Adh hb hfb hc)
 have fin:=λ(d:List Ba) (hdd:E7 N z=d)=>f4 (L:=lD sc own M N a kd) (S:=hL z0 st M fs xs gs es [.lst [.int (QA N z)],.lst (b.map By++d.map By),.lst (Ai (Bh b)++Ai (Bh d))]) (S':=hL z0 st M fs xs gs es (sD (QA N z) (b++E7 N z))) 20 (by rw[hdd,Anv,Ej,<- N0]) (Oi rfl)
 have q:=qd (z:=z) (n:=5) (by decide) hd
 have all:=λ(P:Prop) (tl:P)=>Ae q (Ae (gm hN) (Ae q2 (Ae (gd hN hN2) tl)));rcases lt5 hw with rfl | rfl | rfl | rfl | rfl
 ·exact⟨.go::(dA 0++dN n++[.a,.b true,.a,.b true]),kc (all _ (Ae (g 2 (RF)) (Ae (g2 1 (My)) (fin [.rf n,.drop] (by unfold E7;simp only[hd,hn]))))) (by kernel_rfl)⟩
 ·exact⟨.go::(dA 1++dN n++[.a,.a,.a,.a,.a,.b true,.a,.b true]),kc (all _ (Ae (g 1 (My)) (Ae (g2 1 (My)) (fin [.call false n] (by unfold E7;simp only[hd,hn]))))) (by kernel_rfl)⟩
 ·exact⟨.go::(dA 2++dN n++[.a,.a,.a,.a,.a,.b true,.a,.b true]),kc (all _ (Ae (g 1 (My)) (Ae (g2 1 (My)) (fin [.call true n] (by unfold E7;simp only[hd,hn]))))) (by kernel_rfl)⟩
 ·exact⟨.go::(dA 3++dN n++[.a,.a,.a,.b true,.a,.b true]),kc (all _ (Ae (g 2 (RF)) (Ae (g2 0 (Wq)) (fin [.con n,.drop] (by unfold E7;simp only[hd,hn]))))) (by kernel_rfl)⟩
 ·exact⟨.go::(dA 4++dN n++[.a,.a,.a,.b true,.a,.b true]),kc (all _ (Ae (g 2 (RF)) (Ae (g2 0 (Wq)) (fin [.nul,.drop] (by unfold E7;simp only[hd]))))) (by kernel_rfl)⟩
section
noncomputable def cell(is:List Int)(a:Nat):Int:=is.getD a 0
noncomputable def C4(is:List Int):List T:=is.map .int
theorem N4(k:Nat)(is:List Int)(hl:is.length<=63)(a:Nat):VF (k+1) 924 [Ak (C4 is),Ag a] (.int (cell is a)):=by
 by_cases h:a<is.length
 ·have c:some (decide ((a:Int)<((C4 is).length:Int)))=some true:=congrArg some (decide_eq_true (by unfold C4;rw[AJ];exact RG h))
  have p:E4 (C4 is) (a:Int)=some (.int (cell is a)):=It T.int is rfl (Ads hl h) (by unfold cell;rw[ET,Ci h];rfl)
  exact Bx [.b true,.t (.int (cell is a))] (kc (Ae c (Ae p (Bi (T.int (cell is a))))) (by kernel_rfl))
 ·have c:some (decide ((a:Int)<((C4 is).length:Int)))=some false:=congrArg some (decide_eq_false (by unfold C4;rw[AJ];exact Adr h))
  have e:T.int 0=.int (cell is a):=by unfold cell;rw[ET,GI (RD h)];rfl
  exact Bx [.b false] (kc (Ae c e) (by kernel_rfl))
noncomputable def Iz(N:Nat)(z:Int):CW:=⟨Bt z 3,G9 N (Aw (Aw z 3) 4) (Bt (Aw z 3) 4)++[.fin]⟩
set_option tactic.hygienic true in
theorem f5{L:An}{S S':AH}(n m:Nat)(h:S=S')(hn:QR n m=true):BZ.next=.next/\L=L/\S=S'/\n<=m:=⟨rfl,rfl,h,Oi hn⟩
section
variable (k:Nat)(is:List Int)(hl:is.length<=63)(z0:Int)(st:T)(own M N:Nat)(hN:0<N)(hN2:N<=100)(fs:List CW)(xs:List CG)(gs:List CY)(es:List Ct)
set_option tactic.hygienic true in
include hl hN hN2 in
theorem AnF(hf:fs.length<=100)(hM:M<=100)(w:W)(a:Nat) :
  ∃as,fB (k+2) 39 957 (AR 957 6) (Ag a) (lB (C4 is) w own M N []) (hL z0 st M fs xs gs es []) as (λfl l2 a2 q=>fl=.next/\Kl 17 (nm kB) l2=lB (C4 is) .junk own M N []/\ED 17 a2=hL z0 st M (fs++[Iz N (cell is (1+a))]) xs gs es []/\17<=a2.length):=by
 generalize hz:cell is (1+a)=z
 have v:=N4 (k+1) is hl (1+a);rw[hz]at v
 generalize hkd:Bt z 3=kd
 generalize hd:Bt (Aw z 3) 4=d
 have q1:=qd (z:=z) (n:=3) (by decide) hkd
 have q2:=qd (z:=Aw z 3) (n:=4) (by decide) hd
 have d4:d<4:=hd▸DA (Aw z 3) (by decide)
 generalize hz2:Aw (Aw z 3) 4=z2
 have loop:B4 (fB (k+2) 38 957 (Ef (D4 (AR 957 6)) 2)) 20 kD ((As d).map Ag) (lD (C4 is) own M N a kd) (hL z0 st M fs xs gs es (sD z2 [])) (lD (C4 is) own M N a kd) (hL z0 st M fs xs gs es (sD (Iy N z2 d) (G9 N z2 d))):=by
  have:=Dm (B:=fB (k+2) 38 957 (Ef (D4 (AR 957 6)) 2)) (n:=20) (ks:=kD) Ag (λq=>lD (C4 is) own M N a kd) (λys:List Nat=>hL z0 st M fs xs gs es (sD (Iy N z2 ys.length) (G9 N z2 ys.length))) (As d) (As d) (λys t zs e=>by
   have hy:=EH e;rw[BY]at hy;have:=Uk N z2 ys.length;have:=AnE k (C4 is) z0 st own M N a kd fs xs gs es hN hN2 (Iy N z2 ys.length) (G9 N z2 ys.length) (Adq d4 hy this) t;rw[Bl];exact this) [] (As d) rfl
  rw[BY]at this;exact this
 have db:=Uk N z2 d
 generalize hb:G9 N z2 d=b at loop db
 generalize Iy N z2 d=z3 at loop
 have hfb:=G6 b;have rg:=Ku (n:=d) (Adp d4);have g1:some (small ((b.map By).length + [By .fin].length))=some true:=Ca (by rw[AJ];simp only[BN,DU];exact Ado d4 db)
 have c:=Qr (k+1) (Ag kd) (Az []) (Ak (b.map By++[By .fin]));have g2:some (small ((fs.map Bn).length+1))=some true:=Ca (by rw[AJ];exact K3 hf)
 have g3:some (small ((EL M fs).length+1))=some true:=Ca (by unfold EL;rw[Bl,AJ,AJ,BY];exact Adn hf hM)
 have ef:Iz N z=⟨kd,b++[.fin]⟩:=by unfold Iz;rw[hkd,hd,hz2,hb]
 have e1:(fs++[Iz N z]).map Bn=fs.map Bn++[Jo [Ag kd,Az [],Ak (b.map By++[By .fin])]]:=by
  rw[ef,BP];show fs.map Bn++[Jo [Ag kd,Az [],Ak ((b++[Ba.fin]).map By)]]=_;rw[BP];rfl
 have e2:EL M (fs++[Iz N z])=EL M fs++[Ak (Ai (Bh b))]:=by
  unfold EL;rw[ef,BP,Gd];show _++(_++[Ak (Ai (Bh (b++[Ba.fin])))])=_;rw[N0,show Bh [Ba.fin]=[]from rfl,Dw]
 have s:hR z0 st M (fs.map Bn++[Jo [Ag kd,Az [],Ak (b.map By++[By .fin])]]) (EL M fs++[Ak (Ai (Bh b))]) (xs.map Cp) (gs.map BO) (es.map Bj) (Ai (AY xs++BD gs++BV es)) []=hL z0 st M (fs++[Iz N z]) xs gs es []:=by
  unfold hL;rw[e1,e2]
 subst hz2;exact⟨.t (.int z)::(dA kd++dA d++[.l (Ai (As d)),.st (lD (C4 is) own M N a kd) (hL z0 st M fs xs gs es (sD z3 b)),.b true,.t (Jo [Ag kd,Az [],Ak (b.map By++[By .fin])]),.b true,.b true]),
  kc (Ae v (Ae q1 (Ae q2 (Ae rg (Ae loop (Ae g1 (Ae c (Ae g2 (Ae g3 (f5 (L:=lB (C4 is) .junk own M N []) 17 20 s rfl)))))))))) (by kernel_rfl)⟩
end
end
section
noncomputable def QB(a:Nat):Ac:=Ab "e" ++ Ab (toString (a:Int))
noncomputable def F4(N:Nat)(z:Int)(a:Nat):List CG:=match Bt z 2 with
 | 1=>(match Bt (Aw z 2) 2 with
  | 0=>[.f (QB a) (Bt (Aw (Aw z 2) 2) N)]
  | _=>[.m (QB a)])
 | _=>[]
noncomputable def Dd(N:Nat)(z:Int):Ba:=match Bt z 4 with
 | 3=>.nul
 | _=>.rf (Bt (Aw z 4) N)
noncomputable def EM(N:Nat)(z:Int):Int:=match Bt z 4 with
 | 3=>Aw z 4
 | _=>Aw (Aw z 4) N
noncomputable def Ek(N:Nat)(z:Int):List CY:=match Bt z 2 with
 | 1=>[⟨Bt (EM N (Aw z 2)) 2,[Dd N (Aw z 2),.fin]⟩]
 | _=>[]
noncomputable def Kw(N:Nat)(z:Int):Nat->Int
 | 0=>z
 | j+1=>EM N (Kw N z j)
noncomputable def Fx(N:Nat)(z:Int):Nat->List (List Ba)
 | 0=>[]
 | j+1=>Fx N z j++[[Dd N (Kw N z j),.fin]]
noncomputable def QC:Nat->NO
 | 0=>.m0
 | 1=>.m1
 | _=>.m2
noncomputable def Fy(N:Nat)(z:Int):List Ct:=match Bt z 2 with
 | 1=>[⟨QC (Bt (Aw z 2) 3),Fx N (Aw (Aw (Aw z 2) 3) 3) (1+Bt (Aw (Aw z 2) 3) 3)⟩]
 | _=>[]
theorem Aaq(h:a<3):some (small ((Ab "e").length+(Ab (toString (a:Int))).length))=some true:=by
 rcases LP h with rfl | rfl | rfl
 ·kernel_rfl
 ·kernel_rfl
 ·kernel_rfl
theorem AnG(a b:List CG):AY (a++b)=AY a++AY b:=Rq
theorem AnH(a b:List CY):BD (a++b)=BD a++BD b:=Rq
theorem AnI(a b:List Ct):BV (a++b)=BV a++BV b:=Rq
section
variable (k:Nat)(is:List Int)(hl:is.length<=63)(z0:Int)(st:T)(own M N:Nat)(hN:0<N)(hN2:N<=100)(fs:List CW)(xs:List CG)(gs:List CY)(es:List Ct)
noncomputable abbrev lJ(is:List Int)(own M N:Nat):An:=lB (C4 is) .junk own M N []
set_option tactic.hygienic true in
noncomputable def N5(k i:Nat)(is:List Int)(own M N a:Nat)(H H':AH):Prop:=∃as,fB (k+2) 39 957 (AR 957 i) (Ag a) (lJ is own M N) H as (λfl l2 a2 z=>fl=.next/\Kl 17 (nm kB) l2=lJ is own M N/\ED 17 a2=H'/\17<=a2.length)
include hl hN hN2 in
theorem AnJ(hx:xs.length<=100)(a:Nat)(ha:a<3) :
  N5 k 7 is own M N a (hL z0 st M fs xs [] [] []) (hL z0 st M fs (xs++F4 N (cell is (5+a)) a) [] [] []):=by
 generalize hz:cell is (5+a)=z
 have v:=N4 (k+1) is hl (5+a);rw[hz]at v;have h2:=DA z (n:=2) (by decide)
 generalize hd:Bt z 2=d at h2
 have q1:=qd (z:=z) (n:=2) (by decide) hd
 have hxl:(AY xs).length<=1*xs.length:=LS xs;have g1:some (decide ((a:Int).natAbs<9223372036854775808))=some true:=congrArg some (decide_eq_true (Adv ha));have g3:some (small ((xs.map Cp).length+1))=some true:=Ca (by rw[AJ];exact K3 hx)
 have g4:∀c:Nat,c<=1->some (small ((Ai (AY xs++BD []++BV [])).length+c))=some true:=λc hc=>Ca (by
  rw[Cu,Bl,Bl];show(AY xs).length+0+0+c<=4000;exact Adu hx hxl hc)
 have fin:=λ(m:Nat) (e:List CG) (d:List Nat) (he:F4 N z a=e) (hd:AY e=d) (hm:QR 17 m=true)=>f5 (L:=lJ is own M N) (S:=hR z0 st M (fs.map Bn) (EL M fs) (xs.map Cp++e.map Cp) [] [] (Ai (AY xs++BD []++BV [])++Ai d) []) (S':=hL z0 st M fs (xs++F4 N z a) [] [] []) 17 m (by
  unfold hL;rw[he,BP,AnG,hd,Ej]
  congr 2
  show AY xs++[]++[]++d=AY xs++d++[]++[];simp only[Dw]) hm
 rcases Qp h2 with rfl | rfl
 ·have e:F4 N z a=[]:=by unfold F4;simp only[hd]
  exact⟨.t (.int z)::(dA 0++[.a]),kc (Ae v (Ae q1 (f5 (L:=lJ is own M N) (S:=hL z0 st M fs xs [] [] []) (S':=hL z0 st M fs (xs++F4 N z a) [] [] []) 17 18 (by rw[e,Dw]) rfl))) (by kernel_rfl)⟩
 ·have h3:=DA (Aw z 2) (n:=2) (by decide)
  generalize hs:Bt (Aw z 2) 2=s at h3
  have q2:=qd (z:=Aw z 2) (n:=2) (by decide) hs
  rcases Qp h3 with rfl | rfl
  ·generalize hn:Bt (Aw (Aw z 2) 2) N=n
   have q3:=qd (z:=Aw (Aw z 2) 2) hN hn;exact⟨.t (.int z)::(dA 1++[.a]++dA 0++[.a,.a]++dN n++[.b true,.b true,.b true,.a,.b true]),
    kc (Ae v (Ae q1 (Ae q2 (Ae (gm hN) (Ae q3 (Ae (gd hN hN2) (Ae g1 (Ae (Aaq ha) (Ae g3 (Ae (g4 1 (AM _)) (fin 18 [.f (QB a) n] [n] (by unfold F4;simp only[hd,hs,hn]) rfl rfl))))))))))) (by kernel_rfl)⟩
  ·exact⟨.t (.int z)::(dA 1++[.a]++dA 1++[.a,.a,.b true,.b true,.b true,.a,.b true]),
    kc (Ae v (Ae q1 (Ae q2 (Ae g1 (Ae (Aaq ha) (Ae g3 (Ae (g4 0 (GG _)) (fin 18 [.m (QB a)] [] (by unfold F4;simp only[hd,hs]) rfl rfl)))))))) (by kernel_rfl)⟩
include hl hN hN2 in
theorem AnK(hx:xs.length<=100)(hg:gs.length<=100)(hgb:(BD gs).length<=300)(a:Nat) :
  N5 k 8 is own M N a (hL z0 st M fs xs gs [] []) (hL z0 st M fs xs (gs++Ek N (cell is (8+a))) [] []):=by
 generalize hz:cell is (8+a)=z
 have v:=N4 (k+1) is hl (8+a);rw[hz]at v;have h2:=DA z (n:=2) (by decide)
 generalize hd:Bt z 2=d at h2
 have q1:=qd (z:=z) (n:=2) (by decide) hd
 have hxl:(AY xs).length<=1*xs.length:=LS xs;have g3:some (small ((gs.map BO).length+1))=some true:=Ca (by rw[AJ];exact K3 hg)
 have g4:∀c:Nat,c<=1->some (small ((Ai (AY xs++BD gs++BV [])).length+c))=some true:=λc hc=>Ca (by
  rw[Cu,Bl,Bl];show(AY xs).length+(BD gs).length+0+c<=4000;exact Adt hx hgb hxl hc)
 have fin:=λ(m:Nat) (e:List CY) (d:List Nat) (he:Ek N z=e) (hd:BD e=d) (hm:QR 17 m=true)=>f5 (L:=lJ is own M N) (S:=hR z0 st M (fs.map Bn) (EL M fs) (xs.map Cp) (gs.map BO++e.map BO) [] (Ai (AY xs++BD gs++BV [])++Ai d) []) (S':=hL z0 st M fs xs (gs++Ek N z) [] []) 17 m (by
  unfold hL;rw[he,BP,AnH,hd,Ej]
  congr 2
  show AY xs++BD gs++[]++d=AY xs++(BD gs++d)++[];simp only[Dw,Gd]) hm
 rcases Qp h2 with rfl | rfl
 ·have e:Ek N z=[]:=by unfold Ek;simp only[hd]
  exact⟨.t (.int z)::(dA 0++[.a]),kc (Ae v (Ae q1 (f5 (L:=lJ is own M N) (S:=hL z0 st M fs xs gs [] []) (S':=hL z0 st M fs xs (gs++Ek N z) [] []) 17 18 (by rw[e,Dw]) rfl))) (by kernel_rfl)⟩
 ·have h3:=DA (Aw z 2) (n:=4) (by decide)
  generalize hs:Bt (Aw z 2) 4=s at h3
  have q2:=qd (z:=Aw z 2) (n:=4) (by decide) hs
  have nul:s=3->N5 k 8 is own M N a (hL z0 st M fs xs gs [] []) (hL z0 st M fs xs (gs++Ek N z) [] []):=λh=>by
   subst h
   generalize hm:Bt (Aw (Aw z 2) 4) 2=mu
   have q3:=qd (z:=Aw (Aw z 2) 4) (n:=2) (by decide) hm
   exact⟨(.t (.int z)::(dA 1++[.a,.go]++dA 3++[.a]++dA mu++[.t (NP [.int (-16),Ag mu,AX [.nul,.fin]]),.b true,.a,.b true])),kc (Ae v (Ae q1 (Ae q2 (Ae q3 (Ae (Qs (k+1) (.int (-16)) (Ag mu) (AX [.nul,.fin])) (Ae g3 (Ae (g4 0 (GG _)) (fin 18 [⟨mu,[.nul,.fin]⟩] [] (by unfold Ek;simp only[hd];unfold EM Dd;simp only[hs,hm]) rfl rfl)))))))) (by kernel_rfl)⟩
  have ref:Dd N (Aw z 2)=.rf (Bt (Aw (Aw z 2) 4) N)->EM N (Aw z 2)=Aw (Aw (Aw z 2) 4) N->(Bw 20 (Ag s) (.int 3))=some false->N5 k 8 is own M N a (hL z0 st M fs xs gs [] []) (hL z0 st M fs xs (gs++Ek N z) [] []):=λhr hrz hc=>by
   generalize hn:Bt (Aw (Aw z 2) 4) N=n at hr
   have q3:=qd (z:=Aw (Aw z 2) 4) hN hn
   generalize hm:Bt (Aw (Aw (Aw z 2) 4) N) 2=mu
   have q4:=qd (z:=Aw (Aw (Aw z 2) 4) N) (n:=2) (by decide) hm
   exact⟨(.t (.int z)::(dA 1++[.a,.go]++dA s++[.b false]++dN n++dA mu++[.t (NP [.int (-16),Ag mu,AX [.rf n,.fin]]),.b true,.a,.b true])),kc (Ae v (Ae q1 (Ae q2 (Ae hc (Ae (gm hN) (Ae q3 (Ae (gd hN hN2) (Ae q4 (Ae (Qs (k+1) (.int (-16)) (Ag mu) (AX [.rf n,.fin])) (Ae g3 (Ae (g4 1 (AM _)) (fin 18 [⟨mu,[.rf n,.fin]⟩] [n] (by unfold Ek;simp only[hd];rw[hr,hrz,hm]) rfl rfl)))))))))))) (by kernel_rfl)⟩
  rcases ZU h3 with rfl | rfl | rfl | rfl
  ·exact ref (by unfold Dd;simp only[hs]) (by unfold EM;simp only[hs]) rfl
  ·exact ref (by unfold Dd;simp only[hs]) (by unfold EM;simp only[hs]) rfl
  ·exact ref (by unfold Dd;simp only[hs]) (by unfold EM;simp only[hs]) rfl
  ·exact nul rfl
end
end
section
section
variable (k:Nat)(is:List Int)(hl:is.length<=63)(z0:Int)(st:T)(own M N:Nat)(hN:0<N)(hN2:N<=100)(fs:List CW)(xs:List CG)(gs:List CY)(es:List Ct)
noncomputable abbrev lE(is:List Int)(own M N a mo:Nat):An:=lB (C4 is) (.own 17) own M N [(Ab "at",.fz (Ag a)),(Ab "inits",.own 18),(Ab "mode",.fz (Ag mo))]
noncomputable abbrev kE:List Ac:=nm (kB++["at","inits","mode"])
noncomputable abbrev hE(z0:Int)(st:T)(M:Nat)(fs:List CW)(xs:List CG)(gs:List CY)(es:List Ct)(z:Int)(bs:List (List Ba)):AH:=hR z0 st M (fs.map Bn) (EL M fs) (xs.map Cp) (gs.map BO) (es.map Bj) (Ai (AY xs++BD gs++BV es++C9 bs)) [.lst [.int z],.lst (bs.map AX)]
set_option tactic.hygienic true in
noncomputable def Aar(k:Nat)(is:List Int)(own M N a mo t:Nat)(H H':AH):Prop:=∃as,fB (k+2) 37 957 (Ef (D4 (Ef (D4 (AR 957 9)) 1)) 1) (Ag t) (lE is own M N a mo) H as (λfl l2 a2 z=>fl=.next/\Kl 19 kE l2=lE is own M N a mo/\ED 19 a2=H'/\19<=a2.length)
include hN hN2 in
theorem AnL(a mo:Nat)(z:Int)(bs:List (List Ba))(hb:bs.length<=100)(hD:(AY xs++BD gs++BV es++C9 bs).length<=1000)(t:Nat) :
  Aar k is own M N a mo t (hE z0 st M fs xs gs es z bs) (hE z0 st M fs xs gs es (EM N z) (bs++[[Dd N z,.fin]])):=by
 have h3:=DA z (n:=4) (by decide)
 generalize hs:Bt z 4=s at h3
 have q2:=qd (z:=z) (n:=4) (by decide) hs
 have g3:some (small ((bs.map AX).length+1))=some true:=Ca (by rw[AJ];exact K3 hb)
 have g4:∀c:Nat,c<=1->some (small ((Ai (AY xs++BD gs++BV es++C9 bs)).length+c))=some true:=λc hc=>Ca (by rw[Cu];exact Adz hD hc)
 have fin:=λ(i:Ba) (z':Int) (he:Dd N z=i) (hz:EM N z=z')=>f4 (L:=lE is own M N a mo) (S:=hR z0 st M (fs.map Bn) (EL M fs) (xs.map Cp) (gs.map BO) (es.map Bj) (Ai (AY xs++BD gs++BV es++C9 bs)++Ai (Cf [i,.fin])) [.lst [.int z'],.lst (bs.map AX++[AX [i,.fin]])]) (S':=hE z0 st M fs xs gs es (EM N z) (bs++[[Dd N z,.fin]])) 19 (by
  unfold hE;rw[he,hz,BP,Ej]
  congr 2
  rw[Gd]
  congr 1
  unfold C9;rw[G5]) (Oi rfl)
 have ref:Dd N z=.rf (Bt (Aw z 4) N)->EM N z=Aw (Aw z 4) N->(Bw 20 (Ag s) (.int 3))=some false->Aar k is own M N a mo t (hE z0 st M fs xs gs es z bs) (hE z0 st M fs xs gs es (EM N z) (bs++[[Dd N z,.fin]])):=λhr hrz hc=>by
  generalize hn:Bt (Aw z 4) N=n at hr
  have q3:=qd (z:=Aw z 4) hN hn;exact⟨(.go::(dA s++[.b false]++dN n++[.b true,.a,.b true])),kc (Ae q2 (Ae hc (Ae (gm hN) (Ae q3 (Ae (gd hN hN2) (Ae g3 (Ae (g4 1 (AM _)) (fin (.rf n) _ hr hrz)))))))) (by kernel_rfl)⟩
 rcases ZU h3 with rfl | rfl | rfl | rfl
 ·exact ref (by unfold Dd;simp only[hs]) (by unfold EM;simp only[hs]) rfl
 ·exact ref (by unfold Dd;simp only[hs]) (by unfold EM;simp only[hs]) rfl
 ·exact ref (by unfold Dd;simp only[hs]) (by unfold EM;simp only[hs]) rfl
 ·exact⟨(.go::(dA 3++[.a]++[.b true,.a,.b true])),kc (Ae q2 (Ae g3 (Ae (g4 0 (GG _)) (fin .nul (Aw z 4) (by unfold Dd;simp only[hs]) (by unfold EM;simp only[hs]))))) (by kernel_rfl)⟩
theorem Ul(z:Int):∀j,(Fx N z j).length=j:=by
 intro z1
 induction z1 with
 | zero =>
  exact rfl
 | succ j ih =>
  show(Fx N z j++[[Dd N (Kw N z j),.fin]]).length=_;rw[Bl,ih];rfl
theorem Aas(z:Int):∀j b,b∈Fx N z j->b.length<=2:=by
 intro z1
 induction z1 with
 | zero =>
  intro z2 h;exact nomatch h
 | succ j ih =>
  intro b h;exact(BM.mp h).elim (ih b) λh=>by rw[Cx.mp h];exact AM _
theorem AnM(z:Int)(j:Nat):(C9 (Fx N z j)).length<=2*j:=by
 have:=DF Cf 2 (Fx N z j) λb hb=>AE (Jr _) (Aas N z j b hb);rw[Ul]at this;exact this
include hl hN hN2 in
theorem AnN(he:es.length<=100)(hD:(AY xs++BD gs++BV es).length<=900)(a:Nat) :
  N5 k 9 is own M N a (hL z0 st M fs xs gs es []) (hL z0 st M fs xs gs (es++Fy N (cell is (11+a))) []):=by
 generalize hz:cell is (11+a)=z
 have v:=N4 (k+1) is hl (11+a);rw[hz]at v;have h2:=DA z (n:=2) (by decide)
 generalize hd:Bt z 2=d at h2
 have q1:=qd (z:=z) (n:=2) (by decide) hd
 have g3:some (small ((es.map Bj).length+1))=some true:=Ca (by rw[AJ];exact K3 he)
 rcases Qp h2 with rfl | rfl
 ·have e:Fy N z=[]:=by unfold Fy;simp only[hd]
  exact⟨.t (.int z)::(dA 0++[.a]),kc (Ae v (Ae q1 (f5 (L:=lJ is own M N) (S:=hL z0 st M fs xs gs es []) (S':=hL z0 st M fs xs gs (es++Fy N z) []) 17 18 (by rw[e,Dw]) rfl))) (by kernel_rfl)⟩
 ·have h3:=DA (Aw z 2) (n:=3) (by decide)
  generalize hs:Bt (Aw z 2) 3=mo at h3
  have q2:=qd (z:=Aw z 2) (n:=3) (by decide) hs
  have h4:=DA (Aw (Aw z 2) 3) (n:=3) (by decide)
  generalize hc:Bt (Aw (Aw z 2) 3) 3=c at h4
  have q3:=qd (z:=Aw (Aw z 2) 3) (n:=3) (by decide) hc
  have rg:=Ku (n:=1+c) (Ady h4);have loop:B4 (fB (k+2) 37 957 (Ef (D4 (Ef (D4 (AR 957 9)) 1)) 1)) 19 kE ((As (1+c)).map Ag) (lE is own M N a mo) (hE z0 st M fs xs gs es (Aw (Aw (Aw z 2) 3) 3) []) (lE is own M N a mo) (hE z0 st M fs xs gs es (Kw N (Aw (Aw (Aw z 2) 3) 3) (1+c)) (Fx N (Aw (Aw (Aw z 2) 3) 3) (1+c))):=by
   have:=Dm (B:=fB (k+2) 37 957 (Ef (D4 (Ef (D4 (AR 957 9)) 1)) 1)) (n:=19) (ks:=kE) Ag (λx=>lE is own M N a mo) (λys:List Nat=>hE z0 st M fs xs gs es (Kw N (Aw (Aw (Aw z 2) 3) 3) ys.length) (Fx N (Aw (Aw (Aw z 2) 3) 3) ys.length)) (As (1+c)) (As (1+c)) (λys t zs e=>by
    have hy:=EH e;rw[BY]at hy;have h6:=AnM N (Aw (Aw (Aw z 2) 3) 3) ys.length;have:=AnL k is z0 st own M N hN hN2 fs xs gs es a mo (Kw N (Aw (Aw (Aw z 2) 3) 3) ys.length) (Fx N (Aw (Aw (Aw z 2) 3) 3) ys.length) (by rw[Ul];exact Adx h4 hy) (by rw[Bl];exact Adw hD h4 hy h6) t
    rw[Bl];exact this) [] (As (1+c)) rfl
   rw[BY]at this;exact this
  have ee:Fy N z=[⟨QC mo,Fx N (Aw (Aw (Aw z 2) 3) 3) (1+c)⟩]:=by unfold Fy;simp only[hd];rw[hs,hc]
  generalize Kw N (Aw (Aw (Aw z 2) 3) 3) (1+c)=z' at loop
  generalize Fx N (Aw (Aw (Aw z 2) 3) 3) (1+c)=bs at loop ee
  have e0:hE z0 st M fs xs gs es (Aw (Aw (Aw z 2) 3) 3) []=hL z0 st M fs xs gs es [.lst [.int (Aw (Aw (Aw z 2) 3) 3)],.lst []]:=by
   unfold hE hL;rw[show C9 []=[]from rfl,Dw];rfl
  rw[e0]at loop;have fin:=f5 (L:=lJ is own M N) (S:=hR z0 st M (fs.map Bn) (EL M fs) (xs.map Cp) (gs.map BO) (es.map Bj++[Bj ⟨QC mo,bs⟩]) (Ai (AY xs++BD gs++BV es++C9 bs)) []) (S':=hL z0 st M fs xs gs (es++Fy N z) []) 17 19 (by
   have q:BV (es++[⟨QC mo,bs⟩])=BV es++C9 bs:=(AnI es _).trans (congrArg (BV es++·) (Dw _));unfold hL;rw[ee,BP,q,Gd (AY xs++BD gs)];rfl) rfl
  have all:=λ(P:Prop) (tl:P)=>Ae v (Ae q1 (Ae q2 (Ae q3 (Ae rg (Ae loop (Ae tl (Ae g3 fin)))))));have vc:=λ(off:T)=>T7 (k+1) (Ag mo) (.int 0) off (.int (-16)) (Ak (bs.map AX));rcases LP h3 with rfl | rfl | rfl
  ·exact⟨.t (.int z)::(dA 1++[.a]++dA 0++dA c++[.a,.l (Ai (As (1+c))),.st (lE is own M N a 0) (hE z0 st M fs xs gs es z' bs),.a,.t (Bj ⟨.m0,bs⟩),.b true]),kc (all _ (vc .none)) (by kernel_rfl)⟩
  ·exact⟨.t (.int z)::(dA 1++[.a]++dA 1++dA c++[.a,.l (Ai (As (1+c))),.st (lE is own M N a 1) (hE z0 st M fs xs gs es z' bs),.a,.t (Bj ⟨.m1,bs⟩),.b true]),kc (all _ (vc (AX [.con 3,.fin]))) (by kernel_rfl)⟩
  ·exact⟨.t (.int z)::(dA 1++[.a]++dA 2++dA c++[.a,.l (Ai (As (1+c))),.st (lE is own M N a 2) (hE z0 st M fs xs gs es z' bs),.a,.t (Bj ⟨.m2,bs⟩),.b true]),kc (all _ (vc .none)) (by kernel_rfl)⟩
end
end
section
noncomputable def IA(is:List Int)(N:Nat)(ys:List Nat):List CW:=ys.map λa=>Iz N (cell is (1+a))
noncomputable def IB(is:List Int)(N:Nat)(ys:List Nat):List CG:=ys.flatMap λa=>F4 N (cell is (5+a)) a
noncomputable def Ha(is:List Int)(N:Nat)(ys:List Nat):List CY:=ys.flatMap λa=>Ek N (cell is (8+a))
noncomputable def HR(is:List Int)(N:Nat)(ys:List Nat):List Ct:=ys.flatMap λa=>Fy N (cell is (11+a))
noncomputable def DQ(is:List Int):Nat:=Bt (cell is 0) 3
noncomputable def EN(is:List Int):Nat:=1+Bt (Aw (cell is 0) 3) 4
noncomputable def Cw(is:List Int):Nat:=DQ is+EN is
noncomputable def zS(is:List Int):Int:=Aw (Aw (cell is 0) 3) 4
noncomputable def Um(is:List Int):Option Nat:=match Bt (Aw (zS is) (Cw is)) 2 with
 | 0=>none
 | _=>some (Bt (zS is) (Cw is))
noncomputable def GD(is:List Int):Mod:=⟨[false,true,false],Kv (DQ is),IA is (Cw is) (As (EN is)),Ha is (Cw is) (As 3),IB is (Cw is) (As 3),Um is,HR is (Cw is) (As 3)⟩
theorem AnO(N:Nat)(z:Int)(a:Nat):(F4 N z a).length<=1:=by
 unfold F4
 split
 ·split<;>exact AM _
 ·exact GG _
theorem AnP(N:Nat)(z:Int):(Ek N z).length<=1:=by
 unfold Ek
 split
 ·exact AM _
 ·exact GG _
theorem AnQ(N:Nat)(z:Int):(Fy N z).length<=1:=by
 unfold Fy
 split
 ·exact AM _
 ·exact GG _
theorem AnR{N:Nat}{z:Int}{g:CY}(h:g∈Ek N z):g.body.length<=2:=by
 unfold Ek at h
 split at h
 ·rw[Cx.mp h];exact AM _
 ·rcases h with⟨⟩
theorem AnS{N:Nat}{z:Int}{e:Ct}(h:e∈Fy N z):e.inits.length<=3/\∀b,b∈e.inits->b.length<=2:=by
 unfold Fy at h
 split at h
 ·rw[Cx.mp h];have:=DA (Aw (Aw z 2) 3) (n:=3) (by decide)
  exact⟨by rw[Ul];exact AdG this,Aas N _ _⟩
 ·rcases h with⟨⟩
theorem Un(is:List Int)(N:Nat)(ys:List Nat):(IB is N ys).length<=1*ys.length:=DF _ 1 ys λa z=>AnO _ _ _
theorem Uo(is:List Int)(N:Nat)(ys:List Nat):(Ha is N ys).length<=1*ys.length:=DF _ 1 ys λa z=>AnP _ _
theorem Up(is:List Int)(N:Nat)(ys:List Nat):(HR is N ys).length<=1*ys.length:=DF _ 1 ys λa z=>AnQ _ _
theorem Aat{N:Nat}(g:CY)(h:g∈Ha is N ys):g.body.length<=2:=by
 refine Ah (CN.mp h) ?_;rintro a _ ha;exact AnR ha
theorem QD{N:Nat}(e:Ct)(h:e∈HR is N ys):e.inits.length<=3/\∀b,b∈e.inits->b.length<=2:=by
 refine Ah (CN.mp h) ?_;rintro a _ ha;exact AnS ha
theorem Aau(is:List Int)(N:Nat)(ys:List Nat):(BD (Ha is N ys)).length<=2*ys.length:=by
 have h1:(BD (Ha is N ys)).length<=2*(Ha is N ys).length:=DF _ 2 _ λg h=>AE (Jr _) (Aat g h);have h2:=Uo is N ys;exact AdF h1 h2
theorem AnT(is:List Int)(N:Nat)(ys:List Nat):(BV (HR is N ys)).length<=6*ys.length:=by
 have h1:(BV (HR is N ys)).length<=6*(HR is N ys).length:=DF _ 6 _ λe h=>by
  have q:(C9 e.inits).length<=2*e.inits.length:=DF _ 2 e.inits λb hb=>AE (Jr _) ((QD e h).2 b hb);have:=(QD e h).1;exact O5 q this
 have h2:=Up is N ys;exact AdE h1 h2
noncomputable def jk(ys:List Nat):W:=if ys.length=0 then .own 0 else .junk
theorem AnU(ys:List Nat)(a:Nat):jk (ys++[a])=.junk:=if_neg (by rw[Bl];exact AqM _)
section
variable (k:Nat)(is:List Int)(hl:is.length<=63)(z0:Int)(st:T)(own M N:Nat)(hN:0<N)(hN2:N<=100)(hM:M<=100)(h4:own<=4)
include hl hN hN2 hM h4
theorem AnV(h1:0<own):B4 (fB (k+2) 39 957 (AR 957 6)) 17 (nm kB) ((As own).map Ag) (lB (C4 is) (.own 0) own M N []) (hL z0 st M [] [] [] [] []) (lJ is own M N) (hL z0 st M (IA is N (As own)) [] [] [] []):=by
 have:=Dm (B:=fB (k+2) 39 957 (AR 957 6)) (n:=17) (ks:=nm kB) Ag (λys=>lB (C4 is) (jk ys) own M N []) (λys=>hL z0 st M (IA is N ys) [] [] [] []) (As own) (As own) (λys a zs e=>by
  have hy:=EH e;rw[BY]at hy;have:=AnF k is hl z0 st own M N hN hN2 (IA is N ys) [] [] [] (by unfold IA;rw[AJ];exact AdD h4 hy) hM (jk ys) a
  rw[AnU];unfold IA at this ⊢;rw[BP];exact this) [] (As own) rfl
 rw[show jk (As own)=.junk from if_neg (by rw[BY];exact AdC h1)]at this
 exact this
theorem AnW(fs:List CW):B4 (fB (k+2) 39 957 (AR 957 7)) 17 (nm kB) ((As 3).map Ag) (lJ is own M N) (hL z0 st M fs [] [] [] []) (lJ is own M N) (hL z0 st M fs (IB is N (As 3)) [] [] []) :=
 Dm (B:=fB (k+2) 39 957 (AR 957 7)) (n:=17) (ks:=nm kB) Ag (λys=>lJ is own M N) (λys=>hL z0 st M fs (IB is N ys) [] [] []) (As 3) (As 3) (λys a zs e=>by
  have hy:=EH e;rw[BY]at hy;have h:=Un is N ys;have:=AnJ k is hl z0 st own M N hN hN2 fs (IB is N ys) (RH hy h) a (Dx.mp (Ei e));unfold IB at this ⊢;rw[G5];exact this) [] (As 3) rfl
theorem AnX(fs:List CW)(xs:List CG)(hx:xs.length<=100):B4 (fB (k+2) 39 957 (AR 957 8)) 17 (nm kB) ((As 3).map Ag) (lJ is own M N) (hL z0 st M fs xs [] [] []) (lJ is own M N) (hL z0 st M fs xs (Ha is N (As 3)) [] []) :=
 Dm (B:=fB (k+2) 39 957 (AR 957 8)) (n:=17) (ks:=nm kB) Ag (λys=>lJ is own M N) (λys=>hL z0 st M fs xs (Ha is N ys) [] []) (As 3) (As 3) (λys a zs e=>by
  have hy:=EH e;rw[BY]at hy;have h:=Uo is N ys;have h2:=Aau is N ys;have:=AnK k is hl z0 st own M N hN hN2 fs xs (Ha is N ys) hx (RH hy h) (AdB hy h2) a;unfold Ha at this ⊢;rw[G5];exact this) [] (As 3) rfl
theorem AnY(fs:List CW)(xs:List CG)(gs:List CY)(hx:(AY xs++BD gs).length<=100):B4 (fB (k+2) 39 957 (AR 957 9)) 17 (nm kB) ((As 3).map Ag) (lJ is own M N) (hL z0 st M fs xs gs [] []) (lJ is own M N) (hL z0 st M fs xs gs (HR is N (As 3)) []) :=
 Dm (B:=fB (k+2) 39 957 (AR 957 9)) (n:=17) (ks:=nm kB) Ag (λys=>lJ is own M N) (λys=>hL z0 st M fs xs gs (HR is N ys) []) (As 3) (As 3) (λys a zs e=>by
  have hy:=EH e;rw[BY]at hy;have h:=Up is N ys;have h2:=AnT is N ys;have:=AnN k is hl z0 st own M N hN hN2 fs xs gs (HR is N ys) (RH hy h) (by rw[Bl];exact AdA hx hy h2) a
  unfold HR at this ⊢;rw[G5];exact this) [] (As 3) rfl
end
theorem Uq(N:Nat)(hN:0<N):(∀z a,∀i,i∈AY (F4 N z a)->i<N)/\(∀z,∀i,i∈Bh [Dd N z]->i<N)/\(∀z,∀i,i∈Bh (E7 N z)->i<N):=by
 refine⟨λz a i h => ?_,λz i h => ?_,λz i h => ?_⟩
 ·unfold F4 at h
  split at h
  ·split at h
   ·rw[Cx.mp h];exact DA _ hN
   ·rcases h with⟨⟩
  ·rcases h with⟨⟩
 ·unfold Dd at h
  split at h
  ·rcases h with⟨⟩
  ·rw[Cx.mp h];exact DA _ hN
 ·unfold E7 at h
  split at h<;>first | (rw[Cx.mp h];exact DA _ hN) | rcases h with⟨⟩
end
theorem AnZ{M:Nat}(h:M<3):(Kv M).filterMap Dn.k=As M:=by
 rcases LP h with rfl | rfl | rfl
 ·rfl
 ·rfl
 ·rfl
theorem Ur(is:List Int):(GD is).iks=As (DQ is):=AnZ (DA _ (by decide))
theorem LY(is:List Int):(GD is).ik.length=DQ is:=by rw[Mod.ik_eq,Ur,Cu,BY]
theorem Aav(is:List Int):(GD is).funcs.length=EN is:=by
 show(Hl _ _).length=_;rw[AJ,BY]
theorem Aaw(is:List Int):(GD is).N=Cw is:=by unfold Mod.N Cw;rw[LY,Aav]
theorem Us(is:List Int):0<Cw is:=by unfold Cw EN;exact AdN
theorem N6(is:List Int):DQ is<3:=DA _ (by decide)
theorem Aax(is:List Int):0<EN is/\EN is<=4:=by
 have:=DA (Aw (cell is 0) 3) (n:=4) (by decide)
 unfold EN;exact AdM this
theorem Aay{N:Nat}(hN:0<N){z:Int}(i:Nat)(h:i∈Bh [Dd N z,.fin]):i<N:=by
 rw[show[Dd N z,Ba.fin]=[Dd N z]++[Ba.fin]from rfl,N0]at h;exact(BM.mp h).elim ((Uq N hN).2.1 z i) λh=>nomatch h
theorem An0{N:Nat}(hN:0<N){z:Int}:∀(j:Nat) (b:List Ba),b∈Fx N z j->∀i,i∈Bh b->i<N:=by
 intro z1
 induction z1 with
 | zero =>
  intro z2 h;exact nomatch h
 | succ j ih =>
  intro b h;exact(BM.mp h).elim (ih b) λh=>by rw[Cx.mp h];exact Aay hN
theorem An1{N:Nat}(hN:0<N){z:Int}:∀(j i:Nat),i∈Bh (G9 N z j)->i<N:=by
 intro z1
 induction z1 with
 | zero =>
  intro z2 h;exact nomatch h
 | succ j ih =>
  intro i h;rw[show G9 N z (j+1)=G9 N z j++E7 N (Iy N z j)from rfl,N0]at h;exact(BM.mp h).elim (ih i) ((Uq N hN).2.2 _ i)
theorem Aaz(is:List Int):(GD is).Wf where
 kinds:=AM 3
 imps:=by
  show(Kv (DQ is)).length<=3;have:=N6 is
  generalize DQ is=M at this
  rcases LP this with rfl | rfl | rfl
  ·exact GG _
  ·exact Oi rfl
  ·exact AM _
 funcs:=by rw[Aav];exact(Aax is).2
 globs:=Uo is _ (As 3)
 exps:=Un is _ (As 3)
 elems:=Up is _ (As 3)
 gb:=Aat
 ei:=λe h=>(QD e h).1
 eb:=λe h=>(QD e h).2
 fb:=λf h=>by
  refine Ah (BH.mp h) ?_;rintro a _ rfl;unfold Iz;have h1:=Uk (Cw is) (Aw (Aw (cell is (1+a)) 3) 4) (Bt (Aw (cell is (1+a)) 3) 4);have h2:=DA (Aw (cell is (1+a)) 3) (n:=4) (by decide)
  simp only[Bl,BN,DU];exact AdL h1 h2
 rts:=λi h=>by
  rw[Aaw];have hN:=Us is;unfold Mod.roots at h;rcases BM.mp h with h | h
  ·rcases BM.mp h with h | h
   ·rcases BM.mp h with h | h
    ·rcases BM.mp h with h | h
     ·rw[LY]at h;have:=Dx.mp h;unfold Cw;exact AdK this
     ·refine Ah (CN.mp h) ?_;rintro x hx hi;refine Ah (CN.mp hx) ?_;rintro a _ ha;exact(Uq _ hN).1 _ _ i (CN.mpr ⟨x,ha,hi⟩)
    ·have e:(GD is).start=Um is:=rfl;rw[e]at h;unfold Um at h
     split at h
     ·rcases h with⟨⟩
     ·rw[Cx.mp h];exact DA _ hN
   ·refine Ah (CN.mp h) ?_;rintro g hg hi;refine Ah (CN.mp hg) ?_;rintro a _ ha;unfold Ek at ha
    split at ha
    ·rw[Cx.mp ha]at hi;exact Aay hN i hi
    ·rcases ha with⟨⟩
  ·refine Ah (CN.mp h) ?_;rintro e he hi;refine Ah (CN.mp hi) ?_;rintro b hb hi;refine Ah (CN.mp he) ?_;rintro a _ ha;unfold Fy at ha
   split at ha
   ·rw[Cx.mp ha]at hb;exact An0 hN _ b hb i hi
   ·rcases ha with⟨⟩
 nxt:=λf h j q=>by
  rw[Aaw];refine Ah (BH.mp h) ?_;rintro a _ rfl;unfold Iz at q;rw[N0]at q;exact(BM.mp q).elim (An1 (Us is) _ j) λh=>nomatch h
 kfn:=λf h=>by
  refine Ah (BH.mp h) ?_;rintro a _ rfl;exact DA _ (by decide)
 kim:=λi h=>by
  rw[Ur]at h;exact Mm (Dx.mp h) (N6 is)
theorem QE(z:m.Wf)(i:Nat)(h:i∈m.decl):i<m.N:=by
 refine z.rts i ?_;have sub:∀(b:List Ba) (i:Nat),i∈Cf b->i∈Bh b:=λb i h=>by
  refine Ah (CN.mp h) ?_;rintro x hx hi;refine IK.mpr ⟨x,hx,?_⟩;rcases x with _ | n | _ | _ | _ | _
  case rf=>rw[Cx.mp hi];rfl
  all_goals rcases hi with⟨⟩
 unfold Mod.decl at h;unfold Mod.roots;rcases BM.mp h with h | h
 ·rcases BM.mp h with h | h
  ·exact Cg _ (Cg _ (Cg _ (CC _ h)))
  ·refine Ah (CN.mp h) ?_;rintro g hg hi;exact Cg _ (CC _ (CN.mpr ⟨g,hg,sub _ _ hi⟩))
 ·refine Ah (CN.mp h) ?_;rintro e he hi;refine Ah (CN.mp hi) ?_;rintro b hb hi;exact CC _ (CN.mpr ⟨e,he,CN.mpr ⟨b,hb,sub _ _ hi⟩⟩)
noncomputable def Mod.dset(m:Mod):List Nat:=Jt m.N m.decl
noncomputable def hC(z:Int)(M:Nat):AH:=[.lst [.int z],.ins 810 (Ui.zip [.own 2,.own 3,.own 4,.own 5,.own 6,.own 7,.own 8,.fz .none,.own 9,.own 10,.own 11]),.lst [],.lst ((Kv M).map BB)]++D9 9 (.lst [])
noncomputable def AaA(is:List Int):T:=Az [B6 (GD is),Ak (Ai (GD is).dset),Ak (EL (DQ is) (GD is).funcs)]
theorem An2{N:Nat}{l:List Nat}(h:∀i,i∈l->i<N)(hN:N<=7):(ob (FW (Ai l)) λl=>some ((HC l).map λ(n:Nat)=>T.int (n:Int)))=some (Ai (Jt N l)):=by
 rw[Aaa λi m=>Fb (h i m) hN,<- Z9 h]
noncomputable def z5(c0:Int)(M d:Nat):Int:=Aw (Aw (Aw (Aw c0 3) 4) (M+(1+d))) 2
noncomputable def QF(M:Nat)(D:List Nat)(fs:List CW)(gs:List CY)(xs:List CG)(es:List Ct)(st:Option Nat):T:=Az [B6 ⟨[false,true,false],Kv M,fs,gs,xs,st,es⟩,Ak (Ai D),Ak (EL M fs)]
def An3(k:Nat)(M b s d:Nat)(c0:Int)(sc:List T)(D:List Nat)(fs:List CW)(gs:List CY)(xs:List CG)(es:List Ct)(st:Option Nat):Prop :=
 Rv.v (Vf (.int ((Aw c0 3).fmod ((4:Nat):Int))))=Rv.v (Vf (Ag d)) /\
 CB (cB (k+2) 38 957 [] (hC (Aw (Aw c0 3) 4) M) (DN (B5 (AR 957 2)) 1)) (Hl Ag (As M)) (Hl (λz=>Ak []) (As M)) /\
 some (decide (((M+(1+d):Nat):Int)≠0))=some true /\
 Rv.v (Vf (.int ((Aw (Aw c0 3) 4).fmod ((M+(1+d):Nat):Int))))=Rv.v (Vf (Ag s)) /\
 some (decide (((M+(1+d):Nat):Int)≠0/\((M+(1+d):Nat):Int).natAbs<1073741824))=some true /\
 Rv.v (Vf (.int ((Aw (Aw (Aw c0 3) 4) (M+(1+d))).fmod ((2:Nat):Int))))=Rv.v (Vf (Ag b)) /\
 G2 [Vf (Ag (1+d))]=some (Hl Ag (As (1+d))) /\
 B4 (fB (k+2) 39 957 (AR 957 6)) 17 (nm kB) (Hl Ag (As (1+d))) (lB sc (.own 0) (1+d) M (M+(1+d)) []) (hL (z5 c0 M d) (D5 st) M [] [] [] [] []) (lB sc .junk (1+d) M (M+(1+d)) []) (hL (z5 c0 M d) (D5 st) M fs [] [] [] []) /\
 B4 (fB (k+2) 39 957 (AR 957 7)) 17 (nm kB) (Hl Ag (As 3)) (lB sc .junk (1+d) M (M+(1+d)) []) (hL (z5 c0 M d) (D5 st) M fs [] [] [] []) (lB sc .junk (1+d) M (M+(1+d)) []) (hL (z5 c0 M d) (D5 st) M fs xs [] [] []) /\
 B4 (fB (k+2) 39 957 (AR 957 8)) 17 (nm kB) (Hl Ag (As 3)) (lB sc .junk (1+d) M (M+(1+d)) []) (hL (z5 c0 M d) (D5 st) M fs xs [] [] []) (lB sc .junk (1+d) M (M+(1+d)) []) (hL (z5 c0 M d) (D5 st) M fs xs gs [] []) /\
 B4 (fB (k+2) 39 957 (AR 957 9)) 17 (nm kB) (Hl Ag (As 3)) (lB sc .junk (1+d) M (M+(1+d)) []) (hL (z5 c0 M d) (D5 st) M fs xs gs [] []) (lB sc .junk (1+d) M (M+(1+d)) []) (hL (z5 c0 M d) (D5 st) M fs xs gs es []) /\
 (ob (FW (Ai (AY xs++BD gs++BV es))) λl=>some (Hl (λ(n:Nat)=>T.int (n:Int)) (HC l)))=some (Ai D) /\
 QF M D fs gs xs es st=QF M D fs gs xs es st
noncomputable def An4(b s:Nat):Option Nat:=match b with
 | 0=>none
 | _=>some s
theorem An5(k:Nat){M b s d:Nat}{c0:Int}{sc:List T}{D:List Nat}{fs:List CW}{gs:List CY}{xs:List CG}{es:List Ct}(hM':M=0\/M=1\/M=2)(hb':b=0\/b=1)(v:VF (k+1+1) 924 [Ak sc,Ag 0] (.int c0))(q1:Rv.v (Vf (.int (c0.fmod ((3:Nat):Int))))=Rv.v (Vf (Ag M)))(h:∀st,An3 k M b s d c0 sc D fs gs xs es st) :
  VF (k+3) 957 [Ak sc] (QF M D fs gs xs es (An4 b s)):=by
 have main:=λ(M b:Nat) (st:Option Nat) (vs:List Al) (P:Prop) (all:P)=>(λq=>Bx (k:=k+2) (f:=957) (ts:=[Ak sc]) (r:=QF M D fs gs xs es st) ([Al.t (.int c0),.go,.go]++dA M++vs++dA d++[.a,.a,.a,.l ((As M).map λz=>Ak [])]++dN s++dA b++[.l (Ai (As (1+d))),.st (lB sc .junk (1+d) M (M+(1+d)) []) (hL (z5 c0 M d) (D5 st) M fs [] [] [] []),.st (lB sc .junk (1+d) M (M+(1+d)) []) (hL (z5 c0 M d) (D5 st) M fs xs [] [] []),.st (lB sc .junk (1+d) M (M+(1+d)) []) (hL (z5 c0 M d) (D5 st) M fs xs gs [] []),.st (lB sc .junk (1+d) M (M+(1+d)) []) (hL (z5 c0 M d) (D5 st) M fs xs gs es []),.l (Ai D)]) (kc all q));have i0:=LQ k (sT "h") (sT "f") (.int 0) (Ag 0);have i1:=LQ k (sT "h") (sT "f") (.int 0) (Ag 1);have ig:=LQ k (sT "h") (sT "g") (.int 3) HM;rcases hM' with rfl | rfl | rfl
 ·rcases hb' with rfl | rfl
  ·exact main 0 0 none [] _ (Ae v (Ae q1 (h none))) (by kernel_rfl)
  ·exact main 0 1 (some s) [] _ (Ae v (Ae q1 (h (some s)))) (by kernel_rfl)
 ·have main:=λb st (H:Prop) (h:H)=>main 1 b st [.t (BB (.f 0)),.t (BB .g)] _ (Ae v (Ae q1 (Ae i0 (Ae ig h))));rcases hb' with rfl | rfl
  ·exact main 0 none _ (h none) (by kernel_rfl)
  ·exact main 1 (some s) _ (h (some s)) (by kernel_rfl)
 ·have main:=λb st (H:Prop) (h:H)=>main 2 b st [.t (BB (.f 0)),.t (BB .g),.t (BB (.f 1))] _ (Ae v (Ae q1 (Ae i0 (Ae ig (Ae i1 h)))));rcases hb' with rfl | rfl
  ·exact main 0 none _ (h none) (by kernel_rfl)
  ·exact main 1 (some s) _ (h (some s)) (by kernel_rfl)
theorem An6(k:Nat)(is:List Int)(hl:is.length<=63):VF (k+3) 957 [Ak (C4 is)] (AaA is):=by
 have hM:=N6 is;have hO:=Aax is;have hN:=Us is;have hNe:Cw is=DQ is+EN is:=rfl;have q1:=qd (z:=cell is 0) (n:=3) (d:=DQ is) (by decide) rfl
 have q2:=qd (z:=Aw (cell is 0) 3) (n:=4) (by decide) (rfl:Bt _ _=Bt (Aw (cell is 0) 3) 4)
 have q3:=qd (z:=zS is) hN (rfl:Bt _ _=Bt (zS is) (Cw is));have hb:=DA (Aw (zS is) (Cw is)) (n:=2) (by decide)
 have q4:=λb (h:Bt (Aw (zS is) (Cw is)) 2=b)=>qd (z:=Aw (zS is) (Cw is)) (n:=2) (by decide) h
 have wf:=Aaz is;have set:=An2 (N:=(GD is).N) (QE wf) wf.n_le;have v:=N4 (k+1) is hl 0;have rg:=Ku (n:=EN is) (AdJ hO);have hx:=Un is (Cw is) (As 3);have hg:=Aau is (Cw is) (As 3);rw[BY]at hx hg;have hx2:=LS (IB is (Cw is) (As 3));have lX:=λz0 st=>AnW k is hl z0 st (EN is) (DQ is) (Cw is) hN (Mz hM hO hNe) (O6 hM) hO.2 (IA is (Cw is) (As (EN is)));have lG:=λz0 st=>AnX k is hl z0 st (EN is) (DQ is) (Cw is) hN (Mz hM hO hNe) (O6 hM) hO.2 (IA is (Cw is) (As (EN is))) (IB is (Cw is) (As 3)) (AdI hx);have lE:=λz0 st=>AnY k is hl z0 st (EN is) (DQ is) (Cw is) hN (Mz hM hO hNe) (O6 hM) hO.2 (IA is (Cw is) (As (EN is))) (IB is (Cw is) (As 3)) (Ha is (Cw is) (As 3)) (by rw[Bl];exact AdH hx hg hx2)
 have lF:=λz0 st=>AnV k is hl z0 st (EN is) (DQ is) (Cw is) hN (Mz hM hO hNe) (O6 hM) hO.2 hO.1;have cC:=De (B:=cB (k+2) 38 957 [] (hC (zS is) (DQ is)) (DN (B5 (AR 957 2)) 1)) Ag (λq=>Ak []) (As (DQ is)) λa q=>⟨[],kc (tr (hC (zS is) (DQ is)) (some (Ak []))) (by kernel_rfl)⟩
 exact An5 k (Wl hM) (Wm hb) v q1 λst=>⟨q2,cC,gm hN,q3,gd hN (N:=Cw is) (Mz hM hO hNe),q4 _ rfl,rg,lF _ _,lX _ _,lG _ _,lE _ _,set,rfl⟩
noncomputable def E8:Expr×Ac×Ac×List Expr×List AN:=match Lz EB.1.body with
 | some x=>x
 | none=>(xE,Ab "",Ab "",[],[])
theorem An7:Lz EB.1.body=some E8:=by kernel_rfl
def VT(ts:List T)(r:T):Prop:=∀K,B3 K->∀(X:Nat->Prop) σ vs,(∀a,X a->a<σ.length)->AB X σ vs ts->∃v σ',Jh (BW K NL 18) NL EB.1 vs σ=.ok v σ'/\(∀(a:Nat) o,σ[a]? = some o->σ'[a]? = some o)/\TR X σ' v r
noncomputable def QG(a b:T):An:=[(Ab "scope",.fz a),(Ab "number",.fz b)]
theorem An8(K:Bk)(fn:Af->Option (List CV->CM CV))(why:Ac)(σ:CH):Kb { Ig K with fn:=fn } E8.2.1 E8.2.2.1 E8.2.2.2.1 ⟨152,[(Ab "why",.str why),(Ab "function",.int 6),(Ab "at",.int 1)]⟩ σ=.ok (.tup [.str why,.int 6,.int 1]) σ:=by kernel_rfl
theorem An9(Γ:AP)(ks:AF)(loc:Ao)(σ:CH):G1 Γ (Bu Γ NL).1 (Bu Γ NL).2 ks NL E8.2.2.2.2 loc σ=.ok (.ret .none,loc) σ:=by kernel_rfl
set_option tactic.hygienic true in
theorem AaB(Γ:AP)(a b:CV)(σ:CH):Jh Γ NL EB.1 [a,b] σ=(match (Bu Γ NL).1 EB.1.scope.names ([Ab "scope",Ab "number"].zip [a,b]) E8.1 σ with
   | .ok _ σ1=>bnd (G1 Γ (Bu Γ NL).1 (Bu Γ NL).2 EB.1.scope.names NL E8.2.2.2.2 ([Ab "scope",Ab "number"].zip [a,b])) (λp=>match p.1 with
    | .next=>ret .none
    | .ret v=>ret v) σ1
   | .exc x σ1=>Kb Γ E8.2.1 E8.2.2.1 E8.2.2.2.1 x σ1
   | .stuck=>.stuck):=by
 unfold Jh;rw[An7];exact congrFun (if_pos ⟨by kernel_rfl,by kernel_rfl,by kernel_rfl,by kernel_rfl,by kernel_rfl,by kernel_rfl⟩) σ
theorem Aoa{a b:T}(as:List Al)(h:(DY (Fo Dz true 18) 40).1 EB.1.scope.names (QG a b) E8.1 [] as (λz z z=>True)):VT [a,b] .none:=λK F X σ cs hX t=>by
 have hU:=NK t
 match cs,t,hU with
 | [c,d],t,hU =>
  have lc:AZ (Zx X [] []) [] σ ([Ab "scope",Ab "number"].zip [c,d]) (QG a b):=Qm (xs:=[Ab "scope",Ab "number"]) (ws:=[.fz a,.fz b]) ⟨hU.1,hU.2.1,trivial⟩;refine VZ (((NH (NJ F (qt:=true) (λz z h=>h) 18) 40).1 _ _ _ _ _ _ h X [] σ _ (Kr hX) lc).out) ?_;rintro v σ1 ρ1 α1 e p _;refine⟨.none,σ1,?_,λa o h=>p.keep a o h Qo,.none⟩;rw[AaB];have e':(Bu (BW K NL 18) NL).1 EB.1.scope.names ([Ab "scope",Ab "number"].zip [c,d]) E8.1 σ=.ok v σ1:=e;rw[e'];show bnd _ _ σ1=_;unfold bnd;rw[An9];rfl
theorem Ut{a b:T}(why:Ac)(as:List Al)(h:(DY (Fo (λx=>x=⟨152,[(Ab "why",.str why),(Ab "function",.int 6),(Ab "at",.int 1)]⟩) false 18) 40).1 EB.1.scope.names (QG a b) E8.1 [] as (λz z z=>False)):VT [a,b] (Az [.str why,.int 6,.int 1]):=λK F X σ cs hX t=>by
 have hU:=NK t
 match cs,t,hU with
 | [c,d],t,hU =>
  have lc:AZ (Zx X [] []) [] σ ([Ab "scope",Ab "number"].zip [c,d]) (QG a b):=Qm (xs:=[Ab "scope",Ab "number"]) (ws:=[.fz a,.fz b]) ⟨hU.1,hU.2.1,trivial⟩;have r:=(NH (NJ F (qt:=false) (λh=>nomatch h) 18) 40).1 _ _ _ _ _ _ h X [] σ _ (Kr hX) lc
  unfold Sm at r;rw[AaB];rcases e:(Bu (BW K NL 18) 40).1 EB.1.scope.names ([Ab "scope",Ab "number"].zip [c,d]) E8.1 σ with _ | ⟨v,σ1⟩ | ⟨x,σ1⟩
  ·rw[e]at r;exact r.elim
  ·rw[e]at r;rcases r with⟨ρ1,α1,_,r1,as1,_,q⟩
   exact q.elim
  ·rw[e]at r;refine Au r ?_;clear r;rintro r1 r2;subst r2;have e':(Bu (BW K NL 18) NL).1 EB.1.scope.names ([Ab "scope",Ab "number"].zip [c,d]) E8.1 σ=.exc ⟨152,[(Ab "why",.str why),(Ab "function",.int 6),(Ab "at",.int 1)]⟩ σ1:=e;rw[e'];refine AK (Jf K NL 18) ?_;rintro fn el;refine⟨.tup [.str why,.int 6,.int 1],σ1,?_,λa o h=>r1 a o h Qo,.tup rfl (.cons (.str _) (.cons (.int _) (.cons (.int _) .nil)))⟩;show Kb (BW K NL 18) _ _ _ _ σ1=_;rw[el];exact An8 K fn why σ1
section
noncomputable def N7(fs ns:List Nat):List Nat:=ns.foldl (λfs n=>if n∈fs then fs else fs++[n]) fs
theorem Aob:∀(ns fs:List Nat),note (eF fs) ns=eF (N7 fs ns):=by
 intro z1
 induction z1 with
 | nil =>
  intro z2;exact rfl
 | cons n ns ih =>
  intro fs;show note (Cn (eF fs) n (.bool true)) ns=eF (N7 (if n∈fs then fs else fs++[n]) ns)
  by_cases h:n∈fs
  ·rw[if_pos h,AmW h];exact ih fs
  ·rw[if_neg h,T9 h];exact ih _
theorem Aoc:∀(ns fs:List Nat) (i:Nat),i∈N7 fs ns↔i∈fs\/i∈ns:=by
 intro z1
 induction z1 with
 | nil =>
  intro z2 z3;exact⟨.inl,λh=>h.elim id λh=>nomatch h⟩
 | cons n ns ih =>
  intro fs i;refine(ih (if n∈fs then fs else fs++[n]) i).trans ?_;rw[AV]
  by_cases h:n∈fs
  ·rw[if_pos h];exact⟨λq=>q.imp id .inr,λq=>q.elim .inl λq=>q.elim (λe=>.inl (e▸h)) .inr⟩
  ·rw[if_neg h,BM,Cx,or_assoc]
theorem Uu:∀(ns fs:List Nat),fs.Nodup->(N7 fs ns).Nodup:=by
 intro z1
 induction z1 with
 | nil =>
  intro z2 h;exact h
 | cons n ns ih =>
  intro fs h;refine ih (if n∈fs then fs else fs++[n]) ?_
  by_cases q:n∈fs
  ·rw[if_pos q];exact h
  ·rw[if_neg q];exact F7.mpr ⟨h,Dv.mpr ⟨(λh=>nomatch h),Ho⟩,λa ha b hb=>by rintro rfl;exact q (Cx.mp hb▸ha)⟩
noncomputable def Mod.dl(m:Mod):List Nat:=N7 [] m.decl
theorem Uv(m:Mod):Fq m=eF m.dl:=Aob m.decl []
theorem N8:i∈m.dl↔i∈m.decl:=by
 unfold Mod.dl;rw[Aoc];exact⟨λh=>h.elim (λh=>nomatch h) id,.inr⟩
theorem Jw(z:m.Wf){i:Nat}:i∈m.dset↔i∈m.decl:=Ud (QE z)
noncomputable def Mod.allK(m:Mod):List Nat:=m.iks++m.funcs.map (·.kind)
theorem AaC(m:Mod):m.ik++m.fk=Ai m.allK:=by
 rw[Mod.ik_eq,show m.fk=Ai (m.funcs.map (·.kind))from by unfold Mod.fk Ai;rw[C5];rfl,Ej]
 rfl
theorem AaD(m:Mod):m.allK.length=m.N:=by
 unfold Mod.allK Mod.N;rw[Bl,AJ,Mod.ik_eq,Cu]
theorem Aod(z:m.Wf)(i:Nat)(h:i∈m.allK):i<m.kinds.length:=by
 rcases BM.mp h with h | h
 ·exact z.kim i h
 ·refine Ah (BH.mp h) ?_;rintro f hf rfl;exact z.kfn f hf
noncomputable def AaE(z:Int):T:=Jo [.int 0,Az [],Ak [Az [.int 1],Az [.int 210,.int z],Az [.int 26],Az [.int 11]]]
noncomputable def IC:Ac:=Ab "unknown function"
noncomputable def N9:Ac:=Ab "undeclared function reference"
noncomputable def Jx(N:Nat)(ds:List Nat)(z:Int):T:=if 0<=z/\z<N then(if z.toNat∈ds then .none else Az [.str N9,.int 6,.int 1])else Az [.str IC,.int 6,.int 1]
noncomputable def LZ(fu gl el de:T):T:=NQ [Ak ([false,true,false].map Be),fu,Ak [Eg],Ak [Eh],gl,el,.int 0,de]
theorem c6(z:Int):VC 18 591 [.int 0,Az [],Ak [Az [.int 1],Az [.int 210,.int z],Az [.int 26],Az [.int 11]]] (AaE z):=Qr 17 _ _ _
noncomputable def a6(z:Int)(r:List Al):List Al:=.t (AaE z)::(D9 13 .go++r)
theorem Aoe(fu:List T)(gl el:T)(es:List (Int×T))(z:Int)(h:¬0<=z):VT [LZ (Ak fu) gl el (DG es),.int z] (Az [.str IC,.int 6,.int 1]) :=
 Ut IC (a6 z [.b false,.go]) (kc (Ae (c6 z) (Ae (congrArg some (decide_eq_false h)) (Bi (⟨152,[(Ab "why",.str IC),(Ab "function",.int 6),(Ab "at",.int 1)]⟩:CX)))) (by kernel_rfl))
theorem Aof(fu:List T)(gl el:T)(es:List (Int×T))(z:Int)(h0:0<=z)(h:¬z<(fu.length:Int)):VT [LZ (Ak fu) gl el (DG es),.int z] (Az [.str IC,.int 6,.int 1]) :=
 Ut IC (a6 z [.b true,.b false,.go]) (kc (Ae (c6 z) (Ae (congrArg some (decide_eq_true h0)) (Ae (congrArg some (decide_eq_false h)) (Bi (⟨152,[(Ab "why",.str IC),(Ab "function",.int 6),(Ab "at",.int 1)]⟩:CX))))) (by kernel_rfl))
section
variable (fu:List T)(gl el:T)(es:List (Int×T))(z:Int)(kd:Nat)(kt:Bool)(h0:0<=z)(h:z<(fu.length:Int))(p:E4 fu z=some (Ag kd))(hk:kd<3)(p2:E4 ([false,true,false].map Be) (kd:Int)=some (Be kt))
include h0 h p hk p2
theorem Aog(d:(Cz ((es.map (·.1)).zip (es.map (·.2))) z).isSome=false):VT [LZ (Ak fu) gl el (DG es),.int z] (Az [.str N9,.int 6,.int 1]) :=
 Ut N9 (a6 z [.b true,.b true,.t (Ag kd),.go,.b true,.b true,.t (Be kt),.b true,.go])
  (kc (Ae (c6 z) (Ae (congrArg some (decide_eq_true h0)) (Ae (congrArg some (decide_eq_true h)) (Ae p (Ae (Bi (some true)) (Ae (show some (decide ((kd:Int)<(([false,true,false].map Be).length:Nat)))=some true from congrArg some (decide_eq_true (Me.mpr hk))) (Ae p2 (Ae (congrArg (λb=>some (!b)) d) (Bi (⟨152,[(Ab "why",.str N9),(Ab "function",.int 6),(Ab "at",.int 1)]⟩:CX)))))))))) (by kernel_rfl))
theorem Aoh(d:(Cz ((es.map (·.1)).zip (es.map (·.2))) z).isSome=true):VT [LZ (Ak fu) gl el (DG es),.int z] .none :=
 Aoa (a6 z ([.b true,.b true,.t (Ag kd),.go,.b true,.b true,.t (Be kt),.b false]++D9 20 .go))
  (kc (Ae (c6 z) (Ae (congrArg some (decide_eq_true h0)) (Ae (congrArg some (decide_eq_true h)) (Ae p (Ae (Bi (some true)) (Ae (show some (decide ((kd:Int)<(([false,true,false].map Be).length:Nat)))=some true from congrArg some (decide_eq_true (Me.mpr hk))) (Ae p2 (Ae (congrArg (λb=>some (!b)) d) True.intro)))))))) (by kernel_rfl))
end
theorem Aoi(m:Mod)(z:m.Wf)(hk:m.kinds=[false,true,false])(i:Int):VT [Ir m,.int i] (Jx m.N m.dset i):=by
 have e:Ir m=LZ (Ak (Ai m.allK)) (Ak (m.ig++m.gk)) (Ak (m.elems.map λx=>.int (-16))) (DG (eF m.dl)):=by
  unfold Ir LZ;rw[hk,AaC,Uv]
 rw[e];have hN:=z.n_le;unfold Jx
 by_cases h0:0<=i
 ·by_cases h:i<m.N
  ·rw[if_pos ⟨h0,h⟩];refine AK (AqQ h0) ?_;rintro n rfl;have hn:n<m.allK.length:=by rw[AaD];exact AdQ h
   have e1:m.allK[n]? = some m.allK[n]:=Ci hn;have hlt:=Aod z _ (Gg e1)
   generalize m.allK[n]=kd at e1 hlt
   rw[hk]at hlt;have p:=It Ag m.allK (k:=(n:Int)) rfl (AdP hN h) e1;have e2:[false,true,false][kd]? = some [false,true,false][kd]:=Ci hlt;have p2:=It Be [false,true,false] (k:=(kd:Int)) rfl (by have:kd<3:=hlt;exact Wu this) e2
   have hl:(n:Int)<((Ai m.allK).length:Int):=by rw[Cu];exact RG hn
   rw[show(n:Int).toNat=n from rfl];have d:(Cz (((eF m.dl).map (·.1)).zip ((eF m.dl).map (·.2))) n).isSome=decide (n∈m.dl):=by rw[LX,NT]
   by_cases q:n∈m.dset
   ·rw[if_pos q];rw[decide_eq_true (N8.mpr ((Jw z).mp q))]at d;exact Aoh _ _ _ _ _ kd _ h0 hl p hlt p2 d
   ·rw[if_neg q];rw[decide_eq_false (λh=>q ((Jw z).mpr (N8.mp h)))]at d;exact Aog _ _ _ _ _ kd _ h0 hl p hlt p2 d
  ·rw[if_neg λq=>h q.2];exact Aof _ _ _ _ i h0 (by rw[Cu,AaD];exact h)
 ·rw[if_neg λq=>h0 q.1];exact Aoe _ _ _ _ i h0
theorem Uw(n:Nat):∀ds:List Nat,Ed (Bw 20) (.int n) (Ai ds)=some (decide (n∈ds)):=by
 intro z1
 induction z1 with
 | nil =>
  exact rfl
 | cons x ds ih =>
  show(match Bw 20 (Ag x) (.int n),Ed (Bw 20) (.int n) (Ai ds)with | some a,some b=>some (a || b) | _,_=>none)=_
  rw[ih];show some (((x:Int) == (n:Int)) || decide (n∈ds))=_
  congr 1
  rw[AbG,Vj,beq_iff_eq,decide_eq_true_iff,decide_eq_true_iff,AV];exact or_congr ⟨λh=>(Wt h),λh=>(Ws h)⟩ Iff.rfl
theorem Aoj(k:Nat)(i:Int)(N:Nat)(ds:List Nat):VF (k+1) 981 [.int i,Ag N,Ak (Ai ds)] (Jx N ds i):=by
 unfold Jx
 by_cases h0:0<=i
 ·by_cases h:i<N
  ·rw[if_pos ⟨h0,h⟩];refine AK (AqQ h0) ?_;rintro n rfl;have a:=Uw n ds;rw[show(n:Int).toNat=n from rfl]
   by_cases q:n∈ds
   ·rw[if_pos q];rw[decide_eq_true q]at a;exact Bx [.b true,.b true,.b true] (kc (Ae (congrArg some (decide_eq_true h0)) (Ae (congrArg some (decide_eq_true h)) (Ae a (Bi T.none)))) (by kernel_rfl))
   ·rw[if_neg q];rw[decide_eq_false q]at a;exact Bx [.b true,.b true,.b false] (kc (Ae (congrArg some (decide_eq_true h0)) (Ae (congrArg some (decide_eq_true h)) (Ae a (Bi (Az [.str N9,.int 6,.int 1]))))) (by kernel_rfl))
  ·rw[if_neg λq=>h q.2];exact Bx [.b true,.b false] (kc (Ae (congrArg some (decide_eq_true h0)) (Ae (congrArg some (decide_eq_false h)) (Bi (Az [.str IC,.int 6,.int 1])))) (by kernel_rfl))
 ·rw[if_neg λq=>h0 q.1];exact Bx [.b false] (kc (Ae (congrArg some (decide_eq_false h0)) (Bi (Az [.str IC,.int 6,.int 1]))) (by kernel_rfl))
theorem Aok(k:Nat)(a b c d e f g h:T):VF (k+1) 988 [NQ [a,b,c,d,e,f,g,h]] (Az [a,b,c,d,e,f,g,h]):=Bx [] (kc (Bi (Az [a,b,c,d,e,f,g,h])) (by kernel_rfl))
theorem QH(h:n∈us):Kh (Ai us) (Ag n)=some (Ag (us.idxOf n)):=by
 have e:∀x:Nat,Bw 20 (Ag x) (Ag n)=some (x == n):=λx=>by
  show some ((x:Int) == (n:Int))=_
  congr 1
  rw[AbG,beq_iff_eq,beq_iff_eq];exact AdO
 have fi:∀us:List Nat,HL (Bw 20) (Ag n) (Ai us)=us.idxOf n:=λds=>by
  induction ds with
  | nil=>rfl
  | cons x ds ih =>
   show(if Bw 20 (Ag x) (Ag n)=some true then 0 else HL (Bw 20) (Ag n) (Ai ds)+1)=_;rw[ih,e,AcC];cases (x == n)<;>rfl
 unfold Kh;rw[Uw,fi,if_pos (by rw[decide_eq_true h])]
theorem Aol(k:Nat)(m:Mod)(b:List Ba)(h:∀n,n∈Bh b->n∈m.used):VF (k+1) 967 [AX b,Ak (Ai m.used)] (AX (Bq m b)):=by
 have c:CB (cB k 39 967 [(Ab "used",.fz (Ak (Ai m.used)))] [] (B5 (AR 967 0))) (b.map By) ((Bq m b).map By):=by
  unfold Bq;rw[<- mm (Qy m) By b];exact De By (λa=>By (Qy m a)) b λa ha=>by
   have hn:∀n,a.fns=some n->n∈m.used:=λn q=>h n (IK.mpr ⟨a,ha,q⟩);rcases a with⟨t,n⟩ | n | _ | n | _ | _
   ·rcases t with _ | _
    ·exact⟨[.a,.a,.a,.a,.t (Ag (m.fi n))],kc (Ae (QH (hn n rfl)) (tr ([]:AH) (some (By (.call false (m.fi n)))))) (by kernel_rfl)⟩
    ·exact⟨[.a,.a,.a,.a,.t (Ag (m.fi n))],kc (Ae (QH (hn n rfl)) (tr ([]:AH) (some (By (.call true (m.fi n)))))) (by kernel_rfl)⟩
   ·exact⟨[.a,.a,.a,.a,.t (Ag (m.fi n))],kc (Ae (QH (hn n rfl)) (tr ([]:AH) (some (By (.rf (m.fi n)))))) (by kernel_rfl)⟩
   ·exact⟨[],kc (tr ([]:AH) (some (By .drop))) (by kernel_rfl)⟩
   ·exact⟨[],kc (tr ([]:AH) (some (By (.con n)))) (by kernel_rfl)⟩
   ·exact⟨[],kc (tr ([]:AH) (some (By .nul))) (by kernel_rfl)⟩
   ·exact⟨[],kc (tr ([]:AH) (some (By .fin))) (by kernel_rfl)⟩
 exact Bx [.l ((Bq m b).map By)] (kc (Ae c (Bi (AX (Bq m b)))) (by kernel_rfl))
end
section
noncomputable def DR(m:Mod):List (List Nat):=(As m.ik.length).map (λz=>[])++m.funcs.map λf=>Bh f.body
noncomputable def DB(nm:List (List Nat)):List T:=nm.map λl=>Ak (Ai l)
theorem Aom(m:Mod):EL m.ik.length m.funcs=DB (DR m):=by
 unfold EL DB DR;rw[BP,C5,C5];rfl
noncomputable abbrev CR(f:List Bool):List T:=f.map .bool
noncomputable def GF(f:List Bool)(js:List Nat):List Bool:=js.foldl (λf j=>f.set j true) f
noncomputable def DS(nm:List (List Nat))(f:List Bool)(i:Nat):List Bool:=if f.getD i false=true then GF f (nm.getD i [])else f
noncomputable def Jy(nm:List (List Nat))(f:List Bool):List Bool:=(As nm.length).foldl (DS nm) f
noncomputable def CS(nm:List (List Nat))(f:List Bool):Nat->List Bool
 | 0=>f
 | t+1=>Jy nm (CS nm f t)
theorem AaF:∀(js:List Nat) (f:List Bool),(GF f js).length=f.length:=by
 intro z1
 induction z1 with
 | nil =>
  intro z2;exact rfl
 | cons j js ih =>
  intro f;exact(ih (f.set j true)).trans Hh
theorem Aon(nm:List (List Nat))(f:List Bool)(i:Nat):(DS nm f i).length=f.length:=by
 unfold DS
 split
 ·exact AaF _ _
 ·rfl
theorem Ux(nm:List (List Nat)):∀(is:List Nat) (f:List Bool),(is.foldl (DS nm) f).length=f.length:=by
 intro z1
 induction z1 with
 | nil =>
  intro z2;exact rfl
 | cons i is ih =>
  intro f;exact(ih (DS nm f i)).trans (Aon nm f i)
theorem Oa(nm:List (List Nat))(f:List Bool):∀t,(CS nm f t).length=f.length:=by
 intro z1
 induction z1 with
 | zero =>
  exact rfl
 | succ t ih =>
  exact(Ux nm _ (CS nm f t)).trans (ih)
theorem Aoo(d:A)(xs:List A):xs.zipIdx=(As xs.length).map λi=>(xs.getD i d,i):=by
 refine Acw λi => ?_;rw[AqG,Hp]
 by_cases h:i<xs.length
 ·rw[Rp h,Ci h];show some (xs[i],0+i)=some (xs.getD i d,i);rw[ET,Ci h,KC];rfl
 ·rw[GI (DJ.mp h),GI (by rw[BY];exact DJ.mp h)]
  rfl
theorem AaG(p:A->Bool)(g:A->B):∀xs:List A,(xs.filter p).map g=xs.filterMap λi=>if p i=true then some (g i)else none:=by
 intro z1
 induction z1 with
 | nil =>
  exact rfl
 | cons x xs ih =>
  rw[Ab7,Ack]
  by_cases h:p x=true
  ·rw[if_pos h,if_pos h];exact congrArg (g x::·) (ih)
  ·rw[if_neg h,if_neg h];exact ih
noncomputable def AaH(nm:List (List Nat))(i:Nat):T:=Az [Ag i,Ak (Ai (nm.getD i []))]
theorem Aop(nm:List (List Nat)):Gw (DB nm)=(As nm.length).map (AaH nm):=by
 unfold Gw DB;rw[AqP,Aoo [] nm,C5,C5];rfl
noncomputable abbrev E9(rs:List T)(nm:List (List Nat))(r:An):An:=[(Ab "roots",.fz (Ak rs)),(Ab "named",.fz (Ak (DB nm))),(Ab "found",.own 0)]++r
section
variable (k:Nat)(rs:List T)(nm:List (List Nat))(hn:nm.length<=100)(hj:∀l,l∈nm->∀j,j∈l->j<nm.length)
include hn in
theorem Aoq(l:List Nat)(hl:∀j,j∈l->j<nm.length)(t i:Nat)(f:List Bool)(hf:f.length=nm.length) :
  B4 (fB k 36 962 (Ef (D4 (Ef (D4 (Ef (D4 (AR 962 1)) 0)) 0)) 0)) 1 (Mine.Internal.nm ["roots","named","found","turn","number","names"]) (Ai l) (E9 rs nm [(Ab "turn",.fz (Ag t)),(Ab "number",.fz (Ag i)),(Ab "names",.fz (Ak (Ai l)))]) [.lst (CR f)] (E9 rs nm [(Ab "turn",.fz (Ag t)),(Ab "number",.fz (Ag i)),(Ab "names",.fz (Ak (Ai l)))]) [.lst (CR (GF f l))] :=
 Dm Ag (λz=>E9 rs nm [(Ab "turn",.fz (Ag t)),(Ab "number",.fz (Ag i)),(Ab "names",.fz (Ak (Ai l)))]) (λys=>[.lst (CR (GF f ys))]) l l (λys j zs e=>by
  have hj:=hl j (Ei e);have g:some (decide (0<=(j:Int)/\(j:Int)<((CR (GF f ys)).length:Int)))=some true:=congrArg some (decide_eq_true (by
   have:(CR (GF f ys)).length=nm.length:=by unfold CR;rw[AJ,AaF,hf]
   exact AdV hj this))
  have s:[AO.lst ((CR (GF f ys)).set j (.bool true))]=[.lst (CR (GF f (ys++[j])))]:=by
   unfold GF;rw[ON,<- List.map_set];rfl
  exact⟨[.b true],kc (Ae g (f4 (L:=E9 rs nm [(Ab "turn",.fz (Ag t)),(Ab "number",.fz (Ag i)),(Ab "names",.fz (Ak (Ai l)))]) 1 s (AM 1))) (by kernel_rfl)⟩) [] l rfl
theorem AaI{f:List Bool}(h:i<f.length)(h2:f.length<=100):E4 (CR f) (i:Int)=some (.bool (f.getD i false)):=It T.bool f rfl (AdU h h2) (by rw[ET,Ci h];rfl)
theorem Aor{xs:List (List A)}{j:A}(h:j∈xs.getD i []):xs.getD i []∈xs:=by
 rw[ET]at h ⊢;rcases e:xs[i]? with _ | x
 ·rw[e]at h;rcases h with⟨⟩
 ·exact Gg e
include hn hj in
theorem Aos(t:Nat)(f:List Bool)(hf:f.length=nm.length) :
  B4 (fB k 38 962 (Ef (D4 (AR 962 1)) 0)) 1 (Mine.Internal.nm ["roots","named","found","turn"]) (Gw (DB nm)) (E9 rs nm [(Ab "turn",.fz (Ag t))]) [.lst (CR f)] (E9 rs nm [(Ab "turn",.fz (Ag t))]) [.lst (CR (Jy nm f))]:=by
 rw[Aop];exact Dm (AaH nm) (λz=>E9 rs nm [(Ab "turn",.fz (Ag t))]) (λys=>[.lst (CR (ys.foldl (DS nm) f))]) (As nm.length) (As nm.length) (λys i zs e=>by
  have hi:=Dx.mp (Ei e);have hlen:(ys.foldl (DS nm) f).length=nm.length:=by rw[Ux,hf]
  generalize hg:ys.foldl (DS nm) f=g at hlen
  have p:=AaI (f:=g) (i:=i) (AdT hi hlen) (Wv hn hlen);have s:[AO.lst (CR (DS nm g i))]=[.lst (CR ((ys++[i]).foldl (DS nm) f))]:=by rw[ON,hg];rfl
  have fin:=f4 (L:=E9 rs nm [(Ab "turn",.fz (Ag t))]) 1 s (AM 1);rcases q:g.getD i false with _ | _
  ·rw[q]at p;have e:DS nm g i=g:=if_neg (by rw[q];exact λh=>nomatch h)
   rw[e]at fin;exact⟨[.t (.bool false)],kc (Ae p fin) (by kernel_rfl)⟩
  ·rw[q]at p;have e:DS nm g i=GF g (nm.getD i []):=if_pos q;rw[e]at fin;have c:=Aoq k rs nm hn (nm.getD i []) (λj h=>hj _ (Aor h) j h) t i g hlen;exact⟨[.t (.bool true),.st (E9 rs nm [(Ab "turn",.fz (Ag t)),(Ab "number",.fz (Ag i)),(Ab "names",.fz (Ak (Ai (nm.getD i []))))]) [.lst (CR (GF g (nm.getD i [])))]],kc (Ae p (Ae c fin)) (by kernel_rfl)⟩) [] (As nm.length) rfl
include hn hj in
theorem Aot(f:List Bool)(hf:f.length=nm.length) :
  B4 (fB k 39 962 (AR 962 1)) 1 (Mine.Internal.nm ["roots","named","found"]) (Ai (As nm.length)) (E9 rs nm []) [.lst (CR f)] (E9 rs nm []) [.lst (CR (CS nm f nm.length))]:=by
 have:=Dm (B:=fB k 39 962 (AR 962 1)) (n:=1) (ks:=Mine.Internal.nm ["roots","named","found"]) Ag (λz=>E9 rs nm []) (λys:List Nat=>[.lst (CR (CS nm f ys.length))]) (As nm.length) (As nm.length) (λys t zs e=>by
  have hlen:=(Oa nm f ys.length).trans hf;have s:[AO.lst (CR (Jy nm (CS nm f ys.length)))]=[.lst (CR (CS nm f (ys++[t]).length))]:=by rw[Bl];rfl
  exact⟨[.st (E9 rs nm [(Ab "turn",.fz (Ag t))]) [.lst (CR (Jy nm (CS nm f ys.length)))]],kc (Ae (Aos k rs nm hn hj t _ hlen) (f4 (L:=E9 rs nm []) 1 s (AM 1))) (by kernel_rfl)⟩) [] (As nm.length) rfl
 rw[BY]at this;exact this
end
noncomputable def Ob(rts:List Nat)(nm:List (List Nat)):List Nat:=(As nm.length).filter λi=>(CS nm ((As nm.length).map λi=>decide (i∈rts)) nm.length).getD i false
theorem Aou(k:Nat)(rts:List Nat)(nm:List (List Nat))(hn:nm.length<=100)(hj:∀l,l∈nm->∀j,j∈l->j<nm.length):VF (k+1) 962 [Ak (Ai rts),Ak (DB nm)] (Ak (Ai (Ob rts nm))):=by
 have hl:(DB nm).length=nm.length:=by unfold DB;rw[AJ]
 have rg:G2 [Vf (Ag (DB nm).length)]=some ((As nm.length).map Ag):=by rw[hl];exact Ku (AdS hn)
 have c1:CB (cB k 39 962 [(Ab "roots",.fz (Ak (Ai rts)))] [] (B5 (AR 962 0))) (Ai (As nm.length)) (CR ((As nm.length).map λi=>decide (i∈rts))):=by
  unfold CR;rw[C5];exact De Ag (λi=>.bool (decide (i∈rts))) (As nm.length) λi z=>⟨[.b (decide (i∈rts))],kc (Ae (Uw i rts) (tr ([]:AH) (some (T.bool (decide (i∈rts)))))) (by kernel_rfl)⟩
 have hf:((As nm.length).map λi=>decide (i∈rts)).length=nm.length:=by rw[AJ,BY]
 have c2:=Aot k (Ai rts) nm hn hj _ hf;have hlen:=(Oa nm ((As nm.length).map λi=>decide (i∈rts)) nm.length).trans hf;unfold Ob
 generalize CS nm ((As nm.length).map λi=>decide (i∈rts)) nm.length=f at c2 hlen
 have c3:CB (cB k 39 962 [(Ab "found",.own 0)] [.lst (CR f)] (B5 (AR 962 2))) (Ai (As nm.length)) (Ai ((As nm.length).filter λi=>f.getD i false)):=by
  have e:=AaG (λi=>f.getD i false) Ag (As nm.length);show CB _ _ (Hl Ag ((As nm.length).filter λi=>f.getD i false));rw[e];exact Io Ag (λi=>if f.getD i false=true then some (Ag i)else none) (As nm.length) λi hi=>by
   have p:=AaI (f:=f) (i:=i) (by have:=Dx.mp hi;exact AdR hlen this) (Wv hn hlen)
   rcases q:f.getD i false with _ | _
   ·rw[q]at p;exact⟨[.t (.bool false)],kc (Ae p (tr [AO.lst (CR f)] (none:Option T))) (by kernel_rfl)⟩
   ·rw[q]at p;exact⟨[.t (.bool true)],kc (Ae p (tr [AO.lst (CR f)] (some (Ag i)))) (by kernel_rfl)⟩
 exact Bx [.l (Ai (As nm.length)),.l (CR ((As nm.length).map λi=>decide (i∈rts))),.l (Ai (As nm.length)),.st (E9 (Ai rts) nm []) [.lst (CR f)],.l (Ai (As nm.length)),.l (Ai ((As nm.length).filter λi=>f.getD i false))]
  (kc (Ae rg (Ae c1 (Ae rg (Ae c2 (Ae rg (Ae c3 (Bi (Ak (Ai ((As nm.length).filter λi=>f.getD i false)))))))))) (by kernel_rfl))
end
def Uy(f g:List Bool):Prop:=∀i,f.getD i false=true->g.getD i false=true
theorem Aov(f:List Bool)(j i:Nat):(f.set j true).getD i false=true↔f.getD i false=true\/(i=j/\j<f.length):=by
 rw[ET,ET,List.getElem?_set]
 by_cases h:j=i
 ·subst h;rw[if_pos rfl]
  by_cases h2:j<f.length
  ·rw[if_pos h2];exact⟨λz=>.inr ⟨rfl,h2⟩,λz=>rfl⟩
  ·rw[if_neg h2,GI (DJ.mp h2)];exact⟨(λh=>nomatch h),λh=>h.elim (λh=>nomatch h) λh=>absurd h.2 h2⟩
 ·rw[if_neg h];exact⟨.inl,λq=>q.elim id λq=>absurd q.1.symm h⟩
theorem Aow:∀(js:List Nat) (f:List Bool) (i:Nat),(GF f js).getD i false=true↔f.getD i false=true\/(i∈js/\i<f.length):=by
 intro z1
 induction z1 with
 | nil =>
  intro z2 z3;exact⟨.inl,λh=>h.elim id λh=>nomatch h.1⟩
 | cons j js ih =>
  intro f i;refine(ih (f.set j true) i).trans ?_;rw[Aov,Hh,AV];exact⟨λh=>h.elim (λh=>h.imp id λ⟨e,q⟩=>⟨.inl e,e▸q⟩) λ⟨m,q⟩=>.inr ⟨.inr m,q⟩,λh=>h.elim (λh=>.inl (.inl h)) λ⟨m,q⟩=>m.elim (λe=>.inl (.inr ⟨e,e▸q⟩)) λm=>.inr ⟨m,q⟩⟩
theorem Uz(nm:List (List Nat))(f:List Bool)(i j:Nat):(DS nm f i).getD j false=true↔f.getD j false=true\/(f.getD i false=true/\j∈nm.getD i []/\j<f.length):=by
 unfold DS
 by_cases h:f.getD i false=true
 ·rw[if_pos h,Aow];exact⟨λq=>q.imp id λq=>⟨h,q⟩,λq=>q.imp id λq=>q.2⟩
 ·rw[if_neg h];exact⟨.inl,λq=>q.elim id λq=>absurd q.1 h⟩
theorem QI(nm:List (List Nat)):∀(is:List Nat) (f:List Bool),Uy f (is.foldl (DS nm) f):=by
 intro z1
 induction z1 with
 | nil =>
  intro z2;exact λz h=>h
 | cons i is ih =>
  intro f;exact λj h=>ih (DS nm f i) j ((Uz nm f i j).mpr (.inl h))
theorem Aox:∀(f g:List Bool),f.length=g.length->Uy f g->f=g\/f.count true<g.count true:=by
 intro f
 induction f with
 | nil =>
  intro g hl _;rcases g with _ | ⟨b,g⟩
  ·exact .inl rfl
  ·exfalso;injection hl
 | cons a f ih =>
  intro g hl h;rcases g with _ | ⟨b,g⟩
  ·exfalso;injection hl
  ·have h0:a=true->b=true:=h 0;have h1:=ih g (AbI hl) λi=>h (i+1);have h2:f.count true<=g.count true:=h1.elim (λe=>by rw[e];exact AM _) DI
   rcases a with⟨⟩<;>rcases b with⟨⟩
   ·rw[Ms,Ms];exact h1.imp (λe=>by rw[e]) λq=>by simpa using q
   ·refine .inr ?_;rw[Ms,Ms];simp;exact AdY h2
   ·exact absurd (h0 rfl) (λh=>nomatch h)
   ·rw[Ms,Ms];exact h1.imp (λe=>by rw[e]) λq=>by simpa using q
theorem Aoy:∀(f:List Bool),f.length<=f.count true->∀i,i<f.length->f.getD i false=true:=by
 intro z1
 induction z1 with
 | nil =>
  intro z2 z3 h;exact absurd h (OB _)
 | cons a f ih =>
  intro hc i hi;have hle:f.count true<=f.length:=List.count_le_length;rw[Ms,BN]at hc;rcases a with _ | _
  ·simp at hc;omega
  ·rcases i with _ | i
   ·rfl
   ·exact ih (by simp at hc;exact AdX hc) i (QU hi)
def AaJ(nm:List (List Nat))(f:List Bool):Prop:=∀i,i<f.length->f.getD i false=true->∀j,j∈nm.getD i []->j<f.length->f.getD j false=true
theorem Aoz{nm:List (List Nat)}{f:List Bool}(hl:f.length=nm.length)(e:f=Jy nm f):AaJ nm f:=by
 intro i hi h j hj hjl;refine HY (Abk (Dx.mpr (hl▸hi))) ?_;rintro s t est;unfold Jy at e;rw[est,ON,QP]at e;have h1:=QI nm s f i h;have l1:=Ux nm s f;have h2:=(Uz nm (s.foldl (DS nm) f) i j).mpr (.inr ⟨h1,hj,by rw[l1];exact hjl⟩)
 have h3:=QI nm t _ j h2;rw[<- e]at h3;exact h3
theorem AoA{nm:List (List Nat)}{f:List Bool}(hl:f.length=nm.length):∀t,CS nm f t=CS nm f (t+1)\/t<=(CS nm f t).count true:=by
 intro z1
 induction z1 with
 | zero =>
  exact .inr (GG _)
 | succ t ih =>
  have hlen:(CS nm f t).length=(CS nm f (t+1)).length:=by rw[Oa,Oa]
  rcases ih with e | h
  ·left
   show CS nm f (t+1)=Jy nm (CS nm f (t+1));rw[<- e];exact e
  ·rcases Aox _ _ hlen (QI nm (As nm.length) (CS nm f t))with e | q
   ·left
    show CS nm f (t+1)=Jy nm (CS nm f (t+1));have e':CS nm f t=CS nm f (t+1):=e;rw[<- e'];exact e'
   ·right
    have q':(CS nm f t).count true<(CS nm f (t+1)).count true:=q;exact AdW h q'
theorem AoB{nm:List (List Nat)}{f:List Bool}{nx:Nat->List Nat}{roots:List Nat}(hl0:f.length=nm.length)(g0:∀i,f.getD i false=true↔i∈roots)(hx:∀i,i<nm.length->nm.getD i []=nx i)(hrl:∀i,i∈roots->i<nm.length)(hxl:∀i j,j∈nx i->j<nm.length)(i:Nat) :
  (CS nm f nm.length).getD i false=true↔CI nx roots i:=by
 have row:∀(is:List Nat),(∀j,j∈is->j<nm.length)->∀g:List Bool,(∀i,g.getD i false=true->CI nx roots i)->∀i,(is.foldl (DS nm) g).getD i false=true->CI nx roots i:=λis=>by
  induction is with
  | nil=>exact λz g h=>h
  | cons j is ih =>
   intro hj g h;refine ih (λj m=>hj j (Ga _ m)) (DS nm g j) λi q => ?_;rcases(Uz nm g j i).mp q with q | ⟨q1,q2,_⟩
   ·exact h i q
   ·rw[hx j (hj j Dq)]at q2;exact .step (h j q1) q2
 have sound:∀t i,(CS nm f t).getD i false=true->CI nx roots i:=λt=>by
  induction t with
  | zero=>exact λi h=>.root ((g0 i).mp h)
  | succ t ih=>exact row _ (λj m=>Dx.mp m) _ ih
 have up:∀t,Uy f (CS nm f t):=λt=>by
  induction t with
  | zero=>exact λz h=>h
  | succ t ih=>exact λi h=>QI nm _ _ i (ih i h)
 have hlen:=(Oa nm f nm.length).trans hl0;have fx:AaJ nm (CS nm f nm.length):=by
  rcases AoA hl0 nm.length with e | h
  ·exact Aoz hlen e
  ·intro i _ _ j _ hj;exact Aoy _ (by rw[hlen];exact h) j hj
 refine⟨sound _ i,λh => ?_⟩
 induction h with
 | root q=>exact up _ _ ((g0 _).mpr q)
 | @step a b r q ih =>
  have hb:=hxl _ _ q;have ha:a<nm.length:=by
   rcases r with q | ⟨_,q⟩
   ·exact hrl _ q
   ·exact hxl _ _ q
  rw[<- hx a ha]at q;exact fx a (by rw[hlen];exact ha) ih b q (by rw[hlen];exact hb)
theorem AoC{nm:List (List Nat)}{rts:List Nat}{nx:Nat->List Nat}{roots:List Nat}(hr:∀i,i∈rts↔i∈roots)(hrl:∀i,i∈roots->i<nm.length)(hx:∀i,i<nm.length->nm.getD i []=nx i)(hxl:∀i j,j∈nx i->j<nm.length)(i:Nat) :
  i∈Ob rts nm↔CI nx roots i:=by
 have hl0:((As nm.length).map λi=>decide (i∈rts)).length=nm.length:=by rw[AJ,BY]
 have g0:∀i,((As nm.length).map λi=>decide (i∈rts)).getD i false=true↔i∈roots:=λi=>by
  rw[ET,Hp]
  by_cases h:i<nm.length
  ·rw[Rp h];show decide (i∈rts)=true↔_;rw[decide_eq_true_iff];exact hr i
  ·rw[GI (by rw[BY];exact DJ.mp h)]
   exact⟨(λh=>nomatch h),λq=>absurd (hrl i q) h⟩
 unfold Ob;rw[Hm,Dx];have core:=AoB hl0 g0 hx hrl hxl i;refine⟨λh=>core.mp h.2,λh=>⟨?_,core.mpr h⟩⟩;rcases h with q | ⟨_,q⟩
 ·exact hrl _ q
 ·exact hxl _ _ q
structure Mod.Pure(m:Mod):Prop where
 g:∀g,g∈m.globs->Bh g.body=Cf g.body
 e:∀e,e∈m.elems->∀b,b∈e.inits->Bh b=Cf b
theorem UA{f g:A->List B}:∀{xs:List A},(∀x,x∈xs->f x=g x)->xs.flatMap f=xs.flatMap g:=by
 intro z1
 induction z1 with
 | nil =>
  intro z2;exact rfl
 | cons x xs ih =>
  intro h;rw[OV,OV,h x Dq,ih λy m=>h y (Ga _ m)]
noncomputable def Mod.lr(m:Mod):List Nat:=As m.ik.length++m.dset++m.start.toList
theorem AoD(z:m.Wf)(p:m.Pure)(i:Nat):i∈m.lr↔i∈m.roots:=by
 have e1:DO m.globs=BD m.globs:=UA p.g;have e2:EJ m.elems=BV m.elems:=UA λe h=>UA (p.e e h);unfold Mod.lr Mod.roots;rw[e1,e2];simp only[BM,Jw z];unfold Mod.decl;simp only[BM];constructor
 ·rintro((h | (h | h) | h) | h)<;>simp[h]
 ·rintro((((h | h) | h) | h) | h)<;>simp[h]
theorem Kx(m:Mod):(DR m).length=m.N:=by
 unfold DR Mod.N;rw[Bl,AJ,AJ,BY]
theorem AaK(m:Mod)(i:Nat)(h:i<m.N):(DR m).getD i []=m.nx i:=by
 unfold DR Mod.nx;rw[ET]
 by_cases c:i<m.ik.length
 ·rw[if_pos c,GH (by rw[AJ,BY];exact c),Hp,Rp c]
  rfl
 ·rw[if_neg c,JC (by rw[AJ,BY];exact RD c),AJ,BY,Hp]
  cases (m.funcs[i-m.ik.length]?)<;>rfl
theorem AoE(z:m.Wf)(p:m.Pure):Ob m.lr (DR m)=m.used:=by
 refine NV (KS _ Mr) (Iv m) λi => ?_;rw[Ft z];exact AoC (AoD z p) (λi h=>by rw[Kx];exact z.rts i h) (λi h=>AaK m i (by rw[<- Kx];exact h)) (λi j h=>by rw[Kx];exact z.nx_lt h) i
section
section
variable {m:Mod}(z:m.Wf)
theorem UB(h:n∈m.used):m.used[m.fi n]? = some n:=by
 have h1:=Mt h;rw[show m.fi n=m.used.idxOf n from rfl,Ci h1,Ru h1]
theorem Jz(h:n∈m.used):m.fi n<m.used.length:=Mt h
include z in
theorem AoF:m.used.length=m.ik.length+m.own.length:=by rw[z.used_app,Bl,BY]
theorem AaL{M:Nat}(h:n<M):(As M).idxOf n=n:=by
 have h1:=Mt (Dx.mpr h);have h2:=Ru h1
 rwa [List.getElem_range]at h2
include z in
theorem AoG(h:n<m.ik.length):m.fi n=n:=by
 unfold Mod.fi;rw[z.used_app,AcD,if_pos (Dx.mpr h),AaL h]
include z in
theorem AaM(h:n∈m.own):m.fi n=m.ik.length+m.own.idxOf n:=by
 refine C6 (HP z h) ?_;rintro _ h2 _;unfold Mod.fi;rw[z.used_app,AcD,if_neg (λq=>DJ.mpr h2 (Dx.mp q)),BY,QT]
set_option tactic.hygienic true in
theorem QJ(m:Mod)(b:List Ba):Bh (Bq m b)=(Bh b).map m.fi:=by
 unfold Bh Bq;rw[AqR,VP]
 congr 1
 funext i
 rcases i with⟨⟩<;>rfl
set_option tactic.hygienic true in
theorem AaN(m:Mod)(b:List Ba):Cf (Bq m b)=(Cf b).map m.fi:=by
 unfold Cf Bq;rw[AqS,AqT]
 congr 1
 funext i
 rcases i with⟨⟩<;>rfl
set_option tactic.hygienic true in
theorem Ky(f:A->List Nat)(g:B->A)(f':B->List Nat)(r:Nat->Nat)(xs:List B)(h:∀x,f (g x)=(f' x).map r):(xs.map g).flatMap f=(xs.flatMap f').map r:=by
 rw[AqS,AqT]
 congr 1
 funext x
 exact h x
set_option tactic.hygienic true in
theorem UC(m:Mod):m.less.iks=m.iks.map m.ki:=by
 show(m.imports.map (DP m)).filterMap Dn.k=(m.imports.filterMap Dn.k).map m.ki;rw[AqR,VP]
 congr 1
 funext i
 rcases i with⟨⟩<;>rfl
theorem UD(m:Mod):m.less.ik.length=m.ik.length:=by rw[Mod.ik_eq,Mod.ik_eq,Cu,Cu,UC,AJ]
theorem AaO(m:Mod):m.less.funcs.length=m.own.length:=by
 show((m.own.map m.fn).map (Df m)).length=_;rw[AJ,AJ]
include z in
theorem Oc:m.less.N=m.used.length:=by unfold Mod.N;rw[UD,AaO,AoF z]
theorem AaP(m:Mod):AY m.less.exps=(AY m.exps).map m.fi:=Ky _ _ _ _ _ λx=>by rcases x with⟨⟩<;>rfl
theorem AoH(m:Mod):DO m.less.globs=(DO m.globs).map m.fi:=Ky _ _ _ _ _ λx=>QJ m x.body
theorem AoI(m:Mod):EJ m.less.elems=(EJ m.elems).map m.fi:=Ky _ _ _ _ _ λx=>Ky _ _ _ _ _ λb=>QJ m b
theorem AoJ(m:Mod):BD m.less.globs=(BD m.globs).map m.fi:=Ky _ _ _ _ _ λx=>AaN m x.body
theorem AoK(m:Mod):BV m.less.elems=(BV m.elems).map m.fi:=Ky _ _ _ _ _ λx=>Ky _ _ _ _ _ λb=>AaN m b
theorem AoL(m:Mod):m.less.start.toList=m.start.toList.map m.fi:=by
 show(m.start.map m.fi).toList=_;rcases m.start with⟨⟩<;>rfl
theorem AoM(m:Mod):m.less.decl=m.decl.map m.fi:=by
 unfold Mod.decl;rw[AaP,AoJ,AoK,BP,BP]
include z in
theorem AaQ:m.less.roots=m.roots.map m.fi:=by
 unfold Mod.roots;rw[UD,AaP,AoL,AoH,AoI];simp only[BP]
 congr 4
 refine(AcE _).symm.trans (Mp λi h=>(AoG z (Dx.mp h)).symm)
theorem AoN(kinds:List Bool):∀(S:List Nat) (rows:List Bool),rows.Nodup->(S.foldl (D6 kinds) rows).Nodup:=by
 intro z1
 induction z1 with
 | nil =>
  intro z2 h;exact h
 | cons i S ih =>
  intro rows h;refine ih _ ?_;unfold D6
  by_cases q:kinds.getD i false∈rows
  ·rw[if_pos q];exact h
  ·rw[if_neg q];exact F7.mpr ⟨h,Dv.mpr ⟨(λh=>nomatch h),Ho⟩,λa ha b hb=>by rintro rfl;exact q (Cx.mp hb▸ha)⟩
theorem UE(m:Mod):m.rows.Nodup:=AoN _ _ _ Ho
theorem UG(h:i∈m.S):m.ki i<m.rows.length:=Mt (Anm h)
include z in
theorem AoO:m.S.length<=3:=AE (HN (HO (Iu _ _)) λj h=>NW z j ((Iw z).mp h)) z.kinds
include z in
theorem Ma:m.less.Wf where
 kinds:=AE (Aag m.kinds m.S []) (by rw[DU,KC];exact AoO z)
 imps:=by show(m.imports.map _).length<=3;rw[AJ];exact z.imps
 funcs:=by
  rw[AaO];have h1:=HN (fs:=m.own.map (· - m.ik.length)) (N:=m.funcs.length) (Rr.mpr ((KS _ (Iv m)).imp_of_mem λ{a b} ha hb q e=>by
   exact Cb (Nat.sub_lt_sub_right (HP z ha).2.1 q) e)) λi h=>by
   refine Ah (BH.mp h) ?_;rintro a ha rfl;exact(DT.mp (HP z ha).1).1
  rw[AJ]at h1;exact AE h1 z.funcs
 globs:=by show(m.globs.map _).length<=3;rw[AJ];exact z.globs
 exps:=by show(m.exps.map _).length<=3;rw[AJ];exact z.exps
 elems:=by show(m.elems.map _).length<=3;rw[AJ];exact z.elems
 gb:=λg h=>by
  refine Ah (BH.mp h) ?_;rintro a ha rfl;show(Bq m a.body).length<=2;unfold Bq;rw[AJ];exact z.gb a ha
 ei:=λe h=>by
  refine Ah (BH.mp h) ?_;rintro a ha rfl;show(a.inits.map _).length<=3;rw[AJ];exact z.ei a ha
 eb:=λe h b hb=>by
  refine Ah (BH.mp h) ?_;rintro a ha rfl;refine Ah (BH.mp hb) ?_;rintro c hc rfl;unfold Bq;rw[AJ];exact z.eb a ha c hc
 fb:=λf h=>by
  refine Ah (BH.mp h) ?_;rintro a ha rfl;refine Ah (BH.mp ha) ?_;rintro i hi rfl;show(Bq m _).length<=7;unfold Bq;rw[AJ];exact z.fb _ (Gg (HP z hi).1)
 rts:=λi h=>by
  rw[AaQ z]at h;refine Ah (BH.mp h) ?_;rintro n hn rfl;rw[Oc z];exact Jz ((Ft z).mpr (.root hn))
 nxt:=λf h j q=>by
  refine Ah (BH.mp h) ?_;rintro a ha rfl;refine Ah (BH.mp ha) ?_;rintro i hi rfl;have q':j∈Bh (Bq m (m.fn i).body):=q;rw[QJ]at q';refine Ah (BH.mp q') ?_;rintro n hn rfl;rw[Oc z];exact Jz ((Ft z).mpr (Uj z hi n hn))
 kfn:=λf h=>by
  refine Ah (BH.mp h) ?_;rintro a ha rfl;refine Ah (BH.mp ha) ?_;rintro i hi rfl;exact UG (Aan z hi)
 kim:=λi h=>by
  rw[UC]at h;refine Ah (BH.mp h) ?_;rintro j hj rfl;exact UG ((Iw z).mpr (Cg _ hj))
include z in
theorem AoP(h:a∈m.own):m.less.funcs[m.fi a-m.ik.length]? = some (Df m (m.fn a)):=by
 have h1:=Mt h;rw[AaM z h,AqU];show((m.own.map m.fn).map (Df m))[_]? = _;rw[Hp,Hp,Ci h1,Ru h1];rfl
include z in
theorem AoQ(h:CI m.nx m.roots n):CI m.less.nx m.less.roots (m.fi n):=by
 induction h with
 | root q=>exact .root (by rw[AaQ z];exact Du q)
 | @step a b r q ih =>
  refine .step ih ?_;have hu:=(Ft z).mpr r;have hM:¬a<m.ik.length:=λc=>by
   unfold Mod.nx at q;rw[if_pos c]at q;rcases q with⟨⟩
  have ho:a∈m.own:=Hm.mpr ⟨hu,decide_eq_true (DJ.mp hM)⟩;unfold Mod.nx at q ⊢;rw[if_neg hM,(HP z ho).1]at q;rw[UD,if_neg (by rw[AaM z ho];exact AdZ),AoP z ho]
  show m.fi b∈Bh (Bq m (m.fn a).body);rw[QJ];exact Du q
include z in
theorem UH:m.less.used=As m.used.length:=by
 refine NV (Iv _) Mr λi => ?_;rw[Ft (Ma z),Dx];refine⟨λh=>Oc z▸(Ma z).reach_lt h,λh => ?_⟩;have h1:m.used[i]∈m.used:=Rt h;have h2:m.fi m.used[i]=i:=by
  have nd:=HO (Iv m);exact(VS (h₀:=Jz h1) (h₁:=h) nd).mp (Ay ((Ci (Jz h1)).symm.trans (UB h1)))
 rw[<- h2];exact AoQ z ((Ft z).mp h1)
end
end
section
section
variable {m:Mod}(z:m.Wf)
include z in
theorem UI(h:n<m.less.N):m.less.fi n=n:=by
 unfold Mod.fi;rw[UH z];exact AaL (by rw[<- Oc z];exact h)
include z in
theorem AaR:m.less.kf=m.less.funcs:=by
 have z':=Ma z;unfold Mod.kf;rw[<- z'.used_drop,UH z];refine Acw λj => ?_;rw[Hp,Acx];have hN:m.less.ik.length+m.less.funcs.length=m.used.length:=Oc z
 by_cases h:j<m.less.funcs.length
 ·rw[Rp (Ad1 hN h),Ci h];show some (m.less.funcs.getD (m.less.ik.length+j-m.less.ik.length) ⟨0,[]⟩)=_;rw[AqU,ET,Ci h];rfl
 ·rw[GI (by rw[BY];exact Ad0 hN h),GI (DJ.mp h)]
  rfl
theorem AoR(m:Mod):m.less.iks++m.less.funcs.map (·.kind)=m.ku.map m.ki:=by
 rw[UC];unfold Mod.ku;rw[BP]
 congr 1
 show((m.kf.map (Df m)).map (·.kind))=_;rw[C5,C5];rfl
theorem AoS(rows:List Bool)(nd:rows.Nodup):∀k,k<=rows.length->Cv rows (As k)=rows.take k:=by
 intro z1
 induction z1 with
 | zero =>
  intro z2;exact rfl
 | succ k ih =>
  intro h;rw[List.range_succ,Qx,ih (UU h)];have e:rows.getD k false=rows[k]:=by rw[ET,Ci h];rfl
  unfold D6;rw[e,if_neg,Aqm h];intro q;rcases AcB q with⟨j,hj,ej⟩
  rw[List.getElem_take]at ej;rw[Ox]at hj;rw[(VS nd).mp ej]at hj;exact BX _ (Fb hj (Nat.min_le_left _ _))
include z in
theorem AoT:m.less.S=As m.rows.length:=by
 have z':=Ma z;refine NV (Iu _ _) Mr λi => ?_;rw[Iw z',Dx];unfold Mod.ku;rw[AaR z,AoR];refine⟨λh => ?_,λh => ?_⟩
 ·refine Ah (BH.mp h) ?_;rintro j hj rfl;exact UG ((Iw z).mpr hj)
 ·refine Ah (((Ug m.kinds m.S [] m.rows[i]).mp (Rt h)).elim (λh=>nomatch h) id) ?_;rintro j hj e
  refine BH.mpr ⟨j,(Iw z).mp hj,?_⟩;unfold Mod.ki;rw[e];have h1:=Mt (Rt h);exact(VS (h₀:=h1) (h₁:=h) (UE m)).mp (Ru h1)
include z in
theorem AaS:m.less.rows=m.rows:=by
 show Cv m.rows m.less.S=_;rw[AoT z,AoS _ (UE m) _ (AM _),Ab0]
include z in
theorem AaT(h:i<m.rows.length):m.less.ki i=i:=by
 show m.less.rows.idxOf (m.rows.getD i false)=i;rw[AaS z,ET,Ci h];have h1:=Mt (Rt h);exact(VS (h₀:=h1) (h₁:=h) (UE m)).mp (Ru h1)
include z in
theorem UJ{b:List Ba}(h:∀n,n∈Bh b->n<m.less.N):Bq m.less b=b:=by
 refine(Mp λi hi => ?_).trans (AcE _);have hf:∀n,i.fns=some n->m.less.fi n=n:=λn q=>UI z (h n (IK.mpr ⟨i,hi,q⟩));rcases i with⟨t,n⟩ | n | _ | _ | _ | _
 case call=>exact congrArg (Ba.call t) (hf n rfl)
 case rf=>exact congrArg Ba.rf (hf n rfl)
 all_goals rfl
theorem Mb{f:A->A}{xs:List A}(h:∀x,x∈xs->f x=x):xs.map f=xs:=(Mp h).trans (AcE _)
include z in
theorem AoU:m.less.less=m.less:=by
 have z':=Ma z;have e1:m.less.imports.map (DP m.less)=m.less.imports:=Mb λi hi=>by
  rcases i with k | _
  ·exact congrArg Dn.f (AaT z (z'.kim k (IK.mpr ⟨_,hi,rfl⟩)))
  ·rfl
 have e2:m.less.kf.map (Df m.less)=m.less.funcs:=by
  rw[AaR z];refine Mb λf hf => ?_;have a:=AaT z (z'.kfn f hf);have b:=UJ z (b:=f.body) λn hn=>z'.nxt f hf n hn;show(⟨m.less.ki f.kind,Bq m.less f.body⟩:CW)=f;rw[a,b]
 have e3:m.less.globs.map (F3 m.less)=m.less.globs:=Mb λg hg=>by
  show(⟨g.mu,Bq m.less g.body⟩:CY)=g;rw[UJ z λn hn=>z'.reach_lt (Aaj hg n hn)]
 have e4:m.less.exps.map (GC m.less)=m.less.exps:=Mb λx hx=>by
  rcases x with⟨s,i⟩ | s
  ·exact congrArg (CG.f s) (UI z (z'.reach_lt (Aal hx i Dq)))
  ·rfl
 have e5:m.less.start.map m.less.fi=m.less.start:=by
  rcases h:m.less.start with _ | s
  ·rfl
  ·exact congrArg some (UI z (z'.reach_lt (Aam h)))
 have e6:m.less.elems.map (EK m.less)=m.less.elems:=Mb λe he=>by
  show(⟨e.mode,e.inits.map (Bq m.less)⟩:Ct)=e;rw[Mb λb hb=>UJ z λn hn=>z'.reach_lt (Aak he hb n hn)]
 show(⟨m.less.rows,m.less.imports.map (DP m.less),m.less.kf.map (Df m.less),m.less.globs.map (F3 m.less),m.less.exps.map (GC m.less),m.less.start.map m.less.fi,m.less.elems.map (EK m.less)⟩:Mod)=m.less;rw[e1,e2,e3,e4,e5,e6,AaS z];rfl
include z in
theorem AoV{b:Nat}(ha:a∈m.used)(hb:b∈m.used)(h:a<b):m.fi a<m.fi b:=by
 have h1:=UB ha;have h2:=UB hb;rcases U0 (m.fi a) (m.fi b)with q | q | q
 ·exact q
 ·rw[q,h2]at h1;injection h1 with za;subst za
  exact absurd h (BX _)
 ·have:=List.pairwise_iff_getElem.mp (Iv m) (m.fi b) (m.fi a) (Jz hb) (Jz ha) q;rw[Ci (Jz ha)]at h1;rw[Ci (Jz hb)]at h2;rw[Ay h1,Ay h2]at this
  omega
include z in
theorem AoW(h:n∈m.decl):n∈m.used:=by
 refine(Ft z).mpr (.root ?_);have sub:∀(b:List Ba) (i:Nat),i∈Cf b->i∈Bh b:=λb i h=>by
  refine Ah (CN.mp h) ?_;rintro x hx hi;refine IK.mpr ⟨x,hx,?_⟩;rcases x with _ | n | _ | _ | _ | _
  case rf=>rw[Cx.mp hi];rfl
  all_goals rcases hi with⟨⟩
 unfold Mod.decl at h;unfold Mod.roots;rcases BM.mp h with h | h
 ·rcases BM.mp h with h | h
  ·exact Cg _ (Cg _ (Cg _ (CC _ h)))
  ·refine Ah (CN.mp h) ?_;rintro g hg hi;exact Cg _ (CC _ (CN.mpr ⟨g,hg,sub _ _ hi⟩))
 ·refine Ah (CN.mp h) ?_;rintro e he hi;refine Ah (CN.mp hi) ?_;rintro b hb hi;exact CC _ (CN.mpr ⟨e,he,CN.mpr ⟨b,hb,sub _ _ hi⟩⟩)
include z in
theorem UK(h:n∈m.dset):n∈m.used:=AoW z ((Jw z).mp h)
include z in
theorem AoX:EX (m.less.dl.map λ(n:Nat)=>(n:Int))=(m.dset.map m.fi).map λ(n:Nat)=>(n:Int):=by
 have hp:(m.dset.map m.fi).Pairwise (· < ·):=Rr.mpr ((Iu m.N m.decl).imp_of_mem λ{a b} ha hb q=>AoV z (UK z ha) (UK z hb) q);refine(Pl ?_ ?_).symm
 ·refine AqL _ ((VQ (HO hp) (Uu _ _ Ho)).mpr λi => ?_);have e:i∈m.less.dl↔i∈m.decl.map m.fi:=by rw[N8,AoM]
  refine Iff.trans ?_ e.symm;rw[BH,BH];exact⟨λ⟨n,h,q⟩=>⟨n,(Jw z).mp h,q⟩,λ⟨n,h,q⟩=>⟨n,(Jw z).mpr h,q⟩⟩
 ·exact Rr.mpr (hp.imp λ{a b} q=>IG.mpr (DI q))
end
end
def QK(vs:List V)(α:AH)(as:List Al)(Q:Kq V):Prop:=match as with
 | .t r::as=>Bv (Gu α vs) λp=>VT p.1 r/\Q (Vf r) p.2 as
 | _=>False
def AaU(b:Bool)(A B:Prop):Prop:=match b with
 | true=>A
 | false=>B
noncomputable def Kz:Hs:=⟨λf vs α as Q=>AaU (EP f 974) (QK vs α as Q) ((Fo Dz true 20).fn f vs α as Q),λz z z z z=>False,true⟩
theorem AoY(F:B3 K):E5 Dz Kz (CU K):=by
 have l:=NJ F (E:=Dz) (qt:=true) (λx x h=>h) 20;have g:GT (CU K):=by
  have:=NF K NL 20;exact⟨this.1,this.2,this.3,this.4,this.5,this.6,this.7⟩
 refine⟨λx x h=>h,g,λf vs α as Q h X ρ σ cs s r => ?_,λx x x x x h=>h.elim⟩;have h':AaU (EP f 974) (QK vs α as Q) ((Fo Dz true 20).fn f vs α as Q):=h;rcases q:EP f 974 with _ | _
 ·rw[q]at h';have ef:Di (CU K) f cs=Di (BW K NL 20) f cs:=by
   unfold Di CU;dsimp only;rw[if_neg λe=>by rw[e,Nat.beq_refl]at q;(exfalso;injection q)]
  rw[ef];exact l.fn f vs α as Q h' X ρ σ cs s r
 ·rw[q]at h';have h2:QK vs α as Q:=h';have q':=OU q;have ef:Di (CU K) f cs=Jh (BW K NL 18) NL EB.1 cs:=by
   unfold Di CU;dsimp only;rw[if_pos q']
  rw[ef];unfold QK at h2
  split at h2
  ·refine AG (BL h2) ?_;rintro⟨ts,α'⟩ e h1 h2;exact NI (λx x x x x=>trivial) s e r (λt z=>h1 K F _ σ cs z t) h2
  ·exact h2.elim
theorem AoZ(F:B3 K){is:List Int}(hl:is.length<=63)(as:List Al)
  (h:Jm Dz Kz 39 BF.1.scope.names 40 BF.1.body.tail [(Ab "script",.fz (Ak (C4 is)))] [] as (λfl z z z=>fl=.ret (Vf (.bool true)))):PM K is:=by
 have t:TR (λz=>False) [CO.list (is.map .int)] (.ref 0) (Ak (C4 is)):=TR.ofList (λh=>h) rfl (decide_eq_true (by rw[AJ];exact RI hl)) (AB.ints is)
 have u:=NK (X:=λz=>False) (σ:=[CO.list (is.map .int)]) (.cons t .nil);have lc:AZ (Zx (λz=>False) [] []) [] [CO.list (is.map .int)] [(Ab "script",CV.ref 0)] [(Ab "script",.fz (Ak (C4 is)))]:=Qm (xs:=[Ab "script"]) (vs:=[CV.ref 0]) (ws:=[.fz (Ak (C4 is))]) ⟨u.1,trivial⟩;rcases(ZS (AoY F) (N:=39) 40 _ _ _ _ _ h (λz=>False) [] _ _ (Kr (λz h=>h.elim)) lc).out with⟨⟨fl,loc⟩,σ1,ρ1,α1,e,p,fl',loc',as',s1,r1,lr1,h1⟩
 subst h1;rcases fl with _ | c
 ·exact r1.elim
 ·have r2:TR (Zx (λz=>False) ρ1 α1) σ1 c (.bool true):=r1;rcases r2 with⟨⟩
  exact⟨loc,σ1,e⟩
noncomputable def flat:Nat->T->Bool
 | 0,_=>false
 | n+1,t=>match t with
  | .node .tup ts=>ts.all (flat n)
  | .node .lst ts=>ts.all (flat n)
  | .node _ _=>false
  | _=>true
theorem AaV(f:T->T->Option Bool):∀ts:List T,(∀t,t∈ts->f t t=some true)->EC f ts ts=some true:=by
 intro z1
 induction z1 with
 | nil =>
  intro z2;exact rfl
 | cons t ts ih =>
  intro h;show(match f t t,EC f ts ts with | some a,some b=>some (a && b) | _,_=>none)=_
  rw[h t Dq,ih λu m=>h u (Ga _ m)];rfl
theorem KA:∀(n:Nat) (t:T),flat n t=true->Bw n t t=some true:=by
 intro z1
 induction z1 with
 | zero =>
  intro z2 h;exact nomatch h
 | succ n ih =>
  intro t h;rcases t with _ | b | i | x | ⟨k,ts⟩
  ·rfl
  ·exact congrArg some (beq_self_eq_true b)
  ·exact congrArg some (beq_self_eq_true i)
  ·exact congrArg some (beq_self_eq_true x)
  ·rcases k with _ | _ | ks | ⟨C,xs⟩
   ·exact AaV _ ts λt m=>ih t (B7.mp h t m)
   ·show(if ts.length=ts.length then EC (Bw n) ts ts else some false)=_;rw[if_pos rfl];exact AaV _ ts λt m=>ih t (B7.mp h t m)
   ·exfalso;injection h
   ·exfalso;injection h
theorem all_map{f:A->T}{p:T->Bool}{xs:List A}(h:∀x,x∈xs->p (f x)=true):(xs.map f).all p=true:=B7.mpr λt m=>by
 refine Ah (BH.mp m) ?_;rintro x hx rfl;exact h x hx
theorem QL(n:Nat)(us:List Nat):flat (n+2) (Ak (Ai us))=true:=all_map (p:=flat (n+1)) λz z=>rfl
theorem AaW(n:Nat)(i:Ba):flat (n+2) (By i)=true:=by
 rcases i with⟨t,k⟩ | _ | _ | _ | _ | _
 case call=>rcases t with⟨⟩<;>rfl
 all_goals rfl
theorem Ao0(n:Nat)(b:List Ba):flat (n+3) (AX b)=true:=all_map (p:=flat (n+2)) λi z=>AaW n i
theorem UL(n:Nat)(b:List Ba):flat (n+3) (Fp b)=true:=all_map (p:=flat (n+2)) λi z=>AaW n i
theorem AaX(m:Mod):flat 20 (Jp m)=true:=by
 have k:flat 19 (Az (m.kinds.map Be))=true:=all_map (p:=flat 18) λb z=>by rcases b with⟨⟩<;>rfl
 have i:flat 19 (Az (m.imports.map GA))=true:=all_map (p:=flat 18) λb z=>by rcases b with⟨⟩<;>rfl
 have f:flat 19 (Az (m.funcs.map Ip))=true:=all_map (p:=flat 18) λb z=>by
  show(flat 17 (Ag b.kind) && (flat 17 (Az []) && (flat 17 (Fp b.body) && true)))=true;rw[UL 14];rfl
 have g:flat 19 (Az (m.globs.map Iq))=true:=all_map (p:=flat 18) λb z=>by
  show(flat 17 (.int (-16)) && (flat 17 (Ag b.mu) && (flat 17 (Fp b.body) && true)))=true;rw[UL 14];rfl
 have x:flat 19 (Az (m.exps.map Cp))=true:=all_map (p:=flat 18) λb z=>by rcases b with⟨⟩<;>rfl
 have e:flat 19 (Az (m.elems.map G4))=true:=all_map (p:=flat 18) λb z=>by
  have q:flat 17 (Az (b.inits.map Fp))=true:=all_map (p:=flat 16) λc z=>UL 13 c;rcases b with⟨mo,bs⟩
  show(flat 17 (NR mo) && (flat 17 (.int 0) && (flat 17 (ZX mo) && (flat 17 (.int (-16)) && (flat 17 (Az (bs.map Fp)) && true)))))=true;rw[q];rcases mo with⟨⟩<;>rfl
 have s:flat 19 (D5 m.start)=true:=by rcases m.start with⟨⟩<;>rfl
 show(flat 19 (Az (m.kinds.map Be)) && (flat 19 (Az (m.imports.map GA)) && (flat 19 (Az (m.funcs.map Ip)) && (flat 19 (Az [Eg]) && (flat 19 (Az [Eh]) && (flat 19 (Az (m.globs.map Iq)) && (flat 19 (Az (m.exps.map Cp)) && (flat 19 (D5 m.start) && (flat 19 (Az (m.elems.map G4)) && (flat 19 (Az []) && (flat 19 (Az []) && true)))))))))))=true;rw[k,i,f,g,x,e,s];rfl
theorem JA{f:T->T->Option Bool}{x y:T}{xs ys:List T}(h:f x y=some true)(r:EC f xs ys=some true):EC f (x::xs) (y::ys)=some true:=by
 show(match f x y,EC f xs ys with | some a,some b=>some (a && b) | _,_=>none)=_
 rw[h,r];rfl
theorem Ao1(n:Nat)(b:List Nat):∀a:List Nat,(∀i,i∈a->i∈b)->Ih (Bw (n+1)) (eF b) (eF a)=some true:=by
 intro z1
 induction z1 with
 | nil =>
  intro z2;exact rfl
 | cons i a ih0 =>
  intro h;have e:Cz (eF b) i=some (.bool true):=by
   have q:=NT b i;rw[decide_eq_true (h i Dq)]at q;have w:∀(b:List Nat) (t:T),Cz (eF b) i=some t->t=.bool true:=λb=>by
    induction b with
    | nil=>exact λt h=>nomatch h
    | cons x b ih =>
     intro t h;have h':(if(x:Int)=i then some (T.bool true)else Cz (eF b) i)=some t:=h
     split at h'
     ·exact(Ay h').symm
     ·exact ih t h'
   rcases r:Cz (eF b) i with _ | t
   ·rw[r]at q;(exfalso;injection q)
   ·rw[w b t r]
  show(match Cz (eF b) i with
   | none=>some false
   | some y=>match Bw (n+1) (.bool true) y,Ih (Bw (n+1)) (eF b) (eF a)with
    | some a,some b=>some (a && b)
    | _,_=>none)=_
  rw[e,ih0 λi m=>h i (Ga _ m)];rfl
theorem Ao2(n:Nat){a b:List Nat}(ha:a.Nodup)(hb:b.Nodup)(h:∀i,i∈a↔i∈b):Bw (n+2) (DG (eF a)) (DG (eF b))=some true:=by
 have hl:((eF a).map (·.2)).length=((eF b).map (·.2)).length:=by
  unfold eF;rw[AJ,AJ,AJ,AJ];exact((VQ ha hb).mpr h).length_eq
 show(if((eF a).map (·.2)).length=((eF b).map (·.2)).length then Ih (Bw (n+1)) (((eF b).map (·.1)).zip ((eF b).map (·.2))) (((eF a).map (·.1)).zip ((eF a).map (·.2)))else some false)=_;rw[if_pos hl,LX,LX];exact Ao1 n b a λi m=>(h i).mp m
theorem Ao3{ds:List Nat}(h:ds.Nodup)(hl:ds.length<=1000):(match Fn (ds.map λn=>Az [Ag n,.bool true])with
  | some ps=>if ps.length<=1000 then some (ps.foldl (λes p=>Cn es p.1 p.2) [])else none
  | none=>none)=some (eF ds):=by
 have p:∀ds:List Nat,Fn (ds.map λn=>Az [Ag n,.bool true])=some (eF ds):=λds=>by
  induction ds with
  | nil=>rfl
  | cons d ds ih =>
   show(match Fn (ds.map λn=>Az [Ag n,.bool true])with | some ps=>some (((d:Int),T.bool true)::ps) | none=>none)=_
   rw[ih];rfl
 rw[p];dsimp only;have k:(eF ds).map (·.1)=ds.map λ(n:Nat)=>(n:Int):=by unfold eF;rw[C5];rfl
 rw[show(eF ds).length=ds.length from AJ _,if_pos hl];refine congrArg some ((Aab _ [] ?_).trans rfl);rw[AqO,k];exact Aac h
theorem Ao4(N:Nat)(ds:List Nat)(z:Int):flat 20 (Jx N ds z)=true:=by
 unfold Jx
 split
 ·split<;>rfl
 ·rfl
noncomputable def JB(i:Nat):AN:=Ef BF.1.body.tail i
def cL(n:Nat)(base:An)(α:AH)(e:Expr):T->List Al->(Option T->Prop)->Prop:=match e with
 | .ListComp elt [⟨target,iter,ifs,0⟩] scope _=>Ki (DY Kz n).1 (DY Kz n).2 (Dk BF.1.scope.names scope.names) base target elt ifs α
 | _=>λz z z=>False
def fW(n:Nat)(s:AN)(t:T)(l:An)(a:AH)(as:List Al)(Q:BZ->An->AH->List Al->Prop):Prop :=
 Jl (DY Kz 40).1 BF.1.scope.names (T5 s) (Vf t) l a as λl a as=>Jm Dz Kz 39 BF.1.scope.names n (D4 s) l a as Q
structure Mod.Law(m:Mod):Prop extends m.Wf,m.Pure where
 hk:m.kinds=[false,true,false]
 hi:m.iks=As m.ik.length
 hM:m.ik.length<3
 hg:m.ig=D9 (min m.ik.length 1) HM
noncomputable def mn(M:Nat):Int:=if(1:Int)<(M:Int)then 1 else(M:Int)
noncomputable def cells(m:Mod):List T:=(D9 (mn m.ik.length).toNat [HM]).flatten
theorem AaY(h:m.Law):cells m=m.ig:=by
 rw[h.hg];unfold cells mn;have:=h.hM
 generalize m.ik.length=M at this
 rcases LP this with rfl | rfl | rfl
 ·rfl
 ·rfl
 ·rfl
noncomputable def Od(m:Mod):List T:=(D9 ((m.elems.map Bj).length:Int).toNat [T.int (-16)]).flatten
theorem AaZ(m:Mod):Od m=m.elems.map λz=>.int (-16):=by
 unfold Od;rw[AJ,show((m.elems.length:Nat):Int).toNat=m.elems.length from rfl]
 induction m.elems with
 | nil=>rfl
 | cons e es ih=>exact congrArg (T.int (-16)::·) ih
theorem Ao5(h:m.Law):m.ik=Ai (As m.ik.length):=by
 rw[<- h.hi];exact m.ik_eq
noncomputable def UM(m:Mod):List T:=[Ak (m.kinds.map Be),Ak (Ai (As m.ik.length)++m.fk),Ak [Eg],Ak [Eh],Ak (cells m++m.gk),Ak (Od m),.int 0]
theorem Ao6(h:m.Law):(Bw 20 (Az [Ak (m.kinds.map Be),Ak (m.ik++m.fk),Ak [Eg],Ak [Eh],Ak (m.ig++m.gk),Ak (m.elems.map λz=>.int (-16)),.int 0,DG (Fq m)]) (Az (UM m++[DG (eF m.dset)]))).map (!·)=some false:=by
 unfold UM;rw[AaY h,AaZ,<- Ao5 h,Uv];have k:flat 19 (Ak (m.kinds.map Be))=true:=all_map (p:=flat 18) λb z=>by rcases b with⟨⟩<;>rfl
 have i:flat 19 (Ak (m.ik++m.fk))=true:=by rw[AaC];exact QL 17 _
 have g:flat 19 (Ak (m.ig++m.gk))=true:=by
  show(m.ig++m.gk).all (flat 18)=true;rw[List.all_append,h.hg];have a1:m.gk.all (flat 18)=true:=all_map (p:=flat 18) λb z=>rfl;rw[a1];have a2:(D9 (min m.ik.length 1) HM).all (flat 18)=true:=B7.mpr λt m=>by rw[(List.mem_replicate.mp m).2];rfl
  rw[a2];rfl
 have e:flat 19 (Ak (m.elems.map λz=>.int (-16)))=true:=all_map (p:=flat 18) λb z=>rfl;have nd:m.dl.Nodup:=Uu _ _ Ho;have d:=Ao2 17 nd (HO (Iu m.N m.decl)) λi=>N8.trans (Jw h.toWf).symm;have all:Bw 20 (Az [Ak (m.kinds.map Be),Ak (m.ik++m.fk),Ak [Eg],Ak [Eh],Ak (m.ig++m.gk),Ak (m.elems.map λz=>.int (-16)),.int 0,DG (eF m.dl)]) (Az ([Ak (m.kinds.map Be),Ak (m.ik++m.fk),Ak [Eg],Ak [Eh],Ak (m.ig++m.gk),Ak (m.elems.map λz=>.int (-16)),.int 0]++[DG (eF m.dset)]))=some true :=
  JA (KA _ _ k) (JA (KA _ _ i) (JA rfl (JA rfl (JA (KA _ _ g) (JA (KA _ _ e) (JA rfl (JA d rfl)))))))
 rw[all];rfl
theorem Oe{t:T}(h:flat 20 t=true):(Bw 20 t t).map (!·)=some false:=by rw[KA _ _ h];rfl
noncomputable def Of(is:List Int)(m:Mod)(st:T):An:=[(Ab "script",.fz (Ak (C4 is))),(Ab "module",.fz (B6 m)),(Ab "declared",.fz (Ak (Ai m.dset))),(Ab "named",.fz (Ak (DB (DR m)))),(Ab "many",.fz (Ag (DB (DR m)).length)),(Ab "scope",.fz (Ir m)),(Ab "before",.fz (Jp m)),(Ab "ahead",.fz (Ag m.ik.length)),(Ab "kinds",.own 0),(Ab "cells",.own 1),(Ab "due",.fz (Az (UM m)))]
theorem QM(m:Mod):(DB (DR m)).length=m.N:=by
 unfold DB;rw[AJ,Kx]
theorem Ao7(is:List Int)(m:Mod)(h:m.Law)(st:T):B4 (fW 39 (JB 7)) 2 (nm ["script","module","declared","named","many","scope","before","ahead","kinds","cells","due"]) ((DV (-1) 1 (m.N+3)).map T.int) (Of is m st) [.dead,.dead] (Of is m st) [.dead,.dead] :=
 Dm T.int (λq=>Of is m st) (λq=>[.dead,.dead]) (DV (-1) 1 (m.N+3)) (DV (-1) 1 (m.N+3)) (λys z zs e=>by
  have v:=Aoj 19 z (DB (DR m)).length m.dset;have t:=Aoi m h.toWf h.hk z;have d:=Oe (Ao4 m.N m.dset z);rw[QM]at v;have e:Ag m.N=Ag (DB (DR m)).length:=by rw[QM]
  rw[e]at v;exact⟨[.t (Jx m.N m.dset z),.t (Jx m.N m.dset z),.b false],kc (Ae t (Ae v (Ae d (f4 (L:=Of is m st) 2 (Bi [AO.dead,AO.dead]) (AM 2))))) (by kernel_rfl)⟩) [] (DV (-1) 1 (m.N+3)) rfl
noncomputable def Hb(m:Mod):List T:=m.own.map λi=>AX (Bq m (m.fn i).body)
noncomputable def Ao8(m:Mod):T:=Az [Ak (m.kinds.map Be),Ak (m.ik++m.fk),Ak [Eg],Ak [Eh],Ak (m.ig++m.gk),Ak (m.elems.map λz=>.int (-16)),.int 0,DG (Fq m)]
noncomputable def prs(ds:List Nat):List T:=ds.map λn=>Az [Ag n,.bool true]
noncomputable def Ao9(m:Mod)(LW:An):List Al:=[.t (Az [B6 m,Ak (Ai m.dset),Ak (DB (DR m))]),.t (Jp m),.t (Ir m),.q (Ag m.ik.length),.l (Ai (As m.ik.length)),.l m.fk,.b true,.b true,.l m.gk,.b true,.b true,.t (Ao8 m),.l (prs m.dset),.d (eF m.dset),.a,.b false,.l ((DV (-1) 1 (m.N+3)).map T.int),.st LW [.dead,.dead],
 .l (Ai (As m.ik.length)),.b true,.a,.b true,.t (Ak (Ai m.used)),.t (Ak (Ai m.used)),.b false,.t (B6 m.less),.l (Ai (m.dset.map m.fi)),.t (Ir m.less),.l (Ai (m.dset.map m.fi)),.b false,.t (Ak (Ai (As m.used.length))),.l (Ai (As m.used.length)),.b false,.l (Hb m),.l (Hb m),.b false,.t (B6 m.less),.t (Jp m.less),.t (Jp m.less),.b true,.t (Jp m),.b true]
theorem Apa(is:List Int)(hl:is.length<=63)(m:Mod)(h:m.Law)(hv:VF 20 957 [Ak (C4 is)] (Az [B6 m,Ak (Ai m.dset),Ak (DB (DR m))])) :
  ∃as,Jm Dz Kz 39 BF.1.scope.names 40 BF.1.body.tail [(Ab "script",.fz (Ak (C4 is)))] [] as (λfl x x x=>fl=.ret (Vf (.bool true))):=by
 have z:=h.toWf;have z':=Ma z;have hM:=h.hM;have hN:=z.n_le;have hds:m.dset.length<=7:=AE (HN (HO (Iu m.N m.decl)) λi q=>QE z i ((Jw z).mp q)) hN;have o2:=ZZ 17 m;have o3:=Z3 17 m z.toSz;have o4:Rv.v (Vf (.int (((DB (DR m)).length:Int)-((m.funcs.map Bn).length:Int))))=Rv.v (Vf (Ag m.ik.length)):=by
  rw[QM,AJ];unfold Mod.N;rw[show(((m.ik.length+m.funcs.length:Nat):Int)-(m.funcs.length:Int))=(m.ik.length:Int)from Aeg]
 have o5:=Ku (n:=m.ik.length) (Wu hM);have o6:CB (cL 38 [] [] (DN (B5 (JB 3)) 1)) (m.funcs.map Bn) m.fk:=De Bn (λf=>Ag f.kind) m.funcs λa x=>⟨[],kc (tr ([]:AH) (some (Ag a.kind))) (by kernel_rfl)⟩
 have hfk:m.fk.length<=4:=by unfold Mod.fk;rw[AJ];exact z.funcs
 have hgk:m.gk.length<=3:=by unfold Mod.gk;rw[AJ];exact z.globs
 have o7:some (small ((Ai (As m.ik.length)).length+m.fk.length))=some true:=Ca (by rw[Cu,BY];exact Aef hM hfk)
 have hc:(cells m).length<=3:=by rw[AaY h];exact AE m.ig_len z.imps
 have hmn:0<=mn m.ik.length/\mn m.ik.length<=2:=by unfold mn;split<;>omega
 have o8:some (decide (([HM]:List T).length*(mn m.ik.length).toNat<=256/\-9223372036854775808<=mn m.ik.length/\mn m.ik.length<9223372036854775808) && small (cells m).length)=some true:=by
  rw[decide_eq_true (by rw[AqV];exact Aee hmn),show small (cells m).length=true from decide_eq_true (RJ hc)]
  rfl
 have o9:CB (cL 38 [] [.lst (Ai (As m.ik.length)++m.fk)] (DN (B5 (JB 4)) 1)) (m.globs.map BO) m.gk:=De BO (λg=>Az [.int (-16),Ag g.mu]) m.globs λa x=>⟨[],kc (tr [AO.lst (Ai (As m.ik.length)++m.fk)] (some (Az [.int (-16),Ag a.mu]))) (by kernel_rfl)⟩
 have o10:some (small ((cells m).length+m.gk.length))=some true:=Ca (Aed hgk hc);have o11:some (decide (([T.int (-16)]:List T).length*((m.elems.map Bj).length:Int).toNat<=256/\-9223372036854775808<=((m.elems.map Bj).length:Int)/\((m.elems.map Bj).length:Int)<9223372036854775808) && small (Od m).length)=some true:=by
  have:=z.elems;rw[decide_eq_true (by rw[AqV,AJ];exact Aec this),show small (Od m).length=true from decide_eq_true (by rw[AaZ,AJ];exact RJ this)]
  rfl
 have o12:=Aok 19 (Ak (m.kinds.map Be)) (Ak (m.ik++m.fk)) (Ak [Eg]) (Ak [Eh]) (Ak (m.ig++m.gk)) (Ak (m.elems.map λx=>.int (-16))) (.int 0) (DG (Fq m));have o13:CB (cL 35 [] [.dead,.dead] (DN (DN (DN (DN (B5 (JB 6)) 1) 1) 0) 1)) (Ai m.dset) (prs m.dset):=De Ag (λn=>Az [Ag n,.bool true]) m.dset λa x=>⟨[],kc (tr [AO.dead,AO.dead] (some (Az [Ag a,.bool true]))) (by kernel_rfl)⟩
 have o14:=Ao3 (HO (Iu m.N m.decl)) (AE hds (Wx));have o16:=Ao6 h;have o17:G2 [Vf (.int (-1)),Vf (.int (((DB (DR m)).length:Int)+2))]=some ((DV (-1) 1 (m.N+3)).map T.int):=by
  rw[QM];have e:FP [-1,(m.N:Int)+2]=some (-1,1,m.N+3):=by
   have e3:(((m.N:Int)+2)-(-1)).toNat=m.N+3:=Aeb;unfold FP;dsimp only;rw[e3,if_pos ⟨rfl,Z4 (n:=m.N+2) (Aea hN),(Ad9 hN)⟩]
  exact Z5 rfl e
 have o20:some (small ((Ai (As m.ik.length)).length+(Ai m.dset).length))=some true:=Ca (by rw[Cu,Cu,BY];exact Ad8 hM hds)
 have o21:VF 20 962 [Ak ((Ai (As m.ik.length)++Ai m.dset)++Ai m.start.toList),Ak (DB (DR m))] (Ak (Ai m.used)):=by
  have v:=Aou 19 m.lr (DR m) (by rw[Kx];exact Ad7 hN) (λl hl j hj=>by
   rw[Kx];rcases AcB hl with⟨i,hi,rfl⟩
   have e:=AaK m i (by rw[<- Kx];exact hi)
   rw[ET,Ci hi]at e;have e':(DR m)[i]=m.nx i:=e;rw[e']at hj;exact z.nx_lt hj)
  rw[AoE z h.toPure]at v;rw[Ej,Ej];exact v
 have o22:=Uc 17 m z;have o23:=Oe (QL 18 m.used);have o24:=Aao 15 m z;have o25:CB (cL 40 [(Ab "used",.fz (Ak (Ai m.used)))] [.dead,.dead,.dead] (B5 (JB 12))) (Ai m.dset) (Ai (m.dset.map m.fi)):=by
  unfold Ai;rw[<- mm];exact De Ag (λn=>Ag (m.fi n)) m.dset λa ha=>⟨[.t (Ag (m.fi a))],kc (Ae (QH (UK z ha)) (tr [AO.dead,AO.dead,AO.dead] (some (Ag (m.fi a))))) (by kernel_rfl)⟩
 have o26:=Z3 17 m.less z'.toSz;have o27:(if((((Fq m.less).map (·.1)).zip ((Fq m.less).map (·.2))).map λp=>p.1).length<64 then some ((EX ((((Fq m.less).map (·.1)).zip ((Fq m.less).map (·.2))).map λp=>p.1)).map T.int)else none)=some (Ai (m.dset.map m.fi)):=by
  have e:(eF m.less.dl).map (λp=>p.1)=m.less.dl.map λ(n:Nat)=>(n:Int):=by unfold eF;rw[C5];rfl
  have hl2:m.less.dl.length<=7:=AE (HN (Uu _ _ Ho) λi q=>QE z' i (N8.mp q)) z'.n_le;rw[LX,Uv,e,AJ,if_pos (Ww hl2),AoX z,C5];rfl
 have o28:=Oe (QL 18 (m.dset.map m.fi));have o29:=Uc 17 m.less z';rw[UH z]at o29;have o30:G2 [Vf (Ag (Ai m.used).length)]=some (Ai (As m.used.length)):=by
  rw[Cu];exact Ku (AE z.used_le (Ad6))
 have o31:=Oe (QL 18 (As m.used.length));have o32:CB (cL 40 [(Ab "module",.fz (B6 m)),(Ab "ahead",.fz (Ag m.ik.length)),(Ab "used",.fz (Ak (Ai m.used)))] [.dead,.dead,.dead,.lst (Ai (m.dset.map m.fi))] (B5 (JB 14))) (Ai m.used) (Hb m):=by
  unfold Hb Mod.own;rw[AaG];exact Io Ag (λi=>if decide (m.ik.length<=i)=true then some (AX (Bq m (m.fn i).body))else none) m.used λi hi=>by
   by_cases c:m.ik.length<=i
   ·have ho:i∈m.own:=Hm.mpr ⟨hi,decide_eq_true c⟩;refine C6 (HP z ho) ?_;rintro h1 h2 h3;have p:E4 (m.funcs.map Bn) ((i:Int)-(m.ik.length:Int))=some (Bn (m.fn i)):=It Bn m.funcs (n:=i-m.ik.length) (RE h2) (Ad5 hN h3) h1;have v:=Aol 19 m (m.fn i).body (Qz z (Uj z ho));rw[if_pos (decide_eq_true c)];exact⟨[.b true,.t (Bn (m.fn i)),.t (AX (Bq m (m.fn i).body))],kc (Ae (show some (decide ((m.ik.length:Int)<=(i:Int)))=some true from congrArg some (decide_eq_true (Ad4 h2))) (Ae p (Ae v (tr [AO.dead,.dead,.dead,.lst (Ai (m.dset.map m.fi))] (some (AX (Bq m (m.fn i).body))))))) (by kernel_rfl)⟩
   ·rw[if_neg (λq=>c (of_decide_eq_true q))];exact⟨[.b false],kc (Ae (show some (decide ((m.ik.length:Int)<=(i:Int)))=some false from congrArg some (decide_eq_false (Ad3 c))) (tr [AO.dead,.dead,.dead,.lst (Ai (m.dset.map m.fi))] (none:Option T))) (by kernel_rfl)⟩
 have o33:CB (cL 38 [] [.dead,.dead,.dead,.lst (Ai (m.dset.map m.fi)),.lst (Hb m)] (DN (B5 (JB 15)) 0)) (m.less.funcs.map Bn) (Hb m):=by
  have e:Hb m=m.less.funcs.map λf=>AX f.body:=by
   show _=((m.own.map m.fn).map (Df m)).map λf=>AX f.body;rw[C5,C5];rfl
  have c:=De (B:=cL 38 [] [.dead,.dead,.dead,.lst (Ai (m.dset.map m.fi)),.lst (Hb m)] (DN (B5 (JB 15)) 0)) Bn (λf=>AX f.body) m.less.funcs λa x=>⟨[],kc (tr [AO.dead,.dead,.dead,.lst (Ai (m.dset.map m.fi)),.lst (Hb m)] (some (AX a.body))) (by kernel_rfl)⟩
  rw[<- e]at c;exact c
 have o34:(Bw 20 (Ak (Hb m)) (Ak (Hb m))).map (!·)=some false:=Oe (all_map (p:=flat 19) λi x=>Ao0 16 _);have o35:=Aao 15 m.less z';rw[AoU z]at o35;have o36:=ZZ 17 m.less;have o37:=KA _ _ (AaX m.less);have o38:=KA _ _ (AaX m);have loop:=Ao7 is m h (.none);have o20b:some (small ((Ai (As m.ik.length)++Ai m.dset).length+(Ai m.start.toList).length))=some true:=Ca (by
  have hc:(Ai m.start.toList).length<=1:=by
   rw[Cu];rcases m.start with _ | s
   ·exact GG _
   ·exact AM _
  rw[Bl,Cu,Cu,BY];exact Ad2 hM hds hc)
 refine⟨Ao9 m (Of is m .none),kc (Ae hv (Ae o2 (Ae o3 (Ae o4 (Ae o5 (Ae o6 (Ae o7 (Ae o8 (Ae o9 (Ae o10 (Ae o11 (Ae o12 (Ae o13 (Ae o14 (Ae o16 (Ae o17 (Ae loop (Ae o5 (Ae o20 (Ae o20b (Ae o21 (Ae o22 (Ae o23 (Ae o24 (Ae o25 (Ae o26 (Ae o27 (Ae o28 (Ae o29 (Ae o30 (Ae o31 (Ae o32 (Ae o33 (Ae o34 (Ae o35 (Ae o36 (Ae o36 (Ae o37 (Ae o2 (Ae o38 (Bi (BZ.ret (Vf (.bool true)))))))))))))))))))))))))))))))))))))))))))) ?_⟩;clear o20b loop o38 o37 o36 o35 o34 o33 o32 o31 o30 o29 o28 o27 o26 o25 o24 o23 o22 o21 o20 o17 o16 o14 o13 o12 o11 o10 o9 o8 o7 o6 o5 o4 o3 o2 hmn hc hgk hfk hds hN hM z' z hv h;rcases m with⟨ki,im,fu,gl,ex,start,el⟩
 rcases start with _ | s
 ·kernel_rfl
 ·kernel_rfl
theorem Aa0(N:Nat)(z:Int):Bh [Dd N z,.fin]=Cf [Dd N z,.fin]:=by
 unfold Dd
 split<;>rfl
theorem Apb(N:Nat)(z:Int):∀(j:Nat) (b:List Ba),b∈Fx N z j->Bh b=Cf b:=by
 intro z1
 induction z1 with
 | zero =>
  intro z2 h;exact nomatch h
 | succ j ih =>
  intro b h;exact(BM.mp h).elim (ih b) λh=>by rw[Cx.mp h];exact Aa0 _ _
theorem Apc(is:List Int):(GD is).Law where
 toWf:=Aaz is
 g:=λg h=>by
  refine Ah (CN.mp h) ?_;rintro a _ ha;unfold Ek at ha
  split at ha
  ·rw[Cx.mp ha];exact Aa0 _ _
  ·rcases ha with⟨⟩
 e:=λe h b hb=>by
  refine Ah (CN.mp h) ?_;rintro a _ ha;unfold Fy at ha
  split at ha
  ·rw[Cx.mp ha]at hb;exact Apb _ _ _ b hb
  ·rcases ha with⟨⟩
 hk:=rfl
 hi:=by rw[LY,Ur]
 hM:=by rw[LY];exact N6 is
 hg:=by
  rw[LY];show(Kv (DQ is)).filterMap Dn.gl=_;have:=N6 is
  generalize DQ is=M at this
  rcases LP this with rfl | rfl | rfl
  ·rfl
  ·rfl
  ·rfl
theorem lawAll(K:Bk)(F:B3 K)(is:List Int)(hl:is.length<=63):PM K is:=by
 have hv:=An6 17 is hl;unfold AaA at hv;rw[<- LY is,Aom]at hv;refine AK (Apa is hl (GD is) (Apc is) hv) ?_;rintro as h;exact AoZ F hl as h
section
set_option maxHeartbeats 1000000
theorem okR:(chainsOk qv && opensWell PySem.Challenge.rw_pb0609_01.row.prog && (frees PySem.Challenge.rw_pb0609_01.row.toRowW && PySem.Challenge.rw_pb0609_01.row.within.isEmpty))=true:=by kernel_rfl
theorem holds_of(law:∀K,B3 K->∀is:List Int,is.length<=63->PM K is):PySem.Challenge.rw_pb0609_01.Holds :=
 holds_law Ac7 λk1=>holds_open (r:=PySem.Challenge.rw_pb0609_01.row) (q:=qv) (loose:=GL) (Xt:=λz=>true) (XP:=λz z=>True) (Yf:=Mw) (Ya:=Mx) (YP:=λz h=>Nl h) (d:=BF.1) (kwd:=BF.2) (N:=7200)
  AcX Aj6 Aj7 (λz z=>trivial) (λz z z z z=>trivial) Aj0 Aj1 (by rw[YJ];exact Aj2) (λz z=>recFacts_nil rfl) rfl k1 okR ⟨rfl,rfl,rfl,rfl,rfl,by decide +kernel⟩ (by w_witness2) (Akn law)
end
end Mine.Internal
theorem PySem.Challenge.cw_pb0609_01_holds : PySem.Challenge.rw_pb0609_01.Holds := by
  exact Mine.Internal.holds_of Mine.Internal.lawAll
